import PyProof.Rows.All
import Wide.All
import OpenK.AllK
import Wide.FinOn
import PySem.Challenge.RW_on0201_01
set_option Elab.async false
set_option linter.all false

section
open PySem PySem.W PyProof.Rows PySem.Calls PySem.Spec
set_option Elab.async false
set_option backward.match.sparseCases false
set_option maxRecDepth 100000
set_option maxHeartbeats 8000000
namespace Mine
noncomputable abbrev pw : Program := PySem.Challenge.pw_on0201_01
noncomputable abbrev S (x : String) : Str := Str.ofString x
noncomputable def E (P : Params) (x : String) (t : Nat) (v : Value) : DictEntry := ⟨PyData.keyHash P (S x), .str (S x) t, v⟩
noncomputable def sAt (i : Nat) : Option Stmt := pw.main.body[i]?
noncomputable def cAt (i j : Nat) : Option Stmt := match pw.main.body[i]? with
  | some (.ClassDef _ _ _ b _ _ _ _ _ _ _) => b[j]?
  | _ => none
noncomputable def fO (st : Option Stmt) (qual pm : String) (pt : Nat) (dV : Value) (c : Addr) : Obj := match st with
  | some (.FunctionDef name args body _ _ _ scope _ _ _) => ⟨.type "function", none, .func { name, qualname := S qual, params := args, body := .stmts body, scope := scope, globals := mainGlobals, closure := [], defaults := dV, kwdefaults := .none, doc := .none, pyModule := .str (S pm) pt, annotations := none, code := .ref c, closureTuple := .none, builtins := builtinsNs }, #[]⟩
  | _ => default
noncomputable def gtabS : List (String × Option Value) := [
  ("law", some (.ref 1156)),
  ("_law_pool", some (.ref 1094)),
  ("_law_take", some (.ref 1101)),
  ("_law_one", some (.ref 1108)),
  ("_law_menu", some (.ref 1113)),
  ("_law_key", some (.ref 1118)),
  ("_law_drawn_key", some (.ref 1125)),
  ("_law_written", some (.ref 1132)),
  ("_law_stands_ahead", some (.ref 1139)),
  ("_law_due", some (.ref 1146)),
  ("_law_right", some (.ref 1151)),
  ("sorted_nodes", some (.ref 1044)),
  ("sorted_rows", some (.ref 1032)),
  ("merged", some (.ref 1027)),
  ("compared_rows", some (.ref 1020)),
  ("compared_sorting", some (.ref 1013)),
  ("compared_as_numbers", some (.ref 999)),
  ("compared_as_texts", some (.ref 1006)),
  ("sign_of_sorting", some (.ref 992)),
  ("value_of_key", some (.ref 1039)),
  ("evaluate", some (.ref 963)),
  ("of_binary", some (.ref 937)),
  ("as_number", some (.ref 224)),
  ("as_text", some (.ref 217)),
  ("read_number", some (.ref 164)),
  ("trimmed", some (.ref 150)),
  ("digits_end", some (.ref 143)),
  ("whole_of", some (.ref 157)),
  ("number_of", some (.ref 45)),
  ("common_divisor", some (.ref 30)),
  ("sign_of_numbers", some (.ref 37)),
  ("is_nan", some (.ref 52)),
  ("negated", some (.ref 59)),
  ("times", some (.ref 80)),
  ("reckoned", some (.ref 918)),
  ("write_number", some (.ref 172)),
  ("NAN", some (.ref 22)),
  ("DIGITS", some (.str (S "0123456789") 204)),
  ("SPACES_numbers", some (.str (S " \u0009\n\r") 202)),
  ("COMPARISONS", some (.ref 904)),
  ("Path", some (.ref 899)),
  ("Literal", some (.ref 703)),
  ("NumberNode", some (.ref 731)),
  ("VariableNode", some (.ref 759)),
  ("Call", some (.ref 787)),
  ("Binary", some (.ref 815)),
  ("Negated", some (.ref 843)),
  ("Filter", some (.ref 871)),
  ("Order", some (.ref 981)),
  ("Context", some (.ref 1083)),
  ("len", none),
  ("int", none),
  ("abs", none),
  ("max", none),
  ("min", none),
  ("range", none),
  ("isinstance", none),
  ("str", none),
  ("bool", none),
  ("tuple", none)]
noncomputable def gtab : List (Str × Option Value) := gtabS.map fun r => (S r.1, r.2)
noncomputable def Ks (P : Params) : Frag := [
  (1156, fO (sAt 166) "law" "law_on0201_01" 1719 .none 1155),
  (1155, ⟨(.type "code"), none, (.fields #[(.str (S "law") 1808), (.str (S "law") 1809), (.str (S "/claim/cut.py") 1810), (.int 899 0), (.int 1 0), (.int 0 0), (.int 0 0), (.int 3 0), (.ref 1152), (.bool true), (.int 181 0), (.ref 1153), .none, .none, .none, (.ref 1154), (.int 1811 0), (.int 899 0), (.str (S "/claim/cut.py") 1812)]), #[]⟩),
  (1094, fO (sAt 156) "_law_pool" "law_on0201_01" 1719 .none 1093),
  (1093, ⟨(.type "code"), none, (.fields #[(.str (S "_law_pool") 1721), (.str (S "_law_pool") 1722), (.str (S "/claim/cut.py") 1723), (.int 829 0), (.int 2 0), (.int 0 0), (.int 0 0), (.int 3 0), (.ref 1088), (.bool true), (.int 181 0), (.ref 1089), .none, (.ref 1090), (.ref 1091), (.ref 1092), (.int 1729 0), (.int 829 0), (.str (S "/claim/cut.py") 1730)]), #[]⟩),
  (1101, fO (sAt 157) "_law_take" "law_on0201_01" 1719 .none 1100),
  (1100, ⟨(.type "code"), none, (.fields #[(.str (S "_law_take") 1732), (.str (S "_law_take") 1733), (.str (S "/claim/cut.py") 1734), (.int 834 0), (.int 2 0), (.int 0 0), (.int 0 0), (.int 3 0), (.ref 1095), (.bool true), (.int 181 0), (.ref 1096), .none, (.ref 1097), (.ref 1098), (.ref 1099), (.int 1738 0), (.int 834 0), (.str (S "/claim/cut.py") 1739)]), #[]⟩),
  (1108, fO (sAt 158) "_law_one" "law_on0201_01" 1719 .none 1107),
  (1107, ⟨(.type "code"), none, (.fields #[(.str (S "_law_one") 1741), (.str (S "_law_one") 1742), (.str (S "/claim/cut.py") 1743), (.int 841 0), (.int 2 0), (.int 0 0), (.int 0 0), (.int 3 0), (.ref 1102), (.bool true), (.int 181 0), (.ref 1103), .none, (.ref 1104), (.ref 1105), (.ref 1106), (.int 1746 0), (.int 841 0), (.str (S "/claim/cut.py") 1747)]), #[]⟩),
  (1113, fO (sAt 159) "_law_menu" "law_on0201_01" 1719 .none 1112),
  (1112, ⟨(.type "code"), none, (.fields #[(.str (S "_law_menu") 1749), (.str (S "_law_menu") 1750), (.str (S "/claim/cut.py") 1751), (.int 843 0), (.int 0 0), (.int 0 0), (.int 0 0), (.int 3 0), (.ref 1109), (.bool true), (.int 181 0), (.ref 1110), .none, .none, .none, (.ref 1111), (.int 1752 0), (.int 843 0), (.str (S "/claim/cut.py") 1753)]), #[]⟩),
  (1118, fO (sAt 160) "_law_key" "law_on0201_01" 1719 .none 1117),
  (1117, ⟨(.type "code"), none, (.fields #[(.str (S "_law_key") 1755), (.str (S "_law_key") 1756), (.str (S "/claim/cut.py") 1757), (.int 849 0), (.int 2 0), (.int 0 0), (.int 0 0), (.int 3 0), (.ref 1114), (.bool true), (.int 181 0), (.ref 1115), .none, .none, .none, (.ref 1116), (.int 1758 0), (.int 849 0), (.str (S "/claim/cut.py") 1759)]), #[]⟩),
  (1125, fO (sAt 161) "_law_drawn_key" "law_on0201_01" 1719 .none 1124),
  (1124, ⟨(.type "code"), none, (.fields #[(.str (S "_law_drawn_key") 1761), (.str (S "_law_drawn_key") 1762), (.str (S "/claim/cut.py") 1763), (.int 858 0), (.int 1 0), (.int 0 0), (.int 0 0), (.int 3 0), (.ref 1119), (.bool true), (.int 181 0), (.ref 1120), .none, (.ref 1121), (.ref 1122), (.ref 1123), (.int 1767 0), (.int 858 0), (.str (S "/claim/cut.py") 1768)]), #[]⟩),
  (1132, fO (sAt 162) "_law_written" "law_on0201_01" 1719 .none 1131),
  (1131, ⟨(.type "code"), none, (.fields #[(.str (S "_law_written") 1770), (.str (S "_law_written") 1771), (.str (S "/claim/cut.py") 1772), (.int 866 0), (.int 1 0), (.int 0 0), (.int 0 0), (.int 3 0), (.ref 1126), (.bool true), (.int 181 0), (.ref 1127), .none, (.ref 1128), (.ref 1129), (.ref 1130), (.int 1775 0), (.int 866 0), (.str (S "/claim/cut.py") 1776)]), #[]⟩),
  (1139, fO (sAt 163) "_law_stands_ahead" "law_on0201_01" 1719 .none 1138),
  (1138, ⟨(.type "code"), none, (.fields #[(.str (S "_law_stands_ahead") 1778), (.str (S "_law_stands_ahead") 1779), (.str (S "/claim/cut.py") 1780), (.int 871 0), (.int 4 0), (.int 0 0), (.int 0 0), (.int 3 0), (.ref 1133), (.bool true), (.int 181 0), (.ref 1134), .none, (.ref 1135), (.ref 1136), (.ref 1137), (.int 1788 0), (.int 871 0), (.str (S "/claim/cut.py") 1789)]), #[]⟩),
  (1146, fO (sAt 164) "_law_due" "law_on0201_01" 1719 .none 1145),
  (1145, ⟨(.type "code"), none, (.fields #[(.str (S "_law_due") 1791), (.str (S "_law_due") 1792), (.str (S "/claim/cut.py") 1793), (.int 877 0), (.int 2 0), (.int 0 0), (.int 0 0), (.int 3 0), (.ref 1140), (.bool true), (.int 181 0), (.ref 1141), .none, (.ref 1142), (.ref 1143), (.ref 1144), (.int 1799 0), (.int 877 0), (.str (S "/claim/cut.py") 1800)]), #[]⟩),
  (1151, fO (sAt 165) "_law_right" "law_on0201_01" 1719 .none 1150),
  (1150, ⟨(.type "code"), none, (.fields #[(.str (S "_law_right") 1802), (.str (S "_law_right") 1803), (.str (S "/claim/cut.py") 1804), (.int 885 0), (.int 3 0), (.int 0 0), (.int 0 0), (.int 3 0), (.ref 1147), (.bool true), (.int 181 0), (.ref 1148), .none, .none, .none, (.ref 1149), (.int 1805 0), (.int 885 0), (.str (S "/claim/cut.py") 1806)]), #[]⟩),
  (1044, fO (sAt 152) "sorted_nodes" "markupmill.sorting" 1526 .none 1043),
  (1043, ⟨(.type "code"), none, (.fields #[(.str (S "sorted_nodes") 1638), (.str (S "sorted_nodes") 1639), (.str (S "/claim/cut.py") 1640), (.int 796 0), (.int 3 0), (.int 0 0), (.int 0 0), (.int 3 0), (.ref 1040), (.bool true), (.int 181 0), (.ref 1041), .none, .none, .none, (.ref 1042), (.int 1641 0), (.int 796 0), (.str (S "/claim/cut.py") 1642)]), #[]⟩),
  (1032, fO (sAt 150) "sorted_rows" "markupmill.sorting" 1526 .none 1031),
  (1031, ⟨(.type "code"), none, (.fields #[(.str (S "sorted_rows") 1622), (.str (S "sorted_rows") 1623), (.str (S "/claim/cut.py") 1624), (.int 781 0), (.int 2 0), (.int 0 0), (.int 0 0), (.int 3 0), (.ref 1028), (.bool true), (.int 181 0), (.ref 1029), .none, .none, .none, (.ref 1030), (.int 1625 0), (.int 781 0), (.str (S "/claim/cut.py") 1626)]), #[]⟩),
  (1027, fO (sAt 149) "merged" "markupmill.sorting" 1526 .none 1026),
  (1026, ⟨(.type "code"), none, (.fields #[(.str (S "merged") 1610), (.str (S "merged") 1611), (.str (S "/claim/cut.py") 1612), (.int 769 0), (.int 3 0), (.int 0 0), (.int 0 0), (.int 3 0), (.ref 1021), (.bool true), (.int 181 0), (.ref 1022), .none, (.ref 1023), (.ref 1024), (.ref 1025), (.int 1619 0), (.int 769 0), (.str (S "/claim/cut.py") 1620)]), #[]⟩),
  (1020, fO (sAt 148) "compared_rows" "markupmill.sorting" 1526 .none 1019),
  (1019, ⟨(.type "code"), none, (.fields #[(.str (S "compared_rows") 1599), (.str (S "compared_rows") 1600), (.str (S "/claim/cut.py") 1601), (.int 763 0), (.int 3 0), (.int 0 0), (.int 0 0), (.int 3 0), (.ref 1014), (.bool true), (.int 181 0), (.ref 1015), .none, (.ref 1016), (.ref 1017), (.ref 1018), (.int 1607 0), (.int 763 0), (.str (S "/claim/cut.py") 1608)]), #[]⟩),
  (1013, fO (sAt 146) "compared" "markupmill.sorting" 1526 .none 1012),
  (1012, ⟨(.type "code"), none, (.fields #[(.str (S "compared") 1588), (.str (S "compared") 1589), (.str (S "/claim/cut.py") 1590), (.int 756 0), (.int 3 0), (.int 0 0), (.int 0 0), (.int 3 0), (.ref 1007), (.bool true), (.int 181 0), (.ref 1008), .none, (.ref 1009), (.ref 1010), (.ref 1011), (.int 1595 0), (.int 756 0), (.str (S "/claim/cut.py") 1596)]), #[]⟩),
  (999, fO (sAt 144) "compared_as_numbers" "markupmill.sorting" 1526 .none 998),
  (998, ⟨(.type "code"), none, (.fields #[(.str (S "compared_as_numbers") 1570), (.str (S "compared_as_numbers") 1571), (.str (S "/claim/cut.py") 1572), (.int 743 0), (.int 2 0), (.int 0 0), (.int 0 0), (.int 3 0), (.ref 993), (.bool true), (.int 181 0), (.ref 994), .none, (.ref 995), (.ref 996), (.ref 997), (.int 1575 0), (.int 743 0), (.str (S "/claim/cut.py") 1576)]), #[]⟩),
  (1006, fO (sAt 145) "compared_as_texts" "markupmill.sorting" 1526 .none 1005),
  (1005, ⟨(.type "code"), none, (.fields #[(.str (S "compared_as_texts") 1578), (.str (S "compared_as_texts") 1579), (.str (S "/claim/cut.py") 1580), (.int 749 0), (.int 3 0), (.int 0 0), (.int 0 0), (.int 3 0), (.ref 1000), (.bool true), (.int 181 0), (.ref 1001), .none, (.ref 1002), (.ref 1003), (.ref 1004), (.int 1585 0), (.int 749 0), (.str (S "/claim/cut.py") 1586)]), #[]⟩),
  (992, fO (sAt 142) "sign_of" "markupmill.sorting" 1526 .none 991),
  (991, ⟨(.type "code"), none, (.fields #[(.str (S "sign_of") 1561), (.str (S "sign_of") 1562), (.str (S "/claim/cut.py") 1563), (.int 738 0), (.int 2 0), (.int 0 0), (.int 0 0), (.int 3 0), (.ref 986), (.bool true), (.int 181 0), (.ref 987), .none, (.ref 988), (.ref 989), (.ref 990), (.int 1566 0), (.int 738 0), (.str (S "/claim/cut.py") 1567)]), #[]⟩),
  (1039, fO (sAt 151) "value_of_key" "markupmill.sorting" 1526 .none 1038),
  (1038, ⟨(.type "code"), none, (.fields #[(.str (S "value_of_key") 1628), (.str (S "value_of_key") 1629), (.str (S "/claim/cut.py") 1630), (.int 791 0), (.int 3 0), (.int 0 0), (.int 0 0), (.int 3 0), (.ref 1033), (.bool true), (.int 181 0), (.ref 1034), .none, (.ref 1035), (.ref 1036), (.ref 1037), (.int 1635 0), (.int 791 0), (.str (S "/claim/cut.py") 1636)]), #[]⟩),
  (963, fO (sAt 139) "evaluate" "markupmill.evaluate" 1441 .none 962),
  (962, ⟨(.type "code"), none, (.fields #[(.str (S "evaluate") 1518), (.str (S "evaluate") 1519), (.str (S "/claim/cut.py") 1520), (.int 715 0), (.int 2 0), (.int 0 0), (.int 0 0), (.int 3 0), (.ref 957), (.bool true), (.int 181 0), (.ref 958), .none, (.ref 959), (.ref 960), (.ref 961), (.int 1523 0), (.int 715 0), (.str (S "/claim/cut.py") 1524)]), #[]⟩),
  (937, fO (sAt 135) "of_binary" "markupmill.evaluate" 1441 .none 936),
  (936, ⟨(.type "code"), none, (.fields #[(.str (S "of_binary") 1481), (.str (S "of_binary") 1482), (.str (S "/claim/cut.py") 1483), (.int 683 0), (.int 2 0), (.int 0 0), (.int 0 0), (.int 3 0), (.ref 931), (.bool true), (.int 181 0), (.ref 932), .none, (.ref 933), (.ref 934), (.ref 935), (.int 1490 0), (.int 683 0), (.str (S "/claim/cut.py") 1491)]), #[]⟩),
  (224, fO (sAt 37) "as_number" "markupmill.compare" 447 .none 223),
  (223, ⟨(.type "code"), none, (.fields #[(.str (S "as_number") 457), (.str (S "as_number") 458), (.str (S "/claim/cut.py") 459), (.int 184 0), (.int 2 0), (.int 0 0), (.int 0 0), (.int 3 0), (.ref 218), (.bool true), (.int 181 0), (.ref 219), .none, (.ref 220), (.ref 221), (.ref 222), (.int 462 0), (.int 184 0), (.str (S "/claim/cut.py") 463)]), #[]⟩),
  (217, fO (sAt 36) "as_text" "markupmill.compare" 447 .none 216),
  (216, ⟨(.type "code"), none, (.fields #[(.str (S "as_text") 449), (.str (S "as_text") 450), (.str (S "/claim/cut.py") 451), (.int 176 0), (.int 2 0), (.int 0 0), (.int 0 0), (.int 3 0), (.ref 211), (.bool true), (.int 181 0), (.ref 212), .none, (.ref 213), (.ref 214), (.ref 215), (.int 454 0), (.int 176 0), (.str (S "/claim/cut.py") 455)]), #[]⟩),
  (164, fO (sAt 26) "read_number" "markupmill.numbers" 194 .none 163),
  (163, ⟨(.type "code"), none, (.fields #[(.str (S "read_number") 362), (.str (S "read_number") 363), (.str (S "/claim/cut.py") 364), (.int 111 0), (.int 1 0), (.int 0 0), (.int 0 0), (.int 3 0), (.ref 158), (.bool true), (.int 181 0), (.ref 159), .none, (.ref 160), (.ref 161), (.ref 162), (.int 373 0), (.int 111 0), (.str (S "/claim/cut.py") 374)]), #[]⟩),
  (150, fO (sAt 24) "trimmed" "markupmill.numbers" 194 .none 149),
  (149, ⟨(.type "code"), none, (.fields #[(.str (S "trimmed") 344), (.str (S "trimmed") 345), (.str (S "/claim/cut.py") 346), (.int 99 0), (.int 1 0), (.int 0 0), (.int 0 0), (.int 3 0), (.ref 144), (.bool true), (.int 181 0), (.ref 145), .none, (.ref 146), (.ref 147), (.ref 148), (.int 350 0), (.int 99 0), (.str (S "/claim/cut.py") 351)]), #[]⟩),
  (143, fO (sAt 23) "digits_end" "markupmill.numbers" 194 .none 142),
  (142, ⟨(.type "code"), none, (.fields #[(.str (S "digits_end") 336), (.str (S "digits_end") 337), (.str (S "/claim/cut.py") 338), (.int 95 0), (.int 2 0), (.int 0 0), (.int 0 0), (.int 3 0), (.ref 137), (.bool true), (.int 181 0), (.ref 138), .none, (.ref 139), (.ref 140), (.ref 141), (.int 341 0), (.int 95 0), (.str (S "/claim/cut.py") 342)]), #[]⟩),
  (157, fO (sAt 25) "whole_of" "markupmill.numbers" 194 .none 156),
  (156, ⟨(.type "code"), none, (.fields #[(.str (S "whole_of") 353), (.str (S "whole_of") 354), (.str (S "/claim/cut.py") 355), (.int 106 0), (.int 1 0), (.int 0 0), (.int 0 0), (.int 3 0), (.ref 151), (.bool true), (.int 181 0), (.ref 152), .none, (.ref 153), (.ref 154), (.ref 155), (.int 359 0), (.int 106 0), (.str (S "/claim/cut.py") 360)]), #[]⟩),
  (45, fO (sAt 9) "number_of" "markupmill.numbers" 194 (.ref 38) 44),
  (44, ⟨(.type "code"), none, (.fields #[(.str (S "number_of") 225), (.str (S "number_of") 226), (.str (S "/claim/cut.py") 227), (.int 21 0), (.int 2 0), (.int 0 0), (.int 0 0), (.int 3 0), (.ref 39), (.bool true), (.int 181 0), (.ref 40), .none, (.ref 41), (.ref 42), (.ref 43), (.int 231 0), (.int 21 0), (.str (S "/claim/cut.py") 232)]), #[]⟩),
  (38, ⟨(.type "tuple"), none, (.seq #[(.int 1 224)] 0), #[]⟩),
  (30, fO (sAt 6) "common_divisor" "markupmill.numbers" 194 .none 29),
  (29, ⟨(.type "code"), none, (.fields #[(.str (S "common_divisor") 206), (.str (S "common_divisor") 207), (.str (S "/claim/cut.py") 208), (.int 9 0), (.int 2 0), (.int 0 0), (.int 0 0), (.int 3 0), (.ref 24), (.bool true), (.int 181 0), (.ref 25), .none, (.ref 26), (.ref 27), (.ref 28), (.int 213 0), (.int 9 0), (.str (S "/claim/cut.py") 214)]), #[]⟩),
  (37, fO (sAt 7) "sign_of" "markupmill.numbers" 194 .none 36),
  (36, ⟨(.type "code"), none, (.fields #[(.str (S "sign_of") 216), (.str (S "sign_of") 217), (.str (S "/claim/cut.py") 218), (.int 14 0), (.int 1 0), (.int 0 0), (.int 0 0), (.int 3 0), (.ref 31), (.bool true), (.int 181 0), (.ref 32), .none, (.ref 33), (.ref 34), (.ref 35), (.int 220 0), (.int 14 0), (.str (S "/claim/cut.py") 221)]), #[]⟩),
  (52, fO (sAt 10) "is_nan" "markupmill.numbers" 194 .none 51),
  (51, ⟨(.type "code"), none, (.fields #[(.str (S "is_nan") 234), (.str (S "is_nan") 235), (.str (S "/claim/cut.py") 236), (.int 28 0), (.int 1 0), (.int 0 0), (.int 0 0), (.int 3 0), (.ref 46), (.bool true), (.int 181 0), (.ref 47), .none, (.ref 48), (.ref 49), (.ref 50), (.int 238 0), (.int 28 0), (.str (S "/claim/cut.py") 239)]), #[]⟩),
  (59, fO (sAt 11) "negated" "markupmill.numbers" 194 .none 58),
  (58, ⟨(.type "code"), none, (.fields #[(.str (S "negated") 241), (.str (S "negated") 242), (.str (S "/claim/cut.py") 243), (.int 30 0), (.int 1 0), (.int 0 0), (.int 0 0), (.int 3 0), (.ref 53), (.bool true), (.int 181 0), (.ref 54), .none, (.ref 55), (.ref 56), (.ref 57), (.int 245 0), (.int 30 0), (.str (S "/claim/cut.py") 246)]), #[]⟩),
  (80, fO (sAt 14) "times" "markupmill.numbers" 194 .none 79),
  (79, ⟨(.type "code"), none, (.fields #[(.str (S "times") 264), (.str (S "times") 265), (.str (S "/claim/cut.py") 266), (.int 44 0), (.int 2 0), (.int 0 0), (.int 0 0), (.int 3 0), (.ref 74), (.bool true), (.int 181 0), (.ref 75), .none, (.ref 76), (.ref 77), (.ref 78), (.int 269 0), (.int 44 0), (.str (S "/claim/cut.py") 270)]), #[]⟩),
  (918, fO (sAt 132) "reckoned" "markupmill.evaluate" 1441 .none 917),
  (917, ⟨(.type "code"), none, (.fields #[(.str (S "reckoned") 1457), (.str (S "reckoned") 1458), (.str (S "/claim/cut.py") 1459), (.int 668 0), (.int 3 0), (.int 0 0), (.int 0 0), (.int 3 0), (.ref 912), (.bool true), (.int 181 0), (.ref 913), .none, (.ref 914), (.ref 915), (.ref 916), (.int 1463 0), (.int 668 0), (.str (S "/claim/cut.py") 1464)]), #[]⟩),
  (172, fO (sAt 27) "write_number" "markupmill.numbers" 194 (.ref 165) 171),
  (171, ⟨(.type "code"), none, (.fields #[(.str (S "write_number") 377), (.str (S "write_number") 378), (.str (S "/claim/cut.py") 379), (.int 124 0), (.int 2 0), (.int 0 0), (.int 0 0), (.int 3 0), (.ref 166), (.bool true), (.int 181 0), (.ref 167), .none, (.ref 168), (.ref 169), (.ref 170), (.int 388 0), (.int 124 0), (.str (S "/claim/cut.py") 389)]), #[]⟩),
  (165, ⟨(.type "tuple"), none, (.seq #[(.int 15 376)] 0), #[]⟩),
  (978, fO (cAt 141 0) "Order.__init__" "markupmill.sorting" 1526 (.ref 971) 977),
  (977, ⟨(.type "code"), none, (.fields #[(.str (S "__init__") 1540), (.str (S "Order.__init__") 1541), (.str (S "/claim/cut.py") 1542), (.int 734 0), (.int 4 0), (.int 0 0), (.int 0 0), (.int 3 0), (.ref 972), (.bool true), (.int 181 0), (.ref 973), .none, (.ref 974), (.ref 975), (.ref 976), (.int 1547 0), (.int 734 0), (.str (S "/claim/cut.py") 1548)]), #[]⟩),
  (971, ⟨(.type "tuple"), none, (.seq #[(.bool false), (.bool false), .none] 0), #[]⟩),
  (749, fO (cAt 123 0) "VariableNode.__init__" "markupmill.xpath_nodes" 1134 .none 748),
  (748, ⟨(.type "code"), none, (.fields #[(.str (S "__init__") 1226), (.str (S "VariableNode.__init__") 1227), (.str (S "/claim/cut.py") 1228), (.int 614 0), (.int 2 0), (.int 0 0), (.int 0 0), (.int 3 0), (.ref 743), (.bool true), (.int 181 0), (.ref 744), .none, (.ref 745), (.ref 746), (.ref 747), (.int 1231 0), (.int 614 0), (.str (S "/claim/cut.py") 1232)]), #[]⟩),
  (721, fO (cAt 122 0) "NumberNode.__init__" "markupmill.xpath_nodes" 1134 .none 720),
  (720, ⟨(.type "code"), none, (.fields #[(.str (S "__init__") 1190), (.str (S "NumberNode.__init__") 1191), (.str (S "/claim/cut.py") 1192), (.int 607 0), (.int 2 0), (.int 0 0), (.int 0 0), (.int 3 0), (.ref 715), (.bool true), (.int 181 0), (.ref 716), .none, (.ref 717), (.ref 718), (.ref 719), (.int 1195 0), (.int 607 0), (.str (S "/claim/cut.py") 1196)]), #[]⟩),
  (805, fO (cAt 125 0) "Binary.__init__" "markupmill.xpath_nodes" 1134 .none 804),
  (804, ⟨(.type "code"), none, (.fields #[(.str (S "__init__") 1300), (.str (S "Binary.__init__") 1301), (.str (S "/claim/cut.py") 1302), (.int 629 0), (.int 4 0), (.int 0 0), (.int 0 0), (.int 3 0), (.ref 799), (.bool true), (.int 181 0), (.ref 800), .none, (.ref 801), (.ref 802), (.ref 803), (.int 1307 0), (.int 629 0), (.str (S "/claim/cut.py") 1308)]), #[]⟩),
  (1059, fO (cAt 154 0) "Context.__init__" "markupmill.context" 1644 (.ref 1052) 1058),
  (1058, ⟨(.type "code"), none, (.fields #[(.str (S "__init__") 1660), (.str (S "Context.__init__") 1661), (.str (S "/claim/cut.py") 1662), (.int 807 0), (.int 10 0), (.int 0 0), (.int 0 0), (.int 3 0), (.ref 1053), (.bool true), (.int 181 0), (.ref 1054), .none, (.ref 1055), (.ref 1056), (.ref 1057), (.int 1673 0), (.int 807 0), (.str (S "/claim/cut.py") 1674)]), #[]⟩),
  (1052, ⟨(.type "tuple"), none, (.seq #[(.int 1 1658), (.int 1 1659), .none, .none, .none, .none, .none] 0), #[]⟩),
  (1073, fO (cAt 154 2) "Context.variable" "markupmill.context" 1644 .none 1072),
  (1072, ⟨(.type "code"), none, (.fields #[(.str (S "variable") 1686), (.str (S "Context.variable") 1687), (.str (S "/claim/cut.py") 1688), (.int 821 0), (.int 2 0), (.int 0 0), (.int 0 0), (.int 3 0), (.ref 1067), (.bool true), (.int 181 0), (.ref 1068), .none, (.ref 1069), (.ref 1070), (.ref 1071), (.int 1691 0), (.int 821 0), (.str (S "/claim/cut.py") 1692)]), #[]⟩),
  (22, ⟨(.type "tuple"), none, (.seq #[(.int 0 196), (.int 0 197)] 0), #[]⟩),
  (904, ⟨(.type "tuple"), none, (.seq #[(.str (S "=") 1443), (.str (S "!=") 1444), (.str (S "<") 1445), (.str (S "<=") 1446), (.str (S ">") 1447), (.str (S ">=") 1448)] 0), #[]⟩),
  (899, ⟨(.type "type"), none, (.cls { name := (S "Path"), bases := [(.type "object")], mro := [(.ref 899), (.type "object")], ns := 898, qualname := (S "Path"), hasDict := true, slotNames := [], subclasses := [], abstract := false, collection := none, hasDel := false }), #[none, none, (some (.str (S "Path") 1402)), (some (.str (S "Path") 1410)), (some (.builtin "object.__new__")), (some (.bool true))]⟩),
  (898, ⟨(.type "dict"), none, (.dict #[(E P "__module__" 1409 (.str (S "markupmill.xpath_nodes") 1134)), (E P "__firstlineno__" 1413 (.int 651 1412)), (E P "__init__" 1422 (.ref 889)), (E P "row" 1430 (.ref 896)), (E P "__static_attributes__" 1433 (.ref 897)), (E P "__dict__" 1435 (.ref 900)), (E P "__weakref__" 1437 (.ref 901)), (E P "__doc__" 1438 .none)] 4), #[]⟩),
  (703, ⟨(.type "type"), none, (.cls { name := (S "Literal"), bases := [(.type "object")], mro := [(.ref 703), (.type "object")], ns := 702, qualname := (S "Literal"), hasDict := true, slotNames := [], subclasses := [], abstract := false, collection := none, hasDel := false }), #[none, none, (some (.str (S "Literal") 1142)), (some (.str (S "Literal") 1150)), (some (.builtin "object.__new__")), (some (.bool true))]⟩),
  (702, ⟨(.type "dict"), none, (.dict #[(E P "__module__" 1149 (.str (S "markupmill.xpath_nodes") 1134)), (E P "__firstlineno__" 1153 (.int 598 1152)), (E P "__init__" 1161 (.ref 693)), (E P "row" 1168 (.ref 700)), (E P "__static_attributes__" 1170 (.ref 701)), (E P "__dict__" 1172 (.ref 704)), (E P "__weakref__" 1174 (.ref 705)), (E P "__doc__" 1175 .none)] 4), #[]⟩),
  (731, ⟨(.type "type"), none, (.cls { name := (S "NumberNode"), bases := [(.type "object")], mro := [(.ref 731), (.type "object")], ns := 730, qualname := (S "NumberNode"), hasDict := true, slotNames := [], subclasses := [], abstract := false, collection := none, hasDel := false }), #[none, none, (some (.str (S "NumberNode") 1178)), (some (.str (S "NumberNode") 1186)), (some (.builtin "object.__new__")), (some (.bool true))]⟩),
  (730, ⟨(.type "dict"), none, (.dict #[(E P "__module__" 1185 (.str (S "markupmill.xpath_nodes") 1134)), (E P "__firstlineno__" 1189 (.int 605 1188)), (E P "__init__" 1197 (.ref 721)), (E P "row" 1204 (.ref 728)), (E P "__static_attributes__" 1206 (.ref 729)), (E P "__dict__" 1208 (.ref 732)), (E P "__weakref__" 1210 (.ref 733)), (E P "__doc__" 1211 .none)] 4), #[]⟩),
  (759, ⟨(.type "type"), none, (.cls { name := (S "VariableNode"), bases := [(.type "object")], mro := [(.ref 759), (.type "object")], ns := 758, qualname := (S "VariableNode"), hasDict := true, slotNames := [], subclasses := [], abstract := false, collection := none, hasDel := false }), #[none, none, (some (.str (S "VariableNode") 1214)), (some (.str (S "VariableNode") 1222)), (some (.builtin "object.__new__")), (some (.bool true))]⟩),
  (758, ⟨(.type "dict"), none, (.dict #[(E P "__module__" 1221 (.str (S "markupmill.xpath_nodes") 1134)), (E P "__firstlineno__" 1225 (.int 612 1224)), (E P "__init__" 1233 (.ref 749)), (E P "row" 1240 (.ref 756)), (E P "__static_attributes__" 1242 (.ref 757)), (E P "__dict__" 1244 (.ref 760)), (E P "__weakref__" 1246 (.ref 761)), (E P "__doc__" 1247 .none)] 4), #[]⟩),
  (787, ⟨(.type "type"), none, (.cls { name := (S "Call"), bases := [(.type "object")], mro := [(.ref 787), (.type "object")], ns := 786, qualname := (S "Call"), hasDict := true, slotNames := [], subclasses := [], abstract := false, collection := none, hasDel := false }), #[none, none, (some (.str (S "Call") 1250)), (some (.str (S "Call") 1258)), (some (.builtin "object.__new__")), (some (.bool true))]⟩),
  (786, ⟨(.type "dict"), none, (.dict #[(E P "__module__" 1257 (.str (S "markupmill.xpath_nodes") 1134)), (E P "__firstlineno__" 1261 (.int 619 1260)), (E P "__init__" 1270 (.ref 777)), (E P "row" 1277 (.ref 784)), (E P "__static_attributes__" 1280 (.ref 785)), (E P "__dict__" 1282 (.ref 788)), (E P "__weakref__" 1284 (.ref 789)), (E P "__doc__" 1285 .none)] 4), #[]⟩),
  (815, ⟨(.type "type"), none, (.cls { name := (S "Binary"), bases := [(.type "object")], mro := [(.ref 815), (.type "object")], ns := 814, qualname := (S "Binary"), hasDict := true, slotNames := [], subclasses := [], abstract := false, collection := none, hasDel := false }), #[none, none, (some (.str (S "Binary") 1288)), (some (.str (S "Binary") 1296)), (some (.builtin "object.__new__")), (some (.bool true))]⟩),
  (814, ⟨(.type "dict"), none, (.dict #[(E P "__module__" 1295 (.str (S "markupmill.xpath_nodes") 1134)), (E P "__firstlineno__" 1299 (.int 627 1298)), (E P "__init__" 1309 (.ref 805)), (E P "row" 1316 (.ref 812)), (E P "__static_attributes__" 1320 (.ref 813)), (E P "__dict__" 1322 (.ref 816)), (E P "__weakref__" 1324 (.ref 817)), (E P "__doc__" 1325 .none)] 4), #[]⟩),
  (843, ⟨(.type "type"), none, (.cls { name := (S "Negated"), bases := [(.type "object")], mro := [(.ref 843), (.type "object")], ns := 842, qualname := (S "Negated"), hasDict := true, slotNames := [], subclasses := [], abstract := false, collection := none, hasDel := false }), #[none, none, (some (.str (S "Negated") 1328)), (some (.str (S "Negated") 1336)), (some (.builtin "object.__new__")), (some (.bool true))]⟩),
  (842, ⟨(.type "dict"), none, (.dict #[(E P "__module__" 1335 (.str (S "markupmill.xpath_nodes") 1134)), (E P "__firstlineno__" 1339 (.int 636 1338)), (E P "__init__" 1347 (.ref 833)), (E P "row" 1354 (.ref 840)), (E P "__static_attributes__" 1356 (.ref 841)), (E P "__dict__" 1358 (.ref 844)), (E P "__weakref__" 1360 (.ref 845)), (E P "__doc__" 1361 .none)] 4), #[]⟩),
  (871, ⟨(.type "type"), none, (.cls { name := (S "Filter"), bases := [(.type "object")], mro := [(.ref 871), (.type "object")], ns := 870, qualname := (S "Filter"), hasDict := true, slotNames := [], subclasses := [], abstract := false, collection := none, hasDel := false }), #[none, none, (some (.str (S "Filter") 1364)), (some (.str (S "Filter") 1372)), (some (.builtin "object.__new__")), (some (.bool true))]⟩),
  (870, ⟨(.type "dict"), none, (.dict #[(E P "__module__" 1371 (.str (S "markupmill.xpath_nodes") 1134)), (E P "__firstlineno__" 1375 (.int 643 1374)), (E P "__init__" 1384 (.ref 861)), (E P "row" 1391 (.ref 868)), (E P "__static_attributes__" 1394 (.ref 869)), (E P "__dict__" 1396 (.ref 872)), (E P "__weakref__" 1398 (.ref 873)), (E P "__doc__" 1399 .none)] 4), #[]⟩),
  (981, ⟨(.type "type"), none, (.cls { name := (S "Order"), bases := [(.type "object")], mro := [(.ref 981), (.type "object")], ns := 980, qualname := (S "Order"), hasDict := true, slotNames := [], subclasses := [], abstract := false, collection := none, hasDel := false }), #[none, none, (some (.str (S "Order") 1528)), (some (.str (S "Order") 1536)), (some (.builtin "object.__new__")), (some (.bool true))]⟩),
  (980, ⟨(.type "dict"), none, (.dict #[(E P "__module__" 1535 (.str (S "markupmill.sorting") 1526)), (E P "__firstlineno__" 1539 (.int 732 1538)), (E P "__init__" 1549 (.ref 978)), (E P "__static_attributes__" 1553 (.ref 979)), (E P "__dict__" 1555 (.ref 982)), (E P "__weakref__" 1557 (.ref 983)), (E P "__doc__" 1558 .none)] 4), #[]⟩),
  (1083, ⟨(.type "type"), none, (.cls { name := (S "Context"), bases := [(.type "object")], mro := [(.ref 1083), (.type "object")], ns := 1082, qualname := (S "Context"), hasDict := true, slotNames := [], subclasses := [], abstract := false, collection := none, hasDel := false }), #[none, none, (some (.str (S "Context") 1646)), (some (.str (S "Context") 1654)), (some (.builtin "object.__new__")), (some (.bool true))]⟩),
  (1082, ⟨(.type "dict"), none, (.dict #[(E P "__module__" 1653 (.str (S "markupmill.context") 1644)), (E P "__firstlineno__" 1657 (.int 805 1656)), (E P "__init__" 1675 (.ref 1059)), (E P "at" 1685 (.ref 1066)), (E P "variable" 1693 (.ref 1073)), (E P "uri_of" 1701 (.ref 1080)), (E P "__static_attributes__" 1711 (.ref 1081)), (E P "__dict__" 1713 (.ref 1084)), (E P "__weakref__" 1715 (.ref 1085)), (E P "__doc__" 1716 .none)] 4), #[]⟩)]
noncomputable def kas : List Addr := [1156, 1155, 1094, 1093, 1101, 1100, 1108, 1107, 1113, 1112, 1118, 1117, 1125, 1124, 1132, 1131, 1139, 1138, 1146, 1145, 1151, 1150, 1044, 1043, 1032, 1031, 1027, 1026, 1020, 1019, 1013, 1012, 999, 998, 1006, 1005, 992, 991, 1039, 1038, 963, 962, 937, 936, 224, 223, 217, 216, 164, 163, 150, 149, 143, 142, 157, 156, 45, 44, 38, 30, 29, 37, 36, 52, 51, 59, 58, 80, 79, 918, 917, 172, 171, 165, 978, 977, 971, 749, 748, 721, 720, 805, 804, 1059, 1058, 1052, 1073, 1072, 22, 904, 899, 898, 703, 702, 731, 730, 759, 758, 787, 786, 815, 814, 843, 842, 871, 870, 981, 980, 1083, 1082]

noncomputable abbrev fStepOk := PySem.W.Fast.tw6613529449190102663
noncomputable abbrev fStepT := PySem.W.Fast.tw10156331382660048174
noncomputable abbrev fDen := PySem.W.Fast.tw11892475500146522536
noncomputable abbrev fTab := PySem.W.Fast.tw14364793385576792824

noncomputable def bootT (P : Params) : BT := [boot_o_0 P, boot_o_1 P, boot_o_2 P, boot_o_3 P, boot_o_4 P, boot_o_5 P, boot_o_6 P, boot_o_7 P, boot_o_8 P, boot_o_9 P, boot_o_10 P].zipIdx.foldl (fun t p => t.ins p.2 p.1) .nil
noncomputable def goF (p : Program) (w : World) (n₀ : Nat) (ann : Option Value) : Nat → SharedT → Thread → Option (SharedT × Thread) :=
  @Nat.rec (fun _ => SharedT → Thread → Option (SharedT × Thread)) (fun s t => some (s, t)) (fun _ ih s t => match through t with
    | true => some (s, t)
    | false => match fStepOk n₀ ann t with
      | false => none
      | true => match fStepT (fDen fTab) p w s t with
        | some (s', t') => ih s' t'
        | none => none)
noncomputable def S0 (w : World) (os : OsState) : SharedT := ⟨bootT w.params, 11, (boot_heap w.params).life, #[], boot_drawn, boot_toks, os⟩

noncomputable def q : Program := PySem.W.view pw [166]
noncomputable def loose : List Str := pw.boundNames.filter fun n => n != ("law" : Str)
noncomputable abbrev annV : Option Value := some (.ref 6)

noncomputable abbrev fNsMap := PySem.W.Fast.tw8920871248978507458
noncomputable abbrev fSeen := PySem.W.Fast.tw4187177175401517315
noncomputable def obsAll (w : World) (x : SharedT × Thread) := (through x.2,
  staticsOk (importedModules pw.main.body) (boot_heap w.params) x.1.abs.heap && namesBound pw x.1.abs.heap && gensDone x.1.abs && laidKept (boot_heap w.params) x.1.abs.heap,
  fSeen q loose (importedModules pw.main.body) (fun _ => true) true x.1.abs, x.1.abs.heap.isNs mainGlobals, x.1.n, x.1.tree.get 1148,
  gtab.map (fun r => fNsMap x.1.abs.heap mainGlobals r.1), kas.map (fun a => x.1.tree.get a))
noncomputable def valAll (w : World) := (true, true, openGood q loose, true, 1157, some (⟨.none, none, .fields #[], #[]⟩ : Obj), gtab.map (·.2), (Ks w.params).map (fun p => some p.2))

theorem run_ok : ∀ (w : World) (os : OsState), (goF pw w 11 annV 7200 (S0 w os) (topStub pw)).map (obsAll w) = some (valAll w) := by
  intro w os
  kernel_rfl

end Mine
end

section
open PySem PySem.W PyProof.Rows PySem.Calls PySem.Spec
set_option Elab.async false
set_option backward.match.sparseCases false
set_option maxRecDepth 100000
set_option maxHeartbeats 8000000
namespace Mine

theorem e_ok : fStepOk = stepOk := Fast.te6613529449190102663.symm
theorem e_st : fStepT = stepT := Fast.te10156331382660048174.symm
theorem e_den : fDen = denote := Fast.te11892475500146522536.symm
theorem e_tab : fTab = treeTable := Fast.te14364793385576792824.symm

theorem goF_spec {w : World} {n₀ : Nat} {ann : Option Value} : ∀ (n : Nat) (s s' : SharedT) (t t' : Thread), goF pw w n₀ ann n s t = some (s', t') → through t' = true → topRun treeTable pw w n₀ ann (n + 1) s.abs t = some s'.abs
  | 0, s, s', t, t', h, ht => by
    cases h
    unfold topRun
    rw [ht]
  | n + 1, s, s', t, t', h, ht => by
    unfold topRun
    cases hth : through t with
    | true =>
      have h' : (match through t with
        | true => some (s, t)
        | false => match fStepOk n₀ ann t with
          | false => none
          | true => match fStepT (fDen fTab) pw w s t with
            | some (s', t') => goF pw w n₀ ann n s' t'
            | none => none) = some (s', t') := h
      rw [hth] at h'
      cases h'
      rfl
    | false =>
      have h' : (match through t with
        | true => some (s, t)
        | false => match fStepOk n₀ ann t with
          | false => none
          | true => match fStepT (fDen fTab) pw w s t with
            | some (s', t') => goF pw w n₀ ann n s' t'
            | none => none) = some (s', t') := h
      rw [hth] at h'
      dsimp only at h' ⊢
      rw [e_ok, e_st, e_den, e_tab] at h'
      cases hk : stepOk n₀ ann t with
      | false => rw [hk] at h'; cases h'
      | true =>
        rw [hk] at h'
        dsimp only at h' ⊢
        cases hs : stepT (denote treeTable) pw w s t with
        | none => rw [hs] at h'; cases h'
        | some r =>
          obtain ⟨s₂, t₂⟩ := r
          rw [hs] at h'
          rw [stepT_spec hs]
          exact goF_spec n s₂ s' t₂ t' h' ht

theorem open_ok : ∀ w : World, (fencedOpening treeTable pw w 7201).map (fun s => (s.heap, s.gens, s.drawn, s.toks)) = some (boot_heap w.params, Array.mk [], boot_drawn, boot_toks) :=
  boot_open (p := pw) (by kernel_rfl) (by rfl) (fun s => by kernel_rfl)

theorem size_ok : ∀ w : World, ((boot_heap w.params).isNs mainGlobals && (Array.mk ([] : List GenState)).size == 0, (boot_heap w.params).objs.size, (boot_heap w.params).nsMap mainGlobals "__annotations__") = (true, 11, annV) := by
  intro w
  kernel_rfl

theorem S0_abs (w : World) (os : OsState) : (S0 w os).abs = ⟨boot_heap w.params, #[], boot_drawn, boot_toks, os⟩ := by
  kernel_rfl

noncomputable abbrev HObs : Type := Bool × List (Option Value) × List (Option Obj) × Option Obj
noncomputable def obsH (s : Shared) : HObs := (s.heap.isNs mainGlobals, gtab.map (fun r => s.heap.nsMap mainGlobals r.1), kas.map s.heap.get?, s.heap.get? 1148)
noncomputable def valH (w : World) : HObs := (true, gtab.map (·.2), (Ks w.params).map (fun p => some p.2), some (⟨.none, none, .fields #[], #[]⟩ : Obj))

noncomputable def isFr (o : Obj) : Bool := match o.data with | .freed => true | _ => false
theorem alive_of {o : Obj} (h : isFr o = false) : alive o = some o := by
  obtain ⟨c, d, dt, sl⟩ := o
  cases dt <;> first | rfl | cases h
theorem abs_gets {s : SharedT} {l : List Addr} {r : List (Option Obj)} (hn : s.n = 1157) (hl : l.all (fun a => Nat.blt a 1157) = true) (hr : r.all (fun o => o.any (fun o => !isFr o)) = true)
    (h : l.map (fun a => s.tree.get a) = r) : l.map s.abs.heap.get? = r := by
  induction l generalizing r with
  | nil => cases h; rfl
  | cons a l ih =>
    cases r with
    | nil => cases h
    | cons x r =>
      simp only [List.map_cons, List.cons.injEq] at h ⊢
      simp only [List.all_cons, Bool.and_eq_true] at hl hr
      refine ⟨?_, ih hl.2 hr.2 h.2⟩
      cases x with
      | none => cases hr.1
      | some o =>
        have lt : a < s.n := by rw [hn]; exact Nat.le_of_ble_eq_true hl.1
        show (absHeap s.tree s.n s.life).get? a = some o
        rw [abs_get lt h.1, alive_of (by simpa using hr.1)]

theorem kas_lt : kas.all (fun a => Nat.blt a 1157) = true := by decide +kernel
theorem ks_alive (P : Params) : ((Ks P).map (fun p => some p.2)).all (fun o => o.any (fun o => !isFr o)) = true := by kernel_rfl
theorem kas_eq (P : Params) : kas = (Ks P).map (·.1) := by kernel_rfl

theorem seen_eq (s : Shared) : openSeen q loose (importedModules pw.main.body) (fun _ => true) true s = fSeen q loose (importedModules pw.main.body) (fun _ => true) true s :=
  congrFun (congrFun (congrFun (congrFun (congrFun (congrFun Fast.te4187177175401517315 q) loose) _) _) _) s
theorem nsMap_eq (h : Heap) (a : Addr) (x : Str) : h.nsMap a x = fNsMap h a x := congrFun (congrFun (congrFun Fast.te8920871248978507458 h) a) x

theorem obs_of {s : SharedT} {w : World} (o4 : s.abs.heap.isNs mainGlobals = true) (o5 : s.n = 1157) (o6 : s.tree.get 1148 = some (⟨.none, none, .fields #[], #[]⟩ : Obj))
    (o7 : gtab.map (fun r => fNsMap s.abs.heap mainGlobals r.1) = gtab.map (·.2)) (o8 : kas.map (fun a => s.tree.get a) = (Ks w.params).map (fun p => some p.2)) : obsH s.abs = valH w := by
  have g1 : (gtab.map fun r => s.abs.heap.nsMap mainGlobals r.1) = gtab.map (·.2) := by
    simp only [nsMap_eq]
    exact o7
  have g2 : kas.map s.abs.heap.get? = (Ks w.params).map (fun p => some p.2) := abs_gets o5 kas_lt (ks_alive _) o8
  have g3 := abs_gets (l := [1148]) (r := [some (⟨.none, none, .fields #[], #[]⟩ : Obj)]) o5 (by decide +kernel) (by decide +kernel) (by simpa using o6)
  simp only [List.map_cons, List.map_nil, List.cons.injEq, and_true] at g3
  unfold obsH valH
  rw [o4, g1, g2, g3]

theorem top_of {w : World} {os : OsState} {s' : SharedT} (r : topRun treeTable pw w 11 annV 7201 ⟨boot_heap w.params, #[], boot_drawn, boot_toks, os⟩ (topStub pw) = some s'.abs)
    (o2 : (staticsOk (importedModules pw.main.body) (boot_heap w.params) s'.abs.heap && namesBound pw s'.abs.heap && gensDone s'.abs && laidKept (boot_heap w.params) s'.abs.heap) = true) :
    topFrom treeTable pw w 7201 ⟨boot_heap w.params, Array.mk [], boot_drawn, boot_toks, os⟩ = some s'.abs := by
  obtain ⟨z1, z2, z3⟩ : _ ∧ _ ∧ _ := by simpa only [Prod.mk.injEq] using size_ok w
  unfold topFrom
  dsimp only
  rw [z1, z2, z3, r]
  show (match staticsOk (importedModules pw.main.body) (boot_heap w.params) s'.abs.heap && namesBound pw s'.abs.heap && gensDone s'.abs && laidKept (boot_heap w.params) s'.abs.heap with | true => some s'.abs | false => none) = _
  rw [o2]

theorem facts_of {w : World} {os : OsState} : ∃ s' : SharedT, topRun treeTable pw w 11 annV 7201 ⟨boot_heap w.params, #[], boot_drawn, boot_toks, os⟩ (topStub pw) = some s'.abs ∧
    (staticsOk (importedModules pw.main.body) (boot_heap w.params) s'.abs.heap && namesBound pw s'.abs.heap && gensDone s'.abs && laidKept (boot_heap w.params) s'.abs.heap) = true ∧
    fSeen q loose (importedModules pw.main.body) (fun _ => true) true s'.abs = openGood q loose ∧ obsH s'.abs = valH w := by
  obtain ⟨⟨s', t'⟩, hr, ho⟩ := Option.map_eq_some_iff.mp (run_ok w os)
  unfold obsAll valAll at ho
  simp only [Prod.mk.injEq] at ho
  obtain ⟨o1, o2, o3, o4, o5, o6, o7, o8⟩ := ho
  have r := goF_spec _ _ _ _ _ hr o1
  rw [S0_abs] at r
  exact ⟨s', r, o2, o3, obs_of o4 o5 o6 o7 o8⟩

theorem left_gen {p q : Program} {loose : List Str} {Xt : Shared → Bool} {α : Type} {Yf : Shared → α} {Ya : World → α} {N : Nat} {w : World} {s₀ s₁ : Shared}
    (e : fencedOpening treeTable p w N = some s₀) (t : topFrom treeTable p w N s₀ = some s₁) (a : openSeen q loose (importedModules p.main.body) Xt true s₁ = openGood q loose) (b : Yf s₁ = Ya w) :
    (openEnds treeTable p w N).map (fun s => (openSeen q loose (importedModules p.main.body) Xt true s, Yf s)) = some (openGood q loose, Ya w) := by
  unfold openEnds
  rw [e]
  show (topFrom treeTable p w N s₀).map _ = _
  rw [t]
  show some (openSeen q loose (importedModules p.main.body) Xt true s₁, Yf s₁) = _
  rw [a, b]

theorem leftO : LeftO pw q loose (fun _ => true) obsH valH 7201 := fun w => by
  obtain ⟨⟨h, gs, d, k, os⟩, e, e'⟩ := Option.map_eq_some_iff.mp (open_ok w)
  obtain ⟨rfl, rfl, rfl, rfl⟩ : h = boot_heap w.params ∧ gs = Array.mk [] ∧ d = boot_drawn ∧ k = boot_toks := by simpa using e'
  obtain ⟨s', r, o2, o3, o4⟩ := facts_of (w := w) (os := os)
  exact left_gen e (top_of r o2) ((seen_eq _).trans o3) o4

end Mine
end

section
open PySem PySem.W PyProof.Rows PySem.Calls PySem.Spec
set_option Elab.async false
set_option backward.match.sparseCases false
set_option maxRecDepth 100000
set_option maxHeartbeats 8000000
namespace Mine
noncomputable abbrev row : OpenRow := PySem.Challenge.rw_on0201_01.row
noncomputable def lawD : DefRec := match sAt 166 with
  | some (.FunctionDef n a b _ _ _ sc _ _ pos) => ⟨n, a, b, sc, pos⟩
  | _ => ⟨"", ⟨[], [], none, [], [], none, []⟩, [], default, default⟩
theorem hdef : defOf q row.name = some (lawD, []) := by kernel_rfl
theorem hp : row.prog.theDef row.name = some (lawD.params, lawD.body, lawD.scope) := by kernel_rfl
theorem hk : kwWritten? lawD.params.kwonlyargs lawD.params.kw_defaults = some [] := by kernel_rfl
theorem hok : (chainsOk q && opensWell row.prog && (frees row.toRowW && row.within.isEmpty)) = true := by kernel_rfl
theorem htw : pw.tablesWhole = true := by kernel_rfl
theorem hbare : row.prog.bare := ⟨rfl, rfl, rfl, rfl, rfl, htw⟩
theorem hprom : row.toRowW.promised := ⟨[.list []], by decide +kernel, by decide +kernel⟩

structure YP (w : World) (h : Heap) : Prop where
  globs : ∃ m, h.Ns mainGlobals m ∧ ∀ r ∈ gtab, m r.1 = r.2
  inK : (Ks w.params).In h
  tab : h.get? 1148 = some (⟨.none, none, .fields #[], #[]⟩ : Obj)
theorem yp_of (w : World) (s : Shared) (e : obsH s = valH w) : YP w s.heap := by
  unfold obsH valH at e
  simp only [Prod.mk.injEq] at e
  obtain ⟨e1, e2, e3, e4⟩ := e
  refine ⟨⟨_, .of_isNs e1, fun r hr => ?_⟩, Frag.in_of (kas_eq _) e3, e4⟩
  have : ∀ (l : List (Str × Option Value)), l.map (fun r => s.heap.nsMap mainGlobals r.1) = l.map (·.2) → ∀ r ∈ l, s.heap.nsMap mainGlobals r.1 = r.2 := by
    intro l
    induction l with
    | nil => intro _ r hr; cases hr
    | cons a l ih =>
      intro h r hr
      simp only [List.map_cons, List.cons.injEq] at h
      rcases List.mem_cons.mp hr with rfl | hr
      · exact h.1
      · exact ih h.2 r hr
  exact this _ e2 r hr
theorem yp_keeps (w : World) (h h' : Heap) (x : YP w h) (k : ∀ b o, h.get? b = some o → h'.get? b = some o) : YP w h' :=
  ⟨let ⟨m, a, b⟩ := x.globs; ⟨m, a.keeps k, b⟩, x.inK.keeps k, k _ _ x.tab⟩

theorem head1 (k1 : row.wellSaid = true) (call : WalkO q loose (fun _ _ => True) YP row.toRowW lawD [] fun f vs => PySem.call f vs) : row.Holds :=
  holds_open (r := row) (q := q) (loose := loose) (Xt := fun _ => true) (XP := fun _ _ => True) (Yf := obsH) (Ya := valH) (YP := YP) (d := lawD) (kwd := []) (N := 7201)
    leftO yp_of yp_keeps (fun _ _ => trivial) (fun _ _ _ _ _ => trivial) hdef hp hk (fun _ _ => recFacts_nil rfl) rfl k1 hok hbare hprom call

structure Base (w : World) (h : Heap) : Prop extends YP w h where
  bu : ∃ mb, h.Ns builtinsNs mb ∧ ∀ x : Str, x ≠ "__name__" → mb x = bootBuiltins x
  nolimit : h.NoLimit
  nodigits : ∃ mc, h.Ns cStatics mc ∧ mc "sys.int_max_str_digits" = none
  bmain : ∃ mg bm ob, h.Ns mainGlobals mg ∧ mg "__builtins__" = some (.ref bm) ∧ bm ≠ builtinsNs ∧ h.get? bm = some ob ∧ ob.cls = .type "module" ∧ ob.dict = some builtinsNs ∧ ob.data = .plain

theorem ns_unique {h : Heap} {a : Addr} {m m' : Str → Option Value} (x : h.Ns a m) (y : h.Ns a m') : m = m' := by
  obtain ⟨o, es, ep, ho, hd, _, hf⟩ := x
  obtain ⟨o', es', ep', ho', hd', _, hf'⟩ := y
  rw [ho] at ho'
  cases ho'
  rw [hd] at hd'
  cases hd'
  funext n
  rw [← hf, ← hf']

noncomputable def LawGoal : Prop := ∀ (w : World) (s₁ : Shared) (l : Addr) (vs : List Value) (ns : List Int), Base w s₁.heap → s₁.gens = #[] → s₁.heap.IsList l vs.toArray → IntsAre vs ns → ns.length ≤ 63 →
  (PyData.list (ns.map PyData.int)).layable0 = true →
  wpAny (model pw w) callerA (call (.ref 1156) [.ref l]) (fun v s' => v = .bool true ∧ OldK s₁.heap s'.heap ∧ s'.os = s₁.os ∧ s'.gens = #[]) (fun _ _ => False) s₁

theorem law_name : lawD.name = S "law" := by kernel_rfl
theorem law_in : (S "law", some (Value.ref 1156)) ∈ gtab := by
  unfold gtab gtabS
  exact List.Mem.head _

theorem addr_of {w : World} {h : Heap} {mg : Str → Option Value} {a : Addr} {n : Str} (T : h.Ns mainGlobals mg) (Y : YP w h) (hn : n = S "law") (hmg : mg n = some (.ref a)) : a = 1156 := by
  obtain ⟨m, hm, hr⟩ := Y.globs
  have e := ns_unique T hm
  have h2 : m (S "law") = some (.ref 1156) := hr _ law_in
  rw [hn, e, h2] at hmg
  injection hmg with hmg
  injection hmg with hmg
  exact hmg.symm

theorem good_end {cl : Str → Option Addr} {mean : ExcName → Option Value} {d : WData} {s₁ s' : Shared} (h2 : OldK s₁.heap s'.heap) (h3 : s'.os = s₁.os) (h4 : s'.gens = #[]) :
    GoodWG row.claim cl mean [d] s₁ (.ok (.ret (.bool true))) s' :=
  ⟨.inl ⟨_, _, [], rfl, fun _ => rfl, ReadsW.bool true, by first | kernel_rfl | wrow_post, fun _ => ⟨List.nodup_nil, fun _ hm => (nomatch hm)⟩⟩, h2, h3, by rw [h4]; exact AllBare.empty⟩

theorem head2 (H : LawGoal) (k1 : row.wellSaid = true) : row.Holds := by
  refine head1 k1 ?_
  intro w s₀ s₁ mg mb G Y a o pm cd doc dV kV ho hd hcd hD hmg hg args vals as hpre hlay hrd hwl hlo
  have T := G.T
  have ea := addr_of T.g Y law_name hmg
  have B : Base w s₁.heap := ⟨Y, ⟨_, T.b, T.builtins⟩, T.nolimit, T.nodigits, (let ⟨bm, ob, z⟩ := T.bmain; ⟨_, bm, ob, T.g, z⟩)⟩
  clear G hd hcd hD ho hmg T Y
  subst ea
  wrow_args hpre hlay hrd hwl hlo
  rename_i ns _ _ lay _ _ _ _ l vs _ hl _ _ _ hi _ hc _
  have hlen : ns.length ≤ 63 := by clear hl hi lay H k1 B; omega
  refine wpAny_mono (H w s₁ l vs ns B hg hl hi hlen lay) (fun v s' h => ?_) fun _ _ h => h.elim
  obtain ⟨rfl, h2, h3, h4⟩ := h
  exact good_end h2 h3 h4

theorem an {a b : Bool} (h : a = true) (k : b = true) : (a && b) = true := by
  subst h
  exact k
noncomputable abbrev held := @Fast.tw3471404346716756564 Str (@instBEqOfDecidableEq Str Fast.sDec)
/-- what a program's look asks, one by one -/
noncomputable def roadless (p : Program) : Bool := Fast.tw8326940854005059898 { strict := !R.allR (Fast.tw5923862056798008813 p.main.body) (held Fast.tw17691160309236699985), foot := none, bare := R.filterR (Fast.tw13343964577679436407 p p.main.body) [{ cps := { toList := [118, 97, 114, 115] } }, { cps := { toList := [100, 105, 114] } }, { cps := { toList := [108, 111, 99, 97, 108, 115] } }] } p.main.body
noncomputable def attrs (p : Program) : Bool := Fast.tw17119622794617984870 p p.main.body fun _ n => Fast.tw17868728402115742887 n
noncomputable def lessA (p : Program) : Bool := Fast.tw11788848310118352699 p.main && ((Fast.tw9807087744658564304 p.main.body).isEmpty || Fast.tw12862048085361865435 (Fast.tw9807087744658564304 p.main.body) p.main.body)
noncomputable def lessB (p : Program) : Bool := R.allR (Fast.tw18344453789297297638 p) fun n => !held Fast.tw14412699480532031325 n
noncomputable def above (l : OpenLaw) : Bool := Fast.tw17119622794617984870 l.prog l.above fun _ n => !held (Fast.tw10792542408131684335 l) n
theorem look_res : Fast.tw8377067652309620493 pw = true := by kernel_rfl
theorem look_road : roadless pw = true := by kernel_rfl
theorem look_attr : attrs pw = true := by kernel_rfl
theorem look_above : above PySem.Challenge.rw_on0201_01 = true := by kernel_rfl
theorem look_of {p : Program} (h1 : lessA p = true) (h2 : Fast.tw8377067652309620493 p = true) (h3 : lessB p = true) (h4 : roadless p = true) (h5 : attrs p = true) : Fast.tw12908688711261696721 p = true := by
  delta Fast.tw12908688711261696721
  exact an (an (an (an h1 h2) h3) h4) h5
theorem row_of {r : OpenRow} (h1 : Fast.tw12908688711261696721 r.prog = true) (k1 : r.loose = []) (k2 : r.makers = []) (k3 : r.records = []) (k4 : r.raises = []) (k5 : r.mutates = []) (k6 : r.within = []) (k7 : r.same = none)
    (h2 : Fast.tw13582783067957832011 r.toRowW = true) (h3 : Fast.tw5318747976498570220 r.pre = true) (h4 : Fast.tw5318747976498570220 r.post = true) (h5 : held (Fast.tw18344453789297297638 r.prog) r.name = true) (h6 : (!held Fast.tw12749700546528644094 r.name) = true) : Fast.tw17960256430627541270 r = true := by
  delta Fast.tw17960256430627541270 Fast.tw2436336058641802641
  exact an (an (an (an (an (an (an (an (an (an (an (an (an (an (an h1 (by rw [k1]; rfl)) (by rw [k2]; rfl)) (by rw [k3]; rfl)) (by rw [k4]; rfl)) (by rw [k3]; rfl)) (by rw [k3]; rfl)) h2) h3) h4) (by rw [k4]; rfl)) (by rw [k5]; rfl)) (by rw [k6]; rfl)) (by rw [k7]; rfl)) h5) h6
theorem look_p : Fast.tw12908688711261696721 pw = true := look_of (by kernel_rfl) look_res (by kernel_rfl) look_road look_attr
theorem look_row : Fast.tw17960256430627541270 (Fast.tw2368527892694137696 PySem.Challenge.rw_on0201_01) = true :=
  row_of look_p rfl rfl rfl rfl rfl rfl rfl (by kernel_rfl) (by kernel_rfl) (by kernel_rfl) (by kernel_rfl) (by kernel_rfl)
theorem well_fast : Fast.tw9446332074065402090 PySem.Challenge.rw_on0201_01 = true := by
  delta Fast.tw9446332074065402090
  refine an (an ?_ look_above) (by kernel_rfl)
  repeat' (first | with_reducible exact look_row | with_reducible refine an ?_ ?_ | kernel_rfl)
theorem well_said : PySem.Challenge.rw_on0201_01.wellSaid = true := (congrFun Fast.te9446332074065402090 _).trans well_fast
theorem holds_of (H : LawGoal) : PySem.Challenge.rw_on0201_01.Holds := holds_law well_said fun said => head2 H said
end Mine
end

section
open PySem PySem.W PyProof.Rows PySem.Calls PySem.Spec
set_option Elab.async false
set_option backward.match.sparseCases false
set_option maxRecDepth 100000
namespace Mine

/-- plain data as trees -/
inductive D where
  | none | bool (b : Bool) | int (i : Int) | str (s : Str)
  | tup (l : List D) | lst (l : List D) | dic (l : List (Str × D)) | obj (C : Addr) (l : List (Str × D))
  | sta (v : Value) | rng (a b s : Int) | mref (k : Nat)
  | fn (params : Arguments) (body : List Stmt) (scope : Scope) (caps : List (Str × D)) | xls (l : List D)

noncomputable abbrev Part := Addr → Option Obj

/-- the names of the fields of an object's own dict -/
inductive KN : List DictEntry → List Str → Prop
  | nil : KN [] []
  | cons {h : Int} {k : Str} {t : Tok} {v : Value} {es ks} : KN es ks → KN (⟨h, .str k t, v⟩ :: es) (k :: ks)

/-- what an object must be to hold these pairs as a dict of strs -/
noncomputable abbrev DOb := Obj → List (Str × Value) → Prop

/-- cells that stand, and what they hold -/
inductive CL (F : Part) : List Addr → List Value → Prop
  | nil : CL F [] []
  | cons {a o v as vs} : F a = some o → o.data = .cell (some v) → CL F as vs → CL F (a :: as) (v :: vs)
theorem CL.mono {F F' : Part} (h : ∀ a o, F a = some o → F' a = some o) : ∀ {as vs}, CL F as vs → CL F' as vs
  | _, _, .nil => .nil
  | _, _, .cons e d r => .cons (h _ _ e) d (r.mono h)
/-- a plain function that was made within -/
noncomputable def FnIs (F : Part) (a : Addr) (fd : FuncData) : Prop := ∃ o ca co ws t, F a = some o ∧ o.data = .func fd ∧ fd.globals = mainGlobals ∧ fd.builtins = builtinsNs ∧ fd.defaults = .none ∧ fd.code = .ref ca ∧ F ca = some co ∧ co.data = .fields ws ∧ ws[1]? = some (.str fd.qualname t)
theorem FnIs.mono {F F' : Part} (h : ∀ a o, F a = some o → F' a = some o) {a : Addr} {fd : FuncData} : FnIs F a fd → FnIs F' a fd
  | ⟨o, ca, co, ws, t, e1, e2, e3, e4, e5, e6, e7, e8⟩ => ⟨o, ca, co, ws, t, h _ _ e1, e2, e3, e4, e5, e6, h _ _ e7, e8⟩

mutual
inductive Rep (P : DOb) (F : Part) (g : List Addr) : Value → D → Prop
  | none : Rep P F g .none .none
  | bool (b) : Rep P F g (.bool b) (.bool b)
  | int (i t) : Rep P F g (.int i t) (.int i)
  | str (x t) : Rep P F g (.str x t) (.str x)
  | tup {a o vs n ds} : F a = some o → o.cls = .type "tuple" → o.data = .seq (List.toArray vs) n → Reps P F g vs ds → Rep P F g (.ref a) (.tup ds)
  | lst {a vs n ds} : F a = some ⟨.type "list", .none, .seq (List.toArray vs) n, #[]⟩ → Reps P F g vs ds → Rep P F g (.ref a) (.lst ds)
  | dic {a o kvs ds} : F a = some o → P o kvs → (a == sysModules) = false → kvs.map (·.1) = ds.map (·.1) → Reps P F g (kvs.map (·.2)) (ds.map (·.2)) → Rep P F g (.ref a) (.dic ds)
  | obj {a C dx n es ds} : F a = some (instObj C dx) → F dx = some (dictOf es n) → KN es (ds.map (·.1)) → Reps P F g (es.map (·.val)) (ds.map (·.2)) → Rep P F g (.ref a) (.obj C ds)
  | sta (v) : Rep P F g v (.sta v)
  | rng {a x y z t u w} : F a = some ⟨.type "range", .none, .fields #[.int x t, .int y u, .int z w], #[]⟩ → Rep P F g (.ref a) (.rng x y z)
  | mref {a k} : g[k]? = some a → Rep P F g (.ref a) (.mref k)
  | xls {a o vs n ds} : F a = some o → o.cls = .type "list" → o.data = .seq (List.toArray vs) n → Reps P F g vs ds → Rep P F g (.ref a) (.xls ds)
  | fn {a fd us params body scope caps} : FnIs F a fd → fd.params = params → fd.body = .stmts body → fd.scope = scope → fd.closure.map (·.1) = caps.map (·.1) → CL F (fd.closure.map (·.2)) us → Reps P F g us (caps.map (·.2)) → Rep P F g (.ref a) (.fn params body scope caps)
inductive Reps (P : DOb) (F : Part) (g : List Addr) : List Value → List D → Prop
  | nil : Reps P F g [] []
  | cons {v vs d ds} : Rep P F g v d → Reps P F g vs ds → Reps P F g (v :: vs) (d :: ds)
end

noncomputable def Part.le (F F' : Part) : Prop := ∀ a o, F a = some o → F' a = some o
noncomputable def pre (g g' : List Addr) : Prop := ∀ (k : Nat) (a : Addr), g[k]? = some a → g'[k]? = some a
theorem pre.refl (g : List Addr) : pre g g := fun _ _ h => h
theorem Part.le.refl (F : Part) : Part.le F F := fun _ _ h => h
theorem Part.le.trans {F F' F'' : Part} (h : Part.le F F') (h' : Part.le F' F'') : Part.le F F'' := fun a o e => h' a o (h a o e)
theorem pre.trans {g g' g'' : List Addr} (h : pre g g') (h' : pre g' g'') : pre g g'' := fun k a e => h' k a (h k a e)

mutual
theorem Rep.mono {P : DOb} {F F' : Part} {g g' : List Addr} (hF : Part.le F F') (hg : pre g g') : ∀ {v d}, Rep P F g v d → Rep P F' g' v d
  | _, _, .none => .none
  | _, _, .bool b => .bool b
  | _, _, .int i t => .int i t
  | _, _, .str x t => .str x t
  | _, _, .tup h1 h2 h3 r => .tup (hF _ _ h1) h2 h3 (Reps.mono hF hg r)
  | _, _, .lst h1 r => .lst (hF _ _ h1) (Reps.mono hF hg r)
  | _, _, .dic h h2 h3 h4 r => .dic (hF _ _ h) h2 h3 h4 (Reps.mono hF hg r)
  | _, _, .obj h1 h2 h3 r => .obj (hF _ _ h1) (hF _ _ h2) h3 (Reps.mono hF hg r)
  | _, _, .sta v => .sta v
  | _, _, .rng h => .rng (hF _ _ h)
  | _, _, .mref h => .mref (hg _ _ h)
  | _, _, .xls h1 h2 h3 r => .xls (hF _ _ h1) h2 h3 (Reps.mono hF hg r)
  | _, _, .fn h1 h2 h3 h4 h5 h6 r => .fn (h1.mono hF) h2 h3 h4 h5 (h6.mono hF) (Reps.mono hF hg r)
theorem Reps.mono {P : DOb} {F F' : Part} {g g' : List Addr} (hF : Part.le F F') (hg : pre g g') : ∀ {vs ds}, Reps P F g vs ds → Reps P F' g' vs ds
  | _, _, .nil => .nil
  | _, _, .cons h r => .cons (Rep.mono hF hg h) (Reps.mono hF hg r)
end

theorem Reps.len {P : DOb} {F : Part} {g : List Addr} : ∀ {vs ds}, Reps P F g vs ds → vs.length = ds.length
  | _, _, .nil => rfl
  | _, _, .cons _ r => by simp [r.len]
theorem Reps.get {P : DOb} {F : Part} {g : List Addr} : ∀ {vs ds}, Reps P F g vs ds → ∀ {i : Nat} {d : D}, ds[i]? = some d → ∃ v, vs[i]? = some v ∧ Rep P F g v d
  | _, _, .nil, i, d, h => by simp at h
  | _, _, .cons hd r, 0, d, h => by simp at h; subst h; exact ⟨_, rfl, hd⟩
  | _, _, .cons hd r, i + 1, d, h => by simpa using r.get (i := i) (by simpa using h)
theorem Reps.app {P : DOb} {F : Part} {g : List Addr} : ∀ {vs ds vs' ds'}, Reps P F g vs ds → Reps P F g vs' ds' → Reps P F g (vs ++ vs') (ds ++ ds')
  | _, _, _, _, .nil, h => h
  | _, _, _, _, .cons h r, h' => .cons h (r.app h')
theorem Reps.snoc {P : DOb} {F : Part} {g : List Addr} {vs ds v d} (h : Reps P F g vs ds) (hv : Rep P F g v d) : Reps P F g (vs ++ [v]) (ds ++ [d]) := h.app (.cons hv .nil)
theorem Reps.take {P : DOb} {F : Part} {g : List Addr} : ∀ {vs ds}, Reps P F g vs ds → ∀ n, Reps P F g (vs.take n) (ds.take n)
  | _, _, .nil, n => by simp; exact .nil
  | _, _, .cons h r, 0 => .nil
  | _, _, .cons h r, n + 1 => .cons h (r.take n)
theorem Reps.drop {P : DOb} {F : Part} {g : List Addr} : ∀ {vs ds}, Reps P F g vs ds → ∀ n, Reps P F g (vs.drop n) (ds.drop n)
  | _, _, .nil, n => by simp; exact .nil
  | _, _, .cons h r, 0 => .cons h r
  | _, _, .cons h r, n + 1 => r.drop n

/-- an allocating step: what stands stays, the frozen part grows by new things alone -/
structure Grow (F : Part) (h : Heap) (F' : Part) (h' : Heap) : Prop where
  keep : ∀ a o, h.get? a = some o → h'.get? a = some o
  le : Part.le F F'
  sub : ∀ a o, F' a = some o → h'.get? a = some o
  new : ∀ a, F' a ≠ .none → F a ≠ .none ∨ h.objs.size ≤ a
theorem Grow.keeps {F : Part} {h h' : Heap} (s : ∀ a o, F a = some o → h.get? a = some o) (k : ∀ a o, h.get? a = some o → h'.get? a = some o) : Grow F h F h' := ⟨k, .refl _, fun a o e => k a o (s a o e), fun _ e => .inl e⟩

noncomputable def Part.set (F : Part) (a : Addr) (o : Obj) : Part := fun b => if b = a then some o else F b
theorem Part.set_self (F : Part) (a : Addr) (o : Obj) : F.set a o a = some o := if_pos rfl
theorem Part.set_ne (F : Part) {a b : Addr} (o : Obj) (h : b ≠ a) : F.set a o b = F b := if_neg h
theorem Part.le_set {F : Part} {a : Addr} {o : Obj} (h : F a = .none) : Part.le F (F.set a o) := fun b x e => by
  by_cases q : b = a
  · subst q; rw [h] at e; cases e
  · rw [Part.set_ne _ _ q]; exact e
theorem Heap.none_of_size {h : Heap} {a : Addr} (q : h.objs.size ≤ a) : h.get? a = .none := by
  cases e : h.get? a with
  | none => rfl
  | some o => exact absurd (Heap.lt_size e) (Nat.not_lt.mpr q)
theorem Grow.push {F : Part} {h : Heap} (s : ∀ a o, F a = some o → h.get? a = some o) {o : Obj} (ho : o.isFreed = false) : Grow F h (F.set h.objs.size o) (h.push o) := by
  have hn : F h.objs.size = .none := by
    cases e : F h.objs.size with
    | none => rfl
    | some x => exact absurd (Heap.lt_size (s _ _ e)) (Nat.lt_irrefl _)
  refine ⟨fun a x e => Heap.get?_push_of_some _ e, Part.le_set hn, fun a x e => ?_, fun a e => ?_⟩
  · by_cases q : a = h.objs.size
    · subst q; rw [Part.set_self] at e; cases e; exact Heap.get?_push_size _ ho
    · rw [Part.set_ne _ _ q] at e; exact Heap.get?_push_of_some _ (s _ _ e)
  · by_cases q : a = h.objs.size
    · subst q; exact .inr (Nat.le_refl _)
    · rw [Part.set_ne _ _ q] at e; exact .inl e

/-- values of the kinds that the library reads as data -/
noncomputable def D.py : Nat → D → Option PyData
  | 0, _ => .none
  | n + 1, d => match d with
    | .none => some .none
    | .bool b => some (.bool b)
    | .int i => some (.int i)
    | .str s => some (.str s)
    | .tup l => (l.mapM (D.py n)).map .tuple
    | .lst l => (l.mapM (D.py n)).map .list
    | _ => .none

theorem mapM_cons_some {α β : Type} {f : α → Option β} {a : α} {l : List α} {r : List β} (h : (a :: l).mapM f = some r) : ∃ b bs, f a = some b ∧ l.mapM f = some bs ∧ r = b :: bs := by
  rw [List.mapM_cons] at h
  cases ha : f a with
  | none => rw [ha] at h; cases h
  | some b =>
    cases hl : l.mapM f with
    | none => rw [ha, hl] at h; cases h
    | some bs => rw [ha, hl] at h; cases h; exact ⟨b, bs, rfl, rfl, rfl⟩

theorem Rep.reads {P : DOb} {F : Part} {g : List Addr} {h : Heap} (sub : ∀ a o, F a = some o → h.get? a = some o) : ∀ (n : Nat) {v : Value} {d : D} {x : PyData}, Rep P F g v d → D.py n d = some x → ∃ as, Reads h v x as := by
  have all : ∀ (n : Nat), (∀ {v : Value} {d : D} {x : PyData}, Rep P F g v d → D.py n d = some x → ∃ as, Reads h v x as) → ∀ (ds : List D) (vs : List Value) (xs : List PyData), Reps P F g vs ds → ds.mapM (D.py n) = some xs → ∃ as, ReadsAll h vs xs as := by
    intro n ih ds
    induction ds with
    | nil => intro vs xs r e; cases r; simp at e; subst e; exact ⟨_, .nil⟩
    | cons d ds hi =>
      intro vs xs r e
      cases r with
      | cons h1 r =>
        obtain ⟨b, bs, e1, e2, rfl⟩ := mapM_cons_some e
        obtain ⟨as, q⟩ := ih h1 e1
        obtain ⟨bs', q'⟩ := hi _ _ r e2
        exact ⟨_, .cons q q'⟩
  intro n
  induction n with
  | zero => intro v d x _ e; cases e
  | succ n ih =>
    intro v d x r e
    cases r with
    | none => cases e; exact ⟨_, .none⟩
    | bool b => cases e; exact ⟨_, .bool b⟩
    | int i t => cases e; exact ⟨_, .int i t⟩
    | str s t => cases e; exact ⟨_, .str s t⟩
    | tup h1 h2 h3 r =>
      obtain ⟨xs, ex, rfl⟩ := Option.map_eq_some_iff.mp (show ((_ : List D).mapM (D.py n)).map PyData.tuple = some x from e)
      obtain ⟨as, q⟩ := all n ih _ _ _ r ex
      exact ⟨_, .tuple (sub _ _ h1) h2 h3 (by simpa using q)⟩
    | lst h1 r =>
      obtain ⟨xs, ex, rfl⟩ := Option.map_eq_some_iff.mp (show ((_ : List D).mapM (D.py n)).map PyData.list = some x from e)
      obtain ⟨as, q⟩ := all n ih _ _ _ r ex
      exact ⟨_, .list (sub _ _ h1) rfl rfl (by simpa using q)⟩
    | _ => cases e

end Mine
end

section
open PySem PySem.W PyProof.Rows PySem.Calls PySem.Spec
set_option Elab.async false
set_option backward.match.sparseCases false
set_option maxRecDepth 100000
namespace Mine

inductive AV where
  | d (x : D) | con (x : D) | lst (l : List D) | dic (l : List (Str × D)) | ins (C : Addr) (l : List (Str × D)) | unb
noncomputable abbrev AEnv := List (Str × AV)
noncomputable abbrev GS := List (List D)

inductive Role where
  | frame | cell (x : Str) | own (x : Str) | sub (x : Str) | glob (k : Nat) | tack
  deriving DecidableEq
noncomputable abbrev Priv := Addr → Option Role

/-- a list, to the last part -/
noncomputable def LsAt (h : Heap) (a : Addr) (its : Array Value) : Prop := ∃ n, h.get? a = some ⟨.type "list", .none, .seq its n, #[]⟩

structure FC where
  w : World
  DO : DOb
  hs : Heap
  K : Frag
  B : Base w hs
  e : Env
  h0 : Heap
  F0 : Part
  g0 : List Addr
  T : List (Addr × Obj)
  pins : List (Str × Value)

noncomputable def AvOk (P : DOb) (F : Part) (g : List Addr) (h : Heap) (pv : Priv) (x : Str) (v : Value) : AV → Prop
  | .d d => Rep P F g v d
  | .con d => Rep P F g v d
  | .lst ds => ∃ a vs, v = .ref a ∧ pv a = some (.own x) ∧ LsAt h a (List.toArray vs) ∧ Reps P F g vs ds
  | .dic ds => ∃ a o kvs, v = .ref a ∧ pv a = some (.own x) ∧ h.get? a = some o ∧ P o kvs ∧ kvs.map (·.1) = ds.map (·.1) ∧ Reps P F g (kvs.map (·.2)) (ds.map (·.2))
  | .ins C ds => ∃ a dx es n, v = .ref a ∧ pv a = some (.own x) ∧ h.get? a = some (instObj C dx) ∧ pv dx = some (.sub x) ∧ h.get? dx = some (dictOf es n) ∧ KN es (ds.map (·.1)) ∧ Reps P F g (es.map (·.val)) (ds.map (·.2))
  | .unb => False

noncomputable def CvOk (P : DOb) (F : Part) (g : List Addr) (h : Heap) (pv : Priv) (x : Str) (vo : Option Value) (av : AV) : Prop :=
  (∃ v, vo = some v ∧ AvOk P F g h pv x v av) ∨ (vo = .none ∧ av = .unb)

noncomputable def isConAV : AV → Bool | .con _ => true | _ => false

/-- where the cell of a captured name lies: this frame's own, or one that stood before the frame, or frozen -/
noncomputable def CellAt (c : FC) (F : Part) (pv : Priv) (x : Str) (av : AV) (cx : Addr) : Prop :=
  (pv cx = some (.cell x) ∧ isConAV av = false) ∨ (isConAV av = true ∧ ((∃ o, F cx = some o) ∨ (∃ o, c.h0.get? cx = some o ∧ cx ≠ 1148 ∧ cx ∉ c.g0)))

noncomputable def VarOk (c : FC) (F : Part) (g : List Addr) (h : Heap) (pv : Priv) (m : Str → Option Value) (x : Str) (av : AV) : Prop :=
  match c.e.kindOf x with
  | some .local => ∃ v, m x = some v ∧ AvOk c.DO F g h pv x v av
  | some .cell => ∃ cx vo, c.e.cells.lookup x = some cx ∧ h.IsCell cx vo ∧ CellAt c F pv x av cx ∧ CvOk c.DO F g h pv x vo av
  | some .free => ∃ cx vo, c.e.cells.lookup x = some cx ∧ h.IsCell cx vo ∧ CellAt c F pv x av cx ∧ CvOk c.DO F g h pv x vo av
  | _ => False

noncomputable def Glob (P : DOb) (F : Part) (g : List Addr) (h : Heap) (pv : Priv) (G : GS) : Prop :=
  ∀ (k : Nat) (a : Addr), g[k]? = some a → pv a = some (.glob k) ∧ ∃ vs ds, G[k]? = some ds ∧ LsAt h a (List.toArray vs) ∧ Reps P F g vs ds

/-- the place of the one nested def, and its name -/
noncomputable def nestPos : Pos := ⟨888, 4, 891, 56⟩
noncomputable def nestQual : Str := "_law_right.<locals>.context_here"
noncomputable def CodeOb (o : Obj) : Prop := ∃ ws t, o.data = .fields ws ∧ ws[1]? = some (.str nestQual t)
noncomputable def TabVs (F : Part) (vs : Array Value) : Prop := vs = #[] ∨ ∃ ca o, vs = #[rawInt nestPos.line, rawInt nestPos.col, .ref ca] ∧ F ca = some o ∧ CodeOb o

structure Core (c : FC) (F : Part) (h : Heap) (pv : Priv) : Prop where
  base : ∀ a o, c.hs.get? a = some o → a ≠ 1148 → F a = some o
  sub : ∀ a o, F a = some o → h.get? a = some o
  priv : ∀ a r, pv a = some r → F a = .none ∧ c.hs.objs.size ≤ a ∧ ∃ o, h.get? a = some o
  fresh : ∀ a r, pv a = some r → c.h0.objs.size ≤ a ∨ ∃ k : Nat, r = .glob k ∧ c.g0[k]? = some a
  freshF : ∀ a, F a ≠ .none → c.F0 a ≠ .none ∨ c.h0.objs.size ≤ a
  keep : ∀ a o, c.h0.get? a = some o → a ≠ 1148 → a ∉ c.g0 → h.get? a = some o
  lim : h.NoLimit
  dig : ∃ mc, h.Ns cStatics mc ∧ mc "sys.int_max_str_digits" = .none
  tab : ∃ vs, h.get? 1148 = some ⟨.none, .none, .fields vs, #[]⟩ ∧ TabVs F vs
  notab : F 1148 = .none
  le0 : Part.le c.F0 F

structure Rel (c : FC) (F : Part) (g : List Addr) (G : GS) (σ : AEnv) (h : Heap) (pv : Priv) (m : Str → Option Value) : Prop extends Core c F h pv where
  ns : h.Ns c.e.locals m
  pL : pv c.e.locals = some .frame
  vars : ∀ x av, σ.lookup x = some av → VarOk c F g h pv m x av
  gl : Glob c.DO F g h pv G
  glen : g.length = G.length
  pre0 : pre c.g0 g
  tacks : ∀ a o, (a, o) ∈ c.T → pv a = some .tack ∧ h.get? a = some o
  pins : ∀ p ∈ c.pins, m p.1 = some p.2

noncomputable def FC.tk (c : FC) (T : List (Addr × Obj)) : FC := { c with T := T }
noncomputable def FC.pn (c : FC) (P : List (Str × Value)) : FC := { c with pins := P }

/-- what stays of a frame's constants -/
structure FC.Ok (c : FC) : Prop where
  kind : c.e.scope.kind = .function
  glob : c.e.globals = mainGlobals
  blt : c.e.builtins = builtinsNs

section
variable {c : FC} {F F' : Part} {g g' : List Addr} {G : GS} {σ : AEnv} {h h' : Heap} {pv pv' : Priv} {m : Str → Option Value}

theorem LsAt.keep {h h' : Heap} {a : Addr} {its : Array Value} (x : LsAt h a its) (k : ∀ o, h.get? a = some o → h'.get? a = some o) : LsAt h' a its :=
  let ⟨n, e⟩ := x; ⟨n, k _ e⟩

theorem AvOk.mono {P : DOb} {x : Str} {v : Value} (hF : Part.le F F') (hg : pre g g') (hp : ∀ a r, pv a = some r → r = .own x ∨ r = .sub x → pv' a = some r ∧ ∀ o, h.get? a = some o → h'.get? a = some o) :
    ∀ {av : AV}, AvOk P F g h pv x v av → AvOk P F' g' h' pv' x v av
  | .unb, q => q.elim
  | .d _, q => Rep.mono hF hg q
  | .con _, q => Rep.mono hF hg q
  | .lst _, ⟨a, vs, e, p, o, r⟩ => let ⟨p', e'⟩ := hp a _ p (.inl rfl); ⟨a, vs, e, p', LsAt.keep o e', Reps.mono hF hg r⟩
  | .dic _, ⟨a, o, kvs, e, p, ho, r1, r2, r⟩ => let ⟨p', e'⟩ := hp a _ p (.inl rfl); ⟨a, o, kvs, e, p', e' _ ho, r1, r2, Reps.mono hF hg r⟩
  | .ins _ _, ⟨a, dx, es, n, e, p, o, p2, o2, r1, r⟩ => let ⟨p', e'⟩ := hp a _ p (.inl rfl); let ⟨p2', e2'⟩ := hp dx _ p2 (.inr rfl); ⟨a, dx, es, n, e, p', e' _ o, p2', e2' _ o2, r1, Reps.mono hF hg r⟩

theorem CellAt.mono {x : Str} {av : AV} {cx : Addr} (hF : Part.le F F') (hp : pv cx = some (.cell x) → pv' cx = some (.cell x)) (q : CellAt c F pv x av cx) : CellAt c F' pv' x av cx := by
  rcases q with ⟨q, i⟩ | ⟨i, ⟨o, q⟩ | q⟩
  · exact .inl ⟨hp q, i⟩
  · exact .inr ⟨i, .inl ⟨o, hF _ _ q⟩⟩
  · exact .inr ⟨i, .inr q⟩

/-- the general step for a variable: frozen things grow, this variable's private things stand -/
theorem VarOk.step {x : Str} {av : AV} {m' : Str → Option Value} (hF : Part.le F F') (hg : pre g g') (hp : ∀ a r, pv a = some r → r = .own x ∨ r = .sub x ∨ r = .cell x → pv' a = some r ∧ ∀ o, h.get? a = some o → h'.get? a = some o)
    (hc : ∀ cx, CellAt c F pv x av cx → ∀ o, h.get? cx = some o → h'.get? cx = some o)
    (hm : c.e.kindOf x = some .local → m' x = m x) (q : VarOk c F g h pv m x av) : VarOk c F' g' h' pv' m' x av := by
  have hv : ∀ {v}, AvOk c.DO F g h pv x v av → AvOk c.DO F' g' h' pv' x v av := fun y => y.mono hF hg fun a r p z => hp a r p (z.elim .inl fun z => .inr (.inl z))
  have hw : ∀ {v}, CvOk c.DO F g h pv x v av → CvOk c.DO F' g' h' pv' x v av := fun y => y.imp (fun ⟨v, e, y⟩ => ⟨v, e, hv y⟩) id
  have hcell : ∀ cx v, h.IsCell cx v → CellAt c F pv x av cx → h'.IsCell cx v ∧ CellAt c F' pv' x av cx := fun cx v ⟨o, y1, y2⟩ z =>
    ⟨⟨o, hc cx z o y1, y2⟩, z.mono hF fun p => (hp cx _ p (.inr (.inr rfl))).1⟩
  unfold VarOk at q ⊢
  split at q
  · rename_i hk; obtain ⟨v, h1, h2⟩ := q; exact ⟨v, (hm hk).trans h1, hv h2⟩
  · obtain ⟨cx, v, h1, h2, h3, h4⟩ := q; exact ⟨cx, v, h1, (hcell cx v h2 h3).1, (hcell cx v h2 h3).2, hw h4⟩
  · obtain ⟨cx, v, h1, h2, h3, h4⟩ := q; exact ⟨cx, v, h1, (hcell cx v h2 h3).1, (hcell cx v h2 h3).2, hw h4⟩
  · exact q

theorem VarOk.grow {x : Str} {av : AV} (hF : Part.le F F') (hk : ∀ a o, h.get? a = some o → h'.get? a = some o) (q : VarOk c F g h pv m x av) : VarOk c F' g h' pv m x av :=
  q.step hF (.refl g) (fun a _ p _ => ⟨p, hk a⟩) (fun cx _ => hk cx) fun _ => rfl

theorem Core.notab' (R : Core c F h pv) {a : Addr} {r : Role} (p : pv a = some r) : a ≠ 1148 := fun z => absurd (R.priv a r p).2.1 (Nat.not_le.mpr (z ▸ Heap.lt_size c.B.tab))

theorem Rel.size (R : Rel c F g G σ h pv m) : c.h0.objs.size ≤ h.objs.size := by
  rcases R.fresh _ _ R.pL with y | ⟨k, y, _⟩
  · exact Nat.le_trans y (Nat.le_of_lt R.ns.lt)
  · cases y
theorem Rel.hsize (R : Rel c F g G σ h pv m) : c.hs.objs.size ≤ h.objs.size := Nat.le_trans (R.priv _ _ R.pL).2.1 (Nat.le_of_lt R.ns.lt)

/-- an allocating step keeps the frame -/
theorem Rel.grow (R : Rel c F g G σ h pv m) (W : Grow F h F' h') : Rel c F' g G σ h' pv m where
  base a o e q := W.le _ _ (R.base a o e q)
  sub := W.sub
  priv a r p := by
    obtain ⟨h1, h2, o, h3⟩ := R.priv a r p
    refine ⟨?_, h2, o, W.keep _ _ h3⟩
    cases e : F' a with
    | none => rfl
    | some o =>
      rcases W.new a (by rw [e]; exact fun q => nomatch q) with q | q
      · exact absurd h1 q
      · exact absurd (Heap.lt_size h3) (Nat.not_lt.mpr q)
  fresh := R.fresh
  freshF a e := (W.new a e).elim (fun q => R.freshF a q) fun q => .inr (Nat.le_trans R.size q)
  keep a o e q n := W.keep _ _ (R.keep a o e q n)
  lim := R.lim.keeps W.keep
  dig := let ⟨mc, a, b⟩ := R.dig; ⟨mc, a.keeps W.keep, b⟩
  tab := let ⟨vs, a, b⟩ := R.tab; ⟨vs, W.keep _ _ a, b.imp id fun ⟨ca, _, q1, q2, q3⟩ => ⟨ca, _, q1, W.le _ _ q2, q3⟩⟩
  notab := by
    cases e : F' 1148 with
    | none => rfl
    | some o =>
      rcases W.new 1148 (by rw [e]; exact fun q => nomatch q) with q | q
      · exact absurd R.notab q
      · obtain ⟨vs, z, _⟩ := R.tab
        exact absurd (Heap.lt_size z) (Nat.not_lt.mpr q)
  le0 := R.le0.trans W.le
  ns := R.ns.keeps W.keep
  pL := R.pL
  vars x av e := (R.vars x av e).grow W.le W.keep
  gl k a e := let ⟨p, vs, ds, e1, e2, r⟩ := R.gl k a e; ⟨p, vs, ds, e1, LsAt.keep e2 (W.keep _), Reps.mono W.le (.refl g) r⟩
  glen := R.glen
  pre0 := R.pre0
  tacks a o e := let ⟨p, q⟩ := R.tacks a o e; ⟨p, W.keep _ _ q⟩
  pins := R.pins
theorem Rel.ext (R : Rel c F g G σ h pv m) (k : ∀ a o, h.get? a = some o → h'.get? a = some o) : Rel c F g G σ h' pv m := R.grow (.keeps R.sub k)

theorem statics_lt (c : FC) : cStatics < c.hs.objs.size := let ⟨_, n, _⟩ := c.B.nolimit; n.lt
theorem tab_lt (c : FC) : 1148 < c.hs.objs.size := Heap.lt_size c.B.tab

/-- all but one thing stands -/
noncomputable def But (a : Addr) (h h' : Heap) : Prop := ∀ b, b ≠ a → ∀ o, h.get? b = some o → h'.get? b = some o
theorem But.of {a : Addr} {h h' : Heap} (x : Heap.SameBut a h h') : But a h h' := fun b n o e => (x.2 b n).trans e
theorem But.ns {a b : Addr} {h h' : Heap} {m : Str → Option Value} (x : But a h h') (n : b ≠ a) (y : h.Ns b m) : h'.Ns b m := let ⟨o, es, ep, e, r⟩ := y; ⟨o, es, ep, x b n o e, r⟩

/-- a store into a private thing keeps the rest -/
theorem Core.touch (R : Core c F h pv) {a : Addr} {r : Role} (p : pv a = some r) (hs : But a h h') (hl : ∃ o, h'.get? a = some o) : Core c F h' pv where
  base := R.base
  sub b o e := hs b (fun q => by rw [q, (R.priv a r p).1] at e; cases e) o (R.sub b o e)
  priv b r' p' := by
    obtain ⟨h1, h2, o, h3⟩ := R.priv b r' p'
    refine ⟨h1, h2, ?_⟩
    by_cases z : b = a
    · subst z; exact hl
    · exact ⟨o, hs b z o h3⟩
  fresh := R.fresh
  freshF := R.freshF
  keep b o e q n := hs b (fun z => by
    subst z
    rcases R.fresh b r p with y | ⟨k, _, y⟩
    · exact absurd (Heap.lt_size e) (Nat.not_lt.mpr y)
    · exact n (List.mem_of_getElem? y)) o (R.keep b o e q n)
  lim := let ⟨mc, x, y⟩ := R.lim; ⟨mc, hs.ns (fun z => absurd (R.priv a r p).2.1 (Nat.not_le.mpr (z ▸ statics_lt c))) x, y⟩
  dig := let ⟨mc, x, y⟩ := R.dig; ⟨mc, hs.ns (fun z => absurd (R.priv a r p).2.1 (Nat.not_le.mpr (z ▸ statics_lt c))) x, y⟩
  tab := let ⟨vs, x, y⟩ := R.tab; ⟨vs, hs _ (R.notab' p).symm _ x, y⟩
  notab := R.notab
  le0 := R.le0

theorem cell_apart {cx : Addr} {a : Addr} {r : Role} {x : Str} {av : AV} (R : Core c F h pv) (p : pv a = some r) (h3 : r ≠ .cell x) (q : CellAt c F pv x av cx) : cx ≠ a := by
  intro z
  subst z
  rcases q with ⟨q, _⟩ | ⟨_, ⟨o, q⟩ | ⟨o, q1, q2, q3⟩⟩
  · rw [p] at q; cases q; exact h3 rfl
  · rw [(R.priv cx r p).1] at q; cases q
  · rcases R.fresh cx r p with y | ⟨k, _, y⟩
    · exact absurd (Heap.lt_size q1) (Nat.not_lt.mpr y)
    · exact q3 (List.mem_of_getElem? y)

theorem priv_ne {a b : Addr} {r r' : Role} (p : pv a = some r) (p' : pv b = some r') (n : r' ≠ r) : b ≠ a := fun z => by subst z; rw [p] at p'; cases p'; exact n rfl

theorem VarOk.touch {x : Str} {av : AV} {a : Addr} {r : Role} {m' : Str → Option Value} (R : Core c F h pv) (p : pv a = some r) (h1 : r ≠ .own x) (h2 : r ≠ .sub x) (h3 : r ≠ .cell x) (hs : But a h h')
    (hm : c.e.kindOf x = some .local → m' x = m x) (q : VarOk c F g h pv m x av) : VarOk c F g h' pv m' x av :=
  q.step (.refl F) (.refl g) (fun b rb pb z => ⟨pb, hs b (priv_ne p pb (by rcases z with z | z | z <;> subst z <;> first | exact h1.symm | exact h2.symm | exact h3.symm))⟩)
    (fun cx z => hs cx (cell_apart R p h3 z)) hm

theorem Glob.touch {P : DOb} {a : Addr} {r : Role} (p : pv a = some r) (h1 : ∀ k, r ≠ .glob k) (hs : But a h h') (q : Glob P F g h pv G) : Glob P F g h' pv G := fun k b e => by
  obtain ⟨pb, vs, ds, e1, e2, e3⟩ := q k b e
  exact ⟨pb, vs, ds, e1, LsAt.keep e2 (hs b (priv_ne p pb (h1 k).symm)), e3⟩

noncomputable def put : AEnv → Str → AV → AEnv
  | [], x, av => [(x, av)]
  | (y, b) :: r, x, av => if y = x then (x, av) :: r else (y, b) :: put r x av
theorem put_lookup (σ : AEnv) (x : Str) (av : AV) (y : Str) : (put σ x av).lookup y = if y = x then some av else σ.lookup y := by
  induction σ with
  | nil =>
    show List.lookup y [(x, av)] = _
    rw [List.lookup_cons]
    by_cases h : y = x
    · simp [h]
    · have : (y == x) = false := by simpa using h
      rw [if_neg h, this]
  | cons p r ih =>
    obtain ⟨z, b⟩ := p
    unfold put
    by_cases h : z = x
    · subst h
      rw [if_pos rfl, List.lookup_cons, List.lookup_cons]
      by_cases q : y = z
      · simp [q]
      · have : (y == z) = false := by simpa using q
        simp [this, q]
    · rw [if_neg h, List.lookup_cons, List.lookup_cons, ih]
      by_cases q : y = z
      · subst q; simp [h]
      · have : (y == z) = false := by simpa using q
        simp [this]

/-- a local name bound -/
theorem Rel.storeL (R : Rel c F g G σ h pv m) (hpin : c.pins = []) {x : Str} {v : Value} {av : AV} (hk : c.e.kindOf x = some .local) (hv : AvOk c.DO F g h pv x v av)
    (hn : h'.Ns c.e.locals (fun y => if y = x then some v else m y)) (hs₀ : Heap.SameBut c.e.locals h h') : Rel c F g G (put σ x av) h' pv (fun y => if y = x then some v else m y) where
  toCore := R.toCore.touch R.pL (.of hs₀) (let ⟨o, _, _, e, _⟩ := hn; ⟨o, e⟩)
  ns := hn
  pL := R.pL
  vars y b e := by
    rw [put_lookup] at e
    by_cases q : y = x
    · subst q
      rw [if_pos rfl] at e
      cases e
      unfold VarOk
      rw [hk]
      refine ⟨v, if_pos rfl, hv.mono (.refl F) (.refl g) fun b rb pb z => ⟨pb, But.of hs₀ b (priv_ne R.pL pb ?_)⟩⟩
      rcases z with z | z <;> subst z <;> exact fun z => nomatch z
    · rw [if_neg q] at e
      exact (R.vars y b e).touch R.toCore R.pL (fun z => nomatch z) (fun z => nomatch z) (fun z => nomatch z) (.of hs₀) fun _ => if_neg q
  gl := R.gl.touch R.pL (fun _ z => nomatch z) (.of hs₀)
  glen := R.glen
  pre0 := R.pre0
  tacks a o e := let ⟨p, q⟩ := R.tacks a o e; ⟨p, But.of hs₀ a (priv_ne R.pL p fun z => nomatch z) _ q⟩
  pins := fun p hp => by rw [hpin] at hp; cases hp

/-- a captured name of this frame bound -/
theorem Rel.storeC (R : Rel c F g G σ h pv m) {x : Str} {v : Value} {d : D} {cx : Addr} (hk : c.e.kindOf x = some .cell) (hx : c.e.cells.lookup x = some cx) (hp : pv cx = some (.cell x)) (hv : Rep c.DO F g v d)
    (hn : h'.IsCell cx (some v)) (hs₀ : Heap.SameBut cx h h') : Rel c F g G (put σ x (.d d)) h' pv m where
  toCore := R.toCore.touch hp (.of hs₀) (let ⟨o, e, _⟩ := hn; ⟨o, e⟩)
  ns := (But.of hs₀).ns (priv_ne hp R.pL fun z => nomatch z) R.ns
  pL := R.pL
  vars y b e := by
    rw [put_lookup] at e
    by_cases q : y = x
    · subst q
      rw [if_pos rfl] at e
      cases e
      unfold VarOk
      rw [hk]
      exact ⟨cx, some v, hx, hn, .inl ⟨hp, rfl⟩, .inl ⟨v, rfl, hv⟩⟩
    · rw [if_neg q] at e
      exact (R.vars y b e).touch R.toCore hp (fun z => nomatch z) (fun z => nomatch z) (fun z => by cases z; exact q rfl) (.of hs₀) fun _ => rfl
  gl := R.gl.touch hp (fun _ z => nomatch z) (.of hs₀)
  glen := R.glen
  pre0 := R.pre0
  tacks a o e := let ⟨p, q⟩ := R.tacks a o e; ⟨p, But.of hs₀ a (priv_ne hp p fun z => nomatch z) _ q⟩
  pins := R.pins
end
end Mine
end

section
open PySem PySem.W PyProof.Rows PySem.Calls PySem.Spec
set_option Elab.async false
set_option backward.match.sparseCases false
set_option maxRecDepth 100000
namespace Mine
section
variable {c : FC} {F F' : Part} {g g' : List Addr} {G G' : GS} {σ σ' : AEnv} {h h' : Heap} {pv pv' : Priv} {m : Str → Option Value}

noncomputable def Priv.drop (pv : Priv) (a : Addr) : Priv := fun b => if b = a then .none else pv b
noncomputable def Priv.claim (pv : Priv) (a : Addr) (r : Role) : Priv := fun b => if b = a then some r else pv b

/-- what the frame x alone holds is frozen -/
theorem Rel.freeze (R : Rel c F g G σ h pv m) {x : Str} {a : Addr} {r : Role} {o : Obj} (p : pv a = some r) (hr : r = .own x ∨ r = .sub x ∨ r = .cell x) (ho : h.get? a = some o)
    (h1 : ∀ y, y ≠ x → σ'.lookup y = σ.lookup y) (h2 : ∀ av, σ'.lookup x = some av → VarOk c (F.set a o) g h (pv.drop a) m x av) : Rel c (F.set a o) g G σ' h (pv.drop a) m := by
  have hF : F a = .none := (R.priv a r p).1
  have le : Part.le F (F.set a o) := Part.le_set hF
  have ne : ∀ b rb, pv b = some rb → rb ≠ r → pv.drop a b = some rb := fun b rb pb n => (if_neg (priv_ne p pb n)).trans pb
  have dr : ∀ b rb, pv.drop a b = some rb → b ≠ a ∧ pv b = some rb := fun b rb e => by
    by_cases z : b = a
    · rw [Priv.drop, if_pos z] at e; cases e
    · rw [Priv.drop, if_neg z] at e; exact ⟨z, e⟩
  have hg : ∀ k, r ≠ .glob k := fun k z => by rcases hr with y | y | y <;> rw [y] at z <;> cases z
  exact {
    base := fun b ob e q => le _ _ (R.base b ob e q)
    sub := fun b ob e => by
      by_cases z : b = a
      · subst z; rw [Part.set_self] at e; cases e; exact ho
      · rw [Part.set_ne _ _ z] at e; exact R.sub b ob e
    priv := fun b rb e => by
      obtain ⟨z, e⟩ := dr b rb e
      obtain ⟨q1, q2, q3⟩ := R.priv b rb e
      exact ⟨by rw [Part.set_ne _ _ z]; exact q1, q2, q3⟩
    fresh := fun b rb e => R.fresh b rb (dr b rb e).2
    freshF := fun b e => by
      by_cases z : b = a
      · subst z
        rcases R.fresh b r p with y | ⟨k, y, _⟩
        · exact .inr y
        · exact absurd y (hg k)
      · rw [Part.set_ne _ _ z] at e; exact R.freshF b e
    keep := R.keep
    lim := R.lim
    dig := R.dig
    tab := let ⟨vs, e1, e2⟩ := R.tab; ⟨vs, e1, e2.imp id fun ⟨ca, o, q1, q2, q3⟩ => ⟨ca, o, q1, le _ _ q2, q3⟩⟩
    notab := by rw [Part.set_ne _ _ (R.notab' p).symm]; exact R.notab
    le0 := R.le0.trans le
    ns := R.ns
    pL := ne _ _ R.pL (by rcases hr with y | y | y <;> subst y <;> exact fun z => nomatch z)
    vars := fun y av e => by
      by_cases z : y = x
      · subst z; exact h2 av e
      · rw [h1 y z] at e
        refine (R.vars y av e).step le (.refl g) (fun b rb pb q => ⟨ne b rb pb ?_, fun _ e => e⟩) (fun _ _ _ e => e) fun _ => rfl
        intro w
        subst w
        rcases hr with w | w | w <;> rcases q with q | q | q <;> rw [w] at q <;> cases q <;> exact z rfl
    gl := fun k b e => let ⟨pb, vs, ds, e1, e2, e3⟩ := R.gl k b e; ⟨ne b _ pb (hg k).symm, vs, ds, e1, e2, Reps.mono le (.refl g) e3⟩
    glen := R.glen
    pre0 := R.pre0
    pins := R.pins
    tacks := fun b ob e => let ⟨pb, e⟩ := R.tacks b ob e; ⟨ne b _ pb (by rcases hr with y | y | y <;> subst y <;> exact fun z => nomatch z), e⟩ }

/-- a private thing is frozen: the general form; the tacks may become fewer -/
theorem Rel.freezeG (R : Rel c F g G σ h pv m) {T : List (Addr × Obj)} {a : Addr} {r : Role} {o : Obj} (p : pv a = some r) (hg : ∀ k, r ≠ .glob k) (hf : r ≠ .frame) (ho : h.get? a = some o)
    (hT : ∀ b ob, (b, ob) ∈ T → (b, ob) ∈ c.T ∧ b ≠ a) (hv : ∀ y av, σ'.lookup y = some av → VarOk c (F.set a o) g h (pv.drop a) m y av) : Rel (c.tk T) (F.set a o) g G σ' h (pv.drop a) m := by
  have hF : F a = .none := (R.priv a r p).1
  have le : Part.le F (F.set a o) := Part.le_set hF
  have ne : ∀ b rb, pv b = some rb → b ≠ a → pv.drop a b = some rb := fun b rb pb n => (if_neg n).trans pb
  have dr : ∀ b rb, pv.drop a b = some rb → b ≠ a ∧ pv b = some rb := fun b rb e => by
    by_cases z : b = a
    · rw [Priv.drop, if_pos z] at e; cases e
    · rw [Priv.drop, if_neg z] at e; exact ⟨z, e⟩
  exact {
    base := fun b ob e q => le _ _ (R.base b ob e q)
    sub := fun b ob e => by
      by_cases z : b = a
      · subst z; rw [Part.set_self] at e; cases e; exact ho
      · rw [Part.set_ne _ _ z] at e; exact R.sub b ob e
    priv := fun b rb e => by
      obtain ⟨z, e⟩ := dr b rb e
      obtain ⟨q1, q2, q3⟩ := R.priv b rb e
      exact ⟨by rw [Part.set_ne _ _ z]; exact q1, q2, q3⟩
    fresh := fun b rb e => R.fresh b rb (dr b rb e).2
    freshF := fun b e => by
      by_cases z : b = a
      · subst z
        rcases R.fresh b r p with y | ⟨k, y, _⟩
        · exact .inr y
        · exact absurd y (hg k)
      · rw [Part.set_ne _ _ z] at e; exact R.freshF b e
    keep := R.keep
    lim := R.lim
    dig := R.dig
    tab := let ⟨vs, e1, e2⟩ := R.tab; ⟨vs, e1, e2.imp id fun ⟨ca, o, q1, q2, q3⟩ => ⟨ca, o, q1, le _ _ q2, q3⟩⟩
    notab := by rw [Part.set_ne _ _ (R.notab' p).symm]; exact R.notab
    le0 := R.le0.trans le
    ns := R.ns
    pL := ne _ _ R.pL (priv_ne p R.pL hf.symm)
    vars := hv
    gl := fun k b e => let ⟨pb, vs, ds, e1, e2, e3⟩ := R.gl k b e; ⟨ne b _ pb (priv_ne p pb (hg k).symm), vs, ds, e1, e2, Reps.mono le (.refl g) e3⟩
    glen := R.glen
    pre0 := R.pre0
    pins := R.pins
    tacks := fun b ob e => let ⟨e1, n⟩ := hT b ob e; let ⟨pb, e⟩ := R.tacks b ob e1; ⟨ne b _ pb n, e⟩ }

/-- what the frame holds apart, under no name: taken, changed, let go, frozen -/
theorem Rel.tackFree (R : Rel c F g G σ h pv m) {T : List (Addr × Obj)} (hT : ∀ p ∈ T, p ∈ c.T) : Rel (c.tk T) F g G σ h pv m :=
  { R with tacks := fun a o e => R.tacks a o (hT _ e) }
theorem Rel.tackSet {a : Addr} {o o' : Obj} {T : List (Addr × Obj)} (R : Rel (c.tk ((a, o) :: T)) F g G σ h pv m) (hs : But a h h') (ho : h'.get? a = some o') (hT : ∀ p ∈ T, p.1 ≠ a) : Rel (c.tk ((a, o') :: T)) F g G σ h' pv m := by
  have p : pv a = some .tack := (R.tacks a o (.head _)).1
  have tc := R.toCore.touch p hs ⟨o', ho⟩
  have rc : Core (c.tk ((a, o') :: T)) F h pv := { R.toCore with }
  exact {
    base := tc.base
    sub := tc.sub
    priv := tc.priv
    fresh := tc.fresh
    freshF := tc.freshF
    keep := tc.keep
    lim := tc.lim
    dig := tc.dig
    tab := tc.tab
    notab := tc.notab
    le0 := tc.le0
    ns := hs.ns (priv_ne p R.pL fun z => nomatch z) R.ns
    pL := R.pL
    vars := fun y b e => VarOk.touch (c := c.tk ((a, o') :: T)) rc p (fun z => nomatch z) (fun z => nomatch z) (fun z => nomatch z) hs (fun _ => rfl) (R.vars y b e)
    gl := R.gl.touch p (fun _ z => nomatch z) hs
    glen := R.glen
    pre0 := R.pre0
    pins := R.pins
    tacks := fun b ob e => by
      rcases List.mem_cons.mp e with e | e
      · cases e; exact ⟨p, ho⟩
      · have := R.tacks b ob (.tail _ e)
        exact ⟨this.1, hs b (hT _ e) _ this.2⟩ }
/-- a new thing is taken as this frame's own -/
theorem Rel.claim (R : Rel c F g G σ h pv m) {a : Addr} (r : Role) (h1 : F a = .none) (h2 : c.h0.objs.size ≤ a) (h3 : c.hs.objs.size ≤ a) (h4 : ∃ o, h.get? a = some o) (hp : pv a = .none) : Rel c F g G σ h (pv.claim a r) m := by
  have up : ∀ b rb, pv b = some rb → pv.claim a r b = some rb := fun b rb e => (if_neg (fun z => by subst z; rw [hp] at e; cases e)).trans e
  have dn : ∀ b rb, pv.claim a r b = some rb → (b = a ∧ rb = r) ∨ pv b = some rb := fun b rb e => by
    by_cases z : b = a
    · rw [Priv.claim, if_pos z] at e; cases e; exact .inl ⟨z, rfl⟩
    · rw [Priv.claim, if_neg z] at e; exact .inr e
  exact {
    base := R.base
    sub := R.sub
    priv := fun b rb e => by
      rcases dn b rb e with ⟨rfl, _⟩ | e
      · exact ⟨h1, h3, h4⟩
      · exact R.priv b rb e
    fresh := fun b rb e => by
      rcases dn b rb e with ⟨rfl, _⟩ | e
      · exact .inl h2
      · exact R.fresh b rb e
    freshF := R.freshF
    keep := R.keep
    lim := R.lim
    dig := R.dig
    tab := R.tab
    notab := R.notab
    le0 := R.le0
    ns := R.ns
    pL := up _ _ R.pL
    vars := fun y av e => (R.vars y av e).step (.refl F) (.refl g) (fun b rb pb _ => ⟨up b rb pb, fun _ e => e⟩) (fun _ _ _ e => e) fun _ => rfl
    gl := fun k b e => let ⟨pb, r⟩ := R.gl k b e; ⟨up _ _ pb, r⟩
    glen := R.glen
    pre0 := R.pre0
    pins := R.pins
    tacks := fun b ob e => let ⟨pb, e⟩ := R.tacks b ob e; ⟨up _ _ pb, e⟩ }

theorem Rel.tackOn (R : Rel c F g G σ h pv m) {a : Addr} {o : Obj} (h1 : F a = .none) (h2 : c.h0.objs.size ≤ a) (h3 : c.hs.objs.size ≤ a) (h4 : h.get? a = some o) (hp : pv a = .none) :
    Rel (c.tk ((a, o) :: c.T)) F g G σ h (pv.claim a .tack) m ∧ ∀ p ∈ c.T, p.1 ≠ a := by
  have R' := R.claim .tack h1 h2 h3 ⟨o, h4⟩ hp
  have ne : ∀ p ∈ c.T, p.1 ≠ a := fun p e z => by
    have := (R.tacks p.1 p.2 e).1
    rw [z, hp] at this; cases this
  refine ⟨{ R' with tacks := fun b ob e => ?_ }, ne⟩
  rcases List.mem_cons.mp e with e | e
  · cases e; exact ⟨if_pos rfl, h4⟩
  · exact R'.tacks b ob e
/-- a new list is put under the shared ones -/
theorem Rel.share (R : Rel c F g G σ h pv m) {a : Addr} {vs : List Value} {ds : List D} (h1 : F a = .none) (h2 : c.h0.objs.size ≤ a) (h3 : c.hs.objs.size ≤ a) (h4 : LsAt h a (List.toArray vs)) (hp : pv a = .none) (hr : Reps c.DO F g vs ds) :
    Rel c F (g ++ [a]) (G ++ [ds]) σ h (pv.claim a (.glob g.length)) m := by
  have R' := R.claim (.glob g.length) h1 h2 h3 (let ⟨_, e⟩ := h4; ⟨_, e⟩) hp
  have hg : pre g (g ++ [a]) := fun k b e => by rw [List.getElem?_append_left (List.getElem?_eq_some_iff.mp e).1]; exact e
  exact { R' with
    vars := fun y av e => (R'.vars y av e).step (.refl F) hg (fun b rb pb _ => ⟨pb, fun _ e => e⟩) (fun _ _ _ e => e) fun _ => rfl
    gl := fun k b e => by
      by_cases z : k < g.length
      · rw [List.getElem?_append_left z] at e
        obtain ⟨pb, vs', ds', e1, e2, e3⟩ := R'.gl k b e
        exact ⟨pb, vs', ds', by rw [List.getElem?_append_left (by rw [← R.glen]; exact z)]; exact e1, e2, Reps.mono (.refl F) hg e3⟩
      · rw [List.getElem?_append_right (Nat.not_lt.mp z)] at e
        have k0 : k = g.length := by
          have := (List.getElem?_eq_some_iff.mp e).1
          simp at this; omega
        subst k0
        simp at e
        subst e
        refine ⟨if_pos rfl, vs, ds, ?_, h4, Reps.mono (.refl F) hg hr⟩
        rw [R.glen]; simp
    glen := by simp [R.glen]
    pre0 := R.pre0.trans hg }

/-- the world without a frame -/
structure WR (DO : DOb) (hs : Heap) (F : Part) (g : List Addr) (G : GS) (h : Heap) : Prop where
  base : ∀ a o, hs.get? a = some o → a ≠ 1148 → F a = some o
  sub : ∀ a o, F a = some o → h.get? a = some o
  gl : ∀ (k : Nat) (a : Addr), g[k]? = some a → F a = .none ∧ hs.objs.size ≤ a ∧ ∃ vs ds, G[k]? = some ds ∧ LsAt h a (List.toArray vs) ∧ Reps DO F g vs ds
  nd : g.Nodup
  hsz : hs.objs.size ≤ h.objs.size
  glen : g.length = G.length
  lim : h.NoLimit
  dig : ∃ mc, h.Ns cStatics mc ∧ mc "sys.int_max_str_digits" = .none
  tab : ∃ vs, h.get? 1148 = some ⟨.none, .none, .fields vs, #[]⟩ ∧ TabVs F vs
  notab : F 1148 = .none

theorem Rel.nd (R : Rel c F g G σ h pv m) : g.Nodup := by
  refine List.pairwise_iff_getElem.mpr fun i j hi hj hij e => ?_
  have p1 := (R.gl i _ (List.getElem?_eq_getElem hi)).1
  have p2 := (R.gl j _ (List.getElem?_eq_getElem hj)).1
  rw [e, p2] at p1
  injection p1 with p1
  injection p1 with p1
  omega

theorem Rel.wr (R : Rel c F g G σ h pv m) : WR c.DO c.hs F g G h where
  base := R.base
  sub := R.sub
  gl k a e := let ⟨p, r⟩ := R.gl k a e; let ⟨q1, q2, _⟩ := R.priv a _ p; ⟨q1, q2, r⟩
  nd := R.nd
  hsz := R.hsize
  glen := R.glen
  lim := R.lim
  dig := R.dig
  tab := R.tab
  notab := R.notab

noncomputable def pg (g : List Addr) : Priv := fun a => (g.idxOf? a).map Role.glob
theorem pg_some {g : List Addr} (nd : g.Nodup) {k : Nat} {a : Addr} (e : g[k]? = some a) : pg g a = some (.glob k) := by
  unfold pg
  obtain ⟨hk, e⟩ := List.getElem?_eq_some_iff.mp e
  have : g.idxOf? a = some k := by
    subst e
    rw [List.idxOf?_eq_some_iff]
    exact ⟨hk, rfl, fun j hj z => (List.pairwise_iff_getElem.mp nd) j k _ hk hj z⟩
  rw [this]; rfl
theorem pg_inv {g : List Addr} {a : Addr} {r : Role} (e : pg g a = some r) : ∃ k : Nat, r = .glob k ∧ g[k]? = some a := by
  unfold pg at e
  cases q : g.idxOf? a with
  | none => rw [q] at e; cases e
  | some k =>
    rw [q] at e
    cases e
    obtain ⟨hk, e, _⟩ := List.idxOf?_eq_some_iff.mp q
    exact ⟨k, rfl, by rw [List.getElem?_eq_getElem hk, e]⟩
theorem pg_none {g : List Addr} {a : Addr} (e : a ∉ g) : pg g a = .none := by
  cases q : pg g a with
  | none => rfl
  | some r => obtain ⟨k, _, z⟩ := pg_inv q; exact absurd (List.mem_of_getElem? z) e

/-- what a call gives back to the one who called -/
structure Back (F : Part) (g : List Addr) (h : Heap) (F' : Part) (g' : List Addr) (h' : Heap) : Prop where
  le : Part.le F F'
  pre : pre g g'
  keep : ∀ a o, h.get? a = some o → a ≠ 1148 → a ∉ g → h'.get? a = some o
  freshF : ∀ a, F' a ≠ .none → F a ≠ .none ∨ h.objs.size ≤ a
  freshG : ∀ a ∈ g', a ∈ g ∨ h.objs.size ≤ a

theorem Rel.out (R : Rel c F g G σ h pv m) : Back c.F0 c.g0 c.h0 F g h where
  le := R.le0
  pre := R.pre0
  keep := R.keep
  freshF := R.freshF
  freshG a e := by
    obtain ⟨k, hk, e⟩ := List.getElem_of_mem e
    have p := (R.gl k a (by rw [List.getElem?_eq_getElem hk, e])).1
    exact (R.fresh a _ p).elim .inr fun ⟨_, _, z⟩ => .inl (List.mem_of_getElem? z)

/-- the caller goes on -/
theorem Rel.back (R : Rel c F g G σ h pv m) (W : WR c.DO c.hs F' g' G' h') (K : Back F g h F' g' h') : ∃ pv', Rel c F' g' G' σ h' pv' m ∧ ∀ a, pv a = .none → a ∉ g' → pv' a = .none := by
  let pv' : Priv := fun a => match pv a with | some r => some r | .none => pg g' a
  have up : ∀ b rb, pv b = some rb → pv' b = some rb := fun b rb e => by show (match pv b with | some r => some r | .none => pg g' b) = _; rw [e]
  have dn : ∀ b rb, pv' b = some rb → pv b = some rb ∨ (pv b = .none ∧ ∃ k : Nat, rb = .glob k ∧ g'[k]? = some b) := fun b rb e => by
    change (match pv b with | some r => some r | .none => pg g' b) = _ at e
    cases q : pv b with
    | some r => rw [q] at e; exact .inl e
    | none => rw [q] at e; exact .inr ⟨rfl, pg_inv e⟩
  have gb : ∀ k b, g[k]? = some b → pv b = some (.glob k) := fun k b e => (R.gl k b e).1
  have notg : ∀ b rb, pv b = some rb → (∀ k, rb ≠ .glob k) → b ∉ g := fun b rb e n z => by
    obtain ⟨k, hk, z⟩ := List.getElem_of_mem z
    have := gb k b (by rw [List.getElem?_eq_getElem hk, z])
    rw [e] at this; cases this; exact n k rfl
  have kp : ∀ b rb, pv b = some rb → (∀ k, rb ≠ .glob k) → ∀ o, h.get? b = some o → h'.get? b = some o := fun b rb e n o eo => K.keep b o eo (R.notab' e) (notg b rb e n)
  have pF : ∀ b rb, pv b = some rb → F' b = .none := fun b rb e => by
    obtain ⟨q1, _, _, q3⟩ := R.priv b rb e
    cases z : F' b with
    | none => rfl
    | some o =>
      rcases K.freshF b (by rw [z]; exact fun y => nomatch y) with y | y
      · exact absurd q1 y
      · exact absurd (Heap.lt_size q3) (Nat.not_lt.mpr y)
  refine ⟨pv', ?_, fun a e n => by show (match pv a with | some r => some r | .none => pg g' a) = _; rw [e]; exact pg_none n⟩
  exact {
    base := W.base
    sub := W.sub
    priv := fun b rb e => by
      rcases dn b rb e with e | ⟨_, k, rfl, eg⟩
      · obtain ⟨q1, q2, o, q3⟩ := R.priv b rb e
        refine ⟨pF b rb e, q2, ?_⟩
        by_cases z : b ∈ g
        · obtain ⟨j, hj, z⟩ := List.getElem_of_mem z
          obtain ⟨_, _, vs, ds, _, ⟨n, z⟩, _⟩ := W.gl j b (K.pre j b (by rw [List.getElem?_eq_getElem hj, z]))
          exact ⟨_, z⟩
        · exact ⟨o, K.keep b o q3 (R.notab' e) z⟩
      · obtain ⟨q1, q2, vs, ds, _, ⟨n, z⟩, _⟩ := W.gl k b eg
        exact ⟨q1, q2, _, z⟩
    fresh := fun b rb e => by
      rcases dn b rb e with e | ⟨pn, k, rfl, eg⟩
      · exact R.fresh b rb e
      · rcases K.freshG b (List.mem_of_getElem? eg) with z | z
        · obtain ⟨j, hj, z⟩ := List.getElem_of_mem z
          have := gb j b (by rw [List.getElem?_eq_getElem hj, z])
          rw [pn] at this; cases this
        · exact .inl (Nat.le_trans R.size z)
    freshF := fun b e => (K.freshF b e).elim (R.freshF b) fun z => .inr (Nat.le_trans R.size z)
    keep := fun b o e n1 n2 => by
      refine K.keep b o (R.keep b o e n1 n2) n1 fun z => ?_
      obtain ⟨j, hj, z⟩ := List.getElem_of_mem z
      rcases R.fresh b _ (gb j b (by rw [List.getElem?_eq_getElem hj, z])) with y | ⟨k, _, y⟩
      · exact absurd (Heap.lt_size e) (Nat.not_lt.mpr y)
      · exact n2 (List.mem_of_getElem? y)
    lim := W.lim
    dig := W.dig
    tab := W.tab
    notab := W.notab
    le0 := R.le0.trans K.le
    ns := let ⟨o, es, ep, e, r⟩ := R.ns; ⟨o, es, ep, kp _ _ R.pL (fun _ z => nomatch z) o e, r⟩
    pL := up _ _ R.pL
    vars := fun y av e => (R.vars y av e).step K.le K.pre (fun b rb pb z => ⟨up b rb pb, kp b rb pb (by rcases z with z | z | z <;> subst z <;> exact fun _ y => nomatch y)⟩)
      (fun cx z o eo => by
        rcases z with ⟨z, _⟩ | ⟨_, ⟨o', z⟩ | ⟨o', z1, z2, z3⟩⟩
        · exact kp cx _ z (fun _ y => nomatch y) o eo
        · have := R.sub cx o' z
          rw [eo] at this; cases this
          exact W.sub cx o (K.le _ _ z)
        · refine K.keep cx o eo z2 fun z => ?_
          obtain ⟨j, hj, z⟩ := List.getElem_of_mem z
          rcases R.fresh cx _ (gb j cx (by rw [List.getElem?_eq_getElem hj, z])) with y | ⟨k, _, y⟩
          · exact absurd (Heap.lt_size z1) (Nat.not_lt.mpr y)
          · exact z3 (List.mem_of_getElem? y)) fun _ => rfl
    gl := fun k b e => by
      obtain ⟨q1, q2, r⟩ := W.gl k b e
      refine ⟨?_, r⟩
      rcases K.freshG b (List.mem_of_getElem? e) with z | z
      · obtain ⟨j, hj, z⟩ := List.getElem_of_mem z
        have ej : g[j]? = some b := by rw [List.getElem?_eq_getElem hj, z]
        have := K.pre j b ej
        have pj := pg_some W.nd this
        rw [pg_some W.nd e] at pj
        injection pj with pj
        rw [pj]
        exact up _ _ (gb j b ej)
      · have pn : pv b = .none := by
          cases q : pv b with
          | none => rfl
          | some rb => exact absurd (let ⟨_, _, _, y⟩ := R.priv b rb q; Heap.lt_size y) (Nat.not_lt.mpr z)
        show (match pv b with | some r => some r | .none => pg g' b) = _
        rw [pn]
        exact pg_some W.nd e
    glen := W.glen
    pre0 := R.pre0.trans K.pre
    pins := R.pins
    tacks := fun b o e => let ⟨pb, q⟩ := R.tacks b o e; ⟨up _ _ pb, kp b _ pb (fun _ z => nomatch z) o q⟩ }

/-- something that is no part of the frame goes another way -/
theorem Rel.apart (R : Rel c F g G σ h pv m) {a : Addr} (h1 : F a = .none) (h2 : c.h0.objs.size ≤ a) (h3 : c.hs.objs.size ≤ a) (h4 : pv a = .none) (k : But a h h') : Rel c F g G σ h' pv m := by
  have pn : ∀ b r, pv b = some r → b ≠ a := fun b r e z => by subst z; rw [h4] at e; cases e
  have Fn : ∀ b o, F b = some o → b ≠ a := fun b o e z => by subst z; rw [h1] at e; cases e
  have sn : cStatics ≠ a := fun z => absurd h3 (Nat.not_le.mpr (z ▸ statics_lt c))
  exact {
    base := R.base
    sub := fun b o e => k b (Fn b o e) o (R.sub b o e)
    priv := fun b r e => let ⟨q1, q2, o, q3⟩ := R.priv b r e; ⟨q1, q2, o, k b (pn b r e) o q3⟩
    fresh := R.fresh
    freshF := R.freshF
    keep := fun b o e n1 n2 => k b (fun z => absurd (Heap.lt_size e) (Nat.not_lt.mpr (z ▸ h2))) o (R.keep b o e n1 n2)
    lim := let ⟨mc, x, y⟩ := R.lim; ⟨mc, k.ns sn x, y⟩
    dig := let ⟨mc, x, y⟩ := R.dig; ⟨mc, k.ns sn x, y⟩
    tab := let ⟨vs, x, y⟩ := R.tab; ⟨vs, k _ (fun z => absurd h3 (Nat.not_le.mpr (z ▸ tab_lt c))) _ x, y⟩
    notab := R.notab
    le0 := R.le0
    ns := k.ns (pn _ _ R.pL) R.ns
    pL := R.pL
    vars := fun y av e => (R.vars y av e).step (.refl F) (.refl g) (fun b rb pb _ => ⟨pb, k b (pn b rb pb)⟩) (fun cx z => by
      refine k cx ?_
      rcases z with ⟨z, _⟩ | ⟨_, ⟨o, z⟩ | ⟨o, z, _⟩⟩
      · exact pn _ _ z
      · exact Fn _ _ z
      · exact fun y => absurd (Heap.lt_size z) (Nat.not_lt.mpr (y ▸ h2))) fun _ => rfl
    gl := fun j b e => let ⟨pb, vs, ds, e1, e2, e3⟩ := R.gl j b e; ⟨pb, vs, ds, e1, LsAt.keep e2 (k b (pn b _ pb)), e3⟩
    glen := R.glen
    pre0 := R.pre0
    pins := R.pins
    tacks := fun b o e => let ⟨pb, e⟩ := R.tacks b o e; ⟨pb, k b (pn b _ pb) o e⟩ }

/-- a claim is given up -/
theorem Rel.unclaim (R : Rel c F g G σ h pv m) {T : List (Addr × Obj)} {a : Addr} {o : Obj} (ha : (a, o) ∈ c.T) (hT : ∀ p ∈ T, p ∈ c.T ∧ p.1 ≠ a) :
    Rel (c.tk T) F g G σ h (pv.drop a) m ∧ F a = .none ∧ c.h0.objs.size ≤ a ∧ c.hs.objs.size ≤ a ∧ h.get? a = some o := by
  obtain ⟨p, e⟩ := R.tacks a o ha
  have ne : ∀ b rb, pv b = some rb → b ≠ a → pv.drop a b = some rb := fun b rb pb n => (if_neg n).trans pb
  have dr : ∀ b rb, pv.drop a b = some rb → b ≠ a ∧ pv b = some rb := fun b rb e => by
    by_cases z : b = a
    · rw [Priv.drop, if_pos z] at e; cases e
    · rw [Priv.drop, if_neg z] at e; exact ⟨z, e⟩
  refine ⟨?_, (R.priv a _ p).1, (R.fresh a _ p).elim id (fun ⟨_, z, _⟩ => nomatch z), (R.priv a _ p).2.1, e⟩
  exact {
    base := R.base
    sub := R.sub
    priv := fun b r e => R.priv b r (dr b r e).2
    fresh := fun b r e => R.fresh b r (dr b r e).2
    freshF := R.freshF
    keep := R.keep
    lim := R.lim
    dig := R.dig
    tab := R.tab
    notab := R.notab
    le0 := R.le0
    ns := R.ns
    pL := ne _ _ R.pL (priv_ne p R.pL fun z => nomatch z)
    vars := fun y av e => VarOk.step (c := c) (.refl F) (.refl g) (fun b rb pb z => ⟨ne b rb pb (priv_ne p pb (by rcases z with z | z | z <;> subst z <;> exact fun y => nomatch y)), fun _ e => e⟩) (fun _ _ _ e => e) (fun _ => rfl) (R.vars y av e)
    gl := fun j b e => let ⟨pb, r⟩ := R.gl j b e; ⟨ne b _ pb (priv_ne p pb fun z => nomatch z), r⟩
    glen := R.glen
    pre0 := R.pre0
    pins := R.pins
    tacks := fun b ob e => let ⟨e1, n⟩ := hT _ e; let ⟨pb, e⟩ := R.tacks b ob e1; ⟨ne b _ pb n, e⟩ }

/-- a thing held apart is given up, and goes its way -/
theorem Rel.lose {a : Addr} {o : Obj} {T : List (Addr × Obj)} (R : Rel (c.tk ((a, o) :: T)) F g G σ h pv m) (hT : ∀ p ∈ T, p.1 ≠ a) (k : But a h h') : ∃ pv', Rel (c.tk T) F g G σ h' pv' m := by
  obtain ⟨R', e1, e2, e3, _⟩ := R.unclaim (T := T) (.head _) fun p hp => ⟨.tail _ hp, hT p hp⟩
  exact ⟨_, Rel.apart (c := c.tk T) R' e1 e2 e3 (if_pos rfl) k⟩

/-- a frame is entered -/
theorem WR.enter {w : World} {DO : DOb} {hs h h₁ : Heap} {K : Frag} {e : Env} {m : Str → Option Value} {pv : Priv} {σ : AEnv} (B : Base w hs) (W : WR DO hs F g G h) (k : ∀ a o, h.get? a = some o → h₁.get? a = some o) (ns : h₁.Ns e.locals m) (hL : h.objs.size ≤ e.locals)
    (hp : ∀ a r, pv a = some r → (h.objs.size ≤ a ∧ ∃ o, h₁.get? a = some o) ∨ ∃ k : Nat, r = .glob k ∧ g[k]? = some a) (pL : pv e.locals = some .frame) (hg : ∀ (k : Nat) a, g[k]? = some a → pv a = some (.glob k))
    (vars : ∀ x av, σ.lookup x = some av → VarOk ⟨w, DO, hs, K, B, e, h, F, g, [], []⟩ F g h₁ pv m x av) : Rel ⟨w, DO, hs, K, B, e, h, F, g, [], []⟩ F g G σ h₁ pv m where
  base := W.base
  sub a o e := k a o (W.sub a o e)
  priv a r e := by
    rcases hp a r e with ⟨h1, h2⟩ | ⟨k', rfl, h1⟩
    · refine ⟨?_, Nat.le_trans W.hsz h1, h2⟩
      cases z : F a with
      | none => rfl
      | some o => exact absurd (Heap.lt_size (W.sub a o z)) (Nat.not_lt.mpr h1)
    · obtain ⟨q1, q2, vs, ds, _, ⟨n, z⟩, _⟩ := W.gl k' a h1
      exact ⟨q1, q2, _, k a _ z⟩
  fresh a r e := (hp a r e).elim (fun z => .inl z.1) .inr
  freshF a e := .inl e
  keep a o e _ _ := k a o e
  lim := W.lim.keeps k
  dig := let ⟨mc, x, y⟩ := W.dig; ⟨mc, x.keeps k, y⟩
  tab := let ⟨vs, x, y⟩ := W.tab; ⟨vs, k _ _ x, y⟩
  notab := W.notab
  le0 := .refl F
  ns := ns
  pL := pL
  vars := vars
  gl j a e := let ⟨_, _, vs, ds, e1, e2, e3⟩ := W.gl j a e; ⟨hg j a e, vs, ds, e1, LsAt.keep e2 (k a), e3⟩
  glen := W.glen
  pre0 := .refl g
  pins := fun p hp => nomatch hp
  tacks := fun a o e => nomatch e
end
end Mine
end

section
open PySem PySem.W PyProof.Rows PySem.Calls PySem.Spec PySem.SeqAt
set_option Elab.async false
set_option backward.match.sparseCases false
set_option maxRecDepth 100000
namespace Mine

inductive Fl where | next | ret (d : D)
noncomputable abbrev X := AEnv × GS

structure Cfg where
  kd : Str → Option NameKind
  gd : Str → Option D
  H : D → List D → GS → Option (D × GS)
  mth : Addr → Str → Option Addr
  atr : Addr → Str → Bool
  sat : Addr → Str → Bool
  nest : Bool

structure Rc where
  ev : Cfg → X → Expr → Option (D × X)
  tr : Cfg → X → Expr → Option (Bool × X)
  ex : Cfg → X → List Stmt → Option (Fl × X)
  wh : Cfg → X → Expr → List Stmt → Option (Fl × X)

/-- what an answer must have come from -/
theorem nn {α : Type} {a : α} {P : Prop} (h : Option.none = some a) : P := nomatch h
theorem bnd {α β : Type} {o : Option α} {f : α → Option β} {r : β} {P : Prop} (h : o.bind f = some r) (k : ∀ a, o = some a → f a = some r → P) : P := by
  cases o with
  | none => exact nn h
  | some a => exact k a rfl h
theorem mpd {α β : Type} {o : Option α} {f : α → β} {P : β → Prop} {r : β} (h : o.map f = some r) (k : ∀ a, o = some a → P (f a)) : P r := by
  cases o with
  | none => exact nn h
  | some a => exact Option.some.inj h ▸ k a rfl
theorem mpx {α β γ : Type} {o : Option α} {f : α → γ} {g : α → β} {P : γ → β → Prop} {d : γ} {x : β} (h : o.map (fun a => (f a, g a)) = some (d, x)) (k : ∀ a, o = some a → P (f a) (g a)) : P d x :=
  mpd (P := fun p => P p.1 p.2) h k
theorem smx {β γ : Type} {P : γ → β → Prop} {d d' : γ} {x x' : β} (h : some (d, x) = some (d', x')) (k : P d x) : P d' x' := by
  cases h; exact k
theorem bt {α : Type} {c : Bool} {a : Option α} {r : α} {P : Prop} (h : (bif c then a else .none) = some r) (k : c = true → a = some r → P) : P := by
  cases c with
  | true => exact k rfl h
  | false => exact nn h
theorem bc {α : Type} {c : Bool} {a b : Option α} {r : α} {P : Prop} (h : (bif c then a else b) = some r) (k : c = true → a = some r → P) (l : c = false → b = some r → P) : P := by
  cases c with
  | true => exact k rfl h
  | false => exact l rfl h
theorem and_t {a b : Bool} {P : Prop} (h : (a && b) = true) (k : a = true → b = true → P) : P := k (Bool.and_eq_true_iff.mp h).1 (Bool.and_eq_true_iff.mp h).2

theorem bs {α β : Type} {o : Option α} {a : α} {f : α → Option β} {r : Option β} (h : o = some a) (k : f a = r) : o.bind f = r := by rw [h]; exact k
theorem ms {α β : Type} {o : Option α} {a : α} {f : α → β} (h : o = some a) : o.map f = some (f a) := by rw [h]; rfl
theorem cs {α : Type} {c : Bool} {a b r : α} (h : c = true) (k : a = r) : (bif c then a else b) = r := by rw [h]; exact k
theorem cf {α : Type} {c : Bool} {a b r : α} (h : c = false) (k : b = r) : (bif c then a else b) = r := by rw [h]; exact k

noncomputable def one {α : Type} : List α → Option α
  | [a] => some a
  | _ => .none
theorem one_ok {α : Type} {l : List α} {a : α} (h : one l = some a) : l = [a] := by
  match l, h with
  | [_], h => exact congrArg (fun x => [x]) (Option.some.inj h)
noncomputable def two {α : Type} : List α → Option (α × α)
  | [a, b] => some (a, b)
  | _ => .none
theorem two_ok {α : Type} {l : List α} {a : α × α} (h : two l = some a) : l = [a.1, a.2] := by
  match l, h with
  | [_, _], h => exact congrArg (fun x : α × α => [x.1, x.2]) (Option.some.inj h)
noncomputable def intD : D → Option Int
  | .int i => some i
  | _ => .none
theorem intD_ok {d : D} {i : Int} (h : intD d = some i) : d = .int i := by
  cases d <;> first | exact nn h | exact congrArg D.int (Option.some.inj h)
noncomputable def mrefD : D → Option Nat
  | .mref i => some i
  | _ => .none
theorem mrefD_ok {d : D} {i : Nat} (h : mrefD d = some i) : d = .mref i := by
  cases d <;> first | exact nn h | exact congrArg D.mref (Option.some.inj h)
noncomputable def dicD : D → Option (List (Str × D))
  | .dic i => some i
  | _ => .none
theorem dicD_ok {d : D} {i : List (Str × D)} (h : dicD d = some i) : d = .dic i := by
  cases d <;> first | exact nn h | exact congrArg D.dic (Option.some.inj h)
noncomputable def objD : D → Option (Addr × List (Str × D))
  | .obj C l => some (C, l)
  | _ => .none
theorem objD_ok {d : D} {i : Addr × List (Str × D)} (h : objD d = some i) : d = .obj i.1 i.2 := by
  cases d <;> first | exact nn h | exact congrArg (fun p : Addr × List (Str × D) => D.obj p.1 p.2) (Option.some.inj h)
noncomputable def isSta : D → Bool
  | .sta _ => true
  | _ => false

noncomputable def strD : D → Option Str
  | .str s => some s
  | _ => .none
theorem strD_ok {d : D} {s : Str} (h : strD d = some s) : d = .str s := by
  cases d <;> first | exact nn h | exact congrArg D.str (Option.some.inj h)
noncomputable def lstD : D → Option (List D)
  | .lst s => some s
  | _ => .none
theorem lstD_ok {d : D} {s : List D} (h : lstD d = some s) : d = .lst s := by
  cases d <;> first | exact nn h | exact congrArg D.lst (Option.some.inj h)
noncomputable def tupD : D → Option (List D)
  | .tup s => some s
  | _ => .none
theorem tupD_ok {d : D} {s : List D} (h : tupD d = some s) : d = .tup s := by
  cases d <;> first | exact nn h | exact congrArg D.tup (Option.some.inj h)
noncomputable def staD : D → Option Value
  | .sta s => some s
  | _ => .none
theorem staD_ok {d : D} {s : Value} (h : staD d = some s) : d = .sta s := by
  cases d <;> first | exact nn h | exact congrArg D.sta (Option.some.inj h)
noncomputable def refOf : Value → Option Addr
  | .ref a => some a
  | _ => .none
theorem refOf_ok {v : Value} {a : Addr} (h : refOf v = some a) : v = .ref a := by
  cases v <;> first | exact nn h | exact congrArg Value.ref (Option.some.inj h)
noncomputable def typOf : Value → Option String
  | .type a => some a
  | _ => .none
theorem typOf_ok {v : Value} {a : String} (h : typOf v = some a) : v = .type a := by
  cases v <;> first | exact nn h | exact congrArg Value.type (Option.some.inj h)
noncomputable def three {α : Type} : List α → Option (α × α × α)
  | [a, b, c] => some (a, b, c)
  | _ => .none
theorem three_ok {α : Type} {l : List α} {a : α × α × α} (h : three l = some a) : l = [a.1, a.2.1, a.2.2] := by
  match l, h with
  | [_, _, _], h => exact congrArg (fun x : α × α × α => [x.1, x.2.1, x.2.2]) (Option.some.inj h)
theorem orx {α : Type} {a b : Option α} {r : α} {P : Prop} (h : a.or b = some r) (k : a = some r → P) (l : b = some r → P) : P := by
  cases a with
  | none => exact l h
  | some x => exact k h
/-- two numbers, two texts -/
noncomputable def intsD {α : Type} (f : Int → Int → α) (a b : D) : Option α := (intD a).bind fun i => (intD b).map fun j => f i j
noncomputable def strsD {α : Type} (f : Str → Str → α) (a b : D) : Option α := (strD a).bind fun i => (strD b).map fun j => f i j
theorem intsD_inv {α : Type} {f : Int → Int → α} {a b : D} {r : α} {P : D → D → α → Prop} (h : intsD f a b = some r) (k : ∀ i j, P (.int i) (.int j) (f i j)) : P a b r :=
  bnd h fun i h1 h => mpd h fun j h2 => by rw [intD_ok h1, intD_ok h2]; exact k i j
theorem strsD_inv {α : Type} {f : Str → Str → α} {a b : D} {r : α} {P : D → D → α → Prop} (h : strsD f a b = some r) (k : ∀ i j, P (.str i) (.str j) (f i j)) : P a b r :=
  bnd h fun i h1 h => mpd h fun j h2 => by rw [strD_ok h1, strD_ok h2]; exact k i j

noncomputable def truD : D → Option Bool
  | .none => some false
  | .bool b => some b
  | .int i => some (i != 0)
  | _ => .none

noncomputable def pyD (d : D) : Option PyData := (d.py 64).bind fun x => bif shaped x then some x else .none
noncomputable def eqP (a b : D) : Option Bool := (pyD a).bind fun x => (pyD b).map fun y => PyData.eqv x y
noncomputable def eqD (a b : D) : Option Bool := (intsD (fun i j => i == j) a b).or ((strsD (fun x y => x == y) a b).or (eqP a b))

/-- is v less than w: what the tuples here ask of their items -/
noncomputable def lt0 (a b : D) : Option Bool := (intsD (fun i j => decide (i < j)) a b).or (strsD (fun x y => decide (x.cps.toList < y.cps.toList)) a b)
noncomputable def ltSeq (lt : D → D → Option Bool) : List D → List D → Option Bool
  | [], bs => some (!bs.isEmpty)
  | a :: as, bs => match bs with
    | [] => some false
    | b :: bs => (eqD a b).bind fun t => bif t then ltSeq lt as bs else lt a b
noncomputable def lt1 (a b : D) : Option Bool := ((lstD a).bind fun l => (lstD b).bind fun m => ltSeq lt0 l m).or (lt0 a b)
noncomputable def ltD (a b : D) : Option Bool := ((tupD a).bind fun l => (tupD b).bind fun m => ltSeq lt1 l m).or (lt0 a b)

noncomputable def memD (a : D) (l : List D) : Option Bool := (l.mapM (D.py 63)).bind fun xs => bif shaped (.tuple xs) then (pyD a).map fun d => xs.any fun y => PyData.eqv y d else .none
noncomputable def inD (x : Str) : D → Option Bool
  | .str y => some !(Builtin.Str.occurrences y x 0 y.length 1).isEmpty
  | .tup l => memD (.str x) l
  | .dic l => some (l.lookup x).isSome
  | _ => .none
noncomputable def isNone : D → Option Bool
  | .none => some true
  | .sta _ => .none
  | _ => some false
noncomputable def noneD : D → Bool
  | .none => true
  | _ => false
noncomputable def cmpB (op : CmpOp) (a b : D) : Option Bool := match op with
  | .Eq => eqD a b
  | .NotEq => (eqD a b).map fun c => !c
  | .Lt => ltD a b
  | .Gt => lt0 b a
  | .LtE => intsD (fun i j => decide (i ≤ j)) a b
  | .GtE => intsD (fun i j => decide (j ≤ i)) a b
  | .Is => bif noneD b then isNone a else .none
  | .IsNot => bif noneD b then (isNone a).map fun c => !c else .none
  | .In => (strD a).bind fun x => inD x b
  | .NotIn => (strD a).bind fun x => (dicD b).map fun l => !(l.lookup x).isSome
noncomputable def cmpD (op : CmpOp) (a b : D) : Option D := (cmpB op a b).map .bool

noncomputable def okMul (a b : Int) : Bool := decide (Builtin.Int.intBits a ≤ 64) || decide (Builtin.Int.intBits b ≤ 64)

noncomputable def arith (f : Int → Int → Int) (ok : Int → Int → Bool) (a b : D) : Option D := (intD a).bind fun i => (intD b).bind fun j => bif ok i j then some (.int (f i j)) else .none
noncomputable def addS (a b : D) : Option D := (strD a).bind fun x => (strD b).bind fun y => bif decide (x.length + y.length ≤ 1000000) then some (.str (x ++ y)) else .none
noncomputable def addL (a b : D) : Option D := (lstD a).bind fun x => (lstD b).bind fun y => bif decide (x.length + y.length ≤ 1000000) then some (.lst (x ++ y)) else .none
noncomputable def okDiv (i j : Int) : Bool := !decide (j = 0) && (decide (j.natAbs < 1073741824) || !Builtin.divisionGoesByPylong i j)
noncomputable def okMod (_ j : Int) : Bool := !decide (j = 0)
noncomputable def okPow (i j : Int) : Bool := decide (0 ≤ j) && decide ((Builtin.Int.intBits i : Int) * j ≤ 2 ^ 27)
noncomputable def okAll (_ _ : Int) : Bool := true
noncomputable def binD (op : Operator) (a b : D) : Option D := match op with
  | .Add => (arith (fun i j => i + j) okAll a b).or ((addS a b).or (addL a b))
  | .Sub => arith (fun i j => i - j) okAll a b
  | .Mult => arith (fun i j => i * j) okMul a b
  | .FloorDiv => arith (fun i j => i.fdiv j) okDiv a b
  | .Mod => arith (fun i j => i.fmod j) okMod a b
  | .Pow => arith (fun i j => i ^ j.toNat) okPow a b
  | _ => .none

noncomputable def small (i : Int) : Bool := decide (-1000000000 ≤ i) && decide (i ≤ 1000000000)
/-- the place that an index means -/
noncomputable def idxD (i : Int) (n : Nat) : Option Nat := bif small i then seqIndex? i n else .none
noncomputable def atL (i : D) (l : List D) : Option D := (intD i).bind fun k => (idxD k l.length).bind (l[·]?)

noncomputable def subD (o i : D) : Option D := match o with
  | .lst l => atL i l
  | .xls l => atL i l
  | .tup l => atL i l
  | .str s => (intD i).bind fun k => (idxD k s.length).bind fun j => (s.cps.toList[j]?).map fun c => .str ⟨#[c]⟩
  | .dic l => (strD i).bind fun x => l.lookup x
  | _ => .none

noncomputable abbrev fewB (n : Nat) : Bool := decide (n ≤ 1000000)
noncomputable def cutL {α : Type} (l : List α) (a b : Option Int) : List α := (l.drop (a.elim 0 (clipAt l.length))).take (b.elim l.length (clipAt l.length) - a.elim 0 (clipAt l.length))
noncomputable def cutD (o : D) (a b : Option Int) : Option D := match o with
  | .lst l => bif fewB l.length then some (.lst (cutL l a b)) else .none
  | .str s => bif fewB s.length then some (.str (StrLaws.sliceText s a b)) else .none
  | _ => .none

noncomputable def clsOfD : D → Option Value
  | .bool _ => some (.type "bool")
  | .int _ => some (.type "int")
  | .str _ => some (.type "str")
  | .tup _ => some (.type "tuple")
  | .lst _ => some (.type "list")
  | .obj C _ => some (.ref C)
  | .none => some (.type "NoneType")
  | _ => .none
noncomputable def icL : List Addr := [981, 731, 759, 815, 1083]
noncomputable def tcL : List Addr := [899, 703, 731, 815, 787, 843, 759, 871]
noncomputable def tyL : List String := ["str", "bool", "tuple"]
noncomputable def tzL : List String := ["str", "bool", "tuple", "int"]
noncomputable def kitV (k c : Value) : Option Bool := ((typOf k).bind fun t => (typOf c).bind fun u => bif tzL.contains t && tyL.contains u then some (t == u) else .none).or
  ((refOf k).bind fun C => (refOf c).bind fun C' => bif icL.contains C && tcL.contains C' then some (C == C') else .none)
noncomputable def isiOne (d : D) (c : Value) : Option Bool := (clsOfD d).bind fun k => kitV k c
noncomputable def isiD (d c : D) : Option Bool := match c with
  | .sta v => isiOne d v
  | .tup l => (two l).bind fun p => (staD p.1).bind fun v => (staD p.2).bind fun u => (isiOne d v).bind fun a => bif a then some true else isiOne d u
  | _ => .none

noncomputable def lenD : D → Option D
  | .str s => bif fewB s.length then some (.int s.length) else .none
  | .lst l => bif fewB l.length then some (.int l.length) else .none
  | .xls l => bif fewB l.length then some (.int l.length) else .none
  | _ => .none
noncomputable def toI : D → Option D
  | .int i => some (.int i)
  | .bool b => some (.int (if b then 1 else 0))
  | _ => .none
noncomputable def mxD (p : D × D) : Option D := intsD (fun i j => .int (if i < j then j else i)) p.1 p.2
noncomputable def mnD (p : D × D) : Option D := intsD (fun i j => .int (if j < i then j else i)) p.1 p.2
noncomputable def rng1 (d : D) : Option D := (intD d).bind fun b => bif small b then some (.rng 0 b 1) else .none
noncomputable def rng2 (p : D × D) : Option D := (intD p.1).bind fun a => (intD p.2).bind fun b => bif small a && small b then some (.rng a b 1) else .none
noncomputable def rng3 (p : D × D × D) : Option D := (intD p.1).bind fun a => (intD p.2.1).bind fun b => (intD p.2.2).bind fun c => bif small a && small b && small c && decide (0 < c) then some (.rng a b c) else .none
noncomputable def bltB (n : String) (ds : List D) : Option D :=
  bif decide (n = "len") then (one ds).bind lenD
  else bif decide (n = "abs") then (one ds).bind fun d => (intD d).map fun i => .int (if i < 0 then -i else i)
  else bif decide (n = "max") then (two ds).bind mxD
  else bif decide (n = "min") then (two ds).bind mnD
  else bif decide (n = "isinstance") then (two ds).bind fun p => (isiD p.1 p.2).map .bool
  else .none
noncomputable def bltT (n : String) (ds : List D) : Option D :=
  bif decide (n = "int") then (one ds).bind toI
  else bif decide (n = "range") then ((one ds).bind rng1).or (((two ds).bind rng2).or ((three ds).bind rng3))
  else bif decide (n = "str") then (one ds).bind fun d => (intD d).bind fun i => bif decide (i.natAbs.log2 < 1920) then some (.str (Str.ofString (toString i))) else .none
  else .none
noncomputable def bltD (f : Value) (ds : List D) : Option D := match f with
  | .builtin n => bltB n ds
  | .type n => bltT n ds
  | _ => .none

noncomputable def mthD (o : D) (n : Str) (ds : List D) : Option D := match o with
  | .str x => match ds with
    | [] => bif n == S "lower" then (bif decide (x.length ≤ 5592405) then some (.str (Txt.lower x)) else .none) else bif n == S "islower" then some (.bool (Txt.islower x)) else .none
    | [d] => (strD d).bind fun y => bif (n == S "index") && decide (0 ≤ Txt.find x y) && !(Builtin.Str.occurrences x y 0 x.length 1).isEmpty then some (.int (Txt.find x y)) else .none
    | _ => .none
  | _ => .none

noncomputable def rngD (a s : Int) : Nat → List D
  | 0 => []
  | n + 1 => .int a :: rngD (a + s) s n
noncomputable def itsD : D → Option (List D)
  | .lst l => bif fewB l.length then some l else .none
  | .str s => bif fewB s.length then some (s.cps.toList.map fun c => .str ⟨#[c]⟩) else .none
  | .rng a b s => bif decide (0 < s) && Builtin.Range.small a b s then some (rngD a s (Builtin.Range.rangeSize a b s).toNat) else .none
  | _ => .none

/-- a name read -/
noncomputable def readA (σ : AEnv) (x : Str) : AV → Option (D × AEnv)
  | .d d => some (d, σ)
  | .con d => some (d, σ)
  | .lst l => some (.lst l, put σ x (.d (.lst l)))
  | .dic l => some (.dic l, put σ x (.d (.dic l)))
  | .ins C l => some (.obj C l, put σ x (.d (.obj C l)))
  | _ => .none
noncomputable def readX (σ : AEnv) (x : Str) : Option (D × AEnv) := (σ.lookup x).bind (readA σ x)
noncomputable def nameX (cfg : Cfg) (x : X) (n : Str) : Option (D × X) :=
  bif n == S "__debug__" then .none else (cfg.kd n).bind fun k => match k with
  | .local => (readX x.1 n).map fun r => (r.1, (r.2, x.2))
  | .cell => (readX x.1 n).map fun r => (r.1, (r.2, x.2))
  | .free => bif n == S "__classdict__" then .none else (readX x.1 n).map fun r => (r.1, (r.2, x.2))
  | .globalImplicit => (cfg.gd n).map fun d => (d, x)
  | _ => .none

noncomputable abbrev isLoc (cfg : Cfg) (n : Str) : Bool := decide (cfg.kd n = some .local)
noncomputable def loadX (cfg : Cfg) (x : X) (n : Str) : Option (D × X) := bif isLoc cfg n then (readX x.1 n).map fun p => (p.1, (p.2, x.2)) else .none

/-- a name bound to a value -/
noncomputable def openA : AV → Bool
  | .unb => true
  | .d _ => true
  | _ => false
noncomputable def storeX (cfg : Cfg) (x : X) (n : Str) (d : D) : Option X := (cfg.kd n).bind fun k => match k with
  | .local => some (put x.1 n (.d d), x.2)
  | .cell => (x.1.lookup n).bind fun a => bif openA a then some (put x.1 n (.d d), x.2) else .none
  | _ => .none

noncomputable def evs (f : X → Expr → Option (D × X)) : X → List Expr → Option (List D × X)
  | x, [] => some ([], x)
  | x, e :: r => (f x e).bind fun p => (evs f p.2 r).map fun q => (p.1 :: q.1, q.2)

noncomputable def evPart (f : X → Expr → Option (D × X)) (x : X) : Option Expr → Option (Option Int × X)
  | .none => some (.none, x)
  | some e => (f x e).bind fun p => (intD p.1).bind fun i => bif small i then some (some i, p.2) else .none

noncomputable def constD : Const → Option D
  | .none => some .none
  | .bool b => some (.bool b)
  | .int i => some (.int i)
  | .str s => some (.str s)
  | _ => .none

noncomputable def plainE : Expr → Bool
  | .ListComp .. => false
  | .SetComp .. => false
  | .DictComp .. => false
  | .Starred .. => false
  | _ => true
noncomputable def noStar : Expr → Bool
  | .Starred .. => false
  | _ => true
noncomputable def flatL (es : List Expr) : Bool := es.all noStar && decide (es.length ≤ 1000)
noncomputable def baseE : Expr → Bool
  | .Name .. => true
  | .Subscript .. => true
  | .Attribute .. => true
  | _ => false
noncomputable def iterE : Expr → Bool
  | .Set .. => false
  | _ => true
noncomputable def scopeE (scope : Scope) : Bool := (scope.kind == .function) && scope.names.all fun p => (p.2 == .local && scope.names.lookup p.1 == some .local) || (p.2 == .free && scope.names.lookup p.1 == some .free) || (p.2 == .globalImplicit && scope.names.lookup p.1 == some .globalImplicit)
noncomputable def nameOf : Expr → Option Str
  | .Name n _ => some n
  | _ => .none

noncomputable def storesX (cfg : Cfg) : X → List Expr → List D → Option X
  | x, [], ds => bif ds.isEmpty then some x else .none
  | x, t :: ts, ds => match ds with
    | [] => .none
    | d :: ds => (nameOf t).bind fun n => (storeX cfg x n d).bind fun x => storesX cfg x ts ds
noncomputable def targX (cfg : Cfg) (x : X) (t : Expr) (d : D) : Option X := match t with
  | .Name n _ => storeX cfg x n d
  | .Tuple ts _ _ => (tupD d).bind fun ds => bif ts.length == ds.length then storesX cfg x ts ds else .none
  | _ => .none

/-- what a frame within sees of a name -/
noncomputable def conA (k : Option NameKind) : AV → Option D
  | .d d => bif decide (k = some .cell) then some d else .none
  | .con d => bif decide (k = some .cell) || decide (k = some .free) then some d else .none
  | _ => .none
noncomputable def freesX (cfg : Cfg) (x : X) : List (Str × NameKind) → Option AEnv
  | [] => some []
  | p :: r => match p.2 with
    | .free => (x.1.lookup p.1).bind fun a => (conA (cfg.kd p.1) a).bind fun d => (freesX cfg x r).map fun σ => (p.1, .con d) :: σ
    | .local => freesX cfg x r
    | .globalImplicit => freesX cfg x r
    | _ => .none

noncomputable def compX (f : X → Expr → Option (D × X)) (cfg : Cfg) (t elt : Expr) : X → List D → Option (List D × X)
  | x, [] => some ([], x)
  | x, d :: ds => (targX cfg x t d).bind fun x => (f x elt).bind fun p => (compX f cfg t elt p.2 ds).map fun q => (p.1 :: q.1, q.2)

/-- the names that a def within holds on to -/
noncomputable def dA : AV → Option D
  | .d d => some d
  | _ => .none
theorem dA_ok {a : AV} {d : D} (h : dA a = some d) : a = .d d := by
  cases a <;> first | exact nn h | exact congrArg AV.d (Option.some.inj h)
noncomputable def capsX (cfg : Cfg) : AEnv → List (Str × NameKind) → Option (AEnv × List (Str × D))
  | σ, [] => some (σ, [])
  | σ, p :: r => match p.2 with
    | .free => (σ.lookup p.1).bind fun a => (dA a).bind fun d => bif decide (cfg.kd p.1 = some .cell) then (capsX cfg (put σ p.1 (.con d)) r).map fun q => (q.1, (p.1, d) :: q.2) else .none
    | .local => capsX cfg σ r
    | .globalImplicit => capsX cfg σ r
    | _ => .none
noncomputable def nestName : Str := "context_here"
noncomputable def bareP (p : Arguments) : Bool := p.posonlyargs.isEmpty && p.vararg.isNone && p.kwonlyargs.isEmpty && p.kw_defaults.isEmpty && p.kwarg.isNone && p.defaults.isEmpty
theorem bare_params : ∀ {p : Arguments}, bareP p = true → p = ⟨[], p.args, .none, [], [], .none, []⟩
  | ⟨a1, a2, a3, a4, a5, a6, a7⟩, h => by
    refine and_t h fun h h6 => and_t h fun h h5 => and_t h fun h h4 => and_t h fun h h3 => and_t h fun h1 h2 => ?_
    have e1 : a1 = [] := List.isEmpty_iff.mp h1
    have e2 : a3 = .none := Option.isNone_iff_eq_none.mp h2
    have e3 : a4 = [] := List.isEmpty_iff.mp h3
    have e4 : a5 = [] := List.isEmpty_iff.mp h4
    have e5 : a6 = .none := Option.isNone_iff_eq_none.mp h5
    have e6 : a7 = [] := List.isEmpty_iff.mp h6
    rw [e1, e2, e3, e4, e5, e6]
noncomputable def bareArgs (p : Arguments) : Bool := bareP p && p.args.all fun a => a.annotation.isNone

noncomputable def kindsIn (cfg : Cfg) (scope : Scope) (n : Str) : Option NameKind := match scope.names.lookup n with
  | some .free => match cfg.kd n with | some .cell => some .cell | _ => some .free
  | k => k

noncomputable def isRef : Value → Bool
  | .ref _ => true
  | _ => false
theorem isRef_ok {v : Value} (h : isRef v = true) : ∃ a, v = .ref a := by
  cases v <;> first | exact ⟨_, rfl⟩ | exact Bool.noConfusion h
noncomputable def goH (H : D → List D → GS → Option (D × GS)) (fd : D) (ds : List D) (x : X) : Option (D × X) := (H fd ds x.2).map fun p => (p.1, (x.1, p.2))
noncomputable def callX (r : Rc) (cfg : Cfg) (x : X) (fd : D) (args : List Expr) : Option (D × X) :=
  (evs (r.ev cfg) x args).bind fun p => match fd with
    | .sta v => bif isRef v then goH cfg.H (.sta v) p.1 p.2 else (bltD v p.1).map fun d => (d, p.2)
    | .fn q b sc cs => goH cfg.H (.fn q b sc cs) p.1 p.2
    | _ => .none

noncomputable def strOf : Expr → Option Str
  | .Constant c _ _ => match c with
    | .str s => some s
    | _ => .none
  | _ => .none
theorem strOf_ok {e : Expr} {s : Str} (h : strOf e = some s) : ∃ k p, e = .Constant (.str s) k p := by
  cases e with
  | Constant c k p => cases c <;> first | exact nn h | exact ⟨k, p, congrArg (fun s => Expr.Constant (.str s) k p) (Option.some.inj h)⟩
  | _ => exact nn h
noncomputable def keyOf (o : Option Expr) : Option Str := o.bind strOf
theorem nameOf_ok {e : Expr} {s : Str} (h : nameOf e = some s) : ∃ p, e = .Name s p := by
  cases e with
  | Name n p => exact ⟨p, congrArg (Expr.Name · p) (Option.some.inj h)⟩
  | _ => exact nn h
noncomputable def listOf : Expr → Option (List Expr)
  | .List es _ => some es
  | _ => .none
theorem listOf_ok {e : Expr} {s : List Expr} (h : listOf e = some s) : ∃ p, e = .List s p := by
  cases e with
  | List n p => exact ⟨p, congrArg (Expr.List · p) (Option.some.inj h)⟩
  | _ => exact nn h
noncomputable def tupOf : Expr → Option (List Expr)
  | .Tuple es _ _ => some es
  | _ => .none
theorem tupOf_ok {e : Expr} {s : List Expr} (h : tupOf e = some s) : ∃ k p, e = .Tuple s k p := by
  cases e with
  | Tuple n k p => exact ⟨k, p, congrArg (Expr.Tuple · k p) (Option.some.inj h)⟩
  | _ => exact nn h
noncomputable def dicE : Expr → Bool
  | .Dict ks _ _ => !ks.isEmpty
  | _ => false
noncomputable def sliceP : Expr → Option (Option Expr × Option Expr)
  | .Slice a b c _ => match c with
    | .none => some (a, b)
    | _ => .none
  | _ => .none
theorem sliceP_ok {e : Expr} {q : Option Expr × Option Expr} (h : sliceP e = some q) : ∃ p, e = .Slice q.1 q.2 .none p := by
  cases e with
  | Slice a b c p => cases c with
    | none => exact ⟨p, congrArg (fun q : Option Expr × Option Expr => Expr.Slice q.1 q.2 .none p) (Option.some.inj h)⟩
    | some _ => exact nn h
  | _ => exact nn h

noncomputable def cmpX (r : Rc) (cfg : Cfg) (x : X) (l : Expr) (op : CmpOp) (e : Expr) : Option (D × X) :=
  bif behindInMarks op e then .none else (r.ev cfg x l).bind fun p => (r.ev cfg p.2 e).bind fun q => match mrefD p.1 with
    | some k => (q.2.2[k]?).bind fun ds => bif decide (op = .Eq) then (eqD (.lst ds) q.1).map fun c => (.bool c, q.2) else .none
    | .none => (cmpD op p.1 q.1).map fun d => (d, q.2)

noncomputable abbrev cfgIn (cfg : Cfg) (scope : Scope) : Cfg := { cfg with kd := kindsIn cfg scope, nest := false }
noncomputable def compE (r : Rc) (cfg : Cfg) (x : X) (elt : Expr) (gens : List Comprehension) (scope : Scope) : Option (D × X) := (one gens).bind fun q =>
  bif q.ifs.isEmpty && decide (q.is_async = 0) && iterE q.iter && scopeE scope && (freesX cfg x scope.names).isSome then
    (r.ev cfg x q.iter).bind fun p => (itsD p.1).bind fun ds => (freesX cfg p.2 scope.names).bind fun σ => bif decide (ds.length ≤ 1000000) then
      (compX (r.ev (cfgIn cfg scope)) (cfgIn cfg scope) q.target elt (σ, p.2.2) ds).map fun v => (.lst v.1, (p.2.1, v.2.2))
    else .none
  else .none
theorem compE_inv {r : Rc} {cfg : Cfg} {x x' : X} {elt : Expr} {gens : List Comprehension} {scope : Scope} {d : D} {P : List Comprehension → D → X → Prop} (h : compE r cfg x elt gens scope = some (d, x'))
    (k : ∀ t it σ ds (p : D × X) (v : List D × X), iterE it = true → scopeE scope = true → (freesX cfg x scope.names).isSome = true → r.ev cfg x it = some p → itsD p.1 = some ds → freesX cfg p.2 scope.names = some σ → ds.length ≤ 1000000 →
      compX (r.ev (cfgIn cfg scope)) (cfgIn cfg scope) t elt (σ, p.2.2) ds = some v → P [⟨t, it, [], 0⟩] (.lst v.1) (p.2.1, v.2.2)) : P gens d x' := by
  refine bnd h fun q h1 h => bt h fun hc h => bnd h fun p h2 h => bnd h fun ds h3 h => bnd h fun σ h4 h => bt h fun hz h => mpx (P := P gens) h fun v h5 => ?_
  refine and_t hc fun hc c5 => and_t hc fun hc c4 => and_t hc fun hc c3 => and_t hc fun c1 c2 => ?_
  obtain ⟨t, it, ifs, as⟩ := q
  rw [one_ok h1]
  have z1 : ifs = [] := List.isEmpty_iff.mp c1
  have z2 : as = 0 := of_decide_eq_true c2
  subst z1
  subst z2
  exact k t it σ ds p v c3 c4 c5 h2 h3 h4 (of_decide_eq_true hz) h5

noncomputable def attrD (cfg : Cfg) (d : D) (n : Str) : Option D := (objD d).bind fun q => bif cfg.atr q.1 n then (q.2.lookup n).bind fun d => bif isSta d then .none else some d else .none
noncomputable def methX (cfg : Cfg) (m : Str) (od : D) (ds : List D) (x : X) : Option (D × X) := match objD od with
  | some q => (cfg.mth q.1 m).bind fun fa => bif (q.2.lookup m).isNone then goH cfg.H (.sta (.ref fa)) (od :: ds) x else .none
  | .none => (mthD od m ds).map fun d => (d, x)
noncomputable def callE (r : Rc) (cfg : Cfg) (x : X) (f : Expr) (args : List Expr) (pos : Pos) : Option (D × X) := match f with
  | .Name n _ => (nameX cfg x n).bind fun p => callX r cfg p.2 p.1 args
  | .Attribute o m ap => bif baseE o && (ap.endLine == pos.line) && decide (args.length < 20) then (r.ev cfg x o).bind fun p => (evs (r.ev cfg) p.2 args).bind fun q => methX cfg m p.1 q.1 q.2 else .none
  | _ => .none
noncomputable def subE (r : Rc) (cfg : Cfg) (x : X) (od : D) (i : Expr) : Option (D × X) := match sliceP i with
  | some q => (evPart (r.ev cfg) x q.1).bind fun a => (evPart (r.ev cfg) a.2 q.2).bind fun b => (cutD od a.1 b.1).map fun d => (d, b.2)
  | .none => bif plainE i then (r.ev cfg x i).bind fun q => match mrefD od with
      | some k => (q.2.2[k]?).bind fun ds => (subD (.lst ds) q.1).map fun d => (d, q.2)
      | .none => (subD od q.1).map fun d => (d, q.2)
    else .none

noncomputable def stepE (r : Rc) (cfg : Cfg) (x : X) : Expr → Option (D × X)
  | .Constant c _ _ => (constD c).map fun d => (d, x)
  | .Name n _ => nameX cfg x n
  | .BoolOp op es _ => (two es).bind fun q => (r.ev cfg x q.1).bind fun p => (truD p.1).bind fun t => match op with
    | .And => bif t then r.ev cfg p.2 q.2 else some p
    | .Or => bif t then some p else r.ev cfg p.2 q.2
  | .BinOp l op e _ => (r.ev cfg x l).bind fun p => (r.ev cfg p.2 e).bind fun q => (binD op p.1 q.1).map fun d => (d, q.2)
  | .UnaryOp op e _ => (r.ev cfg x e).bind fun p => match op with
    | .Not => (truD p.1).map fun b => (.bool (!b), p.2)
    | .USub => (intD p.1).map fun i => (.int (-i), p.2)
    | _ => .none
  | .IfExp t a b _ => (r.tr cfg x t).bind fun p => bif p.1 then r.ev cfg p.2 a else r.ev cfg p.2 b
  | .Dict ks es _ => (evs (r.ev cfg) x es).bind fun p => (ks.mapM keyOf).bind fun ns => bif (ks.length == es.length) && decide ns.Nodup && decide (ks.length ≤ 15) then some (.dic (ns.zip p.1), p.2) else .none
  | .List es _ => bif flatL es then (evs (r.ev cfg) x es).map fun p => (.lst p.1, p.2) else .none
  | .Tuple es _ _ => bif flatL es then (evs (r.ev cfg) x es).map fun p => (.tup p.1, p.2) else .none
  | .ListComp elt gens scope _ => compE r cfg x elt gens scope
  | .Compare l ops es _ => (one ops).bind fun op => (one es).bind fun e => cmpX r cfg x l op e
  | .Call f args kws pos => bif kws.isEmpty && flatL args then callE r cfg x f args pos else .none
  | .Attribute o n _ => bif baseE o then (r.ev cfg x o).bind fun p => (attrD cfg p.1 n).map fun d => (d, p.2) else .none
  | .Subscript o i _ => (r.ev cfg x o).bind fun p => subE r cfg p.2 p.1 i
  | _ => .none

noncomputable def evT (r : Rc) (cfg : Cfg) (x : X) (e : Expr) : Option (Bool × X) := (r.ev cfg x e).bind fun p => (truD p.1).map fun b => (b, p.2)
noncomputable def stepT (r : Rc) (cfg : Cfg) (x : X) : Expr → Option (Bool × X)
  | .UnaryOp op e _ => (r.tr cfg x e).bind fun p => match op with
    | .Not => some (!p.1, p.2)
    | _ => .none
  | .BoolOp op es _ => (two es).bind fun q => (r.tr cfg x q.1).bind fun p => match op with
    | .And => bif p.1 then r.tr cfg p.2 q.2 else some p
    | .Or => bif p.1 then some p else r.tr cfg p.2 q.2
  | .IfExp t a b _ => (r.tr cfg x t).bind fun p => bif p.1 then r.tr cfg p.2 a else r.tr cfg p.2 b
  | .Compare l ops es _ => (one ops).bind fun op => (one es).bind fun e => (cmpX r cfg x l op e).bind fun p => (truD p.1).map fun b => (b, p.2)
  | .Name n p => evT r cfg x (.Name n p)
  | .Call f a k p => evT r cfg x (.Call f a k p)
  | .Subscript o i p => evT r cfg x (.Subscript o i p)
  | .Attribute o i p => evT r cfg x (.Attribute o i p)
  | _ => .none

noncomputable def era (σ : AEnv) (o : Str) : AEnv := σ.filter fun p => !(p.1 == o)

noncomputable def forX (f : X → List Stmt → Option (Fl × X)) (cfg : Cfg) (t : Expr) (body : List Stmt) : X → List D → Option (Fl × X)
  | x, [] => some (.next, x)
  | x, d :: ds => (targX cfg x t d).bind fun x => (f x body).bind fun p => match p.1 with
    | .next => forX f cfg t body p.2 ds
    | .ret v => some (.ret v, p.2)

noncomputable def fieldX : List (Str × D) → Str → D → List (Str × D)
  | [], n, d => [(n, d)]
  | (k, e) :: r, n, d => if k = n then (n, d) :: r else (k, e) :: fieldX r n d

noncomputable def lstA : AV → Option (List D)
  | .lst l => some l
  | _ => .none
theorem lstA_ok {a : AV} {l : List D} (h : lstA a = some l) : a = .lst l := by
  cases a <;> first | exact nn h | exact congrArg AV.lst (Option.some.inj h)
noncomputable def dicA : AV → Option (List (Str × D))
  | .dic l => some l
  | _ => .none
theorem dicA_ok {a : AV} {l : List (Str × D)} (h : dicA a = some l) : a = .dic l := by
  cases a <;> first | exact nn h | exact congrArg AV.dic (Option.some.inj h)
noncomputable def insA : AV → Option (Addr × List (Str × D))
  | .ins C l => some (C, l)
  | _ => .none
theorem insA_ok {a : AV} {l : Addr × List (Str × D)} (h : insA a = some l) : a = .ins l.1 l.2 := by
  cases a <;> first | exact nn h | exact congrArg (fun p : Addr × List (Str × D) => AV.ins p.1 p.2) (Option.some.inj h)
noncomputable def own {α : Type} (f : AV → Option α) (cfg : Cfg) (x : X) (o : Str) : Option α := bif isLoc cfg o then (x.1.lookup o).bind f else .none
theorem own_ok {α : Type} {f : AV → Option α} {cfg : Cfg} {x : X} {o : Str} {l : α} (h : own f cfg x o = some l) : cfg.kd o = some .local ∧ ∃ a, x.1.lookup o = some a ∧ f a = some l :=
  bt h fun hk h => bnd h fun a h1 h2 => ⟨of_decide_eq_true hk, a, h1, h2⟩

noncomputable def nextX (o : Option X) : Option (Fl × X) := o.map fun x => (.next, x)
noncomputable def assN (r : Rc) (cfg : Cfg) (x : X) (n : Str) (e : Expr) : Option (Fl × X) := match listOf e with
  | some es => bif flatL es then (evs (r.ev cfg) x es).bind fun p => bif isLoc cfg n then some (.next, (put p.2.1 n (.lst p.1), p.2.2)) else nextX (storeX cfg (p.2.1, p.2.2 ++ [p.1]) n (.mref p.2.2.length)) else .none
  | .none => bif dicE e then (stepE r cfg x e).bind fun p => (dicD p.1).bind fun l => bif isLoc cfg n then some (.next, (put p.2.1 n (.dic l), p.2.2)) else .none
    else (r.ev cfg x e).bind fun p => nextX (storeX cfg p.2 n p.1)
noncomputable def tupOk (ts vs : List Expr) : Bool := flatL vs && (ts.length == vs.length) && (vs.all (foldedForSure 8) || !vs.all (constantsAlone 8)) && decide (ts.filterMap nameOf).Nodup && ((ts.filterMap nameOf).length == ts.length)
noncomputable def assT (r : Rc) (cfg : Cfg) (x : X) (ts vs : List Expr) : Option (Fl × X) := bif tupOk ts vs then (evs (r.ev cfg) x vs).bind fun p => nextX (storesX cfg p.2 ts p.1) else .none
noncomputable def assA (r : Rc) (cfg : Cfg) (x : X) (o n : Str) (e : Expr) : Option (Fl × X) := bif !(o == S "__debug__") && plainE e then (r.ev cfg x e).bind fun p => (own insA cfg p.2 o).bind fun q =>
    bif decide (q.2.length ≤ 100) && cfg.sat q.1 n then some (.next, (put p.2.1 o (.ins q.1 (fieldX q.2 n p.1)), p.2.2)) else .none else .none
noncomputable def assI (r : Rc) (cfg : Cfg) (x : X) (o : Str) (i e : Expr) : Option (Fl × X) := bif plainE i && plainE e then (r.ev cfg x e).bind fun p => match own dicA cfg p.2 o with
    | some l => (strOf i).bind fun k => bif !(o == S "__debug__") && decide (l.length ≤ 100) then some (.next, (put p.2.1 o (.dic (fieldX l k p.1)), p.2.2)) else .none
    | .none => (nameX cfg p.2 o).bind fun q => (mrefD q.1).bind fun k => (r.ev cfg q.2 i).bind fun s => (intD s.1).bind fun j => (s.2.2[k]?).bind fun ds =>
      bif decide (0 ≤ j) && decide (j.toNat < ds.length) && decide (ds.length ≤ 1000000) then some (.next, (s.2.1, s.2.2.set k (ds.set j.toNat p.1))) else .none
  else .none
noncomputable def assX (r : Rc) (cfg : Cfg) (x : X) (t e : Expr) : Option (Fl × X) := match t with
  | .Name n _ => assN r cfg x n e
  | .Tuple ts _ _ => (tupOf e).bind fun vs => assT r cfg x ts vs
  | .Attribute b n _ => (nameOf b).bind fun o => assA r cfg x o n e
  | .Subscript b i _ => (nameOf b).bind fun o => assI r cfg x o i e
  | _ => .none
noncomputable def appF (f : Expr) : Option (Str × Str × Pos) := match f with
  | .Attribute b m ap => (nameOf b).map fun o => (o, m, ap)
  | _ => .none
noncomputable def appP (e : Expr) : Option (Str × Expr) := match e with
  | .Call f args kws pos => (one args).bind fun a => (appF f).bind fun q => bif kws.isEmpty && (q.2.1 == S "append") && plainE a && (q.2.2.endLine == pos.line) && !(q.1 == S "__debug__") then some (q.1, a) else .none
  | _ => .none
noncomputable def appX (r : Rc) (cfg : Cfg) (x : X) (o : Str) (e : Expr) : Option (Fl × X) := match own lstA cfg x o with
  | some l => (r.ev cfg (era x.1 o, x.2) e).bind fun p => bif decide (l.length ≤ 1000000) then some (.next, (put p.2.1 o (.lst (l ++ [p.1])), p.2.2)) else .none
  | .none => (nameX cfg x o).bind fun q => (mrefD q.1).bind fun k => (r.ev cfg q.2 e).bind fun s => (s.2.2[k]?).bind fun l => bif decide (l.length ≤ 1000000) then some (.next, (s.2.1, s.2.2.set k (l ++ [s.1]))) else .none
noncomputable def augX (r : Rc) (cfg : Cfg) (x : X) (n : Str) (op : Operator) (e : Expr) : Option (Fl × X) := (loadX cfg x n).bind fun p => (intD p.1).bind fun i => (r.ev cfg p.2 e).bind fun q => (intD q.1).bind fun j => match op with
  | .Add => nextX (storeX cfg q.2 n (.int (i + j)))
  | .Sub => nextX (storeX cfg q.2 n (.int (i - j)))
  | _ => .none
noncomputable def retX (r : Rc) (cfg : Cfg) (x : X) (e : Expr) : Option (Fl × X) := match listOf e with
  | some es => bif flatL es then (evs (r.ev cfg) x es).map fun p => (.ret (.mref p.2.2.length), (p.2.1, p.2.2 ++ [p.1])) else .none
  | .none => (r.ev cfg x e).map fun p => (.ret p.1, p.2)

noncomputable def stepS (r : Rc) (cfg : Cfg) (x : X) : Stmt → Option (Fl × X)
  | .Return v _ => match v with
    | .none => some (.ret .none, x)
    | some e => retX r cfg x e
  | .If t a b _ => (r.tr cfg x t).bind fun p => bif p.1 then r.ex cfg p.2 a else r.ex cfg p.2 b
  | .While t b els _ => bif els.isEmpty then r.wh cfg x t b else .none
  | .For t it b els _ => bif els.isEmpty && (nameOf t).isSome && iterE it then (r.ev cfg x it).bind fun p => (itsD p.1).bind fun ds => forX (r.ex cfg) cfg t b p.2 ds else .none
  | .Assign ts e _ => (one ts).bind fun t => assX r cfg x t e
  | .FunctionDef n params body dl ret tp scope ts b pos => bif dl.isEmpty && ret.isNone && tp.isEmpty && ts.isNone && cfg.nest && (b == n) && (n == nestName) && bareArgs params && (pos.line == nestPos.line) && (pos.col == nestPos.col) && isLoc cfg n then
      (capsX cfg x.1 scope.names).map fun p => (.next, (put p.1 n (.d (.fn params body scope p.2.reverse)), x.2)) else .none
  | .AugAssign t op e _ => (nameOf t).bind fun n => augX r cfg x n op e
  | .Expr e _ => (appP e).bind fun q => appX r cfg x q.1 q.2
  | _ => .none

noncomputable def exs (f : X → Stmt → Option (Fl × X)) : X → List Stmt → Option (Fl × X)
  | x, [] => some (.next, x)
  | x, s :: r => (f x s).bind fun p => match p.1 with
    | .next => exs f p.2 r
    | .ret d => some (.ret d, p.2)

noncomputable def whX (r : Rc) (cfg : Cfg) (x : X) (t : Expr) (b : List Stmt) : Option (Fl × X) := (r.tr cfg x t).bind fun p => bif p.1 then (r.ex cfg p.2 b).bind fun q => (match q.1 with
    | .next => r.wh cfg q.2 t b
    | .ret d => some (.ret d, q.2))
  else some (.next, p.2)

noncomputable def stepR (r : Rc) : Rc := ⟨stepE r, stepT r, fun cfg => exs (stepS r cfg), whX r⟩
noncomputable def rc : Nat → Rc
  | 0 => ⟨fun _ _ _ => .none, fun _ _ _ => .none, fun _ _ _ => .none, fun _ _ _ _ => .none⟩
  | n + 1 => stepR (rc n)
end Mine
end

section
open PySem PySem.W PyProof.Rows PySem.Calls PySem.Spec PySem.SeqAt
set_option Elab.async false
set_option backward.match.sparseCases false
set_option maxRecDepth 100000
namespace Mine

structure Room (A : Around) (k : Nat) : Prop where
  dep : A.depth + 2 * k < recursionLimit
  units : A.units + 16 * k + 100 < cLine
  hh : A.handled = .none

/-- the state beside a frame -/
structure St (c : FC) (x : X) (F : Part) (g : List Addr) (s : Shared) : Prop where
  rel : ∃ pv m, Rel c F g x.2 x.1 s.heap pv m
  gens : s.gens = #[]
structure To (F : Part) (g : List Addr) (s : Shared) (F' : Part) (g' : List Addr) (s' : Shared) : Prop where
  le : Part.le F F'
  pre : pre g g'
  os : s'.os = s.os
theorem To.refl (F : Part) (g : List Addr) (s : Shared) : To F g s F g s := ⟨.refl F, .refl g, rfl⟩
theorem To.trans {F F' F'' : Part} {g g' g'' : List Addr} {s s' s'' : Shared} (a : To F g s F' g' s') (b : To F' g' s' F'' g'' s'') : To F g s F'' g'' s'' := ⟨a.le.trans b.le, a.pre.trans b.pre, b.os.trans a.os⟩

section
variable (prog : Program) (c : FC) (A : Around)
/-- from the state x the tree t ends in x', giving what P says -/
noncomputable def Ev {α : Type} (x : X) (t : Sem α) (P : Part → List Addr → α → Prop) (x' : X) : Prop :=
  ∀ F g s, St c x F g s → ∀ (Q : α → Shared → Prop) (E : Value → Shared → Prop), (∀ v F' g' s', St c x' F' g' s' → To F g s F' g' s' → P F' g' v → Q v s') → wpAny (model prog c.w) A t Q E s
/-- the same from one state on -/
noncomputable def At {α : Type} (F : Part) (g : List Addr) (s : Shared) (t : Sem α) (P : Part → List Addr → α → Prop) (x' : X) : Prop :=
  ∀ (Q : α → Shared → Prop) (E : Value → Shared → Prop), (∀ v F' g' s', St c x' F' g' s' → To F g s F' g' s' → P F' g' v → Q v s') → wpAny (model prog c.w) A t Q E s
end
noncomputable abbrev IsD (c : FC) (d : D) : Part → List Addr → Value → Prop := fun F g v => Rep c.DO F g v d
noncomputable abbrev IsDs (c : FC) (ds : List D) : Part → List Addr → List Value → Prop := fun F g vs => Reps c.DO F g vs ds
noncomputable def FlRep (c : FC) (F : Part) (g : List Addr) : Flow → Fl → Prop
  | .next, .next => True
  | .ret v, .ret d => Rep c.DO F g v d
  | _, _ => False
noncomputable abbrev IsF (c : FC) (f : Fl) : Part → List Addr → Flow → Prop := fun F g v => FlRep c F g v f

section
variable {prog : Program} {c : FC} {A : Around} {x x' x'' : X} {F F' : Part} {g g' : List Addr} {s s' : Shared}

theorem St.toks (h : St c x F g s) (tk : Nat) : St c x F g { s with toks := tk } := ⟨h.rel, h.gens⟩
theorem St.ext (h : St c x F g s) {h' : Heap} {tk : Nat} (k : ∀ a o, s.heap.get? a = some o → h'.get? a = some o) : St c x F g { s with heap := h', toks := tk } :=
  ⟨let ⟨pv, m, R⟩ := h.rel; ⟨pv, m, R.ext k⟩, h.gens⟩
theorem St.sub (h : St c x F g s) : ∀ a o, F a = some o → s.heap.get? a = some o := let ⟨_, _, R⟩ := h.rel; R.sub
theorem St.push (h : St c x F g s) {o : Obj} {tk : Nat} (ho : o.isFreed = false) : St c x (F.set s.heap.objs.size o) g { s with heap := s.heap.push o, toks := tk } :=
  ⟨let ⟨pv, m, R⟩ := h.rel; ⟨pv, m, R.grow (.push R.sub ho)⟩, h.gens⟩
theorem St.le_push (h : St c x F g s) (o : Obj) : Part.le F (F.set s.heap.objs.size o) := by
  refine Part.le_set ?_
  cases e : F s.heap.objs.size with
  | none => rfl
  | some x => exact absurd (Heap.lt_size (h.sub _ _ e)) (Nat.lt_irrefl _)

theorem At.bind {α β : Type} {t : Sem α} {f : α → Sem β} {P : Part → List Addr → α → Prop} {P' : Part → List Addr → β → Prop} (h : At prog c A F g s t P x')
    (k : ∀ v F' g' s', St c x' F' g' s' → To F g s F' g' s' → P F' g' v → At prog c A F' g' s' (f v) P' x'') : At prog c A F g s (t >>= f) P' x'' := fun Q E K =>
  wpAny_bind (h _ _ fun v F' g' s' S T p => k v F' g' s' S T p Q E fun w F'' g'' s'' S' T' p' => K w F'' g'' s'' S' (T.trans T') p')
theorem At.of {α : Type} {t : Sem α} {P : Part → List Addr → α → Prop} (h : Ev prog c A x t P x') (S : St c x F g s) : At prog c A F g s t P x' := h F g s S
theorem At.pure {α : Type} {v : α} {P : Part → List Addr → α → Prop} (S : St c x F g s) (p : P F g v) : At prog c A F g s (Pure.pure v) P x := fun _ _ K => wpAny_pure (K v F g s S (.refl F g s) p)

/-- values of a fixed kind from their trees -/
theorem rep_int {P : DOb} {v : Value} {i : Int} (r : Rep P F g v (.int i)) : ∃ t, v = .int i t := by cases r; exact ⟨_, rfl⟩
theorem rep_str {P : DOb} {v : Value} {i : Str} (r : Rep P F g v (.str i)) : ∃ t, v = .str i t := by cases r; exact ⟨_, rfl⟩
theorem rep_bool {P : DOb} {v : Value} {i : Bool} (r : Rep P F g v (.bool i)) : v = .bool i := by cases r; rfl
theorem rep_none {P : DOb} {v : Value} (r : Rep P F g v .none) : v = .none := by cases r; rfl

section
variable {n : Str} {σ σ' : AEnv} {d : D} {G : GS} {h : Heap} {pv : Priv} {m : Str → Option Value} {v : Value} {av : AV}
theorem Rel.nosys (R : Rel c F g G σ h pv m) {a : Addr} {r : Role} (p : pv a = some r) : (a == sysModules) = false := by
  have h1 := (R.priv a r p).2.1
  have h2 := statics_lt c
  have : a ≠ sysModules := fun z => by subst z; exact absurd (Nat.lt_of_lt_of_le h2 h1) (by decide)
  simpa using this

theorem frz (R : Rel c F g G σ h pv m) (hl : σ.lookup n = some av) (hav : AvOk c.DO F g h pv n v av) (e : readX σ n = some (d, σ'))
    (mk : ∀ F' pv' d', isConAV av = false → Part.le F F' → (∀ cx, pv cx = some (.cell n) → pv' cx = some (.cell n)) → Rep c.DO F' g v d' → VarOk c F' g h pv' m n (.d d')) :
    ∃ F' pv', Part.le F F' ∧ Rep c.DO F' g v d ∧ Rel c F' g G σ' h pv' m := by
  have dropC : ∀ {a r}, pv a = some r → r ≠ .cell n → ∀ cx, pv cx = some (.cell n) → pv.drop a cx = some (.cell n) := fun p hr cx q => (if_neg (priv_ne p q hr.symm)).trans q
  unfold readX at e
  rw [hl] at e
  have e : readA σ n av = some (d, σ') := e
  clear hl
  cases av with
  | d d₀ => cases e; exact ⟨F, pv, .refl F, hav, R⟩
  | con d₀ => cases e; exact ⟨F, pv, .refl F, hav, R⟩
  | unb => exact nn e
  | lst l =>
    cases e
    obtain ⟨a, vs, rfl, p, ⟨nn, ho⟩, rs⟩ := hav
    let o : Obj := ⟨.type "list", .none, .seq (List.toArray vs) nn, #[]⟩
    have le : Part.le F (F.set a o) := Part.le_set (R.priv a _ p).1
    have rp : Rep c.DO (F.set a o) g (.ref a) (.lst l) := .lst (Part.set_self F a o) (Reps.mono le (.refl g) rs)
    refine ⟨F.set a o, pv.drop a, le, rp, R.freeze p (.inl rfl) ho (fun y hy => by rw [put_lookup, if_neg hy]) fun av' e' => ?_⟩
    rw [put_lookup, if_pos rfl] at e'
    cases e'
    exact mk _ _ _ rfl le (dropC p fun z => nomatch z) rp
  | dic l =>
    cases e
    obtain ⟨a, o, kvs, rfl, p, ho, h1, h2, rs⟩ := hav
    have le : Part.le F (F.set a o) := Part.le_set (R.priv a _ p).1
    have rp : Rep c.DO (F.set a o) g (.ref a) (.dic l) := .dic (Part.set_self F a o) h1 (R.nosys p) h2 (Reps.mono le (.refl g) rs)
    refine ⟨F.set a o, pv.drop a, le, rp, R.freeze p (.inl rfl) ho (fun y hy => by rw [put_lookup, if_neg hy]) fun av' e' => ?_⟩
    rw [put_lookup, if_pos rfl] at e'
    cases e'
    exact mk _ _ _ rfl le (dropC p fun z => nomatch z) rp
  | ins C l =>
    cases e
    obtain ⟨a, dx, es, nn, rfl, p, ho, p2, ho2, kn, rs⟩ := hav
    have le1 : Part.le F (F.set dx (dictOf es nn)) := Part.le_set (R.priv dx _ p2).1
    have R1 : Rel c (F.set dx (dictOf es nn)) g G (put σ n (.d (.sta (.ref a)))) h (pv.drop dx) m := R.freeze p2 (.inr (.inl rfl)) ho2 (fun y hy => by rw [put_lookup, if_neg hy]) fun av' e' => by
      rw [put_lookup, if_pos rfl] at e'
      cases e'
      exact mk _ _ _ rfl le1 (dropC p2 fun z => nomatch z) (.sta _)
    have ne : a ≠ dx := priv_ne p2 p fun z => nomatch z
    have p' : pv.drop dx a = some (.own n) := (if_neg ne).trans p
    have le2 : Part.le (F.set dx (dictOf es nn)) ((F.set dx (dictOf es nn)).set a (instObj C dx)) := Part.le_set (R1.priv a _ p').1
    have rp : Rep c.DO ((F.set dx (dictOf es nn)).set a (instObj C dx)) g (.ref a) (.obj C l) := .obj (Part.set_self _ a _) (le2 _ _ (Part.set_self F dx _)) kn (Reps.mono (le1.trans le2) (.refl g) rs)
    refine ⟨_, (pv.drop dx).drop a, le1.trans le2, rp, R1.freeze p' (.inl rfl) ho (fun y hy => by rw [put_lookup, if_neg hy, put_lookup, if_neg hy]) fun av' e' => ?_⟩
    rw [put_lookup, if_pos rfl] at e'
    cases e'
    exact mk _ _ _ rfl (le1.trans le2) (fun cx q => (if_neg (priv_ne p' (dropC p2 (fun z => nomatch z) cx q) fun z => nomatch z)).trans (dropC p2 (fun z => nomatch z) cx q)) rp

theorem readL (R : Rel c F g G σ h pv m) (hk : c.e.kindOf n = some .local) (e : readX σ n = some (d, σ')) : ∃ v F' pv', m n = some v ∧ Part.le F F' ∧ Rep c.DO F' g v d ∧ Rel c F' g G σ' h pv' m := by
  cases hl : σ.lookup n with
  | none => unfold readX at e; rw [hl] at e; exact nn e
  | some av =>
    have q := R.vars n av hl
    unfold VarOk at q
    rw [hk] at q
    obtain ⟨v, h1, h2⟩ := q
    obtain ⟨F', pv', a, b, r⟩ := frz R hl h2 e fun F' pv' d' _ _ _ r => by unfold VarOk; rw [hk]; exact ⟨v, h1, r⟩
    exact ⟨v, F', pv', h1, a, b, r⟩

theorem readC (R : Rel c F g G σ h pv m) (hk : c.e.kindOf n = some .cell ∨ c.e.kindOf n = some .free) (e : readX σ n = some (d, σ')) :
    ∃ cx v F' pv', c.e.cells.lookup n = some cx ∧ h.IsCell cx (some v) ∧ Part.le F F' ∧ Rep c.DO F' g v d ∧ Rel c F' g G σ' h pv' m := by
  cases hl : σ.lookup n with
  | none => unfold readX at e; rw [hl] at e; exact nn e
  | some av =>
    have q := R.vars n av hl
    have key : ∀ cx vo, c.e.cells.lookup n = some cx → h.IsCell cx vo → CellAt c F pv n av cx → CvOk c.DO F g h pv n vo av →
        ∃ cx v F' pv', c.e.cells.lookup n = some cx ∧ h.IsCell cx (some v) ∧ Part.le F F' ∧ Rep c.DO F' g v d ∧ Rel c F' g G σ' h pv' m := by
      intro cx vo h1 h2 h3 h4
      rcases h4 with ⟨v, rfl, h4⟩ | ⟨_, rfl⟩
      · obtain ⟨F', pv', a, b, r⟩ := frz R hl h4 e fun F' pv' d' hc le hp r => by
          have ca : CellAt c F' pv' n (.d d') cx := by
            rcases h3 with ⟨h3, _⟩ | ⟨h3, _⟩
            · exact .inl ⟨hp cx h3, rfl⟩
            · rw [hc] at h3; cases h3
          unfold VarOk
          rcases hk with hk | hk <;> rw [hk] <;> exact ⟨cx, some v, h1, h2, ca, .inl ⟨v, rfl, r⟩⟩
        exact ⟨cx, v, F', pv', h1, h2, a, b, r⟩
      · unfold readX at e; rw [hl] at e; exact nn e
    unfold VarOk at q
    rcases hk with hk | hk <;> rw [hk] at q <;> obtain ⟨cx, vo, h1, h2, h3, h4⟩ := q <;> exact key cx vo h1 h2 h3 h4
end

/-- another frame of the same world -/
structure Same (c c' : FC) : Prop where
  w : c'.w = c.w
  DO : c'.DO = c.DO
  hs : c'.hs = c.hs
  K : c'.K = c.K
  gl : c'.e.globals = c.e.globals
  bu : c'.e.builtins = c.e.builtins
theorem Same.refl (c : FC) : Same c c := ⟨rfl, rfl, rfl, rfl, rfl, rfl⟩

/-- what the evaluator's tables must say of the frame -/
structure CfgOk (prog : Program) (k : Nat) (c : FC) (cfg : Cfg) : Prop where
  kd : c.e.kindOf = cfg.kd
  kind : c.e.scope.kind = .function
  gd : ∀ n d, cfg.gd n = some d → ∀ c', Same c c' → ∀ A F g s x, St c' x F g s → ∀ (Q : Value → Shared → Prop) (E : Value → Shared → Prop), (∀ v, Rep c'.DO F g v d → Q v s) → wpAny (model prog c'.w) A (loadGlobal c'.e n) Q E s

theorem name_ok {k : Nat} {cfg : Cfg} {n : Str} {pos : Pos} {d : D} (O : CfgOk prog k c cfg) (e : nameX cfg x n = some (d, x')) : Ev prog c A x (eval (.Name n pos) c.e) (IsD c d) x' := by
  refine bc e (fun _ e => nn e) fun hdb e => bnd e fun kd hk e => ?_
  rw [← O.kd] at hk
  cases kd with
  | «local» =>
    refine mpx (P := fun d x' => Ev prog c A x _ (IsD c d) x') e fun p e1 F g s S Q E K => ?_
    obtain ⟨pv, m, R⟩ := S.rel
    obtain ⟨v, F', pv', h1, h2, h3, h4⟩ := readL R hk e1
    exact wpAny_Name (wpAny_loadName_local O.kind hk R.ns h1 (K v F' g s ⟨⟨pv', m, h4⟩, S.gens⟩ ⟨h2, .refl g, rfl⟩ h3)) hdb
  | cell =>
    refine mpx (P := fun d x' => Ev prog c A x _ (IsD c d) x') e fun p e1 F g s S Q E K => ?_
    obtain ⟨pv, m, R⟩ := S.rel
    obtain ⟨cx, v, F', pv', h1, h1', h2, h3, h4⟩ := readC R (.inl hk) e1
    exact wpAny_Name (wpAny_loadName_cell O.kind hk h1 h1' (K v F' g s ⟨⟨pv', m, h4⟩, S.gens⟩ ⟨h2, .refl g, rfl⟩ h3)) hdb
  | free =>
    refine bc e (fun _ e => nn e) fun hcd e => mpx (P := fun d x' => Ev prog c A x _ (IsD c d) x') e fun p e1 F g s S Q E K => ?_
    obtain ⟨pv, m, R⟩ := S.rel
    obtain ⟨cx, v, F', pv', h1, h1', h2, h3, h4⟩ := readC R (.inr hk) e1
    exact wpAny_Name (wpAny_loadName_free O.kind hk h1 h1' (K v F' g s ⟨⟨pv', m, h4⟩, S.gens⟩ ⟨h2, .refl g, rfl⟩ h3) hcd) hdb
  | globalImplicit =>
    exact mpx (P := fun d x' => Ev prog c A x _ (IsD c d) x') e fun d' e1 F g s S Q E K => Name_function_global O.kind hk (O.gd n d' e1 c (.refl c) A F g s x S Q E fun v r => K v F g s S (.refl F g s) r) hdb
  | globalExplicit => exact nn e

/-- a name bound -/
theorem store_ok {k : Nat} {cfg : Cfg} {n : Str} {d : D} {v : Value} (hpin : c.pins = []) (O : CfgOk prog k c cfg) (e : storeX cfg x n d = some x') (S : St c x F g s) (r : Rep c.DO F g v d) :
    At prog c A F g s (storeName c.e n v) (fun _ _ _ => True) x' := by
  intro Q E K
  obtain ⟨pv, m, R⟩ := S.rel
  refine bnd e fun kd hk e => ?_
  rw [← O.kd] at hk
  cases kd with
  | «local» =>
    cases Option.some.inj e
    exact wpAny_storeName_local hk R.ns (fun h' hn hs => K () F g _ ⟨⟨pv, _, R.storeL hpin hk (av := .d d) r hn hs⟩, S.gens⟩ ⟨.refl F, .refl g, rfl⟩ trivial) (by rw [O.kind]; rfl)
  | cell =>
    refine bnd e fun av hl e => bt e fun ho e => ?_
    cases Option.some.inj e
    have hc : isConAV av = false := by cases av <;> first | rfl | exact Bool.noConfusion ho
    have q := R.vars n av hl
    unfold VarOk at q
    rw [hk] at q
    obtain ⟨cx, vo, h1, h2, h3, h4⟩ := q
    rcases h3 with ⟨h3, _⟩ | ⟨h3, _⟩
    · exact wpAny_storeName_cell O.kind hk h1 h2 fun h' hn hs => K () F g _ ⟨⟨pv, m, R.storeC hk h1 h3 r hn hs⟩, S.gens⟩ ⟨.refl F, .refl g, rfl⟩ trivial
    · rw [hc] at h3; exact Bool.noConfusion h3
  | _ => exact nn e
end
end Mine
end

section
open PySem PySem.W PyProof.Rows PySem.Calls PySem.Spec PySem.SeqAt
set_option Elab.async false
set_option backward.match.sparseCases false
set_option maxRecDepth 100000
open AutoSeq1 (wpAny_loadPart')
open MeetsSeq MeetsSeq2 MeetsSeq3 SeqRoads2
namespace Mine

noncomputable def LtAt (A : Around) (s : Shared) (y x : Value) (b : Bool) : Prop :=
  ∀ (prog : Program) (w : World) (E : Value → Shared → Prop) (Q : Value → Shared → Prop), Q (.bool b) s → wpAny (model prog w) A (richCompare .Lt y x) Q E s

/-- the first pair of unlike items tells -/
inductive LexOk (A : Around) (s : Shared) : List Value → List Value → Bool → Prop
  | nil : LexOk A s [] [] false
  | short {b bs} : LexOk A s [] (b :: bs) true
  | long {a as} : LexOk A s (a :: as) [] false
  | eq {a b as bs t} : EqAt A s a b true → LexOk A s as bs t → LexOk A s (a :: as) (b :: bs) t
  | ne {a b as bs t} : EqAt A s a b false → LtAt A s a b t → LexOk A s (a :: as) (b :: bs) t

theorem pyD_spec {d : D} {z : PyData} (e : pyD d = some z) : d.py 64 = some z ∧ shaped z = true :=
  bnd e fun y h1 h2 => bt h2 fun hs h2 => (Option.some.inj h2) ▸ ⟨h1, hs⟩

theorem LexOk.end1 {A : Around} {s : Shared} {as bs : List Value} {t : Bool} (h : LexOk A s as bs t) (z : as.zip bs = []) : t = decide (as.length < bs.length) := by
  cases h with
  | nil => rfl
  | short => simp
  | long => simp
  | eq _ _ => simp at z
  | ne _ _ => simp at z

theorem tuple_ltAt (l b : Addr) (items items2 : List Value) (n n2 : Nat) (dd dd2 : Option Addr) (sl sl2 : Array (Option Value)) (t : Bool) :
    Meets (Builtin.«tuple.__lt__» ⟨[.ref l, .ref b], []⟩)
      (fun A R s => s.heap.get? l = some { cls := .type "tuple", dict := dd, data := .seq items.toArray n, slots := sl } ∧ s.heap.get? b = some { cls := .type "tuple", dict := dd2, data := .seq items2.toArray n2, slots := sl2 } ∧
        LexOk A.in1 s items items2 t ∧ R (.ok (.ret (.bool t))) s) :=
  .of_wp fun prog w A R s h => by
    obtain ⟨hp, g, d, tk, os⟩ := s; obtain ⟨hl, hb, he, h⟩ := h
    have f2 := AutoSeq1.sub_tuple_tuple
    wp_walk using wpAny_loadPart' hl, wpAny_loadPart' hb, wpAny_forIn_list _ (fun rest b s' => b.1 = none ∧ s' = ⟨hp, g, d, tk, os⟩ ∧ ∃ r1 r2, rest = r1.zip r2 ∧ LexOk A.in1 ⟨hp, g, d, tk, os⟩ r1 r2 t ∧ (items.length < items2.length ↔ r1.length < r2.length)) _
    case turn =>
      rintro ⟨y, x⟩ rest b s' ⟨hb', rfl, r1, r2, hz, hL, hc⟩
      cases hL with
      | nil => cases hz
      | short => cases hz
      | long => cases hz
      | eq e r =>
        cases hz
        refine wpAny_bind (e prog w _ _ ?_)
        wp_walk
        exact ⟨rfl, rfl, _, _, rfl, r, hc.trans (by simp)⟩
      | ne e r =>
        cases hz
        refine wpAny_bind (e prog w _ _ ?_)
        have hr : ∀ (E : Value → Shared → Prop) (Q : Value → Shared → Prop), Q (.bool t) ⟨hp, g, d, tk, os⟩ → wpAny (model prog w) A.in1 (richCompare .Lt y x) Q E ⟨hp, g, d, tk, os⟩ := r prog w
        wp_walk using hr
        exact ⟨_, rfl, h⟩
    case fin =>
      rintro ⟨b1, b2⟩ s' ⟨hb', rfl, r1, r2, hz, hL, hc⟩
      simp only at hb'
      subst hb'
      have e := hL.end1 hz.symm
      wp_walk
      refine ⟨_, rfl, ?_⟩
      have : decide (items.length < items2.length) = t := by rw [e]; simp [hc]
      simpa [Builtin.Tuple.tupleCompareSizes, this] using h
    case h =>
      exact ⟨rfl, rfl, _, _, by simp, he, Iff.rfl⟩

theorem lt_loopAt (l b : Addr) (items items2 : List Value) (n n2 : Nat) (dd dd2 : Option Addr) (sl sl2 : Array (Option Value)) (t : Bool) :
    ∀ (k i : Nat), items.length - i = k → i ≤ items.length → i ≤ items2.length → Meets (Builtin.«list.__eq__.loop» ⟨[.ref l, .ref b, rawInt i, rawInt 0], []⟩)
      (fun A R s => s.heap.get? l = some { cls := .type "list", dict := dd, data := .seq items.toArray n, slots := sl } ∧ s.heap.get? b = some { cls := .type "list", dict := dd2, data := .seq items2.toArray n2, slots := sl2 } ∧
        LexOk A.in1 s (items.drop i) (items2.drop i) t ∧ R (.ok (.ret (.bool t))) s) := by
  intro k
  induction k with
  | zero =>
    intro i hk hi hj prog w A R s h
    obtain ⟨hp, g, d, tk, os⟩ := s; obtain ⟨hl, hb, he, h⟩ := h
    wp_walk using wpAny_loadPart' hl, wpAny_loadPart' hb
    have hi1 : items.toArray[((i : Nat) : Int).toNat]? = none := by simp; omega
    have hd : items.drop i = [] := by simp; omega
    rw [hd] at he
    have e := he.end1 (by simp)
    have e' : decide (items.length < items2.length) = t := by rw [e]; simp; omega
    rw [hi1]
    wp_walk using wpAny_loadPart' hl, wpAny_loadPart' hb
    show R (.ok (.ret (.bool (decide (items.toArray.size < items2.toArray.size))))) _
    simpa [e'] using h
  | succ k ih =>
    intro i hk hi hj prog w A R s h
    obtain ⟨hp, g, d, tk, os⟩ := s; obtain ⟨hl, hb, he, h⟩ := h
    wp_walk using wpAny_loadPart' hl, wpAny_loadPart' hb
    have hlt : i < items.length := by omega
    have hi1 : items.toArray[((i : Nat) : Int).toNat]? = some items[i] := by simp [hlt]
    have hc : ((i : Int) + 1) = ((i + 1 : Nat) : Int) := by push_cast; rfl
    rw [List.drop_eq_getElem_cons hlt] at he
    rw [hi1]
    by_cases hlt2 : i < items2.length
    · have hi2 : items2.toArray[((i : Nat) : Int).toNat]? = some items2[i] := by simp [hlt2]
      rw [List.drop_eq_getElem_cons hlt2] at he
      rw [hi2]
      cases he with
      | eq e r =>
        refine wpAny_bind (e prog w _ _ ?_)
        wp_walk
        rw [hc]
        exact ⟨plainId_quiet plain_eq_loop _, codeAny_builtin entry_eq_loop (by
          rw [Around.under_plainId plain_eq_loop _]
          exact ih (i + 1) (by omega) (by omega) (by omega) prog w A R _ ⟨hl, hb, r, h⟩)⟩
      | ne e r =>
        refine wpAny_bind (e prog w _ _ ?_)
        have hr : ∀ (E : Value → Shared → Prop) (Q : Value → Shared → Prop), Q (.bool t) ⟨hp, g, d, tk, os⟩ → wpAny (model prog w) A.in1 (richCompare .Lt items[i] items2[i]) Q E ⟨hp, g, d, tk, os⟩ := r prog w
        wp_walk using wpAny_loadPart' hl, wpAny_loadPart' hb
        rw [hi1, hi2]
        wp_walk using hr
        exact h
    · have hi2 : items2.toArray[((i : Nat) : Int).toNat]? = none := by simp; omega
      have hd : items2.drop i = [] := by simp; omega
      rw [hd] at he
      rw [hi2]
      have e : t = false := by cases he; rfl
      subst e
      have e' : decide (items.length < items2.length) = false := by simp; omega
      wp_walk using wpAny_loadPart' hl, wpAny_loadPart' hb
      show R (.ok (.ret (.bool (decide (items.toArray.size < items2.toArray.size))))) _
      simpa [e'] using h

theorem list_ltAt (l b : Addr) (items items2 : List Value) (n n2 : Nat) (dd dd2 : Option Addr) (sl sl2 : Array (Option Value)) (t : Bool) :
    Meets (Builtin.«list.__lt__» ⟨[.ref l, .ref b], []⟩)
      (fun A R s => s.heap.get? l = some { cls := .type "list", dict := dd, data := .seq items.toArray n, slots := sl } ∧ s.heap.get? b = some { cls := .type "list", dict := dd2, data := .seq items2.toArray n2, slots := sl2 } ∧
        LexOk A.in1 s items items2 t ∧ R (.ok (.ret (.bool t))) s) := by
  intro prog w A R s h
  obtain ⟨hp, g, d, tk, os⟩ := s; obtain ⟨hl, hb, he, h⟩ := h
  have f3 := AutoSeq1.sub_list_list
  wp_walk using wpAny_loadPart' hl, wpAny_loadPart' hb
  exact ⟨plainId_quiet plain_eq_loop _, codeAny_builtin entry_eq_loop (by
    rw [Around.under_plainId plain_eq_loop _]
    exact lt_loopAt l b items items2 n n2 dd dd2 sl sl2 t _ 0 rfl (Nat.zero_le _) (Nat.zero_le _) prog w A R _ ⟨hl, hb, he, h⟩)⟩

section
variable {prog : Program} {c : FC} {A : Around} {x : X} {F : Part} {g : List Addr} {s : Shared} {v w : Value} {a b : D} {vs ws : List Value} {as bs : List D} {t : Bool}

theorem LtAt.tuples {l m : Addr} {o o' : Obj} {n n' : Nat} (h1 : s.heap.get? l = some o) (h2 : o.cls = .type "tuple") (h3 : o.data = .seq vs.toArray n) (k1 : s.heap.get? m = some o') (k2 : o'.cls = .type "tuple") (k3 : o'.data = .seq ws.toArray n')
    (hu : A.units < cLine) (h : LexOk A.in1 s vs ws t) : LtAt A s (.ref l) (.ref m) t := fun prog w E Q hq => by
  obtain ⟨oc, od, oda, os⟩ := o
  obtain ⟨oc', od', oda', os'⟩ := o'
  cases h2; cases h3; cases k2; cases k3
  exact richCompare_meets_room (op := .Lt) ⟨_, h1, rfl⟩ ⟨_, k1, rfl⟩ PySem.F.slot_tuple_lt PySem.F.entry_tuple_lt (PySem.F.args_tuple_lt_2 _ _) (tuple_ltAt l m vs ws n n' od od' os os' t)
    ⟨h1, k1, h, show Value.bool t ≠ Value.notImplemented ∧ Q (.bool t) s from ⟨(fun x => nomatch x), hq⟩⟩ hu
theorem LtAt.lists {l m : Addr} {n n' : Nat} (h1 : s.heap.get? l = some ⟨.type "list", .none, .seq vs.toArray n, #[]⟩) (k1 : s.heap.get? m = some ⟨.type "list", .none, .seq ws.toArray n', #[]⟩)
    (hu : A.units < cLine) (h : LexOk A.in1 s vs ws t) : LtAt A s (.ref l) (.ref m) t := fun prog w E Q hq =>
  richCompare_meets_room (op := .Lt) ⟨_, h1, rfl⟩ ⟨_, k1, rfl⟩ PySem.F.slot_list_lt PySem.F.entry_list_lt (PySem.F.args_list_lt_2 _ _) (list_ltAt l m vs ws n n' _ _ _ _ t)
    ⟨h1, k1, h, show Value.bool t ≠ Value.notImplemented ∧ Q (.bool t) s from ⟨(fun x => nomatch x), hq⟩⟩ hu

theorem eqAt_ok {P : DOb} (sub : ∀ a o, F a = some o → s.heap.get? a = some o) (hu : A.units + 64 < cLine) (ra : Rep P F g v a) (rb : Rep P F g w b) (e : eqD a b = some t) : EqAt A s v w t := by
  refine orx e (fun e => intsD_inv (P := fun a b t => Rep P F g v a → Rep P F g w b → EqAt A s v w t) e (fun i j ra rb => ?_) ra rb) fun e => orx e (fun e => strsD_inv (P := fun a b t => Rep P F g v a → Rep P F g w b → EqAt A s v w t) e (fun i j ra rb => ?_) ra rb) fun e => bnd e fun y e1 e => mpd (P := fun t => EqAt A s v w t) e fun z e3 => ?_
  · obtain ⟨t, rfl⟩ := rep_int ra; obtain ⟨u, rfl⟩ := rep_int rb
    exact (EqGives.int _ _ _ _).at A s
  · obtain ⟨t, rfl⟩ := rep_str ra; obtain ⟨u, rfl⟩ := rep_str rb
    exact (eqGives_str _ _ _ _).at A s
  · obtain ⟨p1, q1⟩ := pyD_spec e1
    obtain ⟨p2, q2⟩ := pyD_spec e3
    obtain ⟨as, r1⟩ := Rep.reads sub 64 ra p1
    obtain ⟨bs, r2⟩ := Rep.reads sub 64 rb p2
    exact eqAt_reads _ _ A s _ _ _ _ r1 r2 (canLay_of_shaped q1) (canLay_of_shaped q2) (room_of_shaped q1 hu)

theorem lt0_at {P : DOb} (ra : Rep P F g v a) (rb : Rep P F g w b) (e : lt0 a b = some t) : LtAt A s v w t := by
  refine orx e (fun e => intsD_inv (P := fun a b t => Rep P F g v a → Rep P F g w b → LtAt A s v w t) e (fun i j ra rb prog wd E Q hq => ?_) ra rb) fun e => strsD_inv (P := fun a b t => Rep P F g v a → Rep P F g w b → LtAt A s v w t) e (fun i j ra rb prog wd E Q hq => ?_) ra rb
  · obtain ⟨t, rfl⟩ := rep_int ra; obtain ⟨u, rfl⟩ := rep_int rb
    exact PyProof.Rows.lt_int hq
  · obtain ⟨t, rfl⟩ := rep_str ra; obtain ⟨u, rfl⟩ := rep_str rb
    exact PyProof.Rows.lt_str hq

theorem ltSeq_at {P : DOb} {lt : D → D → Option Bool} (sub : ∀ a o, F a = some o → s.heap.get? a = some o) (hu : A.units + 64 < cLine) (hlt : ∀ {v w : Value} {a b : D} {t : Bool}, Rep P F g v a → Rep P F g w b → lt a b = some t → LtAt A s v w t) :
    ∀ (as bs : List D) (vs ws : List Value) (t : Bool), Reps P F g vs as → Reps P F g ws bs → ltSeq lt as bs = some t → LexOk A s vs ws t := by
  intro as
  induction as with
  | nil =>
    intro bs vs ws t r1 r2 e
    cases r1
    cases Option.some.inj e
    cases r2 with
    | nil => exact .nil
    | cons => exact .short
  | cons a as ih =>
    intro bs vs ws t r1 r2 e
    cases r1 with | cons p1 r1 =>
    cases r2 with
    | nil => cases Option.some.inj e; exact .long
    | cons p2 r2 =>
      refine bnd e fun z hz e => ?_
      cases z with
      | true => exact .eq (eqAt_ok sub hu p1 p2 hz) (ih _ _ _ t r1 r2 e)
      | false => exact .ne (eqAt_ok sub hu p1 p2 hz) (hlt p1 p2 e)

theorem lt1_at {P : DOb} (sub : ∀ a o, F a = some o → s.heap.get? a = some o) (hu : A.units + 80 < cLine) (ra : Rep P F g v a) (rb : Rep P F g w b) (e : lt1 a b = some t) : LtAt A s v w t := by
  refine orx e (fun e => bnd e fun l h1 e => bnd e fun m h2 e => ?_) fun e => lt0_at ra rb e
  rw [lstD_ok h1] at ra
  rw [lstD_ok h2] at rb
  cases ra with | lst h1 h2 => cases rb with | lst k1 k2 =>
    have hu' : A.in1.units + 64 < cLine := by show A.units + 1 + 64 < cLine; omega
    exact .lists (sub _ _ h1) (sub _ _ k1) (by omega) (ltSeq_at sub hu' (fun p q e => lt0_at p q e) _ _ _ _ t h2 k2 e)

theorem lt_at {P : DOb} (sub : ∀ a o, F a = some o → s.heap.get? a = some o) (hu : A.units + 90 < cLine) (ra : Rep P F g v a) (rb : Rep P F g w b) (e : ltD a b = some t) : LtAt A s v w t := by
  refine orx e (fun e => bnd e fun l h1 e => bnd e fun m h2 e => ?_) fun e => lt0_at ra rb e
  rw [tupD_ok h1] at ra
  rw [tupD_ok h2] at rb
  cases ra with | tup h1 h2 h3 h4 => cases rb with | tup k1 k2 k3 k4 =>
    have hu' : A.in1.units + 80 < cLine := by show A.units + 1 + 80 < cLine; omega
    exact .tuples (sub _ _ h1) h2 h3 (sub _ _ k1) k2 k3 (by omega) (ltSeq_at sub (by omega) (fun p q e => lt1_at sub hu' p q e) _ _ _ _ t h4 k4 e)
end
end Mine
end

section
open PySem PySem.W PyProof.Rows PySem.Calls PySem.Spec PySem.SeqAt
set_option Elab.async false
set_option backward.match.sparseCases false
set_option maxRecDepth 100000
namespace Mine
section
variable {prog : Program} {c : FC} {A : Around} {x x' x'' : X} {F F' : Part} {g g' : List Addr} {s s' : Shared} {k : Nat} {v w u : Value} {a b d : D}

theorem At.val {t : Sem Value} (S : St c x F g s) (r : ∀ (Q : Value → Shared → Prop) (E : Value → Shared → Prop), (∀ v tk, Rep c.DO F g v d → Q v { s with toks := tk }) → wpAny (model prog c.w) A t Q E s) : At prog c A F g s t (IsD c d) x :=
  fun Q E K => r Q E fun v tk p => K v F g _ (S.toks tk) ⟨.refl F, .refl g, rfl⟩ p

/-- a new list -/
theorem At.newList {t : Sem Value} {vs : List Value} {ds : List D} (S : St c x F g s) (hr : Reps c.DO F g vs ds)
    (r : ∀ (Q : Value → Shared → Prop) (E : Value → Shared → Prop), Q (.ref s.heap.objs.size) { s with heap := s.heap.push { cls := .type "list", data := .seq vs.toArray } } → wpAny (model prog c.w) A t Q E s) : At prog c A F g s t (IsD c (.lst ds)) x :=
  fun Q E K => r Q E (K _ _ g _ (S.push (tk := s.toks) rfl) ⟨S.le_push _, .refl g, rfl⟩ (.lst (Part.set_self F _ _) (Reps.mono (S.le_push _) (.refl g) hr)))
theorem At.newTup {t : Sem Value} {vs : List Value} {ds : List D} (S : St c x F g s) (hr : Reps c.DO F g vs ds)
    (r : ∀ (Q : Value → Shared → Prop) (E : Value → Shared → Prop), Q (.ref s.heap.objs.size) { s with heap := s.heap.push { cls := .type "tuple", data := .seq vs.toArray } } → wpAny (model prog c.w) A t Q E s) : At prog c A F g s t (IsD c (.tup ds)) x :=
  fun Q E K => r Q E (K _ _ g _ (S.push (tk := s.toks) rfl) ⟨S.le_push _, .refl g, rfl⟩ (.tup (Part.set_self F _ _) rfl rfl (Reps.mono (S.le_push _) (.refl g) hr)))

theorem tru_ok {t : Bool} (S : St c x F g s) (r : Rep c.DO F g v d) (e : truD d = some t) : At prog c A F g s (truthy v) (fun _ _ b => b = t) x := by
  intro Q E K
  cases r with
  | none => cases e; exact truthy_none (K _ F g s S (.refl F g s) rfl)
  | bool b => cases e; exact wpAny_truthy_bool (K _ F g s S (.refl F g s) rfl)
  | int i t => cases e; exact PyProof.Rows.truthy_int (K _ F g s S (.refl F g s) rfl)
  | _ => cases e

theorem Reps.length_le {vs : List Value} {ds : List D} {P : DOb} (r : Reps P F g vs ds) {n : Nat} (h : ds.length ≤ n) : vs.length ≤ n := by rw [r.len]; exact h

theorem arith_inv {f : Int → Int → Int} {ok : Int → Int → Bool} {P : D → D → D → Prop} (h : arith f ok a b = some d) (k : ∀ i j, ok i j = true → P (.int i) (.int j) (.int (f i j))) : P a b d :=
  bnd h fun i h1 h => bnd h fun j h2 h => bt h fun ho h => by rw [intD_ok h1, intD_ok h2, ← Option.some.inj h]; exact k i j ho
theorem bin_int {op : Operator} {f : Int → Int → Int} {ok : Int → Int → Bool} (S : St c x F g s) (ra : Rep c.DO F g v a) (rb : Rep c.DO F g w b) (e : arith f ok a b = some d)
    (k : ∀ i j t u (Q : Value → Shared → Prop) (E : Value → Shared → Prop), ok i j = true → (∀ tk, Q (.int (f i j) s.toks) { s with toks := tk }) → wpAny (model prog c.w) A (binaryOp op (.int i t) (.int j u)) Q E s) : At prog c A F g s (binaryOp op v w) (IsD c d) x :=
  arith_inv (P := fun a b d => Rep c.DO F g v a → Rep c.DO F g w b → At prog c A F g s (binaryOp op v w) (IsD c d) x) e (fun i j ho ra rb => by
    obtain ⟨t, rfl⟩ := rep_int ra; obtain ⟨u, rfl⟩ := rep_int rb
    exact .val S fun Q E K => k i j t u Q E ho fun tk => K _ tk (.int _ _)) ra rb
theorem nz {j : Int} (h : (!decide (j = 0)) = true) : j ≠ 0 := fun z => by rw [decide_eq_true z] at h; exact Bool.noConfusion h
theorem bin_ok {op : Operator} (S : St c x F g s) (ra : Rep c.DO F g v a) (rb : Rep c.DO F g w b) (e : binD op a b = some d) : At prog c A F g s (binaryOp op v w) (IsD c d) x := by
  cases op with
  | Add =>
    refine orx e (fun e => bin_int S ra rb e fun i j t u Q E _ K => PyProof.Rows.add_int (K _)) fun e => orx e (fun e => bnd e fun y h1 e => bnd e fun z h2 e => bt e fun hz e => ?_) fun e => bnd e fun y h1 e => bnd e fun z h2 e => bt e fun hz e => ?_
    · rw [strD_ok h1] at ra
      rw [strD_ok h2] at rb
      rw [← Option.some.inj e]
      obtain ⟨t, rfl⟩ := rep_str ra; obtain ⟨u, rfl⟩ := rep_str rb
      exact .val S fun Q E K => PyProof.Rows.add_str (fun t' tk => K _ _ (.str _ _)) (Nat.le_trans (of_decide_eq_true hz) (by decide +kernel))
    · rw [lstD_ok h1] at ra
      rw [lstD_ok h2] at rb
      rw [← Option.some.inj e]
      cases ra with | lst ha r1 => cases rb with | lst hb r2 =>
        refine .newList S (r1.app r2) fun Q E K => ?_
        refine PySem.P.add_list (S.sub _ _ ha) (S.sub _ _ hb) (by rw [List.append_toArray]; exact K) ?_
        rw [List.size_toArray, List.size_toArray, r1.len, r2.len]
        exact Nat.le_trans (of_decide_eq_true hz) (by decide +kernel)
  | Sub => exact bin_int S ra rb e fun i j t u Q E _ K => PyProof.Rows.sub_int (K _)
  | Mult =>
    refine bin_int S ra rb e fun i j t u Q E hm K => PyProof.Rows.mul_int (K _) ?_
    rcases Bool.or_eq_true_iff.mp hm with hm | hm
    · exact .of_left (of_decide_eq_true hm)
    · exact .of_right (of_decide_eq_true hm)
  | FloorDiv =>
    refine bin_int S ra rb e fun i j t u Q E hm K => and_t hm fun h0 hs => PyProof.Rows.floordiv_int (nz h0) (K _) (.inl ?_)
    rcases Bool.or_eq_true_iff.mp hs with hs | hs
    · exact PyProof.noPylong_small (of_decide_eq_true hs)
    · exact (Bool.not_eq_true' _).mp hs
  | Mod => exact bin_int S ra rb e fun i j t u Q E hm K => PyProof.Rows.mod_int' (nz hm) (K _)
  | Pow => exact bin_int S ra rb e fun i j t u Q E hm K => and_t hm fun h1 h2 => PyProof.Rows.pow_int (of_decide_eq_true h1) (of_decide_eq_true h2) (K _)
  | _ => exact nn e

theorem Room.un (R : Room A k) : A.units + 64 < cLine := by have := R.units; omega

theorem eq_ok (R : Room A k) (S : St c x F g s) (ra : Rep c.DO F g v a) (rb : Rep c.DO F g w b) {t : Bool} (e : eqD a b = some t) (Q : Value → Shared → Prop) (E : Value → Shared → Prop) :
    (Q (.bool t) s → wpAny (model prog c.w) A (compareOp .Eq v w) Q E s) ∧ (Q (.bool (!t)) s → wpAny (model prog c.w) A (compareOp .NotEq v w) Q E s) := by
  refine orx e (fun e => intsD_inv (P := fun a b t => Rep c.DO F g v a → Rep c.DO F g w b → (Q (.bool t) s → wpAny (model prog c.w) A (compareOp .Eq v w) Q E s) ∧ (Q (.bool (!t)) s → wpAny (model prog c.w) A (compareOp .NotEq v w) Q E s)) e (fun i j ra rb => ?_) ra rb)
    fun e => orx e (fun e => strsD_inv (P := fun a b t => Rep c.DO F g v a → Rep c.DO F g w b → (Q (.bool t) s → wpAny (model prog c.w) A (compareOp .Eq v w) Q E s) ∧ (Q (.bool (!t)) s → wpAny (model prog c.w) A (compareOp .NotEq v w) Q E s)) e (fun i j ra rb => ?_) ra rb)
    fun e => bnd e fun y e1 e => ?_
  · obtain ⟨t, rfl⟩ := rep_int ra; obtain ⟨u, rfl⟩ := rep_int rb
    exact ⟨fun K => PyProof.Rows.eq_int K, fun K => PyProof.Rows.ne_int K⟩
  · obtain ⟨t, rfl⟩ := rep_str ra; obtain ⟨u, rfl⟩ := rep_str rb
    exact ⟨fun K => PyProof.Rows.eq_str K, fun K => PyProof.Rows.ne_str K⟩
  · obtain ⟨z, e3, rfl⟩ := Option.map_eq_some_iff.mp e
    obtain ⟨p1, q1⟩ := pyD_spec e1
    obtain ⟨p2, q2⟩ := pyD_spec e3
    obtain ⟨as, r1⟩ := Rep.reads S.sub 64 ra p1
    obtain ⟨bs, r2⟩ := Rep.reads S.sub 64 rb p2
    exact ⟨fun K => eq_dataH r1 r2 q1 q2 R.un K, fun K => ne_dataH r1 r2 q1 q2 R.un K⟩

theorem At.same {t : Sem Value} (S : St c x F g s) {z : Value} (hz : Rep c.DO F g z d) (r : ∀ (Q : Value → Shared → Prop) (E : Value → Shared → Prop), Q z s → wpAny (model prog c.w) A t Q E s) : At prog c A F g s t (IsD c d) x :=
  fun Q E K => r Q E (K _ F g s S (.refl F g s) hz)

theorem isNone_of {t : Bool} (hr : Rep c.DO F g v a) (h : isNone a = some t) : (v == Value.none) = t := by
  cases hr <;> first | exact nn h | exact Option.some.inj h
theorem noneD_ok (h : noneD b = true) : b = .none := by
  cases b <;> first | rfl | exact Bool.noConfusion h

theorem rep_lookup {kvs : List (Str × Value)} {l : List (Str × D)} {P : DOb} (h : kvs.map (·.1) = l.map (·.1)) (r : Reps P F g (kvs.map (·.2)) (l.map (·.2))) (n : Str) :
    (match l.lookup n with | some d => ∃ v, valueAt kvs n = some v ∧ Rep P F g v d | .none => valueAt kvs n = .none) := by
  induction kvs generalizing l with
  | nil => cases l with
    | nil => rfl
    | cons p l => cases h
  | cons q kvs ih => cases l with
    | nil => cases h
    | cons p l =>
      obtain ⟨k1, v1⟩ := q
      obtain ⟨k2, d2⟩ := p
      simp only [List.map_cons, List.cons.injEq] at h
      obtain ⟨rfl, h⟩ := h
      simp only [List.map_cons] at r
      cases r with
      | cons r1 r =>
        rw [List.lookup_cons]
        by_cases z : n = k1
        · subst z
          have : (n == n) = true := by simp
          rw [this]
          exact ⟨v1, by simp [valueAt], r1⟩
        · have : (n == k1) = false := by simpa using z
          rw [this]
          have e : valueAt ((k1, v1) :: kvs) n = valueAt kvs n := by
            unfold valueAt
            rw [List.find?_cons]
            have : decide (k1 = n) = false := by simpa using fun y => z y.symm
            rw [this]
          rw [e]
          exact ih h r

/-- dicts of this world -/
noncomputable def DOk (prog : Program) (c : FC) : Prop := ∀ o kvs, c.DO o kvs ↔ o.IsDictOf (strKind prog c.w) kvs
theorem strKind_is {y : Str} {t : Tok} {w : World} : (strKind prog w).is y (.str y t) = true := by
  show Value.isStrOf y (.str y t) = true
  simp [Value.isStrOf]
theorem dict_at (hD : DOk prog c) (S : St c x F g s) {ad : Addr} {o : Obj} {kvs : List (Str × Value)} (h1 : F ad = some o) (h2 : c.DO o kvs) : s.heap.DictOf (strKind prog c.w) ad kvs :=
  Heap.dictOf_iff.mpr ⟨o, S.sub _ _ h1, (hD o kvs).mp h2⟩

theorem in_ok {y : Str} {t : Bool} {tt : Tok} (hD : DOk prog c) (R : Room A k) (S : St c x F g s) (rb : Rep c.DO F g w b) (e : inD y b = some t) : At prog c A F g s (compareOp .In (.str y tt) w) (IsD c (.bool t)) x := by
  cases b with
  | str z =>
    obtain ⟨u, rfl⟩ := rep_str rb
    cases Option.some.inj e
    exact .same S (.bool _) fun Q E K => PyProof.Rows.in_str K
  | tup l =>
    refine bnd e fun xs hx e => bt e fun q1 e => mpd (P := fun t => At prog c A F g s (compareOp .In (.str y tt) w) (IsD c (.bool t)) x) e fun z e3 => ?_
    obtain ⟨p2, q2⟩ := pyD_spec e3
    have hx : D.py 64 (.tup l) = some (.tuple xs) := by show (l.mapM (D.py 63)).map PyData.tuple = _; rw [hx]; rfl
    obtain ⟨as, r1⟩ := Rep.reads S.sub 64 rb hx
    obtain ⟨bs, r2⟩ := Rep.reads (P := c.DO) (g := g) S.sub 64 (.str y tt) p2
    refine .same S (.bool _) fun Q E K => in_tuple_reads r1 r2 (canLay_of_shaped q1) (canLay_of_shaped q2) ?_ K
    have h1 := depth_of_shaped q2
    have h2 : min (PyData.depthAll xs) z.depth ≤ z.depth := Nat.min_le_right _ _
    have h3 := R.units
    omega
  | dic l =>
    cases Option.some.inj e
    cases rb with
    | dic h1 h2 h3 h4 h5 =>
      refine .val S fun Q E K => wpAny_in_of strKind_is h3 (dict_at hD S h1 h2).mapOf (K _ _ ?_)
      have := rep_lookup h4 h5 y
      cases hl : l.lookup y with
      | none => rw [hl] at this; rw [this]; exact .bool _
      | some dd => rw [hl] at this; obtain ⟨v, e, _⟩ := this; rw [e]; exact .bool _
  | _ => exact nn e
theorem notin_ok {y : Str} {l : List (Str × D)} {tt : Tok} (hD : DOk prog c) (S : St c x F g s) (rb : Rep c.DO F g w (.dic l)) : At prog c A F g s (compareOp .NotIn (.str y tt) w) (IsD c (.bool !(l.lookup y).isSome)) x := by
  cases rb with
  | dic h1 h2 h3 h4 h5 =>
    refine .val S fun Q E K => wpAny_notIn_of strKind_is h3 (dict_at hD S h1 h2).mapOf (K _ _ ?_)
    have := rep_lookup h4 h5 y
    cases hl : l.lookup y with
    | none => rw [hl] at this; rw [this]; exact .bool _
    | some dd => rw [hl] at this; obtain ⟨v, e, _⟩ := this; rw [e]; exact .bool _
theorem cmp_ok {op : CmpOp} (hD : DOk prog c) (R : Room A k) (S : St c x F g s) (ra : Rep c.DO F g v a) (rb : Rep c.DO F g w b) (e : cmpD op a b = some d) : At prog c A F g s (compareOp op v w) (IsD c d) x := by
  refine mpd (P := fun d => At prog c A F g s (compareOp op v w) (IsD c d) x) e fun t e => ?_
  cases op with
  | Eq => exact .same S (.bool t) fun Q E => (eq_ok R S ra rb e Q E).1
  | NotEq => exact mpd (P := fun t => At prog c A F g s (compareOp .NotEq v w) (IsD c (.bool t)) x) e fun t e1 => .same S (.bool _) fun Q E => (eq_ok R S ra rb e1 Q E).2
  | Lt => exact .same S (.bool _) fun Q E K => lt_at S.sub (by have := R.units; omega) ra rb e prog c.w E Q K
  | Gt =>
    refine orx e (fun e => intsD_inv (P := fun b a t => Rep c.DO F g v a → Rep c.DO F g w b → At prog c A F g s (compareOp .Gt v w) (IsD c (.bool t)) x) e (fun i j ra rb => ?_) ra rb) fun e => strsD_inv (P := fun b a t => Rep c.DO F g v a → Rep c.DO F g w b → At prog c A F g s (compareOp .Gt v w) (IsD c (.bool t)) x) e (fun i j ra rb => ?_) ra rb
    · obtain ⟨t, rfl⟩ := rep_int ra; obtain ⟨u, rfl⟩ := rep_int rb
      exact .same S (.bool _) fun Q E K => PyProof.Rows.gt_int K
    · obtain ⟨t, rfl⟩ := rep_str ra; obtain ⟨u, rfl⟩ := rep_str rb
      exact .same S (.bool _) fun Q E K => PySem.P.gt_str K
  | LtE =>
    refine intsD_inv (P := fun a b t => Rep c.DO F g v a → Rep c.DO F g w b → At prog c A F g s (compareOp .LtE v w) (IsD c (.bool t)) x) e (fun i j ra rb => ?_) ra rb
    obtain ⟨t, rfl⟩ := rep_int ra; obtain ⟨u, rfl⟩ := rep_int rb
    exact .same S (.bool _) fun Q E K => PyProof.Rows.le_int K
  | GtE =>
    refine intsD_inv (P := fun a b t => Rep c.DO F g v a → Rep c.DO F g w b → At prog c A F g s (compareOp .GtE v w) (IsD c (.bool t)) x) e (fun i j ra rb => ?_) ra rb
    obtain ⟨t, rfl⟩ := rep_int ra; obtain ⟨u, rfl⟩ := rep_int rb
    exact .same S (.bool _) fun Q E K => PyProof.Rows.ge_int K
  | Is =>
    refine bt e fun hn e => ?_
    rw [noneD_ok hn] at rb
    cases rep_none rb
    exact .same S (.bool _) fun Q E K => is_none_gen (by rw [isNone_of ra e]; exact K)
  | IsNot =>
    refine bt e fun hn e => mpd (P := fun t => At prog c A F g s (compareOp .IsNot v w) (IsD c (.bool t)) x) e fun t e => ?_
    rw [noneD_ok hn] at rb
    cases rep_none rb
    exact .same S (.bool _) fun Q E K => isnot_none_gen (by rw [isNone_of ra e]; exact K)
  | In =>
    refine bnd e fun y hy e => ?_
    rw [strD_ok hy] at ra
    obtain ⟨t, rfl⟩ := rep_str ra
    exact in_ok hD R S rb e
  | NotIn =>
    refine bnd e fun y hy e => mpd (P := fun t => At prog c A F g s (compareOp .NotIn v w) (IsD c (.bool t)) x) e fun l hl => ?_
    rw [strD_ok hy] at ra
    rw [dicD_ok hl] at rb
    obtain ⟨t, rfl⟩ := rep_str ra
    exact notin_ok hD S rb
end
end Mine
end

section
open PySem PySem.W PyProof.Rows PySem.Calls PySem.Spec PySem.SeqAt
set_option Elab.async false
set_option backward.match.sparseCases false
set_option maxRecDepth 100000
namespace Mine
section
variable {prog : Program} {c : FC} {A : Around} {x x' x'' : X} {F F' : Part} {g g' : List Addr} {s s' : Shared} {k : Nat} {v w u : Value} {a b d : D}

theorem small_spec {i : Int} (h : small i = true) : -1000000000 ≤ i ∧ i ≤ 1000000000 := by
  obtain ⟨h1, h2⟩ := Bool.and_eq_true_iff.mp h
  exact ⟨of_decide_eq_true h1, of_decide_eq_true h2⟩
theorem idxD_spec {i : Int} {n j : Nat} (h : idxD i n = some j) : -1000000000 ≤ i ∧ i ≤ 1000000000 ∧ seqIndex? i n = some j :=
  bt h fun hs h => ⟨(small_spec hs).1, (small_spec hs).2, h⟩
theorem seqIndex_nn {i : Int} {n j : Nat} (h : seqIndex? i n = some j) (h0 : 0 ≤ i) : j = i.toNat := by
  unfold seqIndex? at h
  have : ¬ i < 0 := by omega
  simp only [this, if_false] at h
  split at h <;> simp_all
theorem seqIndex_ng {i : Int} {n j : Nat} (h : seqIndex? i n = some j) (h0 : i < 0) : -(n : Int) ≤ i ∧ j = (i + n).toNat := by
  unfold seqIndex? at h
  simp only [h0, if_true] at h
  split at h
  · rename_i h1
    simp only [Bool.and_eq_true, decide_eq_true_eq] at h1
    exact ⟨by omega, by simpa using h.symm⟩
  · cases h

theorem list_item {l : Addr} {vs : List Value} {i : Int} {t : Tok} {j : Nat} {z : Value} {Q : Value → Shared → Prop} {E : Value → Shared → Prop} (hl : s.heap.IsList l (List.toArray vs)) (h : idxD i vs.length = some j) (hz : vs[j]? = some z) (K : Q z s) :
    wpAny (model prog c.w) A (getItem (.ref l) (.int i t)) Q E s := by
  obtain ⟨h1, h2, h3⟩ := idxD_spec h
  by_cases h0 : 0 ≤ i
  · have e := seqIndex_nn h3 h0
    subst e
    exact wpAny_getItem_list hl h0 (by omega) (by simpa using hz) K
  · obtain ⟨h4, e⟩ := seqIndex_ng h3 (by omega)
    subst e
    exact wpAny_getItem_list_neg hl (by omega) (by simpa using h4) (by omega) (by simpa using hz) K

theorem atL_inv {i : D} {l : List D} {P : Prop} (h : atL i l = some d) (k : ∀ n j, i = .int n → idxD n l.length = some j → l[j]? = some d → P) : P :=
  bnd h fun n h1 h => bnd h fun j h2 h3 => k n j (intD_ok h1) h2 h3
theorem sub_ok (hD : DOk prog c) (S : St c x F g s) (ra : Rep c.DO F g v a) (rb : Rep c.DO F g w b) (e : subD a b = some d) : At prog c A F g s (getItem v w) (IsD c d) x := by
  cases a with
  | lst l =>
    refine atL_inv e fun n j hb e1 e2 => ?_
    rw [hb] at rb
    obtain ⟨u, rfl⟩ := rep_int rb
    cases ra with
    | lst h1 h2 =>
      obtain ⟨z, hz, rz⟩ := h2.get e2
      exact .same S rz fun Q E K => list_item ⟨_, S.sub _ _ h1, rfl, _, rfl⟩ (by rw [h2.len]; exact e1) hz K
  | xls l =>
    refine atL_inv e fun n j hb e1 e2 => ?_
    rw [hb] at rb
    obtain ⟨u, rfl⟩ := rep_int rb
    cases ra with
    | xls h0 hc hd h2 =>
      obtain ⟨z, hz, rz⟩ := h2.get e2
      exact .same S rz fun Q E K => list_item ⟨_, S.sub _ _ h0, hc, _, hd⟩ (by rw [h2.len]; exact e1) hz K
  | tup l =>
    refine atL_inv e fun n j hb e1 e2 => ?_
    rw [hb] at rb
    obtain ⟨u, rfl⟩ := rep_int rb
    cases ra with
    | tup h1 h2 h3 h4 =>
      obtain ⟨z, hz, rz⟩ := h4.get e2
      obtain ⟨i1, i2, i3⟩ := idxD_spec e1
      exact .same S rz fun Q E K => PyProof.Rows.getItem_tuple ⟨_, S.sub _ _ h1, h2, _, h3⟩ (by omega) (by omega) (by rw [List.size_toArray, h4.len]; exact i3) (by rw [List.getElem?_toArray]; exact hz) K
  | str y =>
    refine bnd e fun n hn e => bnd e fun j e1 e => mpd (P := fun d => At prog c A F g s (getItem v w) (IsD c d) x) e fun cp e3 => ?_
    rw [intD_ok hn] at rb
    obtain ⟨u, rfl⟩ := rep_int rb
    obtain ⟨t, rfl⟩ := rep_str ra
    obtain ⟨i1, i2, i3⟩ := idxD_spec e1
    refine .val S fun Q E K => PyProof.Rows.getItem_str ?_ ?_ (K _ _ (.str _ _))
    · rw [Bool.or_eq_false_iff]; exact ⟨decide_eq_false (by omega), decide_eq_false (by omega)⟩
    · rw [i3, Option.bind_some, ← Array.getElem?_toList]; exact e3
  | dic l =>
    refine bnd e fun y hy e => ?_
    rw [strD_ok hy] at rb
    obtain ⟨t, rfl⟩ := rep_str rb
    cases ra with
    | dic h1 h2 h3 h4 h5 =>
      have := rep_lookup h4 h5 y
      rw [e] at this
      obtain ⟨z, hz, rz⟩ := this
      exact .val S fun Q E K => wpAny_getItem_of strKind_is (dict_at hD S h1 h2).mapOf hz (K _ _ rz)
  | _ => exact nn e

/-- a part of a slice -/
inductive PartIs : Value → Option Int → Prop
  | none : PartIs .none .none
  | int (i t) : PartIs (.int i t) (some i)

theorem PartIs.isPart {v : Value} {o : Option Int} (h : PartIs v o) : IsPart v o := by cases h <;> constructor
theorem PartIs.val {v : Value} {o : Option Int} (h : PartIs v o) : ∃ p : Option (Int × Tok), p.map (·.1) = o ∧ v = partValue p := by
  cases h with
  | none => exact ⟨.none, rfl, rfl⟩
  | int i t => exact ⟨some (i, t), rfl, rfl⟩

theorem Reps.cut {P : DOb} {vs : List Value} {ds : List D} (r : Reps P F g vs ds) (lo hi : Option Int) : Reps P F g (cutL vs lo hi) (cutL ds lo hi) := by
  unfold cutL
  rw [r.len]
  exact (r.drop _).take _

theorem cut_ok {lo hi : Option Int} {vl vu : Value} {sl : Addr} (S : St c x F g s) (ra : Rep c.DO F g v a) (hsl : s.heap.get? sl = some { cls := .type "slice", data := .fields #[vl, vu, .none] }) (hl : PartIs vl lo) (hu : PartIs vu hi) (e : cutD a lo hi = some d) :
    ∃ T id, typeLookup (.type T) "__getitem__" = pure (some (.builtin id)) ∧ s.TypeIs v T ∧ At prog c A F g s (getItem v (.ref sl)) (IsD c d) x := by
  cases a with
  | lst l =>
    refine bt e fun hz e => ?_
    cases Option.some.inj e
    cases ra with
    | lst h1 h2 =>
      have il : s.heap.IsList _ (List.toArray _) := ⟨_, S.sub _ _ h1, rfl, _, rfl⟩
      refine ⟨"list", _, list_getitem_lookup, il.typeIs, .newList S (h2.cut lo hi) fun Q E K => ?_⟩
      refine wpAny_getItem_list_slice il ⟨_, hsl, rfl, rfl⟩ hl.isPart hu.isPart .none (by simp) ?_ ?_
      · rw [slicePick_plain]
        simpa [cutL] using K
      · rw [List.size_toArray, h2.len]
        exact Nat.le_trans (of_decide_eq_true hz) (by decide +kernel)
  | str y =>
    refine bt e fun hz e => ?_
    cases Option.some.inj e
    obtain ⟨t, rfl⟩ := rep_str ra
    obtain ⟨p, rfl, rfl⟩ := hl.val
    obtain ⟨q, rfl, rfl⟩ := hu.val
    refine ⟨"str", _, PySem.F.slot_str_getitem.lookup, typeIs_str _ _ _, .val S fun Q E K => wpAny_getItem_str_slice (l := p) (u := q) (st := .none) ⟨_, hsl, rfl, rfl⟩ rfl ?_⟩
    unfold sliceMade slicePicked
    unfold StrLaws.sliceText at K
    show Made.post (if ((1 : Int) == 1 && (Builtin.Str.strSliceIndices (p.map (·.1)) (q.map (·.1)) 1 y.length).length == y.length) = true then .val (.str y t) else .str ⟨((Builtin.Str.strSliceIndices (p.map (·.1)) (q.map (·.1)) 1 y.length).filterMap (y.cps[·]?)).toArray⟩) Q s
    split
    · rename_i hc
      have := K (.str y t) s.toks (by rw [if_pos hc]; exact .str _ _)
      exact this
    · rename_i hc
      refine ⟨?_, K _ _ (by rw [if_neg hc]; exact .str _ _)⟩
      have h1 := indices_len_le (p.map (·.1)) (q.map (·.1)) y.length
      have h2 := List.length_filterMap_le (y.cps[·]?) (Builtin.Str.strSliceIndices (p.map (·.1)) (q.map (·.1)) 1 y.length)
      show (List.toArray _).size ≤ sizeLine
      rw [List.size_toArray]
      exact Nat.le_trans h2 (Nat.le_trans h1 (Nat.le_trans (of_decide_eq_true hz) (by decide +kernel)))
  | _ => exact nn e
end
end Mine
end

section
open PySem PySem.W PyProof.Rows PySem.Calls PySem.Spec PySem.SeqAt
set_option Elab.async false
set_option backward.match.sparseCases false
set_option maxRecDepth 100000
namespace Mine

/-- what must be so of the objects that stood at the start -/
structure KOk (K : Frag) : Prop where
  no1148 : K.lookup 1148 = .none
  code1150 : codeHdIn K 1150 1148 = true
  isi1 : ∀ C C', (icL.contains C && tcL.contains C') = true → kitOne K (.ref C) (.ref C') = some (C == C')
  isi2 : ∀ T T', (tzL.contains T && tyL.contains T') = true → kitOne K (.type T) (.type T') = some (T == T')
  own : ∀ C, icL.contains C = true → plainGet K C (S "__class__") = true ∧ hasDictIn K C = true ∧ findIn K (.ref C) (S "__class__") = some (some (.builtin "object.__class__")) ∧
    specialIn K (.builtin "object.__class__") (S "__get__") = some (some (.builtin "getset_descriptor.__get__")) ∧ takesIn K (.builtin "object.__class__") = some true ∧ mroIn K C (.type "object") = some true

/-- what stays so of a frame's world -/
structure FcOk (prog : Program) (c : FC) : Prop where
  hD : DOk prog c
  kok : KOk c.K
  kin : c.K.In c.hs

section
variable {prog : Program} {c : FC} {A : Around} {x x' x'' : X} {F F' : Part} {g g' : List Addr} {s s' : Shared} {k : Nat} {v w u : Value} {a b d : D} {vs : List Value} {ds : List D}

theorem St.inK (S : St c x F g s) (O : FcOk prog c) : c.K.In s.heap := fun a o e => by
  obtain ⟨pv, m, R⟩ := S.rel
  have h1 := O.kin a o e
  exact R.sub a o (R.base a o h1 fun z => by subst z; rw [O.kok.no1148] at e; cases e)

theorem kitV_ok (O : FcOk prog c) {k t : Value} {y : Bool} (e : kitV k t = some y) : kitOne c.K k t = some y := by
  refine orx e (fun e => bnd e fun T h1 e => bnd e fun U h2 e => bt e fun hc e => ?_) fun e => bnd e fun C h1 e => bnd e fun C' h2 e => bt e fun hc e => ?_
  · rw [typOf_ok h1, typOf_ok h2, ← e]; exact O.kok.isi2 _ _ hc
  · rw [refOf_ok h1, refOf_ok h2, ← e]; exact O.kok.isi1 _ _ hc
theorem isi_one {t : Value} {y : Bool} (O : FcOk prog c) (S : St c x F g s) (rd : Rep c.DO F g v d) (e : isiOne d t = some y) :
    ∃ T H, KitX c.K v T H ∧ H s.heap ∧ clsOfD d = some T ∧ v ≠ .builtin "__main__.__loader__#opaque" := by
  cases rd with
  | none => exact ⟨_, _, kitx_none, trivial, rfl, (fun z => nomatch z)⟩
  | bool b => exact ⟨_, _, kitx_bool, trivial, rfl, (fun z => nomatch z)⟩
  | int i t => exact ⟨_, _, kitx_int, trivial, rfl, (fun z => nomatch z)⟩
  | str z t => exact ⟨_, _, kitx_str, trivial, rfl, (fun z => nomatch z)⟩
  | tup h1 h2 h3 h4 => exact ⟨_, _, kitx_tuple, ⟨_, S.sub _ _ h1, h2⟩, rfl, (fun z => nomatch z)⟩
  | lst h1 h2 => exact ⟨_, _, kitx_list, ⟨_, S.sub _ _ h1, rfl⟩, rfl, (fun z => nomatch z)⟩
  | obj h1 h2 h3 h4 =>
    rename_i C dx n es ds
    have e : kitV (.ref C) t = some y := e
    refine orx e (fun e => nn e) fun e => bnd (α := Addr) e fun C1 h4 e => bnd e fun C' h5 e => bt e fun hc e => and_t hc fun hc _ => ?_
    cases Option.some.inj h4
    obtain ⟨o1, o2, o3, o4, o5, o6⟩ := O.kok.own C hc
    exact ⟨_, _, kitx_own o1 o2 o3 o4 o5 o6, ⟨S.sub _ _ h1, rfl, rfl, S.sub _ _ h2⟩, rfl, (fun z => nomatch z)⟩
  | _ => exact nn e
theorem isi_val {t : Value} {y : Bool} {T : Value} (O : FcOk prog c) (e : isiOne d t = some y) (hT : clsOfD d = some T) : kitOne c.K T t = some y := by
  unfold isiOne at e
  rw [hT] at e
  exact kitV_ok O e

theorem isi_ok {y : Bool} (O : FcOk prog c) (S : St c x F g s) (rd : Rep c.DO F g v d) (rc : Rep c.DO F g w b) (e : isiD d b = some y) : At prog c A F g s (call (.builtin "isinstance") [v, w]) (IsD c (.bool y)) x := by
  cases b with
  | sta u =>
    cases rc
    have e : isiOne d w = some y := e
    obtain ⟨T, H, z1, z2, z3, z4⟩ := isi_one O S rd e
    exact .val S fun Q E K => kia_one z1 (S.inK O) z2 (isi_val O e z3) z4 fun tk => K _ tk (.bool _)
  | tup l =>
    refine bnd e fun p hp e => bnd e fun v1 h1 e => bnd e fun v2 h2 e => bnd e fun y1 e1 e2 => ?_
    rw [two_ok hp, staD_ok h1, staD_ok h2] at rc
    cases rc with
    | tup h1 h2 h3 h4 =>
      cases h4 with | cons r1 h4 => cases h4 with | cons r2 h4 =>
      cases h4
      cases r1
      cases r2
      obtain ⟨T, H, z1, z2, z3, z4⟩ := isi_one O S rd e1
      rename_i oo _
      obtain ⟨oc, od, oda, osl⟩ := oo
      cases h2
      cases h3
      refine .val S fun Q E K => kia_tup z1 (S.inK O) z2 (S.sub _ _ h1) ?_ z4 fun tk => K _ tk (.bool _)
      unfold kitAny
      rw [isi_val O e1 z3]
      cases y1 with
      | true => exact e2
      | false =>
        unfold kitAny
        rw [isi_val O e2 z3]
        cases y <;> rfl
  | _ => exact nn e

theorem cons1 {P : DOb} {d : D} (r : Reps P F g vs ds) (h : one ds = some d) : ∃ v, vs = [v] ∧ Rep P F g v d := by
  rw [one_ok h] at r
  cases r with | cons r1 r => cases r; exact ⟨_, rfl, r1⟩
theorem cons2 {P : DOb} {d : D × D} (r : Reps P F g vs ds) (h : two ds = some d) : ∃ v w, vs = [v, w] ∧ Rep P F g v d.1 ∧ Rep P F g w d.2 := by
  rw [two_ok h] at r
  cases r with | cons r1 r => cases r with | cons r2 r => cases r; exact ⟨_, _, rfl, r1, r2⟩
theorem cons3 {P : DOb} {d : D × D × D} (r : Reps P F g vs ds) (h : three ds = some d) : ∃ v w u, vs = [v, w, u] ∧ Rep P F g v d.1 ∧ Rep P F g w d.2.1 ∧ Rep P F g u d.2.2 := by
  rw [three_ok h] at r
  cases r with | cons r1 r => cases r with | cons r2 r => cases r with | cons r3 r => cases r; exact ⟨_, _, _, rfl, r1, r2, r3⟩
theorem int_of {P : DOb} {i : Int} {b : D} (r : Rep P F g v b) (h : intD b = some i) : ∃ t, v = .int i t := rep_int (intD_ok h ▸ r)

theorem len_ok (S : St c x F g s) (r : Rep c.DO F g v a) (e : lenD a = some d) : At prog c A F g s (call (.builtin "len") [v]) (IsD c d) x := by
  cases a with
  | str y =>
    refine bt e fun hz e => ?_
    rw [← Option.some.inj e]
    have hz := of_decide_eq_true hz
    obtain ⟨t, rfl⟩ := rep_str r
    exact .val S fun Q E K => PyProof.Rows.len_str (by omega) (K _ _ (.int _ _))
  | lst l =>
    refine bt e fun hz e => ?_
    rw [← Option.some.inj e]
    have hz := of_decide_eq_true hz
    cases r with
    | lst h1 h2 => exact .val S fun Q E K => call_len_list ⟨_, S.sub _ _ h1, rfl, _, rfl⟩ (by rw [List.size_toArray, h2.len]; omega) (by have := K (.int _ (s.toks + 1)) (s.toks + 1 + 1) (.int _ _); rw [List.size_toArray, h2.len]; exact this)
  | xls l =>
    refine bt e fun hz e => ?_
    rw [← Option.some.inj e]
    have hz := of_decide_eq_true hz
    cases r with
    | xls h1 h0 hd h2 => exact .val S fun Q E K => call_len_list ⟨_, S.sub _ _ h1, h0, _, hd⟩ (by rw [List.size_toArray, h2.len]; omega) (by have := K (.int _ (s.toks + 1)) (s.toks + 1 + 1) (.int _ _); rw [List.size_toArray, h2.len]; exact this)
  | _ => exact nn e
theorem rng_made {i1 i2 i3 : Int} {t u z : Tok} {tk : Nat} {Q : Value → Shared → Prop} (S : St c x F g s) (K : ∀ v F' g' s', St c x F' g' s' → To F g s F' g' s' → IsD c (.rng i1 i2 i3) F' g' v → Q v s') :
    Q (.ref s.heap.objs.size) { s with heap := s.heap.push { cls := .type "range", data := .fields #[.int i1 t, .int i2 u, .int i3 z] }, toks := tk } :=
  K _ _ g _ (S.push (tk := tk) rfl) ⟨S.le_push _, .refl g, rfl⟩ (.rng (Part.set_self F _ _))
theorem rng_ok (S : St c x F g s) (r : Reps c.DO F g vs ds) (e : ((one ds).bind rng1).or (((two ds).bind rng2).or ((three ds).bind rng3)) = some d) : At prog c A F g s (call (.type "range") vs) (IsD c d) x := by
  refine orx e (fun e => bnd e fun p hp e => bnd e fun b hb e => bt e fun _ e => ?_) fun e => orx e (fun e => bnd e fun p hp e => bnd e fun b hb e => bnd e fun b2 hb2 e => bt e fun _ e => ?_)
    fun e => bnd e fun p hp e => bnd e fun b hb e => bnd e fun b2 hb2 e => bnd e fun b3 hb3 e => bt e fun hz e => ?_
  · rw [← Option.some.inj e]
    obtain ⟨_, rfl, r1⟩ := cons1 r hp
    obtain ⟨t, rfl⟩ := int_of r1 hb
    exact fun Q E K => call_range_1 (rng_made S K)
  · rw [← Option.some.inj e]
    obtain ⟨_, _, rfl, r1, r2⟩ := cons2 r hp
    obtain ⟨t, rfl⟩ := int_of r1 hb
    obtain ⟨u, rfl⟩ := int_of r2 hb2
    exact fun Q E K => call_range_2 (rng_made S K)
  · rw [← Option.some.inj e]
    obtain ⟨_, _, _, rfl, r1, r2, r3⟩ := cons3 r hp
    obtain ⟨t, rfl⟩ := int_of r1 hb
    obtain ⟨u, rfl⟩ := int_of r2 hb2
    obtain ⟨z, rfl⟩ := int_of r3 hb3
    refine and_t hz fun hz h0 => and_t hz fun _ h1 => ?_
    have h0 := of_decide_eq_true h0
    have h1 := small_spec h1
    exact fun Q E K => PySem.call_range_3 (by omega) (rng_made S K) (.inl (PyProof.noPylong_small (by omega)))

theorem bltB_ok {n : String} (O : FcOk prog c) (R : Room A k) (S : St c x F g s) (r : Reps c.DO F g vs ds) (e : bltB n ds = some d) : At prog c A F g s (call (.builtin n) vs) (IsD c d) x := by
  refine bc e (fun hn e => bnd e fun p hp e => ?_) fun _ e => bc e (fun hn e => bnd e fun p hp e => mpd (P := fun d => At prog c A F g s (call (.builtin n) vs) (IsD c d) x) e fun i hi => ?_)
    fun _ e => bc e (fun hn e => bnd e fun p hp e => bnd e fun i hi e => mpd (P := fun d => At prog c A F g s (call (.builtin n) vs) (IsD c d) x) e fun j hj => ?_)
    fun _ e => bc e (fun hn e => bnd e fun p hp e => bnd e fun i hi e => mpd (P := fun d => At prog c A F g s (call (.builtin n) vs) (IsD c d) x) e fun j hj => ?_)
    fun _ e => bt e fun hn e => bnd e fun p hp e => mpd (P := fun d => At prog c A F g s (call (.builtin n) vs) (IsD c d) x) e fun y e1 => ?_
  · rw [of_decide_eq_true hn]
    obtain ⟨_, rfl, r1⟩ := cons1 r hp
    exact len_ok S r1 e
  · rw [of_decide_eq_true hn]
    obtain ⟨_, rfl, r1⟩ := cons1 r hp
    obtain ⟨t, rfl⟩ := int_of r1 hi
    exact .val S fun Q E K => call_abs_int fun u tk => K _ _ (.int _ _)
  · rw [of_decide_eq_true hn]
    obtain ⟨_, _, rfl, r1, r2⟩ := cons2 r hp
    obtain ⟨t, rfl⟩ := int_of r1 hi
    obtain ⟨u, rfl⟩ := int_of r2 hj
    intro Q E K
    refine max_two_ints R.hh fun h' tk hk => K _ F g _ (S.ext hk) ⟨.refl F, .refl g, rfl⟩ ?_
    show IsD c (.int (if i < j then j else i)) F g _
    by_cases z : i < j
    · rw [if_pos z, if_pos z]; exact .int _ _
    · rw [if_neg z, if_neg z]; exact .int _ _
  · rw [of_decide_eq_true hn]
    obtain ⟨_, _, rfl, r1, r2⟩ := cons2 r hp
    obtain ⟨t, rfl⟩ := int_of r1 hi
    obtain ⟨u, rfl⟩ := int_of r2 hj
    intro Q E K
    refine min_two_ints R.hh fun h' tk hk => K _ F g _ (S.ext hk) ⟨.refl F, .refl g, rfl⟩ ?_
    show IsD c (.int (if j < i then j else i)) F g _
    by_cases z : j < i
    · rw [if_pos z, if_pos z]; exact .int _ _
    · rw [if_neg z, if_neg z]; exact .int _ _
  · rw [of_decide_eq_true hn]
    obtain ⟨_, _, rfl, r1, r2⟩ := cons2 r hp
    exact isi_ok O S r1 r2 e1
theorem bltT_ok {n : String} (S : St c x F g s) (r : Reps c.DO F g vs ds) (e : bltT n ds = some d) : At prog c A F g s (call (.type n) vs) (IsD c d) x := by
  refine bc e (fun hn e => bnd e fun p hp e => ?_) fun _ e => bc e (fun hn e => ?_) fun _ e => bt e fun hn e => bnd e fun p hp e => bnd e fun i hi e => bt e fun hz e => ?_
  · rw [of_decide_eq_true hn]
    obtain ⟨_, rfl, r1⟩ := cons1 r hp
    cases p with
    | int i =>
      rw [← Option.some.inj e]
      obtain ⟨t, rfl⟩ := rep_int r1
      exact .val S fun Q E K => PySem.call_int_int (K _ _ (.int _ _))
    | bool b =>
      rw [← Option.some.inj e]
      cases rep_bool r1
      exact .val S fun Q E K => PySem.call_int_bool (K _ _ (.int _ _))
    | _ => exact nn e
  · rw [of_decide_eq_true hn]; exact rng_ok S r e
  · rw [of_decide_eq_true hn, ← Option.some.inj e]
    obtain ⟨_, rfl, r1⟩ := cons1 r hp
    obtain ⟨t, rfl⟩ := int_of r1 hi
    exact .val S fun Q E K => PySem.P.str_of_int (of_decide_eq_true hz) (K _ _ (.str _ _))
theorem blt_ok {f : Value} (O : FcOk prog c) (R : Room A k) (S : St c x F g s) (r : Reps c.DO F g vs ds) (e : bltD f ds = some d) : At prog c A F g s (call f vs) (IsD c d) x := by
  cases f with
  | builtin n => exact bltB_ok O R S r e
  | type n => exact bltT_ok S r e
  | _ => exact nn e
end
end Mine
end

section
open PySem PySem.W PyProof.Rows PySem.Calls PySem.Spec PySem.SeqAt
set_option Elab.async false
set_option backward.match.sparseCases false
set_option maxRecDepth 100000
namespace Mine

structure CfgX (prog : Program) (k : Nat) (c : FC) (cfg : Cfg) : Prop extends CfgOk prog k c cfg where
  fc : FcOk prog c
  call : ∀ fd ds G d G', cfg.H fd ds G = some (d, G') → ∀ c', Same c c' → ∀ A, Room A k → ∀ F g s σ v vs, St c' (σ, G) F g s → Rep c'.DO F g v fd → Reps c'.DO F g vs ds → At prog c' A F g s (PySem.call v vs) (IsD c' d) (σ, G')
  keeper : ∀ fd ds G r, cfg.H fd ds G = some r → ∀ c', Same c c' → ∀ x F g s v, St c' x F g s → Rep c'.DO F g v fd → ∃ kk, (kk = Keeper.frame ∨ kk = Keeper.machine ∨ kk = Keeper.boundFrame) ∧ Looks (model prog c'.w) s.heap (keeperOf v) kk
  atr : ∀ C n, cfg.atr C n = true → plainGet c.K C n = true ∧ hasDictIn c.K C = true ∧ ∃ attr, findIn c.K (.ref C) n = some attr ∧ noGet c.K attr = true
  mth : ∀ C n f, cfg.mth C n = some f → plainGet c.K C n = true ∧ findIn c.K (.ref C) n = some (some (.ref f)) ∧ isFn c.K (.ref f) = true
  sat : ∀ C n, cfg.sat C n = true → findIn c.K (.ref C) (S "__setattr__") = some (some (.builtin "object.__setattr__")) ∧ plainOver c.K C = true ∧ takerIn c.K C n = some .none ∧ hasDictIn c.K C = true
  nest : cfg.nest = true → c.e.code = .ref 1150 ∧ c.e.globals = mainGlobals ∧ c.e.qual ++ nestName = nestQual

structure RcOk (prog : Program) (k : Nat) (r : Rc) : Prop where
  ev : ∀ c A cfg x e d x', Room A k → CfgX prog k c cfg → r.ev cfg x e = some (d, x') → Ev prog c A x (eval e c.e) (IsD c d) x'
  tr : ∀ c A cfg x e b x', Room A k → CfgX prog k c cfg → r.tr cfg x e = some (b, x') → Ev prog c A x (isTrue e c.e (eval e c.e)) (fun _ _ v => v = b) x'
  ex : ∀ c A cfg x ss f x', c.pins = [] → Room A k → CfgX prog k c cfg → r.ex cfg x ss = some (f, x') → Ev prog c A x (execs ss c.e) (IsF c f) x'
  wh : ∀ c A cfg x t b f x', c.pins = [] → Room A k → CfgX prog k c cfg → r.wh cfg x t b = some (f, x') → ∀ F g s, St c x F g s → ∀ R : Result → Shared → Prop, (∀ v F' g' s', St c x' F' g' s' → To F g s F' g' s' → FlRep c F' g' v f → R (.ok v) s') → codeAny (model prog c.w) A (.whileLoop t b [] c.e) R s

section
variable {prog : Program} {c : FC} {A : Around} {cfg : Cfg} {r : Rc} {x x' x'' : X} {F F' : Part} {g g' : List Addr} {s s' : Shared} {k : Nat} {v w u : Value} {a b d : D} {vs : List Value} {ds : List D}

theorem flat_cons {e : Expr} {es : List Expr} (h : flatL (e :: es) = true) : noStar e = true ∧ flatL es = true := by
  unfold flatL at h ⊢
  simp only [List.all_cons, List.length_cons, Bool.and_eq_true, decide_eq_true_eq] at h ⊢
  exact ⟨h.1.1, h.1.2, by omega⟩
theorem star_cons {e : Expr} {es : List Expr} (h : noStar e = true) : starEach (e :: es) c.e = (false, eval e c.e) :: starEach es c.e := by
  cases e <;> first | rfl | cases h

theorem evs_ok (RO : RcOk prog k r) (R : Room A k) (O : CfgX prog k c cfg) {pos : Pos} : ∀ (es : List Expr) (x x' : X) (ds : List D), flatL es = true → evs (r.ev cfg) x es = some (ds, x') → Ev prog c A x (spliced (backTo pos (starEach es c.e))) (IsDs c ds) x'
  | [], x, x', ds, _, e => by
    cases e
    exact fun F g s S Q E K => spliced_none (K [] F g s S (.refl F g s) .nil)
  | e :: es, x, x', ds, hf, h => by
    obtain ⟨f1, f2⟩ := flat_cons hf
    refine bnd h fun p h1 h => mpx (P := fun ds x' => Ev prog c A x (spliced (backTo pos (starEach (e :: es) c.e))) (IsDs c ds) x') h fun q h2 => ?_
    intro F g s S Q E K
    refine spliced_more (RO.ev c A cfg x e p.1 p.2 R O h1 F g s S _ _ fun v F1 g1 s1 S1 T1 r1 => ?_) (star_cons f1)
    exact evs_ok RO R O es p.2 q.2 q.1 f2 h2 F1 g1 s1 S1 _ _ fun vs F2 g2 s2 S2 T2 r2 => K _ F2 g2 s2 S2 (T1.trans T2) (.cons (Rep.mono T2.le T2.pre r1) r2)

theorem evs_len {f : X → Expr → Option (D × X)} : ∀ (es : List Expr) (x x' : X) (ds : List D), evs f x es = some (ds, x') → ds.length = es.length
  | [], x, x', ds, e => by cases e; rfl
  | e :: es, x, x', ds, h => bnd h fun p h1 h => mpx (P := fun ds x' => ds.length = (e :: es).length) h fun q h2 => congrArg (· + 1) (evs_len es p.2 q.2 q.1 h2)

theorem KN.look : ∀ {es : List DictEntry} {l : List (Str × D)} {P : DOb}, KN es (l.map (·.1)) → Reps P F g (es.map (·.val)) (l.map (·.2)) → ∀ n, (match l.lookup n with | some d => ∃ v, getL n es = some (some v) ∧ Rep P F g v d | .none => getL n es = some .none) := by
  intro es l P h r n
  induction l generalizing es with
  | nil => cases h; rfl
  | cons p l ih =>
    obtain ⟨k2, d2⟩ := p
    cases h with
    | cons h =>
      rename_i hh t v es
      cases r with
      | cons r1 r =>
        rw [List.lookup_cons]
        by_cases z : n = k2
        · subst z
          have : (n == n) = true := by simp
          rw [this]
          refine ⟨v, ?_, r1⟩
          unfold getL
          rw [List.find?_cons]
          have : (Value.str n t).isStr n = true := by simp [Value.isStr]
          rw [this]
        · have zb : (n == k2) = false := by simpa using z
          rw [zb]
          have e : getL n (⟨hh, .str k2 t, v⟩ :: es) = getL n es := by
            unfold getL
            rw [List.find?_cons]
            have : (Value.str k2 t).isStr n = false := by simp [Value.isStr]; exact fun y => z y.symm
            rw [this, List.any_cons]
            have : (⟨hh, .str k2 t, v⟩ : DictEntry).refKey = false := rfl
            rw [this]
            rfl
          rw [e]
          exact ih h r

/-- the step of a subscript once its parts are had -/
theorem sub_step {value slice : Expr} {T id : String} {Q : Value → Shared → Prop} {E : Value → Shared → Prop} {i : Value} (hT : s.TypeIs v T) (hl : typeLookup (.type T) "__getitem__" = pure (some (.builtin id)))
    (h : wpAny (model prog c.w) A (getItem v i) Q E s) :
    wpAny (model prog c.w) A (getitemInPython v >>= fun p => subscripted slice p v i >>= fun r => letTemporaryGo value v r >>= fun _ => pure r) Q E s := by
  refine wpAny_bind ?_
  rw [getitemInPython_of_ne hT.not_modules]
  refine wpAny_bind (wpAny_specialOf hT hl ?_)
  refine wpAny_pure (wpAny_bind ?_)
  have fin : ∀ l, wpAny (model prog c.w) A (operate l (getItem v i)) (fun r s₃ => wpAny (model prog c.w) A (letTemporaryGo value v r >>= fun _ => pure r) Q E s₃) E s := fun l =>
    wpAny_operating (wpAny_mono h (fun r s₃ h₃ => wpAny_bind (wpAny_letTemporaryGo (wpAny_pure h₃))) fun _ _ x => x)
  have two : subscripted slice false v i = operate [i, v] (getItem v i) ∨ subscripted slice false v i = operate [v, i] (getItem v i) := by
    cases slice with
    | Slice _ _ c _ => cases c with
      | none => exact .inl rfl
      | some => exact .inr rfl
    | _ => exact .inr rfl
  rcases two with e | e <;> (rw [e]; exact fin _)

theorem sub_type (hD : DOk prog c) (S : St c x F g s) (ra : Rep c.DO F g v a) {i : D} (e : subD a i = some d) : ∃ T id, s.TypeIs v T ∧ typeLookup (.type T) "__getitem__" = pure (some (.builtin id)) := by
  cases a with
  | lst => cases ra with | lst h1 h2 => exact ⟨"list", _, ⟨_, S.sub _ _ h1, rfl⟩, list_getitem_lookup⟩
  | xls => cases ra with | xls h1 h2 h3 h4 => exact ⟨"list", _, ⟨_, S.sub _ _ h1, h2⟩, list_getitem_lookup⟩
  | tup => cases ra with | tup h1 h2 h3 h4 => exact ⟨"tuple", _, ⟨_, S.sub _ _ h1, h2⟩, PySem.F.slot_tuple_getitem.lookup⟩
  | str => obtain ⟨t, rfl⟩ := rep_str ra; exact ⟨"str", _, typeIs_str _ _ _, PySem.F.slot_str_getitem.lookup⟩
  | dic => cases ra with | dic h1 h2 h3 h4 h5 => exact ⟨"dict", _, (dict_at hD S h1 h2).typeIs, slot_dict_getitem.lookup⟩
  | _ => exact nn e

/-- the shared lists -/
theorem glob_at (S : St c x F g s) {ad : Addr} {j : Nat} {l : List D} (h : g[j]? = some ad) (e : x.2[j]? = some l) : ∃ vs, LsAt s.heap ad (List.toArray vs) ∧ Reps c.DO F g vs l := by
  obtain ⟨pv, m, R⟩ := S.rel
  obtain ⟨_, vs, ds, e1, e2, e3⟩ := R.gl j ad h
  rw [e] at e1
  cases e1
  exact ⟨vs, e2, e3⟩
end
end Mine
end

section
open PySem PySem.W PyProof.Rows PySem.Calls PySem.Spec PySem.SeqAt
set_option Elab.async false
set_option backward.match.sparseCases false
set_option maxRecDepth 100000
namespace Mine
section
variable {prog : Program} {c : FC} {A : Around} {cfg : Cfg} {r : Rc} {x x' x'' : X} {F F' : Part} {g g' : List Addr} {s s' : Shared} {k : Nat} {v w u : Value} {a b d : D} {vs : List Value} {ds : List D}

theorem const_ok {co : Const} {n : Nat} {pos : Pos} (e : constD co = some d) : Ev prog c A x (eval (.Constant co n pos) c.e) (IsD c d) x := by
  intro F g s S Q E K
  cases co with
  | none => cases Option.some.inj e; exact Constant_none (K _ F g s S (.refl F g s) .none)
  | bool => cases Option.some.inj e; exact Constant_bool (K _ F g s S (.refl F g s) (.bool _))
  | int => cases Option.some.inj e; exact wpAny_Constant_int (K _ F g _ (S.toks _) ⟨.refl F, .refl g, rfl⟩ (.int _ _))
  | str => cases Option.some.inj e; exact Calls.Constant_str (K _ F g _ (S.toks _) ⟨.refl F, .refl g, rfl⟩ (.str _ _))
  | _ => exact nn e

theorem and_ok {e1 e2 : Expr} {pos : Pos} (RO : RcOk prog k r) (R : Room A k) (O : CfgX prog k c cfg) (h : stepE r cfg x (.BoolOp .And [e1, e2] pos) = some (d, x')) : Ev prog c A x (eval (.BoolOp .And [e1, e2] pos) c.e) (IsD c d) x' := by
  refine bnd h fun p h1 h => bnd h fun t ht h => ?_
  intro F g s S Q E K
  refine BoolOp_and (RO.ev c A cfg x e1 p.1 p.2 R O h1 F g s S _ _ fun v F1 g1 s1 S1 T1 r1 => tru_ok S1 r1 ht _ _ fun t' F2 g2 s2 S2 T2 q => ?_)
  subst q
  cases t' with
  | true => exact BoolOp_one (RO.ev c A cfg p.2 e2 d x' R O h F2 g2 s2 S2 _ _ fun v F3 g3 s3 S3 T3 r3 => K v F3 g3 s3 S3 ((T1.trans T2).trans T3) r3)
  | false =>
    cases Option.some.inj h
    exact K v F2 g2 s2 S2 (T1.trans T2) (Rep.mono T2.le T2.pre r1)
theorem or_ok {e1 e2 : Expr} {pos : Pos} (RO : RcOk prog k r) (R : Room A k) (O : CfgX prog k c cfg) (h : stepE r cfg x (.BoolOp .Or [e1, e2] pos) = some (d, x')) : Ev prog c A x (eval (.BoolOp .Or [e1, e2] pos) c.e) (IsD c d) x' := by
  refine bnd h fun p h1 h => bnd h fun t ht h => ?_
  intro F g s S Q E K
  refine BoolOp_or (RO.ev c A cfg x e1 p.1 p.2 R O h1 F g s S _ _ fun v F1 g1 s1 S1 T1 r1 => tru_ok S1 r1 ht _ _ fun t' F2 g2 s2 S2 T2 q => ?_)
  subst q
  cases t' with
  | false => exact BoolOp_one (RO.ev c A cfg p.2 e2 d x' R O h F2 g2 s2 S2 _ _ fun v F3 g3 s3 S3 T3 r3 => K v F3 g3 s3 S3 ((T1.trans T2).trans T3) r3)
  | true =>
    cases Option.some.inj h
    exact K v F2 g2 s2 S2 (T1.trans T2) (Rep.mono T2.le T2.pre r1)

theorem binop_ok {l e : Expr} {op : Operator} {pos : Pos} (RO : RcOk prog k r) (R : Room A k) (O : CfgX prog k c cfg) (h : stepE r cfg x (.BinOp l op e pos) = some (d, x')) : Ev prog c A x (eval (.BinOp l op e pos) c.e) (IsD c d) x' := by
  refine bnd h fun p h1 h => bnd h fun q h2 h => mpx (P := fun d x' => Ev prog c A x _ (IsD c d) x') h fun d' e1 => ?_
  intro F g s S Q E K
  refine wpAny_BinOp (RO.ev c A cfg x l p.1 p.2 R O h1 F g s S _ _ fun v F1 g1 s1 S1 T1 r1 => ?_)
  refine RO.ev c A cfg p.2 e q.1 q.2 R O h2 F1 g1 s1 S1 _ _ fun w F2 g2 s2 S2 T2 r2 => ?_
  exact bin_ok S2 (Rep.mono T2.le T2.pre r1) r2 e1 _ _ fun v F3 g3 s3 S3 T3 r3 => K v F3 g3 s3 S3 ((T1.trans T2).trans T3) r3

theorem not_ok {e : Expr} {pos : Pos} (RO : RcOk prog k r) (R : Room A k) (O : CfgX prog k c cfg) (h : stepE r cfg x (.UnaryOp .Not e pos) = some (d, x')) : Ev prog c A x (eval (.UnaryOp .Not e pos) c.e) (IsD c d) x' := by
  refine bnd h fun p h1 h => mpx (P := fun d x' => Ev prog c A x _ (IsD c d) x') h fun t e1 => ?_
  intro F g s S Q E K
  refine UnaryOp_ (RO.ev c A cfg x e p.1 p.2 R O h1 F g s S _ _ fun v F1 g1 s1 S1 T1 r1 => not_of ?_)
  refine tru_ok S1 r1 e1 _ _ fun t F2 g2 s2 S2 T2 p => ?_
  subst p
  exact K _ F2 g2 s2 S2 (T1.trans T2) (.bool _)
theorem neg_ok {e : Expr} {pos : Pos} (RO : RcOk prog k r) (R : Room A k) (O : CfgX prog k c cfg) (h : stepE r cfg x (.UnaryOp .USub e pos) = some (d, x')) : Ev prog c A x (eval (.UnaryOp .USub e pos) c.e) (IsD c d) x' := by
  refine bnd h fun p h1 h => mpx (P := fun d x' => Ev prog c A x _ (IsD c d) x') h fun i hi => ?_
  intro F g s S Q E K
  refine UnaryOp_ (RO.ev c A cfg x e p.1 p.2 R O h1 F g s S _ _ fun v F1 g1 s1 S1 T1 r1 => ?_)
  rw [intD_ok hi] at r1
  obtain ⟨t, rfl⟩ := rep_int r1
  exact PyProof.Rows.neg_int (K _ F1 g1 _ (S1.toks _) ⟨T1.le, T1.pre, T1.os⟩ (.int _ _))

theorem ifexp_ok {t e1 e2 : Expr} {pos : Pos} (RO : RcOk prog k r) (R : Room A k) (O : CfgX prog k c cfg) (h : stepE r cfg x (.IfExp t e1 e2 pos) = some (d, x')) : Ev prog c A x (eval (.IfExp t e1 e2 pos) c.e) (IsD c d) x' := by
  refine bnd h fun p h1 h => ?_
  intro F g s S Q E K
  refine IfExp_ (RO.tr c A cfg x t p.1 p.2 R O h1 F g s S _ _ fun b F1 g1 s1 S1 T1 q => ?_)
  subst q
  cases hb : p.1 with
  | true =>
    rw [hb] at h
    exact RO.ev c A cfg p.2 e1 d x' R O h F1 g1 s1 S1 _ _ fun v F2 g2 s2 S2 T2 r2 => K v F2 g2 s2 S2 (T1.trans T2) r2
  | false =>
    rw [hb] at h
    exact RO.ev c A cfg p.2 e2 d x' R O h F1 g1 s1 S1 _ _ fun v F2 g2 s2 S2 T2 r2 => K v F2 g2 s2 S2 (T1.trans T2) r2

theorem flat_len {es : List Expr} (h : flatL es = true) : es.length ≤ 1000 := by
  unfold flatL at h
  exact of_decide_eq_true (Bool.and_eq_true_iff.mp h).2
theorem line_le {n : Nat} (h : n ≤ 1000) : n ≤ sizeLine := Nat.le_trans h (by decide +kernel)

theorem list_ok {es : List Expr} {pos : Pos} (RO : RcOk prog k r) (R : Room A k) (O : CfgX prog k c cfg) (h : stepE r cfg x (.List es pos) = some (d, x')) : Ev prog c A x (eval (.List es pos) c.e) (IsD c d) x' := by
  refine bt h fun hf h => mpx (P := fun d x' => Ev prog c A x _ (IsD c d) x') h fun p h1 => ?_
  intro F g s S Q E K
  refine PySem.wpAny_List (evs_ok RO R O es x p.2 p.1 hf h1 F g s S _ _ fun vs F1 g1 s1 S1 T1 r1 => ⟨?_, ?_⟩)
  · rw [r1.len, evs_len es _ _ _ h1]; exact line_le (flat_len hf)
  · exact K _ _ g1 _ (S1.push (tk := s1.toks) rfl) (T1.trans ⟨S1.le_push _, .refl g1, rfl⟩) (.lst (Part.set_self F1 _ _) (Reps.mono (S1.le_push _) (.refl g1) r1))
theorem tuple_ok {es : List Expr} {n : Nat} {pos : Pos} (RO : RcOk prog k r) (R : Room A k) (O : CfgX prog k c cfg) (h : stepE r cfg x (.Tuple es n pos) = some (d, x')) : Ev prog c A x (eval (.Tuple es n pos) c.e) (IsD c d) x' := by
  refine bt h fun hf h => mpx (P := fun d x' => Ev prog c A x _ (IsD c d) x') h fun p h1 => ?_
  intro F g s S Q E K
  refine PySem.wpAny_Tuple (evs_ok RO R O es x p.2 p.1 hf h1 F g s S _ _ fun vs F1 g1 s1 S1 T1 r1 => ⟨?_, ?_⟩)
  · rw [r1.len, evs_len es _ _ _ h1]; exact line_le (flat_len hf)
  · exact K _ _ g1 _ (S1.push (tk := s1.toks) rfl) (T1.trans ⟨S1.le_push _, .refl g1, rfl⟩) (.tup (Part.set_self F1 _ _) rfl rfl (Reps.mono (S1.le_push _) (.refl g1) r1))

/-- a shared list compared -/
theorem eqG_ok {l : List D} {j : Nat} {t : Bool} {Q : Value → Shared → Prop} {E : Value → Shared → Prop} (R : Room A k) (S : St c x F g s) (ra : Rep c.DO F g v (.mref j)) (rb : Rep c.DO F g w b) (hl : x.2[j]? = some l) (e : eqD (.lst l) b = some t)
    (K : Q (.bool t) s) : wpAny (model prog c.w) A (compareOp .Eq v w) Q E s := by
  cases ra with
  | mref hg =>
    obtain ⟨vs, ⟨n, ha⟩, hr⟩ := glob_at S hg hl
    refine orx e (fun e => nn e) fun e => orx e (fun e => nn e) fun e => bnd e fun y e1 e => ?_
    obtain ⟨z, e3, rfl⟩ := Option.map_eq_some_iff.mp e
    obtain ⟨p1, q1⟩ := pyD_spec e1
    obtain ⟨p2, q2⟩ := pyD_spec e3
    have le : Part.le F (fun a => s.heap.get? a) := fun a o e => S.sub a o e
    obtain ⟨as, r1⟩ := Rep.reads (P := c.DO) (F := fun a => s.heap.get? a) (g := g) (h := s.heap) (fun _ _ e => e) 64 (.lst ha (Reps.mono le (.refl g) hr)) p1
    obtain ⟨bs, r2⟩ := Rep.reads S.sub 64 rb p2
    exact eq_dataH r1 r2 q1 q2 R.un K

theorem cmpX_ok {l e : Expr} {op : CmpOp} (RO : RcOk prog k r) (R : Room A k) (O : CfgX prog k c cfg) (h : cmpX r cfg x l op e = some (d, x')) (S : St c x F g s) (Q : Value → Shared → Prop) (E : Value → Shared → Prop)
    (K : ∀ v F' g' s', St c x' F' g' s' → To F g s F' g' s' → IsD c d F' g' v → Q v s') :
    behindInMarks op e = false ∧ wpAny (model prog c.w) A (eval l c.e) (fun v s₁ => wpAny (model prog c.w) A (eval e c.e) (fun w s₂ => wpAny (model prog c.w) A (compareOp op v w) Q E s₂) E s₁) E s := by
  refine bc h (fun _ h => nn h) fun hm h => bnd h fun p h1 h => bnd h fun q h2 h => ⟨hm, ?_⟩
  refine RO.ev c A cfg x l p.1 p.2 R O h1 F g s S _ _ fun v F1 g1 s1 S1 T1 r1 => RO.ev c A cfg p.2 e q.1 q.2 R O h2 F1 g1 s1 S1 _ _ fun w F2 g2 s2 S2 T2 r2 => ?_
  have r1' := Rep.mono T2.le T2.pre r1
  have key : At prog c A F2 g2 s2 (compareOp op v w) (IsD c d) x' := by
    cases hd : mrefD p.1 with
    | some j =>
      rw [hd] at h
      refine bnd h fun ds hl h => bt h fun ho h => mpx (P := fun d x' => At prog c A F2 g2 s2 (compareOp op v w) (IsD c d) x') h fun t e1 => ?_
      cases of_decide_eq_true ho
      rw [mrefD_ok hd] at r1'
      exact fun Q E K => eqG_ok R S2 r1' r2 hl e1 (K _ F2 g2 s2 S2 (.refl F2 g2 s2) (.bool _))
    | none =>
      rw [hd] at h
      exact mpx (P := fun d x' => At prog c A F2 g2 s2 (compareOp op v w) (IsD c d) x') h fun d' e1 => cmp_ok O.fc.hD R S2 r1' r2 e1
  exact key _ _ fun v F3 g3 s3 S3 T3 r3 => K v F3 g3 s3 S3 ((T1.trans T2).trans T3) r3
theorem compare_ok {l e : Expr} {op : CmpOp} {pos : Pos} (RO : RcOk prog k r) (R : Room A k) (O : CfgX prog k c cfg) (h : stepE r cfg x (.Compare l [op] [e] pos) = some (d, x')) : Ev prog c A x (eval (.Compare l [op] [e] pos) c.e) (IsD c d) x' := by
  intro F g s S Q E K
  obtain ⟨hm, hw⟩ := cmpX_ok RO R O h S Q E K
  exact wpAny_Compare1 hw hm

/-- the arguments of a call -/
theorem args_ok {es : List Expr} {f : Value} {pos : Pos} {Q : Args → Shared → Prop} {E : Value → Shared → Prop} (hf : flatL es = true)
    (h : wpAny (model prog c.w) A (spliced (backTo pos (starEach es c.e))) (fun vs s' => Q ⟨vs, []⟩ s') E s) : wpAny (model prog c.w) A (evalArgs f true (backTo pos (starEach es c.e)) []) Q E s := by
  cases es with
  | nil =>
    unfold evalArgs
    refine wpAny_bind (wpAny_mono h (fun vs s' h' => ?_) fun _ _ z => z)
    refine wpAny_holding ?_
    exact wpAny_bind (wpAny_pure (wpAny_bind (wpAny_pure (wpAny_pure h'))))
  | cons e es =>
    rw [star_cons (flat_cons hf).1] at h ⊢
    exact Calls.evalArgs_plain h
theorem plain_args {es : List Expr} {pos : Pos} (hf : flatL es = true) : (backTo pos (starEach es c.e)).any (·.1) = false := by
  induction es with
  | nil => rfl
  | cons e es ih =>
    rw [star_cons (flat_cons hf).1]
    show (false || (backTo pos (starEach es c.e)).any (·.1)) = false
    rw [ih (flat_cons hf).2]; rfl
end
end Mine
end

section
open PySem PySem.W PyProof.Rows PySem.Calls PySem.Spec PySem.SeqAt
set_option Elab.async false
set_option backward.match.sparseCases false
set_option maxRecDepth 100000
namespace Mine
section
variable {prog : Program} {c : FC} {A : Around} {cfg : Cfg} {r : Rc} {x x' x'' : X} {F F' : Part} {g g' : List Addr} {s s' : Shared} {k : Nat} {v w u : Value} {a b d : D} {vs : List Value} {ds : List D}

theorem callX_ok {fd : D} {args : List Expr} {f : Value} {pos : Pos} (RO : RcOk prog k r) (R : Room A k) (O : CfgX prog k c cfg) (hf : flatL args = true) (S : St c x F g s) (rf : Rep c.DO F g f fd) (h : callX r cfg x fd args = some (d, x')) :
    At prog c A F g s (callWith pos f [] (backTo pos (starEach args c.e)) []) (IsD c d) x' := by
  refine bnd h fun p h1 h => ?_
  intro Q E K
  have go : ∀ fd' : D, Rep c.DO F g f fd' → goH cfg.H fd' p.1 p.2 = some (d, x') → wpAny (model prog c.w) A (callWith pos f [] (backTo pos (starEach args c.e)) []) Q E s := fun fd' rf h => by
    refine mpx (P := fun d x' => (∀ v F' g' s', St c x' F' g' s' → To F g s F' g' s' → IsD c d F' g' v → Q v s') → wpAny (model prog c.w) A (callWith pos f [] (backTo pos (starEach args c.e)) []) Q E s) h (fun q e1 K => ?_) K
    refine callWith_of (P := fun h => ∃ kk, (kk = Keeper.frame ∨ kk = Keeper.machine ∨ kk = Keeper.boundFrame) ∧ Looks (model prog c.w) h (keeperOf f) kk) (by rw [plain_args hf]; rfl) (fun h z => z) (args_ok hf (evs_ok RO R O args x p.2 p.1 hf h1 F g s S _ _ fun vs F1 g1 s1 S1 T1 r1 => ⟨?_, ?_⟩))
    · exact O.keeper _ _ _ _ e1 c (.refl c) p.2 F1 g1 s1 f S1 (Rep.mono T1.le T1.pre rf)
    · exact O.call _ _ _ _ _ e1 c (.refl c) A R F1 g1 s1 p.2.1 f vs S1 (Rep.mono T1.le T1.pre rf) r1 Q E fun v F3 g3 s3 S3 T3 r3 => K v F3 g3 s3 S3 (T1.trans T3) r3
  cases fd with
  | sta w =>
    refine bc h (fun _ h => go _ rf h) fun _ h => ?_
    refine mpx (P := fun d x' => (∀ v F' g' s', St c x' F' g' s' → To F g s F' g' s' → IsD c d F' g' v → Q v s') → wpAny (model prog c.w) A (callWith pos f [] (backTo pos (starEach args c.e)) []) Q E s) h (fun d' e1 K => ?_) K
    cases rf
    have fin : wpAny (model prog c.w) A (spliced (backTo pos (starEach args c.e))) (fun vs s' => wpAny (model prog c.w) A (call f vs) Q E s') E s := evs_ok RO R O args x p.2 p.1 hf h1 F g s S _ _ fun vs F1 g1 s1 S1 T1 r1 =>
      blt_ok O.fc R S1 r1 e1 _ _ fun v F3 g3 s3 S3 T3 r3 => K v F3 g3 s3 S3 (T1.trans T3) r3
    cases f with
    | builtin n => exact Calls.callWith_builtin (plain_args hf) (args_ok hf fin)
    | type n => exact PySem.callWith_type (plain_args hf) (args_ok hf fin)
    | _ => exact nn e1
  | fn => exact go _ rf h
  | _ => exact nn h

theorem call_ok {f : Str} {fp pos : Pos} {args : List Expr} (RO : RcOk prog k r) (R : Room A k) (O : CfgX prog k c cfg) (h : stepE r cfg x (.Call (.Name f fp) args [] pos) = some (d, x')) : Ev prog c A x (eval (.Call (.Name f fp) args [] pos) c.e) (IsD c d) x' := by
  refine bt h fun hf h => bnd h fun p h1 h => ?_
  intro F g s S Q E K
  refine wpAny_Call_NameR (name_ok O.toCfgOk h1 F g s S _ _ fun v F1 g1 s1 S1 T1 r1 => ?_)
  exact callX_ok RO R O hf S1 r1 h Q E fun v F3 g3 s3 S3 T3 r3 => K v F3 g3 s3 S3 (T1.trans T3) r3

theorem base_eq {o : Expr} {n : Str} {whole : Sem Value} (h : baseE o = true) : attributeBase o n c.e whole = whole := by
  cases o <;> first | rfl | cases h

theorem inst_at {C : Addr} {fs : List (Str × D)} (S : St c x F g s) (ra : Rep c.DO F g v (.obj C fs)) :
    ∃ ad dx es n, v = .ref ad ∧ InstAt s.heap ad (instObj C dx) C (some (dictOf es n)) ∧ KN es (fs.map (·.1)) ∧ Reps c.DO F g (es.map (·.val)) (fs.map (·.2)) := by
  cases ra with
  | obj h1 h2 h3 h4 => exact ⟨_, _, _, _, rfl, ⟨S.sub _ _ h1, rfl, rfl, S.sub _ _ h2⟩, h3, h4⟩

theorem notSta {P : DOb} (r : Rep P F g v d) (h : isSta d = false) : handedIn v = true := by
  cases r <;> first | rfl | exact Bool.noConfusion h
theorem attr_ok {o : Expr} {n : Str} {pos : Pos} (RO : RcOk prog k r) (R : Room A k) (O : CfgX prog k c cfg) (h : stepE r cfg x (.Attribute o n pos) = some (d, x')) : Ev prog c A x (eval (.Attribute o n pos) c.e) (IsD c d) x' := by
  refine bt h fun hb h => bnd h fun p h1 h => mpx (P := fun d x' => Ev prog c A x _ (IsD c d) x') h fun d' h => bnd h fun q hq h => bt h fun ha h => bnd h fun d'' hl h => bc h (fun _ h => nn h) fun hn h => ?_
  cases h
  intro F g s S Q E K
  rw [arm_eval_Attribute, base_eq hb]
  refine wpAny_bind (RO.ev c A cfg x o p.1 p.2 R O h1 F g s S _ _ fun v F1 g1 s1 S1 T1 r1 => wpAny_bind (wpAny_standAt (wpAny_bind (wpAny_holding ?_))))
  rw [objD_ok hq] at r1
  obtain ⟨ad, dx, es, m, rfl, I, kn, rs⟩ := inst_at S1 r1
  obtain ⟨p1, p2, attr, p3, p4⟩ := O.atr q.1 n ha
  have lk := kn.look rs n
  rw [hl] at lk
  obtain ⟨z, hz, rz⟩ := lk
  exact get_value (S1.inK O.fc) I (plainGet_of p1).1 (findObj_own p2 p3 p4 hz) (notSta rz hn) (wpAny_bind (wpAny_letTemporaryGo (wpAny_pure (K z F1 g1 _ (S1.toks _) ⟨T1.le, T1.pre, T1.os⟩ rz))))

theorem part_ok {e : Option Expr} {o : Option Int} (RO : RcOk prog k r) (R : Room A k) (O : CfgX prog k c cfg) (h : evPart (r.ev cfg) x e = some (o, x')) : Ev prog c A x (evalPart e c.e) (fun _ _ v => PartIs v o) x' := by
  cases e with
  | none =>
    refine smx (P := fun o x' => Ev prog c A x (evalPart .none c.e) (fun _ _ v => PartIs v o) x') h fun F g s S Q E K => ?_
    rw [evalPart_none]
    exact wpAny_pure (K _ F g s S (.refl F g s) .none)
  | some e =>
    refine bnd h fun p h1 h => bnd h fun i hi h => bt h fun _ h => smx (P := fun o x' => Ev prog c A x (evalPart (some e) c.e) (fun _ _ v => PartIs v o) x') h fun F g s S Q E K => ?_
    rw [evalPart_some]
    refine RO.ev c A cfg x e p.1 p.2 R O h1 F g s S _ _ fun v F1 g1 s1 S1 T1 r1 => K v F1 g1 s1 S1 T1 ?_
    rw [intD_ok hi] at r1
    obtain ⟨t, rfl⟩ := rep_int r1
    exact .int _ _

theorem slice_ok {o : Expr} {lo hi : Option Expr} {p pos : Pos} {od : D} {x1 : X} {a b : Option Int × X} (RO : RcOk prog k r) (R : Room A k) (O : CfgX prog k c cfg) (h1 : r.ev cfg x o = some (od, x1)) (h2 : evPart (r.ev cfg) x1 lo = some a) (h3 : evPart (r.ev cfg) a.2 hi = some b) (e1 : cutD od a.1 b.1 = some d) :
    Ev prog c A x (eval (.Subscript o (.Slice lo hi .none p) pos) c.e) (IsD c d) b.2 := by
  intro F g s S Q E K
  rw [eval_Subscript]
  refine wpAny_bind (RO.ev c A cfg x o od x1 R O h1 F g s S _ _ fun v F1 g1 s1 S1 T1 r1 => wpAny_bind (wpAny_holding ?_))
  refine wpAny_Slice (part_ok RO R O h2 F1 g1 s1 S1 _ _ fun vl F2 g2 s2 S2 T2 pl => part_ok RO R O h3 F2 g2 s2 S2 _ _ fun vu F3 g3 s3 S3 T3 pu => ?_)
  rw [evalPart_none]
  refine wpAny_pure (wpAny_bind (wpAny_standAt ?_))
  let ob : Obj := { cls := .type "slice", data := .fields #[vl, vu, .none] }
  have S4 : St c b.2 (F3.set s3.heap.objs.size ob) g3 { s3 with heap := s3.heap.push ob } := S3.push (o := ob) (tk := s3.toks) rfl
  have T4 : To F g s (F3.set s3.heap.objs.size ob) g3 { s3 with heap := s3.heap.push ob } := ((T1.trans T2).trans T3).trans ⟨S3.le_push ob, .refl g3, rfl⟩
  have r4 := Rep.mono (((T2.trans T3).le).trans (S3.le_push ob)) (T2.trans T3).pre r1
  obtain ⟨T, id, hl, hT, hc⟩ := cut_ok (prog := prog) (A := A) S4 r4 (S4.sub _ _ (Part.set_self F3 _ _)) pl pu e1
  exact sub_step hT hl (hc _ _ fun v F5 g5 s5 S5 T5 r5 => K v F5 g5 s5 S5 (T4.trans T5) r5)

theorem subL_ok {l : List D} {i d : D} (h : subD (.lst l) i = some d) : ∃ k j, i = .int k ∧ idxD k l.length = some j ∧ l[j]? = some d :=
  atL_inv h fun n j h1 h2 h3 => ⟨n, j, h1, h2, h3⟩
theorem subscript_ok {o i : Expr} {pos : Pos} {od : D} {x1 : X} (RO : RcOk prog k r) (R : Room A k) (O : CfgX prog k c cfg) (h1 : r.ev cfg x o = some (od, x1)) (h : subE r cfg x1 od i = some (d, x')) : Ev prog c A x (eval (.Subscript o i pos) c.e) (IsD c d) x' := by
  unfold subE at h
  cases hs : sliceP i with
  | some q =>
    rw [hs] at h
    refine bnd h fun a h2 h => bnd h fun b h3 h => mpx (P := fun d x' => Ev prog c A x _ (IsD c d) x') h fun d' e1 => ?_
    obtain ⟨p, rfl⟩ := sliceP_ok hs
    exact slice_ok RO R O h1 h2 h3 e1
  | none =>
    rw [hs] at h
    refine bt h fun _ h => bnd h fun q h2 h => ?_
    intro F g s S Q E K
    rw [eval_Subscript]
    refine wpAny_bind (RO.ev c A cfg x o od x1 R O h1 F g s S _ _ fun v F1 g1 s1 S1 T1 r1 => wpAny_bind (wpAny_holding ?_))
    refine RO.ev c A cfg x1 i q.1 q.2 R O h2 F1 g1 s1 S1 _ _ fun w F2 g2 s2 S2 T2 r2 => wpAny_bind (wpAny_standAt ?_)
    have r1' := Rep.mono T2.le T2.pre r1
    have key : ∃ T id, s2.TypeIs v T ∧ typeLookup (.type T) "__getitem__" = pure (some (.builtin id)) ∧ At prog c A F2 g2 s2 (getItem v w) (IsD c d) x' := by
      cases hd : mrefD od with
      | some j =>
        rw [hd] at h
        refine bnd h fun l hl h => mpx (P := fun d x' => ∃ T id, s2.TypeIs v T ∧ typeLookup (.type T) "__getitem__" = pure (some (.builtin id)) ∧ At prog c A F2 g2 s2 (getItem v w) (IsD c d) x') h fun d' e1 => ?_
        rw [mrefD_ok hd] at r1'
        cases r1' with
        | mref hg =>
          obtain ⟨vs, ⟨n, ha⟩, hr⟩ := glob_at S2 hg hl
          have il : s2.heap.IsList _ (List.toArray vs) := ⟨_, ha, rfl, n, rfl⟩
          obtain ⟨i', j', e0, e3, e4⟩ := subL_ok e1
          rw [e0] at r2
          obtain ⟨t, rfl⟩ := rep_int r2
          obtain ⟨z, hz, rz⟩ := hr.get e4
          exact ⟨_, _, il.typeIs, list_getitem_lookup, fun Q E K => list_item il (by rw [hr.len]; exact e3) hz (K z F2 g2 s2 S2 (.refl F2 g2 s2) rz)⟩
      | none =>
        rw [hd] at h
        refine mpx (P := fun d x' => ∃ T id, s2.TypeIs v T ∧ typeLookup (.type T) "__getitem__" = pure (some (.builtin id)) ∧ At prog c A F2 g2 s2 (getItem v w) (IsD c d) x') h fun d' e1 => ?_
        obtain ⟨T, idd, hT, hl⟩ := sub_type O.fc.hD S2 r1' e1
        exact ⟨T, idd, hT, hl, sub_ok O.fc.hD S2 r1' r2 e1⟩
    obtain ⟨T, idd, hT, hl, hat⟩ := key
    exact sub_step hT hl (hat _ _ fun v F3 g3 s3 S3 T3 r3 => K v F3 g3 s3 S3 ((T1.trans T2).trans T3) r3)
end
end Mine
end

section
open PySem PySem.W PyProof.Rows PySem.Calls PySem.Spec PySem.SeqAt
set_option Elab.async false
set_option backward.match.sparseCases false
set_option maxRecDepth 100000
namespace Mine
section
variable {prog : Program} {c : FC} {A : Around} {cfg : Cfg} {r : Rc} {x x' x'' : X} {F F' : Part} {g g' : List Addr} {s s' : Shared} {k : Nat} {v w u : Value} {a b d : D} {vs : List Value} {ds : List D}

theorem few_ok {args : List Expr} {pos : Pos} (hf : flatL args = true) (hn : args.length < 20) :
    ((backTo pos (starEach args c.e)).all (fun x => !x.1) && (backToKw pos (keywordEach [] c.e)).all (fun x => x.1.isSome) && decide (args.length + ([] : List Keyword).length + (if ([] : List Keyword).isEmpty then 0 else 1) < 30)) = true := by
  have h1 : (backTo pos (starEach args c.e)).all (fun x => !x.1) = true := by
    have := plain_args (c := c) (pos := pos) hf
    rw [List.all_eq_true]
    intro y hy
    rw [List.any_eq_false] at this
    simpa using this y hy
  rw [h1]
  have : args.length + 0 + 0 < 30 := by omega
  exact decide_eq_true (Nat.lt_of_lt_of_le hn (by decide))

theorem star_one {e : Expr} (h : noStar e = true) : starEach [e] c.e = [(false, eval e c.e)] := star_cons h

theorem obj_call {o : Expr} {m : Str} {ap pos : Pos} {args : List Expr} {Q : Value → Shared → Prop} {E : Value → Shared → Prop} {f : Addr} {C : Addr} (hb : baseE o = true) (hf : flatL args = true) (hn : args.length < 20) (hl : (ap.endLine == pos.line) = true)
    (h : wpAny (model prog c.w) A (eval o c.e) (fun ov s₁ => ∃ ad ox od, ov = .ref ad ∧ c.K.In s₁.heap ∧ InstAt s₁.heap ad ox C (some od) ∧ plainGet c.K C m = true ∧ findIn c.K (.ref C) m = some (some (.ref f)) ∧ isFn c.K (.ref f) = true ∧ lookIn m od = some .none ∧
      wpAny (model prog c.w) A (callWith pos (.ref f) [ov] (backTo pos (starEach args c.e)) []) Q E s₁) E s) :
    wpAny (model prog c.w) A (eval (.Call (.Attribute o m ap) args [] pos) c.e) Q E s := by
  rw [arm_eval_Call, base_eq hb]
  refine wpAny_bind (wpAny_mono h (fun ov s₁ h₁ => ?_) fun _ _ e => e)
  obtain ⟨ad, ox, od, rfl, X, I, p1, p2, p3, p4, hc⟩ := h₁
  refine wpAny_bind (wpAny_standAt ?_)
  have hform : methodCallForm (args.length + ([] : List Keyword).length) (backTo pos (starEach args c.e)) (backToKw pos (keywordEach [] c.e)) = true := few_ok hf hn
  have hpos : methodCallPos true o c.e ap pos = pure pos := by unfold methodCallPos; simp [hl]
  unfold methodCall
  rw [hform]
  refine wpAny_bind (wpAny_holding (method_fn X I (plainGet_of p1).1 (plainGet_of p1).2 p2 (beq_iff_eq.mp p3) (by show (lookIn m od).map _ = _; rw [p4]; rfl) ?_))
  exact wpAny_bind (wpAny_of_eq hpos hc)

theorem mthD_ok {o : D} {m : Str} {ds : List D} (h : mthD o m ds = some d) : (∃ y, o = .str y ∧ ds = [] ∧ ((m = Mine.S "lower" ∧ y.length ≤ 5592405 ∧ d = .str (Txt.lower y)) ∨ (m = Mine.S "islower" ∧ d = .bool (Txt.islower y)))) ∨
    ∃ y z, o = .str y ∧ ds = [.str z] ∧ m = Mine.S "index" ∧ (0 ≤ Txt.find y z ∧ (Builtin.Str.occurrences y z 0 y.length 1).isEmpty = false) ∧ d = .int (Txt.find y z) := by
  cases o with
  | str y =>
    match ds, h with
    | [], h =>
      refine .inl ⟨y, rfl, rfl, bc h (fun hm h => bt h fun hz h => .inl ⟨eq_of_beq hm, of_decide_eq_true hz, (Option.some.inj h).symm⟩) fun _ h => bt h fun hm h => .inr ⟨eq_of_beq hm, (Option.some.inj h).symm⟩⟩
    | [w], h =>
      refine bnd h fun z hz h => bt h fun hc h => and_t hc fun hc h3 => and_t hc fun h1 h2 => .inr ⟨y, z, rfl, ?_, eq_of_beq h1, ⟨of_decide_eq_true h2, Bool.not_eq_true' _ |>.mp h3⟩, (Option.some.inj h).symm⟩
      rw [strD_ok hz]
    | _ :: _ :: _, h => exact nn h
  | _ => exact nn h
theorem method_ok {o : Expr} {m : Str} {ap pos : Pos} {args : List Expr} (RO : RcOk prog k r) (R : Room A k) (O : CfgX prog k c cfg) (h : stepE r cfg x (.Call (.Attribute o m ap) args [] pos) = some (d, x')) : Ev prog c A x (eval (.Call (.Attribute o m ap) args [] pos) c.e) (IsD c d) x' := by
  refine bt h fun hf h => bt h fun hc h => bnd h fun p h1 h => bnd h fun q h2 h => ?_
  refine and_t hc fun hc hn => and_t hc fun hb hl => ?_
  have hn := of_decide_eq_true hn
  unfold methX at h
  cases ho : objD p.1 with
  | some w =>
    rw [ho] at h
    refine bnd h fun fa hm h => bt h fun hno h => mpx (P := fun d x' => Ev prog c A x _ (IsD c d) x') h fun u e1 => ?_
    intro F g s S Q E K
    refine obj_call (C := w.1) (f := fa) hb hf hn hl (RO.ev c A cfg x o p.1 p.2 R O h1 F g s S _ _ fun v F1 g1 s1 S1 T1 r1 => ?_)
    have r1' := r1
    rw [objD_ok ho] at r1'
    obtain ⟨ad, dx, es, z, rfl, I, kn, rs⟩ := inst_at S1 r1'
    obtain ⟨m1, m2, m3⟩ := O.mth w.1 m fa hm
    refine ⟨ad, _, _, rfl, S1.inK O.fc, I, m1, m2, m3, ?_, ?_⟩
    · have := kn.look rs m
      rw [Option.isNone_iff_eq_none.mp hno] at this
      exact this
    · refine callWith_of (P := fun h => ∃ kk, (kk = Keeper.frame ∨ kk = Keeper.machine ∨ kk = Keeper.boundFrame) ∧ Looks (model prog c.w) h (keeperOf (.ref fa)) kk) (by rw [plain_args hf]; rfl) (fun h z => z) (args_ok hf (evs_ok RO R O args p.2 q.2 q.1 hf h2 F1 g1 s1 S1 _ _ fun vs F2 g2 s2 S2 T2 r2 => ⟨?_, ?_⟩))
      · exact O.keeper _ _ _ _ e1 c (.refl c) q.2 F2 g2 s2 (.ref fa) S2 (.sta _)
      · exact O.call _ _ _ _ _ e1 c (.refl c) A R F2 g2 s2 q.2.1 (.ref fa) _ S2 (.sta _) (.cons (Rep.mono T2.le T2.pre r1) r2) Q E fun v F3 g3 s3 S3 T3 r3 => K v F3 g3 s3 S3 ((T1.trans T2).trans T3) r3
  | none =>
    rw [ho] at h
    have hlen := evs_len args _ _ _ h2
    refine mpx (P := fun d x' => Ev prog c A x _ (IsD c d) x') h fun d' e1 => ?_
    rcases mthD_ok e1 with ⟨y, e2, e3, e4⟩ | ⟨y, z, e2, e3, rfl, hz, rfl⟩
    · rw [e3] at hlen
      cases args with
      | cons e es => exact nomatch hlen
      | nil =>
        cases h2
        rcases e4 with ⟨rfl, hz, rfl⟩ | ⟨rfl, rfl⟩
        · intro F g s S Q E K
          refine Call_method0 (base_eq hb) hl (RO.ev c A cfg x o p.1 p.2 R O h1 F g s S _ _ fun v F1 g1 s1 S1 T1 r1 => ?_)
          rw [e2] at r1
          obtain ⟨t, rfl⟩ := rep_str r1
          exact PyProof.Rows.SBL.lower hz fun _ => K _ F1 g1 _ (S1.toks _) ⟨T1.le, T1.pre, T1.os⟩ (.str _ _)
        · intro F g s S Q E K
          refine Call_method0 (base_eq hb) hl (RO.ev c A cfg x o p.1 p.2 R O h1 F g s S _ _ fun v F1 g1 s1 S1 T1 r1 => ?_)
          rw [e2] at r1
          obtain ⟨t, rfl⟩ := rep_str r1
          exact PySem.SB.islower (K _ F1 g1 _ S1 T1 (.bool _))
    · rw [e3] at hlen
      match args, hlen with
      | [e], _ =>
        have hs := (flat_cons hf).1
        have h3 : r.ev cfg p.2 e = some (.str z, q.2) := bnd h2 fun w h3 h => by
          have h4 : ([w.1], w.2) = q := Option.some.inj h
          rw [← h4] at e3 ⊢
          have h5 : w.1 = .str z := by injection e3
          rw [h3, ← h5]
        intro F g s S Q E K
        refine Call_method1 (base_eq hb) (star_one hs) hl (RO.ev c A cfg x o p.1 p.2 R O h1 F g s S _ _ fun v F1 g1 s1 S1 T1 r1 => ?_)
        rw [e2] at r1
        obtain ⟨t, rfl⟩ := rep_str r1
        refine PySem.SB.index (RO.ev c A cfg p.2 e _ _ R O h3 F1 g1 s1 S1 _ _ fun w F2 g2 s2 S2 T2 r2 => ?_)
        obtain ⟨u, rfl⟩ := rep_str r2
        refine ⟨z, u, rfl, ?_⟩
        cases ho : Builtin.Str.occurrences y z 0 y.length 1 with
        | nil => rw [ho] at hz; exact absurd hz.2 (by decide)
        | cons i rest =>
          refine ⟨i, rest, rfl, ?_⟩
          have e : Txt.find y z = (i : Int) := by unfold Txt.find; rw [ho]
          rw [e] at K
          exact K _ F2 g2 _ (S2.toks _) ⟨(T1.trans T2).le, (T1.trans T2).pre, (T1.trans T2).os⟩ (.int _ _)

/-- a truth asked for -/
theorem evT_ok {e : Expr} {t : Bool} (RO : RcOk prog k r) (R : Room A k) (O : CfgX prog k c cfg) (he : isTrue e c.e (eval e c.e) = (do let v ← eval e c.e; standAt e.pos; holding [v] (truthy v))) (h : evT r cfg x e = some (t, x')) : Ev prog c A x (isTrue e c.e (eval e c.e)) (fun _ _ v => v = t) x' := by
  refine bnd h fun p h1 h => mpx (P := fun t x' => Ev prog c A x _ (fun _ _ v => v = t) x') h fun b e1 => ?_
  intro F g s S Q E K
  refine isTrue_plain (RO.ev c A cfg x e p.1 p.2 R O h1 F g s S _ _ fun v F1 g1 s1 S1 T1 r1 => ?_) he
  exact tru_ok S1 r1 e1 _ _ fun t F2 g2 s2 S2 T2 p => K t F2 g2 s2 S2 (T1.trans T2) p
theorem tr_ok {e : Expr} {t : Bool} (RO : RcOk prog k r) (R : Room A k) (O : CfgX prog k c cfg) (h : stepT r cfg x e = some (t, x')) : Ev prog c A x (isTrue e c.e (eval e c.e)) (fun _ _ v => v = t) x' := by
  cases e with
  | UnaryOp op e p =>
    refine bnd h fun q h1 h => ?_
    cases op <;> first | exact nn h | skip
    refine smx (P := fun t x' => Ev prog c A x _ (fun _ _ v => v = t) x') h ?_
    intro F g s S Q E K
    exact isTrue_not (RO.tr c A cfg x _ _ _ R O h1 F g s S _ _ fun b F1 g1 s1 S1 T1 p => by subst p; exact K _ F1 g1 s1 S1 T1 rfl)
  | BoolOp op es p =>
    refine bnd h fun w hw h => bnd h fun q h1 h => ?_
    rw [two_ok hw]
    intro F g s S Q E K
    have ev1 := RO.tr c A cfg x _ _ _ R O h1 F g s S
    obtain ⟨b, x1⟩ := q
    cases op with
    | And =>
      refine isTrue_and (ev1 _ _ fun b' F1 g1 s1 S1 T1 p => ?_)
      subst p
      cases b' with
      | true =>
        refine isTrue_and (RO.tr c A cfg x1 _ _ _ R O h F1 g1 s1 S1 _ _ fun b F2 g2 s2 S2 T2 p => ?_)
        subst p
        cases b with
        | true => exact isTrue_and_nil (K _ F2 g2 s2 S2 (T1.trans T2) rfl)
        | false => exact K _ F2 g2 s2 S2 (T1.trans T2) rfl
      | false =>
        cases h
        exact K _ F1 g1 s1 S1 T1 rfl
    | Or =>
      refine isTrue_or (ev1 _ _ fun b' F1 g1 s1 S1 T1 p => ?_)
      subst p
      cases b' with
      | false =>
        refine isTrue_or (RO.tr c A cfg x1 _ _ _ R O h F1 g1 s1 S1 _ _ fun b F2 g2 s2 S2 T2 p => ?_)
        subst p
        cases b with
        | false => exact isTrue_or_nil (K _ F2 g2 s2 S2 (T1.trans T2) rfl)
        | true => exact K _ F2 g2 s2 S2 (T1.trans T2) rfl
      | true =>
        cases h
        exact K _ F1 g1 s1 S1 T1 rfl
  | IfExp a b d p =>
    refine bnd h fun q h1 h => ?_
    intro F g s S Q E K
    obtain ⟨b, x1⟩ := q
    refine isTrue_IfExp (RO.tr c A cfg x _ _ _ R O h1 F g s S _ _ fun b' F1 g1 s1 S1 T1 p => ?_)
    subst p
    cases b' with
    | true => exact RO.tr c A cfg x1 _ _ _ R O h F1 g1 s1 S1 _ _ fun b F2 g2 s2 S2 T2 p => K _ F2 g2 s2 S2 (T1.trans T2) p
    | false => exact RO.tr c A cfg x1 _ _ _ R O h F1 g1 s1 S1 _ _ fun b F2 g2 s2 S2 T2 p => K _ F2 g2 s2 S2 (T1.trans T2) p
  | Compare l ops es p =>
    refine bnd h fun op ho h => bnd h fun e he h => bnd h fun q h1 h => mpx (P := fun t x' => Ev prog c A x _ (fun _ _ v => v = t) x') h fun b e1 => ?_
    rw [one_ok ho, one_ok he]
    intro F g s S Q E K
    obtain ⟨hm, hw⟩ := cmpX_ok RO R O h1 S (fun c' s₃ => wpAny (model prog c.w) A (truthy c') Q E s₃) E fun v F1 g1 s1 S1 T1 r1 => tru_ok S1 r1 e1 _ _ fun t F2 g2 s2 S2 T2 p => K t F2 g2 s2 S2 (T1.trans T2) p
    exact wpAny_isTrue_Compare1 hw hm
  | Name => exact evT_ok RO R O rfl h
  | Call => exact evT_ok RO R O rfl h
  | Subscript => exact evT_ok RO R O rfl h
  | Attribute => exact evT_ok RO R O rfl h
  | _ => exact nn h
end
end Mine
end

section
open PySem PySem.W PyProof.Rows PySem.Calls PySem.Spec PySem.SeqAt
set_option Elab.async false
set_option backward.match.sparseCases false
set_option maxRecDepth 100000
namespace Mine
noncomputable abbrev Nowt {α : Type} : Part → List Addr → α → Prop := fun _ _ _ => True

theorem storesX_cons {cfg : Cfg} {x x' : X} {t : Expr} {ts : List Expr} {ds : List D} {P : Prop} (h : storesX cfg x (t :: ts) ds = some x')
    (k : ∀ n p d ds' x1, t = .Name n p → ds = d :: ds' → storeX cfg x n d = some x1 → storesX cfg x1 ts ds' = some x' → P) : P := by
  cases ds with
  | nil => exact nn h
  | cons d ds => exact bnd h fun n hn h => bnd h fun x1 h1 h2 => let ⟨p, e⟩ := nameOf_ok hn; k n p d ds x1 e rfl h1 h2
theorem storesX_nil {cfg : Cfg} {x x' : X} {ds : List D} (h : storesX cfg x [] ds = some x') : ds = [] ∧ x = x' :=
  bt h fun h1 h2 => ⟨List.isEmpty_iff.mp h1, Option.some.inj h2⟩

section
variable {prog : Program} {c : FC} {A : Around} {cfg : Cfg} {r : Rc} {x x' x'' : X} {F F' : Part} {g g' : List Addr} {s s' : Shared} {k : Nat} {v w u : Value} {a b d : D} {vs : List Value} {ds : List D}

theorem stores_each {e : Env} : ∀ (ts : List Expr) (ds : List D) (x x' : X), storesX cfg x ts ds = some x' → (assignEach ts e).length = ts.length ∧ (assignEach ts e).findIdx? (·.1) = .none ∧ ts.length = ds.length := by
  intro ts
  induction ts with
  | nil => exact fun ds x x' h => (storesX_nil h).1 ▸ ⟨rfl, rfl, rfl⟩
  | cons t ts ih =>
    refine fun ds x x' h => storesX_cons h fun n p d ds' x1 e1 e2 _ h2 => ?_
    subst e1 e2
    obtain ⟨i1, i2, i3⟩ := ih ds' x1 x' h2
    refine ⟨congrArg (· + 1) i1, ?_, congrArg (· + 1) i3⟩
    show ((false, _) :: assignEach ts e).findIdx? (·.1) = .none
    rw [List.findIdx?_cons, i2]; rfl

theorem stores_ok (hpin : c.pins = []) (O : CfgOk prog k c cfg) : ∀ (ts : List Expr) (vs : List Value) (ds : List D) (x x' : X) (F : Part) (g : List Addr) (s : Shared), storesX cfg x ts ds = some x' → St c x F g s → Reps c.DO F g vs ds →
    At prog c A F g s (assignInOrder ((assignEach ts c.e).map (·.2)) vs) Nowt x' := by
  intro ts
  induction ts with
  | nil =>
    intro vs ds x x' F g s e S r
    obtain ⟨rfl, rfl⟩ := storesX_nil e
    cases r
    exact fun Q E K => assignInOrder_nil (K () F g s S (.refl F g s) trivial)
  | cons t ts ih =>
    intro vs ds x x' F g s e S r
    refine storesX_cons e fun n p d ds' x1 e1 e2 h1 h2 => ?_
    subst e1 e2
    cases r with
    | cons r1 r2 =>
      intro Q E K
      refine assignInOrder_cons ?_
      refine PyProof.Rows.assign_Name (store_ok (A := A) hpin O h1 S r1 _ _ fun _ F1 g1 s1 S1 T1 _ => ?_)
      exact ih _ ds' x1 x' F1 g1 s1 h2 S1 (Reps.mono T1.le T1.pre r2) Q E fun _ F2 g2 s2 S2 T2 _ => K () F2 g2 s2 S2 (T1.trans T2) trivial

theorem targ_ok {t : Expr} (hpin : c.pins = []) (R : Room A k) (O : CfgOk prog k c cfg) (h : targX cfg x t d = some x') (S : St c x F g s) (rd : Rep c.DO F g v d) : At prog c A F g s (assign t c.e v) Nowt x' := by
  intro Q E K
  cases t with
  | Name => exact PyProof.Rows.assign_Name (store_ok (A := A) hpin O h S rd _ _ K)
  | Tuple ts _ _ =>
    refine bnd h fun ds hd h => bt h fun hl h => ?_
    rw [tupD_ok hd] at rd
    obtain ⟨h1, h2, h3⟩ := stores_each (e := c.e) ts ds x x' h
    cases rd with
    | tup ha hb hc hd =>
      refine assign_Tuple_tuple R.hh ⟨_, S.sub _ _ ha, hb, _, hc⟩ (by rw [h1, h3, ← hd.len, List.size_toArray]) h2 fun h' he => ?_
      have S1 : St c x F g { s with heap := h' } := S.ext (tk := s.toks) fun b o e => he b o (Nat.ne_of_lt (Heap.lt_size e)) e
      exact stores_ok hpin O ts _ ds x x' F g _ h S1 hd Q E fun _ F2 g2 s2 S2 T2 _ => K () F2 g2 s2 S2 ⟨T2.le, T2.pre, T2.os⟩ trivial
  | _ => exact nn h

/-- what draws the things of a value one by one -/
noncomputable def itNames : List String := ["list_iterator", "str_ascii_iterator", "str_iterator", "range_iterator"]
structure Drawn (prog : Program) (c : FC) (A : Around) (F : Part) (g : List Addr) (I : Addr) (ds : List D) (fp : List Addr) (P : Nat → Value → Prop) (W : Nat → Heap → Prop) : Prop where
  walks : Walks prog c.w A I fp [I] ds.length P W
  live : ∀ i h, W i h → ∃ o T, h.get? I = some o ∧ o.cls = .type T ∧ T ∈ itNames
  fps : ∀ b ∈ fp, b = I ∨ ∃ o, F b = some o
  rep : ∀ i v, P i v → ∃ d, ds[i]? = some d ∧ Rep c.DO F g v d

theorem rngD_get (a st : Int) : ∀ (n i : Nat), i < n → (rngD a st n)[i]? = some (.int (a + i * st))
  | 0, i, h => by omega
  | n + 1, 0, _ => by simp [rngD]
  | n + 1, i + 1, h => by
    have := rngD_get (a + st) st n i (by omega)
    show (rngD (a + st) st n)[i]? = _
    rw [this]
    congr 2
    push_cast
    rw [Int.add_mul]
    omega
theorem rngD_len (a st : Int) : ∀ (n : Nat), (rngD a st n).length = n
  | 0 => rfl
  | n + 1 => by show (rngD (a + st) st n).length + 1 = n + 1; rw [rngD_len]

theorem iter_ok (R : Room A k) (S : St c x F g s) (ra : Rep c.DO F g v a) (e : itsD a = some ds) (Q : Value → Shared → Prop) (E : Value → Shared → Prop)
    (K : ∀ o fp P W, o.isFreed = false → (∀ A', A'.handled = .none → Drawn prog c A' F g s.heap.objs.size ds fp P W) → W 0 (s.heap.push o) → Q (.ref s.heap.objs.size) { s with heap := s.heap.push o }) : wpAny (model prog c.w) A (pyIter v) Q E s := by
  cases a with
  | lst =>
    refine bt e fun hz e => ?_
    · cases Option.some.inj e
      cases ra with
      | lst h1 h2 =>
        rename_i _ ad vs n
        have hl := S.sub _ _ h1
        have il : s.heap.IsList ad (List.toArray vs) := ⟨_, hl, rfl, n, rfl⟩
        have hne : ad ≠ s.heap.objs.size := Nat.ne_of_lt (Heap.lt_size hl)
        refine wpAny_pyIter_list il (K _ [s.heap.objs.size, ad] (fun i v => (List.toArray vs)[i]? = some v) (fun i h => h.IsListIter s.heap.objs.size ad i ∧ h.IsList ad (List.toArray vs)) rfl (fun A' hh => ⟨?_, ?_, ?_, ?_⟩) ?_)
        · have := Walks.list (prog := prog) (w := c.w) (A := A') hh s.heap.objs.size ad hne (List.toArray vs)
          have e : (List.toArray vs).size = ds.length := by rw [List.size_toArray, h2.len]
          rw [e] at this
          exact this
        · intro i h ⟨⟨o, e1, e2, _⟩, _⟩
          exact ⟨o, _, e1, e2, by simp [itNames]⟩
        · intro b hb
          simp at hb
          rcases hb with rfl | rfl
          · exact .inl rfl
          · exact .inr ⟨_, h1⟩
        · intro i v hv
          have hv : vs[i]? = some v := by simpa using hv
          obtain ⟨hi, _⟩ := List.getElem?_eq_some_iff.mp hv
          rw [h2.len] at hi
          obtain ⟨z, hz, rz⟩ := h2.get (List.getElem?_eq_getElem hi)
          rw [hv] at hz
          cases hz
          exact ⟨_, List.getElem?_eq_getElem hi, rz⟩
        · exact ⟨⟨_, Heap.get?_push_size _ rfl, rfl, rfl⟩, ⟨_, Heap.get?_push_of_some _ hl, rfl, n, rfl⟩⟩
  | str y =>
    refine bt e fun hz e => ?_
    · cases Option.some.inj e
      obtain ⟨t, rfl⟩ := rep_str ra
      have fin : ∀ T ∈ itNames, (∀ A', A'.handled = .none → Walks prog c.w A' s.heap.objs.size [s.heap.objs.size] [s.heap.objs.size] y.cps.size (SignAt y) (fun i h => h.IsStrIter s.heap.objs.size T y t i)) →
          ∀ A', A'.handled = .none → Drawn prog c A' F g s.heap.objs.size (y.cps.toList.map fun c => .str ⟨#[c]⟩) [s.heap.objs.size] (SignAt y) (fun i h => h.IsStrIter s.heap.objs.size T y t i) := by
        intro T hT W A' hh
        refine ⟨by simpa using W A' hh, ?_, fun b hb => .inl (by simpa using hb), ?_⟩
        · intro i h ⟨o, e1, e2, _⟩
          exact ⟨o, T, e1, e2, hT⟩
        · rintro i v ⟨cp, u, h1, rfl⟩
          exact ⟨_, by rw [List.getElem?_map]; simp [h1], .str _ _⟩
      cases ha : y.cps.all (· < 128)
      · exact wpAny_pyIter_wide ha (K _ _ _ _ rfl (fin "str_iterator" (by simp [itNames]) fun A' hA => Walks.strWide hA _ y t) ⟨_, Heap.get?_push_size _ rfl, rfl, rfl⟩)
      · exact wpAny_pyIter_ascii ha (K _ _ _ _ rfl (fin "str_ascii_iterator" (by simp [itNames]) fun A' hA => Walks.strAscii hA _ y t) ⟨_, Heap.get?_push_size _ rfl, rfl, rfl⟩)
  | rng a b st =>
    refine bt e fun hz e => and_t hz fun hz1 hz2 => ?_
    · have hz1 := of_decide_eq_true hz1
      cases Option.some.inj e
      cases ra with
      | rng h1 =>
        have hn : ((Builtin.Range.rangeSize a b st).toNat : Int) = Builtin.Range.rangeSize a b st := by
          apply Int.toNat_of_nonneg
          unfold Builtin.Range.rangeSize
          rw [if_pos hz1]
          split
          · have := Int.ediv_nonneg (a := b - a - 1) (b := st) (by omega) (by omega)
            omega
          · omega
        refine wpAny_pyIter_range (S.sub _ _ h1) hz2 (K _ [s.heap.objs.size] (fun i v => i < (Builtin.Range.rangeSize a b st).toNat ∧ ∃ t, v = .int (a + i * st) t) (fun i h => IsRangeIter h s.heap.objs.size (a + (i : Nat) * st) (((Builtin.Range.rangeSize a b st).toNat : Int) - (i : Nat)) st) rfl (fun A' hh => ⟨?_, ?_, ?_, ?_⟩) ?_)
        · have W := Walks.range (prog := prog) (w := c.w) (A := A') hh s.heap.objs.size a st (Builtin.Range.rangeSize a b st).toNat
          rw [rngD_len]
          exact ⟨W.sub, W.frame, fun i s Q E hi st hQ => W.item i s Q E hi st fun v h' tk hv => hQ v h' tk ⟨hi, hv⟩, W.done, W.self⟩
        · intro i h e1
          exact ⟨_, _, e1, rfl, by simp [itNames]⟩
        · intro b hb; exact .inl (by simpa using hb)
        · rintro i v ⟨hi, t, rfl⟩
          exact ⟨_, rngD_get a st _ i hi, .int _ _⟩
        · have := Heap.get?_push_size s.heap (o := { cls := .type "range_iterator", data := .fields #[rawInt a, rawInt (Builtin.Range.rangeSize a b st), rawInt st] }) rfl
          show _ = _
          simpa [hn] using this
  | _ => exact nn e
end
end Mine
end

section
open PySem PySem.W PyProof.Rows PySem.Calls PySem.Spec PySem.SeqAt
set_option Elab.async false
set_option backward.match.sparseCases false
set_option maxRecDepth 100000
namespace Mine
section
variable {prog : Program} {c : FC} {A : Around} {cfg : Cfg} {r : Rc} {x x' x'' : X} {F F' : Part} {g g' : List Addr} {s s' : Shared} {k : Nat} {v w u : Value} {a b d : D} {vs : List Value} {ds : List D}

theorem Rel.newF {G : GS} {σ : AEnv} {h : Heap} {pv : Priv} {m : Str → Option Value} (R : Rel c F g G σ h pv m) : F h.objs.size = .none := by
  cases e : F h.objs.size with
  | none => rfl
  | some o => exact absurd (Heap.lt_size (R.sub _ _ e)) (Nat.lt_irrefl _)
theorem Rel.newP {G : GS} {σ : AEnv} {h : Heap} {pv : Priv} {m : Str → Option Value} (R : Rel c F g G σ h pv m) : pv h.objs.size = .none := by
  cases e : pv h.objs.size with
  | none => rfl
  | some q => obtain ⟨_, _, o, z⟩ := R.priv _ _ e; exact absurd (Heap.lt_size z) (Nat.lt_irrefl _)
/-- a new thing held apart -/
theorem St.tackNew (S : St c x F g s) {o : Obj} {tk : Nat} (ho : o.isFreed = false) : St (c.tk ((s.heap.objs.size, o) :: c.T)) x F g { s with heap := s.heap.push o, toks := tk } ∧ ∀ p ∈ c.T, p.1 ≠ s.heap.objs.size := by
  obtain ⟨pv, m, R⟩ := S.rel
  have R' : Rel c F g x.2 x.1 (s.heap.push o) pv m := R.ext fun a o e => Heap.get?_push_of_some _ e
  obtain ⟨R2, n⟩ := R'.tackOn R.newF R.size R.hsize (Heap.get?_push_size _ ho) R.newP
  exact ⟨⟨⟨_, _, R2⟩, S.gens⟩, n⟩
theorem St.untack {T : List (Addr × Obj)} {q : Addr × Obj} (S : St (c.tk (q :: T)) x F g s) : St (c.tk T) x F g s := let ⟨pv, m, R⟩ := S.rel; ⟨⟨pv, m, R.tackFree (c := c.tk (q :: T)) fun _ h => .tail _ h⟩, S.gens⟩
theorem St.tackAt {T : List (Addr × Obj)} {q : Addr × Obj} (S : St (c.tk (q :: T)) x F g s) : s.heap.get? q.1 = some q.2 := let ⟨_, _, R⟩ := S.rel; (R.tacks q.1 q.2 (.head _)).2

theorem CfgX.tk (O : CfgX prog k c cfg) (T : List (Addr × Obj)) : CfgX prog k (c.tk T) cfg where
  kd := O.kd
  kind := O.kind
  gd := fun n d e c' h => O.gd n d e c' ⟨h.w, h.DO, h.hs, h.K, h.gl, h.bu⟩
  fc := ⟨O.fc.hD, O.fc.kok, O.fc.kin⟩
  call := fun fd ds G d G' e c' h => O.call fd ds G d G' e c' ⟨h.w, h.DO, h.hs, h.K, h.gl, h.bu⟩
  keeper := fun fd ds G r e c' h => O.keeper fd ds G r e c' ⟨h.w, h.DO, h.hs, h.K, h.gl, h.bu⟩
  atr := O.atr
  mth := O.mth
  sat := O.sat
  nest := O.nest

theorem CfgX.pn (O : CfgX prog k c cfg) (P' : List (Str × Value)) : CfgX prog k (c.pn P') cfg where
  kd := O.kd
  kind := O.kind
  gd := fun n d e c' h => O.gd n d e c' ⟨h.w, h.DO, h.hs, h.K, h.gl, h.bu⟩
  fc := ⟨O.fc.hD, O.fc.kok, O.fc.kin⟩
  call := fun fd ds G d G' e c' h => O.call fd ds G d G' e c' ⟨h.w, h.DO, h.hs, h.K, h.gl, h.bu⟩
  keeper := fun fd ds G r e c' h => O.keeper fd ds G r e c' ⟨h.w, h.DO, h.hs, h.K, h.gl, h.bu⟩
  atr := O.atr
  mth := O.mth
  sat := O.sat
  nest := O.nest

theorem for_ok {t : Expr} {body : List Stmt} {R' : Result → Shared → Prop} {f : Fl} {I : Addr} {fp : List Addr} {P : Nat → Value → Prop} {W : Nat → Heap → Prop} {T : List (Addr × Obj)} (hpin : c.pins = []) (RO : RcOk prog k r) (R : Room A k) (O : CfgX prog k c cfg) (ht : (nameOf t).isSome = true)
    (Dr : Drawn prog c A F g I ds fp P W) (hT : ∀ p ∈ T, p.1 ≠ I)
    (K : ∀ v F' g' s', St (c.tk T) x' F' g' s' → To F g s F' g' s' → FlRep c F' g' v f → R' (.ok v) s') :
    ∀ (n i : Nat) (x1 : X) (F1 : Part) (g1 : List Addr) (s1 : Shared) (o : Obj), i + n = ds.length → St (c.tk ((I, o) :: T)) x1 F1 g1 s1 → W i s1.heap → To F g s F1 g1 s1 → forX (r.ex cfg) cfg t body x1 (ds.drop i) = some (f, x') →
      codeAny (model prog c.w) A (.forLoop t (.ref I) body [] c.e) R' s1 := by
  intro n0 i0 x0 F0 g0 s0 o0 hn0 S0 W0 T0 f0
  refine codeAny_forLoop (fun n s1 => ∃ i x1 F1 g1 o, i + n = ds.length ∧ St (c.tk ((I, o) :: T)) x1 F1 g1 s1 ∧ W i s1.heap ∧ To F g s F1 g1 s1 ∧ forX (r.ex cfg) cfg t body x1 (ds.drop i) = some (f, x')) ?_ n0 ⟨i0, x0, F0, g0, o0, hn0, S0, W0, T0, f0⟩ (by
    intro v
    cases t <;> first | rfl | cases ht)
  rintro n s1 ⟨i, x1, F1, g1, o, hn, S1, W1, T1, hf⟩
  cases n with
  | zero =>
    have hi : i = ds.length := by omega
    subst hi
    rw [List.drop_length] at hf
    cases hf
    refine Dr.walks.done s1 _ _ W1 fun h' tk hk => ?_
    obtain ⟨pv, m, Rr⟩ := S1.rel
    obtain ⟨pv', R2⟩ := Rel.lose Rr hT (h' := h') fun b n o e => hk b o (by simpa using n) e
    exact wpAny_execs_nil (K .next F1 g1 _ ⟨⟨pv', m, R2⟩, S1.gens⟩ ⟨T1.le, T1.pre, T1.os⟩ trivial)
  | succ n =>
    have hi : i < ds.length := by omega
    refine Dr.walks.item i s1 _ _ hi W1 fun v h' tk hv W2 hk => ?_
    obtain ⟨pv, m, Rr⟩ := S1.rel
    obtain ⟨o2, _, l1, _, _⟩ := Dr.live _ _ W2
    have R2 := Rel.tackSet Rr (o' := o2) (h' := h') (fun b n o e => hk b o (by simpa using n) e) l1 hT
    have S2 : St (c.tk ((I, o2) :: T)) x1 F1 g1 { s1 with heap := h', toks := tk } := ⟨⟨pv, m, R2⟩, S1.gens⟩
    obtain ⟨dd, hd, rd⟩ := Dr.rep i v hv
    have rd' := Rep.mono T1.le T1.pre rd
    rw [List.drop_eq_getElem_cons hi] at hf
    have hdd : ds[i] = dd := by rw [List.getElem?_eq_getElem hi] at hd; cases hd; rfl
    rw [hdd] at hf
    refine bnd hf fun x2 h2 hf => bnd hf fun p h3 hf => ?_
    refine targ_ok (c := c.tk ((I, o2) :: T)) (A := A) hpin R (O.tk _).toCfgOk h2 S2 rd' _ _ fun _ F3 g3 s3 S3 T3 _ => ?_
    have stay : ∀ {x F4 g4 s4}, St (c.tk ((I, o2) :: T)) x F4 g4 s4 → Part.le F3 F4 → W (i + 1) s4.heap := fun S4 le => Dr.walks.frame _ _ _ W2 fun b hb o e => by
      rcases Dr.fps b hb with rfl | ⟨ob, hb⟩
      · rw [show h'.get? b = some o2 from l1] at e
        cases e
        exact S4.tackAt
      · have e0 := S2.sub b ob (T1.le _ _ hb)
        rw [show h'.get? b = some o from e] at e0
        cases e0
        exact S4.sub b o (le _ _ (T3.le _ _ (T1.le _ _ hb)))
    have T13 : To F g s F3 g3 s3 := ⟨T1.le.trans T3.le, T1.pre.trans T3.pre, T3.os.trans T1.os⟩
    obtain ⟨fl0, x3⟩ := p
    refine RO.ex (c.tk ((I, o2) :: T)) A cfg x2 body fl0 x3 hpin R (O.tk _) h3 F3 g3 s3 S3 _ _ fun fl F4 g4 s4 S4 T4 q => ?_
    cases fl0 with
    | next => cases fl with
      | next => exact ⟨n, Nat.lt_succ_self n, i + 1, x3, F4, g4, o2, by omega, S4, stay S4 T4.le, T13.trans T4, hf⟩
      | _ => exact q.elim
    | ret vd => cases fl with
      | ret v => cases hf; exact K (.ret v) F4 g4 s4 S4.untack (T13.trans T4) q
      | _ => exact q.elim

theorem forS_ok {t it : Expr} {body els : List Stmt} {pos : Pos} {f : Fl} (hpin : c.pins = []) (RO : RcOk prog k r) (R : Room A k) (O : CfgX prog k c cfg) (h : stepS r cfg x (.For t it body els pos) = some (f, x')) : Ev prog c A x (exec (.For t it body els pos) c.e) (IsF c f) x' := by
  refine bt h fun hc h => bnd h fun p h1 h => bnd h fun ds hd h9 => and_t hc fun hc hi => and_t hc fun hs ht => ?_
  cases List.isEmpty_iff.mp hs
  intro F g s S Q E K
  refine wpAny_For (RO.ev c A cfg x it p.1 p.2 R O h1 F g s S _ _ fun v F1 g1 s1 S1 T1 r1 => ?_) (by intro y; cases it <;> first | rfl | exact Bool.noConfusion hi)
  refine iter_ok R S1 r1 hd _ _ fun o fp P W ho Dr W0 => ?_
  obtain ⟨S2, hT⟩ := S1.tackNew (tk := s1.toks) ho
  exact for_ok (s := s1) (T := c.T) hpin RO R O ht (Dr A R.hh) hT (fun v F' g' s' S' T' q => K v F' g' s' S' (T1.trans T') q) ds.length 0 p.2 F1 g1 _ o (Nat.zero_add _) S2 W0 ⟨.refl F1, .refl g1, rfl⟩ h9
end
end Mine
end

section
open PySem PySem.W PyProof.Rows PySem.Calls PySem.Spec PySem.SeqAt
set_option Elab.async false
set_option backward.match.sparseCases false
set_option maxRecDepth 100000
namespace Mine
theorem era_lookup (σ : AEnv) (o y : Str) : (era σ o).lookup y = if y = o then .none else σ.lookup y := by
  induction σ with
  | nil => simp [era]
  | cons p r ih =>
    obtain ⟨z, b⟩ := p
    have ih : (r.filter fun p => !(p.1 == o)).lookup y = _ := ih
    show (List.filter _ ((z, b) :: r)).lookup y = _
    rw [List.filter_cons]
    by_cases hz : z = o
    · subst hz
      simp only [beq_self_eq_true, Bool.not_true, Bool.false_eq_true, if_false]
      rw [ih, List.lookup_cons]
      by_cases hy : y = z
      · simp [hy]
      · have : (y == z) = false := by simpa using hy
        simp [hy, this]
    · have hb : (z == o) = false := by simpa using hz
      simp only [hb, Bool.not_false, if_true]
      rw [List.lookup_cons, List.lookup_cons, ih]
      by_cases hy : y = z
      · subst hy; simp [hz]
      · have : (y == z) = false := by simpa using hy
        simp [this]

section
variable {prog : Program} {c : FC} {A : Around} {cfg : Cfg} {r : Rc} {x x' x'' : X} {F F' : Part} {g g' : List Addr} {s s' : Shared} {k : Nat} {v w u : Value} {a b d : D} {vs : List Value} {ds : List D}

theorem VarOk.loc {h : Heap} {pv : Priv} {m : Str → Option Value} {n : Str} {av : AV} (hk : c.e.kindOf n = some .local) (hm : m n = some v) (q : AvOk c.DO F g h pv n v av) : VarOk c F g h pv m n av := by
  unfold VarOk
  rw [hk]
  exact ⟨v, hm, q⟩

/-- the claim on a private thing takes another name -/
theorem Rel.retag {G : GS} {σ σ' : AEnv} {h : Heap} {pv : Priv} {m : Str → Option Value} {T : List (Addr × Obj)} {ad : Addr} {r r' : Role} (R : Rel c F g G σ h pv m) (p : pv ad = some r) (hf : r ≠ .frame) (hg : ∀ k, r ≠ .glob k)
    (hg' : ∀ k, r' ≠ .glob k) (hT : ∀ q ∈ T, (q ∈ c.T ∧ q.1 ≠ ad) ∨ (r' = .tack ∧ q.1 = ad ∧ h.get? ad = some q.2)) (hv : ∀ y av, σ'.lookup y = some av → VarOk c F g h (pv.claim ad r') m y av) : Rel (c.tk T) F g G σ' h (pv.claim ad r') m := by
  have ne : ∀ b rb, pv b = some rb → b ≠ ad → pv.claim ad r' b = some rb := fun b rb pb n => (if_neg n).trans pb
  have dr : ∀ b rb, pv.claim ad r' b = some rb → (b = ad ∧ rb = r') ∨ pv b = some rb := fun b rb e => by
    by_cases z : b = ad
    · rw [Priv.claim, if_pos z] at e; cases e; exact .inl ⟨z, rfl⟩
    · rw [Priv.claim, if_neg z] at e; exact .inr e
  exact {
    base := R.base
    sub := R.sub
    priv := fun b rb e => by
      rcases dr b rb e with ⟨rfl, _⟩ | e
      · exact R.priv b r p
      · exact R.priv b rb e
    fresh := fun b rb e => by
      rcases dr b rb e with ⟨rfl, _⟩ | e
      · exact (R.fresh b r p).elim .inl fun ⟨k, z, _⟩ => absurd z (hg k)
      · exact R.fresh b rb e
    freshF := R.freshF
    keep := R.keep
    lim := R.lim
    dig := R.dig
    tab := R.tab
    notab := R.notab
    le0 := R.le0
    ns := R.ns
    pL := ne _ _ R.pL (priv_ne p R.pL hf.symm)
    vars := hv
    gl := fun j b e => let ⟨pb, r⟩ := R.gl j b e; ⟨ne b _ pb (priv_ne p pb (hg j).symm), r⟩
    glen := R.glen
    pre0 := R.pre0
    pins := R.pins
    tacks := fun b ob e => by
      rcases hT _ e with ⟨e1, n⟩ | ⟨h1, h2, h3⟩
      · obtain ⟨pb, e⟩ := R.tacks b ob e1
        exact ⟨ne b _ pb n, e⟩
      · dsimp only at h2 h3
        subst h1 h2
        exact ⟨if_pos rfl, h3⟩ }

theorem inter_ok (h : c.e.scope.kind = .function) : interactive c.e = false := by
  unfold interactive
  rw [h]
  rfl

theorem hty_append : typeOf (.builtin "list.append") = pure (.type "method_descriptor") := type_list_append

/-- a list of this frame's own grows -/
theorem appendL_ok {o : Str} {op ap pos : Pos} {e : Expr} {ps : Pos} {l : List D} {x1 : X} (hpin : c.pins = []) (RO : RcOk prog k r) (R : Room A k) (O : CfgX prog k c cfg) (he : noStar e = true) (hb : (o == ("__debug__" : Str)) = false) (hline : (ap.endLine == pos.line) = true)
    (hk : cfg.kd o = some .local) (hl : x.1.lookup o = some (.lst l)) (h1 : r.ev cfg (era x.1 o, x.2) e = some (d, x1)) (hz : l.length ≤ 1000000) :
    Ev prog c A x (exec (.Expr (.Call (.Attribute (.Name o op) (Mine.S "append") ap) [e] [] pos) ps) c.e) (IsF c .next) (put x1.1 o (.lst (l ++ [d])), x1.2) := by
  intro F g s St0 Q E K
  refine wpAny_Expr_any ?_ (inter_ok O.kind) rfl
  obtain ⟨pv, m, R0⟩ := St0.rel
  have hk' : c.e.kindOf o = some .local := by rw [O.kd]; exact hk
  have q := R0.vars o _ hl
  unfold VarOk at q
  rw [hk'] at q
  obtain ⟨v, hm, ad, vs, rfl, p, ⟨n, hls⟩, rs⟩ := q
  refine wpAny_Call_method (T := "list") (id := "list.append") rfl (few_ok (by unfold flatL; simp [he]) (by simp)) hline PySem.F.plainAttrs_list PySem.F.slot_list_append hty_append ?_
  refine wpAny_Name (wpAny_loadName_local O.kind hk' R0.ns hm ⟨⟨_, hls, rfl⟩, fun b e => ?_, ?_⟩) hb
  · cases e; exact ⟨_, hls, rfl⟩
  · rw [star_one he]
    refine PySem.P.append_list ?_
    -- the list is held apart while the new thing is made
    have ne : ∀ (y : Str) (rb : Role), y ≠ o → rb = .own y ∨ rb = .sub y ∨ rb = .cell y → rb ≠ .own o := fun y rb hy z w => by
      subst w; rcases z with z | z | z <;> cases z; exact hy rfl
    have R1 : Rel (c.tk ((ad, ⟨.type "list", .none, .seq (List.toArray vs) n, #[]⟩) :: c.T)) F g x.2 (era x.1 o) s.heap (pv.claim ad .tack) m := by
      refine R0.retag p (fun z => nomatch z) (fun _ z => nomatch z) (fun _ z => nomatch z) ?_ ?_
      · intro q hq
        rcases List.mem_cons.mp hq with rfl | hq
        · exact .inr ⟨rfl, rfl, hls⟩
        · exact .inl ⟨hq, fun z => by have := (R0.tacks q.1 q.2 hq).1; rw [z, p] at this; cases this⟩
      · intro y av ey
        rw [era_lookup] at ey
        by_cases hy : y = o
        · rw [if_pos hy] at ey; cases ey
        · rw [if_neg hy] at ey
          exact (R0.vars y av ey).step (.refl F) (.refl g) (fun b rb pb z => ⟨(if_neg (priv_ne p pb (ne y rb hy z))).trans pb, fun _ e => e⟩) (fun _ _ _ e => e) fun _ => rfl
    have S1 : St ((c.tk ((ad, ⟨.type "list", .none, .seq (List.toArray vs) n, #[]⟩) :: c.T)).pn [(o, .ref ad)]) (era x.1 o, x.2) F g s :=
      ⟨⟨_, m, { R1 with pins := fun q hq => by cases List.mem_singleton.mp hq; exact hm }⟩, St0.gens⟩
    refine RO.ev ((c.tk ((ad, ⟨.type "list", .none, .seq (List.toArray vs) n, #[]⟩) :: c.T)).pn [(o, .ref ad)]) A cfg _ e d x1 R ((O.tk _).pn _) h1 F g s S1 _ _ fun w F1 g1 s1 S2 T2 r2 => ?_
    obtain ⟨pv2, m2, R2⟩ := S2.rel
    obtain ⟨tp, ht⟩ := R2.tacks ad _ (.head _)
    have hm2 : m2 o = some (.ref ad) := R2.pins _ (.head _)
    have hT : ∀ q ∈ c.T, q.1 ≠ ad := fun q hq z => by have := (R0.tacks q.1 q.2 hq).1; rw [z, p] at this; cases this
    have sz : (List.toArray vs).size ≤ sizeLine := by
      rw [List.size_toArray, rs.len]; exact Nat.le_trans hz (by decide +kernel)
    refine ⟨_, n, sz, ht, K .next F1 g1 _ ?_ ⟨T2.le, T2.pre, T2.os⟩ trivial⟩
    have R3 : Rel (c.tk ((ad, ⟨.type "list", .none, .seq (List.toArray vs) n, #[]⟩) :: c.T)) F1 g1 x1.2 x1.1 s1.heap pv2 m2 := { R2 with pins := fun q hq => by have hq : q ∈ c.pins := hq; rw [hpin] at hq; cases hq }
    have up := IsL.update (l := ad) (items := List.toArray vs) (n := n) ht fun xs => xs.push w
    have R4 := Rel.tackSet R3 (.of (Heap.SameBut.update ..)) up hT
    have R5 := Rel.retag (T := c.T) (σ' := put x1.1 o (.lst (l ++ [d]))) (r' := .own o) R4 tp (fun z => nomatch z) (fun _ z => nomatch z) (fun _ z => nomatch z) (fun q hq => .inl ⟨.tail _ hq, hT q hq⟩) (by
      intro y av ey
      rw [put_lookup] at ey
      by_cases hy : y = o
      · subst hy
        rw [if_pos rfl] at ey
        cases ey
        refine VarOk.loc hk' hm2 ⟨ad, vs ++ [w], rfl, if_pos rfl, ⟨_, by simpa using up⟩, ?_⟩
        exact (Reps.mono T2.le T2.pre rs).snoc r2
      · rw [if_neg hy] at ey
        exact VarOk.step (.refl F1) (.refl g1) (fun b rb pb z => ⟨(if_neg (priv_ne tp pb (by rcases z with z | z | z <;> subst z <;> exact fun y => nomatch y))).trans pb, fun _ e => e⟩) (fun _ _ _ e => e) (fun _ => rfl) (R4.vars y av ey))
    exact ⟨⟨_, m2, R5⟩, S2.gens⟩
end
end Mine
end

section
open PySem PySem.W PyProof.Rows PySem.Calls PySem.Spec PySem.SeqAt
set_option Elab.async false
set_option backward.match.sparseCases false
set_option maxRecDepth 100000
namespace Mine
section
variable {prog : Program} {c : FC} {A : Around} {cfg : Cfg} {r : Rc} {x x' x'' : X} {F F' : Part} {g g' : List Addr} {s s' : Shared} {k : Nat} {v w u : Value} {a b d : D} {vs : List Value} {ds : List D} {f : Fl}

theorem if_ok {t : Expr} {b1 b2 : List Stmt} {pos : Pos} (hpin : c.pins = []) (RO : RcOk prog k r) (R : Room A k) (O : CfgX prog k c cfg) (h : stepS r cfg x (.If t b1 b2 pos) = some (f, x')) : Ev prog c A x (exec (.If t b1 b2 pos) c.e) (IsF c f) x' := by
  refine bnd h fun p h1 h => ?_
  obtain ⟨b, x1⟩ := p
  intro F g s S Q E K
  refine wpAny_If (RO.tr c A cfg x t b x1 R O h1 F g s S _ _ fun b' F1 g1 s1 S1 T1 p => ?_)
  subst p
  cases b' with
  | true => exact RO.ex c A cfg x1 b1 f x' hpin R O h F1 g1 s1 S1 _ _ fun v F2 g2 s2 S2 T2 r2 => K v F2 g2 s2 S2 (T1.trans T2) r2
  | false => exact RO.ex c A cfg x1 b2 f x' hpin R O h F1 g1 s1 S1 _ _ fun v F2 g2 s2 S2 T2 r2 => K v F2 g2 s2 S2 (T1.trans T2) r2

theorem while_ok {t : Expr} {b : List Stmt} {pos : Pos} (hpin : c.pins = []) (RO : RcOk prog k r) (R : Room A k) (O : CfgX prog k c cfg) (h : r.wh cfg x t b = some (f, x')) : Ev prog c A x (exec (.While t b [] pos) c.e) (IsF c f) x' := by
  intro F g s S Q E K
  exact wpAny_While (RO.wh c A cfg x t b f x' hpin R O h F g s S _ fun v F1 g1 s1 S1 T1 q => K v F1 g1 s1 S1 T1 q)

theorem ret_ok {e : Expr} {pos : Pos} (RO : RcOk prog k r) (R : Room A k) (O : CfgX prog k c cfg) (h : r.ev cfg x e = some (d, x')) : Ev prog c A x (exec (.Return (some e) pos) c.e) (IsF c (.ret d)) x' := by
  intro F g s S Q E K
  exact wpAny_Return_some (RO.ev c A cfg x e d x' R O h F g s S _ _ fun v F1 g1 s1 S1 T1 q => K (.ret v) F1 g1 s1 S1 T1 q)

/-- a new list put under the shared ones -/
theorem St.shareNew (S : St c x F g s) (hr : Reps c.DO F g vs ds) : St c (x.1, x.2 ++ [ds]) F (g ++ [s.heap.objs.size]) { s with heap := s.heap.push { cls := .type "list", data := .seq vs.toArray } } := by
  obtain ⟨pv, m, R⟩ := S.rel
  have R' : Rel c F g x.2 x.1 (s.heap.push { cls := .type "list", data := .seq vs.toArray }) pv m := R.ext fun a o e => Heap.get?_push_of_some _ e
  exact ⟨⟨_, m, R'.share R.newF R.size R.hsize ⟨_, Heap.get?_push_size _ rfl⟩ R.newP hr⟩, S.gens⟩
theorem pre_app (g : List Addr) (a : Addr) : pre g (g ++ [a]) := fun k b e => by rw [List.getElem?_append_left (List.getElem?_eq_some_iff.mp e).1]; exact e

theorem newList_ok {es : List Expr} {pos : Pos} (RO : RcOk prog k r) (R : Room A k) (O : CfgX prog k c cfg) (hf : flatL es = true) (h : evs (r.ev cfg) x es = some (ds, x')) (S : St c x F g s) (Q : Value → Shared → Prop) (E : Value → Shared → Prop)
    (K : ∀ vs F1 g1 s1, St c x' F1 g1 s1 → To F g s F1 g1 s1 → Reps c.DO F1 g1 vs ds → Q (.ref s1.heap.objs.size) { s1 with heap := s1.heap.push { cls := .type "list", data := .seq vs.toArray } }) : wpAny (model prog c.w) A (eval (.List es pos) c.e) Q E s := by
  refine PySem.wpAny_List (evs_ok RO R O es x _ ds hf h F g s S _ _ fun vs F1 g1 s1 S1 T1 r1 => ⟨?_, K vs F1 g1 s1 S1 T1 r1⟩)
  rw [r1.len, evs_len es _ _ _ h]; exact line_le (flat_len hf)

theorem retX_ok {e : Expr} {pos : Pos} (RO : RcOk prog k r) (R : Room A k) (O : CfgX prog k c cfg) (h : retX r cfg x e = some (f, x')) : Ev prog c A x (exec (.Return (some e) pos) c.e) (IsF c f) x' := by
  unfold retX at h
  cases he : listOf e with
  | some es =>
    rw [he] at h
    refine bt h fun hf h => mpx (P := fun f x' => Ev prog c A x _ (IsF c f) x') h fun p h1 => ?_
    obtain ⟨pp, rfl⟩ := listOf_ok he
    intro F g s S Q E K
    refine wpAny_Return_some (newList_ok RO R O hf h1 S _ _ fun vs F1 g1 s1 S1 T1 r1 => ?_)
    have S2 := S1.shareNew r1
    refine K (.ret _) F1 _ _ S2 ⟨T1.le, T1.pre.trans (pre_app _ _), T1.os⟩ (Rep.mref ?_)
    obtain ⟨pv, m, R1⟩ := S1.rel
    show (g1 ++ [_])[p.2.2.length]? = _
    rw [← R1.glen]; simp
  | none =>
    rw [he] at h
    exact mpx (P := fun f x' => Ev prog c A x _ (IsF c f) x') h fun p h1 => ret_ok RO R O h1

theorem nextX_ok {o : Option X} {P : Fl → X → Prop} (h : nextX o = some (f, x')) (k : ∀ y, o = some y → P .next y) : P f x' := mpd (P := fun p => P p.1 p.2) h k

theorem swap_plain {e : Expr} {t : Option Expr} {n : Nat} (h : plainE e = true) : swapsWith e t n c.e = pure false := by
  cases e <;> first | rfl | cases h

theorem assignN_ok {n : Str} {np pos : Pos} {e : Expr} (hpin : c.pins = []) (RO : RcOk prog k r) (R : Room A k) (O : CfgX prog k c cfg) (hp : plainE e = true) {x1 : X} (h1 : r.ev cfg x e = some (d, x1)) (h2 : storeX cfg x1 n d = some x') :
    Ev prog c A x (exec (.Assign [.Name n np] e pos) c.e) (IsF c .next) x' := by
  intro F g s S Q E K
  refine wpAny_Assign_Name (RO.ev c A cfg x e d x1 R O h1 F g s S _ _ fun v F1 g1 s1 S1 T1 r1 => ?_) (swap_plain hp)
  exact store_ok (A := A) hpin O.toCfgOk h2 S1 r1 _ _ fun _ F2 g2 s2 S2 T2 _ => K .next F2 g2 s2 S2 (T1.trans T2) trivial

theorem assignL_ok {n : Str} {np p pos : Pos} {es : List Expr} (hpin : c.pins = []) (RO : RcOk prog k r) (R : Room A k) (O : CfgX prog k c cfg) (hf : flatL es = true) {q : List D × X} (h1 : evs (r.ev cfg) x es = some q)
    (h : (bif isLoc cfg n then some (.next, (put q.2.1 n (.lst q.1), q.2.2)) else nextX (storeX cfg (q.2.1, q.2.2 ++ [q.1]) n (.mref q.2.2.length))) = some (f, x')) :
    Ev prog c A x (exec (.Assign [.Name n np] (.List es p) pos) c.e) (IsF c f) x' := by
  refine bc h (fun hk h => smx (P := fun f x' => Ev prog c A x _ (IsF c f) x') h ?_) fun _ h => nextX_ok (P := fun f x' => Ev prog c A x _ (IsF c f) x') h fun x2 e1 => ?_
  · intro F g s S Q E K
    refine wpAny_Assign_Name (newList_ok RO R O hf h1 S _ _ fun vs F1 g1 s1 S1 T1 r1 => ?_) rfl
    obtain ⟨pv, m, R1⟩ := S1.rel
    have hk' : c.e.kindOf n = some .local := by rw [O.kd]; exact of_decide_eq_true hk
    have R2 : Rel c F1 g1 q.2.2 q.2.1 (s1.heap.push { cls := .type "list", data := .seq vs.toArray }) pv m := R1.ext fun a o e => Heap.get?_push_of_some _ e
    have R3 := R2.claim (.own n) R1.newF R1.size R1.hsize ⟨_, Heap.get?_push_size _ rfl⟩ R1.newP
    exact wpAny_storeName_local hk' R3.ns (fun h' hn hs => K .next F1 g1 _ ⟨⟨_, _, R3.storeL hpin hk' (av := .lst q.1) ⟨_, vs, rfl, if_pos rfl, ⟨0, Heap.get?_push_size _ rfl⟩, r1⟩ hn hs⟩, S1.gens⟩ ⟨T1.le, T1.pre, T1.os⟩ trivial) (by rw [O.kind]; rfl)
  · intro F g s S Q E K
    refine wpAny_Assign_Name (newList_ok RO R O hf h1 S _ _ fun vs F1 g1 s1 S1 T1 r1 => ?_) rfl
    obtain ⟨pv, m, R1⟩ := S1.rel
    have S2 := S1.shareNew r1
    refine store_ok (A := A) hpin O.toCfgOk e1 S2 (Rep.mref ?_) _ _ fun _ F2 g2 s2 S3 T2 _ => K .next F2 g2 s2 S3 (T1.trans ⟨T2.le, (pre_app _ _).trans T2.pre, T2.os⟩) trivial
    show (g1 ++ [_])[q.2.2.length]? = _
    rw [← R1.glen]; simp

theorem aug_ok {n : Str} {np pos : Pos} {op : Operator} {e : Expr} (hpin : c.pins = []) (RO : RcOk prog k r) (R : Room A k) (O : CfgX prog k c cfg) (h : augX r cfg x n op e = some (f, x')) :
    Ev prog c A x (exec (.AugAssign (.Name n np) op e pos) c.e) (IsF c f) x' := by
  refine bnd h fun p h1 h => bnd h fun i hi h => bnd h fun q h2 h => bnd h fun j hj h9 => bt h1 fun hk h1 => ?_
  have hk' : c.e.kindOf n = some .local := by rw [O.kd]; exact of_decide_eq_true hk
  obtain ⟨p0, h0, e0⟩ := Option.map_eq_some_iff.mp h1
  subst e0
  intro F g s S Q E K
  obtain ⟨pv, m, R0⟩ := S.rel
  obtain ⟨v, F1, pv1, hm, le1, rv, R1⟩ := readL R0 hk' h0
  have S1 : St c (p0.2, x.2) F1 g s := ⟨⟨pv1, m, R1⟩, S.gens⟩
  refine wpAny_AugAssign_Name (wpAny_loadName_local O.kind hk' R0.ns hm ?_)
  refine RO.ev c A cfg _ e q.1 q.2 R O h2 F1 g s S1 _ _ fun w F2 g2 s2 S2 T2 r2 => ?_
  rw [intD_ok hi] at rv
  rw [intD_ok hj] at r2
  obtain ⟨t, rfl⟩ := rep_int rv
  obtain ⟨u, rfl⟩ := rep_int r2
  have fin : ∀ z tk, nextX (storeX cfg q.2 n (.int z)) = some (f, x') → wpAny (model prog c.w) A (storeName c.e n (.int z s2.toks)) (fun _ s' => Q .next s') E { s2 with toks := tk } := fun z tk h => by
    refine nextX_ok (P := fun f x' => (∀ v F' g' s', St c x' F' g' s' → To F g s F' g' s' → IsF c f F' g' v → Q v s') → wpAny (model prog c.w) A (storeName c.e n (.int z s2.toks)) (fun _ s' => Q .next s') E { s2 with toks := tk }) h (fun y e1 K => ?_) K
    exact store_ok (A := A) hpin O.toCfgOk e1 (S2.toks _) (.int _ _) _ _ fun _ F3 g3 s3 S3 T3 _ => K .next F3 g3 s3 S3 ⟨(le1.trans T2.le).trans T3.le, T2.pre.trans T3.pre, T3.os.trans T2.os⟩ trivial
  cases op with
  | Add => exact PyProof.Rows.iadd_int (fin _ _ h9)
  | Sub => exact PyProof.Rows.isub_int (fin _ _ h9)
  | _ => exact nn h9

/-- a shared list changed -/
theorem Rel.storeG {G : GS} {σ : AEnv} {h h' : Heap} {pv : Priv} {m : Str → Option Value} {j : Nat} {ad : Addr} {vs' : List Value} {ds' : List D} (R : Rel c F g G σ h pv m) (hj : g[j]? = some ad) (hs : But ad h h') (hl : LsAt h' ad (List.toArray vs')) (hr : Reps c.DO F g vs' ds') : Rel c F g (G.set j ds') σ h' pv m := by
  obtain ⟨p, vs, ds, e1, _, _⟩ := R.gl j ad hj
  have tc := R.toCore.touch p hs (let ⟨_, e⟩ := hl; ⟨_, e⟩)
  exact {
    base := tc.base
    sub := tc.sub
    priv := tc.priv
    fresh := tc.fresh
    freshF := tc.freshF
    keep := tc.keep
    lim := tc.lim
    dig := tc.dig
    tab := tc.tab
    notab := tc.notab
    le0 := tc.le0
    ns := hs.ns (priv_ne p R.pL fun z => nomatch z) R.ns
    pL := R.pL
    vars := fun y b e => (R.vars y b e).touch R.toCore p (fun z => nomatch z) (fun z => nomatch z) (fun z => nomatch z) hs fun _ => rfl
    gl := fun i b e => by
      by_cases z : i = j
      · subst z
        rw [hj] at e
        cases e
        refine ⟨p, vs', ds', ?_, hl, hr⟩
        obtain ⟨hi, _⟩ := List.getElem?_eq_some_iff.mp e1
        simp [hi]
      · obtain ⟨pb, vs, ds, e1, e2, e3⟩ := R.gl i b e
        refine ⟨pb, vs, ds, ?_, LsAt.keep e2 (hs b (fun y => ?_)), e3⟩
        · rw [List.getElem?_set_ne (by omega)]; exact e1
        · subst y
          rw [p] at pb
          injection pb with pb
          injection pb with pb
          exact z pb.symm
    glen := by rw [List.length_set]; exact R.glen
    pre0 := R.pre0
    pins := R.pins
    tacks := fun b o e => let ⟨pb, q⟩ := R.tacks b o e; ⟨pb, hs b (priv_ne p pb fun z => nomatch z) o q⟩ }

theorem appendG_ok {o : Str} {op ap pos : Pos} {e : Expr} {ps : Pos} {l : List D} {j : Nat} {x1 x2 : X} (RO : RcOk prog k r) (R : Room A k) (O : CfgX prog k c cfg) (he : noStar e = true) (hline : (ap.endLine == pos.line) = true)
    (h0 : nameX cfg x o = some (.mref j, x1)) (h1 : r.ev cfg x1 e = some (d, x2)) (hl : x2.2[j]? = some l) (hz : l.length ≤ 1000000) :
    Ev prog c A x (exec (.Expr (.Call (.Attribute (.Name o op) (Mine.S "append") ap) [e] [] pos) ps) c.e) (IsF c .next) (x2.1, x2.2.set j (l ++ [d])) := by
  intro F g s S Q E K
  refine wpAny_Expr_any ?_ (inter_ok O.kind) rfl
  refine wpAny_Call_method (T := "list") (id := "list.append") rfl (few_ok (by unfold flatL; simp [he]) (by simp)) hline PySem.F.plainAttrs_list PySem.F.slot_list_append hty_append ?_
  refine name_ok O.toCfgOk h0 F g s S _ _ fun v F1 g1 s1 S1 T1 r1 => ?_
  cases r1 with
  | mref hg =>
    rename_i ad
    have ls : ∃ vs n, s1.heap.get? ad = some ⟨.type "list", .none, .seq (List.toArray vs) n, #[]⟩ := by
      obtain ⟨pv, m, R1⟩ := S1.rel
      obtain ⟨_, vs, _, _, ⟨n, e2⟩, _⟩ := R1.gl j ad hg
      exact ⟨vs, n, e2⟩
    obtain ⟨vs0, n0, l0⟩ := ls
    refine ⟨⟨_, l0, rfl⟩, fun b e => by cases e; exact ⟨_, l0, rfl⟩, ?_⟩
    rw [star_one he]
    refine PySem.P.append_list (RO.ev c A cfg x1 e d x2 R O h1 F1 g1 s1 S1 _ _ fun w F2 g2 s2 S2 T2 r2 => ?_)
    have hg2 := T2.pre _ _ hg
    obtain ⟨vs, ⟨n, ha⟩, hr⟩ := glob_at S2 hg2 hl
    have sz : (List.toArray vs).size ≤ sizeLine := by
      rw [List.size_toArray, hr.len]; exact Nat.le_trans hz (by decide +kernel)
    refine ⟨_, n, sz, ha, K .next F2 g2 _ ?_ ⟨(T1.trans T2).le, (T1.trans T2).pre, (T1.trans T2).os⟩ trivial⟩
    obtain ⟨pv, m, R2⟩ := S2.rel
    have up := IsL.update (l := ad) (items := List.toArray vs) (n := n) ha fun xs => xs.push w
    exact ⟨⟨pv, m, R2.storeG hg2 (.of (Heap.SameBut.update ..)) (vs' := vs ++ [w]) ⟨_, by simpa using up⟩ (hr.snoc r2)⟩, S2.gens⟩
end
end Mine
end

section
open PySem PySem.W PyProof.Rows PySem.Calls PySem.Spec PySem.SeqAt
set_option Elab.async false
set_option backward.match.sparseCases false
set_option maxRecDepth 100000
namespace Mine
section
variable {prog : Program} {c : FC} {A : Around} {cfg : Cfg} {r : Rc} {x x' x'' : X} {F F' : Part} {g g' : List Addr} {s s' : Shared} {k : Nat} {v w u : Value} {a b d : D} {vs : List Value} {ds : List D} {f : Fl}

theorem setItem_exact {l : Addr} {items : Array Value} {n : Nat} {i : Int} {t : Tok} {Q : Unit → Shared → Prop} {E : Value → Shared → Prop} (ha : s.heap.get? l = some ⟨.type "list", .none, .seq items n, #[]⟩)
    (h0 : 0 ≤ i) (hfit : i < 2 ^ 63) (hn : i.toNat < items.size) (hQ : Q () { s with heap := s.heap.update l (Obj.mapSeq (·.setIfInBounds i.toNat v)) }) : wpAny (model prog c.w) A (setItem (.ref l) (.int i t) v) Q E s := by
  have hl : s.heap.IsList l items := ⟨_, ha, rfl, n, rfl⟩
  unfold setItem
  try with_reducible refine wpAny_holding ?_
  first | refine wpAny_bind (wpAny_pure ?_) | skip
  refine wpAny_bind (wpAny_sequenceKey hl.typeIs (by decide) ?_)
  refine wpAny_bind (wpAny_callSpecial?_slot (name := Str.ofString "__setitem__") hl.typeIs slot_list_setitem
    (wpAny_call_entry slot_list_setitem hl.typeIs entry_list_setitem ?_ (args_list_setitem _ _ _)))
  show wpAny _ _ (Builtin.List.listSubscript? (.int i t) >>= _) _ _ s
  refine wpAny_bind (wpAny_listSubscript_int (fitsIndex_of h0 hfit) ?_)
  clear hfit
  obtain ⟨j, rfl⟩ := Int.eq_ofNat_of_zero_le h0
  have hj : j < items.size := hn
  have hx' : items[j]? = some items[j] := Array.getElem?_eq_getElem hj
  show wpAny _ _ ((seqItemAt l j >>= fun r => pure (r.map (j, ·))) >>= _) _ _ s
  refine wpAny_bind (wpAny_bind (wpAny_seqItemAt ha rfl (wpAny_pure ?_)))
  rw [hx']
  show wpAny _ _ (setSeqItemAt l j v >>= _) _ _ s
  refine wpAny_bind (wpAny_setSeqItemAt ha rfl ?_)
  first
    | exact wpAny_bind (wpAny_pure (wpAny_pure ⟨.none, rfl, wpAny_pure hQ⟩))
    | exact wpAny_pure ⟨.none, rfl, wpAny_pure hQ⟩

theorem Reps.set {P : DOb} : ∀ {vs : List Value} {ds : List D}, Reps P F g vs ds → ∀ (i : Nat), Rep P F g v d → Reps P F g (vs.set i v) (ds.set i d)
  | _, _, .nil, _, _ => .nil
  | _, _, .cons h r, 0, h' => .cons h' r
  | _, _, .cons h r, i + 1, h' => .cons h (Reps.set r i h')

theorem setG_ok {o : Str} {op ap pos : Pos} {e i : Expr} {l : List D} {j : Nat} {n : Int} {x1 x2 x3 : X} (RO : RcOk prog k r) (R : Room A k) (O : CfgX prog k c cfg) (he : plainE e = true)
    (h1 : r.ev cfg x e = some (d, x1)) (h2 : nameX cfg x1 o = some (.mref j, x2)) (h3 : r.ev cfg x2 i = some (.int n, x3)) (hl : x3.2[j]? = some l) (hn : 0 ≤ n ∧ n.toNat < l.length ∧ l.length ≤ 1000000) :
    Ev prog c A x (exec (.Assign [.Subscript (.Name o op) i ap] e pos) c.e) (IsF c .next) (x3.1, x3.2.set j (l.set n.toNat d)) := by
  intro F g s S Q E K
  refine wpAny_Assign_Subscript (RO.ev c A cfg x e d x1 R O h1 F g s S _ _ fun v F1 g1 s1 S1 T1 r1 => ?_) (swap_plain he)
  refine name_ok O.toCfgOk h2 F1 g1 s1 S1 _ _ fun w F2 g2 s2 S2 T2 r2 => ?_
  refine RO.ev c A cfg x2 i _ x3 R O h3 F2 g2 s2 S2 _ _ fun u F3 g3 s3 S3 T3 r3 => ?_
  obtain ⟨t, rfl⟩ := rep_int r3
  cases r2 with
  | mref hg =>
    rename_i ad
    have hg3 := T3.pre _ _ hg
    obtain ⟨vs, ⟨nn, ha⟩, hr⟩ := glob_at S3 hg3 hl
    have hsz : n.toNat < (List.toArray vs).size := by rw [List.size_toArray, hr.len]; exact hn.2.1
    refine setItem_exact ha hn.1 (by omega) hsz (K .next F3 g3 _ ?_ ⟨((T1.trans T2).trans T3).le, ((T1.trans T2).trans T3).pre, ((T1.trans T2).trans T3).os⟩ trivial)
    obtain ⟨pv, m, R3⟩ := S3.rel
    have up := IsL.update (l := ad) (items := List.toArray vs) (n := nn) ha fun xs => xs.setIfInBounds n.toNat v
    exact ⟨⟨pv, m, R3.storeG hg3 (.of (Heap.SameBut.update ..)) (vs' := vs.set n.toNat v) ⟨_, by simpa using up⟩ (hr.set _ (Rep.mono (T2.trans T3).le (T2.trans T3).pre r1))⟩, S3.gens⟩

end
end Mine
end

section
open PySem PySem.W PyProof.Rows PySem.Calls PySem.Spec PySem.SeqAt
set_option Elab.async false
set_option backward.match.sparseCases false
set_option maxRecDepth 100000
namespace Mine
section
variable {prog : Program} {c : FC} {A : Around} {cfg : Cfg} {r : Rc} {x x' x'' : X} {F F' : Part} {g g' : List Addr} {s s' : Shared} {k : Nat} {v w u : Value} {a b d : D} {vs : List Value} {ds : List D} {f : Fl}

theorem St.sim {σ σ' : AEnv} {G : GS} (S : St c (σ, G) F g s) (h : ∀ y, σ'.lookup y = σ.lookup y) : St c (σ', G) F g s :=
  ⟨let ⟨pv, m, R⟩ := S.rel; ⟨pv, m, { R with vars := fun y av e => R.vars y av (by rw [← h y]; exact e) }⟩, S.gens⟩

theorem names_all {p : Expr → Option Str} {P : Str → Prop} (hp : ∀ t n, p t = some n → nameOf t = some n ∧ P n) : ∀ (ts : List Expr), (ts.filterMap p).length = ts.length → ts.filterMap p = ts.filterMap nameOf ∧ ∀ n ∈ ts.filterMap nameOf, P n
  | [], _ => ⟨rfl, fun n h => nomatch h⟩
  | t :: ts, h => by
    rw [List.filterMap_cons] at h
    cases e : p t with
    | none =>
      rw [e] at h
      have := List.length_filterMap_le p ts
      simp only [List.length_cons] at h
      omega
    | some n =>
      rw [e] at h
      simp only [List.length_cons, Nat.add_right_cancel_iff] at h
      obtain ⟨i1, i2⟩ := names_all hp ts h
      obtain ⟨q1, q2⟩ := hp t n e
      rw [List.filterMap_cons, List.filterMap_cons, e, q1]
      refine ⟨by rw [i1], fun m hm => ?_⟩
      rcases List.mem_cons.mp hm with rfl | hm
      · exact q2
      · exact i2 m hm

set_option backward.match.sparseCases true in
theorem swp_cases {ts es : List Expr} {n1 n2 : Nat} {p1 p2 : Pos} (hc : (es.all (foldedForSure 8) || !es.all (constantsAlone 8)) = true) (hnl : (ts.filterMap nameOf).length = ts.length) :
    swappedStores [.Tuple ts n1 p1] (.Tuple es n2 p2) c.e = pure .none ∨ (swappedStores [.Tuple ts n1 p1] (.Tuple es n2 p2) c.e = pure (some (ts.filterMap nameOf)) ∧ ∀ n ∈ ts.filterMap nameOf, c.e.kindOf n = some .local) := by
  unfold swappedStores
  dsimp only
  split
  · exact .inl rfl
  · split
    · exact .inl rfl
    · split
      · exact .inl rfl
      · split
        · exact .inl rfl
        · split
          · exfalso
            simp_all
          · rename_i h1 h2 h3 h4 h5
            have hn := names_all (p := fun t => match t with
              | .Name id pos => if c.e.kindOf id == some .local && pos.line == (ts.head?.map (·.pos.line)).getD 0 then some id else .none
              | _ => .none) (P := fun n => c.e.kindOf n = some .local) (by
                intro t n e
                cases t <;> simp only at e <;> try cases e
                split at e
                · rename_i hh
                  cases e
                  rw [Bool.and_eq_true] at hh
                  exact ⟨rfl, by simpa using hh.1⟩
                · cases e) ts (by
                have h6 : ∀ {A B : Bool}, ¬ (A || B) = true → A = false := fun {A B} z => by cases A <;> first | rfl | exact absurd rfl z
                exact bne_eq_false_iff_eq.mp (h6 h3))
            refine .inr ⟨?_, hn.2⟩
            rw [← hn.1]
            rfl

theorem nodup_rev {l : List Str} (h : l.Nodup) : l.reverse.Nodup := List.pairwise_reverse.mpr (List.Pairwise.imp (fun h e => h e.symm) h)
theorem zip_rev {α β : Type} : ∀ (a : List α) (b : List β), a.length = b.length → (a.zip b).reverse = a.reverse.zip b.reverse
  | [], [], _ => rfl
  | x :: a, y :: b, h => by
    have h' : a.length = b.length := by simpa using h
    rw [List.zip_cons_cons, List.reverse_cons, List.reverse_cons, List.reverse_cons, zip_rev a b h', List.zip_append (by simp [h'])]
    rfl
noncomputable def putAll (σ : AEnv) (l : List (Str × D)) : AEnv := l.foldl (fun σ p => put σ p.1 (.d p.2)) σ
theorem lookup_of_mem {l : List (Str × D)} (hn : (l.map (·.1)).Nodup) {y : Str} {d : D} (h : (y, d) ∈ l) : l.lookup y = some d := by
  induction l with
  | nil => cases h
  | cons p l ih =>
    obtain ⟨z, e⟩ := p
    rw [List.map_cons, List.nodup_cons] at hn
    rw [List.lookup_cons]
    rcases List.mem_cons.mp h with h2 | h2
    · cases h2; simp
    · have : (y == z) = false := by
        simp only [beq_eq_false_iff_ne, ne_eq]
        intro q
        exact hn.1 (q ▸ List.mem_map.mpr ⟨_, h2, rfl⟩)
      rw [this]
      exact ih hn.2 h2
theorem lookup_rev {l : List (Str × D)} (hn : (l.map (·.1)).Nodup) (y : Str) : l.reverse.lookup y = l.lookup y := by
  have hr : (l.reverse.map (·.1)).Nodup := by rw [List.map_reverse]; exact nodup_rev hn
  cases h : l.lookup y with
  | some d => exact lookup_of_mem hr (List.mem_reverse.mpr (mem_of_lookup h))
  | none =>
    cases h' : l.reverse.lookup y with
    | none => rfl
    | some d => rw [lookup_of_mem hn (List.mem_reverse.mp (mem_of_lookup h'))] at h; cases h
theorem putAll_lookup : ∀ (l : List (Str × D)) (σ : AEnv) (y : Str), (l.map (·.1)).Nodup → (putAll σ l).lookup y = match l.lookup y with | some d => some (.d d) | .none => σ.lookup y
  | [], σ, y, _ => rfl
  | (z, e) :: l, σ, y, hn => by
    rw [List.map_cons, List.nodup_cons] at hn
    show (putAll (put σ z (.d e)) l).lookup y = _
    rw [putAll_lookup l _ y hn.2, List.lookup_cons, put_lookup]
    by_cases hy : y = z
    · subst hy
      have : l.lookup y = .none := by
        cases q : l.lookup y with
        | none => rfl
        | some d => exact absurd (List.mem_map.mpr ⟨_, mem_of_lookup q, rfl⟩) hn.1
      simp [this]
    · have : (y == z) = false := by simpa using hy
      rw [this, if_neg hy]

theorem store_loc {n : Str} (O : CfgOk prog k c cfg) (hk : c.e.kindOf n = some .local) : storeX cfg x n d = some (put x.1 n (.d d), x.2) := by
  unfold storeX
  rw [← O.kd, hk]
  rfl
theorem binds_ok (hpin : c.pins = []) (O : CfgOk prog k c cfg) : ∀ (ns : List Str) (vs : List Value) (ds : List D) (x : X) (F : Part) (g : List Addr) (s : Shared), (∀ n ∈ ns, c.e.kindOf n = some .local) → St c x F g s → Reps c.DO F g vs ds → ns.length = ds.length →
    At prog c A F g s (assignInOrder (ns.map fun n => bindName c.e n) vs) Nowt (putAll x.1 (ns.zip ds), x.2)
  | [], vs, ds, x, F, g, s, _, S, r, hl => by
    cases ds with
    | cons _ _ => cases hl
    | nil => cases r; exact fun Q E K => assignInOrder_nil (K () F g s S (.refl F g s) trivial)
  | n :: ns, vs, ds, x, F, g, s, hk, S, r, hl => by
    cases ds with
    | nil => cases hl
    | cons d ds =>
      cases r with
      | cons r1 r2 =>
        intro Q E K
        refine assignInOrder_cons (bindName_ ?_)
        have h1 := store_loc (x := x) (d := d) O (hk n (.head _))
        refine store_ok (A := A) hpin O h1 S r1 _ _ fun _ F1 g1 s1 S1 T1 _ => ?_
        exact binds_ok hpin O ns _ ds _ F1 g1 s1 (fun m hm => hk m (.tail _ hm)) S1 (Reps.mono T1.le T1.pre r2) (by simpa using hl) Q E fun _ F2 g2 s2 S2 T2 _ => K () F2 g2 s2 S2 (T1.trans T2) trivial

theorem storesX_puts (O : CfgOk prog k c cfg) : ∀ (ts : List Expr) (ds : List D) (x x' : X), (∀ n ∈ ts.filterMap nameOf, c.e.kindOf n = some .local) → storesX cfg x ts ds = some x' → x' = (putAll x.1 ((ts.filterMap nameOf).zip ds), x.2) := by
  intro ts
  induction ts with
  | nil => exact fun ds x x' _ h => (storesX_nil h).2.symm
  | cons t ts ih =>
    refine fun ds x x' hk h => storesX_cons h fun n p d ds' x1 e1 e2 h1 h2 => ?_
    subst e1 e2
    have e : ((Expr.Name n p) :: ts).filterMap nameOf = n :: ts.filterMap nameOf := rfl
    rw [e] at hk ⊢
    rw [store_loc O (hk n (.head _))] at h1
    cases Option.some.inj h1
    exact ih ds' _ x' (fun m hm => hk m (.tail _ hm)) h2

theorem Reps.reverse {P : DOb} {vs : List Value} {ds : List D} (r : Reps P F g vs ds) : Reps P F g vs.reverse ds.reverse := by
  induction vs generalizing ds with
  | nil => cases r; exact .nil
  | cons v vs ih =>
    cases r with
    | cons h r => rw [List.reverse_cons, List.reverse_cons]; exact (ih r).snoc h

/-- what stands in a tuple is bound to names -/
theorem assignT_ok {ts es : List Expr} {n1 n2 : Nat} {p1 p2 pos : Pos} (hpin : c.pins = []) (RO : RcOk prog k r) (R : Room A k) (O : CfgX prog k c cfg) (h : assT r cfg x ts es = some (f, x')) :
    Ev prog c A x (exec (.Assign [.Tuple ts n1 p1] (.Tuple es n2 p2) pos) c.e) (IsF c f) x' := by
  refine bt h fun hc h => bnd h fun q h1 h => nextX_ok (P := fun f x' => Ev prog c A x _ (IsF c f) x') h fun x' h2 => ?_
  refine and_t hc fun hc hnl => and_t hc fun hc hnd => and_t hc fun hc hsw => and_t hc fun hf hlen => ?_
  have hnd := of_decide_eq_true hnd
  have hnl := eq_of_beq hnl
  intro F g s S Q E K
  have tup : ∀ (Q' : Value → Shared → Prop), (∀ ad vs F1 g1 s1, St c q.2 F1 g1 s1 → To F g s F1 g1 s1 → Reps c.DO F1 g1 vs q.1 → IsTup s1.heap ad (List.toArray vs) → Q' (.ref ad) s1) → wpAny (model prog c.w) A (eval (.Tuple es n2 p2) c.e) Q' E s := by
    intro Q' K'
    refine PySem.wpAny_Tuple (evs_ok RO R O es x q.2 q.1 hf h1 F g s S _ _ fun vs F1 g1 s1 S1 T1 r1 => ⟨?_, ?_⟩)
    · rw [r1.len, evs_len es _ _ _ h1]; exact line_le (flat_len hf)
    · exact K' _ vs _ g1 _ (S1.push (tk := s1.toks) rfl) (T1.trans ⟨S1.le_push _, .refl g1, rfl⟩) (Reps.mono (S1.le_push _) (.refl g1) r1) ⟨_, Heap.get?_push_size _ rfl, rfl, _, rfl⟩
  obtain ⟨i1, i2, i3⟩ := stores_each (e := c.e) ts q.1 q.2 x' h2
  have hex : ∀ {s1 : Shared} {h' : Heap}, Heap.ExtBut s1.heap.objs.size s1.heap h' → ∀ a o, s1.heap.get? a = some o → h'.get? a = some o := fun he a o e => he a o (Nat.ne_of_lt (Heap.lt_size e)) e
  rcases swp_cases (c := c) (n1 := n1) (n2 := n2) (p1 := p1) (p2 := p2) (es := es) (ts := ts) hsw hnl with hw | ⟨hw, hk⟩
  · refine Assign_Tuple (tup _ fun ad vs F1 g1 s1 S1 T1 r1 ht => ?_) rfl hw
    refine assign_Tuple_tuple R.hh ht (by rw [i1, i3, ← r1.len]; simp) i2 fun h' he => ?_
    have S2 : St c q.2 F1 g1 { s1 with heap := h' } := S1.ext (tk := s1.toks) (hex he)
    exact stores_ok (A := A) hpin O.toCfgOk ts _ q.1 q.2 x' F1 g1 _ h2 S2 r1 _ _ fun _ F2 g2 s2 S3 T2 _ => K .next F2 g2 s2 S3 (T1.trans ⟨T2.le, T2.pre, T2.os⟩) trivial
  · refine Assign_Tuple_swapped (names := ts.filterMap nameOf) (tup _ fun ad vs F1 g1 s1 S1 T1 r1 ht => ?_) rfl hw
    have hsz : (ts.filterMap nameOf).length = (List.toArray vs).size := by rw [hnl, i3, ← r1.len]; simp
    rw [hsz]
    refine unpackItems_tuple R.hh ht fun h' he => ?_
    have S2 : St c q.2 F1 g1 { s1 with heap := h' } := S1.ext (tk := s1.toks) (hex he)
    have rr : Reps c.DO F1 g1 (List.toArray vs).toList.reverse q.1.reverse := r1.reverse
    refine binds_ok (A := A) hpin O.toCfgOk (ts.filterMap nameOf).reverse _ q.1.reverse q.2 F1 g1 _ (fun n hn => hk n (List.mem_reverse.mp hn)) S2 rr (by rw [List.length_reverse, List.length_reverse, hnl, i3]) _ _ fun _ F2 g2 s2 S3 T2 _ => K .next F2 g2 s2 ?_ (T1.trans ⟨T2.le, T2.pre, T2.os⟩) trivial
    rw [storesX_puts O.toCfgOk ts q.1 q.2 x' hk h2]
    refine S3.sim fun y => ?_
    have hz : (ts.filterMap nameOf).reverse.zip q.1.reverse = ((ts.filterMap nameOf).zip q.1).reverse := (zip_rev _ _ (by rw [hnl, i3])).symm
    have nd : (((ts.filterMap nameOf).zip q.1).map (·.1)).Nodup := by
      rw [List.map_fst_zip (by rw [hnl, i3]; exact Nat.le_refl _)]; exact hnd
    have ndr : ((((ts.filterMap nameOf).zip q.1).reverse).map (·.1)).Nodup := by rw [List.map_reverse]; exact nodup_rev nd
    rw [hz, putAll_lookup _ _ y nd, putAll_lookup _ _ y ndr, lookup_rev nd]
end
end Mine
end

section
open PySem PySem.W PyProof.Rows PySem.Calls PySem.Spec PySem.SeqAt
set_option Elab.async false
set_option backward.match.sparseCases false
set_option maxRecDepth 100000
namespace Mine
section
variable {prog : Program} {c : FC} {A : Around} {cfg : Cfg} {r : Rc} {x x' x'' : X} {F F' : Part} {g g' : List Addr} {s s' : Shared} {k : Nat} {v w u : Value} {a b d : D} {vs : List Value} {ds : List D} {f : Fl}

/-- a thing of a variable's own changed -/
theorem Rel.storeO {G : GS} {σ σ' : AEnv} {h h' : Heap} {pv : Priv} {m : Str → Option Value} {n : Str} {ad : Addr} {r : Role} (R : Rel c F g G σ h pv m) (p : pv ad = some r) (hr : r = .own n ∨ r = .sub n) (hs : But ad h h') (hl : ∃ o, h'.get? ad = some o)
    (h1 : ∀ y, y ≠ n → σ'.lookup y = σ.lookup y) (hv : ∀ av, σ'.lookup n = some av → VarOk c F g h' pv m n av) : Rel c F g G σ' h' pv m := by
  have tc := R.toCore.touch p hs hl
  have ng : ∀ k, r ≠ .glob k := fun k z => by rcases hr with y | y <;> rw [y] at z <;> cases z
  exact {
    base := tc.base
    sub := tc.sub
    priv := tc.priv
    fresh := tc.fresh
    freshF := tc.freshF
    keep := tc.keep
    lim := tc.lim
    dig := tc.dig
    tab := tc.tab
    notab := tc.notab
    le0 := tc.le0
    ns := hs.ns (priv_ne p R.pL (by rcases hr with y | y <;> rw [y] <;> exact fun z => nomatch z)) R.ns
    pL := R.pL
    vars := fun y b e => by
      by_cases hy : y = n
      · subst hy; exact hv b e
      · rw [h1 y hy] at e
        exact (R.vars y b e).touch R.toCore p (fun z => by rcases hr with q | q <;> rw [q] at z <;> cases z; exact hy rfl) (fun z => by rcases hr with q | q <;> rw [q] at z <;> cases z; exact hy rfl) (fun z => by rcases hr with q | q <;> rw [q] at z <;> cases z) hs fun _ => rfl
    gl := R.gl.touch p ng hs
    glen := R.glen
    pre0 := R.pre0
    pins := R.pins
    tacks := fun b o e => let ⟨pb, q⟩ := R.tacks b o e; ⟨pb, hs b (priv_ne p pb (by rcases hr with y | y <;> rw [y] <;> exact fun z => nomatch z)) o q⟩ }

theorem stored_cons {kvs : List (Str × Value)} {p : Str × Value} {n : Str} (h : p.1 ≠ n) : stored (p :: kvs) n v = p :: stored kvs n v := by
  unfold stored
  have hd : decide (p.1 = n) = false := by simpa using h
  rw [List.any_cons, hd, Bool.false_or]
  split
  · rw [List.map_cons, if_neg h]
  · rfl
theorem stored_none {kvs : List (Str × Value)} {n : Str} (h : n ∉ kvs.map (·.1)) : kvs.map (fun kv => if kv.1 = n then (kv.1, v) else kv) = kvs := by
  induction kvs with
  | nil => rfl
  | cons p kvs ih =>
    simp only [List.map_cons, List.mem_cons, not_or] at h
    rw [List.map_cons, if_neg (fun z => h.1 z.symm), ih h.2]
theorem stored_rep {P : DOb} : ∀ {kvs : List (Str × Value)} {l : List (Str × D)} {n : Str}, (kvs.map (·.1)).Nodup → kvs.map (·.1) = l.map (·.1) → Reps P F g (kvs.map (·.2)) (l.map (·.2)) → Rep P F g v d →
    (stored kvs n v).map (·.1) = (fieldX l n d).map (·.1) ∧ Reps P F g ((stored kvs n v).map (·.2)) ((fieldX l n d).map (·.2))
  | [], [], n, _, _, _, hv => ⟨rfl, .cons hv .nil⟩
  | [], _ :: _, n, _, h, _, _ => nomatch h
  | _ :: _, [], n, _, h, _, _ => nomatch h
  | (k1, v1) :: kvs, (k2, d2) :: l, n, hn, h, r, hv => by
    simp only [List.map_cons, List.cons.injEq] at h
    obtain ⟨rfl, h⟩ := h
    rw [List.map_cons, List.nodup_cons] at hn
    cases r with
    | cons r1 r2 =>
      by_cases hk : k1 = n
      · subst hk
        have e1 : stored ((k1, v1) :: kvs) k1 v = (k1, v) :: kvs := by
          unfold stored
          rw [if_pos (by simp), List.map_cons, if_pos rfl, stored_none hn.1]
        have e2 : fieldX ((k1, d2) :: l) k1 d = (k1, d) :: l := by unfold fieldX; rw [if_pos rfl]
        rw [e1, e2]
        exact ⟨by rw [List.map_cons, List.map_cons, h], .cons hv r2⟩
      · have e2 : fieldX ((k1, d2) :: l) n d = (k1, d2) :: fieldX l n d := by
          show (if k1 = n then _ else _) = _
          rw [if_neg hk]
        rw [stored_cons (p := (k1, v1)) hk, e2]
        obtain ⟨i1, i2⟩ := stored_rep (n := n) hn.2 h r2 hv
        exact ⟨by rw [List.map_cons, List.map_cons, i1], .cons r1 i2⟩

theorem setD_ok {o key : Str} {op ip cp pos : Pos} {kn : Nat} {e : Expr} {l : List (Str × D)} {x1 : X} (hb : (o == ("__debug__" : Str)) = false) (RO : RcOk prog k r) (R : Room A k) (O : CfgX prog k c cfg) (he : plainE e = true)
    (h1 : r.ev cfg x e = some (d, x1)) (hk : cfg.kd o = some .local) (hl : x1.1.lookup o = some (.dic l)) (hz : l.length ≤ 100) :
    Ev prog c A x (exec (.Assign [.Subscript (.Name o op) (.Constant (.str key) kn cp) ip] e pos) c.e) (IsF c .next) (put x1.1 o (.dic (fieldX l key d)), x1.2) := by
  intro F g s S Q E K
  have hk' : c.e.kindOf o = some .local := by rw [O.kd]; exact hk
  refine wpAny_Assign_Subscript (RO.ev c A cfg x e d x1 R O h1 F g s S _ _ fun v F1 g1 s1 S1 T1 r1 => ?_) (swap_plain he)
  obtain ⟨pv, m, R1⟩ := S1.rel
  have q := R1.vars o _ hl
  unfold VarOk at q
  rw [hk'] at q
  obtain ⟨w, hm, ad, ob, kvs, rfl, p, ho, hP, hkeys, rs⟩ := q
  refine wpAny_Name (wpAny_loadName_local O.kind hk' R1.ns hm (Calls.Constant_str ?_)) hb
  have hD := (O.fc.hD ob kvs).mp hP
  have hlen : kvs.length = l.length := by have := congrArg List.length hkeys; simpa using this
  refine wpAny_setItem_pairs (knd := strKind prog c.w) (kvs := kvs) strKind_is (Heap.dictOf_iff.mpr ⟨ob, ho, hD⟩) (fun h' hd hs => ?_) (by rw [hlen]; exact Nat.le_trans hz (by decide +kernel))
  obtain ⟨ob', ho', hD'⟩ := Heap.dictOf_iff.mp hd
  have nd : (kvs.map (·.1)).Nodup := by obtain ⟨_, _, _, _, _, _, z⟩ := hD; exact z
  obtain ⟨e1, e2⟩ := stored_rep (n := key) nd hkeys rs r1
  refine K .next F1 g1 _ ⟨⟨pv, m, ?_⟩, S1.gens⟩ ⟨T1.le, T1.pre, T1.os⟩ trivial
  refine Rel.storeO R1 p (.inl rfl) (.of hs) ⟨ob', ho'⟩ (fun y hy => by rw [put_lookup, if_neg hy]) fun av ea => ?_
  rw [put_lookup, if_pos rfl] at ea
  cases ea
  exact VarOk.loc hk' hm ⟨ad, ob', _, rfl, p, ho', (O.fc.hD _ _).mpr hD', e1, e2⟩
end
end Mine
end

section
open PySem PySem.W PyProof.Rows PySem.Calls PySem.Spec PySem.SeqAt
set_option Elab.async false
set_option backward.match.sparseCases false
set_option maxRecDepth 100000
namespace Mine
section
variable {prog : Program} {c : FC} {A : Around} {cfg : Cfg} {r : Rc} {x x' x'' : X} {F F' : Part} {g g' : List Addr} {s s' : Shared} {k : Nat} {v w u : Value} {a b d : D} {vs : List Value} {ds : List D} {f : Fl}

theorem KN.keys : ∀ {es : List DictEntry} {ks : List Str}, KN es ks → ∀ e ∈ es, e.refKey = false
  | _, _, .nil, e, h => nomatch h
  | _, _, .cons h, e, he => by
    rcases List.mem_cons.mp he with rfl | he
    · rfl
    · exact h.keys e he
theorem KN.len : ∀ {es : List DictEntry} {ks : List Str}, KN es ks → es.length = ks.length
  | _, _, .nil => rfl
  | _, _, .cons h => by simp [h.len]

theorem put_rep {P : DOb} {n : Str} {hs : Int} {tk : Tok} : ∀ {es : List DictEntry} {l : List (Str × D)}, KN es (l.map (·.1)) → Reps P F g (es.map (·.val)) (l.map (·.2)) → Rep P F g v d →
    KN (putL n hs (.str n tk) v es) ((fieldX l n d).map (·.1)) ∧ Reps P F g ((putL n hs (.str n tk) v es).map (·.val)) ((fieldX l n d).map (·.2)) := by
  intro es l
  induction l generalizing es with
  | nil =>
    intro h r hv
    cases h
    exact ⟨.cons .nil, .cons hv .nil⟩
  | cons p l ih =>
    intro h r hv
    obtain ⟨k2, d2⟩ := p
    cases h with
    | cons h =>
      rename_i hh t v1 es
      cases r with
      | cons r1 r2 =>
        by_cases hk : k2 = n
        · subst hk
          have e1 : putL k2 hs (.str k2 tk) v (⟨hh, .str k2 t, v1⟩ :: es) = ⟨hh, .str k2 t, v⟩ :: es := by
            unfold putL
            rw [if_pos (by simp [Value.isStr])]
          have e2 : fieldX ((k2, d2) :: l) k2 d = (k2, d) :: l := by unfold fieldX; rw [if_pos rfl]
          rw [e1, e2]
          exact ⟨.cons h, .cons hv r2⟩
        · have e1 : putL n hs (.str n tk) v (⟨hh, .str k2 t, v1⟩ :: es) = ⟨hh, .str k2 t, v1⟩ :: putL n hs (.str n tk) v es := by
            show (if (Value.str k2 t).isStr n = true then _ else _) = _
            rw [if_neg (by simpa [Value.isStr] using hk)]
          have e2 : fieldX ((k2, d2) :: l) n d = (k2, d2) :: fieldX l n d := by
            show (if k2 = n then _ else _) = _
            rw [if_neg hk]
          rw [e1, e2]
          obtain ⟨i1, i2⟩ := ih h r2 hv
          exact ⟨.cons i1, .cons r1 i2⟩

/-- a field of an object set, the heap told exactly -/
theorem setAttr_exact {K : Frag} {ad dx C : Addr} {es : List DictEntry} {nn : Nat} {n : Str} {Q : Unit → Shared → Prop} {E : Value → Shared → Prop} (X : K.In s.heap) (I : InstAt s.heap ad (instObj C dx) C (some (dictOf es nn)))
    (h1 : findIn K (.ref C) (Mine.S "__setattr__") = some (some (.builtin "object.__setattr__"))) (h2 : plainOver K C = true) (h3 : takerIn K C n = some .none) (h4 : hasDictIn K C = true) (hr : ∀ e ∈ es, e.refKey = false) (hz : es.length ≤ 900)
    (hQ : ∀ hs tk, Q () { s with heap := s.heap.update dx (Obj.putName n hs (.str n tk) v), toks := s.toks + 2 }) : wpAny (model prog c.w) A (setAttr (.ref ad) n v) Q E s := by
  have D : s.heap.get? dx = some (dictOf es nn) := I.dict
  refine set_plain X I h1 ?_
  refine osa_open (s := { s with toks := s.toks + 1 }) X I h2 h3 fun b => ?_
  obtain ⟨cd, hc, hd⟩ := any_some h4
  refine wpAny_bind (wpAny_pure (wpAny_bind (wpAny_bind (wpAny_loadPart I.at_ (wpAny_bind (Looks.here (s := { s with toks := s.toks + 1 }) (looks_clsIn X hc) ?_))))))
  rw [hd]
  refine wpAny_pure (a := some dx) (wpAny_bind (wpAny_pure (wpAny_bind ?_)))
  unfold nsSet
  refine wpAny_bind (wpAny_bind (wpAny_askSetting (wpAny_pure (wpAny_bind (wpAny_mkText (wpAny_bind (wpAny_loadPart D ?_)))))))
  dsimp only
  have nr : es.toArray.any (·.refKey) = false := by
    rw [← Array.any_toList]
    simpa using hr
  rw [aRefKeyMayBeTheName_at, nr, Bool.and_false]
  refine wpAny_updatePart D ?_
  have D' : ∀ hs tk, (s.heap.update dx (Obj.putName n hs (.str n tk) v)).get? dx = some (dictOf (putL n hs (.str n tk) v es) (putN n es nn)) := fun hs tk => by
    rw [← putName_dict]
    exact Heap.get?_update_self _ D (by rw [putName_dict]; rfl)
  have lz : ∀ hs tk (es : List DictEntry), (putL n hs (.str n tk) v es).length ≤ es.length + 1 := by
    intro hs tk es
    induction es with
    | nil => exact Nat.le_refl _
    | cons e es ih =>
      unfold putL
      split
      · simp
      · simpa using ih
  refine wpAny_bind (wpAny_lookBehind (D' _ _) (pastItsLine_dict (by
    rw [List.size_toArray, sizeLine_eq]
    exact Nat.le_trans (lz _ _ _) (by omega))) ?_)
  exact wpAny_pure (hQ _ _)

theorem setA_ok {o n : Str} {op ap pos : Pos} {e : Expr} {C : Addr} {fs : List (Str × D)} {x1 : X} (hb : (o == ("__debug__" : Str)) = false) (RO : RcOk prog k r) (R : Room A k) (O : CfgX prog k c cfg) (he : plainE e = true)
    (h1 : r.ev cfg x e = some (d, x1)) (hk : cfg.kd o = some .local) (hl : x1.1.lookup o = some (.ins C fs)) (hz : fs.length ≤ 100) (hs : cfg.sat C n = true) :
    Ev prog c A x (exec (.Assign [.Attribute (.Name o op) n ap] e pos) c.e) (IsF c .next) (put x1.1 o (.ins C (fieldX fs n d)), x1.2) := by
  intro F g s S Q E K
  have hk' : c.e.kindOf o = some .local := by rw [O.kd]; exact hk
  refine plainObj_wpAny_Assign_Attribute (RO.ev c A cfg x e d x1 R O h1 F g s S _ _ fun v F1 g1 s1 S1 T1 r1 => ?_) (swap_plain he)
  obtain ⟨pv, m, R1⟩ := S1.rel
  have q := R1.vars o _ hl
  unfold VarOk at q
  rw [hk'] at q
  obtain ⟨w, hm, ad, dx, es, nn, rfl, p, ho, p2, ho2, kn, rs⟩ := q
  refine wpAny_Name (wpAny_loadName_local O.kind hk' R1.ns hm ?_) hb
  obtain ⟨s1', s2', s3', s4'⟩ := O.sat C n hs
  have hlen : es.length = fs.length := by have := kn.len; simpa using this
  refine setAttr_exact (S1.inK O.fc) ⟨ho, rfl, rfl, ho2⟩ s1' s2' s3' s4' kn.keys (by omega) fun hsh tk => ?_
  refine K .next F1 g1 _ ⟨⟨pv, m, ?_⟩, S1.gens⟩ ⟨T1.le, T1.pre, T1.os⟩ trivial
  have D' : (s1.heap.update dx (Obj.putName n hsh (.str n tk) v)).get? dx = some (dictOf (putL n hsh (.str n tk) v es) (putN n es nn)) := by
    rw [← putName_dict]
    exact Heap.get?_update_self _ ho2 (by rw [putName_dict]; rfl)
  have bt : But dx s1.heap (s1.heap.update dx (Obj.putName n hsh (.str n tk) v)) := .of (Heap.SameBut.update ..)
  refine Rel.storeO R1 p2 (.inr rfl) bt ⟨_, D'⟩ (fun y hy => by rw [put_lookup, if_neg hy]) fun av ea => ?_
  rw [put_lookup, if_pos rfl] at ea
  cases ea
  obtain ⟨i1, i2⟩ := put_rep (n := n) (hs := hsh) (tk := tk) kn rs r1
  exact VarOk.loc hk' hm ⟨ad, dx, _, _, rfl, p, bt ad (priv_ne p2 p fun z => nomatch z) _ ho, p2, D', i1, i2⟩
end
end Mine
end

section
open PySem PySem.W PyProof.Rows PySem.Calls PySem.Spec PySem.SeqAt
set_option Elab.async false
set_option backward.match.sparseCases false
set_option maxRecDepth 100000
namespace Mine
section
variable {prog : Program} {c : FC} {A : Around} {cfg : Cfg} {r : Rc} {x x' x'' : X} {F F' : Part} {g g' : List Addr} {s s' : Shared} {k : Nat} {v w u : Value} {a b d : D} {vs : List Value} {ds : List D} {f : Fl}

theorem pairs_ok (RO : RcOk prog k r) (R : Room A k) (O : CfgX prog k c cfg) {pos : Pos} : ∀ (ks : List (Option Expr)) (es : List Expr) (ns : List Str) (x x' : X) (ds : List D), ks.mapM keyOf = some ns → evs (r.ev cfg) x es = some (ds, x') → ks.length = es.length →
    Ev prog c A x (evalPairs (pairTrees ks es c.e pos)) (fun F g vs => ∃ kvs, Carries (strKind prog c.w) vs kvs ∧ kvs.map (·.1) = ns ∧ Reps c.DO F g (kvs.map (·.2)) ds) x'
  | [], [], ns, x, x', ds, hk, h, _ => by
    cases h
    simp at hk
    subst hk
    exact fun F g s S Q E K => pairTrees_nil_walk (K [] F g s S (.refl F g s) ⟨[], trivial, rfl, .nil⟩)
  | [], _ :: _, _, _, _, _, _, _, hl => nomatch hl
  | _ :: _, [], _, _, _, _, _, _, hl => nomatch hl
  | kx :: ks, e :: es, ns, x, x', ds, hk, h, hl => by
    obtain ⟨n, ns', h1, h2, rfl⟩ := mapM_cons_some hk
    refine bnd h fun p h3 h => bnd h1 fun kk hk1 hk2 => mpx (P := fun ds x' => Ev prog c A x _ (fun F g vs => ∃ kvs, Carries (strKind prog c.w) vs kvs ∧ kvs.map (·.1) = (n :: ns') ∧ Reps c.DO F g (kvs.map (·.2)) ds) x') h fun q h4 => ?_
    obtain ⟨k0, p0, rfl⟩ := strOf_ok hk2
    rw [hk1]
    intro F g s S Q E K
    refine pairTrees_cons_walk (Calls.Constant_str ?_)
    refine RO.ev c A cfg x e p.1 p.2 R O h3 F g _ (S.toks _) _ _ fun v F1 g1 s1 S1 T1 r1 => ?_
    refine pairs_ok RO R O ks es ns' p.2 q.2 q.1 h2 h4 (Nat.succ.inj hl) F1 g1 s1 S1 _ _ fun vs F2 g2 s2 S2 T2 ⟨kvs, c1, c2, c3⟩ => ?_
    exact K _ F2 g2 s2 S2 ⟨T1.le.trans T2.le, T1.pre.trans T2.pre, T2.os.trans T1.os⟩ ⟨(n, v) :: kvs, ⟨strKind_is, rfl, c1⟩, by rw [List.map_cons, c2], .cons (Rep.mono T2.le T2.pre r1) c3⟩

theorem isDict_empty {w : World} : (emptyDict : Obj).IsDictOf (strKind prog w) [] := ⟨#[], 0, ⟨rfl, rfl, rfl⟩, rfl, fun e he => by simp at he, .nil, List.nodup_nil⟩

theorem dict_core {ks : List (Option Expr)} {es : List Expr} {ns : List Str} {pos : Pos} (RO : RcOk prog k r) (R : Room A k) (O : CfgX prog k c cfg) (hk : ks.mapM keyOf = some ns) (h : evs (r.ev cfg) x es = some (ds, x')) (hl : ks.length = es.length) (h0 : ks ≠ []) (h15 : ks.length ≤ 15) (hnd : ns.Nodup)
    (S : St c x F g s) (Q : Value → Shared → Prop) (E : Value → Shared → Prop)
    (K : ∀ ad ob kvs F1 g1 s1, St (c.tk ((ad, ob) :: c.T)) x' F1 g1 s1 → (∀ p ∈ c.T, p.1 ≠ ad) → To F g s F1 g1 s1 → c.DO ob kvs → kvs.map (·.1) = (ns.zip ds).map (·.1) → Reps c.DO F1 g1 (kvs.map (·.2)) ((ns.zip ds).map (·.2)) → Q (.ref ad) s1) :
    wpAny (model prog c.w) A (eval (.Dict ks es pos) c.e) Q E s := by
  obtain ⟨S1, hT⟩ := S.tackNew (o := emptyDict) (tk := s.toks) rfl
  have hall : ks.all (·.isSome) = true := by
    clear h hl h0 h15 hnd K
    induction ks generalizing ns with
    | nil => rfl
    | cons q ks ih =>
      obtain ⟨n, ns', h1, h2, rfl⟩ := mapM_cons_some hk
      rw [List.all_cons, ih h2, Bool.and_true]
      cases q with
      | none => cases h1
      | some _ => rfl
  refine wpAny_Dict_walk (knd := strKind prog c.w) hall hl h0 h15 ?_
  refine pairs_ok (c := c.tk ((s.heap.objs.size, emptyDict) :: c.T)) RO R (O.tk _) ks es ns x x' ds hk h hl F g _ S1 _ _ fun vs F1 g1 s1 S2 T2 ⟨kvs, c1, c2, c3⟩ => ?_
  refine ⟨kvs, c1, Heap.dictOf_iff.mpr ⟨_, S2.tackAt, isDict_empty⟩, fun h' hd hs => ?_⟩
  rw [merged_nil_of_nodup kvs (by rw [c2]; exact hnd)] at hd
  obtain ⟨ob, ho, hD⟩ := Heap.dictOf_iff.mp hd
  obtain ⟨pv, m, R2⟩ := S2.rel
  have R3 := Rel.tackSet R2 (o' := ob) (.of hs) ho hT
  have lz : ns.length = ds.length := by
    have e1 := congrArg List.length c2
    have e2 := c3.len
    simp only [List.length_map] at e1 e2
    omega
  refine K _ ob kvs F1 g1 _ ⟨⟨pv, m, R3⟩, S2.gens⟩ hT ⟨T2.le, T2.pre, T2.os⟩ ((O.fc.hD ob kvs).mpr hD) ?_ ?_
  · rw [c2, List.map_fst_zip (by omega)]
  · rw [List.map_snd_zip (by omega)]; exact c3

theorem freezeT {ad : Addr} {ob : Obj} {T : List (Addr × Obj)} (S : St (c.tk ((ad, ob) :: T)) x F g s) (hT : ∀ p ∈ T, p.1 ≠ ad) : St (c.tk T) x (F.set ad ob) g s ∧ Part.le F (F.set ad ob) ∧ (ad == sysModules) = false := by
  obtain ⟨pv, m, R⟩ := S.rel
  obtain ⟨p, e⟩ := R.tacks ad ob (.head _)
  have le : Part.le F (F.set ad ob) := Part.le_set (R.priv ad _ p).1
  refine ⟨⟨⟨pv.drop ad, m, ?_⟩, S.gens⟩, le, R.nosys p⟩
  have := R.freezeG (T := T) (σ' := x.1) p (fun _ z => nomatch z) (fun z => nomatch z) e (fun b o hb => ⟨.tail _ hb, hT _ hb⟩) fun y av ey =>
    VarOk.step le (.refl g) (fun b rb pb z => ⟨(if_neg (priv_ne p pb (by rcases z with z | z | z <;> subst z <;> exact fun y => nomatch y))).trans pb, fun _ e => e⟩) (fun _ _ _ e => e) (fun _ => rfl) (R.vars y av ey)
  exact this

theorem dict_ok {ks : List (Option Expr)} {es : List Expr} {pos : Pos} (RO : RcOk prog k r) (R : Room A k) (O : CfgX prog k c cfg) (h : stepE r cfg x (.Dict ks es pos) = some (d, x')) : Ev prog c A x (eval (.Dict ks es pos) c.e) (IsD c d) x' := by
  refine bnd h fun q h1 h => bnd h fun ns hk h => bt h fun hc h => smx (P := fun d x' => Ev prog c A x _ (IsD c d) x') h ?_
  refine and_t hc fun hc h15 => and_t hc fun hl hnd => ?_
  have hl := eq_of_beq hl
  intro F g s S Q E K
  cases ks with
  | nil =>
    cases es with
    | nil =>
      cases hk
      refine wpAny_Dict_empty (K _ (F.set s.heap.objs.size emptyDict) g _ ?_ ⟨S.le_push _, .refl g, rfl⟩ ?_)
      · have h3 : q.2 = x := (congrArg Prod.snd (Option.some.inj h1)).symm
        rw [h3]
        exact S.push (o := emptyDict) (tk := s.toks) rfl
      · obtain ⟨pv, m, R0⟩ := S.rel
        have ns : (s.heap.objs.size == sysModules) = false := by
          have h1 := R0.hsize
          have h2 := statics_lt c
          have : s.heap.objs.size ≠ sysModules := fun z => by rw [z] at h1; exact absurd (Nat.lt_of_lt_of_le h2 h1) (by decide)
          simpa using this
        exact .dic (kvs := []) (Part.set_self F _ _) ((O.fc.hD _ _).mpr isDict_empty) ns rfl .nil
    | cons e es => exact nomatch hl
  | cons kq ks =>
    refine dict_core RO R O hk h1 hl (fun z => nomatch z) (of_decide_eq_true h15) (of_decide_eq_true hnd) S Q E fun ad ob kvs F1 g1 s1 S1 hT T1 hP hkeys rs => ?_
    obtain ⟨S2, le, ny⟩ := freezeT S1 hT
    exact K _ _ g1 s1 S2 (T1.trans ⟨le, .refl g1, rfl⟩) (.dic (Part.set_self F1 ad ob) hP ny hkeys (Reps.mono le (.refl g1) rs))

theorem assignD_ok {n : Str} {np pos : Pos} {e : Expr} {l : List (Str × D)} {x1 : X} (hpin : c.pins = []) (RO : RcOk prog k r) (R : Room A k) (O : CfgX prog k c cfg) (hk : cfg.kd n = some .local) (hd : dicE e = true) (h : stepE r cfg x e = some (.dic l, x1)) :
    Ev prog c A x (exec (.Assign [.Name n np] e pos) c.e) (IsF c .next) (put x1.1 n (.dic l), x1.2) := by
  cases e with
  | Dict ks es p =>
    have h0 : ks ≠ [] := fun z => by rw [z] at hd; exact Bool.noConfusion hd
    refine bnd h fun q h1 h => bnd h fun ns hks h => bt h fun hc h => smx (P := fun d x1 => ∀ l, d = .dic l → Ev prog c A x _ (IsF c .next) (put x1.1 n (.dic l), x1.2)) h (fun l hl => ?_) l rfl
    cases hl
    refine and_t hc fun hc h15 => and_t hc fun hl hnd => ?_
    have hk' : c.e.kindOf n = some .local := by rw [O.kd]; exact hk
    intro F g s S Q E K
    refine wpAny_Assign_Name (dict_core RO R O hks h1 (eq_of_beq hl) h0 (of_decide_eq_true h15) (of_decide_eq_true hnd) S _ _ fun ad ob kvs F1 g1 s1 S1 hT T1 hP hkeys rs => ?_) rfl
    obtain ⟨pv, m, R1⟩ := S1.rel
    obtain ⟨tp, e⟩ := R1.tacks ad ob (.head _)
    have R2 := Rel.retag (T := c.T) (σ' := q.2.1) (r' := .own n) R1 tp (fun z => nomatch z) (fun _ z => nomatch z) (fun _ z => nomatch z) (fun q hq => .inl ⟨.tail _ hq, hT q hq⟩) (fun y av ey =>
      VarOk.step (.refl F1) (.refl g1) (fun b rb pb z => ⟨(if_neg (priv_ne tp pb (by rcases z with z | z | z <;> subst z <;> exact fun y => nomatch y))).trans pb, fun _ e => e⟩) (fun _ _ _ e => e) (fun _ => rfl) (R1.vars y av ey))
    have R3 : Rel c F1 g1 q.2.2 q.2.1 s1.heap (pv.claim ad (.own n)) m := R2
    exact wpAny_storeName_local hk' R3.ns (fun h' hn hs => K .next F1 g1 _ ⟨⟨_, _, R3.storeL hpin hk' (av := .dic _) ⟨ad, ob, kvs, rfl, if_pos rfl, e, hP, hkeys, rs⟩ hn hs⟩, S1.gens⟩ ⟨T1.le, T1.pre, T1.os⟩ trivial) (by rw [O.kind]; rfl)
  | _ => exact Bool.noConfusion hd
end
end Mine
end

section
open PySem PySem.W PyProof.Rows PySem.Calls PySem.Spec PySem.SeqAt
set_option Elab.async false
set_option backward.match.sparseCases false
set_option maxRecDepth 100000
namespace Mine
section
variable {prog : Program} {c : FC} {A : Around} {cfg : Cfg} {r : Rc} {x x' x'' : X} {F F' : Part} {g g' : List Addr} {s s' : Shared} {k : Nat} {v w u : Value} {a b d : D} {vs : List Value} {ds : List D} {f : Fl}

/-- the cells that a comprehension is handed -/
noncomputable def closL (cells : List (Str × Addr)) : List (Str × NameKind) → List (Str × Addr) → Option (List (Str × Addr))
  | [], acc => some acc
  | (n, k) :: r, acc => if k == .free then (match cells.lookup n with | some a => closL cells r ((n, a) :: acc) | .none => .none) else closL cells r acc

theorem clos_in {env : Env} {cl : List (Str × Addr)} (p : Str × NameKind → List (Str × Addr) → Sem (ForInStep (List (Str × Addr))))
    (hp : ∀ n kd acc, p (n, kd) acc = if (kd == NameKind.free) = true then cellOf env n >>= fun a => pure (.yield ((n, a) :: acc)) else pure (.yield acc)) :
    ∀ (ns : List (Str × NameKind)) (acc : List (Str × Addr)), closL env.cells ns acc = some cl → (forIn ns acc p : Sem (List (Str × Addr))) = pure cl
  | [], acc, h => by cases h; rfl
  | (n, kd) :: ns, acc, h => by
    unfold closL at h
    rw [List.forIn_cons, hp]
    split at h
    · rename_i hk
      split at h
      · rename_i a ha
        have e : cellOf env n = pure a := by unfold cellOf; rw [ha]
        rw [if_pos hk, e, pure_bind, pure_bind]
        exact clos_in p hp ns _ h
      · cases h
    · rename_i hk
      rw [if_neg hk, pure_bind]
      exact clos_in p hp ns _ h
theorem clos_ok {scope : Scope} {env : Env} {cl : List (Str × Addr)} (h : closL env.cells scope.names [] = some cl) : closureFor scope env = pure cl := by
  unfold closureFor
  have key := clos_in (env := env) (cl := cl) (fun (x : Str × NameKind) (cs : List (Str × Addr)) => match x with
    | (name, kind) => if (kind == NameKind.free) = true then (do let a ← cellOf env name; pure (ForInStep.yield ((name, a) :: cs))) else pure (ForInStep.yield cs)) (fun n kd acc => rfl) scope.names [] h
  dsimp only
  refine Eq.trans (congrArg (fun t => t >>= fun __s => (pure __s : Sem (List (Str × Addr)))) ?_) (pure_bind cl _)
  exact key
end
end Mine
end

section
open PySem PySem.W PyProof.Rows PySem.Calls PySem.Spec PySem.SeqAt
set_option Elab.async false
set_option backward.match.sparseCases false
set_option maxRecDepth 100000
namespace Mine
section
variable {prog : Program} {c : FC} {A : Around} {cfg : Cfg} {r : Rc} {x x' x'' : X} {F F' : Part} {g g' : List Addr} {s s' : Shared} {k : Nat} {v w u : Value} {a b d : D} {vs : List Value} {ds : List D} {f : Fl}

theorem comp_loop {w : World} {elt target iter : Expr} {scope : Scope} {pos : Pos} {it acc : Value} {env : Env} {R : Result → Shared → Prop} (Inv : Nat → Shared → Prop)
    (turn : ∀ n s, Inv n s → wpAny (model prog w) A (pyNext it) (fun r s₁ => match r with
      | none => R (.ok .next) s₁
      | some v => wpAny (model prog w) A (letOwnedTupleGo target it v) (fun _ s₁' => wpAny (model prog w) A (assign target env v) (fun _ s₂ => wpAny (model prog w) A (eval elt env) (fun x s₃ =>
          wpAny (model prog w) A (call (.builtin "list.append") [acc, x]) (fun _ s₄ => ∃ m, m < n ∧ Inv m s₄) (notedBy (model prog w) A env fun e s' => R (.error e) s') s₃)
          (notedBy (model prog w) A env fun e s' => R (.error e) s') s₂) (notedBy (model prog w) A env fun e s' => R (.error e) s') s₁') (notedBy (model prog w) A env fun e s' => R (.error e) s') s₁) (notedBy (model prog w) A env fun e s' => R (.error e) s') s)
    (n : Nat) (h : Inv n s) : codeAny (model prog w) A (.compLoop (.ListComp elt [⟨target, iter, [], 0⟩] scope pos) 0 it acc env) R s := by
  refine codeAny_loop rfl Inv (fun n s hI => ?_) n h
  show wpAny _ _ ((compTurn (.ListComp elt [⟨target, iter, [], 0⟩] scope pos) 0 it acc env).onRaise (fun x => do noteFrame x env; theTreesLotGoes x)) _ _ s
  refine wpAny_noted ?_
  rw [compTurn_list1]
  refine wpAny_bind (wpAny_standAt (wpAny_bind (wpAny_mono (turn n s hI) (fun r s₁ h₁ => ?_) fun _ _ h' => h')))
  cases r with
  | none => exact wpAny_pure h₁
  | some v =>
    exact wpAny_bind (wpAny_mono h₁ (fun _ s₁' h₁' => wpAny_bind (wpAny_mono h₁' (fun _ s₂ h₂ => wpAny_bind (wpAny_bind (wpAny_mono h₂ (fun x s₃ h₃ => wpAny_bind (wpAny_mono h₃
      (fun _ s₄ h₄ => wpAny_pure (wpAny_pure ⟨rfl, h₄⟩)) fun _ _ h' => h')) fun _ _ h' => h'))) fun _ _ h' => h')) fun _ _ h' => h')

theorem append_exact {w : World} {l : Addr} {items : Array Value} {n : Nat} {y : Value} {Q : Value → Shared → Prop} {E : Value → Shared → Prop} (ha : s.heap.get? l = some ⟨.type "list", .none, .seq items n, #[]⟩) (hz : items.size ≤ sizeLine)
    (h : Q .none { s with heap := s.heap.update l (Obj.mapSeq fun xs => xs.push y) }) : wpAny (model prog w) A (call (.builtin "list.append") [.ref l, y]) Q E s :=
  call_meets PySem.F.slot_list_append ⟨_, ha, rfl⟩ PySem.F.entry_list_append (PySem.F.args_list_append_2 _ _) (PySem.list_append l items n y hz) ⟨ha, h⟩


set_option backward.match.sparseCases true in
theorem go_ok {w : World} {t : Expr} {I : Addr} {o : Obj} {T : String} {Q : Unit → Shared → Prop} {E : Value → Shared → Prop} (hI : s.heap.get? I = some o) (hT : o.cls = .type T) (hm : T ∈ itNames) (h : Q () s) : wpAny (model prog w) A (letOwnedTupleGo t (.ref I) v) Q E s := by
  unfold letOwnedTupleGo
  have key : ∀ (ad : Addr), wpAny (model prog w) A (do
      let o ← load I
      match o.cls, o.data with
      | .type n, .fields vs =>
        if (["enumerate", "zip", "dict_itemiterator", "dict_reverseitemiterator", "odict_iterator", "itertools.zip_longest", "itertools.pairwise"].contains n && vs[0]? == some (rawInt ad)) = true then (do
          rule "for.unpacks-the-owned-tuple"
          updateField I 0 .none)
        else pure ()
      | _, _ => pure ()) Q E s := by
    intro ad
    refine wpAny_bind (wpAny_load hI ?_)
    rw [hT]
    have hn : ["enumerate", "zip", "dict_itemiterator", "dict_reverseitemiterator", "odict_iterator", "itertools.zip_longest", "itertools.pairwise"].contains T = false := by
      simp only [itNames, List.mem_cons, List.not_mem_nil, or_false] at hm
      rcases hm with rfl | rfl | rfl | rfl <;> decide
    cases o.data <;> first | exact wpAny_pure h | skip
    dsimp only
    rw [hn, Bool.false_and, if_neg (by decide)]
    exact wpAny_pure h
  cases t <;> first | exact wpAny_pure h | skip
  all_goals (cases v <;> first | exact wpAny_pure h | exact key _)
end
end Mine
end

section
open PySem PySem.W PyProof.Rows PySem.Calls PySem.Spec PySem.SeqAt
set_option Elab.async false
set_option backward.match.sparseCases false
set_option maxRecDepth 100000
namespace Mine
section
variable {prog : Program} {c : FC} {A : Around} {cfg : Cfg} {r : Rc} {x x' x'' : X} {F F' : Part} {g g' : List Addr} {s s' : Shared} {k : Nat} {v w u : Value} {a b d : D} {vs : List Value} {ds : List D} {f : Fl}

noncomputable abbrev lsO (vs : List Value) (n : Nat) : Obj := ⟨.type "list", .none, .seq (List.toArray vs) n, #[]⟩

theorem swap_mem {α : Type} {a b : α} {T : List α} {p : α} (h : p ∈ b :: a :: T) : p ∈ a :: b :: T := by
  rcases List.mem_cons.mp h with rfl | h
  · exact .tail _ (.head _)
  · rcases List.mem_cons.mp h with rfl | h
    · exact .head _
    · exact .tail _ (.tail _ h)
theorem St.pushed {I acc : Addr} {o2 : Obj} {T : List (Addr × Obj)} {nn : Nat} (S : St (c.tk ((I, o2) :: (acc, lsO vs nn) :: T)) x F g s) (hIa : I ≠ acc) (hT : ∀ p ∈ T, p.1 ≠ I ∧ p.1 ≠ acc) (y : Value) :
    s.heap.get? acc = some (lsO vs nn) ∧ St (c.tk ((I, o2) :: (acc, lsO (vs ++ [y]) (if ((List.toArray vs).push y).size == (List.toArray vs).size then nn else nn + 1)) :: T)) x F g { s with heap := s.heap.update acc (Obj.mapSeq fun xs => xs.push y) } := by
  obtain ⟨pv, m, R⟩ := S.rel
  have ha : s.heap.get? acc = some (lsO vs nn) := (R.tacks acc _ (.tail _ (.head _))).2
  have up := IsL.update (l := acc) (items := List.toArray vs) (n := nn) ha fun xs => xs.push y
  have up' : (s.heap.update acc (Obj.mapSeq fun xs => xs.push y)).get? acc = some (lsO (vs ++ [y]) (if ((List.toArray vs).push y).size == (List.toArray vs).size then nn else nn + 1)) := by rw [up, List.push_toArray]
  have R5 := Rel.tackSet (Rel.tackFree R (T := (acc, lsO vs nn) :: (I, o2) :: T) fun p hp => swap_mem hp) (.of (Heap.SameBut.update ..)) up' fun p hp => by
    rcases List.mem_cons.mp hp with rfl | hp
    · exact hIa
    · exact (hT p hp).2
  exact ⟨ha, ⟨pv, m, R5.tackFree fun p hp => swap_mem hp⟩, S.gens⟩
theorem comp_ok {t elt iter : Expr} {scope : Scope} {pos : Pos} {R' : Result → Shared → Prop} {I acc : Addr} {fp : List Addr} {P : Nat → Value → Prop} {W : Nat → Heap → Prop} {T : List (Addr × Obj)} {res : List D} (hpin : c.pins = []) (RO : RcOk prog k r) (R : Room A k) (O : CfgX prog k c cfg)
    (Dr : Drawn prog c A F g I ds fp P W) (hIa : I ≠ acc) (hT : ∀ p ∈ T, p.1 ≠ I ∧ p.1 ≠ acc) (hz : ds.length ≤ 1000000)
    (K : ∀ vs n F' g' s', St (c.tk ((acc, lsO vs n) :: T)) x' F' g' s' → To F g s F' g' s' → Reps c.DO F' g' vs res → R' (.ok .next) s') :
    ∀ (n i : Nat) (x1 : X) (F1 : Part) (g1 : List Addr) (s1 : Shared) (o : Obj) (vs : List Value) (nn : Nat) (done rest : List D), i + n = ds.length → done.length = i → St (c.tk ((I, o) :: (acc, lsO vs nn) :: T)) x1 F1 g1 s1 → W i s1.heap → To F g s F1 g1 s1 → Reps c.DO F1 g1 vs done →
      compX (r.ev cfg) cfg t elt x1 (ds.drop i) = some (rest, x') → res = done ++ rest → codeAny (model prog c.w) A (.compLoop (.ListComp elt [⟨t, iter, [], 0⟩] scope pos) 0 (.ref I) (.ref acc) c.e) R' s1 := by
  intro n0 i0 x0 F0 g0 s0 o0 vs0 nn0 done0 rest0 hn0 hd0 S0 W0 T0 r0 f0 e0
  refine comp_loop (fun n s1 => ∃ i x1 F1 g1 o vs nn done rest, i + n = ds.length ∧ done.length = i ∧ St (c.tk ((I, o) :: (acc, lsO vs nn) :: T)) x1 F1 g1 s1 ∧ W i s1.heap ∧ To F g s F1 g1 s1 ∧ Reps c.DO F1 g1 vs done ∧
      compX (r.ev cfg) cfg t elt x1 (ds.drop i) = some (rest, x') ∧ res = done ++ rest) ?_ n0 ⟨i0, x0, F0, g0, o0, vs0, nn0, done0, rest0, hn0, hd0, S0, W0, T0, r0, f0, e0⟩
  rintro n s1 ⟨i, x1, F1, g1, o, vs, nn, done, rest, hn, hdn, S1, W1, T1, rs, hf, hres⟩
  have hTI : ∀ p ∈ (acc, lsO vs nn) :: T, p.1 ≠ I := fun p hp => by
    rcases List.mem_cons.mp hp with rfl | hp
    · exact fun z => hIa z.symm
    · exact (hT p hp).1
  cases n with
  | zero =>
    have hi : i = ds.length := by omega
    rw [hi, List.drop_length] at hf
    rw [hi] at W1
    cases hf
    refine Dr.walks.done s1 _ _ W1 fun h' tk hk => ?_
    obtain ⟨pv, m, Rr⟩ := S1.rel
    obtain ⟨pv', R2⟩ := Rel.lose Rr hTI (h' := h') fun b n o e => hk b o (by simpa using n) e
    exact K vs nn F1 g1 _ ⟨⟨pv', m, R2⟩, S1.gens⟩ ⟨T1.le, T1.pre, T1.os⟩ (by rw [hres, List.append_nil]; exact rs)
  | succ n =>
    have hi : i < ds.length := by omega
    refine Dr.walks.item i s1 _ _ hi W1 fun v h' tk hv W2 hk => ?_
    obtain ⟨pv, m, Rr⟩ := S1.rel
    obtain ⟨o2, T2, l1, l2, l3⟩ := Dr.live _ _ W2
    have R2 := Rel.tackSet Rr (o' := o2) (h' := h') (fun b n o e => hk b o (by simpa using n) e) l1 hTI
    have S2 : St (c.tk ((I, o2) :: (acc, lsO vs nn) :: T)) x1 F1 g1 { s1 with heap := h', toks := tk } := ⟨⟨pv, m, R2⟩, S1.gens⟩
    obtain ⟨dd, hd, rd⟩ := Dr.rep i v hv
    have rd' := Rep.mono T1.le T1.pre rd
    rw [List.drop_eq_getElem_cons hi] at hf
    have hdd : ds[i] = dd := by rw [List.getElem?_eq_getElem hi] at hd; cases hd; rfl
    rw [hdd] at hf
    refine go_ok (s := { s1 with heap := h', toks := tk }) l1 l2 l3 ?_
    refine bnd hf fun x2 h2 hf => bnd hf fun p h3 hf => ?_
    obtain ⟨q, h4, e⟩ := Option.map_eq_some_iff.mp hf
    have e1 : p.1 :: q.1 = rest := congrArg Prod.fst e
    have e2 : q = (q.1, x') := congrArg (Prod.mk q.1) (congrArg Prod.snd e)
    refine targ_ok (c := c.tk ((I, o2) :: (acc, lsO vs nn) :: T)) (A := A) hpin R (O.tk _).toCfgOk h2 S2 rd' _ _ fun _ F3 g3 s3 S3 T3 _ => ?_
    refine RO.ev (c.tk ((I, o2) :: (acc, lsO vs nn) :: T)) A cfg x2 elt p.1 p.2 R (O.tk _) h3 F3 g3 s3 S3 _ _ fun y F4 g4 s4 S4 T4 r4 => ?_
    have T14 : To F g s F4 g4 s4 := ⟨(T1.le.trans T3.le).trans T4.le, (T1.pre.trans T3.pre).trans T4.pre, (T4.os.trans T3.os).trans T1.os⟩
    obtain ⟨ha, S6⟩ := S4.pushed hIa hT y
    refine append_exact ha (by rw [List.size_toArray, rs.len, hdn]; exact Nat.le_trans (Nat.le_of_lt hi) (Nat.le_trans hz (by decide +kernel))) ?_
    refine ⟨n, Nat.lt_succ_self n, i + 1, p.2, F4, g4, o2, _, _, done ++ [p.1], q.1, (Nat.succ_add_eq_add_succ i n).trans hn, by rw [List.length_append, hdn]; rfl, S6, ?_, ⟨T14.le, T14.pre, T14.os⟩, (Reps.mono (T3.le.trans T4.le) (T3.pre.trans T4.pre) rs).snoc r4, h4.trans (congrArg some e2), by rw [hres, ← e1, List.append_assoc]; rfl⟩
    refine Dr.walks.frame _ _ _ W2 fun b hb o e => ?_
    rcases Dr.fps b hb with rfl | ⟨ob, hb⟩
    · rw [show h'.get? b = some o2 from l1] at e
      cases e
      exact S6.tackAt
    · have e1 := S2.sub b ob (T1.le _ _ hb)
      rw [show h'.get? b = some o from e] at e1
      cases e1
      exact S6.sub b o (T14.le _ _ hb)
end
end Mine
end

section
open PySem PySem.W PyProof.Rows PySem.Calls PySem.Spec PySem.SeqAt
set_option Elab.async false
set_option backward.match.sparseCases false
set_option maxRecDepth 100000
namespace Mine
section
variable {prog : Program} {c : FC} {A : Around} {cfg : Cfg} {r : Rc} {x x' x'' : X} {F F' : Part} {g g' : List Addr} {s s' : Shared} {k : Nat} {v w u : Value} {a b d : D} {vs : List Value} {ds : List D} {f : Fl}

theorem exs_ok {step : X → Stmt → Option (Fl × X)} (hs : ∀ st x f x', step x st = some (f, x') → Ev prog c A x (exec st c.e) (IsF c f) x') : ∀ (ss : List Stmt) (x : X) (f : Fl) (x' : X), exs step x ss = some (f, x') → Ev prog c A x (execs ss c.e) (IsF c f) x'
  | [], x, f, x', h => by
    cases h
    exact fun F g s S Q E K => wpAny_execs_nil (K .next F g s S (.refl F g s) trivial)
  | st :: ss, x, f, x', h => by
    intro F g s S Q E K
    refine bnd h fun p h1 h => ?_
    obtain ⟨f1, x1⟩ := p
    refine wpAny_execs_cons (hs st x f1 x1 h1 F g s S _ _ fun fl F1 g1 s1 S1 T1 q => ?_)
    cases f1 with
    | next => cases fl with
      | next => exact exs_ok hs ss x1 f x' h F1 g1 s1 S1 Q E fun v F2 g2 s2 S2 T2 q2 => K v F2 g2 s2 S2 (T1.trans T2) q2
      | _ => exact q.elim
    | ret d => cases fl with
      | ret v => cases h; exact K (.ret v) F1 g1 s1 S1 T1 q
      | _ => exact q.elim

theorem wh_ok {t : Expr} {b : List Stmt} {n : Nat} (hpin : c.pins = []) (R : Room A k) (O : CfgX prog k c cfg) (ih : ∀ m, m < n → RcOk prog k (rc m)) (h : (rc n).wh cfg x t b = some (f, x')) (S : St c x F g s) (R' : Result → Shared → Prop)
    (K : ∀ v F' g' s', St c x' F' g' s' → To F g s F' g' s' → FlRep c F' g' v f → R' (.ok v) s') : codeAny (model prog c.w) A (.whileLoop t b [] c.e) R' s := by
  refine codeAny_whileLoop (fun m s1 => m ≤ n ∧ ∃ x1 F1 g1, St c x1 F1 g1 s1 ∧ To F g s F1 g1 s1 ∧ (rc m).wh cfg x1 t b = some (f, x')) ?_ n ⟨Nat.le_refl _, x, F, g, S, .refl F g s, h⟩
  rintro m s1 ⟨hm, x1, F1, g1, S1, T1, h1⟩
  cases m with
  | zero => cases h1
  | succ m =>
    have RO := ih m (by omega)
    change whX (rc m) cfg x1 t b = some (f, x') at h1
    refine bnd h1 fun p h2 h1 => ?_
    obtain ⟨b0, x2⟩ := p
    refine RO.tr c A cfg x1 t b0 x2 R O h2 F1 g1 s1 S1 _ _ fun bb F2 g2 s2 S2 T2 p => ?_
    subst p
    cases bb with
    | true =>
      refine bnd h1 fun q h3 h1 => ?_
      obtain ⟨f3, x3⟩ := q
      refine RO.ex c A cfg x2 b f3 x3 hpin R O h3 F2 g2 s2 S2 _ _ fun fl F3 g3 s3 S3 T3 q => ?_
      cases f3 with
      | next => cases fl with
        | next => exact ⟨m, Nat.lt_succ_self m, by omega, x3, F3, g3, S3, (T1.trans T2).trans T3, h1⟩
        | _ => exact q.elim
      | ret d => cases fl with
        | ret v => cases h1; exact K (.ret v) F3 g3 s3 S3 ((T1.trans T2).trans T3) q
        | _ => exact q.elim
    | false =>
      cases h1
      exact wpAny_execs_nil (K .next F2 g2 s2 S2 (T1.trans T2) trivial)
end
end Mine
end

section
open PySem PySem.W PyProof.Rows PySem.Calls PySem.Spec PySem.SeqAt
set_option Elab.async false
set_option backward.match.sparseCases false
set_option maxRecDepth 100000
namespace Mine

theorem closL_look {cells : List (Str × Addr)} (y : Str) : ∀ (ns : List (Str × NameKind)) (acc cl : List (Str × Addr)), closL cells ns acc = some cl → (acc.lookup y = .none ∨ acc.lookup y = cells.lookup y) →
    (cl.lookup y = .none ∨ cl.lookup y = cells.lookup y) ∧ ((y, NameKind.free) ∈ ns ∨ acc.lookup y ≠ .none → cl.lookup y = cells.lookup y)
  | [], acc, cl, h, ha => by
    cases h
    refine ⟨ha, fun z => ?_⟩
    rcases z with z | z
    · cases z
    · exact ha.resolve_left z
  | (n, kd) :: ns, acc, cl, h, ha => by
    unfold closL at h
    split at h
    · rename_i hk
      have hk : kd = .free := by simpa using hk
      subst hk
      split at h
      · rename_i a hc
        have hl : ((n, a) :: acc).lookup y = if y = n then some a else acc.lookup y := by
          rw [List.lookup_cons]
          by_cases z : y = n
          · simp [z]
          · have : (y == n) = false := by simpa using z
            simp [this, z]
        have ha' : ((n, a) :: acc).lookup y = .none ∨ ((n, a) :: acc).lookup y = cells.lookup y := by
          rw [hl]
          by_cases z : y = n
          · subst z; rw [if_pos rfl]; exact .inr hc.symm
          · rw [if_neg z]; exact ha
        obtain ⟨i1, i2⟩ := closL_look y ns _ cl h ha'
        refine ⟨i1, fun z => i2 ?_⟩
        rcases z with z | z
        · rcases List.mem_cons.mp z with z | z
          · cases z; exact .inr (by rw [hl, if_pos rfl]; exact fun q => nomatch q)
          · exact .inl z
        · refine .inr ?_
          rw [hl]
          by_cases q : y = n
          · rw [if_pos q]; exact fun q => nomatch q
          · rw [if_neg q]; exact z
      · cases h
    · rename_i hk
      obtain ⟨i1, i2⟩ := closL_look y ns acc cl h ha
      refine ⟨i1, fun z => i2 ?_⟩
      rcases z with z | z
      · rcases List.mem_cons.mp z with z | z
        · cases z; exact absurd rfl hk
        · exact .inl z
      · exact .inr z

theorem relabel_kind {cfg : Cfg} {env : Env} (hk : env.scope.kind = .function) (hkd : env.kindOf = cfg.kd) (scope : Scope) (y : Str) : (relabel scope env).names.lookup y = kindsIn cfg scope y := by
  unfold kindsIn
  have key : ∀ (ns : List (Str × NameKind)), (ns.map fun (p : Str × NameKind) => (p.1, if (p.2 == .free && env.scope.kind == .function && env.kindOf p.1 == some .cell) = true then NameKind.cell else p.2)).lookup y =
      match ns.lookup y with | some .free => (match cfg.kd y with | some .cell => some .cell | _ => some .free) | k => k := by
    intro ns
    induction ns with
    | nil => rfl
    | cons p ns ih =>
      obtain ⟨n, kd⟩ := p
      rw [List.map_cons, List.lookup_cons, List.lookup_cons]
      by_cases z : y = n
      · subst z
        have e : (y == y) = true := by simp
        simp only [e, hk, hkd]
        cases kd <;> simp
        cases q : cfg.kd y with
        | none => simp
        | some w => cases w <;> simp
      · have e : (y == n) = false := by simpa using z
        simp only [e]
        exact ih
  have e : (relabel scope env).names = scope.names.map fun (p : Str × NameKind) => (p.1, if (p.2 == .free && env.scope.kind == .function && env.kindOf p.1 == some .cell) = true then NameKind.cell else p.2) := by
    show scope.names.map _ = _
    refine List.map_congr_left fun p _ => ?_
    obtain ⟨n, kd⟩ := p
    dsimp only
    split <;> rfl
  rw [e]
  exact key scope.names
end Mine
end

section
open PySem PySem.W PyProof.Rows PySem.Calls PySem.Spec PySem.SeqAt
set_option Elab.async false
set_option backward.match.sparseCases false
set_option maxRecDepth 100000
namespace Mine
section
variable {prog : Program} {c : FC} {A : Around} {cfg : Cfg} {x : X} {F : Part} {g : List Addr} {k : Nat} {v : Value} {d : D} {h : Heap} {pv : Priv} {m : Str → Option Value}

/-- a captured name's cell, as a frame within sees it -/
theorem cell_in (R : Rel c F g x.2 x.1 h pv m) {n : Str} {av : AV} (hk : c.e.kindOf n = some .cell ∨ c.e.kindOf n = some .free) (hl : x.1.lookup n = some av) (hd : av = .d d ∨ av = .con d) :
    ∃ cx v, c.e.cells.lookup n = some cx ∧ h.IsCell cx (some v) ∧ Rep c.DO F g v d ∧ cx ≠ 1148 ∧ cx ∉ g := by
  have q := R.vars n av hl
  have key : ∀ cx vo, c.e.cells.lookup n = some cx → h.IsCell cx vo → CellAt c F pv n av cx → CvOk c.DO F g h pv n vo av → ∃ cx v, c.e.cells.lookup n = some cx ∧ h.IsCell cx (some v) ∧ Rep c.DO F g v d ∧ cx ≠ 1148 ∧ cx ∉ g := by
    intro cx vo h1 h2 h3 h4
    have gn : ∀ j, g[j]? = some cx → F cx = .none ∧ pv cx = some (.glob j) := fun j e => ⟨(R.priv cx _ (R.gl j cx e).1).1, (R.gl j cx e).1⟩
    have ng : cx ∉ g := fun z => by
      obtain ⟨j, hj, z⟩ := List.getElem_of_mem z
      obtain ⟨g1, g2⟩ := gn j (by rw [List.getElem?_eq_getElem hj, z])
      rcases h3 with ⟨h3, _⟩ | ⟨_, ⟨o, h3⟩ | ⟨o, q1, q2, q3⟩⟩
      · rw [g2] at h3; cases h3
      · rw [g1] at h3; cases h3
      · rcases R.fresh cx _ g2 with y | ⟨_, _, y⟩
        · exact absurd (Heap.lt_size q1) (Nat.not_lt.mpr y)
        · exact q3 (List.mem_of_getElem? y)
    have n0 : cx ≠ 1148 := fun z => by
      rcases h3 with ⟨h3, _⟩ | ⟨_, ⟨o, h3⟩ | ⟨o, q1, q2, q3⟩⟩
      · exact R.notab' h3 z
      · rw [z, R.notab] at h3; cases h3
      · exact q2 z
    rcases h4 with ⟨v, rfl, h4⟩ | ⟨_, h4⟩
    · rcases hd with rfl | rfl <;> exact ⟨cx, v, h1, h2, h4, n0, ng⟩
    · rcases hd with rfl | rfl <;> cases h4
  unfold VarOk at q
  rcases hk with hk | hk <;> rw [hk] at q <;> obtain ⟨cx, vo, h1, h2, h3, h4⟩ := q <;> exact key cx vo h1 h2 h3 h4

theorem conA_ok {kd : Option NameKind} {av : AV} (h : conA kd av = some d) : (kd = some .cell ∨ kd = some .free) ∧ (av = .d d ∨ av = .con d) := by
  cases av with
  | d z => exact bt h fun h1 h2 => ⟨.inl (of_decide_eq_true h1), .inl (congrArg AV.d (Option.some.inj h2))⟩
  | con z => exact bt h fun h1 h2 => ⟨(Bool.or_eq_true_iff.mp h1).imp of_decide_eq_true of_decide_eq_true, .inr (congrArg AV.con (Option.some.inj h2))⟩
  | _ => exact nn h
noncomputable def InSee (c : FC) (F : Part) (g : List Addr) (h : Heap) (ns : List (Str × NameKind)) (σ' : AEnv) : Prop :=
  (∀ y av, σ'.lookup y = some av → (y, NameKind.free) ∈ ns ∧ ∃ d cx v, av = .con d ∧ c.e.cells.lookup y = some cx ∧ h.IsCell cx (some v) ∧ Rep c.DO F g v d ∧ cx ≠ 1148 ∧ cx ∉ g) ∧ ∀ acc, ∃ cl, closL c.e.cells ns acc = some cl
theorem frees_ok (R : Rel c F g x.2 x.1 h pv m) (hkd : c.e.kindOf = cfg.kd) : ∀ (ns : List (Str × NameKind)) (σ' : AEnv), freesX cfg x ns = some σ' → InSee c F g h ns σ' := by
  intro ns
  induction ns with
  | nil =>
    intro σ' e
    cases Option.some.inj e
    exact ⟨(fun y av z => nn z), fun acc => ⟨acc, rfl⟩⟩
  | cons p ns ih =>
    intro σ' e
    obtain ⟨n, kd⟩ := p
    have skip : freesX cfg x ns = some σ' → (kd == NameKind.free) = false → InSee c F g h ((n, kd) :: ns) σ' := by
      intro hs hf
      obtain ⟨i1, i2⟩ := ih σ' hs
      refine ⟨fun y av z => ⟨.tail _ (i1 y av z).1, (i1 y av z).2⟩, fun acc => ?_⟩
      unfold closL
      rw [hf]
      exact i2 acc
    cases kd with
    | free =>
      refine bnd e fun av hl e => bnd e fun d hd e => mpd (P := fun σ' => InSee c F g h ((n, .free) :: ns) σ') e fun σ hs => ?_
      obtain ⟨hk, hd⟩ := conA_ok hd
      obtain ⟨i1, i2⟩ := ih σ hs
      obtain ⟨cx, v, h1, h2, h3, h4, h5⟩ := cell_in R (by rw [hkd]; exact hk) hl hd
      refine ⟨fun y av' z => ?_, fun acc => ?_⟩
      · rw [List.lookup_cons] at z
        by_cases q : y = n
        · subst q
          rw [beq_self_eq_true] at z
          cases Option.some.inj z
          exact ⟨.head _, d, cx, v, rfl, h1, h2, h3, h4, h5⟩
        · rw [beq_false_of_ne q] at z
          obtain ⟨j1, j2⟩ := i1 y av' z
          exact ⟨.tail _ j1, j2⟩
      · unfold closL
        simp only [beq_self_eq_true, if_true, h1]
        exact i2 _
    | «local» => exact skip e rfl
    | globalImplicit => exact skip e rfl
    | _ => exact nn e
end
end Mine
end

section
open PySem PySem.W PyProof.Rows PySem.Calls PySem.Spec PySem.SeqAt
set_option Elab.async false
set_option backward.match.sparseCases false
set_option maxRecDepth 100000
namespace Mine
section
variable {prog : Program} {c : FC} {A : Around} {cfg : Cfg} {r : Rc} {x x' x'' : X} {F F' : Part} {g g' : List Addr} {s s' : Shared} {k : Nat} {v w u : Value} {a b d : D} {vs : List Value} {ds : List D} {f : Fl}

noncomputable abbrev inFC (c : FC) (scope : Scope) (cl : List (Str × Addr)) (C : Addr) (h0 : Heap) (F : Part) (g : List Addr) : FC := ⟨c.w, c.DO, c.hs, c.K, c.B, compEnvC scope cl C c.e, h0, F, g, [], []⟩

theorem CfgX.inner (O : CfgX prog k c cfg) {scope : Scope} (hk : scope.kind = .function) (cl : List (Str × Addr)) (C : Addr) (h0 : Heap) (F : Part) (g : List Addr) : CfgX prog k (inFC c scope cl C h0 F g) { cfg with kd := kindsIn cfg scope, nest := false } where
  kd := by
    funext y
    exact relabel_kind O.kind O.kd scope y
  kind := hk
  gd := fun n d e c' h => O.gd n d e c' ⟨h.w, h.DO, h.hs, h.K, h.gl, h.bu⟩
  fc := ⟨O.fc.hD, O.fc.kok, O.fc.kin⟩
  call := fun fd ds G d G' e c' h => O.call fd ds G d G' e c' ⟨h.w, h.DO, h.hs, h.K, h.gl, h.bu⟩
  keeper := fun fd ds G r e c' h => O.keeper fd ds G r e c' ⟨h.w, h.DO, h.hs, h.K, h.gl, h.bu⟩
  atr := O.atr
  mth := O.mth
  sat := O.sat
  nest := fun h => by cases h

theorem comp_core {t elt it : Expr} {scope : Scope} {pos : Pos} {use : Option (Value → Sem Unit)} {Q : Value → Shared → Prop} {E : Value → Shared → Prop} {first : Sem Value} {x1 : X} {σ : AEnv} {res : List D} (RO : RcOk prog k r) (R : Room A k) (O : CfgX prog k c cfg)
    (hi : iterE it = true) (hsc : scopeE scope = true) (hfr : (freesX cfg x scope.names).isSome = true) (h1 : r.ev cfg x it = some (d, x1)) (hd : itsD d = some ds) (hσ : freesX cfg x1 scope.names = some σ) (hz : ds.length ≤ 1000000)
    (hc : compX (r.ev { cfg with kd := kindsIn cfg scope, nest := false }) { cfg with kd := kindsIn cfg scope, nest := false } t elt (σ, x1.2) ds = some (res, x')) (S : St c x F g s) (hfirst : first = eval it c.e)
    (K : ∀ acc C o m F' g' s', St (c.tk ((C, o) :: c.T)) (x1.1, x'.2) F' g' s' → (∀ p ∈ c.T, p.1 ≠ C) → (∀ h' : Heap, h'.get? C = some o → h'.Ns C m) → To F g s F' g' s' → Rep c.DO F' g' acc (.lst res) → compPost (model prog c.w) A E use Q acc C (.ok .next) s') :
    wpAny (model prog c.w) A (comprehension (.ListComp elt [⟨t, it, [], 0⟩] scope pos) scope c.e (firstIterPos [⟨t, it, [], 0⟩] pos) (newList []) false first use) Q E s := by
  subst hfirst
  have hs2 := hsc
  unfold scopeE at hs2
  obtain ⟨hkind, hnm⟩ := Bool.and_eq_true_iff.mp hs2
  have hkind : scope.kind = .function := by simpa using hkind
  rw [List.all_eq_true] at hnm
  have hnames : ∀ y ∈ scope.names, y.2 = .local → scope.names.lookup y.1 = some .local := fun y hy hl => by
    have := hnm y hy
    rw [hl] at this
    simpa using this
  have hfreeL : ∀ y, (y, NameKind.free) ∈ scope.names → scope.names.lookup y = some .free := fun y hy => by
    have := hnm _ hy
    simpa using this
  have hcell : ∀ y ∈ scope.names, y.2 ≠ .cell := fun y hy hl => by
    have := hnm y hy
    rw [hl] at this
    simp at this
  obtain ⟨cl, hcl⟩ : ∃ cl, closL c.e.cells scope.names [] = some cl := by
    obtain ⟨σ0, h0⟩ := Option.isSome_iff_exists.mp hfr
    obtain ⟨pv, m, R0⟩ := S.rel
    exact (frees_ok R0 O.kd scope.names σ0 h0).2 []
  refine wpAny_comprehension_free rfl (by intro y; cases it <;> first | rfl | cases hi) (clos_ok hcl) hkind hnames ?_
  refine RO.ev c A cfg x it d x1 R O h1 F g s S _ _ fun v F1 g1 s1 S1 T1 r1 => ?_
  refine iter_ok R S1 r1 hd _ _ fun o fp P W ho Dr W0 => ?_
  refine wpAny_newObj_type (hd := by size_fits) ?_
  refine wpAny_newFunctionEnv hcell (by intro y hy; simp at hy) (fun h' hns hsb => ?_) hkind
  obtain ⟨pv, m, R1⟩ := S1.rel
  obtain ⟨fr, _⟩ := frees_ok R1 O.kd scope.names σ hσ
  dsimp only at hns hsb ⊢
  have sz1 : (s1.heap.push o).objs.size = s1.heap.objs.size + 1 := Heap.size_push ..
  have sz2 : ((s1.heap.push o).push { cls := .type "list", dict := none, data := .seq ([] : List Value).toArray }).objs.size = s1.heap.objs.size + 2 := by rw [Heap.size_push, sz1]
  rw [sz2] at hns hsb ⊢
  rw [sz1]
  have n02 : s1.heap.objs.size ≠ s1.heap.objs.size + 2 := Nat.ne_of_lt (Nat.lt_add_of_pos_right (by decide))
  have n12 : s1.heap.objs.size + 1 ≠ s1.heap.objs.size + 2 := Nat.ne_of_lt (Nat.lt_succ_self _)
  have n01 : s1.heap.objs.size ≠ s1.heap.objs.size + 1 := Nat.ne_of_lt (Nat.lt_succ_self _)
  have l1 : s1.heap.objs.size ≤ s1.heap.objs.size + 1 := Nat.le_add_right _ 1
  have l2 : s1.heap.objs.size ≤ s1.heap.objs.size + 2 := Nat.le_add_right _ 2
  have get1 : ((s1.heap.push o).push { cls := .type "list", dict := none, data := .seq ([] : List Value).toArray }).get? s1.heap.objs.size = some o := Heap.get?_push_of_some _ (Heap.get?_push_size _ ho)
  have get2 : ((s1.heap.push o).push { cls := .type "list", dict := none, data := .seq ([] : List Value).toArray }).get? (s1.heap.objs.size + 1) = some (lsO [] 0) := by
    have := Heap.get?_push_size (s1.heap.push o) (o := { cls := .type "list", dict := none, data := .seq ([] : List Value).toArray }) rfl
    rw [sz1] at this
    exact this
  have old : ∀ a ob, s1.heap.get? a = some ob → h'.get? a = some ob := fun a ob e =>
    hsb.extBut a ob (fun z => absurd (Heap.lt_size e) (Nat.not_lt.mpr (z ▸ l2))) (Heap.get?_push_of_some _ (Heap.get?_push_of_some _ (Heap.get?_push_of_some _ e)))
  have gI : h'.get? s1.heap.objs.size = some o := hsb.extBut _ _ n02 (Heap.get?_push_of_some _ get1)
  have gA : h'.get? (s1.heap.objs.size + 1) = some (lsO [] 0) := hsb.extBut _ _ n12 (Heap.get?_push_of_some _ get2)
  let ci : FC := inFC c scope cl (s1.heap.objs.size + 2) s1.heap F1 g1
  have Oi : CfgX prog k ci { cfg with kd := kindsIn cfg scope, nest := false } := O.inner hkind cl _ _ _ _
  let pi : Priv := (pg g1).claim (s1.heap.objs.size + 2) .frame
  have notg : ∀ a, s1.heap.objs.size ≤ a → a ∉ g1 := fun a ha z => by
    obtain ⟨j, hj, z⟩ := List.getElem_of_mem z
    obtain ⟨_, _, _, _, ⟨n, e⟩, _⟩ := R1.gl j a (by rw [List.getElem?_eq_getElem hj, z])
    exact absurd (Heap.lt_size e) (Nat.not_lt.mpr ha)
  have notF : ∀ a, s1.heap.objs.size ≤ a → F1 a = .none := fun a ha => by
    cases e : F1 a with
    | none => rfl
    | some ob => exact absurd (Heap.lt_size (R1.sub a ob e)) (Nat.not_lt.mpr ha)
  have notp : ∀ a, s1.heap.objs.size ≤ a → pv a = .none := fun a ha => by
    cases e : pv a with
    | none => rfl
    | some q => obtain ⟨_, _, ob, z⟩ := R1.priv a q e; exact absurd (Heap.lt_size z) (Nat.not_lt.mpr ha)
  have Ri : Rel ci F1 g1 x1.2 σ h' pi _ := WR.enter c.B R1.wr old hns (Nat.le_add_right _ 2) (fun a q e => by
      by_cases z : a = s1.heap.objs.size + 2
      · subst z; exact .inl ⟨Nat.le_add_right _ 2, let ⟨ob, _, _, e, _⟩ := hns; ⟨ob, e⟩⟩
      · rw [show pi a = pg g1 a from if_neg z] at e
        exact .inr (pg_inv e)) (if_pos rfl) (fun j a e => by
      have : a ≠ s1.heap.objs.size + 2 := fun z => notg a (z ▸ l2) (List.mem_of_getElem? e)
      rw [show pi a = pg g1 a from if_neg this]
      exact pg_some R1.nd e) (fun y av ey => by
      obtain ⟨q1, dd, cx, vv, rfl, q2, ⟨ob, q3, q3'⟩, q4, q5, q6⟩ := fr y av ey
      have hlk : cl.lookup y = some cx := by
        rw [(closL_look y scope.names [] cl hcl (.inl rfl)).2 (.inl q1)]; exact q2
      have hkd : ci.e.kindOf y = kindsIn cfg scope y := relabel_kind O.kind O.kd scope y
      have hfin : ∃ cx vo, ci.e.cells.lookup y = some cx ∧ h'.IsCell cx vo ∧ CellAt ci F1 pi y (.con dd) cx ∧ CvOk ci.DO F1 g1 h' pi y vo (.con dd) :=
        ⟨cx, some vv, hlk, ⟨ob, old _ _ q3, q3'⟩, .inr ⟨rfl, .inr ⟨ob, q3, q5, q6⟩⟩, .inl ⟨vv, rfl, q4⟩⟩
      unfold VarOk
      unfold kindsIn at hkd
      rw [hfreeL y q1] at hkd
      dsimp only at hkd
      show (match ci.e.kindOf y with | _ => _)
      rw [hkd]
      split at hkd <;> exact hfin)
  obtain ⟨Ri2, _⟩ := Ri.tackOn (a := s1.heap.objs.size + 1) (notF _ l1) (show s1.heap.objs.size ≤ _ from l1) (Nat.le_trans R1.hsize l1) gA
    ((if_neg n12).trans (pg_none (notg _ l1)))
  obtain ⟨Ri3, _⟩ := Rel.tackOn Ri2 (a := s1.heap.objs.size) (notF _ (Nat.le_refl _)) (Nat.le_refl _) R1.hsize gI
    ((if_neg n01).trans ((if_neg n02).trans (pg_none (notg _ (Nat.le_refl _)))))
  have Si : St (ci.tk ((s1.heap.objs.size, o) :: ((s1.heap.objs.size + 1, lsO [] 0) :: []))) (σ, x1.2) F1 g1 { s1 with heap := h', toks := s1.toks + ([] : List (Str × Value)).length } := ⟨⟨_, _, Ri3⟩, S1.gens⟩
  have Wi : W 0 h' := (Dr A R.hh).walks.frame _ _ _ W0 fun b hb ob e => hsb.extBut b ob (fun z => absurd (Heap.lt_size e) (Nat.not_lt.mpr (by rw [sz1, z]; exact Nat.le_succ _))) (Heap.get?_push_of_some _ (Heap.get?_push_of_some _ e))
  have Dri : Drawn prog ci A F1 g1 s1.heap.objs.size ds fp P W := ⟨(Dr A R.hh).walks, (Dr A R.hh).live, (Dr A R.hh).fps, (Dr A R.hh).rep⟩
  have loop : codeAny (model prog c.w) A (.compLoop (.ListComp elt [⟨t, it, [], 0⟩] scope pos) 0 (.ref s1.heap.objs.size) (.ref (s1.heap.objs.size + 1)) ci.e) (compPost (model prog c.w) A E use Q (.ref (s1.heap.objs.size + 1)) (s1.heap.objs.size + 2)) { s1 with heap := h', toks := s1.toks + ([] : List (Str × Value)).length } := by
    refine comp_ok (c := ci) (s := s1) (T := []) (res := res) rfl RO R Oi Dri n01 (fun p hp => nomatch hp) hz ?_ ds.length 0 (σ, x1.2) F1 g1 _ o [] 0 [] res (Nat.zero_add _) rfl Si Wi ⟨.refl F1, .refl g1, rfl⟩ .nil (by simpa using hc) rfl
    intro vs n F2 g2 s2 S2 T2 rs
    obtain ⟨S3, le3, _⟩ := freezeT S2 (fun p hp => nomatch hp)
    obtain ⟨pv3, m3, R3⟩ := S3.rel
    have F3C : (F2.set (s1.heap.objs.size + 1) (lsO vs n)) (s1.heap.objs.size + 2) = .none := (R3.priv _ _ R3.pL).1
    have g3C : s1.heap.objs.size + 2 ∉ g2 := fun z => by
      obtain ⟨j, hj, z⟩ := List.getElem_of_mem z
      have p1 := (R3.gl j (s1.heap.objs.size + 2) (by rw [List.getElem?_eq_getElem hj, z])).1
      have p2 : pv3 (s1.heap.objs.size + 2) = some .frame := R3.pL
      rw [p2] at p1; cases p1
    obtain ⟨pv4, R4, un⟩ := R1.back R3.wr R3.out
    obtain ⟨oC, es, ep, eC, rC⟩ := R3.ns
    have eC : s2.heap.get? (s1.heap.objs.size + 2) = some oC := eC
    obtain ⟨R5, hT⟩ := R4.tackOn (a := s1.heap.objs.size + 2) F3C (Nat.le_trans R1.size l2) (Nat.le_trans R1.hsize l2) eC (un _ (notp _ l2) g3C)
    exact K _ _ oC m3 _ g2 s2 ⟨⟨_, _, R5⟩, S3.gens⟩ hT (fun hh e => ⟨oC, es, ep, e, rC⟩) (T1.trans ⟨T2.le.trans le3, T2.pre, T2.os⟩) (.lst (Part.set_self F2 _ _) (Reps.mono le3 (.refl g2) rs))
  have Dw := (Dr A R.hh).walks
  exact codeAny_compStart_list loop (Dw.self 0 _ _ _ Wi loop)

theorem listcomp_ok {elt : Expr} {gens : List Comprehension} {scope : Scope} {pos : Pos} (RO : RcOk prog k r) (R : Room A k) (O : CfgX prog k c cfg) (h : compE r cfg x elt gens scope = some (d, x')) :
    Ev prog c A x (eval (.ListComp elt gens scope pos) c.e) (IsD c d) x' := by
  refine compE_inv (P := fun gens d x' => Ev prog c A x (eval (.ListComp elt gens scope pos) c.e) (IsD c d) x') h fun t it σ ds p v hi hsc hfr h1 hd hσ hz hc => ?_
  intro F g s S Q E K
  rw [eval_ListComp]
  refine comp_core RO R O hi hsc hfr h1 hd hσ hz hc S rfl ?_
  intro acc C o m F' g' s' S' hT hm T' rp
  obtain ⟨pv, mm, R'⟩ := S'.rel
  refine ⟨m, hm _ S'.tackAt, fun h' hs => ?_⟩
  obtain ⟨pv', R2⟩ := Rel.lose R' hT (.of hs)
  exact K _ F' g' _ ⟨⟨pv', mm, R2⟩, S'.gens⟩ ⟨T'.le, T'.pre, T'.os⟩ rp

theorem swaps_eq {elt : Expr} {gens : List Comprehension} {scope : Scope} {pos np : Pos} {n : Str} {ln : Nat} : ∃ b, swapsWith (.ListComp elt gens scope pos) (some (.Name n np)) ln c.e = pure b := ⟨_, rfl⟩

theorem assignC_ok {n : Str} {np pos p : Pos} {elt : Expr} {gens : List Comprehension} {scope : Scope} {x1 : X} (hpin : c.pins = []) (RO : RcOk prog k r) (R : Room A k) (O : CfgX prog k c cfg) (h : compE r cfg x elt gens scope = some (d, x1)) (h2 : storeX cfg x1 n d = some x') :
    Ev prog c A x (exec (.Assign [.Name n np] (.ListComp elt gens scope pos) p) c.e) (IsF c .next) x' := by
  intro F g s S Q E K
  obtain ⟨b, hb⟩ := swaps_eq (c := c) (elt := elt) (gens := gens) (scope := scope) (pos := pos) (np := np) (n := n) (ln := p.line)
  cases b with
  | false =>
    refine wpAny_Assign_Name (listcomp_ok RO R O h F g s S _ _ fun v F1 g1 s1 S1 T1 r1 => ?_) hb
    exact store_ok (A := A) hpin O.toCfgOk h2 S1 r1 _ _ fun _ F2 g2 s2 S2 T2 _ => K .next F2 g2 s2 S2 (T1.trans T2) trivial
  | true =>
    rw [exec_Assign_Name_used _ _ _ _ hb]
    refine wpAny_bind (wpAny_standAt (wpAny_bind ?_))
    refine compE_inv (P := fun gens d x1 => ∀ x', storeX cfg x1 n d = some x' → (∀ v F' g' s', St c x' F' g' s' → To F g s F' g' s' → IsF c .next F' g' v → Q v s') →
      wpAny (model prog c.w) A (evalThenUse (.ListComp elt gens scope pos) c.e _) _ E s) h (fun t it σ ds p v hi hsc hfr h1 hd hσ hz hc x' h2 K => ?_) x' h2 K
    unfold evalThenUse
    refine wpAny_bind (comp_core (Q := fun _ s' => _) RO R O hi hsc hfr h1 hd hσ hz hc S rfl ?_)
    intro acc C o m F' g' s' S' hT hm T' rp
    show wpAny _ A (assign (.Name n np) c.e acc) _ _ _
    refine PyProof.Rows.assign_Name (store_ok (c := c.tk ((C, o) :: c.T)) (A := A) hpin (O.tk _).toCfgOk h2 S' rp _ _ fun _ F2 g2 s2 S2 T2 _ => ?_)
    refine ⟨m, hm _ S2.tackAt, fun h' hs => ?_⟩
    obtain ⟨pv2, m2, R2⟩ := S2.rel
    obtain ⟨pv', R3⟩ := Rel.lose R2 hT (.of hs)
    exact wpAny_pure (wpAny_pure (K .next F2 g2 _ ⟨⟨pv', m2, R3⟩, S2.gens⟩ ⟨T'.le.trans T2.le, T'.pre.trans T2.pre, T2.os.trans T'.os⟩ trivial))
end
end Mine
end

section
open PySem PySem.W PyProof.Rows PySem.Calls PySem.Spec PySem.SeqAt
set_option Elab.async false
set_option backward.match.sparseCases false
set_option maxRecDepth 100000
namespace Mine
section
variable {prog : Program} {c : FC} {A : Around} {cfg : Cfg} {x x' : X} {F F' : Part} {g : List Addr} {G : GS} {σ σ' : AEnv} {h h' : Heap} {pv : Priv} {m : Str → Option Value} {s : Shared} {k : Nat} {f : Fl}

theorem Rel.ne (R : Rel c F g G σ h pv m) {x : Str} {av : AV} {cx : Addr} (q : CellAt c F pv x av cx) : cx ≠ 1148 := by
  rcases q with ⟨q, _⟩ | ⟨_, ⟨o, q⟩ | ⟨o, _, q, _⟩⟩
  · exact R.notab' q
  · intro z; rw [z, R.notab] at q; cases q
  · exact q

/-- the code table has its one row -/
theorem Rel.table (R : Rel c F g G σ h pv m) {ca : Addr} {co : Obj} (hx : But 1148 h h') (hge : h.objs.size ≤ ca) (hco : h'.get? ca = some co) (hob : CodeOb co)
    (ht : h'.get? 1148 = some ⟨.none, .none, .fields #[rawInt nestPos.line, rawInt nestPos.col, .ref ca], #[]⟩) : Rel c (F.set ca co) g G σ h' pv m := by
  have hF : F ca = .none := by
    cases e : F ca with
    | none => rfl
    | some o => exact absurd (Heap.lt_size (R.sub _ _ e)) (Nat.not_lt.mpr hge)
  have le : Part.le F (F.set ca co) := Part.le_set hF
  have pn : ∀ b r, pv b = some r → b ≠ ca := fun b r e z => by
    obtain ⟨_, _, o, q⟩ := R.priv b r e
    exact absurd (Heap.lt_size q) (Nat.not_lt.mpr (z ▸ hge))
  have kp : ∀ b r, pv b = some r → ∀ o, h.get? b = some o → h'.get? b = some o := fun b r e => hx b (R.notab' e)
  have cs : cStatics ≠ 1148 := by decide +kernel
  exact {
    base := fun b o e n => le _ _ (R.base b o e n)
    sub := fun b o e => by
      by_cases z : b = ca
      · subst z; rw [Part.set_self] at e; cases e; exact hco
      · rw [Part.set_ne _ _ z] at e
        exact hx b (fun y => by rw [y, R.notab] at e; cases e) o (R.sub b o e)
    priv := fun b r e => by
      obtain ⟨q1, q2, o, q3⟩ := R.priv b r e
      exact ⟨by rw [Part.set_ne _ _ (pn b r e)]; exact q1, q2, o, kp b r e o q3⟩
    fresh := R.fresh
    freshF := fun b e => by
      by_cases z : b = ca
      · exact .inr (Nat.le_trans R.size (z ▸ hge))
      · rw [Part.set_ne _ _ z] at e; exact R.freshF b e
    keep := fun b o e n1 n2 => hx b n1 o (R.keep b o e n1 n2)
    lim := let ⟨mc, y, z⟩ := R.lim; ⟨mc, hx.ns cs y, z⟩
    dig := let ⟨mc, y, z⟩ := R.dig; ⟨mc, hx.ns cs y, z⟩
    tab := ⟨_, ht, .inr ⟨ca, co, rfl, Part.set_self F ca co, hob⟩⟩
    notab := by
      rw [Part.set_ne _ _ ?_]
      · exact R.notab
      · obtain ⟨vs, y, _⟩ := R.tab
        exact fun z => absurd (Heap.lt_size y) (Nat.not_lt.mpr (z ▸ hge))
    le0 := R.le0.trans le
    ns := hx.ns (R.notab' R.pL) R.ns
    pL := R.pL
    vars := fun y av e => (R.vars y av e).step le (.refl g) (fun b r pb _ => ⟨pb, kp b r pb⟩) (fun cx q => hx cx (R.ne q)) fun _ => rfl
    gl := fun j b e => let ⟨pb, vs, ds, e1, e2, e3⟩ := R.gl j b e; ⟨pb, vs, ds, e1, LsAt.keep e2 (kp b _ pb), Reps.mono le (.refl g) e3⟩
    glen := R.glen
    pre0 := R.pre0
    pins := R.pins
    tacks := fun b o e => let ⟨pb, e⟩ := R.tacks b o e; ⟨pb, kp b _ pb o e⟩ }

theorem Rel.nsAt (R : Rel c F g G σ h pv m) {a : Addr} {mm : Str → Option Value} (n : a ≠ 1148) (x : c.hs.Ns a mm) : h.Ns a mm :=
  let ⟨o, es, ep, e, r⟩ := x; ⟨o, es, ep, R.sub _ _ (R.base _ _ e n), r⟩

theorem CL.app {F : Part} : ∀ {as bs vs ws}, CL F as vs → CL F bs ws → CL F (as ++ bs) (vs ++ ws)
  | _, _, _, _, .nil, h => h
  | _, _, _, _, .cons e d r, h => .cons e d (r.app h)

theorem caps_ok (hkd : c.e.kindOf = cfg.kd) : ∀ (ns : List (Str × NameKind)) (σ σ' : AEnv) (l : List (Str × D)) (F : Part) (pv : Priv), Rel c F g G σ h pv m → capsX cfg σ ns = some (σ', l) →
    ∃ F' pv', Rel c F' g G σ' h pv' m ∧ Part.le F F' ∧ ∀ acc, ∃ cl us, closL c.e.cells ns acc = some (cl ++ acc) ∧ cl.map (·.1) = (l.map (·.1)).reverse ∧ CL F' (cl.map (·.2)) us ∧ Reps c.DO F' g us (l.map (·.2)).reverse := by
  intro ns
  induction ns with
  | nil =>
    intro σ σ' l F pv R e
    cases e
    exact ⟨F, pv, R, .refl F, fun acc => ⟨[], [], rfl, rfl, .nil, .nil⟩⟩
  | cons p ns ih =>
    intro σ σ' l F pv R e
    obtain ⟨n, kd⟩ := p
    have skip : capsX cfg σ ns = some (σ', l) → (kd == NameKind.free) = false →
        ∃ F' pv', Rel c F' g G σ' h pv' m ∧ Part.le F F' ∧ ∀ acc, ∃ cl us, closL c.e.cells ((n, kd) :: ns) acc = some (cl ++ acc) ∧ cl.map (·.1) = (l.map (·.1)).reverse ∧ CL F' (cl.map (·.2)) us ∧ Reps c.DO F' g us (l.map (·.2)).reverse := by
      intro e hf
      obtain ⟨F', pv', R', le, K⟩ := ih σ σ' l F pv R e
      refine ⟨F', pv', R', le, fun acc => ?_⟩
      obtain ⟨cl, us, h1, h2⟩ := K acc
      refine ⟨cl, us, ?_, h2⟩
      unfold closL
      rw [hf]
      exact h1
    cases kd with
    | free =>
      refine bnd e fun av hl e => bnd e fun d hd e => bt e fun hk e => ?_
      obtain ⟨q9, h1, e⟩ := Option.map_eq_some_iff.mp e
      rw [dA_ok hd] at hl
      have hk := of_decide_eq_true hk
      cases e
      have q := R.vars n (.d d) hl
      unfold VarOk at q
      rw [hkd, hk] at q
      obtain ⟨cx, vo, q1, ⟨o, q2, q3⟩, q4, q5⟩ := q
      have q4 : pv cx = some (.cell n) := by
        rcases q4 with ⟨q4, _⟩ | ⟨q4, _⟩
        · exact q4
        · exact Bool.noConfusion q4
      obtain ⟨v, rfl, q6⟩ : ∃ v, vo = some v ∧ Rep c.DO F g v d := by
        rcases q5 with ⟨v, e1, e2⟩ | ⟨_, e2⟩
        · exact ⟨v, e1, e2⟩
        · cases e2
      have le0 : Part.le F (F.set cx o) := Part.le_set (R.priv cx _ q4).1
      have R1 : Rel c (F.set cx o) g G (put σ n (.con d)) h (pv.drop cx) m := R.freeze q4 (.inr (.inr rfl)) q2 (fun y hy => by rw [put_lookup, if_neg hy]) fun av e' => by
        rw [put_lookup, if_pos rfl] at e'
        cases e'
        unfold VarOk
        rw [hkd, hk]
        exact ⟨cx, some v, q1, ⟨o, q2, q3⟩, .inr ⟨rfl, .inl ⟨o, Part.set_self F cx o⟩⟩, .inl ⟨v, rfl, Rep.mono le0 (.refl g) q6⟩⟩
      obtain ⟨F', pv', R', le, K⟩ := ih _ _ q9.2 _ _ R1 h1
      refine ⟨F', pv', R', le0.trans le, fun acc => ?_⟩
      obtain ⟨cl, us, k1, k2, k3, k4⟩ := K ((n, cx) :: acc)
      refine ⟨cl ++ [(n, cx)], us ++ [v], ?_, by rw [List.map_append, k2]; exact List.reverse_cons.symm, ?_, ?_⟩
      · unfold closL
        simp only [beq_self_eq_true, if_true, q1]
        rw [k1, List.append_assoc]; rfl
      · rw [List.map_append]
        exact k3.app (.cons (le _ _ (Part.set_self F cx o)) q3 .nil)
      · simp only [List.map_cons, List.reverse_cons]
        exact k4.app (.cons (Rep.mono (le0.trans le) (.refl g) q6) .nil)
    | «local» => exact skip e rfl
    | globalImplicit => exact skip e rfl
    | _ => exact nn e

theorem bare_ann {p : Arguments} (h : bareArgs p = true) (e : Env) : p.defaults = [] ∧ p.kw_defaults = [] ∧ annTrees p .none e = [] := by
  refine and_t h fun h1 h2 => ?_
  rw [bare_params h1]
  refine ⟨rfl, rfl, ?_⟩
  show annotationsOf (p.args ++ [] ++ [] ++ [] ++ []) e ++ [] = []
  simp only [List.append_nil]
  generalize p.args = as at h2
  induction as with
  | nil => rfl
  | cons a as ih =>
    refine and_t h2 fun h3 h4 => ?_
    obtain ⟨nm, an, ps⟩ := a
    cases an with
    | some z => exact Bool.noConfusion h3
    | none => exact ih h4

theorem nest_ok {n b : Str} {params : Arguments} {body : List Stmt} {scope : Scope} {pos : Pos} {l : List (Str × D)} (hpin : c.pins = []) (O : CfgX prog k c cfg) (hn : cfg.nest = true) (hb : b = n) (hnn : n = nestName) (hp : bareArgs params = true)
    (hl : pos.line = nestPos.line) (hc : pos.col = nestPos.col) (hk : cfg.kd n = some .local) (h : capsX cfg x.1 scope.names = some (σ, l)) :
    Ev prog c A x (exec (.FunctionDef n params body [] .none [] scope .none b pos) c.e) (IsF c .next) (put σ n (.d (.fn params body scope l.reverse)), x.2) := by
  subst hb
  intro F g s S Q E K
  obtain ⟨n1, n2, n3⟩ := O.nest hn
  obtain ⟨pv, m, R⟩ := S.rel
  obtain ⟨F1, pv1, R1, le1, cap⟩ := caps_ok O.kd scope.names x.1 σ l F pv R h
  obtain ⟨cl, us, c1, c2, c3, c4⟩ := cap []
  rw [List.append_nil] at c1
  obtain ⟨p1, p2, p3⟩ := bare_ann hp c.e
  have hq : qualnameIn c.e b b = nestQual := by
    unfold qualnameIn
    rw [O.kd, hk]
    rw [← n3, hnn]
    rfl
  refine nestDef_K p1 p2 p3 ?_
  rw [hq]
  obtain ⟨mg, bm, ob, b1, b2, b3, b4, b5, b6, b7⟩ := c.B.bmain
  have hbm : bm ≠ 1148 := fun z => by rw [z, c.B.tab] at b4; cases b4; cases b5
  have hgm : mainGlobals ≠ 1148 := by decide +kernel
  have hbg : bm ≠ mainGlobals := fun z => by
    obtain ⟨o, es, ep, e, hd, _⟩ := b1
    rw [z, e] at b4; cases b4; rw [hd] at b7; cases b7
  have hg := R1.nsAt hgm b1
  have C : CodeHd s.heap 1150 1148 := codeHd_of_K (S.inK O.fc) O.fc.kok.code1150
  have BA : s.heap.BuiltinsAt mg 1148 := ⟨bm, ob, b2, b3, hbg, hbm, R1.sub _ _ (R1.base _ _ b4 hbm), b5, b6, b7⟩
  have fin : ∀ (F2 : Part) (h2 : Heap) (tk : Tok) (ca : Addr) (co : Obj) (ctv doc : Value), Rel c F2 g x.2 σ h2 pv1 m → Part.le F1 F2 → F2 ca = some co → CodeOb co →
      wpAny (model prog c.w) A (storeName c.e b (.ref h2.objs.size)) (fun _ s'' => Q .next s'') E
        { s with heap := h2.push (fnMade b nestQual params body scope cl doc ((mg "__name__").getD .none) ca ctv), toks := tk } := by
    intro F2 h2 tk ca co ctv doc R2 le2 hca hob
    let o : Obj := fnMade b nestQual params body scope cl doc ((mg "__name__").getD .none) ca ctv
    have G2 : Grow F2 h2 (F2.set h2.objs.size o) (h2.push o) := .push R2.sub rfl
    have R3 := R2.grow G2
    have S3 : St c (σ, x.2) (F2.set h2.objs.size o) g { s with heap := h2.push o, toks := tk } := ⟨⟨pv1, m, R3⟩, S.gens⟩
    obtain ⟨ws, t, w1, w2⟩ := hob
    have rp : Rep c.DO (F2.set h2.objs.size o) g (.ref h2.objs.size) (.fn params body scope l.reverse) := by
      refine .fn (fd := fnX b nestQual params body scope cl .none .none doc ((mg "__name__").getD .none) none (.ref ca) ctv) (us := us)
        ⟨o, ca, co, ws, t, Part.set_self _ _ _, rfl, rfl, rfl, rfl, rfl, G2.le _ _ hca, w1, w2⟩ rfl rfl rfl ?_ ?_ ?_
      · show cl.map (·.1) = l.reverse.map (·.1)
        rw [c2, List.map_reverse]
      · exact c3.mono fun a o e => G2.le _ _ (le2 _ _ e)
      · rw [List.map_reverse]
        exact Reps.mono (le2.trans G2.le) (.refl g) c4
    refine store_ok (x := (σ, x.2)) (x' := (put σ b (.d (.fn params body scope l.reverse)), x.2)) hpin O.toCfgOk (store_loc O.toCfgOk (by rw [O.kd]; exact hk)) S3 rp _ _ fun v F4 g4 s4 S4 T4 _ => ?_
    exact K .next F4 g4 s4 S4 ⟨((le1.trans le2).trans G2.le).trans T4.le, T4.pre, T4.os⟩ trivial
  obtain ⟨vs, t1, t2⟩ := R1.tab
  rcases t2 with rfl | ⟨ca, co, rfl, q2, q3⟩
  · refine makeFunction_K (ps := #[]) (mg := mg) (clos_ok c1) n2 hg n1 C t1 trivial rfl hgm BA fun ca ctv doc h' tk hx hge hlt hrec htb => ?_
    obtain ⟨ca', co, ws, t, e1, e2, e3, e4⟩ := hrec
    cases e1
    have ht : h'.get? 1148 = some ⟨.none, .none, .fields #[rawInt nestPos.line, rawInt nestPos.col, .ref ca], #[]⟩ := by rw [htb, hl, hc]; rfl
    have R2 := R1.table (fun b hb o e => hx b o hb e) hge e2 ⟨ws, t, e3, e4⟩ ht
    exact fin _ h' tk ca co ctv doc R2 (Part.le_set (by
      cases e : F1 ca with
      | none => rfl
      | some o => exact absurd (Heap.lt_size (R1.sub _ _ e)) (Nat.not_lt.mpr hge))) (Part.set_self _ _ _) ⟨ws, t, e3, e4⟩
  · refine makeFunction_hit (ps := #[rawInt nestPos.line, rawInt nestPos.col, .ref ca]) (cv := .ref ca) (mg := mg) (clos_ok c1) n2 hg n1 C t1 trivial ?_ BA fun ctv doc h' tk hk' hsz => ?_
    · show codeAmong pos [rawInt nestPos.line, rawInt nestPos.col, .ref ca] = _
      unfold rawInt codeAmong
      rw [hl, hc]
      simp
    · exact fin _ h' tk ca co ctv doc (R1.ext hk') (.refl _) q2 q3
end
end Mine
end

section
open PySem PySem.W PyProof.Rows PySem.Calls PySem.Spec PySem.SeqAt
set_option Elab.async false
set_option backward.match.sparseCases false
set_option maxRecDepth 100000
namespace Mine
section
variable {prog : Program} {c : FC} {A : Around} {cfg : Cfg} {r : Rc} {x x' x'' : X} {F F' : Part} {g g' : List Addr} {s s' : Shared} {k : Nat} {v w u : Value} {a b d : D} {vs : List Value} {ds : List D} {f : Fl}

theorem stepE_ok {e : Expr} (RO : RcOk prog k r) (R : Room A k) (O : CfgX prog k c cfg) (h : stepE r cfg x e = some (d, x')) : Ev prog c A x (eval e c.e) (IsD c d) x' := by
  cases e with
  | Constant co n p => exact mpx (P := fun d x' => Ev prog c A x _ (IsD c d) x') h fun d' e1 => const_ok e1
  | Name n p => exact name_ok O.toCfgOk h
  | BoolOp op es p =>
    have h9 := h
    refine bnd h fun q hq h => ?_
    cases two_ok hq
    cases op with
    | And => exact and_ok RO R O h9
    | Or => exact or_ok RO R O h9
  | BinOp => exact binop_ok RO R O h
  | UnaryOp op e p =>
    cases op with
    | Not => exact not_ok RO R O h
    | USub => exact neg_ok RO R O h
    | _ => exact bnd h fun p h1 h => nn h
  | IfExp => exact ifexp_ok RO R O h
  | Dict => exact dict_ok RO R O h
  | List => exact list_ok RO R O h
  | Tuple => exact tuple_ok RO R O h
  | ListComp => exact listcomp_ok RO R O h
  | Compare l ops es p =>
    have h9 := h
    refine bnd h fun o ho h => bnd h fun e he h => ?_
    cases one_ok ho
    cases one_ok he
    exact compare_ok RO R O h9
  | Call f args kws pos =>
    have h9 := h
    refine bt h fun hc h => and_t hc fun hk _ => ?_
    cases List.isEmpty_iff.mp hk
    cases f with
    | Name => exact call_ok RO R O h9
    | Attribute => exact method_ok RO R O h9
    | _ => exact bt h9 fun _ h => nn h
  | Attribute => exact attr_ok RO R O h
  | Subscript o i p => exact bnd h fun q h1 h => subscript_ok RO R O h1 h
  | _ => exact nn h

theorem plain_noStar {e : Expr} (h : plainE e = true) : noStar e = true := by cases e <;> first | rfl | exact Bool.noConfusion h

theorem assN_ok {n : Str} {np pos : Pos} {e : Expr} (hr : (∃ r', r = stepR r' ∧ RcOk prog k r') ∨ ∀ cfg x e, r.ev cfg x e = .none) (hpin : c.pins = []) (RO : RcOk prog k r) (R : Room A k) (O : CfgX prog k c cfg) (h : assN r cfg x n e = some (f, x')) :
    Ev prog c A x (exec (.Assign [.Name n np] e pos) c.e) (IsF c f) x' := by
  unfold assN at h
  cases he : listOf e with
  | some es =>
    rw [he] at h
    obtain ⟨p, rfl⟩ := listOf_ok he
    exact bt h fun hf h => bnd h fun q h1 h => assignL_ok hpin RO R O hf h1 h
  | none =>
    rw [he] at h
    refine bc h (fun hd h => bnd h fun p h1 h => bnd h fun l hl h => bt h fun hk h => smx (P := fun f x' => Ev prog c A x _ (IsF c f) x') h ?_) fun _ h => bnd h fun p h1 h => nextX_ok (P := fun f x' => Ev prog c A x _ (IsF c f) x') h fun y h2 => ?_
    · refine assignD_ok (x1 := p.2) hpin RO R O (of_decide_eq_true hk) hd ?_
      rw [h1, ← dicD_ok hl]
    · cases hp : plainE e with
      | true => exact assignN_ok hpin RO R O hp h1 h2
      | false =>
        rcases hr with ⟨r', rfl, RO'⟩ | hr
        · cases e with
          | ListComp elt gens scope p => exact assignC_ok hpin RO' R O h1 h2
          | SetComp => exact nn h1
          | DictComp => exact nn h1
          | Starred => exact nn h1
          | _ => exact Bool.noConfusion hp
        · rw [hr] at h1; exact nn h1

theorem assI_ok {o : Str} {op ap pos : Pos} {i e : Expr} (RO : RcOk prog k r) (R : Room A k) (O : CfgX prog k c cfg) (h : assI r cfg x o i e = some (f, x')) : Ev prog c A x (exec (.Assign [.Subscript (.Name o op) i ap] e pos) c.e) (IsF c f) x' := by
  refine bt h fun hp h => bnd h fun p h1 h => and_t hp fun _ he => ?_
  cases hl : own dicA cfg p.2 o with
  | some l =>
    rw [hl] at h
    refine bnd h fun j hj h => bt h fun hc h => smx (P := fun f x' => Ev prog c A x _ (IsF c f) x') h (and_t hc fun hb hz => ?_)
    obtain ⟨k0, p0, rfl⟩ := strOf_ok hj
    obtain ⟨hk, av, ha, hv⟩ := own_ok hl
    rw [dicA_ok hv] at ha
    exact setD_ok ((Bool.not_eq_true' _).mp hb) RO R O he h1 hk ha (of_decide_eq_true hz)
  | none =>
    rw [hl] at h
    refine bnd h fun q h2 h => bnd h fun kk hk h => bnd h fun w h3 h => bnd h fun j hj h => bnd h fun ds hd h => bt h fun hc h => smx (P := fun f x' => Ev prog c A x _ (IsF c f) x') h (and_t hc fun hc c3 => and_t hc fun c1 c2 => ?_)
    refine setG_ok (x1 := p.2) (x2 := q.2) (x3 := w.2) RO R O he h1 ?_ ?_ hd ⟨of_decide_eq_true c1, of_decide_eq_true c2, of_decide_eq_true c3⟩
    · rw [h2, ← mrefD_ok hk]
    · rw [h3, ← intD_ok hj]

theorem assA_ok {b e : Expr} {n : Str} {ap pos : Pos} (RO : RcOk prog k r) (R : Room A k) (O : CfgX prog k c cfg) (h : assX r cfg x (.Attribute b n ap) e = some (f, x')) : Ev prog c A x (exec (.Assign [.Attribute b n ap] e pos) c.e) (IsF c f) x' := by
  refine bnd h fun o ho h => bt h fun hc h => bnd h fun q h1 h => bnd h fun w hw h => bt h fun hz h => smx (P := fun f x' => Ev prog c A x _ (IsF c f) x') h (and_t hc fun hb he => and_t hz fun hz hs => ?_)
  obtain ⟨p0, rfl⟩ := nameOf_ok ho
  obtain ⟨hk, av, ha, hv⟩ := own_ok hw
  rw [insA_ok hv] at ha
  exact setA_ok ((Bool.not_eq_true' _).mp hb) RO R O he h1 hk ha (of_decide_eq_true hz) hs
theorem assX_ok {t e : Expr} {pos : Pos} (hr : (∃ r', r = stepR r' ∧ RcOk prog k r') ∨ ∀ cfg x e, r.ev cfg x e = .none) (hpin : c.pins = []) (RO : RcOk prog k r) (R : Room A k) (O : CfgX prog k c cfg) (h : assX r cfg x t e = some (f, x')) : Ev prog c A x (exec (.Assign [t] e pos) c.e) (IsF c f) x' := by
  cases t with
  | Name n p => exact assN_ok hr hpin RO R O h
  | Tuple ts n p =>
    refine bnd h fun vs hv h => ?_
    obtain ⟨k0, p0, rfl⟩ := tupOf_ok hv
    exact assignT_ok hpin RO R O h
  | Attribute b n p =>
    exact assA_ok RO R O h
  | Subscript b i p =>
    refine bnd h fun o ho h => ?_
    obtain ⟨p0, rfl⟩ := nameOf_ok ho
    exact assI_ok RO R O h
  | _ => exact nn h

theorem appP_ok {e : Expr} {q : Str × Expr} (h : appP e = some q) : ∃ op ap pos, e = .Call (.Attribute (.Name q.1 op) (Mine.S "append") ap) [q.2] [] pos ∧ plainE q.2 = true ∧ (ap.endLine == pos.line) = true ∧ (q.1 == ("__debug__" : Str)) = false := by
  cases e with
  | Call f args kws pos =>
    refine bnd h fun a ha h => bnd h fun w hw h => bt h fun hc h9 => and_t hc fun hc hb => and_t hc fun hc hl => and_t hc fun hc hp => and_t hc fun hk hm => ?_
    cases f with
    | Attribute b m ap =>
      obtain ⟨o, ho, e2⟩ := Option.map_eq_some_iff.mp hw
      obtain ⟨p0, rfl⟩ := nameOf_ok ho
      subst e2
      have e9 := Option.some.inj h9
      subst e9
      cases List.isEmpty_iff.mp hk
      cases one_ok ha
      cases eq_of_beq hm
      exact ⟨p0, ap, pos, rfl, hp, hl, (Bool.not_eq_true' _).mp hb⟩
    | _ => exact nn hw
  | _ => exact nn h

theorem appX_ok {o : Str} {op ap pos ps : Pos} {e : Expr} (hpin : c.pins = []) (RO : RcOk prog k r) (R : Room A k) (O : CfgX prog k c cfg) (he : plainE e = true) (hline : (ap.endLine == pos.line) = true) (hb : (o == ("__debug__" : Str)) = false) (h : appX r cfg x o e = some (f, x')) :
    Ev prog c A x (exec (.Expr (.Call (.Attribute (.Name o op) (Mine.S "append") ap) [e] [] pos) ps) c.e) (IsF c f) x' := by
  unfold appX at h
  cases hl : own lstA cfg x o with
  | some l =>
    rw [hl] at h
    refine bnd h fun p h1 h => bt h fun hz h => smx (P := fun f x' => Ev prog c A x _ (IsF c f) x') h ?_
    obtain ⟨hk, av, ha, hv⟩ := own_ok hl
    rw [lstA_ok hv] at ha
    exact appendL_ok hpin RO R O (plain_noStar he) hb hline hk ha h1 (of_decide_eq_true hz)
  | none =>
    rw [hl] at h
    refine bnd h fun q h0 h => bnd h fun kk hk h => bnd h fun w h1 h => bnd h fun l hd h => bt h fun hz h => smx (P := fun f x' => Ev prog c A x _ (IsF c f) x') h ?_
    exact appendG_ok (x1 := q.2) (x2 := w.2) RO R O (plain_noStar he) hline (by rw [h0, ← mrefD_ok hk]) h1 hd (of_decide_eq_true hz)

theorem stepS_ok {st : Stmt} (hr : (∃ r', r = stepR r' ∧ RcOk prog k r') ∨ ∀ cfg x e, r.ev cfg x e = .none) (hpin : c.pins = []) (RO : RcOk prog k r) (R : Room A k) (O : CfgX prog k c cfg) (h : stepS r cfg x st = some (f, x')) : Ev prog c A x (exec st c.e) (IsF c f) x' := by
  cases st with
  | Return v p =>
    cases v with
    | none => exact smx (P := fun f x' => Ev prog c A x _ (IsF c f) x') h fun F g s S Q E K => wpAny_Return_none (K (.ret .none) F g s S (.refl F g s) .none)
    | some e => exact retX_ok RO R O h
  | If => exact if_ok hpin RO R O h
  | While t b els p =>
    refine bt h fun hs h9 => ?_
    cases List.isEmpty_iff.mp hs
    exact while_ok hpin RO R O h9
  | For => exact forS_ok hpin RO R O h
  | Assign ts e p =>
    refine bnd h fun t ht h9 => ?_
    cases one_ok ht
    exact assX_ok hr hpin RO R O h9
  | FunctionDef n params body dl ret tp scope ts b pos =>
    refine bt h fun hc h => mpx (P := fun f x' => Ev prog c A x _ (IsF c f) x') h fun q h9 => ?_
    refine and_t hc fun hc c11 => and_t hc fun hc c10 => and_t hc fun hc c9 => and_t hc fun hc c8 => and_t hc fun hc c7 => and_t hc fun hc c6 => and_t hc fun hc c5 => and_t hc fun hc c4 => and_t hc fun hc c3 => and_t hc fun c1 c2 => ?_
    cases List.isEmpty_iff.mp c1
    cases Option.isNone_iff_eq_none.mp c2
    cases List.isEmpty_iff.mp c3
    cases Option.isNone_iff_eq_none.mp c4
    exact nest_ok hpin O c5 (eq_of_beq c6) (eq_of_beq c7) c8 (eq_of_beq c9) (eq_of_beq c10) (of_decide_eq_true c11) h9
  | AugAssign t op e p =>
    refine bnd h fun n hn h9 => ?_
    obtain ⟨p0, rfl⟩ := nameOf_ok hn
    exact aug_ok hpin RO R O h9
  | Expr e p =>
    refine bnd h fun q hq h9 => ?_
    obtain ⟨op, ap, pos, rfl, c1, c2, c3⟩ := appP_ok hq
    exact appX_ok hpin RO R O c1 c2 c3 h9
  | _ => exact nn h

theorem rc_ok : ∀ (n : Nat), RcOk prog k (rc n) := by
  intro n
  induction n using Nat.strongRecOn with
  | ind n ih =>
    cases n with
    | zero => exact ⟨(fun c A cfg x e d x' _ _ h => by cases h), (fun c A cfg x e b x' _ _ h => by cases h), (fun c A cfg x ss f x' _ _ _ h => by cases h), (fun c A cfg x t b f x' _ _ _ h => by cases h)⟩
    | succ n =>
      have RO := ih n (Nat.lt_succ_self n)
      have hr : (∃ r', rc n = stepR r' ∧ RcOk prog k r') ∨ ∀ cfg x e, (rc n).ev cfg x e = .none := by
        cases n with
        | zero => exact .inr fun _ _ _ => rfl
        | succ n => exact .inl ⟨rc n, rfl, ih n (by omega)⟩
      exact ⟨fun c A cfg x e d x' R O h => stepE_ok RO R O h, fun c A cfg x e b x' R O h => tr_ok RO R O h,
        fun c A cfg x ss f x' hpin R O h => exs_ok (fun st x f x' h => stepS_ok hr hpin RO R O h) ss x f x' h,
        fun c A cfg x t b f x' hpin R O h F g s S R' K => wh_ok hpin R O ih h S R' K⟩
end
end Mine
end

section
open PySem PySem.W PyProof.Rows PySem.Calls PySem.Spec PySem.SeqAt
set_option Elab.async false
set_option backward.match.sparseCases false
set_option maxRecDepth 100000
namespace Mine
section
variable {prog : Program} {w : World} {DO : DOb} {hs h h₁ : Heap} {K : Frag} {A : Around} {F : Part} {g : List Addr} {G : GS} {s s₁ : Shared} {pv pv0 : Priv}

noncomputable def psOf (p : Arguments) : List Str := p.args.map (·.arg)
/-- what the parameters hold -/
inductive Bnd (P : DOb) (F : Part) (g : List Addr) (h : Heap) (pv : Priv) : List (Str × Value) → List (Str × AV) → Prop
  | nil : Bnd P F g h pv [] []
  | cons {x v av bs as} : isConAV av = false → AvOk P F g h pv x v av → Bnd P F g h pv bs as → Bnd P F g h pv ((x, v) :: bs) ((x, av) :: as)

theorem Bnd.look {P : DOb} : ∀ {bs : List (Str × Value)} {as : List (Str × AV)}, Bnd P F g h pv bs as → ∀ x, (∀ av, as.lookup x = some av → ∃ v, bs.lookup x = some v ∧ isConAV av = false ∧ AvOk P F g h pv x v av) ∧ (as.lookup x = .none → bs.lookup x = .none)
  | _, _, .nil, x => ⟨(fun _ e => by cases e), fun _ => rfl⟩
  | _, _, .cons (x := y) (v := v) (av := av) q r b, x => by
    obtain ⟨i1, i2⟩ := b.look x
    rw [List.lookup_cons, List.lookup_cons]
    by_cases z : x = y
    · subst z
      have e : (x == x) = true := by simp
      rw [e]
      exact ⟨(fun av' e' => by cases e'; exact ⟨v, rfl, q, r⟩), (fun e' => by cases e')⟩
    · have e : (x == y) = false := by simpa using z
      rw [e]
      exact ⟨i1, i2⟩

theorem bindL_look {kd : Str → Option NameKind} {x : Str} (hk : kd x = some .local) : ∀ (bs : List (Str × Value)) (m : Str → Option Value), (bs.map (·.1)).Nodup → bindL kd bs m x = (bs.lookup x).or (m x)
  | [], m, _ => rfl
  | (n, v) :: r, m, nd => by
    simp only [List.map_cons, List.nodup_cons] at nd
    unfold bindL
    rw [bindL_look hk r _ nd.2, List.lookup_cons]
    by_cases z : x = n
    · subst z
      have e : (x == x) = true := by simp
      have hn : r.lookup x = .none := by
        cases q : r.lookup x with
        | none => rfl
        | some v => exact absurd (List.mem_map_of_mem (f := (·.1)) (mem_of_lookup q)) nd.1
      rw [e, hn, if_pos hk]
      simp
    · have e : (x == n) = false := by simpa using z
      rw [e]
      split <;> simp [z]
theorem bindC_look {kd : Str → Option NameKind} {x : Str} (hk : kd x ≠ some .local) : ∀ (bs : List (Str × Value)) (m : Str → Option Value), (bs.map (·.1)).Nodup → bindC kd bs m x = (bs.lookup x).or (m x)
  | [], m, _ => rfl
  | (n, v) :: r, m, nd => by
    simp only [List.map_cons, List.nodup_cons] at nd
    unfold bindC
    rw [bindC_look hk r _ nd.2, List.lookup_cons]
    by_cases z : x = n
    · subst z
      have e : (x == x) = true := by simp
      have hn : r.lookup x = .none := by
        cases q : r.lookup x with
        | none => rfl
        | some v => exact absurd (List.mem_map_of_mem (f := (·.1)) (mem_of_lookup q)) nd.1
      rw [e, hn, if_neg hk]
      simp
    · have e : (x == n) = false := by simpa using z
      rw [e]
      split <;> simp [z]

noncomputable def pvF (L : Addr) (cs : List (Str × Addr)) (pv0 : Priv) (g : List Addr) : Priv := fun a =>
  if a = L then some .frame else match cs.find? (fun p => p.2 == a && cs.lookup p.1 == some a) with
    | some p => some (.cell p.1)
    | .none => match pv0 a with
      | some r => some r
      | .none => pg g a

theorem pvF_cell {L : Addr} {cs : List (Str × Addr)} (ap : cs.Pairwise fun x y => x.2 ≠ y.2) (ab : ∀ n c, (n, c) ∈ cs → L < c) {x : Str} {cx : Addr} (e : cs.lookup x = some cx) : pvF L cs pv0 g cx = some (.cell x) := by
  have hm := mem_of_lookup e
  unfold pvF
  rw [if_neg (Nat.ne_of_gt (ab x cx hm))]
  cases q : cs.find? (fun p => p.2 == cx && cs.lookup p.1 == some cx) with
  | none =>
    rw [List.find?_eq_none] at q
    exact absurd (by simp [e]) (q (x, cx) hm)
  | some p =>
    have h1 := List.mem_of_find?_eq_some q
    have h2 := List.find?_some q
    simp only [Bool.and_eq_true, beq_iff_eq] at h2
    have : (p.1, cx) ∈ cs := by rw [← h2.1]; exact h1
    show some (Role.cell p.1) = _
    rw [name_of_addr ap this hm]

theorem pvF_inv {L : Addr} {cs : List (Str × Addr)} {a : Addr} {r : Role} (e : pvF L cs pv0 g a = some r) : (a = L) ∨ (∃ x, cs.lookup x = some a) ∨ pv0 a = some r ∨ ∃ k : Nat, r = .glob k ∧ g[k]? = some a := by
  unfold pvF at e
  split at e
  · exact .inl (by assumption)
  · split at e
    · rename_i p q
      have h2 := List.find?_some q
      simp only [Bool.and_eq_true, beq_iff_eq] at h2
      exact .inr (.inl ⟨p.1, h2.2⟩)
    · split at e
      · rename_i r' q
        cases e
        exact .inr (.inr (.inl q))
      · exact .inr (.inr (.inr (pg_inv e)))

theorem pvF_other {L : Addr} {cs : List (Str × Addr)} (ab : ∀ n c, (n, c) ∈ cs → L < c) {a : Addr} (h1 : a < L) : pvF L cs pv0 g a = match pv0 a with | some r => some r | .none => pg g a := by
  unfold pvF
  rw [if_neg (Nat.ne_of_lt h1)]
  cases q : cs.find? (fun p => p.2 == a && cs.lookup p.1 == some a) with
  | none => rfl
  | some p =>
    have h2 := List.find?_some q
    simp only [Bool.and_eq_true, beq_iff_eq] at h2
    have := ab p.1 a (mem_of_lookup h2.2)
    exact absurd this (Nat.not_lt.mpr (Nat.le_of_lt h1))

/-- a function's frame -/
theorem enter_fn {e : Env} {cs : List (Str × Addr)} {m : Str → Option Value} {bs : List (Str × Value)} {as us fs : List (Str × AV)} (B : Base w hs) (W : WR DO hs F g G h) (kh : ∀ a o, h.get? a = some o → s.heap.get? a = some o) (sz : h.objs.size ≤ s.heap.objs.size)
    (h0 : ∀ a r, pv0 a = some r → h.objs.size ≤ a ∧ ∃ o, s.heap.get? a = some o) (hb : Bnd DO F g s.heap pv0 bs as) (ks : ∀ a o, s.heap.get? a = some o → h₁.get? a = some o) (ns : h₁.Ns e.locals m) (hL : s.heap.objs.size ≤ e.locals)
    (hcs : ∀ x cx, cs.lookup x = some cx → e.cells.lookup x = some cx) (ap : cs.Pairwise fun x y => x.2 ≠ y.2) (ab : ∀ n c, (n, c) ∈ cs → e.locals < c)
    (hl : ∀ x v, bs.lookup x = some v → e.kindOf x = some .local → m x = some v) (hc : ∀ x cx, cs.lookup x = some cx → e.kindOf x = some .cell → h₁.IsCell cx (bs.lookup x)) (hcc : ∀ x cx, cs.lookup x = some cx → ∃ o, h₁.get? cx = some o)
    (hkd : ∀ p ∈ as, e.kindOf p.1 = some .local ∨ (e.kindOf p.1 = some .cell ∧ (cs.lookup p.1).isSome = true))
    (hun : ∀ p ∈ us, p.2 = AV.unb ∧ e.kindOf p.1 = some .cell ∧ (cs.lookup p.1).isSome = true)
    (hfr : ∀ p ∈ fs, ∃ d cx v o, p.2 = AV.con d ∧ e.kindOf p.1 = some .free ∧ e.cells.lookup p.1 = some cx ∧ F cx = some o ∧ o.data = .cell (some v) ∧ Rep DO F g v d) :
    ∃ pv, Rel ⟨w, DO, hs, K, B, e, h, F, g, [], []⟩ F g G (as ++ (us ++ fs)) h₁ pv m := by
  have glt : ∀ (k : Nat) a, g[k]? = some a → a < h.objs.size := fun k a q => by
    obtain ⟨_, _, vs, ds, _, ⟨n, z⟩, _⟩ := W.gl k a q
    exact Heap.lt_size z
  have hL' : h.objs.size ≤ e.locals := Nat.le_trans sz hL
  refine ⟨pvF e.locals cs pv0 g, WR.enter B W (fun a o q => ks a o (kh a o q)) ns hL' (fun a r q => ?_) (by unfold pvF; exact if_pos rfl) (fun k a q => ?_) fun x av q => ?_⟩
  · rcases pvF_inv q with rfl | ⟨x, z⟩ | z | z
    · exact .inl ⟨hL', let ⟨o, _, _, z, _⟩ := ns; ⟨o, z⟩⟩
    · exact .inl ⟨Nat.le_trans hL' (Nat.le_of_lt (ab x a (mem_of_lookup z))), hcc x a z⟩
    · obtain ⟨z1, o, z2⟩ := h0 a r z
      exact .inl ⟨z1, o, ks a o z2⟩
    · exact .inr z
  · have l := glt k a q
    rw [pvF_other ab (Nat.lt_of_lt_of_le l hL')]
    have : pv0 a = .none := by
      cases z : pv0 a with
      | none => rfl
      | some r => exact absurd (h0 a r z).1 (Nat.not_le.mpr l)
    rw [this]
    exact pg_some W.nd q
  · have q0 := q
    rw [List.lookup_append] at q
    obtain ⟨b1, b2⟩ := hb.look x
    have mono : ∀ {v av'}, AvOk DO F g s.heap pv0 x v av' → AvOk DO F g h₁ (pvF e.locals cs pv0 g) x v av' := fun y => y.mono (.refl F) (.refl g) fun a r p _ => by
      obtain ⟨_, o, z⟩ := h0 a r p
      refine ⟨?_, ks a⟩
      rw [pvF_other ab (Nat.lt_of_lt_of_le (Heap.lt_size z) hL), p]
    unfold VarOk
    cases qa : as.lookup x with
    | some av' =>
      rw [qa] at q
      cases q
      obtain ⟨v, e1, e2, e3⟩ := b1 av qa
      rcases hkd _ (mem_of_lookup qa) with hk | ⟨hk, hs⟩
      · have hk : e.kindOf x = some .local := hk
        dsimp only
        rw [hk]
        exact ⟨v, hl x v e1 hk, mono e3⟩
      · have hk : e.kindOf x = some .cell := hk
        obtain ⟨cx, hcx⟩ := Option.isSome_iff_exists.mp hs
        dsimp only
        rw [hk]
        exact ⟨cx, some v, hcs x cx hcx, e1 ▸ hc x cx hcx hk, .inl ⟨pvF_cell ap ab hcx, e2⟩, .inl ⟨v, rfl, mono e3⟩⟩
    | none =>
      rw [qa, Option.none_or, List.lookup_append] at q
      cases qu : us.lookup x with
      | some av' =>
        rw [qu] at q
        cases q
        obtain ⟨e1, hk, hs⟩ := hun _ (mem_of_lookup qu)
        have e1 : av = .unb := e1
        have hk : e.kindOf x = some .cell := hk
        obtain ⟨cx, hcx⟩ := Option.isSome_iff_exists.mp hs
        dsimp only
        rw [hk]
        subst e1
        exact ⟨cx, .none, hcs x cx hcx, b2 qa ▸ hc x cx hcx hk, .inl ⟨pvF_cell ap ab hcx, rfl⟩, .inr ⟨rfl, rfl⟩⟩
      | none =>
        rw [qu, Option.none_or] at q
        obtain ⟨d, cx, v, o, e1, hk, e2, e3, e4, e5⟩ := hfr _ (mem_of_lookup q)
        have e1 : av = .con d := e1
        have hk : e.kindOf x = some .free := hk
        dsimp only
        rw [hk]
        subst e1
        exact ⟨cx, some v, e2, ⟨o, ks _ _ (kh _ _ (W.sub _ _ e3)), e4⟩, .inr ⟨rfl, .inl ⟨o, e3⟩⟩, .inl ⟨v, rfl, e5⟩⟩
end
end Mine
end

section
open PySem PySem.W PyProof.Rows PySem.Calls PySem.Spec PySem.SeqAt
set_option Elab.async false
set_option backward.match.sparseCases false
set_option maxRecDepth 100000
namespace Mine

noncomputable def gdOf (r : String × Option Value) : D :=
  if r.1 = "NAN" then .tup [.int 0, .int 0] else if r.1 = "COMPARISONS" then .tup [.str (S "="), .str (S "!="), .str (S "<"), .str (S "<="), .str (S ">"), .str (S ">=")]
  else match r.2 with
    | some (.ref a) => .sta (.ref a)
    | some (.str s _) => .str s
    | some v => .sta v
    | .none => if ["int", "range", "str", "bool", "tuple"].contains r.1 then .sta (.type r.1) else .sta (.builtin r.1)
noncomputable def gdL : List (Str × D) := gtabS.map fun r => (S r.1, gdOf r)
noncomputable def gdT (n : Str) : Option D := gdL.lookup n
noncomputable def atrL : List (Addr × Str) := [(731, S "value"), (815, S "op"), (815, S "left"), (815, S "right"), (759, S "name"), (1083, S "tree"), (1083, S "variables"), (981, S "is_number"), (981, S "is_descending"), (981, S "upper_first")]
noncomputable def satL : List (Addr × Str) := [(731, S "value"), (815, S "op"), (815, S "left"), (815, S "right"), (759, S "name"), (981, S "is_number"), (981, S "is_descending"), (981, S "upper_first"),
  (1083, S "tree"), (1083, S "node"), (1083, S "position"), (1083, S "size"), (1083, S "variables"), (1083, S "names"), (1083, S "calls"), (1083, S "current"), (1083, S "ids")]
noncomputable def atrT (C : Addr) (n : Str) : Bool := atrL.contains (C, n)
noncomputable def satT (C : Addr) (n : Str) : Bool := satL.contains (C, n)
noncomputable def mthT (C : Addr) (n : Str) : Option Addr := if C = 1083 ∧ n = S "variable" then some 1073 else .none
noncomputable def arL : List (Addr × Nat) := [(1156, 1), (1094, 2), (1101, 2), (1108, 2), (1113, 0), (1118, 2), (1125, 1), (1132, 1), (1139, 4), (1146, 2), (1151, 3), (1044, 3), (1032, 2), (1027, 3), (1020, 3), (1013, 3), (999, 2), (1006, 3), (992, 2), (1039, 3),
  (963, 2), (937, 2), (224, 2), (217, 2), (164, 1), (150, 1), (143, 2), (157, 1), (45, 1), (45, 2), (30, 2), (37, 1), (52, 1), (59, 1), (80, 2), (918, 3), (172, 1), (978, 4), (749, 2), (721, 2), (805, 4), (1059, 6), (1073, 2)]
noncomputable def clsT (C : Addr) : Option Addr := if C = 981 then some 978 else if C = 759 then some 749 else if C = 731 then some 721 else if C = 815 then some 805 else if C = 1083 then some 1059 else .none

noncomputable def fnD : Data → Option FuncData
  | .func fd => some fd
  | _ => .none
theorem fnD_ok {d : Data} {fd : FuncData} (h : fnD d = some fd) : d = .func fd := by
  cases d <;> first | exact nn h | exact congrArg Data.func (Option.some.inj h)
noncomputable def fnOb (o : Obj) : Option FuncData := fnD o.data
noncomputable def fnLook (P : Params) (a : Addr) : Option FuncData := ((Ks P).lookup a).bind fnOb
noncomputable def dvOf (K : Frag) : Value → List Value
  | .ref T => match K.lookup T with
    | some ⟨_, _, .seq xs _, _⟩ => xs.toList
    | _ => []
  | _ => []
noncomputable def toD : Value → D
  | .int i _ => .int i
  | .bool b => .bool b
  | .none => .none
  | v => .sta v
theorem toD_rep {P : DOb} {F : Part} {g : List Addr} (v : Value) : Rep P F g v (toD v) := by
  cases v <;> first | exact .int _ _ | exact .bool _ | exact .none | exact .sta _
theorem toD_reps {P : DOb} {F : Part} {g : List Addr} : ∀ (l : List Value), Reps P F g l (l.map toD)
  | [] => .nil
  | v :: l => .cons (toD_rep v) (toD_reps l)
noncomputable def padA {α : Type} (ps : List Str) (df xs : List α) : List α := xs ++ df.drop (xs.length + df.length - ps.length)

noncomputable def unbs (names : List (Str × NameKind)) (as : List (Str × AV)) : List (Str × AV) := names.filterMap fun p => if p.2 == .cell && names.lookup p.1 == some .cell && (as.lookup p.1).isNone then some (p.1, AV.unb) else .none
noncomputable def fr0 (names : List (Str × NameKind)) (as : List (Str × AV)) : AEnv := as ++ (unbs names as ++ [])
noncomputable def nestF (fd : FuncData) : Bool := (fd.code == .ref 1150) && ((fd.qualname ++ ".<locals>.") ++ nestName == nestQual)

noncomputable def N0 : Nat := 100
noncomputable abbrev Hd := D → List D → GS → Option (D × GS)
noncomputable def cfgF (H : Hd) (fd : FuncData) : Cfg := ⟨fun x => fd.scope.names.lookup x, gdT, H, mthT, atrT, satT, nestF fd⟩
noncomputable def cfgN (H : Hd) (scope : Scope) : Cfg := ⟨fun x => scope.names.lookup x, gdT, H, mthT, atrT, satT, false⟩
noncomputable def stmtsOf : FuncBody → Option (List Stmt)
  | .stmts b => some b
  | _ => .none
theorem stmtsOf_ok {b : FuncBody} {l : List Stmt} (h : stmtsOf b = some l) : b = .stmts l := by
  cases b <;> first | exact nn h | exact congrArg FuncBody.stmts (Option.some.inj h)
noncomputable def outF : Fl → D
  | .ret d => d
  | .next => .none
noncomputable def outB (o : Option (Fl × X)) : Option (D × GS) := o.map fun p => (outF p.1, p.2.2)
noncomputable def runF (H : Hd) (fd : FuncData) (as : List (Str × AV)) (G : GS) : Option (Fl × X) := (stmtsOf fd.body).bind fun b => (rc N0).ex (cfgF H fd) (fr0 fd.scope.names as, G) b
noncomputable def callF (P : Params) (H : Hd) (fd : FuncData) (ds : List D) (G : GS) : Option (D × GS) :=
  bif (padA (psOf fd.params) (dvOf (Ks P) fd.defaults) (ds.map fun _ => Value.none)).length == (psOf fd.params).length then
    outB (runF H fd ((psOf fd.params).zip ((padA (psOf fd.params) ((dvOf (Ks P) fd.defaults).map toD) ds).map AV.d)) G)
  else .none
noncomputable def attrA : Expr → Bool
  | .Attribute b _ _ => (nameOf b).isSome
  | _ => false
noncomputable def attrS : Stmt → Bool
  | .Assign ts _ _ => (one ts).any attrA
  | _ => false
noncomputable def nextF : Fl → Bool
  | .next => true
  | _ => false
noncomputable def callC (P : Params) (H : Hd) (C : Addr) (fd : FuncData) (ds : List D) (G : GS) : Option (D × GS) := match psOf fd.params with
  | self :: ps => bif (padA ps (dvOf (Ks P) fd.defaults) (ds.map fun _ => Value.none)).length == ps.length then
      (runF H fd ((self, .ins C []) :: ps.zip ((padA ps ((dvOf (Ks P) fd.defaults).map toD) ds).map AV.d)) G).bind fun p => bif nextF p.1 && ((stmtsOf fd.body).any fun b => b.all attrS) && decide (fd.scope.names.lookup self = some .local) then
        (readX p.2.1 self).bind fun q => (objD q.1).bind fun w => bif decide (w.1 = C) then some (q.1, p.2.2) else .none
      else .none
    else .none
  | [] => .none
noncomputable def scopeN (scope : Scope) : Bool := (scope.kind == .function) && !scope.isCoroutine && !scope.isGenerator && scope.names.all fun p => !(p.2 == .cell)
noncomputable def namesN (scope : Scope) (a : Arg × Arg × Arg) (caps : List (Str × D)) : Bool := a.1.arg == Str.ofString "node" && a.2.1.arg == Str.ofString "position" && a.2.2.arg == Str.ofString "size" && decide (scope.names.lookup a.1.arg = some .local) && decide (scope.names.lookup a.2.1.arg = some .local) && decide (scope.names.lookup a.2.2.arg = some .local) && caps.all (fun p => decide (scope.names.lookup p.1 = some .free)) && decide (caps.map (·.1)).Nodup
noncomputable def callN (H : Hd) (params : Arguments) (body : List Stmt) (scope : Scope) (caps : List (Str × D)) (ds : List D) (G : GS) : Option (D × GS) := (three params.args).bind fun a => (three ds).bind fun d =>
  bif bareP params && scopeN scope && namesN scope a caps then
    outB ((rc N0).ex (cfgN H scope) ([(a.1.arg, .d d.1), (a.2.1.arg, .d d.2.1), (a.2.2.arg, .d d.2.2)] ++ ([] ++ caps.map fun p => (p.1, AV.con p.2)), G) body)
  else .none
noncomputable def callA (P : Params) (H : Hd) (a : Addr) (ds : List D) (G : GS) : Option (D × GS) := bif arL.contains (a, ds.length) then (fnLook P a).bind fun fd => callF P H fd ds G
  else (clsT a).bind fun fa => bif arL.contains (fa, ds.length + 1) then (fnLook P fa).bind fun fd => callC P H a fd ds G else .none
noncomputable def callH (P : Params) : Nat → Hd
  | 0 => fun _ _ _ => .none
  | k + 1 => fun fd ds G => match fd with
    | .sta v => (refOf v).bind fun a => callA P (callH P k) a ds G
    | .fn params body scope caps => callN (callH P k) params body scope caps ds G
    | _ => .none

/-- what the functions of the text have in common -/
noncomputable def okF (fd : FuncData) : Bool :=
  (fd.scope.kind == .function) && !fd.scope.isCoroutine && !fd.scope.isGenerator && (match fd.body with | .stmts _ => true | _ => false) && fd.closure.isEmpty && (fd.globals == mainGlobals) && (fd.builtins == builtinsNs) && decide (psOf fd.params).Nodup &&
  (psOf fd.params).all (fun p => fd.scope.names.lookup p == some .local || fd.scope.names.lookup p == some .cell)
noncomputable def plainOb (o : Obj) : Bool := (o.cls == .type "function") && o.dict.isNone && o.slots.toList.isEmpty

theorem fns_ok (P : Params) : ((Ks P).all fun p => (fnOb p.2).all fun fd => plainOb p.2 && okF fd && codeIn (Ks P) fd.code fd.qualname) = true := by kernel_rfl

theorem binds_all (P : Params) (S : Setting) (x : Nat → Value) : arL.map (fun r => (fnLook P r.1).bind fun fd => peek (Ks P) S (bindArgs fd ⟨(List.range r.2).map x, []⟩)) =
    arL.map (fun r => (fnLook P r.1).bind fun fd => some ((psOf fd.params).zip (padA (psOf fd.params) (dvOf (Ks P) fd.defaults) ((List.range r.2).map x)))) := by kernel_rfl
end Mine
end

section
open PySem PySem.W PyProof.Rows PySem.Calls PySem.Spec PySem.SeqAt
set_option Elab.async false
set_option backward.match.sparseCases false
set_option maxRecDepth 100000
namespace Mine

noncomputable def oSB : Option Bool → Bool | some true => true | _ => false
theorem kok_no (P : Params) : ((Ks P).lookup 1148).isNone = true := by kernel_rfl
theorem kok_code (P : Params) : codeHdIn (Ks P) 1150 1148 = true := by kernel_rfl
theorem kok_isi1 (P : Params) : (icL.all fun C => tcL.all fun C' => kitOne (Ks P) (.ref C) (.ref C') == some (C == C')) = true := by kernel_rfl
theorem kok_isi2 (P : Params) : (tzL.all fun C => tyL.all fun C' => kitOne (Ks P) (.type C) (.type C') == some (C == C')) = true := by kernel_rfl
theorem kok_own (P : Params) : (icL.all fun C => plainGet (Ks P) C (S "__class__") && hasDictIn (Ks P) C && (findIn (Ks P) (.ref C) (S "__class__") == some (some (.builtin "object.__class__"))) &&
  (specialIn (Ks P) (.builtin "object.__class__") (S "__get__") == some (some (.builtin "getset_descriptor.__get__"))) && (takesIn (Ks P) (.builtin "object.__class__") == some true) && (mroIn (Ks P) C (.type "object") == some true)) = true := by kernel_rfl
theorem atr_all (P : Params) : (atrL.all fun r => plainGet (Ks P) r.1 r.2 && hasDictIn (Ks P) r.1 && (match findIn (Ks P) (.ref r.1) r.2 with | some attr => noGet (Ks P) attr | .none => false)) = true := by kernel_rfl
theorem sat_all (P : Params) : (satL.all fun r => (findIn (Ks P) (.ref r.1) (S "__setattr__") == some (some (.builtin "object.__setattr__"))) && plainOver (Ks P) r.1 && (match takerIn (Ks P) r.1 r.2 with | some .none => true | _ => false) && hasDictIn (Ks P) r.1) = true := by kernel_rfl
theorem mth_all (P : Params) : (plainGet (Ks P) 1083 (S "variable") && (findIn (Ks P) (.ref 1083) (S "variable") == some (some (.ref 1073))) && isFn (Ks P) (.ref 1073)) = true := by kernel_rfl
noncomputable def clsL : List (Addr × Addr) := [(981, 978), (759, 749), (731, 721), (815, 805), (1083, 1059)]
theorem cls_all (P : Params) : (clsL.all fun r => makesIn (Ks P) r.1 && (findIn (Ks P) (.ref r.1) (S "__init__") == some (some (.ref r.2))) && (typeIn (Ks P) (.ref r.2) == some (.type "function")) && keepIn (Ks P) (.ref r.1)) = true := by kernel_rfl

theorem kok (P : Params) : KOk (Ks P) where
  no1148 := by
    have := kok_no P
    cases h : (Ks P).lookup 1148 with
    | none => rfl
    | some o => rw [h] at this; cases this
  code1150 := kok_code P
  isi1 C C' h := by
    obtain ⟨h1, h2⟩ := Bool.and_eq_true_iff.mp h
    exact eq_of_beq (List.all_eq_true.mp (List.all_eq_true.mp (kok_isi1 P) C (List.contains_iff_mem.mp h1)) C' (List.contains_iff_mem.mp h2))
  isi2 C C' h := by
    obtain ⟨h1, h2⟩ := Bool.and_eq_true_iff.mp h
    exact eq_of_beq (List.all_eq_true.mp (List.all_eq_true.mp (kok_isi2 P) C (List.contains_iff_mem.mp h1)) C' (List.contains_iff_mem.mp h2))
  own C h := by
    have := List.all_eq_true.mp (kok_own P) C (List.contains_iff_mem.mp h)
    simp only [Bool.and_eq_true, beq_iff_eq] at this
    obtain ⟨⟨⟨⟨⟨a, b⟩, c⟩, d⟩, e⟩, f⟩ := this
    exact ⟨a, b, c, d, e, f⟩

/-- what a global name means -/
noncomputable def goodB (r : String × Option Value) : Bool := match gdOf r with
  | .sta v => (match r.2 with
    | some v' => v' == v
    | .none => (bootBuiltins (S r.1) == some v) && !(S r.1 == S "__name__"))
  | .str s => (match r.2 with | some (.str s' _) => s' == s | _ => false)
  | .tup _ => if r.1 = "NAN" then r.2 == some (.ref 22) else if r.1 = "COMPARISONS" then r.2 == some (.ref 904) else false
  | _ => false
theorem good_all : gtabS.all goodB = true := by decide +kernel
theorem nan_at (P : Params) : (Ks P).lookup 22 = some ⟨.type "tuple", none, .seq #[.int 0 196, .int 0 197] 0, #[]⟩ := by kernel_rfl
theorem cmp_at (P : Params) : (Ks P).lookup 904 = some ⟨.type "tuple", none, .seq #[.str (S "=") 1443, .str (S "!=") 1444, .str (S "<") 1445, .str (S "<=") 1446, .str (S ">") 1447, .str (S ">=") 1448] 0, #[]⟩ := by kernel_rfl
end Mine
end

section
open PySem PySem.W PyProof.Rows PySem.Calls PySem.Spec PySem.SeqAt
set_option Elab.async false
set_option backward.match.sparseCases true
set_option maxRecDepth 100000
namespace Mine

noncomputable def dob (prog : Program) (w : World) : DOb := fun o kvs => o.IsDictOf (strKind prog w) kvs

section
variable {prog : Program} {c : FC} {A : Around} {F : Part} {g : List Addr} {G : GS} {s : Shared} {x : X} {k : Nat}

theorem lookup_mem2 {α β : Type} [BEq α] [LawfulBEq α] : ∀ {l : List (α × β)} {a : α} {b : β}, l.lookup a = some b → (a, b) ∈ l
  | (k, v) :: r, a, b, h => by
    rw [List.lookup_cons] at h
    cases hb : a == k with
    | true => rw [hb] at h; cases h; rw [eq_of_beq hb]; exact .head _
    | false => rw [hb] at h; exact .tail _ (lookup_mem2 h)

theorem kin_at (hK : c.K = Ks c.w.params) (S : St c x F g s) {a : Addr} {o : Obj} (h : (Ks c.w.params).lookup a = some o) (n : a ≠ 1148) : F a = some o := by
  obtain ⟨pv, m, R⟩ := S.rel
  exact R.base a o (c.B.inK a o h) n

theorem gd_ok (hK : c.K = Ks c.w.params) (hg : c.e.globals = mainGlobals) (hb : c.e.builtins = builtinsNs) {n : Str} {d : D} (h : gdT n = some d) (S : St c x F g s) (Q : Value → Shared → Prop) (E : Value → Shared → Prop) (q : ∀ v, Rep c.DO F g v d → Q v s) :
    wpAny (model prog c.w) A (loadGlobal c.e n) Q E s := by
  have hm := lookup_mem2 h
  obtain ⟨r, hr, e⟩ := List.mem_map.mp hm
  obtain ⟨e1, e2⟩ := Prod.mk.inj e
  have good := List.all_eq_true.mp good_all r hr
  obtain ⟨pv, m, R⟩ := S.rel
  obtain ⟨mg, hmg, hrow⟩ := c.B.globs
  have ng : mainGlobals ≠ 1148 := by decide +kernel
  have nb : builtinsNs ≠ 1148 := by decide +kernel
  have hmg' := hg ▸ R.nsAt ng hmg
  have hn : mg n = r.2 := by rw [← e1]; exact hrow (Mine.S r.1, r.2) (List.mem_map_of_mem hr)
  have glob : ∀ v, r.2 = some v → Rep c.DO F g v d → wpAny (model prog c.w) A (loadGlobal c.e n) Q E s := fun v hv rp => loadGlobal_global hmg' (hn.trans hv) (q v rp)
  unfold goodB at good
  rw [← e2] at glob q
  split at good
  · rename_i v hd
    rw [hd] at glob q
    split at good
    · rename_i v' hv
      rw [eq_of_beq good] at hv
      exact glob v hv (.sta v)
    · rename_i hv
      simp only [Bool.and_eq_true, beq_iff_eq, Bool.not_eq_true', beq_eq_false_iff_ne] at good
      obtain ⟨mb, hmb, hbu⟩ := c.B.bu
      have hmb' := hb ▸ R.nsAt nb hmb
      exact loadGlobal_builtin hmg' (hn.trans hv) hmb' ((hbu n (by rw [← e1]; exact good.2)).trans (by rw [← e1]; exact good.1)) (q v (.sta v))
  · rename_i z hd
    rw [hd] at glob
    split at good
    · rename_i z' t hv
      rw [eq_of_beq good] at hv
      exact glob _ hv (.str z t)
    · cases good
  · rename_i l hd
    split at good
    · rename_i h1
      have hv := eq_of_beq good
      refine glob _ hv ?_
      have : gdOf r = .tup [.int 0, .int 0] := by unfold gdOf; rw [if_pos h1]
      rw [this]
      exact .tup (vs := [.int 0 196, .int 0 197]) (kin_at hK S (nan_at _) (by decide)) rfl rfl (.cons (.int _ _) (.cons (.int _ _) .nil))
    · split at good
      · rename_i h0 h1
        have hv := eq_of_beq good
        refine glob _ hv ?_
        have : gdOf r = .tup [.str (Mine.S "="), .str (Mine.S "!="), .str (Mine.S "<"), .str (Mine.S "<="), .str (Mine.S ">"), .str (Mine.S ">=")] := by unfold gdOf; rw [if_neg h0, if_pos h1]
        rw [this]
        exact .tup (vs := [.str (Mine.S "=") 1443, .str (Mine.S "!=") 1444, .str (Mine.S "<") 1445, .str (Mine.S "<=") 1446, .str (Mine.S ">") 1447, .str (Mine.S ">=") 1448]) (kin_at hK S (cmp_at _) (by decide)) rfl rfl
          (.cons (.str _ _) (.cons (.str _ _) (.cons (.str _ _) (.cons (.str _ _) (.cons (.str _ _) (.cons (.str _ _) .nil))))))
      · cases good
  · cases good

/-- a frame of this program's world -/
structure Wd (prog : Program) (c : FC) : Prop where
  K : c.K = Ks c.w.params
  DO : c.DO = dob prog c.w
  gl : c.e.globals = mainGlobals
  bu : c.e.builtins = builtinsNs
theorem Wd.same {c' : FC} (W : Wd prog c) (h : Same c c') : Wd prog c' := ⟨by rw [h.K, W.K, h.w], by rw [h.DO, W.DO, h.w], h.gl.trans W.gl, h.bu.trans W.bu⟩
theorem Wd.fc (W : Wd prog c) : FcOk prog c := ⟨by rw [DOk, W.DO]; exact fun o kvs => Iff.rfl, W.K ▸ kok _, W.K ▸ c.B.inK⟩

/-- what a table of calls must be -/
structure HdOk (prog : Program) (k : Nat) (P : Params) (H : Hd) : Prop where
  call : ∀ fd ds G d G', H fd ds G = some (d, G') → ∀ c, c.w.params = P → Wd prog c → ∀ A, Room A k → ∀ F g s σ v vs, St c (σ, G) F g s → Rep c.DO F g v fd → Reps c.DO F g vs ds → At prog c A F g s (PySem.call v vs) (IsD c d) (σ, G')
  keeper : ∀ fd ds G r, H fd ds G = some r → ∀ c, c.w.params = P → Wd prog c → ∀ x F g s v, St c x F g s → Rep c.DO F g v fd → ∃ kk, (kk = Keeper.frame ∨ kk = Keeper.machine ∨ kk = Keeper.boundFrame) ∧ Looks (model prog c.w) s.heap (keeperOf v) kk

theorem cfg_ok {H : Hd} {cfg : Cfg} {k : Nat} (W : Wd prog c) (HO : HdOk prog k c.w.params H) (h1 : c.e.kindOf = cfg.kd) (h2 : c.e.scope.kind = .function) (h3 : cfg.gd = gdT) (h4 : cfg.H = H) (h5 : cfg.mth = mthT) (h6 : cfg.atr = atrT) (h7 : cfg.sat = satT)
    (h8 : cfg.nest = true → c.e.code = .ref 1150 ∧ c.e.qual ++ nestName = nestQual) : CfgX prog k c cfg where
  kd := h1
  kind := h2
  gd n d e c' S A F g s x St Q E q := by
    rw [h3] at e
    have W' := W.same S
    exact gd_ok W'.K W'.gl W'.bu e St Q E q
  fc := W.fc
  call fd ds G d G' e c' S := by rw [h4] at e; exact HO.call fd ds G d G' e c' (by rw [S.w]) (W.same S)
  keeper fd ds G r e c' S := by rw [h4] at e; exact HO.keeper fd ds G r e c' (by rw [S.w]) (W.same S)
  atr C n e := by
    rw [h6] at e
    have := List.all_eq_true.mp (atr_all c.w.params) (C, n) (List.contains_iff_mem.mp e)
    simp only [Bool.and_eq_true] at this
    obtain ⟨⟨a, b⟩, d⟩ := this
    rw [W.K]
    refine ⟨a, b, ?_⟩
    split at d
    · exact ⟨_, by assumption, d⟩
    · cases d
  mth C n f e := by
    rw [h5] at e
    unfold mthT at e
    split at e
    · rename_i hc
      cases e
      obtain ⟨rfl, rfl⟩ := hc
      have := mth_all c.w.params
      simp only [Bool.and_eq_true, beq_iff_eq] at this
      rw [W.K]
      exact ⟨this.1.1, this.1.2, this.2⟩
    · cases e
  sat C n e := by
    rw [h7] at e
    have := List.all_eq_true.mp (sat_all c.w.params) (C, n) (List.contains_iff_mem.mp e)
    simp only [Bool.and_eq_true, beq_iff_eq] at this
    obtain ⟨⟨⟨a, b⟩, d⟩, e⟩ := this
    rw [W.K]
    refine ⟨a, b, ?_, e⟩
    split at d
    · assumption
    · cases d
  nest e := ⟨(h8 e).1, W.gl, (h8 e).2⟩

theorem Room.step {env : Env} (R : Room A (k + 1)) : Room (A.deeper env) k := by
  obtain ⟨h1, h2, h3⟩ := R
  refine ⟨?_, ?_, h3⟩
  · show A.depth + 1 + 2 * k < recursionLimit; omega
  · show A.units + 3 + 16 * k + 100 < cLine; omega
end

/-- calls of a plain function, its values bound -/
theorem call_cells {prog : Program} {w : World} {A : Around} {s : Shared} {R : Result → Shared → Prop} {a : Addr} {o : Obj} {fd : FuncData} {body : List Stmt} {args : Args} {binds : List (Str × Value)}
    (hroom : A.depth < recursionLimit) (ho : s.heap.get? a = some o) (hdata : o.data = .func fd) (hlim : s.heap.NoLimit) (hcd : s.heap.CodeRec fd.code fd.qualname)
    (hbody : fd.body = .stmts body) (hbind : BindsTo s fd args binds) (hclo : fd.closure = [])
    (hkind : ∀ x ∈ binds, fd.scope.names.lookup x.1 = some .local ∨ (fd.scope.names.lookup x.1 = some .cell ∧ ((cellsFrom (s.heap.objs.size + 1) fd.scope.names []).lookup x.1).isSome = true))
    (hco : fd.scope.isCoroutine = false) (hgen : fd.scope.isGenerator = false) (hk : fd.scope.kind = .function)
    (h : ∀ s₁, InCallC s (callEnvC fd s.heap.objs.size a).locals (bindL (callEnvC fd s.heap.objs.size a).kindOf binds fun _ => none) (callEnvC fd s.heap.objs.size a).cells
        (bindC (callEnvC fd s.heap.objs.size a).kindOf binds fun _ => none) s₁ → ∀ E,
      wpAny (model prog w) (A.deeper (callEnvC fd s.heap.objs.size a)) (execs body (callEnvC fd s.heap.objs.size a)) (fun f s' => R (.ok (.ret (match f with | .ret v => v | _ => .none))) s') E s₁) :
    codeAny (model prog w) A (.call (.ref a) args) R s := by
  refine codeAny_call_function hroom ho hdata hco hgen hbody hcd (hbind _ _ _ _ ?_)
  rw [hclo]
  refine wpAny_newFunctionEnv_cells hk hkind fun env he s' x => ?_
  subst he
  exact ⟨hlim.keeps x.toInCall.keep, codeAny_func (h s' x _)⟩

theorem cells_some {x : Str} : ∀ (n : Nat) (names : List (Str × NameKind)) (acc : List (Str × Addr)), ((x, NameKind.cell) ∈ names ∨ (acc.lookup x).isSome = true) → ((cellsFrom n names acc).lookup x).isSome = true
  | n, [], acc, h => h.resolve_left (fun z => nomatch z)
  | n, (y, kd) :: r, acc, h => by
    have up : (acc.lookup x).isSome = true → (((y, n) :: acc).lookup x).isSome = true := fun z => by
      rw [List.lookup_cons]
      split
      · rfl
      · exact z
    unfold cellsFrom
    split
    · refine cells_some (n + 1) r _ ?_
      rcases h with h | h
      · rcases List.mem_cons.mp h with h | h
        · cases h
          refine .inr ?_
          rw [List.lookup_cons]
          simp
        · exact .inl h
      · exact .inr (up h)
    · rename_i hk
      refine cells_some n r _ ?_
      rcases h with h | h
      · rcases List.mem_cons.mp h with h | h
        · cases h; exact absurd rfl hk
        · exact .inl h
      · exact .inr h

theorem fn_look {P : Params} {a : Addr} {fd : FuncData} (h : fnLook P a = some fd) : (Ks P).lookup a = some ⟨.type "function", .none, .func fd, #[]⟩ ∧ okF fd = true ∧ codeIn (Ks P) fd.code fd.qualname = true :=
  bnd h fun o h1 h2 => by
    have h3 := List.all_eq_true.mp (fns_ok P) (a, o) (lookup_mem2 h1)
    rw [h2] at h3
    refine and_t h3 fun h3 c5 => and_t h3 fun h3 c4 => and_t h3 fun h3 c3 => and_t h3 fun c1 c2 => ?_
    refine ⟨?_, c4, c5⟩
    have e1 : o.cls = .type "function" := eq_of_beq c1
    have e2 : o.dict = .none := Option.isNone_iff_eq_none.mp c2
    have e3 : o.data = .func fd := fnD_ok h2
    have e4 : o.slots = #[] := congrArg List.toArray (List.isEmpty_iff.mp c3)
    rw [h1, ← e1, ← e2, ← e3, ← e4]

theorem bindsTo_ok {P : Params} {a : Addr} {n : Nat} {fd : FuncData} {s : Shared} (X : (Ks P).In s.heap) (ha : arL.contains (a, n) = true) (hf : fnLook P a = some fd) {vs : List Value} (hv : vs.length = n) :
    BindsTo s fd ⟨vs, []⟩ ((psOf fd.params).zip (padA (psOf fd.params) (dvOf (Ks P) fd.defaults) vs)) := by
  have hx : (List.range n).map (fun i => vs.getD i .none) = vs := by
    refine List.ext_getElem (by simp [hv]) fun i h1 h2 => ?_
    simp [List.getD_eq_getElem?_getD, h2]
  refine kp_binds X fun S => ?_
  have := binds_all P S (fun i => vs.getD i .none)
  have := List.map_inj_left.mp this (a, n) (List.contains_iff_mem.mp ha)
  dsimp only at this
  rw [hf, hx] at this
  exact this
end Mine
end

section
open PySem PySem.W PyProof.Rows PySem.Calls PySem.Spec PySem.SeqAt
set_option Elab.async false
set_option backward.match.sparseCases true
set_option maxRecDepth 100000
namespace Mine

section
variable {prog : Program} {c : FC} {A : Around} {cfg : Cfg} {r : Rc} {x x' : X} {F F' : Part} {g g' : List Addr} {G G' : GS} {s s' : Shared} {k : Nat} {v : Value} {d : D} {vs : List Value} {ds : List D} {fl : Fl}

theorem attr_ok1 {st : Stmt} (RO : RcOk prog k r) (R : Room A k) (O : CfgX prog k c cfg) (ha : attrS st = true) (h : stepS r cfg x st = some (fl, x')) : Ev prog c A x (exec st c.e) (IsF c fl) x' := by
  cases st with
  | Assign ts e p =>
    refine bnd h fun t ht h9 => ?_
    cases one_ok ht
    cases t with
    | Attribute b n ap => exact assA_ok RO R O h9
    | _ => exact Bool.noConfusion ha
  | _ => exact Bool.noConfusion ha

theorem inits_ok (RO : RcOk prog k r) (R : Room A k) (O : CfgX prog k c cfg) : ∀ (ss : List Stmt) (x : X) (f : Fl) (x' : X), ss.all attrS = true → exs (stepS r cfg) x ss = some (f, x') → Ev prog c A x (execs ss c.e) (IsF c f) x'
  | [], x, f, x', _, h => smx (P := fun f x' => Ev prog c A x _ (IsF c f) x') h fun F g s S Q E K => wpAny_execs_nil (K .next F g s S (.refl F g s) trivial)
  | st :: ss, x, f, x', ha, h => by
    refine and_t ha fun a1 a2 => bnd h fun p h1 h => ?_
    obtain ⟨f1, x1⟩ := p
    intro F g s S Q E K
    refine wpAny_execs_cons (attr_ok1 RO R O a1 h1 F g s S _ _ fun fl F1 g1 s1 S1 T1 q => ?_)
    cases f1 with
    | next => cases fl with
      | next => exact inits_ok RO R O ss x1 f x' a2 h F1 g1 s1 S1 Q E fun v F2 g2 s2 S2 T2 q2 => K v F2 g2 s2 S2 (T1.trans T2) q2
      | _ => exact q.elim
    | ret d => cases fl with
      | ret v => cases h; exact K (.ret v) F1 g1 s1 S1 T1 q
      | _ => exact q.elim

theorem zip_fst {α β : Type} : ∀ (ps : List α) (l : List β), l.length = ps.length → (ps.zip l).map (·.1) = ps
  | [], _, _ => rfl
  | p :: ps, [], h => by cases h
  | p :: ps, b :: l, h => by
    simp only [List.zip_cons_cons, List.map_cons]
    rw [zip_fst ps l (by simpa using h)]
theorem bnd_zip {P : DOb} {h : Heap} {pv : Priv} : ∀ (ps : List Str) (vs : List Value) (ds : List D), Reps P F g vs ds → Bnd P F g h pv (ps.zip vs) (ps.zip (ds.map AV.d))
  | [], _, _, _ => .nil
  | p :: ps, _, _, .nil => .nil
  | p :: ps, v :: vs, d :: ds, .cons r rs => .cons rfl r (bnd_zip ps vs ds rs)
theorem Reps.pad {P : DOb} {ps : List Str} {dv : List Value} {vs : List Value} {ds : List D} (r : Reps P F g vs ds) : Reps P F g (padA ps dv vs) (padA ps (dv.map toD) ds) := by
  unfold padA
  rw [List.length_map, ← r.len]
  exact r.app ((toD_reps dv).drop _)

theorem unbs_spec {names : List (Str × NameKind)} {as : List (Str × AV)} {p : Str × AV} (h : p ∈ unbs names as) : p.2 = .unb ∧ names.lookup p.1 = some .cell := by
  unfold unbs at h
  obtain ⟨q, h1, h2⟩ := List.mem_filterMap.mp h
  split at h2
  · rename_i hc
    cases h2
    simp only [Bool.and_eq_true, beq_iff_eq] at hc
    exact ⟨rfl, hc.1.2⟩
  · cases h2

/-- a function's frame, from its call on -/
theorem fn_run {h hs : Heap} {w : World} {B : Base w hs} {a : Addr} {fd : FuncData} {b : List Stmt} {vals : List Value} {binds : List (Str × Value)} {as : List (Str × AV)} {pv0 : Priv} {R : Result → Shared → Prop} (hd : A.depth < recursionLimit)
    (hfd : fnLook w.params a = some fd) (hbd : fd.body = .stmts b) (W : WR (dob prog w) hs F g G h) (kh : ∀ a o, h.get? a = some o → s.heap.get? a = some o) (sz : h.objs.size ≤ s.heap.objs.size) (gens : s.gens = #[])
    (h0 : ∀ a r, pv0 a = some r → h.objs.size ≤ a ∧ ∃ o, s.heap.get? a = some o) (hb : Bnd (dob prog w) F g s.heap pv0 binds as) (hbind : (Ks w.params).In s.heap → BindsTo s fd ⟨vals, []⟩ binds)
    (hnames : binds.map (·.1) = psOf fd.params) (has : as.map (·.1) = psOf fd.params)
    (K : ∀ (e : Env) (s₁ : Shared) (pv : Priv) (m : Str → Option Value), e.kindOf = (fun x => fd.scope.names.lookup x) → e.scope.kind = .function → e.globals = mainGlobals → e.builtins = builtinsNs → e.code = fd.code → e.qual = fd.qualname ++ ".<locals>." →
      Rel ⟨w, dob prog w, hs, Ks w.params, B, e, h, F, g, [], []⟩ F g G (fr0 fd.scope.names as) s₁.heap pv m → (∀ x v, binds.lookup x = some v → e.kindOf x = some .local → m x = some v) → s₁.gens = #[] → s₁.os = s.os → ∀ E,
      wpAny (model prog w) (A.deeper e) (execs b e) (fun f s' => R (.ok (.ret (match f with | .ret v => v | _ => .none))) s') E s₁) :
    codeAny (model prog w) A (.call (.ref a) ⟨vals, []⟩) R s := by
  obtain ⟨l1, l2, l3⟩ := fn_look hfd
  unfold okF at l2
  simp only [Bool.and_eq_true, beq_iff_eq, Bool.not_eq_true', decide_eq_true_eq] at l2
  obtain ⟨⟨⟨⟨⟨⟨⟨⟨hk, hco⟩, hgen⟩, _⟩, hclo⟩, hgl⟩, hbl⟩, nd⟩, hps⟩ := l2
  have X : (Ks w.params).In s.heap := fun a o e => kh a o (W.sub a o (W.base a o (B.inK a o e) fun z => by
    have := kok_no w.params
    subst z; rw [e] at this; cases this))
  have nd' : (binds.map (·.1)).Nodup := hnames ▸ nd
  have kd : ∀ p ∈ psOf fd.params, fd.scope.names.lookup p = some .local ∨ (fd.scope.names.lookup p = some .cell ∧ ((cellsFrom (s.heap.objs.size + 1) fd.scope.names []).lookup p).isSome = true) := fun p hp => by
    have := List.all_eq_true.mp hps p hp
    simp only [Bool.or_eq_true, beq_iff_eq] at this
    exact this.imp id fun z => ⟨z, cells_some _ _ _ (.inl (lookup_mem2 z))⟩
  refine call_cells (fd := fd) hd (X _ _ l1) rfl (W.lim.keeps kh) (codeRec_of X l3) hbd (hbind X) (List.isEmpty_iff.mp hclo) (fun p hp => kd _ (hnames ▸ List.mem_map_of_mem hp)) hco hgen hk fun s₁ I E => ?_
  obtain ⟨⟨⟨hh, tk, rfl⟩, ns, keep, fresh⟩, cell, apart, above⟩ := I
  obtain ⟨pv, R1⟩ := enter_fn (w := w) (K := Ks w.params) (e := callEnvC fd s.heap.objs.size a) (cs := (callEnvC fd s.heap.objs.size a).cells) (us := unbs fd.scope.names as) (fs := []) B W kh sz h0 hb keep ns fresh (fun _ _ z => z) apart above
    (fun x v e1 e2 => by rw [bindL_look e2 _ _ nd', e1]; rfl) (fun x cx e1 e2 => by
      have := cell x cx e1
      rw [bindC_look (by rw [e2]; exact fun z => nomatch z) _ _ nd', Option.or_none] at this
      exact this) (fun x cx e1 => let ⟨o, z, _⟩ := cell x cx e1; ⟨o, z⟩)
    (fun p hp => kd _ (has ▸ List.mem_map_of_mem hp)) (fun p hp => by
      obtain ⟨z1, z2⟩ := unbs_spec hp
      exact ⟨z1, z2, cells_some _ _ _ (.inl (lookup_mem2 z2))⟩) (fun p hp => nomatch hp)
  exact K (callEnvC fd s.heap.objs.size a) _ pv _ rfl hk hgl hbl rfl rfl R1 (fun x v e1 e2 => by rw [bindL_look e2 _ _ nd', e1]; rfl) gens rfl E

theorem fn_cfg {H : Hd} {fd : FuncData} (W : Wd prog c) (HO : HdOk prog k c.w.params H) (h1 : c.e.kindOf = (fun x => fd.scope.names.lookup x)) (h2 : c.e.scope.kind = .function) (h3 : c.e.code = fd.code) (h4 : c.e.qual = fd.qualname ++ ".<locals>.") : CfgX prog k c (cfgF H fd) :=
  cfg_ok W HO h1 h2 rfl rfl rfl rfl rfl fun h => by
    have h : nestF fd = true := h
    unfold nestF at h
    simp only [Bool.and_eq_true, beq_iff_eq] at h
    exact ⟨h3.trans h.1, by rw [h4]; exact h.2⟩

/-- the caller goes on -/
theorem St.ret {c1 : FC} {x1 : X} {σ : AEnv} (S : St c (σ, G) F g s) (S1 : St c1 x1 F' g' s') (h1 : c1.DO = c.DO) (h2 : c1.hs = c.hs) (h3 : c1.h0 = s.heap) (h4 : c1.F0 = F) (h5 : c1.g0 = g) : St c (σ, x1.2) F' g' s' := by
  obtain ⟨pv, m, R⟩ := S.rel
  obtain ⟨pv1, m1, R1⟩ := S1.rel
  have W1 := R1.wr
  have B1 := R1.out
  rw [h1, h2] at W1
  rw [h3, h4, h5] at B1
  obtain ⟨pv', R3, _⟩ := R.back W1 B1
  exact ⟨⟨pv', m, R3⟩, S1.gens⟩

theorem out_ok {f : Flow} : FlRep c F g f fl → Rep c.DO F g (match f with | .ret v => v | _ => .none) (outF fl) := by
  intro q
  cases fl with
  | next => cases f with
    | next => exact .none
    | _ => exact q.elim
  | ret d => cases f with
    | ret v => exact q
    | _ => exact q.elim
theorem pad_len {P : DOb} {ps : List Str} {dv : List Value} (r : Reps P F g vs ds) (h : ((padA ps dv (ds.map fun _ => Value.none)).length == ps.length) = true) : (padA ps dv vs).length = ps.length ∧ ((padA ps (dv.map toD) ds).map AV.d).length = ps.length := by
  have e : (padA ps dv vs).length = ps.length := by
    rw [← eq_of_beq h]
    unfold padA
    rw [List.length_append, List.length_append, List.length_map, List.length_drop, List.length_drop, r.len]
  exact ⟨e, by rw [List.length_map, ← Reps.len (Reps.pad r), e]⟩
theorem callF_ok {H : Hd} {a : Addr} {fd : FuncData} (HO : HdOk prog k c.w.params H) (W : Wd prog c) (R0 : Room A (k + 1)) (ha : arL.contains (a, ds.length) = true) (hfd : fnLook c.w.params a = some fd) (h : callF c.w.params H fd ds G = some (d, G'))
    {σ : AEnv} (S : St c (σ, G) F g s) (r : Reps c.DO F g vs ds) : At prog c A F g s (PySem.call (.ref a) vs) (IsD c d) (σ, G') := by
  refine bt h fun hz h => mpx (P := fun d G' => At prog c A F g s (PySem.call (.ref a) vs) (IsD c d) (σ, G')) h fun p hrun => bnd hrun fun b hb hrun => ?_
  intro Q E Kq
  obtain ⟨hz, hz2⟩ := pad_len r hz
  obtain ⟨pv0, m0, Rel0⟩ := S.rel
  have hW := Rel0.wr
  rw [W.DO] at hW r
  refine wpAny_call (fn_run (pv0 := fun _ => .none) (B := c.B) (by have := R0.dep; omega) hfd (stmtsOf_ok hb) hW (fun _ _ z => z) (Nat.le_refl _) S.gens (fun _ _ z => nomatch z) (bnd_zip _ _ _ (Reps.pad r)) (fun X => bindsTo_ok X ha hfd r.len) (zip_fst _ _ hz) (zip_fst _ _ hz2) fun e s₁ pv m k1 k2 k3 k4 k5 k6 R1 _ g1 o1 E' => ?_)
  refine (rc_ok N0).ex ⟨c.w, dob prog c.w, c.hs, Ks c.w.params, c.B, e, s.heap, F, g, [], []⟩ (A.deeper e) (cfgF H fd) _ b p.1 p.2 rfl R0.step (fn_cfg ⟨rfl, rfl, k3, k4⟩ HO k1 k2 k5 k6) hrun F g s₁ ⟨⟨pv, m, R1⟩, g1⟩ _ E' fun f F' g' s' S' T' q => ?_
  exact Kq _ F' g' s' (S.ret S' W.DO.symm rfl rfl rfl rfl) ⟨T'.le, T'.pre, T'.os.trans o1⟩ (by show Rep c.DO F' g' _ _; rw [W.DO]; exact out_ok q)
end
end Mine
end

section
open PySem PySem.W PyProof.Rows PySem.Calls PySem.Spec PySem.SeqAt
set_option Elab.async false
set_option backward.match.sparseCases true
set_option maxRecDepth 100000
namespace Mine

section
variable {prog : Program} {c : FC} {A : Around} {cfg : Cfg} {r : Rc} {x x' : X} {F F' : Part} {g g' : List Addr} {G G' : GS} {s s' : Shared} {k : Nat} {v : Value} {d : D} {vs : List Value} {ds : List D} {fl : Fl}

theorem Rel.pinned {h : Heap} {σ : AEnv} {pv : Priv} {m : Str → Option Value} (R : Rel c F g G σ h pv m) {P : List (Str × Value)} (hp : ∀ p ∈ P, m p.1 = some p.2) : Rel (c.pn P) F g G σ h pv m := { R with pins := hp }

theorem under_room {C : Addr} {rest : List Value} (R : Room A (k + 1)) : (A.under (.builtin "type.__call__" ⟨.ref C :: rest, []⟩)).depth < recursionLimit ∧ ∀ e, Room ((A.under (.builtin "type.__call__" ⟨.ref C :: rest, []⟩)).deeper e) k := by
  have hw : (Code.builtin "type.__call__" ⟨.ref C :: rest, []⟩).weight ≤ 1 := by
    show _ ≤ 1
    have : (Code.builtin "type.__call__" ⟨.ref C :: rest, []⟩).weight = 1 := by rfl
    omega
  have hu : (Code.builtin "type.__call__" ⟨.ref C :: rest, []⟩).cUnits ≤ 8 := by
    have : (Code.builtin "type.__call__" ⟨.ref C :: rest, []⟩).cUnits = 1 := by rfl
    omega
  obtain ⟨h1, h2, h3⟩ := R
  refine ⟨?_, fun e => ⟨?_, ?_, h3⟩⟩
  · show A.depth + (Code.builtin "type.__call__" ⟨.ref C :: rest, []⟩).weight < recursionLimit; omega
  · show A.depth + (Code.builtin "type.__call__" ⟨.ref C :: rest, []⟩).weight + 1 + 2 * k < recursionLimit; omega
  · show A.units + (Code.builtin "type.__call__" ⟨.ref C :: rest, []⟩).cUnits + 3 + 16 * k + 100 < cLine; omega

theorem cls_at {P : Params} {C fa : Addr} (h : clsT C = some fa) : makesIn (Ks P) C = true ∧ findIn (Ks P) (.ref C) "__init__" = some (some (.ref fa)) ∧ typeIn (Ks P) (.ref fa) = some (.type "function") ∧ keepIn (Ks P) (.ref C) = true := by
  have key : (C, fa) ∈ clsL := by
    unfold clsT at h
    split at h
    · cases h; rename_i h1; subst h1; simp [clsL]
    · split at h
      · cases h; rename_i h1; subst h1; simp [clsL]
      · split at h
        · cases h; rename_i h1; subst h1; simp [clsL]
        · split at h
          · cases h; rename_i h1; subst h1; simp [clsL]
          · split at h
            · cases h; rename_i h1; subst h1; simp [clsL]
            · cases h
  have := List.all_eq_true.mp (cls_all P) _ key
  simp only [Bool.and_eq_true, beq_iff_eq] at this
  obtain ⟨⟨⟨a, b⟩, d⟩, e⟩ := this
  exact ⟨a, b, d, e⟩

theorem padA_cons {α : Type} (self : Str) {ps : List Str} {dv xs : List α} (y : α) : padA (self :: ps) dv (y :: xs) = y :: padA ps dv xs := by
  unfold padA
  have : (y :: xs).length + dv.length - (self :: ps).length = xs.length + dv.length - ps.length := by simp only [List.length_cons]; omega
  rw [this]; rfl
theorem callC_ok {H : Hd} {C fa : Addr} {fd : FuncData} (HO : HdOk prog k c.w.params H) (W : Wd prog c) (R0 : Room A (k + 1)) (hC : clsT C = some fa) (ha : arL.contains (fa, ds.length + 1) = true) (hfd : fnLook c.w.params fa = some fd) (h : callC c.w.params H C fd ds G = some (d, G'))
    {σ : AEnv} (S : St c (σ, G) F g s) (r : Reps c.DO F g vs ds) : At prog c A F g s (PySem.call (.ref C) vs) (IsD c d) (σ, G') := by
  obtain ⟨u1, u2⟩ := under_room (C := C) (rest := vs) R0
  unfold callC at h
  cases hps : psOf fd.params with
  | nil => rw [hps] at h; exact nn h
  | cons self ps =>
  rw [hps] at h
  refine bt h fun hz h => bnd h fun p hr h => bnd hr fun b hbd hr => bt h fun hc h => bnd h fun qr hl h => bnd h fun w hw h => bt h fun hCC h => smx (P := fun d G' => At prog c A F g s (PySem.call (.ref C) vs) (IsD c d) (σ, G')) h ?_
  refine and_t hc fun hc hkl => and_t hc fun hnx hin => ?_
  rw [hbd] at hin
  have hin : b.all attrS = true := hin
  have hkl := of_decide_eq_true hkl
  have hbd := stmtsOf_ok hbd
  have hl : readX p.2.1 self = some (.obj C w.2, qr.2) := by rw [hl, ← of_decide_eq_true hCC, ← objD_ok hw]
  have hq : qr.1 = .obj C w.2 := by rw [objD_ok hw, of_decide_eq_true hCC]
  rw [hq]
  clear h hw hCC hq hc
  obtain ⟨f0, x'⟩ := p
  cases f0 with
  | ret _ => exact Bool.noConfusion hnx
  | next =>
  obtain ⟨hz, hz2⟩ := pad_len r hz
  intro Q E Kq
  obtain ⟨pv0, m0, Rel0⟩ := S.rel
  have hW := Rel0.wr
  rw [W.DO] at hW r
  obtain ⟨c1, c2, c3, _⟩ := cls_at (P := c.w.params) hC
  have X := S.inK W.fc
  rw [W.K] at X
  refine wpAny_call ?_
  obtain ⟨hh, gg, dd, tk, os⟩ := s
  have g0 : gg = #[] := S.gens
  have keep2 : ∀ a o, hh.get? a = some o → ((hh.push emptyDict).push (instObj C hh.objs.size)).get? a = some o := fun a o e => Heap.get?_push_of_some _ (Heap.get?_push_of_some _ e)
  have sz1 : (hh.push emptyDict).objs.size = hh.objs.size + 1 := Heap.size_push ..
  have sz2 : hh.objs.size ≤ ((hh.push emptyDict).push (instObj C hh.objs.size)).objs.size := by rw [Heap.size_push, sz1]; exact Nat.le_add_right _ 2
  have gx : ((hh.push emptyDict).push (instObj C hh.objs.size)).get? (hh.objs.size + 1) = some (instObj C hh.objs.size) := by
    have := Heap.get?_push_size (o := instObj C hh.objs.size) (hh.push emptyDict) rfl
    rwa [sz1] at this
  have gd : ((hh.push emptyDict).push (instObj C hh.objs.size)).get? hh.objs.size = some emptyDict := Heap.get?_push_of_some _ (Heap.get?_push_size _ rfl)
  let pvI : Priv := fun a => if a = hh.objs.size + 1 then some (.own self) else if a = hh.objs.size then some (.sub self) else .none
  have pvS : pvI hh.objs.size = some (.sub self) := (if_neg (Nat.ne_of_lt (Nat.lt_succ_self _))).trans (if_pos rfl)
  refine make_core (makes_of X c1) (looks_findIn X c2) (fun self => bind_fn X self c3) (.inl rfl) ?_
  refine fn_run (s := ⟨(hh.push emptyDict).push (instObj C hh.objs.size), gg, dd, tk, os⟩) (h := hh) (pv0 := pvI) (B := c.B) (binds := (self, .ref (hh.objs.size + 1)) :: ps.zip (padA ps (dvOf (Ks c.w.params) fd.defaults) vs))
    (as := (self, .ins C []) :: ps.zip ((padA ps ((dvOf (Ks c.w.params) fd.defaults).map toD) ds).map AV.d)) u1 hfd hbd hW keep2 sz2 g0 (fun a ro z => ?_) ?_ (fun X => ?_) ?_ ?_ fun e s₁ pv m k1 k2 k3 k4 k5 k6 R1 hm g1 o1 E' => ?_
  · by_cases y : a = hh.objs.size + 1
    · subst y; exact ⟨Nat.le_succ _, _, gx⟩
    · by_cases y2 : a = hh.objs.size
      · subst y2; exact ⟨Nat.le_refl _, _, gd⟩
      · exact nn (((if_neg y).trans (if_neg y2)).symm.trans z)
  · exact .cons rfl ⟨hh.objs.size + 1, hh.objs.size, [], 0, rfl, if_pos rfl, gx, pvS, gd, .nil, .nil⟩ (bnd_zip _ _ _ (Reps.pad r))
  · have := bindsTo_ok (vs := .ref (hh.objs.size + 1) :: vs) X ha hfd (congrArg (· + 1) r.len)
    rw [hps, padA_cons] at this
    exact this
  · rw [hps, List.map_cons, zip_fst _ _ hz]
  · rw [hps, List.map_cons, zip_fst _ _ hz2]
  · let c1 : FC := ⟨c.w, dob prog c.w, c.hs, Ks c.w.params, c.B, e, hh, F, g, [], []⟩
    have hkl' : e.kindOf self = some .local := by rw [k1]; exact hkl
    have hself : m self = some (.ref (hh.objs.size + 1)) := hm self _ (by rw [List.lookup_cons, beq_self_eq_true]) hkl'
    have R2 : Rel (c1.pn [(self, .ref (hh.objs.size + 1))]) F g G _ s₁.heap pv m := R1.pinned fun p hp => by
      cases List.mem_singleton.mp hp
      exact hself
    have Oc : CfgX prog k c1 (cfgF H fd) := fn_cfg ⟨rfl, rfl, k3, k4⟩ HO k1 k2 k5 k6
    refine inits_ok (c := c1.pn [(self, .ref (hh.objs.size + 1))]) (rc_ok 99) (u2 e) (Oc.pn _) b _ _ _ hin hr F g s₁ ⟨⟨pv, m, R2⟩, g1⟩ _ E' fun f F' g' s' S' T' q => ?_
    cases f with
    | next =>
      refine ⟨rfl, ?_⟩
      obtain ⟨pv3, m3, R3⟩ := S'.rel
      obtain ⟨v3, F3, pv4, e3, le3, rp3, R4⟩ := readL R3 hkl' hl
      cases Option.some.inj (e3.symm.trans (R3.pins _ (.head _)))
      exact Kq _ F3 g' s' (S.ret (c1 := c1.pn [(self, .ref (hh.objs.size + 1))]) (x1 := (qr.2, x'.2)) ⟨⟨pv4, m3, R4⟩, S'.gens⟩ W.DO.symm rfl rfl rfl rfl) ⟨T'.le.trans le3, T'.pre, T'.os.trans o1⟩ (by show Rep c.DO F3 g' _ _; rw [W.DO]; exact rp3)
    | _ => exact q.elim

theorem bind3 {fd : FuncData} {a b e : Arg} (hp : fd.params = ⟨[], [a, b, e], .none, [], [], .none, []⟩) (hd : fd.defaults = .none) (n1 : a.arg = Str.ofString "node") (n2 : b.arg = Str.ofString "position") (n3 : e.arg = Str.ofString "size") (v1 v2 v3 : Value) :
    bindArgs fd ⟨[v1, v2, v3], []⟩ = pure [(a.arg, v1), (b.arg, v2), (e.arg, v3)] := by
  cases a; cases b; cases e
  cases n1; cases n2; cases n3
  unfold bindArgs
  rw [hp, hd]
  kernel_rfl

theorem caps_look {P : DOb} : ∀ (cl : List (Str × Addr)) (us : List Value) (caps : List (Str × D)), cl.map (·.1) = caps.map (·.1) → CL F (cl.map (·.2)) us → Reps P F g us (caps.map (·.2)) → (caps.map (·.1)).Nodup →
    ∀ p ∈ caps, ∃ cx v o, cl.lookup p.1 = some cx ∧ F cx = some o ∧ o.data = .cell (some v) ∧ Rep P F g v p.2
  | [], _, [], _, _, _, _, p, hp => nomatch hp
  | [], _, _ :: _, h, _, _, _, _, _ => by cases h
  | _ :: _, _, [], h, _, _, _, _, _ => by cases h
  | (n, cx) :: cl, us, (n', d) :: caps, h, hc, hr, nd, p, hp => by
    simp only [List.map_cons, List.cons.injEq] at h
    obtain ⟨rfl, h⟩ := h
    simp only [List.map_cons, List.nodup_cons] at nd
    cases hc with
    | cons e1 e2 hc =>
      cases hr with
      | cons r1 hr =>
        rcases List.mem_cons.mp hp with rfl | hp
        · exact ⟨cx, _, _, by rw [List.lookup_cons]; simp, e1, e2, r1⟩
        · obtain ⟨cx', v, o, q1, q2⟩ := caps_look cl _ caps h hc hr nd.2 p hp
          refine ⟨cx', v, o, ?_, q2⟩
          rw [List.lookup_cons]
          have : (p.1 == n) = false := by
            have : p.1 ≠ n := fun z => nd.1 (z ▸ List.mem_map_of_mem hp)
            simpa using this
          rw [this]
          exact q1

theorem look3 {α : Type} {a b e x : Str} {v1 v2 v3 v : α} (n1 : a ≠ b) (n2 : a ≠ e) (n3 : b ≠ e) (h : [(a, v1), (b, v2), (e, v3)].lookup x = some v) : [(a, v1), (b, v2), (e, v3)].reverse.lookup x = some v := by
  simp only [List.reverse_cons, List.reverse_nil, List.nil_append, List.cons_append, List.lookup_cons, List.lookup_nil] at h ⊢
  by_cases z1 : x = a
  · subst z1
    have b1 : (x == b) = false := by simpa using n1
    have b2 : (x == e) = false := by simpa using n2
    simp only [b1, b2, beq_self_eq_true] at h ⊢
    exact h
  · have b0 : (x == a) = false := by simpa using z1
    by_cases z2 : x = b
    · subst z2
      have b2 : (x == e) = false := by simpa using n3
      simp only [b0, b2, beq_self_eq_true] at h ⊢
      exact h
    · have b1 : (x == b) = false := by simpa using z2
      by_cases z3 : x = e
      · subst z3
        simp only [b0, b1, beq_self_eq_true] at h ⊢
        exact h
      · have b2 : (x == e) = false := by simpa using z3
        simp only [b0, b1, b2] at h
        cases h

theorem mem3 {α : Type} {a b e p : α} {P : α → Prop} (h : p ∈ [a, b, e]) (h1 : P a) (h2 : P b) (h3 : P e) : P p := by
  rcases List.mem_cons.mp h with rfl | h
  · exact h1
  · rcases List.mem_cons.mp h with rfl | h
    · exact h2
    · cases List.mem_singleton.mp h; exact h3
theorem callN_ok {H : Hd} {params : Arguments} {body : List Stmt} {scope : Scope} {caps : List (Str × D)} (HO : HdOk prog k c.w.params H) (W : Wd prog c) (R0 : Room A (k + 1)) (h : callN H params body scope caps ds G = some (d, G'))
    {σ : AEnv} (S : St c (σ, G) F g s) (rf : Rep c.DO F g v (.fn params body scope caps)) (r : Reps c.DO F g vs ds) : At prog c A F g s (PySem.call v vs) (IsD c d) (σ, G') := by
  refine bnd h fun q3 hq h => bnd h fun w3 hw h => bt h fun hc h => mpx (P := fun d G' => At prog c A F g s (PySem.call v vs) (IsD c d) (σ, G')) h fun p hrun => ?_
  clear h
  obtain ⟨a, b, e⟩ := q3
  obtain ⟨d1, d2, d3⟩ := w3
  refine and_t hc fun hc hn => and_t hc fun hb hs => and_t hs fun hs hnc => and_t hs fun hs hgen => and_t hs fun hk hco => ?_
  refine and_t hn fun hn nd => and_t hn fun hn hcap => and_t hn fun hn l3 => and_t hn fun hn l2 => and_t hn fun hn l1 => and_t hn fun hn n3 => and_t hn fun n1 n2 => ?_
  have l1 : scope.names.lookup a.arg = some .local := of_decide_eq_true l1
  have l2 : scope.names.lookup b.arg = some .local := of_decide_eq_true l2
  have l3 : scope.names.lookup e.arg = some .local := of_decide_eq_true l3
  have n1 := eq_of_beq n1
  have n2 := eq_of_beq n2
  have n3 := eq_of_beq n3
  have n12 : a.arg ≠ b.arg := by rw [n1, n2]; exact (by decide)
  have n13 : a.arg ≠ e.arg := by rw [n1, n3]; exact (by decide)
  have n23 : b.arg ≠ e.arg := by rw [n2, n3]; exact (by decide)
  have hk : scope.kind = .function := eq_of_beq hk
  have hbare := bare_params hb
  rw [three_ok hq] at hbare
  rw [three_ok hw] at r
  clear hq hw hb hc hn hs
  intro Q E Kq
  obtain ⟨pv0, m0, Rel0⟩ := S.rel
  have hW := Rel0.wr
  rw [W.DO] at hW r rf
  cases r with | cons r1 r => cases r with | cons r2 r => cases r with | cons r3 r =>
    cases r
    rename_i v1 v2 v3
    cases rf with
    | fn fi hp hb hsc hcn hcl hrs =>
      rename_i ad fd us
      obtain ⟨o, ca, co, ws, t, e1, e2, e3, e4, e5, e6, e7, e8, e9⟩ := fi
      subst hsc
      refine wpAny_call (codeAny_call_function (by have := R0.dep; omega) (S.sub _ _ e1) e2 ((Bool.not_eq_true' _).mp hco) ((Bool.not_eq_true' _).mp hgen) hb ⟨ca, co, ws, t, e6, S.sub _ _ e7, e8, e9⟩ ?_)
      rw [bind3 (hp.trans hbare) e5 n1 n2 n3]
      refine wpAny_pure (wpAny_newFunctionEnv (fun p hp => ?_) (fun p hp => mem3 (P := fun p => fd.scope.names.lookup p.1 = some .local) hp l1 l2 l3) (fun h' ns hsb => ⟨Rel0.lim.fresh _ hsb, codeAny_func ?_⟩) hk)
      · have := List.all_eq_true.mp hnc p hp
        exact fun z => by rw [z] at this; exact Bool.noConfusion this
      · have keep : ∀ b o, s.heap.get? b = some o → h'.get? b = some o := fun b o e => hsb.extBut b o (Nat.ne_of_lt (Heap.lt_size e)) (Heap.get?_push_of_some _ e)
        let env : Env := newEnv fd.scope s.heap.objs.size fd.globals fd.closure (fd.qualname ++ ".<locals>.") (some ad) fd.code none fd.builtins
        obtain ⟨pv, R1⟩ := enter_fn (w := c.w) (K := Ks c.w.params) (e := env) (cs := []) (pv0 := fun _ => .none) (us := []) (fs := caps.map fun p => (p.1, AV.con p.2)) (bs := [(a.arg, v1), (b.arg, v2), (e.arg, v3)]) (as := [(a.arg, .d d1), (b.arg, .d d2), (e.arg, .d d3)]) c.B hW (fun _ _ z => z) (Nat.le_refl _)
          (fun _ _ z => nomatch z) (.cons rfl r1 (.cons rfl r2 (.cons rfl r3 .nil))) keep ns (Nat.le_refl _) (fun _ _ z => nomatch z) .nil (fun _ _ z => nomatch z)
          (fun x v z _ => look3 n12 n13 n23 z) (fun _ _ z => nomatch z) (fun _ _ z => nomatch z) (fun p hp => .inl (mem3 (P := fun p : Str × AV => fd.scope.names.lookup p.1 = some .local) hp l1 l2 l3)) (fun p hp => nomatch hp) (fun p hp => by
            obtain ⟨q, hq, rfl⟩ := List.mem_map.mp hp
            obtain ⟨cx, v, o, z1, z2, z3, z4⟩ := caps_look _ _ _ hcn hcl hrs (of_decide_eq_true nd) q hq
            exact ⟨q.2, cx, v, o, rfl, of_decide_eq_true (List.all_eq_true.mp hcap q hq), z1, z2, z3, z4⟩)
        have ev := (rc_ok N0).ex ⟨c.w, dob prog c.w, c.hs, Ks c.w.params, c.B, env, s.heap, F, g, [], []⟩ (A.deeper env) (cfgN H fd.scope) _ body p.1 p.2 rfl R0.step (cfg_ok ⟨rfl, rfl, e3, e4⟩ HO rfl hk rfl rfl rfl rfl rfl (fun h => nomatch h)) hrun
        refine ev F g { s with heap := h', toks := _ } ⟨⟨pv, (fun x => [(a.arg, v1), (b.arg, v2), (e.arg, v3)].reverse.lookup x), R1⟩, S.gens⟩ _ _ fun f F' g' s' S' T' q => ?_
        exact Kq _ F' g' s' (S.ret S' W.DO.symm rfl rfl rfl rfl) ⟨T'.le, T'.pre, T'.os⟩ (by show Rep c.DO F' g' _ _; rw [W.DO]; exact out_ok q)

theorem callH_ok (P : Params) : ∀ k, HdOk prog k P (callH P k)
  | 0 => ⟨(fun fd ds G d G' h => nn h), (fun fd ds G r h => nn h)⟩
  | k + 1 => by
    have ih := callH_ok P k
    refine ⟨fun fd ds G d G' h c hP W A R0 F g s σ v vs S rf r => ?_, fun fd ds G r h c hP W x F g s v S rf => ?_⟩
    · subst hP
      cases fd with
      | sta u =>
        refine bnd h fun a hu h => ?_
        cases refOf_ok hu
        cases rf
        exact bc h (fun ha h => bnd h fun f hf h => callF_ok ih W R0 ha hf h S r) fun _ h => bnd h fun fa hC h => bt h fun ha h => bnd h fun f hf h => callC_ok ih W R0 hC ha hf h S r
      | fn => exact callN_ok ih W R0 h S rf r
      | _ => exact nn h
    · subst hP
      have X := S.inK W.fc
      rw [W.K] at X
      cases fd with
      | sta u =>
        refine bnd h fun a hu h => ?_
        cases refOf_ok hu
        cases rf
        exact bc h (fun ha h => bnd h fun f hf h => keeps_F s.heap ⟨_, _, _, _, X _ _ (fn_look hf).1⟩) fun _ h => bnd h fun fa hC h => keeps_K (cls_at hC).2.2.2 s.heap X
      | fn => cases rf with
        | fn fi =>
          obtain ⟨o, ca, co, ws, t, e1, e2, _⟩ := fi
          obtain ⟨oc, od, oda, os⟩ := o
          cases e2
          exact keeps_F s.heap ⟨_, _, _, _, S.sub _ _ e1⟩
      | _ => exact nn h
end
end Mine
end

section
open PySem PySem.W PyProof.Rows PySem.Calls PySem.Spec PySem.SeqAt
set_option Elab.async false
set_option backward.match.sparseCases false
set_option maxRecDepth 100000
namespace Mine

theorem room_caller : Room callerA 15 := ⟨by decide +kernel, by decide +kernel, rfl⟩

noncomputable def startF (h : Heap) : Part := fun a => if a = 1148 then .none else h.get? a
theorem start_wr {prog : Program} {w : World} {h : Heap} (B : Base w h) : WR (dob prog w) h (startF h) [] [] h where
  base a o e n := by unfold startF; rw [if_neg n]; exact e
  sub a o e := by
    unfold startF at e
    split at e
    · cases e
    · exact e
  gl k a e := by simp at e
  nd := .nil
  hsz := Nat.le_refl _
  glen := rfl
  lim := B.nolimit
  dig := B.nodigits
  tab := ⟨#[], B.tab, .inl rfl⟩
  notab := by unfold startF; exact if_pos rfl

theorem ints_rep {P : DOb} {F : Part} {g : List Addr} : ∀ {vs : List Value} {ns : List Int}, IntsAre vs ns → Reps P F g vs (ns.map D.int)
  | _, _, .nil => .nil
  | _, _, .cons n t r => .cons (.int n t) (ints_rep r)

theorem goal_of {prog : Program} {w : World} {s₁ : Shared} {l : Addr} {vs : List Value} {ns : List Int} {G' : GS} (B : Base w s₁.heap) (hg : s₁.gens = #[]) (hl : s₁.heap.IsList l vs.toArray) (hi : IntsAre vs ns)
    (h : callH w.params 15 (.sta (.ref 1156)) [.xls (ns.map D.int)] [] = some (.bool true, G')) :
    wpAny (model prog w) callerA (call (.ref 1156) [.ref l]) (fun v s' => v = .bool true ∧ OldK s₁.heap s'.heap ∧ s'.os = s₁.os ∧ s'.gens = #[]) (fun _ _ => False) s₁ := by
  have W := start_wr (prog := prog) B
  have HO := callH_ok (prog := prog) w.params 14
  have ha : arL.contains (1156, [D.xls (ns.map D.int)].length) = true := (by decide +kernel : arL.contains (1156, 1) = true)
  refine bc (show callA w.params (callH w.params 14) 1156 [.xls (ns.map D.int)] [] = some (.bool true, G') from h) (fun _ h => bnd h fun fd hfd h => bt h fun hz h => ?_) fun ha' _ => Bool.noConfusion (ha.symm.trans ha')
  obtain ⟨p, hrun, he⟩ := Option.map_eq_some_iff.mp h
  refine bnd hrun fun b hbd hrun => ?_
  obtain ⟨o, h1, h2, n, h3⟩ := hl
  have nl : l ≠ 1148 := fun z => by rw [z, B.tab] at h1; cases h1; cases h2
  have rl : Rep (dob prog w) (startF s₁.heap) [] (.ref l) (.xls (ns.map D.int)) := .xls (by unfold startF; rw [if_neg nl]; exact h1) h2 h3 (ints_rep hi)
  have rs : Reps (dob prog w) (startF s₁.heap) [] [.ref l] [.xls (ns.map D.int)] := .cons rl .nil
  obtain ⟨hz, hz2⟩ := pad_len rs hz
  have he : outF p.1 = .bool true := congrArg Prod.fst he
  obtain ⟨f0, x'⟩ := p
  cases f0 with
  | next => exact D.noConfusion he
  | ret d0 =>
  have he : d0 = .bool true := he
  subst he
  refine wpAny_call (fn_run (pv0 := fun _ => .none) (B := B) (by decide +kernel) hfd (stmtsOf_ok hbd) W (fun _ _ z => z) (Nat.le_refl _) hg (fun _ _ z => nomatch z) (bnd_zip _ _ _ (Reps.pad rs)) (fun X => bindsTo_ok X ha hfd rfl) (zip_fst _ _ hz) (zip_fst _ _ hz2) fun e s₂ pv m k1 k2 k3 k4 k5 k6 R1 _ g1 o1 E' => ?_)
  refine (rc_ok N0).ex ⟨w, dob prog w, s₁.heap, Ks w.params, B, e, s₁.heap, startF s₁.heap, [], [], []⟩ (callerA.deeper e) (cfgF (callH w.params 14) fd) _ b _ x' rfl (Room.step room_caller) (fn_cfg ⟨rfl, rfl, k3, k4⟩ HO k1 k2 k5 k6) hrun (startF s₁.heap) [] s₂ ⟨⟨pv, m, R1⟩, g1⟩ _ E' fun f F' g' s' S' T' q => ?_
  cases f with
  | ret v =>
    have hv : v = .bool true := rep_bool q
    obtain ⟨pv', m', R'⟩ := S'.rel
    have K := R'.out
    refine ⟨hv, ⟨fun a o e => ?_, fun a o e => ?_⟩, T'.os.trans o1, S'.gens⟩
    · by_cases z : a = 1148
      · subst z
        have e : s₁.heap.get? 1148 = some o := e
        rw [B.tab] at e
        cases e
        obtain ⟨vs, t1, _⟩ := R'.tab
        have C : CodeHd s₁.heap 1150 1148 := codeHd_of_K B.inK (kok_code _)
        exact .inr (.inl ⟨(C.tab B.tab).isCodeTable, rfl, #[], vs, rfl, by rw [Array.empty_append]; exact t1⟩)
      · exact .inl (K.keep a o e z (by simp))
    · by_cases z : a = 1148
      · obtain ⟨vs, t1, _⟩ := R'.tab
        exact ⟨_, z ▸ t1⟩
      · exact ⟨o, K.keep a o e z (by simp)⟩
  | _ => exact q.elim

/-- what is left: the law's evaluation -/
theorem lawGoal_of (H : ∀ (P : Params) (ns : List Int), ns.length ≤ 63 → ∃ G', callH P 15 (.sta (.ref 1156)) [.xls (ns.map D.int)] [] = some (.bool true, G')) : LawGoal := fun w s₁ l vs ns B hg hl hi hn _ => by
  obtain ⟨G', h⟩ := H w.params ns hn
  exact goal_of B hg hl hi h
end Mine
end

section
open PySem PySem.W PyProof.Rows PySem.Calls PySem.Spec PySem.SeqAt
set_option Elab.async false
set_option backward.match.sparseCases false
set_option maxRecDepth 100000
namespace Mine
noncomputable def bodyAt (i : Nat) : List Stmt := match sAt i with
  | some (.FunctionDef _ _ b _ _ _ _ _ _ _) => b
  | _ => []
noncomputable def namesAt (i : Nat) : List (Str × NameKind) := match sAt i with
  | some (.FunctionDef _ _ _ _ _ _ sc _ _ _) => sc.names
  | _ => []
noncomputable def psAt (i : Nat) : List Str := match sAt i with
  | some (.FunctionDef _ p _ _ _ _ _ _ _ _) => psOf p
  | _ => []
noncomputable def cfgB (H : Hd) (names : List (Str × NameKind)) (nest : Bool) : Cfg := ⟨fun x => names.lookup x, gdT, H, mthT, atrT, satT, nest⟩
noncomputable def runB (H : Hd) (i : Nat) (nest : Bool) (ds : List D) (G : GS) : Option (D × GS) :=
  outB ((rc N0).ex (cfgB H (namesAt i) nest) (fr0 (namesAt i) ((psAt i).zip (ds.map AV.d)), G) (bodyAt i))

/-- the plain functions: their places on the heap, in the text -/
noncomputable def runsL : List (Addr × Nat × Bool) := [(1027, 149, false), (992, 142, false), (999, 144, false), (1006, 145, false), (1013, 146, false), (1020, 148, false), (1032, 150, false), (1044, 152, false), (1094, 156, false), (1101, 157, false), (1108, 158, false), (1125, 161, false), (1139, 163, false), (1146, 164, false), (1151, 165, true), (1156, 166, false)]
theorem runs_ok (P : Params) : runsL.map (fun r => (fnLook P r.1).map fun fd => (stmtsOf fd.body, fd.scope.names, psOf fd.params, dvOf (Ks P) fd.defaults, nestF fd)) = runsL.map fun r => some (some (bodyAt r.2.1), namesAt r.2.1, psAt r.2.1, ([] : List Value), r.2.2) := by kernel_rfl
theorem runs_ar : runsL.all (fun r => arL.contains (r.1, (psAt r.2.1).length)) = true := by kernel_rfl
theorem padA_nil {α : Type} (ps : List Str) (xs : List α) : padA ps [] xs = xs := by unfold padA; rw [List.drop_nil, List.append_nil]
theorem call_run {P : Params} {k : Nat} {a : Addr} {i : Nat} {nest : Bool} {ds : List D} {G : GS} (hr : (a, i, nest) ∈ runsL) (hl : (psAt i).length = ds.length) : callH P (k + 1) (.sta (.ref a)) ds G = runB (callH P k) i nest ds G := by
  obtain ⟨fd, h1, e⟩ := Option.map_eq_some_iff.mp (List.map_inj_left.mp (runs_ok P) (a, i, nest) hr)
  have e1 : stmtsOf fd.body = some (bodyAt i) := congrArg (·.1) e
  have e2 : fd.scope.names = namesAt i := congrArg (·.2.1) e
  have e3 : psOf fd.params = psAt i := congrArg (·.2.2.1) e
  have e4 : dvOf (Ks P) fd.defaults = [] := congrArg (·.2.2.2.1) e
  have e5 : nestF fd = nest := congrArg (·.2.2.2.2) e
  have h2 : arL.contains (a, ds.length) = true := hl ▸ List.all_eq_true.mp runs_ar (a, i, nest) hr
  refine cs h2 (bs h1 (cs ?_ (congrArg outB (bs e1 ?_))))
  · rw [e3, e4, padA_nil, List.length_map, hl]; exact beq_self_eq_true _
  · unfold cfgF
    rw [e3, e4, e2, e5, List.map_nil, padA_nil]
    rfl

theorem rc_ev (n : Nat) : (rc (n + 1)).ev = stepE (rc n) := rfl
theorem rc_tr (n : Nat) : (rc (n + 1)).tr = stepT (rc n) := rfl
theorem rc_ex (n : Nat) (cfg : Cfg) : (rc (n + 1)).ex cfg = exs (stepS (rc n) cfg) := rfl
theorem rc_wh (n : Nat) : (rc (n + 1)).wh = whX (rc n) := rfl

theorem ofString_inj {a b : String} (h : Str.ofString a = Str.ofString b) : a = b := by
  rw [Str.ofString_eq_toList, Str.ofString_eq_toList] at h
  injection h with h
  have h := Array.toList_inj.mpr h
  simp only at h
  have h2 : a.toList = b.toList := by
    have inj : Function.Injective (Char.toNat) := fun x y e => Char.ext (UInt32.toNat_inj.mp e)
    exact (List.map_inj_right (fun x y e => inj e)).mp h
  exact String.toList_inj.mp h2
theorem beqS (a b : String) : (Str.ofString a == Str.ofString b) = (a == b) := by
  by_cases h : a = b
  · subst h; simp
  · have : Str.ofString a ≠ Str.ofString b := fun z => h (ofString_inj z)
    rw [beq_false_of_ne this, beq_false_of_ne h]
theorem eqS (a b : String) : (Str.ofString a = Str.ofString b) = (a = b) := propext ⟨ofString_inj, fun h => h ▸ rfl⟩
theorem gd_len : gdT (Str.ofString "len") = some (.sta (.builtin "len")) := by kernel_rfl
theorem gd_int : gdT (Str.ofString "int") = some (.sta (.type "int")) := by kernel_rfl
theorem gd_max : gdT (Str.ofString "max") = some (.sta (.builtin "max")) := by kernel_rfl
theorem gd_min : gdT (Str.ofString "min") = some (.sta (.builtin "min")) := by kernel_rfl
theorem gd_range : gdT (Str.ofString "range") = some (.sta (.type "range")) := by kernel_rfl
theorem gd_fn : gdT (Str.ofString "law") = some (.sta (.ref 1156)) ∧ gdT (Str.ofString "_law_pool") = some (.sta (.ref 1094)) ∧ gdT (Str.ofString "_law_take") = some (.sta (.ref 1101)) ∧ gdT (Str.ofString "_law_one") = some (.sta (.ref 1108)) ∧ gdT (Str.ofString "_law_menu") = some (.sta (.ref 1113)) ∧ gdT (Str.ofString "_law_key") = some (.sta (.ref 1118)) ∧ gdT (Str.ofString "_law_drawn_key") = some (.sta (.ref 1125)) ∧ gdT (Str.ofString "_law_written") = some (.sta (.ref 1132)) ∧ gdT (Str.ofString "_law_stands_ahead") = some (.sta (.ref 1139)) ∧ gdT (Str.ofString "_law_due") = some (.sta (.ref 1146)) ∧ gdT (Str.ofString "_law_right") = some (.sta (.ref 1151)) ∧ gdT (Str.ofString "sorted_nodes") = some (.sta (.ref 1044)) ∧ gdT (Str.ofString "sorted_rows") = some (.sta (.ref 1032)) ∧ gdT (Str.ofString "merged") = some (.sta (.ref 1027)) ∧ gdT (Str.ofString "compared_rows") = some (.sta (.ref 1020)) ∧ gdT (Str.ofString "compared_sorting") = some (.sta (.ref 1013)) ∧ gdT (Str.ofString "value_of_key") = some (.sta (.ref 1039)) ∧ gdT (Str.ofString "Order") = some (.sta (.ref 981)) ∧ gdT (Str.ofString "Context") = some (.sta (.ref 1083)) := by
  refine ⟨?_, ?_, ?_, ?_, ?_, ?_, ?_, ?_, ?_, ?_, ?_, ?_, ?_, ?_, ?_, ?_, ?_, ?_, ?_⟩ <;> kernel_rfl

theorem idx_nat {k n : Nat} (h : k < n) (hz : k ≤ 1000000) : idxD (k : Int) n = some k := by
  unfold idxD small seqIndex?
  have h1 : decide (-1000000000 ≤ (k : Int)) = true := decide_eq_true (by omega)
  have h0 : ¬ ((k : Int) < 0) := by omega
  have h2 : decide ((k : Int) ≤ 1000000000) = true := decide_eq_true (by omega)
  rw [h1, h2]
  show (if (decide (0 ≤ (if (k : Int) < 0 then (k : Int) + n else k)) && decide ((if (k : Int) < 0 then (k : Int) + n else k) < n)) = true then some (if (k : Int) < 0 then (k : Int) + n else k).toNat else none) = _
  rw [if_neg h0, if_pos (by simp; omega)]
  rfl
theorem sub_lst {l : List D} {k : Nat} {d : D} (h : l[k]? = some d) (hz : l.length ≤ 1000000) : subD (.lst l) (.int (k : Int)) = some d := by
  have hk := (List.getElem?_eq_some_iff.mp h).1
  show (idxD (k : Int) l.length).bind (l[·]?) = some d
  rw [idx_nat hk (by omega)]
  exact h
theorem sub_tup {l : List D} {k : Nat} {d : D} (h : l[k]? = some d) (hz : l.length ≤ 1000000) : subD (.tup l) (.int (k : Int)) = some d := by
  have hk := (List.getElem?_eq_some_iff.mp h).1
  show (idxD (k : Int) l.length).bind (l[·]?) = some d
  rw [idx_nat hk (by omega)]
  exact h
theorem sub_t0 (a : D) : subD (.tup [a]) (.int 0) = some a := by rfl
theorem sub_t20 (a b : D) : subD (.tup [a, b]) (.int 0) = some a := by rfl
theorem sub_t21 (a b : D) : subD (.tup [a, b]) (.int 1) = some b := by rfl
theorem sub_t30 (a b c : D) : subD (.tup [a, b, c]) (.int 0) = some a := by rfl
theorem sub_t31 (a b c : D) : subD (.tup [a, b, c]) (.int 1) = some b := by rfl
theorem sub_t32 (a b c : D) : subD (.tup [a, b, c]) (.int 2) = some c := by rfl

theorem small_nat {k : Nat} (h : k ≤ 1000000) : small (k : Int) = true := by
  unfold small
  rw [decide_eq_true (by omega), decide_eq_true (by omega)]
  rfl
theorem cut_drop {l : List D} {k : Nat} (h : k ≤ l.length) (hz : l.length ≤ 1000000) : cutD (.lst l) (some (k : Int)) .none = some (.lst (l.drop k)) := by
  refine cs (decide_eq_true hz) ?_
  unfold cutL
  have e : clipAt l.length (k : Int) = k := by
    unfold clipAt
    have h0 : ¬ ((k : Int) < 0) := by omega
    first | (simp only [h0, if_false]; simp; omega) | (simp; omega) | (split <;> omega)
  simp only [Option.elim_some, Option.elim_none, e]
  rw [List.take_of_length_le (by simp)]
theorem cut_take {l : List D} {k : Nat} (h : k ≤ l.length) (hz : l.length ≤ 1000000) : cutD (.lst l) .none (some (k : Int)) = some (.lst (l.take k)) := by
  refine cs (decide_eq_true hz) ?_
  unfold cutL
  have e : clipAt l.length (k : Int) = k := by
    unfold clipAt
    have h0 : ¬ ((k : Int) < 0) := by omega
    first | (simp only [h0, if_false]; simp; omega) | (simp; omega) | (split <;> omega)
  simp [e]
theorem run_eq {H : Hd} {i : Nat} {nest : Bool} {ds : List D} {G : GS} {σ : AEnv} (h : fr0 (namesAt i) ((psAt i).zip (ds.map AV.d)) = σ) : runB H i nest ds G = outB ((rc 100).ex (cfgB H (namesAt i) nest) (σ, G) (bodyAt i)) := by
  unfold runB; rw [h]; rfl

theorem cfgB_kd (H : Hd) (names : List (Str × NameKind)) (nest : Bool) (n : Str) : (cfgB H names nest).kd n = names.lookup n := rfl
theorem cfgB_gd (H : Hd) (names : List (Str × NameKind)) (nest : Bool) : (cfgB H names nest).gd = gdT := rfl
theorem cfgB_H (H : Hd) (names : List (Str × NameKind)) (nest : Bool) : (cfgB H names nest).H = H := rfl
theorem cfgB_mth (H : Hd) (names : List (Str × NameKind)) (nest : Bool) : (cfgB H names nest).mth = mthT := rfl
theorem cfgB_atr (H : Hd) (names : List (Str × NameKind)) (nest : Bool) : (cfgB H names nest).atr = atrT := rfl
theorem cfgB_sat (H : Hd) (names : List (Str × NameKind)) (nest : Bool) : (cfgB H names nest).sat = satT := rfl
theorem cfgB_nest (H : Hd) (names : List (Str × NameKind)) (nest : Bool) : (cfgB H names nest).nest = nest := rfl
theorem lt_ii (i j : Int) : ltD (.int i) (.int j) = some (decide (i < j)) := rfl
theorem lt_ss (x y : Str) : ltD (.str x) (.str y) = some (decide (x.cps.toList < y.cps.toList)) := rfl
theorem gd_fn2 : gdT (Str.ofString "sign_of_sorting") = some (.sta (.ref 992)) ∧ gdT (Str.ofString "compared_as_numbers") = some (.sta (.ref 999)) ∧ gdT (Str.ofString "compared_as_texts") = some (.sta (.ref 1006)) := by
  refine ⟨?_, ?_, ?_⟩ <;> kernel_rfl
theorem atr_ord : atrT 981 (Str.ofString "is_number") = true ∧ atrT 981 (Str.ofString "is_descending") = true ∧ atrT 981 (Str.ofString "upper_first") = true := by refine ⟨?_, ?_, ?_⟩ <;> kernel_rfl
theorem dec20 : decide ((0 : Nat) < 20) = true ∧ decide ((1 : Nat) < 20) = true ∧ decide ((2 : Nat) < 20) = true ∧ decide ((3 : Nat) < 20) = true ∧ decide ((0 : Nat) < 1) = true := ⟨rfl, rfl, rfl, rfl, rfl⟩
end Mine
end

section
open PySem PySem.W PyProof.Rows PySem.Calls PySem.Spec PySem.SeqAt
set_option Elab.async false
set_option backward.match.sparseCases false
set_option maxRecDepth 100000
namespace Mine
/-- the evaluator's steps as rules -/
structure LocN (kd : Str → Option NameKind) (n : Str) : Prop where
  a : (n == S "__debug__") = false
  b : kd n = some .local
structure CelN (kd : Str → Option NameKind) (n : Str) : Prop where
  a : (n == S "__debug__") = false
  b : kd n = some .cell
structure FreN (kd : Str → Option NameKind) (n : Str) : Prop where
  a : (n == S "__debug__") = false
  b : kd n = some .free
  c : (n == S "__classdict__") = false
structure GlbN (cfg : Cfg) (n : Str) (d : D) : Prop where
  a : (n == S "__debug__") = false
  b : cfg.kd n = some .globalImplicit
  c : cfg.gd n = some d

section
variable {H : Hd} {names : List (Str × NameKind)} {nest : Bool} {σ σ' : AEnv} {G G' : GS} {n nm : Str} {d : D} {cfg : Cfg} {x x1 x2 x3 : X} {m : Nat} {p pos ap : Pos} {a b c : D} {e e1 e2 l : Expr} {es : List Expr} {ds : List D} {t : Bool} {i j : Int}
theorem lk_same {v : AV} : (put σ n v).lookup n = some v := by rw [put_lookup, if_pos rfl]
theorem lk_eq {v w : AV} (h : v = w) : (put σ n v).lookup n = some w := by rw [h]; exact lk_same
theorem lk_hd {v : AV} : List.lookup n ((n, v) :: σ) = some v := by rw [List.lookup_cons, beq_self_eq_true]
theorem lk_tl {k1 k2 : String} {v : AV} {r : Option AV} (h : (k1 == k2) = false) (k : σ.lookup (Str.ofString k1) = r) : List.lookup (Str.ofString k1) ((Str.ofString k2, v) :: σ) = r := by
  rw [List.lookup_cons, beqS, h]; exact k
theorem lk_probe {r : Option AV} (h : False) : List.lookup n ([] : AEnv) = r := h.elim
theorem lk_ne {s1 s2 : String} {v : AV} {r : Option AV} (h : (s1 == s2) = false) (k : σ.lookup (Str.ofString s1) = r) : (put σ (Str.ofString s2) v).lookup (Str.ofString s1) = r := by
  rw [put_lookup, if_neg (fun z => beq_eq_false_iff_ne.mp h (ofString_inj z))]; exact k
theorem lk_era {s1 s2 : String} {r : Option AV} (h : (s1 == s2) = false) (k : σ.lookup (Str.ofString s1) = r) : (era σ (Str.ofString s2)).lookup (Str.ofString s1) = r := by
  rw [era_lookup, if_neg (fun z => beq_eq_false_iff_ne.mp h (ofString_inj z))]; exact k

theorem rd {v : AV} {r : D × AEnv} (hl : σ.lookup n = some v) (h : readA σ n v = some r) : readX σ n = some r := bs hl h
theorem n_loc (k : LocN cfg.kd n) (hl : σ.lookup n = some (.d d)) : nameX cfg (σ, G) n = some (d, (σ, G)) := cf k.a (bs k.b (ms (rd hl rfl)))
theorem n_con (k : LocN cfg.kd n) (hl : σ.lookup n = some (.con d)) : nameX cfg (σ, G) n = some (d, (σ, G)) := cf k.a (bs k.b (ms (rd hl rfl)))
theorem n_lst (k : LocN cfg.kd n) {l : List D} (hl : σ.lookup n = some (.lst l)) : nameX cfg (σ, G) n = some (.lst l, (put σ n (.d (.lst l)), G)) := cf k.a (bs k.b (ms (rd hl rfl)))
theorem n_dic (k : LocN cfg.kd n) {l : List (Str × D)} (hl : σ.lookup n = some (.dic l)) : nameX cfg (σ, G) n = some (.dic l, (put σ n (.d (.dic l)), G)) := cf k.a (bs k.b (ms (rd hl rfl)))
theorem n_cel (k : CelN cfg.kd n) (hl : σ.lookup n = some (.d d)) : nameX cfg (σ, G) n = some (d, (σ, G)) := cf k.a (bs k.b (ms (rd hl rfl)))
theorem n_cec (k : CelN cfg.kd n) (hl : σ.lookup n = some (.con d)) : nameX cfg (σ, G) n = some (d, (σ, G)) := cf k.a (bs k.b (ms (rd hl rfl)))
theorem n_fre (k : FreN cfg.kd n) (hl : σ.lookup n = some (.con d)) : nameX cfg (σ, G) n = some (d, (σ, G)) := cf k.a (bs k.b (cf k.c (ms (rd hl rfl))))
theorem n_glb (k : GlbN cfg n d) : nameX cfg x n = some (d, x) := cf k.a (bs k.b (ms k.c))
theorem st_loc (k : LocN cfg.kd n) : storeX cfg (σ, G) n d = some (put σ n (.d d), G) := bs k.b rfl
theorem st_cel (k : CelN cfg.kd n) {v : AV} (hl : σ.lookup n = some v) (ho : openA v = true) : storeX cfg (σ, G) n d = some (put σ n (.d d), G) := bs k.b (bs hl (cs ho rfl))

theorem w_const {co : Const} {k : Nat} (h : constD co = some d) : (rc (m + 1)).ev cfg x (.Constant co k p) = some (d, x) := ms h
theorem w_name {r : D × X} (h : nameX cfg x nm = some r) : (rc (m + 1)).ev cfg x (.Name nm p) = some r := h
theorem w_bin {op : Operator} (h1 : (rc m).ev cfg x e1 = some (a, x1)) (h2 : (rc m).ev cfg x1 e2 = some (b, x2)) (h3 : binD op a b = some d) : (rc (m + 1)).ev cfg x (.BinOp e1 op e2 p) = some (d, x2) := bs h1 (bs h2 (ms h3))
theorem w_neg (h1 : (rc m).ev cfg x e1 = some (.int i, x1)) : (rc (m + 1)).ev cfg x (.UnaryOp .USub e1 p) = some (.int (-i), x1) := bs h1 rfl
theorem w_not (h1 : (rc m).ev cfg x e1 = some (a, x1)) (h2 : truD a = some t) : (rc (m + 1)).ev cfg x (.UnaryOp .Not e1 p) = some (.bool (!t), x1) := bs h1 (ms h2)
theorem w_ifT {r : Option (D × X)} (h1 : (rc m).tr cfg x e = some (true, x1)) (h2 : (rc m).ev cfg x1 e1 = r) : (rc (m + 1)).ev cfg x (.IfExp e e1 e2 p) = r := bs h1 h2
theorem w_ifF {r : Option (D × X)} (h1 : (rc m).tr cfg x e = some (false, x1)) (h2 : (rc m).ev cfg x1 e2 = r) : (rc (m + 1)).ev cfg x (.IfExp e e1 e2 p) = r := bs h1 h2
theorem w_list (hf : flatL es = true) (h : evs ((rc m).ev cfg) x es = some (ds, x1)) : (rc (m + 1)).ev cfg x (.List es p) = some (.lst ds, x1) := cs hf (ms h)
theorem w_tup {k : Nat} (hf : flatL es = true) (h : evs ((rc m).ev cfg) x es = some (ds, x1)) : (rc (m + 1)).ev cfg x (.Tuple es k p) = some (.tup ds, x1) := cs hf (ms h)
theorem w_dict {ks : List (Option Expr)} {ns : List Str} (h : evs ((rc m).ev cfg) x es = some (ds, x1)) (hk : ks.mapM keyOf = some ns) (hc : ((ks.length == es.length) && decide ns.Nodup && decide (ks.length ≤ 15)) = true) : (rc (m + 1)).ev cfg x (.Dict ks es p) = some (.dic (ns.zip ds), x1) := bs h (bs hk (cs hc rfl))
theorem w_dict2 {y z : Str} {k1 k2 : Nat} {p1 p2 : Pos} (hn : decide [y, z].Nodup = true) (h : evs ((rc m).ev cfg) x [e1, e2] = some ([a, b], x1)) : (rc (m + 1)).ev cfg x (.Dict [some (.Constant (.str y) k1 p1), some (.Constant (.str z) k2 p2)] [e1, e2] p) = some (.dic [(y, a), (z, b)], x1) :=
  w_dict (ns := [y, z]) h rfl (by rw [hn]; rfl)
theorem w_dict3 {y z w : Str} {k1 k2 k3 : Nat} {p1 p2 p3 : Pos} (hn : decide [y, z, w].Nodup = true) (h : evs ((rc m).ev cfg) x [e, e1, e2] = some ([a, b, c], x1)) : (rc (m + 1)).ev cfg x (.Dict [some (.Constant (.str y) k1 p1), some (.Constant (.str z) k2 p2), some (.Constant (.str w) k3 p3)] [e, e1, e2] p) = some (.dic [(y, a), (z, b), (w, c)], x1) :=
  w_dict (ns := [y, z, w]) h rfl (by rw [hn]; rfl)
theorem w_cmp {op : CmpOp} (h0 : behindInMarks op e2 = false) (h1 : (rc m).ev cfg x e1 = some (a, x1)) (h2 : (rc m).ev cfg x1 e2 = some (b, x2)) (hm : mrefD a = .none) (h3 : cmpB op a b = some t) : (rc (m + 1)).ev cfg x (.Compare e1 [op] [e2] p) = some (.bool t, x2) :=
  cf h0 (bs h1 (bs h2 (by show (match mrefD a with | some k => _ | .none => _) = _; rw [hm]; exact ms (ms h3))))
theorem w_cmpG {k : Nat} {ls : List D} (h0 : behindInMarks .Eq e2 = false) (h1 : (rc m).ev cfg x e1 = some (.mref k, x1)) (h2 : (rc m).ev cfg x1 e2 = some (b, x2)) (hl : x2.2[k]? = some ls) (h3 : eqD (.lst ls) b = some t) : (rc (m + 1)).ev cfg x (.Compare e1 [.Eq] [e2] p) = some (.bool t, x2) :=
  cf h0 (bs h1 (bs h2 (bs hl (ms h3))))
theorem w_callF {f : Addr} (hf : flatL es = true) (h1 : nameX cfg x nm = some (.sta (.ref f), x1)) (h2 : evs ((rc m).ev cfg) x1 es = some (ds, (σ, G))) (h3 : cfg.H (.sta (.ref f)) ds G = some (d, G')) : (rc (m + 1)).ev cfg x (.Call (.Name nm ap) es [] p) = some (d, (σ, G')) :=
  cs hf (bs h1 (bs h2 (ms h3)))
theorem w_callN {q : Arguments} {bd : List Stmt} {sc : Scope} {cp : List (Str × D)} (hf : flatL es = true) (h1 : nameX cfg x nm = some (.fn q bd sc cp, x1)) (h2 : evs ((rc m).ev cfg) x1 es = some (ds, (σ, G))) (h3 : cfg.H (.fn q bd sc cp) ds G = some (d, G')) : (rc (m + 1)).ev cfg x (.Call (.Name nm ap) es [] p) = some (d, (σ, G')) :=
  cs hf (bs h1 (bs h2 (ms h3)))
theorem w_callB {v : Value} (hf : flatL es = true) (h1 : nameX cfg x nm = some (.sta v, x1)) (hr : isRef v = false) (h2 : evs ((rc m).ev cfg) x1 es = some (ds, x2)) (h3 : bltD v ds = some d) : (rc (m + 1)).ev cfg x (.Call (.Name nm ap) es [] p) = some (d, x2) :=
  cs hf (bs h1 (bs h2 (cf hr (ms h3))))
theorem w_meth (hf : flatL es = true) (hb : (baseE e && (ap.endLine == p.line) && decide (es.length < 20)) = true) (h1 : (rc m).ev cfg x e = some (a, x1)) (h2 : evs ((rc m).ev cfg) x1 es = some (ds, x2)) (ho : objD a = .none) (h3 : mthD a nm ds = some d) : (rc (m + 1)).ev cfg x (.Call (.Attribute e nm ap) es [] p) = some (d, x2) :=
  cs hf (cs hb (bs h1 (bs h2 (by show (match objD a with | some k => _ | .none => _) = _; rw [ho]; exact ms h3))))
theorem w_attr (hb : baseE e = true) (h1 : (rc m).ev cfg x e = some (a, x1)) (h2 : attrD cfg a nm = some d) : (rc (m + 1)).ev cfg x (.Attribute e nm p) = some (d, x1) := cs hb (bs h1 (ms h2))
theorem w_sub (hs : sliceP e2 = .none) (hp : plainE e2 = true) (h1 : (rc m).ev cfg x e1 = some (a, x1)) (h2 : (rc m).ev cfg x1 e2 = some (b, x2)) (hm : mrefD a = .none) (h3 : subD a b = some d) : (rc (m + 1)).ev cfg x (.Subscript e1 e2 p) = some (d, x2) :=
  bs h1 (by show subE _ _ _ _ _ = _; unfold subE; rw [hs]; exact cs hp (bs h2 (by show (match mrefD a with | some k => _ | .none => _) = _; rw [hm]; exact ms h3)))
theorem w_subG {k : Nat} {ls : List D} (hs : sliceP e2 = .none) (hp : plainE e2 = true) (h1 : (rc m).ev cfg x e1 = some (.mref k, x1)) (h2 : (rc m).ev cfg x1 e2 = some (b, x2)) (hl : x2.2[k]? = some ls) (h3 : subD (.lst ls) b = some d) : (rc (m + 1)).ev cfg x (.Subscript e1 e2 p) = some (d, x2) :=
  bs h1 (by show subE _ _ _ _ _ = _; unfold subE; rw [hs]; exact cs hp (bs h2 (bs hl (ms h3))))
theorem p_none {f : X → Expr → Option (D × X)} : evPart f x .none = some (.none, x) := rfl
theorem p_some {f : X → Expr → Option (D × X)} (h1 : f x e = some (.int i, x1)) (hs : small i = true) : evPart f x (some e) = some (some i, x1) := bs h1 (cs (a := some (some i, x1)) hs rfl)
theorem w_slc {q1 q2 : Option Expr} {o1 o2 : Option Int} (h1 : (rc m).ev cfg x e1 = some (a, x1)) (h2 : evPart ((rc m).ev cfg) x1 q1 = some (o1, x2)) (h3 : evPart ((rc m).ev cfg) x2 q2 = some (o2, x3)) (h4 : cutD a o1 o2 = some d) : (rc (m + 1)).ev cfg x (.Subscript e1 (.Slice q1 q2 .none ap) p) = some (d, x3) :=
  bs h1 (bs h2 (bs h3 (ms h4)))
theorem fr_nil : freesX cfg x [] = some [] := rfl
theorem fr_loc {r : List (Str × NameKind)} {o : Option AEnv} (h : freesX cfg x r = o) : freesX cfg x ((nm, .local) :: r) = o := h
theorem fr_glb {r : List (Str × NameKind)} {o : Option AEnv} (h : freesX cfg x r = o) : freesX cfg x ((nm, .globalImplicit) :: r) = o := h
theorem fr_fre {r : List (Str × NameKind)} (hk : cfg.kd nm = some .cell) (hl : σ.lookup nm = some (.d d)) (h : freesX cfg (σ, G) r = some σ') : freesX cfg (σ, G) ((nm, .free) :: r) = some ((nm, .con d) :: σ') := bs hl (bs (cs (decide_eq_true hk) rfl) (ms h))
theorem fr_con {r : List (Str × NameKind)} (hk : cfg.kd nm = some .cell) (hl : σ.lookup nm = some (.con d)) (h : freesX cfg (σ, G) r = some σ') : freesX cfg (σ, G) ((nm, .free) :: r) = some ((nm, .con d) :: σ') := bs hl (bs (cs (by rw [decide_eq_true hk, Bool.true_or]) rfl) (ms h))
theorem w_comp {sc : Scope} {σ0 σ1 : AEnv} {G2 : GS} {vs : List D} (hc : (iterE e2 && scopeE sc) = true) (h0 : freesX cfg x sc.names = some σ0) (h1 : (rc m).ev cfg x e2 = some (a, (σ, G))) (h2 : itsD a = some ds) (h3 : freesX cfg (σ, G) sc.names = some σ1) (h4 : ds.length ≤ 1000000)
    (h5 : ∃ σ2, compX ((rc m).ev (cfgIn cfg sc)) (cfgIn cfg sc) l e1 (σ1, G) ds = some (vs, (σ2, G2))) : (rc (m + 1)).ev cfg x (.ListComp e1 [⟨l, e2, [], 0⟩] sc p) = some (.lst vs, (σ, G2)) := by
  obtain ⟨σ2, h5⟩ := h5
  refine cs (c := ([] : List Expr).isEmpty && decide ((0 : Int) = 0) && iterE e2 && scopeE sc && (freesX cfg x sc.names).isSome) ?_ (bs h1 (bs h2 (bs h3 (cs (decide_eq_true h4) (ms h5)))))
  rw [h0]
  exact and_t hc fun c1 c2 => by rw [c1, c2]; rfl
theorem e_nil {f : X → Expr → Option (D × X)} : evs f x [] = some ([], x) := rfl
theorem e_cons {f : X → Expr → Option (D × X)} (h1 : f x e = some (d, x1)) (h2 : evs f x1 es = some (ds, x2)) : evs f x (e :: es) = some (d :: ds, x2) := bs h1 (ms h2)

theorem t_not (h1 : (rc m).tr cfg x e1 = some (t, x1)) : (rc (m + 1)).tr cfg x (.UnaryOp .Not e1 p) = some (!t, x1) := bs h1 rfl
theorem t_and {r : Option (Bool × X)} (h1 : (rc m).tr cfg x e1 = some (true, x1)) (h2 : (rc m).tr cfg x1 e2 = r) : (rc (m + 1)).tr cfg x (.BoolOp .And [e1, e2] p) = r := bs h1 h2
theorem t_andF (h1 : (rc m).tr cfg x e1 = some (false, x1)) : (rc (m + 1)).tr cfg x (.BoolOp .And [e1, e2] p) = some (false, x1) := bs h1 rfl
theorem t_or {r : Option (Bool × X)} (h1 : (rc m).tr cfg x e1 = some (false, x1)) (h2 : (rc m).tr cfg x1 e2 = r) : (rc (m + 1)).tr cfg x (.BoolOp .Or [e1, e2] p) = r := bs h1 h2
theorem t_orT (h1 : (rc m).tr cfg x e1 = some (true, x1)) : (rc (m + 1)).tr cfg x (.BoolOp .Or [e1, e2] p) = some (true, x1) := bs h1 rfl
theorem t_cmp {op : CmpOp} (h0 : behindInMarks op e2 = false) (h1 : (rc m).ev cfg x e1 = some (a, x1)) (h2 : (rc m).ev cfg x1 e2 = some (b, x2)) (hm : mrefD a = .none) (h3 : cmpB op a b = some t) : (rc (m + 1)).tr cfg x (.Compare e1 [op] [e2] p) = some (t, x2) :=
  bs (w_cmp (m := m) (p := p) h0 h1 h2 hm h3) rfl
theorem t_name (h1 : (rc m).ev cfg x (.Name nm p) = some (a, x1)) (h2 : truD a = some t) : (rc (m + 1)).tr cfg x (.Name nm p) = some (t, x1) := bs h1 (ms h2)
theorem t_call {f : Expr} {kw : List Keyword} (h1 : (rc m).ev cfg x (.Call f es kw p) = some (a, x1)) (h2 : truD a = some t) : (rc (m + 1)).tr cfg x (.Call f es kw p) = some (t, x1) := bs h1 (ms h2)
theorem t_sub (h1 : (rc m).ev cfg x (.Subscript e1 e2 p) = some (a, x1)) (h2 : truD a = some t) : (rc (m + 1)).tr cfg x (.Subscript e1 e2 p) = some (t, x1) := bs h1 (ms h2)
theorem t_attr (h1 : (rc m).ev cfg x (.Attribute e1 nm p) = some (a, x1)) (h2 : truD a = some t) : (rc (m + 1)).tr cfg x (.Attribute e1 nm p) = some (t, x1) := bs h1 (ms h2)

theorem s_ret (hl : listOf e = .none) (h : (rc m).ev cfg x e = some (d, x1)) : stepS (rc m) cfg x (.Return (some e) p) = some (.ret d, x1) := by
  show retX _ _ _ _ = _; unfold retX; rw [hl]; exact ms h
theorem s_retL {q : Pos} (hf : flatL es = true) (h : evs ((rc m).ev cfg) x es = some (ds, (σ, G))) : stepS (rc m) cfg x (.Return (some (.List es q)) p) = some (.ret (.mref G.length), (σ, G ++ [ds])) := cs hf (ms h)
theorem s_ifT {r : Option (Fl × X)} {b1 b2 : List Stmt} (h1 : (rc m).tr cfg x e = some (true, x1)) (h2 : (rc m).ex cfg x1 b1 = r) : stepS (rc m) cfg x (.If e b1 b2 p) = r := bs h1 h2
theorem s_ifF {r : Option (Fl × X)} {b1 b2 : List Stmt} (h1 : (rc m).tr cfg x e = some (false, x1)) (h2 : (rc m).ex cfg x1 b2 = r) : stepS (rc m) cfg x (.If e b1 b2 p) = r := bs h1 h2
theorem s_for {r : Option (Fl × X)} {bd : List Stmt} (hn : ((nameOf l).isSome && iterE e) = true) (h1 : (rc m).ev cfg x e = some (a, x1)) (h2 : itsD a = some ds) (h3 : forX ((rc m).ex cfg) cfg l bd x1 ds = r) : stepS (rc m) cfg x (.For l e bd [] p) = r := cs hn (bs h1 (bs h2 h3))
theorem f_nil {f : X → List Stmt → Option (Fl × X)} {bd : List Stmt} : forX f cfg l bd x [] = some (.next, x) := rfl
theorem f_cons {f : X → List Stmt → Option (Fl × X)} {bd : List Stmt} {r : Option (Fl × X)} (h1 : targX cfg x l d = some x1) (h2 : f x1 bd = some (.next, x2)) (h3 : forX f cfg l bd x2 ds = r) : forX f cfg l bd x (d :: ds) = r := bs h1 (bs h2 h3)
theorem f_ret {f : X → List Stmt → Option (Fl × X)} {bd : List Stmt} (h1 : targX cfg x l d = some x1) (h2 : f x1 bd = some (.ret a, x2)) : forX f cfg l bd x (d :: ds) = some (.ret a, x2) := bs h1 (bs h2 rfl)
theorem s_asg (hl : listOf e = .none) (hd : dicE e = false) (h1 : (rc m).ev cfg x e = some (d, x1)) (h2 : storeX cfg x1 nm d = some x2) : stepS (rc m) cfg x (.Assign [.Name nm ap] e p) = some (.next, x2) := by
  show assN _ _ _ _ _ = _; unfold assN; rw [hl]; exact cf hd (bs h1 (ms h2))
theorem s_asgL {q : Pos} (k : LocN cfg.kd nm) (hf : flatL es = true) (h : evs ((rc m).ev cfg) x es = some (ds, (σ, G))) : stepS (rc m) cfg x (.Assign [.Name nm ap] (.List es q) p) = some (.next, (put σ nm (.lst ds), G)) :=
  cs hf (bs h (cs (decide_eq_true k.b) rfl))
theorem s_asgD (k : LocN cfg.kd nm) {q : Option Expr} {ks : List (Option Expr)} {q9 : Pos} {l : List (Str × D)} (h : (rc (m + 1)).ev cfg x (.Dict (q :: ks) es q9) = some (.dic l, (σ, G))) : stepS (rc m) cfg x (.Assign [.Name nm ap] (.Dict (q :: ks) es q9) p) = some (.next, (put σ nm (.dic l), G)) :=
by
  show (bif dicE (.Dict (q :: ks) es q9) then (stepE (rc m) cfg x (.Dict (q :: ks) es q9)).bind (fun p => (dicD p.1).bind fun l => bif isLoc cfg nm then some (Fl.next, (put p.2.1 nm (.dic l), p.2.2)) else .none) else ((rc m).ev cfg x (.Dict (q :: ks) es q9)).bind fun p => nextX (storeX cfg p.2 nm p.1)) = _
  exact cs rfl (bs (a := (D.dic l, (σ, G))) h (bs (a := l) rfl (cs (decide_eq_true k.b) rfl)))
theorem ld {r : D × AEnv} (k : LocN cfg.kd nm) (hr : readX σ nm = some r) : loadX cfg (σ, G) nm = some (r.1, (r.2, G)) := cs (decide_eq_true k.b) (ms hr)
theorem s_augA (k : LocN cfg.kd nm) (hl : σ.lookup nm = some (.d (.int i))) (h1 : (rc m).ev cfg (σ, G) e = some (.int j, (σ', G'))) : stepS (rc m) cfg (σ, G) (.AugAssign (.Name nm ap) .Add e p) = some (.next, (put σ' nm (.d (.int (i + j))), G')) :=
by
  show augX (rc m) cfg (σ, G) nm .Add e = _
  exact bs (ld k (rd hl rfl)) (bs (a := i) rfl (bs h1 (bs (a := j) rfl (ms (f := fun x => (Fl.next, x)) (st_loc k)))))
theorem s_asgT {ts : List Expr} {k1 k2 : Nat} {q1 q2 : Pos} (hc : tupOk ts es = true) (h1 : evs ((rc m).ev cfg) x es = some (ds, x1)) (h2 : storesX cfg x1 ts ds = some x2) : stepS (rc m) cfg x (.Assign [.Tuple ts k1 q1] (.Tuple es k2 q2) p) = some (.next, x2) := cs hc (bs h1 (ms h2))
theorem ss_nil : storesX cfg x [] [] = some x := rfl
theorem ss_cons {ts : List Expr} (h1 : storeX cfg x nm d = some x1) (h2 : storesX cfg x1 ts ds = some x2) : storesX cfg x (.Name nm p :: ts) (d :: ds) = some x2 := bs h1 h2
theorem s_keyD (k : LocN cfg.kd nm) {l : List (Str × D)} {key : Str} {kk : Nat} {q : Pos} (hp : plainE e = true) (h1 : (rc m).ev cfg x e = some (d, (σ, G))) (hl : σ.lookup nm = some (.dic l)) (hz : l.length ≤ 100) :
    stepS (rc m) cfg x (.Assign [.Subscript (.Name nm q) (.Constant (.str key) kk pos) ap] e p) = some (.next, (put σ nm (.dic (fieldX l key d)), G)) := by
  show assI _ _ _ _ _ _ = _
  refine cs hp (bs h1 ?_)
  have ho : own dicA cfg (σ, G) nm = some l := cs (decide_eq_true k.b) (bs hl rfl)
  show (match own dicA cfg (σ, G) nm with | some l => _ | .none => _) = _
  rw [ho]
  exact cs (by rw [show (nm == S "__debug__") = false from k.a, decide_eq_true hz]; rfl) rfl
theorem s_keyG (k : LocN cfg.kd nm) {kk : Nat} {ls : List D} {q : Pos} {e9 : Expr} (hp : (plainE e9 && plainE e) = true) (h1 : (rc m).ev cfg x e = some (d, (σ, G))) (hn : σ.lookup nm = some (.d (.mref kk))) (h2 : (rc m).ev cfg (σ, G) e9 = some (.int i, (σ', G')))
    (hl : G'[kk]? = some ls) (hz : (decide (0 ≤ i) && decide (i.toNat < ls.length) && decide (ls.length ≤ 1000000)) = true) :
    stepS (rc m) cfg x (.Assign [.Subscript (.Name nm q) e9 ap] e p) = some (.next, (σ', G'.set kk (ls.set i.toNat d))) := by
  show assI _ _ _ _ _ _ = _
  refine cs hp (bs h1 ?_)
  have ho : own dicA cfg (σ, G) nm = .none := cs (decide_eq_true k.b) (bs hn rfl)
  show (match own dicA cfg (σ, G) nm with | some l => _ | .none => _) = _
  rw [ho]
  exact bs (n_loc k hn) (bs (a := kk) rfl (bs h2 (bs (a := i) rfl (bs hl (cs hz rfl)))))
theorem s_app (k : LocN cfg.kd nm) {l : List D} {kw : List Keyword} {q9 p9 : Pos} {m9 : Str} (ha : appP (.Call (.Attribute (.Name nm q9) m9 p9) [e] kw pos) = some (nm, e)) (hl : σ.lookup nm = some (.lst l)) (h1 : (rc m).ev cfg (era σ nm, G) e = some (d, (σ', G'))) (hz : l.length ≤ 1000000) :
    stepS (rc m) cfg (σ, G) (.Expr (.Call (.Attribute (.Name nm q9) m9 p9) [e] kw pos) p) = some (.next, (put σ' nm (.lst (l ++ [d])), G')) := by
  refine bs ha ?_
  have ho : own lstA cfg (σ, G) nm = some l := cs (decide_eq_true k.b) (bs hl rfl)
  show appX _ _ _ _ _ = _
  unfold appX
  rw [ho]
  exact bs h1 (cs (decide_eq_true hz) rfl)
theorem s_appG {kk : Nat} {l : List D} {kw : List Keyword} {q9 p9 : Pos} {m9 : Str} (ha : appP (.Call (.Attribute (.Name nm q9) m9 p9) [e] kw pos) = some (nm, e)) (ho : own lstA cfg x nm = .none) (hn : nameX cfg x nm = some (.mref kk, x1)) (h1 : (rc m).ev cfg x1 e = some (d, (σ', G'))) (hl : G'[kk]? = some l) (hz : l.length ≤ 1000000) :
    stepS (rc m) cfg x (.Expr (.Call (.Attribute (.Name nm q9) m9 p9) [e] kw pos) p) = some (.next, (σ', G'.set kk (l ++ [d]))) := by
  refine bs ha ?_
  show appX _ _ _ _ _ = _
  unfold appX
  rw [ho]
  exact bs hn (bs (a := kk) rfl (bs h1 (bs hl (cs (decide_eq_true hz) rfl))))
theorem wh_next {b : List Stmt} (h1 : (rc m).tr cfg x e = some (true, x1)) (h2 : (rc m).ex cfg x1 b = some (.next, x2)) : (rc (m + 1)).wh cfg x e b = (rc m).wh cfg x2 e b := bs h1 (bs h2 rfl)
theorem wh_stop {b : List Stmt} (h1 : (rc m).tr cfg x e = some (false, x1)) : (rc (m + 1)).wh cfg x e b = some (.next, x1) := bs h1 rfl
theorem x_nil {f : X → Stmt → Option (Fl × X)} : exs f x [] = some (.next, x) := rfl
theorem x_next {f : X → Stmt → Option (Fl × X)} {s : Stmt} {r : List Stmt} {o : Option (Fl × X)} (h : f x s = some (.next, x1)) (h2 : exs f x1 r = o) : exs f x (s :: r) = o := bs h h2
theorem x_last {f : X → Stmt → Option (Fl × X)} {s : Stmt} {o : Fl × X} (h : f x s = some o) : exs f x [s] = some o := bs h (by obtain ⟨q, y⟩ := o; cases q <;> rfl)
theorem x_ret {f : X → Stmt → Option (Fl × X)} {s : Stmt} {r : List Stmt} (h : f x s = some (.ret d, x1)) : exs f x (s :: r) = some (.ret d, x1) := bs h rfl
theorem x_blk {b : List Stmt} {o : Option (Fl × X)} (h : exs (stepS (rc m) cfg) x b = o) : (rc (m + 1)).ex cfg x b = o := h
theorem g_name {r : Option X} (h : storeX cfg x nm d = r) : targX cfg x (.Name nm p) d = r := h
theorem g_tup {ts : List Expr} {k : Nat} (hl : (ts.length == ds.length) = true) (h : storesX cfg x ts ds = some x1) : targX cfg x (.Tuple ts k p) (.tup ds) = some x1 := cs hl h
theorem out_run {b : List Stmt} (h : (rc m).ex cfg x b = some (.ret d, (σ, G))) : outB ((rc m).ex cfg x b) = some (d, G) := by rw [h]; rfl
theorem out_ret (h : x1 = (σ, G)) {o : Option (Fl × X)} (hr : o = some (.ret d, x1)) : outB o = some (d, G) := by rw [hr, h]; rfl
end
end Mine
end

section
open PySem PySem.W PyProof.Rows PySem.Calls PySem.Spec PySem.SeqAt
set_option Elab.async false
set_option backward.match.sparseCases false
set_option maxRecDepth 100000
namespace Mine
section
variable {H : Hd} {nest : Bool}
theorem l142_one : LocN (cfgB H (namesAt 142) nest).kd (Str.ofString "one") := ⟨by kernel_rfl, by kernel_rfl⟩
theorem l142_other : LocN (cfgB H (namesAt 142) nest).kd (Str.ofString "other") := ⟨by kernel_rfl, by kernel_rfl⟩
theorem l144_one : LocN (cfgB H (namesAt 144) nest).kd (Str.ofString "one") := ⟨by kernel_rfl, by kernel_rfl⟩
theorem l144_other : LocN (cfgB H (namesAt 144) nest).kd (Str.ofString "other") := ⟨by kernel_rfl, by kernel_rfl⟩
theorem g144_int : GlbN (cfgB H (namesAt 144) nest) (Str.ofString "int") (.sta (.type "int")) := ⟨by kernel_rfl, by kernel_rfl, by kernel_rfl⟩
theorem g144_sign_of_sorting : GlbN (cfgB H (namesAt 144) nest) (Str.ofString "sign_of_sorting") (.sta (.ref 992)) := ⟨by kernel_rfl, by kernel_rfl, by kernel_rfl⟩
theorem l145_one : LocN (cfgB H (namesAt 145) nest).kd (Str.ofString "one") := ⟨by kernel_rfl, by kernel_rfl⟩
theorem l145_other : LocN (cfgB H (namesAt 145) nest).kd (Str.ofString "other") := ⟨by kernel_rfl, by kernel_rfl⟩
theorem l145_upper_first : LocN (cfgB H (namesAt 145) nest).kd (Str.ofString "upper_first") := ⟨by kernel_rfl, by kernel_rfl⟩
theorem l145_sign : LocN (cfgB H (namesAt 145) nest).kd (Str.ofString "sign") := ⟨by kernel_rfl, by kernel_rfl⟩
theorem g145_sign_of_sorting : GlbN (cfgB H (namesAt 145) nest) (Str.ofString "sign_of_sorting") (.sta (.ref 992)) := ⟨by kernel_rfl, by kernel_rfl, by kernel_rfl⟩
theorem l146_order : LocN (cfgB H (namesAt 146) nest).kd (Str.ofString "order") := ⟨by kernel_rfl, by kernel_rfl⟩
theorem l146_one : LocN (cfgB H (namesAt 146) nest).kd (Str.ofString "one") := ⟨by kernel_rfl, by kernel_rfl⟩
theorem l146_other : LocN (cfgB H (namesAt 146) nest).kd (Str.ofString "other") := ⟨by kernel_rfl, by kernel_rfl⟩
theorem l146_sign : LocN (cfgB H (namesAt 146) nest).kd (Str.ofString "sign") := ⟨by kernel_rfl, by kernel_rfl⟩
theorem g146_compared_as_numbers : GlbN (cfgB H (namesAt 146) nest) (Str.ofString "compared_as_numbers") (.sta (.ref 999)) := ⟨by kernel_rfl, by kernel_rfl, by kernel_rfl⟩
theorem g146_compared_as_texts : GlbN (cfgB H (namesAt 146) nest) (Str.ofString "compared_as_texts") (.sta (.ref 1006)) := ⟨by kernel_rfl, by kernel_rfl, by kernel_rfl⟩
theorem l148_orders : LocN (cfgB H (namesAt 148) nest).kd (Str.ofString "orders") := ⟨by kernel_rfl, by kernel_rfl⟩
theorem l148_one : LocN (cfgB H (namesAt 148) nest).kd (Str.ofString "one") := ⟨by kernel_rfl, by kernel_rfl⟩
theorem l148_other : LocN (cfgB H (namesAt 148) nest).kd (Str.ofString "other") := ⟨by kernel_rfl, by kernel_rfl⟩
theorem l148_place : LocN (cfgB H (namesAt 148) nest).kd (Str.ofString "place") := ⟨by kernel_rfl, by kernel_rfl⟩
theorem l148_sign : LocN (cfgB H (namesAt 148) nest).kd (Str.ofString "sign") := ⟨by kernel_rfl, by kernel_rfl⟩
theorem g148_range : GlbN (cfgB H (namesAt 148) nest) (Str.ofString "range") (.sta (.type "range")) := ⟨by kernel_rfl, by kernel_rfl, by kernel_rfl⟩
theorem g148_len : GlbN (cfgB H (namesAt 148) nest) (Str.ofString "len") (.sta (.builtin "len")) := ⟨by kernel_rfl, by kernel_rfl, by kernel_rfl⟩
theorem g148_compared_sorting : GlbN (cfgB H (namesAt 148) nest) (Str.ofString "compared_sorting") (.sta (.ref 1013)) := ⟨by kernel_rfl, by kernel_rfl, by kernel_rfl⟩
theorem l149_orders : LocN (cfgB H (namesAt 149) nest).kd (Str.ofString "orders") := ⟨by kernel_rfl, by kernel_rfl⟩
theorem l149_one : LocN (cfgB H (namesAt 149) nest).kd (Str.ofString "one") := ⟨by kernel_rfl, by kernel_rfl⟩
theorem l149_other : LocN (cfgB H (namesAt 149) nest).kd (Str.ofString "other") := ⟨by kernel_rfl, by kernel_rfl⟩
theorem l149_found : LocN (cfgB H (namesAt 149) nest).kd (Str.ofString "found") := ⟨by kernel_rfl, by kernel_rfl⟩
theorem l149_first : LocN (cfgB H (namesAt 149) nest).kd (Str.ofString "first") := ⟨by kernel_rfl, by kernel_rfl⟩
theorem l149_second : LocN (cfgB H (namesAt 149) nest).kd (Str.ofString "second") := ⟨by kernel_rfl, by kernel_rfl⟩
theorem g149_len : GlbN (cfgB H (namesAt 149) nest) (Str.ofString "len") (.sta (.builtin "len")) := ⟨by kernel_rfl, by kernel_rfl, by kernel_rfl⟩
theorem g149_compared_rows : GlbN (cfgB H (namesAt 149) nest) (Str.ofString "compared_rows") (.sta (.ref 1020)) := ⟨by kernel_rfl, by kernel_rfl, by kernel_rfl⟩
theorem l150_orders : LocN (cfgB H (namesAt 150) nest).kd (Str.ofString "orders") := ⟨by kernel_rfl, by kernel_rfl⟩
theorem l150_pairs : LocN (cfgB H (namesAt 150) nest).kd (Str.ofString "pairs") := ⟨by kernel_rfl, by kernel_rfl⟩
theorem l150_runs : LocN (cfgB H (namesAt 150) nest).kd (Str.ofString "runs") := ⟨by kernel_rfl, by kernel_rfl⟩
theorem l150_later : LocN (cfgB H (namesAt 150) nest).kd (Str.ofString "later") := ⟨by kernel_rfl, by kernel_rfl⟩
theorem l150_place : LocN (cfgB H (namesAt 150) nest).kd (Str.ofString "place") := ⟨by kernel_rfl, by kernel_rfl⟩
theorem g150_len : GlbN (cfgB H (namesAt 150) nest) (Str.ofString "len") (.sta (.builtin "len")) := ⟨by kernel_rfl, by kernel_rfl, by kernel_rfl⟩
theorem g150_range : GlbN (cfgB H (namesAt 150) nest) (Str.ofString "range") (.sta (.type "range")) := ⟨by kernel_rfl, by kernel_rfl, by kernel_rfl⟩
theorem g150_merged : GlbN (cfgB H (namesAt 150) nest) (Str.ofString "merged") (.sta (.ref 1027)) := ⟨by kernel_rfl, by kernel_rfl, by kernel_rfl⟩
theorem l152_nodes : LocN (cfgB H (namesAt 152) nest).kd (Str.ofString "nodes") := ⟨by kernel_rfl, by kernel_rfl⟩
theorem l152_keys : LocN (cfgB H (namesAt 152) nest).kd (Str.ofString "keys") := ⟨by kernel_rfl, by kernel_rfl⟩
theorem l152_context_of : LocN (cfgB H (namesAt 152) nest).kd (Str.ofString "context_of") := ⟨by kernel_rfl, by kernel_rfl⟩
theorem l152_orders : LocN (cfgB H (namesAt 152) nest).kd (Str.ofString "orders") := ⟨by kernel_rfl, by kernel_rfl⟩
theorem l152_pairs : LocN (cfgB H (namesAt 152) nest).kd (Str.ofString "pairs") := ⟨by kernel_rfl, by kernel_rfl⟩
theorem l152_place : LocN (cfgB H (namesAt 152) nest).kd (Str.ofString "place") := ⟨by kernel_rfl, by kernel_rfl⟩
theorem l152_context : CelN (cfgB H (namesAt 152) nest).kd (Str.ofString "context") := ⟨by kernel_rfl, by kernel_rfl⟩
theorem l152_row : LocN (cfgB H (namesAt 152) nest).kd (Str.ofString "row") := ⟨by kernel_rfl, by kernel_rfl⟩
theorem g152_range : GlbN (cfgB H (namesAt 152) nest) (Str.ofString "range") (.sta (.type "range")) := ⟨by kernel_rfl, by kernel_rfl, by kernel_rfl⟩
theorem g152_len : GlbN (cfgB H (namesAt 152) nest) (Str.ofString "len") (.sta (.builtin "len")) := ⟨by kernel_rfl, by kernel_rfl, by kernel_rfl⟩
theorem g152_sorted_rows : GlbN (cfgB H (namesAt 152) nest) (Str.ofString "sorted_rows") (.sta (.ref 1032)) := ⟨by kernel_rfl, by kernel_rfl, by kernel_rfl⟩
theorem l156_script : LocN (cfgB H (namesAt 156) nest).kd (Str.ofString "script") := ⟨by kernel_rfl, by kernel_rfl⟩
theorem l156_k : LocN (cfgB H (namesAt 156) nest).kd (Str.ofString "k") := ⟨by kernel_rfl, by kernel_rfl⟩
theorem l156_cell : LocN (cfgB H (namesAt 156) nest).kd (Str.ofString "cell") := ⟨by kernel_rfl, by kernel_rfl⟩
theorem l156_big : LocN (cfgB H (namesAt 156) nest).kd (Str.ofString "big") := ⟨by kernel_rfl, by kernel_rfl⟩
theorem l156_mixed : LocN (cfgB H (namesAt 156) nest).kd (Str.ofString "mixed") := ⟨by kernel_rfl, by kernel_rfl⟩
theorem g156_len : GlbN (cfgB H (namesAt 156) nest) (Str.ofString "len") (.sta (.builtin "len")) := ⟨by kernel_rfl, by kernel_rfl, by kernel_rfl⟩
theorem g156_max : GlbN (cfgB H (namesAt 156) nest) (Str.ofString "max") (.sta (.builtin "max")) := ⟨by kernel_rfl, by kernel_rfl, by kernel_rfl⟩
theorem g156_int : GlbN (cfgB H (namesAt 156) nest) (Str.ofString "int") (.sta (.type "int")) := ⟨by kernel_rfl, by kernel_rfl, by kernel_rfl⟩
theorem l157_source : LocN (cfgB H (namesAt 157) nest).kd (Str.ofString "source") := ⟨by kernel_rfl, by kernel_rfl⟩
theorem l157_top : LocN (cfgB H (namesAt 157) nest).kd (Str.ofString "top") := ⟨by kernel_rfl, by kernel_rfl⟩
theorem l157_drawn : LocN (cfgB H (namesAt 157) nest).kd (Str.ofString "drawn") := ⟨by kernel_rfl, by kernel_rfl⟩
theorem g157_int : GlbN (cfgB H (namesAt 157) nest) (Str.ofString "int") (.sta (.type "int")) := ⟨by kernel_rfl, by kernel_rfl, by kernel_rfl⟩
theorem l158_source : LocN (cfgB H (namesAt 158) nest).kd (Str.ofString "source") := ⟨by kernel_rfl, by kernel_rfl⟩
theorem l158_things : LocN (cfgB H (namesAt 158) nest).kd (Str.ofString "things") := ⟨by kernel_rfl, by kernel_rfl⟩
theorem g158_law_take : GlbN (cfgB H (namesAt 158) nest) (Str.ofString "_law_take") (.sta (.ref 1101)) := ⟨by kernel_rfl, by kernel_rfl, by kernel_rfl⟩
theorem g158_len : GlbN (cfgB H (namesAt 158) nest) (Str.ofString "len") (.sta (.builtin "len")) := ⟨by kernel_rfl, by kernel_rfl, by kernel_rfl⟩
theorem l161_source : LocN (cfgB H (namesAt 161) nest).kd (Str.ofString "source") := ⟨by kernel_rfl, by kernel_rfl⟩
theorem l161_is_number : LocN (cfgB H (namesAt 161) nest).kd (Str.ofString "is_number") := ⟨by kernel_rfl, by kernel_rfl⟩
theorem l161_key : LocN (cfgB H (namesAt 161) nest).kd (Str.ofString "key") := ⟨by kernel_rfl, by kernel_rfl⟩
theorem g161_law_take : GlbN (cfgB H (namesAt 161) nest) (Str.ofString "_law_take") (.sta (.ref 1101)) := ⟨by kernel_rfl, by kernel_rfl, by kernel_rfl⟩
theorem g161_law_one : GlbN (cfgB H (namesAt 161) nest) (Str.ofString "_law_one") (.sta (.ref 1108)) := ⟨by kernel_rfl, by kernel_rfl, by kernel_rfl⟩
theorem l163_keys : LocN (cfgB H (namesAt 163) nest).kd (Str.ofString "keys") := ⟨by kernel_rfl, by kernel_rfl⟩
theorem l163_rows : LocN (cfgB H (namesAt 163) nest).kd (Str.ofString "rows") := ⟨by kernel_rfl, by kernel_rfl⟩
theorem l163_one : LocN (cfgB H (namesAt 163) nest).kd (Str.ofString "one") := ⟨by kernel_rfl, by kernel_rfl⟩
theorem l163_other : LocN (cfgB H (namesAt 163) nest).kd (Str.ofString "other") := ⟨by kernel_rfl, by kernel_rfl⟩
theorem l163_key : LocN (cfgB H (namesAt 163) nest).kd (Str.ofString "key") := ⟨by kernel_rfl, by kernel_rfl⟩
theorem l163_first : LocN (cfgB H (namesAt 163) nest).kd (Str.ofString "first") := ⟨by kernel_rfl, by kernel_rfl⟩
theorem l163_second : LocN (cfgB H (namesAt 163) nest).kd (Str.ofString "second") := ⟨by kernel_rfl, by kernel_rfl⟩
theorem g163_law_key : GlbN (cfgB H (namesAt 163) nest) (Str.ofString "_law_key") (.sta (.ref 1118)) := ⟨by kernel_rfl, by kernel_rfl, by kernel_rfl⟩
theorem l164_keys : LocN (cfgB H (namesAt 164) nest).kd (Str.ofString "keys") := ⟨by kernel_rfl, by kernel_rfl⟩
theorem l164_rows : LocN (cfgB H (namesAt 164) nest).kd (Str.ofString "rows") := ⟨by kernel_rfl, by kernel_rfl⟩
theorem l164_found : LocN (cfgB H (namesAt 164) nest).kd (Str.ofString "found") := ⟨by kernel_rfl, by kernel_rfl⟩
theorem l164_node : LocN (cfgB H (namesAt 164) nest).kd (Str.ofString "node") := ⟨by kernel_rfl, by kernel_rfl⟩
theorem l164_at : LocN (cfgB H (namesAt 164) nest).kd (Str.ofString "at") := ⟨by kernel_rfl, by kernel_rfl⟩
theorem g164_range : GlbN (cfgB H (namesAt 164) nest) (Str.ofString "range") (.sta (.type "range")) := ⟨by kernel_rfl, by kernel_rfl, by kernel_rfl⟩
theorem g164_len : GlbN (cfgB H (namesAt 164) nest) (Str.ofString "len") (.sta (.builtin "len")) := ⟨by kernel_rfl, by kernel_rfl, by kernel_rfl⟩
theorem g164_law_stands_ahead : GlbN (cfgB H (namesAt 164) nest) (Str.ofString "_law_stands_ahead") (.sta (.ref 1139)) := ⟨by kernel_rfl, by kernel_rfl, by kernel_rfl⟩
theorem l165_source : LocN (cfgB H (namesAt 165) nest).kd (Str.ofString "source") := ⟨by kernel_rfl, by kernel_rfl⟩
theorem l165_keys : LocN (cfgB H (namesAt 165) nest).kd (Str.ofString "keys") := ⟨by kernel_rfl, by kernel_rfl⟩
theorem l165_rows : CelN (cfgB H (namesAt 165) nest).kd (Str.ofString "rows") := ⟨by kernel_rfl, by kernel_rfl⟩
theorem l165_context_here : LocN (cfgB H (namesAt 165) nest).kd (Str.ofString "context_here") := ⟨by kernel_rfl, by kernel_rfl⟩
theorem l165_nodes : LocN (cfgB H (namesAt 165) nest).kd (Str.ofString "nodes") := ⟨by kernel_rfl, by kernel_rfl⟩
theorem l165_due : LocN (cfgB H (namesAt 165) nest).kd (Str.ofString "due") := ⟨by kernel_rfl, by kernel_rfl⟩
theorem l165_asked : CelN (cfgB H (namesAt 165) nest).kd (Str.ofString "asked") := ⟨by kernel_rfl, by kernel_rfl⟩
theorem g165_range : GlbN (cfgB H (namesAt 165) nest) (Str.ofString "range") (.sta (.type "range")) := ⟨by kernel_rfl, by kernel_rfl, by kernel_rfl⟩
theorem g165_len : GlbN (cfgB H (namesAt 165) nest) (Str.ofString "len") (.sta (.builtin "len")) := ⟨by kernel_rfl, by kernel_rfl, by kernel_rfl⟩
theorem g165_law_due : GlbN (cfgB H (namesAt 165) nest) (Str.ofString "_law_due") (.sta (.ref 1146)) := ⟨by kernel_rfl, by kernel_rfl, by kernel_rfl⟩
theorem g165_sorted_nodes : GlbN (cfgB H (namesAt 165) nest) (Str.ofString "sorted_nodes") (.sta (.ref 1044)) := ⟨by kernel_rfl, by kernel_rfl, by kernel_rfl⟩
theorem l166_script : LocN (cfgB H (namesAt 166) nest).kd (Str.ofString "script") := ⟨by kernel_rfl, by kernel_rfl⟩
theorem l166_k : LocN (cfgB H (namesAt 166) nest).kd (Str.ofString "k") := ⟨by kernel_rfl, by kernel_rfl⟩
theorem l166_source : CelN (cfgB H (namesAt 166) nest).kd (Str.ofString "source") := ⟨by kernel_rfl, by kernel_rfl⟩
theorem l166_rows : LocN (cfgB H (namesAt 166) nest).kd (Str.ofString "rows") := ⟨by kernel_rfl, by kernel_rfl⟩
theorem l166_turn : LocN (cfgB H (namesAt 166) nest).kd (Str.ofString "turn") := ⟨by kernel_rfl, by kernel_rfl⟩
theorem l166_keys : LocN (cfgB H (namesAt 166) nest).kd (Str.ofString "keys") := ⟨by kernel_rfl, by kernel_rfl⟩
theorem g166_range : GlbN (cfgB H (namesAt 166) nest) (Str.ofString "range") (.sta (.type "range")) := ⟨by kernel_rfl, by kernel_rfl, by kernel_rfl⟩
theorem g166_max : GlbN (cfgB H (namesAt 166) nest) (Str.ofString "max") (.sta (.builtin "max")) := ⟨by kernel_rfl, by kernel_rfl, by kernel_rfl⟩
theorem g166_min : GlbN (cfgB H (namesAt 166) nest) (Str.ofString "min") (.sta (.builtin "min")) := ⟨by kernel_rfl, by kernel_rfl, by kernel_rfl⟩
theorem g166_len : GlbN (cfgB H (namesAt 166) nest) (Str.ofString "len") (.sta (.builtin "len")) := ⟨by kernel_rfl, by kernel_rfl, by kernel_rfl⟩
theorem g166_law_pool : GlbN (cfgB H (namesAt 166) nest) (Str.ofString "_law_pool") (.sta (.ref 1094)) := ⟨by kernel_rfl, by kernel_rfl, by kernel_rfl⟩
theorem g166_law_take : GlbN (cfgB H (namesAt 166) nest) (Str.ofString "_law_take") (.sta (.ref 1101)) := ⟨by kernel_rfl, by kernel_rfl, by kernel_rfl⟩
theorem g166_law_one : GlbN (cfgB H (namesAt 166) nest) (Str.ofString "_law_one") (.sta (.ref 1108)) := ⟨by kernel_rfl, by kernel_rfl, by kernel_rfl⟩
theorem g166_law_menu : GlbN (cfgB H (namesAt 166) nest) (Str.ofString "_law_menu") (.sta (.ref 1113)) := ⟨by kernel_rfl, by kernel_rfl, by kernel_rfl⟩
theorem g166_law_right : GlbN (cfgB H (namesAt 166) nest) (Str.ofString "_law_right") (.sta (.ref 1151)) := ⟨by kernel_rfl, by kernel_rfl, by kernel_rfl⟩
end
section
variable {i j : Int} {x y : Str} {t : Bool}
theorem b_add : binD .Add (.int i) (.int j) = some (.int (i + j)) := rfl
theorem b_sub : binD .Sub (.int i) (.int j) = some (.int (i - j)) := rfl
theorem b_mod (h : j ≠ 0) : binD .Mod (.int i) (.int j) = some (.int (i.fmod j)) := cs (by unfold okMod; rw [decide_eq_false h]; rfl) rfl
theorem b_div (h : j ≠ 0) (h2 : j.natAbs < 1073741824) : binD .FloorDiv (.int i) (.int j) = some (.int (i.fdiv j)) := cs (by unfold okDiv; rw [decide_eq_false h, decide_eq_true h2]; rfl) rfl
theorem b_mul (h : okMul i j = true) : binD .Mult (.int i) (.int j) = some (.int (i * j)) := cs h rfl
theorem c_eqi : cmpB .Eq (.int i) (.int j) = some (i == j) := rfl
theorem c_nei : cmpB .NotEq (.int i) (.int j) = some (!(i == j)) := rfl
theorem c_lti : cmpB .Lt (.int i) (.int j) = some (decide (i < j)) := rfl
theorem c_gti : cmpB .Gt (.int i) (.int j) = some (decide (j < i)) := rfl
theorem c_lei : cmpB .LtE (.int i) (.int j) = some (decide (i ≤ j)) := rfl
theorem c_gei : cmpB .GtE (.int i) (.int j) = some (decide (j ≤ i)) := rfl
theorem c_eqs : cmpB .Eq (.str x) (.str y) = some (x == y) := rfl
theorem c_lts : cmpB .Lt (.str x) (.str y) = some (decide (x.cps.toList < y.cps.toList)) := rfl
theorem c_gts : cmpB .Gt (.str x) (.str y) = some (decide (y.cps.toList < x.cps.toList)) := rfl
theorem c_nelse {a b : D} (h : eqD a b = some t) : cmpB .NotEq a b = some (!t) := ms h
theorem len_lst {l : List D} (h : l.length ≤ 1000000) : bltD (.builtin "len") [.lst l] = some (.int (l.length : Int)) := cs (decide_eq_true h) rfl
theorem len_xls {l : List D} (h : l.length ≤ 1000000) : bltD (.builtin "len") [.xls l] = some (.int (l.length : Int)) := cs (decide_eq_true h) rfl
theorem its_lst {l : List D} (h : l.length ≤ 1000000) : itsD (.lst l) = some l := cs (decide_eq_true h) rfl
end
end Mine
end
-- MAC
local macro_rules
  | `(tactic| walk_at $key:str) => do
    let l ← match key.getString with
      | "nm" => pure "e:l142_one e:l142_other e:l144_one e:l144_other e:g144_sign_of_sorting e:g144_int e:l145_one e:l145_other e:l145_upper_first e:l145_sign e:g145_sign_of_sorting e:l146_order e:l146_one e:l146_other e:l146_sign e:g146_compared_as_numbers e:g146_compared_as_texts e:l148_orders e:l148_one e:l148_other e:l148_place e:l148_sign e:g148_range e:g148_len e:g148_compared_sorting e:l149_orders e:l149_one e:l149_other e:l149_found e:l149_first e:l149_second e:g149_len e:g149_compared_rows e:l150_orders e:l150_pairs e:l150_runs e:l150_later e:l150_place e:g150_len e:g150_range e:g150_merged e:l152_nodes e:l152_keys e:l152_context_of e:l152_orders e:l152_pairs e:l152_place e:l152_context e:l152_row e:g152_range e:g152_len e:g152_sorted_rows e:l156_script e:l156_k e:l156_cell e:l156_big e:l156_mixed e:g156_len e:g156_max e:g156_int e:l157_source e:l157_top e:l157_drawn e:g157_int e:l158_source e:l158_things e:g158_law_take e:g158_len e:l161_source e:l161_is_number e:l161_key e:g161_law_take e:g161_law_one e:l163_keys e:l163_rows e:l163_one e:l163_other e:l163_key e:l163_first e:l163_second e:g163_law_key e:l164_keys e:l164_rows e:l164_found e:l164_node e:l164_at e:g164_range e:g164_len e:g164_law_stands_ahead e:l165_source e:l165_keys e:l165_rows e:l165_context_here e:l165_nodes e:l165_due e:l165_asked e:g165_range e:g165_len e:g165_law_due e:g165_sorted_nodes e:l166_script e:l166_k e:l166_source e:l166_rows e:l166_turn e:l166_keys e:g166_range e:g166_max e:g166_min e:g166_len e:g166_law_pool e:g166_law_take e:g166_law_one e:g166_law_menu e:g166_law_right e:l1650_node e:l1650_position e:l1650_size e:l1650_held e:l1650_asked e:l1650_rows e:g1650_Context"
      | "lk" => pure "x:x e:lk_same r:lk_eq e:lk_hd a:lk_tl a:lk_ne a:lk_era"
      | "lks" => pure "l:x b:x"
      | "com" => pure "e:e_nil a:e_cons n:n_loc n:n_lst n:n_dic n:n_cel n:n_cec n:n_fre m:n_fre k:st_loc k:s_augA k:s_asgL k:s_asgD k:st_cel h:w_callF h:w_callB a:w_bin a:w_dict2 a:w_dict3 a:w_tup a:w_list a:w_neg a:w_meth a:w_attr a:w_cmp a:w_slc a:w_sub a:p_some a:w_const a:t_cmp a:t_name a:t_call a:t_sub a:t_attr a:t_not a:fr_loc a:fr_glb a:s_retL a:s_asgT a:s_asg a:s_ret a:x_blk a:x_last a:x_next a:x_ret a:ss_cons a:g_name f:fr_fre f:fr_con e:fr_nil e:p_none e:x_nil e:ss_nil e:b_add e:b_sub e:c_eqi e:c_nei e:c_lti e:c_gti e:c_lei e:c_gei e:c_eqs e:c_lts e:c_gts l:x b:x 1:mrefD 1:sliceP 1:listOf 1:constD 2:subD 3:binD 3:cmpB 1:truD 1:itsD 3:cutD 2:bltD 2:attrD 3:mthD 1:objD 1:appP z:x"
      | _ => Lean.Macro.throwUnsupported
    let m (s : String) := Lean.mkIdent (.str `Mine s)
    let h ← `(term| _)
    let y ← `(term| by walk_at "nm")
    let L ← `(tactic| walk_at "LK")
    let mut t ← `(tactic| fail)
    for w in (l.splitOn " ").reverse do
      let q := w.splitOn ":"
      let c := q.head!
      let n := m q.tail.head!
      let v ← if c == "f" then `(term| by kernel_rfl) else if c == "h" then `(term| $(m "n_glb") $y) else pure y
      let a := Lean.mkIdent (if c == "f" then `hk else if c == "h" then `h1 else `k)
      let p ← `(tactic| with_reducible apply $n)
      let k ← `(tactic| with_reducible apply $n ($a:ident := $v))
      let u ← match c with
        | "e" => `(tactic| with_reducible exact $n)
        | "a" => pure p
        | "k" => pure k
        | "h" => pure k
        | "r" => `(tactic| ($p; exact rfl))
        | "m" => `(tactic| ($k; $L; done))
        | "n" => `(tactic| ((with_reducible apply $(m "w_name")); $k; $L; done))
        | "f" => `(tactic| ($k; focus ($L; done)))
        | "l" => `(tactic| ((fail_if_success with_reducible apply $(m "lk_probe")); walk_at "lk"))
        | "x" => `(tactic| with_reducible assumption)
        | "b" => `(tactic| ((with_reducible show (_ : Bool) = _); exact rfl))
        | "z" => `(tactic| ((with_reducible show List.mapM $(m "keyOf") _ = _); exact rfl))
        | c => let x := Lean.Syntax.mkApp n (Array.replicate c.toNat! h); `(tactic| ((with_reducible show $x = _); exact rfl))
      t ← `(tactic| first | $u:tactic | $t:tactic)
    return t
local macro_rules | `(tactic| walk_at "LK") => `(tactic| repeat' walk_at "lks")
-- END

section
open PySem PySem.W PyProof.Rows PySem.Calls PySem.Spec PySem.SeqAt
set_option Elab.async false
set_option backward.match.sparseCases false
set_option maxRecDepth 100000
set_option maxHeartbeats 200000
namespace Mine
noncomputable def mT : Expr := match bodyAt 149 with
  | [_, _, _, .While t _ _ _, _] => t
  | _ => default
noncomputable def mB : List Stmt := match bodyAt 149 with
  | [_, _, _, .While _ b _ _, _] => b
  | _ => default
noncomputable def mW : Stmt := match bodyAt 149 with
  | [_, _, _, w, _] => w
  | _ => default
noncomputable def mR : Stmt := match bodyAt 149 with
  | [_, _, _, _, r] => r
  | _ => default
structure MInv (σ : AEnv) (o l1 l2 f : List D) (i j : Nat) : Prop where
  a : σ.lookup (Str.ofString "orders") = some (.d (.lst o))
  b : σ.lookup (Str.ofString "one") = some (.d (.lst l1))
  c : σ.lookup (Str.ofString "other") = some (.d (.lst l2))
  d : σ.lookup (Str.ofString "found") = some (.lst f)
  e : σ.lookup (Str.ofString "first") = some (.d (.int (i : Int)))
  f : σ.lookup (Str.ofString "second") = some (.d (.int (j : Int)))

section
variable {H : Hd} {n : Nat} {o l1 l2 f : List D} {i j : Nat} {G : GS} {σ : AEnv} {c : Int} {a b ra na rb nb : D}
theorem m_test (I : MInv σ o l1 l2 f i j) (h1 : l1.length ≤ 1000000) (h2 : l2.length ≤ 1000000) :
   (rc (n + 20)).tr (cfgB H (namesAt 149) false) (σ, G) mT = some (decide (i < l1.length) && decide (j < l2.length), (σ, G)) := by
  obtain ⟨ha, hb, hc, hd, he, hf⟩ := I
  have b1 := len_lst h1
  have b2 := len_lst h2
  have lt : ∀ {a b : Nat}, decide ((a : Int) < (b : Int)) = decide (a < b) := fun {a b} => decide_eq_decide.mpr Int.ofNat_lt
  conv in mT => whnf
  by_cases z : i < l1.length
  · have c1 : cmpB .Lt (.int (i : Int)) (.int (l1.length : Int)) = some true := c_lti.trans (by rw [lt, decide_eq_true z])
    have c2 : cmpB .Lt (.int (j : Int)) (.int (l2.length : Int)) = some (decide (j < l2.length)) := c_lti.trans (by rw [lt])
    rw [decide_eq_true z]
    refine t_and (x1 := (σ, G)) ?_ (by rw [Bool.true_and]; (repeat' first | ((fail_if_success (with_reducible apply Mine.lk_probe)); with_reducible assumption) | ((with_reducible show Mine.Cfg.H _ _ _ _ = _); (show H _ _ _ = _); with_reducible assumption) | walk_at "com"))
    (repeat' first | ((fail_if_success (with_reducible apply Mine.lk_probe)); with_reducible assumption) | ((with_reducible show Mine.Cfg.H _ _ _ _ = _); (show H _ _ _ = _); with_reducible assumption) | walk_at "com")
  · have c1 : cmpB .Lt (.int (i : Int)) (.int (l1.length : Int)) = some false := c_lti.trans (by rw [lt, decide_eq_false z])
    rw [decide_eq_false z]
    refine t_andF ?_
    (repeat' first | ((fail_if_success (with_reducible apply Mine.lk_probe)); with_reducible assumption) | ((with_reducible show Mine.Cfg.H _ _ _ _ = _); (show H _ _ _ = _); with_reducible assumption) | walk_at "com")

theorem m_turn (I : MInv σ o l1 l2 f i j) (h1 : l1.length ≤ 1000000) (h2 : l2.length ≤ 1000000) (h3 : f.length ≤ 1000000) (e1 : l1[i]? = some (.tup [ra, na])) (e2 : l2[j]? = some (.tup [rb, nb]))
   (hH : H (.sta (.ref 1020)) [.lst o, ra, rb] G = some (.int c, G)) :
   ∃ σ', (rc (n + 20)).ex (cfgB H (namesAt 149) false) (σ, G) mB = some (.next, (σ', G)) ∧
     if c ≤ 0 then MInv σ' o l1 l2 (f ++ [.tup [ra, na]]) (i + 1) j else MInv σ' o l1 l2 (f ++ [.tup [rb, nb]]) i (j + 1) := by
  obtain ⟨ha, hb, hc, hd, he, hf⟩ := I
  have s1 := sub_lst e1 h1
  have s2 := sub_lst e2 h2
  conv in mB => whnf
  by_cases z : c ≤ 0
  · have c1 : cmpB .LtE (.int c) (.int 0) = some true := c_lei.trans (by rw [decide_eq_true z])
    apply Exists.intro
    apply And.intro
    · (repeat' first | ((fail_if_success (with_reducible apply Mine.lk_probe)); with_reducible assumption) | ((with_reducible show Mine.Cfg.H _ _ _ _ = _); (show H _ _ _ = _); with_reducible assumption) | with_reducible apply s_ifT | with_reducible apply s_app l149_found | walk_at "com")
    · rw [if_pos z]; constructor <;> (walk_at "LK")
  · have c1 : cmpB .LtE (.int c) (.int 0) = some false := c_lei.trans (by rw [decide_eq_false z])
    apply Exists.intro
    apply And.intro
    · (repeat' first | ((fail_if_success (with_reducible apply Mine.lk_probe)); with_reducible assumption) | ((with_reducible show Mine.Cfg.H _ _ _ _ = _); (show H _ _ _ = _); with_reducible assumption) | with_reducible apply s_ifF | with_reducible apply s_app l149_found | walk_at "com")
    · rw [if_neg z]; constructor <;> (walk_at "LK")

/-- two runs become one -/
noncomputable def mrg {α : Type} (le : α → α → Bool) : List α → List α → List α
  | [], bs => bs
  | as, [] => as
  | a :: as, b :: bs => if le a b then a :: mrg le as (b :: bs) else b :: mrg le (a :: as) bs
termination_by as bs => as.length + bs.length

/-- pairs of a row and an item, compared by c -/
noncomputable def Pr (d : D) : Prop := ∃ r n, d = .tup [r, n]
noncomputable def rowOf : D → D
  | .tup [r, _] => r
  | d => d

theorem m_loop (c : D → D → Int) (h1 : l1.length ≤ 1000) (h2 : l2.length ≤ 1000) (p1 : ∀ d ∈ l1, Pr d) (p2 : ∀ d ∈ l2, Pr d)
    (hH : ∀ a ∈ l1, ∀ b ∈ l2, H (.sta (.ref 1020)) [.lst o, rowOf a, rowOf b] G = some (.int (c a b), G)) :
    ∀ (k : Nat) (n i j : Nat) (f : List D) (σ : AEnv), (l1.length - i) + (l2.length - j) = k → f.length + k ≤ 10000 → i ≤ l1.length → j ≤ l2.length → MInv σ o l1 l2 f i j →
      ∃ σ' i' j' f', (rc (n + k + 21)).wh (cfgB H (namesAt 149) false) (σ, G) mT mB = some (.next, (σ', G)) ∧ MInv σ' o l1 l2 f' i' j' ∧ (f'.length ≤ 10000 ∧ i' ≤ l1.length ∧ j' ≤ l2.length) ∧
        f' ++ l1.drop i' ++ l2.drop j' = f ++ mrg (fun a b => decide (c a b ≤ 0)) (l1.drop i) (l2.drop j) := by
  intro k
  induction k with
  | zero =>
    intro n i j f σ hk hf hi hj I
    have e := m_test (H := H) (G := G) (n := n) I (by omega) (by omega)
    have z : ¬ i < l1.length := by omega
    refine ⟨σ, i, j, f, ?_, I, ⟨by omega, hi, hj⟩, ?_⟩
    · exact wh_stop (e.trans (by rw [decide_eq_false z, Bool.false_and]))
    · have d1 : l1.drop i = [] := by simp; omega
      have d2 : l2.drop j = [] := by simp; omega
      rw [d1, d2, mrg]
      simp
  | succ k ih =>
    intro n i j f σ hk hf hi hj I
    have e := m_test (H := H) (G := G) (n := n + (k + 1)) I (by omega) (by omega)
    by_cases z1 : i < l1.length
    · by_cases z2 : j < l2.length
      · have g1 : l1[i]? = some l1[i] := List.getElem?_eq_getElem z1
        have g2 : l2[j]? = some l2[j] := List.getElem?_eq_getElem z2
        obtain ⟨ra, na, q1⟩ := p1 _ (List.getElem_mem z1)
        obtain ⟨rb, nb, q2⟩ := p2 _ (List.getElem_mem z2)
        have hh := hH _ (List.getElem_mem z1) _ (List.getElem_mem z2)
        have hh' := hh
        rw [q1, q2] at hh'
        have hh' : H (.sta (.ref 1020)) [.lst o, ra, rb] G = some (.int (c (.tup [ra, na]) (.tup [rb, nb])), G) := hh'
        obtain ⟨σ1, e1, I1⟩ := m_turn (H := H) (G := G) (n := n + (k + 1)) I (by omega) (by omega) (by omega) (q1 ▸ g1) (q2 ▸ g2) hh'
        have hd1 : l1.drop i = l1[i] :: l1.drop (i + 1) := List.drop_eq_getElem_cons z1
        have hd2 : l2.drop j = l2[j] :: l2.drop (j + 1) := List.drop_eq_getElem_cons z2
        have step : (rc (n + (k + 1) + 21)).wh (cfgB H (namesAt 149) false) (σ, G) mT mB = (rc (n + k + 21)).wh (cfgB H (namesAt 149) false) (σ1, G) mT mB := by
          exact wh_next (m := n + (k + 1) + 20) (e.trans (by rw [decide_eq_true z1, decide_eq_true z2]; rfl)) e1
        split at I1
        · rename_i hc
          obtain ⟨σ', i', j', f', r1, r2, r3, r4⟩ := ih n (i + 1) j (f ++ [.tup [ra, na]]) σ1 (by omega) (by simp; omega) (by omega) hj I1
          refine ⟨σ', i', j', f', step.trans r1, r2, r3, ?_⟩
          rw [r4, hd1, hd2, mrg]
          have : decide (c l1[i] l2[j] ≤ 0) = true := by rw [q1, q2]; simpa using hc
          simp only [this, if_true]
          simp [q1]
        · rename_i hc
          obtain ⟨σ', i', j', f', r1, r2, r3, r4⟩ := ih n i (j + 1) (f ++ [.tup [rb, nb]]) σ1 (by omega) (by simp; omega) hi (by omega) I1
          refine ⟨σ', i', j', f', step.trans r1, r2, r3, ?_⟩
          rw [r4, hd1, hd2, mrg]
          have : decide (c l1[i] l2[j] ≤ 0) = false := by rw [q1, q2]; simpa using hc
          simp only [this]
          simp [q2]
      · refine ⟨σ, i, j, f, ?_, I, ⟨by omega, hi, hj⟩, ?_⟩
        · exact wh_stop (m := n + (k + 1) + 20) (e.trans (by rw [decide_eq_false z2, Bool.and_false]))
        · have d2 : l2.drop j = [] := by simp; omega
          rw [d2]
          cases hq : l1.drop i with
          | nil => simp [mrg]
          | cons a as => simp [mrg]
    · refine ⟨σ, i, j, f, ?_, I, ⟨by omega, hi, hj⟩, ?_⟩
      · exact wh_stop (m := n + (k + 1) + 20) (e.trans (by rw [decide_eq_false z1, Bool.false_and]))
      · have d1 : l1.drop i = [] := by simp; omega
        rw [d1]
        simp [mrg]

theorem exs_next {f : X → Stmt → Option (Fl × X)} {x x1 : X} {s : Stmt} {r : List Stmt} (h : f x s = some (.next, x1)) : exs f x (s :: r) = exs f x1 r := bs h rfl
theorem exs_ret {f : X → Stmt → Option (Fl × X)} {x x1 : X} {s : Stmt} {r : List Stmt} {d : D} (h : f x s = some (.ret d, x1)) : exs f x (s :: r) = some (.ret d, x1) := bs h rfl
theorem add_lst {x y : List D} (h : x.length + y.length ≤ 1000000) : binD .Add (.lst x) (.lst y) = some (.lst (x ++ y)) := cs (decide_eq_true h) rfl
theorem mW_eq (m : Nat) (cfg : Cfg) (x : X) : stepS (rc m) cfg x mW = (rc m).wh cfg x mT mB := by kernel_rfl
theorem merged_ok (c : D → D → Int) (hl : l1.length + l2.length ≤ 40) (p1 : ∀ d ∈ l1, Pr d) (p2 : ∀ d ∈ l2, Pr d)
    (hH : ∀ a ∈ l1, ∀ b ∈ l2, H (.sta (.ref 1020)) [.lst o, rowOf a, rowOf b] G = some (.int (c a b), G)) :
    runB H 149 false [.lst o, .lst l1, .lst l2] G = some (.lst (mrg (fun a b => decide (c a b ≤ 0)) l1 l2), G) := by
  obtain ⟨σ', i, j, f, r1, I, r3, r4⟩ := m_loop (H := H) (G := G) c (by omega) (by omega) p1 p2 hH (l1.length + l2.length) (78 - (l1.length + l2.length)) 0 0 [] 
    [(Str.ofString "orders", .d (.lst o)), (Str.ofString "one", .d (.lst l1)), (Str.ofString "other", .d (.lst l2)), (Str.ofString "found", .lst []), (Str.ofString "first", .d (.int 0)), (Str.ofString "second", .d (.int 0))] (by simp) (by simp; omega) (Nat.zero_le _) (Nat.zero_le _) ⟨by kernel_rfl, by kernel_rfl, by kernel_rfl, by kernel_rfl, by kernel_rfl, by kernel_rfl⟩
  have e99 : 78 - (l1.length + l2.length) + (l1.length + l2.length) + 21 = 99 := by omega
  rw [e99] at r1
  obtain ⟨ha, hb, hc, hd, he, hf⟩ := I
  obtain ⟨r3, hi, hj⟩ := r3
  rw [run_eq (σ := [(Str.ofString "orders", .d (.lst o)), (Str.ofString "one", .d (.lst l1)), (Str.ofString "other", .d (.lst l2))]) (by kernel_rfl)]
  have z1 := small_nat (k := i) (by omega)
  have z2 := small_nat (k := j) (by omega)
  have z3 := cut_drop hi (by omega)
  have z4 := cut_drop hj (by omega)
  have z5 : binD .Add (.lst f) (.lst (l1.drop i)) = some (.lst (f ++ l1.drop i)) := add_lst (by simp; omega)
  have z6 : binD .Add (.lst (f ++ l1.drop i)) (.lst (l2.drop j)) = some (.lst (f ++ l1.drop i ++ l2.drop j)) := add_lst (by simp; omega)
  have e4 : stepS (rc 99) (cfgB H (namesAt 149) false) (σ', G) mR = some (.ret (.lst (f ++ l1.drop i ++ l2.drop j)), (put σ' (Str.ofString "found") (.d (.lst f)), G)) := by
    conv in mR => whnf
    (repeat' first | ((fail_if_success (with_reducible apply Mine.lk_probe)); with_reducible assumption) | ((with_reducible show Mine.Cfg.H _ _ _ _ = _); (show H _ _ _ = _); with_reducible assumption) | walk_at "com")
  have e5 := out_ret (σ := put σ' (Str.ofString "found") (.d (.lst f))) (G := G) rfl ((exs_next (r := [mR]) ((mW_eq 99 _ _).trans r1)).trans (exs_ret e4))
  rw [r4] at e5
  exact e5
end
end Mine
end

section
open PySem PySem.W PyProof.Rows PySem.Calls PySem.Spec PySem.SeqAt
set_option Elab.async false
set_option backward.match.sparseCases false
set_option maxRecDepth 100000
set_option maxHeartbeats 200000
namespace Mine
theorem sub_l0 (a : D) (l : List D) (h : l.length ≤ 1000) : subD (.lst (a :: l)) (.int 0) = some a := sub_lst (k := 0) rfl (by simp; omega)
theorem sub_l1 (a b : D) (l : List D) (h : l.length ≤ 1000) : subD (.lst (a :: b :: l)) (.int 1) = some b := sub_lst (k := 1) rfl (by simp; omega)
theorem eq_int (i j : Int) : eqD (.int i) (.int j) = some (i == j) := rfl
noncomputable def first0 : List Int → Int
  | [] => 0
  | s :: r => if s = 0 then first0 r else s
section
variable {H : Hd} {G : GS} {o1 o2 a1 a2 b1 b2 : D} {s1 s2 : Int}
theorem its_r1 : itsD (.rng 0 1 1) = some [.int 0] := by rfl
theorem its_r2 : itsD (.rng 0 2 1) = some [.int 0, .int 1] := by rfl
theorem ne0 {i : Int} (z : i ≠ 0) : cmpB .NotEq (.int i) (.int 0) = some true := c_nei.trans (by rw [beq_false_of_ne z]; rfl)
theorem cmprows1 (h1 : H (.sta (.ref 1013)) [o1, a1, b1] G = some (.int s1, G)) : runB H 148 false [.lst [o1], .lst [a1], .lst [b1]] G = some (.int (first0 [s1]), G) := by
  rw [run_eq (σ := [(Str.ofString "orders", .d (.lst [o1])), (Str.ofString "one", .d (.lst [a1])), (Str.ofString "other", .d (.lst [b1]))]) (by kernel_rfl)]
  conv in bodyAt 148 => whnf
  have b1 : bltD (.builtin "len") [.lst [o1]] = some (.int 1) := rfl
  have b2 : bltD (.type "range") [.int 1] = some (.rng 0 1 1) := rfl
  have b3 := its_r1
  by_cases z : s1 = 0
  · subst z
    show _ = some (D.int 0, G)
    apply out_run
    (repeat' first | ((fail_if_success (with_reducible apply Mine.lk_probe)); with_reducible assumption) | ((with_reducible show Mine.Cfg.H _ _ _ _ = _); (show H _ _ _ = _); with_reducible assumption) | with_reducible apply s_for | with_reducible apply f_cons | with_reducible exact f_nil | with_reducible apply s_ifF | walk_at "com")
  · have c1 := ne0 z
    have e : first0 [s1] = s1 := if_neg z
    rw [e]
    apply out_run
    apply x_blk
    apply x_ret
    (repeat' first | ((fail_if_success (with_reducible apply Mine.lk_probe)); with_reducible assumption) | ((with_reducible show Mine.Cfg.H _ _ _ _ = _); (show H _ _ _ = _); with_reducible assumption) | with_reducible apply s_for | with_reducible apply f_ret | with_reducible apply s_ifT | walk_at "com")
theorem cmprows2 (h1 : H (.sta (.ref 1013)) [o1, a1, b1] G = some (.int s1, G)) (h2 : H (.sta (.ref 1013)) [o2, a2, b2] G = some (.int s2, G)) : runB H 148 false [.lst [o1, o2], .lst [a1, a2], .lst [b1, b2]] G = some (.int (first0 [s1, s2]), G) := by
  rw [run_eq (σ := [(Str.ofString "orders", .d (.lst [o1, o2])), (Str.ofString "one", .d (.lst [a1, a2])), (Str.ofString "other", .d (.lst [b1, b2]))]) (by kernel_rfl)]
  conv in bodyAt 148 => whnf
  have b1 : bltD (.builtin "len") [.lst [o1, o2]] = some (.int 2) := rfl
  have b2 : bltD (.type "range") [.int 2] = some (.rng 0 2 1) := rfl
  have b3 := its_r2
  by_cases z : s1 = 0
  · subst z
    by_cases y : s2 = 0
    · subst y
      show _ = some (D.int 0, G)
      apply out_run
      (repeat' first | ((fail_if_success (with_reducible apply Mine.lk_probe)); with_reducible assumption) | ((with_reducible show Mine.Cfg.H _ _ _ _ = _); (show H _ _ _ = _); with_reducible assumption) | with_reducible apply s_for | with_reducible apply f_cons | with_reducible exact f_nil | with_reducible apply s_ifF | walk_at "com")
    · have c1 := ne0 y
      have e : first0 [0, s2] = s2 := if_neg y
      rw [e]
      apply out_run
      apply x_blk
      apply x_ret
      apply s_for (hn := rfl)
      · (repeat' first | ((fail_if_success (with_reducible apply Mine.lk_probe)); with_reducible assumption) | ((with_reducible show Mine.Cfg.H _ _ _ _ = _); (show H _ _ _ = _); with_reducible assumption) | walk_at "com")
      · (repeat' first | ((fail_if_success (with_reducible apply Mine.lk_probe)); with_reducible assumption) | ((with_reducible show Mine.Cfg.H _ _ _ _ = _); (show H _ _ _ = _); with_reducible assumption) | walk_at "com")
      · apply f_cons
        · (repeat' first | ((fail_if_success (with_reducible apply Mine.lk_probe)); with_reducible assumption) | ((with_reducible show Mine.Cfg.H _ _ _ _ = _); (show H _ _ _ = _); with_reducible assumption) | walk_at "com")
        · (repeat' first | ((fail_if_success (with_reducible apply Mine.lk_probe)); with_reducible assumption) | ((with_reducible show Mine.Cfg.H _ _ _ _ = _); (show H _ _ _ = _); with_reducible assumption) | with_reducible apply s_ifF | walk_at "com")
        · apply f_ret
          · (repeat' first | ((fail_if_success (with_reducible apply Mine.lk_probe)); with_reducible assumption) | ((with_reducible show Mine.Cfg.H _ _ _ _ = _); (show H _ _ _ = _); with_reducible assumption) | walk_at "com")
          · (repeat' first | ((fail_if_success (with_reducible apply Mine.lk_probe)); with_reducible assumption) | ((with_reducible show Mine.Cfg.H _ _ _ _ = _); (show H _ _ _ = _); with_reducible assumption) | with_reducible apply s_ifT | walk_at "com")
  · have c1 := ne0 z
    have e : first0 [s1, s2] = s1 := if_neg z
    rw [e]
    apply out_run
    apply x_blk
    apply x_ret
    (repeat' first | ((fail_if_success (with_reducible apply Mine.lk_probe)); with_reducible assumption) | ((with_reducible show Mine.Cfg.H _ _ _ _ = _); (show H _ _ _ = _); with_reducible assumption) | with_reducible apply s_for | with_reducible apply f_ret | with_reducible apply s_ifT | walk_at "com")
end
end Mine
end

section
open PySem PySem.W PyProof.Rows PySem.Calls PySem.Spec PySem.SeqAt
set_option Elab.async false
set_option backward.match.sparseCases false
set_option maxRecDepth 100000
set_option maxHeartbeats 400000
namespace Mine
noncomputable def srT : Expr := match bodyAt 150 with
  | [_, .While t _ _ _, _] => t
  | _ => default
noncomputable def srB : List Stmt := match bodyAt 150 with
  | [_, .While _ b _ _, _] => b
  | _ => default
structure SInv (σ : AEnv) (o : D) (rs : List D) : Prop where
  a : σ.lookup (Str.ofString "orders") = some (.d o)
  b : σ.lookup (Str.ofString "runs") = some (.d (.lst rs))
section
variable {H : Hd} {n : Nat} {G : GS} {σ : AEnv} {o : D} {r1 r2 r3 r4 r5 r6 r7 m1 m2 m3 : D}
theorem le_small {l : List D} (h : l.length ≤ 100) : l.length ≤ 1000000 := Nat.le_trans h (by decide)
theorem sr_test {rs : List D} (I : SInv σ o rs) (h : rs.length ≤ 1000) : (rc (n + 20)).tr (cfgB H (namesAt 150) false) (σ, G) srT = some (decide (1 < rs.length), (σ, G)) := by
  obtain ⟨ha, hb⟩ := I
  have b1 : bltD (.builtin "len") [.lst rs] = some (.int (rs.length : Int)) := len_lst (Nat.le_trans h (by decide))
  have c1 : cmpB .Gt (.int (rs.length : Int)) (.int 1) = some (decide (1 < rs.length)) := c_gti.trans (congrArg some (decide_eq_decide.mpr (by omega)))
  conv in srT => whnf
  (repeat' first | ((fail_if_success (with_reducible apply Mine.lk_probe)); with_reducible assumption) | ((with_reducible show Mine.Cfg.H _ _ _ _ = _); (show H _ _ _ = _); with_reducible assumption) | walk_at "com")
theorem sr_turn2 (I : SInv σ o [r1, r2]) (h1 : H (.sta (.ref 1027)) [o, r1, r2] G = some (m1, G)) : ∃ σ', (rc (n + 20)).ex (cfgB H (namesAt 150) false) (σ, G) srB = some (.next, (σ', G)) ∧ SInv σ' o [m1] := by
  obtain ⟨ha, hb⟩ := I
  have b1 : bltD (.builtin "len") [.lst [r1, r2]] = some (.int 2) := rfl
  have b2 : binD .Sub (.int 2) (.int 1) = some (.int 1) := rfl
  have b3 : bltD (.type "range") [.int 0, .int 1, .int 2] = some (.rng 0 1 2) := rfl
  have b4 : itsD (.rng 0 1 2) = some [.int 0] := rfl
  have b5 : binD .Mod (.int 2) (.int 2) = some (.int 0) := rfl
  have a0 : binD .Add (.int 0) (.int 1) = some (.int 1) := rfl
  conv in srB => whnf
  apply Exists.intro
  apply And.intro
  · (repeat' first | ((fail_if_success (with_reducible apply Mine.lk_probe)); with_reducible assumption) | ((with_reducible show Mine.Cfg.H _ _ _ _ = _); (show H _ _ _ = _); with_reducible assumption) | with_reducible apply s_for | with_reducible apply f_cons | with_reducible exact f_nil | with_reducible apply s_ifF | with_reducible apply s_app (k := l150_later) | exact le_small (Nat.le_of_ble_eq_true rfl) | walk_at "com")
  · constructor <;> (walk_at "LK")
theorem sr_turn3 (I : SInv σ o [r1, r2, r3]) (h1 : H (.sta (.ref 1027)) [o, r1, r2] G = some (m1, G)) : ∃ σ', (rc (n + 20)).ex (cfgB H (namesAt 150) false) (σ, G) srB = some (.next, (σ', G)) ∧ SInv σ' o [m1, r3] := by
  obtain ⟨ha, hb⟩ := I
  have b1 : bltD (.builtin "len") [.lst [r1, r2, r3]] = some (.int 3) := rfl
  have b2 : binD .Sub (.int 3) (.int 1) = some (.int 2) := rfl
  have b3 : bltD (.type "range") [.int 0, .int 2, .int 2] = some (.rng 0 2 2) := rfl
  have b4 : itsD (.rng 0 2 2) = some [.int 0] := rfl
  have b5 : binD .Mod (.int 3) (.int 2) = some (.int 1) := rfl
  have a0 : binD .Add (.int 0) (.int 1) = some (.int 1) := rfl
  conv in srB => whnf
  apply Exists.intro
  apply And.intro
  · (repeat' first | ((fail_if_success (with_reducible apply Mine.lk_probe)); with_reducible assumption) | ((with_reducible show Mine.Cfg.H _ _ _ _ = _); (show H _ _ _ = _); with_reducible assumption) | with_reducible apply s_for | with_reducible apply f_cons | with_reducible exact f_nil | with_reducible apply s_ifT | with_reducible apply s_app (k := l150_later) | exact le_small (Nat.le_of_ble_eq_true rfl) | walk_at "com")
  · constructor <;> (walk_at "LK")
theorem sr_turn4 (I : SInv σ o [r1, r2, r3, r4]) (h1 : H (.sta (.ref 1027)) [o, r1, r2] G = some (m1, G)) (h2 : H (.sta (.ref 1027)) [o, r3, r4] G = some (m2, G)) : ∃ σ', (rc (n + 20)).ex (cfgB H (namesAt 150) false) (σ, G) srB = some (.next, (σ', G)) ∧ SInv σ' o [m1, m2] := by
  obtain ⟨ha, hb⟩ := I
  have b1 : bltD (.builtin "len") [.lst [r1, r2, r3, r4]] = some (.int 4) := rfl
  have b2 : binD .Sub (.int 4) (.int 1) = some (.int 3) := rfl
  have b3 : bltD (.type "range") [.int 0, .int 3, .int 2] = some (.rng 0 3 2) := rfl
  have b4 : itsD (.rng 0 3 2) = some [.int 0, .int 2] := rfl
  have b5 : binD .Mod (.int 4) (.int 2) = some (.int 0) := rfl
  have a0 : binD .Add (.int 0) (.int 1) = some (.int 1) := rfl
  have a1 : binD .Add (.int 2) (.int 1) = some (.int 3) := rfl
  conv in srB => whnf
  apply Exists.intro
  apply And.intro
  · (repeat' first | ((fail_if_success (with_reducible apply Mine.lk_probe)); with_reducible assumption) | ((with_reducible show Mine.Cfg.H _ _ _ _ = _); (show H _ _ _ = _); with_reducible assumption) | with_reducible apply s_for | with_reducible apply f_cons | with_reducible exact f_nil | with_reducible apply s_ifF | with_reducible apply s_app (k := l150_later) | exact le_small (Nat.le_of_ble_eq_true rfl) | walk_at "com")
  · constructor <;> (walk_at "LK")
theorem sr_turn5 (I : SInv σ o [r1, r2, r3, r4, r5]) (h1 : H (.sta (.ref 1027)) [o, r1, r2] G = some (m1, G)) (h2 : H (.sta (.ref 1027)) [o, r3, r4] G = some (m2, G)) : ∃ σ', (rc (n + 20)).ex (cfgB H (namesAt 150) false) (σ, G) srB = some (.next, (σ', G)) ∧ SInv σ' o [m1, m2, r5] := by
  obtain ⟨ha, hb⟩ := I
  have b1 : bltD (.builtin "len") [.lst [r1, r2, r3, r4, r5]] = some (.int 5) := rfl
  have b2 : binD .Sub (.int 5) (.int 1) = some (.int 4) := rfl
  have b3 : bltD (.type "range") [.int 0, .int 4, .int 2] = some (.rng 0 4 2) := rfl
  have b4 : itsD (.rng 0 4 2) = some [.int 0, .int 2] := rfl
  have b5 : binD .Mod (.int 5) (.int 2) = some (.int 1) := rfl
  have a0 : binD .Add (.int 0) (.int 1) = some (.int 1) := rfl
  have a1 : binD .Add (.int 2) (.int 1) = some (.int 3) := rfl
  conv in srB => whnf
  apply Exists.intro
  apply And.intro
  · (repeat' first | ((fail_if_success (with_reducible apply Mine.lk_probe)); with_reducible assumption) | ((with_reducible show Mine.Cfg.H _ _ _ _ = _); (show H _ _ _ = _); with_reducible assumption) | with_reducible apply s_for | with_reducible apply f_cons | with_reducible exact f_nil | with_reducible apply s_ifT | with_reducible apply s_app (k := l150_later) | exact le_small (Nat.le_of_ble_eq_true rfl) | walk_at "com")
  · constructor <;> (walk_at "LK")
theorem sr_turn6 (I : SInv σ o [r1, r2, r3, r4, r5, r6]) (h1 : H (.sta (.ref 1027)) [o, r1, r2] G = some (m1, G)) (h2 : H (.sta (.ref 1027)) [o, r3, r4] G = some (m2, G)) (h3 : H (.sta (.ref 1027)) [o, r5, r6] G = some (m3, G)) : ∃ σ', (rc (n + 20)).ex (cfgB H (namesAt 150) false) (σ, G) srB = some (.next, (σ', G)) ∧ SInv σ' o [m1, m2, m3] := by
  obtain ⟨ha, hb⟩ := I
  have b1 : bltD (.builtin "len") [.lst [r1, r2, r3, r4, r5, r6]] = some (.int 6) := rfl
  have b2 : binD .Sub (.int 6) (.int 1) = some (.int 5) := rfl
  have b3 : bltD (.type "range") [.int 0, .int 5, .int 2] = some (.rng 0 5 2) := rfl
  have b4 : itsD (.rng 0 5 2) = some [.int 0, .int 2, .int 4] := rfl
  have b5 : binD .Mod (.int 6) (.int 2) = some (.int 0) := rfl
  have a0 : binD .Add (.int 0) (.int 1) = some (.int 1) := rfl
  have a1 : binD .Add (.int 2) (.int 1) = some (.int 3) := rfl
  have a2 : binD .Add (.int 4) (.int 1) = some (.int 5) := rfl
  conv in srB => whnf
  apply Exists.intro
  apply And.intro
  · (repeat' first | ((fail_if_success (with_reducible apply Mine.lk_probe)); with_reducible assumption) | ((with_reducible show Mine.Cfg.H _ _ _ _ = _); (show H _ _ _ = _); with_reducible assumption) | with_reducible apply s_for | with_reducible apply f_cons | with_reducible exact f_nil | with_reducible apply s_ifF | with_reducible apply s_app (k := l150_later) | exact le_small (Nat.le_of_ble_eq_true rfl) | walk_at "com")
  · constructor <;> (walk_at "LK")
theorem sr_turn7 (I : SInv σ o [r1, r2, r3, r4, r5, r6, r7]) (h1 : H (.sta (.ref 1027)) [o, r1, r2] G = some (m1, G)) (h2 : H (.sta (.ref 1027)) [o, r3, r4] G = some (m2, G)) (h3 : H (.sta (.ref 1027)) [o, r5, r6] G = some (m3, G)) : ∃ σ', (rc (n + 20)).ex (cfgB H (namesAt 150) false) (σ, G) srB = some (.next, (σ', G)) ∧ SInv σ' o [m1, m2, m3, r7] := by
  obtain ⟨ha, hb⟩ := I
  have b1 : bltD (.builtin "len") [.lst [r1, r2, r3, r4, r5, r6, r7]] = some (.int 7) := rfl
  have b2 : binD .Sub (.int 7) (.int 1) = some (.int 6) := rfl
  have b3 : bltD (.type "range") [.int 0, .int 6, .int 2] = some (.rng 0 6 2) := rfl
  have b4 : itsD (.rng 0 6 2) = some [.int 0, .int 2, .int 4] := rfl
  have b5 : binD .Mod (.int 7) (.int 2) = some (.int 1) := rfl
  have a0 : binD .Add (.int 0) (.int 1) = some (.int 1) := rfl
  have a1 : binD .Add (.int 2) (.int 1) = some (.int 3) := rfl
  have a2 : binD .Add (.int 4) (.int 1) = some (.int 5) := rfl
  conv in srB => whnf
  apply Exists.intro
  apply And.intro
  · (repeat' first | ((fail_if_success (with_reducible apply Mine.lk_probe)); with_reducible assumption) | ((with_reducible show Mine.Cfg.H _ _ _ _ = _); (show H _ _ _ = _); with_reducible assumption) | with_reducible apply s_for | with_reducible apply f_cons | with_reducible exact f_nil | with_reducible apply s_ifT | with_reducible apply s_app (k := l150_later) | exact le_small (Nat.le_of_ble_eq_true rfl) | walk_at "com")
  · constructor <;> (walk_at "LK")
end
end Mine
end

section
open PySem PySem.W PyProof.Rows PySem.Calls PySem.Spec PySem.SeqAt
set_option Elab.async false
set_option backward.match.sparseCases false
set_option maxRecDepth 100000
set_option maxHeartbeats 400000
namespace Mine
/-- trees that the library reads -/
noncomputable def Pl (n : Nat) (d : D) : Prop := ∃ p, D.py n d = some p ∧ p.canLay0 = true ∧ p.depth ≤ n
theorem Pl.int (n : Nat) (i : Int) : Pl (n + 1) (.int i) := ⟨.int i, rfl, rfl, Nat.zero_le _⟩
theorem Pl.all {n : Nat} : ∀ {l : List D}, (∀ d ∈ l, Pl n d) → ∃ xs, l.mapM (D.py n) = some xs ∧ PyData.canLayAll0 xs = true ∧ PyData.depthAll xs ≤ n ∧ xs.length = l.length
  | [], _ => ⟨[], rfl, rfl, Nat.zero_le _, rfl⟩
  | d :: l, h => by
    obtain ⟨p, h1, h2, h3⟩ := h d (.head _)
    obtain ⟨xs, g1, g2, g3, g4⟩ := Pl.all (l := l) fun x hx => h x (.tail _ hx)
    refine ⟨p :: xs, ?_, ?_, ?_, by simp [g4]⟩
    · rw [List.mapM_cons, h1, g1]; rfl
    · simp [PyData.canLayAll0, h2, g2]
    · simp only [PyData.depthAll]; omega
theorem Pl.lst {n : Nat} {l : List D} (h : ∀ d ∈ l, Pl n d) : Pl (n + 1) (.lst l) := by
  obtain ⟨xs, g1, g2, g3, _⟩ := Pl.all h
  refine ⟨.list xs, ?_, by simpa [PyData.canLay0] using g2, by simp only [PyData.depth]; omega⟩
  show (l.mapM (D.py n)).map PyData.list = _
  rw [g1]; rfl
theorem Pl.tup {n : Nat} {l : List D} (h : ∀ d ∈ l, Pl n d) : Pl (n + 1) (.tup l) := by
  obtain ⟨xs, g1, g2, g3, _⟩ := Pl.all h
  refine ⟨.tuple xs, ?_, by simpa [PyData.canLay0] using g2, by simp only [PyData.depth]; omega⟩
  show (l.mapM (D.py n)).map PyData.tuple = _
  rw [g1]; rfl
theorem Pl.pyD {d : D} (h : Pl 64 d) : ∃ p, pyD d = some p ∧ p.canLay0 = true := by
  obtain ⟨p, h1, h2, h3⟩ := h
  refine ⟨p, ?_, h2⟩
  unfold Mine.pyD
  rw [h1]
  exact cs (by unfold shaped; rw [h2, decide_eq_true h3]; rfl) rfl
theorem eq_self {l : List D} (h : Pl 64 (.lst l)) : eqD (.lst l) (.lst l) = some true := by
  obtain ⟨p, h1, h2⟩ := h.pyD
  show (pyD (.lst l)).bind (fun x => (pyD (.lst l)).map fun y => PyData.eqv x y) = some true
  rw [h1]
  show some (PyData.eqv p p) = _
  rw [eqv_refl p h2]
theorem eq_nil {a : D} {l : List D} (h : ∀ d ∈ a :: l, Pl 63 d) : eqD (.lst (a :: l)) (.lst []) = some false := by
  obtain ⟨xs, g1, g2, g3, g4⟩ := Pl.all h
  obtain ⟨p, h1, h2⟩ := (Pl.lst h).pyD
  show (pyD (.lst (a :: l))).bind (fun x => (pyD (.lst [])).map fun y => PyData.eqv x y) = some false
  have e : (D.py 64 (.lst (a :: l))) = some (.list xs) := by
    show ((a :: l).mapM (D.py 63)).map PyData.list = _
    rw [g1]; rfl
  have e2 := (pyD_spec h1).1
  rw [e] at e2
  cases e2
  rw [h1]
  cases xs with
  | nil => simp at g4
  | cons x xs => rfl

/-- the turns of a comprehension -/
theorem compX_gen {f : X → Expr → Option (D × X)} {cfg : Cfg} {t elt : Expr} {G : GS} {g : D → D} (Inv : AEnv → Prop) : ∀ {ds : List D} {σ : AEnv}, Inv σ →
    (∀ σ d, Inv σ → d ∈ ds → ∃ x1 σ', targX cfg (σ, G) t d = some x1 ∧ f x1 elt = some (g d, (σ', G)) ∧ Inv σ') → ∃ σ', compX f cfg t elt (σ, G) ds = some (ds.map g, (σ', G)) := by
  intro ds
  induction ds with
  | nil => exact fun {σ} _ _ => ⟨σ, rfl⟩
  | cons d ds ih =>
    intro σ h0 step
    obtain ⟨x1, σ', h1, h2, h3⟩ := step σ d h0 (.head _)
    obtain ⟨σ'', e⟩ := ih h3 fun σ d hi hd => step σ d hi (.tail _ hd)
    exact ⟨σ'', bs h1 (bs h2 (ms e))⟩

noncomputable def sr0 : Stmt := match bodyAt 150 with
  | [s, _, _] => s
  | _ => default
noncomputable def srW : Stmt := match bodyAt 150 with
  | [_, s, _] => s
  | _ => default
noncomputable def srR : Stmt := match bodyAt 150 with
  | [_, _, s] => s
  | _ => default
noncomputable def itemOf : D → D
  | .tup [_, n] => n
  | d => d
section
variable {H : Hd} {n : Nat} {G : GS} {σ : AEnv} {o : D} {ps l : List D}
theorem sr_first (h : ps.length ≤ 1000) (ha : σ.lookup (Str.ofString "orders") = some (.d o)) (hb : σ.lookup (Str.ofString "pairs") = some (.d (.lst ps))) :
    ∃ σ', stepS (rc (n + 20)) (cfgB H (namesAt 150) false) (σ, G) sr0 = some (.next, (σ', G)) ∧ SInv σ' o (ps.map fun p => .lst [p]) := by
  have h1 : ps.length ≤ 1000000 := by omega
  have h2 : ¬ 1000000 < ps.length := by omega
  conv in sr0 => whnf
  have fin : SInv (put σ (Str.ofString "runs") (.d (.lst (ps.map fun p => D.lst [p])))) o (ps.map fun p => .lst [p]) := by constructor <;> (walk_at "LK")
  refine ⟨_, ?_, fin⟩
  apply s_asg
  · rfl
  · rfl
  · apply w_comp
    · rfl
    · (repeat' first | ((fail_if_success (with_reducible apply Mine.lk_probe)); with_reducible assumption) | ((with_reducible show Mine.Cfg.H _ _ _ _ = _); (show H _ _ _ = _); with_reducible assumption) | walk_at "com")
    · (repeat' first | ((fail_if_success (with_reducible apply Mine.lk_probe)); with_reducible assumption) | ((with_reducible show Mine.Cfg.H _ _ _ _ = _); (show H _ _ _ = _); with_reducible assumption) | walk_at "com")
    · exact its_lst h1
    · (repeat' first | ((fail_if_success (with_reducible apply Mine.lk_probe)); with_reducible assumption) | ((with_reducible show Mine.Cfg.H _ _ _ _ = _); (show H _ _ _ = _); with_reducible assumption) | walk_at "com")
    · exact h1
    · refine compX_gen (g := fun p => .lst [p]) (fun _ => True) trivial fun σ d _ _ => ⟨_, put σ (Str.ofString "pair") (.d d), g_name (st_loc ⟨by kernel_rfl, by kernel_rfl⟩), ?_, trivial⟩
      (repeat' first | ((fail_if_success (with_reducible apply Mine.lk_probe)); with_reducible assumption) | ((with_reducible show Mine.Cfg.H _ _ _ _ = _); (show H _ _ _ = _); with_reducible assumption) | ((with_reducible apply Mine.w_name); (apply Mine.n_loc (k := ⟨by kernel_rfl, by kernel_rfl⟩)); (walk_at "LK"); done) | ((with_reducible apply Mine.w_name); (apply Mine.n_cec (k := ⟨by kernel_rfl, by kernel_rfl⟩)); (walk_at "LK"); done) | walk_at "com")
  · exact st_loc l150_runs
theorem sr_ret (h : l.length ≤ 1000) (hp : ∀ d ∈ l, Pr d) (I : SInv σ o [.lst l]) (hpl : Pl 63 (.lst l)) :
    stepS (rc (n + 20)) (cfgB H (namesAt 150) false) (σ, G) srR = some (.ret (.lst (l.map itemOf)), (σ, G)) := by
  obtain ⟨ha, hb⟩ := I
  have h1 : l.length ≤ 1000000 := by omega
  have h2 : ¬ 1000000 < l.length := by omega
  have hn : eqD (.lst [.lst l]) (.lst []) = some false := eq_nil (by simpa using hpl)
  have hs : subD (.lst [.lst l]) (.int 0) = some (.lst l) := rfl
  have hq : cmpB .NotEq (.lst [.lst l]) (.lst []) = some true := c_nelse hn
  conv in srR => whnf
  apply s_ret
  · rfl
  · apply w_ifT
    · (repeat' first | ((fail_if_success (with_reducible apply Mine.lk_probe)); with_reducible assumption) | ((with_reducible show Mine.Cfg.H _ _ _ _ = _); (show H _ _ _ = _); with_reducible assumption) | walk_at "com")
    · apply w_comp
      · rfl
      · (repeat' first | ((fail_if_success (with_reducible apply Mine.lk_probe)); with_reducible assumption) | ((with_reducible show Mine.Cfg.H _ _ _ _ = _); (show H _ _ _ = _); with_reducible assumption) | walk_at "com")
      · (repeat' first | ((fail_if_success (with_reducible apply Mine.lk_probe)); with_reducible assumption) | ((with_reducible show Mine.Cfg.H _ _ _ _ = _); (show H _ _ _ = _); with_reducible assumption) | walk_at "com")
      · exact its_lst h1
      · (repeat' first | ((fail_if_success (with_reducible apply Mine.lk_probe)); with_reducible assumption) | ((with_reducible show Mine.Cfg.H _ _ _ _ = _); (show H _ _ _ = _); with_reducible assumption) | walk_at "com")
      · exact h1
      · refine compX_gen (g := itemOf) (fun _ => True) trivial fun σ d _ hd => ?_
        obtain ⟨r, m, rfl⟩ := hp d hd
        refine ⟨_, put (put σ (Str.ofString "row") (.d r)) (Str.ofString "item") (.d m), g_tup rfl (ss_cons (st_loc ⟨by kernel_rfl, by kernel_rfl⟩) (ss_cons (st_loc ⟨by kernel_rfl, by kernel_rfl⟩) ss_nil)), ?_, trivial⟩
        (repeat' first | ((fail_if_success (with_reducible apply Mine.lk_probe)); with_reducible assumption) | ((with_reducible show Mine.Cfg.H _ _ _ _ = _); (show H _ _ _ = _); with_reducible assumption) | ((with_reducible apply Mine.w_name); (apply Mine.n_loc (k := ⟨by kernel_rfl, by kernel_rfl⟩)); (walk_at "LK"); done) | ((with_reducible apply Mine.w_name); (apply Mine.n_cec (k := ⟨by kernel_rfl, by kernel_rfl⟩)); (walk_at "LK"); done) | walk_at "com")

/-- one pass over the runs -/
noncomputable def pass {α : Type} (le : α → α → Bool) : List (List α) → List (List α)
  | a :: b :: r => mrg le a b :: pass le r
  | r => r
noncomputable def passes {α : Type} (le : α → α → Bool) : Nat → List (List α) → List α
  | 0, rs => rs.headD []
  | k + 1, rs => if rs.length ≤ 1 then rs.headD [] else passes le k (pass le rs)

theorem pass_len {α : Type} (le : α → α → Bool) : ∀ rs : List (List α), (pass le rs).length = (rs.length + 1) / 2
  | [] => by simp [pass]
  | [a] => by simp [pass]
  | a :: b :: r => by simp only [pass, List.length_cons, pass_len le r]; omega
theorem mrg_len {α : Type} (le : α → α → Bool) : ∀ as bs : List α, (mrg le as bs).length = as.length + bs.length
  | [], bs => by simp [mrg]
  | a :: as, [] => by simp [mrg]
  | a :: as, b :: bs => by
    rw [mrg]
    split
    · simp only [List.length_cons, mrg_len le as (b :: bs)]; omega
    · simp only [List.length_cons, mrg_len le (a :: as) bs]; omega
termination_by as bs => as.length + bs.length
theorem mrg_mem {α : Type} (le : α → α → Bool) : ∀ {as bs : List α} {d : α}, d ∈ mrg le as bs → d ∈ as ∨ d ∈ bs
  | [], bs, d, h => by rw [mrg] at h; exact .inr h
  | a :: as, [], d, h => by simp [mrg] at h; exact .inl (by simpa using h)
  | a :: as, b :: bs, d, h => by
    rw [mrg] at h
    split at h
    · rcases List.mem_cons.mp h with h | h
      · exact .inl (h ▸ .head _)
      · rcases mrg_mem le h with h | h
        · exact .inl (.tail _ h)
        · exact .inr h
    · rcases List.mem_cons.mp h with h | h
      · exact .inr (h ▸ .head _)
      · rcases mrg_mem le h with h | h
        · exact .inl h
        · exact .inr (.tail _ h)
termination_by as bs => as.length + bs.length
noncomputable def total {α : Type} : List (List α) → Nat
  | [] => 0
  | r :: rs => r.length + total rs
theorem pass_total {α : Type} (le : α → α → Bool) : ∀ rs : List (List α), total (pass le rs) = total rs
  | [] => by simp [pass]
  | [a] => by simp [pass]
  | a :: b :: r => by simp only [pass, total, mrg_len, pass_total le r]; omega
theorem pass_mem {α : Type} (le : α → α → Bool) : ∀ {rs : List (List α)} {r : List α} {d : α}, r ∈ pass le rs → d ∈ r → ∃ r' ∈ rs, d ∈ r'
  | [], r, d, h, _ => by simp [pass] at h
  | [a], r, d, h, hd => ⟨r, by simpa [pass] using h, hd⟩
  | a :: b :: rs, r, d, h, hd => by
    rw [pass] at h
    rcases List.mem_cons.mp h with h | h
    · subst h
      rcases mrg_mem le hd with h | h
      · exact ⟨a, .head _, h⟩
      · exact ⟨b, .tail _ (.head _), h⟩
    · obtain ⟨r', h1, h2⟩ := pass_mem le h hd
      exact ⟨r', .tail _ (.tail _ h1), h2⟩

/-- what is asked of the merging -/
noncomputable def MrgOk (H : Hd) (G : GS) (o : D) (le : D → D → Bool) (ps : List D) : Prop := ∀ as bs : List D, (∀ d ∈ as, d ∈ ps) → (∀ d ∈ bs, d ∈ ps) → as.length + bs.length ≤ 40 → H (.sta (.ref 1027)) [o, .lst as, .lst bs] G = some (.lst (mrg le as bs), G)

theorem sr_turn {le : D → D → Bool} (M : MrgOk H G o le ps) {rs : List (List D)} (h1 : 1 < rs.length) (h2 : rs.length ≤ 7) (ht : total rs ≤ 40) (hm : ∀ r ∈ rs, ∀ d ∈ r, d ∈ ps) (I : SInv σ o (rs.map .lst)) :
    ∃ σ', (rc (n + 20)).ex (cfgB H (namesAt 150) false) (σ, G) srB = some (.next, (σ', G)) ∧ SInv σ' o ((pass le rs).map .lst) := by
  have m : ∀ a ∈ rs, ∀ b ∈ rs, a.length + b.length ≤ 40 → H (.sta (.ref 1027)) [o, .lst a, .lst b] G = some (.lst (mrg le a b), G) := fun a ha b hb hl => M a b (hm a ha) (hm b hb) hl
  match rs, h1, h2 with
  | [a, b], _, _ => simp only [total] at ht; exact sr_turn2 I (m a (by simp) b (by simp) (by omega))
  | [a, b, c], _, _ => simp only [total] at ht; exact sr_turn3 I (m a (by simp) b (by simp) (by omega))
  | [a, b, c, d], _, _ => simp only [total] at ht; exact sr_turn4 I (m a (by simp) b (by simp) (by omega)) (m c (by simp) d (by simp) (by omega))
  | [a, b, c, d, e], _, _ => simp only [total] at ht; exact sr_turn5 I (m a (by simp) b (by simp) (by omega)) (m c (by simp) d (by simp) (by omega))
  | [a, b, c, d, e, f], _, _ => simp only [total] at ht; exact sr_turn6 I (m a (by simp) b (by simp) (by omega)) (m c (by simp) d (by simp) (by omega)) (m e (by simp) f (by simp) (by omega))
  | [a, b, c, d, e, f, g], _, _ => simp only [total] at ht; exact sr_turn7 I (m a (by simp) b (by simp) (by omega)) (m c (by simp) d (by simp) (by omega)) (m e (by simp) f (by simp) (by omega))

theorem sr_while {le : D → D → Bool} (M : MrgOk H G o le ps) : ∀ (k : Nat) {n : Nat} {rs : List (List D)} {σ : AEnv}, rs.length ≤ 2 ^ k → 1 ≤ rs.length → rs.length ≤ 7 → total rs ≤ 40 → (∀ r ∈ rs, ∀ d ∈ r, d ∈ ps) → SInv σ o (rs.map .lst) →
    ∃ σ', (rc (n + k + 21)).wh (cfgB H (namesAt 150) false) (σ, G) srT srB = some (.next, (σ', G)) ∧ SInv σ' o [.lst (passes le k rs)] := by
  intro k
  induction k with
  | zero =>
    intro n rs σ h1 h0 _ ht hm I
    have e := sr_test (H := H) (G := G) (n := n) I (by simp at h1 ⊢; omega)
    have z : ¬ 1 < rs.length := by omega
    refine ⟨σ, ?_, ?_⟩
    · exact wh_stop (e.trans (by rw [List.length_map, decide_eq_false z]))
    · match rs, h0, z with
      | [a], _, _ => exact I
      | _ :: _ :: _, _, z => exact absurd (by simp) z
  | succ k ih =>
    intro n rs σ h1 h0 h7 ht hm I
    have e := sr_test (H := H) (G := G) (n := n + (k + 1)) I (by simp; omega)
    by_cases z : 1 < rs.length
    · obtain ⟨σ1, e1, I1⟩ := sr_turn (n := n + (k + 1)) M z h7 ht hm I
      have hl := pass_len le rs
      have h2 : rs.length ≤ 2 * 2 ^ k := by rw [Nat.pow_succ] at h1; omega
      obtain ⟨σ2, e2, I2⟩ := ih (n := n) (rs := pass le rs) (σ := σ1) (by omega) (by omega) (by omega) (by rw [pass_total]; exact ht) (fun r hr d hd => let ⟨r', q1, q2⟩ := pass_mem le hr hd; hm r' q1 d q2) I1
      refine ⟨σ2, ?_, ?_⟩
      · refine Eq.trans ?_ e2
        exact wh_next (m := n + (k + 1) + 20) (e.trans (by rw [List.length_map, decide_eq_true z])) e1
      · rw [passes, if_neg (by omega)]
        exact I2
    · refine ⟨σ, ?_, ?_⟩
      · exact wh_stop (m := n + (k + 1) + 20) (e.trans (by rw [List.length_map, decide_eq_false z]))
      · rw [passes, if_pos (by omega)]
        match rs, h0, z with
        | [a], _, _ => exact I
        | _ :: _ :: _, _, z => exact absurd (by simp) z

theorem body150 : bodyAt 150 = [sr0, srW, srR] := by rfl
theorem srW_eq (m : Nat) (cfg : Cfg) (x : X) : stepS (rc m) cfg x srW = (rc m).wh cfg x srT srB := by kernel_rfl

theorem passes_len {α : Type} (le : α → α → Bool) : ∀ (k : Nat) (rs : List (List α)), rs.length ≤ 2 ^ k → (passes le k rs).length = total rs
  | 0, [], _ => rfl
  | 0, [a], _ => rfl
  | 0, _ :: _ :: _, h => by simp at h
  | k + 1, rs, h => by
    rw [passes]
    split
    · match rs with
      | [] => rfl
      | [a] => rfl
      | _ :: _ :: _ => rename_i h; simp at h
    · rw [passes_len le k _ (by rw [pass_len]; rw [Nat.pow_succ] at h; omega), pass_total]
theorem passes_mem {α : Type} (le : α → α → Bool) : ∀ (k : Nat) (rs : List (List α)) {d : α}, d ∈ passes le k rs → ∃ r ∈ rs, d ∈ r
  | 0, [], d, h => by simp [passes] at h
  | 0, a :: _, d, h => ⟨a, .head _, h⟩
  | k + 1, rs, d, h => by
    rw [passes] at h
    split at h
    · match rs with
      | [] => simp at h
      | a :: _ => exact ⟨a, .head _, h⟩
    · obtain ⟨r, h1, h2⟩ := passes_mem le k _ h
      exact pass_mem le h1 h2

theorem total_single {α : Type} : ∀ ps : List α, total (ps.map fun p => [p]) = ps.length
  | [] => rfl
  | p :: ps => by simp only [List.map_cons, total, total_single ps, List.length_cons, List.length_nil]; omega

theorem sorted_rows_ok {le : D → D → Bool} (M : MrgOk H G o le ps) (h1 : 1 ≤ ps.length) (h7 : ps.length ≤ 7) (hp : ∀ d ∈ ps, Pr d) (hpl : ∀ d ∈ ps, Pl 62 d) :
    runB H 150 false [o, .lst ps] G = some (.lst ((passes le 3 (ps.map fun p => [p])).map itemOf), G) := by
  rw [run_eq (σ := [(Str.ofString "orders", .d o), (Str.ofString "pairs", .d (.lst ps))]) (by kernel_rfl)]
  rw [body150, rc_ex 99]
  obtain ⟨σ1, e1, I1⟩ := sr_first (H := H) (G := G) (n := 79) (σ := [(Str.ofString "orders", .d o), (Str.ofString "pairs", .d (.lst ps))]) (o := o) (ps := ps) (by omega) (by kernel_rfl) (by kernel_rfl)
  have I1' : SInv σ1 o ((ps.map fun p => [p]).map .lst) := by rw [List.map_map]; exact I1
  have mem : ∀ r ∈ ps.map (fun p => [p]), ∀ d ∈ r, d ∈ ps := fun r hr d hd => by
    obtain ⟨p, hp, rfl⟩ := List.mem_map.mp hr
    simp at hd
    exact hd ▸ hp
  obtain ⟨σ2, e2, I2⟩ := sr_while M 3 (n := 75) (rs := ps.map fun p => [p]) (σ := σ1) (by simp; omega) (by simpa using h1) (by simpa using h7) (by rw [total_single]; omega) mem I1'
  have pm : ∀ d ∈ passes le 3 (ps.map fun p => [p]), d ∈ ps := fun d hd => let ⟨r, q1, q2⟩ := passes_mem le 3 _ hd; mem r q1 d q2
  have e3 := sr_ret (H := H) (G := G) (n := 79) (σ := σ2) (o := o) (l := passes le 3 (ps.map fun p => [p])) (by rw [passes_len le 3 _ (by simp; omega), total_single]; omega) (fun d hd => hp d (pm d hd)) I2 (Pl.lst fun d hd => hpl d (pm d hd))
  rw [exs_next e1, exs_next ((srW_eq 99 _ _).trans e2), exs_ret e3]
  rfl
end
end Mine
end

section
open PySem PySem.W PyProof.Rows PySem.Calls PySem.Spec PySem.SeqAt
set_option Elab.async false
set_option backward.match.sparseCases false
set_option maxRecDepth 100000
set_option maxHeartbeats 400000
namespace Mine
theorem its_rng : ∀ {n : Nat}, n ≤ 8 → itsD (.rng 0 (n : Int) 1) = some ((List.range n).map fun (p : Nat) => D.int (p : Int))
  | 0, _ => rfl
  | 1, _ => rfl
  | 2, _ => rfl
  | 3, _ => rfl
  | 4, _ => rfl
  | 5, _ => rfl
  | 6, _ => rfl
  | 7, _ => rfl
  | 8, _ => rfl
  | n + 9, h => absurd h (by omega)

noncomputable def sn0 : Stmt := match bodyAt 152 with
  | [s, _, _, _] => s
  | _ => default
noncomputable def sn1 : Stmt := match bodyAt 152 with
  | [_, s, _, _] => s
  | _ => default
noncomputable def sn2 : Stmt := match bodyAt 152 with
  | [_, _, s, _] => s
  | _ => default
noncomputable def sn3 : Stmt := match bodyAt 152 with
  | [_, _, _, s] => s
  | _ => default
noncomputable def snB : List Stmt := match sn2 with
  | .For _ _ b _ _ => b
  | _ => default
noncomputable def snI : Expr := match sn2 with
  | .For _ i _ _ _ => i
  | _ => default
noncomputable def snV : Expr := match sn2 with
  | .For t _ _ _ _ => t
  | _ => default
noncomputable def snC : Expr := match snB with
  | [_, .Assign _ e _, _] => e
  | _ => default
theorem body152 : bodyAt 152 = [sn0, sn1, sn2, sn3] := by rfl
noncomputable abbrev openAV : AV → Bool := openA
structure NInv (σ : AEnv) (nodes keys : List D) (cf o : D) (acc : List D) : Prop where
  a : σ.lookup (Str.ofString "nodes") = some (.d (.lst nodes))
  b : σ.lookup (Str.ofString "keys") = some (.d (.lst keys))
  c : σ.lookup (Str.ofString "context_of") = some (.d cf)
  d : σ.lookup (Str.ofString "orders") = some (.d o)
  e : σ.lookup (Str.ofString "pairs") = some (.lst acc)
  f : ∃ av, σ.lookup (Str.ofString "context") = some av ∧ openAV av = true
section
variable {H : Hd} {n : Nat} {G G1 : GS} {σ : AEnv} {o cf cx : D} {nodes keys acc : List D}
theorem sn_first {ord : D → D} (ha : σ.lookup (Str.ofString "keys") = some (.d (.lst keys))) (h : keys.length ≤ 1000)
    (hk : ∀ q ∈ keys, ∃ e a b c, q = .tup [e, a, b, c] ∧ H (.sta (.ref 981)) [a, b, c] G = some (ord q, G)) :
    stepS (rc (n + 20)) (cfgB H (namesAt 152) false) (σ, G) sn0 = some (.next, (put σ (Str.ofString "orders") (.d (.lst (keys.map ord))), G)) := by
  have h1 : keys.length ≤ 1000000 := by omega
  have h2 : ¬ 1000000 < keys.length := by omega
  conv in sn0 => whnf
  apply s_asg
  · rfl
  · rfl
  · apply w_comp
    · rfl
    · (repeat' first | ((fail_if_success (with_reducible apply Mine.lk_probe)); with_reducible assumption) | ((with_reducible show Mine.Cfg.H _ _ _ _ = _); (show H _ _ _ = _); with_reducible assumption) | walk_at "com")
    · (repeat' first | ((fail_if_success (with_reducible apply Mine.lk_probe)); with_reducible assumption) | ((with_reducible show Mine.Cfg.H _ _ _ _ = _); (show H _ _ _ = _); with_reducible assumption) | walk_at "com")
    · exact its_lst h1
    · (repeat' first | ((fail_if_success (with_reducible apply Mine.lk_probe)); with_reducible assumption) | ((with_reducible show Mine.Cfg.H _ _ _ _ = _); (show H _ _ _ = _); with_reducible assumption) | walk_at "com")
    · exact h1
    · refine compX_gen (g := ord) (fun _ => True) trivial fun σ d _ hd => ?_
      obtain ⟨e, a, b, c, rfl, hh⟩ := hk d hd
      refine ⟨_, put (put (put (put σ (Str.ofString "expr") (.d e)) (Str.ofString "is_number") (.d a)) (Str.ofString "is_descending") (.d b)) (Str.ofString "first") (.d c), g_tup rfl (ss_cons (st_loc ⟨by kernel_rfl, by kernel_rfl⟩) (ss_cons (st_loc ⟨by kernel_rfl, by kernel_rfl⟩) (ss_cons (st_loc ⟨by kernel_rfl, by kernel_rfl⟩) (ss_cons (st_loc ⟨by kernel_rfl, by kernel_rfl⟩) ss_nil)))), ?_, trivial⟩
      (repeat' first | ((fail_if_success (with_reducible apply Mine.lk_probe)); with_reducible assumption) | ((with_reducible show Mine.Cfg.H _ _ _ _ = _); (show H _ _ _ = _); with_reducible assumption) | (with_reducible apply w_callF (h1 := n_glb (d := .sta (.ref 981)) ⟨by kernel_rfl, by kernel_rfl, by kernel_rfl⟩)) | ((with_reducible apply Mine.w_name); (apply Mine.n_loc (k := ⟨by kernel_rfl, by kernel_rfl⟩)); (walk_at "LK"); done) | ((with_reducible apply Mine.w_name); (apply Mine.n_cec (k := ⟨by kernel_rfl, by kernel_rfl⟩)); (walk_at "LK"); done) | walk_at "com")
  · exact st_loc l152_orders

theorem sn_comp {val : D → D} (h1 : keys.length ≤ 1000000) (hk : ∀ q ∈ keys, ∃ e a b c, q = .tup [e, a, b, c] ∧ H (.sta (.ref 1039)) [e, a, cx] G1 = some (val q, G1)) (σ : AEnv) (m : Nat) (ha : σ.lookup (Str.ofString "keys") = some (.d (.lst keys))) (hx : σ.lookup (Str.ofString "context") = some (.d cx)) : (rc (m + 10)).ev (cfgB H (namesAt 152) false) (σ, G1) snC = some (.lst (keys.map val), (σ, G1)) := by
  conv in snC => whnf
  apply w_comp
  · rfl
  · (repeat' first | ((fail_if_success (with_reducible apply Mine.lk_probe)); with_reducible assumption) | ((with_reducible show Mine.Cfg.H _ _ _ _ = _); (show H _ _ _ = _); with_reducible assumption) | walk_at "com")
  · (repeat' first | ((fail_if_success (with_reducible apply Mine.lk_probe)); with_reducible assumption) | ((with_reducible show Mine.Cfg.H _ _ _ _ = _); (show H _ _ _ = _); with_reducible assumption) | walk_at "com")
  · exact its_lst h1
  · (repeat' first | ((fail_if_success (with_reducible apply Mine.lk_probe)); with_reducible assumption) | ((with_reducible show Mine.Cfg.H _ _ _ _ = _); (show H _ _ _ = _); with_reducible assumption) | walk_at "com")
  · exact h1
  · refine compX_gen (g := val) (fun σ => σ.lookup (Str.ofString "context") = some (.con cx)) lk_hd fun σ d hi hd => ?_
    obtain ⟨e, a, b, c, rfl, hh⟩ := hk d hd
    refine ⟨_, put (put (put (put σ (Str.ofString "expr") (.d e)) (Str.ofString "is_number") (.d a)) (Str.ofString "is_descending") (.d b)) (Str.ofString "first") (.d c), g_tup rfl (ss_cons (st_loc ⟨by kernel_rfl, by kernel_rfl⟩) (ss_cons (st_loc ⟨by kernel_rfl, by kernel_rfl⟩) (ss_cons (st_loc ⟨by kernel_rfl, by kernel_rfl⟩) (ss_cons (st_loc ⟨by kernel_rfl, by kernel_rfl⟩) ss_nil)))), ?_, ?_⟩
    · (repeat' first | ((fail_if_success (with_reducible apply Mine.lk_probe)); with_reducible assumption) | ((with_reducible show Mine.Cfg.H _ _ _ _ = _); (show H _ _ _ = _); with_reducible assumption) | (with_reducible apply w_callF (h1 := n_glb (d := .sta (.ref 1039)) ⟨by kernel_rfl, by kernel_rfl, by kernel_rfl⟩)) | ((with_reducible apply Mine.w_name); (apply Mine.n_loc (k := ⟨by kernel_rfl, by kernel_rfl⟩)); (walk_at "LK"); done) | ((with_reducible apply Mine.w_name); (apply Mine.n_cec (k := ⟨by kernel_rfl, by kernel_rfl⟩)); (walk_at "LK"); done) | walk_at "com")
    · (walk_at "LK")
theorem sn_turn {p : Nat} {nd : D} {val : D → D} (I : NInv σ nodes keys cf o acc) (hcf : ∃ p b s c, cf = .fn p b s c) (h : keys.length ≤ 1000) (hn : nodes.length ≤ 1000) (hacc : acc.length ≤ 1000) (hp : nodes[p]? = some nd)
    (hc : H cf [nd, .int ((p : Int) + 1), .int (nodes.length : Int)] G = some (cx, G1))
    (hk : ∀ q ∈ keys, ∃ e a b c, q = .tup [e, a, b, c] ∧ H (.sta (.ref 1039)) [e, a, cx] G1 = some (val q, G1)) :
    ∃ σ', (rc (n + 20)).ex (cfgB H (namesAt 152) false) (put σ (Str.ofString "place") (.d (.int (p : Int))), G) snB = some (.next, (σ', G1)) ∧ NInv σ' nodes keys cf o (acc ++ [.tup [.lst (keys.map val), nd]]) := by
  obtain ⟨ha, hb, hc', hd, he, av, hf, hav⟩ := I
  obtain ⟨fp, fb, fs, fc, rfl⟩ := hcf
  have h1 : keys.length ≤ 1000000 := by omega
  have h2 : ¬ 1000000 < keys.length := by omega
  have h3 : nodes.length ≤ 1000000 := by omega
  have h4 : acc.length ≤ 1000000 := by omega
  have s1 := sub_lst hp h3
  have b1 : bltD (.builtin "len") [.lst nodes] = some (.int (nodes.length : Int)) := len_lst h3
  conv in snB => whnf
  have hav : openA av = true := hav
  apply Exists.intro
  apply And.intro
  · apply x_blk
    apply x_next
    · (repeat' first | ((fail_if_success (with_reducible apply Mine.lk_probe)); with_reducible assumption) | ((with_reducible show Mine.Cfg.H _ _ _ _ = _); (show H _ _ _ = _); with_reducible assumption) | with_reducible apply w_callN (h1 := n_loc l152_context_of (lk_ne rfl hc')) | walk_at "com")
    · apply x_next
      · apply s_asg
        · rfl
        · rfl
        · exact sn_comp h1 hk _ (n + 9) (by (walk_at "LK")) (by (walk_at "LK"))
        · exact st_loc l152_row
      · (repeat' first | ((fail_if_success (with_reducible apply Mine.lk_probe)); with_reducible assumption) | ((with_reducible show Mine.Cfg.H _ _ _ _ = _); (show H _ _ _ = _); with_reducible assumption) | with_reducible apply s_app (k := l152_pairs) | walk_at "com")
  · constructor
    case f => exact ⟨.d cx, by (walk_at "LK"), rfl⟩
    all_goals (walk_at "LK")

theorem sn_loop {ctx : Nat → D} {Gs : Nat → GS} {val : D → Nat → D} (hcf : ∃ p b s c, cf = .fn p b s c) (h : keys.length ≤ 100) (hn : nodes.length ≤ 100)
    (hc : ∀ (p : Nat) (nd : D), nodes[p]? = some nd → H cf [nd, .int ((p : Int) + 1), .int (nodes.length : Int)] (Gs p) = some (ctx p, Gs (p + 1)))
    (hk : ∀ (p : Nat), p < nodes.length → ∀ q ∈ keys, ∃ e a b c, q = .tup [e, a, b, c] ∧ H (.sta (.ref 1039)) [e, a, ctx p] (Gs (p + 1)) = some (val q p, Gs (p + 1))) :
    ∀ (k p : Nat) {σ : AEnv} {acc : List D}, p + k = nodes.length → acc.length = p → NInv σ nodes keys cf o acc →
      ∃ σ', forX ((rc (n + 20)).ex (cfgB H (namesAt 152) false)) (cfgB H (namesAt 152) false) snV snB (σ, Gs p) ((List.range' p k).map fun (p : Nat) => D.int (p : Int)) = some (.next, (σ', Gs nodes.length)) ∧
        NInv σ' nodes keys cf o (acc ++ (List.range' p k).map fun p => .tup [.lst (keys.map (val · p)), nodes.getD p .none]) := by
  intro k
  induction k with
  | zero =>
    intro p σ acc hp _ I
    have : p = nodes.length := by omega
    subst this
    exact ⟨σ, rfl, by simpa using I⟩
  | succ k ih =>
    intro p σ acc hp ha I
    have lt : p < nodes.length := by omega
    have g1 : nodes[p]? = some nodes[p] := List.getElem?_eq_getElem lt
    obtain ⟨σ1, e1, I1⟩ := sn_turn (H := H) (n := n) (G := Gs p) (G1 := Gs (p + 1)) (cx := ctx p) (p := p) (val := (val · p)) I hcf (by omega) (by omega) (by omega) g1 (hc p _ g1) (hk p lt)
    obtain ⟨σ2, e2, I2⟩ := ih (p + 1) (σ := σ1) (acc := acc ++ [.tup [.lst (keys.map (val · p)), nodes[p]]]) (by omega) (by simp [ha]) I1
    refine ⟨σ2, ?_, ?_⟩
    · rw [List.range'_succ, List.map_cons]
      unfold forX
      exact f_cons (g_name (st_loc l152_place)) e1 e2
    · rw [List.range'_succ, List.map_cons]
      have : nodes.getD p .none = nodes[p] := by simp [List.getD_eq_getElem?_getD, lt]
      rw [this]
      simpa using I2

theorem for_eq (m : Nat) (cfg : Cfg) (x : X) : stepS (rc m) cfg x sn2 = ((rc m).ev cfg x snI).bind fun p => (itsD p.1).bind fun ds => forX ((rc m).ex cfg) cfg snV snB p.2 ds := by kernel_rfl
theorem rng_len {n : Nat} (h : n ≤ 1000000) : bltD (.type "range") [.int (n : Int)] = some (.rng 0 (n : Int) 1) := by
  have e : rng1 (.int (n : Int)) = some (.rng 0 (n : Int) 1) := cs (small_nat h) rfl
  show (rng1 (.int (n : Int))).or _ = _
  rw [e]
  rfl
theorem sn_it {σ : AEnv} {G : GS} (hl : σ.lookup (Str.ofString "nodes") = some (.d (.lst nodes))) (h1 : nodes.length ≤ 1000000) (h3 : small (nodes.length : Int) = true) : (rc (n + 20)).ev (cfgB H (namesAt 152) false) (σ, G) snI = some (.rng 0 (nodes.length : Int) 1, (σ, G)) := by
    have b1 := len_lst h1
    have b2 := rng_len h1
    conv in snI => whnf
    (repeat' first | ((fail_if_success (with_reducible apply Mine.lk_probe)); with_reducible assumption) | ((with_reducible show Mine.Cfg.H _ _ _ _ = _); (show H _ _ _ = _); with_reducible assumption) | walk_at "com")
theorem sn_for2 {x : X} {r : D} {ds : List D} (e : (rc (n + 20)).ev (cfgB H (namesAt 152) false) x snI = some (r, x)) (h2 : itsD r = some ds) :
    stepS (rc (n + 20)) (cfgB H (namesAt 152) false) x sn2 = forX ((rc (n + 20)).ex (cfgB H (namesAt 152) false)) (cfgB H (namesAt 152) false) snV snB x ds := by
  rw [for_eq]
  exact bs e (bs h2 rfl)
theorem sn_for {x : X} (hl : x.1.lookup (Str.ofString "nodes") = some (.d (.lst nodes))) (hn : nodes.length ≤ 8) :
    stepS (rc (n + 20)) (cfgB H (namesAt 152) false) x sn2 = forX ((rc (n + 20)).ex (cfgB H (namesAt 152) false)) (cfgB H (namesAt 152) false) snV snB x ((List.range nodes.length).map fun (p : Nat) => D.int (p : Int)) :=
  sn_for2 (sn_it (σ := x.1) (G := x.2) hl (Nat.le_trans hn (by decide)) (small_nat (Nat.le_trans hn (by decide)))) (its_rng hn)

theorem sorted_nodes_ok {ctx : Nat → D} {Gs : Nat → GS} {val : D → Nat → D} {ord : D → D} {res : D} (hcf : ∃ p b s c, cf = .fn p b s c) (h : keys.length ≤ 100) (hn : nodes.length ≤ 8)
    (ho : ∀ q ∈ keys, ∃ e a b c, q = .tup [e, a, b, c] ∧ H (.sta (.ref 981)) [a, b, c] (Gs 0) = some (ord q, Gs 0))
    (hc : ∀ (p : Nat) (nd : D), nodes[p]? = some nd → H cf [nd, .int ((p : Int) + 1), .int (nodes.length : Int)] (Gs p) = some (ctx p, Gs (p + 1)))
    (hk : ∀ (p : Nat), p < nodes.length → ∀ q ∈ keys, ∃ e a b c, q = .tup [e, a, b, c] ∧ H (.sta (.ref 1039)) [e, a, ctx p] (Gs (p + 1)) = some (val q p, Gs (p + 1)))
    (hs : H (.sta (.ref 1032)) [.lst (keys.map ord), .lst ((List.range nodes.length).map fun p => .tup [.lst (keys.map (val · p)), nodes.getD p .none])] (Gs nodes.length) = some (res, Gs nodes.length)) :
    runB H 152 false [.lst nodes, .lst keys, cf] (Gs 0) = some (res, Gs nodes.length) := by
  rw [run_eq (σ := [(Str.ofString "nodes", .d (.lst nodes)), (Str.ofString "keys", .d (.lst keys)), (Str.ofString "context_of", .d cf), (Str.ofString "context", .unb)]) (by kernel_rfl)]
  rw [body152, rc_ex 99]
  have e1 := sn_first (H := H) (G := Gs 0) (n := 79) (σ := [(Str.ofString "nodes", .d (.lst nodes)), (Str.ofString "keys", .d (.lst keys)), (Str.ofString "context_of", .d cf), (Str.ofString "context", .unb)]) (keys := keys) (ord := ord) (by kernel_rfl) (by omega) ho
  rw [exs_next e1]
  have e2 : ∀ (σ : AEnv) (G : GS), stepS (rc 99) (cfgB H (namesAt 152) false) (σ, G) sn1 = some (.next, (put σ (Str.ofString "pairs") (.lst []), G)) := by
    intro σ G
    conv in sn1 => whnf
    (repeat' first | ((fail_if_success (with_reducible apply Mine.lk_probe)); with_reducible assumption) | ((with_reducible show Mine.Cfg.H _ _ _ _ = _); (show H _ _ _ = _); with_reducible assumption) | walk_at "com")
  rw [exs_next (e2 _ _)]
  have I : NInv (put (put [(Str.ofString "nodes", .d (.lst nodes)), (Str.ofString "keys", .d (.lst keys)), (Str.ofString "context_of", .d cf), (Str.ofString "context", .unb)] (Str.ofString "orders") (.d (.lst (keys.map ord)))) (Str.ofString "pairs") (.lst [])) nodes keys cf (.lst (keys.map ord)) [] := by
    constructor
    case f => exact ⟨.unb, by kernel_rfl, rfl⟩
    all_goals kernel_rfl
  obtain ⟨σ', e3, I3⟩ := sn_loop (H := H) (n := 79) (o := .lst (keys.map ord)) (ctx := ctx) (Gs := Gs) (val := val) hcf h (by omega) hc hk nodes.length 0 (by omega) rfl I
  have e4 := sn_for (H := H) (n := 79) (x := (put (put [(Str.ofString "nodes", .d (.lst nodes)), (Str.ofString "keys", .d (.lst keys)), (Str.ofString "context_of", .d cf), (Str.ofString "context", .unb)] (Str.ofString "orders") (.d (.lst (keys.map ord)))) (Str.ofString "pairs") (.lst []), Gs 0)) I.a hn
  rw [← List.range_eq_range'] at e3 I3
  rw [exs_next (e4.trans e3)]
  obtain ⟨ha, hb, hc', hd, he, av, hf, hav⟩ := I3
  rw [List.nil_append] at he
  have e5 : stepS (rc 99) (cfgB H (namesAt 152) false) (σ', Gs nodes.length) sn3 = some (.ret res, (put σ' (Str.ofString "pairs") (.d (.lst ((List.range nodes.length).map fun p => .tup [.lst (keys.map (val · p)), nodes.getD p .none]))), Gs nodes.length)) := by
    conv in sn3 => whnf
    (repeat' first | ((fail_if_success (with_reducible apply Mine.lk_probe)); with_reducible assumption) | ((with_reducible show Mine.Cfg.H _ _ _ _ = _); (show H _ _ _ = _); with_reducible assumption) | walk_at "com")
  rw [exs_ret e5]
  rfl
end
end Mine
end

section
open PySem PySem.W PyProof.Rows PySem.Calls PySem.Spec PySem.SeqAt
set_option Elab.async false
set_option backward.match.sparseCases false
set_option maxRecDepth 100000
set_option maxHeartbeats 1000000
namespace Mine
noncomputable def la0 : Stmt := match bodyAt 163 with
  | [s, _] => s
  | _ => default
noncomputable def la1 : Stmt := match bodyAt 163 with
  | [_, s] => s
  | _ => default
noncomputable def laB : List Stmt := match la0 with
  | .For _ _ b _ _ => b
  | _ => default
noncomputable def laV : Expr := match la0 with
  | .For t _ _ _ _ => t
  | _ => default
noncomputable def laI : Expr := match la0 with
  | .For _ i _ _ _ => i
  | _ => default
theorem body163 : bodyAt 163 = [la0, la1] := by rfl
theorem for163 (m : Nat) (cfg : Cfg) (x : X) : stepS (rc m) cfg x la0 = ((rc m).ev cfg x laI).bind fun p => (itsD p.1).bind fun ds => forX ((rc m).ex cfg) cfg laV laB p.2 ds := by kernel_rfl
theorem eq_bool (a b : Bool) : eqD (.bool a) (.bool b) = some (a == b) := by cases a <;> cases b <;> rfl
structure LInv (σ : AEnv) (rows : List D) (i j : Nat) : Prop where
  a : σ.lookup (Str.ofString "rows") = some (.d (.lst rows))
  b : σ.lookup (Str.ofString "one") = some (.d (.int (i : Int)))
  c : σ.lookup (Str.ofString "other") = some (.d (.int (j : Int)))
/-- one key's word on two rows: alike, or the first ahead -/
noncomputable def KeyOk (H : Hd) (G : GS) (ri rj : D) (q : D) (e out : Bool) : Prop := ∃ l nm dn d1 d2 c1 c2 t1 k2, q = .dic l ∧ l.lookup (Str.ofString "name") = some (.str nm) ∧ l.lookup (Str.ofString "down") = some (.bool dn) ∧ ri = .dic d1 ∧ rj = .dic d2 ∧ d1.lookup nm = some c1 ∧ d2.lookup nm = some c2 ∧
  H (.sta (.ref 1118)) [c1, .dic l] G = some (.tup t1, G) ∧ H (.sta (.ref 1118)) [c2, .dic l] G = some (k2, G) ∧ eqD (.tup t1) k2 = some e ∧ (e = false → ∃ lt, ltD (.tup t1) k2 = some lt ∧ out = (lt != dn))
section
variable {H : Hd} {n : Nat} {G : GS} {σ : AEnv} {rows : List D} {i j : Nat} {ri rj q : D} {e out : Bool}
theorem sub_dic {l : List (Str × D)} {x : Str} {d : D} (h : l.lookup x = some d) : subD (.dic l) (.str x) = some d := h
theorem la_turn (I : LInv σ rows i j) (hr : rows.length ≤ 1000000) (hi : rows[i]? = some ri) (hj : rows[j]? = some rj) (K : KeyOk H G ri rj q e out) :
    ∃ σ', (rc (n + 20)).ex (cfgB H (namesAt 163) false) (put σ (Str.ofString "key") (.d q), G) laB = some (if e then .next else .ret (.bool out), (σ', G)) ∧ LInv σ' rows i j := by
  obtain ⟨ha, hb, hc⟩ := I
  obtain ⟨l, nm, dn, d1, d2, c1, c2, t1, k2, rfl, h1, h2, rfl, rfl, h3, h4, h5, h6, h7, h8⟩ := K
  have s1 := sub_lst hi hr
  have s2 := sub_lst hj hr
  have s3 := sub_dic h1
  have s4 := sub_dic h2
  have s5 := sub_dic h3
  have s6 := sub_dic h4
  conv in laB => whnf
  cases e with
  | true =>
    have c1 : cmpB .NotEq (.tup t1) k2 = some false := c_nelse h7
    apply Exists.intro
    apply And.intro
    · show _ = some (Fl.next, (_, G))
      (repeat' first | ((fail_if_success (with_reducible apply Mine.lk_probe)); with_reducible assumption) | ((with_reducible show Mine.Cfg.H _ _ _ _ = _); (show H _ _ _ = _); with_reducible assumption) | with_reducible apply s_ifF | walk_at "com")
    · constructor <;> (walk_at "LK")
  | false =>
    obtain ⟨lt, h9, rfl⟩ := h8 rfl
    have c1 : cmpB .NotEq (.tup t1) k2 = some true := c_nelse h7
    have c2 : cmpB .Lt (.tup t1) k2 = some lt := h9
    have c3 : cmpB .NotEq (.bool lt) (.bool dn) = some (lt != dn) := c_nelse (eq_bool lt dn)
    apply Exists.intro
    apply And.intro
    · show _ = some (Fl.ret (.bool (lt != dn)), (_, G))
      (repeat' first | ((fail_if_success (with_reducible apply Mine.lk_probe)); with_reducible assumption) | ((with_reducible show Mine.Cfg.H _ _ _ _ = _); (show H _ _ _ = _); with_reducible assumption) | with_reducible apply s_ifT | walk_at "com")
    · constructor <;> (walk_at "LK")

/-- the first key that tells the two apart -/
noncomputable def tellB : List (Bool × Bool) → Bool
  | [] => false
  | (e, o) :: r => if e then tellB r else o
theorem la_loop (hr : rows.length ≤ 1000000) (hi : rows[i]? = some ri) (hj : rows[j]? = some rj) {tl : D → Bool × Bool} : ∀ (keys : List D) {σ : AEnv}, (∀ q ∈ keys, KeyOk H G ri rj q (tl q).1 (tl q).2) → LInv σ rows i j →
    ∃ σ' f, forX ((rc (n + 20)).ex (cfgB H (namesAt 163) false)) (cfgB H (namesAt 163) false) laV laB (σ, G) keys = some (f, (σ', G)) ∧ (match f with | .ret d => d = .bool (tellB (keys.map tl)) | .next => tellB (keys.map tl) = false)
  | [], σ, _, _ => ⟨σ, .next, rfl, rfl⟩
  | q :: keys, σ, K, I => by
    obtain ⟨σ1, e1, I1⟩ := la_turn (n := n) I hr hi hj (K q (.head _))
    have ht : targX (cfgB H (namesAt 163) false) (σ, G) laV q = some (put σ (Str.ofString "key") (.d q), G) := by
      conv in laV => whnf
      exact g_name (st_loc l163_key)
    cases h : (tl q).1 with
    | true =>
      rw [h] at e1
      obtain ⟨σ2, f, e2, r⟩ := la_loop hr hi hj keys (fun z hz => K z (.tail _ hz)) I1
      refine ⟨σ2, f, f_cons ht e1 e2, ?_⟩
      simp only [List.map_cons, tellB]
      have : tl q = (true, (tl q).2) := by rw [← h]
      rw [this]
      exact r
    | false =>
      rw [h] at e1
      refine ⟨σ1, .ret (.bool (tl q).2), f_ret ht e1, ?_⟩
      simp only [List.map_cons, tellB]
      have : tl q = (false, (tl q).2) := by rw [← h]
      rw [this]
      rfl
theorem la_it {keys : List D} (hl : σ.lookup (Str.ofString "keys") = some (.d (.lst keys))) : (rc (n + 20)).ev (cfgB H (namesAt 163) false) (σ, G) laI = some (.lst keys, (σ, G)) := by
  conv in laI => whnf
  (repeat' first | ((fail_if_success (with_reducible apply Mine.lk_probe)); with_reducible assumption) | ((with_reducible show Mine.Cfg.H _ _ _ _ = _); (show H _ _ _ = _); with_reducible assumption) | walk_at "com")
theorem stands_ok {keys : List D} (hr : rows.length ≤ 1000) (hk : keys.length ≤ 1000) (hi : rows[i]? = some ri) (hj : rows[j]? = some rj) {tl : D → Bool × Bool} (K : ∀ q ∈ keys, KeyOk H G ri rj q (tl q).1 (tl q).2) :
    runB H 163 false [.lst keys, .lst rows, .int (i : Int), .int (j : Int)] G = some (.bool (tellB (keys.map tl)), G) := by
  rw [run_eq (σ := [(Str.ofString "keys", .d (.lst keys)), (Str.ofString "rows", .d (.lst rows)), (Str.ofString "one", .d (.int (i : Int))), (Str.ofString "other", .d (.int (j : Int)))]) (by kernel_rfl)]
  rw [body163, rc_ex 99]
  obtain ⟨σ', f, e1, r⟩ := la_loop (n := 79) (σ := [(Str.ofString "keys", .d (.lst keys)), (Str.ofString "rows", .d (.lst rows)), (Str.ofString "one", .d (.int (i : Int))), (Str.ofString "other", .d (.int (j : Int)))]) (Nat.le_trans hr (by decide)) hi hj keys K ⟨by kernel_rfl, by kernel_rfl, by kernel_rfl⟩
  have e0 := la_it (H := H) (G := G) (n := 79) (σ := [(Str.ofString "keys", .d (.lst keys)), (Str.ofString "rows", .d (.lst rows)), (Str.ofString "one", .d (.int (i : Int))), (Str.ofString "other", .d (.int (j : Int)))]) (keys := keys) (by kernel_rfl)
  have hz := its_lst (l := keys) (Nat.le_trans hk (by decide))
  have e2 : stepS (rc 99) (cfgB H (namesAt 163) false) ([(Str.ofString "keys", .d (.lst keys)), (Str.ofString "rows", .d (.lst rows)), (Str.ofString "one", .d (.int (i : Int))), (Str.ofString "other", .d (.int (j : Int)))], G) la0 = some (f, (σ', G)) := by
    rw [for163]
    exact bs e0 (bs hz e1)
  cases f with
  | ret d =>
    rw [exs_ret e2]
    have r : d = .bool (tellB (keys.map tl)) := r
    subst r
    rfl
  | next =>
    rw [exs_next e2]
    have r : tellB (keys.map tl) = false := r
    have e3 : stepS (rc 99) (cfgB H (namesAt 163) false) (σ', G) la1 = some (.ret (.bool false), (σ', G)) := by
      conv in la1 => whnf
      (repeat' first | ((fail_if_success (with_reducible apply Mine.lk_probe)); with_reducible assumption) | ((with_reducible show Mine.Cfg.H _ _ _ _ = _); (show H _ _ _ = _); with_reducible assumption) | walk_at "com")
    rw [exs_ret e3, r]
    rfl
end
end Mine
end

section
open PySem PySem.W PyProof.Rows PySem.Calls PySem.Spec PySem.SeqAt
set_option Elab.async false
set_option backward.match.sparseCases false
set_option maxRecDepth 100000
set_option maxHeartbeats 1000000
namespace Mine
noncomputable def du0 : Stmt := match bodyAt 164 with
  | [s, _, _] => s
  | _ => default
noncomputable def du1 : Stmt := match bodyAt 164 with
  | [_, s, _] => s
  | _ => default
noncomputable def du2 : Stmt := match bodyAt 164 with
  | [_, _, s] => s
  | _ => default
noncomputable def duB : List Stmt := match du1 with
  | .For _ _ b _ _ => b
  | _ => default
noncomputable def duV : Expr := match du1 with
  | .For t _ _ _ _ => t
  | _ => default
noncomputable def duI : Expr := match du1 with
  | .For _ i _ _ _ => i
  | _ => default
noncomputable def du10 : Stmt := match duB with
  | [s, _, _] => s
  | _ => default
noncomputable def du11 : Stmt := match duB with
  | [_, s, _] => s
  | _ => default
noncomputable def du12 : Stmt := match duB with
  | [_, _, s] => s
  | _ => default
noncomputable def duT : Expr := match du11 with
  | .While t _ _ _ => t
  | _ => default
noncomputable def duW : List Stmt := match du11 with
  | .While _ b _ _ => b
  | _ => default
theorem body164 : bodyAt 164 = [du0, du1, du2] := by rfl
theorem bodyDu : duB = [du10, du11, du12] := by rfl
theorem for164 (m : Nat) (cfg : Cfg) (x : X) : stepS (rc m) cfg x du1 = ((rc m).ev cfg x duI).bind fun p => (itsD p.1).bind fun ds => forX ((rc m).ex cfg) cfg duV duB p.2 ds := by kernel_rfl
theorem for_run {r : Rc} {cfg : Cfg} {x x' : X} {st : Stmt} {it t : Expr} {b : List Stmt} {d : D} {ds : List D} (hs : stepS r cfg x st = (r.ev cfg x it).bind fun p => (itsD p.1).bind fun ds => forX (r.ex cfg) cfg t b p.2 ds) (e : r.ev cfg x it = some (d, x')) (h : itsD d = some ds) : stepS r cfg x st = forX (r.ex cfg) cfg t b x' ds := by
  rw [hs]
  exact bs e (bs h rfl)
theorem wh164 (m : Nat) (cfg : Cfg) (x : X) : stepS (rc m) cfg x du11 = (rc m).wh cfg x duT duW := by kernel_rfl
noncomputable def inL (f : List Nat) : D := .lst (f.map fun (i : Nat) => D.int (i : Int))
structure DInv (σ : AEnv) (keys rows : D) (node : Nat) (f : List Nat) (pp : Nat) : Prop where
  a : σ.lookup (Str.ofString "keys") = some (.d keys)
  b : σ.lookup (Str.ofString "rows") = some (.d rows)
  c : σ.lookup (Str.ofString "node") = some (.d (.int (node : Int)))
  d : σ.lookup (Str.ofString "found") = some (.d (inL f))
  e : σ.lookup (Str.ofString "at") = some (.d (.int (pp : Int)))
/-- where the new one comes to stand -/
noncomputable def posn (ah : Nat → Bool) (f : List Nat) : Nat → Nat
  | 0 => 0
  | k + 1 => if ah (f.getD k 0) then posn ah f k else k + 1
section
variable {H : Hd} {n : Nat} {G : GS} {σ : AEnv} {keys rows : D} {node a k : Nat} {f : List Nat} {b : Bool}
theorem inL_sub (h : k < f.length) (hf : f.length ≤ 1000000) : subD (inL f) (.int (k : Int)) = some (.int ((f.getD k 0 : Nat) : Int)) := by
  unfold inL
  refine sub_lst ?_ (by simpa using hf)
  simp [List.getElem?_map, List.getElem?_eq_getElem h, List.getD_eq_getElem?_getD]
theorem du_test0 (I : DInv σ keys rows node f 0) : (rc (n + 20)).tr (cfgB H (namesAt 164) false) (σ, G) duT = some (false, (σ, G)) := by
  obtain ⟨ha, hb, hc, hd, he⟩ := I
  have c1 : cmpB .Gt (.int ((0 : Nat) : Int)) (.int 0) = some false := rfl
  conv in duT => whnf
  apply t_andF
  (repeat' first | ((fail_if_success (with_reducible apply Mine.lk_probe)); with_reducible assumption) | ((with_reducible show Mine.Cfg.H _ _ _ _ = _); (show H _ _ _ = _); with_reducible assumption) | walk_at "com")
theorem du_test1 (I : DInv σ keys rows node f (k + 1)) (hf : f.length ≤ 1000) (h : k < f.length) (hh : H (.sta (.ref 1139)) [keys, rows, .int (node : Int), .int ((f.getD k 0 : Nat) : Int)] G = some (.bool b, G)) :
    (rc (n + 20)).tr (cfgB H (namesAt 164) false) (σ, G) duT = some (b, (σ, G)) := by
  obtain ⟨ha, hb, hc, hd, he⟩ := I
  have s1 := inL_sub h (by omega)
  have e1 : ((k + 1 : Nat) : Int) - 1 = (k : Int) := by omega
  have e2 : decide ((0 : Int) < ((k + 1 : Nat) : Int)) = true := decide_eq_true (by omega)
  have c1 : cmpB .Gt (.int ((k + 1 : Nat) : Int)) (.int 0) = some true := c_gti.trans (congrArg some e2)
  have b1 : binD .Sub (.int ((k + 1 : Nat) : Int)) (.int 1) = some (.int (k : Int)) := b_sub.trans (by rw [e1])
  have m1 : mrefD (inL f) = .none := rfl
  have tb : truD (.bool b) = some b := rfl
  conv in duT => whnf
  apply t_and (x1 := (σ, G))
  · (repeat' first | ((fail_if_success (with_reducible apply Mine.lk_probe)); with_reducible assumption) | ((with_reducible show Mine.Cfg.H _ _ _ _ = _); (show H _ _ _ = _); with_reducible assumption) | walk_at "com")
  · (repeat' first | ((fail_if_success (with_reducible apply Mine.lk_probe)); with_reducible assumption) | ((with_reducible show Mine.Cfg.H _ _ _ _ = _); (show H _ _ _ = _); with_reducible assumption) | walk_at "com")
theorem du_body (I : DInv σ keys rows node f (k + 1)) : ∃ σ', (rc (n + 20)).ex (cfgB H (namesAt 164) false) (σ, G) duW = some (.next, (σ', G)) ∧ DInv σ' keys rows node f k := by
  obtain ⟨ha, hb, hc, hd, he⟩ := I
  have e1 : ((k + 1 : Nat) : Int) - 1 = (k : Int) := by omega
  have b1 : binD .Sub (.int ((k + 1 : Nat) : Int)) (.int 1) = some (.int (k : Int)) := b_sub.trans (by rw [e1])
  conv in duW => whnf
  apply Exists.intro
  apply And.intro
  · (repeat' first | ((fail_if_success (with_reducible apply Mine.lk_probe)); with_reducible assumption) | ((with_reducible show Mine.Cfg.H _ _ _ _ = _); (show H _ _ _ = _); with_reducible assumption) | walk_at "com")
  · constructor <;> (walk_at "LK")
theorem du_while {ah : Nat → Bool} (hf : f.length ≤ 1000) (hh : ∀ i ∈ f, H (.sta (.ref 1139)) [keys, rows, .int (node : Int), .int (i : Int)] G = some (.bool (ah i), G)) : ∀ (a : Nat) {n : Nat} {σ : AEnv}, a ≤ f.length → DInv σ keys rows node f a →
    ∃ σ', (rc (n + a + 21)).wh (cfgB H (namesAt 164) false) (σ, G) duT duW = some (.next, (σ', G)) ∧ DInv σ' keys rows node f (posn ah f a) := by
  intro a
  induction a with
  | zero =>
    intro n σ _ I
    refine ⟨σ, ?_, I⟩
    exact wh_stop (du_test0 I)
  | succ k ih =>
    intro n σ hk I
    have lt : k < f.length := by omega
    have hg : f.getD k 0 ∈ f := by simp [List.getD_eq_getElem?_getD, lt]
    have e := du_test1 (n := n + (k + 1)) I hf lt (hh _ hg)
    rw [posn]
    cases hb : ah (f.getD k 0) with
    | true =>
      rw [hb] at e
      obtain ⟨σ1, e1, I1⟩ := du_body (H := H) (G := G) (n := n + (k + 1)) I
      obtain ⟨σ2, e2, I2⟩ := ih (n := n) (σ := σ1) (by omega) I1
      refine ⟨σ2, ?_, by simpa using I2⟩
      refine Eq.trans ?_ e2
      exact wh_next (m := n + (k + 1) + 20) e e1
    | false =>
      rw [hb] at e
      refine ⟨σ, ?_, by simpa using I⟩
      exact wh_stop (m := n + (k + 1) + 20) e

theorem du_at (ha : σ.lookup (Str.ofString "keys") = some (.d keys)) (hb : σ.lookup (Str.ofString "rows") = some (.d rows)) (hc : σ.lookup (Str.ofString "node") = some (.d (.int (node : Int)))) (hf : f.length ≤ 1000)
    (hd : σ.lookup (Str.ofString "found") = some (.d (inL f)) ∨ σ.lookup (Str.ofString "found") = some (.lst (f.map fun (i : Nat) => D.int (i : Int)))) :
    ∃ σ', stepS (rc (n + 20)) (cfgB H (namesAt 164) false) (σ, G) du10 = some (.next, (σ', G)) ∧ DInv σ' keys rows node f f.length := by
  have h1 : (f.map fun (i : Nat) => D.int (i : Int)).length ≤ 1000000 := by rw [List.length_map]; omega
  have b1 : bltD (.builtin "len") [.lst (f.map fun (i : Nat) => D.int (i : Int))] = some (.int (f.length : Int)) := (len_lst h1).trans (by rw [List.length_map])
  unfold inL at hd
  conv in du10 => whnf
  rcases hd with hd | hd
  · apply Exists.intro
    apply And.intro
    · (repeat' first | ((fail_if_success (with_reducible apply Mine.lk_probe)); with_reducible assumption) | ((with_reducible show Mine.Cfg.H _ _ _ _ = _); (show H _ _ _ = _); with_reducible assumption) | walk_at "com")
    · constructor <;> first | (unfold inL; (walk_at "LK"); done) | (walk_at "LK")
  · apply Exists.intro
    apply And.intro
    · (repeat' first | ((fail_if_success (with_reducible apply Mine.lk_probe)); with_reducible assumption) | ((with_reducible show Mine.Cfg.H _ _ _ _ = _); (show H _ _ _ = _); with_reducible assumption) | walk_at "com")
    · constructor <;> first | (unfold inL; (walk_at "LK"); done) | (walk_at "LK")

noncomputable def insAt (f : List Nat) (node p : Nat) : List Nat := f.take p ++ [node] ++ f.drop p
theorem du_put (I : DInv σ keys rows node f a) (hf : f.length ≤ 1000) (h : a ≤ f.length) :
    stepS (rc (n + 20)) (cfgB H (namesAt 164) false) (σ, G) du12 = some (.next, (put σ (Str.ofString "found") (.d (inL (insAt f node a))), G)) := by
  obtain ⟨ha, hb, hc, hd, he⟩ := I
  unfold inL at hd ⊢
  have z1 := small_nat (k := a) (by omega)
  have z2 := cut_drop (l := f.map fun (i : Nat) => D.int (i : Int)) (k := a) (by simpa using h) (by simp; omega)
  have z3 := cut_take (l := f.map fun (i : Nat) => D.int (i : Int)) (k := a) (by simpa using h) (by simp; omega)
  have z4 : binD .Add (.lst ((f.map fun (i : Nat) => D.int (i : Int)).take a)) (.lst [D.int (node : Int)]) = some (.lst ((f.map fun (i : Nat) => D.int (i : Int)).take a ++ [D.int (node : Int)])) := add_lst (by simp; omega)
  have z5 : binD .Add (.lst ((f.map fun (i : Nat) => D.int (i : Int)).take a ++ [D.int (node : Int)])) (.lst ((f.map fun (i : Nat) => D.int (i : Int)).drop a)) = some (.lst (((f.map fun (i : Nat) => D.int (i : Int)).take a ++ [D.int (node : Int)]) ++ ((f.map fun (i : Nat) => D.int (i : Int)).drop a))) := add_lst (by simp; omega)
  have z6 : (insAt f node a).map (fun (i : Nat) => D.int (i : Int)) = ((f.map fun (i : Nat) => D.int (i : Int)).take a ++ [D.int (node : Int)]) ++ ((f.map fun (i : Nat) => D.int (i : Int)).drop a) := by
    simp [insAt, List.map_take, List.map_drop]
  rw [z6]
  conv in du12 => whnf
  (repeat' first | ((fail_if_success (with_reducible apply Mine.lk_probe)); with_reducible assumption) | ((with_reducible show Mine.Cfg.H _ _ _ _ = _); (show H _ _ _ = _); with_reducible assumption) | walk_at "com")

/-- the law's own order: one after the other put in its place -/
noncomputable def due (ah : Nat → Nat → Bool) : Nat → List Nat
  | 0 => []
  | m + 1 => insAt (due ah m) m (posn (ah m) (due ah m) (due ah m).length)
theorem posn_le (ah : Nat → Bool) (f : List Nat) : ∀ k, posn ah f k ≤ k
  | 0 => Nat.le_refl _
  | k + 1 => by
    rw [posn]
    split
    · exact Nat.le_succ_of_le (posn_le ah f k)
    · exact Nat.le_refl _
theorem due_len (ah : Nat → Nat → Bool) : ∀ m, (due ah m).length = m
  | 0 => rfl
  | m + 1 => by
    have h := due_len ah m
    have hp := posn_le (ah m) (due ah m) (due ah m).length
    simp only [due, insAt, List.length_append, List.length_take, List.length_drop, List.length_cons, List.length_nil]
    omega
theorem due_lt (ah : Nat → Nat → Bool) : ∀ m, ∀ i ∈ due ah m, i < m
  | 0, i, h => by simp [due] at h
  | m + 1, i, h => by
    simp only [due, insAt, List.mem_append, List.mem_cons, List.not_mem_nil, or_false] at h
    rcases h with (h | h) | h
    · have := due_lt ah m i (List.mem_of_mem_take h); omega
    · omega
    · have := due_lt ah m i (List.mem_of_mem_drop h); omega

theorem du_loop {ah : Nat → Nat → Bool} {N : Nat} (hN : N ≤ 8) (hh : ∀ i j, i < N → j < N → H (.sta (.ref 1139)) [keys, rows, .int (i : Int), .int (j : Int)] G = some (.bool (ah i j), G)) :
    ∀ (k p : Nat) {σ : AEnv}, p + k = N → σ.lookup (Str.ofString "keys") = some (.d keys) → σ.lookup (Str.ofString "rows") = some (.d rows) →
      (σ.lookup (Str.ofString "found") = some (.d (inL (due ah p))) ∨ σ.lookup (Str.ofString "found") = some (.lst ((due ah p).map fun (i : Nat) => D.int (i : Int)))) →
      ∃ σ', forX ((rc 99).ex (cfgB H (namesAt 164) false)) (cfgB H (namesAt 164) false) duV duB (σ, G) ((List.range' p k).map fun (p : Nat) => D.int (p : Int)) = some (.next, (σ', G)) ∧
        (σ'.lookup (Str.ofString "found") = some (.d (inL (due ah N))) ∨ σ'.lookup (Str.ofString "found") = some (.lst ((due ah N).map fun (i : Nat) => D.int (i : Int)))) := by
  intro k
  induction k with
  | zero =>
    intro p σ hp _ _ hd
    have : p = N := by omega
    subst this
    exact ⟨σ, rfl, hd⟩
  | succ k ih =>
    intro p σ hp ha hb hd
    have hl := due_len ah p
    obtain ⟨σ1, e1, I1⟩ := du_at (H := H) (G := G) (n := 78) (σ := put σ (Str.ofString "node") (.d (.int (p : Int)))) (keys := keys) (rows := rows) (node := p) (f := due ah p)
      (lk_ne rfl ha) (lk_ne rfl hb) lk_same (by omega) (hd.imp (lk_ne rfl) (lk_ne rfl))
    obtain ⟨σ2, e2, I2⟩ := du_while (H := H) (G := G) (f := due ah p) (node := p) (keys := keys) (rows := rows) (ah := ah p) (by omega) (fun i hi => hh p i (by omega) (by have := due_lt ah p i hi; omega)) (due ah p).length (n := 77 - (due ah p).length) (σ := σ1) (Nat.le_refl _) I1
    have hpos := posn_le (ah p) (due ah p) (due ah p).length
    have e3 := du_put (H := H) (G := G) (n := 78) I2 (by omega) hpos
    have e98 : 77 - (due ah p).length + (due ah p).length + 21 = 98 := by omega
    rw [e98] at e2
    have hdue : insAt (due ah p) p (posn (ah p) (due ah p) (due ah p).length) = due ah (p + 1) := rfl
    rw [hdue] at e3
    obtain ⟨σ3, e4, r⟩ := ih (p + 1) (σ := put σ2 (Str.ofString "found") (.d (inL (due ah (p + 1))))) (by omega) (lk_ne rfl I2.a) (lk_ne rfl I2.b) (.inl lk_same)
    refine ⟨σ3, ?_, r⟩
    rw [List.range'_succ, List.map_cons]
    have eb : (rc 99).ex (cfgB H (namesAt 164) false) (put σ (Str.ofString "node") (.d (.int (p : Int))), G) duB = some (.next, (put σ2 (Str.ofString "found") (.d (inL (due ah (p + 1)))), G)) := by
      rw [bodyDu, rc_ex 98, exs_next e1, exs_next ((wh164 98 _ _).trans e2), exs_next e3]
      rfl
    exact f_cons (g_name (st_loc l164_node)) eb e4

theorem due_ok {ah : Nat → Nat → Bool} {ks rs : List D} (hN : rs.length ≤ 8) (hh : ∀ i j, i < rs.length → j < rs.length → H (.sta (.ref 1139)) [.lst ks, .lst rs, .int (i : Int), .int (j : Int)] G = some (.bool (ah i j), G)) :
    runB H 164 false [.lst ks, .lst rs] G = some (inL (due ah rs.length), G) := by
  rw [run_eq (σ := [(Str.ofString "keys", .d (.lst ks)), (Str.ofString "rows", .d (.lst rs))]) (by kernel_rfl)]
  rw [body164, rc_ex 99]
  have e0 : stepS (rc 99) (cfgB H (namesAt 164) false) ([(Str.ofString "keys", .d (.lst ks)), (Str.ofString "rows", .d (.lst rs))], G) du0 = some (.next, ([(Str.ofString "keys", .d (.lst ks)), (Str.ofString "rows", .d (.lst rs)), (Str.ofString "found", .lst [])], G)) := by
    conv in du0 => whnf
    exact s_asgL l164_found rfl e_nil
  rw [exs_next e0]
  obtain ⟨σ', e1, r⟩ := du_loop (H := H) (G := G) (keys := .lst ks) (rows := .lst rs) (ah := ah) hN hh rs.length 0 (σ := [(Str.ofString "keys", .d (.lst ks)), (Str.ofString "rows", .d (.lst rs)), (Str.ofString "found", .lst [])]) (by omega) (by kernel_rfl) (by kernel_rfl) (.inr (by kernel_rfl))
  rw [← List.range_eq_range'] at e1
  have hz : rs.length ≤ 1000000 := Nat.le_trans hN (by decide)
  have hs : small (rs.length : Int) = true := small_nat hz
  have e2 : (rc 99).ev (cfgB H (namesAt 164) false) ([(Str.ofString "keys", .d (.lst ks)), (Str.ofString "rows", .d (.lst rs)), (Str.ofString "found", .lst [])], G) duI = some (.rng 0 (rs.length : Int) 1, ([(Str.ofString "keys", .d (.lst ks)), (Str.ofString "rows", .d (.lst rs)), (Str.ofString "found", .lst [])], G)) := by
    have b1 := len_lst hz
    have b2 := rng_len hz
    conv in duI => whnf
    (repeat' first | ((fail_if_success (with_reducible apply Mine.lk_probe)); with_reducible assumption) | ((with_reducible show Mine.Cfg.H _ _ _ _ = _); (show H _ _ _ = _); with_reducible assumption) | walk_at "com")
  have e3 : stepS (rc 99) (cfgB H (namesAt 164) false) ([(Str.ofString "keys", .d (.lst ks)), (Str.ofString "rows", .d (.lst rs)), (Str.ofString "found", .lst [])], G) du1 = some (.next, (σ', G)) := by
    exact (for_run (for164 99 _ _) e2 (its_rng hN)).trans e1
  rw [exs_next e3]
  rcases r with r | r
  · have e4 : stepS (rc 99) (cfgB H (namesAt 164) false) (σ', G) du2 = some (.ret (inL (due ah rs.length)), (σ', G)) := by
      conv in du2 => whnf
      (repeat' first | ((fail_if_success (with_reducible apply Mine.lk_probe)); with_reducible assumption) | ((with_reducible show Mine.Cfg.H _ _ _ _ = _); (show H _ _ _ = _); with_reducible assumption) | walk_at "com")
    rw [exs_ret e4]
    rfl
  · have e4 : stepS (rc 99) (cfgB H (namesAt 164) false) (σ', G) du2 = some (.ret (inL (due ah rs.length)), (put σ' (Str.ofString "found") (.d (inL (due ah rs.length))), G)) := by
      unfold inL
      conv in du2 => whnf
      (repeat' first | ((fail_if_success (with_reducible apply Mine.lk_probe)); with_reducible assumption) | ((with_reducible show Mine.Cfg.H _ _ _ _ = _); (show H _ _ _ = _); with_reducible assumption) | walk_at "com")
    rw [exs_ret e4]
    rfl
end
end Mine
end

section
open PySem PySem.W PyProof.Rows PySem.Calls PySem.Spec PySem.SeqAt
set_option Elab.async false
set_option backward.match.sparseCases false
set_option maxRecDepth 100000
set_option maxHeartbeats 1000000
namespace Mine
noncomputable def sgnL (a b : List Nat) : Int := if a < b then -1 else if b < a then 1 else 0
noncomputable def sgnI (a b : Int) : Int := if a < b then -1 else if b < a then 1 else 0
noncomputable def cp (x : Str) : List Nat := x.cps.toList
noncomputable def cmpT (first : Option Bool) (x y : Str) : Int := match first with
  | .none => sgnL (cp x) (cp y)
  | some f => if sgnL (cp (Txt.lower x)) (cp (Txt.lower y)) ≠ 0 ∨ x = y then sgnL (cp (Txt.lower x)) (cp (Txt.lower y)) else if f then sgnL (cp x) (cp y) else sgnL (cp y) (cp x)
noncomputable def cmpN (a b c d : Int) : Int := if (a = 0 ∧ b = 0) ∨ (c = 0 ∧ d = 0) then sgnI (if a = 0 ∧ b = 0 then 0 else 1) (if c = 0 ∧ d = 0 then 0 else 1) else if b = 0 ∧ d = 0 then sgnI a c else sgnI (a * d) (c * b)
noncomputable def boolD : Option Bool → D
  | some b => .bool b
  | .none => .none
section
variable {H : Hd} {G : GS} {x y : Str} {i j : Int}
theorem c992 (P : Params) (k : Nat) (a b : D) (G : GS) : callH P (k + 1) (.sta (.ref 992)) [a, b] G = runB (callH P k) 142 false [a, b] G := call_run (by unfold runsL; repeat (first | exact .head _ | apply List.Mem.tail)) (by kernel_rfl)
theorem c1006 (P : Params) (k : Nat) (a b c : D) (G : GS) : callH P (k + 1) (.sta (.ref 1006)) [a, b, c] G = runB (callH P k) 145 false [a, b, c] G := call_run (by unfold runsL; repeat (first | exact .head _ | apply List.Mem.tail)) (by kernel_rfl)
theorem c999 (P : Params) (k : Nat) (a b : D) (G : GS) : callH P (k + 1) (.sta (.ref 999)) [a, b] G = runB (callH P k) 144 false [a, b] G := call_run (by unfold runsL; repeat (first | exact .head _ | apply List.Mem.tail)) (by kernel_rfl)
theorem c1013 (P : Params) (k : Nat) (a b c : D) (G : GS) : callH P (k + 1) (.sta (.ref 1013)) [a, b, c] G = runB (callH P k) 146 false [a, b, c] G := call_run (by unfold runsL; repeat (first | exact .head _ | apply List.Mem.tail)) (by kernel_rfl)
theorem sign_str : runB H 142 false [.str x, .str y] G = some (.int (sgnL (cp x) (cp y)), G) := by
  rw [run_eq (σ := [(Str.ofString "one", .d (.str x)), (Str.ofString "other", .d (.str y))]) (by kernel_rfl)]
  conv in bodyAt 142 => whnf
  by_cases h1 : x.cps.toList < y.cps.toList
  · have c1 : cmpB .Lt (.str x) (.str y) = some true := c_lts.trans (by rw [decide_eq_true h1])
    have e : sgnL (cp x) (cp y) = -1 := if_pos h1
    rw [e]
    apply out_run
    apply x_blk
    apply x_ret
    (repeat' first | ((fail_if_success (with_reducible apply Mine.lk_probe)); with_reducible assumption) | ((with_reducible show Mine.Cfg.H _ _ _ _ = _); (show H _ _ _ = _); with_reducible assumption) | with_reducible apply s_ifT | walk_at "com")
  · have c1 : cmpB .Lt (.str x) (.str y) = some false := c_lts.trans (by rw [decide_eq_false h1])
    by_cases h2 : y.cps.toList < x.cps.toList
    · have c2 : cmpB .Lt (.str y) (.str x) = some true := c_lts.trans (by rw [decide_eq_true h2])
      have e : sgnL (cp x) (cp y) = 1 := (if_neg h1).trans (if_pos h2)
      rw [e]
      apply out_run
      (repeat' first | ((fail_if_success (with_reducible apply Mine.lk_probe)); with_reducible assumption) | ((with_reducible show Mine.Cfg.H _ _ _ _ = _); (show H _ _ _ = _); with_reducible assumption) | with_reducible apply s_ifF | with_reducible apply w_ifT | walk_at "com")
    · have c2 : cmpB .Lt (.str y) (.str x) = some false := c_lts.trans (by rw [decide_eq_false h2])
      have e : sgnL (cp x) (cp y) = 0 := (if_neg h1).trans (if_neg h2)
      rw [e]
      apply out_run
      (repeat' first | ((fail_if_success (with_reducible apply Mine.lk_probe)); with_reducible assumption) | ((with_reducible show Mine.Cfg.H _ _ _ _ = _); (show H _ _ _ = _); with_reducible assumption) | with_reducible apply s_ifF | with_reducible apply w_ifF | walk_at "com")
theorem sign_int : runB H 142 false [.int i, .int j] G = some (.int (sgnI i j), G) := by
  rw [run_eq (σ := [(Str.ofString "one", .d (.int i)), (Str.ofString "other", .d (.int j))]) (by kernel_rfl)]
  conv in bodyAt 142 => whnf
  by_cases h1 : i < j
  · have c1 : cmpB .Lt (.int i) (.int j) = some true := c_lti.trans (by rw [decide_eq_true h1])
    have e : sgnI i j = -1 := if_pos h1
    rw [e]
    apply out_run
    apply x_blk
    apply x_ret
    (repeat' first | ((fail_if_success (with_reducible apply Mine.lk_probe)); with_reducible assumption) | ((with_reducible show Mine.Cfg.H _ _ _ _ = _); (show H _ _ _ = _); with_reducible assumption) | with_reducible apply s_ifT | walk_at "com")
  · have c1 : cmpB .Lt (.int i) (.int j) = some false := c_lti.trans (by rw [decide_eq_false h1])
    by_cases h2 : j < i
    · have c2 : cmpB .Lt (.int j) (.int i) = some true := c_lti.trans (by rw [decide_eq_true h2])
      have e : sgnI i j = 1 := (if_neg h1).trans (if_pos h2)
      rw [e]
      apply out_run
      (repeat' first | ((fail_if_success (with_reducible apply Mine.lk_probe)); with_reducible assumption) | ((with_reducible show Mine.Cfg.H _ _ _ _ = _); (show H _ _ _ = _); with_reducible assumption) | with_reducible apply s_ifF | with_reducible apply w_ifT | walk_at "com")
    · have c2 : cmpB .Lt (.int j) (.int i) = some false := c_lti.trans (by rw [decide_eq_false h2])
      have e : sgnI i j = 0 := (if_neg h1).trans (if_neg h2)
      rw [e]
      apply out_run
      (repeat' first | ((fail_if_success (with_reducible apply Mine.lk_probe)); with_reducible assumption) | ((with_reducible show Mine.Cfg.H _ _ _ _ = _); (show H _ _ _ = _); with_reducible assumption) | with_reducible apply s_ifF | with_reducible apply w_ifF | walk_at "com")
theorem eq_str (x y : Str) : eqD (.str x) (.str y) = some (x == y) := rfl
theorem low_ok (hx : x.length ≤ 1000) : mthD (.str x) (Str.ofString "lower") [] = some (.str (Txt.lower x)) := by
  have h1 : decide (x.length ≤ 5592405) = true := decide_eq_true (Nat.le_trans hx (by decide))
  refine cs (c := (Str.ofString "lower" == S "lower")) (a := (bif decide (x.length ≤ 5592405) then some (D.str (Txt.lower x)) else .none)) (b := (bif Str.ofString "lower" == S "islower" then some (D.bool (Txt.islower x)) else .none)) (beq_self_eq_true _) ?_
  rw [h1]
  rfl
theorem texts_ok {first : Option Bool} (hx : x.length ≤ 1000) (hy : y.length ≤ 1000) (hs : ∀ a b : Str, H (.sta (.ref 992)) [.str a, .str b] G = some (.int (sgnL (cp a) (cp b)), G)) :
    runB H 145 false [.str x, .str y, boolD first] G = some (.int (cmpT first x y), G) := by
  have l1 := low_ok hx
  have l2 := low_ok hy
  have s1 := hs x y
  have s2 := hs (Txt.lower x) (Txt.lower y)
  have s3 := hs y x
  cases first with
  | none =>
    rw [run_eq (σ := [(Str.ofString "one", .d (.str x)), (Str.ofString "other", .d (.str y)), (Str.ofString "upper_first", .d .none)]) (by kernel_rfl)]
    conv in bodyAt 145 => whnf
    show _ = some (D.int (sgnL (cp x) (cp y)), G)
    apply out_run
    apply x_blk
    apply x_ret
    (repeat' first | ((fail_if_success (with_reducible apply Mine.lk_probe)); with_reducible assumption) | ((with_reducible show Mine.Cfg.H _ _ _ _ = _); (show H _ _ _ = _); with_reducible assumption) | with_reducible apply s_ifT | walk_at "com")
  | some f =>
    rw [run_eq (σ := [(Str.ofString "one", .d (.str x)), (Str.ofString "other", .d (.str y)), (Str.ofString "upper_first", .d (.bool f))]) (by kernel_rfl)]
    conv in bodyAt 145 => whnf
    apply out_run
    apply x_blk
    apply x_next
    · (repeat' first | ((fail_if_success (with_reducible apply Mine.lk_probe)); with_reducible assumption) | ((with_reducible show Mine.Cfg.H _ _ _ _ = _); (show H _ _ _ = _); with_reducible assumption) | with_reducible apply s_ifF | walk_at "com")
    apply x_next
    · (repeat' first | ((fail_if_success (with_reducible apply Mine.lk_probe)); with_reducible assumption) | ((with_reducible show Mine.Cfg.H _ _ _ _ = _); (show H _ _ _ = _); with_reducible assumption) | walk_at "com")
    by_cases z : sgnL (cp (Txt.lower x)) (cp (Txt.lower y)) = 0
    · have c1 : cmpB .NotEq (.int (sgnL (cp (Txt.lower x)) (cp (Txt.lower y)))) (.int 0) = some false := c_nei.trans (by rw [z]; rfl)
      by_cases e : x = y
      · have c2 : cmpB .Eq (.str x) (.str y) = some true := c_eqs.trans (by rw [e, beq_self_eq_true])
        have r : cmpT (some f) x y = sgnL (cp (Txt.lower x)) (cp (Txt.lower y)) := if_pos (.inr e)
        rw [r]
        apply x_ret
        (repeat' first | ((fail_if_success (with_reducible apply Mine.lk_probe)); with_reducible assumption) | ((with_reducible show Mine.Cfg.H _ _ _ _ = _); (show H _ _ _ = _); with_reducible assumption) | with_reducible apply s_ifT | with_reducible apply t_or | walk_at "com")
      · have c2 : cmpB .Eq (.str x) (.str y) = some false := c_eqs.trans (by rw [beq_false_of_ne e])
        have r : cmpT (some f) x y = if f then sgnL (cp x) (cp y) else sgnL (cp y) (cp x) := if_neg (fun h => h.elim (fun h => h z) e)
        rw [r]
        apply x_next
        · (repeat' first | ((fail_if_success (with_reducible apply Mine.lk_probe)); with_reducible assumption) | ((with_reducible show Mine.Cfg.H _ _ _ _ = _); (show H _ _ _ = _); with_reducible assumption) | with_reducible apply s_ifF | with_reducible apply t_or | walk_at "com")
        cases f with
        | true =>
          show _ = some (Fl.ret (.int (sgnL (cp x) (cp y))), _)
          (repeat' first | ((fail_if_success (with_reducible apply Mine.lk_probe)); with_reducible assumption) | ((with_reducible show Mine.Cfg.H _ _ _ _ = _); (show H _ _ _ = _); with_reducible assumption) | with_reducible apply w_ifT | walk_at "com")
        | false =>
          show _ = some (Fl.ret (.int (sgnL (cp y) (cp x))), _)
          (repeat' first | ((fail_if_success (with_reducible apply Mine.lk_probe)); with_reducible assumption) | ((with_reducible show Mine.Cfg.H _ _ _ _ = _); (show H _ _ _ = _); with_reducible assumption) | with_reducible apply w_ifF | walk_at "com")
    · have c1 : cmpB .NotEq (.int (sgnL (cp (Txt.lower x)) (cp (Txt.lower y)))) (.int 0) = some true := ne0 z
      have r : cmpT (some f) x y = sgnL (cp (Txt.lower x)) (cp (Txt.lower y)) := if_pos (.inl z)
      rw [r]
      apply x_ret
      (repeat' first | ((fail_if_success (with_reducible apply Mine.lk_probe)); with_reducible assumption) | ((with_reducible show Mine.Cfg.H _ _ _ _ = _); (show H _ _ _ = _); with_reducible assumption) | with_reducible apply s_ifT | with_reducible apply t_orT | walk_at "com")
theorem eq_t2 (a b : Int) : eqD (.tup [.int a, .int b]) (.tup [.int 0, .int 0]) = some (decide (a = 0 ∧ b = 0)) := by
  show some ((a == 0) && ((b == 0) && true)) = _
  by_cases h1 : a = 0 <;> by_cases h2 : b = 0 <;> simp [h1, h2]
theorem nums_ok {a b c d : Int} (h1 : okMul a d = true) (h2 : okMul c b = true) (hs : ∀ i j : Int, H (.sta (.ref 992)) [.int i, .int j] G = some (.int (sgnI i j), G)) :
    runB H 144 false [.tup [.int a, .int b], .tup [.int c, .int d]] G = some (.int (cmpN a b c d), G) := by
  rw [run_eq (σ := [(Str.ofString "one", .d (.tup [.int a, .int b])), (Str.ofString "other", .d (.tup [.int c, .int d]))]) (by kernel_rfl)]
  conv in bodyAt 144 => whnf
  have s1 := hs (if (!decide (a = 0 ∧ b = 0)) = true then 1 else 0) (if (!decide (c = 0 ∧ d = 0)) = true then 1 else 0)
  have n1 := c_nelse (eq_t2 a b)
  have n2 := c_nelse (eq_t2 c d)
  have i1 : ∀ p : Prop, ∀ _ : Decidable p, (if (!decide p) = true then (1 : Int) else 0) = if p then 0 else 1 := fun p _ => by by_cases h : p <;> simp [h]
  by_cases e1 : a = 0 ∧ b = 0
  · have q1 : cmpB .Eq (.tup [.int a, .int b]) (.tup [.int 0, .int 0]) = some true := (eq_t2 a b).trans (by rw [decide_eq_true e1])
    have r : cmpN a b c d = sgnI (if (!decide (a = 0 ∧ b = 0)) = true then 1 else 0) (if (!decide (c = 0 ∧ d = 0)) = true then 1 else 0) := (if_pos (.inl e1)).trans (by rw [i1, i1])
    rw [r]
    apply out_run
    apply x_blk
    apply x_ret
    (repeat' first | ((fail_if_success (with_reducible apply Mine.lk_probe)); with_reducible assumption) | ((with_reducible show Mine.Cfg.H _ _ _ _ = _); (show H _ _ _ = _); with_reducible assumption) | with_reducible apply s_ifT | with_reducible apply t_orT | walk_at "com")
  · have q1 : cmpB .Eq (.tup [.int a, .int b]) (.tup [.int 0, .int 0]) = some false := (eq_t2 a b).trans (by rw [decide_eq_false e1])
    by_cases e2 : c = 0 ∧ d = 0
    · have q2 : cmpB .Eq (.tup [.int c, .int d]) (.tup [.int 0, .int 0]) = some true := (eq_t2 c d).trans (by rw [decide_eq_true e2])
      have r : cmpN a b c d = sgnI (if (!decide (a = 0 ∧ b = 0)) = true then 1 else 0) (if (!decide (c = 0 ∧ d = 0)) = true then 1 else 0) := (if_pos (.inr e2)).trans (by rw [i1, i1])
      rw [r]
      apply out_run
      apply x_blk
      apply x_ret
      (repeat' first | ((fail_if_success (with_reducible apply Mine.lk_probe)); with_reducible assumption) | ((with_reducible show Mine.Cfg.H _ _ _ _ = _); (show H _ _ _ = _); with_reducible assumption) | with_reducible apply s_ifT | with_reducible apply t_or | walk_at "com")
    · have q2 : cmpB .Eq (.tup [.int c, .int d]) (.tup [.int 0, .int 0]) = some false := (eq_t2 c d).trans (by rw [decide_eq_false e2])
      have hc : cmpN a b c d = if b = 0 ∧ d = 0 then sgnI a c else sgnI (a * d) (c * b) := if_neg (fun h => h.elim e1 e2)
      rw [hc]
      have m1 := b_mul h1
      have m2 := b_mul h2
      have s2 := hs a c
      have s3 := hs (a * d) (c * b)
      apply out_run
      apply x_blk
      apply x_next
      · (repeat' first | ((fail_if_success (with_reducible apply Mine.lk_probe)); with_reducible assumption) | ((with_reducible show Mine.Cfg.H _ _ _ _ = _); (show H _ _ _ = _); with_reducible assumption) | with_reducible apply s_ifF | with_reducible apply t_or | walk_at "com")
      by_cases e3 : b = 0
      · have b1 : cmpB .Eq (.int b) (.int 0) = some true := c_eqi.trans (by rw [e3]; rfl)
        by_cases e4 : d = 0
        · have b2 : cmpB .Eq (.int d) (.int 0) = some true := c_eqi.trans (by rw [e4]; rfl)
          rw [if_pos ⟨e3, e4⟩]
          apply x_ret
          (repeat' first | ((fail_if_success (with_reducible apply Mine.lk_probe)); with_reducible assumption) | ((with_reducible show Mine.Cfg.H _ _ _ _ = _); (show H _ _ _ = _); with_reducible assumption) | with_reducible apply s_ifT | with_reducible apply t_and | walk_at "com")
        · have b2 : cmpB .Eq (.int d) (.int 0) = some false := c_eqi.trans (by rw [beq_false_of_ne e4])
          rw [if_neg (fun h => e4 h.2)]
          apply x_next
          · (repeat' first | ((fail_if_success (with_reducible apply Mine.lk_probe)); with_reducible assumption) | ((with_reducible show Mine.Cfg.H _ _ _ _ = _); (show H _ _ _ = _); with_reducible assumption) | with_reducible apply s_ifF | with_reducible apply t_and | walk_at "com")
          (repeat' first | ((fail_if_success (with_reducible apply Mine.lk_probe)); with_reducible assumption) | ((with_reducible show Mine.Cfg.H _ _ _ _ = _); (show H _ _ _ = _); with_reducible assumption) | walk_at "com")
      · have b1 : cmpB .Eq (.int b) (.int 0) = some false := c_eqi.trans (by rw [beq_false_of_ne e3])
        rw [if_neg (fun h => e3 h.1)]
        apply x_next
        · (repeat' first | ((fail_if_success (with_reducible apply Mine.lk_probe)); with_reducible assumption) | ((with_reducible show Mine.Cfg.H _ _ _ _ = _); (show H _ _ _ = _); with_reducible assumption) | with_reducible apply s_ifF | with_reducible apply t_andF | walk_at "com")
        (repeat' first | ((fail_if_success (with_reducible apply Mine.lk_probe)); with_reducible assumption) | ((with_reducible show Mine.Cfg.H _ _ _ _ = _); (show H _ _ _ = _); with_reducible assumption) | walk_at "com")
theorem cmpd_ok {num down : Bool} {first : Option Bool} {a b : D} {s : Int} (h1 : num = true → H (.sta (.ref 999)) [a, b] G = some (.int s, G)) (h2 : num = false → H (.sta (.ref 1006)) [a, b, boolD first] G = some (.int s, G)) :
    runB H 146 false [.obj 981 [(Mine.S "is_number", .bool num), (Mine.S "is_descending", .bool down), (Mine.S "upper_first", boolD first)], a, b] G = some (.int (if down then -s else s), G) := by
  rw [run_eq (σ := [(Str.ofString "order", .d (.obj 981 [(Mine.S "is_number", .bool num), (Mine.S "is_descending", .bool down), (Mine.S "upper_first", boolD first)])), (Str.ofString "one", .d a), (Str.ofString "other", .d b)]) (by kernel_rfl)]
  conv in bodyAt 146 => whnf
  have a1 : attrD (cfgB H (namesAt 146) false) (.obj 981 [(Mine.S "is_number", .bool num), (Mine.S "is_descending", .bool down), (Mine.S "upper_first", boolD first)]) (Str.ofString "is_number") = some (.bool num) := by kernel_rfl
  have a2 : attrD (cfgB H (namesAt 146) false) (.obj 981 [(Mine.S "is_number", .bool num), (Mine.S "is_descending", .bool down), (Mine.S "upper_first", boolD first)]) (Str.ofString "is_descending") = some (.bool down) := by kernel_rfl
  have a3 : attrD (cfgB H (namesAt 146) false) (.obj 981 [(Mine.S "is_number", .bool num), (Mine.S "is_descending", .bool down), (Mine.S "upper_first", boolD first)]) (Str.ofString "upper_first") = some (boolD first) := by cases first <;> kernel_rfl
  have tn : truD (.bool num) = some num := rfl
  have td : truD (.bool down) = some down := rfl
  generalize (D.obj 981 [(Mine.S "is_number", .bool num), (Mine.S "is_descending", .bool down), (Mine.S "upper_first", boolD first)]) = ob at a1 a2 a3 ⊢
  apply out_run
  apply x_blk
  cases num with
  | true =>
    have h1 := h1 rfl
    apply x_next
    · (repeat' first | ((fail_if_success (with_reducible apply Mine.lk_probe)); with_reducible assumption) | ((with_reducible show Mine.Cfg.H _ _ _ _ = _); (show H _ _ _ = _); with_reducible assumption) | with_reducible apply s_ifT | walk_at "com")
    cases down with
    | true =>
      show _ = some (Fl.ret (.int (-s)), _)
      (repeat' first | ((fail_if_success (with_reducible apply Mine.lk_probe)); with_reducible assumption) | ((with_reducible show Mine.Cfg.H _ _ _ _ = _); (show H _ _ _ = _); with_reducible assumption) | with_reducible apply w_ifT | walk_at "com")
    | false =>
      show _ = some (Fl.ret (.int s), _)
      (repeat' first | ((fail_if_success (with_reducible apply Mine.lk_probe)); with_reducible assumption) | ((with_reducible show Mine.Cfg.H _ _ _ _ = _); (show H _ _ _ = _); with_reducible assumption) | with_reducible apply w_ifF | walk_at "com")
  | false =>
    have h2 := h2 rfl
    apply x_next
    · (repeat' first | ((fail_if_success (with_reducible apply Mine.lk_probe)); with_reducible assumption) | ((with_reducible show Mine.Cfg.H _ _ _ _ = _); (show H _ _ _ = _); with_reducible assumption) | with_reducible apply s_ifF | walk_at "com")
    cases down with
    | true =>
      show _ = some (Fl.ret (.int (-s)), _)
      (repeat' first | ((fail_if_success (with_reducible apply Mine.lk_probe)); with_reducible assumption) | ((with_reducible show Mine.Cfg.H _ _ _ _ = _); (show H _ _ _ = _); with_reducible assumption) | with_reducible apply w_ifT | walk_at "com")
    | false =>
      show _ = some (Fl.ret (.int s), _)
      (repeat' first | ((fail_if_success (with_reducible apply Mine.lk_probe)); with_reducible assumption) | ((with_reducible show Mine.Cfg.H _ _ _ _ = _); (show H _ _ _ = _); with_reducible assumption) | with_reducible apply w_ifF | walk_at "com")
end
end Mine
end

section
open PySem PySem.W PyProof.Rows PySem.Calls PySem.Spec PySem.SeqAt
set_option Elab.async false
set_option backward.match.sparseCases false
set_option maxRecDepth 100000
namespace Mine
noncomputable def strL : List (List Nat) := [[], [97], [65], [97, 98], [97, 66], [66], [49, 48], [57], [32, 50, 32], [45, 51], [49, 46, 53], [49], [48, 46, 53], [45, 51, 46, 53], [78, 97, 78], [73, 110, 102, 105, 110, 105, 116, 121], [45, 73, 110, 102, 105, 110, 105, 116, 121], [116, 114, 117, 101], [102, 97, 108, 115, 101]]
noncomputable def lowL : List (List Nat) := [[], [97], [97], [97, 98], [97, 98], [98], [49, 48], [57], [32, 50, 32], [45, 51], [49, 46, 53], [49], [48, 46, 53], [45, 51, 46, 53], [110, 97, 110], [105, 110, 102, 105, 110, 105, 116, 121], [45, 105, 110, 102, 105, 110, 105, 116, 121], [116, 114, 117, 101], [102, 97, 108, 115, 101]]
noncomputable def wordAt (i : Nat) : Str := ⟨(strL.getD i []).toArray⟩
noncomputable def numL : List (Option Int) := [none, none, none, none, none, none, some 20, some 18, some 4, some (-6), some 3, some 2, some 1, some (-7), none, some 1000000000, some (-1000000000), some 2, some 0]
noncomputable def ratL : List (Int × Int) := [(0, 0), (0, 0), (0, 0), (0, 0), (0, 0), (0, 0), (10, 1), (9, 1), (2, 1), (-3, 1), (3, 2), (1, 1), (1, 2), (-7, 2), (0, 0), (1, 0), (-1, 0), (1, 1), (0, 1)]
noncomputable def rkN : List Nat := [0, 0, 0, 0, 0, 0, 10, 9, 8, 3, 7, 6, 5, 2, 0, 11, 1, 6, 4]
noncomputable def rkM : List Nat := [0, 0, 0, 0, 0, 0, 2, 3, 4, 9, 5, 6, 7, 10, 0, 1, 11, 6, 8]
noncomputable def rkT : List Nat := [0, 14, 10, 16, 15, 11, 8, 9, 1, 2, 7, 6, 5, 3, 13, 12, 4, 18, 17]
noncomputable def rkU : List Nat := [0, 11, 10, 13, 12, 14, 8, 9, 1, 2, 7, 6, 5, 3, 17, 16, 4, 18, 15]
noncomputable def rkL : List Nat := [0, 10, 11, 12, 13, 14, 8, 9, 1, 2, 7, 6, 5, 3, 17, 16, 4, 18, 15]

noncomputable def rat (turned : Bool) (i : Nat) : Int × Int := (if turned then -(ratL.getD i (0, 0)).1 else (ratL.getD i (0, 0)).1, (ratL.getD i (0, 0)).2)
/-- the words are values, but the last eight -/
noncomputable def rawD (i : Nat) : D := if i < 11 then .str (wordAt i) else if i < 17 then .tup [.int (ratL.getD i (0, 0)).1, .int (ratL.getD i (0, 0)).2] else .bool (i == 17)
noncomputable def optD : Option Int → D
  | some n => .int n
  | .none => .none
noncomputable def menuAt (i : Nat) : D := .tup [rawD i, .str (wordAt i), optD (numL.getD i none)]
noncomputable def menuD : List D := (List.range 19).map menuAt
structure Key where
  m : Bool
  num : Bool
  down : Bool
  turned : Bool
  first : Option Bool
noncomputable def Key.ok (κ : Key) : Prop := if κ.num then κ.first = .none else κ.turned = false
noncomputable def nameS (m : Bool) : Str := if m then S "m" else S "k"
noncomputable def keyD (κ : Key) : D := .dic [(S "name", .str (nameS κ.m)), (S "number", .bool κ.num), (S "down", .bool κ.down), (S "turned", .bool κ.turned), (S "first", boolD κ.first)]
noncomputable def varD (m : Bool) : D := .obj 759 [(S "name", .str (nameS m))]
noncomputable def exprD (m turned : Bool) : D := if turned then .obj 815 [(S "op", .str (S "*")), (S "left", varD m), (S "right", .obj 731 [(S "value", .tup [.int (-1), .int 1])])] else varD m
noncomputable def writtenD (κ : Key) : D := .tup [exprD κ.m κ.turned, .bool κ.num, .bool κ.down, boolD κ.first]
noncomputable def orderD (κ : Key) : D := .obj 981 [(S "is_number", .bool κ.num), (S "is_descending", .bool κ.down), (S "upper_first", boolD κ.first)]
/-- a node's value by a key -/
noncomputable def valD (num turned : Bool) (i : Nat) : D := if num then .tup [.int (rat turned i).1, .int (rat turned i).2] else .str (wordAt i)
noncomputable def ctxD (nd : D) (p n : Int) (a b : D) : D := .obj 1083 [(S "tree", .none), (S "node", nd), (S "position", .int p), (S "size", .int n), (S "variables", .dic [(S "k", a), (S "m", b)]), (S "names", .dic []), (S "calls", .dic []), (S "current", nd), (S "ids", .dic [])]
/-- what the law itself looks at -/
noncomputable def lkD (num turned : Bool) (first : Option Bool) (i : Nat) : List D := if num then (match numL.getD i none with
    | .none => [.int 0, .int 0]
    | some n => [.int 1, .int (if turned then 0 - n else n)])
  else match first with
    | .none => [.str (wordAt i)]
    | some f => [.str ⟨(lowL.getD i []).toArray⟩, .lst ((strL.getD i []).map fun c => .int (if (decide (97 ≤ c) && decide (c ≤ 122)) == f then 1 else 0))]
noncomputable def rkOf (num turned : Bool) (first : Option Bool) : List Nat := if num then (if turned then rkM else rkN) else match first with
  | .none => rkT
  | some true => rkU
  | some false => rkL
noncomputable def rk (κ : Key) (i : Nat) : Nat := (rkOf κ.num κ.turned κ.first).getD i 0
noncomputable def pairs19 : List (Nat × Nat) := (List.range 19).flatMap fun i => (List.range 19).map fun j => (i, j)
theorem pairs_mem {i j : Nat} (hi : i < 19) (hj : j < 19) : (i, j) ∈ pairs19 := List.mem_flatMap.mpr ⟨i, List.mem_range.mpr hi, List.mem_map.mpr ⟨j, List.mem_range.mpr hj, rfl⟩⟩

theorem menu_ok (P : Params) (k : Nat) (G : GS) : callH P (k + 1) (.sta (.ref 1113)) [] G = some (.lst menuD, G) := by kernel_rfl
theorem lt19 {i : Nat} (h : i < 19) : i = 0 ∨ i = 1 ∨ i = 2 ∨ i = 3 ∨ i = 4 ∨ i = 5 ∨ i = 6 ∨ i = 7 ∨ i = 8 ∨ i = 9 ∨ i = 10 ∨ i = 11 ∨ i = 12 ∨ i = 13 ∨ i = 14 ∨ i = 15 ∨ i = 16 ∨ i = 17 ∨ i = 18 := by
  have z : ∀ j, j < 19 → (j = 0 ∨ j = 1 ∨ j = 2 ∨ j = 3 ∨ j = 4 ∨ j = 5 ∨ j = 6 ∨ j = 7 ∨ j = 8 ∨ j = 9 ∨ j = 10 ∨ j = 11 ∨ j = 12 ∨ j = 13 ∨ j = 14 ∨ j = 15 ∨ j = 16 ∨ j = 17 ∨ j = 18) := by decide
  exact z i h
-- a node's value
section
variable (P : Params) (nd o : D) (p n : Int) (G : GS)
theorem kv_fff (i : Nat) (h : i < 19) : callH P 12 (.sta (.ref 1039)) [exprD false false, .bool false, ctxD nd p n (rawD i) o] G = some (valD false false i, G) := by
  rcases lt19 h with rfl | rfl | rfl | rfl | rfl | rfl | rfl | rfl | rfl | rfl | rfl | rfl | rfl | rfl | rfl | rfl | rfl | rfl | rfl <;> kernel_rfl
theorem kv_ftf (i : Nat) (h : i < 19) : callH P 12 (.sta (.ref 1039)) [exprD false false, .bool true, ctxD nd p n (rawD i) o] G = some (valD true false i, G) := by
  rcases lt19 h with rfl | rfl | rfl | rfl | rfl | rfl | rfl | rfl | rfl | rfl | rfl | rfl | rfl | rfl | rfl | rfl | rfl | rfl | rfl <;> kernel_rfl
theorem kv_ftt (i : Nat) (h : i < 19) : callH P 12 (.sta (.ref 1039)) [exprD false true, .bool true, ctxD nd p n (rawD i) o] G = some (valD true true i, G) := by
  rcases lt19 h with rfl | rfl | rfl | rfl | rfl | rfl | rfl | rfl | rfl | rfl | rfl | rfl | rfl | rfl | rfl | rfl | rfl | rfl | rfl <;> kernel_rfl
theorem kv_tff (i : Nat) (h : i < 19) : callH P 12 (.sta (.ref 1039)) [exprD true false, .bool false, ctxD nd p n o (rawD i)] G = some (valD false false i, G) := by
  rcases lt19 h with rfl | rfl | rfl | rfl | rfl | rfl | rfl | rfl | rfl | rfl | rfl | rfl | rfl | rfl | rfl | rfl | rfl | rfl | rfl <;> kernel_rfl
theorem kv_ttf (i : Nat) (h : i < 19) : callH P 12 (.sta (.ref 1039)) [exprD true false, .bool true, ctxD nd p n o (rawD i)] G = some (valD true false i, G) := by
  rcases lt19 h with rfl | rfl | rfl | rfl | rfl | rfl | rfl | rfl | rfl | rfl | rfl | rfl | rfl | rfl | rfl | rfl | rfl | rfl | rfl <;> kernel_rfl
theorem kv_ttt (i : Nat) (h : i < 19) : callH P 12 (.sta (.ref 1039)) [exprD true true, .bool true, ctxD nd p n o (rawD i)] G = some (valD true true i, G) := by
  rcases lt19 h with rfl | rfl | rfl | rfl | rfl | rfl | rfl | rfl | rfl | rfl | rfl | rfl | rfl | rfl | rfl | rfl | rfl | rfl | rfl <;> kernel_rfl
theorem kl_tfn (k : Nat) (m down : Bool) (i : Nat) (h : i < 19) : callH P (k + 1) (.sta (.ref 1118)) [menuAt i, keyD ⟨m, true, down, false, .none⟩] G = some (.tup (lkD true false .none i), G) := by
  rcases lt19 h with rfl | rfl | rfl | rfl | rfl | rfl | rfl | rfl | rfl | rfl | rfl | rfl | rfl | rfl | rfl | rfl | rfl | rfl | rfl <;> kernel_rfl
theorem kl_ttn (k : Nat) (m down : Bool) (i : Nat) (h : i < 19) : callH P (k + 1) (.sta (.ref 1118)) [menuAt i, keyD ⟨m, true, down, true, .none⟩] G = some (.tup (lkD true true .none i), G) := by
  rcases lt19 h with rfl | rfl | rfl | rfl | rfl | rfl | rfl | rfl | rfl | rfl | rfl | rfl | rfl | rfl | rfl | rfl | rfl | rfl | rfl <;> kernel_rfl
theorem kl_ffn (k : Nat) (m down : Bool) (i : Nat) (h : i < 19) : callH P (k + 1) (.sta (.ref 1118)) [menuAt i, keyD ⟨m, false, down, false, .none⟩] G = some (.tup (lkD false false .none i), G) := by
  rcases lt19 h with rfl | rfl | rfl | rfl | rfl | rfl | rfl | rfl | rfl | rfl | rfl | rfl | rfl | rfl | rfl | rfl | rfl | rfl | rfl <;> kernel_rfl
theorem kl_fft (k : Nat) (m down : Bool) (i : Nat) (h : i < 19) : callH P (k + 1) (.sta (.ref 1118)) [menuAt i, keyD ⟨m, false, down, false, (some true)⟩] G = some (.tup (lkD false false (some true) i), G) := by
  rcases lt19 h with rfl | rfl | rfl | rfl | rfl | rfl | rfl | rfl | rfl | rfl | rfl | rfl | rfl | rfl | rfl | rfl | rfl | rfl | rfl <;> kernel_rfl
theorem kl_fff (k : Nat) (m down : Bool) (i : Nat) (h : i < 19) : callH P (k + 1) (.sta (.ref 1118)) [menuAt i, keyD ⟨m, false, down, false, (some false)⟩] G = some (.tup (lkD false false (some false) i), G) := by
  rcases lt19 h with rfl | rfl | rfl | rfl | rfl | rfl | rfl | rfl | rfl | rfl | rfl | rfl | rfl | rfl | rfl | rfl | rfl | rfl | rfl <;> kernel_rfl
end
theorem kw_all (P : Params) (k : Nat) (G : GS) (κ : Key) (h : κ.ok) : callH P (k + 3) (.sta (.ref 1132)) [keyD κ] G = some (writtenD κ, G) := by
  obtain ⟨m, num, down, turned, first⟩ := κ
  cases num
  · cases (show turned = false from h)
    rcases first with _ | (_ | _) <;> kernel_rfl
  · cases (show first = .none from h)
    cases turned <;> kernel_rfl
theorem ko_all (P : Params) (k : Nat) (G : GS) (κ : Key) : callH P (k + 2) (.sta (.ref 981)) [.bool κ.num, .bool κ.down, boolD κ.first] G = some (orderD κ, G) := by kernel_rfl
end Mine
end

section
set_option Elab.async false
set_option backward.match.sparseCases false
namespace Mine
section
variable (f1 f2 : Nat → Int)
/-- the order that both sorts bring about -/
noncomputable def ltP (i j : Nat) : Prop := f1 i < f1 j ∨ (f1 i = f1 j ∧ (f2 i < f2 j ∨ (f2 i = f2 j ∧ i < j)))
noncomputable def ahB (i j : Nat) : Bool := decide (f1 i < f1 j ∨ (f1 i = f1 j ∧ f2 i < f2 j))
noncomputable def leB (i j : Nat) : Bool := !ahB f1 f2 j i
variable {f1 f2 : Nat → Int}
theorem ltP.trans {i j k : Nat} (h : ltP f1 f2 i j) (h' : ltP f1 f2 j k) : ltP f1 f2 i k :=
  h.elim (fun a => .inl (h'.elim (Int.lt_trans a) fun b => b.1 ▸ a)) fun a => h'.elim (fun b => .inl (a.1 ▸ b)) fun b => .inr ⟨a.1.trans b.1,
    a.2.elim (fun p => .inl (b.2.elim (Int.lt_trans p) fun q => q.1 ▸ p)) fun p => b.2.elim (fun q => .inl (p.1 ▸ q)) fun q => .inr ⟨p.1.trans q.1, Nat.lt_trans p.2 q.2⟩⟩
theorem ltP.irr {i : Nat} (h : ltP f1 f2 i i) : False := h.elim (Int.lt_irrefl _) fun a => a.2.elim (Int.lt_irrefl _) fun b => Nat.lt_irrefl _ b.2
theorem ltP.asymm {i j : Nat} (h : ltP f1 f2 i j) (h' : ltP f1 f2 j i) : i = j := (h.trans h').irr.elim
theorem ah_lt {i j : Nat} (h : ahB f1 f2 i j = true) : ltP f1 f2 i j := by
  exact (of_decide_eq_true h).elim .inl fun a => .inr ⟨a.1, .inl a.2⟩
theorem ah_no {i j : Nat} (h : ahB f1 f2 i j = false) (l : j < i) : ltP f1 f2 j i := by
  have h := of_decide_eq_false h
  exact (Int.lt_or_eq_of_le (Int.not_lt.mp fun k => h (.inl k))).elim .inl fun e => .inr ⟨e, (Int.lt_or_eq_of_le (Int.not_lt.mp fun k => h (.inr ⟨e.symm, k⟩))).elim .inl fun e' => .inr ⟨e', l⟩⟩
theorem le_yes {i j : Nat} (h : leB f1 f2 i j = true) (l : i < j) : ltP f1 f2 i j := by
  unfold leB at h
  exact ah_no (by simpa using h) l
theorem le_no {i j : Nat} (h : leB f1 f2 i j = false) : ltP f1 f2 j i := by
  unfold leB at h
  exact ah_lt (by simpa using h)

theorem posn_spec (ah : Nat → Bool) (f : List Nat) : ∀ k, k ≤ f.length → (∀ i, posn ah f k ≤ i → i < k → ah (f.getD i 0) = true) ∧ (posn ah f k = 0 ∨ ∃ q, posn ah f k = q + 1 ∧ ah (f.getD q 0) = false)
  | 0, _ => ⟨fun i _ h => by omega, .inl rfl⟩
  | k + 1, hk => by
    rw [posn]
    cases h : ah (f.getD k 0) with
    | true =>
      obtain ⟨h1, h2⟩ := posn_spec ah f k (by omega)
      simp only [if_true]
      refine ⟨fun i h3 h4 => ?_, h2⟩
      by_cases z : i = k
      · subst z; exact h
      · exact h1 i h3 (by omega)
    | false =>
      simp only [Bool.false_eq_true, if_false]
      exact ⟨fun i h3 h4 => by omega, .inr ⟨k, rfl, h⟩⟩

theorem due_sorted : ∀ m, (due (ahB f1 f2) m).Pairwise (ltP f1 f2) ∧ (due (ahB f1 f2) m).Perm (List.range m)
  | 0 => ⟨.nil, .refl _⟩
  | m + 1 => by
    obtain ⟨h1, h2⟩ := due_sorted m
    have hl := due_lt (ahB f1 f2) m
    generalize hf : due (ahB f1 f2) m = f at h1 h2 hl
    obtain ⟨p1, p2⟩ := posn_spec (ahB f1 f2 m) f f.length (Nat.le_refl _)
    have pl := posn_le (ahB f1 f2 m) f f.length
    have hd : due (ahB f1 f2) (m + 1) = insAt f m (posn (ahB f1 f2 m) f f.length) := by rw [due, hf]
    rw [hd]
    generalize posn (ahB f1 f2 m) f f.length = p at p1 p2 pl
    have hta : f.take p ++ f.drop p = f := List.take_append_drop p f
    have h1' := h1
    rw [← hta, List.pairwise_append] at h1'
    obtain ⟨a1, a2, a3⟩ := h1'
    have up : ∀ x ∈ f.drop p, ltP f1 f2 m x := fun x hx => by
      obtain ⟨i, hi, rfl⟩ := List.getElem_of_mem hx
      rw [List.length_drop] at hi
      have := p1 (p + i) (by omega) (by omega)
      rw [List.getElem_drop]
      have e : f.getD (p + i) 0 = f[p + i] := by simp [List.getD_eq_getElem?_getD, List.getElem?_eq_getElem (show p + i < f.length by omega)]
      rw [e] at this
      exact ah_lt this
    have dn : ∀ x ∈ f.take p, ltP f1 f2 x m := fun x hx => by
      rcases p2 with z | ⟨q, rfl, z⟩
      · subst z; simp at hx
      · have hq : q < f.length := by omega
        have e : f.getD q 0 = f[q] := by simp [List.getD_eq_getElem?_getD, List.getElem?_eq_getElem hq]
        rw [e] at z
        have hqm := ah_no z (hl _ (List.getElem_mem hq))
        obtain ⟨i, hi, rfl⟩ := List.getElem_of_mem hx
        rw [List.length_take] at hi
        rw [List.getElem_take]
        by_cases y : i = q
        · subst y; exact hqm
        · exact ((List.pairwise_iff_getElem.mp h1) i q (by omega) hq (by omega)).trans hqm
    refine ⟨?_, ?_⟩
    · unfold insAt
      rw [List.append_assoc, List.singleton_append, List.pairwise_append]
      refine ⟨a1, List.pairwise_cons.mpr ⟨up, a2⟩, fun x hx y hy => ?_⟩
      rcases List.mem_cons.mp hy with rfl | hy
      · exact dn x hx
      · exact a3 x hx y hy
    · unfold insAt
      rw [List.append_assoc, List.singleton_append]
      refine List.perm_middle.trans ?_
      rw [hta, List.range_succ]
      exact (h2.cons m).trans (List.perm_append_singleton m (List.range m)).symm

theorem mrg_perm {α : Type} (le : α → α → Bool) : ∀ as bs : List α, (mrg le as bs).Perm (as ++ bs)
  | [], bs => by rw [mrg]; exact .refl _
  | a :: as, [] => by simp [mrg]
  | a :: as, b :: bs => by
    rw [mrg]
    split
    · exact (mrg_perm le as (b :: bs)).cons a
    · exact ((mrg_perm le (a :: as) bs).cons b).trans List.perm_middle.symm
termination_by as bs => as.length + bs.length
theorem mrg_sorted : ∀ as bs : List Nat, as.Pairwise (ltP f1 f2) → bs.Pairwise (ltP f1 f2) → (∀ a ∈ as, ∀ b ∈ bs, a < b) → (mrg (leB f1 f2) as bs).Pairwise (ltP f1 f2)
  | [], bs, _, h, _ => by rw [mrg]; exact h
  | a :: as, [], h, _, _ => by simpa [mrg] using h
  | a :: as, b :: bs, h1, h2, hc => by
    rw [mrg]
    have h1' := List.pairwise_cons.mp h1
    have h2' := List.pairwise_cons.mp h2
    cases z : leB f1 f2 a b with
    | true =>
      have hab := le_yes z (hc a (.head _) b (.head _))
      simp only [if_true]
      refine List.pairwise_cons.mpr ⟨fun x hx => ?_, mrg_sorted as (b :: bs) h1'.2 h2 fun x hx y hy => hc x (.tail _ hx) y hy⟩
      rcases mrg_mem _ hx with hx | hx
      · exact h1'.1 x hx
      · rcases List.mem_cons.mp hx with rfl | hx
        · exact hab
        · exact hab.trans (h2'.1 x hx)
    | false =>
      have hba := le_no z
      simp only [Bool.false_eq_true, if_false]
      refine List.pairwise_cons.mpr ⟨fun x hx => ?_, mrg_sorted (a :: as) bs h1 h2'.2 fun x hx y hy => hc x hx y (.tail _ hy)⟩
      rcases mrg_mem _ hx with hx | hx
      · rcases List.mem_cons.mp hx with rfl | hx
        · exact hba
        · exact hba.trans (h1'.1 x hx)
      · exact h2'.1 x hx
termination_by as bs => as.length + bs.length

/-- runs in order, each sorted -/
structure Runs (f1 f2 : Nat → Int) (N : Nat) (rs : List (List Nat)) : Prop where
  each : ∀ r ∈ rs, r.Pairwise (ltP f1 f2)
  apart : rs.Pairwise fun r s => ∀ a ∈ r, ∀ b ∈ s, a < b
  all : rs.flatten.Perm (List.range N)
theorem pass_spec : ∀ (rs : List (List Nat)), (∀ r ∈ rs, r.Pairwise (ltP f1 f2)) → (rs.Pairwise fun r s => ∀ a ∈ r, ∀ b ∈ s, a < b) →
    (∀ r ∈ pass (leB f1 f2) rs, r.Pairwise (ltP f1 f2)) ∧ ((pass (leB f1 f2) rs).Pairwise fun r s => ∀ a ∈ r, ∀ b ∈ s, a < b) ∧ (pass (leB f1 f2) rs).flatten.Perm rs.flatten
  | [], h1, h2 => by simp [pass]
  | [a], h1, h2 => by
    rw [pass]
    · exact ⟨h1, h2, .refl _⟩
    · exact fun _ _ _ z => nomatch z
  | a :: b :: r, h1, h2 => by
    rw [pass]
    have h2' := List.pairwise_cons.mp h2
    have h2'' := List.pairwise_cons.mp h2'.2
    obtain ⟨i1, i2, i3⟩ := pass_spec r (fun x hx => h1 x (.tail _ (.tail _ hx))) h2''.2
    refine ⟨fun x hx => ?_, List.pairwise_cons.mpr ⟨fun x hx p hp q hq => ?_, i2⟩, ?_⟩
    · rcases List.mem_cons.mp hx with rfl | hx
      · exact mrg_sorted a b (h1 a (.head _)) (h1 b (.tail _ (.head _))) (h2'.1 b (.head _))
      · exact i1 x hx
    · obtain ⟨x', hx', hq'⟩ := pass_mem _ hx hq
      rcases mrg_mem _ hp with hp | hp
      · exact h2'.1 x' (.tail _ hx') p hp q hq'
      · exact h2''.1 x' hx' p hp q hq'
    · simp only [List.flatten_cons]
      rw [← List.append_assoc]
      exact (mrg_perm _ a b).append i3
theorem passes_spec {N : Nat} : ∀ (k : Nat) (rs : List (List Nat)), rs.length ≤ 2 ^ k → Runs f1 f2 N rs → (passes (leB f1 f2) k rs).Pairwise (ltP f1 f2) ∧ (passes (leB f1 f2) k rs).Perm (List.range N) := by
  have one : ∀ rs : List (List Nat), rs.length ≤ 1 → Runs f1 f2 N rs → (rs.headD []).Pairwise (ltP f1 f2) ∧ (rs.headD []).Perm (List.range N) := fun rs h R => by
    match rs, h with
    | [], _ => exact ⟨.nil, by simpa using R.all⟩
    | [a], _ => exact ⟨R.each a (.head _), by simpa using R.all⟩
  intro k
  induction k with
  | zero => intro rs h R; exact one rs (by simpa using h) R
  | succ k ih =>
    intro rs h R
    rw [passes]
    split
    · rename_i h1; exact one rs h1 R
    · obtain ⟨i1, i2, i3⟩ := pass_spec rs R.each R.apart
      exact ih _ (by rw [pass_len]; rw [Nat.pow_succ] at h; omega) ⟨i1, i2, i3.trans R.all⟩

theorem flat_single : ∀ l : List Nat, (l.map fun p => [p]).flatten = l
  | [] => rfl
  | a :: l => by simp only [List.map_cons, List.flatten_cons, flat_single l]; rfl
/-- THE TWO SORTS AGREE -/
theorem sorts_agree {N : Nat} (h : N ≤ 8) : passes (leB f1 f2) 3 ((List.range N).map fun p => [p]) = due (ahB f1 f2) N := by
  have R : Runs f1 f2 N ((List.range N).map fun p => [p]) := by
    refine ⟨fun r hr => ?_, ?_, ?_⟩
    · obtain ⟨p, _, rfl⟩ := List.mem_map.mp hr
      exact List.pairwise_singleton _ _
    · rw [List.pairwise_map]
      exact List.pairwise_lt_range.imp fun h a ha b hb => by
        simp at ha hb; omega
    · rw [flat_single]
  obtain ⟨s1, s2⟩ := passes_spec 3 _ (by simpa using h) R
  obtain ⟨d1, d2⟩ := due_sorted (f1 := f1) (f2 := f2) N
  exact List.Perm.eq_of_pairwise (fun a b _ _ h h' => h.asymm h') s1 d1 (s2.trans d2.symm)

theorem mrg_map {α β : Type} (P : α → β) (le : β → β → Bool) (le' : α → α → Bool) : ∀ as bs : List α, (∀ a ∈ as, ∀ b ∈ bs, le (P a) (P b) = le' a b) → mrg le (as.map P) (bs.map P) = (mrg le' as bs).map P
  | [], bs, _ => by simp [mrg]
  | a :: as, [], _ => by simp [mrg]
  | a :: as, b :: bs, h => by
    simp only [List.map_cons]
    rw [mrg, mrg, h a (.head _) b (.head _)]
    split
    · rw [List.map_cons, ← mrg_map P le le' as (b :: bs) fun x hx y hy => h x (.tail _ hx) y hy]; rfl
    · rw [List.map_cons, ← mrg_map P le le' (a :: as) bs fun x hx y hy => h x hx y (.tail _ hy)]; rfl
termination_by as bs => as.length + bs.length
theorem pass_map {α β : Type} (P : α → β) (le : β → β → Bool) (le' : α → α → Bool) : ∀ rs : List (List α), (∀ r ∈ rs, ∀ s ∈ rs, ∀ a ∈ r, ∀ b ∈ s, le (P a) (P b) = le' a b) → pass le (rs.map (·.map P)) = (pass le' rs).map (·.map P)
  | [], _ => by simp [pass]
  | [a], _ => by simp [pass]
  | a :: b :: r, h => by
    simp only [List.map_cons]
    rw [pass, pass, List.map_cons, mrg_map P le le' a b (h a (.head _) b (.tail _ (.head _))), pass_map P le le' r fun x hx y hy => h x (.tail _ (.tail _ hx)) y (.tail _ (.tail _ hy))]
theorem passes_map {α β : Type} (P : α → β) (le : β → β → Bool) (le' : α → α → Bool) : ∀ (k : Nat) (rs : List (List α)), (∀ r ∈ rs, ∀ s ∈ rs, ∀ a ∈ r, ∀ b ∈ s, le (P a) (P b) = le' a b) → passes le k (rs.map (·.map P)) = (passes le' k rs).map P
  | 0, [], _ => rfl
  | 0, a :: r, _ => rfl
  | k + 1, rs, h => by
    rw [passes, passes, List.length_map]
    split
    · cases rs <;> rfl
    · rw [pass_map P le le' rs h]
      exact passes_map P le le' k (pass le' rs) fun r hr s hs a ha b hb => by
        obtain ⟨r', q1, q2⟩ := pass_mem _ hr ha
        obtain ⟨s', q3, q4⟩ := pass_mem _ hs hb
        exact h r' q1 s' q3 a q2 b q4
end
end Mine
end

section
open PySem PySem.W PyProof.Rows PySem.Calls PySem.Spec PySem.SeqAt
set_option Elab.async false
set_option backward.match.sparseCases false
set_option maxRecDepth 100000
set_option maxHeartbeats 1000000
namespace Mine
noncomputable def rg0 : Stmt := match bodyAt 165 with
  | [s, _, _, _, _, _, _] => s
  | _ => default
noncomputable def rg1 : Stmt := match bodyAt 165 with
  | [_, s, _, _, _, _, _] => s
  | _ => default
noncomputable def rg2 : Stmt := match bodyAt 165 with
  | [_, _, s, _, _, _, _] => s
  | _ => default
noncomputable def rg3 : Stmt := match bodyAt 165 with
  | [_, _, _, s, _, _, _] => s
  | _ => default
noncomputable def rg4 : Stmt := match bodyAt 165 with
  | [_, _, _, _, s, _, _] => s
  | _ => default
noncomputable def rg5 : Stmt := match bodyAt 165 with
  | [_, _, _, _, _, s, _] => s
  | _ => default
noncomputable def rg6 : Stmt := match bodyAt 165 with
  | [_, _, _, _, _, _, s] => s
  | _ => default
theorem body165 : bodyAt 165 = [rg0, rg1, rg2, rg3, rg4, rg5, rg6] := by rfl
noncomputable def nP : Arguments := match rg1 with
  | .FunctionDef _ p _ _ _ _ _ _ _ _ => p
  | _ => default
noncomputable def nB : List Stmt := match rg1 with
  | .FunctionDef _ _ b _ _ _ _ _ _ _ => b
  | _ => default
noncomputable def nS : Scope := match rg1 with
  | .FunctionDef _ _ _ _ _ _ sc _ _ _ => sc
  | _ => default
noncomputable def nNames : List (Str × NameKind) := nS.names
section
variable {H : Hd} {nest : Bool}
theorem l1650_node : LocN (cfgB H nNames nest).kd (Str.ofString "node") := ⟨by kernel_rfl, by kernel_rfl⟩
theorem l1650_position : LocN (cfgB H nNames nest).kd (Str.ofString "position") := ⟨by kernel_rfl, by kernel_rfl⟩
theorem l1650_size : LocN (cfgB H nNames nest).kd (Str.ofString "size") := ⟨by kernel_rfl, by kernel_rfl⟩
theorem l1650_held : LocN (cfgB H nNames nest).kd (Str.ofString "held") := ⟨by kernel_rfl, by kernel_rfl⟩
theorem l1650_asked : FreN (cfgB H nNames nest).kd (Str.ofString "asked") := ⟨by kernel_rfl, by kernel_rfl, by kernel_rfl⟩
theorem l1650_rows : FreN (cfgB H nNames nest).kd (Str.ofString "rows") := ⟨by kernel_rfl, by kernel_rfl, by kernel_rfl⟩
theorem g1650_Context : GlbN (cfgB H nNames nest) (Str.ofString "Context") (.sta (.ref 1083)) := ⟨by kernel_rfl, by kernel_rfl, by kernel_rfl⟩
end
noncomputable def fnV (rows q : D) : D := .fn nP nB nS [(Str.ofString "rows", rows), (Str.ofString "asked", q)]
noncomputable def nA : List Arg := nP.args
theorem fn_call (P : Params) (k : Nat) (rows q d1 d2 d3 : D) (G : GS) : callH P (k + 1) (fnV rows q) [d1, d2, d3] G =
    outB ((rc 100).ex (cfgB (callH P k) nNames false) ([(Str.ofString "node", .d d1), (Str.ofString "position", .d d2), (Str.ofString "size", .d d3), (Str.ofString "rows", .con rows), (Str.ofString "asked", .con q)], G) nB) := by
  have h : three nP.args = some (nP.args.getD 0 default, nP.args.getD 1 default, nP.args.getD 2 default) := by kernel_rfl
  have hc : (bareP nP && scopeN nS && namesN nS (nP.args.getD 0 default, nP.args.getD 1 default, nP.args.getD 2 default) [(Str.ofString "rows", rows), (Str.ofString "asked", q)]) = true := by kernel_rfl
  show callN (callH P k) nP nB nS [(Str.ofString "rows", rows), (Str.ofString "asked", q)] [d1, d2, d3] G = _
  unfold callN
  rw [h]
  have e : ∀ (c : Bool) (a : Option (D × GS)), c = true → (bif c then a else .none) = a := fun c a h => by rw [h]; rfl
  exact (e _ _ hc).trans (by kernel_rfl)
theorem ctx_make (P : Params) (k : Nat) (nd a b : D) (p n : Int) (G : GS) : callH P (k + 2) (.sta (.ref 1083)) [.none, nd, .int p, .int n, .dic [(S "k", a), (S "m", b)]] G = some (ctxD nd p n a b, G) := by kernel_rfl
noncomputable def nodeD (i : Nat) : D := .int (40 + (i : Int))
theorem sub_k (x y : D) : subD (.dic [(Str.ofString "k", x), (Str.ofString "m", y)]) (.str (Str.ofString "k")) = some x := by kernel_rfl
theorem sub_m (x y : D) : subD (.dic [(Str.ofString "k", x), (Str.ofString "m", y)]) (.str (Str.ofString "m")) = some y := by kernel_rfl
section
variable {H : Hd} {G : GS} {n : Nat} {rows : List D} {kk i : Nat} {p m : Int} {acc : List D} {vk vm a1 a2 b1 b2 cx : D}
theorem fn_body (hr : rows.length ≤ 1000) (hi : rows[i]? = some (.dic [(Str.ofString "k", .tup [vk, a1, a2]), (Str.ofString "m", .tup [vm, b1, b2])])) (hk : G[kk]? = some acc) (ha : acc.length ≤ 1000)
    (hc : H (.sta (.ref 1083)) [.none, nodeD i, .int p, .int m, .dic [(Str.ofString "k", vk), (Str.ofString "m", vm)]] (G.set kk (acc ++ [.tup [nodeD i, .int p, .int m]])) = some (cx, G.set kk (acc ++ [.tup [nodeD i, .int p, .int m]]))) :
    outB ((rc 100).ex (cfgB H nNames false) ([(Str.ofString "node", .d (nodeD i)), (Str.ofString "position", .d (.int p)), (Str.ofString "size", .d (.int m)), (Str.ofString "rows", .con (.lst rows)), (Str.ofString "asked", .con (.mref kk))], G) nB) =
      some (cx, G.set kk (acc ++ [.tup [nodeD i, .int p, .int m]])) := by
  have h1 : acc.length ≤ 1000000 := Nat.le_trans ha (by decide)
  have s1 := sub_lst hi (Nat.le_trans hr (by decide))
  have e1 : (40 + (i : Int)) - 40 = (i : Int) := by omega
  unfold nodeD at hc ⊢
  have h1' : acc.length ≤ 1000000 := h1
  have bq : binD .Sub (.int (40 + (i : Int))) (.int 40) = some (.int (i : Int)) := b_sub.trans (by rw [e1])
  have q1 := sub_k (.tup [vk, a1, a2]) (.tup [vm, b1, b2])
  have q2 := sub_m (.tup [vk, a1, a2]) (.tup [vm, b1, b2])
  conv in nB => whnf
  apply out_run
  (repeat' first | ((fail_if_success (with_reducible apply Mine.lk_probe)); with_reducible assumption) | ((with_reducible show Mine.Cfg.H _ _ _ _ = _); (show H _ _ _ = _); with_reducible assumption) | with_reducible apply s_appG | ((with_reducible show own _ _ _ _ = _); kernel_rfl) | walk_at "com")
end
end Mine
end

section
open PySem PySem.W PyProof.Rows PySem.Calls PySem.Spec PySem.SeqAt
set_option Elab.async false
set_option backward.match.sparseCases false
set_option maxRecDepth 100000
namespace Mine
noncomputable def rkD (num turned : Bool) (first : Option Bool) (i : Nat) : Nat := (rkOf num turned first).getD i 0
noncomputable def sgnN (a b : Nat) : Int := if a < b then -1 else if b < a then 1 else 0
noncomputable def chkN (t : Bool) (p : Nat × Nat) : Bool := (cmpN (rat t p.1).1 (rat t p.1).2 (rat t p.2).1 (rat t p.2).2 == sgnN (rkD true t .none p.1) (rkD true t .none p.2)) && okMul (rat t p.1).1 (rat t p.2).2 && okMul (rat t p.2).1 (rat t p.1).2
noncomputable def strA (i : Nat) : List Nat := strL.getD i []
noncomputable def lowA (i : Nat) : List Nat := lowL.getD i []
noncomputable def chkT0 (p : Nat × Nat) : Bool := sgnL (strA p.1) (strA p.2) == sgnN (rkD false false .none p.1) (rkD false false .none p.2)
noncomputable def chkT1 (f : Bool) (p : Nat × Nat) : Bool := (if sgnL (lowA p.1) (lowA p.2) ≠ 0 ∨ strA p.1 = strA p.2 then sgnL (lowA p.1) (lowA p.2) else if f then sgnL (strA p.1) (strA p.2) else sgnL (strA p.2) (strA p.1)) == sgnN (rkD false false (some f) p.1) (rkD false false (some f) p.2)
noncomputable def chkL (num t : Bool) (f : Option Bool) (p : Nat × Nat) : Bool := (match eqD (.tup (lkD num t f p.1)) (.tup (lkD num t f p.2)) with
  | some e => e == decide (rkD num t f p.1 = rkD num t f p.2)
  | .none => false) && (decide (rkD num t f p.1 = rkD num t f p.2) || (match ltD (.tup (lkD num t f p.1)) (.tup (lkD num t f p.2)) with
  | some l => l == decide (rkD num t f p.1 < rkD num t f p.2)
  | .none => false))
theorem chkN_all (t : Bool) : pairs19.all (chkN t) = true := by cases t <;> decide +kernel
theorem chkT0_all : pairs19.all chkT0 = true := by decide +kernel
theorem chkT1_all (f : Bool) : pairs19.all (chkT1 f) = true := by cases f <;> decide +kernel
theorem chkL_n (t : Bool) : pairs19.all (chkL true t .none) = true := by cases t <;> kernel_rfl
theorem chkL_t (f : Option Bool) : pairs19.all (chkL false false f) = true := by rcases f with _ | (_ | _) <;> kernel_rfl
theorem low_at {i : Nat} (h : i < 19) : Txt.lower (wordAt i) = ⟨(lowA i).toArray⟩ := by
  rcases lt19 h with rfl | rfl | rfl | rfl | rfl | rfl | rfl | rfl | rfl | rfl | rfl | rfl | rfl | rfl | rfl | rfl | rfl | rfl | rfl <;> kernel_rfl
theorem len_at {i : Nat} (h : i < 19) : (wordAt i).length ≤ 1000 := by
  rcases lt19 h with rfl | rfl | rfl | rfl | rfl | rfl | rfl | rfl | rfl | rfl | rfl | rfl | rfl | rfl | rfl | rfl | rfl | rfl | rfl <;> decide +kernel
theorem raw_sta {i : Nat} : True := trivial
end Mine
end

section
open PySem PySem.W PyProof.Rows PySem.Calls PySem.Spec PySem.SeqAt
set_option Elab.async false
set_option backward.match.sparseCases false
set_option maxRecDepth 100000
set_option maxHeartbeats 1000000
namespace Mine
noncomputable def up40 : D → D
  | .int k => .int (40 + k)
  | d => d
theorem len_rng {n : Nat} (h : ¬ 1000000 < n) : ((List.range n).map fun (p : Nat) => D.int (p : Int)).length ≤ 1000000 := by rw [List.length_map, List.length_range]; exact Nat.not_lt.mp h
theorem up40_range (N : Nat) : ((List.range N).map fun (p : Nat) => D.int (p : Int)).map up40 = (List.range N).map nodeD := by
  rw [List.map_map]; rfl
theorem up40_in (f : List Nat) : (f.map fun (i : Nat) => D.int (i : Int)).map up40 = f.map nodeD := by
  rw [List.map_map]; rfl
noncomputable def askT (N : Nat) : D → D
  | .int k => .tup [.int (40 + k), .int (k + 1), .int (N : Int)]
  | d => d
noncomputable def askL (N p : Nat) : List D := ((List.range p).map fun (i : Nat) => D.int (i : Int)).map (askT N)
theorem pl_nodes (f : List Nat) : Pl 64 (.lst (f.map nodeD)) := Pl.lst fun d hd => by
  obtain ⟨i, _, rfl⟩ := List.mem_map.mp hd
  exact .int 62 _
theorem pl_ask (N p : Nat) : Pl 64 (.lst (askL N p)) := Pl.lst fun d hd => by
  obtain ⟨e, he, rfl⟩ := List.mem_map.mp hd
  obtain ⟨i, _, rfl⟩ := List.mem_map.mp he
  exact .tup fun d hd => by
    simp only [List.mem_cons, List.not_mem_nil, or_false] at hd
    rcases hd with rfl | rfl | rfl <;> exact .int 61 _
section
variable {H : Hd} {G G' : GS} {n N kk : Nat} {σ : AEnv} {rows keys : List D} {f : List Nat} {src : D} {wr : D → D}
theorem rg_nodes (hr : σ.lookup (Str.ofString "rows") = some (.con (.lst rows))) {rg : D} (h1 : bltD (.builtin "len") [.lst rows] = some (.int (rows.length : Int))) (h2 : bltD (.type "range") [.int (rows.length : Int)] = some rg) (h3 : itsD rg = some ((List.range rows.length).map fun (p : Nat) => D.int (p : Int))) (h4 : ¬ 1000000 < rows.length) :
    stepS (rc (n + 20)) (cfgB H (namesAt 165) true) (σ, G) rg2 = some (.next, (put σ (Str.ofString "nodes") (.d (.lst ((List.range rows.length).map nodeD))), G)) := by
  conv in rg2 => whnf
  rw [← up40_range]
  apply s_asg
  · rfl
  · rfl
  · apply w_comp
    · rfl
    · (repeat' first | ((fail_if_success (with_reducible apply Mine.lk_probe)); with_reducible assumption) | ((with_reducible show Mine.Cfg.H _ _ _ _ = _); (show H _ _ _ = _); with_reducible assumption) | walk_at "com")
    · (repeat' first | ((fail_if_success (with_reducible apply Mine.lk_probe)); with_reducible assumption) | ((with_reducible show Mine.Cfg.H _ _ _ _ = _); (show H _ _ _ = _); with_reducible assumption) | walk_at "com")
    · exact h3
    · (repeat' first | ((fail_if_success (with_reducible apply Mine.lk_probe)); with_reducible assumption) | ((with_reducible show Mine.Cfg.H _ _ _ _ = _); (show H _ _ _ = _); with_reducible assumption) | walk_at "com")
    · exact len_rng h4
    · refine compX_gen (g := up40) (fun _ => True) trivial fun σ d _ hd => ?_
      obtain ⟨i, _, rfl⟩ := List.mem_map.mp hd
      refine ⟨_, put σ (Str.ofString "at") (.d (.int (i : Int))), g_name (st_loc ⟨by kernel_rfl, by kernel_rfl⟩), ?_, trivial⟩
      show _ = some (D.int (40 + (i : Int)), _)
      (repeat' first | ((fail_if_success (with_reducible apply Mine.lk_probe)); with_reducible assumption) | ((with_reducible show Mine.Cfg.H _ _ _ _ = _); (show H _ _ _ = _); with_reducible assumption) | ((with_reducible apply Mine.w_name); (apply Mine.n_loc (k := ⟨by kernel_rfl, by kernel_rfl⟩)); (walk_at "LK"); done) | ((with_reducible apply Mine.w_name); (apply Mine.n_cec (k := ⟨by kernel_rfl, by kernel_rfl⟩)); (walk_at "LK"); done) | walk_at "com")
  · exact st_loc l165_nodes
theorem rg_due (hk : σ.lookup (Str.ofString "keys") = some (.d (.lst keys))) (hr : σ.lookup (Str.ofString "rows") = some (.con (.lst rows))) (hH : H (.sta (.ref 1146)) [.lst keys, .lst rows] G = some (inL f, G)) (h1 : f.length ≤ 1000000) (h4 : ¬ 1000000 < f.length) :
    stepS (rc (n + 20)) (cfgB H (namesAt 165) true) (σ, G) rg3 = some (.next, (put σ (Str.ofString "due") (.d (.lst (f.map nodeD))), G)) := by
  unfold inL at hH
  have hl : (f.map fun (i : Nat) => D.int (i : Int)).length ≤ 1000000 := by rw [List.length_map]; exact h1
  conv in rg3 => whnf
  rw [← up40_in]
  apply s_asg
  · rfl
  · rfl
  · apply w_comp
    · rfl
    · (repeat' first | ((fail_if_success (with_reducible apply Mine.lk_probe)); with_reducible assumption) | ((with_reducible show Mine.Cfg.H _ _ _ _ = _); (show H _ _ _ = _); with_reducible assumption) | walk_at "com")
    · (repeat' first | ((fail_if_success (with_reducible apply Mine.lk_probe)); with_reducible assumption) | ((with_reducible show Mine.Cfg.H _ _ _ _ = _); (show H _ _ _ = _); with_reducible assumption) | walk_at "com")
    · exact its_lst hl
    · (repeat' first | ((fail_if_success (with_reducible apply Mine.lk_probe)); with_reducible assumption) | ((with_reducible show Mine.Cfg.H _ _ _ _ = _); (show H _ _ _ = _); with_reducible assumption) | walk_at "com")
    · exact hl
    · refine compX_gen (g := up40) (fun _ => True) trivial fun σ d _ hd => ?_
      obtain ⟨i, _, rfl⟩ := List.mem_map.mp hd
      refine ⟨_, put σ (Str.ofString "at") (.d (.int (i : Int))), g_name (st_loc ⟨by kernel_rfl, by kernel_rfl⟩), ?_, trivial⟩
      show _ = some (D.int (40 + (i : Int)), _)
      (repeat' first | ((fail_if_success (with_reducible apply Mine.lk_probe)); with_reducible assumption) | ((with_reducible show Mine.Cfg.H _ _ _ _ = _); (show H _ _ _ = _); with_reducible assumption) | ((with_reducible apply Mine.w_name); (apply Mine.n_loc (k := ⟨by kernel_rfl, by kernel_rfl⟩)); (walk_at "LK"); done) | ((with_reducible apply Mine.w_name); (apply Mine.n_cec (k := ⟨by kernel_rfl, by kernel_rfl⟩)); (walk_at "LK"); done) | walk_at "com")
  · exact st_loc l165_due
theorem rg_sorted {fn : D} {ns due : List D} (hk : σ.lookup (Str.ofString "keys") = some (.d (.lst keys))) (hn : σ.lookup (Str.ofString "nodes") = some (.d (.lst ns))) (hc : σ.lookup (Str.ofString "context_here") = some (.d fn)) (hd : σ.lookup (Str.ofString "due") = some (.d (.lst due)))
    (h1 : keys.length ≤ 1000000) (h4 : ¬ 1000000 < keys.length) (hw : ∀ q ∈ keys, H (.sta (.ref 1132)) [q] G = some (wr q, G)) (hH : H (.sta (.ref 1044)) [.lst ns, .lst (keys.map wr), fn] G = some (.lst due, G')) (he : eqD (.lst due) (.lst due) = some true) :
    stepS (rc (n + 20)) (cfgB H (namesAt 165) true) (σ, G) rg4 = some (.next, (σ, G')) := by
  have c1 : cmpB .NotEq (.lst due) (.lst due) = some false := c_nelse he
  conv in rg4 => whnf
  apply s_ifF
  · apply t_cmp
    · rfl
    · apply w_callF (h1 := n_glb g165_sorted_nodes)
      · rfl
      · apply e_cons
        · (repeat' first | ((fail_if_success (with_reducible apply Mine.lk_probe)); with_reducible assumption) | ((with_reducible show Mine.Cfg.H _ _ _ _ = _); (show H _ _ _ = _); with_reducible assumption) | walk_at "com")
        · apply e_cons
          · apply w_comp
            · rfl
            · (repeat' first | ((fail_if_success (with_reducible apply Mine.lk_probe)); with_reducible assumption) | ((with_reducible show Mine.Cfg.H _ _ _ _ = _); (show H _ _ _ = _); with_reducible assumption) | walk_at "com")
            · (repeat' first | ((fail_if_success (with_reducible apply Mine.lk_probe)); with_reducible assumption) | ((with_reducible show Mine.Cfg.H _ _ _ _ = _); (show H _ _ _ = _); with_reducible assumption) | walk_at "com")
            · exact its_lst h1
            · (repeat' first | ((fail_if_success (with_reducible apply Mine.lk_probe)); with_reducible assumption) | ((with_reducible show Mine.Cfg.H _ _ _ _ = _); (show H _ _ _ = _); with_reducible assumption) | walk_at "com")
            · exact h1
            · refine compX_gen (g := wr) (fun _ => True) trivial fun σ d _ hd => ?_
              have hh := hw d hd
              refine ⟨_, put σ (Str.ofString "key") (.d d), g_name (st_loc ⟨by kernel_rfl, by kernel_rfl⟩), ?_, trivial⟩
              (repeat' first | ((fail_if_success (with_reducible apply Mine.lk_probe)); with_reducible assumption) | ((with_reducible show Mine.Cfg.H _ _ _ _ = _); (show H _ _ _ = _); with_reducible assumption) | (with_reducible apply w_callF (h1 := n_glb (d := .sta (.ref 1132)) ⟨by kernel_rfl, by kernel_rfl, by kernel_rfl⟩)) | ((with_reducible apply Mine.w_name); (apply Mine.n_loc (k := ⟨by kernel_rfl, by kernel_rfl⟩)); (walk_at "LK"); done) | ((with_reducible apply Mine.w_name); (apply Mine.n_cec (k := ⟨by kernel_rfl, by kernel_rfl⟩)); (walk_at "LK"); done) | walk_at "com")
          · (repeat' first | ((fail_if_success (with_reducible apply Mine.lk_probe)); with_reducible assumption) | ((with_reducible show Mine.Cfg.H _ _ _ _ = _); (show H _ _ _ = _); with_reducible assumption) | walk_at "com")
      · exact hH
    · (repeat' first | ((fail_if_success (with_reducible apply Mine.lk_probe)); with_reducible assumption) | ((with_reducible show Mine.Cfg.H _ _ _ _ = _); (show H _ _ _ = _); with_reducible assumption) | walk_at "com")
    · rfl
    · exact c1
  · exact x_blk x_nil
theorem rg_same {ns : List D} (hr : σ.lookup (Str.ofString "rows") = some (.con (.lst rows))) {rg : D} (h1 : bltD (.builtin "len") [.lst rows] = some (.int (rows.length : Int))) (h2 : bltD (.type "range") [.int (rows.length : Int)] = some rg) (h3 : itsD rg = some ((List.range rows.length).map fun (p : Nat) => D.int (p : Int))) (h4 : ¬ 1000000 < rows.length)
    (hn : σ.lookup (Str.ofString "nodes") = some (.d (.lst ((List.range rows.length).map nodeD)))) (he : eqD (.lst ((List.range rows.length).map nodeD)) (.lst ((List.range rows.length).map nodeD)) = some true) :
    stepS (rc (n + 20)) (cfgB H (namesAt 165) true) (σ, G) rg5 = some (.next, (σ, G)) := by
  have he2 : eqD (.lst ((List.range rows.length).map nodeD)) (.lst (((List.range rows.length).map fun (p : Nat) => D.int (p : Int)).map up40)) = some true := by rw [up40_range]; exact he
  have c1 : cmpB .NotEq (.lst ((List.range rows.length).map nodeD)) (.lst (((List.range rows.length).map fun (p : Nat) => D.int (p : Int)).map up40)) = some false := c_nelse he2
  conv in rg5 => whnf
  apply s_ifF
  · apply t_cmp
    · rfl
    · (repeat' first | ((fail_if_success (with_reducible apply Mine.lk_probe)); with_reducible assumption) | ((with_reducible show Mine.Cfg.H _ _ _ _ = _); (show H _ _ _ = _); with_reducible assumption) | walk_at "com")
    · apply w_comp
      · rfl
      · (repeat' first | ((fail_if_success (with_reducible apply Mine.lk_probe)); with_reducible assumption) | ((with_reducible show Mine.Cfg.H _ _ _ _ = _); (show H _ _ _ = _); with_reducible assumption) | walk_at "com")
      · (repeat' first | ((fail_if_success (with_reducible apply Mine.lk_probe)); with_reducible assumption) | ((with_reducible show Mine.Cfg.H _ _ _ _ = _); (show H _ _ _ = _); with_reducible assumption) | walk_at "com")
      · exact h3
      · (repeat' first | ((fail_if_success (with_reducible apply Mine.lk_probe)); with_reducible assumption) | ((with_reducible show Mine.Cfg.H _ _ _ _ = _); (show H _ _ _ = _); with_reducible assumption) | walk_at "com")
      · exact len_rng h4
      · refine compX_gen (g := up40) (fun _ => True) trivial fun σ d _ hd => ?_
        obtain ⟨i, _, rfl⟩ := List.mem_map.mp hd
        refine ⟨_, put σ (Str.ofString "at") (.d (.int (i : Int))), g_name (st_loc ⟨by kernel_rfl, by kernel_rfl⟩), ?_, trivial⟩
        show _ = some (D.int (40 + (i : Int)), _)
        (repeat' first | ((fail_if_success (with_reducible apply Mine.lk_probe)); with_reducible assumption) | ((with_reducible show Mine.Cfg.H _ _ _ _ = _); (show H _ _ _ = _); with_reducible assumption) | ((with_reducible apply Mine.w_name); (apply Mine.n_loc (k := ⟨by kernel_rfl, by kernel_rfl⟩)); (walk_at "LK"); done) | ((with_reducible apply Mine.w_name); (apply Mine.n_cec (k := ⟨by kernel_rfl, by kernel_rfl⟩)); (walk_at "LK"); done) | walk_at "com")
    · rfl
    · exact c1
  · exact x_blk x_nil
theorem rg_asked (hr : σ.lookup (Str.ofString "rows") = some (.con (.lst rows))) {rg : D} (h1 : bltD (.builtin "len") [.lst rows] = some (.int (rows.length : Int))) (h2 : bltD (.type "range") [.int (rows.length : Int)] = some rg) (h3 : itsD rg = some ((List.range rows.length).map fun (p : Nat) => D.int (p : Int))) (h4 : ¬ 1000000 < rows.length)
    (ha : σ.lookup (Str.ofString "asked") = some (.con (.mref kk))) (hG : G[kk]? = some (askL rows.length rows.length)) (he : eqD (.lst (askL rows.length rows.length)) (.lst (askL rows.length rows.length)) = some true) :
    stepS (rc (n + 20)) (cfgB H (namesAt 165) true) (σ, G) rg6 = some (.ret (.bool true), (σ, G)) := by
  have bl : bltD (.builtin "len") [.lst rows] = some (.int (rows.length : Int)) := h1
  have he' : eqD (.lst (askL rows.length rows.length)) (.lst (((List.range rows.length).map fun (p : Nat) => D.int (p : Int)).map (askT rows.length))) = some true := he
  conv in rg6 => whnf
  apply s_ret
  · rfl
  · apply w_cmpG
    · rfl
    · (repeat' first | ((fail_if_success (with_reducible apply Mine.lk_probe)); with_reducible assumption) | ((with_reducible show Mine.Cfg.H _ _ _ _ = _); (show H _ _ _ = _); with_reducible assumption) | walk_at "com")
    · apply w_comp
      · rfl
      · (repeat' first | ((fail_if_success (with_reducible apply Mine.lk_probe)); with_reducible assumption) | ((with_reducible show Mine.Cfg.H _ _ _ _ = _); (show H _ _ _ = _); with_reducible assumption) | walk_at "com")
      · (repeat' first | ((fail_if_success (with_reducible apply Mine.lk_probe)); with_reducible assumption) | ((with_reducible show Mine.Cfg.H _ _ _ _ = _); (show H _ _ _ = _); with_reducible assumption) | walk_at "com")
      · exact h3
      · (repeat' first | ((fail_if_success (with_reducible apply Mine.lk_probe)); with_reducible assumption) | ((with_reducible show Mine.Cfg.H _ _ _ _ = _); (show H _ _ _ = _); with_reducible assumption) | walk_at "com")
      · exact len_rng h4
      · refine compX_gen (g := askT rows.length) (fun σ => σ.lookup (Str.ofString "rows") = some (.con (.lst rows))) lk_hd fun σ d hi hd => ?_
        obtain ⟨i, _, rfl⟩ := List.mem_map.mp hd
        refine ⟨_, put σ (Str.ofString "at") (.d (.int (i : Int))), g_name (st_loc ⟨by kernel_rfl, by kernel_rfl⟩), ?_, lk_ne rfl hi⟩
        show _ = some (D.tup [.int (40 + (i : Int)), .int ((i : Int) + 1), .int (rows.length : Int)], _)
        (repeat' first | ((fail_if_success (with_reducible apply Mine.lk_probe)); with_reducible assumption) | ((with_reducible show Mine.Cfg.H _ _ _ _ = _); (show H _ _ _ = _); with_reducible assumption) | (with_reducible apply w_callB (h1 := n_glb (d := .sta (.builtin "len")) ⟨by kernel_rfl, by kernel_rfl, by kernel_rfl⟩)) | ((with_reducible apply Mine.w_name); (apply Mine.n_loc (k := ⟨by kernel_rfl, by kernel_rfl⟩)); (walk_at "LK"); done) | ((with_reducible apply Mine.w_name); (apply Mine.n_cec (k := ⟨by kernel_rfl, by kernel_rfl⟩)); (walk_at "LK"); done) | walk_at "com")
    · exact hG
    · exact he'
theorem right_ok (hN : rows.length ≤ 8) (hf : f.length ≤ 100) (hk : keys.length ≤ 100) (hdue : H (.sta (.ref 1146)) [.lst keys, .lst rows] (G ++ [[]]) = some (inL f, G ++ [[]]))
    (hw : ∀ q ∈ keys, H (.sta (.ref 1132)) [q] (G ++ [[]]) = some (wr q, G ++ [[]]))
    (hs : H (.sta (.ref 1044)) [.lst ((List.range rows.length).map nodeD), .lst (keys.map wr), fnV (.lst rows) (.mref G.length)] (G ++ [[]]) = some (.lst (f.map nodeD), G ++ [askL rows.length rows.length])) :
    runB H 165 true [src, .lst keys, .lst rows] G = some (.bool true, G ++ [askL rows.length rows.length]) := by
  have h0 : rows.length ≤ 1000000 := Nat.le_trans hN (by decide)
  have h1 := len_lst h0
  have h2 := rng_len h0
  have h3 := its_rng hN
  have h4 : ¬ 1000000 < rows.length := Nat.not_lt.mpr h0
  rw [run_eq (σ := [(Str.ofString "source", .d src), (Str.ofString "keys", .d (.lst keys)), (Str.ofString "rows", .d (.lst rows)), (Str.ofString "asked", .unb)]) (by kernel_rfl)]
  rw [body165, rc_ex 99]
  have e0 : stepS (rc 99) (cfgB H (namesAt 165) true) ([(Str.ofString "source", .d src), (Str.ofString "keys", .d (.lst keys)), (Str.ofString "rows", .d (.lst rows)), (Str.ofString "asked", .unb)], G) rg0 =
    some (.next, ([(Str.ofString "source", .d src), (Str.ofString "keys", .d (.lst keys)), (Str.ofString "rows", .d (.lst rows)), (Str.ofString "asked", .d (.mref G.length))], G ++ [[]])) := by kernel_rfl
  have e1 : stepS (rc 99) (cfgB H (namesAt 165) true) ([(Str.ofString "source", .d src), (Str.ofString "keys", .d (.lst keys)), (Str.ofString "rows", .d (.lst rows)), (Str.ofString "asked", .d (.mref G.length))], G ++ [[]]) rg1 =
    some (.next, ([(Str.ofString "source", .d src), (Str.ofString "keys", .d (.lst keys)), (Str.ofString "rows", .con (.lst rows)), (Str.ofString "asked", .con (.mref G.length)), (Str.ofString "context_here", .d (fnV (.lst rows) (.mref G.length)))], G ++ [[]])) := by kernel_rfl
  rw [exs_next e0, exs_next e1]
  generalize hσ : ([(Str.ofString "source", AV.d src), (Str.ofString "keys", .d (.lst keys)), (Str.ofString "rows", .con (.lst rows)), (Str.ofString "asked", .con (.mref G.length)), (Str.ofString "context_here", .d (fnV (.lst rows) (.mref G.length)))] : AEnv) = σ
  have a1 : σ.lookup (Str.ofString "keys") = some (.d (.lst keys)) := by rw [← hσ]; kernel_rfl
  have a2 : σ.lookup (Str.ofString "rows") = some (.con (.lst rows)) := by rw [← hσ]; kernel_rfl
  have a3 : σ.lookup (Str.ofString "asked") = some (.con (.mref G.length)) := by rw [← hσ]; kernel_rfl
  have a4 : σ.lookup (Str.ofString "context_here") = some (.d (fnV (.lst rows) (.mref G.length))) := by rw [← hσ]; kernel_rfl
  have e2 := rg_nodes (H := H) (G := G ++ [[]]) (n := 79) a2 h1 h2 h3 h4
  rw [exs_next e2]
  have e3 := rg_due (H := H) (G := G ++ [[]]) (n := 79) (σ := put σ (Str.ofString "nodes") (.d (.lst ((List.range rows.length).map nodeD)))) (keys := keys) (rows := rows) (f := f)
    (by (walk_at "LK")) (by (walk_at "LK")) hdue (Nat.le_trans hf (by decide)) (Nat.not_lt.mpr (Nat.le_trans hf (by decide)))
  rw [exs_next e3]
  have e4 := rg_sorted (H := H) (G := G ++ [[]]) (G' := G ++ [askL rows.length rows.length]) (n := 79) (σ := put (put σ (Str.ofString "nodes") (.d (.lst ((List.range rows.length).map nodeD)))) (Str.ofString "due") (.d (.lst (f.map nodeD)))) (keys := keys) (wr := wr)
    (by (walk_at "LK")) (by (walk_at "LK")) (by (walk_at "LK")) (by (walk_at "LK"))
    (Nat.le_trans hk (by decide)) (Nat.not_lt.mpr (Nat.le_trans hk (by decide))) hw hs (eq_self (pl_nodes f))
  rw [exs_next e4]
  have e5 := rg_same (H := H) (G := G ++ [askL rows.length rows.length]) (n := 79) (ns := []) (σ := put (put σ (Str.ofString "nodes") (.d (.lst ((List.range rows.length).map nodeD)))) (Str.ofString "due") (.d (.lst (f.map nodeD)))) (rows := rows)
    (by (walk_at "LK")) h1 h2 h3 h4 (by (walk_at "LK")) (eq_self (pl_nodes _))
  rw [exs_next e5]
  have e6 := rg_asked (H := H) (G := G ++ [askL rows.length rows.length]) (n := 79) (kk := G.length) (σ := put (put σ (Str.ofString "nodes") (.d (.lst ((List.range rows.length).map nodeD)))) (Str.ofString "due") (.d (.lst (f.map nodeD)))) (rows := rows)
    (by (walk_at "LK")) h1 h2 h3 h4 (by (walk_at "LK")) (by simp) (eq_self (pl_ask _ _))
  rw [exs_ret e6]
  rfl
end
end Mine
end

section
open PySem PySem.W PyProof.Rows PySem.Calls PySem.Spec PySem.SeqAt
set_option Elab.async false
set_option backward.match.sparseCases false
set_option maxRecDepth 100000
namespace Mine
section
variable (P : Params) (k : Nat) (a b c d : D) (G : GS)
theorem c1151 : callH P (k + 1) (.sta (.ref 1151)) [a, b, c] G = runB (callH P k) 165 true [a, b, c] G := call_run (by unfold runsL; repeat (first | exact .head _ | apply List.Mem.tail)) (by kernel_rfl)
theorem c1146 : callH P (k + 1) (.sta (.ref 1146)) [a, b] G = runB (callH P k) 164 false [a, b] G := call_run (by unfold runsL; repeat (first | exact .head _ | apply List.Mem.tail)) (by kernel_rfl)
theorem c1139 : callH P (k + 1) (.sta (.ref 1139)) [a, b, c, d] G = runB (callH P k) 163 false [a, b, c, d] G := call_run (by unfold runsL; repeat (first | exact .head _ | apply List.Mem.tail)) (by kernel_rfl)
theorem c1044 : callH P (k + 1) (.sta (.ref 1044)) [a, b, c] G = runB (callH P k) 152 false [a, b, c] G := call_run (by unfold runsL; repeat (first | exact .head _ | apply List.Mem.tail)) (by kernel_rfl)
theorem c1032 : callH P (k + 1) (.sta (.ref 1032)) [a, b] G = runB (callH P k) 150 false [a, b] G := call_run (by unfold runsL; repeat (first | exact .head _ | apply List.Mem.tail)) (by kernel_rfl)
theorem c1027 : callH P (k + 1) (.sta (.ref 1027)) [a, b, c] G = runB (callH P k) 149 false [a, b, c] G := call_run (by unfold runsL; repeat (first | exact .head _ | apply List.Mem.tail)) (by kernel_rfl)
theorem c1020 : callH P (k + 1) (.sta (.ref 1020)) [a, b, c] G = runB (callH P k) 148 false [a, b, c] G := call_run (by unfold runsL; repeat (first | exact .head _ | apply List.Mem.tail)) (by kernel_rfl)
end
/-- the sign that the program finds -/
noncomputable def sg (κ : Key) (a b : Nat) : Int := if κ.down then -sgnN (rk κ a) (rk κ b) else sgnN (rk κ a) (rk κ b)
section
variable {P : Params} {k : Nat} {G : GS} {κ : Key} {i j : Nat}
theorem chk_get {f : Nat × Nat → Bool} (h : pairs19.all f = true) (hi : i < 19) (hj : j < 19) : f (i, j) = true := List.all_eq_true.mp h _ (pairs_mem hi hj)
theorem cp_at (i : Nat) : cp (wordAt i) = strA i := rfl
theorem word_eq (i j : Nat) : (wordAt i = wordAt j) = (strA i = strA j) := propext ⟨fun h => congrArg cp h, fun h => by unfold wordAt; unfold strA at h; rw [h]⟩
theorem cmpAt (ok : κ.ok) (hi : i < 19) (hj : j < 19) : callH P (k + 3) (.sta (.ref 1013)) [orderD κ, valD κ.num κ.turned i, valD κ.num κ.turned j] G = some (.int (sg κ i j), G) := by
  obtain ⟨m, num, down, turned, first⟩ := κ
  rw [c1013]
  refine cmpd_ok (H := callH P (k + 2)) (s := sgnN (rk ⟨m, num, down, turned, first⟩ i) (rk ⟨m, num, down, turned, first⟩ j)) (fun h => ?_) (fun h => ?_)
  · have h : num = true := h
    subst h
    have hf : first = .none := ok
    subst hf
    have z := chk_get (chkN_all turned) hi hj
    unfold chkN at z
    simp only [Bool.and_eq_true, beq_iff_eq] at z
    obtain ⟨⟨z1, z2⟩, z3⟩ := z
    rw [c999]
    have := nums_ok (H := callH P (k + 1)) (G := G) z2 z3 fun i j => by rw [c992]; exact sign_int
    rw [z1] at this
    exact this
  · have h : num = false := h
    subst h
    have ht : turned = false := ok
    subst ht
    rw [c1006]
    have := texts_ok (H := callH P (k + 1)) (G := G) (first := first) (len_at hi) (len_at hj) fun a b => by rw [c992]; exact sign_str
    have e : cmpT first (wordAt i) (wordAt j) = sgnN (rk ⟨m, false, down, false, first⟩ i) (rk ⟨m, false, down, false, first⟩ j) := by
      cases first with
      | none =>
        have z := chk_get chkT0_all hi hj
        exact eq_of_beq z
      | some f =>
        have z := chk_get (chkT1_all f) hi hj
        unfold chkT1 at z
        have z := eq_of_beq z
        unfold cmpT
        rw [low_at hi, low_at hj]
        simp only [word_eq, cp_at]
        exact z
    rw [e] at this
    exact this

theorem kl (ok : κ.ok) (hi : i < 19) : callH P (k + 1) (.sta (.ref 1118)) [menuAt i, keyD κ] G = some (.tup (lkD κ.num κ.turned κ.first i), G) := by
  obtain ⟨m, num, down, turned, first⟩ := κ
  cases num
  · cases (show turned = false from ok)
    rcases first with _ | (_ | _)
    · exact kl_ffn P G k m down i hi
    · exact kl_fff P G k m down i hi
    · exact kl_fft P G k m down i hi
  · cases (show first = .none from ok)
    cases turned
    · exact kl_tfn P G k m down i hi
    · exact kl_ttn P G k m down i hi
theorem lk_facts (ok : κ.ok) (hi : i < 19) (hj : j < 19) : eqD (.tup (lkD κ.num κ.turned κ.first i)) (.tup (lkD κ.num κ.turned κ.first j)) = some (decide (rk κ i = rk κ j)) ∧
    (rk κ i ≠ rk κ j → ltD (.tup (lkD κ.num κ.turned κ.first i)) (.tup (lkD κ.num κ.turned κ.first j)) = some (decide (rk κ i < rk κ j))) := by
  have z : chkL κ.num κ.turned κ.first (i, j) = true := by
    obtain ⟨m, num, down, turned, first⟩ := κ
    cases num
    · cases (show turned = false from ok)
      exact chk_get (chkL_t first) hi hj
    · cases (show first = .none from ok)
      exact chk_get (chkL_n turned) hi hj
  unfold chkL at z
  simp only [Bool.and_eq_true, Bool.or_eq_true, decide_eq_true_eq] at z
  obtain ⟨z1, z2⟩ := z
  constructor
  · split at z1
    · rename_i e he
      rw [he, eq_of_beq z1]; rfl
    · cases z1
  · intro hn
    rcases z2 with z2 | z2
    · exact absurd z2 hn
    · split at z2
      · rename_i e he
        rw [he, eq_of_beq z2]; rfl
      · cases z2
noncomputable def sel (κ : Key) (r : Nat × Nat) : Nat := if κ.m then r.2 else r.1
theorem kv (ok : κ.ok) {r : Nat × Nat} (h1 : r.1 < 19) (h2 : r.2 < 19) (nd : D) (p n : Int) : callH P 12 (.sta (.ref 1039)) [exprD κ.m κ.turned, .bool κ.num, ctxD nd p n (rawD r.1) (rawD r.2)] G = some (valD κ.num κ.turned (sel κ r), G) := by
  obtain ⟨m, num, down, turned, first⟩ := κ
  cases m
  · cases num
    · cases (show turned = false from ok)
      exact kv_fff P nd (rawD r.2) p n G r.1 h1
    · cases turned
      · exact kv_ftf P nd (rawD r.2) p n G r.1 h1
      · exact kv_ftt P nd (rawD r.2) p n G r.1 h1
  · cases num
    · cases (show turned = false from ok)
      exact kv_tff P nd (rawD r.1) p n G r.2 h2
    · cases turned
      · exact kv_ttf P nd (rawD r.1) p n G r.2 h2
      · exact kv_ttt P nd (rawD r.1) p n G r.2 h2

noncomputable def unB : D → Option Bool
  | .bool b => some b
  | _ => .none
noncomputable def isM (n : Str) : Bool := n == Mine.S "m"
/-- a key from its two forms -/
noncomputable def unK : D → Key
  | .dic [(_, .str nm), (_, .bool num), (_, .bool down), (_, .bool turned), (_, f)] => ⟨isM nm, num, down, turned, unB f⟩
  | _ => ⟨false, false, false, false, .none⟩
noncomputable def decK : D → Key
  | .tup [.obj 759 [(_, .str nm)], .bool num, .bool down, f] => ⟨isM nm, num, down, false, unB f⟩
  | .tup [.obj 815 [_, (_, .obj 759 [(_, .str nm)]), _], .bool num, .bool down, f] => ⟨isM nm, num, down, true, unB f⟩
  | _ => ⟨false, false, false, false, .none⟩
theorem unK_ok (κ : Key) : unK (keyD κ) = κ := by
  obtain ⟨m, num, down, turned, first⟩ := κ
  cases m <;> rcases first with _ | (_ | _) <;> kernel_rfl
theorem decK_ok (κ : Key) : decK (writtenD κ) = κ := by
  obtain ⟨m, num, down, turned, first⟩ := κ
  cases m <;> cases turned <;> rcases first with _ | (_ | _) <;> kernel_rfl

noncomputable def rowD (r : Nat × Nat) : D := .dic [(Mine.S "k", menuAt r.1), (Mine.S "m", menuAt r.2)]
noncomputable def Row.ok (r : Nat × Nat) : Prop := r.1 < 19 ∧ r.2 < 19
theorem sel_lt {r : Nat × Nat} (h : Row.ok r) (κ : Key) : sel κ r < 19 := by
  unfold sel
  split
  · exact h.2
  · exact h.1
theorem row_at (κ : Key) (r : Nat × Nat) : List.lookup (nameS κ.m) [(Mine.S "k", menuAt r.1), (Mine.S "m", menuAt r.2)] = some (menuAt (sel κ r)) := by
  obtain ⟨m, num, down, turned, first⟩ := κ
  cases m <;> kernel_rfl
theorem key_ok (ok : κ.ok) {r s : Nat × Nat} (hr : Row.ok r) (hs : Row.ok s) : KeyOk (callH P (k + 1)) G (rowD r) (rowD s) (keyD κ) (decide (rk κ (sel κ r) = rk κ (sel κ s))) (decide (rk κ (sel κ r) < rk κ (sel κ s)) != κ.down) := by
  obtain ⟨f1, f2⟩ := lk_facts ok (sel_lt hr κ) (sel_lt hs κ)
  refine ⟨_, nameS κ.m, κ.down, _, _, menuAt (sel κ r), menuAt (sel κ s), lkD κ.num κ.turned κ.first (sel κ r), .tup (lkD κ.num κ.turned κ.first (sel κ s)), rfl, by kernel_rfl, by kernel_rfl, rfl, rfl, row_at κ r, row_at κ s, kl ok (sel_lt hr κ), kl ok (sel_lt hs κ), f1, fun e => ?_⟩
  exact ⟨_, f2 (of_decide_eq_false e), rfl⟩
end
end Mine
end

section
open PySem PySem.W PyProof.Rows PySem.Calls PySem.Spec PySem.SeqAt
set_option Elab.async false
set_option backward.match.sparseCases false
set_option maxRecDepth 100000
namespace Mine
/-- a row's standing by a key -/
noncomputable def gI (κ : Key) (a : Nat) : Int := if κ.down then -(rk κ a : Int) else (rk κ a : Int)
theorem sg_neg (κ : Key) (a b : Nat) : sg κ a b < 0 ↔ gI κ a < gI κ b := by
  unfold sg sgnN gI
  split <;> split <;> first | omega | (split <;> omega)
theorem sg_zero (κ : Key) (a b : Nat) : sg κ a b = 0 ↔ gI κ a = gI κ b := by
  unfold sg sgnN gI
  split <;> split <;> first | omega | (split <;> omega)
theorem rk_gI (κ : Key) (a b : Nat) : (rk κ a = rk κ b ↔ gI κ a = gI κ b) ∧ (rk κ a ≠ rk κ b → ((decide (rk κ a < rk κ b) != κ.down) = true ↔ gI κ a < gI κ b)) := by
  unfold gI
  cases κ.down
  · simp only [Bool.false_eq_true, if_false, Bool.bne_false, decide_eq_true_eq]
    exact ⟨by omega, fun _ => by omega⟩
  · simp only [if_true]
    refine ⟨by omega, fun h => ?_⟩
    by_cases z : rk κ a < rk κ b
    · simp [z]; omega
    · simp [z]; omega
noncomputable def atR (rw : List (Nat × Nat)) (i : Nat) : Nat × Nat := rw.getD i (0, 0)
noncomputable def F1 (rw : List (Nat × Nat)) : List Key → Nat → Int
  | κ :: _, i => gI κ (sel κ (atR rw i))
  | [], _ => 0
noncomputable def F2 (rw : List (Nat × Nat)) : List Key → Nat → Int
  | _ :: κ :: _, i => gI κ (sel κ (atR rw i))
  | _, _ => 0
noncomputable def cI (rw : List (Nat × Nat)) (ks : List Key) (i j : Nat) : Int := first0 (ks.map fun κ => sg κ (sel κ (atR rw i)) (sel κ (atR rw j)))
noncomputable def tlK (rw : List (Nat × Nat)) (i j : Nat) (κ : Key) : Bool × Bool := (decide (rk κ (sel κ (atR rw i)) = rk κ (sel κ (atR rw j))), decide (rk κ (sel κ (atR rw i)) < rk κ (sel κ (atR rw j))) != κ.down)
/-- one key or two -/
noncomputable def Two (ks : List Key) : Prop := (∃ κ, ks = [κ]) ∨ ∃ κ μ, ks = [κ, μ]
section
variable {rw : List (Nat × Nat)} {ks : List Key} {i j : Nat}
theorem leB_iff (f g : Nat → Int) (i j : Nat) : leB f g i j = true ↔ ¬(f j < f i ∨ (f j = f i ∧ g j < g i)) := by
  unfold leB ahB
  simp only [Bool.not_eq_true', decide_eq_false_iff_not]
theorem ahB_iff (f g : Nat → Int) (i j : Nat) : ahB f g i j = true ↔ (f i < f j ∨ (f i = f j ∧ g i < g j)) := by
  unfold ahB
  simp only [decide_eq_true_eq]
theorem le_lt {s a b : Int} (n : s < 0 ↔ a < b) (z : s = 0 ↔ a = b) : s ≤ 0 ↔ ¬b < a := Int.le_iff_lt_or_eq.trans ((or_congr n z).trans (Int.le_iff_lt_or_eq.symm.trans Int.not_lt.symm))
theorem two_le {s s' a b a' b' : Int} (n : s < 0 ↔ a < b) (z : s = 0 ↔ a = b) (n' : s' < 0 ↔ a' < b') (z' : s' = 0 ↔ a' = b') : (if s = 0 then s' else s) ≤ 0 ↔ ¬(b < a ∨ (b = a ∧ b' < a')) := by
  by_cases h : s = 0
  · rw [if_pos h, le_lt n' z']
    have e := z.mp h
    subst e
    exact ⟨fun q r => r.elim (fun k => Int.lt_irrefl _ k) (fun k => q k.2), fun q k => q (.inr ⟨rfl, k⟩)⟩
  · rw [if_neg h, le_lt n z]
    exact ⟨fun q r => r.elim q (fun k => h (z.mpr k.1.symm)), fun q k => q (.inl k)⟩
theorem if_self0 {s : Int} : (if s = 0 then 0 else s) = s := by
  by_cases h : s = 0
  · rw [if_pos h, h]
  · rw [if_neg h]
theorem first0_one {s : Int} : first0 [s] = if s = 0 then 0 else s := rfl
theorem first0_two {s s' : Int} : first0 [s, s'] = if s = 0 then s' else s := by
  show (if s = 0 then (if s' = 0 then 0 else s') else s) = _
  rw [if_self0]
theorem ah_of {a b : Int} {c : Prop} (e : a = b) : (a < b ∨ (a = b ∧ c)) ↔ c := by
  subst e
  exact ⟨fun r => r.elim (fun k => absurd k (Int.lt_irrefl _)) (·.2), fun k => .inr ⟨rfl, k⟩⟩
theorem ah_ne {a b : Int} {c : Prop} (e : a ≠ b) : (a < b ∨ (a = b ∧ c)) ↔ a < b := ⟨fun r => r.elim id (fun k => absurd k.1 e), .inl⟩
theorem le_cI (h : Two ks) : decide (cI rw ks i j ≤ 0) = leB (F1 rw ks) (F2 rw ks) i j := by
  rw [Bool.eq_iff_iff, leB_iff, decide_eq_true_iff]
  rcases h with ⟨κ, rfl⟩ | ⟨κ, μ, rfl⟩
  · show first0 [_] ≤ 0 ↔ _
    rw [first0_one]
    exact two_le (sg_neg κ _ _) (sg_zero κ _ _) Iff.rfl Iff.rfl
  · show first0 [_, _] ≤ 0 ↔ _
    rw [first0_two]
    exact two_le (sg_neg κ _ _) (sg_zero κ _ _) (sg_neg μ _ _) (sg_zero μ _ _)
theorem tell_ah (h : Two ks) : tellB (ks.map (tlK rw i j)) = ahB (F1 rw ks) (F2 rw ks) i j := by
  have one : ∀ κ : Key, (rk κ (sel κ (atR rw i)) = rk κ (sel κ (atR rw j)) ↔ gI κ (sel κ (atR rw i)) = gI κ (sel κ (atR rw j))) ∧ (rk κ (sel κ (atR rw i)) ≠ rk κ (sel κ (atR rw j)) → (decide (rk κ (sel κ (atR rw i)) < rk κ (sel κ (atR rw j))) != κ.down) = decide (gI κ (sel κ (atR rw i)) < gI κ (sel κ (atR rw j)))) := fun κ => by
    obtain ⟨a, b⟩ := rk_gI κ (sel κ (atR rw i)) (sel κ (atR rw j))
    exact ⟨a, fun h => Bool.eq_iff_iff.mpr ((b h).trans decide_eq_true_iff.symm)⟩
  rw [Bool.eq_iff_iff, ahB_iff]
  rcases h with ⟨κ, rfl⟩ | ⟨κ, μ, rfl⟩
  · obtain ⟨a, b⟩ := one κ
    simp only [List.map_cons, List.map_nil, tellB, tlK, F1, F2]
    by_cases z : rk κ (sel κ (atR rw i)) = rk κ (sel κ (atR rw j))
    · simp only [z, decide_true, if_true, Bool.false_eq_true, false_iff]
      rw [ah_of (a.mp z)]
      exact Int.lt_irrefl 0
    · have z' := fun h => z (a.mpr h)
      simp only [z, decide_false, Bool.false_eq_true, if_false]
      rw [b z, decide_eq_true_eq, ah_ne z']
  · obtain ⟨a, b⟩ := one κ
    obtain ⟨a', b'⟩ := one μ
    simp only [List.map_cons, List.map_nil, tellB, tlK, F1, F2]
    by_cases z : rk κ (sel κ (atR rw i)) = rk κ (sel κ (atR rw j))
    · rw [ah_of (a.mp z)]
      simp only [z, decide_true, if_true]
      by_cases y : rk μ (sel μ (atR rw i)) = rk μ (sel μ (atR rw j))
      · simp only [y, decide_true, if_true, Bool.false_eq_true, false_iff]
        rw [a'.mp y]
        exact Int.lt_irrefl _
      · simp only [y, decide_false, Bool.false_eq_true, if_false]
        rw [b' y, decide_eq_true_eq]
    · have z' := fun h => z (a.mpr h)
      simp only [z, decide_false, Bool.false_eq_true, if_false]
      rw [b z, decide_eq_true_eq, ah_ne z']
end
end Mine
end

section
open PySem PySem.W PyProof.Rows PySem.Calls PySem.Spec PySem.SeqAt
set_option Elab.async false
set_option backward.match.sparseCases false
set_option maxRecDepth 100000
namespace Mine
theorem strOk_at {i : Nat} (h : i < 19) : PyData.canLay0 (.str (wordAt i)) = true := by
  rcases lt19 h with rfl | rfl | rfl | rfl | rfl | rfl | rfl | rfl | rfl | rfl | rfl | rfl | rfl | rfl | rfl | rfl | rfl | rfl | rfl <;> decide +kernel
theorem pl_val {num t : Bool} {i : Nat} (h : i < 19) (n : Nat) : Pl (n + 2) (valD num t i) := by
  unfold valD
  cases num with
  | true =>
    simp only [if_true]
    exact .tup fun d hd => by
      simp only [List.mem_cons, List.not_mem_nil, or_false] at hd
      rcases hd with rfl | rfl <;> exact .int n _
  | false =>
    simp only [Bool.false_eq_true, if_false]
    exact ⟨.str (wordAt i), rfl, strOk_at h, Nat.zero_le _⟩
noncomputable def idxOf (d : D) : Nat := match itemOf d with
  | .int k => (k - 40).toNat
  | _ => 0
section
variable {P : Params} {G : GS} {rw : List (Nat × Nat)} {ks : List Key} {src : D}
noncomputable def PD (rw : List (Nat × Nat)) (ks : List Key) (i : Nat) : D := .tup [.lst (ks.map fun κ => valD κ.num κ.turned (sel κ (atR rw i))), nodeD i]
theorem idx_PD (i : Nat) : idxOf (PD rw ks i) = i := by
  show ((40 + (i : Int)) - 40).toNat = i
  omega
theorem at_ok (hr : ∀ r ∈ rw, Row.ok r) (i : Nat) : Row.ok (atR rw i) := by
  unfold atR
  by_cases h : i < rw.length
  · have : rw.getD i (0, 0) = rw[i] := by simp [List.getD_eq_getElem?_getD, h]
    rw [this]; exact hr _ (List.getElem_mem h)
  · have : rw.getD i (0, 0) = (0, 0) := by simp [List.getD_eq_getElem?_getD, List.getElem?_eq_none (by omega : rw.length ≤ i)]
    rw [this]; exact ⟨by decide, by decide⟩
theorem row_get {i : Nat} (h : i < rw.length) : (rw.map rowD)[i]? = some (rowD (atR rw i)) := by
  have : atR rw i = rw[i] := by unfold atR; simp [List.getD_eq_getElem?_getD, h]
  rw [this]; simp [h]

theorem rows_cmp (h2 : Two ks) (ok : ∀ κ ∈ ks, κ.ok) (hr : ∀ r ∈ rw, Row.ok r) (i j : Nat) :
    callH P 10 (.sta (.ref 1020)) [.lst (ks.map orderD), rowOf (PD rw ks i), rowOf (PD rw ks j)] G = some (.int (cI rw ks i j), G) := by
  have c : ∀ κ ∈ ks, callH P 9 (.sta (.ref 1013)) [orderD κ, valD κ.num κ.turned (sel κ (atR rw i)), valD κ.num κ.turned (sel κ (atR rw j))] G = some (.int (sg κ (sel κ (atR rw i)) (sel κ (atR rw j))), G) := fun κ hκ =>
    cmpAt (k := 6) (ok κ hκ) (sel_lt (at_ok hr i) κ) (sel_lt (at_ok hr j) κ)
  rw [c1020]
  rcases h2 with ⟨κ, rfl⟩ | ⟨κ, μ, rfl⟩
  · exact cmprows1 (H := callH P 9) (c κ (by simp))
  · exact cmprows2 (H := callH P 9) (c κ (by simp)) (c μ (by simp))

theorem mrg_ok (h2 : Two ks) (ok : ∀ κ ∈ ks, κ.ok) (hr : ∀ r ∈ rw, Row.ok r) (N : Nat) :
    MrgOk (callH P 11) G (.lst (ks.map orderD)) (fun a b => decide (cI rw ks (idxOf a) (idxOf b) ≤ 0)) ((List.range N).map (PD rw ks)) := by
  intro as bs ha hb hl
  have form : ∀ d ∈ (List.range N).map (PD rw ks), ∃ i, d = PD rw ks i := fun d hd => by
    obtain ⟨i, _, rfl⟩ := List.mem_map.mp hd
    exact ⟨i, rfl⟩
  rw [c1027]
  refine merged_ok (H := callH P 10) (fun a b => cI rw ks (idxOf a) (idxOf b)) hl (fun d hd => ?_) (fun d hd => ?_) fun a haa b hbb => ?_
  · obtain ⟨i, rfl⟩ := form d (ha d hd); exact ⟨_, _, rfl⟩
  · obtain ⟨i, rfl⟩ := form d (hb d hd); exact ⟨_, _, rfl⟩
  · obtain ⟨i, rfl⟩ := form a (ha a haa)
    obtain ⟨j, rfl⟩ := form b (hb b hbb)
    rw [idx_PD, idx_PD]
    exact rows_cmp h2 ok hr i j

theorem rows_sorted (h2 : Two ks) (ok : ∀ κ ∈ ks, κ.ok) (hr : ∀ r ∈ rw, Row.ok r) {N : Nat} (h1 : 1 ≤ N) (h7 : N ≤ 7) :
    callH P 12 (.sta (.ref 1032)) [.lst (ks.map orderD), .lst ((List.range N).map (PD rw ks))] G = some (.lst ((due (ahB (F1 rw ks) (F2 rw ks)) N).map nodeD), G) := by
  rw [c1032]
  have pr : ∀ d ∈ (List.range N).map (PD rw ks), Pr d := fun d hd => by
    obtain ⟨i, _, rfl⟩ := List.mem_map.mp hd
    exact ⟨_, _, rfl⟩
  have pl : ∀ d ∈ (List.range N).map (PD rw ks), Pl 62 d := fun d hd => by
    obtain ⟨i, _, rfl⟩ := List.mem_map.mp hd
    exact .tup fun d hd => by
      simp only [List.mem_cons, List.not_mem_nil, or_false] at hd
      rcases hd with rfl | rfl
      · exact .lst fun d hd => by
          obtain ⟨κ, _, rfl⟩ := List.mem_map.mp hd
          exact pl_val (sel_lt (at_ok hr i) κ) 58
      · exact .int 60 _
  have e := sorted_rows_ok (H := callH P 11) (G := G) (mrg_ok h2 ok hr N) (by simpa using h1) (by simpa using h7) pr pl
  rw [e]
  have hm : ((List.range N).map (PD rw ks)).map (fun p => [p]) = (((List.range N).map fun p => [p]).map (·.map (PD rw ks))) := by
    rw [List.map_map, List.map_map]; rfl
  rw [hm, passes_map (PD rw ks) _ (leB (F1 rw ks) (F2 rw ks)) 3 _ (fun r hr s hs a ha b hb => by
    rw [idx_PD, idx_PD]
    exact le_cI h2), sorts_agree (by omega), List.map_map]
  rfl

theorem askL_succ (N p : Nat) : askL N (p + 1) = askL N p ++ [.tup [nodeD p, .int ((p : Int) + 1), .int (N : Int)]] := by
  unfold askL
  rw [List.range_succ, List.map_append, List.map_append]
  rfl
theorem askL_len (N p : Nat) : (askL N p).length = p := by unfold askL; simp

theorem ctx_ok {N p : Nat} (hr : ∀ r ∈ rw, Row.ok r) (hN : rw.length = N) (h8 : N ≤ 8) (hp : p < N) :
    callH P 12 (fnV (.lst (rw.map rowD)) (.mref G.length)) [nodeD p, .int ((p : Int) + 1), .int (N : Int)] (G ++ [askL N p]) = some (ctxD (nodeD p) ((p : Int) + 1) (N : Int) (rawD (atR rw p).1) (rawD (atR rw p).2), G ++ [askL N (p + 1)]) := by
  rw [fn_call]
  have hs : (G ++ [askL N p]).set G.length (askL N p ++ [.tup [nodeD p, .int ((p : Int) + 1), .int (N : Int)]]) = G ++ [askL N (p + 1)] := by
    rw [askL_succ]; simp
  have hk : (G ++ [askL N p])[G.length]? = some (askL N p) := by simp
  have hi : (rw.map rowD)[p]? = some (.dic [(Str.ofString "k", .tup [rawD (atR rw p).1, .str (wordAt (atR rw p).1), optD (numL.getD (atR rw p).1 none)]), (Str.ofString "m", .tup [rawD (atR rw p).2, .str (wordAt (atR rw p).2), optD (numL.getD (atR rw p).2 none)])]) := row_get (by omega)
  have := fn_body (H := callH P 11) (G := G ++ [askL N p]) (rows := rw.map rowD) (kk := G.length) (i := p) (p := (p : Int) + 1) (m := (N : Int)) (acc := askL N p) (cx := ctxD (nodeD p) ((p : Int) + 1) (N : Int) (rawD (atR rw p).1) (rawD (atR rw p).2))
    (by simp; omega) hi hk (by rw [askL_len]; omega) (by rw [hs]; exact ctx_make P 9 _ _ _ _ _ _)
  rw [hs] at this
  exact this

theorem nodes_sorted (h2 : Two ks) (ok : ∀ κ ∈ ks, κ.ok) (hr : ∀ r ∈ rw, Row.ok r) {N : Nat} (hN : rw.length = N) (h1 : 1 ≤ N) (h7 : N ≤ 7) :
    callH P 13 (.sta (.ref 1044)) [.lst ((List.range N).map nodeD), .lst (ks.map writtenD), fnV (.lst (rw.map rowD)) (.mref G.length)] (G ++ [[]]) = some (.lst ((due (ahB (F1 rw ks) (F2 rw ks)) N).map nodeD), G ++ [askL N N]) := by
  rw [c1044]
  have kl2 : ks.length ≤ 2 := by rcases h2 with ⟨κ, rfl⟩ | ⟨κ, μ, rfl⟩ <;> simp
  have nl : ((List.range N).map nodeD).length = N := by simp
  have e := sorted_nodes_ok (H := callH P 12) (nodes := (List.range N).map nodeD) (keys := ks.map writtenD) (cf := fnV (.lst (rw.map rowD)) (.mref G.length))
    (ctx := fun p => ctxD (nodeD p) ((p : Int) + 1) (N : Int) (rawD (atR rw p).1) (rawD (atR rw p).2)) (Gs := fun p => G ++ [askL N p]) (val := fun q p => valD (decK q).num (decK q).turned (sel (decK q) (atR rw p))) (ord := fun q => orderD (decK q))
    (res := .lst ((due (ahB (F1 rw ks) (F2 rw ks)) N).map nodeD)) ⟨_, _, _, _, rfl⟩ (by simp; omega) (by omega) (fun q hq => ?_) (fun p nd hp => ?_) (fun p hp q hq => ?_) ?_
  · rw [nl] at e; exact e
  · obtain ⟨κ, _, rfl⟩ := List.mem_map.mp hq
    refine ⟨_, _, _, _, rfl, ?_⟩
    rw [decK_ok]
    exact ko_all P 10 _ κ
  · have lt : p < N := by
      have := (List.getElem?_eq_some_iff.mp hp).1
      simpa using this
    have : nd = nodeD p := by simpa [List.getElem?_map, List.getElem?_range lt] using hp.symm
    subst this
    rw [nl]
    exact ctx_ok hr hN (by omega) lt
  · obtain ⟨κ, hκ, rfl⟩ := List.mem_map.mp hq
    refine ⟨_, _, _, _, rfl, ?_⟩
    rw [decK_ok]
    exact kv (ok κ hκ) (at_ok hr p).1 (at_ok hr p).2 _ _ _
  · rw [nl]
    have o : (ks.map writtenD).map (fun q => orderD (decK q)) = ks.map orderD := by
      rw [List.map_map]
      exact List.map_congr_left fun κ _ => by show orderD (decK (writtenD κ)) = _; rw [decK_ok]
    have ps : ((List.range N).map fun p => D.tup [.lst ((ks.map writtenD).map fun q => valD (decK q).num (decK q).turned (sel (decK q) (atR rw p))), ((List.range N).map nodeD).getD p .none]) = (List.range N).map (PD rw ks) := by
      refine List.map_congr_left fun p hp => ?_
      have lt := List.mem_range.mp hp
      have e1 : ((List.range N).map nodeD).getD p .none = nodeD p := by simp [List.getD_eq_getElem?_getD, List.getElem?_map, List.getElem?_range lt]
      have e2 : (ks.map writtenD).map (fun q => valD (decK q).num (decK q).turned (sel (decK q) (atR rw p))) = ks.map fun κ => valD κ.num κ.turned (sel κ (atR rw p)) := by
        rw [List.map_map]
        exact List.map_congr_left fun κ _ => by show valD (decK (writtenD κ)).num (decK (writtenD κ)).turned (sel (decK (writtenD κ)) (atR rw p)) = _; rw [decK_ok]
      rw [e1, e2]; rfl
    rw [o, ps]
    exact rows_sorted h2 ok hr h1 h7

theorem due_at (h2 : Two ks) (ok : ∀ κ ∈ ks, κ.ok) (hr : ∀ r ∈ rw, Row.ok r) {N : Nat} (hN : rw.length = N) (h8 : N ≤ 8) :
    callH P 13 (.sta (.ref 1146)) [.lst (ks.map keyD), .lst (rw.map rowD)] G = some (inL (due (ahB (F1 rw ks) (F2 rw ks)) N), G) := by
  rw [c1146]
  have kl2 : ks.length ≤ 2 := by rcases h2 with ⟨κ, rfl⟩ | ⟨κ, μ, rfl⟩ <;> simp
  have nl : (rw.map rowD).length = N := by simpa using hN
  have e := due_ok (H := callH P 12) (G := G) (ah := ahB (F1 rw ks) (F2 rw ks)) (ks := ks.map keyD) (rs := rw.map rowD) (by omega) fun i j hi hj => by
    rw [c1139]
    have st := stands_ok (H := callH P 11) (G := G) (i := i) (j := j) (ri := rowD (atR rw i)) (rj := rowD (atR rw j)) (keys := ks.map keyD) (rows := rw.map rowD) (tl := fun q => tlK rw i j (unK q)) (by omega) (by simp; omega) (row_get (by omega)) (row_get (by omega)) fun q hq => by
      obtain ⟨κ, hκ, rfl⟩ := List.mem_map.mp hq
      rw [unK_ok]
      exact key_ok (k := 10) (ok κ hκ) (at_ok hr i) (at_ok hr j)
    rw [st]
    have : (ks.map keyD).map (fun q => tlK rw i j (unK q)) = ks.map (tlK rw i j) := by
      rw [List.map_map]
      exact List.map_congr_left fun κ _ => by show tlK rw i j (unK (keyD κ)) = _; rw [unK_ok]
    rw [this, tell_ah h2]
  rw [nl] at e
  exact e

/-- the law's core: the nodes come as they are due -/
theorem right_all (h2 : Two ks) (ok : ∀ κ ∈ ks, κ.ok) (hr : ∀ r ∈ rw, Row.ok r) (h1 : 1 ≤ rw.length) (h7 : rw.length ≤ 7) :
    callH P 14 (.sta (.ref 1151)) [src, .lst (ks.map keyD), .lst (rw.map rowD)] G = some (.bool true, G ++ [askL rw.length rw.length]) := by
  rw [c1151]
  have kl2 : ks.length ≤ 2 := by rcases h2 with ⟨κ, rfl⟩ | ⟨κ, μ, rfl⟩ <;> simp
  have nl : (rw.map rowD).length = rw.length := by simp
  have e := right_ok (H := callH P 13) (G := G) (src := src) (rows := rw.map rowD) (keys := ks.map keyD) (f := due (ahB (F1 rw ks) (F2 rw ks)) rw.length) (wr := fun q => writtenD (unK q)) (by omega) (by rw [due_len]; omega) (by simp; omega)
    (due_at h2 ok hr rfl (by omega)) (fun q hq => ?_) ?_
  · rw [nl] at e; exact e
  · obtain ⟨κ, hκ, rfl⟩ := List.mem_map.mp hq
    rw [unK_ok]
    exact kw_all P 10 _ κ (ok κ hκ)
  · have o : (ks.map keyD).map (fun q => writtenD (unK q)) = ks.map writtenD := by
      rw [List.map_map]
      exact List.map_congr_left fun κ _ => by show writtenD (unK (keyD κ)) = _; rw [unK_ok]
    rw [o, nl]
    exact nodes_sorted h2 ok hr rfl h1 h7
end
end Mine
end

section
open PySem PySem.W PyProof.Rows PySem.Calls PySem.Spec PySem.SeqAt
set_option Elab.async false
set_option backward.match.sparseCases false
set_option maxRecDepth 100000
set_option maxHeartbeats 1000000
namespace Mine
section
variable (P : Params) (k : Nat) (a b : D) (G : GS)
theorem c1101 : callH P (k + 1) (.sta (.ref 1101)) [a, b] G = runB (callH P k) 157 false [a, b] G := call_run (by unfold runsL; repeat (first | exact .head _ | apply List.Mem.tail)) (by kernel_rfl)
theorem c1108 : callH P (k + 1) (.sta (.ref 1108)) [a, b] G = runB (callH P k) 158 false [a, b] G := call_run (by unfold runsL; repeat (first | exact .head _ | apply List.Mem.tail)) (by kernel_rfl)
theorem c1094 : callH P (k + 1) (.sta (.ref 1094)) [a, b] G = runB (callH P k) 156 false [a, b] G := call_run (by unfold runsL; repeat (first | exact .head _ | apply List.Mem.tail)) (by kernel_rfl)
theorem c1125 : callH P (k + 1) (.sta (.ref 1125)) [a] G = runB (callH P k) 161 false [a] G := call_run (by unfold runsL; repeat (first | exact .head _ | apply List.Mem.tail)) (by kernel_rfl)
theorem c1156 : callH P (k + 1) (.sta (.ref 1156)) [a] G = runB (callH P k) 166 false [a] G := call_run (by unfold runsL; repeat (first | exact .head _ | apply List.Mem.tail)) (by kernel_rfl)
end
theorem sl20 (a b : D) : subD (.lst [a, b]) (.int 0) = some a := rfl
theorem sl21 (a b : D) : subD (.lst [a, b]) (.int 1) = some b := rfl
theorem bits31 {i : Int} (h : i.natAbs < 4294967296) : Builtin.Int.intBits i ≤ 64 := by
  unfold Builtin.Int.intBits
  split
  · omega
  · have : i.natAbs.log2 < 32 := by
      by_cases z : i.natAbs = 0
      · rw [z]; decide
      · exact (Nat.log2_lt z).mpr (by simpa using h)
    omega
theorem okMul_l {i j : Int} (h : i.natAbs < 4294967296) : okMul i j = true := by
  unfold okMul; rw [decide_eq_true (bits31 h)]; rfl
theorem okMul_r {i j : Int} (h : j.natAbs < 4294967296) : okMul i j = true := by
  unfold okMul; rw [decide_eq_true (bits31 h)]; simp
theorem s_keyH {m kk : Nat} {cfg : Cfg} {x : X} {σ σ' : AEnv} {G G' : GS} {e e9 : Expr} {d : D} {nm : Str} {i : Int} {p ap q : Pos} (k : LocN cfg.kd nm) {ls ls' : List D} (hp : (plainE e9 && plainE e) = true) (h1 : (rc m).ev cfg x e = some (d, (σ, G))) (hn : σ.lookup nm = some (.d (.mref kk))) (h2 : (rc m).ev cfg (σ, G) e9 = some (.int i, (σ', G')))
    (hl : G'[kk]? = some ls) (hz : (decide (0 ≤ i) && decide (i.toNat < ls.length) && decide (ls.length ≤ 1000000)) = true) (hq : ls.set i.toNat d = ls') :
    stepS (rc m) cfg x (.Assign [.Subscript (.Name nm q) e9 ap] e p) = some (.next, (σ', G'.set kk ls')) := hq ▸ s_keyG k hp h1 hn h2 hl hz
/-- the law's source of numbers -/
noncomputable def SrcOk (G : GS) (k : Nat) : Prop := ∃ b m : Int, G[k]? = some [.int b, .int m] ∧ 0 ≤ m ∧ m < 2147483647
section
variable {H : Hd} {G : GS} {k : Nat} {b m t : Int}
theorem take_pos (hG : G[k]? = some [.int b, .int m]) (hb : 0 < b) (h0 : t ≠ 0) (ht : t.natAbs < 1073741824) : runB H 157 false [.mref k, .int t] G = some (.int (b.fmod t), G.set k [.int (b.fdiv t), .int m]) := by
  rw [run_eq (σ := [(Str.ofString "source", .d (.mref k)), (Str.ofString "top", .d (.int t))]) (by kernel_rfl)]
  have d1 := b_div (i := b) h0 ht
  have d2 := b_mod (i := b) h0
  have c1 : cmpB .Gt (.int b) (.int 0) = some true := c_gti.trans (by rw [decide_eq_true hb])
  have l1 := sl20 (.int b) (.int m)
  conv in bodyAt 157 => whnf
  apply out_run
  apply x_blk
  apply x_ret
  apply s_ifT
  · (repeat' first | ((fail_if_success (with_reducible apply Mine.lk_probe)); with_reducible assumption) | ((with_reducible show Mine.Cfg.H _ _ _ _ = _); (show H _ _ _ = _); with_reducible assumption) | with_reducible apply w_subG | walk_at "com")
  · apply x_blk
    apply x_next
    · (repeat' first | ((fail_if_success (with_reducible apply Mine.lk_probe)); with_reducible assumption) | ((with_reducible show Mine.Cfg.H _ _ _ _ = _); (show H _ _ _ = _); with_reducible assumption) | with_reducible apply w_subG | walk_at "com")
    apply x_next
    · apply s_keyH l157_source
      · rfl
      · (repeat' first | ((fail_if_success (with_reducible apply Mine.lk_probe)); with_reducible assumption) | ((with_reducible show Mine.Cfg.H _ _ _ _ = _); (show H _ _ _ = _); with_reducible assumption) | with_reducible apply w_subG | walk_at "com")
      · (walk_at "LK")
      · (repeat' first | ((fail_if_success (with_reducible apply Mine.lk_probe)); with_reducible assumption) | ((with_reducible show Mine.Cfg.H _ _ _ _ = _); (show H _ _ _ = _); with_reducible assumption) | walk_at "com")
      · exact hG
      · rfl
      · rfl
    · exact x_ret (s_ret rfl (w_name (n_loc l157_drawn (lk_same))))
theorem take_neg {m1 m2 d : Int} (hG : G[k]? = some [.int b, .int m]) (hb : ¬ 0 < b) (h0 : t ≠ 0) (e1 : m1 = (m * 39373 + 7).fmod 2147483647) (e2 : okMul m1 m1 = true) (e3 : m2 = (m1 * m1).fmod 2147483629) (e4 : d = (m2.fdiv 32).fmod t) :
    runB H 157 false [.mref k, .int t] G = some (.int d, G.set k [.int b, .int m1]) := by
  rw [run_eq (σ := [(Str.ofString "source", .d (.mref k)), (Str.ofString "top", .d (.int t))]) (by kernel_rfl)]
  have d1 := b_mul (i := m) (j := 39373) (okMul_r (by decide))
  have d2 := b_mod (i := m * 39373 + 7) (j := 2147483647) (by decide)
  have d3 := b_mul e2
  have d4 := b_mod (i := m1 * m1) (j := 2147483629) (by decide)
  have d5 := b_div (i := m2) (j := 32) (by decide) (by decide)
  have d6 := b_mod (i := m2.fdiv 32) h0
  have hk : k < G.length := (List.getElem?_eq_some_iff.mp hG).1
  have hs : (G.set k [.int b, .int m1])[k]? = some [.int b, .int m1] := by simp [hk]
  have c1 : cmpB .Gt (.int b) (.int 0) = some false := c_gti.trans (by rw [decide_eq_false hb])
  have l1 := sl20 (.int b) (.int m)
  have l2 := sl21 (.int b) (.int m)
  have l3 := sl21 (.int b) (.int m1)
  rw [← e1] at d2
  rw [← e3] at d4
  rw [← e4] at d6
  conv in bodyAt 157 => whnf
  apply out_run
  apply x_blk
  apply x_next
  · apply s_ifF
    · (repeat' first | ((fail_if_success (with_reducible apply Mine.lk_probe)); with_reducible assumption) | ((with_reducible show Mine.Cfg.H _ _ _ _ = _); (show H _ _ _ = _); with_reducible assumption) | with_reducible apply w_subG | walk_at "com")
    · exact x_blk x_nil
  apply x_next
  · apply s_keyH (ls' := [.int b, .int m1]) l157_source
    · rfl
    · (repeat' first | ((fail_if_success (with_reducible apply Mine.lk_probe)); with_reducible assumption) | ((with_reducible show Mine.Cfg.H _ _ _ _ = _); (show H _ _ _ = _); with_reducible assumption) | with_reducible apply w_subG | walk_at "com")
    · (walk_at "LK")
    · (repeat' first | ((fail_if_success (with_reducible apply Mine.lk_probe)); with_reducible assumption) | ((with_reducible show Mine.Cfg.H _ _ _ _ = _); (show H _ _ _ = _); with_reducible assumption) | walk_at "com")
    · exact hG
    · rfl
    · rfl
  · (repeat' first | ((fail_if_success (with_reducible apply Mine.lk_probe)); with_reducible assumption) | ((with_reducible show Mine.Cfg.H _ _ _ _ = _); (show H _ _ _ = _); with_reducible assumption) | with_reducible apply w_subG | walk_at "com")
theorem take_ok (S : SrcOk G k) (h0 : 0 < t) (ht : t < 1000) : ∃ d G', runB H 157 false [.mref k, .int t] G = some (.int d, G') ∧ 0 ≤ d ∧ d < t ∧ SrcOk G' k := by
  obtain ⟨b, m, hG, h1, h2⟩ := S
  have hk : k < G.length := (List.getElem?_eq_some_iff.mp hG).1
  have hs : ∀ l : List D, (G.set k l)[k]? = some l := fun l => by simp [hk]
  by_cases hb : 0 < b
  · exact ⟨_, _, take_pos hG hb (by omega) (by omega), Int.fmod_nonneg_of_pos _ h0, Int.fmod_lt_of_pos _ h0, _, _, hs _, h1, h2⟩
  · have p : (0 : Int) < 2147483647 := by decide
    have m0 := Int.fmod_nonneg_of_pos (m * 39373 + 7) p
    have m1 := Int.fmod_lt_of_pos (m * 39373 + 7) p
    refine ⟨_, _, take_neg hG hb (by omega) rfl (okMul_l (by omega)) rfl rfl, Int.fmod_nonneg_of_pos _ h0, Int.fmod_lt_of_pos _ h0, _, _, hs _, m0, m1⟩
end
end Mine
end

section
open PySem PySem.W PyProof.Rows PySem.Calls PySem.Spec PySem.SeqAt
set_option Elab.async false
set_option backward.match.sparseCases false
set_option maxRecDepth 100000
set_option maxHeartbeats 1000000
namespace Mine
theorem getD_at {l : List D} {i : Nat} (h : i < l.length) : l[i]? = some (l.getD i .none) := by simp [List.getD_eq_getElem?_getD, h]
theorem pow18 : binD .Pow (.int 10) (.int 18) = some (.int 1000000000000000000) := by kernel_rfl
theorem sub_xls {l : List D} {k : Nat} {d : D} (h : l[k]? = some d) (hz : l.length ≤ 1000000) : subD (.xls l) (.int (k : Int)) = some d := by
  have hk := (List.getElem?_eq_some_iff.mp h).1
  show (idxD (k : Int) l.length).bind (l[·]?) = some d
  rw [idx_nat hk (by omega)]
  exact h
section
variable {H : Hd} {G G1 G2 G3 G4 : GS} {k i : Nat} {l : List D} {ns : List Int} {nm : Str} {d1 d3 d4 : Int} {fd : D}
theorem one_at (hi : i < l.length) (hl : l.length ≤ 1000) (h : H (.sta (.ref 1101)) [.mref k, .int (l.length : Int)] G = some (.int (i : Int), G1)) : runB H 158 false [.mref k, .lst l] G = some (l.getD i .none, G1) := by
  rw [run_eq (σ := [(Str.ofString "source", .d (.mref k)), (Str.ofString "things", .d (.lst l))]) (by kernel_rfl)]
  have h1 : l.length ≤ 1000000 := Nat.le_trans hl (by decide)
  have s1 := sub_lst (getD_at hi) h1
  conv in bodyAt 158 => whnf
  have l1 := len_lst h1
  apply out_run
  (repeat' first | ((fail_if_success (with_reducible apply Mine.lk_probe)); with_reducible assumption) | ((with_reducible show Mine.Cfg.H _ _ _ _ = _); (show H _ _ _ = _); with_reducible assumption) | walk_at "com")
theorem int_int (i : Int) : bltD (.type "int") [.int i] = some (.int i) := rfl
theorem int_bool (b : Bool) : bltD (.type "int") [.bool b] = some (.int (if b then 1 else 0)) := rfl
theorem pool_at {kn : Nat} {c big q : Int} (hk : kn ≤ 1) (hl : (l.length : Int) ≤ 1000) (hc : (kn < l.length ∧ l[kn]? = some (.int c)) ∨ (¬ kn < l.length ∧ c = 0)) (hb : bltD (.builtin "max") [.int c, .int (-1 - c)] = some (.int big)) :
    ∃ b m : Int, runB H 156 false [.xls l, .int (kn : Int)] G = some (.mref G.length, G ++ [[.int b, .int m]]) ∧ 0 ≤ m ∧ m < 2147483647 := by
  have h0 : l.length ≤ 1000000 := by omega
  have h1 : bltD (.builtin "len") [.xls l] = some (.int (l.length : Int)) := len_xls h0
  have d0 := b_mod (i := big) (j := 2147483629) (by decide)
  have d1 := b_mul (i := 7919) (j := (kn : Int)) (okMul_r (by omega))
  have d2 := b_mul (i := 7919 * (kn : Int)) (j := (kn : Int)) (okMul_r (by omega))
  have d3 := b_mul (i := 31) (j := (kn : Int)) (okMul_r (by omega))
  have d4 := fun x => b_mul (i := x) (j := 48271) (okMul_r (by decide))
  have d5 := fun x => b_mod (i := x) (j := 2147483647) (by decide)
  have d6 : ∀ b : Bool, binD .Mult (.int big) (.int (if b = true then 1 else 0)) = some (.int (big * (if b = true then 1 else 0))) := fun b => b_mul (okMul_r (by cases b <;> decide))
  have p : (0 : Int) < 2147483647 := by decide
  refine ⟨big * (if decide (1000000000000000000 ≤ big) = true then 1 else 0), _, ?_, Int.fmod_nonneg_of_pos ((big.fmod 2147483629 + 7919 * (kn : Int) * (kn : Int) + 31 * (kn : Int) + 17) * 48271) p, Int.fmod_lt_of_pos _ p⟩
  · rw [run_eq (σ := [(Str.ofString "script", .d (.xls l)), (Str.ofString "k", .d (.int (kn : Int)))]) (by kernel_rfl)]
    have p1 := pow18
    have c9 : cmpB .GtE (.int big) (.int 1000000000000000000) = some (decide (1000000000000000000 ≤ big)) := c_gei
    have i1 := int_int c
    have i2 := int_int (-1 - c)
    have i3 := int_int big
    have i4 := int_int (big.fmod 2147483629 + 7919 * (kn : Int) * (kn : Int) + 31 * (kn : Int) + 17)
    have i5 := int_int ((big.fmod 2147483629 + 7919 * (kn : Int) * (kn : Int) + 31 * (kn : Int) + 17) * 48271)
    have i6 := int_bool (decide (1000000000000000000 ≤ big))
    have d4 := d4 (big.fmod 2147483629 + 7919 * (kn : Int) * (kn : Int) + 31 * (kn : Int) + 17)
    have d5 := d5 ((big.fmod 2147483629 + 7919 * (kn : Int) * (kn : Int) + 31 * (kn : Int) + 17) * 48271)
    have d6 := d6 (decide (1000000000000000000 ≤ big))
    conv in bodyAt 156 => whnf
    apply out_run
    apply x_blk
    rcases hc with ⟨z, hc⟩ | ⟨z, rfl⟩
    · have s1 := sub_xls hc h0
      have z1 : cmpB .Lt (.int (kn : Int)) (.int (l.length : Int)) = some true := c_lti.trans (congrArg some (decide_eq_true (by omega)))
      (repeat' first | ((fail_if_success (with_reducible apply Mine.lk_probe)); with_reducible assumption) | ((with_reducible show Mine.Cfg.H _ _ _ _ = _); (show H _ _ _ = _); with_reducible assumption) | with_reducible apply w_ifT | walk_at "com")
    · have z1 : cmpB .Lt (.int (kn : Int)) (.int (l.length : Int)) = some false := c_lti.trans (congrArg some (decide_eq_false (by omega)))
      (repeat' first | ((fail_if_success (with_reducible apply Mine.lk_probe)); with_reducible assumption) | ((with_reducible show Mine.Cfg.H _ _ _ _ = _); (show H _ _ _ = _); with_reducible assumption) | with_reducible apply w_ifF | walk_at "com")
/-- the two keys' words -/
noncomputable def keyL (nm : Str) (num down turned : Bool) (f : D) : D := .dic [(Str.ofString "name", .str nm), (Str.ofString "number", .bool num), (Str.ofString "down", .bool down), (Str.ofString "turned", .bool turned), (Str.ofString "first", f)]
theorem drawn_num (h1 : H (.sta (.ref 1101)) [.mref k, .int 2] G = some (.int 0, G1)) (h2 : H (.sta (.ref 1108)) [.mref k, .lst [.str (Str.ofString "k"), .str (Str.ofString "m")]] G1 = some (.str nm, G2))
    (h3 : H (.sta (.ref 1101)) [.mref k, .int 2] G2 = some (.int d3, G3)) (h4 : H (.sta (.ref 1101)) [.mref k, .int 2] G3 = some (.int d4, G4)) : runB H 161 false [.mref k] G = some (keyL nm true (d3 == 1) (d4 == 1) .none, G4) := by
  rw [run_eq (σ := [(Str.ofString "source", .d (.mref k))]) (by kernel_rfl)]
  unfold keyL
  have c1 : cmpB .Eq (.int 0) (.int 0) = some true := rfl
  have c2 : cmpB .Eq (.int d3) (.int 1) = some (d3 == 1) := c_eqi
  have c3 : cmpB .Eq (.int d4) (.int 1) = some (d4 == 1) := c_eqi
  have tb : truD (.bool true) = some true := rfl
  conv in bodyAt 161 => whnf
  apply out_run
  apply x_blk
  (repeat' first | ((fail_if_success (with_reducible apply Mine.lk_probe)); with_reducible assumption) | ((with_reducible show Mine.Cfg.H _ _ _ _ = _); (show H _ _ _ = _); with_reducible assumption) | with_reducible apply w_ifT | with_reducible apply s_ifT | with_reducible apply s_keyD l161_key | ((with_reducible show List.length _ ≤ 100); exact Nat.le_of_ble_eq_true (by kernel_rfl)) | walk_at "com")
theorem drawn_txt (hd : (d1 == 0) = false) (h1 : H (.sta (.ref 1101)) [.mref k, .int 2] G = some (.int d1, G1)) (h2 : H (.sta (.ref 1108)) [.mref k, .lst [.str (Str.ofString "k"), .str (Str.ofString "m")]] G1 = some (.str nm, G2))
    (h3 : H (.sta (.ref 1101)) [.mref k, .int 2] G2 = some (.int d3, G3)) (h4 : H (.sta (.ref 1108)) [.mref k, .lst [.none, .bool true, .bool false]] G3 = some (fd, G4)) : runB H 161 false [.mref k] G = some (keyL nm false (d3 == 1) false fd, G4) := by
  rw [run_eq (σ := [(Str.ofString "source", .d (.mref k))]) (by kernel_rfl)]
  unfold keyL
  have c1 : cmpB .Eq (.int d1) (.int 0) = some false := c_eqi.trans (congrArg some hd)
  have c2 : cmpB .Eq (.int d3) (.int 1) = some (d3 == 1) := c_eqi
  have tb : truD (.bool false) = some false := rfl
  conv in bodyAt 161 => whnf
  apply out_run
  apply x_blk
  (repeat' first | ((fail_if_success (with_reducible apply Mine.lk_probe)); with_reducible assumption) | ((with_reducible show Mine.Cfg.H _ _ _ _ = _); (show H _ _ _ = _); with_reducible assumption) | with_reducible apply w_ifF | with_reducible apply s_ifF | with_reducible apply s_keyD l161_key | ((with_reducible show List.length _ ≤ 100); exact Nat.le_of_ble_eq_true (by kernel_rfl)) | walk_at "com")
end
end Mine
end

section
open PySem PySem.W PyProof.Rows PySem.Calls PySem.Spec PySem.SeqAt
set_option Elab.async false
set_option backward.match.sparseCases false
set_option maxRecDepth 100000
set_option maxHeartbeats 1000000
namespace Mine
noncomputable def lwF : Stmt := match bodyAt 166 with
  | [s, _] => s
  | _ => default
noncomputable def lwR : Stmt := match bodyAt 166 with
  | [_, s] => s
  | _ => default
noncomputable def lwB : List Stmt := match lwF with
  | .For _ _ b _ _ => b
  | _ => default
noncomputable def lwV : Expr := match lwF with
  | .For t _ _ _ _ => t
  | _ => default
noncomputable def lwI : Expr := match lwF with
  | .For _ i _ _ _ => i
  | _ => default
noncomputable def lb0 : Stmt := match lwB with
  | [s, _, _, _, _] => s
  | _ => default
noncomputable def lb1 : Stmt := match lwB with
  | [_, s, _, _, _] => s
  | _ => default
noncomputable def lb2 : Stmt := match lwB with
  | [_, _, s, _, _] => s
  | _ => default
noncomputable def lb3 : Stmt := match lwB with
  | [_, _, _, s, _] => s
  | _ => default
noncomputable def lb4 : Stmt := match lwB with
  | [_, _, _, _, s] => s
  | _ => default
noncomputable def rwB : List Stmt := match lb2 with
  | .For _ _ b _ _ => b
  | _ => default
noncomputable def rwV : Expr := match lb2 with
  | .For t _ _ _ _ => t
  | _ => default
noncomputable def rwI : Expr := match lb2 with
  | .For _ i _ _ _ => i
  | _ => default
theorem body166 : bodyAt 166 = [lwF, lwR] := by rfl
theorem bodyLw : lwB = [lb0, lb1, lb2, lb3, lb4] := by rfl
theorem for166 (m : Nat) (cfg : Cfg) (x : X) : stepS (rc m) cfg x lwF = ((rc m).ev cfg x lwI).bind fun p => (itsD p.1).bind fun ds => forX ((rc m).ex cfg) cfg lwV lwB p.2 ds := by kernel_rfl
theorem forRw (m : Nat) (cfg : Cfg) (x : X) : stepS (rc m) cfg x lb2 = ((rc m).ev cfg x rwI).bind fun p => (itsD p.1).bind fun ds => forX ((rc m).ex cfg) cfg rwV rwB p.2 ds := by kernel_rfl
section
variable {f : X → Expr → Option (D × X)} {cfg : Cfg} {t elt : Expr} {x x1 x2 x3 : X} {d v : D} {ds vs : List D}
theorem t_notF {m : Nat} {e1 : Expr} {p : Pos} (h1 : (rc m).tr cfg x e1 = some (true, x1)) : (rc (m + 1)).tr cfg x (.UnaryOp .Not e1 p) = some (false, x1) := t_not h1
theorem cp_nil : compX f cfg t elt x [] = some ([], x) := rfl
theorem cp_cons (h1 : targX cfg x t d = some x1) (h2 : f x1 elt = some (v, x2)) (h3 : compX f cfg t elt x2 ds = some (vs, x3)) : compX f cfg t elt x (d :: ds) = some (v :: vs, x3) := bs h1 (bs h2 (ms h3))
end
structure WInv (σ : AEnv) (l : List D) : Prop where
  a : σ.lookup (Str.ofString "script") = some (.d (.xls l))
  b : ∃ av, σ.lookup (Str.ofString "source") = some av ∧ openAV av = true
structure RInv (σ : AEnv) (l : List D) (kk : Nat) (acc : List D) : Prop where
  a : σ.lookup (Str.ofString "script") = some (.d (.xls l))
  b : σ.lookup (Str.ofString "source") = some (.d (.mref kk))
  c : σ.lookup (Str.ofString "rows") = some (.lst acc)
section
variable {H : Hd} {G G0 G1 G2 : GS} {n kk : Nat} {σ : AEnv} {l acc : List D} {x1 x2 q1 q2 md : D} {kn d e : Int} {rg : D}
theorem lw_source (I : WInv σ l) (hk : σ.lookup (Str.ofString "k") = some (.d (.int kn))) (hH : H (.sta (.ref 1094)) [.xls l, .int kn] G = some (.mref kk, G1)) :
    ∃ σ', (∀ r, exs (stepS (rc 98) (cfgB H (namesAt 166) false)) (σ, G) (lb0 :: lb1 :: r) = exs (stepS (rc 98) (cfgB H (namesAt 166) false)) (σ', G1) r) ∧ RInv σ' l kk [] := by
  obtain ⟨ha, av, hb, ho⟩ := I
  have e1 : stepS (rc 98) (cfgB H (namesAt 166) false) (σ, G) lb0 = some (.next, (put σ (Str.ofString "source") (.d (.mref kk)), G1)) := by
    conv in lb0 => whnf
    (repeat' first | ((fail_if_success (with_reducible apply Mine.lk_probe)); with_reducible assumption) | ((with_reducible show Mine.Cfg.H _ _ _ _ = _); (show H _ _ _ = _); with_reducible assumption) | walk_at "com")
  have e2 : stepS (rc 98) (cfgB H (namesAt 166) false) (put σ (Str.ofString "source") (.d (.mref kk)), G1) lb1 = some (.next, (put (put σ (Str.ofString "source") (.d (.mref kk))) (Str.ofString "rows") (.lst []), G1)) := by
    conv in lb1 => whnf
    (repeat' first | ((fail_if_success (with_reducible apply Mine.lk_probe)); with_reducible assumption) | ((with_reducible show Mine.Cfg.H _ _ _ _ = _); (show H _ _ _ = _); with_reducible assumption) | walk_at "com")
  refine ⟨_, fun r => by rw [exs_next e1, exs_next e2], ?_⟩
  constructor <;> (walk_at "LK")
theorem rw_turn (I : RInv σ l kk acc) (hl : acc.length ≤ 1000) (hm : ∀ G, H (.sta (.ref 1113)) [] G = some (md, G)) (h1 : H (.sta (.ref 1108)) [.mref kk, md] G = some (x1, G1)) (h2 : H (.sta (.ref 1108)) [.mref kk, md] G1 = some (x2, G2)) :
    ∃ σ', (rc (n + 20)).ex (cfgB H (namesAt 166) false) (σ, G) rwB = some (.next, (σ', G2)) ∧ RInv σ' l kk (acc ++ [.dic [(Str.ofString "k", x1), (Str.ofString "m", x2)]]) := by
  obtain ⟨ha, hb, hc⟩ := I
  have h0 : acc.length ≤ 1000000 := Nat.le_trans hl (by decide)
  have m1 := hm G
  have m2 := hm G1
  conv in rwB => whnf
  apply Exists.intro
  apply And.intro
  · (repeat' first | ((fail_if_success (with_reducible apply Mine.lk_probe)); with_reducible assumption) | ((with_reducible show Mine.Cfg.H _ _ _ _ = _); (show H _ _ _ = _); with_reducible assumption) | with_reducible apply s_app l166_rows | walk_at "com")
  · constructor <;> (walk_at "LK")
theorem rw_iter (I : RInv σ l kk acc) (hH : H (.sta (.ref 1101)) [.mref kk, .int 6] G = some (.int d, G1)) (hr : bltD (.type "range") [.int (2 + d)] = some rg) :
    (rc (n + 20)).ev (cfgB H (namesAt 166) false) (σ, G) rwI = some (rg, (σ, G1)) := by
  obtain ⟨ha, hb, hc⟩ := I
  conv in rwI => whnf
  (repeat' first | ((fail_if_success (with_reducible apply Mine.lk_probe)); with_reducible assumption) | ((with_reducible show Mine.Cfg.H _ _ _ _ = _); (show H _ _ _ = _); with_reducible assumption) | walk_at "com")
theorem lw_keys1 (I : RInv σ l kk acc) (hH : H (.sta (.ref 1101)) [.mref kk, .int 2] G = some (.int d, G0)) (hr : bltD (.type "range") [.int (1 + d)] = some rg) (hi : itsD rg = some [.int 0]) (h1 : H (.sta (.ref 1125)) [.mref kk] G0 = some (q1, G1)) :
    stepS (rc 98) (cfgB H (namesAt 166) false) (σ, G) lb3 = some (.next, (put σ (Str.ofString "keys") (.d (.lst [q1])), G1)) := by
  obtain ⟨ha, hb, hc⟩ := I
  conv in lb3 => whnf
  apply s_asg
  · rfl
  · rfl
  · apply w_comp
    · rfl
    · (repeat' first | ((fail_if_success (with_reducible apply Mine.lk_probe)); with_reducible assumption) | ((with_reducible show Mine.Cfg.H _ _ _ _ = _); (show H _ _ _ = _); with_reducible assumption) | walk_at "com")
    · (repeat' first | ((fail_if_success (with_reducible apply Mine.lk_probe)); with_reducible assumption) | ((with_reducible show Mine.Cfg.H _ _ _ _ = _); (show H _ _ _ = _); with_reducible assumption) | walk_at "com")
    · exact hi
    · (repeat' first | ((fail_if_success (with_reducible apply Mine.lk_probe)); with_reducible assumption) | ((with_reducible show Mine.Cfg.H _ _ _ _ = _); (show H _ _ _ = _); with_reducible assumption) | walk_at "com")
    · exact Nat.le_of_ble_eq_true rfl
    · apply Exists.intro
      apply cp_cons
      · exact g_name (st_loc ⟨by kernel_rfl, by kernel_rfl⟩)
      · (repeat' first | ((fail_if_success (with_reducible apply Mine.lk_probe)); with_reducible assumption) | ((with_reducible show Mine.Cfg.H _ _ _ _ = _); (show H _ _ _ = _); with_reducible assumption) | (with_reducible apply w_callF (h1 := n_glb (d := .sta (.ref 1125)) ⟨by kernel_rfl, by kernel_rfl, by kernel_rfl⟩)) | ((with_reducible apply Mine.w_name); (apply Mine.n_loc (k := ⟨by kernel_rfl, by kernel_rfl⟩)); (walk_at "LK"); done) | ((with_reducible apply Mine.w_name); (apply Mine.n_cec (k := ⟨by kernel_rfl, by kernel_rfl⟩)); (walk_at "LK"); done) | walk_at "com")
      exact cp_nil
  · exact st_loc l166_keys
theorem lw_keys2 (I : RInv σ l kk acc) (hH : H (.sta (.ref 1101)) [.mref kk, .int 2] G = some (.int d, G0)) (hr : bltD (.type "range") [.int (1 + d)] = some rg) (hi : itsD rg = some [.int 0, .int 1]) (h1 : H (.sta (.ref 1125)) [.mref kk] G0 = some (q1, G1))
    (h2 : H (.sta (.ref 1125)) [.mref kk] G1 = some (q2, G2)) :
    stepS (rc 98) (cfgB H (namesAt 166) false) (σ, G) lb3 = some (.next, (put σ (Str.ofString "keys") (.d (.lst [q1, q2])), G2)) := by
  obtain ⟨ha, hb, hc⟩ := I
  conv in lb3 => whnf
  apply s_asg
  · rfl
  · rfl
  · apply w_comp
    · rfl
    · (repeat' first | ((fail_if_success (with_reducible apply Mine.lk_probe)); with_reducible assumption) | ((with_reducible show Mine.Cfg.H _ _ _ _ = _); (show H _ _ _ = _); with_reducible assumption) | walk_at "com")
    · (repeat' first | ((fail_if_success (with_reducible apply Mine.lk_probe)); with_reducible assumption) | ((with_reducible show Mine.Cfg.H _ _ _ _ = _); (show H _ _ _ = _); with_reducible assumption) | walk_at "com")
    · exact hi
    · (repeat' first | ((fail_if_success (with_reducible apply Mine.lk_probe)); with_reducible assumption) | ((with_reducible show Mine.Cfg.H _ _ _ _ = _); (show H _ _ _ = _); with_reducible assumption) | walk_at "com")
    · exact Nat.le_of_ble_eq_true rfl
    · apply Exists.intro
      apply cp_cons
      · exact g_name (st_loc ⟨by kernel_rfl, by kernel_rfl⟩)
      · (repeat' first | ((fail_if_success (with_reducible apply Mine.lk_probe)); with_reducible assumption) | ((with_reducible show Mine.Cfg.H _ _ _ _ = _); (show H _ _ _ = _); with_reducible assumption) | (with_reducible apply w_callF (h1 := n_glb (d := .sta (.ref 1125)) ⟨by kernel_rfl, by kernel_rfl, by kernel_rfl⟩)) | ((with_reducible apply Mine.w_name); (apply Mine.n_loc (k := ⟨by kernel_rfl, by kernel_rfl⟩)); (walk_at "LK"); done) | ((with_reducible apply Mine.w_name); (apply Mine.n_cec (k := ⟨by kernel_rfl, by kernel_rfl⟩)); (walk_at "LK"); done) | walk_at "com")
      apply cp_cons
      · exact g_name (st_loc ⟨by kernel_rfl, by kernel_rfl⟩)
      · (repeat' first | ((fail_if_success (with_reducible apply Mine.lk_probe)); with_reducible assumption) | ((with_reducible show Mine.Cfg.H _ _ _ _ = _); (show H _ _ _ = _); with_reducible assumption) | (with_reducible apply w_callF (h1 := n_glb (d := .sta (.ref 1125)) ⟨by kernel_rfl, by kernel_rfl, by kernel_rfl⟩)) | ((with_reducible apply Mine.w_name); (apply Mine.n_loc (k := ⟨by kernel_rfl, by kernel_rfl⟩)); (walk_at "LK"); done) | ((with_reducible apply Mine.w_name); (apply Mine.n_cec (k := ⟨by kernel_rfl, by kernel_rfl⟩)); (walk_at "LK"); done) | walk_at "com")
      exact cp_nil
  · exact st_loc l166_keys
theorem lw_right {ks : List D} (I : RInv σ l kk acc) (hk : σ.lookup (Str.ofString "keys") = some (.d (.lst ks))) (hH : H (.sta (.ref 1151)) [.mref kk, .lst ks, .lst acc] G = some (.bool true, G1)) :
    ∃ σ', stepS (rc 98) (cfgB H (namesAt 166) false) (σ, G) lb4 = some (.next, (σ', G1)) ∧ WInv σ' l := by
  obtain ⟨ha, hb, hc⟩ := I
  have tb : truD (.bool true) = some true := rfl
  conv in lb4 => whnf
  apply Exists.intro
  apply And.intro
  · apply s_ifF
    · apply t_notF
      (repeat' first | ((fail_if_success (with_reducible apply Mine.lk_probe)); with_reducible assumption) | ((with_reducible show Mine.Cfg.H _ _ _ _ = _); (show H _ _ _ = _); with_reducible assumption) | walk_at "com")
    · exact x_blk x_nil
  · exact ⟨by (walk_at "LK"), .d (.mref kk), by (walk_at "LK"), rfl⟩
theorem lw_iter {mn mx : Int} (I : WInv σ l) (h1 : bltD (.builtin "len") [.xls l] = some (.int e)) (h2 : bltD (.builtin "min") [.int e, .int 2] = some (.int mn)) (h3 : bltD (.builtin "max") [.int 1, .int mn] = some (.int mx)) (h4 : bltD (.type "range") [.int mx] = some rg) :
    (rc (n + 20)).ev (cfgB H (namesAt 166) false) (σ, G) lwI = some (rg, (σ, G)) := by
  obtain ⟨ha, _⟩ := I
  conv in lwI => whnf
  (repeat' first | ((fail_if_success (with_reducible apply Mine.lk_probe)); with_reducible assumption) | ((with_reducible show Mine.Cfg.H _ _ _ _ = _); (show H _ _ _ = _); with_reducible assumption) | walk_at "com")
end
end Mine
end

section
open PySem PySem.W PyProof.Rows PySem.Calls PySem.Spec PySem.SeqAt
set_option Elab.async false
set_option backward.match.sparseCases false
set_option maxRecDepth 100000
set_option maxHeartbeats 1000000
namespace Mine
section
variable {P : Params} {k kk : Nat} {G : GS} {l : List D} {σ : AEnv}
theorem take_at {t : Int} (S : SrcOk G kk) (h0 : 0 < t) (ht : t < 1000) : ∃ (i : Nat) (G' : GS), callH P (k + 1) (.sta (.ref 1101)) [.mref kk, .int t] G = some (.int (i : Int), G') ∧ (i : Int) < t ∧ SrcOk G' kk := by
  obtain ⟨d, G', e, h1, h2, S'⟩ := take_ok (H := callH P k) S h0 ht
  obtain ⟨i, rfl⟩ := Int.eq_ofNat_of_zero_le h1
  exact ⟨i, G', (c1101 P k _ _ G).trans e, h2, S'⟩
theorem one_of (S : SrcOk G kk) (h0 : 0 < l.length) (hl : l.length ≤ 900) : ∃ (i : Nat) (G' : GS), i < l.length ∧ callH P (k + 2) (.sta (.ref 1108)) [.mref kk, .lst l] G = some (l.getD i .none, G') ∧ SrcOk G' kk := by
  obtain ⟨i, G', e, h1, S'⟩ := take_at (P := P) (k := k) (t := (l.length : Int)) S (by omega) (by omega)
  have hi : i < l.length := by omega
  exact ⟨i, G', hi, (c1108 P (k + 1) _ _ G).trans (one_at hi (by omega) e), S'⟩
theorem menu_len : menuD.length = 19 := by simp [menuD]
theorem menu_get {i : Nat} (h : i < 19) : menuD.getD i .none = menuAt i := by
  simp [menuD, List.getD_eq_getElem?_getD, List.getElem?_range h]
theorem one_menu (S : SrcOk G kk) : ∃ (i : Nat) (G' : GS), i < 19 ∧ callH P (k + 2) (.sta (.ref 1108)) [.mref kk, .lst menuD] G = some (menuAt i, G') ∧ SrcOk G' kk := by
  obtain ⟨i, G', h, e, S'⟩ := one_of (P := P) (k := k) (l := menuD) S (by rw [menu_len]; decide) (by rw [menu_len]; decide)
  rw [menu_len] at h
  rw [menu_get h] at e
  exact ⟨i, G', h, e, S'⟩
theorem name_of (S : SrcOk G kk) : ∃ (m : Bool) (G' : GS), callH P (k + 2) (.sta (.ref 1108)) [.mref kk, .lst [.str (Str.ofString "k"), .str (Str.ofString "m")]] G = some (.str (nameS m), G') ∧ SrcOk G' kk := by
  obtain ⟨i, G', h, e, S'⟩ := one_of (P := P) (k := k) (l := [.str (Str.ofString "k"), .str (Str.ofString "m")]) S (by decide) (by decide)
  have h : i < 2 := h
  have : i = 0 ∨ i = 1 := by omega
  rcases this with rfl | rfl
  · exact ⟨false, G', e, S'⟩
  · exact ⟨true, G', e, S'⟩
theorem first_of (S : SrcOk G kk) : ∃ (f : Option Bool) (G' : GS), callH P (k + 2) (.sta (.ref 1108)) [.mref kk, .lst [.none, .bool true, .bool false]] G = some (boolD f, G') ∧ SrcOk G' kk := by
  obtain ⟨i, G', h, e, S'⟩ := one_of (P := P) (k := k) (l := [.none, .bool true, .bool false]) S (by decide) (by decide)
  have h : i < 3 := h
  have : i = 0 ∨ i = 1 ∨ i = 2 := by omega
  rcases this with rfl | rfl | rfl
  · exact ⟨.none, G', e, S'⟩
  · exact ⟨some true, G', e, S'⟩
  · exact ⟨some false, G', e, S'⟩
theorem drawn_at (S : SrcOk G kk) : ∃ (κ : Key) (G' : GS), κ.ok ∧ callH P (k + 3) (.sta (.ref 1125)) [.mref kk] G = some (keyD κ, G') ∧ SrcOk G' kk := by
  obtain ⟨i1, G1, e1, b1, S1⟩ := take_at (P := P) (k := k + 1) (t := 2) S (by decide) (by decide)
  obtain ⟨m, G2, e2, S2⟩ := name_of (P := P) (k := k) S1
  obtain ⟨i3, G3, e3, b3, S3⟩ := take_at (P := P) (k := k + 1) (t := 2) S2 (by decide) (by decide)
  by_cases z : i1 = 0
  · subst z
    obtain ⟨i4, G4, e4, b4, S4⟩ := take_at (P := P) (k := k + 1) (t := 2) S3 (by decide) (by decide)
    exact ⟨⟨m, true, (i3 : Int) == 1, (i4 : Int) == 1, .none⟩, G4, rfl, (c1125 P (k + 2) _ G).trans (drawn_num (H := callH P (k + 2)) e1 e2 e3 e4), S4⟩
  · obtain ⟨f, G4, e4, S4⟩ := first_of (P := P) (k := k) S3
    have hd : ((i1 : Int) == 0) = false := by simpa using z
    exact ⟨⟨m, false, (i3 : Int) == 1, false, f⟩, G4, rfl, (c1125 P (k + 2) _ G).trans (drawn_txt (H := callH P (k + 2)) hd e1 e2 e3 e4), S4⟩

theorem rows_loop : ∀ (ds : List D) {σ : AEnv} {G : GS} {rw : List (Nat × Nat)}, ds.length + rw.length ≤ 100 → (∀ r ∈ rw, Row.ok r) → SrcOk G kk → RInv σ l kk (rw.map rowD) →
    ∃ (σ' : AEnv) (G' : GS) (rw' : List (Nat × Nat)), forX ((rc 98).ex (cfgB (callH P 14) (namesAt 166) false)) (cfgB (callH P 14) (namesAt 166) false) rwV rwB (σ, G) ds = some (.next, (σ', G')) ∧ rw'.length = rw.length + ds.length ∧ (∀ r ∈ rw', Row.ok r) ∧ SrcOk G' kk ∧ RInv σ' l kk (rw'.map rowD)
  | [], σ, G, rw, _, ok, S, I => ⟨σ, G, rw, rfl, rfl, ok, S, I⟩
  | d :: ds, σ, G, rw, hl, ok, S, I => by
    have ht : targX (cfgB (callH P 14) (namesAt 166) false) (σ, G) rwV d = some (put σ (Str.ofString "turn") (.d d), G) := by
      conv in rwV => whnf
      exact g_name (st_loc l166_turn)
    have I0 : RInv (put σ (Str.ofString "turn") (.d d)) l kk (rw.map rowD) := by
      obtain ⟨a, b, c⟩ := I
      constructor <;> (walk_at "LK")
    obtain ⟨i, G1, h1, e1, S1⟩ := one_menu (P := P) (k := 12) S
    obtain ⟨j, G2, h2, e2, S2⟩ := one_menu (P := P) (k := 12) S1
    simp only [List.length_cons] at hl
    obtain ⟨σ1, e3, I1⟩ := rw_turn (H := callH P 14) (n := 78) I0 (by simp; omega) (fun G => menu_ok P 13 G) e1 e2
    have I1' : RInv σ1 l kk ((rw ++ [(i, j)]).map rowD) := by rw [List.map_append]; exact I1
    obtain ⟨σ', G', rw', e4, hl', ok', S', I'⟩ := rows_loop ds (rw := rw ++ [(i, j)]) (by simp; omega) (fun r hr => by
      rcases List.mem_append.mp hr with hr | hr
      · exact ok r hr
      · simp at hr; subst hr; exact ⟨h1, h2⟩) S2 I1'
    refine ⟨σ', G', rw', ?_, by simp at hl' ⊢; omega, ok', S', I'⟩
    exact f_cons ht e3 e4

theorem rng_at {n : Nat} {v : Int} (hv : v = (n : Int)) (h : n ≤ 8) : ∃ rg, bltD (.type "range") [.int v] = some rg ∧ itsD rg = some ((List.range n).map fun (p : Nat) => D.int (p : Int)) :=
  ⟨_, hv ▸ rng_len (Nat.le_trans h (by decide)), its_rng h⟩

/-- one cell of the script -/
theorem law_turn {kn : Nat} {ns : List Int} (hk : kn ≤ 1) (hn : ns.length ≤ 63) (hkn : kn < ns.length ∨ kn = 0) (I : WInv σ (ns.map D.int)) :
    ∃ σ' G', (rc 99).ex (cfgB (callH P 14) (namesAt 166) false) (put σ (Str.ofString "k") (.d (.int (kn : Int))), G) lwB = some (.next, (σ', G')) ∧ WInv σ' (ns.map D.int) := by
  obtain ⟨c, hc⟩ : ∃ c, (kn < (ns.map D.int).length ∧ (ns.map D.int)[kn]? = some (.int c)) ∨ (¬ kn < (ns.map D.int).length ∧ c = 0) := by
    by_cases z : kn < ns.length
    · exact ⟨ns[kn], .inl ⟨by simpa using z, by simp [z]⟩⟩
    · exact ⟨0, .inr ⟨by simpa using z, rfl⟩⟩
  obtain ⟨b, m, e0, m0, m1⟩ := pool_at (H := callH P 13) (G := G) (l := ns.map D.int) (kn := kn) (c := c) (q := 0) hk (by simp; omega) hc rfl
  have eP : callH P 14 (.sta (.ref 1094)) [.xls (ns.map D.int), .int (kn : Int)] G = some (.mref G.length, G ++ [[.int b, .int m]]) := (c1094 P 13 _ _ G).trans e0
  have S0 : SrcOk (G ++ [[.int b, .int m]]) G.length := ⟨b, m, by simp, m0, m1⟩
  have I0 : WInv (put σ (Str.ofString "k") (.d (.int (kn : Int)))) (ns.map D.int) := by
    obtain ⟨a, av, b, c⟩ := I
    exact ⟨by (walk_at "LK"), av, by (walk_at "LK"), c⟩
  obtain ⟨σ1, f1, I1⟩ := lw_source (H := callH P 14) I0 lk_same eP
  obtain ⟨d, G1, e1, d1, S1⟩ := take_at (P := P) (k := 13) (t := 6) S0 (by decide) (by decide)
  obtain ⟨rg, hr, hi⟩ := rng_at (n := 2 + d) (v := 2 + (d : Int)) (by omega) (by omega)
  have e2 := rw_iter (H := callH P 14) (n := 78) I1 e1 hr
  obtain ⟨σ2, G2, rw, e3, hl, ok, S2, I2⟩ := rows_loop (P := P) (rw := []) ((List.range (2 + d)).map fun (p : Nat) => D.int (p : Int)) (by simp; omega) (fun r hr => nomatch hr) S1 I1
  have hl : rw.length = 2 + d := by simpa using hl
  have eR : stepS (rc 98) (cfgB (callH P 14) (namesAt 166) false) (σ1, G ++ [[.int b, .int m]]) lb2 = some (.next, (σ2, G2)) := (for_run (forRw 98 _ _) e2 hi).trans e3
  obtain ⟨h, G3, e4, h1, S3⟩ := take_at (P := P) (k := 13) (t := 2) S2 (by decide) (by decide)
  obtain ⟨rg2, hr2, hi2⟩ := rng_at (n := 1 + h) (v := 1 + (h : Int)) (by omega) (by omega)
  obtain ⟨κ, G4, ok1, e5, S4⟩ := drawn_at (P := P) (k := 11) S3
  have fin : ∀ (ks : List Key) (G5 : GS), Two ks → (∀ κ ∈ ks, κ.ok) → stepS (rc 98) (cfgB (callH P 14) (namesAt 166) false) (σ2, G2) lb3 = some (.next, (put σ2 (Str.ofString "keys") (.d (.lst (ks.map keyD))), G5)) →
      ∃ σ' G', (rc 99).ex (cfgB (callH P 14) (namesAt 166) false) (put σ (Str.ofString "k") (.d (.int (kn : Int))), G) lwB = some (.next, (σ', G')) ∧ WInv σ' (ns.map D.int) := by
    intro ks G5 h2 oks eK
    have e6 := right_all (P := P) (G := G5) (src := .mref G.length) h2 oks ok (by omega) (by omega)
    have I3 : RInv (put σ2 (Str.ofString "keys") (.d (.lst (ks.map keyD)))) (ns.map D.int) G.length (rw.map rowD) := by
      obtain ⟨a, b, c⟩ := I2
      constructor <;> (walk_at "LK")
    obtain ⟨σ3, e7, I4⟩ := lw_right (H := callH P 14) I3 lk_same e6
    refine ⟨σ3, G5 ++ [askL rw.length rw.length], ?_, I4⟩
    rw [bodyLw, rc_ex 98, f1, exs_next eR, exs_next eK, exs_next e7]
    rfl
  have : h = 0 ∨ h = 1 := by omega
  rcases this with rfl | rfl
  · exact fin [κ] G4 (.inl ⟨κ, rfl⟩) (by simpa using ok1) (lw_keys1 (H := callH P 14) I2 e4 hr2 hi2 e5)
  · obtain ⟨μ, G5, ok2, e6, S5⟩ := drawn_at (P := P) (k := 11) S4
    exact fin [κ, μ] G5 (.inr ⟨κ, μ, rfl⟩) (by simpa using ⟨ok1, ok2⟩) (lw_keys2 (H := callH P 14) I2 e4 hr2 hi2 e5 e6)

theorem law_ok (ns : List Int) (hn : ns.length ≤ 63) : ∃ G', callH P 15 (.sta (.ref 1156)) [.xls (ns.map D.int)] [] = some (.bool true, G') := by
  have h0 : (ns.map D.int).length ≤ 1000000 := by simp; omega
  have h1 : bltD (.builtin "len") [.xls (ns.map D.int)] = some (.int ((ns.map D.int).length : Int)) := len_xls h0
  have hl : (ns.map D.int).length = ns.length := by simp
  rw [hl] at h1
  have I0 : WInv [(Str.ofString "script", .d (.xls (ns.map D.int))), (Str.ofString "source", .unb)] (ns.map D.int) := ⟨by kernel_rfl, .unb, by kernel_rfl, rfl⟩
  have tv : ∀ (kn : Nat) (σ : AEnv) (G : GS), targX (cfgB (callH P 14) (namesAt 166) false) (σ, G) lwV (.int (kn : Int)) = some (put σ (Str.ofString "k") (.d (.int (kn : Int))), G) := fun kn σ G => by
    conv in lwV => whnf
    exact g_name (st_loc l166_k)
  have last : ∀ (σ : AEnv) (G : GS), stepS (rc 99) (cfgB (callH P 14) (namesAt 166) false) (σ, G) lwR = some (.ret (.bool true), (σ, G)) := fun σ G => by
    conv in lwR => whnf
    (repeat' first | ((fail_if_success (with_reducible apply Mine.lk_probe)); with_reducible assumption) | ((with_reducible show Mine.Cfg.H _ _ _ _ = _); (show H _ _ _ = _); with_reducible assumption) | walk_at "com")
  have fin : ∀ (mx : Nat), mx ≤ 8 → bltD (.builtin "max") [.int 1, .int (if (2 : Int) < (ns.length : Int) then 2 else (ns.length : Int))] = some (.int (mx : Int)) →
      (∃ σ' G', forX ((rc 99).ex (cfgB (callH P 14) (namesAt 166) false)) (cfgB (callH P 14) (namesAt 166) false) lwV lwB ([(Str.ofString "script", .d (.xls (ns.map D.int))), (Str.ofString "source", .unb)], []) ((List.range mx).map fun (p : Nat) => D.int (p : Int)) = some (.next, (σ', G'))) →
      ∃ G', callH P 15 (.sta (.ref 1156)) [.xls (ns.map D.int)] [] = some (.bool true, G') := by
    intro mx hm hb hx
    obtain ⟨σ', G', hx⟩ := hx
    obtain ⟨rg, hr, hi⟩ := rng_at (n := mx) (v := (mx : Int)) rfl hm
    have e := lw_iter (H := callH P 14) (G := []) (n := 79) I0 h1 rfl hb hr
    refine ⟨G', ?_⟩
    rw [c1156, run_eq (σ := [(Str.ofString "script", .d (.xls (ns.map D.int))), (Str.ofString "source", .unb)]) (by kernel_rfl), body166, rc_ex 99, exs_next ((for_run (for166 99 _ _) e hi).trans hx), exs_ret (last σ' G')]
    rfl
  obtain ⟨σ1, G1, e1, I1⟩ := law_turn (P := P) (G := []) (kn := 0) (by decide) hn (.inr rfl) I0
  by_cases z : ns.length ≤ 1
  · refine fin 1 (by decide) ?_ ⟨σ1, G1, ?_⟩
    · have : ¬ (2 : Int) < (ns.length : Int) := by omega
      rw [if_neg this]
      show some (D.int (if (1 : Int) < (ns.length : Int) then (ns.length : Int) else 1)) = _
      rw [if_neg (by omega)]; rfl
    · show forX _ _ _ _ _ [.int ((0 : Nat) : Int)] = _
      exact f_cons (tv 0 _ _) e1 f_nil
  · obtain ⟨σ2, G2, e2, I2⟩ := law_turn (P := P) (G := G1) (kn := 1) (by decide) hn (.inl (by omega)) I1
    refine fin 2 (by decide) ?_ ⟨σ2, G2, ?_⟩
    · have : (if (2 : Int) < (ns.length : Int) then (2 : Int) else (ns.length : Int)) = 2 := by split <;> omega
      rw [this]; rfl
    · show forX _ _ _ _ _ [.int ((0 : Nat) : Int), .int ((1 : Nat) : Int)] = _
      exact f_cons (tv 0 _ _) e1 (f_cons (tv 1 _ _) e2 f_nil)
end
theorem holds : PySem.Challenge.rw_on0201_01.Holds := holds_of (lawGoal_of fun P ns hn => law_ok (P := P) ns hn)
end Mine
end

theorem PySem.Challenge.cw_on0201_01_holds : PySem.Challenge.rw_on0201_01.Holds := by
  exact Mine.holds
