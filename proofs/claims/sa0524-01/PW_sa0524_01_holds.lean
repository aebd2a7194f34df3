import PyProof.Rows.All
import Wide.All
import OpenK.AllK
import Wide.FinOn
import Lean
import PySem.Challenge.RW_sa0524_01
set_option Elab.async false
set_option tactic.hygienic false
set_option genInjectivity false
set_option genSizeOf false
set_option genSizeOfSpec false
set_option linter.unusedVariables false
set_option maxRecDepth 100000
set_option maxHeartbeats 0
section
open PySem PySem.W PyProof.Rows
namespace Mine
noncomputable def nth:List Stmt→Nat→Stmt
 | [],_=>.Pass ⟨0,0,0,0⟩
 | s::_,0=>s
 | _::r,n + 1=>nth r n
noncomputable def tst (i:Nat):Stmt:=nth PySem.Challenge.pw_sa0524_01.main.body i
noncomputable def cst (i j:Nat):Stmt:=match tst i with | .ClassDef _ _ _ b _ _ _ _ _ _ _=>nth b j | s=>s
noncomputable def fArgs:Stmt→Arguments | .FunctionDef _ a _ _ _ _ _ _ _ _=>a | _=>⟨[],[],none,[],[],none,[]⟩
noncomputable def fBody:Stmt→List Stmt | .FunctionDef _ _ b _ _ _ _ _ _ _=>b | _=>[]
noncomputable def fName:Stmt→Str | .FunctionDef n _ _ _ _ _ _ _ _ _=>n | _=>""
noncomputable def fScope:Stmt→Scope | .FunctionDef _ _ _ _ _ _ s _ _ _=>s | _=>default
noncomputable def fo (st:Stmt) (q:Str) (g:Addr) (dfl mod code:Value):Data:=
 .func ⟨fName st,q,fArgs st,.stmts (fBody st),fScope st,g,[],dfl,.none,.none,mod,none,code,.none,0⟩
noncomputable def e (P:Params) (x:Str) (t:Nat) (v:Value):DictEntry:=⟨PyData.keyHash P x,.str x t,v⟩
noncomputable def puts:BT→Nat→List Obj→BT
 | t,_,[]=>t
 | t,n,o::r=>puts (t.ins n o) (n + 1) r
noncomputable def sets:BT→List (Addr×Obj)→BT
 | t,[]=>t
 | t,(a,o)::r=>sets (t.set a fun _=>o) r
noncomputable def env0:Env:={scope:=PySem.Challenge.pw_sa0524_01.main.scope,locals:=mainNs,globals:=mainNs,cells:=[],code:=.ref 13,frame:=some 14}
noncomputable def body0:List Stmt:=PySem.Challenge.pw_sa0524_01.main.body
noncomputable def ps (z:Pos) (i n:Nat):Thread:=piecesOf ((body0.drop i).take n) env0 (.body body0 env0) z [topFrame ⟨0,0,0,0⟩]
noncomputable abbrev seT:=@PySem.W.Fast.tw10110043849684766642
noncomputable abbrev tbT:=@PySem.W.Fast.tw14364793385576792824
noncomputable abbrev exT:=@PySem.W.Fast.tw12563942051412417395
noncomputable def psF (z:Pos) (i n:Nat):Thread:={cur:=Sem.wrap doneF deadEnd id id (exT ((body0.drop i).take n) env0),code:=.body body0 env0,pos:=z,stack:=[topFrame ⟨0,0,0,0⟩]}
theorem ps_eq (z:Pos) (i n:Nat):ps z i n=psF z i n:=by
 unfold ps psF piecesOf
 rw [PySem.W.Fast.te12563942051412417395]
theorem to_fast {w:World} {n:Nat} {S:SharedT} {z:Pos} {i k:Nat} {r:Option (Flow×SharedT×Code×Pos)} (h:seT tbT PySem.Challenge.pw_sa0524_01 w 11 (some (.ref 6)) 1 n S (psF z i k)=r):
  segRunT treeTable PySem.Challenge.pw_sa0524_01 w 11 (some (.ref 6)) 1 n S (ps z i k)=r:=by
 rw [ps_eq,PySem.W.Fast.te10110043849684766642,PySem.W.Fast.te14364793385576792824];exact h
noncomputable def gL (P:Params):List DictEntry:=[e P "__doc__" 166 .none,e P "__package__" 167 .none,e P "__loader__" 168 (.builtin "__main__.__loader__#opaque"),e P "__spec__" 169 .none,e P "__annotations__" 170 (.ref 6),e P "__builtins__" 171 (.ref 4),e P "__file__" 173 (.str "/claim/cut.py" 172),e P "__cached__" 174 .none,e P "_wall" 193 (.ref 21),e P "PaperError" 235 (.ref 46),e P "PaintFault" 251 (.ref 59),e P "FontFault" 267 (.ref 71),e P "Decimal" 393 (.ref 167),e P "sign_text" 400 (.ref 178),e P "sign_of" 407 (.ref 185),e P "decimal_of" 414 (.ref 192),e P "at_one_scale" 425 (.ref 199),e P "MOST_HOPS" 429 (.int 30 428),e P "Name" 458 (.ref 216),e P "String" 489 (.ref 238),e P "Stream" 520 (.ref 259),e P "Reference" 558 (.ref 287),e P "kind_of" 565 (.ref 298),e P "is_number" 572 (.ref 305),e P "told_plain" 580 (.ref 312),e P "told" 586 (.ref 317),e P "told_objects" 587 (.ref 317),e P "Lookup" 639 (.ref 349),e P "Shelf" 701 (.ref 403),e P "Matrix" 791 (.ref 455),e P "identity" 797 (.ref 466),e P "translation" 805 (.ref 473),e P "from_array" 812 (.ref 480),e P "Operation" 851 (.ref 502),e P "text_kinds" 859 (.ref 513),e P "fits_kind" 865 (.ref 518),e P "used_names" 871 (.ref 523),e P "MOST_FORMS_textout" 875 (.int 8 874),e P "PLACED_WORDS" 885 (.ref 524),e P "SPACING_WORDS" 891 (.ref 525),e P "Glyph" 935 (.ref 549),e P "TextSheet" 970 (.ref 570),e P "TextState" 1018 (.ref 605),e P "advance" 1028 (.ref 616),e P "along" 1038 (.ref 623),e P "shown_glyphs" 1056 (.ref 630),e P "check_operands" 1066 (.ref 637),e P "TextWalk" 1145 (.ref 689),e P "follow_placed" 1154 (.ref 700),e P "choose_font" 1162 (.ref 707),e P "follow_state" 1171 (.ref 714),e P "sheet_glyphs" 1185 (.ref 721),e P "lay_glyphs" 1192 (.ref 728),e P "resource_dict" 1202 (.ref 735),e P "form_matrix" 1208 (.ref 740),e P "is_form" 1217 (.ref 747),e P "text_sheet" 1242 (.ref 754),e P "MOST_LENGTH" 1246 (.int 4 1245),e P "HEX_SIGNS" 1248 (.str "0123456789ABCDEF" 1247),e P "CMap" 1285 (.ref 776),e P "code_of" 1294 (.ref 787),e P "code_octets" 1300 (.ref 792),e P "fitting" 1314 (.ref 799),e P "next_length" 1320 (.ref 804),e P "split_codes" 1332 (.ref 811),e P "LOW_NAMES" 1336 (.str "space exclam quotedbl numbersign dollar percent ampersand quotesingle parenleft parenright asterisk plus comma hyphen period slash zero one two three four five six seven eight nine colon semicolon less equal greater question at" 1335),e P "MIDDLE_NAMES" 1338 (.str "bracketleft backslash bracketright asciicircum underscore grave" 1337),e P "HIGH_NAMES" 1340 (.str "braceleft bar braceright asciitilde" 1339),e P "LATIN_NAMES" 1342 (.str "exclamdown cent sterling currency yen brokenbar section dieresis copyright ordfeminine guillemotleft logicalnot hyphen registered macron degree plusminus twosuperior threesuperior acute mu paragraph periodcentered cedilla onesuperior ordmasculine guillemotright onequarter onehalf threequarters questiondown Agrave Aacute Acircumflex Atilde Adieresis Aring AE Ccedilla Egrave Eacute Ecircumflex Edieresis Igrave Iacute Icircumflex Idieresis Eth Ntilde Ograve Oacute Ocircumflex Otilde Odieresis multiply Oslash Ugrave Uacute Ucircumflex Udieresis Yacute Thorn germandbls" 1341),e P "OTHER_CODES" 1460 (.ref 812),e P "SURROGATES" 1463 (.ref 815),e P "MOST_CODE" 1465 (.int 1114111 1464),e P "ascii_names" 1471 (.ref 820),e P "latin_names" 1477 (.ref 825),e P "hex_number" 1486 (.ref 832),e P "is_sign_code" 1493 (.ref 839),e P "known_code" 1501 (.ref 846),e P "part_text" 1507 (.ref 851),e P "glyph_text" 1513 (.ref 856),e P "width_in" 1527 (.ref 863),e P "standard_width" 1536 (.ref 870),e P "cid_of" 1549 (.ref 877),e P "Font" 1613 (.ref 913),e P "Path" 1644 (.ref 936),e P "pair_of" 1652 (.ref 947),e P "is_shut" 1659 (.ref 954),e P "current_point" 1667 (.ref 961),e P "drawn_parts" 1675 (.ref 968),e P "move_to" 1684 (.ref 975),e P "path_with" 1694 (.ref 982),e P "line_to" 1703 (.ref 989),e P "curve_to" 1713 (.ref 996),e P "curve_from" 1723 (.ref 1003),e P "curve_into" 1732 (.ref 1010),e P "close_path" 1740 (.ref 1017),e P "rectangle" 1756 (.ref 1024),e P "each_point" 1762 (.ref 1029),e P "transformed" 1771 (.ref 1036),e P "State" 1810 (.ref 1053),e P "first_colour" 1818 (.ref 1064),e P "first_values" 1827 (.ref 1071),e P "first_state" 1835 (.ref 1079),e P "copied_state" 1842 (.ref 1086),e P "numbers_of" 1848 (.ref 1091),e P "name_of" 1855 (.ref 1098),e P "choice_of" 1864 (.ref 1105),e P "colour_parts" 1874 (.ref 1112),e P "device_count" 1882 (.ref 1119),e P "own_colour" 1891 (.ref 1126),e P "set_colour" 1905 (.ref 1133),e P "set_dash" 1911 (.ref 1138),e P "set_line" 1921 (.ref 1145),e P "set_named" 1927 (.ref 1150),e P "set_text" 1938 (.ref 1157),e P "MOST_FORMS_painter" 1942 (.int 8 1941),e P "STATE_WORDS" 1946 (.ref 1158),e P "LINE_WORDS" 1955 (.ref 1159),e P "PATH_WORDS" 1963 (.ref 1160),e P "CLIP_WORDS" 1966 (.ref 1161),e P "PAINT_WORDS" 1977 (.ref 1162),e P "COLOUR_WORDS" 1990 (.ref 1163),e P "TEXT_WORDS" 1998 (.ref 1164),e P "PLACE_WORDS" 2003 (.ref 1165),e P "SHOW_WORDS" 2008 (.ref 1166),e P "NOTE_WORDS" 2014 (.ref 1167),e P "FILLS" 2036 (.ref 1168),e P "STROKES" 2043 (.ref 1169),e P "CLOSERS" 2047 (.ref 1170),e P "Painter" 2099 (.ref 1195),e P "paint_all" 2108 (.ref 1206),e P "put_mark" 2116 (.ref 1213),e P "check_place" 2125 (.ref 1220),e P "perform" 2134 (.ref 1227),e P "do_other" 2143 (.ref 1234),e P "do_state" 2152 (.ref 1241),e P "matrix_of" 2165 (.ref 1248),e P "named" 2175 (.ref 1255),e P "do_line" 2185 (.ref 1262),e P "do_path" 2191 (.ref 1267),e P "do_clip" 2199 (.ref 1274),e P "do_paint" 2209 (.ref 1281),e P "add_clip" 2218 (.ref 1288),e P "move_line" 2228 (.ref 1295),e P "do_place" 2240 (.ref 1302),e P "octets_of_row" 2249 (.ref 1309),e P "do_show" 2261 (.ref 1316),e P "do_object" 2273 (.ref 1323),e P "form_numbers" 2279 (.ref 1328),e P "enter_form" 2291 (.ref 1335),e P "do_form" 2306 (.ref 1342),e P "_law_texts" 2325 (.ref 1343),e P "_law_draw" 2335 (.ref 1352),e P "_law_pair" 2342 (.ref 1359),e P "_law_six" 2349 (.ref 1366),e P "_law_string" 2356 (.ref 1373),e P "_law_setting" 2363 (.ref 1380),e P "_law_deed" 2371 (.ref 1387),e P "_law_content" 2377 (.ref 1392),e P "_law_due" 2393 (.ref 1399),e P "law" 2399 (.ref 1404)]
noncomputable def gD (P:Params) (h:DictEntry) (n:Nat):Obj:=⟨(.type "dict"),none,(.dict ⟨h::(gL P).take n⟩ (n + 1)),⟨[]⟩⟩
noncomputable def lL:List (Int×Nat):=[(1,20),(5,27),(14,55),(16,67),(19,79),(68,177),(70,184),(74,191),(80,198),(87,205),(91,226),(96,248),(101,269),(109,297),(131,304),(133,311),(147,316),(157,323),(176,359),(197,411),(230,465),(232,472),(234,479),(239,486),(247,512),(258,517),(266,522),(284,531),(295,559),(302,580),(319,615),(325,622),(328,629),(341,636),(350,643),(383,699),(405,706),(410,713),(423,720),(445,727),(447,734),(450,739),(458,746),(463,753),(487,760),(495,786),(500,791),(502,798),(510,803),(519,810),(536,819),(540,824),(545,831),(552,838),(554,845),(564,850),(577,855),(580,862),(585,869),(588,876),(594,883),(622,923),(626,946),(628,953),(630,960),(637,967),(640,974),(642,981),(650,988),(652,995),(654,1002),(659,1009),(661,1016),(668,1023),(676,1028),(681,1035),(684,1042),(692,1063),(701,1070),(710,1078),(713,1085),(715,1090),(722,1097),(726,1104),(731,1111),(741,1118),(744,1125),(751,1132),(766,1137),(774,1144),(788,1149),(802,1156),(829,1176),(849,1205),(856,1212),(859,1219),(865,1226),(887,1233),(906,1240),(915,1247),(918,1254),(923,1261),(935,1266),(958,1273),(962,1280),(975,1287),(978,1294),(981,1301),(995,1308),(1005,1315),(1024,1322),(1037,1327),(1044,1334),(1055,1341),(1074,1351),(1078,1358),(1080,1365),(1082,1372),(1084,1379),(1088,1386),(1103,1391),(1124,1398),(1133,1403)]
noncomputable def lF:List (Int×Nat)→List Value
 | []=>[]
 | (a,b)::r=>.int a 0:: .int 0 0:: .ref b::lF r
noncomputable def lD (n:Nat):Obj:=⟨.none,none,(.fields ⟨lF (lL.take (n / 3))⟩),⟨[]⟩⟩
noncomputable def o0 (a:Str) (b:Nat) (c:Str) (d:Int) (f:Int) (g:Nat) (h:Int) (i:Nat):Obj:=⟨(.type "code"),none,(.fields ⟨[(.str a b),(.str c (b + 1)),(.str "/claim/cut.py" (b + 2)),(.int d 0),(.int f 0),(.int 0 0),(.int 0 0),(.int 3 0),(.ref g),(.bool true),(.int 181 0),(.ref (g + 1)),.none,(.ref (g + 2)),(.ref (g + 3)),(.ref (g + 4)),(.int h 0),(.int d 0),(.str "/claim/cut.py" i)]⟩),⟨[]⟩⟩
noncomputable def o1:Obj:=⟨(.type "tuple"),none,(.seq ⟨[]⟩ 0),⟨[]⟩⟩
noncomputable def o2 (a:Nat) (b:Str) (c:Str) (d:Nat) (f:Nat):Obj:=⟨(.type "function"),none,(fo (tst a) b 3 .none (.str c d) (.ref f)),⟨[]⟩⟩
noncomputable def o3 (a:Str) (b:Nat) (c:Str) (d:Int) (f:Int) (g:Nat) (h:Int):Obj:=⟨(.type "code"),none,(.fields ⟨[(.str a b),(.str c (b + 1)),(.str "/claim/cut.py" (b + 2)),(.int d 0),(.int f 0),(.int 0 0),(.int 0 0),(.int 3 0),(.ref g),(.bool true),(.int 181 0),(.ref (g + 1)),.none,.none,.none,(.ref (g + 2)),(.int h 0),(.int d 0),(.str "/claim/cut.py" (b + 4))]⟩),⟨[]⟩⟩
noncomputable def o4 (P:Params):Obj:=⟨(.type "dict"),none,(.dict ⟨[e P "__name__" 1 (.str "builtins" 160),e P "__doc__" 2 (.builtin "builtins.__doc__:str#opaque"),e P "__package__" 3 (.builtin "builtins.__package__:str#opaque"),e P "__loader__" 4 (.builtin "builtins.__loader__:shared#opaque"),e P "__spec__" 5 (.builtin "builtins.__spec__#opaque"),e P "__build_class__" 6 (.builtin "__build_class__"),e P "__import__" 7 (.builtin "__import__"),e P "abs" 8 (.builtin "abs"),e P "all" 9 (.builtin "all"),e P "any" 10 (.builtin "any"),e P "ascii" 11 (.builtin "ascii"),e P "bin" 12 (.builtin "bin"),e P "breakpoint" 13 (.builtin "breakpoint"),e P "callable" 14 (.builtin "callable"),e P "chr" 15 (.builtin "chr"),e P "compile" 16 (.builtin "compile"),e P "delattr" 17 (.builtin "delattr"),e P "dir" 18 (.builtin "dir"),e P "divmod" 19 (.builtin "divmod"),e P "eval" 20 (.builtin "eval"),e P "exec" 21 (.builtin "exec"),e P "format" 22 (.builtin "format"),e P "getattr" 23 (.builtin "getattr"),e P "globals" 24 (.builtin "globals"),e P "hasattr" 25 (.builtin "hasattr"),e P "hash" 26 (.builtin "hash"),e P "hex" 27 (.builtin "hex"),e P "id" 28 (.builtin "id"),e P "input" 29 (.builtin "input"),e P "isinstance" 30 (.builtin "isinstance"),e P "issubclass" 31 (.builtin "issubclass"),e P "iter" 32 (.builtin "iter"),e P "aiter" 33 (.builtin "aiter"),e P "len" 34 (.builtin "len"),e P "locals" 35 (.builtin "locals"),e P "max" 36 (.builtin "max"),e P "min" 37 (.builtin "min"),e P "next" 38 (.builtin "next"),e P "anext" 39 (.builtin "anext"),e P "oct" 40 (.builtin "oct"),e P "ord" 41 (.builtin "ord"),e P "pow" 42 (.builtin "pow"),e P "print" 43 (.builtin "print"),e P "repr" 44 (.builtin "repr"),e P "round" 45 (.builtin "round"),e P "setattr" 46 (.builtin "setattr"),e P "sorted" 47 (.builtin "sorted"),e P "sum" 48 (.builtin "sum"),e P "vars" 49 (.builtin "vars"),e P "None" 50 .none,e P "Ellipsis" 51 .ellipsis,e P "NotImplemented" 52 .notImplemented,e P "False" 53 (.bool false),e P "True" 54 (.bool true),e P "bool" 55 (.type "bool"),e P "memoryview" 56 (.type "memoryview"),e P "bytearray" 57 (.type "bytearray"),e P "bytes" 58 (.type "bytes"),e P "classmethod" 59 (.type "classmethod"),e P "complex" 60 (.type "complex"),e P "dict" 61 (.type "dict"),e P "enumerate" 62 (.type "enumerate"),e P "filter" 63 (.type "filter"),e P "float" 64 (.type "float"),e P "frozenset" 65 (.type "frozenset"),e P "property" 66 (.type "property"),e P "int" 67 (.type "int"),e P "list" 68 (.type "list"),e P "map" 69 (.type "map"),e P "object" 70 (.type "object"),e P "range" 71 (.type "range"),e P "reversed" 72 (.type "reversed"),e P "set" 73 (.type "set"),e P "slice" 74 (.type "slice"),e P "staticmethod" 75 (.type "staticmethod"),e P "str" 76 (.type "str"),e P "super" 77 (.type "super"),e P "tuple" 78 (.type "tuple"),e P "type" 79 (.type "type"),e P "zip" 80 (.type "zip"),e P "__debug__" 81 (.bool true),e P "BaseException" 82 (.type "BaseException"),e P "BaseExceptionGroup" 83 (.type "BaseExceptionGroup"),e P "Exception" 84 (.type "Exception"),e P "GeneratorExit" 85 (.type "GeneratorExit"),e P "KeyboardInterrupt" 86 (.type "KeyboardInterrupt"),e P "SystemExit" 87 (.type "SystemExit"),e P "ArithmeticError" 88 (.type "ArithmeticError"),e P "AssertionError" 89 (.type "AssertionError"),e P "AttributeError" 90 (.type "AttributeError"),e P "BufferError" 91 (.type "BufferError"),e P "EOFError" 92 (.type "EOFError"),e P "ImportError" 93 (.type "ImportError"),e P "LookupError" 94 (.type "LookupError"),e P "MemoryError" 95 (.type "MemoryError"),e P "NameError" 96 (.type "NameError"),e P "OSError" 97 (.type "OSError"),e P "ReferenceError" 98 (.type "ReferenceError"),e P "RuntimeError" 99 (.type "RuntimeError"),e P "StopAsyncIteration" 100 (.type "StopAsyncIteration"),e P "StopIteration" 101 (.type "StopIteration"),e P "SyntaxError" 102 (.type "SyntaxError"),e P "SystemError" 103 (.type "SystemError"),e P "TypeError" 104 (.type "TypeError"),e P "ValueError" 105 (.type "ValueError"),e P "Warning" 106 (.type "Warning"),e P "FloatingPointError" 107 (.type "FloatingPointError"),e P "OverflowError" 108 (.type "OverflowError"),e P "ZeroDivisionError" 109 (.type "ZeroDivisionError"),e P "BytesWarning" 110 (.type "BytesWarning"),e P "DeprecationWarning" 111 (.type "DeprecationWarning"),e P "EncodingWarning" 112 (.type "EncodingWarning"),e P "FutureWarning" 113 (.type "FutureWarning"),e P "ImportWarning" 114 (.type "ImportWarning"),e P "PendingDeprecationWarning" 115 (.type "PendingDeprecationWarning"),e P "ResourceWarning" 116 (.type "ResourceWarning"),e P "RuntimeWarning" 117 (.type "RuntimeWarning"),e P "SyntaxWarning" 118 (.type "SyntaxWarning"),e P "UnicodeWarning" 119 (.type "UnicodeWarning"),e P "UserWarning" 120 (.type "UserWarning"),e P "BlockingIOError" 121 (.type "BlockingIOError"),e P "ChildProcessError" 122 (.type "ChildProcessError"),e P "ConnectionError" 123 (.type "ConnectionError"),e P "FileExistsError" 124 (.type "FileExistsError"),e P "FileNotFoundError" 125 (.type "FileNotFoundError"),e P "InterruptedError" 126 (.type "InterruptedError"),e P "IsADirectoryError" 127 (.type "IsADirectoryError"),e P "NotADirectoryError" 128 (.type "NotADirectoryError"),e P "PermissionError" 129 (.type "PermissionError"),e P "ProcessLookupError" 130 (.type "ProcessLookupError"),e P "TimeoutError" 131 (.type "TimeoutError"),e P "IndentationError" 132 (.type "IndentationError"),e P "_IncompleteInputError" 133 (.type "_IncompleteInputError"),e P "IndexError" 134 (.type "IndexError"),e P "KeyError" 135 (.type "KeyError"),e P "ModuleNotFoundError" 136 (.type "ModuleNotFoundError"),e P "NotImplementedError" 137 (.type "NotImplementedError"),e P "PythonFinalizationError" 138 (.type "PythonFinalizationError"),e P "RecursionError" 139 (.type "RecursionError"),e P "UnboundLocalError" 140 (.type "UnboundLocalError"),e P "UnicodeError" 141 (.type "UnicodeError"),e P "BrokenPipeError" 142 (.type "BrokenPipeError"),e P "ConnectionAbortedError" 143 (.type "ConnectionAbortedError"),e P "ConnectionRefusedError" 144 (.type "ConnectionRefusedError"),e P "ConnectionResetError" 145 (.type "ConnectionResetError"),e P "TabError" 146 (.type "TabError"),e P "UnicodeDecodeError" 147 (.type "UnicodeDecodeError"),e P "UnicodeEncodeError" 148 (.type "UnicodeEncodeError"),e P "UnicodeTranslateError" 149 (.type "UnicodeTranslateError"),e P "ExceptionGroup" 150 (.type "ExceptionGroup"),e P "EnvironmentError" 151 (.type "OSError"),e P "IOError" 152 (.type "OSError"),e P "open" 153 (.builtin "open"),e P "quit" 154 (.builtin "builtins.quit#opaque"),e P "exit" 155 (.builtin "builtins.exit#opaque"),e P "copyright" 156 (.builtin "builtins.copyright#opaque"),e P "credits" 157 (.builtin "builtins.credits#opaque"),e P "license" 158 (.builtin "builtins.license#opaque"),e P "help" 159 (.builtin "builtins.help#opaque")]⟩ 159),⟨[]⟩⟩
noncomputable def o5 (a:Str) (b:Nat) (c:Nat) (d:Nat):Obj:=⟨(.type "type"),none,(.cls ⟨a,[(.type "object")],[(.ref b),(.type "object")],c,a,true,[],[],false,none,false⟩),⟨[none,none,(some (.str a d)),(some (.str a (d + 8))),(some (.builtin "object.__new__")),(some (.bool true))]⟩⟩
noncomputable def o6 (a:Nat) (b:Nat) (c:Str) (d:Str) (f:Nat) (g:Nat):Obj:=⟨(.type "function"),none,(fo (cst a b) c 3 .none (.str d f) (.ref g)),⟨[]⟩⟩
noncomputable def o7 (a:Str) (b:Nat) (c:Int) (d:Nat) (f:Int) (g:Int):Obj:=⟨(.type "code"),none,(.fields ⟨[(.str a b),(.str a (b + 1)),(.str "/claim/cut.py" (b + 2)),(.int c 0),(.int 0 0),(.int 0 0),(.int 0 0),(.int 0 0),(.ref d),(.bool false),(.int f 0),(.ref (d + 1)),.none,.none,.none,.none,(.int g 0),(.int c 0),(.str "/claim/cut.py" (b + 4))]⟩),⟨[]⟩⟩
noncomputable def o8 (a:Nat) (b:Str):Obj:=⟨.none,none,(fo (tst a) b 0 .none .none .none),⟨[]⟩⟩
noncomputable def o9:Obj:=⟨.none,none,(.fields ⟨[]⟩),⟨[]⟩⟩
noncomputable def o10 (a:Nat) (b:Nat) (c:Str):Obj:=⟨.none,none,(fo (cst a b) c 0 .none .none .none),⟨[]⟩⟩
noncomputable def o11 (a:Nat) (b:Nat) (c:Str) (d:Nat):Obj:=⟨(.type "frame"),none,.plain,⟨[(some (.ref a)),(some (.ref 3)),(some (.ref b)),none,(some (.str c d)),none,(some (.ref 0))]⟩⟩
noncomputable def o12 (a:Str) (b:Nat) (c:Str) (d:Str):Obj:=⟨(.type "tuple"),none,(.seq ⟨[(.str a b),(.str c (b + 1)),(.str d (b + 2))]⟩ 0),⟨[]⟩⟩
noncomputable def o13 (a:Str) (b:Nat) (c:Str):Obj:=⟨(.type "tuple"),none,(.seq ⟨[(.str a b),(.str c (b + 1))]⟩ 0),⟨[]⟩⟩
noncomputable def o14 (P:Params) (a:Nat) (b:Str) (c:Nat) (d:Int) (f:Nat) (g:Nat) (h:Str) (i:Nat) (j:Nat) (k:Str) (l:Nat) (m:Nat) (n:Nat):Obj:=⟨(.type "dict"),none,(.dict ⟨[e P "__module__" a (.str b c),e P "__firstlineno__" (a + 4) (.int d (a + 3)),e P "__init__" f (.ref g),e P h i (.ref j),e P k l (.ref m),e P "__weakref__" (l + 2) (.ref (j + 4)),e P "__doc__" (l + 3) .none]⟩ n),⟨[]⟩⟩
noncomputable def o15 (a:Str) (b:Nat) (c:Str) (d:Str) (f:Str):Obj:=⟨(.type "tuple"),none,(.seq ⟨[(.str a b),(.str c (b + 1)),(.str d (b + 2)),(.str f (b + 3))]⟩ 0),⟨[]⟩⟩
noncomputable def o16 (P:Params) (a:Nat) (b:Str) (c:Nat) (d:Int) (f:Nat) (g:Nat) (h:Str) (i:Nat) (j:Nat) (k:Nat):Obj:=⟨(.type "dict"),none,(.dict ⟨[e P "__module__" a (.str b c),e P "__firstlineno__" (a + 4) (.int d (a + 3)),e P "__init__" f (.ref g),e P h i (.ref j),e P "__static_attributes__" k (.ref (j + 1)),e P "__dict__" (k + 2) (.ref (j + 4)),e P "__weakref__" (k + 4) (.ref (j + 5)),e P "__doc__" (k + 5) .none]⟩ 4),⟨[]⟩⟩
noncomputable def o17 (a:Nat) (b:Nat):Obj:=⟨(.type "getset_descriptor"),none,(.fields ⟨[(.str "__dict__" a),(.ref b),(.builtin "function.__dict__"),(.builtin "function.__dict__#set")]⟩),⟨[]⟩⟩
noncomputable def o18 (a:Str) (b:Nat):Obj:=⟨(.type "tuple"),none,(.seq ⟨[(.str a b)]⟩ 0),⟨[]⟩⟩
noncomputable def o19 (a:Nat) (b:Nat):Obj:=⟨(.type "getset_descriptor"),none,(.fields ⟨[(.str "__weakref__" a),(.ref b),(.builtin "ExceptionGroup.__weakref__"),.none]⟩),⟨[]⟩⟩
noncomputable def o20 (a:Str) (b:Nat) (c:Str) (d:Str) (f:Str) (g:Str):Obj:=⟨(.type "tuple"),none,(.seq ⟨[(.str a b),(.str c (b + 1)),(.str d (b + 2)),(.str f (b + 3)),(.str g (b + 4))]⟩ 0),⟨[]⟩⟩
noncomputable def o21 (a:Str) (b:Nat) (c:Str) (d:Str) (f:Str) (g:Str) (h:Str):Obj:=⟨(.type "tuple"),none,(.seq ⟨[(.str a b),(.str c (b + 1)),(.str d (b + 2)),(.str f (b + 3)),(.str g (b + 4)),(.str h (b + 5))]⟩ 0),⟨[]⟩⟩
noncomputable def o22 (a:Nat):Obj:=⟨(.type "super"),none,(.fields ⟨[(.ref a),(.ref a),(.ref a)]⟩),⟨[]⟩⟩
noncomputable def o23:Obj:=⟨(.type "builtin_function_or_method"),none,(.fields ⟨[(.builtin "type.__prepare__"),(.type "type")]⟩),⟨[]⟩⟩
noncomputable def o24 (a:Nat):Obj:=⟨(.type "builtin_function_or_method"),none,(.fields ⟨[(.builtin "object.__init_subclass__"),(.ref a)]⟩),⟨[]⟩⟩
noncomputable def o25 (P:Params) (a:Nat) (b:Str) (c:Nat) (d:Int) (f:Nat) (g:Nat) (h:Str) (i:Nat) (j:Str) (k:Nat) (l:Str) (m:Nat) (n:Str) (o:Str) (p:Nat):Obj:=⟨(.type "dict"),none,(.dict ⟨[e P "__module__" a (.str b c),e P "__firstlineno__" (a + 4) (.int d (a + 3)),e P "__init__" f (.ref g),e P h i (.ref (g + 7)),e P j k (.ref (g + 14)),e P l m (.ref (g + 21)),e P n (m + 7) (.ref (g + 28)),e P o (k + 24) (.ref p),e P "__static_attributes__" (k + 31) (.ref (p + 1)),e P "__dict__" (k + 33) (.ref (p + 4)),e P "__weakref__" (k + 35) (.ref (p + 5)),e P "__doc__" (k + 36) .none]⟩ 4),⟨[]⟩⟩
noncomputable def o26 (a:Str) (b:Nat) (c:Str) (d:Str) (f:Str) (g:Str) (h:Str) (i:Str):Obj:=⟨(.type "tuple"),none,(.seq ⟨[(.str a b),(.str c (b + 1)),(.str d (b + 2)),(.str f (b + 3)),(.str g (b + 4)),(.str h (b + 5)),(.str i (b + 6))]⟩ 0),⟨[]⟩⟩
noncomputable def o27 (a:Str) (b:Nat) (c:Str) (d:Str) (f:Str) (g:Str) (h:Str) (i:Str) (j:Str):Obj:=⟨(.type "tuple"),none,(.seq ⟨[(.str a b),(.str c (b + 1)),(.str d (b + 2)),(.str f (b + 3)),(.str g (b + 4)),(.str h (b + 5)),(.str i (b + 6)),(.str j (b + 7))]⟩ 0),⟨[]⟩⟩
noncomputable def o28 (P:Params) (a:Nat) (b:Str) (c:Nat) (d:Str) (f:Int) (g:Nat) (h:Nat) (i:Str) (j:Nat) (k:Nat) (l:Nat):Obj:=⟨(.type "dict"),none,(.dict ⟨[e P "__module__" a (.str b c),e P "__qualname__" (a + 2) (.str d (a + 1)),e P "__firstlineno__" (a + 4) (.int f (a + 3)),e P "__init__" g (.ref h),e P i j (.ref k),e P "__static_attributes__" l (.ref (k + 1))]⟩ 6),⟨[]⟩⟩
noncomputable def o29 (P:Params) (a:Nat) (b:Str) (c:Nat) (d:Int) (f:Str) (g:Nat) (h:Nat) (i:Str) (j:Nat) (k:Nat) (l:Str) (m:Nat) (n:Str) (o:Str) (p:Nat) (q:Nat) (r:Str) (s:Nat) (t:Nat) (u:Str) (v:Nat):Obj:=⟨(.type "dict"),none,(.dict ⟨[e P "__module__" a (.str b c),e P "__firstlineno__" (a + 4) (.int d (a + 3)),e P f g (.ref h),e P i j (.ref k),e P l m (.ref (k + 7)),e P n (g + 23) (.ref (k + 14)),e P o p (.ref q),e P r s (.ref t),e P u (j + 29) (.ref (t + 1)),e P "__doc__" (j + 30) .none]⟩ v),⟨[]⟩⟩
noncomputable def o30 (P:Params) (a:Nat) (b:Str) (c:Nat) (d:Str) (f:Int) (g:Nat) (h:Nat) (i:Nat):Obj:=⟨(.type "dict"),none,(.dict ⟨[e P "__module__" a (.str b c),e P "__qualname__" (a + 2) (.str d (a + 1)),e P "__firstlineno__" (a + 4) (.int f (a + 3)),e P "__init__" g (.ref h),e P "__static_attributes__" i (.ref (h + 1))]⟩ 5),⟨[]⟩⟩
noncomputable def o31 (P:Params) (a:Nat) (b:Str) (c:Nat) (d:Int) (f:Nat) (g:Nat) (h:Str) (i:Nat) (j:Str) (k:Nat) (l:Nat):Obj:=⟨(.type "dict"),none,(.dict ⟨[e P "__module__" a (.str b c),e P "__firstlineno__" (a + 4) (.int d (a + 3)),e P "__init__" f (.ref g),e P h i (.ref (g + 7)),e P j k (.ref (g + 14)),e P "__static_attributes__" l (.ref (g + 15)),e P "__dict__" (l + 2) (.ref (g + 18)),e P "__weakref__" (l + 4) (.ref (g + 19)),e P "__doc__" (l + 5) .none]⟩ 4),⟨[]⟩⟩
noncomputable def o32 (P:Params):Obj:=⟨(.type "dict"),none,(.dict ⟨[e P "__module__" 277 (.str "paperhold.decimals" 268),e P "__firstlineno__" 281 (.int 19 280),e P "__init__" 290 (.ref 87),e P "plus" 301 (.ref 94),e P "minus" 312 (.ref 101),e P "times" 321 (.ref 108),e P "negated" 328 (.ref 115),e P "compared" 339 (.ref 122),e P "is_whole" 346 (.ref 129),e P "floor" 353 (.ref 136),e P "rounded" 361 (.ref 143),e P "told" 368 (.ref 150),e P "text" 376 (.ref 157),e P "least_text" 383 (.ref 164),e P "__static_attributes__" 386 (.ref 165),e P "__dict__" 388 (.ref 168),e P "__weakref__" 390 (.ref 169),e P "__doc__" 391 .none]⟩ 4),⟨[]⟩⟩
noncomputable def o33 (P:Params) (a:Nat) (b:Str) (c:Nat) (d:Str) (f:Int) (g:Str) (h:Nat) (i:Nat) (j:Str) (k:Nat) (l:Str) (m:Nat) (n:Str) (o:Nat) (p:Str) (q:Str) (r:Nat) (s:Nat) (t:Nat):Obj:=⟨(.type "dict"),none,(.dict ⟨[e P "__module__" a (.str b c),e P "__qualname__" (a + 2) (.str d (a + 1)),e P "__firstlineno__" (a + 4) (.int f (a + 3)),e P g h (.ref i),e P j k (.ref (i + 7)),e P l m (.ref (i + 14)),e P n o (.ref (i + 21)),e P p (o + 7) (.ref (i + 28)),e P q r (.ref s),e P "__static_attributes__" t (.ref (s + 1))]⟩ 10),⟨[]⟩⟩
noncomputable def o34 (a:Str) (b:Nat) (c:Str) (d:Str) (f:Str) (g:Str) (h:Str) (i:Str) (j:Str) (k:Str) (l:Str):Obj:=⟨(.type "tuple"),none,(.seq ⟨[(.str a b),(.str c (b + 1)),(.str d (b + 2)),(.str f (b + 3)),(.str g (b + 4)),(.str h (b + 5)),(.str i (b + 6)),(.str j (b + 7)),(.str k (b + 8)),(.str l (b + 9))]⟩ 0),⟨[]⟩⟩
noncomputable def o35 (a:Int) (b:Nat) (c:Int) (d:Int) (f:Int) (g:Int) (h:Nat):Obj:=⟨.none,none,(.fields ⟨[(.int a 0),(.int 4 0),(.ref b),(.int c 0),(.int 4 0),(.ref (b + 7)),(.int d 0),(.int 4 0),(.ref (b + 14)),(.int f 0),(.int 4 0),(.ref (b + 21)),(.int g 0),(.int 4 0),(.ref (b + 28)),(.int (g + 3) 0),(.int 4 0),(.ref h)]⟩),⟨[]⟩⟩
noncomputable def o36 (a:Nat) (b:Str) (c:Nat) (d:Str) (f:Nat):Obj:=⟨(.type "function"),none,(fo (cst a 0) b 3 (.ref c) (.str d f) (.ref (c + 6))),⟨[]⟩⟩
noncomputable def o37 (a:Str) (b:Nat) (c:Str) (d:Str) (f:Str) (g:Str) (h:Str) (i:Str) (j:Str) (k:Str) (l:Str) (m:Str) (n:Str):Obj:=⟨(.type "tuple"),none,(.seq ⟨[(.str a b),(.str c (b + 1)),(.str d (b + 2)),(.str f (b + 3)),(.str g (b + 4)),(.str h (b + 5)),(.str i (b + 6)),(.str j (b + 7)),(.str k (b + 8)),(.str l (b + 9)),(.str m (b + 10)),(.str n (b + 11))]⟩ 0),⟨[]⟩⟩
noncomputable def o38 (a:Int) (b:Nat) (c:Int) (d:Nat):Obj:=⟨.none,none,(.fields ⟨[(.int a 0),(.int 4 0),(.ref b),(.int c 0),(.int 4 0),(.ref d)]⟩),⟨[]⟩⟩
noncomputable def o39 (a:Str) (b:Nat) (c:Nat) (d:Nat) (f:Nat):Obj:=⟨(.type "type"),none,(.cls ⟨a,[(.ref 46)],[(.ref b),(.ref 46),(.type "Exception"),(.type "BaseException"),(.type "object")],c,a,true,[],[],false,none,false⟩),⟨[(some (.ref d)),none,(some (.str a f)),(some (.str a (f + 8))),(some (.builtin "Exception.__new__")),(some (.bool true))]⟩⟩
noncomputable def o40 (a:Str) (b:Nat) (c:Str) (d:Str) (f:Str) (g:Str) (h:Str) (i:Str) (j:Str) (k:Str):Obj:=⟨(.type "tuple"),none,(.seq ⟨[(.str a b),(.str c (b + 1)),(.str d (b + 2)),(.str f (b + 3)),(.str g (b + 4)),(.str h (b + 5)),(.str i (b + 6)),(.str j (b + 7)),(.str k (b + 8))]⟩ 0),⟨[]⟩⟩
noncomputable def o41:Obj:=⟨(.type "type"),none,(.cls ⟨"Shelf",[(.ref 349)],[(.ref 403),(.ref 349),(.type "object")],402,"Shelf",true,[],[],false,none,false⟩),⟨[(some (.ref 354)),none,(some (.str "Shelf" 640)),(some (.str "Shelf" 648)),(some (.builtin "object.__new__")),(some (.bool true))]⟩⟩
noncomputable def o42:Obj:=⟨(.type "type"),none,(.cls ⟨"Lookup",[(.type "object")],[(.ref 349),(.type "object")],348,"Lookup",true,[],[(.ref 403)],false,none,false⟩),⟨[none,none,(some (.str "Lookup" 588)),(some (.str "Lookup" 596)),(some (.builtin "object.__new__")),(some (.bool true))]⟩⟩
noncomputable def o43 (a:Nat) (b:Str) (c:Str):Obj:=⟨(.type "dict"),none,(.dict ⟨[⟨65,(.int 65 a),(.str b (a + 1))⟩,⟨66,(.int 66 (a + 2)),(.str c (a + 3))⟩]⟩ 2),⟨[]⟩⟩
noncomputable def o44 (a:Int) (b:Nat):Obj:=⟨.none,none,(.fields ⟨[(.int a 0),(.int 4 0),(.ref b)]⟩),⟨[]⟩⟩
noncomputable def o45 (P:Params) (a:Nat) (b:Str) (c:Int) (d:Nat):Obj:=⟨(.type "dict"),none,(.dict ⟨[e P "__module__" a (.str "paperhold.errors" 194),e P "__qualname__" (a + 2) (.str b (a + 1)),e P "__firstlineno__" (a + 4) (.int c (a + 3)),e P "__static_attributes__" (a + 5) (.ref d)]⟩ 4),⟨[]⟩⟩
noncomputable def o46 (P:Params) (a:Nat) (b:Int) (c:Nat):Obj:=⟨(.type "dict"),none,(.dict ⟨[e P "__module__" a (.str "paperhold.errors" 194),e P "__firstlineno__" (a + 4) (.int b (a + 3)),e P "__static_attributes__" (a + 5) (.ref c),e P "__doc__" (a + 6) .none]⟩ 2),⟨[]⟩⟩
noncomputable def O0 (P:Params):List Obj:=[o4 P,⟨(.type "dict"),none,(.dict ⟨[e P "builtins" 162 (.ref 4),e P "__main__" 163 (.ref 5)]⟩ 2),⟨[]⟩⟩,⟨.none,none,(.dict ⟨[]⟩ 0),⟨[]⟩⟩,⟨(.type "dict"),none,(.dict ⟨[e P "__name__" 165 (.str "__main__" 164),e P "__doc__" 166 .none,e P "__package__" 167 .none,e P "__loader__" 168 (.builtin "__main__.__loader__#opaque"),e P "__spec__" 169 .none,e P "__annotations__" 170 (.ref 6),e P "__builtins__" 171 (.ref 4),e P "__file__" 173 (.str "/claim/cut.py" 172),e P "__cached__" 174 .none]⟩ 9),⟨[]⟩⟩,⟨(.type "module"),some 0,.plain,⟨[]⟩⟩,⟨(.type "module"),some 3,.plain,⟨[]⟩⟩,⟨(.type "dict"),none,(.dict ⟨[]⟩ 0),⟨[]⟩⟩,o1,o9,o7 "<module>" 176 1 7 175 179,o11 9 3 "__main__" 164,o1,o9,o7 "<module>" 182 1 11 181 185,o11 13 3 "__main__" 164]
noncomputable def U0 (P:Params):List (Addr×Obj):=[(2,⟨.none,none,(.dict ⟨[e P "type.__subclasses__.Exception.0" 232 (.int 46 0),e P "type.__subclasses__.Exception.n" 233 (.int 1 0)]⟩ 2),⟨[]⟩⟩),(3,gD P (e P "__name__" 165 (.str "paperhold.errors" 194)) 10),(12,lD 6)]
noncomputable def N0 (P:Params):List Obj:=[o1,o9,o18 "k" 190,o1,o8 0 "_wall",o0 "_wall" 187 "_wall" 1 1 15 191 192,o2 0 "_wall" "__main__" 164 20,⟨(.type "tuple"),none,(.seq ⟨[(.type "Exception")]⟩ 0),⟨[]⟩⟩,o23,o28 P 203 "paperhold.errors" 194 "PaperError" 5 218 36 "told" 225 43 228,o1,o38 7 35 12 42,o7 "PaperError" 198 5 25 181 201,o11 27 24 "paperhold.errors" 194,⟨(.type "tuple"),none,(.seq ⟨[(.int (-1) 209)]⟩ 0),⟨[]⟩⟩,o1,o9,o12 "self" 213 "what" "at",o1,o10 2 0 "PaperError.__init__",o0 "__init__" 210 "PaperError.__init__" 7 3 30 216 217,o36 2 "PaperError.__init__" 29 "paperhold.errors" 194,o1,o9,o18 "self" 222,o1,o10 2 1 "PaperError.told",o0 "told" 219 "PaperError.told" 12 1 37 223 224,o6 2 1 "PaperError.told" "paperhold.errors" 194 42,o13 "at" 226 "what",o14 P 203 "paperhold.errors" 194 5 218 36 "told" 225 43 "__static_attributes__" 228 44 3,⟨(.type "type"),none,(.cls ⟨"PaperError",[(.type "Exception")],[(.ref 46),(.type "Exception"),(.type "BaseException"),(.type "object")],45,"PaperError",true,[],[],false,none,false⟩),⟨[(some (.ref 22)),none,(some (.str "PaperError" 196)),(some (.str "PaperError" 204)),(some (.builtin "Exception.__new__")),(some (.bool true))]⟩⟩,o19 229 46,o22 46,o24 46]
noncomputable def U1 (P:Params):List (Addr×Obj):=[(3,gD P (e P "__name__" 165 (.str "paperhold.errors" 194)) 11),(12,lD 9),(46,⟨(.type "type"),none,(.cls ⟨"PaperError",[(.type "Exception")],[(.ref 46),(.type "Exception"),(.type "BaseException"),(.type "object")],45,"PaperError",true,[],[(.ref 59)],false,none,false⟩),⟨[(some (.ref 22)),none,(some (.str "PaperError" 196)),(some (.str "PaperError" 204)),(some (.builtin "Exception.__new__")),(some (.bool true))]⟩⟩)]
noncomputable def N1 (P:Params):List Obj:=[⟨(.type "tuple"),none,(.seq ⟨[(.ref 46)]⟩ 0),⟨[]⟩⟩,o23,o45 P 243 "PaintFault" 14 57,o1,o9,o7 "PaintFault" 238 14 53 181 241,o11 55 52 "paperhold.errors" 194,o1,o46 P 243 14 57,o39 "PaintFault" 59 58 50 236,o22 59,o24 59]
noncomputable def U2 (P:Params):List (Addr×Obj):=[(3,gD P (e P "__name__" 165 (.str "paperhold.decimals" 268)) 12),(12,lD 12),(46,⟨(.type "type"),none,(.cls ⟨"PaperError",[(.type "Exception")],[(.ref 46),(.type "Exception"),(.type "BaseException"),(.type "object")],45,"PaperError",true,[],[(.ref 59),(.ref 71)],false,none,false⟩),⟨[(some (.ref 22)),none,(some (.str "PaperError" 196)),(some (.str "PaperError" 204)),(some (.builtin "Exception.__new__")),(some (.bool true))]⟩⟩)]
noncomputable def N2 (P:Params):List Obj:=[⟨(.type "tuple"),none,(.seq ⟨[(.ref 46)]⟩ 0),⟨[]⟩⟩,o23,o45 P 259 "FontFault" 16 69,o1,o9,o7 "FontFault" 254 16 65 181 257,o11 67 64 "paperhold.errors" 194,o1,o46 P 259 16 69,o39 "FontFault" 71 70 62 252,o22 71,o24 71]
noncomputable def U3 (P:Params):List (Addr×Obj):=[(3,gD P (e P "__name__" 165 (.str "paperhold.decimals" 268)) 13),(12,lD 15)]
noncomputable def N3 (P:Params):List Obj:=[o1,o23,⟨(.type "dict"),none,(.dict ⟨[e P "__module__" 277 (.str "paperhold.decimals" 268),e P "__qualname__" 279 (.str "Decimal" 278),e P "__firstlineno__" 281 (.int 19 280),e P "__init__" 290 (.ref 87),e P "plus" 301 (.ref 94),e P "minus" 312 (.ref 101),e P "times" 321 (.ref 108),e P "negated" 328 (.ref 115),e P "compared" 339 (.ref 122),e P "is_whole" 346 (.ref 129),e P "floor" 353 (.ref 136),e P "rounded" 361 (.ref 143),e P "told" 368 (.ref 150),e P "text" 376 (.ref 157),e P "least_text" 383 (.ref 164),e P "__static_attributes__" 386 (.ref 165)]⟩ 16),⟨[]⟩⟩,o1,⟨.none,none,(.fields ⟨[(.int 21 0),(.int 4 0),(.ref 86),(.int 28 0),(.int 4 0),(.ref 93),(.int 32 0),(.int 4 0),(.ref 100),(.int 36 0),(.int 4 0),(.ref 107),(.int 40 0),(.int 4 0),(.ref 114),(.int 43 0),(.int 4 0),(.ref 121),(.int 47 0),(.int 4 0),(.ref 128),(.int 50 0),(.int 4 0),(.ref 135),(.int 53 0),(.int 4 0),(.ref 142),(.int 56 0),(.int 4 0),(.ref 149),(.int 59 0),(.int 4 0),(.ref 156),(.int 66 0),(.int 4 0),(.ref 163)]⟩),⟨[]⟩⟩,o7 "Decimal" 272 19 77 181 275,o11 79 76 "paperhold.decimals" 268,o1,o9,o12 "self" 285 "top" "places",o1,o10 6 0 "Decimal.__init__",o0 "__init__" 282 "Decimal.__init__" 21 3 81 288 289,o6 6 0 "Decimal.__init__" "paperhold.decimals" 268 86,o1,o9,o20 "self" 294 "other" "one" "two" "places",o1,o10 6 1 "Decimal.plus",o0 "plus" 291 "Decimal.plus" 28 2 88 299 300,o6 6 1 "Decimal.plus" "paperhold.decimals" 268 93,o1,o9,o20 "self" 305 "other" "one" "two" "places",o1,o10 6 2 "Decimal.minus",o0 "minus" 302 "Decimal.minus" 32 2 95 310 311,o6 6 2 "Decimal.minus" "paperhold.decimals" 268 100,o1,o9,o12 "self" 316 "other" "factor",o1,o10 6 3 "Decimal.times",o0 "times" 313 "Decimal.times" 36 2 102 319 320,o6 6 3 "Decimal.times" "paperhold.decimals" 268 107,o1,o9,o18 "self" 325,o1,o10 6 4 "Decimal.negated",o0 "negated" 322 "Decimal.negated" 40 1 109 326 327,o6 6 4 "Decimal.negated" "paperhold.decimals" 268 114,o1,o9,o20 "self" 332 "other" "one" "two" "places",o1,o10 6 5 "Decimal.compared",o0 "compared" 329 "Decimal.compared" 43 2 116 337 338,o6 6 5 "Decimal.compared" "paperhold.decimals" 268 121,o1,o9,o18 "self" 343,o1,o10 6 6 "Decimal.is_whole",o0 "is_whole" 340 "Decimal.is_whole" 47 1 123 344 345,o6 6 6 "Decimal.is_whole" "paperhold.decimals" 268 128,o1,o9,o18 "self" 350,o1,o10 6 7 "Decimal.floor",o0 "floor" 347 "Decimal.floor" 50 1 130 351 352,o6 6 7 "Decimal.floor" "paperhold.decimals" 268 135,o1,o9,o13 "self" 357 "places",o1,o10 6 8 "Decimal.rounded",o0 "rounded" 354 "Decimal.rounded" 53 2 137 359 360,o6 6 8 "Decimal.rounded" "paperhold.decimals" 268 142,o1,o9,o18 "self" 365,o1,o10 6 9 "Decimal.told",o0 "told" 362 "Decimal.told" 56 1 144 366 367,o6 6 9 "Decimal.told" "paperhold.decimals" 268 149,o1,o9,o13 "self" 372 "numerals",o1,o10 6 10 "Decimal.text",o0 "text" 369 "Decimal.text" 59 1 151 374 375,o6 6 10 "Decimal.text" "paperhold.decimals" 268 156,o1,o9,o18 "self" 380,o1,o10 6 11 "Decimal.least_text",o0 "least_text" 377 "Decimal.least_text" 66 1 158 381 382,o6 6 11 "Decimal.least_text" "paperhold.decimals" 268 163,o13 "places" 384 "top",o32 P,o5 "Decimal" 167 166 270,o17 387 167,o19 389 167,o22 167,o24 167]
noncomputable def U4 (P:Params):List (Addr×Obj):=[(3,gD P (e P "__name__" 165 (.str "paperhold.objects" 426)) 18),(12,lD 27)]
noncomputable def N4 (P:Params):List Obj:=[o1,o9,o18 "number" 397,o1,o8 7 "sign_text",o0 "sign_text" 394 "sign_text" 68 1 172 398 399,o2 7 "sign_text" "paperhold.decimals" 268 177,o1,o9,o18 "number" 404,o1,o8 8 "sign_of",o0 "sign_of" 401 "sign_of" 70 1 179 405 406,o2 8 "sign_of" "paperhold.decimals" 268 184,o1,o9,o18 "value" 411,o1,o8 9 "decimal_of",o0 "decimal_of" 408 "decimal_of" 74 1 186 412 413,o2 9 "decimal_of" "paperhold.decimals" 268 191,o1,o9,o20 "one" 418 "other" "first" "second" "places",o1,o8 10 "at_one_scale",o0 "at_one_scale" 415 "at_one_scale" 80 2 193 423 424,o2 10 "at_one_scale" "paperhold.decimals" 268 198]
noncomputable def U5 (P:Params):List (Addr×Obj):=[(3,gD P (e P "__name__" 165 (.str "paperhold.objects" 426)) 19),(12,lD 30)]
noncomputable def N5 (P:Params):List Obj:=[o1,o23,o30 P 437 "paperhold.objects" 426 "Name" 87 449 213 451,o1,o44 89 212,o7 "Name" 432 87 203 181 435,o11 205 202 "paperhold.objects" 426,o1,o9,o13 "self" 445 "text",o1,o10 13 0 "Name.__init__",o0 "__init__" 442 "Name.__init__" 89 2 207 447 448,o6 13 0 "Name.__init__" "paperhold.objects" 426 212,o18 "text" 450,o14 P 437 "paperhold.objects" 426 87 449 213 "__static_attributes__" 451 214 "__dict__" 453 217 4,o5 "Name" 216 215 430,o17 452 216,o19 454 216,o22 216,o24 216]
noncomputable def U6 (P:Params):List (Addr×Obj):=[(3,gD P (e P "__name__" 165 (.str "paperhold.objects" 426)) 20),(12,lD 33)]
noncomputable def N6 (P:Params):List Obj:=[o1,o23,o30 P 466 "paperhold.objects" 426 "String" 91 479 235 482,o1,o44 93 234,o7 "String" 461 91 224 181 464,o11 226 223 "paperhold.objects" 426,⟨(.type "tuple"),none,(.seq ⟨[(.bool false)]⟩ 0),⟨[]⟩⟩,o1,o9,o12 "self" 474 "octets" "is_hex",o1,o10 14 0 "String.__init__",o0 "__init__" 471 "String.__init__" 93 3 229 477 478,o36 14 "String.__init__" 228 "paperhold.objects" 426,o13 "is_hex" 480 "octets",o14 P 466 "paperhold.objects" 426 91 479 235 "__static_attributes__" 482 236 "__dict__" 484 239 4,o5 "String" 238 237 459,o17 483 238,o19 485 238,o22 238,o24 238]
noncomputable def U7 (P:Params):List (Addr×Obj):=[(3,gD P (e P "__name__" 165 (.str "paperhold.objects" 426)) 21),(12,lD 36)]
noncomputable def N7 (P:Params):List Obj:=[o1,o23,o30 P 497 "paperhold.objects" 426 "Stream" 96 510 256 513,o1,o44 98 255,o7 "Stream" 492 96 246 181 495,o11 248 245 "paperhold.objects" 426,o1,o9,o12 "self" 505 "head" "octets",o1,o10 15 0 "Stream.__init__",o0 "__init__" 502 "Stream.__init__" 98 3 250 508 509,o6 15 0 "Stream.__init__" "paperhold.objects" 426 255,o13 "head" 511 "octets",o14 P 497 "paperhold.objects" 426 96 510 256 "__static_attributes__" 513 257 "__dict__" 515 260 4,o5 "Stream" 259 258 490,o17 514 259,o19 516 259,o22 259,o24 259]
noncomputable def U8 (P:Params):List (Addr×Obj):=[(3,gD P (e P "__name__" 165 (.str "paperhold.objects" 426)) 24),(12,lD 45)]
noncomputable def N8 (P:Params):List Obj:=[o1,o23,o28 P 528 "paperhold.objects" 426 "Reference" 101 541 277 "pair" 548 284 551,o1,o38 103 276 107 283,o7 "Reference" 523 101 267 181 526,o11 269 266 "paperhold.objects" 426,o1,o9,o12 "self" 536 "number" "generation",o1,o10 16 0 "Reference.__init__",o0 "__init__" 533 "Reference.__init__" 103 3 271 539 540,o6 16 0 "Reference.__init__" "paperhold.objects" 426 276,o1,o9,o18 "self" 545,o1,o10 16 1 "Reference.pair",o0 "pair" 542 "Reference.pair" 107 1 278 546 547,o6 16 1 "Reference.pair" "paperhold.objects" 426 283,o13 "generation" 549 "number",o16 P 528 "paperhold.objects" 426 101 541 277 "pair" 548 284 551,o5 "Reference" 287 286 521,o17 552 287,o19 554 287,o22 287,o24 287,o1,o9,o18 "value" 562,o1,o8 17 "kind_of",o0 "kind_of" 559 "kind_of" 109 1 292 563 564,o2 17 "kind_of" "paperhold.objects" 426 297,o1,o9,o18 "value" 569,o1,o8 18 "is_number",o0 "is_number" 566 "is_number" 131 1 299 570 571,o2 18 "is_number" "paperhold.objects" 426 304]
noncomputable def U9 (P:Params):List (Addr×Obj):=[(3,gD P (e P "__name__" 165 (.str "paperhold.objects" 426)) 27),(12,lD 51)]
noncomputable def N9 (P:Params):List Obj:=[o1,o9,o13 "kind" 576 "value",o1,o8 19 "told_plain",o0 "told_plain" 573 "told_plain" 133 2 306 578 579,o2 19 "told_plain" "paperhold.objects" 426 311,o1,o9,o8 20 "told",o3 "told" 581 "told" 147 1 313 584,o2 20 "told" "paperhold.objects" 426 316]
noncomputable def U10 (P:Params):List (Addr×Obj):=[(3,gD P (e P "__name__" 165 (.str "paperhold.objects" 426)) 28),(12,lD 54)]
noncomputable def N10 (P:Params):List Obj:=[o1,o23,⟨(.type "dict"),none,(.dict ⟨[e P "__module__" 595 (.str "paperhold.objects" 426),e P "__qualname__" 597 (.str "Lookup" 596),e P "__firstlineno__" 599 (.int 157 598),e P "__init__" 608 (.ref 332),e P "fetch" 620 (.ref 339),e P "get" 629 (.ref 346),e P "__static_attributes__" 632 (.ref 347)]⟩ 7),⟨[]⟩⟩,o1,⟨.none,none,(.fields ⟨[(.int 159 0),(.int 4 0),(.ref 331),(.int 163 0),(.int 4 0),(.ref 338),(.int 174 0),(.int 4 0),(.ref 345)]⟩),⟨[]⟩⟩,o7 "Lookup" 590 157 321 181 593,o11 323 320 "paperhold.objects" 426,⟨(.type "tuple"),none,(.seq ⟨[.none,.none]⟩ 0),⟨[]⟩⟩,o1,o9,o12 "self" 603 "table" "trailer",o1,o10 22 0 "Lookup.__init__",o0 "__init__" 600 "Lookup.__init__" 159 3 326 606 607,o36 22 "Lookup.__init__" 325 "paperhold.objects" 426,o1,o9,o21 "self" 612 "value" "here" "hop" "generation" "found",o1,o10 22 1 "Lookup.fetch",o0 "fetch" 609 "Lookup.fetch" 163 2 333 618 619,o6 22 1 "Lookup.fetch" "paperhold.objects" 426 338,o1,o9,o12 "self" 624 "head" "key",o1,o10 22 2 "Lookup.get",o0 "get" 621 "Lookup.get" 174 3 340 627 628,o6 22 2 "Lookup.get" "paperhold.objects" 426 345,o13 "table" 630 "trailer",o31 P 595 "paperhold.objects" 426 157 608 332 "fetch" 620 "get" 629 632,o5 "Lookup" 349 348 588,o17 633 349,o19 635 349,o22 349,o24 349]
noncomputable def U11 (P:Params):List (Addr×Obj):=[(3,gD P (e P "__name__" 165 (.str "paperhold.objects" 426)) 29),(12,lD 57),(349,o42)]
noncomputable def N11 (P:Params):List Obj:=[⟨(.type "tuple"),none,(.seq ⟨[(.ref 349)]⟩ 0),⟨[]⟩⟩,o23,o33 P 647 "paperhold.objects" 426 "Shelf" 176 "put" 661 367 "add" 669 "drop" 677 "numbers" 684 "root" "told" 697 400 698,o1,o35 178 366 181 184 187 190 399,o7 "Shelf" 642 176 357 181 645,o11 359 356 "paperhold.objects" 426,o1,o9,o15 "self" 655 "number" "generation" "value",o1,o10 23 0 "Shelf.put",o0 "put" 652 "Shelf.put" 178 4 361 659 660,o6 23 0 "Shelf.put" "paperhold.objects" 426 366,o1,o9,o13 "self" 665 "value",o1,o10 23 1 "Shelf.add",o0 "add" 662 "Shelf.add" 181 2 368 667 668,o6 23 1 "Shelf.add" "paperhold.objects" 426 373,o1,o9,o13 "self" 673 "number",o1,o10 23 2 "Shelf.drop",o0 "drop" 670 "Shelf.drop" 184 2 375 675 676,o6 23 2 "Shelf.drop" "paperhold.objects" 426 380,o1,o9,o18 "self" 681,o1,o10 23 3 "Shelf.numbers",o0 "numbers" 678 "Shelf.numbers" 187 1 382 682 683,o6 23 3 "Shelf.numbers" "paperhold.objects" 426 387,o1,o9,o18 "self" 688,o1,o10 23 4 "Shelf.root",o0 "root" 685 "Shelf.root" 190 1 389 689 690,o6 23 4 "Shelf.root" "paperhold.objects" 426 394,o1,o9,o10 23 5 "Shelf.told",o3 "told" 692 "Shelf.told" 193 1 396 695,o6 23 5 "Shelf.told" "paperhold.objects" 426 399,o1,o29 P 647 "paperhold.objects" 426 176 "put" 661 367 "add" 669 374 "drop" 677 "numbers" "root" 691 395 "told" 697 400 "__static_attributes__" 2,o41,o22 403,o24 403]
noncomputable def U12 (P:Params):List (Addr×Obj):=[(3,gD P (e P "__name__" 165 (.str "paperhold.matrix" 702)) 29)]
noncomputable def N12 (P:Params):List Obj:=[]
noncomputable def U13 (P:Params):List (Addr×Obj):=[(3,gD P (e P "__name__" 165 (.str "paperhold.matrix" 702)) 30),(12,lD 60)]
noncomputable def N13 (P:Params):List Obj:=[o1,o23,o33 P 711 "paperhold.matrix" 702 "Matrix" 197 "__init__" 728 419 "times" 742 "applied" 753 "shifted" 764 "parts" "told" 777 452 784,o1,o35 199 418 207 215 220 225 451,o7 "Matrix" 706 197 409 181 709,o11 411 408 "paperhold.matrix" 702,o1,o9,o26 "self" 719 "a" "b" "c" "d" "e" "f",o1,o10 25 0 "Matrix.__init__",o0 "__init__" 716 "Matrix.__init__" 199 7 413 726 727,o6 25 0 "Matrix.__init__" "paperhold.matrix" 702 418,o1,o9,o27 "self" 732 "other" "a" "b" "c" "d" "e" "f",o1,o10 25 1 "Matrix.times",o0 "times" 729 "Matrix.times" 207 2 420 740 741,o6 25 1 "Matrix.times" "paperhold.matrix" 702 425,o1,o9,o20 "self" 746 "x" "y" "right" "up",o1,o10 25 2 "Matrix.applied",o0 "applied" 743 "Matrix.applied" 215 3 427 751 752,o6 25 2 "Matrix.applied" "paperhold.matrix" 702 432,o1,o9,o20 "self" 757 "x" "y" "right" "up",o1,o10 25 3 "Matrix.shifted",o0 "shifted" 754 "Matrix.shifted" 220 3 434 762 763,o6 25 3 "Matrix.shifted" "paperhold.matrix" 702 439,o1,o9,o18 "self" 768,o1,o10 25 4 "Matrix.parts",o0 "parts" 765 "Matrix.parts" 225 1 441 769 770,o6 25 4 "Matrix.parts" "paperhold.matrix" 702 446,o1,o9,o10 25 5 "Matrix.told",o3 "told" 772 "Matrix.told" 228 1 448 775,o6 25 5 "Matrix.told" "paperhold.matrix" 702 451,o21 "a" 778 "b" "c" "d" "e" "f",o25 P 711 "paperhold.matrix" 702 197 728 419 "times" 742 "applied" 753 "shifted" 764 "parts" "told" 452,o5 "Matrix" 455 454 704,o17 785 455,o19 787 455,o22 455,o24 455]
noncomputable def U14 (P:Params):List (Addr×Obj):=[(3,gD P (e P "__name__" 165 (.str "paperhold.content" 813)) 33),(12,lD 69)]
noncomputable def N14 (P:Params):List Obj:=[o1,o9,o1,o1,o8 26 "identity",o0 "identity" 792 "identity" 230 0 460 795 796,o2 26 "identity" "paperhold.matrix" 702 465,o1,o9,o13 "x" 801 "y",o1,o8 27 "translation",o0 "translation" 798 "translation" 232 2 467 803 804,o2 27 "translation" "paperhold.matrix" 702 472,o1,o9,o18 "values" 809,o1,o8 28 "from_array",o0 "from_array" 806 "from_array" 234 1 474 810 811,o2 28 "from_array" "paperhold.matrix" 702 479]
noncomputable def U15 (P:Params):List (Addr×Obj):=[(3,gD P (e P "__name__" 165 (.str "paperhold.content" 813)) 36),(12,lD 78)]
noncomputable def N15 (P:Params):List Obj:=[o1,o23,o28 P 822 "paperhold.content" 813 "Operation" 239 835 494 "told" 841 499 844,o1,o38 241 493 245 498,o7 "Operation" 817 239 484 181 820,o11 486 483 "paperhold.content" 813,o1,o9,o12 "self" 830 "word" "operands",o1,o10 30 0 "Operation.__init__",o0 "__init__" 827 "Operation.__init__" 241 3 488 833 834,o6 30 0 "Operation.__init__" "paperhold.content" 813 493,o1,o9,o10 30 1 "Operation.told",o3 "told" 836 "Operation.told" 245 1 495 839,o6 30 1 "Operation.told" "paperhold.content" 813 498,o13 "operands" 842 "word",o16 P 822 "paperhold.content" 813 239 835 494 "told" 841 499 844,o5 "Operation" 502 501 815,o17 845 502,o19 847 502,o22 502,o24 502,o1,o9,o13 "found" 855 "word",o1,o8 31 "text_kinds",o0 "text_kinds" 852 "text_kinds" 247 0 507 857 858,o2 31 "text_kinds" "paperhold.content" 813 512,o1,o9,o8 32 "fits_kind",o3 "fits_kind" 860 "fits_kind" 258 2 514 863,o2 32 "fits_kind" "paperhold.content" 813 517]
noncomputable def U16 (P:Params):List (Addr×Obj):=[(3,gD P (e P "__name__" 165 (.str "paperhold.textout" 872)) 40),(12,lD 81)]
noncomputable def N16 (P:Params):List Obj:=[o1,o9,o8 33 "used_names",o3 "used_names" 866 "used_names" 266 1 519 869,o2 33 "used_names" "paperhold.content" 813 522,o40 "Td" 876 "TD" "T*" "Tm" "Tj" "TJ" "'" "\"" "ET",o20 "Tc" 886 "Tw" "Tz" "TL" "Ts"]
noncomputable def U17 (P:Params):List (Addr×Obj):=[(3,gD P (e P "__name__" 165 (.str "paperhold.textout" 872)) 41),(12,lD 84)]
noncomputable def N17 (P:Params):List Obj:=[o1,o23,o28 P 899 "paperhold.textout" 872 "Glyph" 284 915 539 "told" 922 546 928,o1,o38 286 538 293 545,o7 "Glyph" 894 284 529 181 897,o11 531 528 "paperhold.textout" 872,o1,o9,o21 "self" 907 "text" "x" "y" "width" "size",o1,o10 38 0 "Glyph.__init__",o0 "__init__" 904 "Glyph.__init__" 286 6 533 913 914,o6 38 0 "Glyph.__init__" "paperhold.textout" 872 538,o1,o9,o18 "self" 919,o1,o10 38 1 "Glyph.told",o0 "told" 916 "Glyph.told" 293 1 540 920 921,o6 38 1 "Glyph.told" "paperhold.textout" 872 545,o20 "size" 923 "text" "width" "x" "y",o16 P 899 "paperhold.textout" 872 284 915 539 "told" 922 546 928,o5 "Glyph" 549 548 892,o17 929 549,o19 931 549,o22 549,o24 549]
noncomputable def U18 (P:Params):List (Addr×Obj):=[(3,gD P (e P "__name__" 165 (.str "paperhold.textout" 872)) 42),(12,lD 87)]
noncomputable def N18 (P:Params):List Obj:=[o1,o23,o30 P 943 "paperhold.textout" 872 "TextSheet" 295 958 567 963,o1,o44 297 566,o7 "TextSheet" 938 295 557 181 941,o11 559 556 "paperhold.textout" 872,o1,o9,o20 "self" 951 "operations" "fonts" "forms" "own",o1,o10 39 0 "TextSheet.__init__",o0 "__init__" 948 "TextSheet.__init__" 297 5 561 956 957,o6 39 0 "TextSheet.__init__" "paperhold.textout" 872 566,o15 "fonts" 959 "forms" "operations" "own",o14 P 943 "paperhold.textout" 872 295 958 567 "__static_attributes__" 963 568 "__dict__" 965 571 4,o5 "TextSheet" 570 569 936,o17 964 570,o19 966 570,o22 570,o24 570]
noncomputable def U19 (P:Params):List (Addr×Obj):=[(3,gD P (e P "__name__" 165 (.str "paperhold.textout" 872)) 44),(12,lD 93)]
noncomputable def N19 (P:Params):List Obj:=[o1,o23,⟨(.type "dict"),none,(.dict ⟨[e P "__module__" 978 (.str "paperhold.textout" 872),e P "__qualname__" 980 (.str "TextState" 979),e P "__firstlineno__" 982 (.int 302 981),e P "__init__" 990 (.ref 588),e P "copied" 998 (.ref 595),e P "stretched" 1006 (.ref 602),e P "__static_attributes__" 1011 (.ref 603)]⟩ 7),⟨[]⟩⟩,o1,⟨.none,none,(.fields ⟨[(.int 304 0),(.int 4 0),(.ref 587),(.int 310 0),(.int 4 0),(.ref 594),(.int 317 0),(.int 4 0),(.ref 601)]⟩),⟨[]⟩⟩,o7 "TextState" 973 302 578 181 976,o11 580 577 "paperhold.textout" 872,o1,o9,o13 "self" 986 "ctm",o1,o10 40 0 "TextState.__init__",o0 "__init__" 983 "TextState.__init__" 304 2 582 988 989,o6 40 0 "TextState.__init__" "paperhold.textout" 872 587,o1,o9,o13 "self" 994 "other",o1,o10 40 1 "TextState.copied",o0 "copied" 991 "TextState.copied" 310 1 589 996 997,o6 40 1 "TextState.copied" "paperhold.textout" 872 594,o1,o9,o13 "self" 1002 "way",o1,o10 40 2 "TextState.stretched",o0 "stretched" 999 "TextState.stretched" 317 2 596 1004 1005,o6 40 2 "TextState.stretched" "paperhold.textout" 872 601,o15 "ctm" 1007 "font" "size" "spacing",o31 P 978 "paperhold.textout" 872 302 990 588 "copied" 998 "stretched" 1006 1011,o5 "TextState" 605 604 971,o17 1012 605,o19 1014 605,o22 605,o24 605,o1,o9,o15 "state" 1022 "code" "bare" "whole",o1,o8 41 "advance",o0 "advance" 1019 "advance" 319 2 610 1026 1027,o2 41 "advance" "paperhold.textout" 872 615]
noncomputable def U20 (P:Params):List (Addr×Obj):=[(3,gD P (e P "__name__" 165 (.str "paperhold.textout" 872)) 47),(12,lD 102)]
noncomputable def N20 (P:Params):List Obj:=[o1,o9,o15 "place" 1032 "way" "right" "up",o1,o8 42 "along",o0 "along" 1029 "along" 325 2 617 1036 1037,o2 42 "along" "paperhold.textout" 872 622,o1,o9,o37 "state" 1042 "place" "octets" "onto" "up" "gone" "found" "code" "whole" "bare" "x" "y",o1,o8 43 "shown_glyphs",o0 "shown_glyphs" 1039 "shown_glyphs" 328 3 624 1054 1055,o2 43 "shown_glyphs" "paperhold.textout" 872 629,o1,o9,o15 "kinds" 1060 "operation" "wanted" "at",o1,o8 44 "check_operands",o0 "check_operands" 1057 "check_operands" 341 2 631 1064 1065,o2 44 "check_operands" "paperhold.textout" 872 636]
noncomputable def U21 (P:Params):List (Addr×Obj):=[(3,gD P (e P "__name__" 165 (.str "paperhold.textout" 872)) 48),(12,lD 105)]
noncomputable def N21 (P:Params):List Obj:=[o1,o23,o33 P 1074 "paperhold.textout" 872 "TextWalk" 350 "__init__" 1087 651 "show" 1097 "show_parts" 1107 "next_row" 1116 "feed" "set_matrix" 1131 686 1138,o1,o35 352 650 360 365 373 377 685,o7 "TextWalk" 1069 350 641 181 1072,o11 643 640 "paperhold.textout" 872,o1,o9,o12 "self" 1082 "sheet" "state",o1,o10 45 0 "TextWalk.__init__",o0 "__init__" 1079 "TextWalk.__init__" 352 3 645 1085 1086,o6 45 0 "TextWalk.__init__" "paperhold.textout" 872 650,o1,o9,o15 "self" 1091 "octets" "fresh" "gone",o1,o10 45 1 "TextWalk.show",o0 "show" 1088 "TextWalk.show" 360 2 652 1095 1096,o6 45 1 "TextWalk.show" "paperhold.textout" 872 657,o1,o9,o15 "self" 1101 "parts" "part" "way",o1,o10 45 2 "TextWalk.show_parts",o0 "show_parts" 1098 "TextWalk.show_parts" 365 2 659 1105 1106,o6 45 2 "TextWalk.show_parts" "paperhold.textout" 872 664,o1,o9,o12 "self" 1111 "right" "up",o1,o10 45 3 "TextWalk.next_row",o0 "next_row" 1108 "TextWalk.next_row" 373 3 666 1114 1115,o6 45 3 "TextWalk.next_row" "paperhold.textout" 872 671,o1,o9,o18 "self" 1120,o1,o10 45 4 "TextWalk.feed",o0 "feed" 1117 "TextWalk.feed" 377 1 673 1121 1122,o6 45 4 "TextWalk.feed" "paperhold.textout" 872 678,o1,o9,o13 "self" 1127 "one",o1,o10 45 5 "TextWalk.set_matrix",o0 "set_matrix" 1124 "TextWalk.set_matrix" 380 2 680 1129 1130,o6 45 5 "TextWalk.set_matrix" "paperhold.textout" 872 685,o21 "found" 1132 "pile" "place" "row" "sheet" "state",o25 P 1074 "paperhold.textout" 872 350 1087 651 "show" 1097 "show_parts" 1107 "next_row" 1116 "feed" "set_matrix" 686,o5 "TextWalk" 689 688 1067,o17 1139 689,o19 1141 689,o22 689,o24 689]
noncomputable def U22 (P:Params):List (Addr×Obj):=[(3,gD P (e P "__name__" 165 (.str "paperhold.cmaps" 1243)) 59),(12,lD 132)]
noncomputable def N22 (P:Params):List Obj:=[o1,o9,o12 "tour" 1149 "word" "operands",o1,o8 46 "follow_placed",o0 "follow_placed" 1146 "follow_placed" 383 3 694 1152 1153,o2 46 "follow_placed" "paperhold.textout" 872 699,o1,o9,o13 "tour" 1158 "operands",o1,o8 47 "choose_font",o0 "choose_font" 1155 "choose_font" 405 2 701 1160 1161,o2 47 "choose_font" "paperhold.textout" 872 706,o1,o9,o12 "tour" 1166 "word" "operands",o1,o8 48 "follow_state",o0 "follow_state" 1163 "follow_state" 410 3 708 1169 1170,o2 48 "follow_state" "paperhold.textout" 872 713,o1,o9,o27 "sheet" 1175 "state" "kinds" "tour" "operation" "word" "form" "inner",o1,o8 49 "sheet_glyphs",o0 "sheet_glyphs" 1172 "sheet_glyphs" 423 2 715 1183 1184,o2 49 "sheet_glyphs" "paperhold.textout" 872 720,o1,o9,o18 "sheet" 1189,o1,o8 50 "lay_glyphs",o0 "lay_glyphs" 1186 "lay_glyphs" 445 1 722 1190 1191,o2 50 "lay_glyphs" "paperhold.textout" 872 727,o1,o9,o15 "shelf" 1196 "resources" "sort" "found",o1,o8 51 "resource_dict",o0 "resource_dict" 1193 "resource_dict" 447 3 729 1200 1201,o2 51 "resource_dict" "paperhold.textout" 872 734,o1,o9,o8 52 "form_matrix",o3 "form_matrix" 1203 "form_matrix" 450 2 736 1206,o2 52 "form_matrix" "paperhold.textout" 872 739,o1,o9,o12 "shelf" 1212 "value" "kind",o1,o8 53 "is_form",o0 "is_form" 1209 "is_form" 458 2 741 1215 1216,o2 53 "is_form" "paperhold.textout" 872 746,o1,o9,⟨(.type "tuple"),none,(.seq ⟨[(.str "shelf" 1221),(.str "resources" 1222),(.str "operations" 1223),(.str "place" 1224),(.str "font_of" 1225),(.str "content_of" 1226),(.str "depth" 1227),(.str "own" 1228),(.str "used" 1229),(.str "heads" 1230),(.str "things" 1231),(.str "fonts" 1232),(.str "forms" 1233),(.str "word" 1234),(.str "head" 1235),(.str "stream" 1236),(.str "inner" 1237),(.str "lent" 1238),(.str "spot" 1239)]⟩ 0),⟨[]⟩⟩,o1,o8 54 "text_sheet",o0 "text_sheet" 1218 "text_sheet" 463 6 748 1240 1241,o2 54 "text_sheet" "paperhold.textout" 872 753]
noncomputable def U23 (P:Params):List (Addr×Obj):=[(3,gD P (e P "__name__" 165 (.str "paperhold.cmaps" 1243)) 62),(12,lD 141)]
noncomputable def N23 (P:Params):List Obj:=[o1,o23,o28 P 1256 "paperhold.cmaps" 1243 "CMap" 487 1269 768 "told" 1275 773 1278,o1,o38 489 767 493 772,o7 "CMap" 1251 487 758 181 1254,o11 760 757 "paperhold.cmaps" 1243,o1,o9,o12 "self" 1264 "spaces" "chars",o1,o10 58 0 "CMap.__init__",o0 "__init__" 1261 "CMap.__init__" 489 3 762 1267 1268,o6 58 0 "CMap.__init__" "paperhold.cmaps" 1243 767,o1,o9,o10 58 1 "CMap.told",o3 "told" 1270 "CMap.told" 493 1 769 1273,o6 58 1 "CMap.told" "paperhold.cmaps" 1243 772,o13 "chars" 1276 "spaces",o16 P 1256 "paperhold.cmaps" 1243 487 1269 768 "told" 1275 773 1278,o5 "CMap" 776 775 1249,o17 1279 776,o19 1281 776,o22 776,o24 776,o1,o9,o12 "octets" 1289 "code" "octet",o1,o8 59 "code_of",o0 "code_of" 1286 "code_of" 495 1 781 1292 1293,o2 59 "code_of" "paperhold.cmaps" 1243 786,o1,o9,o8 60 "code_octets",o3 "code_octets" 1295 "code_octets" 500 2 788 1298,o2 60 "code_octets" "paperhold.cmaps" 1243 791]
noncomputable def U24 (P:Params):List (Addr×Obj):=[(3,gD P (e P "__name__" 165 (.str "paperhold.encodings" 1333)) 69),(12,lD 150)]
noncomputable def N24 (P:Params):List Obj:=[o1,o9,o27 "space" 1304 "octets" "length" "low" "high" "lows" "highs" "place",o1,o8 61 "fitting",o0 "fitting" 1301 "fitting" 502 2 793 1312 1313,o2 61 "fitting" "paperhold.cmaps" 1243 798,o1,o9,o8 62 "next_length",o3 "next_length" 1315 "next_length" 510 2 800 1318,o2 62 "next_length" "paperhold.cmaps" 1243 803,o1,o9,o21 "cmap" 1324 "octets" "found" "place" "ahead" "code",o1,o8 63 "split_codes",o0 "split_codes" 1321 "split_codes" 519 2 805 1330 1331,o2 63 "split_codes" "paperhold.cmaps" 1243 810]
noncomputable def U25 (P:Params):List (Addr×Obj):=[(3,gD P (e P "__name__" 165 (.str "paperhold.encodings" 1333)) 70)]
noncomputable def N25 (P:Params):List Obj:=[⟨(.type "dict"),none,(.dict ⟨[e P "Euro" 1343 (.int 8364 1344),e P "quotesinglbase" 1346 (.int 8218 1347),e P "florin" 1349 (.int 402 1350),e P "quotedblbase" 1352 (.int 8222 1353),e P "ellipsis" 1355 (.int 8230 1356),e P "dagger" 1358 (.int 8224 1359),e P "daggerdbl" 1361 (.int 8225 1362),e P "circumflex" 1364 (.int 710 1365),e P "perthousand" 1367 (.int 8240 1368),e P "Scaron" 1370 (.int 352 1371),e P "guilsinglleft" 1373 (.int 8249 1374),e P "OE" 1376 (.int 338 1377),e P "Zcaron" 1379 (.int 381 1380),e P "quoteleft" 1382 (.int 8216 1383),e P "quoteright" 1385 (.int 8217 1386),e P "quotedblleft" 1388 (.int 8220 1389),e P "quotedblright" 1391 (.int 8221 1392),e P "bullet" 1394 (.int 8226 1395),e P "endash" 1397 (.int 8211 1398),e P "emdash" 1400 (.int 8212 1401),e P "tilde" 1403 (.int 732 1404),e P "trademark" 1406 (.int 8482 1407),e P "scaron" 1409 (.int 353 1410),e P "guilsinglright" 1412 (.int 8250 1413),e P "oe" 1415 (.int 339 1416),e P "zcaron" 1418 (.int 382 1419),e P "Ydieresis" 1421 (.int 376 1422),e P "fraction" 1424 (.int 8260 1425),e P "fi" 1427 (.int 64257 1428),e P "fl" 1430 (.int 64258 1431),e P "breve" 1433 (.int 728 1434),e P "dotaccent" 1436 (.int 729 1437),e P "ring" 1439 (.int 730 1440),e P "hungarumlaut" 1442 (.int 733 1443),e P "ogonek" 1445 (.int 731 1446),e P "caron" 1447 (.int 711 1448),e P "Lslash" 1449 (.int 321 1450),e P "lslash" 1451 (.int 322 1452),e P "dotlessi" 1453 (.int 305 1454)]⟩ 39),⟨[]⟩⟩,⟨(.type "dict"),none,(.dict ⟨[e P "bullet" 1394 (.int 8226 1395),e P "endash" 1397 (.int 8211 1398),e P "emdash" 1400 (.int 8212 1401),e P "tilde" 1403 (.int 732 1404),e P "trademark" 1406 (.int 8482 1407),e P "scaron" 1409 (.int 353 1410),e P "guilsinglright" 1412 (.int 8250 1413),e P "oe" 1415 (.int 339 1416),e P "zcaron" 1418 (.int 382 1419),e P "Ydieresis" 1421 (.int 376 1422),e P "fraction" 1424 (.int 8260 1425),e P "fi" 1427 (.int 64257 1428),e P "fl" 1430 (.int 64258 1431),e P "breve" 1433 (.int 728 1434),e P "dotaccent" 1436 (.int 729 1437),e P "ring" 1439 (.int 730 1440),e P "hungarumlaut" 1442 (.int 733 1443)]⟩ 17),⟨[]⟩⟩,⟨(.type "dict"),none,(.dict ⟨[e P "ogonek" 1445 (.int 731 1446),e P "caron" 1447 (.int 711 1448),e P "Lslash" 1449 (.int 321 1450),e P "lslash" 1451 (.int 322 1452),e P "dotlessi" 1453 (.int 305 1454)]⟩ 5),⟨[]⟩⟩]
noncomputable def U26 (P:Params):List (Addr×Obj):=[(3,gD P (e P "__name__" 165 (.str "paperhold.fonts" 1514)) 82),(12,lD 180)]
noncomputable def N26 (P:Params):List Obj:=[⟨(.type "tuple"),none,(.seq ⟨[(.int 55296 1461),(.int 57343 1462)]⟩ 0),⟨[]⟩⟩,o1,o9,o8 72 "ascii_names",o3 "ascii_names" 1466 "ascii_names" 536 0 816 1469,o2 72 "ascii_names" "paperhold.encodings" 1333 819,o1,o9,o8 73 "latin_names",o3 "latin_names" 1472 "latin_names" 540 0 821 1475,o2 73 "latin_names" "paperhold.encodings" 1333 824,o1,o9,o12 "signs" 1481 "worth" "sign",o1,o8 74 "hex_number",o0 "hex_number" 1478 "hex_number" 545 1 826 1484 1485,o2 74 "hex_number" "paperhold.encodings" 1333 831,o1,o9,o18 "code" 1490,o1,o8 75 "is_sign_code",o0 "is_sign_code" 1487 "is_sign_code" 552 1 833 1491 1492,o2 75 "is_sign_code" "paperhold.encodings" 1333 838,o1,o9,o13 "name" 1497 "names",o1,o8 76 "known_code",o0 "known_code" 1494 "known_code" 554 1 840 1499 1500,o2 76 "known_code" "paperhold.encodings" 1333 845,o1,o9,o8 77 "part_text",o3 "part_text" 1502 "part_text" 564 1 847 1505,o2 77 "part_text" "paperhold.encodings" 1333 850,o1,o9,o8 78 "glyph_text",o3 "glyph_text" 1508 "glyph_text" 577 1 852 1511,o2 78 "glyph_text" "paperhold.encodings" 1333 855,o1,o9,o21 "rows" 1519 "code" "default" "first" "last" "widths",o1,o8 80 "width_in",o0 "width_in" 1516 "width_in" 580 3 857 1525 1526,o2 80 "width_in" "paperhold.fonts" 1514 862,o1,o9,o12 "widths" 1531 "name" "names",o1,o8 81 "standard_width",o0 "standard_width" 1528 "standard_width" 585 2 864 1534 1535,o2 81 "standard_width" "paperhold.fonts" 1514 869,o1,o9,o26 "rows" 1540 "pair" "found" "length" "low" "high" "glyph",o1,o8 82 "cid_of",o0 "cid_of" 1537 "cid_of" 588 2 871 1547 1548,o2 82 "cid_of" "paperhold.fonts" 1514 876]
noncomputable def U27 (P:Params):List (Addr×Obj):=[(3,gD P (e P "__name__" 165 (.str "paperhold.fonts" 1514)) 83),(12,lD 183)]
noncomputable def N27 (P:Params):List Obj:=[o1,o23,⟨(.type "dict"),none,(.dict ⟨[e P "__module__" 1557 (.str "paperhold.fonts" 1514),e P "__qualname__" 1559 (.str "Font" 1558),e P "__firstlineno__" 1561 (.int 594 1560),e P "__init__" 1575 (.ref 891),e P "codes" 1581 (.ref 896),e P "width" 1590 (.ref 903),e P "text" 1598 (.ref 910),e P "__static_attributes__" 1606 (.ref 911)]⟩ 8),⟨[]⟩⟩,o1,⟨.none,none,(.fields ⟨[(.int 596 0),(.int 4 0),(.ref 890),(.int 605 0),(.int 4 0),(.ref 895),(.int 610 0),(.int 4 0),(.ref 902),(.int 617 0),(.int 4 0),(.ref 909)]⟩),⟨[]⟩⟩,o7 "Font" 1552 594 881 181 1555,o11 883 880 "paperhold.fonts" 1514,o1,o9,o27 "self" 1565 "names" "cutting" "unicode" "rows" "default" "unit" "standard",o1,o10 83 0 "Font.__init__",o0 "__init__" 1562 "Font.__init__" 596 8 885 1573 1574,o6 83 0 "Font.__init__" "paperhold.fonts" 1514 890,o1,o9,o10 83 1 "Font.codes",o3 "codes" 1576 "Font.codes" 605 2 892 1579,o6 83 1 "Font.codes" "paperhold.fonts" 1514 895,o1,o9,o12 "self" 1585 "pair" "found",o1,o10 83 2 "Font.width",o0 "width" 1582 "Font.width" 610 2 897 1588 1589,o6 83 2 "Font.width" "paperhold.fonts" 1514 902,o1,o9,o13 "self" 1594 "pair",o1,o10 83 3 "Font.text",o0 "text" 1591 "Font.text" 617 2 904 1596 1597,o6 83 3 "Font.text" "paperhold.fonts" 1514 909,o26 "cutting" 1599 "default" "names" "rows" "standard" "unicode" "unit",o29 P 1557 "paperhold.fonts" 1514 594 "__init__" 1575 891 "codes" 1581 896 "width" 1590 "text" "__static_attributes__" 1606 911 "__dict__" 1608 914 "__weakref__" 4,o5 "Font" 913 912 1550,o17 1607 913,o19 1609 913,o22 913,o24 913]
noncomputable def U28 (P:Params):List (Addr×Obj):=[(3,gD P (e P "__name__" 165 (.str "paperhold.paths" 1614)) 87),(12,lD 195)]
noncomputable def N28 (P:Params):List Obj:=[o1,o23,o30 P 1623 "paperhold.paths" 1614 "Path" 622 1635 933 1637,o1,o44 624 932,o7 "Path" 1618 622 921 181 1621,o11 923 920 "paperhold.paths" 1614,o1,⟨(.type "tuple"),none,(.seq ⟨[(.ref 925)]⟩ 0),⟨[]⟩⟩,o1,o9,o13 "self" 1631 "parts",o1,o10 85 0 "Path.__init__",o0 "__init__" 1628 "Path.__init__" 624 2 927 1633 1634,o36 85 "Path.__init__" 926 "paperhold.paths" 1614,o18 "parts" 1636,o14 P 1623 "paperhold.paths" 1614 622 1635 933 "__static_attributes__" 1637 934 "__dict__" 1639 937 4,o5 "Path" 936 935 1616,o17 1638 936,o19 1640 936,o22 936,o24 936,o1,o9,o13 "x" 1648 "y",o1,o8 86 "pair_of",o0 "pair_of" 1645 "pair_of" 626 2 941 1650 1651,o2 86 "pair_of" "paperhold.paths" 1614 946,o1,o9,o18 "part" 1656,o1,o8 87 "is_shut",o0 "is_shut" 1653 "is_shut" 628 1 948 1657 1658,o2 87 "is_shut" "paperhold.paths" 1614 953,o1,o9,o13 "path" 1663 "part",o1,o8 88 "current_point",o0 "current_point" 1660 "current_point" 630 1 955 1665 1666,o2 88 "current_point" "paperhold.paths" 1614 960]
noncomputable def U29 (P:Params):List (Addr×Obj):=[(3,gD P (e P "__name__" 165 (.str "paperhold.paths" 1614)) 97),(12,lD 225)]
noncomputable def N29 (P:Params):List Obj:=[o1,o9,o13 "path" 1671 "parts",o1,o8 89 "drawn_parts",o0 "drawn_parts" 1668 "drawn_parts" 637 1 962 1673 1674,o2 89 "drawn_parts" "paperhold.paths" 1614 967,o1,o9,o12 "path" 1679 "x" "y",o1,o8 90 "move_to",o0 "move_to" 1676 "move_to" 640 3 969 1682 1683,o2 90 "move_to" "paperhold.paths" 1614 974,o1,o9,o15 "path" 1688 "segment" "start" "part",o1,o8 91 "path_with",o0 "path_with" 1685 "path_with" 642 2 976 1692 1693,o2 91 "path_with" "paperhold.paths" 1614 981,o1,o9,o12 "path" 1698 "x" "y",o1,o8 92 "line_to",o0 "line_to" 1695 "line_to" 650 3 983 1701 1702,o2 92 "line_to" "paperhold.paths" 1614 988,o1,o9,o15 "path" 1707 "first" "second" "end",o1,o8 93 "curve_to",o0 "curve_to" 1704 "curve_to" 652 4 990 1711 1712,o2 93 "curve_to" "paperhold.paths" 1614 995,o1,o9,o15 "path" 1717 "second" "end" "start",o1,o8 94 "curve_from",o0 "curve_from" 1714 "curve_from" 654 3 997 1721 1722,o2 94 "curve_from" "paperhold.paths" 1614 1002,o1,o9,o12 "path" 1727 "first" "end",o1,o8 95 "curve_into",o0 "curve_into" 1724 "curve_into" 659 3 1004 1730 1731,o2 95 "curve_into" "paperhold.paths" 1614 1009,o1,o9,o13 "path" 1736 "part",o1,o8 96 "close_path",o0 "close_path" 1733 "close_path" 661 1 1011 1738 1739,o2 96 "close_path" "paperhold.paths" 1614 1016,o1,o9,o34 "path" 1744 "x" "y" "width" "height" "left" "low" "right" "high" "corner",o1,o8 97 "rectangle",o0 "rectangle" 1741 "rectangle" 668 5 1018 1754 1755,o2 97 "rectangle" "paperhold.paths" 1614 1023,o1,o9,o8 98 "each_point",o3 "each_point" 1757 "each_point" 676 2 1025 1760,o2 98 "each_point" "paperhold.paths" 1614 1028]
noncomputable def U30 (P:Params):List (Addr×Obj):=[(3,gD P (e P "__name__" 165 (.str "paperhold.inks" 1772)) 100),(12,lD 234)]
noncomputable def N30 (P:Params):List Obj:=[o1,o9,o13 "path" 1766 "matrix",o18 "matrix" 1768,o8 99 "transformed",o0 "transformed" 1763 "transformed" 681 2 1030 1769 1770,o2 99 "transformed" "paperhold.paths" 1614 1035,o1,o23,o30 P 1781 "paperhold.inks" 1772 "State" 684 1797 1050 1803,o1,o44 686 1049,o7 "State" 1776 684 1040 181 1779,o11 1042 1039 "paperhold.inks" 1772,o1,o9,o21 "self" 1789 "matrix" "clips" "fill" "stroke" "values",o1,o10 101 0 "State.__init__",o0 "__init__" 1786 "State.__init__" 686 6 1044 1795 1796,o6 101 0 "State.__init__" "paperhold.inks" 1772 1049,o20 "clips" 1798 "fill" "matrix" "stroke" "values",o14 P 1781 "paperhold.inks" 1772 684 1797 1050 "__static_attributes__" 1803 1051 "__dict__" 1805 1054 4,o5 "State" 1053 1052 1774,o17 1804 1053,o19 1806 1053,o22 1053,o24 1053,o1,o9,o13 "space" 1814 "zero",o1,o8 102 "first_colour",o0 "first_colour" 1811 "first_colour" 692 1 1058 1816 1817,o2 102 "first_colour" "paperhold.inks" 1772 1063]
noncomputable def U31 (P:Params):List (Addr×Obj):=[(3,gD P (e P "__name__" 165 (.str "paperhold.inks" 1772)) 110),(12,lD 264)]
noncomputable def N31 (P:Params):List Obj:=[o1,o9,o12 "zero" 1822 "found" "word",o1,o8 103 "first_values",o0 "first_values" 1819 "first_values" 701 0 1065 1825 1826,o2 103 "first_values" "paperhold.inks" 1772 1070,⟨(.type "tuple"),none,(.seq ⟨[.none]⟩ 0),⟨[]⟩⟩,o1,o9,o13 "matrix" 1831 "start",o1,o8 104 "first_state",o0 "first_state" 1828 "first_state" 710 1 1073 1833 1834,⟨(.type "function"),none,(fo (tst 104) "first_state" 3 (.ref 1072) (.str "paperhold.inks" 1772) (.ref 1078)),⟨[]⟩⟩,o1,o9,o18 "state" 1839,o1,o8 105 "copied_state",o0 "copied_state" 1836 "copied_state" 713 1 1080 1840 1841,o2 105 "copied_state" "paperhold.inks" 1772 1085,o1,o9,o8 106 "numbers_of",o3 "numbers_of" 1843 "numbers_of" 715 2 1087 1846,o2 106 "numbers_of" "paperhold.inks" 1772 1090,o1,o9,o18 "values" 1852,o1,o8 107 "name_of",o0 "name_of" 1849 "name_of" 722 1 1092 1853 1854,o2 107 "name_of" "paperhold.inks" 1772 1097,o1,o9,o12 "values" 1859 "count" "number",o1,o8 108 "choice_of",o0 "choice_of" 1856 "choice_of" 726 2 1099 1862 1863,o2 108 "choice_of" "paperhold.inks" 1772 1104,o1,o9,o15 "values" 1868 "count" "found" "number",o1,o8 109 "colour_parts",o0 "colour_parts" 1865 "colour_parts" 731 2 1106 1872 1873,o2 109 "colour_parts" "paperhold.inks" 1772 1111,o1,o9,o13 "space" 1878 "counts",o1,o8 110 "device_count",o0 "device_count" 1875 "device_count" 741 1 1113 1880 1881,o2 110 "device_count" "paperhold.inks" 1772 1118,o1,o9,o12 "space" 1886 "values" "count",o1,o8 111 "own_colour",o0 "own_colour" 1883 "own_colour" 744 2 1120 1889 1890,o2 111 "own_colour" "paperhold.inks" 1772 1125,o1,o9,o27 "state" 1895 "word" "values" "is_fill" "plain" "before" "space" "colour",o1,o8 112 "set_colour",o0 "set_colour" 1892 "set_colour" 751 3 1127 1903 1904,o2 112 "set_colour" "paperhold.inks" 1772 1132]
noncomputable def U32 (P:Params):List (Addr×Obj):=[(3,gD P (e P "__name__" 165 (.str "paperhold.painter" 1939)) 125),(12,lD 276)]
noncomputable def N32 (P:Params):List Obj:=[o1,o9,o8 113 "set_dash",o3 "set_dash" 1906 "set_dash" 766 3 1134 1909,o2 113 "set_dash" "paperhold.inks" 1772 1137,o1,o9,o15 "state" 1915 "word" "values" "number",o1,o8 114 "set_line",o0 "set_line" 1912 "set_line" 774 3 1139 1919 1920,o2 114 "set_line" "paperhold.inks" 1772 1144,o1,o9,o8 115 "set_named",o3 "set_named" 1922 "set_named" 788 3 1146 1925,o2 115 "set_named" "paperhold.inks" 1772 1149,o1,o9,o20 "state" 1931 "word" "values" "plain" "size",o1,o8 116 "set_text",o0 "set_text" 1928 "set_text" 802 3 1151 1936 1937,o2 116 "set_text" "paperhold.inks" 1772 1156,o12 "q" 1943 "Q" "cm",o27 "w" 1947 "J" "j" "M" "d" "ri" "i" "gs",o26 "m" 1956 "l" "c" "v" "y" "h" "re",o13 "W" 1964 "W*",o34 "S" 1967 "s" "f" "F" "f*" "B" "B*" "b" "b*" "n",o37 "g" 1978 "G" "rg" "RG" "k" "K" "cs" "CS" "sc" "SC" "scn" "SCN",o26 "Tc" 1991 "Tw" "Tz" "TL" "Ts" "Tr" "Tf",o15 "Td" 1999 "TD" "Tm" "T*",o15 "Tj" 2004 "TJ" "'" "\"",o20 "MP" 2009 "DP" "BMC" "BDC" "EMC"]
noncomputable def U33 (P:Params):List (Addr×Obj):=[(3,gD P (e P "__name__" 165 (.str "paperhold.painter" 1939)) 128)]
noncomputable def N33 (P:Params):List Obj:=[⟨(.type "dict"),none,(.dict ⟨[e P "f" 2015 (.str "nonzero" 2016),e P "F" 2017 (.str "nonzero" 2018),e P "B" 2019 (.str "nonzero" 2020),e P "b" 2021 (.str "nonzero" 2022),e P "f*" 2023 (.str "evenodd" 2024),e P "B*" 2025 (.str "evenodd" 2026),e P "b*" 2027 (.str "evenodd" 2028)]⟩ 7),⟨[]⟩⟩,o21 "S" 2037 "s" "B" "B*" "b" "b*",o12 "s" 2044 "b" "b*"]
noncomputable def U34 (P:Params):List (Addr×Obj):=[(3,gD P (e P "__name__" 165 (.str "paperhold.painter" 1939)) 130),(12,lD 282)]
noncomputable def N34 (P:Params):List Obj:=[o1,o23,o28 P 2055 "paperhold.painter" 1939 "Painter" 829 2070 1185 "paint" 2078 1192 2092,o1,o38 831 1184 846 1191,o7 "Painter" 2050 829 1174 181 2053,o11 1176 1173 "paperhold.painter" 1939,⟨(.type "tuple"),none,(.seq ⟨[.none,.none]⟩ 0),⟨[]⟩⟩,o1,o9,o20 "self" 2063 "shelf" "resources" "opener" "matrix",o1,o10 132 0 "Painter.__init__",o0 "__init__" 2060 "Painter.__init__" 831 5 1179 2068 2069,o36 132 "Painter.__init__" 1178 "paperhold.painter" 1939,o1,o9,o13 "self" 2074 "operations",o1,o10 132 1 "Painter.paint",o0 "paint" 2071 "Painter.paint" 846 2 1186 2076 2077,o6 132 1 "Painter.paint" "paperhold.painter" 1939 1191,⟨(.type "tuple"),none,(.seq ⟨[(.str "clips" 2079),(.str "floor" 2080),(.str "marks" 2081),(.str "open_forms" 2082),(.str "opener" 2083),(.str "path" 2084),(.str "pile" 2085),(.str "resources" 2086),(.str "rule" 2087),(.str "shelf" 2088),(.str "skips" 2089),(.str "state" 2090),(.str "text" 2091)]⟩ 0),⟨[]⟩⟩,o16 P 2055 "paperhold.painter" 1939 829 2070 1185 "paint" 2078 1192 2092,o5 "Painter" 1195 1194 2048,o17 2093 1195,o19 2095 1195,o22 1195,o24 1195,o1,o9,o12 "painter" 2103 "operations" "operation",o1,o8 133 "paint_all",o0 "paint_all" 2100 "paint_all" 849 2 1200 2106 2107,o2 133 "paint_all" "paperhold.painter" 1939 1205]
noncomputable def U35 (P:Params):List (Addr×Obj):=[(3,gD P (e P "__name__" 165 (.str "paperhold.painter" 1939)) 140),(12,lD 312)]
noncomputable def N35 (P:Params):List Obj:=[o1,o9,o13 "painter" 2112 "mark",o1,o8 134 "put_mark",o0 "put_mark" 2109 "put_mark" 856 2 1207 2114 2115,o2 134 "put_mark" "paperhold.painter" 1939 1212,o1,o9,o12 "painter" 2120 "word" "is_path",o1,o8 135 "check_place",o0 "check_place" 2117 "check_place" 859 2 1214 2123 2124,o2 135 "check_place" "paperhold.painter" 1939 1219,o1,o9,o12 "painter" 2129 "word" "values",o1,o8 136 "perform",o0 "perform" 2126 "perform" 865 3 1221 2132 2133,o2 136 "perform" "paperhold.painter" 1939 1226,o1,o9,o12 "painter" 2138 "word" "values",o1,o8 137 "do_other",o0 "do_other" 2135 "do_other" 887 3 1228 2141 2142,o2 137 "do_other" "paperhold.painter" 1939 1233,o1,o9,o12 "painter" 2147 "word" "values",o1,o8 138 "do_state",o0 "do_state" 2144 "do_state" 906 3 1235 2150 2151,o2 138 "do_state" "paperhold.painter" 1939 1240,o1,o9,o26 "values" 2156 "a" "b" "c" "d" "e" "f",o1,o8 139 "matrix_of",o0 "matrix_of" 2153 "matrix_of" 915 1 1242 2163 2164,o2 139 "matrix_of" "paperhold.painter" 1939 1247,o1,o9,o15 "painter" 2169 "word" "name" "found",o1,o8 140 "named",o0 "named" 2166 "named" 918 3 1249 2173 2174,o2 140 "named" "paperhold.painter" 1939 1254,o1,o9,o15 "painter" 2179 "word" "values" "head",o1,o8 141 "do_line",o0 "do_line" 2176 "do_line" 923 3 1256 2183 2184,o2 141 "do_line" "paperhold.painter" 1939 1261,o1,o9,o8 142 "do_path",o3 "do_path" 2186 "do_path" 935 3 1263 2189,o2 142 "do_path" "paperhold.painter" 1939 1266,o1,o9,o13 "painter" 2195 "word",o1,o8 143 "do_clip",o0 "do_clip" 2192 "do_clip" 958 2 1268 2197 2198,o2 143 "do_clip" "paperhold.painter" 1939 1273]
noncomputable def U36 (P:Params):List (Addr×Obj):=[(3,gD P (e P "__name__" 165 (.str "paperhold.painter" 1939)) 150),(12,lD 342)]
noncomputable def N36 (P:Params):List Obj:=[o1,o9,o15 "painter" 2203 "word" "path" "state",o1,o8 144 "do_paint",o0 "do_paint" 2200 "do_paint" 962 2 1275 2207 2208,o2 144 "do_paint" "paperhold.painter" 1939 1280,o1,o9,o12 "painter" 2213 "rule" "path",o1,o8 145 "add_clip",o0 "add_clip" 2210 "add_clip" 975 3 1282 2216 2217,o2 145 "add_clip" "paperhold.painter" 1939 1287,o1,o9,o15 "painter" 2222 "across" "upward" "begin",o1,o8 146 "move_line",o0 "move_line" 2219 "move_line" 978 3 1289 2226 2227,o2 146 "move_line" "paperhold.painter" 1939 1294,o1,o9,o21 "painter" 2232 "word" "values" "begin" "across" "upward",o1,o8 147 "do_place",o0 "do_place" 2229 "do_place" 981 3 1296 2238 2239,o2 147 "do_place" "paperhold.painter" 1939 1301,o1,o9,o12 "values" 2244 "found" "value",o1,o8 148 "octets_of_row",o0 "octets_of_row" 2241 "octets_of_row" 995 1 1303 2247 2248,o2 148 "octets_of_row" "paperhold.painter" 1939 1308,o1,o9,o21 "painter" 2253 "word" "values" "octets" "count" "matrix",o1,o8 149 "do_show",o0 "do_show" 2250 "do_show" 1005 3 1310 2259 2260,o2 149 "do_show" "paperhold.painter" 1939 1315,o1,o9,o21 "painter" 2265 "name" "entry" "stream" "sort" "word",o1,o8 150 "do_object",o0 "do_object" 2262 "do_object" 1024 2 1317 2271 2272,o2 150 "do_object" "paperhold.painter" 1939 1322,o1,o9,o8 151 "form_numbers",o3 "form_numbers" 2274 "form_numbers" 1037 4 1324 2277,o2 151 "form_numbers" "paperhold.painter" 1939 1327,o1,o9,o21 "painter" 2283 "head" "numbers" "edges" "plain" "own",o1,o8 152 "enter_form",o0 "enter_form" 2280 "enter_form" 1044 2 1329 2289 2290,o2 152 "enter_form" "paperhold.painter" 1939 1334,o1,o9,o40 "painter" 2295 "entry" "stream" "mark" "state" "resources" "floor" "skips" "height",o1,o8 153 "do_form",o0 "do_form" 2292 "do_form" 1055 3 1336 2304 2305,o2 153 "do_form" "paperhold.painter" 1939 1341]
noncomputable def U37 (P:Params):List (Addr×Obj):=[(3,gD P (e P "__name__" 165 (.str "law_sa0524_01" 2307)) 158),(12,lD 363)]
noncomputable def N37 (P:Params):List Obj:=[⟨(.type "dict"),none,(.dict ⟨[e P "F" 2309 (.ref 1344),e P "G" 2316 (.ref 1345)]⟩ 2),⟨[]⟩⟩,o43 2310 "A" "B",o43 2317 "a" "b",o1,o9,o15 "tape" 2329 "limit" "cells" "spot",o1,o8 156 "_law_draw",o0 "_law_draw" 2326 "_law_draw" 1074 2 1346 2333 2334,o2 156 "_law_draw" "law_sa0524_01" 2307 1351,o1,o9,o18 "tape" 2339,o1,o8 157 "_law_pair",o0 "_law_pair" 2336 "_law_pair" 1078 1 1353 2340 2341,o2 157 "_law_pair" "law_sa0524_01" 2307 1358,o1,o9,o18 "tape" 2346,o1,o8 158 "_law_six",o0 "_law_six" 2343 "_law_six" 1080 1 1360 2347 2348,o2 158 "_law_six" "law_sa0524_01" 2307 1365,o1,o9,o18 "tape" 2353,o1,o8 159 "_law_string",o0 "_law_string" 2350 "_law_string" 1082 1 1367 2354 2355,o2 159 "_law_string" "law_sa0524_01" 2307 1372,o1,o9,o18 "tape" 2360,o1,o8 160 "_law_setting",o0 "_law_setting" 2357 "_law_setting" 1084 1 1374 2361 2362,o2 160 "_law_setting" "law_sa0524_01" 2307 1379,o1,o9,o13 "tape" 2367 "way",o1,o8 161 "_law_deed",o0 "_law_deed" 2364 "_law_deed" 1088 1 1381 2369 2370,o2 161 "_law_deed" "law_sa0524_01" 2307 1386,o1,o9,o8 162 "_law_content",o3 "_law_content" 2372 "_law_content" 1103 3 1388 2375,o2 162 "_law_content" "law_sa0524_01" 2307 1391]
noncomputable def U38 (P:Params):List (Addr×Obj):=[(3,gD P (e P "__name__" 165 (.str "law_sa0524_01" 2307)) 160),(12,lD 369)]
noncomputable def N38 (P:Params):List Obj:=[o1,o9,o34 "marks" 2381 "due" "mark" "octets" "matrix" "name" "size" "x" "y" "octet",o1,o8 163 "_law_due",o0 "_law_due" 2378 "_law_due" 1124 1 1393 2391 2392,o2 163 "_law_due" "law_sa0524_01" 2307 1398,o1,o9,o8 164 "law",o3 "law" 2394 "law" 1133 1 1400 2397,o2 164 "law" "law_sa0524_01" 2307 1403]
noncomputable def T0 (P:Params):BT:=puts .nil 0 (O0 P)
noncomputable def T1 (P:Params):BT:=puts (sets (T0 P) (U0 P)) 15 (N0 P)
noncomputable def T2 (P:Params):BT:=puts (sets (T1 P) (U1 P)) 50 (N1 P)
noncomputable def T3 (P:Params):BT:=puts (sets (T2 P) (U2 P)) 62 (N2 P)
noncomputable def T4 (P:Params):BT:=puts (sets (T3 P) (U3 P)) 74 (N3 P)
noncomputable def T5 (P:Params):BT:=puts (sets (T4 P) (U4 P)) 172 (N4 P)
noncomputable def T6 (P:Params):BT:=puts (sets (T5 P) (U5 P)) 200 (N5 P)
noncomputable def T7 (P:Params):BT:=puts (sets (T6 P) (U6 P)) 221 (N6 P)
noncomputable def T8 (P:Params):BT:=puts (sets (T7 P) (U7 P)) 243 (N7 P)
noncomputable def T9 (P:Params):BT:=puts (sets (T8 P) (U8 P)) 264 (N8 P)
noncomputable def T10 (P:Params):BT:=puts (sets (T9 P) (U9 P)) 306 (N9 P)
noncomputable def T11 (P:Params):BT:=puts (sets (T10 P) (U10 P)) 318 (N10 P)
noncomputable def T12 (P:Params):BT:=puts (sets (T11 P) (U11 P)) 354 (N11 P)
noncomputable def T13 (P:Params):BT:=puts (sets (T12 P) (U12 P)) 406 (N12 P)
noncomputable def T14 (P:Params):BT:=puts (sets (T13 P) (U13 P)) 406 (N13 P)
noncomputable def T15 (P:Params):BT:=puts (sets (T14 P) (U14 P)) 460 (N14 P)
noncomputable def T16 (P:Params):BT:=puts (sets (T15 P) (U15 P)) 481 (N15 P)
noncomputable def T17 (P:Params):BT:=puts (sets (T16 P) (U16 P)) 519 (N16 P)
noncomputable def T18 (P:Params):BT:=puts (sets (T17 P) (U17 P)) 526 (N17 P)
noncomputable def T19 (P:Params):BT:=puts (sets (T18 P) (U18 P)) 554 (N18 P)
noncomputable def T20 (P:Params):BT:=puts (sets (T19 P) (U19 P)) 575 (N19 P)
noncomputable def T21 (P:Params):BT:=puts (sets (T20 P) (U20 P)) 617 (N20 P)
noncomputable def T22 (P:Params):BT:=puts (sets (T21 P) (U21 P)) 638 (N21 P)
noncomputable def T23 (P:Params):BT:=puts (sets (T22 P) (U22 P)) 694 (N22 P)
noncomputable def T24 (P:Params):BT:=puts (sets (T23 P) (U23 P)) 755 (N23 P)
noncomputable def T25 (P:Params):BT:=puts (sets (T24 P) (U24 P)) 793 (N24 P)
noncomputable def T26 (P:Params):BT:=puts (sets (T25 P) (U25 P)) 812 (N25 P)
noncomputable def T27 (P:Params):BT:=puts (sets (T26 P) (U26 P)) 815 (N26 P)
noncomputable def T28 (P:Params):BT:=puts (sets (T27 P) (U27 P)) 878 (N27 P)
noncomputable def T29 (P:Params):BT:=puts (sets (T28 P) (U28 P)) 918 (N28 P)
noncomputable def T30 (P:Params):BT:=puts (sets (T29 P) (U29 P)) 962 (N29 P)
noncomputable def T31 (P:Params):BT:=puts (sets (T30 P) (U30 P)) 1030 (N30 P)
noncomputable def T32 (P:Params):BT:=puts (sets (T31 P) (U31 P)) 1065 (N31 P)
noncomputable def T33 (P:Params):BT:=puts (sets (T32 P) (U32 P)) 1134 (N32 P)
noncomputable def T34 (P:Params):BT:=puts (sets (T33 P) (U33 P)) 1168 (N33 P)
noncomputable def T35 (P:Params):BT:=puts (sets (T34 P) (U34 P)) 1171 (N34 P)
noncomputable def T36 (P:Params):BT:=puts (sets (T35 P) (U35 P)) 1207 (N35 P)
noncomputable def T37 (P:Params):BT:=puts (sets (T36 P) (U36 P)) 1275 (N36 P)
noncomputable def T38 (P:Params):BT:=puts (sets (T37 P) (U37 P)) 1343 (N37 P)
noncomputable def T39 (P:Params):BT:=puts (sets (T38 P) (U38 P)) 1393 (N38 P)
noncomputable def S0 (w:World) (os:OsState):SharedT:=⟨T0 w.params,15,{},⟨[]⟩,{},187,os⟩
noncomputable def S1 (w:World) (os:OsState):SharedT:=⟨T1 w.params,50,{},⟨[]⟩,{},236,os⟩
noncomputable def S2 (w:World) (os:OsState):SharedT:=⟨T2 w.params,62,{},⟨[]⟩,{},252,os⟩
noncomputable def S3 (w:World) (os:OsState):SharedT:=⟨T3 w.params,74,{},⟨[]⟩,{},270,os⟩
noncomputable def S4 (w:World) (os:OsState):SharedT:=⟨T4 w.params,172,{},⟨[]⟩,{},394,os⟩
noncomputable def S5 (w:World) (os:OsState):SharedT:=⟨T5 w.params,200,{},⟨[]⟩,{},430,os⟩
noncomputable def S6 (w:World) (os:OsState):SharedT:=⟨T6 w.params,221,{},⟨[]⟩,{},459,os⟩
noncomputable def S7 (w:World) (os:OsState):SharedT:=⟨T7 w.params,243,{},⟨[]⟩,{},490,os⟩
noncomputable def S8 (w:World) (os:OsState):SharedT:=⟨T8 w.params,264,{},⟨[]⟩,{},521,os⟩
noncomputable def S9 (w:World) (os:OsState):SharedT:=⟨T9 w.params,306,{},⟨[]⟩,{},573,os⟩
noncomputable def S10 (w:World) (os:OsState):SharedT:=⟨T10 w.params,318,{},⟨[]⟩,{},588,os⟩
noncomputable def S11 (w:World) (os:OsState):SharedT:=⟨T11 w.params,354,{},⟨[]⟩,{},640,os⟩
noncomputable def S12 (w:World) (os:OsState):SharedT:=⟨T12 w.params,406,{},⟨[]⟩,{},702,os⟩
noncomputable def S13 (w:World) (os:OsState):SharedT:=⟨T13 w.params,406,{},⟨[]⟩,{},704,os⟩
noncomputable def S14 (w:World) (os:OsState):SharedT:=⟨T14 w.params,460,{},⟨[]⟩,{},792,os⟩
noncomputable def S15 (w:World) (os:OsState):SharedT:=⟨T15 w.params,481,{},⟨[]⟩,{},815,os⟩
noncomputable def S16 (w:World) (os:OsState):SharedT:=⟨T16 w.params,519,{},⟨[]⟩,{},866,os⟩
noncomputable def S17 (w:World) (os:OsState):SharedT:=⟨T17 w.params,526,{},⟨[]⟩,{},892,os⟩
noncomputable def S18 (w:World) (os:OsState):SharedT:=⟨T18 w.params,554,{},⟨[]⟩,{},936,os⟩
noncomputable def S19 (w:World) (os:OsState):SharedT:=⟨T19 w.params,575,{},⟨[]⟩,{},971,os⟩
noncomputable def S20 (w:World) (os:OsState):SharedT:=⟨T20 w.params,617,{},⟨[]⟩,{},1029,os⟩
noncomputable def S21 (w:World) (os:OsState):SharedT:=⟨T21 w.params,638,{},⟨[]⟩,{},1067,os⟩
noncomputable def S22 (w:World) (os:OsState):SharedT:=⟨T22 w.params,694,{},⟨[]⟩,{},1146,os⟩
noncomputable def S23 (w:World) (os:OsState):SharedT:=⟨T23 w.params,755,{},⟨[]⟩,{},1249,os⟩
noncomputable def S24 (w:World) (os:OsState):SharedT:=⟨T24 w.params,793,{},⟨[]⟩,{},1301,os⟩
noncomputable def S25 (w:World) (os:OsState):SharedT:=⟨T25 w.params,812,{},⟨[]⟩,{},1343,os⟩
noncomputable def S26 (w:World) (os:OsState):SharedT:=⟨T26 w.params,815,{},⟨[]⟩,{},1461,os⟩
noncomputable def S27 (w:World) (os:OsState):SharedT:=⟨T27 w.params,878,{},⟨[]⟩,{},1550,os⟩
noncomputable def S28 (w:World) (os:OsState):SharedT:=⟨T28 w.params,918,{},⟨[]⟩,{},1614,os⟩
noncomputable def S29 (w:World) (os:OsState):SharedT:=⟨T29 w.params,962,{},⟨[]⟩,{},1668,os⟩
noncomputable def S30 (w:World) (os:OsState):SharedT:=⟨T30 w.params,1030,{},⟨[]⟩,{},1763,os⟩
noncomputable def S31 (w:World) (os:OsState):SharedT:=⟨T31 w.params,1065,{},⟨[]⟩,{},1819,os⟩
noncomputable def S32 (w:World) (os:OsState):SharedT:=⟨T32 w.params,1134,{},⟨[]⟩,{},1906,os⟩
noncomputable def S33 (w:World) (os:OsState):SharedT:=⟨T33 w.params,1168,{},⟨[]⟩,{},2015,os⟩
noncomputable def S34 (w:World) (os:OsState):SharedT:=⟨T34 w.params,1171,{},⟨[]⟩,{},2048,os⟩
noncomputable def S35 (w:World) (os:OsState):SharedT:=⟨T35 w.params,1207,{},⟨[]⟩,{},2109,os⟩
noncomputable def S36 (w:World) (os:OsState):SharedT:=⟨T36 w.params,1275,{},⟨[]⟩,{},2200,os⟩
noncomputable def S37 (w:World) (os:OsState):SharedT:=⟨T37 w.params,1343,{},⟨[]⟩,{},2307,os⟩
noncomputable def S38 (w:World) (os:OsState):SharedT:=⟨T38 w.params,1393,{},⟨[]⟩,{},2378,os⟩
noncomputable def S39 (w:World) (os:OsState):SharedT:=⟨T39 w.params,1405,{},⟨[]⟩,{},2400,os⟩
theorem piece0 (w:World) (os:OsState):segRunT treeTable PySem.Challenge.pw_sa0524_01 w 11 (some (.ref 6)) 1 307 (S0 w os) (ps ⟨0,0,0,0⟩ 0 3)=some (.next,S1 w os,.body body0 env0,⟨5,0,13,35⟩):=by
 refine to_fast ?_
 kernel_rfl
theorem piece1 (w:World) (os:OsState):segRunT treeTable PySem.Challenge.pw_sa0524_01 w 11 (some (.ref 6)) 1 214 (S1 w os) (ps ⟨5,0,13,35⟩ 3 1)=some (.next,S2 w os,.body body0 env0,⟨14,0,15,8⟩):=by
 refine to_fast ?_
 kernel_rfl
theorem piece2 (w:World) (os:OsState):segRunT treeTable PySem.Challenge.pw_sa0524_01 w 11 (some (.ref 6)) 1 223 (S2 w os) (ps ⟨14,0,15,8⟩ 4 2)=some (.next,S3 w os,.body body0 env0,⟨18,0,18,8⟩):=by
 refine to_fast ?_
 kernel_rfl
theorem piece3 (w:World) (os:OsState):segRunT treeTable PySem.Challenge.pw_sa0524_01 w 11 (some (.ref 6)) 1 582 (S3 w os) (ps ⟨18,0,18,8⟩ 6 1)=some (.next,S4 w os,.body body0 env0,⟨19,0,67,16⟩):=by
 refine to_fast ?_
 kernel_rfl
theorem piece4 (w:World) (os:OsState):segRunT treeTable PySem.Challenge.pw_sa0524_01 w 11 (some (.ref 6)) 1 139 (S4 w os) (ps ⟨19,0,67,16⟩ 7 6)=some (.next,S5 w os,.body body0 env0,⟨86,0,86,9⟩):=by
 refine to_fast ?_
 kernel_rfl
theorem piece5 (w:World) (os:OsState):segRunT treeTable PySem.Challenge.pw_sa0524_01 w 11 (some (.ref 6)) 1 223 (S5 w os) (ps ⟨86,0,86,9⟩ 13 1)=some (.next,S6 w os,.body body0 env0,⟨87,0,90,24⟩):=by
 refine to_fast ?_
 kernel_rfl
theorem piece6 (w:World) (os:OsState):segRunT treeTable PySem.Challenge.pw_sa0524_01 w 11 (some (.ref 6)) 1 226 (S6 w os) (ps ⟨87,0,90,24⟩ 14 1)=some (.next,S7 w os,.body body0 env0,⟨91,0,95,28⟩):=by
 refine to_fast ?_
 kernel_rfl
theorem piece7 (w:World) (os:OsState):segRunT treeTable PySem.Challenge.pw_sa0524_01 w 11 (some (.ref 6)) 1 225 (S7 w os) (ps ⟨91,0,95,28⟩ 15 1)=some (.next,S8 w os,.body body0 env0,⟨96,0,100,28⟩):=by
 refine to_fast ?_
 kernel_rfl
theorem piece8 (w:World) (os:OsState):segRunT treeTable PySem.Challenge.pw_sa0524_01 w 11 (some (.ref 6)) 1 314 (S8 w os) (ps ⟨96,0,100,28⟩ 16 3)=some (.next,S9 w os,.body body0 env0,⟨131,0,132,44⟩):=by
 refine to_fast ?_
 kernel_rfl
theorem piece9 (w:World) (os:OsState):segRunT treeTable PySem.Challenge.pw_sa0524_01 w 11 (some (.ref 6)) 1 67 (S9 w os) (ps ⟨131,0,132,44⟩ 19 3)=some (.next,S10 w os,.body body0 env0,⟨156,0,156,12⟩):=by
 refine to_fast ?_
 kernel_rfl
theorem piece10 (w:World) (os:OsState):segRunT treeTable PySem.Challenge.pw_sa0524_01 w 11 (some (.ref 6)) 1 295 (S10 w os) (ps ⟨156,0,156,12⟩ 22 1)=some (.next,S11 w os,.body body0 env0,⟨157,0,175,40⟩):=by
 refine to_fast ?_
 kernel_rfl
theorem piece11 (w:World) (os:OsState):segRunT treeTable PySem.Challenge.pw_sa0524_01 w 11 (some (.ref 6)) 1 401 (S11 w os) (ps ⟨157,0,175,40⟩ 23 1)=some (.next,S12 w os,.body body0 env0,⟨176,0,195,49⟩):=by
 refine to_fast ?_
 kernel_rfl
theorem piece12 (w:World) (os:OsState):segRunT treeTable PySem.Challenge.pw_sa0524_01 w 11 (some (.ref 6)) 1 10 (S12 w os) (ps ⟨176,0,195,49⟩ 24 1)=some (.next,S13 w os,.body body0 env0,⟨196,0,196,8⟩):=by
 refine to_fast ?_
 kernel_rfl
theorem piece13 (w:World) (os:OsState):segRunT treeTable PySem.Challenge.pw_sa0524_01 w 11 (some (.ref 6)) 1 400 (S13 w os) (ps ⟨196,0,196,8⟩ 25 1)=some (.next,S14 w os,.body body0 env0,⟨197,0,229,64⟩):=by
 refine to_fast ?_
 kernel_rfl
theorem piece14 (w:World) (os:OsState):segRunT treeTable PySem.Challenge.pw_sa0524_01 w 11 (some (.ref 6)) 1 97 (S14 w os) (ps ⟨197,0,229,64⟩ 26 4)=some (.next,S15 w os,.body body0 env0,⟨238,0,238,8⟩):=by
 refine to_fast ?_
 kernel_rfl
theorem piece15 (w:World) (os:OsState):segRunT treeTable PySem.Challenge.pw_sa0524_01 w 11 (some (.ref 6)) 1 309 (S15 w os) (ps ⟨238,0,238,8⟩ 30 3)=some (.next,S16 w os,.body body0 env0,⟨258,0,265,33⟩):=by
 refine to_fast ?_
 kernel_rfl
theorem piece16 (w:World) (os:OsState):segRunT treeTable PySem.Challenge.pw_sa0524_01 w 11 (some (.ref 6)) 1 79 (S16 w os) (ps ⟨258,0,265,33⟩ 33 5)=some (.next,S17 w os,.body body0 env0,⟨283,0,283,13⟩):=by
 refine to_fast ?_
 kernel_rfl
theorem piece17 (w:World) (os:OsState):segRunT treeTable PySem.Challenge.pw_sa0524_01 w 11 (some (.ref 6)) 1 262 (S17 w os) (ps ⟨283,0,283,13⟩ 38 1)=some (.next,S18 w os,.body body0 env0,⟨284,0,294,93⟩):=by
 refine to_fast ?_
 kernel_rfl
theorem piece18 (w:World) (os:OsState):segRunT treeTable PySem.Challenge.pw_sa0524_01 w 11 (some (.ref 6)) 1 229 (S18 w os) (ps ⟨284,0,294,93⟩ 39 1)=some (.next,S19 w os,.body body0 env0,⟨295,0,301,22⟩):=by
 refine to_fast ?_
 kernel_rfl
theorem piece19 (w:World) (os:OsState):segRunT treeTable PySem.Challenge.pw_sa0524_01 w 11 (some (.ref 6)) 1 322 (S19 w os) (ps ⟨295,0,301,22⟩ 40 2)=some (.next,S20 w os,.body body0 env0,⟨319,0,324,58⟩):=by
 refine to_fast ?_
 kernel_rfl
theorem piece20 (w:World) (os:OsState):segRunT treeTable PySem.Challenge.pw_sa0524_01 w 11 (some (.ref 6)) 1 105 (S20 w os) (ps ⟨319,0,324,58⟩ 42 3)=some (.next,S21 w os,.body body0 env0,⟨341,0,349,80⟩):=by
 refine to_fast ?_
 kernel_rfl
theorem piece21 (w:World) (os:OsState):segRunT treeTable PySem.Challenge.pw_sa0524_01 w 11 (some (.ref 6)) 1 393 (S21 w os) (ps ⟨341,0,349,80⟩ 45 1)=some (.next,S22 w os,.body body0 env0,⟨350,0,382,24⟩):=by
 refine to_fast ?_
 kernel_rfl
theorem piece22 (w:World) (os:OsState):segRunT treeTable PySem.Challenge.pw_sa0524_01 w 11 (some (.ref 6)) 1 321 (S22 w os) (ps ⟨350,0,382,24⟩ 46 12)=some (.next,S23 w os,.body body0 env0,⟨486,0,486,9⟩):=by
 refine to_fast ?_
 kernel_rfl
theorem piece23 (w:World) (os:OsState):segRunT treeTable PySem.Challenge.pw_sa0524_01 w 11 (some (.ref 6)) 1 310 (S23 w os) (ps ⟨486,0,486,9⟩ 58 3)=some (.next,S24 w os,.body body0 env0,⟨500,0,501,85⟩):=by
 refine to_fast ?_
 kernel_rfl
theorem piece24 (w:World) (os:OsState):segRunT treeTable PySem.Challenge.pw_sa0524_01 w 11 (some (.ref 6)) 1 142 (S24 w os) (ps ⟨500,0,501,85⟩ 61 8)=some (.next,S25 w os,.body body0 env0,⟨532,0,532,11⟩):=by
 refine to_fast ?_
 kernel_rfl
theorem piece25F (w:World):∀ os:OsState,seT tbT PySem.Challenge.pw_sa0524_01 w 11 (some (.ref 6)) 1 742 (S25 w os) (psF ⟨532,0,532,11⟩ 69 1)=some (.next,S26 w os,.body body0 env0,⟨533,0,533,11⟩):=by
 refine byRow2 "special-get-raises" (P:=fun w=>∀ os:OsState,seT tbT PySem.Challenge.pw_sa0524_01 w 11 (some (.ref 6)) 1 742 (S25 w os) (psF ⟨532,0,532,11⟩ 69 1)=some (.next,S26 w os,.body body0 env0,⟨533,0,533,11⟩)) (fun w os=>?_) (fun w os=>?_) w<;>kernel_rfl
theorem piece25 (w:World) (os:OsState):segRunT treeTable PySem.Challenge.pw_sa0524_01 w 11 (some (.ref 6)) 1 742 (S25 w os) (ps ⟨532,0,532,11⟩ 69 1)=some (.next,S26 w os,.body body0 env0,⟨533,0,533,11⟩):=to_fast (piece25F w os)
theorem piece26 (w:World) (os:OsState):segRunT treeTable PySem.Challenge.pw_sa0524_01 w 11 (some (.ref 6)) 1 325 (S26 w os) (ps ⟨533,0,533,11⟩ 70 13)=some (.next,S27 w os,.body body0 env0,⟨588,0,593,16⟩):=by
 refine to_fast ?_
 kernel_rfl
theorem piece27 (w:World) (os:OsState):segRunT treeTable PySem.Challenge.pw_sa0524_01 w 11 (some (.ref 6)) 1 328 (S27 w os) (ps ⟨588,0,593,16⟩ 83 1)=some (.next,S28 w os,.body body0 env0,⟨594,0,620,78⟩):=by
 refine to_fast ?_
 kernel_rfl
theorem piece28 (w:World) (os:OsState):segRunT treeTable PySem.Challenge.pw_sa0524_01 w 11 (some (.ref 6)) 1 324 (S28 w os) (ps ⟨594,0,620,78⟩ 84 5)=some (.next,S29 w os,.body body0 env0,⟨630,0,636,23⟩):=by
 refine to_fast ?_
 kernel_rfl
theorem piece29 (w:World) (os:OsState):segRunT treeTable PySem.Challenge.pw_sa0524_01 w 11 (some (.ref 6)) 1 314 (S29 w os) (ps ⟨630,0,636,23⟩ 89 10)=some (.next,S30 w os,.body body0 env0,⟨676,0,680,29⟩):=by
 refine to_fast ?_
 kernel_rfl
theorem piece30 (w:World) (os:OsState):segRunT treeTable PySem.Challenge.pw_sa0524_01 w 11 (some (.ref 6)) 1 301 (S30 w os) (ps ⟨676,0,680,29⟩ 99 4)=some (.next,S31 w os,.body body0 env0,⟨692,0,700,22⟩):=by
 refine to_fast ?_
 kernel_rfl
theorem piece31 (w:World) (os:OsState):segRunT treeTable PySem.Challenge.pw_sa0524_01 w 11 (some (.ref 6)) 1 307 (S31 w os) (ps ⟨692,0,700,22⟩ 103 10)=some (.next,S32 w os,.body body0 env0,⟨751,0,765,29⟩):=by
 refine to_fast ?_
 kernel_rfl
theorem piece32 (w:World) (os:OsState):segRunT treeTable PySem.Challenge.pw_sa0524_01 w 11 (some (.ref 6)) 1 298 (S32 w os) (ps ⟨751,0,765,29⟩ 113 16)=some (.next,S33 w os,.body body0 env0,⟨825,0,825,10⟩):=by
 refine to_fast ?_
 kernel_rfl
theorem piece33F (w:World):∀ os:OsState,seT tbT PySem.Challenge.pw_sa0524_01 w 11 (some (.ref 6)) 1 145 (S33 w os) (psF ⟨825,0,825,10⟩ 129 3)=some (.next,S34 w os,.body body0 env0,⟨828,0,828,7⟩):=by
 refine byRow2 "special-get-raises" (P:=fun w=>∀ os:OsState,seT tbT PySem.Challenge.pw_sa0524_01 w 11 (some (.ref 6)) 1 145 (S33 w os) (psF ⟨825,0,825,10⟩ 129 3)=some (.next,S34 w os,.body body0 env0,⟨828,0,828,7⟩)) (fun w os=>?_) (fun w os=>?_) w<;>kernel_rfl
theorem piece33 (w:World) (os:OsState):segRunT treeTable PySem.Challenge.pw_sa0524_01 w 11 (some (.ref 6)) 1 145 (S33 w os) (ps ⟨825,0,825,10⟩ 129 3)=some (.next,S34 w os,.body body0 env0,⟨828,0,828,7⟩):=to_fast (piece33F w os)
theorem piece34 (w:World) (os:OsState):segRunT treeTable PySem.Challenge.pw_sa0524_01 w 11 (some (.ref 6)) 1 302 (S34 w os) (ps ⟨828,0,828,7⟩ 132 2)=some (.next,S35 w os,.body body0 env0,⟨849,0,855,47⟩):=by
 refine to_fast ?_
 kernel_rfl
theorem piece35 (w:World) (os:OsState):segRunT treeTable PySem.Challenge.pw_sa0524_01 w 11 (some (.ref 6)) 1 310 (S35 w os) (ps ⟨849,0,855,47⟩ 134 10)=some (.next,S36 w os,.body body0 env0,⟨958,0,961,59⟩):=by
 refine to_fast ?_
 kernel_rfl
theorem piece36 (w:World) (os:OsState):segRunT treeTable PySem.Challenge.pw_sa0524_01 w 11 (some (.ref 6)) 1 326 (S36 w os) (ps ⟨958,0,961,59⟩ 144 10)=some (.next,S37 w os,.body body0 env0,⟨1055,0,1071,101⟩):=by
 refine to_fast ?_
 kernel_rfl
theorem piece37F (w:World):∀ os:OsState,seT tbT PySem.Challenge.pw_sa0524_01 w 11 (some (.ref 6)) 1 308 (S37 w os) (psF ⟨1055,0,1071,101⟩ 154 9)=some (.next,S38 w os,.body body0 env0,⟨1103,0,1123,16⟩):=by
 refine byRow2 "special-get-raises" (P:=fun w=>∀ os:OsState,seT tbT PySem.Challenge.pw_sa0524_01 w 11 (some (.ref 6)) 1 308 (S37 w os) (psF ⟨1055,0,1071,101⟩ 154 9)=some (.next,S38 w os,.body body0 env0,⟨1103,0,1123,16⟩)) (fun w os=>?_) (fun w os=>?_) w<;>kernel_rfl
theorem piece37 (w:World) (os:OsState):segRunT treeTable PySem.Challenge.pw_sa0524_01 w 11 (some (.ref 6)) 1 308 (S37 w os) (ps ⟨1055,0,1071,101⟩ 154 9)=some (.next,S38 w os,.body body0 env0,⟨1103,0,1123,16⟩):=to_fast (piece37F w os)
theorem piece38 (w:World) (os:OsState):segRunT treeTable PySem.Challenge.pw_sa0524_01 w 11 (some (.ref 6)) 1 65 (S38 w os) (ps ⟨1103,0,1123,16⟩ 163 2)=some (.next,S39 w os,.body body0 env0,⟨1133,0,1155,71⟩):=by
 refine to_fast ?_
 kernel_rfl
end Mine
end
section
open PySem PySem.W PyProof.Rows
namespace Mine
noncomputable abbrev pw₀:Program:=PySem.Challenge.pw_sa0524_01
theorem boot_:∀ w:World,(fencedOpening treeTable pw₀ w 21228).map (fun s=>(s.heap,s.gens,s.drawn,s.toks))=some (boot_heap w.params,Array.mk [],boot_drawn,boot_toks):=
 boot_open (by kernel_rfl) (by kernel_rfl) (fun s=>by kernel_rfl)
theorem size_:∀ w:World,((boot_heap w.params).isNs mainGlobals&&(Array.mk []:Array GenState).size==0,(boot_heap w.params).objs.size,(boot_heap w.params).nsMap mainGlobals "__annotations__")=(true,11,some (.ref 6)):=fun w=>by kernel_rfl
theorem pre_ (w:World) (os:OsState):topGo treeTable pw₀ w 11 (some (.ref 6)) 12 ⟨boot_heap w.params,Array.mk [],boot_drawn,boot_toks,os⟩ (topStub pw₀)=some ((S0 w os).abs,⟨denote treeTable (.body body0 env0),.body body0 env0,⟨0,0,0,0⟩,[topFrame ⟨0,0,0,0⟩]⟩):=by
 rw [PySem.W.Fast.te15667345088766844465,PySem.W.Fast.te11892475500146522536,PySem.W.Fast.te14364793385576792824]
 kernel_rfl
theorem block_ (w:World) (os:OsState):segRun treeTable pw₀ w 11 (some (.ref 6)) 1 1 (S0 w os).abs (blockOf body0 env0 (.body body0 env0) ⟨0,0,0,0⟩ [topFrame ⟨0,0,0,0⟩])=some (.next,(S0 w os).abs,.body body0 env0,⟨0,0,0,0⟩):=by
 kernel_rfl
theorem piece_drop {w:World} {m N:Nat} {s s':SharedT} {r:Shared} {i n:Nat} {z z':Pos} (h:segRunT treeTable pw₀ w 11 (some (.ref 6)) 1 m s (ps z i n)=some (.next,s',.body body0 env0,z'))
  (k:topRun treeTable pw₀ w 11 (some (.ref 6)) N s'.abs (restOf (body0.drop (i + n)) env0 (.body body0 env0) z' [topFrame ⟨0,0,0,0⟩])=some r):
  topRun treeTable pw₀ w 11 (some (.ref 6)) (m + N) s.abs (restOf (body0.drop i) env0 (.body body0 env0) z [topFrame ⟨0,0,0,0⟩])=some r:=by
 have e:body0.drop i=(body0.drop i).take n++body0.drop (i + n):=by rw [← List.drop_drop,List.take_append_drop]
 rw [e]
 exact piece_app (segRun_of h) k
theorem fin_ (w:World) (os:OsState):topRun treeTable pw₀ w 11 (some (.ref 6)) 2 (S39 w os).abs (restOf (body0.drop 165) env0 (.body body0 env0) ⟨1133,0,1155,71⟩ [topFrame ⟨0,0,0,0⟩])=some (S39 w os).abs:=by
 kernel_rfl
theorem run_ (w:World) (os:OsState):topRun treeTable pw₀ w 11 (some (.ref 6)) (12 + (1 + (307 + (214 + (223 + (582 + (139 + (223 + (226 + (225 + (314 + (67 + (295 + (401 + (10 + (400 + (97 + (309 + (79 + (262 + (229 + (322 + (105 + (393 + (321 + (310 + (142 + (742 + (325 + (328 + (324 + (314 + (301 + (307 + (298 + (145 + (302 + (310 + (326 + (308 + (65 + 2))))))))))))))))))))))))))))))))))))))))) ⟨boot_heap w.params,Array.mk [],boot_drawn,boot_toks,os⟩ (topStub pw₀)=some (S39 w os).abs:=
 go_top (pre_ w os) (piece_block (block_ w os) (piece_drop (piece0 w os) (piece_drop (piece1 w os) (piece_drop (piece2 w os) (piece_drop (piece3 w os) (piece_drop (piece4 w os) (piece_drop (piece5 w os) (piece_drop (piece6 w os) (piece_drop (piece7 w os) (piece_drop (piece8 w os) (piece_drop (piece9 w os) (piece_drop (piece10 w os) (piece_drop (piece11 w os) (piece_drop (piece12 w os) (piece_drop (piece13 w os) (piece_drop (piece14 w os) (piece_drop (piece15 w os) (piece_drop (piece16 w os) (piece_drop (piece17 w os) (piece_drop (piece18 w os) (piece_drop (piece19 w os) (piece_drop (piece20 w os) (piece_drop (piece21 w os) (piece_drop (piece22 w os) (piece_drop (piece23 w os) (piece_drop (piece24 w os) (piece_drop (piece25 w os) (piece_drop (piece26 w os) (piece_drop (piece27 w os) (piece_drop (piece28 w os) (piece_drop (piece29 w os) (piece_drop (piece30 w os) (piece_drop (piece31 w os) (piece_drop (piece32 w os) (piece_drop (piece33 w os) (piece_drop (piece34 w os) (piece_drop (piece35 w os) (piece_drop (piece36 w os) (piece_drop (piece37 w os) (piece_drop (piece38 w os) (fin_ w os)))))))))))))))))))))))))))))))))))))))))
end Mine
end
section
open PySem PySem.W PyProof.Rows
namespace Mine
theorem leaf0:(sreFenced PySem.Challenge.rw_sa0524_01.row.prog.main)=true:=by
 rw [PySem.W.Fast.te11788848310118352699,PySem.W.Fast.te2368527892694137696]
 kernel_rfl
theorem leaf1:((moduleNames PySem.Challenge.rw_sa0524_01.row.prog.main.body).isEmpty||
 lookedIntoSs (moduleNames PySem.Challenge.rw_sa0524_01.row.prog.main.body) PySem.Challenge.rw_sa0524_01.row.prog.main.body)=true:=by
 rw [PySem.W.Fast.te9807087744658564304,PySem.W.Fast.te2368527892694137696,PySem.W.Fast.te12862048085361865435]
 kernel_rfl
theorem leaf2:(namesResolve PySem.Challenge.rw_sa0524_01.row.prog)=true:=by
 rw [PySem.W.Fast.te8377067652309620493,PySem.W.Fast.te2368527892694137696]
 kernel_rfl
theorem leaf3:(PySem.Challenge.rw_sa0524_01.row.prog.boundNames.all fun n=> !worldNames.contains n)=true:=by
 rw [PySem.W.R.allR_eq,PySem.W.Fast.te18344453789297297638,PySem.W.Fast.te2368527892694137696,PySem.W.Fast.te3471404346716756564,PySem.W.Fast.sDec_eq,PySem.W.Fast.te14412699480532031325]
 kernel_rfl
theorem leaf4b:(["vars","dir","locals"]:List Str).filter (readsOut PySem.Challenge.rw_sa0524_01.row.prog PySem.Challenge.rw_sa0524_01.row.prog.main.body)=[]:=by
 rw [PySem.W.R.filterR_eq,PySem.W.Fast.te13343964577679436407]
 kernel_rfl
theorem leaf4s:(importedModules PySem.Challenge.rw_sa0524_01.row.prog.main.body).all cThrough.contains=true:=by
 rw [PySem.W.R.allR_eq,PySem.W.Fast.te5923862056798008813]
 kernel_rfl
theorem noRoadLSs_app (lk:Look):∀ a b:List Stmt,noRoadLSs lk a=true→noRoadLSs lk b=true→noRoadLSs lk (a++b)=true
 | [],b,_,h=>h
 | s::r,b,h,k=>by
  have h':(noRoadLS lk s&&noRoadLSs lk r)=true:=h
  rw [Bool.and_eq_true] at h'
  show (noRoadLS lk s&&noRoadLSs lk (r++b))=true
  rw [h'.1,noRoadLSs_app lk r b h'.2 k];rfl
theorem noRoad_drop (lk:Look) (l:List Stmt) (i n:Nat) (h:noRoadLSs lk ((l.drop i).take n)=true) (k:noRoadLSs lk (l.drop (i + n))=true):noRoadLSs lk (l.drop i)=true:=by
 have:=noRoadLSs_app lk _ _ h k
 rwa [← List.drop_drop,List.take_append_drop] at this
noncomputable abbrev lk0:Look:={strict:= !true,foot:=none,bare:=[]}
theorem leaf4_0:noRoadLSs lk0 ((PySem.Challenge.rw_sa0524_01.row.prog.main.body.drop 0).take 66)=true:=by
 rw [PySem.W.Fast.te8326940854005059898]
 kernel_rfl
theorem leaf4_1:noRoadLSs lk0 ((PySem.Challenge.rw_sa0524_01.row.prog.main.body.drop 66).take 1)=true:=by
 rw [PySem.W.Fast.te8326940854005059898]
 kernel_rfl
theorem leaf4_2:noRoadLSs lk0 ((PySem.Challenge.rw_sa0524_01.row.prog.main.body.drop 67).take 1)=true:=by
 rw [PySem.W.Fast.te8326940854005059898]
 kernel_rfl
theorem leaf4_3:noRoadLSs lk0 ((PySem.Challenge.rw_sa0524_01.row.prog.main.body.drop 68).take 1)=true:=by
 rw [PySem.W.Fast.te8326940854005059898]
 kernel_rfl
theorem leaf4_4:noRoadLSs lk0 ((PySem.Challenge.rw_sa0524_01.row.prog.main.body.drop 69).take 1)=true:=by
 rw [PySem.W.Fast.te8326940854005059898]
 kernel_rfl
theorem leaf4_5:noRoadLSs lk0 ((PySem.Challenge.rw_sa0524_01.row.prog.main.body.drop 70).take 100)=true:=by
 rw [PySem.W.Fast.te8326940854005059898]
 kernel_rfl
theorem leaf4_e:noRoadLSs lk0 (PySem.Challenge.rw_sa0524_01.row.prog.main.body.drop 170)=true:=by kernel_rfl
theorem leaf4w:noRoadLSs lk0 PySem.Challenge.rw_sa0524_01.row.prog.main.body=true:=(noRoad_drop lk0 PySem.Challenge.rw_sa0524_01.row.prog.main.body 0 66 leaf4_0 (noRoad_drop lk0 PySem.Challenge.rw_sa0524_01.row.prog.main.body 66 1 leaf4_1 (noRoad_drop lk0 PySem.Challenge.rw_sa0524_01.row.prog.main.body 67 1 leaf4_2 (noRoad_drop lk0 PySem.Challenge.rw_sa0524_01.row.prog.main.body 68 1 leaf4_3 (noRoad_drop lk0 PySem.Challenge.rw_sa0524_01.row.prog.main.body 69 1 leaf4_4 (noRoad_drop lk0 PySem.Challenge.rw_sa0524_01.row.prog.main.body 70 100 leaf4_5 leaf4_e))))))
theorem leaf4:noRoadLSs
 {strict:= !(importedModules PySem.Challenge.rw_sa0524_01.row.prog.main.body).all cThrough.contains,foot:=none,
  bare:=
   List.filter (readsOut PySem.Challenge.rw_sa0524_01.row.prog PySem.Challenge.rw_sa0524_01.row.prog.main.body)
    [Str.ofString "vars",Str.ofString "dir",Str.ofString "locals"]}
 PySem.Challenge.rw_sa0524_01.row.prog.main.body=true:=by
 rw [leaf4b,leaf4s];exact leaf4w
theorem leaf5:(namesMeet PySem.Challenge.rw_sa0524_01.row.prog PySem.Challenge.rw_sa0524_01.row.prog.main.body fun x n=>attrL n)=true:=by
 rw [PySem.W.Fast.te17119622794617984870,PySem.W.Fast.te2368527892694137696,PySem.W.Fast.te17868728402115742887]
 kernel_rfl
theorem leaf6:(PySem.Challenge.rw_sa0524_01.row.loose.isEmpty)=true:=by
 rw [PySem.W.Fast.te2368527892694137696]
 kernel_rfl
theorem leaf7:(PySem.Challenge.rw_sa0524_01.row.makers.isEmpty)=true:=by
 rw [PySem.W.Fast.te2368527892694137696]
 kernel_rfl
theorem leaf8:(List.isEmpty PySem.Challenge.rw_sa0524_01.row.records||
 PySem.Challenge.rw_sa0524_01.row.raises.all fun ct=>
  ct.fst !=ExcName.builtin "AttributeError"&&ct.fst !=ExcName.builtin "TypeError")=true:=by
 rw [PySem.W.Fast.te2368527892694137696,PySem.W.R.allR_eq,PySem.W.Fast.te9706382859710513879]
 kernel_rfl
theorem leaf10:(decide (List.map (fun x=>x.fst) PySem.Challenge.rw_sa0524_01.row.records).Nodup)=true:=by
 rw [PySem.W.R.mapR_eq,PySem.W.Fast.te2368527892694137696,PySem.W.Fast.sDec_eq]
 kernel_rfl
theorem leaf11:(List.all PySem.Challenge.rw_sa0524_01.row.records fun x=>
 !x.fst.opensWith (Str.ofString "__")&& !builtinNamed x.fst&&
   PySem.Challenge.rw_sa0524_01.row.prog.boundNames.contains x.fst&&
  x.snd.all fun f=> !f.fst.opensWith (Str.ofString "__"))=true:=by
 rw [PySem.W.R.allR_eq,PySem.W.Fast.te2368527892694137696,PySem.W.Fast.te4857012375875476094,PySem.W.Fast.named_eq,PySem.W.Fast.te3471404346716756564,PySem.W.Fast.sDec_eq,PySem.W.Fast.te18344453789297297638]
 kernel_rfl
theorem leaf12:(PySem.Challenge.rw_sa0524_01.row.solid)=true:=by
 rw [PySem.W.Fast.te13582783067957832011,PySem.W.Fast.te2368527892694137696]
 kernel_rfl
theorem leaf13:(PySem.Challenge.rw_sa0524_01.row.pre.litsOk)=true:=by
 rw [PySem.W.Fast.te5318747976498570220,PySem.W.Fast.te2368527892694137696]
 kernel_rfl
theorem leaf14:(PySem.Challenge.rw_sa0524_01.row.post.litsOk)=true:=by
 rw [PySem.W.Fast.te5318747976498570220,PySem.W.Fast.te2368527892694137696]
 kernel_rfl
theorem leaf15:(PySem.Challenge.rw_sa0524_01.row.raises.all fun x=>x.snd.litsOk)=true:=by
 rw [PySem.W.R.allR_eq,PySem.W.Fast.te2368527892694137696,PySem.W.Fast.te5318747976498570220]
 kernel_rfl
theorem leaf17:(PySem.Challenge.rw_sa0524_01.row.within.all fun i=>decide (i < PySem.Challenge.rw_sa0524_01.row.args.length))=true:=by
 rw [PySem.W.R.allR_eq,PySem.W.Fast.te2368527892694137696]
 kernel_rfl
theorem leaf18:(Option.all (fun i=>decide (i < PySem.Challenge.rw_sa0524_01.row.args.length)) PySem.Challenge.rw_sa0524_01.row.same)=true:=by
 rw [PySem.W.Fast.te2368527892694137696]
 kernel_rfl
theorem leaf19:(PySem.Challenge.rw_sa0524_01.row.prog.boundNames.contains PySem.Challenge.rw_sa0524_01.row.name)=true:=by
 rw [PySem.W.Fast.te3471404346716756564,PySem.W.Fast.sDec_eq,PySem.W.Fast.te18344453789297297638,PySem.W.Fast.te2368527892694137696]
 kernel_rfl
theorem leaf20:(!startupNames.contains PySem.Challenge.rw_sa0524_01.row.name)=true:=by
 rw [PySem.W.Fast.te3471404346716756564,PySem.W.Fast.sDec_eq,PySem.W.Fast.te12749700546528644094,PySem.W.Fast.te2368527892694137696]
 kernel_rfl
theorem leaf21:(decide (PySem.Challenge.rw_sa0524_01.foot≤(behindTheImports PySem.Challenge.rw_sa0524_01.prog).length))=true:=by
 kernel_rfl
theorem leaf22:(PySem.Challenge.rw_sa0524_01.footing.all footLine)=true:=by
 rw [PySem.W.R.allR_eq,PySem.W.Fast.te10501279942588096481]
 kernel_rfl
theorem leaf23:(noClassBlock PySem.Challenge.rw_sa0524_01.prog PySem.Challenge.rw_sa0524_01.footing)=true:=by
 rw [PySem.W.Fast.te8179353310426384613]
 kernel_rfl
theorem leaf24:(Option.all (fun n=>decide (63≤n)) PySem.Challenge.rw_sa0524_01.most)=true:=by
 kernel_rfl
theorem leaf25:(Option.all (fun n=>decide (2 ^ 63≤n)) PySem.Challenge.rw_sa0524_01.bound)=true:=by
 kernel_rfl
theorem leaf26:(noRoadLSs
 {strict:=true,foot:=some PySem.Challenge.rw_sa0524_01.bound',writes:=PySem.Challenge.rw_sa0524_01.writes,
  may:=PySem.Challenge.rw_sa0524_01.may}
 PySem.Challenge.rw_sa0524_01.footing)=true:=by
 rw [PySem.W.Fast.te8326940854005059898,PySem.W.Fast.te797321630700447069,PySem.W.Fast.te9572597257264208301]
 kernel_rfl
theorem leaf27:(defStands PySem.Challenge.rw_sa0524_01.about PySem.Challenge.rw_sa0524_01.above)=true:=by
 rw [PySem.W.Fast.te9558739934217749035]
 kernel_rfl
theorem leaf28:(PySem.Challenge.rw_sa0524_01.namesIt)=true:=by
 rw [PySem.W.Fast.te16286561074155671207]
 kernel_rfl
theorem leaf29:([Str.ofString "type",Str.ofString "isinstance",Str.ofString "issubclass",Str.ofString "getattr",
   Str.ofString "hasattr"].all
 fun n=>PySem.Challenge.rw_sa0524_01.about != [n])=true:=by
 rw [PySem.W.R.allR_eq,PySem.W.Fast.sDec_eq]
 kernel_rfl
theorem leaf30:(PySem.Challenge.rw_sa0524_01.bound'.all fun n=>
 !builtinNamed n||PySem.Challenge.rw_sa0524_01.about== [n]|| !PySem.Challenge.rw_sa0524_01.reads n)=true:=by
 rw [PySem.W.R.allR_eq,PySem.W.Fast.te797321630700447069,PySem.W.Fast.named_eq,PySem.W.Fast.sDec_eq,PySem.W.Fast.te6984425678791042302]
 kernel_rfl
theorem leaf31:(!PySem.Challenge.rw_sa0524_01.writes||
 (List.flatMap importedNames PySem.Challenge.rw_sa0524_01.prog.main.body).all fun n=> !PySem.Challenge.rw_sa0524_01.reads n)=true:=by
 rw [PySem.W.R.allR_eq,PySem.W.Fast.te17095254045102204799,PySem.W.Fast.te12879404354523853263,PySem.W.Fast.te6984425678791042302]
 kernel_rfl
theorem leaf32:((List.flatMap importedNames PySem.Challenge.rw_sa0524_01.prog.main.body).all fun n=>
 !PySem.Challenge.rw_sa0524_01.reads n||
  (drawsOf n PySem.Challenge.rw_sa0524_01.prog.main.body).all fun mn=>
   mn.snd !=Str.ofString "attrgetter"&&mn.snd !=Str.ofString "methodcaller")=true:=by
 rw [PySem.W.R.allR_eq,PySem.W.Fast.te17095254045102204799,PySem.W.Fast.te12879404354523853263,PySem.W.Fast.te6984425678791042302,PySem.W.Fast.te482687673346738481,PySem.W.Fast.sDec_eq]
 kernel_rfl
theorem leaf33:(namesMeet PySem.Challenge.rw_sa0524_01.prog PySem.Challenge.rw_sa0524_01.footing fun sc n=>
 (![Str.ofString "type",Str.ofString "isinstance",Str.ofString "issubclass",Str.ofString "getattr",
       Str.ofString "hasattr"].contains
     n||
   List.lookup n sc.names==some NameKind.globalImplicit)&&
  (PySem.Challenge.rw_sa0524_01.may !=some n||sc.kind==ScopeKind.module||
   List.lookup n sc.names==some NameKind.globalImplicit))=true:=by
 rw [PySem.W.Fast.te17119622794617984870,PySem.W.Fast.te3471404346716756564,PySem.W.Fast.sDec_eq,PySem.W.Fast.te9572597257264208301]
 kernel_rfl
theorem leaf34:(PySem.Challenge.rw_sa0524_01.own.contains PySem.Challenge.rw_sa0524_01.name)=true:=by
 rw [PySem.W.Fast.te3471404346716756564,PySem.W.Fast.sDec_eq,PySem.W.Fast.te10792542408131684335]
 kernel_rfl
theorem leaf35:(PySem.Challenge.rw_sa0524_01.own.eraseDups.length==PySem.Challenge.rw_sa0524_01.own.length)=true:=by
 rw [PySem.W.Fast.te7723801398212525404,PySem.W.Fast.sDec_eq,PySem.W.Fast.te10792542408131684335]
 kernel_rfl
theorem leaf36:(PySem.Challenge.rw_sa0524_01.own.all fun n=> !builtinNamed n)=true:=by
 rw [PySem.W.R.allR_eq,PySem.W.Fast.te10792542408131684335,PySem.W.Fast.named_eq]
 kernel_rfl
theorem leaf37:(namesMeet PySem.Challenge.rw_sa0524_01.prog PySem.Challenge.rw_sa0524_01.above fun x n=>
 !PySem.Challenge.rw_sa0524_01.own.contains n)=true:=by
 rw [PySem.W.Fast.te17119622794617984870,PySem.W.Fast.te3471404346716756564,PySem.W.Fast.sDec_eq,PySem.W.Fast.te10792542408131684335]
 kernel_rfl
theorem leaf38:(namesMeet PySem.Challenge.rw_sa0524_01.prog PySem.Challenge.rw_sa0524_01.footing fun sc n=>
 sc.kind==ScopeKind.module||List.lookup n sc.names !=some NameKind.globalExplicit)=true:=by
 rw [PySem.W.Fast.te17119622794617984870,PySem.W.Fast.sDec_eq]
 kernel_rfl
theorem said:PySem.Challenge.rw_sa0524_01.wellSaid=true:=by
 unfold OpenLaw.wellSaid OpenRow.wellSaid OpenRow.partSaid looksOpen
 repeat' (with_reducible refine look_both ?_ ?_)
 ·with_reducible exact leaf0
 ·with_reducible exact leaf1
 ·with_reducible exact leaf2
 ·with_reducible exact leaf3
 ·with_reducible exact leaf4
 ·with_reducible exact leaf5
 ·with_reducible exact leaf6
 ·with_reducible exact leaf7
 ·with_reducible exact leaf8
 ·kernel_rfl
 ·with_reducible exact leaf10
 ·with_reducible exact leaf11
 ·with_reducible exact leaf12
 ·with_reducible exact leaf13
 ·with_reducible exact leaf14
 ·with_reducible exact leaf15
 ·kernel_rfl
 ·with_reducible exact leaf17
 ·with_reducible exact leaf18
 ·with_reducible exact leaf19
 ·with_reducible exact leaf20
 ·with_reducible exact leaf21
 ·with_reducible exact leaf22
 ·with_reducible exact leaf23
 ·with_reducible exact leaf24
 ·with_reducible exact leaf25
 ·with_reducible exact leaf26
 ·with_reducible exact leaf27
 ·with_reducible exact leaf28
 ·with_reducible exact leaf29
 ·with_reducible exact leaf30
 ·with_reducible exact leaf31
 ·with_reducible exact leaf32
 ·with_reducible exact leaf33
 ·with_reducible exact leaf34
 ·with_reducible exact leaf35
 ·with_reducible exact leaf36
 ·with_reducible exact leaf37
 ·with_reducible exact leaf38
end Mine
end
section
open PySem PySem.W PyProof.Rows
namespace Mine
noncomputable def qv:Program:={pw₀ with main:={pw₀.main with body:=[tst 164]}}
noncomputable def H₁ (P:Params):Heap:=absHeap (T39 P) 1405 {}
noncomputable def sf (w:World) (os:OsState):Shared:=⟨H₁ w.params,Array.mk [],{},2400,os⟩
theorem lk1 (w:World):staticsOk (importedModules pw₀.main.body) (boot_heap w.params) (H₁ w.params)=true:=by
 rw [PySem.W.Fast.te5923862056798008813]
 kernel_rfl
theorem lk2 (w:World):namesBound pw₀ (H₁ w.params)=true:=by kernel_rfl
theorem lk3 (w:World) (os:OsState):gensDone (sf w os)=true:=by kernel_rfl
theorem lk4 (w:World):laidKept (boot_heap w.params) (H₁ w.params)=true:=by kernel_rfl
theorem ok1:chainsOk qv=true:=by kernel_rfl
theorem ok2:opensWell pw₀=true:=by kernel_rfl
noncomputable def dLaw:DefRec:={name:="law",params:=fArgs (tst 164),body:=fBody (tst 164),scope:=fScope (tst 164),pos:=⟨1133,0,1155,71⟩}
theorem ok3:defOf qv "law"=some (dLaw,[]):=by kernel_rfl
end Mine
end
section
open PySem PySem.W PyProof.Rows
namespace Mine
noncomputable def loose₀:List Str:=(["_wall","PaperError","PaintFault","FontFault","Decimal","sign_text","sign_of","decimal_of","at_one_scale","MOST_HOPS","Name","String","Stream","Reference","kind_of","is_number","told_plain","told","told_objects","Lookup","Shelf","Matrix","identity","translation","from_array","Operation","text_kinds","fits_kind","used_names","MOST_FORMS_textout","PLACED_WORDS","SPACING_WORDS","Glyph","TextSheet","TextState","advance","along","shown_glyphs","check_operands","TextWalk","follow_placed","choose_font","follow_state","sheet_glyphs","lay_glyphs","resource_dict","form_matrix","is_form","text_sheet","MOST_LENGTH","HEX_SIGNS","CMap","code_of","code_octets","fitting","next_length","split_codes","LOW_NAMES","MIDDLE_NAMES","HIGH_NAMES","LATIN_NAMES","OTHER_CODES","SURROGATES","MOST_CODE","ascii_names","latin_names","hex_number","is_sign_code","known_code","part_text","glyph_text","width_in","standard_width","cid_of","Font","Path","pair_of","is_shut","current_point","drawn_parts","move_to","path_with","line_to","curve_to","curve_from","curve_into","close_path","rectangle","each_point","transformed","State","first_colour","first_values","first_state","copied_state","numbers_of","name_of","choice_of","colour_parts","device_count","own_colour","set_colour","set_dash","set_line","set_named","set_text","MOST_FORMS_painter","STATE_WORDS","LINE_WORDS","PATH_WORDS","CLIP_WORDS","PAINT_WORDS","COLOUR_WORDS","TEXT_WORDS","PLACE_WORDS","SHOW_WORDS","NOTE_WORDS","FILLS","STROKES","CLOSERS","Painter","paint_all","put_mark","check_place","perform","do_other","do_state","matrix_of","named","do_line","do_path","do_clip","do_paint","add_clip","move_line","do_place","octets_of_row","do_show","do_object","form_numbers","enter_form","do_form","_law_texts","_law_draw","_law_pair","_law_six","_law_string","_law_setting","_law_deed","_law_content","_law_due"]:List String).map Str.ofString
noncomputable abbrev Xt₀:Shared→Bool:=fun s=>xlAt qv [] s&&recOk (RowW.records (OpenRow.toRowW (OpenLaw.row PySem.Challenge.rw_sa0524_01))) s
theorem lk5 (w:World) (os:OsState):openSeen qv loose₀ (importedModules pw₀.main.body) Xt₀ true (sf w os)=openGood qv loose₀:=by
 rw [PySem.W.Fast.te4187177175401517315,PySem.W.Fast.te5923862056798008813]
 kernel_rfl
end Mine
end
section
open PySem PySem.W PyProof.Rows
namespace Mine
noncomputable def HeapHas (P:Params) (h:Heap):Prop:=∀ a o,(H₁ P).get? a=some o→h.get? a=some o
noncomputable def hook₀:Hook:=⟨Heap,fun s=>s.heap,fun w=>H₁ w.params,fun w h=>HeapHas w.params h,fun w s e a o g=>by rw [← e] at g;exact g,fun w h h' x k a o g=>k a o (x a o g)⟩
noncomputable abbrev row₀:OpenRow:=OpenLaw.row PySem.Challenge.rw_sa0524_01
theorem run2 (w:World) (os:OsState):topRun treeTable pw₀ w 11 (some (.ref 6)) 10605 ⟨boot_heap w.params,Array.mk [],boot_drawn,boot_toks,os⟩ (topStub pw₀)=some ⟨H₁ w.params,Array.mk [],{},2400,os⟩:=
 (run_ w os).trans (by kernel_rfl)
theorem mk3 {α β γ:Type} {a a':α} {b b':β} {c c':γ} (x:a=a') (y:b=b') (z:c=c'):(a,b,c)=(a',b',c'):=by rw [x,y,z]
theorem e1_ (w:World) (os:OsState):(staticsOk (importedModules pw₀.main.body) (boot_heap w.params) (H₁ w.params)&&namesBound pw₀ (H₁ w.params)&&gensDone ⟨H₁ w.params,Array.mk [],{},2400,os⟩&&laidKept (boot_heap w.params) (H₁ w.params))=true:=by
 have h:=lk3 w os
 unfold sf at h
 rw [lk1,lk2,h,lk4];rfl
theorem lk5' (w:World) (os:OsState):openSeen qv loose₀ (importedModules pw₀.main.body) Xt₀ true ⟨H₁ w.params,Array.mk [],{},2400,os⟩=openGood qv loose₀:=by
 have h:=lk5 w os
 unfold sf at h
 exact h
theorem hk_ (w:World) (os:OsState):Hook.obs hook₀ ⟨H₁ w.params,Array.mk [],{},2400,os⟩=Hook.val hook₀ w:=by kernel_rfl
theorem looks_ (w:World):(fun os=>((staticsOk (importedModules pw₀.main.body) (boot_heap w.params) (H₁ w.params)&&namesBound pw₀ (H₁ w.params)&&gensDone ⟨H₁ w.params,Array.mk [],{},2400,os⟩&&laidKept (boot_heap w.params) (H₁ w.params)),
  openSeen qv loose₀ (importedModules pw₀.main.body) Xt₀ true ⟨H₁ w.params,Array.mk [],{},2400,os⟩,Hook.obs hook₀ ⟨H₁ w.params,Array.mk [],{},2400,os⟩))=fun _=>(true,openGood qv loose₀,Hook.val hook₀ w):=
 funext fun os=>mk3 (e1_ w os) (lk5' w os) (hk_ w os)
theorem le_:Nat.ble 10605 21228=true:=by kernel_rfl
theorem left_:LeftO pw₀ qv loose₀ Xt₀ (Hook.obs hook₀) (Hook.val hook₀) 21228:=
 @LeftO.of_pieces pw₀ qv loose₀ Xt₀ _ (Hook.obs hook₀) (Hook.val hook₀) 21228 true boot_heap H₁ (Array.mk []) (Array.mk []) boot_drawn {} boot_toks 2400 11 (some (.ref 6)) 10605 boot_ size_ run2 le_ looks_
theorem promised_:row₀.toRowW.promised:=⟨[.list []],by kernel_rfl,by kernel_rfl⟩
theorem bare6:pw₀.tablesWhole=true:=by
 unfold Program.tablesWhole TablesWhole.wProgram TablesWhole.holds
 rw [PySem.W.Fast.te6116379765354995101,PySem.W.Fast.te15985051520779696433]
 kernel_rfl
theorem hp_:pw₀.theDef "law"=some (dLaw.params,dLaw.body,dLaw.scope):=by
 rw [PySem.W.Fast.te10235530238920679567]
 kernel_rfl
theorem okk:(chainsOk qv&&opensWell pw₀&&(frees row₀.toRowW&&row₀.toRowW.within.isEmpty))=true:=by
 rw [ok1,ok2];kernel_rfl
theorem head (call:WalkO qv loose₀ (XL qv []) (Hook.says hook₀) row₀.toRowW dLaw [] fun f vs=>PySem.call f vs):PySem.Challenge.rw_sa0524_01.Holds:=
 holds_law said fun k1=>holds_open (r:=row₀) (q:=qv) (loose:=loose₀) (Xt:=Xt₀) (XP:=XL qv []) (Yf:=Hook.obs hook₀) (Ya:=Hook.val hook₀) (YP:=Hook.says hook₀) (d:=dLaw) (kwd:=[]) (N:=21228)
  left_ (Hook.of hook₀) (Hook.keeps hook₀) (fun s e=>xl_of s (Bool.and_eq_true_iff.mp e).1) XL.keeps ok3 hp_ (by kernel_rfl) (fun s e=>recFacts_of (Bool.and_eq_true_iff.mp e).2) (by kernel_rfl) k1 okk
  ⟨rfl,rfl,rfl,rfl,rfl,bare6⟩ promised_ call
end Mine
end
section
namespace Mine
namespace E
inductive I where
 | x0
 | x1
 | x2
 | x3
 | x4
 | x5
 | x6
 | x7
 | x8
 | x9
 | xa
 | xb
 | xc
 deriving DecidableEq
inductive Nm where
 | A (i:I)
 | B (i:I)
 | C (i:I)
 | D (i:I)
 | E (i:I)
 | F (i:I)
 | G (i:I)
 | H (i:I)
 | I (i:I)
 | J (i:I)
 | K (i:I)
 | L (i:I)
 deriving DecidableEq
noncomputable abbrev Sm:=Nm
noncomputable abbrev Gl:=Nm
noncomputable def iAll:List I:=[.x0,.x1,.x2,.x3,.x4,.x5,.x6,.x7,.x8,.x9,.xa,.xb,.xc]
noncomputable def nmEv:List Nm:=[Nm.A,Nm.B,Nm.C,Nm.D,Nm.E,Nm.F,Nm.G,Nm.H,Nm.I,Nm.J,Nm.K,Nm.L].flatMap fun c=>iAll.map c
noncomputable def smEv:List Sm:=nmEv
noncomputable def glEv:List Gl:=nmEv
noncomputable def pk {α:Type} (d:α) (i:I) (l:List α):α:=l.getD i.ctorIdx d
inductive Lm where
 | l_0
 | l_1
 | l_2
 deriving DecidableEq
noncomputable def smChars:Sm→Option (List Sm)
 | (.B .x6)=>some [(.B .x5),(.B .x9)]
 | (.A .x4)=>some [(.A .x3),(.A .x5)]
 | (.A .x3)=>some [(.A .x3)]
 | (.A .x5)=>some [(.A .x5)]
 | (.B .x5)=>some [(.B .x5)]
 | (.B .x9)=>some [(.B .x9)]
 | (.A .x0)=>some []
 | _=>none
noncomputable def smRank:Sm→Option Nat
 | (.A .x3)=>some 65
 | (.A .x5)=>some 66
 | (.B .x5)=>some 70
 | (.B .x9)=>some 71
 | _=>none
noncomputable def smLt (a b:Sm):Option Bool:=match smRank a,smRank b with | some i,some j=>some (decide (i < j)) | _,_=>none
inductive V where
 | none
 | bool (b:Bool)
 | int (i:Int)
 | str (s:Sm)
 | bytes (b:List UInt8)
 | rng (n:Int)
 | tup (vs:List V)
 | lst (vs:List V)
 | dct (kvs:List (V×V))
 | inst (c:Gl) (fs:List (Nm×V))
 | ref (n:Nat)
 | glob (g:Gl)
 | clo (k:Lm) (caps:List (Nm×V))
inductive MObj where
 | inst (c:Gl) (fs:List (Nm×V))
 | list (vs:List V)
 | dict (kvs:List (V×V))
 | tab (l:List Lm)
structure St where
 objs:Nat→Option MObj
 next:Nat
namespace St
noncomputable def set (σ:St) (n:Nat) (o:MObj):St:=⟨fun m=>if m=n then some o else σ.objs m,σ.next⟩
noncomputable def del (σ:St) (n:Nat):St:=⟨fun m=>if m=n then .none else σ.objs m,σ.next⟩
noncomputable def new (σ:St) (o:MObj):St:=⟨fun m=>if m=σ.next then some o else σ.objs m,σ.next + 1⟩
end St
inductive BOp | add | sub | mul | fdiv | mod | pow
inductive COp | eq | ne | lt | le | gt | ge | is_ | isnot | in_ | notin
set_option genCtorIdx false in
inductive X where
 | junk
 | lit (v:V)
 | loc (n:Nm)
 | glob (g:Gl)
 | attr (x:X) (n:Nm)
 | call (f:X) (args:List X)
 | meth (x:X) (n:Nm) (args:List X)
 | bin (op:BOp) (a b:X)
 | cmp (op:COp) (a b:X)
 | and_ (xs:List X)
 | or_ (xs:List X)
 | not_ (x:X)
 | neg (x:X)
 | ite_ (c a b:X)
 | sub (a i:X)
 | slice (m:Bool) (a:X) (lo hi:Option X)
 | list (m:Bool) (xs:List X)
 | tup (xs:List X)
 | dict (m:Bool) (kvs:List (X×X))
 | comp (elt:X) (v:Nm) (it:X) (cond:Option X)
 | lam (k:Lm)
 | frz (x:X)
set_option genCtorIdx false in
inductive T where
 | nm (n:Nm)
 | me (n:Nm)
 | attr (x:X) (n:Nm)
 | sub (x i:X)
 | tup (ts:List T)
set_option genCtorIdx false in
inductive S where
 | junk
 | pass
 | ghost (n:Nm)
 | expr (x:X)
 | ret (x:Option X)
 | asg (t:T) (x:X)
 | asc (y:Nm) (elt:X) (z:Nm) (it:X) (cond:Option X)
 | swp (a b:Nm) (m:Bool) (xs:List X) (c:V)
 | ife (c:X) (a b:List S)
 | fr (t:T) (it:X) (body:List S)
 | whl (c:X) (body:List S)
structure FnDef where
 params:List Nm
 defaults:List V
 body:List S
structure Fr where
 vars:List (Nm×V)
 me:Option (Gl×List (Nm×V))
set_option genCtorIdx false in
inductive Fl | next | ret (v:V)
noncomputable def isBi (g:Gl):Bool:=[(.G .x3),(.G .x6),(.G .x7),(.H .x0),(.I .x5),(.I .x8),(.I .xc),(.J .x0),(.J .x2),(.J .xb),(.K .x3)].contains g
noncomputable def isTop (g:Gl):Bool:=[(.A .x1),(.A .x4),(.A .xa),(.B .x2),(.B .xc),(.C .x4),(.C .x6),(.C .xc),(.D .x2),(.D .x4),(.D .xa),(.D .xc),(.E .x1),(.E .x3),(.E .x6),(.E .x8),(.E .xc),(.F .x6),(.F .x7),(.F .x8),(.F .x9),(.F .xa),(.F .xb),(.F .xc),(.G .x0),(.G .x2),(.G .x4),(.G .x5),(.G .x8),(.G .x9),(.G .xa),(.G .xb),(.G .xc),(.H .x1),(.H .x2),(.H .x3),(.H .x4),(.H .x5),(.H .x6),(.H .x7),(.H .x8),(.H .x9),(.H .xa),(.H .xb),(.H .xc),(.I .x0),(.I .x1),(.I .x2),(.I .x3),(.I .x4),(.I .x6),(.I .x7),(.I .x9),(.I .xa),(.I .xb),(.J .x1),(.J .x3),(.J .x4),(.J .x5),(.J .x6),(.J .x7),(.J .x8),(.J .x9),(.J .xa),(.J .xc),(.K .x0),(.K .x1),(.K .x2),(.K .x4),(.K .x5),(.K .x6),(.K .x7),(.K .x8)].contains g
noncomputable def at? {α:Type} (g:Gl):List (Gl×α)→Option α
 | []=>none
 | (h,a)::r=>if h=g then some a else at? g r
noncomputable def gval:Gl→V
 | (.A .x0)=>(.tup [(.str (.D .xc)),(.str (.E .x0))])
 | (.A .x3)=>(.tup [(.str (.F .x5)),(.str (.B .x9)),(.str (.H .x0)),(.str (.C .x5)),(.str (.F .xc)),(.str (.B .xc)),(.str (.E .x9)),(.str (.A .xb)),(.str (.H .x4)),(.str (.C .x8)),(.str (.H .x6)),(.str (.C .x9))])
 | (.B .x5)=>(.tup [(.str (.I .x2)),(.str (.B .xb)),(.str (.F .xa)),(.str (.C .x0)),(.str (.E .xa)),(.str (.H .x1)),(.str (.F .x8)),(.str (.F .x6))])
 | (.B .x9)=>(.int 8)
 | (.B .xa)=>(.int 8)
 | (.B .xb)=>(.int 30)
 | (.C .x8)=>(.tup [(.str (.C .x7)),(.str (.H .x3)),(.str (.F .x2)),(.str (.B .x5)),(.str (.F .x3)),(.str (.A .x5)),(.str (.A .x6)),(.str (.E .x4)),(.str (.E .x5)),(.str (.G .x5))])
 | (.C .x9)=>(.tup [(.str (.G .x2)),(.str (.G .x0)),(.str (.E .x6)),(.str (.I .x1)),(.str (.I .x5)),(.str (.F .x7)),(.str (.G .xb))])
 | (.C .xa)=>(.tup [(.str (.D .x4)),(.str (.D .x0)),(.str (.C .xc)),(.str (.D .x7)),(.str (.D .x6)),(.str (.D .x1)),(.str (.A .x2)),(.str (.A .x1)),(.str (.B .x3))])
 | (.C .xb)=>(.tup [(.str (.D .x4)),(.str (.D .x0)),(.str (.D .x7)),(.str (.C .xc))])
 | (.D .x7)=>(.tup [(.str (.D .x6)),(.str (.D .x1)),(.str (.A .x2)),(.str (.A .x1))])
 | (.D .x8)=>(.tup [(.str (.D .x3)),(.str (.D .xa)),(.str (.D .xb)),(.str (.D .x2)),(.str (.D .x9))])
 | (.D .x9)=>(.tup [(.str (.G .xa)),(.str (.C .x4)),(.str (.E .x8))])
 | (.E .x5)=>(.tup [(.str (.D .x3)),(.str (.D .xa)),(.str (.D .xb)),(.str (.D .x2)),(.str (.D .x9)),(.str (.D .x8)),(.str (.D .x5))])
 | (.G .x1)=>(.dct [((.str (.B .x5)),(.dct [((.int 65),(.str (.A .x3))),((.int 66),(.str (.A .x5)))])),((.str (.B .x9)),(.dct [((.int 65),(.str (.E .x2))),((.int 66),(.str (.E .x4)))]))])
 | g=>.glob g
noncomputable def nat? {α:Type} (n:Nm):List (Nm×α)→Option α
 | []=>none
 | (h,a)::r=>if h=n then some a else nat? n r
noncomputable def methL:List (Gl×List (Nm×Gl)):=[((.A .x4),[((.H .x1),(.A .x7)),((.K .x0),(.A .x8)),((.F .x2),(.A .x6)),((.K .x1),(.A .x9))]),((.A .xa),[((.B .x0),(.A .xc)),((.L .x4),(.B .x1)),((.J .xb),(.B .x0))]),((.B .x2),[((.K .x1),(.B .x4))]),((.B .xc),[((.K .x0),(.C .x3)),((.A .x3),(.C .x1)),((.I .x2),(.C .x2))]),((.C .xc),[((.G .x4),(.D .x1))]),((.D .x4),[((.G .x6),(.D .x6))]),((.D .xa),[((.C .x4),(.B .x7)),((.D .x3),(.B .x8)),((.H .x3),(.D .xb))]),((.E .x8),[((.B .x2),(.E .xa)),((.J .x7),(.E .xb))]),((.E .xc),[((.I .x3),(.F .x4)),((.I .x4),(.F .x5)),((.F .x3),(.F .x2)),((.C .x3),(.F .x1)),((.H .xc),(.F .x3))])]
noncomputable def methOf (c:Gl) (m:Nm):Option Gl:=match at? c methL with | some l=>nat? m l | none=>none
noncomputable def fieldL:List (Gl×List Nm):=[((.A .x1),[(.I .xc),(.A .xa)]),((.A .x4),[(.K .x2),(.G .xc)]),((.A .xa),[(.F .x1),(.B .x5),(.K .x7),(.H .x7),(.B .x7),(.K .x8),(.J .x3)]),((.B .x2),[(.J .xb),(.L .x7),(.L .x8),(.L .x4),(.I .x6)]),((.B .xc),[(.A .x0),(.A .x5),(.A .x8),(.B .x6),(.B .xa),(.C .x1)]),((.C .x4),[(.J .xb)]),((.C .x6),[(.L .x6),(.F .xc)]),((.C .xc),[(.I .x1),(.H .x4),(.F .xb),(.J .x5),(.G .xa),(.C .x7),(.G .x9),(.H .x8),(.J .xb),(.I .x7),(.F .xa),(.E .xa),(.A .xb)]),((.D .x2),[(.G .x8)]),((.D .x4),[(.F .x4),(.D .x2)]),((.D .xa),[(.J .x9),(.K .x4)]),((.D .xc),[(.E .xb),(.A .xb),(.C .x5),(.J .x8),(.L .x0)]),((.E .x1),[(.D .x6),(.F .x7)]),((.E .x3),[(.F .x7),(.E .x0)]),((.E .x6),[(.G .x1),(.C .xa),(.C .xc),(.G .x3)]),((.E .x8),[(.B .x4),(.C .x8),(.I .x6),(.J .x0)]),((.E .xc),[(.I .x0),(.J .x5),(.G .xa),(.H .x6),(.G .xb),(.D .x0)])]
noncomputable def fieldsOf (c:Gl):List Nm:=(at? c fieldL).getD []
noncomputable def isField (c:Gl) (n:Nm):Bool:=(fieldsOf c).contains n
noncomputable def cinitL:List (Gl×Gl×Bool):=[((.A .x1),((.A .x2),true)),((.A .x4),((.A .x5),true)),((.A .xa),((.A .xb),true)),((.B .x2),((.B .x3),true)),((.B .xc),((.C .x0),true)),((.C .x4),((.C .x5),true)),((.C .x6),((.C .x7),true)),((.C .xc),((.D .x0),false)),((.D .x2),((.D .x3),true)),((.D .x4),((.D .x5),true)),((.D .xa),((.B .x6),true)),((.D .xc),((.E .x0),false)),((.E .x1),((.E .x2),true)),((.E .x3),((.E .x4),true)),((.E .x6),((.E .x7),true)),((.E .x8),((.E .x9),false)),((.E .xc),((.F .x0),false))]
noncomputable def cinit (c:Gl):Option (Gl×Bool):=at? c cinitL
noncomputable def lamParams:Lm→List Nm
 | .l_0=>[(.E .x8),(.J .x6)]
 | .l_1=>[(.E .x8),(.D .x6)]
 | .l_2=>[(.E .x8),(.J .x6)]
noncomputable def lamFree:Lm→List Nm
 | .l_0=>[(.H .x7)]
 | .l_1=>[(.C .xa)]
 | .l_2=>[(.H .x7)]
noncomputable def lamBody:Lm→X
 | .l_0=>(.sub (.loc (.H .x7)) (.sub (.attr (.loc (.J .x6)) (.F .x7)) (.lit (.int 0))))
 | .l_1=>(.sub (.loc (.C .xa)) (.attr (.sub (.loc (.D .x6)) (.lit (.str (.B .xc)))) (.J .xb)))
 | .l_2=>(.sub (.loc (.H .x7)) (.sub (.attr (.loc (.J .x6)) (.F .x7)) (.lit (.int 0))))
noncomputable def b_Decimal___init__:List S:=[
 .whl (.and_ [(.cmp .gt (.loc (.G .xc)) (.lit (.int 0))),(.cmp .eq (.bin .mod (.loc (.K .x2)) (.lit (.int 10))) (.lit (.int 0)))]) [.asg (.nm (.K .x2)) (.bin .fdiv (.loc (.K .x2)) (.lit (.int 10))),.asg (.nm (.G .xc)) (.bin .sub (.loc (.G .xc)) (.lit (.int 1)))],
 .asg (.me (.K .x2)) (.loc (.K .x2)),
 .asg (.me (.G .xc)) (.loc (.G .xc))]
noncomputable def f_Decimal___init__:FnDef:=⟨[(.H .xb),(.K .x2),(.G .xc)],[],b_Decimal___init__⟩
noncomputable def b_Decimal_plus:List S:=[
 .asg (.tup [(.nm (.F .x8)),(.nm (.K .x6)),(.nm (.G .xc))]) (.call (.glob (.G .x5)) [(.loc (.H .xb)),(.loc (.G .x2))]),
 .ret (some (.call (.glob (.A .x4)) [(.bin .add (.loc (.F .x8)) (.loc (.K .x6))),(.loc (.G .xc))]))]
noncomputable def f_Decimal_plus:FnDef:=⟨[(.H .xb),(.G .x2)],[],b_Decimal_plus⟩
noncomputable def b_Decimal_times:List S:=[
 .asg (.nm (.C .x2)) (.call (.glob (.G .xc)) [(.loc (.G .x2))]),
 .ret (some (.call (.glob (.A .x4)) [(.bin .mul (.attr (.loc (.H .xb)) (.K .x2)) (.attr (.loc (.C .x2)) (.K .x2))),(.bin .add (.attr (.loc (.H .xb)) (.G .xc)) (.attr (.loc (.C .x2)) (.G .xc)))]))]
noncomputable def f_Decimal_times:FnDef:=⟨[(.H .xb),(.G .x2)],[],b_Decimal_times⟩
noncomputable def b_Decimal_negated:List S:=[
 .ret (some (.call (.glob (.A .x4)) [(.neg (.attr (.loc (.H .xb)) (.K .x2))),(.attr (.loc (.H .xb)) (.G .xc))]))]
noncomputable def f_Decimal_negated:FnDef:=⟨[(.H .xb)],[],b_Decimal_negated⟩
noncomputable def b_Decimal_told:List S:=[
 .ret (some (.tup [(.attr (.loc (.H .xb)) (.K .x2)),(.attr (.loc (.H .xb)) (.G .xc))]))]
noncomputable def f_Decimal_told:FnDef:=⟨[(.H .xb)],[],b_Decimal_told⟩
noncomputable def b_decimal_of:List S:=[
 .ife (.call (.glob (.I .x8)) [(.loc (.K .xc)),(.glob (.A .x4))]) [.ret (some (.loc (.K .xc)))] [],
 .ife (.or_ [(.call (.glob (.I .x8)) [(.loc (.K .xc)),(.glob (.G .x6))]),(.not_ (.call (.glob (.I .x8)) [(.loc (.K .xc)),(.glob (.I .x5))]))]) [.junk] [],
 .ret (some (.call (.glob (.A .x4)) [(.loc (.K .xc)),(.lit (.int 0))]))]
noncomputable def f_decimal_of:FnDef:=⟨[(.K .xc)],[],b_decimal_of⟩
noncomputable def b_at_one_scale:List S:=[
 .asg (.nm (.C .x6)) (.call (.glob (.G .xc)) [(.loc (.F .x8))]),
 .asg (.nm (.H .xa)) (.call (.glob (.G .xc)) [(.loc (.G .x2))]),
 .asg (.nm (.G .xc)) (.call (.glob (.J .x2)) [(.attr (.loc (.C .x6)) (.G .xc)),(.attr (.loc (.H .xa)) (.G .xc))]),
 .ret (some (.tup [(.bin .mul (.attr (.loc (.C .x6)) (.K .x2)) (.bin .pow (.lit (.int 10)) (.bin .sub (.loc (.G .xc)) (.attr (.loc (.C .x6)) (.G .xc))))),(.bin .mul (.attr (.loc (.H .xa)) (.K .x2)) (.bin .pow (.lit (.int 10)) (.bin .sub (.loc (.G .xc)) (.attr (.loc (.H .xa)) (.G .xc))))),(.loc (.G .xc))]))]
noncomputable def f_at_one_scale:FnDef:=⟨[(.F .x8),(.G .x2)],[],b_at_one_scale⟩
noncomputable def b_Name___init__:List S:=[
 .asg (.me (.J .xb)) (.loc (.J .xb))]
noncomputable def f_Name___init__:FnDef:=⟨[(.H .xb),(.J .xb)],[],b_Name___init__⟩
noncomputable def b_String___init__:List S:=[
 .asg (.me (.F .x7)) (.loc (.F .x7)),
 .asg (.me (.E .x0)) (.loc (.E .x0))]
noncomputable def f_String___init__:FnDef:=⟨[(.H .xb),(.F .x7),(.E .x0)],[(.bool false)],b_String___init__⟩
noncomputable def b_Stream___init__:List S:=[
 .asg (.me (.D .x6)) (.loc (.D .x6)),
 .asg (.me (.F .x7)) (.loc (.F .x7))]
noncomputable def f_Stream___init__:FnDef:=⟨[(.H .xb),(.D .x6),(.F .x7)],[],b_Stream___init__⟩
noncomputable def b_Reference___init__:List S:=[
 .asg (.me (.F .x4)) (.loc (.F .x4)),
 .asg (.me (.D .x2)) (.loc (.D .x2))]
noncomputable def f_Reference___init__:FnDef:=⟨[(.H .xb),(.F .x4),(.D .x2)],[],b_Reference___init__⟩
noncomputable def b_Reference_pair:List S:=[
 .ret (some (.tup [(.attr (.loc (.H .xb)) (.F .x4)),(.attr (.loc (.H .xb)) (.D .x2))]))]
noncomputable def f_Reference_pair:FnDef:=⟨[(.H .xb)],[],b_Reference_pair⟩
noncomputable def b_kind_of:List S:=[
 .ife (.cmp .is_ (.loc (.K .xc)) (.lit .none)) [.ret (some (.lit (.str (.G .x7))))] [],
 .ife (.call (.glob (.I .x8)) [(.loc (.K .xc)),(.glob (.G .x6))]) [.junk] [],
 .ife (.call (.glob (.I .x8)) [(.loc (.K .xc)),(.glob (.I .x5))]) [.ret (some (.lit (.str (.F .x9))))] [],
 .ife (.call (.glob (.I .x8)) [(.loc (.K .xc)),(.glob (.A .x4))]) [.ret (some (.lit (.str (.G .xc))))] [],
 .ife (.call (.glob (.I .x8)) [(.loc (.K .xc)),(.glob (.C .x4))]) [.ret (some (.lit (.str (.G .x6))))] [],
 .ife (.call (.glob (.I .x8)) [(.loc (.K .xc)),(.glob (.E .x3))]) [.ret (some (.lit (.str (.H .xc))))] [],
 .ife (.call (.glob (.I .x8)) [(.loc (.K .xc)),(.glob (.J .x0))]) [.ret (some (.lit (.str (.E .x3))))] [],
 .ife (.call (.glob (.I .x8)) [(.loc (.K .xc)),(.glob (.H .x0))]) [.ret (some (.lit (.str (.F .x1))))] [],
 .ife (.call (.glob (.I .x8)) [(.loc (.K .xc)),(.glob (.E .x1))]) [.ret (some (.lit (.str (.H .xb))))] [],
 .junk,
 .junk]
noncomputable def f_kind_of:FnDef:=⟨[(.K .xc)],[],b_kind_of⟩
noncomputable def b_is_number:List S:=[
 .ret (some (.cmp .in_ (.call (.glob (.I .x9)) [(.loc (.K .xc))]) (.tup [(.lit (.str (.F .x9))),(.lit (.str (.G .xc)))])))]
noncomputable def f_is_number:FnDef:=⟨[(.K .xc)],[],b_is_number⟩
noncomputable def b_Lookup___init__:List S:=[
 .asg (.me (.J .x9)) (.ite_ (.cmp .is_ (.loc (.J .x9)) (.lit .none)) (.dict false []) (.loc (.J .x9))),
 .asg (.me (.K .x4)) (.ite_ (.cmp .is_ (.loc (.K .x4)) (.lit .none)) (.dict false []) (.loc (.K .x4)))]
noncomputable def f_Lookup___init__:FnDef:=⟨[(.H .xb),(.J .x9),(.K .x4)],[],b_Lookup___init__⟩
noncomputable def b_Lookup_fetch:List S:=[
 .asg (.nm (.D .xa)) (.loc (.K .xc)),
 .fr (.nm (.D .xb)) (.call (.glob (.J .xb)) [(.glob (.B .xb))]) [.ife (.not_ (.call (.glob (.I .x8)) [(.loc (.D .xa)),(.glob (.D .x4))])) [.ret (some (.loc (.D .xa)))] [],.asg (.tup [(.nm (.D .x2)),(.nm (.D .x0))]) (.meth (.attr (.loc (.H .xb)) (.J .x9)) (.D .x3) [(.attr (.loc (.D .xa)) (.F .x4)),(.tup [(.neg (.lit (.int 1))),(.lit .none)])]),.ife (.cmp .ne (.loc (.D .x2)) (.attr (.loc (.D .xa)) (.D .x2))) [.junk] [],.asg (.nm (.D .xa)) (.loc (.D .x0))],
 .junk]
noncomputable def f_Lookup_fetch:FnDef:=⟨[(.H .xb),(.K .xc)],[],b_Lookup_fetch⟩
noncomputable def b_Lookup_get:List S:=[
 .ret (some (.meth (.loc (.H .xb)) (.C .x4) [(.meth (.loc (.D .x6)) (.D .x3) [(.loc (.E .x2))])]))]
noncomputable def f_Lookup_get:FnDef:=⟨[(.H .xb),(.D .x6),(.E .x2)],[],b_Lookup_get⟩
noncomputable def b_Shelf_put:List S:=[
 .asg (.sub (.attr (.loc (.H .xb)) (.J .x9)) (.loc (.F .x4))) (.tup [(.loc (.D .x2)),(.loc (.K .xc))])]
noncomputable def f_Shelf_put:FnDef:=⟨[(.H .xb),(.F .x4),(.D .x2),(.K .xc)],[],b_Shelf_put⟩
noncomputable def b_Matrix___init__:List S:=[
 .asg (.me (.A .x0)) (.call (.glob (.G .xc)) [(.loc (.A .x0))]),
 .asg (.me (.A .x5)) (.call (.glob (.G .xc)) [(.loc (.A .x5))]),
 .asg (.me (.A .x8)) (.call (.glob (.G .xc)) [(.loc (.A .x8))]),
 .asg (.me (.B .x6)) (.call (.glob (.G .xc)) [(.loc (.B .x6))]),
 .asg (.me (.B .xa)) (.call (.glob (.G .xc)) [(.loc (.B .xa))]),
 .asg (.me (.C .x1)) (.call (.glob (.G .xc)) [(.loc (.C .x1))])]
noncomputable def f_Matrix___init__:FnDef:=⟨[(.H .xb),(.A .x0),(.A .x5),(.A .x8),(.B .x6),(.B .xa),(.C .x1)],[],b_Matrix___init__⟩
noncomputable def b_Matrix_times:List S:=[
 .asg (.nm (.A .x0)) (.meth (.meth (.attr (.loc (.H .xb)) (.A .x0)) (.K .x0) [(.attr (.loc (.G .x2)) (.A .x0))]) (.H .x1) [(.meth (.attr (.loc (.H .xb)) (.A .x5)) (.K .x0) [(.attr (.loc (.G .x2)) (.A .x8))])]),
 .asg (.nm (.A .x5)) (.meth (.meth (.attr (.loc (.H .xb)) (.A .x0)) (.K .x0) [(.attr (.loc (.G .x2)) (.A .x5))]) (.H .x1) [(.meth (.attr (.loc (.H .xb)) (.A .x5)) (.K .x0) [(.attr (.loc (.G .x2)) (.B .x6))])]),
 .asg (.nm (.A .x8)) (.meth (.meth (.attr (.loc (.H .xb)) (.A .x8)) (.K .x0) [(.attr (.loc (.G .x2)) (.A .x0))]) (.H .x1) [(.meth (.attr (.loc (.H .xb)) (.B .x6)) (.K .x0) [(.attr (.loc (.G .x2)) (.A .x8))])]),
 .asg (.nm (.B .x6)) (.meth (.meth (.attr (.loc (.H .xb)) (.A .x8)) (.K .x0) [(.attr (.loc (.G .x2)) (.A .x5))]) (.H .x1) [(.meth (.attr (.loc (.H .xb)) (.B .x6)) (.K .x0) [(.attr (.loc (.G .x2)) (.B .x6))])]),
 .asg (.tup [(.nm (.B .xa)),(.nm (.C .x1))]) (.meth (.loc (.G .x2)) (.A .x3) [(.attr (.loc (.H .xb)) (.B .xa)),(.attr (.loc (.H .xb)) (.C .x1))]),
 .ret (some (.call (.glob (.B .xc)) [(.loc (.A .x0)),(.loc (.A .x5)),(.loc (.A .x8)),(.loc (.B .x6)),(.loc (.B .xa)),(.loc (.C .x1))]))]
noncomputable def f_Matrix_times:FnDef:=⟨[(.H .xb),(.G .x2)],[],b_Matrix_times⟩
noncomputable def b_Matrix_applied:List S:=[
 .asg (.nm (.H .x5)) (.meth (.meth (.meth (.attr (.loc (.H .xb)) (.A .x0)) (.K .x0) [(.loc (.L .x7))]) (.H .x1) [(.meth (.attr (.loc (.H .xb)) (.A .x8)) (.K .x0) [(.loc (.L .x8))])]) (.H .x1) [(.attr (.loc (.H .xb)) (.B .xa))]),
 .asg (.nm (.K .x9)) (.meth (.meth (.meth (.attr (.loc (.H .xb)) (.A .x5)) (.K .x0) [(.loc (.L .x7))]) (.H .x1) [(.meth (.attr (.loc (.H .xb)) (.B .x6)) (.K .x0) [(.loc (.L .x8))])]) (.H .x1) [(.attr (.loc (.H .xb)) (.C .x1))]),
 .ret (some (.tup [(.loc (.H .x5)),(.loc (.K .x9))]))]
noncomputable def f_Matrix_applied:FnDef:=⟨[(.H .xb),(.L .x7),(.L .x8)],[],b_Matrix_applied⟩
noncomputable def b_Matrix_shifted:List S:=[
 .asg (.nm (.H .x5)) (.meth (.meth (.attr (.loc (.H .xb)) (.A .x0)) (.K .x0) [(.loc (.L .x7))]) (.H .x1) [(.meth (.attr (.loc (.H .xb)) (.A .x8)) (.K .x0) [(.loc (.L .x8))])]),
 .asg (.nm (.K .x9)) (.meth (.meth (.attr (.loc (.H .xb)) (.A .x5)) (.K .x0) [(.loc (.L .x7))]) (.H .x1) [(.meth (.attr (.loc (.H .xb)) (.B .x6)) (.K .x0) [(.loc (.L .x8))])]),
 .ret (some (.tup [(.loc (.H .x5)),(.loc (.K .x9))]))]
noncomputable def f_Matrix_shifted:FnDef:=⟨[(.H .xb),(.L .x7),(.L .x8)],[],b_Matrix_shifted⟩
noncomputable def b_identity:List S:=[
 .ret (some (.call (.glob (.B .xc)) [(.lit (.int 1)),(.lit (.int 0)),(.lit (.int 0)),(.lit (.int 1)),(.lit (.int 0)),(.lit (.int 0))]))]
noncomputable def f_identity:FnDef:=⟨[],[],b_identity⟩
noncomputable def b_translation:List S:=[
 .ret (some (.call (.glob (.B .xc)) [(.lit (.int 1)),(.lit (.int 0)),(.lit (.int 0)),(.lit (.int 1)),(.loc (.L .x7)),(.loc (.L .x8))]))]
noncomputable def f_translation:FnDef:=⟨[(.L .x7),(.L .x8)],[],b_translation⟩
noncomputable def b_from_array:List S:=[
 .ife (.or_ [(.not_ (.call (.glob (.I .x8)) [(.loc (.L .x0)),(.glob (.J .x0))])),(.cmp .ne (.call (.glob (.I .xc)) [(.loc (.L .x0))]) (.lit (.int 6)))]) [.junk] [],
 .ret (some (.call (.glob (.B .xc)) [(.sub (.loc (.L .x0)) (.lit (.int 0))),(.sub (.loc (.L .x0)) (.lit (.int 1))),(.sub (.loc (.L .x0)) (.lit (.int 2))),(.sub (.loc (.L .x0)) (.lit (.int 3))),(.sub (.loc (.L .x0)) (.lit (.int 4))),(.sub (.loc (.L .x0)) (.lit (.int 5)))]))]
noncomputable def f_from_array:FnDef:=⟨[(.L .x0)],[],b_from_array⟩
noncomputable def b_Operation___init__:List S:=[
 .asg (.me (.L .x6)) (.loc (.L .x6)),
 .asg (.me (.F .xc)) (.loc (.F .xc))]
noncomputable def f_Operation___init__:FnDef:=⟨[(.H .xb),(.L .x6),(.F .xc)],[],b_Operation___init__⟩
noncomputable def b_text_kinds:List S:=[
 .asg (.nm (.D .x0)) (.dict true [((.lit (.str (.A .xa))),(.tup [])),((.lit (.str (.B .x3))),(.tup [])),((.lit (.str (.C .xc))),(.tup [])),((.lit (.str (.D .x5))),(.tup [(.lit (.str (.G .x6))),(.lit (.str (.G .x8)))])),((.lit (.str (.D .x7))),(.bin .mul (.tup [(.lit (.str (.G .x8)))]) (.lit (.int 6)))),((.lit (.str (.D .x1))),(.tup [(.lit (.str (.H .x8)))]))]),
 .fr (.nm (.L .x6)) (.tup [(.lit (.str (.D .x3))),(.lit (.str (.D .xa))),(.lit (.str (.D .xb))),(.lit (.str (.D .x2))),(.lit (.str (.D .x8))),(.lit (.str (.D .x9)))]) [.asg (.sub (.loc (.D .x0)) (.loc (.L .x6))) (.tup [(.lit (.str (.G .x8)))])],
 .fr (.nm (.L .x6)) (.tup [(.lit (.str (.D .x4))),(.lit (.str (.D .x0))),(.lit (.str (.E .xb)))]) [.asg (.sub (.loc (.D .x0)) (.loc (.L .x6))) (.bin .mul (.tup [(.lit (.str (.G .x8)))]) (.lit (.int 2)))],
 .asg (.sub (.loc (.D .x0)) (.lit (.str (.E .xc)))) (.bin .mul (.tup [(.lit (.str (.G .x8)))]) (.lit (.int 6))),
 .fr (.nm (.L .x6)) (.tup [(.lit (.str (.D .x6))),(.lit (.str (.A .x2)))]) [.asg (.sub (.loc (.D .x0)) (.loc (.L .x6))) (.tup [(.lit (.str (.H .xc)))])],
 .asg (.sub (.loc (.D .x0)) (.lit (.str (.A .x1)))) (.tup [(.lit (.str (.G .x8))),(.lit (.str (.G .x8))),(.lit (.str (.H .xc)))]),
 .ret (some (.loc (.D .x0)))]
noncomputable def f_text_kinds:FnDef:=⟨[],[],b_text_kinds⟩
noncomputable def b_fits_kind:List S:=[
 .ife (.cmp .eq (.loc (.E .x3)) (.lit (.str (.G .x8)))) [.ret (some (.call (.glob (.I .x7)) [(.loc (.K .xc))]))] [],
 .ife (.cmp .eq (.loc (.E .x3)) (.lit (.str (.G .x9)))) [.junk] [],
 .ife (.cmp .eq (.loc (.E .x3)) (.lit (.str (.H .x8)))) [.ret (some (.and_ [(.call (.glob (.I .x8)) [(.loc (.K .xc)),(.glob (.J .x0))]),(.cmp .eq (.comp (.loc (.F .x8)) (.F .x8) (.loc (.K .xc)) (some (.and_ [(.not_ (.call (.glob (.I .x7)) [(.loc (.F .x8))])),(.cmp .ne (.call (.glob (.I .x9)) [(.loc (.F .x8))]) (.lit (.str (.H .xc))))]))) (.list false []))]))] [],
 .ret (some (.cmp .eq (.call (.glob (.I .x9)) [(.loc (.K .xc))]) (.loc (.E .x3))))]
noncomputable def f_fits_kind:FnDef:=⟨[(.K .xc),(.E .x3)],[],b_fits_kind⟩
noncomputable def b_used_names:List S:=[
 .asg (.nm (.I .xa)) (.dict false [((.lit (.str (.D .x5))),(.lit (.str (.B .x7)))),((.lit (.str (.B .x2))),(.lit (.str (.E .x1)))),((.lit (.str (.F .x6))),(.lit (.str (.B .x4)))),((.lit (.str (.H .x7))),(.lit (.str (.C .xa)))),((.lit (.str (.A .xb))),(.lit (.str (.A .xc)))),((.lit (.str (.E .x9))),(.lit (.str (.A .xc))))]),
 .asg (.nm (.J .x2)) (.dict false [((.lit (.str (.C .x9))),(.lit (.str (.C .x2)))),((.lit (.str (.H .x6))),(.lit (.str (.C .x2)))),((.lit (.str (.A .x8))),(.lit (.str (.C .x3)))),((.lit (.str (.B .x0))),(.lit (.str (.C .x3))))]),
 .asg (.nm (.D .x0)) (.dict true []),
 .fr (.nm (.G .x0)) (.loc (.G .x1)) [.asg (.nm (.K .xc)) (.lit .none),.ife (.and_ [(.cmp .in_ (.attr (.loc (.G .x0)) (.L .x6)) (.loc (.I .xa))),(.cmp .ne (.attr (.loc (.G .x0)) (.F .xc)) (.list false []))]) [.asg (.nm (.K .xc)) (.sub (.attr (.loc (.G .x0)) (.F .xc)) (.lit (.int 0)))] [],.ife (.and_ [(.cmp .in_ (.attr (.loc (.G .x0)) (.L .x6)) (.loc (.J .x2))),(.cmp .ne (.attr (.loc (.G .x0)) (.F .xc)) (.list false []))]) [.junk] [],.ife (.call (.glob (.I .x8)) [(.loc (.K .xc)),(.glob (.C .x4))]) [.asg (.nm (.I .x9)) (.meth (.loc (.I .xa)) (.D .x3) [(.attr (.loc (.G .x0)) (.L .x6)),(.meth (.loc (.J .x2)) (.D .x3) [(.attr (.loc (.G .x0)) (.L .x6))])]),.asg (.sub (.loc (.D .x0)) (.loc (.I .x9))) (.call (.glob (.K .x3)) [(.bin .add (.comp (.loc (.F .x0)) (.F .x0) (.meth (.loc (.D .x0)) (.D .x3) [(.loc (.I .x9)),(.list false [])]) (some (.cmp .ne (.loc (.F .x0)) (.attr (.loc (.K .xc)) (.J .xb))))) (.list false [(.attr (.loc (.K .xc)) (.J .xb))]))])] []],
 .ret (some (.frz (.loc (.D .x0))))]
noncomputable def f_used_names:FnDef:=⟨[(.G .x1)],[],b_used_names⟩
noncomputable def b_Glyph___init__:List S:=[
 .asg (.me (.J .xb)) (.loc (.J .xb)),
 .asg (.me (.L .x7)) (.loc (.L .x7)),
 .asg (.me (.L .x8)) (.loc (.L .x8)),
 .asg (.me (.L .x4)) (.loc (.L .x4)),
 .asg (.me (.I .x6)) (.loc (.I .x6))]
noncomputable def f_Glyph___init__:FnDef:=⟨[(.H .xb),(.J .xb),(.L .x7),(.L .x8),(.L .x4),(.I .x6)],[],b_Glyph___init__⟩
noncomputable def b_Glyph_told:List S:=[
 .ret (some (.tup [(.attr (.loc (.H .xb)) (.J .xb)),(.meth (.attr (.loc (.H .xb)) (.L .x7)) (.K .x1) []),(.meth (.attr (.loc (.H .xb)) (.L .x8)) (.K .x1) []),(.meth (.attr (.loc (.H .xb)) (.L .x4)) (.K .x1) []),(.meth (.attr (.loc (.H .xb)) (.I .x6)) (.K .x1) [])]))]
noncomputable def f_Glyph_told:FnDef:=⟨[(.H .xb)],[],b_Glyph_told⟩
noncomputable def b_TextSheet___init__:List S:=[
 .asg (.me (.G .x1)) (.loc (.G .x1)),
 .asg (.me (.C .xa)) (.loc (.C .xa)),
 .asg (.me (.C .xc)) (.loc (.C .xc)),
 .asg (.me (.G .x3)) (.loc (.G .x3))]
noncomputable def f_TextSheet___init__:FnDef:=⟨[(.H .xb),(.G .x1),(.C .xa),(.C .xc),(.G .x3)],[],b_TextSheet___init__⟩
noncomputable def b_TextState___init__:List S:=[
 .asg (.attr (.loc (.H .xb)) (.B .x4)) (.loc (.B .x4)),
 .asg (.attr (.loc (.H .xb)) (.C .x8)) (.lit .none),
 .asg (.attr (.loc (.H .xb)) (.I .x6)) (.call (.glob (.A .x4)) [(.lit (.int 0)),(.lit (.int 0))]),
 .asg (.attr (.loc (.H .xb)) (.J .x0)) (.dict true [((.lit (.str (.D .x3))),(.call (.glob (.A .x4)) [(.lit (.int 0)),(.lit (.int 0))])),((.lit (.str (.D .xa))),(.call (.glob (.A .x4)) [(.lit (.int 0)),(.lit (.int 0))])),((.lit (.str (.D .xb))),(.call (.glob (.A .x4)) [(.lit (.int 100)),(.lit (.int 0))])),((.lit (.str (.D .x2))),(.call (.glob (.A .x4)) [(.lit (.int 0)),(.lit (.int 0))])),((.lit (.str (.D .x9))),(.call (.glob (.A .x4)) [(.lit (.int 0)),(.lit (.int 0))]))])]
noncomputable def f_TextState___init__:FnDef:=⟨[(.H .xb),(.B .x4)],[],b_TextState___init__⟩
noncomputable def b_TextState_copied:List S:=[
 .asg (.nm (.G .x2)) (.call (.glob (.E .x8)) [(.attr (.loc (.H .xb)) (.B .x4))]),
 .asg (.attr (.loc (.G .x2)) (.C .x8)) (.attr (.loc (.H .xb)) (.C .x8)),
 .asg (.attr (.loc (.G .x2)) (.I .x6)) (.attr (.loc (.H .xb)) (.I .x6)),
 .asg (.attr (.loc (.G .x2)) (.J .x0)) (.call (.glob (.H .x0)) [(.attr (.loc (.H .xb)) (.J .x0))]),
 .ret (some (.loc (.G .x2)))]
noncomputable def f_TextState_copied:FnDef:=⟨[(.H .xb)],[],b_TextState_copied⟩
noncomputable def b_TextState_stretched:List S:=[
 .ret (some (.meth (.meth (.loc (.L .x2)) (.K .x0) [(.sub (.attr (.loc (.H .xb)) (.J .x0)) (.lit (.str (.D .xb))))]) (.K .x0) [(.call (.glob (.A .x4)) [(.lit (.int 1)),(.lit (.int 2))])]))]
noncomputable def f_TextState_stretched:FnDef:=⟨[(.H .xb),(.L .x2)],[],b_TextState_stretched⟩
noncomputable def b_advance:List S:=[
 .asg (.nm (.A .x6)) (.meth (.meth (.attr (.loc (.J .x5)) (.C .x8)) (.L .x4) [(.loc (.A .xc))]) (.K .x0) [(.attr (.loc (.J .x5)) (.I .x6))]),
 .asg (.nm (.L .x3)) (.meth (.loc (.A .x6)) (.H .x1) [(.sub (.attr (.loc (.J .x5)) (.J .x0)) (.lit (.str (.D .x3))))]),
 .ife (.cmp .eq (.loc (.A .xc)) (.tup [(.lit (.int 1)),(.lit (.int 32))])) [.junk] [],
 .ret (some (.tup [(.meth (.loc (.J .x5)) (.J .x7) [(.loc (.L .x3))]),(.meth (.loc (.J .x5)) (.J .x7) [(.loc (.A .x6))])]))]
noncomputable def f_advance:FnDef:=⟨[(.J .x5),(.A .xc)],[],b_advance⟩
noncomputable def b_along:List S:=[
 .asg (.tup [(.nm (.H .x5)),(.nm (.K .x9))]) (.meth (.loc (.G .xb)) (.I .x2) [(.loc (.L .x2)),(.lit (.int 0))]),
 .ret (some (.call (.glob (.B .xc)) [(.attr (.loc (.G .xb)) (.A .x0)),(.attr (.loc (.G .xb)) (.A .x5)),(.attr (.loc (.G .xb)) (.A .x8)),(.attr (.loc (.G .xb)) (.B .x6)),(.meth (.attr (.loc (.G .xb)) (.B .xa)) (.H .x1) [(.loc (.H .x5))]),(.meth (.attr (.loc (.G .xb)) (.C .x1)) (.H .x1) [(.loc (.K .x9))])]))]
noncomputable def f_along:FnDef:=⟨[(.G .xb),(.L .x2)],[],b_along⟩
noncomputable def b_shown_glyphs:List S:=[
 .ife (.cmp .is_ (.attr (.loc (.J .x5)) (.C .x8)) (.lit .none)) [.junk] [],
 .asg (.nm (.F .x9)) (.meth (.loc (.G .xb)) (.K .x0) [(.attr (.loc (.J .x5)) (.B .x4))]),
 .asg (.nm (.K .x9)) (.sub (.meth (.loc (.F .x9)) (.I .x2) [(.lit (.int 0)),(.attr (.loc (.J .x5)) (.I .x6))]) (.lit (.int 1))),
 .asg (.nm (.D .x4)) (.call (.glob (.A .x4)) [(.lit (.int 0)),(.lit (.int 0))]),
 .asg (.nm (.D .x0)) (.list true []),
 .fr (.nm (.A .xc)) (.meth (.attr (.loc (.J .x5)) (.C .x8)) (.B .x0) [(.loc (.F .x7))]) [.asg (.tup [(.nm (.L .x3)),(.nm (.A .x6))]) (.call (.glob (.G .x2)) [(.loc (.J .x5)),(.loc (.A .xc))]),.asg (.tup [(.nm (.L .x7)),(.nm (.L .x8))]) (.meth (.loc (.F .x9)) (.A .x3) [(.loc (.D .x4)),(.sub (.attr (.loc (.J .x5)) (.J .x0)) (.lit (.str (.D .x9))))]),.expr (.meth (.loc (.D .x0)) (.A .x2) [(.call (.glob (.B .x2)) [(.meth (.attr (.loc (.J .x5)) (.C .x8)) (.J .xb) [(.loc (.A .xc))]),(.loc (.L .x7)),(.loc (.L .x8)),(.sub (.meth (.loc (.F .x9)) (.I .x2) [(.loc (.A .x6)),(.lit (.int 0))]) (.lit (.int 0))),(.loc (.K .x9))])]),.asg (.nm (.D .x4)) (.meth (.loc (.D .x4)) (.H .x1) [(.loc (.L .x3))])],
 .ret (some (.tup [(.frz (.loc (.D .x0))),(.loc (.D .x4))]))]
noncomputable def f_shown_glyphs:FnDef:=⟨[(.J .x5),(.G .xb),(.F .x7)],[],b_shown_glyphs⟩
noncomputable def b_check_operands:List S:=[
 .ife (.cmp .notin (.attr (.loc (.G .x0)) (.L .x6)) (.loc (.E .x4))) [.ret none] [],
 .asg (.nm (.L .x1)) (.sub (.loc (.E .x4)) (.attr (.loc (.G .x0)) (.L .x6))),
 .ife (.cmp .ne (.call (.glob (.I .xc)) [(.attr (.loc (.G .x0)) (.F .xc))]) (.call (.glob (.I .xc)) [(.loc (.L .x1))])) [.junk] [],
 .fr (.nm (.A .x4)) (.call (.glob (.J .xb)) [(.call (.glob (.I .xc)) [(.loc (.L .x1))])]) [.ife (.not_ (.call (.glob (.H .xb)) [(.sub (.attr (.loc (.G .x0)) (.F .xc)) (.loc (.A .x4))),(.sub (.loc (.L .x1)) (.loc (.A .x4)))])) [.junk] []]]
noncomputable def f_check_operands:FnDef:=⟨[(.E .x4),(.G .x0)],[],b_check_operands⟩
noncomputable def b_TextWalk___init__:List S:=[
 .asg (.attr (.loc (.H .xb)) (.I .x0)) (.loc (.I .x0)),
 .asg (.attr (.loc (.H .xb)) (.J .x5)) (.loc (.J .x5)),
 .asg (.attr (.loc (.H .xb)) (.G .xa)) (.list true []),
 .asg (.attr (.loc (.H .xb)) (.H .x6)) (.lit .none),
 .asg (.attr (.loc (.H .xb)) (.G .xb)) (.lit .none),
 .asg (.attr (.loc (.H .xb)) (.D .x0)) (.list true [])]
noncomputable def f_TextWalk___init__:FnDef:=⟨[(.H .xb),(.I .x0),(.J .x5)],[],b_TextWalk___init__⟩
noncomputable def b_TextWalk_show:List S:=[
 .asg (.tup [(.nm (.D .x1)),(.nm (.D .x4))]) (.call (.glob (.K .x2)) [(.attr (.loc (.H .xb)) (.J .x5)),(.attr (.loc (.H .xb)) (.G .xb)),(.loc (.F .x7))]),
 .expr (.meth (.attr (.loc (.H .xb)) (.D .x0)) (.C .x0) [(.loc (.D .x1))]),
 .asg (.attr (.loc (.H .xb)) (.G .xb)) (.call (.glob (.G .x4)) [(.attr (.loc (.H .xb)) (.G .xb)),(.loc (.D .x4))])]
noncomputable def f_TextWalk_show:FnDef:=⟨[(.H .xb),(.F .x7)],[],b_TextWalk_show⟩
noncomputable def b_TextWalk_show_parts:List S:=[
 .fr (.nm (.G .x7)) (.loc (.G .x8)) [.ife (.cmp .eq (.call (.glob (.I .x9)) [(.loc (.G .x7))]) (.lit (.str (.H .xc)))) [.expr (.meth (.loc (.H .xb)) (.I .x3) [(.attr (.loc (.G .x7)) (.F .x7))])] [.junk,.junk]]]
noncomputable def f_TextWalk_show_parts:FnDef:=⟨[(.H .xb),(.G .x8)],[],b_TextWalk_show_parts⟩
noncomputable def b_TextWalk_next_row:List S:=[
 .asg (.attr (.loc (.H .xb)) (.H .x6)) (.meth (.call (.glob (.K .x6)) [(.loc (.H .x5)),(.loc (.K .x9))]) (.K .x0) [(.attr (.loc (.H .xb)) (.H .x6))]),
 .asg (.attr (.loc (.H .xb)) (.G .xb)) (.attr (.loc (.H .xb)) (.H .x6))]
noncomputable def f_TextWalk_next_row:FnDef:=⟨[(.H .xb),(.H .x5),(.K .x9)],[],b_TextWalk_next_row⟩
noncomputable def b_TextWalk_feed:List S:=[
 .expr (.meth (.loc (.H .xb)) (.F .x3) [(.call (.glob (.A .x4)) [(.lit (.int 0)),(.lit (.int 0))]),(.meth (.sub (.attr (.attr (.loc (.H .xb)) (.J .x5)) (.J .x0)) (.lit (.str (.D .x2)))) (.F .x2) [])])]
noncomputable def f_TextWalk_feed:FnDef:=⟨[(.H .xb)],[],b_TextWalk_feed⟩
noncomputable def b_TextWalk_set_matrix:List S:=[
 .asg (.attr (.loc (.H .xb)) (.H .x6)) (.loc (.F .x8)),
 .asg (.attr (.loc (.H .xb)) (.G .xb)) (.loc (.F .x8))]
noncomputable def f_TextWalk_set_matrix:FnDef:=⟨[(.H .xb),(.F .x8)],[],b_TextWalk_set_matrix⟩
noncomputable def b_follow_placed:List S:=[
 .ife (.cmp .is_ (.attr (.loc (.K .x3)) (.G .xb)) (.lit .none)) [.junk] [],
 .ife (.cmp .eq (.loc (.L .x6)) (.lit (.str (.D .x0)))) [.asg (.sub (.attr (.attr (.loc (.K .x3)) (.J .x5)) (.J .x0)) (.lit (.str (.D .x2)))) (.meth (.call (.glob (.G .xc)) [(.sub (.loc (.F .xc)) (.lit (.int 1)))]) (.F .x2) [])] [],
 .ife (.cmp .in_ (.loc (.L .x6)) (.tup [(.lit (.str (.D .x4))),(.lit (.str (.D .x0)))])) [.expr (.meth (.loc (.K .x3)) (.F .x3) [(.sub (.loc (.F .xc)) (.lit (.int 0))),(.sub (.loc (.F .xc)) (.lit (.int 1)))])] [.ife (.cmp .eq (.loc (.L .x6)) (.lit (.str (.C .xc)))) [.expr (.meth (.loc (.K .x3)) (.C .x3) [])] [.ife (.cmp .eq (.loc (.L .x6)) (.lit (.str (.D .x7)))) [.expr (.meth (.loc (.K .x3)) (.H .xc) [(.call (.glob (.I .x3)) [(.loc (.F .xc))])])] [.ife (.cmp .eq (.loc (.L .x6)) (.lit (.str (.B .x3)))) [.expr (.meth (.loc (.K .x3)) (.H .xc) [(.lit .none)])] [.ife (.cmp .eq (.loc (.L .x6)) (.lit (.str (.D .x1)))) [.expr (.meth (.loc (.K .x3)) (.I .x4) [(.sub (.loc (.F .xc)) (.lit (.int 0)))])] [.ife (.cmp .eq (.loc (.L .x6)) (.lit (.str (.A .x1)))) [.asg (.sub (.attr (.attr (.loc (.K .x3)) (.J .x5)) (.J .x0)) (.lit (.str (.D .xa)))) (.call (.glob (.G .xc)) [(.sub (.loc (.F .xc)) (.lit (.int 0)))]),.asg (.sub (.attr (.attr (.loc (.K .x3)) (.J .x5)) (.J .x0)) (.lit (.str (.D .x3)))) (.call (.glob (.G .xc)) [(.sub (.loc (.F .xc)) (.lit (.int 1)))])] [],.ife (.cmp .ne (.loc (.L .x6)) (.lit (.str (.D .x6)))) [.expr (.meth (.loc (.K .x3)) (.C .x3) [])] [],.expr (.meth (.loc (.K .x3)) (.I .x3) [(.attr (.sub (.loc (.F .xc)) (.neg (.lit (.int 1)))) (.F .x7))])]]]]]]
noncomputable def f_follow_placed:FnDef:=⟨[(.K .x3),(.L .x6),(.F .xc)],[],b_follow_placed⟩
noncomputable def b_choose_font:List S:=[
 .ife (.cmp .notin (.attr (.sub (.loc (.F .xc)) (.lit (.int 0))) (.J .xb)) (.attr (.attr (.loc (.K .x3)) (.I .x0)) (.C .xa))) [.junk] [],
 .asg (.attr (.attr (.loc (.K .x3)) (.J .x5)) (.C .x8)) (.sub (.attr (.attr (.loc (.K .x3)) (.I .x0)) (.C .xa)) (.attr (.sub (.loc (.F .xc)) (.lit (.int 0))) (.J .xb))),
 .asg (.attr (.attr (.loc (.K .x3)) (.J .x5)) (.I .x6)) (.call (.glob (.G .xc)) [(.sub (.loc (.F .xc)) (.lit (.int 1)))])]
noncomputable def f_choose_font:FnDef:=⟨[(.K .x3),(.F .xc)],[],b_choose_font⟩
noncomputable def b_follow_state:List S:=[
 .ife (.cmp .eq (.loc (.L .x6)) (.lit (.str (.G .xa)))) [.expr (.meth (.attr (.loc (.K .x3)) (.G .xa)) (.A .x2) [(.meth (.attr (.loc (.K .x3)) (.J .x5)) (.B .x2) [])])] [.ife (.cmp .eq (.loc (.L .x6)) (.lit (.str (.C .x4)))) [.ife (.cmp .eq (.call (.glob (.I .xc)) [(.attr (.loc (.K .x3)) (.G .xa))]) (.lit (.int 0))) [.junk] [],.asg (.attr (.loc (.K .x3)) (.J .x5)) (.meth (.attr (.loc (.K .x3)) (.G .xa)) (.H .x2) [])] [.ife (.cmp .eq (.loc (.L .x6)) (.lit (.str (.E .x8)))) [.asg (.attr (.attr (.loc (.K .x3)) (.J .x5)) (.B .x4)) (.meth (.call (.glob (.I .x3)) [(.loc (.F .xc))]) (.K .x0) [(.attr (.attr (.loc (.K .x3)) (.J .x5)) (.B .x4))])] [.ife (.cmp .eq (.loc (.L .x6)) (.lit (.str (.A .xa)))) [.ife (.cmp .isnot (.attr (.loc (.K .x3)) (.G .xb)) (.lit .none)) [.junk] [],.expr (.meth (.loc (.K .x3)) (.H .xc) [(.call (.glob (.I .x4)) [])])] []]]]]
noncomputable def f_follow_state:FnDef:=⟨[(.K .x3),(.L .x6),(.F .xc)],[],b_follow_state⟩
noncomputable def b_sheet_glyphs:List S:=[
 .asg (.nm (.E .x4)) (.call (.glob (.K .x4)) []),
 .asg (.sub (.loc (.E .x4)) (.lit (.str (.E .x8)))) (.bin .mul (.tup [(.lit (.str (.G .x8)))]) (.lit (.int 6))),
 .asg (.sub (.loc (.E .x4)) (.lit (.str (.B .x2)))) (.tup [(.lit (.str (.G .x6)))]),
 .ghost (.E .x4),
 .asg (.nm (.K .x3)) (.call (.glob (.E .xc)) [(.loc (.I .x0)),(.loc (.J .x5))]),
 .fr (.nm (.G .x0)) (.attr (.loc (.I .x0)) (.G .x1)) [.expr (.call (.glob (.G .x8)) [(.loc (.E .x4)),(.loc (.G .x0))]),.asg (.nm (.L .x6)) (.attr (.loc (.G .x0)) (.L .x6)),.ife (.cmp .in_ (.loc (.L .x6)) (.glob (.C .xa))) [.expr (.call (.glob (.H .xc)) [(.loc (.K .x3)),(.loc (.L .x6)),(.attr (.loc (.G .x0)) (.F .xc))])] [.ife (.cmp .in_ (.loc (.L .x6)) (.glob (.D .x8))) [.asg (.sub (.attr (.attr (.loc (.K .x3)) (.J .x5)) (.J .x0)) (.loc (.L .x6))) (.call (.glob (.G .xc)) [(.sub (.attr (.loc (.G .x0)) (.F .xc)) (.lit (.int 0)))])] [.ife (.cmp .eq (.loc (.L .x6)) (.lit (.str (.D .x5)))) [.expr (.call (.glob (.G .xa)) [(.loc (.K .x3)),(.attr (.loc (.G .x0)) (.F .xc))])] [.ife (.and_ [(.cmp .eq (.loc (.L .x6)) (.lit (.str (.B .x2)))),(.cmp .in_ (.attr (.sub (.attr (.loc (.G .x0)) (.F .xc)) (.lit (.int 0))) (.J .xb)) (.attr (.loc (.I .x0)) (.C .xc)))]) [.asg (.nm (.C .xb)) (.sub (.attr (.loc (.I .x0)) (.C .xc)) (.attr (.sub (.attr (.loc (.G .x0)) (.F .xc)) (.lit (.int 0))) (.J .xb))),.asg (.nm (.D .xc)) (.meth (.attr (.loc (.K .x3)) (.J .x5)) (.B .x2) []),.asg (.attr (.loc (.D .xc)) (.B .x4)) (.meth (.attr (.loc (.C .xb)) (.G .x3)) (.K .x0) [(.attr (.loc (.D .xc)) (.B .x4))]),.expr (.meth (.attr (.loc (.K .x3)) (.D .x0)) (.C .x0) [(.call (.glob (.K .x1)) [(.loc (.C .xb)),(.loc (.D .xc))])])] [.expr (.call (.glob (.I .x0)) [(.loc (.K .x3)),(.loc (.L .x6)),(.attr (.loc (.G .x0)) (.F .xc))])]]]]],
 .ret (some (.frz (.attr (.loc (.K .x3)) (.D .x0))))]
noncomputable def f_sheet_glyphs:FnDef:=⟨[(.I .x0),(.J .x5)],[],b_sheet_glyphs⟩
noncomputable def b_lay_glyphs:List S:=[
 .ret (some (.call (.glob (.K .x1)) [(.loc (.I .x0)),(.call (.glob (.E .x8)) [(.attr (.loc (.I .x0)) (.G .x3))])]))]
noncomputable def f_lay_glyphs:FnDef:=⟨[(.I .x0)],[],b_lay_glyphs⟩
noncomputable def b_resource_dict:List S:=[
 .asg (.nm (.D .x0)) (.meth (.loc (.I .x1)) (.D .x3) [(.loc (.H .x4)),(.loc (.I .x9))]),
 .ret (some (.ite_ (.cmp .eq (.call (.glob (.I .x9)) [(.loc (.D .x0))]) (.lit (.str (.F .x1)))) (.loc (.D .x0)) (.dict false [])))]
noncomputable def f_resource_dict:FnDef:=⟨[(.I .x1),(.H .x4),(.I .x9)],[],b_resource_dict⟩
noncomputable def b_form_matrix:List S:=[
 .asg (.nm (.F .x5)) (.meth (.loc (.I .x1)) (.D .x3) [(.loc (.D .x6)),(.lit (.str (.C .x1)))]),
 .ife (.cmp .ne (.call (.glob (.I .x9)) [(.loc (.F .x5))]) (.lit (.str (.E .x3)))) [.ret (some (.call (.glob (.I .x4)) []))] [],
 .asc (.L .x0) (.meth (.loc (.I .x1)) (.C .x4) [(.loc (.F .x4))]) (.F .x4) (.loc (.F .x5)) none,
 .ife (.or_ [(.cmp .ne (.call (.glob (.I .xc)) [(.loc (.L .x0))]) (.lit (.int 6))),(.not_ (.call (.glob (.G .x3)) [(.comp (.call (.glob (.I .x7)) [(.loc (.K .xc))]) (.K .xc) (.loc (.L .x0)) none)]))]) [.junk] [],
 .ret (some (.call (.glob (.I .x3)) [(.loc (.L .x0))]))]
noncomputable def f_form_matrix:FnDef:=⟨[(.I .x1),(.D .x6)],[],b_form_matrix⟩
noncomputable def b_is_form:List S:=[
 .ife (.cmp .ne (.call (.glob (.I .x9)) [(.loc (.K .xc))]) (.lit (.str (.H .xb)))) [.junk] [],
 .asg (.nm (.E .x3)) (.meth (.loc (.I .x1)) (.D .x3) [(.attr (.loc (.K .xc)) (.D .x6)),(.lit (.str (.C .xb)))]),
 .ret (some (.and_ [(.cmp .eq (.call (.glob (.I .x9)) [(.loc (.E .x3))]) (.lit (.str (.G .x6)))),(.cmp .eq (.attr (.loc (.E .x3)) (.J .xb)) (.lit (.str (.B .x8))))]))]
noncomputable def f_is_form:FnDef:=⟨[(.I .x1),(.K .xc)],[],b_is_form⟩
noncomputable def b_text_sheet:List S:=[
 .asg (.tup [(.nm (.B .x8)),(.nm (.G .x3))]) (.loc (.G .xb)),
 .ife (.cmp .gt (.loc (.B .x8)) (.glob (.B .xa))) [.junk] [],
 .asg (.nm (.K .xb)) (.call (.glob (.K .x7)) [(.loc (.G .x1))]),
 .asg (.nm (.D .x7)) (.call (.glob (.J .xc)) [(.loc (.I .x1)),(.loc (.H .x4)),(.lit (.str (.B .x7)))]),
 .asg (.nm (.J .xc)) (.call (.glob (.J .xc)) [(.loc (.I .x1)),(.loc (.H .x4)),(.lit (.str (.E .x1)))]),
 .asg (.nm (.C .xa)) (.dict true []),
 .asg (.nm (.C .xc)) (.dict true []),
 .fr (.nm (.L .x6)) (.meth (.loc (.K .xb)) (.D .x3) [(.lit (.str (.B .x7))),(.list false [])]) [.asg (.nm (.D .x6)) (.meth (.loc (.I .x1)) (.D .x3) [(.loc (.D .x7)),(.loc (.L .x6))]),.ife (.cmp .eq (.call (.glob (.I .x9)) [(.loc (.D .x6))]) (.lit (.str (.F .x1)))) [.asg (.sub (.loc (.C .xa)) (.loc (.L .x6))) (.call (.loc (.C .x9)) [(.loc (.I .x1)),(.loc (.D .x6))])] []],
 .fr (.nm (.L .x6)) (.meth (.loc (.K .xb)) (.D .x3) [(.lit (.str (.E .x1))),(.list false [])]) [.asg (.nm (.J .x6)) (.meth (.loc (.I .x1)) (.D .x3) [(.loc (.J .xc)),(.loc (.L .x6))]),.ife (.call (.glob (.I .x6)) [(.loc (.I .x1)),(.loc (.J .x6))]) [.asg (.nm (.D .xc)) (.meth (.loc (.I .x1)) (.D .x3) [(.attr (.loc (.J .x6)) (.D .x6)),(.lit (.str (.C .x6)))]),.asg (.nm (.E .x6)) (.ite_ (.cmp .eq (.call (.glob (.I .x9)) [(.loc (.D .xc))]) (.lit (.str (.F .x1)))) (.loc (.D .xc)) (.loc (.H .x4))),.asg (.nm (.J .x1)) (.tup [(.bin .add (.loc (.B .x8)) (.lit (.int 1))),(.call (.glob (.I .x1)) [(.loc (.I .x1)),(.attr (.loc (.J .x6)) (.D .x6))])]),.asg (.sub (.loc (.C .xc)) (.loc (.L .x6))) (.call (.glob (.K .x5)) [(.loc (.I .x1)),(.loc (.E .x6)),(.call (.loc (.B .x1)) [(.loc (.I .x1)),(.loc (.J .x6))]),(.loc (.J .x1)),(.loc (.C .x9)),(.loc (.B .x1))])] []],
 .ret (some (.call (.glob (.E .x6)) [(.loc (.G .x1)),(.frz (.loc (.C .xa))),(.frz (.loc (.C .xc))),(.loc (.G .x3))]))]
noncomputable def f_text_sheet:FnDef:=⟨[(.I .x1),(.H .x4),(.G .x1),(.G .xb),(.C .x9),(.B .x1)],[],b_text_sheet⟩
noncomputable def b_CMap___init__:List S:=[
 .asg (.me (.I .xc)) (.loc (.I .xc)),
 .asg (.me (.A .xa)) (.loc (.A .xa))]
noncomputable def f_CMap___init__:FnDef:=⟨[(.H .xb),(.I .xc),(.A .xa)],[],b_CMap___init__⟩
noncomputable def b_width_in:List S:=[
 .fr (.tup [(.nm (.C .x6)),(.nm (.E .x5)),(.nm (.L .x5))]) (.loc (.H .x7)) [.junk],
 .ret (some (.loc (.B .x7)))]
noncomputable def f_width_in:FnDef:=⟨[(.H .x7),(.A .xc),(.B .x7)],[],b_width_in⟩
noncomputable def b_Font___init__:List S:=[
 .asg (.me (.F .x1)) (.loc (.F .x1)),
 .asg (.me (.B .x5)) (.loc (.B .x5)),
 .asg (.me (.K .x7)) (.loc (.K .x7)),
 .asg (.me (.H .x7)) (.loc (.H .x7)),
 .asg (.me (.B .x7)) (.loc (.B .x7)),
 .asg (.me (.K .x8)) (.loc (.K .x8)),
 .asg (.me (.J .x3)) (.loc (.J .x3))]
noncomputable def f_Font___init__:FnDef:=⟨[(.H .xb),(.F .x1),(.B .x5),(.K .x7),(.H .x7),(.B .x7),(.K .x8),(.J .x3)],[],b_Font___init__⟩
noncomputable def b_Font_codes:List S:=[
 .ife (.cmp .isnot (.attr (.loc (.H .xb)) (.B .x5)) (.lit .none)) [.junk] [],
 .ret (some (.comp (.tup [(.lit (.int 1)),(.loc (.F .x6))]) (.F .x6) (.loc (.F .x7)) none))]
noncomputable def f_Font_codes:FnDef:=⟨[(.H .xb),(.F .x7)],[],b_Font_codes⟩
noncomputable def b_Font_width:List S:=[
 .ife (.attr (.loc (.H .xb)) (.J .x3)) [.junk] [.asg (.nm (.D .x0)) (.call (.glob (.K .x8)) [(.attr (.loc (.H .xb)) (.H .x7)),(.ite_ (.cmp .is_ (.attr (.loc (.H .xb)) (.B .x5)) (.lit .none)) (.sub (.loc (.G .x6)) (.lit (.int 1))) .junk),(.attr (.loc (.H .xb)) (.B .x7))])],
 .ret (some (.meth (.call (.glob (.G .xc)) [(.loc (.D .x0))]) (.K .x0) [(.attr (.loc (.H .xb)) (.K .x8))]))]
noncomputable def f_Font_width:FnDef:=⟨[(.H .xb),(.G .x6)],[],b_Font_width⟩
noncomputable def b_Font_text:List S:=[
 .ife (.and_ [(.cmp .isnot (.attr (.loc (.H .xb)) (.K .x7)) (.lit .none)),(.cmp .in_ (.loc (.G .x6)) (.attr (.attr (.loc (.H .xb)) (.K .x7)) (.A .xa)))]) [.ret (some (.sub (.attr (.attr (.loc (.H .xb)) (.K .x7)) (.A .xa)) (.loc (.G .x6))))] [],
 .junk]
noncomputable def f_Font_text:FnDef:=⟨[(.H .xb),(.G .x6)],[],b_Font_text⟩
noncomputable def b_Path___init__:List S:=[
 .asg (.me (.G .x8)) (.loc (.G .x8))]
noncomputable def f_Path___init__:FnDef:=⟨[(.H .xb),(.G .x8)],[(.tup [])],b_Path___init__⟩
noncomputable def b_State___init__:List S:=[
 .asg (.attr (.loc (.H .xb)) (.E .xb)) (.loc (.E .xb)),
 .asg (.attr (.loc (.H .xb)) (.A .xb)) (.loc (.A .xb)),
 .asg (.attr (.loc (.H .xb)) (.C .x5)) (.loc (.C .x5)),
 .asg (.attr (.loc (.H .xb)) (.J .x8)) (.loc (.J .x8)),
 .asg (.attr (.loc (.H .xb)) (.L .x0)) (.loc (.L .x0))]
noncomputable def f_State___init__:FnDef:=⟨[(.H .xb),(.E .xb),(.A .xb),(.C .x5),(.J .x8),(.L .x0)],[],b_State___init__⟩
noncomputable def b_first_colour:List S:=[
 .asg (.nm (.L .x9)) (.call (.glob (.G .xc)) [(.lit (.int 0))]),
 .ife (.cmp .eq (.loc (.I .xb)) (.lit (.str (.B .x1)))) [.ret (some (.tup [(.loc (.I .xb)),(.tup [(.loc (.L .x9))])]))] [],
 .junk,
 .junk,
 .junk]
noncomputable def f_first_colour:FnDef:=⟨[(.I .xb)],[],b_first_colour⟩
noncomputable def b_first_values:List S:=[
 .asg (.nm (.L .x9)) (.call (.glob (.G .xc)) [(.lit (.int 0))]),
 .asg (.nm (.D .x0)) (.dict true [((.lit (.str (.I .x3))),(.call (.glob (.G .xc)) [(.lit (.int 1))])),((.lit (.str (.E .x7))),(.lit (.int 0))),((.lit (.str (.F .xb))),(.lit (.int 0))),((.lit (.str (.G .x3))),(.call (.glob (.G .xc)) [(.lit (.int 10))])),((.lit (.str (.F .x0))),(.tup [(.tup []),(.loc (.L .x9))]))]),
 .fr (.nm (.L .x6)) (.tup [(.lit (.str (.H .xa))),(.lit (.str (.I .x4))),(.lit (.str (.G .x1))),(.lit (.str (.H .x9))),(.lit (.str (.H .x2)))]) [.asg (.sub (.loc (.D .x0)) (.loc (.L .x6))) (.loc (.L .x9))],
 .asg (.sub (.loc (.D .x0)) (.lit (.str (.H .x5)))) (.call (.glob (.G .xc)) [(.lit (.int 100))]),
 .asg (.sub (.loc (.D .x0)) (.lit (.str (.F .x4)))) (.lit (.str (.A .x0))),
 .asg (.sub (.loc (.D .x0)) (.lit (.str (.G .x4)))) (.lit (.int 0)),
 .ret (some (.loc (.D .x0)))]
noncomputable def f_first_values:FnDef:=⟨[],[],b_first_values⟩
noncomputable def b_first_state:List S:=[
 .asg (.nm (.J .x4)) (.ite_ (.cmp .is_ (.loc (.E .xb)) (.lit .none)) (.call (.glob (.I .x4)) []) (.loc (.E .xb))),
 .ret (some (.call (.glob (.D .xc)) [(.loc (.J .x4)),(.tup []),(.call (.glob (.H .x8)) [(.lit (.str (.B .x1)))]),(.call (.glob (.H .x8)) [(.lit (.str (.B .x1)))]),(.call (.glob (.H .xa)) [])]))]
noncomputable def f_first_state:FnDef:=⟨[(.E .xb)],[],b_first_state⟩
noncomputable def b_copied_state:List S:=[
 .ret (some (.call (.glob (.D .xc)) [(.attr (.loc (.J .x5)) (.E .xb)),(.attr (.loc (.J .x5)) (.A .xb)),(.attr (.loc (.J .x5)) (.C .x5)),(.attr (.loc (.J .x5)) (.J .x8)),(.call (.glob (.H .x0)) [(.attr (.loc (.J .x5)) (.L .x0))])]))]
noncomputable def f_copied_state:FnDef:=⟨[(.J .x5)],[],b_copied_state⟩
noncomputable def b_numbers_of:List S:=[
 .ife (.cmp .ne (.call (.glob (.I .xc)) [(.loc (.L .x0))]) (.loc (.B .x3))) [.junk] [],
 .fr (.nm (.K .xc)) (.loc (.L .x0)) [.ife (.not_ (.call (.glob (.I .x7)) [(.loc (.K .xc))])) [.junk] []],
 .ret (some (.comp (.call (.glob (.G .xc)) [(.loc (.K .xc))]) (.K .xc) (.loc (.L .x0)) none))]
noncomputable def f_numbers_of:FnDef:=⟨[(.L .x0),(.B .x3)],[],b_numbers_of⟩
noncomputable def b_name_of:List S:=[
 .ife (.or_ [(.cmp .ne (.call (.glob (.I .xc)) [(.loc (.L .x0))]) (.lit (.int 1))),(.not_ (.call (.glob (.I .x8)) [(.sub (.loc (.L .x0)) (.lit (.int 0))),(.glob (.C .x4))]))]) [.junk] [],
 .ret (some (.attr (.sub (.loc (.L .x0)) (.lit (.int 0))) (.J .xb)))]
noncomputable def f_name_of:FnDef:=⟨[(.L .x0)],[],b_name_of⟩
noncomputable def b_set_text:List S:=[
 .asg (.nm (.H .x0)) (.dict false [((.lit (.str (.D .x3))),(.lit (.str (.H .xa)))),((.lit (.str (.D .xa))),(.lit (.str (.I .x4)))),((.lit (.str (.D .xb))),(.lit (.str (.H .x5)))),((.lit (.str (.D .x2))),(.lit (.str (.G .x1)))),((.lit (.str (.D .x9))),(.lit (.str (.H .x2))))]),
 .ife (.cmp .eq (.loc (.L .x6)) (.lit (.str (.D .x8)))) [.junk] [.ife (.cmp .eq (.loc (.L .x6)) (.lit (.str (.D .x5)))) [.ife (.cmp .ne (.call (.glob (.I .xc)) [(.loc (.L .x0))]) (.lit (.int 2))) [.junk] [],.asg (.nm (.I .x6)) (.sub (.call (.glob (.J .x6)) [(.slice false (.loc (.L .x0)) (some (.lit (.int 1))) none),(.lit (.int 1))]) (.lit (.int 0))),.asg (.sub (.attr (.loc (.J .x5)) (.L .x0)) (.lit (.str (.F .x4)))) (.call (.glob (.J .x4)) [(.slice false (.loc (.L .x0)) none (some (.lit (.int 1))))]),.asg (.sub (.attr (.loc (.J .x5)) (.L .x0)) (.lit (.str (.H .x9)))) (.loc (.I .x6))] [.asg (.sub (.attr (.loc (.J .x5)) (.L .x0)) (.sub (.loc (.H .x0)) (.loc (.L .x6)))) (.sub (.call (.glob (.J .x6)) [(.loc (.L .x0)),(.lit (.int 1))]) (.lit (.int 0)))]]]
noncomputable def f_set_text:FnDef:=⟨[(.J .x5),(.L .x6),(.L .x0)],[],b_set_text⟩
noncomputable def b_Painter___init__:List S:=[
 .asg (.attr (.loc (.H .xb)) (.I .x1)) (.loc (.I .x1)),
 .asg (.attr (.loc (.H .xb)) (.H .x4)) (.loc (.H .x4)),
 .asg (.attr (.loc (.H .xb)) (.F .xb)) (.loc (.F .xb)),
 .asg (.attr (.loc (.H .xb)) (.J .x5)) (.call (.glob (.H .x9)) [(.loc (.E .xb))]),
 .asg (.attr (.loc (.H .xb)) (.G .xa)) (.list true []),
 .asg (.attr (.loc (.H .xb)) (.C .x7)) (.lit (.int 0)),
 .asg (.attr (.loc (.H .xb)) (.G .x9)) (.call (.glob (.D .x2)) []),
 .asg (.attr (.loc (.H .xb)) (.H .x8)) (.lit (.str (.A .x0))),
 .asg (.attr (.loc (.H .xb)) (.J .xb)) (.lit .none),
 .asg (.attr (.loc (.H .xb)) (.I .x7)) (.lit (.int 0)),
 .asg (.attr (.loc (.H .xb)) (.F .xa)) (.list true []),
 .asg (.attr (.loc (.H .xb)) (.E .xa)) (.list true []),
 .asg (.attr (.loc (.H .xb)) (.A .xb)) (.list true [])]
noncomputable def f_Painter___init__:FnDef:=⟨[(.H .xb),(.I .x1),(.H .x4),(.F .xb),(.E .xb)],[.none,.none],b_Painter___init__⟩
noncomputable def b_Painter_paint:List S:=[
 .expr (.call (.glob (.J .x8)) [(.loc (.H .xb)),(.loc (.G .x1))]),
 .ret (some (.frz (.attr (.loc (.H .xb)) (.E .xa))))]
noncomputable def f_Painter_paint:FnDef:=⟨[(.H .xb),(.G .x1)],[],b_Painter_paint⟩
noncomputable def b_paint_all:List S:=[
 .fr (.nm (.G .x0)) (.loc (.G .x1)) [.expr (.call (.glob (.J .x9)) [(.loc (.G .x5)),(.attr (.loc (.G .x0)) (.L .x6)),(.attr (.loc (.G .x0)) (.F .xc))])],
 .ife (.cmp .ne (.attr (.attr (.loc (.G .x5)) (.G .x9)) (.G .x8)) (.tup [])) [.junk] [],
 .ife (.cmp .isnot (.attr (.loc (.G .x5)) (.J .xb)) (.lit .none)) [.junk] []]
noncomputable def f_paint_all:FnDef:=⟨[(.G .x5),(.G .x1)],[],b_paint_all⟩
noncomputable def b_put_mark:List S:=[
 .expr (.meth (.attr (.loc (.G .x5)) (.E .xa)) (.A .x2) [(.loc (.E .x9))]),
 .expr (.meth (.attr (.loc (.G .x5)) (.A .xb)) (.A .x2) [(.attr (.attr (.loc (.G .x5)) (.J .x5)) (.A .xb))])]
noncomputable def f_put_mark:FnDef:=⟨[(.G .x5),(.E .x9)],[],b_put_mark⟩
noncomputable def b_check_place:List S:=[
 .asg (.nm (.E .x1)) (.or_ [(.cmp .in_ (.loc (.L .x6)) (.glob (.C .x9))),(.cmp .in_ (.loc (.L .x6)) (.glob (.A .x0))),(.cmp .in_ (.loc (.L .x6)) (.glob (.C .x8)))]),
 .ife (.and_ [(.cmp .ne (.attr (.attr (.loc (.G .x5)) (.G .x9)) (.G .x8)) (.tup [])),(.not_ (.loc (.E .x1)))]) [.junk] [],
 .ife (.and_ [(.cmp .isnot (.attr (.loc (.G .x5)) (.J .xb)) (.lit .none)),(.or_ [(.loc (.E .x1)),(.cmp .in_ (.loc (.L .x6)) (.glob (.D .x9))),(.cmp .in_ (.loc (.L .x6)) (.tup [(.lit (.str (.B .x2))),(.lit (.str (.A .x9))),(.lit (.str (.H .x7))),(.lit (.str (.A .xa)))]))])]) [.junk] []]
noncomputable def f_check_place:FnDef:=⟨[(.G .x5),(.L .x6)],[],b_check_place⟩
noncomputable def b_perform:List S:=[
 .expr (.call (.glob (.G .x9)) [(.loc (.G .x5)),(.loc (.L .x6))]),
 .ife (.cmp .in_ (.loc (.L .x6)) (.glob (.D .x9))) [.expr (.call (.glob (.H .x6)) [(.loc (.G .x5)),(.loc (.L .x6)),(.loc (.L .x0))])] [.ife (.cmp .in_ (.loc (.L .x6)) (.glob (.B .x5))) [.junk] [.ife (.cmp .in_ (.loc (.L .x6)) (.glob (.C .x9))) [.junk] [.ife (.cmp .in_ (.loc (.L .x6)) (.glob (.A .x0))) [.junk] [.ife (.cmp .in_ (.loc (.L .x6)) (.glob (.C .x8))) [.junk] [.ife (.cmp .in_ (.loc (.L .x6)) (.glob (.A .x3))) [.junk] [.ife (.cmp .in_ (.loc (.L .x6)) (.glob (.E .x5))) [.expr (.call (.glob (.K .x0)) [(.attr (.loc (.G .x5)) (.J .x5)),(.loc (.L .x6)),(.loc (.L .x0))])] [.ife (.cmp .in_ (.loc (.L .x6)) (.glob (.C .xb))) [.expr (.call (.glob (.H .x4)) [(.loc (.G .x5)),(.loc (.L .x6)),(.loc (.L .x0))])] [.ife (.cmp .in_ (.loc (.L .x6)) (.glob (.D .x7))) [.expr (.call (.glob (.H .x5)) [(.loc (.G .x5)),(.loc (.L .x6)),(.loc (.L .x0))])] [.expr (.call (.glob (.H .x3)) [(.loc (.G .x5)),(.loc (.L .x6)),(.loc (.L .x0))])]]]]]]]]]]
noncomputable def f_perform:FnDef:=⟨[(.G .x5),(.L .x6),(.L .x0)],[],b_perform⟩
noncomputable def b_do_other:List S:=[
 .ife (.cmp .eq (.loc (.L .x6)) (.lit (.str (.A .xa)))) [.asg (.attr (.loc (.G .x5)) (.J .xb)) (.tup [(.call (.glob (.I .x4)) []),(.call (.glob (.I .x4)) [])])] [.ife (.cmp .eq (.loc (.L .x6)) (.lit (.str (.B .x3)))) [.ife (.cmp .is_ (.attr (.loc (.G .x5)) (.J .xb)) (.lit .none)) [.junk] [],.asg (.attr (.loc (.G .x5)) (.J .xb)) (.lit .none)] [.ife (.cmp .eq (.loc (.L .x6)) (.lit (.str (.B .x2)))) [.expr (.call (.glob (.H .x2)) [(.loc (.G .x5)),(.call (.glob (.J .x4)) [(.loc (.L .x0))])])] [.junk]]]]
noncomputable def f_do_other:FnDef:=⟨[(.G .x5),(.L .x6),(.L .x0)],[],b_do_other⟩
noncomputable def b_do_state:List S:=[
 .ife (.cmp .eq (.loc (.L .x6)) (.lit (.str (.G .xa)))) [.expr (.meth (.attr (.loc (.G .x5)) (.G .xa)) (.A .x2) [(.call (.glob (.G .xb)) [(.attr (.loc (.G .x5)) (.J .x5))])])] [.ife (.cmp .eq (.loc (.L .x6)) (.lit (.str (.C .x4)))) [.ife (.cmp .le (.call (.glob (.I .xc)) [(.attr (.loc (.G .x5)) (.G .xa))]) (.attr (.loc (.G .x5)) (.C .x7))) [.junk] [],.asg (.attr (.loc (.G .x5)) (.J .x5)) (.meth (.attr (.loc (.G .x5)) (.G .xa)) (.H .x2) [])] [.asg (.attr (.attr (.loc (.G .x5)) (.J .x5)) (.E .xb)) (.meth (.call (.glob (.J .x1)) [(.loc (.L .x0))]) (.K .x0) [(.attr (.attr (.loc (.G .x5)) (.J .x5)) (.E .xb))])]]]
noncomputable def f_do_state:FnDef:=⟨[(.G .x5),(.L .x6),(.L .x0)],[],b_do_state⟩
noncomputable def b_matrix_of:List S:=[
 .asg (.tup [(.nm (.A .x0)),(.nm (.A .x5)),(.nm (.A .x8)),(.nm (.B .x6)),(.nm (.B .xa)),(.nm (.C .x1))]) (.call (.glob (.J .x6)) [(.loc (.L .x0)),(.lit (.int 6))]),
 .ret (some (.call (.glob (.B .xc)) [(.loc (.A .x0)),(.loc (.A .x5)),(.loc (.A .x8)),(.loc (.B .x6)),(.loc (.B .xa)),(.loc (.C .x1))]))]
noncomputable def f_matrix_of:FnDef:=⟨[(.L .x0)],[],b_matrix_of⟩
noncomputable def b_named:List S:=[
 .asg (.nm (.D .x0)) (.meth (.attr (.loc (.G .x5)) (.I .x1)) (.D .x3) [(.attr (.loc (.G .x5)) (.H .x4)),(.loc (.L .x6))]),
 .ife (.not_ (.call (.glob (.I .x8)) [(.loc (.D .x0)),(.glob (.H .x0))])) [.junk] [],
 .ret (some (.meth (.loc (.D .x0)) (.D .x3) [(.loc (.F .x0))]))]
noncomputable def f_named:FnDef:=⟨[(.G .x5),(.L .x6),(.F .x0)],[],b_named⟩
noncomputable def b_move_line:List S:=[
 .asg (.nm (.A .x7)) (.meth (.call (.glob (.K .x6)) [(.loc (.A .x1)),(.loc (.K .xa))]) (.K .x0) [(.sub (.attr (.loc (.G .x5)) (.J .xb)) (.lit (.int 1)))]),
 .asg (.attr (.loc (.G .x5)) (.J .xb)) (.tup [(.loc (.A .x7)),(.loc (.A .x7))])]
noncomputable def f_move_line:FnDef:=⟨[(.G .x5),(.A .x1),(.K .xa)],[],b_move_line⟩
noncomputable def b_do_place:List S:=[
 .ife (.cmp .is_ (.attr (.loc (.G .x5)) (.J .xb)) (.lit .none)) [.junk] [],
 .ife (.cmp .eq (.loc (.L .x6)) (.lit (.str (.D .x7)))) [.asg (.nm (.A .x7)) (.call (.glob (.J .x1)) [(.loc (.L .x0))]),.asg (.attr (.loc (.G .x5)) (.J .xb)) (.tup [(.loc (.A .x7)),(.loc (.A .x7))])] [.ife (.cmp .eq (.loc (.L .x6)) (.lit (.str (.C .xc)))) [.expr (.call (.glob (.J .x6)) [(.loc (.L .x0)),(.lit (.int 0))]),.expr (.call (.glob (.J .x3)) [(.loc (.G .x5)),(.call (.glob (.G .xc)) [(.lit (.int 0))]),(.meth (.sub (.attr (.attr (.loc (.G .x5)) (.J .x5)) (.L .x0)) (.lit (.str (.G .x1)))) (.F .x2) [])])] [.asg (.tup [(.nm (.A .x1)),(.nm (.K .xa))]) (.call (.glob (.J .x6)) [(.loc (.L .x0)),(.lit (.int 2))]),.ife (.cmp .eq (.loc (.L .x6)) (.lit (.str (.D .x0)))) [.asg (.sub (.attr (.attr (.loc (.G .x5)) (.J .x5)) (.L .x0)) (.lit (.str (.G .x1)))) (.meth (.loc (.K .xa)) (.F .x2) [])] [],.expr (.call (.glob (.J .x3)) [(.loc (.G .x5)),(.loc (.A .x1)),(.loc (.K .xa))])]]]
noncomputable def f_do_place:FnDef:=⟨[(.G .x5),(.L .x6),(.L .x0)],[],b_do_place⟩
noncomputable def b_octets_of_row:List S:=[
 .ife (.or_ [(.cmp .ne (.call (.glob (.I .xc)) [(.loc (.L .x0))]) (.lit (.int 1))),(.not_ (.call (.glob (.I .x8)) [(.sub (.loc (.L .x0)) (.lit (.int 0))),(.glob (.J .x0))]))]) [.junk] [],
 .asg (.nm (.D .x0)) (.lit (.bytes [])),
 .fr (.nm (.K .xc)) (.sub (.loc (.L .x0)) (.lit (.int 0))) [.ife (.call (.glob (.I .x8)) [(.loc (.K .xc)),(.glob (.E .x3))]) [.asg (.nm (.D .x0)) (.bin .add (.loc (.D .x0)) (.attr (.loc (.K .xc)) (.F .x7)))] [.junk]],
 .ret (some (.loc (.D .x0)))]
noncomputable def f_octets_of_row:FnDef:=⟨[(.L .x0)],[],b_octets_of_row⟩
noncomputable def b_do_show:List S:=[
 .ife (.cmp .is_ (.attr (.loc (.G .x5)) (.J .xb)) (.lit .none)) [.junk] [],
 .ife (.cmp .eq (.sub (.attr (.attr (.loc (.G .x5)) (.J .x5)) (.L .x0)) (.lit (.str (.F .x4)))) (.lit (.str (.A .x0)))) [.junk] [],
 .ife (.cmp .eq (.loc (.L .x6)) (.lit (.str (.D .x1)))) [.asg (.nm (.F .x7)) (.call (.glob (.J .x7)) [(.loc (.L .x0))])] [.asg (.nm (.B .x3)) (.ite_ (.cmp .eq (.loc (.L .x6)) (.lit (.str (.A .x1)))) (.lit (.int 3)) (.lit (.int 1))),.ife (.or_ [(.cmp .ne (.call (.glob (.I .xc)) [(.loc (.L .x0))]) (.loc (.B .x3))),(.not_ (.call (.glob (.I .x8)) [(.sub (.loc (.L .x0)) (.neg (.lit (.int 1)))),(.glob (.E .x3))]))]) [.junk] [],.asg (.nm (.F .x7)) (.attr (.sub (.loc (.L .x0)) (.neg (.lit (.int 1)))) (.F .x7)),.ife (.cmp .eq (.loc (.B .x3)) (.lit (.int 3))) [.expr (.call (.glob (.K .x0)) [(.attr (.loc (.G .x5)) (.J .x5)),(.lit (.str (.D .xa))),(.slice false (.loc (.L .x0)) none (some (.lit (.int 1))))]),.expr (.call (.glob (.K .x0)) [(.attr (.loc (.G .x5)) (.J .x5)),(.lit (.str (.D .x3))),(.slice false (.loc (.L .x0)) (some (.lit (.int 1))) (some (.lit (.int 2))))])] [],.ife (.cmp .ne (.loc (.L .x6)) (.lit (.str (.D .x6)))) [.expr (.call (.glob (.H .x4)) [(.loc (.G .x5)),(.lit (.str (.C .xc))),(.list false [])])] []],
 .asg (.nm (.E .xb)) (.meth (.sub (.attr (.loc (.G .x5)) (.J .xb)) (.lit (.int 0))) (.K .x0) [(.attr (.attr (.loc (.G .x5)) (.J .x5)) (.E .xb))]),
 .expr (.call (.glob (.J .xa)) [(.loc (.G .x5)),(.tup [(.lit (.str (.I .x0))),(.loc (.F .x7)),(.loc (.E .xb)),(.sub (.attr (.attr (.loc (.G .x5)) (.J .x5)) (.L .x0)) (.lit (.str (.F .x4)))),(.sub (.attr (.attr (.loc (.G .x5)) (.J .x5)) (.L .x0)) (.lit (.str (.H .x9))))])])]
noncomputable def f_do_show:FnDef:=⟨[(.G .x5),(.L .x6),(.L .x0)],[],b_do_show⟩
noncomputable def b_do_object:List S:=[
 .asg (.nm (.B .xc)) (.call (.glob (.J .x5)) [(.loc (.G .x5)),(.lit (.str (.E .x1))),(.loc (.F .x0))]),
 .asg (.nm (.J .x6)) (.meth (.attr (.loc (.G .x5)) (.I .x1)) (.C .x4) [(.loc (.B .xc))]),
 .ife (.not_ (.call (.glob (.I .x8)) [(.loc (.J .x6)),(.glob (.E .x1))])) [.junk] [],
 .asg (.nm (.I .x9)) (.meth (.attr (.loc (.G .x5)) (.I .x1)) (.D .x3) [(.attr (.loc (.J .x6)) (.D .x6)),(.lit (.str (.C .xb)))]),
 .asg (.nm (.L .x6)) (.ite_ (.call (.glob (.I .x8)) [(.loc (.I .x9)),(.glob (.C .x4))]) (.attr (.loc (.I .x9)) (.J .xb)) (.lit (.str (.A .x0)))),
 .ife (.cmp .eq (.loc (.L .x6)) (.lit (.str (.B .xa)))) [.junk] [.ife (.cmp .eq (.loc (.L .x6)) (.lit (.str (.B .x8)))) [.expr (.call (.glob (.H .x1)) [(.loc (.G .x5)),(.loc (.B .xc)),(.loc (.J .x6))])] [.junk]]]
noncomputable def f_do_object:FnDef:=⟨[(.G .x5),(.F .x0)],[],b_do_object⟩
noncomputable def b_form_numbers:List S:=[
 .asg (.nm (.D .x0)) (.meth (.attr (.loc (.G .x5)) (.I .x1)) (.D .x3) [(.loc (.D .x6)),(.loc (.E .x2))]),
 .ife (.cmp .is_ (.loc (.D .x0)) (.lit .none)) [.ret (some (.lit .none))] [],
 .ife (.not_ (.call (.glob (.I .x8)) [(.loc (.D .x0)),(.glob (.J .x0))])) [.junk] [],
 .ret (some (.call (.glob (.J .x6)) [(.comp (.meth (.attr (.loc (.G .x5)) (.I .x1)) (.C .x4) [(.loc (.G .x7))]) (.G .x7) (.loc (.D .x0)) none),(.loc (.B .x3))]))]
noncomputable def f_form_numbers:FnDef:=⟨[(.G .x5),(.D .x6),(.E .x2),(.B .x3)],[],b_form_numbers⟩
noncomputable def b_enter_form:List S:=[
 .asg (.nm (.F .x5)) (.call (.glob (.I .x2)) [(.loc (.G .x5)),(.loc (.D .x6)),(.lit (.str (.C .x1))),(.lit (.int 6))]),
 .ife (.cmp .isnot (.loc (.F .x5)) (.lit .none)) [.asg (.attr (.attr (.loc (.G .x5)) (.J .x5)) (.E .xb)) (.meth (.call (.glob (.J .x1)) [(.loc (.F .x5))]) (.K .x0) [(.attr (.attr (.loc (.G .x5)) (.J .x5)) (.E .xb))])] [],
 .asg (.nm (.B .xb)) (.call (.glob (.I .x2)) [(.loc (.G .x5)),(.loc (.D .x6)),(.lit (.str (.A .x7))),(.lit (.int 4))]),
 .ife (.cmp .isnot (.loc (.B .xb)) (.lit .none)) [.junk,.junk] [],
 .asg (.nm (.G .x3)) (.meth (.attr (.loc (.G .x5)) (.I .x1)) (.D .x3) [(.loc (.D .x6)),(.lit (.str (.C .x6)))]),
 .ife (.call (.glob (.I .x8)) [(.loc (.G .x3)),(.glob (.H .x0))]) [.asg (.attr (.loc (.G .x5)) (.H .x4)) (.loc (.G .x3))] []]
noncomputable def f_enter_form:FnDef:=⟨[(.G .x5),(.D .x6)],[],b_enter_form⟩
noncomputable def b_do_form:List S:=[
 .asg (.nm (.E .x9)) (.ite_ (.call (.glob (.I .x8)) [(.loc (.B .xc)),(.glob (.D .x4))]) (.meth (.loc (.B .xc)) (.G .x6) []) (.tup [(.lit (.int 0)),(.lit (.int 0))])),
 .ife (.or_ [(.and_ [(.cmp .gt (.sub (.loc (.E .x9)) (.lit (.int 0))) (.lit (.int 0))),(.cmp .in_ (.loc (.E .x9)) (.attr (.loc (.G .x5)) (.F .xa)))]),(.cmp .ge (.call (.glob (.I .xc)) [(.attr (.loc (.G .x5)) (.F .xa))]) (.glob (.B .x9)))]) [.junk] [],
 .ife (.cmp .is_ (.attr (.loc (.G .x5)) (.F .xb)) (.lit .none)) [.junk] [],
 .asg (.tup [(.nm (.J .x5)),(.nm (.H .x4)),(.nm (.C .x7)),(.nm (.I .x7))]) (.tup [(.attr (.loc (.G .x5)) (.J .x5)),(.attr (.loc (.G .x5)) (.H .x4)),(.attr (.loc (.G .x5)) (.C .x7)),(.attr (.loc (.G .x5)) (.I .x7))]),
 .asg (.nm (.D .x8)) (.call (.glob (.I .xc)) [(.attr (.loc (.G .x5)) (.G .xa))]),
 .asg (.attr (.loc (.G .x5)) (.J .x5)) (.call (.glob (.G .xb)) [(.loc (.J .x5))]),
 .asg (.attr (.loc (.G .x5)) (.C .x7)) (.loc (.D .x8)),
 .asg (.attr (.loc (.G .x5)) (.I .x7)) (.lit (.int 0)),
 .expr (.meth (.attr (.loc (.G .x5)) (.F .xa)) (.A .x2) [(.loc (.E .x9))]),
 .expr (.call (.glob (.H .x7)) [(.loc (.G .x5)),(.attr (.loc (.J .x6)) (.D .x6))]),
 .expr (.call (.glob (.J .x8)) [(.loc (.G .x5)),(.meth (.loc (.G .x5)) (.F .xb) [(.attr (.loc (.G .x5)) (.I .x1)),(.loc (.J .x6))])]),
 .expr (.meth (.attr (.loc (.G .x5)) (.F .xa)) (.H .x2) []),
 .asg (.attr (.loc (.G .x5)) (.G .xa)) (.slice true (.attr (.loc (.G .x5)) (.G .xa)) none (some (.loc (.D .x8)))),
 .asg (.tup [(.attr (.loc (.G .x5)) (.J .x5)),(.attr (.loc (.G .x5)) (.H .x4)),(.attr (.loc (.G .x5)) (.C .x7)),(.attr (.loc (.G .x5)) (.I .x7))]) (.tup [(.loc (.J .x5)),(.loc (.H .x4)),(.loc (.C .x7)),(.loc (.I .x7))])]
noncomputable def f_do_form:FnDef:=⟨[(.G .x5),(.B .xc),(.J .x6)],[],b_do_form⟩
noncomputable def b__law_draw:List S:=[
 .asg (.tup [(.nm (.A .x9)),(.nm (.J .x1))]) (.loc (.J .xa)),
 .asg (.sub (.loc (.J .xa)) (.lit (.int 1))) (.bin .add (.loc (.J .x1)) (.lit (.int 1))),
 .ret (some (.bin .mod (.bin .add (.sub (.loc (.A .x9)) (.bin .mod (.loc (.J .x1)) (.call (.glob (.I .xc)) [(.loc (.A .x9))]))) (.bin .fdiv (.bin .mul (.bin .fdiv (.loc (.J .x1)) (.call (.glob (.I .xc)) [(.loc (.A .x9))])) (.bin .add (.bin .mul (.lit (.int 7)) (.loc (.J .x1))) (.lit (.int 3)))) (.lit (.int 4)))) (.loc (.E .x7))))]
noncomputable def f__law_draw:FnDef:=⟨[(.J .xa),(.E .x7)],[],b__law_draw⟩
noncomputable def b__law_pair:List S:=[
 .ret (some (.list false [(.bin .sub (.call (.glob (.F .x8)) [(.loc (.J .xa)),(.lit (.int 19))]) (.lit (.int 9))),(.bin .sub (.call (.glob (.F .x8)) [(.loc (.J .xa)),(.lit (.int 19))]) (.lit (.int 9)))]))]
noncomputable def f__law_pair:FnDef:=⟨[(.J .xa)],[],b__law_pair⟩
noncomputable def b__law_six:List S:=[
 .ret (some (.bin .add (.call (.glob (.J .x0)) [(.sub (.list false [(.tup [(.lit (.int 1)),(.lit (.int 0)),(.lit (.int 0)),(.lit (.int 1))]),(.tup [(.lit (.int 2)),(.lit (.int 0)),(.lit (.int 0)),(.lit (.int 1))]),(.tup [(.lit (.int 0)),(.lit (.int 1)),(.neg (.lit (.int 1))),(.lit (.int 0))]),(.tup [(.lit (.int 1)),(.lit (.int 1)),(.lit (.int 0)),(.neg (.lit (.int 1)))])]) (.call (.glob (.F .x8)) [(.loc (.J .xa)),(.lit (.int 4))]))]) (.call (.glob (.F .xa)) [(.loc (.J .xa))])))]
noncomputable def f__law_six:FnDef:=⟨[(.J .xa)],[],b__law_six⟩
noncomputable def b__law_string:List S:=[
 .ret (some (.call (.glob (.E .x3)) [(.sub (.tup [(.lit (.bytes [65])),(.lit (.bytes [66])),(.lit (.bytes [65,66])),(.lit (.bytes []))]) (.call (.glob (.F .x8)) [(.loc (.J .xa)),(.lit (.int 4))]))]))]
noncomputable def f__law_string:FnDef:=⟨[(.J .xa)],[],b__law_string⟩
noncomputable def b__law_setting:List S:=[
 .ife (.cmp .eq (.call (.glob (.F .x8)) [(.loc (.J .xa)),(.lit (.int 2))]) (.lit (.int 0))) [.ret (some (.call (.glob (.C .x6)) [(.lit (.str (.D .x2))),(.list false [(.bin .sub (.call (.glob (.F .x8)) [(.loc (.J .xa)),(.lit (.int 13))]) (.lit (.int 6)))])]))] [],
 .ret (some (.call (.glob (.C .x6)) [(.lit (.str (.D .x5))),(.list false [(.call (.glob (.C .x4)) [(.sub (.lit (.str (.B .x6))) (.call (.glob (.F .x8)) [(.loc (.J .xa)),(.lit (.int 2))]))]),(.bin .sub (.call (.glob (.F .x8)) [(.loc (.J .xa)),(.lit (.int 9))]) (.lit (.int 4)))])]))]
noncomputable def f__law_setting:FnDef:=⟨[(.J .xa)],[],b__law_setting⟩
noncomputable def b__law_deed:List S:=[
 .asg (.nm (.L .x2)) (.call (.glob (.F .x8)) [(.loc (.J .xa)),(.lit (.int 9))]),
 .ife (.cmp .lt (.loc (.L .x2)) (.lit (.int 2))) [.ret (some (.call (.glob (.C .x6)) [(.sub (.tup [(.lit (.str (.D .x4))),(.lit (.str (.D .x0)))]) (.loc (.L .x2))),(.call (.glob (.F .xa)) [(.loc (.J .xa))])]))] [],
 .ife (.cmp .eq (.loc (.L .x2)) (.lit (.int 2))) [.ret (some (.call (.glob (.C .x6)) [(.lit (.str (.C .xc))),(.list false [])]))] [],
 .ife (.cmp .eq (.loc (.L .x2)) (.lit (.int 3))) [.ret (some (.call (.glob (.C .x6)) [(.lit (.str (.D .x7))),(.call (.glob (.F .xc)) [(.loc (.J .xa))])]))] [],
 .ife (.or_ [(.cmp .eq (.loc (.L .x2)) (.lit (.int 4))),(.cmp .eq (.loc (.L .x2)) (.lit (.int 6)))]) [.ret (some (.call (.glob (.C .x6)) [(.ite_ (.cmp .eq (.loc (.L .x2)) (.lit (.int 4))) (.lit (.str (.D .x6))) (.lit (.str (.A .x2)))),(.list false [(.call (.glob (.G .x0)) [(.loc (.J .xa))])])]))] [],
 .ife (.cmp .eq (.loc (.L .x2)) (.lit (.int 5))) [.ret (some (.call (.glob (.C .x6)) [(.lit (.str (.D .x1))),(.list false [(.list false [(.call (.glob (.G .x0)) [(.loc (.J .xa))]),(.call (.glob (.G .x0)) [(.loc (.J .xa))])])])]))] [],
 .ife (.cmp .eq (.loc (.L .x2)) (.lit (.int 7))) [.ret (some (.call (.glob (.C .x6)) [(.lit (.str (.A .x1))),(.list false [(.lit (.int 0)),(.lit (.int 0)),(.call (.glob (.G .x0)) [(.loc (.J .xa))])])]))] [],
 .ret (some (.call (.glob (.F .xb)) [(.loc (.J .xa))]))]
noncomputable def f__law_deed:FnDef:=⟨[(.J .xa)],[],b__law_deed⟩
noncomputable def b__law_content:List S:=[
 .swp (.D .x0) (.D .x9) true [] (.int 0),
 .fr (.nm (.K .x5)) (.call (.glob (.J .xb)) [(.call (.glob (.F .x8)) [(.loc (.J .xa)),(.loc (.E .xc))])]) [.asg (.nm (.L .x2)) (.call (.glob (.F .x8)) [(.loc (.J .xa)),(.lit (.int 8))]),.ife (.cmp .lt (.loc (.L .x2)) (.lit (.int 3))) [.expr (.meth (.loc (.D .x0)) (.A .x2) [(.call (.glob (.C .x6)) [(.lit (.str (.A .xa))),(.list false [])])]),.expr (.meth (.loc (.D .x0)) (.C .x0) [(.comp (.call (.glob (.F .x7)) [(.loc (.J .xa))]) (.B .x3) (.call (.glob (.J .xb)) [(.call (.glob (.F .x8)) [(.loc (.J .xa)),(.lit (.int 4))])]) none)]),.expr (.meth (.loc (.D .x0)) (.A .x2) [(.call (.glob (.C .x6)) [(.lit (.str (.B .x3))),(.list false [])])])] [.ife (.cmp .eq (.loc (.L .x2)) (.lit (.int 3))) [.expr (.meth (.loc (.D .x0)) (.A .x2) [(.call (.glob (.C .x6)) [(.lit (.str (.G .xa))),(.list false [])])]),.asg (.nm (.D .x9)) (.bin .add (.loc (.D .x9)) (.lit (.int 1)))] [.ife (.and_ [(.cmp .eq (.loc (.L .x2)) (.lit (.int 4))),(.cmp .gt (.loc (.D .x9)) (.lit (.int 0)))]) [.expr (.meth (.loc (.D .x0)) (.A .x2) [(.call (.glob (.C .x6)) [(.lit (.str (.C .x4))),(.list false [])])]),.asg (.nm (.D .x9)) (.bin .sub (.loc (.D .x9)) (.lit (.int 1)))] [.ife (.cmp .eq (.loc (.L .x2)) (.lit (.int 5))) [.expr (.meth (.loc (.D .x0)) (.A .x2) [(.call (.glob (.C .x6)) [(.lit (.str (.E .x8))),(.call (.glob (.F .xc)) [(.loc (.J .xa))])])])] [.ife (.cmp .eq (.loc (.L .x2)) (.lit (.int 6))) [.expr (.meth (.loc (.D .x0)) (.A .x2) [(.call (.glob (.F .xb)) [(.loc (.J .xa))])])] [.ife (.cmp .ne (.loc (.I .x8)) (.lit (.str (.A .x0)))) [.expr (.meth (.loc (.D .x0)) (.A .x2) [(.call (.glob (.C .x6)) [(.lit (.str (.B .x2))),(.list false [(.call (.glob (.C .x4)) [(.sub (.loc (.I .x8)) (.call (.glob (.F .x8)) [(.loc (.J .xa)),(.call (.glob (.I .xc)) [(.loc (.I .x8))])]))])])])])] []]]]]]],
 .ret (some (.frz (.loc (.D .x0))))]
noncomputable def f__law_content:FnDef:=⟨[(.J .xa),(.I .x8),(.E .xc)],[],b__law_content⟩
noncomputable def b__law_due:List S:=[
 .asg (.nm (.B .x9)) (.list true []),
 .fr (.nm (.E .x9)) (.loc (.E .xa)) [.ife (.cmp .eq (.sub (.loc (.E .x9)) (.lit (.int 0))) (.lit (.str (.I .x0)))) [.asg (.tup [(.nm (.F .x7)),(.nm (.E .xb)),(.nm (.F .x0)),(.nm (.I .x6))]) (.slice false (.loc (.E .x9)) (some (.lit (.int 1))) none),.asg (.tup [(.nm (.L .x7)),(.nm (.L .x8))]) (.meth (.loc (.E .xb)) (.A .x3) [(.lit (.int 0)),(.lit (.int 0))]),.fr (.nm (.F .x6)) (.loc (.F .x7)) [.expr (.meth (.loc (.B .x9)) (.A .x2) [(.tup [(.sub (.sub (.glob (.G .x1)) (.loc (.F .x0))) (.loc (.F .x6))),(.meth (.loc (.L .x7)) (.K .x1) []),(.meth (.loc (.L .x8)) (.K .x1) []),(.tup [(.lit (.int 0)),(.lit (.int 0))]),(.meth (.sub (.meth (.loc (.E .xb)) (.I .x2) [(.lit (.int 0)),(.loc (.I .x6))]) (.lit (.int 1))) (.K .x1) [])])])]] []],
 .ret (some (.frz (.loc (.B .x9))))]
noncomputable def f__law_due:FnDef:=⟨[(.E .xa)],[],b__law_due⟩
noncomputable def b_law:List S:=[
 .asg (.nm (.J .xa)) (.list true [(.or_ [(.call (.glob (.J .x0)) [(.slice false (.loc (.H .x9)) none (some (.lit (.int 63))))]),(.list false [(.lit (.int 5))])]),(.lit (.int 0))]),
 .asc (.D .x5) (.cmp .eq (.call (.glob (.F .x8)) [(.loc (.J .xa)),(.lit (.int 2))]) (.lit (.int 1))) (.F .x4) (.call (.glob (.J .xb)) [(.lit (.int 2))]) none,
 .asc (.I .x5) (.ite_ (.cmp .eq (.call (.glob (.F .x8)) [(.loc (.J .xa)),(.lit (.int 2))]) (.lit (.int 1))) (.call (.glob (.F .xc)) [(.loc (.J .xa))]) (.lit .none)) (.F .x4) (.call (.glob (.J .xb)) [(.lit (.int 2))]) none,
 .asg (.nm (.H .x7)) (.list false [(.call (.glob (.F .x6)) [(.loc (.J .xa)),(.ite_ (.sub (.loc (.D .x5)) (.lit (.int 0))) (.lit (.str (.A .x3))) (.lit (.str (.A .x5)))),(.lit (.int 3))]),(.call (.glob (.F .x6)) [(.loc (.J .xa)),(.lit (.str (.A .x0))),(.lit (.int 3))])]),
 .asg (.nm (.G .x1)) (.bin .add (.list false [(.call (.glob (.C .x6)) [(.lit (.str (.D .x5))),(.list false [(.call (.glob (.C .x4)) [(.lit (.str (.B .x5)))]),(.lit (.int 2))])])]) (.call (.glob (.F .x6)) [(.loc (.J .xa)),(.lit (.str (.A .x4))),(.lit (.int 5))])),
 .asg (.nm (.D .x7)) (.dict false [((.lit (.str (.B .x5))),(.dict false [((.lit (.str (.B .xc))),(.call (.glob (.C .x4)) [(.lit (.str (.B .x5)))]))])),((.lit (.str (.B .x9))),(.dict false [((.lit (.str (.B .xc))),(.call (.glob (.C .x4)) [(.lit (.str (.B .x9)))]))]))]),
 .asg (.nm (.I .x1)) (.call (.glob (.D .xa)) [(.dict true []),(.dict false [])]),
 .fr (.nm (.F .x4)) (.call (.glob (.J .xb)) [(.lit (.int 2))]) [.asg (.nm (.D .x6)) (.dict true [((.lit (.str (.C .xb))),(.call (.glob (.C .x4)) [(.lit (.str (.B .x8)))]))]),.ife (.cmp .isnot (.sub (.loc (.I .x5)) (.loc (.F .x4))) (.lit .none)) [.asg (.sub (.loc (.D .x6)) (.lit (.str (.C .x1)))) (.sub (.loc (.I .x5)) (.loc (.F .x4)))] [],.ife (.sub (.loc (.D .x5)) (.loc (.F .x4))) [.asg (.sub (.loc (.D .x6)) (.lit (.str (.C .x6)))) (.dict false [((.lit (.str (.B .x7))),(.loc (.D .x7))),((.lit (.str (.E .x1))),(.ite_ (.cmp .eq (.loc (.F .x4)) (.lit (.int 0))) (.dict false [((.lit (.str (.A .x3))),(.call (.glob (.D .x4)) [(.lit (.int 12)),(.lit (.int 0))]))]) (.dict false [])))])] [],.expr (.meth (.loc (.I .x1)) (.H .x3) [(.bin .add (.lit (.int 11)) (.loc (.F .x4))),(.lit (.int 0)),(.call (.glob (.E .x1)) [(.frz (.loc (.D .x6))),(.call (.glob (.G .x7)) [(.list false [(.loc (.F .x4))])])])])],
 .ghost (.I .x1),
 .asg (.nm (.H .x4)) (.dict false [((.lit (.str (.B .x7))),(.loc (.D .x7))),((.lit (.str (.E .x1))),(.dict false [((.lit (.str (.A .x3))),(.call (.glob (.D .x4)) [(.lit (.int 11)),(.lit (.int 0))])),((.lit (.str (.A .x5))),(.call (.glob (.D .x4)) [(.lit (.int 12)),(.lit (.int 0))]))]))]),
 .asg (.nm (.C .xa)) (.dict true []),
 .fr (.nm (.F .x0)) (.glob (.G .x1)) [.asg (.nm (.A .xa)) (.frz (.call (.glob (.H .x0)) [(.comp (.tup [(.tup [(.lit (.int 1)),(.loc (.F .x6))]),(.sub (.sub (.glob (.G .x1)) (.loc (.F .x0))) (.loc (.F .x6)))]) (.F .x6) (.sub (.glob (.G .x1)) (.loc (.F .x0))) none)])),.asg (.sub (.loc (.C .xa)) (.loc (.F .x0))) (.call (.glob (.A .xa)) [(.list false []),(.lit .none),(.call (.glob (.A .x1)) [(.list false []),(.loc (.A .xa))]),(.list false []),(.lit (.int 0)),(.call (.glob (.A .x4)) [(.lit (.int 1)),(.lit (.int 3))]),(.tup [])])],
 .ghost (.C .xa),
 .asg (.nm (.E .xa)) (.meth (.call (.glob (.C .xc)) [(.loc (.I .x1)),(.loc (.H .x4)),(.lam .l_0)]) (.G .x4) [(.loc (.G .x1))]),
 .asg (.nm (.I .x0)) (.call (.glob (.K .x5)) [(.loc (.I .x1)),(.loc (.H .x4)),(.loc (.G .x1)),(.tup [(.lit (.int 0)),(.call (.glob (.I .x4)) [])]),(.lam .l_1),(.lam .l_2)]),
 .ret (some (.cmp .eq (.comp (.meth (.loc (.F .x8)) (.K .x1) []) (.F .x8) (.call (.glob (.I .xb)) [(.loc (.I .x0))]) none) (.call (.glob (.F .x9)) [(.loc (.E .xa))])))]
noncomputable def f_law:FnDef:=⟨[(.H .x9)],[],b_law⟩
noncomputable def fdef:Gl→Option FnDef
 | .A i=>pk none i [none,none,some f_CMap___init__,none,none,some f_Decimal___init__,some f_Decimal_negated,some f_Decimal_plus,some f_Decimal_times,some f_Decimal_told,none,some f_Font___init__,some f_Font_codes]
 | .B i=>pk none i [some f_Font_text,some f_Font_width,none,some f_Glyph___init__,some f_Glyph_told,none,some f_Lookup___init__,some f_Lookup_fetch,some f_Lookup_get,none,none,none,none]
 | .C i=>pk none i [some f_Matrix___init__,some f_Matrix_applied,some f_Matrix_shifted,some f_Matrix_times,none,some f_Name___init__,none,some f_Operation___init__,none,none,none,none,none]
 | .D i=>pk none i [some f_Painter___init__,some f_Painter_paint,none,some f_Path___init__,none,some f_Reference___init__,some f_Reference_pair,none,none,none,none,some f_Shelf_put,none]
 | .E i=>pk none i [some f_State___init__,none,some f_Stream___init__,none,some f_String___init__,none,none,some f_TextSheet___init__,none,some f_TextState___init__,some f_TextState_copied,some f_TextState_stretched,none]
 | .F i=>pk none i [some f_TextWalk___init__,some f_TextWalk_feed,some f_TextWalk_next_row,some f_TextWalk_set_matrix,some f_TextWalk_show,some f_TextWalk_show_parts,some f__law_content,some f__law_deed,some f__law_draw,some f__law_due,some f__law_pair,some f__law_setting,some f__law_six]
 | .G i=>pk none i [some f__law_string,none,some f_advance,none,some f_along,some f_at_one_scale,none,none,some f_check_operands,some f_check_place,some f_choose_font,some f_copied_state,some f_decimal_of]
 | .H i=>pk none i [none,some f_do_form,some f_do_object,some f_do_other,some f_do_place,some f_do_show,some f_do_state,some f_enter_form,some f_first_colour,some f_first_state,some f_first_values,some f_fits_kind,some f_follow_placed]
 | .I i=>pk none i [some f_follow_state,some f_form_matrix,some f_form_numbers,some f_from_array,some f_identity,none,some f_is_form,some f_is_number,none,some f_kind_of,some f_law,some f_lay_glyphs,none]
 | .J i=>pk none i [none,some f_matrix_of,none,some f_move_line,some f_name_of,some f_named,some f_numbers_of,some f_octets_of_row,some f_paint_all,some f_perform,some f_put_mark,none,some f_resource_dict]
 | .K i=>pk none i [some f_set_text,some f_sheet_glyphs,some f_shown_glyphs,none,some f_text_kinds,some f_text_sheet,some f_translation,some f_used_names,some f_width_in,none,none,none,none]
 | .L i=>pk none i [none,none,none,none,none,none,none,none,none,none,none,none,none]
noncomputable def putL {α β:Type} [DecidableEq α] (n:α) (v:β):List (α×β)→List (α×β)
 | []=>[(n,v)]
 | (m,w)::r=>if m=n then (m,v)::r else (m,w)::putL n v r
noncomputable def getL? {α β:Type} [DecidableEq α] (n:α):List (α×β)→Option β
 | []=>.none
 | (m,w)::r=>if m=n then some w else getL? n r
noncomputable def Fr.set (f:Fr) (n:Nm) (v:V):Fr:=⟨putL n v f.vars,f.me⟩
noncomputable abbrev O {α:Type} (m:Option α) (K:α→Prop):Prop:=match m with | some a=>K a | none=>False
noncomputable abbrev Gx (c:Bool) (P:Prop):Prop:=if c then P else False
noncomputable abbrev KV:=V→St→Prop
noncomputable abbrev KF:=Fl→Fr→St→Prop
noncomputable abbrev NV:=V→Prop
noncomputable def asInt:V→Option Int | .int i=>some i | _=>.none
noncomputable def asStr:V→Option Sm | .str i=>some i | _=>.none
noncomputable def asBytes:V→Option (List UInt8) | .bytes i=>some i | _=>.none
noncomputable def asTup:V→Option (List V) | .tup i=>some i | _=>.none
noncomputable def asLst:V→Option (List V) | .lst i=>some i | _=>.none
noncomputable def asRef:V→Option Nat | .ref i=>some i | _=>.none
noncomputable def asGlob:V→Option Gl | .glob i=>some i | _=>.none
noncomputable def asBool:V→Option Bool | .bool i=>some i | _=>.none
noncomputable def oList:MObj→Option (List V) | .list vs=>some vs | _=>.none
noncomputable def oDict:MObj→Option (List (V×V)) | .dict vs=>some vs | _=>.none
noncomputable def oInst:MObj→Option (Gl×List (Nm×V)) | .inst c fs=>some (c,fs) | _=>.none
noncomputable def one? {α:Type}:List α→Option α | [a]=>some a | _=>.none
noncomputable def two? {α:Type}:List α→Option (α×α) | [a,b]=>some (a,b) | _=>.none
noncomputable def all2 (f:V→V→Option Bool):List V→List V→Option Bool
 | [],ys=>some ys.isEmpty
 | x::xs,[]=>some false
 | x::xs,y::ys=>(f x y).bind fun p=>(all2 f xs ys).map fun q=>p&&q
noncomputable def veqN:Nat→V→V→Option Bool
 | 0,_,_=>.none
 | n + 1,x,y=>match x with
  | .int a=>(asInt y).map fun b=>a==b
  | .str a=>(asStr y).map fun b=>a==b
  | .tup a=>(asTup y).bind fun b=>all2 (veqN n) a b
  | .lst a=>(asLst y).bind fun b=>if a.length=b.length then all2 (veqN n) a b else some false
  | _=>.none
noncomputable def veq (x y:V):Option Bool:=veqN 8 x y
noncomputable def asPair (v:V):Option (Int×Int):=(asTup v).bind fun l=>(two? l).bind fun p=>(asInt p.1).bind fun i=>(asInt p.2).map fun j=>(i,j)
noncomputable def prs?:List V→Option (List (Int×Int))
 | []=>some []
 | v::r=>(asPair v).bind fun p=>(prs? r).map fun l=>p::l
noncomputable def strs?:List V→Option (List Sm)
 | []=>some []
 | v::r=>(asStr v).bind fun p=>(strs? r).map fun l=>p::l
noncomputable def vIn (x:V) (vs:List V):Option Bool:=(asPair x).bind fun p=>(prs? vs).map fun l=>l.any (fun uu=>uu==p)
noncomputable def plainKey:V→Bool
 | .str _=>true
 | .int _=>true
 | _=>false
noncomputable def isKey (v:V):Bool:=plainKey v||(asPair v).isSome
noncomputable def kEq (x y:V):Option Bool:=match x with
 | .str a=>(asStr y).map fun b=>a==b
 | .int a=>(asInt y).map fun b=>a==b
 | x=>(asPair x).bind fun p=>(asPair y).map fun q=>p==q
noncomputable def dGet (k:V):List (V×V)→Option (Option V)
 | []=>if isKey k then some .none else .none
 | p::r=>(kEq p.1 k).bind fun b=>match b with
  | true=>some (some p.2)
  | false=>dGet k r
noncomputable def dPut (k v:V):List (V×V)→Option (List (V×V))
 | []=>if isKey k then some [(k,v)] else .none
 | p::r=>(kEq p.1 k).bind fun b=>match b with
  | true=>some ((p.1,v)::r)
  | false=>(dPut k v r).map fun r'=>p::r'
noncomputable def asSeq (σ:St):V→Option (List V)
 | .tup vs=>some vs
 | .lst vs=>some vs
 | .ref n=>(σ.objs n).bind oList
 | _=>.none
noncomputable def asDict (σ:St):V→Option (List (V×V))
 | .dct kvs=>some kvs
 | .ref n=>(σ.objs n).bind oDict
 | _=>.none
noncomputable def asInst (σ:St):V→Option (Gl×List (Nm×V))
 | .inst c fs=>some (c,fs)
 | .ref n=>(σ.objs n).bind oInst
 | _=>.none
noncomputable def isListRef (σ:St) (v:V):Bool:=(((asRef v).bind σ.objs).bind oList).isSome
noncomputable def asIter0 (v:V):Option (List V):=match v with
 | .bytes b=>some (b.map fun x=>.int x.toNat)
 | .rng n=>if 0≤n then some ((List.range n.toNat).map fun(i:Nat)=>.int i) else .none
 | .dct kvs=>if kvs.all (fun p=>plainKey p.1) then some (kvs.map (fun uu=>uu.1)) else .none
 | .tup vs=>some vs
 | .lst vs=>some vs
 | _=>.none
noncomputable def few (vs:List V):Option (List V):=if vs.length≤1000000 then some vs else .none
noncomputable def asIter (v:V):Option (List V):=(asIter0 v).bind few
noncomputable def asSeqF (σ:St) (v:V):Option (List V):=(asSeq σ v).bind few
noncomputable def truthy (v:V):Option Bool:=match v with
 | .bool b=>some b
 | .tup vs=>if vs.length≤1000000 then some (!vs.isEmpty) else .none
 | .lst vs=>if vs.length≤1000000 then some (!vs.isEmpty) else .none
 | _=>.none
noncomputable def smallI (i:Int):Bool:=i.natAbs < 2 ^ 63
noncomputable def binI (op:BOp) (a b:Int):Option V:=match op with
 | .add=>some (.int (a + b))
 | .sub=>some (.int (a - b))
 | .mul=>if smallI a||smallI b then some (.int (a * b)) else .none
 | .fdiv=>if b !=0&&b.natAbs < 1000000 then some (.int (a.fdiv b)) else .none
 | .mod=>if b !=0 then some (.int (a.fmod b)) else .none
 | .pow=>if 0≤b&&b≤1000&&smallI a then some (.int (a ^ b.toNat)) else .none
noncomputable def binV (op:BOp) (x y:V):Option V:=match x with
 | .int a=>(asInt y).bind fun b=>binI op a b
 | .bytes a=>match op with
  | .add=>(asBytes y).bind fun b=>if a.length + b.length≤1000 then some (.bytes (a++b)) else .none
  | _=>.none
 | .lst a=>match op with
  | .add=>(asLst y).bind fun b=>if a.length + b.length≤100000 then some (.lst (a++b)) else .none
  | _=>.none
 | .tup l=>match op with
  | .mul=>(one? l).bind fun a=>(asInt y).bind fun b=>if 2≤b&&b≤100 then some (.tup (List.replicate b.toNat a)) else .none
  | _=>.none
 | _=>.none
noncomputable def isCls (c:Gl):Bool:= !(fieldsOf c).isEmpty
noncomputable abbrev Kind:=Option Gl×List (Gl×Bool)
noncomputable def kL:Kind:=(.none,[((.G .x6),false),((.I .x5),false),((.J .x0),true)])
noncomputable def kD:Kind:=(.none,[((.G .x6),false),((.I .x5),false),((.J .x0),false),((.H .x0),true)])
noncomputable def kI (c:Gl):Kind:=(some c,[((.G .x6),false),((.I .x5),false),((.J .x0),false),((.H .x0),false)])
noncomputable def oKind (m:MObj):Option Kind:=match m with
 | .inst c _=>if isCls c then some (kI c) else .none
 | .list _=>some kL
 | .dict _=>some kD
 | .tab _=>.none
noncomputable def kindV (σ:St) (v:V):Option Kind:=match v with
 | .none=>some (.none,[((.H .x0),false)])
 | .int _=>some (.none,[((.G .x6),false),((.I .x5),true)])
 | .lst _=>some kL
 | .dct _=>some kD
 | .inst c _=>if isCls c then some (kI c) else .none
 | .ref n=>(σ.objs n).bind oKind
 | _=>.none
noncomputable def isInst (σ:St) (v:V) (t:Gl):Option Bool:=(kindV σ v).bind fun k=>match isCls t with
 | true=>some (k.1==some t)
 | false=>at? t k.2
noncomputable def cmpI (op:COp) (a b:Int):Option Bool:=match op with
 | .lt=>some (decide (a < b))
 | .le=>some (decide (a≤b))
 | .gt=>some (decide (b < a))
 | .ge=>some (decide (b≤a))
 | _=>.none
noncomputable def isNone:V→Bool | .none=>true | _=>false
noncomputable def memV (σ:St) (a b:V):Option Bool:=match asDict σ b with
 | some kvs=>(dGet a kvs).map fun r=>r.isSome
 | .none=>match asStr a with
  | some x=>(asTup b).bind fun vs=>(strs? vs).map fun l=>l.any (fun uu=>uu==x)
  | .none=>(asSeq σ b).bind fun vs=>vIn a vs
noncomputable def cmpV (σ:St) (op:COp) (a b:V):Option Bool:=match op with
 | .eq=>veq a b
 | .ne=>(veq a b).map fun r=> !r
 | .is_=>if isNone b then some (isNone a) else .none
 | .isnot=>if isNone b then some (!isNone a) else .none
 | .in_=>memV σ a b
 | .notin=>(asStr a).bind fun s=>(asDict σ b).bind fun kvs=>(dGet (.str s) kvs).map fun r=> !r.isSome
 | op=>(asInt a).bind fun i=>(asInt b).bind fun j=>cmpI op i j
noncomputable def idx? (i:Int) (n:Nat):Option Nat:=if n≤1000000 then PySem.seqIndex? i n else .none
noncomputable def subV (σ:St) (a i:V):Option V:=match a with
 | .str s=>(asInt i).bind fun k=>(smChars s).bind fun cs=>(idx? k cs.length).bind fun j=>cs[j]?.map .str
 | .bytes b=>(asInt i).bind fun k=>if 0≤k&&k < b.length&&b.length≤1000000 then some (.int (b.getD k.toNat 0).toNat) else .none
 | a=>match asDict σ a with
  | some kvs=>(dGet i kvs).bind id
  | .none=>(asSeq σ a).bind fun vs=>(asInt i).bind fun k=>(idx? k vs.length).bind fun j=>vs[j]?
noncomputable def bound?:Option V→Option (Option Int)
 | .none=>some .none
 | some v=>(asInt v).bind fun k=>if 0≤k then some (some k) else .none
noncomputable def cut (vs:List V) (lo hi:Option Int):List V:=
 let l:=(match lo with | some k=>k.toNat | .none=>0)
 let vs':=(match hi with | some k=>vs.take k.toNat | .none=>vs)
 vs'.drop l
noncomputable def frzOne (σ:St):V→V×St
 | .ref n=>match σ.objs n with
  | some (.list vs)=>(.lst vs,σ.del n)
  | some (.dict kvs)=>(.dct kvs,σ.del n)
  | some (.inst c fs)=>(.inst c fs,σ.del n)
  | _=>(.ref n,σ)
 | v=>(v,σ)
noncomputable def frzFs (σ:St):List (Nm×V)→List (Nm×V)×St
 | []=>([],σ)
 | (n,v)::r=>let (v',σ'):=frzOne σ v;let (r',σ''):=frzFs σ' r;((n,v')::r',σ'')
noncomputable def frz (σ:St):V→V×St
 | .inst c fs=>let (fs',σ'):=frzFs σ fs;(.inst c fs',σ')
 | v=>frzOne σ v
noncomputable def pairs?:List V→Option (List (V×V))
 | []=>some []
 | v::r=>(asTup v).bind fun l=>(two? l).bind fun p=>(pairs? r).map fun r'=>p::r'
noncomputable def tupKeys:List (V×V)→Bool
 | []=>true
 | p::r=>match asPair p.1 with
  | some k=> !(r.any fun q=>asPair q.1==some k)&&tupKeys r
  | .none=>false
noncomputable def toBytes:List V→Option (List UInt8)
 | []=>some []
 | v::r=>(asInt v).bind fun i=>if 0≤i&&i < 256 then (toBytes r).map fun b=>UInt8.ofNat i.toNat::b else .none
noncomputable def allB:List V→Option Bool
 | []=>some true
 | v::r=>(asBool v).bind fun b=>(allB r).map fun q=>b&&q
noncomputable def bLen (v:V) (σ:St) (K:KV):Prop:=match v with
 | .str s=>O (smChars s) fun cs=>K (.int cs.length) σ
 | v=>O (asSeqF σ v) fun vs=>K (.int vs.length) σ
noncomputable def bRange (v:V) (σ:St) (K:KV):Prop:=O (asInt v) fun n=>Gx (n < 2 ^ 62) (K (.rng n) σ)
noncomputable def bList (v:V) (σ:St) (K:KV):Prop:=O (asSeqF σ v) fun vs=>K (.lst vs) σ
noncomputable def bDict (v:V) (σ:St) (K:KV):Prop:=match asDict σ v with
 | some kvs=>Gx (kvs.all (fun p=>plainKey p.1)&&kvs.length≤1000000) (K (.ref σ.next) (σ.new (.dict kvs)))
 | .none=>O (asLst v) fun vs=>Gx (vs.length≤1000) (O (pairs? vs) fun ps=>Gx (tupKeys ps) (K (.ref σ.next) (σ.new (.dict ps))))
noncomputable def bBytes (v:V) (σ:St) (K:KV):Prop:=O (asLst v) fun vs=>Gx (vs.length≤1000000) (O (toBytes vs) fun b=>K (.bytes b) σ)
noncomputable def bIsi (v t:V) (σ:St) (K:KV):Prop:=O (asGlob t) fun t=>O (isInst σ v t) fun b=>K (.bool b) σ
noncomputable def bMax (v w:V) (σ:St) (K:KV):Prop:=O (asInt v) fun a=>O (asInt w) fun b=>K (.int (if a < b then b else a)) σ
noncomputable def bSort (v:V) (σ:St) (K:KV):Prop:=O (asLst v) fun l=>match one? l with
 | some a=>O (asStr a) fun a=>K (.lst [.str a]) σ
 | .none=>O (two? l) fun p=>O (asStr p.1) fun a=>O (asStr p.2) fun b=>O (smLt b a) fun q=>K (.lst (if q then [.str b,.str a] else [.str a,.str b])) σ
noncomputable def bAll (v:V) (σ:St) (K:KV):Prop:=O (asLst v) fun vs=>Gx (vs.length≤1000000) (O (allB vs) fun b=>K (.bool b) σ)
noncomputable abbrev Blt:=List V→St→KV→Prop
noncomputable def b1 (f:V→St→KV→Prop):Blt:=fun l σ K=>O (one? l) fun v=>f v σ K
noncomputable def b2 (f:V→V→St→KV→Prop):Blt:=fun l σ K=>O (two? l) fun p=>f p.1 p.2 σ K
noncomputable def bTab:List (Gl×Blt):=[((.I .xc),b1 bLen),((.J .xb),b1 bRange),((.J .x0),b1 bList),((.H .x0),b1 bDict),((.G .x7),b1 bBytes),((.I .x8),b2 bIsi),((.J .x2),b2 bMax),((.K .x3),b1 bSort),((.G .x3),b1 bAll)]
noncomputable def bcall (g:Gl) (args:List V) (σ:St) (K:KV):Prop:=O (at? g bTab) fun f=>f args σ K
noncomputable def listOf (σ:St) (v:V) (K:Nat→List V→Prop):Prop:=O (asRef v) fun n=>O (σ.objs n) fun o=>O (oList o) fun vs=>Gx (vs.length≤1000000) (K n vs)
noncomputable def mAppend (v:V) (args:List V) (σ:St) (K:KV):Prop:=O (one? args) fun x=>listOf σ v fun n vs=>K .none (σ.set n (.list (vs++[x])))
noncomputable def mExtend (v:V) (args:List V) (σ:St) (K:KV):Prop:=O (one? args) fun x=>O (asLst x) fun ws=>listOf σ v fun n vs=>Gx (vs.length + ws.length≤1000000) (K .none (σ.set n (.list (vs++ws))))
noncomputable def mPop (v:V) (args:List V) (σ:St) (K:KV):Prop:=Gx args.isEmpty (listOf σ v fun n vs=>O vs.getLast? fun x=>K x (σ.set n (.list vs.dropLast)))
noncomputable def mGet (v:V) (args:List V) (σ:St) (K:KV):Prop:=O (asDict σ v) fun kvs=>match args with
 | k::r=>O (dGet k kvs) fun x=>match r with
  | []=>K (x.getD .none) σ
  | d::r=>Gx r.isEmpty (K (x.getD d) σ)
 | []=>False
noncomputable def mTab:List (Nm×Bool×(V→Blt)):=[((.A .x2),true,mAppend),((.C .x0),true,mExtend),((.H .x2),true,mPop),((.D .x3),false,mGet)]
noncomputable def mcallB (v:V) (m:Nm) (args:List V) (σ:St) (K:KV):Prop:=O (nat? m mTab) fun f=>f.2 v args σ K
noncomputable def strKeys:List (V×V)→Bool
 | []=>true
 | p::r=>match asStr p.1 with
  | some k=> !(r.any fun q=>asStr q.1==some k)&&strKeys r
  | .none=>false
noncomputable def sliceV (m:Bool) (v:V) (vs:List V) (l h:Option Int) (σ:St) (K:KV):Prop:=match v with
 | .tup _=>O l fun k=>Gx (h.isNone&&1≤k&&k≤vs.length) (K (.tup (vs.drop k.toNat)) σ)
 | _=>match m with
  | true=>K (.ref σ.next) (σ.new (.list (cut vs l h)))
  | false=>K (.lst (cut vs l h)) σ
structure W (m:KV→Prop) (K:KV):Prop where
 run:m K
structure W3 (m:KF→Prop) (K:KF):Prop where
 run:m K
structure WL (m:(List V→St→Prop)→Prop) (K:List V→St→Prop):Prop where
 run:m K
structure Wr where
 w:(KV→Prop)→KV→Prop
 w3:(KF→Prop)→KF→Prop
 wl:((List V→St→Prop)→Prop)→(List V→St→Prop)→Prop
noncomputable abbrev Call:=V→List V→St→KV→Prop
noncomputable def compLoop (wr:Wr) (x:Nm) (cond:Option (Fr→St→KV→Prop)) (elt:Fr→St→KV→Prop) (fr:Fr):List V→St→(List V→St→Prop)→Prop
 | [],σ,K=>K [] σ
 | v::r,σ,K=>match cond with
  | .none=>elt (fr.set x v) σ fun y σ=>wr.wl (compLoop wr x cond elt fr r σ) fun ys σ=>K (y::ys) σ
  | some c=>c (fr.set x v) σ fun b σ=>O (truthy b) fun b=>match b with
   | true=>elt (fr.set x v) σ fun y σ=>wr.wl (compLoop wr x cond elt fr r σ) fun ys σ=>K (y::ys) σ
   | false=>wr.wl (compLoop wr x cond elt fr r σ) K
noncomputable def isCap (n:Nm):Bool:=n==(.H .x7)||n==(.C .xa)
noncomputable def caps (fr:Fr):List Nm→Option (List (Nm×V))
 | []=>some []
 | n::r=>match getL? n fr.vars,caps fr r with
  | some v,some l=>some ((n,v)::l)
  | _,_=>.none
noncomputable def lamV (k:Lm) (σ:St):Option St:=match σ.objs 0 with
 | some (.tab l)=>if l.contains k then .none else some (σ.set 0 (.tab (k::l)))
 | _=>.none
noncomputable def callable:V→Bool
 | .glob g=>isBi g||isTop g
 | .clo _ _=>true
 | _=>false
noncomputable def callV (wr:Wr) (call:Call) (f:V) (args:List V) (σ:St) (K:KV):Prop:=match f with
 | .glob g=>match isBi g with
  | true=>wr.w (bcall g args σ) K
  | false=>wr.w (call f args σ) K
 | f=>wr.w (call f args σ) K
set_option genCtorIdx false in
inductive Callee
 | fn (f:V) (first:List V)
 | bi
noncomputable def asClo:V→Option V
 | .clo k cs=>some (.clo k cs)
 | _=>.none
noncomputable def calleeI (v:V) (c:Gl) (fs:List (Nm×V)) (m:Nm):Option Callee:=match methOf c m with
 | some f=>if (getL? m fs).isNone then some (.fn (.glob f) [v]) else .none
 | .none=>if isField c m then (getL? m fs).bind fun x=>(asClo x).map fun f=>.fn f [] else .none
noncomputable def calleeV (σ:St) (v:V) (m:Nm):Option Callee:=match asInst σ v with
 | some p=>calleeI v p.1 p.2 m
 | .none=>(nat? m mTab).bind fun f=>if (match f.1 with | true=>isListRef σ v | false=>(asDict σ v).isSome) then some .bi else .none
noncomputable def calleeDo (wr:Wr) (call:Call) (v:V) (m:Nm) (args:List V) (σ:St) (c:Callee) (K:KV):Prop:=match c with
 | .fn f first=>wr.w (call f (first++args) σ) K
 | .bi=>wr.w (mcallB v m args σ) K
mutual
noncomputable def evalC (wr:Wr) (call:Call):X→Fr→St→(V→St→Prop)→Prop
 | .junk,_,_,_=>False
 | .lit v,_,σ,K=>K v σ
 | .loc n,fr,σ,K=>O (getL? n fr.vars) fun v=>K v σ
 | .glob g,_,σ,K=>K (gval g) σ
 | .attr x n,fr,σ,K=>evalC wr call x fr σ fun v σ=>O (asInst σ v) fun p=>O (if isField p.1 n then getL? n p.2 else .none) fun r=>K r σ
 | .call f args,fr,σ,K=>evalC wr call f fr σ fun v σ=>match callable v with
  | true=>evalCs wr call args fr σ fun vs σ=>callV wr call v vs σ K
  | false=>False
 | .meth x n args,fr,σ,K=>evalC wr call x fr σ fun v σ=>O (calleeV σ v n) fun c=>evalCs wr call args fr σ fun vs σ=>calleeDo wr call v n vs σ c K
 | .bin op a b,fr,σ,K=>evalC wr call a fr σ fun v σ=>evalC wr call b fr σ fun w σ=>O (binV op v w) fun r=>K r σ
 | .cmp op a b,fr,σ,K=>evalC wr call a fr σ fun v σ=>evalC wr call b fr σ fun w σ=>O (cmpV σ op v w) fun r=>K (.bool r) σ
 | .and_ xs,fr,σ,K=>evalAndC wr call xs fr σ K
 | .or_ xs,fr,σ,K=>evalOrC wr call xs fr σ K
 | .not_ x,fr,σ,K=>evalC wr call x fr σ fun v σ=>O (truthy v) fun b=>K (.bool (!b)) σ
 | .neg x,fr,σ,K=>evalC wr call x fr σ fun v σ=>O (asInt v) fun i=>K (.int (-i)) σ
 | .ite_ c a b,fr,σ,K=>evalC wr call c fr σ fun v σ=>O (truthy v) fun t=>match t with
  | true=>evalC wr call a fr σ K
  | false=>evalC wr call b fr σ K
 | .sub a i,fr,σ,K=>evalC wr call a fr σ fun v σ=>evalC wr call i fr σ fun w σ=>O (subV σ v w) fun r=>K r σ
 | .slice m a lo hi,fr,σ,K=>evalC wr call a fr σ fun v σ=>evalOC wr call lo fr σ fun l σ=>evalOC wr call hi fr σ fun h σ=>O (bound? l) fun l=>O (bound? h) fun h=>O (asSeqF σ v) fun vs=>sliceV m v vs l h σ K
 | .list m xs,fr,σ,K=>evalCs wr call xs fr σ fun vs σ=>match m with
  | true=>K (.ref σ.next) (σ.new (.list vs))
  | false=>K (.lst vs) σ
 | .tup xs,fr,σ,K=>evalCs wr call xs fr σ fun vs σ=>K (.tup vs) σ
 | .dict m kvs,fr,σ,K=>evalKVC wr call kvs fr σ fun ps σ=>match strKeys ps with
  | true=>(match m with
   | true=>K (.ref σ.next) (σ.new (.dict ps))
   | false=>K (.dct ps) σ)
  | false=>False
 | .comp elt x it cond,fr,σ,K=>evalC wr call it fr σ fun v σ=>O (if fr.me.isNone then asIter v else .none) fun vs=>
   wr.wl (compLoop wr x (match cond with | .none=>.none | some c=>some (fun f s=>evalC wr call c f s)) (fun f s=>evalC wr call elt f s) fr vs σ) fun ys σ=>K (.lst ys) σ
 | .lam k,fr,σ,K=>O (caps fr (lamFree k)) fun cs=>O (lamV k σ) fun σ=>K (.clo k cs) σ
 | .frz x,fr,σ,K=>evalC wr call x fr σ fun v σ=>K (frz σ v).1 (frz σ v).2
noncomputable def evalCs (wr:Wr) (call:Call):List X→Fr→St→(List V→St→Prop)→Prop
 | [],_,σ,K=>K [] σ
 | x::xs,fr,σ,K=>evalC wr call x fr σ fun v σ=>evalCs wr call xs fr σ fun vs σ=>K (v::vs) σ
noncomputable def evalAndC (wr:Wr) (call:Call):List X→Fr→St→(V→St→Prop)→Prop
 | [],_,_,_=>False
 | x::r,fr,σ,K=>match r with
  | []=>evalC wr call x fr σ K
  | _::_=>evalC wr call x fr σ fun v σ=>O (truthy v) fun b=>match b with
   | true=>evalAndC wr call r fr σ K
   | false=>K v σ
noncomputable def evalOrC (wr:Wr) (call:Call):List X→Fr→St→(V→St→Prop)→Prop
 | [],_,_,_=>False
 | x::r,fr,σ,K=>match r with
  | []=>evalC wr call x fr σ K
  | _::_=>evalC wr call x fr σ fun v σ=>O (truthy v) fun b=>match b with
   | true=>K v σ
   | false=>evalOrC wr call r fr σ K
noncomputable def evalOC (wr:Wr) (call:Call):Option X→Fr→St→(Option V→St→Prop)→Prop
 | .none,_,σ,K=>K .none σ
 | some x,fr,σ,K=>evalC wr call x fr σ fun v σ=>K (some v) σ
noncomputable def evalKVC (wr:Wr) (call:Call):List (X×X)→Fr→St→(List (V×V)→St→Prop)→Prop
 | [],_,σ,K=>K [] σ
 | (k,x)::r,fr,σ,K=>evalC wr call k fr σ fun a σ=>evalC wr call x fr σ fun b σ=>evalKVC wr call r fr σ fun ps σ=>K ((a,b)::ps) σ
end
noncomputable def asgN (n:Nm) (v:V) (fr:Fr):Option Fr:=if isCap n&&(getL? n fr.vars).isSome then .none else some (fr.set n v)
noncomputable def asgNs:List Nm→List V→Fr→Option Fr
 | [],_,fr=>some fr
 | n::ns,v::vs,fr=>(asgN n v fr).bind fun fr=>asgNs ns vs fr
 | _::_,[],_=>.none
noncomputable def setFld (σ:St) (o:V) (n:Nm) (v:V):Option St:=(asRef o).bind fun r=>(σ.objs r).bind fun m=>match m with
 | .inst c fs=>if isField c n&&fs.length≤1000 then some (σ.set r (.inst c (putL n v fs))) else .none
 | _=>.none
noncomputable def setSub (σ:St) (o k v:V):Option St:=(asRef o).bind fun r=>(σ.objs r).bind fun m=>match m with
 | .dict kvs=>if plainKey k&&kvs.length≤1000000 then (dPut k v kvs).map fun d=>σ.set r (.dict d) else .none
 | .list vs=>(asInt k).bind fun j=>if 0≤j then (idx? j vs.length).map fun q=>σ.set r (.list (vs.set q v)) else .none
 | _=>.none
noncomputable def setMe (fr:Fr) (n:Nm) (v:V):Option Fr:=match fr.me with
 | some (c,fs)=>if isField c n&&fs.length≤1000 then some ⟨fr.vars,some (c,putL n v fs)⟩ else .none
 | .none=>.none
mutual
noncomputable def asgTC (wr:Wr) (call:Call):T→V→Fr→St→(Fr→St→Prop)→Prop
 | .nm n,v,fr,σ,K=>O (asgN n v fr) fun fr=>K fr σ
 | .me n,v,fr,σ,K=>O (setMe fr n v) fun fr=>K fr σ
 | .attr x n,v,fr,σ,K=>evalC wr call x fr σ fun o σ=>O (setFld σ o n v) fun σ=>K fr σ
 | .sub x i,v,fr,σ,K=>evalC wr call x fr σ fun o σ=>evalC wr call i fr σ fun k σ=>O (setSub σ o k v) fun σ=>K fr σ
 | .tup ts,v,fr,σ,K=>O (asSeq σ v) fun vs=>Gx (vs.length=ts.length) (asgTsC wr call ts vs fr σ K)
noncomputable def asgTsC (wr:Wr) (call:Call):List T→List V→Fr→St→(Fr→St→Prop)→Prop
 | [],_,fr,σ,K=>K fr σ
 | t::ts,vs,fr,σ,K=>match vs with
  | v::vs=>asgTC wr call t v fr σ fun fr σ=>asgTsC wr call ts vs fr σ K
  | []=>False
end
noncomputable def forLoop (wr:Wr) (n:Nm) (body:Fr→St→KF→Prop):List V→Fr→St→KF→Prop
 | [],fr,σ,K=>K .next fr σ
 | v::r,fr,σ,K=>O (asgN n v fr) fun fr=>body fr σ fun fl fr σ=>match fl with
  | .next=>wr.w3 (forLoop wr n body r fr σ) K
  | .ret v=>K (.ret v) fr σ
noncomputable def whileLoop (wr:Wr) (test:Fr→St→KV→Prop) (body:Fr→St→KF→Prop):Nat→Fr→St→KF→Prop
 | 0,_,_,_=>False
 | n + 1,fr,σ,K=>test fr σ fun v σ=>O (truthy v) fun b=>match b with
  | true=>body fr σ fun fl fr σ=>match fl with
   | .next=>wr.w3 (whileLoop wr test body n fr σ) K
   | .ret v=>K (.ret v) fr σ
  | false=>K .next fr σ
mutual
noncomputable def execC (wr:Wr) (call:Call):S→Fr→St→(Fl→Fr→St→Prop)→Prop
 | .junk,_,_,_=>False
 | .pass,fr,σ,K=>K .next fr σ
 | .ghost n,fr,σ,K=>O (getL? n fr.vars) fun v=>K .next (fr.set n (frz σ v).1) (frz σ v).2
 | .expr x,fr,σ,K=>evalC wr call x fr σ fun uu σ=>K .next fr σ
 | .ret o,fr,σ,K=>match o with
  | .none=>K (.ret .none) fr σ
  | some x=>evalC wr call x fr σ fun v σ=>K (.ret v) fr σ
 | .asg t x,fr,σ,K=>evalC wr call x fr σ fun v σ=>asgTC wr call t v fr σ fun fr σ=>K .next fr σ
 | .asc y elt z it cond,fr,σ,K=>evalC wr call (.comp elt z it cond) fr σ fun v σ=>asgTC wr call (.nm y) v fr σ fun fr σ=>K .next fr σ
 | .swp a b m xs c,fr,σ,K=>evalC wr call (.tup [.list m xs,.lit c]) fr σ fun v σ=>O (asTup v) fun vs=>Gx (vs.length=2) (O (asgNs [b,a] vs.reverse fr) fun fr=>K .next fr σ)
 | .ife c a b,fr,σ,K=>evalC wr call c fr σ fun v σ=>O (truthy v) fun t=>match t with
  | true=>execCs wr call a fr σ K
  | false=>execCs wr call b fr σ K
 | .fr t it body,fr,σ,K=>evalC wr call it fr σ fun v σ=>O (asIter v) fun vs=>match t with
  | .nm n=>wr.w3 (forLoop wr n (fun f s=>execCs wr call body f s) vs fr σ) K
  | _=>match vs.isEmpty with
   | true=>K .next fr σ
   | false=>False
 | .whl c body,fr,σ,K=>wr.w3 (whileLoop wr (fun f s=>evalC wr call c f s) (fun f s=>execCs wr call body f s) 12 fr σ) K
noncomputable def execCs (wr:Wr) (call:Call):List S→Fr→St→(Fl→Fr→St→Prop)→Prop
 | [],fr,σ,K=>K .next fr σ
 | s::r,fr,σ,K=>execC wr call s fr σ fun fl fr σ=>match fl with
  | .next=>execCs wr call r fr σ K
  | .ret v=>K (.ret v) fr σ
end
noncomputable def FnDef.bind (d:FnDef) (args:List V):Option (List (Nm×V)):=
 if args.length=d.params.length then some (d.params.zip args)
 else if args.length + 1=d.params.length then d.defaults.getLast?.map fun x=>d.params.zip (args++[x]) else .none
noncomputable abbrev flV:Fl→V | .next=>.none | .ret v=>v
noncomputable def callG (wr:Wr):Nat→V→List V→St→KV→Prop
 | 0,_,_,_,_=>False
 | n + 1,f,args,σ,K=>match f with
  | .glob g=>match fdef g with
   | some d=>O (d.bind args) fun vars=>execCs wr (callG wr n) d.body ⟨vars,.none⟩ σ fun fl uu σ=>K (flV fl) σ
   | .none=>O (cinit g) fun p=>O (fdef p.1) fun d=>match p.2 with
    | true=>O (d.bind (.none::args)) fun vars=>execCs wr (callG wr n) d.body ⟨vars.tail,some (g,[])⟩ σ fun fl fr σ=>match fl with
     | .next=>O fr.me fun q=>K (.inst q.1 q.2) σ
     | .ret _=>False
    | false=>O (d.bind (.ref σ.next::args)) fun vars=>execCs wr (callG wr n) d.body ⟨vars,.none⟩ (σ.new (.inst g [])) fun fl uu σ'=>match fl with
     | .next=>K (.ref σ.next) σ'
     | .ret _=>False
  | .clo k cs=>match args.length=(lamParams k).length&&decide (cs.map (fun uu=>uu.1)=lamFree k) with
   | true=>evalC wr (callG wr n) (lamBody k) ⟨(lamParams k).zip args++cs,.none⟩ σ K
   | false=>False
  | _=>False
noncomputable abbrev wst:Wr:=⟨W,W3,WL⟩
noncomputable abbrev wid:Wr:=⟨fun m K=>m K,fun m K=>m K,fun m K=>m K⟩
noncomputable abbrev callF (n:Nat):V→List V→St→KV→Prop:=callG wst n
end E
end Mine
end
section
namespace Mine
namespace E
theorem O_iff {α:Type} {m:Option α} {K:α→Prop}:O m K↔∃ a,m=some a∧K a:=by
 cases m with
 | none=>exact⟨fun h=>h.elim,fun⟨_,h,_⟩=>by cases h⟩
 | some a=>exact⟨fun h=>⟨a,rfl,h⟩,fun⟨_,h,k⟩=>by cases h;exact k⟩
theorem O_of {α:Type} {m:Option α} {a:α} {K:α→Prop} (h:m=some a) (k:K a):O m K:=O_iff.mpr ⟨a,h,k⟩
theorem o_yes {b:Bool} {P Q:Prop}:b=true→P→(match b with | true=>P | false=>Q):=fun h k=>by
 subst h;exact k
theorem o_gd {b:Bool} {P:Prop} (h:b=true) (k:P):Gx b P:=(if_pos h).mpr k
theorem o_no {b:Bool} {P Q:Prop}:b=false→Q→(match b with | true=>P | false=>Q):=fun h k=>by
 subst h;exact k
theorem ex1 {α₁:Sort _} {p:α₁→Prop} {G:Prop} (z:∃ a,p a) (k:∀ a,p a→G):G:=z.elim k
theorem ex2 {α₁:Sort _} {α₂:Sort _} {p:α₁→α₂→Prop} {G:Prop} (z:∃ a b,p a b) (k:∀ a b,p a b→G):G:=z.elim fun a z=>ex1 z (k a)
theorem ex3 {α₁:Sort _} {α₂:Sort _} {α₃:Sort _} {p:α₁→α₂→α₃→Prop} {G:Prop} (z:∃ a b c,p a b c) (k:∀ a b c,p a b c→G):G:=z.elim fun a z=>ex2 z (k a)
theorem ex4 {α₁:Sort _} {α₂:Sort _} {α₃:Sort _} {α₄:Sort _} {p:α₁→α₂→α₃→α₄→Prop} {G:Prop} (z:∃ a b c d,p a b c d) (k:∀ a b c d,p a b c d→G):G:=z.elim fun a z=>ex3 z (k a)
theorem ex5 {α₁:Sort _} {α₂:Sort _} {α₃:Sort _} {α₄:Sort _} {α₅:Sort _} {p:α₁→α₂→α₃→α₄→α₅→Prop} {G:Prop} (z:∃ a b c d e,p a b c d e) (k:∀ a b c d e,p a b c d e→G):G:=z.elim fun a z=>ex4 z (k a)
theorem ex6 {α₁:Sort _} {α₂:Sort _} {α₃:Sort _} {α₄:Sort _} {α₅:Sort _} {α₆:Sort _} {p:α₁→α₂→α₃→α₄→α₅→α₆→Prop} {G:Prop} (z:∃ a b c d e f,p a b c d e f) (k:∀ a b c d e f,p a b c d e f→G):G:=z.elim fun a z=>ex5 z (k a)
theorem ex7 {α₁:Sort _} {α₂:Sort _} {α₃:Sort _} {α₄:Sort _} {α₅:Sort _} {α₆:Sort _} {α₇:Sort _} {p:α₁→α₂→α₃→α₄→α₅→α₆→α₇→Prop} {G:Prop} (z:∃ a b c d e f g,p a b c d e f g) (k:∀ a b c d e f g,p a b c d e f g→G):G:=z.elim fun a z=>ex6 z (k a)
theorem ex8 {α₁:Sort _} {α₂:Sort _} {α₃:Sort _} {α₄:Sort _} {α₅:Sort _} {α₆:Sort _} {α₇:Sort _} {α₈:Sort _} {p:α₁→α₂→α₃→α₄→α₅→α₆→α₇→α₈→Prop} {G:Prop} (z:∃ a b c d e f g h,p a b c d e f g h) (k:∀ a b c d e f g h,p a b c d e f g h→G):G:=z.elim fun a z=>ex7 z (k a)
theorem ex9 {α₁:Sort _} {α₂:Sort _} {α₃:Sort _} {α₄:Sort _} {α₅:Sort _} {α₆:Sort _} {α₇:Sort _} {α₈:Sort _} {α₉:Sort _} {p:α₁→α₂→α₃→α₄→α₅→α₆→α₇→α₈→α₉→Prop} {G:Prop} (z:∃ a b c d e f g h i,p a b c d e f g h i) (k:∀ a b c d e f g h i,p a b c d e f g h i→G):G:=z.elim fun a z=>ex8 z (k a)
theorem an2 {a b G:Prop} (z:a∧b) (k:a→b→G):G:=k z.1 z.2
theorem an3 {a b c G:Prop} (z:a∧b∧c) (k:a→b→c→G):G:=an2 z.2 (k z.1)
theorem an4 {a b c d G:Prop} (z:a∧b∧c∧d) (k:a→b→c→d→G):G:=an3 z.2 (k z.1)
theorem an5 {a b c d e G:Prop} (z:a∧b∧c∧d∧e) (k:a→b→c→d→e→G):G:=an4 z.2 (k z.1)
theorem an6 {a b c d e f G:Prop} (z:a∧b∧c∧d∧e∧f) (k:a→b→c→d→e→f→G):G:=an5 z.2 (k z.1)
theorem an7 {a b c d e f g G:Prop} (z:a∧b∧c∧d∧e∧f∧g) (k:a→b→c→d→e→f→g→G):G:=an6 z.2 (k z.1)
theorem an8 {a b c d e f g h G:Prop} (z:a∧b∧c∧d∧e∧f∧g∧h) (k:a→b→c→d→e→f→g→h→G):G:=an7 z.2 (k z.1)
theorem an9 {a b c d e f g h i G:Prop} (z:a∧b∧c∧d∧e∧f∧g∧h∧i) (k:a→b→c→d→e→f→g→h→i→G):G:=an8 z.2 (k z.1)
theorem e1a2 {α₁:Sort _} {p q:α₁→Prop} {G:Prop} (z:∃ a,p a∧q a) (k:∀ a,p a→q a→G):G:=ex1 z fun a z=>an2 z (k a)
theorem e2a2 {α₁:Sort _} {α₂:Sort _} {p q:α₁→α₂→Prop} {G:Prop} (z:∃ a b,p a b∧q a b) (k:∀ a b,p a b→q a b→G):G:=ex2 z fun a b z=>an2 z (k a b)
theorem e2a4 {α₁:Sort _} {α₂:Sort _} {p q r s:α₁→α₂→Prop} {G:Prop} (z:∃ a b,p a b∧q a b∧r a b∧s a b) (k:∀ a b,p a b→q a b→r a b→s a b→G):G:=ex2 z fun a b z=>an4 z (k a b)
theorem e1a3 {α₁:Sort _} {p q r:α₁→Prop} {G:Prop} (z:∃ a,p a∧q a∧r a) (k:∀ a,p a→q a→r a→G):G:=ex1 z fun a z=>an3 z (k a)
theorem e2a5 {α₁:Sort _} {α₂:Sort _} {p q r s t:α₁→α₂→Prop} {G:Prop} (z:∃ a b,p a b∧q a b∧r a b∧s a b∧t a b) (k:∀ a b,p a b→q a b→r a b→s a b→t a b→G):G:=ex2 z fun a b z=>an5 z (k a b)
theorem e2a3 {α₁:Sort _} {α₂:Sort _} {p q r:α₁→α₂→Prop} {G:Prop} (z:∃ a b,p a b∧q a b∧r a b) (k:∀ a b,p a b→q a b→r a b→G):G:=ex2 z fun a b z=>an3 z (k a b)
end E
end Mine
end
section
namespace Mine
namespace E
open PySem PySem.W PyProof.Rows
noncomputable def so (s:String):PySem.Str:=PySem.Str.ofString s
noncomputable def nstr:Nm→PySem.Str
 | .A i=>pk (so "") i [so "a",so "across",so "append",so "applied",so "at",so "b",so "bare",so "begin",so "c",so "cells",so "chars",so "clips",so "code"]
 | .B i=>pk (so "") i [so "codes",so "content_of",so "copied",so "count",so "ctm",so "cutting",so "d",so "default",so "depth",so "due",so "e",so "edges",so "entry"]
 | .C i=>pk (so "") i [so "extend",so "f",so "factor",so "feed",so "fetch",so "fill",so "first",so "floor",so "font",so "font_of",so "fonts",so "form",so "forms"]
 | .D i=>pk (so "") i [so "found",so "fresh",so "generation",so "get",so "gone",so "has_own",so "head",so "heads",so "height",so "held",so "here",so "hop",so "inner"]
 | .E i=>pk (so "") i [so "is_hex",so "is_path",so "key",so "kind",so "kinds",so "last",so "lent",so "limit",so "lookup",so "mark",so "marks",so "matrix",so "most"]
 | .F i=>pk (so "") i [so "name",so "names",so "negated",so "next_row",so "number",so "numbers",so "octet",so "octets",so "one",so "onto",so "open_forms",so "opener",so "operands"]
 | .G i=>pk (so "") i [so "operation",so "operations",so "other",so "own",so "paint",so "painter",so "pair",so "part",so "parts",so "path",so "pile",so "place",so "places"]
 | .H i=>pk (so "") i [so "plain",so "plus",so "pop",so "put",so "resources",so "right",so "row",so "rows",so "rule",so "script",so "second",so "self",so "set_matrix"]
 | .I i=>pk (so "") i [so "sheet",so "shelf",so "shifted",so "show",so "show_parts",so "sixes",so "size",so "skips",so "some",so "sort",so "sorts",so "space",so "spaces"]
 | .J i=>pk (so "") i [so "spacing",so "spot",so "spots",so "standard",so "start",so "state",so "stream",so "stretched",so "stroke",so "table",so "tape",so "text",so "things"]
 | .K i=>pk (so "") i [so "times",so "told",so "top",so "tour",so "trailer",so "turn",so "two",so "unicode",so "unit",so "up",so "upward",so "used",so "value"]
 | .L i=>pk (so "") i [so "values",so "wanted",so "way",so "whole",so "width",so "widths",so "word",so "x",so "y",so "zero",so "zz0",so "zz1",so "zz2"]
noncomputable def sstr:Sm→PySem.Str
 | .A i=>pk (so "?") i [so "",so "\"",so "'",so "A",so "AB",so "B",so "B*",so "BBox",so "BDC",so "BI",so "BT",so "CS",so "ColorSpace"]
 | .B i=>pk (so "?") i [so "DP",so "DeviceGray",so "Do",so "ET",so "ExtGState",so "F",so "FG",so "Font",so "Form",so "G",so "Image",so "J",so "K"]
 | .C i=>pk (so "?") i [so "M",so "Matrix",so "Pattern",so "Properties",so "Q",so "RG",so "Resources",so "S",so "SC",so "SCN",so "Shading",so "Subtype",so "T*"]
 | .D i=>pk (so "?") i [so "TD",so "TJ",so "TL",so "Tc",so "Td",so "Tf",so "Tj",so "Tm",so "Tr",so "Ts",so "Tw",so "Tz",so "W"]
 | .E i=>pk (so "?") i [so "W*",so "XObject",so "a",so "array",so "b",so "b*",so "c",so "cap",so "cm",so "cs",so "d",so "d0",so "d1"]
 | .F i=>pk (so "?") i [so "dash",so "dict",so "f",so "f*",so "font",so "g",so "gs",so "h",so "i",so "int",so "j",so "join",so "k"]
 | .G i=>pk (so "?") i [so "l",so "leading",so "m",so "miter",so "mode",so "n",so "name",so "null",so "number",so "property",so "q",so "re",so "real"]
 | .H i=>pk (so "?") i [so "rg",so "ri",so "rise",so "s",so "sc",so "scale",so "scn",so "sh",so "shown",so "size",so "spacing",so "stream",so "string"]
 | .I i=>pk (so "?") i [so "text",so "v",so "w",so "width",so "word_spacing",so "y",so "zz0",so "zz1",so "zz2",so "zz3",so "zz4",so "zz5",so "zz6"]
 | .J i=>pk (so "?") i [so "zz7",so "zz8",so "zz9",so "zz10",so "zz11",so "zz12",so "zz13",so "zz14",so "zz15",so "zz16",so "zz17",so "zz18",so "zz19"]
 | .K i=>pk (so "?") i [so "zz20",so "zz21",so "zz22",so "zz23",so "zz24",so "zz25",so "zz26",so "zz27",so "zz28",so "zz29",so "zz30",so "zz31",so "zz32"]
 | .L i=>pk (so "?") i [so "zz33",so "zz34",so "zz35",so "zz36",so "zz37",so "zz38",so "zz39",so "zz40",so "zz41",so "zz42",so "zz43",so "zz44",so "zz45"]
noncomputable def gaddr:Gl→Nat
 | .A i=>pk 0 i [1161,776,768,1163,167,87,115,94,108,150,913,891,896]
 | .B i=>pk 0 i [910,903,549,539,546,1159,332,339,346,0,0,0,455]
 | .C i=>pk 0 i [419,433,440,426,216,213,502,494,1162,1160,524,1165,1195]
 | .D i=>pk 0 i [1185,1192,936,933,287,277,284,1166,525,1158,403,367,1053]
 | .E i=>pk 0 i [1050,259,256,238,235,1164,570,567,605,588,595,602,689]
 | .F i=>pk 0 i [651,679,672,686,658,665,1392,1387,1352,1399,1359,1380,1366]
 | .G i=>pk 0 i [1373,1343,616,0,623,199,0,0,637,1220,707,1086,192]
 | .H i=>pk 0 i [0,1342,1323,1234,1302,1316,1241,1335,1064,1079,1071,518,700]
 | .I i=>pk 0 i [714,740,1328,480,466,0,747,305,0,298,1404,728,0]
 | .J i=>pk 0 i [0,1248,0,1295,1098,1255,1091,1309,1206,1227,1213,0,735]
 | .K i=>pk 0 i [1157,721,630,0,513,754,473,523,863,0,0,0,0]
 | .L i=>pk 0 i [0,0,0,0,0,0,0,0,0,0,0,0,0]
noncomputable def gvalue (g:Gl):PySem.Value:=(at? g [((.G .x3),.builtin "all"),((.G .x6),.type "bool"),((.G .x7),.type "bytes"),((.H .x0),.type "dict"),((.I .x5),.type "int"),((.I .x8),.builtin "isinstance"),((.I .xc),.builtin "len"),((.J .x0),.type "list"),((.J .x2),.builtin "max"),((.J .xb),.type "range"),((.K .x3),.builtin "sorted")]).getD (.ref (gaddr g))
noncomputable def gname:Gl→PySem.Str
 | .A i=>pk (so "") i [so "CLIP_WORDS",so "CMap",so "",so "COLOUR_WORDS",so "Decimal",so "",so "",so "",so "",so "",so "Font",so "",so ""]
 | .B i=>pk (so "") i [so "",so "",so "Glyph",so "",so "",so "LINE_WORDS",so "",so "",so "",so "MOST_FORMS_painter",so "MOST_FORMS_textout",so "MOST_HOPS",so "Matrix"]
 | .C i=>pk (so "") i [so "",so "",so "",so "",so "Name",so "",so "Operation",so "",so "PAINT_WORDS",so "PATH_WORDS",so "PLACED_WORDS",so "PLACE_WORDS",so "Painter"]
 | .D i=>pk (so "") i [so "",so "",so "Path",so "",so "Reference",so "",so "",so "SHOW_WORDS",so "SPACING_WORDS",so "STATE_WORDS",so "Shelf",so "",so "State"]
 | .E i=>pk (so "") i [so "",so "Stream",so "",so "String",so "",so "TEXT_WORDS",so "TextSheet",so "",so "TextState",so "",so "",so "",so "TextWalk"]
 | .F i=>pk (so "") i [so "",so "",so "",so "",so "",so "",so "_law_content",so "_law_deed",so "_law_draw",so "_law_due",so "_law_pair",so "_law_setting",so "_law_six"]
 | .G i=>pk (so "") i [so "_law_string",so "_law_texts",so "advance",so "all",so "along",so "at_one_scale",so "bool",so "bytes",so "check_operands",so "check_place",so "choose_font",so "copied_state",so "decimal_of"]
 | .H i=>pk (so "") i [so "dict",so "do_form",so "do_object",so "do_other",so "do_place",so "do_show",so "do_state",so "enter_form",so "first_colour",so "first_state",so "first_values",so "fits_kind",so "follow_placed"]
 | .I i=>pk (so "") i [so "follow_state",so "form_matrix",so "form_numbers",so "from_array",so "identity",so "int",so "is_form",so "is_number",so "isinstance",so "kind_of",so "law",so "lay_glyphs",so "len"]
 | .J i=>pk (so "") i [so "list",so "matrix_of",so "max",so "move_line",so "name_of",so "named",so "numbers_of",so "octets_of_row",so "paint_all",so "perform",so "put_mark",so "range",so "resource_dict"]
 | .K i=>pk (so "") i [so "set_text",so "sheet_glyphs",so "shown_glyphs",so "sorted",so "text_kinds",so "text_sheet",so "translation",so "used_names",so "width_in",so "",so "",so "",so ""]
 | .L i=>pk (so "") i [so "",so "",so "",so "",so "",so "",so "",so "",so "",so "",so "",so "",so ""]
noncomputable def smTab:List (PySem.Str×Sm):=smEv.map fun x=>(sstr x,x)
noncomputable def nmTab:List (PySem.Str×Nm):=nmEv.map fun x=>(nstr x,x)
noncomputable def glFn:List Gl:=[(.A .x1),(.A .x4),(.A .xa),(.B .x2),(.B .xc),(.C .x4),(.C .x6),(.C .xc),(.D .x2),(.D .x4),(.D .xa),(.D .xc),(.E .x1),(.E .x3),(.E .x6),(.E .x8),(.E .xc),(.F .x6),(.F .x7),(.F .x8),(.F .x9),(.F .xa),(.F .xb),(.F .xc),(.G .x0),(.G .x2),(.G .x4),(.G .x5),(.G .x8),(.G .x9),(.G .xa),(.G .xb),(.G .xc),(.H .x1),(.H .x2),(.H .x3),(.H .x4),(.H .x5),(.H .x6),(.H .x7),(.H .x8),(.H .x9),(.H .xa),(.H .xb),(.H .xc),(.I .x0),(.I .x1),(.I .x2),(.I .x3),(.I .x4),(.I .x6),(.I .x7),(.I .x9),(.I .xa),(.I .xb),(.J .x1),(.J .x3),(.J .x4),(.J .x5),(.J .x6),(.J .x7),(.J .x8),(.J .x9),(.J .xa),(.J .xc),(.K .x0),(.K .x1),(.K .x2),(.K .x4),(.K .x5),(.K .x6),(.K .x7),(.K .x8)]
noncomputable def glBi:List Gl:=[(.G .x3),(.G .x6),(.G .x7),(.H .x0),(.I .x5),(.I .x8),(.I .xc),(.J .x0),(.J .x2),(.J .xb),(.K .x3)]
noncomputable def glCo:List Gl:=[(.A .x0),(.A .x3),(.B .x5),(.B .x9),(.B .xa),(.B .xb),(.C .x8),(.C .x9),(.C .xa),(.C .xb),(.D .x7),(.D .x8),(.D .x9),(.E .x5),(.G .x1)]
theorem iAll_mem (i:I):i∈iAll:=by cases i<;>(repeat (first | exact .head _ | apply List.Mem.tail))
theorem nm_ev (g:Nm):g∈nmEv:=by cases g<;>exact List.mem_flatMap.mpr ⟨_,by repeat (first | exact .head _ | apply List.Mem.tail),List.mem_map.mpr ⟨_,iAll_mem _,rfl⟩⟩
theorem glP {p:Gl→Bool} (h:glEv.all p=true) (g:Gl):p g=true:=List.all_eq_true.mp h g (nm_ev g)
theorem nmP {p:Nm→Bool} (h:nmEv.all p=true) (g:Nm):p g=true:=List.all_eq_true.mp h g (nm_ev g)
theorem smP {p:Sm→Bool} (h:smEv.all p=true) (g:Sm):p g=true:=List.all_eq_true.mp h g (nm_ev g)
theorem glMem {g:Gl} {l:List Gl} (h:l.contains g=true):g∈l:=by simpa using h
theorem smTab_ok (a:Sm):smTab.lookup (sstr a)=some a:=of_decide_eq_true (smP (p:=fun a=>decide (smTab.lookup (sstr a)=some a)) (by decide +kernel) a)
theorem sstr_inj {a b:Sm} (h:sstr a=sstr b):a=b:=Option.some.inj (by rw [← smTab_ok a,← smTab_ok b,h])
theorem nmTab_ok (a:Nm):nmTab.lookup (nstr a)=some a:=of_decide_eq_true (nmP (p:=fun a=>decide (nmTab.lookup (nstr a)=some a)) (by decide +kernel) a)
theorem nstr_inj {a b:Nm} (h:nstr a=nstr b):a=b:=Option.some.inj (by rw [← nmTab_ok a,← nmTab_ok b,h])
noncomputable def lawTab:Addr:=1401
noncomputable def lawCode:Addr:=1403
noncomputable def nthE:List Expr→Nat→Expr
 | [],_=>.Constant .none 0 ⟨0,0,0,0⟩
 | e::_,0=>e
 | _::r,n + 1=>nthE r n
noncomputable def argN (i:Nat):Expr→Expr
 | .Call _ as _ _=>nthE as i
 | e=>e
noncomputable def asgV:Stmt→Expr
 | .Assign _ v _=>v
 | _=>.Constant .none 0 ⟨0,0,0,0⟩
noncomputable def callF0:Expr→Expr
 | .Call (.Attribute f _ _) _ _ _=>f
 | e=>e
noncomputable def lawBody (i:Nat):Stmt:=nth (fBody (tst 164)) i
noncomputable def lamAt:Lm→Expr
 | .l_0=>argN 2 (callF0 (asgV (lawBody 11)))
 | .l_1=>argN 4 (asgV (lawBody 12))
 | .l_2=>argN 5 (asgV (lawBody 12))
noncomputable def lamPos (k:Lm):Pos:=match lamAt k with
 | .Lambda _ _ _ p=>p
 | _=>⟨0,0,0,0⟩
noncomputable def LamOf (k:Lm) (fd:FuncData):Prop:=match lamAt k with
 | .Lambda args body sc _=>fd.params=args∧fd.body=.expr body∧fd.scope=sc∧fd.globals=mainGlobals∧fd.builtins=builtinsNs∧fd.defaults=.none∧fd.kwdefaults=.none
 | _=>False
noncomputable def F2 {α β:Type} (P:α→β→Prop):List α→List β→Prop
 | [],bs=>bs=[]
 | a::as,bs=>∃ b bs',bs=b::bs'∧P a b∧F2 P as bs'
section
variable {α β:Type} {P Q:α→β→Prop} {a:α} {b:β} {as:List α} {bs:List β}
theorem F2.nil:F2 P [] []:=rfl
theorem F2.cons (h:P a b) (k:F2 P as bs):F2 P (a::as) (b::bs):=⟨b,bs,rfl,h,k⟩
@[elab_as_elim] theorem F2.nilE {M:List β→Prop} (h:F2 P [] bs) (k:M []):M bs:=(h:bs=[])▸k
@[elab_as_elim] theorem F2.consE {M:List β→Prop} (h:F2 P (a::as) bs) (k:∀ b bs,P a b→F2 P as bs→M (b::bs)):M bs:=by
 obtain ⟨b,bs',rfl,h1,h2⟩:=h
 exact k b bs' h1 h2
theorem F2.imp (f:∀ a b,P a b→Q a b):∀ {as:List α} {bs:List β},F2 P as bs→F2 Q as bs
 | [],_,h=>h
 | _::_,_,h=>h.consE fun uu uu h1 h2=>.cons (f _ _ h1) (F2.imp f h2)
theorem F2.len:∀ {as:List α} {bs:List β},F2 P as bs→bs.length=as.length
 | [],_,h=>h.nilE rfl
 | _::_,_,h=>h.consE fun uu uu uu h2=>congrArg (fun uu=>uu + 1) (F2.len h2)
theorem F2.append {as':List α} {bs':List β} (k:F2 P as' bs'):∀ {as:List α} {bs:List β},F2 P as bs→F2 P (as++as') (bs++bs')
 | [],_,h=>h.nilE k
 | _::_,_,h=>h.consE fun uu uu h1 h2=>.cons h1 (F2.append k h2)
theorem F2.get {v:α}:∀ {as:List α} {bs:List β} {j:Nat},F2 P as bs→as[j]?=some v→∃ r,bs[j]?=some r∧P v r
 | [],_,_,_,e=>nomatch e
 | a::as,_,0,h,e=>h.consE fun b uu h1 uu=>⟨b,rfl,Option.some.inj e▸h1⟩
 | a::as,_,j + 1,h,e=>h.consE fun uu uu uu h2=>F2.get (j:=j) h2 e
theorem F2.take:∀ {as:List α} {bs:List β} (k:Nat),F2 P as bs→F2 P (as.take k) (bs.take k)
 | as,bs,0,_=>.nil
 | [],_,_ + 1,h=>h.nilE .nil
 | _::_,_,k + 1,h=>h.consE fun uu uu h1 h2=>.cons h1 (F2.take k h2)
theorem F2.drop:∀ {as:List α} {bs:List β} (k:Nat),F2 P as bs→F2 P (as.drop k) (bs.drop k)
 | _,_,0,h=>h
 | [],_,_ + 1,h=>h.nilE .nil
 | _::_,_,k + 1,h=>h.consE fun uu uu uu h2=>F2.drop k h2
theorem F2.replicate (h:P a b):∀ k,F2 P (List.replicate k a) (List.replicate k b)
 | 0=>.nil
 | k + 1=>.cons h (F2.replicate h k)
theorem F2.reverse:∀ {as:List α} {bs:List β},F2 P as bs→F2 P as.reverse bs.reverse
 | [],_,h=>h.nilE .nil
 | a::as,_,h=>h.consE fun b bs h1 h2=>by
  rw [List.reverse_cons,List.reverse_cons]
  exact .append (.cons h1 .nil) (F2.reverse h2)
end
inductive Own | no | fz (o:Obj) | pv (o:Obj) | mu (n:Nat)
structure Wd where
 pl:Addr→Own
 mu:Nat→Option (Addr×Addr)
structure Wd.Le (X:Addr→Prop) (W W':Wd):Prop where
 fz:∀ a o,W.pl a=.fz o→W'.pl a=.fz o
 mu:∀ n p,W.mu n=some p→W'.mu n=some p
 pv:∀ a o,W.pl a=.pv o→X a∨W'.pl a=.pv o
noncomputable abbrev nov:Addr→Prop:=fun uu=>False
noncomputable abbrev Wd.L0:Wd→Wd→Prop:=Wd.Le nov
section
variable {X Y:Addr→Prop} {W W' W'':Wd}
theorem Wd.Le.refl (W:Wd):W.Le X W:=⟨fun uu uu h=>h,fun uu uu h=>h,fun uu uu h=>.inr h⟩
theorem Wd.Le.trans (h:W.Le X W') (k:W'.Le X W''):W.Le X W'':=⟨fun a o x=>k.fz a o (h.fz a o x),fun n p x=>k.mu n p (h.mu n p x),fun a o x=>(h.pv a o x).elim .inl (k.pv a o)⟩
theorem Wd.Le.mono (h:W.Le X W') (f:∀ a o,W.pl a=.pv o→X a→Y a):W.Le Y W':=⟨h.fz,h.mu,fun a o x=>(h.pv a o x).imp (f a o x) id⟩
theorem Wd.Le.up (h:W.L0 W'):W.Le X W':=h.mono fun uu uu uu z=>z.elim
theorem Wd.Le.keep (h:W.L0 W') {a:Addr} {o:Obj} (e:W.pl a=.pv o):W'.pl a=.pv o:=(h.pv a o e).resolve_left id
end
noncomputable abbrev sK (w:World):=strKind pw₀ w
noncomputable abbrev iK (w:World):=intKind pw₀ w
noncomputable abbrev tK (w:World):=tupleKind (intKind pw₀ w)
noncomputable def IsDictT (w:World) (o:Obj) (xs:List (List Int×Addr×Value)):Prop:=
 ∃ es ep,o.ExactDict∧o.data=.dict es ep∧es.toList=xs.map (entryOfKey (tK w))∧(xs.map (fun uu=>uu.1)).Nodup
noncomputable abbrev VP:=V→Value→Prop
noncomputable def SV (v:V) (r:Value):Prop:=match v with
 | .int i=>∃ t,r=.int i t
 | .str s=>∃ t,r=.str (sstr s) t
 | _=>False
structure PKind (w:World) {I K:Type} [DecidableEq K] (knd:KeyKind pw₀ w K) (tv:I→V) (tk:I→K):Prop where
 eq:∀ i j,kEq (tv i) (tv j)=some (decide (tk i=tk j))
 fit:∀ i k,(kEq (tv i) k).isSome=true→∃ j,k=tv j
 is:∀ i r,SV (tv i) r↔knd.is (tk i) r=true
 plain:∀ i,plainKey (tv i)=true
noncomputable abbrev KR {I K:Type} (tv:I→V) (tk:I→K) (P:VP):List (V×V)→List (K×Value)→Prop:=F2 fun p q=>(∃ i,p.1=tv i∧q.1=tk i)∧P p.2 q.2
noncomputable abbrev KT (P:VP):List (V×V)→List (List Int×Addr×Value)→Prop:=F2 fun p q=>(∃ i j,p.1=.tup [.int i,.int j]∧q.1=[i,j])∧P p.1 (.ref q.2.1)∧P p.2 q.2.2
inductive DR (w:World) (P:VP) (kvs:List (V×V)) (o:Obj):Prop
 | p {I K:Type} [DecidableEq K] {knd:KeyKind pw₀ w K} {tv:I→V} {tk:I→K} (κ:PKind w knd tv tk) (rs:List (K×Value)):o.IsDictOf knd rs→KR tv tk P kvs rs→DR w P kvs o
 | t (xs:List (List Int×Addr×Value)):IsDictT w o xs→KT P kvs xs→DR w P kvs o
noncomputable def SeqO (P:VP) (T:String) (vs:List V) (o:Obj):Prop:=∃ rs k,o=⟨.type T,none,.seq rs k,#[]⟩∧F2 P vs rs.toList
noncomputable def FldO (w:World) (P:VP) (fs:List (Nm×V)) (o:Obj):Prop:=∃ rs,o.IsDictOf (sK w) rs∧F2 (fun p q=>q.1=nstr p.1∧P p.2 q.2) fs rs
noncomputable def CloO (W:Wd) (P:VP) (k:Lm) (cs:List (Nm×V)) (o:Obj):Prop:=∃ fd,o.data=.func fd∧LamOf k fd∧(∀ n v,getL? n cs=some v→∃ c o x,fd.closure.lookup (nstr n)=some c∧W.pl c=.fz o∧o.data=.cell (some x)∧P v x)∧
 ∃ c oc vs t,fd.code=.ref c∧W.pl c=.fz oc∧oc.data=.fields vs∧vs[1]?=some (.str fd.qualname t)
noncomputable def FzO (w:World) (W:Wd) (P:VP):V→Addr→Obj→Prop
 | .rng n,_,o=>∃ t u v,o={cls:=.type "range",dict:=none,data:=.fields #[.int 0 t,.int n u,.int 1 v],slots:=#[]}
 | .tup vs,_,o=>SeqO P "tuple" vs o
 | .lst vs,_,o=>SeqO P "list" vs o
 | .dct kvs,a,o=>(a==sysModules)=false∧DR w P kvs o
 | .inst c fs,_,o=>∃ d od,o=instObj (gaddr c) d∧W.pl d=.fz od∧FldO w P fs od
 | .clo k cs,_,o=>CloO W P k cs o
 | _,_,_=>False
noncomputable def VS (w:World) (W:Wd) (P:VP) (v:V) (r:Value):Prop:=match v with
 | .none=>r=.none
 | .bool b=>r=.bool b
 | .int i=>∃ t,r=.int i t
 | .str s=>∃ t,r=.str (sstr s) t
 | .bytes b=>∃ t,r=.bytes b.toArray t
 | .ref n=>∃ a d,r=.ref a∧W.mu n=some (a,d)
 | .glob g=>r=gvalue g
 | v=>∃ a o,r=.ref a∧W.pl a=.fz o∧FzO w W P v a o
noncomputable def VR (w:World) (W:Wd):VP:=fun v r=>∃ P:VP,(∀ v r,P v r→VS w W P v r)∧P v r
section
variable {w:World} {X:Addr→Prop} {W W':Wd} {P P':VP}
theorem DR.imp (f:∀ v r,P v r→P' v r) {kvs:List (V×V)} {o:Obj} (D:DR w P kvs o):DR w P' kvs o:=by
 cases D with
 | p κ rs a b=>exact .p κ rs a (b.imp fun uu uu h=>⟨h.1,f _ _ h.2⟩)
 | t rs a b=>exact .t rs a (b.imp fun uu uu h=>⟨h.1,f _ _ h.2.1,f _ _ h.2.2⟩)
theorem SeqO.imp (f:∀ v r,P v r→P' v r) {T:String} {vs:List V} {o:Obj}:SeqO P T vs o→SeqO P' T vs o:=fun⟨rs,k,e,h⟩=>⟨rs,k,e,h.imp f⟩
theorem FldO.imp (f:∀ v r,P v r→P' v r) {fs:List (Nm×V)} {o:Obj}:FldO w P fs o→FldO w P' fs o:=fun⟨rs,e,h⟩=>⟨rs,e,h.imp fun uu uu h=>⟨h.1,f _ _ h.2⟩⟩
theorem CloO.imp (L:W.Le X W') (f:∀ v r,P v r→P' v r) {k:Lm} {cs:List (Nm×V)} {o:Obj}:CloO W P k cs o→CloO W' P' k cs o:=by
 rintro ⟨fd,e,g,h,c,oc,vs,t,x,y,z⟩
 refine ⟨fd,e,g,fun n v q=>?_,c,oc,vs,t,x,L.fz _ _ y,z⟩
 refine ex3 (h n v q) fun c o x hh=>an4 hh fun a b d e=>?_
 exact⟨c,o,x,a,L.fz _ _ b,d,f _ _ e⟩
theorem FzO.imp (L:W.Le X W') (f:∀ v r,P v r→P' v r) {v:V} {a:Addr} {o:Obj} (h:FzO w W P v a o):FzO w W' P' v a o:=by
 cases v with
 | tup _=>exact SeqO.imp f h
 | lst _=>exact SeqO.imp f h
 | dct _=>exact⟨h.1,h.2.imp f⟩
 | inst _ _=>obtain ⟨d,od,e,g,h⟩:=h;exact⟨d,od,e,L.fz _ _ g,h.imp f⟩
 | clo _ _=>exact CloO.imp L f h
 | _=>exact h
theorem VS.imp (L:W.Le X W') (f:∀ v r,P v r→P' v r) {v:V} {r:Value} (h:VS w W P v r):VS w W' P' v r:=by
 cases v with
 | ref _=>obtain ⟨a,d,e,h⟩:=h;exact⟨a,d,e,L.mu _ _ h⟩
 | rng _=>obtain ⟨a,o,e,g,h⟩:=h;exact⟨a,o,e,L.fz _ _ g,FzO.imp L f h⟩
 | tup _=>obtain ⟨a,o,e,g,h⟩:=h;exact⟨a,o,e,L.fz _ _ g,FzO.imp L f h⟩
 | lst _=>obtain ⟨a,o,e,g,h⟩:=h;exact⟨a,o,e,L.fz _ _ g,FzO.imp L f h⟩
 | dct _=>obtain ⟨a,o,e,g,h⟩:=h;exact⟨a,o,e,L.fz _ _ g,FzO.imp L f h⟩
 | inst _ _=>obtain ⟨a,o,e,g,h⟩:=h;exact⟨a,o,e,L.fz _ _ g,FzO.imp L f h⟩
 | clo _ _=>obtain ⟨a,o,e,g,h⟩:=h;exact⟨a,o,e,L.fz _ _ g,FzO.imp L f h⟩
 | _=>exact h
theorem VR.out {v:V} {r:Value}:VR w W v r→VS w W (VR w W) v r:=fun⟨P,h,p⟩=>(h v r p).imp (.refl (X:=nov) W) fun uu uu q=>⟨P,h,q⟩
theorem VR.mk {v:V} {r:Value} (h:VS w W (VR w W) v r):VR w W v r:=⟨VS w W (VR w W),fun uu uu q=>q.imp (.refl (X:=nov) W) fun uu uu=>VR.out,h⟩
theorem VR.le (L:W.Le X W') {v:V} {r:Value}:VR w W v r→VR w W' v r:=fun⟨P,h,p⟩=>⟨P,fun v r q=>(h v r q).imp L fun uu uu q=>q,p⟩
theorem VR.les (L:W.Le X W'):∀ v r,VR w W v r→VR w W' v r:=fun uu uu=>.le L
end
end E
end Mine
end
section
namespace Mine
open PySem PySem.W PyProof.Rows
theorem frag_of {K:Frag} {T:BT} {n:Nat} {life:Life} (e:(K.all fun p=>Nat.blt p.1 n&&(match p.2.data with | .freed=>false | _=>true))=true) (g:K.map (fun p=>T.get p.1)=K.map fun p=>some p.2):K.In (absHeap T n life):=by
 refine Frag.in_of rfl ?_
 rw [List.map_map]
 apply List.map_congr_left
 intro p hp
 have h1:=List.all_eq_true.mp e p hp
 have h2:T.get p.1=some p.2:=by
  obtain ⟨i,hi,rfl⟩:=List.mem_iff_getElem.mp hp
  have:=congrArg (fun l=>l[i]?) g
  simpa [hi] using this
 simp only [Bool.and_eq_true] at h1
 have h3:p.1 + 1≤n:=Nat.le_of_ble_eq_true h1.1
 rw [Function.comp,abs_get h3 h2]
 have h4:=h1.2
 revert h4
 obtain ⟨a,⟨c,d,dt,sl⟩⟩:=p
 cases dt<;>intro h4<;>first | rfl | cases h4
noncomputable def KC (P:Params):Frag:=[(0,o4 P),(3,⟨(.type "dict"),none,(.dict ⟨[e P "__name__" 165 (.str "law_sa0524_01" 2307),e P "__doc__" 166 .none,e P "__package__" 167 .none,e P "__loader__" 168 (.builtin "__main__.__loader__#opaque"),e P "__spec__" 169 .none,e P "__annotations__" 170 (.ref 6),e P "__builtins__" 171 (.ref 4),e P "__file__" 173 (.str "/claim/cut.py" 172),e P "__cached__" 174 .none,e P "_wall" 193 (.ref 21),e P "PaperError" 235 (.ref 46),e P "PaintFault" 251 (.ref 59),e P "FontFault" 267 (.ref 71),e P "Decimal" 393 (.ref 167),e P "sign_text" 400 (.ref 178),e P "sign_of" 407 (.ref 185),e P "decimal_of" 414 (.ref 192),e P "at_one_scale" 425 (.ref 199),e P "MOST_HOPS" 429 (.int 30 428),e P "Name" 458 (.ref 216),e P "String" 489 (.ref 238),e P "Stream" 520 (.ref 259),e P "Reference" 558 (.ref 287),e P "kind_of" 565 (.ref 298),e P "is_number" 572 (.ref 305),e P "told_plain" 580 (.ref 312),e P "told" 586 (.ref 317),e P "told_objects" 587 (.ref 317),e P "Lookup" 639 (.ref 349),e P "Shelf" 701 (.ref 403),e P "Matrix" 791 (.ref 455),e P "identity" 797 (.ref 466),e P "translation" 805 (.ref 473),e P "from_array" 812 (.ref 480),e P "Operation" 851 (.ref 502),e P "text_kinds" 859 (.ref 513),e P "fits_kind" 865 (.ref 518),e P "used_names" 871 (.ref 523),e P "MOST_FORMS_textout" 875 (.int 8 874),e P "PLACED_WORDS" 885 (.ref 524),e P "SPACING_WORDS" 891 (.ref 525),e P "Glyph" 935 (.ref 549),e P "TextSheet" 970 (.ref 570),e P "TextState" 1018 (.ref 605),e P "advance" 1028 (.ref 616),e P "along" 1038 (.ref 623),e P "shown_glyphs" 1056 (.ref 630),e P "check_operands" 1066 (.ref 637),e P "TextWalk" 1145 (.ref 689),e P "follow_placed" 1154 (.ref 700),e P "choose_font" 1162 (.ref 707),e P "follow_state" 1171 (.ref 714),e P "sheet_glyphs" 1185 (.ref 721),e P "lay_glyphs" 1192 (.ref 728),e P "resource_dict" 1202 (.ref 735),e P "form_matrix" 1208 (.ref 740),e P "is_form" 1217 (.ref 747),e P "text_sheet" 1242 (.ref 754),e P "MOST_LENGTH" 1246 (.int 4 1245),e P "HEX_SIGNS" 1248 (.str "0123456789ABCDEF" 1247),e P "CMap" 1285 (.ref 776),e P "code_of" 1294 (.ref 787),e P "code_octets" 1300 (.ref 792),e P "fitting" 1314 (.ref 799),e P "next_length" 1320 (.ref 804),e P "split_codes" 1332 (.ref 811),e P "LOW_NAMES" 1336 (.str "space exclam quotedbl numbersign dollar percent ampersand quotesingle parenleft parenright asterisk plus comma hyphen period slash zero one two three four five six seven eight nine colon semicolon less equal greater question at" 1335),e P "MIDDLE_NAMES" 1338 (.str "bracketleft backslash bracketright asciicircum underscore grave" 1337),e P "HIGH_NAMES" 1340 (.str "braceleft bar braceright asciitilde" 1339),e P "LATIN_NAMES" 1342 (.str "exclamdown cent sterling currency yen brokenbar section dieresis copyright ordfeminine guillemotleft logicalnot hyphen registered macron degree plusminus twosuperior threesuperior acute mu paragraph periodcentered cedilla onesuperior ordmasculine guillemotright onequarter onehalf threequarters questiondown Agrave Aacute Acircumflex Atilde Adieresis Aring AE Ccedilla Egrave Eacute Ecircumflex Edieresis Igrave Iacute Icircumflex Idieresis Eth Ntilde Ograve Oacute Ocircumflex Otilde Odieresis multiply Oslash Ugrave Uacute Ucircumflex Udieresis Yacute Thorn germandbls" 1341),e P "OTHER_CODES" 1460 (.ref 812),e P "SURROGATES" 1463 (.ref 815),e P "MOST_CODE" 1465 (.int 1114111 1464),e P "ascii_names" 1471 (.ref 820),e P "latin_names" 1477 (.ref 825),e P "hex_number" 1486 (.ref 832),e P "is_sign_code" 1493 (.ref 839),e P "known_code" 1501 (.ref 846),e P "part_text" 1507 (.ref 851),e P "glyph_text" 1513 (.ref 856),e P "width_in" 1527 (.ref 863),e P "standard_width" 1536 (.ref 870),e P "cid_of" 1549 (.ref 877),e P "Font" 1613 (.ref 913),e P "Path" 1644 (.ref 936),e P "pair_of" 1652 (.ref 947),e P "is_shut" 1659 (.ref 954),e P "current_point" 1667 (.ref 961),e P "drawn_parts" 1675 (.ref 968),e P "move_to" 1684 (.ref 975),e P "path_with" 1694 (.ref 982),e P "line_to" 1703 (.ref 989),e P "curve_to" 1713 (.ref 996),e P "curve_from" 1723 (.ref 1003),e P "curve_into" 1732 (.ref 1010),e P "close_path" 1740 (.ref 1017),e P "rectangle" 1756 (.ref 1024),e P "each_point" 1762 (.ref 1029),e P "transformed" 1771 (.ref 1036),e P "State" 1810 (.ref 1053),e P "first_colour" 1818 (.ref 1064),e P "first_values" 1827 (.ref 1071),e P "first_state" 1835 (.ref 1079),e P "copied_state" 1842 (.ref 1086),e P "numbers_of" 1848 (.ref 1091),e P "name_of" 1855 (.ref 1098),e P "choice_of" 1864 (.ref 1105),e P "colour_parts" 1874 (.ref 1112),e P "device_count" 1882 (.ref 1119),e P "own_colour" 1891 (.ref 1126),e P "set_colour" 1905 (.ref 1133),e P "set_dash" 1911 (.ref 1138),e P "set_line" 1921 (.ref 1145),e P "set_named" 1927 (.ref 1150),e P "set_text" 1938 (.ref 1157),e P "MOST_FORMS_painter" 1942 (.int 8 1941),e P "STATE_WORDS" 1946 (.ref 1158),e P "LINE_WORDS" 1955 (.ref 1159),e P "PATH_WORDS" 1963 (.ref 1160),e P "CLIP_WORDS" 1966 (.ref 1161),e P "PAINT_WORDS" 1977 (.ref 1162),e P "COLOUR_WORDS" 1990 (.ref 1163),e P "TEXT_WORDS" 1998 (.ref 1164),e P "PLACE_WORDS" 2003 (.ref 1165),e P "SHOW_WORDS" 2008 (.ref 1166),e P "NOTE_WORDS" 2014 (.ref 1167),e P "FILLS" 2036 (.ref 1168),e P "STROKES" 2043 (.ref 1169),e P "CLOSERS" 2047 (.ref 1170),e P "Painter" 2099 (.ref 1195),e P "paint_all" 2108 (.ref 1206),e P "put_mark" 2116 (.ref 1213),e P "check_place" 2125 (.ref 1220),e P "perform" 2134 (.ref 1227),e P "do_other" 2143 (.ref 1234),e P "do_state" 2152 (.ref 1241),e P "matrix_of" 2165 (.ref 1248),e P "named" 2175 (.ref 1255),e P "do_line" 2185 (.ref 1262),e P "do_path" 2191 (.ref 1267),e P "do_clip" 2199 (.ref 1274),e P "do_paint" 2209 (.ref 1281),e P "add_clip" 2218 (.ref 1288),e P "move_line" 2228 (.ref 1295),e P "do_place" 2240 (.ref 1302),e P "octets_of_row" 2249 (.ref 1309),e P "do_show" 2261 (.ref 1316),e P "do_object" 2273 (.ref 1323),e P "form_numbers" 2279 (.ref 1328),e P "enter_form" 2291 (.ref 1335),e P "do_form" 2306 (.ref 1342),e P "_law_texts" 2325 (.ref 1343),e P "_law_draw" 2335 (.ref 1352),e P "_law_pair" 2342 (.ref 1359),e P "_law_six" 2349 (.ref 1366),e P "_law_string" 2356 (.ref 1373),e P "_law_setting" 2363 (.ref 1380),e P "_law_deed" 2371 (.ref 1387),e P "_law_content" 2377 (.ref 1392),e P "_law_due" 2393 (.ref 1399),e P "law" 2399 (.ref 1404)]⟩ 161),⟨[]⟩⟩),(776,o5 "CMap" 776 775 1249),(775,o16 P 1256 "paperhold.cmaps" 1243 487 1269 768 "told" 1275 773 1278),(167,o5 "Decimal" 167 166 270),(166,o32 P),(913,o5 "Font" 913 912 1550),(912,o29 P 1557 "paperhold.fonts" 1514 594 "__init__" 1575 891 "codes" 1581 896 "width" 1590 "text" "__static_attributes__" 1606 911 "__dict__" 1608 914 "__weakref__" 4),(549,o5 "Glyph" 549 548 892),(548,o16 P 899 "paperhold.textout" 872 284 915 539 "told" 922 546 928),(455,o5 "Matrix" 455 454 704),(454,o25 P 711 "paperhold.matrix" 702 197 728 419 "times" 742 "applied" 753 "shifted" 764 "parts" "told" 452),(216,o5 "Name" 216 215 430),(215,o14 P 437 "paperhold.objects" 426 87 449 213 "__static_attributes__" 451 214 "__dict__" 453 217 4),(502,o5 "Operation" 502 501 815),(501,o16 P 822 "paperhold.content" 813 239 835 494 "told" 841 499 844),(1195,o5 "Painter" 1195 1194 2048),(1194,o16 P 2055 "paperhold.painter" 1939 829 2070 1185 "paint" 2078 1192 2092),(936,o5 "Path" 936 935 1616),(935,o14 P 1623 "paperhold.paths" 1614 622 1635 933 "__static_attributes__" 1637 934 "__dict__" 1639 937 4),(287,o5 "Reference" 287 286 521),(286,o16 P 528 "paperhold.objects" 426 101 541 277 "pair" 548 284 551),(403,o41),(402,o29 P 647 "paperhold.objects" 426 176 "put" 661 367 "add" 669 374 "drop" 677 "numbers" "root" 691 395 "told" 697 400 "__static_attributes__" 2),(1053,o5 "State" 1053 1052 1774),(1052,o14 P 1781 "paperhold.inks" 1772 684 1797 1050 "__static_attributes__" 1803 1051 "__dict__" 1805 1054 4),(259,o5 "Stream" 259 258 490),(258,o14 P 497 "paperhold.objects" 426 96 510 256 "__static_attributes__" 513 257 "__dict__" 515 260 4),(238,o5 "String" 238 237 459),(237,o14 P 466 "paperhold.objects" 426 91 479 235 "__static_attributes__" 482 236 "__dict__" 484 239 4),(570,o5 "TextSheet" 570 569 936),(569,o14 P 943 "paperhold.textout" 872 295 958 567 "__static_attributes__" 963 568 "__dict__" 965 571 4),(605,o5 "TextState" 605 604 971),(604,o31 P 978 "paperhold.textout" 872 302 990 588 "copied" 998 "stretched" 1006 1011),(689,o5 "TextWalk" 689 688 1067),(688,o25 P 1074 "paperhold.textout" 872 350 1087 651 "show" 1097 "show_parts" 1107 "next_row" 1116 "feed" "set_matrix" 686),(349,o42),(348,o31 P 595 "paperhold.objects" 426 157 608 332 "fetch" 620 "get" 629 632),(87,o6 6 0 "Decimal.__init__" "paperhold.decimals" 268 86),(94,o6 6 1 "Decimal.plus" "paperhold.decimals" 268 93),(108,o6 6 3 "Decimal.times" "paperhold.decimals" 268 107),(115,o6 6 4 "Decimal.negated" "paperhold.decimals" 268 114),(150,o6 6 9 "Decimal.told" "paperhold.decimals" 268 149),(192,o2 9 "decimal_of" "paperhold.decimals" 268 191),(199,o2 10 "at_one_scale" "paperhold.decimals" 268 198),(213,o6 13 0 "Name.__init__" "paperhold.objects" 426 212),(235,o36 14 "String.__init__" 228 "paperhold.objects" 426),(256,o6 15 0 "Stream.__init__" "paperhold.objects" 426 255),(277,o6 16 0 "Reference.__init__" "paperhold.objects" 426 276),(284,o6 16 1 "Reference.pair" "paperhold.objects" 426 283),(298,o2 17 "kind_of" "paperhold.objects" 426 297),(305,o2 18 "is_number" "paperhold.objects" 426 304),(332,o36 22 "Lookup.__init__" 325 "paperhold.objects" 426),(339,o6 22 1 "Lookup.fetch" "paperhold.objects" 426 338),(346,o6 22 2 "Lookup.get" "paperhold.objects" 426 345),(367,o6 23 0 "Shelf.put" "paperhold.objects" 426 366),(419,o6 25 0 "Matrix.__init__" "paperhold.matrix" 702 418),(426,o6 25 1 "Matrix.times" "paperhold.matrix" 702 425),(433,o6 25 2 "Matrix.applied" "paperhold.matrix" 702 432),(440,o6 25 3 "Matrix.shifted" "paperhold.matrix" 702 439),(466,o2 26 "identity" "paperhold.matrix" 702 465),(473,o2 27 "translation" "paperhold.matrix" 702 472),(480,o2 28 "from_array" "paperhold.matrix" 702 479),(494,o6 30 0 "Operation.__init__" "paperhold.content" 813 493),(513,o2 31 "text_kinds" "paperhold.content" 813 512),(518,o2 32 "fits_kind" "paperhold.content" 813 517),(523,o2 33 "used_names" "paperhold.content" 813 522),(539,o6 38 0 "Glyph.__init__" "paperhold.textout" 872 538),(546,o6 38 1 "Glyph.told" "paperhold.textout" 872 545),(567,o6 39 0 "TextSheet.__init__" "paperhold.textout" 872 566),(588,o6 40 0 "TextState.__init__" "paperhold.textout" 872 587),(595,o6 40 1 "TextState.copied" "paperhold.textout" 872 594),(602,o6 40 2 "TextState.stretched" "paperhold.textout" 872 601),(616,o2 41 "advance" "paperhold.textout" 872 615),(623,o2 42 "along" "paperhold.textout" 872 622),(630,o2 43 "shown_glyphs" "paperhold.textout" 872 629),(637,o2 44 "check_operands" "paperhold.textout" 872 636),(651,o6 45 0 "TextWalk.__init__" "paperhold.textout" 872 650),(658,o6 45 1 "TextWalk.show" "paperhold.textout" 872 657),(665,o6 45 2 "TextWalk.show_parts" "paperhold.textout" 872 664),(672,o6 45 3 "TextWalk.next_row" "paperhold.textout" 872 671),(679,o6 45 4 "TextWalk.feed" "paperhold.textout" 872 678),(686,o6 45 5 "TextWalk.set_matrix" "paperhold.textout" 872 685),(700,o2 46 "follow_placed" "paperhold.textout" 872 699),(707,o2 47 "choose_font" "paperhold.textout" 872 706),(714,o2 48 "follow_state" "paperhold.textout" 872 713),(721,o2 49 "sheet_glyphs" "paperhold.textout" 872 720),(728,o2 50 "lay_glyphs" "paperhold.textout" 872 727),(735,o2 51 "resource_dict" "paperhold.textout" 872 734),(740,o2 52 "form_matrix" "paperhold.textout" 872 739),(747,o2 53 "is_form" "paperhold.textout" 872 746),(754,o2 54 "text_sheet" "paperhold.textout" 872 753),(768,o6 58 0 "CMap.__init__" "paperhold.cmaps" 1243 767),(863,o2 80 "width_in" "paperhold.fonts" 1514 862),(891,o6 83 0 "Font.__init__" "paperhold.fonts" 1514 890),(896,o6 83 1 "Font.codes" "paperhold.fonts" 1514 895),(903,o6 83 2 "Font.width" "paperhold.fonts" 1514 902),(910,o6 83 3 "Font.text" "paperhold.fonts" 1514 909),(933,o36 85 "Path.__init__" 926 "paperhold.paths" 1614),(1050,o6 101 0 "State.__init__" "paperhold.inks" 1772 1049),(1064,o2 102 "first_colour" "paperhold.inks" 1772 1063),(1071,o2 103 "first_values" "paperhold.inks" 1772 1070),(1079,⟨(.type "function"),none,(fo (tst 104) "first_state" 3 (.ref 1072) (.str "paperhold.inks" 1772) (.ref 1078)),⟨[]⟩⟩),(1086,o2 105 "copied_state" "paperhold.inks" 1772 1085),(1091,o2 106 "numbers_of" "paperhold.inks" 1772 1090),(1098,o2 107 "name_of" "paperhold.inks" 1772 1097),(1157,o2 116 "set_text" "paperhold.inks" 1772 1156),(1185,o36 132 "Painter.__init__" 1178 "paperhold.painter" 1939),(1192,o6 132 1 "Painter.paint" "paperhold.painter" 1939 1191),(1206,o2 133 "paint_all" "paperhold.painter" 1939 1205),(1213,o2 134 "put_mark" "paperhold.painter" 1939 1212),(1220,o2 135 "check_place" "paperhold.painter" 1939 1219),(1227,o2 136 "perform" "paperhold.painter" 1939 1226),(1234,o2 137 "do_other" "paperhold.painter" 1939 1233),(1241,o2 138 "do_state" "paperhold.painter" 1939 1240),(1248,o2 139 "matrix_of" "paperhold.painter" 1939 1247),(1255,o2 140 "named" "paperhold.painter" 1939 1254),(1295,o2 146 "move_line" "paperhold.painter" 1939 1294),(1302,o2 147 "do_place" "paperhold.painter" 1939 1301),(1309,o2 148 "octets_of_row" "paperhold.painter" 1939 1308),(1316,o2 149 "do_show" "paperhold.painter" 1939 1315),(1323,o2 150 "do_object" "paperhold.painter" 1939 1322),(1328,o2 151 "form_numbers" "paperhold.painter" 1939 1327),(1335,o2 152 "enter_form" "paperhold.painter" 1939 1334),(1342,o2 153 "do_form" "paperhold.painter" 1939 1341),(1352,o2 156 "_law_draw" "law_sa0524_01" 2307 1351),(1359,o2 157 "_law_pair" "law_sa0524_01" 2307 1358),(1366,o2 158 "_law_six" "law_sa0524_01" 2307 1365),(1373,o2 159 "_law_string" "law_sa0524_01" 2307 1372),(1380,o2 160 "_law_setting" "law_sa0524_01" 2307 1379),(1387,o2 161 "_law_deed" "law_sa0524_01" 2307 1386),(1392,o2 162 "_law_content" "law_sa0524_01" 2307 1391),(1399,o2 163 "_law_due" "law_sa0524_01" 2307 1398),(1404,o2 164 "law" "law_sa0524_01" 2307 1403),(524,o40 "Td" 876 "TD" "T*" "Tm" "Tj" "TJ" "'" "\"" "ET"),(525,o20 "Tc" 886 "Tw" "Tz" "TL" "Ts"),(1158,o12 "q" 1943 "Q" "cm"),(1159,o27 "w" 1947 "J" "j" "M" "d" "ri" "i" "gs"),(1160,o26 "m" 1956 "l" "c" "v" "y" "h" "re"),(1161,o13 "W" 1964 "W*"),(1162,o34 "S" 1967 "s" "f" "F" "f*" "B" "B*" "b" "b*" "n"),(1163,o37 "g" 1978 "G" "rg" "RG" "k" "K" "cs" "CS" "sc" "SC" "scn" "SCN"),(1164,o26 "Tc" 1991 "Tw" "Tz" "TL" "Ts" "Tr" "Tf"),(1165,o15 "Td" 1999 "TD" "Tm" "T*"),(1166,o15 "Tj" 2004 "TJ" "'" "\""),(1343,⟨(.type "dict"),none,(.dict ⟨[e P "F" 2309 (.ref 1344),e P "G" 2316 (.ref 1345)]⟩ 2),⟨[]⟩⟩),(1344,o43 2310 "A" "B"),(1345,o43 2317 "a" "b"),(2,⟨.none,none,(.dict ⟨[e P "type.__subclasses__.Exception.0" 232 (.int 46 0),e P "type.__subclasses__.Exception.n" 233 (.int 1 0)]⟩ 2),⟨[]⟩⟩),(4,⟨(.type "module"),some 0,.plain,⟨[]⟩⟩),(86,o0 "__init__" 282 "Decimal.__init__" 21 3 81 288 289),(93,o0 "plus" 291 "Decimal.plus" 28 2 88 299 300),(107,o0 "times" 313 "Decimal.times" 36 2 102 319 320),(114,o0 "negated" 322 "Decimal.negated" 40 1 109 326 327),(149,o0 "told" 362 "Decimal.told" 56 1 144 366 367),(191,o0 "decimal_of" 408 "decimal_of" 74 1 186 412 413),(198,o0 "at_one_scale" 415 "at_one_scale" 80 2 193 423 424),(212,o0 "__init__" 442 "Name.__init__" 89 2 207 447 448),(234,o0 "__init__" 471 "String.__init__" 93 3 229 477 478),(228,⟨(.type "tuple"),none,(.seq ⟨[(.bool false)]⟩ 0),⟨[]⟩⟩),(255,o0 "__init__" 502 "Stream.__init__" 98 3 250 508 509),(276,o0 "__init__" 533 "Reference.__init__" 103 3 271 539 540),(283,o0 "pair" 542 "Reference.pair" 107 1 278 546 547),(297,o0 "kind_of" 559 "kind_of" 109 1 292 563 564),(304,o0 "is_number" 566 "is_number" 131 1 299 570 571),(331,o0 "__init__" 600 "Lookup.__init__" 159 3 326 606 607),(325,⟨(.type "tuple"),none,(.seq ⟨[.none,.none]⟩ 0),⟨[]⟩⟩),(338,o0 "fetch" 609 "Lookup.fetch" 163 2 333 618 619),(345,o0 "get" 621 "Lookup.get" 174 3 340 627 628),(366,o0 "put" 652 "Shelf.put" 178 4 361 659 660),(418,o0 "__init__" 716 "Matrix.__init__" 199 7 413 726 727),(425,o0 "times" 729 "Matrix.times" 207 2 420 740 741),(432,o0 "applied" 743 "Matrix.applied" 215 3 427 751 752),(439,o0 "shifted" 754 "Matrix.shifted" 220 3 434 762 763),(465,o0 "identity" 792 "identity" 230 0 460 795 796),(472,o0 "translation" 798 "translation" 232 2 467 803 804),(479,o0 "from_array" 806 "from_array" 234 1 474 810 811),(493,o0 "__init__" 827 "Operation.__init__" 241 3 488 833 834),(512,o0 "text_kinds" 852 "text_kinds" 247 0 507 857 858),(517,o3 "fits_kind" 860 "fits_kind" 258 2 514 863),(522,o3 "used_names" 866 "used_names" 266 1 519 869),(538,o0 "__init__" 904 "Glyph.__init__" 286 6 533 913 914),(545,o0 "told" 916 "Glyph.told" 293 1 540 920 921),(566,o0 "__init__" 948 "TextSheet.__init__" 297 5 561 956 957),(587,o0 "__init__" 983 "TextState.__init__" 304 2 582 988 989),(594,o0 "copied" 991 "TextState.copied" 310 1 589 996 997),(601,o0 "stretched" 999 "TextState.stretched" 317 2 596 1004 1005),(615,o0 "advance" 1019 "advance" 319 2 610 1026 1027),(622,o0 "along" 1029 "along" 325 2 617 1036 1037),(629,o0 "shown_glyphs" 1039 "shown_glyphs" 328 3 624 1054 1055),(636,o0 "check_operands" 1057 "check_operands" 341 2 631 1064 1065),(650,o0 "__init__" 1079 "TextWalk.__init__" 352 3 645 1085 1086),(657,o0 "show" 1088 "TextWalk.show" 360 2 652 1095 1096),(664,o0 "show_parts" 1098 "TextWalk.show_parts" 365 2 659 1105 1106),(671,o0 "next_row" 1108 "TextWalk.next_row" 373 3 666 1114 1115),(678,o0 "feed" 1117 "TextWalk.feed" 377 1 673 1121 1122),(685,o0 "set_matrix" 1124 "TextWalk.set_matrix" 380 2 680 1129 1130),(699,o0 "follow_placed" 1146 "follow_placed" 383 3 694 1152 1153),(706,o0 "choose_font" 1155 "choose_font" 405 2 701 1160 1161),(713,o0 "follow_state" 1163 "follow_state" 410 3 708 1169 1170),(720,o0 "sheet_glyphs" 1172 "sheet_glyphs" 423 2 715 1183 1184),(727,o0 "lay_glyphs" 1186 "lay_glyphs" 445 1 722 1190 1191),(734,o0 "resource_dict" 1193 "resource_dict" 447 3 729 1200 1201),(739,o3 "form_matrix" 1203 "form_matrix" 450 2 736 1206),(746,o0 "is_form" 1209 "is_form" 458 2 741 1215 1216),(753,o0 "text_sheet" 1218 "text_sheet" 463 6 748 1240 1241),(767,o0 "__init__" 1261 "CMap.__init__" 489 3 762 1267 1268),(862,o0 "width_in" 1516 "width_in" 580 3 857 1525 1526),(890,o0 "__init__" 1562 "Font.__init__" 596 8 885 1573 1574),(895,o3 "codes" 1576 "Font.codes" 605 2 892 1579),(902,o0 "width" 1582 "Font.width" 610 2 897 1588 1589),(909,o0 "text" 1591 "Font.text" 617 2 904 1596 1597),(932,o0 "__init__" 1628 "Path.__init__" 624 2 927 1633 1634),(926,⟨(.type "tuple"),none,(.seq ⟨[(.ref 925)]⟩ 0),⟨[]⟩⟩),(925,o1),(1049,o0 "__init__" 1786 "State.__init__" 686 6 1044 1795 1796),(1063,o0 "first_colour" 1811 "first_colour" 692 1 1058 1816 1817),(1070,o0 "first_values" 1819 "first_values" 701 0 1065 1825 1826),(1078,o0 "first_state" 1828 "first_state" 710 1 1073 1833 1834),(1072,⟨(.type "tuple"),none,(.seq ⟨[.none]⟩ 0),⟨[]⟩⟩),(1085,o0 "copied_state" 1836 "copied_state" 713 1 1080 1840 1841),(1090,o3 "numbers_of" 1843 "numbers_of" 715 2 1087 1846),(1097,o0 "name_of" 1849 "name_of" 722 1 1092 1853 1854),(1156,o0 "set_text" 1928 "set_text" 802 3 1151 1936 1937),(1184,o0 "__init__" 2060 "Painter.__init__" 831 5 1179 2068 2069),(1178,⟨(.type "tuple"),none,(.seq ⟨[.none,.none]⟩ 0),⟨[]⟩⟩),(1191,o0 "paint" 2071 "Painter.paint" 846 2 1186 2076 2077),(1205,o0 "paint_all" 2100 "paint_all" 849 2 1200 2106 2107),(1212,o0 "put_mark" 2109 "put_mark" 856 2 1207 2114 2115),(1219,o0 "check_place" 2117 "check_place" 859 2 1214 2123 2124),(1226,o0 "perform" 2126 "perform" 865 3 1221 2132 2133),(1233,o0 "do_other" 2135 "do_other" 887 3 1228 2141 2142),(1240,o0 "do_state" 2144 "do_state" 906 3 1235 2150 2151),(1247,o0 "matrix_of" 2153 "matrix_of" 915 1 1242 2163 2164),(1254,o0 "named" 2166 "named" 918 3 1249 2173 2174),(1294,o0 "move_line" 2219 "move_line" 978 3 1289 2226 2227),(1301,o0 "do_place" 2229 "do_place" 981 3 1296 2238 2239),(1308,o0 "octets_of_row" 2241 "octets_of_row" 995 1 1303 2247 2248),(1315,o0 "do_show" 2250 "do_show" 1005 3 1310 2259 2260),(1322,o0 "do_object" 2262 "do_object" 1024 2 1317 2271 2272),(1327,o3 "form_numbers" 2274 "form_numbers" 1037 4 1324 2277),(1334,o0 "enter_form" 2280 "enter_form" 1044 2 1329 2289 2290),(1341,o0 "do_form" 2292 "do_form" 1055 3 1336 2304 2305),(1351,o0 "_law_draw" 2326 "_law_draw" 1074 2 1346 2333 2334),(1358,o0 "_law_pair" 2336 "_law_pair" 1078 1 1353 2340 2341),(1365,o0 "_law_six" 2343 "_law_six" 1080 1 1360 2347 2348),(1372,o0 "_law_string" 2350 "_law_string" 1082 1 1367 2354 2355),(1379,o0 "_law_setting" 2357 "_law_setting" 1084 1 1374 2361 2362),(1386,o0 "_law_deed" 2364 "_law_deed" 1088 1 1381 2369 2370),(1391,o3 "_law_content" 2372 "_law_content" 1103 3 1388 2375),(1398,o0 "_law_due" 2378 "_law_due" 1124 1 1393 2391 2392),(1403,o3 "law" 2394 "law" 1133 1 1400 2397)]
theorem KC_in (P:Params):(KC P).In (H₁ P):=frag_of (n:=1405) (by kernel_rfl) (by kernel_rfl)
end Mine
end
section
namespace Mine
namespace E
open PySem PySem.W PyProof.Rows
noncomputable abbrev noE:Value→Shared→Prop:=fun uu uu=>False
structure AOk (A:Around) (n:Nat):Prop where
 handled:A.handled=none
 depth:A.depth + 3 * n≤900
 units:A.units + 20 * n≤9000
structure Dx where
 w:World
 s₀:Shared
noncomputable def MR (w:World) (W:Wd) (h:Heap) (a d:Addr):MObj→Prop
 | .inst c fs=>h.get? a=some (instObj (gaddr c) d)∧a≠d∧∃ od,h.get? d=some od∧FldO w (VR w W) fs od
 | .list vs=>a=d∧∃ o,h.get? a=some o∧SeqO (VR w W) "list" vs o
 | .dict kvs=>a=d∧∃ o,h.get? a=some o∧(a==sysModules)=false∧DR w (VR w W) kvs o
 | .tab l=>a=d∧∃ ps,h.get? a=some (tabObj ps)∧a=lawTab∧TriplesOk ps.toList∧∀ k,l.contains k=false→codeAmong (lamPos k) ps.toList=none
noncomputable def Held (h:Heap) (a:Addr):Own→Prop
 | .no=>True
 | .fz o=>h.get? a=some o
 | .pv o=>h.get? a=some o
 | .mu _=>∃ o,h.get? a=some o
noncomputable def MAt (w:World) (W:Wd) (h:Heap) (n:Nat) (m:MObj):Prop:=∃ a d,W.mu n=some (a,d)∧W.pl a=.mu n∧W.pl d=.mu n∧MR w W h a d m
structure Rel (D:Dx) (W:Wd) (σ:St) (s:Shared):Prop where
 base:∀ a o,(KC D.w.params).lookup a=some o→W.pl a=.fz o
 ho:∀ a,Held s.heap a (W.pl a)
 obj:∀ n m,σ.objs n=some m→MAt D.w W s.heap n m
 lt:∀ n p,W.mu n=some p→n < σ.next
 io:s.gens=D.s₀.gens∧s.os=D.s₀.os
noncomputable abbrev Kp (P:Addr→Prop) (W:Wd) (h h':Heap):Prop:=∀ b o,P b→W.pl b≠ .no→h.get? b=some o→h'.get? b=some o
section
variable {D:Dx} {X Y:Addr→Prop} {W W':Wd} {σ σ':St} {s s':Shared} {h h':Heap} {a d b:Addr} {o od:Obj} {m:MObj} {n:Nat} {x:Own}
theorem Rel.fz (R:Rel D W σ s) (e:W.pl a=.fz o):s.heap.get? a=some o:=by have:=R.ho a;rwa [e] at this
theorem Rel.pv (R:Rel D W σ s) (e:W.pl a=.pv o):s.heap.get? a=some o:=by have:=R.ho a;rwa [e] at this
theorem Rel.B (R:Rel D W σ s):(KC D.w.params).In s.heap:=fun a o e=>R.fz (R.base a o e)
theorem Rel.no (R:Rel D W σ s) (e:s.heap.get? a=none):W.pl a=.no:=by
 have:=R.ho a
 revert this
 cases W.pl a with
 | no=>exact fun uu=>rfl
 | mu n=>exact fun⟨o,z⟩=>nomatch e.symm.trans z
 | _=>exact fun z=>nomatch e.symm.trans z
theorem get_new (h:Heap):h.get? h.objs.size=none:=Heap.get?_none_of_le (Nat.le_refl _)
theorem Rel.new_no (R:Rel D W σ s):W.pl s.heap.objs.size=.no:=R.no (get_new _)
theorem MR.keep (L:W.Le X W') (ha:∀ x,h.get? a=some x→h'.get? a=some x) (hd:∀ x,h.get? d=some x→h'.get? d=some x) (M:MR D.w W h a d m):MR D.w W' h' a d m:=by
 cases m with
 | inst c fs=>obtain ⟨e1,e2,od,e3,e4⟩:=M;exact⟨ha _ e1,e2,od,hd _ e3,e4.imp (VR.les L)⟩
 | list vs=>obtain ⟨e1,o,e2,e3⟩:=M;exact⟨e1,o,ha _ e2,e3.imp (VR.les L)⟩
 | dict kvs=>obtain ⟨e1,o,e2,e3,e4⟩:=M;exact⟨e1,o,ha _ e2,e3,e4.imp (VR.les L)⟩
 | tab l=>obtain ⟨e1,ps,e2,e3⟩:=M;exact⟨e1,ps,ha _ e2,e3⟩
theorem MR.live (M:MR D.w W h a d m):(∃ o,h.get? a=some o)∧∃ o,h.get? d=some o:=by
 cases m with
 | inst c fs=>obtain ⟨e1,e2,od,e3,e4⟩:=M;exact⟨⟨_,e1⟩,_,e3⟩
 | list vs=>obtain ⟨e1,o,e2,e3⟩:=M;exact e1▸⟨⟨_,e2⟩,_,e2⟩
 | dict kvs=>obtain ⟨e1,o,e2,e3⟩:=M;exact e1▸⟨⟨_,e2⟩,_,e2⟩
 | tab l=>obtain ⟨e1,ps,e2,e3⟩:=M;exact e1▸⟨⟨_,e2⟩,_,e2⟩
theorem Held.keep (hk:x≠ .no→∀ o,h.get? a=some o→h'.get? a=some o) (H:Held h a x):Held h' a x:=by
 cases x with
 | no=>trivial
 | mu n=>exact H.imp fun o e=>hk nofun o e
 | _=>exact hk nofun _ H
theorem Rel.upd (R:Rel D W σ s) (L:W.Le X W') (hb:∀ b,b≠a∧b≠d→W'.pl b=W.pl b) (hk:Kp (fun b=>b≠a∧b≠d) W s.heap s'.heap) (ha:Held s'.heap a (W'.pl a)) (hd:Held s'.heap d (W'.pl d))
  (hm:∀ n m,σ'.objs n=some m→MAt D.w W' s'.heap n m∨(σ.objs n=some m∧W.pl a≠ .mu n∧W.pl d≠ .mu n)) (hl:∀ n p,W'.mu n=some p→n < σ'.next) (hi:s'.gens=s.gens∧s'.os=s.os):Rel D W' σ' s' where
 base:=fun b o e=>L.fz b o (R.base b o e)
 ho:=fun b=>by
  by_cases ea:b=a
  ·exact ea▸ha
  by_cases ed:b=d
  ·exact ed▸hd
  rw [hb b ⟨ea,ed⟩]
  exact(R.ho b).keep fun n o=>hk b o ⟨ea,ed⟩ n
 obj:=fun n m e=>(hm n m e).elim id fun⟨e,na,nd⟩=>by
  refine e2a4 (R.obj n m e) fun x y e1 e2 e3 M=>?_
  have nx:∀ {x},W.pl x=.mu n→x≠a∧x≠d:=fun e=>⟨fun q=>na (q▸e),fun q=>nd (q▸e)⟩
  exact⟨x,y,L.mu _ _ e1,(hb x (nx e2)).trans e2,(hb y (nx e3)).trans e3,M.keep L (fun o=>hk x o (nx e2) (e2▸nofun)) (fun o=>hk y o (nx e3) (e3▸nofun))⟩
 lt:=hl
 io:=⟨hi.1.trans R.io.1,hi.2.trans R.io.2⟩
noncomputable def Wd.put (W:Wd) (a:Addr) (x:Own):Wd:=⟨fun b=>if b=a then x else W.pl b,W.mu⟩
theorem Wd.put_eq:(W.put a x).pl a=x:=if_pos rfl
theorem Wd.put_ne (h:b≠a):(W.put a x).pl b=W.pl b:=if_neg h
structure Wd.Mine (W:Wd) (a:Addr):Prop where
 fz:∀ o,W.pl a≠ .fz o
 mu:∀ n,W.pl a≠ .mu n
theorem Wd.mine_no (e:W.pl a=.no):W.Mine a:=⟨fun uu=>e▸nofun,fun uu=>e▸nofun⟩
theorem Wd.mine_pv (e:W.pl a=.pv o):W.Mine a:=⟨fun uu=>e▸nofun,fun uu=>e▸nofun⟩
theorem Wd.Mine.le (m:W.Mine a) (h:∀ o,W.pl a=.pv o→X a):W.Le X (W.put a x) where
 fz:=fun b o e=>(Wd.put_ne fun q:b=a=>m.fz o (q▸e)).trans e
 mu:=fun uu uu e=>e
 pv:=fun b o e=>by
  by_cases q:b=a
  ·exact .inl (q▸h o (q▸e))
  ·exact .inr ((Wd.put_ne q).trans e)
theorem Wd.le_no (e:W.pl a=.no):W.Le X (W.put a x):=(Wd.mine_no e).le fun uu z=>nomatch e.symm.trans z
theorem Rel.put (R:Rel D W σ s) (m:W.Mine a) (hx:Held s'.heap a x) (hk:Kp (fun uu=>uu≠a) W s.heap s'.heap) (hi:s'.gens=s.gens∧s'.os=s.os):Rel D (W.put a x) σ s':=
 R.upd (X:=fun uu=>True) (a:=a) (d:=a) (m.le fun uu uu=>trivial) (fun uu h=>Wd.put_ne h.1) (fun b o h=>hk b o h.1) (Wd.put_eq▸hx) (Wd.put_eq▸hx) (fun n uu e=>.inr ⟨e,m.mu n,m.mu n⟩) R.lt hi
theorem Rel.ext (R:Rel D W σ s) (hk:Kp (fun uu=>True) W s.heap s'.heap) (hi:s'.gens=s.gens∧s'.os=s.os):Rel D W σ s':=
 have e:=R.new_no
 R.upd (X:=nov) (a:=s.heap.objs.size) (d:=s.heap.objs.size) (.refl W) (fun uu uu=>rfl) (fun b o uu=>hk b o trivial) (e▸trivial) (e▸trivial) (fun n uu h=>.inr ⟨h,e▸nofun,e▸nofun⟩) R.lt hi
theorem Rel.chg (R:Rel D W σ s) (e:σ.objs n=some m) (hm:W.mu n=some (a,d)) {m':MObj} (hn:MR D.w W s'.heap a d m') (hk:Kp (fun b=>b≠a∧b≠d) W s.heap s'.heap) (hi:s'.gens=s.gens∧s'.os=s.os):Rel D W (σ.set n m') s':=by
 refine e2a4 (R.obj n m e) fun a' d' e1 e2 e3 M=>?_
 cases hm.symm.trans e1
 refine R.upd (X:=nov) (.refl W) (fun uu uu=>rfl) hk (e2▸hn.live.1) (e3▸hn.live.2) (fun k m h=>?_) R.lt hi
 by_cases q:k=n
 ·subst q
  exact .inl (Option.some.inj ((if_pos rfl).symm.trans h)▸⟨a,d,e1,e2,e3,hn⟩)
 ·exact .inr ⟨(if_neg q).symm.trans h,e2▸fun z=>by cases z;exact q rfl,e3▸fun z=>by cases z;exact q rfl⟩
theorem Rel.frz (R:Rel D W σ s) (e:σ.objs n=some m) (hm:W.mu n=some (a,d)) (ga:s.heap.get? a=some o) (gd:s.heap.get? d=some od) (hs:a=d→o=od):
  W.L0 ((W.put d (.fz od)).put a (.fz o))∧Rel D ((W.put d (.fz od)).put a (.fz o)) (σ.del n) s∧((W.put d (.fz od)).put a (.fz o)).pl d=.fz od:=by
 refine e2a4 (R.obj n m e) fun a' d' e1 e2 e3 M=>?_
 cases hm.symm.trans e1
 have pd:((W.put d (.fz od)).put a (.fz o)).pl d=.fz od:=by
  by_cases q:d=a
  ·subst q;exact Wd.put_eq.trans (congrArg _ (hs rfl))
  ·exact(Wd.put_ne q).trans Wd.put_eq
 have ne:∀ b,b≠a∧b≠d→((W.put d (.fz od)).put a (.fz o)).pl b=W.pl b:=fun b h=>(Wd.put_ne h.1).trans (Wd.put_ne h.2)
 have nm:∀ {b},W.pl b≠ .mu n→b≠a∧b≠d:=fun h=>⟨fun q=>h (q▸e2),fun q=>h (q▸e3)⟩
 have L:W.L0 ((W.put d (.fz od)).put a (.fz o)):=⟨fun b o h=>(ne b (nm (h▸nofun))).trans h,fun uu uu h=>h,fun b o h=>.inr ((ne b (nm (h▸nofun))).trans h)⟩
 refine ⟨L,R.upd L ne (fun uu uu uu uu h=>h) (Wd.put_eq▸ga) (by rw [pd];exact gd) (fun k m h=>?_) R.lt ⟨rfl,rfl⟩,pd⟩
 by_cases q:k=n
 ·exact nomatch (if_pos q).symm.trans h
 ·exact .inr ⟨(if_neg q).symm.trans h,e2▸fun z=>by cases z;exact q rfl,e3▸fun z=>by cases z;exact q rfl⟩
noncomputable def Wd.more (W:Wd) (n:Nat) (a d:Addr):Wd:=⟨fun b=>if b=a∨b=d then .mu n else W.pl b,fun k=>if k=n then some (a,d) else W.mu k⟩
theorem Rel.new (R:Rel D W σ s) (ha:W.pl a=.no) (hd:W.pl d=.no) (hn:∀ W',W.L0 W'→MR D.w W' s'.heap a d m) (hk:Kp (fun b=>b≠a∧b≠d) W s.heap s'.heap) (hi:s'.gens=s.gens∧s'.os=s.os):
  W.L0 (W.more σ.next a d)∧Rel D (W.more σ.next a d) (σ.new m) s':=by
 have ne:∀ b,b≠a∧b≠d→(W.more σ.next a d).pl b=W.pl b:=fun b h=>if_neg fun z=>z.elim h.1 h.2
 have nm:∀ {b},W.pl b≠ .no→b≠a∧b≠d:=fun h=>⟨fun q=>h (q▸ha),fun q=>h (q▸hd)⟩
 have mu:∀ {k p},W.mu k=some p→k≠σ.next:=fun h q=>Nat.lt_irrefl _ (q▸R.lt _ _ h)
 have pa:(W.more σ.next a d).pl a=.mu σ.next:=if_pos (.inl rfl)
 have pd:(W.more σ.next a d).pl d=.mu σ.next:=if_pos (.inr rfl)
 have L:W.L0 (W.more σ.next a d):=⟨fun b o h=>(ne b (nm (h▸nofun))).trans h,fun k p h=>(if_neg (mu h)).trans h,fun b o h=>.inr ((ne b (nm (h▸nofun))).trans h)⟩
 have M:=hn _ L
 refine ⟨L,R.upd L ne hk (pa▸M.live.1) (pd▸M.live.2) (fun k m h=>?_) (fun k p h=>?_) hi⟩
 ·by_cases q:k=σ.next
  ·subst q
   exact .inl (Option.some.inj ((if_pos rfl).symm.trans h)▸⟨a,d,if_pos rfl,pa,pd,M⟩)
  ·exact .inr ⟨(if_neg q).symm.trans h,ha▸nofun,hd▸nofun⟩
 ·by_cases q:k=σ.next
  ·exact q▸Nat.lt_succ_self _
  ·exact Nat.lt_succ_of_lt (R.lt _ _ ((if_neg q).symm.trans h))
end
end E
end Mine
end
section
namespace Mine
namespace E
open PySem PySem.W PyProof.Rows
theorem repeat_tuple:seqRepeat? (.type "tuple")=pure (some (.builtin "tuple.__mul__")):=by kernel_rfl
theorem noFill_tuple_mul:fillsNumberSlot (.type "tuple") "mul"=pure false:=by kernel_rfl
theorem int_rmul_tuple (a:Int) (t:Tok) (l:Addr) (items:Array Value) (n:Nat):
  Meets (Builtin.«int.__rmul__» ⟨[.int a t,.ref l],[]⟩) (fun uu R s=>s.heap.get? l=some {cls:=.type "tuple",dict:=none,data:=.seq items n,slots:=#[]}∧R (.ok (.ret Value.notImplemented)) s):=
 .of_wp fun prog w A R s h=>by obtain ⟨hp,g,d,tk,os⟩:=s;obtain ⟨hl,h⟩:=h;wp_walk;exact⟨_,rfl,h⟩
theorem tuple_mul_one (l:Addr) (r:Value) (n:Nat) (x:Int) (u:Tok) (h1:2≤x) (h2:x≤100):
  Meets (Builtin.«tuple.__mul__» ⟨[.ref l,.int x u],[]⟩) (fun uu R s=>s.heap.get? l=some {cls:=.type "tuple",dict:=none,data:=.seq #[r] n,slots:=#[]}∧R (.ok (.ret (Value.ref s.heap.objs.size))) {s with heap:=s.heap.push {cls:=Value.type "tuple",data:=Data.seq (List.foldl (fun x1 x2=>x1++x2) #[] (List.replicate x.toNat #[r]))},toks:=s.toks}):=
 .of_wp fun prog w A R s h=>by
  obtain ⟨hp,g,d,tk,os⟩:=s;obtain ⟨hl,h⟩:=h
  have c1:¬ (decide (x < -2 ^ 63)||decide (x≥2 ^ 63))=true:=by simp;omega
  have c2:¬ (#[r].isEmpty||x==1)=true:=by simp;omega
  have c3:¬ (decide (x≤0)|| #[r].isEmpty)=true:=by simp;omega
  have c4:¬ ((#[r].size:Nat):Int) * x > (2 ^ 63 - 1) / 8:=by simp;omega
  have c5:¬ Builtin.Tuple.tupleTooMany (((#[r].size:Nat):Int) * x)=true:=by simp [Builtin.Tuple.tupleTooMany,sizeLine];omega
  have c6:(List.foldl (fun x1 x2=>x1++x2) #[] (List.replicate x.toNat #[r])).size≤sizeLine:=by
   have:∀(k:Nat) (a:Array Value),(List.foldl (fun x1 x2=>x1++x2) a (List.replicate k #[r])).size=a.size + k:=by
    intro k;induction k with
    | zero=>intro a;simp
    | succ k ih=>intro a;simp only [List.replicate_succ,List.foldl_cons,ih];simp;omega
   rw [this,sizeLine_eq];simp;omega
  wp_walk
  refine wpAny_ite_false (decide_eq_false c1) ?_;wp_walk
  refine wpAny_ite_false (decide_eq_false c2) ?_;wp_walk
  refine wpAny_ite_false (decide_eq_false c3) ?_;wp_walk
  refine wpAny_ite_false (decide_eq_false c4) ?_;wp_walk
  refine wpAny_ite_false (decide_eq_false c5) ?_;wp_walk
  exact⟨_,rfl,h⟩
theorem fold_one (r:Value):∀(k:Nat) (a:Array Value),(List.foldl (fun x1 x2=>x1++x2) a (List.replicate k #[r]))=a++(List.replicate k r).toArray:=by
 intro k;induction k with
 | zero=>intro a;simp
 | succ k ih=>intro a;simp only [List.replicate_succ,List.foldl_cons,ih];apply Array.ext';simp
theorem tup_mul {prog:Program} {w:World} {A:Around} {E:Value→Shared→Prop} {s:Shared} {l:Addr} {r:Value} {k:Nat} {x:Int} {u:Tok} {Q:Value→Shared→Prop} (hl:s.heap.get? l=some ⟨.type "tuple",none,.seq #[r] k,#[]⟩) (h1:2≤x) (h2:x≤100)
  (h:Q (.ref s.heap.objs.size) {s with heap:=s.heap.push ⟨.type "tuple",none,.seq (List.replicate x.toNat r).toArray 0,#[]⟩}):wpAny (model prog w) A (binaryOp .Mult (.ref l) (.int x u)) Q E s:=by
 refine wpAny_binaryOp_repeat_ref (T:="tuple") (U:="int") (by decide) ⟨_,hl,rfl⟩ (fun s'=>typeIs_int s' x u) noFill_tuple_mul F.fills_int_mul F.slot_int_rmul repeat_tuple F.slot_int_index.lookup
  (call_meets F.slot_int_rmul (typeIs_int s x u) F.entry_int_rmul (F.args_int_rmul_2 _ _) (int_rmul_tuple x u l #[r] k)
   ⟨hl,rfl,⟨_,hl,rfl⟩,call_meets F.slot_tuple_mul ⟨_,hl,rfl⟩ F.entry_tuple_mul (F.args_tuple_mul_2 _ _) (tuple_mul_one l r k x u h1 h2) ⟨hl,?_⟩⟩)
 rw [fold_one]
 simp only [List.append_toArray,List.nil_append]
 exact h
end E
end Mine
end
section
namespace Mine
namespace E
open PySem PySem.W PyProof.Rows
noncomputable abbrev PT (α:Type):=Around→(α→Shared→Prop)→Shared→Prop
noncomputable abbrev MC (β:Type):=St→(β→St→Prop)→Prop
structure Cx where
 D:Dx
 n:Nat
noncomputable abbrev Cx.w (C:Cx):World:=C.D.w
noncomputable abbrev Cx.run {α:Type} (C:Cx) (t:Sem α):PT α:=fun A Q s=>wpAny (model pw₀ C.w) A t Q noE s
noncomputable def Kt (C:Cx) (W:Wd) {α β:Type} (R:Wd→β→α→Prop) (K:β→St→Prop) (Q:α→Shared→Prop):Prop:=
 ∀ W' s' v r σ',W.L0 W'→Rel C.D W' σ' s'→R W' v r→K v σ'→Q r s'
noncomputable def Sim (C:Cx) (W:Wd) {α β:Type} (R:Wd→β→α→Prop) (t:PT α) (m:MC β):Prop:=
 ∀ A σ s K Q,AOk A C.n→Rel C.D W σ s→m σ K→Kt C W R K Q→t A Q s
noncomputable abbrev EqB:Wd→Bool→Bool→Prop:=fun uu b c=>b=c
section
variable {C:Cx} {W W':Wd} {α α' β β' γ:Type} {R:Wd→β→α→Prop} {R':Wd→β'→α'→Prop} {t t':PT α} {f:α→PT α'} {m:MC β} {g:β→MC β'} {σ σ':St} {s:Shared} {A:Around} {K:β→St→Prop} {Q:α→Shared→Prop} {x y v:V} {r rx ry:Value} {v₁:β} {r₁:α}
theorem Rel.toks (h:Rel C.D W σ s) {k:Nat}:Rel C.D W σ {s with toks:=k}:=⟨h.base,h.ho,h.obj,h.lt,h.io⟩
theorem Kt.up (k:Kt C W R K Q) (L:W.L0 W'):Kt C W' R K Q:=fun W₂ s₂ u r σ₂ L₂=>k W₂ s₂ u r σ₂ (L.trans L₂)
theorem Kt.here (k:Kt C W R K Q) (h:Rel C.D W σ s) (hv:R W v₁ r₁) (hK:K v₁ σ):Q r₁ s:=k W _ v₁ r₁ σ (.refl W) h hv hK
theorem Kt.tok (k:Kt C W R K Q) (h:Rel C.D W σ s) (hv:R W v₁ r₁) (hK:K v₁ σ) {t:Nat}:Q r₁ {s with toks:=t}:=k.here h.toks hv hK
theorem Sim.bind (h:Sim C W R t m) (k:∀ W₁ v r,W.L0 W₁→R W₁ v r→Sim C W₁ R' (f r) (g v)):Sim C W R' (fun A Q s=>t A (fun a s=>f a A Q s) s) (fun σ K=>m σ fun v σ=>g v σ K):=
 fun A σ s K Q a g hm q=>h A σ s _ _ a g hm fun W₁ s₁ v r σ₁ L g₁ hv hk=>k W₁ v r L hv A σ₁ s₁ K Q a g₁ hk (q.up L)
theorem Sim.of (h:∀ {A:Around} {Q:α→Shared→Prop} {s:Shared},t A Q s→t' A Q s) (k:Sim C W R t m):Sim C W R t' m:=fun A σ s K Q a g hm q=>h (k A σ s K Q a g hm q)
theorem Sim.test (h:Sim C W EqB (fun A Q s=>t' A (fun uu s=>Q true s) s) (fun uu uu=>False)):True:=trivial
theorem O_bind {m:Option γ} {f:γ→Option β} {K:β→Prop} (h:O (m.bind f) K):O m fun a=>O (f a) K:=by cases m<;>exact h
theorem O_map {m:Option γ} {f:γ→β} {K:β→Prop} (h:O (m.map f) K):O m fun a=>K (f a):=by cases m<;>exact h
theorem O_ite {c:Prop} [Decidable c] {m:Option β} {K:β→Prop} {G:Prop} (h:O (if c then m else none) K) (k:c→O m K→G):G:=by
 by_cases q:c
 ·rw [if_pos q] at h;exact k q h
 ·rw [if_neg q] at h;exact h.elim
theorem O_elim {m:Option γ} {K:γ→Prop} {G:Prop} (h:O m K) (k:∀ a,m=some a→K a→G):G:=match m,h with
 | some a,h=>k a rfl h
theorem Gx_elim {c:Bool} {P G:Prop} (h:Gx c P) (k:c=true→P→G):G:=by
 cases c with
 | false=>exact h.elim
 | true=>exact k rfl h
section
variable {w:World}
theorem VR.noneI:VR w W .none .none:=.mk rfl
theorem VR.boolI {b:Bool}:VR w W (.bool b) (.bool b):=.mk rfl
theorem VR.intI {i:Int} {t:Tok}:VR w W (.int i) (.int i t):=.mk ⟨t,rfl⟩
theorem VR.strI {i:Sm} {t:Tok}:VR w W (.str i) (.str (sstr i) t):=.mk ⟨t,rfl⟩
theorem VR.bytesI {i:List UInt8} {t:Tok}:VR w W (.bytes i) (.bytes i.toArray t):=.mk ⟨t,rfl⟩
theorem VR.globI {g:Gl}:VR w W (.glob g) (gvalue g):=.mk rfl
theorem VR.refI {n:Nat} {a d:Addr} (h:W.mu n=some (a,d)):VR w W (.ref n) (.ref a):=.mk ⟨a,d,rfl,h⟩
@[elab_as_elim] theorem intE {M:V→Value→Prop} {v:V} {r:Value} {K:Int→Prop} (hv:VR w W v r) (h:O (asInt v) K) (k:∀ i t,K i→M (.int i) (.int i t)):M v r:=by
 cases v with
 | int i=>obtain ⟨t,rfl⟩:=hv.out;exact k i t h
 | _=>exact h.elim
@[elab_as_elim] theorem strE {M:V→Value→Prop} {v:V} {r:Value} {K:Sm→Prop} (hv:VR w W v r) (h:O (asStr v) K) (k:∀ i t,K i→M (.str i) (.str (sstr i) t)):M v r:=by
 cases v with
 | str i=>obtain ⟨t,rfl⟩:=hv.out;exact k i t h
 | _=>exact h.elim
@[elab_as_elim] theorem bytesE {M:V→Value→Prop} {v:V} {r:Value} {K:List UInt8→Prop} (hv:VR w W v r) (h:O (asBytes v) K) (k:∀ i t,K i→M (.bytes i) (.bytes i.toArray t)):M v r:=by
 cases v with
 | bytes i=>obtain ⟨t,rfl⟩:=hv.out;exact k i t h
 | _=>exact h.elim
@[elab_as_elim] theorem globE {M:V→Value→Prop} {v:V} {r:Value} {K:Gl→Prop} (hv:VR w W v r) (h:O (asGlob v) K) (k:∀ i,K i→M (.glob i) (gvalue i)):M v r:=by
 cases v with
 | glob i=>cases (hv.out:_=_);exact k i h
 | _=>exact h.elim
@[elab_as_elim] theorem lstE {M:V→Value→Prop} {v:V} {r:Value} {K:List V→Prop} (hv:VR w W v r) (h:O (asLst v) K) (k:∀ vs a o,W.pl a=.fz o→SeqO (VR w W) "list" vs o→K vs→M (.lst vs) (.ref a)):M v r:=by
 cases v with
 | lst i=>obtain ⟨a,o,rfl,f,g⟩:=hv.out;exact k i a o f g h
 | _=>exact h.elim
@[elab_as_elim] theorem tupE {M:V→Value→Prop} {v:V} {r:Value} {K:List V→Prop} (hv:VR w W v r) (h:O (asTup v) K) (k:∀ vs a o,W.pl a=.fz o→SeqO (VR w W) "tuple" vs o→K vs→M (.tup vs) (.ref a)):M v r:=by
 cases v with
 | tup i=>obtain ⟨a,o,rfl,f,g⟩:=hv.out;exact k i a o f g h
 | _=>exact h.elim
theorem oneE {γ:Type} {M:List γ→Prop} {l:List γ} {K:γ→Prop} (h:O (one? l) K) (k:∀ a,K a→M [a]):M l:=match l,h with
 | [a],h=>k a h
theorem twoE {γ:Type} {M:List γ→Prop} {l:List γ} {K:γ×γ→Prop} (h:O (two? l) K) (k:∀ a b,K (a,b)→M [a,b]):M l:=match l,h with
 | [a,b],h=>k a b h
end
theorem SeqO.fz {P:VP} {T:String} {vs:List V} {o:Obj} (h:SeqO P T vs o):o.isFreed=false:=let ⟨_,_,e,_⟩:=h;e▸rfl
theorem Kt.push {K:V→St→Prop} {Q:Value→Shared→Prop} (k:Kt C W (VR C.w) K Q) (h:Rel C.D W σ s) {o:Obj} (hf:o.isFreed=false) (hK:K v σ) (hv:∀ W',W.L0 W'→W'.pl s.heap.objs.size=.fz o→VR C.w W' v (.ref s.heap.objs.size)) {t:Nat}:Q (.ref s.heap.objs.size) {s with heap:=s.heap.push o,toks:=t}:=
 have L:W.L0 (W.put s.heap.objs.size (.fz o)):=Wd.le_no h.new_no
 k _ _ v _ σ L (h.put (Wd.mine_no h.new_no) (Heap.get?_push_size _ hf) (fun uu uu uu uu e=>Heap.get?_push_of_some _ e) ⟨rfl,rfl⟩) (hv _ L Wd.put_eq) hK
theorem Kt.seq {K:V→St→Prop} {Q:Value→Shared→Prop} (k:Kt C W (VR C.w) K Q) (h:Rel C.D W σ s) {T:String} {vs:List V} {rs:Array Value} {n:Nat} (hs:F2 (VR C.w W) vs rs.toList) (hK:K v σ) (hv:∀ W' a o,W'.pl a=.fz o→SeqO (VR C.w W') T vs o→VR C.w W' v (.ref a)) {t:Nat}:Q (.ref s.heap.objs.size) {s with heap:=s.heap.push ⟨.type T,none,.seq rs n,#[]⟩,toks:=t}:=
 k.push h rfl hK fun W' L e=>hv W' _ _ e ⟨rs,n,rfl,hs.imp (VR.les L)⟩
theorem VR.lstI {w:World} {vs:List V} (W:Wd) (a:Addr) (o:Obj) (f:W.pl a=.fz o) (h:SeqO (VR w W) "list" vs o):VR w W (.lst vs) (.ref a):=.mk ⟨a,o,rfl,f,h⟩
theorem VR.tupI {w:World} {vs:List V} (W:Wd) (a:Addr) (o:Obj) (f:W.pl a=.fz o) (h:SeqO (VR w W) "tuple" vs o):VR w W (.tup vs) (.ref a):=.mk ⟨a,o,rfl,f,h⟩
theorem VR.tupD {w:World} {vs:List V} (h:VR w W (.tup vs) r):∃ a rs k,r=.ref a∧W.pl a=.fz ⟨.type "tuple",none,.seq rs k,#[]⟩∧F2 (VR w W) vs rs.toList:=by
 obtain ⟨a,o,e,f,rs,k,rfl,g⟩:=h.out;exact⟨a,rs,k,e,f,g⟩
theorem VR.lstD {w:World} {vs:List V} (h:VR w W (.lst vs) r):∃ a rs k,r=.ref a∧W.pl a=.fz ⟨.type "list",none,.seq rs k,#[]⟩∧F2 (VR w W) vs rs.toList:=by
 obtain ⟨a,o,e,f,rs,k,rfl,g⟩:=h.out;exact⟨a,rs,k,e,f,g⟩
theorem bits_small {i:Int} (h:smallI i=true):Builtin.Int.intBits i≤64:=by
 unfold smallI at h
 have h':i.natAbs < 2 ^ 63:=by simpa using h
 unfold Builtin.Int.intBits
 split
 ·exact Nat.zero_le _
 ·have:i.natAbs.log2 < 63:=(Nat.log2_lt (by
   intro q;rename_i z;apply z;simp at q ⊢;exact q)).mpr h'
  omega
noncomputable def opOf:BOp→Operator
 | .add=>.Add | .sub=>.Sub | .mul=>.Mult | .fdiv=>.FloorDiv | .mod=>.Mod | .pow=>.Pow
noncomputable abbrev OpS (C:Cx) (W:Wd) (t:Sem Value) (o:Option V):Prop:=Sim C W (VR C.w) (C.run t) fun σ K=>O o fun v=>K v σ
theorem intS {op:BOp} {i j:Int} {t u:Tok}:OpS C W (binaryOp (opOf op) (.int i t) (.int j u)) (binI op i j):=fun A σ s K Q a h e k=>by
 cases op with
 | add=>exact PyProof.Rows.add_int (k.tok h .intI e)
 | sub=>exact PyProof.Rows.sub_int (k.tok h .intI e)
 | mul=>exact O_ite e fun c e=>PyProof.Rows.mul_int (k.tok h .intI e) ((Bool.or_eq_true_iff.mp c).elim (fun q=>IntMulOk.of_left (bits_small q)) fun q=>IntMulOk.of_right (bits_small q))
 | fdiv=>
  refine O_ite e fun c e=>?_
  simp only [Bool.and_eq_true,bne_iff_ne,ne_eq,decide_eq_true_eq] at c
  exact PyProof.Rows.floordiv_int c.1 (k.tok h .intI e) (.inl (PyProof.noPylong_small (by omega)))
 | mod=>exact O_ite e fun c e=>PyProof.Rows.mod_int' (bne_iff_ne.mp c) (k.tok h .intI e)
 | pow=>
  refine O_ite e fun c e=>?_
  simp only [Bool.and_eq_true,decide_eq_true_eq,smallI] at c
  exact PyProof.Rows.pow_int_small c.1.1 (by omega) (by omega) (k.tok h .intI e)
theorem binS {op:BOp} (hx:VR C.w W x rx) (hy:VR C.w W y ry):OpS C W (binaryOp (opOf op) rx ry) (binV op x y):=fun A σ s K Q a h e k=>by
 cases x with
 | int i=>obtain ⟨t,rfl⟩:=hx.out;exact intE hy (O_bind e) fun j u e=>intS A σ s K Q a h e k
 | bytes i=>
  obtain ⟨t,rfl⟩:=hx.out
  cases op with
  | add=>exact bytesE hy (O_bind e) fun j u e=>O_ite e fun c e=>bytes_add_K (by simp only [List.size_toArray];omega) rfl fun t' uu=>k.tok h .bytesI e
  | _=>exact e.elim
 | lst i=>
  obtain ⟨ax,rs,n,rfl,f,v⟩:=hx.lstD
  cases op with
  | add=>
   refine lstE hy (O_bind e) fun j ay o f' g e=>O_ite e fun c e=>?_
   obtain ⟨rs',n',rfl,v'⟩:=g
   refine PySem.P.add_list (h.fz f) (h.fz f') (k.seq (rs:=rs++rs') h (by rw [Array.toList_append];exact v'.append v) e VR.lstI) ?_
   have l:=v.len
   have l':=v'.len
   rw [Array.length_toList] at l l'
   rw [sizeLine_eq];omega
  | _=>exact e.elim
 | tup i=>
  cases op with
  | mul=>
   obtain ⟨ax,rs,n,rfl,f,v⟩:=hx.tupD
   have e:=O_bind e
   revert v
   refine oneE (M:=fun i=>F2 (VR C.w W) i rs.toList→wpAny (model pw₀ C.w) A (binaryOp .Mult (.ref ax) ry) Q noE s) e fun a e v=>?_
   refine intE hy (O_bind e) fun j u e=>O_ite e fun c e=>?_
   obtain ⟨l⟩:=rs
   obtain ⟨r,rs',rfl,v,rfl⟩:=v
   simp only [Bool.and_eq_true,decide_eq_true_eq] at c
   exact tup_mul (h.fz f) c.1 c.2 (k.seq (rs:=(List.replicate j.toNat r).toArray) h (.replicate v _) e VR.tupI)
  | _=>exact e.elim
 | _=>exact e.elim
end
end E
end Mine
end
section
namespace Mine
namespace E
open PySem PySem.W PyProof.Rows
section
variable {w:World}
theorem map_isSome {α β:Type} {m:Option α} {f:α→β} (h:(m.map f).isSome=true):∃ a,m=some a:=by cases m with
 | none=>cases h
 | some a=>exact⟨a,rfl⟩
theorem asStr_eq {v:V} {x:Sm} (h:asStr v=some x):v=.str x:=by cases v<;>cases h;rfl
theorem asInt_eq {v:V} {x:Int} (h:asInt v=some x):v=.int x:=by cases v<;>cases h;rfl
theorem asTup_eq {v:V} {x:List V} (h:asTup v=some x):v=.tup x:=by cases v<;>cases h;rfl
theorem two_eq {γ:Type} {l:List γ} {x:γ×γ} (h:two? l=some x):l=[x.1,x.2]:=match l,h with
 | [_,_],rfl=>rfl
theorem asPair_eq {v:V} {x:Int×Int} (h:asPair v=some x):v=.tup [.int x.1,.int x.2]:=by
 refine e1a2 (Option.bind_eq_some_iff.mp h) fun l h1 h=>?_
 refine e1a2 (Option.bind_eq_some_iff.mp h) fun p h2 h=>?_
 refine e1a2 (Option.bind_eq_some_iff.mp h) fun i h3 h=>?_
 refine e1a2 (Option.map_eq_some_iff.mp h) fun j h4 h=>?_
 rw [asTup_eq h1,two_eq h2,asInt_eq h3,asInt_eq h4,← h]
theorem strP:PKind w (sK w) V.str sstr where
 eq:=fun i j=>congrArg some (by
  by_cases q:i=j
  ·subst q;exact(beq_self_eq_true _).trans (decide_eq_true rfl).symm
  ·exact(beq_false_of_ne q).trans (decide_eq_false fun z=>q (sstr_inj z)).symm)
 fit:=fun i k h=>let ⟨a,e⟩:=map_isSome h;⟨a,asStr_eq e⟩
 is:=fun i r=>⟨fun⟨t,e⟩=>e▸strKind_is _ _ _ _,fun h=>Value.isStrOf_shape h⟩
 plain:=fun uu=>rfl
theorem intP:PKind w (iK w) V.int (fun i=>i) where
 eq:=fun i j=>congrArg some rfl
 fit:=fun i k h=>let ⟨a,e⟩:=map_isSome h;⟨a,asInt_eq e⟩
 is:=fun i r=>⟨fun⟨t,e⟩=>e▸intKind_is _ _ _ _,fun h=>Value.isInt_shape h⟩
 plain:=fun uu=>rfl
theorem VR.plain {W:Wd} {v:V} {r:Value} (h:plainKey v=true):VR w W v r↔SV v r:=by
 cases v with
 | int i=>exact⟨fun h=>h.out,fun h=>.mk h⟩
 | str i=>exact⟨fun h=>h.out,fun h=>.mk h⟩
 | _=>cases h
theorem PKind.vr {W:Wd} {I K:Type} [DecidableEq K] {knd:KeyKind pw₀ w K} {tv:I→V} {tk:I→K} (κ:PKind w knd tv tk) {i:I} {r:Value}:VR w W (tv i) r↔knd.is (tk i) r=true:=(VR.plain (κ.plain i)).trans (κ.is i r)
theorem dict_nil {K:Type} [DecidableEq K] {knd:KeyKind pw₀ w K} {o:Obj} (h:o.ExactDict) {ep:Nat} (e:o.data=.dict #[] ep):o.IsDictOf knd []:=⟨#[],ep,h,e,fun uu he=>absurd he (Array.not_mem_empty _),.nil,List.nodup_nil⟩
theorem dictT_nil {o:Obj} (h:o.ExactDict) {ep:Nat} (e:o.data=.dict #[] ep):IsDictT w o []:=⟨#[],ep,h,e,rfl,List.nodup_nil⟩
theorem DR.exact {P:VP} {kvs:List (V×V)} {o:Obj} (D:DR w P kvs o):o.ExactDict:=by
 cases D with
 | p _ _ h _=>exact let ⟨_,_,h,_⟩:=h;h
 | t _ h _=>exact let ⟨_,_,h,_⟩:=h;h
theorem DR.nil {P:VP} {o:Obj} (D:DR w P [] o):∃ ep,o.data=.dict #[] ep:=by
 cases D with
 | p κ rs x y=>
  cases (y:rs=[])
  refine e2a5 x fun es ep h1 h2 h3 h4 h5=>?_
  cases (Array.ext' (by cases hes:es.toList with
   | nil=>rfl
   | cons e l=>rw [hes] at h4;cases h4):es=#[])
  exact⟨ep,h2⟩
 | t xs x y=>
  cases (y:xs=[])
  refine e2a4 x fun es ep h1 h2 h3 h4=>?_
  cases (Array.ext' h3:es=#[])
  exact⟨ep,h2⟩
inductive Pick (w:World) (P:VP) (k:V) (kvs:List (V×V)) (o:Obj):Prop
 | p {I K:Type} [DecidableEq K] {knd:KeyKind pw₀ w K} {tv:I→V} {tk:I→K} (κ:PKind w knd tv tk) (i:I) (rs:List (K×Value)):k=tv i→o.IsDictOf knd rs→KR tv tk P kvs rs→Pick w P k kvs o
 | t (i j:Int) (xs:List (List Int×Addr×Value)):k=.tup [.int i,.int j]→IsDictT w o xs→KT P kvs xs→Pick w P k kvs o
noncomputable def fits (k:V):List (V×V)→Bool
 | []=>isKey k
 | p::_=>(kEq p.1 k).isSome
theorem DR.pick {P:VP} {k:V} {kvs:List (V×V)} {o:Obj} (D:DR w P kvs o) (h:fits k kvs=true):Pick w P k kvs o:=by
 cases kvs with
 | nil=>
  refine ex1 D.nil fun ep e=>?_
  rcases (Bool.or_eq_true _ _).mp h with h | h
  ·cases k with
   | int i=>exact .p intP i [] rfl (dict_nil D.exact e) .nil
   | str i=>exact .p strP i [] rfl (dict_nil D.exact e) .nil
   | _=>cases h
  ·refine ex1 (Option.isSome_iff_exists.mp h) fun x q=>?_
   exact .t x.1 x.2 [] (asPair_eq q) (dictT_nil D.exact e) .nil
 | cons p r=>
  have h:(kEq p.1 k).isSome=true:=h
  cases D with
  | p κ rs x y=>
   obtain ⟨q,rs', -,⟨⟨i,ei, -⟩, -⟩, -⟩:=id y
   rw [ei] at h
   refine ex1 (κ.fit i k h) fun j e=>?_
   exact .p κ j rs e x y
  | t xs x y=>
   obtain ⟨q,rs', -,⟨⟨i,j,ei, -⟩, -⟩, -⟩:=id y
   rw [ei] at h
   refine ex1 (map_isSome (m:=asPair k) h) fun a e=>?_
   exact .t a.1 a.2 xs (asPair_eq e) x y
noncomputable def Hit (P:VP) (res:Option V) (ov:Option Value):Prop:=match res with
 | .none=>ov=none
 | some v=>∃ r,ov=some r∧P v r
theorem valueAt_cons {K:Type} [DecidableEq K] {a k:K} {r:Value} {rs:List (K×Value)}:valueAt ((a,r)::rs) k=if a=k then some r else valueAt rs k:=by
 unfold valueAt
 rw [List.find?_cons]
 by_cases q:a=k
 ·rw [if_pos q,decide_eq_true q];rfl
 ·rw [if_neg q,decide_eq_false q]
theorem dGet_KR {P:VP} {I K:Type} [DecidableEq K] {knd:KeyKind pw₀ w K} {tv:I→V} {tk:I→K} (κ:PKind w knd tv tk) {a:I} {res:Option V}:∀ {kvs:List (V×V)} {rs:List (K×Value)},KR tv tk P kvs rs→dGet (tv a) kvs=some res→Hit P res (valueAt rs (tk a))
 | [],_,h,e=>h.nilE (by
  have e:(if isKey (tv a) then some none else none)=some res:=e
  rw [if_pos (by unfold isKey;rw [κ.plain a];rfl)] at e
  cases e;rfl)
 | p::kvs,_,h,e=>h.consE fun q rs h1 h2=>by
  obtain ⟨k,x⟩:=p
  obtain ⟨y,r⟩:=q
  obtain ⟨⟨i,rfl,rfl⟩,hv⟩:=h1
  have e:(kEq (tv i) (tv a)).bind (fun b=>match b with | true=>some (some x) | false=>dGet (tv a) kvs)=some res:=e
  rw [κ.eq] at e
  rw [valueAt_cons]
  by_cases z:tk i=tk a
  ·rw [decide_eq_true z] at e
   rw [if_pos z]
   cases e;exact⟨r,rfl,hv⟩
  ·rw [decide_eq_false z] at e
   rw [if_neg z]
   exact dGet_KR κ h2 e
theorem dGet_KT {P:VP} {a c:Int} {res:Option V}:∀ {kvs:List (V×V)} {rs:List (List Int×Addr×Value)},KT P kvs rs→dGet (.tup [.int a,.int c]) kvs=some res→Hit P res ((atKey rs [a,c]).map (fun uu=>uu.2))
 | [],_,h,e=>h.nilE (by cases e;rfl)
 | p::kvs,_,h,e=>h.consE fun q rs h1 h2=>by
  obtain ⟨k,x⟩:=p
  obtain ⟨y,ad,r⟩:=q
  obtain ⟨⟨i,j,rfl,rfl⟩, -,hv⟩:=h1
  have e:(match ((i,j)==(a,c):Bool) with | true=>some (some x) | false=>dGet (.tup [.int a,.int c]) kvs)=some res:=e
  unfold atKey at *
  rw [List.find?_cons]
  by_cases z:(i,j)=(a,c)
  ·cases z
   rw [beq_self_eq_true] at e
   rw [decide_eq_true rfl]
   cases e;exact⟨r,rfl,hv⟩
  ·rw [beq_false_of_ne z] at e
   rw [decide_eq_false fun q=>z (by cases q;rfl)]
   exact dGet_KT h2 e
theorem dGet_fits {k:V} {res:Option V}:∀ {kvs:List (V×V)},dGet k kvs=some res→fits k kvs=true
 | [],e=>by
  by_cases q:isKey k=true
  ·exact q
  ·exact nomatch (if_neg q).symm.trans e
 | p::kvs,e=>by
  refine e1a2 (Option.bind_eq_some_iff.mp e) fun b h uu=>?_
  show (kEq p.1 k).isSome=true
  rw [h];rfl
inductive Look (w:World) (P:VP) (h:Heap) (d:Addr) (rk:Value) (res:Option V):Prop
 | p {K:Type} [DecidableEq K] (knd:KeyKind pw₀ w K) (x:K) (rs:List (K×Value)):knd.is x rk=true→h.DictOf knd d rs→Hit P res (valueAt rs x)→Look w P h d rk res
 | t (x:List Int) (a:Addr) (rs:List (List Int×Addr×Value)):rk=.ref a→(tK w).is h x a→h.DictOfH (tK w) d rs→Hit P res ((atKey rs x).map (fun uu=>uu.2))→Look w P h d rk res
variable {D:Dx} {W:Wd} {σ:St} {s:Shared}
theorem tupKey {h:Heap} (H:∀ a o,W.pl a=.fz o→h.get? a=some o) {i j:Int} {r:Value} (x:VR w W (.tup [.int i,.int j]) r):∃ ad,r=.ref ad∧(tK w).is h [i,j] ad:=by
 obtain ⟨ad,⟨l⟩,k,rfl,f,v⟩:=x.tupD
 obtain ⟨r1,rs1,rfl,v1,r2,rs2,rfl,v2,rfl⟩:=v
 refine ex1 v1.out fun t qq0=>?_;subst qq0
 refine ex1 v2.out fun u qq0=>?_;subst qq0
 exact⟨ad,rfl,_,_,_,H _ _ f,rfl,rfl,.cons (intKind_is _ _ _ _) (.cons (intKind_is _ _ _ _) .nil)⟩
theorem KT.keys {h:Heap} (H:∀ a o,W.pl a=.fz o→h.get? a=some o):∀ {kvs:List (V×V)} {rs:List (List Int×Addr×Value)},KT (VR w W) kvs rs→∀ x∈rs,(tK w).is h x.1 x.2.1
 | [],_,h=>h.nilE (fun uu hx=>nomatch hx)
 | _::_,_,h=>h.consE fun q rs h1 h2 x hx=>by
  rcases List.mem_cons.mp hx with rfl | hx
  ·obtain ⟨⟨i,j,e,e'⟩,h3, -⟩:=h1
   rw [e] at h3
   refine e1a2 (tupKey H h3) fun ad q1 q2=>?_
   cases q1
   rw [e'];exact q2
  ·exact KT.keys H h2 x hx
theorem dGet_at {h:Heap} {d:Addr} {o:Obj} {k:V} {kvs:List (V×V)} {res:Option V} {rk:Value} (H:∀ a o,W.pl a=.fz o→h.get? a=some o)
  (hd:h.get? d=some o) (X:DR w (VR w W) kvs o) (e:dGet k kvs=some res) (hk:VR w W k rk):Look w (VR w W) h d rk res:=by
 cases X.pick (dGet_fits e) with
 | p κ i rs e1 x y=>
  subst e1
  exact .p _ _ rs (κ.vr.mp hk) (Heap.dictOf_iff.mpr ⟨o,hd,x⟩) (dGet_KR κ y e)
 | t i j xs e1 x y=>
  subst e1
  refine e1a2 (tupKey H hk) fun ad qq0 q=>?_;subst qq0
  refine e2a4 x fun es ep h1 h2 h3 h4=>?_
  exact .t [i,j] ad xs rfl q ⟨o,es,ep,hd,h1,h2,h3,KT.keys H y,h4⟩ (dGet_KT y e)
theorem refE {γ:Type} {M:Value→Prop} {n:Nat} {r:Value} {f:MObj→Option γ} {K:γ→Prop} (R:Rel D W σ s) (hv:VR D.w W (.ref n) r) (h:O ((σ.objs n).bind f) K) (k:∀ a d m,σ.objs n=some m→W.mu n=some (a,d)→MR D.w W s.heap a d m→O (f m) K→M (.ref a)):M r:=by
 refine e2a2 hv.out fun a d qq0 hm=>?_;subst qq0
 refine O_elim (O_bind h) fun m e h=>?_
 refine e2a4 (R.obj n m e) fun a' d' e1 uu uu N=>?_
 cases hm.symm.trans e1
 exact k a d m e hm N h
@[elab_as_elim] theorem seqE {M:Value→Prop} {v:V} {r:Value} {K:List V→Prop} (R:Rel D W σ s) (hv:VR D.w W v r) (h:O (asSeq σ v) K)
  (k:∀ vs a rs n T,s.heap.get? a=some ⟨.type T,none,.seq rs n,#[]⟩→(T="list"∨T="tuple")→F2 (VR D.w W) vs rs.toList→K vs→M (.ref a)):M r:=by
 cases v with
 | tup l=>obtain ⟨a,rs,n,rfl,f,g⟩:=hv.tupD;exact k l a rs n _ (R.fz f) (.inr rfl) g h
 | lst l=>obtain ⟨a,rs,n,rfl,f,g⟩:=hv.lstD;exact k l a rs n _ (R.fz f) (.inl rfl) g h
 | ref n=>
  refine refE R hv h fun a d m uu uu N h=>?_
  cases m with
  | list vs=>obtain ⟨-,o,g,rs,n,rfl,q⟩:=N;exact k vs a rs n _ g (.inl rfl) q h
  | _=>exact h.elim
 | _=>exact h.elim
@[elab_as_elim] theorem dictE {M:Value→Prop} {v:V} {r:Value} {K:List (V×V)→Prop} (R:Rel D W σ s) (hv:VR D.w W v r) (h:O (asDict σ v) K)
  (k:∀ kvs a o,s.heap.get? a=some o→(a==sysModules)=false→DR D.w (VR D.w W) kvs o→K kvs→M (.ref a)):M r:=by
 cases v with
 | dct l=>obtain ⟨a,o,rfl,f,q,X⟩:=hv.out;exact k l a o (R.fz f) q X h
 | ref n=>
  refine refE R hv h fun a d m uu uu N h=>?_
  cases m with
  | dict vs=>obtain ⟨-,o,g,q,X⟩:=N;exact k vs a o g q X h
  | _=>exact h.elim
 | _=>exact h.elim
@[elab_as_elim] theorem instE {M:Value→Prop} {v:V} {r:Value} {K:Gl×List (Nm×V)→Prop} (R:Rel D W σ s) (hv:VR D.w W v r) (h:O (asInst σ v) K)
  (k:∀ c fs a d od,s.heap.get? a=some (instObj (gaddr c) d)→s.heap.get? d=some od→FldO D.w (VR D.w W) fs od→K (c,fs)→M (.ref a)):M r:=by
 cases v with
 | inst c l=>obtain ⟨a,o,rfl,f,d,od,rfl,g,q⟩:=hv.out;exact k c l a d od (R.fz f) (R.fz g) q h
 | ref n=>
  refine refE R hv h fun a d m uu uu N h=>?_
  cases m with
  | inst c vs=>obtain ⟨g, -,od,g',q⟩:=N;exact k c vs a d od g g' q h
  | _=>exact h.elim
 | _=>exact h.elim
end
end E
end Mine
end
section
namespace Mine
namespace E
open PySem PySem.W PyProof.Rows
section
variable {C:Cx} {W:Wd} {σ:St} {s:Shared} {A:Around} {x y v:V} {rx ry r:Value} {D:Dx}
theorem AOk.room {n:Nat} (a:AOk A n):A.units + 9 < cLine:=by have:=a.units;show A.units + 9 < 9900;omega
theorem isList_at {h:Heap} {a:Addr} {rs:Array Value} {k:Nat} (e:h.get? a=some ⟨.type "list",none,.seq rs k,#[]⟩):h.IsList a rs:=⟨_,e,rfl,_,rfl⟩
theorem isTuple_at {h:Heap} {a:Addr} {rs:Array Value} {k:Nat} (e:h.get? a=some ⟨.type "tuple",none,.seq rs k,#[]⟩):h.IsTuple a rs:=⟨_,e,rfl,_,rfl⟩
theorem F2.at {P:VP} {vs:List V} {rs:Array Value} (h:F2 P vs rs.toList) {j:Nat} (hj:j < rs.size):∃ v,vs[j]?=some v∧P v rs[j]:=by
 have l:rs.size=vs.length:=h.len
 refine e1a2 (h.get (List.getElem?_eq_getElem (l▸hj))) fun r e1 e2=>?_
 have e:rs[j]=r:=Option.some.inj ((Array.getElem?_eq_getElem hj).symm.trans (Array.getElem?_toList.symm.trans e1))
 exact⟨_,List.getElem?_eq_getElem (l▸hj),e▸e2⟩
theorem all2_spec {f:V→V→Option Bool}:∀ {xs ys:List V} {K:Bool→Prop},O (all2 f xs ys) K→∃ e:Nat→Bool,(∀(j:Nat) x y,xs[j]?=some x→ys[j]?=some y→O (f x y) fun b=>b=e j)∧K ((List.range (min xs.length ys.length)).all e&&xs.length==ys.length)
 | [],[],K,h=>⟨fun uu=>true,fun uu uu uu e=>(nomatch e),h⟩
 | [],_::_,K,h=>⟨fun uu=>true,fun uu uu uu e=>(nomatch e),h⟩
 | _::_,[],K,h=>⟨fun uu=>true,fun uu uu uu uu e=>(nomatch e),h⟩
 | x::xs,y::ys,K,h=>by
  refine O_elim (O_bind h) fun p e1 h=>?_
  refine e1a2 (all2_spec (O_map h)) fun e he hK=>?_
  refine ⟨fun j=>match j with | 0=>p | j + 1=>e j,fun j a b h1 h2=>?_,?_⟩
  ·cases j with
   | zero=>cases h1;cases h2;exact O_of e1 rfl
   | succ j=>exact he j a b h1 h2
  ·rw [List.length_cons,List.length_cons,Nat.add_min_add_right,List.range_succ_eq_map,List.all_cons,List.all_map]
   rw [show (xs.length + 1==ys.length + 1)=(xs.length==ys.length) from by simp,Bool.and_assoc]
   exact hK
structure EqO (A:Around) (s:Shared) (rx ry:Value) (b:Bool):Prop where
 same:rx=ry→b=true
 rc:SeqAt.RcAt A s rx ry b
 rn:SeqAt.RcNeAt A s rx ry (!b)
 eq:SeqAt.EqAt A s rx ry b
theorem EqO.refs {a b:Addr} {c:Bool} (h:a=b→c=true) (rc:SeqAt.RcAt A s (.ref a) (.ref b) c) (rn:SeqAt.RcNeAt A s (.ref a) (.ref b) (!c)):EqO A s (.ref a) (.ref b) c:=
 ⟨fun e=>h (by cases e;rfl),rc,rn,by
  by_cases q:a=b
  ·subst q;rw [h rfl];exact SeqAt.EqAt.same _
  ·exact SeqAt.EqAt.of_refs q rc⟩
theorem veq_at (H:∀ a o,W.pl a=.fz o→s.heap.get? a=some o):∀(k:Nat) {A:Around} {x y:V} {rx ry:Value} {K:Bool→Prop},A.units + k < cLine→O (veqN k x y) K→VR C.w W x rx→VR C.w W y ry→∃ b,K b∧EqO A s rx ry b
 | 0,A,x,y,rx,ry,K,u,e,hx,hy=>e.elim
 | k + 1,A,x,y,rx,ry,K,u,e,hx,hy=>by
  have go:∀ {T:String} {xs ys:List V} {rs rs':Array Value} {e':Nat→Bool},F2 (VR C.w W) xs rs.toList→F2 (VR C.w W) ys rs'.toList→(∀(j:Nat) x y,xs[j]?=some x→ys[j]?=some y→O (veqN k x y) fun b=>b=e' j)→∀ j (h1:j < rs.size) (h2:j < rs'.size),EqO A.in1 s rs[j] rs'[j] (e' j):=fun v1 v2 he j h1 h2=>by
   refine e1a2 (v1.at h1) fun x ex px=>?_
   refine e1a2 (v2.at h2) fun y ey py=>?_
   obtain ⟨b,rfl,q⟩:=veq_at H k (A:=A.in1) (by show A.units + 1 + k < cLine;omega) (he j x y ex ey) px py
   exact q
  cases x with
  | int i=>
   refine ex1 hx.out fun t qq0=>?_;subst qq0
   exact intE hy (O_map e) fun j u h=>⟨_,h,fun q=>by cases q;exact beq_self_eq_true _,SeqAt.RcAt.int_int _ _ _ _,SeqAt.RcNeAt.int_int _ _ _ _,SeqAt.EqAt.int_int _ _ _ _⟩
  | str i=>
   refine ex1 hx.out fun t qq0=>?_;subst qq0
   refine strE hy (O_map e) fun j u h=>⟨_,h,?_⟩
   have hb:(i==j)=(sstr i==sstr j):=by
    by_cases q:i=j
    ·subst q;rw [beq_self_eq_true,beq_self_eq_true]
    ·rw [beq_false_of_ne q,beq_false_of_ne fun z=>q (sstr_inj z)]
   rw [hb]
   exact⟨fun q=>by injection q with q;rw [q];exact beq_self_eq_true _,SeqAt.RcAt.str_str _ _ _ _,SeqAt.RcNeAt.str_str _ _ _ _,SeqAt.EqAt.str_str _ _ _ _⟩
  | tup xs=>
   refine ex3 hx.tupD fun ax rs kx hh=>an3 hh fun qq0 f1 v1=>?_;subst qq0
   refine tupE hy (O_bind e) fun ys ay o f2 g h=>?_
   refine e2a2 g fun rs' ky qq0 v2=>?_;subst qq0
   refine e1a2 (all2_spec h) fun e' he hK=>?_
   have hj:=go (T:="tuple") v1 v2 he
   have l1:rs.size=xs.length:=v1.len
   have l2:rs'.size=ys.length:=v2.len
   rw [← l1,← l2] at hK
   refine ⟨_,hK,.refs (fun q=>?_) (SeqAt.RcAt.tuples (e:=e') (isTuple_at (H _ _ f1)) (isTuple_at (H _ _ f2)) (by omega) fun j h1 h2=>(hj j h1 h2).eq) (SeqAt.RcNeAt.tuples (e:=e') (isTuple_at (H _ _ f1)) (isTuple_at (H _ _ f2)) (by omega) fun j h1 h2=>(hj j h1 h2).eq)⟩
   subst q
   cases f1.symm.trans f2
   rw [Nat.min_self,beq_self_eq_true,Bool.and_true,List.all_eq_true]
   exact fun j hm=>(hj j (List.mem_range.mp hm) (List.mem_range.mp hm)).same rfl
  | lst xs=>
   refine ex3 hx.lstD fun ax rs kx hh=>an3 hh fun qq0 f1 v1=>?_;subst qq0
   refine lstE hy (O_bind e) fun ys ay o f2 g h=>?_
   refine e2a2 g fun rs' ky qq0 v2=>?_;subst qq0
   have l1:rs.size=xs.length:=v1.len
   have l2:rs'.size=ys.length:=v2.len
   by_cases hl:xs.length=ys.length
   ·rw [if_pos hl] at h
    refine e1a2 (all2_spec h) fun e' he hK=>?_
    have hj:=go (T:="list") v1 v2 he
    rw [← hl,Nat.min_self,beq_self_eq_true,Bool.and_true,← l1] at hK
    refine ⟨_,hK,.refs (fun q=>?_) (SeqAt.RcAt.lists (e:=e') (isList_at (H _ _ f1)) (isList_at (H _ _ f2)) (by omega) (by omega) fun j h1 h2=>(hj j h1 h2).eq) (SeqAt.RcNeAt.lists (e:=e') (isList_at (H _ _ f1)) (isList_at (H _ _ f2)) (by omega) (by omega) fun j h1 h2=>(hj j h1 h2).eq)⟩
    subst q
    cases f1.symm.trans f2
    rw [List.all_eq_true]
    exact fun j hm=>(hj j (List.mem_range.mp hm) (List.mem_range.mp hm)).same rfl
   ·rw [if_neg hl] at h
    have hne:(rs.size !=rs'.size)=true:=bne_iff_ne.mpr fun q=>hl (by omega)
    refine ⟨_,h,.refs (fun q=>?_) (SeqAt.RcAt.lists_lengths (isList_at (H _ _ f1)) (isList_at (H _ _ f2)) hne (by omega)) (SeqAt.RcNeAt.lists_lengths (isList_at (H _ _ f1)) (isList_at (H _ _ f2)) hne (by omega))⟩
    subst q
    cases f1.symm.trans f2
    exact absurd rfl (bne_iff_ne.mp hne)
  | _=>exact e.elim
theorem VR.isNone (h:VR C.w W x r):(r== .none)=isNone x:=by
 cases x with
 | none=>cases (h.out:_=_);rfl
 | bool b=>cases (h.out:_=_);rfl
 | glob g=>cases (h.out:_=_);show (gvalue g==Value.none)=false;simpa using glP (p:=fun g=> !(gvalue g==Value.none)) (by decide +kernel) g
 | int i=>obtain ⟨t,rfl⟩:=h.out;rfl
 | str i=>obtain ⟨t,rfl⟩:=h.out;rfl
 | bytes i=>obtain ⟨t,rfl⟩:=h.out;rfl
 | _=>obtain ⟨a,o,rfl,_⟩:=h.out;rfl
noncomputable def cmpOf:COp→CmpOp
 | .eq=>.Eq | .ne=>.NotEq | .lt=>.Lt | .le=>.LtE | .gt=>.Gt | .ge=>.GtE | .is_=>.Is | .isnot=>.IsNot | .in_=>.In | .notin=>.NotIn
theorem strs_ok:∀ {vs:List V} {rs:List Value} {K:List Sm→Prop},F2 (VR C.w W) vs rs→O (strs? vs) K→∃ l,K l∧StrsAre rs (l.map sstr)
 | [],_,K,h,e=>h.nilE ⟨[],e,.nil⟩
 | v::vs,_,K,h,e=>h.consE fun r rs h1 h2=>strE h1 (O_bind e) fun i t e=>by
  refine e1a2 (strs_ok h2 (O_map e)) fun l q1 q2=>?_
  exact⟨i::l,q1,.cons _ _ q2⟩
noncomputable def prO (p:Int×Int):Option Obj→Bool
 | some ⟨_,_,.seq ⟨[.int i _,.int j _]⟩ _,_⟩=>(i,j)==p
 | _=>false
noncomputable def pairIs (h:Heap) (p:Int×Int) (v:Value):Bool:=match v with
 | .ref a=>prO p (h.get? a)
 | _=>false
theorem prs_ok (H:∀ a o,W.pl a=.fz o→s.heap.get? a=some o) (u:A.units + 2 < cLine) {p:Int×Int} (hx:VR C.w W (.tup [.int p.1,.int p.2]) rx):∀ {vs:List V} {rs:List Value} {K:List (Int×Int)→Prop},F2 (VR C.w W) vs rs→O (prs? vs) K→∃ l,K l∧rs.any (pairIs s.heap p)=l.any (fun uu=>uu==p)∧∀ y∈rs,SeqAt.EqAt A s y rx (pairIs s.heap p y)
 | [],_,K,h,e=>h.nilE ⟨[],e,rfl,fun uu hy=>nomatch hy⟩
 | v::vs,_,K,h,e=>h.consE fun r rs h1 h2=>O_elim (O_bind e) fun q e1 e=>by
  refine e1a3 (prs_ok H u hx h2 (O_map e)) fun l q1 q2 q3=>?_
  cases asPair_eq e1
  have e2:pairIs s.heap p r=(q==p):=by
   obtain ⟨ad,⟨l⟩,k,rfl,f,v⟩:=h1.tupD
   obtain ⟨r1,rs1,rfl,v1,r2,rs2,rfl,v2,rfl⟩:=v
   refine ex1 v1.out fun t qq0=>?_;subst qq0
   refine ex1 v2.out fun u qq0=>?_;subst qq0
   exact congrArg (prO p) (H _ _ f)
  refine ⟨q::l,q1,by rw [List.any_cons,List.any_cons,q2,e2],fun y hy=>?_⟩
  rcases List.mem_cons.mp hy with rfl | hy
  ·obtain ⟨b,z1,z2⟩:=veq_at (C:=C) H 2 (K:=fun b=>b=(q==p)) u (show (q.1==p.1&&(q.2==p.2&&true))=(q==p) from by rw [Bool.and_true];rfl) h1 hx
   rw [e2,← z1];exact z2.eq
  ·exact q3 y hy
end
end E
end Mine
end
section
namespace Mine
namespace E
open PySem PySem.W PyProof.Rows
section
variable {C:Cx} {W:Wd} {σ:St} {s:Shared} {A:Around} {x y v:V} {rx ry r:Value}
noncomputable abbrev OpB (C:Cx) (W:Wd) (t:Sem Value) (o:St→Option Bool):Prop:=Sim C W (VR C.w) (C.run t) fun σ K=>O (o σ) fun b=>K (.bool b) σ
theorem Hit.some {P:VP} {res:Option V} {ov:Option Value} (h:Hit P res ov):ov.isSome=res.isSome:=by
 cases res with
 | none=>cases (h:ov=none);rfl
 | some v=>obtain ⟨r,rfl, -⟩:=h;rfl
theorem look (h:Rel C.D W σ s) {k:V} {rk:Value} (hk:VR C.w W k rk) {kvs:List (V×V)} {a:Addr} {o:Obj} (g:s.heap.get? a=some o) (X:DR C.w (VR C.w W) kvs o) {K:Option V→Prop} (e:O (dGet k kvs) K) {G:Prop} (go:∀ res,K res→Look C.w (VR C.w W) s.heap a rk res→G):G:=
 O_elim e fun res e q=>go res q (dGet_at (fun uu uu=>h.fz) g X e hk)
theorem memS {K:V→St→Prop} {Q:Value→Shared→Prop} (hx:VR C.w W x rx) (hy:VR C.w W y ry) (a:AOk A C.n) (h:Rel C.D W σ s) (e:O (memV σ x y) fun b=>K (.bool b) σ) (k:Kt C W (VR C.w) K Q):wpAny (model pw₀ C.w) A (compareOp .In rx ry) Q noE s:=by
 have room:=a.room
 unfold memV at e
 cases hd:asDict σ y with
 | some kvs=>
  rw [hd] at e
  refine dictE h hy (O_of hd (K:=fun l=>l=kvs) rfl) fun l ad o g hm X hl=>?_
  subst hl
  refine look h hx g X (O_map e) fun res q L=>?_
  cases L with
  | p knd x rs i d hit=>exact wpAny_in_of i hm d.mapOf (by rw [hit.some];exact k.tok h .boolI q)
  | t x ak rs hr i d hit=>
   subst hr
   refine wpAny_in_heap (knd:=tK C.w) (by show A.units + 1 < cLine;omega) i hm d ?_
   have:=hit.some
   rw [Option.isSome_map] at this
   rw [this];exact k.tok h .boolI q
 | none=>
  rw [hd] at e
  cases hs:asStr x with
  | some i=>
   rw [hs] at e
   cases asStr_eq hs
   refine ex1 hx.out fun t qq0=>?_;subst qq0
   refine tupE hy (O_bind e) fun vs ad o f g e=>?_
   refine e2a2 g fun rs n qq0 F=>?_;subst qq0
   obtain ⟨l,q,z⟩:=strs_ok F (O_map e)
   refine in_tuple_strs (ht:=⟨_,h.fz f,rfl,_,rfl⟩) z (k.here h .boolI ?_)
   rw [List.any_map]
   rw [show ((fun y:Str=>y==sstr i) ∘ sstr)=fun y=>y==i from funext fun y=>by
    by_cases e:y=i
    ·subst e;exact(beq_self_eq_true _).trans (beq_self_eq_true _).symm
    ·exact(beq_false_of_ne fun z=>e (sstr_inj z)).trans (beq_false_of_ne e).symm]
   exact q
  | none=>
   rw [hs] at e
   refine seqE h hy (O_bind e) fun vs ad rs n T g hT F e=>?_
   refine O_elim (O_bind e) fun p e1 e=>?_
   cases asPair_eq e1
   obtain ⟨l,q,z1,z2⟩:=prs_ok (A:=A.in1) (fun uu uu=>h.fz) (by show A.units + 1 + 2 < cLine;omega) hx F (O_map e)
   have q':K (.bool (rs.any (pairIs s.heap p))) σ:=by rw [← Array.any_toList,z1];exact q
   rcases hT with rfl | rfl
   ·exact SeqAt.in_listAt _ (isList_at g) (fun y hy=>z2 y (Array.mem_toList_iff.mpr hy)) (k.here h .boolI q')
   ·exact SeqAt.in_tupleAt _ (isTuple_at g) (fun y hy=>z2 y (Array.mem_toList_iff.mpr hy)) (k.here h .boolI q')
theorem cmpS {op:COp} (hx:VR C.w W x rx) (hy:VR C.w W y ry):OpB C W (compareOp (cmpOf op) rx ry) fun σ=>cmpV σ op x y:=fun A σ s K Q a h e k=>by
 cases op with
 | eq=>
  obtain ⟨b,q,E⟩:=veq_at (fun uu uu=>h.fz) 8 (Nat.lt_of_succ_lt a.room) e hx hy
  exact E.rc _ _ _ _ (k.here h .boolI q)
 | ne=>
  obtain ⟨b,q,E⟩:=veq_at (fun uu uu=>h.fz) 8 (Nat.lt_of_succ_lt a.room) (O_map e) hx hy
  exact EqBoolInt.of_rcne E.rn (k.here h .boolI q)
 | lt=>exact intE hx (O_bind e) fun i t e=>intE hy (O_bind e) fun j u e=>lt_int (k.here h .boolI e)
 | le=>exact intE hx (O_bind e) fun i t e=>intE hy (O_bind e) fun j u e=>le_int (k.here h .boolI e)
 | gt=>exact intE hx (O_bind e) fun i t e=>intE hy (O_bind e) fun j u e=>gt_int (k.here h .boolI e)
 | ge=>exact intE hx (O_bind e) fun i t e=>intE hy (O_bind e) fun j u e=>ge_int (k.here h .boolI e)
 | is_=>
  refine O_ite e fun c e=>?_
  cases beq_iff_eq.mp (hy.isNone.trans c)
  exact is_none (k.here h .boolI (by rw [hx.isNone];exact e))
 | isnot=>
  refine O_ite e fun c e=>?_
  cases beq_iff_eq.mp (hy.isNone.trans c)
  exact isNot_none (k.here h .boolI (by rw [hx.isNone];exact e))
 | in_=>exact memS hx hy a h e k
 | notin=>
  refine strE hx (O_bind e) fun i t e=>dictE h hy (O_bind e) fun kvs ad o g hm X e=>?_
  refine look h (VR.strI (i:=i) (t:=t)) g X (O_map e) fun res q L=>?_
  cases L with
  | p knd x rs i d hit=>exact wpAny_notIn_of i hm d.mapOf (by rw [hit.some];exact k.tok h .boolI q)
  | t x ak rs hr i d hit=>cases hr
theorem empty_eq {P:VP} {vs:List V} {rs:Array Value} (h:F2 P vs rs.toList):rs.isEmpty=vs.isEmpty:=by
 obtain ⟨l⟩:=rs
 cases vs with
 | nil=>cases (h:l=[]);rfl
 | cons v vs=>obtain ⟨r,rs,e, -⟩:=h;cases (e:l=_);rfl
theorem truthS (hv:VR C.w W v r):Sim C W EqB (C.run (PySem.truthy r)) fun σ K=>O (truthy v) fun b=>K b σ:=fun A σ s K Q a h e k=>by
 cases v with
 | bool b=>cases (hv.out:_=_);exact wpAny_truthy_bool (k.here (v₁:=b) h rfl e)
 | tup vs=>
  refine ex3 hv.tupD fun ad rs n hh=>an3 hh fun qq0 f F=>?_;subst qq0
  refine O_ite e fun c e=>truthy_tuple (isTuple_at (h.fz f)) (by have:=F.len;rw [Array.length_toList] at this;omega) (k.tok h rfl ?_)
  rw [empty_eq F];exact e
 | lst vs=>
  refine ex3 hv.lstD fun ad rs n hh=>an3 hh fun qq0 f F=>?_;subst qq0
  refine O_ite e fun c e=>wpAny_truthy_list (isList_at (h.fz f)) (by have:=F.len;rw [Array.length_toList] at this;omega) (k.tok h rfl ?_)
  rw [empty_eq F];exact e
 | _=>exact e.elim
end
end E
end Mine
end
section
namespace Mine
namespace E
open PySem PySem.W PyProof.Rows
noncomputable def clsL:List Gl:=[(.A .x1),(.A .x4),(.A .xa),(.B .x2),(.B .xc),(.C .x4),(.C .x6),(.C .xc),(.D .x2),(.D .x4),(.D .xa),(.D .xc),(.E .x1),(.E .x3),(.E .x6),(.E .x8),(.E .xc)]
noncomputable def nmAll:List Nm:=nmTab.map (fun uu=>uu.2)
noncomputable def pairsOf (f:Gl→Nm→Bool):List (Gl×Nm):=clsL.flatMap fun c=>(nmAll.filter (f c)).map fun n=>(c,n)
theorem of_map_eq {α β:Type} {f g:α→β}:∀ {l:List α},l.map f=l.map g→∀ x∈l,f x=g x
 | [],_,x,h=>by cases h
 | a::l,e,x,h=>by
  simp only [List.map_cons,List.cons.injEq] at e
  rcases List.mem_cons.mp h with rfl | h
  ·exact e.1
  ·exact of_map_eq e.2 x h
theorem nmAll_mem (n:Nm):n∈nmAll:=by
 have:=nmTab_ok n
 have h:∀ {l:List (Str×Nm)} {k:Str},l.lookup k=some n→n∈l.map (fun uu=>uu.2):=by
  intro l
  induction l with
  | nil=>intro k h;cases h
  | cons p l ih=>
   intro k h
   obtain ⟨a,b⟩:=p
   simp only [List.lookup] at h
   split at h
   ·cases h;exact List.mem_cons_self ..
   ·exact List.mem_cons_of_mem _ (ih h)
 exact h this
theorem isField_cls {c:Gl} {n:Nm} (h:isField c n=true):c∈clsL:=by
 have:=glP (p:=fun c=>(fieldsOf c).isEmpty||clsL.contains c) (by decide +kernel) c
 rcases (Bool.or_eq_true _ _).mp this with e | e
 ·unfold isField at h
  rw [List.isEmpty_iff.mp e] at h
  cases h
 ·exact glMem e
theorem pairsOf_mem {f:Gl→Nm→Bool} {c:Gl} {n:Nm} (hc:c∈clsL) (h:f c n=true):(c,n)∈pairsOf f:=by
 unfold pairsOf
 exact List.mem_flatMap.mpr ⟨c,hc,List.mem_map.mpr ⟨n,List.mem_filter.mpr ⟨nmAll_mem n,h⟩,rfl⟩⟩
theorem st_ga (P:Params):clsL.map (fun c=>findIn (KC P) (.ref (gaddr c)) "__getattribute__")=clsL.map fun uu=>some (some (.builtin "object.__getattribute__")):=by kernel_rfl
theorem st_cd (P:Params):clsL.map (fun c=>(clsIn (KC P) (gaddr c)).map (fun uu=>uu.hasDict))=clsL.map fun uu=>some true:=by kernel_rfl
theorem st_fields (P:Params):(pairsOf isField).map (fun p=>findIn (KC P) (.ref (gaddr p.1)) (nstr p.2))=(pairsOf isField).map fun uu=>some none:=by kernel_rfl
theorem st_sa (P:Params):clsL.map (fun c=>findIn (KC P) (.ref (gaddr c)) "__setattr__")=clsL.map fun uu=>some (some (.builtin "object.__setattr__")):=by kernel_rfl
theorem st_po (P:Params):clsL.map (fun c=>plainOver (KC P) (gaddr c))=clsL.map fun uu=>true:=by kernel_rfl
theorem sstr_len:∀ x:Sm,(((sstr x).length:Int) !=0)=(x !=(.A .x0))∧((sstr x).length:Int) < 9223372036854775808:=fun x=>
 of_decide_eq_true (smP (p:=fun x=>decide ((((sstr x).length:Int) !=0)=(x !=(.A .x0))∧((sstr x).length:Int) < 9223372036854775808)) (by decide +kernel) x)
section
variable {w:World} {s:Shared}
theorem instAt_of {a d:Addr} {od:Obj} {c:Gl} {h:Heap} (h1:h.get? a=some (instObj (gaddr c) d)) (h2:h.get? d=some od):PySem.W.InstAt h a (instObj (gaddr c) d) (gaddr c) (some od):=⟨h1,rfl,rfl,h2⟩
theorem strEntry {k:Str} {v:Value} (h:(sK w).is k v=true):∃ t,v=.str k t:=Value.isStrOf_shape h
theorem lookIn_of {od:Obj} {rs:List (Str×Value)} (h:od.IsDictOf (sK w) rs) (name:Str):lookIn name od=some (valueAt rs name):=by
 refine e2a5 h fun es ep h1 h2 h3 h4 h5=>?_
 unfold lookIn
 rw [h2]
 dsimp only
 have key:∀ {l:List DictEntry} {rs:List (Str×Value)},Pairs (sK w) l rs→(∀ e∈l,∃ x t,e.key=.str x t)∧(l.find? fun e=>e.key.isStr name).map (fun uu=>uu.val)=valueAt rs name:=by
  intro l rs p
  induction p with
  | nil=>exact⟨fun e h=>(by cases h),rfl⟩
  | @cons e kv es kvs h1 h2 _ ih=>
   refine ex1 (strEntry h1) fun t ht=>?_
   refine ⟨fun e' he=>?_,?_⟩
   ·rcases List.mem_cons.mp he with rfl | he
    ·exact⟨_,_,ht⟩
    ·exact ih.1 e' he
   ·rw [List.find?_cons]
    have:e.key.isStr name=(kv.1==name):=by rw [ht];rfl
    rw [this]
    by_cases q:kv.1=name
    ·have:(kv.1==name)=true:=by rw [q];exact beq_self_eq_true _
     rw [this]
     simp only [Option.map_some,h2,valueAt,List.find?_cons,decide_eq_true q]
    ·have:(kv.1==name)=false:=beq_false_of_ne q
     rw [this]
     dsimp only
     rw [ih.2]
     simp only [valueAt,List.find?_cons,decide_eq_false q]
 refine an2 (key h4) fun k1 k2=>?_
 cases hf:es.toList.find? (fun e=>e.key.isStr name) with
 | some e=>rw [hf] at k2;dsimp only;rw [← k2];rfl
 | none=>
  rw [hf] at k2
  dsimp only
  have:es.toList.any (fun e=>e.refKey)=false:=by
   rw [List.any_eq_false]
   intro e he
   refine ex2 (k1 e he) fun x t hx=>?_
   unfold DictEntry.refKey;rw [hx];exact Bool.false_ne_true
  rw [this,← k2];rfl
theorem smChars_ok:∀(x:Sm) (cs:List Sm),smChars x=some cs→(sstr x).length=cs.length∧∀(j:Nat) (y:Sm),cs[j]?=some y→∃ c,(sstr x).cps[j]?=some c∧sstr y=⟨#[c]⟩:=by
 intro x cs h
 have key:∀(st:Str) (l:List Sm),st.cps.toList.map (fun c=>(⟨#[c]⟩:Str))=l.map sstr→st.length=l.length∧∀(j:Nat) (y:Sm),l[j]?=some y→∃ c,st.cps[j]?=some c∧sstr y=⟨#[c]⟩:=by
  intro st l e
  have le:=congrArg List.length e
  rw [List.length_map,List.length_map] at le
  refine ⟨by rw [← le];rfl,fun j y hy=>?_⟩
  have:=congrArg (fun q=>q[j]?) e
  simp only [List.getElem?_map,hy,Option.map_some] at this
  refine e1a2 (Option.map_eq_some_iff.mp this) fun c hc hc'=>?_
  exact⟨c,by rw [← hc,Array.getElem?_toList],hc'.symm⟩
 have:=smP (p:=fun x=>match smChars x with | some l=>decide ((sstr x).cps.toList.map (fun c=>(⟨#[c]⟩:Str))=l.map sstr) | none=>true) (by decide +kernel) x
 try dsimp only at this
 rw [h] at this
 exact key _ _ (of_decide_eq_true this)
theorem seqIndex_spec {i:Int} {n j:Nat} (h:seqIndex? i n=some j):(0≤i∧i < n∧i.toNat=j)∨(i < 0∧ -(n:Int)≤i∧(i + n).toNat=j):=by
 unfold seqIndex? at h
 by_cases h0:i < 0
 ·simp only [if_pos h0] at h
  by_cases z:(decide (0≤i + (n:Int))&&decide (i + (n:Int) < n))=true
  ·rw [if_pos z] at h
   simp only [Bool.and_eq_true,decide_eq_true_eq] at z
   exact .inr ⟨h0,by omega,Option.some.inj h⟩
  ·rw [if_neg z] at h;cases h
 ·simp only [if_neg h0] at h
  by_cases z:(decide (0≤i)&&decide (i < (n:Int)))=true
  ·rw [if_pos z] at h
   simp only [Bool.and_eq_true,decide_eq_true_eq] at z
   exact .inl ⟨z.1,z.2,Option.some.inj h⟩
  ·rw [if_neg z] at h;cases h
theorem notSlice_sub {value slice:Expr} {o i:Value} (h:(match slice with | .Slice _ _ _ _=>false | _=>true)=true):subscripted slice false o i=operate [o,i] (getItem o i):=by
 cases slice<;>first | rfl | cases h
theorem subTail {A:Around} {value slice:Expr} {o i:Value} {T id:String} {Q:Value→Shared→Prop} (hT:s.TypeIs o T)
  (hl:typeLookup (.type T) "__getitem__"=pure (some (.builtin id))) (h:wpAny (model pw₀ w) A (getItem o i) Q noE s)
  (hs:(match slice with | .Slice _ _ _ _=>false | _=>true)=true):
  wpAny (model pw₀ w) A (subscriptTail value slice o i) Q noE s:=by
 unfold subscriptTail
 refine wpAny_bind ?_
 rw [getitemInPython_of_ne hT.not_modules]
 refine wpAny_bind (wpAny_specialOf hT hl ?_)
 have fin:wpAny (model pw₀ w) A (subscripted slice false o i) (fun r s₃=>wpAny (model pw₀ w) A (letTemporaryGo value o r >>=fun uu=>pure r) Q noE s₃) noE s:=by
  rw [notSlice_sub (value:=value) hs]
  exact wpAny_operating (wpAny_mono h (fun r s₃ h₃=>wpAny_bind (wpAny_letTemporaryGo (wpAny_pure h₃))) fun uu uu x=>x)
 first
  | exact wpAny_pure (wpAny_bind fin)
  | exact wpAny_bind (wpAny_pure (wpAny_bind fin))
  | exact wpAny_bind fin
theorem isStr_is (e:DictEntry) (k:Str):e.key.isStr k=(sK w).is k e.key:=by
 obtain ⟨h,key,v⟩:=e
 cases key<;>rfl
theorem putName_dict {od:Obj} {rs:List (Str×Value)} (h:od.IsDictOf (sK w) rs) (k:Str) (t:Tok) (v:Value):
  (Obj.putName k (PyData.keyHash w.params k) (.str k t) v od).IsDictOf (sK w) (stored rs k v):=by
 refine e2a5 h fun es ep hc hd hk hp hn=>?_
 obtain ⟨c,d,dt,sl⟩:=od
 dsimp only at hd
 subst hd
 rw [Obj.putName_eq]
 unfold Obj.putNameByArray
 dsimp only
 have hE:(fun e:DictEntry=>e.key.isStr k)=fun e=>(sK w).is k e.key:=funext fun e=>isStr_is e k
 rw [hE]
 have hkey:(sK w).is k (.str k t)=true:=strKind_is _ _ _ _
 have hidx:(es.findIdx? fun e=>(sK w).is k e.key)=rs.findIdx? fun kv=>decide (kv.1=k):=by
  rw [← hp.findIdx k];obtain ⟨l⟩:=es;simp
 cases hi:es.findIdx? fun e=>(sK w).is k e.key with
 | some i=>
  refine ⟨_,_,⟨hc.1,hc.2.1,hc.2.2⟩,rfl,hk.modify _ _,?_,?_⟩
  ·rw [stored,if_pos (any_of_findIdx_some (hidx▸hi))]
   have hl:(es.toList.findIdx? fun e=>(sK w).is k e.key)=some i:=by rw [← hi];obtain ⟨l⟩:=es;simp
   have:=hp.modify hn hl v
   obtain ⟨l⟩:=es
   simpa using this
  ·rw [stored,if_pos (any_of_findIdx_some (hidx▸hi)),keys_map_store];exact hn
 | none=>
  have hnot:k∉rs.map (fun uu=>uu.1):=not_mem_of_findIdx_none (hidx▸hi)
  have hany:¬ (rs.any fun kv=>decide (kv.1=k))=true:=by
   rw [List.any_eq_true];rintro ⟨kv,hkv,he⟩
   exact hnot (List.mem_map.mpr ⟨kv,hkv,of_decide_eq_true he⟩)
  refine ⟨_,_,⟨hc.1,hc.2.1,hc.2.2⟩,rfl,hk.push hkey _,?_,?_⟩
  ·rw [stored,if_neg hany]
   have:=hp.append hkey (PyData.keyHash w.params k) v
   obtain ⟨l⟩:=es
   simpa using this
  ·rw [stored,if_neg hany,List.map_append,List.nodup_append]
   refine ⟨hn,by simp,?_⟩
   intro a ha b hb
   simp only [List.map_cons,List.map_nil,List.mem_singleton] at hb
   subst hb
   exact fun e=>hnot (e▸ha)
theorem stored_cons {K:Type} [DecidableEq K] {a:K} {r:Value} {rs:List (K×Value)} {k:K} {v:Value} (hn:(((a,r)::rs).map (fun uu=>uu.1)).Nodup):stored ((a,r)::rs) k v=if a=k then (a,v)::rs else (a,r)::stored rs k v:=by
 simp only [List.map_cons,List.nodup_cons] at hn
 by_cases q:a=k
 ·subst q
  simp only [stored,List.any_cons,decide_true,Bool.true_or,if_true,List.map_cons]
  congr 1
  conv=>rhs;rw [← List.map_id rs]
  apply List.map_congr_left
  intro p hp
  rw [if_neg];rfl
  intro e;exact hn.1 (e▸List.mem_map.mpr ⟨p,hp,rfl⟩)
 ·simp only [stored,List.any_cons,decide_eq_false q,Bool.false_or,if_neg q,List.map_cons]
  split<;>rfl
theorem set_field {A:Around} {a d:Addr} {c:Gl} {od:Obj} {rs:List (Str×Value)} {m:Nm} {v:Value} {Q:Unit→Shared→Prop} (K:(KC w.params).In s.heap) (hf:isField c m=true)
  (g1:s.heap.get? a=some (instObj (gaddr c) d)) (g2:s.heap.get? d=some od) (D:od.IsDictOf (sK w) rs) (hz:rs.length≤100000)
  (h:∀ od',od'.IsDictOf (sK w) (stored rs (nstr m) v)→∀ h' tk,Heap.SameBut d s.heap h'→h'.get? d=some od'→Q () {s with heap:=h',toks:=tk}):
  wpAny (model pw₀ w) A (setAttr (.ref a) (nstr m) v) Q noE s:=by
 have hc:=isField_cls hf
 have h1:=of_map_eq (st_sa w.params) c hc
 have h2:=of_map_eq (st_cd w.params) c hc
 have h3:=of_map_eq (st_fields w.params) (c,m) (pairsOf_mem hc hf)
 have h4:=of_map_eq (st_po w.params) c hc
 dsimp only at h1 h2 h3 h4
 refine e1a2 (Option.map_eq_some_iff.mp h2) fun cd hcd hdict=>?_
 have D':=putName_dict D (nstr m) (s.toks + 1) v
 have hfreed:(Obj.putName (nstr m) (PyData.keyHash w.params (nstr m)) (.str (nstr m) (s.toks + 1)) v od).isFreed=false:=by
  refine e2a3 D' fun es ep hc hd uu=>?_
  exact Obj.isFreed_of_dict hd
 refine set_plain (s:=s) K (instAt_of g1 g2) h1 ?_
 refine osa_open (s:={s with toks:=s.toks + 1}) K (instAt_of g1 g2) h4 (show takerIn _ _ _=some none by unfold takerIn;rw [h3];rfl) fun b=>?_
 refine wpAny_bind (wpAny_pure (wpAny_bind (wpAny_bind (wpAny_loadPart g1 (wpAny_bind (looks_clsIn (h:=s.heap) K hcd _ _ _ _ (fun uu uu e=>e) ?_))))))
 rw [hdict]
 refine wpAny_pure (a:=some d) (wpAny_bind (wpAny_pure (wpAny_bind ?_)))
 unfold nsSet
 refine wpAny_bind (wpAny_bind (wpAny_askSetting (wpAny_pure (wpAny_bind (wpAny_mkText (wpAny_bind (wpAny_loadPart g2 ?_)))))))
 refine e2a5 (id D) fun es ep e1 e2 e3 e4 e5=>?_
 rw [e2]
 dsimp only
 have hno:es.any (fun uu=>uu.refKey)=false:=by
  have:∀ {l:List DictEntry} {rs:List (Str×Value)},Pairs (sK w) l rs→l.any (fun uu=>uu.refKey)=false:=by
   intro l rs p
   induction p with
   | nil=>rfl
   | @cons e kv es kvs h1 h2 _ ih=>
    refine ex1 (strEntry h1) fun t ht=>?_
    rw [List.any_cons,ih,Bool.or_false]
    unfold DictEntry.refKey;rw [ht]
  rw [← Array.any_toList];exact this e4
 have c:(!es.any (·.key.isStr (nstr m))&&es.any (fun uu=>uu.refKey))=false:=by rw [hno,Bool.and_false]
 rw [aRefKeyMayBeTheName_at,c]
 refine wpAny_updatePart g2 ?_
 have g2':=Heap.get?_update_self (Obj.putName (nstr m) (PyData.keyHash w.params (nstr m)) (.str (nstr m) (s.toks + 1)) v) g2 hfreed
 refine wpAny_bind (wpAny_lookBehind g2' ?_ ?_)
 ·refine e2a5 D' fun es' ep' q1 q2 q3 q4 q5=>?_
  rw [q2]
  refine pastItsLine_dict ?_
  have l1:=q4.length
  have l2:=stored_length_le rs (nstr m) v
  rw [Array.length_toList] at l1
  rw [sizeLine_eq];omega
 ·exact wpAny_pure (h _ D' _ _ (Heap.SameBut.update ..) g2')
noncomputable abbrev listObj (rs:Array Value) (k:Nat):Obj:=⟨.type "list",none,.seq rs k,#[]⟩
theorem mapSeq_list (f:Array Value→Array Value) (rs:Array Value) (k:Nat):∃ k',Obj.mapSeq f (listObj rs k)=listObj (f rs) k':=⟨_,rfl⟩
theorem upd_list {h:Heap} {a:Addr} {rs:Array Value} {k:Nat} (g:h.get? a=some (listObj rs k)) (f:Array Value→Array Value):
  (∃ k',(h.update a (Obj.mapSeq f)).get? a=some (listObj (f rs) k'))∧Heap.SameBut a h (h.update a (Obj.mapSeq f)):=
 ⟨⟨_,Heap.get?_update_self _ g rfl⟩,Heap.SameBut.update ..⟩
theorem setSeq {A:Around} {a:Addr} {rs:Array Value} {k j:Nat} {v:Value} {Q:Unit→Shared→Prop} (g:s.heap.get? a=some (listObj rs k)) (h:Q () {s with heap:=s.heap.update a (Obj.mapSeq (fun uu=>uu.setIfInBounds j v))}):
  wpAny (model pw₀ w) A (setSeqItemAt a j v) Q noE s:=by
 unfold setSeqItemAt
 exact wpAny_bind (wpAny_loadPart g (wpAny_updatePart g h))
theorem list_set {A:Around} {a:Addr} {rs:Array Value} {k j:Nat} {i:Int} {t:Tok} {v:Value} {Q:Unit→Shared→Prop} (g:s.heap.get? a=some (listObj rs k)) (h0:0≤i) (h1:i < 2 ^ 63) (hj:i.toNat=j) (hl:j < rs.size)
  (h:Q () {s with heap:=s.heap.update a (Obj.mapSeq (fun uu=>uu.setIfInBounds j v))}):wpAny (model pw₀ w) A (setItem (.ref a) (.int i t) v) Q noE s:=by
 have hT:s.TypeIs (.ref a) "list":=⟨_,g,rfl⟩
 unfold setItem
 try with_reducible refine wpAny_holding ?_
 first | refine wpAny_bind (wpAny_pure ?_) | skip
 refine wpAny_bind (wpAny_sequenceKey hT (by decide) ?_)
 refine wpAny_bind (wpAny_callSpecial?_slot (name:=Str.ofString "__setitem__") hT slot_list_setitem (wpAny_call_entry slot_list_setitem hT entry_list_setitem ?_ (args_list_setitem _ _ _)))
 show wpAny _ _ (Builtin.List.listSubscript? (.int i t) >>=_) _ _ s
 refine wpAny_bind (wpAny_listSubscript_int (fitsIndex_of h0 h1) ?_)
 obtain ⟨j',rfl⟩:=Int.eq_ofNat_of_zero_le h0
 have:j'=j:=hj
 subst this
 show wpAny _ _ ((seqItemAt a j' >>=fun r=>pure (r.map (fun uu=>(j',uu)))) >>=_) _ _ s
 refine wpAny_bind (wpAny_bind (wpAny_seqItemAt g rfl (wpAny_pure ?_)))
 rw [Array.getElem?_eq_getElem hl]
 show wpAny _ _ (setSeqItemAt a j' v >>=_) _ _ s
 refine wpAny_bind (setSeq g ?_)
 first
  | exact wpAny_bind (wpAny_pure (wpAny_pure ⟨.none,rfl,wpAny_pure h⟩))
  | exact wpAny_pure ⟨.none,rfl,wpAny_pure h⟩
end
end E
end Mine
end
section
namespace Mine
namespace E
open PySem PySem.W PyProof.Rows
section
variable {C:Cx} {W:Wd} {σ:St} {s:Shared} {A:Around} {x y v:V} {rx ry rv r:Value}
noncomputable abbrev noSl (e:Expr):Prop:=(match e with | .Slice _ _ _ _=>false | _=>true)=true
theorem idx_spec {i:Int} {n j:Nat} (h:idx? i n=some j):n≤1000000∧seqIndex? i n=some j:=by
 by_cases q:n≤1000000
 ·exact⟨q,(if_pos q).symm.trans h⟩
 ·exact nomatch (if_neg q).symm.trans h
theorem subS {value slice:Expr} (hs:noSl slice) (hx:VR C.w W x rx) (hy:VR C.w W y ry):Sim C W (VR C.w) (C.run (subscriptTail value slice rx ry)) fun σ K=>O (subV σ x y) fun v=>K v σ:=fun A σ s K Q a h e k=>by
 have room:=a.room
 have go:∀ {K:V→Prop},O (match asDict σ x with | some kvs=>(dGet y kvs).bind id | .none=>(asSeq σ x).bind fun vs=>(asInt y).bind fun k=>(idx? k vs.length).bind fun j=>vs[j]?) K→(∀ v r t,VR C.w W v r→K v→Q r {s with toks:=t})→wpAny (model pw₀ C.w) A (subscriptTail value slice rx ry) Q noE s:=fun {K} e k=>by
  cases hd:asDict σ x with
  | some kvs=>
   rw [hd] at e
   refine dictE h hx (O_of hd (K:=fun l=>l=kvs) rfl) fun l ad o g hm X hl=>?_
   subst hl
   refine look h hy g X (O_bind e) fun res q L=>?_
   cases res with
   | none=>exact q.elim
   | some v=>
   cases L with
   | p knd x rs i d hit=>
    refine e1a2 hit fun r hr hv=>?_
    exact subTail d.mapOf.typeIs F.slot_dict_getitem.lookup (wpAny_getItem_of i d.mapOf hr (k v r _ hv q)) hs
   | t x ak rs hr i d hit=>
    subst hr
    refine e1a2 hit fun r hr hv=>?_
    obtain ⟨p,hp,rfl⟩:=Option.map_eq_some_iff.mp hr
    exact subTail d.typeIs F.slot_dict_getitem.lookup (wpAny_getItem_heap (knd:=tK C.w) (by show A.units + 1 < cLine;omega) i d hp (k v _ _ hv q)) hs
  | none=>
   rw [hd] at e
   refine seqE h hx (O_bind e) fun vs ad rs n T g hT F e=>intE hy (O_bind e) fun i t e=>O_elim (O_bind e) fun j hj e=>O_elim e fun v hv q=>?_
   refine an2 (idx_spec hj) fun hn hj=>?_
   refine e1a2 (F.get hv) fun r hr hv=>?_
   rw [Array.getElem?_toList] at hr
   have l:rs.size=vs.length:=F.len
   rw [← l] at hj hn
   rcases hT with rfl | rfl
   ·rcases seqIndex_spec hj with ⟨z1,z2,z3⟩ | ⟨z1,z2,z3⟩
    ·exact subTail (T:="list") ⟨_,g,rfl⟩ list_getitem_lookup (wpAny_getItem_list (isList_at g) z1 (by omega) (z3.symm▸hr) (k v r s.toks hv q)) hs
    ·exact subTail (T:="list") ⟨_,g,rfl⟩ list_getitem_lookup (wpAny_getItem_list_neg (isList_at g) z1 z2 (by omega) (z3.symm▸hr) (k v r s.toks hv q)) hs
   ·have hb: -1000000≤i∧i < 1000000:=by rcases seqIndex_spec hj with z | z<;>omega
    exact subTail (T:="tuple") ⟨_,g,rfl⟩ slot_tuple_getitem.lookup (PySem.P.getItem_tuple g (by omega) (by omega) hj hr (k v r s.toks hv q)) hs
 cases x with
 | str x=>
  obtain ⟨t,rfl⟩:=hx.out
  refine intE hy (O_bind e) fun i u e=>O_elim (O_bind e) fun cs hcs e=>O_elim (O_bind e) fun j hj e=>O_elim (O_map e) fun c hc q=>?_
  refine an2 (smChars_ok _ _ hcs) fun l hc'=>?_
  refine e1a2 (hc' j c hc) fun c' hc1 hc2=>?_
  refine an2 (idx_spec hj) fun hn hj=>?_
  have hb: -1000000≤i∧i < 1000000:=by rcases seqIndex_spec hj with z | z<;>omega
  exact subTail (T:="str") (show typeOf (.str _ _)=pure (.type "str") from rfl) slot_str_getitem.lookup (PySem.P.getItem_str (c:=c') (by simp;omega) (by rw [l,hj];exact hc1) (hc2▸k.tok h .strI q)) hs
 | bytes b=>
  obtain ⟨t,rfl⟩:=hx.out
  refine intE hy (O_bind e) fun i u e=>O_ite e fun c q=>?_
  simp only [Bool.and_eq_true,decide_eq_true_eq] at c
  exact subTail (T:="bytes") (show typeOf (.bytes _ _)=pure (.type "bytes") from rfl) FB.slot_bytes_getitem.lookup (getItem_bytes (by omega) c.1.1 c.1.2 (k.tok h .intI q)) hs
 | _=>exact go e fun v r t hv q=>k.tok h hv q
theorem FldO.get {P:VP} {w:World} {m:Nm} {fs:List (Nm×V)} {o:Obj} (h:FldO w P fs o):∃ rs,o.IsDictOf (sK w) rs∧Hit P (getL? m fs) (valueAt rs (nstr m)):=by
 obtain ⟨rs,x,y⟩:=h
 refine ⟨rs,x,?_⟩
 clear x
 revert rs
 induction fs with
 | nil=>exact fun rs y=>y.nilE rfl
 | cons p fs ih=>
  exact fun rs y=>y.consE fun q rs h1 h2=>by
   obtain ⟨k,v⟩:=p
   obtain ⟨z,r⟩:=q
   obtain ⟨rfl,hv⟩:=h1
   rw [valueAt_cons]
   unfold getL?
   by_cases e:k=m
   ·rw [if_pos e,if_pos (congrArg nstr e)];exact⟨r,rfl,hv⟩
   ·rw [if_neg e,if_neg fun z=>e (nstr_inj z)];exact ih rs h2
theorem VR.handed (h:VR C.w W x r):handedIn r=true:=by
 cases x with
 | none=>cases (h.out:_=_);rfl
 | bool b=>cases (h.out:_=_);rfl
 | glob g=>cases (h.out:_=_);exact glP (p:=fun g=>handedIn (gvalue g)) (by decide +kernel) g
 | int i=>obtain ⟨t,rfl⟩:=h.out;rfl
 | str i=>obtain ⟨t,rfl⟩:=h.out;rfl
 | bytes i=>obtain ⟨t,rfl⟩:=h.out;rfl
 | _=>obtain ⟨a,o,rfl,_⟩:=h.out;rfl
theorem attrS {m:Nm} {b:Bool} (hx:VR C.w W x r):Sim C W (VR C.w) (C.run (getAttr r (nstr m) b)) fun σ K=>O (asInst σ x) fun p=>O (if isField p.1 m then getL? m p.2 else .none) fun v=>K v σ:=fun A σ s K Q a h e k=>
 instE h hx e fun c fs ad d od g1 g2 F e=>O_ite e fun hf e=>O_elim e fun v hv q=>by
  refine e1a2 (F.get (m:=m)) fun rs D hit=>?_
  rw [hv] at hit
  refine e1a2 hit fun rv hr hv=>?_
  have hc:=isField_cls hf
  have h1:=of_map_eq (st_ga C.w.params) c hc
  have h2:=of_map_eq (st_cd C.w.params) c hc
  have h3:=of_map_eq (st_fields C.w.params) (c,m) (pairsOf_mem hc hf)
  dsimp only at h1 h2 h3
  refine e1a2 (Option.map_eq_some_iff.mp h2) fun cd hcd hdict=>?_
  refine get_value h.B (instAt_of g1 g2) h1 ?_ hv.handed (k.tok h hv q)
  unfold findObj
  rw [hcd,Option.bind_some,h3]
  have ho:PySem.W.ownOf cd (some od) (nstr m)=some (some rv):=by
   unfold PySem.W.ownOf
   rw [if_pos hdict]
   show lookIn (nstr m) od=_
   rw [lookIn_of D,hr]
  rw [Option.bind_some,ho]
  rfl
theorem dict_nodup {w:World} {K:Type} [DecidableEq K] {knd:KeyKind pw₀ w K} {o:Obj} {rs:List (K×Value)} (h:o.IsDictOf knd rs):(rs.map (fun uu=>uu.1)).Nodup:=h.choose_spec.choose_spec.2.2.2.2
theorem fld_put {P:VP} {m:Nm} {v:V} {r:Value} (hv:P v r):∀ {fs:List (Nm×V)} {rs:List (Str×Value)},F2 (fun p q=>q.1=nstr p.1∧P p.2 q.2) fs rs→(rs.map (fun uu=>uu.1)).Nodup→F2 (fun p q=>q.1=nstr p.1∧P p.2 q.2) (putL m v fs) (stored rs (nstr m) r)
 | [],_,h,hn=>h.nilE (.cons ⟨rfl,hv⟩ .nil)
 | p::fs,_,h,hn=>by
  obtain ⟨q,rs,rfl,h1,h2⟩:=h
  obtain ⟨k,x⟩:=p
  obtain ⟨z,y⟩:=q
  obtain ⟨rfl,hx⟩:=h1
  refine an2 (List.nodup_cons.mp hn) fun n1 n2=>?_
  rw [stored_cons hn]
  unfold putL
  by_cases e:k=m
  ·rw [if_pos e,if_pos (congrArg nstr e)];exact .cons ⟨rfl,hv⟩ h2
  ·rw [if_neg e,if_neg fun z=>e (nstr_inj z)];exact .cons ⟨rfl,hx⟩ (fld_put hv h2 n2)
theorem dPut_KR {w:World} {P:VP} {v:V} {r:Value} (hv:P v r) {I K:Type} [DecidableEq K] {knd:KeyKind pw₀ w K} {tv:I→V} {tk:I→K} (κ:PKind w knd tv tk) {a:I}:∀ {kvs:List (V×V)} {rs:List (K×Value)} {G:List (V×V)→Prop},KR tv tk P kvs rs→(rs.map (fun uu=>uu.1)).Nodup→O (dPut (tv a) v kvs) G→∃ kvs',G kvs'∧KR tv tk P kvs' (stored rs (tk a) r)
 | [],_,G,h,hn,e=>h.nilE (by
  have e:O (if isKey (tv a) then some [(tv a,v)] else none) G:=e
  rw [if_pos (by unfold isKey;rw [κ.plain a];rfl)] at e
  exact⟨_,e,.cons ⟨⟨a,rfl,rfl⟩,hv⟩ .nil⟩)
 | p::fs,_,G,h,hn,e=>by
  obtain ⟨q,rs,rfl,h1,h2⟩:=h
  obtain ⟨k,x⟩:=p
  obtain ⟨z,y⟩:=q
  obtain ⟨⟨i,rfl,rfl⟩,hx⟩:=h1
  refine an2 (List.nodup_cons.mp hn) fun n1 n2=>?_
  have e:=O_bind e
  rw [stored_cons hn]
  rw [κ.eq] at e
  by_cases c:tk i=tk a
  ·have e:O (match decide (tk i=tk a) with | true=>some ((tv i,v)::fs) | false=>_) G:=e
   rw [decide_eq_true c] at e
   rw [if_pos c]
   exact⟨_,e,.cons ⟨⟨i,rfl,rfl⟩,hv⟩ h2⟩
  ·have e:O (match decide (tk i=tk a) with | true=>_ | false=>(dPut (tv a) v fs).map fun r'=>(tv i,x)::r') G:=e
   rw [decide_eq_false c] at e
   rw [if_neg c]
   refine e1a2 (dPut_KR hv κ h2 n2 (O_map e)) fun kvs' g z=>?_
   exact⟨_,g,.cons ⟨⟨i,rfl,rfl⟩,hx⟩ z⟩
theorem dPut_fits {k v:V} {G:List (V×V)→Prop}:∀ {kvs:List (V×V)},O (dPut k v kvs) G→fits k kvs=true
 | [],e=>O_ite e fun q uu=>q
 | p::kvs,e=>O_elim (O_bind e) fun b h uu=>by
  show (kEq p.1 k).isSome=true
  rw [h];rfl
noncomputable def Kr (C:Cx) (W:Wd) (K:St→Prop) (Q:Unit→Shared→Prop):Prop:=∀ s' σ',Rel C.D W σ' s'→K σ'→Q () s'
noncomputable abbrev SetS (C:Cx) (W:Wd) (t:Sem Unit) (o:St→Option St):Prop:=∀ A σ s K Q,AOk A C.n→Rel C.D W σ s→O (o σ) K→Kr C W K Q→wpAny (model pw₀ C.w) A t Q noE s
theorem refV {M:V→Value→Prop} {K:Nat→Prop} {w:World} (hv:VR w W v r) (h:O (asRef v) K) (k:∀ n a d,W.mu n=some (a,d)→K n→M (.ref n) (.ref a)):M v r:=by
 cases v with
 | ref n=>obtain ⟨a,d,rfl,e⟩:=hv.out;exact k n a d e h
 | _=>exact h.elim
theorem mobj {D:Dx} {n:Nat} {a d:Addr} {m:MObj} (R:Rel D W σ s) (e:W.mu n=some (a,d)) (h:σ.objs n=some m):MR D.w W s.heap a d m:=by
 refine e2a4 (R.obj n m h) fun a' d' e1 uu uu M=>?_
 cases e.symm.trans e1
 exact M
theorem Rel.lst {D:Dx} {n:Nat} {a:Addr} {vs vs':List V} {rs:Array Value} {k tk:Nat} {f:Array Value→Array Value} (R:Rel D W σ s) (e:W.mu n=some (a,a)) (h:σ.objs n=some (.list vs)) (g:s.heap.get? a=some (listObj rs k)) (hv:F2 (VR D.w W) vs' (f rs).toList):
  Rel D W (σ.set n (.list vs')) {s with heap:=s.heap.update a (Obj.mapSeq f),toks:=tk}:=by
 obtain ⟨⟨k',g'⟩,sb⟩:=upd_list g f
 exact R.chg h e ⟨rfl,_,g',_,_,rfl,hv⟩ (fun b o q uu z=>(sb.2 b q.1).trans z) ⟨rfl,rfl⟩
theorem F2.set {P:VP} {v:V} {r:Value} (hv:P v r):∀ {vs:List V} {rs:List Value} (j:Nat),F2 P vs rs→F2 P (vs.set j v) (rs.set j r)
 | [],_,_,h=>h.nilE .nil
 | _::_,_,0,h=>h.consE fun uu uu uu h2=>.cons hv h2
 | _::_,_,j + 1,h=>h.consE fun uu uu h1 h2=>.cons h1 (F2.set hv j h2)
theorem setSubS (hx:VR C.w W x rx) (hy:VR C.w W y ry) (hv:VR C.w W v rv):SetS C W (setItem rx ry rv) fun σ=>setSub σ x y v:=fun A σ s K Q a h e k=>by
 refine refV (M:=fun uu rx=>wpAny (model pw₀ C.w) A (setItem rx ry rv) Q noE s) hx (O_bind e) fun n ad d hm e=>O_elim (O_bind e) fun m ho e=>?_
 have M:=mobj h hm ho
 cases m with
 | dict kvs=>
  obtain ⟨rfl,o,g,hs,X⟩:=M
  refine O_ite e fun c e=>?_
  simp only [Bool.and_eq_true,decide_eq_true_eq] at c
  have e:=O_map e
  cases X.pick (dPut_fits e) with
  | p κ i rs ek x y=>
   subst ek
   refine e1a2 (dPut_KR hv κ y (dict_nodup x) e) fun kvs' q z=>?_
   refine wpAny_setItem_pairs (κ.vr.mp hy) (Heap.dictOf_iff.mpr ⟨o,g,x⟩) (fun h' hd' hsb=>?_) (by rw [sizeLine_eq,y.len];omega)
   refine e1a2 (Heap.dictOf_iff.mp hd') fun o' g' x'=>?_
   exact k _ _ (h.chg (m':=.dict kvs') ho hm ⟨rfl,o',g',hs,.p κ _ x' z⟩ (fun b o q uu z=>(hsb.2 b q.1).trans z) ⟨rfl,rfl⟩) q
  | t i j xs ek x y=>subst ek;cases c.1
 | list vs=>
  obtain ⟨rfl,o,g,rs,kk,rfl,F⟩:=M
  refine intE hy (O_bind e) fun i t e=>O_ite e fun h0 e=>O_elim (O_map e) fun j hj q=>?_
  refine an2 (idx_spec hj) fun hn hj=>?_
  have l:rs.size=vs.length:=F.len
  have hb:i.toNat=j∧j < rs.size∧i < 2 ^ 63:=by
   rcases seqIndex_spec hj with z | z
   ·exact⟨z.2.2,by omega,by omega⟩
   ·omega
  exact list_set g h0 hb.2.2 hb.1 hb.2.1 (k _ _ (h.lst (tk:=s.toks) (f:=fun xs=>xs.setIfInBounds j rv) hm ho g (by rw [Array.toList_setIfInBounds];exact F.set hv j)) q)
 | _=>exact e.elim
theorem setFldS {m:Nm} (hx:VR C.w W x rx) (hv:VR C.w W v rv):SetS C W (setAttr rx (nstr m) rv) fun σ=>setFld σ x m v:=fun A σ s K Q a h e k=>by
 refine refV (M:=fun uu rx=>wpAny (model pw₀ C.w) A (setAttr rx (nstr m) rv) Q noE s) hx (O_bind e) fun n ad d hm e=>O_elim (O_bind e) fun mo ho e=>?_
 have M:=mobj h hm ho
 cases mo with
 | inst c fs=>
  obtain ⟨g1,ne,od,g2,rs,D,Fr⟩:=M
  refine O_ite e fun cc e=>?_
  simp only [Bool.and_eq_true,decide_eq_true_eq] at cc
  refine set_field h.B cc.1 g1 g2 D (by rw [Fr.len];omega) fun od' D' h' tk hsb g2'=>?_
  exact k _ _ (h.chg (m':=.inst c (putL m v fs)) ho hm ⟨(hsb.2 ad ne).trans g1,ne,od',g2',_,D',fld_put hv Fr (dict_nodup D)⟩ (fun b o q uu z=>(hsb.2 b q.2).trans z) ⟨rfl,rfl⟩) e
 | _=>exact e.elim
end
end E
end Mine
end
section
namespace Mine
namespace E
open PySem PySem.W PyProof.Rows
section
variable {C:Cx} {W:Wd} {σ:St} {s:Shared} {A:Around} {x y v:V} {rx ry rv r:Value} {args:List V} {rs:List Value}
noncomputable abbrev CallS (C:Cx) (W:Wd) (t:Sem Value) (o:St→KV→Prop):Prop:=Sim C W (VR C.w) (C.run t) o
theorem oneA {P:VP} {K:V→Prop} {M:List V→List Value→Prop} (hv:F2 P args rs) (h:O (one? args) K) (k:∀ a r,P a r→K a→M [a] [r]):M args rs:=match args,h with
 | [a],h=>hv.consE fun r uu h1 h2=>h2.nilE (k a r h1 h)
theorem twoA {P:VP} {K:V×V→Prop} {M:List V→List Value→Prop} (hv:F2 P args rs) (h:O (two? args) K) (k:∀ a b r t,P a r→P b t→K (a,b)→M [a,b] [r,t]):M args rs:=match args,h with
 | [a,b],h=>hv.consE fun r uu h1 hv=>hv.consE fun t uu h2 h3=>h3.nilE (k a b r t h1 h2 h)
theorem lstA {K:Nat→List V→Prop} {M:V→Value→Prop} (h:Rel C.D W σ s) (hx:VR C.w W x rx) (e:listOf σ x K)
  (k:∀ n vs a rs m,W.mu n=some (a,a)→σ.objs n=some (.list vs)→s.heap.get? a=some (listObj rs m)→F2 (VR C.w W) vs rs.toList→rs.size=vs.length→vs.length≤1000000→K n vs→M (.ref n) (.ref a)):M x rx:=
 refV hx e fun n a d hm e=>O_elim e fun m ho e=>by
  have M:=mobj h hm ho
  cases m with
  | list vs=>
   obtain ⟨rfl,o,g,rs,kk,rfl,F⟩:=M
   exact Gx_elim e fun c q=>k n vs a rs kk hm ho g F F.len (of_decide_eq_true c) q
  | _=>exact e.elim
theorem sizeL {n:Nat} (h:n≤1000000):n≤sizeLine:=by rw [sizeLine_eq];omega
theorem appendS (hx:VR C.w W x rx) (hv:F2 (VR C.w W) args rs):CallS C W (call (.builtin "list.append") (rx::rs)) (mAppend x args):=fun A σ s K Q a h e k=>
 oneA (M:=fun uu rs=>wpAny (model pw₀ C.w) A (call (.builtin "list.append") (rx::rs)) Q noE s) hv e fun y ry hy e=>lstA (M:=fun uu rx=>wpAny (model pw₀ C.w) A (call (.builtin "list.append") (rx::[ry])) Q noE s) h hx e fun n vs ad rs m hm ho g ff l hz e=>
  call_meets F.slot_list_append ⟨_,g,rfl⟩ F.entry_list_append (F.args_list_append_2 _ _) (AutoListH.list_append_list_val_0 ad rs m ry (sizeL (l▸hz))) ⟨g,k.here (h.lst (tk:=s.toks) (f:=fun x=>x.push ry) hm ho g (by rw [Array.toList_push];exact .append (.cons hy .nil) ff)) .noneI e⟩
theorem extendS (hx:VR C.w W x rx) (hv:F2 (VR C.w W) args rs):CallS C W (call (.builtin "list.extend") (rx::rs)) (mExtend x args):=fun A σ s K Q a h e k=>
 oneA (M:=fun uu rs=>wpAny (model pw₀ C.w) A (call (.builtin "list.extend") (rx::rs)) Q noE s) hv e fun y ry hy e=>lstE hy e fun ws b ob fb gb e=>lstA (M:=fun uu rx=>wpAny (model pw₀ C.w) A (call (.builtin "list.extend") (rx::[.ref b])) Q noE s) h hx e fun n vs ad rs m hm ho g ff l hz e=>Gx_elim e fun c e=>by
  refine e2a2 gb fun rs' m' qq0 F'=>?_;subst qq0
  have l':rs'.size=ws.length:=F'.len
  have c:=of_decide_eq_true c
  refine call_meets F.slot_list_extend ⟨_,g,rfl⟩ F.entry_list_extend (F.args_list_extend_2 _ _) (AutoSeq1.list_extend_list_list_0 ad rs m b rs' m' ?_ (sizeL (l▸hz)) (by rw [sizeLine_eq];omega)) ⟨g,h.fz fb,k.here (h.lst (tk:=s.toks) (f:=fun x=>x++rs') hm ho g (by rw [Array.toList_append];exact F'.append ff)) .noneI e⟩
  rw [Bool.and_eq_true,not_and]
  intro _ q
  unfold Builtin.List.listTooLong at q
  simp only [sizeLine_eq,decide_eq_true_eq] at q;omega
theorem F2.last {P:VP}:∀ {vs:List V} {rs:List Value},F2 P vs rs→vs.getLast?=some v→∃ r,rs.getLast?=some r∧P v r∧F2 P vs.dropLast rs.dropLast
 | [],_,_,e=>nomatch e
 | [x],_,h,e=>h.consE fun r uu h1 h2=>h2.nilE ⟨r,rfl,by cases e;exact h1,.nil⟩
 | x::y::vs,_,h,e=>h.consE fun r uu h1 h2=>by
  refine e1a3 (F2.last h2 e) fun t e1 e2 e3=>?_
  refine e2a3 h2 fun r' rs' qq0 h3 h4=>?_;subst qq0
  exact⟨t,e1,e2,.cons h1 e3⟩
theorem popS (hx:VR C.w W x rx) (hv:F2 (VR C.w W) args rs):CallS C W (call (.builtin "list.pop") (rx::rs)) (mPop x args):=fun A σ s K Q a h e k=>Gx_elim e fun c e=>by
 cases List.isEmpty_iff.mp c
 cases (hv:rs=[])
 refine lstA (M:=fun uu rx=>wpAny (model pw₀ C.w) A (call (.builtin "list.pop") [rx]) Q noE s) h hx e fun n vs ad rs m hm ho g ff l hz e=>O_elim e fun u hu e=>?_
 refine e1a3 (ff.last hu) fun r e1 e2 e3=>?_
 obtain ⟨ls⟩:=rs
 have hd:((⟨ls⟩:Array Value).eraseIdxIfInBounds (ls.length - 1)).toList=ls.dropLast:=by
  simp only [List.eraseIdxIfInBounds_toArray,List.eraseIdx_eq_take_drop_succ,List.dropLast_eq_take]
  rw [List.drop_eq_nil_of_le (by omega),List.append_nil]
 exact call_meets F.slot_list_pop ⟨_,g,rfl⟩ F.entry_list_pop (F.args_list_pop_1 _) (MeetsSeq.list_pop_last ad ⟨ls⟩ m r (by rw [← Array.getElem?_toList];exact(List.getLast?_eq_getElem? (l:=ls)).symm.trans e1) (sizeL (l▸hz))) ⟨g,k.here (h.lst (tk:=s.toks) (f:=fun xs=>xs.eraseIdxIfInBounds (ls.length - 1)) hm ho g (by rw [hd];exact e3)) e2 e⟩
theorem Hit.get {w:World} {res:Option V} {ov:Option Value} (h:Hit (VR w W) res ov) {d:V} {rd:Value} (hd:VR w W d rd):VR w W (res.getD d) (ov.getD rd):=by
 cases res with
 | none=>cases (h:ov=none);exact hd
 | some v=>obtain ⟨r,rfl,hv⟩:=h;exact hv
theorem getS (hx:VR C.w W x rx) (hv:F2 (VR C.w W) args rs):CallS C W (call (.builtin "dict.get") (rx::rs)) (mGet x args):=fun A σ s K Q a h e k=>by
 have room:=a.room
 refine dictE h hx e fun kvs d o g hm X e=>?_
 cases args with
 | nil=>exact e.elim
 | cons y ys=>
  obtain ⟨ry,rs,rfl,hy,hv⟩:=hv
  refine look h hy g X e fun res e L=>?_
  cases ys with
  | nil=>
   cases (hv:rs=[])
   cases L with
   | p knd x rs i dd hit=>exact call_meetsIn F.slot_dict_get ⟨o,g,X.exact.1⟩ F.entry_dict_get (F.args_dict_get_2 _ _) (meets_dict_get knd d i hm) ⟨_,dd.mapOf,k.tok h (hit.get .noneI) e⟩
   | t x ak rs hr i dd hit=>
    subst hr
    exact call_meetsIn F.slot_dict_get ⟨o,g,X.exact.1⟩ F.entry_dict_get (F.args_dict_get_2 _ _) (meetsH_dict_get (tK C.w) d ak hm) ⟨by show A.units + 1 < cLine;omega,_,_,i,dd,k.tok h (hit.get .noneI) e⟩
  | cons z zs=>
   refine Gx_elim e fun c e=>?_
   cases List.isEmpty_iff.mp c
   obtain ⟨rz,rs,rfl,hz,hv⟩:=hv
   cases (hv:rs=[])
   cases L with
   | p knd x rs i dd hit=>exact call_meetsIn F.slot_dict_get ⟨o,g,X.exact.1⟩ F.entry_dict_get (F.args_dict_get_3 _ _ _) (meets_dict_get_default knd d i hm _) ⟨_,dd.mapOf,k.tok h (hit.get hz) e⟩
   | t x ak rs hr i dd hit=>
    subst hr
    exact call_meetsIn F.slot_dict_get ⟨o,g,X.exact.1⟩ F.entry_dict_get (F.args_dict_get_3 _ _ _) (meetsH_dict_get_default (tK C.w) d ak hm _) ⟨by show A.units + 1 < cLine;omega,_,_,i,dd,k.tok h (hit.get hz) e⟩
theorem seqFE {M:Value→Prop} {K:List V→Prop} (h:Rel C.D W σ s) (hv:VR C.w W x r) (e:O (asSeqF σ x) K)
  (k:∀ vs a rs n T,s.heap.get? a=some ⟨.type T,none,.seq rs n,#[]⟩→(T="list"∨T="tuple")→F2 (VR C.w W) vs rs.toList→rs.size=vs.length→vs.length≤1000000→K vs→M (.ref a)):M r:=
 seqE h hv (O_bind e) fun vs a rs n T g hT F e=>O_ite e fun c e=>k vs a rs n T g hT F F.len c e
theorem lenS (hx:VR C.w W x rx):CallS C W (call (.builtin "len") [rx]) (bLen x):=fun A σ s K Q a h e k=>by
 have go:O (asSeqF σ x) (fun vs=>K (.int vs.length) σ)→wpAny (model pw₀ C.w) A (call (.builtin "len") [rx]) Q noE s:=fun e=>seqFE (M:=fun rx=>wpAny (model pw₀ C.w) A (call (.builtin "len") [rx]) Q noE s) h hx e fun vs ad rs n T g hT F l hz e=>by
  rw [← l] at e hz
  rcases hT with rfl | rfl
  ·exact Calls.call_len_list (isList_at g) (by omega) (k.tok h .intI e)
  ·exact PySem.P.len_tuple g (by omega) (k.tok h .intI e)
 cases x with
 | str x=>
  refine ex1 hx.out fun t qq0=>?_;subst qq0
  refine O_elim e fun cs hcs e=>?_
  rw [← (smChars_ok x cs hcs).1] at e
  exact PySem.P.len_str (by have:=(sstr_len x).2;omega) (k.tok h .intI e)
 | _=>exact go e
theorem rangeS (hx:VR C.w W x rx):CallS C W (call (.type "range") [rx]) (bRange x):=fun A σ s K Q a h e k=>
 intE hx e fun i t e=>Gx_elim e fun c e=>call_range_1 (k.push h (o:={cls:=.type "range",data:=.fields #[.int 0 s.toks,.int i t,.int 1 (s.toks + 1)]}) rfl e fun W' L f=>.mk ⟨_,_,rfl,f,_,_,_,rfl⟩)
theorem Kt.fresh {K:V→St→Prop} {Q:Value→Shared→Prop} (k:Kt C W (VR C.w) K Q) (h:Rel C.D W σ s) {h':Heap} {b:Addr} {o:Obj} (nb:W.pl b=.no) (hb:h'.get? b=some o) (kp:Kp (fun uu=>uu≠b) W s.heap h') (hK:K v σ) (hv:∀ W',W.L0 W'→W'.pl b=.fz o→VR C.w W' v (.ref b)) {t:Nat}:Q (.ref b) {s with heap:=h',toks:=t}:=
 have L:W.L0 (W.put b (.fz o)):=Wd.le_no nb
 k _ _ v _ σ L (h.put (Wd.mine_no nb) hb kp ⟨rfl,rfl⟩) (hv _ L Wd.put_eq) hK
theorem Kt.ext {K:V→St→Prop} {Q:Value→Shared→Prop} (k:Kt C W (VR C.w) K Q) (h:Rel C.D W σ s) {h':Heap} (kp:∀ b o,s.heap.get? b=some o→h'.get? b=some o) (hv:VR C.w W v r) (hK:K v σ) {t:Nat}:Q r {s with heap:=h',toks:=t}:=
 k.here (h.ext (fun b o uu uu=>kp b o) ⟨rfl,rfl⟩) hv hK
theorem listS (hx:VR C.w W x rx):CallS C W (call (.type "list") [rx]) (bList x):=fun A σ s K Q a h e k=>
 seqFE (M:=fun rx=>wpAny (model pw₀ C.w) A (call (.type "list") [rx]) Q noE s) h hx e fun vs ad rs n T g hT F l hz e=>
  call_list_seq ad hT g rfl rfl (fun h' c' kp g'=>k.fresh (t:=s.toks) h h.new_no g' (fun b o uu uu=>kp b o) e fun W' L f=>VR.lstI W' _ _ f ⟨rs,_,rfl,F.imp (VR.les L)⟩) (by rw [sizeLine_eq];omega)
theorem maxS (hx:VR C.w W x rx) (hy:VR C.w W y ry):CallS C W (call (.builtin "max") [rx,ry]) (bMax x y):=fun A σ s K Q a h e k=>
 intE hx e fun i t e=>intE hy e fun j u e=>max_two_ints a.handled fun h' tk kp=>by
  by_cases q:i < j
  ·rw [if_pos q] at e ⊢
   exact k.ext h kp .intI e
  ·rw [if_neg q] at e ⊢
   exact k.ext h kp .intI e
theorem toBytes_ints:∀ {vs:List V} {rs:List Value} {K:List UInt8→Prop},F2 (VR C.w W) vs rs→O (toBytes vs) K→∃ ns b,K b∧b.length=vs.length∧IntsAre rs ns∧(∀ n∈ns,0≤n∧n < 256)∧(ns.map fun n=>n.toNat.toUInt8)=b
 | [],_,K,h,e=>h.nilE ⟨[],[],e,rfl,.nil,fun uu hn=>absurd hn List.not_mem_nil,rfl⟩
 | _::_,_,K,h,e=>h.consE fun uu uu h1 h2=>intE h1 (O_bind e) fun i t e=>O_ite e fun c e=>by
  refine e2a5 (toBytes_ints h2 (O_map e)) fun ns b q l i1 i2 i3=>?_
  simp only [Bool.and_eq_true,decide_eq_true_eq] at c
  exact⟨i::ns,_,q,congrArg (fun uu=>uu + 1) l,.cons i t i1,fun n hn=>(List.mem_cons.mp hn).elim (fun e=>e▸c) (i2 n),congrArg _ i3⟩
theorem bytesS (hx:VR C.w W x rx):CallS C W (call (.type "bytes") [rx]) (bBytes x):=fun A σ s K Q a h e k=>
 lstE hx e fun vs ad o f g e=>Gx_elim e fun c e=>by
  refine e2a2 g fun rs n qq0 F=>?_;subst qq0
  refine e2a5 (toBytes_ints F e) fun ns b q l i1 i2 i3=>?_
  have l':=F.len
  exact call_bytes_ints (vs:=rs.toList) (isList_at (h.fz f)) i1 i2 (by rw [sizeLine_eq];have:=of_decide_eq_true c;omega) a.handled fun h' t m kp=>k.ext (v:=.bytes b) h kp (.mk ⟨t,by rw [← i3];rfl⟩) q
end
end E
end Mine
end
section
namespace Mine
namespace E
open PySem PySem.W PyProof.Rows
noncomputable def notStar:Expr→Bool | .Starred _ _=>false | _=>true
theorem starEach_cons {e:Expr} {es:List Expr} {env:Env} (h:notStar e=true):starEach (e::es) env=(false,eval e env)::starEach es env:=by
 cases e<;>first | rfl | cases h
theorem starEach_plain {env:Env} {pos:Pos}:∀ {es:List Expr},(∀ e∈es,notStar e=true)→(backTo pos (starEach es env)).any (fun uu=>uu.1)=false
 | [],_=>rfl
 | e::es,h=>by
  rw [starEach_cons (h e (List.mem_cons_self ..))]
  show (false||(backTo pos (starEach es env)).any (fun uu=>uu.1))=false
  rw [starEach_plain fun e he=>h e (List.mem_cons_of_mem _ he)];rfl
theorem nstr_dbg:∀ x:Nm,(nstr x==("__debug__":Str))=false:=fun x=>by simpa using nmP (p:=fun x=> !(nstr x==("__debug__":Str))) (by decide +kernel) x
theorem nstr_cd:∀ x:Nm,(nstr x==("__classdict__":Str))=false:=fun x=>by simpa using nmP (p:=fun x=> !(nstr x==("__classdict__":Str))) (by decide +kernel) x
noncomputable def plainTest:Expr→Bool
 | .UnaryOp .Not _ _=>false
 | .BoolOp _ _ _=>false
 | .IfExp _ _ _ _=>false
 | .Compare _ _ _ _=>false
 | _=>true
theorem isTrue_of {e:Expr} (h:plainTest e=true) (env:Env) (whole:Sem Value):isTrue e env whole=(do let v ← whole;standAt e.pos;holding [v] (PySem.truthy v)):=by
 cases e with
 | UnaryOp op x p=>cases op<;>first | rfl | cases h
 | BoolOp _ _ _=>cases h
 | IfExp _ _ _ _=>cases h
 | Compare _ _ _ _=>cases h
 | _=>rfl
noncomputable def plainBase:Expr→Bool
 | .Call (.Name _ _) [] [] _=>false
 | _=>true
theorem base_of {env:Env} {o:Expr} {attr:Str} {whole:Sem Value} (h:plainBase o=true):attributeBase o attr env whole=whole:=by
 unfold attributeBase
 split
 ·cases h
 ·rfl
noncomputable def NsO (o:Obj) (m:Str→Option Value):Prop:=∃ es ep,o.data=.dict es ep∧StrKeys es∧∀ name,nsFind es name=m name
theorem NsO.at {h:Heap} {a:Addr} {o:Obj} {m:Str→Option Value} (n:NsO o m) (g:h.get? a=some o):h.Ns a m:=let ⟨es,ep,r⟩:=n;⟨o,es,ep,g,r⟩
theorem NsO.of {h:Heap} {a:Addr} {o:Obj} {m:Str→Option Value} (n:h.Ns a m) (g:h.get? a=some o):NsO o m:=by
 refine ex3 n fun o' es ep hh=>an2 hh fun g' r=>?_
 cases g.symm.trans g'
 exact⟨es,ep,r⟩
noncomputable abbrev isLoc (env:Env) (n:Nm):Prop:=env.kindOf (nstr n)=some .local
noncomputable abbrev isCel (env:Env) (n:Nm):Prop:=env.kindOf (nstr n)=some .cell∨env.kindOf (nstr n)=some .free
inductive Rd (X:Addr→Prop) (env:Env) (W:Wd) (n:Nm) (r:Value):Prop
 | loc {o:Obj} {m:Str→Option Value}:isLoc env n→W.pl env.locals=.pv o→X env.locals→NsO o m→m (nstr n)=some r→Rd X env W n r
 | cel {c:Addr} {o:Obj}:isCel env n→env.cells.lookup (nstr n)=some c→(W.pl c=.pv o∧X c∧(env.kindOf (nstr n)=some .cell→isCap n=false))∨W.pl c=.fz o→o.data=.cell (some r)→Rd X env W n r
structure FrR (w:World) (X:Addr→Prop) (env:Env) (fr:Fr) (W:Wd):Prop where
 kind:env.scope.kind=.function
 glob:env.globals=mainGlobals
 bi:env.builtins=builtinsNs
 vars:∀ n v,getL? n fr.vars=some v→isLoc env n∨isCel env n→∃ r,Rd X env W n r∧VR w W v r
 ex:∀ b,X b→(∃ o,W.pl b=.pv o)∨∃ o,W.pl b=.fz o
 cl:∀ n,env.kindOf (nstr n)=some .cell→∃ c,env.cells.lookup (nstr n)=some c
section
variable {C:Cx} {w:World} {X Y:Addr→Prop} {env:Env} {fr:Fr} {W W':Wd} {call:Call} {pos:Pos}
theorem Rd.mono (hp:∀ a o,X a→W.pl a=.pv o→W'.pl a=.pv o) (L:W.Le Y W') {n:Nm} {r:Value}:Rd X env W n r→Rd X env W' n r
 | .loc a b c d e=>.loc a (hp _ _ c b) c d e
 | .cel a b c d=>.cel a b (c.imp (fun c=>⟨hp _ _ c.2.1 c.1,c.2⟩) (L.fz _ _)) d
theorem FrR.mono (F:FrR w X env fr W) (hp:∀ a o,X a→W.pl a=.pv o→W'.pl a=.pv o) (L:W.Le Y W'):FrR w X env fr W':=
 ⟨F.kind,F.glob,F.bi,fun n v e k=>(F.vars n v e k).imp fun r h=>⟨h.1.mono hp L,h.2.le L⟩,fun b hb=>(F.ex b hb).imp (fun h=>h.imp fun o=>hp b o hb) fun h=>h.imp fun o=>L.fz b o,F.cl⟩
theorem FrR.le (F:FrR w X env fr W) (L:W.L0 W'):FrR w X env fr W':=F.mono (fun uu uu uu e=>L.keep e) L
noncomputable abbrev ValS (C:Cx) (env:Env) (call:Call) (x:E.X) (e:Expr):Prop:=∀ X fr W,FrR C.w X env fr W→Sim C W (VR C.w) (C.run (eval e env)) fun σ K=>evalC wid call x fr σ K
structure XE (C:Cx) (env:Env) (call:Call) (x:E.X) (e:Expr):Prop where
 ns:notStar e=true
 val:ValS C env call x e
structure XT (C:Cx) (env:Env) (call:Call) (x:E.X) (e:Expr):Prop extends XE C env call x e where
 test:∀ X fr W,FrR C.w X env fr W→Sim C W EqB (C.run (isTrue e env (eval e env))) fun σ K=>evalC wid call x fr σ fun v σ=>O (truthy v) fun b=>K b σ
theorem XT.plain {x:E.X} {e:Expr} (hs:notStar e=true) (hp:plainTest e=true) (h:ValS C env call x e):XT C env call x e:=
 ⟨⟨hs,h⟩,fun X fr W F=>.of (fun z=>isTrue_plain z (isTrue_of hp env _)) (.bind (h X fr W F) fun uu uu uu uu hv=>truthS hv)⟩
theorem Sim.no {α β:Type} {R:Wd→β→α→Prop} {t:PT α} {m:MC β} (h:∀ {σ K},m σ K→False):Sim C W R t m:=fun uu uu uu uu uu uu uu hm uu=>(h hm).elim
theorem Sim.cond {α β:Type} {R:Wd→β→α→Prop} {mb:MC Bool} {t:PT Bool} {t₁ t₂:PT α} {m₁ m₂:MC β} (h:Sim C W EqB t mb) (k₁:∀ W₁,W.L0 W₁→Sim C W₁ R t₁ m₁) (k₂:∀ W₁,W.L0 W₁→Sim C W₁ R t₂ m₂):
  Sim C W R (fun A Q s=>t A (fun a s=>if a then t₁ A Q s else t₂ A Q s) s) fun σ K=>mb σ fun b σ=>match b with | true=>m₁ σ K | false=>m₂ σ K:=
 fun A σ s K Q a g hm q=>h A σ s _ _ a g hm fun W₁ s₁ v r σ₁ L g₁ hv hk=>hv▸match v,hk with
  | true,hk=>k₁ W₁ L A σ₁ s₁ K Q a g₁ hk (q.up L)
  | false,hk=>k₂ W₁ L A σ₁ s₁ K Q a g₁ hk (q.up L)
theorem Sim.ret {α β:Type} {R:Wd→β→α→Prop} {v:β} {r:α} (h:R W v r):Sim C W R (fun uu Q s=>Q r s) fun σ K=>K v σ:=fun uu uu uu uu uu uu g e q=>q.here g h e
theorem Sim.mapT {v:MC V} {t:PT Bool} {f:Bool→Bool} (h:Sim C W EqB t fun σ K=>v σ fun v σ=>O (truthy v) fun b=>K b σ):
  Sim C W EqB (fun A Q s=>t A (fun b s=>Q (f b) s) s) fun σ K=>v σ fun v σ=>O (truthy v) fun b=>K (f b) σ:=
 fun A σ s K Q a g hm q=>h A σ s _ _ a g hm fun W₁ s₁ v r σ₁ L g₁ hv hk=>q W₁ s₁ (f v) (f r) σ₁ L g₁ (congrArg f hv) hk
theorem litX {v:V} {c:Const} {k:Nat} (hc:match v with | .none=>c=.none | .bool b=>c=.bool b | .int i=>c=.int i | .str x=>c=.str (sstr x) | .bytes x=>c=.bytes x | _=>False):XT C env call (.lit v) (.Constant c k pos):=.plain rfl rfl fun X fr W F A σ s K Q a h e q=>by
 cases v with
 | none=>cases hc;exact wpAny_Constant_none (q.here h .noneI e)
 | bool b=>cases hc;exact wpAny_Constant_bool (q.here h .boolI e)
 | int i=>cases hc;exact wpAny_Constant_int (q.tok h .intI e)
 | str i=>cases hc;exact wpAny_Constant_str (q.tok h .strI e)
 | bytes i=>cases hc;exact Constant_bytes (q.tok h .bytesI e)
 | _=>exact hc.elim
theorem junkX {e:Expr} (hs:notStar e=true):XT C env call .junk e:=⟨⟨hs,fun uu uu uu uu=>.no fun h=>h⟩,fun uu uu uu uu=>.no fun h=>h⟩
theorem locX {x:Nm} (hk:isLoc env x∨isCel env x):XT C env call (.loc x) (.Name (nstr x) pos):=.plain rfl rfl fun X fr W F A σ s K Q a h e q=>O_elim e fun v hv e=>by
 refine e1a2 (F.vars x v hv hk) fun r rd hr=>?_
 refine wpAny_Name ?_ (nstr_dbg x)
 cases rd with
 | loc k f _ n g=>exact wpAny_loadName_local F.kind k (n.at (h.pv f)) g (q.here h hr e)
 | cel k l f d=>
  have g:=f.elim (fun f=>h.pv f.1) h.fz
  rcases k with k | k
  ·exact wpAny_loadName_cell F.kind k l ⟨_,g,d⟩ (q.here h hr e)
  ·exact wpAny_loadName_free F.kind k l ⟨_,g,d⟩ (q.here h hr e) (nstr_cd x)
theorem binX {op:BOp} {a b:E.X} {l r:Expr} (ha:XT C env call a l) (hb:XT C env call b r):XT C env call (.bin op a b) (.BinOp l (opOf op) r pos):=
 .plain rfl rfl fun X fr W F=>.of wpAny_BinOp (.bind (ha.val X fr W F) fun W₁ x rx L hx=>.bind (hb.val X fr W₁ (F.le L)) fun W₂ y ry L₂ hy=>binS (hx.le L₂) hy)
theorem cmpX {op:COp} {a b:E.X} {l r:Expr} (hm:behindInMarks (cmpOf op) r=false) (ha:XT C env call a l) (hb:XT C env call b r):XT C env call (.cmp op a b) (.Compare l [cmpOf op] [r] pos):=
 have key:=fun X fr W F=>Sim.bind (ha.val X fr W F) fun W₁ x rx L hx=>Sim.bind (hb.val X fr W₁ (F.le L)) fun W₂ y ry L₂ hy=>cmpS (op:=op) (hx.le L₂) hy
 ⟨⟨rfl,fun X fr W F=>.of (fun h=>wpAny_Compare1 h hm) (key X fr W F)⟩,fun X fr W F=>.of (fun h=>wpAny_isTrue_Compare1 h hm) (.bind (key X fr W F) fun uu uu uu uu hv=>truthS hv)⟩
theorem notX {x:E.X} {e:Expr} (h:XT C env call x e):XT C env call (.not_ x) (.UnaryOp .Not e pos):=
 ⟨⟨rfl,fun X fr W F=>.of wpAny_UnaryOp (.bind (h.val X fr W F) fun W₁ v r L hv A σ s K Q a g e q=>not_value (truthS hv A σ s _ _ a g e fun W' s' b c σ' L g hb e=>q W' s' _ _ σ' L g (hb▸ .boolI) e))⟩,
  fun X fr W F=>.of isTrue_not (.mapT (f:=not) (h.test X fr W F))⟩
theorem negX {x:E.X} {e:Expr} (h:XT C env call x e):XT C env call (.neg x) (.UnaryOp .USub e pos):=
 .plain rfl rfl fun X fr W F=>.of wpAny_UnaryOp (.bind (h.val X fr W F) fun W₁ v r L hv A σ s K Q a g e q=>intE hv e fun i t e=>PyProof.Rows.neg_int (q.tok g .intI e))
theorem iteX {c a b:E.X} {ec ea eb:Expr} (hc:XT C env call c ec) (ha:XT C env call a ea) (hb:XT C env call b eb):XT C env call (.ite_ c a b) (.IfExp ec ea eb pos):=
 ⟨⟨rfl,fun X fr W F=>.of wpAny_IfExp (.cond (hc.test X fr W F) (fun W₁ L=>ha.val X fr W₁ (F.le L)) fun W₁ L=>hb.val X fr W₁ (F.le L))⟩,fun X fr W F=>.of isTrue_IfExp (.cond (hc.test X fr W F) (fun W₁ L=>ha.test X fr W₁ (F.le L)) fun W₁ L=>hb.test X fr W₁ (F.le L))⟩
noncomputable def notSl:Expr→Bool | .Slice _ _ _ _=>false | _=>true
theorem subX {a i:E.X} {ea ei:Expr} (hs:notSl ei=true) (ha:XT C env call a ea) (hi:XT C env call i ei):XT C env call (.sub a i) (.Subscript ea ei pos):=
 .plain rfl rfl fun X fr W F=>.of Subscript_ (.bind (ha.val X fr W F) fun W₁ x rx L hx=>.bind (hi.val X fr W₁ (F.le L)) fun W₂ y ry L₂ hy=>subS (by cases ei<;>first | rfl | cases hs) (hx.le L₂) hy)
theorem attrX {x:E.X} {e:Expr} {m:Nm} (hp:plainBase e=true) (hx:XT C env call x e):XT C env call (.attr x m) (.Attribute e (nstr m) pos):=
 .plain rfl rfl fun X fr W F=>.of (t:=fun A Q s=>wpAny (model pw₀ C.w) A (eval e env) (fun r s=>wpAny (model pw₀ C.w) A (getAttr r (nstr m) true) Q noE s) noE s) (fun {A Q s} h=>by
  rw [arm_eval_Attribute,base_of hp]
  exact wpAny_bind (wpAny_mono h (fun r s h=>wpAny_bind (wpAny_standAt (wpAny_bind (wpAny_holding (wpAny_mono h (fun uu uu z=>wpAny_bind (wpAny_letTemporaryGo (wpAny_pure z))) fun uu uu z=>z))))) fun uu uu z=>z))
  (.bind (hx.val X fr W F) fun W₁ v r L hv=>attrS hv)
end
end E
end Mine
end
section
namespace Mine
namespace E
open PySem PySem.W PyProof.Rows
theorem st_fn (P:Params):glFn.map (fun g=>nsIn (KC P) 3 (gname g))=glFn.map fun g=>some (some (.ref (gaddr g))):=by kernel_rfl
theorem st_bi (P:Params):glBi.map (fun g=>(nsIn (KC P) 3 (gname g),nsIn (KC P) 0 (gname g)))=glBi.map fun g=>(some none,some (some (gvalue g))):=by kernel_rfl
theorem st_gv:(glFn++glBi).map gval=(glFn++glBi).map .glob:=by kernel_rfl
theorem st_gr:glFn.map gvalue=glFn.map fun g=>.ref (gaddr g):=by kernel_rfl
theorem gname_dbg:∀ g:Gl,(gname g==("__debug__":Str))=false:=fun x=>by simpa using glP (p:=fun x=> !(gname x==("__debug__":Str))) (by decide +kernel) x
section
variable {C:Cx} {w:World} {X:Addr→Prop} {env:Env} {fr:Fr} {W W':Wd} {call:Call} {pos:Pos} {D:Dx}
theorem Sim.eqv {α β:Type} {R:Wd→β→α→Prop} {t:PT α} {m m':MC β} (h:Sim C W R t m') (e:∀ σ K,m σ K=m' σ K):Sim C W R t m:=fun A σ s K Q a g hm q=>h A σ s K Q a g (e σ K▸hm) q
theorem tr_and {v:V} {R:Prop} {K:Bool→Prop}:(O (truthy v) fun b=>match b with | true=>R | false=>O (truthy v) K)=O (truthy v) fun b=>match b with | true=>R | false=>K false:=by
 cases h:truthy v with
 | none=>rfl
 | some b=>cases b<;>rfl
theorem tr_or {v:V} {R:Prop} {K:Bool→Prop}:(O (truthy v) fun b=>match b with | true=>O (truthy v) K | false=>R)=O (truthy v) fun b=>match b with | true=>K true | false=>R:=by
 cases h:truthy v with
 | none=>rfl
 | some b=>cases b<;>rfl
theorem andX:∀ {xs:List E.X} {es:List Expr},F2 (XT C env call) xs es→XT C env call (.and_ xs) (.BoolOp .And es pos)
 | [],_,h=>h.nilE ⟨⟨rfl,fun uu uu uu uu=>.no fun h=>h⟩,fun uu uu uu uu=>.no fun h=>h⟩
 | [x],_,h=>h.consE fun e uu hx h=>h.nilE ⟨⟨rfl,fun X fr W F=>.of BoolOp_one (hx.val X fr W F)⟩,fun X fr W F=>.of (t:=fun A Q s=>wpAny (model pw₀ C.w) A (isTrue e env (eval e env)) (fun b s=>if b then Q true s else Q false s) noE s) (fun z=>isTrue_and (wpAny_mono z (fun c s z=>by cases c;exact z;exact isTrue_and_nil z) fun uu uu z=>z))
   (.eqv (.cond (hx.test X fr W F) (fun uu uu=>.ret rfl) fun uu uu=>.ret rfl) fun σ K=>congrArg (evalC wid call x fr σ) (funext fun v=>funext fun σ=>congrArg (O (truthy v)) (funext fun b=>by cases b<;>rfl)))⟩
 | x::y::r,_,h=>h.consE fun e es hx h=>by
  have ih:=andX h
  refine e2a3 (id h) fun e' es' qq0 uu uu=>?_;subst qq0
  exact⟨⟨rfl,fun X fr W F=>.of BoolOp_and (.bind (hx.val X fr W F) fun W₁ v r L hv=>.cond (truthS hv) (fun W₂ L₂=>ih.val X fr W₂ (F.le (L.trans L₂))) fun W₂ L₂=>.ret (hv.le L₂))⟩,fun X fr W F=>.of isTrue_and
   (.eqv (.cond (hx.test X fr W F) (fun W₁ L=>ih.test X fr W₁ (F.le L)) fun uu uu=>.ret rfl) fun σ K=>congrArg (evalC wid call x fr σ) (funext fun v=>funext fun σ=>tr_and))⟩
theorem orX:∀ {xs:List E.X} {es:List Expr},F2 (XT C env call) xs es→XT C env call (.or_ xs) (.BoolOp .Or es pos)
 | [],_,h=>h.nilE ⟨⟨rfl,fun uu uu uu uu=>.no fun h=>h⟩,fun uu uu uu uu=>.no fun h=>h⟩
 | [x],_,h=>h.consE fun e uu hx h=>h.nilE ⟨⟨rfl,fun X fr W F=>.of BoolOp_one (hx.val X fr W F)⟩,fun X fr W F=>.of (t:=fun A Q s=>wpAny (model pw₀ C.w) A (isTrue e env (eval e env)) (fun b s=>if b then Q true s else Q false s) noE s) (fun z=>isTrue_or (wpAny_mono z (fun c s z=>by cases c;exact isTrue_or_nil z;exact z) fun uu uu z=>z))
   (.eqv (.cond (hx.test X fr W F) (fun uu uu=>.ret rfl) fun uu uu=>.ret rfl) fun σ K=>congrArg (evalC wid call x fr σ) (funext fun v=>funext fun σ=>congrArg (O (truthy v)) (funext fun b=>by cases b<;>rfl)))⟩
 | x::y::r,_,h=>h.consE fun e es hx h=>by
  have ih:=orX h
  refine e2a3 (id h) fun e' es' qq0 uu uu=>?_;subst qq0
  exact⟨⟨rfl,fun X fr W F=>.of BoolOp_or (.bind (hx.val X fr W F) fun W₁ v r L hv=>.cond (truthS hv) (fun W₂ L₂=>.ret (hv.le L₂)) fun W₂ L₂=>ih.val X fr W₂ (F.le (L.trans L₂)))⟩,fun X fr W F=>.of isTrue_or
   (.eqv (.cond (hx.test X fr W F) (fun uu uu=>.ret rfl) fun W₁ L=>ih.test X fr W₁ (F.le L)) fun σ K=>congrArg (evalC wid call x fr σ) (funext fun v=>funext fun σ=>tr_or))⟩
noncomputable abbrev XEs (C:Cx) (env:Env) (call:Call):List E.X→List Expr→Prop:=F2 (XE C env call)
theorem XEs.stars:∀ {xs:List E.X} {es:List Expr},XEs C env call xs es→∀ e∈es,notStar e=true
 | [],_,h=>h.nilE fun uu h=>absurd h List.not_mem_nil
 | _::_,_,h=>h.consE fun e es hx h e' he=>(List.mem_cons.mp he).elim (fun q=>q▸hx.ns) (XEs.stars h e')
theorem xsS:∀ {xs:List E.X} {es:List Expr} {W:Wd},XEs C env call xs es→FrR C.w X env fr W→Sim C W (fun W vs rs=>F2 (VR C.w W) vs rs∧vs.length=xs.length) (C.run (spliced (backTo pos (starEach es env)))) fun σ K=>evalCs wid call xs fr σ K
 | [],_,W,h,F=>h.nilE fun A σ s K Q a g e q=>wpAny_items_nil (q.here g ⟨.nil,rfl⟩ e)
 | x::xs,_,W,h,F=>h.consE fun e es hx h=>.of (fun z=>wpAny_items_cons z (starEach_cons hx.ns)) (.bind (hx.val X fr W F) fun W₁ v r L hv A σ s K Q a g e q=>
   xsS h (F.le L) A σ s _ _ a g e fun W₂ s₂ vs rs σ₂ L₂ g₂ hs e=>q W₂ s₂ (v::vs) (r::rs) σ₂ L₂ g₂ ⟨.cons (hv.le L₂) hs.1,congrArg (fun uu=>uu + 1) hs.2⟩ e)
theorem Kt.newL {W:Wd} {σ:St} {s:Shared} {K:V→St→Prop} {Q:Value→Shared→Prop} (k:Kt C W (VR C.w) K Q) (h:Rel C.D W σ s) {m:Bool} {vs:List V} {rs:Array Value} (hs:F2 (VR C.w W) vs rs.toList) (e:match m with | true=>K (.ref σ.next) (σ.new (.list vs)) | false=>K (.lst vs) σ) {t:Nat}:
  Q (.ref s.heap.objs.size) {s with heap:=s.heap.push {cls:=.type "list",data:=.seq rs},toks:=t}:=by
 cases m with
 | true=>
  have nf:=h.new_no
  refine an2 (h.new (s':={s with heap:=s.heap.push {cls:=.type "list",data:=.seq rs},toks:=t}) nf nf (m:=.list vs) (fun W' L=>⟨rfl,_,Heap.get?_push_size _ rfl,rs,_,rfl,hs.imp (VR.les L)⟩) (fun b o uu uu e=>Heap.get?_push_of_some _ e) ⟨rfl,rfl⟩) fun L R=>?_
  exact k _ _ _ _ _ L R (.refI (if_pos rfl)) e
 | false=>exact k.seq h hs e VR.lstI
theorem listX {m:Bool} {xs:List E.X} {es:List Expr} (hz:xs.length≤1000) (h:XEs C env call xs es):XT C env call (.list m xs) (.List es pos):=.plain rfl rfl fun X fr W F A σ s K Q a g e q=>
 wpAny_List (xsS h F A σ s _ _ a g e fun W₁ s₁ vs rs σ₁ L g hs e=>⟨by rw [sizeLine_eq,hs.1.len,hs.2];omega,(q.up L).newL (t:=s₁.toks) g hs.1 e⟩)
theorem tupX {xs:List E.X} {es:List Expr} {k:Nat} (hz:xs.length≤1000) (h:XEs C env call xs es):XT C env call (.tup xs) (.Tuple es k pos):=.plain rfl rfl fun X fr W F A σ s K Q a g e q=>
 wpAny_Tuple (xsS h F A σ s _ _ a g e fun W₁ s₁ vs rs σ₁ L g hs e=>⟨by rw [sizeLine_eq,hs.1.len,hs.2];omega,(q.up L).seq (t:=s₁.toks) g hs.1 e VR.tupI⟩)
theorem loadG1 {A:Around} {x:Str} {r:Value} {s:Shared} {Q:Value→Shared→Prop} (K:(KC w.params).In s.heap) (hg:env.globals=mainGlobals) (e:nsIn (KC w.params) 3 x=some (some r)) (h:Q r s):wpAny (model pw₀ w) A (loadGlobal env x) Q noE s:=by
 unfold loadGlobal
 rw [hg]
 exact wpAny_bind ((looks_nsIn K (show nsIn _ mainGlobals x=_ from e)).here (wpAny_pure h))
theorem loadG2 {A:Around} {x:Str} {r:Value} {s:Shared} {Q:Value→Shared→Prop} (K:(KC w.params).In s.heap) (hg:env.globals=mainGlobals) (hb:env.builtins=builtinsNs) (e1:nsIn (KC w.params) 3 x=some none) (e2:nsIn (KC w.params) 0 x=some (some r)) (h:Q r s):wpAny (model pw₀ w) A (loadGlobal env x) Q noE s:=by
 unfold loadGlobal
 rw [hg,hb]
 exact wpAny_bind ((looks_nsIn K (show nsIn _ mainGlobals x=_ from e1)).here (wpAny_bind ((looks_nsIn K (show nsIn _ builtinsNs x=_ from e2)).here (wpAny_pure h))))
noncomputable def coT:List (Gl×List Sm):=[((.A .x0),[(.D .xc),(.E .x0)]),((.A .x3),[(.F .x5),(.B .x9),(.H .x0),(.C .x5),(.F .xc),(.B .xc),(.E .x9),(.A .xb),(.H .x4),(.C .x8),(.H .x6),(.C .x9)]),((.B .x5),[(.I .x2),(.B .xb),(.F .xa),(.C .x0),(.E .xa),(.H .x1),(.F .x8),(.F .x6)]),((.C .x8),[(.C .x7),(.H .x3),(.F .x2),(.B .x5),(.F .x3),(.A .x5),(.A .x6),(.E .x4),(.E .x5),(.G .x5)]),((.C .x9),[(.G .x2),(.G .x0),(.E .x6),(.I .x1),(.I .x5),(.F .x7),(.G .xb)]),((.C .xa),[(.D .x4),(.D .x0),(.C .xc),(.D .x7),(.D .x6),(.D .x1),(.A .x2),(.A .x1),(.B .x3)]),((.C .xb),[(.D .x4),(.D .x0),(.D .x7),(.C .xc)]),((.D .x7),[(.D .x6),(.D .x1),(.A .x2),(.A .x1)]),((.D .x8),[(.D .x3),(.D .xa),(.D .xb),(.D .x2),(.D .x9)]),((.D .x9),[(.G .xa),(.C .x4),(.E .x8)]),((.E .x5),[(.D .x3),(.D .xa),(.D .xb),(.D .x2),(.D .x9),(.D .x8),(.D .x5)])]
noncomputable def coI:List (Gl×Int×Nat):=[((.B .x9),8,1941),((.B .xa),8,874),((.B .xb),30,428)]
noncomputable def strOf:Value→Option Str
 | .str x _=>some x
 | _=>none
noncomputable def tupOf (K:Frag) (a:Addr):Option (List (Option Str)):=match K.lookup a with
 | some ⟨.type T,none,.seq rs _,⟨[]⟩⟩=>if T="tuple" then some (rs.toList.map strOf) else none
 | _=>none
noncomputable def refOf:Option (Option Value)→Addr
 | some (some (.ref a))=>a
 | _=>0
theorem st_coT (P:Params):coT.map (fun p=>(gval p.1,nsIn (KC P) 3 (gname p.1),tupOf (KC P) (refOf (nsIn (KC P) 3 (gname p.1)))))=coT.map fun p=>(.tup (p.2.map .str),some (some (.ref (refOf (nsIn (KC P) 3 (gname p.1))))),some (p.2.map fun x=>some (sstr x))):=by kernel_rfl
theorem st_coI (P:Params):coI.map (fun p=>(gval p.1,nsIn (KC P) 3 (gname p.1)))=coI.map fun p=>(.int p.2.1,some (some (.int p.2.1 p.2.2))):=by kernel_rfl
theorem strs_VR:∀ {l:List Sm} {rs:List Value},rs.map strOf=l.map (fun x=>some (sstr x))→F2 (VR w W) (l.map .str) rs
 | [],[],_=>.nil
 | x::l,r::rs,h=>by
  refine an2 (List.cons.inj h) fun h1 h2=>?_
  refine .cons ?_ (strs_VR h2)
  cases r with
  | str y t=>cases Option.some.inj (h1:some y=some _);exact .strI
  | _=>cases h1
 | [],_::_,h=>nomatch h
 | _::_,[],h=>nomatch h
theorem tupOf_VR {σ:St} {s:Shared} (h:Rel D W σ s) {a:Addr} {l:List Sm} (e:tupOf (KC D.w.params) a=some (l.map fun x=>some (sstr x))):VR D.w W (.tup (l.map .str)) (.ref a):=by
 unfold tupOf at e
 split at e
 ·rename_i ho
  by_cases q:T="tuple"
  ·rw [if_pos q] at e
   exact VR.tupI W a _ (h.base a _ ho) ⟨_,_,by rw [q],strs_VR (Option.some.inj e)⟩
  ·rw [if_neg q] at e;cases e
 ·cases e
theorem law_texts {σ:St} {s:Shared} (h:Rel D W σ s):VR D.w W (.dct [(.str (.B .x5),.dct [(.int 65,.str (.A .x3)),(.int 66,.str (.A .x5))]),(.str (.B .x9),.dct [(.int 65,.str (.E .x2)),(.int 66,.str (.E .x4))])]) (.ref 1343):=by
 have key:∀ {a:Addr} {x y:Sm} {t u t' u':Nat},(KC D.w.params).lookup a=some ⟨.type "dict",none,.dict ⟨[⟨65,.int 65 t,.str (sstr x) u⟩,⟨66,.int 66 t',.str (sstr y) u'⟩]⟩ 2,⟨[]⟩⟩→(a==sysModules)=false→VR D.w W (.dct [(.int 65,.str x),(.int 66,.str y)]) (.ref a):=fun {a x y t u t' u'} e q=>
  .mk ⟨a,_,rfl,h.base a _ e,q,.p intP [(65,.str (sstr x) u),(66,.str (sstr y) u')] ⟨_,_,⟨rfl,rfl,rfl⟩,rfl,fun e he=>by
   rcases List.mem_cons.mp (Array.mem_toList_iff.mpr he) with rfl | he
   ·exact⟨65,intKind_is _ _ _ _,rfl⟩
   ·cases List.mem_singleton.mp he
    exact⟨66,intKind_is _ _ _ _,rfl⟩,.cons (intKind_is _ _ _ _) rfl (.cons (intKind_is _ _ _ _) rfl .nil),(by decide:([65,66]:List Int).Nodup)⟩ (.cons ⟨⟨65,rfl,rfl⟩,.strI⟩ (.cons ⟨⟨66,rfl,rfl⟩,.strI⟩ .nil))⟩
 have f1:=h.base 1343 ⟨(.type "dict"),none,(.dict ⟨[Mine.e D.w.params "F" 2309 (.ref 1344),Mine.e D.w.params "G" 2316 (.ref 1345)]⟩ 2),⟨[]⟩⟩ (by kernel_rfl)
 refine .mk ⟨1343,_,rfl,f1,by decide,.p strP [("F",.ref 1344),("G",.ref 1345)] ⟨_,_,⟨rfl,rfl,rfl⟩,rfl,fun e he=>?_,.cons (strKind_is _ _ _ _) rfl (.cons (strKind_is _ _ _ _) rfl .nil),by decide⟩ (.cons ⟨⟨(.B .x5),rfl,rfl⟩,key (t:=2310) (u:=2311) (t':=2312) (u':=2313) (by kernel_rfl) (by decide)⟩ (.cons ⟨⟨(.B .x9),rfl,rfl⟩,key (t:=2317) (u:=2318) (t':=2319) (u':=2320) (by kernel_rfl) (by decide)⟩ .nil))⟩
 rcases List.mem_cons.mp (Array.mem_toList_iff.mpr he) with rfl | he
 ·exact⟨"F",strKind_is _ _ _ _,rfl⟩
 ·cases List.mem_singleton.mp he
  exact⟨"G",strKind_is _ _ _ _,rfl⟩
theorem st_lawt (P:Params):nsIn (KC P) 3 (gname (.G .x1))=some (some (.ref 1343)):=by kernel_rfl
theorem globX {g:Gl} {p:Pos} (hg:g∈glFn∨g∈glBi∨g∈coT.map (fun uu=>uu.1)∨g∈coI.map (fun uu=>uu.1)∨g=(.G .x1)) (hk:env.kindOf (gname g)=some .globalImplicit):XT C env call (.glob g) (.Name (gname g) p):=
 .plain rfl rfl fun X fr W F A σ s K Q a h e q=>by
  refine Calls.Name_function_global F.kind hk ?_ (gname_dbg g)
  have e:K (gval g) σ:=e
  rcases hg with hg | hg | hg | hg | rfl
  ·rw [show gval g=.glob g from of_map_eq st_gv g (List.mem_append_left _ hg)] at e
   exact loadG1 h.B F.glob (of_map_eq (st_fn C.w.params) g hg) (q.here h (of_map_eq st_gr g hg▸ .globI) e)
  ·rw [show gval g=.glob g from of_map_eq st_gv g (List.mem_append_right _ hg)] at e
   refine an2 (Prod.mk.inj (of_map_eq (st_bi C.w.params) g hg)) fun e1 e2=>?_
   exact loadG2 h.B F.glob F.bi e1 e2 (q.here h .globI e)
  ·obtain ⟨⟨g,l⟩,hm,rfl⟩:=List.mem_map.mp hg
   refine an2 (Prod.mk.inj (of_map_eq (st_coT C.w.params) _ hm)) fun e1 e2=>?_
   refine an2 (Prod.mk.inj e2) fun e2 e3=>?_
   rw [show gval g=_ from e1] at e
   exact loadG1 h.B F.glob e2 (q.here h (tupOf_VR h e3) e)
  ·obtain ⟨⟨g,i,t⟩,hm,rfl⟩:=List.mem_map.mp hg
   refine an2 (Prod.mk.inj (of_map_eq (st_coI C.w.params) _ hm)) fun e1 e2=>?_
   rw [show gval g=_ from e1] at e
   exact loadG1 h.B F.glob e2 (q.here h .intI e)
  ·exact loadG1 h.B F.glob (st_lawt C.w.params) (q.here h (law_texts h) e)
end
end E
end Mine
end
section
namespace Mine
namespace E
open PySem PySem.W PyProof.Rows
theorem st_keep (P:Params):glFn.map (fun g=>keepIn (KC P) (.ref (gaddr g)))=glFn.map fun uu=>true:=by kernel_rfl
noncomputable def methP:List (Gl×Nm):=pairsOf fun c m=>(methOf c m).isSome
theorem st_meth (P:Params):methP.map (fun p=>(findIn (KC P) (.ref (gaddr p.1)) (nstr p.2),(methOf p.1 p.2).map fun f=>(typeIn (KC P) (.ref (gaddr f)),keepIn (KC P) (.ref (gaddr f)),gvalue f)))=
  methP.map fun p=>(some (some (.ref (gaddr ((methOf p.1 p.2).getD (.I .xa))))),(methOf p.1 p.2).map fun f=>(some (.type "function"),true,.ref (gaddr f))):=by kernel_rfl
theorem st_nga (P:Params):clsL.map (fun c=>findIn (KC P) (.ref (gaddr c)) "__getattr__")=clsL.map fun uu=>some none:=by kernel_rfl
theorem methOf_cls {c:Gl} {m:Nm} {f:Gl} (h:methOf c m=some f):c∈clsL:=by
 have:=glP (p:=fun c=>clsL.contains c||nmEv.all fun m=>(methOf c m).isNone) (by decide +kernel) c
 rcases (Bool.or_eq_true _ _).mp this with e | e
 ·exact glMem e
 ·have:=nmP (p:=fun m=>(methOf c m).isNone) e m
  try dsimp only at this
  rw [h] at this
  cases this
section
variable {w:World} {s:Shared} {env:Env} {pos:Pos}
theorem meth_of {P:Params} {c f:Gl} {m:Nm} (h:methOf c m=some f):
  findIn (KC P) (.ref (gaddr c)) (nstr m)=some (some (.ref (gaddr f)))∧typeIn (KC P) (.ref (gaddr f))=some (.type "function")∧keepIn (KC P) (.ref (gaddr f))=true∧gvalue f=.ref (gaddr f):=by
 have:=of_map_eq (st_meth P) (c,m) (pairsOf_mem (methOf_cls h) (by rw [h];rfl))
 simp only [h,Option.map_some,Option.getD_some] at this
 refine an2 (Prod.mk.inj this) fun h1 h2=>?_
 injection h2 with h2
 refine an2 (Prod.mk.inj h2) fun h2 h3=>?_
 refine an2 (Prod.mk.inj h3) fun h3 h4=>?_
 exact⟨h1,h2,h3,h4⟩
theorem method_field {A:Around} {K:Frag} {x C:Addr} {ox:Obj} {od:Option Obj} {name:Str} {pl:Sem Bool} {Q:Value×List Value→Shared→Prop} (X:K.In s.heap) (I:PySem.W.InstAt s.heap x ox C od)
  (hga:findIn K (.ref C) "__getattribute__"=some (some (.builtin "object.__getattribute__"))) (hk:findIn K (.ref C) "__getattr__"=some none) (hf:findIn K (.ref C) name=some none)
  (h:wpAny (model pw₀ w) A (getAttr (.ref x) name) (fun v=>Q (v,[])) noE s):wpAny (model pw₀ w) A (getMethod (.ref x) name pl) Q noE s:=by
 have hcan:=PySem.F.canon_object_ga
 unfold getMethod specialOf
 refine wpAny_bind (wpAny_bind (I.type.here ((looks_findIn X hga).here ?_)))
 dsimp only
 rw [hcan,if_neg (by decide)]
 refine wpAny_bind (wpAny_bind (I.type.here ((looks_findIn X hk).here ?_)))
 refine wpAny_bind (wpAny_bind (I.type.here ((looks_findIn X hf).here ?_)))
 exact wpAny_bind (wpAny_mono h (fun v s' z=>wpAny_pure z) fun uu uu z=>z)
theorem starEach_all {env:Env} {pos:Pos}:∀ {es:List Expr},(∀ e∈es,notStar e=true)→(backTo pos (starEach es env)).all (fun x=> !x.1)=true
 | [],_=>rfl
 | e::es,h=>by
  rw [starEach_cons (h e (List.mem_cons_self ..))]
  show (true&&(backTo pos (starEach es env)).all (fun x=> !x.1))=true
  rw [starEach_all fun e he=>h e (List.mem_cons_of_mem _ he)];rfl
theorem eval_meth {o:Expr} {name:Str} {apos:Pos} {es:List Expr} {A:Around} {Q:Value→Shared→Prop} (hb:plainBase o=true) (hs:∀ e∈es,notStar e=true) (hl:es.length < 30) (hline:(apos.endLine==pos.line)=true)
  (h:wpAny (model pw₀ w) A (eval o env) (fun ov s₁=>∀ pl,wpAny (model pw₀ w) A (getMethod ov name pl) (fun fx s₂=>wpAny (model pw₀ w) A (callWith pos fx.1 fx.2 (backTo pos (starEach es env)) []) Q noE s₂) noE s₁) noE s):
  wpAny (model pw₀ w) A (eval (.Call (.Attribute o name apos) es [] pos) env) Q noE s:=by
 have he:eval (.Call (.Attribute o name apos) es [] pos) env=(do
   let ov ← attributeBase o name env (eval o env)
   standAt apos.atName
   methodCall o name apos pos env ov (es.length + ([]:List Keyword).length) (backTo pos (starEach es env)) (backToKw pos (keywordEach [] env))):=rfl
 rw [he,base_of hb]
 refine wpAny_bind (wpAny_mono h (fun ov s₁ h₁=>wpAny_bind (wpAny_standAt ?_)) fun uu uu x=>x)
 have hform:methodCallForm (es.length + ([]:List Keyword).length) (backTo pos (starEach es env)) (backToKw pos (keywordEach [] env))=true:=by
  unfold methodCallForm
  rw [starEach_all hs]
  show (true&&true&&decide (es.length + 0 + 0 < 30))=true
  simpa using hl
 unfold methodCall calleeOf methodCallPos
 simp only [hform,hline,if_true,Bool.not_true,Bool.or_true]
 exact wpAny_bind (wpAny_holding (wpAny_mono (h₁ _) (fun fx s₂ h₂=>wpAny_bind (wpAny_pure h₂)) fun uu uu x=>x))
end
noncomputable def CallOK (C:Cx) (call:Call):Prop:=∀ f args rf rs W,VR C.w W f rf→F2 (VR C.w W) args rs→CallS C W (PySem.call rf rs) (call f args)
noncomputable def BOk (C:Cx):Prop:=∀ g args rs W,F2 (VR C.w W) args rs→CallS C W (PySem.call (gvalue g) rs) (bcall g args)
section
variable {C:Cx} {X:Addr→Prop} {env:Env} {fr:Fr} {W W':Wd} {call:Call} {pos pos':Pos}
theorem st_bk:glBi.map (fun g=>match gvalue g with | .ref _=>true | _=>false)=glBi.map fun uu=>false:=by kernel_rfl
noncomputable abbrev Holds (W:Wd) (h:Heap):Prop:=∀ a o,W.pl a=.fz o→h.get? a=some o
noncomputable abbrev Kept (C:Cx) (W:Wd) (rf:Value):Prop:=∀ h,Holds W h→∃ k,(k=Keeper.frame∨k=Keeper.machine∨k=Keeper.boundFrame)∧Looks (model pw₀ C.w) h (keeperOf rf) k
theorem kept_fn {a:Addr} (B:∀ a o,(KC C.w.params).lookup a=some o→W.pl a=.fz o) (e:keepIn (KC C.w.params) (.ref a)=true):Kept C W (.ref a):=fun h H=>keeps_K e h fun a o e=>H _ _ (B a o e)
theorem kept_clo {k:Lm} {cs:List (Nm×V)} {rf:Value} (hf:VR C.w W (.clo k cs) rf):Kept C W rf:=fun h H=>by
 obtain ⟨a,o,rfl,f,fd,d, -⟩:=hf.out
 refine ⟨.frame,.inl rfl,(Looks.ld (part:=none) (H _ _ f)).andThen ?_⟩
 rw [d];exact .now
theorem kept_bi {g:Gl} (hg:g∈glBi):Kept C W (gvalue g):=fun h H=>by
 have h1:=of_map_eq st_bk g hg
 try dsimp only at h1
 refine ⟨.machine,.inr (.inl rfl),?_⟩
 cases hg:gvalue g with
 | ref a=>rw [hg] at h1;cases h1
 | _=>exact Looks.now
theorem argsS {rf:Value} {first:List Value} {xs:List E.X} {es:List Expr} {m:List V→St→KV→Prop} (hk:Kept C W rf) (hx:XEs C env call xs es) (F:FrR C.w X env fr W)
  (go:∀ W₁ vs rs,W.L0 W₁→F2 (VR C.w W₁) vs rs→CallS C W₁ (PySem.call rf (first++rs)) (m vs)):CallS C W (callWith pos' rf first (backTo pos (starEach es env)) []) fun σ K=>evalCs wid call xs fr σ fun vs σ=>m vs σ K:=fun A σ s K Q a h e q=>by
 have hplain:((backTo pos (starEach es env)).any (fun uu=>uu.1)||([]:List (Option Str×Sem Value)).any (fun uu=>uu.1.isNone))=false:=by
  rw [starEach_plain hx.stars];rfl
 refine callWith_of (P:=Holds W) hplain hk ?_
 have sp:=xsS (pos:=pos) hx F A σ s _ (fun rs s=>Holds W s.heap∧wpAny (model pw₀ C.w) A (PySem.call rf (first++rs)) Q noE s) a h e fun W' s' vs rs σ' L g hv e=>⟨fun b o hb=>g.fz (L.fz _ _ hb),go W' vs rs L hv.1 A σ' s' K Q a g e (q.up L)⟩
 cases xs with
 | nil=>
  cases (hx:es=[])
  exact evalArgs_nil3 ⟨fun uu uu=>h.fz,go W [] [] (.refl W) .nil A σ s K Q a h e q⟩
 | cons x xs=>
  obtain ⟨e1,es,rfl,h1,h2⟩:=hx
  have hs:=starEach_cons (es:=es) (env:=env) h1.ns
  rw [hs] at sp ⊢
  exact Calls.evalArgs_plain sp
noncomputable def notAttr:Expr→Bool | .Attribute _ _ _=>false | _=>true
theorem eval_Call_plain {fe:Expr} {es:List Expr} (h:notAttr fe=true):eval (.Call fe es [] pos) env=(do callWith pos (← eval fe env) [] (backTo pos (starEach es env)) []):=by
 cases fe<;>first | rfl | cases h
theorem isTop_fn {g:Gl} (h:isTop g=true):g∈glFn:=by
 have:=glP (p:=fun g=> !isTop g||glFn.contains g) (by decide +kernel) g
 try dsimp only at this
 rw [h] at this
 exact glMem this
theorem isBi_bi {g:Gl} (h:isBi g=true):g∈glBi:=by
 have:=glP (p:=fun g=> !isBi g||glBi.contains g) (by decide +kernel) g
 try dsimp only at this
 rw [h] at this
 exact glMem this
theorem kept_top {g:Gl} (B:∀ a o,(KC C.w.params).lookup a=some o→W.pl a=.fz o) (hg:g∈glFn):Kept C W (gvalue g):=by
 rw [show gvalue g=_ from of_map_eq st_gr g hg]
 exact kept_fn B (of_map_eq (st_keep C.w.params) g hg)
theorem callX (CO:CallOK C call) (BO:BOk C) {f:E.X} {fe:Expr} {xs:List E.X} {es:List Expr} (hn:notAttr fe=true) (hf:XT C env call f fe) (hx:XEs C env call xs es):XT C env call (.call f xs) (.Call fe es [] pos):=
 .plain rfl rfl fun X fr W F=>.of (t:=fun A Q s=>wpAny (model pw₀ C.w) A (eval fe env) (fun rf s=>wpAny (model pw₀ C.w) A (callWith pos rf [] (backTo pos (starEach es env)) []) Q noE s) noE s) (fun h=>by rw [eval_Call_plain hn];exact wpAny_bind h)
  (.bind (hf.val X fr W F) fun W₁ v r L hv A σ s K Q a h e q=>by
   have F:=F.le L
   cases v with
   | glob g=>
    cases (hv.out:_=_)
    cases hb:isBi g with
    | true=>
     have e:(match isBi g||isTop g with | true=>evalCs wid call xs fr σ fun vs σ=>(match isBi g with | true=>bcall g vs σ K | false=>call (.glob g) vs σ K) | false=>False):=e
     rw [hb] at e
     exact argsS (first:=[]) (m:=bcall g) (kept_bi (isBi_bi hb)) hx F (fun W₂ vs rs L₂ hs=>BO g vs rs W₂ hs) A σ s K Q a h e q
    | false=>
     have e:(match isBi g||isTop g with | true=>evalCs wid call xs fr σ fun vs σ=>(match isBi g with | true=>bcall g vs σ K | false=>call (.glob g) vs σ K) | false=>False):=e
     rw [hb] at e
     cases ht:isTop g with
     | true=>
      rw [ht] at e
      exact argsS (first:=[]) (m:=call (.glob g)) (kept_top h.base (isTop_fn ht)) hx F (fun W₂ vs rs L₂ hs=>CO (.glob g) vs _ rs W₂ .globI hs) A σ s K Q a h e q
     | false=>rw [ht] at e;exact e.elim
   | clo k cs=>exact argsS (first:=[]) (m:=call (.clo k cs)) (kept_clo hv) hx F (fun W₂ vs rs L₂ hs=>CO (.clo k cs) vs _ rs W₂ (hv.le L₂) hs) A σ s K Q a h e q
   | _=>exact e.elim)
theorem natE {α:Type} {n h:Nm} {a:α} {l:List (Nm×α)} {K:α→Prop} {G:Prop} (e:O (nat? n ((h,a)::l)) K) (k:h=n→K a→G) (k':O (nat? n l) K→G):G:=by
 by_cases q:h=n
 ·exact k q (by rw [show nat? n ((h,a)::l)=some a from if_pos q] at e;exact e)
 ·exact k' (by rw [show nat? n ((h,a)::l)=nat? n l from if_neg q] at e;exact e)
theorem biS {A:Around} {σ:St} {s:Shared} {K:V→St→Prop} {Q:Value→Shared→Prop} {T id:String} {m:Nm} {v:V} {r:Value} {pl:Sem Bool} {xs:List E.X} {es:List Expr} {mm:V→Blt} (hx:XEs C env call xs es) (F:FrR C.w X env fr W) (hv:VR C.w W v r) (a:AOk A C.n) (h:Rel C.D W σ s) (q:Kt C W (VR C.w) K Q)
  (hT:s.TypeIs r T) (pa:PlainAttrs T) (sl:Slot T (nstr m) id) (ty:typeOf (.builtin id)=pure (.type "method_descriptor")) (hd:∀ a,r=.ref a→∃ o,s.heap.get? a=some o∧o.dict=none)
  (go:∀ W vs rs,VR C.w W v r→F2 (VR C.w W) vs rs→CallS C W (PySem.call (.builtin id) (r::rs)) (mm v vs)) (e:evalCs wid call xs fr σ fun vs σ=>mm v vs σ K):
  wpAny (model pw₀ C.w) A (getMethod r (nstr m) pl) (fun fx s₂=>wpAny (model pw₀ C.w) A (callWith pos fx.1 fx.2 (backTo pos (starEach es env)) []) Q noE s₂) noE s:=
 getMethod_builtin hT pa sl ty hd (argsS (m:=mm v) (first:=[r]) (fun uu uu=>⟨.machine,.inr (.inl rfl),Looks.now⟩) hx F (fun W₂ vs rs L hs=>go W₂ vs rs (hv.le L) hs) A σ s K Q a h e q)
theorem methX (CO:CallOK C call) {x:E.X} {o:Expr} {m:Nm} {apos:Pos} {xs:List E.X} {es:List Expr} (hb:plainBase o=true) (hl:es.length < 30) (hline:(apos.endLine==pos.line)=true) (ho:XT C env call x o) (hx:XEs C env call xs es):
  XT C env call (.meth x m xs) (.Call (.Attribute o (nstr m) apos) es [] pos):=
 .plain rfl rfl fun X fr W F=>.of (t:=fun A Q s=>wpAny (model pw₀ C.w) A (eval o env) (fun ov s₁=>∀ pl,wpAny (model pw₀ C.w) A (getMethod ov (nstr m) pl) (fun fx s₂=>wpAny (model pw₀ C.w) A (callWith pos fx.1 fx.2 (backTo pos (starEach es env)) []) Q noE s₂) noE s₁) noE s) (fun h=>eval_meth hb hx.stars hl hline h)
  (.bind (f:=fun ov A Q s₁=>∀ pl,wpAny (model pw₀ C.w) A (getMethod ov (nstr m) pl) (fun fx s₂=>wpAny (model pw₀ C.w) A (callWith pos fx.1 fx.2 (backTo pos (starEach es env)) []) Q noE s₂) noE s₁) (ho.val X fr W F) fun W₁ v r L hv A σ s K Q a h e q pl=>by
   have F:=F.le L
   have e:O (match asInst σ v with | some p=>calleeI v p.1 p.2 m | .none=>(nat? m mTab).bind fun f=>if (match f.1 with | true=>isListRef σ v | false=>(asDict σ v).isSome) then some .bi else .none) fun c=>evalCs wid call xs fr σ fun vs σ=>calleeDo wid call v m vs σ c K:=e
   cases hi:asInst σ v with
   | some p=>
    rw [hi] at e
    refine instE (M:=fun r=>VR C.w W₁ v r→wpAny (model pw₀ C.w) A (getMethod r (nstr m) pl) (fun fx s₂=>wpAny (model pw₀ C.w) A (callWith pos fx.1 fx.2 (backTo pos (starEach es env)) []) Q noE s₂) noE s) h hv (O_of hi (K:=fun z=>z=p) rfl) (fun c fs ad d od g1 g2 Fo hp hv=>?_) hv
    subst hp
    have I:=instAt_of g1 g2
    have e:O (match methOf c m with | some f=>if (getL? m fs).isNone then some (.fn (.glob f) [v]) else .none | .none=>if isField c m then (getL? m fs).bind fun x=>(asClo x).map fun f=>.fn f [] else .none) fun c=>evalCs wid call xs fr σ fun vs σ=>calleeDo wid call v m vs σ c K:=e
    cases hm:methOf c m with
    | some f=>
     rw [hm] at e
     refine O_ite e fun hno e=>?_
     refine an4 (meth_of (P:=C.w.params) hm) fun m1 m2 m3 m4=>?_
     have hcl:=methOf_cls hm
     refine e1a2 (Fo.get (m:=m)) fun rs Dd hit=>?_
     rw [Option.isNone_iff_eq_none.mp hno] at hit
     have hr:∀ W,VR C.w W (.glob f) (.ref (gaddr f)):=fun W=>m4▸ .globI
     refine method_fn h.B I (of_map_eq (st_ga C.w.params) c hcl) (of_map_eq (st_nga C.w.params) c hcl) m1 m2 (by show (lookIn (nstr m) od).map (fun uu=>uu.isSome)=some false;rw [lookIn_of Dd,show valueAt rs (nstr m)=none from hit];rfl) ?_
     exact argsS (first:=[.ref ad]) (m:=fun vs=>call (.glob f) (v::vs)) (kept_fn h.base m3) hx F (fun W₂ vs rs L₂ hs=>CO (.glob f) (v::vs) _ (.ref ad::rs) W₂ (hr W₂) (.cons (hv.le L₂) hs)) A σ s K Q a h e q
    | none=>
     rw [hm] at e
     refine O_ite e fun hf e=>O_elim (O_bind e) fun u hu e=>O_elim (O_map e) fun f hf' e=>?_
     have hcl:=isField_cls hf
     have hcl3:=of_map_eq (st_fields C.w.params) (c,m) (pairsOf_mem hcl hf)
     refine method_field h.B I (of_map_eq (st_ga C.w.params) c hcl) (of_map_eq (st_nga C.w.params) c hcl) hcl3 ?_
     refine attrS hv A σ s (fun u' σ'=>σ'=σ∧u'=u) _ a h (show O (asInst σ v) (fun p=>O (if isField p.1 m then getL? m p.2 else none) fun v'=>σ=σ∧v'=u) from by rw [hi];show O (if isField c m then getL? m fs else none) _;rw [if_pos hf,hu];exact⟨rfl,rfl⟩) fun W₂ s₂ v' rf σ₂ L₂ g₂ hr hq=>?_
     obtain ⟨rfl,rfl⟩:=hq
     cases v' with
     | clo k cs=>
      cases hf'
      exact argsS (first:=[]) (m:=fun vs=>call (.clo k cs) vs) (kept_clo hr) hx (F.le L₂) (fun W₃ vs rs L₃ hs=>CO (.clo k cs) vs _ rs W₃ (hr.le L₃) hs) A σ₂ s₂ K Q a g₂ e (q.up L₂)
     | _=>cases hf'
   | none=>
    rw [hi] at e
    have keyL:isListRef σ v=true→s.TypeIs r "list"∧∀ a,r=.ref a→∃ o,s.heap.get? a=some o∧o.dict=none:=fun hl=>by
     refine ex1 (Option.isSome_iff_exists.mp hl) fun vs hl=>?_
     refine refV (M:=fun uu r=>s.TypeIs r "list"∧∀ a,r=.ref a→∃ o,s.heap.get? a=some o∧o.dict=none) hv (O_bind (O_bind (O_of hl (K:=fun uu=>True) trivial))) fun n ad d hm e=>O_elim e fun mo hmo e=>?_
     have M:=mobj h hm hmo
     cases mo with
     | list us=>obtain ⟨rfl,o,g,rs,k,rfl, -⟩:=M;exact⟨⟨_,g,rfl⟩,fun b hb=>by cases hb;exact⟨_,g,rfl⟩⟩
     | _=>exact e.elim
    refine natE (O_bind e) (fun q' e=>?_) fun e=>natE e (fun q' e=>?_) fun e=>natE e (fun q' e=>?_) fun e=>natE e (fun q' e=>?_) fun e=>e.elim
    ·subst q'
     exact O_ite e fun hd e=>biS (mm:=mAppend) hx F hv a h q (keyL hd).1 PySem.F.plainAttrs_list PySem.F.slot_list_append PySem.F.type_list_append (keyL hd).2 (fun W vs rs hv hs=>appendS hv hs) e
    ·subst q'
     exact O_ite e fun hd e=>biS (mm:=mExtend) hx F hv a h q (keyL hd).1 PySem.F.plainAttrs_list PySem.F.slot_list_extend PySem.F.type_list_extend (keyL hd).2 (fun W vs rs hv hs=>extendS hv hs) e
    ·subst q'
     exact O_ite e fun hd e=>biS (mm:=mPop) hx F hv a h q (keyL hd).1 PySem.F.plainAttrs_list PySem.F.slot_list_pop PySem.F.type_list_pop (keyL hd).2 (fun W vs rs hv hs=>popS hv hs) e
    ·subst q'
     refine O_ite e fun hd e=>?_
     refine ex1 (Option.isSome_iff_exists.mp hd) fun kvs hk=>?_
     have keyD:s.TypeIs r "dict"∧∀ a,r=.ref a→∃ o,s.heap.get? a=some o∧o.dict=none:=dictE (M:=fun r=>s.TypeIs r "dict"∧∀ a,r=.ref a→∃ o,s.heap.get? a=some o∧o.dict=none) h hv (O_of hk (K:=fun uu=>True) trivial) fun kvs ad o g uu X uu=>⟨⟨o,g,X.exact.1⟩,fun b hb=>by cases hb;exact⟨o,g,X.exact.2.1⟩⟩
     exact biS (mm:=mGet) hx F hv a h q keyD.1 PySem.F.plainAttrs_dict PySem.F.slot_dict_get PySem.F.type_dict_get keyD.2 (fun W vs rs hv hs=>getS hv hs) e)
end
end E
end Mine
end
section
namespace Mine
namespace E
open PySem PySem.W PyProof.Rows
theorem si_b (P:Params):clsL.map (fun c=>(gvalue c,isNotIn (KC P) "NoneType" (gaddr c),isNotIn (KC P) "int" (gaddr c),isNotIn (KC P) "list" (gaddr c),isNotIn (KC P) "dict" (gaddr c)))=clsL.map fun c=>(.ref (gaddr c),true,true,true,true):=by kernel_rfl
theorem si_c (P:Params):clsL.map (fun c=>(isIn (KC P) (.ref (gaddr c)) (gaddr c),clsL.all (fun t=>t==c||kin_not (KC P) (gaddr c) (gaddr t)),plainGet (KC P) (gaddr c) "__class__",hasDictIn (KC P) (gaddr c),findIn (KC P) (.ref (gaddr c)) "__class__",mroIn (KC P) (gaddr c) (.type "object")))=clsL.map fun uu=>(true,true,true,true,some (some (.builtin "object.__class__")),some true):=by kernel_rfl
theorem si_t (P:Params):clsL.map (fun c=>(kin_notT (KC P) (gaddr c) "bool",kin_notT (KC P) (gaddr c) "int",kin_notT (KC P) (gaddr c) "list",kin_notT (KC P) (gaddr c) "dict"))=clsL.map fun uu=>(true,true,true,true):=by kernel_rfl
theorem si_n (P:Params):specialIn (KC P) (.builtin "object.__class__") "__get__"=some (some (.builtin "getset_descriptor.__get__"))∧takesIn (KC P) (.builtin "object.__class__")=some true:=⟨by kernel_rfl,by kernel_rfl⟩
theorem isCls_cls {c:Gl} (h:isCls c=true):c∈clsL:=by
 have:=glP (p:=fun c=> !isCls c||clsL.contains c) (by decide +kernel) c
 try dsimp only at this
 rw [h] at this
 exact glMem this
theorem at_mem {α:Type} {g:Gl} {f:α}:∀ {l:List (Gl×α)},at? g l=some f→(g,f)∈l
 | (h,a)::r,e=>by
  by_cases q:h=g
  ·cases (if_pos q).symm.trans e
   exact q▸ .head _
  ·exact .tail _ (at_mem ((if_neg q).symm.trans e))
section
variable {C:Cx} {W:Wd} {σ:St} {s:Shared} {A:Around} {x y v:V} {rx ry rv r:Value}
noncomputable abbrev Is (C:Cx) (A:Around) (s:Shared) (r:Value) (t:Gl) (b:Bool):Prop:=∀ Q,(∀ k,Q (.bool b) {s with toks:=k})→wpAny (model pw₀ C.w) A (PySem.call (.builtin "isinstance") [r,gvalue t]) Q noE s
structure IsK (C:Cx) (A:Around) (s:Shared) (r:Value) (k:Kind):Prop where
 cls:∀ t∈clsL,Is C A s r t (k.1==some t)
 rows:∀ p∈k.2,Is C A s r p.1 p.2
theorem isT {T:String} {P:Heap→Prop} (h:Rel C.D W σ s) (e:∀ t∈clsL,gvalue t=.ref (gaddr t)∧isNotIn (KC C.w.params) T (gaddr t)=true) (hT:∀ M,Looks M s.heap (typeOf r) (.type T)) (hx:r≠ .builtin "__main__.__loader__#opaque") (p:P s.heap)
  (ca:∀ {prog:Program} {w:World} {A:Around} {E:Value→Shared→Prop} {Q:Option Value→Shared→Prop} {s:Shared},P s.heap→Q (some (.type T)) {s with toks:=s.toks + 1}→wpAny (model prog w) A (getAttr? r "__class__") Q E s):∀ t∈clsL,Is C A s r t (none==some t):=fun t ht Q q=>by
 rw [(e t ht).1]
 exact isn_call h.B hT (e t ht).2 hx p ca (q _)
theorem isL {a:Addr} {rs:Array Value} {n:Nat} (h:Rel C.D W σ s) (g:s.heap.get? a=some (listObj rs n)):IsK C A s (.ref a) kL where
 cls:=isT (P:=fun h=>∃ o,h.get? a=some o∧o.cls=.type "list") h (fun t ht=>have e:=Prod.mk.inj (of_map_eq (si_b C.w.params) t ht);⟨e.1,congrArg (fun uu=>uu.2.2.1) e.2⟩) (fun M=>(Looks.ld g).andThen .now) nofun ⟨_,g,rfl⟩ list_cls
 rows:=List.forall_mem_cons.mpr ⟨fun Q q=>IsiPair.list_bool g rfl (q _),List.forall_mem_cons.mpr ⟨fun Q q=>IsiPair.list_int g rfl (q _),List.forall_mem_cons.mpr ⟨fun Q q=>IsiPair.list_list g rfl (q _),List.forall_mem_nil _⟩⟩⟩
theorem isD {a:Addr} {o:Obj} (h:Rel C.D W σ s) (g:s.heap.get? a=some o) (c:o.cls=.type "dict"):IsK C A s (.ref a) kD where
 cls:=isT (P:=fun h=>∃ o,h.get? a=some o∧o.cls=.type "dict") h (fun t ht=>have e:=Prod.mk.inj (of_map_eq (si_b C.w.params) t ht);⟨e.1,congrArg (fun uu=>uu.2.2.2) e.2⟩) (fun M=>c▸(Looks.ld g).andThen .now) nofun ⟨_,g,c⟩ dict_cls
 rows:=List.forall_mem_cons.mpr ⟨fun Q q=>IsiPair.dict_bool g c (q _),List.forall_mem_cons.mpr ⟨fun Q q=>IsiPair.dict_int g c (q _),List.forall_mem_cons.mpr ⟨fun Q q=>IsiPair.dict_list g c (q _),List.forall_mem_cons.mpr ⟨fun Q q=>IsiPair.dict_dict g c (q _),List.forall_mem_nil _⟩⟩⟩⟩
theorem isC {a d:Addr} {od:Obj} {c:Gl} (h:Rel C.D W σ s) (g1:s.heap.get? a=some (instObj (gaddr c) d)) (g2:s.heap.get? d=some od) (hc:c∈clsL):IsK C A s (.ref a) (kI c):=by
 have I:=instAt_of g1 g2
 refine an2 (Prod.mk.inj (of_map_eq (si_c C.w.params) c hc)) fun q0 q=>?_
 refine an2 (Prod.mk.inj q) fun qn q=>?_
 refine an2 (Prod.mk.inj q) fun q1 q=>?_
 refine an2 (Prod.mk.inj q) fun q2 q=>?_
 refine an2 (Prod.mk.inj q) fun q3 q4=>?_
 refine an2 (si_n C.w.params) fun n1 n2=>?_
 have r:=of_map_eq (si_t C.w.params) c hc
 have go:∀ {T:String} {Q:Value→Shared→Prop},typeOf (.type T)=pure (.type "type")→kin_notT (KC C.w.params) (gaddr c) T=true→(∀ k,Q (.bool false) {s with toks:=k})→wpAny (model pw₀ C.w) A (PySem.call (.builtin "isinstance") [.ref a,.type T]) Q noE s:=
  fun t e q=>kin_callT h.B I e t q1 q2 q3 n1 n2 q4 (q _)
 refine ⟨fun t ht Q q=>?_,List.forall_mem_cons.mpr ⟨fun Q q=>go (T:="bool") rfl (congrArg (fun uu=>uu.1) r) q,List.forall_mem_cons.mpr ⟨fun Q q=>go (T:="int") rfl (congrArg (fun uu=>uu.2.1) r) q,List.forall_mem_cons.mpr ⟨fun Q q=>go (T:="list") rfl (congrArg (fun uu=>uu.2.2.1) r) q,List.forall_mem_cons.mpr ⟨fun Q q=>go (T:="dict") rfl (congrArg (fun uu=>uu.2.2.2) r) q,List.forall_mem_nil _⟩⟩⟩⟩⟩
 rw [(Prod.mk.inj (of_map_eq (si_b C.w.params) t ht)).1]
 rcases (Bool.or_eq_true _ _).mp (List.all_eq_true.mp qn t ht) with z | z
 ·cases eq_of_beq z
  have q:∀ k,Q (.bool (some c==some c)) {s with toks:=k}:=q
  rw [beq_self_eq_true] at q
  exact isi_call h.B (fun M=>I.type) q0 nofun (q _)
 ·have ne:c≠t:=fun e=>by
   subst e
   unfold kin_not at z
   rw [decide_eq_false (fun n=>n rfl)] at z
   cases z
  have q:∀ k,Q (.bool (some c==some t)) {s with toks:=k}:=q
  rw [beq_false_of_ne fun e=>ne (Option.some.inj e)] at q
  exact kin_callC h.B I z q1 q2 q3 n1 n2 q4 (q _)
theorem kind_at {K:Kind→Prop} (h:Rel C.D W σ s) (hx:VR C.w W x rx) (e:O (kindV σ x) K):∃ k,K k∧IsK C A s rx k:=by
 cases x with
 | none=>cases (hx.out:_=_);exact⟨_,e,isT (P:=fun uu=>True) h (fun t ht=>have e:=Prod.mk.inj (of_map_eq (si_b C.w.params) t ht);⟨e.1,congrArg (fun uu=>uu.1) e.2⟩) (fun M=>Looks.of_pure rfl) nofun trivial none_cls,List.forall_mem_cons.mpr ⟨fun Q q=>IsiPair.NoneType_dict (q _),List.forall_mem_nil _⟩⟩
 | int i=>obtain ⟨t,rfl⟩:=hx.out;exact⟨_,e,isT (P:=fun uu=>True) h (fun t ht=>have e:=Prod.mk.inj (of_map_eq (si_b C.w.params) t ht);⟨e.1,congrArg (fun uu=>uu.2.1) e.2⟩) (fun M=>Looks.of_pure rfl) nofun trivial int_cls,List.forall_mem_cons.mpr ⟨fun Q q=>IsiPair.int_bool (q _),List.forall_mem_cons.mpr ⟨fun Q q=>IsiPair.int_int (q _),List.forall_mem_nil _⟩⟩⟩
 | lst l=>obtain ⟨a,rs,n,rfl,f, -⟩:=hx.lstD;exact⟨_,e,isL h (h.fz f)⟩
 | dct l=>obtain ⟨a,o,rfl,f, -,X⟩:=hx.out;exact⟨_,e,isD h (h.fz f) X.exact.1⟩
 | inst c l=>obtain ⟨a,o,rfl,f,d,od,rfl,g, -⟩:=hx.out;exact O_ite e fun hc e=>⟨_,e,isC h (h.fz f) (h.fz g) (isCls_cls hc)⟩
 | ref n=>
  refine refE (M:=fun r=>∃ k,K k∧IsK C A s r k) h hx e fun a d m uu uu N e=>?_
  cases m with
  | inst c vs=>obtain ⟨g, -,od,g', -⟩:=N;exact O_ite e fun hc e=>⟨_,e,isC h g g' (isCls_cls hc)⟩
  | list vs=>obtain ⟨-,o,g,rs,n,rfl, -⟩:=N;exact⟨_,e,isL h g⟩
  | dict vs=>obtain ⟨-,o,g, -,X⟩:=N;exact⟨_,e,isD h g X.exact.1⟩
  | tab l=>exact e.elim
 | _=>exact e.elim
theorem isiS (hx:VR C.w W x rx) (hy:VR C.w W y ry):CallS C W (call (.builtin "isinstance") [rx,ry]) (bIsi x y):=fun A σ s K Q a h e q=>by
 cases y with
 | glob t=>
  cases (hy.out:_=_)
  have e:O (isInst σ x t) fun b=>K (.bool b) σ:=e
  obtain ⟨k,e,ik⟩:=kind_at h hx (O_bind e)
  cases ht:isCls t with
  | true=>rw [ht] at e;exact ik.cls t (isCls_cls ht) Q fun n=>q.tok h .boolI e
  | false=>rw [ht] at e;exact O_elim e fun b hb e=>ik.rows _ (at_mem hb) Q fun n=>q.tok h .boolI e
 | _=>exact e.elim
end
end E
end Mine
end
section
namespace Mine
namespace E
open PySem PySem.W PyProof.Rows
theorem F2.getR {α β:Type} {P:α→β→Prop} {b:β}:∀ {as:List α} {bs:List β} {j:Nat},F2 P as bs→bs[j]?=some b→∃ a,as[j]?=some a∧P a b
 | [],_,j,h,e=>by cases (h:_=_);exact nomatch e
 | a::as,_,0,h,e=>by
  refine e2a3 h fun b' bs qq0 h1 h2=>?_;subst qq0
  cases e;exact⟨a,rfl,h1⟩
 | a::as,_,j + 1,h,e=>by
  refine e2a3 h fun b' bs qq0 h1 h2=>?_;subst qq0
  exact F2.getR (j:=j) h2 e
structure IterOf (C:Cx) (W:Wd) (A:Around) (I:Addr) (vs:List V) (fp:List Addr) (P:Nat→Value→Prop) (Sq:Nat→Heap→Prop):Prop where
 walk:Walks pw₀ C.w A I fp [I] vs.length P Sq
 fp:∀ b∈fp,b=I∨∃ o,W.pl b=.fz o
 val:∀ i x,P i x→∃ v,vs[i]?=some v∧VR C.w W v x
 live:∀ i h,Sq i h→∃ o,h.get? I=some o
noncomputable def Itr (C:Cx) (W:Wd) (A:Around) (I:Addr) (vs:List V) (h:Heap):Prop:=∃ fp P Sq us i,IterOf C W A I us fp P Sq∧Sq i h∧i≤us.length∧us.drop i=vs
section
variable {C:Cx} {W W':Wd} {σ:St} {s:Shared} {A:Around} {x y v:V} {rx ry rv r:Value} {I:Addr} {vs:List V} {h h':Heap}
theorem Itr.live:Itr C W A I vs h→∃ o,h.get? I=some o:=fun⟨_,_,_,_,_,it,st,_⟩=>it.live _ _ st
theorem Itr.frame (hi:∀ o,h.get? I=some o→h'.get? I=some o) (hf:∀ a o,W.pl a=.fz o→h.get? a=some o∧h'.get? a=some o):Itr C W A I vs h→Itr C W A I vs h':=fun⟨fp,P,Sq,us,i,it,st,hl,e⟩=>
 ⟨fp,P,Sq,us,i,it,it.walk.frame i _ _ st fun b hb o g=>by
  rcases it.fp b hb with rfl | ⟨o',f⟩
  ·exact hi o g
  ·refine an2 (hf _ _ f) fun g1 g2=>?_
   cases g.symm.trans g1
   exact g2,hl,e⟩
theorem Itr.le (L:∀ a o,W.pl a=.fz o→W'.pl a=.fz o) (hv:∀ v r,VR C.w W v r→VR C.w W' v r):Itr C W A I vs h→Itr C W' A I vs h:=fun⟨fp,P,Sq,us,i,it,r⟩=>
 ⟨fp,P,Sq,us,i,⟨it.walk,fun b hb=>(it.fp b hb).imp id fun⟨o,f⟩=>⟨o,L _ _ f⟩,fun i x p=>(it.val i x p).imp fun v h=>⟨h.1,hv _ _ h.2⟩,it.live⟩,r⟩
theorem Itr.item {Q:Option Value→Shared→Prop} {E:Value→Shared→Prop} (it:Itr C W A I (v::vs) s.heap) (k:∀ x h' tk,VR C.w W v x→Itr C W A I vs h'→(∀ b o,b≠I→s.heap.get? b=some o→h'.get? b=some o)→Q (some x) {s with heap:=h',toks:=tk}):wpAny (model pw₀ C.w) A (pyNext (.ref I)) Q E s:=by
 refine ex5 it fun fp P Sq us i hh=>an4 hh fun it st hl e=>?_
 have hlt:i < us.length:=Nat.lt_of_le_of_ne hl fun q=>by rw [q,List.drop_length] at e;cases e
 rw [List.drop_eq_getElem_cons hlt] at e
 refine an2 (List.cons.inj e) fun e1 e2=>?_
 refine it.walk.item i s _ _ hlt st fun x h' tk p st' kp=>?_
 refine e1a2 (it.val i x p) fun v' h1 h2=>?_
 cases (List.getElem?_eq_getElem hlt).symm.trans h1
 exact k x h' tk (e1▸h2) ⟨fp,P,Sq,us,i + 1,it,st',hlt,e2⟩ fun b o hb g=>kp b o (fun z=>hb (List.mem_singleton.mp z)) g
theorem Itr.done {Q:Option Value→Shared→Prop} {E:Value→Shared→Prop} (it:Itr C W A I [] s.heap) (k:∀ h' tk,(∀ b o,b≠I→s.heap.get? b=some o→h'.get? b=some o)→Q none {s with heap:=h',toks:=tk}):wpAny (model pw₀ C.w) A (pyNext (.ref I)) Q E s:=by
 refine ex5 it fun fp P Sq us i hh=>an4 hh fun it st hl e=>?_
 have q:i=us.length:=Nat.le_antisymm hl (Nat.ge_of_not_lt fun z=>by rw [List.drop_eq_getElem_cons z] at e;cases e)
 subst q
 exact it.walk.done s _ _ st fun h' tk kp=>k h' tk fun b o hb g=>kp b o (fun z=>hb (List.mem_singleton.mp z)) g
theorem DR.plainE {w:World} {P:VP} {kvs:List (V×V)} {o:Obj} {G:Prop} (D:DR w P kvs o) (h:kvs.all (fun p=>plainKey p.1)=true) (k:∀ {I K:Type} [DecidableEq K] {knd:KeyKind pw₀ w K} {tv:I→V} {tk:I→K} (κ:PKind w knd tv tk) (rs:List (K×Value)),o.IsDictOf knd rs→KR tv tk P kvs rs→G):G:=by
 cases D with
 | p κ rs x y=>exact k κ rs x y
 | t xs x y=>
  cases kvs with
  | nil=>
   refine ex1 (DR.nil (.t xs x y)) fun ep e=>?_
   refine e2a2 x fun uu uu x uu=>?_
   exact k strP [] (dict_nil x e) .nil
  | cons p kvs=>
   obtain ⟨q,rs', -,⟨⟨i,j,ei, -⟩, -⟩, -⟩:=y
   have h:=List.all_eq_true.mp h p (.head _)
   rw [ei] at h
   cases h
theorem walks_lt {prog:Program} {w:World} {fp wr:List Addr} {n:Nat} {P:Nat→Value→Prop} {Sq:Nat→Heap→Prop} (k:Walks prog w A I fp wr n P Sq):Walks prog w A I fp wr n (fun i x=>i < n∧P i x) Sq:=
 ⟨k.sub,k.frame,fun i s Q E hi st hQ=>k.item i s Q E hi st fun v h' tk hp=>hQ v h' tk ⟨hi,hp⟩,k.done,k.self⟩
theorem fp2 {a b:Addr} {o:Obj} (f:W.pl a=.fz o) (hb:b∈ [I,a]):b=I∨∃ o,W.pl b=.fz o:=(List.mem_cons.mp hb).imp id fun hb=>by
 cases List.mem_singleton.mp hb;exact⟨o,f⟩
theorem IterOf.fixed {a:Addr} {rs:Array Value} {o:Obj} {Sq:Nat→Heap→Prop} (F:F2 (VR C.w W) vs rs.toList) (f:W.pl a=.fz o) (wk:Walks pw₀ C.w A I [I,a] [I] rs.size (fun i x=>rs[i]?=some x) Sq) (l:∀ i h,Sq i h→∃ o,h.get? I=some o):IterOf C W A I vs [I,a] (fun i x=>rs[i]?=some x) Sq:=
 ⟨(F.len:rs.size=vs.length)▸wk,fun b hb=>fp2 f hb,fun i x p=>F.getR (by rw [Array.getElem?_toList];exact p),l⟩
theorem iterS {K:List V→Prop} {Q:Value→Shared→Prop} (hh:A.handled=none) (R:Rel C.D W σ s) (e:O (asIter v) K) (hv:VR C.w W v r)
  (k:∀ vs o fp P Sq,IterOf C W A s.heap.objs.size vs fp P Sq→o.isFreed=false→Sq 0 (s.heap.push o)→vs.length≤1000000→K vs→Q (.ref s.heap.objs.size) {s with heap:=s.heap.push o}):wpAny (model pw₀ C.w) A (pyIter r) Q noE s:=by
 have ne:∀ {a o},W.pl a=.fz o→a≠s.heap.objs.size:=fun f q=>nomatch (q▸f).symm.trans R.new_no
 have e:=O_bind e
 have few:∀ {vs},O (few vs) K→vs.length≤1000000∧K vs:=fun e=>O_ite e fun a b=>⟨a,b⟩
 cases v with
 | bytes b=>
  obtain ⟨t,rfl⟩:=hv.out
  refine an2 (few e) fun hz e=>?_
  have hl:(b.map fun x=>V.int (x.toNat:Int)).length=b.toArray.size:=List.length_map _
  exact KBw.pyIter_bytes (k _ _ [s.heap.objs.size] _ _ ⟨hl▸KBw.walks hh s.heap.objs.size b.toArray t,fun b hb=>.inl (List.mem_singleton.mp hb),fun i x ⟨c,u,h1,h2⟩=>⟨.int c.toNat,by rw [List.getElem?_map,show b[i]?=some c from(List.getElem?_toArray ..).symm.trans h1];rfl,h2▸ .intI⟩,fun i h ⟨o,h1,_⟩=>⟨o,h1⟩⟩ rfl ⟨_,Heap.get?_push_size _ rfl,rfl,rfl⟩ hz e)
 | rng n=>
  obtain ⟨a,o,rfl,f,t,u,v,rfl⟩:=hv.out
  refine O_ite e fun h0 e=>?_
  refine an2 (few e) fun hz e=>?_
  have hl:((List.range n.toNat).map fun(i:Nat)=>V.int (i:Int)).length=n.toNat:=by rw [List.length_map,List.length_range]
  have hsz:Builtin.Range.rangeSize 0 n 1=(n.toNat:Int):=by rw [rangeSize_one];split<;>omega
  refine wpAny_pyIter_range (r:=a) (a:=0) (b:=n) (c:=1) (t:=t) (u:=u) (v:=v) (R.fz f) ?_ (k _ _ [s.heap.objs.size] _ _ ⟨hl▸walks_lt (Walks.range hh s.heap.objs.size 0 1 n.toNat),fun b hb=>.inl (List.mem_singleton.mp hb),fun i x p=>?_,fun i h' st=>⟨_,st⟩⟩ rfl ?_ hz e)
  ·unfold Builtin.Range.small
   rw [hsz]
   unfold Builtin.Range.rangeFitsLong
   rw [if_pos (by decide)]
   simp only [Bool.and_eq_true,Bool.or_eq_true,decide_eq_true_eq,beq_iff_eq]
   omega
  ·obtain ⟨hi,t,rfl⟩:=p
   exact⟨.int i,by rw [List.getElem?_map,List.getElem?_range (hl▸hi)];rfl,by rw [Int.mul_one,Int.zero_add];exact .intI⟩
  ·show Heap.get? _ _=_
   rw [Heap.get?_push_size _ rfl,hsz];simp
 | dct kvs=>
  obtain ⟨a,o,rfl,f,hm,D⟩:=hv.out
  refine O_ite e fun hk e=>?_
  refine an2 (few e) fun hz e=>?_
  refine D.plainE hk fun {I K uu knd tv tk} κ rs x y=>?_
  have l:rs.length=(kvs.map (fun uu=>uu.1)).length:=y.len.trans (List.length_map _).symm
  refine ex1 ((Heap.dictOf_iff.mpr ⟨o,R.fz f,x⟩:s.heap.DictOf knd a rs).dictAt) fun ep hd=>?_
  exact wpAny_pyIter_dict hm hd (k _ _ [s.heap.objs.size,a] _ _ ⟨l▸Walks.dictKeys hh s.heap.objs.size a (ne f) rs ep,fun b hb=>fp2 f hb,fun i xx ⟨_,_,p1,p2⟩=>by
   obtain ⟨q,q1,⟨j,q2,q3⟩, -⟩:=y.getR p1
   exact⟨tv j,by rw [List.getElem?_map,q1];exact congrArg some q2,κ.vr.mpr (q3▸p2)⟩,fun i h' st=>let ⟨⟨o,h1,_⟩,_⟩:=st;⟨o,h1⟩⟩ rfl ⟨⟨_,Heap.get?_push_size _ rfl,rfl,by rw [← l];rfl⟩,hd.keep fun b o e=>Heap.get?_push_of_some _ e⟩ hz e)
 | tup l=>
  obtain ⟨a,rs,n,rfl,f,F⟩:=hv.tupD
  refine an2 (few e) fun hz e=>?_
  exact wpAny_pyIter_tuple (isTuple_at (R.fz f)) (k _ _ _ _ _ (.fixed F f (Walks.tuple hh s.heap.objs.size a (ne f) rs) fun i h st=>let ⟨⟨o,h1,_⟩,_⟩:=st;⟨o,h1⟩) rfl ⟨⟨_,Heap.get?_push_size _ rfl,rfl,rfl⟩,isTuple_at (Heap.get?_push_of_some _ (R.fz f))⟩ hz e)
 | lst l=>
  obtain ⟨a,rs,n,rfl,f,F⟩:=hv.lstD
  refine an2 (few e) fun hz e=>?_
  exact wpAny_pyIter_list (isList_at (R.fz f)) (k _ _ _ _ _ (.fixed F f (Walks.list hh s.heap.objs.size a (ne f) rs) fun i h st=>let ⟨⟨o,h1,_⟩,_⟩:=st;⟨o,h1⟩) rfl ⟨⟨_,Heap.get?_push_size _ rfl,rfl,rfl⟩,isList_at (Heap.get?_push_of_some _ (R.fz f))⟩ hz e)
 | _=>exact e.elim
theorem allB_spec:∀ {vs:List V} {K:Bool→Prop},O (allB vs) K→∃ f:Nat→Bool,(∀ i (v:V),vs[i]?=some v→v=V.bool (f i))∧K ((List.range vs.length).all f)
 | [],K,e=>⟨fun uu=>true,nofun,e⟩
 | v::r,K,e=>by
  cases v with
  | bool c=>
   refine e1a2 (allB_spec (K:=fun q=>K (c&&q)) (O_map (β:=Bool) e)) fun f f1 f2=>?_
   refine ⟨fun i=>match i with | 0=>c | i + 1=>f i,fun i v hi=>?_,?_⟩
   ·cases i with
    | zero=>exact(Option.some.inj hi).symm
    | succ i=>exact f1 i v hi
   ·rw [List.length_cons,List.range_succ_eq_map,List.all_cons,List.all_map];exact f2
  | _=>exact e.elim
theorem lstIter (R:Rel C.D W σ s) (hh:A.handled=none) {Q:Value→Shared→Prop} (hv:VR C.w W (.lst vs) r) (hl:vs.length≤1000000)
  (k:∀ o fp P Sq,IterOf C W A s.heap.objs.size vs fp P Sq→o.isFreed=false→Sq 0 (s.heap.push o)→Q (.ref s.heap.objs.size) {s with heap:=s.heap.push o}):wpAny (model pw₀ C.w) A (pyIter r) Q noE s:=
 iterS (K:=fun us=>us=vs) hh R (show O (few vs) _ by unfold few;rw [if_pos hl]) hv fun us o fp P Sq it ho st uu e=>k o fp P Sq (e▸it) ho st
theorem allS (hx:VR C.w W x rx):CallS C W (call (.builtin "all") [rx]) (bAll x):=fun A σ s K Q a h e k=>by
 cases x with
 | lst vs=>
  refine Gx_elim e fun c e=>?_
  refine e1a2 (allB_spec e) fun f f1 e=>?_
  refine call_all_walk (lstIter h (show A.in1.handled=none from a.handled) hx (of_decide_eq_true c) fun o fp P Sq It hfo st0=>?_)
  refine ⟨_,fp,[s.heap.objs.size],vs.length,P,Sq,f,rfl,It.walk,st0,fun i v s' Q E hp hq=>?_,fun h' tk kp=>k.ext h (fun b ob e=>kp b ob (fun z=>by rw [List.mem_singleton.mp z,get_new] at e;cases e) (Heap.get?_push_of_some _ e)) .boolI e⟩
  refine e1a2 (It.val i v hp) fun v' h1 h2=>?_
  cases f1 i _ h1
  cases (h2.out:_=_)
  exact wpAny_truthy_bool hq
 | _=>exact e.elim
theorem smRank_ok:∀(x:Sm) (i:Nat),smRank x=some i→(sstr x).cps.toList=[i]:=by
 intro x i h
 have:=smP (p:=fun x=>match smRank x with | some i=>decide ((sstr x).cps.toList=[i]) | none=>true) (by decide +kernel) x
 try dsimp only at this
 rw [h] at this
 exact of_decide_eq_true this
theorem strs_are:∀ {l:List Sm} {rs:List Value},F2 (VR C.w W) (l.map .str) rs→StrsAre rs (l.map sstr)
 | [],_,h=>h.nilE .nil
 | _::_,_,h=>h.consE fun uu uu h1 h2=>by
  refine ex1 h1.out fun t qq0=>?_;subst qq0
  exact .cons _ t (strs_are h2)
theorem strs_of:∀ {l:List Sm} {rs:List Value},StrsAre rs (l.map sstr)→F2 (VR C.w W) (l.map .str) rs
 | [],_,h=>by cases h;exact .nil
 | x::l,_,h=>by
  cases h with
  | cons _ t h=>exact .cons .strI (strs_of h)
theorem sortAny {l r:List Sm} {K:V→St→Prop} {Q:Value→Shared→Prop} (h:Rel C.D W σ s) (hx:VR C.w W (.lst (l.map .str)) rx) (hl:l.length < 64) (hu:∀ ss',ss'.Perm (l.map sstr)→sortedS ss'=true→ss'=r.map sstr) (e:K (.lst (r.map .str)) σ) (k:Kt C W (VR C.w) K Q):wpAny (model pw₀ C.w) A (PySem.call (.builtin "sorted") [rx]) Q noE s:=by
 refine ex3 hx.lstD fun a rs n hh=>an3 hh fun qq0 f F=>?_;subst qq0
 obtain ⟨rs⟩:=rs
 refine sorted_strs (vs:=rs) (isList_at (h.fz f)) (strs_are F) (by have:=F.len;rw [List.length_map] at this;exact this▸hl) fun out ss' hS hp hso=>?_
 cases hu ss' hp hso
 refine ex1 (sortedAll_at s.heap rs out) fun ee ge=>?_
 exact k.fresh (t:=s.toks) h (h.no (Heap.get?_none_of_le (Nat.le_succ _))) ge (fun b o uu uu e=>sortedAll_old e) e fun W' L f=>VR.lstI W' _ _ f ⟨out,ee,rfl,strs_of hS⟩
theorem sortS (hx:VR C.w W x rx):CallS C W (call (.builtin "sorted") [rx]) (bSort x):=fun A σ s K Q a h e k=>by
 cases x with
 | lst l=>
  have e:(match one? l with | some a=>O (asStr a) fun a=>K (.lst [.str a]) σ | .none=>O (two? l) fun p=>O (asStr p.1) fun a=>O (asStr p.2) fun b=>O (smLt b a) fun q=>K (.lst (if q then [.str b,.str a] else [.str a,.str b])) σ):=e
  cases hl:one? l with
  | some u=>
   rw [hl] at e
   match l,hl with
   | [_],rfl=>refine O_elim e fun c hc e=>?_;cases asStr_eq hc;exact sortAny (l:=[c]) (r:=[c]) h hx (by decide:1 < 64) (fun ss' p uu=>List.perm_singleton.mp p) e k
  | none=>
   rw [hl] at e
   refine O_elim e fun p hp e=>O_elim e fun c hc e=>O_elim e fun d hd e=>O_elim e fun q hq e=>?_
   obtain ⟨u,w⟩:=p
   cases two_eq hp
   cases asStr_eq hc
   cases asStr_eq hd
   unfold smLt at hq
   cases hi:smRank d with
   | none=>rw [hi] at hq;cases hq
   | some i=>
   cases hj:smRank c with
   | none=>rw [hi,hj] at hq;cases hq
   | some j=>
   rw [hi,hj] at hq
   cases hq
   have ci:=smRank_ok _ _ hi
   have cj:=smRank_ok _ _ hj
   have two:∀ ss',ss'.Perm [sstr c,sstr d]→ss'=[sstr c,sstr d]∨ss'=[sstr d,sstr c]:=fun ss' hp=>by
    cases ss' with
    | nil=>exact nomatch hp.length_eq
    | cons u t=>
     rcases List.mem_cons.mp (hp.subset (.head _)) with rfl | hu
     ·exact .inl (congrArg _ (List.perm_singleton.mp hp.cons_inv))
     ·cases List.mem_singleton.mp hu
      exact .inr (congrArg _ (List.perm_singleton.mp (hp.trans (List.Perm.swap _ _ _)).cons_inv))
   have ord:∀ {a b:Sm} {i j:Nat},(sstr a).cps.toList=[i]→(sstr b).cps.toList=[j]→sortedS [sstr a,sstr b]=true→¬ j < i:=fun {a b uu uu} ha hb h=>by
    have h:(!Spec.ltCps (sstr b).cps.toList (sstr a).cps.toList&&true)=true:=h
    rw [ha,hb] at h
    simpa [Spec.ltCps] using h
   by_cases hij:i < j
   ·rw [decide_eq_true hij] at e
    exact sortAny (l:=[c,d]) (r:=[d,c]) h hx (by decide:2 < 64) (fun ss' p so=>(two ss' p).resolve_left fun z=>ord cj ci (z▸so) hij) e k
   ·rw [decide_eq_false hij] at e
    refine sortAny (l:=[c,d]) (r:=[c,d]) h hx (by decide:2 < 64) (fun ss' p so=>(two ss' p).elim id fun z=>?_) e k
    have e2:i=j:=Nat.le_antisymm (Nat.le_of_not_lt (ord ci cj (z▸so))) (Nat.le_of_not_lt hij)
    have e3:sstr d=sstr c:=congrArg Str.mk (Array.ext' (ci.trans ((congrArg (fun k=>[k]) e2).trans cj.symm)))
    exact z.trans (show [sstr d,sstr c]=[sstr c,sstr d] by rw [e3])
 | _=>exact e.elim
end
end E
end Mine
end
section
namespace Mine
namespace E
open PySem PySem.W PyProof.Rows
theorem list_no_keys:typeLookup (.type "list") (Str.ofString "keys")=pure none:=am_miss_of_fast (by decide +kernel)
theorem upd_plain:plainId "dict.update.loop"=true:=by decide +kernel
theorem upd_entry:entryFor table "dict.update.loop"=some Builtin.«dict.update.loop»:=entryFor_of_fast (by kernel_rfl)
theorem getAttrq_miss_list {prog:Program} {w:World} {A:Around} {E:Value→Shared→Prop} {s:Shared} {a:Addr} {xs:Array Value} {k:Nat} {name:Str} {Q:Option Value→Shared→Prop}
  (hx:s.heap.get? a=some (listObj xs k)) (hmiss:typeLookup (.type "list") name=pure none) (hname:(["__module__","__name__","__qualname__","__doc__","__annotations__"]:List Str).contains name=false) (hA:A.handled=none)
  (h:∀ h' tk,(∀ b o,s.heap.get? b=some o→h'.get? b=some o)→Q none {s with heap:=h',toks:=tk}) (hsz:name.length + 100≤sizeLine:=by size_fits):
  wpAny (model prog w) A (getAttr? (.ref a) name) Q E s:=by
 obtain ⟨hp,g,d,tk,os⟩:=s
 have hT:∀ tk',(⟨hp,g,d,tk',os⟩:Shared).TypeIs (.ref a) "list":=fun uu=>⟨_,hx,rfl⟩
 have f1:=sub_AttributeError
 have f3:=F.slot_list_getattribute.lookup
 have f4:=F.slot_list_getattribute.bind (.ref a)
 have f5:=am_list_getattr_none
 unfold getAttr? getAttrBy? getAttrBy
 repeat (any_goals (first | assumption | exact hT _ | ((with_reducible show wpAny _ _ (call (Value.builtin "list.__getattribute__") _ _) _ _ _);refine call_meets F.slot_list_getattribute (hT _) am_entry_list_getattribute (F.args_list_getattribute_2 _ _) (meets_getattribute_miss_list a xs k #[] name _ hmiss hname hsz) ⟨hx,hA,fun h' tk' e hx'=>?_⟩) | wp_step))
 refine ex2 hx'.there fun t' u' he=>?_
 show wpAny _ _ (getattributeRaised _ _ _ _ _ _ _) _ _ _
 unfold getattributeRaised
 have hTe:∀ tk'',(⟨h',g,d,tk'',os⟩:Shared).TypeIs (.ref e) "AttributeError":=fun uu=>⟨_,he,rfl⟩
 repeat (any_goals (first | assumption | exact hTe _ | wp_step))
 exact h h' tk' hx'.keeps
theorem sysM_at (P:Params):((KC P).lookup 1343).isSome=true:=by kernel_rfl
theorem updLoop_def (D I:Addr) (i:Int):Builtin.«dict.update.loop» ⟨[.ref D,.ref I,rawInt i,.none],[]⟩=(do
  let some item ← pyNext (.ref I) | Builtin.Dict.addKeywords D [];ret .none
  holding [item] do
   let pair ← (Builtin.Dict.pairItems item).tryCatch fun e=>do
    if !(← isInstance e (.type "TypeError")) then throw e
    rule "dict.update.element-no-sequence"
    raiseError "TypeError" s!"cannot convert dictionary update sequence element #{i} to a sequence"
   match pair with
   | [k,v]=>holding [k,v] (dictSet D k v)
   | l=>
    rule "dict.update.element-length"
    raiseError "ValueError" s!"dictionary update sequence element #{i} has length {l.length}; 2 is required"
  again (.builtin "dict.update.loop" ⟨[.ref D,.ref I,rawInt (i + 1),.none],[]⟩)):=rfl
section
variable {C:Cx} {W W':Wd} {σ:St} {s:Shared} {A:Around} {x y v:V} {rx ry rv r:Value} {I D:Addr} {vs:List V} {h h':Heap}
theorem Holds.but (H:Holds W h) (f:∀ o,W.pl I≠ .fz o) (k:∀ b o,b≠I→h.get? b=some o→h'.get? b=some o):Holds W h':=fun a o e=>k a o (fun z=>f o (z▸e)) (H a o e)
theorem dH_keep {w:World} {xs:List (List Int×Addr×Value)} (hd:h.DictOfH (tK w) D xs) (k:∀ o,h.get? D=some o→h'.get? D=some o) (x:∀ x∈xs,(tK w).is h' x.1 x.2.1):h'.DictOfH (tK w) D xs:=let ⟨o,es,ep,a,b,c,d,_,e⟩:=hd;⟨o,es,ep,k o a,b,c,d,x,e⟩
theorem tupKeys_cons {p:V×V} {r:List (V×V)} (h:tupKeys (p::r)=true):∃ k,asPair p.1=some k∧(r.any fun q=>asPair q.1==some k)=false∧tupKeys r=true:=by
 have h:(match asPair p.1 with | some k=> !(r.any fun q=>asPair q.1==some k)&&tupKeys r | .none=>false)=true:=h
 cases hk:asPair p.1 with
 | none=>rw [hk] at h;cases h
 | some k=>
  rw [hk] at h
  refine an2 ((Bool.and_eq_true _ _).mp h) fun h1 h2=>?_
  exact⟨k,rfl,Bool.not_eq_true' _ |>.mp h1,h2⟩
noncomputable abbrev updC (D I:Addr) (i:Int):Code:=.builtin "dict.update.loop" ⟨[.ref D,.ref I,rawInt i,.none],[]⟩
theorem upd_nil {R:Result→Shared→Prop} {i:Int} (h:∀ E,wpAny (model pw₀ C.w) A.in1 (pyNext (.ref I)) (fun o s=>o=none∧R (.ok (.ret .none)) s) E s):codeAny (model pw₀ C.w) A (updC D I i) R s:=by
 refine codeAny_builtin upd_entry ?_
 rw [Around.under_plainId upd_plain _,updLoop_def]
 refine wpAny_bind (wpAny_mono (h _) ?_ fun uu uu z=>z)
 rintro _ s ⟨rfl,h⟩
 exact wpAny_bind (wpAny_pure (wpAny_pure h))
theorem upd_cons {R:Result→Shared→Prop} {i:Int} (h:∀ E,wpAny (model pw₀ C.w) A.in1 (pyNext (.ref I)) (fun o s=>∃ ap rk rv m,o=some (.ref ap)∧s.heap.get? ap=some ⟨.type "tuple",none,.seq #[rk,rv] m,#[]⟩∧∀ E,wpAny (model pw₀ C.w) A.in1 (dictSet D rk rv) (fun uu s=>codeAny (model pw₀ C.w) A (updC D I (i + 1)) R s) E s) E s):codeAny (model pw₀ C.w) A (updC D I i) R s:=by
 refine codeAny_builtin upd_entry ?_
 rw [Around.under_plainId upd_plain _,updLoop_def]
 refine wpAny_bind (wpAny_mono (h _) ?_ fun uu uu z=>z)
 rintro _ s ⟨ap,rk,rv,m,rfl,gp,h⟩
 refine wpAny_bind (wpAny_holding (wpAny_bind (wpAny_tryCatch ?_)))
 unfold Builtin.Dict.pairItems
 refine wpAny_bind (wpAny_typeOf (T:="tuple") ⟨_,gp,rfl⟩ ?_)
 rw [if_pos (by rfl)]
 refine wpAny_bind (wpAny_seqItems gp rfl (wpAny_pure (wpAny_holding (wpAny_mono (h _) (fun uu s h=>?_) fun uu uu z=>z))))
 exact wpAny_pure ⟨plainId_quiet upd_plain _,h⟩
theorem updLoop {R:Result→Shared→Prop} (hh:A.handled=none) (room:A.units + 9 < cLine) (ID:I≠D) (fD:∀ o,W.pl D≠ .fz o) (fI:∀ o,W.pl I≠ .fz o) {ps:List (V×V)}:
  ∀(vs:List V) (i:Int) (s:Shared) (done:List (V×V)) (xs:List (List Int×Addr×Value)),Holds W s.heap→Itr C W A.in1 I vs s.heap→s.heap.DictOfH (tK C.w) D xs→KT (VR C.w W) done xs→xs.length + vs.length≤1000→
   O (pairs? vs) (fun rest=>done++rest=ps∧tupKeys rest=true∧∀ p∈rest,∀ k,asPair p.1=some k→[k.1,k.2]∉xs.map (fun uu=>uu.1))→
   (∀ h' tk xs',h'.DictOfH (tK C.w) D xs'→KT (VR C.w W) ps xs'→(∀ b o,b≠D→b≠I→s.heap.get? b=some o→h'.get? b=some o)→R (.ok (.ret .none)) {s with heap:=h',toks:=tk})→
   codeAny (model pw₀ C.w) A (updC D I i) R s
 | [],i,s,done,xs,H,it,hd,kt,hl,e,hR=>upd_nil fun E=>it.done fun h' tk kp=>by
  obtain ⟨e, -⟩:=e
  exact⟨rfl,hR h' tk xs (dH_keep hd (fun o=>kp D o (Ne.symm ID)) fun x hx=>KT.keys (H.but fI kp) kt x hx) (e▸(List.append_nil done).symm▸kt) fun b o uu hb e=>kp b o hb e⟩
 | v::vs,i,s,done,xs,H,it,hd,kt,hl,e,hR=>upd_cons fun E=>it.item fun xv h' tk hv it' kp=>by
  have H1:=H.but fI kp
  have hd:=dH_keep hd (fun o=>kp D o (Ne.symm ID)) fun x hx=>KT.keys H1 kt x hx
  revert hv
  refine O_elim (O_bind e) fun l hl' e'=>O_elim (O_bind e') fun p hp e''=>?_
  cases asTup_eq hl'
  cases two_eq hp
  intro hv
  obtain ⟨ap,⟨rs⟩,m,rfl,fp,rk,rs1,rfl,hka,rv,rs2,rfl,hva,rfl⟩:=hv.tupD
  refine ⟨ap,rk,rv,m,rfl,H1 _ _ fp,fun E=>?_⟩
  refine O_elim (O_map e'') fun rest hr z=>?_
  obtain ⟨e1,e2,e3⟩:=z
  obtain ⟨k,k1,k2,k3⟩:=tupKeys_cons e2
  have hka:=hka
  rw [asPair_eq k1] at hka
  refine e1a2 (tupKey H1 hka) fun ad qq0 isk=>?_;subst qq0
  have hnot:=e3 _ (.head _) k k1
  refine wpAny_dictSet_heap (knd:=tK C.w) (k:=[k.1,k.2]) (xs:=xs) (by show A.units + 1 < cLine;omega) isk hd (fun h2 hd2 hb=>?_) (by rw [sizeLine_eq];omega)
  rw [storedH_new (atKey_none_of_get fun j p hj=>hnot (List.mem_map.mpr ⟨_,List.mem_of_getElem? hj,rfl⟩))] at hd2
  have kp2:∀ b o,b≠D→h'.get? b=some o→h2.get? b=some o:=fun b o hne e=>by rw [hb.2 b hne];exact e
  refine updLoop hh room ID fD fI vs (i + 1) _ (done++[(p.1,p.2)]) (xs++[([k.1,k.2],ad,rv)]) (H1.but fD kp2) (it'.frame (fun o=>kp2 I o ID) fun a o f=>⟨H1 a o f,H1.but fD kp2 a o f⟩) hd2 (.append (.cons ⟨⟨_,_,asPair_eq k1,rfl⟩,asPair_eq k1▸hka,hva⟩ .nil) kt) (by simp at hl ⊢;omega) (O_of hr ⟨by rw [List.append_assoc];exact e1,k3,fun q hq c hc=>?_⟩) fun h3 tk3 xs' x1 x2 x3=>hR h3 tk3 xs' x1 x2 fun b o hb1 hb2 e=>x3 b o hb1 hb2 (kp2 b o hb1 (kp b o hb2 e))
  rw [List.map_append,List.mem_append]
  rintro (z | z)
  ·exact e3 q (.tail _ hq) c hc z
  ·have z:=List.cons.inj (List.mem_singleton.mp z)
   cases (Prod.ext z.1 (List.cons.inj z.2).1:c=k)
   have:=List.any_eq_false.mp k2 q hq
   rw [hc] at this
   exact this (beq_self_eq_true _)
theorem not_sys (R:Rel C.D W σ s) {a:Addr} (h:s.heap.objs.size≤a):(a==sysModules)=false:=by
 refine ex1 (Option.isSome_iff_exists.mp (sysM_at C.w.params)) fun o ho=>?_
 have:=Heap.lt_size (R.B _ _ ho)
 refine beq_false_of_ne fun q=>?_
 subst q
 exact absurd (Nat.lt_of_lt_of_le this h) (by decide)
theorem Kt.newD {K:V→St→Prop} {Q:Value→Shared→Prop} (k:Kt C W (VR C.w) K Q) (h:Rel C.D W σ s) {m:Bool} {kvs:List (V×V)} {d:Addr} {h':Heap} {od:Obj} (nd:W.pl d=.no) (ns:(d==sysModules)=false) (gd:h'.get? d=some od) (X:DR C.w (VR C.w W) kvs od) (kp:Kp (fun uu=>uu≠d) W s.heap h') (e:match m with | true=>K (.ref σ.next) (σ.new (.dict kvs)) | false=>K (.dct kvs) σ) {t:Nat}:Q (.ref d) {s with heap:=h',toks:=t}:=by
 cases m with
 | true=>
  refine an2 (h.new (s':={s with heap:=h',toks:=t}) nd nd (m:=.dict kvs) (fun W' L=>⟨rfl,_,gd,ns,X.imp (VR.les L)⟩) (fun b o hb=>kp b o hb.1) ⟨rfl,rfl⟩) fun L R=>?_
  exact k _ _ _ _ _ L R (.refI (if_pos rfl)) e
 | false=>exact k.fresh h nd gd kp e fun W' L f=>.mk ⟨d,od,rfl,f,ns,X.imp (VR.les L)⟩
theorem updFrom (D:Addr) (arg:Value):Builtin.Dict.updateFrom "dict.__init__" D arg [] .none=(do
  if (← typeOf arg) != .type "dict" then
   if (← getAttr? arg "keys").isNone then
    rule s!"dict.__init__.from-pairs"
    return ← again (.builtin "dict.update.loop" ⟨[.ref D,← pyIter arg,rawInt 0,.none],[]⟩)
  Builtin.Dict.merge "dict.__init__" D arg
  Builtin.Dict.addKeywords D []
  ret .none):=rfl
theorem dict_pairs {Q:Value→Shared→Prop} {l:Addr} {rs:Array Value} {n:Nat} (hh:A.handled=none) (g:s.heap.get? l=some (listObj rs n))
  (h:∀ h2 tk2,(∀ b o,b≠s.heap.objs.size→s.heap.get? b=some o→h2.get? b=some o)→h2.DictOfH (tK C.w) s.heap.objs.size []→∀ E,wpAny (model pw₀ C.w) A.in1.in1 (pyIter (.ref l)) (fun it s'=>∃ I,it=.ref I∧codeAny (model pw₀ C.w) A.in1 (updC s.heap.objs.size I 0) (fun o s₁=>o=.ok (.ret .none)∧Q (.ref s.heap.objs.size) s₁) s') E {s with heap:=h2,toks:=tk2}):
  wpAny (model pw₀ C.w) A (PySem.call (.type "dict") [.ref l]) Q noE s:=by
 refine callType_codes (Q₁:=fun obj s₁=>obj=.ref s.heap.objs.size∧s₁={s with heap:=s.heap.push {cls:=.type "dict",data:=.dict #[]}}) F.kt_called_dict (F.kt_typeCall_dict_1 _) F.entry_dict_init (kt_code_dict_new _ ⟨rfl,rfl⟩) ?_
 rintro obj s₁ ⟨rfl,rfl⟩
 have hnew:(s.heap.push {cls:=.type "dict",data:=.dict #[]}).DictOfH (tK C.w) s.heap.objs.size []:=Heap.DictOfH.new s.heap
 refine ⟨hnew.typeIs,F.args_dict_init_2 _ _,?_⟩
 unfold Builtin.«dict.__init__»
 refine wpAny_bind ?_
 unfold Builtin.Dict.selfAndRest
 refine wpAny_bind (wpAny_notOrdered_dict hnew.typeIs (wpAny_pure ?_))
 show wpAny _ _ (Builtin.Dict.updateFrom "dict.__init__" s.heap.objs.size (.ref l) [] .none) _ _ _
 rw [updFrom]
 have g₁:(s.heap.push {cls:=.type "dict",data:=.dict #[]}).get? l=some (listObj rs n):=Heap.get?_push_of_some _ g
 refine wpAny_bind (wpAny_typeOf (T:="list") ⟨_,g₁,rfl⟩ ?_)
 rw [if_pos (by decide)]
 refine wpAny_bind (getAttrq_miss_list g₁ list_no_keys (by decide +kernel) hh (fun h2 tk2 kp2=>?_) (by decide +kernel))
 rw [if_pos (by rfl)]
 refine wpAny_bind (wpAny_rule (wpAny_bind (wpAny_mono (h h2 tk2 (fun b o hb e=>kp2 b o (Heap.get?_push_of_some _ e)) (dH_keep hnew (fun o=>kp2 _ o) fun uu h=>absurd h List.not_mem_nil) _) ?_ fun uu uu z=>z)))
 rintro _ s' ⟨I,rfl,h⟩
 exact wpAny_pure ⟨plainId_quiet upd_plain _,codeAny_mono h fun uu uu z=>by obtain ⟨rfl,z⟩:=z;exact⟨rfl,z⟩⟩
theorem dictS (hx:VR C.w W x rx):CallS C W (call (.type "dict") [rx]) (bDict x):=fun A σ s K Q a h e k=>by
 have e:(match asDict σ x with
  | some kvs=>Gx (kvs.all (fun p=>plainKey p.1)&&kvs.length≤1000000) (K (.ref σ.next) (σ.new (.dict kvs)))
  | .none=>O (asLst x) fun vs=>Gx (vs.length≤1000) (O (pairs? vs) fun ps=>Gx (tupKeys ps) (K (.ref σ.next) (σ.new (.dict ps))))):=e
 cases hd:asDict σ x with
 | some kvs=>
  rw [hd] at e
  refine dictE (M:=fun rx=>wpAny (model pw₀ C.w) A (call (.type "dict") [rx]) Q noE s) (K:=fun z=>z=kvs) h hx (O_of hd rfl) fun kvs' d o g hm X hk=>Gx_elim e fun c e=>?_
  cases hk
  refine an2 ((Bool.and_eq_true _ _).mp c) fun c1 c2=>?_
  refine X.plainE c1 fun {I K uu knd tv tk} κ rs x y=>kt_call_dict hm (Heap.dictOf_iff.mpr ⟨o,g,x⟩) (by rw [y.len,sizeLine_eq];have:=of_decide_eq_true c2;omega) fun h' hd hb=>?_
  refine e1a2 (Heap.dictOf_iff.mp hd) fun od g1 g2=>?_
  exact k.newD (m:=true) (t:=s.toks) h h.new_no (not_sys h (Nat.le_refl _)) g1 (.p κ rs g2 y) (fun b o hb' uu e=>by rw [hb.2 b hb'];exact Heap.get?_push_of_some _ e) e
 | none=>
  rw [hd] at e
  refine O_elim e fun vs hv e₁=>Gx_elim e₁ fun c e₂=>?_
  cases hv':x with
  | lst us=>
   subst hv'
   cases hv
   have c:=of_decide_eq_true c
   refine O_elim e₂ fun ps hp e=>Gx_elim e fun ht e=>?_
   refine ex3 hx.lstD fun l rs n hh=>an3 hh fun qq0 f F=>?_;subst qq0
   refine dict_pairs a.handled (h.fz f) fun h2 tk2 kp hd E=>?_
   have fD:∀ o,W.pl s.heap.objs.size≠ .fz o:=fun o z=>nomatch z.symm.trans h.new_no
   have h₂:Rel C.D W σ {s with heap:=h2,toks:=tk2}:=h.ext (fun b o uu hn e=>kp b o (fun z=>hn (z▸h.new_no)) e) ⟨rfl,rfl⟩
   refine wpAny_mono (lstIter h₂ (show A.in1.in1.handled=none from a.handled) hx (by omega) fun o fp P Sq It hfo st0=>?_) (fun uu uu z=>z) fun uu uu z=>z.elim
   have nI:∀ o,W.pl h2.objs.size≠ .fz o:=fun o z=>nomatch z.symm.trans h₂.new_no
   have lt:s.heap.objs.size < h2.objs.size:=let ⟨o,_,_,g,_⟩:=hd;Heap.lt_size g
   have room:=a.units
   refine ⟨_,rfl,updLoop (A:=A.in1) (ps:=ps) a.handled (by show A.units + 1 + 9 < 9900;omega) (Nat.ne_of_gt lt) fD nI vs 0 _ [] [] (fun b o f=>Heap.get?_push_of_some _ (h₂.fz f)) ⟨_,_,_,vs,0,It,st0,Nat.zero_le _,rfl⟩ (dH_keep hd (fun o g=>Heap.get?_push_of_some _ g) fun uu h=>absurd h List.not_mem_nil) .nil (by simpa using c) (O_of hp ⟨rfl,ht,fun uu uu uu uu=>nofun⟩) fun h' tk xs' x1 x2 x3=>?_⟩
   refine ex3 x1 fun od es ep hh=>an6 hh fun g1 g2 g3 g4 uu g5=>?_
   exact⟨rfl,k.newD (m:=true) h h.new_no (not_sys h (Nat.le_refl _)) g1 (.t xs' ⟨es,ep,g2,g3,g4,g5⟩ x2) (fun b o hb hn e=>x3 b o hb (fun z=>hn (h.no (Heap.get?_none_of_le (z▸Nat.le_of_lt lt)))) (Heap.get?_push_of_some _ (kp b o hb e))) e⟩
  | _=>subst hv';cases hv
end
end E
end Mine
end
section
namespace Mine
namespace E
open PySem PySem.W PyProof.Rows
section
variable {C:Cx} {W W':Wd} {args:List V} {rs:List Value}
theorem atE {α:Type} {n h:Gl} {a:α} {l:List (Gl×α)} {K:α→Prop} {G:Prop} (e:O (at? n ((h,a)::l)) K) (k:h=n→K a→G) (k':O (at? n l) K→G):G:=by
 by_cases q:h=n
 ·exact k q (by rw [show at? n ((h,a)::l)=some a from if_pos q] at e;exact e)
 ·exact k' (by rw [show at? n ((h,a)::l)=at? n l from if_neg q] at e;exact e)
theorem b1S {f:V→St→KV→Prop} {g:Gl} (hv:F2 (VR C.w W) args rs) (k:∀ {x rx},VR C.w W x rx→CallS C W (PySem.call (gvalue g) [rx]) (f x)) {g':Gl} (z:g=g'):CallS C W (PySem.call (gvalue g') rs) (b1 f args):=fun A σ s K Q a h e q=>
 oneA (M:=fun uu rs=>wpAny (model pw₀ C.w) A (PySem.call (gvalue g') rs) Q noE s) hv e fun x rx hx e=>by cases z;exact k hx A σ s K Q a h e q
theorem b2S {f:V→V→St→KV→Prop} {g:Gl} (hv:F2 (VR C.w W) args rs) (k:∀ {x y rx ry},VR C.w W x rx→VR C.w W y ry→CallS C W (PySem.call (gvalue g) [rx,ry]) (f x y)) {g':Gl} (z:g=g'):CallS C W (PySem.call (gvalue g') rs) (b2 f args):=fun A σ s K Q a h e q=>
 twoA (M:=fun uu rs=>wpAny (model pw₀ C.w) A (PySem.call (gvalue g') rs) Q noE s) hv e fun x y rx ry hx hy e=>by cases z;exact k hx hy A σ s K Q a h e q
theorem bOk:BOk C:=fun g args rs W hv A σ s K Q a h e q=>
 atE e (fun z e=>b1S hv lenS z A σ s K Q a h e q) fun e=>atE e (fun z e=>b1S hv rangeS z A σ s K Q a h e q) fun e=>atE e (fun z e=>b1S hv listS z A σ s K Q a h e q) fun e=>atE e (fun z e=>b1S hv dictS z A σ s K Q a h e q) fun e=>atE e (fun z e=>b1S hv bytesS z A σ s K Q a h e q) fun e=>
 atE e (fun z e=>b2S hv isiS z A σ s K Q a h e q) fun e=>atE e (fun z e=>b2S hv maxS z A σ s K Q a h e q) fun e=>atE e (fun z e=>b1S hv sortS z A σ s K Q a h e q) fun e=>atE e (fun z e=>b1S hv allS z A σ s K Q a h e q) fun e=>e.elim
end
end E
end Mine
end
section
namespace Mine
namespace E
open PySem PySem.W PyProof.Rows
section
variable {C:Cx} {X:Addr→Prop} {env:Env} {fr:Fr} {W W':Wd} {call:Call} {pos pos':Pos} {σ:St} {s:Shared} {A:Around} {v:V} {r:Value}
noncomputable abbrev FrzOk (C:Cx) (W:Wd) (s:Shared) (p:V×St) (r:Value):Prop:=∃ W',W.L0 W'∧Rel C.D W' p.2 s∧VR C.w W' p.1 r
theorem frzOne_ok (R:Rel C.D W σ s) (hv:VR C.w W v r):FrzOk C W s (frzOne σ v) r:=by
 have same:FrzOk C W s (v,σ) r:=⟨W,.refl W,R,hv⟩
 cases v with
 | ref n=>
  refine e2a2 hv.out fun a d qq0 e=>?_;subst qq0
  show FrzOk C W s (match σ.objs n with | some (.list vs)=>(.lst vs,σ.del n) | some (.dict kvs)=>(.dct kvs,σ.del n) | some (.inst c fs)=>(.inst c fs,σ.del n) | _=>(.ref n,σ)) (.ref a)
  cases hm:σ.objs n with
  | none=>exact same
  | some m=>
   have M:=mobj R e hm
   cases m with
   | inst c fs=>
    obtain ⟨g,ne,od,g',F⟩:=M
    obtain ⟨L,R',f⟩:=R.frz hm e g g' fun q=>absurd q ne
    exact(⟨_,L,R',.mk ⟨a,_,rfl,Wd.put_eq,d,od,rfl,f,F.imp (VR.les L)⟩⟩:FrzOk C W s (.inst c fs,σ.del n) _)
   | list vs=>
    obtain ⟨rfl,o,g,F⟩:=M
    obtain ⟨L,R',f⟩:=R.frz hm e g g fun uu=>rfl
    exact(⟨_,L,R',.mk ⟨a,o,rfl,f,F.imp (VR.les L)⟩⟩:FrzOk C W s (.lst vs,σ.del n) _)
   | dict vs=>
    obtain ⟨rfl,o,g,q,F⟩:=M
    obtain ⟨L,R',f⟩:=R.frz hm e g g fun uu=>rfl
    exact(⟨_,L,R',.mk ⟨a,o,rfl,f,q,F.imp (VR.les L)⟩⟩:FrzOk C W s (.dct vs,σ.del n) _)
   | tab l=>exact same
 | _=>exact same
theorem frzFs_ok:∀ {fs:List (Nm×V)} {rs:List (Str×Value)} {σ:St} {W:Wd},Rel C.D W σ s→F2 (fun p q=>q.1=nstr p.1∧VR C.w W p.2 q.2) fs rs→∃ W',W.L0 W'∧Rel C.D W' (frzFs σ fs).2 s∧F2 (fun p q=>q.1=nstr p.1∧VR C.w W' p.2 q.2) (frzFs σ fs).1 rs
 | [],_,σ,W,R,h=>⟨W,.refl W,R,h⟩
 | (n,v)::fs,_,σ,W,R,h=>h.consE fun b bs h1 h2=>by
  obtain ⟨W₁,L₁,R₁,v₁⟩:=frzOne_ok R h1.2
  obtain ⟨W₂,L₂,R₂,v₂⟩:=frzFs_ok R₁ (h2.imp fun uu uu h=>⟨h.1,h.2.le L₁⟩)
  exact⟨W₂,L₁.trans L₂,R₂,.cons ⟨h1.1,v₁.le L₂⟩ v₂⟩
theorem frz_ok (R:Rel C.D W σ s) (hv:VR C.w W v r):FrzOk C W s (frz σ v) r:=by
 cases v with
 | inst c fs=>
  obtain ⟨a,o,rfl,f,d,od,rfl,g,rs,i,F⟩:=hv.out
  obtain ⟨W',L,R',F'⟩:=frzFs_ok R F
  exact⟨W',L,R',.mk ⟨a,_,rfl,L.fz _ _ f,d,od,rfl,L.fz _ _ g,rs,i,F'⟩⟩
 | _=>exact frzOne_ok R hv
theorem frzX {x:E.X} {e:Expr} (hp:plainTest e=true) (h:XT C env call x e):XT C env call (.frz x) e:=
 .plain h.ns hp fun X fr W F A σ s K Q a g e q=>h.val X fr W F A σ s _ _ a g e fun W₁ s₁ v r σ₁ L g₁ hv e=>
  let ⟨W₂,L₂,R₂,h₂⟩:=frz_ok g₁ hv
  q W₂ s₁ _ r _ (L.trans L₂) R₂ h₂ e
noncomputable def VO (w:World) (W:Wd) (o:Option V) (r:Value):Prop:=match o with
 | .none=>r=.none
 | some v=>VR w W v r
inductive OE (C:Cx) (env:Env) (call:Call):Option E.X→Option Expr→Prop
 | no:OE C env call .none .none
 | at {x:E.X} {e:Expr}:XT C env call x e→OE C env call (some x) (some e)
theorem partS {x:Option E.X} {e:Option Expr} (h:OE C env call x e) (F:FrR C.w X env fr W):Sim C W (VO C.w) (C.run (evalPart e env)) fun σ K=>evalOC wid call x fr σ K:=by
 cases h with
 | no=>exact fun A σ s K Q a h e q=>wpAny_pure (q.here (v₁:=(none:Option V)) h rfl e)
 | «at» h=>exact .of (fun h=>h) fun A σ s K Q a g e q=>h.val X fr W F A σ s _ Q a g e fun W₁ s₁ v r σ₁ L g₁ hv e=>q W₁ s₁ (some v) r σ₁ L g₁ hv e
inductive Bd:Option Int→Value→Prop
 | no:Bd none .none
 | at (i:Nat) (t:Tok):Bd (some i) (.int i t)
theorem Bd.part {k:Option Int} (h:Bd k r):IsPart r k:=by cases h<;>constructor
theorem boundE {o:Option V} {K:Option Int→Prop} (hr:VO C.w W o r) (e:O (bound? o) K):∃ k,K k∧Bd k r:=by
 cases o with
 | none=>cases (hr:r=.none);exact⟨_,e,.no⟩
 | some v=>
  exact intE (M:=fun v r=>∃ k,K k∧Bd k r) (VR.le (.refl (X:=nov) W) hr) (O_bind e) fun i t e=>O_ite e fun h e=>by
   obtain ⟨k,rfl⟩:∃ k:Nat,i=(k:Int):=⟨i.toNat,by omega⟩
   exact⟨_,e,.at k t⟩
theorem VO.le {o:Option V} (L:W.L0 W') (h:VO C.w W o r):VO C.w W' o r:=by
 cases o with
 | none=>exact h
 | some v=>exact VR.le L h
theorem take_clip {α:Type} (l:List α) (a b:Nat):(l.drop (min a l.length)).take (min b l.length - min a l.length)=(l.take b).drop a:=by
 rw [List.drop_take]
 rcases Nat.le_total a l.length with h | h
 ·rw [Nat.min_eq_left h]
  exact List.take_eq_take_iff.mpr (by rw [List.length_drop,← Nat.sub_min_sub_right,Nat.min_assoc,Nat.min_self])
 ·rw [Nat.min_eq_right h,List.drop_length,List.drop_eq_nil_of_le h,List.take_nil,List.take_nil]
theorem pick_cut {vs:List V} {items:Array Value} {l h:Option Int} {rl rh:Value} (hl:Bd l rl) (hh:Bd h rh) (hv:F2 (VR C.w W) vs items.toList):F2 (VR C.w W) (cut vs l h) (slicePick items l h none).toList:=by
 have ln:items.toList.length=items.size:=Array.length_toList
 have key:∀ {a b:Nat},cut vs l h=(vs.take b).drop a→(slicePick items l h none).toList=(items.toList.drop (min a items.toList.length)).take (min b items.toList.length - min a items.toList.length)→F2 (VR C.w W) (cut vs l h) (slicePick items l h none).toList:=fun e1 e2=>by
  rw [e1,e2,take_clip];exact(hv.take _).drop _
 have lv:=hv.len
 cases hl with
 | no=>cases hh with
  | no=>exact key (a:=0) (b:=vs.length) (by rw [List.take_length];rfl) (by rw [slicePick_plain];simp [← lv])
  | «at» j t=>exact key (a:=0) (b:=j) rfl (by rw [slicePick_plain];simp [clipAt_nat])
 | «at» i u=>cases hh with
  | no=>exact key (a:=i) (b:=vs.length) (by rw [List.take_length];rfl) (by rw [slicePick_plain];simp [clipAt_nat,← lv])
  | «at» j t=>exact key (a:=i) (b:=j) rfl (by rw [slicePick_plain];simp [clipAt_nat])
theorem fewE {vs:List V} {K:List V→Prop} {G:Prop} (e:O (few vs) K) (k:vs.length≤1000000→K vs→G):G:=O_ite e k
theorem subSlice {A:Around} {value:Expr} {lower upper:Option Expr} {p:Pos} {Q:Value→Shared→Prop}
  (h:wpAny (model pw₀ C.w) A (eval value env) (fun o s₁=>wpAny (model pw₀ C.w) A (evalPart lower env) (fun l s₁=>wpAny (model pw₀ C.w) A (evalPart upper env) (fun u s₂=>∃ T id,typeLookup (.type T) "__getitem__"=pure (some (.builtin id))∧s₂.TypeIs o T∧
   wpAny (model pw₀ C.w) A (getItem o (.ref s₂.heap.objs.size)) Q noE {s₂ with heap:=s₂.heap.push {cls:=.type "slice",data:=.fields #[l,u,.none]}}) noE s₁) noE s₁) noE s):
  wpAny (model pw₀ C.w) A (eval (.Subscript value (.Slice lower upper none p) pos) env) Q noE s:=by
 rw [eval_Subscript]
 refine wpAny_bind (wpAny_mono h (fun o s₁ h₁=>wpAny_bind (wpAny_holding (wpAny_Slice (wpAny_mono h₁ (fun l s₁ h₁=>wpAny_mono h₁ (fun u s₂ h₂=>wpAny_pure (wpAny_bind (wpAny_standAt ?_))) fun uu uu x=>x) fun uu uu x=>x)))) fun uu uu x=>x)
 obtain ⟨T,id,hl,hT,h₂⟩:=h₂
 have hT':({s₂ with heap:=s₂.heap.push {cls:=.type "slice",data:=.fields #[l,u,.none]}}:Shared).TypeIs o T:=by
  cases o with
  | ref ad=>obtain ⟨o,g1,g2⟩:=hT;exact⟨o,Heap.get?_push_of_some _ g1,g2⟩
  | _=>exact hT
 refine wpAny_bind ?_
 rw [getitemInPython_of_ne hT'.not_modules]
 exact wpAny_bind (wpAny_specialOf hT' hl (wpAny_pure (wpAny_bind (wpAny_operating (wpAny_mono h₂ (fun r s₃ h₃=>wpAny_bind (wpAny_letTemporaryGo (wpAny_pure h₃))) fun uu uu x=>x)))))
theorem sliceX {m:Bool} {x:E.X} {lo hi:Option E.X} {e:Expr} {el eh:Option Expr} {p:Pos} (hx:XT C env call x e) (hl:OE C env call lo el) (hh:OE C env call hi eh):
  XT C env call (.slice m x lo hi) (.Subscript e (.Slice el eh none p) pos):=.plain rfl rfl fun X fr W F=>.of subSlice (.bind (hx.val X fr W F) fun W₁ v r L hv=>.bind (partS hl (F.le L)) fun W₂ ol rl L₂ hl=>.bind (partS hh (F.le (L.trans L₂))) fun W₃ oh rh L₃ hh A σ s K Q a g e q=>by
 obtain ⟨l,e,bl⟩:=boundE (hl.le L₃) e
 obtain ⟨h,e,bh⟩:=boundE hh e
 have g':Rel C.D W₃ σ {s with heap:=s.heap.push {cls:=.type "slice",data:=.fields #[rl,rh,.none]}}:=g.ext (fun b o uu uu=>Heap.get?_push_of_some _) ⟨rfl,rfl⟩
 have slc:=Heap.IsSliceOf.new s.heap rl rh .none
 have lst:∀ {vs ad rs n},s.heap.get? ad=some (listObj rs n)→F2 (VR C.w W₃) vs rs.toList→rs.size=vs.length→vs.length≤1000000→(match (generalizing:=false) m with | true=>K (.ref σ.next) (σ.new (.list (cut vs l h))) | false=>K (.lst (cut vs l h)) σ)→∃ T id,typeLookup (.type T) "__getitem__"=pure (some (.builtin id))∧s.TypeIs (.ref ad) T∧
   wpAny (model pw₀ C.w) A (getItem (.ref ad) (.ref s.heap.objs.size)) Q noE {s with heap:=s.heap.push {cls:=.type "slice",data:=.fields #[rl,rh,.none]}}:=fun go hr hz hz' e=>
  ⟨"list",_,list_getitem_lookup,⟨_,go,rfl⟩,wpAny_getItem_list_slice (isList_at (Heap.get?_push_of_some _ go)) slc bl.part bh.part .none (by decide) (q.newL (m:=m) (t:=s.toks) g' (pick_cut bl bh hr) e) (by rw [sizeLine_eq];omega)⟩
 have hv:=hv.le (L₂.trans L₃)
 cases v with
 | tup vs=>
  refine ex3 hv.tupD fun ad rs n hh=>an3 hh fun qq0 f F=>?_;subst qq0
  refine fewE (vs:=vs) e fun hz e=>?_
  have e:O l fun k=>Gx (h.isNone&&1≤k&&k≤vs.length) (K (.tup (vs.drop k.toNat)) σ):=e
  cases bl with
  | no=>exact e.elim
  | «at» i t=>
   cases bh with
   | «at» _ _=>exact e.elim
   | no=>
    refine Gx_elim e fun c e=>?_
    simp only [Option.isNone_none,Bool.true_and,Bool.and_eq_true,decide_eq_true_eq] at c
    have l:=F.len
    rw [Array.length_toList] at l
    exact⟨"tuple",_,slot_tuple_getitem.lookup,⟨_,g.fz f,rfl⟩,getItem_tuple_from (a:=i) (items:=rs) ⟨_,Heap.get?_push_of_some _ (g.fz f),rfl,_,rfl⟩ slc (by omega) (by omega) (q.seq (t:=s.toks) g' (F.drop i) e VR.tupI) (by rw [sizeLine_eq];omega)⟩
 | lst vs=>
  refine ex3 hv.lstD fun ad rs n hh=>an3 hh fun qq0 f F=>?_;subst qq0
  exact fewE (vs:=vs) e fun hz e=>lst (g.fz f) F F.len hz e
 | ref n=>
  refine refE (M:=fun r=>∃ T id,typeLookup (.type T) "__getitem__"=pure (some (.builtin id))∧s.TypeIs r T∧wpAny (model pw₀ C.w) A (getItem r (.ref s.heap.objs.size)) Q noE {s with heap:=s.heap.push {cls:=.type "slice",data:=.fields #[rl,rh,.none]}}) g hv (O_bind e) fun ad d mo uu uu N e=>?_
  cases mo with
  | list vs=>obtain ⟨-,o,g',rs,n,rfl,F⟩:=N;exact fewE (vs:=vs) e fun hz e=>lst g' F F.len hz e
  | _=>exact e.elim
 | _=>exact e.elim)
end
end E
end Mine
end
section
namespace Mine
namespace E
open PySem PySem.W PyProof.Rows
section
variable {C:Cx} {X:Addr→Prop} {env:Env} {fr:Fr} {W W':Wd} {call:Call} {pos pos':Pos} {σ:St} {s:Shared} {A:Around} {v:V} {r:Value} {D:Addr} {o:Obj} {x:Own}
theorem Wd.Le.own (L:W.Le X W') (n:W.pl D=.no) (m:W'.Mine D):W.Le X (W'.put D x):=
 ⟨fun b o e=>(Wd.put_ne fun q=>nomatch (q▸e).symm.trans n).trans (L.fz b o e),L.mu,fun b o e=>(L.pv b o e).imp id fun h=>(Wd.put_ne fun q=>nomatch (q▸e).symm.trans n).trans h⟩
theorem F2.mem {α β:Type} {P:α→β→Prop} {as:List α} {bs:List β} {b:β} (h:F2 P as bs) (hb:b∈bs):∃ a∈as,P a b:=by
 refine ex1 (List.getElem?_of_mem hb) fun i e=>?_
 refine e1a2 (h.getR e) fun a e p=>?_
 exact⟨a,List.mem_of_getElem? e,p⟩
theorem strKeys_ok:∀ {ps:List (V×V)} {rs:List (Value×Value)},strKeys ps=true→F2 (fun p q=>VR C.w W p.1 q.1∧VR C.w W p.2 q.2) ps rs→∃ kvs,Carries (sK C.w) rs kvs∧KR V.str sstr (VR C.w W) ps kvs∧(kvs.map (fun uu=>uu.1)).Nodup
 | [],rs,e,h=>by cases (h:rs=[]);exact⟨[],trivial,.nil,List.nodup_nil⟩
 | p::ps,_,e,h=>by
  obtain ⟨⟨a,b⟩,rs',rfl,⟨h1,h2⟩,h3⟩:=h
  have e:(match asStr p.1 with | some k=> !(ps.any fun q=>asStr q.1==some k)&&strKeys ps | .none=>false)=true:=e
  cases hk:asStr p.1 with
  | none=>rw [hk] at e;cases e
  | some k=>
   rw [hk] at e
   refine an2 ((Bool.and_eq_true _ _).mp e) fun e1 e2=>?_
   refine e1a3 (strKeys_ok e2 h3) fun kvs c1 c2 c3=>?_
   have hk:=asStr_eq hk
   rw [show p.1=_ from hk] at h1
   refine ex1 h1.out fun t qq0=>?_;subst qq0
   refine ⟨(sstr k,b)::kvs,⟨strKind_is _ _ _ _,rfl,c1⟩,.cons ⟨⟨k,hk,rfl⟩,h2⟩ c2,List.nodup_cons.mpr ⟨fun hm=>?_,c3⟩⟩
   refine e1a2 (List.mem_map.mp hm) fun q hq z=>?_
   obtain ⟨p',hp,⟨j,z1,z2⟩, -⟩:=c2.mem hq
   have:=List.any_eq_false.mp (Bool.not_eq_true' _ |>.mp e1) p' hp
   rw [z1,sstr_inj (z2.symm.trans z)] at this
   exact this (beq_self_eq_true _)
inductive KVE (C:Cx) (env:Env) (call:Call):List (E.X×E.X)→List (Option Expr)→List Expr→Prop
 | nil:KVE C env call [] [] []
 | cons {k v:E.X} {ke ve:Expr} {r:List (E.X×E.X)} {ks:List (Option Expr)} {vs:List Expr}:XT C env call k ke→XT C env call v ve→KVE C env call r ks vs→KVE C env call ((k,v)::r) (some ke::ks) (ve::vs)
theorem KVE.lens {kvs:List (E.X×E.X)} {ks:List (Option Expr)} {vs:List Expr} (h:KVE C env call kvs ks vs):ks.all (fun uu=>uu.isSome)=true∧ks.length=vs.length∧kvs.length=ks.length:=by
 induction h with
 | nil=>exact⟨rfl,rfl,rfl⟩
 | cons _ _ _ ih=>exact⟨ih.1,congrArg (fun uu=>uu + 1) ih.2.1,congrArg (fun uu=>uu + 1) ih.2.2⟩
theorem kvS {kvs:List (E.X×E.X)} {ks:List (Option Expr)} {vs:List Expr} (h:KVE C env call kvs ks vs):∀ {W:Wd},FrR C.w X env fr W→Sim C W (fun W=>F2 fun p q=>VR C.w W p.1 q.1∧VR C.w W p.2 q.2) (C.run (evalPairs (pairTrees ks vs env pos))) fun σ K=>evalKVC wid call kvs fr σ K:=by
 induction h with
 | nil=>exact fun F A σ s K Q a g e q=>evalPairs_nil (q.here (v₁:=([]:List (V×V))) g .nil e)
 | @cons k v ke ve r ks vs hk hv _ ih=>
  exact fun {W} F=>.of (t:=fun A Q s=>wpAny (model pw₀ C.w) A (eval ke env) (fun a s=>wpAny (model pw₀ C.w) A (eval ve env) (fun b s=>wpAny (model pw₀ C.w) A (evalPairs (pairTrees ks vs env pos)) (fun l s=>Q ((a,b)::l) s) noE s) noE s) noE s) (fun z=>evalPairs_cons (wpAny_mono z (fun uu uu z=>wpAny_bind (wpAny_mono z (fun uu uu z=>wpAny_bind (wpAny_standAt (wpAny_pure z))) fun uu uu z=>z)) fun uu uu z=>z))
   (.bind (hk.val X fr W F) fun W₁ a ra L ha=>.bind (hv.val X fr W₁ (F.le L)) fun W₂ b rb L₂ hb A σ s K Q k g e q=>ih (F.le (L.trans L₂)) A σ s _ _ k g e fun W₃ s₃ ps rs σ₃ L₃ g₃ hs e=>q W₃ s₃ ((a,b)::ps) ((ra,rb)::rs) σ₃ L₃ g₃ (.cons ⟨(ha.le L₂).le L₃,hb.le L₃⟩ hs) e)
theorem dictX {m:Bool} {kvs:List (E.X×E.X)} {ks:List (Option Expr)} {vs:List Expr} (hl:kvs.length≤15) (hx:KVE C env call kvs ks vs):XT C env call (.dict m kvs) (.Dict ks vs pos):=.plain rfl rfl fun X fr W F A σ s K Q a g e q=>by
 have nd:=g.new_no
 have ns:=not_sys g (Nat.le_refl _)
 have e:evalKVC wid call kvs fr σ fun ps σ=>match strKeys ps with | true=>(match (generalizing:=false) m with | true=>K (.ref σ.next) (σ.new (.dict ps)) | false=>K (.dct ps) σ) | false=>False:=e
 refine an3 hx.lens fun l1 l2 l3=>?_
 cases kvs with
 | nil=>cases hx;exact wpAny_Dict_empty (q.newD (m:=m) (t:=s.toks) g nd ns (Heap.get?_push_size _ rfl) (.p strP [] (dict_nil ⟨rfl,rfl,rfl⟩ rfl) .nil) (fun b o uu uu=>Heap.get?_push_of_some _) e)
 | cons p kvs=>
  have g₁:Rel C.D (W.put s.heap.objs.size (.pv {cls:=.type "dict",data:=.dict #[]})) σ {s with heap:=s.heap.push {cls:=.type "dict",data:=.dict #[]}}:=g.put (Wd.mine_no nd) (Heap.get?_push_size _ rfl) (fun b o uu uu=>Heap.get?_push_of_some _) ⟨rfl,rfl⟩
  have L₁:W.L0 (W.put s.heap.objs.size (.pv {cls:=.type "dict",data:=.dict #[]})):=Wd.le_no nd
  refine wpAny_Dict_walk (knd:=sK C.w) l1 l2 (fun z=>by rw [z] at l3;cases l3) (l3▸hl) (kvS hx (F.le L₁) A σ _ _ _ a g₁ e fun W₂ s₂ ps rs σ₂ L₂ g₂ h₂ e=>?_)
  cases hk:strKeys ps with
  | false=>rw [hk] at e;exact e.elim
  | true=>
   rw [hk] at e
   refine e1a3 (strKeys_ok hk h₂) fun kvs' c1 c2 c3=>?_
   have pD:=L₂.keep Wd.put_eq
   refine ⟨kvs',c1,Heap.dictOf_iff.mpr ⟨_,g₂.pv pD,dict_nil ⟨rfl,rfl,rfl⟩ rfl⟩,fun h' hd hb=>?_⟩
   rw [merged_nil_of_nodup _ c3] at hd
   refine e1a2 (Heap.dictOf_iff.mp hd) fun od gd dd=>?_
   have L₃:W.L0 (W₂.put s.heap.objs.size .no):=(L₁.trans L₂).own nd (Wd.mine_pv pD)
   have L₄:W₂.Le (fun b=>b=s.heap.objs.size) (W₂.put s.heap.objs.size .no):=(Wd.mine_pv pD).le fun uu uu=>rfl
   exact(q.up L₃).newD (m:=m) (g₂.put (s':=s₂) (Wd.mine_pv pD) trivial (fun uu uu uu uu z=>z) ⟨rfl,rfl⟩) Wd.put_eq ns gd (.p strP kvs' dd (c2.imp fun uu uu z=>⟨z.1,z.2.le L₄⟩)) (fun b o hb' uu e=>by rw [hb.2 b hb'];exact e) e
end
end E
end Mine
end
section
namespace Mine
namespace E
open PySem PySem.W PyProof.Rows
theorem closure_go {env:Env} (f:Str×NameKind→List (Str×Addr)→Sem (ForInStep (List (Str×Addr))))
  (hf:∀ name kind cs,f (name,kind) cs=if kind== .free then (do let c ← cellOf env name;pure (.yield ((name,c)::cs))) else pure (.yield cs)):
  ∀(names:List (Str×NameKind)) (cs:List (Str×Addr)),(∀ y∈names,y.2=.free→∃ c,env.cells.lookup y.1=some c)→
   ∃ cl,(forIn names cs f:Sem _)=pure cl∧(∀ x,cs.lookup x=env.cells.lookup x→cl.lookup x=env.cells.lookup x)∧∀ y∈names,y.2=.free→cl.lookup y.1=env.cells.lookup y.1
 | [],cs,_=>⟨cs,List.forIn_nil,fun uu e=>e,nofun⟩
 | (nm,k)::r,cs,hn=>by
  have hr:=fun y hy=>hn y (.tail _ hy)
  by_cases hk:k=.free
  ·subst hk
   refine ex1 (hn _ (.head _) rfl) fun c hc=>?_
   refine e1a3 (closure_go f hf r ((nm,c)::cs) hr) fun cl e1 e3 e4=>?_
   have hcl:cl.lookup nm=env.cells.lookup nm:=e3 nm (by rw [List.lookup_cons,beq_self_eq_true,hc])
   refine ⟨cl,?_,fun x e=>?_,fun y hy q=>(List.mem_cons.mp hy).elim (fun z=>z▸hcl) fun hy=>e4 y hy q⟩
   ·rw [List.forIn_cons,hf,if_pos (by rfl),show cellOf env nm=pure c from by unfold cellOf;rw [hc]]
    exact e1
   ·by_cases q:x=nm
    ·exact q▸hcl
    ·exact e3 x (by rw [List.lookup_cons,beq_false_of_ne q];exact e)
  ·refine e1a3 (closure_go f hf r cs hr) fun cl e1 e3 e4=>?_
   refine ⟨cl,?_,e3,fun y hy q=>(List.mem_cons.mp hy).elim (fun z=>absurd (by rw [z] at q;exact q) hk) fun hy=>e4 y hy q⟩
   rw [List.forIn_cons,hf,if_neg (by simpa using hk),pure_bind];exact e1
theorem closure_ok {scope:Scope} {env:Env} (h:∀ y∈scope.names,y.2=.free→∃ c,env.cells.lookup y.1=some c):
  ∃ cl,closureFor scope env=pure cl∧∀ y∈scope.names,y.2=.free→cl.lookup y.1=env.cells.lookup y.1:=by
 obtain ⟨cl,e1, -,e4⟩:=closure_go (env:=env) (fun(name,kind) cs=>if kind== .free then (do let c ← cellOf env name;pure (.yield ((name,c)::cs))) else pure (.yield cs)) (fun uu uu uu=>rfl) scope.names [] h
 refine ⟨cl,?_,e4⟩
 rw [← e1]
 unfold closureFor
 rw [← bind_pure (forIn scope.names [] _)]
theorem lookup_relabel {env:Env} {k:NameKind}:∀ {names:List (Str×NameKind)} {x:Str},(names.map fun(n,k)=>if (k==NameKind.free&&env.scope.kind== .function&&env.kindOf n==some .cell) then (n,NameKind.cell) else (n,k)).lookup x=some k→
  ∃ k',names.lookup x=some k'∧(k=k'∨(k'=.free∧k=.cell∧env.kindOf x=some .cell))
 | (n,j)::r,x,h=>by
  have e0:∀ c:Bool,(if c=true then (n,NameKind.cell) else (n,j))=(n,if c=true then NameKind.cell else j):=fun c=>by cases c<;>rfl
  rw [List.map_cons] at h
  dsimp only at h
  rw [e0,List.lookup_cons] at h
  rw [List.lookup_cons]
  by_cases q:x=n
  ·subst q
   rw [beq_self_eq_true] at h ⊢
   refine ⟨j,rfl,?_⟩
   cases h
   split
   ·rename_i z
    simp only [Bool.and_eq_true,beq_iff_eq] at z
    exact .inr ⟨z.1.1,rfl,z.2⟩
   ·exact .inl rfl
  ·rw [beq_false_of_ne q] at h ⊢
   exact lookup_relabel h
structure CompOK (outer:Scope) (scope:Scope) (x:Nm):Prop where
 cell:∀ y∈scope.names,y.2≠ .cell
 kind:scope.kind=.function
 names:∀ y∈scope.names,y.2=.local→scope.names.lookup y.1=some .local
 loc:scope.names.lookup (nstr x)=some .local
 only:∀ n:Nm,scope.names.lookup (nstr n)=some .local→n=x
 free:∀ y∈scope.names,y.2=.free→(∃ n:Nm,y.1=nstr n)∧outer.names.lookup y.1=some .cell
theorem get_put {n x:Nm} {v:V}:∀ {l:List (Nm×V)},getL? n (putL x v l)=if n=x then some v else getL? n l
 | []=>by
  show (if x=n then some v else none)=_
  by_cases q:n=x
  ·rw [if_pos q,if_pos q.symm]
  ·rw [if_neg q,if_neg (Ne.symm q)];rfl
 | (m,u)::l=>by
  have e:putL x v ((m,u)::l)=if m=x then (m,v)::l else (m,u)::putL x v l:=rfl
  have g:∀ {u:V} {l},getL? n ((m,u)::l)=if m=n then some u else getL? n l:=rfl
  rw [e,g]
  by_cases q:m=x
  ·rw [if_pos q,g]
   by_cases z:m=n
   ·rw [if_pos z,if_pos (z▸q)]
   ·rw [if_neg z,if_neg z,if_neg fun w=>z (q.trans w.symm)]
  ·rw [if_neg q,g,get_put]
   by_cases z:m=n
   ·rw [if_pos z,if_pos z,if_neg (z▸q)]
   ·rw [if_neg z,if_neg z]
section
variable {C:Cx} {X Y:Addr→Prop} {env:Env} {fr:Fr} {W W' W₀:Wd} {call:Call} {pos:Pos} {σ σ' τ τ':St} {s s':Shared} {A:Around} {v:V} {r:Value} {I D b c:Addr} {o:Obj} {vs rest us:List V} {x:Nm} {scope:Scope} {cl:List (Str×Addr)}
theorem noteAny {α:Type} {t:Sem α} {Q:α→Shared→Prop} {E':Value→Shared→Prop} (h:wpAny (model pw₀ C.w) A t Q noE s):wpAny (model pw₀ C.w) A t Q E' s:=
 wpAny_mono h (fun uu uu x=>x) fun uu uu x=>x.elim
noncomputable def notSet:Expr→Bool | .Set _ _ _=>false | _=>true
theorem folded_of {e:Expr} (h:notSet e=true) (x:Value):foldedSetIterable e env x=pure x:=by
 cases e<;>first | rfl | cases h
theorem compFr (K:CompOK env.scope scope x) (F:FrR C.w X env fr W) (h2:∀ y∈scope.names,y.2=.free→cl.lookup y.1=env.cells.lookup y.1) {m:Str→Option Value} (pc:W.pl c=.pv o) (n:NsO o m) (hm:m (nstr x)=some r) (hv:VR C.w W v r):
  FrR C.w (fun b=>X b∨b=c) (compEnvC scope cl c env) (fr.set x v) W:=by
 have kf:∀ {y:Str} {k:NameKind},(compEnvC scope cl c env).kindOf y=some k→∃ k',scope.names.lookup y=some k'∧(k=k'∨(k'=.free∧k=.cell∧env.kindOf y=some .cell)):=fun {y k} h=>lookup_relabel h
 have toCell:∀ {n:Nm},isCel (compEnvC scope cl c env) n→env.kindOf (nstr n)=some .cell∧cl.lookup (nstr n)=env.cells.lookup (nstr n)∧n≠x:=fun {n} h=>by
  have key:scope.names.lookup (nstr n)=some .free:=by
   rcases h with h | h<;>obtain ⟨k',e1,e2⟩:=kf h
   ·rcases e2 with e2 | ⟨e2, -, -⟩
    ·exact absurd e2.symm (K.cell _ (mem_of_lookup_some e1))
    ·exact e2▸e1
   ·rcases e2 with e2 | ⟨_,e2,_⟩
    ·exact e2▸e1
    ·cases e2
  have hm:=mem_of_lookup_some key
  exact⟨(K.free _ hm rfl).2,h2 _ hm rfl,fun q=>nomatch (q▸key).symm.trans K.loc⟩
 refine ⟨K.kind,F.glob,F.bi,fun n' v' e k=>?_,fun b hb=>hb.elim (F.ex b) fun q=>.inl ⟨o,q▸pc⟩,fun n' k=>?_⟩
 ·rw [show getL? n' (fr.set x v).vars=_ from get_put] at e
  rcases k with k | k
  ·refine e1a2 (kf k) fun k' e1 e2=>?_
   have q:n'=x:=by
    rcases e2 with e2 | ⟨_,e2,_⟩
    ·exact K.only n' (e2▸e1)
    ·cases e2
   rw [if_pos q] at e
   cases e
   exact⟨r,.loc k pc (.inr rfl) n (q▸hm),hv⟩
  ·refine an3 (toCell k) fun q1 q2 q3=>?_
   rw [if_neg q3] at e
   refine e1a2 (F.vars n' v' e (.inr (.inl q1))) fun r' rd hr=>?_
   refine ⟨r',?_,hr⟩
   cases rd with
   | loc k=>exact nomatch k.symm.trans q1
   | cel _ l f d=>exact .cel k (q2.trans l) (f.imp (fun f=>⟨f.1,.inl f.2.1,fun uu=>f.2.2 q1⟩) id) d
 ·refine an3 (toCell (.inl k)) fun q1 q2 uu=>?_
  exact(F.cl n' q1).imp fun d e=>q2.trans e
theorem Itr.self {Q:Value→Shared→Prop} {E:Value→Shared→Prop} (it:Itr C W A I vs s.heap) (h:Q (.ref I) s):wpAny (model pw₀ C.w) A (pyIter (.ref I)) Q E s:=by
 refine ex5 it fun fp P Sq us i hh=>an3 hh fun it st uu=>?_
 exact it.walk.self i s _ _ st h
theorem Itr.step (it:Itr C W A I vs s.heap) (R:Rel C.D W σ s) (L:W.Le X W') (R':Rel C.D W' σ' s') (p:W.pl I=.pv o) (nx:¬ X I):Itr C W' A I vs s'.heap:=
 (it.frame (fun o' e=>by cases (R.pv p).symm.trans e;exact R'.pv ((L.pv _ _ p).resolve_left nx)) fun a o f=>⟨R.fz f,R'.fz (L.fz _ _ f)⟩).le L.fz (VR.les L)
structure CI (C:Cx) (A:Around) (W₀:Wd) (I D c:Addr) (rest us:List V) (W:Wd) (τ:St) (s:Shared):Prop where
 L:W₀.L0 W
 g:Rel C.D W τ s
 it:Itr C W A I rest s.heap
 pI:∃ o,W.pl I=.pv o
 pD:∃ rs k,W.pl D=.pv (listObj rs k)∧F2 (VR C.w W) us rs.toList
 pC:∃ o m,W.pl c=.pv o∧NsO o m
theorem CI.step (ci:CI C A W₀ I D c rest us W τ s) (L:W.Le X W') (L0:W₀.L0 W') (g:Rel C.D W' τ' s') (nI:¬ X I) (nD:¬ X D) (nC:¬ X c):CI C A W₀ I D c rest us W' τ' s':=by
 refine ex1 ci.pI fun oI pI=>?_
 refine e2a2 ci.pD fun rs k pD F=>?_
 refine e2a2 ci.pC fun oc m pC n=>?_
 exact⟨L0,g,ci.it.step ci.g L g pI nI,⟨oI,(L.pv _ _ pI).resolve_left nI⟩,⟨rs,k,(L.pv _ _ pD).resolve_left nD,F.imp (VR.les L)⟩,oc,m,(L.pv _ _ pC).resolve_left nC,n⟩
inductive CondOK (C:Cx) (env:Env) (call:Call):Option E.X→List Expr→Prop
 | no:CondOK C env call .none []
 | one {x:E.X} {e:Expr}:XT C env call x e→CondOK C env call (some x) [e]
noncomputable def condM (call:Call) (cond:Option E.X) (fr:Fr):MC Bool:=fun σ K=>match cond with | .none=>K true σ | some c=>evalC wid call c fr σ fun v σ=>O (truthy v) fun b=>K b σ
theorem testsOk {cond:Option E.X} {ifs:List Expr} (hc:CondOK C env call cond ifs) (F:FrR C.w X env fr W):
  Sim C W EqB (C.run (forIn ifs true fun c r=>if r=true then do let ok ← isTrue c env (eval c env);pure (ForInStep.yield ok) else pure (ForInStep.yield r))) (condM call cond fr):=by
 cases hc with
 | no=>exact fun A σ s K Q a g e q=>by rw [List.forIn_nil];exact wpAny_pure (q.here g rfl e)
 | one h=>exact .of (fun z=>by rw [List.forIn_cons];exact wpAny_bind (by rw [if_pos rfl];exact wpAny_bind (wpAny_mono z (fun uu uu z=>wpAny_pure (by dsimp only;rw [List.forIn_nil];exact wpAny_pure z)) fun uu uu z=>z))) (h.test X fr W F)
end
end E
end Mine
end
section
namespace Mine
namespace E
open PySem PySem.W PyProof.Rows
section
variable {C:Cx} {X Y:Addr→Prop} {env:Env} {fr:Fr} {W W' W₀ W₁:Wd} {call:Call} {pos:Pos} {σ σ' τ τ' σ₁:St} {s s' s₁:Shared} {A:Around} {v:V} {r:Value} {I D b c:Addr} {o:Obj} {vs rest us:List V} {x:Nm} {scope:Scope} {cl:List (Str×Addr)}
noncomputable abbrev condOf (call:Call) (cond:Option E.X):Option (Fr→St→KV→Prop):=match cond with | .none=>.none | some c=>some (fun f s=>evalC wid call c f s)
theorem compLoop_cons {cond:Option E.X} {elt:Fr→St→KV→Prop} {K:List V→St→Prop} (e:compLoop wid x (condOf call cond) elt fr (v::rest) τ K):
  condM call cond (fr.set x v) τ fun b σ=>match b with | true=>elt (fr.set x v) σ fun y σ=>compLoop wid x (condOf call cond) elt fr rest σ fun ys σ=>K (y::ys) σ | false=>compLoop wid x (condOf call cond) elt fr rest σ K:=by
 cases cond<;>exact e
noncomputable abbrev CompR (C:Cx) (W₁:Wd) (K:V→St→Prop) (RR:Value→Addr→Result→Shared→Prop):Prop:=∀ W' s' D c o m ys σ',W₁.L0 W'→Rel C.D W' σ' s'→VR C.w W' (.lst ys) (.ref D)→W'.pl c=.pv o→NsO o m→W₁.pl c=.no→K (.lst ys) σ'→RR (.ref D) c (.ok .next) s'
theorem compTurns {px:Pos} {elt:E.X} {ee iter:Expr} {cond:Option E.X} {ifs:List Expr} {RR:Value→Addr→Result→Shared→Prop} {K:V→St→Prop} (Cc:CompOK env.scope scope x) (helt:XT C (compEnvC scope cl c env) call elt ee) (hcond:CondOK C (compEnvC scope cl c env) call cond ifs)
  (h2:∀ y∈scope.names,y.2=.free→cl.lookup y.1=env.cells.lookup y.1) (F:FrR C.w X env fr W₁) (a:AOk A C.n) (nI:W₁.pl I=.no) (nD:W₁.pl D=.no) (nC:W₁.pl c=.no) (ID:I≠D) (Ic:I≠c) (Dc:D≠c)
  (ci:CI C A W₁ I D c vs us W τ s) (hlen:us.length + vs.length≤1000000) (e:compLoop wid x (condOf call cond) (fun f s=>evalC wid call elt f s) fr vs τ fun ys σ=>K (.lst (us++ys)) σ) (h:CompR C W₁ K RR):
  codeAny (model pw₀ C.w) A (.compLoop (.ListComp ee [⟨.Name (nstr x) px,iter,ifs,0⟩] scope pos) 0 (.ref I) (.ref D) (compEnvC scope cl c env)) (RR (.ref D) c) s:=by
 refine codeAny_compLoop_tests (fun k s'=>∃ rest us W' τ,k=rest.length∧CI C A W₁ I D c rest us W' τ s'∧us.length + rest.length≤1000000∧compLoop wid x (condOf call cond) (fun f s=>evalC wid call elt f s) fr rest τ fun ys σ=>K (.lst (us++ys)) σ) ?_ vs.length ⟨vs,us,W,τ,rfl,ci,hlen,e⟩
 rintro k s' ⟨rest,us,W',τ,rfl,ci,hl,e⟩
 refine ex1 ci.pI fun oI pI=>?_
 cases rest with
 | nil=>
  refine ci.it.done fun h₃ tk₃ kp=>?_
  have g₃:Rel C.D (W'.put I .no) τ {s' with heap:=h₃,toks:=tk₃}:=ci.g.put (Wd.mine_pv pI) trivial (fun b o hb uu=>kp b o hb) ⟨rfl,rfl⟩
  refine e2a2 ci.pD fun rs k pD F=>?_
  refine e2a2 ci.pC fun oc m pC n=>?_
  have pD:(W'.put I .no).pl D=.pv (listObj rs k):=(Wd.put_ne ID.symm).trans pD
  have e:K (.lst (us++[])) τ:=e
  rw [List.append_nil] at e
  exact h _ _ D c oc m us τ ((ci.L.own nI (Wd.mine_pv pI)).own nD (Wd.mine_pv pD)) (g₃.put (x:=.fz (listObj rs k)) (Wd.mine_pv pD) (g₃.pv pD) (fun uu uu uu uu z=>z) ⟨rfl,rfl⟩) (VR.lstI _ D _ Wd.put_eq ⟨rs,k,rfl,F.imp fun uu uu z=>(z.le ((Wd.mine_pv pI).le (X:=fun uu=>True) fun uu uu=>trivial)).le ((Wd.mine_pv pD).le (X:=fun uu=>True) fun uu uu=>trivial)⟩) ((Wd.put_ne Dc.symm).trans ((Wd.put_ne Ic.symm).trans pC)) n nC e
 | cons v rest=>
  refine ci.it.item fun xv h₃ tk₃ hv it₃ kp=>?_
  refine ex1 it₃.live fun o₃ g₃=>?_
  have L₃:W'.Le (fun b=>b=I) (W'.put I (.pv o₃)):=(Wd.mine_pv pI).le fun uu uu=>rfl
  refine e2a2 ci.pC fun oc m pC n=>?_
  refine e2a2 ci.pD fun rs k pD F'=>?_
  have ci₃:CI C A W₁ I D c rest us (W'.put I (.pv o₃)) τ {s' with heap:=h₃,toks:=tk₃}:=⟨ci.L.own nI (Wd.mine_pv pI),ci.g.put (Wd.mine_pv pI) g₃ (fun b o hb uu=>kp b o hb) ⟨rfl,rfl⟩,it₃.le L₃.fz (VR.les L₃),⟨o₃,Wd.put_eq⟩,⟨rs,k,(Wd.put_ne ID.symm).trans pD,F'.imp (VR.les L₃)⟩,oc,m,(Wd.put_ne Ic.symm).trans pC,n⟩
  have pC:(W'.put I (.pv o₃)).pl c=.pv oc:=(Wd.put_ne Ic.symm).trans pC
  refine wpAny_assign_Name (noteAny (wpAny_storeName_local (lookup_relabel_local Cc.loc) (n.at (ci₃.g.pv pC)) (fun h₄ hn₄ hb=>noteAny ?_) (by rw [show (compEnvC scope cl c env).scope.kind=_ from Cc.kind];rfl)))
  obtain ⟨o₄,g₄⟩:∃ o,h₄.get? c=some o:=let ⟨o,_,_,g,_⟩:=hn₄;⟨o,g⟩
  have L₄:(W'.put I (.pv o₃)).Le (fun b=>b=c) ((W'.put I (.pv o₃)).put c (.pv o₄)):=(Wd.mine_pv pC).le fun uu uu=>rfl
  have gg₄:Rel C.D ((W'.put I (.pv o₃)).put c (.pv o₄)) τ {s' with heap:=h₄,toks:=tk₃ + 1}:=ci₃.g.put (Wd.mine_pv pC) g₄ (fun b o hb' uu e=>by rw [hb.2 b hb'];exact e) ⟨rfl,rfl⟩
  refine ex1 ci₃.pI fun oI₃ pI₃=>?_
  refine e2a2 ci₃.pD fun rs₃ k₃ pD₃ F₃=>?_
  have ci₄:CI C A W₁ I D c rest us ((W'.put I (.pv o₃)).put c (.pv o₄)) τ {s' with heap:=h₄,toks:=tk₃ + 1}:=
   ⟨ci₃.L.own nC (Wd.mine_pv pC),gg₄,ci₃.it.step ci₃.g L₄ gg₄ pI₃ Ic,⟨_,(Wd.put_ne Ic).trans pI₃⟩,⟨rs₃,k₃,(Wd.put_ne Dc).trans pD₃,F₃.imp (VR.les L₄)⟩,o₄,_,Wd.put_eq,NsO.of hn₄ g₄⟩
  have F₄:=compFr Cc (F.le ci₄.L) h2 (Wd.put_eq (W:=W'.put I (.pv o₃))) (NsO.of hn₄ g₄) (if_pos rfl) ((hv.le L₃).le L₄)
  refine testsOk hcond F₄ A τ _ _ _ a gg₄ (compLoop_cons e) fun W₅ s₅ b b' τ₅ L₅ g₅ hb e=>?_
  cases (hb:b=b')
  have ci₅:=ci₄.step L₅ (ci₄.L.trans L₅) g₅ id id id
  cases b with
  | false=>rw [if_neg (by decide)];exact⟨rest.length,Nat.lt_succ_self _,rest,us,W₅,τ₅,rfl,ci₅,by simp at hl;omega,e⟩
  | true=>
   rw [if_pos rfl]
   refine noteAny (helt.val _ _ W₅ (F₄.le L₅) A τ₅ s₅ _ _ a g₅ e fun W₆ s₆ y ry τ₆ L₆ g₆ hy e=>?_)
   have ci₆:=ci₅.step L₆ (ci₅.L.trans L₆) g₆ id id id
   refine e2a2 ci₆.pD fun rs₆ k₆ pD₆ F₆=>?_
   have l:=F₆.len
   rw [Array.length_toList] at l
   refine noteAny (wpAny_list_append_plain ⟨k₆,g₆.pv pD₆⟩ (fun h₇ hpl hb₇=>?_) (by rw [sizeLine_eq];simp at hl;omega))
   refine ex1 hpl fun k₇ gD₇=>?_
   have L₇:W₆.Le (fun b=>b=D) (W₆.put D (.pv (listObj (rs₆.push ry) k₇))):=(Wd.mine_pv pD₆).le fun uu uu=>rfl
   have g₇:Rel C.D (W₆.put D (.pv (listObj (rs₆.push ry) k₇))) τ₆ {s₆ with heap:=h₇}:=g₆.put (Wd.mine_pv pD₆) gD₇ (fun b o hb' uu e=>by rw [hb₇.2 b hb'];exact e) ⟨rfl,rfl⟩
   refine ex1 ci₆.pI fun oI₆ pI₆=>?_
   refine e2a2 ci₆.pC fun oc₆ m₆ pC₆ n₆=>?_
   exact⟨rest.length,Nat.lt_succ_self _,rest,us++[y],_,τ₆,rfl,⟨ci₆.L.own nD (Wd.mine_pv pD₆),g₇,ci₆.it.step g₆ L₇ g₇ pI₆ ID,⟨_,(Wd.put_ne ID).trans pI₆⟩,⟨_,_,Wd.put_eq,by rw [Array.toList_push];exact .append (.cons (hy.le L₇) .nil) (F₆.imp (VR.les L₇))⟩,oc₆,m₆,(Wd.put_ne Dc.symm).trans pC₆,n₆⟩,by simp at hl ⊢;omega,by simpa only [List.append_assoc,List.singleton_append] using e⟩
end
end E
end Mine
end
section
namespace Mine
namespace E
open PySem PySem.W PyProof.Rows
section
variable {C:Cx} {X Y:Addr→Prop} {env:Env} {fr:Fr} {W W' W₀ W₁:Wd} {call:Call} {pos:Pos} {σ σ' τ τ' σ₁:St} {s s' s₁:Shared} {A:Around} {v:V} {r:Value} {I D b c:Addr} {o:Obj} {vs rest us:List V} {x:Nm} {scope:Scope} {cl:List (Str×Addr)}
theorem compCore {px:Pos} {elt:E.X} {ee iter:Expr} {cond:Option E.X} {ifs:List Expr} {RR:Value→Addr→Result→Shared→Prop} {K:V→St→Prop} {fp:List Addr} {P:Nat→Value→Prop} {Sq:Nat→Heap→Prop} (Cc:CompOK env.scope scope x) (helt:∀ c,XT C (compEnvC scope cl c env) call elt ee) (hcond:∀ c,CondOK C (compEnvC scope cl c env) call cond ifs)
  (h2:∀ y∈scope.names,y.2=.free→cl.lookup y.1=env.cells.lookup y.1) (F:FrR C.w X env fr W₁) (a:AOk A C.n) (g₁:Rel C.D W₁ σ₁ s₁) (It:IterOf C W₁ A s₁.heap.objs.size vs fp P Sq) (hfo:o.isFreed=false) (st0:Sq 0 (s₁.heap.push o)) (hlen:vs.length≤1000000)
  (e:compLoop wid x (condOf call cond) (fun f s=>evalC wid call elt f s) fr vs σ₁ fun ys σ=>K (.lst ys) σ) (h:CompR C W₁ K RR):
  wpAny (model pw₀ C.w) A (newList []) (fun acc s₃=>wpAny (model pw₀ C.w) A (newFunctionEnv scope env.globals cl [] env.qual none .none (some env)) (fun cenv s₄=>
   codeAny (model pw₀ C.w) A (.compStart (.ListComp ee [⟨.Name (nstr x) px,iter,ifs,0⟩] scope pos) 0 (.ref s₁.heap.objs.size) acc {cenv with scope:=relabel scope env}) (RR acc cenv.locals) s₄) noE s₃) noE {s₁ with heap:=s₁.heap.push o}:=by
 refine wpAny_newObj_type (wpAny_newFunctionEnv Cc.cell (fun uu h=>absurd h List.not_mem_nil) (fun h₁ hns₁ hsb₁=>?_) Cc.kind)
 have nI:=g₁.new_no
 have g₂:Rel C.D (W₁.put s₁.heap.objs.size (.pv o)) σ₁ {s₁ with heap:=s₁.heap.push o}:=g₁.put (Wd.mine_no nI) (Heap.get?_push_size _ hfo) (fun b o uu uu=>Heap.get?_push_of_some _) ⟨rfl,rfl⟩
 have nD:=g₂.new_no
 have ID:s₁.heap.objs.size≠(s₁.heap.push o).objs.size:=Nat.ne_of_lt (Heap.lt_size (Heap.get?_push_size _ hfo))
 have g₃:=g₂.put (x:=.pv (listObj ([]:List Value).toArray 0)) (s':={s₁ with heap:=(s₁.heap.push o).push (listObj ([]:List Value).toArray 0)}) (Wd.mine_no nD) (Heap.get?_push_size _ rfl) (fun b o uu uu=>Heap.get?_push_of_some _) ⟨rfl,rfl⟩
 have nC:=g₃.new_no
 obtain ⟨oC,gC⟩:∃ oC,h₁.get? ((s₁.heap.push o).push (listObj ([]:List Value).toArray 0)).objs.size=some oC:=let ⟨oC,_,_,g,_⟩:=hns₁;⟨oC,g⟩
 have Dc:(s₁.heap.push o).objs.size≠((s₁.heap.push o).push (listObj ([]:List Value).toArray 0)).objs.size:=Nat.ne_of_lt (Heap.lt_size (Heap.get?_push_size _ rfl))
 have Ic:s₁.heap.objs.size≠((s₁.heap.push o).push (listObj ([]:List Value).toArray 0)).objs.size:=Nat.ne_of_lt (Heap.lt_size (Heap.get?_push_of_some _ (Heap.get?_push_size _ hfo)))
 have g₄:=g₃.put (x:=.pv oC) (s':={s₁ with heap:=h₁,toks:=s₁.toks + ([]:List (Str×Value)).length}) (Wd.mine_no nC) gC (fun b o hb uu e=>by rw [hsb₁.2 b hb];exact Heap.get?_push_of_some _ e) ⟨rfl,rfl⟩
 have it:Itr C W₁ A s₁.heap.objs.size vs (s₁.heap.push o):=⟨fp,P,Sq,vs,0,It,st0,Nat.zero_le _,rfl⟩
 have L₂:W₁.L0 (W₁.put s₁.heap.objs.size (.pv o)):=Wd.le_no nI
 have L₃:(W₁.put s₁.heap.objs.size (.pv o)).L0 _:=Wd.le_no (x:=.pv (listObj ([]:List Value).toArray 0)) nD
 have L₄:((W₁.put s₁.heap.objs.size (.pv o)).put (s₁.heap.push o).objs.size (.pv (listObj ([]:List Value).toArray 0))).L0 _:=Wd.le_no (x:=.pv oC) nC
 have it:=((it.le L₂.fz (VR.les L₂)).step (s:={s₁ with heap:=s₁.heap.push o}) g₂ L₃ g₃ Wd.put_eq id).step g₃ L₄ g₄ ((Wd.put_ne ID).trans Wd.put_eq) id
 have loop:=compTurns (px:=px) (pos:=pos) (iter:=iter) (us:=[]) (vs:=vs) (RR:=RR) (K:=K) Cc (helt _) (hcond _) h2 F a nI ((Wd.put_ne (Ne.symm ID)).symm.trans nD) ((Wd.put_ne (Ne.symm Ic)).symm.trans ((Wd.put_ne (Ne.symm Dc)).symm.trans nC)) ID Ic Dc ⟨(L₂.trans L₃).trans L₄,g₄,it,⟨o,(Wd.put_ne Ic).trans ((Wd.put_ne ID).trans Wd.put_eq)⟩,⟨([]:List Value).toArray,0,(Wd.put_ne Dc).trans Wd.put_eq,.nil⟩,oC,_,Wd.put_eq,NsO.of hns₁ gC⟩ (by simpa using hlen) e h
 exact codeAny_compStart_list loop (it.self loop)
structure CompX (C:Cx) (env:Env) (call:Call) (elt:E.X) (x:Nm) (it:E.X) (cond:Option E.X) (ee ie:Expr) (ifs:List Expr) (scope:Scope):Prop where
 ok:CompOK env.scope scope x
 ns:notSet ie=true
 it:XT C env call it ie
 elt:∀ cl c,XT C (compEnvC scope cl c env) call elt ee
 cond:∀ cl c,CondOK C (compEnvC scope cl c env) call cond ifs
theorem compX {elt:E.X} {it:E.X} {cond:Option E.X} {ee ie:Expr} {ifs:List Expr} {px:Pos} (c:CompX C env call elt x it cond ee ie ifs scope):
  XT C env call (.comp elt x it cond) (.ListComp ee [⟨.Name (nstr x) px,ie,ifs,0⟩] scope pos):=.plain rfl rfl fun X fr W F A σ s K Q a g e q=>by
 obtain ⟨cl,hcl,h2⟩:=closure_ok (scope:=scope) (env:=env) fun y hy q=>by
  obtain ⟨⟨n,e1⟩,e2⟩:=c.ok.free y hy q
  rw [e1] at e2 ⊢
  exact F.cl n e2
 have e:evalC wid call it fr σ fun v σ=>O (if fr.me.isNone then asIter v else .none) fun vs=>compLoop wid x (condOf call cond) (fun f s=>evalC wid call elt f s) fr vs σ fun ys σ=>K (.lst ys) σ:=by cases cond<;>exact e
 rw [eval_ListComp]
 refine wpAny_comprehension_free (use:=none) rfl (folded_of c.ns) hcl c.ok.kind c.ok.names (c.it.val X fr W F A σ s _ _ a g e fun W₁ s₁ v r σ₁ L g₁ hv e=>O_ite e fun uu e=>iterS a.handled g₁ e hv fun vs o fp P Sq It hfo st0 hlen e=>?_)
 refine compCore (RR:=fun acc c=>compPost (model pw₀ C.w) A noE none Q acc c) c.ok (c.elt cl) (c.cond cl) h2 (F.le L) a g₁ It hfo st0 hlen e fun W' s' D c o m ys σ' L' g' hv' pC n nC e=>?_
 exact⟨m,n.at (g'.pv pC),fun h' hb=>q.up L (W'.put c .no) _ _ _ σ' (L'.own nC (Wd.mine_pv pC)) (g'.put (Wd.mine_pv pC) trivial (fun b o hb' uu e=>by rw [hb.2 b hb'];exact e) ⟨rfl,rfl⟩) (hv'.le ((Wd.mine_pv pC).le (X:=fun uu=>True) fun uu uu=>trivial)) e⟩
end
end E
end Mine
end
section
namespace Mine
namespace E
open PySem PySem.W PyProof.Rows
noncomputable def isNsK (K:Frag) (a:Addr):Bool:=match K.lookup a with
 | some o=>(match o.data with | .dict es _=>es.all (fun e=>match e.key with | .str _ _=>true | _=>false) | _=>false)
 | none=>false
noncomputable def nsK (K:Frag) (a:Addr) (x:Str):Option Value:=match K.lookup a with
 | some o=>(match o.data with | .dict es _=>nsFind es x | _=>none)
 | none=>none
set_option tactic.hygienic true in
theorem ns_K {K:Frag} {h:Heap} (X:K.In h) {a:Addr} (e:isNsK K a=true):h.Ns a (nsK K a):=by
 unfold isNsK at e
 split at e
 ·rename_i o ho
  split at e
  ·rename_i es ep hd
   refine ⟨o,es,ep,X a o ho,hd,fun en he=>?_,fun x=>?_⟩
   ·have:=Array.all_eq_true'.mp e en he
    split at this
    ·exact⟨_,_,by assumption⟩
    ·cases this
   ·unfold nsK;rw [ho];dsimp only;rw [hd]
  ·cases e
 ·cases e
theorem ns3 (P:Params):isNsK (KC P) 3=true:=by kernel_rfl
theorem ns3b (P:Params):nsK (KC P) 3 "__builtins__"=some (.ref 4):=by kernel_rfl
theorem ns2 (P:Params):isNsK (KC P) 2=true:=by kernel_rfl
theorem ns2l (P:Params):nsK (KC P) 2 "sys.recursionlimit"=none:=by kernel_rfl
theorem obj4 (P:Params):(KC P).lookup 4=some ⟨.type "module",some 0,.plain,⟨[]⟩⟩:=by kernel_rfl
noncomputable def lawCodeVs:Array Value:=⟨[(.str "law" 2394),(.str "law" 2395),(.str "/claim/cut.py" 2396),(.int 1133 0),(.int 1 0),(.int 0 0),(.int 0 0),(.int 3 0),(.ref 1400),(.bool true),(.int 181 0),(.ref 1401),.none,.none,.none,(.ref 1402),(.int 2397 0),(.int 1133 0),(.str "/claim/cut.py" 2398)]⟩
theorem obj1403 (P:Params):(KC P).lookup 1403=some ⟨.type "code",none,.fields lawCodeVs,⟨[]⟩⟩:=by kernel_rfl
theorem codeHd_K {P:Params} {h:Heap} (X:(KC P).In h):CodeHd h lawCode lawTab:=
 ⟨_,lawCodeVs,"/claim/cut.py",2398,3,0,true,181,0,X _ _ (obj1403 P),rfl,rfl,rfl,rfl,rfl,rfl,rfl,rfl,by decide⟩
theorem noLimit_K {P:Params} {h:Heap} (X:(KC P).In h):h.NoLimit:=⟨_,ns_K X (ns2 P),ns2l P⟩
noncomputable def samePos (j k:Lm):Bool:=(lamPos j).line==(lamPos k).line&&(lamPos j).col==(lamPos k).col
theorem lam_pos_ne:∀ j k:Lm,j≠k→samePos j k=false:=by
 intro j k h
 cases j<;>cases k<;>first | exact absurd rfl h | kernel_rfl
theorem codeAmong_app {pos:Pos} {l c:Int} {v:Value} (hne:(l==pos.line&&c==pos.col)=false):∀(ps:List Value),TriplesOk ps→codeAmong pos ps=none→codeAmong pos (ps++[rawInt l,rawInt c,v])=none:=by
 intro ps h
 fun_induction TriplesOk ps with
 | case1=>intro _;simp [codeAmong,rawInt];simpa using hne
 | case2 a t b u x rest ih=>
  intro hn
  simp only [List.cons_append,codeAmong] at hn ⊢
  split at hn
  ·cases hn
  ·rename_i hq
   rw [if_neg hq]
   exact ih h hn
 | case3=>exact h.elim
theorem triples_app {l c:Int} {v:Value}:∀(ps:List Value),TriplesOk ps→TriplesOk (ps++[rawInt l,rawInt c,v]):=by
 intro ps h
 fun_induction TriplesOk ps with
 | case1=>simp [TriplesOk,rawInt]
 | case2 a t b u x rest ih=>
  simp only [List.cons_append,TriplesOk]
  exact ih h
 | case3=>exact h.elim
structure LamCk (k:Lm) (outer:Scope) (args:Arguments) (body:Expr) (sc:Scope) (pos:Pos):Prop where
 at_:lamAt k=.Lambda args body sc pos
 d1:args.defaults=[]
 d2:args.kw_defaults=[]
 free:∀ y∈sc.names,y.2=.free→(∃ n:Nm,y.1=nstr n)∧outer.names.lookup y.1=some .cell
 caps:∀ n∈lamFree k,isCap n=true∧outer.names.lookup (nstr n)=some .cell∧(nstr n,NameKind.free)∈sc.names
section
variable {C:Cx} {X Y:Addr→Prop} {env:Env} {fr:Fr} {W W' W₀ W₁:Wd} {call:Call} {pos:Pos} {σ σ' τ τ' σ₁:St} {s s' s₁:Shared} {A:Around} {v:V} {r:Value}
theorem caps_get {n:Nm} {v:V}:∀ {ns:List Nm} {cs:List (Nm×V)},caps fr ns=some cs→getL? n cs=some v→n∈ns∧getL? n fr.vars=some v
 | [],cs,e,h=>by cases (e:some []=some cs);cases h
 | m::ns,cs,e,h=>by
  have e:(match getL? m fr.vars,caps fr ns with | some v,some l=>some ((m,v)::l) | _,_=>none)=some cs:=e
  cases h1:getL? m fr.vars with
  | none=>rw [h1] at e;cases e
  | some u=>
   cases h2:caps fr ns with
   | none=>rw [h1,h2] at e;cases e
   | some l=>
    rw [h1,h2] at e
    cases e
    have h:(if m=n then some u else getL? n l)=some v:=h
    by_cases q:m=n
    ·rw [if_pos q] at h;cases h;exact⟨q▸ .head _,q▸h1⟩
    ·rw [if_neg q] at h
     refine an2 (caps_get h2 h) fun a b=>?_
     exact⟨.tail _ a,b⟩
theorem lamX {k:Lm} {args:Arguments} {body:Expr} {sc:Scope} (L:LamCk k env.scope args body sc pos) (hcode:env.code=.ref lawCode):XT C env call (.lam k) (.Lambda args body sc pos):=.plain rfl rfl fun X fr W F A σ s K Q a g e q=>O_elim e fun cs hcs e=>by
 have e:O (match σ.objs 0 with | some (.tab l)=>if l.contains k then .none else some (σ.set 0 (.tab (k::l))) | _=>.none) fun σ=>K (.clo k cs) σ:=e
 obtain ⟨l,hl⟩:∃ l,σ.objs 0=some (.tab l):=by
  cases h:σ.objs 0 with
  | none=>rw [h] at e;exact e.elim
  | some m=>cases m with
   | tab l=>exact⟨l,rfl⟩
   | _=>rw [h] at e;exact e.elim
 rw [hl] at e
 have e:O (if l.contains k then .none else some (σ.set 0 (.tab (k::l)))) fun σ=>K (.clo k cs) σ:=e
 have hkl:l.contains k=false:=by
  cases h:l.contains k with
  | false=>rfl
  | true=>rw [h] at e;exact e.elim
 rw [hkl] at e
 refine e2a4 (g.obj 0 _ hl) fun P P' hm p1 uu M=>?_
 obtain ⟨rfl,ps,gP,hP,htr,hamong⟩:=M
 subst hP
 obtain ⟨cl,hcl,h2⟩:=closure_ok (scope:=sc) (env:=env) fun y hy q=>by
  obtain ⟨⟨n,e1⟩,e2⟩:=L.free y hy q
  rw [e1] at e2 ⊢
  exact F.cl n e2
 have hd:defaultsOf args env=([],[]):=by
  obtain ⟨x1,x2,x3,x4,x5,x6,x7⟩:=args
  cases L.d1
  cases L.d2
  rfl
 have hpos:lamPos k=pos:=by unfold lamPos;rw [L.at_]
 have hnf:=hamong k hkl
 rw [hpos] at hnf
 refine kla_eval hd (kla_makeFunction (mg:=nsK (KC C.w.params) 3) hcl F.glob (ns_K g.B (ns3 C.w.params)) hcode (codeHd_K g.B) gP htr hnf (by decide)
  ⟨4,_,ns3b C.w.params,by decide,by decide,by decide,g.B _ _ (obj4 C.w.params),rfl,rfl,rfl⟩ fun c' ctv h' tk hx hge hlt hrec hP'=>?_)
 refine ex4 hrec fun c'' oc vs t hh=>an4 hh fun ec gc dc vc=>?_
 cases ec
 have n1:=g.no (Heap.get?_none_of_le hge)
 have n2:=g.no (Heap.get?_none_of_le (Nat.le_of_lt (Nat.lt_of_le_of_lt hge hlt)))
 have gP':=Heap.get?_push_of_some (kla_obj "<lambda>" (env.qual++"<lambda>") args body sc cl ((nsK (KC C.w.params) 3 "__name__").getD .none) c' ctv) hP'
 have g₁:=g.chg (s':=⟨_,s.gens,s.drawn,tk,s.os⟩) hl hm (m':=.tab (k::l)) ⟨rfl,_,gP',rfl,by rw [Array.toList_append];exact triples_app _ htr,fun j hj=>by
  rw [Array.toList_append]
  have hj:(j==k||l.contains j)=false:=hj
  refine an2 (Bool.or_eq_false_iff.mp hj) fun hjk hjl=>?_
  have:=lam_pos_ne k j fun q=>by rw [q,beq_self_eq_true] at hjk;cases hjk
  unfold samePos at this
  rw [hpos] at this
  refine codeAmong_app ?_ _ htr (hamong j hjl)
  simp only [Bool.and_eq_false_iff,beq_eq_false_iff_ne,ne_eq] at this ⊢
  omega⟩ (fun b o hb uu e=>Heap.get?_push_of_some _ (hx b o hb.1 e)) ⟨rfl,rfl⟩
 have hne:h'.objs.size≠c':=Nat.ne_of_gt hlt
 have g₂:=g₁.put (x:=.fz oc) (s':=⟨_,s.gens,s.drawn,tk,s.os⟩) (Wd.mine_no n1) (Heap.get?_push_of_some _ gc) (fun uu uu uu uu e=>e) ⟨rfl,rfl⟩
 have n2:(W.put c' (.fz oc)).pl h'.objs.size=.no:=(Wd.put_ne hne).trans n2
 have g₃:=g₂.put (a:=h'.objs.size) (x:=.fz (kla_obj "<lambda>" (env.qual++"<lambda>") args body sc cl ((nsK (KC C.w.params) 3 "__name__").getD .none) c' ctv)) (s':=⟨_,s.gens,s.drawn,tk,s.os⟩) (Wd.mine_no n2) (Heap.get?_push_size _ rfl) (fun uu uu uu uu e=>e) ⟨rfl,rfl⟩
 have L₁:W.L0 (W.put c' (.fz oc)):=Wd.le_no n1
 have L₂:=L₁.trans (Wd.le_no (x:=.fz (kla_obj "<lambda>" (env.qual++"<lambda>") args body sc cl ((nsK (KC C.w.params) 3 "__name__").getD .none) c' ctv)) n2)
 refine q _ _ (.clo k cs) _ _ L₂ g₃ (.mk ⟨_,_,rfl,Wd.put_eq,_,rfl,?_,fun n v hn=>?_,c',oc,vs,t,rfl,(Wd.put_ne (Ne.symm hne)).trans Wd.put_eq,dc,vc⟩) e
 ·unfold LamOf
  rw [L.at_]
  exact⟨rfl,rfl,rfl,rfl,rfl,rfl,rfl⟩
 ·refine an2 (caps_get hcs hn) fun hn hv=>?_
  refine an3 (L.caps n hn) fun hc hk hm=>?_
  refine e1a2 (F.vars n v hv (.inr (.inl hk))) fun r rd hr=>?_
  cases rd with
  | loc k=>exact nomatch k.symm.trans hk
  | @cel c o _ l f d=>exact⟨c,o,r,(h2 _ hm rfl).trans l,L₂.fz _ _ (f.resolve_left fun f=>by rw [f.2.2 hk] at hc;cases hc),d,hr.le L₂⟩
end
end E
end Mine
end
section
namespace Mine
namespace E
open PySem PySem.W PyProof.Rows
structure FrS (C:Cx) (X:Addr→Prop) (env:Env) (p:Addr×Addr) (fr:Fr) (W:Wd):Prop where
 rd:FrR C.w X env fr W
 loc:∃ o m,W.pl env.locals=.pv o∧NsO o m∧(fr.me.isSome=true→m (nstr (.H .xb))=some (.ref p.1))
 lx:X env.locals
 cel:∀ n c,env.kindOf (nstr n)=some .cell→env.cells.lookup (nstr n)=some c→(X c∧∃ o y,W.pl c=.pv o∧o.data=.cell y)∨(isCap n&&(getL? n fr.vars).isSome)=true
 dis:∀ a b c,env.kindOf (nstr a)=some .cell→isCel env b→env.cells.lookup (nstr a)=some c→env.cells.lookup (nstr b)=some c→a=b
 me:∀ cl fs,fr.me=some (cl,fs)→isLoc env (.H .xb)∧p.1≠p.2∧p.2≠env.locals∧X p.1∧X p.2∧W.pl p.1=.pv (instObj (gaddr cl) p.2)∧∃ od,W.pl p.2=.pv od∧FldO C.w (VR C.w W) fs od
structure nmOk (env:Env) (x:Nm):Prop where
 k:isLoc env x∨env.kindOf (nstr x)=some .cell
 s:x≠(.H .xb)
section
variable {C:Cx} {X Y:Addr→Prop} {env:Env} {p:Addr×Addr} {fr fr':Fr} {W W':Wd} {call:Call} {pos:Pos} {σ σ':St} {s s':Shared} {A:Around} {v:V} {r:Value} {c b:Addr} {o oc:Obj} {x:Nm}
theorem NsO.uniq {m m':Str→Option Value} (h:NsO o m) (k:NsO o m') (y:Str):m y=m' y:=by
 refine e2a3 h fun es ep e uu h=>?_
 refine e2a3 k fun es' ep' e' uu k=>?_
 cases e.symm.trans e'
 exact(h y).symm.trans (k y)
theorem FrS.mono (F:FrS C X env p fr W) (hp:∀ a o,X a→W.pl a=.pv o→W'.pl a=.pv o) (L:W.Le Y W'):FrS C X env p fr W' where
 rd:=F.rd.mono hp L
 loc:=let ⟨o,m,h,r⟩:=F.loc;⟨o,m,hp _ _ F.lx h,r⟩
 lx:=F.lx
 cel:=fun n c h k=>(F.cel n c h k).imp (fun⟨h,o,y,e,d⟩=>⟨h,o,y,hp _ _ h e,d⟩) id
 dis:=F.dis
 me:=fun cl fs e=>let ⟨a,b,c,d,f,g,od,h,i⟩:=F.me cl fs e;⟨a,b,c,d,f,hp _ _ d g,od,hp _ _ f h,i.imp (VR.les L)⟩
theorem FrS.le (F:FrS C X env p fr W) (L:W.L0 W'):FrS C X env p fr W':=F.mono (fun uu uu uu e=>L.keep e) L
theorem own_pv (ob:W.pl b=.pv o) (hb:X b) {Q:Own}:W.Le X (W.put b Q):=(Wd.mine_pv ob).le fun uu uu=>hb
theorem ne_of_data (h:W.pl b=.pv o) (k:W.pl c=.pv oc) (d:o.data≠oc.data):b≠c:=fun q=>by
 subst q;cases h.symm.trans k;exact d rfl
theorem ex_put {Q:Own} (F:FrR C.w X env fr W) (hq:(∃ o,Q=.pv o)∨∃ o,Q=.fz o):∀ c,X c→(∃ o,(W.put b Q).pl c=.pv o)∨∃ o,(W.put b Q).pl c=.fz o:=fun c hc=>by
 by_cases q:c=b
 ·subst q;rw [Wd.put_eq];exact hq
 ·rw [Wd.put_ne q];exact F.ex c hc
theorem storeLoc {Q:Unit→Shared→Prop} (F:FrS C X env p fr W) (g:Rel C.D W σ s) (hk:isLoc env x) (hs:x≠(.H .xb)) (hv:VR C.w W v r)
  (h:∀ W' s',W.Le X W'→FrS C X env p (fr.set x v) W'→Rel C.D W' σ s'→Q () s'):wpAny (model pw₀ C.w) A (storeName env (nstr x) r) Q noE s:=by
 refine e2a3 F.loc fun o m po n ns=>?_
 refine wpAny_storeName_local hk (n.at (g.pv po)) (fun h' hn' hb=>?_) (by rw [F.rd.kind];rfl)
 obtain ⟨o',go'⟩:∃ o,h'.get? env.locals=some o:=let ⟨o,_,_,g,_⟩:=hn';⟨o,g⟩
 have n':=NsO.of hn' go'
 have L:W.Le X (W.put env.locals (.pv o')):=own_pv po F.lx
 have nd:∀ {oc:Obj} {y:Option Value},oc.data=.cell y→o.data≠oc.data:=fun d e=>by
  refine e2a2 n fun es ep e1 uu=>?_
  rw [d,e1] at e;cases e
 refine h _ _ L ⟨⟨F.rd.kind,F.rd.glob,F.rd.bi,fun n₁ v₁ e k=>?_,ex_put F.rd (.inl ⟨_,rfl⟩),F.rd.cl⟩,⟨o',_,Wd.put_eq,n',fun q=>(if_neg fun z=>hs (nstr_inj z).symm).trans (ns q)⟩,F.lx,fun n₁ c h1 h2=>?_,F.dis,fun cl fs e=>?_⟩ (g.put (Wd.mine_pv po) go' (fun b o hb' uu e=>by rw [hb.2 b hb'];exact e) ⟨rfl,rfl⟩)
 ·rw [show getL? n₁ (fr.set x v).vars=_ from get_put] at e
  by_cases q:n₁=x
  ·rw [if_pos q] at e
   cases e
   exact⟨r,.loc (q▸hk) Wd.put_eq F.lx n' (if_pos (q▸rfl)),hv.le L⟩
  ·rw [if_neg q] at e
   refine e1a2 (F.rd.vars n₁ v₁ e k) fun r' rd hr=>?_
   refine ⟨r',?_,hr.le L⟩
   cases rd with
   | loc k po' _ n₂ e₂=>
    cases po.symm.trans po'
    exact .loc k Wd.put_eq F.lx n' ((if_neg fun z=>q (nstr_inj z)).trans ((n.uniq n₂ _).trans e₂))
   | cel k l f d=>exact .cel k l (f.imp (fun f=>⟨(Wd.put_ne (ne_of_data po f.1 (nd d)).symm).trans f.1,f.2⟩) (L.fz _ _)) d
 ·refine (F.cel n₁ c h1 h2).imp (fun⟨h,oc,y,e,d⟩=>⟨h,oc,y,(Wd.put_ne (ne_of_data po e (nd d)).symm).trans e,d⟩) fun z=>?_
  rw [show getL? n₁ (fr.set x v).vars=_ from get_put]
  by_cases q:n₁=x
  ·rw [q] at h1;exact nomatch hk.symm.trans h1
  ·rw [if_neg q];exact z
 ·obtain ⟨a,b,c,d,f,g,od,h,i⟩:=F.me cl fs e
  exact⟨a,b,c,d,f,(Wd.put_ne (ne_of_data po g (fun e=>by obtain ⟨es,ep,e1, -⟩:=n;rw [e1] at e;cases e)).symm).trans g,od,(Wd.put_ne c).trans h,i.imp (VR.les L)⟩
theorem storeCell {Q:Unit→Shared→Prop} (F:FrS C X env p fr W) (g:Rel C.D W σ s) (hk:env.kindOf (nstr x)=some .cell) (hs:x≠(.H .xb)) (hcap:(isCap x&&(getL? x fr.vars).isSome)=false) (hv:VR C.w W v r)
  (h:∀ W' s',W.Le X W'→FrS C X env p (fr.set x v) W'→Rel C.D W' σ s'→Q () s'):wpAny (model pw₀ C.w) A (storeName env (nstr x) r) Q noE s:=by
 refine ex1 (F.rd.cl x hk) fun c hc=>?_
 obtain ⟨xc,o,y,po,d⟩:=(F.cel x c hk hc).resolve_right fun z=>by rw [hcap] at z;cases z
 refine wpAny_storeName_cell F.rd.kind hk hc ⟨o,g.pv po,d⟩ (fun h' hn' hb=>?_)
 refine e1a2 hn' fun o' go' d'=>?_
 have key:∀ q:Own,Held h' c q→((∃ o,q=.pv o)∨∃ o,q=.fz o)→((q=.pv o'∧isCap x=false)∨(q=.fz o'∧isCap x=true))→Q () {s with heap:=h'}:=fun q hq hq1 hq2=>by
  have L:W.Le X (W.put c q):=own_pv po xc
  have nd:∀ {oc:Obj} {b:Addr},W.pl b=.pv oc→(∀ y,oc.data≠ .cell y)→b≠c:=fun e dd=>(ne_of_data po e fun z=>dd y (z▸d)).symm
  refine e2a3 F.loc fun oL m pL n ns=>?_
  have nL:∀ y,oL.data≠ .cell y:=fun y e=>by obtain ⟨es,ep,e1, -⟩:=n;rw [e1] at e;cases e
  refine h _ {s with heap:=h'} L ⟨⟨F.rd.kind,F.rd.glob,F.rd.bi,fun n₁ v₁ e k=>?_,ex_put F.rd hq1,F.rd.cl⟩,⟨oL,m,(Wd.put_ne (nd pL nL)).trans pL,n,ns⟩,F.lx,fun n₁ c₁ h1 h2=>?_,F.dis,fun cl fs e=>?_⟩ (g.put (Wd.mine_pv po) hq (fun b o hb' uu e=>by rw [hb.2 b hb'];exact e) ⟨rfl,rfl⟩)
  ·rw [show getL? n₁ (fr.set x v).vars=_ from get_put] at e
   by_cases z:n₁=x
   ·rw [if_pos z] at e
    cases e
    refine ⟨r,.cel (z▸ .inl hk) (z▸hc) (hq2.symm.imp (fun w=>?_) fun w=>?_).symm d',hv.le L⟩
    ·rw [Wd.put_eq];exact w.1
    ·rw [Wd.put_eq];exact⟨w.1,xc,fun uu=>z▸w.2⟩
   ·rw [if_neg z] at e
    refine e1a2 (F.rd.vars n₁ v₁ e k) fun r' rd hr=>?_
    refine ⟨r',?_,hr.le L⟩
    cases rd with
    | loc k po' xl n₂ e₂=>
     exact .loc k ((Wd.put_ne (nd pL nL)).trans po') xl n₂ e₂
    | @cel c₁ o₁ k l f d₁=>exact .cel k l (f.imp (fun f=>⟨(Wd.put_ne fun w=>z (F.dis x n₁ c hk k hc (l.trans (congrArg some w))).symm).trans f.1,f.2⟩) (L.fz _ _)) d₁
  ·rw [show getL? n₁ (fr.set x v).vars=_ from get_put]
   by_cases z:n₁=x
   ·subst z
    cases hc.symm.trans h2
    rw [if_pos rfl]
    exact hq2.imp (fun w=>⟨xc,o',_,Wd.put_eq.trans w.1,d'⟩) fun w=>by rw [w.2];rfl
   ·rw [if_neg z]
    exact(F.cel n₁ c₁ h1 h2).imp (fun⟨h,oc,y,e,d⟩=>⟨h,oc,y,(Wd.put_ne fun w=>z (F.dis x n₁ c hk (.inl h1) hc (h2.trans (congrArg some w))).symm).trans e,d⟩) id
  ·obtain ⟨a,b,e1,dd,f,g,od,h,i⟩:=F.me cl fs e
   refine ⟨a,b,e1,dd,f,(Wd.put_ne (nd g nofun)).trans g,od,(Wd.put_ne (nd h fun y e=>?_)).trans h,i.imp (VR.les L)⟩
   obtain ⟨rs,⟨es,ep, -,e1, -⟩, -⟩:=i
   rw [e1] at e;cases e
 cases hx:isCap x with
 | false=>exact key (.pv o') go' (.inl ⟨_,rfl⟩) (.inl ⟨rfl,hx⟩)
 | true=>exact key (.fz o') go' (.inr ⟨_,rfl⟩) (.inr ⟨rfl,hx⟩)
theorem asgN_ok {K:Fr→Prop} {Q:Unit→Shared→Prop} (F:FrS C X env p fr W) (g:Rel C.D W σ s) (hk:nmOk env x) (e:O (asgN x v fr) K) (hv:VR C.w W v r)
  (h:∀ W' s',W.Le X W'→FrS C X env p (fr.set x v) W'→Rel C.D W' σ s'→K (fr.set x v)→Q () s'):wpAny (model pw₀ C.w) A (storeName env (nstr x) r) Q noE s:=by
 have e:O (if (isCap x&&(getL? x fr.vars).isSome)=true then .none else some (fr.set x v)) K:=e
 cases hc:isCap x&&(getL? x fr.vars).isSome with
 | true=>rw [hc] at e;exact e.elim
 | false=>
  rw [hc] at e
  rcases hk.k with k | k
  ·exact storeLoc F g k hk.s hv fun W' s' L F g=>h W' s' L F g e
  ·exact storeCell F g k hk.s hc hv fun W' s' L F g=>h W' s' L F g e
end
end E
end Mine
end
section
namespace Mine
namespace E
open PySem PySem.W PyProof.Rows
noncomputable def FlR (w:World) (W:Wd) (fl:Fl) (f:Flow):Prop:=match fl with
 | .next=>f=.next
 | .ret v=>∃ r,f=.ret r∧VR w W v r
noncomputable abbrev KtT (C:Cx) (X:Addr→Prop) (env:Env) (p:Addr×Addr) (W:Wd) (K:Fr→St→Prop) (Q:Unit→Shared→Prop):Prop:=
 ∀ W' s' fr' σ',W.Le X W'→FrS C X env p fr' W'→Rel C.D W' σ' s'→K fr' σ'→Q () s'
noncomputable abbrev KtF (C:Cx) (X:Addr→Prop) (env:Env) (p:Addr×Addr) (W:Wd) (K:KF) (Q:Flow→Shared→Prop):Prop:=
 ∀ W' s' fl f fr' σ',W.Le X W'→FrS C X env p fr' W'→Rel C.D W' σ' s'→FlR C.w W' fl f→K fl fr' σ'→Q f s'
noncomputable def TgOk (C:Cx) (env:Env) (t:Value→Sem Unit) (m:V→Fr→St→(Fr→St→Prop)→Prop):Prop:=
 ∀ X p A W fr σ s v r K Q,AOk A C.n→FrS C X env p fr W→Rel C.D W σ s→VR C.w W v r→m v fr σ K→KtT C X env p W K Q→wpAny (model pw₀ C.w) A (t r) Q noE s
noncomputable def SOk (C:Cx) (env:Env) (t:Sem Flow) (m:Fr→St→KF→Prop):Prop:=
 ∀ X p A W fr σ s K Q,AOk A C.n→FrS C X env p fr W→Rel C.D W σ s→m fr σ K→KtF C X env p W K Q→wpAny (model pw₀ C.w) A t Q noE s
section
variable {C:Cx} {X Y:Addr→Prop} {env:Env} {p:Addr×Addr} {fr fr':Fr} {W W':Wd} {call:Call} {pos:Pos} {σ σ':St} {s s':Shared} {A:Around} {v:V} {r:Value} {x:Nm}
theorem FlR.next:FlR C.w W .next .next:=rfl
theorem FlR.ret (h:VR C.w W v r):FlR C.w W (.ret v) (.ret r):=⟨r,rfl,h⟩
theorem KtF.up {K:KF} {Q:Flow→Shared→Prop} (k:KtF C X env p W K Q) (L:W.Le X W'):KtF C X env p W' K Q:=fun W₂ s₂ fl f fr σ L₂=>k W₂ s₂ fl f fr σ (L.trans L₂)
theorem tgName {p:Pos} (hk:nmOk env x):TgOk C env (assign (.Name (nstr x) p) env) fun v fr σ K=>asgTC wid call (.nm x) v fr σ K:=fun X p A W fr σ s v r K Q a F g hv e q=>
 wpAny_assign_Name (asgN_ok F g hk e hv fun W' s' L F g e=>q W' s' _ σ L F g e)
theorem assignAttr {o:Expr} {attr:Str} {p:Pos} {Q:Unit→Shared→Prop} (h:wpAny (model pw₀ C.w) A (eval o env) (fun ov s₁=>wpAny (model pw₀ C.w) A (setAttr ov attr r) Q noE s₁) noE s):wpAny (model pw₀ C.w) A (assign (.Attribute o attr p) env r) Q noE s:=by
 rw [arm_assign_Attribute]
 exact wpAny_bind (wpAny_holding (wpAny_mono h (fun ov s₁ h₁=>wpAny_bind (wpAny_standAt (wpAny_bind (wpAny_holding (wpAny_mono h₁ (fun uu s₂ h₂=>wpAny_release h₂) fun uu uu x=>x))))) fun uu uu x=>x))
theorem assignSub {o i:Expr} {p:Pos} {Q:Unit→Shared→Prop} (h:wpAny (model pw₀ C.w) A (eval o env) (fun ov s₁=>wpAny (model pw₀ C.w) A (eval i env) (fun iv s₂=>wpAny (model pw₀ C.w) A (setItem ov iv r) Q noE s₂) noE s₁) noE s):
  wpAny (model pw₀ C.w) A (assign (.Subscript o i p) env r) Q noE s:=by
 rw [arm_assign_Subscript]
 exact wpAny_bind (wpAny_holding (wpAny_mono h (fun ov s₁ h₁=>wpAny_bind (wpAny_holding (wpAny_mono h₁ (fun iv s₂ h₂=>wpAny_bind (wpAny_standAt (wpAny_bind (wpAny_holding (wpAny_mono h₂ (fun uu s₃ h₃=>wpAny_release h₃) fun uu uu x=>x))))) fun uu uu x=>x))) fun uu uu x=>x))
theorem tgAttr {x:E.X} {e:Expr} {m:Nm} {p:Pos} (hx:XT C env call x e):TgOk C env (assign (.Attribute e (nstr m) p) env) fun v fr σ K=>asgTC wid call (.attr x m) v fr σ K:=fun X p A W fr σ s v r K Q a F g hv e q=>
 assignAttr (hx.val X fr W F.rd A σ s _ _ a g e fun W₁ s₁ o ro σ₁ L g₁ ho e=>setFldS ho (hv.le L) A σ₁ s₁ _ Q a g₁ e fun s₂ σ₂ g₂ e=>q W₁ s₂ fr σ₂ L.up (F.le L) g₂ e)
theorem tgSub {x i:E.X} {e ei:Expr} {p:Pos} (hx:XT C env call x e) (hi:XT C env call i ei):TgOk C env (assign (.Subscript e ei p) env) fun v fr σ K=>asgTC wid call (.sub x i) v fr σ K:=fun X p A W fr σ s v r K Q a F g hv e q=>
 assignSub (hx.val X fr W F.rd A σ s _ _ a g e fun W₁ s₁ o ro σ₁ L g₁ ho e=>hi.val X fr W₁ (F.rd.le L) A σ₁ s₁ _ _ a g₁ e fun W₂ s₂ k rk σ₂ L₂ g₂ hk e=>setSubS (ho.le L₂) hk (hv.le (L.trans L₂)) A σ₂ s₂ _ Q a g₂ e fun s₃ σ₃ g₃ e=>q W₂ s₃ fr σ₃ (L.trans L₂).up (F.le (L.trans L₂)) g₃ e)
theorem tgMe {m:Nm} {p p':Pos}:TgOk C env (assign (.Attribute (.Name (nstr (.H .xb)) p) (nstr m) p') env) fun v fr σ K=>asgTC wid call (.me m) v fr σ K:=fun X p A W fr σ s v r K Q a F g hv e q=>by
 have e:O (match fr.me with | some (c,fs)=>if isField c m&&fs.length≤1000 then some ⟨fr.vars,some (c,putL m v fs)⟩ else .none | .none=>.none) fun fr=>K fr σ:=e
 cases hc:fr.me with
 | none=>rw [hc] at e;exact e.elim
 | some u=>
  obtain ⟨c,fs⟩:=u
  rw [hc] at e
  refine O_ite e fun hf e=>?_
  refine an2 ((Bool.and_eq_true _ _).mp hf) fun hf hl=>?_
  have hl:=of_decide_eq_true hl
  obtain ⟨k0,n1,n3,x1,x2,p1,od,p2,rs,D,I⟩:=F.me c fs hc
  refine e2a3 F.loc fun oL mm pL n ns=>?_
  refine assignAttr (wpAny_Name (wpAny_loadName_local F.rd.kind k0 (n.at (g.pv pL)) (ns (by rw [hc];rfl)) ?_) (nstr_dbg (.H .xb)))
  have ln:=I.len
  refine set_field g.B hf (g.pv p1) (g.pv p2) D (by omega) fun od' D' h' tk hb gd'=>?_
  have L:W.Le X (W.put p.2 (.pv od')):=own_pv p2 x2
  have nc:∀ {b:Addr} {o:Obj} {y:Option Value},W.pl b=.pv o→o.data=.cell y→b≠p.2:=fun e d=>ne_of_data e p2 fun z=>by
   refine e2a3 D fun es ep uu e1 uu=>?_
   rw [d,e1] at z;cases z
  refine q _ _ _ σ L ⟨⟨F.rd.kind,F.rd.glob,F.rd.bi,fun n₁ v₁ e k=>?_,ex_put F.rd (.inl ⟨_,rfl⟩),F.rd.cl⟩,⟨oL,mm,(Wd.put_ne n3.symm).trans pL,n,fun uu=>ns (by rw [hc];rfl)⟩,F.lx,fun n₁ c₁ h1 h2=>?_,F.dis,fun cl fs' e=>?_⟩ (g.put (Wd.mine_pv p2) gd' (fun b o hb' uu e=>by rw [hb.2 b hb'];exact e) ⟨rfl,rfl⟩) e
  ·refine e1a2 (F.rd.vars n₁ v₁ e k) fun r' rd hr=>?_
   refine ⟨r',?_,hr.le L⟩
   cases rd with
   | loc k po' xl n₂ e₂=>exact .loc k ((Wd.put_ne n3.symm).trans po') xl n₂ e₂
   | cel k l f d=>exact .cel k l (f.imp (fun f=>⟨(Wd.put_ne (nc f.1 d)).trans f.1,f.2⟩) (L.fz _ _)) d
  ·exact(F.cel n₁ c₁ h1 h2).imp (fun⟨h,oc,y,e,d⟩=>⟨h,oc,y,(Wd.put_ne (nc e d)).trans e,d⟩) id
  ·cases e
   exact⟨k0,n1,n3,x1,x2,(Wd.put_ne n1).trans p1,od',Wd.put_eq,_,D',fld_put (hv.le L) (I.imp fun uu uu z=>⟨z.1,z.2.le L⟩) (dict_nodup D)⟩
theorem assignEach_cons {e:Expr} {es:List Expr} (h:notStar e=true):assignEach (e::es) env=(false,assign e env)::assignEach es env:=by
 cases e<;>first | rfl | cases h
structure TE (C:Cx) (env:Env) (call:Call) (t:E.T) (e:Expr):Prop where
 ns:notStar e=true
 ok:TgOk C env (assign e env) fun v fr σ K=>asgTC wid call t v fr σ K
noncomputable abbrev TEs (C:Cx) (env:Env) (call:Call):List E.T→List Expr→Prop:=F2 (TE C env call)
theorem assignEach_len:∀ {ts:List E.T} {es:List Expr},TEs C env call ts es→(assignEach es env).length=ts.length∧(assignEach es env).findIdx? (fun uu=>uu.1)=none
 | [],_,h=>h.nilE ⟨rfl,rfl⟩
 | _::_,_,h=>h.consE fun e es h1 h2=>by
  rw [assignEach_cons h1.ns]
  refine an2 (assignEach_len h2) fun h1 h2=>?_
  exact⟨congrArg (fun uu=>uu + 1) h1,by rw [List.findIdx?_cons,h2];rfl⟩
theorem inOrder:∀ {ts:List E.T} {es:List Expr} {W:Wd} {fr:Fr} {σ:St} {s:Shared} {vs:List V} {rs:List Value} {K:Fr→St→Prop} {Q:Unit→Shared→Prop},TEs C env call ts es→AOk A C.n→FrS C X env p fr W→Rel C.D W σ s→F2 (VR C.w W) vs rs→asgTsC wid call ts vs fr σ K→KtT C X env p W K Q→wpAny (model pw₀ C.w) A (assignInOrder ((assignEach es env).map (fun uu=>uu.2)) rs) Q noE s
 | [],_,W,fr,σ,s,vs,rs,K,Q,h,a,F,g,hv,e,q=>h.nilE (assignInOrder_nil (q W s fr σ (.refl W) F g e))
 | t::ts,_,W,fr,σ,s,vs,rs,K,Q,h,a,F,g,hv,e,q=>h.consE fun te es h1 h2=>by
  cases vs with
  | nil=>exact e.elim
  | cons v vs=>
   refine e2a3 hv fun r rs' qq0 v1 v2=>?_;subst qq0
   rw [assignEach_cons h1.ns]
   exact assignInOrder_cons (h1.ok X p A W fr σ s v r _ _ a F g v1 e fun W₁ s₁ fr₁ σ₁ L F₁ g₁ e=>inOrder h2 a F₁ g₁ (v2.imp (VR.les L)) e fun W₂ s₂ fr₂ σ₂ L₂=>q W₂ s₂ fr₂ σ₂ (L.trans L₂))
theorem itemsOk {K:List V→Prop} {Q:List Value→Shared→Prop} {n:Nat} (a:AOk A C.n) (g:Rel C.D W σ s) (hv:VR C.w W v r) (e:O (asSeq σ v) fun vs=>Gx (vs.length=n) (K vs))
  (h:∀ vs s' rs,Rel C.D W σ s'→F2 (VR C.w W) vs rs→K vs→Q rs s'):wpAny (model pw₀ C.w) A (unpackItems r n none) Q noE s:=
 seqE (M:=fun r=>wpAny (model pw₀ C.w) A (unpackItems r n none) Q noE s) g hv e fun vs ad rs k T go hT hr e=>Gx_elim e fun hl e=>by
  have hl:=of_decide_eq_true hl
  have l:rs.size=vs.length:=hr.len
  have fin:∀ h',Heap.ExtBut s.heap.objs.size s.heap h'→Q rs.toList {s with heap:=h'}:=fun h' he=>h vs {s with heap:=h'} rs.toList (g.ext (fun b o uu uu e=>he b o (fun q=>by rw [q,get_new] at e;cases e) e) ⟨rfl,rfl⟩) hr e
  rw [← hl,← l]
  rcases hT with rfl | rfl
  ·exact kun_itemsOf a.handled (isList_at go) fin
  ·exact wpAny_unpackItems_tuple a.handled (isTuple_at go) fin
theorem tgTup {ts:List E.T} {es:List Expr} {k:Nat} {p:Pos} (h:TEs C env call ts es):TgOk C env (assign (.Tuple es k p) env) fun v fr σ K=>asgTC wid call (.tup ts) v fr σ K:=fun X p A W fr σ s v r K Q a F g hv e q=>by
 refine an2 (assignEach_len h) fun h1 h2=>?_
 rw [arm_assign_Tuple]
 refine wpAny_bind (wpAny_standAt ?_)
 unfold unpack
 rw [h1,h2]
 exact wpAny_bind (wpAny_holding (itemsOk a g hv e fun vs s' rs g' hr e=>inOrder h a F g' hr e q))
end
end E
end Mine
end
section
namespace Mine
namespace E
open PySem PySem.W PyProof.Rows
section
variable {C:Cx} {X Y:Addr→Prop} {env:Env} {p:Addr×Addr} {fr fr':Fr} {W W':Wd} {call:Call} {pos:Pos} {σ σ':St} {s s':Shared} {A:Around} {v:V} {r:Value} {x:Nm}
noncomputable abbrev SS (C:Cx) (env:Env) (call:Call) (m:E.S) (t:Stmt):Prop:=SOk C env (exec t env) fun fr σ K=>execC wid call m fr σ K
noncomputable abbrev SSs (C:Cx) (env:Env) (call:Call) (m:List E.S) (t:List Stmt):Prop:=SOk C env (execs t env) fun fr σ K=>execCs wid call m fr σ K
theorem passS:SS C env call .pass (.Pass pos):=fun X p A W fr σ s K Q a F g e q=>wpAny_Pass (q W s .next .next fr σ (.refl W) F g rfl e)
theorem junkS {st:Stmt}:SS C env call .junk st:=fun X p A W fr σ s K Q a F g e q=>e.elim
noncomputable def isCall:Expr→Bool | .Call _ _ _ _=>true | _=>false
theorem exprS {x:E.X} {e:Expr} (hc:isCall e=true) (hx:XT C env call x e):SS C env call (.expr x) (.Expr e pos):=fun X p A W fr σ s K Q a F g ev q=>
 wpAny_Expr_any (hx.val X fr W F.rd A σ s _ _ a g ev fun W₁ s₁ v r σ₁ L g₁ hv e=>q W₁ s₁ .next .next fr σ₁ L.up (F.le L) g₁ rfl e) (by unfold interactive;rw [F.rd.kind];rfl) (by cases e<;>first | rfl | cases hc)
theorem retNoneS:SS C env call (.ret .none) (.Return none pos):=fun X p A W fr σ s K Q a F g e q=>wpAny_Return_none (q W s (.ret .none) _ fr σ (.refl W) F g (.ret .noneI) e)
theorem retS {x:E.X} {e:Expr} (hx:XT C env call x e):SS C env call (.ret (some x)) (.Return (some e) pos):=fun X p A W fr σ s K Q a F g e q=>
 wpAny_Return_some (hx.val X fr W F.rd A σ s _ _ a g e fun W₁ s₁ v r σ₁ L g₁ hv e=>q W₁ s₁ (.ret v) _ fr σ₁ L.up (F.le L) g₁ (.ret hv) e)
theorem asgS {t:E.T} {te value:Expr} {x:E.X} (hs:swapsWithSole [te] value pos.line env=pure false) (hw:swappedStores [te] value env=pure none) (hx:XT C env call x value) (ht:TE C env call t te):SS C env call (.asg t x) (.Assign [te] value pos):=fun X p A W fr σ s K Q a F g e q=>by
 rw [exec_Assign]
 refine wpAny_bind (wpAny_standAt ?_)
 rw [hs]
 refine wpAny_bind (wpAny_pure ?_)
 rw [if_neg (by decide)]
 refine wpAny_bind (hx.val X fr W F.rd A σ s _ _ a g e fun W₁ s₁ v r σ₁ L g₁ hv e=>?_)
 rw [hw]
 refine wpAny_bind (wpAny_pure ?_)
 rw [assignEach_cons ht.ns]
 show wpAny (model pw₀ C.w) A (do assignAll r [assign te env];pure .next) Q noE s₁
 exact wpAny_bind (ht.ok X p A W₁ fr σ₁ s₁ v r _ _ a (F.le L) g₁ hv e fun W₂ s₂ fr₂ σ₂ L₂ F₂ g₂ e=>wpAny_pure (q W₂ s₂ .next .next fr₂ σ₂ (L.up.trans L₂) F₂ g₂ rfl e))
theorem inOrderN:∀ {ns:List Nm} {W:Wd} {fr:Fr} {s:Shared} {vs:List V} {rs:List Value} {K:Fr→Prop} {Q:Unit→Shared→Prop},(∀ x∈ns,nmOk env x)→AOk A C.n→FrS C X env p fr W→Rel C.D W σ s→F2 (VR C.w W) vs rs→O (asgNs ns vs fr) K→KtT C X env p W (fun fr σ'=>σ'=σ∧K fr) Q→wpAny (model pw₀ C.w) A (assignInOrder ((ns.map nstr).map fun n=>bindName env n) rs) Q noE s
 | [],W,fr,s,vs,rs,K,Q,_,a,F,g,hv,e,q=>assignInOrder_nil (q W s fr σ (.refl W) F g ⟨rfl,e⟩)
 | t::ts,W,fr,s,[],rs,K,Q,ht,a,F,g,hv,e,q=>e.elim
 | t::ts,W,fr,s,v::vs,rs,K,Q,ht,a,F,g,hv,e,q=>by
  refine e2a3 hv fun r rs' qq0 v1 v2=>?_;subst qq0
  exact assignInOrder_cons (wpAny_bindName (asgN_ok F g (ht t (.head _)) (O_bind e) v1 fun W₁ s₁ L F₁ g₁ e=>inOrderN (fun x hx=>ht x (.tail _ hx)) a F₁ g₁ (v2.imp (VR.les L)) e fun W₂ s₂ fr₂ σ₂ L₂=>q W₂ s₂ fr₂ σ₂ (L.trans L₂)))
theorem asgSwap {na nb:Nm} {m:Bool} {xs:List E.X} {c:V} {es:List Expr} {k:Nat} {p:Pos} {value:Expr} (hs:swapsWithSole [.Tuple es k p] value pos.line env=pure false) (hw:swappedStores [.Tuple es k p] value env=pure (some ([na,nb].map nstr)))
  (hk:∀ x∈ [na,nb],nmOk env x) (hx:XT C env call (.tup [.list m xs,.lit c]) value):SS C env call (.swp na nb m xs c) (.Assign [.Tuple es k p] value pos):=fun X p A W fr σ s K Q a F g e q=>by
 have e:evalC wid call (.tup [.list m xs,.lit c]) fr σ fun v σ=>O (asTup v) fun vs=>Gx (vs.length=2) (O (asgNs [nb,na] vs.reverse fr) fun fr=>K .next fr σ):=e
 refine Assign_Tuple_swapped (hx.val X fr W F.rd A σ s _ _ a g e fun W₁ s₁ v r σ₁ L g₁ hv e=>?_) hs hw
 have e:O (asTup v) fun vs=>Gx (vs.length=2) (O (asgNs [nb,na] vs.reverse fr) fun fr=>K .next fr σ₁):=e
 refine itemsOk a g₁ hv (K:=fun vs=>O (asgNs [nb,na] vs.reverse fr) fun fr=>K .next fr σ₁) ?_ fun vs s₂ rs g₂ h₂ e=>?_
 ·cases v with
  | tup vs=>exact e
  | _=>exact e.elim
 ·rw [← List.map_reverse]
  exact inOrderN (fun x hx=>hk x (List.mem_reverse.mp hx)) a (F.le L) g₂ h₂.reverse e fun W₃ s₃ fr₃ σ₃ L₃ F₃ g₃ e=>q W₃ s₃ .next .next fr₃ σ₃ (L.up.trans L₃) F₃ g₃ rfl (by obtain ⟨rfl,e⟩:=e;exact e)
theorem ifS {c:E.X} {ce:Expr} {bs cs:List E.S} {bt ct:List Stmt} (hc:XT C env call c ce) (hb:SSs C env call bs bt) (hd:SSs C env call cs ct):SS C env call (.ife c bs cs) (.If ce bt ct pos):=fun X p A W fr σ s K Q a F g e q=>
 wpAny_If (hc.test X fr W F.rd A σ s _ _ a g e fun W₁ s₁ b b' σ₁ L g₁ hb' e=>by
  cases (hb':b=b')
  cases b with
  | true=>exact hb X p A W₁ fr σ₁ s₁ K Q a (F.le L) g₁ e (KtF.up q L.up)
  | false=>exact hd X p A W₁ fr σ₁ s₁ K Q a (F.le L) g₁ e (KtF.up q L.up))
theorem nilSs:SSs C env call [] []:=fun X p A W fr σ s K Q a F g e q=>wpAny_execs_nil (q W s .next .next fr σ (.refl W) F g rfl e)
theorem consSs {t:E.S} {ts:List E.S} {st:Stmt} {sts:List Stmt} (h:SS C env call t st) (hs:SSs C env call ts sts):SSs C env call (t::ts) (st::sts):=fun X p A W fr σ s K Q a F g e q=>
 wpAny_execs_cons (h X p A W fr σ s _ _ a F g e fun W₁ s₁ fl f fr₁ σ₁ L F₁ g₁ hf e=>by
  cases fl with
  | next=>cases (hf:f=.next);exact hs X p A W₁ fr₁ σ₁ s₁ K Q a F₁ g₁ e (KtF.up q L)
  | ret v=>obtain ⟨r,rfl,hr⟩:=hf;exact q W₁ s₁ (.ret v) _ fr₁ σ₁ L F₁ g₁ (.ret hr) e)
theorem ghostSs {ts:List E.S} {sts:List Stmt} (hx:nmOk env x) (hs:SSs C env call ts sts):SSs C env call (.ghost x::ts) sts:=fun X p A W fr σ s K Q a F g e q=>O_elim e fun v hv e=>by
 refine e1a2 (F.rd.vars x v hv (hx.k.imp id .inl)) fun r rd hr=>?_
 refine e1a3 (frz_ok g hr) fun W' L g' hr'=>?_
 have F':=F.le L
 refine hs X p A W' (fr.set x (frz σ v).1) (frz σ v).2 s K Q a ⟨⟨F'.rd.kind,F'.rd.glob,F'.rd.bi,fun n₁ v₁ e k=>?_,F'.rd.ex,F'.rd.cl⟩,F'.loc,F'.lx,fun n₁ c h1 h2=>(F'.cel n₁ c h1 h2).imp id fun z=>?_,F'.dis,F'.me⟩ g' e (KtF.up q L.up)
 ·rw [show getL? n₁ (fr.set x _).vars=_ from get_put] at e
  by_cases z:n₁=x
  ·rw [if_pos z] at e
   cases e
   exact⟨r,z▸rd.mono (fun uu uu uu e=>L.keep e) L,hr'⟩
  ·rw [if_neg z] at e
   exact F'.rd.vars n₁ v₁ e k
 ·rw [show getL? n₁ (fr.set x _).vars=_ from get_put]
  by_cases w:n₁=x
  ·rw [if_pos w]
   rw [w] at z ⊢
   exact((Bool.and_eq_true _ _).mpr ⟨((Bool.and_eq_true _ _).mp z).1,rfl⟩)
  ·rw [if_neg w];exact z
theorem forS {it:E.X} {ie:Expr} {body:List E.S} {bt:List Stmt} {px:Pos} (hk:nmOk env x) (hns:notSet ie=true) (hi:XT C env call it ie) (hb:SSs C env call body bt):SS C env call (.fr (.nm x) it body) (.For (.Name (nstr x) px) ie bt [] pos):=fun X p A W fr σ s K Q a F g e q=>by
 refine wpAny_For (hi.val X fr W F.rd A σ s _ _ a g e fun W₁ s₁ v r σ₁ L g₁ hv e=>iterS a.handled g₁ e hv fun vs o fp P Sq It hfo st0 hlen e=>?_) (folded_of hns)
 have F₁:=F.le L
 have nI:=g₁.new_no
 have xI:¬ X s₁.heap.objs.size:=fun z=>(F₁.rd.ex _ z).elim (fun⟨o,h⟩=>nomatch h.symm.trans nI) fun⟨o,h⟩=>nomatch h.symm.trans nI
 have L₂:W₁.L0 (W₁.put s₁.heap.objs.size (.pv o)):=Wd.le_no nI
 have g₂:Rel C.D (W₁.put s₁.heap.objs.size (.pv o)) σ₁ {s₁ with heap:=s₁.heap.push o}:=g₁.put (Wd.mine_no nI) (Heap.get?_push_size _ hfo) (fun b o uu uu=>Heap.get?_push_of_some _) ⟨rfl,rfl⟩
 have it₂:Itr C (W₁.put s₁.heap.objs.size (.pv o)) A s₁.heap.objs.size vs (s₁.heap.push o):=Itr.le L₂.fz (VR.les L₂) ⟨fp,P,Sq,vs,0,It,st0,Nat.zero_le _,rfl⟩
 refine codeAny_forLoop (fun k s'=>∃ rest W' fr σ,k=rest.length∧W₁.Le X W'∧FrS C X env p fr W'∧Rel C.D W' σ s'∧Itr C W' A s₁.heap.objs.size rest s'.heap∧(∃ o,W'.pl s₁.heap.objs.size=.pv o)∧forLoop wid x (fun f s=>execCs wid call body f s) rest fr σ K) ?_ vs.length
  ⟨vs,_,fr,σ₁,rfl,L₂.up,F₁.le L₂,g₂,it₂,⟨o,Wd.put_eq⟩,e⟩
 rintro k s' ⟨rest,W',fr',σ',rfl,L',F',g',it',⟨oI,pI⟩,e⟩
 have hp:∀ {Q:Own} a o,X a→W'.pl a=.pv o→(W'.put s₁.heap.objs.size Q).pl a=.pv o:=fun a o xa h=>(Wd.put_ne fun z=>xI (by rw [← z];exact xa)).trans h
 cases rest with
 | nil=>
  refine it'.done fun h₃ tk₃ kp=>wpAny_execs_nil ?_
  exact q (W'.put s₁.heap.objs.size .no) _ .next .next fr' σ' (L.up.trans (L'.own nI (Wd.mine_pv pI))) (F'.mono hp ((Wd.mine_pv pI).le (X:=fun uu=>True) fun uu uu=>trivial)) (g'.put (Wd.mine_pv pI) trivial (fun b o hb uu=>kp b o hb) ⟨rfl,rfl⟩) rfl e
 | cons v rest=>
  refine it'.item fun xv h₃ tk₃ hv it₃ kp=>?_
  refine ex1 it₃.live fun o₃ go₃=>?_
  have L₃:W'.Le (fun b=>b=s₁.heap.objs.size) (W'.put s₁.heap.objs.size (.pv o₃)):=(Wd.mine_pv pI).le fun uu uu=>rfl
  have g₃:Rel C.D (W'.put s₁.heap.objs.size (.pv o₃)) σ' {s' with heap:=h₃,toks:=tk₃}:=g'.put (Wd.mine_pv pI) go₃ (fun b o hb uu=>kp b o hb) ⟨rfl,rfl⟩
  refine wpAny_assign_Name (noteAny (asgN_ok (F'.mono hp L₃) g₃ hk e (hv.le L₃) fun W₄ s₄ L₄ F₄ g₄ e=>noteAny (hb X p A W₄ _ σ' s₄ _ _ a F₄ g₄ e fun W₅ s₅ fl ff fr₅ σ₅ L₅ F₅ g₅ hf e=>?_)))
  have L₆:W₁.Le X W₅:=((L'.own nI (Wd.mine_pv pI)).trans L₄).trans L₅
  cases fl with
  | next=>
   cases (hf:ff=.next)
   exact⟨rest.length,Nat.lt_succ_self _,rest,W₅,fr₅,σ₅,rfl,L₆,F₅,g₅,(it₃.le L₃.fz (VR.les L₃)).step (s:={s' with heap:=h₃,toks:=tk₃}) g₃ (L₄.trans L₅) g₅ Wd.put_eq xI,⟨_,((L₄.trans L₅).pv _ _ Wd.put_eq).resolve_left xI⟩,e⟩
  | ret v=>
   refine e1a2 hf fun r qq0 hr=>?_;subst qq0
   exact q W₅ s₅ (.ret v) _ fr₅ σ₅ (L.up.trans L₆) F₅ g₅ (.ret hr) e
theorem forNilS {tg:E.T} {te:Expr} {it:E.X} {ie:Expr} {body:List E.S} {bt:List Stmt} (hn:(match tg with | .nm _=>false | _=>true)=true) (hns:notSet ie=true) (hi:XT C env call it ie):SS C env call (.fr tg it body) (.For te ie bt [] pos):=fun X p A W fr σ s K Q a F g e q=>by
 refine wpAny_For (hi.val X fr W F.rd A σ s _ _ a g e fun W₁ s₁ v r σ₁ L g₁ hv e=>iterS a.handled g₁ e hv fun vs o fp P Sq It hfo st0 hlen e=>?_) (folded_of hns)
 have e:match vs.isEmpty with | true=>K .next fr σ₁ | false=>False:=by
  cases tg with
  | nm _=>cases hn
  | _=>exact e
 cases vs with
 | cons _ _=>exact e.elim
 | nil=>
  refine codeAny_forLoop_any (fun k s'=>s'={s₁ with heap:=s₁.heap.push o}) ?_ 0 rfl
  rintro k s' rfl
  refine Itr.done ⟨fp,P,Sq,[],0,It,st0,Nat.zero_le _,rfl⟩ fun h₃ tk₃ kp=>wpAny_execs_nil ?_
  exact q W₁ _ .next .next fr σ₁ L.up (F.le L) (g₁.ext (fun b o' uu n e=>kp b o' (fun z=>n (z▸g₁.new_no)) (Heap.get?_push_of_some _ e)) ⟨rfl,rfl⟩) rfl e
theorem whileS {c:E.X} {ce:Expr} {body:List E.S} {bt:List Stmt} (hc:XT C env call c ce) (hb:SSs C env call body bt):SS C env call (.whl c body) (.While ce bt [] pos):=fun X p A W fr σ s K Q a F g e q=>by
 refine wpAny_While (codeAny_whileLoop (fun k s'=>∃ W' fr σ,W.Le X W'∧FrS C X env p fr W'∧Rel C.D W' σ s'∧whileLoop wid (fun f s=>evalC wid call c f s) (fun f s=>execCs wid call body f s) k fr σ K) ?_ 12 ⟨W,fr,σ,.refl W,F,g,e⟩)
 rintro k s' ⟨W',fr',σ',L',F',g',e⟩
 cases k with
 | zero=>exact e.elim
 | succ k=>
  refine noteAny (hc.test X fr' W' F'.rd A σ' s' _ _ a g' e fun W₁ s₁ b b' σ₁ L g₁ hb' e=>?_)
  cases (hb':b=b')
  cases b with
  | true=>
   rw [if_pos rfl]
   refine noteAny (hb X p A W₁ fr' σ₁ s₁ _ _ a (F'.le L) g₁ e fun W₂ s₂ fl ff fr₂ σ₂ L₂ F₂ g₂ hf e=>?_)
   have L₃:=(L'.trans L.up).trans L₂
   cases fl with
   | next=>cases (hf:ff=.next);exact⟨k,Nat.lt_succ_self k,W₂,fr₂,σ₂,L₃,F₂,g₂,e⟩
   | ret v=>obtain ⟨r,rfl,hr⟩:=hf;exact q W₂ s₂ (.ret v) _ fr₂ σ₂ L₃ F₂ g₂ (.ret hr) e
  | false=>
   rw [if_neg (by decide)]
   exact wpAny_execs_nil (q W₁ s₁ .next .next fr' σ₁ (L'.trans L.up) (F'.le L) g₁ rfl e)
end
end E
end Mine
end
section
namespace Mine
namespace E
open PySem PySem.W PyProof.Rows
section
variable {C:Cx} {env:Env} {call:Call} {pos:Pos} {x y:Nm} {scope:Scope}
theorem asgCompS {elt:E.X} {it:E.X} {cond:Option E.X} {ee ie:Expr} {ifs:List Expr} {px py cpos:Pos} (c:CompX C env call elt x it cond ee ie ifs scope) (hk:nmOk env y):
  SS C env call (.asc y elt x it cond) (.Assign [.Name (nstr y) py] (.ListComp ee [⟨.Name (nstr x) px,ie,ifs,0⟩] scope cpos) pos):=by
 obtain ⟨b,hb⟩:∃ b,swapsWith (.ListComp ee [⟨.Name (nstr x) px,ie,ifs,0⟩] scope cpos) (some (.Name (nstr y) py)) pos.line env=pure b:=⟨_,rfl⟩
 cases b with
 | false=>exact asgS hb rfl (compX c) ⟨rfl,tgName hk⟩
 | true=>
  intro X p A W fr σ s K Q a F g e q
  have e:evalC wid call it fr σ fun v σ=>O (if fr.me.isNone then asIter v else .none) fun vs=>compLoop wid x (condOf call cond) (fun f s=>evalC wid call elt f s) fr vs σ fun ys σ=>O (asgN y (.lst ys) fr) fun fr=>K .next fr σ:=by cases cond<;>exact e
  obtain ⟨cl,hcl,h2⟩:=closure_ok (scope:=scope) (env:=env) fun y hy q=>by
   obtain ⟨⟨n,e1⟩,e2⟩:=c.ok.free y hy q
   rw [e1] at e2 ⊢
   exact F.rd.cl n e2
  rw [exec_Assign_Name_used _ _ _ _ hb]
  refine wpAny_bind (wpAny_standAt (wpAny_bind ?_))
  show wpAny _ A (do let _ ← comprehension (.ListComp ee [⟨.Name (nstr x) px,ie,ifs,0⟩] scope cpos) scope env _ (newList []) false (eval ie env) (some (assign (.Name (nstr y) py) env))) _ _ s
  refine wpAny_bind (wpAny_mono (wpAny_comprehension_free (use:=some (assign (.Name (nstr y) py) env)) (Q:=fun uu s'=>Q .next s') rfl (folded_of c.ns) hcl c.ok.kind c.ok.names
   (c.it.val X fr W F.rd A σ s _ _ a g e fun W₁ s₁ v r σ₁ L g₁ hv e=>O_ite e fun uu e=>iterS a.handled g₁ e hv fun vs o fp P Sq It hfo st0 hlen e=>?_)) (fun uu s' hq=>wpAny_pure (wpAny_pure hq)) fun uu uu z=>z)
  refine compCore (RR:=fun acc c=>compPost (model pw₀ C.w) A noE (some (assign (.Name (nstr y) py) env)) (fun uu s'=>Q .next s') acc c) (K:=fun v σ=>O (asgN y v fr) fun fr=>K .next fr σ) c.ok (c.elt cl) (c.cond cl) h2 (F.rd.le L) a g₁ It hfo st0 hlen e fun W' s' D c o m ys σ' L' g' hv' pC n nC e=>?_
  have F₁:=F.le L
  have xc:¬ X c:=fun z=>(F₁.rd.ex _ z).elim (fun⟨o,h⟩=>nomatch h.symm.trans nC) fun⟨o,h⟩=>nomatch h.symm.trans nC
  show wpAny _ A (assign (.Name (nstr y) py) env (.ref D)) _ _ _
  refine wpAny_assign_Name (asgN_ok (F₁.le L') g' hk e hv' fun W₂ s₂ L₂ F₂ g₂ e=>?_)
  have pC₂:=(L₂.pv _ _ pC).resolve_left xc
  refine ⟨m,n.at (g₂.pv pC₂),fun h' hb=>q (W₂.put c .no) {s₂ with heap:=h'} .next .next _ σ' (L.up.trans ((L'.up.trans L₂).own nC (Wd.mine_pv pC₂))) (F₂.mono (fun a o xa h=>(Wd.put_ne fun z=>xc (by rw [← z];exact xa)).trans h) ((Wd.mine_pv pC₂).le (X:=fun uu=>True) fun uu uu=>trivial)) (g₂.put (Wd.mine_pv pC₂) trivial (fun b o hb' uu e=>by rw [hb.2 b hb'];exact e) ⟨rfl,rfl⟩) rfl e⟩
end
end E
end Mine
end
section
namespace Mine
namespace E
open PySem PySem.W PyProof.Rows
noncomputable def sameL:List Nat→List Nat→Bool
 | [],[]=>true
 | a::as,b::bs=>Nat.beq a b&&sameL as bs
 | _,_=>false
theorem sameL_eq:∀ {a b:List Nat},sameL a b=true→a=b
 | [],[],_=>rfl
 | a::as,b::bs,h=>by
  simp only [sameL,Bool.and_eq_true] at h
  rw [Nat.eq_of_beq_eq_true h.1,sameL_eq h.2]
 | [],_::_,h=>by cases h
 | _::_,[],h=>by cases h
theorem sameL_self:∀(a:List Nat),sameL a a=true
 | []=>rfl
 | a::as=>by simp only [sameL,sameL_self as,Bool.and_true];exact Nat.beq_refl a
noncomputable def sE (a b:Str):Bool:=sameL a.cps.toList b.cps.toList
theorem sE_eq {a b:Str} (h:sE a b=true):a=b:=by
 obtain ⟨⟨a⟩⟩:=a;obtain ⟨⟨b⟩⟩:=b
 have:=sameL_eq h
 simp only at this
 rw [this]
theorem sE_iff {a b:Str}:sE a b=true↔a=b:=⟨sE_eq,fun h=>by subst h;exact sameL_self _⟩
theorem sE_beq (a b:Str):(a==b)=sE a b:=by
 rw [Bool.eq_iff_iff,beq_iff_eq,sE_iff]
noncomputable def lk:List (Str×NameKind)→Str→Option NameKind
 | [],_=>none
 | (n,k)::r,x=>match sE x n with | true=>some k | false=>lk r x
theorem lk_eq:∀(l:List (Str×NameKind)) (x:Str),l.lookup x=lk l x
 | [],_=>rfl
 | (n,k)::r,x=>by rw [List.lookup_cons,lk,sE_beq,lk_eq r x];cases sE x n<;>rfl
noncomputable def kE:Option NameKind→NameKind→Bool
 | some .local,.local=>true
 | some .cell,.cell=>true
 | some .free,.free=>true
 | some .globalImplicit,.globalImplicit=>true
 | _,_=>false
theorem kE_eq {o:Option NameKind} {k:NameKind} (h:kE o k=true):o=some k:=by
 cases o with
 | none=>cases h
 | some j=>cases j<;>cases k<;>first | rfl | cases h
noncomputable def kindIs (sc:Scope) (x:Str) (k:NameKind):Bool:=kE (lk sc.names x) k
theorem kindIs_eq {sc:Scope} {x:Str} {k:NameKind} (h:kindIs sc x k=true):sc.names.lookup x=some k:=by rw [lk_eq];exact kE_eq h
noncomputable def allP {α:Type} (f:α→Bool):List α→Bool
 | []=>true
 | a::r=>f a&&allP f r
theorem allP_iff {α:Type} {f:α→Bool}:∀ {l:List α},allP f l=true→∀ x∈l,f x=true
 | a::r,h,x,hx=>by
  simp only [allP,Bool.and_eq_true] at h
  rcases List.mem_cons.mp hx with rfl | hx
  ·exact h.1
  ·exact allP_iff h.2 x hx
noncomputable def inNames (x:Str):List (Str×Nm)→Bool
 | []=>false
 | (y,_)::r=>sE x y||inNames x r
theorem inNames_nm {x:Str}:∀ {l:List (Str×Nm)},inNames x l=true→∃ p∈l,x=p.1
 | (y,n)::r,h=>by
  simp only [inNames,Bool.or_eq_true] at h
  rcases h with h | h
  ·exact⟨_,List.mem_cons_self ..,sE_eq h⟩
  ·refine e1a2 (inNames_nm h) fun p hp e=>?_
   exact⟨p,List.mem_cons_of_mem _ hp,e⟩
theorem nmTab_str:nmTab.map (fun uu=>uu.1)=nmTab.map fun p=>nstr p.2:=by kernel_rfl
theorem inNames_ok {x:Str} (h:inNames x nmTab=true):∃ n:Nm,x=nstr n:=by
 refine e1a2 (inNames_nm h) fun p hp e=>?_
 exact⟨p.2,e.trans (of_map_eq nmTab_str p hp)⟩
noncomputable def compCk (outer scope:Scope) (x:Nm):Bool:=
 (match scope.kind with | .function=>true | _=>false)&&
 allP (fun y=>match y.2 with
  | .cell=>false
  | .local=>kindIs scope y.1 .local&&(sE y.1 (nstr x)|| !inNames y.1 nmTab)
  | .free=>inNames y.1 nmTab&&kindIs outer y.1 .cell
  | _=>true) scope.names&&kindIs scope (nstr x) .local
theorem nmTab_mem (n:Nm):inNames (nstr n) nmTab=true:=by
 have:=nmTab_ok n
 have h:∀ {l:List (Str×Nm)} {k:Str},l.lookup k=some n→inNames k l=true:=by
  intro l
  induction l with
  | nil=>intro k h;cases h
  | cons p l ih=>
   intro k h
   obtain ⟨a,b⟩:=p
   simp only [List.lookup_cons] at h
   simp only [inNames,Bool.or_eq_true]
   split at h
   ·rename_i q;exact .inl (sE_iff.mpr (by simpa using q))
   ·exact .inr (ih h)
 exact h this
theorem compCk_ok {outer scope:Scope} {x:Nm} (h:compCk outer scope x=true):CompOK outer scope x:=by
 refine an2 ((Bool.and_eq_true _ _).mp h) fun h h4=>?_
 refine an2 ((Bool.and_eq_true _ _).mp h) fun h2 h3=>?_
 have all:=allP_iff h3
 refine ⟨fun y hy e=>?_,?_,fun y hy e=>?_,kindIs_eq h4,fun n e=>?_,fun y hy e=>?_⟩
 ·have:=all y hy;rw [e] at this;cases this
 ·cases q:scope.kind<;>first | rfl | (rw [q] at h2;cases h2)
 ·have:=all y hy;rw [e] at this
  exact kindIs_eq ((Bool.and_eq_true _ _).mp this).1
 ·rcases (Bool.or_eq_true _ _).mp ((Bool.and_eq_true _ _).mp (all _ (mem_of_lookup_some e))).2 with q | q
  ·exact nstr_inj (sE_eq q)
  ·rw [nmTab_mem] at q;cases q
 ·have:=all y hy;rw [e] at this
  refine an2 ((Bool.and_eq_true _ _).mp this) fun a b=>?_
  exact⟨inNames_ok a,kindIs_eq b⟩
noncomputable def relabelS (scope outer:Scope):Scope:=
 {scope with names:=scope.names.map fun(n,k)=>if (k== .free&&outer.kind== .function&&outer.names.lookup n==some .cell) then (n,.cell) else (n,k)}
theorem relabelS_eq (scope:Scope) (env:Env):relabel scope env=relabelS scope env.scope:=rfl
noncomputable def ckLam (k:Lm) (outer:Scope) (args:Arguments) (body:Expr) (sc:Scope):Bool:=
 (match args.defaults with | []=>true | _=>false)&&(match args.kw_defaults with | []=>true | _=>false)&&
 allP (fun y=>match y.2 with | .free=>inNames y.1 nmTab&&kindIs outer y.1 .cell | _=>true) sc.names&&
 allP (fun n=>isCap n&&kindIs outer (nstr n) .cell&&kindIs sc (nstr n) .free) (lamFree k)
theorem ckLam_ok {k:Lm} {outer:Scope} {args:Arguments} {body:Expr} {sc:Scope} {pos:Pos} (ha:lamAt k=.Lambda args body sc pos) (h:ckLam k outer args body sc=true):LamCk k outer args body sc pos:=by
 unfold ckLam at h
 simp only [Bool.and_eq_true] at h
 obtain ⟨⟨⟨h1,h2⟩,h3⟩,h4⟩:=h
 refine ⟨ha,?_,?_,fun y hy e=>?_,fun n hn=>?_⟩
 ·split at h1
  ·assumption
  ·cases h1
 ·split at h2
  ·assumption
  ·cases h2
 ·have:=allP_iff h3 y hy;rw [e] at this
  simp only [Bool.and_eq_true] at this
  exact⟨inNames_ok this.1,kindIs_eq this.2⟩
 ·have:=allP_iff h4 n hn
  simp only [Bool.and_eq_true] at this
  exact⟨this.1.1,kindIs_eq this.1.2,mem_of_lookup_some (kindIs_eq this.2)⟩
noncomputable def glIn (g:Gl):List Gl→Bool
 | []=>false
 | a::r=>decide (a=g)||glIn g r
theorem glIn_mem {g:Gl}:∀ {l:List Gl},glIn g l=true→g∈l
 | a::r,h=>by
  simp only [glIn,Bool.or_eq_true,decide_eq_true_eq] at h
  rcases h with rfl | h
  ·exact List.mem_cons_self ..
  ·exact List.mem_cons_of_mem _ (glIn_mem h)
noncomputable def shortL {α:Type}:List α→Nat→Bool
 | [],_=>true
 | _::_,0=>false
 | _::r,n + 1=>shortL r n
theorem shortL_len {α:Type}:∀ {l:List α} {n:Nat},shortL l n=true→l.length≤n
 | [],_,_=>Nat.zero_le _
 | _::_,0,h=>by cases h
 | _::r,n + 1,h=>Nat.succ_le_succ (shortL_len (l:=r) h)
noncomputable def hd:List Expr→Expr | e::_=>e | []=>.Name "" ⟨0,0,0,0⟩
structure GP where
 g1:Expr
 g2:Expr
 g3:Expr
 l:List Expr
 ks:List (Option Expr)
 k:Nat
 sc:Scope
 co:Comprehension
 lo:Option Expr
 hi:Option Expr
 ar:Arguments
noncomputable def gE (e a b c:Expr):GP:=⟨a,b,c,[],[],0,default,⟨e,e,[],0⟩,none,none,⟨[],[],none,[],[],none,[]⟩⟩
noncomputable def gp (e:Expr):GP:=match e with
 | .BinOp a _ b _=>gE e a b e
 | .UnaryOp _ a _=>gE e a e e
 | .IfExp a b c _=>gE e a b c
 | .ListComp a cs s _=>{gE e a e e with sc:=s,co:=cs.headD ⟨e,e,[],0⟩}
 | .Compare a _ l _=>gE e a (hd l) e
 | .Call a l _ _=>{gE e a e e with l:=l}
 | .Attribute a _ _=>gE e a e e
 | .Subscript a b _=>gE e a b e
 | .Lambda ar a s _=>{gE e a e e with sc:=s,ar:=ar}
 | .BoolOp _ l _=>{gE e e e e with l:=l}
 | .List l _=>{gE e e e e with l:=l}
 | .Tuple l k _=>{gE e e e e with l:=l,k:=k}
 | .Dict ks l _=>{gE e e e e with l:=l,ks:=ks}
 | .Constant _ k _=>{gE e e e e with k:=k}
 | .Slice a b _ _=>{gE e e e e with lo:=a,hi:=b}
 | _=>gE e e e e
noncomputable def g1 (e:Expr):Expr:=(gp e).g1
noncomputable def g2 (e:Expr):Expr:=(gp e).g2
noncomputable def g3 (e:Expr):Expr:=(gp e).g3
noncomputable def gl (e:Expr):List Expr:=(gp e).l
noncomputable def gks (e:Expr):List (Option Expr):=(gp e).ks
noncomputable def gk (e:Expr):Nat:=(gp e).k
noncomputable def gsc (e:Expr):Scope:=(gp e).sc
noncomputable def gc (e:Expr):Comprehension:=(gp e).co
noncomputable def glo (e:Expr):Option Expr:=(gp e).lo
noncomputable def ghi (e:Expr):Option Expr:=(gp e).hi
noncomputable def gar (e:Expr):Arguments:=(gp e).ar
noncomputable def oe (o:Option Expr):Expr:=match o with | some e=>e | none=>hd []
theorem lamAt_eq (k:Lm):lamAt k=.Lambda (gar (lamAt k)) (g1 (lamAt k)) (gsc (lamAt k)) (lamAt k).pos:=by cases k<;>kernel_rfl
noncomputable def litC:V→Const | .bool b=>.bool b | .int i=>.int i | .str s=>.str (sstr s) | .bytes b=>.bytes b | _=>.none
noncomputable def litB:V→Bool | .none=>true | .bool _=>true | .int _=>true | .str _=>true | .bytes _=>true | _=>false
noncomputable def noSlB (e:Expr):Bool:=match e with | .Slice _ _ _ _=>false | _=>true
mutual
noncomputable def eX:X→Expr→Expr
 | .junk,e=>e
 | .lit v,e=>.Constant (litC v) (gk e) e.pos
 | .loc n,e=>.Name (nstr n) e.pos
 | .glob g,e=>.Name (gname g) e.pos
 | .attr x n,e=>.Attribute (eX x (g1 e)) (nstr n) e.pos
 | .call f xs,e=>.Call (eX f (g1 e)) (eXs xs (gl e)) [] e.pos
 | .meth x n xs,e=>.Call (.Attribute (eX x (g1 (g1 e))) (nstr n) (g1 e).pos) (eXs xs (gl e)) [] e.pos
 | .bin op a b,e=>.BinOp (eX a (g1 e)) (opOf op) (eX b (g2 e)) e.pos
 | .cmp op a b,e=>.Compare (eX a (g1 e)) [cmpOf op] [eX b (g2 e)] e.pos
 | .and_ xs,e=>.BoolOp .And (eXs xs (gl e)) e.pos
 | .or_ xs,e=>.BoolOp .Or (eXs xs (gl e)) e.pos
 | .not_ x,e=>.UnaryOp .Not (eX x (g1 e)) e.pos
 | .neg x,e=>.UnaryOp .USub (eX x (g1 e)) e.pos
 | .ite_ c a b,e=>.IfExp (eX c (g1 e)) (eX a (g2 e)) (eX b (g3 e)) e.pos
 | .sub a i,e=>.Subscript (eX a (g1 e)) (eX i (g2 e)) e.pos
 | .slice _ a lo hi,e=>.Subscript (eX a (g1 e)) (.Slice (eO lo (glo (g2 e))) (eO hi (ghi (g2 e))) none (g2 e).pos) e.pos
 | .list _ xs,e=>.List (eXs xs (gl e)) e.pos
 | .tup xs,e=>.Tuple (eXs xs (gl e)) (gk e) e.pos
 | .dict _ kvs,e=>.Dict (eKs kvs (gks e)) (eVs kvs (gl e)) e.pos
 | .comp elt x it cond,e=>.ListComp (eX elt (g1 e)) [⟨.Name (nstr x) (gc e).target.pos,eX it (gc e).iter,eC cond (gc e).ifs,0⟩] (gsc e) e.pos
 | .lam k,_=>.Lambda (gar (lamAt k)) (g1 (lamAt k)) (gsc (lamAt k)) (lamAt k).pos
 | .frz x,e=>eX x e
noncomputable def eXs:List X→List Expr→List Expr
 | [],_=>[]
 | x::xs,es=>eX x (hd es)::eXs xs es.tail
noncomputable def eO:Option X→Option Expr→Option Expr
 | .none,_=>none
 | some x,o=>some (eX x (oe o))
noncomputable def eC:Option X→List Expr→List Expr
 | .none,_=>[]
 | some x,es=>[eX x (hd es)]
noncomputable def eKs:List (X×X)→List (Option Expr)→List (Option Expr)
 | [],_=>[]
 | (k,_)::r,es=>some (eX k (oe (es.headD none)))::eKs r es.tail
noncomputable def eVs:List (X×X)→List Expr→List Expr
 | [],_=>[]
 | (_,x)::r,es=>eX x (hd es)::eVs r es.tail
end
mutual
noncomputable def kX (lam:Bool):X→Scope→Expr→Bool
 | .junk,_,e=>notStar e
 | .lit v,_,_=>litB v
 | .loc n,sc,_=>kindIs sc (nstr n) .local||kindIs sc (nstr n) .cell||kindIs sc (nstr n) .free
 | .glob g,sc,_=>(glIn g glFn||glIn g glBi||glIn g (coT.map (fun uu=>uu.1))||glIn g (coI.map (fun uu=>uu.1))||decide (g=(.G .x1)))&&kindIs sc (gname g) .globalImplicit
 | .attr x _,sc,e=>plainBase (eX x (g1 e))&&kX lam x sc (g1 e)
 | .call f xs,sc,e=>notAttr (eX f (g1 e))&&kX lam f sc (g1 e)&&kXs lam xs sc (gl e)
 | .meth x _ xs,sc,e=>plainBase (eX x (g1 (g1 e)))&&shortL (eXs xs (gl e)) 20&&Nat.beq (g1 e).pos.endLine e.pos.line&&kX lam x sc (g1 (g1 e))&&kXs lam xs sc (gl e)
 | .bin _ a b,sc,e=>kX lam a sc (g1 e)&&kX lam b sc (g2 e)
 | .cmp op a b,sc,e=> !behindInMarks (cmpOf op) (eX b (g2 e))&&kX lam a sc (g1 e)&&kX lam b sc (g2 e)
 | .and_ xs,sc,e=>kXs lam xs sc (gl e)
 | .or_ xs,sc,e=>kXs lam xs sc (gl e)
 | .not_ x,sc,e=>kX lam x sc (g1 e)
 | .neg x,sc,e=>kX lam x sc (g1 e)
 | .ite_ c a b,sc,e=>kX lam c sc (g1 e)&&kX lam a sc (g2 e)&&kX lam b sc (g3 e)
 | .sub a i,sc,e=>noSlB (eX i (g2 e))&&kX lam a sc (g1 e)&&kX lam i sc (g2 e)
 | .slice _ a lo hi,sc,e=>kX lam a sc (g1 e)&&kO lam lo sc (glo (g2 e))&&kO lam hi sc (ghi (g2 e))
 | .list _ xs,sc,e=>shortL xs 1000&&kXs lam xs sc (gl e)
 | .tup xs,sc,e=>shortL xs 1000&&kXs lam xs sc (gl e)
 | .dict _ kvs,sc,e=>shortL kvs 15&&kKV lam kvs sc (gks e) (gl e)
 | .comp elt x it cond,sc,e=>compCk sc (gsc e) x&&notSet (eX it (gc e).iter)&&kX lam it sc (gc e).iter&&kX false elt (relabelS (gsc e) sc) (g1 e)&&kC cond (relabelS (gsc e) sc) (gc e).ifs
 | .lam k,sc,_=>lam&&ckLam k sc (gar (lamAt k)) (g1 (lamAt k)) (gsc (lamAt k))
 | .frz x,sc,e=>plainTest (eX x e)&&kX lam x sc e
noncomputable def kXs (lam:Bool):List X→Scope→List Expr→Bool
 | [],_,_=>true
 | x::xs,sc,es=>notStar (eX x (hd es))&&kX lam x sc (hd es)&&kXs lam xs sc es.tail
noncomputable def kO (lam:Bool):Option X→Scope→Option Expr→Bool
 | .none,_,_=>true
 | some x,sc,o=>kX lam x sc (oe o)
noncomputable def kC:Option X→Scope→List Expr→Bool
 | .none,_,_=>true
 | some x,sc,es=>kX false x sc (hd es)
noncomputable def kKV (lam:Bool):List (X×X)→Scope→List (Option Expr)→List Expr→Bool
 | [],_,_,_=>true
 | (k,x)::r,sc,ks,vs=>kX lam k sc (oe (ks.headD none))&&kX lam x sc (hd vs)&&kKV lam r sc ks.tail vs.tail
end
end E
end Mine
end
section
namespace Mine
namespace E
open PySem PySem.W PyProof.Rows
theorem a2 {a b:Bool} (h:(a&&b)=true):a=true∧b=true:=(Bool.and_eq_true _ _).mp h
structure Sc (lam:Bool) (sc:Scope) (env:Env):Prop where
 sc:env.scope=sc
 code:lam=true→env.code=.ref lawCode
section
variable {C:Cx} {call:Call}
mutual
theorem kX_ok (CO:CallOK C call):∀(x:E.X) {lam:Bool} {sc:Scope} {e:Expr} {env:Env},kX lam x sc e=true→Sc lam sc env→XT C env call x (eX x e)
 | .junk,lam,sc,e,env,h,hs=>junkX h
 | .lit v,lam,sc,e,env,h,hs=>litX (by cases v<;>first | exact rfl | cases h)
 | .loc x,lam,sc,e,env,h,hs=>by
  obtain ⟨rfl,hl⟩:=hs
  refine locX ?_
  rcases (Bool.or_eq_true _ _).mp h with h | h
  ·exact((Bool.or_eq_true _ _).mp h).imp kindIs_eq fun h=>.inl (kindIs_eq h)
  ·exact .inr (.inr (kindIs_eq h))
 | .glob g,lam,sc,e,env,h,hs=>by
  obtain ⟨rfl,hl⟩:=hs
  refine an2 (a2 h) fun h hk=>?_
  refine globX ?_ (kindIs_eq hk)
  rcases (Bool.or_eq_true _ _).mp h with h | h
  ·rcases (Bool.or_eq_true _ _).mp h with h | h
   ·rcases (Bool.or_eq_true _ _).mp h with h | h
    ·exact((Bool.or_eq_true _ _).mp h).imp glIn_mem fun h=>.inl (glIn_mem h)
    ·exact .inr (.inr (.inl (glIn_mem h)))
   ·exact .inr (.inr (.inr (.inl (glIn_mem h))))
  ·exact .inr (.inr (.inr (.inr (of_decide_eq_true h))))
 | .attr x m,lam,sc,e,env,h,hs=>let ⟨h1,h2⟩:=a2 h;attrX h1 (kX_ok CO x h2 hs)
 | .call f xs,lam,sc,e,env,h,hs=>let ⟨h,h3⟩:=a2 h;let ⟨h1,h2⟩:=a2 h;callX CO bOk h1 (kX_ok CO f h2 hs) ((kXs_ok CO xs h3 hs).imp fun uu uu z=>z.toXE)
 | .meth x m xs,lam,sc,e,env,h,hs=>let ⟨h,h5⟩:=a2 h;let ⟨h,h4⟩:=a2 h;let ⟨h,h3⟩:=a2 h;let ⟨h1,h2⟩:=a2 h
  methX CO h1 (Nat.lt_of_le_of_lt (shortL_len h2) (by decide)) (by rw [Nat.eq_of_beq_eq_true h3];exact beq_self_eq_true _) (kX_ok CO x h4 hs) ((kXs_ok CO xs h5 hs).imp fun uu uu z=>z.toXE)
 | .bin op a b,lam,sc,e,env,h,hs=>let ⟨h1,h2⟩:=a2 h;binX (kX_ok CO a h1 hs) (kX_ok CO b h2 hs)
 | .cmp op a b,lam,sc,e,env,h,hs=>let ⟨h,h3⟩:=a2 h;let ⟨h1,h2⟩:=a2 h;cmpX ((Bool.not_eq_true' _).mp h1) (kX_ok CO a h2 hs) (kX_ok CO b h3 hs)
 | .and_ xs,lam,sc,e,env,h,hs=>andX (kXs_ok CO xs h hs)
 | .or_ xs,lam,sc,e,env,h,hs=>orX (kXs_ok CO xs h hs)
 | .not_ x,lam,sc,e,env,h,hs=>notX (kX_ok CO x h hs)
 | .neg x,lam,sc,e,env,h,hs=>negX (kX_ok CO x h hs)
 | .ite_ c a b,lam,sc,e,env,h,hs=>let ⟨h,h3⟩:=a2 h;let ⟨h1,h2⟩:=a2 h;iteX (kX_ok CO c h1 hs) (kX_ok CO a h2 hs) (kX_ok CO b h3 hs)
 | .sub a i,lam,sc,e,env,h,hs=>let ⟨h,h3⟩:=a2 h;let ⟨h1,h2⟩:=a2 h;subX h1 (kX_ok CO a h2 hs) (kX_ok CO i h3 hs)
 | .slice m a lo hi,lam,sc,e,env,h,hs=>let ⟨h,h3⟩:=a2 h;let ⟨h1,h2⟩:=a2 h;sliceX (kX_ok CO a h1 hs) (kO_ok CO lo h2 hs) (kO_ok CO hi h3 hs)
 | .list m xs,lam,sc,e,env,h,hs=>let ⟨h1,h2⟩:=a2 h;listX (shortL_len h1) ((kXs_ok CO xs h2 hs).imp fun uu uu z=>z.toXE)
 | .tup xs,lam,sc,e,env,h,hs=>let ⟨h1,h2⟩:=a2 h;tupX (shortL_len h1) ((kXs_ok CO xs h2 hs).imp fun uu uu z=>z.toXE)
 | .dict m kvs,lam,sc,e,env,h,hs=>let ⟨h1,h2⟩:=a2 h;dictX (shortL_len h1) (kKV_ok CO kvs h2 hs)
 | .comp elt x it cond,lam,sc,e,env,h,hs=>by
  obtain ⟨rfl,hl⟩:=hs
  refine an2 (a2 h) fun h h5=>?_
  refine an2 (a2 h) fun h h4=>?_
  refine an2 (a2 h) fun h h3=>?_
  refine an2 (a2 h) fun h1 h2=>?_
  exact compX ⟨compCk_ok h1,h2,kX_ok CO it h3 ⟨rfl,hl⟩,fun cl c=>kX_ok CO elt h4 ⟨relabelS_eq _ env,nofun⟩,fun cl c=>kC_ok CO cond h5 (relabelS_eq _ env)⟩
 | .lam k,lam,sc,e,env,h,hs=>by
  obtain ⟨rfl,hl⟩:=hs
  refine an2 (a2 h) fun h1 h2=>?_
  exact lamX (ckLam_ok (lamAt_eq k) h2) (hl h1)
 | .frz x,lam,sc,e,env,h,hs=>let ⟨h1,h2⟩:=a2 h;frzX h1 (kX_ok CO x h2 hs)
theorem kXs_ok (CO:CallOK C call):∀(xs:List E.X) {lam:Bool} {sc:Scope} {es:List Expr} {env:Env},kXs lam xs sc es=true→Sc lam sc env→F2 (XT C env call) xs (eXs xs es)
 | [],lam,sc,es,env,h,hs=>.nil
 | x::xs,lam,sc,es,env,h,hs=>let ⟨h,h3⟩:=a2 h;let ⟨h1,h2⟩:=a2 h; .cons (kX_ok CO x h2 hs) (kXs_ok CO xs h3 hs)
theorem kO_ok (CO:CallOK C call):∀(x:Option E.X) {lam:Bool} {sc:Scope} {e:Option Expr} {env:Env},kO lam x sc e=true→Sc lam sc env→OE C env call x (eO x e)
 | .none,lam,sc,e,env,h,hs=>.no
 | some x,lam,sc,e,env,h,hs=>.at (kX_ok CO x h hs)
theorem kC_ok (CO:CallOK C call):∀(x:Option E.X) {sc:Scope} {es:List Expr} {env:Env},kC x sc es=true→env.scope=sc→CondOK C env call x (eC x es)
 | .none,sc,es,env,h,hs=>.no
 | some x,sc,es,env,h,hs=>.one (kX_ok CO x h ⟨hs,nofun⟩)
theorem kKV_ok (CO:CallOK C call):∀(kvs:List (E.X×E.X)) {lam:Bool} {sc:Scope} {ks:List (Option Expr)} {vs:List Expr} {env:Env},kKV lam kvs sc ks vs=true→Sc lam sc env→KVE C env call kvs (eKs kvs ks) (eVs kvs vs)
 | [],lam,sc,ks,vs,env,h,hs=>.nil
 | (k,x)::r,lam,sc,ks,vs,env,h,hs=>let ⟨h,h3⟩:=a2 h;let ⟨h1,h2⟩:=a2 h; .cons (kX_ok CO k h1 hs) (kX_ok CO x h2 hs) (kKV_ok CO r h3 hs)
end
end
end E
end Mine
end
section
namespace Mine
namespace E
open PySem PySem.W PyProof.Rows
noncomputable def nmCk (sc:Scope) (n:Nm):Bool:=(kindIs sc (nstr n) .local||kindIs sc (nstr n) .cell)&&(match n with | (.H .xb)=>false | _=>true)
theorem nmCk_ok {env:Env} {n:Nm} (h:nmCk env.scope n=true):nmOk env n:=by
 refine an2 (a2 h) fun h h2=>?_
 exact⟨((Bool.or_eq_true _ _).mp h).imp kindIs_eq kindIs_eq,fun e=>by subst e;cases h2⟩
noncomputable def notComp:Expr→Bool
 | .ListComp _ _ _ _=>false | .SetComp _ _ _ _=>false | .DictComp _ _ _ _ _=>false
 | _=>true
theorem notComp_ok {te value:Expr} {line:Nat} {env:Env} (h:notComp value=true):swapsWithSole [te] value line env=pure false:=by
 show swapsWith value (some te) line env=pure false
 cases value<;>first | rfl | cases h
noncomputable def four {α:Type}:List α→Bool
 | _::_::_::_::_=>true
 | _=>false
noncomputable def isTupE:Expr→Bool | .Tuple _ _ _=>true | _=>false
noncomputable def swapNone (te v:Expr):Bool:=match te with
 | .Tuple ts _ _=>four ts|| !isTupE v
 | .List _ _=> !isTupE v
 | _=>true
theorem swapNone_ok {te value:Expr} {env:Env} (h:swapNone te value=true):swappedStores [te] value env=pure none:=by
 cases te with
 | Tuple ts k p=>
  cases value with
  | Tuple vs k' p'=>
   match ts,h with
   | _::_::_::_::_,_=>rfl
  | _=>rfl
 | List ts p=>
  cases value with
  | Tuple vs k' p'=>cases h
  | _=>rfl
 | _=>rfl
noncomputable def swapTwo (sc:Scope) (a b:Nm) (p q:Pos):Bool:=(match sc.kind with | .function=>true | _=>false)&&kindIs sc (nstr a) .local&&kindIs sc (nstr b) .local&&Nat.beq q.line p.line&& !sE (nstr a) (nstr b)
noncomputable def swF (bk:ScopeKind) (x y:Option Str) (d:List Str):Sem (Option (List Str)):=
 if (!((2:Nat)==2||(2:Nat)==3)||(2:Nat) !=2||bk != .function)=true then pure none else
  if (([x,y].filterMap id).length !=2||d.length !=([x,y].filterMap id).length)=true then pure none else pure (some ([x,y].filterMap id))
theorem swapTwo_ok {env:Env} {a b:Nm} {p q p' p'' p₁ p₂:Pos} {k k' k₂:Nat} {es:List Expr} {c:Const} (h:swapTwo env.scope a b p q=true):swappedStores [.Tuple [.Name (nstr a) p,.Name (nstr b) q] k p'] (.Tuple [.List es p₁,.Constant c k₂ p₂] k' p'') env=pure (some ([a,b].map nstr)):=by
 refine an2 (a2 h) fun h h5=>?_
 refine an2 (a2 h) fun h h4=>?_
 refine an2 (a2 h) fun h h3=>?_
 refine an2 (a2 h) fun h1 h2=>?_
 have k1:(env.kindOf (nstr a)==some .local&&p.line==p.line)=true:=by rw [show env.kindOf (nstr a)=some .local from kindIs_eq h2,beq_self_eq_true p.line];rfl
 have k2:(env.kindOf (nstr b)==some .local&&q.line==p.line)=true:=by rw [show env.kindOf (nstr b)=some .local from kindIs_eq h3,Nat.eq_of_beq_eq_true h4,beq_self_eq_true p.line];rfl
 have hb:env.blockKind=.function:=by unfold Env.blockKind;cases q:env.scope.kind<;>first | rfl | (rw [q] at h1;cases h1)
 have e1:(nstr b==nstr a)=false:=beq_false_of_ne fun e=>by rw [sE_iff.mpr e.symm] at h5;cases h5
 have e2: [nstr a,nstr b].eraseDups=[nstr a,nstr b]:=by simp [List.eraseDups_cons,e1]
 show swF env.blockKind (if (env.kindOf (nstr a)==some .local&&p.line==p.line)=true then some (nstr a) else none) (if (env.kindOf (nstr b)==some .local&&q.line==p.line)=true then some (nstr b) else none) (List.eraseDups ([if (env.kindOf (nstr a)==some .local&&p.line==p.line)=true then some (nstr a) else none,if (env.kindOf (nstr b)==some .local&&q.line==p.line)=true then some (nstr b) else none].filterMap id))=_
 rw [if_pos k1,if_pos k2,hb,show [some (nstr a),some (nstr b)].filterMap id=[nstr a,nstr b] from rfl,e2]
 rfl
structure SP where
 x:Expr
 tg:Expr
 r:Option Expr
 b:List Stmt
 e:List Stmt
noncomputable def sp (s:Stmt):SP:=match s with
 | .Expr e _=>⟨e,hd [],none,[],[]⟩
 | .Assign l v _=>⟨v,hd l,none,[],[]⟩
 | .If c b e _=>⟨c,hd [],none,b,e⟩
 | .While c b _ _=>⟨c,hd [],none,b,[]⟩
 | .For t i b _ _=>⟨i,t,none,b,[]⟩
 | .Return o _=>⟨hd [],hd [],o,[],[]⟩
 | _=>⟨hd [],hd [],none,[],[]⟩
noncomputable def sx (s:Stmt):Expr:=(sp s).x
noncomputable def stg (s:Stmt):Expr:=(sp s).tg
noncomputable def sr (s:Stmt):Option Expr:=(sp s).r
noncomputable def sb (s:Stmt):List Stmt:=(sp s).b
noncomputable def se (s:Stmt):List Stmt:=(sp s).e
noncomputable def hs:List Stmt→Stmt | s::_=>s | []=>.Pass ⟨0,0,0,0⟩
mutual
noncomputable def eT:T→Expr→Expr
 | .nm n,e=>.Name (nstr n) e.pos
 | .me n,e=>.Attribute (.Name (nstr (.H .xb)) (g1 e).pos) (nstr n) e.pos
 | .attr x n,e=>.Attribute (eX x (g1 e)) (nstr n) e.pos
 | .sub x i,e=>.Subscript (eX x (g1 e)) (eX i (g2 e)) e.pos
 | .tup ts,e=>.Tuple (eTs ts (gl e)) (gk e) e.pos
noncomputable def eTs:List T→List Expr→List Expr
 | [],_=>[]
 | t::ts,es=>eT t (hd es)::eTs ts es.tail
end
mutual
noncomputable def kT (lam:Bool):T→Scope→Expr→Bool
 | .nm n,sc,_=>nmCk sc n
 | .me _,_,_=>true
 | .attr x _,sc,e=>kX lam x sc (g1 e)
 | .sub x i,sc,e=>kX lam x sc (g1 e)&&kX lam i sc (g2 e)
 | .tup ts,sc,e=>kTs lam ts sc (gl e)
noncomputable def kTs (lam:Bool):List T→Scope→List Expr→Bool
 | [],_,_=>true
 | t::ts,sc,es=>notStar (eT t (hd es))&&kT lam t sc (hd es)&&kTs lam ts sc es.tail
end
noncomputable def kAsg (lam:Bool) (t:T) (x:X) (sc:Scope) (te v:Expr):Bool:=notStar (eT t te)&&notComp (eX x v)&&swapNone (eT t te) (eX x v)&&kT lam t sc te&&kX lam x sc v
noncomputable def kComp (lam:Bool) (y:Nm) (elt:X) (z:Nm) (it:X) (cond:Option X) (sc:Scope) (v:Expr):Bool:=
 nmCk sc y&&compCk sc (gsc v) z&&notSet (eX it (gc v).iter)&&kX lam it sc (gc v).iter&&kX false elt (relabelS (gsc v) sc) (g1 v)&&kC cond (relabelS (gsc v) sc) (gc v).ifs
noncomputable def kSwap (lam:Bool) (a b:Nm) (m:Bool) (xs:List X) (c:V) (sc:Scope) (te v:Expr):Bool:=
 swapTwo sc a b (hd (gl te)).pos (hd (gl te).tail).pos&&kX lam (.tup [.list m xs,.lit c]) sc v&&nmCk sc a&&nmCk sc b
noncomputable def ghostOf:S→Option Nm
 | .ghost n=>some n
 | _=>none
theorem ghostOf_eq {s:S} {n:Nm} (h:ghostOf s=some n):s=.ghost n:=by
 cases s<;>first | (cases h;rfl) | cases h
theorem no_some {α:Type} {a:α} {G:Prop} (h:none=some a):G:=nomatch h
mutual
noncomputable def eS:S→Stmt→Stmt
 | .junk,s=>s
 | .pass,s=>.Pass s.pos
 | .ghost _,s=>s
 | .expr x,s=>.Expr (eX x (sx s)) s.pos
 | .ret o,s=>.Return (eO o (sr s)) s.pos
 | .asg t x,s=>.Assign [eT t (stg s)] (eX x (sx s)) s.pos
 | .asc y elt z it cond,s=>.Assign [.Name (nstr y) (stg s).pos] (eX (.comp elt z it cond) (sx s)) s.pos
 | .swp a b m xs c,s=>.Assign [.Tuple [.Name (nstr a) (hd (gl (stg s))).pos,.Name (nstr b) (hd (gl (stg s)).tail).pos] (gk (stg s)) (stg s).pos] (eX (.tup [.list m xs,.lit c]) (sx s)) s.pos
 | .ife c a b,s=>.If (eX c (sx s)) (eSs a (sb s)) (eSs b (se s)) s.pos
 | .fr t it body,s=>.For (eT t (stg s)) (eX it (sx s)) (eSs body (sb s)) [] s.pos
 | .whl c body,s=>.While (eX c (sx s)) (eSs body (sb s)) [] s.pos
noncomputable def eSs:List S→List Stmt→List Stmt
 | [],_=>[]
 | s::r,sts=>match ghostOf s with
  | some _=>eSs r sts
  | none=>eS s (hs sts)::eSs r sts.tail
end
mutual
noncomputable def kS (lam:Bool):S→Scope→Stmt→Bool
 | .junk,_,_=>true
 | .pass,_,_=>true
 | .ghost _,_,_=>false
 | .expr x,sc,s=>isCall (eX x (sx s))&&kX lam x sc (sx s)
 | .ret o,sc,s=>kO lam o sc (sr s)
 | .asg t x,sc,s=>kAsg lam t x sc (stg s) (sx s)
 | .asc y elt z it cond,sc,s=>kComp lam y elt z it cond sc (sx s)
 | .swp a b m xs c,sc,s=>kSwap lam a b m xs c sc (stg s) (sx s)
 | .ife c a b,sc,s=>kX lam c sc (sx s)&&kSs lam a sc (sb s)&&kSs lam b sc (se s)
 | .fr t it body,sc,s=>notSet (eX it (sx s))&&kX lam it sc (sx s)&&(match t with | .nm n=>nmCk sc n&&kSs lam body sc (sb s) | _=>true)
 | .whl c body,sc,s=>kX lam c sc (sx s)&&kSs lam body sc (sb s)
noncomputable def kSs (lam:Bool):List S→Scope→List Stmt→Bool
 | [],_,_=>true
 | s::r,sc,sts=>match ghostOf s with
  | some n=>nmCk sc n&&kSs lam r sc sts
  | none=>kS lam s sc (hs sts)&&kSs lam r sc sts.tail
end
section
variable {C:Cx} {call:Call}
mutual
theorem kT_ok (CO:CallOK C call):∀(t:T) {lam:Bool} {sc:Scope} {e:Expr} {env:Env},kT lam t sc e=true→Sc lam sc env→TgOk C env (assign (eT t e) env) fun v fr σ K=>asgTC wid call t v fr σ K
 | .nm x,lam,sc,e,env,h,hs=>tgName (nmCk_ok (hs.sc▸h))
 | .me x,lam,sc,e,env,h,hs=>tgMe
 | .attr x m,lam,sc,e,env,h,hs=>tgAttr (kX_ok CO x h hs)
 | .sub x i,lam,sc,e,env,h,hs=>let ⟨h1,h2⟩:=a2 h;tgSub (kX_ok CO x h1 hs) (kX_ok CO i h2 hs)
 | .tup ts,lam,sc,e,env,h,hs=>tgTup (kTs_ok CO ts h hs)
theorem kTs_ok (CO:CallOK C call):∀(ts:List T) {lam:Bool} {sc:Scope} {es:List Expr} {env:Env},kTs lam ts sc es=true→Sc lam sc env→TEs C env call ts (eTs ts es)
 | [],lam,sc,es,env,h,hs=>.nil
 | t::ts,lam,sc,es,env,h,hs=>let ⟨h,h3⟩:=a2 h;let ⟨h1,h2⟩:=a2 h; .cons ⟨h1,kT_ok CO t h2 hs⟩ (kTs_ok CO ts h3 hs)
end
theorem kAsg_ok (CO:CallOK C call) {t:T} {x:X} {lam:Bool} {sc:Scope} {te v:Expr} {env:Env} {pos:Pos} (h:kAsg lam t x sc te v=true) (hs:Sc lam sc env):SS C env call (.asg t x) (.Assign [eT t te] (eX x v) pos):=
 let ⟨h,h5⟩:=a2 h;let ⟨h,h4⟩:=a2 h;let ⟨h,h3⟩:=a2 h;let ⟨h1,h2⟩:=a2 h
 asgS (notComp_ok h2) (swapNone_ok h3) (kX_ok CO x h5 hs) ⟨h1,kT_ok CO t h4 hs⟩
theorem kComp_ok (CO:CallOK C call) {y:Nm} {elt:X} {z:Nm} {it:X} {cond:Option X} {lam:Bool} {sc:Scope} {te v:Expr} {env:Env} {pos:Pos} (h:kComp lam y elt z it cond sc v=true) (hs:Sc lam sc env):
  SS C env call (.asc y elt z it cond) (.Assign [.Name (nstr y) te.pos] (eX (.comp elt z it cond) v) pos):=by
 obtain ⟨rfl,hl⟩:=hs
 refine an2 (a2 h) fun h h6=>?_
 refine an2 (a2 h) fun h h5=>?_
 refine an2 (a2 h) fun h h4=>?_
 refine an2 (a2 h) fun h h3=>?_
 refine an2 (a2 h) fun h1 h2=>?_
 exact asgCompS ⟨compCk_ok h2,h3,kX_ok CO it h4 ⟨rfl,hl⟩,fun cl c=>kX_ok CO elt h5 ⟨relabelS_eq _ env,nofun⟩,fun cl c=>kC_ok CO cond h6 (relabelS_eq _ env)⟩ (nmCk_ok h1)
theorem kSwap_ok (CO:CallOK C call) {a b:Nm} {m:Bool} {xs:List X} {c:V} {lam:Bool} {sc:Scope} {te v:Expr} {env:Env} {pos:Pos} (h:kSwap lam a b m xs c sc te v=true) (hs:Sc lam sc env):
  SS C env call (.swp a b m xs c) (.Assign [.Tuple [.Name (nstr a) (hd (gl te)).pos,.Name (nstr b) (hd (gl te).tail).pos] (gk te) te.pos] (eX (.tup [.list m xs,.lit c]) v) pos):=by
 obtain ⟨rfl,hl⟩:=hs
 refine an2 (a2 h) fun h h4=>?_
 refine an2 (a2 h) fun h h3=>?_
 refine an2 (a2 h) fun h1 h2=>?_
 refine asgSwap rfl (swapTwo_ok h1) (fun y hy=>?_) (kX_ok CO _ h2 ⟨rfl,hl⟩)
 rcases List.mem_cons.mp hy with rfl | hy
 ·exact nmCk_ok h3
 ·cases List.mem_singleton.mp hy;exact nmCk_ok h4
mutual
theorem kS_ok (CO:CallOK C call):∀(t:S) {lam:Bool} {sc:Scope} {st:Stmt} {env:Env},kS lam t sc st=true→Sc lam sc env→SS C env call t (eS t st)
 | .junk,lam,sc,st,env,h,hs=>junkS
 | .pass,lam,sc,st,env,h,hs=>passS
 | .ghost x,lam,sc,st,env,h,hs=>nomatch (h:false=true)
 | .expr x,lam,sc,st,env,h,hs=>let ⟨h1,h2⟩:=a2 h;exprS h1 (kX_ok CO x h2 hs)
 | .ret .none,lam,sc,st,env,h,hs=>retNoneS
 | .ret (some x),lam,sc,st,env,h,hs=>retS (kX_ok CO x h hs)
 | .asg t x,lam,sc,st,env,h,hs=>kAsg_ok CO h hs
 | .asc y elt z it cond,lam,sc,st,env,h,hs=>kComp_ok CO h hs
 | .swp a b m xs c,lam,sc,st,env,h,hs=>kSwap_ok CO h hs
 | .ife c a b,lam,sc,st,env,h,hs=>let ⟨h,h3⟩:=a2 h;let ⟨h1,h2⟩:=a2 h;ifS (kX_ok CO c h1 hs) (kSs_ok CO a h2 hs) (kSs_ok CO b h3 hs)
 | .fr t it body,lam,sc,st,env,h,hs=>by
  refine an2 (a2 h) fun h h3=>?_
  refine an2 (a2 h) fun h1 h2=>?_
  cases t with
  | nm x=>
   refine an2 (a2 (h3:(nmCk sc x&&kSs lam body sc (sb st))=true)) fun h4 h5=>?_
   exact forS (nmCk_ok (hs.sc▸h4)) h1 (kX_ok CO it h2 hs) (kSs_ok CO body h5 hs)
  | _=>exact forNilS rfl h1 (kX_ok CO it h2 hs)
 | .whl c body,lam,sc,st,env,h,hs=>let ⟨h1,h2⟩:=a2 h;whileS (kX_ok CO c h1 hs) (kSs_ok CO body h2 hs)
theorem kSs_ok (CO:CallOK C call):∀(ts:List S) {lam:Bool} {sc:Scope} {sts:List Stmt} {env:Env},kSs lam ts sc sts=true→Sc lam sc env→SSs C env call ts (eSs ts sts)
 | [],lam,sc,sts,env,h,hs=>nilSs
 | t::ts,lam,sc,sts,env,h,hs=>by
  have h:(match ghostOf t with
  | some n=>nmCk sc n&&kSs lam ts sc sts
  | none=>kS lam t sc (E.hs sts)&&kSs lam ts sc sts.tail)=true:=h
  show SSs C env call (t::ts) (match ghostOf t with
  | some _=>eSs ts sts
  | none=>eS t (E.hs sts)::eSs ts sts.tail)
  cases hg:ghostOf t with
  | some n=>
   rw [hg] at h
   refine an2 (a2 h) fun h1 h2=>?_
   cases ghostOf_eq hg
   exact ghostSs (nmCk_ok (hs.sc▸h1)) (kSs_ok CO ts h2 hs)
  | none=>
   rw [hg] at h
   refine an2 (a2 h) fun h1 h2=>?_
   exact consSs (kS_ok CO t h1 hs) (kSs_ok CO ts h2 hs)
end
end
end E
end Mine
end
section
namespace Mine
namespace E
open PySem PySem.W PyProof.Rows
noncomputable def argsNm:List Arg→List Nm→Bool
 | [],[]=>true
 | a::r,n::t=>sE a.arg (nstr n)&&argsNm r t
 | _,_=>false
theorem argsNm_eq:∀ {ps:List Arg} {ns:List Nm},argsNm ps ns=true→ps.map (fun uu=>uu.arg)=ns.map nstr
 | [],[],_=>rfl
 | a::r,n::t,h=>by
  simp only [argsNm,Bool.and_eq_true] at h
  simp only [List.map_cons,sE_eq h.1,argsNm_eq h.2]
 | [],_::_,h=>by cases h
 | _::_,[],h=>by cases h
noncomputable def nodupN:List Nm→Bool
 | []=>true
 | a::r=>allP (fun b=> !decide (b=a)) r&&nodupN r
theorem nodupN_eq:∀ {l:List Nm},nodupN l=true→l.Nodup
 | [],_=>List.nodup_nil
 | a::r,h=>by
  simp only [nodupN,Bool.and_eq_true] at h
  refine List.nodup_cons.mpr ⟨fun hm=>?_,nodupN_eq h.2⟩
  have:=allP_iff h.1 a hm
  simp at this
theorem nodup_str {l:List Nm} (h:l.Nodup):(l.map nstr).Nodup:=by
 induction l with
 | nil=>exact List.nodup_nil
 | cons a l ih=>
  refine an2 (List.nodup_cons.mp h) fun h1 h2=>?_
  rw [List.map_cons,List.nodup_cons]
  refine ⟨fun hm=>?_,ih h2⟩
  refine e1a2 (List.mem_map.mp hm) fun b hb e=>?_
  exact h1 (nstr_inj e▸hb)
noncomputable def scCk (sc:Scope) (ps:List Nm):Bool:=
 (match sc.kind with | .function=>true | _=>false)&& !sc.isCoroutine&& !sc.isGenerator&&allP (fun y=>match y.2 with | .free=>false | _=>true) sc.names&&
 allP (fun p=>kindIs sc (nstr p) .local||(kindIs sc (nstr p) .cell&& !isCap p)) ps&&nodupN ps
structure FnSc (sc:Scope) (ps:List Nm):Prop where
 kind:sc.kind=.function
 co:sc.isCoroutine=false
 gen:sc.isGenerator=false
 free:∀ y∈sc.names,y.2≠ .free
 par:∀ p∈ps,sc.names.lookup (nstr p)=some .local∨(sc.names.lookup (nstr p)=some .cell∧isCap p=false)
 nodup:ps.Nodup
theorem scCk_ok {sc:Scope} {ps:List Nm} (h:scCk sc ps=true):FnSc sc ps:=by
 unfold scCk at h
 simp only [Bool.and_eq_true,Bool.not_eq_true'] at h
 obtain ⟨⟨⟨⟨⟨h1,h2⟩,h3⟩,h4⟩,h5⟩,h6⟩:=h
 refine ⟨?_,h2,h3,fun y hy e=>?_,fun p hp=>?_,nodupN_eq h6⟩
 ·cases q:sc.kind<;>first | rfl | (rw [q] at h1;cases h1)
 ·have:=allP_iff h4 y hy;rw [e] at this;cases this
 ·have:=allP_iff h5 p hp
  simp only [Bool.or_eq_true,Bool.and_eq_true,Bool.not_eq_true'] at this
  rcases this with z | z
  ·exact .inl (kindIs_eq z)
  ·exact .inr ⟨kindIs_eq z.1,z.2⟩
noncomputable def codeCk (K:Frag) (fd:FuncData):Bool:=match fd.code with
 | .ref c=>(match K.lookup c with
  | some ⟨_,_,.fields vs,_⟩=>(match vs.toList with | _:: .str q _::_=>sE q fd.qualname | _=>false)
  | _=>false)
 | _=>false
set_option tactic.hygienic true in
theorem codeCk_ok {K:Frag} {fd:FuncData} {h:Heap} (X:K.In h) (e:codeCk K fd=true):h.CodeRec fd.code fd.qualname:=by
 unfold codeCk at e
 split at e
 ·rename_i c hc
  split at e
  ·rename_i c' d vs sl ho
   split at e
   ·rename_i v q t r hv
    refine ⟨c,_,vs,t,hc,X _ _ ho,rfl,?_⟩
    rw [← Array.getElem?_toList,hv,← sE_eq e];rfl
   ·cases e
  ·cases e
 ·cases e
noncomputable def bodyP (K:Frag) (g:Gl):List Stmt:=match K.lookup (gaddr g) with
 | some ⟨_,_,.func fd,_⟩=>(match fd.body with | .stmts b=>b | _=>[])
 | _=>[]
noncomputable def bodyX (g:Gl):List S:=match fdef g with | some d=>d.body | none=>[]
noncomputable def fnCk (K:Frag) (lam:Bool) (g:Gl):Bool:=match fdef g,K.lookup (gaddr g) with
 | some d,some ⟨_,_,.func fd,_⟩=>
  (match fd.params with | ⟨[],ps,none,[],[],none,_⟩=>argsNm ps d.params | _=>false)&&Nat.beq fd.globals 3&&Nat.beq fd.builtins 0&&(match fd.closure with | []=>true | _=>false)&&
  scCk fd.scope d.params&&(match fd.body with | .stmts b=>kSs lam d.body fd.scope b | _=>false)&&codeCk K fd&&(match lam with | true=>(match fd.code with | .ref c=>Nat.beq c 1403 | _=>false) | false=>true)&&
  (match d.params with | (.H .xb)::_=>kindIs fd.scope (nstr (.H .xb)) .local | _=>true)
 | _,_=>false
structure FnFact (K:Frag) (d:FnDef) (g:Gl) (o:Obj) (fd:FuncData) (ps:List Arg) (dx:List Expr) (bd:List Stmt) (lam:Bool):Prop where
 look:K.lookup (gaddr g)=some o
 data:o.data=.func fd
 params:fd.params=⟨[],ps,none,[],[],none,dx⟩
 names:ps.map (fun uu=>uu.arg)=d.params.map nstr
 glob:fd.globals=mainGlobals
 bi:fd.builtins=builtinsNs
 clo:fd.closure=[]
 sc:FnSc fd.scope d.params
 body:fd.body=.stmts bd
 ck:kSs lam d.body fd.scope bd=true
 em:eSs d.body bd=bd
 code:codeCk K fd=true
 lam:lam=true→fd.code=.ref lawCode
 selfL:∀ r,d.params=(.H .xb)::r→fd.scope.names.lookup (nstr (.H .xb))=some .local
set_option tactic.hygienic true in
theorem fnCk_ok {K:Frag} {lam:Bool} {g:Gl} {d:FnDef} (hd:fdef g=some d) (hem:eSs (bodyX g) (bodyP K g)=bodyP K g) (h:fnCk K lam g=true):∃ o fd ps dx body,FnFact K d g o fd ps dx body lam:=by
 unfold fnCk at h
 split at h
 ·rename_i d' c dc fd sl e1 e2
  rw [hd] at e1;cases e1
  simp only [Bool.and_eq_true] at h
  obtain ⟨⟨⟨⟨⟨⟨⟨⟨h1,h2⟩,h3⟩,h4⟩,h5⟩,h6⟩,h7⟩,h8⟩,h9⟩:=h
  split at h1
  ·rename_i ps dx hp
   split at h4
   ·rename_i hc
    split at h6
    ·rename_i b hb
     refine ⟨_,fd,ps,dx,b,e2,rfl,hp,argsNm_eq h1,Nat.eq_of_beq_eq_true h2,Nat.eq_of_beq_eq_true h3,hc,scCk_ok h5,hb,h6,?_,h7,fun hl=>?_,fun r hr=>?_⟩
     ·have hp:bodyP K g=b:=by unfold bodyP;rw [e2];dsimp only;rw [hb]
      rw [hp] at hem
      unfold bodyX at hem
      rw [hd] at hem
      exact hem
     rotate_left
     ·rw [hr] at h9;exact kindIs_eq h9
     subst hl
     dsimp only at h8
     split at h8
     ·rename_i c hcd
      rw [hcd,Nat.eq_of_beq_eq_true h8];rfl
     ·cases h8
    ·cases h6
   ·cases h4
  ·cases h1
 ·cases h
noncomputable def fnL:List Gl:=[(.A .x5),(.A .x7),(.A .x8),(.A .x6),(.A .x9),(.G .xc),(.G .x5),(.C .x5),(.E .x4),(.E .x2),(.D .x5),(.D .x6),(.I .x9),(.I .x7),(.B .x6),(.B .x7),(.B .x8),(.D .xb),(.C .x0),(.C .x3),(.C .x1),(.C .x2),(.I .x4),(.K .x6),(.I .x3),(.C .x7),(.K .x4),(.H .xb),(.K .x7),(.B .x3),(.B .x4),(.E .x7),(.E .x9),(.E .xa),(.E .xb),(.G .x2),(.G .x4),(.K .x2),(.G .x8),(.F .x0),(.F .x4),(.F .x5),(.F .x2),(.F .x1),(.F .x3),(.H .xc),(.G .xa),(.I .x0),(.K .x1),(.I .xb),(.J .xc),(.I .x1),(.I .x6),(.K .x5),(.A .x2),(.K .x8),(.A .xb),(.A .xc),(.B .x1),(.B .x0),(.D .x3),(.E .x0),(.H .x8),(.H .xa),(.H .x9),(.G .xb),(.J .x6),(.J .x4),(.K .x0),(.D .x0),(.D .x1),(.J .x8),(.J .xa),(.G .x9),(.J .x9),(.H .x3),(.H .x6),(.J .x1),(.J .x5),(.J .x3),(.H .x4),(.J .x7),(.H .x5),(.H .x2),(.I .x2),(.H .x7),(.H .x1),(.F .x8),(.F .xa),(.F .xc),(.G .x0),(.F .xb),(.F .x7),(.F .x6),(.F .x9),(.I .xa)]
theorem fdef_mem {g:Gl} {d:FnDef} (h:fdef g=some d):g∈fnL:=by
 have:=glP (p:=fun g=> !(fdef g).isSome||fnL.contains g) (by decide +kernel) g
 try dsimp only at this
 rw [h] at this
 exact glMem this
noncomputable def lamB:Gl→Bool | (.I .xa)=>true | _=>false
theorem st_fc (P:Params):fnL.map (fun g=>fnCk (KC P) (lamB g) g)=fnL.map fun uu=>true:=by kernel_rfl
theorem st_em (P:Params):fnL.map (fun g=>eSs (bodyX g) (bodyP (KC P) g))=fnL.map fun g=>bodyP (KC P) g:=by kernel_rfl
theorem st_gvf:fnL.map gvalue=fnL.map fun g=>.ref (gaddr g):=by kernel_rfl
theorem fn_fact (P:Params) {g:Gl} {d:FnDef} (h:fdef g=some d):∃ o fd ps dx body,FnFact (KC P) d g o fd ps dx body (lamB g):=fnCk_ok h (of_map_eq (st_em P) g (fdef_mem h)) (of_map_eq (st_fc P) g (fdef_mem h))
theorem fn_value {g:Gl} {d:FnDef} (h:fdef g=some d):gvalue g=.ref (gaddr g):=of_map_eq st_gvf g (fdef_mem h)
noncomputable def dfltCk (K:Frag) (g:Gl):Bool:=match fdef g,K.lookup (gaddr g) with
 | some d,some ⟨_,_,.func fd,_⟩=>(match fd.defaults with | .none=>true | .ref a=>(match K.lookup a with | some ⟨_,_,.seq _ _,_⟩=>true | _=>false) | _=>false)&&(match d.defaults.getLast? with
  | none=>true
  | some v=>(match fd.defaults with
   | .ref a=>(match K.lookup a with
    | some ⟨_,_,.seq items _,_⟩=>Nat.ble 1 d.params.length&&Nat.ble items.toList.length d.params.length&&(match items.toList.getLast? with
     | some r=>(match v,r with
      | .none,.none=>true
      | .bool b,.bool c=>b==c
      | .tup [],.ref e=>(match K.lookup e with | some ⟨.type T,none,.seq rs _,sl⟩=>decide (T="tuple")&&(match rs.toList with | []=>true | _=>false)&&(match sl.toList with | []=>true | _=>false) | _=>false)
      | _,_=>false)
     | none=>false)
    | _=>false)
   | _=>false))
 | _,_=>false
theorem st_df (P:Params):fnL.map (fun g=>dfltCk (KC P) g)=fnL.map fun uu=>true:=by kernel_rfl
noncomputable def clsCk (K:Frag) (c:Gl):Bool:=match cinit c with
 | some (i,_)=>makesIn K (gaddr c)&&(match findIn K (.ref (gaddr c)) "__init__" with | some (some (.ref f))=>Nat.beq f (gaddr i) | _=>false)&&(match typeIn K (.ref (gaddr i)) with | some (.type T)=>decide (T="function") | _=>false)&&(match fdef i with | some d=>(match d.params with | (.H .xb)::_=>true | _=>false) | none=>false)
 | none=>false
theorem st_cc (P:Params):clsL.map (fun c=>clsCk (KC P) c)=clsL.map fun uu=>true:=by kernel_rfl
end E
end Mine
end
section
namespace Mine
namespace E
open PySem PySem.W PyProof.Rows
theorem filterMap_cong {α β:Type} {f g:α→Option β}:∀ {l:List α},(∀ x∈l,f x=g x)→l.filterMap f=l.filterMap g
 | [],_=>rfl
 | a::l,h=>by
  rw [List.filterMap_cons,List.filterMap_cons,h a (List.mem_cons_self ..),filterMap_cong fun x hx=>h x (List.mem_cons_of_mem _ hx)]
theorem lookup_zip {ns:List Str}:∀ {vs:List Value},ns.Nodup→ns.length=vs.length→ns.filterMap (fun n=>((ns.zip vs).lookup n).map (fun uu=>(n,uu)))=ns.zip vs:=by
 induction ns with
 | nil=>intro vs _ _;rfl
 | cons n ns ih=>
  intro vs hn hl
  cases vs with
  | nil=>cases hl
  | cons v vs=>
   simp only [List.zip_cons_cons,List.filterMap_cons,List.lookup_cons,beq_self_eq_true,Option.map_some]
   congr 1
   have hn':=List.nodup_cons.mp hn
   refine Eq.trans ?_ (ih hn'.2 (Nat.succ.inj hl))
   refine filterMap_cong fun x hx=>?_
   have:(x==n)=false:=beq_false_of_ne fun q=>hn'.1 (q▸hx)
   rw [this]
theorem lookup_some {ns:List Str} {vs:List Value} (hl:ns.length=vs.length):∀ x∈ns,((ns.zip vs).lookup x).isSome=true:=by
 induction ns generalizing vs with
 | nil=>intro x hx;cases hx
 | cons n ns ih=>
  intro x hx
  cases vs with
  | nil=>cases hl
  | cons v vs=>
   simp only [List.zip_cons_cons,List.lookup_cons]
   split
   ·rfl
   ·rename_i q
    rcases List.mem_cons.mp hx with rfl | hx
    ·simp at q
    ·exact ih (Nat.succ.inj hl) x hx
theorem forIn_same {α β:Type} {b:β} {f:α→β→Sem (ForInStep β)}:∀ {l:List α},(∀ x∈l,f x b=pure (ForInStep.yield b))→(forIn l b f:Sem β)=pure b
 | [],_=>by rw [List.forIn_nil]
 | a::l,h=>by
  rw [List.forIn_cons,h a (List.mem_cons_self ..),pure_bind]
  exact forIn_same fun x hx=>h x (List.mem_cons_of_mem _ hx)
theorem wp_no {M:Model} {A:Around} {E:Value→Shared→Prop} {s:Shared} {α:Type} {Q:α→Shared→Prop} {c:Bool} {t e:Sem α} (h:c=false) (k:wpAny M A e Q E s):wpAny M A (if c=true then t else e) Q E s:=by
 subst h;exact k
theorem wp_bind_eq {M:Model} {A:Around} {E:Value→Shared→Prop} {s:Shared} {α β:Type} {Q:α→Shared→Prop} {m:Sem β} {b:β} {f:β→Sem α} (h:m=pure b) (k:wpAny M A (f b) Q E s):wpAny M A (bind m f) Q E s:=by
 subst h;exact k
noncomputable abbrev slotOf (x:Str×Value) (l:List (Str×Value)):Sem (ForInStep (List (Str×Value))):=if (l.lookup x.1).isNone=true then pure (.yield (l++[x])) else pure (.yield l)
theorem bind_core {M:Model} {A:Around} {E:Value→Shared→Prop} {s:Shared} {fd:FuncData} {vs:List Value} {dl:Option (Array Value)} {Q:List (Str×Value)→Shared→Prop} {ps:List Arg} {dx:List Expr} {ns:List Str} {df:List Value} {sl:List (Str×Value)}
  (hp:fd.params=⟨[],ps,none,[],[],none,dx⟩) (hd:∀ {Q':Option (Array Value)→Shared→Prop},Q' dl s→wpAny M A (seqItems? fd.defaults) Q' E s) (hn:ps.map (fun uu=>uu.arg)=ns)
  (h1:vs.length≤ns.length) (e:List.drop ((dl.getD #[]).toList.length - ns.length) (dl.getD #[]).toList=df) (h3:(ns.take (ns.length - df.length)).filter (fun n=>((ns.zip vs).lookup n).isNone)=[])
  (h4:forIn ((ns.drop (ns.length - df.length)).zip df) (ns.zip vs) slotOf=(pure sl:Sem _))
  (h:Q ((ns++[]).filterMap fun n=>(sl.lookup n).map (fun uu=>(n,uu))) s):wpAny M A (bindArgs fd ⟨vs,[]⟩) Q E s:=by
 subst hn e
 cases fd
 subst hp
 have c1:(decide (vs.length > (ps.map (fun uu=>uu.arg)).length)&&(none:Option Arg).isNone)=false:=by rw [decide_eq_false (Nat.not_lt.mpr h1)];rfl
 have c2:(!((((ps.map (fun uu=>uu.arg)).take ((ps.map (fun uu=>uu.arg)).length - (List.drop ((dl.getD #[]).toList.length - (ps.map (fun uu=>uu.arg)).length) (dl.getD #[]).toList).length)).filter (fun n=>(((ps.map (fun uu=>uu.arg)).zip vs).lookup n).isNone)).isEmpty))=false:=by rw [h3];rfl
 exact wpAny_bind (m:=seqItems? _) (hd (wp_no c1 (wp_no c2 (wp_bind_eq h4 (wpAny_pure h)))))
theorem is_none_some {α:Type}:∀ {o:Option α},o.isSome=true→o.isNone=false
 | some _,_=>rfl
theorem none_of {ns ks:List Str} {vs:List Value} (hl:ns.length=vs.length) (h:∀ x∈ks,x∈ns):ks.filter (fun n=>((ns.zip vs).lookup n).isNone)=[]:=List.filter_eq_nil_iff.mpr fun x hx q=>Bool.noConfusion (q.symm.trans (is_none_some (lookup_some hl x (h x hx))))
theorem slot_same {ns:List Str} {vs:List Value} {x:Str×Value} (hl:ns.length=vs.length) (h:x.1∈ns):slotOf x (ns.zip vs)=pure (.yield (ns.zip vs)):=if_neg (by rw [is_none_some (lookup_some hl _ h)];exact Bool.false_ne_true)
theorem bind_plain {M:Model} {A:Around} {E:Value→Shared→Prop} {s:Shared} {fd:FuncData} {vs:List Value} {ds:Option (Array Value)} {Q:List (Str×Value)→Shared→Prop} {ps:List Arg} {dx:List Expr}
  (hp:fd.params=⟨[],ps,none,[],[],none,dx⟩) (hd:∀ {Q':Option (Array Value)→Shared→Prop},Q' ds s→wpAny M A (seqItems? fd.defaults) Q' E s)
  (hn:(ps.map (fun uu=>uu.arg)).Nodup) (hl:ps.length=vs.length) (h:Q ((ps.map (fun uu=>uu.arg)).zip vs) s):wpAny M A (bindArgs fd ⟨vs,[]⟩) Q E s:=by
 have hl':(ps.map (fun uu=>uu.arg)).length=vs.length:=by rw [List.length_map];exact hl
 exact bind_core hp hd rfl (Nat.le_of_eq hl'.symm) rfl (none_of hl' fun x=>List.mem_of_mem_take) (forIn_same fun x hx=>slot_same hl' (List.mem_of_mem_drop (List.of_mem_zip hx).1)) (by rw [List.append_nil,lookup_zip hn hl'];exact h)
theorem lookup_none {ns:List Str} {vs:List Value} {z:Str} (h:z∉ns):(ns.zip vs).lookup z=none:=by
 cases q:(ns.zip vs).lookup z with
 | none=>rfl
 | some v=>exact absurd (List.of_mem_zip (mem_of_lookup_some q)).1 h
theorem zip_short:∀ {ns:List Str} {z:Str} {vs:List Value},ns.length=vs.length→(ns++[z]).zip vs=ns.zip vs
 | [],z,[],_=>rfl
 | n::ns,z,v::vs,h=>by
  simp only [List.cons_append,List.zip_cons_cons]
  rw [zip_short (Nat.succ.inj h)]
theorem zip_snoc {ns:List Str} {z:Str} {vs:List Value} {d:Value} (h:ns.length=vs.length):(ns++[z]).zip (vs++[d])=ns.zip vs++[(z,d)]:=by
 rw [List.zip_append h];rfl
theorem bind_last {M:Model} {A:Around} {E:Value→Shared→Prop} {s:Shared} {fd:FuncData} {vs:List Value} {ds:Array Value} {pre:List Value} {d:Value} {Q:List (Str×Value)→Shared→Prop} {ps:List Arg} {dx:List Expr} {ns:List Str} {z:Str}
  (hp:fd.params=⟨[],ps,none,[],[],none,dx⟩) (hnames:ps.map (fun uu=>uu.arg)=ns++[z]) (hd:∀ {Q':Option (Array Value)→Shared→Prop},Q' (some ds) s→wpAny M A (seqItems? fd.defaults) Q' E s) (hds:ds.toList=pre++[d]) (hsz:ds.toList.length≤ns.length + 1)
  (hn:(ns++[z]).Nodup) (hl:ns.length=vs.length) (h:Q ((ns++[z]).zip (vs++[d])) s):wpAny M A (bindArgs fd ⟨vs,[]⟩) Q E s:=by
 have hz:z∉ns:=fun hm=>(List.nodup_append.mp hn).2.2 z hm z (List.mem_singleton_self z) rfl
 have zs:(ns++[z]).zip vs=ns.zip vs:=zip_short hl
 have l1:(ns++[z]).length=ns.length + 1:=List.length_append
 have l2:(pre++[d]).length=pre.length + 1:=List.length_append
 rw [hds,l2] at hsz
 have k:(ns++[z]).length - (pre++[d]).length=ns.length - pre.length:=by rw [l1,l2,Nat.add_sub_add_right]
 refine bind_core (df:=pre++[d]) (sl:=(ns++[z]).zip (vs++[d])) hp hd hnames (by rw [l1,hl];exact Nat.le_succ _) (by
  show List.drop (ds.toList.length - (ns++[z]).length) ds.toList=_
  rw [hds,l1,l2,Nat.sub_eq_zero_of_le hsz];rfl) ?_ ?_ (by rw [List.append_nil,lookup_zip hn (by simp [hl])];exact h)
 ·rw [zs,k,List.take_append_of_le_length (Nat.sub_le _ _)]
  exact none_of hl fun x=>List.mem_of_mem_take
 ·rw [zs,k,List.drop_append_of_le_length (Nat.sub_le _ _),zip_snoc (by rw [List.length_drop];exact Nat.sub_sub_self (Nat.le_of_succ_le_succ hsz)),zip_snoc hl]
  have fa:∀ {l:List (Str×Value)} {b:List (Str×Value)},b.lookup z=none→(∀ x∈l,slotOf x b=pure (ForInStep.yield b))→forIn (l++[(z,d)]) b slotOf=(pure (b++[(z,d)]):Sem _):=by
   intro l b hb hf
   induction l with
   | nil=>rw [List.nil_append,List.forIn_cons,slotOf,hb];rfl
   | cons a l ih=>
    rw [List.cons_append,List.forIn_cons,hf a (List.mem_cons_self ..),pure_bind]
    exact ih fun x hx=>hf x (List.mem_cons_of_mem _ hx)
  exact fa (lookup_none hz) fun x hx=>slot_same hl (List.mem_of_mem_drop (List.of_mem_zip hx).1)
end E
end Mine
end
section
namespace Mine
namespace E
open PySem PySem.W PyProof.Rows
theorem bindL_other {kf:Str→Option NameKind}:∀ {bs:List (Str×Value)} {m:Str→Option Value} {x:Str},x∉bs.map (fun uu=>uu.1)→bindL kf bs m x=m x
 | [],m,x,_=>rfl
 | (n,v)::r,m,x,h=>by
  rw [List.map_cons,List.mem_cons,not_or] at h
  unfold bindL
  rw [bindL_other h.2]
  split
  ·exact if_neg h.1
  ·rfl
theorem bindL_get {kf:Str→Option NameKind}:∀ {bs:List (Str×Value)} {m:Str→Option Value} {x:Str} {v:Value},(bs.map (fun uu=>uu.1)).Nodup→(x,v)∈bs→kf x=some .local→bindL kf bs m x=some v
 | (n,u)::r,m,x,v,hn,h,hk=>by
  rw [List.map_cons,List.nodup_cons] at hn
  unfold bindL
  rcases List.mem_cons.mp h with e | h
  ·cases e
   rw [if_pos hk,bindL_other hn.1];exact if_pos rfl
  ·exact bindL_get hn.2 h hk
theorem bindC_other {kf:Str→Option NameKind}:∀ {bs:List (Str×Value)} {m:Str→Option Value} {x:Str},x∉bs.map (fun uu=>uu.1)→bindC kf bs m x=m x
 | [],m,x,_=>rfl
 | (n,v)::r,m,x,h=>by
  rw [List.map_cons,List.mem_cons,not_or] at h
  unfold bindC
  rw [bindC_other h.2]
  split
  ·rfl
  ·exact if_neg h.1
theorem bindC_get {kf:Str→Option NameKind}:∀ {bs:List (Str×Value)} {m:Str→Option Value} {x:Str} {v:Value},(bs.map (fun uu=>uu.1)).Nodup→(x,v)∈bs→kf x≠some .local→bindC kf bs m x=some v
 | (n,u)::r,m,x,v,hn,h,hk=>by
  rw [List.map_cons,List.nodup_cons] at hn
  unfold bindC
  rcases List.mem_cons.mp h with e | h
  ·cases e
   rw [if_neg hk,bindC_other hn.1];exact if_pos rfl
  ·exact bindC_get hn.2 h hk
theorem cellsFrom_has:∀ {names:List (Str×NameKind)} {n:Nat} {acc:List (Str×Addr)} {x:Str},((x,NameKind.cell)∈names∨(acc.lookup x).isSome=true)→((cellsFrom n names acc).lookup x).isSome=true
 | [],n,acc,x,h=>by
  rcases h with h | h
  ·cases h
  ·exact h
 | (y,k)::r,n,acc,x,h=>by
  unfold cellsFrom
  split
  ·refine cellsFrom_has ?_
   by_cases q:x=y
   ·subst q;exact .inr (by rw [List.lookup_cons,beq_self_eq_true];rfl)
   ·rcases h with h | h
    ·rcases List.mem_cons.mp h with e | h
     ·cases e;exact absurd rfl q
     ·exact .inl h
    ·exact .inr (by rw [List.lookup_cons,beq_false_of_ne q];exact h)
  ·rename_i hk
   refine cellsFrom_has ?_
   rcases h with h | h
   ·rcases List.mem_cons.mp h with e | h
    ·cases e;exact absurd rfl hk
    ·exact .inl h
   ·exact .inr h
noncomputable def Wd.grab (W:Wd) (h:Heap):Wd:=⟨fun b=>match W.pl b with | .no=>(match h.get? b with | some o=>.pv o | none=>.no) | x=>x,W.mu⟩
section
variable {C:Cx} {X:Addr→Prop} {W:Wd} {σ:St} {s s₁:Shared} {h:Heap} {b:Addr} {o:Obj} {x:Own} {call:Call} {A:Around}
theorem Wd.grab_old (e:W.pl b=x) (n:x≠ .no):(W.grab h).pl b=x:=by
 unfold Wd.grab
 dsimp only
 rw [e]
 cases x<;>first | rfl | exact absurd rfl n
theorem Wd.grab_new (e:W.pl b=.no) (g:h.get? b=some o):(W.grab h).pl b=.pv o:=by
 unfold Wd.grab
 dsimp only
 rw [e,g]
theorem Wd.grab_le:W.L0 (W.grab h):=⟨fun b o e=>Wd.grab_old e nofun,fun uu uu e=>e,fun b o e=>.inr (Wd.grab_old e nofun)⟩
theorem Rel.grab (R:Rel C.D W σ s) (k:∀ b o,s.heap.get? b=some o→s₁.heap.get? b=some o) (hi:s₁.gens=s.gens∧s₁.os=s.os):Rel C.D (W.grab s₁.heap) σ s₁ where
 base:=fun b o e=>Wd.grab_le.fz b o (R.base b o e)
 ho:=fun b=>by
  have H:=(R.ho b).keep fun uu o e=>k b o e
  cases e:W.pl b with
  | no=>
   cases g:s₁.heap.get? b with
   | none=>rw [show (W.grab s₁.heap).pl b=.no from by unfold Wd.grab;dsimp only;rw [e,g]];trivial
   | some o=>rw [Wd.grab_new e g];exact g
  | _=>rw [e] at H;rw [Wd.grab_old e nofun];exact H
 obj:=fun n m e=>by
  refine e2a4 (R.obj n m e) fun a d e1 e2 e3 M=>?_
  exact⟨a,d,e1,Wd.grab_old e2 nofun,Wd.grab_old e3 nofun,M.keep (Wd.grab_le (h:=s₁.heap)) (fun o=>k a o) fun o=>k d o⟩
 lt:=R.lt
 io:=⟨hi.1.trans R.io.1,hi.2.trans R.io.2⟩
theorem zip_get {P:VP}:∀ {ps:List Nm} {vs:List V} {rs:List Value} {x:Nm} {v:V},F2 P vs rs→getL? x (ps.zip vs)=some v→∃ r,(nstr x,r)∈(ps.map nstr).zip rs∧P v r
 | [],vs,rs,x,v,h,e=>nomatch e
 | p::ps,[],rs,x,v,h,e=>nomatch e
 | p::ps,u::us,rs,x,v,h,e=>by
  refine e2a3 h fun r rs' qq0 h1 h2=>?_;subst qq0
  have e:(if p=x then some u else getL? x (ps.zip us))=some v:=e
  by_cases q:p=x
  ·rw [if_pos q] at e;cases e
   exact⟨r,q▸ .head _,h1⟩
  ·rw [if_neg q] at e
   refine e1a2 (zip_get h2 e) fun r' m hv=>?_
   exact⟨r',.tail _ m,hv⟩
theorem zip_names {ps:List Nm} {rs:List Value} (h:ps.length=rs.length):((ps.map nstr).zip rs).map (fun uu=>uu.1)=ps.map nstr:=by
 rw [List.map_fst_zip];rw [List.length_map];omega
structure MeOk (C:Cx) (W:Wd) (s:Shared) (ps:List Nm) (rs:List Value) (p:Addr×Addr) (me:Option (Gl×List (Nm×V))):Prop where
 self:me.isSome=true→(∃ r,ps=(.H .xb)::r)∧(nstr (.H .xb),.ref p.1)∈(ps.map nstr).zip rs∧W.pl p.1=.no∧W.pl p.2=.no∧p.1≠p.2
 obj:∀ c fs,me=some (c,fs)→s.heap.get? p.1=some (instObj (gaddr c) p.2)∧∃ od,s.heap.get? p.2=some od∧FldO C.w (VR C.w W) fs od
noncomputable abbrev FrX (env:Env) (p:Addr×Addr) (me:Option (Gl×List (Nm×V))):Addr→Prop:=fun b=>b=env.locals∨(∃ y,env.kindOf y=some .cell∧env.cells.lookup y=some b)∨(me.isSome=true∧(b=p.1∨b=p.2))
theorem frameOK {fd:FuncData} {ps:List Nm} {rs:List Value} {p:Addr×Addr} {me:Option (Gl×List (Nm×V))} {vars:List (Nm×V)} {a:Addr} (R:Rel C.D W σ s) (sc:FnSc fd.scope ps) (hs:∀ r,ps=(.H .xb)::r→fd.scope.names.lookup (nstr (.H .xb))=some .local) (hg:fd.globals=mainGlobals) (hb:fd.builtins=builtinsNs) (hl:ps.length=rs.length)
  (hv:∀ x v,getL? x vars=some v→∃ r,(nstr x,r)∈(ps.map nstr).zip rs∧VR C.w W v r) (hme:MeOk C W s ps rs p me)
  (I:InCallC s (callEnvC fd s.heap.objs.size a).locals (bindL (callEnvC fd s.heap.objs.size a).kindOf ((ps.map nstr).zip rs) fun uu=>none) (callEnvC fd s.heap.objs.size a).cells (bindC (callEnvC fd s.heap.objs.size a).kindOf ((ps.map nstr).zip rs) fun uu=>none) s₁):
  FrS C (FrX (callEnvC fd s.heap.objs.size a) p me) (callEnvC fd s.heap.objs.size a) p ⟨vars,me⟩ (W.grab s₁.heap):=by
 have hn:(((ps.map nstr).zip rs).map (fun uu=>uu.1)).Nodup:=by rw [zip_names hl];exact nodup_str sc.nodup
 have old:=I.toInCall.keep
 have has:∀ {y:Str},(callEnvC fd s.heap.objs.size a).kindOf y=some .cell→∃ c,(callEnvC fd s.heap.objs.size a).cells.lookup y=some c:=fun hk=>Option.isSome_iff_exists.mp (cellsFrom_has (.inl (mem_of_lookup_some hk)))
 have cell:∀ {y:Str} {c:Addr},(callEnvC fd s.heap.objs.size a).cells.lookup y=some c→∃ o,(W.grab s₁.heap).pl c=.pv o∧o.data=.cell (bindC (callEnvC fd s.heap.objs.size a).kindOf ((ps.map nstr).zip rs) (fun uu=>none) y):=fun hc=>by
  refine e1a2 (I.cell _ _ hc) fun o g1 g2=>?_
  exact⟨o,Wd.grab_new (R.no (Heap.get?_none_of_le (Nat.le_of_lt (I.above _ _ (mem_of_lookup_some hc))))) g1,g2⟩
 obtain ⟨oL,gL⟩:∃ o,s₁.heap.get? (callEnvC fd s.heap.objs.size a).locals=some o:=let ⟨o,_,_,g,_⟩:=I.toInCall.ns;⟨o,g⟩
 have pL:(W.grab s₁.heap).pl (callEnvC fd s.heap.objs.size a).locals=.pv oL:=Wd.grab_new R.new_no gL
 have n:=NsO.of I.toInCall.ns gL
 have pme:∀ c fs,me=some (c,fs)→(W.grab s₁.heap).pl p.1=.pv (instObj (gaddr c) p.2)∧∃ od,(W.grab s₁.heap).pl p.2=.pv od∧FldO C.w (VR C.w (W.grab s₁.heap)) fs od∧p.2≠s.heap.objs.size:=fun c fs e=>by
  obtain ⟨-, -,n1,n2, -⟩:=hme.self (by rw [e];rfl)
  obtain ⟨g1,od,g2,F⟩:=hme.obj c fs e
  exact⟨Wd.grab_new n1 (old _ _ g1),od,Wd.grab_new n2 (old _ _ g2),F.imp (VR.les Wd.grab_le),Nat.ne_of_lt (Heap.lt_size g2)⟩
 have self:me.isSome=true→(callEnvC fd s.heap.objs.size a).kindOf (nstr (.H .xb))=some .local∧bindL (callEnvC fd s.heap.objs.size a).kindOf ((ps.map nstr).zip rs) (fun uu=>none) (nstr (.H .xb))=some (.ref p.1):=fun h=>by
  obtain ⟨⟨r,hr⟩,hm, -⟩:=hme.self h
  exact⟨hs r hr,bindL_get hn hm (hs r hr)⟩
 refine ⟨⟨sc.kind,hg,hb,fun x v e k=>?_,fun b hb=>.inl ?_,fun x k=>has k⟩,⟨oL,_,pL,n,fun h=>(self h).2⟩,.inl rfl,fun x c h1 h2=>?_,fun x y c k1 k2 e1 e2=>?_,fun c fs e=>?_⟩
 ·refine e1a2 (hv x v e) fun r hm hr=>?_
  refine ⟨r,?_,hr.le Wd.grab_le⟩
  rcases k with k | k | k
  ·exact .loc k pL (.inl rfl) n (bindL_get hn hm k)
  ·refine ex1 (has k) fun c hc=>?_
   refine e1a2 (cell hc) fun o pc d=>?_
   rw [bindC_get hn hm (by rw [k];decide)] at d
   refine .cel (.inl k) hc (.inl ⟨pc,.inr (.inl ⟨_,k,hc⟩),fun uu=>?_⟩) d
   refine e1a2 (List.mem_map.mp (List.of_mem_zip hm).1) fun q hq e=>?_
   cases nstr_inj e
   rcases sc.par _ hq with z | z
   ·exact nomatch z.symm.trans k
   ·exact z.2
  ·exact absurd rfl (sc.free _ (mem_of_lookup_some k))
 ·rcases hb with rfl | ⟨y,_,hc⟩ | ⟨hm,hb⟩
  ·exact⟨oL,pL⟩
  ·obtain ⟨o,pc,_⟩:=cell hc;exact⟨o,pc⟩
  ·obtain ⟨⟨c,fs⟩,e⟩:=Option.isSome_iff_exists.mp hm
   obtain ⟨p1,od,p2, -⟩:=pme c fs e
   rcases hb with rfl | rfl
   ·exact⟨_,p1⟩
   ·exact⟨_,p2⟩
 ·refine e1a2 (cell h2) fun o pc d=>?_
  exact .inl ⟨.inr (.inl ⟨_,h1,h2⟩),o,_,pc,d⟩
 ·exact nstr_inj (name_of_addr I.apart (mem_of_lookup_some e1) (mem_of_lookup_some e2))
 ·obtain ⟨p1,od,p2,F,ne⟩:=pme c fs e
  have hm:me.isSome=true:=by rw [show me=_ from e];rfl
  exact⟨(self hm).1,(hme.self hm).2.2.2.2,ne,.inr (.inr ⟨hm,.inl rfl⟩),.inr (.inr ⟨hm,.inr rfl⟩),p1,od,p2,F⟩
theorem AOk.deeper {n:Nat} {env:Env} (a:AOk A (n + 1)):AOk (A.deeper env) n:=
 ⟨a.handled,by have:=a.depth;show A.depth + 1 + 3 * n≤900;omega,by have:=a.units;show A.units + 3 + 20 * n≤9000;omega⟩
theorem fnRun (CO:CallOK C call) {g:Gl} {d:FnDef} {rsA rsF:List Value} {p:Addr×Addr} {me:Option (Gl×List (Nm×V))} {vars:List (Nm×V)} {K:KF} {Rr:Result→Shared→Prop} (hd:fdef g=some d) (hA:A.handled=none) (hdep:A.depth + 1 + 3 * C.n≤900) (hun:A.units + 3 + 20 * C.n≤9000) (R:Rel C.D W σ s)
  (hl:d.params.length=rsF.length) (hbind:∀(o fd ps dx body),FnFact (KC C.w.params) d g o fd ps dx body (lamB g)→∀ {Q:List (Str×Value)→Shared→Prop},Q ((d.params.map nstr).zip rsF) s→wpAny (model pw₀ C.w) A.in1 (bindArgs fd ⟨rsA,[]⟩) Q (fun e s'=>Rr (.error e) s') s)
  (hv:∀ x v,getL? x vars=some v→∃ r,(nstr x,r)∈(d.params.map nstr).zip rsF∧VR C.w W v r) (hme:MeOk C W s d.params rsF p me)
  (e:execCs wid call d.body ⟨vars,me⟩ σ K)
  (h:∀ X env W' s' fl r fr' σ',W.L0 W'→FrS C X env p fr' W'→Rel C.D W' σ' s'→(match fl with | .next=>r=.none | .ret v=>VR C.w W' v r)→(me.isSome=true→X p.1∧X p.2)→K fl fr' σ'→Rr (.ok (.ret r)) s'):
  codeAny (model pw₀ C.w) A (.call (.ref (gaddr g)) ⟨rsA,[]⟩) Rr s:=by
 refine ex5 (fn_fact C.w.params hd) fun o fd ps dx body F=>?_
 refine codeAny_call_function (by show A.depth < 1000;omega) (R.B _ _ F.look) F.data F.sc.co F.sc.gen F.body (codeCk_ok R.B F.code) (hbind o fd ps dx body F ?_)
 rw [F.clo]
 refine wpAny_newFunctionEnv_cells F.sc.kind (fun x hx=>?_) fun env he s₁ I=>?_
 ·refine e1a2 (List.mem_map.mp (List.of_mem_zip hx).1) fun q hq e=>?_
  rw [← e]
  exact(F.sc.par q hq).imp id fun z=>⟨z.1,cellsFrom_has (.inl (mem_of_lookup_some z.1))⟩
 ·subst he
  refine ⟨(noLimit_K R.B).keeps I.toInCall.keep,?_⟩
  refine ex2 I.toInCall.same fun h₁ tk qq0=>?_;subst qq0
  have F₁:=frameOK (vars:=vars) (a:=gaddr g) R F.sc F.selfL F.glob F.bi hl hv hme I
  have g₁:=R.grab (s₁:=⟨h₁,s.gens,s.drawn,tk,s.os⟩) I.toInCall.keep ⟨rfl,rfl⟩
  have body:=kSs_ok CO d.body (env:=callEnvC fd s.heap.objs.size (gaddr g)) F.ck ⟨rfl,F.lam⟩
  rw [F.em] at body
  refine codeAny_func (wpAny_mono (body _ p (A.deeper (callEnvC fd s.heap.objs.size (gaddr g))) _ ⟨vars,me⟩ σ ⟨h₁,s.gens,s.drawn,tk,s.os⟩ K (fun(f:Flow) s'=>Rr (.ok (.ret (match f with | .ret v=>v | _=>.none))) s') ⟨hA,by show A.depth + 1 + 3 * C.n≤900;omega,by show A.units + 3 + 20 * C.n≤9000;omega⟩ F₁ g₁ e fun W' s' fl f fr' σ' L F' g' hf e=>?_) (fun uu uu x=>x) fun uu uu x=>x.elim)
  have L':W.L0 W':=((Wd.grab_le (W:=W) (h:=h₁)).up.trans L).mono fun b o e xb=>?_
  ·refine h _ _ W' s' fl _ fr' σ' L' F' g' ?_ (fun hm=>⟨.inr (.inr ⟨hm,.inl rfl⟩),.inr (.inr ⟨hm,.inr rfl⟩)⟩) e
   cases fl with
   | next=>cases (hf:f=.next);rfl
   | ret v=>obtain ⟨r,rfl,hr⟩:=hf;exact hr
  ·have no:W.pl b=.no:=by
    rcases xb with rfl | ⟨y,_,hc⟩ | ⟨hm,hb⟩
    ·exact R.new_no
    ·exact R.no (Heap.get?_none_of_le (Nat.le_of_lt (I.above _ _ (mem_of_lookup_some hc))))
    ·refine an5 (hme.self hm) fun uu uu n1 n2 uu=>?_
     rcases hb with rfl | rfl
     ·exact n1
     ·exact n2
   exact nomatch e.symm.trans no
end
end E
end Mine
end
section
namespace Mine
namespace E
open PySem PySem.W PyProof.Rows
theorem tc_weight (C:Addr) (rest:List Value):(Code.builtin "type.__call__" ⟨.ref C::rest,[]⟩).weight=1:=by kernel_rfl
theorem tc_units (C:Addr) (rest:List Value):(Code.builtin "type.__call__" ⟨.ref C::rest,[]⟩).cUnits=1:=by kernel_rfl
section
variable {D:Dx} {n:Nat} {W:Wd} {σ:St} {s:Shared} {A:Around}
set_option tactic.hygienic true in
theorem dflt_any {P:Params} {g:Gl} {d:FnDef} {o:Obj} {fd:FuncData} (hd:fdef g=some d) (ho:(KC P).lookup (gaddr g)=some o) (hf:o.data=.func fd) (X:(KC P).In s.heap):
  ∃ ds,∀ {M:Model} {A:Around} {E:Value→Shared→Prop} {Q:Option (Array Value)→Shared→Prop},Q ds s→wpAny M A (seqItems? fd.defaults) Q E s:=by
 have h:=of_map_eq (st_df P) g (fdef_mem hd)
 unfold dfltCk at h
 split at h
 ·rename_i d' c dc fd' sl e1 e2
  rw [ho] at e2;cases e2
  cases hf
  have h1:=(a2 h).1
  split at h1
  ·rename_i hn
   refine ⟨none,fun {M A E Q} q=>?_⟩
   rw [hn];exact wpAny_pure q
  ·rename_i a ha
   split at h1
   ·rename_i c' d2 items m sl' hl
    refine ⟨some items,fun {M A E Q} q=>?_⟩
    rw [ha];exact wpAny_seqItems (X _ _ hl) rfl q
   ·cases h1
  ·cases h1
 ·cases h
set_option tactic.hygienic true in
theorem dflt_last (R:Rel D W σ s) {g:Gl} {d:FnDef} {o:Obj} {fd:FuncData} {v:V} (hd:fdef g=some d) (ho:(KC D.w.params).lookup (gaddr g)=some o) (hf:o.data=.func fd) (hl:d.defaults.getLast?=some v):
  ∃ ds pre r,(∀ {M:Model} {A:Around} {E:Value→Shared→Prop} {Q:Option (Array Value)→Shared→Prop},Q (some ds) s→wpAny M A (seqItems? fd.defaults) Q E s)∧ds.toList=pre++[r]∧ds.toList.length≤d.params.length∧1≤d.params.length∧VR D.w W v r:=by
 have h:=of_map_eq (st_df D.w.params) g (fdef_mem hd)
 unfold dfltCk at h
 split at h
 ·rename_i d' c dc fd' sl e1 e2
  rw [ho] at e2;cases e2
  cases hf
  rw [hd] at e1;cases e1
  have h1:=(a2 h).2
  rw [hl] at h1
  dsimp only at h1
  split at h1
  ·rename_i a ha
   split at h1
   ·rename_i c' d2 items m sl' hlk
    refine an2 (a2 h1) fun z z3=>?_
    refine an2 (a2 z) fun z1 z2=>?_
    split at z3
    ·rename_i r hr
     refine ex1 (List.getLast?_eq_some_iff.mp hr) fun pre hpre=>?_
     refine ⟨items,pre,r,fun {M A E Q} q=>?_,hpre,Nat.le_of_ble_eq_true z2,Nat.le_of_ble_eq_true z1,?_⟩
     ·rw [ha];exact wpAny_seqItems (R.B _ _ hlk) rfl q
     ·split at z3
      ·exact .noneI
      ·rw [beq_iff_eq.mp z3];exact .boolI
      ·split at z3
       ·rename_i e _ T rs k sl2 he
        refine an2 (a2 z3) fun y y3=>?_
        refine an2 (a2 y) fun y1 y2=>?_
        cases of_decide_eq_true y1
        have hrs:rs=#[]:=by
         split at y2
         ·rename_i q;exact Array.ext' q
         ·cases y2
        have hsl:sl2=#[]:=by
         split at y3
         ·rename_i q;exact Array.ext' q
         ·cases y3
        subst hrs hsl
        exact .tupI _ _ _ (R.base _ _ he) ⟨#[],k,rfl,.nil⟩
       ·cases z3
      ·cases z3
    ·cases z3
   ·cases h1
  ·cases h1
 ·cases h
theorem bindOk (R:Rel D W σ s) {g:Gl} {d:FnDef} {vs:List V} {rs:List Value} {K:List (Nm×V)→Prop} (hd:fdef g=some d) (e:O (d.bind vs) K) (hl:rs.length=vs.length):
  ∃ ext extr,d.params.length=(rs++extr).length∧K (d.params.zip (vs++ext))∧F2 (VR D.w W) ext extr∧
   (∀(o fd ps dx body),FnFact (KC D.w.params) d g o fd ps dx body (lamB g)→∀ {A:Around} {E:Value→Shared→Prop} {Q:List (Str×Value)→Shared→Prop},Q ((d.params.map nstr).zip (rs++extr)) s→wpAny (model pw₀ D.w) A (bindArgs fd ⟨rs,[]⟩) Q E s):=by
 have e:O (if vs.length=d.params.length then some (d.params.zip vs) else if vs.length + 1=d.params.length then d.defaults.getLast?.map fun x=>d.params.zip (vs++[x]) else .none) K:=e
 by_cases hlen:vs.length=d.params.length
 ·rw [if_pos hlen] at e
  refine ⟨[],[],by rw [List.append_nil];omega,by rw [List.append_nil];exact e,.nil,fun o fd ps dx body F {A E Q} q=>?_⟩
  refine ex1 (dflt_any (s:=s) hd F.look F.data R.B) fun ds hds=>?_
  have hps:ps.length=rs.length:=by have:=congrArg List.length F.names;simp at this;omega
  rw [← F.names,List.append_nil] at q
  exact bind_plain (ds:=ds) F.params (fun q=>hds q) (by rw [F.names];exact nodup_str F.sc.nodup) hps q
 ·rw [if_neg hlen] at e
  refine O_ite e fun hlen e=>O_elim (O_map e) fun x e1 e=>?_
  refine ex5 (fn_fact D.w.params hd) fun o fd ps dx body F=>?_
  refine ex3 (dflt_last R hd F.look F.data e1) fun ds pre r hh=>an5 hh fun h1 h2 h3 h4 h5=>?_
  refine ⟨[x],[r],by rw [List.length_append,hl,← hlen];rfl,e,.cons h5 .nil,fun o' fd' ps' dx' body' F' {A E Q} q=>?_⟩
  cases Option.some.inj (F'.look.symm.trans F.look)
  cases Data.func.inj (F'.data.symm.trans F.data)
  obtain ⟨ns,z,hz⟩:∃ ns z,d.params=ns++[z]:=⟨d.params.dropLast,d.params.getLast (fun q=>by rw [q] at h4;simp at h4),(List.dropLast_concat_getLast _).symm⟩
  have hz':d.params.map nstr=ns.map nstr++[nstr z]:=by rw [hz];simp
  rw [hz'] at q
  refine bind_last (ds:=ds) (pre:=pre) (d:=r) F'.params (F'.names.trans hz') (fun q=>h1 q) h2 ?_ (by rw [← hz'];exact nodup_str F'.sc.nodup) ?_ q
  ·rw [hz] at h3;simpa using h3
  ·rw [hz] at hlen;simp at hlen;rw [List.length_map];omega
theorem callWants {w:World} {rf:Value} {rs:List Value} {Q:Value→Shared→Prop} (h:codeAny (model pw₀ w) A (.call rf ⟨rs,[]⟩) (fun r s'=>match r with | .ok (.ret v)=>Q v s' | .ok _=>False | .error e=>noE e s') s):wpAny (model pw₀ w) A (PySem.call rf rs) Q noE s:=wpAny_call h
theorem FlV {w:World} {fl:Fl} {r:Value} (h:match fl with | .next=>r=.none | .ret v=>VR w W v r):VR w W (flV fl) r:=by
 cases fl with
 | next=>cases (h:r=.none);exact .noneI
 | ret v=>exact h
theorem MeOk.none {C:Cx} {ps:List Nm} {rs:List Value} {p:Addr×Addr}:MeOk C W s ps rs p none:=⟨fun h=>(nomatch h),fun uu uu h=>no_some h⟩
theorem callDef (CO:CallOK ⟨D,n⟩ (callG wid n)) {g:Gl} {d:FnDef} {args:List V} {rs:List Value} {K:V→St→Prop} {Q:Value→Shared→Prop} (hd:fdef g=some d) (a:AOk A (n + 1)) (R:Rel D W σ s) (hv:F2 (VR D.w W) args rs)
  (e:O (d.bind args) fun vars=>execCs wid (callG wid n) d.body ⟨vars,.none⟩ σ fun fl uu σ=>K (flV fl) σ) (q:Kt ⟨D,n + 1⟩ W (VR D.w) K Q):wpAny (model pw₀ D.w) A (PySem.call (.ref (gaddr g)) rs) Q noE s:=by
 refine e2a4 (bindOk R hd e hv.len) fun ext extr h1 e h4 h5=>?_
 exact callWants (fnRun (C:=⟨D,n⟩) (p:=(0,0)) CO hd a.handled (by have:=a.depth;show A.depth + 1 + 3 * n≤900;omega) (by have:=a.units;show A.units + 3 + 20 * n≤9000;omega) R h1 (fun o fd ps dx body F {Q} q=>h5 o fd ps dx body F q) (fun x v h=>zip_get (.append h4 hv) h) .none e fun X env W' s' fl r fr' σ' L F' g' hr uu e=>q W' s' _ r σ' L g' (FlV hr) e)
end
end E
end Mine
end
section
namespace Mine
namespace E
open PySem PySem.W PyProof.Rows
section
variable {D:Dx} {n:Nat} {W:Wd} {σ:St} {s:Shared} {A:Around}
theorem inst_new {C:Addr} (h:Heap):((h.push emptyDict).push (instObj C h.objs.size)).get? (h.objs.size + 1)=some (instObj C h.objs.size)∧((h.push emptyDict).push (instObj C h.objs.size)).get? h.objs.size=some emptyDict∧
  (∀ b o,h.get? b=some o→((h.push emptyDict).push (instObj C h.objs.size)).get? b=some o):=by
 refine ⟨?_,Heap.get?_push_of_some _ (Heap.get?_push_size _ rfl),fun b o e=>Heap.get?_push_of_some _ (Heap.get?_push_of_some _ e)⟩
 have:=Heap.get?_push_size (h.push emptyDict) (o:=instObj C h.objs.size) rfl
 rwa [Heap.size_push] at this
theorem empty_fld {w:World} {P:VP}:FldO w P [] emptyDict:=⟨[],dict_nil ⟨rfl,rfl,rfl⟩ rfl,.nil⟩
theorem cls_mem {c:Gl} {q:Gl×Bool} (hi:cinit c=some q):c∈clsL:=by
 have:=glP (p:=fun c=> !(cinit c).isSome||clsL.contains c) (by decide +kernel) c
 try dsimp only at this
 rw [hi] at this
 exact glMem this
theorem st_gvc:clsL.map gvalue=clsL.map fun g=>.ref (gaddr g):=by kernel_rfl
set_option tactic.hygienic true in
theorem cls_fact (P:Params) {c i:Gl} {fz:Bool} (hi:cinit c=some (i,fz)):makesIn (KC P) (gaddr c)=true∧findIn (KC P) (.ref (gaddr c)) "__init__"=some (some (.ref (gaddr i)))∧typeIn (KC P) (.ref (gaddr i))=some (.type "function")∧∃ d r,fdef i=some d∧d.params=(.H .xb)::r:=by
 have h:=of_map_eq (st_cc P) c (cls_mem hi)
 unfold clsCk at h
 rw [hi] at h
 refine an2 (a2 h) fun h h4=>?_
 refine an2 (a2 h) fun h h3=>?_
 refine an2 (a2 h) fun h1 h2=>?_
 refine ⟨h1,?_,?_,?_⟩
 ·split at h2
  ·rename_i f hf;rw [hf,Nat.eq_of_beq_eq_true h2]
  ·cases h2
 ·split at h3
  ·rename_i T hT;rw [hT,of_decide_eq_true h3]
  ·cases h3
 ·split at h4
  ·rename_i d hd
   split at h4
   ·rename_i r hr;exact⟨d,r,hd,hr⟩
   ·cases h4
  ·cases h4
theorem AOk.cls {C:Addr} {rest:List Value} (a:AOk A (n + 1)):(A.under (.builtin "type.__call__" ⟨.ref C::rest,[]⟩)).handled=none∧(A.under (.builtin "type.__call__" ⟨.ref C::rest,[]⟩)).depth + 1 + 3 * n≤900∧(A.under (.builtin "type.__call__" ⟨.ref C::rest,[]⟩)).units + 3 + 20 * n≤9000:=by
 refine ⟨a.handled,?_,?_⟩
 ·show A.depth + (Code.builtin "type.__call__" ⟨.ref C::rest,[]⟩).weight + 1 + 3 * n≤900
  rw [tc_weight];have:=a.depth;omega
 ·show A.units + (Code.builtin "type.__call__" ⟨.ref C::rest,[]⟩).cUnits + 3 + 20 * n≤9000
  rw [tc_units];have:=a.units;omega
theorem callCls (CO:CallOK ⟨D,n⟩ (callG wid n)) {c i:Gl} {fz:Bool} {d:FnDef} {args:List V} {rs:List Value} {K:V→St→Prop} {Q:Value→Shared→Prop} (hi:cinit c=some (i,fz)) (hd:fdef i=some d) (a:AOk A (n + 1)) (R:Rel D W σ s) (hv:F2 (VR D.w W) args rs)
  (e:match fz with
   | true=>O (d.bind (.none::args)) fun vars=>execCs wid (callG wid n) d.body ⟨vars.tail,some (c,[])⟩ σ fun fl fr σ=>match fl with
    | .next=>O fr.me fun q=>K (.inst q.1 q.2) σ
    | .ret _=>False
   | false=>O (d.bind (.ref σ.next::args)) fun vars=>execCs wid (callG wid n) d.body ⟨vars,.none⟩ (σ.new (.inst c [])) fun fl uu σ'=>match fl with
    | .next=>K (.ref σ.next) σ'
    | .ret _=>False) (q:Kt ⟨D,n + 1⟩ W (VR D.w) K Q):wpAny (model pw₀ D.w) A (PySem.call (.ref (gaddr c)) rs) Q noE s:=by
 obtain ⟨m1,m2,m3,d2,ps,m4,m5⟩:=cls_fact D.w.params hi
 cases hd.symm.trans m4
 refine callWants ?_
 obtain ⟨hh,g,dr,t,os⟩:=s
 refine make_core (makes_of R.B m1) (looks_findIn R.B m2) (fun self=>bind_fn R.B self m3) (.inl rfl) ?_
 obtain ⟨g1,g2,kp⟩:=inst_new (C:=gaddr c) hh
 have nx:W.pl (hh.objs.size + 1)=.no:=R.no (Heap.get?_none_of_le (Nat.le_succ _))
 have nd:W.pl hh.objs.size=.no:=R.new_no
 obtain ⟨b1,b2,b3⟩:=a.cls (C:=gaddr c) (rest:=rs)
 cases fz with
 | true=>
  have R₁:Rel D W σ ⟨(hh.push emptyDict).push (instObj (gaddr c) hh.objs.size),g,dr,t,os⟩:=R.ext (fun b o uu uu=>kp b o) ⟨rfl,rfl⟩
  obtain ⟨ext,extr,h1,e,h4,h5⟩:=bindOk R₁ (rs:=.ref (hh.objs.size + 1)::rs) hd e (congrArg (fun uu=>uu + 1) hv.len)
  have e:execCs wid (callG wid n) d.body ⟨ps.zip (args++ext),some (c,[])⟩ σ fun fl fr σ=>match fl with | .next=>O fr.me fun q=>K (.inst q.1 q.2) σ | .ret _=>False:=by rw [m5] at e;exact e
  have full:(d.params.map nstr).zip (.ref (hh.objs.size + 1)::rs++extr)=(nstr (.H .xb),.ref (hh.objs.size + 1))::(ps.map nstr).zip (rs++extr):=by rw [m5];rfl
  refine fnRun (C:=⟨D,n⟩) (p:=(hh.objs.size + 1,hh.objs.size)) CO hd b1 b2 b3 R₁ h1 (fun o fd ps dx body F {Q} q=>h5 o fd ps dx body F q) (fun x v h=>?_) ⟨fun uu=>⟨⟨ps,m5⟩,by rw [full];exact .head _,nx,nd,Nat.succ_ne_self _⟩,fun c' fs' e=>by cases e;exact⟨g1,_,g2,empty_fld⟩⟩ e fun X env W' s' fl r fr' σ' L F' g' hr uu e=>?_
  ·obtain ⟨r,z1,z2⟩:=zip_get (.append h4 hv) h
   exact⟨r,by rw [full];exact .tail _ z1,z2⟩
  ·cases fl with
   | ret _=>exact e.elim
   | next=>
    cases (hr:r=.none)
    refine ⟨rfl,O_elim e fun u hu e=>?_⟩
    obtain ⟨-,n1, -, -, -,p1,od,p2,FF⟩:=F'.me u.1 u.2 hu
    have p1':(W'.put hh.objs.size (.fz od)).pl (hh.objs.size + 1)=.pv (instObj (gaddr u.1) hh.objs.size):=(Wd.put_ne n1).trans p1
    have M₁:=Wd.mine_pv p2
    have M₂:=Wd.mine_pv p1'
    have g₁:Rel D (W'.put hh.objs.size (.fz od)) σ' s':=g'.put M₁ (g'.pv p2) (fun uu uu uu uu e=>e) ⟨rfl,rfl⟩
    refine q _ s' (.inst u.1 u.2) _ σ' ((L.own nd M₁).own nx M₂) (g₁.put (x:=.fz (instObj (gaddr u.1) hh.objs.size)) M₂ (g₁.pv p1') (fun uu uu uu uu e=>e) ⟨rfl,rfl⟩) (.mk ⟨_,_,rfl,Wd.put_eq,_,od,rfl,(Wd.put_ne (Ne.symm n1)).trans Wd.put_eq,(FF.imp (VR.les (M₁.le (X:=fun uu=>True) fun uu uu=>trivial))).imp (VR.les (M₂.le (X:=fun uu=>True) fun uu uu=>trivial))⟩) e
 | false=>
  obtain ⟨L₁,R₁⟩:=R.new (s':=⟨(hh.push emptyDict).push (instObj (gaddr c) hh.objs.size),g,dr,t,os⟩) nx nd (m:=.inst c []) (fun W' L=>⟨g1,Nat.succ_ne_self _,_,g2,empty_fld⟩) (fun b o uu uu=>kp b o) ⟨rfl,rfl⟩
  have hvs:F2 (VR D.w (W.more σ.next (hh.objs.size + 1) hh.objs.size)) (.ref σ.next::args) (.ref (hh.objs.size + 1)::rs):=.cons (.refI (if_pos rfl)) (hv.imp (VR.les L₁))
  obtain ⟨ext,extr,h1,e,h4,h5⟩:=bindOk R₁ hd e hvs.len
  refine fnRun (C:=⟨D,n⟩) (p:=(0,0)) CO hd b1 b2 b3 R₁ h1 (fun o fd ps dx body F {Q} q=>h5 o fd ps dx body F q) (fun x v h=>zip_get (.append h4 hvs) h) .none e fun X env W' s' fl r fr' σ' L F' g' hr uu e=>?_
  cases fl with
  | ret _=>exact e.elim
  | next=>
   cases (hr:r=.none)
   exact⟨rfl,q W' s' _ _ σ' (L₁.trans L) g' (.refI (L.mu _ _ (if_pos rfl))) e⟩
end
end E
end Mine
end
section
namespace Mine
namespace E
open PySem PySem.W PyProof.Rows
noncomputable def lamRunCk (k:Lm):Bool:=
 argsNm (gar (lamAt k)).args (lamParams k)&&nodupN (lamParams k)&&(match (gsc (lamAt k)).kind with | .function=>true | _=>false)&& !(gsc (lamAt k)).isCoroutine&& !(gsc (lamAt k)).isGenerator&&
  allP (fun y=>match y.2 with | .cell=>false | _=>true) (gsc (lamAt k)).names&&allP (fun p=>kindIs (gsc (lamAt k)) (nstr p) .local) (lamParams k)&&allP (fun p=>kindIs (gsc (lamAt k)) (nstr p) .free) (lamFree k)&&kX false (lamBody k) (gsc (lamAt k)) (g1 (lamAt k))
theorem st_lr:∀ k,lamRunCk k=true:=by intro k;cases k<;>kernel_rfl
theorem st_le (k:Lm):eX (lamBody k) (g1 (lamAt k))=g1 (lamAt k):=by cases k<;>kernel_rfl
theorem st_la (k:Lm):lamAt k=.Lambda ⟨[],(gar (lamAt k)).args,none,[],[],none,(gar (lamAt k)).defaults⟩ (g1 (lamAt k)) (gsc (lamAt k)) (lamAt k).pos:=by cases k<;>kernel_rfl
structure LamRun (k:Lm) (ps:List Arg) (dx:List Expr) (body:Expr) (sc:Scope) (pos:Pos):Prop where
 at_:lamAt k=.Lambda ⟨[],ps,none,[],[],none,dx⟩ body sc pos
 names:ps.map (fun uu=>uu.arg)=(lamParams k).map nstr
 nodup:(lamParams k).Nodup
 kind:sc.kind=.function
 co:sc.isCoroutine=false
 gen:sc.isGenerator=false
 cell:∀ y∈sc.names,y.2≠ .cell
 par:∀ p∈lamParams k,sc.names.lookup (nstr p)=some .local
 free:∀ p∈lamFree k,sc.names.lookup (nstr p)=some .free
 ck:kX false (lamBody k) sc body=true
 em:eX (lamBody k) body=body
theorem lam_run (k:Lm):∃ ps dx body sc pos,LamRun k ps dx body sc pos:=by
 have h:=st_lr k
 unfold lamRunCk at h
 simp only [Bool.and_eq_true,Bool.not_eq_true'] at h
 obtain ⟨⟨⟨⟨⟨⟨⟨⟨h1,h2⟩,h3⟩,h4⟩,h5⟩,h6⟩,h7⟩,h8⟩,h9⟩:=h
 refine ⟨_,_,_,_,_,st_la k,argsNm_eq h1,nodupN_eq h2,?_,h4,h5,fun y hy q=>?_,fun p hp=>kindIs_eq (allP_iff h7 p hp),fun p hp=>kindIs_eq (allP_iff h8 p hp),h9,st_le k⟩
 ·cases q:(gsc (lamAt k)).kind<;>first | rfl | (rw [q] at h3;cases h3)
 ·have:=allP_iff h6 y hy;rw [q] at this;cases this
theorem getL?_append {n:Nm} {v:V}:∀ {a b:List (Nm×V)},getL? n (a++b)=some v→getL? n a=some v∨getL? n b=some v
 | [],b,h=>.inr h
 | (m,u)::a,b,h=>by
  have h:(if m=n then some u else getL? n (a++b))=some v:=h
  show (if m=n then some u else getL? n a)=some v∨_
  by_cases q:m=n
  ·rw [if_pos q] at h ⊢;exact .inl h
  ·rw [if_neg q] at h ⊢;exact getL?_append h
theorem getL?_name {n:Nm} {v:V}:∀ {a:List (Nm×V)},getL? n a=some v→n∈a.map (fun uu=>uu.1)
 | (m,u)::a,h=>by
  have h:(if m=n then some u else getL? n a)=some v:=h
  by_cases q:m=n
  ·exact q▸ .head _
  ·rw [if_neg q] at h;exact .tail _ (getL?_name h)
theorem lookup_rev {l:List (Str×Value)} {x:Str} {v:Value} (hn:(l.map (fun uu=>uu.1)).Nodup) (h:(x,v)∈l):l.reverse.lookup x=some v:=by
 have hm:(x,v)∈l.reverse:=List.mem_reverse.mpr h
 have hn':(l.reverse.map (fun uu=>uu.1)).Nodup:=by rw [List.map_reverse];exact((List.reverse_perm _).nodup_iff.mpr hn)
 clear h hn
 generalize l.reverse=m at hm hn'
 induction m with
 | nil=>cases hm
 | cons a m ih=>
  obtain ⟨b,u⟩:=a
  rw [List.map_cons,List.nodup_cons] at hn'
  rcases List.mem_cons.mp hm with e | hm
  ·cases e;rw [List.lookup_cons,beq_self_eq_true]
  ·have:(x==b)=false:=beq_false_of_ne fun q=>hn'.1 (by rw [← q];exact List.mem_map_of_mem (f:=(fun uu=>uu.1)) hm)
   rw [List.lookup_cons,this]
   exact ih hm hn'.2
section
variable {D:Dx} {n:Nat} {W:Wd} {σ:St} {s:Shared} {A:Around}
theorem callClo (CO:CallOK ⟨D,n⟩ (callG wid n)) {k:Lm} {cs:List (Nm×V)} {args:List V} {rf:Value} {rs:List Value} {K:V→St→Prop} {Q:Value→Shared→Prop} (a:AOk A (n + 1)) (R:Rel D W σ s) (hf:VR D.w W (.clo k cs) rf) (hv:F2 (VR D.w W) args rs)
  (hl:args.length=(lamParams k).length) (hc:cs.map (fun uu=>uu.1)=lamFree k) (e:evalC wid (callG wid n) (lamBody k) ⟨(lamParams k).zip args++cs,.none⟩ σ K) (q:Kt ⟨D,n + 1⟩ W (VR D.w) K Q):
  wpAny (model pw₀ D.w) A (PySem.call rf rs) Q noE s:=by
 obtain ⟨f,o,rfl,hfz,fd,hfd,hL,hcr,c,oc,vs,t,hcode,hcz,hcd,hcv⟩:=hf.out
 refine ex5 (lam_run k) fun ps dx body sc pos F=>?_
 unfold LamOf at hL
 rw [F.at_] at hL
 refine an7 hL fun p1 p2 p3 p4 p5 p6 p7=>?_
 have hrl:rs.length=args.length:=hv.len
 have hps:ps.length=rs.length:=by have:=congrArg List.length F.names;simp at this;omega
 have hl':(lamParams k).length=rs.length:=by omega
 have hn:((((lamParams k).map nstr).zip rs).map (fun uu=>uu.1)).Nodup:=by rw [zip_names hl'];exact nodup_str F.nodup
 refine callWants (kla_callFunE (by show A.depth < 1000;have:=a.depth;omega) (R.fz hfz) hfd (by rw [p3];exact F.co) (by rw [p3];exact F.gen) p2 ⟨c,oc,vs,t,hcode,R.fz hcz,hcd,hcv⟩ ?_)
 refine bind_plain (ds:=none) p1 (fun q=>by rw [p6];exact wpAny_pure q) (by rw [F.names];exact nodup_str F.nodup) hps ?_
 rw [F.names,p3]
 refine wpAny_newFunctionEnv F.cell (fun x hx=>?_) (fun h₁ hns hsb=>?_) F.kind
 ·refine e1a2 (List.mem_map.mp (List.of_mem_zip hx).1) fun p hp e=>?_
  rw [← e];exact F.par p hp
 ·refine ⟨(noLimit_K R.B).keeps fun b o e=>hsb.extBut b o (Nat.ne_of_lt (Heap.lt_size e)) (Heap.get?_push_of_some _ e),?_⟩
  have nL:=R.new_no
  obtain ⟨oL,gL⟩:∃ o,h₁.get? s.heap.objs.size=some o:=let ⟨o,_,_,g,_⟩:=hns;⟨o,g⟩
  have L:W.L0 (W.put s.heap.objs.size (.pv oL)):=Wd.le_no nL
  have g₁:Rel D (W.put s.heap.objs.size (.pv oL)) σ ⟨h₁,s.gens,s.drawn,s.toks + (((lamParams k).map nstr).zip rs).length,s.os⟩:=R.put (Wd.mine_no nL) gL (fun b o hb uu e=>by rw [hsb.2 b hb];exact Heap.get?_push_of_some _ e) ⟨rfl,rfl⟩
  have fr:FrR D.w (fun b=>b=s.heap.objs.size) (newEnv sc s.heap.objs.size fd.globals fd.closure (fd.qualname++".<locals>.") (some f) fd.code none fd.builtins) ⟨(lamParams k).zip args++cs,.none⟩ (W.put s.heap.objs.size (.pv oL)):=by
   refine ⟨F.kind,p4,p5,fun x v e kx=>?_,fun b hb=>.inl ⟨oL,hb▸Wd.put_eq⟩,fun x kx=>absurd rfl (F.cell _ (mem_of_lookup_some kx))⟩
   rcases getL?_append e with e | e
   ·refine e1a2 (zip_get hv e) fun r hm hr=>?_
    refine ⟨r,?_,hr.le L⟩
    refine e1a2 (List.mem_map.mp (List.of_mem_zip hm).1) fun p hp z=>?_
    have pl:=F.par p hp
    rw [z] at pl
    exact .loc pl Wd.put_eq rfl (NsO.of hns gL) (lookup_rev hn hm)
   ·refine ex3 (hcr _ _ e) fun c o x' hh=>an4 hh fun z1 z2 z3 z4=>?_
    have:=getL?_name e
    rw [hc] at this
    exact⟨x',.cel (.inr (F.free x this)) z1 (.inr (L.fz _ _ z2)) z3,z4.le L⟩
  have body:=kX_ok CO (lamBody k) (env:=newEnv sc s.heap.objs.size fd.globals fd.closure (fd.qualname++".<locals>.") (some f) fd.code none fd.builtins) F.ck ⟨rfl,nofun⟩
  rw [F.em] at body
  exact kla_codeExpr (wpAny_mono (body.val _ _ _ fr (A.deeper _) σ _ K (fun v s'=>Q v s') a.deeper g₁ e fun W' s' v r σ' L' g' hv e=>q W' s' v r σ' (L.trans L') g' hv e) (fun uu uu x=>x) fun uu uu x=>x.elim)
theorem callOK (D:Dx):∀ n,CallOK ⟨D,n⟩ (callG wid n)
 | 0=>fun f args rf rs W hf hv A σ s K Q a R e q=>e.elim
 | n + 1=>fun f args rf rs W hf hv A σ s K Q a R e q=>by
  have CO:=callOK D n
  cases f with
  | glob g=>
   cases (hf.out:_=_)
   have e:(match fdef g with
    | some d=>O (d.bind args) fun vars=>execCs wid (callG wid n) d.body ⟨vars,.none⟩ σ fun fl uu σ=>K (flV fl) σ
    | .none=>O (cinit g) fun p=>O (fdef p.1) fun d=>match p.2 with
     | true=>O (d.bind (.none::args)) fun vars=>execCs wid (callG wid n) d.body ⟨vars.tail,some (g,[])⟩ σ fun fl fr σ=>match fl with
      | .next=>O fr.me fun q=>K (.inst q.1 q.2) σ
      | .ret _=>False
     | false=>O (d.bind (.ref σ.next::args)) fun vars=>execCs wid (callG wid n) d.body ⟨vars,.none⟩ (σ.new (.inst g [])) fun fl uu σ'=>match fl with
      | .next=>K (.ref σ.next) σ'
      | .ret _=>False):=e
   cases hd:fdef g with
   | some d=>
    rw [hd] at e
    show wpAny (model pw₀ D.w) A (PySem.call (gvalue g) rs) Q noE s
    rw [fn_value hd]
    exact callDef CO hd a R hv e q
   | none=>
    rw [hd] at e
    refine O_elim e fun p hp e=>O_elim e fun d hd e=>?_
    show wpAny (model pw₀ D.w) A (PySem.call (gvalue g) rs) Q noE s
    rw [show gvalue g=_ from of_map_eq st_gvc g (cls_mem hp)]
    exact callCls CO hp hd a R hv e q
  | clo k cs=>
   have e:(match args.length=(lamParams k).length&&decide (cs.map (fun uu=>uu.1)=lamFree k) with
    | true=>evalC wid (callG wid n) (lamBody k) ⟨(lamParams k).zip args++cs,.none⟩ σ K
    | false=>False):=e
   cases hg:(args.length=(lamParams k).length&&decide (cs.map (fun uu=>uu.1)=lamFree k):Bool) with
   | false=>rw [hg] at e;exact e.elim
   | true=>
    rw [hg] at e
    refine an2 (a2 hg) fun h1 h2=>?_
    exact callClo CO a R hf hv (of_decide_eq_true h1) (of_decide_eq_true h2) e q
  | _=>exact e.elim
end
end E
end Mine
end
section
namespace Mine
namespace E
open PySem PySem.W PyProof.Rows
theorem tab_in (P:Params):Frag.In [(1401,tabObj #[])] (H₁ P):=frag_of (n:=1405) (by kernel_rfl) (by kernel_rfl)
theorem law_at (P:Params):nsK (KC P) 3 "law"=some (.ref (gaddr (.I .xa))):=by kernel_rfl
theorem no_tab (P:Params):(KC P).lookup 1401=none:=by kernel_rfl
theorem list_ints:∀ {xs:List WData},WShape.hasItems [] xs .int=true→∃ ns:List Int,xs=ns.map .int
 | [],_=>⟨[],rfl⟩
 | x::xs,h=>by
  simp only [WShape.hasItems,Bool.and_eq_true] at h
  refine ex1 (hasW_int h.1) fun i qq0=>?_;subst qq0
  refine ex1 (list_ints h.2) fun ns qq0=>?_;subst qq0
  exact⟨i::ns,rfl⟩
theorem pre_of {args:List WData} (h:row₀.toRowW.claim.pre args=true):∃ ns:List Int,args=[.list (ns.map .int)]∧ns.length≤63:=by
 refine an2 (pre_splitW h) fun h1 h2=>?_
 have h1:WShape.hasAll [] args [.list .int]=true:=h1
 refine e2a3 (hasAllW_cons h1) fun d r qq0 h3 h4=>?_;subst qq0
 have:=hasAllW_nil h4
 subst this
 refine e1a2 (hasW_list h3) fun xs qq0 h5=>?_;subst qq0
 refine ex1 (list_ints h5) fun ns qq0=>?_;subst qq0
 refine ⟨ns,rfl,?_⟩
 have h2:WTm.holds [] (.and (.not (.lt (.lit (.int 63)) (.len (.arg 0)))) (.lit (.bool true))) {args:=[.list (ns.map .int)]}=true:=h2
 simp [WTm.holds,WTm.value] at h2
 split at h2
 ·rename_i q
  simp [less?,Num.less?] at q
  by_cases hq:ns.length≤63
  ·exact hq
  ·have:decide ((63:Int) < ns.length)=true:=decide_eq_true (by omega)
   rw [this] at q
   simp at q
 ·cases h2
theorem ints_VR {w:World} {W:Wd} {h:Heap}:∀ {ns:List Int} {vs:List Value},WellAll w.params h vs (ns.map .int)→F2 (VR w W) (ns.map .int) vs
 | [],vs,hw=>by cases hw;exact .nil
 | n::ns,vs,hw=>by
  rw [List.map_cons] at hw
  cases hw with
  | cons h1 h2=>
   cases h1
   exact .cons .intI (ints_VR h2)
noncomputable def σ0:St:=⟨fun n=>if n=0 then some (.tab []) else none,1⟩
noncomputable def W₀ (h:Heap):Wd:=⟨fun b=>if b=1401 then .mu 0 else match h.get? b with | some o=>.fz o | none=>.no,fun n=>if n=0 then some (lawTab,lawTab) else none⟩
theorem W₀_fz {h:Heap} {b:Addr} {o:Obj} (ne:b≠1401) (g:h.get? b=some o):(W₀ h).pl b=.fz o:=(if_neg ne).trans (by rw [g])
theorem W₀_rel {w:World} {s:Shared} (K:(KC w.params).In s.heap) (T:s.heap.get? 1401=some (tabObj #[])):Rel ⟨w,s⟩ (W₀ s.heap) σ0 s where
 base:=fun b o e=>W₀_fz (fun q=>by subst q;exact nomatch e.symm.trans (no_tab w.params)) (K b o e)
 ho:=fun b=>by
  by_cases q:b=1401
  ·subst q;exact⟨_,T⟩
  ·show Held s.heap b (if b=1401 then .mu 0 else match s.heap.get? b with | some o=>.fz o | none=>.no)
   rw [if_neg q]
   cases g:s.heap.get? b with
   | none=>trivial
   | some o=>exact g
 obj:=fun n m e=>by
  by_cases q:n=0
  ·subst q
   cases (e:some (MObj.tab [])=some m)
   exact⟨lawTab,lawTab,rfl,rfl,rfl,rfl,#[],T,rfl,trivial,fun k uu=>rfl⟩
  ·exact nomatch (if_neg q).symm.trans e
 lt:=fun n p e=>by
  by_cases q:n=0
  ·subst q;exact Nat.one_pos
  ·exact nomatch (if_neg q).symm.trans e
 io:=⟨rfl,rfl⟩
theorem holds_of (H:∀ ns:List Int,ns.length≤63→callG wid 40 (.glob (.I .xa)) [.lst (ns.map .int)] σ0 fun v σ'=>v=.bool true∧∃ l,σ'.objs 0=some (.tab l)):PySem.Challenge.rw_sa0524_01.Holds:=by
 refine head fun w s₀ s₁ mg mb G hh a o pm cd doc dV kV ho hd hcd hdf hmg hgens args vals as hpre hlay hrd hwell hne=>?_
 have hh:HeapHas w.params s₁.heap:=hh
 have K:(KC w.params).In s₁.heap:=fun b o e=>hh _ _ (KC_in w.params b o e)
 have T:s₁.heap.get? 1401=some (tabObj #[]):=hh _ _ (tab_in w.params _ _ rfl)
 have ha:a=gaddr (.I .xa):=by
  have h1:=(ns_K K (ns3 w.params)).eq_nsMap
  have h2:=G.T.g.eq_nsMap
  have h3:nsK (KC w.params) 3 "law"=mg "law":=congrFun (h1.trans h2.symm) _
  have hmg:mg "law"=some (.ref a):=hmg
  rw [hmg,law_at] at h3
  cases h3;rfl
 subst ha
 refine e1a2 (pre_of hpre) fun ns qq0 hl=>?_;subst qq0
 cases hwell with
 | cons h1 h2=>
  cases h2
  cases h1 with
  | @list sl vs _ hs hvs=>
   have nsl:sl≠1401:=fun q=>by
    rw [q,T] at hs
    cases hs
   have R:=W₀_rel K T
   refine wpAny_mono (callOK ⟨w,s₁⟩ 40 (.glob (.I .xa)) [.lst (ns.map .int)] (.ref (gaddr (.I .xa))) [.ref sl] (W₀ s₁.heap) (.mk rfl) (.cons (.lstI _ _ _ (W₀_fz nsl hs) ⟨vs.toArray,_,rfl,ints_VR hvs⟩) .nil) callerA σ0 s₁ _ _ ⟨rfl,by show 1 + 300 + 3 * 40≤900;omega,by show 4 + 20 * 40≤9000;omega⟩ R (H ns hl) fun W' s' v r σ' L g' hv e=>?_) (fun uu uu x=>x) fun uu uu x=>x.elim
   obtain ⟨rfl,l,htab⟩:=e
   cases (hv.out:_=_)
   obtain ⟨a',d',m1,m2,m3,rfl,ps,gP,hP, -⟩:=g'.obj 0 _ htab
   subst hP
   refine ⟨.inl ⟨.bool true,.bool true,[],rfl,fun uu=>rfl,.bool _,?_,fun uu=>⟨List.nodup_nil,fun a h=>by cases h⟩⟩,⟨fun b o e=>?_,fun b o e=>?_⟩,g'.io.2,AllBare.of_eq (g'.io.1.trans hgens)⟩
   ·show (WShape.has [] (.bool true) .bool&&WTm.holds [] (.eq .res (.lit (.bool true))) {args:=[.list (ns.map .int)],res:=some (.bool true),after:=[.list (ns.map .int)]})=true
    simp [WShape.has,WShape.arms,WTm.holds,WTm.value,same]
   ·by_cases q:b=1401
    ·subst q
     rw [T] at e;cases e
     exact .inr (.inl ⟨⟨1403,_,lawCodeVs,K _ _ (obj1403 w.params),rfl,rfl,rfl⟩,rfl,#[],ps,rfl,by rw [Array.empty_append];exact gP⟩)
    ·exact .inl (g'.fz (L.fz _ _ (W₀_fz q e)))
   ·by_cases q:b=1401
    ·subst q;exact⟨_,gP⟩
    ·exact⟨_,g'.fz (L.fz _ _ (W₀_fz q e))⟩
end E
end Mine
end
section
namespace Mine
namespace E
namespace L
section
variable {call:Call} {n:Nat} {σ:St} {fr:Fr} {K:V→St→Prop} {Q:Fl→Fr→St→Prop} {x:Nm}
theorem W_some {m:KV→Prop} (h:m K):W m K:=⟨h⟩
theorem W3_eq {m:KF→Prop} {K:KF}:W3 m K=m K:=propext ⟨W3.run,W3.mk⟩
theorem wst_id:wst=wid:=by
 show Wr.mk _ _ _=Wr.mk _ _ _
 congr
 ·exact funext fun m=>funext fun K=>propext ⟨W.run,W.mk⟩
 ·exact funext fun m=>funext fun K=>propext ⟨W3.run,W3.mk⟩
 ·exact funext fun m=>funext fun K=>propext ⟨WL.run,WL.mk⟩
theorem W_of {f:V} {args:List V} {v:V} {σ':St} (e:∀ K,callG wid n f args σ K=K v σ') (h:K v σ'):W (callF n f args σ) K:=⟨(congrArg (fun w=>callG w n f args σ K) wst_id).mpr ((e K).mpr h)⟩
theorem for_nil {b:Fr→St→KF→Prop} (h:Q .next fr σ):W3 (forLoop wst x b [] fr σ) Q:=⟨h⟩
theorem for_cons {body:List S} {v:V} {vs:List V} (h:O (asgN x v fr) fun fr=>execCs wst call body fr σ fun fl fr σ=>match fl with
  | .next=>W3 (forLoop wst x (fun f s=>execCs wst call body f s) vs fr σ) Q
  | .ret v=>Q (.ret v) fr σ):W3 (forLoop wst x (fun f s=>execCs wst call body f s) (v::vs) fr σ) Q:=⟨h⟩
theorem comp_nil {c:Option (Fr→St→KV→Prop)} {e:Fr→St→KV→Prop} {K:List V→St→Prop} (h:K [] σ):WL (compLoop wst x c e fr [] σ) K:=⟨h⟩
theorem comp_cons {elt:X} {v:V} {vs:List V} {K:List V→St→Prop} (h:evalC wst call elt (fr.set x v) σ fun y σ=>WL (compLoop wst x .none (fun f s=>evalC wst call elt f s) fr vs σ) fun ys σ=>K (y::ys) σ):
  WL (compLoop wst x .none (fun f s=>evalC wst call elt f s) fr (v::vs) σ) K:=⟨h⟩
theorem comp_consC {elt c:X} {v:V} {vs:List V} {K:List V→St→Prop} (h:evalC wst call c (fr.set x v) σ fun b σ=>O (truthy b) fun b=>match b with
  | true=>evalC wst call elt (fr.set x v) σ fun y σ=>WL (compLoop wst x (some fun f s=>evalC wst call c f s) (fun f s=>evalC wst call elt f s) fr vs σ) fun ys σ=>K (y::ys) σ
  | false=>WL (compLoop wst x (some fun f s=>evalC wst call c f s) (fun f s=>evalC wst call elt f s) fr vs σ) K):
  WL (compLoop wst x (some fun f s=>evalC wst call c f s) (fun f s=>evalC wst call elt f s) fr (v::vs) σ) K:=⟨h⟩
theorem W_def {g:Gl} {d:FnDef} {args:List V} {vars:List (Nm×V)} (hd:fdef g=some d) (hb:d.bind args=some vars) (h:execCs wst (callF n) d.body ⟨vars,.none⟩ σ fun fl uu σ=>K (flV fl) σ):W (callF (n + 1) (.glob g) args σ) K:=by
 constructor
 show match fdef g with
  | some d=>O (d.bind args) fun vars=>execCs wst (callF n) d.body ⟨vars,.none⟩ σ fun fl uu σ=>K (flV fl) σ
  | .none=>_
 rw [hd];exact O_of hb h
theorem W_no {g:Gl} {p:Gl×Bool} {d:FnDef} {args:List V} (h0:fdef g=none) (hi:cinit g=some p) (hd:fdef p.1=some d) (h:match (generalizing:=false) p.2 with
    | true=>O (d.bind (.none::args)) fun vars=>execCs wst (callF n) d.body ⟨vars.tail,some (g,[])⟩ σ fun fl fr σ=>match fl with
     | .next=>O fr.me fun q=>K (.inst q.1 q.2) σ
     | .ret _=>False
    | false=>O (d.bind (.ref σ.next::args)) fun vars=>execCs wst (callF n) d.body ⟨vars,.none⟩ (σ.new (.inst g [])) fun fl uu σ'=>match fl with
     | .next=>K (.ref σ.next) σ'
     | .ret _=>False):W (callF (n + 1) (.glob g) args σ) K:=by
 constructor
 show match fdef g with
  | some d=>O (d.bind args) fun vars=>execCs wst (callF n) d.body ⟨vars,.none⟩ σ fun fl uu σ=>K (flV fl) σ
  | .none=>_
 rw [h0];exact O_of hi (O_of hd h)
theorem W_fz {g i:Gl} {d:FnDef} {args:List V} {vars:List (Nm×V)} (h0:fdef g=none) (hi:cinit g=some (i,true)) (hd:fdef i=some d) (hb:d.bind (.none::args)=some vars)
  (h:execCs wst (callF n) d.body ⟨vars.tail,some (g,[])⟩ σ fun fl fr σ=>match fl with
     | .next=>O fr.me fun q=>K (.inst q.1 q.2) σ
     | .ret _=>False):W (callF (n + 1) (.glob g) args σ) K:=W_no h0 hi hd (O_of hb h)
theorem W_mu {g i:Gl} {d:FnDef} {args:List V} (h0:fdef g=none) (hi:cinit g=some (i,false)) (hd:fdef i=some d)
  (h:O (d.bind (.ref σ.next::args)) fun vars=>execCs wst (callF n) d.body ⟨vars,.none⟩ (σ.new (.inst g [])) fun fl uu σ'=>match fl with | .next=>K (.ref σ.next) σ' | .ret _=>False):W (callF (n + 1) (.glob g) args σ) K:=W_no h0 hi hd h
theorem W_clo {k:Lm} {cs:List (Nm×V)} {args:List V} (h0:(args.length=(lamParams k).length&&decide (cs.map (fun uu=>uu.1)=lamFree k))=true)
  (h:evalC wst (callF n) (lamBody k) ⟨(lamParams k).zip args++cs,.none⟩ σ K):W (callF (n + 1) (.clo k cs) args σ) K:=by
 constructor
 show match (decide (args.length=(lamParams k).length)&&decide (cs.map (fun uu=>uu.1)=lamFree k)) with | true=>_ | false=>False
 rw [h0];exact h
end
end L
end E
end Mine
end
section
namespace Mine
namespace E
namespace L
noncomputable abbrev dec (t:Int):V:=.inst (.A .x4) [((.K .x2),.int t),((.G .xc),.int 0)]
noncomputable def Nu (v:V) (t:Int):Prop:=v=dec t∨v=.int t
structure M where
 a:Int
 b:Int
 c:Int
 d:Int
 e:Int
 f:Int
namespace M
noncomputable abbrev v (m:M):V:=.inst (.B .xc) [((.A .x0),dec m.a),((.A .x5),dec m.b),((.A .x8),dec m.c),((.B .x6),dec m.d),((.B .xa),dec m.e),((.C .x1),dec m.f)]
noncomputable def mul (s o:M):M:=⟨s.a * o.a + s.b * o.c,s.a * o.b + s.b * o.d,s.c * o.a + s.d * o.c,s.c * o.b + s.d * o.d,o.a * s.e + o.c * s.f + o.e,o.b * s.e + o.d * s.f + o.f⟩
noncomputable abbrev one:M:=⟨1,0,0,1,0,0⟩
noncomputable abbrev tr (x y:Int):M:=⟨1,0,0,1,x,y⟩
structure Small (m:M):Prop where
 a:smallI m.a=true
 b:smallI m.b=true
 c:smallI m.c=true
 d:smallI m.d=true
 e:smallI m.e=true
 f:smallI m.f=true
end M
section
variable {n:Nat} {σ:St} {K:V→St→Prop} {a b c d:Int} {u v:V}
theorem d_new (h:K (dec a) σ):W (callF (n+1) (.glob (.A .x4)) [.int a,.int 0] σ) K:=W_of (fun uu=>rfl) h
theorem d_of (hv:Nu v a) (h:K (dec a) σ):W (callF (n+2) (.glob (.G .xc)) [v] σ) K:=by
 rcases hv with rfl | rfl
 ·exact W_of (fun uu=>rfl) h
 ·exact W_of (fun uu=>rfl) h
theorem d_ofd (h:K (dec a) σ):W (callF (n+1) (.glob (.G .xc)) [dec a] σ) K:=W_of (fun uu=>rfl) h
theorem d_told (h:K (.tup [.int a,.int 0]) σ):W (callF (n+1) (.glob (.A .x9)) [dec a] σ) K:=W_of (fun uu=>rfl) h
theorem d_neg (h:K (dec (-a)) σ):W (callF (n+2) (.glob (.A .x6)) [dec a] σ) K:=W_of (fun uu=>rfl) h
theorem o_mul (h:(smallI a||smallI b)=true) {K:V→Prop} (k:K (.int (a * b))):O (binV .mul (.int a) (.int b)) K:=O_of (if_pos h) k
theorem d_times (hv:Nu v b) (h:(smallI a||smallI b)=true) (k:K (dec (a * b)) σ):W (callF (n+3) (.glob (.A .x8)) [dec a,v] σ) K:=by
 refine W_def rfl rfl ?_
 refine d_of hv ?_
 refine o_mul h ?_
 exact d_new k
theorem or_one (a:Int):(smallI a||smallI 1)=true:=by
 rw [show smallI 1=true from rfl,Bool.or_true]
theorem d_scale (k:K (.tup [.int (a * 1),.int (b * 1),.int 0]) σ):W (callF (n+2) (.glob (.G .x5)) [dec a,dec b] σ) K:=by
 refine W_def rfl rfl ?_
 refine d_ofd ?_
 refine d_ofd ?_
 refine W_some ?_
 refine o_mul (b:=1) (or_one a) ?_
 refine o_mul (b:=1) (or_one b) ?_
 exact k
theorem d_plus (k:K (dec (a + b)) σ):W (callF (n+3) (.glob (.A .x7)) [dec a,dec b] σ) K:=by
 refine W_def rfl rfl ?_
 refine d_scale ?_
 refine d_new ?_
 have e:a * 1 + b * 1=a + b:=by rw [Int.mul_one,Int.mul_one]
 show K (dec (a * 1 + b * 1)) σ
 rw [e];exact k
theorem or_l {a b:Int} (h:smallI a=true):(smallI a||smallI b)=true:=by rw [h];rfl
theorem or_r {a b:Int} (h:smallI b=true):(smallI a||smallI b)=true:=by rw [h,Bool.or_true]
theorem m_new {a b c d e f:Int} (k:K (M.v ⟨a,b,c,d,e,f⟩) σ):W (callF (n+2) (.glob (.B .xc)) [dec a,dec b,dec c,dec d,dec e,dec f] σ) K:=W_of (fun uu=>rfl) k
theorem m_newi {a b c d e f:Int} (k:K (M.v ⟨a,b,c,d,e,f⟩) σ):W (callF (n+3) (.glob (.B .xc)) [.int a,.int b,.int c,.int d,.int e,.int f] σ) K:=W_of (fun uu=>rfl) k
theorem m_one (k:K M.one.v σ):W (callF (n+4) (.glob (.I .x4)) [] σ) K:=W_of (fun uu=>rfl) k
theorem m_tr {x y:Int} (hu:Nu u x) (hv:Nu v y) (k:K (M.tr x y).v σ):W (callF (n+4) (.glob (.K .x6)) [u,v] σ) K:=by
 rcases hu with rfl | rfl<;>rcases hv with rfl | rfl<;>exact W_of (fun uu=>rfl) k
theorem m_applied {m:M} {x y:Int} (hu:Nu u x) (hv:Nu v y) (hx:smallI x=true) (hy:smallI y=true) (k:K (.tup [dec (m.a * x + m.c * y + m.e),dec (m.b * x + m.d * y + m.f)]) σ):
  W (callF (n+4) (.glob (.C .x1)) [m.v,u,v] σ) K:=by
 refine W_def rfl rfl ?_
 refine d_times hu (or_r hx) ?_
 refine d_times hv (or_r hy) ?_
 refine d_plus ?_
 refine d_plus ?_
 refine d_times hu (or_r hx) ?_
 refine d_times hv (or_r hy) ?_
 refine d_plus ?_
 refine d_plus ?_
 exact k
theorem m_shifted {m:M} {x y:Int} (hu:Nu u x) (hv:Nu v y) (hx:smallI x=true) (hy:smallI y=true) (k:K (.tup [dec (m.a * x + m.c * y),dec (m.b * x + m.d * y)]) σ):
  W (callF (n+4) (.glob (.C .x2)) [m.v,u,v] σ) K:=by
 refine W_def rfl rfl ?_
 refine d_times hu (or_r hx) ?_
 refine d_times hv (or_r hy) ?_
 refine d_plus ?_
 refine d_times hu (or_r hx) ?_
 refine d_times hv (or_r hy) ?_
 refine d_plus ?_
 exact k
theorem m_times {s o:M} (hs:s.Small) (k:K (s.mul o).v σ):W (callF (n+5) (.glob (.C .x3)) [s.v,o.v] σ) K:=by
 refine W_def rfl rfl ?_
 refine d_times (.inl rfl) (or_l hs.a) ?_
 refine d_times (.inl rfl) (or_l hs.b) ?_
 refine d_plus ?_
 refine d_times (.inl rfl) (or_l hs.a) ?_
 refine d_times (.inl rfl) (or_l hs.b) ?_
 refine d_plus ?_
 refine d_times (.inl rfl) (or_l hs.c) ?_
 refine d_times (.inl rfl) (or_l hs.d) ?_
 refine d_plus ?_
 refine d_times (.inl rfl) (or_l hs.c) ?_
 refine d_times (.inl rfl) (or_l hs.d) ?_
 refine d_plus ?_
 refine m_applied (.inl rfl) (.inl rfl) hs.e hs.f ?_
 exact m_new k
end
end L
end E
end Mine
end
section
namespace Mine
namespace E
namespace L
section
variable {n:Nat} {σ:St} {K:V→St→Prop} {a b c d:Int} {u v:V}
theorem is_num (hv:Nu v a) (k:K (.bool true) σ):W (callF (n+3) (.glob (.I .x7)) [v] σ) K:=by
 rcases hv with rfl | rfl
 ·exact W_of (fun uu=>rfl) k
 ·exact W_of (fun uu=>rfl) k
theorem nums0 (k:K (.lst []) σ):W (callF (n+1) (.glob (.J .x6)) [.lst [],.int 0] σ) K:=by
 refine W_def rfl rfl ?_
 refine W_some ?_
 refine for_nil ?_
 exact comp_nil k
theorem nums1 (hv:Nu v a) (k:K (.lst [dec a]) σ):W (callF (n+4) (.glob (.J .x6)) [.lst [v],.int 1] σ) K:=by
 refine W_def rfl rfl ?_
 refine W_some ?_
 refine for_cons ?_
 refine is_num hv ?_
 refine for_nil ?_
 refine comp_cons (d_of hv ?_)
 exact comp_nil k
theorem nums2 (hu:Nu u a) (hv:Nu v b) (k:K (.lst [dec a,dec b]) σ):W (callF (n+4) (.glob (.J .x6)) [.lst [u,v],.int 2] σ) K:=by
 refine W_def rfl rfl ?_
 refine W_some ?_
 refine for_cons (is_num hu ?_)
 refine for_cons (is_num hv ?_)
 refine for_nil ?_
 refine comp_cons (d_of hu ?_)
 refine comp_cons (d_of hv ?_)
 exact comp_nil k
end
inductive Six:List V→M→Prop
 | mk {a b c d e f:V} {m:M}:Nu a m.a→Nu b m.b→Nu c m.c→Nu d m.d→Nu e m.e→Nu f m.f→Six [a,b,c,d,e,f] m
section
variable {n:Nat} {σ:St} {K:V→St→Prop} {vs:List V} {m:M}
theorem nums6 (h:Six vs m) (k:K (.lst [dec m.a,dec m.b,dec m.c,dec m.d,dec m.e,dec m.f]) σ):W (callF (n+4) (.glob (.J .x6)) [.lst vs,.int 6] σ) K:=by
 induction h with
 | mk h1 h2 h3 h4 h5 h6=>
  refine W_def rfl rfl ?_
  refine W_some ?_
  refine for_cons (is_num h1 ?_)
  refine for_cons (is_num h2 ?_)
  refine for_cons (is_num h3 ?_)
  refine for_cons (is_num h4 ?_)
  refine for_cons (is_num h5 ?_)
  refine for_cons (is_num h6 ?_)
  refine for_nil ?_
  refine comp_cons (d_of h1 ?_)
  refine comp_cons (d_of h2 ?_)
  refine comp_cons (d_of h3 ?_)
  refine comp_cons (d_of h4 ?_)
  refine comp_cons (d_of h5 ?_)
  refine comp_cons (d_of h6 ?_)
  exact comp_nil k
theorem m_mk (h:Six vs m) (k:K m.v σ):W (callF (n+3) (.glob (.B .xc)) vs σ) K:=by
 induction h with
 | mk h1 h2 h3 h4 h5 h6=>
  refine W_fz rfl rfl rfl rfl ?_
  refine d_of h1 ?_
  refine d_of h2 ?_
  refine d_of h3 ?_
  refine d_of h4 ?_
  refine d_of h5 ?_
  refine d_of h6 ?_
  exact k
theorem mat_of (h:Six vs m) (k:K m.v σ):W (callF (n+5) (.glob (.J .x1)) [.lst vs] σ) K:=by
 refine W_def rfl rfl ?_
 refine nums6 h ?_
 exact m_new k
theorem from_arr (h:Six vs m) (k:K m.v σ):W (callF (n+4) (.glob (.I .x3)) [.lst vs] σ) K:=by
 have h':=h
 induction h with
 | mk h1 h2 h3 h4 h5 h6=>
  refine W_def rfl rfl ?_
  refine W_some ?_
  refine W_some ?_
  exact m_mk h' k
end
end L
end E
end Mine
end
section
namespace Mine
namespace E
namespace L
theorem m0 {α:Type} {a:α} {l:List α}:a∈a::l:=.head _
theorem mS {α:Type} {a b:α} {l:List α} (h:a∈l):a∈b::l:=.tail _ h
theorem sb0 {α:Type} {l:List α}:∀ r∈([]:List α),r∈l:=fun uu h=>nomatch h
theorem sbS {α:Type} {a:α} {l l':List α} (h:a∈l') (k:∀ r∈l,r∈l'):∀ r∈a::l,r∈l':=fun r hr=>by
 cases hr with
 | head=>exact h
 | tail _ hr=>exact k r hr
theorem alS {α:Type} {P:α→Prop} {a:α} {l:List α} (h:P a) (k:∀ r∈l,P r):∀ r∈a::l,P r:=fun r hr=>by
 cases hr with
 | head=>exact h
 | tail _ hr=>exact k r hr
theorem al0 {α:Type} {P:α→Prop}:∀ r∈([]:List α),P r:=fun uu h=>nomatch h
theorem sn_all {α:Type} {P:α→Prop} {a:α} {l:List α} (k:∀ r∈l,P r) (h:P a):∀ r∈l++[a],P r:=fun r hr=>(List.mem_append.mp hr).elim (k r) (alS h al0 r)
theorem sn_last {α:Type} {a:α} {l:List α}:a∈l++[a]:=List.mem_append_right _ m0
theorem sn_init {α:Type} {a r:α} {l:List α} (h:r∈l):r∈l++[a]:=List.mem_append_left _ h
theorem map_sn {α β:Type} {f:α→β} {l:List α} {q:α}:(l++[q]).map f=l.map f++[f q]:=List.map_append
theorem map_nm {α:Type} {f:α→Nat} {l:List α} {q:α} {c:Nat} (h:c∉l.map f) (n:f q≠c):c∉(l++[q]).map f:=by
 rw [map_sn];exact fun z=>sn_all (P:=fun r=>r≠c) (fun r hr e=>h (e▸hr)) n c z rfl
theorem map_nd {α:Type} {f:α→Nat} {l:List α} {q:α} (h:(l.map f).Nodup) (n:f q∉l.map f):((l++[q]).map f).Nodup:=by
 rw [map_sn,List.nodup_append];exact⟨h,by simp,fun u hu w hw e=>n (List.mem_singleton.mp hw▸e▸hu)⟩
theorem nd_sn {α:Type} {f:α→Nat} {l:List α} {q:α} (h:((l++[q]).map f).Nodup):(l.map f).Nodup∧f q∉l.map f:=by
 rw [map_sn,List.nodup_append] at h;exact⟨h.1,fun z=>h.2.2 _ z _ m0 rfl⟩
theorem nd4 {a b c d:Nat} (h1:a≠b) (h2:a≠c) (h3:a≠d) (h4:b≠c) (h5:b≠d) (h6:c≠d): [a,b,c,d].Nodup:=by simp [h1,h2,h3,h4,h5,h6]
theorem St.set_eq {σ:St} {r:Nat} {o:MObj}:(σ.set r o).objs r=some o:=if_pos rfl
theorem St.set_ne {σ:St} {r q:Nat} {o:MObj} (h:q≠r):(σ.set r o).objs q=σ.objs q:=if_neg h
theorem St.new_eq {σ:St} {o:MObj}:(σ.new o).objs σ.next=some o:=if_pos rfl
theorem St.new_ne {σ:St} {q:Nat} {o:MObj} (h:q≠σ.next):(σ.new o).objs q=σ.objs q:=if_neg h
theorem St.del_ne {σ:St} {r q:Nat} (h:q≠r):(σ.del r).objs q=σ.objs q:=if_neg h
section
variable {σ:St} {r:Nat} {c:Gl} {fs:List (Nm×V)} {vs:List V} {kvs:List (V×V)} {m:Nm} {v x:V} {call:Call}
theorem inst_ref (h:σ.objs r=some (.inst c fs)):asInst σ (.ref r)=some (c,fs):=congrArg (fun x=>Option.bind x oInst) h
theorem seq_ref (h:σ.objs r=some (.list vs)):asSeq σ (.ref r)=some vs:=congrArg (fun x=>Option.bind x oList) h
theorem dict_ref (h:σ.objs r=some (.dict kvs)):asDict σ (.ref r)=some kvs:=congrArg (fun x=>Option.bind x oDict) h
theorem noinst_l (h:σ.objs r=some (.list vs)):asInst σ (.ref r)=none:=congrArg (fun x=>Option.bind x oInst) h
theorem noinst_d (h:σ.objs r=some (.dict kvs)):asInst σ (.ref r)=none:=congrArg (fun x=>Option.bind x oInst) h
theorem list_ref (h:σ.objs r=some (.list vs)):isListRef σ (.ref r)=true:=congrArg (fun x=>(Option.bind x oList).isSome) h
theorem seqF_ref (h:σ.objs r=some (.list vs)) (hl:vs.length≤1000000):asSeqF σ (.ref r)=some vs:=by
 unfold asSeqF;rw [seq_ref h];exact if_pos hl
theorem o_inst (h:σ.objs r=some (.inst c fs)) {K:Gl×List (Nm×V)→Prop} (k:K (c,fs)):O (asInst σ (.ref r)) K:=O_of (inst_ref h) k
theorem o_seq (h:σ.objs r=some (.list vs)) {K:List V→Prop} (k:K vs):O (asSeq σ (.ref r)) K:=O_of (seq_ref h) k
theorem o_dict (h:σ.objs r=some (.dict kvs)) {K:List (V×V)→Prop} (k:K kvs):O (asDict σ (.ref r)) K:=O_of (dict_ref h) k
theorem o_meth (h:σ.objs r=some (.inst c fs)) {K:Callee→Prop} (k:O (calleeI (.ref r) c fs m) K):O (calleeV σ (.ref r) m) K:=by
 unfold calleeV
 rw [inst_ref h];exact k
theorem o_list {K:Nat→List V→Prop} (h:σ.objs r=some (.list vs)) (hl:vs.length≤1000000) (k:K r vs):listOf σ (.ref r) K:=O_of (m:=σ.objs r) h (o_gd (decide_eq_true hl) k)
theorem o_lapp (h:σ.objs r=some (.list vs)) {K:Callee→Prop} (k:K .bi):O (calleeV σ (.ref r) (.A .x2)) K:=O_of (by unfold calleeV;rw [noinst_l h];exact if_pos (list_ref h)) k
theorem o_lext (h:σ.objs r=some (.list vs)) {K:Callee→Prop} (k:K .bi):O (calleeV σ (.ref r) (.C .x0)) K:=O_of (by unfold calleeV;rw [noinst_l h];exact if_pos (list_ref h)) k
theorem o_lpop (h:σ.objs r=some (.list vs)) {K:Callee→Prop} (k:K .bi):O (calleeV σ (.ref r) (.H .x2)) K:=O_of (by unfold calleeV;rw [noinst_l h];exact if_pos (list_ref h)) k
theorem o_dget (h:σ.objs r=some (.dict kvs)) {K:Callee→Prop} (k:K .bi):O (calleeV σ (.ref r) (.D .x3)) K:=O_of (by unfold calleeV;rw [noinst_d h];exact if_pos (congrArg Option.isSome (dict_ref h))) k
variable {K:V→St→Prop}
theorem w_app (h:σ.objs r=some (.list vs)) (hl:vs.length≤1000000) (k:K .none (σ.set r (.list (vs++[x])))):W (mcallB (.ref r) (.A .x2) [x] σ) K:=⟨o_list (K:=fun r vs=>K .none (σ.set r (.list (vs++[x])))) h hl k⟩
theorem w_ext {ws:List V} (h:σ.objs r=some (.list vs)) (hl:vs.length + ws.length≤1000000) (k:K .none (σ.set r (.list (vs++ws)))):W (mcallB (.ref r) (.C .x0) [.lst ws] σ) K:=
 ⟨o_list (K:=fun r vs=>Gx (vs.length + ws.length≤1000000) (K .none (σ.set r (.list (vs++ws))))) h (Nat.le_trans (Nat.le_add_right _ _) hl) (o_gd (decide_eq_true hl) k)⟩
theorem w_pop (h:σ.objs r=some (.list (vs++[x]))) (hl:(vs++[x]).length≤1000000) (k:K x (σ.set r (.list vs))):W (mcallB (.ref r) (.H .x2) [] σ) K:=
 ⟨o_list (K:=fun r vs=>O vs.getLast? fun x=>K x (σ.set r (.list vs.dropLast))) h hl (O_of (List.getLast?_concat ..) (by rw [List.dropLast_concat];exact k))⟩
theorem w_len (h:σ.objs r=some (.list vs)) (hl:vs.length≤1000000) (k:K (.int vs.length) σ):W (bcall (.I .xc) [.ref r] σ) K:=⟨O_of (m:=asSeqF σ (.ref r)) (seqF_ref h hl) k⟩
theorem w_lenl (hl:vs.length≤1000000) (k:K (.int vs.length) σ):W (bcall (.I .xc) [.lst vs] σ) K:=⟨O_of (m:=asSeqF σ (.lst vs)) (if_pos hl) k⟩
theorem w_dcopy (h:σ.objs r=some (.dict kvs)) (hk:(kvs.all (fun p=>plainKey p.1)&&decide (kvs.length≤1000000))=true) (k:K (.ref σ.next) (σ.new (.dict kvs))):W (bcall (.H .x0) [.ref r] σ) K:=⟨by
 show (match asDict σ (.ref r) with | some kvs=>Gx (kvs.all (fun p=>plainKey p.1)&&kvs.length≤1000000) (K (.ref σ.next) (σ.new (.dict kvs))) | .none=>_)
 rw [dict_ref h];exact o_gd hk k⟩
theorem o_attr (h:σ.objs r=some (.inst c fs)) (hf:(isField c m&&decide (fs.length≤1000))=true) {K:St→Prop} (k:K (σ.set r (.inst c (putL m v fs)))):O (setFld σ (.ref r) m v) K:=O_of (by
 show (σ.objs r).bind _=_
 rw [h];exact if_pos hf) k
theorem o_dset {j:V} {d:List (V×V)} (h:σ.objs r=some (.dict kvs)) (hk:(plainKey j&&decide (kvs.length≤1000000))=true) (hd:dPut j v kvs=some d) {K:St→Prop} (k:K (σ.set r (.dict d))):O (setSub σ (.ref r) j v) K:=O_of (by
 show (σ.objs r).bind _=_
 rw [h];exact(if_pos hk).trans (congrArg (fun x=>x.map fun d=>σ.set r (.dict d)) hd)) k
theorem o_dsub {j u:V} (h:σ.objs r=some (.dict kvs)) (hd:dGet j kvs=some (some u)) {K:V→Prop} (k:K u):O (subV σ (.ref r) j) K:=by
 refine O_of ?_ k
 show (match asDict σ (.ref r) with | some kvs=>(dGet j kvs).bind id | none=>_)=_
 rw [dict_ref h]
 exact congrArg (fun x=>Option.bind x id) hd
end
end L
end E
end Mine
end
section
namespace Mine
namespace E
namespace L
structure A where
 ctm:M
 lead:Int
 size:Int
 font:Sm
structure Show where
 oct:List UInt8
 m:M
 font:Sm
 size:Int
noncomputable abbrev Show.mark (s:Show):V:=.tup [.str (.I .x0),.bytes s.oct,s.m.v,.str s.font,dec s.size]
noncomputable abbrev col:V:=.tup [.str (.B .x1),.tup [dec 0]]
noncomputable abbrev stObj (m:M) (vd:Nat):MObj:=.inst (.D .xc) [((.E .xb),m.v),((.A .xb),.tup []),((.C .x5),col),((.J .x8),col),((.L .x0),.ref vd)]
noncomputable abbrev vKvs (lead size:Int) (font:Sm):List (V×V):=[(.str (.I .x3),dec 1),(.str (.E .x7),.int 0),(.str (.F .xb),.int 0),(.str (.G .x3),dec 10),(.str (.F .x0),.tup [.tup [],dec 0]),(.str (.H .xa),dec 0),(.str (.I .x4),dec 0),
 (.str (.G .x1),dec lead),(.str (.H .x9),dec size),(.str (.H .x2),dec 0),(.str (.H .x5),dec 100),(.str (.F .x4),.str font),(.str (.G .x4),.int 0)]
noncomputable abbrev vObj (x:A):MObj:=.dict (vKvs x.lead x.size x.font)
noncomputable abbrev pathV:V:=.inst (.D .x2) [((.G .x8),.tup [])]
noncomputable abbrev textV:Option M→V | none=>.none | some m=>.tup [m.v,m.v]
noncomputable abbrev nameV (s:Sm):V:=.inst (.C .x4) [((.J .xb),.str s)]
noncomputable abbrev refV (i:Int):V:=.inst (.D .x4) [((.F .x4),.int i),((.D .x2),.int 0)]
noncomputable abbrev strm (hd:V) (i:UInt8):V:=.inst (.E .x1) [((.D .x6),hd),((.F .x7),.bytes [i])]
noncomputable abbrev shelfV (a b:V):V:=.inst (.D .xa) [((.J .x9),.dct [(.int 11,.tup [.int 0,a]),(.int 12,.tup [.int 0,b])]),((.K .x4),.dct [])]
structure PK where
 a1:V
 a2:V
 rows:V
 res:List (V×V)
 base:List Nat
 ml:Nat
 cl:Nat
 of:Nat
 opens:List V
noncomputable abbrev pFs (k:PK) (s pl:Nat) (t:Option M):List (Nm×V):=[((.I .x1),shelfV k.a1 k.a2),((.H .x4),.dct k.res),((.F .xb),.clo .l_0 [((.H .x7),k.rows)]),((.J .x5),.ref s),((.G .xa),.ref pl),((.C .x7),.int k.base.length),((.G .x9),pathV),((.H .x8),.str (.A .x0)),((.J .xb),textV t),((.I .x7),.int 0),
 ((.F .xa),.ref k.of),((.E .xa),.ref k.ml),((.A .xb),.ref k.cl)]
noncomputable abbrev Pl:=List (Nat×Nat×A)
noncomputable def prs (m:Pl):List Nat:=m.map (fun uu=>uu.1)++m.map (fun uu=>uu.2.1)
noncomputable def own (p:Nat) (k:PK) (s vd pl:Nat) (mine:Pl):List Nat:=p::s::vd::pl::k.ml::k.cl::k.of::prs mine
noncomputable abbrev chg (p:Nat) (k:PK) (s vd:Nat):List Nat:=[p,s,vd,k.ml,k.cl]
section
variable {p s vd pl:Nat} {k:PK} {mine:Pl} {r a b:Nat} {y:A} {P:Nat→Prop}
theorem prs_l (h:r∈mine.map (fun uu=>uu.1)):r∈prs mine:=List.mem_append_left _ h
theorem prs_r (h:r∈mine.map (fun uu=>uu.2.1)):r∈prs mine:=List.mem_append_right _ h
theorem prs_1 {q:Nat×Nat×A} (h:q∈mine):q.1∈prs mine:=prs_l (List.mem_map_of_mem h)
theorem prs_2 {q:Nat×Nat×A} (h:q∈mine):q.2.1∈prs mine:=prs_r (List.mem_map_of_mem (f:=(fun uu=>uu.2.1)) h)
theorem prs_push (h:∀ r∈prs mine,P r) (ha:P a) (hb:P b):∀ r∈prs (mine++[(a,b,y)]),P r:=fun r hr=>by
 unfold prs at hr
 rw [map_sn,map_sn] at hr
 exact(List.mem_append.mp hr).elim (sn_all (fun r hr=>h r (prs_l hr)) ha r) (sn_all (fun r hr=>h r (prs_r hr)) hb r)
theorem prs_pop (h:∀ r∈prs (mine++[(a,b,y)]),P r):P a∧P b∧∀ r∈prs mine,P r:=by
 unfold prs at h ⊢
 rw [map_sn,map_sn] at h
 exact⟨h a (List.mem_append_left _ sn_last),h b (List.mem_append_right _ sn_last),fun r hr=>(List.mem_append.mp hr).elim (fun z=>h r (List.mem_append_left _ (sn_init z))) fun z=>h r (List.mem_append_right _ (sn_init z))⟩
theorem own_p:p∈own p k s vd pl mine:=m0
theorem own_s:s∈own p k s vd pl mine:=mS m0
theorem own_vd:vd∈own p k s vd pl mine:=mS (mS m0)
theorem own_pl:pl∈own p k s vd pl mine:=mS (mS (mS m0))
theorem own_ml:k.ml∈own p k s vd pl mine:=mS (mS (mS (mS m0)))
theorem own_cl:k.cl∈own p k s vd pl mine:=mS (mS (mS (mS (mS m0))))
theorem own_of:k.of∈own p k s vd pl mine:=mS (mS (mS (mS (mS (mS m0)))))
theorem own_prs (h:r∈prs mine):r∈own p k s vd pl mine:=mS (mS (mS (mS (mS (mS (mS h))))))
theorem own_all (h1:P p) (h2:P s) (h3:P vd) (h4:P pl) (h5:P k.ml) (h6:P k.cl) (h7:P k.of) (h8:∀ r∈prs mine,P r):∀ r∈own p k s vd pl mine,P r:=alS h1 (alS h2 (alS h3 (alS h4 (alS h5 (alS h6 (alS h7 h8))))))
theorem own_chg {s' vd' pl':Nat} {mine':Pl} (h:∀ r∈own p k s vd pl mine,P r) (hs:P s') (hv:P vd') (hl:P pl') (hm:∀ r∈prs mine',P r):∀ r∈own p k s' vd' pl' mine',P r:=own_all (h _ own_p) hs hv hl (h _ own_ml) (h _ own_cl) (h _ own_of) hm
theorem own_push (h:∀ r∈own p k s vd pl mine,P r) (ha:P a) (hb:P b):∀ r∈own p k s vd pl (mine++[(a,b,y)]),P r:=own_chg h (h _ own_s) (h _ own_vd) (h _ own_pl) (prs_push (fun r hr=>h r (own_prs hr)) ha hb)
theorem own_pop (h:∀ r∈own p k s vd pl (mine++[(a,b,y)]),P r):∀ r∈own p k a b pl mine,P r:=
 have z:=prs_pop fun r hr=>h r (own_prs hr)
 own_chg h z.1 z.2.1 (h _ own_pl) z.2.2
theorem chg_all (h:∀ r∈own p k s vd pl mine,P r):∀ r∈chg p k s vd,P r:=alS (h _ own_p) (alS (h _ own_s) (alS (h _ own_vd) (alS (h _ own_ml) (alS (h _ own_cl) al0))))
end
noncomputable def Mod (l:List Nat) (σ σ':St):Prop:=σ'.next=σ.next∧∀ r,r∉l→σ'.objs r=σ.objs r
theorem Mod.refl (l:List Nat) (σ:St):Mod l σ σ:=⟨rfl,fun uu uu=>rfl⟩
theorem Mod.set {l:List Nat} {σ σ':St} {r:Nat} {o:MObj} (h:Mod l σ σ') (hr:r∈l):Mod l σ (σ'.set r o):=⟨h.1,fun q hq=>(St.set_ne (fun(z:q=r)=>hq (z▸hr))).trans (h.2 q hq)⟩
theorem Mod.trans {l:List Nat} {σ σ' σ'':St} (h:Mod l σ σ') (g:Mod l σ' σ''):Mod l σ σ'':=⟨g.1.trans h.1,fun q hq=>(g.2 q hq).trans (h.2 q hq)⟩
theorem Mod.one {l:List Nat} {σ:St} {r:Nat} {o:MObj} (hr:r∈l):Mod l σ (σ.set r o):=(Mod.refl l σ).set hr
structure PR (σ:St) (p:Nat) (k:PK) (s vd pl:Nat) (mine:Pl) (x:A) (t:Option M) (sh:List Show) (cs:List V):Prop where
 po:σ.objs p=some (.inst (.C .xc) (pFs k s pl t))
 so:σ.objs s=some (stObj x.ctm vd)
 vo:σ.objs vd=some (vObj x)
 plo:σ.objs pl=some (.list ((k.base++mine.map (fun uu=>uu.1)).map .ref))
 mo:σ.objs k.ml=some (.list (sh.map Show.mark))
 co:σ.objs k.cl=some (.list cs)
 fo:σ.objs k.of=some (.list k.opens)
 mi:∀ q∈mine,σ.objs q.1=some (stObj q.2.2.ctm q.2.1)∧σ.objs q.2.1=some (vObj q.2.2)
 nds:s∉mine.map (fun uu=>uu.1)
 ndv:vd∉mine.map (fun uu=>uu.2.1)
 nds':(mine.map (fun uu=>uu.1)).Nodup
 ndv':(mine.map (fun uu=>uu.2.1)).Nodup
 ndl: [pl,k.ml,k.cl,k.of].Nodup
 lt:∀ r∈own p k s vd pl mine,r < σ.next
theorem ne_obj {σ:St} {a b:Nat} {x y:MObj} (h1:σ.objs a=some x) (h2:σ.objs b=some y) (h:x≠y):a≠b:=fun q=>h (Option.some.inj (h1.symm.trans ((congrArg σ.objs q).trans h2)))
noncomputable def Fra (own:List Nat) (σ σ':St):Prop:=σ.next≤σ'.next∧∀ r,r < σ.next→r∉own→σ'.objs r=σ.objs r
theorem Fra.refl (o:List Nat) (σ:St):Fra o σ σ:=⟨Nat.le_refl _,fun uu uu uu=>rfl⟩
theorem Fra.set {o:List Nat} {σ σ':St} {r:Nat} {x:MObj} (f:Fra o σ σ') (h:r∈o∨σ.next≤r):Fra o σ (σ'.set r x):=⟨f.1,fun q hq hn=>(St.set_ne (by rintro rfl;rcases h with h | h;exact hn h;omega)).trans (f.2 q hq hn)⟩
theorem Fra.new {o:List Nat} {σ σ':St} {x:MObj} (f:Fra o σ σ'):Fra o σ (σ'.new x):=⟨Nat.le_succ_of_le f.1,fun q hq hn=>(St.new_ne (by have:=f.1;omega)).trans (f.2 q hq hn)⟩
section
variable {σ:St} {p s vd pl:Nat} {k:PK} {mine:Pl} {x:A} {t:Option M} {sh:List Show} {cs:List V}
theorem PR.ndl3 (h:PR σ p k s vd pl mine x t sh cs):pl≠k.ml∧pl≠k.cl∧pl≠k.of∧k.ml≠k.cl∧k.ml≠k.of∧k.cl≠k.of:=by
 have:=h.ndl
 simp at this
 obtain ⟨⟨a,b,c⟩,⟨d,e⟩,f⟩:=this
 exact⟨a,b,c,d,e,f⟩
theorem PR.setP (h:PR σ p k s vd pl mine x t sh cs) (t':Option M):PR (σ.set p (.inst (.C .xc) (pFs k s pl t'))) p k s vd pl mine x t' sh cs:=by
 have e:∀ {r:Nat} {o:MObj},σ.objs r=some o→(o≠ .inst (.C .xc) (pFs k s pl t))→(σ.set p (.inst (.C .xc) (pFs k s pl t'))).objs r=some o:=fun {r o} h1 h2=>(St.set_ne (ne_obj h1 h.po h2)).trans h1
 exact⟨St.set_eq,e h.so nofun,e h.vo nofun,e h.plo nofun,e h.mo nofun,e h.co nofun,e h.fo nofun,fun q hq=>⟨e (h.mi q hq).1 nofun,e (h.mi q hq).2 nofun⟩,h.nds,h.ndv,h.nds',h.ndv',h.ndl,h.lt⟩
theorem PR.setS (h:PR σ p k s vd pl mine x t sh cs) (m:M):PR (σ.set s (stObj m vd)) p k s vd pl mine {x with ctm:=m} t sh cs:=by
 have e:∀ {r:Nat} {o:MObj},σ.objs r=some o→(o≠stObj x.ctm vd)→(σ.set s (stObj m vd)).objs r=some o:=fun {r o} h1 h2=>(St.set_ne (ne_obj h1 h.so h2)).trans h1
 exact⟨e h.po nofun,St.set_eq,e h.vo nofun,e h.plo nofun,e h.mo nofun,e h.co nofun,e h.fo nofun,fun q hq=>⟨(St.set_ne (fun(z:q.1=s)=>h.nds (z▸List.mem_map_of_mem (f:=(fun uu=>uu.1)) hq))).trans (h.mi q hq).1,e (h.mi q hq).2 nofun⟩,h.nds,h.ndv,h.nds',h.ndv',h.ndl,h.lt⟩
theorem PR.setV (h:PR σ p k s vd pl mine x t sh cs) (l z:Int) (f:Sm):PR (σ.set vd (.dict (vKvs l z f))) p k s vd pl mine {x with lead:=l,size:=z,font:=f} t sh cs:=by
 have e:∀ {r:Nat} {o:MObj},σ.objs r=some o→(∀ d,o≠ .dict d)→(σ.set vd (.dict (vKvs l z f))).objs r=some o:=fun {r o} h1 h2=>(St.set_ne (ne_obj h1 h.vo (h2 _))).trans h1
 exact⟨e h.po nofun,e h.so nofun,St.set_eq,e h.plo nofun,e h.mo nofun,e h.co nofun,e h.fo nofun,fun q hq=>⟨e (h.mi q hq).1 nofun,(St.set_ne (fun(z:q.2.1=vd)=>h.ndv (z▸List.mem_map_of_mem (f:=(fun uu=>uu.2.1)) hq))).trans (h.mi q hq).2⟩,h.nds,h.ndv,h.nds',h.ndv',h.ndl,h.lt⟩
theorem PR.mark (h:PR σ p k s vd pl mine x t sh cs) (w:Show) (c:V):PR ((σ.set k.ml (.list (sh.map Show.mark++[w.mark]))).set k.cl (.list (cs++[c]))) p k s vd pl mine x t (sh++[w]) (cs++[c]):=by
 refine an6 h.ndl3 fun n1 n2 n3 n4 n5 n6=>?_
 have e:∀ {r:Nat} {o:MObj},σ.objs r=some o→r≠k.ml→r≠k.cl→((σ.set k.ml (.list (sh.map Show.mark++[w.mark]))).set k.cl (.list (cs++[c]))).objs r=some o:=fun {r o} h1 h2 h3=>(St.set_ne h3).trans ((St.set_ne h2).trans h1)
 have e':∀ {r:Nat} {o:MObj},σ.objs r=some o→(∀ l,o≠ .list l)→((σ.set k.ml (.list (sh.map Show.mark++[w.mark]))).set k.cl (.list (cs++[c]))).objs r=some o:=fun {r o} h1 h2=>e h1 (ne_obj h1 h.mo (h2 _)) (ne_obj h1 h.co (h2 _))
 exact⟨e' h.po nofun,e' h.so nofun,e' h.vo nofun,e h.plo n1 n2,(St.set_ne n4).trans (by rw [St.set_eq,List.map_append];rfl),St.set_eq,e h.fo n5.symm n6.symm,fun q hq=>⟨e' (h.mi q hq).1 nofun,e' (h.mi q hq).2 nofun⟩,h.nds,h.ndv,h.nds',h.ndv',h.ndl,h.lt⟩
end
noncomputable def PS (σ₀:St) (own₀:List Nat) (p:Nat) (k:PK) (σ:St) (x:A) (t:Option M) (pile:List A) (sh:List Show):Prop:=
 ∃ s vd pl mine cs,PR σ p k s vd pl mine x t sh cs∧mine.map (fun uu=>uu.2.2)=pile∧cs.length=sh.length∧Fra own₀ σ₀ σ∧∀ r∈own p k s vd pl mine,r∈own₀∨σ₀.next≤r
end L
end E
end Mine
end
section
namespace Mine
namespace E
namespace L
noncomputable abbrev strV (o:List UInt8):V:=.inst (.E .x3) [((.F .x7),.bytes o),((.E .x0),.bool false)]
section
variable {n:Nat} {σ:St} {K:V→St→Prop} {p s vd pl:Nat} {k:PK} {mine:Pl} {x:A} {t:Option M} {sh:List Show} {cs:List V}
noncomputable def inW (l:V) (w:Sm):Bool:=((asTup l).bind strs?).elim false fun l=>l.any (fun uu=>uu==w)
theorem check (h:PR σ p k s vd pl mine x t sh cs) {w:Sm} (h1:inW (gval (.C .x9)) w=false) (h2:inW (gval (.A .x0)) w=false) (h3:inW (gval (.C .x8)) w=false)
  (h4:inW (gval (.D .x9)) w=false) (h5:inW (.tup [.str (.B .x2),.str (.A .x9),.str (.H .x7),.str (.A .xa)]) w=false) (q:K .none σ):W (callF (n+1) (.glob (.G .x9)) [.ref p,.str w] σ) K:=by
 refine W_def rfl rfl ?_
 refine o_no h1 ?_
 refine o_no h2 ?_
 refine o_inst h.po ?_
 refine o_inst h.po ?_
 cases t with
 | none=>exact q
 | some m=>exact o_no h3 (o_no h4 (o_no h5 q))
theorem check0 (h:PR σ p k s vd pl mine x none sh cs) {w:Sm} (h1:inW (gval (.C .x9)) w=false) (h2:inW (gval (.A .x0)) w=false) (q:K .none σ):W (callF (n+1) (.glob (.G .x9)) [.ref p,.str w] σ) K:=by
 refine W_def rfl rfl ?_
 refine o_no h1 ?_
 refine o_no h2 ?_
 refine o_inst h.po ?_
 refine o_inst h.po ?_
 exact q
theorem put_mark (h:PR σ p k s vd pl mine x t sh cs) (w:Show) (hl:sh.length≤1000000) (hc:cs.length≤1000000) (q:∀ σ',PR σ' p k s vd pl mine x t (sh++[w]) (cs++[.tup []])→Mod (chg p k s vd) σ σ'→K .none σ'):
  W (callF (n+1) (.glob (.J .xa)) [.ref p,w.mark] σ) K:=by
 refine W_def rfl rfl ?_
 refine o_inst h.po ?_
 refine o_lapp h.mo ?_
 refine w_app h.mo (by rw [List.length_map];exact hl) ?_
 have e:∀ {r:Nat} {o:MObj},σ.objs r=some o→r≠k.ml→(σ.set k.ml (.list (sh.map Show.mark++[w.mark]))).objs r=some o:=fun h1 h2=>(St.set_ne h2).trans h1
 have hp:=e h.po (ne_obj h.po h.mo nofun)
 have hco:=e h.co h.ndl3.2.2.2.1.symm
 have hso:=e h.so (ne_obj h.so h.mo nofun)
 refine o_inst hp ?_
 refine o_lapp hco ?_
 refine o_inst hp ?_
 refine o_inst hso ?_
 refine w_app hco hc ?_
 exact q _ (h.mark w _) ((Mod.one (mS (mS (mS m0)))).set (mS (mS (mS (mS m0)))))
end
end L
end E
end Mine
end
section
namespace Mine
namespace E
namespace L
theorem tr_small {x y:Int} (hx:smallI x=true) (hy:smallI y=true):(M.tr x y).Small:=⟨rfl,rfl,rfl,rfl,hx,hy⟩
section
variable {n:Nat} {σ:St} {K:V→St→Prop} {p s vd pl:Nat} {k:PK} {mine:Pl} {x:A} {t:Option M} {sh:List Show} {cs:List V} {m:M} {u v:V} {a b:Int}
theorem move_line (h:PR σ p k s vd pl mine x (some m) sh cs) (hu:Nu u a) (hv:Nu v b) (ha:smallI a=true) (hb:smallI b=true) (q:∀ σ',PR σ' p k s vd pl mine x (some ((M.tr a b).mul m)) sh cs→Mod (chg p k s vd) σ σ'→K .none σ'):
  W (callF (n+6) (.glob (.J .x3)) [.ref p,u,v] σ) K:=by
 refine W_def rfl rfl ?_
 refine m_tr hu hv ?_
 refine o_inst h.po ?_
 refine m_times (tr_small ha hb) ?_
 refine o_attr h.po rfl ?_
 exact q _ (h.setP (some ((M.tr a b).mul m))) (.one m0)
theorem place_Td (h:PR σ p k s vd pl mine x (some m) sh cs) (ha:smallI a=true) (hb:smallI b=true) (q:∀ σ',PR σ' p k s vd pl mine x (some ((M.tr a b).mul m)) sh cs→Mod (chg p k s vd) σ σ'→K .none σ'):
  W (callF (n+7) (.glob (.H .x4)) [.ref p,.str (.D .x4),.lst [.int a,.int b]] σ) K:=by
 refine W_def rfl rfl ?_
 refine o_inst h.po ?_
 refine nums2 (.inr rfl) (.inr rfl) ?_
 exact move_line h (.inl rfl) (.inl rfl) ha hb q
theorem place_TD (h:PR σ p k s vd pl mine x (some m) sh cs) (ha:smallI a=true) (hb:smallI b=true) (q:∀ σ',PR σ' p k s vd pl mine {x with lead:= -b} (some ((M.tr a b).mul m)) sh cs→Mod (chg p k s vd) σ σ'→K .none σ'):
  W (callF (n+7) (.glob (.H .x4)) [.ref p,.str (.D .x0),.lst [.int a,.int b]] σ) K:=by
 refine W_def rfl rfl ?_
 refine o_inst h.po ?_
 refine nums2 (.inr rfl) (.inr rfl) ?_
 refine d_neg ?_
 refine o_inst h.po ?_
 refine o_inst h.so ?_
 refine o_dset (d:=vKvs (-b) x.size x.font) h.vo rfl rfl ?_
 have h':=h.setV (-b) x.size x.font
 exact move_line h' (.inl rfl) (.inl rfl) ha hb fun σ' g md=>q _ g (.trans (.one (mS (mS m0))) md)
theorem place_ts (h:PR σ p k s vd pl mine x (some m) sh cs) (hb:smallI (-x.lead)=true) (q:∀ σ',PR σ' p k s vd pl mine x (some ((M.tr 0 (-x.lead)).mul m)) sh cs→Mod (chg p k s vd) σ σ'→K .none σ'):
  W (callF (n+7) (.glob (.H .x4)) [.ref p,.str (.C .xc),.lst []] σ) K:=by
 refine W_def rfl rfl ?_
 refine o_inst h.po ?_
 refine nums0 ?_
 refine d_of (.inr rfl) ?_
 refine o_inst h.po ?_
 refine o_inst h.so ?_
 refine o_dsub h.vo rfl ?_
 refine d_neg ?_
 exact move_line h (.inl rfl) (.inl rfl) rfl hb q
theorem place_Tm {vs:List V} {o:M} (h:PR σ p k s vd pl mine x (some m) sh cs) (hs:Six vs o) (q:∀ σ',PR σ' p k s vd pl mine x (some o) sh cs→Mod (chg p k s vd) σ σ'→K .none σ'):
  W (callF (n+6) (.glob (.H .x4)) [.ref p,.str (.D .x7),.lst vs] σ) K:=by
 refine W_def rfl rfl ?_
 refine o_inst h.po ?_
 refine mat_of hs ?_
 refine o_attr h.po rfl ?_
 exact q _ (h.setP (some o)) (.one m0)
theorem text_TL (h:PR σ p k s vd pl mine x t sh cs) (q:∀ σ',PR σ' p k s vd pl mine {x with lead:=a} t sh cs→Mod (chg p k s vd) σ σ'→K .none σ'):W (callF (n+5) (.glob (.K .x0)) [.ref s,.str (.D .x2),.lst [.int a]] σ) K:=by
 refine W_def rfl rfl ?_
 refine nums1 (.inr rfl) ?_
 refine o_inst h.so ?_
 refine o_dset (d:=vKvs a x.size x.font) h.vo rfl rfl ?_
 exact q _ (h.setV _ _ _) (.one (mS (mS m0)))
theorem text_Tw (h:PR σ p k s vd pl mine x t sh cs) (q:∀ σ',PR σ' p k s vd pl mine x t sh cs→Mod (chg p k s vd) σ σ'→K .none σ'):W (callF (n+5) (.glob (.K .x0)) [.ref s,.str (.D .xa),.lst [.int 0]] σ) K:=by
 refine W_def rfl rfl ?_
 refine nums1 (.inr rfl) ?_
 refine o_inst h.so ?_
 refine o_dset (d:=vKvs x.lead x.size x.font) h.vo rfl rfl ?_
 exact q _ (h.setV _ _ _) (.one (mS (mS m0)))
theorem text_Tc (h:PR σ p k s vd pl mine x t sh cs) (q:∀ σ',PR σ' p k s vd pl mine x t sh cs→Mod (chg p k s vd) σ σ'→K .none σ'):W (callF (n+5) (.glob (.K .x0)) [.ref s,.str (.D .x3),.lst [.int 0]] σ) K:=by
 refine W_def rfl rfl ?_
 refine nums1 (.inr rfl) ?_
 refine o_inst h.so ?_
 refine o_dset (d:=vKvs x.lead x.size x.font) h.vo rfl rfl ?_
 exact q _ (h.setV _ _ _) (.one (mS (mS m0)))
theorem name_of {f:Sm} (q:K (.str f) σ):W (callF (n+1) (.glob (.J .x4)) [.lst [nameV f]] σ) K:=by
 refine W_def rfl rfl ?_
 refine W_some ?_
 refine W_some ?_
 exact q
theorem text_Tf {f:Sm} (h:PR σ p k s vd pl mine x t sh cs) (q:∀ σ',PR σ' p k s vd pl mine {x with font:=f,size:=a} t sh cs→Mod (chg p k s vd) σ σ'→K .none σ'):
  W (callF (n+5) (.glob (.K .x0)) [.ref s,.str (.D .x5),.lst [nameV f,.int a]] σ) K:=by
 refine W_def rfl rfl ?_
 refine W_some ?_
 refine nums1 (.inr rfl) ?_
 refine name_of ?_
 refine o_inst h.so ?_
 refine o_dset (d:=vKvs x.lead x.size f) h.vo rfl rfl ?_
 have h':=h.setV x.lead x.size f
 refine o_inst h'.so ?_
 refine o_dset (d:=vKvs x.lead a f) h'.vo rfl rfl ?_
 exact q _ (h'.setV _ _ _) ((Mod.one (mS (mS m0))).set (mS (mS m0)))
end
end L
end E
end Mine
end
section
namespace Mine
namespace E
namespace L
section
variable {n:Nat} {σ:St} {K:V→St→Prop} {p s vd pl:Nat} {k:PK} {mine:Pl} {x:A} {t:Option M} {sh:List Show} {cs:List V} {m:M} {u v:V} {a b:Int} {o o':List UInt8}
theorem o_cat {K:V→Prop} (h:o.length + o'.length≤1000) (k:K (.bytes (o++o'))):O (binV .add (.bytes o) (.bytes o')) K:=O_of (if_pos h) k
theorem fnt {f:Sm} (hf:f=(.B .x5)∨f=(.B .x9)):(f==(Nm.A .x0))=false:=by rcases hf with rfl | rfl<;>rfl
theorem octs (q:K (.bytes (o++o')) σ) (hl:o.length + o'.length≤1000):W (callF (n+1) (.glob (.J .x7)) [.lst [.lst [strV o,strV o']]] σ) K:=by
 refine W_def rfl rfl ?_
 refine W_some ?_
 refine W_some ?_
 refine for_cons ?_
 refine W_some ?_
 refine o_cat (o:=[]) (by simp;omega) ?_
 refine for_cons ?_
 refine W_some ?_
 refine o_cat hl ?_
 exact for_nil q
theorem show_Tj (h:PR σ p k s vd pl mine x (some m) sh cs) (hf:x.font=(.B .x5)∨x.font=(.B .x9)) (hm:m.Small) (hl:sh.length≤1000000) (hc:cs.length≤1000000)
  (q:∀ σ',PR σ' p k s vd pl mine x (some m) (sh++[⟨o,m.mul x.ctm,x.font,x.size⟩]) (cs++[.tup []])→Mod (chg p k s vd) σ σ'→K .none σ'):
  W (callF (n+8) (.glob (.H .x5)) [.ref p,.str (.D .x6),.lst [strV o]] σ) K:=by
 refine W_def rfl rfl ?_
 refine o_inst h.po ?_
 refine o_inst h.po ?_
 refine o_inst h.so ?_
 refine o_dsub h.vo rfl ?_
 refine o_no (fnt hf) ?_
 refine W_some ?_
 refine W_some ?_
 refine o_inst h.po ?_
 refine o_inst h.po ?_
 refine o_inst h.so ?_
 refine m_times hm ?_
 refine o_inst h.po ?_
 refine o_inst h.so ?_
 refine o_dsub h.vo rfl ?_
 refine o_inst h.po ?_
 refine o_inst h.so ?_
 refine o_dsub h.vo rfl ?_
 exact put_mark h ⟨o,m.mul x.ctm,x.font,x.size⟩ hl hc q
theorem show_TJ (h:PR σ p k s vd pl mine x (some m) sh cs) (hf:x.font=(.B .x5)∨x.font=(.B .x9)) (hm:m.Small) (hl:sh.length≤1000000) (hc:cs.length≤1000000) (hb:o.length + o'.length≤1000)
  (q:∀ σ',PR σ' p k s vd pl mine x (some m) (sh++[⟨o++o',m.mul x.ctm,x.font,x.size⟩]) (cs++[.tup []])→Mod (chg p k s vd) σ σ'→K .none σ'):
  W (callF (n+8) (.glob (.H .x5)) [.ref p,.str (.D .x1),.lst [.lst [strV o,strV o']]] σ) K:=by
 refine W_def rfl rfl ?_
 refine o_inst h.po ?_
 refine o_inst h.po ?_
 refine o_inst h.so ?_
 refine o_dsub h.vo rfl ?_
 refine o_no (fnt hf) ?_
 refine octs ?_ hb
 refine o_inst h.po ?_
 refine o_inst h.po ?_
 refine o_inst h.so ?_
 refine m_times hm ?_
 refine o_inst h.po ?_
 refine o_inst h.so ?_
 refine o_dsub h.vo rfl ?_
 refine o_inst h.po ?_
 refine o_inst h.so ?_
 refine o_dsub h.vo rfl ?_
 exact put_mark h ⟨o++o',m.mul x.ctm,x.font,x.size⟩ hl hc q
theorem show_qt (h:PR σ p k s vd pl mine x (some m) sh cs) (hf:x.font=(.B .x5)∨x.font=(.B .x9)) (hm:((M.tr 0 (-x.lead)).mul m).Small) (hb:smallI (-x.lead)=true) (hl:sh.length≤1000000) (hc:cs.length≤1000000)
  (q:∀ σ',PR σ' p k s vd pl mine x (some ((M.tr 0 (-x.lead)).mul m)) (sh++[⟨o,((M.tr 0 (-x.lead)).mul m).mul x.ctm,x.font,x.size⟩]) (cs++[.tup []])→Mod (chg p k s vd) σ σ'→K .none σ'):
  W (callF (n+8) (.glob (.H .x5)) [.ref p,.str (.A .x2),.lst [strV o]] σ) K:=by
 refine W_def rfl rfl ?_
 refine o_inst h.po ?_
 refine o_inst h.po ?_
 refine o_inst h.so ?_
 refine o_dsub h.vo rfl ?_
 refine o_no (fnt hf) ?_
 refine W_some ?_
 refine W_some ?_
 refine place_ts h hb fun σ' g md=>?_
 refine o_inst g.po ?_
 refine o_inst g.po ?_
 refine o_inst g.so ?_
 refine m_times hm ?_
 refine o_inst g.po ?_
 refine o_inst g.so ?_
 refine o_dsub g.vo rfl ?_
 refine o_inst g.po ?_
 refine o_inst g.so ?_
 refine o_dsub g.vo rfl ?_
 exact put_mark g ⟨o,((M.tr 0 (-x.lead)).mul m).mul x.ctm,x.font,x.size⟩ hl hc fun σz gz d=>q _ gz (md.trans d)
theorem show_dq (h:PR σ p k s vd pl mine x (some m) sh cs) (hf:x.font=(.B .x5)∨x.font=(.B .x9)) (hm:((M.tr 0 (-x.lead)).mul m).Small) (hb:smallI (-x.lead)=true) (hl:sh.length≤1000000) (hc:cs.length≤1000000)
  (q:∀ σ',PR σ' p k s vd pl mine x (some ((M.tr 0 (-x.lead)).mul m)) (sh++[⟨o,((M.tr 0 (-x.lead)).mul m).mul x.ctm,x.font,x.size⟩]) (cs++[.tup []])→Mod (chg p k s vd) σ σ'→K .none σ'):
  W (callF (n+8) (.glob (.H .x5)) [.ref p,.str (.A .x1),.lst [.int 0,.int 0,strV o]] σ) K:=by
 refine W_def rfl rfl ?_
 refine o_inst h.po ?_
 refine o_inst h.po ?_
 refine o_inst h.so ?_
 refine o_dsub h.vo rfl ?_
 refine o_no (fnt hf) ?_
 refine W_some ?_
 refine W_some ?_
 refine o_inst h.po ?_
 refine text_Tw h fun σ₁ h₁ d₁=>?_
 refine o_inst h₁.po ?_
 refine text_Tc h₁ fun σ₂ h₂ d₂=>?_
 refine place_ts h₂ hb fun σ' g d₃=>?_
 refine o_inst g.po ?_
 refine o_inst g.po ?_
 refine o_inst g.so ?_
 refine m_times hm ?_
 refine o_inst g.po ?_
 refine o_inst g.so ?_
 refine o_dsub g.vo rfl ?_
 refine o_inst g.po ?_
 refine o_inst g.so ?_
 refine o_dsub g.vo rfl ?_
 exact put_mark g ⟨o,((M.tr 0 (-x.lead)).mul m).mul x.ctm,x.font,x.size⟩ hl hc fun σz gz d=>q _ gz (((d₁.trans d₂).trans d₃).trans d)
end
end L
end E
end Mine
end
section
namespace Mine
namespace E
namespace L
section
variable {n:Nat} {σ:St} {K:V→St→Prop} {p s vd pl:Nat} {k:PK} {mine:Pl} {x:A} {t:Option M} {sh:List Show} {cs:List V} {m:M} {l z:Int} {f:Sm}
theorem pile_eq {b:List Nat} {q:Nat×Nat×A}:((b++(mine++[q]).map (fun uu=>uu.1)).map V.ref)=(b++mine.map (fun uu=>uu.1)).map V.ref++[.ref q.1]:=by simp
theorem copied (hs:σ.objs s=some (stObj m vd)) (hv:σ.objs vd=some (.dict (vKvs l z f))) (q:∀ σ',σ'.next=σ.next + 2→σ'.objs (σ.next + 1)=some (stObj m σ.next)→σ'.objs σ.next=some (.dict (vKvs l z f))→(∀ r,r < σ.next→σ'.objs r=σ.objs r)→K (.ref (σ.next + 1)) σ'):
  W (callF (n+2) (.glob (.G .xb)) [.ref s] σ) K:=by
 refine W_def rfl rfl ?_
 refine o_inst hs ?_
 refine o_inst hs ?_
 refine o_inst hs ?_
 refine o_inst hs ?_
 refine o_inst hs ?_
 refine w_dcopy hv rfl ?_
 refine W_mu (g:=(.D .xc)) rfl rfl rfl ?_
 refine o_attr (r:=σ.next + 1) (fs:=[]) St.new_eq rfl ?_
 refine o_attr (r:=σ.next + 1) St.set_eq rfl ?_
 refine o_attr (r:=σ.next + 1) St.set_eq rfl ?_
 refine o_attr (r:=σ.next + 1) St.set_eq rfl ?_
 refine o_attr (r:=σ.next + 1) St.set_eq rfl ?_
 refine q _ rfl St.set_eq ?_ fun r hr=>?_
 ·have h:σ.next≠σ.next + 1:=Nat.ne_of_lt (Nat.lt_succ_self _)
  exact(St.set_ne h).trans ((St.set_ne h).trans ((St.set_ne h).trans ((St.set_ne h).trans ((St.set_ne h).trans ((St.new_ne h).trans St.new_eq)))))
 ·have h:r≠σ.next + 1:=by omega
  have h':r≠σ.next:=by omega
  exact(St.set_ne h).trans ((St.set_ne h).trans ((St.set_ne h).trans ((St.set_ne h).trans ((St.set_ne h).trans ((St.new_ne h).trans (St.new_ne h'))))))
theorem PR.old (h:PR σ p k s vd pl mine x t sh cs) {σ':St} (hn:σ.next≤σ'.next) (ho:∀ r,r < σ.next→σ'.objs r=σ.objs r):PR σ' p k s vd pl mine x t sh cs:=by
 have e:∀ {r:Nat} {o:MObj},r∈own p k s vd pl mine→σ.objs r=some o→σ'.objs r=some o:=fun hr h1=>(ho _ (h.lt _ hr)).trans h1
 exact⟨e own_p h.po,e own_s h.so,e own_vd h.vo,e own_pl h.plo,e own_ml h.mo,e own_cl h.co,e own_of h.fo,fun q hq=>⟨e (own_prs (prs_1 hq)) (h.mi q hq).1,e (own_prs (prs_2 hq)) (h.mi q hq).2⟩,h.nds,h.ndv,h.nds',h.ndv',h.ndl,fun r hr=>Nat.lt_of_lt_of_le (h.lt r hr) hn⟩
theorem PR.push (h:PR σ p k s vd pl mine x t sh cs) {a b:Nat} {y:A} (ha:σ.objs a=some (stObj y.ctm b)) (hb:σ.objs b=some (vObj y)) (na:a≠s) (nb:b≠vd) (na':a∉mine.map (fun uu=>uu.1)) (nb':b∉mine.map (fun uu=>uu.2.1)) (la:a < σ.next) (lb:b < σ.next):
  PR (σ.set pl (.list ((k.base++mine.map (fun uu=>uu.1)).map .ref++[.ref a]))) p k s vd pl (mine++[(a,b,y)]) x t sh cs:=by
 refine an6 h.ndl3 fun n1 n2 n3 n4 n5 n6=>?_
 have e:∀ {r:Nat} {o:MObj},σ.objs r=some o→(∀ l,o≠ .list l)→(σ.set pl (.list ((k.base++mine.map (fun uu=>uu.1)).map .ref++[.ref a]))).objs r=some o:=fun {r o} h1 h2=>(St.set_ne (ne_obj h1 h.plo (h2 _))).trans h1
 exact⟨e h.po nofun,e h.so nofun,e h.vo nofun,St.set_eq.trans (congrArg (fun l=>some (MObj.list l)) (pile_eq (q:=(a,b,y))).symm),(St.set_ne n1.symm).trans h.mo,(St.set_ne n2.symm).trans h.co,(St.set_ne n3.symm).trans h.fo,sn_all (fun q hq=>⟨e (h.mi q hq).1 nofun,e (h.mi q hq).2 nofun⟩) ⟨e ha nofun,e hb nofun⟩,
  map_nm h.nds na,map_nm h.ndv nb,map_nd h.nds' na',map_nd h.ndv' nb',h.ndl,own_push (P:=(fun uu=>uu < σ.next)) h.lt la lb⟩
end
end L
end E
end Mine
end
section
namespace Mine
namespace E
namespace L
section
variable {n:Nat} {σ:St} {K:V→St→Prop} {p s vd pl:Nat} {k:PK} {mine:Pl} {x:A} {t:Option M} {sh:List Show} {cs:List V} {m:M} {l z:Int} {f:Sm}
theorem PR.pop {a b:Nat} {y:A} (h:PR σ p k s vd pl (mine++[(a,b,y)]) x t sh cs):PR ((σ.set pl (.list ((k.base++mine.map (fun uu=>uu.1)).map .ref))).set p (.inst (.C .xc) (pFs k a pl t))) p k a b pl mine y t sh cs:=by
 refine an6 h.ndl3 fun n1 n2 n3 n4 n5 n6=>?_
 have hp:p≠pl:=ne_obj h.po h.plo nofun
 have e:∀ {r:Nat} {o:MObj},σ.objs r=some o→(o≠ .inst (.C .xc) (pFs k s pl t))→r≠pl→((σ.set pl (.list ((k.base++mine.map (fun uu=>uu.1)).map .ref))).set p (.inst (.C .xc) (pFs k a pl t))).objs r=some o:=fun {r o} h1 h2 h3=>(St.set_ne (ne_obj h1 h.po h2)).trans ((St.set_ne h3).trans h1)
 have e':∀ {r:Nat} {o:MObj},σ.objs r=some o→(o≠ .inst (.C .xc) (pFs k s pl t))→(∀ l,o≠ .list l)→((σ.set pl (.list ((k.base++mine.map (fun uu=>uu.1)).map .ref))).set p (.inst (.C .xc) (pFs k a pl t))).objs r=some o:=fun {r o} h1 h2 h3=>e h1 h2 (ne_obj h1 h.plo (h3 _))
 have hl:=h.mi (a,b,y) sn_last
 have d1:=nd_sn h.nds'
 have d2:=nd_sn h.ndv'
 refine ⟨St.set_eq,e' hl.1 nofun nofun,e' hl.2 nofun nofun,(St.set_ne hp.symm).trans St.set_eq,e h.mo nofun n1.symm,e h.co nofun n2.symm,e h.fo nofun n3.symm,fun q hq=>?_,d1.2,d2.2,d1.1,d2.1,h.ndl,own_pop (P:=(fun uu=>uu < σ.next)) h.lt⟩
 have:=h.mi q (sn_init hq)
 exact⟨e' this.1 nofun nofun,e' this.2 nofun nofun⟩
theorem state_q (h:PR σ p k s vd pl mine x t sh cs) (hl:k.base.length + mine.length≤1000000) (q:∀ σ',PR σ' p k s vd pl (mine++[(σ.next + 1,σ.next,x)]) x t sh cs→Fra [pl] σ σ'→K .none σ'):
  W (callF (n+3) (.glob (.H .x6)) [.ref p,.str (.G .xa),.lst []] σ) K:=by
 refine W_def rfl rfl ?_
 refine o_inst h.po ?_
 refine o_lapp h.plo ?_
 refine o_inst h.po ?_
 refine copied h.so h.vo fun σ₁ e1 e2 e3 e4=>?_
 have le:σ.next≤σ₁.next:=e1▸Nat.le_add_right _ 2
 have h₁:=h.old le e4
 refine w_app h₁.plo (by simpa using hl) ?_
 have nn:∀ {r},r∈own p k s vd pl mine→σ.next≠r∧σ.next + 1≠r:=fun hr=>⟨Nat.ne_of_gt (h.lt _ hr),Nat.ne_of_gt (Nat.lt_succ_of_lt (h.lt _ hr))⟩
 exact q _ (h₁.push e2 e3 (nn own_s).2 (nn own_vd).1 (fun hm=>(nn (own_prs (prs_l hm))).2 rfl) (fun hm=>(nn (own_prs (prs_r hm))).1 rfl) (e1▸Nat.lt_succ_self _) (e1▸Nat.lt_add_of_pos_right (by decide))) (Fra.set (σ':=σ₁) ⟨le,fun r hr uu=>e4 r hr⟩ (.inl m0))
theorem state_Q {a b:Nat} {y:A} (h:PR σ p k s vd pl (mine++[(a,b,y)]) x t sh cs) (hl:k.base.length + mine.length + 1≤1000000) (q:∀ σ',PR σ' p k a b pl mine y t sh cs→Mod [pl,p] σ σ'→K .none σ'):
  W (callF (n+1) (.glob (.H .x6)) [.ref p,.str (.C .x4),.lst []] σ) K:=by
 refine W_def rfl rfl ?_
 refine o_inst h.po ?_
 refine w_len h.plo (by simp;omega) ?_
 refine o_inst h.po ?_
 refine o_no (b:=decide ((((k.base++(mine++[(a,b,y)]).map (fun uu=>uu.1)).map V.ref).length:Int)≤(k.base.length:Int))) (by simp;omega) ?_
 refine o_inst h.po ?_
 have hpl:=h.plo
 rw [pile_eq] at hpl
 refine o_lpop hpl ?_
 refine w_pop hpl (by simp;omega) ?_
 have hp:(σ.set pl (.list ((k.base++mine.map (fun uu=>uu.1)).map .ref))).objs p=some (.inst (.C .xc) (pFs k s pl t)):=(St.set_ne (ne_obj h.po h.plo nofun)).trans h.po
 refine o_attr hp rfl ?_
 exact q _ h.pop ((Mod.one m0).set (mS m0))
theorem state_cm {vs:List V} {o:M} (h:PR σ p k s vd pl mine x t sh cs) (hs:Six vs o) (ho:o.Small) (q:∀ σ',PR σ' p k s vd pl mine {x with ctm:=o.mul x.ctm} t sh cs→Mod (chg p k s vd) σ σ'→K .none σ'):
  W (callF (n+6) (.glob (.H .x6)) [.ref p,.str (.E .x8),.lst vs] σ) K:=by
 refine W_def rfl rfl ?_
 refine mat_of hs ?_
 refine o_inst h.po ?_
 refine o_inst h.so ?_
 refine m_times ho ?_
 refine o_inst h.po ?_
 refine o_attr h.so rfl ?_
 exact q _ (h.setS (o.mul x.ctm)) (.one (mS m0))
theorem other_BT (h:PR σ p k s vd pl mine x none sh cs) (q:∀ σ',PR σ' p k s vd pl mine x (some M.one) sh cs→Mod (chg p k s vd) σ σ'→K .none σ'):
  W (callF (n+5) (.glob (.H .x3)) [.ref p,.str (.A .xa),.lst []] σ) K:=by
 refine W_def rfl rfl ?_
 refine m_one ?_
 refine m_one ?_
 refine o_attr h.po rfl ?_
 exact q _ (h.setP (some M.one)) (.one m0)
theorem other_ET (h:PR σ p k s vd pl mine x (some m) sh cs) (q:∀ σ',PR σ' p k s vd pl mine x none sh cs→Mod (chg p k s vd) σ σ'→K .none σ'):
  W (callF (n+1) (.glob (.H .x3)) [.ref p,.str (.B .x3),.lst []] σ) K:=by
 refine W_def rfl rfl ?_
 refine o_inst h.po ?_
 refine o_attr h.po rfl ?_
 exact q _ (h.setP none) (.one m0)
end
end L
end E
end Mine
end
section
namespace Mine
namespace E
namespace L
inductive Op
 | bt
 | et
 | td (x y:Int)
 | tD (x y:Int)
 | ts
 | tm (m:M)
 | tj (o:List UInt8)
 | qt (o:List UInt8)
 | tJ (o o':List UInt8)
 | dq (o:List UInt8)
 | tl (l:Int)
 | tf (f:Sm) (z:Int)
 | q
 | Q
 | cm (m:M)
 | dO (f:Sm)
noncomputable abbrev M.is (m:M):List V:=[.int m.a,.int m.b,.int m.c,.int m.d,.int m.e,.int m.f]
noncomputable def Op.word:Op→Sm
 | .bt=>(.A .xa)
 | .et=>(.B .x3)
 | .td _ _=>(.D .x4)
 | .tD _ _=>(.D .x0)
 | .ts=>(.C .xc)
 | .tm _=>(.D .x7)
 | .tj _=>(.D .x6)
 | .qt _=>(.A .x2)
 | .tJ _ _=>(.D .x1)
 | .dq _=>(.A .x1)
 | .tl _=>(.D .x2)
 | .tf _ _=>(.D .x5)
 | .q=>(.G .xa)
 | .Q=>(.C .x4)
 | .cm _=>(.E .x8)
 | .dO _=>(.B .x2)
noncomputable def Op.args:Op→List V
 | .bt=>[]
 | .et=>[]
 | .td x y=>[.int x,.int y]
 | .tD x y=>[.int x,.int y]
 | .ts=>[]
 | .tm m=>m.is
 | .tj o=>[strV o]
 | .qt o=>[strV o]
 | .tJ o o'=>[.lst [strV o,strV o']]
 | .dq o=>[.int 0,.int 0,strV o]
 | .tl l=>[.int l]
 | .tf f z=>[nameV f,.int z]
 | .q=>[]
 | .Q=>[]
 | .cm m=>m.is
 | .dO f=>[nameV f]
noncomputable abbrev Op.v (o:Op):V:=.inst (.C .x6) [((.L .x6),.str o.word),((.F .xc),.lst o.args)]
structure C where
 x:A
 t:Option M
 pile:List A
 sh:List Show
inductive Stp1:Op→A→Option M→A→Option M→Prop
 | bt {x}:Stp1 .bt x none x (some M.one)
 | et {x m}:Stp1 .et x (some m) x none
 | td {x m a b}:smallI a=true→smallI b=true→Stp1 (.td a b) x (some m) x (some ((M.tr a b).mul m))
 | tD {x m a b}:smallI a=true→smallI b=true→Stp1 (.tD a b) x (some m) {x with lead:= -b} (some ((M.tr a b).mul m))
 | ts {x m}:smallI (-x.lead)=true→Stp1 .ts x (some m) x (some ((M.tr 0 (-x.lead)).mul m))
 | tm {x m o}:Stp1 (.tm o) x (some m) x (some o)
 | tl {x t l}:Stp1 (.tl l) x t {x with lead:=l} t
 | tf {x t f z}:Stp1 (.tf f z) x t {x with font:=f,size:=z} t
 | cm {x o}:o.Small→Stp1 (.cm o) x none {x with ctm:=o.mul x.ctm} none
inductive StpS:Op→A→M→M→List UInt8→Prop
 | tj {x m o}:(x.font=(.B .x5)∨x.font=(.B .x9))→m.Small→StpS (.tj o) x m m o
 | tJ {x m o o'}:(x.font=(.B .x5)∨x.font=(.B .x9))→m.Small→o.length + o'.length≤1000→StpS (.tJ o o') x m m (o++o')
 | qt {x m o}:(x.font=(.B .x5)∨x.font=(.B .x9))→smallI (-x.lead)=true→((M.tr 0 (-x.lead)).mul m).Small→StpS (.qt o) x m ((M.tr 0 (-x.lead)).mul m) o
 | dq {x m o}:(x.font=(.B .x5)∨x.font=(.B .x9))→smallI (-x.lead)=true→((M.tr 0 (-x.lead)).mul m).Small→StpS (.dq o) x m ((M.tr 0 (-x.lead)).mul m) o
noncomputable abbrev A.show (x:A) (o:List UInt8) (m:M):Show:=⟨o,m.mul x.ctm,x.font,x.size⟩
inductive Stp (D:Sm→A→List Show→Prop):Op→C→C→Prop
 | one {op x t x' t' p s}:Stp1 op x t x' t'→Stp D op ⟨x,t,p,s⟩ ⟨x',t',p,s⟩
 | sho {op x m m' o p s}:StpS op x m m' o→Stp D op ⟨x,some m,p,s⟩ ⟨x,some m',p,s++[x.show o m']⟩
 | q {x p s}:Stp D .q ⟨x,none,p,s⟩ ⟨x,none,p++[x],s⟩
 | Q {x y p s}:Stp D .Q ⟨x,none,p++[y],s⟩ ⟨y,none,p,s⟩
 | dO {x f p s w}:D f x w→Stp D (.dO f) ⟨x,none,p,s⟩ ⟨x,none,p,s++w⟩
section
variable {n:Nat} {σ σ₀:St} {K:V→St→Prop} {p s vd pl:Nat} {k:PK} {mine:Pl} {x:A} {t:Option M} {sh:List Show} {cs:List V} {m:M} {own₀:List Nat}
theorem six (m:M):Six m.is m:=.mk (.inr rfl) (.inr rfl) (.inr rfl) (.inr rfl) (.inr rfl) (.inr rfl)
theorem Fra.trans {l l':List Nat} {σ σ' σ'':St} (h:Fra l σ σ') (g:Fra l' σ' σ'') (e:∀ r∈l',r∈l∨σ.next≤r):Fra l σ σ'':=
 ⟨Nat.le_trans h.1 g.1,fun r hr hn=>(g.2 r (Nat.lt_of_lt_of_le hr h.1) fun hm=>(e r hm).elim hn fun z=>absurd hr (Nat.not_lt.mpr z)).trans (h.2 r hr hn)⟩
theorem Fra.then {l:List Nat} {σ σ' σ'':St} (h:Fra l σ σ') (g:Fra l σ' σ''):Fra l σ σ'':=h.trans g fun uu h=>.inl h
theorem Fra.one {l:List Nat} {σ:St} {r:Nat} {x:MObj} (h:r∈l):Fra l σ (σ.set r x):=(Fra.refl l σ).set (.inl h)
theorem Mod.fra {l:List Nat} {σ σ':St} (h:Mod l σ σ'):Fra l σ σ':=⟨Nat.le_of_eq h.1.symm,fun r uu hn=>h.2 r hn⟩
end
end L
end E
end Mine
end
section
namespace Mine
namespace E
namespace L
section
variable {n:Nat} {σ σ₀:St} {K:V→St→Prop} {p s vd pl:Nat} {k:PK} {mine:Pl} {x:A} {t:Option M} {sh:List Show} {cs:List V} {m:M} {own₀:List Nat}
theorem W_go {g:Gl} {d:FnDef} {args:List V} (hd:fdef g=some d) (h:O (d.bind args) fun vars=>execCs wst (callF n) d.body ⟨vars,.none⟩ σ fun fl uu σ=>K (flV fl) σ):W (callF (n + 1) (.glob g) args σ) K:=by
 refine e1a2 (O_iff.mp h) fun vars hb h=>?_
 exact W_def hd hb h
theorem PS.same {x':A} {t':Option M} {sh':List Show} {cs':List V} {σ':St} {pile:List A} (e1:mine.map (fun uu=>uu.2.2)=pile) (f:Fra own₀ σ₀ σ) (ho:∀ r∈own p k s vd pl mine,r∈own₀∨σ₀.next≤r) (g:PR σ' p k s vd pl mine x' t' sh' cs') (md:Mod (chg p k s vd) σ σ') (hc:cs'.length=sh'.length):PS σ₀ own₀ p k σ' x' t' pile sh':=
 ⟨s,vd,pl,mine,cs',g,e1,hc,f.trans md.fra (chg_all ho),ho⟩
theorem perf1 {op:Op} {x':A} {t':Option M} (st:Stp1 op x t x' t') (h:PR σ p k s vd pl mine x t sh cs) (q:∀ σ',PR σ' p k s vd pl mine x' t' sh cs→Mod (chg p k s vd) σ σ'→K .none σ'):W (callF (n+10) (.glob (.J .x9)) [.ref p,.str op.word,.lst op.args] σ) K:=by
 induction st with
 | bt=>exact W_def rfl rfl (check0 h (w:=(.A .xa)) rfl rfl (other_BT h q))
 | et=>exact W_def rfl rfl (check h (w:=(.B .x3)) rfl rfl rfl rfl rfl (other_ET h q))
 | td ha hb=>exact W_def rfl rfl (check h (w:=(.D .x4)) rfl rfl rfl rfl rfl (place_Td h ha hb q))
 | tD ha hb=>exact W_def rfl rfl (check h (w:=(.D .x0)) rfl rfl rfl rfl rfl (place_TD h ha hb q))
 | ts ha=>exact W_def rfl rfl (check h (w:=(.C .xc)) rfl rfl rfl rfl rfl (place_ts h ha q))
 | tm=>exact W_def rfl rfl (check h (w:=(.D .x7)) rfl rfl rfl rfl rfl (place_Tm h (six _) q))
 | tl=>exact W_def rfl rfl (check h (w:=(.D .x2)) rfl rfl rfl rfl rfl (o_inst h.po (text_TL h q)))
 | tf=>exact W_def rfl rfl (check h (w:=(.D .x5)) rfl rfl rfl rfl rfl (o_inst h.po (text_Tf h q)))
 | cm hs=>exact W_def rfl rfl (check0 h (w:=(.E .x8)) rfl rfl (state_cm h (six _) hs q))
theorem perfS {op:Op} {m':M} {o:List UInt8} (st:StpS op x m m' o) (h:PR σ p k s vd pl mine x (some m) sh cs) (hl:sh.length≤1000000) (hc:cs.length≤1000000) (q:∀ σ',PR σ' p k s vd pl mine x (some m') (sh++[x.show o m']) (cs++[.tup []])→Mod (chg p k s vd) σ σ'→K .none σ'):
  W (callF (n+10) (.glob (.J .x9)) [.ref p,.str op.word,.lst op.args] σ) K:=by
 induction st with
 | tj hf hm=>exact W_def rfl rfl (check h (w:=(.D .x6)) rfl rfl rfl rfl rfl (show_Tj h hf hm hl hc q))
 | tJ hf hm hb=>exact W_def rfl rfl (check h (w:=(.D .x1)) rfl rfl rfl rfl rfl (show_TJ h hf hm hl hc hb q))
 | qt hf ha hm=>exact W_def rfl rfl (check h (w:=(.A .x2)) rfl rfl rfl rfl rfl (show_qt h hf hm ha hl hc q))
 | dq hf ha hm=>exact W_def rfl rfl (check h (w:=(.A .x1)) rfl rfl rfl rfl rfl (show_dq h hf hm ha hl hc q))
theorem snoc_of {mine:Pl} {y:A} {pi:List A} (e:mine.map (fun uu=>uu.2.2)=pi++[y]):∃ mine' a b,mine=mine'++[(a,b,y)]∧mine'.map (fun uu=>uu.2.2)=pi:=by
 rcases List.eq_nil_or_concat mine with z | ⟨l,⟨a,b,y'⟩,z⟩
 ·subst z;simp at e
 ·subst z
  rw [List.concat_eq_append,map_sn] at e
  refine an2 (List.append_inj' e rfl) fun e3 e4=>?_
  obtain rfl:y'=y:=by simpa using e4
  exact⟨l,a,b,List.concat_eq_append,e3⟩
theorem map_len {mine:Pl} {pi:List A} (e:mine.map (fun uu=>uu.2.2)=pi):mine.length=pi.length:=e▸(List.length_map _).symm
noncomputable def DoOK (D:Sm→A→List Show→Prop) (n:Nat) (p:Nat) (k:PK) (B P:Nat):Prop:=
 ∀(f:Sm) (x:A) (w:List Show),D f x w→∀(σ σ₀:St) (own₀:List Nat) (pile:List A) (sh:List Show) (K:V→St→Prop),PS σ₀ own₀ p k σ x none pile sh→(sh++w).length≤B→k.base.length + pile.length≤P→(∀ σ',PS σ₀ own₀ p k σ' x none pile (sh++w)→K .none σ')→W (callF n (.glob (.H .x2)) [.ref p,.str f] σ) K
theorem perf {D:Sm→A→List Show→Prop} {op:Op} {c c':C} {B P:Nat} (st:Stp D op c c') (hP:PS σ₀ own₀ p k σ c.x c.t c.pile c.sh) (hB:B≤1000000) (hQ:P≤1000000) (hl:c.sh.length≤B) (hz:c'.sh.length≤B) (hpl':k.base.length + c.pile.length≤P) (hdo:DoOK D (n+8) p k B P) (q:∀ σ',PS σ₀ own₀ p k σ' c'.x c'.t c'.pile c'.sh→K .none σ'):
  W (callF (n+10) (.glob (.J .x9)) [.ref p,.str op.word,.lst op.args] σ) K:=by
 have hpl:=Nat.le_trans hpl' hQ
 have hl':c.sh.length≤1000000:=Nat.le_trans hl hB
 refine ex5 (id hP) fun s vd pl mine cs hh=>an5 hh fun h e1 e2 f ho=>?_
 induction st with
 | one st=>exact perf1 st h fun σ' g md=>q _ (PS.same e1 f ho g md e2)
 | sho st=>exact perfS st h hl' (e2▸hl') fun σ' g md=>q _ (PS.same e1 f ho g md (by rw [List.length_append,List.length_append];exact congrArg (fun uu=>uu + 1) e2))
 | q=>
  refine W_def rfl rfl ?_
  refine check0 h (w:=(.G .xa)) rfl rfl ?_
  exact state_q h (map_len e1▸hpl) fun σ' g fr=>q _ ⟨s,vd,pl,_,cs,g,by rw [map_sn,e1],e2,f.trans fr (alS (ho _ own_pl) al0),own_push (P:=fun r=>r∈own₀∨σ₀.next≤r) ho (.inr (Nat.le_succ_of_le f.1)) (.inr f.1)⟩
 | @Q x y pi sh=>
  refine ex3 (snoc_of e1) fun mine' a b hh=>an2 hh fun qq0 e3=>?_;subst qq0
  refine W_def rfl rfl ?_
  refine check0 h (w:=(.C .x4)) rfl rfl ?_
  have hpl:k.base.length + (pi++[y]).length≤1000000:=hpl
  rw [List.length_append,← map_len e3] at hpl
  exact state_Q h hpl fun σ' g md=>q _ ⟨a,b,pl,mine',cs,g,e3,e2,f.trans md.fra (alS (ho _ own_pl) (alS (ho _ own_p) al0)),own_pop (P:=fun r=>r∈own₀∨σ₀.next≤r) ho⟩
 | @dO x fn pi sh w hD=>
  refine W_def rfl rfl ?_
  refine check0 h (w:=(.B .x2)) rfl rfl ?_
  refine W_go (g:=(.H .x3)) rfl ?_
  refine name_of ?_
  exact hdo fn x w hD σ σ₀ own₀ pi sh _ hP hz hpl' fun σ' g=>q σ' g
end
end L
end E
end Mine
end
section
namespace Mine
namespace E
namespace L
inductive Run (D:Sm→A→List Show→Prop):List Op→C→C→Prop
 | nil {c}:Run D [] c c
 | cons {o os c c' c''}:Stp D o c c'→Run D os c' c''→Run D (o::os) c c''
theorem Stp.grows {D:Sm→A→List Show→Prop} {o:Op} {c c':C} (h:Stp D o c c'):c.sh.length≤c'.sh.length∧c'.pile.length≤c.pile.length + 1:=by
 induction h with
 | one=>exact⟨Nat.le_refl _,Nat.le_succ _⟩
 | sho=>exact⟨by simp,Nat.le_succ _⟩
 | q=>exact⟨Nat.le_refl _,by simp⟩
 | Q=>exact⟨Nat.le_refl _,by simp;omega⟩
 | dO=>exact⟨by simp,Nat.le_succ _⟩
theorem Run.grows {D:Sm→A→List Show→Prop} {os:List Op} {c c':C} (h:Run D os c c'):c.sh.length≤c'.sh.length:=by
 induction h with
 | nil=>exact Nat.le_refl _
 | cons h _ ih=>exact Nat.le_trans h.grows.1 ih
section
variable {n:Nat} {σ σ₀:St} {K:V→St→Prop} {p:Nat} {k:PK} {own₀:List Nat}
theorem o_iter {vs:List V} (h:vs.length≤1000000) {K:List V→Prop} (q:K vs):O (asIter (.lst vs)) K:=by
 show O (if vs.length≤1000000 then some vs else none) K
 rw [if_pos h];exact q
theorem paint_loop {D:Sm→A→List Show→Prop} {B P:Nat} (hB:B≤1000000) (hQ:P≤1000000) (hdo:DoOK D (n+8) p k B P) {L:V} {Q:Fl→Fr→St→Prop} {os:List Op} {c c':C} (hr:Run D os c c'):∀ {σ:St} {u:V},PS σ₀ own₀ p k σ c.x c.t c.pile c.sh→c'.sh.length≤B→k.base.length + c.pile.length + os.length≤P→
  (∀ σ' u',PS σ₀ own₀ p k σ' c'.x c'.t c'.pile c'.sh→Q .next ⟨[((.G .x5),.ref p),((.G .x1),L),((.G .x0),u')],none⟩ σ')→
  W3 (forLoop wst (.G .x0) (fun f s=>execCs wst (callF (n+10)) [.expr (.call (.glob (.J .x9)) [(.loc (.G .x5)),(.attr (.loc (.G .x0)) (.L .x6)),(.attr (.loc (.G .x0)) (.F .xc))])] f s) (os.map Op.v) ⟨[((.G .x5),.ref p),((.G .x1),L),((.G .x0),u)],none⟩ σ) Q:=by
 induction hr with
 | nil=>exact fun hP uu uu q=>for_nil (q _ _ hP)
 | @cons o os c c₁ c₂ st hr ih=>
  intro σ u hP hl hp q
  rw [List.length_cons] at hp
  refine for_cons ?_
  refine perf st hP hB hQ (Nat.le_trans (Nat.le_trans st.grows.1 hr.grows) hl) (Nat.le_trans hr.grows hl) (by omega) hdo fun σ' g=>?_
  exact ih g hl (by have:=st.grows.2;omega) q
theorem paint_all {D:Sm→A→List Show→Prop} {B P:Nat} (hB:B≤1000000) (hQ:P≤1000000) (hdo:DoOK D (n+8) p k B P) {os:List Op} {c c':C} (hr:Run D os c c') (ht:c'.t=none) (hP:PS σ₀ own₀ p k σ c.x c.t c.pile c.sh) (hl:c'.sh.length≤B) (hp:k.base.length + c.pile.length + os.length≤P)
  (q:∀ σ',PS σ₀ own₀ p k σ' c'.x none c'.pile c'.sh→K .none σ'):W (callF (n+11) (.glob (.J .x8)) [.ref p,.lst (os.map Op.v)] σ) K:=by
 refine W_def rfl rfl ?_
 refine o_iter (by rw [List.length_map];omega) ?_
 cases hr with
 | nil=>
  refine for_nil ?_
  rw [ht] at hP
  refine ex5 (id hP) fun s vd pl mine cs hh=>an2 hh fun h uu=>?_
  refine o_inst h.po ?_
  refine o_inst h.po ?_
  exact q _ hP
 | @cons o os _ c₁ _ st hr=>
  rw [List.length_cons] at hp
  refine for_cons ?_
  refine perf st hP hB hQ (Nat.le_trans (Nat.le_trans st.grows.1 hr.grows) hl) (Nat.le_trans hr.grows hl) (by omega) hdo fun σ' g=>?_
  refine paint_loop hB hQ hdo hr g hl (by have:=st.grows.2;omega) fun σ'' u' g'=>?_
  rw [ht] at g'
  refine ex5 (id g') fun s vd pl mine cs hh=>an2 hh fun h uu=>?_
  refine o_inst h.po ?_
  refine o_inst h.po ?_
  exact q _ g'
end
end L
end E
end Mine
end
section
namespace Mine
namespace E
namespace L
noncomputable def headKvs (m:Option M) (r:Option V):List (V×V):=(.str (.C .xb),nameV (.B .x8))::((match m with | some m=>[(.str (.C .x1),.lst m.is)] | none=>[])++(match r with | some r=>[(.str (.C .x6),r)] | none=>[]))
noncomputable abbrev headV (m:Option M) (r:Option V):V:=.dct (headKvs m r)
section
variable {n:Nat} {σ:St} {K:V→St→Prop} {call:Call} {v:V} {g:Gl} {b:Bool} {a1 a2:V}
theorem w_isi (h2:isInst σ v g=some b) (q:K (.bool b) σ):W (bcall (.I .x8) [v,.glob g] σ) K:=⟨O_of (m:=isInst σ v g) h2 q⟩
theorem fetch_id (h2:isInst σ v (.D .x4)=some false) (q:K v σ):W (callF (n+1) (.glob (.B .x7)) [shelfV a1 a2,v] σ) K:=by
 refine W_def rfl rfl ?_
 refine W_some ?_
 refine for_cons ?_
 refine w_isi h2 ?_
 exact q
theorem fetch_ref {hd:V} {i:UInt8} {z:Int} (hz:(z=11∧a1=strm hd i)∨(z=12∧a2=strm hd i)) (q:K (strm hd i) σ):W (callF (n+1) (.glob (.B .x7)) [shelfV a1 a2,refV z] σ) K:=by
 rcases hz with ⟨rfl,rfl⟩ | ⟨rfl,rfl⟩
 all_goals
  refine W_def rfl rfl ?_
  refine W_some ?_
  refine for_cons ?_
  refine W_some ?_
  refine W_some ?_
  refine for_cons ?_
  refine W_some ?_
  exact q
theorem get_id {kvs:List (V×V)} {key:Sm} {o:Option V} (hg:dGet (.str key) kvs=some o) (h2:isInst σ (o.getD .none) (.D .x4)=some false) (q:K (o.getD .none) σ):
  W (callF (n+2) (.glob (.B .x8)) [shelfV a1 a2,.dct kvs,.str key] σ) K:=by
 refine W_def rfl rfl ?_
 refine W_some ?_
 refine O_of (m:=dGet (.str key) kvs) hg ?_
 exact fetch_id h2 q
theorem head_sub (m:Option M) (r:Option V):dGet (.str (.C .xb)) (headKvs m r)=some (some (nameV (.B .x8))):=rfl
theorem head_mat (m:Option M) (r:Option V):dGet (.str (.C .x1)) (headKvs m r)=some (m.map fun m=>.lst m.is):=by cases m<;>cases r<;>rfl
theorem head_box (m:Option M) (r:Option V):dGet (.str (.A .x7)) (headKvs m r)=some none:=by cases m<;>cases r<;>rfl
theorem head_res (m:Option M) (r:Option V):dGet (.str (.C .x6)) (headKvs m r)=some r:=by cases m<;>cases r<;>rfl
end
end L
end E
end Mine
end
section
namespace Mine
namespace E
namespace L
section
variable {n:Nat} {σ σ₀:St} {K:V→St→Prop} {p s vd pl:Nat} {k:PK} {mine:Pl} {x:A} {t:Option M} {sh:List Show} {cs:List V}
theorem named {f:Sm} {xo:List (V×V)} {v:V} (h:PR σ p k s vd pl mine x t sh cs) (h1:dGet (.str (.E .x1)) k.res=some (some (.dct xo))) (h2:dGet (.str f) xo=some (some v)) (q:K v σ):
  W (callF (n+3) (.glob (.J .x5)) [.ref p,.str (.E .x1),.str f] σ) K:=by
 refine W_def rfl rfl ?_
 refine o_inst h.po ?_
 refine o_inst h.po ?_
 refine get_id h1 rfl ?_
 refine W_some ?_
 refine W_some ?_
 exact O_of (m:=dGet (.str f) xo) h2 q
theorem form_none {key:Sm} {cnt:Int} {kvs:List (V×V)} (h:PR σ p k s vd pl mine x t sh cs) (h1:dGet (.str key) kvs=some none) (q:K .none σ):W (callF (n+3) (.glob (.I .x2)) [.ref p,.dct kvs,.str key,.int cnt] σ) K:=by
 refine W_def rfl rfl ?_
 refine o_inst h.po ?_
 refine get_id h1 rfl ?_
 exact q
theorem form_six {m:M} {kvs:List (V×V)} (h:PR σ p k s vd pl mine x t sh cs) (h1:dGet (.str (.C .x1)) kvs=some (some (.lst m.is))) (q:K (.lst [dec m.a,dec m.b,dec m.c,dec m.d,dec m.e,dec m.f]) σ):
  W (callF (n+5) (.glob (.I .x2)) [.ref p,.dct kvs,.str (.C .x1),.int 6] σ) K:=by
 refine W_def rfl rfl ?_
 refine o_inst h.po ?_
 refine get_id h1 rfl ?_
 refine W_some ?_
 refine comp_cons (o_inst h.po (fetch_id rfl ?_))
 refine comp_cons (o_inst h.po (fetch_id rfl ?_))
 refine comp_cons (o_inst h.po (fetch_id rfl ?_))
 refine comp_cons (o_inst h.po (fetch_id rfl ?_))
 refine comp_cons (o_inst h.po (fetch_id rfl ?_))
 refine comp_cons (o_inst h.po (fetch_id rfl ?_))
 refine comp_nil ?_
 exact nums6 (six m) q
theorem PR.setRes (h:PR σ p k s vd pl mine x t sh cs) (r:List (V×V)):PR (σ.set p (.inst (.C .xc) (pFs {k with res:=r} s pl t))) p {k with res:=r} s vd pl mine x t sh cs:=by
 have e:∀ {a:Nat} {o:MObj},σ.objs a=some o→(o≠ .inst (.C .xc) (pFs k s pl t))→(σ.set p (.inst (.C .xc) (pFs {k with res:=r} s pl t))).objs a=some o:=fun {a o} h1 h2=>(St.set_ne (ne_obj h1 h.po h2)).trans h1
 exact⟨St.set_eq,e h.so nofun,e h.vo nofun,e h.plo nofun,e h.mo nofun,e h.co nofun,e h.fo nofun,fun q hq=>⟨e (h.mi q hq).1 nofun,e (h.mi q hq).2 nofun⟩,h.nds,h.ndv,h.nds',h.ndv',h.ndl,h.lt⟩
noncomputable def resOf (d:List (V×V)):Option V→List (V×V)
 | some (.dct d')=>d'
 | _=>d
noncomputable def inM (m:Option M) (c:M):M:=match m with | some o=>o.mul c | none=>c
theorem six_dec (m:M):Six [dec m.a,dec m.b,dec m.c,dec m.d,dec m.e,dec m.f] m:=.mk (.inl rfl) (.inl rfl) (.inl rfl) (.inl rfl) (.inl rfl) (.inl rfl)
theorem enter_m (m:Option M) (hm:∀ o,m=some o→o.Small) {r:Option V} (h:PR σ p k s vd pl mine x t sh cs) (hr:∀ v,r=some v→∃ d,v=.dct d) (q:∀ σ',PR σ' p {k with res:=resOf k.res r} s vd pl mine {x with ctm:=inM m x.ctm} t sh cs→Mod [p,s] σ σ'→K .none σ'):
  W (callF (n+6) (.glob (.H .x7)) [.ref p,headV m r] σ) K:=by
 refine W_def rfl rfl ?_
 cases m with
 | none=>
  refine form_none h (by rw [head_mat];rfl) ?_
  refine form_none h (head_box _ _) ?_
  refine o_inst h.po ?_
  cases r with
  | none=>
   refine get_id (head_res none none) rfl ?_
   refine W_some ?_
   exact q σ h (Mod.refl _ _)
  | some v=>
   refine ex1 (hr v rfl) fun d qq0=>?_;subst qq0
   refine get_id (head_res none (some (.dct d))) rfl ?_
   refine W_some ?_
   refine o_attr h.po rfl ?_
   exact q _ (h.setRes d) ((Mod.refl _ _).set m0)
 | some o=>
  refine form_six h (by rw [head_mat];rfl) ?_
  refine mat_of (six_dec o) ?_
  refine o_inst h.po ?_
  refine o_inst h.so ?_
  refine m_times (hm o rfl) ?_
  refine o_inst h.po ?_
  refine o_attr h.so rfl ?_
  have h':=h.setS (o.mul x.ctm)
  refine form_none h' (head_box _ _) ?_
  refine o_inst h'.po ?_
  cases r with
  | none=>
   refine get_id (head_res (some o) none) rfl ?_
   refine W_some ?_
   exact q _ h' ((Mod.refl _ _).set (mS m0))
  | some v=>
   refine ex1 (hr v rfl) fun d qq0=>?_;subst qq0
   refine get_id (head_res (some o) (some (.dct d))) rfl ?_
   refine W_some ?_
   refine o_attr h'.po rfl ?_
   exact q _ (h'.setRes d) (((Mod.refl _ _).set (mS m0)).set m0)
end
end L
end E
end Mine
end
section
namespace Mine
namespace E
namespace L
section
variable {n:Nat} {σ σ₀:St} {K:V→St→Prop} {p s vd pl:Nat} {k:PK} {mine:Pl} {x:A} {t:Option M} {sh:List Show} {cs:List V} {own₀:List Nat} {vs:List V} {r:Nat} {call:Call}
theorem w_len' {m:Nat} (h:σ.objs r=some (.list vs)) (hl:vs.length≤1000000) (hm:vs.length=m) (q:K (.int m) σ):W (bcall (.I .xc) [.ref r] σ) K:=w_len h hl (hm▸q)
theorem o_inl {l:List V} {b:Bool} {K:Bool→Prop} (h:σ.objs r=some (.list vs)) (e:vIn (.tup l) vs=some b) (q:K b):O (cmpV σ .in_ (.tup l) (.ref r)) K:=by
 refine O_of ?_ q
 show (match (σ.objs r).bind oDict with | some kvs=>_ | none=>((σ.objs r).bind oList).bind fun vs=>vIn (.tup l) vs)=_
 rw [h];exact e
theorem PR.down {σ₁ σ':St} {mark:V} (h:PR σ p k s vd pl mine x none sh cs) (e1:σ₁.next=σ.next + 2) (e2:σ₁.objs (σ.next + 1)=some (stObj x.ctm σ.next)) (e3:σ₁.objs σ.next=some (vObj x)) (e4:∀ r,r < σ.next→σ₁.objs r=σ.objs r)
  (hn:σ'.next=σ₁.next) (hp:σ'.objs p=some (.inst (.C .xc) (pFs {k with base:=k.base++mine.map (fun uu=>uu.1),opens:=k.opens++[mark]} (σ.next + 1) pl none))) (ho:σ'.objs k.of=some (.list (k.opens++[mark]))) (hs:∀ r,r≠p→r≠k.of→σ'.objs r=σ₁.objs r):
  PR σ' p {k with base:=k.base++mine.map (fun uu=>uu.1),opens:=k.opens++[mark]} (σ.next + 1) σ.next pl [] x none sh cs:=by
 refine an6 h.ndl3 fun n1 n2 n3 n4 n5 n6=>?_
 have lt:∀ {r},r∈own p k s vd pl mine→r < σ.next:=fun hr=>h.lt _ hr
 have en:σ'.next=σ.next + 2:=hn.trans e1
 have l:∀ {r},r∈own p k s vd pl mine→r < σ'.next:=fun hr=>en▸Nat.lt_succ_of_lt (Nat.lt_succ_of_lt (lt hr))
 have ne:∀ {r},r∈own p k s vd pl mine→σ.next≠r∧σ.next + 1≠r:=fun hr=>⟨Nat.ne_of_gt (lt hr),Nat.ne_of_gt (Nat.lt_succ_of_lt (lt hr))⟩
 have e:∀ {r:Nat} {o:MObj},r∈own p k s vd pl mine→σ.objs r=some o→r≠p→r≠k.of→σ'.objs r=some o:=fun h2 h1 h3 h4=>(hs _ h3 h4).trans ((e4 _ (lt h2)).trans h1)
 exact⟨hp,(hs _ (ne own_p).2 (ne own_of).2).trans e2,(hs _ (ne own_p).1 (ne own_of).1).trans e3,e own_pl (by rw [h.plo];simp) (ne_obj h.plo h.po nofun) n3,e own_ml h.mo (ne_obj h.mo h.po nofun) n5,e own_cl h.co (ne_obj h.co h.po nofun) n6,ho,al0,List.not_mem_nil,List.not_mem_nil,.nil,.nil,h.ndl,
  own_all (P:=(fun uu=>uu < σ'.next)) (l own_p) (en▸Nat.lt_succ_self _) (en▸Nat.lt_succ_of_lt (Nat.lt_succ_self _)) (l own_pl) (l own_ml) (l own_cl) (l own_of) al0⟩
theorem PR.up {k':PK} {σ₂ σ':St} {s' vd' pl' npl:Nat} {mine':Pl} {x':A} {sh':List Show} {cs':List V} (h:PR σ p k s vd pl mine x none sh cs) (hk:k'.ml=k.ml∧k'.cl=k.cl∧k'.of=k.of) (g:PR σ₂ p k' s' vd' pl' mine' x' none sh' cs')
  (fr:Fra [p,pl,k.ml,k.cl,k.of] σ σ₂) (hnpl:σ₂.next≤npl) (hn:npl < σ'.next)
  (hp:σ'.objs p=some (.inst (.C .xc) (pFs k s npl none))) (hof:σ'.objs k.of=some (.list k.opens)) (hpl:σ'.objs npl=some (.list ((k.base++mine.map (fun uu=>uu.1)).map .ref))) (hs:∀ r,r≠p→r≠k.of→r < σ₂.next→σ'.objs r=σ₂.objs r):
  PR σ' p k s vd npl mine x none sh' cs':=by
 refine an6 h.ndl3 fun n1 n2 n3 n4 n5 n6=>?_
 refine an3 hk fun k1 k2 k3=>?_
 have lt:∀ {r},r∈own p k s vd pl mine→r < σ₂.next:=fun hr=>Nat.lt_of_lt_of_le (h.lt _ hr) fr.1
 have l:∀ {r},r∈own p k s vd pl mine→r < npl:=fun hr=>Nat.lt_of_lt_of_le (lt hr) hnpl
 have l':∀ {r},r∈own p k s vd pl mine→r < σ'.next:=fun hr=>Nat.lt_trans (l hr) hn
 -- what was the outer painter's own
 have e:∀ {r:Nat} {o:MObj},σ.objs r=some o→r∈own p k s vd pl mine→(∀ f,o≠ .inst (.C .xc) f)→(∀ l,o≠ .list l)→σ'.objs r=some o:=fun {r o} h1 h2 h3 h4=>
  have a1:r≠p:=ne_obj h1 h.po (h3 _)
  have a5:r≠k.of:=ne_obj h1 h.fo (h4 _)
  (hs r a1 a5 (lt h2)).trans ((fr.2 r (h.lt _ h2) fun hm=>alS (P:=fun z=>r≠z) a1 (alS (ne_obj h1 h.plo (h4 _)) (alS (ne_obj h1 h.mo (h4 _)) (alS (ne_obj h1 h.co (h4 _)) (alS a5 al0)))) r hm rfl).trans h1)
 exact⟨hp,e h.so own_s nofun nofun,e h.vo own_vd nofun nofun,hpl,(hs _ (ne_obj h.mo h.po nofun) n5 (lt own_ml)).trans (k1▸g.mo),(hs _ (ne_obj h.co h.po nofun) n6 (lt own_cl)).trans (k2▸g.co),hof,
  fun q hq=>⟨e (h.mi q hq).1 (own_prs (prs_1 hq)) nofun nofun,e (h.mi q hq).2 (own_prs (prs_2 hq)) nofun nofun⟩,h.nds,h.ndv,h.nds',h.ndv',nd4 (Nat.ne_of_gt (l own_ml)) (Nat.ne_of_gt (l own_cl)) (Nat.ne_of_gt (l own_of)) n4 n5 n6,
  own_all (P:=(fun uu=>uu < σ'.next)) (l' own_p) (l' own_s) (l' own_vd) hn (l' own_ml) (l' own_cl) (l' own_of) fun r hr=>l' (own_prs hr)⟩
end
end L
end E
end Mine
end
section
namespace Mine
namespace E
namespace L
theorem Run.pl {D:Sm→A→List Show→Prop} {os:List Op} {c c':C} (h:Run D os c c'):c'.pile.length≤c.pile.length + os.length:=by
 induction h with
 | nil=>exact Nat.le_refl _
 | cons st _ ih=>have:=st.grows.2;rw [List.length_cons];omega
theorem Fra.mono {l l':List Nat} {σ σ':St} (h:Fra l σ σ') (e:∀ r∈l,r∈l'):Fra l' σ σ':=⟨h.1,fun r hr hn=>h.2 r hr fun hm=>hn (e r hm)⟩
noncomputable abbrev inK (k:PK) (r:Option V) (b:List Nat) (mark:V):PK:={k with base:=b,opens:=k.opens++[mark],res:=resOf k.res r}
section
variable {n:Nat} {σ σ₀:St} {K:V→St→Prop} {p s vd pl:Nat} {k:PK} {mine:Pl} {x:A} {t:Option M} {sh:List Show} {cs:List V} {own₀:List Nat} {vs:List V} {r:Nat} {call:Call}
theorem o_seqF {K:List V→Prop} (h:σ.objs r=some (.list vs)) (hl:vs.length≤1000000) (q:K vs):O (asSeqF σ (.ref r)) K:=O_of (seqF_ref h hl) q
theorem bound_nat (m:Nat):bound? (some (.int (m:Int)))=some (some (m:Int)):=by
 show (if (0:Int)≤(m:Int) then some (some (m:Int)) else none)=_
 exact if_pos (Int.natCast_nonneg m)
theorem cut_take {a b:List V}:cut (a++b) none (some (a.length:Int))=a:=by
 show ((a++b).take (Int.toNat (a.length:Int))).drop 0=a
 simp
theorem do_form {D':Sm→A→List Show→Prop} {os:List Op} {x':A} {pile pile':List A} {w:List Show} {m:Option M} {rs:Option V} {i:UInt8} {z:Int} {B P:Nat} (hP:PS σ₀ own₀ p k σ x none pile sh) (hz:0 < z) (hin:vIn (.tup [.int z,.int 0]) k.opens=some false) (hlen:k.opens.length < 8)
  (hm:∀ o,m=some o→o.Small) (hr:∀ v,rs=some v→∃ d,v=.dct d) (hrow:∀ σ:St,subV σ k.rows (.int (i.toNat:Nat))=some (.lst (os.map Op.v))) (run:Run D' os ⟨{x with ctm:=inM m x.ctm},none,[],sh⟩ ⟨x',none,pile',sh++w⟩)
  (hB:B≤1000000) (hl:(sh++w).length≤B) (hQ:P≤1000000) (hp:k.base.length + pile.length + os.length≤P) (hdo:∀ b,DoOK D' (n+8) p (inK k rs b (.tup [.int z,.int 0])) B P)
  (q:∀ σ',PS σ₀ own₀ p k σ' x none pile (sh++w)→K .none σ'):W (callF (n+12) (.glob (.H .x1)) [.ref p,refV z,strm (headV m rs) i] σ) K:=by
 refine ex5 hP fun s vd pl mine cs hh=>an5 hh fun h e1 e2 f ho=>?_
 have hb:(k.base++mine.map (fun uu=>uu.1)).length + os.length≤P:=by rw [List.length_append,List.length_map,map_len e1];exact hp
 have hb':(k.base++mine.map (fun uu=>uu.1)).length≤1000000:=Nat.le_trans (Nat.le_of_add_right_le hb) hQ
 have ho1:k.opens.length + 1≤1000000:=Nat.le_trans hlen (by decide)
 have ho0:k.opens.length≤1000000:=Nat.le_of_succ_le ho1
 have lt:∀ {r},r∈own p k s vd pl mine→r < σ.next:=fun hr=>h.lt _ hr
 have npo:k.of≠p:=ne_obj h.fo h.po nofun
 refine W_def rfl rfl ?_
 refine W_some ?_
 refine W_some ?_
 refine o_yes (b:=decide (0 < z)) (decide_eq_true hz) ?_
 refine o_inst h.po ?_
 refine o_inl h.fo hin ?_
 refine o_inst h.po ?_
 refine w_len h.fo ho0 ?_
 refine o_no (b:=decide ((8:Int)≤(k.opens.length:Int))) (decide_eq_false fun z=>absurd (Int.ofNat_le.mp z) (Nat.not_le_of_lt hlen)) ?_
 refine o_inst h.po ?_
 refine o_inst h.po ?_
 refine o_inst h.po ?_
 refine o_inst h.po ?_
 refine o_inst h.po ?_
 refine o_inst h.po ?_
 refine w_len' (m:=(k.base++mine.map (fun uu=>uu.1)).length) h.plo (by rw [List.length_map];exact hb') (List.length_map _) ?_
 refine copied (σ:=σ) h.so h.vo fun σ₁ c1 c2 c3 c4=>?_
 refine o_attr ((c4 p (lt own_p)).trans h.po) rfl ?_
 refine o_attr St.set_eq rfl ?_
 refine o_attr St.set_eq rfl ?_
 refine o_inst St.set_eq ?_
 have hof:σ₁.objs k.of=some (.list k.opens):=(c4 _ (lt own_of)).trans h.fo
 refine o_lapp (r:=k.of) ((St.set_ne npo).trans ((St.set_ne npo).trans ((St.set_ne npo).trans hof))) ?_
 refine w_app (r:=k.of) ((St.set_ne npo).trans ((St.set_ne npo).trans ((St.set_ne npo).trans hof))) ho0 ?_
 generalize hσ:St.set _ k.of _=σ₂
 have g₁:PR σ₂ p {k with base:=k.base++mine.map (fun uu=>uu.1),opens:=k.opens++[.tup [.int z,.int 0]]} (σ.next + 1) σ.next pl [] x none sh cs:=by
  subst hσ
  exact h.down c1 c2 c3 c4 rfl ((St.set_ne npo.symm).trans St.set_eq) St.set_eq fun r h1 h2=>(St.set_ne h2).trans ((St.set_ne h1).trans ((St.set_ne h1).trans (St.set_ne h1)))
 have fr₁:Fra [p,pl,k.ml,k.cl,k.of] σ σ₂:=by
  subst hσ
  exact(((Fra.set (σ':=σ₁) ⟨c1▸Nat.le_add_right _ 2,fun r hr uu=>c4 r hr⟩ (.inl m0)).set (.inl m0)).set (.inl m0)).set (.inl (mS (mS (mS (mS m0)))))
 clear hσ
 refine enter_m m hm g₁ hr fun σ₃ g₃ md=>?_
 refine o_meth g₃.po ?_
 refine o_inst g₃.po ?_
 refine W_clo rfl ?_
 refine O_of (m:=subV σ₃ k.rows (.int (i.toNat:Nat))) (hrow σ₃) ?_
 refine paint_all (n:=n) hB hQ (hdo _) run rfl ⟨_,_,_,[],cs,g₃,rfl,e2,Fra.refl (own p (inK k rs (k.base++mine.map (fun uu=>uu.1)) (.tup [.int z,.int 0])) (σ.next + 1) σ.next pl []) _,fun r hr=>.inl hr⟩ hl hb fun σ₄ g₄=>?_
 refine ex5 g₄ fun s' vd' pl' mine' cs' hh=>an5 hh fun gg em ec fr₄ uu=>?_
 have npo':p≠k.of:=npo.symm
 refine o_inst gg.po ?_
 refine o_lpop gg.fo ?_
 refine w_pop (vs:=k.opens) gg.fo (by rw [List.length_append];exact ho1) ?_
 refine o_inst ((St.set_ne npo').trans gg.po) ?_
 have npl':pl'≠k.of:=gg.ndl3.2.2.1
 have hpl':(σ₄.set k.of (.list k.opens)).objs pl'=some (.list ((k.base++mine.map (fun uu=>uu.1)).map V.ref++(mine'.map (fun uu=>uu.1)).map V.ref)):=(St.set_ne npl').trans (by rw [gg.plo,List.map_append])
 have hm':pile'.length≤os.length:=Nat.zero_add os.length▸run.pl
 refine o_seqF hpl' (by rw [List.length_append,List.length_map,List.length_map,List.length_map,map_len em];exact Nat.le_trans (Nat.le_trans (Nat.add_le_add_left hm' _) hb) hQ) ?_
 have ec2:cut ((k.base++mine.map (fun uu=>uu.1)).map V.ref++(mine'.map (fun uu=>uu.1)).map V.ref) none (some ((k.base++mine.map (fun uu=>uu.1)).length:Int))=(k.base++mine.map (fun uu=>uu.1)).map V.ref:=by
  rw [← List.length_map (f:=V.ref)];exact cut_take
 have F:Fra [p,pl,k.ml,k.cl,k.of] σ σ₄:=(fr₁.trans md.fra (alS (.inl m0) (alS (.inr (Nat.le_succ _)) al0))).trans fr₄
  (own_all (P:=fun r=>r∈ [p,pl,k.ml,k.cl,k.of]∨σ.next≤r) (.inl m0) (.inr (Nat.le_succ _)) (.inr (Nat.le_refl _)) (.inl (mS m0)) (.inl (mS (mS m0))) (.inl (mS (mS (mS m0)))) (.inl (mS (mS (mS (mS m0))))) al0)
 have lp4:p≠σ₄.next:=Nat.ne_of_lt (Nat.lt_of_lt_of_le (lt own_p) F.1)
 have lof4:k.of≠σ₄.next:=Nat.ne_of_lt (Nat.lt_of_lt_of_le (lt own_of) F.1)
 refine o_attr (r:=p) ((St.new_ne (σ:=σ₄.set k.of (.list k.opens)) lp4).trans ((St.set_ne npo').trans gg.po)) rfl ?_
 refine o_attr St.set_eq rfl ?_
 refine o_attr St.set_eq rfl ?_
 refine o_attr St.set_eq rfl ?_
 refine o_attr St.set_eq rfl ?_
 have F':=(F.set (r:=k.of) (x:=.list k.opens) (.inl (mS (mS (mS (mS m0)))))).new (x:=.list (cut ((k.base++mine.map (fun uu=>uu.1)).map V.ref++(mine'.map (fun uu=>uu.1)).map V.ref) none (some ((k.base++mine.map (fun uu=>uu.1)).length:Int))))
 refine q _ ⟨s,vd,σ₄.next,mine,cs',h.up (k':=inK k rs (k.base++mine.map (fun uu=>uu.1)) (.tup [.int z,.int 0])) (npl:=σ₄.next) ⟨rfl,rfl,rfl⟩ gg F (Nat.le_refl _) (Nat.lt_succ_self _) St.set_eq ?_ ?_ ?_,e1,ec,
  f.trans (((((F'.set (r:=p) (.inl m0)).set (r:=p) (.inl m0)).set (r:=p) (.inl m0)).set (r:=p) (.inl m0)).set (r:=p) (.inl m0)) (alS (ho _ own_p) (alS (ho _ own_pl) (alS (ho _ own_ml) (alS (ho _ own_cl) (alS (ho _ own_of) al0))))),
  own_chg (P:=fun r=>r∈own₀∨σ₀.next≤r) ho (ho _ own_s) (ho _ own_vd) (.inr (Nat.le_trans f.1 F.1)) fun r hr=>ho r (own_prs hr)⟩
 ·exact(St.set_ne npo).trans ((St.set_ne npo).trans ((St.set_ne npo).trans ((St.set_ne npo).trans ((St.set_ne npo).trans ((St.new_ne (σ:=σ₄.set k.of (.list k.opens)) lof4).trans St.set_eq)))))
 ·refine (St.set_ne lp4.symm).trans ((St.set_ne lp4.symm).trans ((St.set_ne lp4.symm).trans ((St.set_ne lp4.symm).trans ((St.set_ne lp4.symm).trans ?_))))
  exact(St.new_eq (σ:=σ₄.set k.of (.list k.opens))).trans (congrArg (fun l=>some (MObj.list l)) ec2)
 ·intro r h1 h2 h3
  exact(St.set_ne h1).trans ((St.set_ne h1).trans ((St.set_ne h1).trans ((St.set_ne h1).trans ((St.set_ne h1).trans ((St.new_ne (σ:=σ₄.set k.of (.list k.opens)) (Nat.ne_of_lt h3)).trans (St.set_ne h2))))))
end
end L
end E
end Mine
end
section
namespace Mine
namespace E
namespace L
section
variable {n:Nat} {σ σ₀:St} {K:V→St→Prop} {p:Nat} {k:PK} {x:A} {sh:List Show} {own₀:List Nat}
theorem do_object {D':Sm→A→List Show→Prop} {os:List Op} {x':A} {pile pile':List A} {w:List Show} {m:Option M} {rs:Option V} {i:UInt8} {z:Int} {B P:Nat} {f:Sm} {xo:List (V×V)} (hP:PS σ₀ own₀ p k σ x none pile sh) (h1:dGet (.str (.E .x1)) k.res=some (some (.dct xo))) (h2:dGet (.str f) xo=some (some (refV z)))
  (hz:(z=11∧k.a1=strm (headV m rs) i)∨(z=12∧k.a2=strm (headV m rs) i)) (hin:vIn (.tup [.int z,.int 0]) k.opens=some false) (hlen:k.opens.length < 8)
  (hm:∀ o,m=some o→o.Small) (hr:∀ v,rs=some v→∃ d,v=.dct d) (hrow:∀ σ:St,subV σ k.rows (.int (i.toNat:Nat))=some (.lst (os.map Op.v))) (run:Run D' os ⟨{x with ctm:=inM m x.ctm},none,[],sh⟩ ⟨x',none,pile',sh++w⟩)
  (hB:B≤1000000) (hl:(sh++w).length≤B) (hQ:P≤1000000) (hp:k.base.length + pile.length + os.length≤P) (hdo:∀ b,DoOK D' (n+8) p (inK k rs b (.tup [.int z,.int 0])) B P)
  (q:∀ σ',PS σ₀ own₀ p k σ' x none pile (sh++w)→K .none σ'):W (callF (n+13) (.glob (.H .x2)) [.ref p,.str f] σ) K:=by
 refine ex5 (id hP) fun s vd pl mine cs hh=>an2 hh fun h uu=>?_
 refine W_def rfl rfl ?_
 refine named h h1 h2 ?_
 refine o_inst h.po ?_
 refine fetch_ref hz ?_
 refine W_some ?_
 refine o_inst h.po ?_
 refine get_id (head_sub m rs) rfl ?_
 refine W_some ?_
 exact do_form hP (by omega) hin hlen hm hr hrow run hB hl hQ hp hdo q
end
end L
end E
end Mine
end
section
namespace Mine
namespace E
namespace L
noncomputable abbrev C.up (s:List Show) (c:C):C:={c with sh:=s++c.sh}
theorem Stp.shift {D:Sm→A→List Show→Prop} {o:Op} {c c':C} (s:List Show) (h:Stp D o c c'):Stp D o (c.up s) (c'.up s):=by
 induction h with
 | one a=>exact .one a
 | @sho op x m m' o p s' a=>
  have:=Stp.sho (D:=D) (p:=p) (s:=s++s') a
  rw [List.append_assoc] at this
  exact this
 | q=>exact .q
 | Q=>exact .Q
 | @dO x f p s' w a=>
  have:=Stp.dO (D:=D) (p:=p) (s:=s++s') a
  rw [List.append_assoc] at this
  exact this
theorem Run.shift {D:Sm→A→List Show→Prop} {os:List Op} {c c':C} (s:List Show) (h:Run D os c c'):Run D os (c.up s) (c'.up s):=by
 induction h with
 | nil=>exact .nil
 | cons st _ ih=>exact .cons (st.shift s) ih
noncomputable def Shows (D:Sm→A→List Show→Prop) (os:List Op) (m:Option M) (x:A) (w:List Show):Prop:=∃ x' pile',Run D os ⟨{x with ctm:=inM m x.ctm},none,[],[]⟩ ⟨x',none,pile',w⟩
noncomputable abbrev D0:Sm→A→List Show→Prop:=fun uu uu uu=>False
section
variable {n:Nat} {p:Nat} {k:PK}
theorem doOK0 {B P:Nat}:DoOK D0 n p k B P:=fun f x w h=>h.elim
theorem doOKf {D':Sm→A→List Show→Prop} {os:List Op} {m:Option M} {rs:Option V} {i:UInt8} {z:Int} {B P P':Nat} {f₀:Sm} {xo:List (V×V)} (h1:dGet (.str (.E .x1)) k.res=some (some (.dct xo))) (h2:dGet (.str f₀) xo=some (some (refV z)))
  (hz:(z=11∧k.a1=strm (headV m rs) i)∨(z=12∧k.a2=strm (headV m rs) i)) (hin:vIn (.tup [.int z,.int 0]) k.opens=some false) (hlen:k.opens.length < 8)
  (hm:∀ o,m=some o→o.Small) (hr:∀ v,rs=some v→∃ d,v=.dct d) (hrow:∀ σ:St,subV σ k.rows (.int (i.toNat:Nat))=some (.lst (os.map Op.v))) (hB:B≤1000000) (hQ:P'≤1000000) (hp:P + os.length≤P') (hdo:∀ b,DoOK D' (n+8) p (inK k rs b (.tup [.int z,.int 0])) B P'):
  DoOK (fun f x w=>f=f₀∧Shows D' os m x w) (n+13) p k B P:=fun f x w ⟨e,x',pile',run⟩ σ σ₀ own₀ pile sh K hP hl hpl q=>by
 subst e
 have run':=run.shift sh
 simp only [C.up,List.append_nil] at run'
 exact do_object hP h1 h2 hz hin hlen hm hr hrow run' hB hl hQ (by omega) hdo q
theorem DoOK.or {D D':Sm→A→List Show→Prop} {B P:Nat} (h:DoOK D n p k B P) (h':DoOK D' n p k B P):DoOK (fun f x w=>D f x w∨D' f x w) n p k B P:=fun f x w hd=>hd.elim (h f x w) (h' f x w)
end
end L
end E
end Mine
end
section
namespace Mine
namespace E
namespace L
section
variable {n:Nat} {σ:St} {K:V→St→Prop}
theorem first_values (q:∀ σ',σ'.next=σ.next + 1→σ'.objs σ.next=some (.dict (vKvs 0 0 (.A .x0)))→(∀ r,r < σ.next→σ'.objs r=σ.objs r)→K (.ref σ.next) σ'):W (callF (n+3) (.glob (.H .xa)) [] σ) K:=by
 refine W_def rfl rfl ?_
 refine W_of (fun uu=>rfl) ?_
 refine W_of (fun uu=>rfl) ?_
 refine W_of (fun uu=>rfl) ?_
 refine for_cons ?_
 refine o_dset (r:=σ.next) St.new_eq rfl rfl ?_
 refine for_cons ?_
 refine o_dset (r:=σ.next) St.set_eq rfl rfl ?_
 refine for_cons ?_
 refine o_dset (r:=σ.next) St.set_eq rfl rfl ?_
 refine for_cons ?_
 refine o_dset (r:=σ.next) St.set_eq rfl rfl ?_
 refine for_cons ?_
 refine o_dset (r:=σ.next) St.set_eq rfl rfl ?_
 refine for_nil ?_
 refine W_of (fun uu=>rfl) ?_
 refine o_dset (r:=σ.next) St.set_eq rfl rfl ?_
 refine o_dset (r:=σ.next) St.set_eq rfl rfl ?_
 refine o_dset (r:=σ.next) (d:=vKvs 0 0 (.A .x0)) St.set_eq rfl rfl ?_
 refine q _ rfl St.set_eq fun r hr=>?_
 have h:r≠σ.next:=Nat.ne_of_lt hr
 exact(St.set_ne h).trans ((St.set_ne h).trans ((St.set_ne h).trans ((St.set_ne h).trans ((St.set_ne h).trans ((St.set_ne h).trans ((St.set_ne h).trans ((St.set_ne h).trans (St.new_ne h))))))))
theorem first_state (q:∀ σ',σ'.next=σ.next + 2→σ'.objs (σ.next + 1)=some (stObj M.one σ.next)→σ'.objs σ.next=some (.dict (vKvs 0 0 (.A .x0)))→(∀ r,r < σ.next→σ'.objs r=σ.objs r)→K (.ref (σ.next + 1)) σ'):W (callF (n+5) (.glob (.H .x9)) [.none] σ) K:=by
 refine W_def rfl rfl ?_
 refine m_one ?_
 refine W_of (fun uu=>rfl) ?_
 refine W_of (fun uu=>rfl) ?_
 refine first_values fun σ₁ e1 e2 e3=>?_
 refine W_mu (g:=(.D .xc)) rfl rfl rfl ?_
 refine o_attr (r:=σ₁.next) (fs:=[]) St.new_eq rfl ?_
 refine o_attr (r:=σ₁.next) St.set_eq rfl ?_
 refine o_attr (r:=σ₁.next) St.set_eq rfl ?_
 refine o_attr (r:=σ₁.next) St.set_eq rfl ?_
 refine o_attr (r:=σ₁.next) St.set_eq rfl ?_
 have q':=q
 rw [← e1] at q'
 refine q' _ (by show σ₁.next + 1=σ.next + 2;omega) St.set_eq ?_ fun r hr=>?_
 ·have h:σ.next≠σ₁.next:=by omega
  exact(St.set_ne h).trans ((St.set_ne h).trans ((St.set_ne h).trans ((St.set_ne h).trans ((St.set_ne h).trans ((St.new_ne h).trans e2)))))
 ·have h:r≠σ₁.next:=by omega
  exact(St.set_ne h).trans ((St.set_ne h).trans ((St.set_ne h).trans ((St.set_ne h).trans ((St.set_ne h).trans ((St.new_ne h).trans (e3 r hr))))))
end
end L
end E
end Mine
end
section
namespace Mine
namespace E
namespace L
section
variable {n:Nat} {σ:St} {K:V→St→Prop}
theorem painter_new {a1 a2 rows:V} {res:List (V×V)} (q:∀ σ',σ'.next=σ.next + 7→PR σ' σ.next ⟨a1,a2,rows,res,[],σ.next + 5,σ.next + 6,σ.next + 4,[]⟩ (σ.next + 2) (σ.next + 1) (σ.next + 3) [] ⟨M.one,0,0,(.A .x0)⟩ none [] []→(∀ r,r < σ.next→σ'.objs r=σ.objs r)→K (.ref σ.next) σ'):
  W (callF (n+7) (.glob (.C .xc)) [shelfV a1 a2,.dct res,.clo .l_0 [((.H .x7),rows)]] σ) K:=by
 refine W_mu (g:=(.C .xc)) rfl rfl rfl ?_
 refine o_attr (r:=σ.next) (fs:=[]) St.new_eq rfl ?_
 refine o_attr (r:=σ.next) St.set_eq rfl ?_
 refine o_attr (r:=σ.next) St.set_eq rfl ?_
 refine first_state fun σ₁ e1 e2 e3 e4=>?_
 obtain ⟨ob,nx⟩:=σ₁
 have e1:nx=σ.next + 3:=e1
 subst e1
 have e2:ob (σ.next + 2)=some (stObj M.one (σ.next + 1)):=e2
 have e3:ob (σ.next + 1)=some (.dict (vKvs 0 0 (.A .x0))):=e3
 have lp:σ.next < σ.next + 1:=Nat.lt_succ_self _
 refine o_attr (r:=σ.next) ((e4 _ lp).trans St.set_eq) rfl ?_
 have h3:∀ {k:Nat},σ.next≠σ.next + 3 + k:=by omega
 refine o_attr (r:=σ.next) ((St.new_ne (by exact h3 (k:=0))).trans St.set_eq) rfl ?_
 refine o_attr (r:=σ.next) St.set_eq rfl ?_
 refine W_some ?_
 refine o_attr (r:=σ.next) St.set_eq rfl ?_
 refine o_attr (r:=σ.next) St.set_eq rfl ?_
 refine o_attr (r:=σ.next) St.set_eq rfl ?_
 refine o_attr (r:=σ.next) St.set_eq rfl ?_
 refine o_attr (r:=σ.next) ((St.new_ne (by exact h3 (k:=1))).trans St.set_eq) rfl ?_
 refine o_attr (r:=σ.next) ((St.new_ne (by exact h3 (k:=2))).trans St.set_eq) rfl ?_
 refine o_attr (r:=σ.next) ((St.new_ne (by exact h3 (k:=3))).trans St.set_eq) rfl ?_
 have ne:∀ {k},σ.next + (k + 1)≠σ.next:=fun {k}=>Nat.ne_of_gt (Nat.lt_add_of_pos_right (Nat.succ_pos k))
 have nk:∀ {j k},j < k→σ.next + j≠σ.next + k:=fun h=>Nat.ne_of_lt (Nat.add_lt_add_left h _)
 refine q _ rfl ⟨St.set_eq,?_,?_,?_,?_,?_,?_,al0,List.not_mem_nil,List.not_mem_nil,.nil,.nil,nd4 (nk (by decide)) (nk (by decide)) (nk (by decide)) (nk (by decide)) (nk (by decide)).symm (nk (by decide)).symm,
  own_all (P:=(fun uu=>uu < σ.next + 7)) (Nat.lt_add_of_pos_right (by decide)) (Nat.add_lt_add_left (by decide) _) (Nat.add_lt_add_left (by decide) _) (Nat.add_lt_add_left (by decide) _) (Nat.add_lt_add_left (by decide) _) (Nat.add_lt_add_left (by decide) _) (Nat.add_lt_add_left (by decide) _) al0⟩ fun r hr=>?_
 iterate 2
  ·repeat (first | refine (St.set_ne ne).trans ?_ | refine (St.new_ne (nk (k:=6) (by decide))).trans ?_ | refine (St.new_ne (nk (k:=5) (by decide))).trans ?_ | refine (St.new_ne (nk (k:=4) (by decide))).trans ?_ | refine (St.new_ne (nk (k:=3) (by decide))).trans ?_)
   assumption
 iterate 4
  ·repeat (first | exact St.new_eq | refine (St.set_ne ne).trans ?_ | refine (St.new_ne (nk (k:=6) (by decide))).trans ?_ | refine (St.new_ne (nk (k:=5) (by decide))).trans ?_ | refine (St.new_ne (nk (k:=4) (by decide))).trans ?_)
 ·have n0:r≠σ.next:=Nat.ne_of_lt hr
  have n1:∀ {k},r≠σ.next + k:=Nat.ne_of_lt (Nat.lt_add_right _ hr)
  repeat (first | refine (St.set_ne n0).trans ?_ | refine (St.new_ne (n1 (k:=6))).trans ?_ | refine (St.new_ne (n1 (k:=5))).trans ?_ | refine (St.new_ne (n1 (k:=4))).trans ?_ | refine (St.new_ne (n1 (k:=3))).trans ?_)
  exact(e4 r (Nat.lt_succ_of_lt hr)).trans ((St.set_ne n0).trans ((St.set_ne n0).trans ((St.set_ne n0).trans (St.new_ne n0))))
end
end L
end E
end Mine
end
section
namespace Mine
namespace E
namespace L
section
variable {n:Nat} {σ σ₀:St} {K:V→St→Prop} {p:Nat} {k:PK} {own₀:List Nat} {r:Nat} {vs:List V}
theorem frz_list (h:σ.objs r=some (.list vs)):frz σ (.ref r)=(.lst vs,σ.del r):=by
 show (match σ.objs r with | some (.list vs)=>(V.lst vs,σ.del r) | some (.dict kvs)=>(.dct kvs,σ.del r) | some (.inst c fs)=>(.inst c fs,σ.del r) | _=>(.ref r,σ))=_
 rw [h]
theorem Fra.del {o:List Nat} {σ σ':St} {r:Nat} (f:Fra o σ σ') (h:r∈o∨σ.next≤r):Fra o σ (σ'.del r):=⟨f.1,fun q hq hn=>(St.del_ne (by rintro rfl;rcases h with h | h;exact hn h;omega)).trans (f.2 q hq hn)⟩
theorem paint {D:Sm→A→List Show→Prop} {B P:Nat} (hB:B≤1000000) (hQ:P≤1000000) (hdo:DoOK D (n+8) p k B P) {os:List Op} {c c':C} (hr:Run D os c c') (ht:c'.t=none) (hP:PS σ₀ own₀ p k σ c.x c.t c.pile c.sh) (hl:c'.sh.length≤B) (hp:k.base.length + c.pile.length + os.length≤P)
  (q:∀ σ',Fra own₀ σ₀ σ'→K (.lst (c'.sh.map Show.mark)) σ'):W (callF (n+12) (.glob (.D .x1)) [.ref p,.lst (os.map Op.v)] σ) K:=by
 refine W_def rfl rfl ?_
 refine paint_all hB hQ hdo hr ht hP hl hp fun σ' g=>?_
 refine ex5 g fun s vd pl mine cs hh=>an5 hh fun h uu uu f ho=>?_
 refine o_inst h.po ?_
 have e:K (frz σ' (.ref k.ml)).1 (frz σ' (.ref k.ml)).2:=by
  rw [frz_list h.mo]
  exact q _ (f.del (ho _ own_ml))
 exact e
end
end L
end E
end Mine
end
section
namespace Mine
namespace E
namespace L
noncomputable def tx:Sm→UInt8→Sm
 | (.B .x5),65=>(.A .x3)
 | (.B .x5),_=>(.A .x5)
 | _,65=>(.E .x2)
 | _,_=>(.E .x4)
structure Show.Ok (s:Show):Prop where
 font:s.font=(.B .x5)∨s.font=(.B .x9)
 oct:∀ o∈s.oct,o=65∨o=66
 size:smallI s.size=true
 len:s.oct.length≤1000
noncomputable abbrev tld (a:Int):V:=.tup [.int a,.int 0]
noncomputable def Show.row (s:Show) (o:UInt8):V:=.tup [.str (tx s.font o),tld (s.m.a * 0 + s.m.c * 0 + s.m.e),tld (s.m.b * 0 + s.m.d * 0 + s.m.f),tld 0,tld (s.m.b * 0 + s.m.d * s.size)]
noncomputable def dueOf (l:List Show):List V:=l.flatMap fun s=>s.oct.map s.row
section
variable {n:Nat} {σ:St} {K:V→St→Prop} {r:Nat} {vs:List V}
theorem text_of {f:Sm} {o:UInt8} (hf:f=(.B .x5)∨f=(.B .x9)) (ho:o=65∨o=66):∃ d,subV σ (gval (.G .x1)) (.str f)=some d∧subV σ d (.int (o.toNat:Nat))=some (.str (tx f o)):=by
 rcases hf with rfl | rfl<;>rcases ho with rfl | rfl<;>exact⟨_,rfl,rfl⟩
inductive DS (L:V) (r:Nat):List (Nm×V)→Prop
 | s0:DS L r [((.E .xa),L),((.B .x9),.ref r)]
 | s9 {a b c d e f g:V}:DS L r [((.E .xa),L),((.B .x9),.ref r),((.E .x9),a),((.F .x7),b),((.E .xb),c),((.F .x0),d),((.I .x6),e),((.L .x7),f),((.L .x8),g)]
 | s10 {a b c d e f g h:V}:DS L r [((.E .xa),L),((.B .x9),.ref r),((.E .x9),a),((.F .x7),b),((.E .xb),c),((.F .x0),d),((.I .x6),e),((.L .x7),f),((.L .x8),g),((.F .x6),h)]
noncomputable abbrev dueBody:List S:=[.expr (.meth (.loc (.B .x9)) (.A .x2) [(.tup [(.sub (.sub (.glob (.G .x1)) (.loc (.F .x0))) (.loc (.F .x6))),(.meth (.loc (.L .x7)) (.K .x1) []),(.meth (.loc (.L .x8)) (.K .x1) []),(.tup [(.lit (.int 0)),(.lit (.int 0))]),(.meth (.sub (.meth (.loc (.E .xb)) (.I .x2) [(.lit (.int 0)),(.loc (.I .x6))]) (.lit (.int 1))) (.K .x1) [])])])]
section
variable {L mk:V} {s:Show} {Q:Fl→Fr→St→Prop}
noncomputable abbrev fr9 (L:V) (r:Nat) (mk:V) (s:Show):List (Nm×V):=[((.E .xa),L),((.B .x9),.ref r),((.E .x9),mk),((.F .x7),.bytes s.oct),((.E .xb),s.m.v),((.F .x0),.str s.font),((.I .x6),dec s.size),((.L .x7),dec (s.m.a * 0 + s.m.c * 0 + s.m.e)),((.L .x8),dec (s.m.b * 0 + s.m.d * 0 + s.m.f))]
theorem due_one {o:UInt8} {fr:List (Nm×V)} {fs:List V} (hfr:fr=fr9 L r mk s++[((.F .x6),.int (o.toNat:Nat))]) (hf:s.font=(.B .x5)∨s.font=(.B .x9)) (ho:o=65∨o=66) (hz:smallI s.size=true) (h:σ.objs r=some (.list fs)) (hl:fs.length≤1000000)
  (q:Q .next ⟨fr,none⟩ (σ.set r (.list (fs++[s.row o])))):W3 (execCs wst (callF (n+4)) dueBody ⟨fr,none⟩ σ) Q:=by
 subst hfr
 refine ⟨?_⟩
 refine e1a2 (text_of (σ:=σ) hf ho) fun d h1 h2=>?_
 refine o_lapp h ?_
 refine O_of (m:=subV σ (gval (.G .x1)) (.str s.font)) h1 ?_
 refine O_of (m:=subV σ d (.int (o.toNat:Nat))) h2 ?_
 refine d_told ?_
 refine d_told ?_
 refine m_shifted (.inr rfl) (.inl rfl) rfl hz ?_
 refine d_told ?_
 refine w_app h hl ?_
 exact q
end
end
end L
end E
end Mine
end
section
namespace Mine
namespace E
namespace L
theorem O_mono {α:Type} {m:Option α} {K K':α→Prop} (h:O m K) (k:∀ a,K a→K' a):O m K':=match m,h with
 | some a,h=>k a h
theorem W3cast {m:KF→Prop} {K K':KF} (h:W3 m K) (e:∀ fl fr σ,K fl fr σ=K' fl fr σ):W3 m K':=(funext fun fl=>funext fun fr=>funext fun σ=>e fl fr σ:K=K')▸h
theorem for_consW {x:Nm} {b:Fr→St→KF→Prop} {v:V} {vs:List V} {fr:Fr} {σ:St} {Q:Fl→Fr→St→Prop} (h:O (asgN x v fr) fun fr=>W3 (b fr σ) fun fl fr σ=>match fl with
  | .next=>W3 (forLoop wst x b vs fr σ) Q
  | .ret v=>Q (.ret v) fr σ):W3 (forLoop wst x b (v::vs) fr σ) Q:=⟨O_mono h fun uu h=>h.run⟩
section
variable {n:Nat} {L mk:V} {r:Nat} {s:Show} {Q:Fl→Fr→St→Prop}
noncomputable abbrev octI (o:List UInt8):List V:=o.map fun x=>.int (x.toNat:Nat)
theorem due_octs (hf:s.font=(.B .x5)∨s.font=(.B .x9)) (hz:smallI s.size=true):∀(os:List UInt8),(∀ o∈os,o=65∨o=66)→∀ {σ:St} {fs:List V} {u:V},σ.objs r=some (.list fs)→fs.length + os.length≤1000000→
  (∀ σ' u,(∀ q,q≠r→σ'.objs q=σ.objs q)→σ'.next=σ.next→σ'.objs r=some (.list (fs++os.map s.row))→Q .next ⟨fr9 L r mk s++[((.F .x6),u)],none⟩ σ')→
  W3 (forLoop wst (.F .x6) (fun f s=>execCs wst (callF (n+4)) dueBody f s) (octI os) ⟨fr9 L r mk s++[((.F .x6),u)],none⟩ σ) Q
 | [],ho,σ,fs,u,h,hl,q=>for_nil (q σ u (fun uu uu=>rfl) rfl (by simpa using h))
 | o::os,ho,σ,fs,u,h,hl,q=>by
  rw [List.length_cons] at hl
  refine for_consW ?_
  refine due_one (L:=L) (mk:=mk) (s:=s) (o:=o) rfl hf (ho o (List.mem_cons_self ..)) hz h (by omega) ?_
  refine due_octs hf hz os (fun o' h'=>ho o' (List.mem_cons_of_mem _ h')) St.set_eq (by simp;omega) fun σ' u' h1 h2 h3=>?_
  exact q σ' u' (fun a ha=>(h1 a ha).trans (St.set_ne ha)) h2 (by rw [h3];simp)
theorem due_octs0 (hf:s.font=(.B .x5)∨s.font=(.B .x9)) (hz:smallI s.size=true) {os:List UInt8} (ho:∀ o∈os,o=65∨o=66) {σ:St} {fs:List V} {vars:List (Nm×V)} (hv:vars=fr9 L r mk s∨∃ u,vars=fr9 L r mk s++[((.F .x6),u)]) (h:σ.objs r=some (.list fs)) (hl:fs.length + os.length≤1000000)
  (q:∀ σ' vars',(vars'=fr9 L r mk s∨∃ u,vars'=fr9 L r mk s++[((.F .x6),u)])→(∀ q,q≠r→σ'.objs q=σ.objs q)→σ'.next=σ.next→σ'.objs r=some (.list (fs++os.map s.row))→Q .next ⟨vars',none⟩ σ'):
  W3 (forLoop wst (.F .x6) (fun f s=>execCs wst (callF (n+4)) dueBody f s) (octI os) ⟨vars,none⟩ σ) Q:=by
 rcases hv with rfl | ⟨u,rfl⟩
 ·cases os with
  | nil=>exact for_nil (q σ _ (.inl rfl) (fun uu uu=>rfl) rfl (by simpa using h))
  | cons o os=>
   rw [List.length_cons] at hl
   refine for_consW ?_
   refine due_one (L:=L) (mk:=mk) (s:=s) (o:=o) rfl hf (ho o (List.mem_cons_self ..)) hz h (by omega) ?_
   refine due_octs hf hz os (fun o' h'=>ho o' (List.mem_cons_of_mem _ h')) St.set_eq (by simp;omega) fun σ' u' h1 h2 h3=>?_
   exact q σ' _ (.inr ⟨u',rfl⟩) (fun a ha=>(h1 a ha).trans (St.set_ne ha)) h2 (by rw [h3];simp)
 ·exact due_octs hf hz os ho h hl fun σ' u' h1 h2 h3=>q σ' _ (.inr ⟨u',rfl⟩) h1 h2 h3
end
end L
end E
end Mine
end
section
namespace Mine
namespace E
namespace L
section
variable {n:Nat} {L:V} {r:Nat} {Q:Fl→Fr→St→Prop} {K:V→St→Prop}
theorem o_iterb {b:List UInt8} (h:b.length≤1000000) {K:List V→Prop} (q:K (octI b)):O (asIter (.bytes b)) K:=by
 show O (if (octI b).length≤1000000 then some (octI b) else none) K
 rw [if_pos (by rw [List.length_map];exact h)];exact q
noncomputable abbrev markBody:List S:=[.ife (.cmp .eq (.sub (.loc (.E .x9)) (.lit (.int 0))) (.lit (.str (.I .x0)))) [.asg (.tup [(.nm (.F .x7)),(.nm (.E .xb)),(.nm (.F .x0)),(.nm (.I .x6))]) (.slice false (.loc (.E .x9)) (some (.lit (.int 1))) none),.asg (.tup [(.nm (.L .x7)),(.nm (.L .x8))]) (.meth (.loc (.E .xb)) (.A .x3) [(.lit (.int 0)),(.lit (.int 0))]),.fr (.nm (.F .x6)) (.loc (.F .x7)) dueBody] []]
theorem due_marks:∀(l:List Show),(∀ s∈l,s.Ok)→∀ {σ:St} {fs:List V} {vars:List (Nm×V)},DS L r vars→σ.objs r=some (.list fs)→fs.length + 1000 * l.length≤1000000→
  (∀ σ' vars',DS L r vars'→(∀ q,q≠r→σ'.objs q=σ.objs q)→σ'.next=σ.next→σ'.objs r=some (.list (fs++dueOf l))→Q .next ⟨vars',none⟩ σ')→
  W3 (forLoop wst (.E .x9) (fun f s=>execCs wst (callF (n+5)) markBody f s) (l.map Show.mark) ⟨vars,none⟩ σ) Q
 | [],hs,σ,fs,vars,hd,h,hl,q=>for_nil (q σ vars hd (fun uu uu=>rfl) rfl (by simpa [dueOf] using h))
 | s::l,hs,σ,fs,vars,hd,h,hl,q=>by
  have ok:=hs s (List.mem_cons_self ..)
  have hl2:=ok.len
  rw [List.length_cons] at hl
  have go:∀(σ':St) (vars':List (Nm×V)),DS L r vars'→(∀ q,q≠r→σ'.objs q=σ.objs q)→σ'.next=σ.next→σ'.objs r=some (.list (fs++s.oct.map s.row))→W3 (forLoop wst (.E .x9) (fun f s=>execCs wst (callF (n+5)) markBody f s) (l.map Show.mark) ⟨vars',none⟩ σ') Q:=fun σ' vars' d1 d2 d3 d4=>
   due_marks l (fun t ht=>hs t (List.mem_cons_of_mem _ ht)) d1 d4 (by simp;omega) fun σ'' v'' e1 e2 e3 e4=>q σ'' v'' e1 (fun a ha=>(e2 a ha).trans (d2 a ha)) (e3.trans d3) (by rw [e4];simp [dueOf])
  refine for_cons ?_
  cases hd
  ·refine m_applied (.inr rfl) (.inr rfl) rfl rfl ?_
   refine o_iterb (by omega) ?_
   refine due_octs0 (n:=n+1) (L:=L) (mk:=s.mark) (s:=s) ok.font ok.size ok.oct (.inl rfl) h (by omega) fun σ' vars' e1 e2 e3 e4=>?_
   refine go σ' vars' ?_ e2 e3 e4
   rcases e1 with rfl | ⟨u,rfl⟩
   ·exact .s9
   ·exact .s10
  ·refine m_applied (.inr rfl) (.inr rfl) rfl rfl ?_
   refine o_iterb (by omega) ?_
   refine due_octs0 (n:=n+1) (L:=L) (mk:=s.mark) (s:=s) ok.font ok.size ok.oct (.inl rfl) h (by omega) fun σ' vars' e1 e2 e3 e4=>?_
   refine go σ' vars' ?_ e2 e3 e4
   rcases e1 with rfl | ⟨u,rfl⟩
   ·exact .s9
   ·exact .s10
  ·refine m_applied (.inr rfl) (.inr rfl) rfl rfl ?_
   refine o_iterb (by omega) ?_
   refine due_octs0 (n:=n+1) (L:=L) (mk:=s.mark) (s:=s) ok.font ok.size ok.oct (.inr ⟨_,rfl⟩) h (by omega) fun σ' vars' e1 e2 e3 e4=>?_
   refine go σ' vars' ?_ e2 e3 e4
   rcases e1 with rfl | ⟨u,rfl⟩
   ·exact .s9
   ·exact .s10
theorem law_due {σ:St} {l:List Show} (hs:∀ s∈l,s.Ok) (hl:1000 * l.length≤1000000) (q:∀ σ',Fra [] σ σ'→K (.lst (dueOf l)) σ'):W (callF (n+6) (.glob (.F .x9)) [.lst (l.map Show.mark)] σ) K:=by
 refine W_def rfl rfl ?_
 refine o_iter (by rw [List.length_map];omega) ?_
 refine due_marks (L:=.lst (l.map Show.mark)) (r:=σ.next) l hs .s0 St.new_eq (by simpa using hl) fun σ' vars' d1 d2 d3 d4=>?_
 have e:K (frz σ' (.ref σ.next)).1 (frz σ' (.ref σ.next)).2:=by
  rw [frz_list d4]
  refine q _ ⟨?_,fun r hr uu=>?_⟩
  ·show σ.next≤σ'.next
   rw [d3];exact Nat.le_succ _
  ·have h:r≠σ.next:=Nat.ne_of_lt hr
   exact(St.del_ne h).trans ((d2 r h).trans (St.new_ne h))
 cases d1<;>exact e
end
end L
end E
end Mine
end
section
namespace Mine
namespace E
namespace L
noncomputable abbrev dec3 (t p:Int):V:=.inst (.A .x4) [((.K .x2),.int t),((.G .xc),.int p)]
noncomputable abbrev charsV (a b:Sm):V:=.dct [(.tup [.int 1,.int 65],.str a),(.tup [.int 1,.int 66],.str b)]
noncomputable abbrev fontV (a b:Sm):V:=.inst (.A .xa) [((.F .x1),.lst []),((.B .x5),.none),((.K .x7),.inst (.A .x1) [((.I .xc),.lst []),((.A .xa),charsV a b)]),((.H .x7),.lst []),((.B .x7),.int 0),((.K .x8),dec3 1 3),((.J .x3),.tup [])]
noncomputable def fontOf:Sm→V
 | (.B .x5)=>fontV (.A .x3) (.A .x5)
 | _=>fontV (.E .x2) (.E .x4)
noncomputable abbrev codeV (o:UInt8):V:=.tup [.int 1,.int (o.toNat:Nat)]
section
variable {n:Nat} {σ:St} {K:V→St→Prop} {f:Sm} {o:UInt8} {v:V} {a:Int}
theorem f_text (hf:f=(.B .x5)∨f=(.B .x9)) (ho:o=65∨o=66) (q:K (.str (tx f o)) σ):W (callF (n+1) (.glob (.B .x0)) [fontOf f,codeV o] σ) K:=by
 rcases hf with rfl | rfl<;>rcases ho with rfl | rfl<;>exact W_of (fun uu=>rfl) q
theorem f_width (hf:f=(.B .x5)∨f=(.B .x9)) (ho:o=65∨o=66) (q:K (dec 0) σ):W (callF (n+5) (.glob (.B .x1)) [fontOf f,codeV o] σ) K:=by
 rcases hf with rfl | rfl<;>rcases ho with rfl | rfl<;>exact W_of (fun uu=>rfl) q
theorem d_times0 (hv:Nu v a) (k:K (dec 0) σ):W (callF (n+3) (.glob (.A .x8)) [dec 0,v] σ) K:=by
 refine d_times hv (or_l rfl) ?_
 rw [Int.zero_mul];exact k
noncomputable abbrev tsObj (m:M) (f:V) (z:Int) (sd:Nat):MObj:=.inst (.E .x8) [((.B .x4),m.v),((.C .x8),f),((.I .x6),dec z),((.J .x0),.ref sd)]
noncomputable abbrev sKvs (l:Int):List (V×V):=[(.str (.D .x3),dec 0),(.str (.D .xa),dec 0),(.str (.D .xb),dec 100),(.str (.D .x2),dec l),(.str (.D .x9),dec 0)]
variable {s sd:Nat} {m:M} {z l:Int} {fv:V}
theorem stretch0 (h:σ.objs s=some (tsObj m fv z sd)) (hs:σ.objs sd=some (.dict (sKvs l))) (q:K (dec 0) σ):W (callF (n+5) (.glob (.E .xb)) [.ref s,dec 0] σ) K:=by
 refine W_def rfl rfl ?_
 refine o_inst h ?_
 refine o_dsub hs rfl ?_
 refine d_times0 (.inl rfl) ?_
 refine W_of (v:=dec3 1 2) (σ:=σ) (fun uu=>rfl) ?_
 refine W_of (v:=dec 0) (σ:=σ) (fun uu=>rfl) ?_
 exact q
theorem adv (hf:f=(.B .x5)∨f=(.B .x9)) (ho:o=65∨o=66) (h:σ.objs s=some (tsObj m (fontOf f) z sd)) (hs:σ.objs sd=some (.dict (sKvs l))) (q:K (.tup [dec 0,dec 0]) σ):W (callF (n+6) (.glob (.G .x2)) [.ref s,codeV o] σ) K:=by
 have hc:(.tup [.int 1,.int (o.toNat:Nat)]:V)=codeV o:=rfl
 rcases hf with rfl | rfl<;>rcases ho with rfl | rfl
 all_goals
  refine W_def rfl rfl ?_
  refine o_inst h ?_
  refine W_of (v:=dec 0) (σ:=σ) (fun uu=>rfl) ?_
  refine o_inst h ?_
  refine d_times0 (.inl rfl) ?_
  refine o_inst h ?_
  refine o_dsub hs rfl ?_
  refine d_plus ?_
  refine o_meth h ?_
  refine stretch0 h hs ?_
  refine o_meth h ?_
  refine stretch0 h hs ?_
  exact q
end
end L
end E
end Mine
end
section
namespace Mine
namespace E
namespace L
noncomputable abbrev glyphV (f:Sm) (m:M) (z:Int) (o:UInt8):V:=.inst (.B .x2) [((.J .xb),.str (tx f o)),((.L .x7),dec (m.a * 0 + m.c * 0 + m.e)),((.L .x8),dec (m.b * 0 + m.d * 0 + m.f)),((.L .x4),dec (m.a * 0 + m.c * 0)),((.I .x6),dec (m.b * 0 + m.d * z))]
section
variable {n:Nat} {σ:St} {K:V→St→Prop} {f:Sm} {o:UInt8} {z l:Int} {s sd r:Nat} {m mc pl:M} {Q:Fl→Fr→St→Prop}
theorem codes_loop {call:Call} {fv L:V}:∀(os:List UInt8) {K:List V→St→Prop},K (os.map codeV) σ→WL (compLoop wst (.F .x6) .none (fun f s=>evalC wst call (.tup [(.lit (.int 1)),(.loc (.F .x6))]) f s) ⟨[((.H .xb),fv),((.F .x7),L)],none⟩ (octI os) σ) K
 | [],K,q=>comp_nil q
 | o::os,K,q=>⟨codes_loop os (K:=fun ys σ=>K (codeV o::ys) σ) q⟩
theorem f_codes {os:List UInt8} (hf:f=(.B .x5)∨f=(.B .x9)) (hl:os.length≤1000000) (q:K (.lst (os.map codeV)) σ):W (callF (n+1) (.glob (.A .xc)) [fontOf f,.bytes os] σ) K:=by
 rcases hf with rfl | rfl
 all_goals
  refine W_def rfl rfl ?_
  refine o_iterb hl ?_
  refine codes_loop os ?_
  exact q
noncomputable abbrev shBody:List S:=[.asg (.tup [(.nm (.L .x3)),(.nm (.A .x6))]) (.call (.glob (.G .x2)) [(.loc (.J .x5)),(.loc (.A .xc))]),.asg (.tup [(.nm (.L .x7)),(.nm (.L .x8))]) (.meth (.loc (.F .x9)) (.A .x3) [(.loc (.D .x4)),(.sub (.attr (.loc (.J .x5)) (.J .x0)) (.lit (.str (.D .x9))))]),.expr (.meth (.loc (.D .x0)) (.A .x2) [(.call (.glob (.B .x2)) [(.meth (.attr (.loc (.J .x5)) (.C .x8)) (.J .xb) [(.loc (.A .xc))]),(.loc (.L .x7)),(.loc (.L .x8)),(.sub (.meth (.loc (.F .x9)) (.I .x2) [(.loc (.A .x6)),(.lit (.int 0))]) (.lit (.int 0))),(.loc (.K .x9))])]),.asg (.nm (.D .x4)) (.meth (.loc (.D .x4)) (.H .x1) [(.loc (.L .x3))])]
noncomputable abbrev sh7 (s:Nat) (pl m:M) (L:V) (z:Int) (r:Nat):List (Nm×V):=[((.J .x5),.ref s),((.G .xb),pl.v),((.F .x7),L),((.F .x9),m.v),((.K .x9),dec (m.b * 0 + m.d * z)),((.D .x4),dec 0),((.D .x0),.ref r)]
noncomputable abbrev sh12 (s:Nat) (pl m:M) (L:V) (z:Int) (r:Nat) (c:V):List (Nm×V):=sh7 s pl m L z r++[((.A .xc),c),((.L .x3),dec 0),((.A .x6),dec 0),((.L .x7),dec (m.a * 0 + m.c * 0 + m.e)),((.L .x8),dec (m.b * 0 + m.d * 0 + m.f))]
theorem sh_one {vars:List (Nm×V)} {L:V} {fs:List V} (hv:vars=sh7 s pl m L z r++[((.A .xc),codeV o)]∨vars=sh12 s pl m L z r (codeV o)) (hf:f=(.B .x5)∨f=(.B .x9)) (ho:o=65∨o=66) (h:σ.objs s=some (tsObj mc (fontOf f) z sd)) (hs:σ.objs sd=some (.dict (sKvs l))) (hr:σ.objs r=some (.list fs)) (hl:fs.length≤1000000)
  (q:Q .next ⟨sh12 s pl m L z r (codeV o),none⟩ (σ.set r (.list (fs++[glyphV f m z o])))):W3 (execCs wst (callF (n+7)) shBody ⟨vars,none⟩ σ) Q:=by
 refine ⟨?_⟩
 rcases hv with rfl | rfl<;>rcases hf with rfl | rfl
 all_goals
  refine adv (f:=_) (by first | exact .inl rfl | exact .inr rfl) ho h hs ?_
  refine o_inst h ?_
  refine o_dsub hs rfl ?_
  refine m_applied (.inl rfl) (.inl rfl) rfl rfl ?_
  refine o_lapp hr ?_
  refine o_inst h ?_
  refine f_text (by first | exact .inl rfl | exact .inr rfl) ho ?_
  refine m_shifted (.inl rfl) (.inr rfl) rfl rfl ?_
  refine W_of (σ:=σ) (fun uu=>rfl) ?_
  refine w_app hr hl ?_
  refine d_plus ?_
  exact q
end
end L
end E
end Mine
end
section
namespace Mine
namespace E
namespace L
section
variable {n:Nat} {σ:St} {K:V→St→Prop} {f:Sm} {z l:Int} {s sd r:Nat} {m mc pl:M} {Q:Fl→Fr→St→Prop} {L:V}
theorem sh_loop (hf:f=(.B .x5)∨f=(.B .x9)):∀(os:List UInt8),(∀ o∈os,o=65∨o=66)→∀ {σ:St} {fs:List V} {c:V},σ.objs s=some (tsObj mc (fontOf f) z sd)→σ.objs sd=some (.dict (sKvs l))→σ.objs r=some (.list fs)→fs.length + os.length≤1000000→
  (∀ σ' c',(∀ q,q≠r→σ'.objs q=σ.objs q)→σ'.next=σ.next→σ'.objs r=some (.list (fs++os.map (glyphV f m z)))→Q .next ⟨sh12 s pl m L z r c',none⟩ σ')→
  W3 (forLoop wst (.A .xc) (fun f s=>execCs wst (callF (n+7)) shBody f s) (os.map codeV) ⟨sh12 s pl m L z r c,none⟩ σ) Q
 | [],ho,σ,fs,c,h,hs,hr,hl,q=>for_nil (q σ c (fun uu uu=>rfl) rfl (by simpa using hr))
 | o::os,ho,σ,fs,c,h,hs,hr,hl,q=>by
  rw [List.length_cons] at hl
  refine for_consW ?_
  refine sh_one (pl:=pl) (m:=m) (L:=L) (o:=o) (.inr rfl) hf (ho o (List.mem_cons_self ..)) h hs hr (by omega) ?_
  have n1:s≠r:=ne_obj h hr nofun
  have n2:sd≠r:=ne_obj hs hr nofun
  refine sh_loop hf os (fun o' h'=>ho o' (List.mem_cons_of_mem _ h')) ((St.set_ne n1).trans h) ((St.set_ne n2).trans hs) St.set_eq (by simp;omega) fun σ' c' h1 h2 h3=>?_
  exact q σ' c' (fun a ha=>(h1 a ha).trans (St.set_ne ha)) h2 (by rw [h3];simp)
theorem shown {os:List UInt8} (hf:f=(.B .x5)∨f=(.B .x9)) (ho:∀ o∈os,o=65∨o=66) (hp:pl.Small) (hz:smallI z=true) (hl:os.length≤1000000) (h:σ.objs s=some (tsObj mc (fontOf f) z sd)) (hs:σ.objs sd=some (.dict (sKvs l))) (ls:s < σ.next) (ld:sd < σ.next)
  (q:∀ σ',Fra [] σ σ'→K (.tup [.lst (os.map (glyphV f (pl.mul mc) z)),dec 0]) σ'):W (callF (n+8) (.glob (.K .x2)) [.ref s,pl.v,.bytes os] σ) K:=by
 have fin:∀ {σ':St} {K':V→St→Prop},(∀ q,q≠σ.next→σ'.objs q=σ.objs q)→σ'.next=σ.next + 1→σ'.objs σ.next=some (.list (os.map (glyphV f (pl.mul mc) z)))→(∀ σ'',Fra [] σ σ''→K' (.lst (os.map (glyphV f (pl.mul mc) z))) σ'')→K' (frz σ' (.ref σ.next)).1 (frz σ' (.ref σ.next)).2:=fun {σ' K'} h1 h2 h3 k=>by
  rw [frz_list h3]
  refine k _ ⟨by show σ.next≤σ'.next;omega,fun r hr uu=>?_⟩
  have h:r≠σ.next:=Nat.ne_of_lt hr
  exact(St.del_ne h).trans (h1 r h)
 rcases hf with rfl | rfl
 all_goals
  refine W_def rfl rfl ?_
  refine o_inst h ?_
  refine o_inst h ?_
  refine m_times hp ?_
  refine o_inst h ?_
  refine m_shifted (.inr rfl) (.inl rfl) rfl hz ?_
  refine d_new ?_
  refine o_inst ((St.new_ne (Nat.ne_of_lt ls)).trans h) ?_
  refine f_codes (by first | exact .inl rfl | exact .inr rfl) hl ?_
  refine o_iter (by rw [List.length_map];exact hl) ?_
  have h':=(St.new_ne (o:=.list []) (Nat.ne_of_lt ls)).trans h
  have hs':=(St.new_ne (o:=.list []) (Nat.ne_of_lt ld)).trans hs
  cases os with
  | nil=>
   refine for_nil ?_
   exact fin (σ':=σ.new (.list [])) (K':=fun v σ=>K (.tup [v,dec 0]) σ) (fun q hq=>St.new_ne hq) rfl St.new_eq q
  | cons o os=>
   rw [List.length_cons] at hl
   refine for_consW ?_
   refine sh_one (s:=s) (pl:=pl) (m:=pl.mul mc) (o:=o) (L:=.bytes (o::os)) (r:=σ.next) (.inl rfl) (by first | exact .inl rfl | exact .inr rfl) (ho o (List.mem_cons_self ..)) h' hs' St.new_eq (by simp) ?_
   refine sh_loop (s:=s) (by first | exact .inl rfl | exact .inr rfl) os (fun o' h'=>ho o' (List.mem_cons_of_mem _ h')) ((St.set_ne (Nat.ne_of_lt ls)).trans h') ((St.set_ne (Nat.ne_of_lt ld)).trans hs') St.set_eq (by simp;omega) fun σ' c' e1 e2 e3=>?_
   exact fin (σ':=σ') (K':=fun v σ=>K (.tup [v,dec 0]) σ) (fun q hq=>(e1 q hq).trans ((St.set_ne hq).trans (St.new_ne hq))) e2 e3 q
end
end L
end E
end Mine
end
section
namespace Mine
namespace E
namespace L
noncomputable def fontX:Sm→V
 | (.A .x0)=>.none
 | f=>fontOf f
noncomputable abbrev rowV:Option M→V | none=>.none | some m=>m.v
noncomputable abbrev xsObj (x:A) (sd:Nat):MObj:=tsObj x.ctm (fontX x.font) x.size sd
noncomputable abbrev wFs (sheet:V) (s pl fd:Nat) (t:Option M):List (Nm×V):=[((.I .x0),sheet),((.J .x5),.ref s),((.G .xa),.ref pl),((.H .x6),rowV t),((.G .xb),rowV t),((.D .x0),.ref fd)]
noncomputable def ownT (w s sd pl fd:Nat) (mine:Pl):List Nat:=w::s::sd::pl::fd::prs mine
noncomputable abbrev fT (w s sd pl fd:Nat):List Nat:=[w,s,sd,pl,fd]
section
variable {w s sd pl fd a b:Nat} {mine:Pl} {y:A} {P:Nat→Prop}
theorem ownT_w:w∈ownT w s sd pl fd mine:=m0
theorem ownT_s:s∈ownT w s sd pl fd mine:=mS m0
theorem ownT_sd:sd∈ownT w s sd pl fd mine:=mS (mS m0)
theorem ownT_pl:pl∈ownT w s sd pl fd mine:=mS (mS (mS m0))
theorem ownT_fd:fd∈ownT w s sd pl fd mine:=mS (mS (mS (mS m0)))
theorem ownT_prs {r:Nat} (h:r∈prs mine):r∈ownT w s sd pl fd mine:=mS (mS (mS (mS (mS h))))
theorem ownT_all (h1:P w) (h2:P s) (h3:P sd) (h4:P pl) (h5:P fd) (h8:∀ r∈prs mine,P r):∀ r∈ownT w s sd pl fd mine,P r:=alS h1 (alS h2 (alS h3 (alS h4 (alS h5 h8))))
theorem ownT_push (h:∀ r∈ownT w s sd pl fd mine,P r) (ha:P a) (hb:P b):∀ r∈ownT w s sd pl fd (mine++[(a,b,y)]),P r:=ownT_all (h _ ownT_w) (h _ ownT_s) (h _ ownT_sd) (h _ ownT_pl) (h _ ownT_fd) (prs_push (fun r hr=>h r (ownT_prs hr)) ha hb)
theorem ownT_pop (h:∀ r∈ownT w s sd pl fd (mine++[(a,b,y)]),P r):∀ r∈ownT w a b pl fd mine,P r:=
 have z:=prs_pop fun r hr=>h r (ownT_prs hr)
 ownT_all (h _ ownT_w) z.1 z.2.1 (h _ ownT_pl) (h _ ownT_fd) z.2.2
theorem fT_all (h:∀ r∈ownT w s sd pl fd mine,P r):∀ r∈fT w s sd pl fd,P r:=alS (h _ ownT_w) (alS (h _ ownT_s) (alS (h _ ownT_sd) (alS (h _ ownT_pl) (alS (h _ ownT_fd) al0))))
end
structure TR (σ:St) (w:Nat) (sheet:V) (s sd pl fd:Nat) (mine:Pl) (x:A) (t:Option M) (gl:List V):Prop where
 wo:σ.objs w=some (.inst (.E .xc) (wFs sheet s pl fd t))
 so:σ.objs s=some (xsObj x sd)
 vo:σ.objs sd=some (.dict (sKvs x.lead))
 plo:σ.objs pl=some (.list ((mine.map (fun uu=>uu.1)).map .ref))
 fo:σ.objs fd=some (.list gl)
 mi:∀ q∈mine,σ.objs q.1=some (xsObj q.2.2 q.2.1)∧σ.objs q.2.1=some (.dict (sKvs q.2.2.lead))
 nds:s∉mine.map (fun uu=>uu.1)
 ndv:sd∉mine.map (fun uu=>uu.2.1)
 nds':(mine.map (fun uu=>uu.1)).Nodup
 ndv':(mine.map (fun uu=>uu.2.1)).Nodup
 ndl:pl≠fd
 lt:∀ r∈ownT w s sd pl fd mine,r < σ.next
section
variable {σ:St} {w s sd pl fd:Nat} {sheet:V} {mine:Pl} {x:A} {t:Option M} {gl:List V}
theorem TR.setW (h:TR σ w sheet s sd pl fd mine x t gl) (t':Option M):TR (σ.set w (.inst (.E .xc) (wFs sheet s pl fd t'))) w sheet s sd pl fd mine x t' gl:=by
 have e:∀ {r:Nat} {o:MObj},σ.objs r=some o→(o≠ .inst (.E .xc) (wFs sheet s pl fd t))→(σ.set w (.inst (.E .xc) (wFs sheet s pl fd t'))).objs r=some o:=fun {r o} h1 h2=>(St.set_ne (ne_obj h1 h.wo h2)).trans h1
 exact⟨St.set_eq,e h.so nofun,e h.vo nofun,e h.plo nofun,e h.fo nofun,fun q hq=>⟨e (h.mi q hq).1 nofun,e (h.mi q hq).2 nofun⟩,h.nds,h.ndv,h.nds',h.ndv',h.ndl,h.lt⟩
theorem TR.setS (h:TR σ w sheet s sd pl fd mine x t gl) (y:A) (hy:y.lead=x.lead):TR (σ.set s (xsObj y sd)) w sheet s sd pl fd mine y t gl:=by
 have e:∀ {r:Nat} {o:MObj},σ.objs r=some o→(∀ f,o≠ .inst (.E .x8) f)→(σ.set s (xsObj y sd)).objs r=some o:=fun {r o} h1 h2=>(St.set_ne (ne_obj h1 h.so (h2 _))).trans h1
 exact⟨e h.wo nofun,St.set_eq,by rw [hy];exact e h.vo nofun,e h.plo nofun,e h.fo nofun,fun q hq=>⟨(St.set_ne (fun(z:q.1=s)=>h.nds (z▸List.mem_map_of_mem (f:=(fun uu=>uu.1)) hq))).trans (h.mi q hq).1,e (h.mi q hq).2 nofun⟩,h.nds,h.ndv,h.nds',h.ndv',h.ndl,h.lt⟩
theorem TR.setV (h:TR σ w sheet s sd pl fd mine x t gl) (l:Int):TR (σ.set sd (.dict (sKvs l))) w sheet s sd pl fd mine {x with lead:=l} t gl:=by
 have e:∀ {r:Nat} {o:MObj},σ.objs r=some o→(∀ d,o≠ .dict d)→(σ.set sd (.dict (sKvs l))).objs r=some o:=fun {r o} h1 h2=>(St.set_ne (ne_obj h1 h.vo (h2 _))).trans h1
 exact⟨e h.wo nofun,e h.so nofun,St.set_eq,e h.plo nofun,e h.fo nofun,fun q hq=>⟨e (h.mi q hq).1 nofun,(St.set_ne (fun(z:q.2.1=sd)=>h.ndv (z▸List.mem_map_of_mem (f:=(fun uu=>uu.2.1)) hq))).trans (h.mi q hq).2⟩,h.nds,h.ndv,h.nds',h.ndv',h.ndl,h.lt⟩
theorem TR.ext (h:TR σ w sheet s sd pl fd mine x t gl) (g:List V):TR (σ.set fd (.list (gl++g))) w sheet s sd pl fd mine x t (gl++g):=by
 have e:∀ {r:Nat} {o:MObj},σ.objs r=some o→(∀ l,o≠ .list l)→(σ.set fd (.list (gl++g))).objs r=some o:=fun {r o} h1 h2=>(St.set_ne (ne_obj h1 h.fo (h2 _))).trans h1
 exact⟨e h.wo nofun,e h.so nofun,e h.vo nofun,(St.set_ne h.ndl).trans h.plo,St.set_eq,fun q hq=>⟨e (h.mi q hq).1 nofun,e (h.mi q hq).2 nofun⟩,h.nds,h.ndv,h.nds',h.ndv',h.ndl,h.lt⟩
end
end L
end E
end Mine
end
section
namespace Mine
namespace E
namespace L
section
variable {n:Nat} {σ:St} {K:V→St→Prop} {w s sd pl fd:Nat} {sheet:V} {mine:Pl} {x:A} {t:Option M} {gl:List V} {m:M} {u v:V} {a b:Int} {o:List UInt8}
theorem along0 (q:K m.v σ):W (callF (n+5) (.glob (.G .x4)) [m.v,dec 0] σ) K:=by
 refine W_def rfl rfl ?_
 refine m_shifted (.inl rfl) (.inr rfl) rfl rfl ?_
 refine d_plus ?_
 refine d_plus ?_
 refine m_new ?_
 have e1:m.e + (m.a * 0 + m.c * 0)=m.e:=by simp
 have e2:m.f + (m.b * 0 + m.d * 0)=m.f:=by simp
 rw [e1,e2]
 exact q
theorem set_m (h:TR σ w sheet s sd pl fd mine x t gl) (t':Option M) (q:∀ σ',TR σ' w sheet s sd pl fd mine x t' gl→Fra (fT w s sd pl fd) σ σ'→K .none σ'):W (callF (n+1) (.glob (.F .x3)) [.ref w,rowV t'] σ) K:=by
 refine W_def rfl rfl ?_
 refine o_attr h.wo rfl ?_
 refine o_attr St.set_eq rfl ?_
 have e:∀ {σ:St} {r:Nat} {a b:MObj},(σ.set r a).set r b=σ.set r b:=fun {σ r a b}=>by
  unfold St.set
  congr 1
  funext m
  dsimp only
  split<;>rfl
 have g:=h.setW t'
 refine q _ ?_ ((Fra.one m0).set (.inl m0))
 rw [e];exact g
theorem next_row (h:TR σ w sheet s sd pl fd mine x (some m) gl) (hu:Nu u a) (hv:Nu v b) (ha:smallI a=true) (hb:smallI b=true) (q:∀ σ',TR σ' w sheet s sd pl fd mine x (some ((M.tr a b).mul m)) gl→Fra (fT w s sd pl fd) σ σ'→K .none σ'):W (callF (n+6) (.glob (.F .x2)) [.ref w,u,v] σ) K:=by
 refine W_def rfl rfl ?_
 refine m_tr hu hv ?_
 refine o_inst h.wo ?_
 refine m_times (tr_small ha hb) ?_
 refine o_attr h.wo rfl ?_
 refine o_inst St.set_eq ?_
 refine o_attr St.set_eq rfl ?_
 have e:∀ {σ:St} {r:Nat} {a b:MObj},(σ.set r a).set r b=σ.set r b:=fun {σ r a b}=>by
  unfold St.set
  congr 1
  funext m
  dsimp only
  split<;>rfl
 have g:=h.setW (some ((M.tr a b).mul m))
 refine q _ ?_ ((Fra.one m0).set (.inl m0))
 rw [e];exact g
theorem feed (h:TR σ w sheet s sd pl fd mine x (some m) gl) (hb:smallI (-x.lead)=true) (q:∀ σ',TR σ' w sheet s sd pl fd mine x (some ((M.tr 0 (-x.lead)).mul m)) gl→Fra (fT w s sd pl fd) σ σ'→K .none σ'):W (callF (n+7) (.glob (.F .x1)) [.ref w] σ) K:=by
 refine W_def rfl rfl ?_
 refine o_meth h.wo ?_
 refine d_new ?_
 refine o_inst h.wo ?_
 refine o_inst h.so ?_
 refine o_dsub h.vo rfl ?_
 refine d_neg ?_
 exact next_row h (.inl rfl) (.inl rfl) rfl hb q
end
end L
end E
end Mine
end
section
namespace Mine
namespace E
namespace L
noncomputable def Show.glyphs (s:Show):List V:=s.oct.map (glyphV s.font s.m s.size)
section
variable {n:Nat} {σ:St} {K:V→St→Prop} {w s sd pl fd:Nat} {sheet:V} {mine:Pl} {x:A} {t:Option M} {gl:List V} {m:M} {o:List UInt8}
theorem St.set_set {σ:St} {r:Nat} {a b:MObj}:(σ.set r a).set r b=σ.set r b:=by
 unfold St.set
 congr 1
 funext m
 dsimp only
 split<;>rfl
theorem TR.old (h:TR σ w sheet s sd pl fd mine x t gl) {σ':St} (hn:σ.next≤σ'.next) (ho:∀ r,r < σ.next→σ'.objs r=σ.objs r):TR σ' w sheet s sd pl fd mine x t gl:=by
 have e:∀ {r:Nat} {o:MObj},r∈ownT w s sd pl fd mine→σ.objs r=some o→σ'.objs r=some o:=fun hr h1=>(ho _ (h.lt _ hr)).trans h1
 exact⟨e ownT_w h.wo,e ownT_s h.so,e ownT_sd h.vo,e ownT_pl h.plo,e ownT_fd h.fo,fun q hq=>⟨e (ownT_prs (prs_1 hq)) (h.mi q hq).1,e (ownT_prs (prs_2 hq)) (h.mi q hq).2⟩,h.nds,h.ndv,h.nds',h.ndv',h.ndl,fun r hr=>Nat.lt_of_lt_of_le (h.lt r hr) hn⟩
theorem fontX_of {f:Sm} (hf:f=(.B .x5)∨f=(.B .x9)):fontX f=fontOf f:=by rcases hf with rfl | rfl<;>rfl
theorem t_show (h:TR σ w sheet s sd pl fd mine x (some m) gl) (hf:x.font=(.B .x5)∨x.font=(.B .x9)) (ho:∀ c∈o,c=65∨c=66) (hm:m.Small) (hz:smallI x.size=true) (hl:o.length≤1000) (hg:gl.length + o.length≤1000000)
  (q:∀ σ',TR σ' w sheet s sd pl fd mine x (some m) (gl++Show.glyphs ⟨o,m.mul x.ctm,x.font,x.size⟩)→Fra (fT w s sd pl fd) σ σ'→K .none σ'):W (callF (n+9) (.glob (.F .x4)) [.ref w,.bytes o] σ) K:=by
 have hso:σ.objs s=some (tsObj x.ctm (fontOf x.font) x.size sd):=by rw [← fontX_of hf];exact h.so
 refine W_def rfl rfl ?_
 refine o_inst h.wo ?_
 refine o_inst h.wo ?_
 refine shown hf ho hm hz (by omega) hso h.vo (h.lt _ ownT_s) (h.lt _ ownT_sd) fun σ₁ f₁=>?_
 have h₁:=h.old f₁.1 fun r hr=>f₁.2 r hr (by simp)
 refine o_inst h₁.wo ?_
 refine o_lext h₁.fo ?_
 refine w_ext h₁.fo (by simpa using hg) ?_
 have h₂:=h₁.ext (o.map (glyphV x.font (m.mul x.ctm) x.size))
 refine o_inst h₂.wo ?_
 refine along0 ?_
 refine o_attr h₂.wo rfl ?_
 have h₃:=h₂.setW (some m)
 exact q _ h₃ (((f₁.mono sb0).set (.inl (mS (mS (mS (mS m0)))))).set (.inl m0))
end
end L
end E
end Mine
end
section
namespace Mine
namespace E
namespace L
section
variable {n:Nat} {σ:St} {K:V→St→Prop} {w s sd pl fd:Nat} {sheet:V} {mine:Pl} {x:A} {t:Option M} {gl:List V} {m:M} {o o':List UInt8} {a b:Int}
theorem fp_td (h:TR σ w sheet s sd pl fd mine x (some m) gl) (ha:smallI a=true) (hb:smallI b=true) (q:∀ σ',TR σ' w sheet s sd pl fd mine x (some ((M.tr a b).mul m)) gl→Fra (fT w s sd pl fd) σ σ'→K .none σ'):W (callF (n+7) (.glob (.H .xc)) [.ref w,.str (.D .x4),.lst [.int a,.int b]] σ) K:=by
 refine W_def rfl rfl ?_
 refine o_inst h.wo ?_
 refine o_meth h.wo ?_
 exact next_row h (.inr rfl) (.inr rfl) ha hb q
theorem fp_tD (h:TR σ w sheet s sd pl fd mine x (some m) gl) (ha:smallI a=true) (hb:smallI b=true) (q:∀ σ',TR σ' w sheet s sd pl fd mine {x with lead:= -b} (some ((M.tr a b).mul m)) gl→Fra (fT w s sd pl fd) σ σ'→K .none σ'):W (callF (n+7) (.glob (.H .xc)) [.ref w,.str (.D .x0),.lst [.int a,.int b]] σ) K:=by
 refine W_def rfl rfl ?_
 refine o_inst h.wo ?_
 refine d_of (.inr rfl) ?_
 refine d_neg ?_
 refine o_inst h.wo ?_
 refine o_inst h.so ?_
 refine o_dset (d:=sKvs (-b)) h.vo rfl rfl ?_
 have h':=h.setV (-b)
 refine o_meth h'.wo ?_
 exact next_row h' (.inr rfl) (.inr rfl) ha hb fun σ' g f=>q _ g ((Fra.one (mS (mS m0))).then f)
theorem fp_ts (h:TR σ w sheet s sd pl fd mine x (some m) gl) (hb:smallI (-x.lead)=true) (q:∀ σ',TR σ' w sheet s sd pl fd mine x (some ((M.tr 0 (-x.lead)).mul m)) gl→Fra (fT w s sd pl fd) σ σ'→K .none σ'):W (callF (n+8) (.glob (.H .xc)) [.ref w,.str (.C .xc),.lst []] σ) K:=by
 refine W_def rfl rfl ?_
 refine o_inst h.wo ?_
 refine o_meth h.wo ?_
 exact feed h hb q
theorem fp_tm {vs:List V} {c:M} (h:TR σ w sheet s sd pl fd mine x (some m) gl) (hs:Six vs c) (q:∀ σ',TR σ' w sheet s sd pl fd mine x (some c) gl→Fra (fT w s sd pl fd) σ σ'→K .none σ'):W (callF (n+5) (.glob (.H .xc)) [.ref w,.str (.D .x7),.lst vs] σ) K:=by
 refine W_def rfl rfl ?_
 refine o_inst h.wo ?_
 refine o_meth h.wo ?_
 refine from_arr hs ?_
 exact set_m h (some c) q
theorem fp_et (h:TR σ w sheet s sd pl fd mine x (some m) gl) (q:∀ σ',TR σ' w sheet s sd pl fd mine x none gl→Fra (fT w s sd pl fd) σ σ'→K .none σ'):W (callF (n+2) (.glob (.H .xc)) [.ref w,.str (.B .x3),.lst []] σ) K:=by
 refine W_def rfl rfl ?_
 refine o_inst h.wo ?_
 refine o_meth h.wo ?_
 exact set_m h none q
end
end L
end E
end Mine
end
section
namespace Mine
namespace E
namespace L
section
variable {n:Nat} {σ:St} {K:V→St→Prop} {w s sd pl fd:Nat} {sheet:V} {mine:Pl} {x:A} {t:Option M} {gl:List V} {m:M} {o o':List UInt8} {a b:Int}
noncomputable abbrev shownT (x:A) (m:M) (o:List UInt8):List V:=Show.glyphs ⟨o,m.mul x.ctm,x.font,x.size⟩
theorem fp_tj (h:TR σ w sheet s sd pl fd mine x (some m) gl) (hf:x.font=(.B .x5)∨x.font=(.B .x9)) (ho:∀ c∈o,c=65∨c=66) (hm:m.Small) (hz:smallI x.size=true) (hl:o.length≤1000) (hg:gl.length + o.length≤1000000)
  (q:∀ σ',TR σ' w sheet s sd pl fd mine x (some m) (gl++shownT x m o)→Fra (fT w s sd pl fd) σ σ'→K .none σ'):W (callF (n+10) (.glob (.H .xc)) [.ref w,.str (.D .x6),.lst [strV o]] σ) K:=by
 refine W_def rfl rfl ?_
 refine o_inst h.wo ?_
 refine o_meth h.wo ?_
 exact t_show h hf ho hm hz hl hg q
theorem fp_qt (h:TR σ w sheet s sd pl fd mine x (some m) gl) (hb:smallI (-x.lead)=true) (hf:x.font=(.B .x5)∨x.font=(.B .x9)) (ho:∀ c∈o,c=65∨c=66) (hm:((M.tr 0 (-x.lead)).mul m).Small) (hz:smallI x.size=true) (hl:o.length≤1000) (hg:gl.length + o.length≤1000000)
  (q:∀ σ',TR σ' w sheet s sd pl fd mine x (some ((M.tr 0 (-x.lead)).mul m)) (gl++shownT x ((M.tr 0 (-x.lead)).mul m) o)→Fra (fT w s sd pl fd) σ σ'→K .none σ'):W (callF (n+10) (.glob (.H .xc)) [.ref w,.str (.A .x2),.lst [strV o]] σ) K:=by
 refine W_def rfl rfl ?_
 refine o_inst h.wo ?_
 refine o_meth h.wo ?_
 refine feed h hb fun σ₁ h₁ md=>?_
 refine o_meth h₁.wo ?_
 exact t_show h₁ hf ho hm hz hl hg fun σ' g f=>q σ' g (md.then f)
theorem fp_dq (h:TR σ w sheet s sd pl fd mine x (some m) gl) (hb:smallI (-x.lead)=true) (hf:x.font=(.B .x5)∨x.font=(.B .x9)) (ho:∀ c∈o,c=65∨c=66) (hm:((M.tr 0 (-x.lead)).mul m).Small) (hz:smallI x.size=true) (hl:o.length≤1000) (hg:gl.length + o.length≤1000000)
  (q:∀ σ',TR σ' w sheet s sd pl fd mine x (some ((M.tr 0 (-x.lead)).mul m)) (gl++shownT x ((M.tr 0 (-x.lead)).mul m) o)→Fra (fT w s sd pl fd) σ σ'→K .none σ'):W (callF (n+10) (.glob (.H .xc)) [.ref w,.str (.A .x1),.lst [.int 0,.int 0,strV o]] σ) K:=by
 refine W_def rfl rfl ?_
 refine o_inst h.wo ?_
 refine d_of (.inr rfl) ?_
 refine o_inst h.wo ?_
 refine o_inst h.so ?_
 refine o_dset (d:=sKvs x.lead) h.vo rfl rfl ?_
 have h':=h.setV x.lead
 refine d_of (.inr rfl) ?_
 refine o_inst h'.wo ?_
 refine o_inst h'.so ?_
 refine o_dset (d:=sKvs x.lead) h'.vo rfl rfl ?_
 have h'':=h'.setV x.lead
 refine o_meth h''.wo ?_
 refine feed h'' hb fun σ₁ h₁ md=>?_
 refine o_meth h₁.wo ?_
 exact t_show h₁ hf ho hm hz hl hg fun σ' g f=>q σ' g ((((Fra.one (mS (mS m0))).set (.inl (mS (mS m0)))).then md).then f)
theorem fp_tJ (h:TR σ w sheet s sd pl fd mine x (some m) gl) (hf:x.font=(.B .x5)∨x.font=(.B .x9)) (ho:∀ c∈o,c=65∨c=66) (ho':∀ c∈o',c=65∨c=66) (hm:m.Small) (hz:smallI x.size=true) (hl:o.length + o'.length≤1000) (hg:gl.length + o.length + o'.length≤1000000)
  (q:∀ σ',TR σ' w sheet s sd pl fd mine x (some m) (gl++shownT x m (o++o'))→Fra (fT w s sd pl fd) σ σ'→K .none σ'):W (callF (n+11) (.glob (.H .xc)) [.ref w,.str (.D .x1),.lst [.lst [strV o,strV o']]] σ) K:=by
 refine W_def rfl rfl ?_
 refine o_inst h.wo ?_
 refine o_meth h.wo ?_
 refine W_go (g:=(.F .x5)) rfl ?_
 refine for_cons ?_
 refine W_of (fun uu=>rfl) ?_
 refine o_meth h.wo ?_
 refine t_show h hf ho hm hz (by omega) (by omega) fun σ₁ h₁ f₁=>?_
 refine for_cons ?_
 refine W_of (fun uu=>rfl) ?_
 refine o_meth h₁.wo ?_
 refine t_show h₁ hf ho' hm hz (by omega) (by simp [Show.glyphs];omega) fun σ₂ h₂ f₂=>?_
 refine for_nil ?_
 have e:gl++Show.glyphs ⟨o,m.mul x.ctm,x.font,x.size⟩++Show.glyphs ⟨o',m.mul x.ctm,x.font,x.size⟩=gl++shownT x m (o++o'):=by simp [Show.glyphs]
 rw [e] at h₂
 exact q _ h₂ (f₁.then f₂)
end
end L
end E
end Mine
end
section
namespace Mine
namespace E
namespace L
noncomputable abbrev sheetV (ops:V) (fonts forms:List (V×V)) (own:M):V:=.inst (.E .x6) [((.G .x1),ops),((.C .xa),.dct fonts),((.C .xc),.dct forms),((.G .x3),own.v)]
section
variable {n:Nat} {σ:St} {K:V→St→Prop} {w s sd pl fd:Nat} {sheet:V} {mine:Pl} {x:A} {t:Option M} {gl:List V} {m mo:M} {a:Int} {f:Sm} {ops:V} {fonts forms:List (V×V)}
theorem choose (h:TR σ w (sheetV ops fonts forms mo) s sd pl fd mine x t gl) (hf:f=(.B .x5)∨f=(.B .x9)) (hg:dGet (.str f) fonts=some (some (fontOf f))) (q:∀ σ',TR σ' w (sheetV ops fonts forms mo) s sd pl fd mine {x with font:=f,size:=a} t gl→Fra (fT w s sd pl fd) σ σ'→K .none σ'):
  W (callF (n+3) (.glob (.G .xa)) [.ref w,.lst [nameV f,.int a]] σ) K:=by
 refine W_def rfl rfl ?_
 refine o_inst h.wo ?_
 refine O_of (m:=cmpV σ .notin (.str f) (.dct fonts)) (a:=false) ?_ ?_
 ·show (dGet (.str f) fonts).map (fun o=> !o.isSome)=_
  rw [hg];rfl
 refine o_inst h.wo ?_
 refine O_of (m:=subV σ (.dct fonts) (.str f)) (a:=fontOf f) ?_ ?_
 ·exact congrArg (fun x=>Option.bind x id) hg
 refine o_inst h.wo ?_
 refine o_attr h.so rfl ?_
 refine d_of (.inr rfl) ?_
 have e0:σ.set s (tsObj x.ctm (fontOf f) x.size sd)=σ.set s (xsObj {x with font:=f} sd):=by rw [xsObj,fontX_of hf]
 have h':=h.setS {x with font:=f} rfl
 rw [← e0] at h'
 have hs':(σ.set s (tsObj x.ctm (fontOf f) x.size sd)).objs s=some (tsObj x.ctm (fontOf f) x.size sd):=St.set_eq
 refine o_inst h'.wo ?_
 refine o_attr hs' rfl ?_
 have h'':=h'.setS {x with font:=f,size:=a} rfl
 rw [xsObj,fontX_of hf] at h''
 exact q _ h'' ((Fra.one (mS m0)).set (.inl (mS m0)))
end
end L
end E
end Mine
end
section
namespace Mine
namespace E
namespace L
section
variable {n:Nat} {σ:St} {K:V→St→Prop} {s sd:Nat} {m:M} {fv:V} {z l:Int}
theorem ts_new (q:∀ σ',σ'.next=σ.next + 2→σ'.objs σ.next=some (tsObj m .none 0 (σ.next + 1))→σ'.objs (σ.next + 1)=some (.dict (sKvs 0))→(∀ r,r < σ.next→σ'.objs r=σ.objs r)→K (.ref σ.next) σ'):W (callF (n+2) (.glob (.E .x8)) [m.v] σ) K:=by
 refine W_mu (g:=(.E .x8)) rfl rfl rfl ?_
 refine o_attr (r:=σ.next) (fs:=[]) St.new_eq rfl ?_
 refine o_attr (r:=σ.next) St.set_eq rfl ?_
 refine d_new ?_
 refine o_attr (r:=σ.next) St.set_eq rfl ?_
 refine d_new ?_
 refine d_new ?_
 refine d_new ?_
 refine d_new ?_
 refine d_new ?_
 have h:σ.next≠σ.next + 1:=Nat.ne_of_lt (Nat.lt_succ_self _)
 refine o_attr (r:=σ.next) ((St.new_ne (by exact h)).trans St.set_eq) rfl ?_
 refine q _ rfl St.set_eq ((St.set_ne h.symm).trans St.new_eq) fun r hr=>?_
 have h1:r≠σ.next:=by omega
 have h2:r≠σ.next + 1:=by omega
 exact(St.set_ne h1).trans ((St.new_ne (by exact h2)).trans ((St.set_ne h1).trans ((St.set_ne h1).trans ((St.set_ne h1).trans (St.new_ne h1)))))
theorem ts_copied (hs:σ.objs s=some (tsObj m fv z sd)) (hv:σ.objs sd=some (.dict (sKvs l))) (ls:s < σ.next) (ld:sd < σ.next) (q:∀ σ',σ'.next=σ.next + 3→σ'.objs σ.next=some (tsObj m fv z (σ.next + 2))→σ'.objs (σ.next + 2)=some (.dict (sKvs l))→(∀ r,r < σ.next→σ'.objs r=σ.objs r)→K (.ref σ.next) σ'):
  W (callF (n+3) (.glob (.E .xa)) [.ref s] σ) K:=by
 refine W_def rfl rfl ?_
 refine o_inst hs ?_
 refine ts_new fun σ₁ e1 e2 e3 e4=>?_
 have hs₁:=(e4 s ls).trans hs
 have hv₁:=(e4 sd ld).trans hv
 have n1:s≠σ.next:=Nat.ne_of_lt ls
 have n2:sd≠σ.next:=Nat.ne_of_lt ld
 refine o_inst hs₁ ?_
 refine o_attr e2 rfl ?_
 refine o_inst ((St.set_ne n1).trans hs₁) ?_
 refine o_attr St.set_eq rfl ?_
 refine o_inst ((St.set_ne n1).trans ((St.set_ne n1).trans hs₁)) ?_
 refine w_dcopy ((St.set_ne n2).trans ((St.set_ne n2).trans hv₁)) rfl ?_
 obtain ⟨ob,nx⟩:=σ₁
 have e1:nx=σ.next + 2:=e1
 subst e1
 have h:σ.next≠σ.next + 2:=by omega
 refine o_attr (r:=σ.next) ((St.new_ne (by exact h)).trans St.set_eq) rfl ?_
 refine q _ rfl St.set_eq ((St.set_ne h.symm).trans St.new_eq) fun r hr=>?_
 have h1:r≠σ.next:=by omega
 have h2:r≠σ.next + 2:=by omega
 exact(St.set_ne h1).trans ((St.new_ne (by exact h2)).trans ((St.set_ne h1).trans ((St.set_ne h1).trans (e4 r hr))))
end
end L
end E
end Mine
end
section
namespace Mine
namespace E
namespace L
section
variable {n:Nat} {σ:St} {K:V→St→Prop} {w s sd pl fd:Nat} {sheet:V} {mine:Pl} {x:A} {t:Option M} {gl:List V} {m:M}
theorem pileT_eq {q:Nat×Nat×A}:(((mine++[q]).map (fun uu=>uu.1)).map V.ref)=(mine.map (fun uu=>uu.1)).map V.ref++[.ref q.1]:=by simp
theorem TR.push (h:TR σ w sheet s sd pl fd mine x t gl) {a b:Nat} {y:A} (ha:σ.objs a=some (xsObj y b)) (hb:σ.objs b=some (.dict (sKvs y.lead))) (na:a≠s) (nb:b≠sd) (na':a∉mine.map (fun uu=>uu.1)) (nb':b∉mine.map (fun uu=>uu.2.1)) (la:a < σ.next) (lb:b < σ.next):
  TR (σ.set pl (.list ((mine.map (fun uu=>uu.1)).map .ref++[.ref a]))) w sheet s sd pl fd (mine++[(a,b,y)]) x t gl:=by
 have e:∀ {r:Nat} {o:MObj},σ.objs r=some o→(∀ l,o≠ .list l)→(σ.set pl (.list ((mine.map (fun uu=>uu.1)).map .ref++[.ref a]))).objs r=some o:=fun {r o} h1 h2=>(St.set_ne (ne_obj h1 h.plo (h2 _))).trans h1
 exact⟨e h.wo nofun,e h.so nofun,e h.vo nofun,St.set_eq.trans (congrArg (fun l=>some (MObj.list l)) (pileT_eq (q:=(a,b,y))).symm),(St.set_ne h.ndl.symm).trans h.fo,sn_all (fun q hq=>⟨e (h.mi q hq).1 nofun,e (h.mi q hq).2 nofun⟩) ⟨e ha nofun,e hb nofun⟩,
  map_nm h.nds na,map_nm h.ndv nb,map_nd h.nds' na',map_nd h.ndv' nb',h.ndl,ownT_push (P:=(fun uu=>uu < σ.next)) h.lt la lb⟩
theorem TR.pop {a b:Nat} {y:A} (h:TR σ w sheet s sd pl fd (mine++[(a,b,y)]) x t gl):TR ((σ.set pl (.list ((mine.map (fun uu=>uu.1)).map .ref))).set w (.inst (.E .xc) (wFs sheet a pl fd t))) w sheet a b pl fd mine y t gl:=by
 have hp:w≠pl:=ne_obj h.wo h.plo nofun
 have e:∀ {r:Nat} {o:MObj},σ.objs r=some o→(o≠ .inst (.E .xc) (wFs sheet s pl fd t))→r≠pl→((σ.set pl (.list ((mine.map (fun uu=>uu.1)).map .ref))).set w (.inst (.E .xc) (wFs sheet a pl fd t))).objs r=some o:=fun {r o} h1 h2 h3=>(St.set_ne (ne_obj h1 h.wo h2)).trans ((St.set_ne h3).trans h1)
 have e':∀ {r:Nat} {o:MObj},σ.objs r=some o→(o≠ .inst (.E .xc) (wFs sheet s pl fd t))→(∀ l,o≠ .list l)→((σ.set pl (.list ((mine.map (fun uu=>uu.1)).map .ref))).set w (.inst (.E .xc) (wFs sheet a pl fd t))).objs r=some o:=fun {r o} h1 h2 h3=>e h1 h2 (ne_obj h1 h.plo (h3 _))
 have hl:=h.mi (a,b,y) sn_last
 have d1:=nd_sn h.nds'
 have d2:=nd_sn h.ndv'
 refine ⟨St.set_eq,e' hl.1 nofun nofun,e' hl.2 nofun nofun,(St.set_ne hp.symm).trans St.set_eq,e h.fo nofun h.ndl.symm,fun q hq=>?_,d1.2,d2.2,d1.1,d2.1,h.ndl,ownT_pop (P:=(fun uu=>uu < σ.next)) h.lt⟩
 have:=h.mi q (sn_init hq)
 exact⟨e' this.1 nofun nofun,e' this.2 nofun nofun⟩
end
end L
end E
end Mine
end
section
namespace Mine
namespace E
namespace L
section
variable {n:Nat} {σ:St} {K:V→St→Prop} {w s sd pl fd:Nat} {sheet:V} {mine:Pl} {x:A} {t:Option M} {gl:List V} {m:M}
theorem fs_q (h:TR σ w sheet s sd pl fd mine x t gl) (hl:mine.length≤1000000) (q:∀ σ',TR σ' w sheet s sd pl fd (mine++[(σ.next,σ.next + 2,x)]) x t gl→Fra [pl] σ σ'→K .none σ'):
  W (callF (n+4) (.glob (.I .x0)) [.ref w,.str (.G .xa),.lst []] σ) K:=by
 have nn:∀ {r},r∈ownT w s sd pl fd mine→σ.next≠r∧σ.next + 2≠r:=fun hr=>⟨Nat.ne_of_gt (h.lt _ hr),Nat.ne_of_gt (Nat.lt_add_right 2 (h.lt _ hr))⟩
 refine W_def rfl rfl ?_
 refine o_inst h.wo ?_
 refine o_lapp h.plo ?_
 refine o_inst h.wo ?_
 refine o_meth h.so ?_
 refine ts_copied h.so h.vo (h.lt _ ownT_s) (h.lt _ ownT_sd) fun σ₁ e1 e2 e3 e4=>?_
 have le:σ.next + 3≤σ₁.next:=by omega
 have h₁:=h.old (Nat.le_of_add_right_le le) e4
 refine w_app h₁.plo (by simpa using hl) ?_
 exact q _ (h₁.push e2 e3 (nn ownT_s).1 (nn ownT_sd).2 (fun hm=>(nn (ownT_prs (prs_l hm))).1 rfl) (fun hm=>(nn (ownT_prs (prs_r hm))).2 rfl) (Nat.lt_of_lt_of_le (Nat.lt_add_of_pos_right (by decide)) le) le) (Fra.set (σ':=σ₁) ⟨Nat.le_of_add_right_le le,fun r hr uu=>e4 r hr⟩ (.inl m0))
theorem fs_Q {a b:Nat} {y:A} (h:TR σ w sheet s sd pl fd (mine++[(a,b,y)]) x t gl) (hl:mine.length + 1≤1000000) (q:∀ σ',TR σ' w sheet a b pl fd mine y t gl→Fra [w,pl] σ σ'→K .none σ'):
  W (callF (n+1) (.glob (.I .x0)) [.ref w,.str (.C .x4),.lst []] σ) K:=by
 refine W_def rfl rfl ?_
 refine o_inst h.wo ?_
 refine w_len' (m:=mine.length + 1) h.plo (by simp;omega) (by simp) ?_
 refine o_inst h.wo ?_
 have hpl:=h.plo
 rw [pileT_eq] at hpl
 refine o_lpop hpl ?_
 refine w_pop hpl (by simp;omega) ?_
 have hp:(σ.set pl (.list ((mine.map (fun uu=>uu.1)).map .ref))).objs w=some (.inst (.E .xc) (wFs sheet s pl fd t)):=(St.set_ne (ne_obj h.wo h.plo nofun)).trans h.wo
 refine o_attr hp rfl ?_
 exact q _ h.pop ((Fra.one (mS m0)).set (.inl m0))
theorem fs_cm {vs:List V} {o:M} (h:TR σ w sheet s sd pl fd mine x t gl) (hs:Six vs o) (ho:o.Small) (q:∀ σ',TR σ' w sheet s sd pl fd mine {x with ctm:=o.mul x.ctm} t gl→Fra (fT w s sd pl fd) σ σ'→K .none σ'):
  W (callF (n+6) (.glob (.I .x0)) [.ref w,.str (.E .x8),.lst vs] σ) K:=by
 refine W_def rfl rfl ?_
 refine from_arr hs ?_
 refine o_inst h.wo ?_
 refine o_inst h.so ?_
 refine m_times ho ?_
 refine o_inst h.wo ?_
 refine o_attr h.so rfl ?_
 exact q _ (h.setS {x with ctm:=o.mul x.ctm} rfl) (Fra.one (mS m0))
theorem fs_bt (h:TR σ w sheet s sd pl fd mine x none gl) (q:∀ σ',TR σ' w sheet s sd pl fd mine x (some M.one) gl→Fra (fT w s sd pl fd) σ σ'→K .none σ'):
  W (callF (n+5) (.glob (.I .x0)) [.ref w,.str (.A .xa),.lst []] σ) K:=by
 refine W_def rfl rfl ?_
 refine o_inst h.wo ?_
 refine o_meth h.wo ?_
 refine m_one ?_
 exact set_m h (some M.one) q
end
end L
end E
end Mine
end
section
namespace Mine
namespace E
namespace L
noncomputable abbrev numV:V:=.str (.G .x8)
noncomputable abbrev two:V:=.tup [numV,numV]
noncomputable abbrev sixT:V:=.tup [numV,numV,numV,numV,numV,numV]
noncomputable abbrev oneT:V:=.tup [numV]
noncomputable abbrev stT:V:=.tup [.str (.H .xc)]
noncomputable abbrev kinds0:List (V×V):=[(.str (.A .xa),.tup []),(.str (.B .x3),.tup []),(.str (.C .xc),.tup []),(.str (.D .x5),.tup [.str (.G .x6),numV]),(.str (.D .x7),sixT),(.str (.D .x1),.tup [.str (.H .x8)]),
 (.str (.D .x3),oneT),(.str (.D .xa),oneT),(.str (.D .xb),oneT),(.str (.D .x2),oneT),(.str (.D .x8),oneT),(.str (.D .x9),oneT),(.str (.D .x4),two),(.str (.D .x0),two),(.str (.E .xb),two),(.str (.E .xc),sixT),(.str (.D .x6),stT),(.str (.A .x2),stT),(.str (.A .x1),.tup [numV,numV,.str (.H .xc)])]
noncomputable abbrev kinds1:List (V×V):=kinds0++[(.str (.E .x8),sixT)]
noncomputable abbrev kindsL:List (V×V):=kinds0++[(.str (.E .x8),sixT),(.str (.B .x2),.tup [.str (.G .x6)])]
noncomputable abbrev kindsV:V:=.dct kindsL
section
variable {n:Nat} {σ:St} {K:V→St→Prop}
theorem text_kinds (q:∀ σ',σ'.next=σ.next + 1→σ'.objs σ.next=some (.dict kinds0)→(∀ r,r < σ.next→σ'.objs r=σ.objs r)→K (.ref σ.next) σ'):W (callF (n+1) (.glob (.K .x4)) [] σ) K:=by
 refine W_def rfl rfl ?_
 refine for_cons (o_dset (r:=σ.next) St.new_eq rfl rfl ?_)
 refine for_cons (o_dset (r:=σ.next) St.set_eq rfl rfl ?_)
 refine for_cons (o_dset (r:=σ.next) St.set_eq rfl rfl ?_)
 refine for_cons (o_dset (r:=σ.next) St.set_eq rfl rfl ?_)
 refine for_cons (o_dset (r:=σ.next) St.set_eq rfl rfl ?_)
 refine for_cons (o_dset (r:=σ.next) St.set_eq rfl rfl ?_)
 refine for_nil ?_
 refine for_cons (o_dset (r:=σ.next) St.set_eq rfl rfl ?_)
 refine for_cons (o_dset (r:=σ.next) St.set_eq rfl rfl ?_)
 refine for_cons (o_dset (r:=σ.next) St.set_eq rfl rfl ?_)
 refine for_nil ?_
 refine o_dset (r:=σ.next) St.set_eq rfl rfl ?_
 refine for_cons (o_dset (r:=σ.next) St.set_eq rfl rfl ?_)
 refine for_cons (o_dset (r:=σ.next) St.set_eq rfl rfl ?_)
 refine for_nil ?_
 refine o_dset (r:=σ.next) (d:=kinds0) St.set_eq rfl rfl ?_
 refine q _ rfl St.set_eq fun r hr=>?_
 have h:r≠σ.next:=Nat.ne_of_lt hr
 iterate 13 refine (St.set_ne h).trans ?_
 exact St.new_ne h
theorem chk (op:Op) (q:K .none σ):W (callF (n+5) (.glob (.G .x8)) [kindsV,op.v] σ) K:=by
 cases op<;>exact W_of (fun uu=>rfl) q
theorem walk_new {sheet:V} {s:Nat} (q:∀ σ',σ'.next=σ.next + 3→σ'.objs σ.next=some (.inst (.E .xc) (wFs sheet s (σ.next + 1) (σ.next + 2) none))→σ'.objs (σ.next + 1)=some (.list [])→σ'.objs (σ.next + 2)=some (.list [])→(∀ r,r < σ.next→σ'.objs r=σ.objs r)→K (.ref σ.next) σ'):
  W (callF (n+1) (.glob (.E .xc)) [sheet,.ref s] σ) K:=by
 refine W_mu (g:=(.E .xc)) rfl rfl rfl ?_
 refine o_attr (r:=σ.next) (fs:=[]) St.new_eq rfl ?_
 refine o_attr (r:=σ.next) St.set_eq rfl ?_
 have h:σ.next≠σ.next + 1:=by omega
 have h2:σ.next≠σ.next + 2:=by omega
 have h3:σ.next + 1≠σ.next:=by omega
 have h4:σ.next + 1≠σ.next + 2:=by omega
 refine o_attr (r:=σ.next) ((St.new_ne (by exact h)).trans St.set_eq) rfl ?_
 refine o_attr (r:=σ.next) St.set_eq rfl ?_
 refine o_attr (r:=σ.next) St.set_eq rfl ?_
 refine o_attr (r:=σ.next) ((St.new_ne (by exact h2)).trans St.set_eq) rfl ?_
 refine q _ rfl St.set_eq ?_ ((St.set_ne h2.symm).trans St.new_eq) fun r hr=>?_
 ·exact(St.set_ne h3).trans ((St.new_ne (by exact h4)).trans ((St.set_ne h3).trans ((St.set_ne h3).trans ((St.set_ne h3).trans St.new_eq))))
 ·have n0:r≠σ.next:=by omega
  have n1:r≠σ.next + 1:=by omega
  have n2:r≠σ.next + 2:=by omega
  exact(St.set_ne n0).trans ((St.new_ne (by exact n2)).trans ((St.set_ne n0).trans ((St.set_ne n0).trans ((St.set_ne n0).trans ((St.new_ne (by exact n1)).trans ((St.set_ne n0).trans ((St.set_ne n0).trans (St.new_ne n0))))))))
end
end L
end E
end Mine
end
section
namespace Mine
namespace E
namespace L
noncomputable abbrev gly (l:List Show):List V:=l.flatMap Show.glyphs
theorem gly_len:∀(l:List Show),(∀ s∈l,s.Ok)→(gly l).length≤1000 * l.length
 | [],_=>by simp
 | s::l,h=>by
  have h1:=gly_len l fun t ht=>h t (List.mem_cons_of_mem _ ht)
  have h2:=(h s (List.mem_cons_self ..)).len
  simp only [gly,List.flatMap_cons,List.length_append,List.length_cons,Show.glyphs,List.length_map] at h1 ⊢
  omega
noncomputable def TS (σ₀:St) (own₀:List Nat) (w:Nat) (sheet:V) (pl fd:Nat) (σ:St) (x:A) (t:Option M) (pile:List A) (gl:List V):Prop:=
 ∃ s sd mine,TR σ w sheet s sd pl fd mine x t gl∧mine.map (fun uu=>uu.2.2)=pile∧Fra own₀ σ₀ σ∧∀ r∈ownT w s sd pl fd mine,r∈own₀∨σ₀.next≤r
noncomputable def RdOK (D:Sm→A→List Show→Prop) (n:Nat) (forms:List (V×V)):Prop:=
 ∀(f:Sm) (x:A) (ws:List Show),D f x ws→(∀ s∈ws,s.Ok)→ws.length≤1000→∃ ops fonts fs o,dGet (.str f) forms=some (some (sheetV ops fonts fs o))∧o.Small∧
  ∀(σ:St) (s sd:Nat) (K:V→St→Prop),σ.objs s=some (xsObj {x with ctm:=o.mul x.ctm} sd)→σ.objs sd=some (.dict (sKvs x.lead))→s < σ.next→sd < σ.next→(∀ σ',Fra [s,sd] σ σ'→K (.lst (gly ws)) σ')→W (callF n (.glob (.K .x1)) [sheetV ops fonts fs o,.ref s] σ) K
noncomputable def Op.fnt (fonts:List (V×V)):Op→Prop
 | .tf f _=>(f=(.B .x5)∨f=(.B .x9))∧dGet (.str f) fonts=some (some (fontOf f))
 | _=>True
inductive Tl:List (Nm×V)→Prop
 | nil:Tl []
 | two {a b:V}:Tl [((.C .xb),a),((.D .xc),b)]
noncomputable abbrev gfr (sheet:V) (s0 w:Nat) (op:Op) (tl:List (Nm×V)):List (Nm×V):=((.I .x0),sheet)::((.J .x5),.ref s0)::((.E .x4),kindsV)::((.K .x3),.ref w)::((.G .x0),op.v)::((.L .x6),.str op.word)::tl
noncomputable abbrev gBody2:List S:=[.ife (.cmp .in_ (.loc (.L .x6)) (.glob (.C .xa))) [.expr (.call (.glob (.H .xc)) [(.loc (.K .x3)),(.loc (.L .x6)),(.attr (.loc (.G .x0)) (.F .xc))])] [.ife (.cmp .in_ (.loc (.L .x6)) (.glob (.D .x8))) [.asg (.sub (.attr (.attr (.loc (.K .x3)) (.J .x5)) (.J .x0)) (.loc (.L .x6))) (.call (.glob (.G .xc)) [(.sub (.attr (.loc (.G .x0)) (.F .xc)) (.lit (.int 0)))])] [.ife (.cmp .eq (.loc (.L .x6)) (.lit (.str (.D .x5)))) [.expr (.call (.glob (.G .xa)) [(.loc (.K .x3)),(.attr (.loc (.G .x0)) (.F .xc))])] [.ife (.and_ [(.cmp .eq (.loc (.L .x6)) (.lit (.str (.B .x2)))),(.cmp .in_ (.attr (.sub (.attr (.loc (.G .x0)) (.F .xc)) (.lit (.int 0))) (.J .xb)) (.attr (.loc (.I .x0)) (.C .xc)))]) [.asg (.nm (.C .xb)) (.sub (.attr (.loc (.I .x0)) (.C .xc)) (.attr (.sub (.attr (.loc (.G .x0)) (.F .xc)) (.lit (.int 0))) (.J .xb))),.asg (.nm (.D .xc)) (.meth (.attr (.loc (.K .x3)) (.J .x5)) (.B .x2) []),.asg (.attr (.loc (.D .xc)) (.B .x4)) (.meth (.attr (.loc (.C .xb)) (.G .x3)) (.K .x0) [(.attr (.loc (.D .xc)) (.B .x4))]),.expr (.meth (.attr (.loc (.K .x3)) (.D .x0)) (.C .x0) [(.call (.glob (.K .x1)) [(.loc (.C .xb)),(.loc (.D .xc))])])] [.expr (.call (.glob (.I .x0)) [(.loc (.K .x3)),(.loc (.L .x6)),(.attr (.loc (.G .x0)) (.F .xc))])]]]]]
section
variable {n:Nat} {σ σ₀:St} {K:V→St→Prop} {w s sd pl fd s0:Nat} {sheet:V} {mine:Pl} {x:A} {t:Option M} {gl:List V} {m mo:M} {own₀:List Nat} {Q:Fl→Fr→St→Prop} {ops:V} {fonts forms:List (V×V)}
theorem TS.keep {x':A} {t':Option M} {gl' gl₁:List V} {σ':St} {pile:List A} (e1:mine.map (fun uu=>uu.2.2)=pile) (f:Fra own₀ σ₀ σ) (ho:∀ r∈ownT w s sd pl fd mine,r∈own₀∨σ₀.next≤r) (g:TR σ' w sheet s sd pl fd mine x' t' gl₁) (eg:gl₁=gl') (fr:Fra (fT w s sd pl fd) σ σ'):TS σ₀ own₀ w sheet pl fd σ' x' t' pile gl':=
 ⟨s,sd,mine,eg▸g,e1,f.trans fr (fT_all ho),ho⟩
theorem read1 {op:Op} {x':A} {t':Option M} (st:Stp1 op x t x' t') (tl:List (Nm×V)) (h:TR σ w (sheetV ops fonts forms mo) s sd pl fd mine x t gl) (hfn:op.fnt fonts)
  (q:∀ σ',TR σ' w (sheetV ops fonts forms mo) s sd pl fd mine x' t' gl→Fra (fT w s sd pl fd) σ σ'→Q .next ⟨gfr (sheetV ops fonts forms mo) s0 w op tl,none⟩ σ'):W3 (execCs wst (callF (n+11)) gBody2 ⟨gfr (sheetV ops fonts forms mo) s0 w op tl,none⟩ σ) Q:=by
 induction st with
 | bt=>exact⟨fs_bt h q⟩
 | et=>exact⟨fp_et h q⟩
 | td ha hb=>exact⟨fp_td h ha hb q⟩
 | tD ha hb=>exact⟨fp_tD h ha hb q⟩
 | ts ha=>exact⟨fp_ts h ha q⟩
 | tm=>exact⟨fp_tm h (six _) q⟩
 | @tl x t l=>
  refine ⟨d_of (.inr rfl) (o_inst h.wo (o_inst h.so (o_dset (d:=sKvs l) h.vo rfl rfl ?_)))⟩
  exact q _ (h.setV l) (.one (mS (mS m0)))
 | tf=>exact⟨choose h hfn.1 hfn.2 q⟩
 | cm hs=>exact⟨fs_cm h (six _) hs q⟩
theorem readS {op:Op} {m':M} {o:List UInt8} (st:StpS op x m m' o) (tl:List (Nm×V)) (h:TR σ w (sheetV ops fonts forms mo) s sd pl fd mine x (some m) gl) (k:(x.show o m').Ok) (kl:gl.length + o.length≤1000000)
  (q:∀ σ',TR σ' w (sheetV ops fonts forms mo) s sd pl fd mine x (some m') (gl++(x.show o m').glyphs)→Fra (fT w s sd pl fd) σ σ'→Q .next ⟨gfr (sheetV ops fonts forms mo) s0 w op tl,none⟩ σ'):W3 (execCs wst (callF (n+11)) gBody2 ⟨gfr (sheetV ops fonts forms mo) s0 w op tl,none⟩ σ) Q:=by
 induction st with
 | tj hf hm=>exact⟨fp_tj h hf k.oct hm k.size k.len kl q⟩
 | tJ hf hm hb=>
  rw [List.length_append,← Nat.add_assoc] at kl
  exact⟨fp_tJ h hf (fun c hc=>k.oct c (List.mem_append_left _ hc)) (fun c hc=>k.oct c (List.mem_append_right _ hc)) hm k.size hb kl q⟩
 | qt hf ha hm=>exact⟨fp_qt h ha hf k.oct hm k.size k.len kl q⟩
 | dq hf ha hm=>exact⟨fp_dq h ha hf k.oct hm k.size k.len kl q⟩
theorem gly_app {l l':List Show}:gly (l++l')=gly l++gly l':=List.flatMap_append
theorem gly_one {z:Show}:gly [z]=z.glyphs:=List.append_nil _
theorem gly_room {l l':List Show} (h:∀ s∈l++l',s.Ok) (hl:(l++l').length≤1000):(gly l).length + (gly l').length≤1000000:=by
 rw [← List.length_append,← gly_app]
 exact Nat.le_trans (gly_len _ h) (Nat.mul_le_mul_left 1000 hl)
theorem read {D:Sm→A→List Show→Prop} {op:Op} {c c':C} (st:Stp D op c c') {tl:List (Nm×V)} (ht:Tl tl) (hT:TS σ₀ own₀ w (sheetV ops fonts forms mo) pl fd σ c.x c.t c.pile (gly c.sh)) (ok:∀ s∈c'.sh,s.Ok) (hl:c'.sh.length≤1000) (hp:c.pile.length < 1000000) (hfn:op.fnt fonts) (hdo:RdOK D (n+11) forms)
  (q:∀ σ' tl',Tl tl'→TS σ₀ own₀ w (sheetV ops fonts forms mo) pl fd σ' c'.x c'.t c'.pile (gly c'.sh)→Q .next ⟨gfr (sheetV ops fonts forms mo) s0 w op tl',none⟩ σ'):W3 (execCs wst (callF (n+11)) gBody2 ⟨gfr (sheetV ops fonts forms mo) s0 w op tl,none⟩ σ) Q:=by
 refine ex3 hT fun s sd mine hh=>an4 hh fun h e1 f ho=>?_
 induction st with
 | one st=>exact read1 st tl h hfn fun σ' g e=>q _ _ ht (TS.keep e1 f ho g rfl e)
 | @sho op x m m' o p sh st=>
  have kl:=gly_room ok hl
  rw [gly_one,Show.glyphs,List.length_map] at kl
  refine readS st tl h (ok _ sn_last) kl fun σ' g e=>q _ _ ht (TS.keep e1 f ho g (gly_one▸gly_app.symm) e)
 | @q x p sh=>
  exact⟨fs_q h (map_len e1▸Nat.le_of_lt hp) fun σ' g e=>q _ _ ht ⟨s,sd,_,g,by rw [map_sn,e1],f.trans e (alS (ho _ ownT_pl) al0),ownT_push (P:=fun r=>r∈own₀∨σ₀.next≤r) ho (.inr f.1) (.inr (Nat.le_add_right_of_le f.1))⟩⟩
 | @Q x y p sh=>
  refine ex3 (snoc_of e1) fun mine' a b hh=>an2 hh fun qq0 e3=>?_;subst qq0
  have hp:(p++[y]).length < 1000000:=hp
  rw [List.length_append,← map_len e3] at hp
  exact⟨fs_Q h (Nat.le_of_lt hp) fun σ' g e=>q _ _ ht ⟨a,b,mine',g,e3,f.trans e (alS (ho _ ownT_w) (alS (ho _ ownT_pl) al0)),ownT_pop (P:=fun r=>r∈own₀∨σ₀.next≤r) ho⟩⟩
 | @dO x fn p sh ws hD=>
  refine ex4 (hdo fn x ws hD (fun s hs=>ok s (List.mem_append_right _ hs)) (Nat.le_trans (List.length_append▸Nat.le_add_left _ _) hl)) fun ops' fonts' fs' o hh=>an3 hh fun h1 ho' run=>?_
  have l1:=h.lt _ ownT_s
  have l2:=h.lt _ ownT_sd
  have kl:=gly_room ok hl
  induction ht<;>
  ·refine ⟨?_⟩
   refine O_of (m:=cmpV σ .in_ (.str fn) (.dct forms)) (a:=true) ?_ ?_
   ·show (dGet (.str fn) forms).map (fun o=>o.isSome)=_
    rw [h1];rfl
   refine O_of (m:=subV σ (.dct forms) (.str fn)) (a:=sheetV ops' fonts' fs' o) ?_ ?_
   ·exact congrArg (fun x=>Option.bind x id) h1
   refine o_inst h.wo ?_
   refine o_meth h.so ?_
   refine ts_copied h.so h.vo l1 l2 fun σ₁ n1 n2 n3 n4=>?_
   refine o_inst n2 ?_
   refine m_times ho' ?_
   refine o_attr n2 rfl ?_
   have le:σ.next + 3≤σ₁.next:=by omega
   have h₁:=h.old (σ':=σ₁.set σ.next (xsObj {x with ctm:=o.mul x.ctm} (σ.next + 2))) (Nat.le_of_add_right_le le) fun r hr=>(St.set_ne (Nat.ne_of_lt hr)).trans (n4 r hr)
   have f₁:Fra [] σ (σ₁.set σ.next (xsObj {x with ctm:=o.mul x.ctm} (σ.next + 2))):=Fra.set (σ':=σ₁) ⟨Nat.le_of_add_right_le le,fun r hr uu=>n4 r hr⟩ (.inr (Nat.le_refl _))
   refine o_inst h₁.wo ?_
   refine o_lext h₁.fo ?_
   refine run _ σ.next (σ.next + 2) _ St.set_eq ((St.set_ne (Nat.ne_of_gt (Nat.lt_add_of_pos_right (by decide)))).trans n3) (Nat.lt_of_lt_of_le (Nat.lt_add_of_pos_right (by decide)) le) le fun σ₂ f₂=>?_
   have f₃:Fra [] σ σ₂:=f₁.trans f₂ (alS (.inr (Nat.le_refl _)) (alS (.inr (Nat.le_add_right _ 2)) al0))
   have h₂:=h.old f₃.1 fun r hr=>f₃.2 r hr List.not_mem_nil
   refine w_ext h₂.fo kl ?_
   exact q _ _ .two (TS.keep e1 f ho (h₂.ext (gly ws)) gly_app.symm ((f₃.mono sb0).set (.inl (mS (mS (mS (mS m0)))))))
end
end L
end E
end Mine
end
section
namespace Mine
namespace E
namespace L
theorem Stp.pre {D:Sm→A→List Show→Prop} {o:Op} {c c':C} (h:Stp D o c c'):∃ w,c'.sh=c.sh++w:=by
 induction h with
 | sho=>exact⟨_,rfl⟩
 | dO=>exact⟨_,rfl⟩
 | _=>exact⟨[],(List.append_nil _).symm⟩
theorem Run.pre {D:Sm→A→List Show→Prop} {os:List Op} {c c':C} (h:Run D os c c'):∃ w,c'.sh=c.sh++w:=by
 induction h with
 | nil=>exact⟨[],(List.append_nil _).symm⟩
 | cons h _ ih=>
  refine ex1 h.pre fun w e=>?_
  refine ex1 ih fun w' e'=>?_
  exact⟨w++w',by rw [e',e,List.append_assoc]⟩
theorem ex_cons {call:Call} {s:S} {r:List S} {fr:Fr} {σ:St} {Q:Fl→Fr→St→Prop} (h:execC wst call s fr σ fun fl fr σ=>match fl with
  | .next=>W3 (execCs wst call r fr σ) Q
  | .ret v=>Q (.ret v) fr σ):W3 (execCs wst call (s::r) fr σ) Q:=
 have e:(fun(fl:Fl) (fr:Fr) (σ:St)=>(match fl with | .next=>W3 (execCs wst call r fr σ) Q | .ret v=>Q (.ret v) fr σ))=fun fl fr σ=>(match fl with | .next=>execCs wst call r fr σ Q | .ret v=>Q (.ret v) fr σ):=funext fun fl=>funext fun fr=>funext fun σ=>match fl with
  | .next=>W3_eq
  | .ret _=>rfl
 ⟨(congrArg (execC wst call s fr σ) e).mp h⟩
noncomputable abbrev gBody:List S:=.expr (.call (.glob (.G .x8)) [(.loc (.E .x4)),(.loc (.G .x0))]):: .asg (.nm (.L .x6)) (.attr (.loc (.G .x0)) (.L .x6))::gBody2
theorem frz_dict {σ:St} {r:Nat} {kvs:List (V×V)} (h:σ.objs r=some (.dict kvs)):frz σ (.ref r)=(.dct kvs,σ.del r):=by
 show (match σ.objs r with | some (.list vs)=>(V.lst vs,σ.del r) | some (.dict kvs)=>(.dct kvs,σ.del r) | some (.inst c fs)=>(.inst c fs,σ.del r) | _=>(.ref r,σ))=_
 rw [h]
section
variable {n:Nat} {σ σ₀:St} {K:V→St→Prop} {w s sd pl fd s0:Nat} {mo:M} {own₀:List Nat} {Q:Fl→Fr→St→Prop} {ops:V} {fonts forms:List (V×V)} {D:Sm→A→List Show→Prop}
theorem turn {op:Op} {c c':C} (st:Stp D op c c') {vars:List (Nm×V)} {tl:List (Nm×V)} (hv:putL (.L .x6) (.str op.word) vars=gfr (sheetV ops fonts forms mo) s0 w op tl) (h1:getL? (.E .x4) vars=some kindsV) (h2:getL? (.G .x0) vars=some op.v) (ht:Tl tl)
  (hT:TS σ₀ own₀ w (sheetV ops fonts forms mo) pl fd σ c.x c.t c.pile (gly c.sh)) (ok:∀ s∈c'.sh,s.Ok) (hl:c'.sh.length≤1000) (hp:c.pile.length < 1000000) (hfn:op.fnt fonts) (hdo:RdOK D (n+11) forms)
  (q:∀ σ' tl',Tl tl'→TS σ₀ own₀ w (sheetV ops fonts forms mo) pl fd σ' c'.x c'.t c'.pile (gly c'.sh)→Q .next ⟨gfr (sheetV ops fonts forms mo) s0 w op tl',none⟩ σ'):W3 (execCs wst (callF (n+11)) gBody ⟨vars,none⟩ σ) Q:=by
 refine ex_cons ?_
 refine O_of h1 ?_
 refine O_of h2 ?_
 refine chk (n:=n + 6) op ?_
 refine ex_cons ?_
 refine O_of h2 ?_
 have e:W3 (execCs wst (callF (n+11)) gBody2 ⟨putL (.L .x6) (.str op.word) vars,none⟩ σ) Q:=by
  rw [hv];exact read st ht hT ok hl hp hfn hdo q
 exact e
theorem gloop (hdo:RdOK D (n+11) forms) {os:List Op} {c c':C} (hr:Run D os c c'):∀ {σ:St} {op0:Op} {tl:List (Nm×V)},Tl tl→TS σ₀ own₀ w (sheetV ops fonts forms mo) pl fd σ c.x c.t c.pile (gly c.sh)→(∀ s∈c'.sh,s.Ok)→c'.sh.length≤1000→c.pile.length + os.length≤1000000→(∀ op∈os,op.fnt fonts)→
  (∀ σ' op' tl',TS σ₀ own₀ w (sheetV ops fonts forms mo) pl fd σ' c'.x c'.t c'.pile (gly c'.sh)→Q .next ⟨gfr (sheetV ops fonts forms mo) s0 w op' tl',none⟩ σ')→
  W3 (forLoop wst (.G .x0) (fun f s=>execCs wst (callF (n+11)) gBody f s) (os.map Op.v) ⟨gfr (sheetV ops fonts forms mo) s0 w op0 tl,none⟩ σ) Q:=by
 induction hr with
 | nil=>exact fun ht hT uu uu uu uu q=>for_nil (q _ _ _ hT)
 | @cons o os c c₁ c₂ st hr ih=>
  intro σ op0 tl ht hT ok hl hp hf q
  rw [List.length_cons] at hp
  refine ex1 hr.pre fun w' e=>?_
  refine for_consW ?_
  refine turn st (tl:=tl) rfl rfl rfl ht hT (fun s hs=>ok s (e▸List.mem_append_left _ hs)) (Nat.le_trans hr.grows hl) (by omega) (hf o (List.mem_cons_self ..)) hdo fun σ' tl' ht' g=>?_
  exact ih ht' g ok hl (by have:=st.grows.2;omega) (fun op h=>hf op (List.mem_cons_of_mem _ h)) q
noncomputable abbrev gRest:List S:=[.asg (.nm (.K .x3)) (.call (.glob (.E .xc)) [(.loc (.I .x0)),(.loc (.J .x5))]),.fr (.nm (.G .x0)) (.attr (.loc (.I .x0)) (.G .x1)) gBody,.ret (some (.frz (.attr (.loc (.K .x3)) (.D .x0))))]
theorem g_rest (hdo:RdOK D (n+11) forms) {os:List Op} {x:A} {c':C} (hr:Run D os ⟨x,none,[],[]⟩ c') (ok:∀ s∈c'.sh,s.Ok) (hl:c'.sh.length≤1000) (hp:os.length≤1000000) (hf:∀ op∈os,op.fnt fonts) (hs:σ.objs s=some (xsObj x sd)) (hv:σ.objs sd=some (.dict (sKvs x.lead))) (ls:s < σ.next) (ld:sd < σ.next)
  (q:∀ σ' fr,Fra [s,sd] σ σ'→Q (.ret (.lst (gly c'.sh))) fr σ'):execCs wst (callF (n+11)) gRest ⟨[((.I .x0),sheetV (.lst (os.map Op.v)) fonts forms mo),((.J .x5),.ref s),((.E .x4),kindsV)],none⟩ σ Q:=by
 refine walk_new fun σ₁ e1 e2 e3 e4 e5=>?_
 have hT:TS σ [s,sd] σ.next (sheetV (.lst (os.map Op.v)) fonts forms mo) (σ.next + 1) (σ.next + 2) σ₁ x none [] (gly []):=by
  have lt:∀ {r},r < σ.next→r < σ₁.next:=fun h=>Nat.lt_of_lt_of_le h (e1▸Nat.le_add_right _ _)
  exact⟨s,sd,[],⟨e2,(e5 s ls).trans hs,(e5 sd ld).trans hv,e3,e4,al0,List.not_mem_nil,List.not_mem_nil,.nil,.nil,Nat.ne_of_lt (Nat.lt_succ_self _),ownT_all (P:=(fun uu=>uu < σ₁.next)) (e1▸Nat.lt_add_of_pos_right (by decide)) (lt ls) (lt ld) (e1▸Nat.add_lt_add_left (by decide) _) (e1▸Nat.add_lt_add_left (by decide) _) al0⟩,rfl,⟨e1▸Nat.le_add_right _ _,fun r hr uu=>e5 r hr⟩,
   ownT_all (P:=fun r=>r∈ [s,sd]∨σ.next≤r) (.inr (Nat.le_refl _)) (.inl m0) (.inl (mS m0)) (.inr (Nat.le_add_right _ 1)) (.inr (Nat.le_add_right _ 2)) al0⟩
 refine o_iter (by rw [List.length_map];exact hp) ?_
 have fin:∀(σ':St) (fr:Fr),TS σ [s,sd] σ.next (sheetV (.lst (os.map Op.v)) fonts forms mo) (σ.next + 1) (σ.next + 2) σ' c'.x c'.t c'.pile (gly c'.sh)→O (asInst σ' (.ref σ.next)) fun p=>O (if isField p.1 (.D .x0) then getL? (.D .x0) p.2 else .none) fun r=>Q (.ret (frz σ' r).1) fr (frz σ' r).2:=fun σ' fr g=>by
  refine ex3 g fun s' sd' mine hh=>an4 hh fun h uu f ho=>?_
  refine o_inst h.wo ?_
  show Q (.ret (frz σ' (.ref (σ.next + 2))).1) fr (frz σ' (.ref (σ.next + 2))).2
  rw [frz_list h.fo]
  exact q _ _ (f.del (ho _ ownT_fd))
 cases hr with
 | nil=>
  refine for_nil ?_
  exact fin _ _ hT
 | @cons o os _ c₁ _ st hr=>
  rw [List.length_cons] at hp
  refine ex1 hr.pre fun w' e=>?_
  refine for_consW ?_
  refine turn st (tl:=[]) rfl rfl rfl .nil hT (fun s hs=>ok s (e▸List.mem_append_left _ hs)) (Nat.le_trans hr.grows hl) (by show 0 < 1000000;omega) (hf o (List.mem_cons_self ..)) hdo fun σ' tl' ht' g=>?_
  refine gloop hdo hr ht' g ok hl (by have h1:=st.grows.2;have:c₁.pile.length≤0 + 1:=h1;omega) (fun op h=>hf op (List.mem_cons_of_mem _ h)) fun σ'' op' tl'' g'=>?_
  exact fin _ _ g'
theorem sheet_glyphs (hdo:RdOK D (n+11) forms) {os:List Op} {x:A} {c':C} (hr:Run D os ⟨x,none,[],[]⟩ c') (ok:∀ s∈c'.sh,s.Ok) (hl:c'.sh.length≤1000) (hp:os.length≤1000000) (hf:∀ op∈os,op.fnt fonts) (hs:σ.objs s=some (xsObj x sd)) (hv:σ.objs sd=some (.dict (sKvs x.lead))) (ls:s < σ.next) (ld:sd < σ.next)
  (q:∀ σ',Fra [s,sd] σ σ'→K (.lst (gly c'.sh)) σ'):W (callF (n+12) (.glob (.K .x1)) [sheetV (.lst (os.map Op.v)) fonts forms mo,.ref s] σ) K:=by
 refine W_def rfl rfl ?_
 refine text_kinds fun σ₁ e1 e2 e3=>?_
 refine o_dset (d:=kinds1) e2 rfl rfl ?_
 refine o_dset (d:=kindsL) St.set_eq rfl rfl ?_
 have e4:((σ₁.set σ.next (.dict kinds1)).set σ.next (.dict kindsL)).objs σ.next=some (.dict kindsL):=St.set_eq
 have lt:∀ {r},r < σ.next→(((σ₁.set σ.next (.dict kinds1)).set σ.next (.dict kindsL)).del σ.next).objs r=σ.objs r:=fun hr=>(St.del_ne (Nat.ne_of_lt hr)).trans ((St.set_ne (Nat.ne_of_lt hr)).trans ((St.set_ne (Nat.ne_of_lt hr)).trans (e3 _ hr)))
 have e:execCs wst (callF (n+11)) gRest ⟨[((.I .x0),sheetV (.lst (os.map Op.v)) fonts forms mo),((.J .x5),.ref s),((.E .x4),(frz ((σ₁.set σ.next (.dict kinds1)).set σ.next (.dict kindsL)) (.ref σ.next)).1)],none⟩ (frz ((σ₁.set σ.next (.dict kinds1)).set σ.next (.dict kindsL)) (.ref σ.next)).2 fun fl uu σ=>K (flV fl) σ:=by
  rw [frz_dict e4]
  refine g_rest hdo hr ok hl hp hf ((lt ls).trans hs) ((lt ld).trans hv) (by show s < σ₁.next;omega) (by show sd < σ₁.next;omega) fun σ' fr f=>?_
  exact q _ (Fra.trans (σ':=((σ₁.set σ.next (.dict kinds1)).set σ.next (.dict kindsL)).del σ.next) ⟨by show σ.next≤σ₁.next;omega,fun r hr uu=>lt hr⟩ f fun r hr=>.inl hr)
 exact e
end
end L
end E
end Mine
end
section
namespace Mine
namespace E
namespace L
theorem RdOK0 {n:Nat} {forms:List (V×V)}:RdOK D0 n forms:=fun f x w h=>h.elim
theorem RdOK.or {D D':Sm→A→List Show→Prop} {n:Nat} {forms:List (V×V)} (h:RdOK D n forms) (h':RdOK D' n forms):RdOK (fun f x w=>D f x w∨D' f x w) n forms:=fun f x w hd=>hd.elim (h f x w) (h' f x w)
noncomputable def ownM:Option M→M
 | some m=>m
 | none=>M.one
theorem own_mul (m:Option M) (c:M):(ownM m).mul c=inM m c:=by
 cases m with
 | some m=>rfl
 | none=>cases c;simp [ownM,inM,M.mul]
theorem own_small (m:Option M) (hm:∀ o,m=some o→o.Small):(ownM m).Small:=by
 cases m with
 | some m=>exact hm m rfl
 | none=>exact⟨rfl,rfl,rfl,rfl,rfl,rfl⟩
theorem get_put {n:Nm} {v:V}:∀ {l:List (Nm×V)},getL? n (putL n v l)=some v
 | []=>if_pos rfl
 | (m,w)::r=>by
  unfold putL
  split
  ·exact if_pos (by assumption)
  ·rename_i h
   exact(if_neg h).trans get_put
section
variable {n:Nat} {σ:St} {K:V→St→Prop}
theorem rdOKf {D':Sm→A→List Show→Prop} {os:List Op} {m:Option M} {f₀:Sm} {forms fonts' forms':List (V×V)} (h1:dGet (.str f₀) forms=some (some (sheetV (.lst (os.map Op.v)) fonts' forms' (ownM m)))) (hm:∀ o,m=some o→o.Small) (hp:os.length≤1000000) (hf:∀ op∈os,op.fnt fonts') (hdo:RdOK D' (n+11) forms'):
  RdOK (fun f x w=>f=f₀∧Shows D' os m x w) (n+12) forms:=fun f x ws ⟨e,x',pile',run⟩ ok hl=>by
 subst e
 refine ⟨_,_,_,_,h1,own_small m hm,fun σ s sd K hs hv ls ld q=>?_⟩
 rw [own_mul] at hs
 exact sheet_glyphs hdo run ok hl hp hf hs hv ls ld q
theorem lay_glyphs {D:Sm→A→List Show→Prop} {fonts forms:List (V×V)} {mo:M} (hdo:RdOK D (n+11) forms) {os:List Op} {c':C} (hr:Run D os ⟨⟨mo,0,0,(.A .x0)⟩,none,[],[]⟩ c') (ok:∀ s∈c'.sh,s.Ok) (hl:c'.sh.length≤1000) (hp:os.length≤1000000) (hf:∀ op∈os,op.fnt fonts)
  (q:∀ σ',Fra [] σ σ'→K (.lst (gly c'.sh)) σ'):W (callF (n+13) (.glob (.I .xb)) [sheetV (.lst (os.map Op.v)) fonts forms mo] σ) K:=by
 refine W_def rfl rfl ?_
 refine ts_new fun σ₁ e1 e2 e3 e4=>?_
 refine sheet_glyphs hdo hr ok hl hp hf e2 e3 (by omega) (by omega) fun σ' f=>?_
 exact q _ (Fra.trans ⟨by omega,fun r hr uu=>e4 r hr⟩ f fun r hr=>.inr (by simp at hr;omega))
theorem g_told {f:Sm} {m:M} {z:Int} {o:UInt8} (q:K (.tup [.str (tx f o),tld (m.a * 0 + m.c * 0 + m.e),tld (m.b * 0 + m.d * 0 + m.f),tld (m.a * 0 + m.c * 0),tld (m.b * 0 + m.d * z)]) σ):W (callF (n+2) (.glob (.B .x4)) [glyphV f m z o] σ) K:=W_of (fun uu=>rfl) q
theorem row_eq (s:Show) (o:UInt8):(.tup [.str (tx s.font o),tld (s.m.a * 0 + s.m.c * 0 + s.m.e),tld (s.m.b * 0 + s.m.d * 0 + s.m.f),tld (s.m.a * 0 + s.m.c * 0),tld (s.m.b * 0 + s.m.d * s.size)]:V)=s.row o:=by
 unfold Show.row
 have:s.m.a * 0 + s.m.c * 0=0:=by simp
 rw [this]
theorem told_octs {vars:List (Nm×V)} (s:Show) (gs:List V):∀(os:List UInt8) {K:List V→St→Prop},WL (compLoop wst (.F .x8) .none (fun f s=>evalC wst (callF (n+2)) (.meth (.loc (.F .x8)) (.K .x1) []) f s) ⟨vars,none⟩ gs σ) (fun ys σ=>K (os.map s.row++ys) σ)→
  WL (compLoop wst (.F .x8) .none (fun f s=>evalC wst (callF (n+2)) (.meth (.loc (.F .x8)) (.K .x1) []) f s) ⟨vars,none⟩ (os.map (glyphV s.font s.m s.size)++gs) σ) K
 | [],K,q=>q
 | o::os,K,q=>by
  refine comp_cons ?_
  refine O_of (get_put (n:=(.F .x8)) (v:=glyphV s.font s.m s.size o) (l:=vars)) ?_
  refine g_told ?_
  rw [row_eq]
  exact told_octs s gs os (K:=fun ys σ=>K (s.row o::ys) σ) q
theorem told_all {vars:List (Nm×V)}:∀(l:List Show) {K:List V→St→Prop},K (dueOf l) σ→WL (compLoop wst (.F .x8) .none (fun f s=>evalC wst (callF (n+2)) (.meth (.loc (.F .x8)) (.K .x1) []) f s) ⟨vars,none⟩ (gly l) σ) K
 | [],K,q=>comp_nil q
 | s::l,K,q=>told_octs s (gly l) s.oct (told_all l (K:=fun ys σ=>K (s.oct.map s.row++ys) σ) q)
end
end L
end E
end Mine
end
section
namespace Mine
namespace E
namespace L
theorem all2_cons {f:V→V→Option Bool} {x:V} {l:List V} (h:f x x=some true) (k:all2 f l l=some true):all2 f (x::l) (x::l)=some true:=by
 unfold all2
 rw [h,k];rfl
theorem veq_int {n:Nat} (i:Int):veqN (n+1) (.int i) (.int i)=some true:=congrArg some (beq_self_eq_true i)
theorem veq_tup {n:Nat} {l:List V}:veqN (n+1) (.tup l) (.tup l)=all2 (veqN n) l l:=rfl
theorem veq_tld {n:Nat} (i:Int):veqN (n+2) (tld i) (tld i)=some true:=by
 refine veq_tup.trans ?_
 exact all2_cons (veq_int _) (all2_cons (veq_int _) rfl)
theorem veq_row (s:Show) (o:UInt8):veqN 7 (s.row o) (s.row o)=some true:=by
 refine (veq_tup (n:=6)).trans ?_
 exact all2_cons (congrArg some (beq_self_eq_true _)) (all2_cons (veq_tld _) (all2_cons (veq_tld _) (all2_cons (veq_tld _) (all2_cons (veq_tld _) rfl))))
theorem all2_refl {f:V→V→Option Bool}:∀(l:List V),(∀ v∈l,f v v=some true)→all2 f l l=some true
 | [],_=>rfl
 | v::l,h=>all2_cons (h v (List.mem_cons_self ..)) (all2_refl l fun u hu=>h u (List.mem_cons_of_mem _ hu))
theorem veq_due (l:List Show):veq (.lst (dueOf l)) (.lst (dueOf l))=some true:=by
 unfold veq
 show (if (dueOf l).length=(dueOf l).length then all2 (veqN 7) (dueOf l) (dueOf l) else some false)=_
 rw [if_pos rfl]
 refine all2_refl _ fun v hv=>?_
 unfold dueOf at hv
 refine e1a2 (List.mem_flatMap.mp hv) fun s hs hv=>?_
 refine e1a2 (List.mem_map.mp hv) fun o ho qq0=>?_;subst qq0
 exact veq_row s o
inductive Us (a b:Sm):List Sm→Prop
 | e:Us a b []
 | a:Us a b [a]
 | b:Us a b [b]
 | ab:Us a b [a,b]
inductive UD:List (V×V)→List Sm→List Sm→Prop
 | e:UD [] [] []
 | f {l}:l≠ []→UD [(.str (.B .x7),.lst (l.map .str))] l []
 | x {l}:l≠ []→UD [(.str (.E .x1),.lst (l.map .str))] [] l
 | fx {l k}:l≠ []→k≠ []→UD [(.str (.B .x7),.lst (l.map .str)),(.str (.E .x1),.lst (k.map .str))] l k
 | xf {l k}:l≠ []→k≠ []→UD [(.str (.E .x1),.lst (k.map .str)),(.str (.B .x7),.lst (l.map .str))] l k
theorem UD.getF {d:List (V×V)} {l k:List Sm} (h:UD d l k):∃ o,dGet (.str (.B .x7)) d=some o∧o.getD (.lst [])=.lst (l.map .str):=by
 induction h<;>exact⟨_,rfl,rfl⟩
theorem UD.getX {d:List (V×V)} {l k:List Sm} (h:UD d l k):∃ o,dGet (.str (.E .x1)) d=some o∧o.getD (.lst [])=.lst (k.map .str):=by
 induction h<;>exact⟨_,rfl,rfl⟩
theorem UD.putF {d:List (V×V)} {l k l':List Sm} (h:UD d l k) (hn:l'≠ []):∃ d',dPut (.str (.B .x7)) (.lst (l'.map .str)) d=some d'∧UD d' l' k:=by
 induction h with
 | e=>exact⟨_,rfl,.f hn⟩
 | f _=>exact⟨_,rfl,.f hn⟩
 | x h=>exact⟨_,rfl,.xf hn h⟩
 | fx _ h=>exact⟨_,rfl,.fx hn h⟩
 | xf _ h=>exact⟨_,rfl,.xf hn h⟩
theorem UD.putX {d:List (V×V)} {l k k':List Sm} (h:UD d l k) (hn:k'≠ []):∃ d',dPut (.str (.E .x1)) (.lst (k'.map .str)) d=some d'∧UD d' l k':=by
 induction h with
 | e=>exact⟨_,rfl,.x hn⟩
 | f h=>exact⟨_,rfl,.fx h hn⟩
 | x _=>exact⟨_,rfl,.x hn⟩
 | fx h _=>exact⟨_,rfl,.fx h hn⟩
 | xf h _=>exact⟨_,rfl,.xf h hn⟩
theorem UD.len {d:List (V×V)} {l k:List Sm} (h:UD d l k):d.length≤2:=by cases h<;>simp
end L
end E
end Mine
end
section
namespace Mine
namespace E
namespace L
noncomputable abbrev sortsD:List (V×V):=[(.str (.D .x5),.str (.B .x7)),(.str (.B .x2),.str (.E .x1)),(.str (.F .x6),.str (.B .x4)),(.str (.H .x7),.str (.C .xa)),(.str (.A .xb),.str (.A .xc)),(.str (.E .x9),.str (.A .xc))]
noncomputable abbrev sortsV:V:=.dct sortsD
noncomputable abbrev spotsD:List (V×V):=[(.str (.C .x9),.str (.C .x2)),(.str (.H .x6),.str (.C .x2)),(.str (.A .x8),.str (.C .x3)),(.str (.B .x0),.str (.C .x3))]
noncomputable abbrev spotsV:V:=.dct spotsD
noncomputable abbrev sortX:X:=.call (.glob (.K .x3)) [(.bin .add (.comp (.loc (.F .x0)) (.F .x0) (.meth (.loc (.D .x0)) (.D .x3) [(.loc (.I .x9)),(.list false [])]) (some (.cmp .ne (.loc (.F .x0)) (.attr (.loc (.K .xc)) (.J .xb))))) (.list false [(.attr (.loc (.K .xc)) (.J .xb))]))]
noncomputable abbrev uBody:List S:=[.asg (.nm (.K .xc)) (.lit .none),.ife (.and_ [(.cmp .in_ (.attr (.loc (.G .x0)) (.L .x6)) (.loc (.I .xa))),(.cmp .ne (.attr (.loc (.G .x0)) (.F .xc)) (.list false []))]) [.asg (.nm (.K .xc)) (.sub (.attr (.loc (.G .x0)) (.F .xc)) (.lit (.int 0)))] [],.ife (.and_ [(.cmp .in_ (.attr (.loc (.G .x0)) (.L .x6)) (.loc (.J .x2))),(.cmp .ne (.attr (.loc (.G .x0)) (.F .xc)) (.list false []))]) [.junk] [],.ife (.call (.glob (.I .x8)) [(.loc (.K .xc)),(.glob (.C .x4))]) [.asg (.nm (.I .x9)) (.meth (.loc (.I .xa)) (.D .x3) [(.attr (.loc (.G .x0)) (.L .x6)),(.meth (.loc (.J .x2)) (.D .x3) [(.attr (.loc (.G .x0)) (.L .x6))])]),.asg (.sub (.loc (.D .x0)) (.loc (.I .x9))) sortX] []]
noncomputable abbrev u4 (L:V) (r:Nat):List (Nm×V):=[((.G .x1),L),((.I .xa),sortsV),((.J .x2),spotsV),((.D .x0),.ref r)]
noncomputable abbrev u7 (L:V) (r:Nat) (a b c:V):List (Nm×V):=u4 L r++[((.G .x0),a),((.K .xc),b),((.I .x9),c)]
inductive UF (L:V) (r:Nat):List (Nm×V)→Prop
 | s0:UF L r (u4 L r)
 | s6 {a b:V}:UF L r (u4 L r++[((.G .x0),a),((.K .xc),b)])
 | s7 {a b c:V}:UF L r (u7 L r a b c)
noncomputable def Op.names (P:Sm→Prop):Op→Prop
 | .tf f _=>f=(.B .x5)∨f=(.B .x9)
 | .dO f=>(f=(.A .x3)∨f=(.A .x5))∧P f
 | _=>True
noncomputable def Op.used (lf lx:List Sm):Op→Prop
 | .tf f _=>f∈lf
 | .dO f=>f∈lx
 | _=>True
theorem Op.used_mono {lf lx lf' lx':List Sm} (h1:∀ u∈lf,u∈lf') (h2:∀ u∈lx,u∈lx'):∀ {o:Op},o.used lf lx→o.used lf' lx'
 | .tf f _,h=>h1 f h
 | .dO f,h=>h2 f h
 | .bt,_ | .et,_ | .td _ _,_ | .tD _ _,_ | .ts,_ | .tm _,_ | .tj _,_ | .qt _,_ | .tJ _ _,_ | .dq _,_ | .tl _,_ | .q,_ | .Q,_ | .cm _,_=>trivial
section
variable {n:Nat} {σ:St} {K:V→St→Prop} {call:Call} {L:V} {r:Nat} {Q:Fl→Fr→St→Prop} {P:Sm→Prop}
theorem w_get {kvs:List (V×V)} {j d u:V} {o:Option V} (h:σ.objs r=some (.dict kvs)) (hg:dGet j kvs=some o) (e:o.getD d=u) (k:K u σ):W (mcallB (.ref r) (.D .x3) [j,d] σ) K:=⟨O_of (m:=asDict σ (.ref r)) (dict_ref h) (O_of hg (o_gd rfl (e.symm▸k)))⟩
theorem ins_ok {kvs:List (V×V)} {v:Sm} {l:List Sm} {a:V} {so:Sm} {o:Option V} (hs:(so=(.B .x7)∧(v=(.B .x5)∨v=(.B .x9))∧Us (.B .x5) (.B .x9) l)∨(so=(.E .x1)∧(v=(.A .x3)∨v=(.A .x5))∧Us (.A .x3) (.A .x5) l)) (h:σ.objs r=some (.dict kvs)) (hg:dGet (.str so) kvs=some o) (e:o.getD (.lst [])=.lst (l.map .str))
  (q:∀ l',((so=(.B .x7)∧Us (.B .x5) (.B .x9) l')∨(so=(.E .x1)∧Us (.A .x3) (.A .x5) l'))→l'≠ []→v∈l'→(∀ u∈l,u∈l')→(∀ u∈l',u=v∨u∈l)→K (.lst (l'.map .str)) σ):evalC wst call sortX ⟨u7 L r a (nameV v) (.str so),none⟩ σ K:=by
 rcases hs with ⟨rfl,rfl | rfl,hl⟩ | ⟨rfl,rfl | rfl,hl⟩<;>cases hl
 all_goals
  refine o_dget h ?_
  refine w_get h hg e ?_
  refine o_iter (by simp) ?_
  first
   | refine comp_nil ?_
   | (refine comp_consC ?_;refine comp_nil ?_)
   | (refine comp_consC ?_;refine comp_consC ?_;refine comp_nil ?_)
  refine W_some ?_
  first
   | exact q [(.B .x5)] (.inl ⟨rfl,.a⟩) (by simp) (by simp) (by simp) (by simp)
   | exact q [(.B .x9)] (.inl ⟨rfl,.b⟩) (by simp) (by simp) (by simp) (by simp)
   | exact q [(.B .x5),(.B .x9)] (.inl ⟨rfl,.ab⟩) (by simp) (by simp) (by simp) (by simp)
   | exact q [(.A .x3)] (.inr ⟨rfl,.a⟩) (by simp) (by simp) (by simp) (by simp)
   | exact q [(.A .x5)] (.inr ⟨rfl,.b⟩) (by simp) (by simp) (by simp) (by simp)
   | exact q [(.A .x3),(.A .x5)] (.inr ⟨rfl,.ab⟩) (by simp) (by simp) (by simp) (by simp)
noncomputable def UI (σ σ':St) (r:Nat) (P:Sm→Prop) (lf lx:List Sm):Prop:=(∀ q,q≠r→σ'.objs q=σ.objs q)∧σ'.next=σ.next∧∃ d,σ'.objs r=some (.dict d)∧UD d lf lx∧Us (.B .x5) (.B .x9) lf∧Us (.A .x3) (.A .x5) lx∧∀ u∈lx,P u
theorem u_loop:∀(os:List Op),(∀ o∈os,o.names P)→∀ {σ:St} {vars:List (Nm×V)} {lf lx:List Sm},UF L r vars→UI σ σ r P lf lx→
  (∀ σ' vars' lf' lx',UF L r vars'→UI σ σ' r P lf' lx'→(∀ u∈lf,u∈lf')→(∀ u∈lx,u∈lx')→(∀ o∈os,o.used lf' lx')→Q .next ⟨vars',none⟩ σ')→
  W3 (forLoop wst (.G .x0) (fun f s=>execCs wst (callF (n+1)) uBody f s) (os.map Op.v) ⟨vars,none⟩ σ) Q
 | [],_,σ,vars,lf,lx,hv,hd,q=>for_nil (q σ vars lf lx hv hd (fun uu h=>h) (fun uu h=>h) (by simp))
 | o::os,hn,σ,vars,lf,lx,hv,hd,q=>by
  have h0:=hn o (List.mem_cons_self ..)
  have hn':=fun o' h'=>hn o' (List.mem_cons_of_mem _ h')
  obtain ⟨-, -,d,hr,ud,uf,ux,hP⟩:=hd
  refine e1a2 ud.getF fun oF gF eF=>?_
  refine e1a2 ud.getX fun oX gX eX=>?_
  have same:∀ {vars':List (Nm×V)},UF L r vars'→o.used lf lx→W3 (forLoop wst (.G .x0) (fun f s=>execCs wst (callF (n+1)) uBody f s) (os.map Op.v) ⟨vars',none⟩ σ) Q:=fun hv' hu=>
   u_loop os hn' hv' ⟨fun uu uu=>rfl,rfl,d,hr,ud,uf,ux,hP⟩ fun σ' v' lf' lx' a b c d e=>q σ' v' lf' lx' a b c d fun o' h'=>by
    rcases List.mem_cons.mp h' with rfl | h'
    ·exact Op.used_mono c d hu
    ·exact e o' h'
  have stepF:∀ {a:V} {l':List Sm} {v:Sm} {z:Int},o=.tf v z→l'≠ []→Us (.B .x5) (.B .x9) l'→v∈l'→(∀ u∈lf,u∈l')→O (setSub σ (.ref r) (.str (.B .x7)) (.lst (l'.map .str))) fun σ'=>W3 (forLoop wst (.G .x0) (fun f s=>execCs wst (callF (n+1)) uBody f s) (os.map Op.v) ⟨u7 L r a (nameV v) (.str (.B .x7)),none⟩ σ') Q:=fun {a l' v z} eo h1 h2 h3 h4=>by
   refine e1a2 (ud.putF h1) fun d' p1 p2=>?_
   refine o_dset hr (by have:=ud.len;simp [plainKey];omega) p1 ?_
   refine u_loop os hn' .s7 ⟨fun uu uu=>rfl,rfl,d',St.set_eq,p2,h2,ux,hP⟩ fun σ' v' lf' lx' a b c d e=>q σ' v' lf' lx' a ⟨fun q hq=>(b.1 q hq).trans (St.set_ne hq),b.2.1,b.2.2⟩ (fun u hu=>c u (h4 u hu)) d fun o' h'=>?_
   rcases List.mem_cons.mp h' with rfl | h'
   ·rw [eo];exact c _ h3
   ·exact e o' h'
  have stepX:∀ {a:V} {l':List Sm} {v:Sm},o=.dO v→l'≠ []→Us (.A .x3) (.A .x5) l'→v∈l'→(∀ u∈lx,u∈l')→(∀ u∈l',P u)→O (setSub σ (.ref r) (.str (.E .x1)) (.lst (l'.map .str))) fun σ'=>W3 (forLoop wst (.G .x0) (fun f s=>execCs wst (callF (n+1)) uBody f s) (os.map Op.v) ⟨u7 L r a (nameV v) (.str (.E .x1)),none⟩ σ') Q:=fun {a l' v} eo h1 h2 h3 h4 h5=>by
   refine e1a2 (ud.putX h1) fun d' p1 p2=>?_
   refine o_dset hr (by have:=ud.len;simp [plainKey];omega) p1 ?_
   refine u_loop os hn' .s7 ⟨fun uu uu=>rfl,rfl,d',St.set_eq,p2,uf,h2,h5⟩ fun σ' v' lf' lx' a b c d e=>q σ' v' lf' lx' a ⟨fun q hq=>(b.1 q hq).trans (St.set_ne hq),b.2.1,b.2.2⟩ c (fun u hu=>d u (h4 u hu)) fun o' h'=>?_
   rcases List.mem_cons.mp h' with rfl | h'
   ·rw [eo];exact d _ h3
   ·exact e o' h'
  have other:dGet (.str o.word) sortsD=some none→dGet (.str o.word) spotsD=some none→o.used lf lx→W3 (forLoop wst (.G .x0) (fun f s=>execCs wst (callF (n+1)) uBody f s) ((o::os).map Op.v) ⟨vars,none⟩ σ) Q:=fun e1 e2 hu=>by
   induction hv
   all_goals
    refine for_cons ?_
    refine O_of (m:=cmpV σ .in_ (.str o.word) sortsV) (congrArg (fun r=>Option.map Option.isSome r) e1) ?_
    refine O_of (m:=cmpV σ .in_ (.str o.word) spotsV) (congrArg (fun r=>Option.map Option.isSome r) e2) ?_
    refine W_some ?_
    first
     | exact same .s6 hu
     | exact same .s7 hu
  cases o with
  | tf f z=>
   induction hv
   all_goals
    refine for_cons ?_
    refine W_some ?_
    refine W_some ?_
    refine W_some ?_
    refine ins_ok (so:=(.B .x7)) (.inl ⟨rfl,h0,uf⟩) hr gF eF fun l' c1 c2 c3 c4 c5=>?_
    exact c1.elim (fun c1=>stepF rfl c2 c1.2 c3 c4) fun c1=>nomatch c1.1
  | dO f=>
   induction hv
   all_goals
    refine for_cons ?_
    refine W_some ?_
    refine W_some ?_
    refine W_some ?_
    refine ins_ok (so:=(.E .x1)) (.inr ⟨rfl,h0.1,ux⟩) hr gX eX fun l' c1 c2 c3 c4 c5=>?_
    exact c1.elim (fun c1=>nomatch c1.1) fun c1=>stepX rfl c2 c1.2 c3 c4 fun u hu=>(c5 u hu).elim (fun e=>e▸h0.2) (hP u)
  | _=>exact other rfl rfl trivial
end
end L
end E
end Mine
end
section
namespace Mine
namespace E
namespace L
section
variable {n:Nat} {σ:St} {K:V→St→Prop} {P:Sm→Prop} {a1 a2:V}
theorem used_names {os:List Op} (hn:∀ o∈os,o.names P) (hl:os.length≤1000000) (q:∀ σ' d lf lx,Fra [] σ σ'→UD d lf lx→Us (.B .x5) (.B .x9) lf→Us (.A .x3) (.A .x5) lx→(∀ u∈lx,P u)→(∀ o∈os,o.used lf lx)→K (.dct d) σ'):W (callF (n+2) (.glob (.K .x7)) [.lst (os.map Op.v)] σ) K:=by
 refine W_def rfl rfl ?_
 refine o_iter (by rw [List.length_map];exact hl) ?_
 refine u_loop (L:=.lst (os.map Op.v)) (r:=σ.next) (P:=P) os hn .s0 ⟨fun uu uu=>rfl,rfl,[],St.new_eq,.e,.e,.e,fun u h=>by cases h⟩ fun σ' vars' lf' lx' hv hi uu uu hu=>?_
 obtain ⟨i1,i2,d,i3,i4,i5,i6,i7⟩:=hi
 have e:K (frz σ' (.ref σ.next)).1 (frz σ' (.ref σ.next)).2:=by
  rw [frz_dict i3]
  refine q _ d lf' lx' ⟨?_,fun r hr uu=>?_⟩ i4 i5 i6 i7 hu
  ·show σ.next≤σ'.next
   rw [i2];exact Nat.le_succ _
  ·have h:r≠σ.next:=Nat.ne_of_lt hr
   exact(St.del_ne h).trans ((i1 r h).trans (St.new_ne h))
 cases hv<;>exact e
theorem res_dict {kvs d:List (V×V)} {so:Sm} (h:dGet (.str so) kvs=some (some (.dct d))) (q:K (.dct d) σ):W (callF (n+4) (.glob (.J .xc)) [shelfV a1 a2,.dct kvs,.str so] σ) K:=by
 refine W_def rfl rfl ?_
 refine get_id h rfl ?_
 refine W_of (fun uu=>rfl) ?_
 exact q
theorem is_form {m:Option M} {r:Option V} {i:UInt8} (q:K (.bool true) σ):W (callF (n+4) (.glob (.I .x6)) [shelfV a1 a2,strm (headV m r) i] σ) K:=by
 refine W_def rfl rfl ?_
 refine W_of (fun uu=>rfl) ?_
 refine get_id (head_sub m r) rfl ?_
 refine W_of (fun uu=>rfl) ?_
 exact q
theorem form_mat {m:Option M} {r:Option V} (q:K (ownM m).v σ):W (callF (n+5) (.glob (.I .x1)) [shelfV a1 a2,headV m r] σ) K:=by
 refine W_def rfl rfl ?_
 cases m with
 | none=>
  refine get_id (head_mat none r) rfl ?_
  refine W_some ?_
  refine m_one ?_
  exact q
 | some m=>
  refine get_id (head_mat (some m) r) rfl ?_
  refine W_of (fun uu=>rfl) ?_
  refine comp_cons (fetch_id rfl ?_)
  refine comp_cons (fetch_id rfl ?_)
  refine comp_cons (fetch_id rfl ?_)
  refine comp_cons (fetch_id rfl ?_)
  refine comp_cons (fetch_id rfl ?_)
  refine comp_cons (fetch_id rfl ?_)
  refine comp_nil ?_
  refine W_some ?_
  refine comp_cons (is_num (.inr rfl) ?_)
  refine comp_cons (is_num (.inr rfl) ?_)
  refine comp_cons (is_num (.inr rfl) ?_)
  refine comp_cons (is_num (.inr rfl) ?_)
  refine comp_cons (is_num (.inr rfl) ?_)
  refine comp_cons (is_num (.inr rfl) ?_)
  refine comp_nil ?_
  refine W_some ?_
  exact from_arr (six m) q
theorem get_ref {kvs:List (V×V)} {f:Sm} {z:Int} {hd:V} {i:UInt8} (h:dGet (.str f) kvs=some (some (refV z))) (hz:(z=11∧a1=strm hd i)∨(z=12∧a2=strm hd i)) (q:K (strm hd i) σ):W (callF (n+2) (.glob (.B .x8)) [shelfV a1 a2,.dct kvs,.str f] σ) K:=by
 refine W_def rfl rfl ?_
 refine W_some ?_
 refine O_of (m:=dGet (.str f) kvs) h ?_
 exact fetch_ref hz q
end
noncomputable abbrev kV (f:Sm):V:=.dct [(.str (.B .xc),nameV f)]
noncomputable abbrev headsL:List (V×V):=[(.str (.B .x5),kV (.B .x5)),(.str (.B .x9),kV (.B .x9))]
noncomputable abbrev fontsD:V:=.dct [(.str (.B .x5),fontV (.A .x3) (.A .x5)),(.str (.B .x9),fontV (.E .x2) (.E .x4))]
noncomputable abbrev foV:V:=.clo .l_1 [((.C .xa),fontsD)]
noncomputable abbrev coV (rows:V):V:=.clo .l_2 [((.H .x7),rows)]
noncomputable abbrev c13 (a1 a2:V) (res:List (V×V)) (L pv rows:V) (dp:Int) (mo:M) (used:List (V×V)) (xo:List (V×V)) (rf rx:Nat):List (Nm×V):=[((.I .x1),shelfV a1 a2),((.H .x4),.dct res),((.G .x1),L),((.G .xb),pv),((.C .x9),foV),((.B .x1),coV rows),((.B .x8),.int dp),((.G .x3),mo.v),((.K .xb),.dct used),((.D .x7),.dct headsL),((.J .xc),.dct xo),((.C .xa),.ref rf),((.C .xc),.ref rx)]
noncomputable def fontsOf (l:List Sm):List (V×V):=l.map fun f=>(.str f,fontOf f)
noncomputable abbrev fBody1:List S:=[.asg (.nm (.D .x6)) (.meth (.loc (.I .x1)) (.D .x3) [(.loc (.D .x7)),(.loc (.L .x6))]),.ife (.cmp .eq (.call (.glob (.I .x9)) [(.loc (.D .x6))]) (.lit (.str (.F .x1)))) [.asg (.sub (.loc (.C .xa)) (.loc (.L .x6))) (.call (.loc (.C .x9)) [(.loc (.I .x1)),(.loc (.D .x6))])] []]
noncomputable abbrev fBody2:List S:=[.asg (.nm (.J .x6)) (.meth (.loc (.I .x1)) (.D .x3) [(.loc (.J .xc)),(.loc (.L .x6))]),.ife (.call (.glob (.I .x6)) [(.loc (.I .x1)),(.loc (.J .x6))]) [.asg (.nm (.D .xc)) (.meth (.loc (.I .x1)) (.D .x3) [(.attr (.loc (.J .x6)) (.D .x6)),(.lit (.str (.C .x6)))]),.asg (.nm (.E .x6)) (.ite_ (.cmp .eq (.call (.glob (.I .x9)) [(.loc (.D .xc))]) (.lit (.str (.F .x1)))) (.loc (.D .xc)) (.loc (.H .x4))),.asg (.nm (.J .x1)) (.tup [(.bin .add (.loc (.B .x8)) (.lit (.int 1))),(.call (.glob (.I .x1)) [(.loc (.I .x1)),(.attr (.loc (.J .x6)) (.D .x6))])]),.asg (.sub (.loc (.C .xc)) (.loc (.L .x6))) (.call (.glob (.K .x5)) [(.loc (.I .x1)),(.loc (.E .x6)),(.call (.loc (.B .x1)) [(.loc (.I .x1)),(.loc (.J .x6))]),(.loc (.J .x1)),(.loc (.C .x9)),(.loc (.B .x1))])] []]
inductive T1:List (Nm×V)→Prop
 | t0:T1 []
 | t1 {a b:V}:T1 [((.L .x6),a),((.D .x6),b)]
section
variable {n:Nat} {σ:St} {K:V→St→Prop} {a1 a2 L pv rows:V} {res used xo:List (V×V)} {dp:Int} {mo:M} {rf rx:Nat} {Q:Fl→Fr→St→Prop}
theorem font_loop {lf:List Sm} (hu:Us (.B .x5) (.B .x9) lf) (hr:σ.objs rf=some (.dict [])) (q:∀ σ' tl,T1 tl→Mod [rf] σ σ'→σ'.objs rf=some (.dict (fontsOf lf))→Q .next ⟨c13 a1 a2 res L pv rows dp mo used xo rf rx++tl,none⟩ σ'):
  W3 (forLoop wst (.L .x6) (fun f s=>execCs wst (callF (n+3)) fBody1 f s) (lf.map .str) ⟨c13 a1 a2 res L pv rows dp mo used xo rf rx,none⟩ σ) Q:=by
 cases hu with
 | e=>exact for_nil (q σ [] .t0 (Mod.refl _ _) hr)
 | a=>
  refine for_cons ?_
  refine get_id (kvs:=headsL) (o:=some (kV (.B .x5))) rfl rfl ?_
  refine W_of (fun uu=>rfl) ?_
  refine W_clo rfl ?_
  refine o_dset hr rfl rfl ?_
  exact for_nil (q _ _ .t1 ((Mod.refl _ _).set m0) St.set_eq)
 | b=>
  refine for_cons ?_
  refine get_id (kvs:=headsL) (o:=some (kV (.B .x9))) rfl rfl ?_
  refine W_of (fun uu=>rfl) ?_
  refine W_clo rfl ?_
  refine o_dset hr rfl rfl ?_
  exact for_nil (q _ _ .t1 ((Mod.refl _ _).set m0) St.set_eq)
 | ab=>
  refine for_cons ?_
  refine get_id (kvs:=headsL) (o:=some (kV (.B .x5))) rfl rfl ?_
  refine W_of (fun uu=>rfl) ?_
  refine W_clo rfl ?_
  refine o_dset hr rfl rfl ?_
  refine for_cons ?_
  refine get_id (kvs:=headsL) (o:=some (kV (.B .x9))) rfl rfl ?_
  refine W_of (fun uu=>rfl) ?_
  refine W_clo rfl ?_
  refine o_dset St.set_eq rfl rfl ?_
  exact for_nil (q _ _ .t1 (((Mod.refl _ _).set m0).set m0) St.set_eq)
end
end L
end E
end Mine
end
section
namespace Mine
namespace E
namespace L
inductive T2:List (Nm×V)→Prop
 | of {l}:T1 l→T2 l
 | t5 {a b c d e:V}:T2 [((.L .x6),a),((.J .x6),b),((.D .xc),c),((.E .x6),d),((.J .x1),e)]
 | t6 {a a' b c d e:V}:T2 [((.L .x6),a),((.D .x6),a'),((.J .x6),b),((.D .xc),c),((.E .x6),d),((.J .x1),e)]
structure SubOK (n:Nat) (a1 a2 rows:V) (res xo:List (V×V)) (dp:Int) (f:Sm) (G:V→Prop) (z:Int) (m:Option M) (rs:Option V) (i:UInt8) (os:List Op):Prop where
 h2:dGet (.str f) xo=some (some (refV z))
 hz:(z=11∧a1=strm (headV m rs) i)∨(z=12∧a2=strm (headV m rs) i)
 hr:∀ v,rs=some v→∃ d,v=.dct d
 hrow:∀ σ:St,subV σ rows (.int (i.toNat:Nat))=some (.lst (os.map Op.v))
 go:∀(σ:St) (K:V→St→Prop),(∀ σ' sv,Fra [] σ σ'→G sv→K sv σ')→W (callF n (.glob (.K .x5)) [shelfV a1 a2,.dct (resOf res rs),.lst (os.map Op.v),.tup [.int (dp + 1),(ownM m).v],foV,coV rows] σ) K
noncomputable def SubE (n:Nat) (a1 a2 rows:V) (res xo:List (V×V)) (dp:Int) (f:Sm) (G:V→Prop):Prop:=∃ z m rs i os,SubOK n a1 a2 rows res xo dp f G z m rs i os
section
variable {n:Nat} {σ:St} {K:V→St→Prop} {a1 a2 L pv rows:V} {res used xo:List (V×V)} {dp:Int} {mo:M} {rf rx:Nat} {Q:Fl→Fr→St→Prop}
set_option maxHeartbeats 1000000 in
theorem form_body {f:Sm} {G:V→Prop} {tl:List (Nm×V)} {kvs:List (V×V)} {kvs':V→List (V×V)} (h:SubE (n+5) a1 a2 rows res xo dp f G) (ht:T2 tl) (hx:σ.objs rx=some (.dict kvs)) (lx:rx < σ.next) (hl:kvs.length≤1000000) (hp:∀ sv,dPut (.str f) sv kvs=some (kvs' sv)) (q:∀ σ' tl' sv,G sv→T2 tl'→Fra [rx] σ σ'→σ'.objs rx=some (.dict (kvs' sv))→Q .next ⟨c13 a1 a2 res L pv rows dp mo used xo rf rx++tl',none⟩ σ'):
  W3 (execCs wst (callF (n+5)) fBody2 ⟨putL (.L .x6) (.str f) (c13 a1 a2 res L pv rows dp mo used xo rf rx++tl),none⟩ σ) Q:=by
 obtain ⟨z,m,rs,i,os,h2,hz,hr,hrow,go⟩:=h
 have fin:∀ {tl':List (Nm×V)} {σ':St} {sv:V},G sv→T2 tl'→Fra [] σ σ'→O (setSub σ' (.ref rx) (.str f) sv) fun σ'=>Q .next ⟨c13 a1 a2 res L pv rows dp mo used xo rf rx++tl',none⟩ σ':=fun {tl' σ' sv} hg ht fr=>by
  have e:=(fr.2 rx lx (by simp)).trans hx
  refine o_dset e (by simp [plainKey];exact hl) (hp sv) ?_
  exact q _ _ sv hg ht ((fr.mono sb0).set (.inl m0)) St.set_eq
 have fin5:∀ {a b c d e:V} {σ':St} {sv:V},G sv→Fra [] σ σ'→O (setSub σ' (.ref rx) (.str f) sv) fun σ'=>Q .next ⟨c13 a1 a2 res L pv rows dp mo used xo rf rx++[((.L .x6),a),((.J .x6),b),((.D .xc),c),((.E .x6),d),((.J .x1),e)],none⟩ σ':=fun hg fr=>fin hg .t5 fr
 have fin6:∀ {a a' b c d e:V} {σ':St} {sv:V},G sv→Fra [] σ σ'→O (setSub σ' (.ref rx) (.str f) sv) fun σ'=>Q .next ⟨c13 a1 a2 res L pv rows dp mo used xo rf rx++[((.L .x6),a),((.D .x6),a'),((.J .x6),b),((.D .xc),c),((.E .x6),d),((.J .x1),e)],none⟩ σ':=fun hg fr=>fin hg .t6 fr
 cases rs with
 | none=>
  rcases ht with ht | _ | _
  ·rcases ht with _ | _
   ·refine ⟨?_⟩
    refine get_ref h2 hz ?_
    refine is_form ?_
    refine get_id (head_res m none) rfl ?_
    refine W_some ?_
    refine form_mat ?_
    refine W_clo rfl ?_
    refine O_of (m:=subV _ rows (.int (i.toNat:Nat))) (hrow _) ?_
    refine go _ _ fun σ' sv fr hg=>?_
    exact fin5 hg fr
   ·refine ⟨?_⟩
    refine get_ref h2 hz ?_
    refine is_form ?_
    refine get_id (head_res m none) rfl ?_
    refine W_some ?_
    refine form_mat ?_
    refine W_clo rfl ?_
    refine O_of (m:=subV _ rows (.int (i.toNat:Nat))) (hrow _) ?_
    refine go _ _ fun σ' sv fr hg=>?_
    exact fin6 hg fr
  ·refine ⟨?_⟩
   refine get_ref h2 hz ?_
   refine is_form ?_
   refine get_id (head_res m none) rfl ?_
   refine W_some ?_
   refine form_mat ?_
   refine W_clo rfl ?_
   refine O_of (m:=subV _ rows (.int (i.toNat:Nat))) (hrow _) ?_
   refine go _ _ fun σ' sv fr hg=>?_
   exact fin5 hg fr
  ·refine ⟨?_⟩
   refine get_ref h2 hz ?_
   refine is_form ?_
   refine get_id (head_res m none) rfl ?_
   refine W_some ?_
   refine form_mat ?_
   refine W_clo rfl ?_
   refine O_of (m:=subV _ rows (.int (i.toNat:Nat))) (hrow _) ?_
   refine go _ _ fun σ' sv fr hg=>?_
   exact fin6 hg fr
 | some v=>
  obtain ⟨d,rfl⟩:=hr v rfl
  rcases ht with ht | _ | _
  ·rcases ht with _ | _
   ·refine ⟨?_⟩
    refine get_ref h2 hz ?_
    refine is_form ?_
    refine get_id (head_res m (some (.dct d))) rfl ?_
    refine W_of (fun uu=>rfl) ?_
    refine form_mat ?_
    refine W_clo rfl ?_
    refine O_of (m:=subV _ rows (.int (i.toNat:Nat))) (hrow _) ?_
    refine go _ _ fun σ' sv fr hg=>?_
    exact fin5 hg fr
   ·refine ⟨?_⟩
    refine get_ref h2 hz ?_
    refine is_form ?_
    refine get_id (head_res m (some (.dct d))) rfl ?_
    refine W_of (fun uu=>rfl) ?_
    refine form_mat ?_
    refine W_clo rfl ?_
    refine O_of (m:=subV _ rows (.int (i.toNat:Nat))) (hrow _) ?_
    refine go _ _ fun σ' sv fr hg=>?_
    exact fin6 hg fr
  ·refine ⟨?_⟩
   refine get_ref h2 hz ?_
   refine is_form ?_
   refine get_id (head_res m (some (.dct d))) rfl ?_
   refine W_of (fun uu=>rfl) ?_
   refine form_mat ?_
   refine W_clo rfl ?_
   refine O_of (m:=subV _ rows (.int (i.toNat:Nat))) (hrow _) ?_
   refine go _ _ fun σ' sv fr hg=>?_
   exact fin5 hg fr
  ·refine ⟨?_⟩
   refine get_ref h2 hz ?_
   refine is_form ?_
   refine get_id (head_res m (some (.dct d))) rfl ?_
   refine W_of (fun uu=>rfl) ?_
   refine form_mat ?_
   refine W_clo rfl ?_
   refine O_of (m:=subV _ rows (.int (i.toNat:Nat))) (hrow _) ?_
   refine go _ _ fun σ' sv fr hg=>?_
   exact fin6 hg fr
noncomputable def formsOf (sv:Sm→V) (l:List Sm):List (V×V):=l.map fun f=>(.str f,sv f)
theorem form_loop {lx:List Sm} {G:Sm→V→Prop} {tl:List (Nm×V)} (hu:Us (.A .x3) (.A .x5) lx) (ht:T1 tl) (hs:∀ u∈lx,SubE (n+5) a1 a2 rows res xo dp u (G u)) (hr:σ.objs rx=some (.dict [])) (ll:rx < σ.next) (q:∀ σ' tl sv,(∀ u∈lx,G u (sv u))→T2 tl→Fra [rx] σ σ'→σ'.objs rx=some (.dict (formsOf sv lx))→Q .next ⟨c13 a1 a2 res L pv rows dp mo used xo rf rx++tl,none⟩ σ'):
  W3 (forLoop wst (.L .x6) (fun f s=>execCs wst (callF (n+5)) fBody2 f s) (lx.map .str) ⟨c13 a1 a2 res L pv rows dp mo used xo rf rx++tl,none⟩ σ) Q:=by
 cases hu with
 | e=>exact for_nil (q σ tl (fun uu=>.none) (by simp) (.of ht) (Fra.refl _ _) hr)
 | a=>
  refine for_consW ?_
  refine form_body (kvs':=fun v=>[(.str (.A .x3),v)]) (hs _ (by simp)) (.of ht) hr ll (by simp) (fun uu=>rfl) fun σ' tl' sv h0 h1 h2 h3=>?_
  exact for_nil (q _ _ (fun uu=>sv) (fun u hu=>by rw [List.mem_singleton] at hu;rw [hu];exact h0) h1 h2 h3)
 | b=>
  refine for_consW ?_
  refine form_body (kvs':=fun v=>[(.str (.A .x5),v)]) (hs _ (by simp)) (.of ht) hr ll (by simp) (fun uu=>rfl) fun σ' tl' sv h0 h1 h2 h3=>?_
  exact for_nil (q _ _ (fun uu=>sv) (fun u hu=>by rw [List.mem_singleton] at hu;rw [hu];exact h0) h1 h2 h3)
 | ab=>
  refine for_consW ?_
  refine form_body (kvs':=fun v=>[(.str (.A .x3),v)]) (hs _ (by simp)) (.of ht) hr ll (by simp) (fun uu=>rfl) fun σ' tl' va h0 h1 h2 h3=>?_
  refine for_consW ?_
  refine form_body (kvs':=fun v=>[(.str (.A .x3),va),(.str (.A .x5),v)]) (hs _ (by simp)) h1 h3 (Nat.lt_of_lt_of_le ll h2.1) (by simp) (fun uu=>rfl) fun σ'' tl'' vb h0' h4 h5 h6=>?_
  exact for_nil (q _ _ (fun f=>match f with | (.A .x3)=>va | _=>vb) (fun u hu=>by
   simp only [List.mem_cons,List.not_mem_nil,or_false] at hu
   rcases hu with rfl | rfl
   ·exact h0
   ·exact h0') h4 (h2.trans h5 fun r hr=>.inl hr) h6)
end
end L
end E
end Mine
end
section
namespace Mine
namespace E
namespace L
section
variable {n:Nat} {σ:St} {K:V→St→Prop} {P:Sm→Prop} {a1 a2 rows:V} {res xo:List (V×V)} {dp:Int} {mo:M} {call:Call}
theorem w_getd {d:List (V×V)} {k u e:V} {o:Option V} (h:dGet k d=some o) (hu:o.getD e=u) (q:K u σ):W (mcallB (.dct d) (.D .x3) [k,e] σ) K:=⟨O_of (m:=dGet k d) h (o_gd rfl (hu.symm▸q))⟩
theorem Us.len {a b:Sm} {l:List Sm} (h:Us a b l):l.length≤2:=by cases h<;>simp
theorem text_sheet {os:List Op} {G:Sm→V→Prop} (hn:∀ o∈os,o.names P) (hl:os.length≤1000000) (hF:dGet (.str (.B .x7)) res=some (some (.dct headsL))) (hX:dGet (.str (.E .x1)) res=some (some (.dct xo))) (hd:dp≤8) (hs:∀ u,P u→SubE (n+5) a1 a2 rows res xo dp u (G u))
  (q:∀ σ' lf lx sv,Fra [] σ σ'→(∀ u∈lx,G u (sv u))→Us (.B .x5) (.B .x9) lf→Us (.A .x3) (.A .x5) lx→(∀ o∈os,o.used lf lx)→K (sheetV (.lst (os.map Op.v)) (fontsOf lf) (formsOf sv lx) mo) σ'):W (callF (n+6) (.glob (.K .x5)) [shelfV a1 a2,.dct res,.lst (os.map Op.v),.tup [.int dp,mo.v],foV,coV rows] σ) K:=by
 refine W_def rfl rfl ?_
 refine o_no (b:=decide ((8:Int) < dp)) (by simp;omega) ?_
 refine used_names hn hl fun σ₁ d lf lx f₁ ud uf ux hP hu=>?_
 refine res_dict hF ?_
 refine res_dict hX ?_
 refine e1a2 ud.getF fun oF gF eF=>?_
 refine e1a2 ud.getX fun oX gX eX=>?_
 refine w_getd gF eF ?_
 refine o_iter (by have:=uf.len;rw [List.length_map];omega) ?_
 have n1:σ₁.next≠σ₁.next + 1:=Nat.ne_of_lt (Nat.lt_succ_self _)
 refine font_loop (n:=n + 2) (rf:=σ₁.next) (rx:=σ₁.next + 1) uf ((St.new_ne (by exact n1)).trans St.new_eq) fun σ₂ tl ht m₂ e₂=>?_
 have m2:=m₂.1
 have m2':σ₂.next=σ₁.next + 2:=m2
 have ex:σ₂.objs (σ₁.next + 1)=some (.dict []):=(m₂.2 _ (by simp)).trans St.new_eq
 have f₂:Fra [] σ₁ σ₂:=⟨by omega,fun r hr uu=>(m₂.2 r (by simp;omega)).trans ((St.new_ne (by show r≠σ₁.next + 1;omega)).trans (St.new_ne (Nat.ne_of_lt hr)))⟩
 have fin:∀ {σ₃:St} {sv:Sm→V},(∀ u∈lx,G u (sv u))→Fra [σ₁.next + 1] σ₂ σ₃→σ₃.objs (σ₁.next + 1)=some (.dict (formsOf sv lx))→W (callF (n+5) (.glob (.E .x6)) [.lst (os.map Op.v),(frz σ₃ (.ref σ₁.next)).1,(frz (frz σ₃ (.ref σ₁.next)).2 (.ref (σ₁.next + 1))).1,mo.v] (frz (frz σ₃ (.ref σ₁.next)).2 (.ref (σ₁.next + 1))).2) K:=fun {σ₃ sv} hg f₃ e₃=>by
  have e₄:σ₃.objs σ₁.next=some (.dict (fontsOf lf)):=(f₃.2 _ (by omega) (by simp)).trans e₂
  rw [frz_dict e₄]
  dsimp only
  rw [frz_dict ((St.del_ne n1.symm).trans e₃)]
  refine W_of (fun uu=>rfl) (q _ lf lx sv ?_ hg uf ux hu)
  refine f₁.trans ((f₂.trans f₃ fun r hr=>.inr (by simp at hr;omega)) |>.del (.inr (Nat.le_refl _)) |>.del (.inr (by omega))) fun r hr=>by cases hr
 rcases ht with _ | _
 ·refine w_getd gX eX ?_
  refine o_iter (by have:=ux.len;rw [List.length_map];omega) ?_
  refine form_loop (n:=n) (G:=G) (rf:=σ₁.next) (rx:=σ₁.next + 1) ux .t0 (fun u h=>hs u (hP u h)) ex (by omega) fun σ₃ tl' sv hg ht' f₃ e₃=>?_
  rcases ht' with ht' | _ | _
  ·rcases ht' with _ | _
   ·exact fin hg f₃ e₃
   ·exact fin hg f₃ e₃
  ·exact fin hg f₃ e₃
  ·exact fin hg f₃ e₃
 ·refine w_getd gX eX ?_
  refine o_iter (by have:=ux.len;rw [List.length_map];omega) ?_
  refine form_loop (n:=n) (G:=G) (rf:=σ₁.next) (rx:=σ₁.next + 1) ux .t1 (fun u h=>hs u (hP u h)) ex (by omega) fun σ₃ tl' sv hg ht' f₃ e₃=>?_
  rcases ht' with ht' | _ | _
  ·rcases ht' with _ | _
   ·exact fin hg f₃ e₃
   ·exact fin hg f₃ e₃
  ·exact fin hg f₃ e₃
  ·exact fin hg f₃ e₃
end
end L
end E
end Mine
end
section
namespace Mine
namespace E
namespace L
theorem upto (m:Nat) {P:Int→Prop} (h:∀ k:Nat,k < m→P k) {d:Int} (h0:0≤d) (h1:d < m):P d:=by
 obtain ⟨k,rfl⟩:=Int.eq_ofNat_of_zero_le h0
 exact h k (Int.ofNat_lt.mp h1)
noncomputable def Tape (σ:St) (t k:Nat):Prop:=∃ cells:List Int,0 < cells.length∧cells.length≤63∧σ.objs t=some (.list [.lst (cells.map .int),.int (k:Nat)])
section
variable {n:Nat} {σ:St} {K:V→St→Prop} {t k:Nat} {r:Nat} {vs:List V}
theorem o_lset {j q:Nat} {v:V} (h:σ.objs r=some (.list vs)) (hi:idx? (j:Nat) vs.length=some q) {K:St→Prop} (k:K (σ.set r (.list (vs.set q v)))):O (setSub σ (.ref r) (.int (j:Nat)) v) K:=O_of (by
 show (σ.objs r).bind _=_
 rw [h];exact(if_pos (e:=none) (Int.natCast_nonneg j)).trans (congrArg (fun x=>x.map fun q=>σ.set r (.list (vs.set q v))) hi)) k
theorem o_mod {a b:Int} (h:(b !=0)=true) {K:V→Prop} (k:K (.int (a.fmod b))):O (binV .mod (.int a) (.int b)) K:=O_of (if_pos h) k
theorem o_fdiv {a b:Int} (h:(b !=0&&decide (b.natAbs < 1000000))=true) {K:V→Prop} (k:K (.int (a.fdiv b))):O (binV .fdiv (.int a) (.int b)) K:=O_of (if_pos h) k
theorem o_lsub {i:Int} {v:V} {q:Nat} (hi:idx? i vs.length=some q) (hv:vs[q]?=some v) {K:V→Prop} (k:K v):O (subV σ (.lst vs) (.int i)) K:=O_of (by
 show (idx? i vs.length).bind (fun j=>vs[j]?)=_
 rw [hi];exact hv) k
theorem idx_ok {i:Int} {L:Nat} (h0:0≤i) (h1:i < L) (hL:L≤1000000):idx? i L=some i.toNat:=by
 unfold idx?
 rw [if_pos hL]
 unfold PySem.seqIndex?
 have e:(if i < 0 then i + (L:Int) else i)=i:=if_neg (by omega)
 dsimp only
 rw [e]
 simp [h0,h1]
theorem draw {lim:Int} (hT:Tape σ t k) (hk:k≤5000) (hl:0 < lim) (q:∀ σ' d,0≤d→d < lim→Tape σ' t (k+1)→Mod [t] σ σ'→K (.int d) σ'):W (callF (n+1) (.glob (.F .x8)) [.ref t,.int lim] σ) K:=by
 refine e1a3 hT fun cells c0 c63 h=>?_
 have cl:(cells.map V.int).length=cells.length:=List.length_map ..
 have hb:((((cells.map V.int).length:Nat):Int) !=0)=true:=by rw [cl];simp;intro e;simp [e] at c0
 have hm0:0≤((k:Nat):Int).fmod (((cells.map V.int).length:Nat):Int):=Int.fmod_nonneg (by omega) (by omega)
 have hm1:((k:Nat):Int).fmod (((cells.map V.int).length:Nat):Int) < (((cells.map V.int).length:Nat):Int):=Int.fmod_lt_of_pos _ (by rw [cl];omega)
 have hi:=idx_ok hm0 hm1 (by rw [cl];omega)
 obtain ⟨c,hc⟩:∃ c:Int,(cells.map V.int)[(((k:Nat):Int).fmod (((cells.map V.int).length:Nat):Int)).toNat]?=some (.int c):=by
  have:(((k:Nat):Int).fmod (((cells.map V.int).length:Nat):Int)).toNat < cells.length:=by omega
  exact⟨cells[(((k:Nat):Int).fmod (((cells.map V.int).length:Nat):Int)).toNat],by rw [List.getElem?_map,List.getElem?_eq_getElem this];rfl⟩
 refine W_def rfl rfl ?_
 refine o_seq h ?_
 refine o_lset (j:=1) h (q:=1) rfl ?_
 refine w_lenl (by rw [cl];omega) ?_
 refine o_mod hb ?_
 refine o_lsub hi hc ?_
 refine w_lenl (by rw [cl];omega) ?_
 refine o_fdiv (by rw [hb];simp;omega) ?_
 refine o_mul (or_l ?_) ?_
 ·rw [Int.fdiv_eq_ediv_of_nonneg _ (Int.natCast_nonneg _),← Int.natCast_ediv]
  unfold smallI
  have:=Nat.div_le_self k (cells.map V.int).length
  rw [Int.natAbs_natCast]
  simp only [decide_eq_true_eq]
  omega
 refine o_mod (by simp;omega) ?_
 refine q _ _ (Int.fmod_nonneg_of_pos _ hl) (Int.fmod_lt_of_pos _ hl) ⟨cells,c0,c63,?_⟩ ((Mod.refl _ σ).set m0)
 rw [St.set_eq]
 simp
end
end L
end E
end Mine
end
section
namespace Mine
namespace E
namespace L
noncomputable abbrev Nine (a:Int):Prop:= -9≤a∧a≤9
noncomputable abbrev Two (a:Int):Prop:= -2≤a∧a≤2
structure M.Lin (m:M):Prop where
 a:Two m.a
 b:Two m.b
 c:Two m.c
 d:Two m.d
 e:Nine m.e
 f:Nine m.f
noncomputable abbrev Oct (o:List UInt8):Prop:=(∀ c∈o,c=65∨c=66)∧o.length≤2
inductive Setting:Op→Prop
 | tl {l}:Nine l→Setting (.tl l)
 | tf {f z}:(f=(.B .x5)∨f=(.B .x9))→Nine z→Setting (.tf f z)
inductive Deed:Op→Prop
 | td {x y}:Nine x→Nine y→Deed (.td x y)
 | tD {x y}:Nine x→Nine y→Deed (.tD x y)
 | ts:Deed .ts
 | tm {m}:m.Lin→Deed (.tm m)
 | tj {o}:Oct o→Deed (.tj o)
 | qt {o}:Oct o→Deed (.qt o)
 | tJ {o o'}:Oct o→Oct o'→Deed (.tJ o o')
 | dq {o}:Oct o→Deed (.dq o)
 | set {o}:Setting o→Deed o
theorem two_i {a:Int} (h:(decide (-2≤a)&&decide (a≤2))=true):Two a:=by simpa using h
theorem oct_a:Oct [65]:=⟨by simp,by simp⟩
theorem oct_b:Oct [66]:=⟨by simp,by simp⟩
theorem oct_ab:Oct [65,66]:=⟨by simp,by simp⟩
theorem oct_e:Oct []:=⟨by simp,by simp⟩
section
variable {n:Nat} {σ:St} {K:V→St→Prop} {t k:Nat}
theorem l_pair (hT:Tape σ t k) (hk:k≤4000) (q:∀ σ' a b,Nine a→Nine b→Tape σ' t (k+2)→Mod [t] σ σ'→K (.lst [.int a,.int b]) σ'):W (callF (n+2) (.glob (.F .xa)) [.ref t] σ) K:=by
 refine W_def rfl rfl ?_
 refine draw hT (by omega) (by decide) fun σ₁ a a0 a1 h₁ m₁=>?_
 refine draw h₁ (by omega) (by decide) fun σ₂ b b0 b1 h₂ m₂=>?_
 exact q _ _ _ ⟨by omega,by omega⟩ ⟨by omega,by omega⟩ h₂ (m₁.trans m₂)
theorem four {d:Int} (h0:0≤d) (h1:d < 4):d=0∨d=1∨d=2∨d=3:=upto 4 (P:=fun d=>d=0∨d=1∨d=2∨d=3) (by decide) h0 h1
theorem l_six (hT:Tape σ t k) (hk:k≤3000) (q:∀ σ' (m:M),m.Lin→Tape σ' t (k+3)→Mod [t] σ σ'→K (.lst m.is) σ'):W (callF (n+3) (.glob (.F .xc)) [.ref t] σ) K:=by
 refine W_def rfl rfl ?_
 refine draw hT (by omega) (by decide) fun σ₁ d d0 d1 h₁ m₁=>?_
 rcases four d0 d1 with rfl | rfl | rfl | rfl
 ·refine W_some ?_
  refine l_pair h₁ (by omega) fun σ₂ x y hx hy h₂ m₂=>?_
  exact q _ ⟨1,0,0,1,x,y⟩ ⟨two_i rfl,two_i rfl,two_i rfl,two_i rfl,hx,hy⟩ h₂ (m₁.trans m₂)
 ·refine W_some ?_
  refine l_pair h₁ (by omega) fun σ₂ x y hx hy h₂ m₂=>?_
  exact q _ ⟨2,0,0,1,x,y⟩ ⟨two_i rfl,two_i rfl,two_i rfl,two_i rfl,hx,hy⟩ h₂ (m₁.trans m₂)
 ·refine W_some ?_
  refine l_pair h₁ (by omega) fun σ₂ x y hx hy h₂ m₂=>?_
  exact q _ ⟨0,1, -1,0,x,y⟩ ⟨two_i rfl,two_i rfl,two_i rfl,two_i rfl,hx,hy⟩ h₂ (m₁.trans m₂)
 ·refine W_some ?_
  refine l_pair h₁ (by omega) fun σ₂ x y hx hy h₂ m₂=>?_
  exact q _ ⟨1,1,0, -1,x,y⟩ ⟨two_i rfl,two_i rfl,two_i rfl,two_i rfl,hx,hy⟩ h₂ (m₁.trans m₂)
theorem l_string (hT:Tape σ t k) (hk:k≤3000) (q:∀ σ' o,Oct o→Tape σ' t (k+1)→Mod [t] σ σ'→K (strV o) σ'):W (callF (n+2) (.glob (.G .x0)) [.ref t] σ) K:=by
 refine W_def rfl rfl ?_
 refine draw hT (by omega) (by decide) fun σ₁ d d0 d1 h₁ m₁=>?_
 rcases four d0 d1 with rfl | rfl | rfl | rfl
 ·exact W_of (fun uu=>rfl) (q _ [65] oct_a h₁ m₁)
 ·exact W_of (fun uu=>rfl) (q _ [66] oct_b h₁ m₁)
 ·exact W_of (fun uu=>rfl) (q _ [65,66] oct_ab h₁ m₁)
 ·exact W_of (fun uu=>rfl) (q _ [] oct_e h₁ m₁)
theorem l_setting (hT:Tape σ t k) (hk:k≤3000) (q:∀ σ' o k',Setting o→k'≤k + 3→Tape σ' t k'→Mod [t] σ σ'→K o.v σ'):W (callF (n+2) (.glob (.F .xb)) [.ref t] σ) K:=by
 refine W_def rfl rfl ?_
 refine draw hT (by omega) (by decide) fun σ₁ d d0 d1 h₁ m₁=>?_
 rcases (by omega:d=0∨d=1) with rfl | rfl
 ·refine draw h₁ (by omega) (by decide) fun σ₂ l l0 l1 h₂ m₂=>?_
  exact W_of (fun uu=>rfl) (q _ (.tl (l - 6)) _ (.tl ⟨by omega,by omega⟩) (Nat.le_of_lt (Nat.lt_succ_self (k + 1 + 1))) h₂ (m₁.trans m₂))
 ·refine draw h₁ (by omega) (by decide) fun σ₂ d d0 d1 h₂ m₂=>?_
  rcases (by omega:d=0∨d=1) with rfl | rfl
  ·refine W_of (v:=nameV (.B .x5)) (fun uu=>rfl) ?_
   refine draw h₂ (by omega) (by decide) fun σ₃ z z0 z1 h₃ m₃=>?_
   exact W_of (fun uu=>rfl) (q _ (.tf (.B .x5) (z - 4)) _ (.tf (.inl rfl) ⟨by omega,by omega⟩) (Nat.le_refl _) h₃ ((m₁.trans m₂).trans m₃))
  ·refine W_of (v:=nameV (.B .x9)) (fun uu=>rfl) ?_
   refine draw h₂ (by omega) (by decide) fun σ₃ z z0 z1 h₃ m₃=>?_
   exact W_of (fun uu=>rfl) (q _ (.tf (.B .x9) (z - 4)) _ (.tf (.inr rfl) ⟨by omega,by omega⟩) (Nat.le_refl _) h₃ ((m₁.trans m₂).trans m₃))
theorem l_deed (hT:Tape σ t k) (hk:k≤2000) (q:∀ σ' o k',Deed o→k'≤k + 4→Tape σ' t k'→Mod [t] σ σ'→K o.v σ'):W (callF (n+4) (.glob (.F .x7)) [.ref t] σ) K:=by
 refine W_def rfl rfl ?_
 refine draw hT (by omega) (by decide) fun σ₁ d d0 d1 h₁ m₁=>?_
 rcases (upto 9 (P:=fun d=>d=0∨d=1∨d=2∨d=3∨d=4∨d=5∨d=6∨d=7∨d=8) (by decide) d0 d1) with rfl | rfl | rfl | rfl | rfl | rfl | rfl | rfl | rfl
 ·refine l_pair h₁ (by omega) fun σ₂ x y hx hy h₂ m₂=>?_
  exact W_of (fun uu=>rfl) (q _ (.td x y) _ (.td hx hy) (by omega) h₂ (m₁.trans m₂))
 ·refine l_pair h₁ (by omega) fun σ₂ x y hx hy h₂ m₂=>?_
  exact W_of (fun uu=>rfl) (q _ (.tD x y) _ (.tD hx hy) (by omega) h₂ (m₁.trans m₂))
 ·exact W_of (fun uu=>rfl) (q _ .ts _ .ts (by omega) h₁ m₁)
 ·refine l_six h₁ (by omega) fun σ₂ m hm h₂ m₂=>?_
  exact W_of (fun uu=>rfl) (q _ (.tm m) _ (.tm hm) (Nat.le_refl _) h₂ (m₁.trans m₂))
 ·refine l_string h₁ (by omega) fun σ₂ o ho h₂ m₂=>?_
  exact W_of (fun uu=>rfl) (q _ (.tj o) _ (.tj ho) (by omega) h₂ (m₁.trans m₂))
 ·refine l_string h₁ (by omega) fun σ₂ o ho h₂ m₂=>?_
  refine l_string h₂ (by omega) fun σ₃ o' ho' h₃ m₃=>?_
  exact W_of (fun uu=>rfl) (q _ (.tJ o o') _ (.tJ ho ho') (by omega) h₃ ((m₁.trans m₂).trans m₃))
 ·refine l_string h₁ (by omega) fun σ₂ o ho h₂ m₂=>?_
  exact W_of (fun uu=>rfl) (q _ (.qt o) _ (.qt ho) (by omega) h₂ (m₁.trans m₂))
 ·refine l_string h₁ (by omega) fun σ₂ o ho h₂ m₂=>?_
  exact W_of (fun uu=>rfl) (q _ (.dq o) _ (.dq ho) (by omega) h₂ (m₁.trans m₂))
 ·exact l_setting h₁ (by omega) fun σ₂ o k' ho hk' h₂ m₂=>q _ _ _ (.set ho) (by assumption) h₂ (m₁.trans m₂)
end
end L
end E
end Mine
end
section
namespace Mine
namespace E
namespace L
inductive Turn (nms:List Sm):Int→Int→List Op→Prop
 | txt {h l}:l.length≤3→(∀ o∈l,Deed o)→Turn nms h h (.bt::(l++[.et]))
 | q {h}:Turn nms h (h + 1) [.q]
 | Q {h}:0 < h→Turn nms h (h - 1) [.Q]
 | cm {h m}:m.Lin→Turn nms h h [.cm m]
 | set {h o}:Setting o→Turn nms h h [o]
 | dO {h f}:f∈nms→Turn nms h h [.dO f]
 | no {h}:Turn nms h h []
inductive Cont (nms:List Sm):Nat→Int→List Op→Prop
 | nil:Cont nms 0 0 []
 | snoc {k h h' l l'}:Cont nms k h l→Turn nms h h' l'→Cont nms (k + 1) h' (l++l')
inductive Names:Sm→List Sm→Prop
 | e:Names (.A .x0) []
 | a:Names (.A .x3) [(.A .x3)]
 | b:Names (.A .x5) [(.A .x5)]
 | ab:Names (.A .x4) [(.A .x3),(.A .x5)]
noncomputable abbrev c5 (t r:Nat) (sm:Sm) (mo:V) (i:Int):List (Nm×V):=[((.J .xa),.ref t),((.I .x8),.str sm),((.E .xc),mo),((.D .x9),.int i),((.D .x0),.ref r)]
inductive CF (t r:Nat) (sm:Sm) (mo:V):Int→List (Nm×V)→Prop
 | c5 {i}:CF t r sm mo i (c5 t r sm mo i)
 | c7 {i a b}:CF t r sm mo i (c5 t r sm mo i++[((.K .x5),a),((.L .x2),b)])
noncomputable abbrev cBody2:List S:=[.ife (.cmp .lt (.loc (.L .x2)) (.lit (.int 3))) [.expr (.meth (.loc (.D .x0)) (.A .x2) [(.call (.glob (.C .x6)) [(.lit (.str (.A .xa))),(.list false [])])]),.expr (.meth (.loc (.D .x0)) (.C .x0) [(.comp (.call (.glob (.F .x7)) [(.loc (.J .xa))]) (.B .x3) (.call (.glob (.J .xb)) [(.call (.glob (.F .x8)) [(.loc (.J .xa)),(.lit (.int 4))])]) none)]),.expr (.meth (.loc (.D .x0)) (.A .x2) [(.call (.glob (.C .x6)) [(.lit (.str (.B .x3))),(.list false [])])])] [.ife (.cmp .eq (.loc (.L .x2)) (.lit (.int 3))) [.expr (.meth (.loc (.D .x0)) (.A .x2) [(.call (.glob (.C .x6)) [(.lit (.str (.G .xa))),(.list false [])])]),.asg (.nm (.D .x9)) (.bin .add (.loc (.D .x9)) (.lit (.int 1)))] [.ife (.and_ [(.cmp .eq (.loc (.L .x2)) (.lit (.int 4))),(.cmp .gt (.loc (.D .x9)) (.lit (.int 0)))]) [.expr (.meth (.loc (.D .x0)) (.A .x2) [(.call (.glob (.C .x6)) [(.lit (.str (.C .x4))),(.list false [])])]),.asg (.nm (.D .x9)) (.bin .sub (.loc (.D .x9)) (.lit (.int 1)))] [.ife (.cmp .eq (.loc (.L .x2)) (.lit (.int 5))) [.expr (.meth (.loc (.D .x0)) (.A .x2) [(.call (.glob (.C .x6)) [(.lit (.str (.E .x8))),(.call (.glob (.F .xc)) [(.loc (.J .xa))])])])] [.ife (.cmp .eq (.loc (.L .x2)) (.lit (.int 6))) [.expr (.meth (.loc (.D .x0)) (.A .x2) [(.call (.glob (.F .xb)) [(.loc (.J .xa))])])] [.ife (.cmp .ne (.loc (.I .x8)) (.lit (.str (.A .x0)))) [.expr (.meth (.loc (.D .x0)) (.A .x2) [(.call (.glob (.C .x6)) [(.lit (.str (.B .x2))),(.list false [(.call (.glob (.C .x4)) [(.sub (.loc (.I .x8)) (.call (.glob (.F .x8)) [(.loc (.J .xa)),(.call (.glob (.I .xc)) [(.loc (.I .x8))])]))])])])])] []]]]]]]
noncomputable abbrev cBody:List S:=.asg (.nm (.L .x2)) (.call (.glob (.F .x8)) [(.loc (.J .xa)),(.lit (.int 8))])::cBody2
theorem get_put_ne {n m:Nm} {v:V} (h:n≠m):∀ {l:List (Nm×V)},getL? n (putL m v l)=getL? n l
 | []=>if_neg h.symm
 | (a,w)::r=>by
  unfold putL
  split
  ·rename_i e
   subst e
   exact(if_neg h.symm).trans (if_neg h.symm).symm
  ·unfold getL?
   rw [get_put_ne h]
section
variable {n:Nat} {σ:St} {K:V→St→Prop} {t r k:Nat} {Q:Fl→Fr→St→Prop} {sm:Sm} {mo:V} {i:Int} {nms:List Sm}
theorem Tape.set {o:MObj} (h:Tape σ t k) (ne:t≠r):Tape (σ.set r o) t k:=by
 refine e1a3 h fun c a b e=>?_
 exact⟨c,a,b,(St.set_ne ne).trans e⟩
theorem deeds {fr:Fr}:∀(vs:List V) {σ:St} {k:Nat} {K:List V→St→Prop},Tape σ t k→k + 4 * vs.length≤2000→getL? (.J .xa) fr.vars=some (.ref t)→(∀ σ' (l:List Op) k',l.length=vs.length→(∀ o∈l,Deed o)→k'≤k + 4 * vs.length→Tape σ' t k'→Mod [t] σ σ'→K (l.map Op.v) σ')→
  WL (compLoop wst (.B .x3) .none (fun f s=>evalC wst (callF (n+4)) (.call (.glob (.F .x7)) [(.loc (.J .xa))]) f s) fr vs σ) K
 | [],σ,k,K,hT,hk,hg,q=>comp_nil (q σ [] k rfl (by simp) (by simp) hT (Mod.refl _ _))
 | v::vs,σ,k,K,hT,hk,hg,q=>by
  rw [List.length_cons] at hk
  refine comp_cons ?_
  have e:getL? (.J .xa) (fr.set (.B .x3) v).vars=some (.ref t):=by
   show getL? (.J .xa) (putL (.B .x3) v fr.vars)=_
   rw [get_put_ne (by decide)];exact hg
  refine O_of e ?_
  refine l_deed hT (by omega) fun σ₁ o k₁ ho hk₁ h₁ m₁=>?_
  refine deeds vs h₁ (by omega) hg fun σ₂ l k₂ hl hd hk₂ h₂ m₂=>?_
  refine q σ₂ (o::l) k₂ (by simp [hl]) (fun u hu=>?_) (by rw [List.length_cons];omega) h₂ (m₁.trans m₂)
  rcases List.mem_cons.mp hu with rfl | hu
  ·exact ho
  ·exact hd u hu
theorem rng_iter {e:Int} (h:0≤e) (hv:((List.range e.toNat).map fun(i:Nat)=>V.int i).length≤3):asIter (.rng e)=some ((List.range e.toNat).map fun(i:Nat)=>V.int i):=by
 show (if 0≤e then some ((List.range e.toNat).map fun(i:Nat)=>V.int i) else none).bind few=_
 rw [if_pos h];exact if_pos (Nat.le_trans hv (by decide))
theorem w_range {e:Int} (h:e < 2 ^ 62) (k:K (.rng e) σ):W (bcall (.J .xb) [.int e] σ) K:=⟨o_gd (decide_eq_true h) k⟩
theorem w_apps {ops:List Op} {o:Op} (h:σ.objs r=some (.list (ops.map Op.v))) (hl:ops.length≤1000) (q:(σ.set r (.list ((ops++[o]).map Op.v))).objs r=some (.list ((ops++[o]).map Op.v))→K .none (σ.set r (.list ((ops++[o]).map Op.v)))):W (mcallB (.ref r) (.A .x2) [o.v] σ) K:=by
 refine w_app h (by rw [List.length_map];omega) ?_
 have e:ops.map Op.v++[o.v]=(ops++[o]).map Op.v:=by simp
 rw [e]
 exact q St.set_eq
noncomputable abbrev fr7 (t r:Nat) (sm:Sm) (mo:V) (i:Int) (v:V) (d:Int):List (Nm×V):=c5 t r sm mo i++[((.K .x5),v),((.L .x2),.int d)]
theorem c_way {v:V} {d:Int} {ops:List Op} (hn:Names sm nms) (d0:0≤d) (d1:d < 8) (hT:Tape σ t k) (ne:t≠r) (hk:k≤1800) (hr:σ.objs r=some (.list (ops.map Op.v))) (hl:ops.length≤100)
  (q:∀ σ' vars' i' l k',CF t r sm mo i' vars'→Turn nms i i' l→k'≤k + 13→Tape σ' t k'→σ'.objs r=some (.list ((ops++l).map Op.v))→Mod [t,r] σ σ'→Q .next ⟨vars',none⟩ σ'):W3 (execCs wst (callF (n+5)) cBody2 ⟨fr7 t r sm mo i v d,none⟩ σ) Q:=by
 have m2:∀ {σ σ':St},Mod [t] σ σ'→Mod [t,r] σ σ':=fun m=>⟨m.1,fun x hx=>m.2 x (by simp at hx ⊢;exact hx.1)⟩
 have keep:∀ {σ σ':St} {l:List V},Mod [t] σ σ'→σ.objs r=some (.list l)→σ'.objs r=some (.list l):=fun m h=>(m.2 r (by simp;exact ne.symm)).trans h
 refine ⟨?_⟩
 by_cases d3:d < 3
 ·refine o_yes (b:=decide (d < 3)) (by simpa using d3) ?_
  refine o_lapp hr ?_
  refine W_of (v:=Op.bt.v) (fun uu=>rfl) ?_
  refine w_apps hr (by omega) fun h₁=>?_
  have T₁:=hT.set (o:=.list ((ops++[Op.bt]).map Op.v)) ne
  refine o_lext h₁ ?_
  refine draw T₁ (by omega) (by decide) fun σ₂ e e0 e1 T₂ m₂=>?_
  have h₂:=keep m₂ h₁
  have mz:Mod [t,r] σ (σ.set r (.list ((ops++[Op.bt]).map Op.v))):=(Mod.refl _ _).set (mS m0)
  refine w_range (Int.lt_trans e1 (by decide)) ?_
  have hv:((List.range e.toNat).map fun(i:Nat)=>V.int i).length≤3:=by rw [List.length_map,List.length_range];omega
  refine O_of (m:=asIter (.rng e)) (rng_iter e0 hv) ?_
  refine deeds _ T₂ (by omega) rfl fun σ₃ l k₃ l3 hd hk₃ T₃ m₃=>?_
  have l3:l.length≤3:=Nat.le_trans (Nat.le_of_eq l3) hv
  have h₃:=keep m₃ h₂
  refine w_ext h₃ (by simp;omega) ?_
  refine o_lapp St.set_eq ?_
  refine W_of (v:=Op.et.v) (fun uu=>rfl) ?_
  refine w_app St.set_eq (by simp;omega) ?_
  refine q _ _ _ _ k₃ .c7 (.txt (l:=l) l3 hd) (by omega) ((T₃.set ne).set ne) ?_ (((mz.trans ((m2 m₂).trans (m2 m₃))).set (mS m0)).set (mS m0))
  rw [St.set_eq]
  simp
 ·refine o_no (b:=decide (d < 3)) (by simpa using d3) ?_
  have qno:∀ {i':Int} {σ':St} {l:List Op} {k':Nat} {a:V} {b:V},Turn nms i i' l→k'≤k + 13→Tape σ' t k'→σ'.objs r=some (.list ((ops++l).map Op.v))→Mod [t,r] σ σ'→Q .next ⟨c5 t r sm mo i'++[((.K .x5),a),((.L .x2),b)],none⟩ σ':=fun h1 h2 h3 h4 h5=>q _ _ _ _ _ .c7 h1 h2 h3 h4 h5
  have s0:Mod [t,r] σ σ:=Mod.refl _ _
  have fin:∀ {a b:V} {f:Sm} {σ₂:St},Tape σ₂ t (k+1)→Mod [t] σ σ₂→f∈nms→W (mcallB (.ref r) (.A .x2) [(Op.dO f).v] σ₂) fun uu σ=>Q .next ⟨c5 t r sm mo i++[((.K .x5),a),((.L .x2),b)],none⟩ σ:=fun T₂ m₂ hf=>
   w_apps (keep m₂ hr) (Nat.le_trans hl (by decide)) fun h₃=>qno (.dO hf) (Nat.add_le_add_left (by decide) k) (T₂.set ne) h₃ ((m2 m₂).set (mS m0))
  have goDo:∀ {a b:V},O (cmpV σ .ne (.str sm) (.str (.A .x0))) fun c=>(match c with
    | true=>evalC wst (callF (n+5)) (.meth (.loc (.D .x0)) (.A .x2) [(.call (.glob (.C .x6)) [(.lit (.str (.B .x2))),(.list false [(.call (.glob (.C .x4)) [(.sub (.loc (.I .x8)) (.call (.glob (.F .x8)) [(.loc (.J .xa)),(.call (.glob (.I .xc)) [(.loc (.I .x8))])]))])])])]) ⟨c5 t r sm mo i++[((.K .x5),a),((.L .x2),b)],none⟩ σ fun uu σ=>Q .next ⟨c5 t r sm mo i++[((.K .x5),a),((.L .x2),b)],none⟩ σ
    | false=>Q .next ⟨c5 t r sm mo i++[((.K .x5),a),((.L .x2),b)],none⟩ σ):=fun {a b}=>by
   cases hn with
   | e=>exact qno .no (Nat.le_add_right k 13) hT (by rw [List.append_nil];exact hr) s0
   | a=>
    refine o_lapp hr ?_
    refine W_some ?_
    refine draw hT (by omega) (by decide) fun σ₂ e e0 e1 T₂ m₂=>?_
    obtain rfl:e=0:=Int.le_antisymm (Int.le_of_lt_add_one e1) e0
    exact W_of (v:=nameV (.A .x3)) (fun uu=>rfl) (W_of (v:=(Op.dO (.A .x3)).v) (fun uu=>rfl) (fin T₂ m₂ m0))
   | b=>
    refine o_lapp hr ?_
    refine W_some ?_
    refine draw hT (by omega) (by decide) fun σ₂ e e0 e1 T₂ m₂=>?_
    obtain rfl:e=0:=Int.le_antisymm (Int.le_of_lt_add_one e1) e0
    exact W_of (v:=nameV (.A .x5)) (fun uu=>rfl) (W_of (v:=(Op.dO (.A .x5)).v) (fun uu=>rfl) (fin T₂ m₂ m0))
   | ab=>
    refine o_lapp hr ?_
    refine W_some ?_
    refine draw hT (by omega) (by decide) fun σ₂ e e0 e1 T₂ m₂=>?_
    rcases Int.lt_or_le e 1 with h | h
    ·obtain rfl:e=0:=Int.le_antisymm (Int.le_of_lt_add_one h) e0
     exact W_of (v:=nameV (.A .x3)) (fun uu=>rfl) (W_of (v:=(Op.dO (.A .x3)).v) (fun uu=>rfl) (fin T₂ m₂ m0))
    ·obtain rfl:e=1:=Int.le_antisymm (Int.le_of_lt_add_one e1) h
     exact W_of (v:=nameV (.A .x5)) (fun uu=>rfl) (W_of (v:=(Op.dO (.A .x5)).v) (fun uu=>rfl) (fin T₂ m₂ (mS m0)))
  rcases (upto 8 (P:=fun d=>¬d < 3→d=3∨d=4∨d=5∨d=6∨d=7) (by decide) d0 d1 d3) with rfl | rfl | rfl | rfl | rfl
  ·refine o_lapp hr ?_
   refine W_of (v:=Op.q.v) (fun uu=>rfl) ?_
   refine w_apps hr (by omega) fun h₁=>?_
   exact qno .q (Nat.le_add_right k 13) (hT.set ne) h₁ (s0.set (mS m0))
  ·by_cases hi:0 < i
   ·refine o_yes (b:=decide (0 < i)) (by simpa using hi) ?_
    refine o_lapp hr ?_
    refine W_of (v:=Op.Q.v) (fun uu=>rfl) ?_
    refine w_apps hr (by omega) fun h₁=>?_
    exact qno (.Q hi) (Nat.le_add_right k 13) (hT.set ne) h₁ (s0.set (mS m0))
   ·refine o_no (b:=decide (0 < i)) (by simpa using hi) ?_
    exact goDo
  ·refine o_lapp hr ?_
   refine l_six hT (by omega) fun σ₁ m hm h₁ m₁=>?_
   refine W_of (v:=(Op.cm m).v) (fun uu=>rfl) ?_
   refine w_apps (keep m₁ hr) (by omega) fun h₂=>?_
   exact qno (.cm hm) (Nat.add_le_add_right (Nat.le_add_right k 10) 3) (h₁.set ne) h₂ ((m2 m₁).set (mS m0))
  ·refine o_lapp hr ?_
   refine l_setting hT (by omega) fun σ₁ o k₁ ho hk₁ h₁ m₁=>?_
   refine w_apps (keep m₁ hr) (by omega) fun h₂=>?_
   exact qno (.set ho) (by omega) (h₁.set ne) h₂ ((m2 m₁).set (mS m0))
  ·exact goDo
end
end L
end E
end Mine
end
section
namespace Mine
namespace E
namespace L
theorem Turn.len {nms:List Sm} {h h':Int} {l:List Op} (t:Turn nms h h' l):l.length≤5:=by
 cases t<;>simp<;>omega
theorem Cont.len {nms:List Sm} {k:Nat} {h:Int} {l:List Op} (c:Cont nms k h l):l.length≤5 * k:=by
 induction c with
 | nil=>simp
 | snoc c t ih=>
  have:=t.len
  rw [List.length_append]
  omega
section
variable {n:Nat} {σ:St} {K:V→St→Prop} {t r k:Nat} {Q:Fl→Fr→St→Prop} {sm:Sm} {mo:V} {i:Int} {nms:List Sm}
theorem c_loop (hn:Names sm nms) (ne:t≠r):∀(vs:List V) {σ:St} {vars:List (Nm×V)} {i:Int} {ops:List Op} {kt k:Nat},CF t r sm mo i vars→Tape σ t k→σ.objs r=some (.list (ops.map Op.v))→Cont nms kt i ops→kt + vs.length≤4→k + 14 * vs.length≤1800→
  (∀ σ' vars' i' ops' k',CF t r sm mo i' vars'→Cont nms (kt + vs.length) i' ops'→k'≤k + 14 * vs.length→Tape σ' t k'→σ'.objs r=some (.list (ops'.map Op.v))→Mod [t,r] σ σ'→Q .next ⟨vars',none⟩ σ')→
  W3 (forLoop wst (.K .x5) (fun f s=>execCs wst (callF (n+5)) cBody f s) vs ⟨vars,none⟩ σ) Q
 | [],σ,vars,i,ops,kt,k,hv,hT,hr,hc,hl,hk,q=>for_nil (q σ vars i ops k hv hc (Nat.le_refl _) hT hr (Mod.refl _ _))
 | v::vs,σ,vars,i,ops,kt,k,hv,hT,hr,hc,hl,hk,q=>by
  rw [List.length_cons] at hl hk
  have lc:=hc.len
  have m2:∀ {σ σ':St},Mod [t] σ σ'→Mod [t,r] σ σ':=fun m=>⟨m.1,fun x hx=>m.2 x (by simp at hx ⊢;exact hx.1)⟩
  have go:∀ {σ₁:St} {d:Int},0≤d→d < 8→Tape σ₁ t (k+1)→Mod [t] σ σ₁→W3 (execCs wst (callF (n+5)) cBody2 ⟨fr7 t r sm mo i v d,none⟩ σ₁) fun fl fr σ=>match fl with
    | .next=>W3 (forLoop wst (.K .x5) (fun f s=>execCs wst (callF (n+5)) cBody f s) vs fr σ) Q
    | .ret v=>Q (.ret v) fr σ:=fun {σ₁ d} d0 d1 T₁ m₁=>by
   refine c_way hn d0 d1 T₁ ne (by omega) ((m₁.2 r (by simp;exact ne.symm)).trans hr) (by omega) fun σ₂ vars₂ i₂ l k₂ hv₂ ht hk₂ T₂ hr₂ m₂=>?_
   refine c_loop hn ne vs hv₂ T₂ hr₂ (hc.snoc ht) (by omega) (by omega) fun σ' vars' i' ops' k' a b c d e f=>?_
   refine q σ' vars' i' ops' k' a ?_ (by rw [List.length_cons];omega) d e (((m2 m₁).trans m₂).trans f)
   rw [List.length_cons,show kt + (vs.length + 1)=kt + 1 + vs.length by omega]
   exact b
  refine for_consW ?_
  cases hv
  ·refine ex_cons ?_
   refine draw hT (by omega) (by decide) fun σ₁ d d0 d1 T₁ m₁=>?_
   exact go d0 d1 T₁ m₁
  ·refine ex_cons ?_
   refine draw hT (by omega) (by decide) fun σ₁ d d0 d1 T₁ m₁=>?_
   exact go d0 d1 T₁ m₁
theorem content {most:Int} (hn:Names sm nms) (h0:0 < most) (h5:most≤5) (hT:Tape σ t k) (lt:t < σ.next) (hk:k≤1500) (q:∀ σ' kt i ops k',Cont nms kt i ops→(kt:Int) < most→k'≤k + 57→Tape σ' t k'→Fra [t] σ σ'→K (.lst (ops.map Op.v)) σ'):
  W (callF (n+6) (.glob (.F .x6)) [.ref t,.str sm,.int most] σ) K:=by
 refine W_def rfl rfl ?_
 have ne:t≠σ.next:=Nat.ne_of_lt lt
 have T₀:Tape (σ.new (.list [])) t k:=by
  refine e1a3 hT fun c a b e=>?_
  exact⟨c,a,b,(St.new_ne ne).trans e⟩
 refine draw T₀ (Nat.le_trans hk (Nat.le_add_left 1500 3500)) h0 fun σ₁ d d0 d1 T₁ m₁=>?_
 have h₁:σ₁.objs σ.next=some (.list (([]:List Op).map Op.v)):=(m₁.2 _ (by simp;exact ne.symm)).trans St.new_eq
 have fin:∀ {vs:List V},(vs.length:Int)=d→W3 (forLoop wst (.K .x5) (fun f s=>execCs wst (callF (n+5)) cBody f s) vs ⟨c5 t σ.next sm (.int most) 0,none⟩ σ₁) fun fl fr σ'=>match fl with
   | .next=>O (getL? (.D .x0) fr.vars) fun v=>K (frz σ' v).1 (frz σ' v).2
   | .ret v=>K v σ':=fun {vs} hl=>by
  refine c_loop hn ne vs .c5 T₁ h₁ .nil (by omega) (by omega) fun σ₂ vars₂ i₂ ops₂ k₂ hv hc hk₂ T₂ hr m₂=>?_
  have e:K (frz σ₂ (.ref σ.next)).1 (frz σ₂ (.ref σ.next)).2:=by
   rw [frz_list hr]
   refine q _ _ _ _ k₂ hc (by omega) (by omega) ?_ ⟨?_,fun x hx hn=>?_⟩
   ·refine e1a3 T₂ fun c a b e=>?_
    exact⟨c,a,b,(St.del_ne ne).trans e⟩
   ·show σ.next≤σ₂.next
    rw [m₂.1,m₁.1];exact Nat.le_succ _
   ·have h1:x≠σ.next:=Nat.ne_of_lt hx
    have h2:x≠t:=by simpa using hn
    exact(St.del_ne h1).trans ((m₂.2 x (by simp;exact⟨h2,h1⟩)).trans ((m₁.2 x (by simpa using h2)).trans (St.new_ne h1)))
  cases hv<;>exact e
 rcases (upto 5 (P:=fun d=>d=0∨d=1∨d=2∨d=3∨d=4) (by decide) d0 (Int.lt_of_lt_of_le d1 h5)) with rfl | rfl | rfl | rfl | rfl
 all_goals
  refine W_some ?_
  refine W3cast (fin (by simp)) fun fl fr σ'=>?_
  cases fl<;>rfl
end
end L
end E
end Mine
end
section
namespace Mine
namespace E
namespace L
structure A.Good (x:A):Prop where
 lead:Nine x.lead
 size:Nine x.size
 font:x.font=(.B .x5)∨x.font=(.B .x9)
structure M.Row (j:Int) (m:M):Prop where
 a:Two m.a
 b:Two m.b
 c:Two m.c
 d:Two m.d
 e: -(9 + 40 * j)≤m.e∧m.e≤9 + 40 * j
 f: -(9 + 40 * j)≤m.f∧m.f≤9 + 40 * j
theorem small_of {a:Int} (h: -1000≤a∧a≤1000):smallI a=true:=by
 unfold smallI
 simp only [decide_eq_true_eq]
 omega
theorem prod {p x:Int} (hp:Two p) (hx:Nine x): -18≤p * x∧p * x≤18:=by
 have h:=upto 5 (P:=fun a=>∀ b:Nat,b < 19→ -18≤(a - 2) * ((b:Int) - 9)∧(a - 2) * ((b:Int) - 9)≤18) (by decide) (Int.add_le_add_right hp.1 2) (Int.lt_add_one_of_le (Int.add_le_add_right hp.2 2))
 have h:=upto 19 (P:=fun b=> -18≤(p + 2 - 2) * (b - 9)∧(p + 2 - 2) * (b - 9)≤18) h (Int.add_le_add_right hx.1 9) (Int.lt_add_one_of_le (Int.add_le_add_right hx.2 9))
 rw [Int.add_sub_cancel,Int.add_sub_cancel] at h
 exact h
theorem M.Row.small {j:Int} {m:M} (h:m.Row j) (hj:j≤10):m.Small:=by
 obtain ⟨a,b,c,d,e,f⟩:=h
 exact⟨small_of (by omega),small_of (by omega),small_of (by omega),small_of (by omega),small_of (by omega),small_of (by omega)⟩
theorem M.Row.mono {j k:Int} {m:M} (h:m.Row j) (hj:j≤k):m.Row k:=by
 obtain ⟨a,b,c,d,e,f⟩:=h
 exact⟨a,b,c,d,by omega,by omega⟩
theorem row_add {u v w j:Int} (hu: -18≤u∧u≤18) (hv: -18≤v∧v≤18) (hw: -(9 + 40 * j)≤w∧w≤9 + 40 * j): -(9 + 40 * (j + 1))≤u + v + w∧u + v + w≤9 + 40 * (j + 1):=by omega
theorem M.Row.tr {j x y:Int} {m:M} (h:m.Row j) (hx:Nine x) (hy:Nine y):((M.tr x y).mul m).Row (j + 1):=by
 obtain ⟨a,b,c,d,e,f⟩:=h
 have t1:∀ {a c:Int},Two a→Two (1 * a + 0 * c):=fun h=>by rw [Int.one_mul,Int.zero_mul,Int.add_zero];exact h
 have t2:∀ {a c:Int},Two c→Two (0 * a + 1 * c):=fun h=>by rw [Int.one_mul,Int.zero_mul,Int.zero_add];exact h
 exact⟨t1 a,t1 b,t2 c,t2 d,row_add (prod a hx) (prod c hy) e,row_add (prod b hx) (prod d hy) f⟩
theorem M.Lin.row {m:M} (h:m.Lin):m.Row 0:=⟨h.a,h.b,h.c,h.d,by have:=h.e;omega,by have:=h.f;omega⟩
theorem M.Lin.small {m:M} (h:m.Lin):m.Small:=h.row.small (Int.NonNeg.mk (10 + 0))
theorem one_row:M.one.Row 0:=⟨two_i rfl,two_i rfl,two_i rfl,two_i rfl,by simp,by simp⟩
theorem nine_neg {a:Int} (h:Nine a):Nine (-a):=by omega
theorem nine_small {a:Int} (h:Nine a):smallI a=true:=small_of (by omega)
theorem show_ok {x:A} (hx:x.Good) {o:List UInt8} (ho:∀ c∈o,c=65∨c=66) (hl:o.length≤4) (m:M):Show.Ok ⟨o,m,x.font,x.size⟩:=⟨hx.font,ho,nine_small hx.size,by show o.length≤1000;omega⟩
theorem Run.append {D:Sm→A→List Show→Prop} {l l':List Op} {c c' c'':C} (h:Run D l c c') (h':Run D l' c' c''):Run D (l++l') c c'':=by
 induction h with
 | nil=>exact h'
 | cons st _ ih=>exact .cons st (ih h')
section
variable {D:Sm→A→List Show→Prop}
theorem set_stp {o:Op} (h:Setting o) {x:A} (hx:x.Good) (t:Option M) (p:List A) (s:List Show):∃ x',Stp D o ⟨x,t,p,s⟩ ⟨x',t,p,s⟩∧x'.Good:=by
 induction h with
 | tl hl=>exact⟨_,.one .tl,⟨hl,hx.size,hx.font⟩⟩
 | tf hf hz=>exact⟨_,.one .tf,⟨hx.lead,hz,hf⟩⟩
theorem deed_stp {o:Op} (h:Deed o) {x:A} (hx:x.Good) {j:Int} {m:M} (hm:m.Row j) (h0:0≤j) (hj:j≤5) (p:List A) (s:List Show):
  ∃ x' m' ws,Stp D o ⟨x,some m,p,s⟩ ⟨x',some m',p,s++ws⟩∧x'.Good∧m'.Row (j + 1)∧ws.length≤1∧∀ w∈ws,w.Ok:=by
 have nx:=nine_neg hx.lead
 have ns:=nine_small nx
 have hr:=hm.tr (x:=0) ⟨by omega,by omega⟩ nx
 have nil:s++[]=s:=List.append_nil s
 induction h with
 | td a b=>
  refine ⟨x,_,[],?_,hx,hm.tr a b,by simp,by simp⟩
  rw [nil];exact .one (.td (nine_small a) (nine_small b))
 | @tD u v a b=>
  refine ⟨{x with lead:= -v},_,[],?_,⟨nine_neg b,hx.size,hx.font⟩,hm.tr a b,by simp,by simp⟩
  rw [nil];exact .one (.tD (nine_small a) (nine_small b))
 | ts=>
  refine ⟨x,_,[],?_,hx,hr,by simp,by simp⟩
  rw [nil];exact .one (.ts ns)
 | tm hl=>
  refine ⟨x,_,[],?_,hx,hl.row.mono (by omega),by simp,by simp⟩
  rw [nil];exact .one .tm
 | tj ho=>exact⟨x,m,[_],.sho (.tj hx.font (hm.small (by omega))),hx,hm.mono (Int.le_of_lt (Int.le_refl (j + 1))),by simp,fun w hw=>by rw [List.mem_singleton] at hw;rw [hw];exact show_ok hx ho.1 (by have:=ho.2;omega) _⟩
 | qt ho=>exact⟨x,_,[_],.sho (.qt hx.font ns (hr.small (by omega))),hx,hr,by simp,fun w hw=>by rw [List.mem_singleton] at hw;rw [hw];exact show_ok hx ho.1 (by have:=ho.2;omega) _⟩
 | tJ ho ho'=>exact⟨x,m,[_],.sho (.tJ hx.font (hm.small (by omega)) (by have:=ho.2;have:=ho'.2;omega)),hx,hm.mono (by omega),by simp,fun w hw=>by
   rw [List.mem_singleton] at hw;rw [hw]
   exact show_ok hx (fun c hc=>(List.mem_append.mp hc).elim (ho.1 c) (ho'.1 c)) (by have:=ho.2;have:=ho'.2;rw [List.length_append];omega) _⟩
 | dq ho=>exact⟨x,_,[_],.sho (.dq hx.font ns (hr.small (by omega))),hx,hr,by simp,fun w hw=>by rw [List.mem_singleton] at hw;rw [hw];exact show_ok hx ho.1 (by have:=ho.2;omega) _⟩
 | set hs=>
  refine e1a2 (set_stp (D:=D) hs hx (some m) p s) fun x' st hx'=>?_
  exact⟨x',m,[],nil.symm▸st,hx',hm.mono (by omega),by simp,by simp⟩
theorem deeds_run:∀ {l:List Op},(∀ o∈l,Deed o)→∀ {x:A},x.Good→∀ {j:Int} {m:M},m.Row j→0≤j→j + l.length≤5→∀(p:List A) (s:List Show),
  ∃ x' m' ws,Run D l ⟨x,some m,p,s⟩ ⟨x',some m',p,s++ws⟩∧x'.Good∧ws.length≤l.length∧∀ w∈ws,w.Ok
 | [],_,x,hx,j,m,hm,h0,hj,p,s=>⟨x,m,[],(List.append_nil s).symm▸ .nil,hx,by simp,by simp⟩
 | o::l,hd,x,hx,j,m,hm,h0,hj,p,s=>by
  rw [List.length_cons] at hj
  refine ex3 (deed_stp (D:=D) (hd o (List.mem_cons_self ..)) hx hm h0 (by omega) p s) fun x₁ m₁ w₁ hh=>an5 hh fun st hx₁ hm₁ l₁ ok₁=>?_
  refine ex3 (deeds_run (fun o' h'=>hd o' (List.mem_cons_of_mem _ h')) hx₁ hm₁ (by omega) (by omega) p (s++w₁)) fun x₂ m₂ w₂ hh=>an4 hh fun r hx₂ l₂ ok₂=>?_
  refine ⟨x₂,m₂,w₁++w₂,?_,hx₂,by simp;omega,fun w hw=>(List.mem_append.mp hw).elim (ok₁ w) (ok₂ w)⟩
  rw [← List.append_assoc]
  exact .cons st r
noncomputable def Calls (D:Sm→A→List Show→Prop) (nms:List Sm) (b:Nat):Prop:=∀ f∈nms,∀ x:A,x.Good→∃ ws,D f x ws∧ws.length≤b∧∀ w∈ws,w.Ok
theorem turn_run {nms:List Sm} {b:Nat} (hD:Calls D nms b) {h h':Int} {l:List Op} (t:Turn nms h h' l) {x:A} (hx:x.Good) {p:List A} (hp:(p.length:Int)=h) (gp:∀ y∈p,y.Good) (s:List Show):
  ∃ x' p' ws,Run D l ⟨x,none,p,s⟩ ⟨x',none,p',s++ws⟩∧x'.Good∧(p'.length:Int)=h'∧(∀ y∈p',y.Good)∧ws.length≤b + 3∧∀ w∈ws,w.Ok:=by
 have nil:s++[]=s:=List.append_nil s
 induction t with
 | @txt l hl hd=>
  refine ex3 (deeds_run (D:=D) hd hx one_row (Int.NonNeg.mk (0 + 0)) (by omega) p s) fun x₁ m₁ w₁ hh=>an4 hh fun r hx₁ l₁ ok₁=>?_
  exact⟨x₁,p,w₁,.cons (.one .bt) (r.append (.cons (.one .et) .nil)),hx₁,hp,gp,by omega,ok₁⟩
 | q=>exact⟨x,p++[x],[],nil.symm▸ .cons .q .nil,hx,by simp;omega,fun y hy=>(List.mem_append.mp hy).elim (gp y) fun h=>by rw [List.mem_singleton] at h;rw [h];exact hx,by simp,by simp⟩
 | Q hh=>
  rcases List.eq_nil_or_concat p with e | ⟨p',y,e⟩
  ·subst e;simp at hp;omega
  ·rw [List.concat_eq_append] at e
   subst e
   exact⟨y,p',[],nil.symm▸ .cons .Q .nil,gp y (by simp),by simp at hp;omega,fun z hz=>gp z (by simp [hz]),by simp,by simp⟩
 | @cm m hm=>exact⟨{x with ctm:=m.mul x.ctm},p,[],nil.symm▸ .cons (.one (.cm hm.small)) .nil,⟨hx.lead,hx.size,hx.font⟩,hp,gp,by simp,by simp⟩
 | set hs=>
  refine e1a2 (set_stp (D:=D) hs hx none p s) fun x' st hx'=>?_
  exact⟨x',p,[],nil.symm▸ .cons st .nil,hx',hp,gp,by simp,by simp⟩
 | dO hf=>
  refine e1a3 (hD _ hf x hx) fun ws d lw ok=>?_
  exact⟨x,p,ws,.cons (.dO d) .nil,hx,hp,gp,by omega,ok⟩
 | no=>exact⟨x,p,[],nil.symm▸ .nil,hx,hp,gp,by simp,by simp⟩
theorem cont_run {nms:List Sm} {b:Nat} (hD:Calls D nms b) {k:Nat} {h:Int} {l:List Op} (c:Cont nms k h l) {x:A} (hx:x.Good):
  ∃ x' p' ws,Run D l ⟨x,none,[],[]⟩ ⟨x',none,p',ws⟩∧x'.Good∧(p'.length:Int)=h∧(∀ y∈p',y.Good)∧ws.length≤k * (b + 3)∧∀ w∈ws,w.Ok:=by
 induction c with
 | nil=>exact⟨x,[],[],.nil,hx,rfl,by simp,by simp,by simp⟩
 | @snoc k h h' l l' c t ih=>
  refine ex3 ih fun x₁ p₁ w₁ hh=>an6 hh fun r₁ hx₁ hp₁ gp₁ l₁ ok₁=>?_
  refine ex3 (turn_run hD t hx₁ hp₁ gp₁ w₁) fun x₂ p₂ w₂ hh=>an6 hh fun r₂ hx₂ hp₂ gp₂ l₂ ok₂=>?_
  refine ⟨x₂,p₂,w₁++w₂,r₁.append r₂,hx₂,hp₂,gp₂,?_,fun w hw=>(List.mem_append.mp hw).elim (ok₁ w) (ok₂ w)⟩
  rw [List.length_append,Nat.succ_mul]
  omega
theorem shows_of {nms:List Sm} {b:Nat} (hD:Calls D nms b) {k:Nat} {h:Int} {l:List Op} (c:Cont nms k h l) (m:Option M) {x:A} (hx:x.Good):∃ ws,Shows D l m x ws∧ws.length≤k * (b + 3)∧∀ w∈ws,w.Ok:=by
 refine ex3 (cont_run hD c (x:={x with ctm:=inM m x.ctm}) ⟨hx.lead,hx.size,hx.font⟩) fun x' p' ws hh=>an6 hh fun r uu uu uu l ok=>?_
 exact⟨ws,⟨x',p',r⟩,l,ok⟩
theorem cont_names {nms:List Sm} {sm:Sm} (hn:Names sm nms) {k:Nat} {h:Int} {l:List Op} (c:Cont nms k h l):∀ o∈l,o.names (fun uu=>uu∈nms):=by
 have set:∀ {o:Op},Setting o→o.names (fun uu=>uu∈nms):=fun h=>by
  induction h with
  | tl _=>trivial
  | tf hf _=>exact hf
 have deed:∀ {o:Op},Deed o→o.names (fun uu=>uu∈nms):=fun h=>by
  induction h with
  | set h=>exact set h
  | _=>trivial
 induction c with
 | nil=>intro o h;cases h
 | snoc c t ih=>
  intro o ho
  rcases List.mem_append.mp ho with ho | ho
  ·exact ih o ho
  ·induction t with
   | txt _ hd=>
    simp only [List.mem_cons,List.mem_append,List.not_mem_nil,or_false] at ho
    rcases ho with rfl | ho | rfl
    ·trivial
    ·exact deed (hd o ho)
    ·trivial
   | set hs=>rw [List.mem_singleton] at ho;rw [ho];exact set hs
   | dO hf=>
    rw [List.mem_singleton] at ho;rw [ho]
    refine ⟨?_,hf⟩
    cases hn<;>simp at hf<;>simp [hf]
   | no=>cases ho
   | _=>rw [List.mem_singleton] at ho;rw [ho];trivial
end
end L
end E
end Mine
end
section
namespace Mine
namespace E
namespace L
noncomputable abbrev lawD:List S:=.asg (.nm (.E .xa)) (.meth (.call (.glob (.C .xc)) [(.loc (.I .x1)),(.loc (.H .x4)),(.lam .l_0)]) (.G .x4) [(.loc (.G .x1))]):: .asg (.nm (.I .x0)) (.call (.glob (.K .x5)) [(.loc (.I .x1)),(.loc (.H .x4)),(.loc (.G .x1)),(.tup [(.lit (.int 0)),(.call (.glob (.I .x4)) [])]),(.lam .l_1),(.lam .l_2)]):: .ret (some (.cmp .eq (.comp (.meth (.loc (.F .x8)) (.K .x1) []) (.F .x8) (.call (.glob (.I .xb)) [(.loc (.I .x0))]) none) (.call (.glob (.F .x9)) [(.loc (.E .xa))])))::[]
noncomputable abbrev lawC:List S:=.asg (.nm (.H .x4)) (.dict false [((.lit (.str (.B .x7))),(.loc (.D .x7))),((.lit (.str (.E .x1))),(.dict false [((.lit (.str (.A .x3))),(.call (.glob (.D .x4)) [(.lit (.int 11)),(.lit (.int 0))])),((.lit (.str (.A .x5))),(.call (.glob (.D .x4)) [(.lit (.int 12)),(.lit (.int 0))]))]))]):: .asg (.nm (.C .xa)) (.dict true []):: .fr (.nm (.F .x0)) (.glob (.G .x1)) [.asg (.nm (.A .xa)) (.frz (.call (.glob (.H .x0)) [(.comp (.tup [(.tup [(.lit (.int 1)),(.loc (.F .x6))]),(.sub (.sub (.glob (.G .x1)) (.loc (.F .x0))) (.loc (.F .x6)))]) (.F .x6) (.sub (.glob (.G .x1)) (.loc (.F .x0))) none)])),.asg (.sub (.loc (.C .xa)) (.loc (.F .x0))) (.call (.glob (.A .xa)) [(.list false []),(.lit .none),(.call (.glob (.A .x1)) [(.list false []),(.loc (.A .xa))]),(.list false []),(.lit (.int 0)),(.call (.glob (.A .x4)) [(.lit (.int 1)),(.lit (.int 3))]),(.tup [])])]:: .ghost (.C .xa)::lawD
noncomputable abbrev lawB:List S:=.asg (.nm (.D .x7)) (.dict false [((.lit (.str (.B .x5))),(.dict false [((.lit (.str (.B .xc))),(.call (.glob (.C .x4)) [(.lit (.str (.B .x5)))]))])),((.lit (.str (.B .x9))),(.dict false [((.lit (.str (.B .xc))),(.call (.glob (.C .x4)) [(.lit (.str (.B .x9)))]))]))]):: .asg (.nm (.I .x1)) (.call (.glob (.D .xa)) [(.dict true []),(.dict false [])]):: .fr (.nm (.F .x4)) (.call (.glob (.J .xb)) [(.lit (.int 2))]) [.asg (.nm (.D .x6)) (.dict true [((.lit (.str (.C .xb))),(.call (.glob (.C .x4)) [(.lit (.str (.B .x8)))]))]),.ife (.cmp .isnot (.sub (.loc (.I .x5)) (.loc (.F .x4))) (.lit .none)) [.asg (.sub (.loc (.D .x6)) (.lit (.str (.C .x1)))) (.sub (.loc (.I .x5)) (.loc (.F .x4)))] [],.ife (.sub (.loc (.D .x5)) (.loc (.F .x4))) [.asg (.sub (.loc (.D .x6)) (.lit (.str (.C .x6)))) (.dict false [((.lit (.str (.B .x7))),(.loc (.D .x7))),((.lit (.str (.E .x1))),(.ite_ (.cmp .eq (.loc (.F .x4)) (.lit (.int 0))) (.dict false [((.lit (.str (.A .x3))),(.call (.glob (.D .x4)) [(.lit (.int 12)),(.lit (.int 0))]))]) (.dict false [])))])] [],.expr (.meth (.loc (.I .x1)) (.H .x3) [(.bin .add (.lit (.int 11)) (.loc (.F .x4))),(.lit (.int 0)),(.call (.glob (.E .x1)) [(.frz (.loc (.D .x6))),(.call (.glob (.G .x7)) [(.list false [(.loc (.F .x4))])])])])]:: .ghost (.I .x1)::lawC
noncomputable abbrev lawA3:List S:=.asg (.nm (.G .x1)) (.bin .add (.list false [(.call (.glob (.C .x6)) [(.lit (.str (.D .x5))),(.list false [(.call (.glob (.C .x4)) [(.lit (.str (.B .x5)))]),(.lit (.int 2))])])]) (.call (.glob (.F .x6)) [(.loc (.J .xa)),(.lit (.str (.A .x4))),(.lit (.int 5))]))::lawB
noncomputable abbrev lawA1:List S:=.asc (.D .x5) (.cmp .eq (.call (.glob (.F .x8)) [(.loc (.J .xa)),(.lit (.int 2))]) (.lit (.int 1))) (.F .x4) (.call (.glob (.J .xb)) [(.lit (.int 2))]) none:: .asc (.I .x5) (.ite_ (.cmp .eq (.call (.glob (.F .x8)) [(.loc (.J .xa)),(.lit (.int 2))]) (.lit (.int 1))) (.call (.glob (.F .xc)) [(.loc (.J .xa))]) (.lit .none)) (.F .x4) (.call (.glob (.J .xb)) [(.lit (.int 2))]) none:: .asg (.nm (.H .x7)) (.list false [(.call (.glob (.F .x6)) [(.loc (.J .xa)),(.ite_ (.sub (.loc (.D .x5)) (.lit (.int 0))) (.lit (.str (.A .x3))) (.lit (.str (.A .x5)))),(.lit (.int 3))]),(.call (.glob (.F .x6)) [(.loc (.J .xa)),(.lit (.str (.A .x0))),(.lit (.int 3))])])::lawA3
noncomputable abbrev lawA:List S:=.asg (.nm (.J .xa)) (.list true [(.or_ [(.call (.glob (.J .x0)) [(.slice false (.loc (.H .x9)) none (some (.lit (.int 63))))]),(.list false [(.lit (.int 5))])]),(.lit (.int 0))])::lawA1
noncomputable def optV:Option M→V
 | some m=>.lst m.is
 | none=>.none
theorem W_defW {n:Nat} {σ:St} {K:V→St→Prop} {g:Gl} {d:FnDef} {args:List V} {vars:List (Nm×V)} (hd:fdef g=some d) (hb:d.bind args=some vars) (h:W3 (execCs wst (callF n) d.body ⟨vars,.none⟩ σ) fun fl uu σ=>K (flV fl) σ):W (callF (n + 1) (.glob g) args σ) K:=W_def hd hb h.run
section
variable {σ:St} {K:V→St→Prop} {t k:Nat} {Q:Fl→Fr→St→Prop} {v0:V}
noncomputable abbrev gA (v0:V) (t:Nat) (b0 b1:Bool) (m0 m1:Option M) (r0 r1 os:List Op):List (Nm×V):=[((.H .x9),v0),((.J .xa),.ref t),((.D .x5),.lst [.bool b0,.bool b1]),((.I .x5),.lst [optV m0,optV m1]),((.H .x7),.lst [.lst (r0.map Op.v),.lst (r1.map Op.v)]),((.G .x1),.lst (os.map Op.v))]
structure Built (b0 b1:Bool) (m0 m1:Option M) (r0 r1 os:List Op):Prop where
 m0:∀ m,m0=some m→m.Lin
 m1:∀ m,m1=some m→m.Lin
 r0:∃ k h,Cont [bif b0 then (.A .x3) else (.A .x5)] k h r0∧k < 3
 r1:∃ k h,Cont [] k h r1∧k < 3
 os:∃ k h os',os=.tf (.B .x5) 2::os'∧Cont [(.A .x3),(.A .x5)] k h os'∧k < 5
theorem segA1 (hT:Tape σ t 0) (lt:t < σ.next) (q:∀ σ' b0 b1 m0 m1 r0 r1 os,Built b0 b1 m0 m1 r0 r1 os→Fra [t] σ σ'→W3 (execCs wst (callF 39) lawB ⟨gA v0 t b0 b1 m0 m1 r0 r1 os,none⟩ σ') Q):
  W3 (execCs wst (callF 39) lawA1 ⟨[((.H .x9),v0),((.J .xa),.ref t)],none⟩ σ) Q:=by
 refine ex_cons ?_
 refine W_some ?_
 refine comp_cons (draw hT (by omega) (by decide) fun σ₁ d0 x0 y0 T₁ m₁=>?_)
 refine comp_cons (draw T₁ (by omega) (by decide) fun σ₂ d1 x1 y1 T₂ m₂=>?_)
 refine comp_nil ?_
 refine ex_cons ?_
 refine W_some ?_
 have six:∀ {σ:St} {k:Nat} {fr:Fr} {K:V→St→Prop},getL? (.J .xa) fr.vars=some (.ref t)→Tape σ t k→k≤100→(∀ σ' m k',(∀ o,m=some o→o.Lin)→k'≤k + 4→Tape σ' t k'→Mod [t] σ σ'→K (optV m) σ')→
   evalC wst (callF 39) (.ite_ (.cmp .eq (.call (.glob (.F .x8)) [(.loc (.J .xa)),(.lit (.int 2))]) (.lit (.int 1))) (.call (.glob (.F .xc)) [(.loc (.J .xa))]) (.lit .none)) fr σ K:=fun {σ k fr K} hg hT hk q=>by
  refine O_of hg ?_
  refine draw hT (by omega) (by decide) fun σ₁ d x y T₁ m₁=>?_
  rcases (by omega:d=0∨d=1) with rfl | rfl
  ·exact q _ none _ (by simp) (by omega) T₁ m₁
  ·refine O_of hg ?_
   exact l_six T₁ (by omega) fun σ₂ m hm T₂ m₂=>q _ (some m) _ (fun o h=>by cases h;exact hm) (Nat.le_refl _) T₂ (m₁.trans m₂)
 refine comp_cons (six rfl T₂ (by omega) fun σ₃ m0 k₃ hm0 hk₃ T₃ m₃=>?_)
 refine comp_cons (six rfl T₃ (by omega) fun σ₄ m1 k₄ hm1 hk₄ T₄ m₄=>?_)
 refine comp_nil ?_
 refine ex_cons ?_
 have lt₄:t < σ₄.next:=by have:=m₁.1;have:=m₂.1;have:=m₃.1;have:=m₄.1;omega
 have f₄:Fra [t] σ σ₄:=(((m₁.trans m₂).trans m₃).trans m₄).fra
 have fin:∀ {σ₆:St} {r0 r1:List Op} {k₀ k₁ k₆:Nat} {i₀ i₁:Int},Cont [bif (d0==1) then (.A .x3) else (.A .x5)] k₀ i₀ r0→(k₀:Int) < 3→Cont [] k₁ i₁ r1→(k₁:Int) < 3→k₆≤300→Tape σ₆ t k₆→Fra [t] σ σ₆→
   W3 (execCs wst (callF 39) lawA3 ⟨[((.H .x9),v0),((.J .xa),.ref t),((.D .x5),.lst [.bool (d0==1),.bool (d1==1)]),((.I .x5),.lst [optV m0,optV m1]),((.H .x7),.lst [.lst (r0.map Op.v),.lst (r1.map Op.v)])],none⟩ σ₆) Q:=fun {σ₆ r0 r1 k₀ k₁ k₆ i₀ i₁} c0 n0 c1 n1 hk T₆ f₆=>by
  refine ex_cons ?_
  refine W_of (v:=nameV (.B .x5)) (fun uu=>rfl) ?_
  refine W_of (v:=(Op.tf (.B .x5) 2).v) (fun uu=>rfl) ?_
  refine content .ab (by decide) (by decide) T₆ (Nat.lt_of_lt_of_le lt f₆.1) (by omega) fun σ₇ k₂ i₂ os k₇ c2 n2 hk₇ T₇ f₇=>?_
  refine O_of (m:=binV .add (.lst [(Op.tf (.B .x5) 2).v]) (.lst (os.map Op.v))) (a:=.lst ((Op.tf (.B .x5) 2::os).map Op.v)) (if_pos ?_) ?_
  ·have:=c2.len
   rw [List.length_map]
   simp;omega
  exact q _ _ _ m0 m1 r0 r1 (.tf (.B .x5) 2::os) ⟨hm0,hm1,⟨_,_,c0,by omega⟩,⟨_,_,c1,by omega⟩,⟨_,_,os,rfl,c2,by omega⟩⟩ (f₆.trans f₇ fun r hr=>.inl hr)
 by_cases hb:(d0==1)=true
 ·refine o_yes (b:=(d0==1)) hb ?_
  refine content .a (by decide) (by decide) T₄ lt₄ (by omega) fun σ₅ k₅ i₅ r0 k₅' c5 n5 hk₅ T₅ f₅=>?_
  refine content .e (by decide) (by decide) T₅ (Nat.lt_of_lt_of_le lt₄ f₅.1) (by omega) fun σ₆ k₆ i₆ r1 k₆' c6 n6 hk₆ T₆ f₆=>?_
  exact fin (by rw [hb];exact c5) n5 c6 n6 (by omega) T₆ ((f₄.trans f₅ fun r hr=>.inl hr).trans f₆ fun r hr=>.inl hr)
 ·have hb:(d0==1)=false:=by simpa using hb
  refine o_no (b:=(d0==1)) hb ?_
  refine content .b (by decide) (by decide) T₄ lt₄ (by omega) fun σ₅ k₅ i₅ r0 k₅' c5 n5 hk₅ T₅ f₅=>?_
  refine content .e (by decide) (by decide) T₅ (Nat.lt_of_lt_of_le lt₄ f₅.1) (by omega) fun σ₆ k₆ i₆ r1 k₆' c6 n6 hk₆ T₆ f₆=>?_
  exact fin (by rw [hb];exact c5) n5 c6 n6 (by omega) T₆ ((f₄.trans f₅ fun r hr=>.inl hr).trans f₆ fun r hr=>.inl hr)
end
end L
end E
end Mine
end
section
namespace Mine
namespace E
namespace L
section
variable {σ:St} {K:V→St→Prop} {t k:Nat} {Q:Fl→Fr→St→Prop} {v0:V}
theorem segA {ns:List Int} (hl:ns.length≤63) (q:∀ σ' t b0 b1 m0 m1 r0 r1 os,Built b0 b1 m0 m1 r0 r1 os→Fra [] σ σ'→W3 (execCs wst (callF 39) lawB ⟨gA (.lst (ns.map .int)) t b0 b1 m0 m1 r0 r1 os,none⟩ σ') Q):
  W3 (execCs wst (callF 39) lawA ⟨[((.H .x9),.lst (ns.map .int))],none⟩ σ) Q:=by
 have fin:∀ {cells:List Int},0 < cells.length→cells.length≤63→W3 (execCs wst (callF 39) lawA1 ⟨[((.H .x9),.lst (ns.map .int)),((.J .xa),.ref σ.next)],none⟩ (σ.new (.list [.lst (cells.map .int),.int 0]))) Q:=fun {cells} c0 c1=>by
  refine segA1 ⟨cells,c0,c1,St.new_eq⟩ (Nat.lt_succ_self _) fun σ' b0 b1 m0 m1 r0 r1 os hb f=>?_
  refine q σ' σ.next b0 b1 m0 m1 r0 r1 os hb ?_
  exact Fra.trans (σ':=σ.new (.list [.lst (cells.map .int),.int 0])) ((Fra.refl _ σ).new) f fun r hr=>.inr (by simp at hr;omega)
 cases ns with
 | nil=>
  refine ex_cons ?_
  refine W_some ?_
  exact fin (cells:=[5]) (by simp) (by simp)
 | cons a ns=>
  refine ex_cons ?_
  have e:(((a::ns).map V.int).take 63)=((a::ns).take 63).map V.int:=by rw [List.map_take]
  refine O_of (m:=asSeqF σ (.lst ((a::ns).map V.int))) (if_pos (by rw [List.length_map];omega)) ?_
  refine W_some ?_
  refine O_of (m:=asSeqF σ (.lst (((a::ns).map V.int).take 63))) (a:=((a::ns).take 63).map V.int) ?_ ?_
  ·rw [e];exact if_pos (by rw [List.length_map,List.length_take];omega)
  refine O_of (m:=truthy (.lst (((a::ns).take 63).map V.int))) (a:=true) ?_ ?_
  ·show (if (((a::ns).take 63).map V.int).length≤1000000 then some (!(((a::ns).take 63).map V.int).isEmpty) else none)=_
   rw [if_pos (by rw [List.length_map,List.length_take];omega)]
   rfl
  exact fin (cells:=(a::ns).take 63) (by simp) (by rw [List.length_take];omega)
noncomputable def ownR (b:Bool) (xo:List (V×V)):Option V:=bif b then some (.dct [(.str (.B .x7),.dct headsL),(.str (.E .x1),.dct xo)]) else none
noncomputable abbrev xoA:List (V×V):=[(.str (.A .x3),refV 12)]
noncomputable abbrev gB (v0:V) (t:Nat) (b0 b1:Bool) (m0 m1:Option M) (r0 r1 os:List Op) (sh h:V):List (Nm×V):=gA v0 t b0 b1 m0 m1 r0 r1 os++[((.D .x7),.dct headsL),((.I .x1),sh),((.F .x4),.int 1),((.D .x6),h)]
noncomputable abbrev shelfM (tb:Nat):V:=.inst (.D .xa) [((.J .x9),.ref tb),((.K .x4),.dct [])]
noncomputable abbrev putS:S:=.expr (.meth (.loc (.I .x1)) (.H .x3) [(.bin .add (.lit (.int 11)) (.loc (.F .x4))),(.lit (.int 0)),(.call (.glob (.E .x1)) [(.frz (.loc (.D .x6))),(.call (.glob (.G .x7)) [(.list false [(.loc (.F .x4))])])])])
theorem put_stm {fr:Fr} {tb h:Nat} {j:Int} {i:UInt8} {kvs tkvs tkvs':List (V×V)} (g1:getL? (.I .x1) fr.vars=some (shelfM tb)) (g2:getL? (.F .x4) fr.vars=some (.int j)) (g3:getL? (.D .x6) fr.vars=some (.ref h)) (hh:σ.objs h=some (.dict kvs)) (ht:σ.objs tb=some (.dict tkvs)) (hj:(j=0∧i=0)∨(j=1∧i=1))
  (hl:tkvs.length≤1000) (hp:dPut (.int (11 + j)) (.tup [.int 0,strm (.dct kvs) i]) tkvs=some tkvs') (ne:tb≠h) (q:Q .next fr ((σ.del h).set tb (.dict tkvs'))):W3 (execCs wst (callF 39) [putS] fr σ) Q:=by
 have e:W (bcall (.G .x7) [.lst [.int j]] (frz σ (.ref h)).2) fun b σ'=>W (callF 39 (.glob (.E .x1)) [(frz σ (.ref h)).1,b] σ') fun s σ''=>W (callF 39 (.glob (.D .xb)) [shelfM tb,.int (11 + j),.int 0,s] σ'') fun uu σ3=>W3 (execCs wst (callF 39) [] fr σ3) Q:=by
  rw [frz_dict hh]
  have eb:toBytes [.int j]=some [i]:=by rcases hj with ⟨rfl,rfl⟩ | ⟨rfl,rfl⟩<;>rfl
  refine W_some ?_
  refine O_of (m:=toBytes [.int j]) eb ?_
  refine W_of (v:=strm (.dct kvs) i) (fun uu=>rfl) ?_
  refine W_def (g:=(.D .xb)) rfl rfl ?_
  refine o_dset ((St.del_ne ne).trans ht) ?_ hp ?_
  ·simp [plainKey];omega
  exact⟨q⟩
 refine ex_cons ?_
 refine O_of g1 ?_
 refine O_of (m:=getL? (.F .x4) fr.vars) g2 ?_
 refine O_of (m:=getL? (.D .x6) fr.vars) g3 ?_
 refine O_of (m:=getL? (.F .x4) fr.vars) g2 ?_
 exact e
noncomputable abbrev slBody:List S:=[.asg (.nm (.D .x6)) (.dict true [((.lit (.str (.C .xb))),(.call (.glob (.C .x4)) [(.lit (.str (.B .x8)))]))]),.ife (.cmp .isnot (.sub (.loc (.I .x5)) (.loc (.F .x4))) (.lit .none)) [.asg (.sub (.loc (.D .x6)) (.lit (.str (.C .x1)))) (.sub (.loc (.I .x5)) (.loc (.F .x4)))] [],.ife (.sub (.loc (.D .x5)) (.loc (.F .x4))) [.asg (.sub (.loc (.D .x6)) (.lit (.str (.C .x6)))) (.dict false [((.lit (.str (.B .x7))),(.loc (.D .x7))),((.lit (.str (.E .x1))),(.ite_ (.cmp .eq (.loc (.F .x4)) (.lit (.int 0))) (.dict false [((.lit (.str (.A .x3))),(.call (.glob (.D .x4)) [(.lit (.int 12)),(.lit (.int 0))]))]) (.dict false [])))])] [],putS]
theorem shelf0 {tb:Nat} {b0 b1:Bool} {m0 m1:Option M} {r0 r1 os:List Op} (ht:σ.objs tb=some (.dict [])) (lt:tb < σ.next) (q:∀ σ' h,Fra [tb] σ σ'→σ'.objs tb=some (.dict [(.int 11,.tup [.int 0,strm (headV m0 (ownR b0 xoA)) 0])])→Q .next ⟨gA v0 t b0 b1 m0 m1 r0 r1 os++[((.D .x7),.dct headsL),((.I .x1),shelfM tb),((.F .x4),.int 0),((.D .x6),.ref h)],none⟩ σ'):
  W3 (execCs wst (callF 39) slBody ⟨gA v0 t b0 b1 m0 m1 r0 r1 os++[((.D .x7),.dct headsL),((.I .x1),shelfM tb),((.F .x4),.int 0)],none⟩ σ) Q:=by
 have ne:tb≠σ.next:=Nat.ne_of_lt lt
 refine ex_cons ?_
 refine W_of (v:=nameV (.B .x8)) (fun uu=>rfl) ?_
 cases m0 with
 | none=>
  refine ex_cons ?_
  cases b0 with
  | false=>
   refine ex_cons ?_
   refine put_stm (h:=σ.next) (i:=0) (kvs:=headKvs (none) (ownR false xoA)) rfl rfl rfl St.new_eq ((St.new_ne ne).trans ht) (.inl ⟨rfl,rfl⟩) (by simp) rfl ne ?_
   exact q _ _ ((((Fra.refl [tb] σ).new).del (.inr (Nat.le_refl _))).set (.inl (.head _))) St.set_eq
  | true=>
   refine ex_cons ?_
   refine W_of (v:=refV 12) (fun uu=>rfl) ?_
   refine o_dset (d:=headKvs (none) (ownR true xoA)) St.new_eq rfl rfl ?_
   refine put_stm (h:=σ.next) (i:=0) (kvs:=headKvs (none) (ownR true xoA)) rfl rfl rfl St.set_eq ((St.set_ne ne).trans ((St.new_ne ne).trans ht)) (.inl ⟨rfl,rfl⟩) (by simp) rfl ne ?_
   exact q _ _ (((((Fra.refl [tb] σ).new).set (.inr (Nat.le_refl _))).del (.inr (Nat.le_refl _))).set (.inl (.head _))) St.set_eq
 | some m=>
  refine ex_cons ?_
  refine o_dset (d:=[(.str (.C .xb),nameV (.B .x8)),(.str (.C .x1),.lst m.is)]) St.new_eq rfl rfl ?_
  cases b0 with
  | false=>
   refine ex_cons ?_
   refine put_stm (h:=σ.next) (i:=0) (kvs:=headKvs (some m) (ownR false xoA)) rfl rfl rfl St.set_eq ((St.set_ne ne).trans ((St.new_ne ne).trans ht)) (.inl ⟨rfl,rfl⟩) (by simp) rfl ne ?_
   exact q _ _ (((((Fra.refl [tb] σ).new).set (.inr (Nat.le_refl _))).del (.inr (Nat.le_refl _))).set (.inl (.head _))) St.set_eq
  | true=>
   refine ex_cons ?_
   refine W_of (v:=refV 12) (fun uu=>rfl) ?_
   refine o_dset (d:=headKvs (some m) (ownR true xoA)) St.set_eq rfl rfl ?_
   refine put_stm (h:=σ.next) (i:=0) (kvs:=headKvs (some m) (ownR true xoA)) rfl rfl rfl St.set_eq ((St.set_ne ne).trans ((St.set_ne ne).trans ((St.new_ne ne).trans ht))) (.inl ⟨rfl,rfl⟩) (by simp) rfl ne ?_
   exact q _ _ ((((((Fra.refl [tb] σ).new).set (.inr (Nat.le_refl _))).set (.inr (Nat.le_refl _))).del (.inr (Nat.le_refl _))).set (.inl (.head _))) St.set_eq
theorem shelf1 {tb:Nat} {b0 b1:Bool} {m0 m1:Option M} {r0 r1 os:List Op} {hx a1:V} (ht:σ.objs tb=some (.dict [(.int 11,a1)])) (lt:tb < σ.next) (q:∀ σ' h,Fra [tb] σ σ'→σ'.objs tb=some (.dict [(.int 11,a1),(.int 12,.tup [.int 0,strm (headV m1 (ownR b1 [])) 1])])→Q .next ⟨gA v0 t b0 b1 m0 m1 r0 r1 os++[((.D .x7),.dct headsL),((.I .x1),shelfM tb),((.F .x4),.int 1),((.D .x6),.ref h)],none⟩ σ'):
  W3 (execCs wst (callF 39) slBody ⟨gA v0 t b0 b1 m0 m1 r0 r1 os++[((.D .x7),.dct headsL),((.I .x1),shelfM tb),((.F .x4),.int 1),((.D .x6),hx)],none⟩ σ) Q:=by
 have ne:tb≠σ.next:=Nat.ne_of_lt lt
 refine ex_cons ?_
 refine W_of (v:=nameV (.B .x8)) (fun uu=>rfl) ?_
 cases m1 with
 | none=>
  refine ex_cons ?_
  cases b1 with
  | false=>
   refine ex_cons ?_
   refine put_stm (h:=σ.next) (i:=1) (kvs:=headKvs (none) (ownR false [])) rfl rfl rfl St.new_eq ((St.new_ne ne).trans ht) (.inr ⟨rfl,rfl⟩) (by simp) rfl ne ?_
   exact q _ _ ((((Fra.refl [tb] σ).new).del (.inr (Nat.le_refl _))).set (.inl (.head _))) St.set_eq
  | true=>
   refine ex_cons ?_
   refine o_dset (d:=headKvs (none) (ownR true [])) St.new_eq rfl rfl ?_
   refine put_stm (h:=σ.next) (i:=1) (kvs:=headKvs (none) (ownR true [])) rfl rfl rfl St.set_eq ((St.set_ne ne).trans ((St.new_ne ne).trans ht)) (.inr ⟨rfl,rfl⟩) (by simp) rfl ne ?_
   exact q _ _ (((((Fra.refl [tb] σ).new).set (.inr (Nat.le_refl _))).del (.inr (Nat.le_refl _))).set (.inl (.head _))) St.set_eq
 | some m=>
  refine ex_cons ?_
  refine o_dset (d:=[(.str (.C .xb),nameV (.B .x8)),(.str (.C .x1),.lst m.is)]) St.new_eq rfl rfl ?_
  cases b1 with
  | false=>
   refine ex_cons ?_
   refine put_stm (h:=σ.next) (i:=1) (kvs:=headKvs (some m) (ownR false [])) rfl rfl rfl St.set_eq ((St.set_ne ne).trans ((St.new_ne ne).trans ht)) (.inr ⟨rfl,rfl⟩) (by simp) rfl ne ?_
   exact q _ _ (((((Fra.refl [tb] σ).new).set (.inr (Nat.le_refl _))).del (.inr (Nat.le_refl _))).set (.inl (.head _))) St.set_eq
  | true=>
   refine ex_cons ?_
   refine o_dset (d:=headKvs (some m) (ownR true [])) St.set_eq rfl rfl ?_
   refine put_stm (h:=σ.next) (i:=1) (kvs:=headKvs (some m) (ownR true [])) rfl rfl rfl St.set_eq ((St.set_ne ne).trans ((St.set_ne ne).trans ((St.new_ne ne).trans ht))) (.inr ⟨rfl,rfl⟩) (by simp) rfl ne ?_
   exact q _ _ ((((((Fra.refl [tb] σ).new).set (.inr (Nat.le_refl _))).set (.inr (Nat.le_refl _))).del (.inr (Nat.le_refl _))).set (.inl (.head _))) St.set_eq
end
end L
end E
end Mine
end
section
namespace Mine
namespace E
namespace L
noncomputable abbrev a1V (m0:Option M) (b0:Bool):V:=strm (headV m0 (ownR b0 xoA)) 0
noncomputable abbrev a2V (m1:Option M) (b1:Bool):V:=strm (headV m1 (ownR b1 [])) 1
noncomputable abbrev pageXO:List (V×V):=[(.str (.A .x3),refV 11),(.str (.A .x5),refV 12)]
noncomputable abbrev pageR:List (V×V):=[(.str (.B .x7),.dct headsL),(.str (.E .x1),.dct pageXO)]
theorem frz_shelf {σ:St} {tb:Nat} {kvs:List (V×V)} (h:σ.objs tb=some (.dict kvs)):frz σ (shelfM tb)=(.inst (.D .xa) [((.J .x9),.dct kvs),((.K .x4),.dct [])],σ.del tb):=by
 simp [frz,frzFs,frzOne,h]
noncomputable abbrev gC (v0:V) (t:Nat) (b0 b1:Bool) (m0 m1:Option M) (r0 r1 os:List Op) (sh h c:V) (rf:V):List (Nm×V):=gB v0 t b0 b1 m0 m1 r0 r1 os sh h++[((.H .x4),.dct pageR),((.C .xa),rf),((.F .x0),.str (.B .x9)),((.A .xa),c)]
section
variable {σ:St} {K:V→St→Prop} {t k:Nat} {Q:Fl→Fr→St→Prop} {v0:V} {b0 b1:Bool} {m0 m1:Option M} {r0 r1 os:List Op}
theorem segB (q:∀ σ' h,Fra [] σ σ'→W3 (execCs wst (callF 39) lawC ⟨gB v0 t b0 b1 m0 m1 r0 r1 os (shelfV (a1V m0 b0) (a2V m1 b1)) h,none⟩ σ') Q):W3 (execCs wst (callF 39) lawB ⟨gA v0 t b0 b1 m0 m1 r0 r1 os,none⟩ σ) Q:=by
 refine ex_cons ?_
 refine W_of (v:=nameV (.B .x5)) (fun uu=>rfl) ?_
 refine W_of (v:=nameV (.B .x9)) (fun uu=>rfl) ?_
 refine ex_cons ?_
 refine W_of (v:=shelfM σ.next) (fun uu=>rfl) ?_
 refine ex_cons ?_
 refine W_some ?_
 refine for_consW ?_
 refine shelf0 (tb:=σ.next) St.new_eq (Nat.lt_succ_self _) fun σ₁ h₁ f₁ e₁=>?_
 have l₁:σ.next < σ₁.next:=f₁.1
 refine for_consW ?_
 refine shelf1 (tb:=σ.next) e₁ l₁ fun σ₂ h₂ f₂ e₂=>?_
 refine for_nil ?_
 have e:W3 (execCs wst (callF 39) lawC ⟨gB v0 t b0 b1 m0 m1 r0 r1 os (frz σ₂ (shelfM σ.next)).1 (.ref h₂),none⟩ (frz σ₂ (shelfM σ.next)).2) Q:=by
  rw [frz_shelf e₂]
  refine q _ _ ?_
  exact((((Fra.refl [] σ).new).trans f₁ fun r hr=>.inr (by simp at hr;omega)).trans f₂ fun r hr=>.inr (by simp at hr;omega)).del (.inr (Nat.le_refl _))
 refine ex_cons ?_
 exact e
noncomputable abbrev chSt:S:=.asg (.nm (.A .xa)) (.frz (.call (.glob (.H .x0)) [(.comp (.tup [(.tup [(.lit (.int 1)),(.loc (.F .x6))]),(.sub (.sub (.glob (.G .x1)) (.loc (.F .x0))) (.loc (.F .x6)))]) (.F .x6) (.sub (.glob (.G .x1)) (.loc (.F .x0))) none)]))
noncomputable abbrev foSt:S:=.asg (.sub (.loc (.C .xa)) (.loc (.F .x0))) (.call (.glob (.A .xa)) [(.list false []),(.lit .none),(.call (.glob (.A .x1)) [(.list false []),(.loc (.A .xa))]),(.list false []),(.lit (.int 0)),(.call (.glob (.A .x4)) [(.lit (.int 1)),(.lit (.int 3))]),(.tup [])])
noncomputable abbrev cmV (c:V):V:=.inst (.A .x1) [((.I .xc),.lst []),((.A .xa),c)]
theorem fo_step {sh h c:V} {nm:Sm} {rf:Nat} {d d':List (V×V)} (hr:σ.objs rf=some (.dict d)) (hl:d.length≤1000) (hp:dPut (.str nm) (.inst (.A .xa) [((.F .x1),.lst []),((.B .x5),.none),((.K .x7),cmV c),((.H .x7),.lst []),((.B .x7),.int 0),((.K .x8),dec3 1 3),((.J .x3),.tup [])]) d=some d')
  (q:Q .next ⟨gB v0 t b0 b1 m0 m1 r0 r1 os sh h++[((.H .x4),.dct pageR),((.C .xa),.ref rf),((.F .x0),.str nm),((.A .xa),c)],none⟩ (σ.set rf (.dict d'))):W3 (execCs wst (callF 39) [foSt] ⟨gB v0 t b0 b1 m0 m1 r0 r1 os sh h++[((.H .x4),.dct pageR),((.C .xa),.ref rf),((.F .x0),.str nm),((.A .xa),c)],none⟩ σ) Q:=by
 refine ex_cons ?_
 refine W_of (v:=cmV c) (fun uu=>rfl) ?_
 refine W_of (v:=dec3 1 3) (fun uu=>rfl) ?_
 refine W_of (fun uu=>rfl) ?_
 refine o_dset hr (by simp [plainKey];omega) hp ?_
 exact W3.mk q
noncomputable abbrev psL (a b:Sm):List (V×V):=[(.tup [.int 1,.int 65],.str a),(.tup [.int 1,.int 66],.str b)]
theorem ex_wid {n:Nat} {x:S} {fr:Fr} {σ:St} {K:KF} (h:execC wid (callG wid n) x fr σ K):execC wst (callF n) x fr σ K:=by
 show execC wst (callG wst n) x fr σ K
 rw [wst_id];exact h
theorem segC {sh h:V} (q:∀ σ' c,Fra [] σ σ'→W3 (execCs wst (callF 39) lawD ⟨gC v0 t b0 b1 m0 m1 r0 r1 os sh h c fontsD,none⟩ σ') Q):W3 (execCs wst (callF 39) lawC ⟨gB v0 t b0 b1 m0 m1 r0 r1 os sh h,none⟩ σ) Q:=by
 refine ex_cons ?_
 refine ex_wid ?_
 refine ex_cons ?_
 refine ex_cons ?_
 refine for_consW ?_
 have fin:∀ {σ₁:St} {c:V},σ₁.objs σ.next=some (.dict [(.str (.B .x5),fontV (.A .x3) (.A .x5)),(.str (.B .x9),fontV (.E .x2) (.E .x4))])→Fra [] σ σ₁→W3 (execCs wst (callF 39) (.ghost (.C .xa)::lawD) ⟨gC v0 t b0 b1 m0 m1 r0 r1 os sh h c (.ref σ.next),none⟩ σ₁) Q:=fun {σ₁ c} e₁ f₁=>by
  have e:W3 (execCs wst (callF 39) lawD ⟨gC v0 t b0 b1 m0 m1 r0 r1 os sh h c (frz σ₁ (.ref σ.next)).1,none⟩ (frz σ₁ (.ref σ.next)).2) Q:=by
   rw [frz_dict e₁]
   exact q _ _ (f₁.del (.inr (Nat.le_refl _)))
  refine ex_cons ?_
  exact e
 have go2:∀ {σ₁:St} {c:V},σ₁.objs σ.next=some (.dict [(.str (.B .x5),fontV (.A .x3) (.A .x5))])→Fra [] σ σ₁→σ.next < σ₁.next→W3 (forLoop wst (.F .x0) (fun f s=>execCs wst (callF 39) [chSt,foSt] f s) [.str (.B .x9)] ⟨gB v0 t b0 b1 m0 m1 r0 r1 os sh h++[((.H .x4),.dct pageR),((.C .xa),.ref σ.next),((.F .x0),.str (.B .x5)),((.A .xa),c)],none⟩ σ₁) fun fl fr σ=>match fl with
   | .next=>W3 (execCs wst (callF 39) (.ghost (.C .xa)::lawD) fr σ) Q
   | .ret v=>Q (.ret v) fr σ:=fun {σ₁ c} e₁ f₁ l₁=>by
  refine for_consW ?_
  refine ex_cons ?_
  refine comp_cons (comp_cons (comp_nil ?_))
  refine W_some ?_
  have e:W3 (execCs wst (callF 39) [foSt] ⟨gB v0 t b0 b1 m0 m1 r0 r1 os sh h++[((.H .x4),.dct pageR),((.C .xa),.ref σ.next),((.F .x0),.str (.B .x9)),((.A .xa),(frz (σ₁.new (.dict (psL (.E .x2) (.E .x4)))) (.ref σ₁.next)).1)],none⟩ (frz (σ₁.new (.dict (psL (.E .x2) (.E .x4)))) (.ref σ₁.next)).2) fun fl fr σ=>match fl with
    | .next=>W3 (forLoop wst (.F .x0) (fun f s=>execCs wst (callF 39) [chSt,foSt] f s) [] fr σ) fun fl fr σ=>(match fl with
      | .next=>W3 (execCs wst (callF 39) (.ghost (.C .xa)::lawD) fr σ) Q
      | .ret v=>Q (.ret v) fr σ)
    | .ret v=>(match Fl.ret v with
      | .next=>W3 (execCs wst (callF 39) (.ghost (.C .xa)::lawD) fr σ) Q
      | .ret v=>Q (.ret v) fr σ):=by
   rw [frz_dict St.new_eq]
   refine fo_step (d':=[(.str (.B .x5),fontV (.A .x3) (.A .x5)),(.str (.B .x9),fontV (.E .x2) (.E .x4))]) ((St.del_ne (Nat.ne_of_lt l₁)).trans ((St.new_ne (Nat.ne_of_lt l₁)).trans e₁)) (by simp) rfl ?_
   refine for_nil ?_
   exact fin St.set_eq ((f₁.new.del (.inr f₁.1)).set (.inr (Nat.le_refl _)))
  exact e
 refine ex_cons ?_
 refine comp_cons (comp_cons (comp_nil ?_))
 refine W_some ?_
 have e:W3 (execCs wst (callF 39) [foSt] ⟨gB v0 t b0 b1 m0 m1 r0 r1 os sh h++[((.H .x4),.dct pageR),((.C .xa),.ref σ.next),((.F .x0),.str (.B .x5)),((.A .xa),(frz ((σ.new (.dict [])).new (.dict (psL (.A .x3) (.A .x5)))) (.ref (σ.next + 1))).1)],none⟩ (frz ((σ.new (.dict [])).new (.dict (psL (.A .x3) (.A .x5)))) (.ref (σ.next + 1))).2) fun fl fr σ'=>match fl with
   | .next=>W3 (forLoop wst (.F .x0) (fun f s=>execCs wst (callF 39) [chSt,foSt] f s) [.str (.B .x9)] fr σ') fun fl fr σ=>(match fl with
     | .next=>W3 (execCs wst (callF 39) (.ghost (.C .xa)::lawD) fr σ) Q
     | .ret v=>Q (.ret v) fr σ)
   | .ret v=>(match Fl.ret v with
     | .next=>W3 (execCs wst (callF 39) (.ghost (.C .xa)::lawD) fr σ') Q
     | .ret v=>Q (.ret v) fr σ'):=by
  have ne:σ.next≠σ.next + 1:=Nat.ne_of_lt (Nat.lt_succ_self _)
  rw [frz_dict (σ:=(σ.new (.dict [])).new (.dict (psL (.A .x3) (.A .x5)))) (r:=σ.next + 1) St.new_eq]
  refine fo_step (d:=[]) (d':=[(.str (.B .x5),fontV (.A .x3) (.A .x5))]) ((St.del_ne ne).trans ((St.new_ne (by exact ne)).trans St.new_eq)) (by simp) rfl ?_
  exact go2 St.set_eq ((((Fra.refl [] σ).new.new).del (.inr (Nat.le_succ _))).set (.inr (Nat.le_refl _))) (by show σ.next < σ.next + 1 + 1;omega)
 exact e
end
end L
end E
end Mine
end
section
namespace Mine
namespace E
namespace L
noncomputable abbrev rowsV (r0 r1:List Op):V:=.lst [.lst (r0.map Op.v),.lst (r1.map Op.v)]
noncomputable abbrev nmOf (b0:Bool):Sm:=bif b0 then (.A .x3) else (.A .x5)
noncomputable abbrev DA (b0:Bool) (m1:Option M) (r1:List Op):Sm→A→List Show→Prop:=fun f x w=>f=nmOf b0∧Shows D0 r1 m1 x w
noncomputable abbrev DP (b0:Bool) (m0 m1:Option M) (r0 r1:List Op):Sm→A→List Show→Prop:=fun f x w=>(f=(.A .x3)∧Shows (DA b0 m1 r1) r0 m0 x w)∨(f=(.A .x5)∧Shows D0 r1 m1 x w)
theorem ownR_dct {b:Bool} {xo:List (V×V)}:∀ v,ownR b xo=some v→∃ d,v=.dct d:=fun v h=>by
 cases b with
 | false=>cases h
 | true=>cases h;exact⟨_,rfl⟩
theorem lin_small {m:Option M} (h:∀ o,m=some o→o.Lin):∀ o,m=some o→o.Small:=fun o e=>(h o e).small
section
variable {b0 b1:Bool} {m0 m1:Option M} {r0 r1 os:List Op}
theorem Built.len0 (h:Built b0 b1 m0 m1 r0 r1 os):r0.length≤20:=by
 refine e2a2 h.r0 fun k i c l=>?_
 have:=c.len;omega
theorem Built.len1 (h:Built b0 b1 m0 m1 r0 r1 os):r1.length≤20:=by
 refine e2a2 h.r1 fun k i c l=>?_
 have:=c.len;omega
theorem page_do (h:Built b0 b1 m0 m1 r0 r1 os) {n p:Nat} {k:PK} (k1:k.a1=a1V m0 b0) (k2:k.a2=a2V m1 b1) (kr:k.rows=rowsV r0 r1) (ke:k.res=pageR) (ko:k.opens=[]):DoOK (DP b0 m0 m1 r0 r1) (n+18) p k 1000 1000:=by
 have l0:=h.len0
 have l1:=h.len1
 have row0:∀ σ:St,subV σ k.rows (.int ((0:UInt8).toNat:Nat))=some (.lst (r0.map Op.v)):=fun σ=>by rw [kr];rfl
 have row1:∀ σ:St,subV σ k.rows (.int ((1:UInt8).toNat:Nat))=some (.lst (r1.map Op.v)):=fun σ=>by rw [kr];rfl
 refine DoOK.or (D:=fun f x w=>f=(.A .x3)∧Shows (DA b0 m1 r1) r0 m0 x w) (D':=fun f x w=>f=(.A .x5)∧Shows D0 r1 m1 x w) ?_ ?_
 ·refine doOKf (n:=n + 5) (rs:=ownR b0 xoA) (i:=0) (z:=11) (xo:=pageXO) (P':=1100) (by rw [ke];rfl) rfl (.inl ⟨rfl,k1⟩) (by rw [ko];rfl) (by rw [ko];decide) (lin_small h.m0) ownR_dct row0 (by decide) (by decide) (by omega) fun b=>?_
  cases b0 with
  | false=>exact doOKf (n:=n) (rs:=ownR b1 []) (i:=1) (z:=12) (xo:=pageXO) (P':=1200) (by rw [show (inK k (ownR false xoA) b (.tup [.int 11,.int 0])).res=k.res from rfl,ke];rfl) rfl (.inr ⟨rfl,k2⟩) (by show vIn (.tup [.int 12,.int 0]) (k.opens++[.tup [.int 11,.int 0]])=some false;rw [ko];rfl) (by show (k.opens++[V.tup [.int 11,.int 0]]).length < 8;rw [ko];decide) (lin_small h.m1) ownR_dct row1 (by decide) (by decide) (by omega) fun b=>doOK0
  | true=>exact doOKf (n:=n) (rs:=ownR b1 []) (i:=1) (z:=12) (xo:=xoA) (P':=1200) rfl rfl (.inr ⟨rfl,k2⟩) (by show vIn (.tup [.int 12,.int 0]) (k.opens++[.tup [.int 11,.int 0]])=some false;rw [ko];rfl) (by show (k.opens++[V.tup [.int 11,.int 0]]).length < 8;rw [ko];decide) (lin_small h.m1) ownR_dct row1 (by decide) (by decide) (by omega) fun b=>doOK0
 ·exact doOKf (n:=n + 5) (rs:=ownR b1 []) (i:=1) (z:=12) (xo:=pageXO) (P':=1100) (by rw [ke];rfl) rfl (.inr ⟨rfl,k2⟩) (by rw [ko];rfl) (by rw [ko];decide) (lin_small h.m1) ownR_dct row1 (by decide) (by decide) (by omega) fun b=>doOK0
theorem page_run (h:Built b0 b1 m0 m1 r0 r1 os):∃ x' p' ws,Run (DP b0 m0 m1 r0 r1) os ⟨⟨M.one,0,0,(.A .x0)⟩,none,[],[]⟩ ⟨x',none,p',ws⟩∧ws.length≤100∧∀ w∈ws,w.Ok:=by
 refine e2a2 h.r0 fun k0 i0 c0 n0=>?_
 refine e2a2 h.r1 fun k1 i1 c1 n1=>?_
 refine ex3 h.os fun k2 i2 os' hh=>an3 hh fun qq0 c2 n2=>?_;subst qq0
 have g0:Calls D0 [] 0:=fun f hf=>by cases hf
 have s1:∀ x:A,x.Good→∃ ws,Shows D0 r1 m1 x ws∧ws.length≤6∧∀ w∈ws,w.Ok:=fun x hx=>by
  refine e1a3 (shows_of g0 c1 m1 hx) fun ws a b c=>?_
  exact⟨ws,a,by have:k1 * (0 + 3)≤2 * (0 + 3):=Nat.mul_le_mul_right _ (by omega);omega,c⟩
 have gA:Calls (DA b0 m1 r1) [nmOf b0] 6:=fun f hf x hx=>by
  rw [List.mem_singleton] at hf
  refine e1a3 (s1 x hx) fun ws a b c=>?_
  exact⟨ws,⟨hf,a⟩,b,c⟩
 have gP:Calls (DP b0 m0 m1 r0 r1) [(.A .x3),(.A .x5)] 18:=fun f hf x hx=>by
  simp only [List.mem_cons,List.not_mem_nil,or_false] at hf
  rcases hf with rfl | rfl
  ·refine e1a3 (shows_of gA c0 m0 hx) fun ws a b c=>?_
   exact⟨ws,.inl ⟨rfl,a⟩,by have:k0 * (6 + 3)≤2 * (6 + 3):=Nat.mul_le_mul_right _ (by omega);omega,c⟩
  ·refine e1a3 (s1 x hx) fun ws a b c=>?_
   exact⟨ws,.inr ⟨rfl,a⟩,by omega,c⟩
 obtain ⟨x',p',ws,r, -, -, -,l,ok⟩:=cont_run gP c2 (x:=⟨M.one,0,2,(.B .x5)⟩) ⟨by show Nine 0;omega,by show Nine 2;omega,.inl rfl⟩
 exact⟨x',p',ws,.cons (.one .tf) r,by have:k2 * (18 + 3)≤4 * (18 + 3):=Nat.mul_le_mul_right _ (by omega);omega,ok⟩
theorem Built.names (h:Built b0 b1 m0 m1 r0 r1 os):(∀ o∈os,o.names (·∈ [(Nm.A .x3),(Nm.A .x5)]))∧os.length≤100:=by
 refine ex3 h.os fun k2 i2 os' hh=>an3 hh fun qq0 c2 n2=>?_;subst qq0
 refine ⟨fun o ho=>?_,by have:=c2.len;rw [List.length_cons];omega⟩
 rcases List.mem_cons.mp ho with rfl | ho
 ·exact .inl rfl
 ·exact cont_names .ab c2 o ho
theorem Built.names0 (h:Built b0 b1 m0 m1 r0 r1 os):∀ o∈r0,o.names (fun uu=>uu∈ [nmOf b0]):=by
 refine e2a2 h.r0 fun k0 i0 c0 n0=>?_
 cases b0 with
 | false=>exact cont_names .b c0
 | true=>exact cont_names .a c0
theorem Built.names1 (h:Built b0 b1 m0 m1 r0 r1 os):∀ o∈r1,o.names (·∈([]:List Sm)):=by
 refine e2a2 h.r1 fun k1 i1 c1 n1=>?_
 exact cont_names .e c1
theorem fonts_of {lf lx:List Sm} (hu:Us (.B .x5) (.B .x9) lf) {P:Sm→Prop}:∀ {o:Op},o.names P→o.used lf lx→o.fnt (fontsOf lf):=fun {o} hn hm=>by
 cases o with
 | tf f z=>
  refine ⟨hn,?_⟩
  have hm:f∈lf:=hm
  cases hu<;>simp at hm
  ·subst hm;rfl
  ·subst hm;rfl
  ·rcases hm with rfl | rfl<;>rfl
 | _=>trivial
theorem forms_of {lx:List Sm} {sv:Sm→V} (hu:Us (.A .x3) (.A .x5) lx) {f:Sm} (hm:f∈lx):dGet (.str f) (formsOf sv lx)=some (some (sv f)):=by
 cases hu<;>simp at hm
 ·subst hm;rfl
 ·subst hm;rfl
 ·rcases hm with rfl | rfl<;>rfl
end
end L
end E
end Mine
end
section
namespace Mine
namespace E
namespace L
noncomputable abbrev Lim (lx:List Sm) (D:Sm→A→List Show→Prop):Sm→A→List Show→Prop:=fun f x w=>f∈lx∧D f x w
theorem Stp.lim {D:Sm→A→List Show→Prop} {lf lx:List Sm} {o:Op} {c c':C} (h:Stp D o c c') (hu:o.used lf lx):Stp (Lim lx D) o c c':=by
 induction h with
 | one a=>exact .one a
 | sho a=>exact .sho a
 | q=>exact .q
 | Q=>exact .Q
 | dO a=>exact .dO ⟨hu,a⟩
theorem Run.lim {D:Sm→A→List Show→Prop} {lf lx:List Sm} {os:List Op} {c c':C} (h:Run D os c c') (hu:∀ o∈os,o.used lf lx):Run (Lim lx D) os c c':=by
 induction h with
 | nil=>exact .nil
 | cons st _ ih=>exact .cons (st.lim (hu _ (List.mem_cons_self ..))) (ih fun o ho=>hu o (List.mem_cons_of_mem _ ho))
noncomputable def Gd (D:Sm→A→List Show→Prop) (n:Nat) (u:Sm) (v:V):Prop:=∃(os:List Op) (m:Option M) (D':Sm→A→List Show→Prop) (fonts forms:List (V×V)) (lf lx:List Sm),
 v=sheetV (.lst (os.map Op.v)) fonts forms (ownM m)∧(∀ x w,D u x w→Shows D' os m x w)∧(∀ op∈os,op.fnt fonts)∧(∀ op∈os,op.used lf lx)∧RdOK (Lim lx D') (n+11) forms∧(∀ o,m=some o→o.Small)∧os.length≤1000000
theorem rdOKs {D:Sm→A→List Show→Prop} {n:Nat} {lx:List Sm} {sv:Sm→V} (hu:Us (.A .x3) (.A .x5) lx) (hg:∀ u∈lx,Gd D n u (sv u)):RdOK (Lim lx D) (n+12) (formsOf sv lx):=fun f x ws ⟨hf,hd⟩ ok hl=>by
 refine ex7 (hg f hf) fun os m D' fonts forms lf lx' hh=>an7 hh fun e sh hfn hus rd hm hp=>?_
 refine ex2 (sh x ws hd) fun x' p' run=>?_
 refine ⟨_,_,_,_,(forms_of hu hf).trans (by rw [e]),own_small m hm,fun σ s sd K hs hv ls ld q=>?_⟩
 rw [own_mul] at hs
 exact sheet_glyphs rd (run.lim hus) ok hl hp hfn hs hv ls ld q
section
variable {b0 b1:Bool} {m0 m1:Option M} {r0 r1 os:List Op}
theorem sub1 (h:Built b0 b1 m0 m1 r0 r1 os) {n k:Nat} {res xo:List (V×V)} {dp:Int} {u:Sm} {D:Sm→A→List Show→Prop} (hr:dGet (.str (.B .x7)) res=some (some (.dct headsL))) (hx:∃ xo',dGet (.str (.E .x1)) res=some (some (.dct xo'))) (h2:dGet (.str u) xo=some (some (refV 12))) (hd:dp≤7) (hD:∀ x w,D u x w→Shows D0 r1 m1 x w):
  SubE (n+6) (a1V m0 b0) (a2V m1 b1) (rowsV r0 r1) res xo dp u (Gd D k u):=by
 have l1:=h.len1
 refine ⟨12,m1,ownR b1 [],1,r1,h2,.inr ⟨rfl,rfl⟩,ownR_dct,fun σ=>rfl,fun σ K q=>?_⟩
 have hF:dGet (.str (.B .x7)) (resOf res (ownR b1 []))=some (some (.dct headsL)):=by
  cases b1 with
  | false=>exact hr
  | true=>rfl
 have hX:∃ xo',dGet (.str (.E .x1)) (resOf res (ownR b1 []))=some (some (.dct xo')):=by
  cases b1 with
  | false=>exact hx
  | true=>exact⟨_,rfl⟩
 refine ex1 hX fun xo' hX=>?_
 refine text_sheet (G:=fun uu uu=>True) h.names1 (by omega) hF hX (by omega) (fun u hu=>by cases hu) fun σ' lf lx sv f uu uf ux hu=>?_
 exact q _ _ f ⟨r1,m1,D0,_,_,lf,lx,rfl,hD,fun o ho=>fonts_of uf (h.names1 o ho) (hu o ho),hu,fun uu uu uu hz=>hz.2.elim,lin_small h.m1,by omega⟩
theorem sub0 (h:Built b0 b1 m0 m1 r0 r1 os) {n k:Nat} {D:Sm→A→List Show→Prop} (hD:∀ x w,D (.A .x3) x w→Shows (DA b0 m1 r1) r0 m0 x w):
  SubE (n+7) (a1V m0 b0) (a2V m1 b1) (rowsV r0 r1) pageR pageXO 0 (.A .x3) (Gd D (k+1) (.A .x3)):=by
 have l0:=h.len0
 refine ⟨11,m0,ownR b0 xoA,0,r0,rfl,.inl ⟨rfl,rfl⟩,ownR_dct,fun σ=>rfl,fun σ K q=>?_⟩
 have fin:∀ {xo':List (V×V)},dGet (.str (.B .x7)) (resOf pageR (ownR b0 xoA))=some (some (.dct headsL))→dGet (.str (.E .x1)) (resOf pageR (ownR b0 xoA))=some (some (.dct xo'))→dGet (.str (nmOf b0)) xo'=some (some (refV 12))→
   W (callF (n+7) (.glob (.K .x5)) [shelfV (a1V m0 b0) (a2V m1 b1),.dct (resOf pageR (ownR b0 xoA)),.lst (r0.map Op.v),.tup [.int (0 + 1),(ownM m0).v],foV,coV (rowsV r0 r1)] σ) K:=fun {xo'} hF hX h2=>by
  refine text_sheet (n:=n + 1) (G:=Gd (DA b0 m1 r1) k) h.names0 (by omega) hF hX (by omega) (fun u hu=>?_) fun σ' lf lx sv f hg uf ux hu=>?_
  ·rw [List.mem_singleton] at hu
   subst hu
   exact sub1 h (n:=n) hF ⟨_,hX⟩ h2 (by omega) fun x w hd=>hd.2
  ·exact q _ _ f ⟨r0,m0,DA b0 m1 r1,_,_,lf,lx,rfl,hD,fun o ho=>fonts_of uf (h.names0 o ho) (hu o ho),hu,rdOKs ux hg,lin_small h.m0,by omega⟩
 cases b0 with
 | false=>exact fin rfl rfl rfl
 | true=>exact fin rfl rfl rfl
theorem page_sheet (h:Built b0 b1 m0 m1 r0 r1 os) {n k:Nat} {σ:St} {K:V→St→Prop} (q:∀ σ' fonts forms lf lx,Fra [] σ σ'→(∀ op∈os,op.fnt fonts)→(∀ op∈os,op.used lf lx)→RdOK (Lim lx (DP b0 m0 m1 r0 r1)) (k+13) forms→K (sheetV (.lst (os.map Op.v)) fonts forms M.one) σ'):
  W (callF (n+8) (.glob (.K .x5)) [shelfV (a1V m0 b0) (a2V m1 b1),.dct pageR,.lst (os.map Op.v),.tup [.int 0,M.one.v],foV,coV (rowsV r0 r1)] σ) K:=by
 refine an2 h.names fun hn hl=>?_
 refine text_sheet (n:=n + 2) (G:=Gd (DP b0 m0 m1 r0 r1) (k+1)) hn (by omega) rfl rfl (by omega) (fun u hu=>?_) fun σ' lf lx sv f hg uf ux hu=>?_
 ·simp only [List.mem_cons,List.not_mem_nil,or_false] at hu
  rcases hu with rfl | rfl
  ·exact sub0 h fun x w hd=>hd.elim (fun a=>a.2) fun a=>by cases a.1
  ·exact sub1 h (n:=n + 1) (k:=k + 1) rfl ⟨_,rfl⟩ rfl (by omega) fun x w hd=>hd.elim (fun a=>by cases a.1) fun a=>a.2
 ·exact q _ _ _ lf lx f (fun o ho=>fonts_of uf (hn o ho) (hu o ho)) hu (rdOKs ux hg)
end
end L
end E
end Mine
end
section
namespace Mine
namespace E
namespace L
section
variable {σ:St} {K:V→St→Prop} {t:Nat} {Q:Fl→Fr→St→Prop} {v0:V} {b0 b1:Bool} {m0 m1:Option M} {r0 r1 os:List Op}
theorem o_lam {l:List Lm} {k:Lm} (h:σ.objs 0=some (.tab l)) (hc:l.contains k=false) {K:St→Prop} (q:K (σ.set 0 (.tab (k::l)))):O (lamV k σ) K:=O_of (by
 show (match σ.objs 0 with | some (.tab l)=>if l.contains k=true then none else some (σ.set 0 (.tab (k::l))) | _=>none)=_
 rw [h]
 show (if l.contains k=true then none else some (σ.set 0 (.tab (k::l))))=_
 rw [hc];rfl) q
theorem segD (hb:Built b0 b1 m0 m1 r0 r1 os) {h c:V} (h0:σ.objs 0=some (.tab [])) (lt0:0 < σ.next) (q:∀ σ' fr l,σ'.objs 0=some (.tab l)→Q (.ret (.bool true)) fr σ'):
  W3 (execCs wst (callF 39) lawD ⟨gC v0 t b0 b1 m0 m1 r0 r1 os (shelfV (a1V m0 b0) (a2V m1 b1)) h c fontsD,none⟩ σ) Q:=by
 obtain ⟨x',p',ws,run,wl,ok⟩:=page_run hb
 obtain ⟨hn,hl⟩:=hb.names
 refine ex_cons ?_
 refine o_lam h0 rfl ?_
 refine painter_new fun σ₁ e₁ pr o₁=>?_
 have z₁:σ₁.objs 0=some (.tab [.l_0]):=(o₁ 0 lt0).trans St.set_eq
 refine o_meth pr.po ?_
 refine paint (n:=27) (B:=1000) (P:=1000) (σ₀:=σ₁) (by decide) (by decide) (page_do (n:=17) hb rfl rfl rfl rfl rfl) run rfl ⟨_,_,_,_,_,pr,rfl,rfl,Fra.refl _ _,fun r hr=>.inl hr⟩ (by show ws.length≤1000;omega) (by show 0 + 0 + os.length≤1000;omega) fun σ₂ f₂=>?_
 have z₂:σ₂.objs 0=some (.tab [.l_0]):=(f₂.2 0 (by rw [e₁];exact Nat.succ_pos _) (fun hm=>own_all (P:=fun r=>0≠r) (Nat.ne_of_lt lt0) (Nat.ne_of_lt (Nat.succ_pos _)) (Nat.ne_of_lt (Nat.succ_pos _)) (Nat.ne_of_lt (Nat.succ_pos _)) (Nat.ne_of_lt (Nat.succ_pos _)) (Nat.ne_of_lt (Nat.succ_pos _)) (Nat.ne_of_lt (Nat.succ_pos _)) al0 _ hm rfl)).trans z₁
 have l₂:0 < σ₂.next:=Nat.lt_of_lt_of_le (by rw [e₁];exact Nat.succ_pos _) f₂.1
 refine ex_cons ?_
 refine m_one ?_
 refine o_lam z₂ rfl ?_
 refine page_sheet (n:=31) (k:=24) hb fun σ₃ fonts forms lf lx f₃ hfn hus rd=>?_
 have z₃:σ₃.objs 0=some (.tab [.l_2,.l_1,.l_0]):=(f₃.2 0 l₂ (by simp)).trans St.set_eq
 have l₃:0 < σ₃.next:=Nat.lt_of_lt_of_le l₂ f₃.1
 refine ex_cons ?_
 refine lay_glyphs (n:=26) rd (run.lim hus) ok (by show ws.length≤1000;omega) (by omega) hfn fun σ₄ f₄=>?_
 have z₄:=(f₄.2 0 l₃ (by simp)).trans z₃
 have l₄:0 < σ₄.next:=Nat.lt_of_lt_of_le l₃ f₄.1
 refine o_iter (by have:=gly_len ws ok;show (gly ws).length≤_;omega) ?_
 refine told_all (n:=37) ws ?_
 refine law_due (n:=33) ok (by show 1000 * ws.length≤_;omega) fun σ₅ f₅=>?_
 refine O_of (m:=veq (.lst (dueOf ws)) (.lst (dueOf ws))) (veq_due ws) ?_
 exact q _ _ _ ((f₅.2 0 l₄ (by simp)).trans z₄)
theorem law_ok (ns:List Int) (hl:ns.length≤63) (h0:σ.objs 0=some (.tab [])) (lt0:0 < σ.next):callG wid 40 (.glob (.I .xa)) [.lst (ns.map .int)] σ fun v σ'=>v=.bool true∧∃ l,σ'.objs 0=some (.tab l):=by
 rw [← wst_id]
 refine (W_defW rfl rfl ?_).run
 refine segA hl fun σ₁ t b0 b1 m0 m1 r0 r1 os hb f₁=>?_
 have lt₁:=Nat.lt_of_lt_of_le lt0 f₁.1
 refine segB fun σ₂ h f₂=>?_
 have lt₂:=Nat.lt_of_lt_of_le lt₁ f₂.1
 refine segC fun σ₃ c f₃=>?_
 have lt₃:=Nat.lt_of_lt_of_le lt₂ f₃.1
 refine segD hb ((f₃.2 0 lt₂ (by simp)).trans ((f₂.2 0 lt₁ (by simp)).trans ((f₁.2 0 lt0 (by simp)).trans h0))) lt₃ fun σ' fr l z=>?_
 exact⟨rfl,l,z⟩
end
end L
end E
end Mine
end
namespace Mine.E
theorem final:PySem.Challenge.rw_sa0524_01.Holds:=holds_of fun ns h=>L.law_ok ns h rfl (by decide)
end Mine.E
theorem PySem.Challenge.cw_sa0524_01_holds : PySem.Challenge.rw_sa0524_01.Holds :=
 Mine.E.final
