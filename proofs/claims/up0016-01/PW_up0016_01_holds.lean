import PyProof.Rows.All
import Open.Pieces
import Open.FastLooks
import Open.Line
import OpenK.KMake
import OpenK.KMeth
import Wide.Seal
import KE.KTab
import KE.KDictList
import KE.KTree
import KE.RegLcTurns
import KE.KBools
import KE.RegKParD
import KE.KSortAsk
import Wide.All
import Lean
import PySem.Challenge.RW_up0016_01
set_option Elab.async false
set_option maxRecDepth 100000
set_option linter.all false
namespace Mine
noncomputable section
set_option maxHeartbeats 0
open PySem PySem.W
abbrev pw:Program:=PySem.Challenge.pw_up0016_01
set_option genSizeOf false in
set_option genInjectivity false in
structure DP where
 name:Str
 args:Arguments
 body:List Stmt
 scope:Scope
def dpOf:Stmt→DP
 | .FunctionDef n a b _ _ _ s _ _ _=>⟨n,a,b,s⟩
 | _=>⟨"",⟨[],[],none,[],[],none,[]⟩,[],⟨.function,[],false,false,[]⟩⟩
def clB:Stmt→List Stmt
 | .ClassDef _ _ _ b _ _ _ _ _ _ _=>b
 | _=>[]
noncomputable def nthS:List Stmt→Nat→Stmt
 | [],_=>.Pass ⟨0,0,0,0⟩
 | s :: _,0=>s
 | _ :: r,n + 1=>nthS r n
noncomputable def D (i:Nat):DP:=dpOf (nthS pw.main.body i)
def M (i j:Nat):DP:=dpOf (nthS (clB (nthS pw.main.body i)) j)
def G (i n:Nat):List Stmt:=(pw.main.body.drop i).take n
def tp (l:List Value):Obj:=⟨.type "tuple",none,.seq l.toArray 0,#[]⟩
def rc (l:List Value):Obj:=⟨.none,none,.fields l.toArray,#[]⟩
def fl (t:String) (l:List Value):Obj:=⟨.type t,none,.fields l.toArray,#[]⟩
def dc (l:List DictEntry) (n:Nat):Obj:=⟨.type "dict",none,.dict l.toArray n,#[]⟩
def dn (l:List DictEntry) (n:Nat):Obj:=⟨.none,none,.dict l.toArray n,#[]⟩
def en (P:Params) (k:Str) (t:Nat) (v:Value):DictEntry:=⟨PyData.keyHash P k,.str k t,v⟩
def fr (l:List (Option Value)):Obj:=⟨.type "frame",none,.plain,l.toArray⟩
def fnO (d:DP) (q:Str) (pm c:Value):Obj:=⟨.type "function",none,.func { name:=d.name,qualname:=q,params:=d.args,body:=.stmts d.body,scope:=d.scope,globals:=3,closure:=[],defaults:=.none,kwdefaults:=.none,pyModule:=pm,code:=c },#[]⟩
def fnR (d:DP) (q:Str):Obj:=⟨.none,none,.func { name:=d.name,qualname:=q,params:=d.args,body:=.stmts d.body,scope:=d.scope,globals:=0,closure:=[],defaults:=.none,kwdefaults:=.none },#[]⟩
def cO (sl:List (Option Value)) (n:Str) (bs mro:List Value) (ns:Addr) (q:Str) (sub:List Value):Obj:=⟨.type "type",none,.cls { name:=n,bases:=bs,mro:=mro,ns:=ns,qualname:=q,subclasses:=sub },sl.toArray⟩
def s0 (v:Value):List DictEntry→List DictEntry
 | []=>[]
 | e :: r=>⟨e.hash,e.key,v⟩ :: r
noncomputable def alt:Bool→List Obj→List Obj
 | _,[]=>[]
 | true,x :: r=>x :: alt false r
 | false,_ :: r=>alt true r
noncomputable def mkT:Nat→List Obj→BT
 | 0,_=>.nil
 | _ + 1,[]=>.nil
 | n + 1,x :: r=>.node x (mkT n (alt true r)) (mkT n (alt false r))
noncomputable def pat:List (Nat×Obj)→Nat→List Obj→List Obj
 | [],_,l=>l
 | _ :: _,_,[]=>[]
 | (a,o) :: q,i,x :: r=>bif Nat.beq a i then o :: pat q (i + 1) r else x :: pat ((a,o) :: q) (i + 1) r
def S (T:Params→BT) (n k:Nat) (w:World) (os:OsState):SharedT:=⟨T w.params,n,{},#[],{},k,os⟩
def envT:Env:={ scope:=pw.main.scope,locals:=mainNs,globals:=mainNs,cells:=[],code:=.ref 13,frame:=some 14 }
noncomputable def gE (P:Params):List DictEntry:=[en P "__name__" 165 (.str "law_up0016_01" 2290),en P "__doc__" 166 (.none),en P "__package__" 167 (.none),en P "__loader__" 168 (.builtin "__main__.__loader__#opaque"),en P "__spec__" 169 (.none),en P "__annotations__" 170 (.ref 6),en P "__builtins__" 171 (.ref 4),en P "__file__" 173 (.str "/claim/cut.py" 172),en P "__cached__" 174 (.none),en P "_wall" 193 (.ref 21),en P "W_EMPTY" 197 (.int 2 196),en P "W_KIND" 199 (.int 5 198),en P "RuneError" 230 (.ref 38),en P "BadKind" 246 (.ref 51),en P "FIRST_ADDRESS" 250 (.int 16 249),en P "HEAD_WORDS" 252 (.int 2 251),en P "LEAST_SIZE" 254 (.int 3 253),en P "TOP_GEN" 256 (.int 2 255),en P "WANT_NONE" 258 (.int 0 257),en P "WANT_YOUNG" 260 (.int 1 259),en P "WANT_FULL" 262 (.int 3 261),en P "words_for" 269 (.ref 60),en P "Thing" 305 (.ref 77),en P "Heap" 346 (.ref 98),en P "heap_alloc" 356 (.ref 109),en P "used_words" 363 (.ref 116),en P "wants" 370 (.ref 123),en P "note_collected" 378 (.ref 130),en P "find_thing" 391 (.ref 137),en P "slot_word" 399 (.ref 144),en P "card_number" 407 (.ref 151),en P "VOID" 411 (.int 0 410),en P "BOOL" 413 (.int 1 412),en P "CHAR" 415 (.int 2 414),en P "I1" 417 (.int 3 416),en P "U1" 419 (.int 4 418),en P "I2" 421 (.int 5 420),en P "U2" 423 (.int 6 422),en P "I4" 425 (.int 7 424),en P "U4" 427 (.int 8 426),en P "I8" 429 (.int 9 428),en P "U8" 431 (.int 10 430),en P "NINT" 433 (.int 11 432),en P "OBJECT" 435 (.int 12 434),en P "STRING" 437 (.int 13 436),en P "NULLK" 439 (.int 14 438),en P "PRIM_END" 441 (.int 16 440),en P "R_PRIM" 443 (.int 1 442),en P "R_CLASS" 445 (.int 2 444),en P "R_VALUE" 447 (.int 3 446),en P "R_ARRAY" 449 (.int 4 448),en P "R_BYREF" 451 (.int 5 450),en P "R_VAR" 453 (.int 6 452),en P "R_MVAR" 455 (.int 7 454),en P "R_BOXED" 457 (.int 8 456),en P "R_ROREF" 459 (.int 9 458),en P "R_FTN" 461 (.int 10 460),en P "R_RAW" 463 (.int 11 462),en P "DEEPEST_KIND" 465 (.int 24 464),en P "HEAVIEST_KIND" 467 (.int 4096 466),en P "TID_PRIM" 496 (.ref 152),en P "KindTable" 553 (.ref 183),en P "inner_kinds" 561 (.ref 194),en P "row_level" 568 (.ref 201),en P "row_length" 575 (.ref 208),en P "check_kind_row" 585 (.ref 215),en P "check_named" 593 (.ref 222),en P "check_args" 602 (.ref 229),en P "may_stand" 611 (.ref 236),en P "class_kind" 620 (.ref 243),en P "prim_kind" 628 (.ref 250),en P "kind_sort" 636 (.ref 257),en P "elem_of" 645 (.ref 264),en P "is_value" 653 (.ref 271),en P "is_var" 662 (.ref 278),en P "PlaceHost" 697 (.ref 295),en P "V_I4" 701 (.int 1 700),en P "V_I8" 703 (.int 2 702),en P "V_NINT" 705 (.int 3 704),en P "V_REF" 707 (.int 4 706),en P "V_STRUCT" 709 (.int 5 708),en P "V_PLACE" 711 (.int 6 710),en P "V_TEXT" 713 (.int 8 712),en P "NULLV" 716 (.ref 300),en P "PL_HEAP" 718 (.int 3 717),en P "wrap_bits" 726 (.ref 307),en P "wrap32" 733 (.ref 314),en P "plain_default" 740 (.ref 321),en P "refs_in" 751 (.ref 328),en P "move_value" 760 (.ref 335),en P "move_plain" 770 (.ref 342),en P "move_struct" 784 (.ref 349),en P "JP_STAY" 789 (.int (-2) 788),en P "ST_RUN" 791 (.int 0 790),en P "ST_WRONG" 793 (.int 3 792),en P "FR_CALL" 795 (.int 0 794),en P "NT_VOID" 798 (.int (-1) 797),en P "NT_STAY" 801 (.int (-2) 800),en P "TEXT_NULL" 803 (.str "Object reference not set to an instance of an object." 802),en P "LOST" 806 (.ref 350),en P "Frame" 853 (.ref 367),en P "Native" 883 (.ref 388),en P "Starter" 932 (.ref 423),en P "Sweeper" 960 (.ref 444),en P "KindCloser" 1000 (.ref 472),en P "Tray" 1178 (.ref 598),en P "Shelf" 1296 (.ref 668),en P "note_thrown" 1304 (.ref 677),en P "told_row" 1313 (.ref 684),en P "told_default" 1322 (.ref 691),en P "tell_wrong" 1333 (.ref 698),en P "pop_value" 1341 (.ref 705),en P "first_slots" 1353 (.ref 712),en P "alloc_thing" 1362 (.ref 719),en P "text_held" 1371 (.ref 726),en P "made_text" 1380 (.ref 733),en P "interned_text" 1390 (.ref 740),en P "words_of" 1400 (.ref 747),en P "push_word" 1412 (.ref 754),en P "push_value" 1424 (.ref 761),en P "drain" 1436 (.ref 768),en P "old_slots" 1447 (.ref 775),en P "mark" 1462 (.ref 782),en P "reach_more" 1474 (.ref 789),en P "mark_card" 1484 (.ref 796),en P "refers_younger" 1495 (.ref 803),en P "younger_slots" 1505 (.ref 810),en P "renew_cards" 1514 (.ref 817),en P "H_SHORT" 1518 (.int 1 1517),en P "H_LONG" 1520 (.int 2 1519),en P "H_STRONG" 1522 (.int 3 1521),en P "ROW_SORT" 1524 (.int 0 1523),en P "ROW_ADDR" 1526 (.int 1 1525),en P "ROW_ALIVE" 1528 (.int 2 1527),en P "Handles" 1556 (.ref 834),en P "strong_values" 1565 (.ref 845),en P "found_dead" 1576 (.ref 852),en P "clear_handles" 1589 (.ref 859),en P "move_handles" 1598 (.ref 866),en P "pick_finals" 1610 (.ref 873),en P "end_of_older" 1622 (.ref 880),en P "plan_moves" 1634 (.ref 887),en P "Words" 1673 (.ref 911),en P "moved_word" 1683 (.ref 922),en P "stays" 1692 (.ref 929),en P "moved_values" 1703 (.ref 936),en P "new_lists" 1714 (.ref 943),en P "put_lists" 1725 (.ref 950),en P "moved_addrs" 1735 (.ref 957),en P "settle_thing" 1746 (.ref 964),en P "settle_things" 1757 (.ref 971),en P "move_all" 1771 (.ref 978),en P "root_lists" 1784 (.ref 985),en P "find_living" 1796 (.ref 992),en P "collect" 1809 (.ref 999),en P "Collecting" 1835 (.ref 1016),en P "sweep" 1843 (.ref 1025),en P "roots" 1855 (.ref 1032),en P "collect_for" 1863 (.ref 1039),en P "T_NULLREF" 1867 (.int 21 1866),en P "T_INDEX" 1869 (.int 22 1868),en P "T_OOM" 1871 (.int 30 1870),en P "T_ARG" 1873 (.int 31 1872),en P "T_ARGRANGE" 1875 (.int 32 1874),en P "T_TYPE" 1877 (.int 51 1876),en P "Store" 1911 (.ref 1056),en P "N_CONCAT" 1915 (.int 1 1914),en P "N_STR_LENGTH" 1917 (.int 2 1916),en P "N_STR_CHARS" 1919 (.int 3 1918),en P "N_STR_EQ" 1921 (.int 4 1920),en P "N_STR_EQUALS" 1923 (.int 5 1922),en P "N_STR_HASH" 1925 (.int 6 1924),en P "N_SUBSTRING" 1927 (.int 7 1926),en P "N_INDEXOF" 1929 (.int 8 1928),en P "N_STR_COMPARE" 1931 (.int 9 1930),en P "N_TYPE_FROM" 1933 (.int 40 1932),en P "MOST_UNITS" 1935 (.int 1048576 1934),en P "LONG_TEXT" 1937 (.str "Insufficient memory to continue the execution of the program." 1936),en P "EMPTY_RANGE" 1939 (.str "Index and length must refer to a location within the string." 1938),en P "bool_value" 1946 (.ref 1067),en P "thing_named" 1954 (.ref 1074),en P "text_at" 1962 (.ref 1081),en P "no_object" 1969 (.ref 1088),en P "bad_argument" 1978 (.ref 1095),en P "text_hash" 1987 (.ref 1102),en P "TextConcat" 2015 (.ref 1119),en P "TextLength" 2042 (.ref 1138),en P "TextChars" 2070 (.ref 1157),en P "TextSame" 2098 (.ref 1176),en P "TextEquals" 2126 (.ref 1195),en P "TextHash" 2153 (.ref 1214),en P "TextPart" 2182 (.ref 1233),en P "TextIndex" 2210 (.ref 1252),en P "TextCompare" 2238 (.ref 1271),en P "install_native_text" 2245 (.ref 1280),en P "new_type" 2256 (.ref 1287),en P "TypeFrom" 2282 (.ref 1304),en P "install_native_type" 2289 (.ref 1313),en P "_law_where" 2300 (.ref 1320),en P "_law_held" 2306 (.ref 1325),en P "_law_same" 2312 (.ref 1330),en P "_law_ask" 2318 (.ref 1335),en P "_law_put" 2328 (.ref 1342),en P "_law_new" 2340 (.ref 1349),en P "_law_kept" 2353 (.ref 1356),en P "_law_word" 2363 (.ref 1363),en P "_law_type" 2373 (.ref 1370),en P "_law_plain" 2381 (.ref 1377),en P "_law_letters" 2389 (.ref 1384),en P "_law_join" 2404 (.ref 1391),en P "_law_part" 2423 (.ref 1398),en P "_law_alike" 2441 (.ref 1405),en P "_law_gone" 2451 (.ref 1412),en P "_law_deed" 2470 (.ref 1419),en P "_law_end" 2481 (.ref 1426),en P "law" 2487 (.ref 1431)]
noncomputable def cT:List Value:=[.int 1 0,.int 0 0,.ref 20,.int 7 0,.int 0 0,.ref 27,.int 12 0,.int 0 0,.ref 47,.int 22 0,.int 0 0,.ref 59,.int 26 0,.int 0 0,.ref 66,.int 35 0,.int 0 0,.ref 87,.int 50 0,.int 0 0,.ref 108,.int 59 0,.int 0 0,.ref 115,.int 61 0,.int 0 0,.ref 122,.int 67 0,.int 0 0,.ref 129,.int 71 0,.int 0 0,.ref 136,.int 89 0,.int 0 0,.ref 143,.int 91 0,.int 0 0,.ref 150,.int 124 0,.int 0 0,.ref 158,.int 173 0,.int 0 0,.ref 193,.int 182 0,.int 0 0,.ref 200,.int 186 0,.int 0 0,.ref 207,.int 192 0,.int 0 0,.ref 214,.int 214 0,.int 0 0,.ref 221,.int 218 0,.int 0 0,.ref 228,.int 222 0,.int 0 0,.ref 235,.int 227 0,.int 0 0,.ref 242,.int 231 0,.int 0 0,.ref 249,.int 235 0,.int 0 0,.ref 256,.int 237 0,.int 0 0,.ref 263,.int 242 0,.int 0 0,.ref 270,.int 246 0,.int 0 0,.ref 277,.int 250 0,.int 0 0,.ref 284,.int 266 0,.int 0 0,.ref 306,.int 271 0,.int 0 0,.ref 313,.int 273 0,.int 0 0,.ref 320,.int 281 0,.int 0 0,.ref 327,.int 300 0,.int 0 0,.ref 334,.int 304 0,.int 0 0,.ref 341,.int 311 0,.int 0 0,.ref 348,.int 337 0,.int 0 0,.ref 356,.int 355 0,.int 0 0,.ref 377,.int 359 0,.int 0 0,.ref 398,.int 369 0,.int 0 0,.ref 433,.int 373 0,.int 0 0,.ref 454,.int 380 0,.int 0 0,.ref 482,.int 449 0,.int 0 0,.ref 608,.int 506 0,.int 0 0,.ref 676,.int 510 0,.int 0 0,.ref 683,.int 515 0,.int 0 0,.ref 690,.int 520 0,.int 0 0,.ref 697,.int 531 0,.int 0 0,.ref 704,.int 536 0,.int 0 0,.ref 711,.int 551 0,.int 0 0,.ref 718,.int 554 0,.int 0 0,.ref 725,.int 560 0,.int 0 0,.ref 732,.int 564 0,.int 0 0,.ref 739,.int 573 0,.int 0 0,.ref 746,.int 582 0,.int 0 0,.ref 753,.int 590 0,.int 0 0,.ref 760,.int 593 0,.int 0 0,.ref 767,.int 598 0,.int 0 0,.ref 774,.int 606 0,.int 0 0,.ref 781,.int 617 0,.int 0 0,.ref 788,.int 623 0,.int 0 0,.ref 795,.int 625 0,.int 0 0,.ref 802,.int 631 0,.int 0 0,.ref 809,.int 639 0,.int 0 0,.ref 816,.int 650 0,.int 0 0,.ref 823,.int 654 0,.int 0 0,.ref 844,.int 660 0,.int 0 0,.ref 851,.int 663 0,.int 0 0,.ref 858,.int 670 0,.int 0 0,.ref 865,.int 674 0,.int 0 0,.ref 872,.int 686 0,.int 0 0,.ref 879,.int 692 0,.int 0 0,.ref 886,.int 700 0,.int 0 0,.ref 893,.int 708 0,.int 0 0,.ref 921,.int 713 0,.int 0 0,.ref 928,.int 715 0,.int 0 0,.ref 935,.int 720 0,.int 0 0,.ref 942,.int 725 0,.int 0 0,.ref 949,.int 730 0,.int 0 0,.ref 956,.int 735 0,.int 0 0,.ref 963,.int 744 0,.int 0 0,.ref 970,.int 756 0,.int 0 0,.ref 977,.int 769 0,.int 0 0,.ref 984,.int 777 0,.int 0 0,.ref 991,.int 786 0,.int 0 0,.ref 998,.int 797 0,.int 0 0,.ref 1005,.int 801 0,.int 0 0,.ref 1024,.int 807 0,.int 0 0,.ref 1031,.int 827 0,.int 0 0,.ref 1038,.int 838 0,.int 0 0,.ref 1045,.int 862 0,.int 0 0,.ref 1066,.int 866 0,.int 0 0,.ref 1073,.int 868 0,.int 0 0,.ref 1080,.int 872 0,.int 0 0,.ref 1087,.int 875 0,.int 0 0,.ref 1094,.int 878 0,.int 0 0,.ref 1101,.int 883 0,.int 0 0,.ref 1108,.int 897 0,.int 0 0,.ref 1127,.int 904 0,.int 0 0,.ref 1146,.int 914 0,.int 0 0,.ref 1165,.int 922 0,.int 0 0,.ref 1184,.int 932 0,.int 0 0,.ref 1203,.int 939 0,.int 0 0,.ref 1222,.int 954 0,.int 0 0,.ref 1241,.int 964 0,.int 0 0,.ref 1260,.int 976 0,.int 0 0,.ref 1279,.int 986 0,.int 0 0,.ref 1286,.int 996 0,.int 0 0,.ref 1293,.int 1000 0,.int 0 0,.ref 1312,.int 1003 0,.int 0 0,.ref 1319,.int 1008 0,.int 0 0,.ref 1324,.int 1014 0,.int 0 0,.ref 1329,.int 1026 0,.int 0 0,.ref 1334,.int 1049 0,.int 0 0,.ref 1341,.int 1053 0,.int 0 0,.ref 1348,.int 1062 0,.int 0 0,.ref 1355,.int 1070 0,.int 0 0,.ref 1362,.int 1072 0,.int 0 0,.ref 1369,.int 1074 0,.int 0 0,.ref 1376,.int 1078 0,.int 0 0,.ref 1383,.int 1082 0,.int 0 0,.ref 1390,.int 1093 0,.int 0 0,.ref 1397,.int 1109 0,.int 0 0,.ref 1404,.int 1131 0,.int 0 0,.ref 1411,.int 1135 0,.int 0 0,.ref 1418,.int 1174 0,.int 0 0,.ref 1425,.int 1188 0,.int 0 0,.ref 1430]
def xb (a b:String):Obj:=fl "builtin_function_or_method" [.builtin a,.type b]
def xs (a:Nat):Obj:=fl "super" [.ref a,.ref a,.ref a]
noncomputable def xtG:Nat→List Str→List Value
 | _,[]=>[]
 | t,x :: r=>.str x t :: xtG (t + 1) r
def xt (t:Nat) (l:List Str):Obj:=tp (xtG t l)
def xg (n q:Str) (t ln ac r r3 r4 r5 u:Nat):Obj:=fl "code" [.str n t,.str q (t + 1),.str "/claim/cut.py" (t + 2),.int ln 0,.int ac 0,.int 0 0,.int 0 0,.int ac 0,.ref r,.bool true,.int 181 0,.ref (r + 1),.none,.ref r3,.ref r4,.ref r5,.int u 0,.int ln 0,.str "/claim/cut.py" (u + 1)]
def xf (n q:Str) (t ln ac r u:Nat):Obj:=xg n q t ln ac r (r + 2) (r + 3) (r + 4) u
def xc (n:Str) (t ln r u:Nat):Obj:=fl "code" [.str n t,.str n (t + 1),.str "/claim/cut.py" (t + 2),.int ln 0,.int 0 0,.int 0 0,.int 0 0,.int 0 0,.ref r,.bool false,.int 181 0,.ref (r + 1),.none,.none,.none,.none,.int u 0,.int ln 0,.str "/claim/cut.py" (u + 1)]
noncomputable def m0:Value:=.str "framerune.faults" 194
noncomputable def m1:Value:=.str "framerune.heap" 247
noncomputable def m2:Value:=.str "framerune.kinds" 408
noncomputable def m3:Value:=.str "framerune.places" 663
noncomputable def m4:Value:=.str "framerune.values" 698
noncomputable def m5:Value:=.str "framerune.mbase" 785
noncomputable def m6:Value:=.str "framerune.marker" 1391
noncomputable def m7:Value:=.str "framerune.cards" 1475
noncomputable def m8:Value:=.str "framerune.handles" 1515
noncomputable def m9:Value:=.str "framerune.compact" 1611
noncomputable def m10:Value:=.str "framerune.collect" 1772
noncomputable def m11:Value:=.str "framerune.machine" 1810
noncomputable def m12:Value:=.str "framerune.store" 1864
noncomputable def m13:Value:=.str "framerune.natives" 1912
noncomputable def m14:Value:=.str "law_up0016_01" 2290
noncomputable def oc0 (P:Params):List Obj:=[boot_o_0 P,
boot_o_1 P,
dn [en P "type.__subclasses__.Exception.0" 227 (.int 38 0),en P "type.__subclasses__.Exception.n" 228 (.int 1 0)] 2,
dc (s0 (.str "law_up0016_01" 2290) ((gE P).take 216)) 216,
boot_o_4 P,
boot_o_5 P,
boot_o_6 P,
boot_o_7 P,
boot_o_8 P,
boot_o_9 P,
boot_o_10 P,
tp [],
rc (cT.take 378),
xc "<module>" 182 1 11 185,
fr [some (.ref 13),some (.ref 3),some (.ref 3),none,some (.str "__main__" 164),none,some (.ref 0)],
tp [],
rc [],
tp [.str "k" 190],
tp [],
fnR (D 0) "_wall",
fl "code" [.str "_wall" 187,.str "_wall" 188,.str "/claim/cut.py" 189,.int 1 0,.int 1 0,.int 0 0,.int 0 0,.int 3 0,.ref 15,.bool true,.int 181 0,.ref 16,.none,.ref 17,.ref 18,.ref 19,.int 191 0,.int 1 0,.str "/claim/cut.py" 192],
fnO (D 0) "_wall" (.str "__main__" 164) (.ref 20),
tp [.type "Exception"],
xb "type.__prepare__" "type",
dc [en P "__module__" 207 (.str "framerune.faults" 194),en P "__qualname__" 209 (.str "RuneError" 208),en P "__firstlineno__" 211 (.int 7 210),en P "__init__" 220 (.ref 35),en P "__static_attributes__" 223 (.ref 36)] 5,
tp [],
rc [.int 9 0,.int 4 0,.ref 34],
xc "RuneError" 202 7 25 205,
fr [some (.ref 27),some (.ref 3),some (.ref 24),none,some (.str "framerune.faults" 194),none,some (.ref 0)],
tp [],
rc [],
xt 215 ["self","code","at"],
tp [],
fnR (M 4 0) "RuneError.__init__",
xf "__init__" "RuneError.__init__" 212 9 3 29 218,
fnO (M 4 0) "RuneError.__init__" m0 (.ref 34),
xt 221 ["at","code"],
dc [en P "__module__" 207 (.str "framerune.faults" 194),en P "__firstlineno__" 211 (.int 7 210),en P "__init__" 220 (.ref 35),en P "__static_attributes__" 223 (.ref 36),en P "__weakref__" 225 (.ref 39),en P "__doc__" 226 (.none)] 3,
cO [some (.ref 22),none,some (.str "RuneError" 200),some (.str "RuneError" 208),some (.builtin "Exception.__new__"),some (.bool true)] "RuneError" [.type "Exception"] [.ref 38,.type "Exception",.type "BaseException",.type "object"] 37 "RuneError" [.ref 51],
fl "getset_descriptor" [.str "__weakref__" 224,.ref 38,.builtin "ExceptionGroup.__weakref__",.none],
xs 38,
fl "builtin_function_or_method" [.builtin "object.__init_subclass__",.ref 38],
tp [.ref 38],
xb "type.__prepare__" "type",
dc [en P "__module__" 238 (.str "framerune.faults" 194),en P "__qualname__" 240 (.str "BadKind" 239),en P "__firstlineno__" 242 (.int 12 241),en P "__static_attributes__" 243 (.ref 49)] 4,
tp [],
rc [],
xc "BadKind" 233 12 45 236,
fr [some (.ref 47),some (.ref 3),some (.ref 44),none,some (.str "framerune.faults" 194),none,some (.ref 0)],
tp [],
dc [en P "__module__" 238 (.str "framerune.faults" 194),en P "__firstlineno__" 242 (.int 12 241),en P "__static_attributes__" 243 (.ref 49),en P "__doc__" 244 (.none)] 2,
cO [some (.ref 42),none,some (.str "BadKind" 231),some (.str "BadKind" 239),some (.builtin "Exception.__new__"),some (.bool true)] "BadKind" [.ref 38] [.ref 51,.ref 38,.type "Exception",.type "BaseException",.type "object"] 50 "BadKind" [],
xs 51,
fl "builtin_function_or_method" [.builtin "object.__init_subclass__",.ref 51],
tp [],
rc [],
tp [.str "count" 266],
tp [],
fnR (D 14) "words_for",
fl "code" [.str "words_for" 263,.str "words_for" 264,.str "/claim/cut.py" 265,.int 22 0,.int 1 0,.int 0 0,.int 0 0,.int 3 0,.ref 54,.bool true,.int 181 0,.ref 55,.none,.ref 56,.ref 57,.ref 58,.int 267 0,.int 22 0,.str "/claim/cut.py" 268],
fnO (D 14) "words_for" m1 (.ref 59),
tp [],
xb "type.__prepare__" "type",
dc [en P "__module__" 277 (.str "framerune.heap" 247),en P "__qualname__" 279 (.str "Thing" 278),en P "__firstlineno__" 281 (.int 26 280),en P "__init__" 291 (.ref 74),en P "__static_attributes__" 298 (.ref 75)] 5]
noncomputable def oc1 (P:Params):List Obj:=[tp [],
rc [.int 28 0,.int 4 0,.ref 73],
xc "Thing" 272 26 64 275,
fr [some (.ref 66),some (.ref 3),some (.ref 63),none,some (.str "framerune.heap" 247),none,some (.ref 0)],
tp [],
rc [],
xt 285 ["self","addr","kind","slots"],
tp [],
fnR (M 15 0) "Thing.__init__",
fl "code" [.str "__init__" 282,.str "Thing.__init__" 283,.str "/claim/cut.py" 284,.int 28 0,.int 4 0,.int 0 0,.int 0 0,.int 3 0,.ref 68,.bool true,.int 181 0,.ref 69,.none,.ref 70,.ref 71,.ref 72,.int 289 0,.int 28 0,.str "/claim/cut.py" 290],
fnO (M 15 0) "Thing.__init__" m1 (.ref 73),
xt 292 ["addr","gen","kind","serial","size","slots"],
dc [en P "__module__" 277 (.str "framerune.heap" 247),en P "__firstlineno__" 281 (.int 26 280),en P "__init__" 291 (.ref 74),en P "__static_attributes__" 298 (.ref 75),en P "__dict__" 300 (.ref 78),en P "__weakref__" 302 (.ref 79),en P "__doc__" 303 (.none)] 4,
cO [none,none,some (.str "Thing" 270),some (.str "Thing" 278),some (.builtin "object.__new__"),some (.bool true)] "Thing" [.type "object"] [.ref 77,.type "object"] 76 "Thing" [],
fl "getset_descriptor" [.str "__dict__" 299,.ref 77,.builtin "function.__dict__",.builtin "function.__dict__#set"],
fl "getset_descriptor" [.str "__weakref__" 301,.ref 77,.builtin "ExceptionGroup.__weakref__",.none],
xs 77,
fl "builtin_function_or_method" [.builtin "object.__init_subclass__",.ref 77],
tp [],
xb "type.__prepare__" "type",
dc [en P "__module__" 313 (.str "framerune.heap" 247),en P "__qualname__" 315 (.str "Heap" 314),en P "__firstlineno__" 317 (.int 35 316),en P "__init__" 326 (.ref 95),en P "__static_attributes__" 339 (.ref 96)] 5,
tp [],
rc [.int 37 0,.int 4 0,.ref 94],
xc "Heap" 308 35 85 311,
fr [some (.ref 87),some (.ref 3),some (.ref 84),none,some (.str "framerune.heap" 247),none,some (.ref 0)],
tp [],
rc [],
xt 321 ["self","limit","card_bits"],
tp [],
fnR (M 16 0) "Heap.__init__",
xf "__init__" "Heap.__init__" 318 37 3 89 324,
fnO (M 16 0) "Heap.__init__" m1 (.ref 94),
xt 327 ["at","card_bits","cards","finals","fresh","limit","made","moved","ready","things","top","young_limit"],
dc [en P "__module__" 313 (.str "framerune.heap" 247),en P "__firstlineno__" 317 (.int 35 316),en P "__init__" 326 (.ref 95),en P "__static_attributes__" 339 (.ref 96),en P "__dict__" 341 (.ref 99),en P "__weakref__" 343 (.ref 100),en P "__doc__" 344 (.none)] 4,
cO [none,none,some (.str "Heap" 306),some (.str "Heap" 314),some (.builtin "object.__new__"),some (.bool true)] "Heap" [.type "object"] [.ref 98,.type "object"] 97 "Heap" [],
fl "getset_descriptor" [.str "__dict__" 340,.ref 98,.builtin "function.__dict__",.builtin "function.__dict__#set"],
fl "getset_descriptor" [.str "__weakref__" 342,.ref 98,.builtin "ExceptionGroup.__weakref__",.none],
xs 98,
fl "builtin_function_or_method" [.builtin "object.__init_subclass__",.ref 98],
tp [],
rc [],
xt 350 ["heap","kind","slots","thing"],
tp [],
fnR (D 17) "heap_alloc",
xf "heap_alloc" "heap_alloc" 347 50 3 103 354,
fnO (D 17) "heap_alloc" m1 (.ref 108),
tp [],
rc [],
tp [.str "heap" 360],
tp [],
fnR (D 18) "used_words",
fl "code" [.str "used_words" 357,.str "used_words" 358,.str "/claim/cut.py" 359,.int 59 0,.int 1 0,.int 0 0,.int 0 0,.int 3 0,.ref 110,.bool true,.int 181 0,.ref 111,.none,.ref 112,.ref 113,.ref 114,.int 361 0,.int 59 0,.str "/claim/cut.py" 362],
fnO (D 18) "used_words" m1 (.ref 115),
tp [],
rc [],
tp [.str "heap" 367],
tp [],
fnR (D 19) "wants",
fl "code" [.str "wants" 364,.str "wants" 365,.str "/claim/cut.py" 366,.int 61 0,.int 1 0,.int 0 0,.int 0 0,.int 3 0,.ref 117,.bool true,.int 181 0,.ref 118,.none,.ref 119,.ref 120,.ref 121,.int 368 0,.int 61 0,.str "/claim/cut.py" 369],
fnO (D 19) "wants" m1 (.ref 122),
tp [],
rc [],
xt 374 ["heap","gen"],
tp []]
noncomputable def oc2 (P:Params):List Obj:=[fnR (D 20) "note_collected",
fl "code" [.str "note_collected" 371,.str "note_collected" 372,.str "/claim/cut.py" 373,.int 67 0,.int 2 0,.int 0 0,.int 0 0,.int 3 0,.ref 124,.bool true,.int 181 0,.ref 125,.none,.ref 126,.ref 127,.ref 128,.int 376 0,.int 67 0,.str "/claim/cut.py" 377],
fnO (D 20) "note_collected" m1 (.ref 129),
tp [],
rc [],
xt 382 ["heap","word","exact","low","high","middle","thing"],
tp [],
fnR (D 21) "find_thing",
fl "code" [.str "find_thing" 379,.str "find_thing" 380,.str "/claim/cut.py" 381,.int 71 0,.int 2 0,.int 0 0,.int 0 0,.int 3 0,.ref 131,.bool true,.int 181 0,.ref 132,.none,.ref 133,.ref 134,.ref 135,.int 389 0,.int 71 0,.str "/claim/cut.py" 390],
fnO (D 21) "find_thing" m1 (.ref 136),
tp [],
rc [],
xt 395 ["thing","slot"],
tp [],
fnR (D 22) "slot_word",
fl "code" [.str "slot_word" 392,.str "slot_word" 393,.str "/claim/cut.py" 394,.int 89 0,.int 2 0,.int 0 0,.int 0 0,.int 3 0,.ref 138,.bool true,.int 181 0,.ref 139,.none,.ref 140,.ref 141,.ref 142,.int 397 0,.int 89 0,.str "/claim/cut.py" 398],
fnO (D 22) "slot_word" m1 (.ref 143),
tp [],
rc [],
xt 403 ["heap","word"],
tp [],
fnR (D 23) "card_number",
fl "code" [.str "card_number" 400,.str "card_number" 401,.str "/claim/cut.py" 402,.int 91 0,.int 2 0,.int 0 0,.int 0 0,.int 3 0,.ref 145,.bool true,.int 181 0,.ref 146,.none,.ref 147,.ref 148,.ref 149,.int 405 0,.int 91 0,.str "/claim/cut.py" 406],
fnO (D 23) "card_number" m1 (.ref 150),
dc [⟨20,.int 20 468,.int 0 410⟩,⟨9,.int 9 469,.int 1 412⟩,⟨10,.int 10 470,.int 2 414⟩,⟨11,.int 11 471,.int 3 416⟩,⟨12,.int 12 472,.int 4 418⟩,⟨13,.int 13 473,.int 5 420⟩,⟨14,.int 14 474,.int 6 422⟩,⟨15,.int 15 475,.int 7 424⟩,⟨16,.int 16 476,.int 8 426⟩,⟨17,.int 17 477,.int 9 428⟩,⟨18,.int 18 478,.int 10 430⟩,⟨19,.int 19 479,.int 11 432⟩,⟨1,.int 1 480,.int 12 434⟩,⟨4,.int 4 481,.int 13 436⟩] 14,
tp [],
xb "type.__prepare__" "type",
dc [en P "__module__" 504 (.str "framerune.kinds" 408),en P "__qualname__" 506 (.str "KindTable" 505),en P "__firstlineno__" 508 (.int 124 507),en P "__init__" 517 (.ref 166),en P "row" 525 (.ref 173),en P "put" 540 (.ref 180),en P "__static_attributes__" 546 (.ref 181)] 7,
tp [],
rc [.int 126 0,.int 4 0,.ref 165,.int 140 0,.int 4 0,.ref 172,.int 145 0,.int 4 0,.ref 179],
xc "KindTable" 499 124 156 502,
fr [some (.ref 158),some (.ref 3),some (.ref 155),none,some (.str "framerune.kinds" 408),none,some (.ref 0)],
tp [],
rc [],
xt 512 ["self","number","row"],
tp [],
fnR (M 55 0) "KindTable.__init__",
fl "code" [.str "__init__" 509,.str "KindTable.__init__" 510,.str "/claim/cut.py" 511,.int 126 0,.int 1 0,.int 0 0,.int 0 0,.int 3 0,.ref 160,.bool true,.int 181 0,.ref 161,.none,.ref 162,.ref 163,.ref 164,.int 515 0,.int 126 0,.str "/claim/cut.py" 516],
fnO (M 55 0) "KindTable.__init__" m2 (.ref 165),
tp [],
rc [],
xt 521 ["self","k"],
tp [],
fnR (M 55 1) "KindTable.row",
fl "code" [.str "row" 518,.str "KindTable.row" 519,.str "/claim/cut.py" 520,.int 140 0,.int 2 0,.int 0 0,.int 0 0,.int 3 0,.ref 167,.bool true,.int 181 0,.ref 168,.none,.ref 169,.ref 170,.ref 171,.int 523 0,.int 140 0,.str "/claim/cut.py" 524],
fnO (M 55 1) "KindTable.row" m2 (.ref 172),
tp [],
rc [],
xt 529 ["self","row","found","depth","weight","opened","level","inner","k"],
tp [],
fnR (M 55 2) "KindTable.put",
fl "code" [.str "put" 526,.str "KindTable.put" 527,.str "/claim/cut.py" 528,.int 145 0,.int 2 0,.int 0 0,.int 0 0,.int 3 0,.ref 174,.bool true,.int 181 0,.ref 175,.none,.ref 176,.ref 177,.ref 178,.int 538 0,.int 145 0,.str "/claim/cut.py" 539],
fnO (M 55 2) "KindTable.put" m2 (.ref 179),
xt 541 ["depths","index","opens","rows","weights"],
dc [en P "__module__" 504 (.str "framerune.kinds" 408),en P "__firstlineno__" 508 (.int 124 507),en P "__init__" 517 (.ref 166),en P "row" 525 (.ref 173),en P "put" 540 (.ref 180),en P "__static_attributes__" 546 (.ref 181),en P "__dict__" 548 (.ref 184),en P "__weakref__" 550 (.ref 185),en P "__doc__" 551 (.none)] 4,
cO [none,none,some (.str "KindTable" 497),some (.str "KindTable" 505),some (.builtin "object.__new__"),some (.bool true)] "KindTable" [.type "object"] [.ref 183,.type "object"] 182 "KindTable" [],
fl "getset_descriptor" [.str "__dict__" 547,.ref 183,.builtin "function.__dict__",.builtin "function.__dict__#set"],
fl "getset_descriptor" [.str "__weakref__" 549,.ref 183,.builtin "ExceptionGroup.__weakref__",.none],
xs 183,
fl "builtin_function_or_method" [.builtin "object.__init_subclass__",.ref 183],
tp [],
rc [],
xt 557 ["row","sort"],
tp []]
noncomputable def oc3 (P:Params):List Obj:=[fnR (D 56) "inner_kinds",
fl "code" [.str "inner_kinds" 554,.str "inner_kinds" 555,.str "/claim/cut.py" 556,.int 173 0,.int 1 0,.int 0 0,.int 0 0,.int 3 0,.ref 188,.bool true,.int 181 0,.ref 189,.none,.ref 190,.ref 191,.ref 192,.int 559 0,.int 173 0,.str "/claim/cut.py" 560],
fnO (D 56) "inner_kinds" m2 (.ref 193),
tp [],
rc [],
tp [.str "sort" 565],
tp [],
fnR (D 57) "row_level",
fl "code" [.str "row_level" 562,.str "row_level" 563,.str "/claim/cut.py" 564,.int 182 0,.int 1 0,.int 0 0,.int 0 0,.int 3 0,.ref 195,.bool true,.int 181 0,.ref 196,.none,.ref 197,.ref 198,.ref 199,.int 566 0,.int 182 0,.str "/claim/cut.py" 567],
fnO (D 57) "row_level" m2 (.ref 200),
tp [],
rc [],
tp [.str "sort" 572],
tp [],
fnR (D 58) "row_length",
fl "code" [.str "row_length" 569,.str "row_length" 570,.str "/claim/cut.py" 571,.int 186 0,.int 1 0,.int 0 0,.int 0 0,.int 3 0,.ref 202,.bool true,.int 181 0,.ref 203,.none,.ref 204,.ref 205,.ref 206,.int 573 0,.int 186 0,.str "/claim/cut.py" 574],
fnO (D 58) "row_length" m2 (.ref 207),
tp [],
rc [],
xt 579 ["kt","row","sort","inner"],
tp [],
fnR (D 59) "check_kind_row",
fl "code" [.str "check_kind_row" 576,.str "check_kind_row" 577,.str "/claim/cut.py" 578,.int 192 0,.int 2 0,.int 0 0,.int 0 0,.int 3 0,.ref 209,.bool true,.int 181 0,.ref 210,.none,.ref 211,.ref 212,.ref 213,.int 583 0,.int 192 0,.str "/claim/cut.py" 584],
fnO (D 59) "check_kind_row" m2 (.ref 214),
tp [],
rc [],
xt 589 ["kt","row"],
tp [],
fnR (D 60) "check_named",
fl "code" [.str "check_named" 586,.str "check_named" 587,.str "/claim/cut.py" 588,.int 214 0,.int 2 0,.int 0 0,.int 0 0,.int 3 0,.ref 216,.bool true,.int 181 0,.ref 217,.none,.ref 218,.ref 219,.ref 220,.int 591 0,.int 214 0,.str "/claim/cut.py" 592],
fnO (D 60) "check_named" m2 (.ref 221),
tp [],
rc [],
xt 597 ["kt","args","arg"],
tp [],
fnR (D 61) "check_args",
fl "code" [.str "check_args" 594,.str "check_args" 595,.str "/claim/cut.py" 596,.int 218 0,.int 2 0,.int 0 0,.int 0 0,.int 3 0,.ref 223,.bool true,.int 181 0,.ref 224,.none,.ref 225,.ref 226,.ref 227,.int 600 0,.int 218 0,.str "/claim/cut.py" 601],
fnO (D 61) "check_args" m2 (.ref 228),
tp [],
rc [],
xt 606 ["kt","k","sort"],
tp [],
fnR (D 62) "may_stand",
fl "code" [.str "may_stand" 603,.str "may_stand" 604,.str "/claim/cut.py" 605,.int 222 0,.int 2 0,.int 0 0,.int 0 0,.int 3 0,.ref 230,.bool true,.int 181 0,.ref 231,.none,.ref 232,.ref 233,.ref 234,.int 609 0,.int 222 0,.str "/claim/cut.py" 610],
fnO (D 62) "may_stand" m2 (.ref 235),
tp [],
rc [],
xt 615 ["kt","tid","args"],
tp [],
fnR (D 63) "class_kind",
xf "class_kind" "class_kind" 612 227 3 237 618,
fnO (D 63) "class_kind" m2 (.ref 242),
tp [],
rc [],
xt 624 ["tid","args"],
tp [],
fnR (D 64) "prim_kind",
fl "code" [.str "prim_kind" 621,.str "prim_kind" 622,.str "/claim/cut.py" 623,.int 231 0,.int 2 0,.int 0 0,.int 0 0,.int 3 0,.ref 244,.bool true,.int 181 0,.ref 245,.none,.ref 246,.ref 247,.ref 248,.int 626 0,.int 231 0,.str "/claim/cut.py" 627],
fnO (D 64) "prim_kind" m2 (.ref 249),
tp [],
rc [],
xt 632 ["kt","k"],
tp [],
fnR (D 65) "kind_sort"]
noncomputable def oc4 (P:Params):List Obj:=[fl "code" [.str "kind_sort" 629,.str "kind_sort" 630,.str "/claim/cut.py" 631,.int 235 0,.int 2 0,.int 0 0,.int 0 0,.int 3 0,.ref 251,.bool true,.int 181 0,.ref 252,.none,.ref 253,.ref 254,.ref 255,.int 634 0,.int 235 0,.str "/claim/cut.py" 635],
fnO (D 65) "kind_sort" m2 (.ref 256),
tp [],
rc [],
xt 640 ["kt","k","row"],
tp [],
fnR (D 66) "elem_of",
fl "code" [.str "elem_of" 637,.str "elem_of" 638,.str "/claim/cut.py" 639,.int 237 0,.int 2 0,.int 0 0,.int 0 0,.int 3 0,.ref 258,.bool true,.int 181 0,.ref 259,.none,.ref 260,.ref 261,.ref 262,.int 643 0,.int 237 0,.str "/claim/cut.py" 644],
fnO (D 66) "elem_of" m2 (.ref 263),
tp [],
rc [],
xt 649 ["kt","k"],
tp [],
fnR (D 67) "is_value",
fl "code" [.str "is_value" 646,.str "is_value" 647,.str "/claim/cut.py" 648,.int 242 0,.int 2 0,.int 0 0,.int 0 0,.int 3 0,.ref 265,.bool true,.int 181 0,.ref 266,.none,.ref 267,.ref 268,.ref 269,.int 651 0,.int 242 0,.str "/claim/cut.py" 652],
fnO (D 67) "is_value" m2 (.ref 270),
tp [],
rc [],
xt 657 ["kt","k","sort"],
tp [],
fnR (D 68) "is_var",
fl "code" [.str "is_var" 654,.str "is_var" 655,.str "/claim/cut.py" 656,.int 246 0,.int 2 0,.int 0 0,.int 0 0,.int 3 0,.ref 272,.bool true,.int 181 0,.ref 273,.none,.ref 274,.ref 275,.ref 276,.int 660 0,.int 246 0,.str "/claim/cut.py" 661],
fnO (D 68) "is_var" m2 (.ref 277),
tp [],
xb "type.__prepare__" "type",
dc [en P "__module__" 672 (.str "framerune.places" 663),en P "__qualname__" 674 (.str "PlaceHost" 673),en P "__firstlineno__" 676 (.int 250 675),en P "__init__" 686 (.ref 292),en P "__static_attributes__" 690 (.ref 293)] 5,
tp [],
rc [.int 252 0,.int 4 0,.ref 291],
xc "PlaceHost" 667 250 282 670,
fr [some (.ref 284),some (.ref 3),some (.ref 281),none,some (.str "framerune.places" 663),none,some (.ref 0)],
tp [],
rc [],
xt 680 ["self","heap","frames","statics"],
tp [],
fnR (M 70 0) "PlaceHost.__init__",
fl "code" [.str "__init__" 677,.str "PlaceHost.__init__" 678,.str "/claim/cut.py" 679,.int 252 0,.int 4 0,.int 0 0,.int 0 0,.int 3 0,.ref 286,.bool true,.int 181 0,.ref 287,.none,.ref 288,.ref 289,.ref 290,.int 684 0,.int 252 0,.str "/claim/cut.py" 685],
fnO (M 70 0) "PlaceHost.__init__" m3 (.ref 291),
xt 687 ["frames","heap","statics"],
dc [en P "__module__" 672 (.str "framerune.places" 663),en P "__firstlineno__" 676 (.int 250 675),en P "__init__" 686 (.ref 292),en P "__static_attributes__" 690 (.ref 293),en P "__dict__" 692 (.ref 296),en P "__weakref__" 694 (.ref 297),en P "__doc__" 695 (.none)] 4,
cO [none,none,some (.str "PlaceHost" 665),some (.str "PlaceHost" 673),some (.builtin "object.__new__"),some (.bool true)] "PlaceHost" [.type "object"] [.ref 295,.type "object"] 294 "PlaceHost" [],
fl "getset_descriptor" [.str "__dict__" 691,.ref 295,.builtin "function.__dict__",.builtin "function.__dict__#set"],
fl "getset_descriptor" [.str "__weakref__" 693,.ref 295,.builtin "ExceptionGroup.__weakref__",.none],
xs 295,
fl "builtin_function_or_method" [.builtin "object.__init_subclass__",.ref 295],
tp [.int 4 714,.int 0 715],
tp [],
rc [],
xt 722 ["n","bits"],
tp [],
fnR (D 81) "wrap_bits",
fl "code" [.str "wrap_bits" 719,.str "wrap_bits" 720,.str "/claim/cut.py" 721,.int 266 0,.int 2 0,.int 0 0,.int 0 0,.int 3 0,.ref 301,.bool true,.int 181 0,.ref 302,.none,.ref 303,.ref 304,.ref 305,.int 724 0,.int 266 0,.str "/claim/cut.py" 725],
fnO (D 81) "wrap_bits" m4 (.ref 306),
tp [],
rc [],
tp [.str "n" 730],
tp [],
fnR (D 82) "wrap32",
fl "code" [.str "wrap32" 727,.str "wrap32" 728,.str "/claim/cut.py" 729,.int 271 0,.int 1 0,.int 0 0,.int 0 0,.int 3 0,.ref 308,.bool true,.int 181 0,.ref 309,.none,.ref 310,.ref 311,.ref 312,.int 731 0,.int 271 0,.str "/claim/cut.py" 732],
fnO (D 82) "wrap32" m4 (.ref 313),
tp [],
rc [],
tp [.str "k" 737],
tp [],
fnR (D 83) "plain_default"]
noncomputable def oc5 (P:Params):List Obj:=[fl "code" [.str "plain_default" 734,.str "plain_default" 735,.str "/claim/cut.py" 736,.int 273 0,.int 1 0,.int 0 0,.int 0 0,.int 3 0,.ref 315,.bool true,.int 181 0,.ref 316,.none,.ref 317,.ref 318,.ref 319,.int 738 0,.int 273 0,.str "/claim/cut.py" 739],
fnO (D 83) "plain_default" m4 (.ref 320),
tp [],
rc [],
xt 744 ["value","found","todo","top","place"],
tp [],
fnR (D 84) "refs_in",
fl "code" [.str "refs_in" 741,.str "refs_in" 742,.str "/claim/cut.py" 743,.int 281 0,.int 1 0,.int 0 0,.int 0 0,.int 3 0,.ref 322,.bool true,.int 181 0,.ref 323,.none,.ref 324,.ref 325,.ref 326,.int 749 0,.int 281 0,.str "/claim/cut.py" 750],
fnO (D 84) "refs_in" m4 (.ref 327),
tp [],
rc [],
xt 755 ["value","forward","words"],
tp [],
fnR (D 85) "move_value",
xf "move_value" "move_value" 752 300 3 329 758,
fnO (D 85) "move_value" m4 (.ref 334),
tp [],
rc [],
xt 764 ["value","forward","words","place"],
tp [],
fnR (D 86) "move_plain",
xf "move_plain" "move_plain" 761 304 3 336 768,
fnO (D 86) "move_plain" m4 (.ref 341),
tp [],
rc [],
xt 774 ["value","forward","words","todo","rebuilt","struct_value","items","item"],
tp [],
fnR (D 87) "move_struct",
xf "move_struct" "move_struct" 771 311 3 343 782,
fnO (D 87) "move_struct" m4 (.ref 348),
tp [.int 0 804,.int 0 805],
tp [],
xb "type.__prepare__" "type",
dc [en P "__module__" 814 (.str "framerune.mbase" 785),en P "__qualname__" 816 (.str "Frame" 815),en P "__firstlineno__" 818 (.int 337 817),en P "__init__" 830 (.ref 364),en P "__static_attributes__" 846 (.ref 365)] 5,
tp [],
rc [.int 339 0,.int 4 0,.ref 363],
xc "Frame" 809 337 354 812,
fr [some (.ref 356),some (.ref 3),some (.ref 353),none,some (.str "framerune.mbase" 785),none,some (.ref 0)],
tp [],
rc [],
xt 822 ["self","number","mref","body","args","sort"],
tp [],
fnR (M 97 0) "Frame.__init__",
fl "code" [.str "__init__" 819,.str "Frame.__init__" 820,.str "/claim/cut.py" 821,.int 339 0,.int 6 0,.int 0 0,.int 0 0,.int 3 0,.ref 358,.bool true,.int 181 0,.ref 359,.none,.ref 360,.ref 361,.ref 362,.int 828 0,.int 339 0,.str "/claim/cut.py" 829],
fnO (M 97 0) "Frame.__init__" m5 (.ref 363),
xt 831 ["args","body","caught","caughtv","conts","extra","home","ip","keep","locals_","mref","number","prefix","sort","stack"],
dc [en P "__module__" 814 (.str "framerune.mbase" 785),en P "__firstlineno__" 818 (.int 337 817),en P "__init__" 830 (.ref 364),en P "__static_attributes__" 846 (.ref 365),en P "__dict__" 848 (.ref 368),en P "__weakref__" 850 (.ref 369),en P "__doc__" 851 (.none)] 4,
cO [none,none,some (.str "Frame" 807),some (.str "Frame" 815),some (.builtin "object.__new__"),some (.bool true)] "Frame" [.type "object"] [.ref 367,.type "object"] 366 "Frame" [],
fl "getset_descriptor" [.str "__dict__" 847,.ref 367,.builtin "function.__dict__",.builtin "function.__dict__#set"],
fl "getset_descriptor" [.str "__weakref__" 849,.ref 367,.builtin "ExceptionGroup.__weakref__",.none],
xs 367,
fl "builtin_function_or_method" [.builtin "object.__init_subclass__",.ref 367],
tp [],
xb "type.__prepare__" "type",
dc [en P "__module__" 861 (.str "framerune.mbase" 785),en P "__qualname__" 863 (.str "Native" 862),en P "__firstlineno__" 865 (.int 355 864),en P "call" 875 (.ref 385),en P "__static_attributes__" 876 (.ref 386)] 5,
tp [],
rc [.int 357 0,.int 4 0,.ref 384],
xc "Native" 856 355 375 859,
fr [some (.ref 377),some (.ref 3),some (.ref 374),none,some (.str "framerune.mbase" 785),none,some (.ref 0)],
tp [],
rc [],
xt 869 ["self","m","f","args"],
tp [],
fnR (M 98 0) "Native.call"]
noncomputable def oc6 (P:Params):List Obj:=[fl "code" [.str "call" 866,.str "Native.call" 867,.str "/claim/cut.py" 868,.int 357 0,.int 4 0,.int 0 0,.int 0 0,.int 3 0,.ref 379,.bool true,.int 181 0,.ref 380,.none,.ref 381,.ref 382,.ref 383,.int 873 0,.int 357 0,.str "/claim/cut.py" 874],
fnO (M 98 0) "Native.call" m5 (.ref 384),
tp [],
dc [en P "__module__" 861 (.str "framerune.mbase" 785),en P "__firstlineno__" 865 (.int 355 864),en P "call" 875 (.ref 385),en P "__static_attributes__" 876 (.ref 386),en P "__dict__" 878 (.ref 389),en P "__weakref__" 880 (.ref 390),en P "__doc__" 881 (.none)] 4,
cO [none,none,some (.str "Native" 854),some (.str "Native" 862),some (.builtin "object.__new__"),some (.bool true)] "Native" [.type "object"] [.ref 388,.type "object"] 387 "Native" [.ref 1119,.ref 1138,.ref 1157,.ref 1176,.ref 1195,.ref 1214,.ref 1233,.ref 1252,.ref 1271,.ref 1304],
fl "getset_descriptor" [.str "__dict__" 877,.ref 388,.builtin "function.__dict__",.builtin "function.__dict__#set"],
fl "getset_descriptor" [.str "__weakref__" 879,.ref 388,.builtin "ExceptionGroup.__weakref__",.none],
xs 388,
fl "builtin_function_or_method" [.builtin "object.__init_subclass__",.ref 388],
tp [],
xb "type.__prepare__" "type",
dc [en P "__module__" 891 (.str "framerune.mbase" 785),en P "__qualname__" 893 (.str "Starter" 892),en P "__firstlineno__" 895 (.int 359 894),en P "need" 905 (.ref 406),en P "done" 914 (.ref 413),en P "failed" 924 (.ref 420),en P "__static_attributes__" 925 (.ref 421)] 7,
tp [],
rc [.int 361 0,.int 4 0,.ref 405,.int 364 0,.int 4 0,.ref 412,.int 367 0,.int 4 0,.ref 419],
xc "Starter" 886 359 396 889,
fr [some (.ref 398),some (.ref 3),some (.ref 395),none,some (.str "framerune.mbase" 785),none,some (.ref 0)],
tp [],
rc [],
xt 899 ["self","m","kind","why"],
tp [],
fnR (M 99 0) "Starter.need",
fl "code" [.str "need" 896,.str "Starter.need" 897,.str "/claim/cut.py" 898,.int 361 0,.int 4 0,.int 0 0,.int 0 0,.int 3 0,.ref 400,.bool true,.int 181 0,.ref 401,.none,.ref 402,.ref 403,.ref 404,.int 903 0,.int 361 0,.str "/claim/cut.py" 904],
fnO (M 99 0) "Starter.need" m5 (.ref 405),
tp [],
rc [],
xt 909 ["self","m","kind"],
tp [],
fnR (M 99 1) "Starter.done",
xf "done" "Starter.done" 906 364 3 407 912,
fnO (M 99 1) "Starter.done" m5 (.ref 412),
tp [],
rc [],
xt 918 ["self","m","kind","addr"],
tp [],
fnR (M 99 2) "Starter.failed",
fl "code" [.str "failed" 915,.str "Starter.failed" 916,.str "/claim/cut.py" 917,.int 367 0,.int 4 0,.int 0 0,.int 0 0,.int 3 0,.ref 414,.bool true,.int 181 0,.ref 415,.none,.ref 416,.ref 417,.ref 418,.int 922 0,.int 367 0,.str "/claim/cut.py" 923],
fnO (M 99 2) "Starter.failed" m5 (.ref 419),
tp [],
dc [en P "__module__" 891 (.str "framerune.mbase" 785),en P "__firstlineno__" 895 (.int 359 894),en P "need" 905 (.ref 406),en P "done" 914 (.ref 413),en P "failed" 924 (.ref 420),en P "__static_attributes__" 925 (.ref 421),en P "__dict__" 927 (.ref 424),en P "__weakref__" 929 (.ref 425),en P "__doc__" 930 (.none)] 4,
cO [none,none,some (.str "Starter" 884),some (.str "Starter" 892),some (.builtin "object.__new__"),some (.bool true)] "Starter" [.type "object"] [.ref 423,.type "object"] 422 "Starter" [],
fl "getset_descriptor" [.str "__dict__" 926,.ref 423,.builtin "function.__dict__",.builtin "function.__dict__#set"],
fl "getset_descriptor" [.str "__weakref__" 928,.ref 423,.builtin "ExceptionGroup.__weakref__",.none],
xs 423,
fl "builtin_function_or_method" [.builtin "object.__init_subclass__",.ref 423],
tp [],
xb "type.__prepare__" "type",
dc [en P "__module__" 940 (.str "framerune.mbase" 785),en P "__qualname__" 942 (.str "Sweeper" 941),en P "__firstlineno__" 944 (.int 369 943),en P "before" 952 (.ref 441),en P "__static_attributes__" 953 (.ref 442)] 5,
tp [],
rc [.int 371 0,.int 4 0,.ref 440],
xc "Sweeper" 935 369 431 938,
fr [some (.ref 433),some (.ref 3),some (.ref 430),none,some (.str "framerune.mbase" 785),none,some (.ref 0)],
tp [],
rc [],
xt 948 ["self","m"],
tp [],
fnR (M 100 0) "Sweeper.before",
fl "code" [.str "before" 945,.str "Sweeper.before" 946,.str "/claim/cut.py" 947,.int 371 0,.int 2 0,.int 0 0,.int 0 0,.int 3 0,.ref 435,.bool true,.int 181 0,.ref 436,.none,.ref 437,.ref 438,.ref 439,.int 950 0,.int 371 0,.str "/claim/cut.py" 951],
fnO (M 100 0) "Sweeper.before" m5 (.ref 440),
tp [],
dc [en P "__module__" 940 (.str "framerune.mbase" 785),en P "__firstlineno__" 944 (.int 369 943),en P "before" 952 (.ref 441),en P "__static_attributes__" 953 (.ref 442),en P "__dict__" 955 (.ref 445),en P "__weakref__" 957 (.ref 446),en P "__doc__" 958 (.none)] 4,
cO [none,none,some (.str "Sweeper" 933),some (.str "Sweeper" 941),some (.builtin "object.__new__"),some (.bool true)] "Sweeper" [.type "object"] [.ref 444,.type "object"] 443 "Sweeper" [.ref 1016],
fl "getset_descriptor" [.str "__dict__" 954,.ref 444,.builtin "function.__dict__",.builtin "function.__dict__#set"],
fl "getset_descriptor" [.str "__weakref__" 956,.ref 444,.builtin "ExceptionGroup.__weakref__",.none],
xs 444]
noncomputable def oc7 (P:Params):List Obj:=[fl "builtin_function_or_method" [.builtin "object.__init_subclass__",.ref 444],
tp [],
xb "type.__prepare__" "type",
dc [en P "__module__" 968 (.str "framerune.mbase" 785),en P "__qualname__" 970 (.str "KindCloser" 969),en P "__firstlineno__" 972 (.int 373 971),en P "kind" 982 (.ref 462),en P "ref" 992 (.ref 469),en P "__static_attributes__" 993 (.ref 470)] 6,
tp [],
rc [.int 375 0,.int 4 0,.ref 461,.int 378 0,.int 4 0,.ref 468],
xc "KindCloser" 963 373 452 966,
fr [some (.ref 454),some (.ref 3),some (.ref 451),none,some (.str "framerune.mbase" 785),none,some (.ref 0)],
tp [],
rc [],
xt 976 ["self","m","f","k"],
tp [],
fnR (M 101 0) "KindCloser.kind",
fl "code" [.str "kind" 973,.str "KindCloser.kind" 974,.str "/claim/cut.py" 975,.int 375 0,.int 4 0,.int 0 0,.int 0 0,.int 3 0,.ref 456,.bool true,.int 181 0,.ref 457,.none,.ref 458,.ref 459,.ref 460,.int 980 0,.int 375 0,.str "/claim/cut.py" 981],
fnO (M 101 0) "KindCloser.kind" m5 (.ref 461),
tp [],
rc [],
xt 986 ["self","m","f","fref"],
tp [],
fnR (M 101 1) "KindCloser.ref",
fl "code" [.str "ref" 983,.str "KindCloser.ref" 984,.str "/claim/cut.py" 985,.int 378 0,.int 4 0,.int 0 0,.int 0 0,.int 3 0,.ref 463,.bool true,.int 181 0,.ref 464,.none,.ref 465,.ref 466,.ref 467,.int 990 0,.int 378 0,.str "/claim/cut.py" 991],
fnO (M 101 1) "KindCloser.ref" m5 (.ref 468),
tp [],
dc [en P "__module__" 968 (.str "framerune.mbase" 785),en P "__firstlineno__" 972 (.int 373 971),en P "kind" 982 (.ref 462),en P "ref" 992 (.ref 469),en P "__static_attributes__" 993 (.ref 470),en P "__dict__" 995 (.ref 473),en P "__weakref__" 997 (.ref 474),en P "__doc__" 998 (.none)] 4,
cO [none,none,some (.str "KindCloser" 961),some (.str "KindCloser" 969),some (.builtin "object.__new__"),some (.bool true)] "KindCloser" [.type "object"] [.ref 472,.type "object"] 471 "KindCloser" [],
fl "getset_descriptor" [.str "__dict__" 994,.ref 472,.builtin "function.__dict__",.builtin "function.__dict__#set"],
fl "getset_descriptor" [.str "__weakref__" 996,.ref 472,.builtin "ExceptionGroup.__weakref__",.none],
xs 472,
fl "builtin_function_or_method" [.builtin "object.__init_subclass__",.ref 472],
tp [],
xb "type.__prepare__" "type",
dc [en P "__module__" 1008 (.str "framerune.mbase" 785),en P "__qualname__" 1010 (.str "Tray" 1009),en P "__firstlineno__" 1012 (.int 380 1011),en P "__init__" 1021 (.ref 490),en P "is_a" 1030 (.ref 497),en P "slots_of" 1038 (.ref 504),en P "kinds_of" 1046 (.ref 511),en P "skinds_of" 1054 (.ref 518),en P "slot_place" 1062 (.ref 525),en P "target" 1071 (.ref 532),en P "default" 1079 (.ref 539),en P "plain" 1087 (.ref 546),en P "closed" 1096 (.ref 553),en P "closed_ref" 1105 (.ref 560),en P "alloc" 1114 (.ref 567),en P "wrong" 1122 (.ref 574),en P "pop" 1130 (.ref 581),en P "throw_new" 1139 (.ref 588),en P "push_call" 1149 (.ref 595),en P "__static_attributes__" 1171 (.ref 596)] 20,
tp [],
rc [.int 382 0,.int 4 0,.ref 489,.int 405 0,.int 4 0,.ref 496,.int 408 0,.int 4 0,.ref 503,.int 411 0,.int 4 0,.ref 510,.int 414 0,.int 4 0,.ref 517,.int 417 0,.int 4 0,.ref 524,.int 420 0,.int 4 0,.ref 531,.int 423 0,.int 4 0,.ref 538,.int 426 0,.int 4 0,.ref 545,.int 429 0,.int 4 0,.ref 552,.int 432 0,.int 4 0,.ref 559,.int 435 0,.int 4 0,.ref 566,.int 438 0,.int 4 0,.ref 573,.int 441 0,.int 4 0,.ref 580,.int 444 0,.int 4 0,.ref 587,.int 447 0,.int 4 0,.ref 594],
xc "Tray" 1003 380 480 1006,
fr [some (.ref 482),some (.ref 3),some (.ref 479),none,some (.str "framerune.mbase" 785),none,some (.ref 0)],
tp [],
rc [],
xt 1016 ["self","store","heap"],
tp [],
fnR (M 102 0) "Tray.__init__",
xf "__init__" "Tray.__init__" 1013 382 3 484 1019,
fnO (M 102 0) "Tray.__init__" m5 (.ref 489),
tp [],
rc [],
xt 1025 ["self","exact","k"],
tp [],
fnR (M 102 1) "Tray.is_a",
xf "is_a" "Tray.is_a" 1022 405 3 491 1028,
fnO (M 102 1) "Tray.is_a" m5 (.ref 496),
tp [],
rc [],
xt 1034 ["self","k"],
tp [],
fnR (M 102 2) "Tray.slots_of",
fl "code" [.str "slots_of" 1031,.str "Tray.slots_of" 1032,.str "/claim/cut.py" 1033,.int 408 0,.int 2 0,.int 0 0,.int 0 0,.int 3 0,.ref 498,.bool true,.int 181 0,.ref 499,.none,.ref 500,.ref 501,.ref 502,.int 1036 0,.int 408 0,.str "/claim/cut.py" 1037],
fnO (M 102 2) "Tray.slots_of" m5 (.ref 503),
tp [],
rc [],
xt 1042 ["self","k"],
tp [],
fnR (M 102 3) "Tray.kinds_of",
fl "code" [.str "kinds_of" 1039,.str "Tray.kinds_of" 1040,.str "/claim/cut.py" 1041,.int 411 0,.int 2 0,.int 0 0,.int 0 0,.int 3 0,.ref 505,.bool true,.int 181 0,.ref 506,.none,.ref 507,.ref 508,.ref 509,.int 1044 0,.int 411 0,.str "/claim/cut.py" 1045],
fnO (M 102 3) "Tray.kinds_of" m5 (.ref 510)]
noncomputable def oc8 (P:Params):List Obj:=[tp [],
rc [],
xt 1050 ["self","k"],
tp [],
fnR (M 102 4) "Tray.skinds_of",
fl "code" [.str "skinds_of" 1047,.str "Tray.skinds_of" 1048,.str "/claim/cut.py" 1049,.int 414 0,.int 2 0,.int 0 0,.int 0 0,.int 3 0,.ref 512,.bool true,.int 181 0,.ref 513,.none,.ref 514,.ref 515,.ref 516,.int 1052 0,.int 414 0,.str "/claim/cut.py" 1053],
fnO (M 102 4) "Tray.skinds_of" m5 (.ref 517),
tp [],
rc [],
xt 1058 ["self","fref"],
tp [],
fnR (M 102 5) "Tray.slot_place",
fl "code" [.str "slot_place" 1055,.str "Tray.slot_place" 1056,.str "/claim/cut.py" 1057,.int 417 0,.int 2 0,.int 0 0,.int 0 0,.int 3 0,.ref 519,.bool true,.int 181 0,.ref 520,.none,.ref 521,.ref 522,.ref 523,.int 1060 0,.int 417 0,.str "/claim/cut.py" 1061],
fnO (M 102 5) "Tray.slot_place" m5 (.ref 524),
tp [],
rc [],
xt 1066 ["self","exact","mref"],
tp [],
fnR (M 102 6) "Tray.target",
xf "target" "Tray.target" 1063 420 3 526 1069,
fnO (M 102 6) "Tray.target" m5 (.ref 531),
tp [],
rc [],
xt 1075 ["self","k"],
tp [],
fnR (M 102 7) "Tray.default",
fl "code" [.str "default" 1072,.str "Tray.default" 1073,.str "/claim/cut.py" 1074,.int 423 0,.int 2 0,.int 0 0,.int 0 0,.int 3 0,.ref 533,.bool true,.int 181 0,.ref 534,.none,.ref 535,.ref 536,.ref 537,.int 1077 0,.int 423 0,.str "/claim/cut.py" 1078],
fnO (M 102 7) "Tray.default" m5 (.ref 538),
tp [],
rc [],
xt 1083 ["self","k"],
tp [],
fnR (M 102 8) "Tray.plain",
fl "code" [.str "plain" 1080,.str "Tray.plain" 1081,.str "/claim/cut.py" 1082,.int 426 0,.int 2 0,.int 0 0,.int 0 0,.int 3 0,.ref 540,.bool true,.int 181 0,.ref 541,.none,.ref 542,.ref 543,.ref 544,.int 1085 0,.int 426 0,.str "/claim/cut.py" 1086],
fnO (M 102 8) "Tray.plain" m5 (.ref 545),
tp [],
rc [],
xt 1091 ["self","f","k"],
tp [],
fnR (M 102 9) "Tray.closed",
xf "closed" "Tray.closed" 1088 429 3 547 1094,
fnO (M 102 9) "Tray.closed" m5 (.ref 552),
tp [],
rc [],
xt 1100 ["self","f","fref"],
tp [],
fnR (M 102 10) "Tray.closed_ref",
xf "closed_ref" "Tray.closed_ref" 1097 432 3 554 1103,
fnO (M 102 10) "Tray.closed_ref" m5 (.ref 559),
tp [],
rc [],
xt 1109 ["self","kind","count"],
tp [],
fnR (M 102 11) "Tray.alloc",
xf "alloc" "Tray.alloc" 1106 435 3 561 1112,
fnO (M 102 11) "Tray.alloc" m5 (.ref 566),
tp [],
rc [],
xt 1118 ["self","code"],
tp [],
fnR (M 102 12) "Tray.wrong",
fl "code" [.str "wrong" 1115,.str "Tray.wrong" 1116,.str "/claim/cut.py" 1117,.int 438 0,.int 2 0,.int 0 0,.int 0 0,.int 3 0,.ref 568,.bool true,.int 181 0,.ref 569,.none,.ref 570,.ref 571,.ref 572,.int 1120 0,.int 438 0,.str "/claim/cut.py" 1121],
fnO (M 102 12) "Tray.wrong" m5 (.ref 573),
tp []]
noncomputable def oc9 (P:Params):List Obj:=[rc [],
xt 1126 ["self","f"],
tp [],
fnR (M 102 13) "Tray.pop",
fl "code" [.str "pop" 1123,.str "Tray.pop" 1124,.str "/claim/cut.py" 1125,.int 441 0,.int 2 0,.int 0 0,.int 0 0,.int 3 0,.ref 575,.bool true,.int 181 0,.ref 576,.none,.ref 577,.ref 578,.ref 579,.int 1128 0,.int 441 0,.str "/claim/cut.py" 1129],
fnO (M 102 13) "Tray.pop" m5 (.ref 580),
tp [],
rc [],
xt 1134 ["self","tid","text"],
tp [],
fnR (M 102 14) "Tray.throw_new",
xf "throw_new" "Tray.throw_new" 1131 444 3 582 1137,
fnO (M 102 14) "Tray.throw_new" m5 (.ref 587),
tp [],
rc [],
xt 1143 ["self","mref","args","sort"],
tp [],
fnR (M 102 15) "Tray.push_call",
fl "code" [.str "push_call" 1140,.str "Tray.push_call" 1141,.str "/claim/cut.py" 1142,.int 447 0,.int 4 0,.int 0 0,.int 0 0,.int 3 0,.ref 589,.bool true,.int 181 0,.ref 590,.none,.ref 591,.ref 592,.ref 593,.int 1147 0,.int 447 0,.str "/claim/cut.py" 1148],
fnO (M 102 15) "Tray.push_call" m5 (.ref 594),
xt 1150 ["by_number","calls","closer","defaults","frames","heap","held","inits","kin","kt","ops","places","rows","starter","state","statics","store","targets","thrown","told","unders"],
dc [en P "__module__" 1008 (.str "framerune.mbase" 785),en P "__firstlineno__" 1012 (.int 380 1011),en P "__init__" 1021 (.ref 490),en P "is_a" 1030 (.ref 497),en P "slots_of" 1038 (.ref 504),en P "kinds_of" 1046 (.ref 511),en P "skinds_of" 1054 (.ref 518),en P "slot_place" 1062 (.ref 525),en P "target" 1071 (.ref 532),en P "default" 1079 (.ref 539),en P "plain" 1087 (.ref 546),en P "closed" 1096 (.ref 553),en P "closed_ref" 1105 (.ref 560),en P "alloc" 1114 (.ref 567),en P "wrong" 1122 (.ref 574),en P "pop" 1130 (.ref 581),en P "throw_new" 1139 (.ref 588),en P "push_call" 1149 (.ref 595),en P "__static_attributes__" 1171 (.ref 596),en P "__dict__" 1173 (.ref 599),en P "__weakref__" 1175 (.ref 600),en P "__doc__" 1176 (.none)] 4,
cO [none,none,some (.str "Tray" 1001),some (.str "Tray" 1009),some (.builtin "object.__new__"),some (.bool true)] "Tray" [.type "object"] [.ref 598,.type "object"] 597 "Tray" [.ref 668],
fl "getset_descriptor" [.str "__dict__" 1172,.ref 598,.builtin "function.__dict__",.builtin "function.__dict__#set"],
fl "getset_descriptor" [.str "__weakref__" 1174,.ref 598,.builtin "ExceptionGroup.__weakref__",.none],
xs 598,
fl "builtin_function_or_method" [.builtin "object.__init_subclass__",.ref 598],
tp [.ref 598],
xb "type.__prepare__" "type",
dc [en P "__module__" 1186 (.str "framerune.mbase" 785),en P "__qualname__" 1188 (.str "Shelf" 1187),en P "__firstlineno__" 1190 (.int 449 1189),en P "__init__" 1199 (.ref 616),en P "goes" 1208 (.ref 623),en P "finalised" 1216 (.ref 630),en P "alloc" 1225 (.ref 637),en P "push_call" 1235 (.ref 644),en P "text_of" 1243 (.ref 651),en P "text_ref" 1251 (.ref 658),en P "new_text" 1259 (.ref 665),en P "__static_attributes__" 1293 (.ref 666)] 12,
tp [],
rc [.int 451 0,.int 4 0,.ref 615,.int 486 0,.int 4 0,.ref 622,.int 489 0,.int 4 0,.ref 629,.int 492 0,.int 4 0,.ref 636,.int 495 0,.int 4 0,.ref 643,.int 498 0,.int 4 0,.ref 650,.int 501 0,.int 4 0,.ref 657,.int 504 0,.int 4 0,.ref 664],
xc "Shelf" 1181 449 606 1184,
fr [some (.ref 608),some (.ref 3),some (.ref 605),none,some (.str "framerune.mbase" 785),none,some (.ref 0)],
tp [],
rc [],
xt 1194 ["self","store","heap"],
tp [],
fnR (M 103 0) "Shelf.__init__",
xf "__init__" "Shelf.__init__" 1191 451 3 610 1197,
fnO (M 103 0) "Shelf.__init__" m5 (.ref 615),
tp [],
rc [],
xt 1203 ["self","s","t"],
tp [],
fnR (M 103 1) "Shelf.goes",
xf "goes" "Shelf.goes" 1200 486 3 617 1206,
fnO (M 103 1) "Shelf.goes" m5 (.ref 622),
tp [],
rc [],
xt 1212 ["self","k"],
tp [],
fnR (M 103 2) "Shelf.finalised",
fl "code" [.str "finalised" 1209,.str "Shelf.finalised" 1210,.str "/claim/cut.py" 1211,.int 489 0,.int 2 0,.int 0 0,.int 0 0,.int 3 0,.ref 624,.bool true,.int 181 0,.ref 625,.none,.ref 626,.ref 627,.ref 628,.int 1214 0,.int 489 0,.str "/claim/cut.py" 1215],
fnO (M 103 2) "Shelf.finalised" m5 (.ref 629),
tp [],
rc [],
xt 1220 ["self","kind","count"],
tp [],
fnR (M 103 3) "Shelf.alloc",
xf "alloc" "Shelf.alloc" 1217 492 3 631 1223,
fnO (M 103 3) "Shelf.alloc" m5 (.ref 636),
tp [],
rc []]
noncomputable def oc10 (P:Params):List Obj:=[xt 1229 ["self","mref","args","sort"],
tp [],
fnR (M 103 4) "Shelf.push_call",
fl "code" [.str "push_call" 1226,.str "Shelf.push_call" 1227,.str "/claim/cut.py" 1228,.int 495 0,.int 4 0,.int 0 0,.int 0 0,.int 3 0,.ref 638,.bool true,.int 181 0,.ref 639,.none,.ref 640,.ref 641,.ref 642,.int 1233 0,.int 495 0,.str "/claim/cut.py" 1234],
fnO (M 103 4) "Shelf.push_call" m5 (.ref 643),
tp [],
rc [],
xt 1239 ["self","addr"],
tp [],
fnR (M 103 5) "Shelf.text_of",
fl "code" [.str "text_of" 1236,.str "Shelf.text_of" 1237,.str "/claim/cut.py" 1238,.int 498 0,.int 2 0,.int 0 0,.int 0 0,.int 3 0,.ref 645,.bool true,.int 181 0,.ref 646,.none,.ref 647,.ref 648,.ref 649,.int 1241 0,.int 498 0,.str "/claim/cut.py" 1242],
fnO (M 103 5) "Shelf.text_of" m5 (.ref 650),
tp [],
rc [],
xt 1247 ["self","text"],
tp [],
fnR (M 103 6) "Shelf.text_ref",
fl "code" [.str "text_ref" 1244,.str "Shelf.text_ref" 1245,.str "/claim/cut.py" 1246,.int 501 0,.int 2 0,.int 0 0,.int 0 0,.int 3 0,.ref 652,.bool true,.int 181 0,.ref 653,.none,.ref 654,.ref 655,.ref 656,.int 1249 0,.int 501 0,.str "/claim/cut.py" 1250],
fnO (M 103 6) "Shelf.text_ref" m5 (.ref 657),
tp [],
rc [],
xt 1255 ["self","text"],
tp [],
fnR (M 103 7) "Shelf.new_text",
fl "code" [.str "new_text" 1252,.str "Shelf.new_text" 1253,.str "/claim/cut.py" 1254,.int 504 0,.int 2 0,.int 0 0,.int 0 0,.int 3 0,.ref 659,.bool true,.int 181 0,.ref 660,.none,.ref 661,.ref 662,.ref 663,.int 1257 0,.int 504 0,.str "/claim/cut.py" 1258],
fnO (M 103 7) "Shelf.new_text" m5 (.ref 664),
tp [.str "by_number" 1260,.str "calls" 1261,.str "chases" 1262,.str "closer" 1263,.str "defaults" 1264,.str "fails" 1265,.str "finals" 1266,.str "frames" 1267,.str "handles" 1268,.str "heap" 1269,.str "held" 1270,.str "inits" 1271,.str "interned" 1272,.str "internv" 1273,.str "kin" 1274,.str "kt" 1275,.str "last" 1276,.str "natives" 1277,.str "ops" 1278,.str "places" 1279,.str "pushed" 1280,.str "result" 1281,.str "rows" 1282,.str "starter" 1283,.str "state" 1284,.str "statics" 1285,.str "store" 1286,.str "sweeper" 1287,.str "targets" 1288,.str "thrown" 1289,.str "told" 1290,.str "unders" 1291,.str "unhandled" 1292],
dc [en P "__module__" 1186 (.str "framerune.mbase" 785),en P "__firstlineno__" 1190 (.int 449 1189),en P "__init__" 1199 (.ref 616),en P "goes" 1208 (.ref 623),en P "finalised" 1216 (.ref 630),en P "alloc" 1225 (.ref 637),en P "push_call" 1235 (.ref 644),en P "text_of" 1243 (.ref 651),en P "text_ref" 1251 (.ref 658),en P "new_text" 1259 (.ref 665),en P "__static_attributes__" 1293 (.ref 666),en P "__doc__" 1294 (.none)] 2,
cO [some (.ref 603),none,some (.str "Shelf" 1179),some (.str "Shelf" 1187),some (.builtin "object.__new__"),some (.bool true)] "Shelf" [.ref 598] [.ref 668,.ref 598,.type "object"] 667 "Shelf" [],
xs 668,
fl "builtin_function_or_method" [.builtin "object.__init_subclass__",.ref 668],
tp [],
rc [],
xt 1300 ["m","tid"],
tp [],
fnR (D 104) "note_thrown",
fl "code" [.str "note_thrown" 1297,.str "note_thrown" 1298,.str "/claim/cut.py" 1299,.int 506 0,.int 2 0,.int 0 0,.int 0 0,.int 3 0,.ref 671,.bool true,.int 181 0,.ref 672,.none,.ref 673,.ref 674,.ref 675,.int 1302 0,.int 506 0,.str "/claim/cut.py" 1303],
fnO (D 104) "note_thrown" m5 (.ref 676),
tp [],
rc [],
xt 1308 ["m","k","row"],
tp [],
fnR (D 105) "told_row",
fl "code" [.str "told_row" 1305,.str "told_row" 1306,.str "/claim/cut.py" 1307,.int 510 0,.int 2 0,.int 0 0,.int 0 0,.int 3 0,.ref 678,.bool true,.int 181 0,.ref 679,.none,.ref 680,.ref 681,.ref 682,.int 1311 0,.int 510 0,.str "/claim/cut.py" 1312],
fnO (D 105) "told_row" m5 (.ref 683),
tp [],
rc [],
xt 1317 ["m","k","found"],
tp [],
fnR (D 106) "told_default",
fl "code" [.str "told_default" 1314,.str "told_default" 1315,.str "/claim/cut.py" 1316,.int 515 0,.int 2 0,.int 0 0,.int 0 0,.int 3 0,.ref 685,.bool true,.int 181 0,.ref 686,.none,.ref 687,.ref 688,.ref 689,.int 1320 0,.int 515 0,.str "/claim/cut.py" 1321],
fnO (D 106) "told_default" m5 (.ref 690),
tp [],
rc [],
xt 1326 ["m","code","mid","ip","f"],
tp [],
fnR (D 107) "tell_wrong",
fl "code" [.str "tell_wrong" 1323,.str "tell_wrong" 1324,.str "/claim/cut.py" 1325,.int 520 0,.int 2 0,.int 0 0,.int 0 0,.int 3 0,.ref 692,.bool true,.int 181 0,.ref 693,.none,.ref 694,.ref 695,.ref 696,.int 1331 0,.int 520 0,.str "/claim/cut.py" 1332],
fnO (D 107) "tell_wrong" m5 (.ref 697),
tp [],
rc [],
xt 1337 ["m","f"],
tp [],
fnR (D 108) "pop_value"]
noncomputable def oc11 (P:Params):List Obj:=[fl "code" [.str "pop_value" 1334,.str "pop_value" 1335,.str "/claim/cut.py" 1336,.int 531 0,.int 2 0,.int 0 0,.int 0 0,.int 3 0,.ref 699,.bool true,.int 181 0,.ref 700,.none,.ref 701,.ref 702,.ref 703,.int 1339 0,.int 531 0,.str "/claim/cut.py" 1340],
fnO (D 108) "pop_value" m5 (.ref 704),
tp [],
rc [],
xt 1345 ["m","kind","count","sort","out","k"],
tp [],
fnR (D 109) "first_slots",
xf "first_slots" "first_slots" 1342 536 3 706 1351,
fnO (D 109) "first_slots" m5 (.ref 711),
tp [],
rc [],
xt 1357 ["m","kind","count"],
tp [],
fnR (D 110) "alloc_thing",
xf "alloc_thing" "alloc_thing" 1354 551 3 713 1360,
fnO (D 110) "alloc_thing" m5 (.ref 718),
tp [],
rc [],
xt 1366 ["m","addr","thing"],
tp [],
fnR (D 111) "text_held",
fl "code" [.str "text_held" 1363,.str "text_held" 1364,.str "/claim/cut.py" 1365,.int 554 0,.int 2 0,.int 0 0,.int 0 0,.int 3 0,.ref 720,.bool true,.int 181 0,.ref 721,.none,.ref 722,.ref 723,.ref 724,.int 1369 0,.int 554 0,.str "/claim/cut.py" 1370],
fnO (D 111) "text_held" m5 (.ref 725),
tp [],
rc [],
xt 1375 ["m","text","thing"],
tp [],
fnR (D 112) "made_text",
fl "code" [.str "made_text" 1372,.str "made_text" 1373,.str "/claim/cut.py" 1374,.int 560 0,.int 2 0,.int 0 0,.int 0 0,.int 3 0,.ref 727,.bool true,.int 181 0,.ref 728,.none,.ref 729,.ref 730,.ref 731,.int 1378 0,.int 560 0,.str "/claim/cut.py" 1379],
fnO (D 112) "made_text" m5 (.ref 732),
tp [],
rc [],
xt 1384 ["m","text","place","value"],
tp [],
fnR (D 113) "interned_text",
fl "code" [.str "interned_text" 1381,.str "interned_text" 1382,.str "/claim/cut.py" 1383,.int 564 0,.int 2 0,.int 0 0,.int 0 0,.int 3 0,.ref 734,.bool true,.int 181 0,.ref 735,.none,.ref 736,.ref 737,.ref 738,.int 1388 0,.int 564 0,.str "/claim/cut.py" 1389],
fnO (D 113) "interned_text" m5 (.ref 739),
tp [],
rc [],
xt 1396 ["value","place"],
tp [],
fnR (D 115) "words_of",
fl "code" [.str "words_of" 1393,.str "words_of" 1394,.str "/claim/cut.py" 1395,.int 573 0,.int 1 0,.int 0 0,.int 0 0,.int 3 0,.ref 741,.bool true,.int 181 0,.ref 742,.none,.ref 743,.ref 744,.ref 745,.int 1398 0,.int 573 0,.str "/claim/cut.py" 1399],
fnO (D 115) "words_of" m6 (.ref 746),
tp [],
rc [],
xt 1404 ["heap","word","gen","marks","work","thing"],
tp [],
fnR (D 116) "push_word",
fl "code" [.str "push_word" 1401,.str "push_word" 1402,.str "/claim/cut.py" 1403,.int 582 0,.int 5 0,.int 0 0,.int 0 0,.int 3 0,.ref 748,.bool true,.int 181 0,.ref 749,.none,.ref 750,.ref 751,.ref 752,.int 1410 0,.int 582 0,.str "/claim/cut.py" 1411],
fnO (D 116) "push_word" m6 (.ref 753),
tp [],
rc [],
xt 1416 ["heap","value","gen","marks","work","word"],
tp [],
fnR (D 117) "push_value",
fl "code" [.str "push_value" 1413,.str "push_value" 1414,.str "/claim/cut.py" 1415,.int 590 0,.int 5 0,.int 0 0,.int 0 0,.int 3 0,.ref 755,.bool true,.int 181 0,.ref 756,.none,.ref 757,.ref 758,.ref 759,.int 1422 0,.int 590 0,.str "/claim/cut.py" 1423],
fnO (D 117) "push_value" m6 (.ref 760),
tp [],
rc [],
xt 1428 ["heap","work","gen","marks","thing","value"],
tp [],
fnR (D 118) "drain",
fl "code" [.str "drain" 1425,.str "drain" 1426,.str "/claim/cut.py" 1427,.int 593 0,.int 4 0,.int 0 0,.int 0 0,.int 3 0,.ref 762,.bool true,.int 181 0,.ref 763,.none,.ref 764,.ref 765,.ref 766,.int 1434 0,.int 593 0,.str "/claim/cut.py" 1435]]
noncomputable def oc12 (P:Params):List Obj:=[fnO (D 118) "drain" m6 (.ref 767),
tp [],
rc [],
xt 1440 ["heap","gen","out","thing","slot"],
tp [],
fnR (D 119) "old_slots",
fl "code" [.str "old_slots" 1437,.str "old_slots" 1438,.str "/claim/cut.py" 1439,.int 598 0,.int 2 0,.int 0 0,.int 0 0,.int 3 0,.ref 769,.bool true,.int 181 0,.ref 770,.none,.ref 771,.ref 772,.ref 773,.int 1445 0,.int 598 0,.str "/claim/cut.py" 1446],
fnO (D 119) "old_slots" m6 (.ref 774),
tp [],
rc [],
xt 1451 ["heap","lists","gen","marks","work","values","value","thing","slot"],
tp [],
fnR (D 120) "mark",
xf "mark" "mark" 1448 606 3 776 1460,
fnO (D 120) "mark" m6 (.ref 781),
tp [],
rc [],
xt 1466 ["heap","marks","addrs","gen","work","addr"],
tp [],
fnR (D 121) "reach_more",
fl "code" [.str "reach_more" 1463,.str "reach_more" 1464,.str "/claim/cut.py" 1465,.int 617 0,.int 4 0,.int 0 0,.int 0 0,.int 3 0,.ref 783,.bool true,.int 181 0,.ref 784,.none,.ref 785,.ref 786,.ref 787,.int 1472 0,.int 617 0,.str "/claim/cut.py" 1473],
fnO (D 121) "reach_more" m6 (.ref 788),
tp [],
rc [],
xt 1480 ["heap","word"],
tp [],
fnR (D 123) "mark_card",
fl "code" [.str "mark_card" 1477,.str "mark_card" 1478,.str "/claim/cut.py" 1479,.int 623 0,.int 2 0,.int 0 0,.int 0 0,.int 3 0,.ref 790,.bool true,.int 181 0,.ref 791,.none,.ref 792,.ref 793,.ref 794,.int 1482 0,.int 623 0,.str "/claim/cut.py" 1483],
fnO (D 123) "mark_card" m7 (.ref 795),
tp [],
rc [],
xt 1488 ["heap","thing","value","addr","other"],
tp [],
fnR (D 124) "refers_younger",
xf "refers_younger" "refers_younger" 1485 625 3 797 1493,
fnO (D 124) "refers_younger" m7 (.ref 802),
tp [],
rc [],
xt 1499 ["heap","out","thing","slot"],
tp [],
fnR (D 125) "younger_slots",
fl "code" [.str "younger_slots" 1496,.str "younger_slots" 1497,.str "/claim/cut.py" 1498,.int 631 0,.int 1 0,.int 0 0,.int 0 0,.int 3 0,.ref 804,.bool true,.int 181 0,.ref 805,.none,.ref 806,.ref 807,.ref 808,.int 1503 0,.int 631 0,.str "/claim/cut.py" 1504],
fnO (D 125) "younger_slots" m7 (.ref 809),
tp [],
rc [],
xt 1509 ["heap","thing","slot"],
tp [],
fnR (D 126) "renew_cards",
fl "code" [.str "renew_cards" 1506,.str "renew_cards" 1507,.str "/claim/cut.py" 1508,.int 639 0,.int 1 0,.int 0 0,.int 0 0,.int 3 0,.ref 811,.bool true,.int 181 0,.ref 812,.none,.ref 813,.ref 814,.ref 815,.int 1512 0,.int 639 0,.str "/claim/cut.py" 1513],
fnO (D 126) "renew_cards" m7 (.ref 816),
tp [],
xb "type.__prepare__" "type",
dc [en P "__module__" 1536 (.str "framerune.handles" 1515),en P "__qualname__" 1538 (.str "Handles" 1537),en P "__firstlineno__" 1540 (.int 650 1539),en P "__init__" 1547 (.ref 831),en P "__static_attributes__" 1549 (.ref 832)] 5,
tp [],
rc [.int 652 0,.int 4 0,.ref 830],
xc "Handles" 1531 650 821 1534,
fr [some (.ref 823),some (.ref 3),some (.ref 820),none,some (.str "framerune.handles" 1515),none,some (.ref 0)],
tp [],
rc [],
tp [.str "self" 1544],
tp [],
fnR (M 134 0) "Handles.__init__",
fl "code" [.str "__init__" 1541,.str "Handles.__init__" 1542,.str "/claim/cut.py" 1543,.int 652 0,.int 1 0,.int 0 0,.int 0 0,.int 3 0,.ref 825,.bool true,.int 181 0,.ref 826,.none,.ref 827,.ref 828,.ref 829,.int 1545 0,.int 652 0,.str "/claim/cut.py" 1546],
fnO (M 134 0) "Handles.__init__" m8 (.ref 830)]
noncomputable def oc13 (P:Params):List Obj:=[tp [.str "rows" 1548],
dc [en P "__module__" 1536 (.str "framerune.handles" 1515),en P "__firstlineno__" 1540 (.int 650 1539),en P "__init__" 1547 (.ref 831),en P "__static_attributes__" 1549 (.ref 832),en P "__dict__" 1551 (.ref 835),en P "__weakref__" 1553 (.ref 836),en P "__doc__" 1554 (.none)] 4,
cO [none,none,some (.str "Handles" 1529),some (.str "Handles" 1537),some (.builtin "object.__new__"),some (.bool true)] "Handles" [.type "object"] [.ref 834,.type "object"] 833 "Handles" [],
fl "getset_descriptor" [.str "__dict__" 1550,.ref 834,.builtin "function.__dict__",.builtin "function.__dict__#set"],
fl "getset_descriptor" [.str "__weakref__" 1552,.ref 834,.builtin "ExceptionGroup.__weakref__",.none],
xs 834,
fl "builtin_function_or_method" [.builtin "object.__init_subclass__",.ref 834],
tp [],
rc [],
xt 1560 ["h","out","row"],
tp [],
fnR (D 135) "strong_values",
fl "code" [.str "strong_values" 1557,.str "strong_values" 1558,.str "/claim/cut.py" 1559,.int 654 0,.int 1 0,.int 0 0,.int 0 0,.int 3 0,.ref 839,.bool true,.int 181 0,.ref 840,.none,.ref 841,.ref 842,.ref 843,.int 1563 0,.int 654 0,.str "/claim/cut.py" 1564],
fnO (D 135) "strong_values" m8 (.ref 844),
tp [],
rc [],
xt 1569 ["heap","addr","marks","gen","thing"],
tp [],
fnR (D 136) "found_dead",
fl "code" [.str "found_dead" 1566,.str "found_dead" 1567,.str "/claim/cut.py" 1568,.int 660 0,.int 4 0,.int 0 0,.int 0 0,.int 3 0,.ref 846,.bool true,.int 181 0,.ref 847,.none,.ref 848,.ref 849,.ref 850,.int 1574 0,.int 660 0,.str "/claim/cut.py" 1575],
fnO (D 136) "found_dead" m8 (.ref 851),
tp [],
rc [],
xt 1580 ["h","sort","marks","heap","gen","count","row"],
tp [],
fnR (D 137) "clear_handles",
fl "code" [.str "clear_handles" 1577,.str "clear_handles" 1578,.str "/claim/cut.py" 1579,.int 663 0,.int 5 0,.int 0 0,.int 0 0,.int 3 0,.ref 853,.bool true,.int 181 0,.ref 854,.none,.ref 855,.ref 856,.ref 857,.int 1587 0,.int 663 0,.str "/claim/cut.py" 1588],
fnO (D 137) "clear_handles" m8 (.ref 858),
tp [],
rc [],
xt 1593 ["h","moves","row"],
tp [],
fnR (D 138) "move_handles",
fl "code" [.str "move_handles" 1590,.str "move_handles" 1591,.str "/claim/cut.py" 1592,.int 670 0,.int 2 0,.int 0 0,.int 0 0,.int 3 0,.ref 860,.bool true,.int 181 0,.ref 861,.none,.ref 862,.ref 863,.ref 864,.int 1596 0,.int 670 0,.str "/claim/cut.py" 1597],
fnO (D 138) "move_handles" m8 (.ref 865),
tp [],
rc [],
xt 1602 ["heap","marks","gen","kept","picked","addr"],
tp [],
fnR (D 139) "pick_finals",
xf "pick_finals" "pick_finals" 1599 674 3 867 1608,
fnO (D 139) "pick_finals" m8 (.ref 872),
tp [],
rc [],
xt 1616 ["heap","gen","end","thing"],
tp [],
fnR (D 141) "end_of_older",
fl "code" [.str "end_of_older" 1613,.str "end_of_older" 1614,.str "/claim/cut.py" 1615,.int 686 0,.int 2 0,.int 0 0,.int 0 0,.int 3 0,.ref 874,.bool true,.int 181 0,.ref 875,.none,.ref 876,.ref 877,.ref 878,.int 1620 0,.int 686 0,.str "/claim/cut.py" 1621],
fnO (D 141) "end_of_older" m9 (.ref 879),
tp [],
rc [],
xt 1626 ["heap","marks","gen","moves","goal","thing"],
tp [],
fnR (D 142) "plan_moves",
xf "plan_moves" "plan_moves" 1623 692 3 881 1632,
fnO (D 142) "plan_moves" m9 (.ref 886),
tp [],
xb "type.__prepare__" "type",
dc [en P "__module__" 1642 (.str "framerune.compact" 1611),en P "__qualname__" 1644 (.str "Words" 1643),en P "__firstlineno__" 1646 (.int 700 1645),en P "__init__" 1655 (.ref 901),en P "new_word" 1663 (.ref 908),en P "__static_attributes__" 1666 (.ref 909)] 6,
tp [],
rc [.int 702 0,.int 4 0,.ref 900,.int 706 0,.int 4 0,.ref 907],
xc "Words" 1637 700 891 1640,
fr [some (.ref 893),some (.ref 3),some (.ref 890),none,some (.str "framerune.compact" 1611),none,some (.ref 0)],
tp []]
noncomputable def oc14 (P:Params):List Obj:=[rc [],
xt 1650 ["self","heap","moves"],
tp [],
fnR (M 143 0) "Words.__init__",
xf "__init__" "Words.__init__" 1647 702 3 895 1653,
fnO (M 143 0) "Words.__init__" m9 (.ref 900),
tp [],
rc [],
xt 1659 ["self","word"],
tp [],
fnR (M 143 1) "Words.new_word",
fl "code" [.str "new_word" 1656,.str "Words.new_word" 1657,.str "/claim/cut.py" 1658,.int 706 0,.int 2 0,.int 0 0,.int 0 0,.int 3 0,.ref 902,.bool true,.int 181 0,.ref 903,.none,.ref 904,.ref 905,.ref 906,.int 1661 0,.int 706 0,.str "/claim/cut.py" 1662],
fnO (M 143 1) "Words.new_word" m9 (.ref 907),
xt 1664 ["heap","moves"],
dc [en P "__module__" 1642 (.str "framerune.compact" 1611),en P "__firstlineno__" 1646 (.int 700 1645),en P "__init__" 1655 (.ref 901),en P "new_word" 1663 (.ref 908),en P "__static_attributes__" 1666 (.ref 909),en P "__dict__" 1668 (.ref 912),en P "__weakref__" 1670 (.ref 913),en P "__doc__" 1671 (.none)] 4,
cO [none,none,some (.str "Words" 1635),some (.str "Words" 1643),some (.builtin "object.__new__"),some (.bool true)] "Words" [.type "object"] [.ref 911,.type "object"] 910 "Words" [],
fl "getset_descriptor" [.str "__dict__" 1667,.ref 911,.builtin "function.__dict__",.builtin "function.__dict__#set"],
fl "getset_descriptor" [.str "__weakref__" 1669,.ref 911,.builtin "ExceptionGroup.__weakref__",.none],
xs 911,
fl "builtin_function_or_method" [.builtin "object.__init_subclass__",.ref 911],
tp [],
rc [],
xt 1677 ["heap","moves","word","thing"],
tp [],
fnR (D 144) "moved_word",
xf "moved_word" "moved_word" 1674 708 3 916 1681,
fnO (D 144) "moved_word" m9 (.ref 921),
tp [],
rc [],
xt 1687 ["thing","moves","gen"],
tp [],
fnR (D 145) "stays",
xf "stays" "stays" 1684 713 3 923 1690,
fnO (D 145) "stays" m9 (.ref 928),
tp [],
rc [],
xt 1696 ["values","moves","words","out","value"],
tp [],
fnR (D 146) "moved_values",
xf "moved_values" "moved_values" 1693 715 3 930 1701,
fnO (D 146) "moved_values" m9 (.ref 935),
tp [],
rc [],
xt 1707 ["lists","moves","words","out","values"],
tp [],
fnR (D 147) "new_lists",
xf "new_lists" "new_lists" 1704 720 3 937 1712,
fnO (D 147) "new_lists" m9 (.ref 942),
tp [],
rc [],
xt 1718 ["lists","fresh","place","values","i"],
tp [],
fnR (D 148) "put_lists",
fl "code" [.str "put_lists" 1715,.str "put_lists" 1716,.str "/claim/cut.py" 1717,.int 725 0,.int 2 0,.int 0 0,.int 0 0,.int 3 0,.ref 944,.bool true,.int 181 0,.ref 945,.none,.ref 946,.ref 947,.ref 948,.int 1723 0,.int 725 0,.str "/claim/cut.py" 1724],
fnO (D 148) "put_lists" m9 (.ref 949),
tp [],
rc [],
xt 1729 ["addrs","moves","out","addr"],
tp [],
fnR (D 149) "moved_addrs",
fl "code" [.str "moved_addrs" 1726,.str "moved_addrs" 1727,.str "/claim/cut.py" 1728,.int 730 0,.int 2 0,.int 0 0,.int 0 0,.int 3 0,.ref 951,.bool true,.int 181 0,.ref 952,.none,.ref 953,.ref 954,.ref 955,.int 1733 0,.int 730 0,.str "/claim/cut.py" 1734],
fnO (D 149) "moved_addrs" m9 (.ref 956),
tp [],
rc []]
noncomputable def oc15 (P:Params):List Obj:=[xt 1739 ["heap","thing","moves","gen","goal"],
tp [],
fnR (D 150) "settle_thing",
fl "code" [.str "settle_thing" 1736,.str "settle_thing" 1737,.str "/claim/cut.py" 1738,.int 735 0,.int 4 0,.int 0 0,.int 0 0,.int 3 0,.ref 958,.bool true,.int 181 0,.ref 959,.none,.ref 960,.ref 961,.ref 962,.int 1744 0,.int 735 0,.str "/claim/cut.py" 1745],
fnO (D 150) "settle_thing" m9 (.ref 963),
tp [],
rc [],
xt 1750 ["heap","moves","gen","living","thing"],
tp [],
fnR (D 151) "settle_things",
xf "settle_things" "settle_things" 1747 744 3 965 1755,
fnO (D 151) "settle_things" m9 (.ref 970),
tp [],
rc [],
xt 1761 ["heap","lists","moves","gen","words","every","values","thing"],
tp [],
fnR (D 152) "move_all",
fl "code" [.str "move_all" 1758,.str "move_all" 1759,.str "/claim/cut.py" 1760,.int 756 0,.int 4 0,.int 0 0,.int 0 0,.int 3 0,.ref 972,.bool true,.int 181 0,.ref 973,.none,.ref 974,.ref 975,.ref 976,.int 1769 0,.int 756 0,.str "/claim/cut.py" 1770],
fnO (D 152) "move_all" m9 (.ref 977),
tp [],
rc [],
xt 1777 ["heap","lists","handles","out","values"],
tp [],
fnR (D 154) "root_lists",
xf "root_lists" "root_lists" 1774 769 3 979 1782,
fnO (D 154) "root_lists" m10 (.ref 984),
tp [],
rc [],
xt 1788 ["heap","lists","handles","gen","marks","picked"],
tp [],
fnR (D 155) "find_living",
fl "code" [.str "find_living" 1785,.str "find_living" 1786,.str "/claim/cut.py" 1787,.int 777 0,.int 4 0,.int 0 0,.int 0 0,.int 3 0,.ref 986,.bool true,.int 181 0,.ref 987,.none,.ref 988,.ref 989,.ref 990,.int 1794 0,.int 777 0,.str "/claim/cut.py" 1795],
fnO (D 155) "find_living" m10 (.ref 991),
tp [],
rc [],
xt 1800 ["heap","lists","handles","gen","before","marks","moves"],
tp [],
fnR (D 156) "collect",
fl "code" [.str "collect" 1797,.str "collect" 1798,.str "/claim/cut.py" 1799,.int 786 0,.int 4 0,.int 0 0,.int 0 0,.int 3 0,.ref 993,.bool true,.int 181 0,.ref 994,.none,.ref 995,.ref 996,.ref 997,.int 1807 0,.int 786 0,.str "/claim/cut.py" 1808],
fnO (D 156) "collect" m10 (.ref 998),
tp [.ref 444],
xb "type.__prepare__" "type",
dc [en P "__module__" 1819 (.str "framerune.machine" 1810),en P "__qualname__" 1821 (.str "Collecting" 1820),en P "__firstlineno__" 1823 (.int 797 1822),en P "before" 1831 (.ref 1013),en P "__static_attributes__" 1832 (.ref 1014)] 5,
tp [],
rc [.int 799 0,.int 4 0,.ref 1012],
xc "Collecting" 1814 797 1003 1817,
fr [some (.ref 1005),some (.ref 3),some (.ref 1002),none,some (.str "framerune.machine" 1810),none,some (.ref 0)],
tp [],
rc [],
xt 1827 ["self","m"],
tp [],
fnR (M 158 0) "Collecting.before",
fl "code" [.str "before" 1824,.str "Collecting.before" 1825,.str "/claim/cut.py" 1826,.int 799 0,.int 2 0,.int 0 0,.int 0 0,.int 3 0,.ref 1007,.bool true,.int 181 0,.ref 1008,.none,.ref 1009,.ref 1010,.ref 1011,.int 1829 0,.int 799 0,.str "/claim/cut.py" 1830],
fnO (M 158 0) "Collecting.before" m11 (.ref 1012),
tp [],
dc [en P "__module__" 1819 (.str "framerune.machine" 1810),en P "__firstlineno__" 1823 (.int 797 1822),en P "before" 1831 (.ref 1013),en P "__static_attributes__" 1832 (.ref 1014),en P "__doc__" 1833 (.none)] 2,
cO [some (.ref 1000),none,some (.str "Collecting" 1812),some (.str "Collecting" 1820),some (.builtin "object.__new__"),some (.bool true)] "Collecting" [.ref 444] [.ref 1016,.ref 444,.type "object"] 1015 "Collecting" [],
xs 1016,
fl "builtin_function_or_method" [.builtin "object.__init_subclass__",.ref 1016],
tp [],
rc [],
xt 1839 ["m","want"],
tp [],
fnR (D 159) "sweep"]
noncomputable def oc16 (P:Params):List Obj:=[fl "code" [.str "sweep" 1836,.str "sweep" 1837,.str "/claim/cut.py" 1838,.int 801 0,.int 1 0,.int 0 0,.int 0 0,.int 3 0,.ref 1019,.bool true,.int 181 0,.ref 1020,.none,.ref 1021,.ref 1022,.ref 1023,.int 1841 0,.int 801 0,.str "/claim/cut.py" 1842],
fnO (D 159) "sweep" m11 (.ref 1024),
tp [],
rc [],
xt 1847 ["m","out","f","kind","chase","values"],
tp [],
fnR (D 160) "roots",
fl "code" [.str "roots" 1844,.str "roots" 1845,.str "/claim/cut.py" 1846,.int 807 0,.int 1 0,.int 0 0,.int 0 0,.int 3 0,.ref 1026,.bool true,.int 181 0,.ref 1027,.none,.ref 1028,.ref 1029,.ref 1030,.int 1853 0,.int 807 0,.str "/claim/cut.py" 1854],
fnO (D 160) "roots" m11 (.ref 1031),
tp [],
rc [],
xt 1859 ["m","gen"],
tp [],
fnR (D 161) "collect_for",
fl "code" [.str "collect_for" 1856,.str "collect_for" 1857,.str "/claim/cut.py" 1858,.int 827 0,.int 2 0,.int 0 0,.int 0 0,.int 3 0,.ref 1033,.bool true,.int 181 0,.ref 1034,.none,.ref 1035,.ref 1036,.ref 1037,.int 1861 0,.int 827 0,.str "/claim/cut.py" 1862],
fnO (D 161) "collect_for" m11 (.ref 1038),
tp [],
xb "type.__prepare__" "type",
dc [en P "__module__" 1885 (.str "framerune.store" 1864),en P "__qualname__" 1887 (.str "Store" 1886),en P "__firstlineno__" 1889 (.int 838 1888),en P "__init__" 1896 (.ref 1053),en P "__static_attributes__" 1904 (.ref 1054)] 5,
tp [],
rc [.int 840 0,.int 4 0,.ref 1052],
xc "Store" 1880 838 1043 1883,
fr [some (.ref 1045),some (.ref 3),some (.ref 1042),none,some (.str "framerune.store" 1864),none,some (.ref 0)],
tp [],
rc [],
tp [.str "self" 1893],
tp [],
fnR (M 169 0) "Store.__init__",
fl "code" [.str "__init__" 1890,.str "Store.__init__" 1891,.str "/claim/cut.py" 1892,.int 840 0,.int 1 0,.int 0 0,.int 0 0,.int 3 0,.ref 1047,.bool true,.int 181 0,.ref 1048,.none,.ref 1049,.ref 1050,.ref 1051,.int 1894 0,.int 840 0,.str "/claim/cut.py" 1895],
fnO (M 169 0) "Store.__init__" m12 (.ref 1052),
xt 1897 ["asms","entry","fields_","kt","methods","names","types"],
dc [en P "__module__" 1885 (.str "framerune.store" 1864),en P "__firstlineno__" 1889 (.int 838 1888),en P "__init__" 1896 (.ref 1053),en P "__static_attributes__" 1904 (.ref 1054),en P "__dict__" 1906 (.ref 1057),en P "__weakref__" 1908 (.ref 1058),en P "__doc__" 1909 (.none)] 4,
cO [none,none,some (.str "Store" 1878),some (.str "Store" 1886),some (.builtin "object.__new__"),some (.bool true)] "Store" [.type "object"] [.ref 1056,.type "object"] 1055 "Store" [],
fl "getset_descriptor" [.str "__dict__" 1905,.ref 1056,.builtin "function.__dict__",.builtin "function.__dict__#set"],
fl "getset_descriptor" [.str "__weakref__" 1907,.ref 1056,.builtin "ExceptionGroup.__weakref__",.none],
xs 1056,
fl "builtin_function_or_method" [.builtin "object.__init_subclass__",.ref 1056],
tp [],
rc [],
tp [.str "yes" 1943],
tp [],
fnR (D 184) "bool_value",
fl "code" [.str "bool_value" 1940,.str "bool_value" 1941,.str "/claim/cut.py" 1942,.int 862 0,.int 1 0,.int 0 0,.int 0 0,.int 3 0,.ref 1061,.bool true,.int 181 0,.ref 1062,.none,.ref 1063,.ref 1064,.ref 1065,.int 1944 0,.int 862 0,.str "/claim/cut.py" 1945],
fnO (D 184) "bool_value" m13 (.ref 1066),
tp [],
rc [],
xt 1950 ["m","value"],
tp [],
fnR (D 185) "thing_named",
fl "code" [.str "thing_named" 1947,.str "thing_named" 1948,.str "/claim/cut.py" 1949,.int 866 0,.int 2 0,.int 0 0,.int 0 0,.int 3 0,.ref 1068,.bool true,.int 181 0,.ref 1069,.none,.ref 1070,.ref 1071,.ref 1072,.int 1952 0,.int 866 0,.str "/claim/cut.py" 1953],
fnO (D 185) "thing_named" m13 (.ref 1073),
tp [],
rc [],
xt 1958 ["m","value"],
tp [],
fnR (D 186) "text_at",
fl "code" [.str "text_at" 1955,.str "text_at" 1956,.str "/claim/cut.py" 1957,.int 868 0,.int 2 0,.int 0 0,.int 0 0,.int 3 0,.ref 1075,.bool true,.int 181 0,.ref 1076,.none,.ref 1077,.ref 1078,.ref 1079,.int 1960 0,.int 868 0,.str "/claim/cut.py" 1961],
fnO (D 186) "text_at" m13 (.ref 1080),
tp [],
rc [],
tp [.str "m" 1966],
tp [],
fnR (D 187) "no_object",
fl "code" [.str "no_object" 1963,.str "no_object" 1964,.str "/claim/cut.py" 1965,.int 872 0,.int 1 0,.int 0 0,.int 0 0,.int 3 0,.ref 1082,.bool true,.int 181 0,.ref 1083,.none,.ref 1084,.ref 1085,.ref 1086,.int 1967 0,.int 872 0,.str "/claim/cut.py" 1968]]
noncomputable def oc17 (P:Params):List Obj:=[fnO (D 187) "no_object" m13 (.ref 1087),
tp [],
rc [],
xt 1973 ["m","tid","text"],
tp [],
fnR (D 188) "bad_argument",
xf "bad_argument" "bad_argument" 1970 875 3 1089 1976,
fnO (D 188) "bad_argument" m13 (.ref 1094),
tp [],
rc [],
xt 1982 ["text","h","letter"],
tp [],
fnR (D 189) "text_hash",
fl "code" [.str "text_hash" 1979,.str "text_hash" 1980,.str "/claim/cut.py" 1981,.int 878 0,.int 1 0,.int 0 0,.int 0 0,.int 3 0,.ref 1096,.bool true,.int 181 0,.ref 1097,.none,.ref 1098,.ref 1099,.ref 1100,.int 1985 0,.int 878 0,.str "/claim/cut.py" 1986],
fnO (D 189) "text_hash" m13 (.ref 1101),
tp [.ref 388],
xb "type.__prepare__" "type",
dc [en P "__module__" 1995 (.str "framerune.natives" 1912),en P "__qualname__" 1997 (.str "TextConcat" 1996),en P "__firstlineno__" 1999 (.int 883 1998),en P "call" 2011 (.ref 1116),en P "__static_attributes__" 2012 (.ref 1117)] 5,
tp [],
rc [.int 885 0,.int 4 0,.ref 1115],
xc "TextConcat" 1990 883 1106 1993,
fr [some (.ref 1108),some (.ref 3),some (.ref 1105),none,some (.str "framerune.natives" 1912),none,some (.ref 0)],
tp [],
rc [],
xt 2003 ["self","m","f","args","a","b"],
tp [],
fnR (M 190 0) "TextConcat.call",
fl "code" [.str "call" 2000,.str "TextConcat.call" 2001,.str "/claim/cut.py" 2002,.int 885 0,.int 4 0,.int 0 0,.int 0 0,.int 3 0,.ref 1110,.bool true,.int 181 0,.ref 1111,.none,.ref 1112,.ref 1113,.ref 1114,.int 2009 0,.int 885 0,.str "/claim/cut.py" 2010],
fnO (M 190 0) "TextConcat.call" m13 (.ref 1115),
tp [],
dc [en P "__module__" 1995 (.str "framerune.natives" 1912),en P "__firstlineno__" 1999 (.int 883 1998),en P "call" 2011 (.ref 1116),en P "__static_attributes__" 2012 (.ref 1117),en P "__doc__" 2013 (.none)] 2,
cO [some (.ref 1103),none,some (.str "TextConcat" 1988),some (.str "TextConcat" 1996),some (.builtin "object.__new__"),some (.bool true)] "TextConcat" [.ref 388] [.ref 1119,.ref 388,.type "object"] 1118 "TextConcat" [],
xs 1119,
fl "builtin_function_or_method" [.builtin "object.__init_subclass__",.ref 1119],
tp [.ref 388],
xb "type.__prepare__" "type",
dc [en P "__module__" 2023 (.str "framerune.natives" 1912),en P "__qualname__" 2025 (.str "TextLength" 2024),en P "__firstlineno__" 2027 (.int 897 2026),en P "call" 2038 (.ref 1135),en P "__static_attributes__" 2039 (.ref 1136)] 5,
tp [],
rc [.int 899 0,.int 4 0,.ref 1134],
xc "TextLength" 2018 897 1125 2021,
fr [some (.ref 1127),some (.ref 3),some (.ref 1124),none,some (.str "framerune.natives" 1912),none,some (.ref 0)],
tp [],
rc [],
xt 2031 ["self","m","f","args","text"],
tp [],
fnR (M 191 0) "TextLength.call",
fl "code" [.str "call" 2028,.str "TextLength.call" 2029,.str "/claim/cut.py" 2030,.int 899 0,.int 4 0,.int 0 0,.int 0 0,.int 3 0,.ref 1129,.bool true,.int 181 0,.ref 1130,.none,.ref 1131,.ref 1132,.ref 1133,.int 2036 0,.int 899 0,.str "/claim/cut.py" 2037],
fnO (M 191 0) "TextLength.call" m13 (.ref 1134),
tp [],
dc [en P "__module__" 2023 (.str "framerune.natives" 1912),en P "__firstlineno__" 2027 (.int 897 2026),en P "call" 2038 (.ref 1135),en P "__static_attributes__" 2039 (.ref 1136),en P "__doc__" 2040 (.none)] 2,
cO [some (.ref 1122),none,some (.str "TextLength" 2016),some (.str "TextLength" 2024),some (.builtin "object.__new__"),some (.bool true)] "TextLength" [.ref 388] [.ref 1138,.ref 388,.type "object"] 1137 "TextLength" [],
xs 1138,
fl "builtin_function_or_method" [.builtin "object.__init_subclass__",.ref 1138],
tp [.ref 388],
xb "type.__prepare__" "type",
dc [en P "__module__" 2050 (.str "framerune.natives" 1912),en P "__qualname__" 2052 (.str "TextChars" 2051),en P "__firstlineno__" 2054 (.int 904 2053),en P "call" 2066 (.ref 1154),en P "__static_attributes__" 2067 (.ref 1155)] 5,
tp [],
rc [.int 906 0,.int 4 0,.ref 1153],
xc "TextChars" 2045 904 1144 2048,
fr [some (.ref 1146),some (.ref 3),some (.ref 1143),none,some (.str "framerune.natives" 1912),none,some (.ref 0)],
tp [],
rc [],
xt 2058 ["self","m","f","args","text","place"],
tp []]
noncomputable def oc18 (P:Params):List Obj:=[fnR (M 192 0) "TextChars.call",
fl "code" [.str "call" 2055,.str "TextChars.call" 2056,.str "/claim/cut.py" 2057,.int 906 0,.int 4 0,.int 0 0,.int 0 0,.int 3 0,.ref 1148,.bool true,.int 181 0,.ref 1149,.none,.ref 1150,.ref 1151,.ref 1152,.int 2064 0,.int 906 0,.str "/claim/cut.py" 2065],
fnO (M 192 0) "TextChars.call" m13 (.ref 1153),
tp [],
dc [en P "__module__" 2050 (.str "framerune.natives" 1912),en P "__firstlineno__" 2054 (.int 904 2053),en P "call" 2066 (.ref 1154),en P "__static_attributes__" 2067 (.ref 1155),en P "__doc__" 2068 (.none)] 2,
cO [some (.ref 1141),none,some (.str "TextChars" 2043),some (.str "TextChars" 2051),some (.builtin "object.__new__"),some (.bool true)] "TextChars" [.ref 388] [.ref 1157,.ref 388,.type "object"] 1156 "TextChars" [],
xs 1157,
fl "builtin_function_or_method" [.builtin "object.__init_subclass__",.ref 1157],
tp [.ref 388],
xb "type.__prepare__" "type",
dc [en P "__module__" 2078 (.str "framerune.natives" 1912),en P "__qualname__" 2080 (.str "TextSame" 2079),en P "__firstlineno__" 2082 (.int 914 2081),en P "call" 2094 (.ref 1173),en P "__static_attributes__" 2095 (.ref 1174)] 5,
tp [],
rc [.int 916 0,.int 4 0,.ref 1172],
xc "TextSame" 2073 914 1163 2076,
fr [some (.ref 1165),some (.ref 3),some (.ref 1162),none,some (.str "framerune.natives" 1912),none,some (.ref 0)],
tp [],
rc [],
xt 2086 ["self","m","f","args","a","b"],
tp [],
fnR (M 193 0) "TextSame.call",
fl "code" [.str "call" 2083,.str "TextSame.call" 2084,.str "/claim/cut.py" 2085,.int 916 0,.int 4 0,.int 0 0,.int 0 0,.int 3 0,.ref 1167,.bool true,.int 181 0,.ref 1168,.none,.ref 1169,.ref 1170,.ref 1171,.int 2092 0,.int 916 0,.str "/claim/cut.py" 2093],
fnO (M 193 0) "TextSame.call" m13 (.ref 1172),
tp [],
dc [en P "__module__" 2078 (.str "framerune.natives" 1912),en P "__firstlineno__" 2082 (.int 914 2081),en P "call" 2094 (.ref 1173),en P "__static_attributes__" 2095 (.ref 1174),en P "__doc__" 2096 (.none)] 2,
cO [some (.ref 1160),none,some (.str "TextSame" 2071),some (.str "TextSame" 2079),some (.builtin "object.__new__"),some (.bool true)] "TextSame" [.ref 388] [.ref 1176,.ref 388,.type "object"] 1175 "TextSame" [],
xs 1176,
fl "builtin_function_or_method" [.builtin "object.__init_subclass__",.ref 1176],
tp [.ref 388],
xb "type.__prepare__" "type",
dc [en P "__module__" 2106 (.str "framerune.natives" 1912),en P "__qualname__" 2108 (.str "TextEquals" 2107),en P "__firstlineno__" 2110 (.int 922 2109),en P "call" 2122 (.ref 1192),en P "__static_attributes__" 2123 (.ref 1193)] 5,
tp [],
rc [.int 924 0,.int 4 0,.ref 1191],
xc "TextEquals" 2101 922 1182 2104,
fr [some (.ref 1184),some (.ref 3),some (.ref 1181),none,some (.str "framerune.natives" 1912),none,some (.ref 0)],
tp [],
rc [],
xt 2114 ["self","m","f","args","text","other"],
tp [],
fnR (M 194 0) "TextEquals.call",
fl "code" [.str "call" 2111,.str "TextEquals.call" 2112,.str "/claim/cut.py" 2113,.int 924 0,.int 4 0,.int 0 0,.int 0 0,.int 3 0,.ref 1186,.bool true,.int 181 0,.ref 1187,.none,.ref 1188,.ref 1189,.ref 1190,.int 2120 0,.int 924 0,.str "/claim/cut.py" 2121],
fnO (M 194 0) "TextEquals.call" m13 (.ref 1191),
tp [],
dc [en P "__module__" 2106 (.str "framerune.natives" 1912),en P "__firstlineno__" 2110 (.int 922 2109),en P "call" 2122 (.ref 1192),en P "__static_attributes__" 2123 (.ref 1193),en P "__doc__" 2124 (.none)] 2,
cO [some (.ref 1179),none,some (.str "TextEquals" 2099),some (.str "TextEquals" 2107),some (.builtin "object.__new__"),some (.bool true)] "TextEquals" [.ref 388] [.ref 1195,.ref 388,.type "object"] 1194 "TextEquals" [],
xs 1195,
fl "builtin_function_or_method" [.builtin "object.__init_subclass__",.ref 1195],
tp [.ref 388],
xb "type.__prepare__" "type",
dc [en P "__module__" 2134 (.str "framerune.natives" 1912),en P "__qualname__" 2136 (.str "TextHash" 2135),en P "__firstlineno__" 2138 (.int 932 2137),en P "call" 2149 (.ref 1211),en P "__static_attributes__" 2150 (.ref 1212)] 5,
tp [],
rc [.int 934 0,.int 4 0,.ref 1210],
xc "TextHash" 2129 932 1201 2132,
fr [some (.ref 1203),some (.ref 3),some (.ref 1200),none,some (.str "framerune.natives" 1912),none,some (.ref 0)],
tp [],
rc [],
xt 2142 ["self","m","f","args","text"],
tp [],
fnR (M 195 0) "TextHash.call",
fl "code" [.str "call" 2139,.str "TextHash.call" 2140,.str "/claim/cut.py" 2141,.int 934 0,.int 4 0,.int 0 0,.int 0 0,.int 3 0,.ref 1205,.bool true,.int 181 0,.ref 1206,.none,.ref 1207,.ref 1208,.ref 1209,.int 2147 0,.int 934 0,.str "/claim/cut.py" 2148],
fnO (M 195 0) "TextHash.call" m13 (.ref 1210),
tp [],
dc [en P "__module__" 2134 (.str "framerune.natives" 1912),en P "__firstlineno__" 2138 (.int 932 2137),en P "call" 2149 (.ref 1211),en P "__static_attributes__" 2150 (.ref 1212),en P "__doc__" 2151 (.none)] 2,
cO [some (.ref 1198),none,some (.str "TextHash" 2127),some (.str "TextHash" 2135),some (.builtin "object.__new__"),some (.bool true)] "TextHash" [.ref 388] [.ref 1214,.ref 388,.type "object"] 1213 "TextHash" [],
xs 1214]
noncomputable def oc19 (P:Params):List Obj:=[fl "builtin_function_or_method" [.builtin "object.__init_subclass__",.ref 1214],
tp [.ref 388],
xb "type.__prepare__" "type",
dc [en P "__module__" 2161 (.str "framerune.natives" 1912),en P "__qualname__" 2163 (.str "TextPart" 2162),en P "__firstlineno__" 2165 (.int 939 2164),en P "call" 2178 (.ref 1230),en P "__static_attributes__" 2179 (.ref 1231)] 5,
tp [],
rc [.int 941 0,.int 4 0,.ref 1229],
xc "TextPart" 2156 939 1220 2159,
fr [some (.ref 1222),some (.ref 3),some (.ref 1219),none,some (.str "framerune.natives" 1912),none,some (.ref 0)],
tp [],
rc [],
xt 2169 ["self","m","f","args","text","first","count"],
tp [],
fnR (M 196 0) "TextPart.call",
fl "code" [.str "call" 2166,.str "TextPart.call" 2167,.str "/claim/cut.py" 2168,.int 941 0,.int 4 0,.int 0 0,.int 0 0,.int 3 0,.ref 1224,.bool true,.int 181 0,.ref 1225,.none,.ref 1226,.ref 1227,.ref 1228,.int 2176 0,.int 941 0,.str "/claim/cut.py" 2177],
fnO (M 196 0) "TextPart.call" m13 (.ref 1229),
tp [],
dc [en P "__module__" 2161 (.str "framerune.natives" 1912),en P "__firstlineno__" 2165 (.int 939 2164),en P "call" 2178 (.ref 1230),en P "__static_attributes__" 2179 (.ref 1231),en P "__doc__" 2180 (.none)] 2,
cO [some (.ref 1217),none,some (.str "TextPart" 2154),some (.str "TextPart" 2162),some (.builtin "object.__new__"),some (.bool true)] "TextPart" [.ref 388] [.ref 1233,.ref 388,.type "object"] 1232 "TextPart" [],
xs 1233,
fl "builtin_function_or_method" [.builtin "object.__init_subclass__",.ref 1233],
tp [.ref 388],
xb "type.__prepare__" "type",
dc [en P "__module__" 2190 (.str "framerune.natives" 1912),en P "__qualname__" 2192 (.str "TextIndex" 2191),en P "__firstlineno__" 2194 (.int 954 2193),en P "call" 2206 (.ref 1249),en P "__static_attributes__" 2207 (.ref 1250)] 5,
tp [],
rc [.int 956 0,.int 4 0,.ref 1248],
xc "TextIndex" 2185 954 1239 2188,
fr [some (.ref 1241),some (.ref 3),some (.ref 1238),none,some (.str "framerune.natives" 1912),none,some (.ref 0)],
tp [],
rc [],
xt 2198 ["self","m","f","args","text","other"],
tp [],
fnR (M 197 0) "TextIndex.call",
fl "code" [.str "call" 2195,.str "TextIndex.call" 2196,.str "/claim/cut.py" 2197,.int 956 0,.int 4 0,.int 0 0,.int 0 0,.int 3 0,.ref 1243,.bool true,.int 181 0,.ref 1244,.none,.ref 1245,.ref 1246,.ref 1247,.int 2204 0,.int 956 0,.str "/claim/cut.py" 2205],
fnO (M 197 0) "TextIndex.call" m13 (.ref 1248),
tp [],
dc [en P "__module__" 2190 (.str "framerune.natives" 1912),en P "__firstlineno__" 2194 (.int 954 2193),en P "call" 2206 (.ref 1249),en P "__static_attributes__" 2207 (.ref 1250),en P "__doc__" 2208 (.none)] 2,
cO [some (.ref 1236),none,some (.str "TextIndex" 2183),some (.str "TextIndex" 2191),some (.builtin "object.__new__"),some (.bool true)] "TextIndex" [.ref 388] [.ref 1252,.ref 388,.type "object"] 1251 "TextIndex" [],
xs 1252,
fl "builtin_function_or_method" [.builtin "object.__init_subclass__",.ref 1252],
tp [.ref 388],
xb "type.__prepare__" "type",
dc [en P "__module__" 2218 (.str "framerune.natives" 1912),en P "__qualname__" 2220 (.str "TextCompare" 2219),en P "__firstlineno__" 2222 (.int 964 2221),en P "call" 2234 (.ref 1268),en P "__static_attributes__" 2235 (.ref 1269)] 5,
tp [],
rc [.int 966 0,.int 4 0,.ref 1267],
xc "TextCompare" 2213 964 1258 2216,
fr [some (.ref 1260),some (.ref 3),some (.ref 1257),none,some (.str "framerune.natives" 1912),none,some (.ref 0)],
tp [],
rc [],
xt 2226 ["self","m","f","args","text","other"],
tp [],
fnR (M 198 0) "TextCompare.call",
fl "code" [.str "call" 2223,.str "TextCompare.call" 2224,.str "/claim/cut.py" 2225,.int 966 0,.int 4 0,.int 0 0,.int 0 0,.int 3 0,.ref 1262,.bool true,.int 181 0,.ref 1263,.none,.ref 1264,.ref 1265,.ref 1266,.int 2232 0,.int 966 0,.str "/claim/cut.py" 2233],
fnO (M 198 0) "TextCompare.call" m13 (.ref 1267),
tp [],
dc [en P "__module__" 2218 (.str "framerune.natives" 1912),en P "__firstlineno__" 2222 (.int 964 2221),en P "call" 2234 (.ref 1268),en P "__static_attributes__" 2235 (.ref 1269),en P "__doc__" 2236 (.none)] 2,
cO [some (.ref 1255),none,some (.str "TextCompare" 2211),some (.str "TextCompare" 2219),some (.builtin "object.__new__"),some (.bool true)] "TextCompare" [.ref 388] [.ref 1271,.ref 388,.type "object"] 1270 "TextCompare" [],
xs 1271,
fl "builtin_function_or_method" [.builtin "object.__init_subclass__",.ref 1271],
tp [],
rc [],
tp [.str "m" 2242],
tp [],
fnR (D 199) "install_native_text",
fl "code" [.str "install_native_text" 2239,.str "install_native_text" 2240,.str "/claim/cut.py" 2241,.int 976 0,.int 1 0,.int 0 0,.int 0 0,.int 3 0,.ref 1274,.bool true,.int 181 0,.ref 1275,.none,.ref 1276,.ref 1277,.ref 1278,.int 2243 0,.int 976 0,.str "/claim/cut.py" 2244]]
noncomputable def oc20 (P:Params):List Obj:=[fnO (D 199) "install_native_text" m13 (.ref 1279),
tp [],
rc [],
xt 2249 ["m","kind","key","place","thing"],
tp [],
fnR (D 200) "new_type",
fl "code" [.str "new_type" 2246,.str "new_type" 2247,.str "/claim/cut.py" 2248,.int 986 0,.int 2 0,.int 0 0,.int 0 0,.int 3 0,.ref 1281,.bool true,.int 181 0,.ref 1282,.none,.ref 1283,.ref 1284,.ref 1285,.int 2254 0,.int 986 0,.str "/claim/cut.py" 2255],
fnO (D 200) "new_type" m13 (.ref 1286),
tp [.ref 388],
xb "type.__prepare__" "type",
dc [en P "__module__" 2264 (.str "framerune.natives" 1912),en P "__qualname__" 2266 (.str "TypeFrom" 2265),en P "__firstlineno__" 2268 (.int 996 2267),en P "call" 2278 (.ref 1301),en P "__static_attributes__" 2279 (.ref 1302)] 5,
tp [],
rc [.int 998 0,.int 4 0,.ref 1300],
xc "TypeFrom" 2259 996 1291 2262,
fr [some (.ref 1293),some (.ref 3),some (.ref 1290),none,some (.str "framerune.natives" 1912),none,some (.ref 0)],
tp [],
rc [],
xt 2272 ["self","m","f","args"],
tp [],
fnR (M 201 0) "TypeFrom.call",
fl "code" [.str "call" 2269,.str "TypeFrom.call" 2270,.str "/claim/cut.py" 2271,.int 998 0,.int 4 0,.int 0 0,.int 0 0,.int 3 0,.ref 1295,.bool true,.int 181 0,.ref 1296,.none,.ref 1297,.ref 1298,.ref 1299,.int 2276 0,.int 998 0,.str "/claim/cut.py" 2277],
fnO (M 201 0) "TypeFrom.call" m13 (.ref 1300),
tp [],
dc [en P "__module__" 2264 (.str "framerune.natives" 1912),en P "__firstlineno__" 2268 (.int 996 2267),en P "call" 2278 (.ref 1301),en P "__static_attributes__" 2279 (.ref 1302),en P "__doc__" 2280 (.none)] 2,
cO [some (.ref 1288),none,some (.str "TypeFrom" 2257),some (.str "TypeFrom" 2265),some (.builtin "object.__new__"),some (.bool true)] "TypeFrom" [.ref 388] [.ref 1304,.ref 388,.type "object"] 1303 "TypeFrom" [],
xs 1304,
fl "builtin_function_or_method" [.builtin "object.__init_subclass__",.ref 1304],
tp [],
rc [],
tp [.str "m" 2286],
tp [],
fnR (D 202) "install_native_type",
fl "code" [.str "install_native_type" 2283,.str "install_native_type" 2284,.str "/claim/cut.py" 2285,.int 1000 0,.int 1 0,.int 0 0,.int 0 0,.int 3 0,.ref 1307,.bool true,.int 181 0,.ref 1308,.none,.ref 1309,.ref 1310,.ref 1311,.int 2287 0,.int 1000 0,.str "/claim/cut.py" 2288],
fnO (D 202) "install_native_type" m13 (.ref 1312),
tp [],
rc [],
xt 2295 ["m","where","t"],
tp [],
fnR (D 204) "_law_where",
fl "code" [.str "_law_where" 2292,.str "_law_where" 2293,.str "/claim/cut.py" 2294,.int 1003 0,.int 1 0,.int 0 0,.int 0 0,.int 3 0,.ref 1314,.bool true,.int 181 0,.ref 1315,.none,.ref 1316,.ref 1317,.ref 1318,.int 2298 0,.int 1003 0,.str "/claim/cut.py" 2299],
fnO (D 204) "_law_where" m14 (.ref 1319),
tp [],
rc [],
fnR (D 205) "_law_held",
fl "code" [.str "_law_held" 2301,.str "_law_held" 2302,.str "/claim/cut.py" 2303,.int 1008 0,.int 1 0,.int 0 0,.int 0 0,.int 3 0,.ref 1321,.bool true,.int 181 0,.ref 1322,.none,.none,.none,.ref 1323,.int 2304 0,.int 1008 0,.str "/claim/cut.py" 2305],
fnO (D 205) "_law_held" m14 (.ref 1324),
tp [],
rc [],
fnR (D 206) "_law_same",
fl "code" [.str "_law_same" 2307,.str "_law_same" 2308,.str "/claim/cut.py" 2309,.int 1014 0,.int 1 0,.int 0 0,.int 0 0,.int 3 0,.ref 1326,.bool true,.int 181 0,.ref 1327,.none,.none,.none,.ref 1328,.int 2310 0,.int 1014 0,.str "/claim/cut.py" 2311],
fnO (D 206) "_law_same" m14 (.ref 1329),
tp [],
rc [],
fnR (D 207) "_law_ask",
fl "code" [.str "_law_ask" 2313,.str "_law_ask" 2314,.str "/claim/cut.py" 2315,.int 1026 0,.int 4 0,.int 0 0,.int 0 0,.int 3 0,.ref 1331,.bool true,.int 181 0,.ref 1332,.none,.none,.none,.ref 1333,.int 2316 0,.int 1026 0,.str "/claim/cut.py" 2317],
fnO (D 207) "_law_ask" m14 (.ref 1334),
tp [],
rc [],
xt 2322 ["w","x","gave","a"],
tp [],
fnR (D 208) "_law_put",
fl "code" [.str "_law_put" 2319,.str "_law_put" 2320,.str "/claim/cut.py" 2321,.int 1049 0,.int 4 0,.int 0 0,.int 0 0,.int 3 0,.ref 1336,.bool true,.int 181 0,.ref 1337,.none,.ref 1338,.ref 1339,.ref 1340,.int 2326 0,.int 1049 0,.str "/claim/cut.py" 2327],
fnO (D 208) "_law_put" m14 (.ref 1341),
tp []]
noncomputable def oc21 (P:Params):List Obj:=[rc [],
xt 2332 ["w","x","gave","kind","slot","thing"],
tp [],
fnR (D 209) "_law_new",
fl "code" [.str "_law_new" 2329,.str "_law_new" 2330,.str "/claim/cut.py" 2331,.int 1053 0,.int 5 0,.int 0 0,.int 0 0,.int 3 0,.ref 1343,.bool true,.int 181 0,.ref 1344,.none,.ref 1345,.ref 1346,.ref 1347,.int 2338 0,.int 1053 0,.str "/claim/cut.py" 2339],
fnO (D 209) "_law_new" m14 (.ref 1348),
tp [],
rc [],
xt 2344 ["w","x","gave","key","kind","slot","row"],
tp [],
fnR (D 210) "_law_kept",
fl "code" [.str "_law_kept" 2341,.str "_law_kept" 2342,.str "/claim/cut.py" 2343,.int 1062 0,.int 6 0,.int 0 0,.int 0 0,.int 3 0,.ref 1350,.bool true,.int 181 0,.ref 1351,.none,.ref 1352,.ref 1353,.ref 1354,.int 2351 0,.int 1062 0,.str "/claim/cut.py" 2352],
fnO (D 210) "_law_kept" m14 (.ref 1355),
tp [],
rc [],
xt 2357 ["w","x","mode","word"],
tp [],
fnR (D 211) "_law_word",
fl "code" [.str "_law_word" 2354,.str "_law_word" 2355,.str "/claim/cut.py" 2356,.int 1070 0,.int 4 0,.int 0 0,.int 0 0,.int 3 0,.ref 1357,.bool true,.int 181 0,.ref 1358,.none,.ref 1359,.ref 1360,.ref 1361,.int 2361 0,.int 1070 0,.str "/claim/cut.py" 2362],
fnO (D 211) "_law_word" m14 (.ref 1362),
tp [],
rc [],
xt 2367 ["w","x","mode","k"],
tp [],
fnR (D 212) "_law_type",
fl "code" [.str "_law_type" 2364,.str "_law_type" 2365,.str "/claim/cut.py" 2366,.int 1072 0,.int 4 0,.int 0 0,.int 0 0,.int 3 0,.ref 1364,.bool true,.int 181 0,.ref 1365,.none,.ref 1366,.ref 1367,.ref 1368,.int 2371 0,.int 1072 0,.str "/claim/cut.py" 2372],
fnO (D 212) "_law_type" m14 (.ref 1369),
tp [],
rc [],
xt 2377 ["w","a"],
tp [],
fnR (D 213) "_law_plain",
fl "code" [.str "_law_plain" 2374,.str "_law_plain" 2375,.str "/claim/cut.py" 2376,.int 1074 0,.int 2 0,.int 0 0,.int 0 0,.int 3 0,.ref 1371,.bool true,.int 181 0,.ref 1372,.none,.ref 1373,.ref 1374,.ref 1375,.int 2379 0,.int 1074 0,.str "/claim/cut.py" 2380],
fnO (D 213) "_law_plain" m14 (.ref 1376),
tp [],
rc [],
xt 2385 ["w","a"],
tp [],
fnR (D 214) "_law_letters",
fl "code" [.str "_law_letters" 2382,.str "_law_letters" 2383,.str "/claim/cut.py" 2384,.int 1078 0,.int 2 0,.int 0 0,.int 0 0,.int 3 0,.ref 1378,.bool true,.int 181 0,.ref 1379,.none,.ref 1380,.ref 1381,.ref 1382,.int 2387 0,.int 1078 0,.str "/claim/cut.py" 2388],
fnO (D 214) "_law_letters" m14 (.ref 1383),
tp [],
rc [],
xt 2393 ["w","mode","a","b","x","args","gave","one","two"],
tp [],
fnR (D 215) "_law_join",
fl "code" [.str "_law_join" 2390,.str "_law_join" 2391,.str "/claim/cut.py" 2392,.int 1082 0,.int 6 0,.int 0 0,.int 0 0,.int 3 0,.ref 1385,.bool true,.int 181 0,.ref 1386,.none,.ref 1387,.ref 1388,.ref 1389,.int 2402 0,.int 1082 0,.str "/claim/cut.py" 2403],
fnO (D 215) "_law_join" m14 (.ref 1390),
tp [],
rc [],
xt 2408 ["w","mode","a","z","x","this","m","units","spots","begin","count","gave","good"],
tp [],
fnR (D 216) "_law_part",
fl "code" [.str "_law_part" 2405,.str "_law_part" 2406,.str "/claim/cut.py" 2407,.int 1093 0,.int 6 0,.int 0 0,.int 0 0,.int 3 0,.ref 1392,.bool true,.int 181 0,.ref 1393,.none,.ref 1394,.ref 1395,.ref 1396,.int 2421 0,.int 1093 0,.str "/claim/cut.py" 2422],
fnO (D 216) "_law_part" m14 (.ref 1397),
tp [],
rc [],
xt 2427 ["w","a","b","heap","before","where","one","two","units","same","this","said"],
tp [],
fnR (D 217) "_law_alike",
xf "_law_alike" "_law_alike" 2424 1109 3 1399 2439,
fnO (D 217) "_law_alike" m14 (.ref 1404),
tp [],
rc []]
noncomputable def oc22 (P:Params):List Obj:=[xt 2445 ["w","gen","heap","many"],
tp [],
fnR (D 218) "_law_gone",
fl "code" [.str "_law_gone" 2442,.str "_law_gone" 2443,.str "/claim/cut.py" 2444,.int 1131 0,.int 2 0,.int 0 0,.int 0 0,.int 3 0,.ref 1406,.bool true,.int 181 0,.ref 1407,.none,.ref 1408,.ref 1409,.ref 1410,.int 2449 0,.int 1131 0,.str "/claim/cut.py" 2450],
fnO (D 218) "_law_gone" m14 (.ref 1411),
tp [],
rc [],
xt 2455 ["w","v","op","mode","i","j","x","z","a","b","where","word","args"],
tp [],
fnR (D 219) "_law_deed",
fl "code" [.str "_law_deed" 2452,.str "_law_deed" 2453,.str "/claim/cut.py" 2454,.int 1135 0,.int 2 0,.int 0 0,.int 0 0,.int 3 0,.ref 1413,.bool true,.int 181 0,.ref 1414,.none,.ref 1415,.ref 1416,.ref 1417,.int 2468 0,.int 1135 0,.str "/claim/cut.py" 2469],
fnO (D 219) "_law_deed" m14 (.ref 1418),
tp [],
rc [],
xt 2474 ["w","c","key","a","good"],
tp [],
fnR (D 220) "_law_end",
fl "code" [.str "_law_end" 2471,.str "_law_end" 2472,.str "/claim/cut.py" 2473,.int 1174 0,.int 1 0,.int 0 0,.int 0 0,.int 3 0,.ref 1420,.bool true,.int 181 0,.ref 1421,.none,.ref 1422,.ref 1423,.ref 1424,.int 2479 0,.int 1174 0,.str "/claim/cut.py" 2480],
fnO (D 220) "_law_end" m14 (.ref 1425),
tp [],
rc [],
fnR (D 221) "law",
fl "code" [.str "law" 2482,.str "law" 2483,.str "/claim/cut.py" 2484,.int 1188 0,.int 1 0,.int 0 0,.int 0 0,.int 3 0,.ref 1427,.bool true,.int 181 0,.ref 1428,.none,.none,.none,.ref 1429,.int 2485 0,.int 1188 0,.str "/claim/cut.py" 2486],
fnO (D 221) "law" m14 (.ref 1430)]
noncomputable def ocs (P:Params):List (List Obj):=[oc0 P,oc1 P,oc2 P,oc3 P,oc4 P,oc5 P,oc6 P,oc7 P,oc8 P,oc9 P,oc10 P,oc11 P,oc12 P,oc13 P,oc14 P,oc15 P,oc16 P,oc17 P,oc18 P,oc19 P,oc20 P,oc21 P,oc22 P]
noncomputable def catO:List (List Obj)→List Obj
 | []=>[]
 | l :: r=>l ++ catO r
noncomputable def base (P:Params):List Obj:=catO (ocs P)
noncomputable def nthX {α:Type} (d:α):List α→Nat→α
 | [],_=>d
 | x :: _,0=>x
 | _ :: r,n + 1=>nthX d r n
noncomputable def ob (P:Params) (i:Nat):Obj:=nthX (tp []) (nthX [] (ocs P) (i / 64)) (i % 64)
noncomputable def v12xA:Params→Obj:=fun _=>rc (cT.take 0)
noncomputable def TA (P:Params):BT:=mkT 12 (pat [(2,boot_o_2 P),(3,boot_o_3 P),(12,v12xA P)] 0 ((base P).take 15))
noncomputable def TB (P:Params):BT:=mkT 12 (pat [(2,boot_o_2 P),(3,boot_o_3 P),(12,v12xA P)] 0 ((base P).take 15))
noncomputable def v3x0:Params→Obj:=fun P=>dc (s0 (.str "framerune.faults" 194) ((gE P).take 13)) 13
noncomputable def v12x0:Params→Obj:=fun _=>rc (cT.take 6)
noncomputable def v38x0:Params→Obj:=fun _=>cO [some (.ref 22),none,some (.str "RuneError" 200),some (.str "RuneError" 208),some (.builtin "Exception.__new__"),some (.bool true)] "RuneError" [.type "Exception"] [.ref 38,.type "Exception",.type "BaseException",.type "object"] 37 "RuneError" []
noncomputable def T0 (P:Params):BT:=mkT 12 (pat [(3,v3x0 P),(12,v12x0 P),(38,v38x0 P)] 0 ((base P).take 42))
noncomputable def v3x1:Params→Obj:=fun P=>dc (s0 (.str "framerune.heap" 247) ((gE P).take 22)) 22
noncomputable def v12x1:Params→Obj:=fun _=>rc (cT.take 12)
noncomputable def T1 (P:Params):BT:=mkT 12 (pat [(3,v3x1 P),(12,v12x1 P)] 0 ((base P).take 61))
noncomputable def v3x2:Params→Obj:=fun P=>dc (s0 (.str "framerune.heap" 247) ((gE P).take 23)) 23
noncomputable def v12x2:Params→Obj:=fun _=>rc (cT.take 15)
noncomputable def T2 (P:Params):BT:=mkT 12 (pat [(3,v3x2 P),(12,v12x2 P)] 0 ((base P).take 82))
noncomputable def v3x3:Params→Obj:=fun P=>dc (s0 (.str "framerune.heap" 247) ((gE P).take 29)) 29
noncomputable def v12x3:Params→Obj:=fun _=>rc (cT.take 33)
noncomputable def T3 (P:Params):BT:=mkT 12 (pat [(3,v3x3 P),(12,v12x3 P)] 0 ((base P).take 138))
noncomputable def v3x4:Params→Obj:=fun P=>dc (s0 (.str "framerune.kinds" 408) ((gE P).take 60)) 60
noncomputable def v12x4:Params→Obj:=fun _=>rc (cT.take 39)
noncomputable def T4 (P:Params):BT:=mkT 12 (pat [(3,v3x4 P),(12,v12x4 P)] 0 ((base P).take 152))
noncomputable def v3x5:Params→Obj:=fun P=>dc (s0 (.str "framerune.kinds" 408) ((gE P).take 61)) 61
noncomputable def T5 (P:Params):BT:=mkT 12 (pat [(3,v3x5 P),(12,v12x4 P)] 0 ((base P).take 153))
noncomputable def v3x6:Params→Obj:=fun P=>dc (s0 (.str "framerune.kinds" 408) ((gE P).take 65)) 65
noncomputable def v12x6:Params→Obj:=fun _=>rc (cT.take 51)
noncomputable def T6 (P:Params):BT:=mkT 12 (pat [(3,v3x6 P),(12,v12x6 P)] 0 ((base P).take 209))
noncomputable def v3x7:Params→Obj:=fun P=>dc (s0 (.str "framerune.places" 663) ((gE P).take 75)) 75
noncomputable def v12x7:Params→Obj:=fun _=>rc (cT.take 81)
noncomputable def T7 (P:Params):BT:=mkT 12 (pat [(3,v3x7 P),(12,v12x7 P)] 0 ((base P).take 279))
noncomputable def v3x8:Params→Obj:=fun P=>dc (s0 (.str "framerune.values" 698) ((gE P).take 87)) 87
noncomputable def v12x8:Params→Obj:=fun _=>rc (cT.take 90)
noncomputable def T8 (P:Params):BT:=mkT 12 (pat [(3,v3x8 P),(12,v12x8 P)] 0 ((base P).take 315))
noncomputable def v3x9:Params→Obj:=fun P=>dc (s0 (.str "framerune.mbase" 785) ((gE P).take 100)) 100
noncomputable def v12x9:Params→Obj:=fun _=>rc (cT.take 105)
noncomputable def T9 (P:Params):BT:=mkT 12 (pat [(3,v3x9 P),(12,v12x9 P)] 0 ((base P).take 351))
noncomputable def v3x10:Params→Obj:=fun P=>dc (s0 (.str "framerune.mbase" 785) ((gE P).take 101)) 101
noncomputable def v12x10:Params→Obj:=fun _=>rc (cT.take 108)
noncomputable def T10 (P:Params):BT:=mkT 12 (pat [(3,v3x10 P),(12,v12x10 P)] 0 ((base P).take 372))
noncomputable def v3x11:Params→Obj:=fun P=>dc (s0 (.str "framerune.mbase" 785) ((gE P).take 102)) 102
noncomputable def v12x11:Params→Obj:=fun _=>rc (cT.take 111)
noncomputable def v388x11:Params→Obj:=fun _=>cO [none,none,some (.str "Native" 854),some (.str "Native" 862),some (.builtin "object.__new__"),some (.bool true)] "Native" [.type "object"] [.ref 388,.type "object"] 387 "Native" []
noncomputable def T11 (P:Params):BT:=mkT 12 (pat [(3,v3x11 P),(12,v12x11 P),(388,v388x11 P)] 0 ((base P).take 393))
noncomputable def v3x12:Params→Obj:=fun P=>dc (s0 (.str "framerune.mbase" 785) ((gE P).take 103)) 103
noncomputable def v12x12:Params→Obj:=fun _=>rc (cT.take 114)
noncomputable def T12 (P:Params):BT:=mkT 12 (pat [(3,v3x12 P),(12,v12x12 P),(388,v388x11 P)] 0 ((base P).take 428))
noncomputable def v3x13:Params→Obj:=fun P=>dc (s0 (.str "framerune.mbase" 785) ((gE P).take 104)) 104
noncomputable def v12x13:Params→Obj:=fun _=>rc (cT.take 117)
noncomputable def v444x13:Params→Obj:=fun _=>cO [none,none,some (.str "Sweeper" 933),some (.str "Sweeper" 941),some (.builtin "object.__new__"),some (.bool true)] "Sweeper" [.type "object"] [.ref 444,.type "object"] 443 "Sweeper" []
noncomputable def T13 (P:Params):BT:=mkT 12 (pat [(3,v3x13 P),(12,v12x13 P),(388,v388x11 P),(444,v444x13 P)] 0 ((base P).take 449))
noncomputable def v3x14:Params→Obj:=fun P=>dc (s0 (.str "framerune.mbase" 785) ((gE P).take 105)) 105
noncomputable def v12x14:Params→Obj:=fun _=>rc (cT.take 120)
noncomputable def T14 (P:Params):BT:=mkT 12 (pat [(3,v3x14 P),(12,v12x14 P),(388,v388x11 P),(444,v444x13 P)] 0 ((base P).take 477))
noncomputable def v3x15:Params→Obj:=fun P=>dc (s0 (.str "framerune.mbase" 785) ((gE P).take 106)) 106
noncomputable def v12x15:Params→Obj:=fun _=>rc (cT.take 123)
noncomputable def v598x15:Params→Obj:=fun _=>cO [none,none,some (.str "Tray" 1001),some (.str "Tray" 1009),some (.builtin "object.__new__"),some (.bool true)] "Tray" [.type "object"] [.ref 598,.type "object"] 597 "Tray" []
noncomputable def T15 (P:Params):BT:=mkT 12 (pat [(3,v3x15 P),(12,v12x15 P),(388,v388x11 P),(444,v444x13 P),(598,v598x15 P)] 0 ((base P).take 603))
noncomputable def v3x16:Params→Obj:=fun P=>dc (s0 (.str "framerune.mbase" 785) ((gE P).take 107)) 107
noncomputable def v12x16:Params→Obj:=fun _=>rc (cT.take 126)
noncomputable def T16 (P:Params):BT:=mkT 12 (pat [(3,v3x16 P),(12,v12x16 P),(388,v388x11 P),(444,v444x13 P)] 0 ((base P).take 671))
noncomputable def v3x17:Params→Obj:=fun P=>dc (s0 (.str "framerune.marker" 1391) ((gE P).take 119)) 119
noncomputable def v12x17:Params→Obj:=fun _=>rc (cT.take 162)
noncomputable def T17 (P:Params):BT:=mkT 12 (pat [(3,v3x17 P),(12,v12x17 P),(388,v388x11 P),(444,v444x13 P)] 0 ((base P).take 755))
noncomputable def v3x18:Params→Obj:=fun P=>dc (s0 (.str "framerune.handles" 1515) ((gE P).take 134)) 134
noncomputable def v12x18:Params→Obj:=fun _=>rc (cT.take 189)
noncomputable def T18 (P:Params):BT:=mkT 12 (pat [(3,v3x18 P),(12,v12x18 P),(388,v388x11 P),(444,v444x13 P)] 0 ((base P).take 818))
noncomputable def v3x19:Params→Obj:=fun P=>dc (s0 (.str "framerune.compact" 1611) ((gE P).take 140)) 140
noncomputable def v12x19:Params→Obj:=fun _=>rc (cT.take 207)
noncomputable def T19 (P:Params):BT:=mkT 12 (pat [(3,v3x19 P),(12,v12x19 P),(388,v388x11 P),(444,v444x13 P)] 0 ((base P).take 874))
noncomputable def v3x20:Params→Obj:=fun P=>dc (s0 (.str "framerune.compact" 1611) ((gE P).take 145)) 145
noncomputable def v12x20:Params→Obj:=fun _=>rc (cT.take 222)
noncomputable def T20 (P:Params):BT:=mkT 12 (pat [(3,v3x20 P),(12,v12x20 P),(388,v388x11 P),(444,v444x13 P)] 0 ((base P).take 930))
noncomputable def v3x21:Params→Obj:=fun P=>dc (s0 (.str "framerune.machine" 1810) ((gE P).take 155)) 155
noncomputable def v12x21:Params→Obj:=fun _=>rc (cT.take 252)
noncomputable def T21 (P:Params):BT:=mkT 12 (pat [(3,v3x21 P),(12,v12x21 P),(388,v388x11 P),(444,v444x13 P)] 0 ((base P).take 1000))
noncomputable def v3x22:Params→Obj:=fun P=>dc (s0 (.str "framerune.store" 1864) ((gE P).take 164)) 164
noncomputable def v12x22:Params→Obj:=fun _=>rc (cT.take 264)
noncomputable def T22 (P:Params):BT:=mkT 12 (pat [(3,v3x22 P),(12,v12x22 P),(388,v388x11 P)] 0 ((base P).take 1040))
noncomputable def v3x23:Params→Obj:=fun P=>dc (s0 (.str "framerune.natives" 1912) ((gE P).take 180)) 180
noncomputable def v12x23:Params→Obj:=fun _=>rc (cT.take 270)
noncomputable def T23 (P:Params):BT:=mkT 12 (pat [(3,v3x23 P),(12,v12x23 P),(388,v388x11 P)] 0 ((base P).take 1068))
noncomputable def v3x24:Params→Obj:=fun P=>dc (s0 (.str "framerune.natives" 1912) ((gE P).take 186)) 186
noncomputable def v12x24:Params→Obj:=fun _=>rc (cT.take 288)
noncomputable def v388x24:Params→Obj:=fun _=>cO [none,none,some (.str "Native" 854),some (.str "Native" 862),some (.builtin "object.__new__"),some (.bool true)] "Native" [.type "object"] [.ref 388,.type "object"] 387 "Native" [.ref 1119]
noncomputable def T24 (P:Params):BT:=mkT 12 (pat [(3,v3x24 P),(12,v12x24 P),(388,v388x24 P)] 0 ((base P).take 1122))
noncomputable def v3x25:Params→Obj:=fun P=>dc (s0 (.str "framerune.natives" 1912) ((gE P).take 187)) 187
noncomputable def v12x25:Params→Obj:=fun _=>rc (cT.take 291)
noncomputable def v388x25:Params→Obj:=fun _=>cO [none,none,some (.str "Native" 854),some (.str "Native" 862),some (.builtin "object.__new__"),some (.bool true)] "Native" [.type "object"] [.ref 388,.type "object"] 387 "Native" [.ref 1119,.ref 1138]
noncomputable def T25 (P:Params):BT:=mkT 12 (pat [(3,v3x25 P),(12,v12x25 P),(388,v388x25 P)] 0 ((base P).take 1141))
noncomputable def v3x26:Params→Obj:=fun P=>dc (s0 (.str "framerune.natives" 1912) ((gE P).take 188)) 188
noncomputable def v12x26:Params→Obj:=fun _=>rc (cT.take 294)
noncomputable def v388x26:Params→Obj:=fun _=>cO [none,none,some (.str "Native" 854),some (.str "Native" 862),some (.builtin "object.__new__"),some (.bool true)] "Native" [.type "object"] [.ref 388,.type "object"] 387 "Native" [.ref 1119,.ref 1138,.ref 1157]
noncomputable def T26 (P:Params):BT:=mkT 12 (pat [(3,v3x26 P),(12,v12x26 P),(388,v388x26 P)] 0 ((base P).take 1160))
noncomputable def v3x27:Params→Obj:=fun P=>dc (s0 (.str "framerune.natives" 1912) ((gE P).take 189)) 189
noncomputable def v12x27:Params→Obj:=fun _=>rc (cT.take 297)
noncomputable def v388x27:Params→Obj:=fun _=>cO [none,none,some (.str "Native" 854),some (.str "Native" 862),some (.builtin "object.__new__"),some (.bool true)] "Native" [.type "object"] [.ref 388,.type "object"] 387 "Native" [.ref 1119,.ref 1138,.ref 1157,.ref 1176]
noncomputable def T27 (P:Params):BT:=mkT 12 (pat [(3,v3x27 P),(12,v12x27 P),(388,v388x27 P)] 0 ((base P).take 1179))
noncomputable def v3x28:Params→Obj:=fun P=>dc (s0 (.str "framerune.natives" 1912) ((gE P).take 190)) 190
noncomputable def v12x28:Params→Obj:=fun _=>rc (cT.take 300)
noncomputable def v388x28:Params→Obj:=fun _=>cO [none,none,some (.str "Native" 854),some (.str "Native" 862),some (.builtin "object.__new__"),some (.bool true)] "Native" [.type "object"] [.ref 388,.type "object"] 387 "Native" [.ref 1119,.ref 1138,.ref 1157,.ref 1176,.ref 1195]
noncomputable def T28 (P:Params):BT:=mkT 12 (pat [(3,v3x28 P),(12,v12x28 P),(388,v388x28 P)] 0 ((base P).take 1198))
noncomputable def v3x29:Params→Obj:=fun P=>dc (s0 (.str "framerune.natives" 1912) ((gE P).take 191)) 191
noncomputable def v12x29:Params→Obj:=fun _=>rc (cT.take 303)
noncomputable def v388x29:Params→Obj:=fun _=>cO [none,none,some (.str "Native" 854),some (.str "Native" 862),some (.builtin "object.__new__"),some (.bool true)] "Native" [.type "object"] [.ref 388,.type "object"] 387 "Native" [.ref 1119,.ref 1138,.ref 1157,.ref 1176,.ref 1195,.ref 1214]
noncomputable def T29 (P:Params):BT:=mkT 12 (pat [(3,v3x29 P),(12,v12x29 P),(388,v388x29 P)] 0 ((base P).take 1217))
noncomputable def v3x30:Params→Obj:=fun P=>dc (s0 (.str "framerune.natives" 1912) ((gE P).take 192)) 192
noncomputable def v12x30:Params→Obj:=fun _=>rc (cT.take 306)
noncomputable def v388x30:Params→Obj:=fun _=>cO [none,none,some (.str "Native" 854),some (.str "Native" 862),some (.builtin "object.__new__"),some (.bool true)] "Native" [.type "object"] [.ref 388,.type "object"] 387 "Native" [.ref 1119,.ref 1138,.ref 1157,.ref 1176,.ref 1195,.ref 1214,.ref 1233]
noncomputable def T30 (P:Params):BT:=mkT 12 (pat [(3,v3x30 P),(12,v12x30 P),(388,v388x30 P)] 0 ((base P).take 1236))
noncomputable def v3x31:Params→Obj:=fun P=>dc (s0 (.str "framerune.natives" 1912) ((gE P).take 193)) 193
noncomputable def v12x31:Params→Obj:=fun _=>rc (cT.take 309)
noncomputable def v388x31:Params→Obj:=fun _=>cO [none,none,some (.str "Native" 854),some (.str "Native" 862),some (.builtin "object.__new__"),some (.bool true)] "Native" [.type "object"] [.ref 388,.type "object"] 387 "Native" [.ref 1119,.ref 1138,.ref 1157,.ref 1176,.ref 1195,.ref 1214,.ref 1233,.ref 1252]
noncomputable def T31 (P:Params):BT:=mkT 12 (pat [(3,v3x31 P),(12,v12x31 P),(388,v388x31 P)] 0 ((base P).take 1255))
noncomputable def v3x32:Params→Obj:=fun P=>dc (s0 (.str "framerune.natives" 1912) ((gE P).take 196)) 196
noncomputable def v12x32:Params→Obj:=fun _=>rc (cT.take 318)
noncomputable def v388x32:Params→Obj:=fun _=>cO [none,none,some (.str "Native" 854),some (.str "Native" 862),some (.builtin "object.__new__"),some (.bool true)] "Native" [.type "object"] [.ref 388,.type "object"] 387 "Native" [.ref 1119,.ref 1138,.ref 1157,.ref 1176,.ref 1195,.ref 1214,.ref 1233,.ref 1252,.ref 1271]
noncomputable def T32 (P:Params):BT:=mkT 12 (pat [(3,v3x32 P),(12,v12x32 P),(388,v388x32 P)] 0 ((base P).take 1288))
noncomputable def v3x33:Params→Obj:=fun P=>dc (s0 (.str "law_up0016_01" 2290) ((gE P).take 202)) 202
noncomputable def v12x33:Params→Obj:=fun _=>rc (cT.take 336)
noncomputable def T33 (P:Params):BT:=mkT 12 (pat [(3,v3x33 P),(12,v12x33 P)] 0 ((base P).take 1336))
noncomputable def v3x34:Params→Obj:=fun P=>dc (s0 (.str "law_up0016_01" 2290) ((gE P).take 213)) 213
noncomputable def v12x34:Params→Obj:=fun _=>rc (cT.take 369)
noncomputable def T34 (P:Params):BT:=mkT 12 (pat [(3,v3x34 P),(12,v12x34 P)] 0 ((base P).take 1413))
noncomputable def T35 (P:Params):BT:=mkT 12 (pat [] 0 ((base P).take 1432))
theorem pc0 (p:Program) (b:List Stmt) (w:World) (os:OsState):segRunT treeTable p w 11 (some (.ref 6)) 1 287 (S TB 15 187 w os) (piecesOf (G 0 5) envT (.body b envT) ⟨0,0,0,0⟩ [topFrame ⟨0,0,0,0⟩])=some (.next,S T0 42 231 w os,.body b envT,⟨7,0,11,20⟩):=by
 rw [Fast.te10110043849684766642,Fast.te14364793385576792824]; kernel_rfl
theorem pc1 (p:Program) (b:List Stmt) (w:World) (os:OsState):segRunT treeTable p w 11 (some (.ref 6)) 1 315 (S T0 42 231 w os) (piecesOf (G 5 10) envT (.body b envT) ⟨7,0,11,20⟩ [topFrame ⟨0,0,0,0⟩])=some (.next,S T1 61 270 w os,.body b envT,⟨22,0,25,29⟩):=by
 rw [Fast.te10110043849684766642,Fast.te14364793385576792824]; kernel_rfl
theorem pc2 (p:Program) (b:List Stmt) (w:World) (os:OsState):segRunT treeTable p w 11 (some (.ref 6)) 1 230 (S T1 61 270 w os) (piecesOf (G 15 1) envT (.body b envT) ⟨22,0,25,29⟩ [topFrame ⟨0,0,0,0⟩])=some (.next,S T2 82 306 w os,.body b envT,⟨26,0,34,23⟩):=by
 rw [Fast.te10110043849684766642,Fast.te14364793385576792824]; kernel_rfl
theorem pc3 (p:Program) (b:List Stmt) (w:World) (os:OsState):segRunT treeTable p w 11 (some (.ref 6)) 1 390 (S T2 82 306 w os) (piecesOf (G 16 6) envT (.body b envT) ⟨26,0,34,23⟩ [topFrame ⟨0,0,0,0⟩])=some (.next,S T3 138 392 w os,.body b envT,⟨71,0,88,15⟩):=by
 rw [Fast.te10110043849684766642,Fast.te14364793385576792824]; kernel_rfl
theorem pc4 (p:Program) (b:List Stmt) (w:World) (os:OsState):segRunT treeTable p w 11 (some (.ref 6)) 1 331 (S T3 138 392 w os) (piecesOf (G 22 32) envT (.body b envT) ⟨71,0,88,15⟩ [topFrame ⟨0,0,0,0⟩])=some (.next,S T4 152 468 w os,.body b envT,⟨122,0,122,13⟩):=by
 rw [Fast.te10110043849684766642,Fast.te14364793385576792824]; kernel_rfl
theorem pc5 (p:Program) (b:List Stmt) (w:World) (os:OsState):segRunT treeTable p w 11 (some (.ref 6)) 1 207 (S T4 152 468 w os) (piecesOf (G 54 1) envT (.body b envT) ⟨122,0,122,13⟩ [topFrame ⟨0,0,0,0⟩])=some (.next,S T5 153 497 w os,.body b envT,⟨123,0,123,8⟩):=by
 revert w; refine byRow2 "special-get-raises" ?_ ?_ <;> intro w <;> (rw [Fast.te10110043849684766642,Fast.te14364793385576792824]; kernel_rfl)
theorem pc6 (p:Program) (b:List Stmt) (w:World) (os:OsState):segRunT treeTable p w 11 (some (.ref 6)) 1 387 (S T5 153 497 w os) (piecesOf (G 55 4) envT (.body b envT) ⟨123,0,123,8⟩ [topFrame ⟨0,0,0,0⟩])=some (.next,S T6 209 576 w os,.body b envT,⟨186,0,191,12⟩):=by
 rw [Fast.te10110043849684766642,Fast.te14364793385576792824]; kernel_rfl
theorem pc7 (p:Program) (b:List Stmt) (w:World) (os:OsState):segRunT treeTable p w 11 (some (.ref 6)) 1 317 (S T6 209 576 w os) (piecesOf (G 59 11) envT (.body b envT) ⟨186,0,191,12⟩ [topFrame ⟨0,0,0,0⟩])=some (.next,S T7 279 665 w os,.body b envT,⟨249,0,249,8⟩):=by
 rw [Fast.te10110043849684766642,Fast.te14364793385576792824]; kernel_rfl
theorem pc8 (p:Program) (b:List Stmt) (w:World) (os:OsState):segRunT treeTable p w 11 (some (.ref 6)) 1 379 (S T7 279 665 w os) (piecesOf (G 70 13) envT (.body b envT) ⟨249,0,249,8⟩ [topFrame ⟨0,0,0,0⟩])=some (.next,S T8 315 734 w os,.body b envT,⟨271,0,272,27⟩):=by
 rw [Fast.te10110043849684766642,Fast.te14364793385576792824]; kernel_rfl
theorem pc9 (p:Program) (b:List Stmt) (w:World) (os:OsState):segRunT treeTable p w 11 (some (.ref 6)) 1 261 (S T8 315 734 w os) (piecesOf (G 83 14) envT (.body b envT) ⟨271,0,272,27⟩ [topFrame ⟨0,0,0,0⟩])=some (.next,S T9 351 807 w os,.body b envT,⟨336,0,336,4⟩):=by
 rw [Fast.te10110043849684766642,Fast.te14364793385576792824]; kernel_rfl
theorem pc10 (p:Program) (b:List Stmt) (w:World) (os:OsState):segRunT treeTable p w 11 (some (.ref 6)) 1 241 (S T9 351 807 w os) (piecesOf (G 97 1) envT (.body b envT) ⟨336,0,336,4⟩ [topFrame ⟨0,0,0,0⟩])=some (.next,S T10 372 854 w os,.body b envT,⟨337,0,354,24⟩):=by
 rw [Fast.te10110043849684766642,Fast.te14364793385576792824]; kernel_rfl
theorem pc11 (p:Program) (b:List Stmt) (w:World) (os:OsState):segRunT treeTable p w 11 (some (.ref 6)) 1 224 (S T10 372 854 w os) (piecesOf (G 98 1) envT (.body b envT) ⟨337,0,354,24⟩ [topFrame ⟨0,0,0,0⟩])=some (.next,S T11 393 884 w os,.body b envT,⟨355,0,358,22⟩):=by
 rw [Fast.te10110043849684766642,Fast.te14364793385576792824]; kernel_rfl
theorem pc12 (p:Program) (b:List Stmt) (w:World) (os:OsState):segRunT treeTable p w 11 (some (.ref 6)) 1 291 (S T11 393 884 w os) (piecesOf (G 99 1) envT (.body b envT) ⟨355,0,358,22⟩ [topFrame ⟨0,0,0,0⟩])=some (.next,S T12 428 933 w os,.body b envT,⟨359,0,368,16⟩):=by
 rw [Fast.te10110043849684766642,Fast.te14364793385576792824]; kernel_rfl
theorem pc13 (p:Program) (b:List Stmt) (w:World) (os:OsState):segRunT treeTable p w 11 (some (.ref 6)) 1 222 (S T12 428 933 w os) (piecesOf (G 100 1) envT (.body b envT) ⟨359,0,368,16⟩ [topFrame ⟨0,0,0,0⟩])=some (.next,S T13 449 961 w os,.body b envT,⟨369,0,372,19⟩):=by
 rw [Fast.te10110043849684766642,Fast.te14364793385576792824]; kernel_rfl
theorem pc14 (p:Program) (b:List Stmt) (w:World) (os:OsState):segRunT treeTable p w 11 (some (.ref 6)) 1 258 (S T13 449 961 w os) (piecesOf (G 101 1) envT (.body b envT) ⟨369,0,372,19⟩ [topFrame ⟨0,0,0,0⟩])=some (.next,S T14 477 1001 w os,.body b envT,⟨373,0,379,19⟩):=by
 rw [Fast.te10110043849684766642,Fast.te14364793385576792824]; kernel_rfl
theorem pc15 (p:Program) (b:List Stmt) (w:World) (os:OsState):segRunT treeTable p w 11 (some (.ref 6)) 1 732 (S T14 477 1001 w os) (piecesOf (G 102 1) envT (.body b envT) ⟨373,0,379,19⟩ [topFrame ⟨0,0,0,0⟩])=some (.next,S T15 603 1179 w os,.body b envT,⟨380,0,448,16⟩):=by
 rw [Fast.te10110043849684766642,Fast.te14364793385576792824]; kernel_rfl
theorem pc16 (p:Program) (b:List Stmt) (w:World) (os:OsState):segRunT treeTable p w 11 (some (.ref 6)) 1 507 (S T15 603 1179 w os) (piecesOf (G 103 1) envT (.body b envT) ⟨380,0,448,16⟩ [topFrame ⟨0,0,0,0⟩])=some (.next,S T16 671 1297 w os,.body b envT,⟨449,0,505,36⟩):=by
 rw [Fast.te10110043849684766642,Fast.te14364793385576792824]; kernel_rfl
theorem pc17 (p:Program) (b:List Stmt) (w:World) (os:OsState):segRunT treeTable p w 11 (some (.ref 6)) 1 388 (S T16 671 1297 w os) (piecesOf (G 104 13) envT (.body b envT) ⟨449,0,505,36⟩ [topFrame ⟨0,0,0,0⟩])=some (.next,S T17 755 1413 w os,.body b envT,⟨582,0,589,22⟩):=by
 rw [Fast.te10110043849684766642,Fast.te14364793385576792824]; kernel_rfl
theorem pc18 (p:Program) (b:List Stmt) (w:World) (os:OsState):segRunT treeTable p w 11 (some (.ref 6)) 1 371 (S T17 755 1413 w os) (piecesOf (G 117 17) envT (.body b envT) ⟨582,0,589,22⟩ [topFrame ⟨0,0,0,0⟩])=some (.next,S T18 818 1529 w os,.body b envT,⟨649,0,649,9⟩):=by
 rw [Fast.te10110043849684766642,Fast.te14364793385576792824]; kernel_rfl
theorem pc19 (p:Program) (b:List Stmt) (w:World) (os:OsState):segRunT treeTable p w 11 (some (.ref 6)) 1 395 (S T18 818 1529 w os) (piecesOf (G 134 7) envT (.body b envT) ⟨649,0,649,9⟩ [topFrame ⟨0,0,0,0⟩])=some (.next,S T19 874 1613 w os,.body b envT,⟨685,0,685,8⟩):=by
 rw [Fast.te10110043849684766642,Fast.te14364793385576792824]; kernel_rfl
theorem pc20 (p:Program) (b:List Stmt) (w:World) (os:OsState):segRunT treeTable p w 11 (some (.ref 6)) 1 386 (S T19 874 1613 w os) (piecesOf (G 141 5) envT (.body b envT) ⟨685,0,685,8⟩ [topFrame ⟨0,0,0,0⟩])=some (.next,S T20 930 1693 w os,.body b envT,⟨713,0,714,49⟩):=by
 rw [Fast.te10110043849684766642,Fast.te14364793385576792824]; kernel_rfl
theorem pc21 (p:Program) (b:List Stmt) (w:World) (os:OsState):segRunT treeTable p w 11 (some (.ref 6)) 1 354 (S T20 930 1693 w os) (piecesOf (G 146 12) envT (.body b envT) ⟨713,0,714,49⟩ [topFrame ⟨0,0,0,0⟩])=some (.next,S T21 1000 1812 w os,.body b envT,⟨796,0,796,8⟩):=by
 rw [Fast.te10110043849684766642,Fast.te14364793385576792824]; kernel_rfl
theorem pc22 (p:Program) (b:List Stmt) (w:World) (os:OsState):segRunT treeTable p w 11 (some (.ref 6)) 1 393 (S T21 1000 1812 w os) (piecesOf (G 158 10) envT (.body b envT) ⟨796,0,796,8⟩ [topFrame ⟨0,0,0,0⟩])=some (.next,S T22 1040 1876 w os,.body b envT,⟨836,0,836,10⟩):=by
 rw [Fast.te10110043849684766642,Fast.te14364793385576792824]; kernel_rfl
theorem pc23 (p:Program) (b:List Stmt) (w:World) (os:OsState):segRunT treeTable p w 11 (some (.ref 6)) 1 392 (S T22 1040 1876 w os) (piecesOf (G 168 17) envT (.body b envT) ⟨836,0,836,10⟩ [topFrame ⟨0,0,0,0⟩])=some (.next,S T23 1068 1947 w os,.body b envT,⟨862,0,865,20⟩):=by
 rw [Fast.te10110043849684766642,Fast.te14364793385576792824]; kernel_rfl
theorem pc24 (p:Program) (b:List Stmt) (w:World) (os:OsState):segRunT treeTable p w 11 (some (.ref 6)) 1 400 (S T23 1068 1947 w os) (piecesOf (G 185 6) envT (.body b envT) ⟨862,0,865,20⟩ [topFrame ⟨0,0,0,0⟩])=some (.next,S T24 1122 2016 w os,.body b envT,⟨883,0,896,32⟩):=by
 rw [Fast.te10110043849684766642,Fast.te14364793385576792824]; kernel_rfl
theorem pc25 (p:Program) (b:List Stmt) (w:World) (os:OsState):segRunT treeTable p w 11 (some (.ref 6)) 1 248 (S T24 1122 2016 w os) (piecesOf (G 191 1) envT (.body b envT) ⟨883,0,896,32⟩ [topFrame ⟨0,0,0,0⟩])=some (.next,S T25 1141 2043 w os,.body b envT,⟨897,0,903,32⟩):=by
 rw [Fast.te10110043849684766642,Fast.te14364793385576792824]; kernel_rfl
theorem pc26 (p:Program) (b:List Stmt) (w:World) (os:OsState):segRunT treeTable p w 11 (some (.ref 6)) 1 249 (S T25 1141 2043 w os) (piecesOf (G 192 1) envT (.body b envT) ⟨897,0,903,32⟩ [topFrame ⟨0,0,0,0⟩])=some (.next,S T26 1160 2071 w os,.body b envT,⟨904,0,913,39⟩):=by
 rw [Fast.te10110043849684766642,Fast.te14364793385576792824]; kernel_rfl
theorem pc27 (p:Program) (b:List Stmt) (w:World) (os:OsState):segRunT treeTable p w 11 (some (.ref 6)) 1 249 (S T26 1160 2071 w os) (piecesOf (G 193 1) envT (.body b envT) ⟨904,0,913,39⟩ [topFrame ⟨0,0,0,0⟩])=some (.next,S T27 1179 2099 w os,.body b envT,⟨914,0,921,71⟩):=by
 rw [Fast.te10110043849684766642,Fast.te14364793385576792824]; kernel_rfl
theorem pc28 (p:Program) (b:List Stmt) (w:World) (os:OsState):segRunT treeTable p w 11 (some (.ref 6)) 1 249 (S T27 1179 2099 w os) (piecesOf (G 194 1) envT (.body b envT) ⟨914,0,921,71⟩ [topFrame ⟨0,0,0,0⟩])=some (.next,S T28 1198 2127 w os,.body b envT,⟨922,0,931,56⟩):=by
 rw [Fast.te10110043849684766642,Fast.te14364793385576792824]; kernel_rfl
theorem pc29 (p:Program) (b:List Stmt) (w:World) (os:OsState):segRunT treeTable p w 11 (some (.ref 6)) 1 248 (S T28 1198 2127 w os) (piecesOf (G 195 1) envT (.body b envT) ⟨922,0,931,56⟩ [topFrame ⟨0,0,0,0⟩])=some (.next,S T29 1217 2154 w os,.body b envT,⟨932,0,938,38⟩):=by
 rw [Fast.te10110043849684766642,Fast.te14364793385576792824]; kernel_rfl
theorem pc30 (p:Program) (b:List Stmt) (w:World) (os:OsState):segRunT treeTable p w 11 (some (.ref 6)) 1 250 (S T29 1217 2154 w os) (piecesOf (G 196 1) envT (.body b envT) ⟨932,0,938,38⟩ [topFrame ⟨0,0,0,0⟩])=some (.next,S T30 1236 2183 w os,.body b envT,⟨939,0,953,52⟩):=by
 rw [Fast.te10110043849684766642,Fast.te14364793385576792824]; kernel_rfl
theorem pc31 (p:Program) (b:List Stmt) (w:World) (os:OsState):segRunT treeTable p w 11 (some (.ref 6)) 1 249 (S T30 1236 2183 w os) (piecesOf (G 197 1) envT (.body b envT) ⟨939,0,953,52⟩ [topFrame ⟨0,0,0,0⟩])=some (.next,S T31 1255 2211 w os,.body b envT,⟨954,0,963,39⟩):=by
 rw [Fast.te10110043849684766642,Fast.te14364793385576792824]; kernel_rfl
theorem pc32 (p:Program) (b:List Stmt) (w:World) (os:OsState):segRunT treeTable p w 11 (some (.ref 6)) 1 311 (S T31 1255 2211 w os) (piecesOf (G 198 3) envT (.body b envT) ⟨954,0,963,39⟩ [topFrame ⟨0,0,0,0⟩])=some (.next,S T32 1288 2257 w os,.body b envT,⟨986,0,995,30⟩):=by
 rw [Fast.te10110043849684766642,Fast.te14364793385576792824]; kernel_rfl
theorem pc33 (p:Program) (b:List Stmt) (w:World) (os:OsState):segRunT treeTable p w 11 (some (.ref 6)) 1 394 (S T32 1288 2257 w os) (piecesOf (G 201 7) envT (.body b envT) ⟨986,0,995,30⟩ [topFrame ⟨0,0,0,0⟩])=some (.next,S T33 1336 2319 w os,.body b envT,⟨1026,0,1048,15⟩):=by
 rw [Fast.te10110043849684766642,Fast.te14364793385576792824]; kernel_rfl
theorem pc34 (p:Program) (b:List Stmt) (w:World) (os:OsState):segRunT treeTable p w 11 (some (.ref 6)) 1 376 (S T33 1336 2319 w os) (piecesOf (G 208 11) envT (.body b envT) ⟨1026,0,1048,15⟩ [topFrame ⟨0,0,0,0⟩])=some (.next,S T34 1413 2452 w os,.body b envT,⟨1131,0,1134,62⟩):=by
 rw [Fast.te10110043849684766642,Fast.te14364793385576792824]; kernel_rfl
theorem pc35 (p:Program) (b:List Stmt) (w:World) (os:OsState):segRunT treeTable p w 11 (some (.ref 6)) 1 101 (S T34 1413 2452 w os) (piecesOf (G 219 3) envT (.body b envT) ⟨1131,0,1134,62⟩ [topFrame ⟨0,0,0,0⟩])=some (.next,S T35 1432 2488 w os,.body b envT,⟨1188,0,1205,22⟩):=by
 rw [Fast.te10110043849684766642,Fast.te14364793385576792824]; kernel_rfl
end
noncomputable section
set_option maxHeartbeats 0
open PySem PySem.W PyProof.Rows
abbrev bT:List Stmt:=behindTheImports pw
abbrev tF:Frame:=topFrame ⟨0,0,0,0⟩
theorem t_open:opening pw=plainProg pw.main.scope.names:=by kernel_rfl
theorem t_fence (s:Shared):fenceModules? pw s=some s:=by kernel_rfl
theorem t_boot:∀ w:World,(fencedOpening treeTable pw w 30000).map (fun s=>(s.heap,s.gens,s.drawn,s.toks))=some (boot_heap w.params,Array.mk [],boot_drawn,boot_toks) :=
 boot_open t_open (by decide) t_fence
theorem t_size (w:World):((boot_heap w.params).isNs mainGlobals && (Array.mk []:Array GenState).size == 0,(boot_heap w.params).objs.size,(boot_heap w.params).nsMap mainGlobals "__annotations__")=(true,11,some (.ref 6)):=by kernel_rfl
def LA (P:Params):List Obj:=(pat [(2,boot_o_2 P),(3,boot_o_3 P),(12,v12xA P)] 0 (base P)).take 15
theorem t_absA (P:Params):absHeap (TA P) 15 {}=⟨⟨LA P⟩,{}⟩:=by kernel_rfl
def preX (w:World) (os:OsState):=Fast.tw15667345088766844465 Fast.tw14364793385576792824 pw w 11 (some (.ref 6)) 12 ⟨boot_heap w.params,Array.mk [],boot_drawn,boot_toks,os⟩ (topStub pw)
theorem pre1 (w:World) (os:OsState):(preX w os).map (fun x=>x.1)=some ⟨⟨⟨LA w.params⟩,{}⟩,#[],{},187,os⟩:=by kernel_rfl
theorem pre2 (w:World) (os:OsState):(preX w os).map (fun x=>(x.2.code,x.2.pos))=some (.body bT envT,⟨0,0,0,0⟩):=by kernel_rfl
theorem pre3 (w:World) (os:OsState):(preX w os).map (fun x=>x.2.stack)=some [tF]:=by kernel_rfl
theorem pre4 (w:World) (os:OsState):(preX w os).map (fun x=>x.2.cur)=some (Fast.tw11892475500146522536 Fast.tw14364793385576792824 (.body bT envT)):=by kernel_rfl
theorem pre_join {α:Type} {x:Option (α×Thread)} {a:α} {c:Code} {p:Pos} {st:List Frame} {cu:Sem Fin} (h1:x.map (fun x=>x.1)=some a) (h2:x.map (fun x=>(x.2.code,x.2.pos))=some (c,p))
  (h3:x.map (fun x=>x.2.stack)=some st) (h4:x.map (fun x=>x.2.cur)=some cu):x=some (a,⟨cu,c,p,st⟩):=by
 cases x with
 | none=>cases h1
 | some y =>
  obtain ⟨s,⟨u,d,q,r⟩⟩:=y
  simp only [Option.map_some,Option.some.injEq,Prod.mk.injEq] at h1 h2 h3 h4
  obtain ⟨h2,h2'⟩:=h2
  subst h1 h2 h2' h3 h4
  rfl
theorem t_pre0 (w:World) (os:OsState):topGo treeTable pw w 11 (some (.ref 6)) 12 ⟨boot_heap w.params,Array.mk [],boot_drawn,boot_toks,os⟩ (topStub pw)=some (⟨⟨⟨LA w.params⟩,{}⟩,#[],{},187,os⟩,⟨denote treeTable (.body bT envT),.body bT envT,⟨0,0,0,0⟩,[tF]⟩):=by
 rw [Fast.te15667345088766844465,Fast.te14364793385576792824,Fast.te11892475500146522536]; exact pre_join (pre1 w os) (pre2 w os) (pre3 w os) (pre4 w os)
theorem t_pre (w:World) (os:OsState):topGo treeTable pw w 11 (some (.ref 6)) 12 ⟨boot_heap w.params,Array.mk [],boot_drawn,boot_toks,os⟩ (topStub pw)=some ((S TA 15 187 w os).abs,⟨denote treeTable (.body bT envT),.body bT envT,⟨0,0,0,0⟩,[tF]⟩):=by
 rw [t_pre0,← t_absA]; rfl
theorem t_block (w:World) (os:OsState):segRun treeTable pw w 11 (some (.ref 6)) 1 1 (S TA 15 187 w os).abs (blockOf bT envT (.body bT envT) ⟨0,0,0,0⟩ [tF])=some (.next,(S TB 15 187 w os).abs,.body bT envT,⟨0,0,0,0⟩):=by
 rw [Fast.te14374325043358763698,Fast.te14364793385576792824]; kernel_rfl
theorem t_last (w:World) (os:OsState):topRun treeTable pw w 11 (some (.ref 6)) 2 (S T35 1432 2488 w os).abs (restOf [] envT (.body bT envT) ⟨1188,0,1205,22⟩ [tF])=some (S T35 1432 2488 w os).abs:=by
 kernel_rfl
theorem t_abs (P:Params):absHeap (T35 P) 1432 {}=⟨⟨base P⟩,{}⟩:=by kernel_rfl
theorem t_body:G 0 5 ++ (G 5 10 ++ (G 15 1 ++ (G 16 6 ++ (G 22 32 ++ (G 54 1 ++ (G 55 4 ++ (G 59 11 ++ (G 70 13 ++ (G 83 14 ++ (G 97 1 ++ (G 98 1 ++ (G 99 1 ++ (G 100 1 ++ (G 101 1 ++ (G 102 1 ++ (G 103 1 ++ (G 104 13 ++ (G 117 17 ++ (G 134 7 ++ (G 141 5 ++ (G 146 12 ++ (G 158 10 ++ (G 168 17 ++ (G 185 6 ++ (G 191 1 ++ (G 192 1 ++ (G 193 1 ++ (G 194 1 ++ (G 195 1 ++ (G 196 1 ++ (G 197 1 ++ (G 198 3 ++ (G 201 7 ++ (G 208 11 ++ (G 219 3 ++ [])))))))))))))))))))))))))))))))))))=bT:=by kernel_rfl
def MM:Nat:=12 + (1 + (287 + (315 + (230 + (390 + (331 + (207 + (387 + (317 + (379 + (261 + (241 + (224 + (291 + (222 + (258 + (732 + (507 + (388 + (371 + (395 + (386 + (354 + (393 + (392 + (400 + (248 + (249 + (249 + (249 + (248 + (250 + (249 + (311 + (394 + (376 + (101 + 2)))))))))))))))))))))))))))))))))))))
theorem t_run (w:World) (os:OsState):topRun treeTable pw w 11 (some (.ref 6)) MM ⟨boot_heap w.params,Array.mk [],boot_drawn,boot_toks,os⟩ (topStub pw)=some (S T35 1432 2488 w os).abs:=by
 have k36:=t_last w os
 have k35:=piece_app (segRun_of (pc35 pw bT w os)) k36
 have k34:=piece_app (segRun_of (pc34 pw bT w os)) k35
 have k33:=piece_app (segRun_of (pc33 pw bT w os)) k34
 have k32:=piece_app (segRun_of (pc32 pw bT w os)) k33
 have k31:=piece_app (segRun_of (pc31 pw bT w os)) k32
 have k30:=piece_app (segRun_of (pc30 pw bT w os)) k31
 have k29:=piece_app (segRun_of (pc29 pw bT w os)) k30
 have k28:=piece_app (segRun_of (pc28 pw bT w os)) k29
 have k27:=piece_app (segRun_of (pc27 pw bT w os)) k28
 have k26:=piece_app (segRun_of (pc26 pw bT w os)) k27
 have k25:=piece_app (segRun_of (pc25 pw bT w os)) k26
 have k24:=piece_app (segRun_of (pc24 pw bT w os)) k25
 have k23:=piece_app (segRun_of (pc23 pw bT w os)) k24
 have k22:=piece_app (segRun_of (pc22 pw bT w os)) k23
 have k21:=piece_app (segRun_of (pc21 pw bT w os)) k22
 have k20:=piece_app (segRun_of (pc20 pw bT w os)) k21
 have k19:=piece_app (segRun_of (pc19 pw bT w os)) k20
 have k18:=piece_app (segRun_of (pc18 pw bT w os)) k19
 have k17:=piece_app (segRun_of (pc17 pw bT w os)) k18
 have k16:=piece_app (segRun_of (pc16 pw bT w os)) k17
 have k15:=piece_app (segRun_of (pc15 pw bT w os)) k16
 have k14:=piece_app (segRun_of (pc14 pw bT w os)) k15
 have k13:=piece_app (segRun_of (pc13 pw bT w os)) k14
 have k12:=piece_app (segRun_of (pc12 pw bT w os)) k13
 have k11:=piece_app (segRun_of (pc11 pw bT w os)) k12
 have k10:=piece_app (segRun_of (pc10 pw bT w os)) k11
 have k9:=piece_app (segRun_of (pc9 pw bT w os)) k10
 have k8:=piece_app (segRun_of (pc8 pw bT w os)) k9
 have k7:=piece_app (segRun_of (pc7 pw bT w os)) k8
 have k6:=piece_app (segRun_of (pc6 pw bT w os)) k7
 have k5:=piece_app (segRun_of (pc5 pw bT w os)) k6
 have k4:=piece_app (segRun_of (pc4 pw bT w os)) k5
 have k3:=piece_app (segRun_of (pc3 pw bT w os)) k4
 have k2:=piece_app (segRun_of (pc2 pw bT w os)) k3
 have k1:=piece_app (segRun_of (pc1 pw bT w os)) k2
 have k0:=piece_app (segRun_of (pc0 pw bT w os)) k1
 rw [t_body] at k0
 exact go_top (t_pre w os) (piece_block (t_block w os) k0)
end
noncomputable section
set_option maxHeartbeats 0
open PySem PySem.W PyProof.Rows
def qv:Program:={ pw with main:={ pw.main with body:=G 221 1 } }
def looseL:List Str:=(pw.main.scope.names.map (·.1)).filter fun x=>!(x == ("law" : Str))
def HF (P:Params):Heap:=⟨⟨base P⟩,{}⟩
def obsY (s:Shared):Array Obj:=s.heap.objs
def valY (w:World):Array Obj:=⟨base w.params⟩
def YP (w:World) (h:Heap):Prop:=∀ (a:Addr) (o:Obj),(base w.params)[a]? = some o→o.isFreed=false→h.get? a=some o
theorem l_st (P:Params):staticsOk (importedModules pw.main.body) (boot_heap P) (HF P)=true:=by kernel_rfl
theorem l_nb (P:Params):namesBound pw (HF P)=true:=by kernel_rfl
theorem l_lk (P:Params):laidKept (boot_heap P) (HF P)=true:=by kernel_rfl
theorem l_os (w:World) (os:OsState):openSeen qv looseL (importedModules pw.main.body) (fun _=>true) true ⟨HF w.params,#[],{},2488,os⟩ = openGood qv looseL:=by
 rw [Fast.te4187177175401517315]; kernel_rfl
theorem left:LeftO pw qv looseL (fun _=>true) obsY valY 30000 :=
 LeftO.of_pieces (m₀:=11) (ann:=some (.ref 6)) (H₀:=boot_heap) (H₁:=HF) (gs₁:=#[]) (d₁:={}) (k₁:=2488) (M:=MM) t_boot t_size
  (fun w os=>by rw [t_run w os]; show some ((⟨absHeap (T35 w.params) 1432 {},#[],{},2488,os⟩ : Shared))=_; rw [t_abs]; rfl) (by decide)
  (fun w=>by
   funext os
   refine looks_pair ?_ (looks_pair (l_os w os) rfl)
   rw [l_st,l_nb,l_lk]; rfl)
theorem yp_of (w:World) (s:Shared) (e:obsY s=valY w):YP w s.heap:=by
 have e':s.heap.objs=⟨base w.params⟩:=e
 intro a o h1 hf
 have h2:s.heap.objs[a]? = some o:=by rw [e']; simpa using h1
 unfold Heap.get?
 rw [h2]
 obtain ⟨c,d,dat,sl⟩:=o
 cases dat <;> first | rfl | cases hf
end
noncomputable section
set_option maxHeartbeats 0
open PySem PySem.W PyProof.Rows
abbrev rw1:OpenLaw:=PySem.Challenge.rw_up0016_01
theorem yp_keeps (w:World) (h h':Heap) (y:YP w h) (k:∀ b o,h.get? b=some o→h'.get? b=some o):YP w h':=fun a o e f=>k _ _ (y a o e f)
def dLaw:DefRec:=⟨(D 221).name,(D 221).args,(D 221).body,(D 221).scope,match nthS pw.main.body 221 with | .FunctionDef _ _ _ _ _ _ _ _ _ p=>p | _=>⟨0,0,0,0⟩⟩
theorem h_def:defOf qv ("law" : Str)=some (dLaw,[]):=by kernel_rfl
theorem h_the:pw.theDef ("law" : Str)=some (dLaw.params,dLaw.body,dLaw.scope):=by kernel_rfl
theorem h_kw:kwWritten? dLaw.params.kwonlyargs dLaw.params.kw_defaults=some []:=by kernel_rfl
theorem h_ok:(chainsOk qv && opensWell pw && (frees rw1.row.toRowW && rw1.row.within.isEmpty))=true:=by kernel_rfl
theorem h_whole:pw.tablesWhole=true:=by
 show PySem.TablesWhole.wProgram PySem.TablesWhole.holds pw=true
 unfold PySem.TablesWhole.wProgram
 rw [PySem.W.Fast.te6116379765354995101]
 kernel_rfl
theorem h_bare:pw.bare:=⟨rfl,rfl,rfl,rfl,by kernel_rfl,h_whole⟩
theorem h_wit:rw1.row.toRowW.promised:=⟨[.list []],by kernel_rfl,by kernel_rfl⟩
theorem law_holds (ws:rw1.wellSaid=true) (walk:WalkO qv looseL (fun _ _=>True) YP rw1.row.toRowW dLaw [] (fun f vs=>PySem.call f vs)):rw1.Holds :=
 ⟨ws,holds_open (r:=rw1.row) (XP:=fun _ _=>True) left yp_of yp_keeps (fun _ _=>trivial) (fun _ _ _ _ _=>trivial) h_def h_the h_kw (fun _ _=>recFacts_nil rfl) rfl (row_said ws) h_ok h_bare h_wit walk⟩
end
noncomputable section
set_option maxHeartbeats 0
open PySem PySem.W PyProof.Rows
abbrev pwS:Program:=PySem.Challenge.pw_up0016_01
abbrev rwS:OpenLaw:=PySem.Challenge.rw_up0016_01
theorem ws2:namesResolve pwS=true:=by rw [Fast.te8377067652309620493]; kernel_rfl
theorem ws4:noRoadLSs { strict:=!(importedModules pwS.main.body).all cThrough.contains,foot:=none,bare:=(["vars","dir","locals"]:List Str).filter (readsOut pwS pwS.main.body) } pwS.main.body=true:=by rw [Fast.te8326940854005059898]; kernel_rfl
theorem ws5:namesMeet pwS pwS.main.body (fun _ n=>attrL n)=true:=by rw [Fast.te17119622794617984870]; kernel_rfl
theorem ws23:noClassBlock pwS rwS.footing=true:=by kernel_rfl
theorem ws26:noRoadLSs { strict:=true,foot:=some rwS.bound',writes:=rwS.writes,may:=rwS.may } rwS.footing=true:=by rw [Fast.te8326940854005059898]; kernel_rfl
theorem ws30:(rwS.bound'.all (fun n=>!builtinNamed n || rwS.about == [n] || !rwS.reads n))=true:=by rw [Fast.te797321630700447069]; kernel_rfl
theorem ws33:namesMeet rwS.prog rwS.footing (fun sc n=>(!(["type","isinstance","issubclass","getattr","hasattr"]:List Str).contains n || sc.names.lookup n == some .globalImplicit) &&
  (rwS.may != some n || sc.kind == .module || sc.names.lookup n == some .globalImplicit))=true:=by rw [Fast.te17119622794617984870]; kernel_rfl
theorem ws37:namesMeet rwS.prog rwS.above (fun _ n=>!rwS.own.contains n)=true:=by rw [Fast.te17119622794617984870]; kernel_rfl
theorem ws38:namesMeet rwS.prog rwS.footing (fun sc n=>sc.kind == .module || sc.names.lookup n != some .globalExplicit)=true:=by rw [Fast.te17119622794617984870]; kernel_rfl
theorem wellS:rwS.wellSaid=true:=by
 unfold OpenLaw.wellSaid OpenRow.wellSaid OpenRow.partSaid looksOpen
 repeat' (with_reducible refine look_both ?_ ?_)
 ·kernel_rfl
 ·kernel_rfl
 ·exact ws2
 ·kernel_rfl
 ·exact ws4
 ·exact ws5
 ·kernel_rfl
 ·kernel_rfl
 ·kernel_rfl
 ·kernel_rfl
 ·kernel_rfl
 ·kernel_rfl
 ·kernel_rfl
 ·kernel_rfl
 ·kernel_rfl
 ·kernel_rfl
 ·kernel_rfl
 ·kernel_rfl
 ·kernel_rfl
 ·kernel_rfl
 ·kernel_rfl
 ·kernel_rfl
 ·kernel_rfl
 ·exact ws23
 ·kernel_rfl
 ·kernel_rfl
 ·exact ws26
 ·kernel_rfl
 ·kernel_rfl
 ·kernel_rfl
 ·exact ws30
 ·kernel_rfl
 ·kernel_rfl
 ·exact ws33
 ·kernel_rfl
 ·kernel_rfl
 ·kernel_rfl
 ·exact ws37
 ·exact ws38
end
noncomputable section
open PySem PySem.W PyProof.Rows PySem.Calls PySem.Spec PySem.SeqAt
section
theorem nos {α:Type} {x:α} {p:Prop} (e:none=some x):p:=by cases e
theorem son {α:Type} {x:α} {p:Prop} (e:some x=none):p:=by cases e
theorem ft {p:Prop} (e:false=true):p:=by cases e
set_option genSizeOf false in
inductive Nm where
 | s (k:Nat) | th (k:Nat) | sl (k:Nat) | t (k:Nat) | g (k e:Nat)
noncomputable def Nm.tag:Nm→Nat
 | .s _=>0
 | .th _=>1
 | .sl _=>2
 | .t _=>3
 | .g _ _=>4
noncomputable def Nm.fst:Nm→Nat
 | .s k=>k
 | .th k=>k
 | .sl k=>k
 | .t k=>k
 | .g k _=>k
noncomputable def Nm.snd:Nm→Nat
 | .g _ e=>e
 | _=>0
noncomputable def Nm.of (a b:Nat):Nat→Nm
 | 0=>.s a
 | 1=>.th a
 | 2=>.sl a
 | 3=>.t a
 | _=>.g a b
noncomputable def Nm.eqb (a b:Nm):Bool:=Nat.beq a.tag b.tag && (Nat.beq a.fst b.fst && Nat.beq a.snd b.snd)
theorem Nm.of_eq (a:Nm):Nm.of a.fst a.snd a.tag=a:=by cases a <;> rfl
theorem Nm.eqb_iff {a b:Nm}:a.eqb b=true↔a=b:=by
 constructor
 ·intro e
  have x:=Bool.and_eq_true_iff.mp e
  have y:=Bool.and_eq_true_iff.mp x.2
  rw [← Nm.of_eq a,← Nm.of_eq b,Nat.eq_of_beq_eq_true x.1,Nat.eq_of_beq_eq_true y.1,Nat.eq_of_beq_eq_true y.2]
 ·rintro rfl
  show (Nat.beq _ _ && (Nat.beq _ _ && Nat.beq _ _))=true
  rw [Nat.beq_refl,Nat.beq_refl,Nat.beq_refl]; rfl
theorem Nm.eqb_self (a:Nm):a.eqb a=true:=Nm.eqb_iff.mpr rfl
theorem Nm.eqb_ne {a b:Nm} (h:a≠b):a.eqb b=false:=by
 rw [Bool.eq_false_iff]; exact fun e=>h (Nm.eqb_iff.mp e)
set_option genSizeOf false in
inductive AVal where
 | none
 | bool (b:Bool)
 | int (i:Int)
 | str (s:Str)
 | tup (l:List AVal)
 | ref (n:Nm)
 | fn (a:Nat)
 | cls (a:Nat)
 | kd
 | sl (l:List Int)
set_option genSizeOf false in
inductive AObj where
 | inst (c:Nat) (fs:List (Str×AVal))
 | list (l:List AVal)
 | dict (l:List (AVal×AVal))
abbrev AH:=Nm→Option AObj
noncomputable def hset (h:AH) (a:Nm) (o:AObj):AH:=fun b=>bif Nm.eqb b a then some o else h b
set_option genSizeOf false in
set_option genInjectivity false in
structure FI where
 d:DP
 q:Str
 pm:Value
 c:Nat
abbrev sO (s:String):Str:=Str.ofString s
noncomputable def globL0:List (Nat×Str×AVal):=[(2427853368,sO "_wall",.fn 21),
 (2467786329,sO "W_EMPTY",.int 2),
 (1858706094,sO "W_KIND",.int 5),
 (4285017717,sO "RuneError",.cls 38),
 (38932257,sO "BadKind",.cls 51),
 (430576299,sO "FIRST_ADDRESS",.int 16),
 (2019659652,sO "HEAD_WORDS",.int 2),
 (1566193573,sO "LEAST_SIZE",.int 3),
 (423687324,sO "TOP_GEN",.int 2),
 (2258028051,sO "WANT_NONE",.int 0),
 (1879395589,sO "WANT_YOUNG",.int 1),
 (2617753207,sO "WANT_FULL",.int 3),
 (845805481,sO "words_for",.fn 60),
 (1325529501,sO "Thing",.cls 77),
 (31925407,sO "Heap",.cls 98),
 (1220803424,sO "heap_alloc",.fn 109),
 (2275886655,sO "used_words",.fn 116),
 (2412210735,sO "wants",.fn 123),
 (2774592346,sO "note_collected",.fn 130),
 (2252331961,sO "find_thing",.fn 137),
 (3953479505,sO "slot_word",.fn 144),
 (298998414,sO "card_number",.fn 151),
 (2186583264,sO "VOID",.int 0),
 (2180824761,sO "BOOL",.int 1),
 (3242422206,sO "CHAR",.int 2),
 (54591561,sO "I1",.int 3),
 (54591573,sO "U1",.int 4),
 (55705673,sO "I2",.int 5),
 (55705685,sO "U2",.int 6),
 (57933897,sO "I4",.int 7),
 (57933909,sO "U4",.int 8),
 (62390345,sO "I8",.int 9),
 (62390357,sO "U8",.int 10),
 (2168371503,sO "NINT",.int 11),
 (171624043,sO "OBJECT",.int 12),
 (1405739498,sO "STRING",.int 13),
 (2344106985,sO "NULLK",.int 14),
 (419881512,sO "PRIM_END",.int 16),
 (2130233451,sO "R_PRIM",.int 1),
 (1481826555,sO "R_CLASS",.int 2)]
noncomputable def globL1:List (Nat×Str×AVal):=[(2822649816,sO "R_VALUE",.int 3),
 (1859405693,sO "R_ARRAY",.int 4),
 (1027279447,sO "R_BYREF",.int 5),
 (1840937658,sO "R_VAR",.int 6),
 (660277666,sO "R_MVAR",.int 7),
 (381333402,sO "R_BOXED",.int 8),
 (2108253331,sO "R_ROREF",.int 9),
 (2355736361,sO "R_FTN",.int 10),
 (1851372003,sO "R_RAW",.int 11),
 (4023625069,sO "DEEPEST_KIND",.int 24),
 (1526957225,sO "HEAVIEST_KIND",.int 4096),
 (3072066369,sO "TID_PRIM",.kd),
 (2274881248,sO "KindTable",.cls 183),
 (1581313575,sO "inner_kinds",.fn 194),
 (2739032887,sO "row_level",.fn 201),
 (207801332,sO "row_length",.fn 208),
 (1363856949,sO "check_kind_row",.fn 215),
 (3913554475,sO "check_named",.fn 222),
 (1988328314,sO "check_args",.fn 229),
 (2972853325,sO "may_stand",.fn 236),
 (1988761196,sO "class_kind",.fn 243),
 (3703588596,sO "prim_kind",.fn 250),
 (401656706,sO "kind_sort",.fn 257),
 (3387885824,sO "elem_of",.fn 264),
 (2137837778,sO "is_value",.fn 271),
 (1751928115,sO "is_var",.fn 278),
 (1865522052,sO "PlaceHost",.cls 295),
 (2215943362,sO "V_I4",.int 1),
 (65576140,sO "V_I8",.int 2),
 (2371507422,sO "V_NINT",.int 3),
 (3960475651,sO "V_REF",.int 4),
 (2732236331,sO "V_STRUCT",.int 5),
 (1677975510,sO "V_PLACE",.int 6),
 (247796273,sO "V_TEXT",.int 8),
 (2367075260,sO "NULLV",.tup [AVal.int 4,AVal.int 0]),
 (1507125973,sO "PL_HEAP",.int 3),
 (1444774401,sO "wrap_bits",.fn 307),
 (2829130614,sO "wrap32",.fn 314),
 (47001639,sO "plain_default",.fn 321),
 (3698713160,sO "refs_in",.fn 328)]
noncomputable def globL2:List (Nat×Str×AVal):=[(154143002,sO "move_value",.fn 335),
 (1146331402,sO "move_plain",.fn 342),
 (104750039,sO "move_struct",.fn 349),
 (3456805245,sO "JP_STAY",.int (-2)),
 (564493273,sO "ST_RUN",.int 0),
 (3815881368,sO "ST_WRONG",.int 3),
 (2677728312,sO "FR_CALL",.int 0),
 (1010351747,sO "NT_VOID",.int (-1)),
 (3461261697,sO "NT_STAY",.int (-2)),
 (2878622599,sO "TEXT_NULL",.str "Object reference not set to an instance of an object."),
 (2175063398,sO "LOST",.tup [AVal.int 0,AVal.int 0]),
 (4017558448,sO "Frame",.cls 367),
 (1368477008,sO "Native",.cls 388),
 (3352541293,sO "Starter",.cls 423),
 (3893779844,sO "Sweeper",.cls 444),
 (3138437769,sO "KindCloser",.cls 472),
 (1650533562,sO "Tray",.cls 598),
 (2398619306,sO "Shelf",.cls 668),
 (2910162013,sO "note_thrown",.fn 677),
 (2876892197,sO "told_row",.fn 684),
 (3127131704,sO "told_default",.fn 691),
 (3828796899,sO "tell_wrong",.fn 698),
 (3733077662,sO "pop_value",.fn 705),
 (2173285195,sO "first_slots",.fn 712),
 (4155557928,sO "alloc_thing",.fn 719),
 (4121888212,sO "text_held",.fn 726),
 (2237090744,sO "made_text",.fn 733),
 (1944248299,sO "interned_text",.fn 740),
 (985094342,sO "words_of",.fn 747),
 (1824679374,sO "push_word",.fn 754),
 (695531571,sO "push_value",.fn 761),
 (1891750634,sO "drain",.fn 768),
 (2199044552,sO "old_slots",.fn 775),
 (567968943,sO "mark",.fn 782),
 (2473598341,sO "reach_more",.fn 789),
 (257551187,sO "mark_card",.fn 796),
 (132956458,sO "refers_younger",.fn 803),
 (3516848410,sO "younger_slots",.fn 810),
 (3911721348,sO "renew_cards",.fn 817),
 (3962240993,sO "H_SHORT",.int 1)]
noncomputable def globL3:List (Nat×Str×AVal):=[(2487402507,sO "H_LONG",.int 2),
 (3293411020,sO "H_STRONG",.int 3),
 (2140190040,sO "ROW_SORT",.int 0),
 (3787437266,sO "ROW_ADDR",.int 1),
 (1807431051,sO "ROW_ALIVE",.int 2),
 (973267268,sO "Handles",.cls 834),
 (3737609147,sO "strong_values",.fn 845),
 (2798078009,sO "found_dead",.fn 852),
 (3923990370,sO "clear_handles",.fn 859),
 (2797865912,sO "move_handles",.fn 866),
 (2175060202,sO "pick_finals",.fn 873),
 (3935763523,sO "end_of_older",.fn 880),
 (2961295853,sO "plan_moves",.fn 887),
 (2439348357,sO "Words",.cls 911),
 (2195435805,sO "moved_word",.fn 922),
 (1892884692,sO "stays",.fn 929),
 (1387090990,sO "moved_values",.fn 936),
 (1801261149,sO "new_lists",.fn 943),
 (1819082608,sO "put_lists",.fn 950),
 (2125708778,sO "moved_addrs",.fn 957),
 (2388192119,sO "settle_thing",.fn 964),
 (1182113638,sO "settle_things",.fn 971),
 (854674492,sO "move_all",.fn 978),
 (4135771840,sO "root_lists",.fn 985),
 (197953967,sO "find_living",.fn 992),
 (2847833323,sO "collect",.fn 999),
 (883188514,sO "Collecting",.cls 1016),
 (4051870261,sO "sweep",.fn 1025),
 (2427809743,sO "roots",.fn 1032),
 (2280799239,sO "collect_for",.fn 1039),
 (2909233009,sO "T_NULLREF",.int 21),
 (3239038896,sO "T_INDEX",.int 22),
 (2894136725,sO "T_OOM",.int 30),
 (3416296574,sO "T_ARG",.int 31),
 (2760193480,sO "T_ARGRANGE",.int 32),
 (272797918,sO "T_TYPE",.int 51),
 (3479331533,sO "Store",.cls 1056),
 (4169240376,sO "N_CONCAT",.int 1),
 (2630894588,sO "N_STR_LENGTH",.int 2),
 (919131245,sO "N_STR_CHARS",.int 3)]
noncomputable def globL4:List (Nat×Str×AVal):=[(2758306242,sO "N_STR_EQ",.int 4),
 (3528964243,sO "N_STR_EQUALS",.int 5),
 (2280573066,sO "N_STR_HASH",.int 6),
 (335409238,sO "N_SUBSTRING",.int 7),
 (3933586339,sO "N_INDEXOF",.int 8),
 (494179339,sO "N_STR_COMPARE",.int 9),
 (310063984,sO "N_TYPE_FROM",.int 40),
 (142041408,sO "MOST_UNITS",.int 1048576),
 (427363899,sO "LONG_TEXT",.str "Insufficient memory to continue the execution of the program."),
 (3756937287,sO "EMPTY_RANGE",.str "Index and length must refer to a location within the string."),
 (2833441174,sO "bool_value",.fn 1067),
 (139181957,sO "thing_named",.fn 1074),
 (1680572810,sO "text_at",.fn 1081),
 (3800393313,sO "no_object",.fn 1088),
 (3439971303,sO "bad_argument",.fn 1095),
 (3993871242,sO "text_hash",.fn 1102),
 (2796772134,sO "TextConcat",.cls 1119),
 (3872802430,sO "TextLength",.cls 1138),
 (763865557,sO "TextChars",.cls 1157),
 (689818008,sO "TextSame",.cls 1176),
 (1495587369,sO "TextEquals",.cls 1195),
 (402785012,sO "TextHash",.cls 1214),
 (1242738441,sO "TextPart",.cls 1233),
 (3489918556,sO "TextIndex",.cls 1252),
 (2410712142,sO "TextCompare",.cls 1271),
 (1457442611,sO "install_native_text",.fn 1280),
 (2541580386,sO "new_type",.fn 1287),
 (4108670679,sO "TypeFrom",.cls 1304),
 (1900893573,sO "install_native_type",.fn 1313),
 (2826727782,sO "_law_where",.fn 1320),
 (369394678,sO "_law_held",.fn 1325),
 (1061998564,sO "_law_same",.fn 1330),
 (4100878360,sO "_law_ask",.fn 1335),
 (74579023,sO "_law_put",.fn 1342),
 (1013834761,sO "_law_new",.fn 1349),
 (1356146996,sO "_law_kept",.fn 1356),
 (193200193,sO "_law_word",.fn 1363),
 (1989293679,sO "_law_type",.fn 1370),
 (56240790,sO "_law_plain",.fn 1377),
 (208582981,sO "_law_letters",.fn 1384)]
noncomputable def globL5:List (Nat×Str×AVal):=[(3072833954,sO "_law_join",.fn 1391),
 (2077802803,sO "_law_part",.fn 1398),
 (1894858760,sO "_law_alike",.fn 1405),
 (1720166535,sO "_law_gone",.fn 1412),
 (864247167,sO "_law_deed",.fn 1419),
 (2651050594,sO "_law_end",.fn 1426),
 (108240927,sO "law",.fn 1431)]
noncomputable def globL:List (Nat×Str×AVal):=globL0 ++ (globL1 ++ (globL2 ++ (globL3 ++ (globL4 ++ (globL5)))))
noncomputable def fTab0:List (Nat×FI):=[(21,⟨D 0,"_wall",(.str "__main__" 164),20⟩),
 (35,⟨M 4 0,"RuneError.__init__",m0,34⟩),
 (60,⟨D 14,"words_for",m1,59⟩),
 (74,⟨M 15 0,"Thing.__init__",m1,73⟩),
 (95,⟨M 16 0,"Heap.__init__",m1,94⟩),
 (109,⟨D 17,"heap_alloc",m1,108⟩),
 (116,⟨D 18,"used_words",m1,115⟩),
 (123,⟨D 19,"wants",m1,122⟩),
 (130,⟨D 20,"note_collected",m1,129⟩),
 (137,⟨D 21,"find_thing",m1,136⟩),
 (144,⟨D 22,"slot_word",m1,143⟩),
 (151,⟨D 23,"card_number",m1,150⟩),
 (166,⟨M 55 0,"KindTable.__init__",m2,165⟩),
 (173,⟨M 55 1,"KindTable.row",m2,172⟩),
 (180,⟨M 55 2,"KindTable.put",m2,179⟩),
 (194,⟨D 56,"inner_kinds",m2,193⟩),
 (201,⟨D 57,"row_level",m2,200⟩),
 (208,⟨D 58,"row_length",m2,207⟩),
 (215,⟨D 59,"check_kind_row",m2,214⟩),
 (222,⟨D 60,"check_named",m2,221⟩),
 (229,⟨D 61,"check_args",m2,228⟩),
 (236,⟨D 62,"may_stand",m2,235⟩),
 (243,⟨D 63,"class_kind",m2,242⟩),
 (250,⟨D 64,"prim_kind",m2,249⟩),
 (257,⟨D 65,"kind_sort",m2,256⟩),
 (264,⟨D 66,"elem_of",m2,263⟩),
 (271,⟨D 67,"is_value",m2,270⟩),
 (278,⟨D 68,"is_var",m2,277⟩),
 (292,⟨M 70 0,"PlaceHost.__init__",m3,291⟩),
 (307,⟨D 81,"wrap_bits",m4,306⟩),
 (314,⟨D 82,"wrap32",m4,313⟩),
 (321,⟨D 83,"plain_default",m4,320⟩),
 (328,⟨D 84,"refs_in",m4,327⟩),
 (335,⟨D 85,"move_value",m4,334⟩),
 (342,⟨D 86,"move_plain",m4,341⟩),
 (349,⟨D 87,"move_struct",m4,348⟩),
 (364,⟨M 97 0,"Frame.__init__",m5,363⟩),
 (385,⟨M 98 0,"Native.call",m5,384⟩),
 (406,⟨M 99 0,"Starter.need",m5,405⟩),
 (413,⟨M 99 1,"Starter.done",m5,412⟩)]
noncomputable def fTab1:List (Nat×FI):=[(420,⟨M 99 2,"Starter.failed",m5,419⟩),
 (441,⟨M 100 0,"Sweeper.before",m5,440⟩),
 (462,⟨M 101 0,"KindCloser.kind",m5,461⟩),
 (469,⟨M 101 1,"KindCloser.ref",m5,468⟩),
 (490,⟨M 102 0,"Tray.__init__",m5,489⟩),
 (497,⟨M 102 1,"Tray.is_a",m5,496⟩),
 (504,⟨M 102 2,"Tray.slots_of",m5,503⟩),
 (511,⟨M 102 3,"Tray.kinds_of",m5,510⟩),
 (518,⟨M 102 4,"Tray.skinds_of",m5,517⟩),
 (525,⟨M 102 5,"Tray.slot_place",m5,524⟩),
 (532,⟨M 102 6,"Tray.target",m5,531⟩),
 (539,⟨M 102 7,"Tray.default",m5,538⟩),
 (546,⟨M 102 8,"Tray.plain",m5,545⟩),
 (553,⟨M 102 9,"Tray.closed",m5,552⟩),
 (560,⟨M 102 10,"Tray.closed_ref",m5,559⟩),
 (567,⟨M 102 11,"Tray.alloc",m5,566⟩),
 (574,⟨M 102 12,"Tray.wrong",m5,573⟩),
 (581,⟨M 102 13,"Tray.pop",m5,580⟩),
 (588,⟨M 102 14,"Tray.throw_new",m5,587⟩),
 (595,⟨M 102 15,"Tray.push_call",m5,594⟩),
 (616,⟨M 103 0,"Shelf.__init__",m5,615⟩),
 (623,⟨M 103 1,"Shelf.goes",m5,622⟩),
 (630,⟨M 103 2,"Shelf.finalised",m5,629⟩),
 (637,⟨M 103 3,"Shelf.alloc",m5,636⟩),
 (644,⟨M 103 4,"Shelf.push_call",m5,643⟩),
 (651,⟨M 103 5,"Shelf.text_of",m5,650⟩),
 (658,⟨M 103 6,"Shelf.text_ref",m5,657⟩),
 (665,⟨M 103 7,"Shelf.new_text",m5,664⟩),
 (677,⟨D 104,"note_thrown",m5,676⟩),
 (684,⟨D 105,"told_row",m5,683⟩),
 (691,⟨D 106,"told_default",m5,690⟩),
 (698,⟨D 107,"tell_wrong",m5,697⟩),
 (705,⟨D 108,"pop_value",m5,704⟩),
 (712,⟨D 109,"first_slots",m5,711⟩),
 (719,⟨D 110,"alloc_thing",m5,718⟩),
 (726,⟨D 111,"text_held",m5,725⟩),
 (733,⟨D 112,"made_text",m5,732⟩),
 (740,⟨D 113,"interned_text",m5,739⟩),
 (747,⟨D 115,"words_of",m6,746⟩),
 (754,⟨D 116,"push_word",m6,753⟩)]
noncomputable def fTab2:List (Nat×FI):=[(761,⟨D 117,"push_value",m6,760⟩),
 (768,⟨D 118,"drain",m6,767⟩),
 (775,⟨D 119,"old_slots",m6,774⟩),
 (782,⟨D 120,"mark",m6,781⟩),
 (789,⟨D 121,"reach_more",m6,788⟩),
 (796,⟨D 123,"mark_card",m7,795⟩),
 (803,⟨D 124,"refers_younger",m7,802⟩),
 (810,⟨D 125,"younger_slots",m7,809⟩),
 (817,⟨D 126,"renew_cards",m7,816⟩),
 (831,⟨M 134 0,"Handles.__init__",m8,830⟩),
 (845,⟨D 135,"strong_values",m8,844⟩),
 (852,⟨D 136,"found_dead",m8,851⟩),
 (859,⟨D 137,"clear_handles",m8,858⟩),
 (866,⟨D 138,"move_handles",m8,865⟩),
 (873,⟨D 139,"pick_finals",m8,872⟩),
 (880,⟨D 141,"end_of_older",m9,879⟩),
 (887,⟨D 142,"plan_moves",m9,886⟩),
 (901,⟨M 143 0,"Words.__init__",m9,900⟩),
 (908,⟨M 143 1,"Words.new_word",m9,907⟩),
 (922,⟨D 144,"moved_word",m9,921⟩),
 (929,⟨D 145,"stays",m9,928⟩),
 (936,⟨D 146,"moved_values",m9,935⟩),
 (943,⟨D 147,"new_lists",m9,942⟩),
 (950,⟨D 148,"put_lists",m9,949⟩),
 (957,⟨D 149,"moved_addrs",m9,956⟩),
 (964,⟨D 150,"settle_thing",m9,963⟩),
 (971,⟨D 151,"settle_things",m9,970⟩),
 (978,⟨D 152,"move_all",m9,977⟩),
 (985,⟨D 154,"root_lists",m10,984⟩),
 (992,⟨D 155,"find_living",m10,991⟩),
 (999,⟨D 156,"collect",m10,998⟩),
 (1013,⟨M 158 0,"Collecting.before",m11,1012⟩),
 (1025,⟨D 159,"sweep",m11,1024⟩),
 (1032,⟨D 160,"roots",m11,1031⟩),
 (1039,⟨D 161,"collect_for",m11,1038⟩),
 (1053,⟨M 169 0,"Store.__init__",m12,1052⟩),
 (1067,⟨D 184,"bool_value",m13,1066⟩),
 (1074,⟨D 185,"thing_named",m13,1073⟩),
 (1081,⟨D 186,"text_at",m13,1080⟩),
 (1088,⟨D 187,"no_object",m13,1087⟩)]
noncomputable def fTab3:List (Nat×FI):=[(1095,⟨D 188,"bad_argument",m13,1094⟩),
 (1102,⟨D 189,"text_hash",m13,1101⟩),
 (1116,⟨M 190 0,"TextConcat.call",m13,1115⟩),
 (1135,⟨M 191 0,"TextLength.call",m13,1134⟩),
 (1154,⟨M 192 0,"TextChars.call",m13,1153⟩),
 (1173,⟨M 193 0,"TextSame.call",m13,1172⟩),
 (1192,⟨M 194 0,"TextEquals.call",m13,1191⟩),
 (1211,⟨M 195 0,"TextHash.call",m13,1210⟩),
 (1230,⟨M 196 0,"TextPart.call",m13,1229⟩),
 (1249,⟨M 197 0,"TextIndex.call",m13,1248⟩),
 (1268,⟨M 198 0,"TextCompare.call",m13,1267⟩),
 (1280,⟨D 199,"install_native_text",m13,1279⟩),
 (1287,⟨D 200,"new_type",m13,1286⟩),
 (1301,⟨M 201 0,"TypeFrom.call",m13,1300⟩),
 (1313,⟨D 202,"install_native_type",m13,1312⟩),
 (1320,⟨D 204,"_law_where",m14,1319⟩),
 (1325,⟨D 205,"_law_held",m14,1324⟩),
 (1330,⟨D 206,"_law_same",m14,1329⟩),
 (1335,⟨D 207,"_law_ask",m14,1334⟩),
 (1342,⟨D 208,"_law_put",m14,1341⟩),
 (1349,⟨D 209,"_law_new",m14,1348⟩),
 (1356,⟨D 210,"_law_kept",m14,1355⟩),
 (1363,⟨D 211,"_law_word",m14,1362⟩),
 (1370,⟨D 212,"_law_type",m14,1369⟩),
 (1377,⟨D 213,"_law_plain",m14,1376⟩),
 (1384,⟨D 214,"_law_letters",m14,1383⟩),
 (1391,⟨D 215,"_law_join",m14,1390⟩),
 (1398,⟨D 216,"_law_part",m14,1397⟩),
 (1405,⟨D 217,"_law_alike",m14,1404⟩),
 (1412,⟨D 218,"_law_gone",m14,1411⟩),
 (1419,⟨D 219,"_law_deed",m14,1418⟩),
 (1426,⟨D 220,"_law_end",m14,1425⟩),
 (1431,⟨D 221,"law",m14,1430⟩)]
noncomputable def fTab:List (Nat×FI):=fTab0 ++ (fTab1 ++ (fTab2 ++ (fTab3)))
noncomputable def cTab:List (Nat×List (Str×Nat)):=[(38,[("__init__",35)]),
 (51,[("__init__",35)]),
 (77,[("__init__",74)]),
 (98,[("__init__",95)]),
 (183,[("__init__",166),("row",173),("put",180)]),
 (295,[("__init__",292)]),
 (367,[("__init__",364)]),
 (388,[("call",385)]),
 (423,[("need",406),("done",413),("failed",420)]),
 (444,[("before",441)]),
 (472,[("kind",462),("ref",469)]),
 (598,[("__init__",490),("is_a",497),("slots_of",504),("kinds_of",511),("skinds_of",518),("slot_place",525),("target",532),("default",539),("plain",546),("closed",553),("closed_ref",560),("alloc",567),("wrong",574),("pop",581),("throw_new",588),("push_call",595)]),
 (668,[("__init__",616),("goes",623),("finalised",630),("alloc",637),("push_call",644),("text_of",651),("text_ref",658),("new_text",665),("is_a",497),("slots_of",504),("kinds_of",511),("skinds_of",518),("slot_place",525),("target",532),("default",539),("plain",546),("closed",553),("closed_ref",560),("wrong",574),("pop",581),("throw_new",588)]),
 (834,[("__init__",831)]),
 (911,[("__init__",901),("new_word",908)]),
 (1016,[("before",1013)]),
 (1056,[("__init__",1053)]),
 (1119,[("call",1116)]),
 (1138,[("call",1135)]),
 (1157,[("call",1154)]),
 (1176,[("call",1173)]),
 (1195,[("call",1192)]),
 (1214,[("call",1211)]),
 (1233,[("call",1230)]),
 (1252,[("call",1249)]),
 (1271,[("call",1268)]),
 (1304,[("call",1301)])]
noncomputable abbrev f_words_for:Nat:=60
noncomputable abbrev f_Thing___init__:Nat:=74
noncomputable abbrev f_Heap___init__:Nat:=95
noncomputable abbrev f_heap_alloc:Nat:=109
noncomputable abbrev f_used_words:Nat:=116
noncomputable abbrev f_wants:Nat:=123
noncomputable abbrev f_note_collected:Nat:=130
noncomputable abbrev f_find_thing:Nat:=137
noncomputable abbrev f_slot_word:Nat:=144
noncomputable abbrev f_card_number:Nat:=151
noncomputable abbrev f_KindTable___init__:Nat:=166
noncomputable abbrev f_KindTable_row:Nat:=173
noncomputable abbrev f_KindTable_put:Nat:=180
noncomputable abbrev f_inner_kinds:Nat:=194
noncomputable abbrev f_row_level:Nat:=201
noncomputable abbrev f_row_length:Nat:=208
noncomputable abbrev f_check_kind_row:Nat:=215
noncomputable abbrev f_check_named:Nat:=222
noncomputable abbrev f_check_args:Nat:=229
noncomputable abbrev f_class_kind:Nat:=243
noncomputable abbrev f_kind_sort:Nat:=257
noncomputable abbrev f_is_value:Nat:=271
noncomputable abbrev f_PlaceHost___init__:Nat:=292
noncomputable abbrev f_wrap_bits:Nat:=307
noncomputable abbrev f_wrap32:Nat:=314
noncomputable abbrev f_refs_in:Nat:=328
noncomputable abbrev f_move_value:Nat:=335
noncomputable abbrev f_move_plain:Nat:=342
noncomputable abbrev f_Frame___init__:Nat:=364
noncomputable abbrev f_Tray_kinds_of:Nat:=511
noncomputable abbrev f_Tray_throw_new:Nat:=588
noncomputable abbrev f_Shelf___init__:Nat:=616
noncomputable abbrev f_Shelf_alloc:Nat:=637
noncomputable abbrev f_Shelf_text_of:Nat:=651
noncomputable abbrev f_Shelf_text_ref:Nat:=658
noncomputable abbrev f_Shelf_new_text:Nat:=665
noncomputable abbrev f_note_thrown:Nat:=677
noncomputable abbrev f_told_row:Nat:=684
noncomputable abbrev f_first_slots:Nat:=712
noncomputable abbrev f_alloc_thing:Nat:=719
noncomputable abbrev f_text_held:Nat:=726
noncomputable abbrev f_made_text:Nat:=733
noncomputable abbrev f_interned_text:Nat:=740
noncomputable abbrev f_words_of:Nat:=747
noncomputable abbrev f_push_word:Nat:=754
noncomputable abbrev f_push_value:Nat:=761
noncomputable abbrev f_drain:Nat:=768
noncomputable abbrev f_old_slots:Nat:=775
noncomputable abbrev f_mark:Nat:=782
noncomputable abbrev f_reach_more:Nat:=789
noncomputable abbrev f_refers_younger:Nat:=803
noncomputable abbrev f_younger_slots:Nat:=810
noncomputable abbrev f_renew_cards:Nat:=817
noncomputable abbrev f_Handles___init__:Nat:=831
noncomputable abbrev f_strong_values:Nat:=845
noncomputable abbrev f_clear_handles:Nat:=859
noncomputable abbrev f_move_handles:Nat:=866
noncomputable abbrev f_pick_finals:Nat:=873
noncomputable abbrev f_end_of_older:Nat:=880
noncomputable abbrev f_plan_moves:Nat:=887
noncomputable abbrev f_Words___init__:Nat:=901
noncomputable abbrev f_stays:Nat:=929
noncomputable abbrev f_moved_values:Nat:=936
noncomputable abbrev f_new_lists:Nat:=943
noncomputable abbrev f_put_lists:Nat:=950
noncomputable abbrev f_moved_addrs:Nat:=957
noncomputable abbrev f_settle_thing:Nat:=964
noncomputable abbrev f_settle_things:Nat:=971
noncomputable abbrev f_move_all:Nat:=978
noncomputable abbrev f_root_lists:Nat:=985
noncomputable abbrev f_find_living:Nat:=992
noncomputable abbrev f_collect:Nat:=999
noncomputable abbrev f_Collecting_before:Nat:=1013
noncomputable abbrev f_sweep:Nat:=1025
noncomputable abbrev f_roots:Nat:=1032
noncomputable abbrev f_collect_for:Nat:=1039
noncomputable abbrev f_Store___init__:Nat:=1053
noncomputable abbrev f_bool_value:Nat:=1067
noncomputable abbrev f_thing_named:Nat:=1074
noncomputable abbrev f_text_at:Nat:=1081
noncomputable abbrev f_no_object:Nat:=1088
noncomputable abbrev f_bad_argument:Nat:=1095
noncomputable abbrev f_text_hash:Nat:=1102
noncomputable abbrev f_TextConcat_call:Nat:=1116
noncomputable abbrev f_TextLength_call:Nat:=1135
noncomputable abbrev f_TextSame_call:Nat:=1173
noncomputable abbrev f_TextEquals_call:Nat:=1192
noncomputable abbrev f_TextHash_call:Nat:=1211
noncomputable abbrev f_TextPart_call:Nat:=1230
noncomputable abbrev f_install_native_text:Nat:=1280
noncomputable abbrev f_new_type:Nat:=1287
noncomputable abbrev f_TypeFrom_call:Nat:=1301
noncomputable abbrev f_install_native_type:Nat:=1313
noncomputable abbrev f__law_where:Nat:=1320
noncomputable abbrev f__law_held:Nat:=1325
noncomputable abbrev f__law_same:Nat:=1330
noncomputable abbrev f__law_ask:Nat:=1335
noncomputable abbrev f__law_put:Nat:=1342
noncomputable abbrev f__law_new:Nat:=1349
noncomputable abbrev f__law_kept:Nat:=1356
noncomputable abbrev f__law_word:Nat:=1363
noncomputable abbrev f__law_type:Nat:=1370
noncomputable abbrev f__law_plain:Nat:=1377
noncomputable abbrev f__law_letters:Nat:=1384
noncomputable abbrev f__law_join:Nat:=1391
noncomputable abbrev f__law_part:Nat:=1398
noncomputable abbrev f__law_alike:Nat:=1405
noncomputable abbrev f__law_gone:Nat:=1412
noncomputable abbrev f__law_deed:Nat:=1419
noncomputable abbrev f__law_end:Nat:=1426
noncomputable abbrev f_law:Nat:=1431
noncomputable abbrev c_Thing:Nat:=77
noncomputable abbrev c_Heap:Nat:=98
noncomputable abbrev c_KindTable:Nat:=183
noncomputable abbrev c_PlaceHost:Nat:=295
noncomputable abbrev c_Frame:Nat:=367
noncomputable abbrev c_Starter:Nat:=423
noncomputable abbrev c_Sweeper:Nat:=444
noncomputable abbrev c_KindCloser:Nat:=472
noncomputable abbrev c_Shelf:Nat:=668
noncomputable abbrev c_Handles:Nat:=834
noncomputable abbrev c_Words:Nat:=911
noncomputable abbrev c_Collecting:Nat:=1016
noncomputable abbrev c_Store:Nat:=1056
noncomputable abbrev c_TextConcat:Nat:=1119
noncomputable abbrev c_TextLength:Nat:=1138
noncomputable abbrev c_TextChars:Nat:=1157
noncomputable abbrev c_TextSame:Nat:=1176
noncomputable abbrev c_TextEquals:Nat:=1195
noncomputable abbrev c_TextHash:Nat:=1214
noncomputable abbrev c_TextPart:Nat:=1233
noncomputable abbrev c_TextIndex:Nat:=1252
noncomputable abbrev c_TextCompare:Nat:=1271
noncomputable abbrev c_TypeFrom:Nat:=1304
noncomputable def sq (a b:Str):Bool:=Fast.sEq a b
theorem sq_iff {a b:Str}:sq a b=true↔a=b:=Fast.sEq_iff
abbrev Loc:=List (Str×AVal)
noncomputable def lk (x:Str):List (Str×AVal)→Option AVal
 | []=>none
 | (y,v) :: r=>bif sq x y then some v else lk x r
noncomputable def lput (x:Str) (v:AVal):List (Str×AVal)→List (Str×AVal)
 | []=>[(x,v)]
 | (y,u) :: r=>bif sq x y then (y,v) :: r else (y,u) :: lput x v r
noncomputable def glob (x:Str):Option AVal:=(globL.find? fun r=>Nat.beq (Fast.code x.cps.toList % 4294967291) r.1 && sq x r.2.1).map (·.2.2)
noncomputable def atN {α:Type} (k:Nat) (l:List (Nat×α)):Option α:=(l.find? fun r=>Nat.beq k r.1).map (·.2)
noncomputable def lkN (x:Str):List (Str×Nat)→Option Nat
 | []=>none
 | (y,v) :: r=>bif sq x y then some v else lkN x r
noncomputable def meth (c:Nat) (x:Str):Option Nat:=match atN c cTab with
 | some l=>lkN x l
 | none=>none
noncomputable def nthV:List AVal→Nat→Option AVal
 | [],_=>none
 | v :: _,0=>some v
 | _ :: r,n + 1=>nthV r n
set_option genSizeOf false in
inductive Fl where
 | next | brk | cont | ret (v:AVal)
noncomputable def goPy (f:AVal→Option PyData):List AVal→Option (List PyData)
 | []=>some []
 | a :: r=>(f a).bind fun x=>(goPy f r).map fun q=>x :: q
noncomputable def lstOf:Option AObj→Option (List AVal)
 | some (.list l)=>some l
 | _=>none
noncomputable def toPy (h:AH):Nat→AVal→Option PyData
 | 0,_=>none
 | n + 1,a=>match a with
  | .none=>some .none
  | .int i=>some (.int i)
  | .str s=>bif PyData.strOk s then some (.str s) else none
  | .tup l=>(goPy (toPy h n) l).map .tuple
  | .ref x=>(lstOf (h x)).bind fun l=>(goPy (toPy h n) l).map .list
  | _=>none
noncomputable def isND:PyData→Bool
 | .none=>true
 | _=>false
noncomputable def intD:PyData→Option Int
 | .int i=>some i
 | _=>none
noncomputable def strD:PyData→Option Str
 | .str i=>some i
 | _=>none
noncomputable def listD:PyData→Option (List PyData)
 | .list i=>some i
 | _=>none
noncomputable def tupD:PyData→Option (List PyData)
 | .tuple i=>some i
 | _=>none
noncomputable def consB (f:PyData→Bool) (g:List PyData→Bool):List PyData→Bool
 | []=>false
 | y :: ys=>f y && g ys
noncomputable def pq (x:PyData):PyData→Bool :=
 @PyData.rec (fun _=>PyData→Bool) (fun _=>List PyData→Bool) (fun _=>Unit) (fun _=>Unit) isND (fun _ _=>false) (fun a y=>(intD y).any fun b=>decide (a=b)) (fun a y=>(strD y).any (sq a)) (fun _ f y=>(listD y).any f) (fun _ f y=>(tupD y).any f) (fun _ _ _=>false) List.isEmpty (fun _ _ f g=>consB f g) () (fun _ _ _ _=>()) (fun _ _ _ _=>()) x
noncomputable def pqL (l:List PyData):List PyData→Bool :=
 @PyData.rec_1 (fun _=>PyData→Bool) (fun _=>List PyData→Bool) (fun _=>Unit) (fun _=>Unit) isND (fun _ _=>false) (fun a y=>(intD y).any fun b=>decide (a=b)) (fun a y=>(strD y).any (sq a)) (fun _ f y=>(listD y).any f) (fun _ f y=>(tupD y).any f) (fun _ _ _=>false) List.isEmpty (fun _ _ f g=>consB f g) () (fun _ _ _ _=>()) (fun _ _ _ _=>()) l
noncomputable def plainD (x:PyData):Bool :=
 @PyData.rec (fun _=>Bool) (fun _=>Bool) (fun _=>Unit) (fun _=>Unit) true (fun _=>false) (fun _=>true) PyData.strOk (fun _ f=>f) (fun _ f=>f) (fun _ _=>false) true (fun _ _ f g=>f && g) () (fun _ _ _ _=>()) (fun _ _ _ _=>()) x
noncomputable def plainL (l:List PyData):Bool :=
 @PyData.rec_1 (fun _=>Bool) (fun _=>Bool) (fun _=>Unit) (fun _=>Unit) true (fun _=>false) (fun _=>true) PyData.strOk (fun _ f=>f) (fun _ f=>f) (fun _ _=>false) true (fun _ _ f g=>f && g) () (fun _ _ _ _=>()) (fun _ _ _ _=>()) l
noncomputable def kOk:Nat→AVal→Bool
 | 0,_=>false
 | n + 1,a=>match a with
  | .int _=>true
  | .str s=>PyData.strOk s
  | .tup l=>goK (kOk n) l
  | _=>false
where goK (f:AVal→Bool):List AVal→Bool
 | []=>true
 | a :: r=>f a && goK f r
noncomputable def isKey (a:AVal):Bool:=kOk 4 a
noncomputable def keyPy (a:AVal):Option PyData:=bif isKey a then toPy (fun _=>none) 4 a else none
noncomputable def keyEq (a b:AVal):Bool:=(keyPy a).any fun x=>(keyPy b).any (pq x)
noncomputable def dlk (k:AVal):List (AVal×AVal)→Option AVal
 | []=>none
 | (y,v) :: r=>bif keyEq y k then some v else dlk k r
noncomputable def dput (k v:AVal):List (AVal×AVal)→List (AVal×AVal)
 | []=>[(k,v)]
 | (y,u) :: r=>bif keyEq y k then (y,v) :: r else (y,u) :: dput k v r
noncomputable def eqV (h:AH) (a b:AVal):Option Bool:=match toPy h 5 a,toPy h 5 b with
 | some x,some y=>some (pq x y)
 | _,_=>none
noncomputable def toInts:List AVal→Option (List Int)
 | []=>some []
 | .int i :: r=>(match toInts r with | some l=>some (i :: l) | none=>none)
 | _=>none
end
section
set_option maxHeartbeats 0
noncomputable def attL:List Str:=[sO "addr",sO "alloc",sO "args",sO "asms",sO "at",sO "before",sO "body",sO "by_number",sO "call",sO "calls",sO "card_bits",sO "cards",sO "caught",sO "caughtv",sO "cell",sO "chases",sO "closer",sO "code",sO "conts",sO "default",sO "defaults",sO "depths",sO "entry",sO "extra",sO "fails",sO "fields_",sO "finals",sO "frames",sO "fresh",sO "gen",sO "handles",sO "heap",sO "held",sO "home",sO "index",sO "inits",sO "interned",sO "internv",sO "ip",sO "keep",sO "kin",sO "kind",sO "kinds_of",sO "kt",sO "last",sO "limit",sO "locals_",sO "made",sO "methods",sO "moved",sO "moves",sO "mref",sO "names",sO "natives",sO "new_text",sO "new_word",sO "number",sO "opens",sO "ops",sO "places",sO "plain",sO "prefix",sO "pushed",sO "put",sO "ready",sO "result",sO "row",sO "rows",sO "serial",sO "size",sO "slots",sO "sort",sO "stack",sO "starter",sO "state",sO "statics",sO "store",sO "sweeper",sO "targets",sO "text_of",sO "text_ref",sO "things",sO "throw_new",sO "thrown",sO "told",sO "top",sO "types",sO "unders",sO "unhandled",sO "weights",sO "wrong",sO "young_limit"]
noncomputable def kfA:List Nat:=[3,38,51,77,98,183,295,367,388,423,444,472,598,668,834,911,1016,1056,1119,1138,1157,1176,1195,1214,1233,1252,1271,1304,37,50,76,97,182,294,366,387,422,443,471,597,667,833,910,1015,1055,1118,1137,1156,1175,1194,1213,1232,1251,1270,1303,152,300,350,21,35,60,74,95,109,116,123,130,137,144,151,166,173,180,194,201,208,215,222,229,236,243,250,257,264,271,278,292,307,314,321,328,335,342,349,364,385,406,413,420,441,462,469,490,497,504,511,518,525,532,539,546,553,560,567,574,581,588,595,616,623,630,637,644,651,658,665,677,684,691,698,705,712,719,726,733,740,747,754,761,768,775,782,789,796,803,810,817,831,845,852,859,866,873,880,887,901,908,922,929,936,943,950,957,964,971,978,985,992,999,1013,1025,1032,1039,1053,1067,1074,1081,1088,1095,1102,1116,1135,1154,1173,1192,1211,1230,1249,1268,1280,1287,1301,1313,1320,1325,1330,1335,1342,1349,1356,1363,1370,1377,1384,1391,1398,1405,1412,1419,1426,1431,20,34,59,73,94,108,115,122,129,136,143,150,165,172,179,193,200,207,214,221,228,235,242,249,256,263,270,277,291,306,313,320,327,334,341,348,363,384,405,412,419,440,461,468,489,496,503,510,517,524,531,538,545,552,559,566,573,580,587,594,615,622,629,636,643,650,657,664,676,683,690,697,704,711,718,725,732,739,746,753,760,767,774,781,788,795,802,809,816,830,844,851,858,865,872,879,886,900,907,921,928,935,942,949,956,963,970,977,984,991,998,1012,1024,1031,1038,1052,1066,1073,1080,1087,1094,1101,1115,1134,1153,1172,1191,1210,1229,1248,1267,1279,1286,1300,1312,1319,1324,1329,1334,1341,1348,1355,1362,1369,1376,1383,1390,1397,1404,1411,1418,1425,1430]
noncomputable def KF (P:Params):Frag:=kfA.map fun a=>(a,ob P a)
theorem kf_base (P:Params):(KF P).map (fun r=>(base P)[r.1]?)=(KF P).map (fun r=>some r.2):=by kernel_rfl
theorem kf_free (P:Params):(KF P).all (fun r=>!r.2.isFreed)=true:=by kernel_rfl
theorem f_rows (P:Params):fTab.map (fun r=>(KF P).lookup r.1)=fTab.map (fun r=>some (fnO r.2.d r.2.q r.2.pm (.ref r.2.c))):=by kernel_rfl
theorem f_code (P:Params):fTab.all (fun r=>codeIn (KF P) (.ref r.2.c) r.2.q)=true:=by kernel_rfl
noncomputable def tokOf:Value→Tok
 | .int _ t=>t
 | .str _ t=>t
 | _=>0
noncomputable def adOf:Value→Addr
 | .ref a=>a
 | _=>0
noncomputable def seqOf:Data→Option (Array Value)
 | .seq xs 0=>some xs
 | _=>none
noncomputable def tupIn:Option Obj→Option (Array Value)
 | some o=>bif o.cls == .type "tuple" && (o.dict.isNone && o.slots.isEmpty) then seqOf o.data else none
 | none=>none
noncomputable def gv0 (a:AVal) (v:Value):Bool:=match a with
 | .int i=>v == .int i (tokOf v)
 | .str s=>v == .str s (tokOf v)
 | .fn a=>v == .ref a
 | .cls a=>v == .ref a
 | .kd=>v == .ref 152
 | _=>false
noncomputable def gvs:List AVal→List Value→Bool
 | [],[]=>true
 | a :: l,v :: r=>gv0 a v && gvs l r
 | _,_=>false
noncomputable def gvT (l:List AVal):Option (Array Value)→Bool
 | some xs=>gvs l xs.toList
 | none=>false
noncomputable def gvOk (P:Params) (a:AVal) (v:Value):Bool:=match a with
 | .tup l=>v == .ref (adOf v) && gvT l (tupIn ((KF P).lookup (adOf v)))
 | a=>gv0 a v
noncomputable def gvRow (P:Params) (a:AVal):Option (Option Value)→Bool
 | some (some c)=>gvOk P a c
 | _=>false
theorem g_rows (P:Params):globL.all (fun r=>gvRow P r.2.2 (nsIn (KF P) mainGlobals r.2.1))=true:=by kernel_rfl
theorem c_rows (P:Params):(cTab.drop 2).all (fun r=>attL.all fun n=>findIn (KF P) (.ref r.1) n == some ((meth r.1 n).map Value.ref))=true:=by kernel_rfl
theorem c_make (P:Params):(cTab.drop 2).all (fun r=>makesIn (KF P) r.1 && plainOver (KF P) r.1 && hasDictIn (KF P) r.1 && plainGet (KF P) r.1 "" && findIn (KF P) (.ref r.1) "__setattr__" == some (some (.builtin "object.__setattr__")))=true:=by kernel_rfl
end
section
set_option genSizeOf false in
set_option genInjectivity false in
structure Wd where
 ad:Nm→Bool→Addr
 g:Addr→Option Obj
noncomputable def has (h:AH) (n:Nm):Bool→Bool
 | false=>(h n).isSome
 | true=>match h n with
  | some (.inst _ _)=>true
  | _=>false
abbrev tupObj (vs:List Value):Obj:={ cls:=.type "tuple",data:=.seq vs.toArray }
noncomputable def IntsR:List Int→List Value→Prop
 | [],vs=>vs=[]
 | i :: l,vs=>∃ t r,vs = .int i t :: r∧IntsR l r
noncomputable def VR (h:AH) (W:Wd) (a:AVal) (v:Value):Prop :=
 @AVal.rec (fun _=>Value→Prop) (fun _=>List Value→Prop) (fun v=>v = .none) (fun b v=>v = .bool b) (fun i v=>∃ t,v = .int i t) (fun s v=>∃ t,v = .str s t)
  (fun _ f v=>∃ a vs,v = .ref a∧W.g a=some (tupObj vs)∧f vs) (fun n v=>(h n).isSome=true∧v = .ref (W.ad n false)) (fun a v=>v = .ref a) (fun a v=>v = .ref a) (fun v=>v = .ref 152)
  (fun l v=>∃ a o vs n,v = .ref a∧W.g a=some o∧o.cls = .type "list"∧o.data = .seq vs n∧IntsR l vs.toList∧l.length≤1000000) (fun vs=>vs=[]) (fun _ _ f g vs=>∃ v r,vs=v :: r∧f v∧g r) a v
noncomputable def VRs (h:AH) (W:Wd) (l:List AVal) (vs:List Value):Prop :=
 @AVal.rec_1 (fun _=>Value→Prop) (fun _=>List Value→Prop) (fun v=>v = .none) (fun b v=>v = .bool b) (fun i v=>∃ t,v = .int i t) (fun s v=>∃ t,v = .str s t)
  (fun _ f v=>∃ a vs,v = .ref a∧W.g a=some (tupObj vs)∧f vs) (fun n v=>(h n).isSome=true∧v = .ref (W.ad n false)) (fun a v=>v = .ref a) (fun a v=>v = .ref a) (fun v=>v = .ref 152)
  (fun l v=>∃ a o vs n,v = .ref a∧W.g a=some o∧o.cls = .type "list"∧o.data = .seq vs n∧IntsR l vs.toList∧l.length≤1000000) (fun vs=>vs=[]) (fun _ _ f g vs=>∃ v r,vs=v :: r∧f v∧g r) l vs
section
variable {h:AH} {W:Wd}
theorem VR.none:VR h W .none .none:=rfl
theorem VR.bool (b:Bool):VR h W (.bool b) (.bool b):=rfl
theorem VR.int (i:Int) (t:Tok):VR h W (.int i) (.int i t):=⟨t,rfl⟩
theorem VR.str (s:Str) (t:Tok):VR h W (.str s) (.str s t):=⟨t,rfl⟩
theorem VR.tup {l a vs} (e1:W.g a=some (tupObj vs)) (r:VRs h W l vs):VR h W (.tup l) (.ref a):=⟨a,vs,rfl,e1,r⟩
theorem VR.ref {n} (e:(h n).isSome=true):VR h W (.ref n) (.ref (W.ad n false)):=⟨e,rfl⟩
theorem VR.fn (a:Nat):VR h W (.fn a) (.ref a):=rfl
theorem VR.cls (a:Nat):VR h W (.cls a) (.ref a):=rfl
theorem VR.kd:VR h W .kd (.ref 152):=rfl
theorem VRs.nil:VRs h W [] []:=rfl
theorem VRs.cons {a v l r} (x:VR h W a v) (y:VRs h W l r):VRs h W (a :: l) (v :: r):=⟨v,r,rfl,x,y⟩
theorem VR.iTup {l v} (x:VR h W (.tup l) v):∃ a vs,v = .ref a∧W.g a=some (tupObj vs)∧VRs h W l vs:=x
theorem VR.iSl {l v} (x:VR h W (.sl l) v):∃ a o vs n,v = .ref a∧W.g a=some o∧o.cls = .type "list"∧o.data = .seq vs n∧IntsR l vs.toList∧l.length≤1000000:=x
theorem VRs.iCons {a l vs} (x:VRs h W (a :: l) vs):∃ v r,vs=v :: r∧VR h W a v∧VRs h W l r:=x
theorem VRs.ind {m:List AVal→List Value→Prop} (n:m [] []) (k:∀ {a v l r},VR h W a v→VRs h W l r→m l r→m (a :: l) (v :: r)):∀ {l r},VRs h W l r→m l r:=by
 intro l
 induction l with
 | nil=>rintro _ rfl; exact n
 | cons a l ih=>intro r x; exact x.iCons.elim fun v y=>y.elim fun r y=>by rw [y.1]; exact k y.2.1 y.2.2 (ih y.2.2)
end
structure Le (h:AH) (W:Wd) (h':AH) (W':Wd):Prop where
 g:∀ a o,W.g a=some o→W'.g a=some o
 ad:∀ n b,has h n b=true→has h' n b=true∧W'.ad n b=W.ad n b
theorem Le.refl (h:AH) (W:Wd):Le h W h W:=⟨fun _ _ e=>e,fun _ _ e=>⟨e,rfl⟩⟩
theorem Le.trans {h h' h'':AH} {W W' W'':Wd} (x:Le h W h' W') (y:Le h' W' h'' W''):Le h W h'' W'' :=
 ⟨fun a o e=>y.g a o (x.g a o e),fun n b e=>let p:=x.ad n b e; let q:=y.ad n b p.1; ⟨q.1,q.2.trans p.2⟩⟩
theorem VR.mono {h h':AH} {W W':Wd} (x:Le h W h' W'):∀ {a v},VR h W a v→VR h' W' a v:=fun {a} =>
 @AVal.rec (fun a=>∀ {v},VR h W a v→VR h' W' a v) (fun l=>∀ {r},VRs h W l r→VRs h' W' l r) (fun z=>z) (fun _ _ z=>z) (fun _ _ z=>z) (fun _ _ z=>z)
  (fun _ f _ z=>z.elim fun a z=>z.elim fun vs z=>⟨a,vs,z.1,x.g _ _ z.2.1,f z.2.2⟩)
  (fun n _ z=>⟨(x.ad n false z.1).1,z.2.trans (congrArg Value.ref (x.ad n false z.1).2.symm)⟩) (fun _ _ z=>z) (fun _ _ z=>z) (fun z=>z)
  (fun _ _ z=>z.elim fun a z=>z.elim fun o z=>z.elim fun vs z=>z.elim fun n z=>⟨a,o,vs,n,z.1,x.g _ _ z.2.1,z.2.2⟩) (fun z=>z) (fun _ _ f g _ z=>z.elim fun v z=>z.elim fun r z=>⟨v,r,z.1,f z.2.1,g z.2.2⟩) a
theorem VRs.mono {h h':AH} {W W':Wd} (x:Le h W h' W'):∀ {a v},VRs h W a v→VRs h' W' a v:=VRs.ind .nil fun a _ r=>.cons (a.mono x) r
theorem IntsR.vrs {h:AH} {W:Wd}:∀ {l r},IntsR l r→VRs h W (l.map AVal.int) r
 | [],_,x=>x
 | i :: _,_,x=>x.elim fun t x=>x.elim fun r x=>by rw [x.1]; exact VRs.cons (VR.int i t) x.2.vrs
theorem VRs.length {h:AH} {W:Wd}:∀ {l r},VRs h W l r→l.length=r.length:=VRs.ind (m:=fun l r=>l.length=r.length) rfl fun _ _ e=>congrArg (· + 1) e
theorem VRs.append {h:AH} {W:Wd} {l r l' r'} (x:VRs h W l r) (y:VRs h W l' r'):VRs h W (l ++ l') (r ++ r'):=VRs.ind (m:=fun l r=>VRs h W (l ++ l') (r ++ r')) y (fun a _ z=>.cons a z) x
noncomputable def ER (P:Params) (h:AH) (W:Wd):List (Str×AVal)→List DictEntry→Prop
 | [],es=>es=[]
 | (x,v) :: l,es=>∃ t c r,es=⟨PyData.keyHash P x,.str x t,c⟩ :: r∧VR h W v c∧ER P h W l r
theorem ER.mono {P:Params} {h h':AH} {W W':Wd} (x:Le h W h' W'):∀ {l es},ER P h W l es→ER P h' W' l es
 | [],_,z=>z
 | (_,_) :: _,_,z=>z.elim fun t z=>z.elim fun c z=>z.elim fun r z=>⟨t,c,r,z.1,z.2.1.mono x,ER.mono x z.2.2⟩
noncomputable def wOf (a:AVal):WData :=
 @AVal.rec (fun _=>WData) (fun _=>List WData) .none .bool .int .str (fun _ f=>.tuple f) (fun _=>.none) (fun _=>.none) (fun _=>.none) .none (fun _=>.none) [] (fun _ _ x l=>x :: l) a
noncomputable def wsOf (l:List AVal):List WData :=
 @AVal.rec_1 (fun _=>WData) (fun _=>List WData) .none .bool .int .str (fun _ f=>.tuple f) (fun _=>.none) (fun _=>.none) (fun _=>.none) .none (fun _=>.none) [] (fun _ _ x l=>x :: l) l
noncomputable def keyH (P:Params) (a:AVal):Int:=hashW P (wOf a)
noncomputable def DR (P:Params) (h:AH) (W:Wd):List (AVal×AVal)→List DictEntry→Prop
 | [],es=>es=[]
 | p :: l,es=>∃ kc c r,es=⟨keyH P p.1,kc,c⟩ :: r∧isKey p.1=true∧VR h W p.1 kc∧VR h W p.2 c∧(∀ q∈l,keyEq q.1 p.1=false)∧DR P h W l r
theorem DR.mono {P:Params} {h h':AH} {W W':Wd} (x:Le h W h' W'):∀ {l es},DR P h W l es→DR P h' W' l es
 | [],_,z=>z
 | _ :: _,_,z=>z.elim fun k z=>z.elim fun c z=>z.elim fun r z=>⟨k,c,r,z.1,z.2.1,z.2.2.1.mono x,z.2.2.2.1.mono x,z.2.2.2.2.1,DR.mono x z.2.2.2.2.2⟩
abbrev listObj (vs:Array Value) (k:Nat):Obj:=⟨.type "list",none,.seq vs k,#[]⟩
noncomputable def OR (P:Params) (h:AH) (W:Wd) (hp:Heap) (n:Nm):AObj→Prop
 | .inst c fs=>hp.get? (W.ad n false)=some (instObj c (W.ad n true))∧∃ es k,hp.get? (W.ad n true)=some (PySem.W.dictOf es k)∧ER P h W fs es∧fs.length≤900
 | .list l=>∃ vs k,hp.get? (W.ad n false)=some (listObj vs k)∧VRs h W l vs.toList∧l.length≤1000000
 | .dict l=>∃ es k,hp.get? (W.ad n false)=some (PySem.W.dictOf es k)∧DR P h W l es∧l.length≤1000000
theorem has_true {h:AH} {n:Nm} (e:has h n true=true):∃ c fs,h n=some (.inst c fs):=by
 cases q:h n with
 | none=>simp [has,q] at e
 | some o=>cases o with
  | inst c fs=>exact ⟨c,fs,rfl⟩
  | list l=>simp [has,q] at e
  | dict l=>simp [has,q] at e
noncomputable def own (h:AH) (W:Wd) (a:Addr):Prop:=∃ n b,has h n b=true∧a=W.ad n b
structure Sat (P:Params) (H0:Heap) (W:Wd) (h:AH) (hp:Heap):Prop where
 stat:∀ a o,H0.get? a=some o→W.g a=some o
 keep:∀ a o,W.g a=some o→hp.get? a=some o
 obj:∀ n o,h n=some o→OR P h W hp n o
 inj:∀ n b m c,has h n b=true→has h m c=true→W.ad n b=W.ad m c→n=m∧b=c
 gno:∀ n b,has h n b=true→W.g (W.ad n b)=none
theorem Sat.at {P:Params} {H0:Heap} {W:Wd} {h:AH} {hp:Heap} (S:Sat P H0 W h hp) {n:Nm} {b:Bool} (e:has h n b=true):∃ o,hp.get? (W.ad n b)=some o:=by
 cases b with
 | false =>
  obtain ⟨o,ho⟩:=Option.isSome_iff_exists.mp e
  have:=S.obj n o ho
  cases o with
  | inst c fs=>exact ⟨_,this.1⟩
  | list l=>obtain ⟨vs,k,h1,_⟩:=this; exact ⟨_,h1⟩
  | dict l=>obtain ⟨vs,k,h1,_⟩:=this; exact ⟨_,h1⟩
 | true =>
  obtain ⟨c,fs,ho⟩:=has_true e
  obtain ⟨_,es,k,h2,_⟩:=S.obj n _ ho
  exact ⟨_,h2⟩
theorem has_inst {h:AH} {n:Nm} {c:Nat} {fs:List (Str×AVal)} (e:h n=some (.inst c fs)):has h n true=true:=by unfold has; rw [e]
theorem has_some {h:AH} {n:Nm} {o:AObj} (e:h n=some o):has h n false=true:=by unfold has; rw [e]; rfl
theorem has_false {h:AH} {n:Nm} {b:Bool} (e:has h n b=true):has h n false=true:=by
 cases b with
 | false=>exact e
 | true=>obtain ⟨c,fs,ho⟩:=has_true e; exact has_some ho
theorem OR.congr {P:Params} {h:AH} {W:Wd} {hp hp':Heap} {n:Nm} {o:AObj} (ho:h n=some o) (x:OR P h W hp n o) (k:∀ b,has h n b=true→∀ o,hp.get? (W.ad n b)=some o→hp'.get? (W.ad n b)=some o):OR P h W hp' n o:=by
 cases o with
 | inst c fs =>
  obtain ⟨h1,es,q,h2,r⟩:=x
  exact ⟨k false (has_some ho) _ h1,es,q,k true (has_inst ho) _ h2,r⟩
 | list l=>obtain ⟨vs,q,h1,r⟩:=x; exact ⟨vs,q,k false (has_some ho) _ h1,r⟩
 | dict l=>obtain ⟨vs,q,h1,r⟩:=x; exact ⟨vs,q,k false (has_some ho) _ h1,r⟩
theorem OR.mono {P:Params} {h h':AH} {W W':Wd} {hp:Heap} {n:Nm} {o:AObj} (x:Le h W h' W') (e:∀ b,has h n b=true→W'.ad n b=W.ad n b) (ho:h n=some o) (y:OR P h W hp n o):OR P h' W' hp n o:=by
 cases o with
 | inst c fs =>
  obtain ⟨h1,es,q,h2,r,z⟩:=y
  exact ⟨by rw [e false (has_some ho),e true (has_inst ho)]; exact h1,es,q,by rw [e true (has_inst ho)]; exact h2,r.mono x,z⟩
 | list l=>obtain ⟨vs,q,h1,r,z⟩:=y; exact ⟨vs,q,by rw [e false (has_some ho)]; exact h1,r.mono x,z⟩
 | dict l=>obtain ⟨vs,q,h1,r,z⟩:=y; exact ⟨vs,q,by rw [e false (has_some ho)]; exact h1,r.mono x,z⟩
theorem Sat.congr {P:Params} {H0:Heap} {W:Wd} {h:AH} {hp hp':Heap} (S:Sat P H0 W h hp) (k:∀ a o,((∃ o,W.g a=some o)∨own h W a)→hp.get? a=some o→hp'.get? a=some o):Sat P H0 W h hp' where
 stat:=S.stat
 keep:=fun a o e=>k a o (.inl ⟨o,e⟩) (S.keep a o e)
 obj:=fun n o ho=>(S.obj n o ho).congr ho fun b hb o q=>k _ o (.inr ⟨n,b,hb,rfl⟩) q
 inj:=S.inj
 gno:=S.gno
end
section
theorem hset_self (h:AH) (a:Nm) (o:AObj):hset h a o a=some o:=by simp [hset,Nm.eqb_self]
theorem hset_ne {h:AH} {a b:Nm} {o:AObj} (e:b≠a):hset h a o b=h b:=by simp [hset,Nm.eqb_ne e]
noncomputable def Wd.put (W:Wd) (nm:Nm) (a0 a1:Addr):Wd:=⟨fun n b=>bif Nm.eqb n nm then (bif b then a1 else a0) else W.ad n b,W.g⟩
theorem put_self (W:Wd) (nm:Nm) (a0 a1:Addr) (b:Bool):(W.put nm a0 a1).ad nm b=bif b then a1 else a0:=by simp [Wd.put,Nm.eqb_self]
theorem put_ne {W:Wd} {nm n:Nm} {a0 a1:Addr} {b:Bool} (e:n≠nm):(W.put nm a0 a1).ad n b=W.ad n b:=by simp [Wd.put,Nm.eqb_ne e]
theorem has_ne {h:AH} {a n:Nm} {o:AObj} {b:Bool} (e:n≠a):has (hset h a o) n b=has h n b:=by cases b <;> simp [has,hset_ne e]
theorem nm_cases (a b:Nm):a=b∨a≠b:=by
 cases q:a.eqb b with
 | true=>exact .inl (Nm.eqb_iff.mp q)
 | false=>exact .inr fun e=>by rw [Nm.eqb_iff.mpr e] at q; cases q
section
variable {P:Params} {H0:Heap} {W:Wd} {h:AH} {hp hp':Heap}
theorem Sat.gone (S:Sat P H0 W h hp) {a:Addr} (n0:hp.get? a=none):W.g a=none:=by
 cases q:W.g a with
 | none=>rfl
 | some o=>rw [S.keep a o q] at n0; cases n0
theorem Sat.ad_ne (S:Sat P H0 W h hp) {a:Addr} (n0:hp.get? a=none) {n:Nm} {b:Bool} (e:has h n b=true):W.ad n b≠a:=fun q=>by
 obtain ⟨o,ho⟩:=S.at e
 rw [q,n0] at ho; cases ho
theorem Sat.add {nm:Nm} {o:AObj} {a0 a1:Addr} (S:Sat P H0 W h hp) (hn:h nm=none) (k:∀ a o,hp.get? a=some o→hp'.get? a=some o) (n0:hp.get? a0=none) (n1:hp.get? a1=none) (h01:a0≠a1)
  (x:OR P (hset h nm o) (W.put nm a0 a1) hp' nm o):Sat P H0 (W.put nm a0 a1) (hset h nm o) hp'∧Le h W (hset h nm o) (W.put nm a0 a1):=by
 have hnn:∀ b,has h nm b=false:=fun b=>by cases b <;> simp [has,hn]
 have ne:∀ {n b},has h n b=true→n≠nm:=fun e q=>by rw [q,hnn] at e; cases e
 have le:Le h W (hset h nm o) (W.put nm a0 a1):=⟨fun _ _ e=>e,fun n b e=>⟨by rw [has_ne (ne e)]; exact e,put_ne (ne e)⟩⟩
 refine ⟨⟨S.stat,fun a ob e=>k _ _ (S.keep a ob e),fun n ob hob=>?_,fun n b m c e f q=>?_,fun n b e=>?_⟩,le⟩
 ·rcases nm_cases n nm with rfl | hne
  ·rw [hset_self] at hob; cases hob; exact x
  ·rw [hset_ne hne] at hob
   exact (OR.mono le (fun b e=>put_ne hne) hob (S.obj n ob hob)).congr (h:=hset h nm o) (by rw [hset_ne hne]; exact hob) fun b hb ob' q=>k _ _ q
 ·rcases nm_cases n nm with hn' | hne <;> rcases nm_cases m nm with hm | hme
  ·rw [hn',hm,put_self,put_self] at q
   refine ⟨hn'.trans hm.symm,?_⟩
   cases b <;> cases c <;> simp at q ⊢ <;> first | exact absurd q h01 | exact absurd q.symm h01
  ·rw [hn',put_self,put_ne hme] at q
   rw [has_ne hme] at f
   cases b
   ·exact absurd q.symm (S.ad_ne n0 f)
   ·exact absurd q.symm (S.ad_ne n1 f)
  ·rw [hm,put_self,put_ne hne] at q
   rw [has_ne hne] at e
   cases c
   ·exact absurd q (S.ad_ne n0 e)
   ·exact absurd q (S.ad_ne n1 e)
  ·rw [put_ne hne,put_ne hme] at q
   rw [has_ne hne] at e; rw [has_ne hme] at f
   exact S.inj n b m c e f q
 ·rcases nm_cases n nm with rfl | hne
  ·rw [put_self]; cases b
   ·exact S.gone n0
   ·exact S.gone n1
  ·rw [put_ne hne]; rw [has_ne hne] at e; exact S.gno n b e
theorem Sat.upd {n:Nm} {o':AObj} (S:Sat P H0 W h hp) (kind:∀ b,has (hset h n o') n b=has h n b) (k:∀ a ob,(∀ b,has h n b=true→a≠W.ad n b)→hp.get? a=some ob→hp'.get? a=some ob)
  (x:OR P (hset h n o') W hp' n o'):Sat P H0 W (hset h n o') hp'∧Le h W (hset h n o') W:=by
 have hk:∀ m b,has (hset h n o') m b=has h m b:=fun m b=>by
  rcases nm_cases m n with rfl | hne
  ·exact kind b
  ·exact has_ne hne
 have le:Le h W (hset h n o') W:=⟨fun _ _ e=>e,fun m b e=>⟨by rw [hk]; exact e,rfl⟩⟩
 refine ⟨⟨S.stat,fun a ob e=>k _ _ (fun b hb q=>?_) (S.keep a ob e),fun m ob hob=>?_,fun m b m' c e f q=>S.inj m b m' c (by rw [← hk]; exact e) (by rw [← hk]; exact f) q,fun m b e=>S.gno m b (by rw [← hk]; exact e)⟩,le⟩
 ·rw [q,S.gno n b hb] at e; cases e
 ·rcases nm_cases m n with rfl | hne
  ·rw [hset_self] at hob; cases hob; exact x
  ·rw [hset_ne hne] at hob
   refine (OR.mono le (fun b _=>rfl) hob (S.obj m ob hob)).congr (h:=hset h n o') (by rw [hset_ne hne]; exact hob) fun b hb ob' q=>k _ _ (fun c hc z=>hne (S.inj m b n c ?_ hc z).1) q
   rw [← hk]; exact hb
theorem Sat.tuple {l:List AVal} {vs:List Value} (S:Sat P H0 W h hp) (r:VRs h W l vs) :
  ∃ W',Le h W h W'∧Sat P H0 W' h (hp.push { cls:=.type "tuple",data:=.seq vs.toArray })∧VR h W' (.tup l) (.ref hp.objs.size)∧W'.ad=W.ad∧∀ a o,W'.g a=some o→W.g a=some o∨hp.get? a=none:=by
 have n0:hp.get? hp.objs.size=none:=by
  cases q:hp.get? hp.objs.size with
  | none=>rfl
  | some o=>exact absurd (Heap.lt_size q) (Nat.lt_irrefl _)
 have le:Le h W h ⟨W.ad,fun a=>if a=hp.objs.size then some { cls:=.type "tuple",data:=.seq vs.toArray } else W.g a⟩:=by
  refine ⟨fun a o e=>?_,fun n b e=>⟨e,rfl⟩⟩
  show (if a=hp.objs.size then _ else W.g a)=some o
  rw [if_neg]; exact e
  rintro rfl; rw [S.gone n0] at e; cases e
 refine ⟨⟨W.ad,fun a=>if a=hp.objs.size then some { cls:=.type "tuple",data:=.seq vs.toArray } else W.g a⟩,le,⟨fun a o e=>le.g a o (S.stat a o e),fun a o e=>?_,fun n o ho=>?_,S.inj,fun n b e=>?_⟩,?_,rfl,fun a o e=>?_⟩
 ·dsimp only at e
  split at e
  ·rename_i q; cases e; rw [q]; exact Heap.get?_push_size _ rfl
  ·exact Heap.get?_push_of_some _ (S.keep a o e)
 ·exact (OR.mono le (fun _ _=>rfl) ho (S.obj n o ho)).congr ho fun b _ ob q=>Heap.get?_push_of_some _ q
 ·dsimp only
  rw [if_neg (S.ad_ne n0 e)]; exact S.gno n b e
 ·exact .tup (if_pos rfl) (r.mono le)
 ·dsimp only at e
  split at e
  ·rename_i q; rw [q]; exact .inr n0
  ·exact .inl e
end
structure FrR (W:Wd) (h:AH) (hp:Heap) (L:Addr) (loc:Loc):Prop where
 ns:∃ m,hp.Ns L m∧∀ x v,lk x loc=some v→∃ c,m x=some c∧VR h W v c
 gL:W.g L=none
 oL:¬ own h W L
structure Ex (D:Nm→Prop) (h:AH) (W:Wd) (s:Shared) (h':AH) (W':Wd) (s':Shared) (L:Option Addr):Prop where
 g:∀ a o,W.g a=some o→W'.g a=some o
 ad:∀ n b,D n→has h n b=true→has h' n b=true∧W'.ad n b=W.ad n b
 size:∀ a o,s.heap.get? a=some o→(s'.heap.get? a).isSome=true
 keep:∀ a o,s.heap.get? a=some o→¬ own h W a→L≠some a→s'.heap.get? a=some o
 own':∀ a,own h' W' a→own h W a∨s.heap.get? a=none
 gnew:∀ a o,W'.g a=some o→W.g a=some o∨s.heap.get? a=none
 gens:s'.gens=s.gens
 os:s'.os=s.os
theorem Ex.refl (D:Nm→Prop) (h:AH) (W:Wd) (s:Shared) (L:Option Addr):Ex D h W s h W s L :=
 ⟨fun _ _ e=>e,fun _ _ _ e=>⟨e,rfl⟩,fun _ _ e=>by rw [e]; rfl,fun _ _ e _ _=>e,fun _ e=>.inl e,fun _ _ e=>.inl e,rfl,rfl⟩
theorem Ex.back {D:Nm→Prop} {h h1:AH} {W W1:Wd} {s s1:Shared} {L:Option Addr} (x:Ex D h W s h1 W1 s1 L) {a:Addr} (e:s1.heap.get? a=none):s.heap.get? a=none:=by
 cases q:s.heap.get? a with
 | none=>rfl
 | some o=>have:=x.size a o q; rw [e] at this; cases this
theorem Ex.trans {D:Nm→Prop} {h h1 h2:AH} {W W1 W2:Wd} {s s1 s2:Shared} {L:Option Addr} (x:Ex D h W s h1 W1 s1 L) (y:Ex D h1 W1 s1 h2 W2 s2 L):Ex D h W s h2 W2 s2 L where
 g:=fun a o e=>y.g a o (x.g a o e)
 ad:=fun n b d e=>let p:=x.ad n b d e; let q:=y.ad n b d p.1; ⟨q.1,q.2.trans p.2⟩
 size:=fun a o e=>let ⟨o',e'⟩:=Option.isSome_iff_exists.mp (x.size a o e); y.size a o' e'
 keep:=fun a o e n l=>y.keep a o (x.keep a o e n l) (fun q=>(x.own' a q).elim n fun z=>by rw [e] at z; cases z) l
 own':=fun a e=>(y.own' a e).elim (x.own' a) fun z=>.inr (x.back z)
 gnew:=fun a o e=>(y.gnew a o e).elim (x.gnew a o) fun z=>.inr (x.back z)
 gens:=y.gens.trans x.gens
 os:=y.os.trans x.os
noncomputable def all':Nm→Prop:=fun _=>True
theorem Ex.le {h h1:AH} {W W1:Wd} {s s1:Shared} {L:Option Addr} (x:Ex all' h W s h1 W1 s1 L):Le h W h1 W1:=⟨x.g,fun n b e=>x.ad n b trivial e⟩
theorem Ex.toks {D:Nm→Prop} {h:AH} {W:Wd} {s:Shared} {L:Option Addr} {k:Nat}:Ex D h W s h W { s with toks:=k } L :=
 ⟨fun _ _ e=>e,fun _ _ _ e=>⟨e,rfl⟩,fun _ _ e=>by rw [e]; rfl,fun _ _ e _ _=>e,fun _ e=>.inl e,fun _ _ e=>.inl e,rfl,rfl⟩
theorem FrR.step {h h1:AH} {W W1:Wd} {s s1:Shared} {L:Addr} {loc:Loc} (F:FrR W h s.heap L loc) (x:Ex all' h W s h1 W1 s1 none):FrR W1 h1 s1.heap L loc:=by
 obtain ⟨m,hm,hv⟩:=F.ns
 have hm':=hm
 obtain ⟨o,es,ep,ho,hd,hk,hf⟩:=hm
 have ho':=x.keep L o ho F.oL (by intro q; cases q)
 exact ⟨⟨m,⟨o,es,ep,ho',hd,hk,hf⟩,fun y v e=>let ⟨c,a,b⟩:=hv y v e; ⟨c,a,b.mono x.le⟩⟩,by
  cases q:W1.g L with
  | none=>rfl
  | some z =>
   rcases x.gnew L z q with q' | q'
   ·rw [F.gL] at q'; cases q'
   ·exact absurd (ho.symm.trans q') (fun e=>by cases e),fun q=>(x.own' L q).elim F.oL fun z=>by rw [ho] at z; cases z⟩
end
section
structure Bs (w:World) (H0:Heap):Prop where
 kin:(KF w.params).In H0
 mg:∃ mg,H0.Ns mainGlobals mg
 mb:∃ mb,H0.Ns builtinsNs mb∧∀ x,x≠("__name__" : Str)→mb x=bootBuiltins x
 nolimit:H0.NoLimit
 sysm:∃ o,H0.get? sysModules=some o
noncomputable def Room (A:Around) (n:Nat):Prop:=(A.depth + 3 * n + 20≤1000∧A.handled=none)∧A.units + 30 * n + 1000≤9900
set_option genSizeOf false in
set_option genInjectivity false in
structure Cx where
 w:World
 H0:Heap
 n:Nat
 sc:Scope
 cv:List (Str×AVal)
abbrev KV:=AVal→AH→Prop
abbrev KVB:=Bool→AH→Prop
abbrev KVL:=List AVal→AH→Prop
abbrev KS:=Fl→Loc→AH→Prop
noncomputable def kdOf (x:Str):List (Str×NameKind)→Option NameKind
 | []=>none
 | (y,k) :: r=>bif sq x y then some k else kdOf x r
noncomputable def cOk (c:Nat):Bool:=Nat.blt 51 c && (atN c cTab).isSome
noncomputable def attOk (c:Nat) (x:Str):Bool:=attL.any (sq x) && (meth c x).isNone && cOk c
noncomputable def setNth:List AVal→Nat→AVal→Option (List AVal)
 | [],_,_=>none
 | _ :: r,0,u=>some (u :: r)
 | x :: r,n + 1,u=>(match setNth r n u with
  | some q=>some (x :: q)
  | none=>none)
noncomputable def isNone':AVal→Bool
 | .none=>true
 | _=>false
noncomputable def tvB:AVal→Option Bool
 | .bool b=>some b
 | .int i=>some (i != 0)
 | .none=>some false
 | _=>none
noncomputable def kdL:List (AVal×AVal):=[(.int 20,.int 0),(.int 9,.int 1),(.int 10,.int 2),(.int 11,.int 3),(.int 12,.int 4),(.int 13,.int 5),(.int 14,.int 6),(.int 15,.int 7),(.int 16,.int 8),(.int 17,.int 9),(.int 18,.int 10),(.int 19,.int 11),(.int 1,.int 12),(.int 4,.int 13)]
noncomputable def sumI:List Int→Int
 | []=>0
 | i :: r=>i + sumI r
noncomputable def isStar:Expr→Bool
 | .Starred ..=>true
 | _=>false
noncomputable def aOk (as:List Expr):Bool:=as.all (fun e=>!isStar e) && Nat.blt as.length 25
abbrev BaseOk (o:Expr) (n:Str):Prop:=∀ env m,attributeBase o n env m=m
abbrev SubOk (sl:Expr):Prop:=∀ o i,subscripted sl false o i=operate [o,i] (getItem o i)
abbrev SwapOk (e:Expr):Prop:=∀ t n env,swapsWith e t n env=pure false
abbrev IterOk (e:Expr):Prop:=∀ env x,foldedSetIterable e env x=pure x
noncomputable def dputs (acc:List (AVal×AVal)):List (AVal×AVal)→List (AVal×AVal)
 | []=>acc
 | (a,b) :: r=>dputs (dput a b acc) r
noncomputable def kdIs (x:Str) (k:NameKind) (l:List (Str×NameKind)):Bool:=kdOf x l == some k
noncomputable def scOk (sc:Scope) (x:Str) (d:Cx):Bool:=kdIs x .local sc.names && sc.names.all fun p=>match p.2 with
  | .local=>kdIs p.1 .local sc.names
  | .globalImplicit=>true
  | .free=>(lk p.1 d.cv).isSome
  | _=>false
noncomputable def reS (scope sc:Scope):Scope:={ scope with names:=scope.names.map fun p=>match p.2,kdOf p.1 sc.names with
 | .free,some .cell=>(p.1,.cell)
 | _,_=>p }
noncomputable def cvR (scope:Scope):List (Str×AVal)→List (Str×AVal)
 | []=>[]
 | (x,v) :: r=>bif kdIs x .free scope.names then (x,v) :: cvR scope r else cvR scope r
noncomputable def nameOf:Expr→Option Str
 | .Name x _=>some x
 | _=>none
noncomputable def tupE:Expr→Option (List Expr)
 | .Tuple es _ _=>some es
 | _=>none
noncomputable def tupV:AVal→Option (List AVal)
 | .tup l=>some l
 | _=>none
noncomputable def setN (c:Cx) (loc:Loc) (a:AVal):Option Str→Option Loc
 | some x=>bif kdIs x .local c.sc.names then some (lput x a loc) else none
 | none=>none
noncomputable def tgtL (c:Cx):List Expr→List AVal→Loc→Option Loc
 | [],[],loc=>some loc
 | t :: es,a :: l,loc=>(setN c loc a (nameOf t)).bind (tgtL c es l)
 | _,_,_=>none
noncomputable def tgtV (c:Cx) (t:Expr) (a:AVal) (loc:Loc):Option Loc:=match nameOf t with
 | some x=>setN c loc a (some x)
 | none=>(tupE t).bind fun es=>(tupV a).bind fun l=>tgtL c es l loc
noncomputable def upto:Nat→Nat→List AVal
 | 0,_=>[]
 | n + 1,i=>.int (.ofNat i) :: upto n (i + 1)
noncomputable def retOf:Fl→AVal
 | .ret v=>v
 | _=>.none
noncomputable def fBody (d:DP):Bool:=d.scope.names.all (fun p=>match p.2 with
 | .cell=>false
 | _=>true)
noncomputable def argN:List Arg→List AVal→Option Loc
 | [],[]=>some []
 | ⟨x,_,_⟩ :: r,a :: l=>(match argN r l with
  | some q=>some ((x,a) :: q)
  | none=>none)
 | _,_=>none
noncomputable def NoE:Value→Shared→Prop:=fun _ _=>False
noncomputable def PX {α β:Type} (c:Cx) (h:AH) (W:Wd) (s:Shared) (R:AH→Wd→α→β→Prop) (K:α→AH→Prop):β→Shared→Prop:=fun v s' =>
 ∃ av h' W',Ex all' h W s h' W' s' none∧Sat c.w.params c.H0 W' h' s'.heap∧R h' W' av v∧K av h'
abbrev RB:AH→Wd→Bool→Bool→Prop:=fun _ _ a b=>a=b
abbrev RU:AH→Wd→Unit→Unit→Prop:=fun _ _ _ _=>True
structure EnvOk (c:Cx) (L:Addr) (env:Env):Prop where
 sc:env.scope=c.sc
 loc:env.locals=L
 gl:env.globals=mainGlobals
 bl:env.builtins=builtinsNs
 kind:c.sc.kind = .function
noncomputable def CVs (c:Cx) (h:AH) (W:Wd) (env:Env):Prop:=∀ x v,lk x c.cv=some v→∃ a o u,env.cells.lookup x=some a∧W.g a=some o∧o.data = .cell (some u)∧VR h W v u
theorem CVs.mono {c:Cx} {h h':AH} {W W':Wd} {env:Env} (x:CVs c h W env) (l:Le h W h' W'):CVs c h' W' env:=fun y v e =>
 (x y v e).elim fun a z=>z.elim fun o z=>z.elim fun u z=>⟨a,o,u,z.1,l.g _ _ z.2.1,z.2.2.1,z.2.2.2.mono l⟩
structure Md (c:Cx) (h:AH) (W:Wd) (s:Shared) (A:Around):Prop where
 b:Bs c.w c.H0
 sat:Sat c.w.params c.H0 W h s.heap
 r:Room A (c.n + 1)
 u:A.units + 300 < 9900
structure At (c:Cx) (loc:Loc) (h:AH) (W:Wd) (s:Shared) (L:Addr) (env:Env) (A:Around):Prop where
 m:Md c h W s A
 e:EnvOk c L env
 f:FrR W h s.heap L loc
 cv:CVs c h W env
section
variable {α β:Type} {c:Cx} {loc loc1:Loc} {h h1:AH} {W W1:Wd} {s s1:Shared} {L:Addr} {env:Env} {A:Around} {R:AH→Wd→α→β→Prop} {K K1:α→AH→Prop}
theorem Md.hh (m:Md c h W s A):A.handled=none:=m.r.1.2
theorem Md.step (m:Md c h W s A) (S:Sat c.w.params c.H0 W1 h1 s1.heap):Md c h1 W1 s1 A:=⟨m.b,S,m.r,m.u⟩
theorem At.step (a:At c loc h W s L env A) (x:Ex all' h W s h1 W1 s1 none) (S:Sat c.w.params c.H0 W1 h1 s1.heap):At c loc h1 W1 s1 L env A :=
 ⟨a.m.step S,a.e,a.f.step x,a.cv.mono x.le⟩
theorem At.hkd (a:At c loc h W s L env A) (x:Str):env.kindOf x=c.sc.names.lookup x:=by rw [← a.e.sc]; rfl
theorem At.hkf (a:At c loc h W s L env A):env.scope.kind = .function:=by rw [a.e.sc]; exact a.e.kind
theorem PX.after {v:β} {s':Shared} (x:Ex all' h W s h1 W1 s1 none) (y:PX c h1 W1 s1 R K v s'):PX c h W s R K v s' :=
 y.elim fun av y=>y.elim fun h' y=>y.elim fun W' y=>⟨av,h',W',x.trans y.1,y.2⟩
theorem PX.here {v:β} {av:α} (S:Sat c.w.params c.H0 W h s.heap) (r:R h W av v) (k:K av h):PX c h W s R K v s:=⟨av,h,W,Ex.refl ..,S,r,k⟩
theorem PX.tok {v:β} {av:α} {n:Nat} (S:Sat c.w.params c.H0 W h s.heap) (r:R h W av v) (k:K av h):PX c h W s R K v { s with toks:=n }:=⟨av,h,W,Ex.toks,S,r,k⟩
theorem PX.bind {M:Model} {E:Value→Shared→Prop} {m:Sem β} {f:β→Shared→Prop}
  (x:wpAny M A m (PX c h W s R K1) NoE s) (y:∀ v s1 av h1 W1,Ex all' h W s h1 W1 s1 none→Sat c.w.params c.H0 W1 h1 s1.heap→R h1 W1 av v→K1 av h1→f v s1):wpAny M A m f E s :=
 wpAny_mono x (fun v s1 z=>z.elim fun av z=>z.elim fun h1 z=>z.elim fun W1 z=>y v s1 av h1 W1 z.1 z.2.1 z.2.2.1 z.2.2.2) fun _ _ e=>e.elim
theorem PX.up {M:Model} {m:Sem β} {s2:Shared} (X:Ex all' h W s h1 W1 s1 none)
  (x:wpAny M A m (PX c h1 W1 s1 R K) NoE s2):wpAny M A m (PX c h W s R K) NoE s2 :=
 wpAny_mono x (fun _ _ p=>PX.after X p) fun _ _ e=>e
end
@[irreducible] def Wp {α:Type} (c:Cx) (A:Around) (t:Sem α) (Q:α→Shared→Prop) (E:Value→Shared→Prop) (s:Shared):Prop:=wpAny (model pw c.w) A t Q E s
section
variable {α:Type} {c:Cx} {A:Around} {t:Sem α} {Q:α→Shared→Prop} {E:Value→Shared→Prop} {s:Shared}
theorem Wp.i (x:wpAny (model pw c.w) A t Q E s):Wp c A t Q E s:=by unfold Wp; exact x
theorem Wp.o (x:Wp c A t Q E s):wpAny (model pw c.w) A t Q E s:=by unfold Wp at x; exact x
end
def E (c:Cx) (loc:Loc) (e:Expr) (h:AH) (K:KV):Prop:=∀ W s L env A,At c loc h W s L env A→Wp c A (eval e env) (PX c h W s VR K) NoE s
def T (c:Cx) (loc:Loc) (e:Expr) (h:AH) (K:KVB):Prop:=∀ W s L env A,At c loc h W s L env A→Wp c A (isTrue e env (eval e env)) (PX c h W s RB K) NoE s
def GA (v:AVal) (x:Str) (h:AH) (K:KV):Prop:=∀ c W s A u b,Md c h W s A→VR h W v u→Wp c A (getAttr u x b) (PX c h W s VR K) NoE s
def SA (v:AVal) (x:Str) (u:AVal) (h:AH) (K:AH→Prop):Prop:=∀ c W s A v' y,Md c h W s A→VR h W v v'→VR h W u y→Wp c A (setAttr v' x y) (PX c h W s RU fun _=>K) NoE s
def GI (v k:AVal) (h:AH) (K:KV):Prop:=∀ c W s A v' i sl value,SubOk sl→Md c h W s A→VR h W v v'→VR h W k i→Wp c A (subscriptTail value sl v' i) (PX c h W s VR K) NoE s
def SI (v k u:AVal) (h:AH) (K:AH→Prop):Prop:=∀ c W s A v' i y,Md c h W s A→VR h W v v'→VR h W k i→VR h W u y→Wp c A (setItem v' i y) (PX c h W s RU fun _=>K) NoE s
def BI (op:Operator) (a b:AVal) (h:AH) (K:KV):Prop:=∀ c W s A v u,Md c h W s A→VR h W a v→VR h W b u→Wp c A (binaryOp op v u) (PX c h W s VR K) NoE s
def AU (op:Operator) (a b:AVal) (h:AH) (K:KV):Prop:=∀ c W s A v u,Md c h W s A→VR h W a v→VR h W b u→Wp c A (inplaceOp op v u) (PX c h W s VR K) NoE s
def CM (op:CmpOp) (a b:AVal) (h:AH) (K:KV):Prop:=∀ c W s A v u,Md c h W s A→VR h W a v→VR h W b u→Wp c A (compareOp op v u) (PX c h W s VR K) NoE s
def TV (v:AVal) (h:AH) (K:KVB):Prop:=∀ c W s A u,Md c h W s A→VR h W v u→Wp c A (truthy u) (PX c h W s RB K) NoE s
def CF (w:World) (H0:Heap) (n:Nat) (a:Nat) (args:List AVal) (h:AH) (K:KV):Prop :=
 (atN a fTab).isSome=true∧(Bs w H0→∀ (W:Wd) (s:Shared) (A:Around) (cs:List Value),Sat w.params H0 W h s.heap→VRs h W args cs→Room A n →
  codeAny (model pw w) A (.call (.ref a) ⟨cs,[]⟩) (fun r s'=>∃ v,r = .ok (.ret v)∧PX ⟨w,H0,n,default,[]⟩ h W s VR K v s') s)
noncomputable def lenO:AObj→Nat
 | .list l=>l.length
 | .dict l=>l.length
 | .inst _ _=>1000001
def NO (o:AObj) (h:AH) (K:KV):Prop:=lenO o≤1000000∧∃ n,h n=none∧K (.ref n) (hset h n o)
def VI (b:Bool) (x y:Prop):Prop:=(b=true→x)∧(b=false→y)
end
section
theorem Sat.old {w:World} {H0:Heap} {W:Wd} {h:AH} {hp:Heap} (S:Sat w.params H0 W h hp):∀ a o,H0.get? a=some o→hp.get? a=some o:=fun a o e=>S.keep a o (S.stat a o e)
theorem Sat.kin {w:World} {H0:Heap} {W:Wd} {h:AH} {hp:Heap} (S:Sat w.params H0 W h hp) (B:Bs w H0):(KF w.params).In hp:=B.kin.keeps S.old
theorem sq_beq (x y:Str):sq x y=(x == y):=by
 rw [Bool.eq_iff_iff,beq_iff_eq]; exact sq_iff
theorem kdOf_eq (x:Str):∀ l:List (Str×NameKind),kdOf x l=l.lookup x
 | []=>rfl
 | (y,k) :: r=>by
  rw [List.lookup_cons,← sq_beq,← kdOf_eq x r]
  show (bif sq x y then some k else kdOf x r)=_
  cases sq x y <;> rfl
theorem kdIs_eq {x:Str} {k:NameKind} {l:List (Str×NameKind)} (e:kdIs x k l=true):l.lookup x=some k:=by
 rw [← kdOf_eq]; exact beq_iff_eq.mp e
theorem seqOf_ok {d:Data} {xs:Array Value} (e:seqOf d=some xs):d = .seq xs 0:=by
 cases d with
 | seq ys n=>cases n with
  | zero=>exact congrArg (Data.seq · 0) (Option.some.inj e)
  | succ n=>exact nos e
 | _=>exact nos e
theorem tupIn_ok {o:Option Obj} {xs:Array Value} (e:tupIn o=some xs):o=some (tupObj xs.toList):=by
 cases o with
 | none=>exact nos e
 | some o =>
  replace e:(bif o.cls == .type "tuple" && (o.dict.isNone && o.slots.isEmpty) then seqOf o.data else none)=some xs:=e
  cases q:(o.cls == .type "tuple" && (o.dict.isNone && o.slots.isEmpty)) with
  | false=>rw [q] at e; exact nos e
  | true =>
   rw [q] at e
   have x:=Bool.and_eq_true_iff.mp q
   have y:=Bool.and_eq_true_iff.mp x.2
   obtain ⟨c,d,b,s⟩:=o
   rw [show c=_ from beq_iff_eq.mp x.1,show d=none from Option.isNone_iff_eq_none.mp y.1,show b=_ from seqOf_ok e,show s = #[] from Array.isEmpty_iff.mp y.2]
theorem gv0_ok {W:Wd} {h:AH} {a:AVal} {v:Value} (e:gv0 a v=true):VR h W a v:=by
 cases a <;> first | exact beq_iff_eq.mp e | exact ⟨_,beq_iff_eq.mp e⟩ | exact absurd e Bool.false_ne_true
theorem gvs_ok {W:Wd} {h:AH}:∀ {l:List AVal} {r:List Value},gvs l r=true→VRs h W l r
 | [],[],_=>.nil
 | [],_ :: _,e=>nomatch e
 | _ :: _,[],e=>nomatch e
 | _ :: _,_ :: _,e=>have x:=Bool.and_eq_true_iff.mp e; .cons (gv0_ok x.1) (gvs_ok x.2)
theorem gv_of {P:Params} {W:Wd} {h:AH} (k:∀ b o,(KF P).lookup b=some o→W.g b=some o) {a:AVal} {v:Value} (e:gvOk P a v=true):VR h W a v:=by
 cases a with
 | tup l =>
  have x:=Bool.and_eq_true_iff.mp e
  have y:=x.2
  rw [beq_iff_eq.mp x.1]
  cases q:tupIn ((KF P).lookup (adOf v)) with
  | none=>rw [q] at y; exact ft y
  | some xs=>rw [q] at y; exact VR.tup (k _ _ (tupIn_ok q)) (gvs_ok y)
 | _=>exact gv0_ok e
theorem glob_ok {w:World} {H0:Heap} {W:Wd} {h:AH} {hp:Heap} (S:Sat w.params H0 W h hp) (B:Bs w H0) {x:Str} {v:AVal} (e:glob x=some v):∃ c,nsIn (KF w.params) mainGlobals x=some (some c)∧VR h W v c:=by
 refine (Option.map_eq_some_iff.mp e).elim fun r m=>?_
 have q:=List.all_eq_true.mp (g_rows w.params) _ (List.mem_of_find?_eq_some m.1)
 have z:(Nat.beq (Fast.code x.cps.toList % 4294967291) r.1 && sq x r.2.1)=true:=by exact List.find?_some (p:=fun r:Nat×Str×AVal=>Nat.beq (Fast.code x.cps.toList % 4294967291) r.1 && sq x r.2.1) m.1
 replace z:=sq_iff.mp (Bool.and_eq_true_iff.mp z).2
 rw [m.2,← z] at q
 cases y:nsIn (KF w.params) mainGlobals x with
 | none=>rw [y] at q; exact absurd q Bool.false_ne_true
 | some y'=>cases y' with
  | none=>rw [y] at q; exact absurd q Bool.false_ne_true
  | some c=>rw [y] at q; exact ⟨c,rfl,gv_of (fun b o e=>S.stat _ _ (B.kin _ _ e)) q⟩
theorem glob_find {c:Cx} {loc:Loc} {h:AH} {W:Wd} {s:Shared} {L:Addr} {env:Env} {A:Around} {x:Str} {v:AVal} {M:Model} {Q E:Value→Shared→Prop} {p:Pos} (a:At c loc h W s L env A) (hd:sq x "__debug__" = false) (hk:kdOf x c.sc.names=some .globalImplicit) (hg:glob x=some v) (k:∀ u,VR h W v u→Q u s) :
  wpAny (model pw c.w) A (eval (.Name x p) env) Q E s:=by
 rw [sq_beq] at hd
 rw [kdOf_eq] at hk
 refine (glob_ok a.m.sat a.m.b hg).elim fun u y=>a.m.b.mg.elim fun mg hmg=>?_
 exact Calls.Name_function_global a.hkf ((a.hkd x).trans hk) (Calls.loadGlobal_global (mg:=mg) (by rw [a.e.gl]; exact hmg.keeps a.m.sat.old) (mg_of a.m.b.kin hmg y.1) (k u y.2)) hd
section
variable {c:Cx} {loc:Loc} {h:AH} {K:KV} {p:Pos} {x:Str} {v:AVal}
theorem e_int {i:Int} {j:Nat} (k:K (.int i) h):E c loc (.Constant (.int i) j p) h K:=fun _ _ _ _ _ a=>.i fun _ _ _=>PX.tok a.m.sat (.int _ _) k
theorem e_str {j:Nat} (k:K (.str x) h):E c loc (.Constant (.str x) j p) h K:=fun _ _ _ _ _ a=>.i fun _ _ _=>PX.tok a.m.sat (.str _ _) k
theorem e_bool {i:Bool} {j:Nat} (k:K (.bool i) h):E c loc (.Constant (.bool i) j p) h K:=fun _ _ _ _ _ a=>.i <| wpAny_pure (PX.here a.m.sat (.bool _) k)
theorem e_none {j:Nat} (k:K .none h):E c loc (.Constant .none j p) h K:=fun _ _ _ _ _ a=>.i <| wpAny_pure (PX.here a.m.sat .none k)
theorem e_local (h1:(sq x "__debug__",kdOf x c.sc.names)=(false,some .local)) (h2:lk x loc=some v) (k:K v h):E c loc (.Name x p) h K:=fun W s L env A a=>.i <| by
 have hd:(x == "__debug__")=false:=(sq_beq ..).symm.trans (congrArg Prod.fst h1)
 have hk:=(kdOf_eq x _).symm.trans (congrArg Prod.snd h1)
 refine a.f.ns.elim fun m y=>(y.2 x v h2).elim fun u z=>?_
 exact wpAny_Name (wpAny_loadName_local a.hkf ((a.hkd x).trans hk) (by rw [a.e.loc]; exact y.1) z.1 (PX.here a.m.sat z.2 k)) hd
theorem e_glob (h1:(sq x "__debug__",kdOf x c.sc.names)=(false,some .globalImplicit)) (h2:glob x=some v) (k:K v h):E c loc (.Name x p) h K:=fun W s L env A a=>.i <|
 glob_find (M:=model pw c.w) a (congrArg Prod.fst h1) (congrArg Prod.snd h1) h2 fun _ r=>PX.here a.m.sat r k
theorem e_cell (h1:(sq x "__debug__",kdOf x c.sc.names)=(false,some .cell)) (h2:lk x c.cv=some v) (k:K v h):E c loc (.Name x p) h K:=fun W s L env A a=>.i <| by
 have hd:(x == "__debug__")=false:=(sq_beq ..).symm.trans (congrArg Prod.fst h1)
 have hk:=(kdOf_eq x _).symm.trans (congrArg Prod.snd h1)
 refine (a.cv x v h2).elim fun a1 y=>y.elim fun o y=>y.elim fun u y=>?_
 exact wpAny_Name (wpAny_loadName_cell a.hkf ((a.hkd x).trans hk) y.1 ⟨o,a.m.sat.keep _ _ y.2.1,y.2.2.1⟩ (PX.here a.m.sat y.2.2.2 k)) hd
end
end
section
theorem atN_mem {α:Type} (k:Nat) {v:α} {l:List (Nat×α)} (e:atN k l=some v):(k,v)∈l:=by
 refine (Option.map_eq_some_iff.mp e).elim fun r m=>?_
 have z:Nat.beq k r.1=true:=List.find?_some (p:=fun r:Nat×α=>Nat.beq k r.1) m.1
 rw [Nat.eq_of_beq_eq_true z,← m.2]
 exact List.mem_of_find?_eq_some m.1
theorem cOk_mem {c:Nat} (e:cOk c=true):∃ l,(c,l)∈cTab.drop 2:=by
 have x:=Bool.and_eq_true_iff.mp e
 refine (Option.isSome_iff_exists.mp x.2).elim fun l hl=>⟨l,?_⟩
 have m:=atN_mem c hl
 have h2:cTab=[(38,cTab.head!.2),(51,(cTab.drop 1).head!.2)] ++ cTab.drop 2:=rfl
 rw [h2] at m
 have lt:=Nat.le_of_ble_eq_true x.1
 rcases List.mem_append.mp m with q | q
 ·rcases List.mem_cons.mp q with q | q
  ·rw [show c=38 from congrArg Prod.fst q] at lt; exact absurd lt (by decide)
  ·rw [show c=51 from congrArg Prod.fst (List.mem_singleton.mp q)] at lt; exact absurd lt (by decide)
 ·exact q
theorem any_sq {x:Str} {l:List Str} (e:l.any (sq x)=true):x∈l :=
 (List.any_eq_true.mp e).elim fun y z=>by rw [sq_iff.mp z.2]; exact z.1
theorem find_meth (P:Params) {c:Nat} {x:Str} (e:cOk c=true) (m:attL.any (sq x)=true):findIn (KF P) (.ref c) x=some ((meth c x).map Value.ref) :=
 (cOk_mem e).elim fun _ q=>beq_iff_eq.mp (List.all_eq_true.mp (List.all_eq_true.mp (c_rows P) _ q) _ (any_sq m))
structure CFacts (P:Params) (c:Nat):Prop where
 make:makesIn (KF P) c=true
 over:plainOver (KF P) c=true
 dict:hasDictIn (KF P) c=true
 get:plainGet (KF P) c "" = true
 set:findIn (KF P) (.ref c) "__setattr__" = some (some (.builtin "object.__setattr__"))
theorem c_facts (P:Params) {c:Nat} (e:cOk c=true):CFacts P c :=
 (cOk_mem e).elim fun _ q=>have a:=Bool.and_eq_true_iff.mp (List.all_eq_true.mp (c_make P) _ q); have b:=Bool.and_eq_true_iff.mp a.1; have d:=Bool.and_eq_true_iff.mp b.1; have f:=Bool.and_eq_true_iff.mp d.1
  ⟨f.1,f.2,d.2,b.2,beq_iff_eq.mp a.2⟩
theorem VR.handed {h:AH} {W:Wd} {a:AVal} {v:Value} (x:VR h W a v):handedIn v=true:=by
 cases a with
 | int i=>exact x.elim fun _ e=>by rw [e]; rfl
 | str i=>exact x.elim fun _ e=>by rw [e]; rfl
 | tup l=>exact x.elim fun _ y=>y.elim fun _ y=>by rw [y.1]; rfl
 | sl l=>exact x.elim fun _ y=>y.elim fun _ y=>y.elim fun _ y=>y.elim fun _ y=>by rw [y.1]; rfl
 | ref n=>rw [x.2]; rfl
 | _=>rw [show v=_ from x]; rfl
theorem isStr_sq (x y:Str) (t:Tok):(Value.str x t).isStr y=sq y x:=by
 show (x == y)=sq y x
 rw [Bool.eq_iff_iff,beq_iff_eq,sq_iff]; exact eq_comm
theorem getL_cons {P:Params} {x y:Str} {t:Tok} {c:Value} {es:List DictEntry}:getL x (⟨PyData.keyHash P y,.str y t,c⟩ :: es)=bif sq x y then some (some c) else getL x es:=by
 unfold getL
 rw [List.find?_cons,show ((⟨PyData.keyHash P y,.str y t,c⟩ : DictEntry)).key.isStr x=sq x y from isStr_sq _ _ _]
 cases sq x y with
 | true=>rfl
 | false=>simp only [List.any_cons,DictEntry.refKey,Bool.false_or]; rfl
theorem ER.find {P:Params} {h:AH} {W:Wd} (x:Str):∀ {fs es},ER P h W fs es→(∀ u,lk x fs=some u→∃ c,getL x es=some (some c)∧VR h W u c)∧(lk x fs=none→getL x es=some none)
 | [],_,r=>by rw [show _=[] from r]; exact ⟨fun u e=>nos e,fun _=>rfl⟩
 | (y,v) :: fs,es,r=>r.elim fun t r=>r.elim fun c r=>r.elim fun es' r=>by
  rw [r.1,getL_cons]
  show (∀ u,(bif sq x y then some v else lk x fs)=some u→_)∧((bif sq x y then some v else lk x fs)=none→_)
  cases sq x y with
  | true=>exact ⟨fun u e=>⟨c,rfl,(Option.some.inj e) ▸ r.2.1⟩,fun e=>son e⟩
  | false=>exact ER.find x r.2.2
theorem ER.length {P:Params} {h:AH} {W:Wd}:∀ {fs es},ER P h W fs es→fs.length=es.length
 | [],_,r=>by rw [show _=[] from r]; rfl
 | _ :: _,_,r=>r.elim fun t r=>r.elim fun c r=>r.elim fun es' r=>by rw [r.1]; exact congrArg (· + 1) r.2.2.length
theorem ER.put {P:Params} {h:AH} {W:Wd} {x:Str} {u:AVal} {t:Tok} {c:Value} (hu:VR h W u c):∀ {fs es},ER P h W fs es→ER P h W (lput x u fs) (putL x (PyData.keyHash P x) (.str x t) c es)
 | [],_,r=>by rw [show _=[] from r]; exact ⟨t,c,[],rfl,hu,rfl⟩
 | (y,v) :: fs,es,r=>r.elim fun t' r=>r.elim fun c' r=>r.elim fun es' r=>by
  rw [r.1,putL,show ((⟨PyData.keyHash P y,.str y t',c'⟩ : DictEntry)).key.isStr x=sq x y from isStr_sq _ _ _]
  show ER P h W (bif sq x y then (y,u) :: fs else (y,v) :: lput x u fs) _
  cases sq x y with
  | true=>exact ⟨t',c,es',rfl,hu,r.2.2⟩
  | false=>exact ⟨t',c',_,rfl,r.2.1,ER.put hu r.2.2⟩
theorem lput_len (x:Str) (u:AVal):∀ fs:List (Str×AVal),(lput x u fs).length≤fs.length + 1
 | []=>Nat.le_refl _
 | (y,v) :: r=>by
  show (bif sq x y then (y,u) :: r else (y,v) :: lput x u r).length≤_
  cases sq x y with
  | true=>exact Nat.le_succ _
  | false=>exact Nat.succ_le_succ (lput_len x u r)
section
variable {P:Params} {H0:Heap} {W:Wd} {h:AH} {hp:Heap} {n:Nm} {d:Nat} {fs:List (Str×AVal)} {c:Cx} {s:Shared} {A:Around} {x:Str} {u:AVal}
structure IAt (P:Params) (h:AH) (W:Wd) (hp:Heap) (n:Nm) (d:Nat) (fs:List (Str×AVal)) (es:List DictEntry) (k:Nat):Prop where
 i:InstAt hp (W.ad n false) (instObj d (W.ad n true)) d (some (PySem.W.dictOf es k))
 d:hp.get? (W.ad n true)=some (PySem.W.dictOf es k)
 r:ER P h W fs es
 l:fs.length≤900
theorem Sat.inst (S:Sat P H0 W h hp) (hn:h n=some (.inst d fs)):∃ es k,IAt P h W hp n d fs es k :=
 have z:=S.obj n _ hn; z.2.elim fun es y=>y.elim fun k y=>⟨es,k,⟨z.1,rfl,rfl,y.1⟩,y.1,y.2.1,y.2.2⟩
theorem attOk_ok (e:attOk d x=true):(CFacts P d)∧findIn (KF P) (.ref d) x=some none:=by
 have a:=Bool.and_eq_true_iff.mp e
 have b:=Bool.and_eq_true_iff.mp a.1
 have f:=find_meth P a.2 b.1
 rw [Option.isNone_iff_eq_none.mp b.2] at f
 exact ⟨c_facts P a.2,f⟩
theorem ga {K:KV} (hn:h n=some (.inst d fs)) (h1:attOk d x=true) (h2:lk x fs=some u) (k:K u h):GA (.ref n) x h K:=fun c W s A v b M r=>.i <| by
 rw [r.2]
 refine (M.sat.inst hn).elim fun es y=>y.elim fun ep y=>(y.r.find x).1 u h2 |>.elim fun w' z=>?_
 have F:=attOk_ok (P:=c.w.params) h1
 exact get_value (M.sat.kin M.b) y.i (plainGet_of F.1.get).1 (findObj_own F.1.dict F.2 rfl z.1) z.2.handed (PX.tok M.sat z.2 k)
end
end
section
theorem u_201 {a:Nat} (h:a + 300 < 9900):a + 1 + 200 < 9900:=by omega
theorem i63 {m:Nat} (h:m≤1000000):(m:Int) < 2 ^ 63:=Int.lt_of_le_of_lt (Int.ofNat_le.mpr h) (by decide)
section
variable {prog:Program} {w:World} {A:Around} {E:Value→Shared→Prop} {s:Shared} {K:Frag} {x C dx:Addr} {name:Str} {v:Value} {es:List DictEntry} {n:Nat}
theorem store_own {R:Result→Shared→Prop} {tk:Tok} (X:K.In s.heap) (I:InstAt s.heap x (instObj C dx) C (some (PySem.W.dictOf es n))) (hp:plainOver K C=true) (ht:takerIn K C name=some none) (hh:hasDictIn K C=true)
  (hl:(getL name es).isSome=true) (hz:(putL name (PyData.keyHash w.params name) (.str name s.toks) v es).length≤1000)
  (h:R (.ok (.ret .none)) { s with heap:=s.heap.update dx (Obj.putName name (PyData.keyHash w.params name) (.str name s.toks) v),toks:=s.toks + 1 }) :
  codeAny (model prog w) A (.call (.builtin "object.__setattr__") ⟨[.ref x,.str name tk,v],[]⟩) R s:=by
 refine osa_open X I hp ht fun b=>?_
 obtain ⟨cd,hc,hd'⟩:=any_some hh
 have D:s.heap.get? dx=some (PySem.W.dictOf es n):=I.dict
 have D':(s.heap.update dx (Obj.putName name (PyData.keyHash w.params name) (.str name s.toks) v)).get? dx=some (PySem.W.dictOf (putL name (PyData.keyHash w.params name) (.str name s.toks) v es) (putN name es n)):=by
  rw [Heap.get?_update_self _ D (by rw [putName_dict]; rfl),putName_dict]
 refine wpAny_bind (wpAny_pure (wpAny_bind (wpAny_bind (wpAny_loadPart I.at_ (wpAny_bind ((looks_clsIn X hc).here ?_))))))
 rw [hd']
 refine wpAny_pure (a:=some dx) (wpAny_bind (wpAny_pure (wpAny_bind ?_)))
 unfold nsSet
 refine wpAny_bind (wpAny_bind (wpAny_askSetting (wpAny_pure (wpAny_bind (wpAny_mkText (wpAny_bind (wpAny_loadPart D ?_)))))))
 dsimp only [PySem.W.dictOf]
 have c:(!es.toArray.any (·.key.isStr name) && es.toArray.any (·.refKey))=false:=by
  unfold getL at hl
  rw [List.any_toArray,List.any_toArray]
  split at hl
  ·rename_i en he
   rw [List.any_eq_true.mpr ⟨en,List.mem_of_find?_eq_some he,List.find?_some he⟩]; rfl
  ·split at hl
   ·cases hl
   ·rename_i z; rw [Bool.not_eq_true] at z; rw [z,Bool.and_false]
 rw [aRefKeyMayBeTheName_at,c]
 refine wpAny_updatePart D ?_
 refine wpAny_bind (wpAny_lookBehind D' (pastItsLine_dict (by rw [List.size_toArray,sizeLine_eq]; omega)) ?_)
 exact wpAny_pure h
end
section
variable {h:AH} {W:Wd} {s:Shared} {P:Params} {H0:Heap}
theorem upd_ex {n:Nm} {o':AObj} {hp':Heap} {tk:Nat} (S:Sat P H0 W h s.heap) (kd:∀ b,has (hset h n o') n b=has h n b) (k:∀ a o,(∀ b,has h n b=true→a≠W.ad n b)→s.heap.get? a=some o→hp'.get? a=some o) (sz:∀ b,has h n b=true→(hp'.get? (W.ad n b)).isSome=true)
  (x:OR P (hset h n o') W hp' n o'):Sat P H0 W (hset h n o') hp'∧Le h W (hset h n o') W∧Ex all' h W s (hset h n o') W { s with heap:=hp',toks:=tk } none:=by
 have U:=S.upd kd k x
 have hk:∀ m b,has (hset h n o') m b=has h m b:=fun m b=>(nm_cases m n).elim (fun e=>by rw [e]; exact kd b) fun e=>has_ne e
 refine ⟨U.1,U.2,fun _ _ e=>e,fun m b _ e=>U.2.ad m b e,fun a o e=>?_,fun a o e na _=>k a o (fun b hb q=>na ⟨n,b,hb,q⟩) e,fun a z=>z.elim fun m z=>z.elim fun b z=>.inl ⟨m,b,(hk m b).symm.trans z.1,z.2⟩,fun _ _ e=>.inl e,rfl,rfl⟩
 show (hp'.get? a).isSome=true
 by_cases q:∃ b,has h n b=true∧a=W.ad n b
 ·exact q.elim fun b z=>by rw [z.2]; exact sz b z.1
 ·rw [k a o (fun b hb z=>q ⟨b,hb,z⟩) e]; rfl
end
section
variable {h:AH} {n:Nm} {d:Nat} {fs:List (Str×AVal)} {x:Str} {u:AVal} {K:AH→Prop}
theorem sa (hn:h n=some (.inst d fs)) (h1:attOk d x=true) (h2:Nat.blt fs.length 900=true) (k:K (hset h n (.inst d (lput x u fs)))):SA (.ref n) x u h K:=fun c W s A v y M r q=>.i <| by
 rw [r.2]
 refine (M.sat.inst hn).elim fun es z=>z.elim fun ep z=>?_
 have F:=attOk_ok (P:=c.w.params) h1
 have hl:(getL x es).isSome=true:=by
  cases e:lk x fs with
  | none=>rw [(z.r.find x).2 e]; rfl
  | some u'=>exact ((z.r.find x).1 u' e).elim fun w' e=>by rw [e.1]; rfl
 have R':=ER.put (x:=x) (t:=s.toks + 1) q z.r
 have len:(lput x u fs).length≤900:=Nat.le_trans (lput_len x u fs) (Nat.le_of_ble_eq_true h2)
 have X:=M.sat.kin M.b
 refine set_plain X z.i F.1.set (store_own X z.i F.1.over (by unfold takerIn; rw [F.2]; rfl) F.1.dict hl (by rw [← R'.length]; omega) ?_)
 have D':(s.heap.update (W.ad n true) (Obj.putName x (PyData.keyHash c.w.params x) (.str x (s.toks + 1)) y)).get? (W.ad n true)=some (PySem.W.dictOf (putL x (PyData.keyHash c.w.params x) (.str x (s.toks + 1)) y es) (putN x es ep)):=by
  rw [Heap.get?_update_self _ z.d (by rw [putName_dict]; rfl),putName_dict]
 have kd:∀ b,has (hset h n (.inst d (lput x u fs))) n b=has h n b:=fun b=>by
  cases b <;> simp [has,hset_self,hn]
 have ne:W.ad n false≠W.ad n true:=fun e=>Bool.noConfusion (M.sat.inj n false n true (has_some hn) (has_inst hn) e).2
 have at0:(s.heap.update (W.ad n true) (Obj.putName x (PyData.keyHash c.w.params x) (.str x (s.toks + 1)) y)).get? (W.ad n false)=some (instObj d (W.ad n true)):=(Heap.get?_update_ne _ _ _ _ ne).trans z.i.at_
 have le:Le h W (hset h n (.inst d (lput x u fs))) W:=⟨fun _ _ e=>e,fun m b e=>⟨(nm_cases m n).elim (fun q=>by rw [q] at e ⊢; rw [kd]; exact e) fun q=>by rw [has_ne q]; exact e,rfl⟩⟩
 have U:=upd_ex (tk:=s.toks + 1 + 1) M.sat kd (fun a ob na e=>(Heap.get?_update_ne _ _ _ _ (na true (has_inst hn))).trans e) (fun b _=>by
  cases b with
  | false=>rw [at0]; rfl
  | true=>rw [D']; rfl) ⟨at0,_,_,D',R'.mono le,len⟩
 exact ⟨(),_,W,U.2.2,U.1,trivial,k⟩
theorem hset_at {o:AObj}:hset h n o n=some o:=hset_self h n o
theorem hset_hset {o o':AObj}:hset (hset h n o) n o'=hset h n o':=funext fun m=>by
 rcases nm_cases m n with e | e
 ·rw [e,hset_self,hset_self]
 ·rw [hset_ne e,hset_ne e,hset_ne e]
theorem sa2 (h1:attOk d x=true) (h2:Nat.blt fs.length 900=true) (k:K (hset h n (.inst d (lput x u fs)))):SA (.ref n) x u (hset h n (.inst d fs)) K:=sa hset_at h1 h2 (by rw [hset_hset]; exact k)
end
end
section
structure PlainOk (x:PyData):Prop where
 lay:x.canLay0=true
 mix:∀ y,plainD y=true→noMix x y=true
 eq:∀ y,pq x y=true→x=y
 refl:pq x x=true
structure PlainsOk (x:List PyData):Prop where
 lay:PyData.canLayAll0 x=true
 mix:∀ y,plainL y=true→noMixAll x y=true
 eq:∀ y,pqL x y=true→x=y
 refl:pqL x x=true
theorem any_some {α:Type} {o:Option α} {p:α→Bool} (e:o.any p=true):∃ x,o=some x∧p x=true:=by
 cases o with
 | none=>exact ft e
 | some x=>exact ⟨x,rfl,e⟩
theorem intD_ok {y:PyData} {i:Int} (e:intD y=some i):y = .int i:=by
 cases y <;> first | exact nos e | exact congrArg _ (Option.some.inj e)
theorem strD_ok {y:PyData} {i:Str} (e:strD y=some i):y = .str i:=by
 cases y <;> first | exact nos e | exact congrArg _ (Option.some.inj e)
theorem listD_ok {y:PyData} {i:List PyData} (e:listD y=some i):y = .list i:=by
 cases y <;> first | exact nos e | exact congrArg _ (Option.some.inj e)
theorem tupD_ok {y:PyData} {i:List PyData} (e:tupD y=some i):y = .tuple i:=by
 cases y <;> first | exact nos e | exact congrArg _ (Option.some.inj e)
theorem isND_ok {y:PyData} (e:isND y=true):y = .none:=by
 cases y <;> first | rfl | exact ft e
theorem plain_none:PlainOk .none:=⟨rfl,fun y h=>by cases y <;> rfl,fun y e=>(isND_ok e).symm,rfl⟩
theorem plain_int (a:Int):PlainOk (.int a):=⟨rfl,fun y h=>by cases y <;> first | rfl | exact ft h,fun y e=>(any_some e).elim fun x z=>by rw [intD_ok z.1,of_decide_eq_true z.2],decide_eq_true rfl⟩
theorem plain_str (a:Str) (h:PyData.strOk a=true):PlainOk (.str a):=⟨h,fun y h=>by cases y <;> rfl,fun y e=>(any_some e).elim fun x z=>by rw [strD_ok z.1,sq_iff.mp z.2],sq_iff.mpr rfl⟩
theorem plain_list {l:List PyData} (k:PlainsOk l):PlainOk (.list l):=⟨k.lay,fun y h=>by cases y <;> first | rfl | exact k.mix _ h,fun y e=>(any_some e).elim fun x z=>by rw [listD_ok z.1,k.eq _ z.2],k.refl⟩
theorem plain_tup {l:List PyData} (k:PlainsOk l):PlainOk (.tuple l):=⟨k.lay,fun y h=>by cases y <;> first | rfl | exact k.mix _ h,fun y e=>(any_some e).elim fun x z=>by rw [tupD_ok z.1,k.eq _ z.2],k.refl⟩
theorem plain_nil:PlainsOk []:=⟨rfl,fun y _=>by cases y <;> rfl,fun y e=>(List.isEmpty_iff.mp e).symm,rfl⟩
theorem plain_cons {x:PyData} {l:List PyData} (a:PlainOk x) (k:PlainsOk l):PlainsOk (x :: l) :=
 ⟨by rw [PyData.canLayAll0,a.lay,k.lay]; rfl,fun y h=>by
  cases y with
  | nil=>rfl
  | cons y r =>
   have z:=Bool.and_eq_true_iff.mp (show (plainD y && plainL r)=true from h)
   rw [noMixAll,a.mix y z.1,k.mix r z.2]; rfl,fun y e=>by
  cases y with
  | nil=>exact ft e
  | cons y r =>
   have z:=Bool.and_eq_true_iff.mp (show (pq x y && pqL l r)=true from e)
   rw [a.eq y z.1,k.eq r z.2],show (pq x x && pqL l l)=true by rw [a.refl,k.refl]; rfl⟩
theorem plain_ok:∀ x,plainD x=true→PlainOk x :=
 @PyData.rec (fun x=>plainD x=true→PlainOk x) (fun l=>plainL l=true→PlainsOk l) (fun _=>True) (fun _=>True) (fun _=>plain_none) (fun _ h=>ft h) (fun a _=>plain_int a) plain_str (fun _ f h=>plain_list (f h)) (fun _ f h=>plain_tup (f h)) (fun _ _ h=>ft h)
  (fun _=>plain_nil) (fun _ _ f g h=>have z:=Bool.and_eq_true_iff.mp h; plain_cons (f z.1) (g z.2)) trivial (fun _ _ _ _=>trivial) fun _ _ _ _=>trivial
theorem pq_refl (x:PyData) (h:plainD x=true):pq x x=true:=(plain_ok x h).refl
theorem pq_same {x y:PyData} (h:plainD x=true):Spec.same x y=pq x y:=by
 rw [Bool.eq_iff_iff,PyProof.Rows.same_iff]
 exact ⟨fun e=>e ▸ pq_refl x h,(plain_ok x h).eq y⟩
structure PyOk (h0:AH) (n:Nat) (a:AVal) (x:PyData):Prop where
 pl:plainD x=true
 dp:x.depth≤n
 rd:∀ {P H0 W h hp} (_:Sat P H0 W h hp),(∀ n o,h0 n=some o→h n=some o)→∀ {v},VR h W a v→∃ as,Reads hp v x as
structure PysOk (h0:AH) (n:Nat) (l:List AVal) (q:List PyData):Prop where
 pl:plainL q=true
 dp:PyData.depthAll q≤n
 rd:∀ {P H0 W h hp} (_:Sat P H0 W h hp),(∀ n o,h0 n=some o→h n=some o)→∀ {vs},VRs h W l vs→∃ as,ReadsAll hp vs q as
theorem goPy_ok {h0:AH} {n:Nat} {f:AVal→Option PyData} (k:∀ a x,f a=some x→PyOk h0 n a x):∀ {l q},goPy f l=some q→PysOk h0 n l q
 | [],q,e=>by
  rw [← Option.some.inj e]
  exact ⟨rfl,Nat.zero_le _,fun _ _ vs r=>by rw [show vs=[] from r]; exact ⟨_,.nil⟩⟩
 | a :: l,q,e=>by
  refine (Option.bind_eq_some_iff.mp e).elim fun x y=>(Option.map_eq_some_iff.mp y.2).elim fun r z=>?_
  have p:=k a x y.1
  have s:=goPy_ok k z.1
  rw [← z.2]
  refine ⟨?_,Nat.max_le.mpr ⟨p.dp,s.dp⟩,fun S hh vs w=>w.iCons.elim fun v w=>w.elim fun vs w=>?_⟩
  ·show (plainD x && plainL r)=true
   rw [p.pl,s.pl]; rfl
  ·rw [w.1]
   exact (p.rd S hh w.2.1).elim fun as u=>(s.rd S hh w.2.2).elim fun bs u2=>⟨_,.cons u u2⟩
theorem lstOf_ok {o:Option AObj} {l:List AVal} (e:lstOf o=some l):o=some (.list l):=by
 cases o with
 | none=>exact nos e
 | some o=>cases o with
  | list q=>exact congrArg (fun q=>some (AObj.list q)) (Option.some.inj e)
  | _=>exact nos e
theorem toPy_ok (h0:AH):∀ (n:Nat) (a:AVal) (x:PyData),toPy h0 n a=some x→PyOk h0 n a x
 | 0,a,x,e=>nos e
 | n + 1,a,x,e=>by
  cases a with
  | none=>rw [← Option.some.inj e]; exact ⟨rfl,Nat.zero_le _,fun _ _ v r=>by rw [show v=_ from r]; exact ⟨_,.none⟩⟩
  | int i=>rw [← Option.some.inj e]; exact ⟨rfl,Nat.zero_le _,fun _ _ v r=>r.elim fun t r=>by rw [r]; exact ⟨_,.int _ _⟩⟩
  | str s =>
   cases q:PyData.strOk s with
   | false=>rw [show toPy h0 (n + 1) (.str s)=bif PyData.strOk s then some (.str s) else none from rfl,q] at e; exact nos e
   | true =>
    rw [show toPy h0 (n + 1) (.str s)=bif PyData.strOk s then some (.str s) else none from rfl,q] at e
    rw [← Option.some.inj e]; exact ⟨q,Nat.zero_le _,fun _ _ v r=>r.elim fun t r=>by rw [r]; exact ⟨_,.str _ _⟩⟩
  | tup l =>
   refine (Option.map_eq_some_iff.mp e).elim fun q z=>?_
   have s:=goPy_ok (toPy_ok h0 n) z.1
   rw [← z.2]
   exact ⟨s.pl,Nat.succ_le_succ s.dp,fun S hh v r=>r.iTup.elim fun ad y=>y.elim fun vs y=>(s.rd S hh y.2.2).elim fun as u=>by rw [y.1]; exact ⟨_,.tuple (S.keep _ _ y.2.1) rfl rfl u⟩⟩
  | ref m =>
   refine (Option.bind_eq_some_iff.mp e).elim fun l y=>(Option.map_eq_some_iff.mp y.2).elim fun q z=>?_
   have s:=goPy_ok (toPy_ok h0 n) z.1
   rw [← z.2]
   exact ⟨s.pl,Nat.succ_le_succ s.dp,fun S hh v r=>(S.obj _ _ (hh _ _ (lstOf_ok y.1))).elim fun vs w=>w.elim fun k w=>(s.rd S hh w.2.1).elim fun as u=>by rw [r.2]; exact ⟨_,.list w.1 rfl rfl u⟩⟩
  | _=>exact nos e
theorem PyOk.shaped {h0:AH} {n:Nat} {a:AVal} {x:PyData} (k:PyOk h0 n a x) (hn:n≤64):shaped x=true:=by
 unfold PySem.SeqAt.shaped
 rw [(plain_ok x k.pl).lay,decide_eq_true (Nat.le_trans k.dp hn)]; rfl
theorem eqV_ok {h:AH} {a b:AVal} {r:Bool} (e:eqV h a b=some r):∃ x y,PyOk h 5 a x∧PyOk h 5 b y∧pq x y=r:=by
 unfold eqV at e
 cases e1:toPy h 5 a with
 | none=>rw [e1] at e; exact nos e
 | some x =>
  cases e2:toPy h 5 b with
  | none=>rw [e1,e2] at e; exact nos e
  | some y=>rw [e1,e2] at e; exact ⟨x,y,toPy_ok h 5 a x e1,toPy_ok h 5 b y e2,Option.some.inj e⟩
section
variable {h:AH} {a b:AVal} {r:Bool} {K:KV}
theorem cm_eq (e:eqV h a b=some r) (k:K (.bool r) h):CM .Eq a b h K:=fun c W s A v u M r1 r2=>.i <|
 (eqV_ok e).elim fun x z=>z.elim fun y z=>(z.1.rd M.sat (fun _ _ e=>e) r1).elim fun as q1=>(z.2.1.rd M.sat (fun _ _ e=>e) r2).elim fun bs q2 =>
  eq_dataH_same q1 q2 (z.1.shaped (by decide)) (z.2.1.shaped (by decide)) (Nat.lt_of_le_of_lt (Nat.add_le_add_left (by decide) _) M.u) ((plain_ok x z.1.pl).mix y z.2.1.pl) (by rw [pq_same z.1.pl,z.2.2]; exact PX.here M.sat (VR.bool _) k)
theorem cm_ne (e:eqV h a b=some r) (k:K (.bool (!r)) h):CM .NotEq a b h K:=fun c W s A v u M r1 r2=>.i <|
 (eqV_ok e).elim fun x z=>z.elim fun y z=>(z.1.rd M.sat (fun _ _ e=>e) r1).elim fun as q1=>(z.2.1.rd M.sat (fun _ _ e=>e) r2).elim fun bs q2 =>
  ne_dataH_same q1 q2 (z.1.shaped (by decide)) (z.2.1.shaped (by decide)) (Nat.lt_of_le_of_lt (Nat.add_le_add_left (by decide) _) M.u) ((plain_ok x z.1.pl).mix y z.2.1.pl) (by rw [pq_same z.1.pl,z.2.2]; exact PX.here M.sat (VR.bool _) k)
end
end
section
noncomputable def ofPy (x:PyData):AVal :=
 @PyData.rec (fun _=>AVal) (fun _=>List AVal) (fun _=>Unit) (fun _=>Unit) .none .bool .int .str (fun _ f=>.tup f) (fun _ f=>.tup f) (fun _ _=>.none) [] (fun _ _ x l=>x :: l) () (fun _ _ _ _=>()) (fun _ _ _ _=>()) x
noncomputable def ofPys (x:List PyData):List AVal :=
 @PyData.rec_1 (fun _=>AVal) (fun _=>List AVal) (fun _=>Unit) (fun _=>Unit) .none .bool .int .str (fun _ f=>.tup f) (fun _ f=>.tup f) (fun _ _=>.none) [] (fun _ _ x l=>x :: l) () (fun _ _ _ _=>()) (fun _ _ _ _=>()) x
structure KOk (n:Nat) (a:AVal):Prop where
 py:∃ x,ofPy x=a∧∀ h,toPy h n a=some x
 dk:(wOf a).isDKey=true
 dp:(wOf a).depth≤n
 well:∀ {P H0 W h hp},Sat P H0 W h hp→∀ {v},VR h W a v→Well P hp v (wOf a)
structure KsOk (n:Nat) (l:List AVal):Prop where
 py:∃ q,ofPys q=l∧∀ h,goPy (toPy h n) l=some q
 dk:WData.areDKeys (wsOf l)=true
 dp:WData.depthAll (wsOf l)≤n
 well:∀ {P H0 W h hp},Sat P H0 W h hp→∀ {vs},VRs h W l vs→WellAll P hp vs (wsOf l)
theorem keys_ok {n:Nat} (k:∀ a,kOk n a=true→KOk n a):∀ l,kOk.goK (kOk n) l=true→KsOk n l
 | [],_=>⟨⟨[],rfl,fun _=>rfl⟩,rfl,Nat.zero_le _,fun _ vs r=>by rw [show vs=[] from r]; exact .nil⟩
 | a :: l,e=>by
  have z:=Bool.and_eq_true_iff.mp e
  have x:=k a z.1
  have y:=keys_ok k l z.2
  refine ⟨x.py.elim fun p u=>y.py.elim fun q t=>⟨p :: q,by rw [← u.1,← t.1]; rfl,fun h=>?_⟩,?_,Nat.max_le.mpr ⟨x.dp,y.dp⟩,fun S vs r=>r.iCons.elim fun v r=>r.elim fun vs r=>by rw [r.1]; exact .cons (x.well S r.2.1) (y.well S r.2.2)⟩
  ·show ((toPy h n a).bind fun x=>(goPy (toPy h n) l).map fun q=>x :: q)=_
   rw [u.2,t.2]; rfl
  ·show ((wOf a).isDKey && WData.areDKeys (wsOf l))=true
   rw [x.dk,y.dk]; rfl
theorem key_ok:∀ (n:Nat) (a:AVal),kOk n a=true→KOk n a
 | 0,_,e=>ft e
 | n + 1,a,e=>by
  cases a with
  | int i=>exact ⟨⟨.int i,rfl,fun _=>rfl⟩,rfl,Nat.zero_le _,fun _ v r=>r.elim fun t r=>by rw [r]; exact .int i t⟩
  | str s =>
   refine ⟨⟨.str s,rfl,fun h=>?_⟩,rfl,Nat.zero_le _,fun _ v r=>r.elim fun t r=>by rw [r]; exact .str s t⟩
   show (bif PyData.strOk s then _ else _)=_
   rw [show PyData.strOk s=true from e]; rfl
  | tup l =>
   have k:=keys_ok (key_ok n) l e
   refine ⟨k.py.elim fun q t=>⟨.tuple q,congrArg AVal.tup t.1,fun h=>?_⟩,k.dk,Nat.succ_le_succ k.dp,fun S v r=>r.iTup.elim fun d r=>r.elim fun vs r=>by rw [r.1]; exact .tuple (S.keep _ _ r.2.1) (k.well S r.2.2)⟩
   show (goPy (toPy h n) l).map PyData.tuple=_
   rw [t.2]; rfl
  | _=>exact ft e
theorem keyEq_at {a b:AVal} (ha:isKey a=true) (hb:isKey b=true):∃ x y,(ofPy x=a∧∀ h,toPy h 4 a=some x)∧(ofPy y=b∧∀ h,toPy h 4 b=some y)∧keyEq a b=pq x y :=
 (key_ok 4 a ha).py.elim fun x p=>(key_ok 4 b hb).py.elim fun y q=>⟨x,y,p,q,by unfold keyEq keyPy; rw [ha,hb,cond_true,cond_true,p.2,q.2]; rfl⟩
theorem keyEq_iff {a b:AVal} (ha:isKey a=true) (hb:isKey b=true):keyEq a b=true↔a=b :=
 (keyEq_at ha hb).elim fun x z=>z.elim fun y z=>by
  have k:=(toPy_ok (fun _=>none) 4 a x (z.1.2 _)).pl
  rw [z.2.2]
  refine ⟨fun e=>?_,fun e=>?_⟩
  ·rw [← z.1.1,← z.2.1.1,(plain_ok x k).eq y e]
  ·have e1:=z.1.2 fun _=>none
   rw [e,z.2.1.2] at e1
   rw [Option.some.inj e1]
   exact pq_refl x k
theorem keyEq_comm {a b:AVal} (ha:isKey a=true) (hb:isKey b=true):keyEq a b=keyEq b a:=by
 rw [Bool.eq_iff_iff,keyEq_iff ha hb,keyEq_iff hb ha]; exact eq_comm
theorem keyEq_ne {a b:AVal} (ha:isKey a=true) (hb:isKey b=true) (h:a≠b):keyEq a b=false:=by
 rw [Bool.eq_false_iff]; exact fun e=>h ((keyEq_iff ha hb).mp e)
section
variable {prog:Program} {w:World} {H0:Heap} {h:AH} {W:Wd} {s:Shared} {A:Around} {E:Value→Shared→Prop}
theorem key_hash {a:AVal} {v:Value} {Q:Int→Shared→Prop} (hu:A.units + 100 < cLine) (S:Sat w.params H0 W h s.heap) (ka:isKey a=true) (r:VR h W a v) (q:∀ tk,Q (keyH w.params a) { s with toks:=tk }):wpAny (model prog w) A (pyHash v) Q E s :=
 pyHash_laid (wOf a) v A s Q (key_ok 4 a ka).dk ((key_ok 4 a ka).well S r) (Nat.lt_of_le_of_lt (Nat.add_le_add_left (Nat.le_trans (key_ok 4 a ka).dp (by decide)) _) hu) q
theorem key_eq {a b:AVal} {v u:Value} {Q:Bool→Shared→Prop} (S:Sat w.params H0 W h s.heap) (hu:A.units + 100 < cLine) (ka:isKey a=true) (kb:isKey b=true) (r1:VR h W a v) (r2:VR h W b u) (q:Q (keyEq a b) s):wpAny (model prog w) A (eqBool v u) Q E s :=
 (keyEq_at ka kb).elim fun x z=>z.elim fun y z=>by
  have p1:=toPy_ok (fun _=>none) 4 a x (z.1.2 _)
  have p2:=toPy_ok (fun _=>none) 4 b y (z.2.1.2 _)
  refine (p1.rd S (fun _ _ e=>nos e) r1).elim fun as q1=>(p2.rd S (fun _ _ e=>nos e) r2).elim fun bs q2=>?_
  rw [z.2.2,← pq_same p1.pl,same_eq_eqv x y ((plain_ok x p1.pl).mix y p2.pl)] at q
  exact eqBoolOverData _ _ _ _ _ _ _ _ _ _ _ _ q1 q2 (plain_ok x p1.pl).lay (plain_ok y p2.pl).lay (Nat.lt_of_le_of_lt (Nat.add_le_add_left (Nat.le_trans (Nat.le_trans (Nat.min_le_left _ _) p1.dp) (by decide)) _) hu) q
theorem key_quiet (S:Sat w.params H0 W h s.heap):∀ (n m:Nat) {a:AVal} {v:Value} {Q:Bool→Shared→Prop},n≤m→kOk n a=true→VR h W a v→Q true s→wpAny (model prog w) A (eqIsQuiet m v) Q E s
 | 0,_,_,_,_,_,e,_,_=>ft e
 | n + 1,0,_,_,_,hm,_,_,_=>absurd hm (Nat.not_succ_le_zero _)
 | n + 1,m + 1,a,v,Q,hm,e,r,q=>by
  cases a with
  | int i=>exact r.elim fun t r=>by rw [r,eqIsQuiet_byValue _ rfl]; exact wpAny_pure q
  | str i=>exact r.elim fun t r=>by rw [r,eqIsQuiet_byValue _ rfl]; exact wpAny_pure q
  | tup l =>
   refine r.iTup.elim fun a r=>r.elim fun vs r=>?_
   rw [r.1]
   have ho:=S.keep _ _ r.2.1
   have hT:s.TypeIs (.ref a) "tuple":=⟨_,ho,rfl⟩
   unfold eqIsQuiet
   refine wpAny_bind (wpAny_specialOf hT F.slot_tuple_eq.lookup ?_)
   show wpAny _ _ (isInstance (.ref a) (.type "tuple") >>= _) _ _ s
   refine wpAny_bind (wpAny_isInstance hT isSubtype_tuple_tuple ?_)
   simp only [Bool.not_true,Bool.false_eq_true,if_false]
   refine wpAny_bind (wpAny_seqItems ho rfl ?_)
   refine wpAny_bind ?_
   show wpAny _ _ (forIn vs.toArray _ _) _ _ s
   rw [← Array.forIn_toList]
   refine wpAny_forIn_list _ (fun rest r s'=>r.1=none∧s'=s∧∃ left,kOk.goK (kOk n) left=true∧VRs h W left rest) _ (fun v rest r s' i=>?_) (fun r s' i=>?_) _ _ ⟨rfl,rfl,l,e,r.2.2⟩
   ·rw [i.2.1]
    refine i.2.2.elim fun left z=>?_
    cases left with
    | nil=>exact absurd z.2 (List.cons_ne_nil _ _)
    | cons b left =>
     have x:=Bool.and_eq_true_iff.mp z.1
     refine z.2.iCons.elim fun v' y=>y.elim fun r' y=>?_
     have ev:=List.cons.inj y.1
     rw [ev.1]
     refine wpAny_bind (key_quiet S n m (Nat.le_of_succ_le_succ hm) x.1 y.2.1 ?_)
     exact wpAny_pure ⟨rfl,rfl,left,x.2,by rw [ev.2]; exact y.2.2⟩
   ·rw [i.2.1]
    obtain ⟨r1,r2⟩:=r
    rw [show r1=none from i.1]
    exact wpAny_pure q
  | _=>exact ft e
end
end
section
section
variable {P:Params} {h:AH} {W:Wd}
theorem DR.len:∀ {l es},DR P h W l es→es.length=l.length
 | [],_,r=>by rw [show _=[] from r]; rfl
 | _ :: _,_,r=>r.elim fun _ r=>r.elim fun _ r=>r.elim fun _ r=>by rw [r.1]; exact congrArg (· + 1) r.2.2.2.2.2.len
def Ent (P:Params) (h:AH) (W:Wd) (es:List DictEntry) (i:Nat) (p:AVal×AVal):Prop:=∃ kc c,es[i]? = some ⟨keyH P p.1,kc,c⟩∧isKey p.1=true∧VR h W p.1 kc∧VR h W p.2 c
theorem DR.at:∀ {l es},DR P h W l es→∀ (i:Nat) p,l[i]? = some p→Ent P h W es i p
 | [],_,_,i,p,e=>nos e
 | q :: l,_,r,0,p,e=>r.elim fun kc r=>r.elim fun c r=>r.elim fun es r=>by
  rw [← Option.some.inj e,r.1]; exact ⟨kc,c,rfl,r.2.1,r.2.2.1,r.2.2.2.1⟩
 | q :: l,_,r,i + 1,p,e=>r.elim fun kc r=>r.elim fun c r=>r.elim fun es r=>by
  rw [r.1]; exact r.2.2.2.2.2.at i p e
theorem DR.apart {l es} (R:DR P h W l es) {k:AVal} (kk:isKey k=true) (n:∀ q∈l,keyEq q.1 k=false) {j:Nat} {q} (e:l[j]? = some q):q.1≠k:=fun z =>
 (R.at j q e).elim fun _ y=>y.elim fun _ y=>ft ((n q (List.mem_of_getElem? e)).symm.trans ((keyEq_iff y.2.1 kk).mpr z))
theorem DR.uniq:∀ {l es},DR P h W l es→∀ {i j:Nat} {p q},l[i]? = some p→l[j]? = some q→p.1=q.1→i=j
 | [],_,_,i,_,_,_,e,_,_=>nos e
 | _ :: _,_,_,0,0,_,_,_,_,_=>rfl
 | _ :: l,_,r,0,j + 1,p,q,e,e',z=>r.elim fun _ r=>r.elim fun _ r=>r.elim fun _ r=>absurd (z.symm.trans (congrArg Prod.fst (Option.some.inj e)).symm) (r.2.2.2.2.2.apart r.2.1 r.2.2.2.2.1 (j:=j) e')
 | _ :: l,_,r,i + 1,0,p,q,e,e',z=>r.elim fun _ r=>r.elim fun _ r=>r.elim fun _ r=>absurd (z.trans (congrArg Prod.fst (Option.some.inj e')).symm) (r.2.2.2.2.2.apart r.2.1 r.2.2.2.2.1 (j:=i) e)
 | _ :: l,_,r,i + 1,j + 1,p,q,e,e',z=>r.elim fun _ r=>r.elim fun _ r=>r.elim fun _ r=>congrArg (· + 1) (r.2.2.2.2.2.uniq e e' z)
abbrev plc (es:List DictEntry) (hh:Int):List Nat:=placesWithHash es.toArray.size (fun i=>es.toArray[i]?.map (·.hash)) hh
def Hit (l:List (AVal×AVal)) (k:AVal):Option Nat→Prop
 | none=>∀ (j:Nat) (p:AVal×AVal),l[j]? = some p→p.1≠k
 | some j=>∃ p,l[j]? = some p∧p.1=k
structure LI (l:List (AVal×AVal)) (es:List DictEntry) (hh:Int) (k:AVal) (rest:List Nat) (hit:Option Nat):Prop where
 nd:rest.Nodup
 at_:∀ x∈rest,∃ p,l[x]? = some p∧es[x]?.map (·.hash)=some hh
 st:(hit=none∧∀ (j:Nat) (p:AVal×AVal),l[j]? = some p→p.1=k→j∈rest)∨∃ j,hit=some j∧Hit l k (some j)∧j∉rest
theorem DR.start {l es} (R:DR P h W l es) (k:AVal):LI l es (keyH P k) k (plc es (keyH P k)) none where
 nd:=List.Pairwise.filter _ List.nodup_range
 at_:=fun x m=>by
  have z:=List.mem_filter.mp m
  have lt:x < es.length:=List.mem_range.mp z.1
  have e:es.toArray[x]?.map (·.hash)=some (keyH P k):=beq_iff_eq.mp z.2
  rw [List.getElem?_toArray] at e
  exact ⟨l[x]'(R.len ▸ lt),List.getElem?_eq_getElem _,e⟩
 st:=.inl ⟨rfl,fun j p e z=>(R.at j p e).elim fun kc y=>y.elim fun c y=>List.mem_filter.mpr ⟨List.mem_range.mpr (List.getElem?_eq_some_iff.mp y.1).1,by
  show (es.toArray[j]?.map (·.hash) == some (keyH P k))=true
  rw [List.getElem?_toArray,y.1,← z]; exact beq_iff_eq.mpr rfl⟩⟩
variable {l:List (AVal×AVal)} {es:List DictEntry} {hh:Int} {k:AVal} {x:Nat} {rest:List Nat} {hit:Option Nat} {p:AVal×AVal}
theorem LI.done (i:LI l es hh k [] hit):Hit l k hit:=i.st.elim (fun z=>by rw [z.1]; exact fun j p e q=>List.not_mem_nil (z.2 j p e q)) fun z=>z.elim fun j z=>by rw [z.1]; exact z.2.1
theorem LI.miss (i:LI l es hh k (x :: rest) hit) (e:l[x]? = some p) (n:p.1≠k):LI l es hh k rest hit :=
 ⟨(List.nodup_cons.mp i.nd).2,fun y m=>i.at_ y (.tail _ m),i.st.elim (fun z=>.inl ⟨z.1,fun j q e' w=>(List.mem_cons.mp (z.2 j q e' w)).elim (fun y=>by rw [y,e] at e'; rw [← Option.some.inj e'] at w; exact absurd w n) id⟩) fun z=>.inr (z.elim fun j z=>⟨j,z.1,z.2.1,fun m=>z.2.2 (.tail _ m)⟩)⟩
theorem LI.found (R:DR P h W l es) (i:LI l es hh k (x :: rest) hit) (e:l[x]? = some p) (z:p.1=k):hit=none∧LI l es hh k rest (some x):=by
 have n:=List.nodup_cons.mp i.nd
 refine ⟨i.st.elim (fun y=>y.1) fun y=>y.elim fun j y=>y.2.1.elim fun q w=>absurd ?_ y.2.2,n.2,fun y m=>i.at_ y (.tail _ m),.inr ⟨x,rfl,⟨p,e,z⟩,n.1⟩⟩
 rw [R.uniq w.1 e (w.2.trans z.symm)]; exact .head _
theorem LI.ent (R:DR P h W l es) (i:LI l es hh k (x :: rest) hit):∃ p kc c,l[x]? = some p∧es.toArray[x]? = some ⟨hh,kc,c⟩∧isKey p.1=true∧VR h W p.1 kc :=
 (i.at_ x (.head _)).elim fun p z=>(R.at x p z.1).elim fun kc y=>y.elim fun c y=>⟨p,kc,c,z.1,by
  have e:=z.2
  rw [y.1] at e
  rw [List.getElem?_toArray,y.1,show keyH P p.1=hh from Option.some.inj e],y.2.1,y.2.2.1⟩
end
section
variable {prog:Program} {w:World} {H0:Heap} {h:AH} {W:Wd} {s:Shared} {A:Around} {E:Value→Shared→Prop} {d:Addr} {o:Obj} {ep:Nat} {l:List (AVal×AVal)} {es:List DictEntry} {k:AVal} {v:Value} {Q:Option Nat→Shared→Prop}
theorem key_inj {a b:AVal} (S:Sat w.params H0 W h s.heap) (ka:isKey a=true) (kb:isKey b=true) (r1:VR h W a v) (r2:VR h W b v):a=b :=
 (keyEq_at ka kb).elim fun x z=>z.elim fun y z=>by
  have p1:=toPy_ok (fun _=>none) 4 a x (z.1.2 _)
  have p2:=toPy_ok (fun _=>none) 4 b y (z.2.1.2 _)
  refine (p1.rd S (fun _ _ e=>nos e) r1).elim fun as q1=>(p2.rd S (fun _ _ e=>nos e) r2).elim fun bs q2=>?_
  rw [← z.1.1,← z.2.1.1,Reads.unique _ _ _ _ _ (plain_ok x p1.pl).lay q1 q2]
theorem tells_ok (S:Sat w.params H0 W h s.heap) (R:DR w.params h W l es) {Q:Bool→Shared→Prop} (kk:isKey k=true) (r:VR h W k v) (q:Q false s) :
  wpAny (model prog w) A (tableMayTell v ((plc es (keyH w.params k)).filterMap fun i=>es.toArray[i]?.map (·.key))) Q E s:=by
 have hst:∀ v∈(plc es (keyH w.params k)).filterMap (fun i=>es.toArray[i]?.map (·.key)),∃ k',isKey k'=true∧VR h W k' v:=fun v hv =>
  (List.mem_filterMap.mp hv).elim fun i z=>((R.start k).at_ i z.1).elim fun p y=>(R.at i p y.1).elim fun kc u=>u.elim fun c u=>by
   have e:=z.2
   rw [List.getElem?_toArray,u.1] at e
   rw [← Option.some.inj e]; exact ⟨p.1,u.2.1,u.2.2.1⟩
 generalize (plc es (keyH w.params k)).filterMap (fun i=>es.toArray[i]?.map (·.key))=stored at hst ⊢
 unfold tableMayTell
 cases stored.isEmpty with
 | true=>exact wpAny_pure q
 | false =>
  refine wpAny_bind (key_quiet S 4 8 (by decide) kk r ?_)
  refine wpAny_bind (wpAny_forIn_list _ (fun rest r s'=>s'=s∧r=(none,())∧∀ v∈rest,∃ k',isKey k'=true∧VR h W k' v) _ (fun x rest r s' i=>?_) (fun r s' i=>?_) _ _ ⟨rfl,rfl,hst⟩)
  ·rw [i.1]
   exact (i.2.2 x (.head _)).elim fun k' z=>wpAny_bind (key_quiet S 4 8 (by decide) z.1 z.2 (wpAny_pure ⟨rfl,rfl,fun v m=>i.2.2 v (.tail _ m)⟩))
  ·rw [i.1,i.2.1]; exact wpAny_pure q
theorem cut0 {G C:Prop} (h:G→C) (t:G):C:=h t
theorem cut3 {G R:Value→Prop} {C:Prop} (h:(∀ v,R v→G v)→C) (t:∀ v,R v→G v):C:=h t
theorem key_val {k:AVal} {v:Value} (kk:isKey k=true) (r:VR h W k v):(∃ i t,v = .int i t)∨(∃ x t,v = .str x t∧k = .str x)∨∃ a,v = .ref a:=by
 cases k with
 | int i=>exact .inl ⟨i,r⟩
 | str x=>exact .inr (.inl (r.elim fun t e=>⟨x,t,e,rfl⟩))
 | tup l=>exact .inr (.inr (r.elim fun a r=>r.elim fun _ r=>⟨a,r.1⟩))
 | _=>exact ft kk
theorem VR.iS {k:AVal} {x:Str} {t:Tok} (kk:isKey k=true) (r:VR h W k (.str x t)):k = .str x :=
 (key_val kk r).elim (fun z=>z.elim fun i z=>z.elim fun t e=>by cases e) fun z=>z.elim (fun z=>z.elim fun y z=>z.elim fun t z=>by rw [z.2,(Value.str.inj z.1).1]) fun z=>z.elim fun a e=>by cases e
theorem find_plain (R:DR w.params h W l es) (S:Sat w.params H0 W h s.heap) (hu:A.units + 100 < cLine) (ho:s.heap.get? d=some o) (hd:o.data = .dict es.toArray ep) (kk:isKey k=true) (r:VR h W k v)
  (q:∀ hit,Hit l k hit→Q hit s):wpAny (model prog w) A (dictWalkPlain d v (keyH w.params k) es.toArray (plc es (keyH w.params k))) Q E s:=by
 unfold dictWalkPlain
 refine wpAny_bind (wpAny_forIn_list _ (fun rest b s'=>s'=s∧b=(none,())∧LI l es (keyH w.params k) k rest none) _ (fun x rest b s' i=>?_) (fun b s' i=>?_) _ _ ⟨rfl,rfl,R.start k⟩)
 ·rw [i.1]
  refine (i.2.2.ent R).elim fun p z=>z.elim fun kc z=>z.elim fun c z=>?_
  rw [z.2.1]
  dsimp only
  rw [if_pos (beq_iff_eq.mpr rfl)]
  refine wpAny_bind (wpAny_dictEpoch ho hd (wpAny_bind (key_eq S hu z.2.2.1 kk z.2.2.2 r (wpAny_bind (wpAny_dictEpoch ho hd ?_)))))
  rw [if_neg (by rw [bne_self_eq_false]; exact Bool.false_ne_true)]
  by_cases hk:p.1=k
  ·rw [(keyEq_iff z.2.2.1 kk).mpr hk]
   exact wpAny_bind (wpAny_rule (wpAny_pure (wpAny_pure (q (some x) ⟨p,z.1,hk⟩))))
  ·rw [keyEq_ne z.2.2.1 kk hk]
   exact wpAny_bind (wpAny_rule (wpAny_pure ⟨rfl,rfl,i.2.2.miss z.1 hk⟩))
 ·rw [i.1,i.2.1]; exact wpAny_pure (q none i.2.2.done)
theorem find_key (R:DR w.params h W l es) (S:Sat w.params H0 W h s.heap) (hu:A.units + 100 < cLine) (ho:s.heap.get? d=some o) (hd:o.data = .dict es.toArray ep) (kk:isKey k=true)
  (q:∀ hit,Hit l k hit→Q hit s):∀ v,VR h W k v→wpAny (model prog w) A (dictFind d v (keyH w.params k)) Q E s:=by
 apply cut3 (R:=VR h W k)
 ·intro tail v r
  have plain:=find_plain (Q:=Q) (E:=E) (prog:=prog) R S hu ho hd kk r q
  rcases key_val kk r with ⟨i,t,e⟩ | ⟨x,t,e,ek⟩ | ⟨a,e⟩
  ·subst e
   unfold dictFind
   refine wpAny_holding (wpAny_bind (wpAny_dictEntries ho hd ?_))
   dsimp only
   by_cases hall:(((.int i t) :: (plc es (keyH w.params k)).filterMap fun i=>es.toArray[i]?.map (·.key)).all carriedByValue)=true
   ·rw [if_pos hall]; exact plain
   ·rw [if_neg hall]
    clear plain hall
    generalize Value.int i t=v at r ⊢
    exact tail v r
  ·subst e
   by_cases hstr:(es.toArray.all fun e=>isExactStrKey e.key)=true
   ·refine KTD.kt_dictFind_strs ho hd hstr ?_
    cases hf:es.toArray.findIdx? (fun e=>e.key.isStr x) with
    | none =>
     refine q none fun j p hj z=>(R.at j p hj).elim fun kc y=>y.elim fun c y=>?_
     have f:=Array.findIdx?_eq_none_iff.mp hf _ (Array.mem_of_getElem? (by rw [List.getElem?_toArray]; exact y.1))
     have r1:=y.2.2.1
     rw [z,ek] at r1
     refine r1.elim fun t' e=>?_
     rw [e] at f
     exact ft (f.symm.trans (beq_iff_eq.mpr rfl))
    | some i =>
     refine (Array.findIdx?_eq_some_iff_getElem.mp hf).elim fun hlt y=>?_
     have lt:i < l.length:=R.len ▸ (by rw [List.size_toArray] at hlt; exact hlt)
     refine q (some i) ⟨l[i],List.getElem?_eq_getElem lt,?_⟩
     refine (R.at i l[i] (List.getElem?_eq_getElem lt)).elim fun kc u=>u.elim fun c u=>?_
     have z:=Array.getElem?_eq_getElem hlt
     rw [List.getElem?_toArray,u.1] at z
     have hi:=y.1
     rw [← Option.some.inj z] at hi
     refine (KTD.kt_isStr hi).elim fun t' ht=>?_
     have r1:=u.2.2.1
     rw [show kc=_ from ht] at r1
     rw [VR.iS u.2.1 r1,ek]
   ·unfold dictFind
    refine wpAny_holding (wpAny_bind (wpAny_dictEntries ho hd ?_))
    dsimp only
    rw [if_neg hstr]
    by_cases hall:(((.str x t) :: (plc es (keyH w.params k)).filterMap fun i=>es.toArray[i]?.map (·.key)).all carriedByValue)=true
    ·rw [if_pos hall]; exact plain
    ·rw [if_neg hall]
     clear plain hall
     generalize Value.str x t=v at r ⊢
     exact tail v r
  ·subst e
   unfold dictFind
   refine wpAny_holding (wpAny_bind (wpAny_dictEntries ho hd ?_))
   dsimp only
   rw [if_neg (show ¬ ((Value.ref a :: (plc es (keyH w.params k)).filterMap (fun i=>es.toArray[i]?.map (·.key))).all carriedByValue)=true from Bool.false_ne_true),if_neg (show ¬ (es.toArray.any fun e=>e.key == Value.ref a && e.hash != keyH w.params k)=true from fun any=>?_)]
   ·clear plain
    generalize Value.ref a=v at r ⊢
    exact tail v r
   ·rw [List.any_toArray,List.any_eq_true] at any
    refine any.elim fun e z=>(List.mem_iff_getElem?.mp z.1).elim fun i hi=>?_
    have y:=Bool.and_eq_true_iff.mp z.2
    have lt:i < l.length:=R.len ▸ (List.getElem?_eq_some_iff.mp hi).1
    refine (R.at i l[i] (List.getElem?_eq_getElem lt)).elim fun kc u=>u.elim fun c u=>?_
    rw [u.1] at hi
    have eh:=Option.some.inj hi
    have ek:kc = .ref a:=by rw [← eh] at y; exact beq_iff_eq.mp y.1
    rw [ek] at u
    have:=key_inj S u.2.1 kk u.2.2.1 r
    rw [← eh,this] at y
    exact absurd rfl (bne_iff_ne.mp y.2)
 ·intro v r
  have tl:=fun (Q':Bool→Shared→Prop) (q':Q' false s)=>tells_ok (prog:=prog) (A:=A) (E:=E) S R kk r q'
  have st:=R.start k
  change LI l es (keyH w.params k) k (placesWithHash es.toArray.size (fun i=>es.toArray[i]?.map (·.hash)) (keyH w.params k)) none at st
  dsimp only [plc] at tl
  generalize (placesWithHash es.toArray.size (fun i=>es.toArray[i]?.map (·.hash)) (keyH w.params k)).filterMap (fun i=>es.toArray[i]?.map (·.key))=stored at tl ⊢
  generalize placesWithHash es.toArray.size (fun i=>es.toArray[i]?.map (·.hash)) (keyH w.params k)=places at st ⊢
  generalize keyH w.params k=hh at st ⊢
  apply cut0
  ·intro t
   split
   ·exact wpAny_bind (wpAny_pure t)
   ·exact wpAny_bind (tl _ t)
  rw [Bool.false_and,if_neg Bool.false_ne_true]
  refine wpAny_bind (wpAny_forIn_list _ (fun rest b s'=>s'=s∧b.1=none∧LI l es hh k rest b.2) _ (fun x rest b s' i=>?_) (fun b s' i=>?_) _ _ ⟨rfl,rfl,st⟩)
  ·rw [i.1]
   refine (i.2.2.ent R).elim fun p z=>z.elim fun kc z=>z.elim fun c z=>?_
   rw [z.2.1]
   dsimp only
   rw [if_pos (beq_iff_eq.mpr rfl)]
   refine wpAny_bind (wpAny_dictEpoch ho hd (wpAny_bind (key_eq S hu z.2.2.1 kk z.2.2.2 r (wpAny_bind (wpAny_dictEpoch ho hd ?_)))))
   rw [if_neg (by rw [bne_self_eq_false]; exact Bool.false_ne_true)]
   by_cases hk:p.1=k
   ·have f:=i.2.2.found R z.1 hk
    rw [(keyEq_iff z.2.2.1 kk).mpr hk,if_pos rfl,f.1,if_neg (show ¬ (none:Option Nat).isSome=true from Bool.false_ne_true)]
    refine wpAny_bind (wpAny_rule ?_)
    split
    ·exact wpAny_pure (wpAny_pure (q (some x) ⟨p,z.1,hk⟩))
    ·exact wpAny_pure ⟨rfl,rfl,f.2⟩
   ·rw [keyEq_ne z.2.2.1 kk hk,if_neg Bool.false_ne_true]
    refine wpAny_bind (wpAny_rule ?_)
    rw [Bool.false_and,if_neg Bool.false_ne_true]
    exact wpAny_pure ⟨rfl,rfl,i.2.2.miss z.1 hk⟩
  ·rw [i.1]
   obtain ⟨b1,b2⟩:=b
   rw [show b1=none from i.2.1]
   exact wpAny_pure (q b2 i.2.2.done)
end
end
section
section
variable {P:Params} {h:AH} {W:Wd} {k u:AVal}
theorem dlk_c {q:AVal×AVal} {l:List (AVal×AVal)}:dlk k (q :: l)=bif keyEq q.1 k then some q.2 else dlk k l:=rfl
theorem dput_c {q:AVal×AVal} {l:List (AVal×AVal)}:dput k u (q :: l)=bif keyEq q.1 k then (q.1,u) :: l else q :: dput k u l:=rfl
theorem dput_mem {p}:∀ {l:List (AVal×AVal)},p∈dput k u l→p.1=k∨∃ q∈l,q.1=p.1
 | [],m=>.inl (congrArg Prod.fst (List.mem_singleton.mp m))
 | q :: r,m=>by
  rw [dput_c] at m
  cases z:keyEq q.1 k with
  | true=>rw [z] at m; exact (List.mem_cons.mp m).elim (fun e=>.inr ⟨q,.head _,(congrArg Prod.fst e).symm⟩) fun m=>.inr ⟨p,.tail _ m,rfl⟩
  | false=>rw [z] at m; exact (List.mem_cons.mp m).elim (fun e=>.inr ⟨q,.head _,(congrArg Prod.fst e).symm⟩) fun m=>(dput_mem m).elim .inl fun y=>y.elim fun q' y=>.inr ⟨q',.tail _ y.1,y.2⟩
theorem dput_len:∀ l:List (AVal×AVal),(dput k u l).length≤l.length + 1
 | []=>Nat.le_refl _
 | q :: r=>by
  rw [dput_c]
  cases keyEq q.1 k with
  | true=>exact Nat.le_succ _
  | false=>exact Nat.succ_le_succ (dput_len r)
theorem Hit.ne {q} {l es:_} (R:DR P h W l es) (a:isKey q.1=true) (kk:isKey k=true) (n:∀ y∈l,keyEq y.1 q.1=false) {j:Nat} (f:Hit (q :: l) k (some (j + 1))):keyEq q.1 k=false∧Hit l k (some j) :=
 f.elim fun p z=>⟨keyEq_ne a kk fun e=>R.apart a n (j:=j) z.1 (z.2.trans e.symm),p,z⟩
theorem Hit.no {q:AVal×AVal} {l} (a:isKey q.1=true) (kk:isKey k=true) (f:Hit (q :: l) k none):keyEq q.1 k=false∧Hit l k none:=⟨keyEq_ne a kk (f 0 q rfl),fun j p e=>f (j + 1) p e⟩
theorem dlk_at (kk:isKey k=true):∀ {l es},DR P h W l es→∀ {j:Nat},Hit l k (some j)→∃ p,l[j]? = some p∧dlk k l=some p.2
 | [],_,_,_,f=>f.elim fun p z=>nos z.1
 | q :: l,_,R,0,f=>R.elim fun _ R=>R.elim fun _ R=>R.elim fun _ R=>f.elim fun p z=>⟨q,rfl,by
  rw [dlk_c,(keyEq_iff R.2.1 kk).mpr ((congrArg Prod.fst (Option.some.inj z.1)).trans z.2)]; rfl⟩
 | q :: l,_,R,j + 1,f=>R.elim fun _ R=>R.elim fun _ R=>R.elim fun _ R=>by
  have g:=Hit.ne R.2.2.2.2.2 R.2.1 kk R.2.2.2.2.1 f
  rw [dlk_c,g.1]; exact dlk_at kk R.2.2.2.2.2 g.2
theorem dlk_none (kk:isKey k=true):∀ {l es},DR P h W l es→Hit l k none→dlk k l=none
 | [],_,_,_=>rfl
 | q :: l,_,R,f=>R.elim fun _ R=>R.elim fun _ R=>R.elim fun _ R=>by
  have g:=Hit.no R.2.1 kk f
  rw [dlk_c,g.1]; exact dlk_none kk R.2.2.2.2.2 g.2
theorem dput_apart {q:AVal×AVal} {l} (a:isKey q.1=true) (kk:isKey k=true) (e:keyEq q.1 k=false) (n:∀ y∈l,keyEq y.1 q.1=false):∀ y∈dput k u l,keyEq y.1 q.1=false:=fun y m =>
 (dput_mem m).elim (fun z=>by rw [z,keyEq_comm kk a]; exact e) fun z=>z.elim fun q' z=>by rw [← z.2]; exact n q' z.1
theorem DR.new {kv c:Value} (kk:isKey k=true) (rk:VR h W k kv) (ru:VR h W u c):∀ {l es},DR P h W l es→Hit l k none→DR P h W (dput k u l) (es ++ [⟨keyH P k,kv,c⟩])
 | [],_,R,_=>by rw [show _=[] from R]; exact ⟨kv,c,[],rfl,kk,rk,ru,fun _ m=>absurd m List.not_mem_nil,rfl⟩
 | q :: l,_,R,f=>R.elim fun kc R=>R.elim fun c' R=>R.elim fun es R=>by
  have g:=Hit.no R.2.1 kk f
  rw [dput_c,g.1,R.1]
  exact ⟨kc,c',_,rfl,R.2.1,R.2.2.1,R.2.2.2.1,dput_apart R.2.1 kk g.1 R.2.2.2.2.1,DR.new kk rk ru R.2.2.2.2.2 g.2⟩
theorem DR.set {c:Value} (kk:isKey k=true) (ru:VR h W u c):∀ {l es},DR P h W l es→∀ {j:Nat},Hit l k (some j)→DR P h W (dput k u l) (es.modify j fun e=>{ e with val:=c })
 | [],_,_,_,f=>f.elim fun p z=>nos z.1
 | q :: l,_,R,0,f=>R.elim fun kc R=>R.elim fun c' R=>R.elim fun es R=>f.elim fun p z=>by
  rw [dput_c,(keyEq_iff R.2.1 kk).mpr ((congrArg Prod.fst (Option.some.inj z.1)).trans z.2),R.1]
  exact ⟨kc,c,es,rfl,R.2.1,R.2.2.1,ru,R.2.2.2.2⟩
 | q :: l,_,R,j + 1,f=>R.elim fun kc R=>R.elim fun c' R=>R.elim fun es R=>by
  have g:=Hit.ne R.2.2.2.2.2 R.2.1 kk R.2.2.2.2.1 f
  rw [dput_c,g.1,R.1,List.modify_succ_cons]
  exact ⟨kc,c',_,rfl,R.2.1,R.2.2.1,R.2.2.2.1,dput_apart R.2.1 kk g.1 R.2.2.2.2.1,DR.set kk ru R.2.2.2.2.2 g.2⟩
end
section
variable {prog:Program} {w:World} {H0:Heap} {h:AH} {W:Wd} {s:Shared} {A:Around} {E:Value→Shared→Prop} {d:Addr} {ep:Nat} {l:List (AVal×AVal)} {es:List DictEntry} {k u:AVal} {v c:Value}
theorem get_key {Q:Option Value→Shared→Prop} (R:DR w.params h W l es) (S:Sat w.params H0 W h s.heap) (hu:A.units + 200 < cLine) (ho:s.heap.get? d=some (PySem.W.dictOf es ep)) (kk:isKey k=true) (r:VR h W k v)
  (hs:∀ u c tk,dlk k l=some u→VR h W u c→Q (some c) { s with toks:=tk }) (hn:∀ tk,dlk k l=none→Q none { s with toks:=tk }):wpAny (model prog w) A (dictGet d v) Q E s:=by
 have hu1:A.units + 100 < cLine:=Nat.lt_of_le_of_lt (Nat.add_le_add_left (by decide) _) hu
 unfold dictGet
 refine wpAny_holding (wpAny_bind (key_hash hu1 S kk r fun tk=>wpAny_bind (find_key (s:={ s with toks:=tk }) R S hu1 ho rfl kk (fun hit f=>?_) v r)))
 cases hit with
 | none=>exact wpAny_pure (hn _ (dlk_none kk R f))
 | some j =>
  refine (dlk_at kk R f).elim fun p z=>(R.at j p z.1).elim fun kc y=>y.elim fun c y=>?_
  refine wpAny_bind (wpAny_dictEntries (s:={ s with toks:=tk }) ho rfl ?_)
  rw [List.getElem?_toArray,y.1]
  exact wpAny_pure (hs _ _ _ z.2 y.2.2.2)
theorem set_key {Q:Unit→Shared→Prop} (R:DR w.params h W l es) (S:Sat w.params H0 W h s.heap) (hu:A.units + 200 < cLine) (ho:s.heap.get? d=some (PySem.W.dictOf es ep)) (kk:isKey k=true) (r:VR h W k v) (ru:VR h W u c) (hl:l.length < 900000)
  (q:∀ es' ep' hp' tk,DR w.params h W (dput k u l) es'→hp'.get? d=some (PySem.W.dictOf es' ep')→Heap.SameBut d s.heap hp'→Q () { s with heap:=hp',toks:=tk }):wpAny (model prog w) A (dictSet d v c) Q E s:=by
 have hu1:A.units + 100 < cLine:=Nat.lt_of_le_of_lt (Nat.add_le_add_left (by decide) _) hu
 unfold dictSet
 refine wpAny_holding (wpAny_bind (key_hash hu1 S kk r fun tk=>?_))
 unfold dictSetHashed
 refine wpAny_holding (wpAny_bind (find_key (s:={ s with toks:=tk }) R S hu1 ho rfl kk (fun hit f=>?_) v r))
 cases hit with
 | none =>
  refine wpAny_bind (wpAny_rule (wpAny_updateDictKeys (hz:=?_) (s:={ s with toks:=tk }) ho rfl (q (es ++ [⟨keyH w.params k,v,c⟩]) (ep + 1) _ _ (R.new kk r ru f) ?_ (Heap.SameBut.update ..))))
  ·rw [Heap.get?_update_self _ ho rfl]; exact congrArg (fun a=>some (⟨.type "dict",none,.dict a (ep + 1),#[]⟩ : Obj)) (List.push_toArray ..)
  ·rw [List.size_toArray,R.len,sizeLine_eq]; omega
 | some j =>
  refine wpAny_bind (wpAny_rule (wpAny_bind (wpAny_updateDict (s:={ s with toks:=tk }) ho rfl (wpAny_point (q (es.modify j fun e=>{ e with val:=c }) ep _ _ (R.set kk ru f) ?_ (Heap.SameBut.update ..))))))
  rw [Heap.get?_update_self _ ho rfl]; exact congrArg (fun a=>some (⟨.type "dict",none,.dict a ep,#[]⟩ : Obj)) (List.modify_toArray ..)
end
end
section
noncomputable def notInst:AObj→Bool
 | .inst _ _=>false
 | _=>true
theorem has_plain {h:AH} {n:Nm} {o:AObj} (e:h n=some o) (k:notInst o=true) (b:Bool):has h n b = !b:=by
 cases b with
 | false=>exact has_some e
 | true =>
  show (match h n with | some (.inst _ _)=>true | _=>false)=false
  rw [e]
  cases o <;> first | rfl | exact ft k
section
variable {P:Params} {H0:Heap} {h:AH} {W:Wd} {s:Shared}
theorem upd_le {n:Nm} {o o':AObj} (hn:h n=some o) (k1:notInst o=true) (k2:notInst o'=true):Le h W (hset h n o') W :=
 ⟨fun _ _ e=>e,fun m b e=>⟨(nm_cases m n).elim (fun q=>by rw [q] at e ⊢; rw [has_plain (hset_self h n o') k2,← has_plain hn k1]; exact e) fun q=>by rw [has_ne q]; exact e,rfl⟩⟩
theorem upd_one {n:Nm} {o o':AObj} (S:Sat P H0 W h s.heap) (hn:h n=some o) (k1:notInst o=true) (k2:notInst o'=true) {hp':Heap} {tk:Nat} {ob:Obj} (sb:Heap.SameBut (W.ad n false) s.heap hp') (g:hp'.get? (W.ad n false)=some ob)
  (x:OR P (hset h n o') W hp' n o'):Sat P H0 W (hset h n o') hp'∧Le h W (hset h n o') W∧Ex all' h W s (hset h n o') W { s with heap:=hp',toks:=tk } none :=
 upd_ex S (fun b=>by rw [has_plain (hset_self h n o') k2,has_plain hn k1]) (fun a o na e=>(sb.2 a (na false (has_some hn))).trans e) (fun b hb=>by
  cases b with
  | false=>rw [g]; rfl
  | true=>rw [has_plain hn k1] at hb; exact ft hb) x
theorem VRs.get:∀ {l:List AVal} {vs:List Value},VRs h W l vs→∀ {j:Nat} {u:AVal},nthV l j=some u→∃ v,vs[j]? = some v∧VR h W u v
 | [],_,_,_,_,e=>nos e
 | _ :: _,_,r,0,u,e=>r.iCons.elim fun v r=>r.elim fun vs r=>⟨v,by rw [r.1]; rfl,(Option.some.inj e) ▸ r.2.1⟩
 | _ :: l,_,r,j + 1,u,e=>r.iCons.elim fun v r=>r.elim fun vs r=>by rw [r.1]; exact VRs.get r.2.2 (j:=j) e
theorem VRs.put:∀ {l:List AVal} {vs:List Value},VRs h W l vs→∀ {j:Nat} {u:AVal} {v:Value} {q:List AVal},VR h W u v→setNth l j u=some q→VRs h W q (vs.set j v)∧j < vs.length
 | [],_,_,_,_,_,_,_,e=>nos e
 | _ :: _,_,r,0,u,v,q,x,e=>r.iCons.elim fun y r=>r.elim fun vs r=>by rw [r.1,← Option.some.inj e]; exact ⟨.cons x r.2.2,Nat.succ_pos _⟩
 | a :: l,_,r,j + 1,u,v,q,x,e=>r.iCons.elim fun y r=>r.elim fun vs r=>by
  cases hq:setNth l j u with
  | none=>rw [show setNth (a :: l) (j + 1) u=(match setNth l j u with | some q=>some (a :: q) | none=>none) from rfl,hq] at e; exact nos e
  | some q' =>
   rw [show setNth (a :: l) (j + 1) u=(match setNth l j u with | some q=>some (a :: q) | none=>none) from rfl,hq] at e
   have z:=VRs.put r.2.2 x hq
   rw [r.1,← Option.some.inj e]
   exact ⟨.cons r.2.1 z.1,Nat.succ_lt_succ z.2⟩
theorem Sat.list {n:Nm} {l:List AVal} {hp:Heap} (S:Sat P H0 W h hp) (hn:h n=some (.list l)):∃ vs k,hp.get? (W.ad n false)=some (listObj vs k)∧VRs h W l vs.toList∧l.length≤1000000:=S.obj n _ hn
theorem Sat.dict {n:Nm} {l:List (AVal×AVal)} {hp:Heap} (S:Sat P H0 W h hp) (hn:h n=some (.dict l)):∃ es k,hp.get? (W.ad n false)=some (PySem.W.dictOf es k)∧DR P h W l es∧l.length≤1000000:=S.obj n _ hn
end
section
variable {c:Cx} {h:AH} {W:Wd} {s:Shared} {A:Around} {K:KV} {n:Nm} {u y:AVal} {l l2:List AVal} {d:List (AVal×AVal)}
theorem sys_ne (M:Md c h W s A) {n:Nm} {b:Bool} (e:has h n b=true):(W.ad n b == sysModules)=false :=
 M.b.sysm.elim fun o ho=>beq_eq_false_iff_ne.mpr fun q=>son ((M.sat.stat _ _ ho).symm.trans (by rw [← q]; exact M.sat.gno n b e))
theorem idx_lt {vs:Array Value} {j:Nat} {v:Value} (e:vs.toList[j]? = some v):j < vs.size:=by
 have:=(List.getElem?_eq_some_iff.mp e).1
 rw [Array.length_toList] at this; exact this
theorem gi_tup {i:Int} {m:Nat} (h0:i=Int.ofNat m) (h1:nthV l m=some u) (h2:Nat.blt m 1000000=true) (k:K u h):GI (.tup l) (.int i) h K:=fun c W s A v' i' sl value hn M r rk=>.i <| by
 subst h0
 refine r.iTup.elim fun a z=>z.elim fun vs z=>rk.elim fun t e=>(z.2.2.get h1).elim fun x y=>?_
 rw [z.1,e]
 have hT:IsTup s.heap a vs.toArray:=⟨_,M.sat.keep _ _ z.2.1,rfl,0,rfl⟩
 have lt:m < 1000000:=Nat.le_of_ble_eq_true h2
 refine tail_any hT.typeIs slot_tuple_getitem.lookup (getItem_tuple hT (j:=m) (x:=x) ?_ ?_ ?_ ?_ (PX.here M.sat y.2 k)) (hn _ _)
 ·exact Int.le_trans (by decide) (Int.natCast_nonneg m)
 ·exact i63 (Nat.le_of_lt lt)
 ·have h2:m < vs.length:=(List.getElem?_eq_some_iff.mp y.1).1
  unfold seqIndex?
  rw [show Int.ofNat m=(m:Int) from rfl]
  simp <;> omega
 ·rw [List.getElem?_toArray]; exact y.1
theorem gi_list {i:Int} {j:Nat} (hl:h n=some (.list l)) (h0:i=Int.ofNat j) (h1:nthV l j=some u) (k:K u h):GI (.ref n) (.int i) h K:=fun c W s A v' i' sl value hn M r rk=>.i <| by
 subst h0
 refine (M.sat.list hl).elim fun vs z=>z.elim fun m z=>rk.elim fun t e=>(z.2.1.get h1).elim fun x y=>?_
 rw [r.2,e]
 refine tail_any (T := "list") ⟨_,z.1,rfl⟩ slot_list_getitem.lookup (wpAny_getItem_list (items:=vs) (x:=x) ⟨_,z.1,rfl,m,rfl⟩ (Int.natCast_nonneg j) ?_ ?_ (PX.here M.sat y.2 k)) (hn _ _)
 ·have:=idx_lt y.1
  have:=z.2.1.length
  rw [Array.length_toList (xs:=vs)] at this
  have:=z.2.2
  show (j:Int) < 2 ^ 63
  omega
 ·show vs[j]? = some x
  rw [← Array.getElem?_toList]; exact y.1
theorem gi_dict {y:AVal} (hl:h n=some (.dict d)) (h1:isKey y=true) (h2:dlk y d=some u) (k:K u h):GI (.ref n) y h K:=fun c W s A v' i sl value hn M r rk=>.i <| by
 rw [r.2]
 refine (M.sat.dict hl).elim fun es z=>z.elim fun m z=>?_
 have hT:s.TypeIs (.ref (W.ad n false)) "dict":=⟨_,z.1,rfl⟩
 refine tail_any hT slot_dict_getitem.lookup ?_ (hn _ _)
 unfold getItem
 refine wpAny_holding (wpAny_bind (wpAny_sequenceKey hT (by decide) ?_))
 refine wpAny_bind (wpAny_callSpecial?_slot (name:=Str.ofString "__getitem__") hT slot_dict_getitem (wpAny_call_entry slot_dict_getitem hT entry_dict_getitem ?_ (args_dict_getitem _ _)))
 refine wpAny_bind (m:=dictGet (W.ad n false) i) (get_key z.2.1 M.sat (u_201 M.u) z.1 h1 rk (fun u' x tk e' r'=>?_) fun tk e'=>nos (e'.symm.trans h2))
 exact wpAny_pure ⟨x,rfl,wpAny_pure (PX.tok M.sat (Option.some.inj (h2.symm.trans e') ▸ r') k)⟩
theorem setItem_listX {prog:Program} {w:World} {ad:Addr} {items:Array Value} {n j:Nat} {i:Int} {t:Tok} {v:Value} {Q:Unit→Shared→Prop} {E:Value→Shared→Prop} (ho:s.heap.get? ad=some (listObj items n))
  (e:i=Int.ofNat j) (h0:0≤i) (hfit:i < 2 ^ 63) (hj:j < items.size) (hQ:Q () { s with heap:=s.heap.update ad (Obj.mapSeq (·.setIfInBounds j v)) }):wpAny (model prog w) A (setItem (.ref ad) (.int i t) v) Q E s:=by
 have hl:s.heap.IsList ad items:=⟨_,ho,rfl,n,rfl⟩
 unfold setItem
 refine wpAny_holding (wpAny_bind (wpAny_sequenceKey hl.typeIs (by decide) ?_))
 refine wpAny_bind (wpAny_callSpecial?_slot (name:=Str.ofString "__setitem__") hl.typeIs slot_list_setitem (wpAny_call_entry slot_list_setitem hl.typeIs entry_list_setitem ?_ (args_list_setitem _ _ _)))
 show wpAny _ _ (Builtin.List.listSubscript? (.int i t) >>= _) _ _ s
 refine wpAny_bind (wpAny_listSubscript_int (fitsIndex_of h0 hfit) ?_)
 clear hfit h0
 subst e
 show wpAny _ _ ((seqItemAt ad j >>= fun r=>pure (r.map (j,·))) >>= _) _ _ s
 refine wpAny_bind (wpAny_bind (wpAny_seqItemAt ho rfl (wpAny_pure ?_)))
 rw [show items[j]? = some items[j] from Array.getElem?_eq_getElem hj]
 show wpAny _ _ (setSeqItemAt ad j v >>= _) _ _ s
 exact wpAny_bind (wpAny_setSeqItemAt ho rfl (wpAny_pure ⟨.none,rfl,wpAny_pure hQ⟩))
theorem si_list {K:AH→Prop} {i:Int} {j:Nat} (hl:h n=some (.list l)) (h0:i=Int.ofNat j) (h1:setNth l j u=some l2) (k:K (hset h n (.list l2))):SI (.ref n) (.int i) u h K:=fun c W s A v' i' y M r rk ry=>.i <| by
 subst h0
 refine (M.sat.list hl).elim fun vs z=>z.elim fun m z=>rk.elim fun t e=>?_
 rw [r.2,e]
 have rr:=z.2.1.put ry h1
 have e1:=z.2.1.length
 have lt:=rr.2
 have e2:=rr.1.length
 rw [List.length_set] at e2
 rw [Array.length_toList (xs:=vs)] at e1 lt e2
 refine setItem_listX z.1 rfl (Int.natCast_nonneg j) (i63 (Nat.le_of_lt (Nat.lt_of_lt_of_le lt (e1 ▸ z.2.2)))) lt ?_
 have g:(s.heap.update (W.ad n false) (Obj.mapSeq (·.setIfInBounds j y))).get? (W.ad n false)=some (listObj (vs.setIfInBounds j y) m):=by
  rw [Heap.get?_update_self _ z.1 rfl]; exact congrArg (fun k=>some (listObj (vs.setIfInBounds j y) k)) (if_pos (beq_iff_eq.mpr Array.size_setIfInBounds))
 have U:=upd_one (o':=.list l2) (tk:=s.toks) M.sat hl rfl rfl (Heap.SameBut.update ..) g ⟨_,_,g,by
  rw [Array.toList_setIfInBounds]; exact rr.1.mono (upd_le hl rfl rfl),by rw [e2,← e1]; exact z.2.2⟩
 exact ⟨(),_,W,U.2.2,U.1,trivial,k⟩
theorem si_dict {K:AH→Prop} {y:AVal} (hl:h n=some (.dict d)) (h1:isKey y=true) (h2:d.length < 900000) (k:K (hset h n (.dict (dput y u d)))):SI (.ref n) y u h K:=fun c W s A v' i x M r rk ry=>.i <| by
 refine (M.sat.dict hl).elim fun es z=>z.elim fun m z=>?_
 rw [r.2]
 have hT:s.TypeIs (.ref (W.ad n false)) "dict":=⟨_,z.1,rfl⟩
 unfold setItem
 refine wpAny_holding (wpAny_bind (wpAny_sequenceKey hT (by decide) ?_))
 refine wpAny_bind (wpAny_callSpecial?_slot (name:=Str.ofString "__setitem__") hT slot_dict_setitem (wpAny_call_entry slot_dict_setitem hT entry_dict_setitem ?_ (args_dict_setitem _ _ _)))
 refine wpAny_bind (m:=Builtin.Dict.notOrdered "__setitem__" ⟨[.ref (W.ad n false),i,x],[]⟩) (wpAny_notOrdered_dict hT ?_)
 refine wpAny_bind (m:=dictSet (W.ad n false) i x) (set_key z.2.1 M.sat (u_201 M.u) z.1 h1 rk ry h2 fun es' ep' hp' tk R' g sb=>wpAny_pure ⟨.none,rfl,wpAny_pure ?_⟩)
 have U:=upd_one (o':=.dict (dput y u d)) (tk:=tk) M.sat hl rfl rfl sb g ⟨es',ep',g,R'.mono (upd_le hl rfl rfl),Nat.le_trans (dput_len d) (by omega)⟩
 exact ⟨(),_,W,U.2.2,U.1,trivial,k⟩
end
end
section
open PySem.MeetsSeq
section
variable {h:AH} {K:KV} {i j:Int} {u:AVal} {n:Nm} {d:List (AVal×AVal)}
theorem int2 {A:Around} {M:Model} {F:Value→Value→Sem Value} {s:Shared} {Q E:Value→Shared→Prop} {W:Wd} {v u:Value} (x:VR h W (.int i) v) (y:VR h W (.int j) u) (k:∀ t t',wpAny M A (F (.int i t) (.int j t')) Q E s):wpAny M A (F v u) Q E s :=
 x.elim fun t e=>y.elim fun t' e'=>by rw [e,e']; exact k t t'
theorem cm_lt (k:K (.bool (decide (i < j))) h):CM .Lt (.int i) (.int j) h K:=fun _ _ _ _ _ _ M r rb=>.i <| int2 (F:=compareOp .Lt) r rb fun _ _=>P.lt_int (PX.here M.sat (VR.bool _) k)
theorem cm_le (k:K (.bool (decide (i≤j))) h):CM .LtE (.int i) (.int j) h K:=fun _ _ _ _ _ _ M r rb=>.i <| int2 (F:=compareOp .LtE) r rb fun _ _=>P.le_int (PX.here M.sat (VR.bool _) k)
theorem cm_gt (k:K (.bool (decide (i > j))) h):CM .Gt (.int i) (.int j) h K:=fun _ _ _ _ _ _ M r rb=>.i <| int2 (F:=compareOp .Gt) r rb fun _ _=>P.gt_int (PX.here M.sat (VR.bool _) k)
theorem cm_ge (k:K (.bool (decide (i ≥ j))) h):CM .GtE (.int i) (.int j) h K:=fun _ _ _ _ _ _ M r rb=>.i <| int2 (F:=compareOp .GtE) r rb fun _ _=>P.ge_int (PX.here M.sat (VR.bool _) k)
theorem is_none {W:Wd} {a:AVal} {v:Value} (r:VR h W a v):PySem.plainIs v .none=true∧(v == Value.none)=isNone' a:=by
 cases a with
 | int i=>exact r.elim fun t e=>by rw [e]; exact ⟨rfl,rfl⟩
 | str i=>exact r.elim fun t e=>by rw [e]; exact ⟨rfl,rfl⟩
 | tup l=>exact r.elim fun a r=>r.elim fun _ r=>by rw [r.1]; exact ⟨rfl,rfl⟩
 | sl l=>exact r.elim fun a r=>r.elim fun _ r=>r.elim fun _ r=>r.elim fun _ r=>by rw [r.1]; exact ⟨rfl,rfl⟩
 | ref n=>rw [r.2]; exact ⟨rfl,rfl⟩
 | _=>rw [show v=_ from r]; exact ⟨rfl,rfl⟩
theorem cm_is (k:K (.bool (isNone' u)) h):CM .Is u .none h K:=fun _ _ _ _ v w M r rb=>.i <| by
 have z:=is_none r
 rw [show w=_ from rb]
 rw [← z.2] at k
 exact wpAny_is_plain z.1 (PX.here M.sat (VR.bool _) k)
theorem cm_isnot (k:K (.bool (!isNone' u)) h):CM .IsNot u .none h K:=fun _ _ _ _ v w M r rb=>.i <| by
 have z:=is_none r
 rw [show w=_ from rb]
 rw [← z.2] at k
 exact wpAny_bind (wpAny_isSame_plain z.1 (wpAny_pure (PX.here M.sat (VR.bool _) k)))
theorem contains_dict {c:Cx} {W:Wd} {s:Shared} {A:Around} {ad:Addr} {es ep} {v:Value} {Q:Bool→Shared→Prop} {E:Value→Shared→Prop} (M:Md c h W s A) (R:DR c.w.params h W d es) (hd:(ad == sysModules)=false) (ho:s.heap.get? ad=some (PySem.W.dictOf es ep)) (kk:isKey u=true) (r:VR h W u v)
  (q:∀ tk,Q (dlk u d).isSome { s with toks:=tk }):wpAny (model pw c.w) A (contains (.ref ad) v) Q E s:=by
 have hT:s.TypeIs (.ref ad) "dict":=⟨_,ho,rfl⟩
 unfold contains
 refine wpAny_holding (wpAny_bind (wpAny_specialOf hT slot_dict_contains.lookup ?_))
 show wpAny _ _ (if (some (Value.builtin "dict.__contains__") == some Value.none)=true then _ else _) _ E s
 rw [if_neg (by rw [beq_builtin_none]; exact Bool.false_ne_true)]
 refine wpAny_bind (wpAny_callSpecialUnlessNone?_slot (name:=Str.ofString "__contains__") hT slot_dict_contains (wpAny_call_entry slot_dict_contains hT entry_dict_contains ?_ (args_dict_contains _ _)))
 refine wpAny_bind (m:=dictGet ad v) (get_key R M.sat (u_201 M.u) ho kk r (fun u x tk e _=>?_) fun tk e=>?_)
 ·have q:=q tk
  rw [e] at q
  exact wpAny_pure ⟨_,rfl,wpAny_truthy_bool q⟩
 ·have q:=q tk
  rw [e] at q
  exact wpAny_bind (m:=Builtin.Dict.pendingKey? ad v) (wpAny_pendingKey_other hd (wpAny_pure ⟨_,rfl,wpAny_truthy_bool q⟩))
theorem cm_in_dict (hn:h n=some (.dict d)) (h1:isKey u=true) (k:K (.bool (dlk u d).isSome) h):CM .In u (.ref n) h K:=fun c W s A v w M r rb=>.i <| by
 rw [rb.2]
 refine (M.sat.dict hn).elim fun es z=>z.elim fun m z=>?_
 exact wpAny_bind (m:=contains (.ref (W.ad n false)) v) (contains_dict M z.2.1 (sys_ne M (has_some hn)) z.1 h1 r fun tk=>wpAny_pure (PX.tok M.sat (VR.bool _) k))
noncomputable def kdE:List (Int×Nat×Nat):=[(20,468,410),(9,469,412),(10,470,414),(11,471,416),(12,472,418),(13,473,420),(14,474,422),(15,475,424),(16,476,426),(17,477,428),(18,478,430),(19,479,432),(1,480,434),(4,481,436)]
noncomputable def kdD:Int→List (Int×Nat×Nat)→List (AVal×AVal)
 | _,[]=>[]
 | j,(i,_,_) :: r=>(.int i,.int j) :: kdD (j + 1) r
noncomputable def kdS:Int→List (Int×Nat×Nat)→List DictEntry
 | _,[]=>[]
 | j,(i,t,u) :: r=>⟨hashInt i,.int i t,.int j u⟩ :: kdS (j + 1) r
theorem kd_at (P:Params):(KF P).lookup 152=some (PySem.W.dictOf (kdS 0 kdE) 14):=by kernel_rfl
noncomputable def kdF:List (Int×Nat×Nat)→Bool
 | []=>true
 | p :: r=>(kdD 0 r).all (fun q=>!keyEq q.1 (.int p.1)) && kdF r
theorem kdD_k {q}:∀ {l:List (Int×Nat×Nat)} {j j':Int},q∈kdD j l→∃ q'∈kdD j' l,q'.1=q.1
 | [],_,_,m=>absurd m List.not_mem_nil
 | (i,_,_) :: r,j,j',m=>(List.mem_cons.mp m).elim (fun e=>⟨_,.head _,by rw [e]⟩) fun m=>(kdD_k (j':=j' + 1) m).elim fun q' z=>⟨q',.tail _ z.1,z.2⟩
theorem kd_dr {P:Params} {W:Wd}:∀ {l:List (Int×Nat×Nat)} {j:Int},kdF l=true→DR P h W (kdD j l) (kdS j l)
 | [],_,_=>rfl
 |
  (i,t,u) :: r,j,e=>have x:=Bool.and_eq_true_iff.mp e
  ⟨.int i t,.int j u,kdS (j + 1) r,by rw [show keyH P (.int i)=hashInt i from hashW_int P i]; rfl,rfl,VR.int i t,VR.int j u,fun q m=>(kdD_k (j':=0) m).elim fun q' z=>by
   have:=List.all_eq_true.mp x.1 q' z.1
   rw [z.2] at this
   exact Bool.not_eq_true' _ ▸ this,kd_dr x.2⟩
theorem cm_in_kd (h1:isKey u=true) (k:K (.bool (dlk u kdL).isSome) h):CM .In u .kd h K:=fun c W s A v w M r rb=>.i <| by
 rw [show w=_ from rb]
 exact wpAny_bind (m:=contains (.ref 152) v) (contains_dict M (kd_dr (l:=kdE) (j:=0) (by kernel_rfl)) (by decide) (M.sat.kin M.b _ _ (kd_at c.w.params)) h1 r fun tk=>wpAny_pure (PX.tok M.sat (VR.bool _) k))
noncomputable def vInt:Value→Int
 | .int i _=>i
 | _=>0
theorem toInts_c {i:Int} {l:List AVal} {q:List Int} (e:toInts (.int i :: l)=some q):∃ q',toInts l=some q'∧q=i :: q':=by
 replace e:(match toInts l with | some l=>some (i :: l) | none=>none)=some q:=e
 cases z:toInts l with
 | none=>rw [z] at e; exact nos e
 | some q'=>rw [z] at e; exact ⟨q',rfl,(Option.some.inj e).symm⟩
theorem toInts_at {W:Wd}:∀ {l:List AVal} {q:List Int} {vs:List Value},toInts l=some q→VRs h W l vs→q.length=l.length∧vs.map vInt=q∧∀ y∈vs,∃ t,y = .int (vInt y) t
 | [],q,vs,e,r=>by rw [show vs=[] from r,← Option.some.inj e]; exact ⟨rfl,rfl,fun y m=>absurd m List.not_mem_nil⟩
 | a :: l,q,vs,e,r=>r.iCons.elim fun v r=>r.elim fun vs r=>by
  cases a with
  | int i =>
   refine (toInts_c e).elim fun q' z=>r.2.1.elim fun t ev=>?_
   have ih:=toInts_at z.1 r.2.2
   rw [r.1,z.2,ev]
   exact ⟨congrArg (· + 1) ih.1,congrArg (i :: ·) ih.2.1,fun y m=>(List.mem_cons.mp m).elim (fun e=>⟨t,by rw [e]; rfl⟩) (ih.2.2 y)⟩
  | _=>exact nos e
theorem cm_nin_list {l:List AVal} {q:List Int} (hn:h n=some (.list l)) (h1:toInts l=some q) (k:K (.bool (!(q.any fun j=>j == i))) h):CM .NotIn (.int i) (.ref n) h K:=fun c W s A v w M r rb=>.i <| by
 refine (M.sat.list hn).elim fun vs z=>z.elim fun m z=>r.elim fun t e=>?_
 rw [rb.2,e]
 have f:=toInts_at h1 z.2.1
 refine SeqInW.notIn_listW (fun y=>vInt y == i) (fun y hy=>?_) ⟨_,z.1,rfl,m,rfl⟩ (PX.here M.sat (VR.bool _) ?_)
 ·refine (f.2.2 y (Array.mem_toList_iff.mpr hy)).elim fun t' e=>?_
  have:=EqGives.int (vInt y) i t' t
  rw [← e] at this; exact this
 ·rw [← f.2.1,List.any_map] at k
  rw [← Array.any_toList]; exact k
end
end
section
theorem app_nil1 {x:Str} (y:Str) (e:(x.length == 0)=true):x ++ y=y:=by
 obtain ⟨x⟩:=x
 obtain ⟨y⟩:=y
 rw [show x = #[] from Array.eq_empty_of_size_eq_zero (beq_iff_eq.mp e)]
 exact congrArg Str.mk Array.empty_append
theorem app_nil2 {y:Str} (x:Str) (e:(y.length == 0)=true):x ++ y=x:=by
 obtain ⟨x⟩:=x
 obtain ⟨y⟩:=y
 rw [show y = #[] from Array.eq_empty_of_size_eq_zero (beq_iff_eq.mp e)]
 exact congrArg Str.mk Array.append_empty
theorem app_len (x y:Str):(x ++ y).length=x.length + y.length:=Array.size_append ..
theorem get_size (hp:Heap) (k:Nat):hp.get? (hp.objs.size + k)=none:=by
 cases q:hp.get? (hp.objs.size + k) with
 | none=>rfl
 | some o=>exact absurd (Heap.lt_size q) (Nat.not_lt.mpr (Nat.le_add_right _ _))
section
variable {P:Params} {H0:Heap} {h:AH} {W:Wd} {s:Shared}
theorem has_no {n:Nm} (hn:h n=none) (b:Bool):has h n b=false:=by
 cases b with
 | false=>show (h n).isSome=false; rw [hn]; rfl
 | true=>show (match h n with | some (.inst _ _)=>true | _=>false)=false; rw [hn]
theorem put_le {n:Nm} {o:AObj} {a0 a1:Addr} (hn:h n=none):Le h W (hset h n o) (W.put n a0 a1):=⟨fun _ _ e=>e,fun m b e =>
 have ne:m≠n:=fun q=>ft ((has_no hn b).symm.trans (q ▸ e))
 ⟨by rw [has_ne ne]; exact e,put_ne ne⟩⟩
theorem put_ref {n:Nm} {o:AObj} {a0 a1:Addr}:VR (hset h n o) (W.put n a0 a1) (.ref n) (.ref a0):=⟨by rw [hset_self]; rfl,by rw [put_self]; rfl⟩
theorem own_new {n:Nm} {o:AObj} {a0 a1 a:Addr} {hp:Heap} (h0:hp.get? a0=none) (h1:hp.get? a1=none) (q:own (hset h n o) (W.put n a0 a1) a):own h W a∨hp.get? a=none :=
 q.elim fun m q=>q.elim fun b q=>by
  rw [q.2]
  rcases nm_cases m n with e | e
  ·rw [e,put_self]; cases b
   ·exact .inr h0
   ·exact .inr h1
  ·rw [put_ne e]; exact .inl ⟨m,b,(has_ne e).symm.trans q.1,rfl⟩
theorem keep_ex {hp':Heap} {tk:Nat} (hk:∀ a o,s.heap.get? a=some o→hp'.get? a=some o):Ex all' h W s h W { s with heap:=hp',toks:=tk } none :=
 ⟨fun _ _ e=>e,fun _ _ _ e=>⟨e,rfl⟩,fun a o e=>by show (hp'.get? a).isSome=true; rw [hk a o e]; rfl,fun a o e _ _=>hk a o e,fun _ e=>.inl e,fun _ _ e=>.inl e,rfl,rfl⟩
theorem Sat.keeps (S:Sat P H0 W h s.heap) {hp':Heap} (hk:∀ a o,s.heap.get? a=some o→hp'.get? a=some o):Sat P H0 W h hp':=S.congr fun a o _ e=>hk a o e
theorem new_at {n:Nm} {o:AObj} {hp':Heap} {a0 a1:Addr} {tk:Nat} (S:Sat P H0 W h s.heap) (hn:h n=none) (hk:∀ a o,s.heap.get? a=some o→hp'.get? a=some o) (h0:s.heap.get? a0=none) (h1:s.heap.get? a1=none) (ne:a0≠a1)
  (x:OR P (hset h n o) (W.put n a0 a1) hp' n o):Sat P H0 (W.put n a0 a1) (hset h n o) hp'∧Ex all' h W s (hset h n o) (W.put n a0 a1) { s with heap:=hp',toks:=tk } none:=by
 have A:=S.add hn hk h0 h1 ne x
 exact ⟨A.1,fun _ _ e=>e,fun m b _ e=>A.2.ad m b e,fun a o e=>by show (hp'.get? a).isSome=true; rw [hk a o e]; rfl,fun a o e _ _=>hk a o e,fun a e=>own_new h0 h1 e,fun _ _ e=>.inl e,rfl,rfl⟩
end
section
variable {c:Cx} {loc:Loc} {h:AH} {W:Wd} {s:Shared} {A:Around} {K:KV}
theorem new_list {l:List AVal} {vs:Array Value} {k:Nat} {tk:Nat} (S:Sat c.w.params c.H0 W h s.heap) (r:VRs h W l vs.toList) (z:NO (.list l) h K) :
  PX c h W s VR K (.ref s.heap.objs.size) { s with heap:=s.heap.push { cls:=.type "list",data:=.seq vs k },toks:=tk } :=
 z.2.elim fun n y=>by
  have g0:=get_size s.heap 0
  have N:=new_at (o:=.list l) (tk:=tk) S y.1 (fun a o e=>Heap.get?_push_of_some { cls:=.type "list",data:=.seq vs k } e) g0 (get_size s.heap 1) (Nat.ne_of_lt (Nat.lt_succ_self _)) ⟨vs,k,by rw [put_self]; exact Heap.get?_push_size _ rfl,r.mono (put_le y.1),z.1⟩
  exact ⟨_,_,_,N.2,N.1,put_ref,y.2⟩
theorem new_dict0 {tk:Nat} (S:Sat c.w.params c.H0 W h s.heap) (z:NO (.dict []) h K) :
  PX c h W s VR K (.ref s.heap.objs.size) { s with heap:=s.heap.push (PySem.W.dictOf [] 0),toks:=tk } :=
 z.2.elim fun n y=>by
  have g0:=get_size s.heap 0
  have N:=new_at (o:=.dict []) (tk:=tk) S y.1 (fun a o e=>Heap.get?_push_of_some (PySem.W.dictOf [] 0) e) g0 (get_size s.heap 1) (Nat.ne_of_lt (Nat.lt_succ_self _)) ⟨[],0,by rw [put_self]; exact Heap.get?_push_size _ rfl,rfl,z.1⟩
  exact ⟨_,_,_,N.2,N.1,put_ref,y.2⟩
theorem new_tuple {l:List AVal} {vs:List Value} {tk:Nat} (S:Sat c.w.params c.H0 W h s.heap) (r:VRs h W l vs) (z:K (.tup l) h) :
  PX c h W s VR K (.ref s.heap.objs.size) { s with heap:=s.heap.push { cls:=.type "tuple",data:=.seq vs.toArray },toks:=tk } :=
 (S.tuple r).elim fun W' y=>⟨_,h,W',⟨y.1.g,fun n b _ e=>y.1.ad n b e,fun a o e=>by show (Heap.get? _ a).isSome=true; rw [Heap.get?_push_of_some _ e]; rfl,fun a o e _ _=>Heap.get?_push_of_some _ e,fun a q=>q.elim fun m q=>q.elim fun b q=>.inl ⟨m,b,q.1,by rw [← y.2.2.2.1]; exact q.2⟩,y.2.2.2.2,rfl,rfl⟩,y.2.1,y.2.2.1,z⟩
variable {i j:Int}
theorem bi_add (k:K (.int (i + j)) h):BI .Add (.int i) (.int j) h K:=fun _ _ _ _ _ _ M r rb=>.i <| int2 (F:=binaryOp .Add) r rb fun _ _=>P.add_int (PX.tok M.sat (VR.int _ _) k)
theorem bi_sub (k:K (.int (i - j)) h):BI .Sub (.int i) (.int j) h K:=fun _ _ _ _ _ _ M r rb=>.i <| int2 (F:=binaryOp .Sub) r rb fun _ _=>P.sub_int (PX.tok M.sat (VR.int _ _) k)
theorem bi_mul (h1:Builtin.Int.intBits i≤64∨Builtin.Int.intBits j≤64) (k:K (.int (i * j)) h):BI .Mult (.int i) (.int j) h K:=fun _ _ _ _ _ _ M r rb=>.i <| int2 (F:=binaryOp .Mult) r rb fun _ _=>P.mul_int (PX.tok M.sat (VR.int _ _) k) (hm:=h1.elim IntMulOk.of_left IntMulOk.of_right)
theorem bi_fdiv (h1:j≠0∧j.natAbs < 1073741824) (k:K (.int (i.fdiv j)) h):BI .FloorDiv (.int i) (.int j) h K:=fun _ _ _ _ _ _ M r rb=>.i <| int2 (F:=binaryOp .FloorDiv) r rb fun _ _=>floordiv_int h1.1 (PX.tok M.sat (VR.int _ _) k) (.inl (PyProof.noPylong_small h1.2))
theorem bi_mod (h1:j≠0) (k:K (.int (i.fmod j)) h):BI .Mod (.int i) (.int j) h K:=fun _ _ _ _ _ _ M r rb=>.i <| int2 (F:=binaryOp .Mod) r rb fun _ _=>mod_int' h1 (PX.tok M.sat (VR.int _ _) k)
theorem bi_and (k:K (.int (Builtin.bitAnd i j)) h):BI .BitAnd (.int i) (.int j) h K:=fun _ _ _ _ _ _ M r rb=>.i <| int2 (F:=binaryOp .BitAnd) r rb fun _ _=>and_int (PX.tok M.sat (VR.int _ _) k)
theorem bi_shr (h1:0≤j) (k:K (.int (i.fdiv (2 ^ j.toNat))) h):BI .RShift (.int i) (.int j) h K:=fun _ _ _ _ _ _ M r rb=>.i <| int2 (F:=binaryOp .RShift) r rb fun _ _=>rshift_int h1 (PX.tok M.sat (VR.int _ _) k)
theorem bi_shl (h1:0≤j∧j≤1000∧i.natAbs < 2 ^ 62) (k:K (.int (i * 2 ^ j.toNat)) h):BI .LShift (.int i) (.int j) h K:=fun _ _ _ _ _ _ M r rb=>.i <| int2 (F:=binaryOp .LShift) r rb fun _ _=>lshift_int_small h1.1 (by omega) (by omega) (PX.tok M.sat (VR.int _ _) k)
theorem bi_str {x y:Str} (h1:x.length + y.length≤1000000) (k:K (.str (x ++ y)) h):BI .Add (.str x) (.str y) h K:=fun _ _ _ _ v u M r rb=>.i <| r.elim fun t e=>rb.elim fun t' e'=>by
 rw [e,e']
 refine P.add_str ?_
 split
 ·rename_i q
  rw [app_nil1 y q] at k
  exact PX.here M.sat (VR.str _ _) k
 ·split
  ·rename_i q
   rw [app_nil2 x q] at k
   exact PX.here M.sat (VR.str _ _) k
  ·exact ⟨by rw [app_len,sizeLine_eq]; omega,PX.tok M.sat (VR.str _ _) k⟩
theorem bi_list {n m:Nm} {l l2:List AVal} (hn:h n=some (.list l)) (hm:h m=some (.list l2)) (k:NO (.list (l ++ l2)) h K):BI .Add (.ref n) (.ref m) h K:=fun _ _ _ _ _ _ M r rb=>.i <| by
 rw [r.2,rb.2]
 refine (M.sat.list hn).elim fun vs z=>z.elim fun k1 z=>(M.sat.list hm).elim fun us y=>y.elim fun k2 y=>?_
 have e1:=z.2.1.length
 have e2:=y.2.1.length
 rw [Array.length_toList (xs:=vs)] at e1
 rw [Array.length_toList (xs:=us)] at e2
 exact concat_meets ⟨_,z.1,rfl⟩ ⟨_,y.1,rfl⟩ noFill_list_add seq_list_add PySem.F.slot_list_add PySem.F.entry_list_add (PySem.F.args_list_add_2 _ _) (list_addW _ _ vs us k1 k2 none none #[] #[] (by rw [sizeLine_eq]; have:=z.2.2; have:=y.2.2; omega)) ⟨z.1,y.1,new_list M.sat (by rw [Array.toList_append]; exact z.2.1.append y.2.1) k⟩
theorem au_add (k:K (.int (i + j)) h):AU .Add (.int i) (.int j) h K:=fun _ _ _ _ _ _ M r rb=>.i <| int2 (F:=inplaceOp .Add) r rb fun _ _=>P.iadd_int (PX.tok M.sat (VR.int _ _) k)
end
end
section
noncomputable def trees (as:List Expr) (env:Env):List (Bool×Sem Value):=as.map fun e=>(false,eval e env)
theorem tree_eq {e:Expr} {r:List Expr} {env:Env} (q:isStar e=false):starEach (e :: r) env=(false,eval e env) :: starEach r env:=by
 cases e <;> first | rfl | exact ft q.symm
theorem trees_eq {pos:Pos} {env:Env}:∀ {as:List Expr},as.all (fun e=>!isStar e)=true→backTo pos (starEach as env)=trees as env
 | [],_=>rfl
 | e :: r,q=>by
  have z:=Bool.and_eq_true_iff.mp q
  rw [tree_eq (Bool.not_eq_true' _ ▸ z.1)]
  exact congrArg ((false,eval e env) :: ·) (trees_eq (pos:=pos) z.2)
theorem aOk_all {as:List Expr} (e:aOk as=true):as.all (fun e=>!isStar e)=true:=(Bool.and_eq_true_iff.mp e).1
theorem aOk_lt {as:List Expr} (e:aOk as=true):as.length < 25:=Nat.le_of_ble_eq_true (Bool.and_eq_true_iff.mp e).2
def EL (c:Cx) (loc:Loc) (es:List Expr) (h:AH) (K:KVL):Prop:=∀ W s L env A,At c loc h W s L env A→Wp c A (spliced (trees es env)) (PX c h W s (fun h W l vs=>VRs h W l vs∧vs.length=es.length) K) NoE s
section
variable {c:Cx} {loc:Loc} {h:AH} {W:Wd} {s:Shared} {L:Addr} {env:Env} {A:Around} {E':Value→Shared→Prop}
theorem E.go {e:Expr} {K:KV} {f:Value→Shared→Prop} (k:E c loc e h K) (a:At c loc h W s L env A) (y:∀ v s1 av h1 W1,Ex all' h W s h1 W1 s1 none→At c loc h1 W1 s1 L env A→VR h1 W1 av v→K av h1→f v s1):wpAny (model pw c.w) A (eval e env) f E' s :=
 PX.bind (k W s L env A a).o fun v s1 av h1 W1 X S r k=>y v s1 av h1 W1 X (a.step X S) r k
theorem E.go2 {e e2:Expr} {F:AVal→AVal→AH→Prop} {f:Value→Value→Shared→Prop} (k:E c loc e h fun x h1=>E c loc e2 h1 fun y h2=>F x y h2) (a:At c loc h W s L env A) (y:∀ v u s1 av bv h1 W1,Ex all' h W s h1 W1 s1 none→At c loc h1 W1 s1 L env A→VR h1 W1 av v→VR h1 W1 bv u→F av bv h1→f v u s1) :
  wpAny (model pw c.w) A (eval e env) (fun v s1=>wpAny (model pw c.w) A (eval e2 env) (f v) E' s1) E' s :=
 k.go a fun v _ av _ _ X a1 r k=>k.go a1 fun u s2 bv h2 W2 X2 a2 r2 k2=>y v u s2 av bv h2 W2 (X.trans X2) a2 (r.mono X2.le) r2 k2
theorem T.go {e:Expr} {K:KVB} {f:Bool→Shared→Prop} (k:T c loc e h K) (a:At c loc h W s L env A) (y:∀ b s1 h1 W1,Ex all' h W s h1 W1 s1 none→At c loc h1 W1 s1 L env A→K b h1→f b s1):wpAny (model pw c.w) A (isTrue e env (eval e env)) f E' s :=
 PX.bind (k W s L env A a).o fun v s1 b h1 W1 X S r k=>(show b=v from r) ▸ y b s1 h1 W1 X (a.step X S) k
theorem EL.go {es:List Expr} {K:KVL} {f:List Value→Shared→Prop} (k:EL c loc es h K) (a:At c loc h W s L env A) (y:∀ vs s1 l h1 W1,Ex all' h W s h1 W1 s1 none→At c loc h1 W1 s1 L env A→VRs h1 W1 l vs→vs.length=es.length→K l h1→f vs s1):wpAny (model pw c.w) A (spliced (trees es env)) f E' s :=
 PX.bind (k W s L env A a).o fun vs s1 l h1 W1 X S r k=>y vs s1 l h1 W1 X (a.step X S) r.1 r.2 k
variable {K:KV} {KB:KVB} {KL:KVL} {e l r o i e2 t x y:Expr} {as:List Expr} {n:Str} {p q:Pos} {v:AVal} {b:Bool} {j:Int}
theorem tv_bool (k:KB b h):TV (.bool b) h KB:=fun _ _ _ _ u M r=>.i <| by rw [show u=_ from r]; exact wpAny_truthy_bool (PX.here M.sat rfl k)
theorem tv_int (k:KB (j != 0) h):TV (.int j) h KB:=fun _ _ _ _ u M r=>.i <| r.elim fun t e=>by rw [e]; exact P.truthy_int (PX.here M.sat rfl k)
theorem tv_str {a:Str} (h1:a.length < 1000000) (k:KB ((a.length:Int) != 0) h):TV (.str a) h KB:=fun _ _ _ _ u M r=>.i <| r.elim fun t e=>by rw [e]; exact P.truthy_str (by omega) (PX.tok M.sat rfl k)
theorem tv_none (k:KB false h):TV .none h KB:=fun _ _ _ _ u M r=>.i <| by rw [show u=_ from r]; exact PyProof.Rows.truthy_none (PX.here M.sat rfl k)
theorem tvB_ok (e:tvB v=some b) (k:KB b h):TV v h KB:=by
 cases v <;> first | exact nos e | exact tv_none (Option.some.inj e ▸ k) | exact tv_bool (Option.some.inj e ▸ k) | exact tv_int (Option.some.inj e ▸ k)
theorem e_attr (hb:BaseOk o n) (k:E c loc o h fun v h1=>GA v n h1 K):E c loc (.Attribute o n p) h K:=fun W s L env A a=>.i <|
 Attribute_any_ (k.go a fun v s1 av h1 W1 X a1 r k=>PX.up X (k c W1 s1 A v _ a1.m r).o) (by rw [arm_eval_Attribute,hb])
theorem e_sub (hn:SubOk i) (k:E c loc o h fun v h1=>E c loc i h1 fun u h2=>GI v u h2 K):E c loc (.Subscript o i p) h K:=fun W s L env A a=>.i <|
 Subscript_ (k.go2 a fun v u s1 av bv h1 W1 X a1 r r2 k=>PX.up X (k c W1 s1 A v u i o hn a1.m r r2).o)
theorem e_bin {op:Operator} (k:E c loc l h fun a h1=>E c loc r h1 fun b h2=>BI op a b h2 K):E c loc (.BinOp l op r p) h K:=fun W s L env A a=>.i <|
 wpAny_BinOp (k.go2 a fun v u s1 av bv h1 W1 X a1 r r2 k=>PX.up X (k c W1 s1 A v u a1.m r r2).o)
theorem e_cmp {op:CmpOp} (hb:behindInMarks op r=false) (k:E c loc l h fun a h1=>E c loc r h1 fun b h2=>CM op a b h2 K):E c loc (.Compare l [op] [r] p) h K:=fun W s L env A a=>.i <|
 wpAny_Compare1 (k.go2 a fun v u s1 av bv h1 W1 X a1 r r2 k=>PX.up X (k c W1 s1 A v u a1.m r r2).o) hb
def NG (v:AVal) (h:AH) (K:KV):Prop:=∃ i,v = .int i∧K (.int (-i)) h
theorem ng (k:K (.int (-j)) h):NG (.int j) h K:=⟨j,rfl,k⟩
theorem e_neg (k:E c loc e h fun v h1=>NG v h1 K):E c loc (.UnaryOp .USub e p) h K:=fun W s L env A a=>.i <|
 wpAny_UnaryOp (k.go a fun v s1 av h1 W1 X a1 r k=>k.elim fun i k=>by
  rw [k.1] at r
  exact r.elim fun t e=>by rw [e]; exact P.neg_int (PX.after X (PX.tok a1.m.sat (VR.int _ _) k.2)))
theorem e_and1 (k:E c loc e h K):E c loc (.BoolOp .And [e] p) h K:=k
theorem e_or1 (k:E c loc e h K):E c loc (.BoolOp .Or [e] p) h K:=k
theorem e_and (k:E c loc e h fun v h1=>TV v h1 fun b h2=>VI b (E c loc (.BoolOp .And (e2 :: as) p) h2 K) (K v h2)):E c loc (.BoolOp .And (e :: e2 :: as) p) h K:=fun W s L env A a=>.i <|
 BoolOp_and (k.go a fun v s1 av h1 W1 X a1 r k=>PX.bind (k c W1 s1 A v a1.m r).o fun b s2 b' h2 W2 X2 S2 rb k2=>by
  rw [show b'=b from rb] at k2
  cases b with
  | true=>exact PX.up (X.trans X2) (k2.1 rfl W2 s2 L env A (a1.step X2 S2)).o
  | false=>exact PX.after (X.trans X2) (PX.here S2 (r.mono X2.le) (k2.2 rfl)))
theorem e_or (k:E c loc e h fun v h1=>TV v h1 fun b h2=>VI b (K v h2) (E c loc (.BoolOp .Or (e2 :: as) p) h2 K)):E c loc (.BoolOp .Or (e :: e2 :: as) p) h K:=fun W s L env A a=>.i <|
 BoolOp_or (k.go a fun v s1 av h1 W1 X a1 r k=>PX.bind (k c W1 s1 A v a1.m r).o fun b s2 b' h2 W2 X2 S2 rb k2=>by
  rw [show b'=b from rb] at k2
  cases b with
  | true=>exact PX.after (X.trans X2) (PX.here S2 (r.mono X2.le) (k2.1 rfl))
  | false=>exact PX.up (X.trans X2) (k2.2 rfl W2 s2 L env A (a1.step X2 S2)).o)
theorem e_if (k:T c loc t h fun r h1=>VI r (E c loc x h1 K) (E c loc y h1 K)):E c loc (.IfExp t x y p) h K:=fun W s L env A a=>.i <|
 wpAny_IfExp (k.go a fun b s1 h1 W1 X a1 k=>by
  cases b with
  | true=>exact PX.up X (k.1 rfl W1 s1 L env A a1).o
  | false=>exact PX.up X (k.2 rfl W1 s1 L env A a1).o)
theorem el_nil (k:KL [] h):EL c loc [] h KL:=fun W s L env A a=>.i <| Calls.spliced_nil (PX.here a.m.sat ⟨VRs.nil,rfl⟩ k)
theorem el_cons (k:E c loc e h fun v h1=>EL c loc as h1 fun vs h2=>KL (v :: vs) h2):EL c loc (e :: as) h KL:=fun W s L env A a=>.i <|
 Calls.spliced_cons (k.go a fun v s1 av h1 W1 X a1 r k=>k.go a1 fun vs s2 l h2 W2 X2 a2 r2 n k2=>PX.after (X.trans X2) (PX.here a2.m.sat ⟨.cons (r.mono X2.le) r2,congrArg (· + 1) n⟩ k2))
theorem e_list (hs:aOk as=true) (k:EL c loc as h fun vs h1=>NO (.list vs) h1 K):E c loc (.List as p) h K:=fun W s L env A a=>.i <| wpAny_List (by
 rw [trees_eq (aOk_all hs)]
 exact k.go a fun vs s1 l h1 W1 X a1 r n k=>⟨by have:=aOk_lt hs; rw [sizeLine_eq]; omega,PX.after X (new_list (tk:=s1.toks) a1.m.sat (by simpa using r) k)⟩)
theorem e_tup {m:Nat} (hs:aOk as=true) (k:EL c loc as h fun vs h1=>K (.tup vs) h1):E c loc (.Tuple as m p) h K:=fun W s L env A a=>.i <| Tuple_ (by
 rw [trees_eq (aOk_all hs)]
 exact k.go a fun vs s1 l h1 W1 X a1 r n k=>wpAny_newTuple (PX.after X (new_tuple (tk:=s1.toks) a1.m.sat r k)) (by have:=aOk_lt hs; rw [sizeLine_eq]; omega))
theorem t_val (he:∀ env whole,isTrue e env whole=(do let v ← whole; standAt e.pos; holding [v] (truthy v))) (k:E c loc e h fun v h1=>TV v h1 KB):T c loc e h KB:=fun W s L env A a=>.i <|
 wpAny_isTrue_value (k.go a fun v s1 av h1 W1 X a1 r k=>PX.up X (k c W1 s1 A v a1.m r).o) (he _ _)
theorem t_name (k:E c loc (.Name n p) h fun v h1=>TV v h1 KB):T c loc (.Name n p) h KB:=t_val (fun _ _=>rfl) k
theorem t_call {bs:List Keyword} (k:E c loc (.Call e as bs p) h fun v h1=>TV v h1 KB):T c loc (.Call e as bs p) h KB:=t_val (fun _ _=>rfl) k
theorem t_bin {op:Operator} (k:E c loc (.BinOp l op r p) h fun v h1=>TV v h1 KB):T c loc (.BinOp l op r p) h KB:=t_val (fun _ _=>rfl) k
theorem t_not (k:T c loc e h fun b h1=>KB (!b) h1):T c loc (.UnaryOp .Not e p) h KB:=fun W s L env A a=>.i <|
 PyProof.Rows.isTrue_not (k.go a fun b s1 h1 W1 X a1 k=>PX.after X (PX.here a1.m.sat rfl k))
theorem t_and0 (k:KB true h):T c loc (.BoolOp .And [] p) h KB:=fun W s L env A a=>.i <| isTrue_and_nil (PX.here a.m.sat rfl k)
theorem t_or0 (k:KB false h):T c loc (.BoolOp .Or [] p) h KB:=fun W s L env A a=>.i <| isTrue_or_nil (PX.here a.m.sat rfl k)
theorem t_and (k:T c loc e h fun b h2=>VI b (T c loc (.BoolOp .And as p) h2 KB) (KB false h2)):T c loc (.BoolOp .And (e :: as) p) h KB:=fun W s L env A a=>.i <|
 isTrue_and (k.go a fun b s1 h1 W1 X a1 k=>by
  cases b with
  | true=>exact PX.up X (k.1 rfl W1 s1 L env A a1).o
  | false=>exact PX.after X (PX.here a1.m.sat rfl (k.2 rfl)))
theorem t_or (k:T c loc e h fun b h2=>VI b (KB true h2) (T c loc (.BoolOp .Or as p) h2 KB)):T c loc (.BoolOp .Or (e :: as) p) h KB:=fun W s L env A a=>.i <|
 isTrue_or (k.go a fun b s1 h1 W1 X a1 k=>by
  cases b with
  | true=>exact PX.after X (PX.here a1.m.sat rfl (k.1 rfl))
  | false=>exact PX.up X (k.2 rfl W1 s1 L env A a1).o)
theorem t_cmp {op:CmpOp} (hb:behindInMarks op r=false) (k:E c loc l h fun a h1=>E c loc r h1 fun b h2=>CM op a b h2 fun v h3=>TV v h3 KB):T c loc (.Compare l [op] [r] p) h KB:=fun W s L env A a=>.i <|
 wpAny_isTrue_Compare1 (k.go2 a fun v u s1 av bv h1 W1 X a1 r r2 k=>PX.bind (k c W1 s1 A v u a1.m r r2).o fun x s2 xv h2 W2 X2 S2 rx k2=>PX.up (X.trans X2) (k2 c W2 s2 A x (a1.m.step S2) rx).o) hb
theorem vi_t {X Y:Prop} (e:b=true) (k:X):VI b X Y:=⟨fun _=>k,fun z=>ft (z.symm.trans e)⟩
theorem vi_f {X Y:Prop} (e:b=false) (k:Y):VI b X Y:=⟨fun z=>ft (e.symm.trans z),fun _=>k⟩
theorem vi {X Y:Prop} (k1:b=true→X) (k2:b=false→Y):VI b X Y:=⟨k1,k2⟩
end
end
section
theorem map_eq_mem {α β:Type} {f g:α→β}:∀ {l:List α},l.map f=l.map g→∀ x∈l,f x=g x
 | [],_,_,m=>absurd m List.not_mem_nil
 | a :: l,e,x,m=>(List.mem_cons.mp m).elim (fun q=>by rw [q]; exact (List.cons.inj e).1) (map_eq_mem (List.cons.inj e).2 x)
theorem f_in (P:Params) {a:Nat} {fi:FI} (m:(a,fi)∈fTab):(KF P).lookup a=some (fnO fi.d fi.q fi.pm (.ref fi.c)):=map_eq_mem (f_rows P) _ m
theorem f_is (P:Params) {a:Nat} (m:(atN a fTab).isSome=true):∃ fi,(a,fi)∈fTab∧(KF P).lookup a=some (fnO fi.d fi.q fi.pm (.ref fi.c)) :=
 (Option.isSome_iff_exists.mp m).elim fun fi e=>⟨fi,atN_mem a e,f_in P (atN_mem a e)⟩
theorem f_keep (P:Params) {a:Nat} (m:(atN a fTab).isSome=true):keepIn (KF P) (.ref a)=true :=
 (f_is P m).elim fun fi z=>by
  unfold keepIn
  dsimp only
  erw [z.2]; rfl
theorem f_type (P:Params) {a:Nat} (m:(atN a fTab).isSome=true):typeIn (KF P) (.ref a)=some (.type "function") :=
 (f_is P m).elim fun fi z=>by
  unfold typeIn
  dsimp only
  erw [z.2]; rfl
section
variable {c:Cx} {loc:Loc} {L:Addr} {env:Env} {A:Around} {h:AH} {W:Wd} {s:Shared} {K:KV}
theorem trees_any:∀ {as:List Expr},(trees as env).any (·.1)=false
 | []=>rfl
 | _ :: r=>trees_any (as:=r)
theorem evalArgs_trees {M:Model} {f:Value} {as:List Expr} {Q:Args→Shared→Prop} {E:Value→Shared→Prop} (x:wpAny M A (spliced (trees as env)) (fun vs s'=>Q ⟨vs,[]⟩ s') E s):wpAny M A (evalArgs f true (trees as env) []) Q E s:=by
 cases as with
 | nil =>
  unfold evalArgs
  have y:wpAny M A (spliced []) (fun vs s'=>Q ⟨vs,[]⟩ s') E s:=x
  refine wpAny_bind (m:=spliced []) (wpAny_mono y (fun vs s' q=>?_) fun _ _ e=>e)
  exact wpAny_bind (wpAny_pure (wpAny_holding (wpAny_bind (PySem.wpAny_evalAll_nil (wpAny_pure (by simpa using q))))))
 | cons e r=>exact Calls.evalArgs_plain x
theorem Room.down {n:Nat} (r:Room A (n + 1)):Room A n:=⟨⟨Nat.le_trans (Nat.add_le_add_right (Nat.add_le_add_left (Nat.mul_le_mul_left 3 (Nat.le_succ n)) _) _) r.1.1,r.1.2⟩,Nat.le_trans (Nat.add_le_add_right (Nat.add_le_add_left (Nat.mul_le_mul_left 30 (Nat.le_succ n)) _) _) r.2⟩
theorem cf_call {a:Nat} {args:List AVal} {cs:List Value} (z:CF c.w c.H0 c.n a args h K) (M:Md c h W s A) (r:VRs h W args cs):wpAny (model pw c.w) A (call (.ref a) cs []) (PX c h W s VR K) NoE s :=
 wpAny_call (codeAny_mono (z.2 M.b W s A cs M.sat r M.r.down) fun res s' q=>q.elim fun v q=>by rw [q.1]; exact q.2)
theorem cf_with {a:Nat} {as:List Expr} {first:List AVal} {fs:List Value} {pos:Pos} (hs:aOk as=true) (hf:(atN a fTab).isSome=true) (at_:At c loc h W s L env A) (rf:VRs h W first fs)
  (z:EL c loc as h fun vs h1=>CF c.w c.H0 c.n a (first ++ vs) h1 K) :
  wpAny (model pw c.w) A (callWith pos (.ref a) fs (backTo pos (starEach as env)) []) (PX c h W s VR K) NoE s:=by
 rw [trees_eq (aOk_all hs)]
 exact callWith_of (P:=fun hp=>(KF c.w.params).In hp) (by rw [trees_any]; rfl) (keeps_K (f_keep _ hf)) (evalArgs_trees (z.go at_ fun vs s1 l h1 W1 X a1 r n k=>⟨a1.m.sat.kin a1.m.b,PX.up X (cf_call k a1.m ((VRs.mono X.le rf).append r))⟩))
theorem nodebug {x:Str} {v:AVal} (e:glob x=some v):sq x "__debug__" = false:=by
 rw [Bool.eq_false_iff]
 intro q
 rw [sq_iff.mp q] at e
 exact nos ((show glob "__debug__" = none by decide +kernel).symm.trans e)
variable {x:Str} {as:List Expr} {p q:Pos}
theorem e_fn {a:Nat} (hs:aOk as=true) (hk:kdOf x c.sc.names=some .globalImplicit) (hg:glob x=some (.fn a)) (hf:(atN a fTab).isSome=true) (k:EL c loc as h fun vs h1=>CF c.w c.H0 c.n a vs h1 K):E c loc (.Call (.Name x q) as [] p) h K:=fun W s L env A at_=>.i <|
 Call_ (glob_find (M:=model pw c.w) at_ (nodebug hg) hk hg fun u r=>by
  rw [show u=_ from r]
  exact cf_with (first:=[]) hs hf at_ .nil k)
theorem form_ok {pos:Pos} (hs:aOk as=true):methodCallForm (as.length + ([]:List Keyword).length) (backTo pos (starEach as env)) (backToKw pos (keywordEach [] env))=true:=by
 rw [trees_eq (aOk_all hs),show backToKw pos (keywordEach [] env)=[] from rfl]
 unfold methodCallForm
 have h3:=aOk_lt hs
 have h4:(trees as env).all (!·.1)=true:=by
  unfold trees
  rw [List.all_map]
  exact List.all_eq_true.mpr fun _ _=>rfl
 rw [h4]
 simp
 omega
def MC (c:Cx) (loc:Loc) (x:Str) (as:List Expr) (v:AVal) (h:AH) (K:KV):Prop:=∀ W s L env A u o apos pos,(apos.endLine == pos.line)=true→aOk as=true→At c loc h W s L env A→VR h W v u →
 Wp c A (methodCall o x apos pos env u (as.length + ([]:List Keyword).length) (backTo pos (starEach as env)) (backToKw pos (keywordEach [] env))) (PX c h W s VR K) NoE s
theorem e_meth {o:Expr} (hs:aOk as=true) (hb:BaseOk o x) (hl:(q.endLine == p.line)=true) (k:E c loc o h fun v h1=>MC c loc x as v h1 K):E c loc (.Call (.Attribute o x q) as [] p) h K:=fun W s L env A a=>.i <| by
 rw [arm_eval_Call,hb]
 exact wpAny_bind (k.go a fun v s1 av h1 W1 X a1 r k=>wpAny_bind (wpAny_standAt (PX.up X (k W1 s1 L env A v o q p hl hs a1 r).o)))
theorem mpos {o:Expr} {apos pos:Pos} (hl:(apos.endLine == pos.line)=true):methodCallPos true o env apos pos=pure pos:=by unfold methodCallPos; simp [hl]
theorem mc_inst {m:Nm} {d a:Nat} {fs:List (Str×AVal)} (hn:h m=some (.inst d fs)) (hm:meth d x=some a) (hx:lk x fs=none) (hd:(cOk d && attL.any (sq x))=true) (hf:(atN a fTab).isSome=true) (k:EL c loc as h fun vs h2=>CF c.w c.H0 c.n a (.ref m :: vs) h2 K):MC c loc x as (.ref m) h K :=
 fun W s L env A u o apos pos hl hs at_ r=>.i <| by
  have hd:=Bool.and_eq_true_iff.mp hd
  have hfm:=find_meth c.w.params hd.1 hd.2
  rw [hm] at hfm
  have F:=c_facts c.w.params hd.1
  refine (at_.m.sat.inst hn).elim fun es z=>z.elim fun ep I=>?_
  rw [r.2]
  unfold methodCall
  rw [form_ok hs]
  refine wpAny_bind (wpAny_holding ?_)
  show wpAny _ A (getMethod (.ref (W.ad m false)) x _) _ _ s
  refine method_fn (at_.m.sat.kin at_.m.b) I.i (plainGet_of F.get).1 (plainGet_of F.get).2 hfm (f_type _ hf) (by show (lookIn x (PySem.W.dictOf es ep)).map _=_; rw [lookIn_dict,(I.r.find x).2 hx]; rfl) ?_
  exact wpAny_bind (wpAny_of_eq (mpos hl) (cf_with (first:=[.ref m]) hs hf at_ (.cons (VR.ref r.1) .nil) k))
def BM (T id:String) (B:Builtin) (n:Nm) (as:List AVal) (h:AH) (K:KV):Prop:=∀ c W s A cs,Md c h W s A→VRs h W as cs→s.TypeIs (.ref (W.ad n false)) T∧argsOk id ⟨.ref (W.ad n false) :: cs,[]⟩∧∀ R:Result→Shared→Prop,(∀ x s',PX c h W s VR K x s'→R (.ok (.ret x)) s')→∃ S,MeetsIn pw c.w (B ⟨.ref (W.ad n false) :: cs,[]⟩) S∧S A R s
theorem mc_blt {T id:String} {B:Builtin} {n:Nm} {ob:AObj} (slot:Slot T x id) (entry:entryFor table id=some B) (pa:PlainAttrs T) (ty:typeOf (.builtin id)=pure (.type "method_descriptor")) (hn:h n=some ob) (hT:∀ {W:Wd} {s:Shared} {c:Cx},Sat c.w.params c.H0 W h s.heap→s.TypeIs (.ref (W.ad n false)) T∧∃ o,s.heap.get? (W.ad n false)=some o∧o.dict=none)
  (k:EL c loc as h fun vs h2=>BM T id B n vs h2 K):MC c loc x as (.ref n) h K:=fun W s L env A u o apos pos hl hs at_ r=>.i <| by
 rw [r.2]
 unfold methodCall
 rw [form_ok hs,trees_eq (aOk_all hs)]
 refine wpAny_bind (wpAny_holding ?_)
 show wpAny _ A (getMethod (.ref (W.ad n false)) x (do return (← importBound o env).getD true)) _ _ s
 have T0:=hT at_.m.sat
 refine getMethod_builtin T0.1 pa slot ty (fun a e=>by cases e; exact T0.2) ?_
 refine wpAny_bind (wpAny_of_eq (mpos hl) (method_meetsIn slot entry trees_any (evalArgs_trees (k.go at_ fun vs s1 l h1 W1 X a1 rv n' kk=>?_))))
 have z:=kk c W1 s1 A vs a1.m rv
 rw [(X.ad n false trivial r.1).2] at z
 exact ⟨rfl,z.1,z.2.1,z.2.2 _ fun _ _ p=>PX.after X p⟩
end
end
section
noncomputable def builtM (o:AObj) (x:Str):Bool:=match o with
 | .list _=>sq x "append" || sq x "pop"
 | .dict _=>sq x "get"
 | _=>false
def ME (n:Nm) (x:Str) (as:List AVal) (h:AH) (K:KV):Prop :=
 (sq x "append" = true→BM "list" "list.append" Builtin.«list.append» n as h K)∧(sq x "pop" = true→BM "list" "list.pop" Builtin.«list.pop» n as h K)∧(sq x "get" = true→BM "dict" "dict.get" Builtin.«dict.get» n as h K)
theorem EL.mono {c:Cx} {loc:Loc} {es:List Expr} {h:AH} {K K':KVL} (k:EL c loc es h K) (y:∀ l h,K l h→K' l h):EL c loc es h K':=fun W s L env A a=>.i <| k.go a fun vs s1 l h1 W1 X a1 r n z=>PX.after X (PX.here a1.m.sat ⟨r,n⟩ (y l h1 z))
section
variable {c:Cx} {loc:Loc} {h:AH} {K:KV} {x:Str} {as:List Expr} {n:Nm} {l:List AVal} {d:List (AVal×AVal)} {u v y:AVal}
theorem mc_list (hn:h n=some (.list l)) (hm:builtM (.list l) x=true) (k:EL c loc as h fun vs h2=>ME n x vs h2 K):MC c loc x as (.ref n) h K:=by
 have hT:∀ {W:Wd} {s:Shared} {c:Cx},Sat c.w.params c.H0 W h s.heap→s.TypeIs (.ref (W.ad n false)) "list"∧∃ o,s.heap.get? (W.ad n false)=some o∧o.dict=none:=fun S=>(S.list hn).elim fun vs z=>z.elim fun m z=>⟨⟨_,z.1,rfl⟩,_,z.1,rfl⟩
 cases q:sq x "append" with
 | true =>
  rw [sq_iff.mp q] at k ⊢
  exact mc_blt PySem.F.slot_list_append PySem.F.entry_list_append PySem.F.plainAttrs_list PySem.F.type_list_append hn hT (k.mono fun _ _ z=>z.1 (sq_iff.mpr rfl))
 | false =>
  have q2:sq x "pop" = true:=by
   have z:(sq x "append" || sq x "pop")=true:=hm
   rw [q] at z; exact z
  rw [sq_iff.mp q2] at k ⊢
  exact mc_blt PySem.F.slot_list_pop PySem.F.entry_list_pop PySem.F.plainAttrs_list PySem.F.type_list_pop hn hT (k.mono fun _ _ z=>z.2.1 (sq_iff.mpr rfl))
theorem mc_dict (hn:h n=some (.dict d)) (hm:builtM (.dict d) x=true) (k:EL c loc as h fun vs h2=>ME n x vs h2 K):MC c loc x as (.ref n) h K:=by
 rw [sq_iff.mp (show sq x "get" = true from hm)] at k ⊢
 exact mc_blt PySem.F.slot_dict_get PySem.F.entry_dict_get PySem.F.plainAttrs_dict PySem.F.type_dict_get hn (fun S=>(S.dict hn).elim fun vs z=>z.elim fun m z=>⟨⟨_,z.1,rfl⟩,_,z.1,rfl⟩) (k.mono fun _ _ z=>z.2.2 (sq_iff.mpr rfl))
theorem me_append (hn:h n=some (.list l)) (h1:l.length < 1000000) (k:K .none (hset h n (.list (l ++ [v])))):ME n "append" [v] h K:=by
 refine ⟨fun _ c W s A cs M r=>?_,fun e=>absurd e (by decide +kernel),fun e=>absurd e (by decide +kernel)⟩
 refine r.iCons.elim fun b r=>r.elim fun r2 r=>?_
 rw [show r2=[] from r.2.2] at r
 rw [r.1]
 refine (M.sat.list hn).elim fun vs z=>z.elim fun m z=>⟨⟨_,z.1,rfl⟩,PySem.F.args_list_append_2 _ _,fun R q=>?_⟩
 have e:=z.2.1.length
 rw [Array.length_toList (xs:=vs)] at e
 refine ⟨_,(list_append _ vs m b (by rw [sizeLine_eq]; omega)).inModel pw c.w,z.1,q _ _ ?_⟩
 have g:(s.heap.update (W.ad n false) (Obj.mapSeq fun x=>x.push b)).get? (W.ad n false)=some (listObj (vs.push b) (m + 1)):=by
  rw [Heap.get?_update_self _ z.1 rfl]; simp [Obj.mapSeq,listObj]
 have U:=upd_one (o':=.list (l ++ [v])) (tk:=s.toks) M.sat hn rfl rfl (Heap.SameBut.update ..) g ⟨_,_,g,by
  rw [Array.toList_push]; exact (z.2.1.append (.cons r.2.1 .nil)).mono (upd_le hn rfl rfl),by rw [List.length_append]; exact h1⟩
 exact ⟨.none,_,W,U.2.2,U.1,VR.none,k⟩
theorem me_append2 (h1:l.length < 1000000) (k:K .none (hset h n (.list (l ++ [v])))):ME n "append" [v] (hset h n (.list l)) K:=me_append hset_at h1 (by rw [hset_hset]; exact k)
theorem VRs.snoc {W:Wd} {b:AVal}:∀ {l:List AVal} {vs:List Value},VRs h W (l ++ [b]) vs→∃ us y,vs=us ++ [y]∧VRs h W l us∧VR h W b y
 | [],vs,r=>r.iCons.elim fun y r=>r.elim fun r2 r=>⟨[],y,by rw [r.1,show r2=[] from r.2.2]; rfl,.nil,r.2.1⟩
 | a :: l,vs,r=>r.iCons.elim fun x r=>r.elim fun r2 r=>(VRs.snoc r.2.2).elim fun us z=>z.elim fun y z=>⟨x :: us,y,by rw [r.1,z.1]; rfl,.cons r.2.1 z.2.1,z.2.2⟩
theorem erase_last {α:Type} (y:α):∀ us:List α,(us ++ [y]).eraseIdx us.length=us
 | []=>rfl
 | a :: us=>congrArg (a :: ·) (erase_last y us)
theorem me_pop (hn:h n=some (.list (l ++ [v]))) (k:K v (hset h n (.list l))):ME n "pop" [] h K:=by
 refine ⟨fun e=>absurd e (by decide +kernel),fun _ c W s A cs M r=>?_,fun e=>absurd e (by decide +kernel)⟩
 rw [show cs=[] from r]
 refine (M.sat.list hn).elim fun vs z=>z.elim fun m z=>⟨⟨_,z.1,rfl⟩,PySem.F.args_list_pop_1 _,fun R q=>?_⟩
 refine (VRs.snoc z.2.1).elim fun us w=>w.elim fun y w=>?_
 have hv:vs=(us ++ [y]).toArray:=by rw [← w.1]
 subst hv
 have e:=w.2.1.length
 have len:=z.2.2
 rw [List.length_append,List.length_singleton] at len
 refine ⟨_,(MeetsSeq.list_pop_last _ _ m y (by simp) (by rw [sizeLine_eq,List.size_toArray,List.length_append,List.length_singleton,← e]; omega)).inModel pw c.w,z.1,q _ _ ?_⟩
 have e2:(us ++ [y]).toArray.eraseIdxIfInBounds ((us ++ [y]).toArray.size - 1)=us.toArray:=by
  apply Array.ext'
  simp
  exact erase_last y us
 have g:(s.heap.update (W.ad n false) (Obj.mapSeq fun xs=>xs.eraseIdxIfInBounds ((us ++ [y]).toArray.size - 1))).get? (W.ad n false)=some (listObj us.toArray (if ((us ++ [y]).toArray.eraseIdxIfInBounds ((us ++ [y]).toArray.size - 1)).size == (us ++ [y]).toArray.size then m else m + 1)):=by
  rw [Heap.get?_update_self _ z.1 rfl]
  exact congrArg (fun a=>some (listObj a _)) e2
 have U:=upd_one (o':=.list l) (tk:=s.toks) M.sat hn rfl rfl (Heap.SameBut.update ..) g ⟨_,_,g,w.2.1.mono (upd_le hn rfl rfl),by omega⟩
 exact ⟨v,_,W,U.2.2,U.1,w.2.2.mono (upd_le hn rfl rfl),k⟩
theorem meets_get {w:World} {ad:Addr} {k:Value} (hd:(ad == sysModules)=false):MeetsIn pw w (Builtin.«dict.get» ⟨[.ref ad,k],[]⟩) (fun A R s=>wpAny (model pw w) A.in1 (dictGet ad k) (fun o s'=>R (.ok (.ret (o.getD .none))) s') (fun _ _=>False) s) :=
 .of_wp fun A R s x=>by
  show wpAny _ _ (dictGet ad k >>= _) _ _ s
  refine wpAny_bind (wpAny_mono x (fun o s' q=>?_) fun _ _ e=>e.elim)
  cases o with
  | some y=>exact wpAny_pure ⟨y,rfl,q⟩
  | none=>exact wpAny_bind (m:=Builtin.Dict.missed ad k) (wpAny_missed_other hd (wpAny_pure ⟨.none,rfl,q⟩))
theorem meets_get3 {w:World} {ad:Addr} {k v:Value} (hd:(ad == sysModules)=false):MeetsIn pw w (Builtin.«dict.get» ⟨[.ref ad,k,v],[]⟩) (fun A R s=>wpAny (model pw w) A.in1 (dictGet ad k) (fun o s'=>R (.ok (.ret (o.getD v))) s') (fun _ _=>False) s) :=
 .of_wp fun A R s x=>by
  show wpAny _ _ (dictGet ad k >>= _) _ _ s
  refine wpAny_bind (wpAny_mono x (fun o s' q=>?_) fun _ _ e=>e.elim)
  cases o with
  | some y=>exact wpAny_pure ⟨y,rfl,q⟩
  | none=>exact wpAny_bind (m:=Builtin.Dict.missed ad k) (wpAny_missed_other hd (wpAny_pure ⟨v,rfl,q⟩))
theorem get_or {c:Cx} {W:Wd} {s:Shared} {A:Around} {es:List DictEntry} {m:Nat} {b d0:Value} {R:Result→Shared→Prop} (M:Md c h W s A) (z:s.heap.get? (W.ad n false)=some (PySem.W.dictOf es m)) (D:DR c.w.params h W d es) (h1:isKey y=true) (r:VR h W y b) (r0:VR h W u d0) (k:K ((dlk y d).getD u) h) (q:∀ x s',PX c h W s VR K x s'→R (.ok (.ret x)) s') :
  wpAny (model pw c.w) A.in1 (dictGet (W.ad n false) b) (fun o s'=>R (.ok (.ret (o.getD d0))) s') (fun _ _=>False) s :=
 get_key D M.sat (u_201 M.u) z h1 r (fun x c' tk e rx=>q _ _ (by rw [e] at k; exact PX.tok M.sat rx k)) fun tk e=>q _ _ (by rw [e] at k; exact PX.tok M.sat r0 k)
theorem me_get (hn:h n=some (.dict d)) (h1:isKey y=true) (k:K ((dlk y d).getD .none) h):ME n "get" [y] h K:=by
 refine ⟨fun e=>absurd e (by decide +kernel),fun e=>absurd e (by decide +kernel),fun _ c W s A cs M r=>?_⟩
 refine r.iCons.elim fun b r=>r.elim fun r2 r=>?_
 rw [show r2=[] from r.2.2] at r
 rw [r.1]
 exact (M.sat.dict hn).elim fun es z=>z.elim fun m z=>⟨⟨_,z.1,rfl⟩,PySem.F.args_dict_get_2 _ _,fun R q=>⟨_,meets_get (sys_ne M (has_some hn)),get_or M z.1 z.2.1 h1 r.2.1 VR.none k q⟩⟩
theorem me_get2 (hn:h n=some (.dict d)) (h1:isKey y=true) (k:K ((dlk y d).getD u) h):ME n "get" [y,u] h K:=by
 refine ⟨fun e=>absurd e (by decide +kernel),fun e=>absurd e (by decide +kernel),fun _ c W s A cs M r=>?_⟩
 refine r.iCons.elim fun b r=>r.elim fun r2 r=>r.2.2.iCons.elim fun b2 r'=>r'.elim fun r3 r'=>?_
 rw [show r3=[] from r'.2.2] at r'
 rw [r.1,r'.1]
 exact (M.sat.dict hn).elim fun es z=>z.elim fun m z=>⟨⟨_,z.1,rfl⟩,PySem.F.args_dict_get_3 _ _ _,fun R q=>⟨_,meets_get3 (sys_ne M (has_some hn)),get_or M z.1 z.2.1 h1 r.2.1 r'.2.1 k q⟩⟩
end
end
section
noncomputable def initV (k:Nat):Value:=match meth k "__init__" with
 | some f=>.ref f
 | none=>.builtin "object.__init__"
theorem i_rows (P:Params):(cTab.drop 2).all (fun r=>keepIn (KF P) (.ref r.1) && findIn (KF P) (.ref r.1) "__init__" == some (some (initV r.1)))=true:=by kernel_rfl
theorem find_init (P:Params) {k:Nat} (hk:cOk k=true):keepIn (KF P) (.ref k)=true∧findIn (KF P) (.ref k) "__init__" = some (some (initV k)) :=
 (cOk_mem hk).elim fun _ q=>have z:=Bool.and_eq_true_iff.mp (List.all_eq_true.mp (i_rows P) _ q); ⟨z.1,beq_iff_eq.mp z.2⟩
def NI (w:World) (H0:Heap) (n:Nat) (k:Nat) (as:List AVal) (h:AH) (K:KV):Prop:=cOk k=true∧∀ (c:Cx) W s A cs,c.w=w→c.H0=H0→c.n=n→Md c h W s A→VRs h W as cs→wpAny (model pw c.w) A (call (.ref k) cs []) (PX c h W s VR K) NoE s
noncomputable def NK (m:Nm) (K:KV):KV:=fun r h'=>r = .none∧K (.ref m) h'
theorem nk {h:AH} {K:KV} {nm:Nm} (k:K (.ref nm) h):NK nm K .none h:=⟨rfl,k⟩
section
variable {P:Params} {H0:Heap} {h:AH} {W:Wd} {s:Shared} {m:Nm} {k:Nat}
theorem new_inst (S:Sat P H0 W h s.heap) (hm:h m=none) :
  Sat P H0 (W.put m (s.heap.objs.size + 1) s.heap.objs.size) (hset h m (.inst k [])) ((s.heap.push emptyDict).push (instObj k s.heap.objs.size)) ∧
  Ex all' h W s (hset h m (.inst k [])) (W.put m (s.heap.objs.size + 1) s.heap.objs.size) { s with heap:=(s.heap.push emptyDict).push (instObj k s.heap.objs.size) } none:=by
 have g0:=get_size s.heap 0
 have at_:((s.heap.push emptyDict).push (instObj k s.heap.objs.size)).get? (s.heap.objs.size + 1)=some (instObj k s.heap.objs.size):=by
  have:=Heap.get?_push_size (s.heap.push emptyDict) (o:=instObj k s.heap.objs.size) rfl
  rw [Heap.size_push] at this; exact this
 refine new_at (tk:=s.toks) S hm (fun a o e=>Heap.get?_push_of_some _ (Heap.get?_push_of_some _ e)) (get_size s.heap 1) g0 (Nat.succ_ne_self _) ⟨?_,[],0,?_,rfl,Nat.zero_le _⟩
 ·rw [put_self,put_self]; exact at_
 ·rw [put_self]; exact Heap.get?_push_of_some _ (Heap.get?_push_size _ rfl)
end
section
variable {w:World} {H0:Heap} {n k:Nat} {h:AH} {K:KV} {nm:Nm} {as:List AVal}
theorem ni {f:Nat} (hc:cOk k=true) (hn:h nm=none) (hf:meth k "__init__" = some f) (z:CF w H0 n f (.ref nm :: as) (hset h nm (.inst k [])) (NK nm K)):NI w H0 n k as h K:=⟨hc,fun c W s A cs e1 e2 e3 M r=>by
 subst e1; subst e2; subst e3
 have F:=c_facts c.w.params hc
 have Kin:=M.sat.kin M.b
 have hfm:=(find_init c.w.params hc).2
 unfold initV at hfm
 rw [hf] at hfm
 obtain ⟨hh,g,d,t,os⟩:=s
 have N:=new_inst (k:=k) M.sat hn
 refine wpAny_call (make_core (makes_of Kin F.make) (looks_findIn Kin hfm) (fun self=>bind_fn Kin self (f_type _ z.1)) (.inl rfl) ?_)
 have C:=z.2 M.b (W.put nm (hh.objs.size + 1) hh.objs.size) ⟨(hh.push emptyDict).push (instObj k hh.objs.size),g,d,t,os⟩ (A.under (.builtin "type.__call__" ⟨.ref k :: cs,[]⟩)) (.ref (hh.objs.size + 1) :: cs) N.1 (.cons put_ref (r.mono (put_le hn))) (by
  have h1:=M.r.1.1
  have h2:=M.r.2
  refine ⟨⟨?_,M.r.1.2⟩,?_⟩
  ·show A.depth + _ + 3 * c.n + 20≤1000
   have:(Code.builtin "type.__call__" ⟨.ref k :: cs,[]⟩).weight≤3:=by first | exact (show (1:Nat)≤3 by decide) | exact (show (0:Nat)≤3 by decide) | exact (show (2:Nat)≤3 by decide)
   omega
  ·show A.units + _ + 30 * c.n + 1000≤9900
   have:(Code.builtin "type.__call__" ⟨.ref k :: cs,[]⟩).cUnits≤30:=by first | exact (show (1:Nat)≤30 by decide) | exact (show (4:Nat)≤30 by decide)
   omega)
 refine codeAny_mono C fun res s' q=>q.elim fun v q=>q.2.elim fun av y=>y.elim fun h' y=>y.elim fun W' y=>?_
 have kk:=y.2.2.2
 have rv:=y.2.2.1
 rw [kk.1] at rv
 rw [q.1,show v=_ from rv]
 exact ⟨rfl,.ref nm,h',W',N.2.trans y.1,y.2.1,(put_ref (o:=.inst k [])).mono y.1.le,kk.2⟩⟩
theorem ni0 (hc:cOk k=true) (hn:h nm=none) (hf:meth k "__init__" = none) (z:K (.ref nm) (hset h nm (.inst k []))):NI w H0 n k [] h K:=⟨hc,fun c W s A cs _ _ _ M r=>by
 have F:=c_facts c.w.params hc
 have Kin:=M.sat.kin M.b
 have hfm:=(find_init c.w.params hc).2
 unfold initV at hfm
 rw [hf] at hfm
 rw [show cs=[] from r]
 obtain ⟨hh,g,d,t,os⟩:=s
 have N:=new_inst (k:=k) M.sat hn
 have Y:=makes_of (M:=model pw c.w) Kin F.make
 refine wpAny_call (make_core Y (looks_findIn Kin hfm) (fun self=>Looks.of_pure (oi_bind self)) (.inr ⟨rfl,rfl⟩) ?_)
 have at_:((hh.push emptyDict).push (instObj k hh.objs.size)).get? (hh.objs.size + 1)=some (instObj k hh.objs.size):=by
  have:=Heap.get?_push_size (hh.push emptyDict) (o:=instObj k hh.objs.size) rfl
  rw [Heap.size_push] at this; exact this
 have t1:Looks (model pw c.w) ((hh.push emptyDict).push (instObj k hh.objs.size)) (typeOf (.ref (hh.objs.size + 1))) (.ref k):=(Looks.ld at_).andThen .now
 refine codeAny_call_builtin oi_plain entry_oi (@check_slot (model pw c.w) _ _ _ "object.__init__" "object" "__init__" (.ref (hh.objs.size + 1)) [] [] _ oi_kind oi_split (t1.andThen (Y.top.keeps fun b o e=>Heap.get?_push_of_some _ (Heap.get?_push_of_some _ e))) (oi_args (.ref (hh.objs.size + 1))) ?_)
 rw [oi_run]
 exact wpAny_pure (And.intro rfl ⟨.ref nm,_,_,N.2,N.1,put_ref,z⟩)⟩
end
section
variable {c:Cx} {loc:Loc} {h:AH} {K:KV} {x:Str} {as:List Expr} {p q:Pos}
theorem e_cls {k:Nat} (hs:aOk as=true) (hk:kdOf x c.sc.names=some .globalImplicit) (hg:glob x=some (.cls k)) (hf:cOk k=true) (z:EL c loc as h fun vs h1=>NI c.w c.H0 c.n k vs h1 K):E c loc (.Call (.Name x q) as [] p) h K:=fun W s L env A at_=>.i <|
 Call_ (glob_find (M:=model pw c.w) at_ (nodebug hg) hk hg fun u r=>by
  rw [show u=_ from r,trees_eq (aOk_all hs)]
  exact callWith_of (P:=fun hp=>(KF c.w.params).In hp) (by rw [trees_any]; rfl) (keeps_K (find_init _ hf).1) (evalArgs_trees (z.go at_ fun vs s1 l h1 W1 X a1 r n k=>⟨a1.m.sat.kin a1.m.b,PX.up X (k.2 c W1 s1 A vs rfl rfl rfl a1.m r)⟩)))
end
end
section
inductive Blt | len | sum | sorted | ord
noncomputable def bltId:Blt→String
 | .len => "len"
 | .sum => "sum"
 | .sorted => "sorted"
 | .ord => "ord"
noncomputable def bltOf (x:Str):Option Blt:=[Blt.len,.sum,.sorted,.ord].find? fun b=>sq x (Str.ofString (bltId b))
theorem blt_name {x:Str} {b:Blt} (e:bltOf x=some b):x=Str.ofString (bltId b):=sq_iff.mp (List.find?_some (p:=fun b=>sq x (Str.ofString (bltId b))) e)
theorem b_rows (P:Params):["len","sum","sorted","ord","range"].all (fun x:String=>nsIn (KF P) mainGlobals x == some none)=true:=by kernel_rfl
theorem b_row (P:Params) {x:String} (m:x∈["len","sum","sorted","ord","range"]):nsIn (KF P) mainGlobals (Str.ofString x)=some none:=beq_iff_eq.mp (List.all_eq_true.mp (b_rows P) x m)
theorem glob_blt {b:Blt} (P:Params):nsIn (KF P) mainGlobals (Str.ofString (bltId b))=some none:=b_row P (by cases b <;> decide)
theorem boot_blt (b:Blt):bootBuiltins (Str.ofString (bltId b))=some (.builtin (bltId b)):=by cases b <;> rfl
def BL (b:Blt) (as:List AVal) (h:AH) (K:KV):Prop:=∀ c W s A cs,Md c h W s A→VRs h W as cs→Wp c A (call (.builtin (bltId b)) cs []) (PX c h W s VR K) NoE s
theorem VRs.one {h:AH} {W:Wd} {a:AVal} {vs:List Value} (r:VRs h W [a] vs):∃ v,vs=[v]∧VR h W a v:=r.iCons.elim fun v r=>r.elim fun r2 r=>⟨v,by rw [r.1,show r2=[] from r.2.2],r.2.1⟩
section
variable {c:Cx} {loc:Loc} {h:AH} {W:Wd} {s:Shared} {L:Addr} {env:Env} {A:Around} {K:KV} {x:Str} {as:List Expr} {p q:Pos} {n:Nm} {l:List AVal} {a:Str}
theorem blt_find {b:Blt} {Q E:Value→Shared→Prop} (at_:At c loc h W s L env A) (hk:kdOf x c.sc.names=some .globalImplicit) (hb:bltOf x=some b) (k:Q (.builtin (bltId b)) s):wpAny (model pw c.w) A (eval (.Name x p) env) Q E s:=by
 have hx:=blt_name hb
 have hd:(x == ("__debug__" : Str))=false:=by rw [hx]; cases b <;> rfl
 have hn:x≠("__name__" : Str):=by rw [hx]; cases b <;> decide
 rw [kdOf_eq] at hk
 refine at_.m.b.mg.elim fun mg hmg=>at_.m.b.mb.elim fun mb hmb=>?_
 exact Calls.Name_function_global at_.hkf ((at_.hkd x).trans hk) (Calls.loadGlobal_builtin (mg:=mg) (mb:=mb) (by rw [at_.e.gl]; exact hmg.keeps at_.m.sat.old) (mg_none_of at_.m.b.kin hmg (by rw [hx]; exact glob_blt _)) (by rw [at_.e.bl]; exact hmb.1.keeps at_.m.sat.old) (by rw [hmb.2 x hn,hx]; exact boot_blt b) k) hd
theorem e_blt {b:Blt} (hs:aOk as=true) (hk:kdOf x c.sc.names=some .globalImplicit) (hb:bltOf x=some b) (k:EL c loc as h fun vs h1=>BL b vs h1 K):E c loc (.Call (.Name x q) as [] p) h K:=fun W s L env A at_=>.i <|
 Call_ (blt_find at_ hk hb (by
  rw [trees_eq (aOk_all hs)]
  exact Calls.callWith_builtin trees_any (evalArgs_trees (k.go at_ fun vs s1 l h1 W1 X a1 r n k=>PX.up X (k c W1 s1 A vs a1.m r).o))))
theorem bl_len_list (hn:h n=some (.list l)) (k:K (.int l.length) h):BL .len [.ref n] h K:=fun c W s A cs M r=>.i <| r.one.elim fun v r=>by
 rw [r.1,r.2.2]
 refine (M.sat.list hn).elim fun vs z=>z.elim fun m z=>?_
 have e:=z.2.1.length
 rw [Array.length_toList (xs:=vs)] at e
 rw [e] at k
 exact len_list ⟨_,z.1,rfl,m,rfl⟩ (by have:=z.2.2; omega) (PX.tok M.sat (VR.int _ _) k)
theorem bl_len_tup (h1:l.length < 1000000) (k:K (.int l.length) h):BL .len [.tup l] h K:=fun c W s A cs M r=>.i <| r.one.elim fun v r=>r.2.iTup.elim fun ad y=>y.elim fun vs y=>by
 rw [r.1,y.1]
 have e:=y.2.2.length
 rw [e] at k h1
 exact len_tuple ⟨_,M.sat.keep _ _ y.2.1,rfl,0,rfl⟩ (by rw [List.size_toArray]; omega) (PX.tok M.sat (VR.int _ _) (by rw [List.size_toArray]; exact k))
theorem bl_len_str (h1:a.length < 1000000) (k:K (.int a.length) h):BL .len [.str a] h K:=fun c W s A cs M r=>.i <| r.one.elim fun v r=>r.2.elim fun t e=>by
 rw [r.1,e]
 exact P.len_str (by omega) (PX.tok M.sat (VR.int _ _) k)
theorem bl_ord {m:Nat} (h1:a.cps.toList=[m]) (k:K (.int m) h):BL .ord [.str a] h K:=fun c W s A cs M r=>.i <| r.one.elim fun v r=>r.2.elim fun t e=>by
 rw [r.1,e,show a=⟨#[m]⟩ from congrArg Str.mk (Array.ext' h1)]
 exact PySem.P.ord_of_char (PX.tok M.sat (VR.int _ _) k)
end
section
variable {w:World} {A:Around} {E:Value→Shared→Prop} {s:Shared}
theorem iadd_dict0 {R:Result→Shared→Prop} {S d:Addr} {ep:Nat} (hh:A.handled=none) (lo:(d == sysModules)=false) (ho:s.heap.get? d=some (PySem.W.dictOf [] ep)) (ne:S≠d) (hS:s.heap.get? S=some { cls:=.type "list",data:=.seq ([]:List Value).toArray })
  (h:∀ h' tk c',(∀ b o,b≠S→s.heap.get? b=some o→h'.get? b=some o)→h'.get? S=some { cls:=.type "list",dict:=none,data:=.seq #[] c',slots:=#[] }→R (.ok (.ret (.ref S))) { s with heap:=h',toks:=tk }) :
  codeAny (model pw w) A (.builtin "list.__iadd__" ⟨[.ref S,.ref d],[]⟩) R s:=by
 have hok:s.heap.DictAt (intKind pw w) d [] ep:=⟨_,#[],ho,⟨rfl,rfl,rfl⟩,rfl,fun e m=>by simp at m,by first | trivial | exact .nil | (unfold Pairs; trivial),List.nodup_nil⟩
 have K:=kdl_dict (prog:=pw) (w:=w) (knd:=intKind pw w) (d:=d) (kvs:=[]) (ep:=ep) lo
 refine codeAny_builtin PySem.F.entry_list_iadd ?_
 rw [Around.under_plainId PySem.F.plain_list_iadd _]
 show wpAny _ _ (Builtin.List.listExtendWith (.ref S) (.ref d) (.ref S)) _ _ _
 refine kdl_extend K hh hok S ne ne _ 0 hS (fun h' tk acc' c' hk hS' hacc=>?_) (by rw [sizeLine_eq]; simp)
 have acc0:acc' = #[]:=Array.eq_empty_of_size_eq_zero hacc.1
 subst acc0
 exact h h' tk c' hk hS'
theorem sorted_dict0 {d:Addr} {ep:Nat} {Q:Value→Shared→Prop} (hh:A.handled=none) (lo:(d == sysModules)=false) (ho:s.heap.get? d=some (PySem.W.dictOf [] ep))
  (h:∀ hp' a tk,(∀ b o,s.heap.get? b=some o→hp'.get? b=some o)→s.heap.get? a=none→(∃ k,hp'.get? a=some (listObj #[] k))→(Q (.ref a) { s with heap:=hp',toks:=tk })) :
  wpAny (model pw w) A (call (.builtin "sorted") [.ref d]) Q E s:=by
 refine Calls.call_function_entry kind_sorted plain_sorted entry_sorted (args_sorted1 _) ?_
 unfold Builtin.«sorted»
 refine wpAny_bind (m:=checkCount "sorted" 1 1 _) (wpAny_pure ?_)
 have e0:s.heap.get? s.heap.objs.size=none:=get_size s.heap 0
 have dl:s.heap.objs.size≠d:=fun q=>by rw [← q,e0] at ho; cases ho
 unfold collect
 refine wpAny_bind (wpAny_bind (wpAny_runValue (codeAny_builtin PySem.F.entry_proto_collect ?_)))
 rw [Around.under_plainId PySem.F.plain_proto_collect _]
 show wpAny _ _ (newList [] >>= fun l=>again (.builtin "list.__iadd__" ⟨[l,.ref d],[]⟩)) _ _ s
 refine wpAny_bind (wpAny_newObj_type ?_)
 have hS:(s.heap.push { cls:=.type "list",data:=.seq ([]:List Value).toArray }).get? s.heap.objs.size=some { cls:=.type "list",data:=.seq ([]:List Value).toArray }:=Heap.get?_push_size _ rfl
 refine wpAny_pure ⟨plainId_quiet PySem.F.plain_list_iadd _,iadd_dict0 (s:={ s with heap:=s.heap.push { cls:=.type "list",data:=.seq ([]:List Value).toArray } }) hh lo (Heap.get?_push_of_some _ ho) dl hS fun h' tk c' hk hS'=>?_⟩
 refine wpAny_bind (wpAny_load hS' ?_)
 refine wpAny_pure ?_
 refine wpAny_bind (wpAny_newList ?_)
 have hoL:((h'.push (seqObj "list" (#[]:Array Value).toList.toArray 0))).get? h'.objs.size=some (seqObj "list" ([]:List Value).toArray 0):=Heap.get?_push_size _ rfl
 refine wpAny_bind (wpAny_holding (wpAny_call_entry slot_list_sort ⟨_,hoL,rfl⟩ entry_list_sort (list_sort_tree (s:={ s with heap:=h'.push (seqObj "list" (#[]:Array Value).toList.toArray 0),toks:=tk }) hoL .nil (by simp) fun out ns' a1 a2 a3=>⟨_,rfl,?_⟩) (args_list_sort _)))
 have hk0:∀ b o,s.heap.get? b=some o→h'.get? b=some o:=fun b o e=>hk b o (fun q=>by rw [q,e0] at e; cases e) (Heap.get?_push_of_some _ e)
 have e1:h'.get? h'.objs.size=none:=get_size h' 0
 have out0:out = #[]:=by
  have:=List.Perm.length_eq a2
  have l2:=a1.length
  apply Array.eq_empty_of_size_eq_zero
  simp at this l2
  subst this
  simpa using l2
 subst out0
 refine wpAny_pure ⟨_,rfl,?_⟩
 refine h _ _ tk (fun b o e=>?_) ?_ ?_
 ·have ne:b≠h'.objs.size:=fun q=>by have:=hk0 b o e; rw [q,e1] at this; cases this
  unfold sortedHeap
  rw [Heap.get?_update_ne _ _ _ _ ne]
  refine Heap.get?_push_of_some _ (Heap.get?_push_of_some _ ?_)
  rw [Heap.get?_update_ne _ _ _ _ ne]
  exact Heap.get?_push_of_some _ (hk0 b o e)
 ·cases q:s.heap.get? h'.objs.size with
  | none=>rfl
  | some o=>have:=hk0 _ o q; rw [e1] at this; cases this
 ·unfold sortedHeap
  have g1:=get?_update_seq hoL (fun _=>#[])
  have g2:=Heap.get?_push_of_some (seqObj "list" #[] 0) (Heap.get?_push_of_some (seqObj "tuple" ([]:List Value).toArray 0) g1)
  exact ⟨_,get?_update_seq g2 (fun _=>#[])⟩
end

section
variable {h:AH} {K:KV} {n:Nm} {l:List AVal}
theorem sumI_app:∀ (l:List Int) (i:Int),sumI (l ++ [i])=sumI l + i
 | [],i=>by simp [sumI]
 | x :: l,i=>by
  show x + sumI (l ++ [i])=x + sumI l + i
  rw [sumI_app l i]; omega
theorem preSum_take (q:List Int):∀ n,n≤q.length→preSum (fun i=>q.getD i 0) n=sumI (q.take n)
 | 0,_=>rfl
 | n + 1,e=>by
  rw [preSum,preSum_take q n (by omega),List.take_add_one]
  have:q[n]? = some q[n]:=List.getElem?_eq_getElem (by omega)
  rw [this]
  show _=sumI (q.take n ++ [q[n]])
  rw [sumI_app]
  simp [List.getD,this]
theorem preSum_all (q:List Int):preSum (fun i=>q.getD i 0) q.length=sumI q:=by
 rw [preSum_take q _ (Nat.le_refl _),List.take_length]

theorem bl_sorted (hn:h n=some (.dict [])) (k:NO (.list []) h K):BL .sorted [.ref n] h K:=fun c W s A cs M r=>.i <| r.one.elim fun v r=>by
 rw [r.1,r.2.2]
 refine (M.sat.dict hn).elim fun es z=>z.elim fun m z=>k.2.elim fun n' y=>?_
 have zz:=z.1
 rw [show es=[] from z.2.1] at zz
 refine sorted_dict0 M.hh (sys_ne M (has_some hn)) zz fun hp' a tk hk e0 g=>g.elim fun k' g=>?_
 have e1:s.heap.get? hp'.objs.size=none:=by
  cases q:s.heap.get? hp'.objs.size with
  | none=>rfl
  | some o=>exact son ((hk _ _ q).symm.trans (get_size hp' 0))
 have N:=new_at (o:=.list []) (tk:=tk) M.sat y.1 hk e0 e1 (fun e=>son (g.symm.trans (by rw [e]; exact get_size hp' 0))) ⟨#[],k',by rw [put_self]; exact g,rfl,k.1⟩
 exact ⟨_,_,_,N.2,N.1,put_ref,y.2⟩
theorem bl_sum {q:List Int} (hn:h n=some (.list l)) (h1:toInts l=some q) (h2:∀ i∈q,0≤i∧i≤1000) (k:K (.int (sumI q)) h):BL .sum [.ref n] h K:=fun c W s A cs M r=>.i <| r.one.elim fun v r=>by
 rw [r.1,r.2.2]
 refine (M.sat.list hn).elim fun vs z=>z.elim fun m z=>?_
 have hl1:s.heap.IsList _ vs:=⟨_,z.1,rfl,m,rfl⟩
 have T:=toInts_at h1 z.2.1
 have e:=z.2.1.length
 rw [Array.length_toList (xs:=vs)] at e
 have e0:s.heap.get? s.heap.objs.size=none:=get_size s.heap 0
 have ne:∀ {a:Addr} {o:Obj},s.heap.get? a=some o→a≠s.heap.objs.size:=fun ho e=>by rw [e,e0] at ho; exact nos ho
 refine call_sum_walkG (wpAny_pyIter_list hl1 ⟨s.heap.objs.size,_,_,_,_,_,fun i=>q.getD i 0,rfl,Walks.list (A:=A.in1) M.hh _ _ (ne z.1) vs,⟨⟨_,Heap.get?_push_size _ rfl,rfl,rfl⟩,hl1.push _⟩,fun b hb=>?_,fun i v e=>?_,fun h' tk t' hk=>?_⟩)
 ·show b < (s.heap.push _).objs.size
  rw [Heap.size_push]
  have:=Heap.lt_size z.1
  simp at hb
  rcases hb with hb | hb <;> rw [hb]
  ·exact Nat.lt_succ_self _
  ·exact Nat.lt_succ_of_lt this
 ·have e:vs.toList[i]? = some v:=by rw [Array.getElem?_toList]; exact e
  refine (T.2.2 v (List.mem_of_getElem? e)).elim fun t ev=>⟨t,?_⟩
  rw [← T.2.1]
  show v=Value.int ((vs.toList.map vInt).getD i 0) t
  rw [List.getD_eq_getElem?_getD,List.getElem?_map,e]; exact ev
 ·have hsz:vs.size=q.length:=by rw [T.1,e]
  rw [hsz,preSum_all]
  have hk':∀ a o,s.heap.get? a=some o→h'.get? a=some o:=fun a o e=>hk a o (fun hb=>by
   simp at hb; subst hb; rw [e0] at e; exact nos e) (Heap.get?_push_of_some _ e)
  exact ⟨_,_,_,keep_ex hk',M.sat.keeps hk',VR.int _ _,k⟩
end
end
section
structure Fgn (h:AH) (W:Wd) (hp:Heap) (a:Addr):Prop where
 no:¬ own h W a
 g:W.g a=none
 al:∃ o,hp.get? a=some o
section
variable {D:Nm→Prop} {P:Params} {H0:Heap} {h h1:AH} {W W1:Wd} {s s1:Shared} {hp hp':Heap} {L:Option Addr} {a:Addr}
theorem dead_no (S:Sat P H0 W h hp) (e:hp.get? a=none):¬ own h W a:=fun q=>q.elim fun _ q=>q.elim fun _ q=>S.ad_ne e q.1 q.2.symm
theorem Fgn.new (S:Sat P H0 W h hp) (e:hp.get? a=none) (al:∃ o,hp'.get? a=some o):Fgn h W hp' a:=⟨dead_no S e,S.gone e,al⟩
theorem Fgn.same (f:Fgn h W s.heap a) (x:Ex D h W s h1 W1 s1 L) (ne:L≠some a) {o:Obj} (e:s.heap.get? a=some o):s1.heap.get? a=some o:=x.keep a o e f.no ne
theorem Fgn.step (f:Fgn h W s.heap a) (x:Ex D h W s h1 W1 s1 L):Fgn h1 W1 s1.heap a :=
 f.al.elim fun o e=>⟨fun q=>(x.own' a q).elim f.no fun z=>son (e.symm.trans z),by
  cases q:W1.g a with
  | none=>rfl
  | some z=>exact (x.gnew a z q).elim (fun q'=>nos (f.g.symm.trans q')) fun q'=>son (e.symm.trans q'),Option.isSome_iff_exists.mp (x.size a o e)⟩
theorem Fgn.of_keep (f:Fgn h W hp a) (k:∀ o,hp.get? a=some o→hp'.get? a=some o):Fgn h W hp' a:=⟨f.no,f.g,f.al.elim fun o e=>⟨o,k o e⟩⟩
theorem Sat.but (S:Sat P H0 W h hp) (n0:¬ own h W a) (g0:W.g a=none) (k:∀ b o,b≠a→hp.get? b=some o→hp'.get? b=some o):Sat P H0 W h hp' :=
 S.congr fun b o q e=>k b o (fun z=>by
  rw [z] at q
  exact q.elim (fun q=>q.elim fun o' q=>nos (g0.symm.trans q)) n0) e
theorem Fgn.sat (f:Fgn h W hp a) (S:Sat P H0 W h hp) (k:∀ b o,b≠a→hp.get? b=some o→hp'.get? b=some o):Sat P H0 W h hp':=S.but f.no f.g k
theorem Ex.but (x:Ex D h W s h1 W1 s1 L) (e:s.heap.get? a=none) {tk:Nat} (k:∀ b o,b≠a→s1.heap.get? b=some o→hp'.get? b=some o):Ex D h W s h1 W1 { s1 with heap:=hp',toks:=tk } L:=by
 have ne:∀ {b o},s.heap.get? b=some o→b≠a:=fun q z=>son (q.symm.trans (z ▸ e))
 refine ⟨x.g,x.ad,fun b o q=>(Option.isSome_iff_exists.mp (x.size b o q)).elim fun o' q'=>?_,fun b o q n l=>k b o (ne q) (x.keep b o q n l),x.own',x.gnew,x.gens,x.os⟩
 show (hp'.get? b).isSome=true
 rw [k b o' (ne q) q']; rfl
theorem Sat.adopt {nm:Nm} {o:AObj} (S:Sat P H0 W h hp) (hn:h nm=none) (f:Fgn h W hp a) (x:OR P (hset h nm o) (W.put nm a hp.objs.size) hp nm o):Sat P H0 (W.put nm a hp.objs.size) (hset h nm o) hp:=by
 have e1:hp.get? hp.objs.size=none:=get_size hp 0
 have h01:a≠hp.objs.size:=fun q=>f.al.elim fun o ho=>son (ho.symm.trans (q ▸ e1))
 have an:∀ {n b},has h n b=true→W.ad n b≠a:=fun {n b} e q=>f.no ⟨n,b,e,q.symm⟩
 have ad2:∀ {c},(W.put nm a hp.objs.size).ad nm c=a∨(W.put nm a hp.objs.size).ad nm c=hp.objs.size:=fun {c}=>by
  rw [put_self]; cases c
  ·exact .inl rfl
  ·exact .inr rfl
 have out:∀ {n b c},has h n b=true→(W.put nm a hp.objs.size).ad nm c≠W.ad n b:=fun e q=>ad2.elim (fun z=>an e (q.symm.trans z)) fun z=>S.ad_ne e1 e (q.symm.trans z)
 refine ⟨S.stat,S.keep,fun n ob hob=>?_,fun n b m c e f' q=>?_,fun n b e=>?_⟩
 ·rcases nm_cases n nm with hn' | hne
  ·rw [hn',hset_self] at hob; rw [hn',← Option.some.inj hob]; exact x
  ·rw [hset_ne hne] at hob
   exact OR.mono (put_le hn) (fun b e=>put_ne hne) hob (S.obj n ob hob)
 ·rcases nm_cases n nm with hn' | hne <;> rcases nm_cases m nm with hm | hme
  ·refine ⟨hn'.trans hm.symm,?_⟩
   rw [hn',hm,put_self,put_self] at q
   cases b <;> cases c <;> first | rfl | exact absurd q h01 | exact absurd q.symm h01
  ·rw [put_ne hme,hn'] at q; rw [has_ne hme] at f'; exact absurd q (out f')
  ·rw [put_ne hne,hm] at q; rw [has_ne hne] at e; exact absurd q.symm (out e)
  ·rw [put_ne hne,put_ne hme] at q
   rw [has_ne hne] at e; rw [has_ne hme] at f'
   exact S.inj n b m c e f' q
 ·rcases nm_cases n nm with hn' | hne
  ·rw [hn']; exact ad2.elim (fun z=>by rw [z]; exact f.g) fun z=>by rw [z]; exact S.gone e1
  ·rw [put_ne hne]; rw [has_ne hne] at e; exact S.gno n b e
theorem adopt_at {nm:Nm} {o:AObj} (X:Ex all' h W s h1 W1 s1 L) (S:Sat P H0 W1 h1 s1.heap) (hn:h1 nm=none) (f:Fgn h1 W1 s1.heap a) (dead:s.heap.get? a=none) (x:OR P (hset h1 nm o) (W1.put nm a s1.heap.objs.size) s1.heap nm o) :
  Sat P H0 (W1.put nm a s1.heap.objs.size) (hset h1 nm o) s1.heap∧Ex all' h W s (hset h1 nm o) (W1.put nm a s1.heap.objs.size) s1 L:=by
 refine ⟨S.adopt hn f x,X.g,fun m b t e=>?_,X.size,X.keep,fun b e=>e.elim fun m e=>e.elim fun c e=>?_,X.gnew,X.gens,X.os⟩
 ·have p:=X.ad m b t e
  have q:=(put_le (o:=o) (W:=W1) (a0:=a) (a1:=s1.heap.objs.size) hn).ad m b p.1
  exact ⟨q.1,q.2.trans p.2⟩
 ·rcases nm_cases m nm with hm | hne
  ·rw [e.2,hm,put_self]; cases c
   ·exact .inr dead
   ·exact .inr (X.back (get_size s1.heap 0))
  ·rw [e.2,put_ne hne]
   exact X.own' _ ⟨m,c,(has_ne hne).symm.trans e.1,rfl⟩
end
noncomputable def PRs (h:AH) (W:Wd):List (AVal×AVal)→List (Value×Value)→Prop
 | [],r=>r=[]
 | p :: l,r=>∃ v u r',r=(v,u) :: r'∧isKey p.1=true∧VR h W p.1 v∧VR h W p.2 u∧PRs h W l r'
def DV (c:Cx) (loc:Loc) (ks:List (Option Expr)) (vs:List Expr) (h:AH) (K:List (AVal×AVal)→AH→Prop):Prop:=∀ W s L env A pos,At c loc h W s L env A →
 Wp c A (evalPairs (pairTrees ks vs env pos)) (PX c h W s (fun h W ps r=>PRs h W ps r∧ps.length=ks.length) K) NoE s
noncomputable def DK (a:AVal) (x:Prop):Prop:=isKey a=true∧x
theorem dk {a:AVal} {X:Prop} (e:isKey a=true) (k:X):DK a X:=⟨e,k⟩
section
variable {c:Cx} {loc:Loc} {h:AH} {W:Wd} {s:Shared} {K:KV} {a v:Expr} {ks:List (Option Expr)} {vs:List Expr} {KD:List (AVal×AVal)→AH→Prop} {p:Pos}
theorem dv_nil (k:KD [] h):DV c loc [] [] h KD:=fun _ _ _ _ _ _ a=>.i <| wpAny_pure (PX.here (av:=([]:List (AVal×AVal))) a.m.sat ⟨rfl,rfl⟩ k)
theorem dv_cons (k:E c loc a h fun av h1=>E c loc v h1 fun bv h2=>DK av (DV c loc ks vs h2 fun r h3=>KD ((av,bv) :: r) h3)):DV c loc (some a :: ks) (v :: vs) h KD:=fun W s L env A pos at_=>.i <| by
 show wpAny _ A (evalPairs ((eval a env,do let x ← eval v env; standAt pos; pure x) :: pairTrees ks vs env pos)) _ _ s
 rw [evalPairs]
 refine wpAny_bind (k.go at_ fun v1 s1 av h1 W1 X a1 rv k1=>wpAny_bind (wpAny_holding (wpAny_bind (k1.go a1 fun v2 s2 bv h2 W2 X2 a2 ru k2=>?_))))
 refine wpAny_bind (wpAny_standAt (wpAny_pure (wpAny_bind (wpAny_holding (PX.bind (k2.2 W2 s2 L env A pos a2).o fun r s3 ps h3 W3 X3 S3 rr k3=>?_)))))
 have X23:=X2.trans X3
 exact wpAny_pure (PX.after (X.trans X23) (PX.here (av:=(av,bv) :: ps) S3 ⟨⟨v1,v2,r,rfl,k2.1,rv.mono X23.le,ru.mono X3.le,rr.1⟩,congrArg (· + 1) rr.2⟩ k3))
theorem store_all {A:Around} {d:Addr} (hu:A.units + 300 < cLine) (n0:¬ own h W d) (g0:W.g d=none):∀ {ps:List (AVal×AVal)} {vs:List (Value×Value)},PRs h W ps vs→∀ {l:List (AVal×AVal)} {es:List DictEntry} {ep:Nat} {s:Shared} {Q:PUnit→Shared→Prop},Sat c.w.params c.H0 W h s.heap→s.heap.get? d=some (PySem.W.dictOf es ep)→DR c.w.params h W l es→l.length + ps.length < 900000 →
  (∀ es' ep' hp' tk,DR c.w.params h W (dputs l ps) es'→hp'.get? d=some (PySem.W.dictOf es' ep')→Heap.SameBut d s.heap hp'→Q PUnit.unit { s with heap:=hp',toks:=tk })→wpAny (model pw c.w) A (storeAll d vs) Q NoE s
 | [],vs,r,l,es,ep,s,Q,S,ho,R,len,q=>by
  rw [show vs=[] from r]
  unfold storeAll
  rw [List.forIn_nil]
  exact wpAny_pure (q es ep s.heap s.toks R ho (Heap.SameBut.refl _ _))
 | p :: ps,vs,r,l,es,ep,s,Q,S,ho,R,len,q=>r.elim fun v r=>r.elim fun u r=>r.elim fun vs r=>by
  rw [r.1]
  unfold storeAll
  rw [List.forIn_cons]
  rw [List.length_cons] at len
  have dl:=dput_len (k:=p.1) (u:=p.2) l
  refine wpAny_bind (wpAny_bind (set_key R S (Nat.lt_of_le_of_lt (Nat.add_le_add_left (by decide) _) hu) ho r.2.1 r.2.2.1 r.2.2.2.1 (by omega) fun es' ep' hp' tk R' g sb=>wpAny_pure ?_))
  exact store_all hu n0 g0 r.2.2.2.2 (s:={ s with heap:=hp',toks:=tk }) (S.but n0 g0 fun b o n e=>(sb.2 b n).trans e) g R' (by omega) fun es2 ep2 hp2 tk2 R2 g2 sb2=>q es2 ep2 hp2 tk2 R2 g2 (sb.trans sb2)
theorem e_dict0 (z:NO (.dict []) h K):E c loc (.Dict [] [] p) h K:=fun W s L env A a=>.i <| wpAny_Dict_empty (new_dict0 (tk:=s.toks) a.m.sat z)
theorem e_dict {k0:Option Expr} (hs:(((k0 :: ks).all (·.isSome) && Nat.beq (k0 :: ks).length vs.length) && Nat.ble (k0 :: ks).length 15)=true) (z:DV c loc (k0 :: ks) vs h fun l h1=>NO (.dict (dputs [] l)) h1 K):E c loc (.Dict (k0 :: ks) vs p) h K:=fun W s L env A a=>.i <| by
 have h0:=Bool.and_eq_true_iff.mp hs
 have h1:=Bool.and_eq_true_iff.mp h0.1
 have h3:=Nat.le_of_ble_eq_true h0.2
 refine wpAny_Dict_any h1.1 (Nat.eq_of_beq_eq_true h1.2) (by simp) h3 ?_
 have e0:s.heap.get? s.heap.objs.size=none:=get_size s.heap 0
 have hk:=fun a o (e:s.heap.get? a=some o)=>Heap.get?_push_of_some { cls:=.type "dict",data:=.dict #[] } e
 have ho:=Heap.get?_push_size s.heap (o:={ cls:=.type "dict",data:=.dict #[] }) rfl
 have Xp:Ex all' h W s h W { s with heap:=s.heap.push { cls:=.type "dict",data:=.dict #[] } } none:=keep_ex (tk:=s.toks) hk
 have fp:Fgn h W (s.heap.push { cls:=.type "dict",data:=.dict #[] }) s.heap.objs.size:=.new a.m.sat e0 ⟨_,ho⟩
 refine PX.bind (z W _ L env A _ (a.step Xp (a.m.sat.keeps hk))).o fun r s2 ps h2 W2 X2 S2 rr k2=>?_
 have f2:=fp.step X2
 have len:ps.length≤15:=by rw [rr.2]; exact h3
 refine store_all (c:=c) a.m.u f2.no f2.g rr.1 S2 (fp.same X2 nofun ho) (show DR c.w.params h2 W2 [] [] from rfl) (by rw [List.length_nil,Nat.zero_add]; omega) fun es' ep' hp' tk R' g sb=>k2.2.elim fun n y=>?_
 have kp:∀ b o,b≠s.heap.objs.size→s2.heap.get? b=some o→hp'.get? b=some o:=fun b o n e=>(sb.2 b n).trans e
 have S3:=f2.sat S2 kp
 have N:=adopt_at (o:=.dict (dputs [] ps)) (s1:={ s2 with heap:=hp',toks:=tk }) ((Xp.trans X2).but e0 kp) S3 y.1 ⟨f2.no,f2.g,_,g⟩ e0 ⟨es',ep',by rw [put_self]; exact g,R'.mono (put_le y.1),k2.1⟩
 exact ⟨.ref n,_,_,N.2,N.1,put_ref,y.2⟩
end
end
section
noncomputable def sliceL (l:List AVal) (a b:AVal):Option (List AVal):=match a with
 | .none=>(match b with
  | .none=>some l
  | .int (.ofNat j)=>some (l.take j)
  | _=>none)
 | .int (.ofNat i)=>(match b with
  | .none=>bif Nat.ble i l.length then some (l.drop i) else none
  | _=>none)
 | _=>none
theorem VRs.take {h:AH} {W:Wd}:∀ {l:List AVal} {vs:List Value},VRs h W l vs→∀ j,VRs h W (l.take j) (vs.take j)
 | [],_,r,j=>by rw [show _=[] from r,List.take_nil,List.take_nil]; exact .nil
 | _ :: _,_,_,0=>.nil
 | _ :: _,_,r,j + 1=>r.iCons.elim fun v r=>r.elim fun vs r=>by rw [r.1]; exact .cons r.2.1 (r.2.2.take j)
theorem VRs.drop {h:AH} {W:Wd}:∀ {l:List AVal} {vs:List Value},VRs h W l vs→∀ j,VRs h W (l.drop j) (vs.drop j)
 | [],_,r,j=>by rw [show _=[] from r,List.drop_nil,List.drop_nil]; exact .nil
 | _ :: _,_,r,0=>r
 | _ :: _,_,r,j + 1=>r.iCons.elim fun v r=>r.elim fun vs r=>by rw [r.1]; exact r.2.2.drop j
theorem slice_pick {h:AH} {W:Wd} {l q:List AVal} {a b:AVal} {va vb:Value} {vs:Array Value} (e:sliceL l a b=some q) (R:VRs h W l vs.toList) (ra:VR h W a va) (rb:VR h W b vb):∃ lo hi,IsPart va lo∧IsPart vb hi∧VRs h W q (slicePick vs lo hi none).toList:=by
 cases a with
 | none =>
  cases b with
  | none =>
   rw [show va=_ from ra,show vb=_ from rb,← Option.some.inj e]
   exact ⟨none,none,.none,.none,by rw [slicePick_all]; exact R⟩
  | int j =>
   cases j with
   | ofNat j =>
    refine rb.elim fun t eb=>?_
    rw [show va=_ from ra,eb,← Option.some.inj e]
    exact ⟨none,some (j:Int),.none,.int _ _,by rw [slicePick_upto']; exact R.take j⟩
   | negSucc j=>exact nos e
  | _=>exact nos e
 | int i =>
  cases i with
  | ofNat i =>
   cases b with
   | none =>
    cases hb:Nat.ble i l.length with
    | false=>rw [show sliceL l (.int (.ofNat i)) .none=bif Nat.ble i l.length then some (l.drop i) else none from rfl,hb] at e; exact nos e
    | true =>
     rw [show sliceL l (.int (.ofNat i)) .none=bif Nat.ble i l.length then some (l.drop i) else none from rfl,hb] at e
     refine ra.elim fun t ea=>?_
     rw [ea,show vb=_ from rb,← Option.some.inj e]
     have l1:=R.length
     rw [Array.length_toList (xs:=vs)] at l1
     exact ⟨some (i:Int),none,.int _ _,.none,by rw [slicePick_from _ _ (l1 ▸ Nat.le_of_ble_eq_true hb)]; exact R.drop i⟩
   | _=>exact nos e
  | negSucc i=>exact nos e
 | _=>exact nos e
abbrev sliceO (va vb:Value):Obj:={ cls:=.type "slice",data:=.fields #[va,vb,.none] }
def SL (v a b:AVal) (h:AH) (K:KV):Prop:=∀ c W s A v' va vb lo hi p value,Md c h W s A→VR h W v v'→VR h W a va→VR h W b vb →
 Wp c A (subscriptTail value (.Slice lo hi none p) v' (.ref s.heap.objs.size)) (PX c h W s VR K) NoE { s with heap:=s.heap.push (sliceO va vb) }
noncomputable def evO (ev:Expr→AH→KV→Prop):Option Expr→AH→KV→Prop
 | none,h,K=>K .none h
 | some e,h,K=>ev e h K
section
variable {c:Cx} {loc:Loc} {h:AH} {W:Wd} {s:Shared} {L:Addr} {env:Env} {A:Around} {K:KV} {n:Nm} {l l2:List AVal} {y z:AVal} {a:Str}
theorem o_none {ev:Expr→AH→KV→Prop} (k:K .none h):evO ev none h K:=k
theorem o_some {ev:Expr→AH→KV→Prop} {e:Expr} (k:ev e h K):evO ev (some e) h K:=k
theorem evO_go {e:Option Expr} (at_:At c loc h W s L env A) (z:evO (E c loc) e h K):wpAny (model pw c.w) A (evalPart e env) (PX c h W s VR K) NoE s:=by
 cases e with
 | none=>exact wpAny_pure (PX.here at_.m.sat VR.none z)
 | some e=>exact (z W s L env A at_).o
theorem e_slice {o:Expr} {lo hi:Option Expr} {p q:Pos} (k:E c loc o h fun v h1=>evO (E c loc) lo h1 fun a h2=>evO (E c loc) hi h2 fun b h3=>SL v a b h3 K):E c loc (.Subscript o (.Slice lo hi none q) p) h K:=fun W s L env A at_=>.i <|
 Subscript_ (k.go at_ fun v s1 av h1 W1 X a1 rv k=>wpAny_Slice (PX.bind (evO_go a1 k) fun va s2 aa h2 W2 X2 S2 ra k2=>PX.bind (evO_go (a1.step X2 S2) k2) fun vb s3 bb h3 W3 X3 S3 rb k3=>by
  rw [evalPart_none]
  exact wpAny_pure (PX.up ((X.trans X2).trans X3) (k3 c W3 s3 A v va vb lo hi q o ((a1.step X2 S2).m.step S3) (rv.mono (X2.trans X3).le) (ra.mono X3.le) rb).o)))
theorem sl_any {c:Cx} {W:Wd} {s:Shared} {A:Around} {ad:Addr} {vs:Array Value} {value:Expr} {va vb:Value} {lo hi:Option Expr} {p:Pos} (M:Md c h W s A) (hl:s.heap.IsList ad vs) (R:VRs h W l vs.toList) (len:l.length≤1000000) (ra:VR h W y va) (rb:VR h W z vb) (e:sliceL l y z=some l2) (k:NO (.list l2) h K) :
  wpAny (model pw c.w) A (subscriptTail value (.Slice lo hi none p) (.ref ad) (.ref s.heap.objs.size)) (PX c h W s VR K) NoE { s with heap:=s.heap.push (sliceO va vb) }:=by
 have hk:=fun a o (e:s.heap.get? a=some o)=>Heap.get?_push_of_some (sliceO va vb) e
 have l1:=R.length
 rw [Array.length_toList (xs:=vs)] at l1
 refine (slice_pick e R ra rb).elim fun lo' w=>w.elim fun hi' w=>PX.up (keep_ex (tk:=s.toks) hk) ?_
 exact tail_any (T := "list") (hl.push _).typeIs slot_list_getitem.lookup (wpAny_getItem_list_slice (hl.push _) (Heap.IsSliceOf.new ..) w.1 w.2.1 .none (by simp) (new_list (tk:=s.toks) (M.sat.keeps hk) w.2.2 k) (by rw [sizeLine_eq]; omega)) rfl
theorem sl_list (hn:h n=some (.list l)) (h1:sliceL l y z=some l2) (k:NO (.list l2) h K):SL (.ref n) y z h K:=fun c W s A v' va vb lo hi p value M r ra rb=>.i <| by
 rw [r.2]
 exact (M.sat.list hn).elim fun vs w=>w.elim fun m w=>sl_any M ⟨_,w.1,rfl,m,rfl⟩ w.2.1 w.2.2 ra rb h1 k
theorem sl_sl {q:List Int} (h1:sliceL (q.map .int) y z=some l2) (k:NO (.list l2) h K):SL (.sl q) y z h K:=fun c W s A v' va vb lo hi p value M r ra rb=>.i <|
 r.iSl.elim fun ad w=>w.elim fun o w=>w.elim fun vs w=>w.elim fun m w=>by
  rw [w.1]
  exact sl_any M ⟨_,M.sat.keep _ _ w.2.1,w.2.2.1,m,w.2.2.2.1⟩ w.2.2.2.2.1.vrs (by rw [List.length_map]; exact w.2.2.2.2.2) ra rb h1 k
theorem sl_str {i j:Nat} (h1:i≤j) (h2:j≤a.cps.size) (h3:j≤1000000) (k:K (.str ⟨a.cps.extract i j⟩) h):SL (.str a) (.int (.ofNat i)) (.int (.ofNat j)) h K:=fun c W s A v' va vb lo hi p value M r ra rb=>.i <|
 r.elim fun t e=>ra.elim fun t1 e1=>rb.elim fun t2 e2'=>by
  rw [e,e1,e2']
  have hk:=fun a o (e:s.heap.get? a=some o)=>Heap.get?_push_of_some (sliceO (.int (.ofNat i) t1) (.int (.ofNat j) t2)) e
  have S1:=M.sat.keeps hk
  refine PX.up (keep_ex (tk:=s.toks) hk) ?_
  refine tail_any (T := "str") (typeIs_str _ a t) F.slot_str_getitem.lookup (wpAny_getItem_str_slice (l:=some ((i:Int),t1)) (u:=some ((j:Int),t2)) (st:=none) ⟨_,Heap.get?_push_size _ rfl,rfl,rfl⟩ rfl ?_) rfl
  have e:slicePicked a (some ((i:Int),t1)) (some ((j:Int),t2)) none=(List.range (j - i)).map (fun k=>i + k):=PySem.StrLaws.strSliceIndices_plain h1 h2
  have e2:((slicePicked a (some ((i:Int),t1)) (some ((j:Int),t2)) none).filterMap (a.cps[·]?)).toArray=a.cps.extract i j:=by
   rw [e,pick_run]
   apply Array.ext'
   simp [List.take_drop]
  unfold sliceMade
  split
  ·rename_i q
   have len:(slicePicked a (some ((i:Int),t1)) (some ((j:Int),t2)) none).length=a.cps.size:=by
    simp only [Option.map_none,Option.getD_none] at q
    have q2:=(Bool.and_eq_true_iff.mp q).2
    exact beq_iff_eq.mp q2
   rw [e,List.length_map,List.length_range] at len
   have i0:i=0∧j=a.cps.size∨a.cps.size=0:=by omega
   have:a.cps.extract i j=a.cps:=by
    rcases i0 with z | z
    ·rw [z.1,z.2]; exact Array.extract_size
    ·rw [Array.eq_empty_of_size_eq_zero z]; exact Array.extract_empty ..
   rw [this] at k
   exact PX.here S1 (VR.str _ _) k
  ·rw [e2]
   exact ⟨by rw [sizeLine_eq]; show (a.cps.extract i j).size≤_; rw [Array.size_extract]; omega,PX.tok S1 (VR.str _ _) k⟩
end
end
section
noncomputable def plainIt (o:Obj):Prop:=∃ n,o.cls = .type n∧["enumerate","zip","dict_itemiterator","dict_reverseitemiterator","odict_iterator","itertools.zip_longest","itertools.pairwise"].contains n=false
structure Itr (c:Cx) (A:Around) (h0:AH) (W0:Wd) (I:Addr) (l:List AVal) (chk:AH→Prop) (St:Nat→Heap→Prop):Prop where
 frame:∀ i hp hp',St i hp→(∀ o,hp.get? I=some o→hp'.get? I=some o)→St i hp'
 alive:∀ i hp,St i hp→∃ o,hp.get? I=some o∧plainIt o
 self:∀ i (s:Shared) (Q:Value→Shared→Prop) (E:Value→Shared→Prop),St i s.heap→Q (.ref I) s→wpAny (model pw c.w) A (pyIter (.ref I)) Q E s
 item:∀ i a (h:AH) (W:Wd) (s:Shared) (Q:Option Value→Shared→Prop) (E:Value→Shared→Prop),l[i]? = some a→Le h0 W0 h W→Sat c.w.params c.H0 W h s.heap→chk h→St i s.heap →
  (∀ v hp' tk,VR h W a v→St (i + 1) hp'→(∀ b o,b≠I→s.heap.get? b=some o→hp'.get? b=some o)→Q (some v) { s with heap:=hp',toks:=tk })→wpAny (model pw c.w) A (pyNext (.ref I)) Q E s
 done:∀ (h:AH) (W:Wd) (s:Shared) (Q:Option Value→Shared→Prop) (E:Value→Shared→Prop),Le h0 W0 h W→Sat c.w.params c.H0 W h s.heap→chk h→St l.length s.heap →
  (∀ hp' tk,(∀ b o,b≠I→s.heap.get? b=some o→hp'.get? b=some o)→Q none { s with heap:=hp',toks:=tk })→wpAny (model pw c.w) A (pyNext (.ref I)) Q E s
theorem VRs.at {h:AH} {W:Wd}:∀ {l:List AVal} {vs:List Value},VRs h W l vs→∀ {j:Nat} {u:AVal},l[j]? = some u→∃ v,vs[j]? = some v∧VR h W u v
 | [],_,_,_,_,e=>nos e
 | _ :: _,_,r,0,u,e=>r.iCons.elim fun v r=>r.elim fun vs r=>⟨v,by rw [r.1]; rfl,(Option.some.inj e) ▸ r.2.1⟩
 | _ :: l,_,r,j + 1,u,e=>r.iCons.elim fun v r=>r.elim fun vs r=>by rw [r.1]; exact VRs.at r.2.2 (j:=j) e
section
variable {c:Cx} {A:Around} {h0:AH} {W0:Wd}
theorem itr_list {n:Nm} {l:List AVal} {I:Addr} (hh:A.handled=none) (hn:h0 n=some (.list l)):Itr c A h0 W0 I l (fun h=>h n=some (.list l)) (fun i hp=>hp.IsListIter I (W0.ad n false) i) where
 frame:=fun i hp hp' st k=>st.elim fun o z=>⟨o,k o z.1,z.2⟩
 alive:=fun i hp st=>st.elim fun o z=>⟨o,z.1,"list_iterator",z.2.1,by decide⟩
 self:=fun i s Q E st q=>wpAny_pyIter_listiter st q
 item:=fun i a h W s Q E e le S ck st q=>by
  refine (S.list ck).elim fun vs z=>z.elim fun k z=>(z.2.1.at e).elim fun v y=>?_
  have ho:=z.1
  rw [(le.ad n false (has_some hn)).2] at ho
  exact wpAny_pyNext_list_item (x:=v) st ⟨_,ho,rfl,k,rfl⟩ (by rw [← Array.getElem?_toList]; exact y.1) fun h' hit hs=>q v h' s.toks y.2 hit fun b o hb e=>(hs.2 b hb).trans e
 done:=fun h W s Q E le S ck st q=>by
  refine (S.list ck).elim fun vs z=>z.elim fun k z=>?_
  have ho:=z.1
  rw [(le.ad n false (has_some hn)).2] at ho
  exact wpAny_pyNext_list_end hh st ⟨_,ho,rfl,k,rfl⟩ (by rw [← Array.getElem?_toList,z.2.1.length]; exact List.getElem?_eq_none (Nat.le_refl _)) fun h' he=>q h' s.toks fun b o hb e=>he b o hb e
theorem itr_tup {l:List AVal} {I a:Addr} {vs:List Value} (hh:A.handled=none) (e1:W0.g a=some (tupObj vs)) (R:VRs h0 W0 l vs):Itr c A h0 W0 I l (fun _=>True) (fun i hp=>hp.IsTupleIter I a i) where
 frame:=fun i hp hp' st k=>st.elim fun o z=>⟨o,k o z.1,z.2⟩
 alive:=fun i hp st=>st.elim fun o z=>⟨o,z.1,"tuple_iterator",z.2.1,by decide⟩
 self:=fun i s Q E st q=>wpAny_pyIter_tupleiter st q
 item:=fun i x h W s Q E e le S ck st q=>((R.mono le).at e).elim fun v y =>
  wpAny_pyNext_tuple_item (x:=v) st ⟨_,S.keep _ _ (le.g _ _ e1),rfl,0,rfl⟩ (by rw [List.getElem?_toArray]; exact y.1) fun h' hit hs=>q v h' s.toks y.2 hit fun b o hb e=>(hs.2 b hb).trans e
 done:=fun h W s Q E le S ck st q =>
  wpAny_pyNext_tuple_end hh st ⟨_,S.keep _ _ (le.g _ _ e1),rfl,0,rfl⟩ (by rw [List.getElem?_toArray,R.length]; exact List.getElem?_eq_none (Nat.le_refl _)) fun h' he=>q h' s.toks fun b o hb e=>he b o hb e
theorem itr_of {l:List AVal} {I:Addr} {n:Nat} {P:Nat→Value→Prop} {St:Nat→Heap→Prop} (Wk:Walks pw c.w A I [I] [I] n P St) (al:∀ i hp,St i hp→∃ o,hp.get? I=some o∧plainIt o) (hn:n=l.length)
  (hp:∀ i a v (h:AH) (W:Wd),l[i]? = some a→P i v→VR h W a v):Itr c A h0 W0 I l (fun _=>True) St where
 frame:=fun i hp hp' st k=>Wk.frame i hp hp' st fun b hb o e=>by rw [List.mem_singleton.mp hb] at e ⊢; exact k o e
 alive:=al
 self:=fun i s Q E st q=>Wk.self i s Q E st q
 item:=fun i x h W s Q E e le S ck st q=>Wk.item i s Q E (by rw [hn]; exact (List.getElem?_eq_some_iff.mp e).1) st fun v h' tk pv st' k=>q v h' tk (hp i x v h W e pv) st' fun b o hb e=>k b o (fun q=>hb (List.mem_singleton.mp q)) e
 done:=fun h W s Q E le S ck st q=>Wk.done s Q E (by rw [hn]; exact st) fun h' tk k=>q h' tk fun b o hb e=>k b o (fun q=>hb (List.mem_singleton.mp q)) e
theorem itr_str {x:Str} {I:Addr} {St:Nat→Heap→Prop} (Wk:Walks pw c.w A I [I] [I] x.cps.size (SignAt x) St) (al:∀ i hp,St i hp→∃ o,hp.get? I=some o∧plainIt o):Itr c A h0 W0 I (x.cps.toList.map fun c=>.str ⟨#[c]⟩) (fun _=>True) St :=
 itr_of Wk al (by simp) fun i a v h W e p=>p.elim fun ch p=>p.elim fun u p=>by
  rw [List.getElem?_map,Array.getElem?_toList,p.1] at e
  rw [p.2,← Option.some.inj e]; exact VR.str _ _
theorem upto_at:∀ (n i j:Nat) {a:AVal},(upto n i)[j]? = some a→a = .int (.ofNat (i + j))
 | 0,_,_,_,e=>nos e
 | n + 1,i,0,a,e=>(Option.some.inj e).symm
 | n + 1,i,j + 1,a,e=>by rw [upto_at n (i + 1) j e,Nat.add_right_comm]; rfl
theorem upto_len:∀ (n i:Nat),(upto n i).length=n
 | 0,_=>rfl
 | n + 1,i=>congrArg (· + 1) (upto_len n (i + 1))
theorem itr_range {n:Nat} {I:Addr} (hh:A.handled=none):Itr c A h0 W0 I (upto n 0) (fun _=>True) (fun i hp=>IsRangeIter hp I (0 + (i:Nat) * 1) ((n:Int) - (i:Nat)) 1) :=
 itr_of (Walks.range hh I 0 1 n) (fun i hp e=>⟨_,e,"range_iterator",rfl,by decide⟩) (upto_len n 0).symm fun i a v h W e p=>p.elim fun t p=>by
  rw [p,upto_at n 0 i e,Nat.zero_add,Int.zero_add,Int.mul_one]; exact VR.int _ t
end
noncomputable def ItPost (c:Cx) (A:Around) (h:AH) (W:Wd) (s:Shared) (K:List AVal→(AH→Prop)→Prop) (it:Value) (s2:Shared):Prop :=
 ∃ I l chk St,it = .ref I∧Ex all' h W s h W s2 none∧Sat c.w.params c.H0 W h s2.heap∧Fgn h W s2.heap I∧s.heap.get? I=none∧Itr c A h W I l chk St∧St 0 s2.heap∧K l chk
def IT (v:AVal) (h:AH) (K:List AVal→(AH→Prop)→Prop):Prop:=∀ c W s A u E',Md c h W s A→VR h W v u→Wp c A (pyIter u) (ItPost c A h W s K) E' s
section
variable {c:Cx} {loc:Loc} {L:Addr} {env:Env} {A:Around} {h:AH} {W:Wd} {s:Shared} {K:List AVal→(AH→Prop)→Prop} {n:Nm} {l:List AVal} {a:Str}
theorem ItPost.new {o:Obj} {tk:Nat} {chk:AH→Prop} {St:Nat→Heap→Prop} (S:Sat c.w.params c.H0 W h s.heap) (I:Itr c A h W s.heap.objs.size l chk St) (st:St 0 (s.heap.push o)) (k:K l chk):ItPost c A h W s K (.ref s.heap.objs.size) { s with heap:=s.heap.push o,toks:=tk }:=by
 have hk:=fun a ob (e:s.heap.get? a=some ob)=>Heap.get?_push_of_some o e
 exact ⟨_,l,chk,St,rfl,keep_ex hk,S.keeps hk,.new S (get_size s.heap 0) ((I.alive 0 _ st).elim fun o z=>⟨o,z.1⟩),get_size s.heap 0,I,st,k⟩
theorem it_list (hn:h n=some (.list l)) (k:K l (fun h'=>h' n=some (.list l))):IT (.ref n) h K:=fun c W s A u E' M r=>.i <| by
 rw [r.2]
 exact (M.sat.list hn).elim fun vs z=>z.elim fun m z=>wpAny_pyIter_list ⟨_,z.1,rfl,m,rfl⟩ (ItPost.new (tk:=s.toks) M.sat (itr_list M.hh hn) ⟨_,Heap.get?_push_size _ rfl,rfl,rfl⟩ k)
theorem it_tup (h1:l.length < 900000) (k:K l (fun _=>True)):IT (.tup l) h K:=fun c W s A u E' M r=>.i <| r.iTup.elim fun ad z=>z.elim fun vs z=>by
 rw [z.1]
 exact wpAny_pyIter_tuple ⟨_,M.sat.keep _ _ z.2.1,rfl,0,rfl⟩ (ItPost.new (tk:=s.toks) M.sat (itr_tup M.hh z.2.1 z.2.2) ⟨_,Heap.get?_push_size _ rfl,rfl,rfl⟩ k)
theorem it_str (k:K (a.cps.toList.map fun c=>.str ⟨#[c]⟩) (fun _=>True)):IT (.str a) h K:=fun c W s A u E' M r=>.i <| r.elim fun t e=>by
 rw [e]
 cases ha:a.cps.all (· < 128)
 ·exact wpAny_pyIter_wide ha (ItPost.new (tk:=s.toks) M.sat (itr_str (Walks.strWide M.hh _ a t) fun i hp st=>st.elim fun o z=>⟨o,z.1,"str_iterator",z.2.1,by decide⟩) ⟨_,Heap.get?_push_size _ rfl,rfl,rfl⟩ k)
 ·exact wpAny_pyIter_ascii ha (ItPost.new (tk:=s.toks) M.sat (itr_str (Walks.strAscii M.hh _ a t) fun i hp st=>st.elim fun o z=>⟨o,z.1,"str_ascii_iterator",z.2.1,by decide⟩) ⟨_,Heap.get?_push_size _ rfl,rfl,rfl⟩ k)
theorem range_go {x:Str} {e:Expr} {p pos:Pos} {K1:KV} (hs:isStar e=false) (hk:kdOf x c.sc.names=some .globalImplicit) (hx:sq x "range" = true) (a:At c loc h W s L env A) (z:E c loc e h K1) {f:Value→Shared→Prop}
  (y:∀ v s1 av h1 W1,Ex all' h W s h1 W1 s1 none→At c loc h1 W1 s1 L env A→VR h1 W1 av v→K1 av h1→∃ m:Nat,av = .int (.ofNat m)∧m < 900000∧∀ it s2,ItPost c A h1 W1 s1 (fun l chk=>l=upto m 0∧chk=fun _=>True) it s2→f it s2) :
  wpAny (model pw c.w) A (eval (.Call (.Name x p) [e] [] pos) env) (fun xv s1=>wpAny (model pw c.w) A (pyIter xv) f NoE s1) NoE s:=by
 rw [sq_iff.mp hx] at hk ⊢
 rw [kdOf_eq] at hk
 refine Call_ (a.m.b.mg.elim fun mg hmg=>a.m.b.mb.elim fun mb hmb=>?_)
 refine Calls.Name_function_global a.hkf ((a.hkd _).trans hk) (Calls.loadGlobal_builtin (mg:=mg) (mb:=mb) (v:=.type "range") (by rw [a.e.gl]; exact hmg.keeps a.m.sat.old) (mg_none_of a.m.b.kin hmg (b_row _ (by decide))) (by rw [a.e.bl]; exact hmb.1.keeps a.m.sat.old) (by rw [hmb.2 _ (by decide)]; rfl) ?_) rfl
 rw [trees_eq (by rw [List.all_cons,hs]; rfl)]
 refine PySem.callWith_type trees_any (evalArgs_trees (Calls.spliced_cons (z.go a fun v s1 av h1 W1 X a1 r k=>Calls.spliced_nil ?_)))
 refine (y v s1 av h1 W1 X a1 r k).elim fun n w=>?_
 rw [w.1] at r
 refine r.elim fun t e=>?_
 rw [e]
 refine call_range_1 (n:=(n:Int)) (wpAny_pyIter_range (IsRange.new ..) (small_one (by decide) (by decide) (by omega) (by have:=w.2.1; omega)) (w.2.2 _ _ ?_))
 have hsz:Builtin.Range.rangeSize 0 (n:Int) 1=(n:Int):=by rw [rangeSize_one]; split <;> omega
 have hk:=fun a ob (e:s1.heap.get? a=some ob)=>Heap.get?_push_of_some { cls:=.type "range",data:=.fields #[.int 0 s1.toks,.int (n:Int) t,.int 1 (s1.toks + 1)] } e
 refine (ItPost.new (s:={ s1 with heap:=s1.heap.push { cls:=.type "range",data:=.fields #[.int 0 s1.toks,.int (n:Int) t,.int 1 (s1.toks + 1)] },toks:=s1.toks + 1 + 1 }) (tk:=s1.toks + 1 + 1) (K:=fun l chk=>l=upto n 0∧chk=fun _=>True) (a1.m.sat.keeps hk) (itr_range (A:=A) (h0:=h1) (W0:=W1) (c:=c) a.m.hh) ?_ ⟨rfl,rfl⟩).elim fun I z=>z.elim fun l z=>z.elim fun chk z=>z.elim fun St z=>⟨I,l,chk,St,z.1,(keep_ex hk).trans z.2.1,z.2.2.1,z.2.2.2.1,(keep_ex (W:=W1) (h:=h1) (tk:=s1.toks + 1 + 1) hk).back z.2.2.2.2.1,z.2.2.2.2.2⟩
 show IsRangeIter _ _ (0 + ((0:Nat):Int) * 1) ((n:Int) - ((0:Nat):Int)) 1
 rw [show (0 + ((0:Nat):Int) * 1)=0 by simp,show ((n:Int) - ((0:Nat):Int))=Builtin.Range.rangeSize 0 (n:Int) 1 by rw [hsz]; simp]
 exact Heap.get?_push_size _ rfl
end
end
section
theorem lk_c {x y:Str} {u:AVal} {r:List (Str×AVal)}:lk x ((y,u) :: r)=bif sq x y then some u else lk x r:=rfl
theorem lput_c {x y:Str} {u v:AVal} {r:List (Str×AVal)}:lput x v ((y,u) :: r)=bif sq x y then (y,v) :: r else (y,u) :: lput x v r:=rfl
theorem lk_lput_self (x:Str) (v:AVal):∀ l:List (Str×AVal),lk x (lput x v l)=some v
 | []=>by show (bif sq x x then some v else _)=_; rw [sq_iff.mpr rfl]; rfl
 | (y,u) :: r=>by
  rw [lput_c]
  cases q:sq x y with
  | true=>show lk x ((y,v) :: r)=_; rw [lk_c,q]; rfl
  | false=>show lk x ((y,u) :: lput x v r)=_; rw [lk_c,q]; exact lk_lput_self x v r
theorem lk_lput_ne {x y:Str} (v:AVal) (ne:y≠x):∀ l:List (Str×AVal),lk y (lput x v l)=lk y l
 | []=>by show (bif sq y x then some v else _)=_; rw [show sq y x=false from Bool.eq_false_iff.mpr fun e=>ne (sq_iff.mp e)]; rfl
 | (z,u) :: r=>by
  rw [lput_c]
  cases q:sq x z with
  | true =>
   have n2:sq y z=false:=Bool.eq_false_iff.mpr fun e=>ne ((sq_iff.mp e).trans (sq_iff.mp q).symm)
   show lk y ((z,v) :: r)=_
   rw [lk_c,lk_c,n2]; rfl
  | false=>show lk y ((z,u) :: lput x v r)=_; rw [lk_c,lk_c,lk_lput_ne v ne r]
theorem nameOf_ok {t:Expr} {x:Str} (e:nameOf t=some x):∃ p,t = .Name x p:=by
 cases t <;> first | exact nos e | exact ⟨_,by rw [show _=x from Option.some.inj e]⟩
theorem tupE_ok {t:Expr} {es:List Expr} (e:tupE t=some es):∃ k p,t = .Tuple es k p:=by
 cases t <;> first | exact nos e | exact ⟨_,_,by rw [show _=es from Option.some.inj e]⟩
theorem tupV_ok {a:AVal} {l:List AVal} (e:tupV a=some l):a = .tup l:=by
 cases a <;> first | exact nos e | exact congrArg AVal.tup (Option.some.inj e)
section
variable {c:Cx} {loc loc1:Loc} {L:Addr} {env:Env} {A:Around} {h h1:AH} {W W1:Wd} {s s1 s':Shared}
theorem FrR.keep {hp hp':Heap} (F:FrR W h hp L loc) (k:∀ o,hp.get? L=some o→hp'.get? L=some o):FrR W h hp' L loc:=⟨F.ns.elim fun m z=>⟨m,z.1.at' k,z.2⟩,F.gL,F.oL⟩
theorem FrR.alive {hp:Heap} (F:FrR W h hp L loc):∃ o,hp.get? L=some o:=F.ns.elim fun m z=>z.1.elim fun o z=>z.elim fun _ z=>z.elim fun _ z=>⟨o,z.1⟩
theorem FrR.fgn {hp:Heap} (F:FrR W h hp L loc):Fgn h W hp L:=⟨F.oL,F.gL,F.alive⟩
structure Sets (c:Cx) (h:AH) (W:Wd) (s:Shared) (L:Addr) (loc1:Loc) (s':Shared):Prop where
 k:∀ b o,b≠L→s.heap.get? b=some o→s'.heap.get? b=some o
 f:FrR W h s'.heap L loc1
 gens:s'.gens=s.gens
 os:s'.os=s.os
theorem Sets.ex (x:Sets c h W s L loc1 s'):Ex all' h W s h W s' (some L):=by
 refine ⟨fun _ _ e=>e,fun _ _ _ e=>⟨e,rfl⟩,fun b o e=>?_,fun b o e _ n=>x.k b o (fun q=>n (by rw [q])) e,fun _ e=>.inl e,fun _ _ e=>.inl e,x.gens,x.os⟩
 by_cases q:b=L
 ·rw [q]; exact Option.isSome_iff_exists.mpr x.f.alive
 ·rw [x.k b o q e]; rfl
theorem At.set {L':Option Addr} (a:At c loc h W s L env A) (x:Ex all' h W s h1 W1 s1 L') (S:Sat c.w.params c.H0 W1 h1 s1.heap) (F:FrR W1 h1 s1.heap L loc1):At c loc1 h1 W1 s1 L env A:=⟨a.m.step S,a.e,F,a.cv.mono x.le⟩
theorem At.sets (a:At c loc h W s L env A) (x:Sets c h W s L loc1 s'):At c loc1 h W s' L env A:=a.set x.ex (a.f.fgn.sat a.m.sat x.k) x.f
theorem Sets.trans {loc2:Loc} {s2:Shared} (x:Sets c h W s L loc1 s1) (y:Sets c h W s1 L loc2 s2):Sets c h W s L loc2 s2:=⟨fun b o n e=>y.k b o n (x.k b o n e),y.f,y.gens.trans x.gens,y.os.trans x.os⟩
theorem store_name {x:Str} {a:AVal} {v:Value} {Q:Unit→Shared→Prop} {E:Value→Shared→Prop} (at_:At c loc h W s L env A) (hk:c.sc.names.lookup x=some .local) (r:VR h W a v) (q:∀ s',Sets c h W s L (lput x a loc) s'→Q () s') :
  wpAny (model pw c.w) A (storeName env x v) Q E s:=by
 refine at_.f.ns.elim fun m z=>wpAny_storeName_local ((at_.hkd x).trans hk) (by rw [at_.e.loc]; exact z.1) (fun h' hn hs=>q _ ?_) (by rw [at_.hkf]; rfl)
 rw [at_.e.loc] at hn hs
 refine ⟨fun b o q e=>(hs.2 b q).trans e,⟨⟨_,hn,fun y u e=>?_⟩,at_.f.gL,at_.f.oL⟩,rfl,rfl⟩
 by_cases q:y=x
 ·rw [q,lk_lput_self] at e
  exact ⟨v,if_pos q,Option.some.inj e ▸ r⟩
 ·rw [lk_lput_ne a q] at e
  exact (z.2 y u e).elim fun c w=>⟨c,(if_neg q).trans w.1,w.2⟩
theorem setN_ok {a:AVal} {o:Option Str} (e:setN c loc a o=some loc1):∃ x,o=some x∧c.sc.names.lookup x=some .local∧lput x a loc=loc1:=by
 cases o with
 | none=>exact nos e
 | some x =>
  replace e:(bif kdIs x .local c.sc.names then some (lput x a loc) else none)=some loc1:=e
  cases hk:kdIs x .local c.sc.names with
  | false=>rw [hk] at e; exact nos e
  | true=>rw [hk] at e; exact ⟨x,rfl,kdIs_eq hk,Option.some.inj e⟩
theorem tgt_c {t:Expr} {es:List Expr} {b:AVal} {l:List AVal} (e:tgtL c (t :: es) (b :: l) loc=some loc1):∃ x p,t = .Name x p∧c.sc.names.lookup x=some .local∧tgtL c es l (lput x b loc)=some loc1 :=
 (Option.bind_eq_some_iff.mp e).elim fun loc2 y=>(setN_ok y.1).elim fun x z=>(nameOf_ok z.1).elim fun p ht=>⟨x,p,ht,z.2.1,z.2.2 ▸ y.2⟩
theorem tgtL_len:∀ {es:List Expr} {l:List AVal} {loc:Loc},tgtL c es l loc=some loc1→es.length=l.length∧(assignEach es env).findIdx? (·.1)=none∧(assignEach es env).length=es.length
 | [],[],_,_=>⟨rfl,rfl,rfl⟩
 | [],_ :: _,_,e=>nos e
 | _ :: _,[],_,e=>nos e
 | t :: es,_ :: _,_,e=>(tgt_c e).elim fun x z=>z.elim fun p z=>by
  have ih:=tgtL_len z.2.2
  rw [z.1]
  exact ⟨congrArg (· + 1) ih.1,by show List.findIdx? _ ((false,_) :: assignEach es env)=none; rw [List.findIdx?_cons,ih.2.1]; rfl,congrArg (· + 1) ih.2.2⟩
theorem tgtL_go {E:Value→Shared→Prop} {Q:Unit→Shared→Prop}:∀ {es:List Expr} {l:List AVal} {vs:List Value} {loc:Loc} {s:Shared},At c loc h W s L env A→VRs h W l vs→tgtL c es l loc=some loc1→(∀ s',Sets c h W s L loc1 s'→Q () s') →
  wpAny (model pw c.w) A (assignInOrder ((assignEach es env).map (·.2)) vs) Q E s
 | [],[],vs,loc,s,a,r,e,q=>by
  rw [show vs=[] from r]
  rw [← show loc=loc1 from Option.some.inj e] at q
  exact wpAny_pure (q s ⟨fun _ _ _ e=>e,a.f,rfl,rfl⟩)
 | [],_ :: _,_,_,_,_,_,e,_=>nos e
 | _ :: _,[],_,_,_,_,_,e,_=>nos e
 | t :: es,b :: l,vs,loc,s,a,r,e,q=>(tgt_c e).elim fun x z=>z.elim fun p z=>r.iCons.elim fun v r=>r.elim fun vs r=>by
  rw [r.1,z.1]
  show wpAny _ A (do holding _ (assign (.Name x p) env v); assignInOrder ((assignEach es env).map (·.2)) vs) Q E s
  exact wpAny_bind (wpAny_holding (wpAny_assign_Name (store_name a z.2.1 r.2.1 fun s1 x1=>tgtL_go (a.sets x1) r.2.2 z.2.2 fun s2 x2=>q s2 (x1.trans x2))))
theorem tgt_go {t:Expr} {b:AVal} {v:Value} {Q:Unit→Shared→Prop} {E:Value→Shared→Prop} (a:At c loc h W s L env A) (r:VR h W b v) (e:tgtV c t b loc=some loc1) (q:∀ s',Sets c h W s L loc1 s'→Q () s') :
  wpAny (model pw c.w) A (assign t env v) Q E s:=by
 unfold tgtV at e
 cases hn:nameOf t with
 | some x =>
  rw [hn] at e
  refine (nameOf_ok hn).elim fun p ht=>(setN_ok e).elim fun y z=>?_
  rw [← z.2.2,← Option.some.inj z.1] at q
  rw [ht]
  exact wpAny_assign_Name (store_name a (Option.some.inj z.1 ▸ z.2.1) r q)
 | none =>
  rw [hn] at e
  refine (Option.bind_eq_some_iff.mp e).elim fun es y=>(Option.bind_eq_some_iff.mp y.2).elim fun l z=>(tupE_ok y.1).elim fun k w=>w.elim fun p w=>?_
  rw [tupV_ok z.1] at r
  refine r.iTup.elim fun ad u=>u.elim fun vs u=>?_
  rw [w,u.1]
  have T:=tgtL_len (env:=env) z.2
  refine wpAny_assign_Tuple a.m.hh ⟨_,a.m.sat.keep _ _ u.2.1,rfl,0,rfl⟩ (by rw [T.2.2,T.1,u.2.2.length,List.size_toArray]) T.2.1 fun h' hb=>?_
  have kk:∀ b o,s.heap.get? b=some o→h'.get? b=some o:=fun b o e=>hb b o (fun z=>son (e.symm.trans (by rw [z]; exact get_size s.heap 0))) e
  have x1:Sets c h W s L loc { s with heap:=h' }:=⟨fun b o _ e=>kk b o e,a.f.keep fun o e=>kk _ _ e,rfl,rfl⟩
  exact tgtL_go (a.sets x1) u.2.2 z.2 fun s2 x2=>q s2 (x1.trans x2)
theorem own_go {t:Expr} {I:Addr} {o:Obj} {v:Value} {Q:Unit→Shared→Prop} {E:Value→Shared→Prop} {M:Model} (e:s.heap.get? I=some o) (p:plainIt o) (q:Q () s):wpAny M A (letOwnedTupleGo t (.ref I) v) Q E s:=p.elim fun n p=>by
 unfold letOwnedTupleGo
 cases t <;> first
  | exact wpAny_pure q
  | (cases v <;> first
    | exact wpAny_pure q
    | (
     refine wpAny_bind (wpAny_load e ?_)
     rw [p.1]
     split
     ·rename_i h1 h2
      rw [← Value.type.inj h1,p.2,Bool.false_and]
      exact wpAny_pure q
     ·exact wpAny_pure q))
end
end
section
noncomputable def clOf (cells:List (Str×Addr)):List (Str×NameKind)→List (Str×Addr)→List (Str×Addr)
 | [],cs=>cs
 | (n,k) :: r,cs=>clOf cells r (match k with | .free=>(n,(cells.lookup n).getD 0) :: cs | _=>cs)
theorem closure_go {env:Env}:∀ (names:List (Str×NameKind)) (cs:List (Str×Addr)),(∀ p∈names,p.2 = .free→(env.cells.lookup p.1).isSome=true) →
  (forIn names cs fun (x:Str×NameKind) (r:List (Str×Addr))=>(if (x.2 == NameKind.free)=true then do let c ← cellOf env x.1; pure (ForInStep.yield ((x.1,c) :: r)) else pure (ForInStep.yield r):Sem (ForInStep (List (Str×Addr)))))=pure (clOf env.cells names cs)
 | [],cs,_=>by rw [List.forIn_nil]; rfl
 | (n,k) :: r,cs,q=>by
  rw [List.forIn_cons]
  have ih:=fun cs=>closure_go (env:=env) r cs fun p m=>q p (List.mem_cons_of_mem _ m)
  cases k <;> first
   | (
    show (pure (ForInStep.yield cs) >>= _)=_
    rw [pure_bind]; exact ih cs)
   | (
    obtain ⟨a,ha⟩:=Option.isSome_iff_exists.mp (q (n,.free) List.mem_cons_self rfl)
    have e:cellOf env n=pure a:=by unfold cellOf; rw [ha]
    show ((do let c ← cellOf env n; pure (ForInStep.yield ((n,c) :: cs))) >>= _)=_
    rw [e,pure_bind,pure_bind]
    show _=pure (clOf env.cells r ((n,(env.cells.lookup n).getD 0) :: cs))
    rw [ha]; exact ih ((n,a) :: cs))
theorem closure_eq {scope:Scope} {env:Env} (q:∀ p∈scope.names,p.2 = .free→(env.cells.lookup p.1).isSome=true):closureFor scope env=pure (clOf env.cells scope.names []):=by
 unfold closureFor
 have:=closure_go (env:=env) scope.names [] q
 first
  | (rw [← this]; rfl)
  | (
   show (forIn scope.names [] _ >>= fun cs=>pure cs)=_
   rw [bind_pure]; exact this)
  | (rw [← this]; simp)
theorem clOf_ok {cells:List (Str×Addr)}:∀ {names:List (Str×NameKind)} {cs:List (Str×Addr)},(∀ p∈names,p.2 = .free→(cells.lookup p.1).isSome=true)→(∀ x a,cs.lookup x=some a→cells.lookup x=some a) →
  (∀ x a,(clOf cells names cs).lookup x=some a→cells.lookup x=some a)∧(∀ x,((cs.lookup x).isSome=true∨(x,NameKind.free)∈names)→((clOf cells names cs).lookup x).isSome=true)
 | [],cs,_,g=>⟨g,fun x h=>h.elim id fun m=>by cases m⟩
 | (n,k) :: r,cs,q,g=>by
  have q':∀ p∈r,p.2 = .free→(cells.lookup p.1).isSome=true:=fun p m=>q p (List.mem_cons_of_mem _ m)
  by_cases hk:k = .free
  ·subst hk
   obtain ⟨a,ha⟩:=Option.isSome_iff_exists.mp (q (n,.free) List.mem_cons_self rfl)
   have e:clOf cells ((n,.free) :: r) cs=clOf cells r ((n,a) :: cs):=by
    show clOf cells r ((n,(cells.lookup n).getD 0) :: cs)=_
    rw [ha]; rfl
   rw [e]
   have ih:=clOf_ok (names:=r) (cs:=(n,a) :: cs) q' (fun x b h=>by
    rw [List.lookup_cons] at h
    split at h
    ·rename_i z; cases h; rw [beq_iff_eq.mp z]; exact ha
    ·exact g x b h)
   refine ⟨ih.1,fun x h=>ih.2 x ?_⟩
   rcases h with h | h
   ·left; rw [List.lookup_cons]; split
    ·rfl
    ·exact h
   ·rcases List.mem_cons.mp h with h | h
    ·cases h; left; rw [List.lookup_cons]; simp
    ·exact .inr h
  ·have e:clOf cells ((n,k) :: r) cs=clOf cells r cs:=by
    cases k <;> first | rfl | exact absurd rfl hk
   rw [e]
   have ih:=clOf_ok (names:=r) (cs:=cs) q' g
   refine ⟨ih.1,fun x h=>ih.2 x ?_⟩
   rcases h with h | h
   ·exact .inl h
   ·rcases List.mem_cons.mp h with h | h
    ·cases h; exact absurd rfl hk
    ·exact .inr h

theorem kdOf_mem {x:Str} {k:NameKind}:∀ {l:List (Str×NameKind)},kdOf x l=some k→(x,k)∈l
 | [],e=>nos e
 | (y,j) :: r,e=>by
  replace e:(bif sq x y then some j else kdOf x r)=some k:=e
  cases q:sq x y with
  | true=>rw [q] at e; rw [← Option.some.inj e,sq_iff.mp q]; exact .head _
  | false=>rw [q] at e; exact .tail _ (kdOf_mem (l:=r) e)
theorem cvR_lk {scope:Scope} {x:Str} {v:AVal}:∀ {l:List (Str×AVal)},lk x (cvR scope l)=some v→lk x l=some v∧kdIs x .free scope.names=true
 | [],e=>nos e
 | (y,u) :: r,e=>by
  replace e:lk x (bif kdIs y .free scope.names then (y,u) :: cvR scope r else cvR scope r)=some v:=e
  rw [lk_c]
  cases f:kdIs y .free scope.names with
  | true =>
   rw [f,cond_true,lk_c] at e
   cases q:sq x y with
   | true=>rw [q] at e; exact ⟨e,by rw [sq_iff.mp q]; exact f⟩
   | false=>rw [q] at e; exact cvR_lk (l:=r) e
  | false =>
   rw [f] at e
   have ih:=cvR_lk (l:=r) e
   cases q:sq x y with
   | true=>rw [← sq_iff.mp q] at f; exact ft (f.symm.trans ih.2)
   | false=>exact ih
structure ScOk (scope:Scope) (x:Str) (d:Cx):Prop where
 hx:scope.names.lookup x=some .local
 cell:∀ y∈scope.names,y.2≠.cell
 loc:∀ y∈scope.names,y.2 = .local→scope.names.lookup y.1=some .local
 free:∀ y∈scope.names,y.2 = .free→∃ v,lk y.1 d.cv=some v
theorem scOk_of {scope:Scope} {x:Str} {d:Cx} (e:scOk scope x d=true):ScOk scope x d:=by
 have z:=Bool.and_eq_true_iff.mp e
 have al:=List.all_eq_true.mp z.2
 refine ⟨kdIs_eq z.1,fun y m q=>?_,fun y m q=>?_,fun y m q=>?_⟩ <;> have w:=al y m <;> rw [q] at w
 ·exact ft w
 ·exact kdIs_eq w
 ·exact Option.isSome_iff_exists.mp w
noncomputable def cxIn (c:Cx) (scope:Scope):Cx:={ c with sc:=reS scope c.sc,cv:=cvR scope c.cv }
noncomputable def CL (c:Cx) (x:Str) (elt:Expr) (chk:AH→Prop):List AVal→List AVal→AH→KVL→Prop
 | [],acc,h,K=>chk h∧K acc h
 | a :: r,acc,h,K=>chk h∧E c [(x,a)] elt h fun v h1=>CL c x elt chk r (acc ++ [v]) h1 K
theorem cl_nil {c:Cx} {x:Str} {elt:Expr} {chk:AH→Prop} {acc:List AVal} {h:AH} {KL:KVL} (k1:chk h) (k:KL acc h):CL c x elt chk [] acc h KL:=⟨k1,k⟩
theorem cl_cons {c:Cx} {x:Str} {elt:Expr} {chk:AH→Prop} {a:AVal} {l acc:List AVal} {h:AH} {KL:KVL} (k1:chk h) (k:E c [(x,a)] elt h fun v h1=>CL c x elt chk l (acc ++ [v]) h1 KL):CL c x elt chk (a :: l) acc h KL:=⟨k1,k⟩
section
variable {c:Cx} {loc:Loc} {L:Addr} {env:Env} {A:Around} {h h0 h1:AH} {W W0 W1:Wd} {s s0 s1:Shared} {scope:Scope} {x:Str}
theorem reS_eq (a:At c loc h W s L env A):relabel scope env=reS scope c.sc:=by
 unfold relabel reS
 refine congrArg (fun ns=>{ scope with names:=ns }) (List.map_congr_left fun p _=>?_)
 obtain ⟨n,k⟩:=p
 have hkd:env.kindOf n=kdOf n c.sc.names:=(a.hkd n).trans (kdOf_eq _ _).symm
 dsimp only
 rw [a.hkf,hkd]
 cases k <;> first
  | rfl
  | (cases kdOf n c.sc.names with
    | none=>rfl
    | some j=>cases j <;> rfl)
theorem cell_free (a:At c loc h W s L env A) (sc:ScOk scope x c):∀ p∈scope.names,p.2 = .free→(env.cells.lookup p.1).isSome=true:=fun p m q =>
 (sc.free p m q).elim fun v hv=>(a.cv _ _ hv).elim fun b z=>z.elim fun _ z=>z.elim fun _ z=>by rw [z.1]; rfl
theorem At.inner {C:Addr} {b:AVal} {m:Str→Option Value} (a:At c loc h W s L env A) (sc:ScOk scope x c) (hk:scope.kind = .function) (l:Le h W h1 W1) (S:Sat c.w.params c.H0 W1 h1 s1.heap) (f:Fgn h1 W1 s1.heap C) (hm:s1.heap.Ns C m) {v:Value} (hv:m x=some v) (r:VR h1 W1 b v) :
  At (cxIn c scope) [(x,b)] h1 W1 s1 C (compEnvC scope (clOf env.cells scope.names []) C env) A:=by
 refine ⟨⟨a.m.b,S,a.m.r,a.m.u⟩,⟨reS_eq a,rfl,a.e.gl,a.e.bl,hk⟩,⟨⟨m,hm,fun y u e=>?_⟩,f.g,f.no⟩,fun y u e=>?_⟩
 ·rw [lk_c] at e
  cases q:sq y x with
  | true=>rw [q] at e; rw [sq_iff.mp q]; exact ⟨v,hv,Option.some.inj e ▸ r⟩
  | false=>rw [q] at e; exact nos e
 ·have e2:=cvR_lk e
  refine ((a.cv.mono l) y u e2.1).elim fun b z=>z.elim fun o z=>z.elim fun w z=>?_
  have T:=clOf_ok (cells:=env.cells) (names:=scope.names) (cs:=[]) (cell_free a sc) (fun _ _ e=>nos e)
  refine (Option.isSome_iff_exists.mp (T.2 y (.inr (kdOf_mem (beq_iff_eq.mp e2.2))))).elim fun b' hb'=>?_
  have t:=T.1 _ _ hb'
  rw [z.1] at t
  exact ⟨b,o,w,hb'.trans t.symm,z.2⟩
structure CIn (c:Cx) (x:Str) (elt:Expr) (h0:AH) (W0:Wd) (s0:Shared) (h1:AH) (W1:Wd) (I D C:Addr) (l:List AVal) (chk:AH→Prop) (St:Nat→Heap→Prop) (K:KVL) (i:Nat) (h:AH) (W:Wd) (s:Shared) (accA:List AVal):Prop where
 le:i≤l.length
 ex:Ex all' h0 W0 s0 h W s none
 sat:Sat c.w.params c.H0 W h s.heap
 fI:Fgn h W s.heap I
 fD:Fgn h W s.heap D
 fC:Fgn h W s.heap C
 st:St i s.heap
 d:∃ accs k,s.heap.get? D=some (listObj accs k)∧VRs h W accA accs.toList
 len:accA.length=i
 ns:∃ m,s.heap.Ns C m
 l1:Le h1 W1 h W
 z:CL c x elt chk (l.drop i) accA h K
variable {K:KVL} {elt iter:Expr} {px pos:Pos} {I:Addr} {l:List AVal} {chk:AH→Prop} {St:Nat→Heap→Prop}
theorem comp_loop {D C:Addr} {R:Result→Shared→Prop} (a:At c loc h1 W1 s1 L env A) (sc:ScOk scope x c) (hk:scope.kind = .function)
  (It:Itr c A h1 W1 I l chk St) (dI:s0.heap.get? I=none) (dD:s0.heap.get? D=none) (dC:s0.heap.get? C=none) (hCD:C≠D) (hCI:C≠I) (hDI:D≠I) (hl:l.length≤900000)
  (hR:∀ h W s accA accs k m,Ex all' h0 W0 s0 h W s none→Sat c.w.params c.H0 W h s.heap→Fgn h W s.heap D→Fgn h W s.heap C→s.heap.get? D=some (listObj accs k)→VRs h W accA accs.toList→s.heap.Ns C m→K accA h→R (.ok .next) s)
  (q:CIn (cxIn c scope) x elt h0 W0 s0 h1 W1 I D C l chk St K 0 h W s []) :
  codeAny (model pw c.w) A (.compLoop (.ListComp elt [⟨.Name x px,iter,[],0⟩] scope pos) 0 (.ref I) (.ref D) (compEnvC scope (clOf env.cells scope.names []) C env)) R s:=by
 refine codeAny_compLoop_tests (fun n s=>∃ i h W accA,n=l.length - i∧CIn (cxIn c scope) x elt h0 W0 s0 h1 W1 I D C l chk St K i h W s accA) (fun n s z=>?_) l.length ⟨0,h,W,[],rfl,q⟩
 clear q
 refine z.elim fun i z=>z.elim fun h z=>z.elim fun W z=>z.elim fun accA z=>z.2.d.elim fun accs d=>d.elim fun k d=>z.2.ns.elim fun m hm=>?_
 have q:=z.2
 rw [z.1]
 have y:=q.z
 by_cases hi:i < l.length
 ·rw [List.drop_eq_getElem_cons hi] at y
  refine It.item i l[i] h W s _ _ (List.getElem?_eq_getElem hi) q.l1 q.sat y.1 q.st fun v hp' tk rv st' kp=>?_
  refine wpAny_assign_Name (wpAny_storeName_local (lookup_relabel_local sc.hx) (hm.at' fun o e=>kp _ _ hCI e) (fun h3 hn3 hs3=>?_) (by simp [compEnvC,relabel,hk]))
  refine wpAny_tests_nil ?_
  rw [if_pos rfl]
  have kp3:∀ b o,b≠C→hp'.get? b=some o→h3.get? b=some o:=fun b o n e=>(hs3.2 b n).trans e
  have fC2:Fgn h W hp' C:=q.fC.of_keep fun o e=>kp _ _ hCI e
  have S3:Sat c.w.params c.H0 W h h3:=fC2.sat (q.fI.sat q.sat kp) kp3
  have X3:=(q.ex.but (tk:=tk) dI kp).but (tk:=tk + 1) dC kp3
  have fC3:Fgn h W h3 C:=⟨fC2.no,fC2.g,hn3.elim fun o z=>z.elim fun _ z=>z.elim fun _ z=>⟨o,z.1⟩⟩
  have st3:St (i + 1) h3:=It.frame _ _ _ st' fun o e=>kp3 _ _ (Ne.symm hCI) e
  have fI3:Fgn h W h3 I:=⟨q.fI.no,q.fI.g,(It.alive _ _ st3).elim fun o z=>⟨o,z.1⟩⟩
  have hd3:h3.get? D=some (listObj accs k):=kp3 _ _ (Ne.symm hCD) (kp _ _ hDI d.1)
  have fD3:Fgn h W h3 D:=⟨q.fD.no,q.fD.g,_,hd3⟩
  refine E.go (c:=cxIn c scope) y.2 (a.inner (s1:={ s with heap:=h3,toks:=tk + 1 }) (b:=l[i]) (v:=v) sc hk q.l1 S3 fC3 hn3 (if_pos rfl) rv) fun w s4 av h4 W4 X4 a4 ry k4=>?_
  have hd4:=fD3.same (s:={ s with heap:=h3,toks:=tk + 1 }) X4 nofun hd3
  have len:=d.2.length
  rw [Array.length_toList (xs:=accs),q.len] at len
  refine append_at hd4 (fun h5 hs5 hd5=>?_) (by rw [sizeLine_eq]; omega)
  have kp5:∀ b o,b≠D→s4.heap.get? b=some o→h5.get? b=some o:=fun b o n e=>(hs5.2 b n).trans e
  have fI4:=fI3.step (s:={ s with heap:=h3,toks:=tk + 1 }) X4
  have fC4:=fC3.step (s:={ s with heap:=h3,toks:=tk + 1 }) X4
  have fD4:=fD3.step (s:={ s with heap:=h3,toks:=tk + 1 }) X4
  have st4:St (i + 1) s4.heap:=It.frame _ _ _ st3 fun o e=>fI3.same (s:={ s with heap:=h3,toks:=tk + 1 }) X4 nofun e
  exact ⟨l.length - (i + 1),Nat.sub_succ_lt_self _ _ hi,i + 1,h4,W4,accA ++ [av],rfl,hi,(X3.trans X4).but (tk:=s4.toks) dD kp5,fD4.sat a4.m.sat kp5,fI4.of_keep fun o e=>kp5 _ _ (Ne.symm hDI) e,⟨fD4.no,fD4.g,_,hd5⟩,fC4.of_keep fun o e=>kp5 _ _ hCD e,It.frame _ _ _ st4 fun o e=>kp5 _ _ (Ne.symm hDI) e,
   ⟨_,_,hd5,by rw [Array.toList_push]; exact (d.2.mono X4.le).append (.cons ry .nil)⟩,by rw [List.length_append,q.len]; rfl,⟨_,hn3.at' fun o e=>kp5 _ _ hCD (fC3.same (s:={ s with heap:=h3,toks:=tk + 1 }) X4 nofun e)⟩,q.l1.trans X4.le,k4⟩
 ·have hi':i=l.length:=Nat.le_antisymm q.le (Nat.not_lt.mp hi)
  have st:=q.st
  rw [hi',List.drop_length] at y
  rw [hi'] at st
  refine It.done h W s _ _ q.l1 q.sat y.1 st fun hp' tk kp=>?_
  exact hR h W { s with heap:=hp',toks:=tk } accA accs k m (q.ex.but dI kp) (q.fI.sat q.sat kp) (q.fD.of_keep fun o e=>kp _ _ hDI e) (q.fC.of_keep fun o e=>kp _ _ hCI e) (kp _ _ hDI d.1) d.2 (hm.at' fun o e=>kp _ _ hCI e) y.2
theorem comp_block {RR:Value→Addr→Result→Shared→Prop} {E:Value→Shared→Prop} (a:At c loc h1 W1 s1 L env A) (sc:ScOk scope x c) (hk:scope.kind = .function)
  (It:Itr c A h1 W1 I l chk St) (st:St 0 s1.heap) (fI:Fgn h1 W1 s1.heap I) (X:Ex all' h0 W0 s0 h1 W1 s1 none) (dI:s0.heap.get? I=none) (hl:l.length≤900000) (hL:∃ o,s0.heap.get? L=some o)
  (z:CL (cxIn c scope) x elt chk l [] h1 K)
  (hR:∀ D C h W s accA accs k m,Ex all' h0 W0 s0 h W s none→Sat c.w.params c.H0 W h s.heap→Fgn h W s.heap D→Fgn h W s.heap C→s.heap.get? D=some (listObj accs k)→VRs h W accA accs.toList→s.heap.Ns C m→K accA h→s0.heap.get? D=none→s0.heap.get? C=none→D≠C→C≠L→RR (.ref D) C (.ok .next) s) :
  wpAny (model pw c.w) A (newList []) (fun acc s₃=>wpAny (model pw c.w) A (newFunctionEnv scope env.globals (clOf env.cells scope.names []) [] env.qual none .none (some env)) (fun cenv s₄ =>
   codeAny (model pw c.w) A (.compStart (.ListComp elt [⟨.Name x px,iter,[],0⟩] scope pos) 0 (.ref I) acc { cenv with scope:=relabel scope env }) (RR acc cenv.locals) s₄) E s₃) E s1:=by
 have eD:s1.heap.get? s1.heap.objs.size=none:=get_size s1.heap 0
 refine wpAny_newObj_type (wpAny_newFunctionEnv sc.cell (fun y hy=>absurd hy List.not_mem_nil) (fun h4 hns4 hsb4=>?_) hk)
 dsimp only at hns4 hsb4 ⊢
 have sz:(s1.heap.push { cls:=.type "list",dict:=none,data:=.seq ([]:List Value).toArray }).objs.size=s1.heap.objs.size + 1:=Heap.size_push ..
 have pu:=fun b o (e:s1.heap.get? b=some o)=>Heap.get?_push_of_some { cls:=.type "list",dict:=none,data:=.seq ([]:List Value).toArray } e
 have ps:=Heap.get?_push_size s1.heap (o:={ cls:=.type "list",dict:=none,data:=.seq ([]:List Value).toArray }) rfl
 generalize s1.heap.push { cls:=.type "list",dict:=none,data:=.seq ([]:List Value).toArray }=H2 at hns4 hsb4 sz pu ps ⊢
 have eC:s1.heap.get? H2.objs.size=none:=by rw [sz]; exact get_size s1.heap 1
 have hDC:s1.heap.objs.size≠H2.objs.size:=by rw [sz]; exact Nat.ne_of_lt (Nat.lt_succ_self _)
 have kp:∀ b o,s1.heap.get? b=some o→h4.get? b=some o:=fun b o e=>hsb4.extBut b o (fun q=>son (e.symm.trans (q ▸ eC))) (Heap.get?_push_of_some _ (pu b o e))
 have hacc:h4.get? s1.heap.objs.size=some (listObj #[] 0):=hsb4.extBut _ _ hDC (Heap.get?_push_of_some _ ps)
 have fD:Fgn h1 W1 h4 s1.heap.objs.size:=.new a.m.sat eD ⟨_,hacc⟩
 have fC:Fgn h1 W1 h4 H2.objs.size:=.new a.m.sat eC (hns4.elim fun o z=>z.elim fun _ z=>z.elim fun _ z=>⟨o,z.1⟩)
 have neI:∀ {b},s1.heap.get? b=none→b≠I:=fun e q=>fI.al.elim fun o eI=>son (eI.symm.trans (q ▸ e))
 have L4:=comp_loop (iter:=iter) (px:=px) (pos:=pos) (R:=RR (.ref s1.heap.objs.size) H2.objs.size) (s0:=s0) (D:=s1.heap.objs.size) (C:=H2.objs.size) a sc hk It dI (X.back eD) (X.back eC) (Ne.symm hDC) (neI eC) (neI eD) hl
  (fun h W s accA accs k m x1 x2 x3 x4 x5 x6 x7 x8=>hR _ _ h W s accA accs k m x1 x2 x3 x4 x5 x6 x7 x8 (X.back eD) (X.back eC) hDC fun q=>hL.elim fun o e=>son (e.symm.trans (q ▸ X.back eC)))
  (s:={ s1 with heap:=h4,toks:=s1.toks + 0 }) (h:=h1) (W:=W1) ⟨Nat.zero_le _,X.trans (keep_ex kp),a.m.sat.keeps kp,fI.of_keep fun o e=>kp _ o e,fD,fC,It.frame _ _ _ st fun o e=>kp _ o e,⟨#[],0,hacc,.nil⟩,rfl,⟨_,hns4⟩,Le.refl _ _,z⟩
 exact codeAny_compStart_list L4 (It.self 0 _ _ _ (It.frame _ _ _ st fun o e=>kp _ o e) L4)
theorem e_comp {K:KV} {p q:Pos} (k1:scOk scope x c=true) (hk:scope.kind = .function) (k3:IterOk iter) (z:E c loc iter h fun v h1=>IT v h1 fun l chk=>l.length≤900000∧CL (cxIn c scope) x elt chk l [] h1 fun vs h3=>NO (.list vs) h3 K):E c loc (.ListComp elt [⟨.Name x q,iter,[],0⟩] scope p) h K:=fun W s L env A a=>.i <| by
 have sc:=scOk_of k1
 rw [eval_ListComp]
 refine wpAny_comprehension_free (use:=none) rfl (k3 _) (closure_eq (cell_free a sc)) hk sc.loc (z.go a fun v s1 av h1 W1 X a1 r k=>?_)
 refine wpAny_mono (k c W1 s1 A v NoE a1.m r).o (fun it s2 w=>?_) fun _ _ e=>e
 refine w.elim fun I w=>w.elim fun l w=>w.elim fun chk w=>w.elim fun St w=>?_
 rw [w.1]
 refine comp_block (a1.step w.2.1 w.2.2.1) sc hk w.2.2.2.2.2.1 w.2.2.2.2.2.2.1 w.2.2.2.1 (X.trans w.2.1) (X.back w.2.2.2.2.1) w.2.2.2.2.2.2.2.1 a.f.alive w.2.2.2.2.2.2.2.2 fun D C h3 W3 s3 accA accs k m X3 S3 fD fC hd R hm z3 dD dC hDC hCL=>z3.2.elim fun n y=>⟨m,hm,fun h' hs'=>?_⟩
 have kp:∀ b o,b≠C→s3.heap.get? b=some o→h'.get? b=some o:=fun b o n e=>(hs'.2 b n).trans e
 have hd2:=kp _ _ hDC hd
 have N:=adopt_at (o:=.list accA) (s1:={ s3 with heap:=h',toks:=s3.toks }) (X3.but dC kp) (fC.sat S3 kp) y.1 ⟨fD.no,fD.g,_,hd2⟩ dD ⟨accs,k,by rw [put_self]; exact hd2,R.mono (put_le y.1),z3.1⟩
 exact ⟨.ref n,_,_,N.2,N.1,put_ref,y.2⟩
end
end
section
noncomputable def FlR (h:AH) (W:Wd) (fl:Fl) (f:Flow):Prop:=match fl with
 | .next=>f = .next
 | .brk=>f = .brk
 | .cont=>f = .cont
 | .ret a=>∃ v,f = .ret v∧VR h W a v
noncomputable def PS (c:Cx) (h:AH) (W:Wd) (s:Shared) (L:Addr) (K:KS):Flow→Shared→Prop:=fun f s' =>
 ∃ fl loc' h' W',Ex all' h W s h' W' s' (some L)∧Sat c.w.params c.H0 W' h' s'.heap∧FrR W' h' s'.heap L loc'∧FlR h' W' fl f∧K fl loc' h'
theorem Ex.loose {D:Nm→Prop} {h h1:AH} {W W1:Wd} {s s1:Shared} {L:Option Addr} (x:Ex D h W s h1 W1 s1 none):Ex D h W s h1 W1 s1 L:=⟨x.g,x.ad,x.size,fun a o e n _=>x.keep a o e n nofun,x.own',x.gnew,x.gens,x.os⟩
def SQ (c:Cx) (b:List Stmt) (loc:Loc) (h:AH) (K:KS):Prop:=∀ W s L env A,At c loc h W s L env A→Wp c A (execs b env) (PS c h W s L K) NoE s
def ST (c:Cx) (st:Stmt) (loc:Loc) (h:AH) (K:KS):Prop:=∀ W s L env A,At c loc h W s L env A→wpAny (model pw c.w) A (exec st env) (PS c h W s L K) NoE s
noncomputable def TH (c:Cx) (rest:List Stmt) (K:KS):KS:=fun fl loc h=>match fl with
 | .next=>SQ c rest loc h K
 | .brk=>K .brk loc h
 | .cont=>K .cont loc h
 | .ret v=>K (.ret v) loc h
noncomputable def RK (K:KV):KS:=fun fl _ h=>K (retOf fl) h
section
variable {c:Cx} {loc loc1:Loc} {L:Addr} {env:Env} {A:Around} {h h1:AH} {W W1:Wd} {s s1:Shared} {K KK:KS} {rest:List Stmt} {v:AVal}
theorem PS.here (a:At c loc h W s L env A) {fl:Fl} {f:Flow} (r:FlR h W fl f) (k:K fl loc h):PS c h W s L K f s:=⟨fl,loc,h,W,Ex.refl ..,a.m.sat,a.f,r,k⟩
theorem PS.after {f:Flow} {s':Shared} (X:Ex all' h W s h1 W1 s1 (some L)) (p:PS c h1 W1 s1 L K f s'):PS c h W s L K f s' :=
 p.elim fun fl p=>p.elim fun loc' p=>p.elim fun h' p=>p.elim fun W' p=>⟨fl,loc',h',W',X.trans p.1,p.2⟩
theorem PS.up {st:Sem Flow} {s2:Shared} {E:Value→Shared→Prop} (X:Ex all' h W s h1 W1 s1 (some L)) (x:wpAny (model pw c.w) A st (PS c h1 W1 s1 L K) E s2):wpAny (model pw c.w) A st (PS c h W s L K) E s2 :=
 wpAny_mono x (fun _ _ p=>PS.after X p) fun _ _ e=>e
theorem PS.bind {st:Sem Flow} {E:Value→Shared→Prop} {f:Flow→Shared→Prop} (a:At c loc h W s L env A) (x:wpAny (model pw c.w) A st (PS c h W s L K) NoE s)
  (y:∀ v s1 fl loc1 h1 W1,Ex all' h W s h1 W1 s1 (some L)→At c loc1 h1 W1 s1 L env A→FlR h1 W1 fl v→K fl loc1 h1→f v s1):wpAny (model pw c.w) A st f E s :=
 wpAny_mono x (fun v s1 p=>p.elim fun fl p=>p.elim fun loc1 p=>p.elim fun h1 p=>p.elim fun W1 p=>y v s1 fl loc1 h1 W1 p.1 (a.set p.1 p.2.1 p.2.2.1) p.2.2.2.1 p.2.2.2.2) fun _ _ e=>e.elim
theorem k_next (k:SQ c rest loc h KK):TH c rest KK .next loc h:=k
theorem k_ret (k:KK (.ret v) loc h):TH c rest KK (.ret v) loc h:=k
theorem r_ret {K:KV} (k:K v h):RK K (.ret v) loc h:=k
theorem r_next {K:KV} (k:K .none h):RK K .next loc h:=k
theorem sq_nil (k:KK .next loc h):SQ c [] loc h KK:=fun W s L env A a=>.i <| wpAny_execs_nil (PS.here a (show FlR h W .next .next from rfl) k)
theorem FlR.go {fl:Fl} {f:Flow} {P:Flow→Prop} (r:FlR h W fl f) (n:fl = .next→P .next) (b:fl = .brk→P .brk) (c:fl = .cont→P .cont) (t:∀ a v,fl = .ret a→VR h W a v→P (.ret v)):P f:=by
 cases fl with
 | next=>rw [show f=_ from r]; exact n rfl
 | brk=>rw [show f=_ from r]; exact b rfl
 | cont=>rw [show f=_ from r]; exact c rfl
 | ret a=>exact r.elim fun v z=>by rw [z.1]; exact t a v rfl z.2
theorem sq_cons {st:Stmt} (k:ST c st loc h (TH c rest KK)):SQ c (st :: rest) loc h KK:=fun W s L env A a=>.i <|
 wpAny_execs_cons (PS.bind a (k W s L env A a) fun f s1 fl loc1 h1 W1 X a1 rf k1=>rf.go (P:=fun f=>match f with | .next=>wpAny (model pw c.w) A (execs rest env) (PS c h W s L KK) NoE s1 | f=>PS c h W s L KK f s1)
  (fun e=>by rw [e] at k1; exact PS.up X (k1 W1 s1 L env A a1).o) (fun e=>by rw [e] at k1; exact PS.after X (PS.here a1 (show FlR h1 W1 .brk .brk from rfl) k1)) (fun e=>by rw [e] at k1; exact PS.after X (PS.here a1 (show FlR h1 W1 .cont .cont from rfl) k1)) fun b v e r=>by rw [e] at k1; exact PS.after X (PS.here a1 (show FlR h1 W1 (.ret b) (.ret v) from ⟨v,rfl,r⟩) k1))
variable {e o i t:Expr} {p q:Pos} {x:Str} {B C:List Stmt}
theorem st_next (X:Ex all' h W s h1 W1 s1 (some L)) (a1:At c loc1 h1 W1 s1 L env A) (k:SQ c rest loc1 h1 KK):PS c h W s L (TH c rest KK) .next s1:=PS.after X (PS.here a1 (show FlR h1 W1 .next .next from rfl) k)
theorem s_expr (hc:SwapOk e) (k:E c loc e h fun _ h1=>SQ c rest loc h1 KK):SQ c (.Expr e p :: rest) loc h KK:=sq_cons fun W s L env A a =>
 wpAny_Expr_any (k.go a fun v s1 av h1 W1 X a1 r k=>st_next X.loose a1 k) (by unfold interactive; rw [a.hkf]; rfl) (hc _ _ _)
theorem s_ret0 (k:KK (.ret .none) loc h):SQ c (.Return none p :: rest) loc h KK:=sq_cons fun W s L env A a=>wpAny_Return_none (PS.here a (show FlR h W (.ret .none) (.ret .none) from ⟨_,rfl,VR.none⟩) k)
theorem s_ret (k:E c loc e h fun v h1=>KK (.ret v) loc h1):SQ c (.Return (some e) p :: rest) loc h KK:=sq_cons fun W s L env A a =>
 wpAny_Return_some (k.go a fun v s1 av h1 W1 X a1 r k=>PS.after X.loose (PS.here a1 (show FlR h1 W1 (.ret av) (.ret v) from ⟨_,rfl,r⟩) k))
theorem s_asg (hc:SwapOk e) (hk:kdOf x c.sc.names=some .local) (k:E c loc e h fun v h1=>SQ c rest (lput x v loc) h1 KK):SQ c (.Assign [.Name x q] e p :: rest) loc h KK:=sq_cons fun W s L env A a =>
 wpAny_Assign_Name (k.go a fun v s1 av h1 W1 X a1 r k=>store_name a1 ((kdOf_eq _ _).symm.trans hk) r fun s2 x2=>st_next (X.loose.trans x2.ex) (a1.sets x2) k) (hc _ _ _)
theorem s_asgA (hc:SwapOk e) (hb:BaseOk o x) (k:E c loc e h fun v h1=>E c loc o h1 fun b h2=>SA b x v h2 fun h3=>SQ c rest loc h3 KK):SQ c (.Assign [.Attribute o x q] e p :: rest) loc h KK:=sq_cons fun W s L env A a =>
 plainObj_wpAny_Assign_Attribute (k.go2 a fun v u s2 av bv h2 W2 X a2 r ru k=>PX.bind (k c W2 s2 A u v a2.m ru r).o fun _ s3 _ h3 W3 X3 S3 _ k3=>st_next (X.trans X3).loose (a2.step X3 S3) k3) (hc _ _ _)
theorem s_asgS (hc:SwapOk e) (hb:SubOk i) (k:E c loc e h fun v h1=>E c loc o h1 fun b h2=>E c loc i h2 fun u h3=>SI b u v h3 fun h4=>SQ c rest loc h4 KK):SQ c (.Assign [.Subscript o i q] e p :: rest) loc h KK:=sq_cons fun W s L env A a =>
 wpAny_Assign_Subscript (k.go a fun v s1 av h1 W1 X a1 r k=>k.go2 a1 fun u w s3 bv iv h3 W3 X3 a3 ru ri k=>PX.bind (k c W3 s3 A u w v a3.m ru ri (r.mono X3.le)).o fun _ s4 _ h4 W4 X4 S4 _ k4=>st_next ((X.trans X3).trans X4).loose (a3.step X4 S4) k4) (hc _ _ _)
theorem s_aug {op:Operator} {b:AVal} (hk:kdOf x c.sc.names=some .local) (hl:lk x loc=some b) (k:E c loc e h fun w h2=>AU op b w h2 fun r h3=>SQ c rest (lput x r loc) h3 KK):SQ c (.AugAssign (.Name x q) op e p :: rest) loc h KK:=sq_cons fun W s L env A a=>by
 have hk:=(kdOf_eq _ _).symm.trans hk
 refine a.f.ns.elim fun m z=>(z.2 x b hl).elim fun u w=>?_
 exact wpAny_AugAssign_Name (wpAny_loadName_local a.hkf ((a.hkd x).trans hk) (by rw [a.e.loc]; exact z.1) w.1 (k.go a fun v s1 av h1 W1 X a1 r k=>PX.bind (k c W1 s1 A u v a1.m (w.2.mono X.le) r).o fun y s2 yv h2 W2 X2 S2 ry k2=>store_name (a1.step X2 S2) hk ry fun s3 x3=>st_next ((X.trans X2).loose.trans x3.ex) ((a1.step X2 S2).sets x3) k2))
theorem s_augA {op:Operator} (k:E c loc o h fun ov h1=>GA ov x h1 fun a h2=>E c loc e h2 fun b h3=>AU op a b h3 fun r h4=>SA ov x r h4 fun h5=>SQ c rest loc h5 KK):SQ c (.AugAssign (.Attribute o x q) op e p :: rest) loc h KK:=sq_cons fun W s L env A a =>
 wpAny_AugAssign_AttributeAny (k.go a fun u s1 uv h1 W1 X a1 ru k=>PX.bind (k c W1 s1 A u _ a1.m ru).o fun b s2 bv h2 W2 X2 S2 rb k2=>k2.go (a1.step X2 S2) fun v s3 av h3 W3 X3 a3 rv k3=>PX.bind (k3 c W3 s3 A b v a3.m (rb.mono X3.le) rv).o fun y s4 yv h4 W4 X4 S4 ry k4 =>
  PX.bind (k4 c W4 s4 A u y (a3.m.step S4) (ru.mono ((X2.trans X3).trans X4).le) ry).o fun _ s5 _ h5 W5 X5 S5 _ k5=>st_next ((((X.trans X2).trans X3).trans X4).trans X5).loose ((a3.step X4 S4).step X5 S5) k5)
theorem s_if (k:T c loc t h fun r h1=>VI r (SQ c B loc h1 (TH c rest KK)) (SQ c C loc h1 (TH c rest KK))):SQ c (.If t B C p :: rest) loc h KK:=sq_cons fun W s L env A a =>
 wpAny_If (k.go a fun b s1 h1 W1 X a1 k=>by
  cases b with
  | true=>exact PS.up X.loose (k.1 rfl W1 s1 L env A a1).o
  | false=>exact PS.up X.loose (k.2 rfl W1 s1 L env A a1).o)
end
end
section
noncomputable def LK (next:Loc→AH→Prop) (brk:Loc→AH→Prop) (K:KS):KS:=fun fl loc h=>match fl with
 | .next=>next loc h
 | .cont=>next loc h
 | .brk=>brk loc h
 | .ret v=>K (.ret v) loc h
noncomputable def FRl (c:Cx) (t:Expr) (body rest:List Stmt) (K:KS) (chk:AH→Prop):List AVal→Loc→AH→Prop
 | [],loc,h=>chk h∧SQ c rest loc h K
 | a :: r,loc,h=>chk h∧∃ loc1,tgtV c t a loc=some loc1∧SQ c body loc1 h (LK (FRl c t body rest K chk r) (fun loc h=>SQ c rest loc h K) K)
noncomputable def FR (c:Cx) (t:Expr) (body rest:List Stmt) (K:KS) (l:List AVal) (chk:AH→Prop) (loc:Loc) (h:AH):Prop:=FRl c t body rest K chk l loc h
noncomputable def FK (c:Cx) (t:Expr) (body rest:List Stmt) (K:KS) (l:List AVal) (chk:AH→Prop):KS:=LK (FR c t body rest K l chk) (fun loc h=>SQ c rest loc h K) K
noncomputable def WH (c:Cx) (t:Expr) (body rest:List Stmt) (K:KS):Nat→Loc→AH→Prop
 | 0,_,_=>False
 | j + 1,loc,h=>T c loc t h fun b h1=>VI b (SQ c body loc h1 (LK (WH c t body rest K j) (fun loc h=>SQ c rest loc h K) K)) (SQ c rest loc h1 K)
noncomputable def WK (c:Cx) (t:Expr) (body rest:List Stmt) (K:KS) (j:Nat):KS:=LK (WH c t body rest K j) (fun loc h=>SQ c rest loc h K) K
noncomputable def RG (v:AVal) (F:Nat→Prop):Prop:=∃ m:Nat,v = .int (.ofNat m)∧F m
section
variable {c:Cx} {loc loc1:Loc} {L:Addr} {env:Env} {A:Around} {h h1:AH} {W W1:Wd} {s s1:Shared} {K KK:KS} {body rest:List Stmt} {v a:AVal} {t it e:Expr} {l r:List AVal} {chk:AH→Prop} {j:Nat} {p q:Pos} {x:Str}
theorem rg {m:Nat} {i:Int} {F:Nat→Prop} (h0:i=Int.ofNat m) (k:F m):RG (.int i) F:=⟨m,congrArg _ h0,k⟩
theorem f_next (k:FR c t body rest KK l chk loc h):FK c t body rest KK l chk .next loc h:=k
theorem f_ret (k:KK (.ret v) loc h):FK c t body rest KK l chk (.ret v) loc h:=k
theorem w_next (k:WH c t body rest KK j loc h):WK c t body rest KK j .next loc h:=k
theorem fr_nil (k1:chk h) (k:SQ c rest loc h KK):FR c t body rest KK [] chk loc h:=⟨k1,k⟩
theorem fr_cons (k1:chk h) (ht:tgtV c t a loc=some loc1) (k:SQ c body loc1 h (FK c t body rest KK r chk)):FR c t body rest KK (a :: r) chk loc h:=⟨k1,loc1,ht,k⟩
theorem wh_step (k:T c loc t h fun b h1=>VI b (SQ c body loc h1 (WK c t body rest KK j)) (SQ c rest loc h1 KK)):WH c t body rest KK (j + 1) loc h:=k
theorem s_while (k:∃ j,WH c t body rest KK j loc h):SQ c (.While t body [] p :: rest) loc h KK:=sq_cons fun W s L env A a=>k.elim fun n z=>by
 refine wpAny_While (codeAny_whileLoop (fun n s'=>∃ loc' h' W',Ex all' h W s h' W' s' (some L)∧At c loc' h' W' s' L env A∧WH c t body rest KK n loc' h') (fun n s1 q=>?_) n ⟨loc,h,W,Ex.refl ..,a,z⟩)
 refine q.elim fun loc1 q=>q.elim fun h1 q=>q.elim fun W1 q=>?_
 cases n with
 | zero=>exact q.2.2.elim
 | succ n =>
  refine T.go (show T c loc1 t h1 _ from q.2.2) q.2.1 fun b s2 h2 W2 X2 a2 k=>?_
  have X12:=q.1.trans X2.loose
  cases b with
  | true =>
   rw [if_pos rfl]
   refine PS.bind a2 (k.1 rfl W2 s2 L env A a2).o fun f s3 fl loc3 h3 W3 X3 a3 rf k3=>?_
   have X:=X12.trans X3
   cases fl with
   | next=>rw [show f=_ from rf]; exact ⟨n,Nat.lt_succ_self n,loc3,h3,W3,X,a3,k3⟩
   | cont=>rw [show f=_ from rf]; exact ⟨n,Nat.lt_succ_self n,loc3,h3,W3,X,a3,k3⟩
   | brk=>rw [show f=_ from rf]; exact st_next X a3 k3
   | ret b=>exact rf.elim fun v r=>by rw [r.1]; exact PS.after X (PS.here a3 (show FlR h3 W3 (.ret b) (.ret v) from ⟨v,rfl,r.2⟩) k3)
  | false =>
   rw [if_neg Bool.false_ne_true]
   exact wpAny_execs_nil (st_next X12 a2 (k.2 rfl))
theorem loop_go {I:Addr} {St:Nat→Heap→Prop} {Q:Result→Shared→Prop} {h0:AH} {W0:Wd} {s0:Shared} (a:At c loc h1 W1 s1 L env A) (X:Ex all' h0 W0 s0 h1 W1 s1 (some L)) (al:∃ o,s0.heap.get? L=some o) (dI:s0.heap.get? I=none) (fI:Fgn h1 W1 s1.heap I)
  (It:Itr c A h1 W1 I l chk St) (st:St 0 s1.heap) (z:FR c t body rest KK l chk loc h1) (q:∀ f s',PS c h0 W0 s0 L (TH c rest KK) f s'→Q (.ok f) s') :
  codeAny (model pw c.w) A (.forLoop t (.ref I) body [] env) Q s1:=by
 have hIL:I≠L:=fun e=>al.elim fun o ho=>son (ho.symm.trans (e ▸ dI))
 refine codeAny_forLoop_any (fun n s'=>∃ i loc' h' W',n=l.length - i∧i≤l.length∧Ex all' h0 W0 s0 h' W' s' (some L)∧At c loc' h' W' s' L env A∧Fgn h' W' s'.heap I∧St i s'.heap∧Le h1 W1 h' W'∧FRl c t body rest KK chk (l.drop i) loc' h')
  (fun n s2 y=>?_) l.length ⟨0,loc,h1,W1,rfl,Nat.zero_le _,X,a,fI,st,Le.refl _ _,z⟩
 refine y.elim fun i y=>y.elim fun loc2 y=>y.elim fun h2 y=>y.elim fun W2 y=>?_
 have hle:=y.2.1
 have X2:=y.2.2.1
 have a2:=y.2.2.2.1
 have f2:=y.2.2.2.2.1
 have st2:=y.2.2.2.2.2.1
 have le2:=y.2.2.2.2.2.2.1
 have z2:=y.2.2.2.2.2.2.2
 rw [y.1]
 by_cases hi:i < l.length
 ·rw [List.drop_eq_getElem_cons hi] at z2
  refine z2.2.elim fun loc3 z3=>It.item i l[i] h2 W2 s2 _ _ (List.getElem?_eq_getElem hi) le2 a2.m.sat z2.1 st2 fun v hp' tk rv st' kp=>?_
  have a3:At c loc2 h2 W2 { s2 with heap:=hp',toks:=tk } L env A:=⟨a2.m.step (f2.sat a2.m.sat kp),a2.e,a2.f.keep fun o e=>kp _ _ (Ne.symm hIL) e,a2.cv⟩
  refine (It.alive _ _ st').elim fun o po=>own_go po.1 po.2 (tgt_go a3 rv z3.1 fun s4 x4=>?_)
  have X4:=(X2.but (tk:=tk) dI kp).trans x4.ex
  have st4:St (i + 1) s4.heap:=It.frame _ _ _ st' fun o e=>x4.k _ _ hIL e
  have f4:Fgn h2 W2 s4.heap I:=⟨f2.no,f2.g,(It.alive _ _ st4).elim fun o e=>⟨o,e.1⟩⟩
  refine PS.bind (a3.sets x4) (z3.2 W2 s4 L env A (a3.sets x4)).o fun f s5 fl loc5 h5 W5 X5 a5 rf k5=>?_
  have X45:=X4.trans X5
  have nL:(some L:Option Addr)≠some I:=fun e=>hIL (Option.some.inj e).symm
  have nx:=fun (k:FRl c t body rest KK chk (l.drop (i + 1)) loc5 h5)=>(⟨l.length - (i + 1),Nat.sub_succ_lt_self _ _ hi,i + 1,loc5,h5,W5,rfl,hi,X45,a5,f4.step X5,It.frame _ _ _ st4 fun o e=>f4.same X5 nL e,le2.trans X5.le,k⟩ : ∃ m,m < l.length - i∧∃ i loc' h' W',m=l.length - i∧i≤l.length∧Ex all' h0 W0 s0 h' W' s5 (some L)∧At c loc' h' W' s5 L env A∧Fgn h' W' s5.heap I∧St i s5.heap∧Le h1 W1 h' W'∧FRl c t body rest KK chk (l.drop i) loc' h')
  cases fl with
  | next=>rw [show f=_ from rf]; exact nx k5
  | cont=>rw [show f=_ from rf]; exact nx k5
  | brk=>rw [show f=_ from rf]; exact q _ _ (st_next X45 a5 k5)
  | ret b=>exact rf.elim fun v r=>by rw [r.1]; exact q _ _ (PS.after X45 (PS.here a5 (show FlR h5 W5 (.ret b) (.ret v) from ⟨v,rfl,r.2⟩) k5))
 ·have hi':i=l.length:=Nat.le_antisymm hle (Nat.not_lt.mp hi)
  rw [hi',List.drop_length] at z2
  rw [hi'] at st2
  refine It.done h2 W2 s2 _ _ le2 a2.m.sat z2.1 st2 fun hp' tk kp=>wpAny_execs_nil (q _ _ ?_)
  exact st_next (X2.but dI kp) (⟨a2.m.step (f2.sat a2.m.sat kp),a2.e,a2.f.keep fun o e=>kp _ _ (Ne.symm hIL) e,a2.cv⟩ : At c loc2 h2 W2 { s2 with heap:=hp',toks:=tk } L env A) z2.2
theorem loop_fin {it:Value} {s2:Shared} (al:∃ o,s.heap.get? L=some o) (X:Ex all' h W s h1 W1 s1 none) (a1:At c loc h1 W1 s1 L env A) (w:ItPost c A h1 W1 s1 (fun l chk=>FR c t body rest KK l chk loc h1) it s2) :
  codeAny (model pw c.w) A (.forLoop t it body [] env) (fun r s'=>match r with | .ok f=>PS c h W s L (TH c rest KK) f s' | .error e=>cameBackBy (model pw c.w) A env NoE e s') s2 :=
 w.elim fun I w=>w.elim fun l w=>w.elim fun chk w=>w.elim fun St w=>by
  rw [w.1]
  exact loop_go (a1.step w.2.1 w.2.2.1) (X.trans w.2.1).loose al (X.back w.2.2.2.2.1) w.2.2.2.1 w.2.2.2.2.2.1 w.2.2.2.2.2.2.1 w.2.2.2.2.2.2.2 fun _ _ p=>p
theorem s_for (hi:IterOk it) (k:E c loc it h fun v h1=>IT v h1 fun l chk=>FR c t body rest KK l chk loc h1):SQ c (.For t it body [] p :: rest) loc h KK:=sq_cons fun W s L env A a =>
 wpAny_For (k.go a fun v s1 av h1 W1 X a1 r k=>wpAny_mono (k c W1 s1 A v NoE a1.m r).o (fun it s2 w=>loop_fin a.f.alive X a1 w) fun _ _ e=>e) (hi _)
theorem s_range {p2:Pos} (hk:kdOf x c.sc.names=some .globalImplicit) (hs:(sq x "range" && !isStar e)=true) (k:E c loc e h fun v h1=>RG v fun m=>m < 900000∧FR c t body rest KK (upto m 0) (fun _=>True) loc h1):SQ c (.For t (.Call (.Name x q) [e] [] p2) body [] p :: rest) loc h KK:=sq_cons fun W s L env A a=>by
 have z:=Bool.and_eq_true_iff.mp hs
 refine wpAny_For (wpAny_mono (range_go (f:=fun it s2=>codeAny (model pw c.w) A (.forLoop t it body [] env) (fun r s'=>match r with | .ok f=>PS c h W s L (TH c rest KK) f s' | .error e=>cameBackBy (model pw c.w) A env NoE e s') s2) (Bool.not_eq_true' _ ▸ z.2) hk z.1 a k fun v s1 av h1 W1 X a1 r k=>k.elim fun m k=>⟨m,k.1,k.2.1,fun it s2 w=>loop_fin a.f.alive X a1 ?_⟩) (fun _ _ p=>p) fun _ _ e=>e) (fun _=>rfl)
 exact w.elim fun I w=>w.elim fun l w=>w.elim fun chk w=>w.elim fun St w=>⟨I,l,chk,St,w.1,w.2.1,w.2.2.1,w.2.2.2.1,w.2.2.2.2.1,w.2.2.2.2.2.1,w.2.2.2.2.2.2.1,by rw [w.2.2.2.2.2.2.2.1,w.2.2.2.2.2.2.2.2]; exact k.2.2⟩
end
end
section
noncomputable def fdX (fi:FI):FuncData:={ name:=fi.d.name,qualname:=fi.q,params:=fi.d.args,body:=.stmts fi.d.body,scope:=fi.d.scope,globals:=3,closure:=[],defaults:=.none,kwdefaults:=.none,pyModule:=fi.pm,code:=.ref fi.c }
noncomputable def FB (f:Nat→Value) (fd:FuncData) (r:Nat×FI):Sem (List (Str×Value)):=bindArgs { fd with params:=r.2.d.args,defaults:=.none } ⟨(List.range r.2.d.args.args.length).map f,[]⟩
noncomputable def FZ (f:Nat→Value) (r:Nat×FI):Sem (List (Str×Value)):=pure ((r.2.d.args.args.map (·.arg)).zip ((List.range r.2.d.args.args.length).map f))
theorem f_bind (f:Nat→Value) (fd:FuncData):fTab.map (FB f fd)=fTab.map (FZ f):=by kernel_rfl
theorem range_of (vs:List Value):(List.range vs.length).map (fun i=>vs.getD i .none)=vs :=
 List.ext_getElem (by rw [List.length_map,List.length_range]) fun i h1 h2=>by rw [List.getElem_map,List.getElem_range,List.getD_eq_getElem?_getD,List.getElem?_eq_getElem h2]; rfl
theorem bind_at {a:Nat} {fi:FI} {vs:List Value} (hf:atN a fTab=some fi) (hl:fi.d.args.args.length=vs.length) (fd:FuncData):bindArgs { fd with params:=fi.d.args,defaults:=.none } ⟨vs,[]⟩ = pure ((fi.d.args.args.map (·.arg)).zip vs):=by
 have z:=List.map_inj_left.mp (f_bind (fun i=>vs.getD i .none) fd) _ (atN_mem a hf)
 unfold FB FZ at z
 rw [hl,range_of] at z
 exact z
noncomputable def nodupS:List Str→Bool
 | []=>true
 | a :: r=>!(r.any (sq a)) && nodupS r
theorem nodupS_ok:∀ {l:List Str},nodupS l=true→l.Nodup
 | [],_=>List.nodup_nil
 |
  a :: r,e=>have z:=Bool.and_eq_true_iff.mp e
  List.nodup_cons.mpr ⟨fun m=>ft ((Bool.not_eq_true' _ ▸ z.1:r.any (sq a)=false).symm.trans (List.any_eq_true.mpr ⟨a,m,sq_iff.mpr rfl⟩)),nodupS_ok z.2⟩
noncomputable def posA (a:Arguments):Bool:=(a.posonlyargs.isEmpty && a.vararg.isNone) && ((a.kwonlyargs.isEmpty && a.kw_defaults.isEmpty) && (a.kwarg.isNone && a.defaults.isEmpty))
theorem posA_ok {a:Arguments} (e:posA a=true):a=⟨[],a.args,none,[],[],none,[]⟩:=by
 have x:=Bool.and_eq_true_iff.mp e
 have y:=Bool.and_eq_true_iff.mp x.1
 have z:=Bool.and_eq_true_iff.mp x.2
 have u:=Bool.and_eq_true_iff.mp z.1
 have w:=Bool.and_eq_true_iff.mp z.2
 obtain ⟨p,a,v,k,d,kw,df⟩:=a
 rw [show p=[] from List.isEmpty_iff.mp y.1,show v=none from Option.isNone_iff_eq_none.mp y.2,show k=[] from List.isEmpty_iff.mp u.1,show d=[] from List.isEmpty_iff.mp u.2,show kw=none from Option.isNone_iff_eq_none.mp w.1,show df=[] from List.isEmpty_iff.mp w.2]
noncomputable def isFn:ScopeKind→Bool
 | .function=>true
 | _=>false
theorem isFn_ok {k:ScopeKind} (e:isFn k=true):k = .function:=by cases k <;> first | rfl | exact ft e
noncomputable def shapeOk (d:DP):Bool:=(posA d.args && (nodupS (d.args.args.map (·.arg)) && d.args.args.all fun p=>kdIs p.arg .local d.scope.names)) && (isFn d.scope.kind && (!d.scope.isCoroutine && !d.scope.isGenerator))
theorem f_shape:fTab.all (fun r=>shapeOk r.2.d)=true:=by kernel_rfl
structure Shape (d:DP):Prop where
 args:d.args=⟨[],d.args.args,none,[],[],none,[]⟩
 nodup:(d.args.args.map (·.arg)).Nodup
 loc:∀ p∈d.args.args,d.scope.names.lookup p.arg=some .local
 kind:d.scope.kind = .function
 co:d.scope.isCoroutine=false
 gen:d.scope.isGenerator=false
theorem shape_at {a:Nat} {fi:FI} (hf:atN a fTab=some fi):Shape fi.d :=
 have z:=Bool.and_eq_true_iff.mp (List.all_eq_true.mp f_shape _ (atN_mem a hf)); have x:=Bool.and_eq_true_iff.mp z.1; have y:=Bool.and_eq_true_iff.mp x.2; have u:=Bool.and_eq_true_iff.mp z.2; have w:=Bool.and_eq_true_iff.mp u.2
 ⟨posA_ok x.1,nodupS_ok y.1,fun p m=>kdIs_eq (List.all_eq_true.mp y.2 p m),isFn_ok u.1,Bool.not_eq_true' _ ▸ w.1,Bool.not_eq_true' _ ▸ w.2⟩
theorem argN_rel {h:AH} {W:Wd}:∀ {ps:List Arg} {args:List AVal} {cs:List Value} {loc:Loc},argN ps args=some loc→VRs h W args cs→ps.length=cs.length∧∀ x v,lk x loc=some v→∃ c,((ps.map (·.arg)).zip cs).lookup x=some c∧VR h W v c
 | [],[],cs,loc,e,r=>by rw [← Option.some.inj e,show cs=[] from r]; exact ⟨rfl,fun x v e=>nos e⟩
 | [],_ :: _,_,_,e,_=>nos e
 | ⟨_,_,_⟩ :: _,[],_,_,e,_=>nos e
 | ⟨y,an,po⟩ :: ps,a :: args,cs,loc,e,r=>r.iCons.elim fun c r=>r.elim fun cs r=>by
  cases q:argN ps args with
  | none=>rw [show argN (⟨y,an,po⟩ :: ps) (a :: args)=(match argN ps args with | some q=>some ((y,a) :: q) | none=>none) from rfl,q] at e; exact nos e
  | some l =>
   rw [show argN (⟨y,an,po⟩ :: ps) (a :: args)=(match argN ps args with | some q=>some ((y,a) :: q) | none=>none) from rfl,q] at e
   have ih:=argN_rel q r.2.2
   rw [r.1,← Option.some.inj e]
   refine ⟨congrArg (· + 1) ih.1,fun x v e=>?_⟩
   rw [lk_c] at e
   rw [List.map_cons,List.zip_cons_cons,List.lookup_cons,← sq_beq]
   cases z:sq x y with
   | true=>rw [z] at e; exact ⟨c,rfl,Option.some.inj e ▸ r.2.1⟩
   | false=>rw [z] at e; exact ih.2 x v e
theorem rev_lookup {x:Str}:∀ {l:List (Str×Value)},(l.map (·.1)).Nodup→l.reverse.lookup x=l.lookup x
 | [],_=>rfl
 | (y,v) :: r,d=>by
  obtain ⟨d1,d2⟩:=List.nodup_cons.mp d
  have ih:=rev_lookup (x:=x) (l:=r) d2
  rw [List.reverse_cons,List.lookup_append,ih,List.lookup_cons]
  cases q:(x == y) with
  | true =>
   have:x=y:=beq_iff_eq.mp q
   subst this
   have:r.lookup x=none:=by
    rw [List.lookup_eq_none_iff]
    intro p m
    rw [bne_iff_ne]
    intro z
    exact d1 (List.mem_map.mpr ⟨p,m,z.symm⟩)
   rw [this,List.lookup_cons,q]; rfl
  | false =>
   rw [List.lookup_cons,q]
   simp
theorem zip_fst:∀ {ns:List Str} {vs:List Value},ns.length=vs.length→(ns.zip vs).map (·.1)=ns
 | [],_,_=>rfl
 | _ :: _,[],e=>absurd e (Nat.succ_ne_zero _)
 | n :: ns,v :: vs,e=>by rw [List.zip_cons_cons,List.map_cons,zip_fst (Nat.succ.inj e)]
theorem bindL_at {k:Str→Option NameKind} {x:Str} {v:Value}:∀ {l:List (Str×Value)} {m:Str→Option Value},(l.map (·.1)).Nodup→(∀ p∈l,k p.1=some .local)→l.lookup x=some v→bindL k l m x=some v
 | [],m,_,_,e=>by cases e
 | (n,u) :: r,m,d,q,e=>by
  obtain ⟨d1,d2⟩:=List.nodup_cons.mp d
  rw [bindL,if_pos (q _ List.mem_cons_self)]
  rw [List.lookup_cons] at e
  have rest:∀ {l:List (Str×Value)} {m:Str→Option Value},(∀ p∈l,p.1≠x)→bindL k l m x=m x:=by
   intro l
   induction l with
   | nil=>intro m _; rfl
   | cons p l ih =>
    intro m q
    obtain ⟨n',u'⟩:=p
    rw [bindL,ih fun p m=>q p (List.mem_cons_of_mem _ m)]
    split
    ·show (if x=n' then _ else _)=_
     rw [if_neg]; exact fun z=>q (n',u') List.mem_cons_self z.symm
    ·rfl
  cases z:(x == n) with
  | true =>
   rw [z] at e; cases e
   have:=beq_iff_eq.mp z
   subst this
   rw [rest fun p m q=>d1 (List.mem_map.mpr ⟨p,m,q⟩)]
   simp
  | false =>
   rw [z] at e
   exact bindL_at d2 (fun p m=>q p (List.mem_cons_of_mem _ m)) e

section
variable {h h1 h':AH} {W W1 W':Wd} {s s1 s':Shared} {L:Addr}
theorem Ex.tight (X:Ex all' h W s h' W' s' (some L)) (e:s.heap.get? L=none):Ex all' h W s h' W' s' none :=
 ⟨X.g,X.ad,X.size,fun a o q n _=>X.keep a o q n (fun z=>son (q.symm.trans (Option.some.inj z ▸ e))),X.own',X.gnew,X.gens,X.os⟩
end
section
variable {w:World} {H0:Heap} {n m a:Nat} {args:List AVal} {h:AH} {K:KV}
theorem md_in {A:Around} {W:Wd} {s:Shared} {env:Env} (B:Bs w H0) (S:Sat w.params H0 W h s.heap) (R:Room A (n + 2)) {sc:Scope} {cv:List (Str×AVal)}:Md ⟨w,H0,n,sc,cv⟩ h W s (A.deeper env):=by
 have h1:=R.1.1
 have h2:=R.2
 refine ⟨B,S,⟨⟨?_,R.1.2⟩,?_⟩,?_⟩
 ·show A.depth + 1 + 3 * (n + 1) + 20≤1000
  omega
 ·show A.units + 3 + 30 * (n + 1) + 1000≤9900
  omega
 ·show A.units + 3 + 300 < 9900
  omega
theorem Room.le {A:Around} (R:Room A m) (e:n≤m):Room A n:=⟨⟨Nat.le_trans (Nat.add_le_add_right (Nat.add_le_add_left (Nat.mul_le_mul_left 3 e) _) _) R.1.1,R.1.2⟩,Nat.le_trans (Nat.add_le_add_right (Nat.add_le_add_left (Nat.mul_le_mul_left 30 e) _) _) R.2⟩
theorem cf_run {fi:FI} {nm:Str} {ps:List Arg} {body:List Stmt} {sc:Scope} {loc:Loc} (hm:n + 2≤m) (hf:atN a fTab=some fi) (hd:fi.d=⟨nm,⟨[],ps,none,[],[],none,[]⟩,body,sc⟩)
  (hb:fBody ⟨nm,⟨[],ps,none,[],[],none,[]⟩,body,sc⟩ = true) (hl:argN ps args=some loc) (z:SQ ⟨w,H0,n,sc,[]⟩ body loc h (RK K)):CF w H0 m a args h K:=by
 refine ⟨by rw [hf]; rfl,fun B W s A cs S r R=>?_⟩
 have Sh:=shape_at hf
 have fc:=f_in w.params (atN_mem a hf)
 have cd:=List.all_eq_true.mp (f_code w.params) _ (atN_mem a hf)
 dsimp only at cd
 have bd:=fun fd e=>bind_at (vs:=cs) hf e fd
 rw [hd] at Sh fc bd
 have rel:=argN_rel hl r
 have hz:((ps.map (·.arg)).zip cs).map (·.1)=ps.map (·.arg):=zip_fst (by rw [List.length_map]; exact rel.1)
 have e0:s.heap.get? s.heap.objs.size=none:=get_size s.heap 0
 refine codeAny_call_def (body:=body) (binds:=(ps.map fun p:Arg=>p.arg).zip cs) (by show A.depth < 1000; have:=R.1.1; omega) (S.kin B _ _ fc) rfl (B.nolimit.keeps S.old) (codeRec_of (S.kin B) cd) rfl
  (BindsTo.of_eq (bd (fdX ⟨⟨nm,⟨[],ps,none,[],[],none,[]⟩,body,sc⟩,fi.q,fi.pm,fi.c⟩) rel.1)) (fun x mx e=>?_) (fun x mx=>?_) (fun h1 hns hk=>?_) Sh.co Sh.gen Sh.kind
 ·have:=List.all_eq_true.mp hb x mx
  rw [e] at this; exact ft this
 ·have mx:x.1∈ps.map (·.arg):=by rw [← hz]; exact List.mem_map_of_mem mx
  exact (List.mem_map.mp mx).elim fun p z=>by rw [← z.2]; exact Sh.loc p z.1
 ·have X1:Ex all' h W s h W { s with heap:=h1,toks:=s.toks + ((ps.map (·.arg)).zip cs).length } none:=keep_ex hk
  have a1:∀ env:Env,EnvOk ⟨w,H0,n,sc,[]⟩ s.heap.objs.size env→At ⟨w,H0,n,sc,[]⟩ loc h W { s with heap:=h1,toks:=s.toks + ((ps.map (·.arg)).zip cs).length } s.heap.objs.size env (A.deeper env):=fun env ee =>
   ⟨md_in B (S.keeps hk) (R.le hm),ee,⟨⟨_,hns,fun x v e=>(rel.2 x v e).elim fun c y=>⟨c,by rw [rev_lookup (by rw [hz]; exact Sh.nodup)]; exact y.1,y.2⟩⟩,S.gone e0,dead_no S e0⟩,fun x v e=>nos e⟩
  refine PS.bind (a1 _ ?ee) (z W _ _ _ _ (a1 _ ?ee)).o fun f s' fl loc' h' W' X a' rf k=>?_
  case ee=>exact ⟨rfl,rfl,rfl,rfl,Sh.kind⟩
  refine ⟨_,rfl,retOf fl,h',W',(X1.loose.trans X).tight e0,a'.m.sat,?_,k⟩
  cases fl with
  | ret b=>exact rf.elim fun v r=>by rw [r.1]; exact r.2
  | _=>rw [show f=_ from rf]; exact VR.none
end
end
section
theorem VR.forget {h h':AH} {W W':Wd}:∀ {a v0 v},VR h W a v0→VR h' W' a v→VR h W' a v:=fun {a} =>
 @AVal.rec (fun a=>∀ {v0 v},VR h W a v0→VR h' W' a v→VR h W' a v) (fun l=>∀ {v0 v},VRs h W l v0→VRs h' W' l v→VRs h W' l v) (fun _ z=>z) (fun _ _ _ _ z=>z) (fun _ _ _ _ z=>z) (fun _ _ _ _ z=>z)
  (fun _ f _ _ y z=>y.iTup.elim fun _ y=>y.elim fun _ y=>z.iTup.elim fun a z=>z.elim fun vs z=>⟨a,vs,z.1,z.2.1,f y.2.2 z.2.2⟩)
  (fun _ _ _ y z=>⟨y.1,z.2⟩) (fun _ _ _ _ z=>z) (fun _ _ _ _ z=>z) (fun _ z=>z) (fun _ _ _ _ z=>z) (fun _ z=>z)
  (fun _ _ f g _ _ y z=>y.iCons.elim fun _ y=>y.elim fun _ y=>z.iCons.elim fun v z=>z.elim fun r z=>⟨v,r,z.1,f y.2.1 z.2.1,g y.2.2 z.2.2⟩) a
theorem VRs.forget {h h':AH} {W W':Wd}:∀ {l v0 v},VRs h W l v0→VRs h' W' l v→VRs h W' l v
 | [],_,_,_,z=>z
 | _ :: _,_,_,y,z=>y.iCons.elim fun _ y=>y.elim fun _ y=>z.iCons.elim fun v z=>z.elim fun r z=>⟨v,r,z.1,y.2.1.forget z.2.1,y.2.2.forget z.2.2⟩
theorem ER.forget {P:Params} {h h':AH} {W W':Wd}:∀ {fs e0 es},ER P h W fs e0→ER P h' W' fs es→ER P h W' fs es
 | [],_,_,_,z=>z
 | (_,_) :: _,_,_,y,z=>y.elim fun _ y=>y.elim fun _ y=>y.elim fun _ y=>z.elim fun t z=>z.elim fun c z=>z.elim fun r z=>⟨t,c,r,z.1,y.2.1.forget z.2.1,ER.forget y.2.2 z.2.2⟩
theorem DR.forget {P:Params} {h h':AH} {W W':Wd}:∀ {l e0 es},DR P h W l e0→DR P h' W' l es→DR P h W' l es
 | [],_,_,_,z=>z
 | _ :: _,_,_,y,z=>y.elim fun _ y=>y.elim fun _ y=>y.elim fun _ y=>z.elim fun k z=>z.elim fun c z=>z.elim fun r z=>⟨k,c,r,z.1,z.2.1,y.2.2.1.forget z.2.2.1,y.2.2.2.1.forget z.2.2.2.1,z.2.2.2.2.1,DR.forget y.2.2.2.2.2 z.2.2.2.2.2⟩
theorem OR.forget {P:Params} {h h':AH} {W W':Wd} {hp hp':Heap} {n:Nm} {o:AObj} (y:OR P h W hp n o) (z:OR P h' W' hp' n o):OR P h W' hp' n o:=by
 cases o with
 | inst c fs=>exact y.2.elim fun _ y=>y.elim fun _ y=>⟨z.1,z.2.elim fun es z=>z.elim fun k z=>⟨es,k,z.1,y.2.1.forget z.2.1,z.2.2⟩⟩
 | list l=>exact y.elim fun _ y=>y.elim fun _ y=>z.elim fun vs z=>z.elim fun k z=>⟨vs,k,z.1,y.2.1.forget z.2.1,z.2.2⟩
 | dict l=>exact y.elim fun _ y=>y.elim fun _ y=>z.elim fun vs z=>z.elim fun k z=>⟨vs,k,z.1,y.2.1.forget z.2.1,z.2.2⟩
section
variable {P:Params} {H0:Heap} {h h':AH} {W W':Wd} {s s':Shared} {L:Option Addr}
theorem has_sub (d:∀ n o,h n=some o→h' n=some o) {n:Nm} {b:Bool} (e:has h n b=true):has h' n b=true :=
 (Option.isSome_iff_exists.mp (show (h n).isSome=true from has_false e)).elim fun o ho=>by
  cases b with
  | false=>exact has_some (d n o ho)
  | true=>exact (has_true e).elim fun c z=>z.elim fun fs z=>has_inst (d n _ z)
theorem sat_forget (S0:Sat P H0 W h s.heap) (S:Sat P H0 W' h' s'.heap) (d:∀ n o,h n=some o→h' n=some o):Sat P H0 W' h s'.heap :=
 ⟨S.stat,S.keep,fun n o ho=>(S0.obj n o ho).forget (S.obj n o (d n o ho)),fun n b m c e f q=>S.inj n b m c (has_sub d e) (has_sub d f) q,fun n b e=>S.gno n b (has_sub d e)⟩
theorem ex_forget (X:Ex all' h W s h' W' s' L) (d:∀ n o,h n=some o→h' n=some o):Ex all' h W s h W' s' L :=
 ⟨X.g,fun n b t e=>⟨e,(X.ad n b t e).2⟩,X.size,X.keep,fun a q=>q.elim fun n q=>q.elim fun b q=>X.own' a ⟨n,b,has_sub d q.1,q.2⟩,X.gnew,X.gens,X.os⟩
theorem Sat.freeze {a:Addr} {o:Obj} {hp:Heap} (S:Sat P H0 W h hp) (f:Fgn h W hp a) (e:hp.get? a=some o) :
  Sat P H0 ⟨W.ad,fun b=>if b=a then some o else W.g b⟩ h hp∧Le h W h ⟨W.ad,fun b=>if b=a then some o else W.g b⟩:=by
 have le:Le h W h ⟨W.ad,fun b=>if b=a then some o else W.g b⟩:=⟨fun b o' q=>(if_neg fun z=>nos (f.g.symm.trans (z ▸ q))).trans q,fun _ _ e=>⟨e,rfl⟩⟩
 refine ⟨⟨fun b o' q=>le.g _ _ (S.stat b o' q),fun b o' q=>?_,fun n ob hob=>(S.obj n ob hob).mono le (fun _ _=>rfl) hob,S.inj,fun n b q=>(if_neg fun z=>f.no ⟨n,b,q,z.symm⟩).trans (S.gno n b q)⟩,le⟩
 by_cases z:b=a
 ·rw [show o=o' from Option.some.inj ((if_pos z).symm.trans q)] at e
  rw [z]; exact e
 ·exact S.keep b o' ((if_neg z).symm.trans q)
end
section
variable {w:World} {H0:Heap} {n m a:Nat} {args:List AVal} {h:AH} {K:KV}
theorem cf_cell {fi:FI} {nm x y:Str} {ps:List Arg} {p ap p1 q1:Pos} {e e1:Expr} {rest:List Stmt} {sc:Scope} {loc:Loc} (hm:n + 2≤m) (hf:atN a fTab=some fi) (hd:fi.d=⟨nm,⟨[],ps,none,[],[],none,[]⟩,.Assign [.Name y q1] e1 p1 :: .Assign [.Name x p] e ap :: rest,sc⟩)
  (hx:kdOf x sc.names=some .cell) (hxc:∀ k,((cellsFrom k sc.names []).lookup x).isSome=true) (hc1:SwapOk e1) (hce:SwapOk e) (hy:kdOf y sc.names=some .local) (hl:argN ps args=some loc)
  (z:E ⟨w,H0,n,sc,[]⟩ loc e1 h fun v1 h1=>E ⟨w,H0,n,sc,[]⟩ (lput y v1 loc) e h1 fun v h2=>SQ ⟨w,H0,n,sc,[(x,v)]⟩ rest (lput y v1 loc) h2 fun fl _ h'=>∃ b,retOf fl = .bool b∧(∀ n o,h n=some o→h' n=some o)∧K (.bool b) h):CF w H0 m a args h K:=by
 refine ⟨by rw [hf]; rfl,fun B W s A cs S r R=>?_⟩
 have Sh:=shape_at hf
 have fc:=f_in w.params (atN_mem a hf)
 have cd:=List.all_eq_true.mp (f_code w.params) _ (atN_mem a hf)
 dsimp only at cd
 have bd:=fun fd e=>bind_at (vs:=cs) hf e fd
 rw [hd] at Sh fc bd
 have rel:=argN_rel hl r
 have hz:((ps.map (·.arg)).zip cs).map (·.1)=ps.map (·.arg):=zip_fst (by rw [List.length_map]; exact rel.1)
 have hloc:∀ y∈(ps.map (·.arg)).zip cs,sc.names.lookup y.1=some .local:=fun y mx=>by
  have mx:y.1∈ps.map (·.arg):=by rw [← hz]; exact List.mem_map_of_mem mx
  exact (List.mem_map.mp mx).elim fun p z=>by rw [← z.2]; exact Sh.loc p z.1
 have e0:s.heap.get? s.heap.objs.size=none:=get_size s.heap 0
 refine codeAny_call_cells (fd:=fdX ⟨⟨nm,⟨[],ps,none,[],[],none,[]⟩,.Assign [.Name y q1] e1 p1 :: .Assign [.Name x p] e ap :: rest,sc⟩,fi.q,fi.pm,fi.c⟩) (body:=.Assign [.Name y q1] e1 p1 :: .Assign [.Name x p] e ap :: rest) (binds:=(ps.map fun p:Arg=>p.arg).zip cs) (by show A.depth < 1000; have:=R.1.1; omega) (S.kin B _ _ fc) rfl (B.nolimit.keeps S.old) (codeRec_of (S.kin B) cd) rfl
  (bd (fdX ⟨⟨nm,⟨[],ps,none,[],[],none,[]⟩,.Assign [.Name y q1] e1 p1 :: .Assign [.Name x p] e ap :: rest,sc⟩,fi.q,fi.pm,fi.c⟩) rel.1) rfl (fun y my=>.inl (hloc y my)) (fun s1 x1=>?_) Sh.co Sh.gen Sh.kind
 refine x1.done.elim fun hp1 d1=>d1.elim fun tk1 d1=>?_
 have kp1:=d1.2
 rw [d1.1] at x1 ⊢
 have X1:Ex all' h W s h W { s with heap:=hp1,toks:=tk1 } none:=keep_ex kp1
 refine (Option.isSome_iff_exists.mp (hxc (s.heap.objs.size + 1))).elim fun ca hca=>?_
 have hlt:s.heap.objs.size < ca:=x1.above x ca (mem_of_lookup hca)
 have ec:s.heap.get? ca=none:=by
  have:=get_size s.heap (ca - s.heap.objs.size)
  rw [Nat.add_sub_cancel' (Nat.le_of_lt hlt)] at this; exact this
 refine (x1.cell x ca hca).elim fun oc hoc=>?_
 have ncL:ca≠s.heap.objs.size:=Nat.ne_of_gt hlt
 have fC:Fgn h W hp1 ca:=.new S ec ⟨oc,hoc.1⟩
 have a1:∀ env:Env,EnvOk ⟨w,H0,n,sc,[]⟩ s.heap.objs.size env→At ⟨w,H0,n,sc,[]⟩ loc h W { s with heap:=hp1,toks:=tk1 } s.heap.objs.size env (A.deeper env):=fun env ee =>
  ⟨md_in B (S.keeps kp1) (R.le hm),ee,⟨⟨_,x1.toInCall.ns,fun y v e=>(rel.2 y v e).elim fun c w=>⟨c,bindL_at (by rw [hz]; exact Sh.nodup) (fun p mp=>hloc p mp) w.1,w.2⟩⟩,S.gone e0,dead_no S e0⟩,fun x v e=>nos e⟩
 refine wpAny_execs_cons (wpAny_Assign_Name (z.go (a1 _ ?ee) fun v1 s2 av1 h2 W2 X2 a2 r2 k=>store_name a2 ((kdOf_eq _ _).symm.trans hy) r2 fun s3 x3=>?_) (hc1 _ _ _))
 case ee=>exact ⟨rfl,rfl,rfl,rfl,Sh.kind⟩
 have fC2:=fC.step X2
 have fC3:=fC2.step x3.ex
 refine wpAny_execs_cons (wpAny_Assign_Name (k.go (a2.sets x3) fun v s4 av h4 W4 X4 a4 r4 k4=>?_) (hce _ _ _))
 have fC4:=fC3.step X4
 refine wpAny_storeName_cell Sh.kind ((kdOf_eq _ _).symm.trans hx) hca ⟨oc,fC3.same X4 nofun (fC2.same x3.ex (fun e=>ncL (Option.some.inj e).symm) (fC.same X2 nofun hoc.1)),hoc.2⟩ fun hp5 hc5 hs5=>hc5.elim fun o5 hc5=>?_
 have kp5:∀ b o,b≠ca→s4.heap.get? b=some o→hp5.get? b=some o:=fun b o n e=>(hs5.2 b n).trans e
 have Z:=(fC4.sat a4.m.sat kp5).freeze ⟨fC4.no,fC4.g,o5,hc5.1⟩ hc5.1
 have Y:=((((X1.loose.trans X2.loose).trans x3.ex).trans X4.loose).but (tk:=s4.toks) ec kp5)
 have X5:Ex all' h W s h4 ⟨W4.ad,fun b=>if b=ca then some o5 else W4.g b⟩ { s4 with heap:=hp5,toks:=s4.toks } (some s.heap.objs.size) :=
  ⟨fun b o e=>Z.2.g _ _ (Y.g b o e),Y.ad,Y.size,Y.keep,Y.own',fun b o e=>by
   by_cases z:b=ca
   ·exact .inr (z ▸ ec)
   ·exact Y.gnew b o ((if_neg z).symm.trans e),Y.gens,Y.os⟩
 have F:=a4.f.keep fun o e=>kp5 _ o (Ne.symm ncL) e
 have a5:At ⟨w,H0,n,sc,[(x,av)]⟩ (lput y av1 loc) h4 ⟨W4.ad,fun b=>if b=ca then some o5 else W4.g b⟩ { s4 with heap:=hp5,toks:=s4.toks } s.heap.objs.size _ _ :=
  ⟨⟨B,Z.1,a4.m.r,a4.m.u⟩,⟨a4.e.1,a4.e.2,a4.e.3,a4.e.4,a4.e.5⟩,⟨F.ns.elim fun m z=>⟨m,z.1,fun y u e=>(z.2 y u e).elim fun c q=>⟨c,q.1,q.2.mono Z.2⟩⟩,(if_neg (Ne.symm ncL)).trans F.gL,F.oL⟩,fun y u e=>by
   rw [lk_c] at e
   cases q:sq y x with
   | true=>rw [q] at e; rw [sq_iff.mp q]; exact ⟨ca,o5,v,hca,if_pos rfl,hc5.2,Option.some.inj e ▸ r4.mono Z.2⟩
   | false=>rw [q] at e; exact nos e⟩
 refine PS.bind a5 (k4 _ _ _ _ _ a5).o fun f s' fl loc' h' W' X a' rf k=>k.elim fun b k=>?_
 refine ⟨_,rfl,.bool b,h,W',ex_forget ((X5.trans X).tight e0) k.2.1,sat_forget S a'.m.sat k.2.1,?_,k.2.2⟩
 cases fl with
 | ret c=>rw [show c = .bool b from k.1] at rf; exact rf.elim fun v r=>by rw [r.1]; exact r.2
 | _=>exact nomatch k.1
end
end
section
section
variable {c:Cx} {loc:Loc} {L:Addr} {env:Env} {A:Around} {h h1:AH} {W W1:Wd} {s s1:Shared} {KK:KS} {rest:List Stmt} {x y:Str} {elt iter:Expr} {scope:Scope}
theorem swap_comp {gs:List Comprehension} {pos p:Pos} {n:Nat}:∃ b,swapsWith (.ListComp elt gs scope pos) (some (.Name y p)) n env=pure b:=⟨_,rfl⟩
theorem s_asgC {p px epos pos:Pos} (k1:scOk scope x c=true) (hk:scope.kind = .function) (k3:IterOk iter) (hy:kdOf y c.sc.names=some .local) (z:E c loc iter h fun v h1=>IT v h1 fun l chk=>l.length≤900000∧CL (cxIn c scope) x elt chk l [] h1 fun vs h3=>NO (.list vs) h3 fun v h1=>SQ c rest (lput y v loc) h1 KK):SQ c (.Assign [.Name y p] (.ListComp elt [⟨.Name x px,iter,[],0⟩] scope epos) pos :: rest) loc h KK:=sq_cons fun W s L env A a=>by
 have hy:=(kdOf_eq _ _).symm.trans hy
 refine (swap_comp (env:=env) (elt:=elt) (gs:=[⟨.Name x px,iter,[],0⟩]) (scope:=scope) (pos:=epos) (p:=p) (y:=y) (n:=pos.line)).elim fun b hb=>?_
 cases b with
 | false=>exact wpAny_Assign_Name ((e_comp k1 hk k3 z).go a fun v s1 av h1 W1 X a1 r k=>store_name a1 hy r fun s2 x2=>st_next (X.loose.trans x2.ex) (a1.sets x2) k) hb
 | true =>
  have sc:=scOk_of k1
  rw [exec_Assign_Name_used _ _ _ _ hb]
  refine wpAny_bind (wpAny_standAt (wpAny_bind ?_))
  show wpAny _ A (do let _ ← comprehension (.ListComp elt [⟨.Name x px,iter,[],0⟩] scope epos) scope env _ (newList []) false (eval iter env) (some (assign (.Name y p) env))) _ _ s
  refine wpAny_bind (wpAny_mono (wpAny_comprehension_free (use:=some (assign (.Name y p) env)) (Q:=fun _ s'=>PS c h W s L (TH c rest KK) .next s') rfl (k3 _) (closure_eq (cell_free a sc)) hk sc.loc
   (z.go a fun v s1 av h1 W1 X a1 r k=>?_)) (fun _ s' hq=>wpAny_pure (wpAny_pure hq)) fun _ _ e=>e)
  refine wpAny_mono (k c W1 s1 A v NoE a1.m r).o (fun it s2 w=>?_) fun _ _ e=>e
  refine w.elim fun I w=>w.elim fun l w=>w.elim fun chk w=>w.elim fun St w=>?_
  rw [w.1]
  refine comp_block (a1.step w.2.1 w.2.2.1) sc hk w.2.2.2.2.2.1 w.2.2.2.2.2.2.1 w.2.2.2.1 (X.trans w.2.1) (X.back w.2.2.2.2.1) w.2.2.2.2.2.2.2.1 a.f.alive w.2.2.2.2.2.2.2.2 fun D C h3 W3 s3 accA accs k m X3 S3 fD fC hd R hm z3 dD dC hDC hCL=>z3.2.elim fun n y=>?_
  have N:=adopt_at (o:=.list accA) X3 S3 y.1 fD dD ⟨accs,k,by rw [put_self]; exact hd,R.mono (put_le y.1),z3.1⟩
  have a4:=a.step N.2 N.1
  show wpAny _ A (assign (.Name _ p) env (.ref D)) _ _ _
  refine wpAny_assign_Name (store_name a4 hy put_ref fun s5 x5=>⟨m,hm.at' fun o e=>x5.k _ _ hCL e,fun h' hs'=>?_⟩)
  have kp:∀ b o,b≠C→s5.heap.get? b=some o→h'.get? b=some o:=fun b o n e=>(hs'.2 b n).trans e
  have n0:¬ own (hset h3 n (.list accA)) (W3.put n D s3.heap.objs.size) C:=fun e=>e.elim fun m e=>e.elim fun b e=>by
   rcases nm_cases m n with q | q
   ·rw [q,put_self] at e
    cases b with
    | false=>exact hDC e.2.symm
    | true=>exact fC.al.elim fun o ho=>son (ho.symm.trans ((congrArg _ e.2).trans (get_size s3.heap 0)))
   ·rw [put_ne q,has_ne q] at e
    exact fC.no ⟨m,b,e⟩
  have a5:=a4.sets x5
  exact st_next ((N.2.loose.trans x5.ex).but (tk:=s5.toks) dC kp) (⟨a5.m.step (a5.m.sat.but n0 fC.g kp),a5.e,a5.f.keep fun o e=>kp _ _ (Ne.symm hCL) e,a5.cv⟩ : At c _ _ _ { s5 with heap:=h',toks:=s5.toks } L env A) y.2
end
end
section
def Pu (c:Cx) (loc:Loc) (h:AH) (e:Expr) (v:AVal):Prop:=∀ K:KV,K v h→E c loc e h K
def PT (c:Cx) (loc:Loc) (h:AH) (e:Expr) (b:Bool):Prop:=∀ K:Bool→AH→Prop,K b h→T c loc e h K
def PL (c:Cx) (loc:Loc) (h:AH) (es:List Expr) (vs:List AVal):Prop:=∀ K:List AVal→AH→Prop,K vs h→EL c loc es h K
def GP (h:AH) (v k u:AVal):Prop:=∀ K:KV,K u h→GI v k h K
def CB (h:AH) (op:CmpOp) (a b:AVal) (r:Bool):Prop:=∀ K:KV,K (.bool r) h→CM op a b h K
section
variable {n:Nm} {h:AH} {K:KV} {u v:AVal} {l:List AVal} {d:List (AVal×AVal)}
theorem no_list (m:Nm) (hl:l.length≤1000000) (hn:h m=none) (k:K (.ref m) (hset h m (.list l))):NO (.list l) h K:=⟨hl,m,hn,k⟩
theorem no_dict (m:Nm) (hl:d.length≤1000000) (hn:h m=none) (k:K (.ref m) (hset h m (.dict d))):NO (.dict d) h K:=⟨hl,m,hn,k⟩
theorem dM {k j m:Nat} (hm:j≤m) (e:Nat.ble (k + 2) j=true):k≤m - 2:=Nat.le_sub_of_add_le (Nat.le_trans (Nat.le_of_ble_eq_true e) hm)
theorem dN {j m:Nat} (hm:j≤m) (e:Nat.ble 2 j=true):m - 2 + 2≤m:=Nat.le_of_eq (Nat.sub_add_cancel (Nat.le_trans (Nat.le_of_ble_eq_true e) hm))
noncomputable def inNs (n:Nm) (ms:List Nm):Bool:=ms.any fun m=>Nm.eqb m n
theorem inNs_mem {n:Nm} {ms:List Nm} (i:inNs n ms=true):n∈ms:=(List.any_eq_true.mp i).elim fun m z=>by
 rw [← Nm.eqb_iff.mp z.2]; exact z.1
theorem weakB {ms ms':List Nm} (e:ms.all (fun m=>inNs m ms')=true):∀ m∈ms,m∈ms':=fun m mm=>inNs_mem (List.all_eq_true.mp e m mm)
theorem lk_self {x:Str} {v:AVal} {l:List (Str×AVal)}:lk x ((x,v) :: l)=some v:=by rw [lk_c,sq_iff.mpr rfl]; rfl
theorem ne_of_sq {a b:Str} (e:sq a b=false):a≠b:=fun z=>ft (e.symm.trans (sq_iff.mpr z))
theorem ne_of {m:Nm} (e:Nm.eqb m n=false):m≠n:=fun z=>ft (e.symm.trans (Nm.eqb_iff.mpr z))
theorem hset_off {m:Nm} {o:Option AObj} {o':AObj} (e:Nm.eqb m n=false) (hm:h m=o):hset h n o' m=o:=(hset_ne (ne_of e)).trans hm
theorem hset_old {m:Nm} {o o':AObj} (hn:h n=none) (hm:h m=some o):hset h n o' m=some o:=(hset_ne fun z=>nos (hn.symm.trans (z ▸ hm))).trans hm
theorem hset_at2 {o o':AObj} (e:o=o'):hset h n o n=some o':=e ▸ hset_at
theorem eqb_comm (a b:Nm):Nm.eqb a b=Nm.eqb b a:=Bool.eq_iff_iff.mpr ⟨fun z=>Nm.eqb_iff.mpr (Nm.eqb_iff.mp z).symm,fun z=>Nm.eqb_iff.mpr (Nm.eqb_iff.mp z).symm⟩
end
section
variable {c:Cx} {loc:Loc} {h:AH} {o l r e:Expr} {as:List Expr} {p q:Pos} {x:Str} {v u a b:AVal} {vs:List AVal} {t:Bool} {rest:List Stmt} {K:KV} {KB:Bool→AH→Prop} {KL:List AVal→AH→Prop} {KK:KS}
theorem e_pu (P:Pu c loc h e v) (k:K v h):E c loc e h K:=P K k
theorem t_pu (P:PT c loc h e t) (k:KB t h):T c loc e h KB:=P KB k
theorem el_pu (P:PL c loc h as vs) (k:KL vs h):EL c loc as h KL:=P KL k
theorem gp (G:GP h v b u) (k:K u h):GI v b h K:=G K k
theorem cb {op:CmpOp} (C:CB h op a b t) (k:K (.bool t) h):CM op a b h K:=C K k
theorem p_local (h1:(sq x "__debug__",kdOf x c.sc.names)=(false,some .local)) (h2:lk x loc=some v):Pu c loc h (.Name x p) v:=fun _ k=>e_local h1 h2 k
theorem p_glob (h1:(sq x "__debug__",kdOf x c.sc.names)=(false,some .globalImplicit)) (h2:glob x=some v):Pu c loc h (.Name x p) v:=fun _ k=>e_glob h1 h2 k
theorem p_int {i:Int} {j:Nat}:Pu c loc h (.Constant (.int i) j p) (.int i):=fun _ k=>e_int k
theorem p_str {j:Nat}:Pu c loc h (.Constant (.str x) j p) (.str x):=fun _ k=>e_str k
theorem p_bool {j:Nat}:Pu c loc h (.Constant (.bool t) j p) (.bool t):=fun _ k=>e_bool k
theorem p_none {j:Nat}:Pu c loc h (.Constant .none j p) .none:=fun _ k=>e_none k
theorem p_attr {m:Nm} {d:Nat} {fs:List (Str×AVal)} (hb:BaseOk o x) (P:Pu c loc h o (.ref m)) (hn:h m=some (.inst d fs)) (h1:attOk d x=true) (h2:lk x fs=some u):Pu c loc h (.Attribute o x p) u:=fun _ k=>e_attr hb (e_pu P (ga hn h1 h2 k))
theorem p_sub (hb:SubOk r) (P:Pu c loc h o v) (P2:Pu c loc h r b) (G:GP h v b u):Pu c loc h (.Subscript o r p) u:=fun _ k=>e_sub hb (e_pu P (e_pu P2 (gp G k)))
theorem p_add {i j:Int} (P:Pu c loc h l (.int i)) (P2:Pu c loc h r (.int j)):Pu c loc h (.BinOp l .Add r p) (.int (i + j)):=fun _ k=>e_bin (e_pu P (e_pu P2 (bi_add k)))
theorem p_minus {i j:Int} (P:Pu c loc h l (.int i)) (P2:Pu c loc h r (.int j)):Pu c loc h (.BinOp l .Sub r p) (.int (i - j)):=fun _ k=>e_bin (e_pu P (e_pu P2 (bi_sub k)))
theorem p_neg {i:Int} (P:Pu c loc h e (.int i)):Pu c loc h (.UnaryOp .USub e p) (.int (-i)):=fun _ k=>e_neg (e_pu P (ng k))
theorem p_cmp {op:CmpOp} (hb:behindInMarks op r=false) (P:Pu c loc h l a) (P2:Pu c loc h r b) (C:CB h op a b t):Pu c loc h (.Compare l [op] [r] p) (.bool t):=fun _ k=>e_cmp hb (e_pu P (e_pu P2 (cb C k)))
theorem p_tup {j:Nat} (hb:aOk as=true) (P:PL c loc h as vs):Pu c loc h (.Tuple as j p) (.tup vs):=fun _ k=>e_tup hb (el_pu P k)
theorem p_len {m:Nm} {w:List AVal} (hs:aOk [e]=true) (hk:kdOf x c.sc.names=some .globalImplicit) (hb:bltOf x=some .len) (P:Pu c loc h e (.ref m)) (hn:h m=some (.list w)):Pu c loc h (.Call (.Name x q) [e] [] p) (.int w.length):=fun _ k=>e_blt hs hk hb (el_cons (e_pu P (el_nil (bl_len_list hn k))))
theorem pl_nil:PL c loc h [] []:=fun _ k=>el_nil k
theorem pl_cons (P:Pu c loc h e v) (P2:PL c loc h as vs):PL c loc h (e :: as) (v :: vs):=fun _ k=>el_cons (e_pu P (el_pu P2 k))
theorem pt_name (P:Pu c loc h (.Name x p) v) (hv:tvB v=some t):PT c loc h (.Name x p) t:=fun _ k=>t_name (e_pu P (tvB_ok hv k))
theorem pt_not (P:PT c loc h e t):PT c loc h (.UnaryOp .Not e p) (!t):=fun _ k=>t_not (t_pu P k)
theorem pt_cmp {op:CmpOp} (hb:behindInMarks op r=false) (P:Pu c loc h l a) (P2:Pu c loc h r b) (C:CB h op a b t):PT c loc h (.Compare l [op] [r] p) t:=fun _ k=>t_cmp hb (e_pu P (e_pu P2 (cb C (tv_bool k))))
theorem gp_tup {i:Int} {m:Nat} (h0:i=Int.ofNat m) (h1:nthV vs m=some u) (h2:Nat.blt m 1000000=true):GP h (.tup vs) (.int i) u:=fun _ k=>gi_tup h0 h1 h2 k
theorem gp_list {m:Nm} {i:Int} {j:Nat} (hn:h m=some (.list vs)) (h0:i=Int.ofNat j) (h1:nthV vs j=some u):GP h (.ref m) (.int i) u:=fun _ k=>gi_list hn h0 h1 k
theorem cb_eq (h1:eqV h a b=some t):CB h .Eq a b t:=fun _ k=>cm_eq h1 k
theorem cb_ne (h1:eqV h a b=some t):CB h .NotEq a b (!t):=fun _ k=>cm_ne h1 k
theorem cb_is:CB h .Is a .none (isNone' a):=fun _ k=>cm_is k
theorem cb_isnot:CB h .IsNot a .none (!isNone' a):=fun _ k=>cm_isnot k
theorem cb_lt {i j:Int}:CB h .Lt (.int i) (.int j) (decide (i < j)):=fun _ k=>cm_lt k
theorem cb_le {i j:Int}:CB h .LtE (.int i) (.int j) (decide (i≤j)):=fun _ k=>cm_le k
theorem cb_gt {i j:Int}:CB h .Gt (.int i) (.int j) (decide (i > j)):=fun _ k=>cm_gt k
theorem cb_ge {i j:Int}:CB h .GtE (.int i) (.int j) (decide (i ≥ j)):=fun _ k=>cm_ge k
theorem s_asgP (hc:SwapOk e) (hk:kdOf x c.sc.names=some .local) (P:Pu c loc h e v) (k:SQ c rest (lput x v loc) h KK):SQ c (.Assign [.Name x q] e p :: rest) loc h KK:=s_asg hc hk (e_pu P k)
theorem s_retP (P:Pu c loc h e v) (k:KK (.ret v) loc h):SQ c (.Return (some e) p :: rest) loc h KK:=s_ret (e_pu P k)
theorem s_ifP {A B:List Stmt} (P:PT c loc h e t) (k:VI t (SQ c A loc h (TH c rest KK)) (SQ c B loc h (TH c rest KK))):SQ c (.If e A B p :: rest) loc h KK:=s_if (t_pu P k)
theorem s_asgAP (hc:SwapOk e) (hb:BaseOk o x) (P:Pu c loc h e v) (P2:Pu c loc h o b) (k:SA b x v h fun h3=>SQ c rest loc h3 KK):SQ c (.Assign [.Attribute o x q] e p :: rest) loc h KK:=s_asgA hc hb (e_pu P (e_pu P2 k))
theorem s_asgSP (hc:SwapOk e) (hb:SubOk r) (P:Pu c loc h e v) (P2:Pu c loc h o b) (P3:Pu c loc h r u) (k:SI b u v h fun h3=>SQ c rest loc h3 KK):SQ c (.Assign [.Subscript o r q] e p :: rest) loc h KK:=s_asgS hc hb (e_pu P (e_pu P2 (e_pu P3 k)))
theorem s_forP {s:Expr} {body:List Stmt} (hi:IterOk e) (P:Pu c loc h e v) (k:IT v h fun l chk=>FR c s body rest KK l chk loc h):SQ c (.For s e body [] p :: rest) loc h KK:=s_for hi (e_pu P k)
theorem s_augP {op:Operator} {i j:Int} (hk:kdOf x c.sc.names=some .local) (hl:lk x loc=some (.int i)) (P:Pu c loc h e (.int j)) (k:AU op (.int i) (.int j) h fun r h3=>SQ c rest (lput x r loc) h3 KK):SQ c (.AugAssign (.Name x q) op e p :: rest) loc h KK:=s_aug hk hl (e_pu P k)
theorem s_augAP {op:Operator} {m:Nm} {d:Nat} {fs:List (Str×AVal)} {i j:Int} (P:Pu c loc h o (.ref m)) (hn:h m=some (.inst d fs)) (h1:attOk d x=true) (h2:lk x fs=some (.int i)) (P2:Pu c loc h e (.int j)) (k:AU op (.int i) (.int j) h fun r h4=>SA (.ref m) x r h4 fun h5=>SQ c rest loc h5 KK):SQ c (.AugAssign (.Attribute o x q) op e p :: rest) loc h KK:=s_augA (e_pu P (ga hn h1 h2 (e_pu P2 k)))
theorem e_fnP {f:Nat} (hs:aOk as=true) (hk:kdOf x c.sc.names=some .globalImplicit) (hg:glob x=some (.fn f)) (hf:(atN f fTab).isSome=true) (P:PL c loc h as vs) (k:CF c.w c.H0 c.n f vs h K):E c loc (.Call (.Name x q) as [] p) h K:=e_fn hs hk hg hf (el_pu P k)
theorem e_clsP {f:Nat} (hs:aOk as=true) (hk:kdOf x c.sc.names=some .globalImplicit) (hg:glob x=some (.cls f)) (hf:cOk f=true) (P:PL c loc h as vs) (k:NI c.w c.H0 c.n f vs h K):E c loc (.Call (.Name x q) as [] p) h K:=e_cls hs hk hg hf (el_pu P k)
theorem mc_instP {m:Nm} {d f:Nat} {fs:List (Str×AVal)} (hn:h m=some (.inst d fs)) (hm:meth d x=some f) (hx:lk x fs=none) (hd:(cOk d && attL.any (sq x))=true) (hf:(atN f fTab).isSome=true) (P:PL c loc h as vs) (k:CF c.w c.H0 c.n f (.ref m :: vs) h K):MC c loc x as (.ref m) h K:=mc_inst hn hm hx hd hf (el_pu P k)
theorem e_methP (hs:aOk as=true) (hb:BaseOk o x) (hl:(q.endLine == p.line)=true) (P:Pu c loc h o v) (k:MC c loc x as v h K):E c loc (.Call (.Attribute o x q) as [] p) h K:=e_meth hs hb hl (e_pu P k)
theorem lk_hop {y:Str} (e1:sq x y=false) (e2:lk x loc=some v):lk x (lput y u loc)=some v:=(lk_lput_ne _ (ne_of_sq e1) _).trans e2
end
section
variable {c:Cx} {ns:List Str} {l0 l1:Loc} {x y:Str} {v:AVal} {h:AH} {KK:KS} {t:Expr} {body rest:List Stmt} {chk:AH→Prop} {loc:Loc}
def Lk (ns:List Str) (l0 l1:Loc):Prop:=∀ x v,ns.any (sq x)=false→lk x l0=some v→lk x l1=some v
theorem Lk.id:Lk ns l0 l0:=fun _ _ _ e=>e
theorem Lk.put (L:Lk ns l0 l1) (e:ns.any (sq y)=true):Lk ns l0 (lput y v l1):=fun x u a b=>(lk_lput_ne v (fun z=>ft ((z ▸ a).symm.trans e)) _).trans (L x u a b)
theorem Lk.at (L:Lk ns l0 l1) (e:ns.any (sq x)=false) (e2:lk x l0=some v):lk x l1=some v:=L x v e e2
theorem Lk.go {ms:List Str} {l2:Loc} (M:Lk ms l1 l2) (L:Lk ns l0 l1) (e:ms.all (fun x=>ns.any (sq x))=true):Lk ns l0 l2:=fun x v a b=>M x v (Bool.eq_false_iff.mpr fun z=>(List.any_eq_true.mp z).elim fun y w=>ft (a.symm.trans (sq_iff.mp w.2 ▸ List.all_eq_true.mp e y w.1))) (L x v a b)
end
end
section
inductive Q2 {α β:Type} (P:α→β→Prop):Prop | mk (a:α) (b:β) (h:P a b)
inductive Q3 {α β γ:Type} (P:α→β→γ→Prop):Prop | mk (a:α) (b:β) (c:γ) (h:P a b c)
inductive Q4 {α β γ δ:Type} (P:α→β→γ→δ→Prop):Prop | mk (a:α) (b:β) (c:γ) (d:δ) (h:P a b c d)
inductive A3 (a b c:Prop):Prop | mk (x:a) (y:b) (z:c)
inductive A4 (a b c d:Prop):Prop | mk (x:a) (y:b) (z:c) (u:d)
inductive A5 (a b c d e:Prop):Prop | mk (x:a) (y:b) (z:c) (u:d) (v:e)
inductive A6 (a b c d e f:Prop):Prop | mk (x:a) (y:b) (z:c) (u:d) (v:e) (w:f)
inductive A7 (a b c d e f g:Prop):Prop | mk (x:a) (y:b) (z:c) (u:d) (v:e) (w:f) (t:g)
section
variable {α:Type} {c:Cx} {x:Str} {p:Pos} {h:AH} {KK:KS} {body rest:List Stmt} {chk:AH→Prop} {loc:Loc} {R:AVal→AH→Prop} {I:List α→List α→Loc→AH→Prop}
noncomputable def valsF (f:List α→α→AVal):List α→List α→List AVal
 | _,[]=>[]
 | d,a :: l=>f d a :: valsF f (d ++ [a]) l
theorem vals_map (f:α→AVal):∀ d l,valsF (fun _=>f) d l=l.map f
 | _,[]=>rfl
 | d,a :: l=>congrArg (f a :: ·) (vals_map f (d ++ [a]) l)
theorem vals_upto:∀ (d l:List α),valsF (fun d _=>.int (.ofNat d.length)) d l=upto l.length d.length
 | _,[]=>rfl
 | d,a :: l=>congrArg (AVal.int (.ofNat d.length) :: ·) ((vals_upto (d ++ [a]) l).trans (by rw [List.length_append]; rfl))
theorem fr_go {t:Expr} {g:List α→α→Loc→Loc} {ns:List Str} {f:List α→α→AVal} {T:List α} (ht:∀ d a loc1,tgtV c t (f d a) loc1=some (g d a loc1)) (ck:∀ d l loc1 h1,I d l loc1 h1→chk h1)
  (step:∀ d a l loc1 h1,T=d ++ a :: l→Lk ns loc loc1→I d (a :: l) loc1 h1→∀ K':KS,(∀ loc3 h2,Lk ns loc loc3→I (d ++ [a]) l loc3 h2→K' .next loc3 h2)→(∀ v loc3 h2,R v h2→K' (.ret v) loc3 h2)→SQ c body (g d a loc1) h1 K')
  (fin:∀ loc1 h1,Lk ns loc loc1→I T [] loc1 h1→SQ c rest loc1 h1 KK) (ret:∀ v loc h,R v h→KK (.ret v) loc h) :
  ∀ (l d:List α) {loc1:Loc} {h1:AH},T=d ++ l→Lk ns loc loc1→I d l loc1 h1→FR c t body rest KK (valsF f d l) chk loc1 h1
 | [],d,loc1,h1,e,L,i=>fr_nil (ck _ _ _ _ i) (fin _ _ L (by rw [e,List.append_nil]; exact i))
 | a :: l,d,loc1,h1,e,L,i=>fr_cons (ck _ _ _ _ i) (ht d a loc1)
   (step d a l loc1 h1 e L i _ (fun loc3 h2 L2 i2=>f_next (fr_go ht ck step fin ret l (d ++ [a]) (e.trans (by rw [List.append_assoc]; rfl)) L2 i2)) fun v loc3 h2 r=>f_ret (ret v loc3 h2 r))
theorem tgt_name (hk:kdOf x c.sc.names=some .local) (a:AVal) (loc1:Loc):tgtV c (.Name x p) a loc1=some (lput x a loc1) :=
 show (bif kdIs x .local c.sc.names then some (lput x a loc1) else none)=some (lput x a loc1) by rw [show kdIs x .local c.sc.names=true from beq_iff_eq.mpr hk]; rfl
theorem fr_eachR (ns:List Str) (f:α→AVal) (T:List α) (hk:kdOf x c.sc.names=some .local) (ck:∀ d l loc1 h1,I d l loc1 h1→chk h1)
  (step:∀ d a l loc1 h1,T=d ++ a :: l→Lk ns loc loc1→I d (a :: l) loc1 h1→∀ K':KS,(∀ loc3 h2,Lk ns loc loc3→I (d ++ [a]) l loc3 h2→K' .next loc3 h2)→(∀ v loc3 h2,R v h2→K' (.ret v) loc3 h2)→SQ c body (lput x (f a) loc1) h1 K')
  (fin:∀ loc1 h1,Lk ns loc loc1→I T [] loc1 h1→SQ c rest loc1 h1 KK) (ret:∀ v loc h,R v h→KK (.ret v) loc h) (i:I [] T loc h):FR c (.Name x p) body rest KK (T.map f) chk loc h:=by
 rw [← vals_map f []]
 exact fr_go (f:=fun _=>f) (fun _ a loc1=>tgt_name hk (f a) loc1) ck step fin ret T [] rfl (fun _ _ _ e=>e) i
theorem fr_each (ns:List Str) (f:α→AVal) (T:List α) (hk:kdOf x c.sc.names=some .local) (ck:∀ d l loc1 h1,I d l loc1 h1→chk h1)
  (step:∀ d a l loc1 h1,T=d ++ a :: l→Lk ns loc loc1→I d (a :: l) loc1 h1→∀ K':KS,(∀ loc3 h2,Lk ns loc loc3→I (d ++ [a]) l loc3 h2→K' .next loc3 h2)→SQ c body (lput x (f a) loc1) h1 K')
  (fin:∀ loc1 h1,Lk ns loc loc1→I T [] loc1 h1→SQ c rest loc1 h1 KK) (i:I [] T loc h):FR c (.Name x p) body rest KK (T.map f) chk loc h :=
 fr_eachR (R:=fun _ _=>False) ns f T hk ck (fun d a l loc1 h1 e L i K' kn _=>step d a l loc1 h1 e L i K' kn) fin (fun _ _ _ i=>i.elim) i
theorem fr_two {t:Expr} (ns:List Str) (x y:Str) (f g:α→AVal) (T:List α) (ht:∀ a loc1,tgtV c t (.tup [f a,g a]) loc1=some (lput y (g a) (lput x (f a) loc1))) (ck:∀ d l loc1 h1,I d l loc1 h1→chk h1)
  (step:∀ d a l loc1 h1,T=d ++ a :: l→Lk ns loc loc1→I d (a :: l) loc1 h1→∀ K':KS,(∀ loc3 h2,Lk ns loc loc3→I (d ++ [a]) l loc3 h2→K' .next loc3 h2)→SQ c body (lput y (g a) (lput x (f a) loc1)) h1 K')
  (fin:∀ loc1 h1,Lk ns loc loc1→I T [] loc1 h1→SQ c rest loc1 h1 KK) (i:I [] T loc h):FR c t body rest KK (T.map fun a=>.tup [f a,g a]) chk loc h:=by
 rw [← vals_map (fun a=>.tup [f a,g a]) []]
 exact fr_go (f:=fun _ a=>.tup [f a,g a]) (g:=fun _ a loc1=>lput y (g a) (lput x (f a) loc1)) (R:=fun _ _=>False) (fun _=>ht) ck (fun d a l loc1 h1 e L i K' kn _=>step d a l loc1 h1 e L i K' kn) fin (fun _ _ _ i=>i.elim) T [] rfl (fun _ _ _ e=>e) i
theorem fr_idx (ns:List Str) (T:List α) (hk:kdOf x c.sc.names=some .local) (ck:∀ d l loc1 h1,I d l loc1 h1→chk h1)
  (step:∀ d a l loc1 h1,T=d ++ a :: l→Lk ns loc loc1→I d (a :: l) loc1 h1→∀ K':KS,(∀ loc3 h2,Lk ns loc loc3→I (d ++ [a]) l loc3 h2→K' .next loc3 h2)→SQ c body (lput x (.int (.ofNat d.length)) loc1) h1 K')
  (fin:∀ loc1 h1,Lk ns loc loc1→I T [] loc1 h1→SQ c rest loc1 h1 KK) (i:I [] T loc h):FR c (.Name x p) body rest KK (upto T.length 0) chk loc h:=by
 rw [← show ([]:List α).length=0 from rfl,← vals_upto []]
 exact fr_go (f:=fun d _=>.int (.ofNat d.length)) (R:=fun _ _=>False) (fun d _ loc1=>tgt_name hk _ loc1) ck (fun d a l loc1 h1 e L i K' kn _=>step d a l loc1 h1 e L i K' kn) fin (fun _ _ _ i=>i.elim) T [] rfl (fun _ _ _ e=>e) i
theorem put_map {h:AH} {n:Nm} {d:List α} {a:α} (f:α→AVal):hset h n (.list (d.map f ++ [f a])) n=some (.list ((d ++ [a]).map f)):=by rw [hset_self,List.map_append]; rfl
theorem mid_lt {T d l:List α} {a:α} {k:Nat} (e:T=d ++ a :: l) (hT:T.length < k):d.length < k:=by
 rw [e,List.length_append] at hT; exact Nat.lt_of_le_of_lt (Nat.le_add_right _ _) hT
theorem len_mid {T d l:List α} {a:α} {k:Nat} (f:α→AVal) (e:T=d ++ a :: l) (hT:T.length < k):(d.map f).length < k:=by
 rw [List.length_map]; exact mid_lt e hT
theorem len_all {T:List α} {k:Nat} (f:α→AVal) (hT:T.length < k):(T.map f).length < k:=by rw [List.length_map]; exact hT
theorem s_if_k {a b:List Stmt} {t:Expr} (k:∀ KN:KS,(∀ loc2 h2,SQ c rest loc2 h2 KK→KN .next loc2 h2)→(∀ v loc2 h2,KK (.ret v) loc2 h2→KN (.ret v) loc2 h2)→T c loc t h fun t' h1=>VI t' (SQ c a loc h1 KN) (SQ c b loc h1 KN)):SQ c (.If t a b p :: rest) loc h KK :=
 s_if (k _ (fun _ _=>k_next) fun _ _ _=>k_ret)
theorem filter_t {st:α→Bool} {d:List α} {a:α} (q:st a=true):(d ++ [a]).filter st=d.filter st ++ [a]:=by rw [List.filter_append,List.filter_cons,q]; rfl
theorem filter_f {st:α→Bool} {d:List α} {a:α} (q:st a=false):(d ++ [a]).filter st=d.filter st:=by rw [List.filter_append,List.filter_cons,q]; exact List.append_nil _
theorem cl_go {elt:Expr} {KL:List AVal→AH→Prop} {g f:α→AVal} {T:List α} (ck:chk h) (step:∀ a∈T,∀ K':KV,K' (f a) h→E c [(x,g a)] elt h K'):∀ (l:List α) (acc:List AVal),(∀ a∈l,a∈T)→KL (acc ++ l.map f) h→CL c x elt chk (l.map g) acc h KL
 | [],acc,_,k=>cl_nil ck (by rw [List.map_nil,List.append_nil] at k; exact k)
 | a :: l,acc,m,k=>cl_cons ck (step a (m a List.mem_cons_self) _ (cl_go ck step l (acc ++ [f a]) (fun b q=>m b (List.mem_cons_of_mem _ q)) (by rw [List.append_assoc]; exact k)))
theorem cl_map {elt:Expr} {KL:List AVal→AH→Prop} (g f:α→AVal) (T:List α) (ck:chk h) (step:∀ a∈T,∀ K':KV,K' (f a) h→E c [(x,g a)] elt h K') (k:KL (T.map f) h):CL c x elt chk (T.map g) [] h KL:=cl_go ck step T [] (fun _ m=>m) k
theorem s_if_j {a b:List Stmt} {t:Expr} (ns:List Str) {P:Loc→AH→Prop} (tl:∀ loc2 h2,Lk ns loc loc2→P loc2 h2→SQ c rest loc2 h2 KK) (k:∀ KN:KS,(∀ loc2 h2,Lk ns loc loc2→P loc2 h2→KN .next loc2 h2)→(∀ v loc2 h2,KK (.ret v) loc2 h2→KN (.ret v) loc2 h2)→T c loc t h fun t' h1=>VI t' (SQ c a loc h1 KN) (SQ c b loc h1 KN)):SQ c (.If t a b p :: rest) loc h KK :=
 s_if (k _ (fun loc2 h2 L q=>k_next (tl loc2 h2 L q)) fun _ _ _=>k_ret)
theorem vi_j {a b:List Stmt} {r:Bool} (ns:List Str) {P:Loc→AH→Prop} (tl:∀ loc2 h2,Lk ns loc loc2→P loc2 h2→SQ c rest loc2 h2 KK) (k:∀ KN:KS,(∀ loc2 h2,Lk ns loc loc2→P loc2 h2→KN .next loc2 h2)→VI r (SQ c a loc h KN) (SQ c b loc h KN)):VI r (SQ c a loc h (TH c rest KK)) (SQ c b loc h (TH c rest KK)) :=
 k _ fun loc2 h2 L q=>k_next (tl loc2 h2 L q)
theorem vi_l {a b:List Stmt} {r:Bool} (k:∀ l0,Lk [] loc l0→VI r (SQ c a l0 h KK) (SQ c b l0 h KK)):VI r (SQ c a loc h KK) (SQ c b loc h KK):=k loc Lk.id
theorem vi_e {e1 e2:Expr} {r:Bool} {K:KV} {v:AVal} (k:K v h) (k1:r=true→∀ K:KV,K v h→E c loc e1 h K) (k2:r=false→∀ K:KV,K v h→E c loc e2 h K):VI r (E c loc e1 h K) (E c loc e2 h K):=⟨fun z=>k1 z K k,fun z=>k2 z K k⟩
theorem lt_le {a b c:Nat} (h:a < b) (e:Nat.ble b c=true):a < c:=Nat.lt_of_lt_of_le h (Nat.le_of_ble_eq_true e)
theorem le_lt {a b c:Nat} (h:a≤b) (e:Nat.blt b c=true):a < c:=Nat.lt_of_le_of_lt h (Nat.le_of_ble_eq_true e)
theorem le_le {a b c:Nat} (h:a≤b) (e:Nat.ble b c=true):a≤c:=Nat.le_trans h (Nat.le_of_ble_eq_true e)
theorem mem_mid {T d l:List α} {a:α} (e:T=d ++ a :: l):a∈T:=e ▸ List.mem_append_right _ List.mem_cons_self
end
end
end
noncomputable section
open PySem PySem.W PyProof.Rows PySem.Calls PySem.Spec PySem.SeqAt
set_option maxHeartbeats 8000000
set_option compiler.extract_closed false
local macro_rules | `(tactic| end_none)=>`(tactic| k_dflt first
 | exact rfl
 | exact fun _ m=>@rfl _ m
 | exact fun _ _ _=>@rfl _ (pure false)
 | exact fun _ x=>@rfl _ (pure x)
 | exact fun o i=>@rfl _ (operate [o,i] (getItem o i)))
local macro_rules | `(tactic| end_str)=>`(tactic| k_dflt first
 | decide
 | omega
 | (simp; omega))
local macro_rules | `(tactic| k_ne)=>`(tactic| with_reducible first
 | assumption
 | exact lk_lput_self _ _ _
 | exact lk_self
 | apply lk_hop; kernel_rfl; k_ne
 | apply Lk.at; assumption; end_none; k_ne
 | exact Lk.id
 | apply Lk.put; k_ne; end_none
 | apply Lk.go; assumption; k_ne; end_none
 | k_dflt exact rfl)
local macro_rules | `(tactic| w_end)=>`(tactic| with_reducible first
 | assumption
 | refine hset_at2 ?_; k_dflt exact rfl
 | refine hset_off ?_ ?_; (first | k_dflt exact rfl | assumption | k_dflt exact (eqb_comm _ _).trans (by assumption)); w_end
 | refine hset_old ?_ ?_; k_dflt assumption; w_end
 | k_dflt assumption
 | k_dflt exact hset_at)
local macro_rules | `(tactic| room)=>`(tactic| first
 | exact inNs_mem rfl
 | exact List.mem_cons_self
 | exact .tail _ List.mem_cons_self
 | exact Nat.le_of_ble_eq_true rfl
 | exact weakB rfl
 | simp)
local macro_rules | `(tactic| kt_at_item)=>`(tactic| with_reducible first
 | apply p_local; end_none; k_ne
 | apply p_int
 | apply p_attr; end_none; kt_at_item; w_end; kernel_rfl; k_ne
 | apply p_sub; end_none; kt_at_item; kt_at_item; kt_at_item
 | apply p_cmp; end_none; kt_at_item; kt_at_item; kt_at_item
 | apply pl_cons; kt_at_item; kt_at_item
 | apply pl_nil
 | apply p_add; kt_at_item; kt_at_item
 | apply p_minus; kt_at_item; kt_at_item
 | apply p_tup; end_none; kt_at_item
 | apply p_str
 | apply p_none
 | apply p_bool
 | apply p_glob; kernel_rfl; end_none
 | apply p_len; end_none; kernel_rfl; end_none; kt_at_item; w_end
 | apply p_neg; kt_at_item
 | apply pt_cmp; end_none; kt_at_item; kt_at_item; kt_at_item
 | apply pt_name; kt_at_item; end_none
 | apply pt_not; kt_at_item
 | apply gp_tup; end_none; end_none; end_none
 | apply gp_list; w_end; end_none; end_none
 | kt_at_get
 | apply cb_eq; end_none
 | apply cb_ne; end_none
 | apply cb_is
 | apply cb_isnot
 | apply cb_lt
 | apply cb_le
 | apply cb_gt
 | apply cb_ge)
local macro_rules | `(tactic| end_int)=>`(tactic| first
 | fail)
local macro_rules | `(tactic| walk)=>`(tactic| with_reducible repeat (first
 | show E _ _ _ _ _; first
  | apply e_local; end_none; k_ne
  | apply e_int
  | apply e_pu; kt_at_item
  | apply e_fnP; kernel_rfl; kernel_rfl; end_none; kernel_rfl; kt_at_item
  | apply e_methP; end_none; end_none; end_none; kt_at_item
  | apply e_clsP; kernel_rfl; kernel_rfl; end_none; kernel_rfl; kt_at_item
  | apply e_attr; end_none
  | apply e_tup; end_none
  | apply e_sub; end_none
  | apply e_meth; end_none; end_none; end_none
  | apply e_fn; kernel_rfl; kernel_rfl; end_none; kernel_rfl
  | apply e_bin
  | apply e_cmp; end_none
  | apply e_str
  | apply e_list; end_none
  | apply e_and
  | apply e_or
  | apply e_and1
  | apply e_or1
  | apply e_if
  | apply e_cls; kernel_rfl; kernel_rfl; end_none; kernel_rfl
  | apply e_blt; end_none; kernel_rfl; end_none
  | apply e_dict0
  | apply e_dict; end_none
  | apply e_slice
  | apply e_comp; end_none; end_none; end_none
  | apply e_cell; end_none; end_none
 | apply el_nil
 | apply el_pu; kt_at_item
 | apply el_cons
 | show SQ _ _ _ _ _; first
  | apply s_asgP; end_none; kernel_rfl; kt_at_item
  | apply s_ifP; kt_at_item
  | apply s_retP; kt_at_item
  | apply s_asgAP; end_none; end_none; kt_at_item; kt_at_item
  | apply s_asgSP; end_none; end_none; kt_at_item; kt_at_item; kt_at_item
  | apply s_augP; kernel_rfl; k_ne; kt_at_item
  | apply s_augAP; kt_at_item; w_end; kernel_rfl; k_ne; kt_at_item
  | apply s_range; end_none; end_none
  | apply s_forP; end_none; kt_at_item
  | apply s_asg; end_none; kernel_rfl
  | apply s_if
  | apply s_expr; end_none
  | apply s_ret
  | apply sq_nil
  | apply s_asgA; end_none; end_none
  | apply s_asgS; end_none; end_none
  | apply s_for; end_none
  | apply s_ret0
 | show T _ _ _ _ _; first
  | apply t_pu; kt_at_item
  | apply t_cmp; end_none
  | apply t_call
  | apply t_bin
  | apply t_not
  | apply t_and
  | apply t_or
  | apply t_and0
  | apply t_or0
 | apply k_next
 | apply k_ret
 | apply r_ret
 | apply r_next
 | apply f_next
 | apply w_next
 | apply nk
 | apply o_none
 | apply o_some
 | apply dv_cons
 | apply dv_nil
 | apply dk; end_none
 | end_int
 | apply ga; w_end; kernel_rfl; k_ne
 | apply tv_bool
 | apply vi_t; end_none
 | apply vi_f; end_none
 | apply cm_eq; end_none
 | apply cm_ne; end_none
 | apply mc_instP; w_end; end_none; kernel_rfl; kernel_rfl; kernel_rfl; kt_at_item
 | apply mc_inst; w_end; end_none; kernel_rfl; kernel_rfl; kernel_rfl
 | apply mc_list; w_end; end_none
 | apply mc_dict; w_end; end_none
 | apply sa2; kernel_rfl; end_none
 | apply sa; w_end; kernel_rfl; end_none
 | apply gi_tup; end_none; end_none; end_none
 | apply bi_add
 | apply bi_sub
 | apply au_add
 | apply cm_gt
 | apply cm_ge
 | apply tv_int
 | apply tv_none
 | apply bl_len_list; w_end
 | apply bl_len_tup; end_str
 | apply it_list; w_end
 | apply gi_list; w_end; end_none; end_none
 | apply gi_dict; w_end; end_none; end_none
 | apply me_append2; end_str
 | apply me_append; w_end; end_str
 | apply it_tup; end_str))
section
variable {w:World} {H0:Heap} {m:Nat} {h:AH} {K:KV}
section
noncomputable def FinT (h:AH):Prop:=∃ B,∀ j,B≤j→h (.t j)=none∧∀ k,h (.g k j)=none
theorem FinT.set {h:AH} {n:Nm} {o:AObj} (f:FinT h):FinT (hset h n o):=by
 obtain ⟨B,hB⟩:=f
 have go:∀ b,(∀ j,b≤j→n≠.t j∧∀ k,n≠.g k j)→FinT (hset h n o):=fun b q=>⟨max B b,fun j hj=>by
  have h1:=q j (by omega)
  have h2:=hB j (by omega)
  refine ⟨?_,fun k=>?_⟩
  ·rw [hset_ne (Ne.symm h1.1)]; exact h2.1
  ·rw [hset_ne (Ne.symm (h1.2 k))]; exact h2.2 k⟩
 cases n with
 | t i=>exact go (i + 1) fun j hj=>⟨fun e=>(by cases e; omega),fun k e=>(by cases e)⟩
 | g k e=>exact go (e + 1) fun j hj=>⟨fun e=>(by cases e),fun k e=>(by cases e; omega)⟩
 | s k=>exact go 0 fun j hj=>⟨fun e=>(by cases e),fun k e=>(by cases e)⟩
 | th k=>exact go 0 fun j hj=>⟨fun e=>(by cases e),fun k e=>(by cases e)⟩
 | sl k=>exact go 0 fun j hj=>⟨fun e=>(by cases e),fun k e=>(by cases e)⟩
theorem FinT.new {h:AH} (f:FinT h):∃ j,h (.t j)=none:=let ⟨B,hB⟩:=f; ⟨B,(hB B (Nat.le_refl _)).1⟩
theorem FinT.newG {h:AH} (f:FinT h) (k:Nat):∃ j,h (.g k j)=none:=let ⟨B,hB⟩:=f; ⟨B,(hB B (Nat.le_refl _)).2 k⟩
theorem k_words_for (hm:2≤m) (k:K (.int 3) h):CF w H0 m f_words_for [.int 1] h K:=by
 refine cf_run (dN hm rfl) rfl rfl rfl rfl ?_
 walk
 all_goals exact k
theorem k_Thing (hm:4≤m) {n sl:Nm} {addr kind:Int} {v:AVal} (hs:h sl=some (.list [v])) (hne:Nm.eqb sl n=false) (k:K .none (hset h n (.inst c_Thing [("addr",.int addr),("kind",.int kind),("slots",.ref sl),("gen",.int 0),("size",.int 3),("serial",.int 0)]))):CF w H0 m f_Thing___init__ [.ref n,.int addr,.int kind,.ref sl] (hset h n (.inst c_Thing [])) K:=by
 refine cf_run (dN hm rfl) rfl rfl rfl rfl ?_
 walk
 refine k_words_for (dM hm rfl) ?_
 walk
 all_goals exact k
noncomputable def heapO (things at_ cards finals:Nm) (top limit fresh young moved made:Int):AObj:=.inst c_Heap [("things",.ref things),("at",.ref at_),("top",.int top),("limit",.int limit),("cards",.ref cards),("card_bits",.int 3),("fresh",.int fresh),("young_limit",.int young),("finals",.ref finals),("ready",.ref (.s 13)),("moved",.int moved),("made",.int made)]
theorem k_used_words (hm:2≤m) {a b c d:Nm} {t l f y mv md:Int} (hh:h (.s 12)=some (heapO a b c d t l f y mv md)) (k:K (.int (t - 16)) h):CF w H0 m f_used_words [.ref (.s 12)] h K:=by
 unfold heapO at hh
 refine cf_run (dN hm rfl) rfl rfl rfl rfl ?_
 walk
 all_goals exact k
noncomputable def wantsV (t l f y:Int):Int:=if t - 16 ≥ l then 3 else if f ≥ y then 1 else 0
theorem k_wants (hm:4≤m) {a b c d:Nm} {t l f y mv md:Int} (hh:h (.s 12)=some (heapO a b c d t l f y mv md)) (k:K (.int (wantsV t l f y)) h):CF w H0 m f_wants [.ref (.s 12)] h K:=by
 refine cf_run (dN hm rfl) rfl rfl rfl rfl ?_
 walk
 refine k_used_words (dM hm rfl) hh ?_
 unfold heapO at hh
 unfold wantsV at k
 walk
 refine vi (fun e=>?_) fun e=>?_
 ·rw [if_pos (of_decide_eq_true e)] at k
  walk
  all_goals exact k
 ·rw [if_neg (of_decide_eq_false e)] at k
  walk
  refine vi (fun e=>?_) fun e=>?_
  ·rw [if_pos (of_decide_eq_true e)] at k
   walk
   all_goals exact k
  ·rw [if_neg (of_decide_eq_false e)] at k
   walk
   all_goals exact k
theorem k_refs_in (hm:2≤m) {t:Int} {r:List AVal} (h4:decide (t=4)=false) (h5:decide (t=5)=false) (fin:FinT h) (k:∀ j,h (.t j)=none→K (.ref (.t j)) (hset h (.t j) (.list []))):CF w H0 m f_refs_in [.tup (.int t :: r)] h K:=by
 refine cf_run (dN hm rfl) rfl rfl rfl rfl ?_
 walk
 refine vi_f h4 ?_
 walk
 refine vi_t (by rw [show pq (PyData.int t) (PyData.int 5)=false from h5]; rfl) ?_
 walk
 obtain ⟨j,hj⟩:=fin.new
 refine no_list (.t j) (by room) hj ?_
 walk
 exact k j hj
theorem k_words_of_ref (hm:2≤m) {a:Int} (fin:FinT h) (k:∀ j,h (.t j)=none→K (.ref (.t j)) (hset h (.t j) (.list [.int a]))):CF w H0 m f_words_of [.tup [.int 4,.int a]] h K:=by
 refine cf_run (dN hm rfl) rfl rfl rfl rfl ?_
 walk
 obtain ⟨j,hj⟩:=fin.new
 refine no_list (.t j) (by room) hj ?_
 walk
 exact k j hj
theorem k_words_of (hm:4≤m) {t:Int} {r:List AVal} (h4:decide (t=4)=false) (h5:decide (t=5)=false) (h6:decide (t=6)=false) (fin:FinT h) (k:∀ j,h (.t j)=none→K (.ref (.t j)) (hset h (.t j) (.list []))):CF w H0 m f_words_of [.tup (.int t :: r)] h K:=by
 refine cf_run (dN hm rfl) rfl rfl rfl rfl ?_
 walk
 refine vi_f h4 ?_
 walk
 refine vi_f h6 ?_
 walk
 refine k_refs_in (dM hm rfl) h4 h5 fin fun j hj=>?_
 walk
 exact k j hj
set_option genSizeOf false in
inductive SV where
 | txt (s:Str) | knd (k:Int)
noncomputable def SV.enc:SV→AVal
 | .txt s=>.tup [.int 8,.str s]
 | .knd k=>.tup [.int 1,.int k]
noncomputable def SV.kind:SV→Int
 | .txt _=>13
 | .knd _=>16
set_option genSizeOf false in
set_option genInjectivity false in
structure Th where
 ser:Nat
 gen:Int
 val:SV
set_option genSizeOf false in
inductive HV where
 | ref (s:Nat) | raw (b:Bool) (n:Int)
noncomputable def thO (a:Int) (t:Th):AObj:=.inst c_Thing [("addr",.int a),("kind",.int t.val.kind),("slots",.ref (.sl t.ser)),("gen",.int t.gen),("size",.int 3),("serial",.int t.ser)]
noncomputable def ThsAt (h:AH):Int→List Th→Prop
 | _,[]=>True
 | a,t :: r=>(h (.th t.ser)=some (thO a t)∧h (.sl t.ser)=some (.list [t.val.enc]))∧ThsAt h (a + 3) r
noncomputable def refs (ts:List Th):List AVal:=ts.map fun t=>.ref (.th t.ser)
noncomputable def atL:Int→List Th→List (AVal×AVal)
 | _,[]=>[]
 | a,t :: r=>(.int a,.ref (.th t.ser)) :: atL (a + 3) r
noncomputable def addrOf:Int→List Th→Nat→Int
 | _,[],_=>0
 | a,t :: r,s=>if t.ser=s then a else addrOf (a + 3) r s
noncomputable def ra (ts:List Th) (s:Nat):Int:=if s=0 then 0 else addrOf 16 ts s
noncomputable def HV.enc (ts:List Th):HV→AVal
 | .ref s=>.tup [.int 4,.int (ra ts s)]
 | .raw true n=>.tup [.int 1,.int n]
 | .raw false n=>.tup [.int 3,.int n]
theorem keyEq_int (a b:Int):keyEq (.int a) (.int b)=decide (a=b):=by
 show pq (PyData.int a) (PyData.int b)=_
 unfold pq; rfl
theorem dlk_int (a b:Int) (v:AVal) (r:List (AVal×AVal)):dlk (.int a) ((.int b,v) :: r)=if b=a then some v else dlk (.int a) r:=by
 rw [dlk,keyEq_int]
 by_cases e:b=a
 ·simp [e]
 ·simp [e]
theorem dput_int (a b:Int) (u v:AVal) (r:List (AVal×AVal)):dput (.int a) u ((.int b,v) :: r)=if b=a then (.int b,u) :: r else (.int b,v) :: dput (.int a) u r:=by
 rw [dput,keyEq_int]
 by_cases e:b=a
 ·simp [e]
 ·simp [e]
noncomputable def Apart:List Th→Prop
 | []=>True
 | t :: r=>t.ser≠0∧(∀ u∈r,u.ser≠t.ser)∧Apart r
theorem addrOf_ge:∀ {a:Int} {ts:List Th} {s:Nat},(∃ t∈ts,t.ser=s)→a≤addrOf a ts s
 | _,[],_,z=>Exists.elim z fun _ z=>absurd z.1 List.not_mem_nil
 | a,t :: r,s,z=>by
  obtain ⟨u,m,e⟩:=z
  rw [addrOf]
  split
  ·omega
  ·rename_i ne
   rcases List.mem_cons.mp m with rfl | m
   ·exact absurd e ne
   ·have:=addrOf_ge (a:=a + 3) (ts:=r) (s:=s) ⟨u,m,e⟩
    omega
theorem at_look:∀ {a:Int} {ts:List Th} {s:Nat},Apart ts→(∃ t∈ts,t.ser=s)→dlk (.int (addrOf a ts s)) (atL a ts)=some (.ref (.th s))
 | _,[],_,_,z=>Exists.elim z fun _ z=>absurd z.1 List.not_mem_nil
 | a,t :: r,s,ap,z=>by
  obtain ⟨u,m,e⟩:=z
  rw [addrOf,atL]
  by_cases q:t.ser=s
  ·rw [if_pos q,dlk_int,if_pos rfl,q]
  ·rw [if_neg q,dlk_int]
   have mr:∃ t∈r,t.ser=s:=by
    rcases List.mem_cons.mp m with rfl | m
    ·exact absurd e q
    ·exact ⟨u,m,e⟩
   have ge:=addrOf_ge (a:=a + 3) mr
   rw [if_neg (by omega)]
   exact at_look ap.2.2 mr
theorem ths_at:∀ {h:AH} {a:Int} {ts:List Th} {t:Th},Apart ts→ThsAt h a ts→t∈ts→h (.th t.ser)=some (thO (addrOf a ts t.ser) t)∧h (.sl t.ser)=some (.list [t.val.enc])
 | _,_,[],_,_,_,m=>absurd m List.not_mem_nil
 | h,a,u :: r,t,ap,x,m=>by
  rw [addrOf]
  rcases List.mem_cons.mp m with rfl | m
  ·rw [if_pos rfl]; exact x.1
  ·rw [if_neg fun e=>ap.2.1 t m e.symm]
   exact ths_at ap.2.2 x.2 m
noncomputable def nin (n:Nm):List Nm→Bool
 | []=>true
 | m :: r=>!(Nm.eqb n m) && nin n r
noncomputable def isT:Nm→Bool
 | .t _=>true
 | _=>false
structure Fw (ms:List Nm) (h h':AH):Prop where
 old:∀ n o,nin n ms=true→h n=some o→h' n=some o
 nt:∀ n,isT n=false→nin n ms=true→h' n=h n
 fin:FinT h'
theorem Fw.refl {ms:List Nm} {h:AH} (f:FinT h):Fw ms h h:=⟨fun _ _ _ e=>e,fun _ _ _=>rfl,f⟩
theorem Fw.trans {ms:List Nm} {h h1 h2:AH} (x:Fw ms h h1) (y:Fw ms h1 h2):Fw ms h h2:=⟨fun n o i e=>y.old n o i (x.old n o i e),fun n a b=>(y.nt n a b).trans (x.nt n a b),y.fin⟩
theorem Fw.new {ms:List Nm} {h h1:AH} {j:Nat} {o:AObj} (x:Fw ms h h1) (e:h1 (.t j)=none):Fw ms h (hset h1 (.t j) o) :=
 ⟨fun n o' i q=>hset_old e (x.old n o' i q),fun n a b=>(by
  rw [hset_ne]; exact x.nt n a b
  rintro rfl; cases a),x.fin.set⟩
theorem no_new {h:AH} {l:List AVal} {K:KV} (fin:FinT h) (hl:l.length≤1000000) (k:∀ j h',h (.t j)=none→Fw [] h h'→h' (.t j)=some (.list l)→K (.ref (.t j)) h'):NO (.list l) h K :=
 let ⟨j,hj⟩:=fin.new
 no_list (.t j) hl hj (k j _ hj ((Fw.refl fin).new hj) hset_at)
theorem me_get2s {h:AH} {n:Nm} {d:List (AVal×AVal)} {y z v:AVal} {K:KV} (hn:h n=some (.dict d)) (h1:isKey y=true) (e:dlk y d=some v) (k:K v h):ME n "get" [y,z] h K:=me_get2 hn h1 (by rw [e]; exact k)
theorem nin_ne {n m:Nm}:∀ {ms:List Nm},nin n ms=true→m∈ms→n≠m
 | a :: r,e,q=>by
  unfold nin at e
  obtain ⟨e1,e2⟩:=Bool.and_eq_true_iff.mp e
  rcases List.mem_cons.mp q with rfl | q
  ·rintro rfl
   rw [Nm.eqb_self] at e1; cases e1
  ·exact nin_ne e2 q
theorem Fw.set {ms:List Nm} {h h1:AH} {n:Nm} {o:AObj} (x:Fw ms h h1) (i:n∈ms):Fw ms h (hset h1 n o) :=
 ⟨fun m o' j q=>by rw [hset_ne (nin_ne j i)]; exact x.old m o' j q,fun m a b=>by rw [hset_ne (nin_ne b i)]; exact x.nt m a b,x.fin.set⟩
theorem nin_sub {n:Nm}:∀ {ms ms':List Nm},(∀ m∈ms,m∈ms')→nin n ms'=true→nin n ms=true
 | [],_,_,_=>rfl
 | a :: r,ms',k,e=>by
  unfold nin
  rw [Nm.eqb_ne (nin_ne e (k a List.mem_cons_self)),nin_sub (fun m q=>k m (List.mem_cons_of_mem _ q)) e]; rfl
theorem Fw.weak {ms ms':List Nm} {h h1:AH} (x:Fw ms h h1) (k:∀ m∈ms,m∈ms'):Fw ms' h h1 :=
 ⟨fun n o i e=>x.old n o (nin_sub k i) e,fun n a i=>x.nt n a (nin_sub k i),x.fin⟩
theorem Fw.less {ms:List Nm} {h h1:AH} {j:Nat} (e:h (.t j)=none) (x:Fw (.t j :: ms) h h1):Fw ms h h1 :=
 ⟨fun n o i q=>x.old n o (by
  unfold nin
  rw [Nm.eqb_ne (by rintro rfl; rw [e] at q; cases q),i]; rfl) q,fun n a i=>x.nt n a (by
  unfold nin
  rw [Nm.eqb_ne (by rintro rfl; cases a),i]; rfl),x.fin⟩
section
inductive MkHp (h:AH) (ts:List Th):Prop
 | mk (a b c d:Nm) (t l f y mv md:Int) (h1:h (.s 12)=some (heapO a b c d t l f y mv md)) (h2:h b=some (.dict (atL 16 ts))) (h3:isT b=false) (h4:h a=some (.list (refs ts))) (h5:isT a=false) (h6:h c=some (.dict [])) (h7:isT c=false)
structure MkAt (h:AH) (ts:List Th):Prop where
 hp:MkHp h ts
 ths:ThsAt h 16 ts
 ap:Apart ts
theorem ThsAt.mono {h h':AH} (k:∀ n o,isT n=false→h n=some o→h' n=some o):∀ {a:Int} {ts:List Th},ThsAt h a ts→ThsAt h' a ts
 | _,[],_=>trivial
 | _,_ :: _,x=>⟨⟨k _ _ rfl x.1.1,k _ _ rfl x.1.2⟩,ThsAt.mono k x.2⟩
theorem MkAt.mono {h h':AH} {ts:List Th} (x:MkAt h ts) (k:∀ n o,isT n=false→h n=some o→h' n=some o):MkAt h' ts:=by
 obtain ⟨⟨a,b,c,d,t,l,f,y,mv,md,h1,h2,h3,h4,h5,h6,h7⟩,h8,h9⟩:=x
 exact ⟨⟨a,b,c,d,t,l,f,y,mv,md,k _ _ rfl h1,k _ _ h3 h2,h3,k _ _ h5 h4,h5,k _ _ h7 h6,h7⟩,h8.mono k,h9⟩
noncomputable def mkM (ts:List Th) (MK:List Nat):List (AVal×AVal):=MK.map fun s=>(.int (addrOf 16 ts s),.int 1)
noncomputable def mkW (MK:List Nat):List AVal:=MK.map fun s=>.ref (.th s)
end
end
theorem wh_lk {c:Cx} {KK:KS} {p:Pos} {rest body:List Stmt} {t:Expr} {σ:Type} {loc:Loc} (ns:List Str) (r:σ→Nat) {I:σ→AH→Prop}
  (step:∀ s loc1 h1 j,Lk ns loc loc1→I s h1→(∀ s' loc2 h2,r s' < r s→Lk ns loc loc2→I s' h2→WH c t body rest KK j loc2 h2)→T c loc1 t h1 (fun b h2=>VI b (SQ c body loc1 h2 (WK c t body rest KK j)) (SQ c rest loc1 h2 KK)))
  (s:σ) (i:I s h):SQ c (.While t body [] p :: rest) loc h KK :=
 s_while ⟨r s + 1,@Nat.rec (fun j=>∀ s loc1 h1,r s < j→Lk ns loc loc1→I s h1→WH c t body rest KK j loc1 h1) (fun _ _ _ e _ _=>absurd e (Nat.not_lt_zero _))
  (fun j ih s loc1 h1 e L i=>wh_step (step s loc1 h1 j L i fun s' loc2 h2 e' L' i'=>ih s' loc2 h2 (Nat.lt_of_lt_of_le e' (Nat.le_of_lt_succ e)) L' i')) _ s loc h (Nat.lt_succ_self _) (fun _ _ _ e=>e) i⟩
theorem hset_same {n:Nm} {o:AObj} (e:h n=some o):hset h n o=h:=by
 funext m
 rcases nm_cases m n with rfl | ne
 ·rw [hset_self,e]
 ·rw [hset_ne ne]
noncomputable def genOf:List Th→Nat→Int
 | [],_=>0
 | t :: r,s=>if t.ser=s then t.gen else genOf r s
noncomputable def pushS (ts:List Th) (g:Int) (MK:List Nat) (s:Nat):List Nat:=if s=0∨g < genOf ts s∨s∈MK then MK else MK ++ [s]
theorem addr_inj:∀ {a:Int} {ts:List Th} {s s':Nat},Apart ts→(∃ t∈ts,t.ser=s)→(∃ t∈ts,t.ser=s')→addrOf a ts s=addrOf a ts s'→s=s'
 | _,[],_,_,_,z,_,_=>Exists.elim z fun _ z=>absurd z.1 List.not_mem_nil
 | a,t :: r,s,s',ap,x,y,e=>by
  obtain ⟨u,m,e1⟩:=x
  obtain ⟨v,m',e2⟩:=y
  have mr:∀ {s:Nat} {u:Th},u∈t :: r→u.ser=s→t.ser≠s→∃ t∈r,t.ser=s:=fun {s u} m5 e5 n5=>by
   rcases List.mem_cons.mp m5 with q5 | m5
   ·rw [q5] at e5; exact absurd e5 n5
   ·exact ⟨_,m5,e5⟩
  rw [addrOf,addrOf] at e
  by_cases q:t.ser=s
  ·rw [if_pos q] at e
   by_cases q':t.ser=s'
   ·exact q.symm.trans q'
   ·rw [if_neg q'] at e
    have:=addrOf_ge (a:=a + 3) (mr m' e2 q')
    omega
  ·rw [if_neg q] at e
   by_cases q':t.ser=s'
   ·rw [if_pos q'] at e
    have:=addrOf_ge (a:=a + 3) (mr m e1 q)
    omega
   ·rw [if_neg q'] at e
    exact addr_inj ap.2.2 (mr m e1 q) (mr m' e2 q') e
noncomputable def In (ts:List Th) (s:Nat):Prop:=∃ t∈ts,t.ser=s
theorem mk_look {ts:List Th} {s:Nat} (ap:Apart ts) (hs:In ts s):∀ {MK:List Nat},(∀ s∈MK,In ts s)→(dlk (.int (addrOf 16 ts s)) (mkM ts MK)).isSome=decide (s∈MK)
 | [],_=>by simp [mkM,dlk]
 | a :: r,k=>by
  show (dlk _ ((.int (addrOf 16 ts a),.int 1) :: mkM ts r)).isSome=_
  rw [dlk_int]
  by_cases q:a=s
  ·subst q; simp
  ·rw [if_neg fun e=>q (addr_inj ap (k a List.mem_cons_self) hs e),mk_look ap hs fun s m=>k s (List.mem_cons_of_mem _ m)]
   simp [Ne.symm q]
theorem mk_put {ts:List Th} {s:Nat} (ap:Apart ts) (hs:In ts s):∀ {MK:List Nat},(∀ s∈MK,In ts s)→s∉MK→dput (.int (addrOf 16 ts s)) (.int 1) (mkM ts MK)=mkM ts (MK ++ [s])
 | [],_,_=>by simp [mkM,dput]
 | a :: r,k,n=>by
  show dput _ _ ((.int (addrOf 16 ts a),.int 1) :: mkM ts r)=_
  rw [dput_int,if_neg fun e=>n (by rw [addr_inj ap (k a List.mem_cons_self) hs e]; exact List.mem_cons_self),mk_put ap hs (fun s m=>k s (List.mem_cons_of_mem _ m)) fun q=>n (List.mem_cons_of_mem _ q)]
  rfl
theorem pushS_in {ts:List Th} {g:Int} {MK:List Nat} {s:Nat} (hs:s=0∨In ts s) (k:∀ s∈MK,In ts s):∀ s'∈pushS ts g MK s,In ts s':=by
 intro s' m
 unfold pushS at m
 split at m
 ·exact k _ m
 ·rename_i n
  rcases List.mem_append.mp m with m | m
  ·exact k _ m
  ·rw [List.mem_singleton.mp m]
   exact hs.elim (fun e=>absurd (Or.inl e) n) id
theorem genOf_at:∀ {ts:List Th} {t:Th},Apart ts→t∈ts→genOf ts t.ser=t.gen
 | u :: r,t,ap,m=>by
  rw [genOf]
  rcases List.mem_cons.mp m with rfl | m
  ·rw [if_pos rfl]
  ·rw [if_neg fun e=>ap.2.1 t m e.symm]
   exact genOf_at ap.2.2 m
theorem k_find (hm:2≤m) {ts:List Th} {s:Nat} (M:MkAt h ts) (hs:In ts s) (k:K (.ref (.th s)) h):CF w H0 m f_find_thing [.ref (.s 12),.int (addrOf 16 ts s)] h K:=by
 obtain ⟨⟨a,b,c,d,t,l,f,y,mv,md,h1,h2,h3,h4,h5,h6,h7⟩,h8,h9⟩:=M
 unfold heapO at h1
 refine cf_run (dN hm rfl) rfl rfl rfl rfl ?_
 walk
 refine me_get h2 rfl ?_
 rw [at_look h9 hs]
 walk
 all_goals exact k
theorem k_push_word (hm:4≤m) {ts:List Th} {s:Nat} {g:Int} {MK:List Nat} {mk wk:Nm} (M:MkAt h ts) (hs:s=0∨In ts s) (hMK:∀ s∈MK,In ts s) (e1:h mk=some (.dict (mkM ts MK))) (e2:h wk=some (.list (mkW MK))) (ne:Nm.eqb wk mk=false) (hl:MK.length < 1000)
  (k:K .none (hset (hset h mk (.dict (mkM ts (pushS ts g MK s)))) wk (.list (mkW (pushS ts g MK s))))):CF w H0 m f_push_word [.ref (.s 12),.int (ra ts s),.int g,.ref mk,.ref wk] h K:=by
 refine cf_run (dN hm rfl) rfl rfl rfl rfl ?_
 unfold pushS at k
 by_cases h0:s=0
 ·subst h0
  rw [if_pos (.inl rfl),hset_same e1,hset_same e2] at k
  rw [show ra ts 0=0 from rfl]
  walk
  all_goals exact k
 ·have hs:=hs.elim (fun e=>absurd e h0) id
  have hra:ra ts s=addrOf 16 ts s:=if_neg h0
  have ge:=addrOf_ge (a:=16) hs
  rw [hra]
  walk
  refine vi_f (by show decide (_=(0:Int))=false; simp; omega) ?_
  walk
  refine k_find (dM hm rfl) M hs ?_
  obtain ⟨t,mt,rfl⟩:=hs
  have tt:=(ths_at M.ap M.ths mt).1
  unfold thO at tt
  walk
  rw [genOf_at M.ap mt] at k
  refine vi (fun e=>?_) fun e=>?_
  ·rw [if_pos (.inr (.inl (of_decide_eq_true e))),hset_same e1,hset_same e2] at k
   walk
   all_goals exact k
  ·walk
   refine cm_in_dict e1 rfl ?_
   rw [mk_look M.ap ⟨t,mt,rfl⟩ hMK]
   walk
   refine vi (fun q=>?_) fun q=>?_
   ·rw [if_pos (.inr (.inr (of_decide_eq_true q))),hset_same e1,hset_same e2] at k
    walk
    all_goals exact k
   ·rw [if_neg (by rintro (q' | q' | q'); exact h0 q'; exact of_decide_eq_false e q'; exact of_decide_eq_false q q')] at k
    walk
    refine si_dict e1 rfl (by simp [mkM]; omega) ?_
    rw [mk_put M.ap ⟨t,mt,rfl⟩ hMK (of_decide_eq_false q)]
    walk
    refine me_append (hset_off ne e2) (by simp [mkW]; omega) ?_
    rw [show mkW MK ++ [.ref (.th t.ser)]=mkW (MK ++ [t.ser]) by simp [mkW]]
    walk
    all_goals exact k
theorem MkAt.fw {h h':AH} {ts:List Th} {ms:List Nm} (x:MkAt h ts) (f:Fw ms h h') (k:∀ m∈ms,isT m=true):MkAt h' ts :=
 x.mono fun n o a e=>f.old n o (by
  have go:∀ l:List Nm,(∀ m∈l,isT m=true)→nin n l=true:=by
   intro l
   induction l with
   | nil=>intro _; rfl
   | cons b l ih =>
    intro q
    unfold nin
    have:n≠b:=by
     rintro rfl
     have:=q n List.mem_cons_self
     rw [a] at this; cases this
    rw [Nm.eqb_ne this,ih fun m mm=>q m (List.mem_cons_of_mem _ mm)]; rfl
  exact go ms k) e
theorem k_push_value0 (hm:6≤m) {t:Int} {r:List AVal} {g:AVal} {mk wk:AVal} (h4:decide (t=4)=false) (h5:decide (t=5)=false) (h6:decide (t=6)=false) (fin:FinT h) (k:∀ h',Fw [] h h'→K .none h'):CF w H0 m f_push_value [.ref (.s 12),.tup (.int t :: r),g,mk,wk] h K:=by
 refine cf_run (dN hm rfl) rfl rfl rfl rfl ?_
 walk
 refine k_words_of (dM hm rfl) h4 h5 h6 fin fun j hj=>?_
 walk
 refine fr_nil hset_at ?_
 walk
 exact k _ ((Fw.refl fin).new hj)
theorem k_push_valueR (hm:6≤m) {ts:List Th} {s:Nat} {g:Int} {MK:List Nat} {mk wk:Nm} (fin:FinT h) (M:MkAt h ts) (hs:s=0∨In ts s) (hMK:∀ s∈MK,In ts s) (e1:h mk=some (.dict (mkM ts MK))) (e2:h wk=some (.list (mkW MK))) (ne:Nm.eqb wk mk=false) (hl:MK.length < 1000)
  (k:∀ h',Fw [mk,wk] h h'→h' mk=some (.dict (mkM ts (pushS ts g MK s)))→h' wk=some (.list (mkW (pushS ts g MK s)))→K .none h'):CF w H0 m f_push_value [.ref (.s 12),.tup [.int 4,.int (ra ts s)],.int g,.ref mk,.ref wk] h K:=by
 refine cf_run (dN hm rfl) rfl rfl rfl rfl ?_
 walk
 refine k_words_of_ref (dM hm rfl) fin fun j hj=>?_
 have f1:Fw [] h (hset h (.t j) (.list [.int (ra ts s)])):=(Fw.refl fin).new hj
 have nj:∀ {n o},h n=some o→Nm.eqb (.t j) n=false:=fun e=>Nm.eqb_ne (by rintro rfl; rw [hj] at e; cases e)
 have M1:=M.fw f1 (by room)
 have e1':=f1.old _ _ rfl e1
 have e2':=f1.old _ _ rfl e2
 have n1:=nj e1
 have n2:=nj e2
 walk
 refine fr_cons hset_at rfl ?_
 walk
 refine k_push_word (dM hm rfl) M1 hs hMK e1' e2' ne hl ?_
 walk
 refine fr_nil (by w_end) ?_
 walk
 refine k _ (((f1.weak (by room)).set (by room)).set (by room)) ?_ ?_
 ·exact hset_off ((eqb_comm _ _).trans ne) hset_at
 ·exact hset_at
noncomputable def pushV (ts:List Th) (g:Int) (MK:List Nat):HV→List Nat
 | .ref s=>pushS ts g MK s
 | .raw _ _=>MK
noncomputable def HvOk (ts:List Th):HV→Prop
 | .ref s=>s=0∨In ts s
 | .raw _ _=>True
theorem k_push_value (hm:6≤m) {ts:List Th} {v:HV} {g:Int} {MK:List Nat} {mk wk:Nm} (fin:FinT h) (M:MkAt h ts) (hs:HvOk ts v) (hMK:∀ s∈MK,In ts s) (e1:h mk=some (.dict (mkM ts MK))) (e2:h wk=some (.list (mkW MK))) (ne:Nm.eqb wk mk=false) (hl:MK.length < 1000)
  (k:∀ h',Fw [mk,wk] h h'→h' mk=some (.dict (mkM ts (pushV ts g MK v)))→h' wk=some (.list (mkW (pushV ts g MK v)))→K .none h'):CF w H0 m f_push_value [.ref (.s 12),v.enc ts,.int g,.ref mk,.ref wk] h K:=by
 cases v with
 | ref s=>exact k_push_valueR hm fin M hs hMK e1 e2 ne hl k
 | raw b n =>
  cases b with
  | true=>exact k_push_value0 hm rfl rfl rfl fin fun h' f=>k h' (f.weak (by room)) (f.old _ _ rfl e1) (f.old _ _ rfl e2)
  | false=>exact k_push_value0 hm rfl rfl rfl fin fun h' f=>k h' (f.weak (by room)) (f.old _ _ rfl e1) (f.old _ _ rfl e2)
theorem k_push_slot (hm:6≤m) {v:SV} {g:AVal} {mk wk:AVal} (fin:FinT h) (k:∀ h',Fw [] h h'→K .none h'):CF w H0 m f_push_value [.ref (.s 12),v.enc,g,mk,wk] h K:=by
 cases v with
 | txt s=>exact k_push_value0 hm rfl rfl rfl fin k
 | knd n=>exact k_push_value0 hm rfl rfl rfl fin k
theorem k_drain (hm:8≤m) {ts:List Th} {g:AVal} {mk:AVal} {wk:Nm} {W:List Nat} (fin:FinT h) (M:MkAt h ts) (hW:∀ s∈W,In ts s) (e:h wk=some (.list (mkW W))) (hT:isT wk=true) (k:∀ h',Fw [wk] h h'→h' wk=some (.list [])→K .none h'):CF w H0 m f_drain [.ref (.s 12),.ref wk,g,mk] h K:=by
 refine cf_run (dN hm rfl) rfl rfl rfl rfl ?_
 refine wh_lk ["thing","value"] List.length (I:=fun W h1=>A3 (∀ s∈W,In ts s) (Fw [wk] h h1) (h1 wk=some (.list (mkW W)))) (fun W loc h1 j L i hk=>?_) W ⟨hW,Fw.refl fin,e⟩
 obtain ⟨hW,F,e⟩:=i
 rcases List.eq_nil_or_concat W with rfl | ⟨W0,s,rfl⟩
 ·walk
  exact k _ F e
 ·rw [List.concat_eq_append] at hk hW e
  rw [show mkW (W0 ++ [s])=mkW W0 ++ [.ref (.th s)] from List.map_append] at e
  walk
  refine vi_t (decide_eq_true (by rw [List.length_append]; exact Int.ofNat_lt.mpr (Nat.succ_pos _))) ?_
  have M1:=M.fw F (by simp [hT])
  obtain ⟨t,mt,rfl⟩:=hW s (List.mem_append_right _ List.mem_cons_self)
  obtain ⟨t1,t2⟩:=ths_at M1.ap M1.ths mt
  have nw:Nm.eqb (.th t.ser) wk=false:=Nm.eqb_ne (by rintro rfl; exact ft hT)
  have nw2:Nm.eqb (.sl t.ser) wk=false:=Nm.eqb_ne (by rintro rfl; exact ft hT)
  unfold thO at t1
  walk
  refine me_pop e ?_
  walk
  have F1:Fw [wk] h (hset h1 wk (.list (mkW W0))):=F.set (by room)
  refine fr_cons (by w_end) rfl ?_
  walk
  refine k_push_slot (dM hm rfl) F1.fin fun h' F'=>?_
  have t2':=F'.old _ _ rfl (hset_off nw2 t2)
  have e':=F'.old _ _ rfl (hset_at (n:=wk))
  walk
  refine fr_nil t2' ?_
  walk
  exact hk W0 _ _ (by rw [List.length_append]; exact Nat.lt_succ_self _) (by k_ne) ⟨fun s m=>hW s (List.mem_append_left _ m),F1.trans (F'.weak (by room)),e'⟩
theorem k_slot_word (hm:2≤m) {n:Nm} {a i:Int} {t:Th} (e:h n=some (thO a t)) (k:K (.int (a + 2 + i)) h):CF w H0 m f_slot_word [.ref n,.int i] h K:=by
 unfold thO at e
 refine cf_run (dN hm rfl) rfl rfl rfl rfl ?_
 walk
 all_goals exact k
theorem k_card_number (hm:2≤m) {a b c d:Nm} {t l f y mv md i:Int} (hh:h (.s 12)=some (heapO a b c d t l f y mv md)) (k:∀ j,K (.int j) h):CF w H0 m f_card_number [.ref (.s 12),.int i] h K:=by
 unfold heapO at hh
 refine cf_run (dN hm rfl) rfl rfl rfl rfl ?_
 walk
 refine bi_shr (by decide) ?_
 walk
 all_goals exact k _
theorem k_old_slots (hm:6≤m) {ts:List Th} {g:Int} (fin:FinT h) (M:MkAt h ts) (k:∀ h' j,Fw [] h h'→h (.t j)=none→h' (.t j)=some (.list [])→K (.ref (.t j)) h'):CF w H0 m f_old_slots [.ref (.s 12),.int g] h K:=by
 refine cf_run (dN hm rfl) rfl rfl rfl rfl ?_
 walk
 obtain ⟨j,hj⟩:=fin.new
 refine no_list (.t j) (by room) hj ?_
 have F0:Fw [] h (hset h (.t j) (.list [])):=(Fw.refl fin).new hj
 have M0:=M.fw F0 (by room)
 obtain ⟨⟨a,b,c,d,t,l,f,y,mv,md,h1,h2,h3,h4,h5,h6,h7⟩,h8,h9⟩:=M0
 have hh:=h1
 unfold heapO at h1
 walk
 refine fr_each ["thing","slot"] (fun t:Th=>.ref (.th t.ser)) ts rfl (I:=fun _ _ _ h1=>Fw [] (hset h (.t j) (.list [])) h1) (fun _ _ _ _ F=>F.old _ _ rfl h4) (fun _ u _ loc hh1 et L F K' hn=>?_) (fun loc hh1 L F=>?_) (Fw.refl F0.fin)
 ·have g1:=F.old _ _ rfl hh
  have g3:=F.old _ _ rfl h6
  have tt:=ths_at h9 h8 (mem_mid et)
  have t1:=F.old _ _ rfl tt.1
  have t2:=F.old _ _ rfl tt.2
  have t0:=t1
  unfold thO at t1
  walk
  refine vi (fun q=>?_) fun q=>?_
  ·walk
   refine rg rfl ⟨by simp,?_⟩
   refine fr_cons trivial rfl ?_
   walk
   refine k_slot_word (dM hm rfl) t0 ?_
   walk
   refine k_card_number (dM hm rfl) g1 fun i=>?_
   unfold heapO at g1
   walk
   refine cm_in_dict g3 rfl ?_
   walk
   refine fr_nil trivial ?_
   walk
   exact hn _ _ (by k_ne) F
  ·walk
   exact hn _ _ (by k_ne) F
 ·walk
  exact k _ _ (F0.trans F) hj (F.old _ _ rfl hset_at)
noncomputable def markL (ts:List Th) (g:Int):List Nat→List HV→List Nat
 | MK,[]=>MK
 | MK,v :: r=>markL ts g (pushV ts g MK v) r
noncomputable def markAll (ts:List Th) (g:Int):List Nat→List (Nm×List HV)→List Nat
 | MK,[]=>MK
 | MK,p :: r=>markAll ts g (markL ts g MK p.2) r
noncomputable def tot:List (Nm×List HV)→Nat
 | []=>0
 | p :: r=>p.2.length + tot r
noncomputable def LsAt (h:AH) (ts:List Th) (Ls:List (Nm×List HV)):Prop:=∀ p∈Ls,h p.1=some (.list (p.2.map (HV.enc ts)))∧∀ v∈p.2,HvOk ts v
theorem pushV_len {ts:List Th} {g:Int} {MK:List Nat} {v:HV}:(pushV ts g MK v).length≤MK.length + 1:=by
 cases v with
 | ref s =>
  show (pushS ts g MK s).length≤_
  unfold pushS
  split
  ·omega
  ·simp
 | raw b n=>show MK.length≤_; omega
theorem pushV_in {ts:List Th} {g:Int} {MK:List Nat} {v:HV} (hs:HvOk ts v) (k:∀ s∈MK,In ts s):∀ s'∈pushV ts g MK v,In ts s':=by
 cases v with
 | ref s=>exact pushS_in hs k
 | raw b n=>exact k
theorem markL_len {ts:List Th} {g:Int}:∀ {l:List HV} {MK:List Nat},(markL ts g MK l).length≤MK.length + l.length
 | [],_=>Nat.le_refl _
 | v :: r,MK=>by
  rw [markL]
  have:=markL_len (ts:=ts) (g:=g) (l:=r) (MK:=pushV ts g MK v)
  have:=pushV_len (ts:=ts) (g:=g) (MK:=MK) (v:=v)
  simp; omega
theorem markL_in {ts:List Th} {g:Int}:∀ {l:List HV} {MK:List Nat},(∀ v∈l,HvOk ts v)→(∀ s∈MK,In ts s)→∀ s∈markL ts g MK l,In ts s
 | [],_,_,k=>k
 | v :: r,MK,q,k=>markL_in (l:=r) (fun u m=>q u (List.mem_cons_of_mem _ m)) (pushV_in (q v List.mem_cons_self) k)
theorem nin_new {n m:Nm} {o:AObj} (hm:h m=none) (hn:h n=some o):nin n [m]=true:=by
 unfold nin nin
 rw [Nm.eqb_ne fun z=>nos (hm.symm.trans (z ▸ hn))]; rfl
theorem Fw.none {ms:List Nm} {h':AH} {n:Nm} (F:Fw ms h h') (q:∀ o,h n=some o→nin n ms=true) (hn:h' n=Option.none):h n=Option.none:=by
 cases e:h n with
 | none=>rfl
 | some o=>exact nos (hn.symm.trans (F.old _ _ (q o e) e))
theorem nin2 {n a b:Nm} (e1:n≠a) (e2:n≠b):nin n [a,b]=true:=by
 unfold nin nin nin
 rw [Nm.eqb_ne e1,Nm.eqb_ne e2]; rfl
theorem markL_snoc {ts:List Th} {g:Int} {v:HV}:∀ {d:List HV} {MK:List Nat},markL ts g MK (d ++ [v])=pushV ts g (markL ts g MK d) v
 | [],_=>rfl
 | _ :: d,_=>markL_snoc (d:=d)
theorem markAll_snoc {ts:List Th} {g:Int} {p:Nm×List HV}:∀ {d:List (Nm×List HV)} {MK:List Nat},markAll ts g MK (d ++ [p])=markL ts g (markAll ts g MK d) p.2
 | [],_=>rfl
 | _ :: d,_=>markAll_snoc (d:=d)
theorem markAll_len {ts:List Th} {g:Int}:∀ {d:List (Nm×List HV)} {MK:List Nat},(markAll ts g MK d).length≤MK.length + tot d
 | [],_=>Nat.le_refl _
 | p :: d,MK=>Nat.le_trans (markAll_len (d:=d)) (Nat.add_assoc .. ▸ Nat.add_le_add_right markL_len _)
theorem markAll_in {ts:List Th} {g:Int}:∀ {d:List (Nm×List HV)} {MK:List Nat},(∀ p∈d,∀ v∈p.2,HvOk ts v)→(∀ s∈MK,In ts s)→∀ s∈markAll ts g MK d,In ts s
 | [],_,_,k=>k
 | p :: d,_,q,k=>markAll_in (d:=d) (fun u m=>q u (List.mem_cons_of_mem _ m)) (markL_in (q p List.mem_cons_self) k)
theorem tot_mid {p:Nm×List HV} {l:List (Nm×List HV)}:∀ d:List (Nm×List HV),tot d + p.2.length≤tot (d ++ p :: l)
 | []=>Nat.zero_add _ ▸ Nat.le_add_right _ _
 | q :: d=>Nat.add_assoc .. ▸ Nat.add_le_add_left (tot_mid d) _
theorem k_mark (hm:12≤m) {ts:List Th} {g:Int} {nl:Nm} {Ls:List (Nm×List HV)} (fin:FinT h) (M:MkAt h ts) (hn:h nl=some (.list (Ls.map fun p=>.ref p.1))) (hL:LsAt h ts Ls) (hl:tot Ls < 1000)
  (k:∀ h' j,Fw [] h h'→h (.t j)=none→h' (.t j)=some (.dict (mkM ts (markAll ts g [] Ls)))→(∀ s∈markAll ts g [] Ls,In ts s)→K (.ref (.t j)) h'):CF w H0 m f_mark [.ref (.s 12),.ref nl,.int g] h K:=by
 refine cf_run (dN hm rfl) rfl rfl rfl rfl ?_
 walk
 obtain ⟨j1,hj1⟩:=fin.new
 refine no_dict (.t j1) (by simp [dputs]) hj1 ?_
 have F1:Fw [] h (hset h (.t j1) (.dict [])):=(Fw.refl fin).new hj1
 walk
 obtain ⟨j2,hj2⟩:=F1.fin.new
 refine no_list (.t j2) (by room) hj2 ?_
 have F2:Fw [] h (hset (hset h (.t j1) (.dict [])) (.t j2) (.list [])):=F1.new hj2
 have n12:Nm.eqb (.t j1) (.t j2)=false:=Nm.eqb_ne (by intro e; rw [← e,hset_self] at hj2; cases hj2)
 have ni:∀ n o,h n=some o→nin n [.t j1,.t j2]=true:=fun n o e=>nin2 (by rintro rfl; rw [hj1] at e; cases e) (by rintro rfl; have:=F1.old _ _ rfl e; rw [hj2] at this; cases this)
 have hnl:=F2.old _ _ rfl hn
 have hj2':h (.t j2)=none:=by
  cases q:h (.t j2) with
  | none=>rfl
  | some o=>have:=F1.old _ _ rfl q; rw [hj2] at this; cases this
 have M2:=M.fw F2 (by room)
 walk
 refine fr_each ["values","value"] (fun p:Nm×List HV=>.ref p.1) Ls rfl (I:=fun d _ _ h1=>A3 (Fw [.t j1,.t j2] (hset (hset h (.t j1) (.dict [])) (.t j2) (.list [])) h1) (h1 (.t j1)=some (.dict (mkM ts (markAll ts g [] d)))) (h1 (.t j2)=some (.list (mkW (markAll ts g [] d)))))
  (fun _ _ _ _ i=>i.casesOn fun F _ _=>F.old _ _ (ni _ _ hn) hnl) (fun D p Dl loc1 h1 ed L i K' kn=>?_) (fun loc1 h1 L i=>?_) ⟨Fw.refl F2.fin,hset_off n12 hset_at,hset_at⟩
 ·obtain ⟨F,e1,e2⟩:=i
  have hp:=hL p (mem_mid ed)
  have hp1:=F.old _ _ (ni _ _ hp.1) (F2.old _ _ rfl hp.1)
  have hM':=markAll_in (ts:=ts) (g:=g) (d:=D) (MK:=[]) (fun q m=>(hL q (ed ▸ List.mem_append_left _ m)).2) fun _ m=>nomatch m
  have hl':(markAll ts g [] D).length + p.2.length < 1000:=Nat.lt_of_le_of_lt (Nat.le_trans (Nat.add_le_add_right (Nat.zero_add (tot D) ▸ markAll_len) _) (tot_mid D)) (ed ▸ hl)
  walk
  refine fr_each ["value"] (HV.enc ts) p.2 rfl (I:=fun d _ _ h2=>A3 (Fw [.t j1,.t j2] h1 h2) (h2 (.t j1)=some (.dict (mkM ts (markL ts g (markAll ts g [] D) d)))) (h2 (.t j2)=some (.list (mkW (markL ts g (markAll ts g [] D) d)))))
   (fun _ _ _ _ i=>i.casesOn fun F _ _=>F.old _ _ (ni _ _ hp.1) hp1) (fun d v l loc2 h2 ev L2 i K2 k2=>?_) (fun loc2 h2 L2 i=>?_) ⟨Fw.refl F.fin,e1,e2⟩
  ·obtain ⟨F3,e1,e2⟩:=i
   walk
   have hl2:d.length < p.2.length:=by rw [ev,List.length_append]; exact Nat.lt_add_of_pos_right (Nat.succ_pos _)
   refine k_push_value (dM hm rfl) F3.fin ((M2.fw F (by simp [isT])).fw F3 (by simp [isT])) (hp.2 v (mem_mid ev)) (markL_in (fun u m=>hp.2 u (ev ▸ List.mem_append_left _ m)) hM') e1 e2 ((eqb_comm _ _).trans n12) (Nat.lt_of_le_of_lt markL_len (Nat.lt_trans (Nat.add_lt_add_left hl2 _) hl')) fun h' F4 e1 e2=>?_
   walk
   exact k2 _ _ (by k_ne) ⟨F3.trans F4,by rw [markL_snoc]; exact e1,by rw [markL_snoc]; exact e2⟩
  ·obtain ⟨F3,e1,e2⟩:=i
   walk
   exact kn _ _ (by k_ne) ⟨F.trans F3,by rw [markAll_snoc]; exact e1,by rw [markAll_snoc]; exact e2⟩
 ·obtain ⟨F,e1,e2⟩:=i
  have M3:=M2.fw F (by simp [isT])
  have hM':=markAll_in (ts:=ts) (g:=g) (d:=Ls) (MK:=[]) (fun q m=>(hL q m).2) fun _ m=>nomatch m
  refine s_if_k fun KN kn _=>?_
  have tl:∀ loc2 h2,Lk ["thing","slot"] loc1 loc2→Fw [] h1 h2→KN .next loc2 h2:=by
   intro loc2 h2 L2 F3
   refine kn _ _ ?_
   walk
   refine k_drain (dM hm rfl) F3.fin (M3.fw F3 (by room)) hM' (F3.old _ _ rfl e2) rfl fun h3 F4 e4=>?_
   walk
   have e3:=F4.old _ _ (by unfold nin; rw [n12]; rfl) (F3.old _ _ rfl e1)
   have FF:=F.trans ((F3.weak (by room)).trans (F4.weak (by room)))
   have FF2:=(F2.weak (ms':=[.t j1,.t j2]) (by room)).trans FF
   exact k _ _ (Fw.less hj2' (Fw.less hj1 FF2)) hj1 e3 hM'
  walk
  refine vi (fun q=>?_) fun q=>?_
  ·walk
   refine k_old_slots (dM hm rfl) F.fin M3 fun h2 j F3 hj e=>?_
   walk
   refine fr_nil e ?_
   walk
   exact tl _ _ (fun _ _ _ e=>e) F3
  ·walk
   exact tl _ _ (fun _ _ _ e=>e) (Fw.refl F.fin)
noncomputable def HdAt (h:AH):Prop:=h (.s 60)=some (.inst c_Handles [("rows",.ref (.s 61))])∧h (.s 61)=some (.list [])
theorem HdAt.fw {h h':AH} {ms:List Nm} (x:HdAt h) (f:Fw ms h h') (n1:nin (.s 60) ms=true) (n2:nin (.s 61) ms=true):HdAt h':=⟨f.old _ _ n1 x.1,f.old _ _ n2 x.2⟩
theorem k_strong_values (hm:2≤m) (fin:FinT h) (H:HdAt h) (k:∀ j,h (.t j)=none→K (.ref (.t j)) (hset h (.t j) (.list []))):CF w H0 m f_strong_values [.ref (.s 60)] h K:=by
 obtain ⟨h1,h2⟩:=H
 refine cf_run (dN hm rfl) rfl rfl rfl rfl ?_
 walk
 obtain ⟨j,hj⟩:=fin.new
 refine no_list (.t j) (by room) hj ?_
 have e1:hset h (.t j) (.list []) (.s 60)=_:=hset_old hj h1
 have e2:hset h (.t j) (.list []) (.s 61)=_:=hset_old hj h2
 walk
 refine fr_nil e2 ?_
 walk
 exact k j hj
theorem k_clear_handles (hm:2≤m) {a b c d:AVal} (H:HdAt h) (k:K (.int 0) h):CF w H0 m f_clear_handles [.ref (.s 60),a,b,c,d] h K:=by
 obtain ⟨h1,h2⟩:=H
 refine cf_run (dN hm rfl) rfl rfl rfl rfl ?_
 walk
 refine fr_nil h2 ?_
 walk
 all_goals exact k
theorem k_move_handles (hm:2≤m) {a:AVal} (H:HdAt h) (k:K .none h):CF w H0 m f_move_handles [.ref (.s 60),a] h K:=by
 obtain ⟨h1,h2⟩:=H
 refine cf_run (dN hm rfl) rfl rfl rfl rfl ?_
 walk
 refine fr_nil h2 ?_
 walk
 all_goals exact k
theorem k_pick_finals (hm:2≤m) {x y:AVal} {a b c d:Nm} {t l f yo mv md:Int} (fin:FinT h) (hh:h (.s 12)=some (heapO a b c d t l f yo mv md)) (hd:h d=some (.list []))
  (k:∀ h' j e,Fw [.s 12,.g 3 e] h h'→h (.g 3 e)=none→h' (.s 12)=some (heapO a b c (.g 3 e) t l f yo mv md)→h' (.g 3 e)=some (.list [])→h' (.t j)=some (.list [])→h (.t j)=none→K (.ref (.t j)) h'):CF w H0 m f_pick_finals [.ref (.s 12),x,y] h K:=by
 unfold heapO at hh
 refine cf_run (dN hm rfl) rfl rfl rfl rfl ?_
 walk
 obtain ⟨e,he⟩:=fin.newG 3
 refine no_list (.g 3 e) (by room) he ?_
 walk
 obtain ⟨j,hj⟩:=(fin.set (n:=.g 3 e) (o:=.list [])).new
 have hj0:h (.t j)=none:=by
  cases q:h (.t j) with
  | none=>rfl
  | some o=>have:=hset_old (o':=.list []) he q; rw [hj] at this; cases this
 refine no_list (.t j) (by room) hj ?_
 have hd2:hset (hset h (.g 3 e) (.list [])) (.t j) (.list []) d=some (.list []):=hset_old hj (hset_old he hd)
 have hh2:hset (hset h (.g 3 e) (.list [])) (.t j) (.list []) (.s 12)=_:=hset_old hj (hset_old he hh)
 walk
 refine fr_nil hd2 ?_
 walk
 refine k _ j e ?_ he ?_ ?_ ?_ hj0
 ·refine Fw.set (Fw.new (Fw.set (Fw.refl fin) (by room)) hj) (by room)
 ·rw [hset_self]; rfl
 ·rw [hset_ne (by room)]
  exact hset_old hj hset_at
 ·rw [hset_ne (by room)]
  exact hset_at
theorem k_reach_more (hm:10≤m) {ts:List Th} {g mk:AVal} {n:Nm} (fin:FinT h) (M:MkAt h ts) (hn:h n=some (.list [])) (k:∀ h',Fw [] h h'→K .none h'):CF w H0 m f_reach_more [.ref (.s 12),mk,.ref n,g] h K:=by
 refine cf_run (dN hm rfl) rfl rfl rfl rfl ?_
 walk
 obtain ⟨j,hj⟩:=fin.new
 refine no_list (.t j) (by room) hj ?_
 have F1:Fw [] h (hset h (.t j) (.list [])):=(Fw.refl fin).new hj
 have hn1:=F1.old _ _ rfl hn
 walk
 refine fr_nil hn1 ?_
 walk
 refine k_drain (W:=[]) (dM hm rfl) F1.fin (M.fw F1 (by room)) (by room) hset_at rfl fun h' F e=>?_
 walk
 exact k _ (Fw.less hj ((F1.weak (by room)).trans F))
theorem k_root_lists (hm:4≤m) {a b c d:Nm} {t l f yo mv md:Int} {ns:List Nm} {nl:Nm} (fin:FinT h) (H:HdAt h) (hh:h (.s 12)=some (heapO a b c d t l f yo mv md)) (hn:h nl=some (.list (ns.map .ref))) (hl:ns.length < 900)
  (k:∀ h' i j,Fw [] h h'→h (.t i)=none→h' (.t i)=some (.list [])→h (.t j)=none→h' (.t j)=some (.list ((ns ++ [Nm.s 13,Nm.t i]).map .ref))→K (.ref (.t j)) h'):CF w H0 m f_root_lists [.ref (.s 12),.ref nl,.ref (.s 60)] h K:=by
 refine cf_run (dN hm rfl) rfl rfl rfl rfl ?_
 walk
 obtain ⟨j,hj⟩:=fin.new
 refine no_list (.t j) (by room) hj ?_
 have F1:Fw [] h (hset h (.t j) (.list [])):=(Fw.refl fin).new hj
 have hn1:=F1.old _ _ rfl hn
 have nj:nin nl [.t j]=true:=by
  unfold nin nin
  rw [Nm.eqb_ne (by rintro rfl; rw [hj] at hn; cases hn)]; rfl
 walk
 have hl':ns.length < 1000000:=Nat.lt_trans hl (by decide)
 refine fr_each ["values"] .ref ns rfl (I:=fun d _ _ h1=>Fw [.t j] h h1∧h1 (.t j)=some (.list (d.map .ref))) (fun d l loc1 h1 i=>i.1.old _ _ nj hn)
  (fun d a l loc1 h1 e L i K' kn=>?_) (fun loc1 h1 L i=>?_) ⟨F1.weak (by room),hset_at⟩
 ·have e1:=i.2
  have len:=len_mid AVal.ref e hl'
  walk
  exact kn _ _ (by k_ne) ⟨i.1.set (by room),put_map _⟩
 ·obtain ⟨F,e1⟩:=i
  have len:=len_all AVal.ref hl'
  have hh1:=F.old _ _ rfl hh
  unfold heapO at hh1
  walk
  have F2:Fw [.t j] h (hset h1 (.t j) (.list (ns.map .ref ++ [.ref (.s 13)]))):=F.set (by room)
  have H2:=H.fw F2 rfl rfl
  refine k_strong_values (dM hm rfl) F2.fin H2 fun i hi=>?_
  have ei:=hset_old (o':=.list []) hi (hset_at (h:=h1) (n:=.t j) (o:=.list (ns.map .ref ++ [.ref (.s 13)])))
  have hij:Nm.eqb (.t i) (.t j)=false:=Nm.eqb_ne (by intro e; rw [e,hset_self] at hi; cases hi)
  have hi0:h (.t i)=none:=by
   cases q:h (.t i) with
   | none=>rfl
   | some o=>have:=F2.old _ _ (by unfold nin nin; rw [hij]; rfl) q; rw [hi] at this; cases this
  walk
  refine k _ i j (Fw.less hj ((F2.new hi).set (by room))) hi0 (hset_off hij hset_at) hj ?_
  rw [hset_self]; simp
section
set_option genSizeOf false in
set_option genInjectivity false in
structure Hp where
 (eT eA eC eF:Nat)
 (top limit fresh young moved made:Int)
noncomputable def Hp.o (x:Hp):AObj:=heapO (.g 0 x.eT) (.g 1 x.eA) (.g 2 x.eC) (.g 3 x.eF) x.top x.limit x.fresh x.young x.moved x.made
structure HpAt (h:AH) (x:Hp) (ts:List Th):Prop where
 hp:h (.s 12)=some x.o
 things:h (.g 0 x.eT)=some (.list (refs ts))
 at_:h (.g 1 x.eA)=some (.dict (atL 16 ts))
 cards:h (.g 2 x.eC)=some (.dict [])
 finals:h (.g 3 x.eF)=some (.list [])
 ready:h (.s 13)=some (.list [])
 ths:ThsAt h 16 ts
 ap:Apart ts
theorem HpAt.mk' {x:Hp} {ts:List Th} (X:HpAt h x ts):MkAt h ts:=⟨⟨_,_,_,_,_,_,_,_,_,_,X.hp,X.at_,rfl,X.things,rfl,X.cards,rfl⟩,X.ths,X.ap⟩
noncomputable def hOk:Nm→Bool
 | .t _=>true
 | .g k _=>Nat.ble 4 k
 | .s k=>!(Nat.beq k 12) && !(Nat.beq k 13)
 | _=>false
theorem nin_hOk {n:Nm} (e:hOk n=false):∀ {ms:List Nm},ms.all hOk=true→nin n ms=true
 | [],_=>rfl
 | a :: r,q=>by
  rw [List.all_cons,Bool.and_eq_true] at q
  unfold nin
  have:n≠a:=by rintro rfl; rw [e] at q; cases q.1
  rw [Nm.eqb_ne this,nin_hOk e q.2]; rfl
theorem ThsAt.fw {h h':AH} {ms:List Nm} (f:Fw ms h h') (k:∀ s,nin (.th s) ms=true∧nin (.sl s) ms=true):∀ {a:Int} {ts:List Th},ThsAt h a ts→ThsAt h' a ts
 | _,[],_=>trivial
 | _,t :: _,x=>⟨⟨f.old _ _ (k t.ser).1 x.1.1,f.old _ _ (k t.ser).2 x.1.2⟩,ThsAt.fw f k x.2⟩
theorem HpAt.fw {h h':AH} {ms:List Nm} {x:Hp} {ts:List Th} (X:HpAt h x ts) (f:Fw ms h h') (k:ms.all hOk=true):HpAt h' x ts :=
 ⟨f.old _ _ (nin_hOk rfl k) X.hp,f.old _ _ (nin_hOk rfl k) X.things,f.old _ _ (nin_hOk rfl k) X.at_,f.old _ _ (nin_hOk rfl k) X.cards,f.old _ _ (nin_hOk rfl k) X.finals,f.old _ _ (nin_hOk rfl k) X.ready,X.ths.fw f fun s=>⟨nin_hOk rfl k,nin_hOk rfl k⟩,X.ap⟩
theorem markAll_nil2 {ts:List Th} {g:Int} {a b:Nm}:∀ {Ls:List (Nm×List HV)} {MK:List Nat},markAll ts g MK (Ls ++ [(a,[]),(b,[])])=markAll ts g MK Ls
 | [],MK=>rfl
 | p :: r,MK=>by
  show markAll ts g _ (r ++ _)=markAll ts g _ r
  exact markAll_nil2
theorem tot_app:∀ {a b:List (Nm×List HV)},tot (a ++ b)=tot a + tot b
 | [],b=>by simp [tot]
 | p :: r,b=>by
  show p.2.length + tot (r ++ b)=p.2.length + tot r + tot b
  rw [tot_app]; omega
theorem k_find_living (hm:16≤m) {x:Hp} {ts:List Th} {g:Int} {nl:Nm} {Ls:List (Nm×List HV)} (fin:FinT h) (X:HpAt h x ts) (H:HdAt h) (hn:h nl=some (.list ((Ls.map (·.1)).map .ref))) (hL:LsAt h ts Ls) (hl:tot Ls < 900) (hl2:Ls.length < 800)
  (k:∀ h' j e,Fw [.s 12,.g 3 e] h h'→HpAt h' { x with eF:=e } ts→h (.t j)=none→h' (.t j)=some (.dict (mkM ts (markAll ts g [] Ls)))→(∀ s∈markAll ts g [] Ls,In ts s)→K (.ref (.t j)) h'):CF w H0 m f_find_living [.ref (.s 12),.ref nl,.ref (.s 60),.int g] h K:=by
 refine cf_run (dN hm rfl) rfl rfl rfl rfl ?_
 walk
 refine k_root_lists (dM hm rfl) fin H X.hp hn (by simpa using by omega) fun h1 i j F1 hi ei hj ej=>?_
 have X1:=X.fw F1 rfl
 have H1:=H.fw F1 rfl rfl
 walk
 refine k_mark (Ls:=Ls ++ [(.s 13,[]),(.t i,[])]) (dM hm rfl) F1.fin X1.mk' (by rw [ej]; simp) (fun p mp=>?_) (by rw [tot_app]; simp [tot]; omega) fun h2 j2 F2 hj2 ej2 hin=>?_
 ·rcases List.mem_append.mp mp with q | q
  ·have:=hL p q
   exact ⟨F1.old _ _ rfl this.1,this.2⟩
  ·simp only [List.mem_cons,List.not_mem_nil,or_false] at q
   rcases q with rfl | rfl
   ·exact ⟨X1.ready,fun v mv=>by cases mv⟩
   ·exact ⟨ei,fun v mv=>by cases mv⟩
 rw [markAll_nil2] at ej2 hin
 have X2:=X1.fw F2 rfl
 have H2:=H1.fw F2 rfl rfl
 walk
 refine k_clear_handles (dM hm rfl) H2 ?_
 walk
 refine k_pick_finals (dM hm rfl) F2.fin X2.hp X2.finals fun h3 j3 e F3 he eh ef ej3 hj3=>?_
 have g1:∀ (k e':Nat),k≠3→nin (.g k e') [.s 12,.g 3 e]=true:=fun k e' n=>nin2 (by room) (by simp [n])
 have X3:HpAt h3 { x with eF:=e } ts:=⟨eh,F3.old _ _ (g1 _ _ (by decide)) X2.things,F3.old _ _ (g1 _ _ (by decide)) X2.at_,F3.old _ _ (g1 _ _ (by decide)) X2.cards,ef,F3.old _ _ rfl X2.ready,X2.ths.fw F3 fun s=>⟨rfl,rfl⟩,X2.ap⟩
 have H3:=H2.fw F3 rfl rfl
 walk
 refine k_reach_more (dM hm rfl) F3.fin X3.mk' ej3 fun h4 F4=>?_
 have H4:=H3.fw F4 rfl rfl
 walk
 refine k_clear_handles (dM hm rfl) H4 ?_
 walk
 have hj0:h (.t j2)=none:=by
  cases q:h (.t j2) with
  | none=>rfl
  | some o=>have:=F1.old _ _ rfl q; rw [hj2] at this; cases this
 refine k _ j2 e (((F1.weak (by room)).trans (F2.weak (by room))).trans (F3.trans (F4.weak (by room)))) (X3.fw F4 rfl) hj0 (F4.old _ _ rfl (F3.old _ _ rfl ej2)) hin
noncomputable def mxO (g a e:Int) (t:Th):Int:=if t.gen > g then (if a + 3 > e then a + 3 else e) else e
noncomputable def endO (g:Int):Int→Int→List Th→Int
 | _,e,[]=>e
 | a,e,t :: r=>endO g (a + 3) (mxO g a e t) r
theorem len3 {u:Th} {d:List Th} (a:Int):a + 3 + 3 * (d.length:Int)=a + 3 * ((u :: d).length:Int):=by rw [List.length_cons]; omega
theorem endO_snoc {g:Int} {t:Th}:∀ {d:List Th} {a e:Int},endO g a e (d ++ [t])=mxO g (a + 3 * d.length) (endO g a e d) t
 | [],a,e=>congrArg (mxO g · e t) (Int.add_zero a).symm
 | u :: d,a,e=>len3 (u:=u) a ▸ endO_snoc (d:=d)
noncomputable def movesL (g:Int) (MK:List Nat):Int→Int→List Th→List (AVal×AVal)
 | _,_,[]=>[]
 | a,go,t :: r=>if t.gen≤g∧t.ser∈MK then (.int a,.int go) :: movesL g MK (a + 3) (go + 3) r else movesL g MK (a + 3) go r
theorem movesL_in {g:Int} {MK:List Nat} {t:Th} (c:t.gen≤g∧t.ser∈MK):∀ {d:List Th} {a go:Int},movesL g MK a go (d ++ [t])=movesL g MK a go d ++ [(.int (a + 3 * d.length),.int (go + 3 * ((movesL g MK a go d).length:Int)))]
 | [],a,go=>by
  show (if _ then [(AVal.int a,AVal.int go)] else [])=[(.int (a + 3 * 0),.int (go + 3 * 0))]
  rw [if_pos c,Int.mul_zero,Int.add_zero,Int.add_zero]
 | u :: d,a,go=>by
  rw [List.cons_append,movesL,movesL,← len3 (u:=u)]
  split
  ·rw [movesL_in c (d:=d),List.length_cons,List.cons_append,show go + 3 * ((((movesL g MK (a + 3) (go + 3) d).length + 1:Nat)):Int)=go + 3 + 3 * ((movesL g MK (a + 3) (go + 3) d).length:Int) by omega]
  ·exact movesL_in c (d:=d)
theorem movesL_out {g:Int} {MK:List Nat} {t:Th} (c:¬ (t.gen≤g∧t.ser∈MK)):∀ {d:List Th} {a go:Int},movesL g MK a go (d ++ [t])=movesL g MK a go d
 | [],_,_=>if_neg c
 | u :: d,a,go=>by
  rw [List.cons_append,movesL,movesL,movesL_out c (d:=d),movesL_out c (d:=d)]
theorem movesL_len {g:Int} {MK:List Nat}:∀ {d:List Th} {a go:Int},(movesL g MK a go d).length≤d.length
 | [],_,_=>Nat.le_refl _
 | u :: d,a,go=>by
  rw [movesL]
  split
  ·exact Nat.succ_le_succ (movesL_len (d:=d))
  ·exact Nat.le_succ_of_le (movesL_len (d:=d))
theorem movesL_wid {g:Int} {MK:List Nat}:∀ {d:List Th} {a go:Int},∀ p∈movesL g MK a go d,∃ b,p.1 = .int b∧b < a + 3 * d.length
 | [],_,_,_,m=>absurd m List.not_mem_nil
 | u :: d,a,go,p,m=>by
  rw [← len3 (u:=u)]
  have ih:=fun go m=>movesL_wid (g:=g) (MK:=MK) (d:=d) (a:=a + 3) (go:=go) p m
  rw [movesL] at m
  split at m
  ·rcases List.mem_cons.mp m with rfl | m
   ·exact ⟨a,rfl,by omega⟩
   ·exact ih _ m
  ·exact ih _ m
theorem addr_split:∀ {a:Int} {t1 t2:List Th} {t:Th},Apart (t1 ++ t :: t2)→addrOf a (t1 ++ t :: t2) t.ser=a + 3 * t1.length
 | a,[],t2,t,_=>by
  show (if t.ser=t.ser then a else _)=_
  rw [if_pos rfl]; simp
 | a,u :: r,t2,t,ap=>by
  show (if u.ser=t.ser then a else addrOf (a + 3) (r ++ t :: t2) t.ser)=_
  rw [if_neg fun e=>ap.2.1 t (by room) e.symm,addr_split ap.2.2]
  simp; omega
theorem k_end_of_older (hm:2≤m) {x:Hp} {ts:List Th} {g:Int} (fin:FinT h) (X:HpAt h x ts) (k:K (.int (endO g 16 16 ts)) h):CF w H0 m f_end_of_older [.ref (.s 12),.int g] h K:=by
 have hh:=X.hp
 unfold Hp.o heapO at hh
 have ht:=X.things
 refine cf_run (dN hm rfl) rfl rfl rfl rfl ?_
 walk
 refine fr_each ["thing","end"] (fun t:Th=>.ref (.th t.ser)) ts rfl (I:=fun d _ loc1 h1=>h=h1∧lk "end" loc1=some (.int (endO g 16 16 d))) (fun _ _ _ _ i=>i.1 ▸ ht)
  (fun d t l loc1 h1 et L i K' kn=>?_) (fun loc1 h1 L i=>?_) ⟨rfl,rfl⟩
 ·obtain ⟨rfl,l2⟩:=i
  have tt:=(ths_at X.ap X.ths (mem_mid et)).1
  rw [show addrOf 16 ts t.ser=16 + 3 * d.length by rw [et]; exact addr_split (et ▸ X.ap)] at tt
  unfold thO at tt
  have nx:=fun loc2 L2 (q:lk "end" loc2=some (.int (mxO g (16 + 3 * d.length) (endO g 16 16 d) t)))=>kn loc2 _ L2 ⟨rfl,by rw [endO_snoc]; exact q⟩
  walk
  refine vi (fun q=>?_) fun q=>?_
  ·rw [mxO,if_pos (of_decide_eq_true q)] at nx
   walk
   refine vi (fun q2=>?_) fun q2=>?_
   ·rw [if_pos (of_decide_eq_true q2)] at nx
    walk
    exact nx _ (by k_ne) (by k_ne)
   ·rw [if_neg (of_decide_eq_false q2)] at nx
    walk
    exact nx _ (by k_ne) (by k_ne)
  ·rw [mxO,if_neg (of_decide_eq_false q)] at nx
   walk
   exact nx _ (by k_ne) (by k_ne)
 ·obtain ⟨rfl,l2⟩:=i
  walk
  all_goals exact k
end
theorem dput_new {a:Int} {u:AVal}:∀ {M:List (AVal×AVal)},(∀ p∈M,∃ b,p.1 = .int b∧b < a)→dput (.int a) u M=M ++ [(.int a,u)]
 | [],_=>rfl
 | p :: r,k=>by
  obtain ⟨b,e,l⟩:=k p List.mem_cons_self
  obtain ⟨p1,p2⟩:=p
  dsimp only at e
  subst e
  rw [dput_int,if_neg (by omega),dput_new fun q m=>k q (List.mem_cons_of_mem _ m)]; rfl
theorem k_plan_moves (hm:4≤m) {x:Hp} {ts:List Th} {g:Int} {mk:Nm} {MK:List Nat} (fin:FinT h) (X:HpAt h x ts) (e1:h mk=some (.dict (mkM ts MK))) (hMK:∀ s∈MK,In ts s) (hl:ts.length < 1000)
  (k:∀ h' j,Fw [] h h'→h (.t j)=none→h' (.t j)=some (.dict (movesL g MK 16 (endO g 16 16 ts) ts))→K (.ref (.t j)) h'):CF w H0 m f_plan_moves [.ref (.s 12),.ref mk,.int g] h K:=by
 refine cf_run (dN hm rfl) rfl rfl rfl rfl ?_
 walk
 obtain ⟨j,hj⟩:=fin.new
 refine no_dict (.t j) (by simp [dputs]) hj ?_
 have F1:Fw [] h (hset h (.t j) (.dict [])):=(Fw.refl fin).new hj
 have X1:=X.fw F1 rfl
 walk
 refine k_end_of_older (dM hm rfl) F1.fin X1 ?_
 have hh:=X1.hp
 unfold Hp.o heapO at hh
 have ht:=X1.things
 have nmk:nin mk [.t j]=true:=by
  unfold nin nin
  rw [Nm.eqb_ne (by rintro rfl; rw [hj] at e1; cases e1)]; rfl
 have e1':=F1.old _ _ rfl e1
 walk
 refine fr_each ["thing","goal"] (fun t:Th=>.ref (.th t.ser)) ts rfl (I:=fun d _ loc1 h1=>A3 (Fw [.t j] (hset h (.t j) (.dict [])) h1) (h1 (.t j)=some (.dict (movesL g MK 16 (endO g 16 16 ts) d))) (lk "goal" loc1=some (.int (endO g 16 16 ts + 3 * (movesL g MK 16 (endO g 16 16 ts) d).length))))
  (fun _ _ _ _ i=>i.casesOn fun F _ _=>F.old _ _ rfl ht) (fun d t l loc1 h1 et L i K' kn=>?_) (fun loc1 h1 L i=>?_) ⟨Fw.refl F1.fin,hset_at,congrArg (fun z:Int=>some (AVal.int z)) (Int.add_zero _).symm⟩
 ·obtain ⟨F,ed,l4⟩:=i
  have mt:=mem_mid et
  have tt:=F.old _ _ rfl (ths_at X1.ap X1.ths mt).1
  have lk1:=mk_look X.ap ⟨t,mt,rfl⟩ hMK
  rw [show addrOf 16 ts t.ser=16 + 3 * d.length by rw [et]; exact addr_split (et ▸ X.ap)] at tt lk1
  unfold thO at tt
  have em2:=F.old _ _ nmk e1'
  have no:¬ (t.gen≤g∧t.ser∈MK)→∀ loc2,Lk ["thing","goal"] _ loc2→lk "goal" loc2=_→K' .next loc2 h1:=fun q loc2 L2 q2=>kn loc2 h1 L2 ⟨F,by rw [movesL_out q]; exact ed,by rw [movesL_out q]; exact q2⟩
  walk
  refine vi (fun q=>?_) fun q=>?_
  ·walk
   refine cm_in_dict em2 rfl ?_
   rw [lk1]
   walk
   refine vi (fun q2=>?_) fun q2=>?_
   ·have hlen:(movesL g MK 16 (endO g 16 16 ts) d).length < 900000:=Nat.lt_of_le_of_lt movesL_len (Nat.lt_of_le_of_lt (by rw [et,List.length_append]; exact Nat.le_add_right _ _) (Nat.lt_trans hl (by decide)))
    walk
    refine si_dict ed rfl hlen ?_
    rw [dput_new movesL_wid,← movesL_in ⟨of_decide_eq_true q,of_decide_eq_true q2⟩]
    have tt2:=hset_off (o':=.dict (movesL g MK 16 (endO g 16 16 ts) (d ++ [t]))) (show Nm.eqb (.th t.ser) (.t j)=false from rfl) tt
    walk
    refine kn _ _ (by k_ne) ⟨F.set (by room),hset_at,?_⟩
    rw [movesL_in ⟨of_decide_eq_true q,of_decide_eq_true q2⟩,List.length_append,Int.natCast_add,Int.mul_add,← Int.add_assoc]
    exact lk_lput_self _ _ _
   ·walk
    exact no (fun z=>of_decide_eq_false q2 z.2) _ (by k_ne) (by k_ne)
  ·walk
   exact no (fun z=>of_decide_eq_false q z.1) _ (by k_ne) (by k_ne)
 ·obtain ⟨F,ed,l4⟩:=i
  walk
  exact k _ j (Fw.less hj ((F1.weak (by room)).trans F)) hj ed
section
set_option genSizeOf false in
inductive EV where
 | ref (a:Int) | oth (t:Int) (r:List AVal)
noncomputable def EV.enc:EV→AVal
 | .ref a=>.tup [.int 4,.int a]
 | .oth t r=>.tup (.int t :: r)
noncomputable def EV.ok:EV→Prop
 | .ref _=>True
 | .oth t _=>decide (t=4)=false∧decide (t=5)=false∧decide (t=6)=false
noncomputable def EV.mv (M:List (AVal×AVal)):EV→AVal
 | .ref a=>.tup [.int 4,(dlk (.int a) M).getD (.int a)]
 | .oth t r=>.tup (.int t :: r)
theorem k_move_plain (hm:2≤m) {v:EV} {mv:Nm} {Mv:List (AVal×AVal)} {wd:AVal} (ok:v.ok) (e:h mv=some (.dict Mv)) (k:K (v.mv Mv) h):CF w H0 m f_move_plain [v.enc,.ref mv,wd] h K:=by
 cases v with
 | ref a =>
  refine cf_run (dN hm rfl) rfl rfl rfl rfl ?_
  unfold EV.enc
  walk
  refine me_get2 e rfl ?_
  walk
  all_goals exact k
 | oth t r =>
  obtain ⟨h4,h5,h6⟩:=ok
  refine cf_run (dN hm rfl) rfl rfl rfl rfl ?_
  unfold EV.enc
  walk
  refine vi_f h4 ?_
  walk
  refine vi_f h6 ?_
  walk
  all_goals exact k
theorem k_move_value (hm:4≤m) {v:EV} {mv:Nm} {Mv:List (AVal×AVal)} {wd:AVal} (ok:v.ok) (e:h mv=some (.dict Mv)) (k:K (v.mv Mv) h):CF w H0 m f_move_value [v.enc,.ref mv,wd] h K:=by
 cases v with
 | ref a =>
  refine cf_run (dN hm rfl) rfl rfl rfl rfl ?_
  have kk:=k_move_plain (w:=w) (H0:=H0) (m:=m - 2) (h:=h) (K:=K) (v:=.ref a) (wd:=wd) (by omega) ok e k
  unfold EV.enc at kk ⊢
  walk
  exact kk
 | oth t r =>
  refine cf_run (dN hm rfl) rfl rfl rfl rfl ?_
  have kk:=k_move_plain (w:=w) (H0:=H0) (m:=m - 2) (h:=h) (K:=K) (v:=.oth t r) (wd:=wd) (by omega) ok e k
  unfold EV.enc at kk ⊢
  walk
  refine vi_f ok.2.1 ?_
  walk
  exact kk
theorem k_moved_values (hm:6≤m) {vs:List EV} {nm mv:Nm} {Mv:List (AVal×AVal)} {wd:AVal} (fin:FinT h) (ok:∀ v∈vs,v.ok) (hn:h nm=some (.list (vs.map EV.enc))) (e:h mv=some (.dict Mv)) (hl:vs.length < 1000)
  (k:∀ h' j,Fw [] h h'→h (.t j)=none→h' (.t j)=some (.list (vs.map (EV.mv Mv)))→K (.ref (.t j)) h'):CF w H0 m f_moved_values [.ref nm,.ref mv,wd] h K:=by
 refine cf_run (dN hm rfl) rfl rfl rfl rfl ?_
 walk
 obtain ⟨j,hj⟩:=fin.new
 refine no_list (.t j) (by room) hj ?_
 have F1:Fw [] h (hset h (.t j) (.list [])):=(Fw.refl fin).new hj
 have hn1:=F1.old _ _ rfl hn
 have e1:=F1.old _ _ rfl e
 walk
 refine fr_each ["value"] EV.enc vs rfl (I:=fun d _ _ h1=>Fw [.t j] (hset h (.t j) (.list [])) h1∧h1 (.t j)=some (.list (d.map (EV.mv Mv)))) (fun _ _ _ _ i=>i.1.old _ _ (nin_new hj hn) hn1)
  (fun d v l loc1 h1 ev L i K' kn=>?_) (fun loc1 h1 L i=>?_) ⟨Fw.refl F1.fin,hset_at⟩
 ·obtain ⟨F,ed⟩:=i
  have hlen:=len_mid (EV.mv Mv) ev (Nat.lt_trans hl (by decide:1000 < 1000000))
  walk
  refine k_move_value (dM hm rfl) (ok v (mem_mid ev)) (F.old _ _ (nin_new hj e) e1) ?_
  walk
  exact kn _ _ (by k_ne) ⟨F.set (by room),put_map _⟩
 ·obtain ⟨F,ed⟩:=i
  walk
  exact k _ j (Fw.less hj ((F1.weak (by room)).trans F)) hj ed
noncomputable def EsAt (h:AH) (Es:List (Nm×List EV)):Prop:=∀ p∈Es,h p.1=some (.list (p.2.map EV.enc))∧(∀ v∈p.2,v.ok)∧p.2.length < 1000
noncomputable def FsAt (h:AH) (Mv:List (AVal×AVal)):List (Nm×List EV)→List Nat→Prop
 | [],[]=>True
 | p :: r,j :: js=>h (.t j)=some (.list (p.2.map (EV.mv Mv)))∧FsAt h Mv r js
 | _,_=>False
theorem FsAt.mono {h h':AH} {Mv:List (AVal×AVal)}:∀ {Es:List (Nm×List EV)} {js:List Nat},(∀ j∈js,∀ o,h (.t j)=some o→h' (.t j)=some o)→FsAt h Mv Es js→FsAt h' Mv Es js
 | [],[],_,_=>trivial
 | p :: r,j :: js,k,x=>⟨k j List.mem_cons_self _ x.1,FsAt.mono (fun i m=>k i (List.mem_cons_of_mem _ m)) x.2⟩
 | [],_ :: _,_,x=>x.elim
 | _ :: _,[],_,x=>x.elim
theorem FsAt.snoc {h:AH} {Mv:List (AVal×AVal)} {p:Nm×List EV} {j:Nat} (e:h (.t j)=some (.list (p.2.map (EV.mv Mv)))):∀ {Es:List (Nm×List EV)} {js:List Nat},FsAt h Mv Es js→FsAt h Mv (Es ++ [p]) (js ++ [j])
 | [],[],_=>⟨e,trivial⟩
 | q :: r,i :: js,x=>⟨x.1,FsAt.snoc e x.2⟩
 | [],_ :: _,x=>x.elim
 | _ :: _,[],x=>x.elim
theorem FsAt.len {h:AH} {Mv:List (AVal×AVal)}:∀ {Es:List (Nm×List EV)} {js:List Nat},FsAt h Mv Es js→js.length=Es.length
 | [],[],_=>rfl
 | p :: r,j :: js,x=>by simp [FsAt.len x.2]
 | [],_ :: _,x=>x.elim
 | _ :: _,[],x=>x.elim
theorem k_new_lists (hm:8≤m) {Es:List (Nm×List EV)} {nl mv:Nm} {Mv:List (AVal×AVal)} {wd:AVal} (fin:FinT h) (hn:h nl=some (.list (Es.map fun p=>.ref p.1))) (E:EsAt h Es) (e:h mv=some (.dict Mv)) (hl:Es.length < 1000)
  (k:∀ h' j js,Fw [] h h'→h (.t j)=none→h' (.t j)=some (.list (js.map fun i=>.ref (.t i)))→FsAt h' Mv Es js→(∀ i∈js,h (.t i)=none∧i≠j)→K (.ref (.t j)) h'):CF w H0 m f_new_lists [.ref nl,.ref mv,wd] h K:=by
 refine cf_run (dN hm rfl) rfl rfl rfl rfl ?_
 walk
 obtain ⟨j,hj⟩:=fin.new
 refine no_list (.t j) (by room) hj ?_
 have F1:Fw [] h (hset h (.t j) (.list [])):=(Fw.refl fin).new hj
 have hn1:=F1.old _ _ rfl hn
 have e1:=F1.old _ _ rfl e
 walk
 refine fr_each ["values"] (fun p:Nm×List EV=>.ref p.1) Es rfl (I:=fun d _ _ h1=>∃ js,A4 (Fw [.t j] (hset h (.t j) (.list [])) h1) (h1 (.t j)=some (.list (js.map fun i=>.ref (.t i)))) (FsAt h1 Mv d js) (∀ i∈js,h (.t i)=none∧i≠j)) (fun _ _ _ _ i=>i.elim fun _ i=>i.casesOn fun F _ _ _=>F.old _ _ (nin_new hj hn) hn1)
  (fun d p l loc1 h1 ev L i K' kn=>?_) (fun loc1 h1 L i=>?_) ⟨[],Fw.refl F1.fin,hset_at,trivial,fun i q=>nomatch q⟩
 ·obtain ⟨js,F,ed,fs,fj⟩:=i
  have hp:=E p (mem_mid ev)
  have hlen:(js.map fun i=>AVal.ref (.t i)).length < 900000:=by rw [List.length_map,fs.len]; exact mid_lt ev (Nat.lt_trans hl (by decide))
  walk
  refine k_moved_values (dM hm rfl) F.fin hp.2.1 (F.old _ _ (nin_new hj hp.1) (F1.old _ _ rfl hp.1)) (F.old _ _ (nin_new hj e) e1) hp.2.2 fun h2 i2 F2 hi2 ei2=>?_
  have ed2:=F2.old _ _ rfl ed
  have nij:i2≠j:=fun z=>nos (hi2.symm.trans (z ▸ ed))
  have eij:Nm.eqb (.t i2) (.t j)=false:=Nm.eqb_ne fun q=>nij (Nm.t.inj q)
  have hi0:h (.t i2)=none:=F1.none (fun _ _=>rfl) (F.none (fun o q=>by unfold nin nin; rw [eij]; rfl) hi2)
  walk
  refine kn _ _ (by k_ne) ⟨js ++ [i2],F.trans ((F2.weak (by room)).set (by room)),put_map _,FsAt.snoc (hset_off eij ei2) (fs.mono fun i mi o q=>hset_off (Nm.eqb_ne fun z=>(fj i mi).2 (Nm.t.inj z)) (F2.old _ _ rfl q)),fun i mi=>?_⟩
  rcases List.mem_append.mp mi with q | q
  ·exact fj i q
  ·rw [List.mem_singleton.mp q]; exact ⟨hi0,nij⟩
 ·obtain ⟨js,F,ed,fs,fj⟩:=i
  walk
  exact k _ j js (Fw.less hj ((F1.weak (by room)).trans F)) hj ed fs fj
end
theorem nthV_eq:∀ (l:List AVal) (i:Nat),nthV l i=l[i]?
 | [],i=>by simp [nthV]
 | a :: r,0=>rfl
 | a :: r,i + 1=>by rw [nthV,nthV_eq r i]; rfl
theorem nth_mid {α:Type} (f:α→AVal) {T d l:List α} {a:α} (e:T=d ++ a :: l):nthV (T.map f) d.length=some (f a):=by
 rw [nthV_eq,e]; simp
theorem set_mid {α:Type} (f g:α→AVal) {u:α} {l:List α}:∀ {d:List α},setNth (d.map g ++ (u :: l).map f) d.length (g u)=some ((d ++ [u]).map g ++ l.map f)
 | []=>rfl
 | b :: d=>by
  show (match setNth (d.map g ++ (u :: l).map f) d.length (g u) with | some q=>some (g b :: q) | none=>none)=_
  rw [set_mid]; rfl
theorem FsAt.at {h:AH} {Mv:List (AVal×AVal)} {p:Nm×List EV} {e2:List (Nm×List EV)}:∀ {e1:List (Nm×List EV)} {js:List Nat},FsAt h Mv (e1 ++ p :: e2) js→∃ j,A3 (nthV (js.map fun i=>.ref (.t i)) e1.length=some (.ref (.t j))) (j∈js) (h (.t j)=some (.list (p.2.map (EV.mv Mv))))
 | [],j :: js,x=>⟨j,rfl,List.mem_cons_self,x.1⟩
 | q :: e1,i :: js,x=>(FsAt.at (e1:=e1) x.2).elim fun j y=>y.casesOn fun a b c=>⟨j,a,List.mem_cons_of_mem _ b,c⟩
 | [],[],x=>x.elim
 | _ :: _,[],x=>x.elim
theorem k_put_lists (hm:2≤m) {Es:List (Nm×List EV)} {nl nf:Nm} {Mv:List (AVal×AVal)} {js:List Nat} (fin:FinT h) (hn:h nl=some (.list (Es.map fun p=>.ref p.1))) (hf:h nf=some (.list (js.map fun i=>.ref (.t i)))) (E:EsAt h Es) (fs:FsAt h Mv Es js) (hl:Es.length < 1000)
  (nd:(Es.map (·.1)).Nodup) (n1:nin nl (Es.map (·.1))=true) (n2:nin nf (Es.map (·.1))=true) (n3:∀ j∈js,nin (.t j) (Es.map (·.1))=true)
  (k:∀ h',Fw (Es.map (·.1)) h h'→(∀ p∈Es,h' p.1=some (.list (p.2.map (EV.mv Mv))))→K .none h'):CF w H0 m f_put_lists [.ref nl,.ref nf] h K:=by
 refine cf_run (dN hm rfl) rfl rfl rfl rfl ?_
 walk
 refine rg (m:=Es.length) (congrArg Int.ofNat (List.length_map _)) ⟨Nat.lt_trans hl (by decide),?_⟩
 refine fr_idx ["place","values","i"] Es rfl (I:=fun d l _ h1=>A3 (Fw (Es.map (·.1)) h h1) (∀ p∈d,h1 p.1=some (.list (p.2.map (EV.mv Mv)))) (∀ p∈l,h1 p.1=some (.list (p.2.map EV.enc)))) (fun _ _ _ _ _=>trivial)
  (fun d p l loc1 h1 ee L i K' kn=>?_) (fun loc1 h1 L i=>?_) ⟨Fw.refl fin,fun p q=>(nomatch q),fun p q=>(E p q).1⟩
 ·obtain ⟨F,o1,o2⟩:=i
  have mp:=mem_mid ee
  have hnl:=F.old _ _ n1 hn
  have hnf:=F.old _ _ n2 hf
  obtain ⟨j,g2,hj2,hj3⟩:=(show FsAt h Mv (d ++ p :: l) js from ee ▸ fs).at
  have hfj:=F.old _ _ (n3 j hj2) hj3
  have op:=o2 p List.mem_cons_self
  walk
  refine gi_list hnl rfl (nth_mid _ ee) ?_
  walk
  refine rg (m:=p.2.length) (congrArg Int.ofNat (List.length_map _)) ⟨Nat.lt_trans (E p mp).2.2 (by decide),?_⟩
  have np:∀ q∈[p.1],q∈Es.map (·.1):=fun q mq=>List.mem_singleton.mp mq ▸ List.mem_map_of_mem mp
  have jp:nin (.t j) [p.1]=true:=nin_sub np (n3 j hj2)
  have fp:nin nf [p.1]=true:=nin_sub np n2
  refine fr_idx ["i"] p.2 rfl (I:=fun d l _ h2=>Fw [p.1] h1 h2∧h2 p.1=some (.list (d.map (EV.mv Mv) ++ l.map EV.enc))) (fun _ _ _ _ _=>trivial)
   (fun v1 u v3 loc2 h2 ev L2 i K2 kn2=>?_) (fun loc2 h2 L2 i=>?_) ⟨Fw.refl F.fin,op⟩
  ·obtain ⟨F2,ep⟩:=i
   walk
   refine gi_list (F2.old _ _ fp hnf) rfl g2 ?_
   walk
   refine gi_list (F2.old _ _ jp hfj) rfl (nth_mid _ ev) ?_
   walk
   refine si_list ep rfl (set_mid EV.enc (EV.mv Mv)) ?_
   walk
   exact kn2 _ _ (by k_ne) ⟨F2.set (by room),hset_at⟩
  ·obtain ⟨F2,ep⟩:=i
   rw [List.map_nil,List.append_nil] at ep
   walk
   have n1':∀ q∈d ++ l,nin q.1 [p.1]=true:=fun q mq=>by
    have nd:=ee ▸ nd
    rw [List.map_append,List.map_cons] at nd
    have z:=List.nodup_append.mp nd
    unfold nin nin
    rw [Nm.eqb_ne fun e=>(List.mem_append.mp mq).elim (fun mq=>z.2.2 q.1 (List.mem_map_of_mem mq) p.1 List.mem_cons_self e) fun mq=>(List.nodup_cons.mp z.2.1).1 (e ▸ List.mem_map_of_mem mq)]; rfl
   refine kn _ _ (by k_ne) ⟨F.trans (F2.weak np),fun q mq=>?_,fun q mq=>F2.old _ _ (n1' q (List.mem_append_right _ mq)) (o2 q (List.mem_cons_of_mem _ mq))⟩
   rcases List.mem_append.mp mq with z | z
   ·exact F2.old _ _ (n1' q (List.mem_append_left _ z)) (o1 q z)
   ·rw [List.mem_singleton.mp z]; exact ep
 ·obtain ⟨F,o1,_⟩:=i
  walk
  exact k _ F o1
theorem k_stays (hm:2≤m) {t:Th} {a g:Int} {n mv:Nm} {Mv:List (AVal×AVal)} (e1:h n=some (thO a t)) (e2:h mv=some (.dict Mv)) (k:K (.bool (decide (t.gen > g) || (dlk (.int a) Mv).isSome)) h):CF w H0 m f_stays [.ref n,.ref mv,.int g] h K:=by
 unfold thO at e1
 refine cf_run (dN hm rfl) rfl rfl rfl rfl ?_
 walk
 refine vi (fun q=>?_) fun q=>?_
 ·rw [q,Bool.true_or] at k
  rw [q]
  walk
  all_goals exact k
 ·rw [q,Bool.false_or] at k
  walk
  refine cm_in_dict e2 rfl ?_
  walk
  all_goals exact k
theorem k_moved_addrs (hm:2≤m) {d n:Nm} {mv:AVal} (hd:h d=some (.list [])) (hn:h n=none) (k:K (.ref n) (hset h n (.list []))):CF w H0 m f_moved_addrs [.ref d,mv] h K:=by
 refine cf_run (dN hm rfl) rfl rfl rfl rfl ?_
 walk
 refine no_list n (by room) hn ?_
 have hd2:=hset_old (o':=.list []) hn hd
 walk
 refine fr_nil hd2 ?_
 walk
 all_goals exact k
noncomputable def upG (g:Int):Int:=if g < 2 then g + 1 else g
noncomputable def upd (g:Int) (t:Th):Th:=if t.gen > g then t else { t with gen:=upG t.gen }
theorem k_settle_old (hm:2≤m) {t:Th} {a g:Int} {n:Nm} {mv:AVal} (e1:h n=some (thO a t)) (q:t.gen > g) (k:K .none h):CF w H0 m f_settle_thing [.ref (.s 12),.ref n,mv,.int g] h K:=by
 unfold thO at e1
 refine cf_run (dN hm rfl) rfl rfl rfl rfl ?_
 walk
 refine vi_t (decide_eq_true q) ?_
 walk
 all_goals exact k
theorem k_settle_young (hm:2≤m) {x:Hp} {t:Th} {a g go:Int} {mv:Nm} {Mv:List (AVal×AVal)} (hh:h (.s 12)=some x.o) (e1:h (.th t.ser)=some (thO a t)) (q:¬ t.gen > g) (e2:h mv=some (.dict Mv)) (e3:dlk (.int a) Mv=some (.int go)) (nm:nin mv [.s 12,.th t.ser]=true)
  (k:∀ md,K .none (hset (hset h (.s 12) { x with moved:=md }.o) (.th t.ser) (thO go { t with gen:=upG t.gen }))):CF w H0 m f_settle_thing [.ref (.s 12),.ref (.th t.ser),.ref mv,.int g] h K:=by
 have hh0:=hh
 unfold Hp.o heapO at hh
 have e10:=e1
 unfold thO at e1
 refine cf_run (dN hm rfl) rfl rfl rfl rfl ?_
 walk
 refine vi_f (decide_eq_false q) ?_
 walk
 refine gi_dict e2 rfl e3 ?_
 walk
 have fin:∀ md (h1:AH),h1=hset h (.s 12) { x with moved:=md }.o→K .none (hset h1 (.th t.ser) (thO go { t with gen:=upG t.gen })):=fun md h1 e=>by rw [e]; exact k md
 refine vi (fun z=>?_) fun z=>?_
 ·walk
  have e11:hset h (.s 12) (.inst c_Heap [("things",.ref (.g 0 x.eT)),("at",.ref (.g 1 x.eA)),("top",.int x.top),("limit",.int x.limit),("cards",.ref (.g 2 x.eC)),("card_bits",.int 3),("fresh",.int x.fresh),("young_limit",.int x.young),("finals",.ref (.g 3 x.eF)),("ready",.ref (.s 13)),("moved",.int (x.moved + 1)),("made",.int x.made)]) (.th t.ser)=_:=hset_off rfl e1
  have kk:=fin (x.moved + 1) _ rfl
  unfold upG thO Hp.o heapO at kk
  refine vi (fun z=>?_) fun z=>?_
  ·rw [if_pos (of_decide_eq_true z)] at kk
   walk
   all_goals exact kk
  ·rw [if_neg (of_decide_eq_false z)] at kk
   walk
   all_goals exact kk
 ·walk
  have kk:=fin x.moved _ (hset_same hh0).symm
  unfold upG thO at kk
  refine vi (fun z=>?_) fun z=>?_
  ·rw [if_pos (of_decide_eq_true z)] at kk
   walk
   all_goals exact kk
  ·rw [if_neg (of_decide_eq_false z)] at kk
   walk
   all_goals exact kk
theorem apart_filter {st:Th→Bool}:∀ {ts:List Th},Apart ts→Apart (ts.filter st)
 | [],_=>trivial
 | t :: r,x=>by
  rw [List.filter_cons]
  split
  ·exact ⟨x.1,fun u m=>x.2.1 u (List.mem_filter.mp m).1,apart_filter x.2.2⟩
  ·exact apart_filter x.2.2
theorem upd_ser (g:Int) (t:Th):(upd g t).ser=t.ser:=by unfold upd; split <;> rfl
theorem upd_val (g:Int) (t:Th):(upd g t).val=t.val:=by unfold upd; split <;> rfl
theorem apart_upd {g:Int}:∀ {ts:List Th},Apart ts→Apart (ts.map (upd g))
 | [],_=>trivial
 | t :: r,x=>by
  refine ⟨by rw [upd_ser]; exact x.1,fun u m=>?_,apart_upd x.2.2⟩
  obtain ⟨v,mv,rfl⟩:=List.mem_map.mp m
  rw [upd_ser,upd_ser]; exact x.2.1 v mv
theorem ThsAt.snoc {h:AH} {t:Th}:∀ {a:Int} {ts:List Th},ThsAt h a ts→h (.th t.ser)=some (thO (a + 3 * ts.length) t)→h (.sl t.ser)=some (.list [t.val.enc])→ThsAt h a (ts ++ [t])
 | a,[],_,e1,e2=>⟨⟨by simpa using e1,e2⟩,trivial⟩
 | a,u :: r,x,e1,e2=>⟨x.1,ThsAt.snoc x.2 (by rw [e1]; congr 2; simp; omega) e2⟩
theorem atL_snoc {t:Th}:∀ {a:Int} {ts:List Th},atL a (ts ++ [t])=atL a ts ++ [(.int (a + 3 * ts.length),.ref (.th t.ser))]
 | a,[]=>by simp [atL]
 | a,u :: r=>by
  show (_,_) :: atL (a + 3) (r ++ [t])=_
  rw [atL_snoc]
  simp [atL]; omega
theorem atL_lt:∀ {a:Int} {ts:List Th},∀ p∈atL a ts,∃ b,p.1 = .int b∧b < a + 3 * ts.length
 | a,t :: r,p,m=>by
  rcases List.mem_cons.mp m with rfl | m
  ·exact ⟨a,rfl,by simp; omega⟩
  ·obtain ⟨b,e,l⟩:=atL_lt p m
   exact ⟨b,e,by simp; omega⟩
theorem atL_len:∀ {a:Int} {ts:List Th},(atL a ts).length=ts.length
 | a,[]=>rfl
 | a,t :: r=>by simp [atL,atL_len]
theorem ThsAt.keep {h h':AH}:∀ {a:Int} {ts:List Th},(∀ t∈ts,∀ o,h (.th t.ser)=some o→h' (.th t.ser)=some o)→(∀ t∈ts,∀ o,h (.sl t.ser)=some o→h' (.sl t.ser)=some o)→ThsAt h a ts→ThsAt h' a ts
 | _,[],_,_,_=>trivial
 | _,t :: r,k1,k2,x=>⟨⟨k1 t List.mem_cons_self _ x.1.1,k2 t List.mem_cons_self _ x.1.2⟩,ThsAt.keep (fun u m=>k1 u (List.mem_cons_of_mem _ m)) (fun u m=>k2 u (List.mem_cons_of_mem _ m)) x.2⟩
theorem Apart.mid {t:Th}:∀ {l1 l2:List Th},Apart (l1 ++ t :: l2)→∀ u∈l1 ++ l2,u.ser≠t.ser
 | [],l2,x,u,m=>x.2.1 u m
 | a :: l1,l2,x,u,m=>by
  rcases List.mem_cons.mp m with rfl | m
  ·exact fun e=>x.2.1 t (by room) e.symm
  ·exact Apart.mid x.2.2 u m
theorem k_settle (hm:2≤m) {x:Hp} {t:Th} {a g p:Int} {mv:Nm} {Mv:List (AVal×AVal)} (fin:FinT h) (hh:h (.s 12)=some x.o) (e1:h (.th t.ser)=some (thO a t)) (e2:h mv=some (.dict Mv)) (hT:isT mv=true) (pl:if t.gen > g then a=p else dlk (.int a) Mv=some (.int p))
  (k:∀ h3 md,Fw [.s 12,.th t.ser] h h3→h3 (.s 12)=some ({ x with moved:=md }:Hp).o→h3 (.th t.ser)=some (thO p (upd g t))→K .none h3):CF w H0 m f_settle_thing [.ref (.s 12),.ref (.th t.ser),.ref mv,.int g] h K:=by
 by_cases q:t.gen > g
 ·rw [if_pos q] at pl
  subst pl
  refine k_settle_old hm e1 q ?_
  refine k h x.moved (Fw.refl fin) hh ?_
  rw [e1]; unfold upd; rw [if_pos q]
 ·rw [if_neg q] at pl
  refine k_settle_young hm hh e1 q e2 pl (by cases mv <;> first | rfl | cases hT) fun md=>?_
  refine k _ md (((Fw.refl fin).set (by room)).set (by room)) ?_ ?_
  ·rw [hset_ne (by room),hset_self]
  ·rw [hset_self]; unfold upd; rw [if_neg q]
noncomputable def setMs (e0 e1:Nat) (L:List Th):List Nm:=[.s 12,.g 0 e0,.g 1 e1] ++ L.map fun t=>.th t.ser
theorem nin_app {n:Nm}:∀ {a b:List Nm},nin n a=true→nin n b=true→nin n (a ++ b)=true
 | [],b,_,y=>y
 | c :: r,b,x,y=>by
  unfold nin at x
  obtain ⟨x1,x2⟩:=Bool.and_eq_true_iff.mp x
  show (!(Nm.eqb n c) && nin n (r ++ b))=true
  rw [x1,nin_app x2 y]; rfl
theorem nin_ths {n:Nm} {L:List Th} (k:∀ t∈L,n≠.th t.ser):nin n (L.map fun t=>Nm.th t.ser)=true:=by
 induction L with
 | nil=>rfl
 | cons t r ih =>
  show (!(Nm.eqb n (.th t.ser)) && nin n (r.map fun t=>Nm.th t.ser))=true
  rw [Nm.eqb_ne (k t List.mem_cons_self),ih fun u m=>k u (List.mem_cons_of_mem _ m)]; rfl
theorem k_settle_things (hm:4≤m) {x:Hp} {ts:List Th} {g:Int} {mv:Nm} {Mv:List (AVal×AVal)} {st:Th→Bool} (fin:FinT h) (X:HpAt h x ts) (e2:h mv=some (.dict Mv)) (hT:isT mv=true) (hl:ts.length < 1000)
  (hst:∀ t∈ts,(decide (t.gen > g) || (dlk (.int (addrOf 16 ts t.ser)) Mv).isSome)=st t)
  (plan:∀ l1 t l2,ts.filter st=l1 ++ t :: l2→if t.gen > g then addrOf 16 ts t.ser=16 + 3 * l1.length else dlk (.int (addrOf 16 ts t.ser)) Mv=some (.int (16 + 3 * l1.length)))
  (k:∀ h' e0 e1 md,Fw (setMs e0 e1 (ts.filter st)) h h'→h (.g 0 e0)=none→h (.g 1 e1)=none→HpAt h' { x with eT:=e0,eA:=e1,top:=16 + 3 * (ts.filter st).length,moved:=md } ((ts.filter st).map (upd g))→K .none h'):CF w H0 m f_settle_things [.ref (.s 12),.ref mv,.int g] h K:=by
 have hh:=X.hp
 unfold Hp.o heapO at hh
 have ht:=X.things
 refine cf_run (dN hm rfl) rfl rfl rfl rfl ?_
 walk
 obtain ⟨e0,he0⟩:=fin.newG 0
 refine no_list (.g 0 e0) (by room) he0 ?_
 have F1:Fw [.g 0 e0] h (hset h (.g 0 e0) (.list [])):=(Fw.refl fin).set (by room)
 walk
 refine fr_each ["thing"] (fun t:Th=>.ref (.th t.ser)) ts rfl (I:=fun d _ _ h1=>Fw [.g 0 e0] h h1∧h1 (.g 0 e0)=some (.list (refs (d.filter st)))) (fun _ _ _ _ i=>i.1.old _ _ (nin_new he0 ht) ht)
  (fun d t l loc1 h1 et M i K' kn=>?_) (fun loc1 h1 M i=>?_) ⟨F1,hset_at⟩
 ·obtain ⟨F,el⟩:=i
  have mt:=mem_mid et
  have tt:=(ths_at X.ap X.ths mt).1
  walk
  refine k_stays (dM hm rfl) (F.old _ _ (nin_new he0 tt) tt) (F.old _ _ (nin_new he0 e2) e2) ?_
  rw [hst t mt]
  have len:(refs (d.filter st)).length < 900000:=by rw [refs,List.length_map]; exact Nat.lt_of_le_of_lt (List.length_filter_le ..) (mid_lt et (Nat.lt_trans hl (by decide)))
  walk
  refine vi (fun q=>?_) fun q=>?_
  ·walk
   exact kn _ _ (by k_ne) ⟨F.set (by room),by rw [filter_t q]; exact put_map _⟩
  ·walk
   exact kn _ _ (by k_ne) ⟨F,by rw [filter_f q]; exact el⟩
 ·obtain ⟨F,el⟩:=i
  have hh1:=F.old _ _ (nin_new he0 hh) hh
  walk
  obtain ⟨e1,he1⟩:=(F.fin.set (n:=.s 12) (o:=.list [])).newG 1
  have he1:h1 (.g 1 e1)=none:=by rw [hset_ne (by room)] at he1; exact he1
  have he10:h (.g 1 e1)=none:=F.none (fun o q=>nin_new he0 q) he1
  refine no_dict (.g 1 e1) (by simp [dputs]) (by rw [hset_ne (by room)]; exact he1) ?_
  have eh:hset (hset h1 (.s 12) (.inst c_Heap [("things",.ref (.g 0 e0)),("at",.ref (.g 1 x.eA)),("top",.int x.top),("limit",.int x.limit),("cards",.ref (.g 2 x.eC)),("card_bits",.int 3),("fresh",.int x.fresh),("young_limit",.int x.young),("finals",.ref (.g 3 x.eF)),("ready",.ref (.s 13)),("moved",.int x.moved),("made",.int x.made)])) (.g 1 e1) (.dict []) (.s 12)=_:=hset_off rfl hset_at
  walk
  have hap:=apart_filter (st:=st) X.ap
  have hsub:∀ t∈ts.filter st,t∈ts:=fun t mt=>(List.mem_filter.mp mt).1
  refine fr_each ["thing"] (fun t:Th=>.ref (.th t.ser)) (ts.filter st) rfl (I:=fun d l _ h2=>∃ md,A6 (Fw (setMs e0 e1 (ts.filter st)) h h2) (h2 (.s 12)=some ({ x with eT:=e0,eA:=e1,top:=16 + 3 * d.length,moved:=md }:Hp).o) (h2 (.g 0 e0)=some (.list (refs (ts.filter st)))) (h2 (.g 1 e1)=some (.dict (atL 16 (d.map (upd g))))) (ThsAt h2 16 (d.map (upd g))) (∀ t∈l,h2 (.th t.ser)=some (thO (addrOf 16 ts t.ser) t)∧h2 (.sl t.ser)=some (.list [t.val.enc]))) (fun _ _ _ _ i=>i.elim fun _ i=>i.casesOn fun _ _ h0 _ _ _=>h0)
   (fun d t l loc2 h2 eL M2 i K' kn=>?_) (fun loc2 h2 M2 i=>?_) ⟨x.moved,(((F.weak (by simp [setMs])).set (by simp [setMs])).set (by simp [setMs])).set (by simp [setMs]),hset_at,?_,?_,trivial,fun t mt=>?_⟩
  ·obtain ⟨md,F3,h12,h0,h1e,hth,hrest⟩:=i
   have mt:=mem_mid eL
   have tt:=hrest t List.mem_cons_self
   have pl:=plan d t l eL
   have nmv:nin mv (setMs e0 e1 (ts.filter st))=true:=nin_app (by cases mv <;> first | rfl | cases hT) (nin_ths fun u mu e=>by rw [e] at hT; cases hT)
   have hm2:=F3.old _ _ nmv e2
   walk
   refine k_settle (dM hm rfl) F3.fin h12 tt.1 hm2 hT pl fun h3 md' F4 q12 qt=>?_
   have q0:=F4.old _ _ rfl h0
   have q1:=F4.old _ _ rfl h1e
   have qt':=qt
   unfold Hp.o heapO at q12
   unfold thO at qt'
   have len:(atL 16 (d.map (upd g))).length < 900000:=by rw [atL_len,List.length_map]; exact mid_lt eL (Nat.lt_of_le_of_lt (List.length_filter_le ..) (Nat.lt_trans hl (by decide)))
   walk
   refine si_dict q1 rfl len ?_
   rw [dput_new (fun p mp=>by obtain ⟨b,e,l⟩:=atL_lt p mp; exact ⟨b,e,by simpa using l⟩)]
   have qs:hset h3 (.g 1 e1) (.dict (atL 16 (d.map (upd g)) ++ [(.int (16 + 3 * (d.length:Int)),.ref (.th t.ser))])) (.s 12)=_:=hset_off rfl q12
   have qtt:hset h3 (.g 1 e1) (.dict (atL 16 (d.map (upd g)) ++ [(.int (16 + 3 * (d.length:Int)),.ref (.th t.ser))])) (.th t.ser)=_:=hset_off rfl qt'
   walk
   have up:Fw [.s 12,.g 1 e1,.th t.ser] h2 _:=((F4.weak (ms':=[.s 12,.g 1 e1,.th t.ser]) (by room)).set (n:=.g 1 e1) (o:=.dict (atL 16 (d.map (upd g)) ++ [(.int (16 + 3 * (d.length:Int)),.ref (.th t.ser))])) (by room)).set (n:=.s 12) (o:=({ x with eT:=e0,eA:=e1,top:=16 + 3 * (d.length:Int) + 3,moved:=md' }:Hp).o) (by room)
   have apm:=(eL ▸ hap:Apart (d ++ t :: l)).mid
   have keepT:∀ u∈d ++ l,nin (.th u.ser) [.s 12,.g 1 e1,.th t.ser]=true:=fun u mu=>by
    show (!false && (!false && (!(Nm.eqb (.th u.ser) (.th t.ser)) && true)))=true
    rw [Nm.eqb_ne (by intro e; injection e with e; exact apm u mu e)]; rfl
   refine kn _ _ (by k_ne) ⟨md',F3.trans (up.weak (fun n mn=>?_)),?_,up.old _ _ rfl h0,?_,?_,fun u mu=>?_⟩
   ·simp only [List.mem_cons,List.not_mem_nil,or_false] at mn
    rcases mn with rfl | rfl | rfl
    ·simp [setMs]
    ·simp [setMs]
    ·exact List.mem_append_right _ (List.mem_map.mpr ⟨t,mt,rfl⟩)
   ·have e5:(16 + 3 * ((d ++ [t]).length:Int))=16 + 3 * (d.length:Int) + 3:=by
     have:(d ++ [t]).length=d.length + 1:=by simp
     omega
    rw [hset_self,e5]; rfl
   ·rw [hset_ne (by room),hset_self,List.map_append,List.map_cons,List.map_nil,atL_snoc,upd_ser]; simp
   ·rw [List.map_append,List.map_cons,List.map_nil]
    refine ThsAt.snoc (ThsAt.keep (fun u mu o q=>?_) (fun u mu o q=>up.old _ _ rfl q) hth) ?_ ?_
    ·obtain ⟨v,mv',rfl⟩:=List.mem_map.mp mu
     rw [upd_ser] at q ⊢
     exact up.old _ _ (keepT v (by simp [mv'])) q
    ·rw [upd_ser,hset_ne (by room),hset_ne (by room),qt]; simp
    ·rw [upd_ser,upd_val]; exact up.old _ _ rfl tt.2
   ·have:=hrest u (List.mem_cons_of_mem _ mu)
    exact ⟨up.old _ _ (keepT u (by simp [mu])) this.1,up.old _ _ rfl this.2⟩
  ·obtain ⟨md,F3,h12,h0,h1e,hth,_⟩:=i
   walk
   have ok:∀ n,n=(.s 13)∨(∃ e,n = .g 2 e)∨(∃ e,n = .g 3 e)→nin n (setMs e0 e1 (ts.filter st))=true:=fun n q=>nin_app (by rcases q with rfl | ⟨e,rfl⟩ | ⟨e,rfl⟩ <;> rfl) (nin_ths fun u mu=>by rcases q with rfl | ⟨e,rfl⟩ | ⟨e,rfl⟩ <;> simp)
   exact k _ e0 e1 md F3 he0 he10 ⟨h12,by rw [h0]; simp [refs,upd_ser],h1e,F3.old _ _ (ok _ (.inr (.inl ⟨_,rfl⟩))) X.cards,F3.old _ _ (ok _ (.inr (.inr ⟨_,rfl⟩))) X.finals,F3.old _ _ (ok _ (.inl rfl)) X.ready,hth,apart_upd hap⟩
  ·rw [hset_ne (by room),hset_ne (by room),hset_ne (by room)]; exact el
  ·rw [hset_ne (by room),hset_self]; rfl
  ·have tt:=ths_at X.ap X.ths (hsub t mt)
   rw [hset_ne (by room),hset_ne (by room),hset_ne (by room),hset_ne (by room),hset_ne (by room),hset_ne (by room)]
   exact ⟨F.old _ _ (nin_new he0 tt.1) tt.1,F.old _ _ (nin_new he0 tt.2) tt.2⟩
section
theorem endO_old {g:Int}:∀ {old young:List Th} {a:Int},(∀ t∈old,t.gen > g)→(∀ t∈young,t.gen≤g)→endO g a a (old ++ young)=a + 3 * old.length
 | [],[],a,_,_=>by simp [endO]
 | [],t :: r,a,_,k=>by
  have go:∀ (l:List Th) (b:Int),(∀ t∈l,t.gen≤g)→endO g b a l=a:=by
   intro l
   induction l with
   | nil=>intro b _; rfl
   | cons u l ih =>
    intro b q
    rw [endO,mxO,if_neg (Int.not_lt.mpr (q u List.mem_cons_self))]
    exact ih _ fun v m=>q v (List.mem_cons_of_mem _ m)
  simpa using go (t :: r) a k
 | t :: r,young,a,k1,k2=>by
  show endO g a a (t :: (r ++ young))=_
  rw [endO,mxO,if_pos (k1 t List.mem_cons_self),if_pos (Int.lt_add_of_pos_right a (by decide)),endO_old (fun u m=>k1 u (List.mem_cons_of_mem _ m)) k2]
  simp; omega
theorem movesL_old {g:Int} {MK:List Nat} {young:List Th}:∀ {old:List Th} {a go:Int},(∀ t∈old,t.gen > g)→movesL g MK a go (old ++ young)=movesL g MK (a + 3 * old.length) go young
 | [],a,go,_=>by simp
 | t :: r,a,go,k=>by
  show movesL g MK a go (t :: (r ++ young))=_
  rw [movesL,if_neg (fun q=>Int.not_lt.mpr q.1 (k t List.mem_cons_self)),movesL_old fun u m=>k u (List.mem_cons_of_mem _ m)]
  congr 1; simp; omega
theorem movesL_low {g:Int} {MK:List Nat} {x:Int}:∀ {l:List Th} {a go:Int},x < a→dlk (.int x) (movesL g MK a go l)=none
 | [],a,go,_=>rfl
 | t :: r,a,go,k=>by
  rw [movesL]
  split
  ·rw [dlk_int,if_neg (Int.ne_of_gt k)]; exact movesL_low (Int.lt_trans k (Int.lt_add_of_pos_right a (by decide)))
  ·exact movesL_low (Int.lt_trans k (Int.lt_add_of_pos_right a (by decide)))
noncomputable def inMK (MK:List Nat) (t:Th):Bool:=decide (t.ser∈MK)
theorem movesL_at {g:Int} {MK:List Nat} {s:Nat}:∀ {l:List Th} {a go:Int},Apart l→(∀ t∈l,t.gen≤g)→In l s→dlk (.int (addrOf a l s)) (movesL g MK a go l)=if s∈MK then some (.int (addrOf go (l.filter (inMK MK)) s)) else none
 | [],_,_,_,_,z=>Exists.elim z fun _ z=>absurd z.1 List.not_mem_nil
 | t :: r,a,go,ap,k,hs=>by
  have kr:∀ u∈r,u.gen≤g:=fun u m=>k u (List.mem_cons_of_mem _ m)
  have kt:=k t List.mem_cons_self
  rw [addrOf,movesL,List.filter_cons]
  by_cases q:t.ser=s
  ·rw [if_pos q]
   by_cases q2:s∈MK
   ·have e:inMK MK t=true:=by unfold inMK; rw [q]; exact decide_eq_true q2
    rw [if_pos ⟨kt,q ▸ q2⟩,dlk_int,if_pos rfl,if_pos q2,e,if_pos rfl,addrOf,if_pos q]
   ·rw [if_neg fun z=>q2 (q ▸ z.2),if_neg q2,movesL_low (Int.lt_add_of_pos_right a (by decide))]
  ·obtain ⟨u,mu,eu⟩:=hs
   have hr:In r s:=by
    rcases List.mem_cons.mp mu with z | mu
    ·rw [z] at eu; exact absurd eu q
    ·exact ⟨u,mu,eu⟩
   have ge:=addrOf_ge (a:=a + 3) hr
   have ih:=fun go=>movesL_at (g:=g) (MK:=MK) (a:=a + 3) (go:=go) ap.2.2 kr hr
   rw [if_neg q]
   by_cases q2:t.ser∈MK
   ·have e:inMK MK t=true:=decide_eq_true q2
    rw [if_pos ⟨kt,q2⟩,dlk_int,if_neg (by omega),ih,e]
    by_cases q3:s∈MK
    ·rw [if_pos q3,if_pos q3,if_pos rfl,addrOf,if_neg q]
    ·rw [if_neg q3,if_neg q3]
   ·have e:inMK MK t=false:=decide_eq_false q2
    rw [if_neg fun z=>q2 z.2,ih,e]
    rfl
theorem addrOf_left {s:Nat} {young:List Th}:∀ {old:List Th} {a:Int},In old s→addrOf a (old ++ young) s=addrOf a old s
 | [],_,z=>Exists.elim z fun _ z=>absurd z.1 List.not_mem_nil
 | t :: r,a,z=>by
  obtain ⟨u,m,e⟩:=z
  show (if t.ser=s then a else addrOf (a + 3) (r ++ young) s)=if t.ser=s then a else addrOf (a + 3) r s
  by_cases q:t.ser=s
  ·rw [if_pos q,if_pos q]
  ·rw [if_neg q,if_neg q]
   refine addrOf_left ?_
   rcases List.mem_cons.mp m with z | m
   ·rw [z] at e; exact absurd e q
   ·exact ⟨u,m,e⟩
theorem addrOf_right {s:Nat} {young:List Th}:∀ {old:List Th} {a:Int},(¬ In old s)→addrOf a (old ++ young) s=addrOf (a + 3 * old.length) young s
 | [],a,_=>by simp
 | t :: r,a,n=>by
  show (if t.ser=s then a else addrOf (a + 3) (r ++ young) s)=_
  rw [if_neg fun q=>n ⟨t,List.mem_cons_self,q⟩,addrOf_right fun ⟨u,m,e⟩=>n ⟨u,List.mem_cons_of_mem _ m,e⟩]
  congr 1; simp; omega
theorem addrOf_upd {g:Int} {s:Nat}:∀ {l:List Th} {a:Int},addrOf a (l.map (upd g)) s=addrOf a l s
 | [],a=>rfl
 | t :: r,a=>by
  show (if (upd g t).ser=s then a else addrOf (a + 3) (r.map (upd g)) s)=if t.ser=s then a else addrOf (a + 3) r s
  rw [upd_ser,addrOf_upd]
structure Split (g:Int) (ts old young:List Th):Prop where
 eq:ts=old ++ young
 o:∀ t∈old,t.gen > g
 y:∀ t∈young,t.gen≤g
noncomputable def stF (g:Int) (MK:List Nat) (t:Th):Bool:=decide (t.gen > g) || decide (t.ser∈MK)
section
variable {g:Int} {ts old young:List Th} {MK:List Nat}
theorem Split.filter (x:Split g ts old young):ts.filter (stF g MK)=old ++ young.filter (inMK MK):=by
 rw [x.eq,List.filter_append]
 congr 1
 ·rw [List.filter_eq_self]
  intro t m
  unfold stF
  rw [decide_eq_true (x.o t m)]; rfl
 ·apply List.filter_congr
  intro t m
  unfold stF inMK
  rw [decide_eq_false (Int.not_lt.mpr (x.y t m))]; rfl
theorem apart_app:∀ {a b:List Th},Apart (a ++ b)→Apart a∧Apart b∧∀ t∈a,∀ u∈b,t.ser≠u.ser
 | [],b,x=>⟨trivial,x,fun t m=>by cases m⟩
 | t :: r,b,x=>by
  have ih:=apart_app x.2.2
  refine ⟨⟨x.1,fun u m=>x.2.1 u (List.mem_append_left _ m),ih.1⟩,ih.2.1,fun v mv u mu=>?_⟩
  rcases List.mem_cons.mp mv with rfl | mv
  ·exact fun e=>x.2.1 u (List.mem_append_right _ mu) e.symm
  ·exact ih.2.2 v mv u mu
noncomputable def mvM (g:Int) (MK:List Nat) (ts:List Th):List (AVal×AVal):=movesL g MK 16 (endO g 16 16 ts) ts
theorem mv_old (x:Split g ts old young) (ap:Apart ts) {t:Th} (m:t∈old):addrOf 16 ts t.ser=addrOf 16 (ts.filter (stF g MK)) t.ser∧dlk (.int (addrOf 16 ts t.ser)) (mvM g MK ts)=none:=by
 have hin:In old t.ser:=⟨t,m,rfl⟩
 rw [x.filter,x.eq,addrOf_left hin,addrOf_left hin]
 refine ⟨rfl,?_⟩
 unfold mvM
 rw [endO_old x.o x.y,movesL_old x.o]
 refine movesL_low ?_
 obtain ⟨a,b,e⟩:=List.append_of_mem m
 rw [e]
 rw [x.eq] at ap
 rw [addr_split (e ▸ (apart_app ap).1)]
 simp; omega
theorem mv_young (x:Split g ts old young) (ap:Apart ts) {t:Th} (m:t∈young):dlk (.int (addrOf 16 ts t.ser)) (mvM g MK ts)=if t.ser∈MK then some (.int (addrOf 16 (ts.filter (stF g MK)) t.ser)) else none:=by
 rw [x.eq] at ap
 have A:=apart_app ap
 have hn:¬ In old t.ser:=fun ⟨u,mu,e⟩=>A.2.2 u mu t m e
 unfold mvM
 rw [x.filter,x.eq,endO_old x.o x.y,movesL_old x.o,addrOf_right hn,addrOf_right hn]
 exact movesL_at A.2.1 x.y ⟨t,m,rfl⟩
theorem mv_st (x:Split g ts old young) (ap:Apart ts):∀ t∈ts,(decide (t.gen > g) || (dlk (.int (addrOf 16 ts t.ser)) (mvM g MK ts)).isSome)=stF g MK t:=fun t m=>by
 unfold stF
 have m':=m
 rw [x.eq] at m'
 rcases List.mem_append.mp m' with q | q
 ·rw [decide_eq_true (x.o t q)]; rfl
 ·rw [mv_young x ap q,decide_eq_false (Int.not_lt.mpr (x.y t q))]
  by_cases z:t.ser∈MK
  ·rw [if_pos z,decide_eq_true z]; rfl
  ·rw [if_neg z,decide_eq_false z]; rfl
theorem mv_plan (x:Split g ts old young) (ap:Apart ts):∀ l1 t l2,ts.filter (stF g MK)=l1 ++ t :: l2→if t.gen > g then addrOf 16 ts t.ser=16 + 3 * l1.length else dlk (.int (addrOf 16 ts t.ser)) (mvM g MK ts)=some (.int (16 + 3 * l1.length)):=fun l1 t l2 e=>by
 have apF:Apart (ts.filter (stF g MK)):=apart_filter ap
 have ha:addrOf 16 (ts.filter (stF g MK)) t.ser=16 + 3 * l1.length:=by rw [e]; exact addr_split (e ▸ apF)
 have mt:t∈ts.filter (stF g MK):=by rw [e]; simp
 obtain ⟨m1,m2⟩:=List.mem_filter.mp mt
 have m':=m1
 rw [x.eq] at m'
 rcases List.mem_append.mp m' with q | q
 ·rw [if_pos (x.o t q),(mv_old (MK:=MK) x ap q).1,ha]
 ·rw [if_neg (Int.not_lt.mpr (x.y t q)),mv_young x ap q]
  unfold stF at m2
  rw [decide_eq_false (Int.not_lt.mpr (x.y t q)),Bool.false_or] at m2
  rw [if_pos (of_decide_eq_true m2),ha]
theorem mv_ref (x:Split g ts old young) (ap:Apart ts) {s:Nat} (hs:s=0∨∃ t∈ts,t.ser=s∧stF g MK t=true):(dlk (.int (ra ts s)) (mvM g MK ts)).getD (.int (ra ts s)) = .int (ra ((ts.filter (stF g MK)).map (upd g)) s):=by
 by_cases h0:s=0
 ·subst h0
  show (dlk (.int 0) (mvM g MK ts)).getD (.int 0) = .int 0
  unfold mvM
  rw [movesL_low (by omega)]; rfl
 ·obtain ⟨t,mt,rfl,st⟩:=hs.elim (fun e=>absurd e h0) id
  unfold ra
  rw [if_neg h0,if_neg h0,addrOf_upd]
  have m':=mt
  rw [x.eq] at m'
  rcases List.mem_append.mp m' with q | q
  ·have:=mv_old (MK:=MK) x ap q
   rw [this.2,← this.1]; rfl
  ·rw [mv_young x ap q]
   unfold stF at st
   rw [decide_eq_false (Int.not_lt.mpr (x.y t q)),Bool.false_or] at st
   rw [if_pos (of_decide_eq_true st)]; rfl
end
end
structure Fp (P:Nm→Bool) (h h':AH):Prop where
 old:∀ n o,P n=true→h n=some o→h' n=some o
 nt:∀ n,isT n=false→P n=true→h' n=h n
 fin:FinT h'
theorem Fw.toP {P:Nm→Bool} {ms:List Nm} {h h':AH} (f:Fw ms h h') (k:∀ n,P n=true→nin n ms=true):Fp P h h':=⟨fun n o p e=>f.old n o (k n p) e,fun n t p=>f.nt n t (k n p),f.fin⟩
theorem Fp.trans {P:Nm→Bool} {h h1 h2:AH} (x:Fp P h h1) (y:Fp P h1 h2):Fp P h h2:=⟨fun n o i e=>y.old n o i (x.old n o i e),fun n a b=>(y.nt n a b).trans (x.nt n a b),y.fin⟩
noncomputable def HV.ev (ts:List Th):HV→EV
 | .ref s=>.ref (ra ts s)
 | .raw true n=>.oth 1 [.int n]
 | .raw false n=>.oth 3 [.int n]
noncomputable def SV.ev:SV→EV
 | .txt s=>.oth 8 [.str s]
 | .knd k=>.oth 1 [.int k]
theorem HV.ev_enc (ts:List Th) (v:HV):(v.ev ts).enc=v.enc ts:=by
 cases v with
 | ref s=>rfl
 | raw b n=>cases b <;> rfl
theorem HV.ev_ok (ts:List Th) (v:HV):(v.ev ts).ok:=by
 cases v with
 | ref s=>exact trivial
 | raw b n=>cases b <;> exact ⟨rfl,rfl,rfl⟩
theorem SV.ev_enc (v:SV):v.ev.enc=v.enc:=by cases v <;> rfl
theorem SV.ev_ok (v:SV):v.ev.ok:=by cases v <;> exact ⟨rfl,rfl,rfl⟩
theorem SV.ev_mv (v:SV) (M:List (AVal×AVal)):v.ev.mv M=v.enc:=by cases v <;> rfl
noncomputable def rOk:Nm→Bool
 | .t _=>true
 | .g k _=>Nat.ble 4 k
 | .s k=>!(Nat.beq k 12) && !(Nat.beq k 13) && !(Nat.beq k 60) && !(Nat.beq k 61)
 | _=>false
noncomputable def pK (B:Nat) (ns:List Nm) (n:Nm):Bool:=(match n with
 | .t _=>true
 | .g k _=>Nat.ble 4 k
 | .s k=>!(Nat.beq k 12) && !(Nat.beq k 13)
 | .th k=>Nat.blt B k
 | .sl k=>Nat.blt B k) && nin n ns
noncomputable def nms (Ls:List (Nm×List HV)):List Nm:=Ls.map (·.1)
theorem k_Words (hm:2≤m) {n:Nm} {a b:AVal} (k:K .none (hset h n (.inst c_Words [("heap",a),("moves",b)]))):CF w H0 m f_Words___init__ [.ref n,a,b] (hset h n (.inst c_Words [])) K:=by
 refine cf_run (dN hm rfl) rfl rfl rfl rfl ?_
 walk
 all_goals exact k
theorem mv_hv {g:Int} {ts old young:List Th} {MK:List Nat} (x:Split g ts old young) (ap:Apart ts) {v:HV} (hv:∀ s,v = .ref s→s=0∨∃ t∈ts,t.ser=s∧stF g MK t=true):(v.ev ts).mv (mvM g MK ts)=v.enc ((ts.filter (stF g MK)).map (upd g)):=by
 cases v with
 | ref s =>
  show AVal.tup [.int 4,_]=_
  rw [mv_ref x ap (hv s rfl)]; rfl
 | raw b n=>cases b <;> rfl
theorem nodup_app' {a b:List Nm} (x:a.Nodup) (y:b.Nodup) (z:∀ n∈a,n∉b):(a ++ b).Nodup:=List.nodup_append.mpr ⟨x,y,fun n m n' m' e=>z n m (e ▸ m')⟩
theorem sl_nodup:∀ {L:List Th},Apart L→(L.map fun t=>Nm.sl t.ser).Nodup
 | [],_=>List.nodup_nil
 | t :: r,x=>by
  refine List.nodup_cons.mpr ⟨fun m=>?_,sl_nodup x.2.2⟩
  obtain ⟨u,mu,e⟩:=List.mem_map.mp m
  injection e with e
  exact x.2.1 u mu e
theorem nin_of {n:Nm} {ns:List Nm} (k:n∉ns):nin n ns=true:=by
 induction ns with
 | nil=>rfl
 | cons a r ih =>
  show (!(Nm.eqb n a) && nin n r)=true
  rw [Nm.eqb_ne (fun e=>k (by rw [e]; exact List.mem_cons_self)),ih fun q=>k (List.mem_cons_of_mem _ q)]; rfl
theorem not_mem_of {n:Nm} {ns:List Nm} (k:nin n ns=true):n∉ns:=fun m=>nin_ne k m rfl
theorem mem_tot {p:Nm×List HV}:∀ {Ls:List (Nm×List HV)},p∈Ls→p.2.length≤tot Ls
 | a :: r,m=>by
  rw [tot]
  rcases List.mem_cons.mp m with rfl | m
  ·omega
  ·have:=mem_tot m
   omega
theorem rOk_hOk {n:Nm} (e:rOk n=true):hOk n=true:=by
 cases n with
 | s k =>
  unfold rOk at e
  simp only [Bool.and_eq_true] at e
  show (!(Nat.beq k 12) && !(Nat.beq k 13))=true
  rw [e.1.1.1,e.1.1.2]; rfl
 | th k=>cases e
 | sl k=>cases e
 | t k=>rfl
 | g k j=>exact e
noncomputable def slR (g:Int) (MK:List Nat) (l:List Th):List AVal:=(l.filter (stF g MK)).map fun t=>.ref (.sl t.ser)
theorem slR_t {g:Int} {MK:List Nat} {l:List Th} {t:Th} (q:stF g MK t=true):slR g MK (l ++ [t])=slR g MK l ++ [.ref (.sl t.ser)]:=by
 unfold slR
 rw [filter_t q,List.map_append]; rfl
theorem slR_f {g:Int} {MK:List Nat} {l:List Th} {t:Th} (q:stF g MK t=false):slR g MK (l ++ [t])=slR g MK l:=by
 unfold slR
 rw [filter_f q]
theorem slR_len {g:Int} {MK:List Nat} {l:List Th}:(slR g MK l).length≤l.length:=by
 unfold slR
 rw [List.length_map]; exact List.length_filter_le ..
theorem k_move_all (hm:12≤m) {B:Nat} {x:Hp} {ts old young:List Th} {g:Int} {nl mv:Nm} {MK:List Nat} {Ls:List (Nm×List HV)} (fin:FinT h) (X:HpAt h x ts) (sp:Split g ts old young) (e2:h mv=some (.dict (mvM g MK ts))) (hT:isT mv=true) (hl:ts.length < 300)
  (hn:h nl=some (.list ((nms Ls).map .ref))) (hL:LsAt h ts Ls) (hl2:tot Ls < 900) (hl3:Ls.length < 400) (nd:(nms Ls).Nodup) (ok:∀ n∈nms Ls,rOk n=true) (n1:nin nl (nms Ls)=true) (n1T:isT nl=true) (n2:nin mv (nms Ls)=true)
  (hB:∀ t∈ts,t.ser≤B) (hr:∀ p∈Ls,∀ s,HV.ref s∈p.2→s=0∨∃ t∈ts,t.ser=s∧stF g MK t=true)
  (k:∀ h' x',Fp (pK B (nms Ls)) h h'→LsAt h' ((ts.filter (stF g MK)).map (upd g)) Ls→HpAt h' x' ((ts.filter (stF g MK)).map (upd g))→x'.top=16 + 3 * (ts.filter (stF g MK)).length→x'.limit=x.limit→x'.fresh=x.fresh→x'.young=x.young→x'.made=x.made→K .none h'):CF w H0 m f_move_all [.ref (.s 12),.ref nl,.ref mv,.int g] h K:=by
 refine cf_run (dN hm rfl) rfl rfl rfl rfl ?_
 walk
 obtain ⟨jw,hjw⟩:=fin.new
 refine ni (nm:=.t jw) rfl hjw rfl ?_
 refine k_Words (dM hm rfl) ?_
 have F1:Fw [] h (hset h (.t jw) (.inst c_Words [("heap",.ref (.s 12)),("moves",.ref mv)])):=(Fw.refl fin).new hjw
 generalize hset h (.t jw) (.inst c_Words [("heap",.ref (.s 12)),("moves",.ref mv)])=h1 at *
 walk
 obtain ⟨j,hj⟩:=F1.fin.new
 refine no_list (.t j) (by room) hj ?_
 have F2:Fw [] h1 (hset h1 (.t j) (.list [])):=(Fw.refl F1.fin).new hj
 have hn2:=F2.old _ _ rfl (F1.old _ _ rfl hn)
 have F12:=F1.trans F2
 have X2:=X.fw F12 rfl
 have e22:=F12.old _ _ rfl e2
 have hj2:=hset_at (h:=h1) (n:=.t j) (o:=.list [])
 have hj0:h (.t j)=none:=F1.none (fun _ _=>rfl) hj
 generalize hset h1 (.t j) (.list [])=h2 at *
 have hh2:=X2.hp
 unfold Hp.o heapO at hh2
 walk
 have hlN:(nms Ls).length < 400:=by rw [nms,List.length_map]; exact hl3
 refine fr_each ["values"] .ref (nms Ls) rfl (I:=fun d _ _ h3=>Fw [.t j] h2 h3∧h3 (.t j)=some (.list (d.map .ref))) (fun _ _ _ _ i=>i.1.old _ _ (nin_new hj0 hn) hn2)
  (fun d q l loc1 h3 em L i K' kn=>?_) (fun loc1 h3 L i=>?_) ⟨Fw.refl F12.fin,hj2⟩
 ·have ej:=i.2
  have len:=len_mid AVal.ref em (Nat.lt_trans hlN (by decide:400 < 900000))
  walk
  exact kn _ _ (by k_ne) ⟨i.1.set (by room),put_map _⟩
 ·obtain ⟨F3,ej⟩:=i
  have hh3:=F3.old _ _ rfl hh2
  have len:=len_all AVal.ref (Nat.lt_trans hlN (by decide:400 < 900000))
  walk
  have F4:Fw [.t j] h2 (hset h3 (.t j) (.list ((nms Ls).map .ref ++ [.ref (.s 13)]))):=F3.set (by room)
  have hh4:=F4.old _ _ rfl hh2
  have ht4:=F4.old _ _ rfl X2.things
  walk
  have ejn:nin mv [.t j]=true:=nin_new hj0 e2
  refine fr_each ["thing"] (fun t:Th=>.ref (.th t.ser)) ts rfl (I:=fun d _ _ h5=>Fw [.t j] h2 h5∧h5 (.t j)=some (.list ((nms Ls).map .ref ++ [.ref (.s 13)] ++ slR g MK d))) (fun _ _ _ _ i=>i.1.old _ _ rfl X2.things)
   (fun d t l loc1 h5 et M i K' kn=>?_) (fun loc1 h5 M i=>?_) ⟨F4,hset_at.trans (congrArg (fun z=>some (AObj.list z)) (List.append_nil _).symm)⟩
  ·obtain ⟨F5,ej⟩:=i
   have mt:=mem_mid et
   have tt:=F5.old _ _ rfl (ths_at X.ap X2.ths mt).1
   have tt':=tt
   unfold thO at tt'
   walk
   refine k_stays (dM hm rfl) tt (F5.old _ _ ejn e22) ?_
   rw [mv_st sp X.ap t mt]
   have len3:((nms Ls).map AVal.ref ++ [AVal.ref (.s 13)] ++ slR g MK d).length < 900000:=by
    rw [List.length_append,List.length_append,List.length_map]
    exact Nat.lt_trans (Nat.add_lt_add (Nat.add_lt_add_right hlN 1) (Nat.lt_of_le_of_lt slR_len (mid_lt et hl))) (by decide)
   walk
   refine vi (fun q=>?_) fun q=>?_
   ·walk
    exact kn _ _ (by k_ne) ⟨F5.set (by room),by rw [hset_self,slR_t q,List.append_assoc]⟩
   ·walk
    exact kn _ _ (by k_ne) ⟨F5,by rw [ej,slR_f q]⟩
  ·obtain ⟨F5,ej⟩:=i
   have hap:Apart (ts.filter (stF g MK)):=apart_filter X.ap
   have hsub:∀ t∈ts.filter (stF g MK),t∈ts:=fun t mt=>(List.mem_filter.mp mt).1
   have hLl:(ts.filter (stF g MK)).length≤ts.length:=List.length_filter_le ..
   have X5:=X2.fw F5 rfl
   have e25:=F5.old _ _ ejn e22
   let Es:List (Nm×List EV):=Ls.map (fun p=>(p.1,p.2.map (HV.ev ts))) ++ [(Nm.s 13,[])] ++ (ts.filter (stF g MK)).map fun t=>(Nm.sl t.ser,[t.val.ev])
   have hEs:Es.map (fun p=>AVal.ref p.1)=(nms Ls).map AVal.ref ++ [AVal.ref (.s 13)] ++ slR g MK ts:=by
    show (Ls.map _ ++ [(Nm.s 13,[])] ++ (ts.filter (stF g MK)).map _).map _=_
    rw [List.map_append,List.map_append,List.map_map,List.map_map]
    unfold nms slR
    rw [List.map_map]; rfl
   have hEn:Es.map (·.1)=nms Ls ++ [Nm.s 13] ++ (ts.filter (stF g MK)).map fun (t:Th)=>Nm.sl t.ser:=by
    show (Ls.map _ ++ [(Nm.s 13,[])] ++ (ts.filter (stF g MK)).map _).map _=_
    rw [List.map_append,List.map_append,List.map_map,List.map_map]
    unfold nms
    rfl
   have inE:∀ n,n∈Es.map (·.1)→n∈nms Ls∨n = .s 13∨∃ u,u∈ts.filter (stF g MK)∧Nm.sl u.ser=n:=fun n mm=>by
    rw [hEn] at mm
    exact (List.mem_append.mp mm).elim (fun mm=>(List.mem_append.mp mm).imp id fun mm=>.inl (List.mem_singleton.mp mm)) fun mm=>.inr (.inr (List.mem_map.mp mm))
   have hE:∀ h',Fw [.t j] h2 h'→EsAt h' Es:=fun h' F p mp=>by
    rcases List.mem_append.mp mp with mp | mp
    ·rcases List.mem_append.mp mp with mp | mp
     ·obtain ⟨q,mq,rfl⟩:=List.mem_map.mp mp
      have:=hL q mq
      refine ⟨?_,fun v mv=>?_,?_⟩
      ·have z:=F.old _ _ (nin_new hj0 this.1) (F12.old _ _ rfl this.1)
       show h' q.1=some (.list ((q.2.map (HV.ev ts)).map EV.enc))
       have e9:q.2.map (HV.enc ts)=(q.2.map (HV.ev ts)).map EV.enc:=by rw [List.map_map]; exact List.map_congr_left fun v _=>(HV.ev_enc ts v).symm
       rw [z,e9]
      ·obtain ⟨u,_,rfl⟩:=List.mem_map.mp mv; exact HV.ev_ok ts u
      ·show (q.2.map (HV.ev ts)).length < 1000
       have:=mem_tot mq
       simp; omega
     ·rw [List.mem_singleton.mp mp]
      exact ⟨F.old _ _ rfl X2.ready,(fun v mv=>by cases mv),by simp⟩
    ·obtain ⟨t,mt,rfl⟩:=List.mem_map.mp mp
     have tt:=(ths_at X.ap X2.ths (hsub t mt)).2
     refine ⟨?_,fun v mv=>?_,by simp⟩
     ·rw [F.old _ _ rfl tt]; simp [SV.ev_enc]
     ·rw [List.mem_singleton.mp mv]; exact SV.ev_ok _
   have hEl:Es.length < 1000:=by simp [Es]; omega
   walk
   refine k_new_lists (Es:=Es) (dM hm rfl) F5.fin (by rw [ej,hEs]) (hE _ F5) e25 hEl fun h6 jn js F6 hjn ejs fs fj=>?_
   have al5:∀ n∈Es.map (·.1),∃ o,h5 n=some o:=fun n mn=>by
    obtain ⟨p,mp,rfl⟩:=List.mem_map.mp mn
    exact ⟨_,(hE _ F5 p mp).1⟩
   have aln:∀ n∈nms Ls,∃ o,h n=some o:=fun n mn=>by
    obtain ⟨p,mp,rfl⟩:=List.mem_map.mp mn
    exact ⟨_,(hL p mp).1⟩
   have deadT:∀ i,h5 (.t i)=none→nin (.t i) (Es.map (·.1))=true:=fun i hi=>nin_of fun mm=>by
    obtain ⟨o,ho⟩:=al5 _ mm
    rw [hi] at ho; cases ho
   have njE:nin (.t j) (Es.map (·.1))=true:=nin_of fun mm=>(inE _ mm).elim (fun mm=>(aln _ mm).elim fun o ho=>nos (hj0.symm.trans ho)) fun mm=>mm.elim (fun e=>nomatch e) fun ⟨_,_,e⟩=>nomatch e
   have hnd:(Es.map (·.1)).Nodup:=by
    rw [hEn]
    refine nodup_app' (nodup_app' nd (by room) fun n mn q=>?_) (sl_nodup hap) fun n mn q=>?_
    ·have:=ok n mn
     rw [List.mem_singleton.mp q] at this; cases this
    ·obtain ⟨u,_,rfl⟩:=List.mem_map.mp q
     rcases List.mem_append.mp mn with mn | mn
     ·have:=ok _ mn; cases this
     ·cases List.mem_singleton.mp mn
   walk
   refine k_put_lists (Es:=Es) (js:=js) (dM hm rfl) F6.fin (by rw [F6.old _ _ rfl ej,hEs]) ejs (hE _ (F5.trans (F6.weak (by room)))) fs hEl hnd njE (deadT _ hjn) (fun i mi=>deadT i (fj i mi).1) fun h7 F7 hp7=>?_
   have nE:∀ n,hOk n=false→n≠.s 13→(∀ s,n≠.sl s)→nin n (Es.map (·.1))=true:=fun n q1 q2 q3=>nin_of fun mm=>(inE _ mm).elim (fun mm=>ft (q1.symm.trans (rOk_hOk (ok n mm)))) fun mm=>mm.elim q2 fun ⟨_,_,e⟩=>q3 _ e.symm
   have X6:=X5.fw F6 rfl
   have ready7:h7 (.s 13)=some (.list []):=hp7 (Nm.s 13,[]) (by simp [Es])
   have ths7:ThsAt h7 16 ts:=ThsAt.keep (h:=h6) (fun u mu o q=>F7.old _ _ (nE _ rfl (by room) (by room)) q) (fun u mu o q=>by
    by_cases z:stF g MK u=true
    ·have:=hp7 (.sl u.ser,[u.val.ev]) (List.mem_append_right _ (List.mem_map.mpr ⟨u,List.mem_filter.mpr ⟨mu,z⟩,rfl⟩))
     rw [(ths_at X.ap X6.ths mu).2] at q
     cases q
     rw [this]; simp [SV.ev_mv]
    ·refine F7.old _ _ (nin_of fun mm=>?_) q
     rcases inE _ mm with mm | mm | ⟨v,mv',e⟩
     ·exact ft (ok _ mm)
     ·exact nomatch mm
     ·have e:=Nm.sl.inj e
      refine (List.append_of_mem mu).elim fun a1 y=>y.elim fun a2 ea=>?_
      have md:=fun q=>(ea ▸ X.ap:Apart (a1 ++ u :: a2)).mid v q e
      rcases List.mem_append.mp (ea ▸ hsub v mv') with q1 | q1
      ·exact md (List.mem_append_left _ q1)
      ·rcases List.mem_cons.mp q1 with q1 | q1
       ·rw [q1] at mv'
        exact z (List.mem_filter.mp mv').2
       ·exact md (List.mem_append_right _ q1)) X6.ths
   have X7:HpAt h7 x ts:=⟨F7.old _ _ (nE _ rfl (by room) (by room)) X6.hp,F7.old _ _ (nE _ rfl (by room) (by room)) X6.things,F7.old _ _ (nE _ rfl (by room) (by room)) X6.at_,F7.old _ _ (nE _ rfl (by room) (by room)) X6.cards,F7.old _ _ (nE _ rfl (by room) (by room)) X6.finals,ready7,ths7,X.ap⟩
   have mvE:nin mv (Es.map (·.1))=true:=nin_of fun mm=>(inE _ mm).elim (not_mem_of n2) fun mm=>mm.elim (fun e=>ft ((congrArg isT e).symm.trans hT)) fun ⟨_,_,e⟩=>ft ((congrArg isT e).trans hT)
   have e27:=F7.old _ _ mvE (F6.old _ _ rfl e25)
   have L7:∀ p∈Ls,h7 p.1=some (.list (p.2.map (HV.enc ((ts.filter (stF g MK)).map (upd g))))):=fun p mp=>by
    have:=hp7 (p.1,p.2.map (HV.ev ts)) (by simp only [Es]; exact List.mem_append_left _ (List.mem_append_left _ (List.mem_map.mpr ⟨p,mp,rfl⟩)))
    rw [this,List.map_map]
    congr 2
    exact List.map_congr_left fun v mv=>mv_hv sp X.ap fun s e=>hr p mp s (e ▸ mv)
   have hh7:=X7.hp
   unfold Hp.o heapO at hh7
   walk
   obtain ⟨e,he⟩:=F7.fin.newG 3
   refine k_moved_addrs (n:=.g 3 e) (dM hm rfl) X7.finals he ?_
   have hh8:=hset_off (o':=.list []) (show Nm.eqb (.s 12) (.g 3 e)=false from rfl) hh7
   walk
   have F8:Fw [.g 3 e,.s 12] h7 (hset (hset h7 (.g 3 e) (.list [])) (.s 12) ({ x with eF:=e }:Hp).o):=((Fw.refl F7.fin).set (by room)).set (by room)
   have X8:HpAt (hset (hset h7 (.g 3 e) (.list [])) (.s 12) ({ x with eF:=e }:Hp).o) { x with eF:=e } ts :=
    ⟨hset_at,F8.old _ _ rfl X7.things,F8.old _ _ rfl X7.at_,F8.old _ _ rfl X7.cards,hset_off rfl hset_at,F8.old _ _ rfl X7.ready,X7.ths.fw F8 fun s=>⟨rfl,rfl⟩,X.ap⟩
   have mv8:nin mv [.g 3 e,.s 12]=true:=by cases mv <;> first | rfl | cases hT
   refine k_settle_things (x:={ x with eF:=e }) (st:=stF g MK) (dM hm rfl) F8.fin X8 (F8.old _ _ mv8 e27) hT (lt_le hl rfl) (mv_st sp X.ap) (mv_plan sp X.ap) fun h9 a0 a1 md F9 ha0 ha1 X9=>?_
   walk
   have P1:∀ n,pK B (nms Ls) n=true→nin n (nms Ls)=true:=fun n q=>(Bool.and_eq_true_iff.mp q).2
   have nb:∀ n,pK B (nms Ls) n=true→n≠.s 12∧n≠.s 13∧(∀ e,n≠.g 0 e∧n≠.g 1 e∧n≠.g 3 e)∧(∀ t∈ts,n≠.th t.ser∧n≠.sl t.ser):=fun n q=>by
    have no:∀ {c},n=c→pK B (nms Ls) c=true:=fun z=>z ▸ q
    exact ⟨fun z=>ft (no z),fun z=>ft (no z),fun e=>⟨fun z=>ft (no z),fun z=>ft (no z),fun z=>ft (no z)⟩,fun u mu=>⟨fun z=>Nat.not_lt.mpr (hB u mu) (Nat.le_of_ble_eq_true (Bool.and_eq_true_iff.mp (no z)).1),fun z=>Nat.not_lt.mpr (hB u mu) (Nat.le_of_ble_eq_true (Bool.and_eq_true_iff.mp (no z)).1)⟩⟩
   have rk:∀ n∈nms Ls,n≠.s 12∧(∀ e,n≠.g 0 e∧n≠.g 1 e∧n≠.g 3 e)∧(∀ s,n≠.th s):=fun n mn=>by
    have no:∀ {c},n=c→rOk c=true:=fun z=>z ▸ ok n mn
    exact ⟨fun z=>ft (no z),fun e=>⟨fun z=>ft (no z),fun z=>ft (no z),fun z=>ft (no z)⟩,fun s z=>ft (no z)⟩
   have set9:∀ n,n≠.s 12→(∀ e,n≠.g 0 e∧n≠.g 1 e∧n≠.g 3 e)→(∀ t∈ts,n≠.th t.ser)→nin n (setMs a0 a1 (ts.filter (stF g MK)))=true:=fun n q1 q2 q3=>nin_app (by
    show (!(Nm.eqb n (.s 12)) && (!(Nm.eqb n (.g 0 a0)) && (!(Nm.eqb n (.g 1 a1)) && true)))=true
    rw [Nm.eqb_ne q1,Nm.eqb_ne (q2 a0).1,Nm.eqb_ne (q2 a1).2.1]; rfl) (nin_ths fun t mt=>q3 _ (hsub t mt))
   have E7n:∀ n,pK B (nms Ls) n=true→nin n (Es.map (·.1))=true:=fun n q=>by
    rw [hEn]
    refine nin_app (nin_app (P1 n q) ?_) (nin_of fun mm=>?_)
    ·show (!(Nm.eqb n (.s 13)) && true)=true
     rw [Nm.eqb_ne (nb n q).2.1]; rfl
    ·obtain ⟨u,mu,rfl⟩:=List.mem_map.mp mm
     exact ((nb _ q).2.2.2 u (hsub u (by assumption))).2 rfl
   refine k h9 _ ?_ (fun p mp=>?_) X9 rfl rfl rfl rfl rfl
   ·have f5:Fw [] h h5:=Fw.less hj0 ((F12.weak (by room)).trans F5)
    refine (((f5.toP fun n _=>rfl).trans (F6.toP fun n _=>rfl)).trans (F7.toP E7n)).trans ((F8.toP fun n q=>nin2 ((nb n q).2.2.1 e).2.2 (nb n q).1).trans (F9.toP fun n q=>set9 n (nb n q).1 (nb n q).2.2.1 fun u mu=>((nb n q).2.2.2 u mu).1))
   ·have mn:p.1∈nms Ls:=List.mem_map_of_mem mp
    have r:=rk _ mn
    refine ⟨F9.old _ _ (set9 _ r.1 r.2.1 fun u _=>r.2.2 u.ser) (F8.old _ _ (nin2 (r.2.1 e).2.2 r.1) (L7 p mp)),fun v mv=>?_⟩
    cases v with
    | raw b n=>exact trivial
    | ref s =>
     rcases hr p mp s mv with q | ⟨t,mt,et,st⟩
     ·exact .inl q
     ·exact .inr ⟨upd g t,List.mem_map.mpr ⟨t,List.mem_filter.mpr ⟨mt,st⟩,rfl⟩,by rw [upd_ser]; exact et⟩
theorem k_refers_younger (hm:4≤m) {v:SV} {n:AVal} (fin:FinT h) (k:∀ h',Fw [] h h'→K (.bool false) h'):CF w H0 m f_refers_younger [.ref (.s 12),n,v.enc] h K:=by
 refine cf_run (dN hm rfl) rfl rfl rfl rfl ?_
 have go:∀ (t:Int) (r:List AVal) (K2:KV),decide (t=4)=false→decide (t=5)=false→(∀ j,h (.t j)=none→K2 (.ref (.t j)) (hset h (.t j) (.list [])))→CF w H0 (m - 2) f_refs_in [.tup (.int t :: r)] h K2:=fun t r K2 h4 h5 k2=>k_refs_in (by omega) h4 h5 fin k2
 cases v with
 | txt s =>
  unfold SV.enc
  walk
  refine go _ _ _ rfl rfl fun j hj=>?_
  walk
  refine fr_nil hset_at ?_
  walk
  exact k _ ((Fw.refl fin).new hj)
 | knd n =>
  unfold SV.enc
  walk
  refine go _ _ _ rfl rfl fun j hj=>?_
  walk
  refine fr_nil hset_at ?_
  walk
  exact k _ ((Fw.refl fin).new hj)
theorem k_younger_slots (hm:6≤m) {x:Hp} {ts:List Th} (fin:FinT h) (X:HpAt h x ts) (k:∀ h' j,Fw [] h h'→h (.t j)=none→h' (.t j)=some (.list [])→K (.ref (.t j)) h'):CF w H0 m f_younger_slots [.ref (.s 12)] h K:=by
 refine cf_run (dN hm rfl) rfl rfl rfl rfl ?_
 walk
 obtain ⟨j,hj⟩:=fin.new
 refine no_list (.t j) (by room) hj ?_
 have F0:Fw [] h (hset h (.t j) (.list [])):=(Fw.refl fin).new hj
 have X0:=X.fw F0 rfl
 have hh:=X0.hp
 unfold Hp.o heapO at hh
 have hj2:=hset_at (h:=h) (n:=.t j) (o:=.list [])
 generalize hset h (.t j) (.list [])=h0 at *
 have ht0:=X0.things
 walk
 refine fr_each ["thing","slot"] (fun t:Th=>.ref (.th t.ser)) ts rfl (I:=fun _ _ _ h1=>Fw [] h0 h1) (fun _ _ _ _ F=>F.old _ _ rfl X0.things) (fun d u l loc hh1 et L F K' hn=>?_) (fun loc hh1 L F=>?_) (Fw.refl F0.fin)
 ·have tt:=ths_at X0.ap X0.ths (mem_mid et)
  have t1:=F.old _ _ rfl tt.1
  have t2:=F.old _ _ rfl tt.2
  unfold thO at t1
  walk
  refine vi (fun q=>?_) fun q=>?_
  ·walk
   refine rg rfl ⟨by simp,?_⟩
   refine fr_cons trivial rfl ?_
   walk
   refine k_refers_younger (dM hm rfl) F.fin fun h2 F2=>?_
   walk
   refine fr_nil trivial ?_
   walk
   exact hn _ _ (by k_ne) (F.trans F2)
  ·walk
   exact hn _ _ (by k_ne) F
 ·walk
  exact k _ _ (F0.trans F) hj (F.old _ _ rfl hj2)
theorem k_renew_cards (hm:8≤m) {x:Hp} {ts:List Th} (fin:FinT h) (X:HpAt h x ts) (k:∀ h' e,Fw [.s 12,.g 2 e] h h'→HpAt h' { x with eC:=e } ts→K .none h'):CF w H0 m f_renew_cards [.ref (.s 12)] h K:=by
 have hh:=X.hp
 unfold Hp.o heapO at hh
 refine cf_run (dN hm rfl) rfl rfl rfl rfl ?_
 walk
 obtain ⟨e,he⟩:=fin.newG 2
 refine no_dict (.g 2 e) (by simp [dputs]) he ?_
 have hh2:=hset_off (o':=.dict (dputs [] [])) (show Nm.eqb (.s 12) (.g 2 e)=false from rfl) hh
 walk
 have F8:Fw [.s 12,.g 2 e] h (hset (hset h (.g 2 e) (.dict (dputs [] []))) (.s 12) ({ x with eC:=e }:Hp).o):=((Fw.refl fin).set (by room)).set (by room)
 have X8:HpAt (hset (hset h (.g 2 e) (.dict (dputs [] []))) (.s 12) ({ x with eC:=e }:Hp).o) { x with eC:=e } ts :=
  ⟨hset_at,F8.old _ _ rfl X.things,F8.old _ _ rfl X.at_,hset_off rfl hset_at,F8.old _ _ rfl X.finals,F8.old _ _ rfl X.ready,X.ths.fw F8 fun s=>⟨rfl,rfl⟩,X.ap⟩
 refine k_younger_slots (dM hm rfl) F8.fin X8 fun h2 j F2 hj ej=>?_
 walk
 refine fr_nil ej ?_
 walk
 exact k _ e (F8.trans (F2.weak (by room))) (X8.fw F2 rfl)
theorem k_note_collected (hm:4≤m) {x:Hp} {ts:List Th} {g:Int} (fin:FinT h) (X:HpAt h x ts) (k:∀ h' l,Fw [.s 12] h h'→HpAt h' { x with fresh:=0,limit:=l } ts→K .none h'):CF w H0 m f_note_collected [.ref (.s 12),.int g] h K:=by
 have hh:=X.hp
 unfold Hp.o heapO at hh
 refine cf_run (dN hm rfl) rfl rfl rfl rfl ?_
 walk
 have up:∀ l,Fw [.s 12] h (hset h (.s 12) ({ x with fresh:=0,limit:=l }:Hp).o):=fun l=>(Fw.refl fin).set (by room)
 have X8:∀ l,HpAt (hset h (.s 12) ({ x with fresh:=0,limit:=l }:Hp).o) { x with fresh:=0,limit:=l } ts:=fun l =>
  ⟨hset_at,(up l).old _ _ rfl X.things,(up l).old _ _ rfl X.at_,(up l).old _ _ rfl X.cards,(up l).old _ _ rfl X.finals,(up l).old _ _ rfl X.ready,X.ths.fw (up l) fun s=>⟨rfl,rfl⟩,X.ap⟩
 have k0:=k _ _ (up x.limit) (X8 x.limit)
 refine vi (fun q=>?_) fun q=>?_
 ·walk
  refine k_used_words (dM hm rfl) (X8 x.limit).hp ?_
  walk
  refine bi_mul (.inl (by decide)) ?_
  walk
  have h8:=(X8 x.limit).hp
  unfold Hp.o heapO at h8
  walk
  refine vi (fun q=>?_) fun q=>?_
  ·walk
   refine k_used_words (dM hm rfl) (X8 x.limit).hp ?_
   walk
   refine bi_mul (.inl (by decide)) ?_
   walk
   exact k _ _ (up _) (X8 _)
  ·walk
   all_goals exact k0
 ·walk
  all_goals exact k0
theorem pushS_mono {ts:List Th} {g:Int} {MK:List Nat} {s s':Nat} (q:s∈MK):s∈pushS ts g MK s':=by
 unfold pushS
 split
 ·exact q
 ·exact List.mem_append_left _ q
theorem pushS_mem {ts:List Th} {g:Int} {MK:List Nat} {s:Nat} (h0:s≠0) (hg:genOf ts s≤g):s∈pushS ts g MK s:=by
 unfold pushS
 split
 ·rename_i q
  rcases q with q | q | q
  ·exact absurd q h0
  ·omega
  ·exact q
 ·exact List.mem_append_right _ List.mem_cons_self
theorem pushS_sound {ts:List Th} {g:Int} {MK:List Nat} {s s':Nat} (q:s∈pushS ts g MK s'):s∈MK∨(s=s'∧s≠0∧genOf ts s≤g):=by
 unfold pushS at q
 split at q
 ·exact .inl q
 ·rename_i n
  rcases List.mem_append.mp q with q | q
  ·exact .inl q
  ·have e:=List.mem_singleton.mp q
   subst e
   exact .inr ⟨rfl,fun z=>n (.inl z),by
    have:¬ g < genOf ts s:=fun z=>n (.inr (.inl z))
    omega⟩
theorem markL_mono {ts:List Th} {g:Int} {s:Nat}:∀ {l:List HV} {MK:List Nat},s∈MK→s∈markL ts g MK l
 | [],_,q=>q
 | v :: r,MK,q=>markL_mono (l:=r) (by cases v with | ref s'=>exact pushS_mono q | raw b n=>exact q)
theorem markL_mem {ts:List Th} {g:Int} {s:Nat} (h0:s≠0) (hg:genOf ts s≤g):∀ {l:List HV} {MK:List Nat},HV.ref s∈l→s∈markL ts g MK l
 | v :: r,MK,q=>by
  rcases List.mem_cons.mp q with q | q
  ·subst q; exact markL_mono (l:=r) (pushS_mem h0 hg)
  ·exact markL_mem h0 hg (l:=r) q
theorem markL_sound {ts:List Th} {g:Int} {s:Nat}:∀ {l:List HV} {MK:List Nat},s∈markL ts g MK l→s∈MK∨(HV.ref s∈l∧s≠0∧genOf ts s≤g)
 | [],_,q=>.inl q
 | v :: r,MK,q=>by
  rcases markL_sound (l:=r) q with q | q
  ·cases v with
   | ref s' =>
    rcases pushS_sound q with q2 | ⟨e2,q2⟩
    ·exact .inl q2
    ·subst e2; exact .inr ⟨List.mem_cons_self,q2⟩
   | raw b n=>exact .inl q
  ·exact .inr ⟨List.mem_cons_of_mem _ q.1,q.2⟩
theorem markAll_mono {ts:List Th} {g:Int} {s:Nat}:∀ {Ls:List (Nm×List HV)} {MK:List Nat},s∈MK→s∈markAll ts g MK Ls
 | [],_,q=>q
 | p :: r,MK,q=>markAll_mono (Ls:=r) (markL_mono q)
theorem markAll_mem {ts:List Th} {g:Int} {s:Nat} (h0:s≠0) (hg:genOf ts s≤g):∀ {Ls:List (Nm×List HV)} {MK:List Nat} {p:Nm×List HV},p∈Ls→HV.ref s∈p.2→s∈markAll ts g MK Ls
 | [],_,_,m,_=>absurd m List.not_mem_nil
 | a :: r,MK,p,mp,q=>by
  rcases List.mem_cons.mp mp with e | mp
  ·rw [e] at q; exact markAll_mono (Ls:=r) (markL_mem h0 hg q)
  ·exact markAll_mem h0 hg (Ls:=r) mp q
theorem markAll_sound {ts:List Th} {g:Int} {s:Nat}:∀ {Ls:List (Nm×List HV)} {MK:List Nat},s∈markAll ts g MK Ls→s∈MK∨∃ p∈Ls,HV.ref s∈p.2∧s≠0∧genOf ts s≤g
 | [],_,q=>.inl q
 | a :: r,MK,q=>by
  rcases markAll_sound (Ls:=r) q with q | ⟨p,mp,q⟩
  ·rcases markL_sound q with q | q
   ·exact .inl q
   ·exact .inr ⟨a,List.mem_cons_self,q⟩
  ·exact .inr ⟨p,List.mem_cons_of_mem _ mp,q⟩
noncomputable def aft (g:Int) (Ls:List (Nm×List HV)) (ts:List Th):List Th:=(ts.filter (stF g (markAll ts g [] Ls))).map (upd g)
theorem k_collect (hm:18≤m) {B:Nat} {x:Hp} {ts old young:List Th} {g:Int} {nl:Nm} {Ls:List (Nm×List HV)} (fin:FinT h) (X:HpAt h x ts) (H:HdAt h) (sp:Split g ts old young) (hl:ts.length < 300)
  (hn:h nl=some (.list ((nms Ls).map .ref))) (hL:LsAt h ts Ls) (hl2:tot Ls < 900) (hl3:Ls.length < 400) (nd:(nms Ls).Nodup) (ok:∀ n∈nms Ls,rOk n=true) (n1:nin nl (nms Ls)=true) (n1T:isT nl=true) (hB:∀ t∈ts,t.ser≤B)
  (k:∀ h' x',Fp (pK B (nms Ls)) h h'→HdAt h'→LsAt h' (aft g Ls ts) Ls→HpAt h' x' (aft g Ls ts)→x'.top=16 + 3 * (aft g Ls ts).length→x'.fresh=0→x'.young=x.young→x'.made=x.made→K (.int (ts.length - (aft g Ls ts).length)) h'):CF w H0 m f_collect [.ref (.s 12),.ref nl,.ref (.s 60),.int g] h K:=by
 have hh:=X.hp
 unfold Hp.o heapO at hh
 have ht:=X.things
 refine cf_run (dN hm rfl) rfl rfl rfl rfl ?_
 walk
 refine k_find_living (Ls:=Ls) (dM hm rfl) fin X H hn hL (by omega) (by omega) fun h1 j e F1 X1 hj ej hin=>?_
 have al:∀ n∈nms Ls,∃ o,h n=some o:=fun n mn=>by
  obtain ⟨p,mp,rfl⟩:=List.mem_map.mp mn
  exact ⟨_,(hL p mp).1⟩
 have rk:∀ n∈nms Ls,n≠.s 12∧(∀ k e,k < 4→n≠.g k e):=fun n mn=>by
  have q1:=ok n mn
  refine ⟨(by rintro rfl; cases q1),fun k e hk=>?_⟩
  rintro rfl
  have:4≤k:=Nat.le_of_ble_eq_true q1
  omega
 have hn1:h1 nl=_:=F1.old _ _ (by cases nl <;> first | rfl | cases n1T) hn
 have H1:HdAt h1:=H.fw F1 rfl rfl
 have L1:LsAt h1 ts Ls:=fun p mp=>by
  have mn:p.1∈nms Ls:=List.mem_map_of_mem mp
  exact ⟨F1.old _ _ (nin2 (rk _ mn).1 ((rk _ mn).2 3 e (by decide))) (hL p mp).1,(hL p mp).2⟩
 walk
 refine k_plan_moves (dM hm rfl) F1.fin X1 ej hin (lt_le hl rfl) fun h2 j2 F2 hj2 ej2=>?_
 have X2:=X1.fw F2 rfl
 have H2:=H1.fw F2 rfl rfl
 have L2:LsAt h2 ts Ls:=fun p mp=>⟨F2.old _ _ rfl (L1 p mp).1,(L1 p mp).2⟩
 have hr:∀ p∈Ls,∀ s,HV.ref s∈p.2→s=0∨∃ t∈ts,t.ser=s∧stF g (markAll ts g [] Ls) t=true:=fun p mp s ms=>by
  rcases (hL p mp).2 _ ms with q | ⟨t,mt,et⟩
  ·exact .inl q
  ·by_cases h0:s=0
   ·exact .inl h0
   ·refine .inr ⟨t,mt,et,?_⟩
    unfold stF
    by_cases hg:t.gen > g
    ·rw [decide_eq_true hg]; rfl
    ·rw [decide_eq_false hg,Bool.false_or]
     have:=markAll_mem (ts:=ts) (g:=g) (s:=s) (MK:=[]) h0 (by rw [← et,genOf_at X.ap mt]; omega) mp ms
     exact decide_eq_true (by rw [et]; exact this)
 have mvn:nin (.t j2) (nms Ls)=true:=nin_of fun mm=>by
  obtain ⟨p,mp,e2⟩:=List.mem_map.mp mm
  have:=(L1 p mp).1
  rw [show p.1 = .t j2 from e2,hj2] at this; cases this
 walk
 refine k_move_all (MK:=markAll ts g [] Ls) (dM hm rfl) F2.fin X2 sp ej2 rfl hl (F2.old _ _ rfl hn1) L2 hl2 hl3 nd ok n1 n1T mvn hB hr fun h3 x3 F3 L3 X3 e1 e2 e3 e4 e5=>?_
 have pk:∀ k,k≠12→k≠13→(∀ n∈nms Ls,n≠.s k)→pK B (nms Ls) (.s k)=true:=fun k a b c=>by
  show ((!(Nat.beq k 12) && !(Nat.beq k 13)) && nin (.s k) (nms Ls))=true
  rw [nin_of fun mm=>c _ mm rfl]
  have:Nat.beq k 12=false:=by cases q:Nat.beq k 12 with | false=>rfl | true=>exact absurd (Nat.eq_of_beq_eq_true q) a
  have:Nat.beq k 13=false:=by cases q:Nat.beq k 13 with | false=>rfl | true=>exact absurd (Nat.eq_of_beq_eq_true q) b
  simp [*]
 have H3:HdAt h3:=⟨F3.old _ _ (pk 60 (by decide) (by decide) fun n mn e=>by have:=ok n mn; rw [e] at this; cases this) H2.1,F3.old _ _ (pk 61 (by decide) (by decide) fun n mn e=>by have:=ok n mn; rw [e] at this; cases this) H2.2⟩
 walk
 refine k_move_handles (dM hm rfl) H3 ?_
 walk
 refine k_renew_cards (dM hm rfl) F3.fin X3 fun h4 ec F4 X4=>?_
 walk
 refine k_note_collected (dM hm rfl) F4.fin X4 fun h5 lm F5 X5=>?_
 have H5:=(H3.fw F4 rfl rfl).fw F5 rfl rfl
 have hh5:=X5.hp
 unfold Hp.o heapO at hh5
 have ht5:=X5.things
 walk
 have len1:((refs ts).length:Int)=ts.length:=by simp [refs]
 have len2:((refs (aft g Ls ts)).length:Int)=(aft g Ls ts).length:=by simp [refs]
 rw [len1,show (refs ((ts.filter (stF g (markAll ts g [] Ls))).map (upd g)))=refs (aft g Ls ts) from rfl,len2]
 have nb:∀ n,pK B (nms Ls) n=true→n≠.s 12∧∀ k e,k < 4→n≠.g k e:=fun n q=>by
  have q1:=(Bool.and_eq_true_iff.mp q).1
  refine ⟨(by rintro rfl; cases q1),fun k e hk=>?_⟩
  rintro rfl
  have:4≤k:=Nat.le_of_ble_eq_true q1
  omega
 refine k h5 _ ?_ H5 (fun p mp=>?_) X5 (by show x3.top=_; rw [e1]; unfold aft; simp) rfl e4 e5
 ·exact ((F1.toP fun n q=>nin2 (nb n q).1 ((nb n q).2 3 e (by decide))).trans (F2.toP fun _ _=>rfl)).trans (F3.trans ((F4.toP fun n q=>nin2 (nb n q).1 ((nb n q).2 2 ec (by decide))).trans (F5.toP fun n q=>by
   show (!(Nm.eqb n (.s 12)) && true)=true
   rw [Nm.eqb_ne (nb n q).1]; rfl)))
 ·have mn:p.1∈nms Ls:=List.mem_map_of_mem mp
  exact ⟨F5.old _ _ (by show (!(Nm.eqb p.1 (.s 12)) && true)=true; rw [Nm.eqb_ne (rk _ mn).1]; rfl) (F4.old _ _ (nin2 (rk _ mn).1 ((rk _ mn).2 2 ec (by decide))) (L3 p mp).1),(L3 p mp).2⟩
section
noncomputable def kRowsL:List AVal:=((List.range 16).map fun k=>AVal.tup [.int 1,.int (Int.ofNat k)]) ++ [.tup [.int 2,.int 51,.tup []]]
noncomputable def kIndexL:List (AVal×AVal):=((List.range 16).map fun k=>(AVal.tup [.int 1,.int (Int.ofNat k)],AVal.int (Int.ofNat k))) ++ [(.tup [.int 2,.int 51,.tup []],.int 16)]
noncomputable def natL:List (AVal×AVal):=[(.int 1,.ref (.s 51)),(.int 2,.ref (.s 52)),(.int 3,.ref (.s 53)),(.int 4,.ref (.s 54)),(.int 5,.ref (.s 55)),(.int 6,.ref (.s 56)),(.int 7,.ref (.s 57)),(.int 8,.ref (.s 58)),(.int 9,.ref (.s 59)),(.int 40,.ref (.s 62))]
noncomputable def fixTab:List (Nat×AObj):=[
 (1,.inst c_KindTable [("rows",.ref (.s 2)),("index",.ref (.s 3)),("depths",.ref (.s 4)),("weights",.ref (.s 5)),("opens",.ref (.s 6))]),
 (2,.list kRowsL),(3,.dict kIndexL),(16,.dict []),(21,.list [.ref (.s 42)]),(23,.dict []),(25,.dict []),(27,.dict natL),(28,.list []),(32,.list []),(41,.inst c_Collecting []),
 (42,.inst c_Frame [("number",.int 1),("mref",.tup [.int 12,.int 1,.tup []]),("body",.none),("ip",.int 0),("args",.ref (.s 43)),("locals_",.ref (.s 44)),("stack",.ref (.s 45)),("conts",.ref (.s 46)),("caught",.ref (.s 47)),("caughtv",.ref (.s 48)),("keep",.ref (.s 49)),("sort",.int 0),("home",.int 1),("extra",.int 0),("prefix",.int (-1))]),
 (51,.inst c_TextConcat []),(52,.inst c_TextLength []),(54,.inst c_TextSame []),(55,.inst c_TextEquals []),(56,.inst c_TextHash []),(57,.inst c_TextPart []),(62,.inst c_TypeFrom [])]
noncomputable def Fix (h:AH):Prop:=∀ p∈fixTab,h (.s p.1)=some p.2
theorem Fix.at {k:Nat} {o:AObj} (x:Fix h) (e:atN k fixTab=some o):h (.s k)=some o:=x _ (atN_mem k e)
theorem Fix.mono {h':AH} (x:Fix h) (k:∀ p∈fixTab,∀ o,h (.s p.1)=some o→h' (.s p.1)=some o):Fix h':=fun p m=>k p m _ (x p m)
noncomputable def hdV:Bool→AVal
 | true=>.ref (.s 60)
 | false=>.none
noncomputable def mO (eTh:Nat) (hd:Bool):AObj:=.inst c_Shelf [(Str.ofString "store",.ref (.s 0)),(Str.ofString "kt",.ref (.s 1)),(Str.ofString "heap",.ref (.s 12)),(Str.ofString "kin",.ref (.s 15)),(Str.ofString "rows",.ref (.s 16)),(Str.ofString "targets",.ref (.s 17)),(Str.ofString "defaults",.ref (.s 18)),(Str.ofString "unders",.ref (.s 19)),(Str.ofString "finals",.ref (.s 20)),(Str.ofString "frames",.ref (.s 21)),(Str.ofString "by_number",.ref (.s 22)),(Str.ofString "statics",.ref (.s 23)),(Str.ofString "inits",.ref (.s 24)),(Str.ofString "fails",.ref (.s 25)),(Str.ofString "ops",.ref (.s 26)),(Str.ofString "natives",.ref (.s 27)),(Str.ofString "state",.int 0),(Str.ofString "told",.ref (.s 28)),(Str.ofString "thrown",.ref (.g 4 eTh)),(Str.ofString "calls",.ref (.s 30)),(Str.ofString "pushed",.ref (.s 31)),(Str.ofString "chases",.ref (.s 32)),(Str.ofString "interned",.ref (.s 33)),(Str.ofString "internv",.ref (.s 34)),(Str.ofString "held",.ref (.s 35)),(Str.ofString "result",.none),(Str.ofString "last",.none),(Str.ofString "unhandled",.ref (.s 36)),(Str.ofString "handles",hdV hd),(Str.ofString "places",.ref (.s 37)),(Str.ofString "starter",.ref (.s 38)),(Str.ofString "closer",.ref (.s 39)),(Str.ofString "sweeper",.ref (.s 41))]
set_option genSizeOf false in
set_option genInjectivity false in
structure Ms where
 x:Hp
 ts:List Th
 cells:List Nat
 kept:List (SV×Nat)
 held:List (Nm×List HV)
 thrown:List AVal
 eTh:Nat
 hd:Bool
noncomputable def Ms.md (S:Ms):Nat:=S.x.made.toNat
noncomputable def SV.key:SV→AVal
 | .txt s=>.str s
 | .knd k=>.tup [.int k]
noncomputable def intern:Nat→List (SV×Nat)→List (AVal×AVal)
 | _,[]=>[]
 | i,p :: r=>(p.1.key,.int (Int.ofNat i)) :: intern (i + 1) r
noncomputable def rootsL (S:Ms):List (Nm×List HV):=[(.s 43,[]),(.s 44,S.cells.map .ref),(.s 45,[]),(.s 49,[]),(.s 48,[]),(.s 34,S.kept.map fun p=>.ref p.2)] ++ S.held ++ [(.s 36,[])]
structure MAt (S:Ms) (h:AH):Prop where
 fix:Fix h
 m:h (.s 14)=some (mO S.eTh S.hd)
 thrown:h (.g 4 S.eTh)=some (.list S.thrown)
 interned:h (.s 33)=some (.dict (intern 0 S.kept))
 held:h (.s 35)=some (.list (S.held.map fun p=>.ref p.1))
 roots:LsAt h S.ts (rootsL S)
 hp:HpAt h S.x S.ts
 hdT:S.hd=true→HdAt h
 hdF:S.hd=false→h (.s 60)=none∧h (.s 61)=none
 fin:FinT h
 heldT:∀ p∈S.held,isT p.1=true
 heldN:(S.held.map (·.1)).Nodup
 sers:∀ t∈S.ts,t.ser≤S.md
 frs:∀ s,S.md < s→h (.th s)=none∧h (.sl s)=none
theorem rootsN (S:Ms):nms (rootsL S)=[.s 43,.s 44,.s 45,.s 49,.s 48,.s 34] ++ S.held.map (·.1) ++ [.s 36]:=by simp [nms,rootsL]
theorem roots_ok {S:Ms} (x:MAt S h):∀ n∈nms (rootsL S),rOk n=true:=fun n mn=>by
 rw [rootsN] at mn
 simp only [List.append_assoc,List.mem_append,List.mem_cons,List.not_mem_nil,or_false] at mn
 rcases mn with (q | q | q | q | q | q) | q | q
 all_goals first | (rw [q]; rfl) | skip
 obtain ⟨p,mp,rfl⟩:=List.mem_map.mp q
 have:=x.heldT p mp
 cases e:p.1 <;> rw [e] at this <;> first | rfl | cases this
theorem roots_nd {S:Ms} (x:MAt S h):(nms (rootsL S)).Nodup:=by
 rw [rootsN]
 have ht:∀ n∈S.held.map (·.1),isT n=true:=fun n mn=>by
  obtain ⟨p,mp,rfl⟩:=List.mem_map.mp mn
  exact x.heldT p mp
 refine nodup_app' (nodup_app' (by room) x.heldN fun n mn q=>?_) (by room) fun n mn q=>?_
 ·have:=ht n q
  simp only [List.mem_cons,List.not_mem_nil,or_false] at mn
  rcases mn with rfl | rfl | rfl | rfl | rfl | rfl <;> cases this
 ·rw [List.mem_singleton.mp q] at mn
  rcases List.mem_append.mp mn with z | z
  ·simp at z
  ·have:=ht _ z; cases this
noncomputable def rootK (k:Nat):Bool:=[12,13,43,44,45,49,48,34,36].all fun j=>!(Nat.beq k j)
theorem pK_s {S:Ms} (x:MAt S h) {k:Nat} (e:rootK k=true):pK S.md (nms (rootsL S)) (.s k)=true:=by
 unfold rootK at e
 simp only [List.all_cons,List.all_nil,Bool.and_true,Bool.and_eq_true] at e
 obtain ⟨e1,e2,e3,e4,e5,e6,e7,e8,e9⟩:=e
 show ((!(Nat.beq k 12) && !(Nat.beq k 13)) && nin (.s k) (nms (rootsL S)))=true
 rw [e1,e2,rootsN]
 refine nin_app (nin_app ?_ ?_) ?_
 ·show (!(Nat.beq k 43 && true) && (!(Nat.beq k 44 && true) && (!(Nat.beq k 45 && true) && (!(Nat.beq k 49 && true) && (!(Nat.beq k 48 && true) && (!(Nat.beq k 34 && true) && true))))))=true
  simp only [Bool.and_true]
  rw [e3,e4,e5,e6,e7,e8]; rfl
 ·refine nin_of fun mm=>?_
  obtain ⟨p,mp,e⟩:=List.mem_map.mp mm
  have:=x.heldT p mp
  rw [show p.1 = .s k from e] at this; cases this
 ·show (!(Nat.beq k 36 && true) && true)=true
  rw [Bool.and_true,Bool.and_true,e9]
theorem pK_g {S:Ms} (x:MAt S h) {k e:Nat} (hk:Nat.ble 4 k=true):pK S.md (nms (rootsL S)) (.g k e)=true:=by
 show (Nat.ble 4 k && nin (.g k e) (nms (rootsL S)))=true
 rw [hk,rootsN]
 refine nin_app (nin_app rfl ?_) rfl
 refine nin_of fun mm=>?_
 obtain ⟨p,mp,q⟩:=List.mem_map.mp mm
 have:=x.heldT p mp
 rw [show p.1 = .g k e from q] at this; cases this
theorem fix_rootK:fixTab.all (fun p=>rootK p.1)=true:=by decide +kernel
noncomputable def rl0:List AVal:=[.ref (.s 43),.ref (.s 44),.ref (.s 45),.ref (.s 49),.ref (.s 48),.ref (.s 34)]
noncomputable def hR (l:List (Nm×List HV)):List AVal:=l.map fun p=>.ref p.1
theorem k_roots (hm:2≤m) {S:Ms} (x:MAt S h) (hl:S.held.length < 300) (k:∀ h' j,Fw [] h h'→h (.t j)=none→h' (.t j)=some (.list ((nms (rootsL S)).map .ref))→K (.ref (.t j)) h'):CF w H0 m f_roots [.ref (.s 14)] h K:=by
 have f14:=x.m
 unfold mO at f14
 have f21:=x.fix.at (k:=21) rfl
 have f23:=x.fix.at (k:=23) rfl
 have f25:=x.fix.at (k:=25) rfl
 have f32:=x.fix.at (k:=32) rfl
 have f42:=x.fix.at (k:=42) rfl
 have fh:=x.held
 refine cf_run (dN hm rfl) rfl rfl rfl rfl ?_
 walk
 obtain ⟨j,hj⟩:=x.fin.new
 refine no_list (.t j) (by room) hj ?_
 have F1:Fw [] h (hset h (.t j) (.list [])):=(Fw.refl x.fin).new hj
 have old:∀ {n o},h n=some o→hset h (.t j) (.list []) n=some o:=fun e=>hset_old hj e
 have g14:=old f14
 have g21:=old f21
 have g23:=old f23
 have g25:=old f25
 have g32:=old f32
 have g42:=old f42
 have gh:=old fh
 have ej:=hset_at (h:=h) (n:=.t j) (o:=.list [])
 generalize hset h (.t j) (.list [])=h1 at *
 walk
 refine fr_cons g21 rfl ?_
 walk
 dsimp only [List.nil_append,List.cons_append]
 have F2:Fw [.t j] h1 (hset h1 (.t j) (.list [.ref (.s 43),.ref (.s 44),.ref (.s 45),.ref (.s 49),.ref (.s 48)])):=(Fw.refl F1.fin).set (by room)
 have ej2:=hset_at (h:=h1) (n:=.t j) (o:=.list [.ref (.s 43),.ref (.s 44),.ref (.s 45),.ref (.s 49),.ref (.s 48)])
 generalize hset h1 (.t j) (.list [.ref (.s 43),.ref (.s 44),.ref (.s 45),.ref (.s 49),.ref (.s 48)])=h2 at *
 have g14:=F2.old _ _ rfl g14
 have g21:=F2.old _ _ rfl g21
 have g23:=F2.old _ _ rfl g23
 have g25:=F2.old _ _ rfl g25
 have g32:=F2.old _ _ rfl g32
 have gh:=F2.old _ _ rfl gh
 refine fr_nil g21 ?_
 walk
 refine bl_sorted g23 ?_
 obtain ⟨i,hi⟩:=F2.fin.new
 refine no_list (.t i) (by room) hi ?_
 have nij:Nm.eqb (.t j) (.t i)=false:=Nm.eqb_ne (by intro e; rw [← e,ej2] at hi; cases hi)
 have F3:Fw [.t j] h2 (hset h2 (.t i) (.list [])):=(Fw.refl F2.fin).new hi
 have ei:=hset_at (h:=h2) (n:=.t i) (o:=.list [])
 have ej3:=hset_old (o':=.list []) hi ej2
 generalize hset h2 (.t i) (.list [])=h3 at *
 have g14:=F3.old _ _ rfl g14
 have g25:=F3.old _ _ rfl g25
 have g32:=F3.old _ _ rfl g32
 have gh:=F3.old _ _ rfl gh
 walk
 refine fr_nil ei ?_
 walk
 refine fr_nil g32 ?_
 walk
 dsimp only [List.nil_append,List.cons_append]
 have F4:Fw [.t j] h3 (hset h3 (.t j) (.list [.ref (.s 43),.ref (.s 44),.ref (.s 45),.ref (.s 49),.ref (.s 48),.ref (.s 34)])):=(Fw.refl F3.fin).set (by room)
 have ej4:=hset_at (h:=h3) (n:=.t j) (o:=.list [.ref (.s 43),.ref (.s 44),.ref (.s 45),.ref (.s 49),.ref (.s 48),.ref (.s 34)])
 generalize hset h3 (.t j) (.list [.ref (.s 43),.ref (.s 44),.ref (.s 45),.ref (.s 49),.ref (.s 48),.ref (.s 34)])=h4 at *
 have g14:=F4.old _ _ rfl g14
 have g25:=F4.old _ _ rfl g25
 have gh:=F4.old _ _ rfl gh
 walk
 refine fr_each ["values"] (fun p:Nm×List HV=>.ref p.1) S.held rfl (I:=fun d _ _ h5=>Fw [.t j] h4 h5∧h5 (.t j)=some (.list (rl0 ++ hR d))) (fun _ _ _ _ i=>i.1.old _ _ rfl gh)
  (fun d q l loc1 h5 em L i K' kn=>?_) (fun loc1 h5 L i=>?_) ⟨Fw.refl F4.fin,ej4⟩
 ·obtain ⟨F5,ej5⟩:=i
  have len:(rl0 ++ hR d).length < 900000:=by
   rw [List.length_append,hR,List.length_map]; exact Nat.lt_trans (Nat.add_lt_add_left (mid_lt em hl) 6) (by decide)
  walk
  exact kn _ _ (by k_ne) ⟨F5.set (by room),by rw [hset_self]; unfold hR; rw [List.map_append,List.append_assoc]; rfl⟩
 ·obtain ⟨F5,ej5⟩:=i
  have g14:=F5.old _ _ rfl g14
  have g25:=F5.old _ _ rfl g25
  have len:(rl0 ++ hR S.held).length < 900000:=by
   rw [List.length_append,hR,List.length_map]; exact Nat.lt_trans (Nat.add_lt_add_left hl 6) (by decide)
  walk
  refine bl_sorted g25 ?_
  obtain ⟨i2,hi2⟩:=F5.fin.new
  refine no_list (.t i2) (by room) hi2 ?_
  have F6:Fw [.t j] h5 (hset h5 (.t i2) (.list [])):=(Fw.refl F5.fin).new hi2
  have ei2:=hset_at (h:=h5) (n:=.t i2) (o:=.list [])
  have ej6:=hset_old (o':=.list []) hi2 ej5
  generalize hset h5 (.t i2) (.list [])=h6 at *
  have g14:=F6.old _ _ rfl g14
  walk
  refine fr_nil ei2 ?_
  walk
  have FF:Fw [.t j] h _:=(F1.weak (by room)).trans (F2.trans (F3.trans (F4.trans (F5.trans (F6.trans ((Fw.refl F6.fin).set (n:=.t j) (o:=.list ((rl0 ++ hR S.held) ++ [.ref (.s 36)])) (by room)))))))
  refine k _ j (Fw.less hj FF) hj ?_
  rw [hset_self,rootsN]; unfold rl0 hR; simp
end
theorem nin_sub' {n:Nm} {ms:List Nm} (k:∀ m∈ms,n≠m):nin n ms=true:=nin_of fun mm=>k n mm rfl
theorem LsAt.fw {h':AH} {ts:List Th} {Ls:List (Nm×List HV)} {ms:List Nm} (x:LsAt h ts Ls) (f:Fw ms h h') (k:∀ p∈Ls,nin p.1 ms=true):LsAt h' ts Ls:=fun p mp=>⟨f.old _ _ (k p mp) (x p mp).1,(x p mp).2⟩
noncomputable def okM:Nm→Bool
 | .s k=>Nat.ble 63 k
 | .g k _=>Nat.ble 5 k
 | _=>false
theorem fix_lt:fixTab.all (fun p=>Nat.blt p.1 63)=true:=by decide +kernel
theorem beq_gt {j k:Nat} (h:j < k):Nat.beq k j=false:=Bool.eq_false_iff.mpr fun q=>Nat.ne_of_gt h (Nat.eq_of_beq_eq_true q)
theorem okM_s {ms:List Nm} (k:ms.all okM=true) {j:Nat} (e:Nat.blt j 63=true):nin (.s j) ms=true:=nin_sub' fun a ma z=>by
 have:=List.all_eq_true.mp k a ma
 rw [← z] at this
 have h1:63≤j:=Nat.le_of_ble_eq_true this
 exact absurd (Nat.le_of_ble_eq_true e) (Nat.not_lt.mpr h1)
theorem okM_hOk {ms:List Nm} (k:ms.all okM=true):ms.all hOk=true:=by
 rw [List.all_eq_true] at k ⊢
 intro a ma
 have:=k a ma
 cases a with
 | s j =>
  have h1:63≤j:=Nat.le_of_ble_eq_true this
  show (!(Nat.beq j 12) && !(Nat.beq j 13))=true
  rw [beq_gt (Nat.lt_of_lt_of_le (by decide) h1),beq_gt (Nat.lt_of_lt_of_le (by decide) h1)]; rfl
 | g j e =>
  have h1:5≤j:=Nat.le_of_ble_eq_true this
  exact Nat.ble_eq_true_of_le (Nat.le_of_succ_le h1)
 | t j=>cases this
 | th j=>cases this
 | sl j=>cases this
theorem MAt.fw {S:Ms} {h':AH} {ms:List Nm} (x:MAt S h) (f:Fw ms h h') (k:ms.all okM=true):MAt S h' where
 fix:=x.fix.mono fun p mp o e=>f.old _ _ (okM_s k (List.all_eq_true.mp fix_lt p mp)) e
 m:=f.old _ _ (okM_s k rfl) x.m
 thrown:=f.old _ _ (nin_sub' fun a ma z=>by
  have:=List.all_eq_true.mp k a ma
  rw [← z] at this; cases this) x.thrown
 interned:=f.old _ _ (okM_s k rfl) x.interned
 held:=f.old _ _ (okM_s k rfl) x.held
 roots:=x.roots.fw f fun p mp=>nin_sub' fun a ma z=>by
  have h1:=roots_ok x p.1 (List.mem_map_of_mem mp)
  have h2:=List.all_eq_true.mp k a ma
  have mp1:p.1∈nms (rootsL S):=List.mem_map_of_mem mp
  rw [rootsN] at mp1
  rw [z] at mp1
  simp only [List.append_assoc,List.mem_append,List.mem_cons,List.not_mem_nil,or_false] at mp1
  rcases mp1 with (q | q | q | q | q | q) | q | q
  all_goals first | (rw [q] at h2; cases h2; done) | skip
  obtain ⟨b,mb,e⟩:=List.mem_map.mp q
  have:=x.heldT b mb
  rw [e] at this
  cases a <;> first | (cases h2; done) | (cases this; done)
 hp:=x.hp.fw f (okM_hOk k)
 hdT:=fun e=>(x.hdT e).fw f (okM_s k rfl) (okM_s k rfl)
 hdF:=fun e=>by
  have:=x.hdF e
  exact ⟨by rw [f.nt _ rfl (okM_s k rfl)]; exact this.1,by rw [f.nt _ rfl (okM_s k rfl)]; exact this.2⟩
 fin:=f.fin
 heldT:=x.heldT
 heldN:=x.heldN
 sers:=x.sers
 frs:=fun s q=>by
  have:=x.frs s q
  exact ⟨by rw [f.nt _ rfl (nin_hOk rfl (okM_hOk k))]; exact this.1,by rw [f.nt _ rfl (nin_hOk rfl (okM_hOk k))]; exact this.2⟩
theorem k_Handles (hm:2≤m) (hs:h (.s 61)=none) (k:K .none (hset (hset (hset h (.s 60) (.inst c_Handles [])) (.s 61) (.list [])) (.s 60) (.inst c_Handles [("rows",.ref (.s 61))]))):CF w H0 m f_Handles___init__ [.ref (.s 60)] (hset h (.s 60) (.inst c_Handles [])) K:=by
 refine cf_run (dN hm rfl) rfl rfl rfl rfl ?_
 walk
 refine no_list (.s 61) (by room) (hset_off rfl hs) ?_
 have e:=hset_off (o':=.list []) (show Nm.eqb (.s 60) (.s 61)=false from rfl) (hset_at (h:=h) (n:=.s 60) (o:=.inst c_Handles []))
 walk
 all_goals exact k
theorem fix_hd:fixTab.all (fun p=>nin (.s p.1) [.s 60,.s 61,.s 14])=true:=by decide +kernel
theorem MAt.setHd {S:Ms} (x:MAt S h) (e:S.hd=false) {h':AH} (f:Fw [.s 60,.s 61,.s 14] h h') (e1:h' (.s 60)=some (.inst c_Handles [("rows",.ref (.s 61))])) (e2:h' (.s 61)=some (.list [])) (e3:h' (.s 14)=some (mO S.eTh true)):MAt { S with hd:=true } h' where
 fix:=x.fix.mono fun p mp o e=>f.old _ _ (List.all_eq_true.mp fix_hd p mp) e
 m:=e3
 thrown:=f.old _ _ rfl x.thrown
 interned:=f.old _ _ rfl x.interned
 held:=f.old _ _ rfl x.held
 roots:=x.roots.fw f fun p mp=>nin_sub' fun a ma z=>by
  have h1:=roots_ok x p.1 (List.mem_map_of_mem mp)
  rw [z] at h1
  have mp1:p.1∈nms (rootsL S):=List.mem_map_of_mem mp
  simp only [List.mem_cons,List.not_mem_nil,or_false] at ma
  rcases ma with rfl | rfl | rfl
  ·cases h1
  ·cases h1
  ·rw [z,rootsN] at mp1
   simp only [List.append_assoc,List.mem_append,List.mem_cons,List.not_mem_nil,or_false] at mp1
   rcases mp1 with (q | q | q | q | q | q) | q | q
   all_goals first | (cases q; done) | skip
   obtain ⟨b,mb,e⟩:=List.mem_map.mp q
   have:=x.heldT b mb
   rw [e] at this; cases this
 hp:=x.hp.fw f rfl
 hdT:=fun _=>⟨e1,e2⟩
 hdF:=fun e=>by cases e
 fin:=f.fin
 heldT:=x.heldT
 heldN:=x.heldN
 sers:=x.sers
 frs:=fun s q=>by
  have:=x.frs s q
  exact ⟨by rw [f.nt _ rfl (nin_hOk rfl rfl)]; exact this.1,by rw [f.nt _ rfl (nin_hOk rfl rfl)]; exact this.2⟩
noncomputable def pO (S:Ms) (n:Nm):Bool:=pK S.md (nms (rootsL S)) n && (match n with
 | .s k=>!(Nat.beq k 14) && !(Nat.beq k 60) && !(Nat.beq k 61)
 | _=>true)
theorem pO_s {S:Ms} (x:MAt S h) {k:Nat} (e:rootK k=true) (e2:(!(Nat.beq k 14) && !(Nat.beq k 60) && !(Nat.beq k 61))=true):pO S (.s k)=true:=by
 show (pK S.md (nms (rootsL S)) (.s k) && (!(Nat.beq k 14) && !(Nat.beq k 60) && !(Nat.beq k 61)))=true
 rw [pK_s x e,e2]; rfl
theorem MAt.collected {S:Ms} {h':AH} {x':Hp} {ts':List Th} (x:MAt S h) (e:S.hd=true) (F:Fp (pK S.md (nms (rootsL S))) h h') (H:HdAt h') (L:LsAt h' ts' (rootsL S)) (X:HpAt h' x' ts') (hmd:x'.made=S.x.made) (hse:∀ t∈ts',∃ u∈S.ts,u.ser=t.ser):MAt { S with x:=x',ts:=ts' } h' where
 fix:=x.fix.mono fun p mp o e=>F.old _ _ (pK_s x (List.all_eq_true.mp fix_rootK p mp)) e
 m:=F.old _ _ (pK_s x rfl) x.m
 thrown:=F.old _ _ (pK_g x rfl) x.thrown
 interned:=F.old _ _ (pK_s x rfl) x.interned
 held:=F.old _ _ (pK_s x rfl) x.held
 roots:=L
 hp:=X
 hdT:=fun _=>H
 hdF:=fun q=>by rw [e] at q; cases q
 fin:=F.fin
 heldT:=x.heldT
 heldN:=x.heldN
 sers:=fun t mt=>by
  obtain ⟨u,mu,e⟩:=hse t mt
  rw [← e]
  show u.ser≤x'.made.toNat
  rw [hmd]; exact x.sers u mu
 frs:=fun s q=>by
  have q':S.md < s:=by
   have:x'.made.toNat < s:=q
   rw [hmd] at this; exact this
  have:=x.frs s q'
  have pk:pK S.md (nms (rootsL S)) (.th s)=true∧pK S.md (nms (rootsL S)) (.sl s)=true:=by
   have b:Nat.blt S.md s=true:=by rw [Nat.blt_eq]; exact q'
   have go:∀ n,(n = .th s∨n = .sl s)→nin n (nms (rootsL S))=true:=fun n e=>nin_of fun mm=>by
    have:=roots_ok x n mm
    rcases e with rfl | rfl <;> cases this
   constructor
   ·show (Nat.blt S.md s && nin (.th s) (nms (rootsL S)))=true
    rw [b,go _ (.inl rfl)]; rfl
   ·show (Nat.blt S.md s && nin (.sl s) (nms (rootsL S)))=true
    rw [b,go _ (.inr rfl)]; rfl
  exact ⟨by rw [F.nt _ rfl pk.1]; exact this.1,by rw [F.nt _ rfl pk.2]; exact this.2⟩
theorem aft_ser {g:Int} {Ls:List (Nm×List HV)} {ts:List Th}:∀ t∈aft g Ls ts,∃ u∈ts,u.ser=t.ser:=fun t mt=>by
 obtain ⟨u,mu,rfl⟩:=List.mem_map.mp mt
 exact ⟨u,(List.mem_filter.mp mu).1,(upd_ser g u).symm⟩
theorem k_collect_for1 (hm:22≤m) {S:Ms} {old young:List Th} {g:Int} (x:MAt S h) (e:S.hd=true) (sp:Split g S.ts old young) (hl:S.ts.length < 300) (hl2:tot (rootsL S) < 900) (hl3:S.held.length < 300)
  (k:∀ h' x',MAt { S with x:=x',ts:=aft g (rootsL S) S.ts } h'→Fp (pO S) h h'→x'.top=16 + 3 * (aft g (rootsL S) S.ts).length→x'.fresh=0→x'.young=S.x.young→x'.made=S.x.made→K (.int (S.ts.length - (aft g (rootsL S) S.ts).length)) h'):CF w H0 m f_collect_for [.ref (.s 14),.int g] h K:=by
 have f14:=x.m
 rw [e] at f14
 unfold mO hdV at f14
 refine cf_run (dN hm rfl) rfl rfl rfl rfl ?_
 walk
 refine k_roots (dM hm rfl) x hl3 fun h1 j F1 hj ej=>?_
 have x1:=x.fw F1 rfl
 have g14:=F1.old _ _ rfl f14
 have n1:nin (.t j) (nms (rootsL S))=true:=nin_of fun mm=>by
  obtain ⟨p,mp,q⟩:=List.mem_map.mp mm
  have:=(x.roots p mp).1
  rw [show p.1 = .t j from q,hj] at this; cases this
 walk
 refine k_collect (Ls:=rootsL S) (dM hm rfl) x1.fin x1.hp (x1.hdT e) sp hl ej x1.roots hl2 (by simp [rootsL]; omega) (roots_nd x) (roots_ok x) n1 rfl x.sers fun h2 x' F2 H2 L2 X2 e1 e2 e3 e4=>?_
 walk
 refine k h2 x' (x1.collected e F2 H2 L2 X2 e4 aft_ser) ?_ e1 e2 e3 e4
 exact (F1.toP fun _ _=>rfl).trans ⟨fun n o q a=>F2.old n o (Bool.and_eq_true_iff.mp q).1 a,fun n a q=>F2.nt n a (Bool.and_eq_true_iff.mp q).1,F2.fin⟩
theorem k_collect_for (hm:22≤m) {S:Ms} {old young:List Th} {g:Int} (x:MAt S h) (sp:Split g S.ts old young) (hl:S.ts.length < 300) (hl2:tot (rootsL S) < 900) (hl3:S.held.length < 300)
  (k:∀ h' x',MAt { S with x:=x',ts:=aft g (rootsL S) S.ts,hd:=true } h'→Fp (pO S) h h'→x'.top=16 + 3 * (aft g (rootsL S) S.ts).length→x'.fresh=0→x'.young=S.x.young→x'.made=S.x.made→K (.int (S.ts.length - (aft g (rootsL S) S.ts).length)) h'):CF w H0 m f_collect_for [.ref (.s 14),.int g] h K:=by
 cases e:S.hd with
 | true =>
  refine k_collect_for1 hm x e sp hl hl2 hl3 fun h' x' a b c d f=>?_
  refine k h' x' ?_ b c d f
  rw [e] at a; exact a
 | false =>
  have f14:=x.m
  rw [e] at f14
  unfold mO hdV at f14
  have f60:=x.hdF e
  refine cf_run (dN hm rfl) rfl rfl rfl rfl ?_
  walk
  refine ni (nm:=.s 60) rfl f60.1 rfl ?_
  refine k_Handles (dM hm rfl) f60.2 ?_
  have g14:(hset (hset (hset h (.s 60) (.inst c_Handles [])) (.s 61) (.list [])) (.s 60) (.inst c_Handles [("rows",.ref (.s 61))])) (.s 14)=_:=hset_off rfl (hset_off rfl (hset_off rfl f14))
  have g61:(hset (hset (hset h (.s 60) (.inst c_Handles [])) (.s 61) (.list [])) (.s 60) (.inst c_Handles [("rows",.ref (.s 61))])) (.s 61)=_:=hset_off rfl hset_at
  have g60:(hset (hset (hset h (.s 60) (.inst c_Handles [])) (.s 61) (.list [])) (.s 60) (.inst c_Handles [("rows",.ref (.s 61))])) (.s 60)=_:=hset_at
  have F0:Fw [.s 60,.s 61,.s 14] h (hset (hset (hset h (.s 60) (.inst c_Handles [])) (.s 61) (.list [])) (.s 60) (.inst c_Handles [("rows",.ref (.s 61))])):=(((Fw.refl x.fin).set (by room)).set (by room)).set (by room)
  generalize (hset (hset (hset h (.s 60) (.inst c_Handles [])) (.s 61) (.list [])) (.s 60) (.inst c_Handles [("rows",.ref (.s 61))]))=h0 at *
  walk
  have F0':Fw [.s 60,.s 61,.s 14] h (hset h0 (.s 14) (mO S.eTh true)):=F0.set (by room)
  have x0:=x.setHd e F0' (hset_off rfl g60) (hset_off rfl g61) hset_at
  have f14':=x0.m
  unfold mO hdV at f14'
  refine k_roots (h:=hset h0 (.s 14) (mO S.eTh true)) (dM hm rfl) x0 hl3 fun h1 j F1 hj ej=>?_
  have x1:=x0.fw F1 rfl
  have g14:=F1.old _ _ rfl f14'
  have n1:nin (.t j) (nms (rootsL S))=true:=nin_of fun mm=>by
   obtain ⟨p,mp,q⟩:=List.mem_map.mp mm
   have:=(x0.roots p mp).1
   rw [show p.1 = .t j from q,hj] at this; cases this
  walk
  refine k_collect (Ls:=rootsL S) (dM hm rfl) x1.fin x1.hp (x1.hdT rfl) sp hl ej x1.roots hl2 (by simp [rootsL]; omega) (roots_nd x) (roots_ok x) n1 rfl x.sers fun h2 x' F2 H2 L2 X2 e1 e2 e3 e4=>?_
  walk
  refine k h2 x' (x1.collected rfl F2 H2 L2 X2 e4 aft_ser) ?_ e1 e2 e3 e4
  refine (F0'.toP fun n q=>?_).trans ((F1.toP fun _ _=>rfl).trans ⟨fun n o q a=>F2.old n o (Bool.and_eq_true_iff.mp q).1 a,fun n a q=>F2.nt n a (Bool.and_eq_true_iff.mp q).1,F2.fin⟩)
  refine nin_sub' fun a ma z=>?_
  have q2:=(Bool.and_eq_true_iff.mp q).2
  simp only [List.mem_cons,List.not_mem_nil,or_false] at ma
  rcases ma with rfl | rfl | rfl <;> (rw [z] at q2; cases q2)
noncomputable def Srt:List Th→Prop
 | []=>True
 | t :: r=>(∀ u∈r,u.gen≤t.gen)∧Srt r
theorem split_of {g:Int}:∀ {ts:List Th},Srt ts→∃ old young,Split g ts old young
 | [],_=>⟨[],[],rfl,(fun t q=>by cases q),(fun t q=>by cases q)⟩
 | t :: r,x=>by
  obtain ⟨o,y,e⟩:=split_of (g:=g) x.2
  by_cases q:t.gen > g
  ·refine ⟨t :: o,y,by rw [e.eq]; rfl,fun u mu=>?_,e.y⟩
   rcases List.mem_cons.mp mu with rfl | mu
   ·exact q
   ·exact e.o u mu
  ·refine ⟨[],t :: r,rfl,(fun t q=>by cases q),fun u mu=>?_⟩
   rcases List.mem_cons.mp mu with rfl | mu
   ·exact Int.not_lt.mp q
   ·exact Int.le_trans (x.1 u mu) (Int.not_lt.mp q)
theorem upd_mono {g:Int} {t u:Th} (e:u.gen≤t.gen):(upd g u).gen≤(upd g t).gen:=by
 unfold upd
 by_cases q1:t.gen > g <;> by_cases q2:u.gen > g
 ·rw [if_pos q1,if_pos q2]; exact e
 ·rw [if_pos q1,if_neg q2]
  show upG u.gen≤t.gen
  unfold upG; split <;> omega
 ·exact absurd (Int.lt_of_lt_of_le q2 e) q1
 ·rw [if_neg q1,if_neg q2]
  show upG u.gen≤upG t.gen
  unfold upG; split <;> split <;> omega
theorem srt_filter {st:Th→Bool}:∀ {ts:List Th},Srt ts→Srt (ts.filter st)
 | [],_=>trivial
 | t :: r,x=>by
  rw [List.filter_cons]
  split
  ·exact ⟨fun u m=>x.1 u (List.mem_filter.mp m).1,srt_filter x.2⟩
  ·exact srt_filter x.2
theorem srt_upd {g:Int}:∀ {ts:List Th},Srt ts→Srt (ts.map (upd g))
 | [],_=>trivial
 | t :: r,x=>by
  refine ⟨fun u m=>?_,srt_upd x.2⟩
  obtain ⟨v,mv,rfl⟩:=List.mem_map.mp m
  exact upd_mono (x.1 v mv)
theorem srt_aft {g:Int} {Ls:List (Nm×List HV)} {ts:List Th} (x:Srt ts):Srt (aft g Ls ts):=srt_upd (srt_filter x)
theorem aft_len {g:Int} {Ls:List (Nm×List HV)} {ts:List Th}:(aft g Ls ts).length≤ts.length:=by
 unfold aft
 rw [List.length_map]; exact List.length_filter_le ..
theorem aft_val {g:Int} {Ls:List (Nm×List HV)} {ts:List Th}:∀ t∈aft g Ls ts,∃ u∈ts,u.ser=t.ser∧u.val=t.val:=fun t mt=>by
 obtain ⟨u,mu,rfl⟩:=List.mem_map.mp mt
 exact ⟨u,(List.mem_filter.mp mu).1,(upd_ser g u).symm,(upd_val g u).symm⟩
theorem aft_gen {g:Int} {Ls:List (Nm×List HV)} {ts:List Th} (k:∀ t∈ts,0≤t.gen∧t.gen≤2):∀ t∈aft g Ls ts,0≤t.gen∧t.gen≤2:=fun t mt=>by
 obtain ⟨u,mu,rfl⟩:=List.mem_map.mp mt
 have:=k u (List.mem_filter.mp mu).1
 unfold upd
 split
 ·exact this
 ·show 0≤upG u.gen∧upG u.gen≤2
  unfold upG; split <;> omega
structure Ok (S:Ms):Prop where
 srt:Srt S.ts
 top:S.x.top=16 + 3 * S.ts.length
 made:0≤S.x.made
 len:S.ts.length≤S.md
 gen:∀ t∈S.ts,0≤t.gen∧t.gen≤2
 cells:S.cells.length=3
 kept:S.kept.length≤S.md
 heldL:tot S.held≤3
 heldC:S.held.length≤1
structure Swept (S S':Ms) (want:Int):Prop where
 cells:S'.cells=S.cells
 kept:S'.kept=S.kept
 held:S'.held=S.held
 thrown:S'.thrown=S.thrown
 eTh:S'.eTh=S.eTh
 young:S'.x.young=S.x.young
 made:S'.x.made=S.x.made
 ok:Ok S'
 none:want=0→S'=S
 some:want≠0→S'.x.fresh=0
 val:∀ t∈S'.ts,∃ u∈S.ts,u.ser=t.ser∧u.val=t.val
theorem tot_roots {S:Ms}:tot (rootsL S)=S.cells.length + S.kept.length + tot S.held:=by
 unfold rootsL
 rw [tot_app,tot_app]
 simp [tot]
theorem Ok.tots {S:Ms} (x:Ok S) (hm:S.md < 250):tot (rootsL S) < 900∧S.held.length < 300∧S.ts.length < 300:=by
 have l:S.ts.length < 300:=Nat.lt_of_le_of_lt x.len (Nat.lt_trans hm (by decide))
 have c:=x.cells; have k:=Nat.le_trans x.kept (Nat.le_of_lt hm)
 refine ⟨?_,Nat.lt_of_le_of_lt x.heldC (by decide),l⟩
 rw [tot_roots]; exact Nat.lt_of_le_of_lt (Nat.add_le_add (Nat.add_le_add (Nat.le_of_eq c) k) x.heldL) (by decide)
theorem Ok.aft {S:Ms} (x:Ok S) {g:Int} {x':Hp} {b:Bool} (e1:x'.top=16 + 3 * (aft g (rootsL S) S.ts).length) (e2:x'.made=S.x.made):Ok { S with x:=x',ts:=aft g (rootsL S) S.ts,hd:=b } where
 srt:=srt_aft x.srt
 top:=e1
 made:=by show 0≤x'.made; rw [e2]; exact x.made
 len:=by
  show (Mine.aft g (rootsL S) S.ts).length≤x'.made.toNat
  rw [e2]; exact Nat.le_trans aft_len x.len
 gen:=aft_gen x.gen
 cells:=x.cells
 kept:=by show S.kept.length≤x'.made.toNat; rw [e2]; exact x.kept
 heldL:=x.heldL
 heldC:=x.heldC
theorem k_sweep (hm:24≤m) {S:Ms} (x:MAt S h) (o:Ok S) (hb:S.md < 250)
  (k:∀ h' S',MAt S' h'→Fp (pO S) h h'→Swept S S' (wantsV S.x.top S.x.limit S.x.fresh S.x.young)→K .none h'):CF w H0 m f_sweep [.ref (.s 14)] h K:=by
 have f14:=x.m
 unfold mO at f14
 obtain ⟨t1,t2,t3⟩:=o.tots hb
 refine cf_run (dN hm rfl) rfl rfl rfl rfl ?_
 walk
 refine k_wants (dM hm rfl) x.hp.hp ?_
 have same:wantsV S.x.top S.x.limit S.x.fresh S.x.young=0→K .none h:=fun e=>k h S x ⟨fun _ _ _ e=>e,fun _ _ _=>rfl,x.fin⟩ ⟨rfl,rfl,rfl,rfl,rfl,rfl,rfl,o,fun _=>rfl,fun z=>absurd e z,fun t mt=>⟨t,mt,rfl,rfl⟩⟩
 have coll:∀ (g:Int) h' x',wantsV S.x.top S.x.limit S.x.fresh S.x.young≠0→MAt { S with x:=x',ts:=aft g (rootsL S) S.ts,hd:=true } h'→Fp (pO S) h h'→x'.top=16 + 3 * (aft g (rootsL S) S.ts).length→x'.fresh=0→x'.young=S.x.young→x'.made=S.x.made→K .none h':=fun g h' x' n a b c d e f=>k h' _ a b ⟨rfl,rfl,rfl,rfl,rfl,e,f,o.aft c f,fun z=>absurd z n,fun _=>d,aft_val⟩
 have hw:0≤wantsV S.x.top S.x.limit S.x.fresh S.x.young:=by
  unfold wantsV
  by_cases q1:S.x.top - 16 ≥ S.x.limit
  ·rw [if_pos q1]; decide
  ·rw [if_neg q1]
   by_cases q2:S.x.fresh ≥ S.x.young
   ·rw [if_pos q2]; decide
   ·rw [if_neg q2]; decide
 generalize wantsV S.x.top S.x.limit S.x.fresh S.x.young=want at *
 walk
 refine vi (fun q=>?_) fun q=>?_
 ·have q:want=1:=of_decide_eq_true q
  obtain ⟨o1,y1,sp⟩:=split_of (g:=0) o.srt
  walk
  refine k_collect_for (dM hm rfl) x sp t3 t1 t2 fun h' x' a b c d e f=>?_
  walk
  exact coll 0 h' x' (by rw [q]; decide) a b c d e f
 ·walk
  refine vi (fun q=>?_) fun q=>?_
  ·have q:want > 0:=of_decide_eq_true q
   obtain ⟨o1,y1,sp⟩:=split_of (g:=2) o.srt
   walk
   refine k_collect_for (dM hm rfl) x sp t3 t1 t2 fun h' x' a b c d e f=>?_
   walk
   exact coll 2 h' x' (Int.ne_of_gt q) a b c d e f
  ·have q:¬ want > 0:=of_decide_eq_false q
   walk
   exact same (Int.le_antisymm (Int.not_lt.mp q) hw)
theorem k_before (hm:26≤m) {S:Ms} (x:MAt S h) (o:Ok S) (hb:S.md < 250)
  (k:∀ h' S',MAt S' h'→Fp (pO S) h h'→Swept S S' (wantsV S.x.top S.x.limit S.x.fresh S.x.young)→K .none h'):CF w H0 m f_Collecting_before [.ref (.s 41),.ref (.s 14)] h K:=by
 refine cf_run (dN hm rfl) rfl rfl rfl rfl ?_
 walk
 refine k_sweep (dM hm rfl) x o hb fun h' S' a b c=>?_
 walk
 exact k h' S' a b c
noncomputable def thN (a kind ser:Int) (sl:Nm):AObj:=.inst c_Thing [("addr",.int a),("kind",.int kind),("slots",.ref sl),("gen",.int 0),("size",.int 3),("serial",.int ser)]
theorem k_heap_alloc (hm:6≤m) {x:Hp} {ts:List Th} {s:Nat} {kind:Int} {v:AVal} (fin:FinT h) (X:HpAt h x ts) (hl:ts.length < 300) (top:x.top=16 + 3 * ts.length) (e1:h (.th s)=none) (e2:h (.sl s)=some (.list [v]))
  (k:∀ h',Fw [.s 12,.g 0 x.eT,.g 1 x.eA,.th s] h h'→h' (.s 12)=some ({ x with top:=x.top + 3,fresh:=x.fresh + 3,made:=x.made + 1 }:Hp).o→h' (.g 0 x.eT)=some (.list (refs ts ++ [.ref (.th s)]))→h' (.g 1 x.eA)=some (.dict (atL 16 ts ++ [(.int x.top,.ref (.th s))]))→h' (.th s)=some (thN x.top kind (x.made + 1) (.sl s))→K (.ref (.th s)) h'):CF w H0 m f_heap_alloc [.ref (.s 12),.int kind,.ref (.sl s)] h K:=by
 have hh:=X.hp
 unfold Hp.o heapO at hh
 have ht:=X.things
 have ha:=X.at_
 refine cf_run (dN hm rfl) rfl rfl rfl rfl ?_
 walk
 refine ni (nm:=.th s) rfl e1 rfl ?_
 refine k_Thing (dM hm rfl) e2 rfl ?_
 have hh1:=hset_off (o':=.inst c_Thing [("addr",.int x.top),("kind",.int kind),("slots",.ref (.sl s)),("gen",.int 0),("size",.int 3),("serial",.int 0)]) (show Nm.eqb (.s 12) (.th s)=false from rfl) hh
 have ht1:=hset_off (o':=.inst c_Thing [("addr",.int x.top),("kind",.int kind),("slots",.ref (.sl s)),("gen",.int 0),("size",.int 3),("serial",.int 0)]) (show Nm.eqb (.g 0 x.eT) (.th s)=false from rfl) ht
 have ha1:=hset_off (o':=.inst c_Thing [("addr",.int x.top),("kind",.int kind),("slots",.ref (.sl s)),("gen",.int 0),("size",.int 3),("serial",.int 0)]) (show Nm.eqb (.g 1 x.eA) (.th s)=false from rfl) ha
 have et:=hset_at (h:=h) (n:=.th s) (o:=.inst c_Thing [("addr",.int x.top),("kind",.int kind),("slots",.ref (.sl s)),("gen",.int 0),("size",.int 3),("serial",.int 0)])
 have F1:Fw [.s 12,.g 0 x.eT,.g 1 x.eA,.th s] h (hset h (.th s) (.inst c_Thing [("addr",.int x.top),("kind",.int kind),("slots",.ref (.sl s)),("gen",.int 0),("size",.int 3),("serial",.int 0)])):=(Fw.refl fin).set (by room)
 generalize hset h (.th s) (.inst c_Thing [("addr",.int x.top),("kind",.int kind),("slots",.ref (.sl s)),("gen",.int 0),("size",.int 3),("serial",.int 0)])=h1 at *
 have len:(refs ts).length < 900000:=by simp [refs]; omega
 have len2:(atL 16 ts).length < 900000:=by rw [atL_len]; omega
 walk
 refine si_dict (d:=atL 16 ts) (by w_end) rfl len2 ?_
 rw [dput_new (fun p mp=>by obtain ⟨b,e,l⟩:=atL_lt p mp; exact ⟨b,e,by rw [top]; exact l⟩)]
 walk
 refine k _ ((((((F1.set (by room)).set (by room)).set (by room)).set (by room)).set (by room))) ?_ ?_ ?_ ?_
 ·exact hset_at
 ·w_end
 ·w_end
 ·w_end
theorem k_fs_str (hm:2≤m) {n:Nm} {a:AVal} (hn:h n=none) (k:K (.ref n) (hset h n (.list [.tup [.int 8,.str ""]]))):CF w H0 m f_first_slots [a,.int 13,.int 1] h K:=by
 refine cf_run (dN hm rfl) rfl rfl rfl rfl ?_
 walk
 refine no_list n (by room) hn ?_
 walk
 all_goals exact k
theorem k_row16 (hm:2≤m) (f:Fix h) (k:K (.tup [.int 2,.int 51,.tup []]) h):CF w H0 m f_KindTable_row [.ref (.s 1),.int 16] h K:=by
 have f1:=f.at (k:=1) rfl
 have f2:=f.at (k:=2) rfl
 refine cf_run (dN hm rfl) rfl rfl rfl rfl ?_
 walk
 all_goals exact k
theorem k_is_value16 (hm:4≤m) (f:Fix h) (k:K (.bool false) h):CF w H0 m f_is_value [.ref (.s 1),.int 16] h K:=by
 have f1:=f.at (k:=1) rfl
 refine cf_run (dN hm rfl) rfl rfl rfl rfl ?_
 walk
 refine k_row16 (dM hm rfl) f ?_
 walk
 all_goals exact k
theorem k_kind_sort16 (hm:4≤m) (f:Fix h) (k:K (.int 2) h):CF w H0 m f_kind_sort [.ref (.s 1),.int 16] h K:=by
 have f1:=f.at (k:=1) rfl
 refine cf_run (dN hm rfl) rfl rfl rfl rfl ?_
 walk
 refine k_row16 (dM hm rfl) f ?_
 walk
 all_goals exact k
theorem k_told_row16 (hm:2≤m) {e:Nat} {b:Bool} (fin:FinT h) (f:Fix h) (f14:h (.s 14)=some (mO e b)) (k:∀ j,h (.t j)=none→K (.tup [.ref (.t j),.tup [],.tup []]) (hset h (.t j) (.dict []))):CF w H0 m f_told_row [.ref (.s 14),.int 16] h K:=by
 unfold mO at f14
 have f16:=f.at (k:=16) rfl
 refine cf_run (dN hm rfl) rfl rfl rfl rfl ?_
 walk
 refine me_get f16 rfl ?_
 walk
 obtain ⟨j,hj⟩:=fin.new
 refine no_dict (.t j) (by simp [dputs]) hj ?_
 walk
 exact k j hj
theorem k_kinds_of16 (hm:4≤m) {e:Nat} {b:Bool} (fin:FinT h) (f:Fix h) (f14:h (.s 14)=some (mO e b)) (k:∀ j,h (.t j)=none→K (.tup []) (hset h (.t j) (.dict []))):CF w H0 m f_Tray_kinds_of [.ref (.s 14),.int 16] h K:=by
 refine cf_run (dN hm rfl) rfl rfl rfl rfl ?_
 walk
 refine k_told_row16 (dM hm rfl) fin f f14 fun j hj=>?_
 walk
 exact k j hj
theorem k_fs_type (hm:6≤m) {e:Nat} {b:Bool} {s:Nat} (fin:FinT h) (f:Fix h) (f14:h (.s 14)=some (mO e b)) (hn:h (.sl s)=none) (k:∀ h',Fw [.sl s] h h'→h' (.sl s)=some (.list [.tup [.int 4,.int 0]])→K (.ref (.sl s)) h'):CF w H0 m f_first_slots [.ref (.s 14),.int 16,.int 1] h K:=by
 have g14:=f14
 unfold mO at g14
 refine cf_run (dN hm rfl) rfl rfl rfl rfl ?_
 walk
 refine k_is_value16 (dM hm rfl) f ?_
 walk
 refine k_kind_sort16 (dM hm rfl) f ?_
 walk
 refine no_list (.sl s) (by room) hn ?_
 have F1:Fw [.sl s] h (hset h (.sl s) (.list [])):=(Fw.refl fin).set (by room)
 have g14b:=F1.old _ _ rfl g14
 have f14b:=F1.old _ _ rfl f14
 have fb:Fix (hset h (.sl s) (.list [])):=f.mono fun p _ o e=>F1.old _ _ rfl e
 have es:=hset_at (h:=h) (n:=.sl s) (o:=.list [])
 generalize hset h (.sl s) (.list [])=h1 at *
 walk
 refine k_kinds_of16 (dM hm rfl) F1.fin fb f14b fun j hj=>?_
 have F2:Fw [.sl s] h1 (hset h1 (.t j) (.dict [])):=(Fw.refl F1.fin).new hj
 have es2:=hset_old (o':=.dict []) hj es
 generalize hset h1 (.t j) (.dict [])=h2 at *
 refine it_tup (by room) ?_
 refine fr_nil trivial ?_
 walk
 refine wh_lk [] (fun r=>r) (I:=fun r h3=>r=1∧h3=h2∨r=0∧h3=hset h2 (.sl s) (.list [.tup [.int 4,.int 0]])) (fun r loc h3 j L i hk=>?_) 1 (.inl ⟨rfl,rfl⟩)
 rcases i with ⟨rfl,rfl⟩ | ⟨rfl,rfl⟩
 ·walk
  exact hk 0 _ _ Nat.zero_lt_one (by k_ne) (.inr ⟨rfl,rfl⟩)
 ·have es3:=hset_at (h:=h2) (n:=.sl s) (o:=.list [.tup [.int 4,.int 0]])
  walk
  exact k _ (F1.trans (F2.trans ((Fw.refl F2.fin).set (by room)))) es3
theorem kIndex_at:dlk (.tup [.int 2,.int 51,.tup []]) kIndexL=some (.int 16):=by kernel_rfl
theorem k_put16 (hm:2≤m) (f:Fix h) (k:K (.int 16) h):CF w H0 m f_KindTable_put [.ref (.s 1),.tup [.int 2,.int 51,.tup []]] h K:=by
 have f1:=f.at (k:=1) rfl
 have f3:=f.at (k:=3) rfl
 refine cf_run (dN hm rfl) rfl rfl rfl rfl ?_
 walk
 refine me_get2 f3 rfl ?_
 rw [kIndex_at,Option.getD_some]
 walk
 all_goals exact k
theorem k_class_kind (hm:4≤m) (f:Fix h) (k:K (.int 16) h):CF w H0 m f_class_kind [.ref (.s 1),.int 51,.tup []] h K:=by
 have f1:=f.at (k:=1) rfl
 refine cf_run (dN hm rfl) rfl rfl rfl rfl ?_
 walk
 refine cm_in_kd rfl ?_
 walk
 refine k_put16 (dM hm rfl) f ?_
 walk
 all_goals exact k
theorem apart_snoc {t:Th} (h0:t.ser≠0):∀ {ts:List Th},Apart ts→(∀ u∈ts,u.ser≠t.ser)→Apart (ts ++ [t])
 | [],_,_=>⟨h0,(fun u m=>by cases m),trivial⟩
 | u :: r,x,k=>⟨x.1,fun v mv=>by
   rcases List.mem_append.mp mv with q | q
   ·exact x.2.1 v q
   ·rw [List.mem_singleton.mp q]; exact fun e=>k u List.mem_cons_self e.symm,apart_snoc h0 x.2.2 fun v mv=>k v (List.mem_cons_of_mem _ mv)⟩
theorem srt_snoc {t:Th} (h0:t.gen=0):∀ {ts:List Th},Srt ts→(∀ u∈ts,0≤u.gen)→Srt (ts ++ [t])
 | [],_,_=>⟨(fun u m=>by cases m),trivial⟩
 | u :: r,x,k=>⟨fun v mv=>by
   rcases List.mem_append.mp mv with q | q
   ·exact x.1 v q
   ·rw [List.mem_singleton.mp q,h0]; exact k u List.mem_cons_self,srt_snoc h0 x.2 fun v mv=>k v (List.mem_cons_of_mem _ mv)⟩
noncomputable def pushT (S:Ms) (v:SV):Ms:={ S with x:={ S.x with top:=S.x.top + 3,fresh:=S.x.fresh + 3,made:=S.x.made + 1 },ts:=S.ts ++ [⟨S.md + 1,0,v⟩] }
theorem pushT_md {S:Ms} {v:SV} (o:0≤S.x.made):(pushT S v).md=S.md + 1:=by
 exact Int.toNat_add o (by decide)
theorem ra_push {S:Ms} {v:SV} {s:Nat} (hs:s=0∨In S.ts s):ra (pushT S v).ts s=ra S.ts s:=by
 unfold ra
 by_cases q:s=0
 ·rw [if_pos q,if_pos q]
 ·rw [if_neg q,if_neg q]
  exact addrOf_left (hs.elim (fun e=>absurd e q) id)
theorem enc_push {S:Ms} {v:SV} {u:HV} (hu:HvOk S.ts u):u.enc (pushT S v).ts=u.enc S.ts:=by
 cases u with
 | ref s=>show AVal.tup [.int 4,.int (ra (pushT S v).ts s)]=_; rw [ra_push hu]; rfl
 | raw b n=>cases b <;> rfl
theorem Ok.push {S:Ms} {v:SV} (o:Ok S):Ok (pushT S v) where
 srt:=srt_snoc rfl o.srt fun u mu=>(o.gen u mu).1
 top:=by
  show S.x.top + 3=16 + 3 * ((S.ts ++ [_]).length:Int)
  rw [o.top]; simp; omega
 made:=Int.add_nonneg o.made (by decide)
 len:=by rw [pushT_md o.made]; show (S.ts ++ [_]).length≤_; simp; exact o.len
 gen:=fun t mt=>by
  rcases List.mem_append.mp mt with q | q
  ·exact o.gen t q
  ·rw [List.mem_singleton.mp q]; exact ⟨Int.le_refl 0,(by decide:(0:Int)≤2)⟩
 cells:=o.cells
 kept:=by rw [pushT_md o.made]; exact Nat.le_succ_of_le o.kept
 heldL:=o.heldL
 heldC:=o.heldC
theorem fix_push:fixTab.all (fun p=>!(Nat.beq p.1 12))=true:=by decide +kernel
theorem MAt.push {S:Ms} {v:SV} {h':AH} (x:MAt S h) (o:Ok S) (F:Fw [.s 12,.g 0 S.x.eT,.g 1 S.x.eA,.th (S.md + 1),.sl (S.md + 1)] h h') (e1:h' (.s 12)=some (pushT S v).x.o) (e2:h' (.g 0 S.x.eT)=some (.list (refs S.ts ++ [.ref (.th (S.md + 1))]))) (e3:h' (.g 1 S.x.eA)=some (.dict (atL 16 S.ts ++ [(.int S.x.top,.ref (.th (S.md + 1)))])))
  (e4:h' (.th (S.md + 1))=some (thN S.x.top v.kind (S.x.made + 1) (.sl (S.md + 1)))) (e5:h' (.sl (S.md + 1))=some (.list [v.enc])):MAt (pushT S v) h':=by
 have hs:((S.md + 1:Nat):Int)=S.x.made + 1:=by
  have:=o.made
  show ((S.x.made.toNat + 1:Nat):Int)=_
  omega
 have old:∀ n,n≠.s 12→(∀ e,n≠.g 0 e∧n≠.g 1 e)→n≠.th (S.md + 1)→n≠.sl (S.md + 1)→nin n [.s 12,.g 0 S.x.eT,.g 1 S.x.eA,.th (S.md + 1),.sl (S.md + 1)]=true:=fun n a b c d=>nin_sub' fun q mq=>by
  simp only [List.mem_cons,List.not_mem_nil,or_false] at mq
  rcases mq with rfl | rfl | rfl | rfl | rfl
  ·exact a
  ·exact (b _).1
  ·exact (b _).2
  ·exact c
  ·exact d
 have os:∀ k,k≠12→nin (.s k) [.s 12,.g 0 S.x.eT,.g 1 S.x.eA,.th (S.md + 1),.sl (S.md + 1)]=true:=fun k q=>old _ (by simpa using q) (by room) (by room) (by room)
 have ser:∀ t∈S.ts,t.ser≠S.md + 1:=fun t mt e=>Nat.not_succ_le_self _ (e ▸ x.sers t mt)
 refine ⟨?_,F.old _ _ (os _ (by decide)) x.m,F.old _ _ (old _ (by room) (by room) (by room) (by room)) x.thrown,F.old _ _ (os _ (by decide)) x.interned,F.old _ _ (os _ (by decide)) x.held,fun p mp=>?_,⟨e1,?_,?_,F.old _ _ (old _ (by room) (by room) (by room) (by room)) x.hp.cards,F.old _ _ (old _ (by room) (by room) (by room) (by room)) x.hp.finals,F.old _ _ (os _ (by decide)) x.hp.ready,?_,?_⟩,fun e=>(x.hdT e).fw F (os _ (by decide)) (os _ (by decide)),fun e=>?_,F.fin,x.heldT,x.heldN,fun t mt=>?_,fun s q=>?_⟩
 ·exact x.fix.mono fun p mp o e=>F.old _ _ (os _ (by
   have:=List.all_eq_true.mp fix_push p mp
   intro z; rw [z] at this; cases this)) e
 ·have hp:=x.roots p mp
  have rk:=roots_ok x p.1 (List.mem_map_of_mem mp)
  refine ⟨?_,fun u mu=>?_⟩
  ·rw [F.old _ _ (old _ (by intro z; rw [z] at rk; cases rk) (fun e=>⟨(by intro z; rw [z] at rk; cases rk),(by intro z; rw [z] at rk; cases rk)⟩) (by intro z; rw [z] at rk; cases rk) (by intro z; rw [z] at rk; cases rk)) hp.1]
   congr 2
   exact List.map_congr_left fun u mu=>(enc_push (hp.2 u mu)).symm
  ·have:=hp.2 u mu
   cases u with
   | raw b n=>exact trivial
   | ref s=>exact this.imp id fun ⟨t,mt,e⟩=>⟨t,List.mem_append_left _ mt,e⟩
 ·rw [show (pushT S v).x.eT=S.x.eT from rfl,e2]
  show _=some (AObj.list (refs (S.ts ++ [_])))
  simp [refs]
 ·rw [show (pushT S v).x.eA=S.x.eA from rfl,e3]
  show _=some (AObj.dict (atL 16 (S.ts ++ [_])))
  rw [atL_snoc,o.top]
 ·show ThsAt h' 16 (S.ts ++ [_])
  refine ThsAt.snoc (ThsAt.keep (fun t mt o q=>F.old _ _ (old _ (by room) (by room) (by simpa using ser t mt) (by room)) q) (fun t mt o q=>F.old _ _ (old _ (by room) (by room) (by room) (by simpa using ser t mt)) q) x.hp.ths) ?_ e5
  rw [e4]
  unfold thN thO
  rw [← o.top]
  show some (AObj.inst _ [(_,.int S.x.top),(_,.int v.kind),_,_,_,(_,.int (S.x.made + 1))])=some (AObj.inst _ [(_,.int S.x.top),(_,.int v.kind),_,_,_,(_,.int ((S.md + 1:Nat):Int))])
  rw [hs]
 ·exact apart_snoc (by room) x.hp.ap fun t mt=>ser t mt
 ·have:=x.hdF e
  exact ⟨by rw [F.nt _ rfl (os _ (by decide))]; exact this.1,by rw [F.nt _ rfl (os _ (by decide))]; exact this.2⟩
 ·rw [pushT_md o.made]
  rcases List.mem_append.mp mt with q | q
  ·exact Nat.le_succ_of_le (x.sers t q)
  ·rw [List.mem_singleton.mp q]; exact Nat.le_refl _
 ·rw [pushT_md o.made] at q
  have:=x.frs s (Nat.lt_of_succ_lt q)
  have n1:s≠S.md + 1:=Nat.ne_of_gt q
  exact ⟨by rw [F.nt _ rfl (old _ (by room) (by room) (by simpa using n1) (by room))]; exact this.1,by rw [F.nt _ rfl (old _ (by room) (by room) (by room) (by simpa using n1))]; exact this.2⟩
noncomputable def pW (S:Ms):Nm→Bool
 | .s k=>Nat.ble 63 k
 | .g k _=>Nat.ble 5 k
 | .t j=>nin (.t j) (S.held.map (·.1))
 | _=>false
theorem pW_pO {S:Ms} (x:MAt S h) {n:Nm} (e:pW S n=true):pO S n=true:=by
 cases n with
 | s k =>
  have h1:63≤k:=Nat.le_of_ble_eq_true e
  have nb:∀ j,j < 63→Nat.beq k j=false:=fun j hj=>beq_gt (Nat.lt_of_lt_of_le hj h1)
  refine pO_s x ?_ ?_
  ·unfold rootK
   simp only [List.all_cons,List.all_nil,Bool.and_true,Bool.and_eq_true]
   refine ⟨?_,?_,?_,?_,?_,?_,?_,?_,?_⟩ <;> (rw [nb _ (by decide)]; rfl)
  ·rw [nb 14 (by decide),nb 60 (by decide),nb 61 (by decide)]; rfl
 | g k j =>
  have h1:5≤k:=Nat.le_of_ble_eq_true e
  show (pK S.md (nms (rootsL S)) (.g k j) && true)=true
  rw [pK_g x (Nat.ble_eq_true_of_le (Nat.le_of_succ_le h1))]; rfl
 | t j =>
  show ((true && nin (.t j) (nms (rootsL S))) && true)=true
  rw [rootsN,nin_app (nin_app rfl e) rfl]; rfl
 | th j=>cases e
 | sl j=>cases e
theorem Fp.sub {P Q:Nm→Bool} {h h':AH} (f:Fp P h h') (k:∀ n,Q n=true→P n=true):Fp Q h h':=⟨fun n o q e=>f.old n o (k n q) e,fun n a q=>f.nt n a (k n q),f.fin⟩
theorem pW_push {S:Ms} {a b c d:Nat} {n:Nm} (e:pW S n=true):nin n [.s 12,.g 0 a,.g 1 b,.th c,.sl d]=true:=by
 cases n with
 | s k =>
  have h1:63≤k:=Nat.le_of_ble_eq_true e
  show (!(Nat.beq k 12 && true) && true)=true
  rw [beq_gt (Nat.lt_of_lt_of_le (by decide) h1)]; rfl
 | g k j =>
  have h1:5≤k:=Nat.le_of_ble_eq_true e
  show (!(Nat.beq k 0 && Nat.beq j a) && (!(Nat.beq k 1 && Nat.beq j b) && true))=true
  rw [beq_gt (Nat.lt_of_lt_of_le (by decide) h1),beq_gt (Nat.lt_of_lt_of_le (by decide) h1)]; rfl
 | t j=>rfl
 | th j=>cases e
 | sl j=>cases e
abbrev Ms.want (S:Ms):Int:=wantsV S.x.top S.x.limit S.x.fresh S.x.young
theorem Swept.md {S S':Ms} {g:Int} (x:Swept S S' g):S'.md=S.md:=by
 show S'.x.made.toNat=S.x.made.toNat
 rw [x.made]
theorem k_alloc_str (hm:28≤m) {S:Ms} (x:MAt S h) (o:Ok S) (hb:S.md < 250)
  (k:∀ h1 h' S',MAt S' h1→Fp (pO S) h h1→Swept S S' S.want→Fw [.s 12,.g 0 S'.x.eT,.g 1 S'.x.eA,.th (S'.md + 1),.sl (S'.md + 1)] h1 h'→h' (.s 12)=some ({ S'.x with top:=S'.x.top + 3,fresh:=S'.x.fresh + 3,made:=S'.x.made + 1 }:Hp).o→h' (.g 0 S'.x.eT)=some (.list (refs S'.ts ++ [.ref (.th (S'.md + 1))]))→h' (.g 1 S'.x.eA)=some (.dict (atL 16 S'.ts ++ [(.int S'.x.top,.ref (.th (S'.md + 1)))]))→h' (.th (S'.md + 1))=some (thN S'.x.top 13 (S'.x.made + 1) (.sl (S'.md + 1)))→h' (.sl (S'.md + 1))=some (.list [.tup [.int 8,.str ""]])→K (.ref (.th (S'.md + 1))) h'):CF w H0 m f_alloc_thing [.ref (.s 14),.int 13,.int 1] h K:=by
 have f14:=x.m
 unfold mO at f14
 have f41:=x.fix.at (k:=41) rfl
 refine cf_run (dN hm rfl) rfl rfl rfl rfl ?_
 walk
 refine k_before (dM hm rfl) x o hb fun h1 S' x1 F1 sw=>?_
 have g14:=x1.m
 unfold mO at g14
 walk
 have fr:=x1.frs (S'.md + 1) (Nat.lt_succ_self _)
 refine k_fs_str (dM hm rfl) fr.2 ?_
 have F2:Fw [.sl (S'.md + 1)] h1 (hset h1 (.sl (S'.md + 1)) (.list [.tup [.int 8,.str ""]])):=(Fw.refl x1.fin).set (by room)
 have es:=hset_at (h:=h1) (n:=.sl (S'.md + 1)) (o:=.list [.tup [.int 8,.str ""]])
 have nsl:∀ t∈S'.ts,nin (.sl t.ser) [.sl (S'.md + 1)]=true:=fun t mt=>by
  show (!(Nm.eqb (.sl t.ser) (.sl (S'.md + 1))) && true)=true
  rw [Nm.eqb_ne fun e=>Nat.not_succ_le_self _ (Nm.sl.inj e ▸ x1.sers t mt)]; rfl
 have X2:HpAt (hset h1 (.sl (S'.md + 1)) (.list [.tup [.int 8,.str ""]])) S'.x S'.ts:=⟨F2.old _ _ rfl x1.hp.hp,F2.old _ _ rfl x1.hp.things,F2.old _ _ rfl x1.hp.at_,F2.old _ _ rfl x1.hp.cards,F2.old _ _ rfl x1.hp.finals,F2.old _ _ rfl x1.hp.ready,ThsAt.keep (fun t _ o q=>F2.old _ _ rfl q) (fun t mt o q=>F2.old _ _ (nsl t mt) q) x1.hp.ths,x1.hp.ap⟩
 have eth:hset h1 (.sl (S'.md + 1)) (.list [.tup [.int 8,.str ""]]) (.th (S'.md + 1))=none:=hset_off rfl fr.1
 generalize hset h1 (.sl (S'.md + 1)) (.list [.tup [.int 8,.str ""]])=h2 at *
 walk
 refine k_heap_alloc (dM hm rfl) F2.fin X2 (lt_le (Nat.lt_of_le_of_lt sw.ok.len (sw.md.symm ▸ hb)) rfl) sw.ok.top eth es fun h3 F3 e1 e2 e3 e4=>?_
 walk
 exact k h1 h3 S' x1 F1 sw ((F2.weak (by room)).trans (F3.weak (by room))) e1 e2 e3 e4 (F3.old _ _ rfl es)
theorem k_Shelf_alloc_str (hm:30≤m) {S:Ms} (x:MAt S h) (o:Ok S) (hb:S.md < 250)
  (k:∀ h1 h' S',MAt S' h1→Fp (pO S) h h1→Swept S S' S.want→Fw [.s 12,.g 0 S'.x.eT,.g 1 S'.x.eA,.th (S'.md + 1),.sl (S'.md + 1)] h1 h'→h' (.s 12)=some ({ S'.x with top:=S'.x.top + 3,fresh:=S'.x.fresh + 3,made:=S'.x.made + 1 }:Hp).o→h' (.g 0 S'.x.eT)=some (.list (refs S'.ts ++ [.ref (.th (S'.md + 1))]))→h' (.g 1 S'.x.eA)=some (.dict (atL 16 S'.ts ++ [(.int S'.x.top,.ref (.th (S'.md + 1)))]))→h' (.th (S'.md + 1))=some (thN S'.x.top 13 (S'.x.made + 1) (.sl (S'.md + 1)))→h' (.sl (S'.md + 1))=some (.list [.tup [.int 8,.str ""]])→K (.ref (.th (S'.md + 1))) h'):CF w H0 m f_Shelf_alloc [.ref (.s 14),.int 13,.int 1] h K:=by
 refine cf_run (dN hm rfl) rfl rfl rfl rfl ?_
 walk
 refine k_alloc_str (dM hm rfl) x o hb fun h1 h' S' a b c d e1 e2 e3 e4 e5=>?_
 walk
 exact k h1 h' S' a b c d e1 e2 e3 e4 e5
theorem k_made_text (hm:32≤m) {S:Ms} {s:Str} (x:MAt S h) (o:Ok S) (hb:S.md < 250)
  (k:∀ h' S',MAt (pushT S' (.txt s)) h'→Swept S S' S.want→Fp (pW S) h h'→K (.tup [.int 4,.int S'.x.top]) h'):CF w H0 m f_made_text [.ref (.s 14),.str s] h K:=by
 have f14:=x.m
 unfold mO at f14
 refine cf_run (dN hm rfl) rfl rfl rfl rfl ?_
 walk
 refine k_Shelf_alloc_str (dM hm rfl) x o hb fun h1 h2 S' x1 F1 sw F2 e1 e2 e3 e4 e5=>?_
 have e4':=e4
 unfold thN at e4'
 walk
 refine si_list (l2:=[.tup [.int 8,.str s]]) e5 rfl rfl ?_
 have e4b:hset h2 (.sl (S'.md + 1)) (.list [.tup [.int 8,.str s]]) (.th (S'.md + 1))=_:=hset_off rfl e4'
 have x2:=x1.push (v:=.txt s) sw.ok (F2.set (n:=.sl (S'.md + 1)) (o:=.list [.tup [.int 8,.str s]]) (by room)) (hset_off rfl e1) (hset_off rfl e2) (hset_off rfl e3) (hset_off rfl e4) hset_at
 walk
 refine k _ S' x2 sw ?_
 have F3:=F2.set (n:=.sl (S'.md + 1)) (o:=.list [.tup [.int 8,.str s]]) (by room)
 exact (F1.sub fun n q=>pW_pO x q).trans (F3.toP fun n q=>pW_push q)
theorem k_new_text (hm:34≤m) {S:Ms} {s:Str} (x:MAt S h) (o:Ok S) (hb:S.md < 250)
  (k:∀ h' S',MAt (pushT S' (.txt s)) h'→Swept S S' S.want→Fp (pW S) h h'→K (.tup [.int 4,.int S'.x.top]) h'):CF w H0 m f_Shelf_new_text [.ref (.s 14),.str s] h K:=by
 refine cf_run (dN hm rfl) rfl rfl rfl rfl ?_
 walk
 refine k_made_text (dM hm rfl) x o hb fun h' S' a b c=>?_
 walk
 exact k h' S' a b c
section
theorem dput_key {a b:AVal} (ka:isKey a=true) (kb:isKey b=true) [Decidable (b=a)] {u v:AVal} {r:List (AVal×AVal)}:dput a u ((b,v) :: r)=if b=a then (b,u) :: r else (b,v) :: dput a u r:=by
 rw [dput]
 split
 ·rename_i e; rw [(keyEq_iff kb ka).mpr e]; rfl
 ·rename_i e
  cases q:keyEq b a with
  | false=>rfl
  | true=>exact absurd ((keyEq_iff kb ka).mp q) e
noncomputable def SV.ok:SV→Prop
 | .txt s=>PyData.strOk s=true
 | .knd _=>True
theorem SV.key_ok:∀ {v:SV},v.ok→isKey v.key=true
 | .txt s,e=>by show PyData.strOk s=true; exact e
 | .knd _,_=>rfl
theorem SV.key_inj:∀ {u v:SV},u.key=v.key→u=v
 | .txt a,.txt b,e=>by injection e with e; rw [e]
 | .knd a,.knd b,e=>by injection e with e; injection e with e; injection e with e; rw [e]
 | .txt _,.knd _,e=>by cases e
 | .knd _,.txt _,e=>by cases e
open Classical in
noncomputable def keptAt (v:SV):List (SV×Nat)→Option Nat
 | []=>none
 | p :: r=>if p.1=v then some p.2 else keptAt v r
noncomputable def KpOk (l:List (SV×Nat)):Prop:=∀ p∈l,p.1.ok
theorem intern_some {v:SV} (hv:v.ok):∀ {l:List (SV×Nat)} {i s:Nat},KpOk l→keptAt v l=some s→∃ j,dlk v.key (intern i l)=some (.int (Int.ofNat (i + j)))∧(l.map fun p=>p.2)[j]? = some s
 | [],i,s,_,e=>by cases e
 | p :: r,i,s,k,e=>by
  rw [keptAt] at e
  rw [intern]
  by_cases q:p.1=v
  ·rw [if_pos q] at e
   refine ⟨0,?_,by simpa using e⟩
   rw [q,dlk,(keyEq_iff (SV.key_ok hv) (SV.key_ok hv)).mpr rfl]; rfl
  ·rw [if_neg q] at e
   obtain ⟨j,e1,e2⟩:=intern_some (i:=i + 1) hv (fun p m=>k p (List.mem_cons_of_mem _ m)) e
   refine ⟨j + 1,?_,by simpa using e2⟩
   rw [dlk]
   have:keyEq p.1.key v.key=false:=by
    cases z:keyEq p.1.key v.key with
    | false=>rfl
    | true=>exact absurd (SV.key_inj ((keyEq_iff (SV.key_ok (k p List.mem_cons_self)) (SV.key_ok hv)).mp z)) q
   rw [this,cond_false,e1]
   congr 3; omega
theorem intern_none {v:SV} (hv:v.ok):∀ {l:List (SV×Nat)} {i:Nat} {u:AVal},KpOk l→keptAt v l=none→dlk v.key (intern i l)=none∧dput v.key u (intern i l)=intern i l ++ [(v.key,u)]
 | [],i,u,_,e=>⟨rfl,rfl⟩
 | p :: r,i,u,k,e=>by
  rw [keptAt] at e
  rw [intern]
  by_cases q:p.1=v
  ·rw [if_pos q] at e; cases e
  ·rw [if_neg q] at e
   have z:=intern_none (i:=i + 1) (u:=u) hv (fun p m=>k p (List.mem_cons_of_mem _ m)) e
   have:keyEq p.1.key v.key=false:=by
    cases z:keyEq p.1.key v.key with
    | false=>rfl
    | true=>exact absurd (SV.key_inj ((keyEq_iff (SV.key_ok (k p List.mem_cons_self)) (SV.key_ok hv)).mp z)) q
   rw [dlk,dput,this,cond_false,cond_false,z.2]
   exact ⟨z.1,rfl⟩
theorem intern_len:∀ {l:List (SV×Nat)} {i:Nat},(intern i l).length=l.length
 | [],_=>rfl
 | _ :: r,i=>by rw [intern,List.length_cons,List.length_cons,intern_len]
theorem intern_snoc {v:SV} {s:Nat}:∀ {l:List (SV×Nat)} {i:Nat},intern i l ++ [(v.key,.int (Int.ofNat (i + l.length)))]=intern i (l ++ [(v,s)])
 | [],_=>rfl
 | _ :: r,i=>by
  rw [intern,List.cons_append,List.cons_append,intern,← intern_snoc]
  rw [List.length_cons,show i + (r.length + 1)=i + 1 + r.length from (Nat.add_right_comm i 1 r.length).symm]
noncomputable def keepT (S:Ms) (v:SV) (s:Nat):Ms:={ S with kept:=S.kept ++ [(v,s)] }
theorem nthV_map {α:Type} {f:α→AVal}:∀ {l:List α} {j:Nat} {a:α},l[j]? = some a→nthV (l.map f) j=some (f a)
 | [],_,_,e=>by simp at e
 | b :: r,0,a,e=>by
  rw [List.getElem?_cons_zero] at e; injection e with e; rw [← e]; rfl
 | b :: r,j + 1,a,e=>by
  rw [List.getElem?_cons_succ] at e
  rw [List.map_cons,nthV]; exact nthV_map e
theorem in34 {S:Ms}:(Nm.s 34,S.kept.map fun p=>HV.ref p.2)∈rootsL S:=List.mem_append_left _ (List.mem_append_left _ (.tail _ (.tail _ (.tail _ (.tail _ (.tail _ (.head _)))))))
theorem in44 {S:Ms}:(Nm.s 44,S.cells.map HV.ref)∈rootsL S:=List.mem_append_left _ (List.mem_append_left _ (.tail _ (.head _)))
theorem MAt.internv {S:Ms} (x:MAt S h):h (.s 34)=some (.list ((S.kept.map fun p=>HV.ref p.2).map (HV.enc S.ts))):=(x.roots _ in34).1
theorem roots_el {S S':Ms} (x:MAt S h) {P:Nm×List HV→Prop} (eh:S'.held=S.held) (h44:P (.s 44,S'.cells.map .ref)) (h34:P (.s 34,S'.kept.map fun p=>.ref p.2)) (rest:∀ p∈rootsL S,p.1≠.s 44→p.1≠.s 34→P p):∀ p∈rootsL S',P p:=fun p mp=>by
 have L:∀ q,q∈[(Nm.s 43,[]),(.s 44,S.cells.map .ref),(.s 45,[]),(.s 49,[]),(.s 48,[]),(.s 34,S.kept.map fun p=>.ref p.2)]→q∈rootsL S:=fun q m=>List.mem_append_left _ (List.mem_append_left _ m)
 rcases List.mem_append.mp mp with mp | q
 ·rcases List.mem_append.mp mp with mp | q
  ·rcases List.mem_cons.mp mp with e | mp
   ·exact e ▸ rest _ (L _ (.head _)) (ne_of rfl) (ne_of rfl)
   rcases List.mem_cons.mp mp with e | mp
   ·exact e ▸ h44
   rcases List.mem_cons.mp mp with e | mp
   ·exact e ▸ rest _ (L _ (.tail _ (.tail _ (.head _)))) (ne_of rfl) (ne_of rfl)
   rcases List.mem_cons.mp mp with e | mp
   ·exact e ▸ rest _ (L _ (.tail _ (.tail _ (.tail _ (.head _))))) (ne_of rfl) (ne_of rfl)
   rcases List.mem_cons.mp mp with e | mp
   ·exact e ▸ rest _ (L _ (.tail _ (.tail _ (.tail _ (.tail _ (.head _)))))) (ne_of rfl) (ne_of rfl)
   ·exact List.mem_singleton.mp mp ▸ h34
  ·have q:p∈S.held:=eh ▸ q
   have t:=x.heldT p q
   exact rest _ (List.mem_append_left _ (List.mem_append_right _ q)) (fun z=>ft ((congrArg isT z).symm.trans t)) fun z=>ft ((congrArg isT z).symm.trans t)
 ·exact List.mem_singleton.mp q ▸ rest _ (List.mem_append_right _ (.head _)) (ne_of rfl) (ne_of rfl)
theorem MAt.keep {S:Ms} {v:SV} {s:Nat} {h':AH} (x:MAt S h) (F:Fw [.s 33,.s 34] h h') (hs:In S.ts s) (e1:h' (.s 33)=some (.dict (intern 0 (S.kept ++ [(v,s)])))) (e2:h' (.s 34)=some (.list (((S.kept ++ [(v,s)]).map fun p=>HV.ref p.2).map (HV.enc S.ts)))):MAt (keepT S v s) h':=by
 have os:∀ k,k≠33→k≠34→nin (.s k) [.s 33,.s 34]=true:=fun k a b=>nin2 (by simpa using a) (by simpa using b)
 have ot:∀ n,(∀ k,n≠.s k)→nin n [.s 33,.s 34]=true:=fun n q=>nin2 (q _) (q _)
 have roots:LsAt h' S.ts (rootsL (keepT S v s)):=by
  have old:∀ p∈rootsL S,p.1≠.s 34→h' p.1=some (.list (p.2.map (HV.enc S.ts)))∧∀ v∈p.2,HvOk S.ts v:=fun p mp ne=>by
   have hp:=x.roots p mp
   refine ⟨F.old _ _ (nin2 (fun z=>?_) ne) hp.1,hp.2⟩
   have:=pK_s x (k:=33) rfl
   unfold pK at this
   rw [Bool.and_eq_true] at this
   exact nin_ne this.2 (List.mem_map_of_mem (f:=fun p:Nm×List HV=>p.1) mp) z.symm
  refine roots_el x (P:=fun p=>h' p.1=some (.list (p.2.map (HV.enc S.ts)))∧∀ v∈p.2,HvOk S.ts v) rfl (old _ in44 (ne_of rfl)) ⟨e2,fun u mu=>?_⟩ fun p mp _ ne=>old p mp ne
  obtain ⟨p,mp,rfl⟩:=List.mem_map.mp mu
  rcases List.mem_append.mp mp with q | q
  ·exact (x.roots _ in34).2 _ (List.mem_map_of_mem (f:=fun p:SV×Nat=>HV.ref p.2) q)
  ·rw [List.mem_singleton.mp q]; exact .inr hs
 refine ⟨?_,F.old _ _ rfl x.m,F.old _ _ rfl x.thrown,e1,F.old _ _ rfl x.held,roots,⟨F.old _ _ rfl x.hp.hp,F.old _ _ rfl x.hp.things,F.old _ _ rfl x.hp.at_,F.old _ _ rfl x.hp.cards,F.old _ _ rfl x.hp.finals,F.old _ _ rfl x.hp.ready,ThsAt.keep (fun t _ o q=>F.old _ _ rfl q) (fun t mt o q=>F.old _ _ rfl q) x.hp.ths,x.hp.ap⟩,fun e=>(x.hdT e).fw F rfl rfl,fun e=>?_,F.fin,x.heldT,x.heldN,x.sers,fun s q=>?_⟩
 ·exact x.fix.mono fun p mp o e=>F.old _ _ (by
   have:fixTab.all (fun p=>!(Nat.beq p.1 33) && !(Nat.beq p.1 34))=true:=by decide +kernel
   have:=List.all_eq_true.mp this p mp
   refine os _ (fun z=>?_) fun z=>?_ <;> rw [z] at this <;> cases this) e
 ·have:=x.hdF e
  exact ⟨by rw [F.nt _ rfl rfl]; exact this.1,by rw [F.nt _ rfl rfl]; exact this.2⟩
 ·have:=x.frs s q
  exact ⟨by rw [F.nt _ rfl rfl]; exact this.1,by rw [F.nt _ rfl rfl]; exact this.2⟩
theorem ra_new {S:Ms} {v:SV} (x:MAt (pushT S v) h) (o:Ok S):ra (pushT S v).ts (S.md + 1)=S.x.top:=by
 unfold ra
 rw [if_neg (by omega)]
 show addrOf 16 (S.ts ++ [_]) _=_
 rw [addrOf_right fun ⟨t,mt,e⟩=>(apart_app (a:=S.ts) (b:=[_]) x.hp.ap).2.2 t mt _ (List.mem_singleton.mpr rfl) e,o.top,addrOf,if_pos rfl]
theorem k_interned (hm:36≤m) {S:Ms} {s:Str} (x:MAt S h) (o:Ok S) (ko:KpOk S.kept) (so:PyData.strOk s=true) (hb:S.md < 250)
  (k1:∀ t,keptAt (.txt s) S.kept=some t→K (.tup [.int 4,.int (ra S.ts t)]) h)
  (k2:keptAt (.txt s) S.kept=none→∀ h' S',Swept S S' S.want→MAt (keepT (pushT S' (.txt s)) (.txt s) (S'.md + 1)) h'→Fp (pW S) h h'→K (.tup [.int 4,.int S'.x.top]) h'):CF w H0 m f_interned_text [.ref (.s 14),.str s] h K:=by
 have f14:=x.m
 unfold mO at f14
 have f33:=x.interned
 have f34:=x.internv
 have sv:(SV.txt s).ok:=so
 have sk:isKey (.str s)=true:=so
 refine cf_run (dN hm rfl) rfl rfl rfl rfl ?_
 walk
 refine me_get2 f33 sk ?_
 cases q:keptAt (.txt s) S.kept with
 | some t =>
  obtain ⟨j,e1,e2⟩:=intern_some (i:=0) sv ko q
  rw [show (AVal.str s)=(SV.txt s).key from rfl,e1,Option.getD_some]
  walk
  refine gi_list (j:=j) f34 (by rw [Nat.zero_add]) (nthV_map (a:=HV.ref t) (by rw [List.getElem?_map] at e2 ⊢; cases z:S.kept[j]? with | none=>rw [z] at e2; cases e2 | some p=>rw [z] at e2; injection e2 with e2; rw [← e2]; rfl)) ?_
  walk
  exact k1 t q
 | none =>
  obtain ⟨e1,e2⟩:=intern_none (i:=0) (u:=.none) sv ko q
  rw [show (AVal.str s)=(SV.txt s).key from rfl,e1,Option.getD_none]
  walk
  refine k_new_text (dM hm rfl) x o hb fun h1 S1 x1 sw F1=>?_
  have g14:=x1.m
  unfold mO at g14
  have g33:=x1.interned
  have g34:=x1.internv
  have kk:S1.kept=S.kept:=sw.kept
  have ki:keptAt (.txt s) S1.kept=none:=by rw [kk]; exact q
  have ko1:KpOk S1.kept:=by rw [kk]; exact ko
  have kl:S1.kept.length < 300:=lt_le (Nat.lt_of_le_of_lt sw.ok.kept (sw.md.symm ▸ hb)) rfl
  walk
  refine si_dict g33 sk (by show (intern 0 S1.kept).length < _; rw [intern_len]; exact lt_le kl rfl) ?_
  have e3:dput (SV.txt s).key (.int ((List.map (HV.enc (pushT S1 (.txt s)).ts) (List.map (fun p=>HV.ref p.2) (pushT S1 (.txt s)).kept)).length)) (intern 0 (pushT S1 (.txt s)).kept)=intern 0 (S1.kept ++ [(.txt s,S1.md + 1)]):=by
   rw [← intern_snoc,Nat.zero_add]
   rw [show (pushT S1 (SV.txt s)).kept=S1.kept from rfl,(intern_none sv ko1 ki).2,List.length_map,List.length_map]
   rfl
  rw [e3]
  walk
  refine me_append (hset_off rfl g34) (by rw [List.length_map,List.length_map]; show S1.kept.length < _; exact lt_le kl rfl) ?_
  walk
  have F2:∀ {o1 o2:AObj},Fw [.s 33,.s 34] h1 (hset (hset h1 (.s 33) o1) (.s 34) o2):=((Fw.refl x1.fin).set (n:=.s 33) (by room)).set (by room)
  refine k2 q _ S1 sw ?_ ?_
  ·refine x1.keep (v:=.txt s) (s:=S1.md + 1) F2 ⟨_,List.mem_append_right _ (List.mem_singleton.mpr rfl),rfl⟩ (hset_off rfl hset_at) ?_
   rw [hset_at,List.map_append,List.map_append]
   show some (AObj.list (_ ++ [AVal.tup [.int 4,.int S1.x.top]]))=some (AObj.list (_ ++ [AVal.tup [.int 4,.int (ra (pushT S1 (.txt s)).ts (S1.md + 1))]]))
   rw [ra_new x1 sw.ok]
  ·refine F1.trans (F2.toP fun n e=>nin2 ?_ ?_) <;> (rintro rfl; cases e)
end
theorem k_alloc_type (hm:28≤m) {S:Ms} (x:MAt S h) (o:Ok S) (hb:S.md < 250)
  (k:∀ h1 h' S',MAt S' h1→Fp (pO S) h h1→Swept S S' S.want→Fw [.s 12,.g 0 S'.x.eT,.g 1 S'.x.eA,.th (S'.md + 1),.sl (S'.md + 1)] h1 h'→h' (.s 12)=some ({ S'.x with top:=S'.x.top + 3,fresh:=S'.x.fresh + 3,made:=S'.x.made + 1 }:Hp).o→h' (.g 0 S'.x.eT)=some (.list (refs S'.ts ++ [.ref (.th (S'.md + 1))]))→h' (.g 1 S'.x.eA)=some (.dict (atL 16 S'.ts ++ [(.int S'.x.top,.ref (.th (S'.md + 1)))]))→h' (.th (S'.md + 1))=some (thN S'.x.top 16 (S'.x.made + 1) (.sl (S'.md + 1)))→h' (.sl (S'.md + 1))=some (.list [.tup [.int 4,.int 0]])→K (.ref (.th (S'.md + 1))) h'):CF w H0 m f_alloc_thing [.ref (.s 14),.int 16,.int 1] h K:=by
 have f14:=x.m
 unfold mO at f14
 have f41:=x.fix.at (k:=41) rfl
 refine cf_run (dN hm rfl) rfl rfl rfl rfl ?_
 walk
 refine k_before (dM hm rfl) x o hb fun h1 S' x1 F1 sw=>?_
 have g14:=x1.m
 unfold mO at g14
 walk
 have fr:=x1.frs (S'.md + 1) (Nat.lt_succ_self _)
 refine k_fs_type (dM hm rfl) x1.fin x1.fix x1.m fr.2 fun h2 F2 es=>?_
 have nsl:∀ t∈S'.ts,nin (.sl t.ser) [.sl (S'.md + 1)]=true:=fun t mt=>by
  show (!(Nm.eqb (.sl t.ser) (.sl (S'.md + 1))) && true)=true
  rw [Nm.eqb_ne fun e=>Nat.not_succ_le_self _ (Nm.sl.inj e ▸ x1.sers t mt)]; rfl
 have X2:HpAt h2 S'.x S'.ts:=⟨F2.old _ _ rfl x1.hp.hp,F2.old _ _ rfl x1.hp.things,F2.old _ _ rfl x1.hp.at_,F2.old _ _ rfl x1.hp.cards,F2.old _ _ rfl x1.hp.finals,F2.old _ _ rfl x1.hp.ready,ThsAt.keep (fun t _ o q=>F2.old _ _ rfl q) (fun t mt o q=>F2.old _ _ (nsl t mt) q) x1.hp.ths,x1.hp.ap⟩
 have eth:h2 (.th (S'.md + 1))=none:=by rw [F2.nt _ rfl rfl]; exact fr.1
 have q14:=F2.old _ _ rfl g14
 walk
 refine k_heap_alloc (dM hm rfl) F2.fin X2 (lt_le (Nat.lt_of_le_of_lt sw.ok.len (sw.md.symm ▸ hb)) rfl) sw.ok.top eth es fun h3 F3 e1 e2 e3 e4=>?_
 walk
 exact k h1 h3 S' x1 F1 sw ((F2.weak (by room)).trans (F3.weak (by room))) e1 e2 e3 e4 (F3.old _ _ rfl es)
theorem k_Shelf_alloc_type (hm:30≤m) {S:Ms} (x:MAt S h) (o:Ok S) (hb:S.md < 250)
  (k:∀ h1 h' S',MAt S' h1→Fp (pO S) h h1→Swept S S' S.want→Fw [.s 12,.g 0 S'.x.eT,.g 1 S'.x.eA,.th (S'.md + 1),.sl (S'.md + 1)] h1 h'→h' (.s 12)=some ({ S'.x with top:=S'.x.top + 3,fresh:=S'.x.fresh + 3,made:=S'.x.made + 1 }:Hp).o→h' (.g 0 S'.x.eT)=some (.list (refs S'.ts ++ [.ref (.th (S'.md + 1))]))→h' (.g 1 S'.x.eA)=some (.dict (atL 16 S'.ts ++ [(.int S'.x.top,.ref (.th (S'.md + 1)))]))→h' (.th (S'.md + 1))=some (thN S'.x.top 16 (S'.x.made + 1) (.sl (S'.md + 1)))→h' (.sl (S'.md + 1))=some (.list [.tup [.int 4,.int 0]])→K (.ref (.th (S'.md + 1))) h'):CF w H0 m f_Shelf_alloc [.ref (.s 14),.int 16,.int 1] h K:=by
 refine cf_run (dN hm rfl) rfl rfl rfl rfl ?_
 walk
 refine k_alloc_type (dM hm rfl) x o hb fun h1 h' S' a b c d e1 e2 e3 e4 e5=>?_
 walk
 exact k h1 h' S' a b c d e1 e2 e3 e4 e5
theorem k_new_type (hm:36≤m) {S:Ms} {c:Int} (x:MAt S h) (o:Ok S) (ko:KpOk S.kept) (hb:S.md < 250)
  (k1:∀ t,keptAt (.knd c) S.kept=some t→K (.tup [.int 4,.int (ra S.ts t)]) h)
  (k2:keptAt (.knd c) S.kept=none→∀ h' S',Swept S S' S.want→MAt (keepT (pushT S' (.knd c)) (.knd c) (S'.md + 1)) h'→Fp (pW S) h h'→K (.tup [.int 4,.int S'.x.top]) h'):CF w H0 m f_new_type [.ref (.s 14),.int c] h K:=by
 have f14:=x.m
 unfold mO at f14
 have f33:=x.interned
 have f34:=x.internv
 have sv:(SV.knd c).ok:=trivial
 have sk:isKey (.tup [.int c])=true:=rfl
 refine cf_run (dN hm rfl) rfl rfl rfl rfl ?_
 walk
 refine me_get2 f33 sk ?_
 cases q:keptAt (.knd c) S.kept with
 | some t =>
  obtain ⟨j,e1,e2⟩:=intern_some (i:=0) sv ko q
  rw [show (AVal.tup [.int c])=(SV.knd c).key from rfl,e1,Option.getD_some]
  walk
  refine gi_list (j:=j) f34 (by rw [Nat.zero_add]) (nthV_map (a:=HV.ref t) (by rw [List.getElem?_map] at e2 ⊢; cases z:S.kept[j]? with | none=>rw [z] at e2; cases e2 | some p=>rw [z] at e2; injection e2 with e2; rw [← e2]; rfl)) ?_
  walk
  exact k1 t q
 | none =>
  obtain ⟨e1,e2⟩:=intern_none (i:=0) (u:=.none) sv ko q
  rw [show (AVal.tup [.int c])=(SV.knd c).key from rfl,e1,Option.getD_none]
  walk
  refine k_class_kind (dM hm rfl) x.fix ?_
  walk
  refine k_Shelf_alloc_type (dM hm rfl) x o hb fun h0 h2 S1 x0 F0 sw F2 d1 d2 d3 d4 d5=>?_
  have d4':=d4
  unfold thN at d4'
  walk
  refine si_list (l2:=[.tup [.int 1,.int c]]) d5 rfl rfl ?_
  have x1:=x0.push (v:=.knd c) sw.ok (F2.set (n:=.sl (S1.md + 1)) (o:=.list [.tup [.int 1,.int c]]) (by room)) (hset_off rfl d1) (hset_off rfl d2) (hset_off rfl d3) (hset_off rfl d4) hset_at
  have F3:=F2.set (n:=.sl (S1.md + 1)) (o:=.list [.tup [.int 1,.int c]]) (by room)
  have F1:=(F0.sub fun n q=>pW_pO x q).trans (F3.toP fun n q=>pW_push (S:=S) q)
  have d6:=hset_off (n:=.sl (S1.md + 1)) (o':=.list [.tup [.int 1,.int c]]) rfl d4'
  generalize hset h2 (.sl (S1.md + 1)) (.list [.tup [.int 1,.int c]])=h1 at *
  have g14:=x1.m
  unfold mO at g14
  have g33:=x1.interned
  have g34:=x1.internv
  have kk:S1.kept=S.kept:=sw.kept
  have ki:keptAt (.knd c) S1.kept=none:=by rw [kk]; exact q
  have ko1:KpOk S1.kept:=by rw [kk]; exact ko
  have kl:S1.kept.length < 300:=lt_le (Nat.lt_of_le_of_lt sw.ok.kept (sw.md.symm ▸ hb)) rfl
  walk
  refine si_dict g33 sk (by show (intern 0 S1.kept).length < _; rw [intern_len]; exact lt_le kl rfl) ?_
  have e3:dput (SV.knd c).key (.int ((List.map (HV.enc (pushT S1 (.knd c)).ts) (List.map (fun p=>HV.ref p.2) (pushT S1 (.knd c)).kept)).length)) (intern 0 (pushT S1 (.knd c)).kept)=intern 0 (S1.kept ++ [(.knd c,S1.md + 1)]):=by
   rw [← intern_snoc,Nat.zero_add]
   rw [show (pushT S1 (SV.knd c)).kept=S1.kept from rfl,(intern_none sv ko1 ki).2,List.length_map,List.length_map]
   rfl
  rw [e3]
  walk
  refine me_append (hset_off rfl g34) (by rw [List.length_map,List.length_map]; show S1.kept.length < _; exact lt_le kl rfl) ?_
  walk
  have F2:∀ {o1 o2:AObj},Fw [.s 33,.s 34] h1 (hset (hset h1 (.s 33) o1) (.s 34) o2):=((Fw.refl x1.fin).set (n:=.s 33) (by room)).set (by room)
  refine k2 q _ S1 sw ?_ ?_
  ·refine x1.keep (v:=.knd c) (s:=S1.md + 1) F2 ⟨_,List.mem_append_right _ (List.mem_singleton.mpr rfl),rfl⟩ (hset_off rfl hset_at) ?_
   rw [hset_at,List.map_append,List.map_append]
   show some (AObj.list (_ ++ [AVal.tup [.int 4,.int S1.x.top]]))=some (AObj.list (_ ++ [AVal.tup [.int 4,.int (ra (pushT S1 (.knd c)).ts (S1.md + 1))]]))
   rw [ra_new x1 sw.ok]
  ·refine F1.trans (F2.toP fun n e=>nin2 ?_ ?_) <;> (rintro rfl; cases e)
theorem at_zero:∀ {a:Int} {ts:List Th},0 < a→dlk (.int 0) (atL a ts)=none
 | _,[],_=>rfl
 | a,t :: r,e=>by rw [atL,dlk_int,if_neg (by omega)]; exact at_zero (by omega)
theorem ra_zero {ts:List Th}:ra ts 0=0:=by unfold ra; rw [if_pos rfl]
theorem ra_in {ts:List Th} {s:Nat} (z:s≠0):ra ts s=addrOf 16 ts s:=by unfold ra; rw [if_neg z]
theorem apart_ne0:∀ {ts:List Th},Apart ts→∀ t∈ts,t.ser≠0
 | [],_,t,m=>by cases m
 | u :: r,x,t,m=>by
  rcases List.mem_cons.mp m with rfl | m
  ·exact x.1
  ·exact apart_ne0 x.2.2 t m
noncomputable def tOk (x:Str):Prop:=x.length≤8∧PyData.strOk x=true
inductive TX (ts:List Th):Nat→Option Str→Prop
 | zero:TX ts 0 none
 | some {t:Th} {x:Str} (mt:t∈ts) (e:t.val = .txt x) (l:tOk x):TX ts t.ser (some x)
noncomputable def oS:Option Str→AVal
 | none=>.none
 | some x=>.str x
theorem k_text_held (hm:4≤m) {S:Ms} {t:Th} {x:Str} (X:MAt S h) (mt:t∈S.ts) (e:t.val = .txt x) (k:K (.str x) h):CF w H0 m f_text_held [.ref (.s 14),.int (addrOf 16 S.ts t.ser)] h K:=by
 have f14:=X.m
 unfold mO at f14
 have hh:=X.hp.hp
 unfold Hp.o heapO at hh
 have ha:=X.hp.at_
 obtain ⟨e1,e2⟩:=ths_at X.hp.ap X.hp.ths mt
 unfold thO at e1
 rw [e] at e1 e2
 unfold SV.kind at e1
 unfold SV.enc at e2
 refine cf_run (dN hm rfl) rfl rfl rfl rfl ?_
 walk
 refine me_get ha rfl ?_
 rw [at_look X.hp.ap ⟨t,mt,rfl⟩,Option.getD_some]
 walk
 all_goals exact k
theorem k_text_of (hm:6≤m) {S:Ms} {t:Th} {x:Str} (X:MAt S h) (mt:t∈S.ts) (e:t.val = .txt x) (k:K (.str x) h):CF w H0 m f_Shelf_text_of [.ref (.s 14),.int (addrOf 16 S.ts t.ser)] h K:=by
 refine cf_run (dN hm rfl) rfl rfl rfl rfl ?_
 walk
 refine k_text_held (dM hm rfl) X mt e ?_
 walk
 all_goals exact k
theorem k_text_at (hm:8≤m) {S:Ms} {s:Nat} {u:Option Str} (X:MAt S h) (T:TX S.ts s u) (k:K (oS u) h):CF w H0 m f_text_at [.ref (.s 14),.tup [.int 4,.int (ra S.ts s)]] h K:=by
 have f14:=X.m
 unfold mO at f14
 refine cf_run (dN hm rfl) rfl rfl rfl rfl ?_
 cases T with
 | zero =>
  rw [ra_zero]
  walk
  all_goals exact k
 | some mt e l =>
  rename_i t x
  rw [ra_in (apart_ne0 X.hp.ap t mt)]
  have hg:(16:Int)≤addrOf 16 S.ts t.ser:=addrOf_ge ⟨t,mt,rfl⟩
  walk
  refine vi_f (by show decide (addrOf 16 S.ts t.ser=0)=false; exact decide_eq_false (by omega)) ?_
  walk
  refine k_text_of (dM hm rfl) X mt e ?_
  walk
  all_goals exact k
theorem k_thing0 (hm:4≤m) {S:Ms} (X:MAt S h) (k:K .none h):CF w H0 m f_thing_named [.ref (.s 14),.tup [.int 4,.int 0]] h K:=by
 have f14:=X.m
 unfold mO at f14
 have hh:=X.hp.hp
 unfold Hp.o heapO at hh
 have ha:=X.hp.at_
 refine cf_run (dN hm rfl) rfl rfl rfl rfl ?_
 walk
 refine me_get ha rfl ?_
 rw [at_zero (by omega),Option.getD_none]
 walk
 all_goals exact k
theorem k_thing (hm:4≤m) {S:Ms} {t:Th} (X:MAt S h) (mt:t∈S.ts) (k:K (.ref (.th t.ser)) h):CF w H0 m f_thing_named [.ref (.s 14),.tup [.int 4,.int (ra S.ts t.ser)]] h K:=by
 have f14:=X.m
 unfold mO at f14
 have hh:=X.hp.hp
 unfold Hp.o heapO at hh
 have ha:=X.hp.at_
 rw [ra_in (apart_ne0 X.hp.ap t mt)]
 refine cf_run (dN hm rfl) rfl rfl rfl rfl ?_
 walk
 refine me_get ha rfl ?_
 rw [at_look X.hp.ap ⟨t,mt,rfl⟩,Option.getD_some]
 walk
 all_goals exact k
theorem k_bool_value (hm:2≤m) {b:Bool} (k:K (.tup [.int 1,.int (if b then 1 else 0)]) h):CF w H0 m f_bool_value [.bool b] h K:=by
 refine cf_run (dN hm rfl) rfl rfl rfl rfl ?_
 cases b
 ·walk
  all_goals exact k
 ·walk
  all_goals exact k
theorem MAt.throw {S:Ms} {l:List AVal} {h':AH} (x:MAt S h) (F:Fw [.g 4 S.eTh] h h') (e1:h' (.g 4 S.eTh)=some (.list l)):MAt { S with thrown:=l } h':=by
 have roots:LsAt h' S.ts (rootsL { S with thrown:=l }):=fun p mp=>by
  have hp:=x.roots p mp
  have rk:=roots_ok x p.1 (List.mem_map_of_mem mp)
  refine ⟨F.old _ _ (nin_sub' fun q mq z=>?_) hp.1,hp.2⟩
  rw [List.mem_singleton.mp mq] at z
  have:=pK_g x (k:=4) (e:=S.eTh) rfl
  unfold pK at this
  rw [Bool.and_eq_true] at this
  exact nin_ne this.2 (List.mem_map_of_mem (f:=fun p:Nm×List HV=>p.1) mp) z.symm
 refine ⟨x.fix.mono fun p mp o e=>F.old _ _ rfl e,F.old _ _ rfl x.m,e1,F.old _ _ rfl x.interned,F.old _ _ rfl x.held,roots,⟨F.old _ _ rfl x.hp.hp,F.old _ _ rfl x.hp.things,F.old _ _ rfl x.hp.at_,F.old _ _ rfl x.hp.cards,F.old _ _ rfl x.hp.finals,F.old _ _ rfl x.hp.ready,ThsAt.keep (fun t _ o q=>F.old _ _ rfl q) (fun t mt o q=>F.old _ _ rfl q) x.hp.ths,x.hp.ap⟩,fun e=>(x.hdT e).fw F rfl rfl,fun e=>?_,F.fin,x.heldT,x.heldN,x.sers,fun s q=>?_⟩
 ·have:=x.hdF e
  exact ⟨by rw [F.nt _ rfl rfl]; exact this.1,by rw [F.nt _ rfl rfl]; exact this.2⟩
 ·have:=x.frs s q
  exact ⟨by rw [F.nt _ rfl rfl]; exact this.1,by rw [F.nt _ rfl rfl]; exact this.2⟩
theorem k_note_thrown (hm:2≤m) {S:Ms} {t:Int} (X:MAt S h) (hl:S.thrown.length < 100) (k:∀ h',Fw [.g 4 S.eTh] h h'→MAt { S with thrown:=S.thrown ++ [.int t] } h'→K (.int (-2)) h'):CF w H0 m f_note_thrown [.ref (.s 14),.int t] h K:=by
 have f14:=X.m
 unfold mO at f14
 have ft:=X.thrown
 refine cf_run (dN hm rfl) rfl rfl rfl rfl ?_
 walk
 have F:Fw [.g 4 S.eTh] h (hset h (.g 4 S.eTh) (.list (S.thrown ++ [.int t]))):=(Fw.refl X.fin).set (by room)
 exact k _ F (X.throw F hset_at)
theorem k_throw_new (hm:4≤m) {S:Ms} {t:Int} {u:AVal} (X:MAt S h) (hl:S.thrown.length < 100) (k:∀ h',Fw [.g 4 S.eTh] h h'→MAt { S with thrown:=S.thrown ++ [.int t] } h'→K (.int (-2)) h'):CF w H0 m f_Tray_throw_new [.ref (.s 14),.int t,u] h K:=by
 refine cf_run (dN hm rfl) rfl rfl rfl rfl ?_
 walk
 refine k_note_thrown (dM hm rfl) X hl fun h' F x=>?_
 walk
 exact k h' F x
theorem k_no_object (hm:6≤m) {S:Ms} (X:MAt S h) (hl:S.thrown.length < 100) (k:∀ h',Fw [.g 4 S.eTh] h h'→MAt { S with thrown:=S.thrown ++ [.int 21] } h'→K (.int (-2)) h'):CF w H0 m f_no_object [.ref (.s 14)] h K:=by
 have f14:=X.m
 unfold mO at f14
 refine cf_run (dN hm rfl) rfl rfl rfl rfl ?_
 walk
 refine k_throw_new (dM hm rfl) X hl fun h' F x=>?_
 walk
 exact k h' F x
theorem k_bad_argument (hm:6≤m) {S:Ms} {t:Int} {u:AVal} (X:MAt S h) (hl:S.thrown.length < 100) (k:∀ h',Fw [.g 4 S.eTh] h h'→MAt { S with thrown:=S.thrown ++ [.int t] } h'→K (.int (-2)) h'):CF w H0 m f_bad_argument [.ref (.s 14),.int t,u] h K:=by
 have f14:=X.m
 unfold mO at f14
 refine cf_run (dN hm rfl) rfl rfl rfl rfl ?_
 walk
 refine k_throw_new (dM hm rfl) X hl fun h' F x=>?_
 walk
 exact k h' F x
noncomputable def wrapV (n:Int):Int :=
 if (Builtin.bitAnd n (1 * 2 ^ Int.toNat 32 - 1)).fdiv (2 ^ (32 - 1:Int).toNat) != 0 then Builtin.bitAnd n (1 * 2 ^ Int.toNat 32 - 1) - 1 * 2 ^ Int.toNat 32 else Builtin.bitAnd n (1 * 2 ^ Int.toNat 32 - 1)
theorem k_wrap_bits (hm:2≤m) {n:Int} (k:K (.int (wrapV n)) h):CF w H0 m f_wrap_bits [.int n,.int 32] h K:=by
 refine cf_run (dN hm rfl) rfl rfl rfl rfl ?_
 unfold wrapV at k
 walk
 refine bi_shl ⟨by omega,by omega,by decide⟩ ?_
 walk
 refine bi_and ?_
 walk
 refine bi_shr (j:=32 - 1) (by decide) ?_
 walk
 refine vi (fun q=>?_) fun q=>?_
 ·rw [if_pos q] at k
  walk
  refine bi_shl ⟨by omega,by omega,by decide⟩ ?_
  walk
  all_goals exact k
 ·rw [if_neg (by rw [q]; decide)] at k
  walk
  all_goals exact k
theorem k_wrap32 (hm:4≤m) {n:Int} (k:K (.int (wrapV n)) h):CF w H0 m f_wrap32 [.int n] h K:=by
 refine cf_run (dN hm rfl) rfl rfl rfl rfl ?_
 walk
 refine k_wrap_bits (dM hm rfl) ?_
 walk
 all_goals exact k
noncomputable def hashL (n:Int):List Nat→Int
 | []=>n
 | c :: r=>hashL (Builtin.bitAnd (n * 33 + c) 4294967295) r
theorem hashL_snoc {c:Nat}:∀ {d:List Nat} {n:Int},hashL n (d ++ [c])=Builtin.bitAnd (hashL n d * 33 + c) 4294967295
 | [],_=>rfl
 | _ :: d,_=>hashL_snoc (d:=d)
noncomputable def hashV (s:Str):Int:=wrapV (hashL 5381 s.cps.toList)
theorem k_text_hash (hm:6≤m) {s:Str} (k:K (.int (hashV s)) h):CF w H0 m f_text_hash [.str s] h K:=by
 refine cf_run (dN hm rfl) rfl rfl rfl rfl ?_
 walk
 refine it_str ?_
 refine fr_each ["letter","h"] (fun c=>AVal.str ⟨#[c]⟩) s.cps.toList rfl (I:=fun d _ loc1 h1=>h=h1∧lk "h" loc1=some (.int (hashL 5381 d))) (fun _ _ _ _ _=>trivial)
  (fun d c l loc1 h1 e L i K' kn=>?_) (fun loc1 h1 L i=>?_) ⟨rfl,by k_ne⟩
 ·obtain ⟨rfl,l1⟩:=i
  walk
  refine bi_mul (.inr (by decide)) ?_
  walk
  refine bl_ord (m:=c) rfl ?_
  walk
  refine bi_and ?_
  walk
  exact kn _ _ (by k_ne) ⟨rfl,by rw [hashL_snoc]; k_ne⟩
 ·obtain ⟨rfl,l1⟩:=i
  walk
  refine k_wrap32 (dM hm rfl) ?_
  walk
  exact k
section
set_option linter.unusedSimpArgs false
theorem toPy_str {n:Nat} {a:Str} (e:PyData.strOk a=true):toPy h (n + 1) (.str a)=some (.str a):=by
 show (bif PyData.strOk a then _ else _)=_
 rw [e]; rfl
theorem toPy_tup {n:Nat} {l:List AVal} {q:List PyData} (e:goPy (toPy h n) l=some q):toPy h (n + 1) (.tup l)=some (.tuple q):=congrArg (Option.map PyData.tuple) e
theorem toPy_ref {n:Nat} {a:Nm} {l:List AVal} {q:List PyData} (ha:h a=some (.list l)) (e:goPy (toPy h n) l=some q):toPy h (n + 1) (.ref a)=some (.list q):=by
 show (lstOf (h a)).bind (fun l=>(goPy (toPy h n) l).map PyData.list)=_
 rw [ha]; exact congrArg (Option.map PyData.list) e
theorem goPy_c {f:AVal→Option PyData} {a:AVal} {r:List AVal} {x:PyData} {q:List PyData} (e1:f a=some x) (e2:goPy f r=some q):goPy f (a :: r)=some (x :: q):=by
 rw [goPy,e1,e2]; rfl
theorem eqV_of {a b:AVal} {x y:PyData} (ea:toPy h 5 a=some x) (eb:toPy h 5 b=some y):eqV h a b=some (pq x y):=by
 unfold eqV; rw [ea,eb]
theorem eqV_str {a b:Str} (ha:PyData.strOk a=true) (hb:PyData.strOk b=true):eqV h (.str a) (.str b)=some (sq a b):=by
 exact eqV_of (toPy_str ha) (toPy_str hb)
theorem ser_uniq:∀ {ts:List Th} {t u:Th},Apart ts→t∈ts→u∈ts→t.ser=u.ser→t=u
 | [],_,_,_,m,_,_=>absurd m List.not_mem_nil
 | v :: r,t,u,x,a,b,e=>by
  rcases List.mem_cons.mp a with a' | a'
  ·rcases List.mem_cons.mp b with b' | b'
   ·rw [a',b']
   ·rw [a'] at e; exact absurd e.symm (x.2.1 u b')
  ·rcases List.mem_cons.mp b with b' | b'
   ·rw [b'] at e; exact absurd e (x.2.1 t a')
   ·exact ser_uniq x.2.2 a' b' e
set_option genSizeOf false in
inductive Res where
 | kept (v:SV) | same (s:Nat) | new (v:SV) | throw (t:Int) | val (v:AVal)
noncomputable def Out (S:Ms) (h:AH) (K:KV):Res→Prop
 | .kept v=>(∀ t,keptAt v S.kept=some t→K (.tup [.int 4,.int (ra S.ts t)]) h)∧(keptAt v S.kept=none→∀ h' S',Swept S S' S.want→MAt (keepT (pushT S' v) v (S'.md + 1)) h'→Fp (pW S) h h'→K (.tup [.int 4,.int S'.x.top]) h')
 | .same s=>K (.tup [.int 4,.int (ra S.ts s)]) h
 | .new v=>∀ h' S',MAt (pushT S' v) h'→Swept S S' S.want→Fp (pW S) h h'→K (.tup [.int 4,.int S'.x.top]) h'
 | .throw t=>∀ h',Fw [.g 4 S.eTh] h h'→MAt { S with thrown:=S.thrown ++ [.int t] } h'→K (.int (-2)) h'
 | .val v=>K v h
noncomputable def eS:Str:=Str.ofString ""
noncomputable def emp:Option Str→Bool
 | none=>true
 | some x=>sq x eS
structure Rdy (S:Ms) (h:AH):Prop where
 x:MAt S h
 o:Ok S
 ko:KpOk S.kept
 hb:S.md < 250
 hl:S.thrown.length < 100
theorem so_eS:PyData.strOk eS=true:=by decide +kernel
theorem k_text_ref (hm:38≤m) {S:Ms} {s:Str} (X:Rdy S h) (so:PyData.strOk s=true) (O:Out S h K (.kept (.txt s))):CF w H0 m f_Shelf_text_ref [.ref (.s 14),.str s] h K:=by
 refine cf_run (dN hm rfl) rfl rfl rfl rfl ?_
 walk
 refine k_interned (dM hm rfl) X.x X.o X.ko so X.hb (fun t q=>?_) fun q h' S' a b c=>?_
 ·walk
  exact O.1 t q
 ·walk
  exact O.2 q h' S' a b c
noncomputable def resJoin (ua ub:Option Str) (a b:Nat):Res:=bif emp ua then (bif emp ub then .kept (.txt eS) else .same b) else (bif emp ub then .same a else .new (.txt (ua.getD eS ++ ub.getD eS)))
theorem TX.ok {ts:List Th} {s:Nat} {x:Str} (t:TX ts s (Option.some x)):tOk x:=by cases t; assumption
theorem TX.len {ts:List Th} {s:Nat} {x:Str} (t:TX ts s (Option.some x)):x.length≤8:=t.ok.1
theorem k_Concat (hm:42≤m) {S:Ms} {n:Nm} {a b:Nat} {ua ub:Option Str} (X:Rdy S h) (hn:h n=some (.list [.tup [.int 4,.int (ra S.ts a)],.tup [.int 4,.int (ra S.ts b)]])) (ta:TX S.ts a ua) (tb:TX S.ts b ub)
  (O:Out S h K (resJoin ua ub a b)):CF w H0 m f_TextConcat_call [.ref (.s 51),.ref (.s 14),.ref (.s 42),.ref n] h K:=by
 have f14:=X.x.m
 unfold mO at f14
 refine cf_run (dN hm rfl) rfl rfl rfl rfl ?_
 walk
 refine k_text_at (dM hm rfl) X.x ta ?_
 walk
 refine k_text_at (dM hm rfl) X.x tb ?_
 cases ua with
 | none =>
  walk
  cases ub with
  | none =>
   walk
   refine k_text_ref (s:=eS) (dM hm rfl) X so_eS ?_
   exact O
  | some y =>
   walk
   refine cm_eq (eqV_str tb.ok.2 so_eS) ?_
   walk
   cases q:sq y eS with
   | true =>
    refine vi_t q ?_
    walk
    refine k_text_ref (s:=eS) (dM hm rfl) X so_eS ?_
    simp only [resJoin,emp,q,cond_true,cond_false] at O
    exact O
   | false =>
    refine vi_f q ?_
    walk
    simp only [resJoin,emp,q,cond_true,cond_false] at O
    exact O
 | some x =>
  walk
  refine cm_eq (eqV_str ta.ok.2 so_eS) ?_
  walk
  cases qa:sq x eS with
  | true =>
   refine vi_t qa ?_
   walk
   cases ub with
   | none =>
    walk
    refine k_text_ref (s:=eS) (dM hm rfl) X so_eS ?_
    simp only [resJoin,emp,qa,cond_true,cond_false] at O
    exact O
   | some y =>
    walk
    refine cm_eq (eqV_str tb.ok.2 so_eS) ?_
    walk
    cases q:sq y eS with
    | true =>
     refine vi_t q ?_
     walk
     refine k_text_ref (s:=eS) (dM hm rfl) X so_eS ?_
     simp only [resJoin,emp,q,qa,cond_true,cond_false] at O
     exact O
    | false =>
     refine vi_f q ?_
     walk
     simp only [resJoin,emp,q,qa,cond_true,cond_false] at O
     exact O
  | false =>
   refine vi_f qa ?_
   walk
   cases ub with
   | none =>
    walk
    simp only [resJoin,emp,qa,cond_true,cond_false] at O
    exact O
   | some y =>
    walk
    refine cm_eq (eqV_str tb.ok.2 so_eS) ?_
    walk
    cases q:sq y eS with
    | true =>
     refine vi_t q ?_
     walk
     simp only [resJoin,emp,q,qa,cond_true,cond_false] at O
     exact O
    | false =>
     refine vi_f q ?_
     have lx:=ta.len
     have ly:=tb.len
     walk
     refine bl_len_str (le_lt lx rfl) ?_
     walk
     refine bl_len_str (le_lt ly rfl) ?_
     walk
     refine vi_f (decide_eq_false (by omega)) ?_
     walk
     refine bi_str (by omega) ?_
     walk
     refine k_new_text (dM hm rfl) X.x X.o X.hb fun h' S' a b c=>?_
     walk
     simp only [resJoin,emp,q,qa,cond_true,cond_false] at O
     exact O h' S' a b c
noncomputable def resLen:Option Str→Res
 | none=>.throw 21
 | some x=>.val (.tup [.int 1,.int x.length])
theorem k_Length (hm:12≤m) {S:Ms} {n:Nm} {a:Nat} {ua:Option Str} (X:Rdy S h) (hn:h n=some (.list [.tup [.int 4,.int (ra S.ts a)]])) (ta:TX S.ts a ua) (O:Out S h K (resLen ua)):CF w H0 m f_TextLength_call [.ref (.s 52),.ref (.s 14),.ref (.s 42),.ref n] h K:=by
 refine cf_run (dN hm rfl) rfl rfl rfl rfl ?_
 walk
 refine k_text_at (dM hm rfl) X.x ta ?_
 walk
 cases ua with
 | none =>
  walk
  refine k_no_object (dM hm rfl) X.x X.hl fun h' F x=>?_
  walk
  exact O h' F x
 | some x =>
  have lx:=ta.len
  walk
  refine bl_len_str (le_lt lx rfl) ?_
  walk
  exact O
noncomputable def resHash:Option Str→Res
 | none=>.throw 21
 | some x=>.val (.tup [.int 1,.int (hashV x)])
theorem k_Hash (hm:12≤m) {S:Ms} {n:Nm} {a:Nat} {ua:Option Str} (X:Rdy S h) (hn:h n=some (.list [.tup [.int 4,.int (ra S.ts a)]])) (ta:TX S.ts a ua) (O:Out S h K (resHash ua)):CF w H0 m f_TextHash_call [.ref (.s 56),.ref (.s 14),.ref (.s 42),.ref n] h K:=by
 refine cf_run (dN hm rfl) rfl rfl rfl rfl ?_
 walk
 refine k_text_at (dM hm rfl) X.x ta ?_
 walk
 cases ua with
 | none =>
  walk
  refine k_no_object (dM hm rfl) X.x X.hl fun h' F x=>?_
  walk
  exact O h' F x
 | some x =>
  walk
  refine k_text_hash (dM hm rfl) ?_
  walk
  exact O
noncomputable def eqO:Option Str→Option Str→Bool
 | none,none=>true
 | some x,some y=>sq x y
 | _,_=>false
noncomputable def resEq (ua ub:Option Str):Res:=.val (.tup [.int 1,.int (if eqO ua ub then 1 else 0)])
theorem TX.inv {ts:List Th} {s:Nat} {u:Option Str} (a:TX ts s u):(s=0∧u=Option.none)∨∃ t x,t∈ts∧t.ser=s∧t.val = .txt x∧u=Option.some x∧tOk x:=by
 cases a with
 | zero=>exact .inl ⟨rfl,rfl⟩
 | some mt e l=>exact .inr ⟨_,_,mt,rfl,e,rfl,l⟩
theorem TX.fn {ts:List Th} {s:Nat} {u v:Option Str} (ap:Apart ts) (a:TX ts s u) (b:TX ts s v):u=v:=by
 rcases a.inv with ⟨e1,e2⟩ | ⟨t,x,mt,e1,e2,e3,_⟩
 ·rcases b.inv with ⟨d1,d2⟩ | ⟨t,x,mt,d1,d2,d3,_⟩
  ·rw [e2,d2]
  ·exact absurd (d1.trans e1) (apart_ne0 ap _ mt)
 ·rcases b.inv with ⟨d1,d2⟩ | ⟨t',x',mt',d1,d2,d3,_⟩
  ·exact absurd (e1.trans d1) (apart_ne0 ap _ mt)
  ·have:=ser_uniq ap mt mt' (e1.trans d1.symm)
   subst this
   rw [e2] at d2
   injection d2 with d2
   rw [e3,d3,d2]
theorem TX.In {ts:List Th} {s:Nat} {u:Option Str} (a:TX ts s u):s=0∨In ts s:=by
 cases a with
 | zero=>exact .inl rfl
 | some mt e l=>exact .inr ⟨_,mt,rfl⟩
theorem ra_inj {ts:List Th} {s t:Nat} (ap:Apart ts) (hs:s=0∨In ts s) (ht:t=0∨In ts t) (e:ra ts s=ra ts t):s=t:=by
 by_cases z:s=0
 ·by_cases y:t=0
  ·rw [z,y]
  ·have h1:=ht.resolve_left y
   rw [z,ra_zero,ra_in y] at e
   have:=addrOf_ge (a:=16) h1
   omega
 ·have h0:=hs.resolve_left z
  by_cases y:t=0
  ·rw [y,ra_zero,ra_in z] at e
   have:=addrOf_ge (a:=16) h0
   omega
  ·rw [ra_in z,ra_in y] at e
   exact addr_inj ap h0 (ht.resolve_left y) e
theorem k_Same (hm:12≤m) {S:Ms} {n:Nm} {a b:Nat} {ua ub:Option Str} (X:Rdy S h) (hn:h n=some (.list [.tup [.int 4,.int (ra S.ts a)],.tup [.int 4,.int (ra S.ts b)]])) (ta:TX S.ts a ua) (tb:TX S.ts b ub)
  (O:Out S h K (resEq ua ub)):CF w H0 m f_TextSame_call [.ref (.s 54),.ref (.s 14),.ref (.s 42),.ref n] h K:=by
 have O':K (.tup [.int 1,.int (if eqO ua ub then 1 else 0)]) h:=O
 refine cf_run (dN hm rfl) rfl rfl rfl rfl ?_
 walk
 refine vi (fun q=>?_) fun q=>?_
 ·have e:=ra_inj X.x.hp.ap ta.In tb.In (of_decide_eq_true q)
  subst e
  have:=ta.fn X.x.hp.ap tb
  subst this
  have z:eqO ua ua=true:=by cases ua with | none=>rfl | some x=>exact sq_iff.mpr rfl
  rw [z] at O'
  walk
  refine k_bool_value (dM hm rfl) ?_
  walk
  all_goals exact O'
 ·have q:ra S.ts a≠ra S.ts b:=of_decide_eq_false q
  walk
  refine k_text_at (dM hm rfl) X.x ta ?_
  walk
  refine k_text_at (dM hm rfl) X.x tb ?_
  walk
  cases ua with
  | none =>
   cases ub with
   | none =>
    rcases ta.inv with ⟨e1,_⟩ | ⟨_,_,_,_,_,e,_⟩
    ·rcases tb.inv with ⟨e2,_⟩ | ⟨_,_,_,_,_,e,_⟩
     ·exact absurd (by rw [e1,e2]) q
     ·cases e
    ·cases e
   | some y =>
    walk
    refine k_bool_value (dM hm rfl) ?_
    walk
    all_goals exact O'
  | some x =>
   cases ub with
   | none =>
    walk
    refine k_bool_value (dM hm rfl) ?_
    walk
    all_goals exact O'
   | some y =>
    walk
    refine cm_eq (eqV_str ta.ok.2 tb.ok.2) ?_
    walk
    refine k_bool_value (dM hm rfl) ?_
    walk
    all_goals exact O'
end
inductive TY (ts:List Th):Nat→Option Str→Prop
 | zero:TY ts 0 none
 | some {t:Th} {x:Str} (mt:t∈ts) (e:t.val = .txt x) (l:tOk x):TY ts t.ser (some x)
 | knd {t:Th} {k:Int} (mt:t∈ts) (e:t.val = .knd k):TY ts t.ser none
theorem k_Equals (hm:12≤m) {S:Ms} {n:Nm} {a b:Nat} {x:Str} {ub:Option Str} (X:Rdy S h) (hn:h n=some (.list [.tup [.int 4,.int (ra S.ts a)],.tup [.int 4,.int (ra S.ts b)]])) (ta:TX S.ts a (some x)) (tb:TY S.ts b ub)
  (O:Out S h K (resEq (some x) ub)):CF w H0 m f_TextEquals_call [.ref (.s 55),.ref (.s 14),.ref (.s 42),.ref n] h K:=by
 have O':K (.tup [.int 1,.int (if eqO (some x) ub then 1 else 0)]) h:=O
 have f14:=X.x.m
 unfold mO at f14
 refine cf_run (dN hm rfl) rfl rfl rfl rfl ?_
 walk
 refine k_text_at (dM hm rfl) X.x ta ?_
 walk
 cases tb with
 | zero =>
  rw [ra_zero]
  refine k_thing0 (dM hm rfl) X.x ?_
  walk
  refine k_bool_value (dM hm rfl) ?_
  walk
  all_goals exact O'
 | some mt e l =>
  rename_i t y
  obtain ⟨e1,e2⟩:=ths_at X.x.hp.ap X.x.hp.ths mt
  unfold thO at e1
  rw [e] at e1
  unfold SV.kind at e1
  refine k_thing (dM hm rfl) X.x mt ?_
  walk
  refine k_text_of (dM hm rfl) X.x mt e ?_
  walk
  refine cm_eq (eqV_str ta.ok.2 l.2) ?_
  walk
  refine k_bool_value (dM hm rfl) ?_
  walk
  all_goals exact O'
 | knd mt e =>
  obtain ⟨e1,e2⟩:=ths_at X.x.hp.ap X.x.hp.ths mt
  unfold thO at e1
  rw [e] at e1
  unfold SV.kind at e1
  refine k_thing (dM hm rfl) X.x mt ?_
  walk
  refine k_bool_value (dM hm rfl) ?_
  walk
  all_goals exact O'
noncomputable def cut (s:Str) (f c:Int):Str:=⟨s.cps.extract f.toNat (f + c).toNat⟩
noncomputable def resPart (ua:Option Str) (a:Nat) (f c:Int):Res:=match ua with
 | none=>.throw 21
 | some x=>if f < 0∨c < 0∨f + c > x.length then .throw 32 else if c=0 then .kept (.txt eS) else if c=x.length then .same a else .new (.txt (cut x f c))
theorem k_Part (hm:42≤m) {S:Ms} {n:Nm} {a:Nat} {ua:Option Str} {f c:Int} (X:Rdy S h) (hn:h n=some (.list [.tup [.int 4,.int (ra S.ts a)],.tup [.int 1,.int f],.tup [.int 1,.int c]])) (ta:TX S.ts a ua)
  (O:Out S h K (resPart ua a f c)):CF w H0 m f_TextPart_call [.ref (.s 57),.ref (.s 14),.ref (.s 42),.ref n] h K:=by
 have f14:=X.x.m
 unfold mO at f14
 refine cf_run (dN hm rfl) rfl rfl rfl rfl ?_
 walk
 refine k_text_at (dM hm rfl) X.x ta ?_
 walk
 cases ua with
 | none =>
  walk
  refine k_no_object (dM hm rfl) X.x X.hl fun h' F x=>?_
  walk
  exact O h' F x
 | some x =>
  have lx:=ta.len
  unfold resPart at O
  have bad:(f < 0∨c < 0∨f + c > x.length)→CF w H0 (m - 2) f_bad_argument [.ref (.s 14),.int 32,.str "Index and length must refer to a location within the string."] h K:=fun q=>by
   refine k_bad_argument (by omega) X.x X.hl fun h' F y=>?_
   simp only [if_pos q] at O
   exact O h' F y
  walk
  refine vi (fun q=>?_) fun q=>?_
  ·have q:f < 0:=of_decide_eq_true q
   walk
   refine bad (.inl q)
  ·have q1:¬ f < 0:=of_decide_eq_false q
   walk
   refine vi (fun q=>?_) fun q=>?_
   ·have q:c < 0:=of_decide_eq_true q
    walk
    refine bad (.inr (.inl q))
   ·have q2:¬ c < 0:=of_decide_eq_false q
    walk
    refine bl_len_str (by omega) ?_
    walk
    refine vi (fun q=>?_) fun q=>?_
    ·have q:f + c > x.length:=of_decide_eq_true q
     walk
     refine bad (.inr (.inr q))
    ·have q3:¬ f + c > x.length:=of_decide_eq_false q
     simp only [if_neg (show ¬ (f < 0∨c < 0∨f + c > x.length) by omega)] at O
     walk
     refine vi (fun q=>?_) fun q=>?_
     ·have q:c=0:=of_decide_eq_true q
      simp only [if_pos q] at O
      walk
      refine k_text_ref (s:=eS) (dM hm rfl) X so_eS ?_
      exact O
     ·have q4:¬ c=0:=of_decide_eq_false q
      simp only [if_neg q4] at O
      walk
      refine bl_len_str (by omega) ?_
      walk
      refine vi (fun q=>?_) fun q=>?_
      ·have q:c=x.length:=of_decide_eq_true q
       simp only [if_pos q] at O
       walk
       exact O
      ·have q5:¬ c=x.length:=of_decide_eq_false q
       simp only [if_neg q5] at O
       obtain ⟨i,rfl⟩:=Int.eq_ofNat_of_zero_le (a:=f) (by omega)
       obtain ⟨j,rfl⟩:=Int.eq_ofNat_of_zero_le (a:=c) (by omega)
       walk
       have hl:x.length=x.cps.size:=rfl
       refine sl_str (i:=i) (j:=i + j) (by omega) (by omega) (by omega) ?_
       walk
       refine k_new_text (dM hm rfl) X.x X.o X.hb fun h' S' a b c=>?_
       walk
       exact O h' S' a b c
theorem k_TypeFrom (hm:38≤m) {S:Ms} {n:Nm} {c:Int} {r:List AVal} (X:Rdy S h) (hn:h n=some (.list (.tup [.int 3,.int c] :: r))) (O:Out S h K (.kept (.knd c))):CF w H0 m f_TypeFrom_call [.ref (.s 62),.ref (.s 14),.ref (.s 42),.ref n] h K:=by
 refine cf_run (dN hm rfl) rfl rfl rfl rfl ?_
 walk
 refine k_new_type (dM hm rfl) X.x X.o X.ko X.hb (fun t q=>?_) fun q h' S' a b c=>?_
 ·walk
  exact O.1 t q
 ·walk
  exact O.2 q h' S' a b c
theorem fix_12:fixTab.all (fun p=>!(Nat.beq p.1 12) && (!(Nat.beq p.1 35) && !(Nat.beq p.1 14)))=true:=by decide +kernel
theorem MAt.lim {S:Ms} {l y:Int} {h':AH} (x:MAt S h) (F:Fw [.s 12] h h') (e1:h' (.s 12)=some ({ S.x with limit:=l,young:=y }:Hp).o):MAt { S with x:={ S.x with limit:=l,young:=y } } h':=by
 have ns:∀ n,n≠.s 12→nin n [.s 12]=true:=fun n q=>nin_sub' fun a b c=>q (by rw [c,List.mem_singleton.mp b])
 refine ⟨x.fix.mono fun p mp o e=>F.old _ _ (ns _ fun z=>?_) e,F.old _ _ rfl x.m,F.old _ _ rfl x.thrown,F.old _ _ rfl x.interned,F.old _ _ rfl x.held,fun p mp=>?_,⟨e1,F.old _ _ rfl x.hp.things,F.old _ _ rfl x.hp.at_,F.old _ _ rfl x.hp.cards,F.old _ _ rfl x.hp.finals,F.old _ _ rfl x.hp.ready,ThsAt.keep (fun t _ o q=>F.old _ _ rfl q) (fun t mt o q=>F.old _ _ rfl q) x.hp.ths,x.hp.ap⟩,fun e=>(x.hdT e).fw F rfl rfl,fun e=>?_,F.fin,x.heldT,x.heldN,x.sers,fun s q=>?_⟩
 ·have:=List.all_eq_true.mp fix_12 p mp
  injection z with z
  rw [z] at this; cases this
 ·have hp:=x.roots p mp
  have rk:=roots_ok x p.1 (List.mem_map_of_mem mp)
  refine ⟨F.old _ _ (ns _ fun z=>?_) hp.1,hp.2⟩
  rw [z] at rk; cases rk
 ·have:=x.hdF e
  exact ⟨by rw [F.nt _ rfl rfl]; exact this.1,by rw [F.nt _ rfl rfl]; exact this.2⟩
 ·have:=x.frs s q
  exact ⟨by rw [F.nt _ rfl rfl]; exact this.1,by rw [F.nt _ rfl rfl]; exact this.2⟩
theorem MAt.hold {S:Ms} {H:List (Nm×List HV)} {h':AH} (x:MAt S h) (F:Fw [.s 35] h h') (e1:h' (.s 35)=some (.list (H.map fun p=>.ref p.1))) (hT:∀ p∈H,isT p.1=true) (hN:(H.map (·.1)).Nodup) (hH:LsAt h' S.ts H):MAt { S with held:=H } h':=by
 have ns:∀ n,n≠.s 35→nin n [.s 35]=true:=fun n q=>nin_sub' fun a b c=>q (by rw [c,List.mem_singleton.mp b])
 refine ⟨x.fix.mono fun p mp o e=>F.old _ _ (ns _ fun z=>?_) e,F.old _ _ rfl x.m,F.old _ _ rfl x.thrown,F.old _ _ rfl x.interned,e1,fun p mp=>?_,⟨F.old _ _ rfl x.hp.hp,F.old _ _ rfl x.hp.things,F.old _ _ rfl x.hp.at_,F.old _ _ rfl x.hp.cards,F.old _ _ rfl x.hp.finals,F.old _ _ rfl x.hp.ready,ThsAt.keep (fun t _ o q=>F.old _ _ rfl q) (fun t mt o q=>F.old _ _ rfl q) x.hp.ths,x.hp.ap⟩,fun e=>(x.hdT e).fw F rfl rfl,fun e=>?_,F.fin,hT,hN,x.sers,fun s q=>?_⟩
 ·have:=List.all_eq_true.mp fix_12 p mp
  injection z with z
  rw [z] at this; cases this
 ·have hin:(p∈rootsL { S with held:=[] })∨p∈H:=by
   unfold rootsL at mp ⊢
   simp only [List.append_assoc,List.mem_append,List.mem_cons,List.not_mem_nil,or_false] at mp ⊢
   rcases mp with q | q | q
   ·exact .inl (.inl q)
   ·exact .inr q
   ·exact .inl (.inr (.inr q))
  rcases hin with q | q
  ·have mp':p∈rootsL S:=by
    unfold rootsL at q ⊢
    simp only [List.append_assoc,List.mem_append,List.mem_cons,List.not_mem_nil,or_false] at q ⊢
    rcases q with q | q | q
    ·exact .inl q
    ·exact q.elim
    ·exact .inr (.inr q)
   have hp:=x.roots p mp'
   refine ⟨F.old _ _ (ns _ fun z=>?_) hp.1,hp.2⟩
   have:=pK_s x (k:=35) rfl
   unfold pK at this
   rw [Bool.and_eq_true] at this
   exact nin_ne this.2 (List.mem_map_of_mem (f:=fun p:Nm×List HV=>p.1) mp') z.symm
  ·exact hH p q
 ·have:=x.hdF e
  exact ⟨by rw [F.nt _ rfl rfl]; exact this.1,by rw [F.nt _ rfl rfl]; exact this.2⟩
 ·have:=x.frs s q
  exact ⟨by rw [F.nt _ rfl rfl]; exact this.1,by rw [F.nt _ rfl rfl]; exact this.2⟩
section
variable {KH:AH→Prop}
noncomputable def wL (many:Int):List (AVal×AVal):=[(.str "m",.ref (.s 14)),(.str "cells",.ref (.s 64)),(.str "kept",.ref (.s 65)),(.str "rows",.ref (.s 66)),(.str "marks",.ref (.s 67)),(.str "many",.int many),(.str "good",.bool true),(.str "type",.int 16)]
noncomputable def wO (many:Int):AObj:=.dict (wL many)
section
variable {many:Int} {n:Nm} (hn:h n=some (wO many))
include hn
theorem gi_wm (k:K (.ref (.s 14)) h):GI (.ref n) (.str "m") h K:=gi_dict hn (by kernel_rfl) (u:=.ref (.s 14)) (by kernel_rfl) k
theorem gi_wcells (k:K (.ref (.s 64)) h):GI (.ref n) (.str "cells") h K:=gi_dict hn (by kernel_rfl) (u:=.ref (.s 64)) (by kernel_rfl) k
theorem gi_wkept (k:K (.ref (.s 65)) h):GI (.ref n) (.str "kept") h K:=gi_dict hn (by kernel_rfl) (u:=.ref (.s 65)) (by kernel_rfl) k
theorem gi_wrows (k:K (.ref (.s 66)) h):GI (.ref n) (.str "rows") h K:=gi_dict hn (by kernel_rfl) (u:=.ref (.s 66)) (by kernel_rfl) k
theorem gi_wmarks (k:K (.ref (.s 67)) h):GI (.ref n) (.str "marks") h K:=gi_dict hn (by kernel_rfl) (u:=.ref (.s 67)) (by kernel_rfl) k
theorem gi_wmany (k:K (.int many) h):GI (.ref n) (.str "many") h K:=gi_dict hn (by kernel_rfl) (u:=.int many) (by kernel_rfl) k
theorem gi_wgood (k:K (.bool true) h):GI (.ref n) (.str "good") h K:=gi_dict hn (by kernel_rfl) (u:=.bool true) (by kernel_rfl) k
theorem gi_wtype (k:K (.int 16) h):GI (.ref n) (.str "type") h K:=gi_dict hn (by kernel_rfl) (u:=.int 16) (by kernel_rfl) k
theorem si_wmany {i:Int} (k:KH (hset h n (wO i))):SI (.ref n) (.str "many") (.int i) h KH:=by
 refine si_dict hn (by kernel_rfl) (by show 8 < 900000; omega) ?_
 rw [show dput (.str "many") (.int i) (wL many)=wL i by kernel_rfl]
 exact k
end
end
local macro_rules | `(tactic| end_int)=>`(tactic| first
 | apply gi_wm; w_end
 | apply gi_wcells; w_end
 | apply gi_wkept; w_end
 | apply gi_wrows; w_end
 | apply gi_wmarks; w_end
 | apply gi_wmany; w_end
 | apply gi_wgood; w_end
 | apply gi_wtype; w_end
 | apply si_wmany; w_end)
inductive Did (S:Ms) (h:AH):Res→AVal→AH→Ms→Int→Prop
 | found {v:SV} {t:Nat} (e:keptAt v S.kept=some t):Did S h (.kept v) (.tup [.int 4,.int (ra S.ts t)]) h S 0
 | keep {v:SV} {S':Ms} {h':AH} (e:keptAt v S.kept=none) (sw:Swept S S' S.want) (x:MAt (keepT (pushT S' v) v (S'.md + 1)) h') (F:Fp (pW S) h h'):Did S h (.kept v) (.tup [.int 4,.int S'.x.top]) h' (keepT (pushT S' v) v (S'.md + 1)) 1
 | same {s:Nat}:Did S h (.same s) (.tup [.int 4,.int (ra S.ts s)]) h S 0
 | new {v:SV} {S':Ms} {h':AH} (sw:Swept S S' S.want) (x:MAt (pushT S' v) h') (F:Fp (pW S) h h'):Did S h (.new v) (.tup [.int 4,.int S'.x.top]) h' (pushT S' v) 1
 | throw {t:Int} {h':AH} (F:Fw [.g 4 S.eTh] h h') (x:MAt { S with thrown:=S.thrown ++ [.int t] } h'):Did S h (.throw t) (.int (-2)) h' { S with thrown:=S.thrown ++ [.int t] } 0
 | val {v:AVal}:Did S h (.val v) v h S 0
theorem out_of {S:Ms} {r:Res} (k:∀ gave h2 S2 many,Did S h r gave h2 S2 many→K gave h2):Out S h K r:=by
 cases r with
 | kept v=>exact ⟨fun t e=>k _ _ _ _ (.found e),fun e h' S' sw x F=>k _ _ _ _ (.keep e sw x F)⟩
 | same s=>exact k _ _ _ _ .same
 | new v=>exact fun h' S' x sw F=>k _ _ _ _ (.new sw x F)
 | throw t=>exact fun h' F x=>k _ _ _ _ (.throw F x)
 | val v=>exact k _ _ _ _ .val
noncomputable def limV (mode:Nat):Int:=if mode=2 then 0 else if mode=1 then 1000000 else 1000000
noncomputable def youngV (mode:Nat):Int:=if mode=2 then 1000000 else if mode=1 then 0 else 1000000
noncomputable def asks (S:Ms) (mode:Nat) (H:List (Nm×List HV)):Ms:={ S with x:={ S.x with limit:=limV mode,young:=youngV mode },held:=H }
structure Bas (S:Ms):Prop where
 o:Ok S
 ko:KpOk S.kept
 hb:S.md < 250
 th:S.thrown=[]
 he:S.held=[]
 f0:0≤S.x.fresh
 f1:S.x.fresh≤3 * S.x.made
theorem Bas.ok {S:Ms} (b:Bas S) {mode:Nat} {H:List (Nm×List HV)} (h1:tot H≤3) (h2:H.length≤1):Ok (asks S mode H):=⟨b.o.srt,b.o.top,b.o.made,b.o.len,b.o.gen,b.o.cells,b.o.kept,h1,h2⟩
theorem Bas.made {S:Ms} (b:Bas S):(S.md:Int)=S.x.made:=by
 exact Int.toNat_of_nonneg b.o.made
theorem want0 {S:Ms} (b:Bas S) {H:List (Nm×List HV)}:(asks S 0 H).want=0:=by
 have h1:=b.o.top; have h2:=b.o.len; have h3:=b.hb; have h4:=b.made; have h5:=b.f1; have h6:=b.o.made
 show wantsV S.x.top (limV 0) S.x.fresh (youngV 0)=0
 unfold wantsV limV youngV
 rw [if_neg (by simp; omega),if_neg (by simp; omega)]
theorem want12 {S:Ms} (b:Bas S) {mode:Nat} (q:mode=1∨mode=2) {H:List (Nm×List HV)}:(asks S mode H).want≠0:=by
 have h1:=b.o.top; have h2:=b.o.len; have h3:=b.hb; have h4:=b.made; have h5:=b.f0; have h6:=b.o.made
 show wantsV S.x.top (limV mode) S.x.fresh (youngV mode)≠0
 unfold wantsV limV youngV
 rcases q with rfl | rfl
 ·rw [if_neg (by simp; omega),if_pos (by simp; omega)]; decide
 ·rw [if_pos (by simp; omega)]; decide
structure Dn (S1:Ms) (mode:Nat) (h h2:AH) (S2:Ms) (many:Int):Prop where
 x:MAt S2 h2
 made:S2.x.made=S1.x.made + many
 m01:many=0∨many=1
 held:S2.held=S1.held
 fresh:S2.x.fresh=(if mode > 0∧many > 0 then 0 else S1.x.fresh) + 3 * many
 last:many=1→∃ ts v,S2.ts=ts ++ [v]
 fp:Fp (pW S1) h h2
 len:S2.ts.length < 300
 m0:0≤S1.x.made
theorem dn_of {S:Ms} (b:Bas S) {mode:Nat} (hm:mode < 3) {H:List (Nm×List HV)} {r:Res} {gave:AVal} {h2:AH} {S2:Ms} {many:Int} (h1:tot H≤3) (h2':H.length≤1) (x:MAt (asks S mode H) h) (d:Did (asks S mode H) h r gave h2 S2 many):Dn (asks S mode H) mode h h2 S2 many:=by
 have hl:(asks S mode H).ts.length < 300:=lt_le (show S.ts.length < 250 from Nat.lt_of_le_of_lt b.o.len b.hb) rfl
 have z:∀ S',Swept (asks S mode H) S' (asks S mode H).want→S'.x.fresh + 3=(if mode > 0∧(1:Int) > 0 then 0 else S.x.fresh) + 3 * 1:=fun S' sw=>by
  by_cases q:mode=0
  ·have:=sw.none (by rw [q]; exact want0 b)
   rw [this,if_neg fun z=>Nat.ne_of_gt z.1 q]
   rfl
  ·rw [sw.some (want12 b ((by decide:∀ m,m < 3→m≠0→m=1∨m=2) mode hm q)),if_pos ⟨Nat.pos_of_ne_zero q,by decide⟩]; rfl
 have z2:∀ S',Swept (asks S mode H) S' (asks S mode H).want→S'.ts.length + 1 < 300:=fun S' sw=>lt_le (Nat.succ_lt_succ (Nat.lt_of_le_of_lt (Nat.le_trans sw.ok.len (Nat.le_of_eq sw.md)) b.hb)) rfl
 have r0:Fp (pW (asks S mode H)) h h:=⟨fun _ _ _ e=>e,fun _ _ _=>rfl,x.fin⟩
 have f0:S.x.fresh=(if mode > 0∧(0:Int) > 0 then 0 else S.x.fresh) + 3 * 0:=by rw [if_neg fun z=>absurd z.2 (by decide)]; exact (Int.add_zero _).symm
 cases d with
 | found e=>exact ⟨x,(Int.add_zero _).symm,.inl rfl,rfl,f0,(fun e=>by cases e),r0,hl,b.o.made⟩
 | keep e sw x' F=>exact ⟨x',by show _ + 1=_ + 1; rw [sw.made],.inr rfl,sw.held,z _ sw,fun _=>⟨_,_,rfl⟩,F,by show (_ ++ [_]).length < 300; rw [List.length_append]; exact z2 _ sw,b.o.made⟩
 | same=>exact ⟨x,(Int.add_zero _).symm,.inl rfl,rfl,f0,(fun e=>by cases e),r0,hl,b.o.made⟩
 | new sw x' F=>exact ⟨x',by show _ + 1=_ + 1; rw [sw.made],.inr rfl,sw.held,z _ sw,fun _=>⟨_,_,rfl⟩,F,by show (_ ++ [_]).length < 300; rw [List.length_append]; exact z2 _ sw,b.o.made⟩
 | throw F x'=>exact ⟨x',(Int.add_zero _).symm,.inl rfl,rfl,f0,(fun e=>by cases e),F.toP (P:=pW (asks S mode H)) fun n e=>(by
   refine nin_sub' fun a ma=>?_
   rw [List.mem_singleton.mp ma]
   rintro rfl
   exact absurd (show Nat.ble 5 4=true from e) (by decide)),hl,b.o.made⟩
 | val=>exact ⟨x,(Int.add_zero _).symm,.inl rfl,rfl,f0,(fun e=>by cases e),r0,hl,b.o.made⟩
theorem gi_mode {a b c:Int} {mode:Nat} (hm:mode < 3) (k:K (.int (if mode=2 then c else if mode=1 then b else a)) h):GI (.tup [.int a,.int b,.int c]) (.int (Int.ofNat mode)) h K:=by
 rcases (by decide:∀ m,m < 3→m=0∨m=1∨m=2) mode hm with rfl | rfl | rfl
 ·exact gi_tup rfl rfl rfl k
 ·exact gi_tup rfl rfl rfl k
 ·exact gi_tup rfl rfl rfl k
noncomputable def endA (S:Ms):Ms:={ S with x:={ S.x with limit:=1000000,young:=1000000 },held:=[] }
theorem asks_mat {S:Ms} {mode:Nat} (X:MAt S h) (b:Bas S):MAt (asks S mode []) (hset h (.s 12) ({ S.x with limit:=limV mode,young:=youngV mode }:Hp).o):=by
 have F:Fw [.s 12] h (hset h (.s 12) ({ S.x with limit:=limV mode,young:=youngV mode }:Hp).o):=(Fw.refl X.fin).set (by room)
 have:=X.lim F hset_at
 have e:({ S with x:={ S.x with limit:=limV mode,young:=youngV mode } }:Ms)=asks S mode []:=by
  unfold asks
  rw [← b.he]
 rw [← e]; exact this
theorem k_interned_o (hm:36≤m) {S:Ms} {s:Str} (X:Rdy S h) (so:PyData.strOk s=true) (O:Out S h K (.kept (.txt s))):CF w H0 m f_interned_text [.ref (.s 14),.str s] h K :=
 k_interned hm X.x X.o X.ko so X.hb O.1 O.2
theorem sl_tail {n:Nm} {l:List AVal} {i:Int} {j:Nat} (hn:h n=some (.list l)) (e:i=Int.ofNat j) (hj:j≤l.length) (k:NO (.list (l.drop j)) h K):SL (.ref n) (.int i) .none h K:=by
 subst e
 refine sl_list hn ?_ k
 show (bif Nat.ble j l.length then some (l.drop j) else none)=_
 rw [Nat.ble_eq_true_of_le hj]; rfl
theorem sizes {S:Ms} {c:Cx} {x:Str} {elt:Expr} {many:Int} (X:MAt S h) (m01:many=0∨many=1) (last:many=1→∃ ts v,S.ts=ts ++ [v]) (hl:S.ts.length < 300)
  (E1:∀ a t h (K:KV),h (.th t.ser)=some (thO a t)→K (.int 3) h→E c [(x,.ref (.th t.ser))] elt h K)
  (k:∀ h5 j l q,Fw [] h h5→h5 (.t j)=some (.list l)→toInts l=some q→(∀ i∈q,0≤i∧i≤1000)→sumI q=3 * many→K (.ref (.t j)) h5) :
  SL (.ref (.g 0 S.x.eT)) (.int ((refs S.ts).length - many)) .none h (fun v h1=>IT v h1 fun l chk=>l.length≤900000∧CL c x elt chk l [] h1 fun vs h3=>NO (.list vs) h3 K):=by
 have ht:=X.hp.things
 obtain ⟨j,hj⟩:=X.fin.new
 rcases m01 with rfl | rfl
 ·refine sl_tail ht (j:=(refs S.ts).length) (by rw [Int.sub_zero]; rfl) (Nat.le_refl _) ?_
  rw [List.drop_length]
  refine no_list (.t j) (by room) hj ?_
  have F1:Fw [] h (hset h (.t j) (.list [])):=(Fw.refl X.fin).new hj
  have e1:=hset_at (h:=h) (n:=.t j) (o:=.list [])
  generalize hset h (.t j) (.list [])=h1 at *
  refine it_list e1 ⟨by simp,cl_nil e1 ?_⟩
  obtain ⟨j2,hj2⟩:=F1.fin.new
  refine no_list (.t j2) (by room) hj2 ?_
  exact k _ _ _ [] (F1.new hj2) hset_at rfl (fun _ m=>by cases m) rfl
 ·obtain ⟨ts,v,e⟩:=last rfl
  have hd:(refs S.ts).drop ts.length=[.ref (.th v.ser)]:=by
   rw [e]; unfold refs
   rw [List.map_append,List.drop_append_of_le_length (by room),List.drop_of_length_le (by room)]; rfl
  refine sl_tail ht (j:=ts.length) (by rw [e]; simp [refs]) (by rw [e]; simp [refs]) ?_
  rw [hd]
  refine no_list (.t j) (by room) hj ?_
  have F1:Fw [] h (hset h (.t j) (.list [.ref (.th v.ser)])):=(Fw.refl X.fin).new hj
  have e1:=hset_at (h:=h) (n:=.t j) (o:=.list [.ref (.th v.ser)])
  generalize hset h (.t j) (.list [.ref (.th v.ser)])=h1 at *
  have et:=(ths_at X.hp.ap X.hp.ths (t:=v) (by rw [e]; simp)).1
  refine it_list e1 ⟨by simp,cl_cons e1 (E1 _ _ _ _ (F1.old _ _ rfl et) (cl_nil e1 ?_))⟩
  obtain ⟨j2,hj2⟩:=F1.fin.new
  refine no_list (.t j2) (by room) hj2 ?_
  exact k _ _ _ [3] (F1.new hj2) hset_at rfl (fun i m=>by rw [List.mem_singleton.mp m]; omega) rfl
theorem end_mat {S2:Ms} (X:MAt S2 h) (hn:∀ p∈S2.held,False):MAt (endA S2) (hset h (.s 12) ({ S2.x with limit:=1000000,young:=1000000 }:Hp).o):=by
 have F:Fw [.s 12] h (hset h (.s 12) ({ S2.x with limit:=1000000,young:=1000000 }:Hp).o):=(Fw.refl X.fin).set (by room)
 have:=X.lim F hset_at
 have e:({ S2 with x:={ S2.x with limit:=1000000,young:=1000000 } }:Ms)=endA S2:=by
  unfold endA
  have:S2.held=[]:=List.eq_nil_iff_forall_not_mem.mpr hn
  rw [← this]
 rw [← e]; exact this
theorem k_new_text_o (hm:34≤m) {S:Ms} {s:Str} (X:Rdy S h) (O:Out S h K (.new (.txt s))):CF w H0 m f_Shelf_new_text [.ref (.s 14),.str s] h K :=
 k_new_text hm X.x X.o X.hb fun h' S' a b c=>O h' S' a b c
theorem asks_hold {S:Ms} {mode j:Nat} {l:List HV} (X1:MAt (asks S mode []) h) (hj:h (.t j)=some (.list (l.map (HV.enc S.ts)))) (hv:∀ v∈l,HvOk S.ts v):MAt (asks S mode [(.t j,l)]) (hset h (.s 35) (.list ([] ++ [.ref (.t j)]))) :=
 X1.hold ((Fw.refl X1.fin).set (n:=.s 35) (by room)) hset_at (fun p mp=>by rw [List.mem_singleton.mp mp]; rfl) (by room) fun p mp=>by
  rw [List.mem_singleton.mp mp]
  exact ⟨hset_off rfl hj,hv⟩
theorem hold_end {S2:Ms} (X:MAt S2 h):MAt { S2 with held:=[] } (hset h (.s 35) (.list [])) :=
 X.hold ((Fw.refl X.fin).set (n:=.s 35) (by room)) hset_at (fun p mp=>by cases mp) (by room) fun p mp=>by cases mp
theorem MAt.unheld {S:Ms} (X:MAt S h) (e:S.held=[]):MAt { S with held:=[] } h:=by
 have:({ S with held:=[] }:Ms)=S:=by rw [← e]
 rw [this]; exact X
theorem vi_k {c:Cx} {loc:Loc} {KK:KS} {rest a b:List Stmt} {r:Bool} (z:∀ KN:KS,(∀ loc2 h2,SQ c rest loc2 h2 KK→KN .next loc2 h2)→VI r (SQ c a loc h KN) (SQ c b loc h KN)):VI r (SQ c a loc h (TH c rest KK)) (SQ c b loc h (TH c rest KK)):=z _ fun _ _=>k_next
theorem vi_kA {c:Cx} {loc:Loc} {KK:KS} {rest a b:List Stmt} {e:Expr} {r:Bool} (z:∀ KN:KS,(∀ loc2 h2,SQ c rest loc2 h2 KK→KN .next loc2 h2)→VI r (T c loc e h fun b2 h2=>VI b2 (SQ c a loc h2 KN) (SQ c b loc h2 KN)) (VI false (SQ c a loc h KN) (SQ c b loc h KN))) :
  VI r (T c loc e h fun b2 h2=>VI b2 (SQ c a loc h2 (TH c rest KK)) (SQ c b loc h2 (TH c rest KK))) (VI false (SQ c a loc h (TH c rest KK)) (SQ c b loc h (TH c rest KK))):=z _ fun _ _=>k_next
inductive Ask (w:World) (H0:Heap) (m:Nat) (S:Ms) (mode:Nat) (h:AH):Int→AVal→List (Nm×List HV)→Res→Prop
 | word {s:Str} (so:PyData.strOk s=true):Ask w H0 m S mode h 0 (.str s) [] (.kept (.txt s))
 | new {s:Str}:Ask w H0 m S mode h (-1) (.str s) [] (.new (.txt s))
 |
  nat {i:Int} {q c f j:Nat} {l:List HV} {r:Res} (hi:0 < i) (hd:dlk (.int i) natL=some (.ref (.s q))) (hq:∀ {h1:AH},Fix h1→h1 (.s q)=some (.inst c [])) (hc:meth c "call" = some f) (hk:(cOk c && attL.any (sq "call"))=true) (hf:(atN f fTab).isSome=true) (hl:l.length≤3) (hv:∀ v∈l,HvOk S.ts v) (hj:h (.t j)=some (.list (l.map (HV.enc S.ts))))
  (call:∀ {h1:AH} {K1:KV},Rdy (asks S mode [(.t j,l)]) h1→h1 (.t j)=some (.list (l.map (HV.enc S.ts)))→Out (asks S mode [(.t j,l)]) h1 K1 r→CF w H0 m f [.ref (.s q),.ref (.s 14),.ref (.s 42),.ref (.t j)] h1 K1):Ask w H0 m S mode h i (.ref (.t j)) [(.t j,l)] r
theorem k_ask (hm:40≤m) {S:Ms} {mode:Nat} {i:Int} {arg:AVal} {H:List (Nm×List HV)} {r:Res} {many0:Int} (a:Ask w H0 (m - 2) S mode h i arg H r) (X:MAt S h) (b:Bas S) (hmo:mode < 3) (hw:h (.s 63)=some (wO many0))
  (k:∀ gave h1 h2 h4 S2 many,Fw [.s 12,.s 35] h h1→Did (asks S mode H) h1 r gave h2 S2 many→Dn (asks S mode H) mode h1 h2 S2 many→MAt (endA S2) h4→Fw [.s 12,.s 35,.s 63] h2 h4→h4 (.s 63)=some (wO many)→K gave h4):CF w H0 m f__law_ask [.ref (.s 63),.int (Int.ofNat mode),.int i,arg] h K:=by
 have f14:=X.m
 unfold mO at f14
 have hh:=X.hp.hp
 unfold Hp.o heapO at hh
 refine cf_run (dN hm rfl) rfl rfl rfl rfl ?_
 walk
 refine gi_mode hmo ?_
 walk
 refine gi_mode hmo ?_
 walk
 refine vi_l fun l0 L0=>?_
 refine vi_k fun KN kn0=>?_
 have X0:=asks_mat (mode:=mode) X b
 have F0:Fw [.s 12,.s 35] h (hset h (.s 12) ({ S.x with limit:=limV mode,young:=youngV mode }:Hp).o):=(Fw.refl X.fin).set (n:=.s 12) (by room)
 have hw0:=hset_off (o':=({ S.x with limit:=limV mode,young:=youngV mode }:Hp).o) (show Nm.eqb (.s 63) (.s 12)=false from rfl) hw
 have hj0:∀ {j o},h (.t j)=some o→hset h (.s 12) ({ S.x with limit:=limV mode,young:=youngV mode }:Hp).o (.t j)=some o:=fun e=>hset_off rfl e
 show VI _ (SQ _ _ _ (hset h (.s 12) ({ S.x with limit:=limV mode,young:=youngV mode }:Hp).o) _) (SQ _ _ _ (hset h (.s 12) ({ S.x with limit:=limV mode,young:=youngV mode }:Hp).o) _)
 generalize hset h (.s 12) ({ S.x with limit:=limV mode,young:=youngV mode }:Hp).o=h0 at *
 have kn:∀ loc2 gave h1 h2 hp S2 many,Fw [.s 12,.s 35] h h1→Did (asks S mode H) h1 r gave h2 S2 many→Dn (asks S mode H) mode h1 h2 S2 many→MAt { S2 with held:=[] } hp→Fw [.s 12,.s 35,.s 63] h2 hp→hp (.s 63)=some (wO many0)→Lk ["gave"] l0 loc2→lk "gave" loc2=some gave→KN .next loc2 hp:=by
  intro loc2 gave h1 h2 hp S2 many F1 d dn Xp Fp1 hwp L l6
  have l1:lk "w" loc2=some (.ref (.s 63)):=by k_ne
  have l3:lk "heap" loc2=some (.ref (.s 12)):=by k_ne
  refine kn0 _ _ ?_
  have he:S2.x.made - S.x.made=many:=by have:=dn.made; have e:(asks S mode H).x.made=S.x.made:=rfl; omega
  have fr:S2.x.fresh=(if mode > 0∧many > 0 then 0 else S.x.fresh) + 3 * many:=dn.fresh
  have hhp:=Xp.hp.hp
  have htp:=Xp.hp.things
  clear kn0 X0 F0 hw0 hj0 hw hh f14 X a
  unfold Hp.o heapO at hhp
  walk
  rw [he]
  have hw3:=hset_at (h:=hp) (n:=.s 63) (o:=wO many)
  have hh3:=hset_off (o':=wO many) (show Nm.eqb (.s 12) (.s 63)=false from rfl) hhp
  have ht3:=hset_off (o':=wO many) (show Nm.eqb (.g 0 S2.x.eT) (.s 63)=false from rfl) htp
  have F3:Fw [.s 12,.s 35,.s 63] h2 (hset hp (.s 63) (wO many)):=Fp1.set (by room)
  have X3:=Xp.fw (ms:=[.s 63]) ((Fw.refl Xp.fin).set (n:=.s 63) (o:=wO many) (by room)) rfl
  generalize hset hp (.s 63) (wO many)=h3 at *
  refine vi_kA fun KN2 kn2'=>?_
  have kn2:∀ loc3,Lk ["fresh"] loc2 loc3→lk "fresh" loc3=some (.int (if mode > 0∧many > 0 then 0 else S.x.fresh))→KN2 .next loc3 h3:=by
   intro loc3 L3 l5
   refine kn2' _ _ ?_
   clear kn2' Xp Fp1 hwp hhp htp
   walk
   refine sizes (S:={ S2 with held:=[] }) X3 dn.m01 dn.last dn.len (fun a t h K e k=>?_) fun h5 j l q' F5 e1 e2 e3 e4=>?_
   ·unfold thO at e
    walk
    all_goals exact k
   have hh5:=F5.old _ _ rfl hh3
   have X5:=X3.fw F5 rfl
   have hw5:=F5.old _ _ rfl hw3
   walk
   refine bl_sum e1 e2 e3 ?_
   walk
   rw [e4]
   refine vi_f (by rw [fr,pq_refl _ rfl]; rfl) ?_
   walk
   exact k gave h1 h2 _ S2 many F1 d dn (end_mat (S2:={ S2 with held:=[] }) X5 (fun p z=>by cases z)) ((F3.trans (F5.weak (by room))).set (n:=.s 12) (by room)) (hset_off rfl hw5)
  refine vi (fun q=>?_) fun q=>?_
  ·have q:(Int.ofNat mode) > 0:=of_decide_eq_true q
   have q':mode > 0:=Int.ofNat_lt.mp q
   walk
   refine vi (fun q2=>?_) fun q2=>?_
   ·have q2:many > 0:=of_decide_eq_true q2
    walk
    exact kn2 _ (by k_ne) (by rw [if_pos ⟨q',q2⟩]; k_ne)
   ·have q2:¬ many > 0:=of_decide_eq_false q2
    walk
    exact kn2 _ (by k_ne) (by rw [if_neg (fun z=>q2 z.2)]; k_ne)
  ·have q:¬ (Int.ofNat mode) > 0:=of_decide_eq_false q
   walk
   exact kn2 _ (by k_ne) (by rw [if_neg (fun z=>q (Int.ofNat_lt.mpr z.1))]; k_ne)
 have rdy:∀ {h1:AH} {H:List (Nm×List HV)},MAt (asks S mode H) h1→tot H≤3→H.length≤1→Rdy (asks S mode H) h1:=fun X1 t1 t2=>⟨X1,b.ok t1 t2,b.ko,b.hb,(by show S.thrown.length < 100; rw [b.th]; decide)⟩
 have g14:=X0.m
 unfold mO at g14
 have g35:h0 (.s 35)=some (.list []):=X0.held
 cases a with
 | word so =>
  refine vi_t (pq_refl _ rfl) ?_
  walk
  refine k_interned_o (dM hm rfl) (rdy X0 (by decide) (by decide)) so (out_of fun gave h2 S2 many d=>?_)
  have dn:=dn_of b hmo (by decide) (by decide) X0 d
  walk
  exact kn _ gave h0 h2 h2 S2 many F0 d dn (dn.x.unheld dn.held) (Fw.refl dn.x.fin) (dn.fp.old _ _ rfl hw0) (by k_ne) (by k_ne)
 | new =>
  refine vi_f rfl ?_
  walk
  refine k_new_text_o (dM hm rfl) (rdy X0 (by decide) (by decide)) (out_of fun gave h2 S2 many d=>?_)
  have dn:=dn_of b hmo (by decide) (by decide) X0 d
  walk
  exact kn _ gave h0 h2 h2 S2 many F0 d dn (dn.x.unheld dn.held) (Fw.refl dn.x.fin) (dn.fp.old _ _ rfl hw0) (by k_ne) (by k_ne)
 | nat hi hd hq hc hk hf hl hv hj call =>
  rename_i q c f j l
  refine vi_f (decide_eq_false (Int.ne_of_gt hi)) ?_
  walk
  refine vi_f (decide_eq_false (Int.not_lt.mpr (Int.le_of_lt hi))) ?_
  walk
  have X1:=asks_hold X0 (hj0 hj) hv
  have F1:Fw [.s 12,.s 35] h (hset h0 (.s 35) (.list ([] ++ [.ref (.t j)]))):=F0.set (n:=.s 35) (by room)
  have hw1:=hset_off (o':=.list ([] ++ [.ref (.t j)])) (show Nm.eqb (.s 63) (.s 35)=false from rfl) hw0
  have hj1:=hset_off (o':=.list ([] ++ [.ref (.t j)])) (show Nm.eqb (.t j) (.s 35)=false from rfl) (hj0 hj)
  generalize hset h0 (.s 35) (.list ([] ++ [.ref (.t j)]))=h1 at *
  have f14:=X1.m
  unfold mO at f14
  have f21:=X1.fix.at (k:=21) rfl
  have f27:=X1.fix.at (k:=27) rfl
  have t1:tot [(Nm.t j,l)]≤3:=hl
  walk
  refine gi_dict f27 rfl hd ?_
  refine mc_inst (hq X1.fix) hc rfl hk hf ?_
  walk
  refine call (rdy X1 t1 (by room)) hj1 (out_of fun gave h2 S2 many d=>?_)
  have dn:=dn_of b hmo t1 (by room) X1 d
  have h14:=dn.x.m
  unfold mO at h14
  have h35:h2 (.s 35)=some (.list ([] ++ [.ref (.t j)])):=by have:=dn.x.held; rw [dn.held] at this; exact this
  walk
  refine me_pop h35 ?_
  walk
  exact kn _ gave h1 h2 _ S2 many F1 d dn (hold_end dn.x) ((Fw.refl dn.x.fin).set (n:=.s 35) (by room)) (hset_off rfl (dn.fp.old _ _ rfl hw1)) (by k_ne) (by k_ne)
theorem k_ask_word (hm:40≤m) {S:Ms} {mode:Nat} {s:Str} {many0:Int} (X:MAt S h) (b:Bas S) (hmo:mode < 3) (hw:h (.s 63)=some (wO many0)) (so:PyData.strOk s=true)
  (k:∀ gave h1 h2 h4 S2 many,Fw [.s 12,.s 35] h h1→Did (asks S mode []) h1 (.kept (.txt s)) gave h2 S2 many→Dn (asks S mode []) mode h1 h2 S2 many→MAt (endA S2) h4→Fw [.s 12,.s 35,.s 63] h2 h4→h4 (.s 63)=some (wO many)→K gave h4):CF w H0 m f__law_ask [.ref (.s 63),.int (Int.ofNat mode),.int 0,.str s] h K :=
 k_ask hm (.word so) X b hmo hw k
section
noncomputable def SV.ok':SV→Prop
 | .txt s=>tOk s
 | .knd _=>True
noncomputable def SV.lkey:SV→AVal
 | .txt s=>.str s
 | .knd k=>.int k
noncomputable def keptRow (p:SV×Nat):AVal:=.tup [p.1.lkey,.int (Int.ofNat p.2)]
open Classical in
theorem lkey_eq {u v:SV} (hu:u.ok) (hv:v.ok):eqV h u.lkey v.lkey=some (decide (u=v)):=by
 cases u with
 | txt a=>cases v with
  | txt b =>
   refine (eqV_str (a:=a) (b:=b) hu hv).trans ?_
   congr 1
   cases q:sq a b with
   | true=>rw [sq_iff.mp q]; exact (decide_eq_true rfl).symm
   | false=>exact (decide_eq_false (by intro z; injection z with z; rw [sq_iff.mpr z] at q; cases q)).symm
  | knd k =>
   have hu:PyData.strOk a=true:=hu
   rw [decide_eq_false (by intro z; cases z)]; exact eqV_of (a:=.str a) (b:=.int k) (y:=.int k) (toPy_str hu) rfl
 | knd k=>cases v with
  | txt b =>
   have hv:PyData.strOk b=true:=hv
   rw [decide_eq_false (by intro z; cases z)]; exact eqV_of (a:=.int k) (b:=.str b) (x:=.int k) rfl (toPy_str hv)
  | knd j =>
   show some (decide (k=j))=_
   congr 1
   rw [decide_eq_decide]
   exact ⟨fun e=>by rw [e],fun e=>by injection e⟩
noncomputable def rowsD:Nat→List SV→List (AVal×AVal)
 | _,[]=>[]
 | i,v :: r=>(.int (Int.ofNat i),.tup [.int v.kind,.ref (.g 9 i)]) :: rowsD (i + 1) r
abbrev Mk:=List Str×(Nat→Option AObj)
structure LO (cl:List Nat) (kp:List (SV×Nat)) (rows:List SV) (marks:Mk) (h:AH):Prop where
 cells:h (.s 64)=some (.list (cl.map fun s=>.int (Int.ofNat s)))
 kept:h (.s 65)=some (.list (kp.map keptRow))
 rws:h (.s 66)=some (.dict (rowsD 1 rows))
 slots:∀ i v,rows[i]? = some v→h (.g 9 (i + 1))=some (.list [v.enc])
 nog:∀ e,rows.length < e→h (.g 9 e)=none
 mrk:h (.s 67)=some (.dict (marks.1.map fun s=>(.str s,.tup [.int 1,.int (hashV s)])))
 tmp:∀ k,68≤k→h (.s k)=marks.2 k
theorem LO.fp {cl:List Nat} {kp:List (SV×Nat)} {rows:List SV} {marks:Mk} {P:Nm→Bool} {h':AH} (x:LO cl kp rows marks h) (F:Fp P h h') (k1:∀ k,64≤k→P (.s k)=true) (k2:∀ e,P (.g 9 e)=true):LO cl kp rows marks h' :=
 ⟨F.old _ _ (k1 _ (by decide)) x.cells,F.old _ _ (k1 _ (by decide)) x.kept,F.old _ _ (k1 _ (by decide)) x.rws,fun i v e=>F.old _ _ (k2 _) (x.slots i v e),fun e q=>by rw [F.nt _ rfl (k2 _)]; exact x.nog e q,F.old _ _ (k1 _ (by omega)) x.mrk,fun k q=>by rw [F.nt _ rfl (k1 _ (by omega))]; exact x.tmp k q⟩
theorem LO.pw {cl:List Nat} {kp:List (SV×Nat)} {rows:List SV} {marks:Mk} {S:Ms} {h':AH} (x:LO cl kp rows marks h) (F:Fp (pW S) h h'):LO cl kp rows marks h':=x.fp F (fun k q=>Nat.ble_eq_true_of_le (by omega)) fun _=>rfl
theorem LO.fw {cl:List Nat} {kp:List (SV×Nat)} {rows:List SV} {marks:Mk} {ms:List Nm} {h':AH} (x:LO cl kp rows marks h) (F:Fw ms h h') (k:∀ n∈ms,(∀ k,n = .s k→k < 64)∧∀ e,n≠.g 9 e):LO cl kp rows marks h' :=
 x.fp (P:=fun n=>nin n ms) ⟨F.old,F.nt,F.fin⟩ (fun j q=>nin_sub' fun n mn z=>by have:=(k n mn).1 j z.symm; omega) fun e=>nin_sub' fun n mn z=>(k n mn).2 e z.symm
noncomputable def loNm:Nm→Bool
 | .s k=>Nat.blt k 68
 | _=>true
theorem tmp_fw {ms:List Nm} {h':AH} {f:Nat→Option AObj} (F:Fw ms h h') (e:ms.all loNm=true) (t:∀ k,68≤k→h (.s k)=f k):∀ k,68≤k→h' (.s k)=f k:=fun k q=>by
 rw [F.nt _ rfl (nin_sub' fun n mn z=>?_)]
 ·exact t k q
 ·have:=List.all_eq_true.mp e n mn
  rw [← z] at this
  exact absurd (Nat.blt_eq.mp this) (Nat.not_lt.mpr q)
structure LSem (S:Ms) (rows:List SV) (marks:Mk):Prop where
 len:rows.length=S.md
 val:∀ t∈S.ts,1≤t.ser∧rows[t.ser - 1]? = some t.val
 vok:∀ v∈rows,v.ok'
 kv:∀ p∈S.kept,1≤p.2∧rows[p.2 - 1]? = some p.1
 mok:∀ s∈marks.1,PyData.strOk s=true
structure LAt (S:Ms) (rows:List SV) (marks:Mk) (many:Int) (h:AH):Prop where
 x:MAt S h
 b:Bas S
 w:h (.s 63)=some (wO many)
 o:LO S.cells S.kept rows marks h
 s:LSem S rows marks
theorem rows_at {v:SV}:∀ {rows:List SV} {i j:Nat},rows[j]? = some v→dlk (.int (Int.ofNat (i + j))) (rowsD i rows)=some (.tup [.int v.kind,.ref (.g 9 (i + j))])
 | [],_,_,e=>by simp at e
 | u :: r,i,0,e=>by
  rw [List.getElem?_cons_zero] at e
  injection e with e
  rw [rowsD,dlk_int,Nat.add_zero,if_pos rfl,e]
 | u :: r,i,j + 1,e=>by
  rw [List.getElem?_cons_succ] at e
  rw [rowsD,dlk_int,if_neg fun e=>absurd (Int.ofNat.inj e) (Nat.ne_of_lt (Nat.lt_add_of_pos_right (Nat.succ_pos j))),show i + (j + 1)=i + 1 + j from (Nat.add_right_comm i 1 j).symm]
  exact rows_at e
theorem rows_none:∀ {rows:List SV} {i j:Nat},i + rows.length≤j→dlk (.int (Int.ofNat j)) (rowsD i rows)=none
 | [],_,_,_=>rfl
 | u :: r,i,j,e=>by
  rw [List.length_cons] at e
  rw [rowsD,dlk_int,if_neg fun z=>Nat.ne_of_lt (Nat.lt_of_lt_of_le (Nat.lt_add_of_pos_right (Nat.succ_pos _)) e) (Int.ofNat.inj z)]
  exact rows_none (Nat.le_trans (Nat.le_of_eq (Nat.add_right_comm i 1 r.length)) e)
theorem rows_put {v:SV}:∀ {rows:List SV} {i:Nat},dput (.int (Int.ofNat (i + rows.length))) (.tup [.int v.kind,.ref (.g 9 (i + rows.length))]) (rowsD i rows)=rowsD i (rows ++ [v])
 | [],_=>rfl
 | u :: r,i=>by
  rw [rowsD,List.cons_append,rowsD,dput_int,if_neg (show ¬ (Int.ofNat i=Int.ofNat (i + (u :: r).length)) from fun e=>absurd (Int.ofNat.inj e) (Nat.ne_of_lt (Nat.lt_add_of_pos_right (Nat.succ_pos r.length)))),List.length_cons,show i + (r.length + 1)=i + 1 + r.length from (Nat.add_right_comm i 1 r.length).symm,rows_put]
theorem rowsD_len:∀ {rows:List SV} {i:Nat},(rowsD i rows).length=rows.length
 | [],_=>rfl
 | _ :: r,i=>by rw [rowsD,List.length_cons,List.length_cons,rowsD_len]
theorem map_set {α:Type} {f:α→AVal} {a:α}:∀ {l:List α} {i:Nat},i < l.length→setNth (l.map f) i (f a)=some ((l.set i a).map f)
 | [],_,e=>by simp at e
 | b :: r,0,_=>rfl
 | b :: r,i + 1,e=>by
  rw [List.map_cons,setNth,map_set (by simpa using e)]; rfl
noncomputable def putC (S:Ms) (x s:Nat):Ms:={ S with cells:=S.cells.set x s }
theorem MAt.putC {S:Ms} {x s:Nat} {h':AH} (X:MAt S h) (F:Fw [.s 44] h h') (hs:s=0∨In S.ts s) (e1:h' (.s 44)=some (.list (((S.cells.set x s).map HV.ref).map (HV.enc S.ts)))):MAt (putC S x s) h':=by
 have roots:LsAt h' S.ts (rootsL (Mine.putC S x s)):=by
  have old:∀ p∈rootsL S,p.1≠.s 44→h' p.1=some (.list (p.2.map (HV.enc S.ts)))∧∀ v∈p.2,HvOk S.ts v:=fun p mp ne =>
   ⟨F.old _ _ (nin_sub' fun a ma z=>ne (by rw [z,List.mem_singleton.mp ma])) (X.roots p mp).1,(X.roots p mp).2⟩
  refine roots_el X (P:=fun p=>h' p.1=some (.list (p.2.map (HV.enc S.ts)))∧∀ v∈p.2,HvOk S.ts v) rfl ⟨e1,fun u mu=>?_⟩ (old _ in34 (ne_of rfl)) fun p mp ne _=>old p mp ne
  obtain ⟨t,mt,rfl⟩:=List.mem_map.mp mu
  rcases List.mem_or_eq_of_mem_set mt with q | q
  ·exact (X.roots _ in44).2 _ (List.mem_map_of_mem q)
  ·rw [q]; exact hs
 refine ⟨X.fix.mono fun p mp o e=>F.old _ _ (nin_sub' fun a ma z=>?_) e,F.old _ _ rfl X.m,F.old _ _ rfl X.thrown,F.old _ _ rfl X.interned,F.old _ _ rfl X.held,roots,⟨F.old _ _ rfl X.hp.hp,F.old _ _ rfl X.hp.things,F.old _ _ rfl X.hp.at_,F.old _ _ rfl X.hp.cards,F.old _ _ rfl X.hp.finals,F.old _ _ rfl X.hp.ready,ThsAt.keep (fun t _ o q=>F.old _ _ rfl q) (fun t mt o q=>F.old _ _ rfl q) X.hp.ths,X.hp.ap⟩,fun e=>(X.hdT e).fw F rfl rfl,fun e=>?_,F.fin,X.heldT,X.heldN,X.sers,fun s q=>?_⟩
 ·have:fixTab.all (fun p=>!(Nat.beq p.1 44))=true:=by decide +kernel
  have:=List.all_eq_true.mp this p mp
  rw [List.mem_singleton.mp ma] at z
  injection z with z
  rw [z] at this; cases this
 ·have:=X.hdF e
  exact ⟨by rw [F.nt _ rfl rfl]; exact this.1,by rw [F.nt _ rfl rfl]; exact this.2⟩
 ·have:=X.frs s q
  exact ⟨by rw [F.nt _ rfl rfl]; exact this.1,by rw [F.nt _ rfl rfl]; exact this.2⟩
end
theorem MAt.locals {S:Ms} (X:MAt S h):h (.s 44)=some (.list ((S.cells.map HV.ref).map (HV.enc S.ts))):=(X.roots _ in44).1
theorem map_map_set {S:Ms} {x s:Nat} (hx:x < S.cells.length):setNth ((S.cells.map HV.ref).map (HV.enc S.ts)) x (.tup [.int 4,.int (ra S.ts s)])=some (((S.cells.set x s).map HV.ref).map (HV.enc S.ts)):=by
 have:=map_set (f:=fun s=>HV.enc S.ts (.ref s)) (a:=s) hx
 rw [List.map_map,List.map_map]
 exact this
theorem k_law_put (hm:4≤m) {S:Ms} {kp:List (SV×Nat)} {rows:List SV} {marks:Mk} {many:Int} {x s:Nat} (X:MAt S h) (hw:h (.s 63)=some (wO many)) (L:LO S.cells kp rows marks h) (hx:x < 3) (hc:S.cells.length=3) (hs:s=0∨In S.ts s)
  (k:∀ h',Fw [.s 44,.s 64] h h'→MAt (putC S x s) h'→LO (S.cells.set x s) kp rows marks h'→K (.bool (decide (many=0))) h'):CF w H0 m f__law_put [.ref (.s 63),.int (Int.ofNat x),.tup [.int 4,.int (ra S.ts s)],.int (Int.ofNat s)] h K:=by
 have f14:=X.m
 unfold mO at f14
 have f21:=X.fix.at (k:=21) rfl
 have f42:=X.fix.at (k:=42) rfl
 have f44:=X.locals
 have c64:=L.cells
 refine cf_run (dN hm rfl) rfl rfl rfl rfl ?_
 walk
 refine si_list (j:=x) c64 rfl (map_set (f:=fun s=>AVal.int (Int.ofNat s)) (by rw [hc]; exact hx)) ?_
 walk
 refine si_list (j:=x) (hset_off rfl f44) rfl (map_map_set (by rw [hc]; exact hx)) ?_
 walk
 have F:Fw [.s 44,.s 64] h (hset (hset h (.s 64) (.list ((S.cells.set x s).map fun s=>AVal.int (Int.ofNat s)))) (.s 44) (.list (((S.cells.set x s).map HV.ref).map (HV.enc S.ts)))):=((Fw.refl X.fin).set (n:=.s 64) (by room)).set (n:=.s 44) (by room)
 have X1:=X.fw (ms:=[.s 64]) ((Fw.refl X.fin).set (n:=.s 64) (o:=.list ((S.cells.set x s).map fun s=>AVal.int (Int.ofNat s))) (by room)) rfl
 have X2:=X1.putC (x:=x) (s:=s) ((Fw.refl X1.fin).set (n:=.s 44) (o:=.list (((S.cells.set x s).map HV.ref).map (HV.enc S.ts))) (by room)) hs hset_at
 refine k _ F X2 ⟨hset_off rfl hset_at,F.old _ _ rfl L.kept,F.old _ _ rfl L.rws,fun i v e=>F.old _ _ rfl (L.slots i v e),fun e q=>by rw [F.nt _ rfl rfl]; exact L.nog e q,F.old _ _ rfl L.mrk,tmp_fw F rfl L.tmp⟩
theorem k_law_new (hm:8≤m) {S:Ms} {v:SV} {kp:List (SV×Nat)} {rows:List SV} {marks:Mk} {x:Nat} {t:Th} (X:MAt S h) (hw:h (.s 63)=some (wO 1)) (L:LO S.cells kp rows marks h) (hx:x < 3) (hc:S.cells.length=3) (mt:t∈S.ts) (hser:t.ser=1 + rows.length) (hl:rows.length < 300)
  (k:∀ h',Fw [.s 44,.s 64,.s 66,.g 9 t.ser] h h'→MAt (putC S x t.ser) h'→LO (S.cells.set x t.ser) kp (rows ++ [v]) marks h'→K (.bool true) h'):CF w H0 m f__law_new [.ref (.s 63),.int (Int.ofNat x),.tup [.int 4,.int (ra S.ts t.ser)],.int v.kind,v.enc] h K:=by
 have f14:=X.m
 unfold mO at f14
 have hh:=X.hp.hp
 unfold Hp.o heapO at hh
 have ha:=X.hp.at_
 have hr:=L.rws
 obtain ⟨e1,e2⟩:=ths_at X.hp.ap X.hp.ths mt
 unfold thO at e1
 refine cf_run (dN hm rfl) rfl rfl rfl rfl ?_
 walk
 refine me_get ha rfl ?_
 rw [ra_in (apart_ne0 X.hp.ap t mt),at_look X.hp.ap ⟨t,mt,rfl⟩,Option.getD_some]
 walk
 refine cm_in_dict hr rfl ?_
 rw [show (AVal.int (t.ser:Int)) = .int (Int.ofNat t.ser) from rfl,rows_none (by omega)]
 walk
 have hg:h (.g 9 t.ser)=none:=L.nog _ (by omega)
 refine no_list (.g 9 t.ser) (by room) hg ?_
 walk
 refine si_dict (hset_off rfl hr) rfl (by rw [rowsD_len]; exact lt_le hl rfl) ?_
 rw [show (AVal.int (t.ser:Int)) = .int (Int.ofNat t.ser) from rfl]
 have hp:=rows_put (v:=v) (rows:=rows) (i:=1)
 rw [← hser] at hp
 rw [hp]
 have F:Fw [.s 44,.s 64,.s 66,.g 9 t.ser] h (hset (hset h (.g 9 t.ser) (.list [v.enc])) (.s 66) (.dict (rowsD 1 (rows ++ [v])))):=((Fw.refl X.fin).set (n:=.g 9 t.ser) (by room)).set (n:=.s 66) (by room)
 have X1:=X.fw (ms:=[.s 66,.g 9 t.ser]) (((Fw.refl X.fin).set (n:=.g 9 t.ser) (o:=.list [v.enc]) (by room)).set (n:=.s 66) (o:=.dict (rowsD 1 (rows ++ [v]))) (by room)) rfl
 have L1:LO S.cells kp (rows ++ [v]) marks (hset (hset h (.g 9 t.ser) (.list [v.enc])) (.s 66) (.dict (rowsD 1 (rows ++ [v])))):=⟨hset_off rfl (hset_off rfl L.cells),hset_off rfl (hset_off rfl L.kept),hset_at,fun i u e=>?_,fun e q=>?_,hset_off rfl (hset_off rfl L.mrk),tmp_fw F rfl L.tmp⟩
 have hw1:hset (hset h (.g 9 t.ser) (.list [v.enc])) (.s 66) (.dict (rowsD 1 (rows ++ [v]))) (.s 63)=some (wO 1):=hset_off rfl (hset_off rfl hw)
 have e1':hset (hset h (.g 9 t.ser) (.list [v.enc])) (.s 66) (.dict (rowsD 1 (rows ++ [v]))) (.th t.ser)=_:=hset_off rfl (hset_off rfl e1)
 ·generalize hset (hset h (.g 9 t.ser) (.list [v.enc])) (.s 66) (.dict (rowsD 1 (rows ++ [v])))=h1 at *
  walk
  rw [← ra_in (apart_ne0 X.hp.ap t mt)]
  refine k_law_put (dM hm rfl) X1 hw1 L1 hx hc (.inr ⟨t,mt,rfl⟩) fun h' F2 X2 L2=>?_
  walk
  exact k _ (F.trans (F2.weak (by room))) X2 L2
 ·by_cases q:i=rows.length
  ·subst q
   rw [List.getElem?_append_right (Nat.le_refl _),Nat.sub_self] at e
   injection e with e
   rw [← e,show rows.length + 1=t.ser by omega]
   exact hset_off rfl hset_at
  ·have hi:i < rows.length:=by
    have:=(List.getElem?_eq_some_iff.mp e).1
    rw [List.length_append] at this
    simp at this; omega
   rw [List.getElem?_append_left hi] at e
   exact hset_off rfl (hset_off (Nm.eqb_ne (by intro z; injection z with _ z; omega)) (L.slots i u e))
 ·rw [List.length_append] at q
  exact hset_off rfl (hset_off (Nm.eqb_ne (by intro z; injection z with _ z; simp at q; omega)) (L.nog e (by simp at q; omega)))
section
open Classical in
theorem k_law_kept_found (hm:8≤m) {S:Ms} {v:SV} {rows:List SV} {marks:Mk} {x t:Nat} (X:MAt S h) (hw:h (.s 63)=some (wO 0)) (L:LO S.cells S.kept rows marks h) (ko:KpOk S.kept) (hv:v.ok) (hx:x < 3) (hc:S.cells.length=3) (e:keptAt v S.kept=some t) (ht:t=0∨In S.ts t) (hk:S.kept.length < 300)
  (k:∀ h',Fw [.s 44,.s 64] h h'→MAt (putC S x t) h'→LO (S.cells.set x t) S.kept rows marks h'→K (.bool true) h'):CF w H0 m f__law_kept [.ref (.s 63),.int (Int.ofNat x),.tup [.int 4,.int (ra S.ts t)],v.lkey,.int v.kind,v.enc] h K:=by
 have hl:=L.kept
 refine cf_run (dN hm rfl) rfl rfl rfl rfl ?_
 walk
 refine fr_eachR ["row"] keptRow S.kept rfl (I:=fun _ l _ h1=>h=h1∧keptAt v l=some t) (R:=fun u h'=>K u h') (fun _ _ _ _ i=>i.1 ▸ hl)
  (fun d p l loc1 h1 ek M i K' kn kr=>?_) (fun loc1 h1 M i=>nos i.2) (fun u loc h1 i=>?_) ⟨rfl,e⟩
 ·obtain ⟨rfl,e⟩:=i
  rw [keptAt] at e
  walk
  refine gi_tup (m:=0) rfl rfl rfl ?_
  walk
  refine cm_eq (lkey_eq (ko p (mem_mid ek)) hv) ?_
  walk
  refine vi (fun q=>?_) fun q=>?_
  ·have q:=of_decide_eq_true q
   rw [if_pos q] at e
   walk
   refine gi_tup (m:=1) rfl rfl rfl ?_
   walk
   rw [Option.some.inj e]
   refine k_law_put (dM hm rfl) X hw L hx hc ht fun h' F X2 L2=>?_
   walk
   exact kr _ _ _ (k h' F X2 L2)
  ·have q:=of_decide_eq_false q
   rw [if_neg q] at e
   walk
   exact kn _ _ (by k_ne) ⟨rfl,e⟩
 ·walk
  all_goals exact i
open Classical in
theorem k_law_kept_new (hm:10≤m) {S:Ms} {v:SV} {kp:List (SV×Nat)} {rows:List SV} {marks:Mk} {x:Nat} {t:Th} (X:MAt S h) (hw:h (.s 63)=some (wO 1)) (L:LO S.cells kp rows marks h) (ko:KpOk kp) (hv:v.ok) (hx:x < 3) (hc:S.cells.length=3) (e:keptAt v kp=none) (mt:t∈S.ts) (hser:t.ser=1 + rows.length) (hl:rows.length < 300) (hk:kp.length < 300)
  (k:∀ h',Fw [.s 44,.s 64,.s 65,.s 66,.g 9 t.ser] h h'→MAt (putC S x t.ser) h'→LO (S.cells.set x t.ser) (kp ++ [(v,t.ser)]) (rows ++ [v]) marks h'→K (.bool true) h'):CF w H0 m f__law_kept [.ref (.s 63),.int (Int.ofNat x),.tup [.int 4,.int (ra S.ts t.ser)],v.lkey,.int v.kind,v.enc] h K:=by
 have hl':=L.kept
 refine cf_run (dN hm rfl) rfl rfl rfl rfl ?_
 walk
 refine fr_each ["row"] keptRow kp rfl (I:=fun _ l _ h1=>h=h1∧keptAt v l=none) (fun _ _ _ _ i=>i.1 ▸ hl')
  (fun d p l loc1 h1 ek M i K' kn=>?_) (fun loc1 h1 M i=>?_) ⟨rfl,e⟩
 ·obtain ⟨rfl,e⟩:=i
  rw [keptAt] at e
  walk
  refine gi_tup (m:=0) rfl rfl rfl ?_
  walk
  refine cm_eq (lkey_eq (ko p (mem_mid ek)) hv) ?_
  walk
  refine vi (fun q=>?_) fun q=>?_
  ·have q:=of_decide_eq_true q
   rw [if_pos q] at e
   exact nos e.symm
  ·have q:=of_decide_eq_false q
   rw [if_neg q] at e
   walk
   exact kn _ _ (by k_ne) ⟨rfl,e⟩
 ·obtain ⟨rfl,_⟩:=i
  walk
  refine k_law_new (dM hm rfl) X hw L hx hc mt hser hl fun h' F X2 L2=>?_
  have hw2:=F.old _ _ rfl hw
  have c2:=L2.cells
  have k2:=L2.kept
  walk
  refine gi_list (j:=x) c2 rfl (nthV_map (a:=t.ser) (List.getElem?_set_self (by rw [hc]; exact hx))) ?_
  walk
  have F2:Fw [.s 44,.s 64,.s 65,.s 66,.g 9 t.ser] h' (hset h' (.s 65) (.list (kp.map keptRow ++ [.tup [v.lkey,.int (Int.ofNat t.ser)]]))):=(Fw.refl F.fin).set (by room)
  refine k _ ((F.weak (by room)).trans F2) (X2.fw (ms:=[.s 65]) ((Fw.refl F.fin).set (by room)) rfl) ⟨hset_off rfl c2,?_,hset_off rfl L2.rws,fun i v e=>hset_off rfl (L2.slots i v e),fun e q=>hset_off rfl (L2.nog e q),hset_off rfl L2.mrk,tmp_fw F2 rfl L2.tmp⟩
  rw [hset_at,List.map_append]; rfl
end
theorem ra_new' {S:Ms} {v:SV} (ap:Apart (pushT S v).ts) (o:Ok S):ra (pushT S v).ts (S.md + 1)=S.x.top:=by
 unfold ra
 rw [if_neg (Nat.succ_ne_zero _)]
 show addrOf 16 (S.ts ++ [_]) _=_
 rw [addrOf_right fun ⟨t,mt,e⟩=>(apart_app (a:=S.ts) (b:=[_]) ap).2.2 t mt _ (List.mem_singleton.mpr rfl) e,o.top,addrOf,if_pos rfl]
theorem Ok.endA {S:Ms} (o:Ok S):Ok (endA S):=⟨o.srt,o.top,o.made,o.len,o.gen,o.cells,o.kept,Nat.zero_le _,Nat.zero_le _⟩
theorem Ok.putC {S:Ms} {x s:Nat} (o:Ok S):Ok (putC S x s):=⟨o.srt,o.top,o.made,o.len,o.gen,by show (S.cells.set x s).length=3; rw [List.length_set]; exact o.cells,o.kept,o.heldL,o.heldC⟩
theorem Ok.keepT {S:Ms} {v:SV} {s:Nat} (o:Ok S) (e:S.kept.length + 1≤S.md):Ok (keepT S v s):=⟨o.srt,o.top,o.made,o.len,o.gen,o.cells,by show (S.kept ++ [_]).length≤S.md; rw [List.length_append]; exact e,o.heldL,o.heldC⟩
theorem Bas.putC {S:Ms} {x s:Nat} (b:Bas S):Bas (putC S x s):=⟨b.o.putC,b.ko,b.hb,b.th,b.he,b.f0,b.f1⟩
theorem Bas.back {S:Ms} (b:Bas S) {mode:Nat} {H:List (Nm×List HV)}:Bas (endA (asks S mode H)):=⟨⟨b.o.srt,b.o.top,b.o.made,b.o.len,b.o.gen,b.o.cells,b.o.kept,Nat.zero_le _,Nat.zero_le _⟩,b.ko,b.hb,b.th,rfl,b.f0,b.f1⟩
theorem Bas.swept {S S':Ms} (b:Bas S) {mode:Nat} {H:List (Nm×List HV)} (sw:Swept (asks S mode H) S' (asks S mode H).want):S'.md=S.md∧0≤S'.x.fresh∧S'.x.fresh≤3 * S'.x.made:=by
 have h1:=sw.md
 have h2:=b.f0
 have h3:=b.f1
 have h4:S'.x.made=S.x.made:=sw.made
 have h5:=b.o.made
 refine ⟨h1,?_⟩
 by_cases q:(asks S mode H).want=0
 ·rw [h4,sw.none q]; exact ⟨h2,h3⟩
 ·rw [h4,sw.some q]; exact ⟨Int.le_refl 0,Int.mul_nonneg (by decide) h5⟩
theorem Bas.push {S S':Ms} {v:SV} (b:Bas S) {mode:Nat} {H:List (Nm×List HV)} (sw:Swept (asks S mode H) S' (asks S mode H).want) (hb:S.md < 249):Bas (endA (pushT S' v)):=by
 obtain ⟨h1,h2,h3⟩:=b.swept sw
 refine ⟨(sw.ok.push).endA,?_,?_,sw.thrown.trans b.th,rfl,?_,?_⟩
 ·show KpOk S'.kept; rw [sw.kept]; exact b.ko
 ·rw [show (endA (pushT S' v)).md=S'.md + 1 from pushT_md (v:=v) sw.ok.made,h1]; exact Nat.succ_lt_succ hb
 ·exact Int.add_nonneg h2 (by decide)
 ·show S'.x.fresh + 3≤3 * (S'.x.made + 1)
  rw [Int.mul_add]; exact Int.add_le_add_right h3 3
theorem Bas.keep {S S':Ms} {v:SV} {s:Nat} (b:Bas S) {mode:Nat} {H:List (Nm×List HV)} (sw:Swept (asks S mode H) S' (asks S mode H).want) (hb:S.md < 249) (hv:v.ok):Bas (endA (keepT (pushT S' v) v s)):=by
 obtain ⟨h1,h2,h3⟩:=b.swept sw
 refine ⟨((sw.ok.push).keepT ?_).endA,?_,?_,sw.thrown.trans b.th,rfl,?_,?_⟩
 ·rw [pushT_md sw.ok.made]
  show S'.kept.length + 1≤_
  exact Nat.succ_le_succ sw.ok.kept
 ·show KpOk (S'.kept ++ [(v,s)])
  intro p mp
  rcases List.mem_append.mp mp with q | q
  ·rw [sw.kept] at q; exact b.ko p q
  ·rw [List.mem_singleton.mp q]; exact hv
 ·rw [show (endA (keepT (pushT S' v) v s)).md=S'.md + 1 from pushT_md (v:=v) sw.ok.made,h1]; exact Nat.succ_lt_succ hb
 ·exact Int.add_nonneg h2 (by decide)
 ·show S'.x.fresh + 3≤3 * (S'.x.made + 1)
  rw [Int.mul_add]; exact Int.add_le_add_right h3 3
theorem SV.ok_of:∀ {v:SV},v.ok'→v.ok
 | .txt _,e=>e.2
 | .knd _,_=>trivial
theorem LSem.back {S:Ms} {rows:List SV} {marks:Mk} (s:LSem S rows marks) {mode:Nat} {H:List (Nm×List HV)}:LSem (endA (asks S mode H)) rows marks:=⟨s.len,s.val,s.vok,s.kv,s.mok⟩
theorem LSem.putC {S:Ms} {rows:List SV} {marks:Mk} (s:LSem S rows marks) {x t:Nat}:LSem (Mine.putC S x t) rows marks:=⟨s.len,s.val,s.vok,s.kv,s.mok⟩
theorem app_at {rows:List SV} {v u:SV} {i:Nat} (e:rows[i]? = some u):(rows ++ [v])[i]? = some u:=by
 rw [List.getElem?_append_left (List.getElem?_eq_some_iff.mp e).1]; exact e
theorem LSem.push {S S':Ms} {v:SV} {rows:List SV} {marks:Mk} (s:LSem S rows marks) (b:Bas S) {mode:Nat} {H:List (Nm×List HV)} (sw:Swept (asks S mode H) S' (asks S mode H).want) (hv:v.ok'):LSem (endA (pushT S' v)) (rows ++ [v]) marks:=by
 obtain ⟨h1,h2,h3⟩:=b.swept sw
 refine ⟨?_,fun t mt=>?_,fun u mu=>?_,fun p mp=>?_,s.mok⟩
 ·have:(endA (pushT S' v)).md=S'.md + 1:=pushT_md (v:=v) sw.ok.made
  rw [List.length_append,this,h1,s.len]; rfl
 ·rcases List.mem_append.mp (show t∈S'.ts ++ [_] from mt) with q | q
  ·obtain ⟨u,mu,e1,e2⟩:=sw.val t q
   have:=s.val u mu
   rw [← e1,← e2]
   exact ⟨this.1,app_at this.2⟩
  ·rw [List.mem_singleton.mp q]
   show 1≤S'.md + 1∧(rows ++ [v])[S'.md + 1 - 1]? = some v
   rw [h1,Nat.add_sub_cancel,← s.len]
   exact ⟨Nat.le_add_left 1 _,by rw [List.getElem?_append_right (Nat.le_refl _),Nat.sub_self]; rfl⟩
 ·rcases List.mem_append.mp mu with q | q
  ·exact s.vok u q
  ·rw [List.mem_singleton.mp q]; exact hv
 ·have mp':p∈S.kept:=by have:=sw.kept; rw [← show S'.kept=S.kept from this]; exact mp
  have:=s.kv p mp'
  exact ⟨this.1,app_at this.2⟩
theorem LSem.keep {S S':Ms} {v:SV} {rows:List SV} {marks:Mk} (s:LSem S rows marks) (b:Bas S) {mode:Nat} {H:List (Nm×List HV)} (sw:Swept (asks S mode H) S' (asks S mode H).want) (hv:v.ok'):LSem (endA (keepT (pushT S' v) v (S'.md + 1))) (rows ++ [v]) marks:=by
 have x:=s.push b sw hv
 refine ⟨x.len,x.val,x.vok,fun p mp=>?_,x.mok⟩
 rcases List.mem_append.mp (show p∈S'.kept ++ [(v,S'.md + 1)] from mp) with q | q
 ·exact x.kv p q
 ·rw [List.mem_singleton.mp q]
  have h1:=(b.swept sw).1
  show 1≤S'.md + 1∧(rows ++ [v])[S'.md + 1 - 1]? = some v
  rw [h1,Nat.add_sub_cancel,← s.len]
  exact ⟨Nat.le_add_left 1 _,by rw [List.getElem?_append_right (Nat.le_refl _),Nat.sub_self]; rfl⟩
structure Nx (S S':Ms) (v:SV) (h h':AH):Prop where
 tmp:∀ o,h (.s 68)=some o→h' (.s 68)=some o
 md:S'.md≤S.md + 1
 same:(keptAt v S.kept).isSome=true→S'.md=S.md∧S'.kept=S.kept
theorem keptAt_mem {v:SV} {t:Nat}:∀ {l:List (SV×Nat)},keptAt v l=some t→(v,t)∈l
 | [],e=>by cases e
 | p :: r,e=>by
  rw [keptAt] at e
  by_cases q:p.1=v
  ·rw [if_pos q] at e
   injection e with e
   rw [← q,← e]; exact List.mem_cons_self
  ·rw [if_neg q] at e; exact List.mem_cons_of_mem _ (keptAt_mem e)
theorem LAt.kept_in {S:Ms} {rows:List SV} {marks:Mk} {many:Int} (A:LAt S rows marks many h) {p:SV×Nat} (mp:p∈S.kept):p.2=0∨In S.ts p.2 :=
 show HvOk S.ts (.ref p.2) from (A.x.roots _ in34).2 _ (List.mem_map_of_mem (f:=fun p:SV×Nat=>HV.ref p.2) mp)
theorem LO.after {S:Ms} {rows:List SV} {marks:Mk} {mode:Nat} {H:List (Nm×List HV)} {h1 h2 h4:AH} {S2:Ms} {many:Int} (L:LO S.cells S.kept rows marks h) (F1:Fw [.s 12,.s 35] h h1) (dn:Dn (asks S mode H) mode h1 h2 S2 many) (F4:Fw [.s 12,.s 35,.s 63] h2 h4):LO S.cells S.kept rows marks h4:=by
 refine ((L.fw F1 fun n mn=>?_).pw dn.fp).fw F4 fun n mn=>?_
 all_goals
  simp only [List.mem_cons,List.not_mem_nil,or_false] at mn
  rcases mn with rfl | rfl | rfl <;> exact ⟨fun k e=>by injection e with e; omega,fun e z=>by cases z⟩
theorem k_kept_after (hm:10≤m) {S:Ms} {v:SV} {rows:List SV} {marks:Mk} {x mode:Nat} {H:List (Nm×List HV)} {h0 h1 h2:AH} {S2:Ms} {many many0:Int} {gave:AVal} (A:LAt S rows marks many0 h0) (hmd:S.md < 249) (hv:v.ok') (hx:x < 3)
  (d:Did (asks S mode H) h1 (.kept v) gave h2 S2 many) (X4:MAt (endA S2) h) (L4:LO S.cells S.kept rows marks h) (hw:h (.s 63)=some (wO many))
  (k:∀ S' rows' many' h',LAt S' rows' marks many' h'→Nx S S' v h h'→K (.bool true) h'):CF w H0 m f__law_kept [.ref (.s 63),.int (Int.ofNat x),gave,v.lkey,.int v.kind,v.enc] h K:=by
 have hk:S.kept.length < 300:=lt_le (Nat.lt_of_le_of_lt A.b.o.kept hmd) rfl
 have hr:rows.length < 300:=by rw [A.s.len]; exact lt_le hmd rfl
 cases d with
 | found e =>
  rename_i t
  refine k_law_kept_found (S:=endA (asks S mode H)) (Nat.le_trans (by decide) hm) X4 hw L4 A.b.ko (SV.ok_of hv) hx A.b.o.cells e (A.kept_in (keptAt_mem e)) hk fun h' F X5 L5=>?_
  exact k _ rows 0 h' ⟨X5,A.b.back.putC,F.old _ _ rfl hw,L5,A.s.back.putC⟩ ⟨fun _ e=>F.old _ _ rfl e,Nat.le_succ _,fun _=>⟨rfl,rfl⟩⟩
 | keep e sw x' F =>
  rename_i S'
  have h1:=(A.b.swept sw).1
  have sem:=A.s.keep A.b sw hv
  have bas:=A.b.keep (s:=S'.md + 1) sw hmd (SV.ok_of hv)
  have ec:S'.cells=S.cells:=sw.cells
  have ek:S'.kept=S.kept:=sw.kept
  have hg:ra (endA (keepT (pushT S' v) v (S'.md + 1))).ts (S'.md + 1)=S'.x.top:=ra_new' x'.hp.ap sw.ok
  rw [← hg]
  have ser:S'.md + 1=1 + rows.length:=by rw [h1,A.s.len]; exact Nat.add_comm _ _
  refine k_law_kept_new (S:=endA (keepT (pushT S' v) v (S'.md + 1))) (t:=⟨S'.md + 1,0,v⟩) (Nat.le_trans (by decide) hm) X4 hw (kp:=S.kept) (by rw [show (endA (keepT (pushT S' v) v (S'.md + 1))).cells=S.cells from ec]; exact L4) A.b.ko (SV.ok_of hv) hx (by rw [show (endA (keepT (pushT S' v) v (S'.md + 1))).cells=S.cells from ec]; exact A.b.o.cells) e (List.mem_append_right _ (List.mem_singleton.mpr rfl)) ser hr hk fun h' F5 X5 L5=>?_
  refine k _ (rows ++ [v]) 1 h' ⟨X5,bas.putC,F5.old _ _ rfl hw,?_,sem.putC⟩ ⟨fun _ e=>F5.old _ _ rfl e,?_,fun z=>?_⟩
  ·have:(putC (endA (keepT (pushT S' v) v (S'.md + 1))) x (S'.md + 1)).kept=S.kept ++ [(v,S'.md + 1)]:=by rw [← ek]; rfl
   rw [this]; exact L5
  ·exact Nat.le_of_eq ((pushT_md (v:=v) sw.ok.made).trans (by rw [h1]))
  ·rw [show keptAt v S.kept=none from e] at z; cases z
theorem k_law_word (hm:44≤m) {S:Ms} {word:Str} {rows:List SV} {marks:Mk} {x mode:Nat} {many0:Int} (A:LAt S rows marks many0 h) (hmd:S.md < 249) (hv:tOk word) (hx:x < 3) (hmo:mode < 3)
  (k:∀ S' rows' many' h',LAt S' rows' marks many' h'→Nx S S' (.txt word) h h'→K (.bool true) h'):CF w H0 m f__law_word [.ref (.s 63),.int (Int.ofNat x),.int (Int.ofNat mode),.str word] h K:=by
 refine cf_run (dN hm rfl) rfl rfl rfl rfl ?_
 walk
 refine k_ask_word (dM hm rfl) A.x A.b hmo A.w hv.2 fun gave h1 h2 h4 S2 many F1 d dn X4 F4 hw4=>?_
 walk
 refine k_kept_after (v:=.txt word) (dM hm rfl) A hmd hv hx d X4 (A.o.after F1 dn F4) hw4 fun S' rows' many' h' A' n=>?_
 walk
 exact k S' rows' many' h' A' ⟨fun o e=>n.tmp o (F4.old _ _ rfl (dn.fp.old _ _ rfl (F1.old _ _ rfl e))),n.md,n.same⟩
theorem k_ask_new (hm:40≤m) {S:Ms} {mode:Nat} {s:Str} {many0:Int} (X:MAt S h) (b:Bas S) (hmo:mode < 3) (hw:h (.s 63)=some (wO many0)) 
  (k:∀ gave h1 h2 h4 S2 many,Fw [.s 12,.s 35] h h1→Did (asks S mode []) h1 (.new (.txt s)) gave h2 S2 many→Dn (asks S mode []) mode h1 h2 S2 many→MAt (endA S2) h4→Fw [.s 12,.s 35,.s 63] h2 h4→h4 (.s 63)=some (wO many)→K gave h4):CF w H0 m f__law_ask [.ref (.s 63),.int (Int.ofNat mode),.int (-1),.str s] h K :=
 k_ask hm .new X b hmo hw k
theorem k_ask_join (hm:44≤m) {S:Ms} {mode j:Nat} {many0:Int} {a b':Nat} {ua ub:Option Str} (ta:TX S.ts a ua) (tb:TX S.ts b' ub) (X:MAt S h) (b:Bas S) (hmo:mode < 3) (hw:h (.s 63)=some (wO many0)) (hj:h (.t j)=some (.list (List.map (HV.enc S.ts) [.ref a,.ref b'])))
  (k:∀ gave h1 h2 h4 S2 many,Fw [.s 12,.s 35] h h1→Did (asks S mode [(.t j,[.ref a,.ref b'])]) h1 (resJoin ua ub a b') gave h2 S2 many→Dn (asks S mode [(.t j,[.ref a,.ref b'])]) mode h1 h2 S2 many→MAt (endA S2) h4→Fw [.s 12,.s 35,.s 63] h2 h4→h4 (.s 63)=some (wO many)→K gave h4):CF w H0 m f__law_ask [.ref (.s 63),.int (Int.ofNat mode),.int 1,.ref (.t j)] h K :=
 k_ask (Nat.le_trans (by decide) hm) (.nat (q:=51) (c:=c_TextConcat) (f:=f_TextConcat_call) (by decide) (by kernel_rfl) (fun x=>x.at (k:=51) rfl) (by kernel_rfl) (by kernel_rfl) (by kernel_rfl) (Nat.le_of_ble_eq_true rfl) (fun v mv=>by rcases List.mem_cons.mp mv with rfl | mv; exact ta.In; rw [List.mem_singleton.mp mv]; exact tb.In) hj fun R e O=>k_Concat (dM hm rfl) R e ta tb O) X b hmo hw k
theorem k_ask_same (hm:44≤m) {S:Ms} {mode j:Nat} {many0:Int} {a b':Nat} {ua ub:Option Str} (ta:TX S.ts a ua) (tb:TX S.ts b' ub) (X:MAt S h) (b:Bas S) (hmo:mode < 3) (hw:h (.s 63)=some (wO many0)) (hj:h (.t j)=some (.list (List.map (HV.enc S.ts) [.ref a,.ref b'])))
  (k:∀ gave h1 h2 h4 S2 many,Fw [.s 12,.s 35] h h1→Did (asks S mode [(.t j,[.ref a,.ref b'])]) h1 (resEq ua ub) gave h2 S2 many→Dn (asks S mode [(.t j,[.ref a,.ref b'])]) mode h1 h2 S2 many→MAt (endA S2) h4→Fw [.s 12,.s 35,.s 63] h2 h4→h4 (.s 63)=some (wO many)→K gave h4):CF w H0 m f__law_ask [.ref (.s 63),.int (Int.ofNat mode),.int 4,.ref (.t j)] h K :=
 k_ask (Nat.le_trans (by decide) hm) (.nat (q:=54) (c:=c_TextSame) (f:=f_TextSame_call) (by decide) (by kernel_rfl) (fun x=>x.at (k:=54) rfl) (by kernel_rfl) (by kernel_rfl) (by kernel_rfl) (Nat.le_of_ble_eq_true rfl) (fun v mv=>by rcases List.mem_cons.mp mv with rfl | mv; exact ta.In; rw [List.mem_singleton.mp mv]; exact tb.In) hj fun R e O=>k_Same (dM hm rfl) R e ta tb O) X b hmo hw k
theorem TY.In {ts:List Th} {s:Nat} {u:Option Str} (a:TY ts s u):s=0∨In ts s:=by
 cases a with
 | zero=>exact .inl rfl
 | some mt e l=>exact .inr ⟨_,mt,rfl⟩
 | knd mt e=>exact .inr ⟨_,mt,rfl⟩
theorem k_ask_equals (hm:44≤m) {S:Ms} {mode j:Nat} {many0:Int} {a b':Nat} {x:Str} {ub:Option Str} (ta:TX S.ts a (some x)) (tb:TY S.ts b' ub) (X:MAt S h) (b:Bas S) (hmo:mode < 3) (hw:h (.s 63)=some (wO many0)) (hj:h (.t j)=some (.list (List.map (HV.enc S.ts) [.ref a,.ref b'])))
  (k:∀ gave h1 h2 h4 S2 many,Fw [.s 12,.s 35] h h1→Did (asks S mode [(.t j,[.ref a,.ref b'])]) h1 (resEq (some x) ub) gave h2 S2 many→Dn (asks S mode [(.t j,[.ref a,.ref b'])]) mode h1 h2 S2 many→MAt (endA S2) h4→Fw [.s 12,.s 35,.s 63] h2 h4→h4 (.s 63)=some (wO many)→K gave h4):CF w H0 m f__law_ask [.ref (.s 63),.int (Int.ofNat mode),.int 5,.ref (.t j)] h K :=
 k_ask (Nat.le_trans (by decide) hm) (.nat (q:=55) (c:=c_TextEquals) (f:=f_TextEquals_call) (by decide) (by kernel_rfl) (fun x=>x.at (k:=55) rfl) (by kernel_rfl) (by kernel_rfl) (by kernel_rfl) (Nat.le_of_ble_eq_true rfl) (fun v mv=>by rcases List.mem_cons.mp mv with rfl | mv; exact ta.In; rw [List.mem_singleton.mp mv]; exact tb.In) hj fun R e O=>k_Equals (dM hm rfl) R e ta tb O) X b hmo hw k
theorem k_ask_hash (hm:44≤m) {S:Ms} {mode j:Nat} {many0:Int} {a:Nat} {ua:Option Str} (ta:TX S.ts a ua) (X:MAt S h) (b:Bas S) (hmo:mode < 3) (hw:h (.s 63)=some (wO many0)) (hj:h (.t j)=some (.list (List.map (HV.enc S.ts) [.ref a])))
  (k:∀ gave h1 h2 h4 S2 many,Fw [.s 12,.s 35] h h1→Did (asks S mode [(.t j,[.ref a])]) h1 (resHash ua) gave h2 S2 many→Dn (asks S mode [(.t j,[.ref a])]) mode h1 h2 S2 many→MAt (endA S2) h4→Fw [.s 12,.s 35,.s 63] h2 h4→h4 (.s 63)=some (wO many)→K gave h4):CF w H0 m f__law_ask [.ref (.s 63),.int (Int.ofNat mode),.int 6,.ref (.t j)] h K :=
 k_ask (Nat.le_trans (by decide) hm) (.nat (q:=56) (c:=c_TextHash) (f:=f_TextHash_call) (by decide) (by kernel_rfl) (fun x=>x.at (k:=56) rfl) (by kernel_rfl) (by kernel_rfl) (by kernel_rfl) (Nat.le_of_ble_eq_true rfl) (fun v mv=>by rw [List.mem_singleton.mp mv]; exact ta.In) hj fun R e O=>k_Hash (dM hm rfl) R e ta O) X b hmo hw k
theorem k_ask_length (hm:44≤m) {S:Ms} {mode j:Nat} {many0:Int} {a:Nat} {ua:Option Str} (ta:TX S.ts a ua) (X:MAt S h) (b:Bas S) (hmo:mode < 3) (hw:h (.s 63)=some (wO many0)) (hj:h (.t j)=some (.list (List.map (HV.enc S.ts) [.ref a])))
  (k:∀ gave h1 h2 h4 S2 many,Fw [.s 12,.s 35] h h1→Did (asks S mode [(.t j,[.ref a])]) h1 (resLen ua) gave h2 S2 many→Dn (asks S mode [(.t j,[.ref a])]) mode h1 h2 S2 many→MAt (endA S2) h4→Fw [.s 12,.s 35,.s 63] h2 h4→h4 (.s 63)=some (wO many)→K gave h4):CF w H0 m f__law_ask [.ref (.s 63),.int (Int.ofNat mode),.int 2,.ref (.t j)] h K :=
 k_ask (Nat.le_trans (by decide) hm) (.nat (q:=52) (c:=c_TextLength) (f:=f_TextLength_call) (by decide) (by kernel_rfl) (fun x=>x.at (k:=52) rfl) (by kernel_rfl) (by kernel_rfl) (by kernel_rfl) (Nat.le_of_ble_eq_true rfl) (fun v mv=>by rw [List.mem_singleton.mp mv]; exact ta.In) hj fun R e O=>k_Length (dM hm rfl) R e ta O) X b hmo hw k
theorem k_ask_part (hm:44≤m) {S:Ms} {mode j:Nat} {many0:Int} {a:Nat} {f c:Int} {ua:Option Str} (ta:TX S.ts a ua) (X:MAt S h) (b:Bas S) (hmo:mode < 3) (hw:h (.s 63)=some (wO many0)) (hj:h (.t j)=some (.list (List.map (HV.enc S.ts) [.ref a,.raw true f,.raw true c])))
  (k:∀ gave h1 h2 h4 S2 many,Fw [.s 12,.s 35] h h1→Did (asks S mode [(.t j,[.ref a,.raw true f,.raw true c])]) h1 (resPart ua a f c) gave h2 S2 many→Dn (asks S mode [(.t j,[.ref a,.raw true f,.raw true c])]) mode h1 h2 S2 many→MAt (endA S2) h4→Fw [.s 12,.s 35,.s 63] h2 h4→h4 (.s 63)=some (wO many)→K gave h4):CF w H0 m f__law_ask [.ref (.s 63),.int (Int.ofNat mode),.int 7,.ref (.t j)] h K :=
 k_ask (Nat.le_trans (by decide) hm) (.nat (q:=57) (c:=c_TextPart) (f:=f_TextPart_call) (by decide) (by kernel_rfl) (fun x=>x.at (k:=57) rfl) (by kernel_rfl) (by kernel_rfl) (by kernel_rfl) (Nat.le_of_ble_eq_true rfl) (fun v mv=>by simp only [List.mem_cons,List.not_mem_nil,or_false] at mv; rcases mv with rfl | rfl | rfl; exact ta.In; all_goals trivial) hj fun R e O=>k_Part (dM hm rfl) R e ta O) X b hmo hw k
theorem k_ask_type (hm:44≤m) {S:Ms} {mode j:Nat} {many0:Int} {c:Int} (X:MAt S h) (b:Bas S) (hmo:mode < 3) (hw:h (.s 63)=some (wO many0)) (hj:h (.t j)=some (.list (List.map (HV.enc S.ts) [.raw false c])))
  (k:∀ gave h1 h2 h4 S2 many,Fw [.s 12,.s 35] h h1→Did (asks S mode [(.t j,[.raw false c])]) h1 (.kept (.knd c)) gave h2 S2 many→Dn (asks S mode [(.t j,[.raw false c])]) mode h1 h2 S2 many→MAt (endA S2) h4→Fw [.s 12,.s 35,.s 63] h2 h4→h4 (.s 63)=some (wO many)→K gave h4):CF w H0 m f__law_ask [.ref (.s 63),.int (Int.ofNat mode),.int 40,.ref (.t j)] h K :=
 k_ask (Nat.le_trans (by decide) hm) (.nat (q:=62) (c:=c_TypeFrom) (f:=f_TypeFrom_call) (by decide) (by kernel_rfl) (fun x=>x.at (k:=62) rfl) (by kernel_rfl) (by kernel_rfl) (by kernel_rfl) (Nat.le_of_ble_eq_true rfl) (fun v mv=>by rw [List.mem_singleton.mp mv]; trivial) hj fun R e O=>k_TypeFrom (dM hm rfl) R e O) X b hmo hw k
theorem LAt.fw {S:Ms} {rows:List SV} {marks:Mk} {many:Int} {h':AH} (A:LAt S rows marks many h) (F:Fw [] h h'):LAt S rows marks many h':=⟨A.x.fw F rfl,A.b,F.old _ _ rfl A.w,A.o.fw F fun n mn=>(by cases mn),A.s⟩
theorem k_new_after (hm:10≤m) {S:Ms} {v:SV} {rows:List SV} {marks:Mk} {x mode:Nat} {H:List (Nm×List HV)} {h0 h1 h2:AH} {S2:Ms} {many many0:Int} {gave:AVal} (A:LAt S rows marks many0 h0) (hmd:S.md < 249) (hv:v.ok') (hx:x < 3)
  (d:Did (asks S mode H) h1 (.new v) gave h2 S2 many) (X4:MAt (endA S2) h) (L4:LO S.cells S.kept rows marks h) (hw:h (.s 63)=some (wO many))
  (k:∀ S' rows' many' h',LAt S' rows' marks many' h'→S'.md≤S.md + 1→K (.bool true) h'):CF w H0 m f__law_new [.ref (.s 63),.int (Int.ofNat x),gave,.int v.kind,v.enc] h K:=by
 have hr:rows.length < 300:=by rw [A.s.len]; exact lt_le hmd rfl
 cases d with
 | new sw x' F =>
  rename_i S'
  have h1:=(A.b.swept sw).1
  have sem:=A.s.push A.b sw hv
  have bas:=A.b.push (v:=v) sw hmd
  have ec:S'.cells=S.cells:=sw.cells
  have ek:S'.kept=S.kept:=sw.kept
  have hg:ra (endA (pushT S' v)).ts (S'.md + 1)=S'.x.top:=ra_new' x'.hp.ap sw.ok
  rw [← hg]
  have ser:S'.md + 1=1 + rows.length:=by rw [h1,A.s.len]; exact Nat.add_comm _ _
  refine k_law_new (S:=endA (pushT S' v)) (t:=⟨S'.md + 1,0,v⟩) (v:=v) (Nat.le_trans (by decide) hm) X4 hw (kp:=S.kept) (by rw [show (endA (pushT S' v)).cells=S.cells from ec]; exact L4) hx (by rw [show (endA (pushT S' v)).cells=S.cells from ec]; exact A.b.o.cells) (List.mem_append_right _ (List.mem_singleton.mpr rfl)) ser hr fun h' F5 X5 L5=>?_
  refine k _ (rows ++ [v]) 1 h' ⟨X5,bas.putC,F5.old _ _ rfl hw,?_,sem.putC⟩ ?_
  ·have:(putC (endA (pushT S' v)) x (S'.md + 1)).kept=S.kept:=ek
   rw [this]; exact L5
  ·exact Nat.le_of_eq ((pushT_md (v:=v) sw.ok.made).trans (by rw [h1]))
theorem k_same_after (hm:10≤m) {S:Ms} {s:Nat} {rows:List SV} {marks:Mk} {x mode:Nat} {H:List (Nm×List HV)} {h0 h1 h2:AH} {S2:Ms} {many many0:Int} {gave:AVal} (A:LAt S rows marks many0 h0) (hs:s=0∨In S.ts s) (hx:x < 3)
  (d:Did (asks S mode H) h1 (.same s) gave h2 S2 many) (X4:MAt (endA S2) h) (L4:LO S.cells S.kept rows marks h) (hw:h (.s 63)=some (wO many))
  (k:∀ S' rows' many' h',LAt S' rows' marks many' h'→S'.md≤S.md + 1→K (.bool true) h'):CF w H0 m f__law_put [.ref (.s 63),.int (Int.ofNat x),gave,.int (Int.ofNat s)] h K:=by
 cases d
 refine k_law_put (S:=endA (asks S mode H)) (Nat.le_trans (by decide) hm) X4 hw L4 hx A.b.o.cells hs fun h' F5 X5 L5=>?_
 exact k _ rows 0 h' ⟨X5,A.b.back.putC,F5.old _ _ rfl hw,L5,A.s.back.putC⟩ (Nat.le_succ _)
theorem k_law_type (hm:48≤m) {S:Ms} {c:Int} {rows:List SV} {marks:Mk} {x mode:Nat} {many0:Int} (A:LAt S rows marks many0 h) (hmd:S.md < 249) (hx:x < 3) (hmo:mode < 3)
  (k:∀ S' rows' many' h',LAt S' rows' marks many' h'→Nx S S' (.knd c) h h'→K (.bool true) h'):CF w H0 m f__law_type [.ref (.s 63),.int (Int.ofNat x),.int (Int.ofNat mode),.int c] h K:=by
 refine cf_run (dN hm rfl) rfl rfl rfl rfl ?_
 walk
 refine no_new A.x.fin (by room) fun j h0 hj F0 ej=>?_
 have A1:=A.fw F0
 walk
 refine k_ask_type (dM hm rfl) A1.x A1.b hmo A1.w ej fun gave h1 h2 h4 S2 many F1 d dn X4 F4 hw4=>?_
 walk
 refine k_kept_after (v:=.knd c) (dM hm rfl) A1 hmd trivial hx d X4 (A1.o.after F1 dn F4) hw4 fun S' rows' many' h' A' n=>?_
 walk
 exact k S' rows' many' h' A' ⟨fun o e=>n.tmp o (F4.old _ _ rfl (dn.fp.old _ _ rfl (F1.old _ _ rfl (F0.old _ _ rfl e)))),n.md,n.same⟩
theorem TX.row {S:Ms} {rows:List SV} {marks:Mk} {a:Nat} {x:Str} (s:LSem S rows marks) (t:TX S.ts a (Option.some x)):1≤a∧rows[a - 1]? = Option.some (.txt x):=by
 rcases t.inv with ⟨_,e⟩ | ⟨t',y,mt,rfl,e2,e3,_⟩
 ·cases e
 ·injection e3 with e3
  have:=s.val t' mt
  rw [e2,← e3] at this
  exact this
theorem row_look {rows:List SV} {a:Nat} {v:SV} (h1:1≤a) (e:rows[a - 1]? = some v):dlk (.int (Int.ofNat a)) (rowsD 1 rows)=some (.tup [.int v.kind,.ref (.g 9 a)]):=by
 have:=rows_at (i:=1) e
 rw [show 1 + (a - 1)=a by omega] at this
 exact this
inductive RX (rows:List SV):Nat→Option Str→Prop
 | zero:RX rows 0 none
 | some {a:Nat} {x:Str} (h1:1≤a) (e:rows[a - 1]? = Option.some (.txt x)) (l:tOk x):RX rows a (some x)
theorem TX.rx {S:Ms} {rows:List SV} {marks:Mk} {a:Nat} {u:Option Str} (s:LSem S rows marks) (t:TX S.ts a u):RX rows a u:=by
 cases u with
 | none =>
  rcases t.inv with ⟨rfl,_⟩ | ⟨_,_,_,_,_,e,_⟩
  ·exact .zero
  ·cases e
 | some x=>exact .some (t.row s).1 (t.row s).2 t.ok
theorem k_letters (hm:2≤m) {cl:List Nat} {kp:List (SV×Nat)} {rows:List SV} {marks:Mk} {many:Int} {a:Nat} {u:Option Str} (hw:h (.s 63)=some (wO many)) (L:LO cl kp rows marks h) (ta:RX rows a u) (k:K (oS u) h):CF w H0 m f__law_letters [.ref (.s 63),.int (Int.ofNat a)] h K:=by
 have hr:=L.rws
 refine cf_run (dN hm rfl) rfl rfl rfl rfl ?_
 cases ta with
 | zero =>
  walk
  all_goals exact k
 | some h1 h2 l =>
  have h3:=L.slots _ _ h2
  rw [show a - 1 + 1=a by omega] at h3
  unfold SV.enc at h3
  walk
  refine vi_f (by show decide ((Int.ofNat a)=0)=false; exact decide_eq_false (by show (a:Int)≠0; omega)) ?_
  walk
  refine gi_dict hr rfl (row_look h1 h2) ?_
  walk
  all_goals exact k
theorem k_law_letters (hm:2≤m) {S:Ms} {rows:List SV} {marks:Mk} {many:Int} {a:Nat} {u:Option Str} (A:LAt S rows marks many h) (ta:TX S.ts a u) (k:K (oS u) h):CF w H0 m f__law_letters [.ref (.s 63),.int (Int.ofNat a)] h K :=
 k_letters hm A.w A.o (ta.rx A.s) k
theorem TY.inv {ts:List Th} {s:Nat} {u:Option Str} (a:TY ts s u):(s=0∧u=Option.none)∨(∃ t x,t∈ts∧t.ser=s∧t.val = .txt x∧u=Option.some x∧tOk x)∨∃ t k,t∈ts∧t.ser=s∧t.val = .knd k∧u=Option.none:=by
 cases a with
 | zero=>exact .inl ⟨rfl,rfl⟩
 | some mt e l=>exact .inr (.inl ⟨_,_,mt,rfl,e,rfl,l⟩)
 | knd mt e=>exact .inr (.inr ⟨_,_,mt,rfl,e,rfl⟩)
theorem cell_ty {S:Ms} {rows:List SV} {marks:Mk} {a:Nat} (s:LSem S rows marks) (ha:a=0∨In S.ts a):∃ u,TY S.ts a u:=by
 rcases ha with rfl | ⟨t,mt,rfl⟩
 ·exact ⟨_,.zero⟩
 ·cases q:t.val with
  | knd c=>exact ⟨_,.knd mt q⟩
  | txt x =>
   have:=(s.val t mt).2
   have:=s.vok _ (List.mem_of_getElem? this)
   rw [q] at this
   exact ⟨_,.some mt q this⟩
theorem k_law_plain (hm:2≤m) {S:Ms} {rows:List SV} {marks:Mk} {many:Int} {a:Nat} {u:Option Str} (A:LAt S rows marks many h) (ta:TY S.ts a u) (k:∀ p,TX S.ts p u→(p=a∨p=0∧u=none)→K (.int (Int.ofNat p)) h):CF w H0 m f__law_plain [.ref (.s 63),.int (Int.ofNat a)] h K:=by
 have hw:=A.w
 have hr:=A.o.rws
 refine cf_run (dN hm rfl) rfl rfl rfl rfl ?_
 rcases ta.inv with ⟨rfl,rfl⟩ | ⟨t,x,mt,rfl,e,rfl,ok⟩ | ⟨t,c,mt,rfl,e,rfl⟩
 ·walk
  exact k 0 .zero (.inl rfl)
 ·have hv:=A.s.val t mt
  rw [e] at hv
  walk
  refine vi_t (decide_eq_true (by show (t.ser:Int) > 0; omega)) ?_
  walk
  refine gi_dict hr rfl (row_look hv.1 hv.2) ?_
  walk
  exact k _ (.some mt e ok) (.inl rfl)
 ·have hv:=A.s.val t mt
  rw [e] at hv
  walk
  refine vi_t (decide_eq_true (by show (t.ser:Int) > 0; omega)) ?_
  walk
  refine gi_dict hr rfl (row_look hv.1 hv.2) ?_
  walk
  exact k 0 .zero (.inr ⟨rfl,rfl⟩)
noncomputable def wrL:Int→List Th→List (AVal×AVal)
 | _,[]=>[]
 | a,t :: r=>(.int t.ser,.int a) :: wrL (a + 3) r
noncomputable def whD (ts:List Th):List (AVal×AVal):=(.int 0,.int 0) :: wrL 16 ts
theorem wrL_snoc {t:Th}:∀ {a:Int} {ts:List Th},wrL a (ts ++ [t])=wrL a ts ++ [(.int t.ser,.int (a + 3 * ts.length))]
 | a,[]=>by simp [wrL]
 | a,u :: r=>by
  rw [List.cons_append,wrL,wrL,wrL_snoc,List.cons_append,List.length_cons]
  congr 5
  omega
theorem wrL_len:∀ {a:Int} {ts:List Th},(wrL a ts).length=ts.length
 | _,[]=>rfl
 | _,_ :: r=>by rw [wrL,List.length_cons,List.length_cons,wrL_len]
theorem wrL_mem:∀ {a:Int} {ts:List Th},∀ p∈wrL a ts,∃ t∈ts,p.1 = .int t.ser
 | _,[],p,m=>by cases m
 | a,t :: r,p,m=>by
  rcases List.mem_cons.mp m with rfl | m
  ·exact ⟨t,List.mem_cons_self,rfl⟩
  ·obtain ⟨u,mu,e⟩:=wrL_mem p m
   exact ⟨u,List.mem_cons_of_mem _ mu,e⟩
theorem dput_newN {a:Int} {u:AVal}:∀ {M:List (AVal×AVal)},(∀ p∈M,∃ b,p.1 = .int b∧b≠a)→dput (.int a) u M=M ++ [(.int a,u)]
 | [],_=>rfl
 | (k,v) :: r,e=>by
  obtain ⟨b,e1,e2⟩:=e (k,v) List.mem_cons_self
  have e1:k = .int b:=e1
  rw [e1,dput_int,if_neg e2,dput_newN fun p m=>e p (List.mem_cons_of_mem _ m)]; rfl
theorem wrL_look:∀ {a:Int} {ts:List Th} {s:Nat},In ts s→dlk (.int (Int.ofNat s)) (wrL a ts)=some (.int (addrOf a ts s))
 | _,[],s,⟨t,m,_⟩=>by cases m
 | a,t :: r,s,⟨u,mu,e⟩=>by
  rw [wrL,dlk_int,addrOf]
  by_cases q:t.ser=s
  ·rw [if_pos q,if_pos (by rw [q]; rfl)]
  ·rw [if_neg q,if_neg (by intro z; exact q (Int.ofNat.inj z))]
   rcases List.mem_cons.mp mu with z | mu
   ·rw [← z] at q; exact absurd e q
   ·exact wrL_look ⟨u,mu,e⟩
theorem whD_look {ts:List Th} {s:Nat} (hs:s=0∨In ts s):dlk (.int (Int.ofNat s)) (whD ts)=some (.int (ra ts s)):=by
 unfold whD
 rw [dlk_int]
 by_cases q:s=0
 ·rw [q,ra_zero]; rfl
 ·rw [if_neg (by intro z; exact q (Int.ofNat.inj z).symm),ra_in q,wrL_look (hs.resolve_left q)]
theorem k_law_where (hm:2≤m) {S:Ms} (X:MAt S h) (hl:S.ts.length < 300) (k:∀ h' j,Fw [] h h'→h (.t j)=none→h' (.t j)=some (.dict (whD S.ts))→K (.ref (.t j)) h'):CF w H0 m f__law_where [.ref (.s 14)] h K:=by
 have f14:=X.m
 unfold mO at f14
 have hh:=X.hp.hp
 unfold Hp.o heapO at hh
 have ht:=X.hp.things
 refine cf_run (dN hm rfl) rfl rfl rfl rfl ?_
 walk
 obtain ⟨j,hj⟩:=X.fin.new
 refine no_dict (.t j) (by show 1≤1000000; decide) hj ?_
 have F1:Fw [] h (hset h (.t j) (.dict [(.int 0,.int 0)])):=(Fw.refl X.fin).new hj
 have e1:=hset_at (h:=h) (n:=.t j) (o:=.dict [(.int 0,.int 0)])
 show SQ _ _ _ (hset h (.t j) (.dict [(.int 0,.int 0)])) _
 generalize hset h (.t j) (.dict [(.int 0,.int 0)])=h1 at *
 have f14':=F1.old _ _ rfl f14
 have hh':=F1.old _ _ rfl hh
 have ht':=F1.old _ _ rfl ht
 walk
 refine fr_each ["t"] (fun t:Th=>.ref (.th t.ser)) S.ts rfl (I:=fun d _ _ h2=>Fw [.t j] h1 h2∧h2 (.t j)=some (.dict (whD d))) (fun _ _ _ _ i=>i.1.old _ _ (nin_new hj ht) ht')
  (fun d t l loc1 h2 e L i K' kn=>?_) (fun loc1 h2 L i=>?_) ⟨Fw.refl F1.fin,e1⟩
 ·obtain ⟨F2,e2⟩:=i
  have mt:=mem_mid e
  have et:=ths_at X.hp.ap X.hp.ths mt
  have et:=F2.old _ _ (nin_new hj et.1) (F1.old _ _ rfl et.1)
  rw [show addrOf 16 S.ts t.ser=16 + 3 * d.length by rw [e]; exact addr_split (e ▸ X.hp.ap)] at et
  unfold thO at et
  walk
  refine si_dict e2 rfl (by unfold whD; rw [List.length_cons,wrL_len]; exact Nat.lt_trans (Nat.succ_lt_succ (mid_lt e hl)) (by decide)) ?_
  rw [dput_newN fun p mp=>?_]
  ·walk
   refine kn _ _ (by k_ne) ⟨F2.set (by room),?_⟩
   rw [hset_at]
   unfold whD
   rw [wrL_snoc]; rfl
  ·unfold whD at mp
   rcases List.mem_cons.mp mp with rfl | mp
   ·exact ⟨0,rfl,fun z=>apart_ne0 X.hp.ap t mt (Int.ofNat.inj z).symm⟩
   ·obtain ⟨u,mu,e3⟩:=wrL_mem p mp
    exact ⟨u.ser,e3,fun z=>(apart_app (e ▸ X.hp.ap)).2.2 u mu t List.mem_cons_self (Int.ofNat.inj z)⟩
 ·obtain ⟨F2,e2⟩:=i
  walk
  refine k _ j ⟨fun n o i z=>F2.old _ _ (nin_new hj z) (F1.old _ _ i z),fun n a b=>?_,F2.fin⟩ hj e2
  rw [F2.nt n a (nin_sub' fun q mq z=>by rw [List.mem_singleton.mp mq] at z; rw [z] at a; exact ft a.symm)]
  exact F1.nt n a b
theorem str_nil {x:Str} (e:x.length=0):x=eS:=by
 obtain ⟨⟨l⟩⟩:=x
 have:l=[]:=List.length_eq_zero_iff.mp e
 subst this
 rfl
theorem or_str {u:Option Str} {v0:AVal} {X:AH→Prop} (hv:oS u=v0) (hu:∀ x,u=some x→x.length < 1000000) (hX:K (.str eS) h→X h) (k:K (.str (u.getD eS)) h):TV v0 h fun b h2=>VI b (K v0 h2) (X h2):=by
 subst hv
 cases u with
 | none=>exact tv_none (vi_f rfl (hX k))
 | some x =>
  refine tv_str (hu x rfl) (vi (fun _=>k) fun q=>hX ?_)
  have e:x.length=0:=by
   have:((x.length:Int) != 0)=false:=q
   simp at this; exact this
  rw [← str_nil e]; exact k
theorem emp_eq {u:Option Str}:emp u=sq (u.getD eS) eS:=by
 cases u with
 | none=>exact (sq_iff.mpr rfl).symm
 | some x=>rfl
theorem ok_getD {ts:List Th} {a:Nat} {u:Option Str} (t:TX ts a u):tOk (u.getD eS):=by
 cases u with
 | none=>exact ⟨by decide,so_eS⟩
 | some x=>exact t.ok
theorem ok_app {x y:Str} (hx:PyData.strOk x=true) (hy:PyData.strOk y=true) (hl:x.length + y.length≤8):tOk (x ++ y):=by
 have e:(x ++ y).cps=x.cps ++ y.cps:=rfl
 refine ⟨?_,?_⟩
 ·show (x ++ y).cps.size≤8
  rw [e,Array.size_append]; exact hl
 ·unfold PyData.strOk at *
  rw [e,Array.all_append,hx,hy]; rfl
theorem k_law_join (hm:48≤m) {S:Ms} {rows:List SV} {marks:Mk} {x mode j a b':Nat} {ua ub:Option Str} {many0:Int} (A:LAt S rows marks many0 h) (hmd:S.md < 249) (hx:x < 3) (hmo:mode < 3) (ta:TX S.ts a ua) (tb:TX S.ts b' ub) (hl:(ua.getD eS).length + (ub.getD eS).length≤8)
  (hj:h (.t j)=some (.list [.tup [.int 4,.int (ra S.ts a)],.tup [.int 4,.int (ra S.ts b')]]))
  (k:∀ S' rows' many' h',LAt S' rows' marks many' h'→S'.md≤S.md + 1→K (.bool true) h'):CF w H0 m f__law_join [.ref (.s 63),.int (Int.ofNat mode),.int (Int.ofNat a),.int (Int.ofNat b'),.int (Int.ofNat x),.ref (.t j)] h K:=by
 refine cf_run (dN hm rfl) rfl rfl rfl rfl ?_
 walk
 refine k_ask_join (dM hm rfl) ta tb A.x A.b hmo A.w hj fun gave h1 h2 h4 S2 many F1 d dn X4 F4 hw4=>?_
 have L4:=A.o.after F1 dn F4
 have la:∀ y,ua=some y→y.length < 1000000:=fun y e=>le_lt (show TX S.ts a (some y) from e ▸ ta).len rfl
 have lb:∀ y,ub=some y→y.length < 1000000:=fun y e=>le_lt (show TX S.ts b' (some y) from e ▸ tb).len rfl
 have oa:=ok_getD ta
 have ob:=ok_getD tb
 walk
 refine k_letters (dM hm rfl) hw4 L4 (ta.rx A.s) ?_
 generalize hva:oS ua=va
 apply or_str hva la
 ·intro kk
  apply e_or1
  apply e_str
  exact kk
 walk
 refine k_letters (dM hm rfl) hw4 L4 (tb.rx A.s) ?_
 generalize hvb:oS ub=vb
 apply or_str hvb lb
 ·intro kk
  apply e_or1
  apply e_str
  exact kk
 cases qa:emp ua with
 | true =>
  have qa':=qa
  rw [emp_eq] at qa'
  cases qb:emp ub with
  | true =>
   have qb':=qb
   rw [emp_eq] at qb'
   simp only [resJoin,qa,qb,cond_true,cond_false] at d
   walk
   refine cm_eq (eqV_str oa.2 so_eS) ?_
   walk
   refine vi_t qa' ?_
   walk
   refine cm_eq (eqV_str ob.2 so_eS) ?_
   walk
   refine vi_t qb' ?_
   walk
   refine k_kept_after (v:=.txt eS) (dM hm rfl) A hmd ⟨by decide,so_eS⟩ hx d X4 L4 hw4 fun S' rows' many' h' A' n=>?_
   walk
   exact k S' rows' many' h' A' n.md
  | false =>
   have qb':=qb
   rw [emp_eq] at qb'
   simp only [resJoin,qa,qb,cond_true,cond_false] at d
   walk
   refine cm_eq (eqV_str oa.2 so_eS) ?_
   walk
   refine vi_t qa' ?_
   walk
   refine cm_eq (eqV_str ob.2 so_eS) ?_
   walk
   refine vi_f qb' ?_
   walk
   refine cm_eq (eqV_str oa.2 so_eS) ?_
   walk
   refine vi_t qa' ?_
   walk
   refine k_same_after (dM hm rfl) A tb.In hx d X4 L4 hw4 fun S' rows' many' h' A' n=>?_
   walk
   exact k S' rows' many' h' A' n
 | false =>
  have qa':=qa
  rw [emp_eq] at qa'
  cases qb:emp ub with
  | true =>
   have qb':=qb
   rw [emp_eq] at qb'
   simp only [resJoin,qa,qb,cond_true,cond_false] at d
   walk
   refine cm_eq (eqV_str oa.2 so_eS) ?_
   walk
   refine vi_f qa' ?_
   walk
   refine cm_eq (eqV_str oa.2 so_eS) ?_
   walk
   refine vi_f qa' ?_
   walk
   refine cm_eq (eqV_str ob.2 so_eS) ?_
   walk
   refine vi_t qb' ?_
   walk
   refine k_same_after (dM hm rfl) A ta.In hx d X4 L4 hw4 fun S' rows' many' h' A' n=>?_
   walk
   exact k S' rows' many' h' A' n
  | false =>
   have qb':=qb
   rw [emp_eq] at qb'
   simp only [resJoin,qa,qb,cond_true,cond_false] at d
   walk
   refine cm_eq (eqV_str oa.2 so_eS) ?_
   walk
   refine vi_f qa' ?_
   walk
   refine cm_eq (eqV_str oa.2 so_eS) ?_
   walk
   refine vi_f qa' ?_
   walk
   refine cm_eq (eqV_str ob.2 so_eS) ?_
   walk
   refine vi_f qb' ?_
   walk
   refine bi_str (by omega) ?_
   walk
   refine k_new_after (v:=.txt (ua.getD eS ++ ub.getD eS)) (dM hm rfl) A hmd (ok_app oa.2 ob.2 hl) hx d X4 L4 hw4 fun S' rows' many' h' A' n=>?_
   walk
   exact k S' rows' many' h' A' n
theorem MAt.rethrow {S:Ms} {e:Nat} {l:List AVal} {h':AH} (x:MAt S h) (F:Fw [.s 14,.g 4 e] h h') (e1:h' (.s 14)=some (mO e S.hd)) (e2:h' (.g 4 e)=some (.list l)):MAt { S with eTh:=e,thrown:=l } h':=by
 have roots:LsAt h' S.ts (rootsL { S with eTh:=e,thrown:=l }):=fun p mp=>by
  have mp':p∈rootsL S:=mp
  have hp:=x.roots p mp'
  have n1:=pK_s x (k:=14) rfl
  have n2:=pK_g x (k:=4) (e:=e) rfl
  unfold pK at n1 n2
  rw [Bool.and_eq_true] at n1 n2
  refine ⟨F.old _ _ (nin2 (fun z=>?_) fun z=>?_) hp.1,hp.2⟩
  ·exact nin_ne n1.2 (List.mem_map_of_mem (f:=fun p:Nm×List HV=>p.1) mp') z.symm
  ·exact nin_ne n2.2 (List.mem_map_of_mem (f:=fun p:Nm×List HV=>p.1) mp') z.symm
 refine ⟨x.fix.mono fun p mp o q=>F.old _ _ (nin2 (fun z=>?_) fun z=>by cases z) q,e1,e2,F.old _ _ rfl x.interned,F.old _ _ rfl x.held,roots,⟨F.old _ _ rfl x.hp.hp,F.old _ _ rfl x.hp.things,F.old _ _ rfl x.hp.at_,F.old _ _ rfl x.hp.cards,F.old _ _ rfl x.hp.finals,F.old _ _ rfl x.hp.ready,ThsAt.keep (fun t _ o q=>F.old _ _ rfl q) (fun t mt o q=>F.old _ _ rfl q) x.hp.ths,x.hp.ap⟩,fun e=>(x.hdT e).fw F rfl rfl,fun e=>?_,F.fin,x.heldT,x.heldN,x.sers,fun s q=>?_⟩
 ·have:=List.all_eq_true.mp fix_12 p mp
  injection z with z
  rw [z] at this; cases this
 ·have:=x.hdF e
  exact ⟨by rw [F.nt _ rfl rfl]; exact this.1,by rw [F.nt _ rfl rfl]; exact this.2⟩
 ·have:=x.frs s q
  exact ⟨by rw [F.nt _ rfl rfl]; exact this.1,by rw [F.nt _ rfl rfl]; exact this.2⟩
theorem eqV_one {a b:Nm} {x y:Int} (ha:h a=some (.list [.int x])) (hb:h b=some (.list [.int y])):eqV h (.ref a) (.ref b)=some (decide (x=y)):=by
 rw [eqV_of (toPy_ref ha rfl) (toPy_ref hb rfl)]
 show some (decide (x=y) && true)=_
 rw [Bool.and_true]
theorem did_throw {S:Ms} {mode:Nat} {H:List (Nm×List HV)} {t:Int} {gave:AVal} {h1 h2:AH} {S2:Ms} {many:Int} (b:Bas S) (d:Did (asks S mode H) h1 (.throw t) gave h2 S2 many):A3 (gave = .int (-2)) (many=0) (S2={ asks S mode H with thrown:=[.int t] }):=by
 cases d
 exact ⟨rfl,rfl,by show ({ asks S mode H with thrown:=S.thrown ++ [.int t] }:Ms)=_; rw [b.th]; rfl⟩
theorem part_end {S:Ms} {rows:List SV} {marks:Mk} {many many0:Int} {mode e:Nat} {H:List (Nm×List HV)} {l:List AVal} {h0 h4 h':AH} (A:LAt S rows marks many0 h0) (X4:MAt (endA { asks S mode H with thrown:=l }) h4) (L4:LO S.cells S.kept rows marks h4) (hw4:h4 (.s 63)=some (wO many)) (F:Fw [.s 14,.g 4 e] h4 h') (e1:h' (.s 14)=some (mO e S.hd)) (e2:h' (.g 4 e)=some (.list [])) :
  LAt { endA (asks S mode H) with eTh:=e,thrown:=[] } rows marks many h' :=
 ⟨X4.rethrow F e1 e2,⟨⟨A.b.o.srt,A.b.o.top,A.b.o.made,A.b.o.len,A.b.o.gen,A.b.o.cells,A.b.o.kept,Nat.zero_le _,Nat.zero_le _⟩,A.b.ko,A.b.hb,rfl,rfl,A.b.f0,A.b.f1⟩,F.old _ _ rfl hw4,L4.fw F (fun n mn=>by
  simp only [List.mem_cons,List.not_mem_nil,or_false] at mn
  rcases mn with rfl | rfl <;> exact ⟨fun k e=>by cases e <;> omega,fun e z=>by cases z⟩),⟨A.s.len,A.s.val,A.s.vok,A.s.kv,A.s.mok⟩⟩
theorem ok_cut {y:Str} {f c:Int} (hy:tOk y):tOk (cut y f c):=by
 refine ⟨?_,?_⟩
 ·have h1:(cut y f c).length=(y.cps.extract f.toNat (f + c).toNat).size:=rfl
  have h2:y.length=y.cps.size:=rfl
  have:=hy.1
  rw [h1,Array.size_extract]
  omega
 ·have:=hy.2
  unfold PyData.strOk at *
  rw [show (cut y f c).cps=y.cps.extract f.toNat (f + c).toNat from rfl]
  rw [Array.all_eq_true] at *
  intro i hi
  rw [Array.getElem_extract]
  exact this _ _
theorem e_orS {j:Nat} {c:Cx} {loc:Loc} {x:Str} {p p2 q:Pos} {u:Option Str} (h1:(sq x "__debug__",kdOf x c.sc.names)=(false,some .local)) (h2:lk x loc=some (oS u)) (hu:∀ y,u=some y→y.length < 1000000) (k:K (.str (u.getD eS)) h):E c loc (.BoolOp .Or [.Name x p,.Constant (.str "") j p2] q) h K:=by
 refine e_or (e_local h1 h2 ?_)
 cases u with
 | none=>exact tv_none (vi_f rfl (e_or1 (e_str k)))
 | some y =>
  refine tv_str (hu y rfl) (vi (fun _=>k) fun q=>e_or1 (e_str ?_))
  have e:y.length=0:=by have:((y.length:Int) != 0)=false:=q; simpa using this
  have:K (.str y) h:=k
  rw [str_nil e] at this; exact this
theorem t_or_share {c:Cx} {loc:Loc} {e:Expr} {r:List Expr} {p:Pos} {KB:Bool→AH→Prop} (bad:Prop) (blk:bad→KB true h) (k:∀ KB':Bool→AH→Prop,(bad→KB' true h)→(∀ h2,KB false h2→KB' false h2)→T c loc (.BoolOp .Or (e :: r) p) h KB'):T c loc (.BoolOp .Or (e :: r) p) h KB:=k KB blk fun _ x=>x
theorem k_law_part (hm:48≤m) {S:Ms} {rows:List SV} {marks:Mk} {x mode a:Nat} {ua:Option Str} {many0 z:Int} (A:LAt S rows marks many0 h) (hmd:S.md < 249) (hx:x < 3) (hmo:mode < 3) (ta:TX S.ts a ua)
  (k:∀ S' rows' many' h',LAt S' rows' marks many' h'→S'.md≤S.md + 1→K (.bool true) h'):CF w H0 m f__law_part [.ref (.s 63),.int (Int.ofNat mode),.int (Int.ofNat a),.int z,.int (Int.ofNat x),.tup [.int 4,.int (ra S.ts a)]] h K:=by
 have hw:=A.w
 refine cf_run (dN hm rfl) rfl rfl rfl rfl ?_
 walk
 refine k_law_letters (dM hm rfl) A ta ?_
 have la:∀ y,ua=some y→y.length < 1000000:=fun y e=>le_lt (show TX S.ts a (some y) from e ▸ ta).len rfl
 have lg:=(ok_getD ta).1
 refine s_asg (fun _ _ _=>rfl) (by kernel_rfl) (e_bin (e_blt rfl (by kernel_rfl) rfl (el_cons (e_orS (u:=ua) (by kernel_rfl) (by k_ne) la ?_))))
 walk
 refine bl_len_str (le_lt lg rfl) ?_
 walk
 have sp:((ua.getD eS).length:Int) + 3≠0:=by omega
 refine bi_mod sp ?_
 walk
 refine bi_fdiv (by omega) ?_
 walk
 refine bi_mod sp ?_
 walk
 generalize z.fmod (((ua.getD eS).length:Int) + 3) - 1=begin
 generalize (z.fdiv (((ua.getD eS).length:Int) + 3)).fmod (((ua.getD eS).length:Int) + 3) - 1=count
 obtain ⟨j,hj⟩:=A.x.fin.new
 refine no_list (.t j) (by room) hj ?_
 have A1:=A.fw ((Fw.refl A.x.fin).new (o:=.list [.tup [.int 4,.int (ra S.ts a)],.tup [.int 1,.int begin],.tup [.int 1,.int count]]) hj)
 have ej:=hset_at (h:=h) (n:=.t j) (o:=.list [.tup [.int 4,.int (ra S.ts a)],.tup [.int 1,.int begin],.tup [.int 1,.int count]])
 generalize hset h (.t j) (.list [.tup [.int 4,.int (ra S.ts a)],.tup [.int 1,.int begin],.tup [.int 1,.int count]])=h0 at *
 walk
 refine k_ask_part (dM hm rfl) ta A1.x A1.b hmo A1.w ej fun gave h1 h2 h4 S2 many F1 d dn X4 F4 hw4=>?_
 have L4:=A1.o.after F1 dn F4
 refine s_if (t_or_share (∃ t,resPart ua a begin count = .throw t∧t=if ua.isNone then 21 else 32) (fun ⟨t,e,et⟩=>?_) fun KB' thr kf=>?_)
 ·rw [e] at d
  obtain ⟨rfl,rfl,rfl⟩:=did_throw A1.b d
  have g14:=X4.m
  unfold mO at g14
  have gth:h4 (.g 4 S.eTh)=some (.list [.int t]):=X4.thrown
  refine vi_t rfl ?_
  walk
  refine vi_e (v:=.int t) ?_ (fun q K k=>?_) fun q K k=>?_
  ·walk
   refine no_new X4.fin (by room) fun j2 h5 hj2 F5 e5=>?_
   have X5:=X4.fw F5 rfl
   have L5:=L4.fw F5 fun n mn=>by cases mn
   have hw5:=F5.old _ _ rfl hw4
   have g14':=F5.old _ _ rfl g14
   have gth':=F5.old _ _ rfl gth
   refine cm_eq ((eqV_one gth' e5).trans (congrArg some (decide_eq_true rfl))) ?_
   walk
   obtain ⟨e,he⟩:=X5.fin.newG 4
   refine no_list (.g 4 e) (by room) he ?_
   have g14b:=hset_off (o':=.list []) (show Nm.eqb (.s 14) (.g 4 e)=false from rfl) g14'
   have hwb:=hset_off (o':=.list []) (show Nm.eqb (.s 63) (.g 4 e)=false from rfl) hw5
   walk
   have F6:∀ {o:AObj},Fw [.s 14,.g 4 e] h5 (hset (hset h5 (.g 4 e) (.list [])) (.s 14) o):=((Fw.refl X5.fin).set (n:=.g 4 e) (by room)).set (n:=.s 14) (by room)
   exact k _ rows _ _ (part_end A1 X5 L5 hw5 F6 hset_at (hset_off rfl hset_at)) (Nat.le_succ _)
  ·cases ua with
   | none=>rw [et] at k; walk; exact k
   | some y=>exact ft q
  ·cases ua with
   | none=>exact ft q.symm
   | some y=>rw [et] at k; walk; exact k
 cases ua with
 | none =>
  walk
  exact thr ⟨21,rfl,rfl⟩
 | some y =>
  have ly:=ta.len
  have oy:=ta.ok
  have lg:y.length≤8:=lg
  dsimp only [oS]
  walk
  refine vi (fun q=>?_) fun q=>?_
  ·have q1:begin < 0:=of_decide_eq_true q
   exact thr ⟨32,if_pos (show begin < 0∨count < 0∨begin + count > y.length from .inl q1),rfl⟩
  have q1:¬ begin < 0:=of_decide_eq_false q
  walk
  refine vi (fun q=>?_) fun q=>?_
  ·have q2:count < 0:=of_decide_eq_true q
   exact thr ⟨32,if_pos (show begin < 0∨count < 0∨begin + count > y.length from .inr (.inl q2)),rfl⟩
  have q2:¬ count < 0:=of_decide_eq_false q
  walk
  refine bl_len_str (le_lt lg rfl) ?_
  walk
  refine vi (fun q=>?_) fun q=>?_
  ·have q3:begin + count > y.length:=of_decide_eq_true q
   exact thr ⟨32,if_pos (show begin < 0∨count < 0∨begin + count > y.length from .inr (.inr q3)),rfl⟩
  have q3:¬ begin + count > y.length:=of_decide_eq_false q
  walk
  refine kf _ ?_
  simp only [resPart,if_neg (show ¬ (begin < 0∨count < 0∨begin + count > y.length) by omega)] at d
  walk
  refine vi (fun q=>?_) fun q=>?_
  ·have q4:count=0:=of_decide_eq_true q
   simp only [if_pos q4] at d
   walk
   refine k_kept_after (v:=.txt eS) (dM hm rfl) A1 hmd ⟨by decide,so_eS⟩ hx d X4 L4 hw4 fun S' rows' many' h' A' n=>?_
   walk
   exact k S' rows' many' h' A' n.md
  have q4:¬ count=0:=of_decide_eq_false q
  simp only [if_neg q4] at d
  walk
  refine bl_len_str (le_lt lg rfl) ?_
  walk
  refine vi (fun q=>?_) fun q=>?_
  ·have q5:count=y.length:=of_decide_eq_true q
   simp only [if_pos q5] at d
   walk
   refine k_same_after (dM hm rfl) A1 ta.In hx d X4 L4 hw4 fun S' rows' many' h' A' n=>?_
   walk
   exact k S' rows' many' h' A' n
  have q5:¬ count=y.length:=of_decide_eq_false q
  simp only [if_neg q5] at d
  obtain ⟨i1,rfl⟩:=Int.eq_ofNat_of_zero_le (a:=begin) (Int.not_lt.mp q1)
  obtain ⟨i2,rfl⟩:=Int.eq_ofNat_of_zero_le (a:=count) (Int.not_lt.mp q2)
  walk
  have hyl:y.length=y.cps.size:=rfl
  refine sl_str (i:=i1) (j:=i1 + i2) (Nat.le_add_right _ _) (by omega) (by omega) ?_
  walk
  refine k_new_after (v:=.txt (cut y i1 i2)) (dM hm rfl) A1 hmd (ok_cut oy) hx d X4 L4 hw4 fun S' rows' many' h' A' n=>?_
  walk
  exact k S' rows' many' h' A' n
noncomputable def gone (S:Ms) (g:Int) (x':Hp):Ms:={ S with x:=x',ts:=aft g (rootsL S) S.ts,hd:=true }
theorem LAt.gone {S:Ms} {rows:List SV} {marks:Mk} {many:Int} {g:Int} {x':Hp} {h':AH} (A:LAt S rows marks many h) (X:MAt (gone S g x') h') (F:Fp (pO S) h h') (e1:x'.top=16 + 3 * (aft g (rootsL S) S.ts).length) (e2:x'.fresh=0) (e3:x'.made=S.x.made):LAt (gone S g x') rows marks many h':=by
 have em:(Mine.gone S g x').md=S.md:=by show x'.made.toNat=S.x.made.toNat; rw [e3]
 have F':Fp (pW S) h h':=F.sub fun n q=>pW_pO A.x q
 refine ⟨X,⟨A.b.o.aft e1 e3,A.b.ko,by rw [em]; exact A.b.hb,A.b.th,A.b.he,by show 0≤x'.fresh; omega,?_⟩,F'.old _ _ rfl A.w,A.o.pw F',⟨by rw [em]; exact A.s.len,fun t mt=>?_,A.s.vok,A.s.kv,A.s.mok⟩⟩
 ·show x'.fresh≤3 * x'.made
  have:=A.b.o.made
  omega
 ·obtain ⟨u,mu,e4,e5⟩:=aft_val t mt
  have:=A.s.val u mu
  rw [← e4,← e5]; exact this
theorem refs_len {ts:List Th}:(refs ts).length=ts.length:=by simp [refs]
theorem k_law_gone (hm:26≤m) {S:Ms} {rows:List SV} {marks:Mk} {many g:Int} (A:LAt S rows marks many h)
  (k:∀ h' x',LAt (gone S g x') rows marks many h'→x'.made=S.x.made→K (.bool true) h'):CF w H0 m f__law_gone [.ref (.s 63),.int g] h K:=by
 have hw:=A.w
 have f14:=A.x.m
 unfold mO at f14
 have hh:=A.x.hp.hp
 unfold Hp.o heapO at hh
 have ht:=A.x.hp.things
 obtain ⟨t1,t2,t3⟩:=A.b.o.tots A.b.hb
 obtain ⟨o1,y1,sp⟩:=split_of (g:=g) A.b.o.srt
 refine cf_run (dN hm rfl) rfl rfl rfl rfl ?_
 walk
 refine k_collect_for (dM hm rfl) A.x sp t3 t1 t2 fun h' x' a b c d e f=>?_
 have hh':=a.hp.hp
 unfold Hp.o heapO at hh'
 have ht':=a.hp.things
 walk
 rw [refs_len,refs_len]
 have:=k h' x' (A.gone a b c d f) f
 have e:pq (PyData.int ((S.ts.length:Int) - (aft g (rootsL S) S.ts).length)) (PyData.int ((S.ts.length:Int) - (aft g (rootsL S) S.ts).length))=true:=decide_eq_true rfl
 rw [← e] at this
 exact this
theorem val_after {S:Ms} {rows:List SV} {marks:Mk} {mode:Nat} {H:List (Nm×List HV)} {h1 h2 h4:AH} {S2:Ms} {many many0:Int} {v gave:AVal} (A:LAt S rows marks many0 h) (F1:Fw [.s 12,.s 35] h h1) (d:Did (asks S mode H) h1 (.val v) gave h2 S2 many) (dn:Dn (asks S mode H) mode h1 h2 S2 many) (X4:MAt (endA S2) h4) (F4:Fw [.s 12,.s 35,.s 63] h2 h4) (hw4:h4 (.s 63)=some (wO many)) :
  A3 (gave=v) (LAt (endA (asks S mode H)) rows marks 0 h4) (Fw [.s 12,.s 35,.s 63] h h4):=by
 have L4:=A.o.after F1 dn F4
 cases d
 exact ⟨rfl,⟨X4,A.b.back,hw4,L4,A.s.back⟩,(F1.weak (by room)).trans F4⟩
theorem eqV_oS {ua ub:Option Str} (ha:∀ x,ua=some x→PyData.strOk x=true) (hb:∀ x,ub=some x→PyData.strOk x=true):eqV h (oS ua) (oS ub)=some (eqO ua ub):=by
 cases ua with
 | none=>cases ub with
  | none=>rfl
  | some y =>
   have:=hb y rfl
   exact eqV_of (a:=.none) (b:=.str y) (x:=.none) rfl (toPy_str this)
 | some x=>cases ub with
  | none =>
   have:=ha x rfl
   exact eqV_of (a:=.str x) (b:=.none) (y:=.none) (toPy_str this) rfl
  | some y=>exact eqV_str (ha x rfl) (hb y rfl)
noncomputable def marksD (l:List Str):List (AVal×AVal):=l.map fun s=>(.str s,.tup [.int 1,.int (hashV s)])
theorem marks_get {x:Str} (hx:PyData.strOk x=true):∀ {l:List Str},(∀ s∈l,PyData.strOk s=true)→(dlk (.str x) (marksD l)).getD (.tup [.int 1,.int (hashV x)]) = .tup [.int 1,.int (hashV x)]
 | [],_=>rfl
 | s :: r,k=>by
  show (dlk (.str x) ((.str s,.tup [.int 1,.int (hashV s)]) :: marksD r)).getD _=_
  rw [dlk]
  cases q:keyEq (.str s) (.str x) with
  | true =>
   have:=(keyEq_iff (a:=.str s) (b:=.str x) (k s List.mem_cons_self) hx).mp q
   injection this with this
   rw [this]; rfl
  | false=>exact marks_get hx fun s m=>k s (List.mem_cons_of_mem _ m)
theorem marks_put {x:Str} (hx:PyData.strOk x=true):∀ {l:List Str},(∀ s∈l,PyData.strOk s=true)→∃ l',A3 (dput (.str x) (.tup [.int 1,.int (hashV x)]) (marksD l)=marksD l') (l'.length≤l.length + 1) (∀ s∈l',PyData.strOk s=true)
 | [],_=>⟨[x],rfl,by simp,fun s m=>by rw [List.mem_singleton.mp m]; exact hx⟩
 | s :: r,k=>by
  show ∃ l',A3 (dput (.str x) _ ((.str s,.tup [.int 1,.int (hashV s)]) :: marksD r)=_) _ _
  rw [dput]
  cases q:keyEq (.str s) (.str x) with
  | true =>
   have:=(keyEq_iff (a:=.str s) (b:=.str x) (k s List.mem_cons_self) hx).mp q
   injection this with this
   exact ⟨s :: r,by rw [← this]; rfl,by simp,k⟩
  | false =>
   obtain ⟨l',e1,e2,e3⟩:=marks_put hx (l:=r) fun s m=>k s (List.mem_cons_of_mem _ m)
   rw [e1]
   refine ⟨s :: l',rfl,by simpa using e2,fun u m=>?_⟩
   rcases List.mem_cons.mp m with rfl | m
   ·exact k _ List.mem_cons_self
   ·exact e3 u m
theorem marks_mat {S:Ms} {rows:List SV} {marks:Mk} {l:List Str} {many:Int} (A:LAt S rows marks many h) (hk:∀ s∈l,PyData.strOk s=true):LAt S rows (l,marks.2) many (hset h (.s 67) (.dict (marksD l))) :=
 have F:Fw [.s 67] h (hset h (.s 67) (.dict (marksD l))):=(Fw.refl A.x.fin).set (by room)
 ⟨A.x.fw F rfl,A.b,F.old _ _ rfl A.w,⟨F.old _ _ rfl A.o.cells,F.old _ _ rfl A.o.kept,F.old _ _ rfl A.o.rws,fun i v e=>F.old _ _ rfl (A.o.slots i v e),fun e q=>by rw [F.nt _ rfl rfl]; exact A.o.nog e q,hset_at,tmp_fw F rfl A.o.tmp⟩,⟨A.s.len,A.s.val,A.s.vok,A.s.kv,hk⟩⟩
structure Sm (S0 S:Ms):Prop where
 ts:S.ts=S0.ts
 cells:S.cells=S0.cells
 kept:S.kept=S0.kept
 made:S.x.made=S0.x.made
theorem Sm.tx {S0 S:Ms} {a:Nat} {u:Option Str} (s:Sm S0 S) (t:TX S0.ts a u):TX S.ts a u:=by rw [s.ts]; exact t
theorem Sm.ty {S0 S:Ms} {a:Nat} {u:Option Str} (s:Sm S0 S) (t:TY S0.ts a u):TY S.ts a u:=by rw [s.ts]; exact t
theorem val_gen {S0 S:Ms} {rows:List SV} {marks:Mk} {mode:Nat} {H:List (Nm×List HV)} {h1 h2 h4:AH} {S2:Ms} {many many0:Int} {v gave:AVal} (sm:Sm S0 S) (A:LAt S rows marks many0 h) (F1:Fw [.s 12,.s 35] h h1) (d:Did (asks S mode H) h1 (.val v) gave h2 S2 many) (dn:Dn (asks S mode H) mode h1 h2 S2 many) (X4:MAt (endA S2) h4) (F4:Fw [.s 12,.s 35,.s 63] h2 h4) (hw4:h4 (.s 63)=some (wO many)) :
  ∃ S',A4 (gave=v) (LAt S' rows marks 0 h4) (Fw [.s 12,.s 35,.s 63] h h4) (Sm S0 S') :=
 (val_after A F1 d dn X4 F4 hw4).casesOn fun e A' F'=>⟨_,e,A',F',sm.ts,sm.cells,sm.kept,sm.made⟩
theorem k_law_alike (hm:48≤m) {S:Ms} {rows:List SV} {marks:Mk} {many0:Int} {a b':Nat} {ua ub:Option Str} (A:LAt S rows marks many0 h) (hml:marks.1.length < 800000) (ta:TY S.ts a ua) (tb:TY S.ts b' ub)
  (k:∀ S' marks' many' h',LAt S' rows marks' many' h'→marks'.1.length≤marks.1.length + 1→marks'.2=marks.2→S'.cells=S.cells→S'.kept=S.kept→S'.ts=S.ts→S'.x.made=S.x.made→K (.bool true) h'):CF w H0 m f__law_alike [.ref (.s 63),.int (Int.ofNat a),.int (Int.ofNat b')] h K:=by
 have hw:=A.w
 have f14:=A.x.m
 unfold mO at f14
 have hh:=A.x.hp.hp
 unfold Hp.o heapO at hh
 have hl:S.ts.length < 300:=lt_le (Nat.lt_of_le_of_lt A.b.o.len A.b.hb) rfl
 refine cf_run (dN hm rfl) rfl rfl rfl rfl ?_
 walk
 refine k_law_where (dM hm rfl) A.x hl fun h1 j F1 hj e1=>?_
 have A1:=A.fw F1
 have hw1:=A1.w
 walk
 refine k_law_plain (dM hm rfl) A1 ta fun p tp hp=>?_
 walk
 refine k_law_plain (dM hm rfl) A1 tb fun p2 tp2 hp2=>?_
 walk
 refine k_law_letters (dM hm rfl) A1 tp ?_
 walk
 refine k_law_letters (dM hm rfl) A1 tp2 ?_
 walk
 refine cm_eq (eqV_oS (fun x e=>by subst e; exact tp.ok.2) fun x e=>by subst e; exact tp2.ok.2) ?_
 walk
 have fin:∀ {S' marks' many' h' r},LAt S' rows marks' many' h'→marks'.1.length≤marks.1.length + 1→marks'.2=marks.2→Sm S S'→r=true→K (.bool r) h':=fun A a a2 s q=>by subst q; exact k _ _ _ _ A a a2 s.cells s.kept s.ts s.made
 refine vi_j ["same"] (P:=fun loc2 h2=>h1=h2∧lk "same" loc2=some (.tup [.int 1,.int (if eqO ua ub then 1 else 0)])) (fun loc2 h2 L i=>?_) fun KN kn2=>?_
 ·obtain ⟨rfl,l9⟩:=i
  have l1:lk "w" loc2=some (.ref (.s 63)):=by k_ne
  have l4:lk "where" loc2=some (.ref (.t j)):=by k_ne
  have l5:lk "one" loc2=some (.int (Int.ofNat p)):=by k_ne
  have l7:lk "units" loc2=some (oS ua):=by k_ne
  walk
  refine me_get2s e1 rfl (whD_look tp.In) ?_
  walk
  refine me_get2s e1 rfl (whD_look tp2.In) ?_
  walk
  refine no_new A1.x.fin (by room) fun j_g0 g0 hj_g0 F_g0 e_g0=>?_
  have A2:=A1.fw F_g0
  walk
  refine k_ask_same (S:=S) (mode:=2) (dM hm rfl) tp tp2 A2.x A2.b (by decide) A2.w e_g0 fun gave g1 g2 g4 S2 many G1 d dn X4 G4 hw4=>?_
  obtain ⟨S3,ge,A3,F3,s3⟩:=val_gen ⟨rfl,rfl,rfl,rfl⟩ A2 G1 d dn X4 G4 hw4
  have e3:=F3.old _ _ rfl (F_g0.old _ _ rfl e1)
  clear G1 d dn X4 G4 hw4 A2 F_g0 hj_g0 e_g0 e1 A1 F1 hw1
  subst ge
  have k3:=A3.x.hp.hp
  unfold Hp.o heapO at k3
  have w3:=A3.w
  walk
  refine vi_f (by rw [pq_refl _ rfl]; rfl) ?_
  walk
  by_cases z:p=0
  ·refine vi_t (decide_eq_true (congrArg Int.ofNat z)) ?_
   walk
   exact fin A3 (Nat.le_succ _) rfl s3 (by rw [s3.made]; exact pq_refl _ rfl)
  obtain ⟨x,rfl⟩ : ∃ x,ua=some x:=by
   rcases tp.inv with ⟨e,_⟩ | ⟨_,x,_,_,_,e,_⟩
   ·exact absurd e z
   ·exact ⟨x,e⟩
  have l7:lk "units" loc2=some (.str x):=l7
  refine vi_f (decide_eq_false fun e=>z (Int.ofNat.inj e)) ?_
  walk
  refine me_get2s e3 rfl (whD_look tb.In) ?_
  walk
  refine no_new A3.x.fin (by room) fun j_g5 g5 hj_g5 F_g5 e_g5=>?_
  have A4:=A3.fw F_g5
  walk
  refine k_ask_equals (S:=S3) (mode:=2) (dM hm rfl) (s3.tx tp) (s3.ty tb) A4.x A4.b (by decide) A4.w (by rw [s3.ts]; exact e_g5) fun gave i1 i2 i4 S4 many3 I1 d3 dn3 Y4 I4 iw4=>?_
  obtain ⟨S5,ge,A5,F5,s5⟩:=val_gen s3 A4 I1 d3 dn3 Y4 I4 iw4
  clear I1 d3 dn3 Y4 I4 iw4 A4 F_g5 hj_g5 e_g5 e3 A3 F3 w3 k3
  subst ge
  have w5:=A5.w
  walk
  refine vi_f (by rw [pq_refl _ rfl]; rfl) ?_
  walk
  refine no_new A5.x.fin (by room) fun j_i5 i5 hj_i5 F_i5 e_i5=>?_
  have A6:=A5.fw F_i5
  walk
  refine k_ask_hash (S:=S5) (ua:=some x) (mode:=2) (dM hm rfl) (s5.tx tp) A6.x A6.b (by decide) A6.w (by rw [s5.ts]; exact e_i5) fun gave l1' l2' l4' S6 many4 J1 d4 dn4 Z4 J4 jw4=>?_
  obtain ⟨S7,ge,A7,F7,s7⟩:=val_gen s5 A6 J1 d4 dn4 Z4 J4 jw4
  clear J1 d4 dn4 Z4 J4 jw4 A6 F_i5 hj_i5 e_i5 A5 F5 w5
  subst ge
  have w7:=A7.w
  have xo:=tp.ok
  have k7:=A7.o.mrk
  walk
  refine me_get2 (y:=.str x) A7.o.mrk xo.2 ?_
  rw [show (marks.1.map fun s=>(AVal.str s,AVal.tup [.int 1,.int (hashV s)]))=marksD marks.1 from rfl,marks_get xo.2 A7.s.mok]
  walk
  refine vi_f (by rw [pq_refl _ rfl]; rfl) ?_
  walk
  obtain ⟨marks',m1,m2,m3⟩:=marks_put xo.2 A7.s.mok
  refine si_dict (y:=.str x) A7.o.mrk xo.2 (by rw [List.length_map]; exact lt_le hml rfl) ?_
  rw [show (marks.1.map fun s=>(AVal.str s,AVal.tup [.int 1,.int (hashV s)]))=marksD marks.1 from rfl]
  rw [m1]
  have A8:=marks_mat A7 m3
  generalize hset l4' (.s 67) (.dict (marksD marks'))=l5' at *
  clear k7 w7 A7 F7 m1 m3
  have w8:=A8.w
  walk
  refine no_new A8.x.fin (by room) fun j_l6 l6 hj_l6 F_l6 e_l6=>?_
  have A9:=A8.fw F_l6
  walk
  refine k_ask_length (S:=S7) (ua:=some x) (mode:=2) (dM hm rfl) (s7.tx tp) A9.x A9.b (by decide) A9.w (by rw [s7.ts]; exact e_l6) fun gave n1 n2 n4 S8 many5 N1 d5 dn5 V4 N4 nw4=>?_
  obtain ⟨S9,ge,A10,F10,s9⟩:=val_gen s7 A9 N1 d5 dn5 V4 N4 nw4
  clear N1 d5 dn5 V4 N4 nw4 A9 A8 F_l6 hj_l6 e_l6 w8
  subst ge
  have k10:=A10.x.hp.hp
  unfold Hp.o heapO at k10
  have xl:=tp.len
  walk
  refine bl_len_str (le_lt xl rfl) ?_
  walk
  rw [pq_refl _ rfl]
  walk
  exact fin A10 m2 rfl s9 (by rw [s9.made]; exact pq_refl _ rfl)
 refine vi (fun q=>?_) fun q=>?_
 ·walk
  exact kn2 _ _ (by k_ne) ⟨rfl,by rw [if_pos q]; k_ne⟩
 ·walk
  exact kn2 _ _ (by k_ne) ⟨rfl,by rw [if_neg (by rw [q]; decide)]; k_ne⟩
noncomputable def addN (l:List Nat) (a:Nat):List Nat:=if a > 0∧a∉l then l ++ [a] else l
noncomputable def heldN (S:Ms):List Nat:=(S.cells ++ S.kept.map (·.2)).foldl addN []
noncomputable def nInt (s:Nat):AVal:=.int (Int.ofNat s)
theorem toInts_nat:∀ (l:List Nat),toInts (l.map nInt)=some (l.map Int.ofNat)
 | []=>rfl
 | a :: r=>by
  rw [List.map_cons,List.map_cons]
  show (match toInts (r.map nInt) with | some l=>some (Int.ofNat a :: l) | none=>none)=_
  rw [toInts_nat r]
theorem any_nat {a:Nat}:∀ {l:List Nat},((l.map Int.ofNat).any fun j=>j == Int.ofNat a)=decide (a∈l)
 | []=>by simp
 | b :: r=>by
  rw [List.map_cons,List.any_cons,any_nat]
  by_cases q:b=a
  ·subst q; simp
  ·have:(Int.ofNat b == Int.ofNat a)=false:=by
    rw [beq_eq_false_iff_ne]; intro z; exact q (Int.ofNat.inj z)
   rw [this,Bool.false_or]
   congr 1
   simp only [List.mem_cons,eq_iff_iff]
   exact ⟨.inr,fun z=>z.resolve_left fun e=>q e.symm⟩
theorem addN_mem {l:List Nat} {a b:Nat}:b∈addN l a↔b∈l∨(b=a∧a > 0):=by
 unfold addN
 by_cases q:a > 0∧a∉l
 ·rw [if_pos q,List.mem_append,List.mem_singleton]
  exact ⟨fun z=>z.imp id fun e=>⟨e,q.1⟩,fun z=>z.imp id (·.1)⟩
 ·rw [if_neg q]
  refine ⟨.inl,fun z=>z.elim id fun ⟨e,p⟩=>?_⟩
  subst e
  exact Classical.byContradiction fun n=>q ⟨p,n⟩
theorem addN_nodup {l:List Nat} {a:Nat} (x:l.Nodup):(addN l a).Nodup:=by
 unfold addN
 split
 ·rename_i q
  exact List.nodup_append.mpr ⟨x,by simp,fun b mb c mc e=>by rw [List.mem_singleton.mp mc] at e; subst e; exact q.2 mb⟩
 ·exact x
theorem addN_len {l:List Nat} {a:Nat}:(addN l a).length≤l.length + 1:=by
 unfold addN
 split
 ·simp
 ·omega
theorem fold_mem {b:Nat}:∀ {r l:List Nat},b∈r.foldl addN l↔b∈l∨(b∈r∧b > 0)
 | [],l=>by simp
 | a :: r,l=>by
  rw [List.foldl_cons,fold_mem,addN_mem,List.mem_cons]
  constructor
  ·rintro ((z | ⟨rfl,z⟩) | z)
   ·exact .inl z
   ·exact .inr ⟨.inl rfl,z⟩
   ·exact .inr ⟨.inr z.1,z.2⟩
  ·rintro (z | ⟨rfl | z,y⟩)
   ·exact .inl (.inl z)
   ·exact .inl (.inr ⟨rfl,y⟩)
   ·exact .inr ⟨z,y⟩
theorem fold_nodup:∀ {r l:List Nat},l.Nodup→(r.foldl addN l).Nodup
 | [],l,x=>x
 | a :: r,l,x=>fold_nodup (r:=r) (l:=addN l a) (addN_nodup x)
theorem fold_len:∀ (r l:List Nat),(r.foldl addN l).length≤l.length + r.length
 | [],_=>Nat.le_refl _
 | a :: r,l=>Nat.le_trans (fold_len r (addN l a)) (by rw [List.length_cons]; have:=addN_len (l:=l) (a:=a); omega)
theorem heldN_mem {S:Ms} {b:Nat}:b∈heldN S↔(b∈S.cells∨∃ p∈S.kept,p.2=b)∧b > 0:=by
 unfold heldN
 rw [fold_mem,List.mem_append,List.mem_map]
 simp
theorem k_law_held (hm:2≤m) {S:Ms} {rows:List SV} {marks:Mk} {many:Int} (A:LAt S rows marks many h)
  (k:∀ h' j,Fw [] h h'→h (.t j)=none→h' (.t j)=some (.list ((heldN S).map nInt))→K (.ref (.t j)) h'):CF w H0 m f__law_held [.ref (.s 63)] h K:=by
 have hw:=A.w
 have c64:=A.o.cells
 have c65:=A.o.kept
 have hk:S.kept.length < 300:=lt_le (Nat.lt_of_le_of_lt A.b.o.kept A.b.hb) rfl
 have hc:=A.b.o.cells
 refine cf_run (dN hm rfl) rfl rfl rfl rfl ?_
 walk
 refine no_new A.x.fin (by room) fun j h1 hj F1 e1=>?_
 have hw1:=F1.old _ _ rfl hw
 have d64:=F1.old _ _ rfl c64
 have d65:=F1.old _ _ rfl c65
 walk
 refine ⟨by rw [List.length_map]; exact le_le (Nat.le_of_lt hk) rfl,?_⟩
 refine cl_map keptRow (fun p=>nInt p.2) S.kept d65 (fun p mp K' kk=>?_) ?_
 ·unfold keptRow
  walk
  exact kk
 obtain ⟨j2,hj2⟩:=F1.fin.new
 rw [show (S.kept.map fun p=>nInt p.2)=(S.kept.map (·.2)).map nInt by rw [List.map_map]; rfl]
 refine no_list (.t j2) (by rw [List.length_map,List.length_map]; exact le_le (Nat.le_of_lt hk) rfl) hj2 ?_
 have F2:Fw [] h (hset h1 (.t j2) (.list ((S.kept.map (·.2)).map nInt))):=F1.new hj2
 have e2:=hset_at (h:=h1) (n:=.t j2) (o:=.list ((S.kept.map (·.2)).map nInt))
 have d64':=hset_old (o':=.list ((S.kept.map (·.2)).map nInt)) hj2 d64
 have e1':=hset_old (o':=.list ((S.kept.map (·.2)).map nInt)) hj2 e1
 generalize hset h1 (.t j2) (.list ((S.kept.map (·.2)).map nInt))=h3 at *
 refine bi_list d64' e2 ?_
 obtain ⟨j3,hj3⟩:=F2.fin.new
 rw [show (S.cells.map fun s=>AVal.int (Int.ofNat s)) ++ (S.kept.map (·.2)).map nInt=(S.cells ++ S.kept.map (·.2)).map nInt by rw [List.map_append]; rfl]
 have hL:(S.cells ++ S.kept.map (·.2)).length < 310:=by rw [List.length_append,List.length_map,hc]; exact lt_le (Nat.add_lt_add_left hk 3) rfl
 have hH:heldN S=(S.cells ++ S.kept.map (·.2)).foldl addN []:=rfl
 generalize S.cells ++ S.kept.map (·.2)=L at *
 refine no_list (.t j3) (by rw [List.length_map]; exact le_le (Nat.le_of_lt hL) rfl) hj3 ?_
 have F3:=F2.new (o:=.list (L.map nInt)) hj3
 have e3:=hset_at (h:=h3) (n:=.t j3) (o:=.list (L.map nInt))
 have e1'':=hset_old (o':=.list (L.map nInt)) hj3 e1'
 generalize hset h3 (.t j3) (.list (L.map nInt))=h4 at *
 walk
 have n3:nin (.t j3) [.t j]=true:=nin_sub' fun a ma z=>by
  rw [List.mem_singleton.mp ma] at z; rw [z,e1'] at hj3; cases hj3
 refine fr_each ["a"] nInt L rfl (I:=fun d _ _ h5=>Fw [.t j] h4 h5∧h5 (.t j)=some (.list ((d.foldl addN []).map nInt))) (fun _ _ _ _ i=>i.1.old _ _ n3 e3)
  (fun d a l loc1 h5 e M i K' kn=>?_) (fun loc1 h5 M i=>?_) ⟨Fw.refl F3.fin,e1''⟩
 ·obtain ⟨F5,e5⟩:=i
  have ld':((d.foldl addN []).map nInt).length < 1000000:=by rw [List.length_map]; exact Nat.lt_of_le_of_lt (fold_len d []) (Nat.lt_trans (Nat.lt_of_le_of_lt (Nat.le_of_eq (Nat.zero_add _)) (mid_lt e hL)) (by decide))
  unfold nInt
  rw [show (d ++ [a]).foldl addN []=addN (d.foldl addN []) a by rw [List.foldl_append]; rfl] at kn
  walk
  refine vi (fun q=>?_) fun q=>?_
  ·have q:a > 0:=Int.ofNat_lt.mp (of_decide_eq_true q)
   walk
   refine cm_nin_list e5 (toInts_nat _) ?_
   rw [any_nat]
   walk
   refine vi (fun q2=>?_) fun q2=>?_
   ·rw [addN,if_pos ⟨q,by simpa using q2⟩] at kn
    walk
    exact kn _ _ (by k_ne) ⟨F5.set (by room),put_map nInt⟩
   ·rw [addN,if_neg fun z=>z.2 (by simpa using q2)] at kn
    walk
    exact kn _ _ (by k_ne) ⟨F5,e5⟩
  ·rw [addN,if_neg fun z=>of_decide_eq_false q (Int.ofNat_lt.mpr z.1)] at kn
   walk
   exact kn _ _ (by k_ne) ⟨F5,e5⟩
 ·obtain ⟨F5,e5⟩:=i
  walk
  exact k _ j (Fw.less hj ((F3.weak (by room)).trans F5)) hj (hH ▸ e5)
noncomputable def SV.py:SV→PyData
 | .txt s=>.tuple [.int 8,.str s]
 | .knd k=>.tuple [.int 1,.int k]
theorem toPy_enc:∀ {v:SV},v.ok→toPy h 3 v.enc=some v.py
 | .txt s,e=>toPy_tup (goPy_c rfl (goPy_c (toPy_str (show PyData.strOk s=true from e)) rfl))
 | .knd k,_=>rfl
theorem py_plain:∀ {v:SV},v.ok→plainD v.py=true
 | .txt s,e=>by
  show (true && (PyData.strOk s && true))=true
  rw [show PyData.strOk s=true from e]; rfl
 | .knd k,_=>rfl
theorem eqV_row {a b:Nm} {k:Int} {v:SV} (ok:v.ok) (ha:h a=some (.list [v.enc])) (hb:h b=some (.list [v.enc])):eqV h (.tup [.int k,.ref a]) (.tup [.int k,.ref b])=some true:=by
 have go:∀ c,h c=some (.list [v.enc])→toPy h 5 (.tup [.int k,.ref c])=some (.tuple [.int k,.list [v.py]]):=fun c e=>toPy_tup (goPy_c rfl (goPy_c (toPy_ref e (goPy_c (toPy_enc ok) rfl)) rfl))
 rw [eqV_of (go a ha) (go b hb),pq_refl]
 show (true && ((plainD v.py && true) && true))=true
 rw [py_plain ok]; rfl
noncomputable def refV (n:Int):AVal:=.tup [.int 4,.int n]
theorem toPy_refs:∀ (l:List Int),goPy (toPy h 4) (l.map refV)=some (l.map fun n=>.tuple [.int 4,.int n])
 | []=>rfl
 | _ :: r=>goPy_c rfl (toPy_refs r)
theorem plain_refs:∀ (l:List Int),plainL (l.map fun n=>.tuple [.int 4,.int n])=true
 | []=>rfl
 | _ :: r=>plain_refs r
theorem eqV_refs {a b:Nm} {l:List Int} (ha:h a=some (.list (l.map refV))) (hb:h b=some (.list (l.map refV))):eqV h (.ref a) (.ref b)=some true:=by
 rw [eqV_of (toPy_ref ha (toPy_refs l)) (toPy_ref hb (toPy_refs l)),pq_refl]
 exact plain_refs l
theorem held_in {S:Ms} {rows:List SV} {marks:Mk} {many:Int} (A:LAt S rows marks many h) {s:Nat} (e:s∈heldN S):In S.ts s:=by
 obtain ⟨q,z⟩:=heldN_mem.mp e
 have z:s≠0:=Nat.ne_of_gt z
 rcases q with q | ⟨p,mp,rfl⟩
 ·have x:HvOk S.ts (.ref s):=(A.x.roots _ in44).2 _ (List.mem_map_of_mem (f:=HV.ref) q)
  exact Or.resolve_left x z
 ·exact (A.kept_in mp).resolve_left z
theorem k_law_same (hm:8≤m) {S:Ms} {rows:List SV} {marks:Mk} {many:Int} (A:LAt S rows marks many h) (k:K (.bool true) h):CF w H0 m f__law_same [.ref (.s 63)] h K:=by
 have hw:=A.w
 have hl:S.ts.length < 300:=lt_le (Nat.lt_of_le_of_lt A.b.o.len A.b.hb) rfl
 have hk:S.kept.length < 300:=lt_le (Nat.lt_of_le_of_lt A.b.o.kept A.b.hb) rfl
 have hc:=A.b.o.cells
 refine cf_cell (dN hm rfl) rfl rfl rfl (fun k=>rfl) (fun _ _ _=>rfl) (fun _ _ _=>rfl) rfl rfl ?_
 walk
 refine k_law_where (dM hm rfl) A.x hl fun h1 j F1 hj e1=>?_
 have A1:=A.fw F1
 have w1:=A1.w
 have c1:=A1.o.cells
 have f14:=A1.x.m
 unfold mO at f14
 have f21:=A1.x.fix.at (k:=21) rfl
 have f42:=A1.x.fix.at (k:=42) rfl
 walk
 refine ⟨by rw [List.length_map]; exact le_le (Nat.le_of_eq A.b.o.cells) rfl,?_⟩
 refine cl_map (fun s=>AVal.int (Int.ofNat s)) (fun s=>refV (ra S.ts s)) S.cells c1 (fun s ms K' kk=>?_) ?_
 ·walk
  refine me_get2s e1 rfl (whD_look (show s=0∨In S.ts s from (A.x.roots _ in44).2 _ (List.mem_map_of_mem (f:=HV.ref) ms))) ?_
  walk
  exact kk
 rw [show (S.cells.map fun s=>refV (ra S.ts s))=(S.cells.map (ra S.ts)).map refV by rw [List.map_map]; rfl]
 refine no_new A1.x.fin (by rw [List.length_map,List.length_map]; exact le_le (Nat.le_of_eq A.b.o.cells) rfl) fun j2 h3 hj2 F2 e2=>?_
 have A3:=A1.fw F2
 have e3:=F2.old _ _ rfl e1
 have f44:h3 (.s 44)=some (.list ((S.cells.map (ra S.ts)).map refV)):=by
  rw [A3.x.locals,List.map_map,List.map_map]; rfl
 refine cm_ne (eqV_refs f44 e2) ?_
 have w3:=A3.w
 have c3:=A3.o.kept
 have f14:=F2.old _ _ rfl f14
 walk
 refine ⟨by rw [List.length_map]; exact le_le (Nat.le_of_lt hk) rfl,?_⟩
 refine cl_map keptRow (fun p=>refV (ra S.ts p.2)) S.kept c3 (fun p mp K' kk=>?_) ?_
 ·unfold keptRow
  walk
  refine me_get2s e3 rfl (whD_look (A.kept_in mp)) ?_
  walk
  exact kk
 rw [show (S.kept.map fun p=>refV (ra S.ts p.2))=((S.kept.map (·.2)).map (ra S.ts)).map refV by rw [List.map_map,List.map_map]; rfl]
 refine no_new A3.x.fin (by rw [List.length_map,List.length_map,List.length_map]; exact le_le (Nat.le_of_lt hk) rfl) fun j4 h5 hj4 F4 e4=>?_
 have A5:=A3.fw F4
 have e5:=F4.old _ _ rfl e3
 have f34:h5 (.s 34)=some (.list (((S.kept.map (·.2)).map (ra S.ts)).map refV)):=by
  rw [A5.x.internv,List.map_map,List.map_map,List.map_map]; rfl
 refine cm_ne (eqV_refs f34 e4) ?_
 walk
 refine k_law_held (dM hm rfl) A5 fun h6 j6 F6 hj6 e6=>?_
 have A6:=A5.fw F6
 have w6:=A6.w
 have r6:=A6.o.rws
 have e7:=F6.old _ _ rfl e5
 have g14:=A6.x.m
 unfold mO at g14
 have hh:=A6.x.hp.hp
 unfold Hp.o heapO at hh
 have ha:=A6.x.hp.at_
 have ap:=A6.x.hp.ap
 walk
 refine fr_each ["a","thing"] nInt (heldN S) rfl (I:=fun _ _ _ h7=>h6=h7) (fun _ _ _ _ i=>i ▸ e6)
  (fun d s l loc1 h7 ek L i K' kn=>?_) (fun loc1 h7 L i=>?_) rfl
 ·subst i
  obtain ⟨t,mt,rfl⟩:=held_in A6 (mem_mid ek)
  have hv:=A6.s.val t mt
  have ok:=SV.ok_of (A6.s.vok _ (List.mem_of_getElem? hv.2))
  obtain ⟨t1,t2⟩:=ths_at ap A6.x.hp.ths mt
  unfold thO at t1
  have g9:=A6.o.slots _ _ hv.2
  rw [show t.ser - 1 + 1=t.ser from Nat.sub_add_cancel hv.1] at g9
  unfold nInt
  walk
  refine me_get2s e7 rfl (whD_look (.inr ⟨t,mt,rfl⟩)) ?_
  walk
  refine me_get ha rfl ?_
  rw [ra_in (apart_ne0 ap t mt),at_look ap ⟨t,mt,rfl⟩,Option.getD_some]
  walk
  refine gi_dict r6 rfl (row_look hv.1 hv.2) ?_
  walk
  refine cm_ne (eqV_row ok t2 g9) ?_
  walk
  exact kn _ _ (by k_ne) rfl
 ·subst i
  have fh:=A6.x.held
  rw [A6.b.he] at fh
  have ft:=A6.x.thrown
  rw [A6.b.th] at ft
  have f28:=A6.x.fix.at (k:=28) rfl
  walk
  refine no_new A6.x.fin (by room) fun j8 h8 hj8 F8 e8=>?_
  refine cm_eq (eqV_refs (l:=[]) (F8.old _ _ rfl fh) e8) ?_
  have g14:=F8.old _ _ rfl g14
  have f28:=F8.old _ _ rfl f28
  have ft:=F8.old _ _ rfl ft
  walk
  refine no_new F8.fin (by room) fun j9 h9 hj9 F9 e9=>?_
  refine cm_eq (eqV_refs (l:=[]) (F9.old _ _ rfl f28) e9) ?_
  have g14:=F9.old _ _ rfl g14
  have ft:=F9.old _ _ rfl ft
  walk
  refine no_new F9.fin (by room) fun j10 h10 hj10 F10 e10=>?_
  refine cm_eq (eqV_refs (l:=[]) (F10.old _ _ rfl ft) e10) ?_
  have g14:=F10.old _ _ rfl g14
  walk
  refine ⟨_,rfl,fun n o e=>(F1.trans (F2.trans (F4.trans (F6.trans (F8.trans (F9.trans F10)))))).old n o rfl e,?_⟩
  rw [pq_refl _ rfl]
  exact k
section
theorem bi_modN {a b:Nat} {i j:Int} (hi:i=Int.ofNat a) (hj:j=Int.ofNat b) (hb:Nat.blt 0 b=true) (k:K (.int (Int.ofNat (a % b))) h):BI .Mod (.int i) (.int j) h K:=by
 subst hi hj
 have hb:b≠0:=by have:=Nat.blt_eq.mp hb; omega
 refine bi_mod (by intro z; exact hb (Int.ofNat.inj z)) ?_
 have e:(Int.ofNat a).fmod (Int.ofNat b)=Int.ofNat (a % b):=by
  show (a:Int).fmod (b:Int)=_
  rw [Int.fmod_eq_emod_of_nonneg _ (Int.natCast_nonneg b)]; rfl
 rw [e]; exact k
theorem bi_fdivN {a b:Nat} {i j:Int} (hi:i=Int.ofNat a) (hj:j=Int.ofNat b) (hb:(Nat.blt 0 b && Nat.blt b 1000000)=true) (k:K (.int (Int.ofNat (a / b))) h):BI .FloorDiv (.int i) (.int j) h K:=by
 subst hi hj
 rw [Bool.and_eq_true,Nat.blt_eq,Nat.blt_eq] at hb
 refine bi_fdiv ⟨by intro z; have z:b=0:=Int.ofNat.inj z; omega,by show b < _; omega⟩ ?_
 have e:(Int.ofNat a).fdiv (Int.ofNat b)=Int.ofNat (a / b):=by
  show (a:Int).fdiv (b:Int)=_
  rw [Int.fdiv_eq_ediv_of_nonneg _ (Int.natCast_nonneg b)]; rfl
 rw [e]; exact k
local macro_rules | `(tactic| end_int)=>`(tactic| first
 | apply bi_modN; end_none; end_none; end_none
 | apply bi_fdivN; end_none; end_none; end_none)
theorem gi_nth {l:List AVal} {j n:Nat} {i:Int} (h0:i=Int.ofNat j) (hl:l.length=n) (hn:n < 1000000) (hj:j < n) (k:∀ v,v∈l→K v h):GI (.tup l) (.int i) h K:=by
 have hj':j < l.length:=by rw [hl]; exact hj
 refine gi_tup (m:=j) h0 (u:=l[j]) (by rw [nthV_eq]; exact List.getElem?_eq_getElem hj') (by rw [Nat.blt_eq]; exact Nat.lt_trans hj hn) (k _ (List.getElem_mem hj'))
theorem LAt.setMany {S:Ms} {rows:List SV} {marks:Mk} {many i:Int} (A:LAt S rows marks many h):LAt S rows marks i (hset h (.s 63) (wO i)) :=
 have F:Fw [.s 63] h (hset h (.s 63) (wO i)):=(Fw.refl A.x.fin).set (by room)
 ⟨A.x.fw F rfl,A.b,hset_at,A.o.fw F fun n mn=>by rw [List.mem_singleton.mp mn]; exact ⟨fun k e=>by injection e with e; omega,fun e z=>by cases z⟩,A.s⟩
theorem k_put_after (hm:4≤m) {S:Ms} {rows:List SV} {marks:Mk} {x s:Nat} {many:Int} (A:LAt S rows marks many h) (hx:x < 3) (hs:s=0∨In S.ts s)
  (k:∀ h',Fw [.s 44,.s 64] h h'→LAt (putC S x s) rows marks many h'→K (.bool (decide (many=0))) h'):CF w H0 m f__law_put [.ref (.s 63),.int (Int.ofNat x),.tup [.int 4,.int (ra S.ts s)],.int (Int.ofNat s)] h K :=
 k_law_put hm A.x A.w A.o hx A.b.o.cells hs fun h' F X L=>k h' F ⟨X,A.b.putC,F.old _ _ rfl A.w,L,A.s.putC⟩
theorem k_put0 (hm:4≤m) {S:Ms} {rows:List SV} {marks:Mk} {x:Nat} {many:Int} (A:LAt S rows marks many h) (hx:x < 3)
  (k:∀ h',Fw [.s 44,.s 64] h h'→LAt (putC S x 0) rows marks many h'→K (.bool (decide (many=0))) h'):CF w H0 m f__law_put [.ref (.s 63),.int (Int.ofNat x),.tup [.int 4,.int 0],.int 0] h K:=by
 have:=k_put_after (w:=w) (H0:=H0) hm (s:=0) A hx (.inl rfl) k
 rw [ra_zero] at this; exact this
theorem LAt.cell {S:Ms} {rows:List SV} {marks:Mk} {many:Int} (A:LAt S rows marks many h) {i a:Nat} (e:S.cells[i]? = some a):a=0∨In S.ts a :=
 show HvOk S.ts (.ref a) from (A.x.roots _ in44).2 _ (List.mem_map_of_mem (f:=HV.ref) (List.mem_of_getElem? e))
theorem cell_at {S:Ms} {rows:List SV} {marks:Mk} {many:Int} (A:LAt S rows marks many h) {i:Nat} (hi:i < 3):∃ a u,S.cells[i]? = some a∧TY S.ts a u:=by
 have hc:=A.b.o.cells
 have e:S.cells[i]? = some S.cells[i]:=List.getElem?_eq_getElem (by omega)
 obtain ⟨u,hu⟩:=cell_ty A.s (A.cell e)
 exact ⟨_,u,e,hu⟩
noncomputable def words7:List AVal:=[.str "",.str "a",.str "b",.str "ab",.str "ba",.str "aa",.str "bb"]
noncomputable def strIs (f:Str→Bool):AVal→Bool
 | .str s=>f s
 | _=>false
theorem words7_ok:∀ v∈words7,∃ s,v = .str s∧tOk s:=fun v mv=>by
 have:words7.all (strIs fun s=>Nat.ble s.length 8 && PyData.strOk s)=true:=by decide +kernel
 have:=List.all_eq_true.mp this v mv
 cases v with
 | str s =>
  have e:(Nat.ble s.length 8 && PyData.strOk s)=true:=this
  rw [Bool.and_eq_true] at e
  exact ⟨s,rfl,Nat.le_of_ble_eq_true e.1,e.2⟩
 | _=>cases this
theorem gi_word {j:Nat} {i:Int} (h0:i=Int.ofNat j) (hj:j < 7) (k:∀ s,tOk s→K (.str s) h):GI (.tup words7) (.int i) h K :=
 gi_nth (n:=7) h0 rfl (by decide) hj fun v mv=>by
  obtain ⟨s,rfl,t⟩:=words7_ok v mv
  exact k s t
theorem pqn {a b:Nat} (e:a≠b):pq (.int (Int.ofNat a)) (.int (Int.ofNat b))=false:=decide_eq_false fun z=>e (Int.ofNat.inj z)
theorem whD_zero {ts:List Th}:dlk (.int 0) (whD ts)=some (.int 0):=by
 have:=whD_look (ts:=ts) (s:=0) (.inl rfl)
 rw [ra_zero] at this; exact this
theorem k_law_deed (hm:52≤m) {S:Ms} {rows:List SV} {marks:Mk} {many0:Int} {v:Nat} (A:LAt S rows marks many0 h) (hmd:S.md < 249) (hml:marks.1.length < 800000)
  (k:∀ S' rows' marks' many' h',LAt S' rows' marks' many' h'→S'.md≤S.md + 1→marks'.1.length≤marks.1.length + 1→marks'.2=marks.2→K (.bool true) h'):CF w H0 m f__law_deed [.ref (.s 63),.int (Int.ofNat v)] h K:=by
 have hw:=A.w
 have c64:=A.o.cells
 have hl:S.ts.length < 300:=lt_le (Nat.lt_of_le_of_lt A.b.o.len hmd) rfl
 obtain ⟨a,ua,ha,ta⟩:=cell_at A (i:=v / 27 % 3) (Nat.mod_lt _ (by decide))
 obtain ⟨b',ub,hb,tb⟩:=cell_at A (i:=v / 81 % 3) (Nat.mod_lt _ (by decide))
 have hx:v / 243 % 3 < 3:=Nat.mod_lt _ (by decide)
 have hmo:v / 9 % 3 < 3:=Nat.mod_lt _ (by decide)
 have hi:v / 27 % 3 < 3:=Nat.mod_lt _ (by decide)
 have hj:v / 81 % 3 < 3:=Nat.mod_lt _ (by decide)
 have hop:v % 9 < 9:=Nat.mod_lt _ (by decide)
 refine cf_run (dN hm rfl) rfl rfl rfl rfl ?_
 walk
 refine gi_list (j:=v / 27 % 3) c64 rfl (nthV_map (a:=a) ha) ?_
 walk
 refine gi_list (j:=v / 81 % 3) c64 rfl (nthV_map (a:=b') hb) ?_
 walk
 refine k_law_where (dM hm rfl) A.x hl fun h1 j F1 hj0 e1=>?_
 have A1:=A.fw F1
 have hw1:=A1.w
 walk
 have A2:=A1.setMany (i:=0)
 have e2:=hset_off (o':=wO 0) (show Nm.eqb (.t j) (.s 63)=false from rfl) e1
 generalize hset h1 (.s 63) (wO 0)=h2 at *
 have hw2:=A2.w
 refine gi_word (j:=v / 729 % 7) rfl (Nat.mod_lt _ (by decide)) fun word ow=>?_
 generalize v % 9=op at *
 generalize v / 9 % 3=mode at *
 generalize v / 27 % 3=i at *
 generalize v / 81 % 3=i2 at *
 generalize v / 243 % 3=x at *
 generalize v / 729=z at *
 have k1:∀ {S' rows' many' h'},LAt S' rows' marks many' h'→S'.md≤S.md + 1→K (.bool true) h':=fun A' q=>k _ _ _ _ _ A' q (Nat.le_succ _) rfl
 by_cases h234:2≤op∧op≤4
 ·walk
  iterate 8 (refine vi_f (pqn (by first | exact Nat.ne_of_lt (le_lt h234.2 rfl) | exact Nat.ne_of_gt (Nat.lt_of_lt_of_le (by decide) h234.1))) ?_; walk)
  refine k_law_plain (dM hm rfl) A2 ta fun p tp _=>?_
  walk
  refine k_law_plain (dM hm rfl) A2 tb fun p2 tp2 _=>?_
  refine s_if_j ["a"] (P:=fun loc2 h3=>h2=h3∧Q2 fun (a':Nat) (ua':Option Str)=>A3 (TX S.ts a' ua') (op < 4→(ua'.getD eS).length + (ub.getD eS).length≤8) (lk "a" loc2=some (.int (Int.ofNat a')))) (fun loc2 h3 L i=>?_) fun KN kn2 _=>?_
  ·obtain ⟨rfl,a',ua',ta',hlen,l8⟩:=i
   have l1:lk "w" loc2=some (.ref (.s 63)):=by k_ne
   have l2:lk "op" loc2=some (.int (Int.ofNat op)):=by k_ne
   have l3:lk "mode" loc2=some (.int (Int.ofNat mode)):=by k_ne
   have l6:lk "x" loc2=some (.int (Int.ofNat x)):=by k_ne
   have l7:lk "z" loc2=some (.int (Int.ofNat z)):=by k_ne
   have l9:lk "b" loc2=some (.int (Int.ofNat p2)):=by k_ne
   have l10:lk "where" loc2=some (.ref (.t j)):=by k_ne
   walk
   refine me_get2s e2 rfl (whD_look ta'.In) ?_
   walk
   refine me_get2s e2 rfl (whD_look tp2.In) ?_
   walk
   refine no_new A2.x.fin (by room) fun j3 h3 hj3 F3 e3=>?_
   have A3:=A2.fw F3
   refine s_if_j [] (P:=fun _ h4=>∃ S4,A5 (LAt S4 rows marks 0 h4) (S4.md=S.md) (TX S4.ts a' ua') (TX S4.ts p2 ub) (h4 (.t j3)=some (.list [.tup [.int 4,.int (ra S4.ts a')],.tup [.int 4,.int (ra S4.ts p2)]]))) (fun loc3 h4 L3 i=>?_) fun KN2 kn4 _=>?_
   ·obtain ⟨S4,A4,em,ta4,tb4,e4⟩:=i
    have w4:=A4.w
    walk
    refine vi (fun q=>?_) fun q=>?_
    ·walk
     refine k_law_part (dM hm rfl) A4 (by rw [em]; exact hmd) hx hmo ta4 fun S' rows' many' h' A' n=>?_
     walk
     exact k1 A' (em ▸ n)
    ·walk
     have o4:op≠4:=fun z=>by rw [z] at q; exact ft (q.symm.trans (pq_refl _ rfl))
     refine k_law_join (dM hm rfl) A4 (by rw [em]; exact hmd) hx hmo ta4 tb4 (hlen (Nat.lt_of_le_of_ne h234.2 o4)) e4 fun S' rows' many' h' A' n=>?_
     walk
     exact k1 A' (em ▸ n)
   walk
   refine vi (fun q=>?_) fun q=>?_
   ·walk
    refine k_put0 (dM hm rfl) A3 hi fun h5 F5 A5=>?_
    have w5:=A5.w
    walk
    refine k_put0 (dM hm rfl) A5 hj fun h6 F6 A6=>?_
    walk
    exact kn4 _ _ (by k_ne) ⟨_,A6,rfl,ta',tp2,F6.old _ _ rfl (F5.old _ _ rfl e3)⟩
   ·walk
    exact kn4 _ _ (by k_ne) ⟨_,A3,rfl,ta',tp2,e3⟩
  have oa:=ok_getD tp
  have ob:=ok_getD tp2
  have la:∀ y,ua=some y→y.length < 1000000:=fun y e=>le_lt (show TX S.ts p (some y) from e ▸ tp).len rfl
  have lb:∀ y,ub=some y→y.length < 1000000:=fun y e=>le_lt (show TX S.ts p2 (some y) from e ▸ tp2).len rfl
  walk
  refine k_law_letters (dM hm rfl) A2 tp ?_
  generalize hva:oS ua=va
  apply or_str hva la
  ·intro kk
   apply e_or1
   apply e_str
   exact kk
  walk
  refine bl_len_str (le_lt oa.1 rfl) ?_
  walk
  refine k_law_letters (dM hm rfl) A2 tp2 ?_
  generalize hvb:oS ub=vb
  apply or_str hvb lb
  ·intro kk
   apply e_or1
   apply e_str
   exact kk
  walk
  refine bl_len_str (le_lt ob.1 rfl) ?_
  walk
  refine vi (fun q=>?_) fun q=>?_
  ·have q:((ua.getD eS).length:Int) + (ub.getD eS).length > 8:=of_decide_eq_true q
   walk
   refine vi (fun q4=>?_) fun q4=>?_
   ·walk
    exact kn2 _ _ (by k_ne) ⟨rfl,0,none,.zero,fun _=>Nat.le_trans (Nat.le_of_eq (Nat.zero_add _)) ob.1,by k_ne⟩
   ·walk
    exact kn2 _ _ (by k_ne) ⟨rfl,p,ua,tp,fun z=>absurd (show (Int.ofNat op) < 4 from Int.ofNat_lt.mpr z) (of_decide_eq_false q4),by k_ne⟩
  ·have q:¬ ((ua.getD eS).length:Int) + (ub.getD eS).length > 8:=of_decide_eq_false q
   walk
   exact kn2 _ _ (by k_ne) ⟨rfl,p,ua,tp,fun _=>Nat.le_of_not_lt fun z=>q (Int.ofNat_lt.mpr z),by k_ne⟩
 clear hi hj
 rcases (by decide:∀ op,op < 9→¬ (2≤op∧op≤4)→op=0∨op=1∨op=5∨op=6∨op=7∨op=8) op hop h234 with rfl | rfl | rfl | rfl | rfl | rfl
 ·walk
  refine k_law_word (dM hm rfl) A2 hmd ow hx hmo fun S' rows' many' h' A' n=>?_
  walk
  exact k1 A' n.md
 ·walk
  refine k_ask_new (dM hm rfl) A2.x A2.b hmo A2.w fun gave g1 g2 g4 S2 many G1 d dn X4 G4 hw4=>?_
  walk
  refine k_new_after (v:=.txt word) (dM hm rfl) A2 hmd ow hx d X4 (A2.o.after G1 dn G4) hw4 fun S' rows' many' h' A' n=>?_
  walk
  exact k1 A' n
 ·walk
  refine vi (fun q=>?_) fun q=>?_
  ·walk
   refine k_law_gone (dM hm rfl) A2 fun h' x' A' em=>?_
   walk
   exact k1 A' (by show x'.made.toNat≤_; rw [em]; exact Nat.le_succ _)
  ·walk
   refine vi (fun q2=>?_) fun q2=>?_
   ·walk
    refine me_get2 e2 rfl ?_
    rw [whD_zero,Option.getD_some]
    walk
    refine k_put0 (dM hm rfl) A2 hx fun h' F' A'=>?_
    walk
    exact k1 A' (Nat.le_succ _)
   ·walk
    refine me_get2s e2 rfl (whD_look ta.In) ?_
    walk
    refine k_put_after (dM hm rfl) A2 hx ta.In fun h' F' A'=>?_
    walk
    exact k1 A' (Nat.le_succ _)
 ·walk
  refine k_law_alike (dM hm rfl) A2 hml ta tb fun S' marks' many' h' A' n n2 _ _ _ em=>?_
  walk
  exact k _ _ _ _ _ A' (by show S'.x.made.toNat≤_; rw [em]; exact Nat.le_succ _) n n2
 ·walk
  refine gi_nth rfl rfl (n:=3) (by decide) (Nat.mod_lt _ (by decide)) fun v mv=>?_
  obtain ⟨c,rfl⟩ : ∃ c,v = .int c:=by
   simp only [List.mem_cons,List.not_mem_nil,or_false] at mv
   rcases mv with rfl | rfl | rfl <;> exact ⟨_,rfl⟩
  walk
  refine k_law_type (dM hm rfl) A2 hmd hx hmo fun S' rows' many' h' A' n=>?_
  walk
  exact k1 A' n.md
 ·walk
  refine k_law_plain (dM hm rfl) A2 ta fun p tp hp=>?_
  walk
  refine vi (fun q=>?_) fun q=>?_
  ·have q:(Int.ofNat p) > 0:=of_decide_eq_true q
   have q:p≠0:=by rintro rfl; exact absurd q (by decide)
   have e:p=a:=hp.resolve_right fun z=>q z.1
   subst e
   obtain ⟨y,rfl⟩ : ∃ y,ua=some y:=by
    rcases tp.inv with ⟨e,_⟩ | ⟨_,y,_,_,_,e,_⟩
    ·exact absurd e q
    ·exact ⟨y,e⟩
   walk
   refine k_law_letters (dM hm rfl) A2 tp ?_
   walk
   refine k_law_word (word:=y) (dM hm rfl) A2 hmd tp.ok hx hmo fun S' rows' many' h' A' n=>?_
   walk
   exact k1 A' n.md
  ·walk
   refine k_law_word (dM hm rfl) A2 hmd ow hx hmo fun S' rows' many' h' A' n=>?_
   walk
   exact k1 A' n.md
end
theorem hset_none {n m:Nm} {o:AObj} (e:Nm.eqb m n=false) (q:h m=none):hset h n o m=none:=hset_off e q
theorem Fw.setB {ms:List Nm} {h h1:AH} {n:Nm} {o:AObj} (x:Fw ms h h1) (i:inNs n ms=true):Fw ms h (hset h1 n o):=x.set (by
 obtain ⟨m,mm,e⟩:=List.any_eq_true.mp i
 rw [← Nm.eqb_iff.mp e]; exact mm)
local macro_rules | `(tactic| lt_chain)=>`(tactic| ((repeat (refine Fw.setB ?_ rfl)); first | exact Fw.refl (by assumption) | assumption))
local macro_rules | `(tactic| seq_fits)=>`(tactic| ((repeat (refine hset_none rfl ?_)); assumption))
noncomputable def rowN (k:Nat):AVal:=.tup [.int 1,.int (Int.ofNat k)]
noncomputable def ixN (k:Nat):List (AVal×AVal):=(List.range k).map fun k=>(rowN k,AVal.int (Int.ofNat k))
theorem range_snoc {α:Type} {f:Nat→α} {k:Nat}:(List.range k).map f ++ [f k]=(List.range (k + 1)).map f:=by
 rw [List.range_succ,List.map_append]; rfl
theorem range_len {α:Type} {f:Nat→α} {k:Nat}:((List.range k).map f).length=k:=by simp
theorem dput_fresh {a u:AVal} (ka:isKey a=true):∀ {M:List (AVal×AVal)},(∀ p∈M,isKey p.1=true∧p.1≠a)→dput a u M=M ++ [(a,u)]
 | [],_=>rfl
 | p :: r,k=>by
  haveI:=Classical.propDecidable (p.1=a)
  rw [dput_key ka (k p List.mem_cons_self).1,if_neg (k p List.mem_cons_self).2,dput_fresh ka fun q m=>k q (List.mem_cons_of_mem _ m)]; rfl
theorem ixN_put (k:Nat):dput (rowN k) (.int (Int.ofNat k)) (ixN k)=ixN (k + 1):=by
 rw [dput_fresh rfl fun p m=>?_]
 ·exact range_snoc
 ·exact (List.mem_map.mp m).elim fun j z=>z.2 ▸ ⟨rfl,fun e=>Nat.ne_of_lt (List.mem_range.mp z.1) (Int.ofNat.inj (AVal.int.inj (List.cons.inj (List.cons.inj (AVal.tup.inj e)).2).1))⟩
theorem fr_upto {c:Cx} {loc:Loc} {KK:KS} {x:Str} {p:Pos} {body rest:List Stmt} {chk:AH→Prop} (ns:List Str) (n:Nat) {I:Nat→AH→Prop} (hk:kdOf x c.sc.names=some .local) (ck:∀ i h1,I i h1→chk h1)
  (step:∀ i loc1 h1,i < n→Lk ns loc loc1→I i h1→∀ K':KS,(∀ loc3 h2,Lk ns loc loc3→I (i + 1) h2→K' .next loc3 h2)→SQ c body (lput x (.int (.ofNat i)) loc1) h1 K')
  (fin:∀ loc1 h1,Lk ns loc loc1→I n h1→SQ c rest loc1 h1 KK) (i:I 0 h):FR c (.Name x p) body rest KK (upto n 0) chk loc h:=by
 have e:=List.length_replicate (n:=n) (a:=())
 rw [← e]
 refine fr_idx ns (List.replicate n ()) hk (I:=fun d _ _ h1=>I d.length h1) (fun d _ _ h1=>ck d.length h1) (fun d a l loc1 h1 e1 L i K' kn=>step d.length loc1 h1 ?_ L i K' fun loc3 h2 L2 i2=>kn loc3 h2 L2 ?_) (fun loc1 h1 L i=>fin loc1 h1 L (e ▸ i)) i
 ·rw [← e,e1,List.length_append]; exact Nat.lt_add_of_pos_right (Nat.succ_pos _)
 ·rw [List.length_append]; exact i2
noncomputable def ones (k:Nat) (i:Int):List AVal:=(List.range k).map fun _=>.int i
abbrev ktNs:List Nm:=[.s 1,.s 2,.s 3,.s 4,.s 5,.s 6]
noncomputable def ktO:AObj:=.inst c_KindTable [("rows",.ref (.s 2)),("index",.ref (.s 3)),("depths",.ref (.s 4)),("weights",.ref (.s 5)),("opens",.ref (.s 6))]
theorem k_KindTable (hm:2≤m) (fin:FinT h) (hf:∀ k,1≤k→k≤6→h (.s k)=none)
  (k:∀ h',Fw ktNs h h'→h' (.s 1)=some ktO→h' (.s 2)=some (.list ((List.range 16).map rowN))→h' (.s 3)=some (.dict (ixN 16))→h' (.s 4)=some (.list (ones 16 1))→h' (.s 5)=some (.list (ones 16 1))→h' (.s 6)=some (.list (ones 16 0))→K .none h'):CF w H0 m f_KindTable___init__ [.ref (.s 1)] (hset h (.s 1) (.inst c_KindTable [])) K:=by
 have e2:=hf 2 (by decide) (by decide)
 have e3:=hf 3 (by decide) (by decide)
 have e4:=hf 4 (by decide) (by decide)
 have e5:=hf 5 (by decide) (by decide)
 have e6:=hf 6 (by decide) (by decide)
 refine cf_run (dN hm rfl) rfl rfl rfl rfl ?_
 walk
 refine no_list (.s 2) (by room) (by seq_fits) ?_
 walk
 refine no_dict (.s 3) (by simp [dputs]) (by seq_fits) ?_
 walk
 refine no_list (.s 4) (by room) (by seq_fits) ?_
 walk
 refine no_list (.s 5) (by room) (by seq_fits) ?_
 walk
 refine no_list (.s 6) (by room) (by seq_fits) ?_
 walk
 refine rg rfl ⟨by decide,?_⟩
 refine fr_upto ["number","row"] 16 rfl (I:=fun k h5=>A7 (Fw ktNs h h5) (h5 (.s 1)=some ktO) (h5 (.s 2)=some (.list ((List.range k).map rowN))) (h5 (.s 3)=some (.dict (ixN k))) (h5 (.s 4)=some (.list (ones k 1))) (h5 (.s 5)=some (.list (ones k 1))) (h5 (.s 6)=some (.list (ones k 0)))) (fun _ _ _=>trivial)
  (fun j loc1 h5 hj L i K' kn=>?_) (fun loc1 h5 L i=>?_) ⟨by lt_chain,by w_end,by w_end,by w_end,by w_end,by w_end,by w_end⟩
 ·obtain ⟨F,f1,f2,f3,f4,f5,f6⟩:=i
  have g4:(ones j 1).length=j:=range_len
  have g6:(ones j 0).length=j:=range_len
  have f1:=f1
  unfold ktO at f1
  walk
  refine si_dict (by w_end) rfl (by simp [ixN]; omega) ?_
  rw [show (AVal.tup [.int 1,.int (Int.ofNat j)])=rowN j from rfl,ixN_put j]
  walk
  have o1:∀ i,ones (j + 1) i=ones j i ++ [.int i]:=fun i=>range_snoc.symm
  exact kn _ _ (by k_ne) ⟨by lt_chain,by w_end,by rw [← range_snoc]; w_end,by w_end,by rw [o1]; w_end,by rw [o1]; w_end,by rw [o1]; w_end⟩
 ·obtain ⟨F,f1,f2,f3,f4,f5,f6⟩:=i
  walk
  exact k _ F f1 f2 f3 f4 f5 f6
section
theorem sa_swap {n b:Nm} {c:Nat} {fs:List (Str×AVal)} {x:Str} {u:AVal} {o:AObj} {KH:AH→Prop} (hb:Nm.eqb n b=false) (h1:attOk c x=true) (h2:Nat.blt fs.length 900=true) (k:KH (hset (hset h b o) n (.inst c (lput x u fs)))):SA (.ref n) x u (hset (hset h n (.inst c fs)) b o) KH:=by
 refine sa (hset_off hb hset_at) h1 h2 ?_
 have e:hset (hset (hset h n (.inst c fs)) b o) n (.inst c (lput x u fs))=hset (hset h b o) n (.inst c (lput x u fs)):=by
  funext m
  rcases nm_cases m n with rfl | e
  ·rw [hset_self,hset_self]
  ·rw [hset_ne e,hset_ne e]
   rcases nm_cases m b with rfl | e2
   ·rw [hset_self,hset_self]
   ·rw [hset_ne e2,hset_ne e2,hset_ne e]
 rw [e]; exact k
local macro_rules | `(tactic| end_int)=>`(tactic| (apply sa_swap; end_none; end_none; end_none))
theorem none_at {ms:List Nm} {h':AH} {n:Nm} (F:Fw ms h h') (t:isT n=false) (q:nin n ms=true) (e:h n=none):h' n=none:=(F.nt n t q).trans e
noncomputable def stO:AObj:=.inst c_Store [("kt",.ref (.s 1)),("types",.ref (.s 7)),("fields_",.ref (.s 8)),("methods",.ref (.s 9)),("names",.ref (.s 10)),("asms",.ref (.s 11)),("entry",.int 0)]
abbrev stNs:List Nm:=[.s 0,.s 1,.s 2,.s 3,.s 4,.s 5,.s 6,.s 7,.s 8,.s 9,.s 10,.s 11]
theorem k_Store (hm:4≤m) (fin:FinT h) (hf:∀ k,1≤k→k≤11→h (.s k)=none)
  (k:∀ h',Fw stNs h h'→h' (.s 0)=some stO→h' (.s 1)=some ktO→h' (.s 2)=some (.list ((List.range 16).map rowN))→h' (.s 3)=some (.dict (ixN 16))→h' (.s 4)=some (.list (ones 16 1))→h' (.s 5)=some (.list (ones 16 1))→h' (.s 6)=some (.list (ones 16 0))→K .none h'):CF w H0 m f_Store___init__ [.ref (.s 0)] (hset h (.s 0) (.inst c_Store [])) K:=by
 refine cf_run (dN hm rfl) rfl rfl rfl rfl ?_
 walk
 have hf':∀ k,1≤k→k≤11→hset h (.s 0) (.inst c_Store []) (.s k)=none:=fun k a b=>hset_none (Nm.eqb_ne (by intro z; injection z with z; omega)) (hf k a b)
 have f0:=hset_at (h:=h) (n:=.s 0) (o:=.inst c_Store [])
 have F0:Fw stNs h (hset h (.s 0) (.inst c_Store [])):=(Fw.refl fin).set (by room)
 generalize hset h (.s 0) (.inst c_Store [])=h0 at *
 refine ni (nm:=.s 1) rfl (hf' 1 (by decide) (by decide)) rfl ?_
 refine k_KindTable (dM hm rfl) F0.fin (fun k a b=>hf' k a (by omega)) fun h1 F1 f1 f2 f3 f4 f5 f6=>?_
 have f0:=F1.old _ _ rfl f0
 have e7:=none_at F1 rfl rfl (hf' 7 (by decide) (by decide))
 have e8:=none_at F1 rfl rfl (hf' 8 (by decide) (by decide))
 have e9:=none_at F1 rfl rfl (hf' 9 (by decide) (by decide))
 have e10:=none_at F1 rfl rfl (hf' 10 (by decide) (by decide))
 have e11:=none_at F1 rfl rfl (hf' 11 (by decide) (by decide))
 have F1:=F0.trans (F1.weak (ms':=stNs) (by room))
 walk
 refine no_list (.s 7) (by first | decide | simp [dputs]) (by seq_fits) ?_
 walk
 refine no_list (.s 8) (by first | decide | simp [dputs]) (by seq_fits) ?_
 walk
 refine no_list (.s 9) (by first | decide | simp [dputs]) (by seq_fits) ?_
 walk
 refine no_dict (.s 10) (by first | decide | simp [dputs]) (by seq_fits) ?_
 walk
 refine no_list (.s 11) (by first | decide | simp [dputs]) (by seq_fits) ?_
 walk
 exact k _ (by lt_chain) (by w_end) (by w_end) (by w_end) (by w_end) (by w_end) (by w_end) (by w_end)
noncomputable def hp0:Hp:=⟨0,0,0,0,16,1000000,0,250001,0,0⟩
abbrev hpNs:List Nm:=[.s 12,.s 13,.g 0 0,.g 1 0,.g 2 0,.g 3 0]
theorem k_Heap (hm:2≤m) (fin:FinT h) (hf:∀ n∈hpNs,h n=none)
  (k:∀ h',Fw hpNs h h'→h' (.s 12)=some hp0.o→h' (.g 0 0)=some (.list [])→h' (.g 1 0)=some (.dict [])→h' (.g 2 0)=some (.dict [])→h' (.g 3 0)=some (.list [])→h' (.s 13)=some (.list [])→K .none h'):CF w H0 m f_Heap___init__ [.ref (.s 12),.int 1000000,.int 3] (hset h (.s 12) (.inst c_Heap [])) K:=by
 have e0:=hf (.s 13) (by room)
 have e1:=hf (.g 0 0) (by room)
 have e2:=hf (.g 1 0) (by room)
 have e3:=hf (.g 2 0) (by room)
 have e4:=hf (.g 3 0) (by room)
 refine cf_run (dN hm rfl) rfl rfl rfl rfl ?_
 walk
 refine no_list (.g 0 0) (by first | decide | simp [dputs]) (by seq_fits) ?_
 walk
 refine no_dict (.g 1 0) (by first | decide | simp [dputs]) (by seq_fits) ?_
 walk
 refine no_dict (.g 2 0) (by first | decide | simp [dputs]) (by seq_fits) ?_
 walk
 refine bi_fdiv (by decide) ?_
 walk
 refine no_list (.g 3 0) (by first | decide | simp [dputs]) (by seq_fits) ?_
 walk
 refine no_list (.s 13) (by first | decide | simp [dputs]) (by seq_fits) ?_
 walk
 exact k _ (by lt_chain) (by w_end) (by w_end) (by w_end) (by w_end) (by w_end) (by w_end)
theorem k_PlaceHost (hm:2≤m) {n:Nm} {a b c:AVal} (k:K .none (hset h n (.inst c_PlaceHost [("heap",a),("frames",b),("statics",c)]))):CF w H0 m f_PlaceHost___init__ [.ref n,a,b,c] (hset h n (.inst c_PlaceHost [])) K:=by
 refine cf_run (dN hm rfl) rfl rfl rfl rfl ?_
 walk
 exact k
noncomputable def shO (sw:AVal):AObj:=.inst c_Shelf [(Str.ofString "store",.ref (.s 0)),(Str.ofString "kt",.ref (.s 1)),(Str.ofString "heap",.ref (.s 12)),(Str.ofString "kin",.ref (.s 15)),(Str.ofString "rows",.ref (.s 16)),(Str.ofString "targets",.ref (.s 17)),(Str.ofString "defaults",.ref (.s 18)),(Str.ofString "unders",.ref (.s 19)),(Str.ofString "finals",.ref (.s 20)),(Str.ofString "frames",.ref (.s 21)),(Str.ofString "by_number",.ref (.s 22)),(Str.ofString "statics",.ref (.s 23)),(Str.ofString "inits",.ref (.s 24)),(Str.ofString "fails",.ref (.s 25)),(Str.ofString "ops",.ref (.s 26)),(Str.ofString "natives",.ref (.s 27)),(Str.ofString "state",.int 0),(Str.ofString "told",.ref (.s 28)),(Str.ofString "thrown",.ref (.g 4 0)),(Str.ofString "calls",.ref (.s 30)),(Str.ofString "pushed",.ref (.s 31)),(Str.ofString "chases",.ref (.s 32)),(Str.ofString "interned",.ref (.s 33)),(Str.ofString "internv",.ref (.s 34)),(Str.ofString "held",.ref (.s 35)),(Str.ofString "result",.none),(Str.ofString "last",.none),(Str.ofString "unhandled",.ref (.s 36)),(Str.ofString "handles",.none),(Str.ofString "places",.ref (.s 37)),(Str.ofString "starter",.ref (.s 38)),(Str.ofString "closer",.ref (.s 39)),(Str.ofString "sweeper",sw)]
abbrev shNs:List Nm:=[.s 14,.s 15,.s 16,.s 17,.s 18,.s 19,.s 20,.s 21,.s 22,.s 23,.s 24,.s 25,.s 26,.s 27,.s 28,.g 4 0,.s 30,.s 31,.s 32,.s 33,.s 34,.s 35,.s 36,.s 37,.s 38,.s 39,.s 40]
structure ShAt (h:AH):Prop where
 fs16:h (.s 16)=some (.dict [])
 fs21:h (.s 21)=some (.list [])
 fs23:h (.s 23)=some (.dict [])
 fs25:h (.s 25)=some (.dict [])
 fs27:h (.s 27)=some (.dict [])
 fs28:h (.s 28)=some (.list [])
 fg40:h (.g 4 0)=some (.list [])
 fs32:h (.s 32)=some (.list [])
 fs33:h (.s 33)=some (.dict [])
 fs34:h (.s 34)=some (.list [])
 fs35:h (.s 35)=some (.list [])
 fs36:h (.s 36)=some (.list [])
theorem k_Shelf (hm:4≤m) (fin:FinT h) (hf:∀ n∈shNs,h n=none) (s0:h (.s 0)=some stO)
  (k:∀ h',Fw shNs h h'→h' (.s 14)=some (shO (.ref (.s 40)))→ShAt h'→K .none h'):CF w H0 m f_Shelf___init__ [.ref (.s 14),.ref (.s 0),.ref (.s 12)] (hset h (.s 14) (.inst c_Shelf [])) K:=by
 unfold stO at s0
 have e0:=hf (.s 15) (by room)
 have e1:=hf (.s 16) (by room)
 have e2:=hf (.s 17) (by room)
 have e3:=hf (.s 18) (by room)
 have e4:=hf (.s 19) (by room)
 have e5:=hf (.s 20) (by room)
 have e6:=hf (.s 21) (by room)
 have e7:=hf (.s 22) (by room)
 have e8:=hf (.s 23) (by room)
 have e9:=hf (.s 24) (by room)
 have e10:=hf (.s 25) (by room)
 have e11:=hf (.s 26) (by room)
 have e12:=hf (.s 27) (by room)
 have e13:=hf (.s 28) (by room)
 have e14:=hf (.g 4 0) (by room)
 have e15:=hf (.s 30) (by room)
 have e16:=hf (.s 31) (by room)
 have e17:=hf (.s 32) (by room)
 have e18:=hf (.s 33) (by room)
 have e19:=hf (.s 34) (by room)
 have e20:=hf (.s 35) (by room)
 have e21:=hf (.s 36) (by room)
 have e22:=hf (.s 37) (by room)
 have e23:=hf (.s 38) (by room)
 have e24:=hf (.s 39) (by room)
 have e25:=hf (.s 40) (by room)
 refine cf_run (dN hm rfl) rfl rfl rfl rfl ?_
 walk
 refine no_dict (.s 15) (by first | decide | simp [dputs]) (by seq_fits) ?_
 walk
 refine no_dict (.s 16) (by first | decide | simp [dputs]) (by seq_fits) ?_
 walk
 refine no_dict (.s 17) (by first | decide | simp [dputs]) (by seq_fits) ?_
 walk
 refine no_dict (.s 18) (by first | decide | simp [dputs]) (by seq_fits) ?_
 walk
 refine no_dict (.s 19) (by first | decide | simp [dputs]) (by seq_fits) ?_
 walk
 refine no_dict (.s 20) (by first | decide | simp [dputs]) (by seq_fits) ?_
 walk
 refine no_list (.s 21) (by first | decide | simp [dputs]) (by seq_fits) ?_
 walk
 refine no_dict (.s 22) (by first | decide | simp [dputs]) (by seq_fits) ?_
 walk
 refine no_dict (.s 23) (by first | decide | simp [dputs]) (by seq_fits) ?_
 walk
 refine no_dict (.s 24) (by first | decide | simp [dputs]) (by seq_fits) ?_
 walk
 refine no_dict (.s 25) (by first | decide | simp [dputs]) (by seq_fits) ?_
 walk
 refine no_dict (.s 26) (by first | decide | simp [dputs]) (by seq_fits) ?_
 walk
 refine no_dict (.s 27) (by first | decide | simp [dputs]) (by seq_fits) ?_
 walk
 refine no_list (.s 28) (by first | decide | simp [dputs]) (by seq_fits) ?_
 walk
 refine no_list (.g 4 0) (by first | decide | simp [dputs]) (by seq_fits) ?_
 walk
 refine no_list (.s 30) (by first | decide | simp [dputs]) (by seq_fits) ?_
 walk
 refine no_list (.s 31) (by first | decide | simp [dputs]) (by seq_fits) ?_
 walk
 refine no_list (.s 32) (by first | decide | simp [dputs]) (by seq_fits) ?_
 walk
 refine no_dict (.s 33) (by first | decide | simp [dputs]) (by seq_fits) ?_
 walk
 refine no_list (.s 34) (by first | decide | simp [dputs]) (by seq_fits) ?_
 walk
 refine no_list (.s 35) (by first | decide | simp [dputs]) (by seq_fits) ?_
 walk
 refine no_list (.s 36) (by first | decide | simp [dputs]) (by seq_fits) ?_
 walk
 refine ni (nm:=(.s 37)) rfl (by seq_fits) rfl ?_
 refine k_PlaceHost (dM hm rfl) ?_
 walk
 refine ni0 (nm:=(.s 38)) rfl (by seq_fits) rfl ?_
 walk
 refine ni0 (nm:=(.s 39)) rfl (by seq_fits) rfl ?_
 walk
 refine ni0 (nm:=(.s 40)) rfl (by seq_fits) rfl ?_
 walk
 exact k _ (by lt_chain) (by w_end) ⟨by w_end,by w_end,by w_end,by w_end,by w_end,by w_end,by w_end,by w_end,by w_end,by w_end,by w_end,by w_end⟩
noncomputable def frO (lo:AVal):AObj:=.inst c_Frame [("number",.int 1),("mref",.tup [.int 12,.int 1,.tup []]),("body",.none),("ip",.int 0),("args",.ref (.s 43)),("locals_",lo),("stack",.ref (.s 45)),("conts",.ref (.s 46)),("caught",.ref (.s 47)),("caughtv",.ref (.s 48)),("keep",.ref (.s 49)),("sort",.int 0),("home",.int 1),("extra",.int 0),("prefix",.int (-1))]
abbrev frNs:List Nm:=[.s 42,.s 45,.s 46,.s 47,.s 48,.s 49,.s 50]
theorem k_Frame (hm:2≤m) (fin:FinT h) (hf:∀ n∈frNs,h n=none)
  (k:∀ h',Fw frNs h h'→h' (.s 42)=some (frO (.ref (.s 50)))→h' (.s 45)=some (.list [])→h' (.s 48)=some (.list [])→h' (.s 49)=some (.list [])→K .none h'):CF w H0 m f_Frame___init__ [.ref (.s 42),.int 1,.tup [.int 12,.int 1,.tup []],.none,.ref (.s 43),.int 0] (hset h (.s 42) (.inst c_Frame [])) K:=by
 have e45:=hf (.s 45) (by room)
 have e46:=hf (.s 46) (by room)
 have e47:=hf (.s 47) (by room)
 have e48:=hf (.s 48) (by room)
 have e49:=hf (.s 49) (by room)
 have e50:=hf (.s 50) (by room)
 refine cf_run (dN hm rfl) rfl rfl rfl rfl ?_
 walk
 refine no_list (.s 50) (by first | decide | simp [dputs]) (by seq_fits) ?_
 walk
 refine no_list (.s 45) (by first | decide | simp [dputs]) (by seq_fits) ?_
 walk
 refine no_list (.s 46) (by first | decide | simp [dputs]) (by seq_fits) ?_
 walk
 refine no_list (.s 47) (by first | decide | simp [dputs]) (by seq_fits) ?_
 walk
 refine no_list (.s 48) (by first | decide | simp [dputs]) (by seq_fits) ?_
 walk
 refine no_list (.s 49) (by first | decide | simp [dputs]) (by seq_fits) ?_
 walk
 exact k _ (by lt_chain) (by w_end) (by w_end) (by w_end) (by w_end)
abbrev naNs:List Nm:=[.s 27,.s 51,.s 52,.s 53,.s 54,.s 55,.s 56,.s 57,.s 58,.s 59]
theorem k_natives (hm:2≤m) {sw:AVal} (fin:FinT h) (hf:∀ n∈naNs.drop 1,h n=none) (f14:h (.s 14)=some (shO sw)) (f27:h (.s 27)=some (.dict []))
  (k:∀ h',Fw naNs h h'→h' (.s 27)=some (.dict (natL.take 9))→h' (.s 51)=some (.inst c_TextConcat [])→h' (.s 52)=some (.inst c_TextLength [])→h' (.s 54)=some (.inst c_TextSame [])→h' (.s 55)=some (.inst c_TextEquals [])→h' (.s 56)=some (.inst c_TextHash [])→h' (.s 57)=some (.inst c_TextPart [])→K .none h'):CF w H0 m f_install_native_text [.ref (.s 14)] h K:=by
 unfold shO at f14
 have e51:=hf (.s 51) (by room)
 have e52:=hf (.s 52) (by room)
 have e53:=hf (.s 53) (by room)
 have e54:=hf (.s 54) (by room)
 have e55:=hf (.s 55) (by room)
 have e56:=hf (.s 56) (by room)
 have e57:=hf (.s 57) (by room)
 have e58:=hf (.s 58) (by room)
 have e59:=hf (.s 59) (by room)
 refine cf_run (dN hm rfl) rfl rfl rfl rfl ?_
 walk
 refine ni0 (nm:=.s 51) rfl (by seq_fits) rfl ?_
 walk
 refine si_dict (by w_end) rfl (by decide) ?_
 rw [show dput (.int 1) (.ref (.s 51)) []=natL.take 1 by kernel_rfl]
 walk
 refine ni0 (nm:=.s 52) rfl (by seq_fits) rfl ?_
 walk
 refine si_dict (by w_end) rfl (by decide) ?_
 rw [show dput (.int 2) (.ref (.s 52)) (natL.take 1)=natL.take 2 by kernel_rfl]
 walk
 refine ni0 (nm:=.s 53) rfl (by seq_fits) rfl ?_
 walk
 refine si_dict (by w_end) rfl (by decide) ?_
 rw [show dput (.int 3) (.ref (.s 53)) (natL.take 2)=natL.take 3 by kernel_rfl]
 walk
 refine ni0 (nm:=.s 54) rfl (by seq_fits) rfl ?_
 walk
 refine si_dict (by w_end) rfl (by decide) ?_
 rw [show dput (.int 4) (.ref (.s 54)) (natL.take 3)=natL.take 4 by kernel_rfl]
 walk
 refine ni0 (nm:=.s 55) rfl (by seq_fits) rfl ?_
 walk
 refine si_dict (by w_end) rfl (by decide) ?_
 rw [show dput (.int 5) (.ref (.s 55)) (natL.take 4)=natL.take 5 by kernel_rfl]
 walk
 refine ni0 (nm:=.s 56) rfl (by seq_fits) rfl ?_
 walk
 refine si_dict (by w_end) rfl (by decide) ?_
 rw [show dput (.int 6) (.ref (.s 56)) (natL.take 5)=natL.take 6 by kernel_rfl]
 walk
 refine ni0 (nm:=.s 57) rfl (by seq_fits) rfl ?_
 walk
 refine si_dict (by w_end) rfl (by decide) ?_
 rw [show dput (.int 7) (.ref (.s 57)) (natL.take 6)=natL.take 7 by kernel_rfl]
 walk
 refine ni0 (nm:=.s 58) rfl (by seq_fits) rfl ?_
 walk
 refine si_dict (by w_end) rfl (by decide) ?_
 rw [show dput (.int 8) (.ref (.s 58)) (natL.take 7)=natL.take 8 by kernel_rfl]
 walk
 refine ni0 (nm:=.s 59) rfl (by seq_fits) rfl ?_
 walk
 refine si_dict (by w_end) rfl (by decide) ?_
 rw [show dput (.int 9) (.ref (.s 59)) (natL.take 8)=natL.take 9 by kernel_rfl]
 walk
 exact k _ (by lt_chain) (by w_end) (by w_end) (by w_end) (by w_end) (by w_end) (by w_end) (by w_end)
theorem k_native_type (hm:2≤m) {sw:AVal} (fin:FinT h) (e62:h (.s 62)=none) (f14:h (.s 14)=some (shO sw)) (f27:h (.s 27)=some (.dict (natL.take 9)))
  (k:∀ h',Fw [.s 27,.s 62] h h'→h' (.s 27)=some (.dict natL)→h' (.s 62)=some (.inst c_TypeFrom [])→K .none h'):CF w H0 m f_install_native_type [.ref (.s 14)] h K:=by
 unfold shO at f14
 refine cf_run (dN hm rfl) rfl rfl rfl rfl ?_
 walk
 refine ni0 (nm:=.s 62) rfl (by seq_fits) rfl ?_
 walk
 refine si_dict (by w_end) rfl (by decide) ?_
 rw [show dput (.int 40) (.ref (.s 62)) (natL.take 9)=natL by kernel_rfl]
 walk
 exact k _ (by lt_chain) (by w_end) (by w_end)
end
theorem nodup_len:∀ {a b:List Nat},a.Nodup→(∀ x∈a,x∈b)→a.length≤b.length
 | [],_,_,_=>Nat.zero_le _
 | x :: r,b,d,s=>by
  obtain ⟨d1,d2⟩:=List.nodup_cons.mp d
  have mx:=s x List.mem_cons_self
  have:=nodup_len (a:=r) (b:=b.erase x) d2 fun y my=>by
   have ne:y≠x:=by rintro rfl; exact d1 my
   exact (List.mem_erase_of_ne ne).mpr (s y (List.mem_cons_of_mem _ my))
  rw [List.length_erase_of_mem mx] at this
  have:0 < b.length:=List.length_pos_of_mem mx
  rw [List.length_cons]; omega
theorem ser_nodup:∀ {ts:List Th},Apart ts→(ts.map (·.ser)).Nodup
 | [],_=>List.nodup_nil
 | t :: r,x=>by
  rw [List.map_cons,List.nodup_cons]
  refine ⟨fun z=>?_,ser_nodup x.2.2⟩
  obtain ⟨u,mu,e⟩:=List.mem_map.mp z
  exact x.2.1 u mu e
theorem keptAt_some {v:SV} {t:Nat}:∀ {l:List (SV×Nat)},(v,t)∈l→(keptAt v l).isSome=true
 | [],e=>absurd e List.not_mem_nil
 | p :: r,e=>by
  rw [keptAt]
  by_cases q:p.1=v
  ·rw [if_pos q]; rfl
  ·rw [if_neg q]
   rcases List.mem_cons.mp e with z | z
   ·rw [← z] at q; exact absurd rfl q
   ·exact keptAt_some z
theorem full_len {S:Ms} {rows:List SV} {marks:Mk} {many:Int} {x':Hp} {h':AH} (A:LAt S rows marks many h) (A':LAt (gone S 2 x') rows marks many h'):(refs (gone S 2 x').ts).length=((heldN (gone S 2 x')).map nInt).length:=by
 rw [refs_len,List.length_map]
 have ap:=A'.x.hp.ap
 have e1:((gone S 2 x').ts.map (·.ser)).length=(gone S 2 x').ts.length:=List.length_map ..
 have hd:heldN (gone S 2 x')=heldN S:=rfl
 refine Nat.le_antisymm ?_ ?_
 ·rw [← e1]
  refine nodup_len (ser_nodup ap) fun s ms=>?_
  obtain ⟨t,mt,rfl⟩:=List.mem_map.mp ms
  have mt:t∈(S.ts.filter (stF 2 (markAll S.ts 2 [] (rootsL S)))).map (upd 2):=mt
  obtain ⟨u,mu,rfl⟩:=List.mem_map.mp mt
  obtain ⟨mu,q⟩:=List.mem_filter.mp mu
  rw [upd_ser,hd]
  have g2:=(A.b.o.gen u mu).2
  unfold stF at q
  rw [decide_eq_false (by omega),Bool.false_or] at q
  have q:=of_decide_eq_true q
  rcases markAll_sound q with z | ⟨p,mp,r,z,_⟩
  ·cases z
  ·refine heldN_mem.mpr ⟨?_,by omega⟩
   unfold rootsL at mp
   rw [A.b.he] at mp
   simp only [List.append_nil,List.mem_append,List.mem_cons,List.not_mem_nil,or_false] at mp
   rcases mp with (rfl | rfl | rfl | rfl | rfl | rfl) | rfl
   ·cases r
   ·obtain ⟨c,mc,e⟩:=List.mem_map.mp r
    injection e with e
    rw [← e]; exact .inl mc
   ·cases r
   ·cases r
   ·cases r
   ·obtain ⟨c,mc,e⟩:=List.mem_map.mp r
    injection e with e
    exact .inr ⟨c,mc,e⟩
   ·cases r
 ·rw [← e1]
  have nd:(heldN (gone S 2 x')).Nodup:=fold_nodup List.nodup_nil
  refine nodup_len nd fun s ms=>?_
  obtain ⟨t,mt,e⟩:=held_in A' ms
  exact List.mem_map.mpr ⟨t,mt,e⟩
theorem LAt.newS {S:Ms} {rows:List SV} {marks:Mk} {many:Int} {k:Nat} {o:AObj} (A:LAt S rows marks many h) (hk:Nat.ble 68 k=true):LAt S rows (marks.1,fun i=>if i=k then some o else marks.2 i) many (hset h (.s k) o):=by
 have hk':68≤k:=Nat.le_of_ble_eq_true hk
 have F:Fw [.s k] h (hset h (.s k) o):=(Fw.refl A.x.fin).set (by room)
 have ns:∀ j,j < 68→nin (.s j) [.s k]=true:=fun j q=>nin_sub' fun a ma z=>by
  rw [List.mem_singleton.mp ma] at z; injection z with z; omega
 refine ⟨A.x.fw F ?_,A.b,F.old _ _ (ns _ (by decide)) A.w,⟨F.old _ _ (ns _ (by decide)) A.o.cells,F.old _ _ (ns _ (by decide)) A.o.kept,F.old _ _ (ns _ (by decide)) A.o.rws,fun i v e=>F.old _ _ rfl (A.o.slots i v e),fun e q=>by rw [F.nt _ rfl rfl]; exact A.o.nog e q,F.old _ _ (ns _ (by decide)) A.o.mrk,fun j q=>?_⟩,⟨A.s.len,A.s.val,A.s.vok,A.s.kv,A.s.mok⟩⟩
 ·show (okM (.s k) && true)=true
  rw [Bool.and_true]
  show Nat.ble 63 k=true
  exact Nat.ble_eq_true_of_le (by omega)
 ·by_cases e:j=k
  ·subst e
   rw [hset_at]; exact (if_pos rfl).symm
  ·rw [hset_ne (by intro z; injection z with z; exact e z),A.o.tmp j q]
   exact (if_neg e).symm
theorem LAt.got {S:Ms} {rows:List SV} {l:List Str} {g:Nat→Option AObj} {many:Int} {k:Nat} {o:AObj} (A:LAt S rows (l,fun i=>if i=k then some o else g i) many h) (hk:Nat.ble 68 k=true):h (.s k)=some o :=
 (A.o.tmp k (Nat.le_of_ble_eq_true hk)).trans (by room)
theorem k_law_end (hm:56≤m) {S:Ms} {rows:List SV} {marks:Mk} {many:Int} (A:LAt S rows marks many h) (hmd:S.md < 249) (hml:marks.1.length < 700000) (h69:marks.2 69=none)
  (k:∀ h',K (.bool true) h'):CF w H0 m f__law_end [.ref (.s 63)] h K:=by
 have hw:=A.w
 have c64:=A.o.cells
 obtain ⟨c0,u0,e0,t0⟩:=cell_at A (i:=0) (by decide)
 obtain ⟨c1,u1,e1,t1⟩:=cell_at A (i:=1) (by decide)
 obtain ⟨c2,u2,e2,t2⟩:=cell_at A (i:=2) (by decide)
 refine cf_run (dN hm rfl) rfl rfl rfl rfl ?_
 walk
 refine gi_list (j:=0) c64 rfl (nthV_map (a:=c0) e0) ?_
 walk
 refine gi_list (j:=1) c64 rfl (nthV_map (a:=c1) e1) ?_
 walk
 refine k_law_alike (dM hm rfl) A (by omega) t0 t1 fun S1 mk1 many1 h1 A1 n1 n1' ec1 ek1 et1 em1=>?_
 have c64':=A1.o.cells
 rw [ec1] at c64'
 rw [← et1] at t0 t1 t2
 clear c64
 walk
 refine gi_list (j:=1) c64' rfl (nthV_map (a:=c1) e1) ?_
 walk
 refine gi_list (j:=2) c64' rfl (nthV_map (a:=c2) e2) ?_
 walk
 refine k_law_alike (dM hm rfl) A1 (by omega) t1 t2 fun S2 mk2 many2 h2 A2 n2 n2' ec2 ek2 et2 em2=>?_
 have c64:=A2.o.cells
 rw [ec2,ec1] at c64
 rw [← et2] at t0 t1 t2
 clear c64'
 walk
 refine gi_list (j:=2) c64 rfl (nthV_map (a:=c2) e2) ?_
 walk
 refine gi_list (j:=0) c64 rfl (nthV_map (a:=c0) e0) ?_
 walk
 refine k_law_alike (dM hm rfl) A2 (by omega) t2 t0 fun S3 mk3 many3 h3 A3 n3 n3' ec3 ek3 et3 em3=>?_
 have w3:=A3.w
 walk
 refine k_law_gone (dM hm rfl) A3 fun h4 x4 A4 em4=>?_
 have w4:=A4.w
 have f14:=A4.x.m
 unfold mO at f14
 have hh:=A4.x.hp.hp
 unfold Hp.o heapO at hh
 have ht:=A4.x.hp.things
 walk
 refine k_law_held (dM hm rfl) A4 fun h5 j5 F5 hj5 e5=>?_
 walk
 refine vi_f (by rw [full_len A3 A4,pq_refl _ rfl]; rfl) ?_
 have A5:=A4.fw F5
 walk
 refine k_law_same (dM hm rfl) A5 ?_
 have w5:=A5.w
 have k5:=A5.o.kept
 walk
 have md5:(gone S3 2 x4).md < 249:=by
  show x4.made.toNat < 249
  rw [em4,em3,em2,em1]; exact hmd
 have mk69:mk3.2 69=none:=by rw [n3',n2',n1']; exact h69
 generalize gone S3 2 x4=S5 at *
 clear hw w3 w4 f14 hh ht e5 A4 A3 A2 A1 A F5 em4 c64
 have f69:h5 (.s 69)=none:=(A5.o.tmp 69 (by decide)).trans mk69
 have hk5:S5.kept.length≤1000000:=le_le (Nat.le_trans A5.b.o.kept (Nat.le_of_lt md5)) rfl
 refine sl_list k5 rfl ?_
 refine no_list (.s 69) (by rw [List.length_map]; exact hk5) f69 ?_
 have A6:=A5.newS (k:=69) (o:=.list (S5.kept.map keptRow)) rfl
 clear A5 k5 w5
 generalize hset h5 (.s 69) (.list (S5.kept.map keptRow))=h6 at *
 have f69:∀ {S rows many h},LAt S rows (mk3.1,fun i=>if i=69 then some (.list (S5.kept.map keptRow)) else mk3.2 i) many h→h (.s 69)=some (.list (S5.kept.map keptRow)):=fun A=>A.got rfl
 have g69:=f69 A6
 walk
 refine fr_two ["key","a","good"] "key" "a" (fun p:SV×Nat=>p.1.lkey) (fun p=>.int (Int.ofNat p.2)) S5.kept (fun _ _=>rfl) (I:=fun _ _ _ h7=>Q3 fun S7 rows7 many7=>A3 (LAt S7 rows7 (mk3.1,fun i=>if i=69 then some (.list (S5.kept.map keptRow)) else mk3.2 i) many7 h7) (S7.kept=S5.kept) (S7.md=S5.md)) (fun _ _ _ _ i=>i.casesOn fun _ _ _ i=>i.casesOn fun A7 _ _=>f69 A7)
  (fun d ⟨v,s⟩ l loc1 h7 ed L i K' kn=>?_) (fun loc1 h7 L i=>?_) ⟨S5,rows,_,A6,rfl,rfl⟩
 ·obtain ⟨S7,rows7,many7,A7,ek,em⟩:=i
  have mp:(v,s)∈S7.kept:=by rw [ek]; exact mem_mid ed
  have hr:=A7.o.rws
  have w7:=A7.w
  have kv:=A7.s.kv _ mp
  have vk:=A7.s.vok _ (List.mem_of_getElem? kv.2)
  walk
  refine gi_dict hr rfl (row_look kv.1 kv.2) ?_
  have last:∀ {S8 rows8 many8 h8},LAt S8 rows8 (mk3.1,fun i=>if i=69 then some (.list (S5.kept.map keptRow)) else mk3.2 i) many8 h8→Nx S7 S8 v h7 h8→S8.kept=S5.kept∧S8.md=S5.md:=fun A8 n=>by
   have:=n.same (keptAt_some mp)
   exact ⟨this.2.trans ek,this.1.trans em⟩
  cases v with
  | txt x =>
   walk
   refine k_law_word (x:=0) (mode:=2) (dM hm rfl) A7 (by rw [em]; exact md5) vk (by decide) (by decide) fun S8 rows8 many8 h8 A8 n=>?_
   have w8:=A8.w
   have e8:=last A8 n
   walk
   refine k_law_same (dM hm rfl) A8 ?_
   walk
   exact kn _ _ (by k_ne) ⟨S8,rows8,many8,A8,e8.1,e8.2⟩
  | knd c =>
   walk
   refine k_law_type (x:=0) (mode:=2) (dM hm rfl) A7 (by rw [em]; exact md5) (by decide) (by decide) fun S8 rows8 many8 h8 A8 n=>?_
   have w8:=A8.w
   have e8:=last A8 n
   walk
   refine k_law_same (dM hm rfl) A8 ?_
   walk
   exact kn _ _ (by k_ne) ⟨S8,rows8,many8,A8,e8.1,e8.2⟩
 ·walk
  exact k _
abbrev tyR:AVal:=.tup [.int 2,.int 51,.tup []]
theorem k_inner (hm:2≤m) (k:K (.tup []) h):CF w H0 m f_inner_kinds [tyR] h K:=by
 refine cf_run (dN hm rfl) rfl rfl rfl rfl ?_
 walk
 all_goals exact k
theorem k_row_level (hm:2≤m) (k:K (.int 1) h):CF w H0 m f_row_level [.int 2] h K:=by
 refine cf_run (dN hm rfl) rfl rfl rfl rfl ?_
 walk
 all_goals exact k
theorem k_row_length (hm:2≤m) (k:K (.int 3) h):CF w H0 m f_row_length [.int 2] h K:=by
 refine cf_run (dN hm rfl) rfl rfl rfl rfl ?_
 walk
 all_goals exact k
theorem k_check_args (hm:2≤m) {n:AVal} (k:K .none h):CF w H0 m f_check_args [n,.tup []] h K:=by
 refine cf_run (dN hm rfl) rfl rfl rfl rfl ?_
 walk
 refine fr_nil trivial ?_
 walk
 all_goals exact k
theorem k_check_named (hm:4≤m) {n:AVal} (k:K .none h):CF w H0 m f_check_named [n,tyR] h K:=by
 refine cf_run (dN hm rfl) rfl rfl rfl rfl ?_
 walk
 refine cm_in_kd rfl ?_
 rw [show dlk (.int 51) kdL=none by kernel_rfl]
 walk
 refine k_check_args (dM hm rfl) ?_
 walk
 all_goals exact k
theorem k_check_row (hm:6≤m) {n:AVal} (k:K .none h):CF w H0 m f_check_kind_row [n,tyR] h K:=by
 refine cf_run (dN hm rfl) rfl rfl rfl rfl ?_
 walk
 refine k_row_length (dM hm rfl) ?_
 walk
 refine k_inner (dM hm rfl) ?_
 walk
 refine fr_nil trivial ?_
 walk
 refine k_check_named (dM hm rfl) ?_
 walk
 all_goals exact k
theorem k_put_new (hm:8≤m) (fin:FinT h) (f1:h (.s 1)=some ktO) (f2:h (.s 2)=some (.list ((List.range 16).map rowN))) (f3:h (.s 3)=some (.dict (ixN 16))) (f4:h (.s 4)=some (.list (ones 16 1))) (f5:h (.s 5)=some (.list (ones 16 1))) (f6:h (.s 6)=some (.list (ones 16 0)))
  (k:∀ h',Fw [.s 2,.s 3,.s 4,.s 5,.s 6] h h'→h' (.s 2)=some (.list kRowsL)→h' (.s 3)=some (.dict kIndexL)→K (.int 16) h'):CF w H0 m f_KindTable_put [.ref (.s 1),tyR] h K:=by
 unfold ktO at f1
 refine cf_run (dN hm rfl) rfl rfl rfl rfl ?_
 walk
 refine me_get2 f3 rfl ?_
 rw [show (dlk tyR (ixN 16)).getD (.int (-1)) = .int (-1) by kernel_rfl]
 walk
 refine k_check_row (dM hm rfl) ?_
 walk
 refine k_row_level (dM hm rfl) ?_
 walk
 refine k_inner (dM hm rfl) ?_
 walk
 refine fr_nil trivial ?_
 have g2:((List.range 16).map rowN).length=16:=range_len
 have g4:(ones 16 1).length=16:=range_len
 have g6:(ones 16 0).length=16:=range_len
 walk
 rw [g2]
 refine si_dict (by w_end) rfl (by simp [ixN]) ?_
 rw [show dput tyR (.int ((16:Nat):Int)) (ixN 16)=kIndexL by kernel_rfl]
 walk
 exact k _ (by lt_chain) (by w_end) (by w_end)
noncomputable def Fresh (U:List Nm) (h:AH):Prop:=∀ n,isT n=false→nin n U=true→h n=none
theorem nin_split {n:Nm}:∀ {a b:List Nm},nin n (a ++ b)=true→nin n a=true∧nin n b=true
 | [],_,e=>⟨rfl,e⟩
 | x :: a,b,e=>by
  have e:(!(Nm.eqb n x) && nin n (a ++ b))=true:=e
  rw [Bool.and_eq_true] at e
  have:=nin_split e.2
  exact ⟨by show (!(Nm.eqb n x) && nin n a)=true; rw [e.1,this.1]; rfl,this.2⟩
theorem Fresh.fw {U ms:List Nm} {h':AH} (x:Fresh U h) (F:Fw ms h h'):Fresh (ms ++ U) h':=fun n t q =>
 let s:=nin_split q
 (F.nt n t s.1).trans (x n t s.2)
theorem Fw.cat {a b:List Nm} {h h1 h2:AH} (x:Fw a h h1) (y:Fw b h1 h2):Fw (a ++ b) h h2 :=
 (x.weak fun m mm=>List.mem_append_left _ mm).trans (y.weak fun m mm=>List.mem_append_right _ mm)
theorem Fresh.all {U:List Nm} (x:Fresh U h) {ms:List Nm} (e:(ms.all fun n=>!(isT n) && nin n U)=true):∀ n∈ms,h n=none:=fun n mn=>by
 have:=List.all_eq_true.mp e n mn
 rw [Bool.and_eq_true] at this
 exact x n (by simpa using this.1) this.2
theorem Fresh.upto {U:List Nm} (x:Fresh U h) {B:Nat} (e:((List.range (B + 1)).all fun k=>Nat.beq k 0 || nin (.s k) U)=true):∀ k,1≤k→k≤B→h (.s k)=none:=fun k a b=>by
 have:=List.all_eq_true.mp e k (List.mem_range.mpr (by omega))
 rw [Bool.or_eq_true] at this
 rcases this with z | z
 ·have:=Nat.eq_of_beq_eq_true z; omega
 ·exact x _ rfl z
theorem no_dictE {d d':List (AVal×AVal)} (e:d=d') (m:Nm) (hl:d'.length≤1000000) (hn:h m=none) (k:K (.ref m) (hset h m (.dict d'))):NO (.dict d) h K:=by
 subst e; exact no_dict m hl hn k
noncomputable def S0:Ms:=⟨hp0,[],[0,0,0],[],[],[],0,false⟩
structure Laid (h:AH):Prop where
 fix:Fix h
 m:h (.s 14)=some (mO 0 false)
 thrown:h (.g 4 0)=some (.list [])
 s33:h (.s 33)=some (.dict [])
 s34:h (.s 34)=some (.list [])
 s35:h (.s 35)=some (.list [])
 s36:h (.s 36)=some (.list [])
 s43:h (.s 43)=some (.list [])
 s44:h (.s 44)=some (.list [.tup [.int 4,.int 0],.tup [.int 4,.int 0],.tup [.int 4,.int 0]])
 s45:h (.s 45)=some (.list [])
 s48:h (.s 48)=some (.list [])
 s49:h (.s 49)=some (.list [])
 s12:h (.s 12)=some hp0.o
 g0:h (.g 0 0)=some (.list [])
 g1:h (.g 1 0)=some (.dict [])
 g2:h (.g 2 0)=some (.dict [])
 g3:h (.g 3 0)=some (.list [])
 s13:h (.s 13)=some (.list [])
 s63:h (.s 63)=some (wO 0)
 s64:h (.s 64)=some (.list [.int 0,.int 0,.int 0])
 s65:h (.s 65)=some (.list [])
 s66:h (.s 66)=some (.dict [])
 s67:h (.s 67)=some (.dict [])
 fin:FinT h
 fr:h (.s 60)=none∧h (.s 61)=none∧∀ k,h (.th k)=none∧h (.sl k)=none∧h (.g 9 k)=none
theorem Laid.at0 (L:Laid h):LAt S0 [] ([],fun k=>h (.s k)) 0 h:=by
 refine ⟨⟨L.fix,L.m,L.thrown,L.s33,L.s35,fun p mp=>?_,⟨L.s12,L.g0,L.g1,L.g2,L.g3,L.s13,trivial,trivial⟩,(fun e=>by cases e),fun _=>⟨L.fr.1,L.fr.2.1⟩,L.fin,(fun p mp=>by cases mp),List.nodup_nil,(fun t mt=>by cases mt),fun s _=>⟨(L.fr.2.2 s).1,(L.fr.2.2 s).2.1⟩⟩,
  ⟨⟨trivial,rfl,by decide,by decide,(fun t mt=>by cases mt),rfl,by decide,by decide,by decide⟩,(fun p mp=>by cases mp),by decide,rfl,rfl,by decide,by decide⟩,L.s63,
  ⟨L.s64,L.s65,L.s66,(fun i v e=>by simp at e),fun e _=>(L.fr.2.2 e).2.2,L.s67,fun k _=>rfl⟩,⟨rfl,(fun t mt=>by cases mt),(fun t mt=>by cases mt),(fun t mt=>by cases mt),(fun t mt=>by cases mt)⟩⟩
 have mp:p∈([(.s 43,[]),(.s 44,[.ref 0,.ref 0,.ref 0]),(.s 45,[]),(.s 49,[]),(.s 48,[]),(.s 34,[]),(.s 36,[])]:List (Nm×List HV)):=mp
 simp only [List.mem_cons,List.not_mem_nil,or_false] at mp
 rcases mp with rfl | rfl | rfl | rfl | rfl | rfl | rfl
 ·exact ⟨L.s43,fun v mv=>by cases mv⟩
 ·refine ⟨L.s44,fun v mv=>?_⟩
  simp only [List.mem_cons,List.not_mem_nil,or_false] at mv
  rcases mv with rfl | rfl | rfl <;> exact .inl rfl
 ·exact ⟨L.s45,fun v mv=>by cases mv⟩
 ·exact ⟨L.s49,fun v mv=>by cases mv⟩
 ·exact ⟨L.s48,fun v mv=>by cases mv⟩
 ·exact ⟨L.s34,fun v mv=>by cases mv⟩
 ·exact ⟨L.s36,fun v mv=>by cases mv⟩
section
local macro_rules | `(tactic| seq_fits)=>`(tactic| ((repeat (refine hset_none rfl ?_)); first | assumption | exact Fresh.fw (by assumption) (by assumption)))
local macro_rules | `(tactic| end_int)=>`(tactic| (apply dk; kernel_rfl))
noncomputable def allAt (h:AH):List (Nat×AObj)→Prop
 | []=>True
 | p :: r=>h (.s p.1)=some p.2∧allAt h r
theorem allAt_mem:∀ {l:List (Nat×AObj)},allAt h l→∀ p∈l,h (.s p.1)=some p.2
 | [],_,_,m=>absurd m List.not_mem_nil
 | p :: r,x,q,mq=>by
  rcases List.mem_cons.mp mq with rfl | mq
  ·exact x.1
  ·exact allAt_mem x.2 q mq
theorem fix_of (x:allAt h fixTab):Fix h:=allAt_mem x
noncomputable def seven:List Nat:=[539,335,1220,5837,2187,511,29200]
noncomputable def first3:List (Nat×Str):=[(0,"ab"),(0,"a"),(1,"ab")]
theorem first3_ok:∀ p∈first3,p.1 < 3∧tOk p.2:=by
 have a:tOk "ab":=⟨by decide +kernel,by decide +kernel⟩
 have b:tOk "a":=⟨by decide +kernel,by decide +kernel⟩
 intro p m
 rcases m with _ | ⟨_,_ | ⟨_,_ | ⟨_,m⟩⟩⟩
 ·exact ⟨by decide,a⟩
 ·exact ⟨by decide,b⟩
 ·exact ⟨by decide,a⟩
 ·exact nomatch m
theorem LAt.got' {S:Ms} {rows:List SV} {l:List Str} {g:Nat→Option AObj} {many:Int} {o:AObj} (A:LAt S rows (l,fun i=>if i=73 then some o else g i) many h):h (.s 73)=some o:=A.got rfl
theorem k_law (hm:70≤m) {ns:List Int} (fin:FinT h) (fr:Fresh [] h)
  (k:∀ h',K (.bool true) h'):CF w H0 m f_law [.sl ns] h K:=by
 refine cf_run (dN hm rfl) rfl rfl rfl rfl ?_
 refine s_asgC rfl rfl (fun _ _=>rfl) rfl ?_
 walk
 refine sl_sl (l2:=(ns.map AVal.int).take 18) rfl ?_
 have l18:((ns.map AVal.int).take 18).length≤18:=List.length_take_le ..
 rw [← List.map_take] at l18 ⊢
 have l18:(ns.take 18).length≤18:=by simpa using l18
 generalize ns.take 18=ms at *
 refine no_list (.s 72) (by rw [List.length_map]; exact le_le l18 rfl) (fr _ rfl rfl) ?_
 have F0:Fw [.s 72] h (hset h (.s 72) (.list (ms.map AVal.int))):=(Fw.refl fin).set (by room)
 have e0:=hset_at (h:=h) (n:=.s 72) (o:=.list (ms.map AVal.int))
 generalize hset h (.s 72) (.list (ms.map AVal.int))=h0 at *
 have fr:=fr.fw F0
 refine it_list e0 ⟨by rw [List.length_map]; exact le_le l18 rfl,?_⟩
 refine cl_map AVal.int (fun i=>nInt (i.fmod 999983).toNat) ms e0 (fun i mi K' kk=>?_) ?_
 ·walk
  refine bi_mod (by decide) ?_
  rw [show i.fmod 999983=Int.ofNat (i.fmod 999983).toNat from (Int.toNat_of_nonneg (Int.fmod_nonneg_of_pos i (by decide))).symm]
  exact kk
 rw [show (ms.map fun i=>nInt (i.fmod 999983).toNat)=(ms.map fun i=>(i.fmod 999983).toNat).map nInt by rw [List.map_map]; rfl]
 have lv:(ms.map fun i=>(i.fmod 999983).toNat).length≤18:=by rw [List.length_map]; exact l18
 generalize (ms.map fun i=>(i.fmod 999983).toNat)=vs at *
 refine no_list (.s 71) (by rw [List.length_map]; exact le_le lv rfl) (fr _ rfl rfl) ?_
 have F1:Fw [.s 71] h0 (hset h0 (.s 71) (.list (vs.map nInt))):=(Fw.refl F0.fin).set (by room)
 have e71:=hset_at (h:=h0) (n:=.s 71) (o:=.list (vs.map nInt))
 generalize hset h0 (.s 71) (.list (vs.map nInt))=h1 at *
 have fr:=fr.fw F1
 walk
 refine ni (nm:=.s 0) rfl (fr _ rfl rfl) rfl ?_
 refine k_Store (dM hm rfl) F1.fin (fr.upto (B:=11) rfl) fun h3 F2 s0 s1 s2 s3 s4 s5 s6=>?_
 have fr:=fr.fw F2
 walk
 refine ni (nm:=.s 12) rfl (fr _ rfl rfl) rfl ?_
 refine k_Heap (dM hm rfl) F2.fin (fr.all rfl) fun h4 F3 p12 p0 p1 p2 p3 p13=>?_
 have fr:=fr.fw F3
 have s0:=F3.old _ _ rfl s0
 walk
 refine ni (nm:=.s 14) rfl (fr _ rfl rfl) rfl ?_
 refine k_Shelf (dM hm rfl) F3.fin (fr.all rfl) s0 fun h5 F4 f14 sh=>?_
 have fr:=fr.fw F4
 have s0:=F4.old _ _ rfl s0
 unfold shO at f14
 walk
 refine ni0 (nm:=.s 41) rfl (fr _ rfl rfl) rfl ?_
 walk
 show CF _ _ _ _ _ (hset (hset h5 (.s 41) (.inst c_Collecting [])) (.s 14) (shO (.ref (.s 41)))) _
 have F5:Fw [.s 41,.s 14] h5 (hset (hset h5 (.s 41) (.inst c_Collecting [])) (.s 14) (shO (.ref (.s 41)))):=((Fw.refl F4.fin).set (n:=.s 41) (by room)).set (n:=.s 14) (by room)
 have f14:=hset_at (h:=hset h5 (.s 41) (.inst c_Collecting [])) (n:=.s 14) (o:=shO (.ref (.s 41)))
 have f41:=hset_off (o':=shO (.ref (.s 41))) (show Nm.eqb (.s 41) (.s 14)=false from rfl) (hset_at (h:=h5) (n:=.s 41) (o:=.inst c_Collecting []))
 generalize hset (hset h5 (.s 41) (.inst c_Collecting [])) (.s 14) (shO (.ref (.s 41)))=h6 at *
 have fr:=fr.fw F5
 refine k_natives (dM hm rfl) F5.fin (fr.all rfl) f14 (F5.old _ _ rfl sh.fs27) fun h7 F6 f27 n51 n52 n54 n55 n56 n57=>?_
 have fr:=fr.fw F6
 have f14:=F6.old _ _ rfl f14
 walk
 refine k_native_type (dM hm rfl) F6.fin (fr _ rfl rfl) f14 f27 fun h8 F7 f27 n62=>?_
 have fr:=fr.fw F7
 have f14:=F7.old _ _ rfl f14
 walk
 refine no_list (.s 43) (by room) (fr _ rfl rfl) ?_
 have F8:Fw [.s 43] h8 (hset h8 (.s 43) (.list [])):=(Fw.refl F7.fin).set (by room)
 have e43:=hset_at (h:=h8) (n:=.s 43) (o:=.list [])
 generalize hset h8 (.s 43) (.list [])=h9 at *
 have fr:=fr.fw F8
 have f14:=F8.old _ _ rfl f14
 walk
 refine ni (nm:=.s 42) rfl (fr _ rfl rfl) rfl ?_
 refine k_Frame (dM hm rfl) F8.fin (fr.all rfl) fun h10 F9 f42 e45 e48 e49=>?_
 have fr:=fr.fw F9
 have f14:=F9.old _ _ rfl f14
 have e21:=F9.old _ _ rfl (F8.old _ _ rfl (F7.old _ _ rfl (F6.old _ _ rfl (F5.old _ _ rfl sh.fs21))))
 have G3:=F3.cat (F4.cat (F5.cat (F6.cat (F7.cat (F8.cat F9)))))
 have t0:=F9.old _ _ rfl (F8.old _ _ rfl (F7.old _ _ rfl (F6.old _ _ rfl (F5.old _ _ rfl s0))))
 have t1:=G3.old _ _ rfl s1
 have t1':=t1
 unfold ktO at t1'
 unfold stO at t0
 unfold shO at f14
 unfold frO at f42
 walk
 refine no_list (.s 44) (by room) (fr _ rfl rfl) ?_
 walk
 refine no_list (.s 64) (by room) (by repeat (refine hset_none rfl ?_); exact fr _ rfl rfl) ?_
 walk
 refine no_list (.s 65) (by room) (by repeat (refine hset_none rfl ?_); exact fr _ rfl rfl) ?_
 walk
 refine no_dict (.s 66) (by simp [dputs]) (by repeat (refine hset_none rfl ?_); exact fr _ rfl rfl) ?_
 walk
 refine no_dict (.s 67) (by simp [dputs]) (by repeat (refine hset_none rfl ?_); exact fr _ rfl rfl) ?_
 walk
 show CF _ _ _ _ _ (hset (hset (hset (hset (hset (hset (hset h10 (.s 44) (.list [.tup [.int 4,.int 0],.tup [.int 4,.int 0],.tup [.int 4,.int 0]])) (.s 42) (frO (.ref (.s 44)))) (.s 21) (.list [.ref (.s 42)])) (.s 64) (.list [.int 0,.int 0,.int 0])) (.s 65) (.list [])) (.s 66) (.dict [])) (.s 67) (.dict [])) _
 have fin10:=F9.fin
 have F10:Fw [.s 44,.s 42,.s 21,.s 64,.s 65,.s 66,.s 67] h10 (hset (hset (hset (hset (hset (hset (hset h10 (.s 44) (.list [.tup [.int 4,.int 0],.tup [.int 4,.int 0],.tup [.int 4,.int 0]])) (.s 42) (frO (.ref (.s 44)))) (.s 21) (.list [.ref (.s 42)])) (.s 64) (.list [.int 0,.int 0,.int 0])) (.s 65) (.list [])) (.s 66) (.dict [])) (.s 67) (.dict [])):=by lt_chain
 generalize hx:(hset (hset (hset (hset (hset (hset (hset h10 (.s 44) (.list [.tup [.int 4,.int 0],.tup [.int 4,.int 0],.tup [.int 4,.int 0]])) (.s 42) (frO (.ref (.s 44)))) (.s 21) (.list [.ref (.s 42)])) (.s 64) (.list [.int 0,.int 0,.int 0])) (.s 65) (.list [])) (.s 66) (.dict [])) (.s 67) (.dict []))=h11 at *
 have e44:h11 (.s 44)=some (.list [.tup [.int 4,.int 0],.tup [.int 4,.int 0],.tup [.int 4,.int 0]]):=by rw [← hx]; w_end
 have e42:h11 (.s 42)=some (frO (.ref (.s 44))):=by rw [← hx]; w_end
 have e21:h11 (.s 21)=some (.list [.ref (.s 42)]):=by rw [← hx]; w_end
 have e64:h11 (.s 64)=some (.list [.int 0,.int 0,.int 0]):=by rw [← hx]; w_end
 have e65:h11 (.s 65)=some (.list []):=by rw [← hx]; w_end
 have e66:h11 (.s 66)=some (.dict []):=by rw [← hx]; w_end
 have e67:h11 (.s 67)=some (.dict []):=by rw [← hx]; w_end
 clear hx
 have fr:=fr.fw F10
 have G4:=G3.cat F10
 refine k_put_new (dM hm rfl) F10.fin (F10.old _ _ rfl t1) (G4.old _ _ rfl s2) (G4.old _ _ rfl s3) (G4.old _ _ rfl s4) (G4.old _ _ rfl s5) (G4.old _ _ rfl s6) fun h12 F11 k2 k3=>?_
 have fr:=fr.fw F11
 walk
 refine no_dictE (d':=wL 0) (by kernel_rfl) (.s 63) (by decide) (fr _ rfl rfl) ?_
 have T12:Fw [.s 63] h12 (hset h12 (.s 63) (.dict (wL 0))):=(Fw.refl F11.fin).set (by room)
 have e63:=hset_at (h:=h12) (n:=.s 63) (o:=.dict (wL 0))
 generalize hset h12 (.s 63) (.dict (wL 0))=h13 at *
 have fr:=fr.fw T12
 have T11:=F11.cat T12
 have T10:=F10.cat T11
 have T9:=F9.cat T10
 have T8:=F8.cat T9
 have T7:=F7.cat T8
 have T6:=F6.cat T7
 have T5:=F5.cat T6
 have T4:=F4.cat T5
 have T3:=F3.cat T4
 have T2:=F2.cat T3
 have x14:=T10.old _ _ rfl f14
 have fx:Fix h13:=fix_of ⟨T3.old _ _ rfl s1,T12.old _ _ rfl k2,T12.old _ _ rfl k3,T5.old _ _ rfl sh.fs16,T11.old _ _ rfl e21,T5.old _ _ rfl sh.fs23,T5.old _ _ rfl sh.fs25,T8.old _ _ rfl f27,T5.old _ _ rfl sh.fs28,T5.old _ _ rfl sh.fs32,T6.old _ _ rfl f41,T11.old _ _ rfl e42,T7.old _ _ rfl n51,T7.old _ _ rfl n52,T7.old _ _ rfl n54,T7.old _ _ rfl n55,T7.old _ _ rfl n56,T7.old _ _ rfl n57,T8.old _ _ rfl n62,trivial⟩
 have L:Laid h13:=⟨fx,x14,T5.old _ _ rfl sh.fg40,T5.old _ _ rfl sh.fs33,T5.old _ _ rfl sh.fs34,T5.old _ _ rfl sh.fs35,T5.old _ _ rfl sh.fs36,T9.old _ _ rfl e43,T11.old _ _ rfl e44,T10.old _ _ rfl e45,T10.old _ _ rfl e48,T10.old _ _ rfl e49,T4.old _ _ rfl p12,T4.old _ _ rfl p0,T4.old _ _ rfl p1,T4.old _ _ rfl p2,T4.old _ _ rfl p3,T4.old _ _ rfl p13,e63,T11.old _ _ rfl e64,T11.old _ _ rfl e65,T11.old _ _ rfl e66,T11.old _ _ rfl e67,T12.fin,fr _ rfl rfl,fr _ rfl rfl,fun k=>⟨fr _ rfl rfl,fr _ rfl rfl,fr _ rfl rfl⟩⟩
 obtain ⟨g,A0,g71,g69,g73,g74⟩ : ∃ g,A5 (LAt S0 [] ([],g) 0 h13) (g 71=some (.list (vs.map nInt))) (g 69=none) (g 73=none) (g 74=none):=⟨_,L.at0,T2.old _ _ rfl e71,fr (.s 69) rfl rfl,fr (.s 73) rfl rfl,fr (.s 74) rfl rfl⟩
 clear L fx x14 T2 T3 T4 T5 T6 T7 T8 T9 T10 T11 T12 G4 G3 F11 F10 F9 F8 F7 F6 F5 F4 F3 F2 F1 F0 e63 e64 e65 e66 e67 e21 e42 e43 e44 e45 e48 e49 k2 k3 t0 t1 t1' f14 f27 f41 n51 n52 n54 n55 n56 n57 n62 sh p0 p1 p2 p3 p12 p13 s0 s1 s2 s3 s4 s5 s6 e71 e0 fr fin10
 walk
 refine fr_two ["x","word"] "x" "word" (fun p:Nat×Str=>.int (Int.ofNat p.1)) (fun p=>.str p.2) first3 (fun _ _=>rfl) (I:=fun _ l _ h1=>Q3 fun S rows many=>LAt S rows ([],g) many h1∧S.md + l.length≤3) (fun _ _ _ _ _=>trivial)
  (fun d ⟨x,s⟩ l loc1 h1 ed L i K' kn=>?_) (fun loc1 h1 L i=>?_) ⟨S0,[],0,A0,by decide⟩
 ·obtain ⟨S,rows,many,A,le⟩:=i
  obtain ⟨hx,ts⟩:=first3_ok _ (mem_mid ed)
  rw [List.length_cons] at le
  have hw:=A.w
  walk
  refine k_ask_new (mode:=0) (dM hm rfl) A.x A.b (by decide) A.w fun gave g1 g2 g4 S2 many' G1 d dn X4 G4 hw4=>?_
  walk
  refine k_new_after (v:=.txt s) (dM hm rfl) A (le_lt (Nat.le_trans (Nat.le_add_right _ _) le) rfl) ts hx d X4 (A.o.after G1 dn G4) hw4 fun S' rows' many'' h' A' n=>?_
  walk
  exact kn _ _ (by k_ne) ⟨S',rows',many'',A',by omega⟩
 ·obtain ⟨S,rows,many,A,le⟩:=i
  have le:S.md≤3:=le
  clear A0
  have hw:=A.w
  walk
  refine no_list (.s 73) (by room) ((A.o.tmp 73 (by decide)).trans g73) ?_
  have A1:=A.newS (k:=73) (o:=.list (seven.map nInt)) rfl
  show E _ _ _ (hset h1 (.s 73) (.list (seven.map nInt))) _
  clear hw
  generalize hset h1 (.s 73) (.list (seven.map nInt))=h2' at *
  clear A
  walk
  refine bi_list (l:=seven.map nInt) (l2:=vs.map nInt) A1.got' ((A1.o.tmp 71 (by decide)).trans g71) ?_
  rw [← List.map_append]
  have lL:(seven ++ vs).length≤25:=by rw [List.length_append]; show 7 + _≤25; omega
  generalize seven ++ vs=L at *
  refine no_list (.s 74) (by rw [List.length_map]; exact le_le lL rfl) ((A1.o.tmp 74 (by decide)).trans g74) ?_
  have A2:=A1.newS (k:=74) (o:=.list (L.map nInt)) rfl
  generalize hset h2' (.s 74) (.list (L.map nInt))=h3' at *
  clear A1
  obtain ⟨mk,emk,A3,mkl,mk69⟩ : ∃ mk:Mk,A4 (mk.2 74=some (.list (L.map nInt))) (LAt S rows mk many h3') (mk.1.length=0) (mk.2 69=none):=⟨_,rfl,A2,rfl,g69⟩
  clear A2 g69 g71 g73 g74
  have f74:=(A3.o.tmp 74 (by decide)).trans emk
  walk
  refine fr_each ["v"] nInt L rfl (I:=fun _ l _ h1=>Q4 fun S' rows' mk' many'=>A4 (LAt S' rows' mk' many' h1) (mk'.2=mk.2) (S'.md + l.length≤28) (mk'.1.length + l.length≤28)) (fun _ _ _ _ i=>i.casesOn fun _ _ _ _ i=>i.casesOn fun A' emk' _ _=>(A'.o.tmp 74 (by decide)).trans (emk' ▸ emk))
   (fun d v l loc1 h1 ed M i K' kn=>?_) (fun loc1 h1 M i=>?_) ⟨S,rows,mk,many,A3,rfl,by omega,by rw [mkl]; omega⟩
  ·obtain ⟨S',rows',mk',many',A',emk',le1,le2⟩:=i
   rw [List.length_cons] at le1 le2
   unfold nInt
   walk
   refine k_law_deed (dM hm rfl) A' (le_lt (Nat.le_trans (Nat.le_add_right _ _) le1) rfl) (le_lt (Nat.le_trans (Nat.le_add_right _ _) le2) rfl) fun S2 rows2 mk2 many2 h2 A2 n1 n2 n3=>?_
   walk
   refine k_law_same (dM hm rfl) A2 ?_
   walk
   exact kn _ _ (by k_ne) ⟨S2,rows2,mk2,many2,A2,n3.trans emk',by omega,by omega⟩
  ·obtain ⟨S',rows',mk',many',A',emk',le1,le2⟩:=i
   walk
   refine k_law_end (dM hm rfl) A' (le_lt le1 rfl) (le_lt le2 rfl) (by rw [emk']; exact mk69) fun h'=>?_
   walk
   exact k _
end
end
theorem lookup_mem {K:Frag} {a:Addr} {o:Obj} (e:K.lookup a=some o):(a,o)∈K:=by
 induction K with
 | nil=>cases e
 | cons p r ih =>
  obtain ⟨b,x⟩:=p
  simp only [List.lookup] at e
  split at e
  ·rename_i q
   cases e
   rw [beq_iff_eq.mp q]; exact List.mem_cons_self
  ·exact List.mem_cons_of_mem _ (ih e)
theorem in_gen {K:Frag} {l:List Obj} {h:Heap} (e1:K.map (fun r=>l[r.1]?)=K.map (fun r=>some r.2)) (e2:K.all (fun r=>!r.2.isFreed)=true) (Y:∀ (a:Addr) (o:Obj),l[a]? = some o→o.isFreed=false→h.get? a=some o):K.In h:=fun a o e=>by
 have m:=lookup_mem e
 have f:=List.all_eq_true.mp e2 _ m
 refine Y a o (map_eq_mem e1 _ m) ?_
 cases q:o.isFreed with
 | false=>rfl
 | true=>rw [show (a,o).2.isFreed=true from q] at f; cases f
theorem kf_in {w:World} {h:Heap} (Y:YP w h):(KF w.params).In h:=in_gen (kf_base w.params) (kf_free w.params) Y
theorem IntsR.of {vs:List Value} {ns:List Int} (z:IntsAre vs ns):IntsR ns vs:=by
 induction z with
 | nil=>rfl
 | cons _ _ _ ih=>exact ⟨_,_,rfl,ih⟩
theorem mods_at (P:Params):((base P)[sysModules]?).map (fun o=>o.isFreed)=some false:=by kernel_rfl
theorem name_law:dLaw.name=Str.ofString "law":=by kernel_rfl
theorem bs_of {w:World} {h:Heap} {mg mb:Str→Option Value} (Y:YP w h) (g:h.Ns mainGlobals mg) (b:h.Ns builtinsNs mb) (bb:∀ x,x≠("__name__" : Str)→mb x=bootBuiltins x) (nl:h.NoLimit):Bs w h:=by
 refine ⟨kf_in Y,⟨mg,g⟩,⟨mb,b,bb⟩,nl,?_⟩
 have:=mods_at w.params
 cases q:(base w.params)[sysModules]? with
 | none=>rw [q] at this; exact nos this
 | some o=>rw [q] at this; exact ⟨o,Y _ _ q (Option.some.inj this)⟩
theorem law_at {w:World} {s1:Shared} {mg mb:Str→Option Value} {a:Addr} {ns:List Int} {vals:List Value} {Q E:Value→Shared→Prop} (Y:YP w s1.heap) (g:s1.heap.Ns mainGlobals mg) (b:s1.heap.Ns builtinsNs mb) (bb:∀ x,x≠("__name__" : Str)→mb x=bootBuiltins x) (nl:s1.heap.NoLimit)
  (h5:mg dLaw.name=some (.ref a)) (rl:VRs (fun _=>none) ⟨fun _ _=>0,fun b=>s1.heap.get? b⟩ [.sl ns] vals) (k:∀ s',(∀ b o,s1.heap.get? b=some o→s'.heap.get? b=some o)→s'.os=s1.os→s'.gens=s1.gens→Q (.bool true) s'):wpAny (model pw w) callerA (PySem.call (.ref a) vals) Q E s1:=by
 have B:=bs_of Y g b bb nl
 have S:Sat w.params s1.heap ⟨fun _ _=>0,fun b=>s1.heap.get? b⟩ (fun _=>none) s1.heap:=⟨fun _ _ e=>e,fun _ _ e=>e,fun n o e=>nos e,fun n b m c e=>(by cases b <;> cases e),fun n b e=>(by cases b <;> cases e)⟩
 have ea:a=f_law:=(glob_ok S B (x:=Str.ofString "law") (v:=.fn f_law) (by kernel_rfl)).elim fun c z=>by
  rw [name_law,mg_of (kf_in Y) g z.1] at h5
  have r:=z.2
  cases r
  exact (Value.ref.inj (Option.some.inj h5)).symm
 rw [ea]
 refine wpAny_mono (cf_call (c:=⟨w,s1.heap,99,default,[]⟩) (k_law (m:=99) (K:=fun v _=>v = .bool true) (by decide) ⟨0,fun j _=>⟨rfl,fun _=>rfl⟩⟩ (fun n _ _=>rfl) (fun h'=>rfl)) ⟨B,S,(show Room callerA 100 from ⟨⟨by decide,rfl⟩,by decide⟩),by decide⟩ rl) (fun v s' q=>?_) (fun e s' q=>q.elim)
 obtain ⟨av,h',W',X,S',rv,rfl⟩:=q
 rw [show v = .bool true from rv]
 exact k s' (fun b o e=>X.keep b o e (fun ⟨n,b',e',_⟩=>by cases b' <;> cases e') (fun z=>nomatch z)) X.os X.gens
theorem law_walk:WalkO qv looseL (fun _ _=>True) YP rw1.row.toRowW dLaw [] (fun f vs=>PySem.call f vs):=by
 intro w s0 s1 mg mb G Y a o pm cd doc dV kV h1 h2 h3 h4 h5 h6 args vals as hpre hlay hrd hwl hlo
 wrow_args hpre hlay hrd hwl hlo
 rename_i ns _ _ _ _ _ _ _ la vs _ hL _ _ _ hI _ hlen _
 refine law_at (ns:=ns) Y G.T.g G.T.b G.T.builtins G.T.nolimit h5 (hL.elim fun ol z=>z.2.2.elim fun n' z3=>⟨_,_,rfl,⟨_,_,_,_,rfl,z.1,z.2.1,z3,IntsR.of hI,by omega⟩,rfl⟩) fun s' keep os gens=>?_
 refine ⟨.inl ⟨_,_,[],rfl,fun _=>rfl,ReadsW.bool true,?_,fun _=>⟨List.nodup_nil,fun _ hm=>(nomatch hm)⟩⟩,.of_keep keep,os,?_⟩
 ·first | rfl | wrow_post
 ·exact .of_eq (gens.trans h6)
theorem law_done:rw1.Holds:=law_holds wellS law_walk
end
end Mine
theorem PySem.Challenge.cw_up0016_01_holds : PySem.Challenge.rw_up0016_01.Holds :=
 Mine.law_done
