import PyProof.Rows.All
import Wide.All
import OpenK.AllK
import Wide.FinOn
import Lean
import PySem.Challenge.RW_sq0065_01
open PySem PySem.W PyProof.Rows PySem.Calls PySem.Spec
open PySem.Str renaming ofString→U0
open _root_.Option.some renaming inj→U1
open _root_.Bool renaming false_ne_true→U2,and_eq_true→U3,and_eq_true_iff→U4
open _root_.List renaming mem_append→U5,mem_singleton→U6,mem_append_right→U7,mem_append_left→U8,size_toArray→U9,length_map→V0,map_cons→V1,map_append→V2,mem_cons→V3,length_cons→V4,mem_map→V5,all_eq_true→V6,nodup_append→V7,length_append→V8,lookup_cons→V9,nil_append→W0,nodup_nil→W1,nodup_cons→W2,length_eq_zero_iff→W3,append_assoc→W4,getElem?_eq_some_iff→W5,mem_of_getElem?→W6,drop_eq_nil_of_le→W7,not_mem_nil→W8,getElem?_eq_getElem→W9,exists_cons_of_ne_nil→X1,map_congr_left→X2,map_map→X3,length_take→X4,getElem?_map→X5,length_range→X6,mem_range→X7,length_singleton→X8
open _root_.Nat renaming le_trans→X9,le_sub_of_add_le→Y0,ne_of_lt→Y1,le_of_ble_eq_true→Y2,le_refl→Y3,le_add_right→Y4,lt_succ_self→Y5,lt_succ_of_lt→Y6,le_succ→Y7,lt_of_lt_of_le→Y8,lt_of_le_of_lt→Y9,zero_le→Z0,lt_irrefl→Z1
open _root_.Int renaming le_refl→Z2,natCast_nonneg→Z3,toNat_lt→Z4,not_le→Z5,not_lt→Z6,le_trans→Z7,add_nonneg→Z8
open PySem renaming wpAny_bind→Z9,wpAny_pure→AAA,wpAny_mono→AAB,wpAny_newObj_type→AAC,wpAny_assign_Name→AAD,wpAny_standAt→AAE,codeAny_mono→AAF
open PySem.Heap renaming get?_push_of_some→AAG,get?_push_size→AAH,get?_none_of_le→AAI,lt_size→AAJ,size_push→AAK
open _root_.Except.ok renaming inj→AAL
set_option Elab.async false
set_option maxRecDepth 100000
set_option linter.all false
set_option maxHeartbeats 4000000
set_option autoImplicit false
set_option bootstrap.genMatcherCode false
set_option genSizeOf false
set_option genInjectivity false
set_option compiler.extract_closed false
set_option tactic.hygienic false
set_option backward.match.sparseCases false
set_option genCtorIdx false
namespace Mine.Internal
set_option Elab.async false
noncomputable abbrev pw:Program:=PySem.Challenge.pw_sq0065_01
noncomputable def ui:Stmt->Option (Arguments × FuncBody × Scope)
|.FunctionDef _ args b _ _ _ sc _ _ _=>some (args,.stmts b,sc)
|_=>none
noncomputable def AA (i j:Nat):Option (Arguments × FuncBody × Scope):=match pw.main.body[i]? with
|some (.ClassDef _ _ _ b ..)=>b[j]?.bind ui
|some s=>ui s
|none=>none
noncomputable def st (s:String) (t:Nat):Value:=.str (U0 s) t
noncomputable def AB (P:Params) (n:Nat) (es:List (String × Nat × Value)):Obj:={ cls:=.type "dict",data:=.dict (es.map fun e=>⟨PyData.keyHash P (U0 e.1),st e.1 e.2.1,e.2.2⟩).toArray n }
noncomputable def AC (f:Nat) (nm q:String) (t:Nat) (l n:Int) (u:Int) (b:Bool) (z:Nat):Obj:={ cls:=.type "code",data:=.fields #[st nm t,st q (t+1),st "/claim/cut.py" (t+2),.int l 0,.int n 0,.int 0 0,.int 0 0,.int 3 0,.ref (cond b (f - 6) (f - 4)),.bool true,.int 181 0,.ref (cond b (f - 5) (f - 3)),.none,cond b (.ref (f - 4)) .none,cond b (.ref (f - 3)) .none,.ref (f - 2),.int u 0,.int l 0,st "/claim/cut.py" (z+1)] }
noncomputable def AD:List Value:=[st "gluepage.errors" 194,st "gluepage.scaled" 304,st "gluepage.nodes" 537,st "gluepage.packing" 892,st "gluepage.boxops" 902,st "gluepage.pages" 1040,st "law_sq0065_01" 1447]
noncomputable def AE (f i j:Nat) (nm q:String) (m:Nat) (d:Value):Obj:=match AA i j with
|some (a,b,s)=>{ cls:=.type "function",data:=.func { name:=U0 nm,qualname:=U0 q,params:=a,body:=b,scope:=s,globals:=3,closure:=[],defaults:=d,kwdefaults:=.none,pyModule:=AD[m]?.getD .none,code:=.ref (f - 1) } }
|none=>default
noncomputable def AF (C:Nat) (nm:String) (t u:Nat):Obj:={ cls:=.type "type",data:=.cls { name:=U0 nm,bases:=[.type "object"],mro:=[.ref C,.type "object"],ns:=C - 1,qualname:=U0 nm },slots:=#[none,none,some (st nm t),some (st nm u),some (.builtin "object.__new__"),some (.bool true)] }
noncomputable def qo (C b:Nat) (nm:String) (t u:Nat) (bs mro sub:List Value):Obj:={ cls:=.type "type",data:=.cls { name:=U0 nm,bases:=bs,mro:=.ref C::mro,ns:=C - 1,qualname:=U0 nm,subclasses:=sub },slots:=#[some (.ref b),none,some (st nm t),some (st nm u),some (.builtin "ValueError.__new__"),some (.bool true)] }
noncomputable def uj:List (Nat × Nat × Nat × String × String × Nat × Int × Int × Nat × Nat × Value):=[(36,2,0,"__init__","PageError.__init__",209,7,2,214,0,.ref 29),
 (113,14,0,"is_whole","is_whole",330,25,3,336,1,.none),
 (120,15,0,"check_whole","check_whole",339,27,1,343,1,.none),
 (127,16,0,"check_number","check_number",346,31,1,350,1,.none),
 (134,17,0,"check_dimen","check_dimen",353,35,1,357,1,.none),
 (162,21,0,"times","times",389,58,3,395,1,.none),
 (169,23,0,"over","over",399,61,2,406,1,.none),
 (176,25,0,"badness","badness",410,71,2,416,1,.none),
 (205,28,0,"__init__","Glue.__init__",452,93,6,461,1,.ref 198),
 (212,28,1,"parts","Glue.parts",464,102,1,468,1,.none),
 (300,37,0,"__init__","Box.__init__",619,139,6,628,2,.none),
 (321,38,1,"__init__","Kern.__init__",661,154,3,667,2,.none),
 (343,39,1,"__init__","Skip.__init__",693,162,4,700,2,.ref 336),
 (364,40,1,"__init__","Penalty.__init__",727,175,2,732,2,.none),
 (385,41,1,"__init__","Mark.__init__",757,180,2,762,2,.none),
 (406,42,1,"__init__","Insert.__init__",787,185,7,797,2,.none),
 (420,43,0,"check_depth","check_depth",814,194,1,818,2,.none),
 (432,45,0,"described_rest","described_rest",827,203,2,835,2,.none),
 (438,46,0,"described","described",839,218,2,842,2,.ref 433),
 (444,47,0,"described_list","described_list",846,241,2,849,2,.ref 439),
 (449,48,0,"height_of","height_of",852,243,1,855,2,.none),
 (454,49,0,"depth_of","depth_of",858,256,1,861,2,.none),
 (475,52,0,"is_discardable","is_discardable",878,277,1,882,2,.none),
 (482,53,0,"is_breakable_ahead","is_breakable_ahead",885,279,1,889,2,.none),
 (489,55,0,"check_column","check_column",894,282,1,899,3,.none),
 (504,62,0,"__init__","Column.__init__",930,294,1,934,4,.none),
 (511,62,1,"stand","Column.stand",937,300,2,942,4,.none),
 (518,62,2,"keep","Column.keep",945,304,2,950,4,.none),
 (525,62,3,"flow","Column.flow",953,309,2,959,4,.none),
 (532,62,4,"cost","Column.cost",962,319,2,967,4,.none),
 (546,63,0,"break_penalty","break_penalty",982,327,2,989,4,.none),
 (553,64,0,"cost_here","cost_here",992,339,3,999,4,.none),
 (560,65,0,"best_break","best_break",1002,346,3,1016,4,.none),
 (567,66,0,"vert_break","vert_break",1019,367,3,1025,4,.none),
 (584,78,0,"natural_size","natural_size",1068,380,1,1074,5,.none),
 (591,79,0,"check_finite","check_finite",1077,390,1,1081,5,.none),
 (598,80,0,"split_room","split_room",1084,393,3,1091,5,.none),
 (613,81,0,"__init__","InsertClass.__init__",1108,400,6,1117,5,.ref 606),
 (620,81,1,"taken","InsertClass.taken",1120,409,2,1125,5,.none),
 (643,82,0,"__init__","InsertTable.__init__",1153,415,2,1159,5,.ref 636),
 (650,82,1,"of","InsertTable.of",1162,420,2,1167,5,.none),
 (671,83,0,"__init__","Inserted.__init__",1191,426,2,1196,5,.none),
 (692,84,0,"__init__","Page.__init__",1224,434,5,1232,5,.none),
 (714,85,0,"__init__","PageBuilder.__init__",1259,441,3,1265,5,.ref 707),
 (721,85,1,"start","PageBuilder.start",1268,449,1,1272,5,.none),
 (728,85,2,"clear","PageBuilder.clear",1275,461,1,1279,5,.none),
 (735,85,3,"freeze","PageBuilder.freeze",1282,468,2,1287,5,.none),
 (763,85,7,"contribute","PageBuilder.contribute",1312,483,2,1318,5,.none),
 (770,85,8,"build","PageBuilder.build",1321,489,3,1331,5,.none),
 (777,85,9,"remember","PageBuilder.remember",1334,509,2,1339,5,.none),
 (784,85,10,"begin","PageBuilder.begin",1342,514,3,1350,5,.none),
 (791,85,11,"penalty_ahead","PageBuilder.penalty_ahead",1353,523,2,1358,5,.none),
 (798,85,12,"cost","PageBuilder.cost",1361,532,2,1368,5,.none),
 (805,85,13,"tried","PageBuilder.tried",1371,546,2,1380,5,.none),
 (812,85,14,"take","PageBuilder.take",1383,560,3,1389,5,.none),
 (819,85,15,"insert","PageBuilder.insert",1392,580,3,1405,5,.none),
 (826,85,16,"split","PageBuilder.split",1408,613,5,1417,5,.none),
 (838,87,0,"_law_jar","_law_jar",1449,624,1,1452,6,.none),
 (845,88,0,"_law_take","_law_take",1455,626,2,1463,6,.none),
 (852,89,0,"_law_glue","_law_glue",1466,636,1,1474,6,.none),
 (859,90,0,"_law_box","_law_box",1477,640,2,1482,6,.none),
 (866,91,0,"_law_size","_law_size",1485,642,1,1491,6,.none),
 (873,92,0,"_law_insert","_law_insert",1494,650,2,1501,6,.none),
 (880,93,0,"_law_item","_law_item",1504,656,2,1510,6,.none),
 (887,94,0,"_law_class","_law_class",1513,669,1,1519,6,.none),
 (892,95,0,"_law_node","_law_node",1522,672,2,1525,6,.none),
 (899,96,0,"_law_end","_law_end",1528,684,1,1532,6,.none),
 (904,97,0,"_law_state","_law_state",1535,686,1,1538,6,.none),
 (911,98,0,"_law_build","_law_build",1541,691,3,1548,6,.none),
 (918,99,0,"_law_bad","_law_bad",1551,699,2,1556,6,.none),
 (923,100,0,"_law_due","_law_due",1559,707,5,1562,6,.none),
 (928,101,0,"_law_tables","_law_tables",1565,716,1,1568,6,.none),
 (933,102,0,"law","law",1571,719,1,1574,6,.none)]
noncomputable def AG:List (Nat × String × Nat × Nat):=[(258,"Glue",435,443),(303,"Box",607,615),(324,"Kern",648,656),(346,"Skip",680,688),(367,"Penalty",714,722),(388,"Mark",744,752),(409,"Insert",774,782),(535,"Column",918,926),(623,"InsertClass",1094,1102),(653,"InsertTable",1141,1149),(674,"Inserted",1179,1187),(695,"Page",1212,1220),(829,"PageBuilder",1247,1255)]
noncomputable def AH:List (Nat × Nat × List (String × Nat × Value)):=[(3,142,[("__name__",165,st "law_sq0065_01" 1447),("__doc__",166,.none),("__package__",167,.none),("__loader__",168,.builtin "__main__.__loader__#opaque"),("__spec__",169,.none),("__annotations__",170,.ref 6),("__builtins__",171,.ref 4),("__file__",173,st "/claim/cut.py" 172),("__cached__",174,.none),("_wall",193,.ref 21),("PageError",223,.ref 39),("BadArgument",239,.ref 52),("Overflow",255,.ref 64),("BadBox",271,.ref 76),("BadPage",287,.ref 88),("TooDeep",303,.ref 100),("UNITY",307,.int 65536 306),("MAX_DIMEN",313,.int 1073741823 312),("MAX_NUMBER",319,.int 2147483647 318),("INF_BAD",321,.int 10000 320),("NORMAL",326,.int 0 322),("FIL",327,.int 1 323),("FILL",328,.int 2 324),("FILLL",329,.int 3 325),("is_whole",338,.ref 113),("check_whole",345,.ref 120),("check_number",352,.ref 127),("check_dimen",359,.ref 134),("rounded",367,.ref 141),("reading",375,.ref 148),("decimal_text",388,.ref 155),("times",397,.ref 162),("times_scaled",398,.ref 162),("over",408,.ref 169),("over_scaled",409,.ref 169),("badness",418,.ref 176),("order_text",425,.ref 183),("part_text",434,.ref 190),("Glue",536,.ref 258),("CHAR",547,.int 0 539),("LIGATURE",548,.int 1 540),("HBOX",549,.int 2 541),("VBOX",550,.int 3 542),("RULE",551,.int 4 543),("KERN",552,.int 5 544),("GLUE",553,.int 6 545),("PENALTY",554,.int 7 546),("DISC",562,.int 8 555),("MARK",563,.int 9 556),("INSERT",564,.int 10 557),("ADJUST",565,.int 11 558),("MATH",566,.int 12 559),("SPECIAL",567,.int 13 560),("UNSET",568,.int 14 561),("NATURAL",572,.int 0 569),("STRETCHED",573,.int 1 570),("SHRUNK",574,.int 2 571),("FONT_KERN",579,.int 0 575),("EXPLICIT",580,.int 1 576),("ACCENT_KERN",581,.int 2 577),("MU_KERN",582,.int 3 578),("PLAIN",590,.int 0 583),("ALEADERS",591,.int 1 584),("CLEADERS",592,.int 2 585),("XLEADERS",593,.int 3 586),("MU_SKIP",594,.int 4 587),("NONSCRIPT",595,.int 5 588),("NAMED",596,.int 100 589),("FOR_DEVICE",601,.int 0 597),("WRITING",602,.int 1 598),("OPENING",603,.int 2 599),("CLOSING",604,.int 3 600),("DEEPEST",606,.int 60 605),("Box",647,.ref 303),("Kern",679,.ref 324),("Skip",713,.ref 346),("Penalty",743,.ref 367),("Mark",773,.ref 388),("Insert",813,.ref 409),("check_depth",820,.ref 420),("described_special",826,.ref 425),("described_rest",837,.ref 432),("described",844,.ref 438),("described_list",851,.ref 444),("height_of",857,.ref 449),("depth_of",863,.ref 454),("line_height",870,.ref 461),("line_depth",877,.ref 468),("is_discardable",884,.ref 475),("is_breakable_ahead",891,.ref 482),("check_column",901,.ref 489),("AWFUL_boxops",909,.int 1073741823 908),("DEPLORABLE_boxops",911,.int 100000 910),("INF_PENALTY_boxops",913,.int 10000 912),("EJECT_boxops",916,.int (-10000) 915),("STANDING",917,.ref 490),("Column",981,.ref 535),("break_penalty",991,.ref 546),("cost_here",1001,.ref 553),("best_break",1018,.ref 560),("vert_break",1027,.ref 567),("TOP_SKIP",1034,.int 7 1028),("SPLIT_TOP_SKIP",1035,.int 8 1029),("TAB_SKIP",1036,.int 9 1030),("SPACE_SKIP",1037,.int 10 1031),("XSPACE_SKIP",1038,.int 11 1032),("PAR_FILL_SKIP",1039,.int 12 1033),("EMPTY",1045,.int 0 1042),("INSERTS",1046,.int 1 1043),("BOXES",1047,.int 2 1044),("AWFUL_pages",1053,.int 1073741823 1052),("DEPLORABLE_pages",1055,.int 100000 1054),("EJECT_pages",1058,.int (-10000) 1057),("INF_PENALTY_pages",1060,.int 10000 1059),("MOST_CLASS",1062,.int 254 1061),("SIZED",1063,.ref 576),("PARTS",1064,.ref 577),("TOP_SORT",1067,.int 107 1066),("natural_size",1076,.ref 584),("check_finite",1083,.ref 591),("split_room",1093,.ref 598),("InsertClass",1140,.ref 623),("InsertTable",1178,.ref 653),("Inserted",1211,.ref 674),("Page",1246,.ref 695),("PageBuilder",1446,.ref 829),("_law_jar",1454,.ref 838),("_law_take",1465,.ref 845),("_law_glue",1476,.ref 852),("_law_box",1484,.ref 859),("_law_size",1493,.ref 866),("_law_insert",1503,.ref 873),("_law_item",1512,.ref 880),("_law_class",1521,.ref 887),("_law_node",1527,.ref 892),("_law_end",1534,.ref 899),("_law_state",1540,.ref 904),("_law_build",1550,.ref 911),("_law_bad",1558,.ref 918),("_law_due",1564,.ref 923),("_law_tables",1570,.ref 928),("law",1576,.ref 933)]),
 (38,3,[("__module__",203,st "gluepage.errors" 194),("__firstlineno__",207,.int 5 206),("__init__",216,.ref 36),("__static_attributes__",218,.ref 37),("__weakref__",220,.ref 40),("__doc__",221,.none)]),
 (75,2,[("__module__",263,st "gluepage.errors" 194),("__firstlineno__",267,.int 13 266),("__static_attributes__",268,.ref 74),("__doc__",269,.none)]),
 (87,2,[("__module__",279,st "gluepage.errors" 194),("__firstlineno__",283,.int 15 282),("__static_attributes__",284,.ref 86),("__doc__",285,.none)]),
 (257,4,[("__module__",442,st "gluepage.scaled" 304),("__firstlineno__",446,.int 91 445),("__init__",463,.ref 205),("parts",470,.ref 212),("same",478,.ref 219),("added",486,.ref 226),("times",496,.ref 233),("over",506,.ref 240),("negated",513,.ref 247),("text",523,.ref 255),("__static_attributes__",529,.ref 256),("__dict__",531,.ref 259),("__weakref__",533,.ref 260),("__doc__",534,.none)]),
 (302,4,[("__module__",614,st "gluepage.nodes" 537),("__firstlineno__",618,.int 137 617),("__init__",630,.ref 300),("__static_attributes__",640,.ref 301),("__dict__",642,.ref 304),("__weakref__",644,.ref 305),("__doc__",645,.none)]),
 (323,4,[("__module__",655,st "gluepage.nodes" 537),("__firstlineno__",659,.int 151 658),("kind",660,.int 5 544),("__init__",669,.ref 321),("__static_attributes__",672,.ref 322),("__dict__",674,.ref 325),("__weakref__",676,.ref 326),("__doc__",677,.none)]),
 (345,4,[("__module__",687,st "gluepage.nodes" 537),("__firstlineno__",691,.int 159 690),("kind",692,.int 6 545),("__init__",702,.ref 343),("__static_attributes__",706,.ref 344),("__dict__",708,.ref 347),("__weakref__",710,.ref 348),("__doc__",711,.none)]),
 (366,4,[("__module__",721,st "gluepage.nodes" 537),("__firstlineno__",725,.int 172 724),("kind",726,.int 7 546),("__init__",734,.ref 364),("__static_attributes__",736,.ref 365),("__dict__",738,.ref 368),("__weakref__",740,.ref 369),("__doc__",741,.none)]),
 (387,4,[("__module__",751,st "gluepage.nodes" 537),("__firstlineno__",755,.int 177 754),("kind",756,.int 9 556),("__init__",764,.ref 385),("__static_attributes__",766,.ref 386),("__dict__",768,.ref 389),("__weakref__",770,.ref 390),("__doc__",771,.none)]),
 (408,4,[("__module__",781,st "gluepage.nodes" 537),("__firstlineno__",785,.int 182 784),("kind",786,.int 10 557),("__init__",799,.ref 406),("__static_attributes__",806,.ref 407),("__dict__",808,.ref 410),("__weakref__",810,.ref 411),("__doc__",811,.none)]),
 (534,4,[("__module__",925,st "gluepage.boxops" 902),("__firstlineno__",929,.int 292 928),("__init__",936,.ref 504),("stand",944,.ref 511),("keep",952,.ref 518),("flow",961,.ref 525),("cost",969,.ref 532),("__static_attributes__",974,.ref 533),("__dict__",976,.ref 536),("__weakref__",978,.ref 537),("__doc__",979,.none)]),
 (622,4,[("__module__",1101,st "gluepage.pages" 1040),("__firstlineno__",1105,.int 398 1104),("__init__",1119,.ref 613),("taken",1127,.ref 620),("__static_attributes__",1133,.ref 621),("__dict__",1135,.ref 624),("__weakref__",1137,.ref 625),("__doc__",1138,.none)]),
 (652,4,[("__module__",1148,st "gluepage.pages" 1040),("__firstlineno__",1152,.int 413 1151),("__init__",1161,.ref 643),("of",1169,.ref 650),("__static_attributes__",1171,.ref 651),("__dict__",1173,.ref 654),("__weakref__",1175,.ref 655),("__doc__",1176,.none)]),
 (673,4,[("__module__",1186,st "gluepage.pages" 1040),("__firstlineno__",1190,.int 424 1189),("__init__",1198,.ref 671),("__static_attributes__",1204,.ref 672),("__dict__",1206,.ref 675),("__weakref__",1208,.ref 676),("__doc__",1209,.none)]),
 (694,4,[("__module__",1219,st "gluepage.pages" 1040),("__firstlineno__",1223,.int 432 1222),("__init__",1234,.ref 692),("__static_attributes__",1239,.ref 693),("__dict__",1241,.ref 696),("__weakref__",1243,.ref 697),("__doc__",1244,.none)]),
 (828,4,[("__module__",1254,st "gluepage.pages" 1040),("__firstlineno__",1258,.int 439 1257),("__init__",1267,.ref 714),("start",1274,.ref 721),("clear",1281,.ref 728),("freeze",1289,.ref 735),("kept",1296,.ref 742),("give_back",1304,.ref 749),("is_empty",1311,.ref 756),("contribute",1320,.ref 763),("build",1333,.ref 770),("remember",1341,.ref 777),("begin",1352,.ref 784),("penalty_ahead",1360,.ref 791),("cost",1370,.ref 798),("tried",1382,.ref 805),("take",1391,.ref 812),("insert",1407,.ref 819),("split",1419,.ref 826),("__static_attributes__",1439,.ref 827),("__dict__",1441,.ref 830),("__weakref__",1443,.ref 831),("__doc__",1444,.none)])]
noncomputable def AI:List (Nat × List Value):=[(29,[st "" 208]),(198,[.int 0 447,.int 0 448,.int 0 449,.int 0 450,.int 0 451]),(336,[.none]),(433,[.int 0 838]),(439,[.int 0 845]),(490,[.int 2 541,.int 3 542,.int 4 543,.int 14 561]),(576,[.int 2 541,.int 3 542,.int 4 543]),(577,[.int 2 541,.int 3 542,.int 4 543,.int 5 544,.int 6 545,.int 7 546,.int 9 556,.int 10 557,.int 13 560]),(606,[.int 1000 1106,.int 1073741823 312,.none,.int 0 1107]),(636,[.ref 635]),(707,[.int 1073741823 312,.int 1073741823 312])]
noncomputable def KX (P:Params):Frag:=AH.map (fun r=>(r.1,AB P r.2.1 r.2.2))++[(39,qo 39 22 "PageError" 196 204 [.type "ValueError"] [.type "ValueError",.type "Exception",.type "BaseException",.type "object"] [.ref 52,.ref 64,.ref 76,.ref 88,.ref 100]),(76,qo 76 67 "BadBox" 256 264 [.ref 39] [.ref 39,.type "ValueError",.type "Exception",.type "BaseException",.type "object"] []),(88,qo 88 79 "BadPage" 272 280 [.ref 39] [.ref 39,.type "ValueError",.type "Exception",.type "BaseException",.type "object"] [])]++AG.map (fun r=>(r.1,AF r.1 r.2.1 r.2.2.1 r.2.2.2))++AI.map (fun r=>(r.1,{ cls:=.type "tuple",data:=.seq r.2.toArray 0 }))++
 uj.map (fun (f,i,j,nm,q,_,_,_,_,m,d)=>(f,AE f i j nm q m d))++uj.map fun (f,_,_,nm,q,t,l,n,u,_,_)=>(f - 1,AC f nm q t l n u (![438,444,449,454,838,892,904,923,928,933].contains f) u)
noncomputable def kZ:List Addr:=[3,38,75,87,257,302,323,345,366,387,408,534,622,652,673,694,828,39,76,88,258,303,324,346,367,388,409,535,623,653,674,695,829,29,198,336,433,439,490,576,577,606,636,707,36,113,120,127,134,162,169,176,205,212,300,321,343,364,385,406,420,432,438,444,449,454,475,482,489,504,511,518,525,532,546,553,560,567,584,591,598,613,620,643,650,671,692,714,721,728,735,763,770,777,784,791,798,805,812,819,826,838,845,852,859,866,873,880,887,892,899,904,911,918,923,928,933,35,112,119,126,133,161,168,175,204,211,299,320,342,363,384,405,419,431,437,443,448,453,474,481,488,503,510,517,524,531,545,552,559,566,583,590,597,612,619,642,649,670,691,713,720,727,734,762,769,776,783,790,797,804,811,818,825,837,844,851,858,865,872,879,886,891,898,903,910,917,922,927,932]
theorem qp (P:Params):kZ=(KX P).map (fun q=>q.1):=by kernel_rfl
noncomputable def kq:Hook:=kHook KX kZ qp
set_option Elab.async false
noncomputable def mZ (p:Program) (w:World) (m₀:Nat) (ann:Option Value):Nat->SharedT->Thread->Option SharedT
|0,_,_=>none
|n+1,s,t=>match through t with
 |true=>some s
 |false=>match PySem.W.Fast.tw6613529449190102663 m₀ ann t with
  |false=>none
  |true=>match PySem.W.Fast.tw10156331382660048174 (PySem.W.Fast.tw11892475500146522536 PySem.W.Fast.tw14364793385576792824) p w s t with
   |some r=>mZ p w m₀ ann n r.1 r.2
   |none=>none
theorem uk {p:Program}{w:World}{m₀:Nat}{ann:Option Value}:∀ (n:Nat) (s:SharedT) (t:Thread) (s':SharedT),mZ p w m₀ ann n s t=some s'->topRun treeTable p w m₀ ann n s.abs t=some s'.abs
|0,_,_,_,h=>by cases h
|n+1,s,t,s',h=>by
  unfold mZ at h;rw[<- PySem.W.Fast.te6613529449190102663,<- PySem.W.Fast.te10156331382660048174,<- PySem.W.Fast.te11892475500146522536,<- PySem.W.Fast.te14364793385576792824]at h;unfold topRun;cases ht:through t with
 |true=>rw[ht]at h;cases h;rfl
 |false=>
   rw[ht]at h;dsimp only at h ⊢;cases hk:stepOk m₀ ann t with
  |false=>rw[hk]at h;cases h
  |true=>
    rw[hk]at h;dsimp only at h ⊢;cases hs:stepT (denote treeTable) p w s t with
   |none=>rw[hs]at h;cases h
   |some r=>
     rw[hs]at h;rw[stepT_spec (s':=r.1) (t':=r.2) hs];exact uk n r.1 r.2 s' h
noncomputable def um:List Obj->Nat->BT->BT
|[],_,t=>t
|o::l,n,t=>um l (n+1) (t.ins n o)
noncomputable def bT (P:Params):SharedT:=⟨um (boot_heap P).objs.toList 0 .nil,(boot_heap P).objs.size,(boot_heap P).life,#[],boot_drawn,boot_toks,default⟩
theorem AJ (P:Params) (os:OsState):({ bT P with os:=os }:SharedT).abs=⟨boot_heap P,#[],boot_drawn,boot_toks,os⟩:=by kernel_rfl
noncomputable def qv:Program:=view pw [pw.main.body.length - 1]
noncomputable def lz:List Str:=pw.boundNames.filter fun x=>x != U0 "law"
theorem said:OpenLaw.wellSaid PySem.Challenge.rw_sq0065_01=true:=by
 rw[PySem.W.Fast.te9446332074065402090]
 kernel_rfl
theorem AK:∀ P,(KX P).all (fun p=>(alive p.2).isSome)=true:=fun P=>by kernel_rfl
theorem AL {o:Obj}(h:(alive o).isSome=true):alive o=some o:=by
 unfold alive at h ⊢
 split at h
 ·cases h
 ·rfl
noncomputable def k7 (w:World) (os:OsState):Prop:=(mZ pw w (boot_heap w.params).objs.size ((boot_heap w.params).nsMap mainGlobals "__annotations__") 9000 { bT w.params with os:=os } (topStub pw)).map (fun t=>
 (staticsOk (PySem.W.Fast.tw5923862056798008813 pw.main.body) (boot_heap w.params) t.abs.heap && namesBound pw t.abs.heap && gensDone t.abs && laidKept (boot_heap w.params) t.abs.heap,
  PySem.W.Fast.tw4187177175401517315 qv lz (PySem.W.Fast.tw5923862056798008813 pw.main.body) (fun ω=>true) true t.abs,t.n,kZ.map t.tree.get))=some (true,openGood qv lz,934,(KX w.params).map fun p=>some p.2)
theorem AM (w:World):(fencedOpening treeTable pw w 9000).map (fun s=>(s.heap,s.gens,s.drawn,s.toks))=some (boot_heap w.params,#[],boot_drawn,boot_toks):=boot_open (by rfl) (by rfl) (fun s=>by rfl) w
theorem AN (P:Params):(boot_heap P).isNs mainGlobals=true:=by kernel_rfl
theorem AO {a b w n s t:_}(e:fencedOpening a b w n=some s) (h:topFrom a b w n s=some t):openEnds a b w n=some t:=by
 unfold openEnds;rw[e];exact h
theorem un {w:World}(at_:∀ os,k7 w os):(openEnds treeTable pw w 9000).map (fun s=>(openSeen qv lz (importedModules pw.main.body) (fun ω=>true) true s,kq.obs s))=some (openGood qv lz,kq.val w):=by
 obtain⟨⟨h,gs,d,k,os⟩,e,e'⟩:=Option.map_eq_some_iff.mp (AM w);obtain⟨rfl,rfl,rfl,rfl⟩:h=boot_heap w.params/\gs=#[]/\d=boot_drawn/\k=boot_toks:=by simpa using e'
 obtain⟨t,r,g⟩:=Option.map_eq_some_iff.mp (at_ os);rw[<- PySem.W.Fast.te5923862056798008813,<- PySem.W.Fast.te4187177175401517315]at g;simp only[Prod.mk.injEq]at g;obtain⟨l1,l2,l3,l4⟩:=g;have r:=uk _ _ _ _ r;rw[AJ]at r;have tp:topFrom treeTable pw w 9000 ⟨boot_heap w.params,#[],boot_drawn,boot_toks,os⟩=some t.abs:=by
  unfold topFrom;dsimp only;rw[AN,r];show(match staticsOk (importedModules pw.main.body) (boot_heap w.params) t.abs.heap && namesBound pw t.abs.heap && gensDone t.abs && laidKept (boot_heap w.params) t.abs.heap with|true=>_|false=>_)=_;rw[l1]
 have l5:kZ.map t.abs.heap.get?=(KX w.params).map fun p=>some p.2:=by
  rw[qp w.params,X3]at l4 ⊢;refine List.map_inj_left.mpr fun p hp=>?_
  have a:=List.map_inj_left.mp l4 p hp;have b:=V6.mp (AK w.params) p hp;have c:p.1 < t.n:=by
   rw[l3];have:kZ.all (fun a=>Nat.ble (a+1) 934)=true:=by decide +kernel
   rw[qp w.params]at this;exact Y2 (V6.mp this p.1 (List.mem_map_of_mem hp))
  exact(abs_get c a).trans (AL b)
 rw[AO e tp];exact congrArg some (Prod.ext l2 l5)
theorem AP (w:World) (os:OsState):k7 (w.withFollow "special-get-raises" false) os:=by
 unfold k7
 kernel_rfl
theorem AQ (w:World) (os:OsState):k7 (w.withFollow "special-get-raises" true) os:=by
 unfold k7
 kernel_rfl
theorem left:LeftO pw qv lz (fun ω=>true) kq.obs kq.val 9000:=fun w=>by
 have e:=World.withFollow_self w "special-get-raises";cases hb:w.params.followText "special-get-raises"<;>rw[hb]at e
 ·have:=un (AP w);rw[e]at this;exact this
 ·have:=un (AQ w);rw[e]at this;exact this
@[reducible] def tQ (l:Array Lean.Syntax):Lean.Syntax:=.node .none `Lean.Parser.Tactic.tacticSeq #[.node .none `Lean.Parser.Tactic.tacticSeq1Indented #[.node .none `null l]]
@[reducible] def rQ:Lean.Syntax:=.node .none `Lean.Parser.Tactic.tacticRfl #[.atom .none "rfl"]
@[reducible] def tR:Lean.Syntax:=tQ #[rQ]
@[reducible] def tD:Lean.Syntax:=tQ #[.node .none `Lean.Parser.Tactic.decide #[.atom .none "decide",.node .none `Lean.Parser.Tactic.optConfig #[.node .none `null #[]]]]
@[reducible] def tU:Lean.Syntax:=tQ #[.node .none `Lean.Parser.Tactic.withUnfoldingAll #[.atom .none "with_unfolding_all",tR]]
@[reducible] def tI:Lean.Syntax:=tQ #[.node .none `Lean.Parser.Tactic.intro #[.atom .none "intro",.node .none `null #[.node .none `Lean.Parser.Term.hole #[.atom .none "_"]]],.atom .none ";",rQ]
noncomputable abbrev aT:=Nat × Nat
inductive V where
|none
|bool (b:Bool)
|int (i:Int)
|str (s:String)
|tup (xs:List V)
|lst (xs:List V)
|obj (C:Nat) (fs:List (String × V))
|dct (es:List (Int × V))
|ref (l:aT)
|cst (v:Value)
noncomputable def V.ctorIdx (x:V):Nat:=@V.casesOn (fun ω=>Nat) x 0 (fun ω=>1) (fun ω=>2) (fun ω=>3) (fun ω=>4) (fun ω=>5) (fun ω ω=>6) (fun ω=>7) (fun ω=>8) (fun ω=>9)
noncomputable def uo:List (Nat × List String):=[
 (258,["width","stretch","stretch_order","shrink","shrink_order"]),
 (303,["kind","width","height","depth","items","shift","sign","order","ratio"]),
 (324,["width","sort"]),(346,["glue","sort","leader"]),(367,["value"]),(388,["tokens"]),
 (409,["number","size","depth","top","cost","items"]),
 (535,["height","depth","stretch","shrink"]),
 (623,["number","factor","most","skip","held"]),(653,["rows"]),
 (674,["size","last","best","split_at","split_place"]),(695,["place","penalty","cost","size"]),
 (829,["vsize","max_depth","no_glue","contributions","held","page","state","goal","most_depth","inserts","insert_penalties","last_penalty","last_kern","last_glue","total","stretch","shrink","depth","best"])]
noncomputable def cM (C:Nat) (n:String):Bool:=uo.any fun p=>p.1 == C && p.2.contains n
noncomputable abbrev Kn:=Addr->Obj->Prop
noncomputable abbrev jF:=aT->Option Addr
inductive VR (kn:Kn) (adr:jF):Value->V->Prop
|none:VR kn adr .none .none
|bool (b):VR kn adr (.bool b) (.bool b)
|int (i t):VR kn adr (.int i t) (.int i)
|str (s t):VR kn adr (.str (U0 s) t) (.str s)
|ref (a l):adr l=some a->VR kn adr (.ref a) (.ref l)
|cst (v):handedIn v=true->VR kn adr v (.cst v)
|tup (a:Addr) (o:Obj) (vs:Array Value) (n:Nat) (xs:List V):kn a o->o.cls=.type "tuple"->o.data=.seq vs n->vs.size=xs.length->
   (∀ (i:Nat) (v:Value) (x:V),vs[i]?=some v->xs[i]?=some x->VR kn adr v x)->VR kn adr (.ref a) (.tup xs)
|lst (a:Addr) (o:Obj) (vs:Array Value) (n:Nat) (xs:List V):kn a o->(o.cls=.type "list"/\o.dict=none/\o.slots=#[])->o.data=.seq vs n->vs.size=xs.length->
   (∀ (i:Nat) (v:Value) (x:V),vs[i]?=some v->xs[i]?=some x->VR kn adr v x)->VR kn adr (.ref a) (.lst xs)
|obj (a C dx:Addr) (es:List DictEntry) (n:Nat) (fs:List (String × V)):kn a (instObj C dx)->kn dx (dictOf es n)->fs.all (fun f=>cM C f.1)=true->es.length=fs.length->
   (∀ (i:Nat) (e:DictEntry) (f:String × V),es[i]?=some e->fs[i]?=some f->∃ t,e.key=.str (U0 f.1) t)->
   (∀ (i:Nat) (e:DictEntry) (f:String × V),es[i]?=some e->fs[i]?=some f->VR kn adr e.val f.2)->VR kn adr (.ref a) (.obj C fs)
|dct (a:Addr) (es:List DictEntry) (n:Nat) (fs:List (Int × V)):kn a (dictOf es n)->((fs.map (fun q=>q.1)).Nodup/\(a == sysModules)=false)->es.length=fs.length->
   (∀ (i:Nat) (e:DictEntry) (f:Int × V),es[i]?=some e->fs[i]?=some f->∃ t,e.key=.int f.1 t/\e.hash=hashInt f.1)->
   (∀ (i:Nat) (e:DictEntry) (f:Int × V),es[i]?=some e->fs[i]?=some f->VR kn adr e.val f.2)->VR kn adr (.ref a) (.dct fs)
noncomputable def uq (kn:Kn) (adr:jF) (v:Value):V->Prop
|.none=>v=.none
|.bool b=>v=.bool b
|.int i=>∃ t,v=.int i t
|.str s=>∃ t,v=.str (U0 s) t
|.ref l=>∃ a,v=.ref a/\adr l=some a
|.cst w=>v=w
|.tup xs=>∃ (a:Addr) (o:Obj) (vs:Array Value) (n:Nat),v=.ref a/\kn a o/\o.cls=.type "tuple"/\o.data=.seq vs n/\vs.size=xs.length/\(∀ (i:Nat) (v:Value) (x:V),vs[i]?=some v->xs[i]?=some x->VR kn adr v x)
|.lst xs=>∃ (a:Addr) (o:Obj) (vs:Array Value) (n:Nat),v=.ref a/\kn a o/\(o.cls=.type "list"/\o.dict=none/\o.slots=#[])/\o.data=.seq vs n/\vs.size=xs.length/\(∀ (i:Nat) (v:Value) (x:V),vs[i]?=some v->xs[i]?=some x->VR kn adr v x)
|.obj C fs=>∃ (a dx:Addr) (es:List DictEntry) (n:Nat),v=.ref a/\kn a (instObj C dx)/\kn dx (dictOf es n)/\fs.all (fun f=>cM C f.1)=true/\es.length=fs.length/\
   (∀ (i:Nat) (e:DictEntry) (f:String × V),es[i]?=some e->fs[i]?=some f->∃ t,e.key=.str (U0 f.1) t)/\
   (∀ (i:Nat) (e:DictEntry) (f:String × V),es[i]?=some e->fs[i]?=some f->VR kn adr e.val f.2)
|.dct fs=>∃ (a:Addr) (es:List DictEntry) (n:Nat),v=.ref a/\kn a (dictOf es n)/\((fs.map (fun q=>q.1)).Nodup/\(a == sysModules)=false)/\es.length=fs.length/\
   (∀ (i:Nat) (e:DictEntry) (f:Int × V),es[i]?=some e->fs[i]?=some f->∃ t,e.key=.int f.1 t/\e.hash=hashInt f.1)/\
   (∀ (i:Nat) (e:DictEntry) (f:Int × V),es[i]?=some e->fs[i]?=some f->VR kn adr e.val f.2)
theorem VR.inv {kn:Kn}{adr:jF}{v:Value}{u:V}(h:VR kn adr v u):uq kn adr v u:=
 VR.casesOn (motive:=fun v u ω=>uq kn adr v u) h rfl (fun ω=>rfl) (fun ω t=>⟨t,rfl⟩) (fun ω t=>⟨t,rfl⟩) (fun a ω e=>⟨a,rfl,e⟩) (fun ω ω=>rfl)
  (fun a o vs n ω h1 h2 h3 h4 h5=>⟨a,o,vs,n,rfl,h1,h2,h3,h4,h5⟩) (fun a o vs n ω h1 h2 h3 h4 h5=>⟨a,o,vs,n,rfl,h1,h2,h3,h4,h5⟩)
  (fun a ω dx es n ω h1 h2 h3 h4 h5 h6=>⟨a,dx,es,n,rfl,h1,h2,h3,h4,h5,h6⟩) (fun a es n ω h1 h2 h3 h4 h5=>⟨a,es,n,rfl,h1,h2,h3,h4,h5⟩)
structure Cfg where
 kn:Kn
 own:Addr->Option aT
 adr:jF
noncomputable abbrev Cfg.R (c:Cfg):Value->V->Prop:=VR c.kn c.adr
structure Gr (c c':Cfg):Prop where
 kn:∀ a o,c.kn a o->c'.kn a o
 adr:∀ l a,c.adr l=some a->c'.adr l=some a
theorem ba {a b c:Nat}(h:a<=OfNat.ofNat b) (k:Nat.ble b c=true):a<=OfNat.ofNat c:=X9 h (Y2 k)
theorem AR {a b c:Nat}(h:a < OfNat.ofNat b) (k:Nat.ble b c=true):a < OfNat.ofNat c:=Y8 h (Y2 k)
theorem AS {a b c:Nat}(h:a<=OfNat.ofNat b) (k:Nat.ble b.succ c=true):a < OfNat.ofNat c:=Y9 h (Y2 k)
theorem ur {a b c:Nat}(h:a < OfNat.ofNat b) (k:Nat.ble b c.succ=true):a<=OfNat.ofNat c:=Nat.le_of_lt_succ (Y8 h (Y2 k))
theorem cU {a b c:Nat}(h:OfNat.ofNat b<=a) (k:Nat.ble c.succ b=true):¬ a=OfNat.ofNat c:=fun e=>Z1 c (Y8 (Y2 k:c < b) (by rw[e]at h;exact h))
theorem dm {k m n c:Nat}(h:k<=OfNat.ofNat m) (z:Nat.ble (m+n) c=true):k+OfNat.ofNat n<=OfNat.ofNat c:=X9 (Nat.add_le_add_right h _) (Y2 z)
theorem k8 {k m n:Nat}(z:Nat.ble m n=true):k+OfNat.ofNat m<=k+OfNat.ofNat n:=Nat.add_le_add_left (Y2 z) _
theorem il {b c:Nat}(k:Nat.ble b c=true):(OfNat.ofNat b:Int)<=OfNat.ofNat c:=Int.ofNat_le.mpr (Y2 k)
theorem ut {b c:Nat}(k:Nat.ble b.succ c=true):(OfNat.ofNat b:Int) < OfNat.ofNat c:=Int.ofNat_lt.mpr (Y2 k)
theorem uu {c:Nat}:-(OfNat.ofNat c:Int)<=0:=Int.neg_nonpos_of_nonneg (Z3 c)
theorem bS {a:Int}{b c:Nat}(h:a<=OfNat.ofNat b) (k:Nat.ble b c=true):a<=OfNat.ofNat c:=Z7 h (il k)
theorem AT {a:Int}{b c:Nat}(h:a < OfNat.ofNat b) (k:Nat.ble b c=true):a < OfNat.ofNat c:=Int.lt_of_lt_of_le h (il k)
theorem qq {a:Int}{b c:Nat}(h:a<=OfNat.ofNat b) (k:Nat.ble b.succ c=true):a < OfNat.ofNat c:=Int.lt_of_le_of_lt h (ut k)
theorem AU {a:Int}{b c:Nat}(h:a < OfNat.ofNat b) (k:Nat.ble b c.succ=true):a<=OfNat.ofNat c:=Int.le_of_lt_add_one (Int.lt_of_lt_of_le h (Int.ofNat_le.mpr (Y2 k)))
theorem AV {a:Int}{b c:Nat}(h:OfNat.ofNat b<=a) (k:Nat.ble c.succ b=true):OfNat.ofNat c < a:=Int.lt_of_lt_of_le (ut k) h
theorem in1 {a:Int}{b c:Nat}(h:OfNat.ofNat b < a) (k:Nat.ble c b=true):¬ a=OfNat.ofNat c:=fun e=>Int.lt_irrefl _ (Int.lt_of_le_of_lt (il k) (e ▸ h))
theorem nc {a:Int}{b c:Nat}(h:OfNat.ofNat b<=a) (k:Nat.ble c b=true):¬ a < OfNat.ofNat c:=fun e=>Int.lt_irrefl _ (Int.lt_of_lt_of_le e (Z7 (il k) h))
theorem AW {a:Int}{b c:Nat}(h:OfNat.ofNat b < a) (k:Nat.ble c b=true):¬ a < OfNat.ofNat c:=nc (Int.le_of_lt h) k
theorem dn {a:Int}{b c:Nat}(h:OfNat.ofNat b<=a):-(OfNat.ofNat c:Int)<=a:=Z7 uu (Z7 (Z3 b) h)
theorem qr {a:Int}{b c:Nat}(h:OfNat.ofNat b<=a):-(OfNat.ofNat (c+1):Int) < a:=Int.lt_of_lt_of_le (Int.negSucc_lt_zero c) (Z7 (Z3 b) h)
theorem AX {a b c:Nat}(h:a < OfNat.ofNat b) (k:Nat.ble b c=true):(a:Int) < OfNat.ofNat c:=Int.ofNat_lt.mpr (AR h k)
theorem AY {a b c:Nat}(h:a<=OfNat.ofNat b) (k:Nat.ble b c=true):(a:Int)<=OfNat.ofNat c:=Int.ofNat_le.mpr (ba h k)
theorem AZ {a c:Nat}:-(OfNat.ofNat c:Int)<=(a:Int):=Z7 uu (Z3 a)
theorem ie {k m n c:Nat}(z:Nat.ble (m+n) c=true):k+OfNat.ofNat m+OfNat.ofNat n<=k+OfNat.ofNat c:=X9 (Nat.le_of_eq (Nat.add_assoc ..)) (Nat.add_le_add_left (Y2 z) _)
theorem ia {a b:Int}{n:Nat}(h:a<=b):a<=b+OfNat.ofNat n:=Z7 h (Int.le_add_of_nonneg_right (Z3 n))
theorem na {a b:Nat}{n:Nat}(h:a<=b):a<=b+n:=X9 h (Y4 b n)
theorem im {a:Int}{n:Nat}(h:0<=a):0<=OfNat.ofNat n * a:=Int.mul_nonneg (Z3 n) h
theorem ib {a b c:Int}{m n:Nat}(h:a<=c) (h':b<=OfNat.ofNat m) (k:Nat.ble m n=true):a+b<=c+OfNat.ofNat n:=Int.add_le_add h (bS h' k)
theorem ig {a:Int}{m n c:Nat}(h:a < OfNat.ofNat m) (k:Nat.ble (n * m) (c+n)=true):OfNat.ofNat n * a<=OfNat.ofNat c:=by
 have h1:a<=(m:Int) - 1:=Int.le_sub_one_of_lt h;have h2:=Int.mul_le_mul_of_nonneg_left h1 (Z3 n);have h3:((n * m:Nat):Int)<=((c+n:Nat):Int):=Int.ofNat_le.mpr (Y2 k);simp only[Int.natCast_mul,Int.natCast_add,Int.mul_sub,Int.mul_one]at h2 h3;exact Z7 h2 (Int.sub_right_le_of_le_add h3)
theorem uv {u n a b k:Nat}(h1:1<=n) (h:u+k * n<=b) (ha:a<=k):u+a+k * (n - 1)<=b:=by
 obtain⟨m,rfl⟩:∃ m,n=m+1:=⟨n - 1,(Nat.sub_add_cancel h1).symm⟩;rw[Nat.mul_succ,Nat.add_comm _ k,<- Nat.add_assoc]at h;exact X9 (Nat.add_le_add_right (Nat.add_le_add_left ha u) _) h
theorem A0 {n:Nat}:(-1+(n:Int)).toNat=n - 1:=(congrArg Int.toNat (Int.add_comm _ _)).trans (Int.toNat_sub n 1)
theorem A7 {x:Int}(h:0<=x) (h':x < 4):x=0\/x=1\/x=2\/x=3:=by lia
theorem Gr.refl (c:Cfg):Gr c c:=⟨fun ω ω h=>h,fun ω ω h=>h⟩
theorem Gr.trans {a b c:Cfg}(x:Gr a b) (y:Gr b c):Gr a c:=⟨fun p o h=>y.kn p o (x.kn p o h),fun l p h=>y.adr l p (x.adr l p h)⟩
theorem VR.mono {kn kn':Kn}{adr adr':jF}(hk:∀ a o,kn a o->kn' a o) (ha:∀ l a,adr l=some a->adr' l=some a) {v:Value}{x:V}(h:VR kn adr v x):VR kn' adr' v x:=by
 induction h with
|none=>exact .none
|bool b=>exact .bool b
|int i t=>exact .int i t
|str s t=>exact .str s t
|ref a l e=>exact .ref a l (ha _ _ e)
|cst v e=>exact .cst v e
|tup a o vs n xs h1 h2 h3 h4 _ ih=>exact .tup a o vs n xs (hk _ _ h1) h2 h3 h4 ih
|lst a o vs n xs h1 h2 h3 h4 _ ih=>exact .lst a o vs n xs (hk _ _ h1) h2 h3 h4 ih
|obj a C dx es n fs h1 h2 h0 h3 h4 _ ih=>exact .obj a C dx es n fs (hk _ _ h1) (hk _ _ h2) h0 h3 h4 ih
|dct a es n fs h1 h0 h2 h3 _ ih=>exact .dct a es n fs (hk _ _ h1) h0 h2 h3 ih
theorem Cfg.R.gr {c c':Cfg}(g:Gr c c') {v:Value}{x:V}(h:c.R v x):c'.R v x:=VR.mono g.kn g.adr h
theorem fQ {α β:Type}[BEq α] [LawfulBEq α] {n a:α}{b:β}{l:List (α × β)}(h:n≠a):((a,b)::l).lookup n=l.lookup n:=by
 rw[V9,beq_eq_false_iff_ne.mpr h]
theorem fn {α β:Type}[BEq α] [LawfulBEq α] {a:α}{b:β}{l:List (α × β)}:((a,b)::l).lookup a=some b:=List.lookup_cons_self
theorem ng {α:Type}{l:List (String × α)}{n:String}{v:α}(h:l.lookup n=some v):(n,v)∈l:=by
 induction l with
|nil=>exact nomatch h
|cons f l ih=>
  obtain⟨a,b⟩:=f;by_cases e:n=a
  ·subst e;rw[U1 (fn.symm.trans h)];exact .head _
  ·exact .tail _ (ih ((fQ e).symm.trans h))
noncomputable def Rs (c:Cfg) (vs:List Value) (xs:List V):Prop:=vs.length=xs.length/\∀ (i:Nat) (v:Value) (x:V),vs[i]?=some v->xs[i]?=some x->c.R v x
theorem Rs.gr {c c':Cfg}(g:Gr c c') {vs:List Value}{xs:List V}(h:Rs c vs xs):Rs c' vs xs:=⟨h.1,fun i v x a b=>(h.2 i v x a b).gr g⟩
theorem Rs.nil (c:Cfg):Rs c [] []:=⟨rfl,fun i v x h=>by simp at h⟩
theorem Rs.cons {c:Cfg}{v:Value}{x:V}{vs:List Value}{xs:List V}(h:c.R v x) (r:Rs c vs xs):Rs c (v::vs) (x::xs):=
 ⟨by simp[r.1],fun i w y a b=>by
  cases i with
 |zero=>simp at a b;subst a;subst b;exact h
 |succ i=>simp at a b;exact r.2 i w y a b⟩
theorem Rs.head {c:Cfg}{v:Value}{x:V}{vs:List Value}{xs:List V}(h:Rs c (v::vs) (x::xs)):c.R v x:=h.2 0 v x rfl rfl
theorem Rs.tail {c:Cfg}{v:Value}{x:V}{vs:List Value}{xs:List V}(h:Rs c (v::vs) (x::xs)):Rs c vs xs:=
 ⟨by simpa using h.1,fun i w y a b=>h.2 (i+1) w y (by simpa using a) (by simpa using b)⟩
@[elab_as_elim] theorem Rs.ind {c:Cfg}{P:List Value->List V->Prop}(h0:P [] []) (h1:∀ v u vs us,c.R v u->Rs c vs us->P vs us->P (v::vs) (u::us)) {vs:List Value}{us:List V}(r:Rs c vs us):P vs us:=by
 induction vs generalizing us with
|nil=>
  obtain rfl:=W3.mp r.1.symm;exact h0
|cons v vs ih=>induction us with
 |nil=>exact nomatch r.1
 |cons u us=>exact h1 v u vs us r.head r.tail (ih r.tail)
theorem Rs.append {c:Cfg}{vs ws:List Value}{xs ys:List V}(h:Rs c vs xs) (r:Rs c ws ys):Rs c (vs++ws) (xs++ys):=
 Rs.ind (P:=fun vs xs=>Rs c (vs++ws) (xs++ys)) r (fun ω ω ω ω a ω b=>.cons a b) h
theorem Rs.get {c:Cfg}{vs:List Value}{xs:List V}(h:Rs c vs xs) {i:Nat}{x:V}(hx:xs[i]?=some x):∃ v,vs[i]?=some v/\c.R v x:=by
 have hi:i < vs.length:=by
  have:=(W5.mp hx).1;rw[h.1];exact this
 exact⟨vs[i],W9 hi,h.2 i _ x (W9 hi) hx⟩
inductive MO where
|inst (C:Nat) (fs:List (String × V))
|list (xs:List V)
|arr (xs:List V)
|dict (es:List (Int × V))
noncomputable def MO.ctorIdx (x:MO):Nat:=@MO.casesOn (fun ω=>Nat) x (fun ω ω=>0) (fun ω=>1) (fun ω=>2) (fun ω=>3)
structure MH where
 m:aT->Option MO
 nx:Nat->Nat
noncomputable def Fs (c:Cfg) (es:List DictEntry) (fs:List (String × V)):Prop:=
 es.length=fs.length/\(∀ (i:Nat) (e:DictEntry) (f:String × V),es[i]?=some e->fs[i]?=some f->∃ t,e.key=.str (U0 f.1) t)/\
  ∀ (i:Nat) (e:DictEntry) (f:String × V),es[i]?=some e->fs[i]?=some f->c.R e.val f.2
noncomputable def Ds (c:Cfg) (es:List DictEntry) (fs:List (Int × V)):Prop:=
 es.length=fs.length/\(∀ (i:Nat) (e:DictEntry) (f:Int × V),es[i]?=some e->fs[i]?=some f->∃ t,e.key=.int f.1 t/\e.hash=hashInt f.1)/\
  ∀ (i:Nat) (e:DictEntry) (f:Int × V),es[i]?=some e->fs[i]?=some f->c.R e.val f.2
theorem Fs.gr {c c':Cfg}(g:Gr c c') {es:List DictEntry}{fs:List (String × V)}(h:Fs c es fs):Fs c' es fs:=⟨h.1,h.2.1,fun i e f a b=>(h.2.2 i e f a b).gr g⟩
theorem Ds.gr {c c':Cfg}(g:Gr c c') {es:List DictEntry}{fs:List (Int × V)}(h:Ds c es fs):Ds c' es fs:=⟨h.1,h.2.1,fun i e f a b=>(h.2.2 i e f a b).gr g⟩
inductive MOI (c:Cfg) (h:Heap) (l:aT) (C:Nat) (fs:List (String × V)):Prop
|mk (a dx:Addr) (es:List DictEntry) (n:Nat):c.adr l=some a->c.own a=some l->c.own dx=some l->dx≠a->h.get? a=some (instObj C dx)->h.get? dx=some (dictOf es n)->Fs c es fs->fs.all (fun f=>cM C f.1)=true->fs.length<=900->MOI c h l C fs
inductive MOL (c:Cfg) (h:Heap) (l:aT) (xs:List V):Prop
|mk (a:Addr) (vs:List Value) (n:Nat):c.adr l=some a->c.own a=some l->h.get? a=some (listOf vs.toArray n)->Rs c vs xs->MOL c h l xs
inductive MOA (c:Cfg) (h:Heap) (l:aT) (xs:List V):Prop
|mk (a:Addr) (o:Obj) (vs:List Value) (n:Nat):c.adr l=some a->c.own a=some l->h.get? a=some o->o.cls=.type "list"->o.data=.seq vs.toArray n->Rs c vs xs->MOA c h l xs
inductive MOD (c:Cfg) (h:Heap) (l:aT) (fs:List (Int × V)):Prop
|mk (a:Addr) (es:List DictEntry) (n:Nat):c.adr l=some a->c.own a=some l->h.get? a=some (dictOf es n)->((fs.map (fun q=>q.1)).Nodup/\(a == sysModules)=false)->Ds c es fs->MOD c h l fs
noncomputable def MOk (c:Cfg) (h:Heap) (l:aT):MO->Prop
|.inst C fs=>MOI c h l C fs
|.list xs=>MOL c h l xs
|.arr xs=>MOA c h l xs
|.dict fs=>MOD c h l fs
theorem MOk.keep {c c':Cfg}{h h':Heap}{l:aT}{o:MO}(x:MOk c h l o) (g:Gr c c') (ho:∀ a,c.own a=some l->c'.own a=some l)
  (hk:∀ a ob,c.own a=some l->h.get? a=some ob->h'.get? a=some ob):MOk c' h' l o:=by
 induction o with
|inst C fs=>
  obtain⟨a,dx,es,n,h1,h2,h3,h4,h5,h6,h7,h8,h9⟩:=x;exact⟨a,dx,es,n,g.adr _ _ h1,ho _ h2,ho _ h3,h4,hk _ _ h2 h5,hk _ _ h3 h6,h7.gr g,h8,h9⟩
|list xs=>
  obtain⟨a,vs,n,h1,h2,h3,h4⟩:=x;exact⟨a,vs,n,g.adr _ _ h1,ho _ h2,hk _ _ h2 h3,h4.gr g⟩
|arr xs=>
  obtain⟨a,o,vs,n,h1,h2,h3,h5,h6,h4⟩:=x;exact⟨a,o,vs,n,g.adr _ _ h1,ho _ h2,hk _ _ h2 h3,h5,h6,h4.gr g⟩
|dict fs=>
  obtain⟨a,es,n,h1,h2,h3,h5,h4⟩:=x;exact⟨a,es,n,g.adr _ _ h1,ho _ h2,hk _ _ h2 h3,h5,h4.gr g⟩
structure Wd where
 w:World
 base:Heap
 mg:Str->Option Value
 mb:Str->Option Value
 K:(KX w.params).In base
 g:base.Ns mainGlobals mg
 b:base.Ns builtinsNs mb
 nolimit:base.NoLimit
 builtins:∀ x:Str,x≠"__name__"->mb x=bootBuiltins x
 script:Addr
 cells:List Int
 scr:∃ vs,base.IsList script vs.toArray/\IntsAre vs cells
 len:cells.length<=1000
noncomputable abbrev Wd.M (W:Wd):Model:=model PySem.Challenge.rw_sq0065_01.row.prog W.w
noncomputable abbrev bZ:=Str->Option Value
noncomputable abbrev bU:=List (Env × bZ)
inductive FrE (c:Cfg) (h:Heap) (f:Env × bZ):Prop
|mk (L:Addr):(∃ F,f.1.frame=some F)->f.1.locals=L->f.1.scope.kind=.function->f.1.globals=mainGlobals->f.1.builtins=builtinsNs->h.Ns L f.2->c.own L=none->(∀ o,¬ c.kn L o)->FrE c h f
structure FrOk (c:Cfg) (base h:Heap) (f:Env × bZ):Prop where
 ex:FrE c h f
structure RelH (W:Wd) (fms:bU) (prot:List (Addr × Obj)) (c:Cfg) (mh:MH) (h:Heap):Prop where
 base:∀ a o,W.base.get? a=some o->c.kn a o
 kn:∀ a o,c.kn a o->h.get? a=some o
 free:∀ a o,c.kn a o->c.own a=none
 live:∀ a l,c.own a=some l->∃ o,h.get? a=some o/\∀ vs,o.data≠.fields vs
 frs:∀ f∈fms,FrOk c W.base h f
 dist:(fms.map (·.1.locals)).Nodup/\(prot.map (fun q=>q.1)).Nodup
 pr:∀ p∈prot,h.get? p.1=some p.2/\c.own p.1=none/\(∀ o,¬ c.kn p.1 o)/\∀ f∈fms,f.1.locals≠p.1
 mo:∀ l o,mh.m l=some o->MOk c h l o
 nxt:∀ l a,c.adr l=some a->l.2 < mh.nx l.1
noncomputable def MH.set (mh:MH) (l:aT) (o:MO):MH:={ mh with m:=fun k=>if k=l then some o else mh.m k }
noncomputable def MH.drop (mh:MH) (l:aT):MH:={ mh with m:=fun k=>if k=l then none else mh.m k }
noncomputable def MH.new (mh:MH) (r:Nat) (o:MO):MH:={ m:=fun k=>if k=(r,mh.nx r)then some o else mh.m k,nx:=fun q=>if q=r then mh.nx r+1 else mh.nx q }
noncomputable def Cfg.learn (c:Cfg) (N:Kn):Cfg:={ c with kn:=fun a o=>c.kn a o\/N a o }
open Classical in
noncomputable def Cfg.label (c:Cfg) (l:aT) (a:Addr) (as:Addr->Prop):Cfg:={ c with own:=fun b=>if as b then some l else c.own b,adr:=fun k=>if k=l then some a else c.adr k }
structure FreeA (fms:bU) (prot:List (Addr × Obj)) (c:Cfg) (a:Addr):Prop where
 own:c.own a=none
 kn:∀ o,¬ c.kn a o
 fr:∀ f∈fms,f.1.locals≠a
 pr:∀ p∈prot,p.1≠a
section
variable {W:Wd}{fms:bU}{prot:List (Addr × Obj)}{c c':Cfg}{mh mh':MH}{h h':Heap}
theorem jG {α:Type}{x:Option α}{a:α}(e:x=none):x≠some a:=by rw[e];exact fun h=>nomatch h
theorem FrOk.keeps {f:Env × bZ}{base:Heap}(x:FrOk c base h f) (k:∀ L,f.1.locals=L->∀ o,h.get? L=some o->h'.get? L=some o):FrOk c base h' f:=by
 obtain⟨L,h1,h2,h3,h4,h5,⟨o,es,ep,e,r⟩,h7,h8⟩:=x.ex;exact⟨L,h1,h2,h3,h4,h5,⟨o,es,ep,k L h2 o e,r⟩,h7,h8⟩
theorem RelH.keeps (x:RelH W fms prot c mh h) (k:∀ b o,h.get? b=some o->h'.get? b=some o):RelH W fms prot c mh h' where
 base:=x.base
 kn a o e:=k a o (x.kn a o e)
 free:=x.free
 live a l e:=by obtain⟨o,h1,h2⟩:=x.live a l e;exact⟨o,k _ _ h1,h2⟩
 frs f hf:=(x.frs f hf).keeps fun L ω o e=>k L o e
 dist:=x.dist
 pr p hp:=by obtain⟨a,b⟩:=x.pr p hp;exact⟨k _ _ a,b⟩
 mo l o e:=(x.mo l o e).keep (Gr.refl c) (fun ω h=>h) (fun ω ω ω e=>k _ _ e)
 nxt:=x.nxt
theorem RelH.fresh (x:RelH W fms prot c mh h) {a:Addr}(ha:h.get? a=none):FreeA fms prot c a:=by
 refine⟨?_,?_,?_,?_⟩
 ·cases e:c.own a with
 |none=>rfl
 |some l=>obtain⟨o,q,_⟩:=x.live a l e;rw[ha]at q;cases q
 ·intro o e;have:=x.kn a o e;rw[ha]at this;cases this
 ·intro f hf e;obtain⟨L,_,h1,_,_,_,⟨o,es,ep,q,r⟩,_⟩:=(x.frs f hf).ex;rw[h1]at e;subst e;rw[ha]at q;cases q
 ·intro p hp e;have:=(x.pr p hp).1;rw[e,ha]at this;cases this
theorem Gr.learn (c:Cfg) (N:Kn):Gr c (c.learn N):=⟨fun ω ω h=>.inl h,fun ω ω h=>h⟩
theorem RelH.learn (x:RelH W fms prot c mh h) (N:Kn) (hk:∀ a o,N a o->h.get? a=some o/\FreeA fms prot c a):RelH W fms prot (c.learn N) mh h:=by
 refine⟨fun a o e=>.inl (x.base a o e),?_,?_,x.live,?_,x.dist,?_,?_,x.nxt⟩
 ·rintro a o (e|e)
  ·exact x.kn a o e
  ·exact(hk a o e).1
 ·rintro a o (e|e)
  ·exact x.free a o e
  ·exact(hk a o e).2.own
 ·intro f hf;obtain⟨L,h1,h2,h3,h4,h5,h6,h7,h8⟩:=(x.frs f hf).ex;refine⟨L,h1,h2,h3,h4,h5,h6,h7,?_⟩;rintro o (e|e)
  ·exact h8 o e
  ·exact(hk L o e).2.fr f hf h2
 ·intro p hp;obtain⟨a,b,d,e⟩:=x.pr p hp;refine⟨a,b,?_,e⟩;rintro o (q|q)
  ·exact d o q
  ·exact(hk _ o q).2.pr p hp rfl
 ·intro l o e;exact(x.mo l o e).keep (Gr.learn c N) (fun ω h=>h) (fun ω ω ω e=>e)
theorem RelH.know (x:RelH W fms prot c mh h) (k:∀ b o,h.get? b=some o->h'.get? b=some o) (N:Kn)
  (hk:∀ a o,N a o->h'.get? a=some o/\h.get? a=none):RelH W fms prot (c.learn N) mh h':=
 (x.keeps k).learn N fun a o e=>⟨(hk a o e).1,x.fresh (hk a o e).2⟩
theorem RelH.turn (x:RelH W fms prot c mh h) {l:aT}{o:MO}(k:∀ b ob,c.own b≠some l->h.get? b=some ob->h'.get? b=some ob)
  (kl:∀ b ob,c.own b=some l->h.get? b=some ob->∃ ob',h'.get? b=some ob'/\∀ vs,ob'.data≠.fields vs)
  (ho:MOk c h' l o):RelH W fms prot c (mh.set l o) h' where
 base:=x.base
 kn a ob e:=k a ob (jG (x.free a ob e)) (x.kn a ob e)
 free:=x.free
 live a l' e:=by
  obtain⟨ob,q,r⟩:=x.live a l' e;by_cases z:c.own a=some l
  ·exact kl a ob z q
  ·exact⟨ob,k a ob z q,r⟩
 frs f hf:=(x.frs f hf).keeps fun L hL o e=>by
  obtain⟨L',_,h1,_,_,_,_,h7,_⟩:=(x.frs f hf).ex;obtain rfl:=hL.symm.trans h1;exact k _ _ (jG h7) e
 dist:=x.dist
 pr p hp:=by obtain⟨a,b,d⟩:=x.pr p hp;exact⟨k _ _ (jG b) a,b,d⟩
 mo l' o' e:=by
  by_cases q:l'=l
  ·subst q;simp only[MH.set,if_true]at e;obtain rfl:=U1 e;exact ho
  ·simp only[MH.set,if_neg q]at e;exact(x.mo l' o' e).keep (Gr.refl c) (fun ω h=>h) (fun a ob ha e=>k a ob (by rw[ha];exact fun h=>q (U1 h)) e)
 nxt:=x.nxt
open Classical in
set_option tactic.hygienic true in
theorem RelH.label (x:RelH W fms prot c mh h) (k:∀ b o,h.get? b=some o->h'.get? b=some o) (r:Nat) (o:MO) (a:Addr) (as:Addr->Prop)
  (ha:∀ b,as b->h.get? b=none/\∃ ob,h'.get? b=some ob/\∀ vs,ob.data≠.fields vs)
  (ho:MOk (c.label (r,mh.nx r) a as) h' (r,mh.nx r) o) :
  RelH W fms prot (c.label (r,mh.nx r) a as) (mh.new r o) h'/\Gr c (c.label (r,mh.nx r) a as):=by
 have hno:∀ a',c.adr (r,mh.nx r)≠some a':=fun a' e=>absurd (x.nxt _ _ e) (Z1 _)
 have g:Gr c (c.label (r,mh.nx r) a as):=
  ⟨fun ω ω h=>h,fun l a' e=>by
   show(if l=(r,mh.nx r)then some a else c.adr l)=some a';rw[if_neg (fun q=>by rw[q]at e;exact hno a' e)];exact e⟩
 have na:∀ b ob,h.get? b=some ob->¬ as b:=fun b ob hb q=>by rw[(ha b q).1]at hb;cases hb
 refine⟨⟨x.base,fun a o e=>k a o (x.kn a o e),?_,?_,?_,x.dist,?_,?_,?_⟩,g⟩
 ·intro b ob e;show(if as b then _ else c.own b)=none;rw[if_neg (na b ob (x.kn b ob e))];exact x.free b ob e
 ·intro b l e;by_cases q:as b
  ·exact(ha b q).2
  ·have e':c.own b=some l:=by simpa only[Cfg.label,if_neg q]using e
   have z9:=x.live b l e';refine z9.elim fun ob z0=>?_;have h1:=z0.1;have h2:=z0.2;clear z0 z9
   exact⟨ob,k _ _ h1,h2⟩
 ·intro f hf;obtain⟨L,h1,h2,h3,h4,h5,h6,h7,h8⟩:=(x.frs f hf).ex;refine⟨L,h1,h2,h3,h4,h5,h6.keeps k,?_,h8⟩;show(if as L then _ else c.own L)=none;refine h6.elim fun o z0=>?_;refine z0.elim fun _ z1=>?_;refine z1.elim fun _ z2=>?_;have e:=z2.1;clear z2 z1 z0 h6
  rw[if_neg (na L o e)];exact h7
 ·intro p hp;have z9:=x.pr p hp;have a1:=z9.1;have b1:=z9.2.1;have d1:=z9.2.2.1;have e1:=z9.2.2.2;clear z9;refine⟨k _ _ a1,?_,d1,e1⟩;show(if as p.1 then _ else c.own p.1)=none;rw[if_neg (na p.1 _ a1)];exact b1
 ·intro l' o' e;by_cases q:l'=(r,mh.nx r)
  ·subst q;simp only[MH.new,if_true]at e;obtain rfl:=U1 e;exact ho
  ·simp only[MH.new,if_neg q]at e;refine(x.mo l' o' e).keep g (fun b hb=>?_) (fun a ob ω e=>k a ob e);show(if as b then _ else c.own b)=some l';have z9:=x.live b l' hb;refine z9.elim fun ob z0=>?_;have h1:=z0.1;clear z0 z9
   rw[if_neg (na b ob h1)];exact hb
 ·intro l a' e;show l.2 < (if l.1=r then mh.nx r+1 else mh.nx l.1);by_cases q:l=(r,mh.nx r)
  ·subst q;simp
  ·have e':c.adr l=some a':=by simpa only[Cfg.label,if_neg q]using e
   have:=x.nxt l a' e'
   split
   ·rename_i z;rw[z]at this;exact Y6 this
   ·exact this
end
inductive ExcQ (fms:bU) (prot:List (Addr × Obj)) (c:Cfg) (h:Heap) (ea cls:Addr) (q:Option Value->Prop):Prop
|mk (oe:Obj) (vs:Array Value) (a0:Value):h.get? ea=some oe->oe.cls=.ref cls->oe.data=.fields vs->vs[0]?=some a0->FreeA fms prot c ea->
  ((vs[1]?=some .none/\q none)\/∃ (T:Addr) (oT:Obj) (ts:Array Value) (fl:Value),vs[1]?=some (.ref T)/\T≠ea/\h.get? T=some oT/\oT.data=.fields ts/\ts[3]?=some fl/\FreeA fms prot c T/\q (some fl))->ExcQ fms prot c h ea cls q
section
variable {W:Wd}{fms:bU}{prot:List (Addr × Obj)}{c:Cfg}{mh:MH}{h h':Heap}{env:Env}{m:bZ}{L ea cls:Addr}
theorem FreeA.mono {fms':bU}{prot':List (Addr × Obj)}{a:Addr}(x:FreeA fms prot c a) (hf:∀ f∈fms',f∈fms) (hp:∀ p∈prot',p∈prot):FreeA fms' prot' c a:=
 ⟨x.own,x.kn,fun f hf'=>x.fr f (hf f hf'),fun p hp'=>x.pr p (hp p hp')⟩
noncomputable def bV (e:Env):Bool:=e.frame == some e.locals
theorem uw {e:Env}(h:bV e=true):e.frame=some e.locals:=beq_iff_eq.mp h
noncomputable def dp (fms:bU):List Env:=(fms.map (fun q=>q.1)).filter bV
theorem ux {e:Env}(h:e∈dp fms):bV e=true/\∃ f∈fms,f.1=e:=by
 obtain⟨h1,h2⟩:=List.mem_filter.mp h;obtain⟨f,hf,rfl⟩:=V5.mp h1;exact⟨h2,f,hf,rfl⟩
noncomputable def fo (fms:bU) (ea:Addr) (T:Option Addr):List Addr:=(dp fms).map (·.locals)++ea::T.toList
set_option tactic.hygienic true in
theorem A8 (x:RelH W fms prot c mh h) {B:Heap}(hB:∀ e∈dp fms,B.get? e.locals=none):h.FunFrames B (dp fms):=by
 have hx:=x.frs;clear x;induction fms with
|nil=>trivial
|cons f r ih=>
  have hr:=ih (fun e he=>hB e (by
   unfold dp at he ⊢;rw[V1,List.filter_cons]
   split
   ·exact .tail _ he
   ·exact he)) fun f' hf=>hx f' (.tail _ hf)
  unfold dp;rw[V1,List.filter_cons]
  split
  ·rename_i hre;obtain⟨L,h1,h2,h3,h4,h5,⟨o,es,ep,e,hd,_⟩,h7,h8⟩:=(hx f (.head _)).ex;refine⟨by rw[h3];decide,⟨L,o,h2 ▸ uw hre,h2 ▸ hB f.1 (by unfold dp;rw[V1,List.filter_cons,if_pos hre];exact .head _),e,fun vs q=>by rw[hd]at q;cases q⟩,hr⟩
  ·exact hr
theorem A9 (x:RelH W fms prot c mh h) {f:Env × bZ}(hf:f∈fms) {L:Addr}(e:f.1.locals=L):∃ o es n,h.get? L=some o/\o.data=.dict es n:=by
 obtain⟨L',h1,h2,h3,h4,h5,⟨o,es,ep,e',hd,_⟩,h7,h8⟩:=(x.frs f hf).ex;obtain rfl:=e.symm.trans h2;exact⟨o,es,ep,e',hd⟩
theorem RelH.slots (x:RelH W fms prot c mh h) {hd:List Addr}(hh:∀ a∈hd,(∃ f∈fms,f.1.locals=a)\/FreeA fms prot c a)
  (st:(hideAll h hd).StaysIn h') (sl:∀ b o,h.get? b=some o->(∀ vs,o.data≠.fields vs)->∃ s,h'.get? b=some { o with slots:=s }):RelH W fms prot c mh h':=by
 have nk:∀ a o,c.kn a o->a ∉ hd:=fun a o e q=>by
  rcases hh a q with ⟨f,hf,hL⟩|z
  ·obtain⟨L,_,h1,_,_,_,_,_,h8⟩:=(x.frs f hf).ex;obtain rfl:=hL.symm.trans h1;exact h8 o e
  ·exact z.kn o e
 have no:∀ a l,c.own a=some l->a ∉ hd:=fun a l e q=>by
  rcases hh a q with ⟨f,hf,hL⟩|z
  ·obtain⟨L,_,h1,_,_,_,_,h7,_⟩:=(x.frs f hf).ex;obtain rfl:=hL.symm.trans h1;rw[h7]at e;cases e
  ·rw[z.own]at e;cases e
 have np:∀ p∈prot,p.1 ∉ hd:=fun p hp q=>by
  rcases hh _ q with ⟨f,hf,hL⟩|z
  ·exact(x.pr p hp).2.2.2 f hf hL
  ·exact z.pr p hp rfl
 refine⟨x.base,fun a o e=>st a o (hideAll_get _ (x.kn a o e) (nk a o e)),x.free,?_,?_,x.dist,?_,?_,x.nxt⟩
 ·intro a l e;obtain⟨o,h1,h2⟩:=x.live a l e;exact⟨o,st a o (hideAll_get _ h1 (no a l e)),h2⟩
 ·intro f hf;obtain⟨L,h1,h2,h3,h4,h5,⟨o,es,ep,e,hdt,r⟩,h7,h8⟩:=(x.frs f hf).ex;obtain⟨s,hs⟩:=sl L o e (fun vs q=>by rw[hdt]at q;cases q);exact⟨L,h1,h2,h3,h4,h5,⟨_,es,ep,hs,hdt,r⟩,h7,h8⟩
 ·intro p hp;obtain⟨a,b⟩:=x.pr p hp;exact⟨st _ _ (hideAll_get _ a (np p hp)),b⟩
 ·intro l o e;exact(x.mo l o e).keep (Gr.refl c) (fun ω h=>h) fun a ob ha q=>st a ob (hideAll_get _ q (no a l ha))
section
variable {M:Model}{A:Around}{E:Value->Shared->Prop}{s:Shared}{Q:Unit->Shared->Prop}
theorem Ba (fe:FreeA fms prot c ea) {T:Option Addr}(ft:∀ a∈T,FreeA fms prot c a):∀ a∈fo fms ea T,(∃ f∈fms,f.1.locals=a)\/FreeA fms prot c a:=by
 intro a ha;rcases U5.mp ha with ha|ha
 ·obtain⟨e,he,q⟩:=V5.mp ha;obtain⟨_,f,hf,rfl⟩:=ux he;exact .inl ⟨f,hf,q⟩
 ·rcases V3.mp ha with rfl|ha
  ·exact .inr fe
  ·exact .inr (ft a (by simpa using ha))
theorem uy {a0 fl:Value}{T:Option Addr}(x:RelH W fms prot c mh h) (fe:FreeA fms prot c ea) (ft:∀ a∈T,FreeA fms prot c a)
  (st:(hideAll h (fo fms ea T)).StaysIn h') (tr:h'.TracedAtW (hideAll h (fo fms ea T)) ea (.ref cls) a0 fl)
  (sl:∀ b o,h.get? b=some o->(∀ vs,o.data≠.fields vs)->∃ s,h'.get? b=some { o with slots:=s }) {q:Option Value->Prop}(hq:q (some fl)) :
  RelH W fms prot c mh h'/\ExcQ fms prot c h' ea cls q:=by
 refine⟨x.slots (Ba fe ft) st sl,?_⟩;obtain⟨oe,vs,T',oT,ts,he,⟨hc,h0⟩,hd,h1,hnT,hTe,hT,hdT,h3⟩:=tr;refine⟨oe,vs,a0,he,hc,hd,h0,fe,.inr ⟨T',oT,ts,fl,h1,hTe,hT,hdT,h3,?_,hq⟩⟩;cases hg:h.get? T' with
|none=>exact x.fresh hg
|some o'=>
  by_cases hm:T'∈fo fms ea T
  ·rcases U5.mp hm with hm|hm
   ·obtain⟨ev,he,e⟩:=V5.mp hm;obtain⟨_,f,hf,rfl⟩:=ux he;obtain⟨o,es,n,ho,hdo⟩:=A9 x hf e;obtain⟨s,hs⟩:=sl T' o ho (fun vs q=>by rw[hdo]at q;cases q);rw[hT]at hs;obtain rfl:=U1 hs;rw[hdo]at hdT;cases hdT
   ·rcases V3.mp hm with rfl|hm
    ·exact absurd rfl hTe
    ·exact ft _ (by simpa using hm)
  ·rw[hideAll_get _ hg hm]at hnT;cases hnT
theorem qs (hfr:A.frames=some (dp fms)) {rest:bU}(hfm:fms=(env,m)::rest) (hre:bV env=true) (x:RelH W fms prot c mh s.heap) (hL:env.frame=some L)
  (e:ExcQ fms prot c s.heap ea cls fun fl=>fl=none\/fl=some .none\/fl=some (rawInt L))
  (k:∀ h',RelH W fms prot c mh h'->ExcQ fms prot c h' ea cls (fun fl=>fl=some (rawInt L))->Q () { s with heap:=h' }):wpAny M A (noteFrame (.ref ea) env) Q E s:=by
 obtain⟨oe,vs,a0,he,hc,hd,h0,fe,z⟩:=e;have hrl:dp fms=env::dp rest:=by rw[hfm];unfold dp;rw[V1,List.filter_cons,if_pos hre]
 have hfr':A.frames=some (env::dp rest):=by rw[hfr,hrl]
 have none_of:∀ T,∀ a∈fo fms ea T,(hideAll s.heap (fo fms ea T)).get? a=none:=fun T a ha=>hideAll_none _ ha
 have nf:∀ T,∀ e∈dp fms,(hideAll s.heap (fo fms ea T)).get? e.locals=none:=fun T e he=>none_of T _ (U8 _ (V5.mpr ⟨e,he,rfl⟩))
 have ff:∀ T,s.heap.FunFrames (hideAll s.heap (fo fms ea T)) (env::dp rest):=fun T=>by
  have:=A8 x (nf T);rw[hrl]at this;exact this
 have ne:∀ T,(hideAll s.heap (fo fms ea T)).get? ea=none:=fun T=>none_of T ea (U7 _ (.head _))
 rcases z with ⟨h1,_⟩|⟨T,oT,ts,fl,h1,hTe,hT,hdT,h3,fT,hq⟩
 ·have hft:∀ a∈(none:Option Addr),FreeA fms prot c a:=fun a ha=>nomatch ha
  unfold noteFrame;simp only[hL];refine Z9 (wpAny_field he hd h1 ?_);rw[if_neg (by decide)];refine wpAny_entryW hfr' (ff none) hL he (fun b o q=>of_hideAll _ q) (ne none) hd (Array.getElem?_eq_some_iff.mp h1).1 h0 fun h' N=>?_
  rw[hc]at N;obtain⟨r1,r2⟩:=uy x fe hft N.1 N.2.2.1 N.2.2.2 (q:=fun fl=>fl=some (rawInt L)) rfl;exact k h' r1 r2
 ·have hft:∀ a∈(some T:Option Addr),FreeA fms prot c a:=fun a ha=>by
   obtain rfl:T=a:=by simpa using ha
   exact fT
  rcases hq with hq|hq|hq
  ·cases hq
  ·obtain rfl:=U1 hq;refine wpAny_noteFrame_onW (base:=hideAll s.heap (fo fms ea (some T))) (cls:=.ref cls) (a0:=a0) hfr' (ff _) hL
    ⟨oe,vs,T,oT,ts,he,⟨hc,h0⟩,hd,h1,none_of _ T (U7 _ (.tail _ (.head _))),hTe,hT,hdT,h3⟩ (fun b o q=>of_hideAll _ q) (ne _) fun h' N=>?_
   obtain⟨r1,r2⟩:=uy x fe hft N.1 N.2.2.1 N.2.2.2 (q:=fun fl=>fl=some (rawInt L)) rfl;exact k h' r1 r2
  ·obtain rfl:=U1 hq;refine wpAny_noteFrame_againW (base:=hideAll s.heap (fo fms ea (some T))) (cls:=.ref cls) (a0:=a0) hL
    ⟨oe,vs,T,oT,ts,he,⟨hc,h0⟩,hd,h1,none_of _ T (U7 _ (.tail _ (.head _))),hTe,hT,hdT,h3⟩ ?_
   exact k s.heap x ⟨oe,vs,a0,he,hc,hd,h0,fe,.inr ⟨T,oT,ts,_,h1,hTe,hT,hdT,h3,fT,rfl⟩⟩
theorem nh {r:Option Addr}(x:RelH W fms prot c mh s.heap) {q:Option Value->Prop}(e:ExcQ fms prot c s.heap ea cls q) (hq:∀ fl,q fl->fl≠none)
  (k:∀ h',RelH W fms prot c mh h'->ExcQ fms prot c h' ea cls (fun fl=>fl=some (r.elim .none fun f=>rawInt f))->Q () { s with heap:=h' }):wpAny M A (setFlight (.ref ea) r) Q E s:=by
 obtain⟨oe,vs,a0,he,hc,hd,h0,fe,⟨h1,z⟩|⟨T,oT,ts,fl,h1,hTe,hT,hdT,h3,fT,z⟩⟩:=e
 ·exact absurd rfl (hq _ z)
 ·unfold setFlight;have other:∀ b,b≠T->(s.heap.update T (Obj.mapFields (·.setIfInBounds 3 (r.elim Value.none fun f=>rawInt f)))).get? b=s.heap.get? b:=
   fun b hb=>Heap.get?_update_other _ _ (Ne.symm hb)
  refine Z9 (wpAny_field he hd h1 ?_);rw[if_pos (show(Value.ref T != Value.none)=true from by simp)];refine wpAny_setField hT hdT (Array.getElem?_eq_some_iff.mp h3).1 (k _ ?_ ?_)
  ·refine x.slots (hd:=[T]) (fun a ha=>.inr (by obtain rfl:=U6.mp ha;exact fT)) (fun b o q=>?_) (fun b o hb hn=>?_)
   ·have hbT:b≠T:=fun z=>by rw[z,hideAll_none _ (.head _)]at q;cases q
    rw[other b hbT];exact of_hideAll _ q
   ·have hbT:b≠T:=fun z=>by
     rw[z,hT]at hb;obtain rfl:=U1 hb;exact hn _ hdT
    exact⟨o.slots,(other b hbT).trans hb⟩
  ·have hd2:=Obj.data_mapFields hdT (·.setIfInBounds 3 (r.elim Value.none fun f=>rawInt f));refine⟨oe,vs,a0,(other ea (Ne.symm hTe)).trans he,hc,hd,h0,fe,.inr ⟨T,_,_,_,h1,hTe,Heap.get?_update_self _ hT (Obj.isFreed_of_fields hd2),hd2,?_,fT,rfl⟩⟩;rw[Array.getElem?_setIfInBounds_self_of_lt (Array.getElem?_eq_some_iff.mp h3).1]
theorem Bb (hfr:A.frames=some (dp fms)) {rest:bU}(hfm:fms=(env,m)::rest) (hre:bV env=true) (x:RelH W fms prot c mh s.heap) (hL:env.frame=some L)
  (e:ExcQ fms prot c s.heap ea cls fun fl=>fl=none\/fl=some .none\/fl=some (rawInt L))
  (k:∀ h',RelH W fms prot c mh h'->ExcQ fms prot c h' ea cls (fun fl=>fl=some .none)->Q () { s with heap:=h' }):wpAny M A (leaving env (.ref ea)) Q E s:=by
 unfold leaving;refine Z9 (qs hfr hfm hre x hL e fun h' x' e'=>?_);exact nh (s:={ s with heap:=h' }) x' e' (fun fl q=>by rw[q];exact fun z=>nomatch z) fun h'' x'' e''=>k h'' x'' e''
end
end
structure St where
 loc:List (String × V)
 pend:List String
 mh:MH
noncomputable def LocR (c:Cfg) (env:Env) (loc:List (String × V)) (m:bZ):Prop:=
 ∀ x v₀,loc.lookup x=some v₀->
  (env.kindOf (U0 x)=some .local/\∃ v,m (U0 x)=some v/\c.R v v₀)\/
  ((env.kindOf (U0 x)=some .cell\/(env.kindOf (U0 x)=some .free/\(U0 x == ("__classdict__":Str))=false))/\
   ∃ a o v,env.cells.lookup (U0 x)=some a/\c.kn a o/\o.data=.cell (some v)/\c.R v v₀)
theorem LocR.gr {c c':Cfg}(g:Gr c c') {env:Env}{loc:List (String × V)}{m:bZ}(h:LocR c env loc m):LocR c' env loc m:=fun x v₀ e=>by
 rcases h x v₀ e with ⟨a,v,b,r⟩|⟨a,b,o,v,d,k,f,r⟩
 ·exact .inl ⟨a,v,b,r.gr g⟩
 ·exact .inr ⟨a,b,o,v,d,g.kn _ _ k,f,r.gr g⟩
noncomputable def uz (env:Env):List String->List (Addr × Obj)->Prop
|[],[]=>True
|x::xs,p::ps=>env.kindOf (U0 x)=some .cell/\env.cells.lookup (U0 x)=some p.1/\p.2.data=.cell none/\(∀ q∈ps,q.1≠p.1)/\uz env xs ps
|_,_=>False
structure Cx where
 W:Wd
 env:Env
 fms:bU
 prot:List (Addr × Obj)
 A:Around
 n:Nat
structure Cx.Ok (x:Cx):Prop where
 hnd:x.A.handled=none
 fr:x.A.frames=some ((x.env::x.fms.map (fun q=>q.1)).filter bV)
 d:x.A.depth+10 * x.n<=999
 u:x.A.units+100 * x.n<=9799
noncomputable def Rel (x:Cx) (c:Cfg) (st:St) (h:Heap):Prop:=
 ∃ m pc,RelH x.W ((x.env,m)::x.fms) (pc++x.prot) c st.mh h/\LocR c x.env st.loc m/\uz x.env st.pend pc
structure SW (s s':Shared):Prop where
 gens:s'.gens=s.gens
 drawn:s'.drawn=s.drawn
 os:s'.os=s.os
theorem SW.refl (s:Shared):SW s s:=⟨rfl,rfl,rfl⟩
theorem SW.trans {a b c:Shared}(x:SW a b) (y:SW b c):SW a c:=⟨y.1.trans x.1,y.2.trans x.2,y.3.trans x.3⟩
noncomputable abbrev XP:=Nat->MH->Prop
inductive Cx.EX (x:Cx) (X:XP) (c:Cfg) (s:Shared) (e:Value) (s':Shared):Prop
|mk (c':Cfg) (cls:Nat) (mh:MH) (m:bZ) (pc:List (Addr × Obj)) (ea L:Addr):Gr c c'->SW s s'->e=.ref ea->x.env.frame=some L->RelH x.W ((x.env,m)::x.fms) (pc++x.prot) c' mh s'.heap->
  ExcQ ((x.env,m)::x.fms) (pc++x.prot) c' s'.heap ea cls (fun fl=>fl=none\/fl=some .none\/fl=some (rawInt L))->X cls mh->Cx.EX x X c s e s'
section
variable {α β:Type}
inductive Cx.Po (x:Cx) (ρ:Cfg->α->β->Prop) (Q:β->St->Prop) (c:Cfg) (s:Shared) (a:α) (s':Shared):Prop
|mk (c':Cfg) (b:β) (st':St):Gr c c'->SW s s'->Rel x c' st' s'.heap->ρ c' a b->Q b st'->Cx.Po x ρ Q c s a s'
noncomputable abbrev Tr (β:Type):=(β->St->Prop)->XP->St->Prop
noncomputable def Cx.J (x:Cx) (t:Sem α) (ρ:Cfg->α->β->Prop) (T:Tr β):Prop:=
 ∀ Q X st,T Q X st->∀ c s,Rel x c st s.heap->wpAny x.W.M x.A t (x.Po ρ Q c s) (x.EX X c s) s
variable {x:Cx}{ρ:Cfg->α->β->Prop}{Q:β->St->Prop}{X:XP}{c c':Cfg}{s s' s'':Shared}{t:Sem α}
theorem Po.up (g:Gr c c') (w:SW s s') {a:α}(h:x.Po ρ Q c' s' a s''):x.Po ρ Q c s a s'':=
 by obtain⟨c2,b,st,g2,w2,r,r1,r2⟩:=h;exact⟨c2,b,st,g.trans g2,w.trans w2,r,r1,r2⟩
theorem EX.up (g:Gr c c') (w:SW s s') {e:Value}(h:x.EX X c' s' e s''):x.EX X c s e s'':=
 by obtain⟨c2,cls,mh,m,pc,ea,L,g2,w2,r,r1,r2,r3,r4⟩:=h;exact⟨c2,cls,mh,m,pc,ea,L,g.trans g2,w.trans w2,r,r1,r2,r3,r4⟩
theorem dQ (g:Gr c c') (w:SW s s') (h:wpAny x.W.M x.A t (x.Po ρ Q c' s') (x.EX X c' s') s''):wpAny x.W.M x.A t (x.Po ρ Q c s) (x.EX X c s) s'':=
 AAB h (fun ω ω p=>Po.up g w p) fun ω ω e=>EX.up g w e
theorem Cx.J.go {T:Tr β}(h:x.J t ρ T) {st:St}(hT:T Q X st) (R:Rel x c st s.heap) {G:α->Shared->Prop}
  (k:∀ a b c' st' s',Gr c c'->SW s s'->Rel x c' st' s'.heap->ρ c' a b->Q b st'->G a s'):wpAny x.W.M x.A t G (x.EX X c s) s:=
 AAB (h Q X st hT c s R) (fun a s' ⟨c',b,st',g,w,r,p,q⟩=>k a b c' st' s' g w r p q) fun ω ω e=>e
theorem Cx.J.go2 {T:Tr β}(h:x.J t ρ T) {st:St}(hT:T Q X st) {c0:Cfg}{s0:Shared}(g0:Gr c0 c) (w0:SW s0 s) (R:Rel x c st s.heap) {G:α->Shared->Prop}
  (k:∀ a b c' st' s',Gr c0 c'->SW s0 s'->Gr c c'->Rel x c' st' s'.heap->ρ c' a b->Q b st'->G a s'):wpAny x.W.M x.A t G (x.EX X c0 s0) s:=
 AAB (h Q X st hT c s R) (fun a s' ⟨c',b,st',g,w,r,p,q⟩=>k a b c' st' s' (g0.trans g) (w0.trans w) g r p q) fun ω ω e=>EX.up g0 w0 e
theorem bK {a:α}{b:β}{st:St}(R:Rel x c st s'.heap) (w:SW s s') (p:ρ c a b) (q:Q b st):x.Po ρ Q c s a s':=⟨c,b,st,Gr.refl c,w,R,p,q⟩
theorem aQ {a:α}{b:β}{st:St}(g:Gr c c') (R:Rel x c' st s'.heap) (w:SW s s') (p:ρ c' a b) (q:Q b st):x.Po ρ Q c s a s':=⟨c',b,st,g,w,R,p,q⟩
end
noncomputable def vR (c:Cfg) (v:Value) (v₀:V):Prop:=c.R v v₀
noncomputable abbrev TE:=Tr V
noncomputable abbrev TB:=Tr Bool
inductive Fl where
|next
|ret (v:V)
noncomputable def Fl.ctorIdx (x:Fl):Nat:=@Fl.casesOn (fun ω=>Nat) x 0 (fun ω=>1)
inductive FlR (c:Cfg):Flow->Fl->Prop
|next:FlR c .next .next
|ret (v:Value) (v₀:V):c.R v v₀->FlR c (.ret v) (.ret v₀)
noncomputable abbrev TS:=Tr Fl
noncomputable abbrev Cx.E (x:Cx) (e:Expr) (T:TE):Prop:=x.J (eval e x.env) vR T
noncomputable abbrev Cx.B (x:Cx) (e:Expr) (T:TB):Prop:=x.J (isTrue e x.env (eval e x.env)) (fun ω a b=>a=b) T
noncomputable abbrev Cx.S (x:Cx) (e:Stmt) (T:TS):Prop:=x.J (exec e x.env) FlR T
noncomputable abbrev Cx.L (x:Cx) (l:List Stmt) (T:TS):Prop:=x.J (execs l x.env) FlR T
theorem Rel.keeps {x:Cx}{c:Cfg}{st:St}{h h':Heap}(R:Rel x c st h) (k:∀ b o,h.get? b=some o->h'.get? b=some o):Rel x c st h':=
 by obtain⟨m,pc,a,b,d⟩:=R;exact⟨m,pc,a.keeps k,b,d⟩
theorem Rel.know {x:Cx}{c:Cfg}{st:St}{h h':Heap}(R:Rel x c st h) (k:∀ b o,h.get? b=some o->h'.get? b=some o) (N:Kn)
  (hk:∀ a o,N a o->h'.get? a=some o/\h.get? a=none):Rel x (c.learn N) st h':=
 by obtain⟨m,pc,a,b,d⟩:=R;exact⟨m,pc,a.know k N hk,b.gr (Gr.learn c N),d⟩
theorem Rel.base {x:Cx}{c:Cfg}{st:St}{h:Heap}(R:Rel x c st h):∀ b o,x.W.base.get? b=some o->h.get? b=some o:=
 by refine R.elim fun _ z0=>?_;refine z0.elim fun _ z1=>?_;have a:=z1.1;clear z1 z0 R;exact fun b o e=>a.kn b o (a.base b o e)
theorem Rel.kn {x:Cx}{c:Cfg}{st:St}{h:Heap}(R:Rel x c st h) {a:Addr}{o:Obj}(e:c.kn a o):h.get? a=some o:=
 by refine R.elim fun _ z0=>?_;refine z0.elim fun _ z1=>?_;have r:=z1.1;clear z1 z0 R;exact r.kn a o e
theorem Rel.inK {x:Cx}{c:Cfg}{st:St}{h:Heap}(R:Rel x c st h):(KX x.W.w.params).In h:=x.W.K.keeps R.base
theorem Rel.fm {x:Cx}{c:Cfg}{st:St}{h:Heap}(R:Rel x c st h):x.env.scope.kind=.function/\x.env.globals=mainGlobals/\x.env.builtins=builtinsNs/\(∃ F,x.env.frame=some F):=by
 obtain⟨m,pc,r,_⟩:=R;obtain⟨L,h1,h2,h3,h4,h5,_⟩:=(r.frs _ (.head _)).ex;exact⟨h3,h4,h5,h1⟩
noncomputable def tK (v:V):TE:=fun Q ω st=>Q v st
noncomputable def qt (p:Prop):Prop:=@ite Prop True (Classical.propDecidable True) p p
theorem Bc {p:Prop}:qt p=p:=by unfold qt;exact ite_self p
noncomputable def aa (n:String):TE:=fun Q ω st=>qt (match st.loc.lookup n with|some v=>Q v st|none=>False)
theorem qu {n:String}{Q:V->St->Prop}{X:XP}{st:St}:aa n Q X st=(match st.loc.lookup n with|some v=>Q v st|none=>False):=Bc
noncomputable def tNo {β:Type}:Tr β:=fun ω ω ω=>False
section
variable {β:Type}{k:Nat}{p:Pos}{b l r a:Expr}{v:Value}{Tl T:TE}{Q:Bool->St->Prop}{X:XP}{D C:TB}
variable {x:Cx}
theorem bL {α:Type}{t:Sem α}{ρ:Cfg->α->β->Prop}:x.J t ρ tNo:=fun ω ω ω h=>h.elim
theorem ai {i:Int}:x.E (.Constant (.int i) k p) (tK (.int i)):=fun Q X st h c s R=>
 wpAny_Constant_int (bK R ⟨rfl,rfl,rfl⟩ (.int _ _) h)
theorem Bd {n:String}:x.E (.Constant (.str (U0 n)) k p) (tK (.str n)):=fun Q X st h c s R=>
 Constant_str (bK R ⟨rfl,rfl,rfl⟩ (.str _ _) h)
theorem jH {b:Bool}:x.E (.Constant (.bool b) k p) (tK (.bool b)):=fun Q X st h c s R=>
 Constant_bool (bK R (SW.refl s) (.bool _) h)
theorem cg:x.E (.Constant .none k p) (tK .none):=fun Q X st h c s R=>
 Constant_none (bK R (SW.refl s) .none h)
theorem Be {n:String}(hd:autoParam ((U0 n == ("__debug__":Str))=false) tD):x.E (.Name (U0 n) p) (aa n):=fun Q X st h c s R=>by
 rw[qu]at h;cases e:st.loc.lookup n with
|none=>rw[e]at h;exact h.elim
|some v₀=>
  rw[e]at h;obtain⟨m,pc,r,l,pe⟩:=id R;obtain⟨hk,_⟩:=R.fm;obtain⟨L,h1,h2,_,_,_,h6,_⟩:=(r.frs _ (.head _)).ex;rcases l n v₀ e with ⟨a,v,b,rr⟩|⟨a|⟨a,a'⟩,b,o,v,d,k,f,rr⟩
  ·exact wpAny_Name (wpAny_loadName_local hk a (by rw[h2];exact h6) b (bK R (SW.refl s) rr h)) hd
  ·exact wpAny_Name (wpAny_loadName_cell hk a d ⟨o,r.kn _ _ k,f⟩ (bK R (SW.refl s) rr h)) hd
  ·exact wpAny_Name (wpAny_loadName_free hk a d ⟨o,r.kn _ _ k,f⟩ (bK R (SW.refl s) rr h) a') hd
theorem uA {n:Str}{v₀:V}(e:nsIn (KX x.W.w.params) mainGlobals n=some (some v)) (hv:∀ c:Cfg,(∀ a o,(KX x.W.w.params).lookup a=some o->c.kn a o)->c.R v v₀)
  (hx:x.env.kindOf n=some .globalImplicit) (hd:autoParam ((n == ("__debug__":Str))=false) tD):x.E (.Name n p) (tK v₀):=fun Q X st h c s R=>by
 have z9:=R.fm;have hk:=z9.1;have hg:=z9.2.1;clear z9;have z9:=id R;refine z9.elim fun m z0=>?_;refine z0.elim fun pc z1=>?_;have r:=z1.1;clear z1 z0 z9
 refine Name_function_global hk hx (loadGlobal_global (mg:=x.W.mg) ?_ (mg_of x.W.K x.W.g e) (bK R (SW.refl s) (hv c fun a o q=>r.base _ _ (x.W.K a o q)) h)) hd;rw[hg];exact x.W.g.keeps R.base
theorem Bf {n:Str}(e:nsIn (KX x.W.w.params) mainGlobals n=some none) (hv:bootBuiltins n=some v) (hh:handedIn v=true) (hn:n≠"__name__")
  (hx:x.env.kindOf n=some .globalImplicit) (hd:autoParam ((n == ("__debug__":Str))=false) tD):x.E (.Name n p) (tK (.cst v)):=fun Q X st h c s R=>by
 have z9:=R.fm;have hk:=z9.1;have hg:=z9.2.1;have hb:=z9.2.2.1;clear z9;refine Name_function_global hk hx (loadGlobal_builtin (mg:=x.W.mg) (mb:=x.W.mb) ?_ (mg_none_of x.W.K x.W.g e) ?_ ((x.W.builtins n hn).trans hv) (bK R (SW.refl s) (.cst _ hh) h)) hd
 ·rw[hg];exact x.W.g.keeps R.base
 ·rw[hb];exact x.W.b.keeps R.base
noncomputable def aq (P:Int->Int->Prop) (f:Int->Int->Int) (Tl Tr:TE):TE:=fun Q X st=>Tl (fun a st=>Tr (fun b st=>match a,b with
|.int i,.int j=>P i j/\Q (.int (f i j)) st
|_,_=>False) X st) X st
theorem bi {c:Cfg}{i:Int}(h:c.R v (.int i)):∃ t,v=.int i t:=VR.inv h
theorem k9 {op:Operator}{Tr:TE}{P:Int->Int->Prop}{f:Int->Int->Int}
  (op_ok:∀ (i j:Int) (t u:Tok) (Q:Value->Shared->Prop) (E:Value->Shared->Prop) (s:Shared),P i j->Q (.int (f i j) s.toks) { s with toks:=s.toks+1 }->wpAny x.W.M x.A (binaryOp op (.int i t) (.int j u)) Q E s)
  (hl:x.E l Tl) (hr:x.E r Tr):x.E (.BinOp l op r p) (aq P f Tl Tr):=fun Q X st h c s R=>by
 refine wpAny_BinOp (hl.go h R fun a a₀ c1 st1 s1 g1 w1 R1 r1 h1=>hr.go2 h1 g1 w1 R1 fun b b₀ c2 st2 s2 g2 w2 ω R2 r2 h2=>?_);rcases a₀ with _|_|_|_|_|_|_|_|_|_<;>try exact h2.elim
 rcases b₀ with _|_|_|_|_|_|_|_|_|_<;>try exact h2.elim
 obtain⟨t,rfl⟩:=bi r1;obtain⟨u,rfl⟩:=bi r2;exact op_ok _ _ _ _ _ _ _ h2.1 (aQ g2 R2 (w2.trans ⟨rfl,rfl,rfl⟩) (.int _ _) h2.2)
theorem bp {Tr:TE}(hl:x.E l Tl) (hr:x.E r Tr):x.E (.BinOp l .Add r p) (aq (fun ω ω=>True) (fun i j=>i+j) Tl Tr):=
 k9 (fun i j t u Q E s ω h=>add_int h) hl hr
theorem dY {Tr:TE}(hl:x.E l Tl) (hr:x.E r Tr):x.E (.BinOp l .Sub r p) (aq (fun ω ω=>True) (fun i j=>i - j) Tl Tr):=
 k9 (fun i j t u Q E s ω h=>sub_int h) hl hr
theorem cq {Tr:TE}(hl:x.E l Tl) (hr:x.E r Tr):x.E (.BinOp l .Mult r p) (aq IntMulOk (fun i j=>i * j) Tl Tr):=
 k9 (fun i j t u Q E s hm h=>mul_int h hm) hl hr
theorem la {Tr:TE}(hl:x.E l Tl) (hr:x.E r Tr):x.E (.BinOp l .FloorDiv r p) (aq (fun ω j=>j≠0/\j.natAbs < 1073741824) Int.fdiv Tl Tr):=
 k9 (fun i j t u Q E s hm h=>floordiv_int hm.1 h (.inl (PyProof.noPylong_small hm.2))) hl hr
theorem lb {Tr:TE}(hl:x.E l Tl) (hr:x.E r Tr):x.E (.BinOp l .Mod r p) (aq (fun ω j=>j≠0) Int.fmod Tl Tr):=
 k9 (fun i j t u Q E s hm h=>mod_int' hm h) hl hr
noncomputable def cD (T:TE):TE:=fun Q X st=>T (fun a st=>match a with|.int i=>Q (.int (-i)) st|_=>False) X st
theorem dR {e:Expr}(h:x.E e T):x.E (.UnaryOp .USub e p) (cD T):=fun Q X st hT c s R=>by
 refine UnaryOp_ (h.go hT R fun a a₀ c1 st1 s1 g1 w1 R1 r1 h1=>dQ g1 w1 ?_);rcases a₀ with _|_|_|_|_|_|_|_|_|_<;>try exact h1.elim
 obtain⟨t,rfl⟩:=bi r1;exact neg_int (bK R1 ⟨rfl,rfl,rfl⟩ (.int _ _) h1)
set_option tactic.hygienic true in
noncomputable def cV (U:TS) (Q:Fl->St->Prop) (X:XP):Fl->St->Prop:=fun f st=>match f with|.next=>U Q X st|.ret v=>Q (.ret v) st
theorem Bg {U:TS}{Q:Fl->St->Prop}{st:St}:cV U Q X .next st=U Q X st:=rfl
theorem Bh {U:TS}{Q:Fl->St->Prop}{v:V}{st:St}:cV U Q X (.ret v) st=Q (.ret v) st:=rfl
noncomputable def cr {β:Type}(T F:Tr β) (Q:β->St->Prop) (X:XP):Bool->St->Prop:=fun b st=>@ite Prop (b=true) (Classical.propDecidable _) (T Q X st) (F Q X st)
theorem uB {T F:Tr β}{Q:β->St->Prop}{st:St}:cr T F Q X true st=T Q X st:=if_pos rfl
theorem uC {T F:Tr β}{Q:β->St->Prop}{st:St}:cr T F Q X false st=F Q X st:=if_neg nofun
noncomputable def dZ (D:TB) (Q:Bool->St->Prop) (X:XP):Bool->St->Prop:=fun b st=>@ite Prop (b=true) (Classical.propDecidable _) (Q true st) (D Q X st)
noncomputable def dK (D:TB) (Q:Bool->St->Prop) (X:XP):Bool->St->Prop:=fun b st=>@ite Prop (b=true) (Classical.propDecidable _) (D Q X st) (Q false st)
theorem Bi {st:St}:dZ D Q X true st=Q true st:=if_pos rfl
theorem Bj {st:St}:dZ D Q X false st=D Q X st:=if_neg nofun
theorem Bk {st:St}:dK D Q X true st=D Q X st:=if_pos rfl
theorem Bl {st:St}:dK D Q X false st=Q false st:=if_neg nofun
noncomputable def bM (C:TB) (T F:TE):TE:=fun Q X st=>C (cr T F Q X) X st
theorem ch {t:Expr}{F:TE}(hc:x.B t C) (ha:x.E a T) (hb:x.E b F):x.E (.IfExp t a b p) (bM C T F):=fun Q X st hT c s R=>by
 refine IfExp_ (hc.go hT R fun v v₀ c1 st1 s1 g1 w1 R1 r1 h1=>?_);cases r1;cases v
 ·exact dQ g1 w1 (hb Q X st1 (Eq.mp uC h1) c1 s1 R1)
 ·exact dQ g1 w1 (ha Q X st1 (Eq.mp uB h1) c1 s1 R1)
noncomputable def b7 (C:TB):TB:=fun Q X st=>C (fun b st=>Q (!b) st) X st
theorem dL {t:Expr}(hc:x.B t C):x.B (.UnaryOp .Not t p) (b7 C):=fun Q X st hT c s R=>
 isTrue_not (hc.go hT R fun v v₀ c1 st1 s1 g1 w1 R1 r1 h1=>by cases r1;exact aQ g1 R1 w1 rfl h1)
noncomputable def bf (C D:TB):TB:=fun Q X st=>C (dK D Q X) X st
noncomputable def aV (C D:TB):TB:=fun Q X st=>C (dZ D Q X) X st
theorem cN (ha:x.B a C):x.B (.BoolOp .And [a] p) C:=fun Q X st hT c s R=>
 isTrue_and (ha.go hT R fun v v₀ c1 st1 s1 g1 w1 R1 r1 h1=>by
  cases r1;cases v
  ·exact aQ g1 R1 w1 rfl h1
  ·exact isTrue_and_nil (aQ g1 R1 w1 rfl h1))
theorem cE {r:List Expr}(ha:x.B a C) (hb:x.B (.BoolOp .And (b::r) p) D):x.B (.BoolOp .And (a::b::r) p) (bf C D):=fun Q X st hT c s R=>
 isTrue_and (ha.go hT R fun v v₀ c1 st1 s1 g1 w1 R1 r1 h1=>by
  cases r1;cases v
  ·exact aQ g1 R1 w1 rfl (Eq.mp Bl h1)
  ·exact dQ g1 w1 (hb Q X st1 (Eq.mp Bk h1) c1 s1 R1))
theorem ct (ha:x.B a C):x.B (.BoolOp .Or [a] p) C:=fun Q X st hT c s R=>
 isTrue_or (ha.go hT R fun v v₀ c1 st1 s1 g1 w1 R1 r1 h1=>by
  cases r1;cases v
  ·exact isTrue_or_nil (aQ g1 R1 w1 rfl h1)
  ·exact aQ g1 R1 w1 rfl h1)
theorem bW {r:List Expr}(ha:x.B a C) (hb:x.B (.BoolOp .Or (b::r) p) D):x.B (.BoolOp .Or (a::b::r) p) (aV C D):=fun Q X st hT c s R=>
 isTrue_or (ha.go hT R fun v v₀ c1 st1 s1 g1 w1 R1 r1 h1=>by
  cases r1;cases v
  ·exact dQ g1 w1 (hb Q X st1 (Eq.mp Bj h1) c1 s1 R1)
  ·exact aQ g1 R1 w1 rfl (Eq.mp Bi h1))
noncomputable def fp (v:V) (k:Bool->Prop):Prop:=match v with|.bool b=>k b|.int i=>k (i != 0)|.none=>k false|_=>False
noncomputable def bj (T:TE):TB:=fun Q X st=>T (fun a st=>fp a fun b=>Q b st) X st
theorem Bm {c:Cfg}{v₀:V}{st:St}{s:Shared}(R:Rel x c st s.heap) (r:c.R v v₀)
  (h:fp v₀ fun b=>Q b st):wpAny x.W.M x.A (truthy v) (x.Po (fun ω a b=>a=b) Q c s) (x.EX X c s) s:=by
 rcases v₀ with _|_|_|_|_|_|_|_|_|_<;>try exact h.elim
 ·obtain rfl:v=.none:=VR.inv r;exact truthy_none (bK R (SW.refl s) rfl h)
 ·obtain rfl:v=.bool _:=VR.inv r;exact wpAny_truthy_bool (bK R (SW.refl s) rfl h)
 ·obtain⟨t,rfl⟩:=bi r;exact P.truthy_int (bK R (SW.refl s) rfl h)
theorem cv {e:Expr}(h:x.E e T) (he:autoParam (isTrue e x.env (eval e x.env)=(do let v <- eval e x.env;standAt e.pos;holding [v] (truthy v))) tR):x.B e (bj T):=fun Q X st hT c s R=>
 isTrue_plain (h.go hT R fun v v₀ c1 st1 s1 g1 w1 R1 r1 h1=>dQ g1 w1 (Bm R1 r1 h1)) he
end
mutual
noncomputable def V.dat:V->Bool
|.none=>true
|.bool _=>true
|.int _=>true
|.str _=>true
|.tup xs=>V.dats xs
|.lst xs=>V.dats xs
|.obj _ _=>false
|.dct _=>false
|.ref _=>false
|.cst _=>false
noncomputable def V.dats:List V->Bool
|[]=>true
|x::xs=>x.dat && V.dats xs
end
mutual
noncomputable def V.py:V->PyData
|.none=>.none
|.bool b=>.bool b
|.int i=>.int i
|.str s=>.str (U0 s)
|.tup xs=>.tuple (V.pys xs)
|.lst xs=>.list (V.pys xs)
|.obj _ _=>.none
|.dct _=>.none
|.ref _=>.none
|.cst _=>.none
noncomputable def V.pys:List V->List PyData
|[]=>[]
|x::xs=>x.py::V.pys xs
end
theorem jI {xs:List V}:(V.tup xs).py=.tuple (V.pys xs):=rfl
theorem qw {xs:List V}:(V.lst xs).py=.list (V.pys xs):=rfl
theorem uD {s:String}:(V.str s).py=.str (U0 s):=rfl
theorem ni {i:Int}:(V.int i).py=.int i:=rfl
theorem qx:V.pys []=[]:=rfl
theorem ii {x:V}{xs:List V}:V.pys (x::xs)=x.py::V.pys xs:=rfl
theorem Bn {b:Bool}:(V.bool b).py=.bool b:=rfl
theorem Bo {b:Bool}:(V.bool b).dat=true:=rfl
theorem Bp {i:Int}:(V.int i).dat=true:=rfl
theorem Bq {s:String}:(V.str s).dat=true:=rfl
theorem Br {xs:List V}:(V.tup xs).dat=V.dats xs:=rfl
theorem uE {x:V}{xs:List V}:V.dats (x::xs)=(x.dat && V.dats xs):=rfl
theorem V.dats_get {xs:List V}(h:V.dats xs=true) (i:Nat) (x:V) (e:xs[i]?=some x):x.dat=true:=by
 induction xs generalizing i with
|nil=>exact nomatch e
|cons y ys ih=>
  have h:=U4.mp (show(y.dat && V.dats ys)=true from h);induction i with
 |zero=>exact U1 e ▸ h.1
 |succ i=>exact ih h.2 i e
theorem uF {h:Heap}:∀ (xs:List V) (vs:List Value),vs.length=xs.length->(∀ (i:Nat) (v:Value) (x:V),vs[i]?=some v->xs[i]?=some x->∃ as,Reads h v x.py as)->
  ∃ as,ReadsAll h vs (V.pys xs) as:=by
 intro ll;induction ll with
|nil=>
  intro l2;rcases l2 with _|⟨_,_⟩
  ·intro _ _;exact⟨_,.nil⟩
  ·intro e _;exact by simp at e
|cons x xs IH=>
  intro l2;rcases l2 with _|⟨v,vs⟩
  ·intro e _;exact by simp at e
  ·intro e k;exact by
     obtain⟨as,r⟩:=k 0 v x rfl rfl;obtain⟨bs,q⟩:=IH vs (by simpa using e) fun i w y a b=>k (i+1) w y (by simpa using a) (by simpa using b)
     exact⟨_,.cons r q⟩
theorem nj {kn:Kn}{adr:jF}{h:Heap}(hk:∀ a o,kn a o->h.get? a=some o) {v:Value}{x:V}(r:VR kn adr v x) (d:x.dat=true):∃ as,Reads h v x.py as:=by
 induction r with
|none=>exact⟨_,.none⟩
|bool b=>exact⟨_,.bool b⟩
|int i t=>exact⟨_,.int i t⟩
|str s t=>exact⟨_,.str _ t⟩
|ref a l e=>exact absurd d U2
|cst v e=>exact absurd d U2
|tup a o vs n xs h1 h2 h3 h4 _ ih=>
  have d:V.dats xs=true:=d;obtain⟨as,q⟩:=uF (h:=h) xs vs.toList (by simpa using h4) fun i w y e1 e2=>ih i w y (by simpa using e1) e2 (V.dats_get d i y e2)
  exact⟨as,reads_tuple_at (hk _ _ h1) h2 h3 q⟩
|lst a o vs n xs h1 h2 h3 h4 _ ih=>
  have d:V.dats xs=true:=d;obtain⟨as,q⟩:=uF (h:=h) xs vs.toList (by simpa using h4) fun i w y e1 e2=>ih i w y (by simpa using e1) e2 (V.dats_get d i y e2)
  exact⟨_,reads_list_at (hk _ _ h1) h2.1 h3 q⟩
|obj=>exact absurd d U2
|dct=>exact absurd d U2
noncomputable def V.ok (x:V):Prop:=x.dat=true/\SeqAt.shaped x.py=true
noncomputable def cO (a:V) (k:Bool->Prop):Prop:=match a with
|.none=>k true
|.cst _=>False
|_=>k false
noncomputable def ij:V->Option Int
|.int i=>some i
|_=>none
noncomputable def lf:V->Option aT
|.ref l=>some l
|_=>none
noncomputable def nl:V->Option (List V)
|.lst l=>some l
|_=>none
theorem bO {α:Type}{a:α}{p:Prop}(h:none=some a):p:=absurd h.symm (Option.some_ne_none a)
theorem nq {v:V}{i:Int}:ij v=some i->v=V.int i:=
 @V.casesOn (fun v=>ij v=some i->v=V.int i) v (fun h=>bO h) (fun ω h=>bO h) (fun ω h=>congrArg V.int (U1 h)) (fun ω h=>bO h) (fun ω h=>bO h) (fun ω h=>bO h) (fun ω ω h=>bO h) (fun ω h=>bO h) (fun ω h=>bO h) (fun ω h=>bO h)
theorem Bs {v:V}{i:aT}:lf v=some i->v=V.ref i:=
 @V.casesOn (fun v=>lf v=some i->v=V.ref i) v (fun h=>bO h) (fun ω h=>bO h) (fun ω h=>bO h) (fun ω h=>bO h) (fun ω h=>bO h) (fun ω h=>bO h) (fun ω ω h=>bO h) (fun ω h=>bO h) (fun ω h=>congrArg V.ref (U1 h)) (fun ω h=>bO h)
theorem Bt {v:V}{i:List V}:nl v=some i->v=V.lst i:=
 @V.casesOn (fun v=>nl v=some i->v=V.lst i) v (fun h=>bO h) (fun ω h=>bO h) (fun ω h=>bO h) (fun ω h=>bO h) (fun ω h=>bO h) (fun ω h=>congrArg V.lst (U1 h)) (fun ω ω h=>bO h) (fun ω h=>bO h) (fun ω h=>bO h) (fun ω h=>bO h)
noncomputable def pair? {α β:Type}:Option α->Option β->Option (α × β)
|some a,some b=>some (a,b)
|_,_=>none
theorem pair?_some {α β:Type}{a:Option α}{b:Option β}{p:α × β}(h:pair? a b=some p):a=some p.1/\b=some p.2:=by
 rcases a with _|a
 ·exact bO h
 ·rcases b with _|b
  ·exact bO h
  ·rw[<- U1 h];exact⟨rfl,rfl⟩
noncomputable def bv (mh:MH) (a b:V) (k:Bool->Prop):Prop:=match pair? (ij a) (ij b)with
|some p=>k (p.1 == p.2)
|none=>match pair? (lf a) (nl b)with
 |some p=>(match mh.m p.1 with|some (.list xs)=>p.2=[]/\k xs.isEmpty|_=>False)
 |none=>a.ok/\b.ok/\k (PyData.eqv a.py b.py)
noncomputable def cW (a:V) (b:V) (k:Bool->Prop):Prop:=match b with
|.tup xs=>a.ok/\(V.tup xs).ok/\k ((V.pys xs).any fun y=>PyData.eqv y a.py)
|_=>False
noncomputable def bq (mh:MH) (op:CmpOp) (a b:V) (k:Bool->Prop):Prop:=match op with
|.Lt=>(match a,b with|.int i,.int j=>k (decide (i < j))|_,_=>False)
|.LtE=>(match a,b with|.int i,.int j=>k (decide (i<=j))|_,_=>False)
|.Gt=>(match a,b with|.int i,.int j=>k (decide (i > j))|_,_=>False)
|.GtE=>(match a,b with|.int i,.int j=>k (decide (i>=j))|_,_=>False)
|.Eq=>bv mh a b k
|.NotEq=>bv mh a b fun r=>k (!r)
|.Is=>(match b with|.none=>cO a k|_=>False)
|.IsNot=>(match b with|.none=>cO a fun r=>k (!r)|_=>False)
|.In=>cW a b k
|.NotIn=>cW a b fun r=>k (!r)
section
variable {c:Cfg}{v:Value}{xs:List V}
variable {x:Cx}
theorem nr (h:c.R v .none):v=.none:=VR.inv h
theorem nt (r:c.R v (.lst xs)):∃ a vs n,v=.ref a/\c.kn a { cls:=.type "list",dict:=none,data:=.seq vs n,slots:=#[] }/\Rs c vs.toList xs:=by
 obtain⟨a,⟨c1,c2,c3,c4⟩,vs,n,rfl,h1,⟨rfl,rfl,rfl⟩,h3,h4,h5⟩:=VR.inv r;cases h3;exact⟨a,vs,n,rfl,h1,h4,fun i v x e1 e2=>h5 i v x (Array.getElem?_toList ▸ e1) e2⟩
theorem lg (h:c.R v (.lst xs)):∃ (a:Addr) (o:Obj) (vs:Array Value) (n:Nat),v=.ref a/\c.kn a o/\o.cls=.type "list"/\o.data=.seq vs n/\Rs c vs.toList xs:=by
 obtain⟨a,vs,n,e,h1,h4⟩:=nt h;exact⟨a,_,vs,n,e,h1,rfl,rfl,h4⟩
theorem qy (h:c.R v (.tup xs)):∃ (a:Addr) (o:Obj) (vs:Array Value) (n:Nat),v=.ref a/\c.kn a o/\o.cls=.type "tuple"/\o.data=.seq vs n/\Rs c vs.toList xs:=by
 have z9:=VR.inv h;refine z9.elim fun a z0=>?_;refine z0.elim fun o z1=>?_;refine z1.elim fun vs z2=>?_;refine z2.elim fun n z3=>?_;have e:=z3.1;have h1:=z3.2.1;have h2:=z3.2.2.1;have h3:=z3.2.2.2.1;have h4:=z3.2.2.2.2.1;have h5:=z3.2.2.2.2.2;clear z3 z2 z1 z0 z9
 exact⟨a,o,vs,n,e,h1,h2,h3,h4,fun i v x e1 e2=>h5 i v x (Array.getElem?_toList ▸ e1) e2⟩
theorem eO {l:aT}(h:c.R v (.ref l)):∃ a,v=.ref a/\c.adr l=some a:=VR.inv h
theorem Rel.mo {st:St}{h:Heap}(R:Rel x c st h) {l:aT}{o:MO}(e:st.mh.m l=some o):MOk c h l o:=by obtain⟨_,_,r,_⟩:=R;exact r.mo l o e
theorem Cx.Ok.cu (ok:x.Ok):x.A.units+64 < cLine:=by have:=ok.u;rw[cLine_is];lia
theorem uG {st:St}{s:Shared}{va:Value}{a:V}{k:Bool->Prop}{E:Value->Shared->Prop}(ra:c.R va a) (h:cO a k) :
  (∃ b,k b/\∀ Q:Value->Shared->Prop,Q (.bool b) s->wpAny x.W.M x.A (compareOp .Is va .none) Q E s)/\(∃ b,k b/\∀ Q:Value->Shared->Prop,Q (.bool (!b)) s->wpAny x.W.M x.A (compareOp .IsNot va .none) Q E s):=by
 have fin:va≠.none->k false->(∃ b,k b/\∀ Q:Value->Shared->Prop,Q (.bool b) s->wpAny x.W.M x.A (compareOp .Is va .none) Q E s)/\(∃ b,k b/\∀ Q:Value->Shared->Prop,Q (.bool (!b)) s->wpAny x.W.M x.A (compareOp .IsNot va .none) Q E s):=fun n h=>⟨⟨false,h,fun Q q=>is_none_ne n q⟩,⟨false,h,fun Q q=>isnot_none_ne n q⟩⟩
 cases ra with
|none=>exact⟨⟨true,h,fun Q q=>is_none_none q⟩,⟨true,h,fun Q q=>isnot_none_none q⟩⟩
|cst=>exact h.elim
|_=>exact fin nofun h
theorem uH (ok:x.Ok) {c:Cfg}{st:St}{s:Shared}{va vb:Value}{a b:V}{k:Bool->Prop}{E:Value->Shared->Prop}(R:Rel x c st s.heap) (ra:c.R va a) (rb:c.R vb b) (h:bv st.mh a b k) :
  (∃ r,k r/\∀ Q:Value->Shared->Prop,Q (.bool r) s->wpAny x.W.M x.A (compareOp .Eq va vb) Q E s)/\(∃ r,k r/\∀ Q:Value->Shared->Prop,Q (.bool (!r)) s->wpAny x.W.M x.A (compareOp .NotEq va vb) Q E s):=by
 have gen:a.ok/\b.ok/\k (PyData.eqv a.py b.py)->(∃ r,k r/\∀ Q:Value->Shared->Prop,Q (.bool r) s->wpAny x.W.M x.A (compareOp .Eq va vb) Q E s)/\(∃ r,k r/\∀ Q:Value->Shared->Prop,Q (.bool (!r)) s->wpAny x.W.M x.A (compareOp .NotEq va vb) Q E s):=by
  rintro ⟨⟨da,sa⟩,⟨db,sb⟩,hk⟩;obtain⟨as,qa⟩:=nj (h:=s.heap) (fun ω ω e=>R.kn e) ra da;obtain⟨bs,qb⟩:=nj (h:=s.heap) (fun ω ω e=>R.kn e) rb db;exact⟨⟨_,hk,fun Q q=>eq_dataH qa qb sa sb ok.cu q⟩,⟨_,hk,fun Q q=>ne_dataH qa qb sa sb ok.cu q⟩⟩
 unfold bv at h;cases ei:pair? (ij a) (ij b)with
|some p=>
  rw[ei]at h;have ra:=nq (pair?_some ei).1 ▸ ra;have rb:=nq (pair?_some ei).2 ▸ rb;obtain⟨t,rfl⟩:=bi ra;obtain⟨u,rfl⟩:=bi rb;exact⟨⟨_,h,fun Q q=>eq_int q⟩,⟨_,h,fun Q q=>ne_int q⟩⟩
|none=>
 rw[ei]at h;dsimp only at h;cases er:pair? (lf a) (nl b)with
|some p=>
  rw[er]at h;have ra:=Bs (pair?_some er).1 ▸ ra;have rb:=Bt (pair?_some er).2 ▸ rb;dsimp only at h;generalize e:st.mh.m p.1=o at h;rcases o with _|(_|xs|_|_)<;>try exact h.elim
  ·obtain⟨hy,h⟩:=h;rw[hy]at rb;obtain⟨al,vs,n,h1,h2,h3,h4⟩:=R.mo e;obtain⟨al',rfl,h1'⟩:=eO ra;obtain rfl:=U1 (h1.symm.trans h1');obtain⟨bl,ob,ws,m,rfl,k1,k2,k3,k4⟩:=lg rb;have hl:s.heap.IsList al vs.toArray:=⟨_,h3,rfl,n,rfl⟩;have hb:s.heap.IsList bl ws:=⟨_,R.kn k1,k2,m,k3⟩;have hw:ws.size=0:=by have:=k4.1;simpa using this
   have hu:x.A.units < cLine:=by have:=ok.cu;lia
   rcases xs with _|⟨y,ys⟩
   ·have hv:vs=[]:=W3.mp h4.1;subst hv;have e1:(([]:List Value).toArray).size=ws.size:=by simp[hw]
    refine⟨⟨true,h,fun Q q=>?_⟩,⟨true,h,fun Q q=>?_⟩⟩
    ·exact SeqAt.eq_listAt (e:=fun ω=>true) hl hb e1 hu (fun j h1 h2=>by simp at h1) (by simpa using q)
    ·exact(SeqAt.RcNeAt.lists (e:=fun ω=>true) hl hb e1 hu (fun j h1 h2=>by simp at h1)) _ _ _ _ (by simpa using q)
   ·have e1:(vs.toArray.size != ws.size)=true:=by simp[hw];rintro rfl;have:=h4.1;simp at this
    refine⟨⟨false,h,fun Q q=>?_⟩,⟨false,h,fun Q q=>?_⟩⟩
    ·exact SeqAt.eq_list_lengthsAt hl hb e1 hu q
    ·exact(SeqAt.RcNeAt.lists_lengths hl hb e1 hu) _ _ _ _ q
|none=>
  rw[er]at h;exact gen h
theorem uI (ok:x.Ok) {c:Cfg}{st:St}{s:Shared}{va vb:Value}{a b:V}{k:Bool->Prop}{E:Value->Shared->Prop}(R:Rel x c st s.heap) (ra:c.R va a) (rb:c.R vb b) (h:cW a b k) :
  (∃ r,k r/\∀ Q:Value->Shared->Prop,Q (.bool r) s->wpAny x.W.M x.A (compareOp .In va vb) Q E s)/\(∃ r,k r/\∀ Q:Value->Shared->Prop,Q (.bool (!r)) s->wpAny x.W.M x.A (compareOp .NotIn va vb) Q E s):=by
 unfold cW at h;rcases b with _|_|_|_|xs|_|_|_|_|_<;>try exact h.elim
 ·dsimp only at h;have da:=h.1.1;have sa:=h.1.2;have db:=h.2.1.1;have sb:=h.2.1.2;have hk:=h.2.2;clear h;obtain⟨as,qa⟩:=nj (h:=s.heap) (fun ω ω e=>R.kn e) ra da;obtain⟨bs,qb⟩:=nj (h:=s.heap) (fun ω ω e=>R.kn e) rb db;rw[jI]at qb sb;have c1:=SeqAt.canLay_of_shaped sb;have c2:=SeqAt.depth_of_shaped sa;have hu:x.A.units+1+min (PyData.depthAll (V.pys xs)) a.py.depth < cLine:=by
   have:=ok.u;have:=Nat.min_le_right (PyData.depthAll (V.pys xs)) a.py.depth;rw[cLine_is];exact Y9 (Nat.add_le_add_left this _) (by lia)
  exact⟨⟨_,hk,fun Q q=>SeqAt.in_tuple_reads qb qa (by simpa[PyData.canLay0]using c1) (SeqAt.canLay_of_shaped sa) hu q⟩,
   ⟨_,hk,fun Q q=>SeqAt.notIn_tuple_reads qb qa (by simpa[PyData.canLay0]using c1) (SeqAt.canLay_of_shaped sa) hu q⟩⟩
theorem nu {a b:V}{P:Int->Int->Prop}(h:match a,b with|.int i,.int j=>P i j|_,_=>False):∃ i j,a=.int i/\b=.int j/\P i j:=by
 rcases a with _|_|_|_|_|_|_|_|_|_<;>try exact h.elim
 rcases b with _|_|_|_|_|_|_|_|_|_<;>try exact h.elim
 exact⟨_,_,rfl,rfl,h⟩
theorem jJ (ok:x.Ok) {op:CmpOp}{c:Cfg}{st:St}{s:Shared}{va vb:Value}{a b:V}{k:Bool->Prop}{E:Value->Shared->Prop}(R:Rel x c st s.heap) (ra:c.R va a) (rb:c.R vb b)
  (h:bq st.mh op a b k) {Q:Value->Shared->Prop}(q:∀ r,k r->Q (.bool r) s):wpAny x.W.M x.A (compareOp op va vb) Q E s:=by
 unfold bq at h;rcases op with _|_|_|_|_|_|_|_|_|_<;>dsimp only at h
 ·obtain⟨r,h1,h2⟩:=(uH ok R ra rb h (E:=E)).1;exact h2 Q (q r h1)
 ·obtain⟨r,h1,h2⟩:=(uH ok R ra rb h (E:=E)).2;exact h2 Q (q _ h1)
 ·obtain⟨i,j,rfl,rfl,h⟩:=nu h
  ·obtain⟨t,rfl⟩:=bi ra;obtain⟨u,rfl⟩:=bi rb;exact lt_int (q _ h)
 ·obtain⟨i,j,rfl,rfl,h⟩:=nu h
  ·obtain⟨t,rfl⟩:=bi ra;obtain⟨u,rfl⟩:=bi rb;exact le_int (q _ h)
 ·obtain⟨i,j,rfl,rfl,h⟩:=nu h
  ·obtain⟨t,rfl⟩:=bi ra;obtain⟨u,rfl⟩:=bi rb;exact P.gt_int (q _ h)
 ·obtain⟨i,j,rfl,rfl,h⟩:=nu h
  ·obtain⟨t,rfl⟩:=bi ra;obtain⟨u,rfl⟩:=bi rb;exact P.ge_int (q _ h)
 ·rcases b with _|_|_|_|_|_|_|_|_|_<;>try exact h.elim
  ·obtain rfl:=nr rb;obtain⟨r,h1,h2⟩:=(uG (x:=x) (st:=st) (s:=s) (E:=E) ra h).1;exact h2 Q (q r h1)
 ·rcases b with _|_|_|_|_|_|_|_|_|_<;>try exact h.elim
  ·obtain rfl:=nr rb;obtain⟨r,h1,h2⟩:=(uG (x:=x) (st:=st) (s:=s) (E:=E) ra h).2;exact h2 Q (q _ h1)
 ·obtain⟨r,h1,h2⟩:=(uI ok R ra rb h (E:=E)).1;exact h2 Q (q r h1)
 ·obtain⟨r,h1,h2⟩:=(uI ok R ra rb h (E:=E)).2;exact h2 Q (q _ h1)
noncomputable def ag (op:CmpOp) (Tl Tr:TE):TB:=fun Q X st=>Tl (fun a st=>Tr (fun b st=>bq st.mh op a b fun r=>Q r st) X st) X st
theorem am (ok:x.Ok) {l r:Expr}{op:CmpOp}{p:Pos}{Tl Tr:TE}(hl:x.E l Tl) (hr:x.E r Tr) (hm:autoParam (behindInMarks op r=false) tU):x.B (.Compare l [op] [r] p) (ag op Tl Tr):=fun Q X st h c s R=>
 wpAny_isTrue_Compare1 (hl.go h R fun a a₀ c1 st1 s1 g1 w1 R1 r1 h1=>hr.go2 h1 g1 w1 R1 fun b b₀ c2 st2 s2 g2 w2 g R2 r2 h2=>
  jJ ok R2 (r1.gr g) r2 h2 fun r hr=>wpAny_truthy_bool (aQ g2 R2 w2 rfl hr)) hm
noncomputable def aS (T:TB):TE:=fun Q X st=>T (fun b st=>Q (.bool b) st) X st
theorem cX (ok:x.Ok) {l r:Expr}{op:CmpOp}{p:Pos}{Tl Tr:TE}(hl:x.E l Tl) (hr:x.E r Tr) (hm:autoParam (behindInMarks op r=false) tU):x.E (.Compare l [op] [r] p) (aS (ag op Tl Tr)):=fun Q X st h c s R=>
 wpAny_Compare1 (hl.go h R fun a a₀ c1 st1 s1 g1 w1 R1 r1 h1=>hr.go2 h1 g1 w1 R1 fun b b₀ c2 st2 s2 g2 w2 g R2 r2 h2=>
  jJ ok R2 (r1.gr g) r2 h2 fun r hr=>aQ g2 R2 w2 (.bool _) hr) hm
noncomputable def ik (op op':CmpOp) (Tl Tm Tr:TE):TB:=fun Q X st=>Tl (fun a st=>Tm (fun b st=>bq st.mh op a b fun r=>if r then Tr (fun d st=>bq st.mh op' b d fun r=>Q r st) X st else Q false st) X st) X st
theorem qz (ok:x.Ok) {l m r:Expr}{op op':CmpOp}{p:Pos}{Tl Tm Tr:TE}(hl:x.E l Tl) (hm':x.E m Tm) (hr:x.E r Tr) (hm:autoParam (lastMarks [op,op'] [m,r]=false) tU) :
  x.B (.Compare l [op,op'] [m,r] p) (ik op op' Tl Tm Tr):=fun Q X st h c s R=>
 isTrue_chain (hl.go h R fun a a₀ c1 st1 s1 g1 w1 R1 r1 h1=>test_link (hm'.go2 h1 g1 w1 R1 fun b b₀ c2 st2 s2 g2 w2 g R2 r2 h2=>
  jJ ok R2 (r1.gr g) r2 h2 fun t ht=>wpAny_truthy_bool (by
   induction t with
  |false=>exact aQ g2 R2 w2 rfl ht
  |true=>exact test_last (hr.go2 ht g2 w2 R2 fun d d₀ c3 st3 s3 g3 w3 g' R3 r3 h3=>jJ ok R3 (r2.gr g') r3 h3 fun r hr=>wpAny_truthy_bool (aQ g3 R3 w3 rfl hr))))) hm
theorem uJ (ok:x.Ok) {l m r:Expr}{op op':CmpOp}{p:Pos}{Tl Tm Tr:TE}(hl:x.E l Tl) (hm':x.E m Tm) (hr:x.E r Tr) (hm:autoParam (lastMarks [op,op'] [m,r]=false) tU) :
  x.E (.Compare l [op,op'] [m,r] p) (aS (ik op op' Tl Tm Tr)):=fun Q X st h c s R=>
 Compare_chain (hl.go h R fun a a₀ c1 st1 s1 g1 w1 R1 r1 h1=>chain_link (hm'.go2 h1 g1 w1 R1 fun b b₀ c2 st2 s2 g2 w2 g R2 r2 h2=>
  jJ ok R2 (r1.gr g) r2 h2 fun t ht=>wpAny_truthy_bool (by
   induction t with
  |false=>exact aQ g2 R2 w2 (.bool _) ht
  |true=>exact chain_last (hr.go2 ht g2 w2 R2 fun d d₀ c3 st3 s3 g3 w3 g' R3 r3 h3=>jJ ok R3 (r2.gr g') r3 h3 fun r hr=>aQ g3 R3 w3 (.bool _) hr)))) hm
end
noncomputable abbrev KF (P:Params):Frag:=KX P
noncomputable def nw (K:Frag) (C:Nat):Bool:=plainGet K C "" && hasDictIn K C && plainOver K C && findIn K (.ref C) "__setattr__" == some (some (.builtin "object.__setattr__"))
noncomputable def uK (K:Frag) (p:Nat × List String):Bool:=nw K p.1 && p.2.all fun n=>findIn K (.ref p.1) (U0 n) == some none
theorem Bu (P:Params):uo.all (uK (KF P))=true:=by kernel_rfl
structure ClsOk (K:Frag) (C:Nat):Prop where
 ga:findIn K (.ref C) "__getattribute__"=some (some (.builtin "object.__getattribute__"))
 gt:findIn K (.ref C) "__getattr__"=some none
 dict:hasDictIn K C=true
 over:plainOver K C=true
 set:findIn K (.ref C) "__setattr__"=some (some (.builtin "object.__setattr__"))
theorem uL {K:Frag}{C:Nat}(h:nw K C=true):ClsOk K C:=by
 unfold nw at h;simp only[U3,beq_iff_eq]at h;obtain⟨⟨⟨a,b⟩,c⟩,d⟩:=h;exact⟨(plainGet_of a).1,(plainGet_of a).2,b,c,d⟩
theorem uM {P:Params}{C:Nat}{n:String}(h:cM C n=true):ClsOk (KF P) C/\findIn (KF P) (.ref C) (U0 n)=some none:=by
 unfold cM at h;obtain⟨p,hp,h⟩:=List.any_eq_true.mp h;simp only[U3,beq_iff_eq,List.contains_iff_mem]at h;obtain⟨rfl,hn⟩:=h;have:=V6.mp (Bu P) p hp;unfold uK at this;simp only[U3]at this;exact⟨uL this.1,beq_iff_eq.mp (V6.mp this.2 n hn)⟩
noncomputable def uN:List (Nat × String × Int × Tok):=[(324,"kind",5,544),(346,"kind",6,545),(367,"kind",7,546),(388,"kind",9,556),(409,"kind",10,557)]
noncomputable def fR (C:Nat) (n:String):Option Int:=(uN.find? fun p=>p.1 == C && p.2.1 == n).map (·.2.2.1)
noncomputable def uO (K:Frag) (p:Nat × String × Int × Tok):Bool:=nw K p.1 && findIn K (.ref p.1) (U0 p.2.1) == some (some (.int p.2.2.1 p.2.2.2)) && specialIn K (.int p.2.2.1 p.2.2.2) "__get__" == some none && !copiedNames.contains (U0 p.2.1)
theorem Bv (P:Params):uN.all (uO (KF P))=true:=by kernel_rfl
theorem Bw {P:Params}{C:Nat}{n:String}{i:Int}(h:fR C n=some i):ClsOk (KF P) C/\∃ t,findIn (KF P) (.ref C) (U0 n)=some (some (.int i t))/\specialIn (KF P) (.int i t) "__get__"=some none/\copiedNames.contains (U0 n)=false:=by
 unfold fR at h;obtain⟨p,hp,rfl⟩:=Option.map_eq_some_iff.mp h;have hm:=List.mem_of_find?_eq_some hp;have hq:=List.find?_some hp;simp only[U3,beq_iff_eq]at hq;have:=V6.mp (Bv P) p hm;unfold uO at this;simp only[U3,beq_iff_eq,Bool.not_eq_true']at this;obtain⟨⟨⟨a,b⟩,c⟩,d⟩:=this;rw[<- hq.1,<- hq.2];exact⟨uL a,_,b,c,d⟩
theorem lh {a b:String}(h:U0 a=U0 b):a=b:=by
 rw[Str.ofString_eq_toList,Str.ofString_eq_toList]at h;have h':a.toList.map Char.toNat=b.toList.map Char.toNat:=by
  have:=congrArg (fun x:Str=>x.cps.toList) h;simpa using this
 have:a.toList=b.toList:=by
  have inj:∀ l m:List Char,l.map Char.toNat=m.map Char.toNat->l=m:=by
   intro l;induction l with
  |nil=>intro m h;cases m with|nil=>rfl|cons=>simp at h
  |cons c l ih=>
    intro m h;rcases m with _|⟨d,m⟩
    ·simp at h
    ·simp only[V1,List.cons.injEq]at h;have e:c=d:=Char.ext (UInt32.toNat_inj.mp h.1);rw[e,ih m h.2]
  exact inj _ _ h'
 exact String.toList_inj.mp this
theorem Bx (a b:String) (t:Tok):(Value.str (U0 a) t).isStr (U0 b)=(a == b):=by
 show(U0 a == U0 b)=_;by_cases h:a=b
 ·subst h;simp
 ·have:U0 a≠U0 b:=fun q=>h (lh q)
  rw[beq_eq_false_iff_ne.mpr this,beq_eq_false_iff_ne.mpr h]
noncomputable def aj (n:String) (v:V):List (String × V)->List (String × V)
|[]=>[(n,v)]
|f::r=>if f.1 == n then(n,v)::r else f::aj n v r
theorem Fs.nil (c:Cfg):Fs c [] []:=⟨rfl,fun i e f h=>by simp at h,fun i e f h=>by simp at h⟩
theorem Fs.cons {c:Cfg}{e:DictEntry}{f:String × V}{es:List DictEntry}{fs:List (String × V)}(hk:∃ t,e.key=.str (U0 f.1) t) (hv:c.R e.val f.2) (r:Fs c es fs):Fs c (e::es) (f::fs):=
 ⟨by simp[r.1],fun i e' f' a b=>by
  cases i with
 |zero=>simp at a b;subst a;subst b;exact hk
 |succ i=>exact r.2.1 i e' f' (by simpa using a) (by simpa using b),fun i e' f' a b=>by
  cases i with
 |zero=>simp at a b;subst a;subst b;exact hv
 |succ i=>exact r.2.2 i e' f' (by simpa using a) (by simpa using b)⟩
theorem Fs.inv {c:Cfg}{e:DictEntry}{f:String × V}{es:List DictEntry}{fs:List (String × V)}(r:Fs c (e::es) (f::fs)):(∃ t,e.key=.str (U0 f.1) t)/\c.R e.val f.2/\Fs c es fs:=
 ⟨r.2.1 0 e f rfl rfl,r.2.2 0 e f rfl rfl,by simpa using r.1,fun i e' f' a b=>r.2.1 (i+1) e' f' (by simpa using a) (by simpa using b),fun i e' f' a b=>r.2.2 (i+1) e' f' (by simpa using a) (by simpa using b)⟩
@[elab_as_elim] theorem Fs.ind {c:Cfg}{P:List DictEntry->List (String × V)->Prop}(h0:P [] []) (h1:∀ e es a b fs t,e.key=.str (U0 a) t->c.R e.val b->Fs c es fs->P es fs->P (e::es) ((a,b)::fs)) {es:List DictEntry}{fs:List (String × V)}(r:Fs c es fs):P es fs:=by
 induction es generalizing fs with
|nil=>
  obtain rfl:=W3.mp r.1.symm;exact h0
|cons e es ih=>induction fs with
 |nil=>exact nomatch r.1
 |cons f fs=>
   obtain⟨⟨t,k⟩,hv,r'⟩:=r.inv;exact h1 e es f.1 f.2 fs t k hv r' (ih r')
theorem By {n:Str}{e:DictEntry}{es:List DictEntry}(h:e.key.isStr n=true):PySem.W.getL n (e::es)=some (some e.val):=by
 unfold PySem.W.getL;rw[List.find?_cons,h]
theorem Bz {n:Str}{e:DictEntry}{es:List DictEntry}(h:e.key.isStr n=false) (hr:e.refKey=false):PySem.W.getL n (e::es)=PySem.W.getL n es:=by
 unfold PySem.W.getL;rw[List.find?_cons,h,List.any_cons,hr];rfl
theorem ny {e:DictEntry}{a n:String}{t:Tok}(k:e.key=.str (U0 a) t):e.key.isStr (U0 n)=(a == n):=by
 rw[k];exact Bx _ _ _
theorem BA {e:DictEntry}{a:Str}{t:Tok}(k:e.key=.str a t):e.refKey=false:=by
 unfold DictEntry.refKey;rw[k]
theorem Fs.getL {c:Cfg}{n:String}{es:List DictEntry}{fs:List (String × V)}(r:Fs c es fs) :
  (∀ u,fs.lookup n=some u->∃ v,PySem.W.getL (U0 n) es=some (some v)/\c.R v u)/\(fs.lookup n=none->PySem.W.getL (U0 n) es=some none):=by
 refine Fs.ind ⟨fun u e=>(nomatch e),fun ω=>rfl⟩ (fun e es a b fs t k hv ω h=>?_) r
 ·by_cases q:n=a
  ·subst q;exact⟨fun u eu=>⟨e.val,By ((ny k).trans (beq_self_eq_true _)),(U1 (fn.symm.trans eu)) ▸ hv⟩,fun en=>(nomatch fn.symm.trans en)⟩
  ·rw[fQ q,Bz ((ny k).trans (beq_eq_false_iff_ne.mpr (Ne.symm q))) (BA k)];exact h
theorem nz {n:String}{u b:V}{fs:List (String × V)}:aj n u ((n,b)::fs)=(n,u)::fs:=if_pos (beq_self_eq_true n)
theorem nB {n a:String}{u b:V}{fs:List (String × V)}(q:n≠a):aj n u ((a,b)::fs)=(a,b)::aj n u fs:=if_neg fun z=>q (eq_of_beq z).symm
theorem BB {n:Str}{hsh:Int}{k v:Value}{e:DictEntry}{es:List DictEntry}(h:e.key.isStr n=true):PySem.W.putL n hsh k v (e::es)={ e with val:=v }::es:=if_pos h
theorem BC {n:Str}{hsh:Int}{k v:Value}{e:DictEntry}{es:List DictEntry}(h:e.key.isStr n=false):PySem.W.putL n hsh k v (e::es)=e::PySem.W.putL n hsh k v es:=if_neg fun z=>U2 (h.symm.trans z)
theorem Fs.putL {c:Cfg}{n:String}{u:V}{v:Value}{hsh:Int}{t:Tok}(hv:c.R v u) {es:List DictEntry}{fs:List (String × V)}(r:Fs c es fs) :
  Fs c (PySem.W.putL (U0 n) hsh (.str (U0 n) t) v es) (aj n u fs):=by
 refine Fs.ind (Fs.cons ⟨t,rfl⟩ hv (Fs.nil c)) (fun e es a b fs t k hw r h=>?_) r
 ·by_cases q:n=a
  ·subst q;rw[nz,BB ((ny k).trans (beq_self_eq_true _))];exact Fs.cons ⟨t,k⟩ hv r
  ·rw[nB q,BC ((ny k).trans (beq_eq_false_iff_ne.mpr (Ne.symm q)))];exact Fs.cons ⟨t,k⟩ hw h
theorem BD (n:Str) (hsh:Int) (k v:Value):∀ es:List DictEntry,(putL n hsh k v es).length<=es.length+1:=by
 intro ll;induction ll with
|nil=>
  exact by simp[putL]
|cons e es IH=>
  exact by
    unfold putL
    split
    ·simp
    ·have:=IH;simp only[V4];lia
noncomputable def qA (h:Heap) (bs:List Addr):List (Addr × Obj):=((List.range h.objs.size).filterMap fun a=>(h.get? a).map (a,·)).filter fun p=>!bs.contains p.1
theorem qB {h:Heap}{bs:List Addr}{a:Addr}{o:Obj}:(a,o)∈qA h bs↔h.get? a=some o/\a ∉ bs:=by
 unfold qA;simp only[List.mem_filter,List.mem_filterMap,X7,Option.map_eq_some_iff,Prod.mk.injEq,Bool.not_eq_true',List.contains_eq_mem,decide_eq_false_iff_not]
 constructor
 ·rintro ⟨⟨b,hb,o',e,rfl,rfl⟩,hn⟩;exact⟨e,hn⟩
 ·rintro ⟨e,hn⟩;exact⟨⟨a,AAJ e,o,e,rfl,rfl⟩,hn⟩
theorem BE {h:Heap}{L:Addr}{m:bZ}(n:h.Ns L m):Fr {} L h m:=⟨n,fun b o e=>by simp[Heap.get?]at e,Z0 _⟩
theorem BF {h:Heap}{L:Addr}{l:List (Addr × Obj)}(k:∀ p∈l,h.get? p.1=some p.2/\p.1≠L):News {} L h l:=fun p hp=>⟨(k p hp).1,(k p hp).2,by simp[Heap.get?]⟩
theorem RelH.turnL {W:Wd}{fms:bU}{prot:List (Addr × Obj)}{c:Cfg}{mh:MH}{h h':Heap}{env:Env}{m m':bZ}{L:Addr}(x:RelH W ((env,m)::fms) prot c mh h) (hL:env.locals=L) {l:aT}{o:MO}
  (k:∀ b ob,c.own b≠some l->b≠L->h.get? b=some ob->h'.get? b=some ob)
  (kl:∀ b ob,c.own b=some l->h.get? b=some ob->∃ ob',h'.get? b=some ob'/\∀ vs,ob'.data≠.fields vs)
  (ns:h'.Ns L m') (ho:MOk c h' l o):RelH W ((env,m')::fms) prot c (mh.set l o) h':=by
 obtain⟨L',h1,h2,h3,h4,h5,h6,h7,h8⟩:=(x.frs _ (.head _)).ex;dsimp only at h1 h2 h3 h4 h5 h6;obtain rfl:L=L':=hL.symm.trans h2;have hd:∀ f∈fms,f.1.locals≠L:=by
  intro f hf e;have:=x.dist.1;rw[V1,h2]at this;exact(W2.mp this).1 (V5.mpr ⟨f,hf,e⟩)
 refine⟨x.base,fun a ob e=>k a ob (jG (x.free a ob e)) (fun z=>h8 ob (z ▸ e)) (x.kn a ob e),x.free,?_,?_,x.dist,?_,?_,x.nxt⟩
 ·intro a l' e;obtain⟨ob,q,r⟩:=x.live a l' e;by_cases z:c.own a=some l
  ·exact kl a ob z q
  ·exact⟨ob,k a ob z (fun w=>by rw[w,h7]at e;cases e) q,r⟩
 ·intro f hf;rcases V3.mp hf with rfl|hf
  ·exact⟨L,h1,h2,h3,h4,h5,ns,h7,h8⟩
  ·refine(x.frs f (.tail _ hf)).keeps fun L₂ hL₂ o e=>?_
   obtain⟨L',_,q1,_,_,_,_,q7,_⟩:=(x.frs f (.tail _ hf)).ex;obtain rfl:=hL₂.symm.trans q1;exact k _ _ (jG q7) (fun z=>hd f hf (hL₂.trans z)) e
 ·intro p hp;obtain⟨a,b,d,e⟩:=x.pr p hp;exact⟨k _ _ (jG b) (fun z=>e _ (.head _) (h2.trans z.symm)) a,b,d,fun f hf=>by
   rcases V3.mp hf with rfl|hf
   ·exact e (env,m) (.head _)
   ·exact e f (.tail _ hf)⟩
 ·intro l' o' e;by_cases q:l'=l
  ·subst q;simp only[MH.set,if_true]at e;obtain rfl:=U1 e;exact ho
  ·simp only[MH.set,if_neg q]at e;exact(x.mo l' o' e).keep (Gr.refl c) (fun ω h=>h) (fun a ob ha e=>k a ob (by rw[ha];exact fun h=>q (U1 h)) (fun w=>by rw[w,h7]at ha;cases ha) e)
section
variable {x:Cx}
noncomputable def aL (C:Nat) (fs:List (String × V)) (n:String) (k:V->Prop):Prop:=match fs.lookup n with
|some u=>k u
|none=>(match fR C n with|some i=>k (.int i)|none=>False)
noncomputable def bH (mh:MH) (v:V) (n:String) (k:V->Prop):Prop:=match v with
|.obj C fs=>aL C fs n k
|.ref l=>(match mh.m l with|some (.inst C fs)=>aL C fs n k|_=>False)
|_=>False
theorem BG {c:Cfg}{v:Value}{u:V}(h:c.R v u):handedIn v=true:=by
 cases h<;>first|rfl|assumption
theorem nE {h:Heap}{a C dx:Addr}{es:List DictEntry}{n:Nat}(h1:h.get? a=some (instObj C dx)) (h2:h.get? dx=some (dictOf es n)):InstAt h a (instObj C dx) C (some (dictOf es n)):=⟨h1,rfl,rfl,h2⟩
theorem uP {C:Nat}{n:String}{u:V}{fs:List (String × V)}(h:fs.all (fun f=>cM C f.1)=true) (e:fs.lookup n=some u):cM C n=true:=
 V6.mp h _ (ng e)
theorem uQ {c:Cfg}{s:Shared}{a C dx:Addr}{es:List DictEntry}{n:Nat}{fs:List (String × V)}{nm:String}{k:V->Prop}{E:Value->Shared->Prop}{Q:Value->Shared->Prop}{expr:Bool}
  (X:(KF x.W.w.params).In s.heap) (h1:s.heap.get? a=some (instObj C dx)) (h2:s.heap.get? dx=some (dictOf es n)) (hf:Fs c es fs) (ho:fs.all (fun f=>cM C f.1)=true) (h:aL C fs nm k)
  (q:∀ v u,c.R v u->k u->Q v { s with toks:=s.toks+1 }):wpAny x.W.M x.A (getAttr (.ref a) (U0 nm) expr) Q E s:=by
 have I:=nE h1 h2;obtain⟨g1,g2⟩:=hf.getL (n:=nm);unfold aL at h;cases e:fs.lookup nm with
|some u=>
  rw[e]at h;obtain⟨v,hv,r⟩:=g1 u e;obtain⟨C1,C2⟩:=uM (P:=x.W.w.params) (uP ho e);exact get_value X I C1.ga (findObj_own C1.dict C2 rfl hv) (BG r) (q v u r h)
|none=>
  rw[e]at h;dsimp only at h;cases hi:fR C nm with
 |none=>rw[hi]at h;exact h.elim
 |some i=>
   rw[hi]at h;obtain⟨C1,t,k1,k2,k3⟩:=Bw (P:=x.W.w.params) hi;exact get_value X I C1.ga (findObj_cls C1.dict k1 k2 rfl k3 (g2 e)) rfl (q _ _ (.int i t) h)
end
section
variable {nm:String}
variable {x:Cx}
set_option tactic.hygienic true in
theorem uR {c:Cfg}{st:St}{s:Shared}{v:Value}{a:V}{k:V->Prop}{E:Value->Shared->Prop}{Q:Value->Shared->Prop}{expr:Bool}(R:Rel x c st s.heap) (ra:c.R v a) (h:bH st.mh a nm k)
  (q:∀ v u,c.R v u->k u->Q v { s with toks:=s.toks+1 }):wpAny x.W.M x.A (getAttr v (U0 nm) expr) Q E s:=by
 unfold bH at h;rcases a with _|_|_|_|_|_|_|_|_|_<;>try exact h.elim
 ·obtain⟨a,dx,es,n,rfl,h1,h2,h0,h3,h4,h5⟩:=VR.inv ra;exact uQ R.inK (R.kn h1) (R.kn h2) ⟨h3,h4,h5⟩ h0 h q
 ·rename_i l;dsimp only at h;generalize e:st.mh.m _=o at h;rcases o with _|(⟨C,fs⟩|_|_|_)<;>try exact h.elim
  ·obtain⟨a,rfl,ha⟩:=eO ra;obtain⟨a',dx,es,n,h1,h2,h3,h4,h5,h6,h7,h8,_⟩:=R.mo e;obtain rfl:=U1 (ha.symm.trans h1);exact uQ R.inK h5 h6 h7 h8 h q
noncomputable def ae (T:TE) (n:String):TE:=fun Q X st=>T (fun v st=>bH st.mh v n fun u=>Q u st) X st
theorem BH {e:Expr}{n:String}{p:Pos}{T:TE}(h:x.E e T)
  (he:autoParam (eval (.Attribute e (U0 n) p) x.env=(do
   let o <- eval e x.env
   standAt p.atName
   let r <- holding [o] (getAttr o (U0 n) true)
   letTemporaryGo e o r
   pure r)) tU):x.E (.Attribute e (U0 n) p) (ae T n):=fun Q X st hT c s R=>
 Attribute_any_ (h.go hT R fun v a c1 st1 s1 g1 w1 R1 r1 h1=>uR R1 r1 h1 fun v u rv hu=>aQ g1 R1 (w1.trans ⟨rfl,rfl,rfl⟩) rv hu) he
theorem BI {C:Nat}{b:V}(ho:cM C nm=true) {fs:List (String × V)}(h:fs.all (fun f=>cM C f.1)=true):(aj nm b fs).all (fun f=>cM C f.1)=true:=by
 induction fs with
|nil=>exact(Bool.and_true _).trans ho
|cons f fs ih=>
  obtain⟨h1,h2⟩:=U4.mp (show(cM C f.1 && fs.all fun f=>cM C f.1)=true from h);by_cases q:nm=f.1
  ·rw[q,nz,<- q];exact U4.mpr ⟨ho,h2⟩
  ·rw[nB q];exact U4.mpr ⟨h1,ih h2⟩
theorem BJ (nm:String) (b:V):∀ fs:List (String × V),(aj nm b fs).length<=fs.length+1:=by
 intro ll;induction ll with
|nil=>
  exact Y3 _
|cons f fs IH=>
  exact by
    by_cases q:nm=f.1
    ·rw[q,nz];exact Y7 _
    ·rw[nB q];exact Nat.succ_le_succ IH
theorem uS {c:Cfg}{st:St}{s:Shared}{va vb:Value}{l:aT}{C:Nat}{fs:List (String × V)}{b:V}{E:Value->Shared->Prop}{Q:Unit->Shared->Prop}(R:Rel x c st s.heap) (ra:c.R va (.ref l)) (rb:c.R vb b)
  (e:st.mh.m l=some (.inst C fs)) (ho:cM C nm=true) (hz:fs.length<=800)
  (q:∀ h',Rel x c { st with mh:=st.mh.set l (.inst C (aj nm b fs)) } h'->Q () { s with heap:=h',toks:=s.toks+2 }):wpAny x.W.M x.A (setAttr va (U0 nm) vb) Q E s:=by
 obtain⟨a,rfl,ha⟩:=eO ra;obtain⟨a',dx,es,n,h1,h2,h3,h4,h5,h6,h7,h8,h9⟩:=R.mo e;obtain rfl:=U1 (ha.symm.trans h1);obtain⟨C1,C2⟩:=uM (P:=x.W.w.params) ho;obtain⟨m,pc,r,lr,pr⟩:=id R;obtain⟨L,f1,f2,f3,f4,f5,f6,f7,f8⟩:=(r.frs _ (.head _)).ex;dsimp only at f1 f2 f6;have hL:x.env.locals=L:=f2;have hgl:(getL (U0 nm) es).isSome=true:=by
  obtain⟨g1,g2⟩:=h7.getL (n:=nm);cases q:fs.lookup nm with
 |some u=>obtain⟨v,hv,_⟩:=g1 u q;rw[hv];rfl
 |none=>rw[g2 q];rfl
 have hlen:es.length<=800:=by rw[h7.1];exact hz
 have hdL:dx≠L:=fun z=>by rw[z,f7]at h3;cases h3
 refine set_plain R.inK (nE h5 h6) C1.set (osa_dict (s:={ s with toks:=s.toks+1 }) (m:=m) (L:=L) (h₀:={}) (pre:=qA s.heap [dx,L]) (post:=[]) (od:=dictOf es n)
  (od':=dictOf (putL (U0 nm) (PyData.keyHash x.W.w.params (U0 nm)) (.str (U0 nm) (s.toks+1)) vb es) (putN (U0 nm) es n))
  (BE f6) (BF fun p hp=>?_) R.inK (nE h5 h6) rfl C1.over (by unfold takerIn;rw[C2];rfl) C1.dict (by rw[lookIn_dict];exact hgl) (fun p hp=>?_) (fun p hp=>nomatch hp) (putName_dict _ _ _ _ _ _) rfl ?_ fun h' F' N'=>?_)
 ·rcases U5.mp hp with hp|hp
  ·obtain⟨p1,p2⟩:=p;obtain⟨q1,q2⟩:=qB.mp hp;exact⟨q1,fun z=>q2 (by rw[show p1=L from z];simp)⟩
  ·obtain rfl:=U6.mp hp;exact⟨h6,hdL⟩
 ·obtain⟨p1,p2⟩:=p;exact fun z=>(qB.mp hp).2 (by rw[show p1=dx from z];simp)
 ·have:=BD (U0 nm) (PyData.keyHash x.W.w.params (U0 nm)) (.str (U0 nm) (s.toks+1)) vb es
  lia
 ·have hd':h'.get? dx=some (dictOf (putL (U0 nm) (PyData.keyHash x.W.w.params (U0 nm)) (.str (U0 nm) (s.toks+1)) vb es) (putN (U0 nm) es n)):=(N' (dx,_) (by simp)).1;have kp:∀ b ob,b≠dx->b≠L->s.heap.get? b=some ob->h'.get? b=some ob:=fun b ob z1 z2 q=>(N' (b,ob) (U8 _ (qB.mpr ⟨q,by simp[z1,z2]⟩))).1
  have haL:a≠L:=fun z=>by rw[z,f7]at h2;cases h2
  have ha':h'.get? a=some (instObj C dx):=kp a _ (Ne.symm h4) haL h5;refine q h' ⟨m,pc,r.turnL hL (fun b ob z1 z2 q=>kp b ob (fun w=>z1 (w ▸ h3)) z2 q) (fun b ob z1 q=>?_) F'.ns ?_,lr,pr⟩
  ·by_cases z:b=dx
   ·subst z;exact⟨_,hd',fun vs=>by simp⟩
   ·have zL:b≠L:=fun w=>by rw[w,f7]at z1;cases z1
    obtain⟨o2,e2,e3⟩:=r.live b l z1;exact⟨ob,kp b ob z zL q,by obtain rfl:=U1 (q.symm.trans e2);exact e3⟩
  ·refine⟨a,dx,_,_,h1,h2,h3,h4,ha',hd',h7.putL rb,?_,?_⟩
   ·exact BI ho h8
   ·have:=BJ nm b fs;lia
end
section
variable {c:Cfg}{h:Heap}{s:Shared}{n:String}{E Q:Value->Shared->Prop}{e:Expr}{p p':Pos}{T Tv:TE}{l:List Expr}{Ts:List TE}{vs:List Value}{us:List V}
variable {x:Cx}
noncomputable def St.put (st:St) (n:String) (v:V):St:={ st with loc:=aj n v st.loc }
theorem bw (n k:String) (v:V) (l:List (String × V)):(aj n v l).lookup k=if k=n then some v else l.lookup k:=by
 induction l with
|nil=>
  by_cases h:k=n
  ·subst h;rw[if_pos rfl];exact fn
  ·rw[if_neg h];exact fQ h
|cons hd l IH=>
  by_cases ha:n=hd.1
  ·obtain⟨a,b⟩:=hd;subst ha;rw[nz];by_cases h:k=n
   ·subst h;rw[if_pos rfl];exact fn
   ·rw[if_neg h];exact(fQ h).trans (fQ h).symm
  ·rw[nB ha];by_cases h:k=hd.1
   ·subst h;rw[if_neg (Ne.symm ha)];exact fn.trans fn.symm
   ·exact(fQ h).trans (IH.trans (by rw[<- fQ h]))
theorem RelH.names {W:Wd}{fms:bU}{prot:List (Addr × Obj)}{mh:MH}{h':Heap}{env:Env}{m m':bZ}(r:RelH W ((env,m)::fms) prot c mh h) (hs:Heap.SameBut env.locals h h') (hn:h'.Ns env.locals m') :
  RelH W ((env,m')::fms) prot c mh h':=by
 obtain⟨L,h1,h2,h3,h4,h5,h6,h7,h8⟩:=(r.frs _ (.head _)).ex;dsimp only at h1 h2 h3 h4 h5 h6;have hd:∀ f∈fms,f.1.locals≠L:=by
  intro f hf e;have:=r.dist.1;rw[V1,h2]at this;exact(W2.mp this).1 (V5.mpr ⟨f,hf,e⟩)
 have k:∀ b ob,b≠L->h.get? b=some ob->h'.get? b=some ob:=fun b ob z q=>(hs.2 b (by rw[h2];exact z)).trans q
 refine⟨r.base,fun a o e=>k a o (fun z=>h8 o (z ▸ e)) (r.kn a o e),r.free,?_,?_,r.dist,?_,?_,r.nxt⟩
 ·intro a l e;obtain⟨ob,q,z⟩:=r.live a l e;exact⟨ob,k a ob (fun w=>by rw[w,h7]at e;cases e) q,z⟩
 ·intro f hf;rcases V3.mp hf with rfl|hf
  ·exact⟨L,h1,h2,h3,h4,h5,h2 ▸ hn,h7,h8⟩
  ·exact(r.frs f (.tail _ hf)).keeps fun L₂ hL₂ o e=>k _ _ (fun z=>hd f hf (hL₂.trans z)) e
 ·intro p hp;obtain⟨a,b,d,e⟩:=r.pr p hp;exact⟨k _ _ (fun z=>e _ (.head _) (h2.trans z.symm)) a,b,d,fun f hf=>by
   rcases V3.mp hf with rfl|hf
   ·exact e (env,m) (.head _)
   ·exact e f (.tail _ hf)⟩
 ·intro l o e;exact(r.mo l o e).keep (Gr.refl c) (fun ω h=>h) fun a ob ha q=>k a ob (fun w=>by rw[w,h7]at ha;cases ha) q
theorem jK {st:St}{v:Value}{u:V}{Q:Unit->Shared->Prop}(R:Rel x c st s.heap) (rv:c.R v u) (hk:x.env.kindOf (U0 n)=some .local)
  (q:∀ h',Rel x c (st.put n u) h'->Q () { s with heap:=h',toks:=s.toks+1 }):wpAny x.W.M x.A (storeName x.env (U0 n) v) Q E s:=by
 obtain⟨hk',_⟩:=R.fm;obtain⟨m,pc,r,lr,pr⟩:=id R;obtain⟨L,f1,f2,f3,f4,f5,f6,f7,f8⟩:=(r.frs _ (.head _)).ex;dsimp only at f1 f2 f6;refine wpAny_storeName_local hk (f2 ▸ f6) (fun h' hn hs=>q h' ⟨_,pc,r.names hs hn,fun y v₀ e=>?_,pr⟩) (by rw[hk'];rfl);rw[St.put,bw]at e;by_cases hy:y=n
 ·subst hy;rw[if_pos rfl]at e;obtain rfl:=U1 e;exact .inl ⟨hk,v,if_pos rfl,rv⟩
 ·rw[if_neg hy]at e;rcases lr y v₀ e with ⟨a,w,b,rr⟩|z
  ·exact .inl ⟨a,w,(if_neg (fun z=>hy (lh z))).trans b,rr⟩
  ·exact .inr z
noncomputable def aw (n:String) (T:TE):TS:=fun Q X st=>T (fun v st=>Q .next (st.put n v)) X st
theorem BK (h:x.E e T) (hk:x.env.kindOf (U0 n)=some .local) (hs:autoParam (swapsWith e (some (.Name (U0 n) p')) p.line x.env=pure false) tR) :
  x.S (.Assign [.Name (U0 n) p'] e p) (aw n T):=fun Q X st hT c s R=>
 wpAny_Assign_Name (h.go hT R fun v u c1 st1 s1 g1 w1 R1 r1 h1=>jK R1 r1 hk fun h' R'=>aQ g1 R' (w1.trans ⟨rfl,rfl,rfl⟩) .next h1) hs
noncomputable def ay (C:Nat) (n:String) (To Tv:TE):TS:=fun Q X st=>Tv (fun v st=>To (fun o st=>match o with
|.ref l=>(match st.mh.m l with|some (.inst C' fs)=>C'=C/\fs.length<=800/\Q .next { st with mh:=st.mh.set l (.inst C (aj n v fs)) }|_=>False)
|_=>False) X st) X st
theorem aC {o:Expr}{To:TE}{C:Nat}(hv:x.E e Tv) (ho:x.E o To) (hc:autoParam (cM C n=true) tR) (hs:autoParam (swapsWith e (some (.Attribute o (U0 n) p')) p.line x.env=pure false) tR) :
  x.S (.Assign [.Attribute o (U0 n) p'] e p) (ay C n To Tv):=fun Q X st hT c s R=>
 plainObj_wpAny_Assign_Attribute (hv.go hT R fun v u c1 st1 s1 g1 w1 R1 r1 h1=>ho.go2 h1 g1 w1 R1 fun ov a c2 st2 s2 g2 w2 g R2 r2 h2=>by
  rcases a with _|_|_|_|_|_|_|_|_|_<;>try exact h2.elim
  ·dsimp only at h2;generalize e:st2.mh.m _=o at h2;rcases o with _|(⟨C',fs⟩|_|_|_)<;>try exact h2.elim
   ·obtain⟨rfl,hz,h2⟩:=h2;exact uS R2 r2 (r1.gr g) e hc hz fun h' R'=>aQ g2 R' (w2.trans ⟨rfl,rfl,rfl⟩) .next h2) hs
noncomputable def b4 (C:Nat) (n:String) (f:Int->Int->Int) (To Tv:TE):TS:=fun Q X st=>To (fun o st=>bH st.mh o n fun old=>Tv (fun v st=>match o,old,v with
|.ref l,.int i,.int j=>(match st.mh.m l with|some (.inst C' fs)=>C'=C/\fs.length<=800/\Q .next { st with mh:=st.mh.set l (.inst C (aj n (.int (f i j)) fs)) }|_=>False)
|_,_,_=>False) X st) X st
theorem eP {o:Expr}{op:Operator}{f:Int->Int->Int}{To:TE}{C:Nat}
  (op_ok:∀ (i j:Int) (t u:Tok) (Q:Value->Shared->Prop) (E:Value->Shared->Prop) (s:Shared),Q (.int (f i j) s.toks) { s with toks:=s.toks+1 }->wpAny x.W.M x.A (inplaceOp op (.int i t) (.int j u)) Q E s)
  (ho:x.E o To) (hv:x.E e Tv) (hc:autoParam (cM C n=true) tR):x.S (.AugAssign (.Attribute o (U0 n) p') op e p) (b4 C n f To Tv):=fun Q X st hT c s R=>
 wpAny_AugAssign_AttributeAny (ho.go hT R fun ov a c1 st1 s1 g1 w1 R1 r1 h1=>uR R1 r1 h1 fun old u ru hu=>by
  have R1':Rel x c1 st1 ({ s1 with toks:=s1.toks+1 }:Shared).heap:=R1;refine hv.go2 hu g1 (w1.trans (c:={ s1 with toks:=s1.toks+1 }) ⟨rfl,rfl,rfl⟩) R1' fun v b c2 st2 s2 g2 w2 g R2 r2 h2=>?_
  rcases a with _|_|_|_|_|_|_|_|_|_<;>try exact h2.elim
  rcases u with _|_|_|_|_|_|_|_|_|_<;>try exact h2.elim
  rcases b with _|_|_|_|_|_|_|_|_|_<;>try exact h2.elim
  ·dsimp only at h2;generalize e:st2.mh.m _=o at h2;rcases o with _|(⟨C',fs⟩|_|_|_)<;>try exact h2.elim
   ·obtain⟨rfl,hz,h2⟩:=h2;obtain⟨t,rfl⟩:=bi (ru.gr g);obtain⟨t',rfl⟩:=bi r2;refine op_ok _ _ _ _ _ _ _ ?_;exact uS (s:={ s2 with toks:=s2.toks+1 }) R2 (r1.gr g) (.int _ _) e hc hz fun h' R'=>aQ g2 R' (w2.trans ⟨rfl,rfl,rfl⟩) .next h2)
noncomputable def ci (n:String) (f:Int->Int->Int) (Tv:TE):TS:=fun Q X st=>match st.loc.lookup n with
|some (.int i)=>Tv (fun v st=>match v with|.int j=>Q .next (st.put n (.int (f i j)))|_=>False) X st
|_=>False
theorem BM {st:St}{u:V}(R:Rel x c st s.heap) (e:st.loc.lookup n=some u) (q:∀ v,c.R v u->Q v s) :
  wpAny x.W.M x.A (loadName x.env (U0 n)) Q E s:=by
 obtain⟨m,pc,r,l,pe⟩:=id R;obtain⟨hk,_⟩:=R.fm;obtain⟨L,h1,h2,_,_,_,h6,_⟩:=(r.frs _ (.head _)).ex;rcases l n u e with ⟨a,v,b,rr⟩|⟨a|⟨a,a'⟩,b,o,v,d,k,f,rr⟩
 ·exact wpAny_loadName_local hk a (by rw[h2];exact h6) b (q v rr)
 ·exact wpAny_loadName_cell hk a d ⟨o,r.kn _ _ k,f⟩ (q v rr)
 ·exact wpAny_loadName_free hk a d ⟨o,r.kn _ _ k,f⟩ (q v rr) a'
theorem BN {op:Operator}{f:Int->Int->Int}
  (op_ok:∀ (i j:Int) (t u:Tok) (Q:Value->Shared->Prop) (E:Value->Shared->Prop) (s:Shared),Q (.int (f i j) s.toks) { s with toks:=s.toks+1 }->wpAny x.W.M x.A (inplaceOp op (.int i t) (.int j u)) Q E s)
  (hv:x.E e Tv) (hk:x.env.kindOf (U0 n)=some .local):x.S (.AugAssign (.Name (U0 n) p') op e p) (ci n f Tv):=fun Q X st hT c s R=>by
 unfold ci at hT;generalize e:st.loc.lookup n=o at hT;rcases o with _|(_|_|i|_|_|_|_|_|_|_)<;>try exact hT.elim
 ·refine wpAny_AugAssign_Name (BM R e fun old ro=>?_);obtain⟨t,rfl⟩:=bi ro;refine hv.go hT R fun v b c2 st2 s2 g2 w2 R2 r2 h2=>?_
  rcases b with _|_|_|_|_|_|_|_|_|_<;>try exact h2.elim
  ·obtain⟨t',rfl⟩:=bi r2;refine op_ok _ _ _ _ _ _ _ ?_;exact jK (s:={ s2 with toks:=s2.toks+1 }) R2 (.int _ _) hk fun h' R'=>aQ g2 R' (w2.trans ⟨rfl,rfl,rfl⟩) .next h2
theorem cY (i j:Int) (t u:Tok) (Q:Value->Shared->Prop) (E:Value->Shared->Prop) (s:Shared) (h:Q (.int (i+j) s.toks) { s with toks:=s.toks+1 }):wpAny x.W.M x.A (inplaceOp .Add (.int i t) (.int j u)) Q E s:=iadd_int h
theorem nF (i j:Int) (t u:Tok) (Q:Value->Shared->Prop) (E:Value->Shared->Prop) (s:Shared) (h:Q (.int (i - j) s.toks) { s with toks:=s.toks+1 }):wpAny x.W.M x.A (inplaceOp .Sub (.int i t) (.int j u)) Q E s:=isub_int h
noncomputable def ao (T:TE):TS:=fun Q X st=>T (fun v st=>Q (.ret v) st) X st
theorem aA (h:x.E e T):x.S (.Return (some e) p) (ao T):=fun Q X st hT c s R=>
 wpAny_Return_some (h.go hT R fun v u c1 st1 s1 g1 w1 R1 r1 h1=>aQ g1 R1 w1 (.ret _ _ r1) h1)
noncomputable def tRet0:TS:=fun Q X st=>Q (.ret .none) st
theorem BO:x.S (.Return none p) tRet0:=fun Q X st hT c s R=>wpAny_Return_none (bK R (SW.refl s) (.ret _ _ .none) hT)
noncomputable def aE (T:TE):TS:=fun Q X st=>T (fun ω st=>Q .next st) X st
theorem bI (h:x.E e T) (hi:autoParam (interactive x.env=false) tR) (hs:autoParam (swapsWith e none p.line x.env=pure false) tR):x.S (.Expr e p) (aE T):=fun Q X st hT c s R=>
 wpAny_Expr_any (h.go hT R fun v u c1 st1 s1 g1 w1 R1 r1 h1=>aQ g1 R1 w1 .next h1) hi hs
noncomputable def ak (C:TB) (T F:TS):TS:=fun Q X st=>C (cr T F Q X) X st
theorem ar {a b:List Stmt}{C:TB}{T F:TS}(hc:x.B e C) (ha:x.L a T) (hb:x.L b F):x.S (.If e a b p) (ak C T F):=fun Q X st hT c s R=>
 wpAny_If (hc.go hT R fun v v₀ c1 st1 s1 g1 w1 R1 r1 h1=>by
  cases r1;cases v
  ·exact dQ g1 w1 (hb Q X st1 (Eq.mp uC h1) c1 s1 R1)
  ·exact dQ g1 w1 (ha Q X st1 (Eq.mp uB h1) c1 s1 R1))
noncomputable def tNil:TS:=fun Q ω st=>Q .next st
theorem av:x.L [] tNil:=fun Q X st hT c s R=>wpAny_execs_nil (bK R (SW.refl s) .next hT)
noncomputable def ab (T U:TS):TS:=fun Q X st=>T (cV U Q X) X st
set_option tactic.hygienic true in
theorem BP {a:Stmt}{r:List Stmt}{T U:TS}(ha:x.S a T) (hr:x.L r U):x.L (a::r) (ab T U):=fun Q X st hT c s R=>
 wpAny_execs_cons (ha.go hT R fun f f₀ c1 st1 s1 g1 w1 R1 r1 h1=>by
  induction r1 with
 |next=>exact dQ g1 w1 (hr Q X st1 (Eq.mp Bg h1) c1 s1 R1)
 |ret v v₀ rv=>exact aQ g1 R1 w1 (.ret v v₀ rv) (Eq.mp Bh h1))
set_option tactic.hygienic true in
theorem BQ {a:Stmt}{T:TS}(ha:x.S a T):x.L [a] T:=fun Q X st hT c s R=>
 wpAny_execs_cons (ha.go hT R fun f f₀ c1 st1 s1 g1 w1 R1 r1 h1=>by
  induction r1 with
 |next=>exact wpAny_execs_nil (aQ g1 R1 w1 .next h1)
 |ret v v₀ rv=>exact aQ g1 R1 w1 (.ret v v₀ rv) h1)
noncomputable def jL (Q:List V->St->Prop) (v:V):List V->St->Prop:=fun vs st=>Q (v::vs) st
noncomputable def gv (E:Tr (List V)) (Q:List V->St->Prop) (X:XP):V->St->Prop:=fun v st=>E (jL Q v) X st
noncomputable def bh:List TE->Tr (List V)
|[]=>fun Q ω st=>Q [] st
|T::Ts=>fun Q X st=>T (gv (bh Ts) Q X) X st
inductive Cx.Es (x:Cx):List Expr->List TE->Prop
|nil:Cx.Es x [] []
|cons {e:Expr}{l:List Expr}{T:TE}{Ts:List TE}:x.E e T->starEach (e::l) x.env=(false,eval e x.env)::starEach l x.env->Cx.Es x l Ts->Cx.Es x (e::l) (T::Ts)
theorem li (h:x.Es l Ts):x.J (spliced (backTo p (starEach l x.env))) Rs (bh Ts):=by
 induction h with
|nil=>exact fun Q X st hT c s R=>spliced_nil (bK R (SW.refl s) (Rs.nil c) hT)
|cons he hs _ ih=>
  intro Q X st hT c s R;rw[hs];show wpAny _ _ (spliced ((false,_)::backTo p (starEach _ x.env))) _ _ s;refine spliced_cons (he.go hT R fun v u c1 st1 s1 g1 w1 R1 r1 h1=>?_);refine ih.go2 h1 g1 w1 R1 fun vs us c2 st2 s2 g2 w2 g R2 r2 h2=>aQ g2 R2 w2 (Rs.cons (r1.gr g) r2) h2
noncomputable def aD (Ts:List TE):TE:=fun Q X st=>bh Ts (fun vs st=>vs.length<=10000/\Q (.tup vs) st) X st
noncomputable def bB (Ts:List TE):TE:=fun Q X st=>bh Ts (fun vs st=>vs.length<=10000/\Q (.lst vs) st) X st
noncomputable def fq (r:St->Nat) (mk:List V->MO) (Ts:List TE):TE:=fun Q X st=>bh Ts (fun vs st=>vs.length<=10000/\Q (.ref (r st,st.mh.nx (r st))) { st with mh:=st.mh.new (r st) (mk vs) }) X st
theorem Rs.tup {a:Addr}{o:Obj}{n:Nat}{xs:List V}(h1:c.kn a o) (h2:o.cls=.type "tuple") (h3:o.data=.seq vs.toArray n) (r:Rs c vs xs):c.R (.ref a) (.tup xs):=
 .tup a o vs.toArray n xs h1 h2 h3 (by simpa using r.1) fun i v u e1 e2=>r.2 i v u (by simpa using e1) e2
theorem Rs.lst {a:Addr}{o:Obj}{n:Nat}{xs:List V}(h1:c.kn a o) (h2:o.cls=.type "list"/\o.dict=none/\o.slots=#[]) (h3:o.data=.seq vs.toArray n) (r:Rs c vs xs):c.R (.ref a) (.lst xs):=
 .lst a o vs.toArray n xs h1 h2 h3 (by simpa using r.1) fun i v u e1 e2=>r.2 i v u (by simpa using e1) e2
theorem Rel.push {st:St}(R:Rel x c st h) (o:Obj) (ho:o.isFreed=false) :
  Rel x (c.learn fun a ob=>a=h.objs.size/\ob=o) st (h.push o)/\Gr c (c.learn fun a ob=>a=h.objs.size/\ob=o)/\(c.learn fun a ob=>a=h.objs.size/\ob=o).kn h.objs.size o:=
 ⟨R.know (fun b ob e=>AAG _ e) _ (fun a ob e=>by
  obtain⟨rfl,rfl⟩:=e;exact⟨AAH _ ho,AAI (Y3 _)⟩),Gr.learn c _,.inr ⟨rfl,rfl⟩⟩
theorem BR {st:St}(R:Rel x c st s.heap) (r:Rs c vs us) (hz:vs.length<=sizeLine)
  (q:∀ c' h' v,Gr c c'->Rel x c' st h'->c'.R v (.tup us)->Q v { s with heap:=h' }):wpAny x.W.M x.A (newTuple vs) Q E s:=by
 obtain⟨R',g,k⟩:=R.push { cls:=.type "tuple",data:=.seq vs.toArray } rfl;exact AAC (q _ _ _ g R' (Rs.tup k rfl rfl (r.gr g))) (by show vs.toArray.size<=sizeLine;rw[U9];exact hz)
theorem BU {st:St}(R:Rel x c st s.heap) (r:Rs c vs us) (hz:vs.length<=sizeLine)
  (q:∀ c' h' v,Gr c c'->Rel x c' st h'->c'.R v (.lst us)->Q v { s with heap:=h' }):wpAny x.W.M x.A (newList vs) Q E s:=by
 obtain⟨R',g,k⟩:=R.push (listOf vs.toArray 0) rfl;exact AAC (q _ _ _ g R' (Rs.lst k ⟨rfl,rfl,rfl⟩ rfl (r.gr g))) (by show vs.toArray.size<=sizeLine;rw[U9];exact hz)
theorem eQ (r:Rs c vs us) (h:us.length<=10000):vs.length<=sizeLine:=by rw[r.1,sizeLine_eq];(first|exact ba ‹_› rfl|lia)
theorem aW {k:Nat}(h:x.Es l Ts):x.E (.Tuple l k p) (aD Ts):=fun Q X st hT c s R=>
 Tuple_ ((li h).go hT R fun vs us c1 st1 s1 g1 w1 R1 r1 h1=>BR R1 r1 (eQ r1 h1.1) fun c2 h' v g R2 rv=>aQ (g1.trans g) R2 (w1.trans ⟨rfl,rfl,rfl⟩) rv h1.2)
theorem cF (h:x.Es l Ts):x.E (.List l p) (bB Ts):=fun Q X st hT c s R=>
 List_ ((li h).go hT R fun vs us c1 st1 s1 g1 w1 R1 r1 h1=>BU R1 r1 (eQ r1 h1.1) fun c2 h' v g R2 rv=>aQ (g1.trans g) R2 (w1.trans ⟨rfl,rfl,rfl⟩) rv h1.2)
theorem Rel.label1 {st:St}(R:Rel x c st h) (r:Nat) (ob:Obj) (o:MO) (hf:ob.isFreed=false) (hd:∀ vs,ob.data≠.fields vs)
  (ho:∀ c':Cfg,Gr c c'->c'.adr (r,st.mh.nx r)=some h.objs.size->c'.own h.objs.size=some (r,st.mh.nx r)->MOk c' (h.push ob) (r,st.mh.nx r) o) :
  ∃ c',Gr c c'/\Rel x c' { st with mh:=st.mh.new r o } (h.push ob)/\c'.R (.ref h.objs.size) (.ref (r,st.mh.nx r)):=by
 obtain⟨m,pc,rr,lr,pr⟩:=R;have g:Gr c (c.label (r,st.mh.nx r) h.objs.size (·=h.objs.size)):=⟨fun ω ω h=>h,fun l a' e=>by
  show(if l=(r,st.mh.nx r)then some h.objs.size else c.adr l)=some a';rw[if_neg (fun q=>by rw[q]at e;exact absurd (rr.nxt _ _ e) (Z1 _))];exact e⟩
 have e1:(c.label (r,st.mh.nx r) h.objs.size (·=h.objs.size)).adr (r,st.mh.nx r)=some h.objs.size:=if_pos rfl;have e2:(c.label (r,st.mh.nx r) h.objs.size (·=h.objs.size)).own h.objs.size=some (r,st.mh.nx r):=by simp[Cfg.label]
 obtain⟨r',g'⟩:=rr.label (h':=h.push ob) (fun b o e=>AAG _ e) r o h.objs.size (·=h.objs.size)
  (fun b hb=>by subst hb;exact⟨AAI (Y3 _),ob,AAH _ hf,hd⟩) (ho _ g e1 e2)
 exact⟨_,g',⟨m,pc,r',lr.gr g',pr⟩,.ref _ _ e1⟩
theorem nG {r:St->Nat}(h:x.Es l Ts):x.E (.List l p) (fq r .list Ts):=fun Q X st hT c s R=>by
 refine List_ ((li h).go hT R fun vs us c1 st1 s1 g1 w1 R1 r1 h1=>?_);obtain⟨c2,g,R2,rv⟩:=R1.label1 (r st1) (listOf vs.toArray 0) (.list us) rfl (fun vs=>by simp) fun c' g e1 e2=>⟨_,vs,0,e1,e2,AAH _ rfl,r1.gr g⟩
 exact AAC (aQ (g1.trans g) R2 (w1.trans ⟨rfl,rfl,rfl⟩) rv h1.2) (by show vs.toArray.size<=sizeLine;rw[U9];exact eQ r1 h1.1)
theorem qC {r:St->Nat}(h:x.Es l Ts):x.E (.List l p) (fq r .arr Ts):=fun Q X st hT c s R=>by
 refine List_ ((li h).go hT R fun vs us c1 st1 s1 g1 w1 R1 r1 h1=>?_);obtain⟨c2,g,R2,rv⟩:=R1.label1 (r st1) (listOf vs.toArray 0) (.arr us) rfl (fun vs=>by simp) fun c' g e1 e2=>⟨_,_,vs,0,e1,e2,AAH _ rfl,rfl,rfl,r1.gr g⟩
 exact AAC (aQ (g1.trans g) R2 (w1.trans ⟨rfl,rfl,rfl⟩) rv h1.2) (by show vs.toArray.size<=sizeLine;rw[U9];exact eQ r1 h1.1)
end
set_option tactic.hygienic true in
noncomputable def Fl.val:Fl->V
|.next=>.none
|.ret v=>v
noncomputable abbrev Fn:=List V->(V->MH->Prop)->XP->MH->Prop
noncomputable def Rt (Q E:Value->Shared->Prop) (r:Result) (s:Shared):Prop:=match r with
|.ok (.ret v)=>Q v s
|.ok _=>False
|.error e=>E e s
noncomputable def Cx.C (x:Cx) (f:Value) (F:Fn):Prop:=∀ us Q X st,F us (fun v mh=>Q v { st with mh:=mh }) X st.mh->∀ c s vs,Rel x c st s.heap->Rs c vs us->
 codeAny x.W.M x.A (.call f ⟨vs,[]⟩) (Rt (x.Po vR Q c s) (x.EX X c s)) s
theorem Rt.call {M:Model}{A:Around}{f:Value}{vs:List Value}{Q E:Value->Shared->Prop}{s:Shared}(h:codeAny M A (.call f ⟨vs,[]⟩) (Rt Q E) s):wpAny M A (call f vs) Q E s:=
 wpAny_call (AAF h fun r s' z=>by rcases r with e|(v|_|_|_)<;>exact z)
noncomputable def BV:Data->Option FuncData
|.func fd=>some fd
|_=>none
noncomputable def jc (K:Frag) (f:Addr):Option FuncData:=(K.lookup f).bind fun o=>BV o.data
theorem qD {K:Frag}{f:Addr}{fd:FuncData}(h:jc K f=some fd):∃ oc od osl,K.lookup f=some ⟨oc,od,.func fd,osl⟩:=by
 obtain⟨⟨oc,od,d,osl⟩,h1,h2⟩:=Option.bind_eq_some_iff.mp h;cases d<;>try exact bO h2
 rw[<- U1 h2];exact⟨oc,od,osl,h1⟩
structure FdW (P:Params) (f:Addr) where
 fd:FuncData
 ok:jc (KF P) f=some fd
noncomputable def io (K:Frag) (fd:FuncData):Bool:=fd.closure.isEmpty && fd.globals == mainGlobals && fd.builtins == builtinsNs && fd.scope.kind == .function && !fd.scope.isCoroutine && !fd.scope.isGenerator &&
 codeIn K fd.code fd.qualname && decide ((cellsFrom 0 fd.scope.names []).map (fun q=>q.1)).Nodup
noncomputable def nH (fd:FuncData) (ps:List String):Bool:=decide ps.Nodup && ps.all fun p=>fd.scope.names.lookup (U0 p) == some .local || (fd.scope.names.lookup (U0 p) == some .cell && ((cellsFrom 0 fd.scope.names []).map (fun q=>q.1)).contains (U0 p))
noncomputable def nI (P:Params) (fd:FuncData) (ps:List String) (n:Nat) (ds:List Value):Prop:=
 ∀ vs,vs.length=n->∀ S,peek (KF P) S (bindArgs fd ⟨vs,[]⟩)=some ((ps.map U0).zip (vs++ds))
theorem BW {kindOf:Str->Option NameKind}{x:String}{ps:List String}{ws:List Value}{m:bZ}(h:x ∉ ps):bindL kindOf ((ps.map U0).zip ws) m (U0 x)=m (U0 x):=by
 induction ps generalizing ws m with
|nil=>rfl
|cons p ps ih=>induction ws with
 |nil=>rfl
 |cons w ws=>
   refine(ih fun q=>h (.tail _ q)).trans ?_
   split
   ·exact if_neg fun z=>h (by rw[lh z];exact .head _)
   ·rfl
theorem BX {kindOf:Str->Option NameKind}{x:String}{ps:List String}{ws:List Value}{m:bZ}(h:x ∉ ps):bindC kindOf ((ps.map U0).zip ws) m (U0 x)=m (U0 x):=by
 induction ps generalizing ws m with
|nil=>rfl
|cons p ps ih=>induction ws with
 |nil=>rfl
 |cons w ws=>
   refine(ih fun q=>h (.tail _ q)).trans ?_
   split
   ·rfl
   ·exact if_neg fun z=>h (by rw[lh z];exact .head _)
theorem BY {kindOf:Str->Option NameKind}{c:Cfg}{x:String}{v₀:V}{ps:List String}{ws:List Value}{us:List V}{m k:bZ}(nd:ps.Nodup) (r:Rs c ws us) (hl:ws.length=ps.length) (e:(ps.zip us).lookup x=some v₀) :
  x∈ps/\∃ v,c.R v v₀/\(kindOf (U0 x)=some .local->bindL kindOf ((ps.map U0).zip ws) m (U0 x)=some v)/\
   (kindOf (U0 x)≠some .local->bindC kindOf ((ps.map U0).zip ws) k (U0 x)=some v):=by
 suffices H:∀ (ps:List String) (m k:bZ),ps.Nodup->ws.length=ps.length->(ps.zip us).lookup x=some v₀->x∈ps/\∃ v,c.R v v₀/\(kindOf (U0 x)=some .local->bindL kindOf ((ps.map U0).zip ws) m (U0 x)=some v)/\
   (kindOf (U0 x)≠some .local->bindC kindOf ((ps.map U0).zip ws) k (U0 x)=some v)from H ps m k nd hl e
 refine Rs.ind (fun ps m k ω ω e=>?_) (fun w u ws us a r ih ps m k nd hl e=>?_) r
 ·rw[List.zip_nil_right]at e;exact nomatch e
 ·rcases ps with _|⟨p,ps⟩
  ·exact nomatch e
  ·obtain⟨n1,n2⟩:=W2.mp nd;by_cases hx:x=p
   ·subst hx;have e:=U1 (fn.symm.trans e);refine⟨.head _,w,e ▸ a,fun hk=>(BW n1).trans ?_,fun hk=>(BX n1).trans ?_⟩
    ·rw[if_pos hk];exact if_pos rfl
    ·rw[if_neg hk];exact if_pos rfl
   ·obtain⟨h0,v,h1,h2,h3⟩:=ih ps (if kindOf (U0 p)=some .local then fun y=>if y=U0 p then some w else m y else m)
     (if kindOf (U0 p)=some .local then k else fun y=>if y=U0 p then some w else k y) n2 (Nat.succ.inj hl) ((fQ hx).symm.trans e)
    exact⟨.tail _ h0,v,h1,h2,h3⟩
theorem RelH.frame {W:Wd}{fms:bU}{prot:List (Addr × Obj)}{c:Cfg}{mh:MH}{h:Heap}{env:Env}{m:bZ}(r:RelH W fms prot c mh h) (h1:∃ F,env.frame=some F) (h3:env.scope.kind=.function) (h4:env.globals=mainGlobals) (h5:env.builtins=builtinsNs)
  (h6:h.Ns env.locals m) (hf:FreeA fms prot c env.locals):RelH W ((env,m)::fms) prot c mh h:=by
 refine⟨r.base,r.kn,r.free,r.live,?_,?_,?_,r.mo,r.nxt⟩
 ·intro f hm;rcases V3.mp hm with rfl|hm
  ·exact⟨_,h1,rfl,h3,h4,h5,h6,hf.own,hf.kn⟩
  ·exact r.frs f hm
 ·refine⟨?_,r.dist.2⟩;rw[V1,W2];refine⟨fun q=>?_,r.dist.1⟩;obtain⟨f,hm,e⟩:=V5.mp q;exact hf.fr f hm e
 ·intro p hp;obtain⟨a,b,d,e⟩:=r.pr p hp;refine⟨a,b,d,fun f hm=>?_⟩;rcases V3.mp hm with rfl|hm
  ·exact fun z=>hf.pr p hp z.symm
  ·exact e f hm
theorem RelH.pop {W:Wd}{fms:bU}{pc prot:List (Addr × Obj)}{c:Cfg}{mh:MH}{h:Heap}{f:Env × bZ}(r:RelH W (f::fms) (pc++prot) c mh h):RelH W fms prot c mh h:=
 ⟨r.base,r.kn,r.free,r.live,fun g hg=>r.frs g (.tail _ hg),⟨(W2.mp (V1 .. ▸ r.dist.1)).2,(V7.mp (V2 .. ▸ r.dist.2)).2.1⟩,
  fun p hp=>by obtain⟨a,b,d,e⟩:=r.pr p (U7 _ hp);exact⟨a,b,d,fun g hg=>e g (.tail _ hg)⟩,r.mo,r.nxt⟩
theorem BZ {x:Cx}(ok:x.Ok) (hn:1<=x.n):x.A.depth < recursionLimit:=by have:=ok.d;show _ < 1000;lia
section
variable {x:Cx}
set_option tactic.hygienic true in
theorem B0 (ok:x.Ok) (hn:1<=x.n) {f:Addr}{fd:FuncData}{body:List Stmt}(hfd:jc (KF x.W.w.params) f=some fd) (hc:io (KF x.W.w.params) fd=true) (hb:fd.body=.stmts body)
  {ps:List String}{n:Nat}{ds:List Value}{du:List V}(hbind:nI x.W.w.params fd ps n ds) (hd:∀ c,Rs c ds du) (hps:nH fd ps=true) (hl:ps.length=n+ds.length) {T:TS}
  (hT:∀ y:Cx,y.W=x.W->y.n+1=x.n->y.Ok->(∃ L,y.env=callEnvC fd L f)->y.L body T) :
  x.C (.ref f) fun us Q X mh=>us.length=n/\T (fun fl st=>Q fl.val st.mh) X ⟨ps.zip (us++du),[],mh⟩:=by
 intro us Q X st ⟨hlen,hF⟩ c s vs R rvs;obtain⟨oc,od,osl,ho⟩:=qD hfd;unfold io at hc;simp only[U3,Bool.not_eq_true',beq_iff_eq,decide_eq_true_eq,List.isEmpty_iff]at hc;obtain⟨⟨⟨⟨⟨⟨⟨hcl,hgl⟩,hbu⟩,hki⟩,hco⟩,hge⟩,hcd⟩,hnd⟩:=hc;unfold nH at hps;simp only[U3,decide_eq_true_eq,V6,Bool.or_eq_true,beq_iff_eq,List.contains_iff_mem]at hps;obtain⟨hpn,hpk⟩:=hps;have X0:=R.inK;obtain⟨m,pc,r,lr,pr⟩:=id R;have hvn:vs.length=n:=rvs.1.trans hlen;have hcn:∀ k,(cellsFrom k fd.scope.names []).map (fun q=>q.1)=(cellsFrom 0 fd.scope.names []).map (fun q=>q.1):=fun k=>cellsFrom_names _ _ _ _ _ rfl
 have hsome:∀ p∈ps,fd.scope.names.lookup (U0 p)=some .local\/(fd.scope.names.lookup (U0 p)=some .cell/\∃ a,(cellsFrom (s.heap.objs.size+1) fd.scope.names []).lookup (U0 p)=some a):=fun p hp=>by
  rcases hpk p hp with h|⟨h1,h2⟩
  ·exact .inl h
  ·refine .inr ⟨h1,?_⟩;rw[<- hcn (s.heap.objs.size+1)]at h2;obtain⟨⟨n',a⟩,hm,e⟩:=V5.mp h2;dsimp only at e;subst e;exact⟨a,lookup_of_mem_nodup (by rw[hcn];exact hnd) hm⟩
 refine codeAny_call_function (BZ ok hn) (X0 _ _ ho) rfl hco hge hb (codeRec_of X0 hcd) ?_;refine(Looks.of_peek X0 (hbind vs hvn _)).here ?_;rw[hcl];refine wpAny_newFunctionEnv_cells hki (fun y hy=>?_) fun env' he s' z=>?_
 ·obtain⟨hy1,_⟩:=List.of_mem_zip (show(y.1,y.2)∈_ from hy);obtain⟨p,hp,e⟩:=V5.mp hy1;rcases hsome p hp with h|⟨h1,a,h2⟩
  ·exact .inl (e ▸ h)
  ·exact .inr ⟨e ▸ h1,by rw[<- e,h2];rfl⟩
 ·have he':env'=callEnvC fd s.heap.objs.size f:=he;obtain⟨h₁,tk,rfl,kp⟩:=z.done;have hL:env'.locals=s.heap.objs.size:=by rw[he'];rfl
  have hfr:env'.frame=some s.heap.objs.size:=by rw[he'];rfl
  have hcells:env'.cells=cellsFrom (s.heap.objs.size+1) fd.scope.names []:=by rw[he'];rfl
  have hsc:env'.scope=fd.scope:=by rw[he'];rfl
  have hgg:env'.globals=mainGlobals:=by rw[he'];exact hgl
  have hbb:env'.builtins=builtinsNs:=by rw[he'];exact hbu
  have hko:∀ n',env'.kindOf n'=fd.scope.names.lookup n':=fun n'=>by rw[he'];rfl
  refine⟨(x.W.nolimit.keeps R.base).keeps kp,codeAny_func ?_⟩
  let y:Cx:={ W:=x.W,env:=env',fms:=(x.env,m)::x.fms,prot:=pc++x.prot,A:=x.A.deeper env',n:=x.n - 1 }
  have hre:bV env'=true:=by unfold bV;rw[hfr,hL];exact beq_self_eq_true _
  have oky:y.Ok:=by
   refine⟨ok.hnd,?_,?_,?_⟩
   ·show(x.A.deeper env').frames=some ((env'::x.env::x.fms.map (fun q=>q.1)).filter bV);rw[Around.frames_deeper ok.fr];exact congrArg some (List.filter_cons_of_pos hre).symm
   ·have:=ok.d;exact uv hn this (by decide)
   ·have:=ok.u;exact uv hn this (by decide)
  let N:Kn:=fun a o=>(∃ n',(n',a)∈env'.cells)/\h₁.get? a=some o
  have fresh:∀ a,s.heap.objs.size<=a->s.heap.get? a=none:=fun a ha=>AAI ha
  have rk:RelH x.W ((x.env,m)::x.fms) (pc++x.prot) (c.learn N) st.mh h₁:=r.know kp N fun a o ⟨⟨n',hm⟩,e⟩=>⟨e,fresh a (by have:=z.above n' a hm;rw[hL]at this;exact Nat.le_of_lt this)⟩
  have g:Gr c (c.learn N):=Gr.learn c N;have fL:FreeA ((x.env,m)::x.fms) (pc++x.prot) (c.learn N) env'.locals:=by
   have q:=r.fresh (fresh env'.locals (by rw[hL];exact Y3 _));refine⟨q.own,?_,q.fr,q.pr⟩;rintro o (e|⟨⟨n',hm⟩,_⟩)
   ·exact q.kn o e
   ·exact Z1 _ (z.above n' _ hm)
  have rf:=rk.frame (env:=env') ⟨_,hfr⟩ (by rw[hsc];exact hki) hgg hbb z.toInCall.ns fL;have rws:Rs (c.learn N) (vs++ds) (us++du):=(rvs.gr g).append (hd _);have Ry:Rel y (c.learn N) ⟨ps.zip (us++du),[],st.mh⟩ h₁:=by
   refine⟨_,[],rf,fun q v₀ e=>?_,trivial⟩;obtain⟨hq,v,h1,h2,h3⟩:=BY (kindOf:=env'.kindOf) (m:=fun ω=>none) (k:=fun ω=>none) hpn rws (by rw[V8,hvn];exact hl.symm) e;rcases hsome q hq with h|⟨h,a,h'⟩
   ·exact .inl ⟨(hko _).trans h,v,h2 ((hko _).trans h),h1⟩
   ·have hk:env'.kindOf (U0 q)=some .cell:=(hko _).trans h;have hc':env'.cells.lookup (U0 q)=some a:=by rw[hcells];exact h'
    obtain⟨o,ho1,ho2⟩:=z.cell _ a hc';refine .inr ⟨.inl hk,a,o,v,hc',.inr ⟨⟨_,mem_of_lookup hc'⟩,ho1⟩,?_,h1⟩;rw[ho2,h3 (by rw[hk];exact fun z=>nomatch z)]
  have hny:y.n+1=x.n:=Nat.sub_add_cancel hn;refine AAB ((hT y rfl hny oky ⟨_,he'⟩) (fun fl st'=>Q fl.val { st with mh:=st'.mh }) X _ hF _ { s with heap:=h₁,toks:=tk } Ry) (fun fl s₂ p=>?_) (fun e s₂ p=>?_)
  ·obtain⟨c2,b,st2,g2,w2,⟨m2,pc2,r2,l2,p2⟩,rb,q2⟩:=p;have rx:Rel x c2 { st with mh:=st2.mh } s₂.heap:=⟨m,pc,r2.pop,lr.gr (g.trans g2),pr⟩;have w2':SW s s₂:=⟨w2.gens,w2.drawn,w2.os⟩;induction rb with
  |next=>exact⟨c2,.none,_,g.trans g2,w2',rx,.none,q2⟩
  |ret v v₀ rv=>exact⟨c2,v₀,_,g.trans g2,w2',rx,rv,q2⟩
  ·obtain⟨c2,cls,mh2,m2,pc2,ea,L2,g2,w2,rfl,hL2,r2,ex,hX⟩:=p;have hfy:(x.A.deeper env').frames=some (dp ((env',m2)::(x.env,m)::x.fms)):=oky.fr;refine Bb (s:=s₂) hfy rfl hre r2 hL2 ex fun h3 r3 ex3=>?_
   have w2':SW s { s₂ with heap:=h3 }:=⟨w2.gens,w2.drawn,w2.os⟩;obtain⟨m',pc',_⟩:=id R;obtain⟨_,_,_,F,hF'⟩:=R.fm;refine⟨c2,cls,mh2,m,pc,ea,F,g.trans g2,w2',rfl,hF',r3.pop,?_,hX⟩;obtain⟨oe,vs',a0,e1,e2,e3,e4,e5,e6⟩:=ex3;have fm:∀ {a:Addr},FreeA ((env',m2)::(x.env,m)::x.fms) (pc2++(pc++x.prot)) c2 a->FreeA ((x.env,m)::x.fms) (pc++x.prot) c2 a:=fun q=>q.mono (fun f hf=>.tail _ hf) fun p hp=>U7 _ hp
   refine⟨oe,vs',a0,e1,e2,e3,e4,fm e5,?_⟩;rcases e6 with ⟨q1,q2⟩|⟨T',oT,ts,fl,q1,q2,q3,q4,q5,q6,q7⟩
   ·exact .inl ⟨q1,.inl rfl⟩
   ·exact .inr ⟨T',oT,ts,fl,q1,q2,q3,q4,q5,fm q6,.inr (.inl q7)⟩
end
noncomputable def dM (Q:V->St->Prop) (st:St):V->MH->Prop:=fun v mh=>Q v { st with mh:=mh }
noncomputable def eS (F:Fn) (Q:V->St->Prop) (X:XP):List V->St->Prop:=fun us st=>F us (dM Q st) X st.mh
theorem B1 {F:Fn}{Q:V->St->Prop}{X:XP}:eS F Q X=fun us st=>F us (dM Q st) X st.mh:=rfl
noncomputable def af (F:Fn) (Ts:List TE):TE:=fun Q X st=>bh Ts (eS F Q X) X st
theorem qE {F:Fn}{Ts:List TE}{Q:V->St->Prop}{X:XP}{st:St}:af F Ts Q X st=bh Ts (fun us st=>F us (fun v mh=>Q v { st with mh:=mh }) X st.mh) X st:=by unfold af;rw[B1];rfl
noncomputable def eT (F:Nat->Fn) (r:St->Nat) (Ts:List TE):TE:=fun Q X st=>bh Ts (eS (F (r st)) Q X) X st
noncomputable def d8 (mh:MH) (v:V) (k:Nat->List (String × V)->Prop):Prop:=match v with
|.obj C fs=>k C fs
|.ref l=>(match mh.m l with|some (.inst C fs)=>k C fs|_=>False)
|_=>False
noncomputable def aF (C:Nat) (F:Fn) (To:TE) (Ts:List TE):TE:=fun Q X st=>To (fun o st=>d8 st.mh o (fun C' ω=>C'=C/\bh Ts (fun us st=>F (o::us) (fun v mh=>Q v { st with mh:=mh }) X st.mh) X st)) X st
noncomputable def jM (K:Frag) (C:Nat) (n:String) (f:Addr):Bool:=plainGet K C (U0 n) && findIn K (.ref C) (U0 n) == some (some (.ref f)) && isFn K (.ref f) && keepIn K (.ref f) && !cM C n
section
variable {p p':Pos}{l:List Expr}{Ts:List TE}{f:Addr}{F:Fn}{n:String}{C:Nat}
variable {x:Cx}
theorem Cx.Es.plain (h:x.Es l Ts):(backTo p (starEach l x.env)).any (fun q=>q.1)=false:=by
 induction h with
|nil=>rfl
|cons _ hs _ ih=>
  rw[hs];show(false || (backTo p (starEach _ x.env)).any (fun q=>q.1))=false;rw[ih];rfl
theorem nJ {f:Value}(h:x.Es l Ts):x.J (evalArgs f true (backTo p (starEach l x.env)) []) (fun c (a:Args) us=>Rs c a.pos us/\a.kw=[]) (bh Ts):=fun Q X st hT c s R=>by
 have e:=(li (p:=p) h) Q X st hT c s R;have up:wpAny x.W.M x.A (spliced (backTo p (starEach l x.env))) (fun vs s'=>x.Po (fun c (a:Args) us=>Rs c a.pos us/\a.kw=[]) Q c s ⟨vs,[]⟩ s') (x.EX X c s) s:=
  AAB e (fun vs s' ⟨c',b,st',g,w,r,hr,q⟩=>⟨c',b,st',g,w,r,⟨hr,rfl⟩,q⟩) fun ω ω z=>z
 cases h with
|nil=>
  refine evalArgs_nil3 ?_;cases Ts_eq:([]:List TE)with
 |nil=>exact bK R (SW.refl s) ⟨Rs.nil c,rfl⟩ hT
 |cons=>cases Ts_eq
|cons he hs hr=>
  rw[hs]at up ⊢;exact evalArgs_plain up
theorem uT {f:Value}{first:List Value}{fu:List V}(hk:keepIn (KF x.W.w.params) f=true) (hC:x.C f F) (h:x.Es l Ts) {Q:V->St->Prop}{X:XP}{st:St}{c:Cfg}{s:Shared}
  (R:Rel x c st s.heap) (rf:Rs c first fu) (hT:bh Ts (fun us st=>F (fu++us) (fun v mh=>Q v { st with mh:=mh }) X st.mh) X st) :
  wpAny x.W.M x.A (callWith p f first (backTo p (starEach l x.env)) []) (x.Po vR Q c s) (x.EX X c s) s:=by
 refine callWith_of (by rw[h.plain];rfl) (keeps_K hk) ((nJ (p:=p) (f:=f) h).go hT R fun a us c1 st1 s1 g1 w1 R1 r1 h1=>⟨R1.inK,?_⟩);obtain⟨ra,ka⟩:=r1;rw[ka];exact dQ g1 w1 (Rt.call (hC _ Q X st1 h1 c1 s1 _ R1 ((rf.gr g1).append ra)))
theorem qF {n:Str}(e:nsIn (KF x.W.w.params) mainGlobals n=some (some (.ref f))) (hk:keepIn (KF x.W.w.params) (.ref f)=true) (hx:x.env.kindOf n=some .globalImplicit)
  (hC:x.C (.ref f) F) (h:x.Es l Ts) (hd:autoParam ((n == ("__debug__":Str))=false) tD)
  (he:autoParam (eval (.Call (.Name n p') l [] p) x.env=(do callWith p (<- eval (.Name n p') x.env) [] (backTo p (starEach l x.env)) (backToKw p (keywordEach [] x.env)))) tR):x.E (.Call (.Name n p') l [] p) (af F Ts):=fun Q X st hT c s R=>by
 refine Call_ ?_ he;have z9:=R.fm;have hk':=z9.1;have hg:=z9.2.1;clear z9;refine Name_function_global hk' hx (loadGlobal_global (mg:=x.W.mg) ?_ (mg_of x.W.K x.W.g e) ?_) hd
 ·rw[hg];exact x.W.g.keeps R.base
 ·exact uT (fu:=[]) hk hC h R (Rs.nil c) (Eq.mp qE hT)
theorem B2 {n:Str}{F:Nat->Fn}{r:St->Nat}(e:nsIn (KF x.W.w.params) mainGlobals n=some (some (.ref f))) (hk:keepIn (KF x.W.w.params) (.ref f)=true) (hx:x.env.kindOf n=some .globalImplicit)
  (hC:∀ r,x.C (.ref f) (F r)) (h:x.Es l Ts) (hd:autoParam ((n == ("__debug__":Str))=false) tD)
  (he:autoParam (eval (.Call (.Name n p') l [] p) x.env=(do callWith p (<- eval (.Name n p') x.env) [] (backTo p (starEach l x.env)) (backToKw p (keywordEach [] x.env)))) tR):x.E (.Call (.Name n p') l [] p) (eT F r Ts):=fun Q X st hT c s R=>
 qF e hk hx (hC (r st)) h hd he Q X st hT c s R
theorem B3 (ho:cM C n=false) {fs:List (String × V)}(h:fs.all (fun f=>cM C f.1)=true):fs.lookup n=none:=
 Option.eq_none_iff_forall_ne_some.mpr fun ω e=>nomatch ho.symm.trans (uP h e)
theorem B4 {c:Cfg}{st:St}{s:Shared}{v:Value}{o:V}{k:Nat->List (String × V)->Prop}{pl:Sem Bool}{Q:Value × List Value->Shared->Prop}{E:Value->Shared->Prop}(R:Rel x c st s.heap) (r:c.R v o) (hm:jM (KF x.W.w.params) C n f=true)
  (h:d8 st.mh o k) (hC:∀ C' fs,k C' fs->C'=C) (q:(∃ C' fs,k C' fs)->Q (.ref f,[v]) s):wpAny x.W.M x.A (getMethod v (U0 n) pl) Q E s:=by
 unfold jM at hm;simp only[U3,beq_iff_eq,Bool.not_eq_true']at hm;obtain⟨⟨⟨⟨m1,m2⟩,m3⟩,m4⟩,m5⟩:=hm;have fin:∀ {a dx:Addr}{es:List DictEntry}{nn:Nat}{fs:List (String × V)},s.heap.get? a=some (instObj C dx)->s.heap.get? dx=some (dictOf es nn)->Fs c es fs->fs.all (fun f=>cM C f.1)=true->Q (.ref f,[.ref a]) s->
   wpAny x.W.M x.A (getMethod (.ref a) (U0 n) pl) Q E s:=fun {a dx es nn fs} h1 h2 hf ho hq=>by
  refine method_fn R.inK (nE h1 h2) (plainGet_of m1).1 (plainGet_of m1).2 m2 (beq_iff_eq.mp m3) ?_ hq;show(lookIn (U0 n) (dictOf es nn)).map _=_;rw[lookIn_dict,(hf.getL (n:=n)).2 (B3 m5 ho)];rfl
 unfold d8 at h;rcases o with _|_|_|_|_|_|_|_|_|_<;>try exact h.elim
 ·obtain⟨a,dx,es,nn,rfl,h1,h2,h0,h3,h4,h5⟩:=VR.inv r
  ·obtain rfl:=hC _ _ h;exact fin (R.kn h1) (R.kn h2) ⟨h3,h4,h5⟩ h0 (q ⟨_,_,h⟩)
 ·dsimp only at h;generalize e:st.mh.m _=o at h;rcases o with _|(⟨C',fs⟩|_|_|_)<;>try exact h.elim
  ·obtain⟨a,rfl,ha⟩:=eO r;obtain⟨a',dx,es,nn,h1,h2,h3,h4,h5,h6,h7,h8,_⟩:=R.mo e;obtain rfl:=U1 (ha.symm.trans h1);obtain rfl:=hC _ _ h;exact fin h5 h6 h7 h8 (q ⟨_,_,h⟩)
theorem B5 {o:Expr}{To:TE}{pl:Sem Bool}(hm:jM (KF x.W.w.params) C n f=true) (ho:x.E o To) (hC:x.C (.ref f) F) (h:x.Es l Ts)
  (he:autoParam (eval (.Call (.Attribute o (U0 n) p') l [] p) x.env=(do
   let ov <- eval o x.env
   standAt p'.atName
   let (f,first) <- holding [ov] (getMethod ov (U0 n) pl)
   callWith p f first (backTo p (starEach l x.env)) (backToKw p (keywordEach [] x.env)))) tU):x.E (.Call (.Attribute o (U0 n) p') l [] p) (aF C F To Ts):=fun Q X st hT c s R=>by
 refine methodCall_KW (ho.go hT R fun v u c1 st1 s1 g1 w1 R1 r1 h1=>?_) he;refine B4 R1 r1 hm h1 (fun C' fs q=>q.1) fun ⟨C',fs,hq⟩=>dQ g1 w1 ?_
 have hk:keepIn (KF x.W.w.params) (.ref f)=true:=by
  unfold jM at hm;simp only[U3]at hm;exact hm.1.2
 exact uT (first:=[v]) (fu:=[u]) hk hC h R1 (Rs.cons r1 (Rs.nil c1)) hq.2
end
noncomputable def frz (mh:MH) (v:V) (k:V->MH->Prop):Prop:=match v with
|.ref l=>(match mh.m l with
  |some (.inst C fs)=>k (.obj C fs) (mh.drop l)
  |some (.list xs)=>k (.lst xs) (mh.drop l)
  |some (.arr xs)=>False
  |some (.dict es)=>k (.dct es) (mh.drop l)
  |none=>False)
|_=>False
open Classical in
noncomputable def Cfg.frz (c:Cfg) (h:Heap) (l:aT):Cfg:={ c with kn:=fun a o=>c.kn a o\/(c.own a=some l/\h.get? a=some o),own:=fun a=>if c.own a=some l then none else c.own a }
theorem Gr.frz (c:Cfg) (h:Heap) (l:aT):Gr c (c.frz h l):=⟨fun ω ω h=>.inl h,fun ω ω h=>h⟩
theorem RelH.frz {W:Wd}{fms:bU}{prot:List (Addr × Obj)}{c:Cfg}{mh:MH}{h:Heap}(x:RelH W fms prot c mh h) (l:aT):RelH W fms prot (c.frz h l) (mh.drop l) h:=by
 have on:∀ a,c.own a=none->(c.frz h l).own a=none:=fun a e=>by simp[Cfg.frz,e]
 have oo:∀ a l',l'≠l->c.own a=some l'->(c.frz h l).own a=some l':=fun a l' n e=>by
  show(if c.own a=some l then none else c.own a)=some l';rw[if_neg (by rw[e];exact fun z=>n (U1 z))];exact e
 have nk:∀ a,c.own a=none->(∀ o,¬ c.kn a o)->∀ o,¬ (c.frz h l).kn a o:=fun a e n o z=>by
  rcases z with z|⟨z,_⟩
  ·exact n o z
  ·rw[e]at z;cases z
 refine⟨fun a o e=>.inl (x.base a o e),?_,?_,?_,?_,x.dist,?_,?_,x.nxt⟩
 ·rintro a o (e|e)
  ·exact x.kn a o e
  ·exact e.2
 ·rintro a o (e|e)
  ·exact on a (x.free a o e)
  ·show(if c.own a=some l then none else c.own a)=none;rw[if_pos e.1]
 ·intro a l' e;have e:(if c.own a=some l then none else c.own a)=some l':=e
  split at e
  ·cases e
  ·exact x.live a l' e
 ·intro f hf;obtain⟨L,h1,h2,h3,h4,h5,h6,h7,h8⟩:=(x.frs f hf).ex;exact⟨L,h1,h2,h3,h4,h5,h6,on L h7,nk L h7 h8⟩
 ·intro p hp;obtain⟨a,b,d,e⟩:=x.pr p hp;exact⟨a,on _ b,nk _ b d,e⟩
 ·intro l' o e;by_cases q:l'=l
  ·simp only[MH.drop,if_pos q]at e;cases e
  ·simp only[MH.drop,if_neg q]at e;exact(x.mo l' o e).keep (Gr.frz c h l) (fun a=>oo a l' q) fun ω ω ω e=>e
section
variable {x:Cx}
theorem B6 {c:Cfg}{st:St}{h:Heap}{v:Value}{o:V}{k:V->MH->Prop}(R:Rel x c st h) (r:c.R v o) (hf:frz st.mh o k):∃ c' u mh',Gr c c'/\Rel x c' { st with mh:=mh' } h/\c'.R v u/\k u mh':=by
 unfold frz at hf;rcases o with _|_|_|_|_|_|_|_|l|_<;>try exact hf.elim
 ·dsimp only at hf;obtain⟨a,rfl,ha⟩:=eO r;obtain⟨m,pc,rr,lr,pr⟩:=id R;have g:=Gr.frz c h l;have R':Rel x (c.frz h l) { st with mh:=st.mh.drop l } h:=⟨m,pc,rr.frz l,lr.gr g,pr⟩;generalize e:st.mh.m l=o at hf;rcases o with _|⟨C,fs⟩|xs|xs|es
  ·exact hf.elim
  ·obtain⟨a',dx,es,n,h1,h2,h3,h4,h5,h6,h7,h8,_⟩:=R.mo e;obtain rfl:=U1 (ha.symm.trans h1);have q:=h7.gr g;exact⟨_,_,_,g,R',.obj a C dx es n fs (.inr ⟨h2,h5⟩) (.inr ⟨h3,h6⟩) h8 q.1 q.2.1 q.2.2,hf⟩
  ·obtain⟨a',vs,n,h1,h2,h3,h4⟩:=R.mo e;obtain rfl:=U1 (ha.symm.trans h1);exact⟨_,_,_,g,R',Rs.lst (.inr ⟨h2,h3⟩) ⟨rfl,rfl,rfl⟩ rfl (h4.gr g),hf⟩
  ·exact hf.elim
  ·obtain⟨a',es',n,h1,h2,h3,h5,h4⟩:=R.mo e;obtain rfl:=U1 (ha.symm.trans h1);have q:=h4.gr g;exact⟨_,_,_,g,R',.dct a es' n es (.inr ⟨h2,h3⟩) h5 q.1 q.2.1 q.2.2,hf⟩
noncomputable def cw (C:Nat) (F:Fn) (r:Nat):Fn:=fun us Q X mh=>F (.ref (r,mh.nx r)::us) (fun v mh'=>v=.none/\Q (.ref (r,mh.nx r)) mh') X (mh.new r (.inst C []))
noncomputable def dN (C:Nat) (F:Fn):Fn:=fun us Q X mh=>cw C F 0 us (fun v mh'=>frz mh' v Q) X mh
noncomputable def Cx.under (x:Cx) (C:Nat) (vs:List Value):Cx:={ x with A:=x.A.under (.builtin "type.__call__" ⟨.ref C::vs,[]⟩),n:=x.n - 1 }
theorem cZ (ok:x.Ok) (hn:1<=x.n) {C:Nat}{vs:List Value}:(x.under C vs).Ok:=by
 have hw:(Code.builtin "type.__call__" ⟨.ref C::vs,[]⟩).weight<=10:=by
  have:Code.weight (.builtin "type.__call__" ⟨.ref C::vs,[]⟩)=1:=by rfl
  lia
 have hu:(Code.builtin "type.__call__" ⟨.ref C::vs,[]⟩).cUnits<=100:=by
  have:Code.cUnits (.builtin "type.__call__" ⟨.ref C::vs,[]⟩)<=10:=by first|decide|exact Y2 rfl
  (first|exact ba ‹_› rfl|lia)
 refine⟨ok.hnd,?_,?_,?_⟩
 ·have e:(x.under C vs).A.frames=pushEnvs (Code.envs (.builtin "type.__call__" ⟨.ref C::vs,[]⟩)) x.A.frames:=rfl;have:(Code.builtin "type.__call__" ⟨.ref C::vs,[]⟩).envs=[]:=by rfl
  rw[e,this];exact ok.fr
 ·have h1:=ok.d;show x.A.depth+Code.weight _+10 * (x.n - 1)<=999
  lia
 ·have h1:=ok.u;show x.A.units+Code.cUnits _+100 * (x.n - 1)<=9799
  lia
structure MakeOk (K:Frag) (C:Nat) (fI:Addr):Prop where
 m:makesIn K C=true
 i:findIn K (.ref C) "__init__"=some (some (.ref fI))
 t:typeIn K (.ref fI)=some (.type "function")
 k:keepIn K (.ref C)=true
theorem dq {C:Nat}{fI:Addr}(M:MakeOk (KF x.W.w.params) C fI) {F:Fn}(hC:∀ vs,(x.under C vs).C (.ref fI) F) (r:Nat):x.C (.ref C) (cw C F r):=by
 intro us Q X st hF c s vs R rvs;obtain⟨hh,gn,dr,tk,os⟩:=s;have X0:=R.inK;dsimp only at R X0;refine make_core (makes_of X0 M.m) (looks_findIn X0 M.i) (fun self=>bind_fn X0 self M.t) (.inl rfl) ?_;have z9:=id R;refine z9.elim fun m z0=>?_;refine z0.elim fun pc z1=>?_;have rr:=z1.1;have lr:=z1.2.1;have pr:=z1.2.2;clear z1 z0 z9
 have kp:∀ b o,hh.get? b=some o->((hh.push emptyDict).push (instObj C hh.objs.size)).get? b=some o:=fun b o e=>AAG _ (AAG _ e)
 have hd:((hh.push emptyDict).push (instObj C hh.objs.size)).get? hh.objs.size=some emptyDict:=AAG _ (AAH _ rfl);have hx:((hh.push emptyDict).push (instObj C hh.objs.size)).get? (hh.objs.size+1)=some (instObj C hh.objs.size):=by
  have:=AAH (h:=hh.push emptyDict) (o:=instObj C hh.objs.size) rfl
  rwa [AAK]at this
 let as:Addr->Prop:=fun b=>b=hh.objs.size\/b=hh.objs.size+1
 have e1:(c.label (r,st.mh.nx r) (hh.objs.size+1) as).adr (r,st.mh.nx r)=some (hh.objs.size+1):=if_pos rfl;have e2:(c.label (r,st.mh.nx r) (hh.objs.size+1) as).own (hh.objs.size+1)=some (r,st.mh.nx r):=by simp[Cfg.label,as]
 have e3:(c.label (r,st.mh.nx r) (hh.objs.size+1) as).own hh.objs.size=some (r,st.mh.nx r):=by simp[Cfg.label,as]
 obtain⟨r',g'⟩:=rr.label (h':=(hh.push emptyDict).push (instObj C hh.objs.size)) kp r (.inst C []) (hh.objs.size+1) as
  (fun b hb=>by
   rcases hb with rfl|rfl
   ·exact⟨AAI (Y3 _),_,hd,fun vs=>by simp⟩
   ·exact⟨AAI (Y7 _),_,hx,fun vs=>by simp⟩)
  ⟨_,_,[],0,e1,e2,e3,Y1 (Y5 _),hx,hd,Fs.nil _,rfl,Z0 _⟩
 have R':Rel (x.under C vs) (c.label (r,st.mh.nx r) (hh.objs.size+1) as) { st with mh:=st.mh.new r (.inst C []) } ((hh.push emptyDict).push (instObj C hh.objs.size)):=⟨m,pc,r',lr.gr g',pr⟩;refine AAF (hC vs (.ref (r,st.mh.nx r)::us) (fun v st'=>v=.none/\Q (.ref (r,st.mh.nx r)) st') X { st with mh:=st.mh.new r (.inst C []) } hF _ ⟨_,gn,dr,tk,os⟩ _ R' (Rs.cons (.ref _ _ e1) (rvs.gr g'))) fun res s' z=>?_
 rcases res with e|(_|_|_|_)
 ·obtain⟨c2,cls,mh2,m2,pc2,ea,L,g2,w2,z,z1,z2,z3,z4⟩:=z;exact⟨c2,cls,mh2,m2,pc2,ea,L,g'.trans g2,⟨w2.gens,w2.drawn,w2.os⟩,z,z1,z2,z3,z4⟩
 all_goals first|exact z.elim|skip
 obtain⟨c2,b,st2,g2,w2,R2,rb,rfl,hq⟩:=z;exact⟨nr rb,c2,_,st2,g'.trans g2,⟨w2.gens,w2.drawn,w2.os⟩,R2,.ref _ _ (g2.adr _ _ e1),hq⟩
theorem dS {f:Value}{F:Fn}(h:x.C f F):x.C f (fun us Q X mh=>F us (fun v mh'=>frz mh' v Q) X mh):=fun us Q X st hF c s vs R rvs=>
 AAF (h us (fun v st'=>frz st'.mh v fun u mh=>Q u { st' with mh:=mh }) X st hF c s vs R rvs) fun res s' z=>by
  rcases res with e|(_|_|_|_)
  ·exact z
  all_goals first|exact z.elim|skip
  obtain⟨c2,b,st2,g2,w2,R2,rb,hq⟩:=z;obtain⟨c3,u,mh3,g3,R3,r3,hk⟩:=B6 R2 rb hq;exact⟨c3,u,_,g2.trans g3,w2,R3,r3,hk⟩
end
theorem RelH.reprot {W:Wd}{fms:bU}{pc os os' prot:List (Addr × Obj)}{c:Cfg}{mh:MH}{h h':Heap}(r:RelH W fms (pc++(os++prot)) c mh h)
  (k:∀ b o,b ∉ os.map (fun q=>q.1)->h.get? b=some o->h'.get? b=some o) (k':∀ p∈os',h'.get? p.1=some p.2/\p.1∈os.map (fun q=>q.1)) (nd:(os'.map (fun q=>q.1)).Nodup) :
  RelH W fms (pc++(os'++prot)) c mh h':=by
 have no:∀ a,a∈os.map (fun q=>q.1)->c.own a=none/\(∀ o,¬ c.kn a o)/\∀ f∈fms,f.1.locals≠a:=fun a ha=>by
  obtain⟨p,hp,rfl⟩:=V5.mp ha;exact(r.pr p (U7 _ (U8 _ hp))).2
 have hn:=r.dist.2;rw[V2,V2,V7,V7]at hn;obtain⟨n1,⟨n2,n3,n4⟩,n5⟩:=hn;have sub:∀ a,a∈os'.map (fun q=>q.1)->a∈os.map (fun q=>q.1):=fun a ha=>by
  obtain⟨p,hp,rfl⟩:=V5.mp ha;exact(k' p hp).2
 refine⟨r.base,fun a o e=>k a o (fun z=>(no a z).2.1 o e) (r.kn a o e),r.free,?_,?_,⟨r.dist.1,?_⟩,?_,?_,r.nxt⟩
 ·intro a l e;obtain⟨o,q,z⟩:=r.live a l e;exact⟨o,k a o (fun w=>by rw[(no a w).1]at e;cases e) q,z⟩
 ·intro f hf;exact(r.frs f hf).keeps fun L hL o e=>k L o (fun w=>(no L w).2.2 f hf hL) e
 ·rw[V2,V2,V7,V7];refine⟨n1,⟨nd,n3,fun a ha=>n4 a (sub a ha)⟩,fun a ha b hb=>n5 a ha b ?_⟩;rcases U5.mp hb with hb|hb
  ·exact U8 _ (sub b hb)
  ·exact U7 _ hb
 ·intro p hp;rcases U5.mp hp with hp|hp
  ·obtain⟨a,b⟩:=r.pr p (U8 _ hp);exact⟨k _ _ (fun z=>n5 p.1 (V5.mpr ⟨p,hp,rfl⟩) p.1 (U8 _ z) rfl) a,b⟩
  ·rcases U5.mp hp with hp|hp
   ·obtain⟨a,b⟩:=k' p hp;exact⟨a,no _ b⟩
   ·obtain⟨a,b⟩:=r.pr p (U7 _ (U7 _ hp));exact⟨k _ _ (fun z=>n4 p.1 z p.1 (V5.mpr ⟨p,hp,rfl⟩) rfl) a,b⟩
 ·intro l o e;exact(r.mo l o e).keep (Gr.refl c) (fun ω h=>h) fun a ob ha q=>k a ob (fun w=>by rw[(no a w).1]at ha;cases ha) q
theorem RelH.protect {W:Wd}{fms:bU}{pc os prot:List (Addr × Obj)}{c:Cfg}{mh:MH}{h h':Heap}(r:RelH W fms (pc++prot) c mh h) (k:∀ b o,h.get? b=some o->h'.get? b=some o)
  (ho:∀ p∈os,h'.get? p.1=some p.2/\h.get? p.1=none) (nd:(os.map (fun q=>q.1)).Nodup):RelH W fms (pc++(os++prot)) c mh h':=by
 have r':=r.keeps k;have hn:=r.dist.2;rw[V2,V7]at hn;obtain⟨n1,n2,n3⟩:=hn;refine⟨r'.base,r'.kn,r'.free,r'.live,r'.frs,⟨r'.dist.1,?_⟩,?_,r'.mo,r'.nxt⟩
 ·rw[V2,V2,V7,V7];refine⟨n1,⟨nd,n2,fun a ha b hb=>?_⟩,fun a ha b hb=>?_⟩
  ·obtain⟨p,hp,rfl⟩:=V5.mp ha;obtain⟨q,hq,rfl⟩:=V5.mp hb;exact fun e=>(r.fresh (ho p hp).2).pr q (U7 _ hq) e.symm
  ·rcases U5.mp hb with hb|hb
   ·obtain⟨p,hp,rfl⟩:=V5.mp hb;obtain⟨q,hq,rfl⟩:=V5.mp ha;exact fun e=>(r.fresh (ho p hp).2).pr q (U8 _ hq) e
   ·exact n3 a ha b hb
 ·intro p hp;rcases U5.mp hp with hp|hp
  ·exact r'.pr p (U8 _ hp)
  ·rcases U5.mp hp with hp|hp
   ·have f:=r.fresh (ho p hp).2;exact⟨(ho p hp).1,f.own,f.kn,f.fr⟩
   ·exact r'.pr p (U7 _ hp)
noncomputable def Cx.pt (x:Cx) (os:List (Addr × Obj)):Cx:={ x with prot:=os++x.prot }
theorem Cx.Ok.pt {x:Cx}(ok:x.Ok) (os:List (Addr × Obj)):(x.pt os).Ok:=⟨ok.hnd,ok.fr,ok.d,ok.u⟩
section
variable {os:List (Addr × Obj)}{c:Cfg}{h:Heap}
variable {x:Cx}
theorem Rel.reprot {os':List (Addr × Obj)}{st:St}{h':Heap}(R:Rel (x.pt os) c st h)
  (k:∀ b o,b ∉ os.map (fun q=>q.1)->h.get? b=some o->h'.get? b=some o) (k':∀ p∈os',h'.get? p.1=some p.2/\p.1∈os.map (fun q=>q.1)) (nd:(os'.map (fun q=>q.1)).Nodup):Rel (x.pt os') c st h':=
 by obtain⟨m,pc,r,l,p⟩:=R;exact⟨m,pc,RelH.reprot r k k' nd,l,p⟩
theorem Rel.protect {st:St}{h':Heap}(R:Rel x c st h) (k:∀ b o,h.get? b=some o->h'.get? b=some o)
  (ho:∀ p∈os,h'.get? p.1=some p.2/\h.get? p.1=none) (nd:(os.map (fun q=>q.1)).Nodup):Rel (x.pt os) c st h':=
 by obtain⟨m,pc,r,l,p⟩:=R;exact⟨m,pc,r.protect k ho nd,l,p⟩
theorem Rel.unprot {st:St}(R:Rel (x.pt os) c st h):Rel x c st h:=
 Rel.reprot (os':=[]) R (fun ω ω ω e=>e) (fun p hp=>nomatch hp) W1
theorem EX.unprot {X:XP}{s s':Shared}{e:Value}(h:(x.pt os).EX X c s e s'):x.EX X c s e s':=by
 obtain⟨c',cls,mh,m,pc,ea,L,g,w,he,hL,r,⟨oe,vs,a0,e1,e2,e3,e4,e5,e6⟩,hX⟩:=h;have r':RelH x.W ((x.env,m)::x.fms) (pc++([]++x.prot)) c' mh s'.heap:=RelH.reprot (os:=os) r (fun ω ω ω e=>e) (fun p hp=>nomatch hp) W1;have fm:∀ {a:Addr},FreeA ((x.env,m)::x.fms) (pc++(os++x.prot)) c' a->FreeA ((x.env,m)::x.fms) (pc++x.prot) c' a:=fun q=>q.mono (fun f hf=>hf) fun p hp=>by
  rcases U5.mp hp with hp|hp
  ·exact U8 _ hp
  ·exact U7 _ (U7 _ hp)
 refine⟨c',cls,mh,m,pc,ea,L,g,w,he,hL,r',⟨oe,vs,a0,e1,e2,e3,e4,fm e5,?_⟩,hX⟩;rcases e6 with ⟨q1,q2⟩|⟨T,oT,ts,fl,q1,q2,q3,q4,q5,q6,q7⟩
 ·exact .inl ⟨q1,q2⟩
 ·exact .inr ⟨T,oT,ts,fl,q1,q2,q3,q4,q5,fm q6,q7⟩
theorem qG (ok:x.Ok) (hre:bV x.env=true) {X:XP}{c:Cfg}{s s':Shared}{e:Value}(h:x.EX X c s e s'):notedBy x.W.M x.A x.env (fun e s'=>cameBackBy x.W.M x.A x.env (x.EX X c s) e s') e s':=by
 obtain⟨c',cls,mh,m,pc,ea,L,g,w,rfl,hL,r,ex,hX⟩:=h;unfold notedBy;have hfy:x.A.frames=some (dp ((x.env,m)::x.fms)):=ok.fr;refine qs hfy rfl hre r hL ex fun h' r' ex'=>?_
 unfold cameBackBy;have fin:wpAny x.W.M x.A (setFlight (.ref ea) x.env.frame) (fun ω s''=>x.EX X c s (.ref ea) s'') (x.EX X c s) { s' with heap:=h' }:=by
  refine nh (s:={ s' with heap:=h' }) r' ex' (fun fl q=>by rw[q];exact fun z=>nomatch z) fun h'' r'' ex''=>?_
  refine⟨c',cls,mh,m,pc,ea,L,g,⟨w.gens,w.drawn,w.os⟩,rfl,hL,r'',?_,hX⟩;rw[hL]at ex'';obtain⟨oe,vs,a0,e1,e2,e3,e4,e5,e6⟩:=ex'';refine⟨oe,vs,a0,e1,e2,e3,e4,e5,?_⟩;rcases e6 with ⟨q1,q2⟩|⟨T,oT,ts,fl,q1,q2,q3,q4,q5,q6,q7⟩
  ·cases q2
  ·exact .inr ⟨T,oT,ts,fl,q1,q2,q3,q4,q5,q6,.inr (.inr q7)⟩
 obtain⟨oe,vs,a0,e1,e2,e3,e4,e5,⟨q1,q2⟩|⟨T,oT,ts,fl,q1,q2,q3,q4,q5,q6,q7⟩⟩:=ex'
 ·cases q2
 ·refine Z9 (wpAny_field e1 e3 q1 ?_);rw[if_neg (show ¬ ((Value.ref T == Value.none)=true)from U2)];exact fin
structure ItrP (x:Cx) (it:Value) (xs:List V) (chk:MH->Prop) (c0:Cfg) (P:Nat->List (Addr × Obj)->Prop):Prop where
 step:∀ (i:Nat) (os:List (Addr × Obj)) (c:Cfg) (mh:MH) (s:Shared) (fms:bU) (pc prot:List (Addr × Obj)),i<=xs.length->P i os->Gr c0 c->chk mh->RelH x.W fms (pc++(os++prot)) c mh s.heap->
  ∀ (Q:Option Value->Shared->Prop) (E:Value->Shared->Prop),
  (∀ v u os' h' tk c',xs[i]?=some u->Gr c c'->c'.R v u->P (i+1) os'->RelH x.W fms (pc++(os'++prot)) c' mh h'->Q (some v) { s with heap:=h',toks:=tk })->
  (xs.length<=i->∀ h',RelH x.W fms (pc++prot) c mh h'->Q none { s with heap:=h' })->wpAny x.W.M x.A (pyNext it) Q E s
 self:∀ (os:List (Addr × Obj)) (s:Shared),P 0 os->(∀ p∈os,s.heap.get? p.1=some p.2)->∀ (Q:Value->Shared->Prop) (E:Value->Shared->Prop),Q it s->wpAny x.W.M x.A (pyIter it) Q E s
noncomputable abbrev TI:=Tr (List V × (MH->Prop))
inductive Cx.ItP (x:Cx) (Q:(List V × (MH->Prop))->St->Prop) (c:Cfg) (s:Shared) (it:Value) (s2:Shared):Prop
|mk (c':Cfg) (xs:List V) (chk:MH->Prop) (st':St) (P:Nat->List (Addr × Obj)->Prop) (os:List (Addr × Obj)):Gr c c'->SW s s2->Q (xs,chk) st'->ItrP x it xs chk c' P->P 0 os->Rel (x.pt os) c' st' s2.heap->Cx.ItP x Q c s it s2
noncomputable def Cx.I (x:Cx) (e:Expr) (T:TI):Prop:=∀ Q X st,T Q X st->∀ c s,Rel x c st s.heap->
 wpAny x.W.M x.A (eval e x.env) (fun v s1=>wpAny x.W.M x.A (pyIter v) (x.ItP Q c s) (x.EX X c s) s1) (x.EX X c s) s
set_option tactic.hygienic true in
noncomputable def ck (chk:MH->Prop) (n:String) (Tb:TS):List V->TS
|[],Q,_,st=>chk st.mh/\Q .next st
|u::us,Q,X,st=>chk st.mh/\Tb (fun fl st'=>match fl with|.next=>ck chk n Tb us Q X st'|.ret v=>Q (.ret v) st') X (st.put n u)
noncomputable def cG (n:String) (T:TI) (Tb:TS):TS:=fun Q X st=>T (fun b st=>ck b.2 n Tb b.1 Q X st) X st
theorem B7 {chk:MH->Prop}{n:String}{Tb:TS}{us:List V}{Q:Fl->St->Prop}{X:XP}{st:St}(h:ck chk n Tb us Q X st):chk st.mh:=by
 cases us<;>exact h.1
inductive ForI (x:Cx) (c1:Cfg) (xs:List V) (chk:MH->Prop) (P:Nat->List (Addr × Obj)->Prop) (s2:Shared) (n:String) (Tb:TS) (Q:Fl->St->Prop) (X:XP) (k:Nat) (s':Shared):Prop
|mk (i:Nat) (os:List (Addr × Obj)) (c':Cfg) (st':St):k=xs.length - i->i<=xs.length->P i os->Gr c1 c'->SW s2 s'->Rel (x.pt os) c' st' s'.heap->ck chk n Tb (xs.drop i) Q X st'->ForI x c1 xs chk P s2 n Tb Q X k s'
set_option tactic.hygienic true in
theorem B8 (ok:x.Ok) (hre:bV x.env=true) {n:String}{iter:Expr}{body:List Stmt}{p p':Pos}{T:TI}{Tb:TS}(hI:x.I iter T) (hb:∀ os,(x.pt os).L body Tb) (hk:x.env.kindOf (U0 n)=some .local)
  (hs:autoParam (∀ v,foldedSetIterable iter x.env v=pure v) tI):x.S (.For (.Name (U0 n) p') iter body [] p) (cG n T Tb):=fun Q X st hT c s R=>by
 refine wpAny_For (AAB (hI _ X st hT c s R) (fun v s1 h1=>AAB h1 (fun it s2 h2=>?_) fun ω ω e=>e) fun ω ω e=>e) hs;obtain⟨c1,xs,chk,st1,P,os,g1,w1,hF,I,hP,R1⟩:=h2;refine codeAny_forLoop (ForI x c1 xs chk P s2 n Tb Q X) ?_
  xs.length ⟨0,os,c1,st1,rfl,Z0 _,hP,Gr.refl _,SW.refl _,R1,hF⟩
 rintro k s' ⟨i,os,c',st',rfl,hi,hP,g',w',R',hF⟩;refine R'.elim fun m z0=>?_;refine z0.elim fun pc z1=>?_;have r':=z1.1;have lr':=z1.2.1;have pr':=z1.2.2;clear z1 z0 R'
 refine I.step i os c' st'.mh s' _ pc x.prot hi hP g' (B7 hF) r' _ _ (fun v u os' h' tk c'' hu g'' rv hP' r''=>?_) (fun hle h' r''=>?_)
 ·have R'':Rel (x.pt os') c'' st' h':=⟨m,pc,r'',lr'.gr g'',pr'⟩;have hlt:i < xs.length:=(W5.mp hu).1;have hd:xs.drop i=u::xs.drop (i+1):=by
   rw[List.drop_eq_getElem_cons hlt]
   congr 1
   exact(W5.mp hu).2
  rw[hd]at hF;have hF:=hF.2;refine AAD (jK (x:=x.pt os') (s:={ s' with heap:=h',toks:=tk }) R'' rv hk fun h2 R2=>?_);have w2:SW s { s' with heap:=h2,toks:=tk+1 }:=(w1.trans w').trans ⟨rfl,rfl,rfl⟩;have g2:Gr c c'':=(g1.trans g').trans g'';refine AAB (hb os' _ X _ hF c'' _ R2) (fun fl s3 p3=>?_) (fun e s3 p3=>?_)
  ·obtain⟨c3,b,st3,g3,w3,R3,rb,q3⟩:=p3;induction rb with
  |next=>exact⟨xs.length - (i+1),Nat.sub_lt_sub_left hlt (Y5 i),i+1,os',c3,st3,rfl,hlt,hP',(g'.trans g'').trans g3,(w'.trans (c:={ s' with heap:=h2,toks:=tk+1 }) ⟨rfl,rfl,rfl⟩).trans w3,R3,q3⟩
  |ret v v₀ rv=>exact⟨c3,.ret v₀,st3,g2.trans g3,w2.trans w3,R3.unprot,.ret v v₀ rv,q3⟩
  ·exact qG ok hre (EX.up g2 w2 (EX.unprot p3))
 ·have R'':Rel x c' st' h':=⟨m,pc,r'',lr',pr'⟩;have hd:xs.drop i=[]:=W7 hle;rw[hd]at hF;exact wpAny_execs_nil ⟨c',.next,st',g1.trans g',(w1.trans w').trans ⟨rfl,rfl,rfl⟩,R'',.next,hF.2⟩
set_option tactic.hygienic true in
noncomputable def ip (C:TB) (Tb:TS):Nat->TS
|0,_,_,_=>False
|k+1,Q,X,st=>C (fun b st=>if b then Tb (fun fl st'=>match fl with|.next=>ip C Tb k Q X st'|.ret v=>Q (.ret v) st') X st else Q .next st) X st
noncomputable def lj (C:TB) (Tb:TS):TS:=fun Q X st=>∃ k,ip C Tb k Q X st
set_option tactic.hygienic true in
theorem uU (ok:x.Ok) (hre:bV x.env=true) {test:Expr}{body:List Stmt}{p:Pos}{C:TB}{Tb:TS}(hc:x.B test C) (hb:x.L body Tb):x.S (.While test body [] p) (lj C Tb):=fun Q X st hT c s R=>by
 obtain⟨k,hT⟩:=hT;refine wpAny_While (codeAny_whileLoop (fun k s'=>∃ c' st',Gr c c'/\SW s s'/\Rel x c' st' s'.heap/\ip C Tb k Q X st') ?_ k ⟨c,st,Gr.refl c,SW.refl s,R,hT⟩);rintro k s' ⟨c',st',g',w',R',hT⟩;cases k with
|zero=>exact hT.elim
|succ k=>
  refine AAB (hc _ X _ hT c' s' R') (fun b s2 p2=>?_) (fun e s2 p2=>qG ok hre (EX.up g' w' p2));obtain⟨c2,b',st2,g2,w2,R2,rfl,hq⟩:=p2;induction b with
 |false=>exact wpAny_execs_nil ⟨c2,.next,st2,g'.trans g2,w'.trans w2,R2,.next,hq⟩
 |true=>
   refine AAB (hb _ X _ hq c2 s2 R2) (fun fl s3 p3=>?_) (fun e s3 p3=>qG ok hre (EX.up (g'.trans g2) (w'.trans w2) p3));obtain⟨c3,b,st3,g3,w3,R3,rb,q3⟩:=p3;induction rb with
  |next=>exact⟨k,Y5 _,c3,st3,(g'.trans g2).trans g3,(w'.trans w2).trans w3,R3,q3⟩
  |ret v v₀ rv=>exact⟨c3,.ret v₀,st3,(g'.trans g2).trans g3,(w'.trans w2).trans w3,R3,.ret v v₀ rv,q3⟩
end
noncomputable def Cx.D (x:Cx) (f:Value) (F:Fn):Prop:=∀ us Q X st,F us (fun v mh=>Q v { st with mh:=mh }) X st.mh->∀ c s vs,Rel x c st s.heap->Rs c vs us->
 wpAny x.W.M x.A (call f vs) (x.Po vR Q c s) (x.EX X c s) s
noncomputable def uV:Value->Bool
|.builtin _=>true
|.type _=>true
|_=>false
theorem eU {c:Cfg}{vs:List Value}{u:V}(r:Rs c vs [u]):∃ v,vs=[v]/\c.R v u:=by
 rcases vs with _|⟨v,vs⟩
 ·have:=r.1;simp at this
 ·cases vs with
 |nil=>exact⟨v,rfl,r.head⟩
 |cons=>have:=r.1;simp at this
theorem jd {c:Cfg}{vs:List Value}{u:V}{us:List V}(r:Rs c vs (u::us)):∃ v ws,vs=v::ws/\c.R v u/\Rs c ws us:=by
 rcases vs with _|⟨v,vs⟩
 ·have:=r.1;simp at this
 ·exact⟨v,vs,rfl,r.head,r.tail⟩
theorem iq {c:Cfg}{vs:List Value}{u u':V}(r:Rs c vs [u,u']):∃ v v',vs=[v,v']/\c.R v u/\c.R v' u':=by
 obtain⟨v,ws,rfl,a,b⟩:=jd r;obtain⟨v',rfl,b'⟩:=eU b;exact⟨v,v',rfl,a,b'⟩
theorem uW {c:Cfg}{vs:List Value}{u u' u'':V}(r:Rs c vs [u,u',u'']):∃ v v' v'',vs=[v,v',v'']/\c.R v u/\c.R v' u'/\c.R v'' u'':=by
 obtain⟨v,ws,rfl,a,b⟩:=jd r;obtain⟨v',v'',rfl,b,d⟩:=iq b;exact⟨v,v',v'',rfl,a,b,d⟩
theorem uX {c:Cfg}{v w:Value}(h:c.R v (.cst w)):v=w:=VR.inv h
noncomputable def bLen:Fn:=fun us Q X mh=>match us with
|[.lst xs]=>xs.length<=1000000/\Q (.int xs.length) mh
|[.ref l]=>(match mh.m l with
  |some (.list xs)=>xs.length<=1000000/\Q (.int xs.length) mh
  |some (.arr xs)=>xs.length<=1000000/\Q (.int xs.length) mh
  |_=>False)
|_=>False
noncomputable def bAbs:Fn:=fun us Q X mh=>match us with|[.int i]=>Q (.int (if i < 0 then -i else i)) mh|_=>False
noncomputable def bInt:Fn:=fun us Q X mh=>match us with|[.int i]=>Q (.int i) mh|_=>False
noncomputable def bMax2:Fn:=fun us Q X mh=>match us with|[.int a,.int b]=>Q (.int (if b > a then b else a)) mh|_=>False
noncomputable def bMin3:Fn:=fun us Q X mh=>match us with|[.int a,.int b,.int c]=>Q (.int (if b < a then(if c < b then c else b)else(if c < a then c else a))) mh|_=>False
noncomputable def bDivmod:Fn:=fun us Q X mh=>match us with|[.int a,.int b]=>b≠0/\b.natAbs < 1073741824/\Q (.tup [.int (a.fdiv b),.int (a.fmod b)]) mh|_=>False
noncomputable def bIs:Fn:=fun us Q X mh=>match us with
|[.int i,.cst t]=>(t=.type "int"/\Q (.bool true) mh)\/(t=.type "bool"/\Q (.bool false) mh)
|_=>False
noncomputable def bTuple:Fn:=fun us Q X mh=>match us with
|[.tup xs]=>Q (.tup xs) mh
|[.lst xs]=>xs.length<=10000/\Q (.tup xs) mh
|_=>False
noncomputable def bList:Fn:=fun us Q X mh=>match us with
|[.ref l]=>(match mh.m l with|some (.arr xs)=>xs.length<=10000/\Q (.lst xs) mh|_=>False)
|_=>False
noncomputable def ir:List V->Option (List Int)
|[]=>some []
|.int i::r=>(ir r).map (i::·)
|_::_=>none
noncomputable def bSum:Fn:=fun us Q X mh=>match us with
|[.lst xs]=>(match ir xs with|some ns=>Q (.int ns.sum) mh|none=>False)
|_=>False
theorem B9 {c:Cfg}{xs:List V}{vs:List Value}{ns:List Int}(r:Rs c vs xs) (h:ir xs=some ns):IntsAre vs ns:=by
 suffices H:∀ ns,ir xs=some ns->IntsAre vs ns from H ns h
 refine Rs.ind (fun ns h=>U1 h ▸ .nil) (fun v u vs us a ω ih ns h=>?_) r
 ·rcases u with _|_|i|_|_|_|_|_|_|_<;>try exact bO h
  obtain⟨ms,h1,h2⟩:=Option.map_eq_some_iff.mp (show(ir us).map (i::·)=some ns from h);obtain⟨t,rfl⟩:=bi a;exact h2 ▸ .cons _ _ (ih _ h1)
section
variable {c:Cfg}{h:Heap}
variable {x:Cx}
theorem Rel.lstL {st:St}(R:Rel x c st h) {v:Value}{xs:List V}(r:c.R v (.lst xs)):∃ a vs,v=.ref a/\h.IsList a vs.toArray/\Rs c vs xs:=by
 obtain⟨a,o,vs,n,rfl,h1,h2,h3,h4⟩:=lg r;exact⟨a,vs.toList,rfl,⟨o,R.kn h1,h2,n,by simpa using h3⟩,h4⟩
theorem Rel.tupL {st:St}(R:Rel x c st h) {v:Value}{xs:List V}(r:c.R v (.tup xs)):∃ a vs,v=.ref a/\h.IsTuple a vs.toArray/\Rs c vs xs:=by
 obtain⟨a,o,vs,n,rfl,h1,h2,h3,h4⟩:=qy r;exact⟨a,vs.toList,rfl,⟨o,R.kn h1,h2,n,by simpa using h3⟩,h4⟩
theorem Rel.refL {st:St}(R:Rel x c st h) {v:Value}{l:aT}{xs:List V}(r:c.R v (.ref l)) (e:st.mh.m l=some (.list xs)\/st.mh.m l=some (.arr xs)):∃ a vs,v=.ref a/\c.adr l=some a/\c.own a=some l/\h.IsList a vs.toArray/\Rs c vs xs:=by
 obtain⟨a,rfl,ha⟩:=eO r;rcases e with e|e
 ·obtain⟨a',vs,n,h1,h2,h3,h4⟩:=R.mo e;obtain rfl:=U1 (ha.symm.trans h1);exact⟨a,vs,rfl,ha,h2,⟨_,h3,rfl,n,rfl⟩,h4⟩
 ·obtain⟨a',o,vs,n,h1,h2,h3,h5,h6,h4⟩:=R.mo e;obtain rfl:=U1 (ha.symm.trans h1);exact⟨a,vs,rfl,ha,h2,⟨o,h3,h5,n,h6⟩,h4⟩
theorem uY {o:Obj}{es:Array DictEntry}{ep:Nat}(d1:o.cls=.type "dict"/\o.dict=none/\o.slots=#[]) (d4:o.data=(dictOf es.toList ep).data):o=dictOf es.toList ep:=by
 obtain⟨c1,c2,c3,c4⟩:=o;obtain⟨e1,e2,e3⟩:=d1;cases e1;cases e2;cases e3;cases d4;rfl
set_option tactic.hygienic true in
theorem ew:x.D (.builtin "len") bLen:=by
 intro us Q X st hF c s vs R r;have fin:∀ {a:Addr}{ws:List Value}{xs:List V},s.heap.IsList a ws.toArray->Rs c ws xs->xs.length<=1000000/\Q (.int xs.length) st->wpAny x.W.M x.A (call (.builtin "len") [.ref a]) (x.Po vR Q c s) (x.EX X c s) s:=by
  rintro a ws xs hl rs ⟨hz,hq⟩;have e:ws.length=xs.length:=rs.1;refine call_len_list hl (by simp only[U9];lia) (bK (st:=st) R ⟨rfl,rfl,rfl⟩ (.int _ _) ?_);simp only[U9,e];exact hq
 unfold bLen at hF;rcases us with _|⟨u1,us⟩<;>try exact hF.elim
 rcases u1 with _|_|_|_|_|_|_|_|_|_<;>try exact hF.elim
 all_goals rcases us with _|⟨u2,us⟩<;>try exact hF.elim
 ·obtain⟨v,rfl,rv⟩:=eU r;obtain⟨a,ws,rfl,hl,rs⟩:=R.lstL rv;exact fin hl rs hF
 ·obtain⟨v,rfl,rv⟩:=eU r;rename_i l;dsimp only at hF;generalize e:st.mh.m l=o at hF;rcases o with _|(_|_|_|_)<;>try exact hF.elim
  ·obtain⟨a,ws,rfl,_,_,hl,rs⟩:=R.refL rv (.inl e);exact fin hl rs hF
  ·obtain⟨a,ws,rfl,_,_,hl,rs⟩:=R.refL rv (.inr e);exact fin hl rs hF
theorem nK:x.D (.builtin "abs") bAbs:=by
 intro us Q X st hF c s vs R r;unfold bAbs at hF;rcases us with _|⟨u1,us⟩<;>try exact hF.elim
 rcases u1 with _|_|_|_|_|_|_|_|_|_<;>try exact hF.elim
 all_goals rcases us with _|⟨u2,us⟩<;>try exact hF.elim
 obtain⟨v,rfl,rv⟩:=eU r;obtain⟨t,rfl⟩:=bi rv;exact call_abs_int fun u tk=>bK (st:=st) R ⟨rfl,rfl,rfl⟩ (.int _ _) hF
theorem uZ:x.D (.type "int") bInt:=by
 intro us Q X st hF c s vs R r;unfold bInt at hF;rcases us with _|⟨u1,us⟩<;>try exact hF.elim
 rcases u1 with _|_|_|_|_|_|_|_|_|_<;>try exact hF.elim
 all_goals rcases us with _|⟨u2,us⟩<;>try exact hF.elim
 obtain⟨v,rfl,rv⟩:=eU r;obtain⟨t,rfl⟩:=bi rv;exact call_int_int (bK (st:=st) R ⟨rfl,rfl,rfl⟩ (.int _ _) hF)
theorem nL {p:Prop}[Decidable p] {v w:Value}{i j:Int}(h1:c.R v (.int i)) (h2:c.R w (.int j)):c.R (if p then v else w) (.int (if p then i else j)):=by
 by_cases h:p
 ·rwa [if_pos h,if_pos h]
 ·rwa [if_neg h,if_neg h]
theorem qH (ok:x.Ok):x.D (.builtin "max") bMax2:=by
 intro us Q X st hF c s vs R r;unfold bMax2 at hF;rcases us with _|⟨u1,us⟩<;>try exact hF.elim
 rcases u1 with _|_|_|_|_|_|_|_|_|_<;>try exact hF.elim
 all_goals rcases us with _|⟨u2,us⟩<;>try exact hF.elim
 rcases u2 with _|_|_|_|_|_|_|_|_|_<;>try exact hF.elim
 all_goals rcases us with _|⟨u3,us⟩<;>try exact hF.elim
 obtain⟨v,v',rfl,rv,rv'⟩:=iq r;obtain⟨t,rfl⟩:=bi rv;obtain⟨t',rfl⟩:=bi rv';dsimp only at hF;refine max_two_ints ok.hnd fun h' tk hk=>?_
 exact bK (st:=st) (R.keeps hk) ⟨rfl,rfl,rfl⟩ (nL (.int _ _) (.int _ _)) hF
theorem Ca (ok:x.Ok):x.D (.builtin "min") bMin3:=by
 intro us Q X st hF c s vs R r;unfold bMin3 at hF;rcases us with _|⟨u1,us⟩<;>try exact hF.elim
 rcases u1 with _|_|_|_|_|_|_|_|_|_<;>try exact hF.elim
 all_goals rcases us with _|⟨u2,us⟩<;>try exact hF.elim
 rcases u2 with _|_|_|_|_|_|_|_|_|_<;>try exact hF.elim
 all_goals rcases us with _|⟨u3,us⟩<;>try exact hF.elim
 rcases u3 with _|_|_|_|_|_|_|_|_|_<;>try exact hF.elim
 all_goals rcases us with _|⟨u4,us⟩<;>try exact hF.elim
 ·obtain⟨v,v',v'',rfl,rv,rv',rv''⟩:=uW r;obtain⟨t,rfl⟩:=bi rv;obtain⟨t',rfl⟩:=bi rv';obtain⟨t'',rfl⟩:=bi rv'';dsimp only at hF;refine min_three_ints ok.hnd fun h' tk hk=>?_
  exact bK (st:=st) (R.keeps hk) ⟨rfl,rfl,rfl⟩ (nL (nL (.int _ _) (.int _ _)) (nL (.int _ _) (.int _ _))) hF
theorem Cb:x.D (.builtin "divmod") bDivmod:=by
 intro us Q X st hF c s vs R r;unfold bDivmod at hF;rcases us with _|⟨u1,us⟩<;>try exact hF.elim
 rcases u1 with _|_|_|_|_|_|_|_|_|_<;>try exact hF.elim
 all_goals rcases us with _|⟨u2,us⟩<;>try exact hF.elim
 rcases u2 with _|_|_|_|_|_|_|_|_|_<;>try exact hF.elim
 all_goals rcases us with _|⟨u3,us⟩<;>try exact hF.elim
 ·obtain⟨v,v',rfl,rv,rv'⟩:=iq r;obtain⟨t,rfl⟩:=bi rv;obtain⟨t',rfl⟩:=bi rv';obtain⟨h1,h2,h3⟩:=hF;refine divmod_int h1 ?_ (.inl (PyProof.noPylong_small h2));obtain⟨R',g,k⟩:=R.push { cls:=.type "tuple",data:=.seq #[.int _ s.toks,.int _ (s.toks+1)] } rfl;exact aQ g R' ⟨rfl,rfl,rfl⟩ (Rs.tup (vs:=[.int _ _,.int _ _]) k rfl rfl (Rs.cons (.int _ _) (Rs.cons (.int _ _) (Rs.nil _)))) h3
theorem nM:x.D (.builtin "isinstance") bIs:=by
 intro us Q X st hF c s vs R r;unfold bIs at hF;rcases us with _|⟨u1,us⟩<;>try exact hF.elim
 rcases u1 with _|_|_|_|_|_|_|_|_|_<;>try exact hF.elim
 all_goals rcases us with _|⟨u2,us⟩<;>try exact hF.elim
 rcases u2 with _|_|_|_|_|_|_|_|_|_<;>try exact hF.elim
 all_goals rcases us with _|⟨u3,us⟩<;>try exact hF.elim
 ·obtain⟨v,v',rfl,rv,rv'⟩:=iq r;obtain⟨t,rfl⟩:=bi rv;obtain rfl:=uX rv';rcases hF with ⟨rfl,h⟩|⟨rfl,h⟩
  ·exact IsiPair.int_int (bK (st:=st) R ⟨rfl,rfl,rfl⟩ (.bool _) h)
  ·exact IsiPair.int_bool (bK (st:=st) R ⟨rfl,rfl,rfl⟩ (.bool _) h)
theorem u0:x.D (.type "tuple") bTuple:=by
 intro us Q X st hF c s vs R r;unfold bTuple at hF;rcases us with _|⟨u1,us⟩<;>try exact hF.elim
 rcases u1 with _|_|_|_|_|_|_|_|_|_<;>try exact hF.elim
 all_goals rcases us with _|⟨u2,us⟩<;>try exact hF.elim
 ·obtain⟨v,rfl,rv⟩:=eU r;obtain⟨a,ws,rfl,ht,rs⟩:=R.tupL rv;exact call_tuple_same ht (bK (st:=st) R ⟨rfl,rfl,rfl⟩ rv hF)
 ·obtain⟨v,rfl,rv⟩:=eU r;obtain⟨a,ws,rfl,hl,rs⟩:=R.lstL rv;refine call_tuple_list hl (fun h' hk=>?_) (by rw[U9];exact eQ rs hF.1);obtain⟨R',g,k⟩:=(R.keeps hk).push { cls:=.type "tuple",data:=.seq ws.toArray } rfl;exact aQ g R' ⟨rfl,rfl,rfl⟩ (Rs.tup k rfl rfl (rs.gr g)) hF.2
theorem Cc:x.D (.type "list") bList:=by
 intro us Q X st hF c s vs R r;unfold bList at hF;rcases us with _|⟨u1,us⟩<;>try exact hF.elim
 rcases u1 with _|_|_|_|_|_|_|_|_|_<;>try exact hF.elim
 all_goals rcases us with _|⟨u2,us⟩<;>try exact hF.elim
 ·obtain⟨v,rfl,rv⟩:=eU r;dsimp only at hF;generalize e:st.mh.m _=o at hF;rcases o with _|(_|_|_|_)<;>try exact hF.elim
  ·obtain⟨a,ws,rfl,_,_,⟨o,ho,hc,n,hd⟩,rs⟩:=R.refL rv (.inr e);refine call_list_seq a (T:="list") (.inl rfl) ho hc hd (fun h' c' hk hn=>?_) (by rw[U9];exact eQ rs hF.1);have g:=Gr.learn c (fun b ob=>b=s.heap.objs.size/\h'.get? b=some ob);exact aQ g (R.know hk _ fun b ob e=>⟨e.2,by rw[e.1];exact AAI (Y3 _)⟩) ⟨rfl,rfl,rfl⟩ (Rs.lst (.inr ⟨rfl,hn⟩) ⟨rfl,rfl,rfl⟩ rfl (rs.gr g)) hF.2
theorem Cd (ok:x.Ok):x.D (.builtin "sum") bSum:=by
 intro us Q X st hF c s vs R r;unfold bSum at hF;rcases us with _|⟨u1,us⟩<;>try exact hF.elim
 rcases u1 with _|_|_|_|_|_|_|_|_|_<;>try exact hF.elim
 all_goals rcases us with _|⟨u2,us⟩<;>try exact hF.elim
 ·obtain⟨v,rfl,rv⟩:=eU r;obtain⟨a,ws,rfl,hl,rs⟩:=R.lstL rv;dsimp only at hF;rcases hn:ir _ with _|ns
  ·rw[hn]at hF;exact hF.elim
  ·rw[hn]at hF;have hi:=B9 rs hn;obtain⟨xs,hxs⟩:=hi.allInts.items;rw[hxs]at hl;refine sum_intListG ok.hnd hl fun h' tk t' hk=>bK (st:=st) (R.keeps hk) ⟨rfl,rfl,rfl⟩ (.int _ _) ?_
   have e:=hi.numsOf;rw[show ws=ws.toArray.toList from rfl,hxs,nums_intItems]at e;rw[preSum_eq,List.take_of_length_le (by simp),e];exact hF
theorem Ce {n:Str}{v:Value}{l:List Expr}{Ts:List TE}{F:Fn}{p p':Pos}(e:nsIn (KF x.W.w.params) mainGlobals n=some none) (hv:bootBuiltins n=some v) (hb:uV v=true) (hx:x.env.kindOf n=some .globalImplicit)
  (hD:x.D v F) (h:x.Es l Ts) (hn:autoParam (n≠"__name__") tD) (hd:autoParam ((n == ("__debug__":Str))=false) tD)
  (he:autoParam (eval (.Call (.Name n p') l [] p) x.env=(do callWith p (<- eval (.Name n p') x.env) [] (backTo p (starEach l x.env)) (backToKw p (keywordEach [] x.env)))) tR):x.E (.Call (.Name n p') l [] p) (af F Ts):=fun Q X st hT c s R=>by
 refine Call_ ?_ he;obtain⟨hk,hg,hb',_⟩:=R.fm;refine Name_function_global hk hx (loadGlobal_builtin (mg:=x.W.mg) (mb:=x.W.mb) ?_ (mg_none_of x.W.K x.W.g e) ?_ ((x.W.builtins n hn).trans hv) ?_) hd
 ·rw[hg];exact x.W.g.keeps R.base
 ·rw[hb'];exact x.W.b.keeps R.base
 ·have main:wpAny x.W.M x.A (evalArgs v true (backTo p (starEach l x.env)) []) (fun a s₁=>wpAny x.W.M x.A (call v ([]++a.pos) a.kw) (x.Po vR Q c s) (x.EX X c s) s₁) (x.EX X c s) s:=
   (nJ (p:=p) (f:=v) h).go (Eq.mp qE hT) R fun a us c1 st1 s1 g1 w1 R1 r1 h1=>by
    obtain⟨ra,ka⟩:=r1;rw[ka];exact dQ g1 w1 (hD us Q X st1 h1 c1 s1 _ R1 ra)
  cases v with
 |builtin id=>exact callWith_builtin h.plain main
 |type T=>exact PySem.callWith_type h.plain main
 |_=>cases hb
end
noncomputable def d9 (mh:MH) (v:V) (k:List V->(MH->Prop)->Prop):Prop:=match v with
|.lst xs=>k xs fun ω=>True
|.tup xs=>k xs fun ω=>True
|.ref l=>(match mh.m l with
  |some (.list xs)=>k xs fun mh'=>mh'.m l=some (.list xs)
  |_=>False)
|_=>False
noncomputable def bc (T:TE):TI:=fun Q X st=>T (fun v st=>d9 st.mh v fun xs chk=>Q (xs,chk) st) X st
noncomputable def LI (cls:String) (a itA:Addr) (i:Nat) (os:List (Addr × Obj)):Prop:=∃ o:Obj,os=[(itA,o)]/\o.cls=.type cls/\o.data=.fields #[.ref a,.int i 0]
theorem gw {p:Addr × Obj}:([p].map (fun q=>q.1)).Nodup:=by simp
section
variable {h:Heap}
variable {x:Cx}
theorem dc {W:Wd}{fms:bU}{pc os prot:List (Addr × Obj)}{c:Cfg}{mh:MH}(r:RelH W fms (pc++(os++prot)) c mh h) {p:Addr × Obj}(hp:p∈os):h.get? p.1=some p.2/\c.own p.1=none/\(∀ o,¬ c.kn p.1 o)/\∀ f∈fms,f.1.locals≠p.1:=
 r.pr p (U7 _ (U8 _ hp))
theorem gx {a:Addr}{h':Heap}(hs:Heap.ExtBut a h h'):∀ b o,b ∉ ([a]:List Addr)->h.get? b=some o->h'.get? b=some o:=fun b o hb e=>hs b o (fun z=>hb (by rw[z];exact .head _)) e
theorem qI (ok:x.Ok) {a itA:Addr}{xs:List V}{chk:MH->Prop}{c0:Cfg}
  (hc:∀ (fms:bU) (prot:List (Addr × Obj)) (c:Cfg) (mh:MH) (h:Heap),Gr c0 c->chk mh->RelH x.W fms prot c mh h->∃ vs,h.IsList a vs.toArray/\Rs c vs xs):ItrP x (.ref itA) xs chk c0 (LI "list_iterator" a itA) where
 step:=by
  rintro i os c mh s fms pc prot hi ⟨o,rfl,o1,o2⟩ g hk r Q E hs he;obtain⟨vs,hl,rs⟩:=hc _ _ c mh s.heap g hk r;have hg:=(dc r (.head _)).1;have hit:s.heap.IsListIter itA a i:=⟨o,hg,o1,o2⟩;by_cases hlt:i < xs.length
  ·have hv:i < vs.length:=by rw[rs.1];exact hlt
   refine wpAny_pyNext_list_item hit hl (x:=vs[i]) (by simp[hv]) fun h' hit' hs'=>?_
   obtain⟨o',h1,h2,h3⟩:=hit';refine hs vs[i] xs[i] [(itA,o')] h' s.toks c (W9 hlt) (Gr.refl c) (rs.2 i _ _ (W9 hv) (W9 hlt)) ⟨o',rfl,h2,h3⟩ ?_;exact r.reprot (gx hs'.extBut) (fun p hp=>by obtain rfl:=U6.mp hp;exact⟨h1,.head _⟩) gw
  ·refine wpAny_pyNext_list_end ok.hnd hit hl (by simp[rs.1];(first|exact Nat.le_of_not_lt ‹_›|lia)) fun h' hs'=>he (by exact Nat.le_of_not_lt ‹_›) h' ?_
   exact r.reprot (os':=[]) (gx hs') (fun p hp=>nomatch hp) W1
 self:=by
  rintro os s ⟨o,rfl,o1,o2⟩ hg Q E q;exact wpAny_pyIter_listiter (i:=0) ⟨o,hg _ (.head _),o1,o2⟩ q
theorem Cf (ok:x.Ok) {a itA:Addr}{xs:List V}{chk:MH->Prop}{c0:Cfg}
  (hc:∀ (fms:bU) (prot:List (Addr × Obj)) (c:Cfg) (mh:MH) (h:Heap),Gr c0 c->chk mh->RelH x.W fms prot c mh h->∃ vs,h.IsTuple a vs.toArray/\Rs c vs xs):ItrP x (.ref itA) xs chk c0 (LI "tuple_iterator" a itA) where
 step:=by
  rintro i os c mh s fms pc prot hi ⟨o,rfl,o1,o2⟩ g hk r Q E hs he;obtain⟨vs,hl,rs⟩:=hc _ _ c mh s.heap g hk r;have hg:=(dc r (.head _)).1;have hit:s.heap.IsTupleIter itA a i:=⟨o,hg,o1,o2⟩;by_cases hlt:i < xs.length
  ·have hv:i < vs.length:=by rw[rs.1];exact hlt
   refine wpAny_pyNext_tuple_item hit hl (x:=vs[i]) (by simp[hv]) fun h' hit' hs'=>?_
   obtain⟨o',h1,h2,h3⟩:=hit';refine hs vs[i] xs[i] [(itA,o')] h' s.toks c (W9 hlt) (Gr.refl c) (rs.2 i _ _ (W9 hv) (W9 hlt)) ⟨o',rfl,h2,h3⟩ ?_;exact r.reprot (gx hs'.extBut) (fun p hp=>by obtain rfl:=U6.mp hp;exact⟨h1,.head _⟩) gw
  ·refine wpAny_pyNext_tuple_end ok.hnd hit hl (by simp[rs.1];(first|exact Nat.le_of_not_lt ‹_›|lia)) fun h' hs'=>he (by exact Nat.le_of_not_lt ‹_›) h' ?_
   exact r.reprot (os':=[]) (gx hs') (fun p hp=>nomatch hp) W1
 self:=by
  rintro os s ⟨o,rfl,o1,o2⟩ hg Q E q;exact wpAny_pyIter_tupleiter (i:=0) ⟨o,hg _ (.head _),o1,o2⟩ q
theorem Rel.protPush {c:Cfg}{st:St}(R:Rel x c st h) (o:Obj) (hf:o.isFreed=false):Rel (x.pt [(h.objs.size,o)]) c st (h.push o):=
 R.protect (fun b ob e=>AAG _ e) (fun p hp=>by obtain rfl:=U6.mp hp;exact⟨AAH _ hf,AAI (Y3 _)⟩) gw
theorem Cg (ok:x.Ok) {c:Cfg}{st:St}{s:Shared}{v:Value}{u:V}{Q:(List V × (MH->Prop))->St->Prop}{E:Value->Shared->Prop}(R:Rel x c st s.heap) (r:c.R v u) (h:d9 st.mh u fun xs chk=>Q (xs,chk) st) :
  wpAny x.W.M x.A (pyIter v) (x.ItP Q c s) E s:=by
 unfold d9 at h;rcases u with _|_|_|_|_|_|_|_|l|_<;>try exact h.elim
 ·obtain⟨a,o,vs,n,rfl,h1,h2,h3,h4⟩:=qy r;refine wpAny_pyIter_tuple ⟨o,R.kn h1,h2,n,h3⟩ ⟨c,_,_,st,LI "tuple_iterator" a s.heap.objs.size,_,Gr.refl c,⟨rfl,rfl,rfl⟩,h,Cf ok fun fms prot c' mh hh g ω rr=>?_,⟨_,rfl,rfl,rfl⟩,R.protPush _ rfl⟩;exact⟨vs.toList,⟨o,rr.kn _ _ (g.kn _ _ h1),h2,n,by simpa using h3⟩,h4.gr g⟩
 ·obtain⟨a,o,vs,n,rfl,h1,h2,h3,h4⟩:=lg r;refine wpAny_pyIter_list ⟨o,R.kn h1,h2,n,h3⟩ ⟨c,_,_,st,LI "list_iterator" a s.heap.objs.size,_,Gr.refl c,⟨rfl,rfl,rfl⟩,h,qI ok fun fms prot c' mh hh g ω rr=>?_,⟨_,rfl,rfl,rfl⟩,R.protPush _ rfl⟩;exact⟨vs.toList,⟨o,rr.kn _ _ (g.kn _ _ h1),h2,n,by simpa using h3⟩,h4.gr g⟩
 ·dsimp only at h;generalize e:st.mh.m _=o at h;rcases o with _|(_|xs|_|_)<;>try exact h.elim
  ·obtain⟨a,vs,rfl,ha,_,hl,rs⟩:=R.refL r (.inl e);refine wpAny_pyIter_list hl ⟨c,_,_,st,LI "list_iterator" a s.heap.objs.size,_,Gr.refl c,⟨rfl,rfl,rfl⟩,h,qI ok fun fms prot c' mh hh g hk rr=>?_,⟨_,rfl,rfl,rfl⟩,R.protPush _ rfl⟩;obtain⟨a',ws,n,h1,h2,h3,h4⟩:=rr.mo l _ hk;obtain rfl:=U1 ((g.adr _ _ ha).symm.trans h1);exact⟨ws,⟨_,h3,rfl,n,rfl⟩,h4⟩
theorem cH (ok:x.Ok) {e:Expr}{T:TE}(h:x.E e T):x.I e (bc T):=fun Q X st hT c s R=>
 h.go hT R fun v u c1 st1 s1 g1 w1 R1 r1 h1=>AAB (Cg ok R1 r1 h1) (fun it s2 ⟨c',xs,chk,st',P,os,g,w,q,q1,q2,q3⟩=>⟨c',xs,chk,st',P,os,g1.trans g,w1.trans w,q,q1,q2,q3⟩) fun ω ω z=>z
noncomputable def jN (n:Int):List V:=(List.range n.toNat).map fun i:Nat=>V.int i
noncomputable def ey (Ts:List TE):TI:=fun Q X st=>bh Ts (fun us st=>match us with|[.int n]=>0<=n/\n<=1000000/\Q (jN n,fun ω=>True) st|_=>False) X st
noncomputable def RI (itA:Addr) (n:Nat) (i:Nat) (os:List (Addr × Obj)):Prop:=∃ o:Obj,os=[(itA,o)]/\i<=n/\∀ h:Heap,h.get? itA=some o->IsRangeIter h itA (0+(i:Nat) * 1) ((n:Int) - (i:Nat)) 1
theorem Ch (ok:x.Ok) {itA:Addr}{n:Nat}{c0:Cfg}:ItrP x (.ref itA) ((List.range n).map fun i:Nat=>V.int i) (fun ω=>True) c0 (RI itA n) where
 step:=by
  rintro i os c mh s fms pc prot hi ⟨o,rfl,hin,ho⟩ g hk r Q E hs he;have hg:=(dc r (.head _)).1;have hit:=ho _ hg;by_cases hlt:i < n
  ·refine wpAny_pyNext_range_item hit (by lia) fun h' hit' hs'=>?_
   have e1:(0:Int)+(i:Nat) * 1+1=0+((i+1:Nat):Int) * 1:=by lia
   have e2:(n:Int) - (i:Nat) - 1=(n:Int) - ((i+1:Nat):Int):=by lia
   rw[e1,e2]at hit';have hit2:=hit';refine hs _ (.int i) [(itA,_)] h' _ c (by simp[hlt]) (Gr.refl c) (by rw[show(0:Int)+(i:Nat) * 1=(i:Int)by lia];exact .int _ _) ⟨_,rfl,hlt,fun h e=>e⟩ ?_;exact r.reprot (gx hs'.extBut) (fun p hp=>by obtain rfl:=U6.mp hp;exact⟨hit2,.head _⟩) gw
  ·refine wpAny_pyNext_range_end ok.hnd hit (by lia) fun h' hs'=>he (by simp;(first|exact Nat.le_of_not_lt ‹_›|lia)) h' ?_
   exact r.reprot (os':=[]) (gx hs') (fun p hp=>nomatch hp) W1
 self:=by
  rintro os s ⟨o,rfl,_,ho⟩ hg Q E q;exact wpAny_pyIter_rangeiter (ho _ (hg _ (.head _))) q
theorem Ci (ok:x.Ok) {n:Str}{l:List Expr}{Ts:List TE}{p p':Pos}(e:nsIn (KF x.W.w.params) mainGlobals n=some none) (hv:bootBuiltins n=some (.type "range")) (hx:x.env.kindOf n=some .globalImplicit) (h:x.Es l Ts)
  (hn:autoParam (n≠"__name__") tD) (hd:autoParam ((n == ("__debug__":Str))=false) tD)
  (he:autoParam (eval (.Call (.Name n p') l [] p) x.env=(do callWith p (<- eval (.Name n p') x.env) [] (backTo p (starEach l x.env)) (backToKw p (keywordEach [] x.env)))) tR):x.I (.Call (.Name n p') l [] p) (ey Ts):=fun Q X st hT c s R=>by
 refine Call_ ?_ he;have z9:=R.fm;have hk:=z9.1;have hg:=z9.2.1;have hb':=z9.2.2.1;clear z9;refine Name_function_global hk hx (loadGlobal_builtin (mg:=x.W.mg) (mb:=x.W.mb) ?_ (mg_none_of x.W.K x.W.g e) ?_ ((x.W.builtins n hn).trans hv) ?_) hd
 ·rw[hg];exact x.W.g.keeps R.base
 ·rw[hb'];exact x.W.b.keeps R.base
 ·refine PySem.callWith_type h.plain ((nJ (p:=p) (f:=.type "range") h).go hT R fun a us c1 st1 s1 g1 w1 R1 r1 h1=>?_);have ra:=r1.1;have ka:=r1.2;clear r1;rw[ka];rcases us with _|⟨u1,us⟩<;>try exact h1.elim
  rcases u1 with _|_|m|_|_|_|_|_|_|_<;>try exact h1.elim
  all_goals rcases us with _|⟨u2,us⟩<;>try exact h1.elim
  ·have hneg:=h1.1;have hm:=h1.2.1;have hq:=h1.2.2;clear h1;have z9:=eU ra;refine z9.elim fun v z0=>?_;have hv1:=z0.1;have rv:=z0.2;clear z0 z9
   rw[hv1];obtain⟨t,rfl⟩:=bi rv;refine call_range_1 ?_;obtain⟨k,rfl⟩:=Int.eq_ofNat_of_zero_le hneg;refine wpAny_pyIter_range (IsRange.new _ _ _ _ _ _ _) (small_one (by lia) (by lia) (by lia) (by lia)) ?_;have z9:=(R1.push { cls:=.type "range",data:=.fields #[.int 0 s1.toks,.int (k:Int) t,.int 1 (s1.toks+1)] } rfl);have R2:=z9.1;have g2:=z9.2.1;clear z9;rw[show Builtin.Range.rangeSize 0 (k:Int) 1=(k:Int)by rw[rangeSize_nat,Int.sub_zero];rfl];refine⟨_,_,_,st1,RI _ k,_,g1.trans g2,w1.trans ⟨rfl,rfl,rfl⟩,hq,Ch ok,⟨_,rfl,Z0 _,fun h e=>?_⟩,R2.protPush _ rfl⟩;rw[show(0:Int)+(0:Nat) * 1=0 from rfl,show(k:Int) - (0:Nat)=(k:Int)from Int.sub_zero _];exact e
end
noncomputable def dt:XP:=fun ω ω=>False
noncomputable def df (cap:List String) (st:St):List (String × V):=cap.filterMap fun k=>(st.loc.lookup k).map (k,·)
noncomputable abbrev TgF:=V->St->(St->Prop)->Prop
noncomputable def Cx.Tg (x:Cx) (t:Value->Sem Unit) (f:TgF):Prop:=∀ u st k,f u st k->∀ c s v,Rel x c st s.heap->c.R v u->∀ (Q:Unit->Shared->Prop) (E:Value->Shared->Prop),
 (∀ st' h' tk c',Gr c c'->k st'->Rel x c' st' h'->Q () { s with heap:=h',toks:=tk })->wpAny x.W.M x.A (t v) Q E s
noncomputable def an (n:String):TgF:=fun u st k=>k (st.put n u)
noncomputable def fv (chk:MH->Prop) (f:TgF) (capv:List (String × V)) (Tc:TB) (Te:TE):List V->List V->(List V->St->Prop)->St->Prop
|[],acc,Q,st=>chk st.mh/\Q acc st
|u::us,acc,Q,st=>chk st.mh/\f u (⟨capv,[],st.mh⟩:St) fun st1=>Tc (fun b st2=>if b then Te (fun v st3=>acc.length<=10000/\fv chk f capv Tc Te us (acc++[v]) Q { st with mh:=st3.mh }) dt st2
   else fv chk f capv Tc Te us acc Q { st with mh:=st2.mh }) dt st1
noncomputable def aU (f:TgF) (cap:List String) (T:TI) (Tc:TB) (Te:TE):Tr (List V):=fun Q X st=>T (fun b st1=>fv b.2 f (df cap st1) Tc Te b.1 [] Q st1) X st
noncomputable def tTrue:TB:=fun Q ω st=>Q true st
theorem Cj {chk:MH->Prop}{f:TgF}{capv:List (String × V)}{Tc:TB}{Te:TE}{us acc:List V}{Q:List V->St->Prop}{st:St}(h:fv chk f capv Tc Te us acc Q st):chk st.mh:=by
 cases us<;>exact h.1
theorem RelH.sameBut {W:Wd}{fms:bU}{prot:List (Addr × Obj)}{c:Cfg}{mh:MH}{h h':Heap}{a:Addr}(r:RelH W fms prot c mh h) (f:FreeA fms prot c a) (k:∀ b o,b≠a->h.get? b=some o->h'.get? b=some o):RelH W fms prot c mh h':=by
 refine⟨r.base,fun b o e=>k b o (fun z=>f.kn o (z ▸ e)) (r.kn b o e),r.free,?_,?_,r.dist,?_,?_,r.nxt⟩
 ·intro b l e;obtain⟨o,q,z⟩:=r.live b l e;exact⟨o,k b o (fun w=>by rw[w,f.own]at e;cases e) q,z⟩
 ·intro g hg;exact(r.frs g hg).keeps fun L hL o e=>k L o (fun z=>f.fr g hg (hL.trans z)) e
 ·intro p hp;obtain⟨a1,b1⟩:=r.pr p hp;exact⟨k _ _ (f.pr p hp) a1,b1⟩
 ·intro l o e;exact(r.mo l o e).keep (Gr.refl c) (fun ω h=>h) fun b ob hb q=>k b ob (fun w=>by rw[w,f.own]at hb;cases hb) q
theorem RelH.outFree {W:Wd}{fms:bU}{pc os prot:List (Addr × Obj)}{c:Cfg}{mh:MH}{h:Heap}(r:RelH W fms (pc++(os++prot)) c mh h) {p:Addr × Obj}(hp:p∈os):RelH W fms (pc++prot) c mh h/\FreeA fms (pc++prot) c p.1:=by
 have r':RelH W fms (pc++([]++prot)) c mh h:=r.reprot (fun ω ω ω e=>e) (fun p hp=>nomatch hp) W1;obtain⟨_,h2,h3,h4⟩:=dc r hp;have hn:=r.dist.2;rw[V2,V2,V7,V7]at hn;obtain⟨n1,⟨n2,n3,n4⟩,n5⟩:=hn;refine⟨r',h2,h3,h4,fun q hq e=>?_⟩;rcases U5.mp hq with hq|hq
 ·exact n5 q.1 (V5.mpr ⟨q,hq,rfl⟩) p.1 (U8 _ (V5.mpr ⟨p,hp,rfl⟩)) e
 ·exact n4 p.1 (V5.mpr ⟨p,hp,rfl⟩) q.1 (V5.mpr ⟨q,hq,rfl⟩) e.symm
theorem RelH.popTo {W:Wd}{fms:bU}{prot:List (Addr × Obj)}{c:Cfg}{mh:MH}{h:Heap}{f:Env × bZ}(r:RelH W (f::fms) prot c mh h):RelH W fms prot c mh h/\FreeA fms prot c f.1.locals:=by
 obtain⟨L,_,h2,_,_,_,_,h7,h8⟩:=(r.frs f (.head _)).ex;subst h2;have hd:=r.dist.1;rw[V1,W2]at hd;refine⟨RelH.pop (pc:=[]) r,h7,h8,fun g hg e=>hd.1 (V5.mpr ⟨g,hg,e⟩),fun p hp e=>(r.pr p hp).2.2.2 f (.head _) e.symm⟩
theorem RelH.protectF {W:Wd}{fms:bU}{pc os prot:List (Addr × Obj)}{c:Cfg}{mh:MH}{h:Heap}(r:RelH W fms (pc++prot) c mh h)
  (ho:∀ p∈os,h.get? p.1=some p.2/\FreeA fms (pc++prot) c p.1) (nd:(os.map (fun q=>q.1)).Nodup):RelH W fms (pc++(os++prot)) c mh h:=by
 have hn:=r.dist.2;rw[V2,V7]at hn;obtain⟨n1,n2,n3⟩:=hn;refine⟨r.base,r.kn,r.free,r.live,r.frs,⟨r.dist.1,?_⟩,?_,r.mo,r.nxt⟩
 ·rw[V2,V2,V7,V7];refine⟨n1,⟨nd,n2,fun a ha b hb=>?_⟩,fun a ha b hb=>?_⟩
  ·obtain⟨p,hp,rfl⟩:=V5.mp ha;obtain⟨q,hq,rfl⟩:=V5.mp hb;exact fun e=>(ho p hp).2.pr q (U7 _ hq) e.symm
  ·rcases U5.mp hb with hb|hb
   ·obtain⟨p,hp,rfl⟩:=V5.mp hb;obtain⟨q,hq,rfl⟩:=V5.mp ha;exact fun e=>(ho p hp).2.pr q (U8 _ hq) e
   ·exact n3 a ha b hb
 ·intro p hp;rcases U5.mp hp with hp|hp
  ·exact r.pr p (U8 _ hp)
  ·rcases U5.mp hp with hp|hp
   ·have f:=(ho p hp).2;exact⟨(ho p hp).1,f.own,f.kn,f.fr⟩
   ·exact r.pr p (U7 _ hp)
theorem u9 {st:St}{k:String}{v:V}{cap:List String}(h:(df cap st).lookup k=some v):k∈cap/\st.loc.lookup k=some v:=by
 unfold df at h;obtain⟨a,h1,h2⟩:=List.mem_filterMap.mp (ng h);obtain⟨u,h3,h4⟩:=Option.map_eq_some_iff.mp h2;cases h4;exact⟨h1,h3⟩
theorem Ck {h:Heap}{C:Addr}{m:bZ}(n:h.Ns C m):∃ o,h.get? C=some o/\∀ h':Heap,h'.get? C=some o->h'.Ns C m:=by
 obtain⟨o,es,ep,e,r⟩:=n;exact⟨o,e,fun h' e'=>⟨o,es,ep,e',r⟩⟩
theorem Cm {prog:Program}{w:World}{A:Around}{R:Result->Shared->Prop}{s:Shared}{elt target iter:Expr}{ifs:List Expr}{scope:Scope}{pos:Pos}{it acc:Value}{env:Env}(I:Nat->Shared->Prop)
  (turn:∀ n s,I n s->wpAny (model prog w) A (pyNext it) (fun r s₁=>match r with
  |none=>R (.ok .next) s₁
  |some v=>wpAny (model prog w) A (letOwnedTupleGo target it v) (fun ω s₁'=>wpAny (model prog w) A (assign target env v) (fun ω s₂=>
     wpAny (model prog w) A (forIn ifs true fun c r=>if r=true then do let ok <- isTrue c env (eval c env);pure (ForInStep.yield ok)else pure (ForInStep.yield r)) (fun ok s₃=>
      if ok=true then wpAny (model prog w) A (eval elt env) (fun x s₄=>
       wpAny (model prog w) A (call (.builtin "list.append") [acc,x]) (fun ω s₅=>∃ m,m < n/\I m s₅) (notedBy (model prog w) A env fun e s'=>R (.error e) s') s₄) (notedBy (model prog w) A env fun e s'=>R (.error e) s') s₃
      else ∃ m,m < n/\I m s₃) (notedBy (model prog w) A env fun e s'=>R (.error e) s') s₂) (notedBy (model prog w) A env fun e s'=>R (.error e) s') s₁') (notedBy (model prog w) A env fun e s'=>R (.error e) s') s₁) (notedBy (model prog w) A env fun e s'=>R (.error e) s') s)
  (n:Nat) (h:I n s):codeAny (model prog w) A (.compLoop (.ListComp elt [⟨target,iter,ifs,0⟩] scope pos) 0 it acc env) R s:=by
 refine codeAny_loop rfl I (fun n s hI=>?_) n h;show wpAny _ A ((compTurn (.ListComp elt [⟨target,iter,ifs,0⟩] scope pos) 0 it acc env).onRaise (fun x=>do noteFrame x env;theTreesLotGoes x)) _ _ s;refine wpAny_noted ?_;rw[compTurn_list];refine Z9 (AAE (Z9 (AAB (turn n s hI) (fun r s₁ h₁=>?_) fun ω ω z=>z)));induction r with
|none=>exact AAA h₁
|some v=>
  refine Z9 (AAB h₁ (fun ω s₁' h₁'=>?_) fun ω ω z=>z);refine Z9 (AAB h₁' (fun ω s₂ h₂=>Z9 (AAB h₂ (fun ok s₃ h₃=>?_) fun ω ω z=>z)) fun ω ω z=>z);induction ok with
 |false=>exact AAA ⟨rfl,h₃⟩
 |true=>
   exact Z9 (Z9 (AAB h₃ (fun x s₄ h₄=>Z9 (AAB h₄ (fun ω s₅ h₅=>AAA (AAA ⟨rfl,h₅⟩)) fun ω ω z=>z)) fun ω ω z=>z))
structure ItrT (x:Cx) (tgt:Expr) (it:Value) (xs:List V) (chk:MH->Prop) (c0:Cfg) (P:Nat->List (Addr × Obj)->Prop):Prop where
 step:∀ (i:Nat) (os:List (Addr × Obj)) (c:Cfg) (mh:MH) (s:Shared) (fms:bU) (pc prot:List (Addr × Obj)),i<=xs.length->P i os->Gr c0 c->chk mh->RelH x.W fms (pc++(os++prot)) c mh s.heap->
  ∀ (Q:Option Value->Shared->Prop) (E:Value->Shared->Prop),
  (∀ v u os' h' tk c',xs[i]?=some u->Gr c c'->c'.R v u->P (i+1) os'->RelH x.W fms (pc++(os'++prot)) c' mh h'->Q (some v) { s with heap:=h',toks:=tk })->
  (xs.length<=i->∀ h',RelH x.W fms (pc++prot) c mh h'->Q none { s with heap:=h' })->
  wpAny x.W.M x.A (pyNext it) (fun r s1=>match r with|none=>Q none s1|some v=>wpAny x.W.M x.A (letOwnedTupleGo tgt it v) (fun ω s2=>Q (some v) s2) E s1) E s
 self:∀ (os:List (Addr × Obj)) (s:Shared),P 0 os->(∀ p∈os,s.heap.get? p.1=some p.2)->∀ (Q:Value->Shared->Prop) (E:Value->Shared->Prop),Q it s->wpAny x.W.M x.A (pyIter it) Q E s
theorem ItrP.name {x:Cx}{n:Str}{p:Pos}{it:Value}{xs:List V}{chk:MH->Prop}{c0:Cfg}{P:Nat->List (Addr × Obj)->Prop}(I:ItrP x it xs chk c0 P):ItrT x (.Name n p) it xs chk c0 P where
 step i os c mh s fms pc prot hi hP g hk r Q E hs he:=
  I.step i os c mh s fms pc prot hi hP g hk r _ E (fun v u os' h' tk c' e g' rv hP' r'=>wpAny_of_eq (a:=()) rfl (hs v u os' h' tk c' e g' rv hP' r')) fun hle h' r'=>he hle h' r'
 self:=I.self
inductive Cx.ItT (x:Cx) (tgt:Expr) (Q:(List V × (MH->Prop))->St->Prop) (c:Cfg) (s:Shared) (it:Value) (s2:Shared):Prop
|mk (c':Cfg) (xs:List V) (chk:MH->Prop) (st':St) (P:Nat->List (Addr × Obj)->Prop) (os:List (Addr × Obj)):Gr c c'->SW s s2->Q (xs,chk) st'->ItrT x tgt it xs chk c' P->P 0 os->Rel (x.pt os) c' st' s2.heap->Cx.ItT x tgt Q c s it s2
noncomputable def Cx.IT (x:Cx) (tgt:Expr) (e:Expr) (T:TI):Prop:=∀ Q X st,T Q X st->∀ c s,Rel x c st s.heap->
 wpAny x.W.M x.A (eval e x.env) (fun v s1=>wpAny x.W.M x.A (pyIter v) (x.ItT tgt Q c s) (x.EX X c s) s1) (x.EX X c s) s
theorem Cx.I.name {x:Cx}{n:Str}{p:Pos}{e:Expr}{T:TI}(h:x.I e T):x.IT (.Name n p) e T:=fun Q X st hT c s R=>
 AAB (h Q X st hT c s R) (fun v s1 h1=>AAB h1 (fun it s2 ⟨c',xs,chk,st',P,os,g,w,q,Ip,z,z'⟩=>⟨c',xs,chk,st',P,os,g,w,q,ItrP.name Ip,z,z'⟩) fun ω ω z=>z) fun ω ω z=>z
section
variable {x:Cx}
theorem vc {n:String}{p:Pos}(hk:x.env.kindOf (U0 n)=some .local):x.Tg (assign (.Name (U0 n) p) x.env) (an n):=fun u st k hf c s v R r Q E q=>
 AAD (jK R r hk fun h' R'=>q _ h' _ c (Gr.refl c) hf R')
structure InComp (x y:Cx) (scope:Scope) (cl:List (Str × Addr)):Prop where
 W:y.W=x.W
 n:y.n=x.n
 ok:y.Ok
 env:∃ C,y.env=compEnvC scope cl C x.env
inductive CompI (x:Cx) (cenv:Env) (m:bZ) (pc:List (Addr × Obj)) (D:Addr) (c1:Cfg) (s2:Shared) (xs:List V) (P:Nat->List (Addr × Obj)->Prop) (chk:MH->Prop) (f:TgF) (cp:List (String × V)) (Tc:TB) (Te:TE) (Q:List V->St->Prop) (st1:St) (k:Nat) (s':Shared):Prop
|mk (i:Nat) (os':List (Addr × Obj)) (c':Cfg) (mh':MH) (mC:bZ) (vs:List Value) (acc:List V) (nD:Nat):k=xs.length - i->i<=xs.length->P i os'->Gr c1 c'->SW s2 s'->
   RelH x.W ((cenv,mC)::(x.env,m)::x.fms) ((pc++[(D,listOf (vs:List Value).toArray nD)])++(os'++x.prot)) c' mh' s'.heap->Rs c' vs acc->fv chk f cp Tc Te (xs.drop i) acc Q { st1 with mh:=mh' }->CompI x cenv m pc D c1 s2 xs P chk f cp Tc Te Q st1 k s'
noncomputable def ve (x:Cx) (scope:Scope) (cl:List (Str × Addr)) (cap:List String):Prop:=∀ k∈cap,∃ a,cl.lookup (U0 k)=some a/\x.env.cells.lookup (U0 k)=some a/\
   ((relabel scope x.env).names.lookup (U0 k)=some .cell\/((relabel scope x.env).names.lookup (U0 k)=some .free/\(U0 k == ("__classdict__":Str))=false))/\x.env.kindOf (U0 k)≠some .local
theorem Cn {scope:Scope}{cl:List (Str × Addr)}{cap:List String}{c:Cfg}{st:St}{m mC:bZ}{C:Addr}(hcap:ve x scope cl cap) (lr:LocR c x.env st.loc m):LocR c (compEnvC scope cl C x.env) (df cap st) mC:=fun q v₀ hq=>
 (hcap q (u9 hq).1).elim fun ω ha=>(lr q v₀ (u9 hq).2).elim (fun z=>absurd z.1 ha.2.2.2) fun z=>z.2.elim fun ω hb=>hb.elim fun o ho=>ho.elim fun w hw=>
  .inr ⟨ha.2.2.1,_,o,w,ha.1,U1 (hw.1.symm.trans ha.2.1) ▸ hw.2.1,hw.2.2⟩
inductive CompEnd (x:Cx) (m mC:bZ) (pc:List (Addr × Obj)) (C:Addr) (p:Addr × Obj) (c:Cfg) (mh:MH) (h:Heap):Prop
|mk (oC:Obj):(∀ h:Heap,h.get? C=some oC->h.Ns C mC)->RelH x.W ((x.env,m)::x.fms) (pc++([(C,oC),p]++x.prot)) c mh h->CompEnd x m mC pc C p c mh h
theorem Co {cenv:Env}{m mC:bZ}{pc:List (Addr × Obj)}{p:Addr × Obj}{c:Cfg}{mh:MH}{h:Heap}(r:RelH x.W ((cenv,mC)::(x.env,m)::x.fms) ((pc++[p])++([]++x.prot)) c mh h) (hD:p.1≠cenv.locals):CompEnd x m mC pc cenv.locals p c mh h:=by
 rw[W4]at r;have hD5:=(dc (os:=[p]) r (.head _)).1;obtain⟨L',_,hL',_,_,_,hns,_,_⟩:=(r.frs _ (.head _)).ex;rw[<- show cenv.locals=L' from hL']at hns;obtain⟨oC,eC,nC⟩:=Ck hns;obtain⟨rc,fc⟩:=r.popTo;obtain⟨rz,fz⟩:=RelH.outFree (os:=[p]) rc (.head _);have fc':FreeA ((x.env,m)::x.fms) (pc++x.prot) c cenv.locals:=fc.mono (fun f hf=>hf) fun p hp=>by
  rcases U5.mp hp with hp|hp
  ·exact U8 _ hp
  ·exact U7 _ (U7 _ hp)
 refine⟨oC,nC,RelH.protectF (os:=[(cenv.locals,oC),p]) rz (fun q hp=>?_) (W2.mpr ⟨fun z=>hD (U6.mp z).symm,gw⟩)⟩;rcases V3.mp hp with rfl|hp
 ·exact⟨eC,fc'⟩
 ·obtain rfl:=U6.mp hp;exact⟨hD5,fz⟩
theorem qJ (ok:x.Ok) (hre:bV x.env=true) {elt iter tgt:Expr}{f:TgF}{ifs:List Expr}{scope:Scope}{cl:List (Str × Addr)}{pos:Pos}{cap:List String}{T:TI}{Tc:TB}{Te:TE}{use:Option (Value->Sem Unit)}
  (hI:x.IT tgt iter T) (hclos:closureFor scope x.env=pure cl) (hcell:∀ y∈scope.names,y.2≠.cell) (hkind:scope.kind=.function) (hnames:∀ y∈scope.names,y.2=.local->scope.names.lookup y.1=some .local)
  (hg:∀ y,InComp x y scope cl->y.Tg (assign tgt y.env) f) (hcap:ve x scope cl cap)
  (hc:∀ y,InComp x y scope cl->y.J (forIn ifs true fun c r=>if r=true then do let ok <- isTrue c y.env (eval c y.env);pure (ForInStep.yield ok)else pure (ForInStep.yield r)) (fun ω a b=>a=b) Tc)
  (he:∀ y,InComp x y scope cl->y.E elt Te) (hs:∀ v,foldedSetIterable iter x.env v=pure v)
  {Q:List V->St->Prop}{X:XP}{st:St}(hT:aU f cap T Tc Te Q X st) {c:Cfg}{s:Shared}(R:Rel x c st s.heap) {G:Value->Shared->Prop}
  (hfin:∀ (D C:Addr) (oC:Obj) (us:List V) (vs:List Value) (nD:Nat) (c':Cfg) (st':St) (s':Shared) (mC:bZ),Gr c c'->SW s s'->Rel (x.pt [(C,oC),(D,listOf vs.toArray nD)]) c' st' s'.heap->(∀ h:Heap,h.get? C=some oC->h.Ns C mC)->Rs c' vs us->Q us st'->
   compPost x.W.M x.A (x.EX X c s) use G (.ref D) C (.ok .next) s') :
  wpAny x.W.M x.A (comprehension (.ListComp elt [⟨tgt,iter,ifs,0⟩] scope pos) scope x.env (firstIterPos [⟨tgt,iter,ifs,0⟩] pos) (newList []) false (eval iter x.env) use) G (x.EX X c s) s:=by
 refine wpAny_comprehension_free (cl:=cl) rfl hs hclos hkind hnames (AAB (hI _ X st hT c s R) (fun v s1 h1=>AAB h1 (fun it s2 h2=>?_) fun ω ω z=>z) fun ω ω z=>z);obtain⟨c1,xs,chk,st1,P,os,g1,w1,hC,I,hP,m,pc,r1,lr1,pr1⟩:=h2;have hcap0:=df cap st1;refine AAC (wpAny_newFunctionEnv hcell (by intro y hy;simp at hy) (fun h₁ hns₁ hsb₁=>?_) hkind);dsimp only at hns₁ hsb₁ ⊢
 let D:Addr:=s2.heap.objs.size
 let C:Addr:=(s2.heap.push { cls:=.type "list",dict:=none,data:=.seq ([]:List Value).toArray }).objs.size
 have hCD:C=D+1:=AAK ..;have hDC:D≠C:=by rw[hCD];exact Y1 (Y5 _)
 have k1:∀ b o,s2.heap.get? b=some o->h₁.get? b=some o:=fun b o e=>by
  have hb:b < D:=AAJ e;exact hsb₁.extBut b o (by show b≠C;rw[hCD];exact Y1 (Y6 hb)) (AAG _ (AAG _ e))
 have hD1:h₁.get? D=some (listOf ([]:List Value).toArray 0):=hsb₁.extBut _ _ hDC (AAG _ (AAH _ rfl));have fD:s2.heap.get? D=none:=AAI (Y3 _);have fC:s2.heap.get? C=none:=AAI (by rw[hCD];exact Y7 _)
 let cenv:Env:=compEnvC scope cl C x.env
 have r2:RelH x.W ((x.env,m)::x.fms) ((pc++[(D,listOf ([]:List Value).toArray 0)])++(os++x.prot)) c1 st1.mh h₁:=by
  rw[W4];exact RelH.protect (os:=[(D,_)]) r1 k1 (fun p hp=>by obtain rfl:=U6.mp hp;exact⟨hD1,fD⟩) gw
 have fCf:FreeA ((x.env,m)::x.fms) ((pc++[(D,listOf ([]:List Value).toArray 0)])++(os++x.prot)) c1 cenv.locals:=by
  have q:=r1.fresh fC;refine⟨q.own,q.kn,q.fr,fun p hp=>?_⟩;rw[W4]at hp;rcases U5.mp hp with hp|hp
  ·exact q.pr p (U8 _ hp)
  ·rcases V3.mp hp with rfl|hp
   ·exact hDC
   ·exact q.pr p (U7 _ hp)
 have z9:=Rel.fm (x:=x) (⟨m,pc,RelH.reprot (os':=[]) r1 (fun ω ω ω e=>e) (fun p hp=>nomatch hp) W1,lr1,pr1⟩:Rel x c1 st1 s2.heap);have xk:=z9.1;have xg:=z9.2.1;have xb:=z9.2.2.1;refine z9.2.2.2.elim fun xF xf=>?_;clear z9
 have r3:RelH x.W ((cenv,fun y=>([]:List (Str × Value)).reverse.lookup y)::(x.env,m)::x.fms) ((pc++[(D,listOf ([]:List Value).toArray 0)])++(os++x.prot)) c1 st1.mh h₁:=
  r2.frame (env:=cenv) ⟨xF,xf⟩ hkind xg xb hns₁ fCf
 have hreC:bV cenv=false:=by
  have hF:x.env.frame=some x.env.locals:=uw hre;obtain⟨L',h1',h2',_,_,_,⟨o,es,ep,e,_⟩,_⟩:=(r1.frs _ (.head _)).ex;have hlt:x.env.locals < D:=by
   have:=AAJ e;rw[show x.env.locals=L' from h2'];exact this
  unfold bV;show(x.env.frame == some C)=false;rw[hF];refine beq_eq_false_iff_ne.mpr fun q=>?_
  have q:=U1 q;rw[hCD]at q;rw[q]at hlt;exact Z1 _ (Nat.lt_of_succ_lt hlt)
 have loop:∀ s₃:Shared,SW s2 s₃->s₃.heap=h₁->codeAny x.W.M x.A (.compLoop (.ListComp elt [⟨tgt,iter,ifs,0⟩] scope pos) 0 it (.ref D) cenv) (compPost x.W.M x.A (x.EX X c s) use G (.ref D) C) s₃:=by
  intro s₃ w₃ e₃
  let INV:Nat->Shared->Prop:=CompI x cenv m pc D c1 s2 xs P chk f (df cap st1) Tc Te Q st1
  refine Cm INV ?_ xs.length ⟨0,os,c1,st1.mh,_,[],[],0,rfl,Z0 _,hP,Gr.refl _,w₃,e₃ ▸ r3,Rs.nil _,hC⟩;rintro k s' ⟨i,os',c',mh',mC,vs,acc,nD,rfl,hi,hP',g',w',r',rs',hC'⟩;refine AAB (I.step i os' c' mh' s' _ _ x.prot hi hP' g' (Cj hC') r' (fun r s₁=>match r with
  |none=>compPost x.W.M x.A (x.EX X c s) use G (.ref D) C (.ok .next) s₁
  |some v=>wpAny x.W.M x.A (assign tgt cenv v) (fun ω s₂=>
     wpAny x.W.M x.A (forIn ifs true fun c r=>if r=true then do let ok <- isTrue c cenv (eval c cenv);pure (ForInStep.yield ok)else pure (ForInStep.yield r)) (fun ok s₃=>
      if ok=true then wpAny x.W.M x.A (eval elt cenv) (fun x' s₄=>
       wpAny x.W.M x.A (call (.builtin "list.append") [.ref D,x']) (fun ω s₅=>∃ m,m < xs.length - i/\INV m s₅) (notedBy x.W.M x.A cenv fun e s'=>compPost x.W.M x.A (x.EX X c s) use G (.ref D) C (.error e) s') s₄) (notedBy x.W.M x.A cenv fun e s'=>compPost x.W.M x.A (x.EX X c s) use G (.ref D) C (.error e) s') s₃
      else ∃ m,m < xs.length - i/\INV m s₃) (notedBy x.W.M x.A cenv fun e s'=>compPost x.W.M x.A (x.EX X c s) use G (.ref D) C (.error e) s') s₂) (notedBy x.W.M x.A cenv fun e s'=>compPost x.W.M x.A (x.EX X c s) use G (.ref D) C (.error e) s') s₁)
   (notedBy x.W.M x.A cenv fun e s'=>compPost x.W.M x.A (x.EX X c s) use G (.ref D) C (.error e) s') (fun v u os'' h' tk c'' hu g'' rv hP'' r''=>?_) (fun hle h' r''=>?_)) (fun r s₁ hr=>by cases r<;>exact hr) fun ω ω z=>z
  ·have hlt:i < xs.length:=(W5.mp hu).1;have hd:xs.drop i=u::xs.drop (i+1):=by
    rw[List.drop_eq_getElem_cons hlt]
    congr 1
    exact(W5.mp hu).2
   rw[hd]at hC';have hC':=hC'.2
   let y:Cx:={ W:=x.W,env:=cenv,fms:=(x.env,m)::x.fms,prot:=(pc++[(D,listOf vs.toArray nD)])++(os''++x.prot),A:=x.A,n:=x.n }
   have yok:y.Ok:=by
    refine⟨ok.hnd,?_,ok.d,ok.u⟩;show x.A.frames=some ((cenv::x.env::x.fms.map (fun q=>q.1)).filter bV);rw[List.filter_cons_of_neg (by rw[hreC];decide)];exact ok.fr
   have yin:InComp x y scope cl:=⟨rfl,rfl,yok,C,rfl⟩;have Ry:Rel y c'' ⟨df cap st1,[],mh'⟩ h':=⟨mC,[],r'',Cn hcap (lr1.gr (g'.trans g'')),trivial⟩;refine hg y yin u _ _ hC' c'' { s' with heap:=h',toks:=tk } v Ry rv _ _ fun st2 h2 tk2 c2 gT hk2 R2=>?_
   have w2:SW s2 { s' with heap:=h2,toks:=tk2 }:=w'.trans ⟨rfl,rfl,rfl⟩;have g'':Gr c' c2:=g''.trans gT;have noE:∀ {c0:Cfg}{s0:Shared}{G':Value->Shared->Prop}(e:Value) (s':Shared),y.EX dt c0 s0 e s'->G' e s':=fun e s' ⟨_,_,_,_,_,_,_,_,_,_,_,_,_,z⟩=>z.elim
   refine AAB (hc y yin _ dt _ hk2 c2 _ R2) (fun b s3 p3=>?_) fun e s3 p3=>noE e s3 p3
   obtain⟨c3,b',st3,g3,w3,R3,rfl,q3⟩:=p3;have dropY:∀ {c4:Cfg}{st4:St}{h4:Heap},Rel y c4 st4 h4->∃ mC',RelH x.W ((cenv,mC')::(x.env,m)::x.fms) ((pc++[(D,listOf vs.toArray nD)])++(os''++x.prot)) c4 st4.mh h4:=fun ⟨mC',pcy,ry,_,_⟩=>
    ⟨mC',RelH.reprot (pc:=[]) (os:=pcy) (os':=[]) ry (fun ω ω ω e=>e) (fun p hp=>nomatch hp) W1⟩
   induction b with
  |false=>
    obtain⟨mC',ry⟩:=dropY R3;exact⟨xs.length - (i+1),by lia,i+1,os'',c3,st3.mh,mC',vs,acc,nD,rfl,hlt,hP'',(g'.trans g'').trans g3,w2.trans w3,ry,rs'.gr (g''.trans g3),q3⟩
  |true=>
    refine AAB (he y yin _ dt _ q3 c3 s3 R3) (fun v5 s5 p5=>?_) fun e s5 p5=>noE e s5 p5
    obtain⟨c5,u5,st5,g5,w5,R5,rv5,hz,q5⟩:=p5;obtain⟨mC',ry⟩:=dropY R5;rw[W4]at ry;have hD5:=(dc (os:=[(D,listOf vs.toArray nD)]) ry (.head _)).1;refine wpAny_list_append_plain (l:=D) (items:=vs.toArray) ⟨nD,hD5⟩ (fun h6 hp6 hs6=>?_) (by rw[U9];exact eQ rs' hz);obtain⟨n6,e6⟩:=hp6;have e6':h6.get? D=some (listOf (vs++[v5]).toArray n6):=by rw[e6];simp
    have ry':=RelH.reprot (os:=[(D,listOf vs.toArray nD)]) (os':=[(D,listOf (vs++[v5]).toArray n6)]) ry (gx hs6.extBut) (fun p hp=>by obtain rfl:=U6.mp hp;exact⟨e6',.head _⟩) gw;rw[<- W4]at ry';exact⟨xs.length - (i+1),by lia,i+1,os'',c5,st5.mh,mC',vs++[v5],acc++[u5],n6,rfl,hlt,hP'',((g'.trans g'').trans g3).trans g5,(w2.trans w3).trans (w5.trans ⟨rfl,rfl,rfl⟩),ry',((rs'.gr ((g''.trans g3).trans g5)).append (Rs.cons rv5 (Rs.nil _))),q5⟩
  ·have hd:xs.drop i=[]:=W7 hle;rw[hd]at hC';have hq:=hC'.2;clear hC';obtain⟨oC,nC,rd⟩:=Co r'' hDC;exact hfin D C oC acc vs nD _ { st1 with mh:=mh' } _ mC (g1.trans g') (w1.trans (w'.trans ⟨rfl,rfl,rfl⟩)) ⟨m,pc,rd,lr1.gr g',pr1⟩ nC rs' hq
 exact codeAny_compStart_list (loop _ ⟨rfl,rfl,rfl⟩ rfl) (I.self os _ hP (fun p hp=>(dc r2 hp).1) _ _ (loop _ ⟨rfl,rfl,rfl⟩ rfl))
end
section
variable {y:Cx}{c:Cfg}{h:Heap}{a:Addr}{vs:List Value}{es:List DictEntry}{fs:List (Int × V)}{v:Value}{k:V->Prop}{s:Shared}{Q E:Value->Shared->Prop}
variable {x:Cx}
structure CompOk (x:Cx) (scope:Scope) (cl:List (Str × Addr)) (cap:List String):Prop where
 clos:closureFor scope x.env=pure cl
 cell:∀ y∈scope.names,y.2≠.cell
 kind:scope.kind=.function
 names:∀ y∈scope.names,y.2=.local->scope.names.lookup y.1=some .local
 cap:∀ k∈cap,∃ a,cl.lookup (U0 k)=some a/\x.env.cells.lookup (U0 k)=some a/\
   ((relabel scope x.env).names.lookup (U0 k)=some .cell\/((relabel scope x.env).names.lookup (U0 k)=some .free/\(U0 k == ("__classdict__":Str))=false))/\x.env.kindOf (U0 k)≠some .local
theorem Cp {scope:Scope}{cl:List (Str × Addr)}{n:String}{p:Pos}(h:InComp x y scope cl) (hn:scope.names.lookup (U0 n)=some .local):y.Tg (assign (.Name (U0 n) p) y.env) (an n):=by
 obtain⟨C,e⟩:=h.env;exact vc (by rw[e];exact lookup_relabel_local hn)
theorem dT:y.J (forIn ([]:List Expr) true fun c r=>if r=true then do let ok <- isTrue c y.env (eval c y.env);pure (ForInStep.yield ok)else pure (ForInStep.yield r)) (fun ω a b=>a=b) tTrue:=fun Q X st hT c s R=>by
 rw[List.forIn_nil];exact AAA (bK R (SW.refl s) rfl hT)
theorem qK {e:Expr}{T:TB}(h:y.B e T):y.J (forIn [e] true fun c r=>if r=true then do let ok <- isTrue c y.env (eval c y.env);pure (ForInStep.yield ok)else pure (ForInStep.yield r)) (fun ω a b=>a=b) T:=fun Q X st hT c s R=>
 wpAny_tests_one (h Q X st hT c s R)
theorem Rel.expose {st:St}{p:Addr × Obj}(R:Rel (x.pt [p]) c st h):Rel x (c.learn fun a o=>a=p.1/\o=p.2) st h/\Gr c (c.learn fun a o=>a=p.1/\o=p.2)/\(c.learn fun a o=>a=p.1/\o=p.2).kn p.1 p.2:=by
 obtain⟨m,pc,r,lr,pr⟩:=R;have hg:=(dc (pc:=pc) (os:=[p]) r (.head _)).1;obtain⟨r1,f1⟩:=RelH.outFree (pc:=pc) (os:=[p]) r (.head _);have g:=Gr.learn c (fun a o=>a=p.1/\o=p.2);exact⟨⟨m,pc,r1.learn _ fun a o e=>by obtain⟨rfl,rfl⟩:=e;exact⟨hg,f1⟩,lr.gr g,pr⟩,g,.inr ⟨rfl,rfl⟩⟩
open Classical in
set_option tactic.hygienic true in
theorem Rel.tag {st:St}{n:Nat}{us:List V}(R:Rel (x.pt [(a,listOf vs.toArray n)]) c st h) (rs:Rs c vs us) (r:Nat) :
  ∃ c',Gr c c'/\Rel x c' { st with mh:=st.mh.new r (.arr us) } h/\c'.R (.ref a) (.ref (r,st.mh.nx r)):=by
 obtain⟨m,pc,rr,lr,pr⟩:=R;have hg:=(dc (pc:=pc) (os:=[(a,listOf vs.toArray n)]) rr (.head _)).1;obtain⟨r1,f1⟩:=RelH.outFree (pc:=pc) (os:=[(a,listOf vs.toArray n)]) rr (.head _);have g:Gr c (c.label (r,st.mh.nx r) a (·=a)):=⟨fun ω ω h=>h,fun l a' e=>by
  show(if l=(r,st.mh.nx r)then some a else c.adr l)=some a';rw[if_neg (fun q=>by rw[q]at e;exact absurd (r1.nxt _ _ e) (Z1 _))];exact e⟩
 have e1:(c.label (r,st.mh.nx r) a (·=a)).adr (r,st.mh.nx r)=some a:=if_pos rfl;have e2:(c.label (r,st.mh.nx r) a (·=a)).own a=some (r,st.mh.nx r):=by simp[Cfg.label]
 have ne:∀ b,b≠a->(c.label (r,st.mh.nx r) a (·=a)).own b=c.own b:=fun b hb=>by simp[Cfg.label,hb]
 refine⟨_,g,⟨m,pc,⟨r1.base,r1.kn,fun b o e=>?_,fun b l e=>?_,fun f hf=>?_,r1.dist,fun p hp=>?_,fun l o e=>?_,fun l b e=>?_⟩,lr.gr g,pr⟩,.ref _ _ e1⟩
 ·rw[ne b (fun z=>f1.kn o (z ▸ e))];exact r1.free b o e
 ·by_cases q:b=a
  ·subst q;exact⟨_,hg,fun vs=>by simp⟩
  ·rw[ne b q]at e;exact r1.live b l e
 ·obtain⟨L,h1,h2,h3,h4,h5,h6,h7,h8⟩:=(r1.frs f hf).ex;refine⟨L,h1,h2,h3,h4,h5,h6,?_,h8⟩;rw[ne L (fun z=>f1.fr f hf (h2.trans z))];exact h7
 ·obtain⟨a1,b1,d1,e1⟩:=r1.pr p hp;refine⟨a1,?_,d1,e1⟩;rw[ne _ (f1.pr p hp)];exact b1
 ·by_cases q:l=(r,st.mh.nx r)
  ·subst q;simp only[MH.new,if_true]at e;obtain rfl:=U1 e;exact⟨a,_,vs,n,e1,e2,hg,rfl,rfl,rs.gr g⟩
  ·simp only[MH.new,if_neg q]at e;refine(r1.mo l o e).keep g (fun b hb=>?_) (fun b ob ω e=>e);rw[ne b (fun z=>by have:=f1.own;dsimp only at this;rw[z,this]at hb;cases hb)];exact hb
 ·show l.2 < (if l.1=r then st.mh.nx r+1 else st.mh.nx l.1);by_cases q:l=(r,st.mh.nx r)
  ·subst q;simp
  ·have e':c.adr l=some b:=by simpa only[Cfg.label,if_neg q]using e
   have:=r1.nxt l b e'
   split
   ·rename_i z;rw[z]at this;exact Y6 this
   ·exact this
theorem vf {st:St}{s':Shared}{h':Heap}{C D:Addr}{oC oD:Obj}(R:Rel (x.pt [(C,oC),(D,oD)]) c st s'.heap) (hs:Heap.SameBut C s'.heap h'):Rel (x.pt [(D,oD)]) c st h':=by
 have hD:s'.heap.get? D=some oD/\D≠C:=by
  obtain⟨m,pc,r,_⟩:=R;refine⟨(dc (pc:=pc) (os:=[(C,oC),(D,oD)]) r (.tail _ (.head _))).1,fun z=>?_⟩;have hn:=r.dist.2;rw[V2,V7]at hn;have:=hn.2.1;simp[Cx.pt,z]at this
 refine Rel.reprot (os':=[(D,oD)]) R (fun b o hb e=>hs.extBut b o (fun z=>hb (by rw[z];simp)) e) (fun p hp=>?_) gw;obtain rfl:=U6.mp hp;exact⟨hs.extBut _ _ hD.2 hD.1,by simp⟩
theorem vg {st:St}{s':Shared}{C D:Addr}{oC oD:Obj}(R:Rel (x.pt [(C,oC),(D,oD)]) c st s'.heap):s'.heap.get? C=some oC:=by
 obtain⟨m,pc,r,_⟩:=R;exact(dc (pc:=pc) (os:=[(C,oC),(D,oD)]) r (.head _)).1
noncomputable def be (T:Tr (List V)):TE:=fun Q X st=>T (fun us st=>Q (.lst us) st) X st
theorem Cq (ok:x.Ok) (hre:bV x.env=true) {elt iter tgt:Expr}{f:TgF}{ifs:List Expr}{scope:Scope}{cl:List (Str × Addr)}{pos:Pos}{cap:List String}{T:TI}{Tc:TB}{Te:TE}
  (O:CompOk x scope cl cap) (hI:x.IT tgt iter T) (hg:∀ y,InComp x y scope cl->y.Tg (assign tgt y.env) f)
  (hc:∀ y,InComp x y scope cl->y.J (forIn ifs true fun c r=>if r=true then do let ok <- isTrue c y.env (eval c y.env);pure (ForInStep.yield ok)else pure (ForInStep.yield r)) (fun ω a b=>a=b) Tc)
  (he:∀ y,InComp x y scope cl->y.E elt Te) (hs:autoParam (∀ v,foldedSetIterable iter x.env v=pure v) tI) :
  x.E (.ListComp elt [⟨tgt,iter,ifs,0⟩] scope pos) (be (aU f cap T Tc Te)):=fun Q X st hT c s R=>by
 rw[eval_ListComp];refine qJ (use:=none) ok hre hI O.clos O.cell O.kind O.names hg O.cap hc he hs hT R fun D C oC us vs nD c' st' s' mC g w R' hn rs hq=>?_
 refine⟨mC,hn _ (vg R'),fun h' hs'=>?_⟩;obtain⟨R2,g2,k2⟩:=(vf R' hs').expose;exact aQ (g.trans g2) R2 (w.trans ⟨rfl,rfl,rfl⟩) (Rs.lst k2 ⟨rfl,rfl,rfl⟩ rfl (rs.gr g2)) hq
noncomputable def nN (r:Nat) (T:Tr (List V)):TE:=fun Q X st=>T (fun us st=>Q (.ref (r,st.mh.nx r)) { st with mh:=st.mh.new r (.arr us) }) X st
theorem Cr (ok:x.Ok) (hre:bV x.env=true) {elt iter tgt:Expr}{f:TgF}{ifs:List Expr}{scope:Scope}{cl:List (Str × Addr)}{pos:Pos}{cap:List String}{T:TI}{Tc:TB}{Te:TE}{r:Nat}
  (O:CompOk x scope cl cap) (hI:x.IT tgt iter T) (hg:∀ y,InComp x y scope cl->y.Tg (assign tgt y.env) f)
  (hc:∀ y,InComp x y scope cl->y.J (forIn ifs true fun c r=>if r=true then do let ok <- isTrue c y.env (eval c y.env);pure (ForInStep.yield ok)else pure (ForInStep.yield r)) (fun ω a b=>a=b) Tc)
  (he:∀ y,InComp x y scope cl->y.E elt Te) (hs:autoParam (∀ v,foldedSetIterable iter x.env v=pure v) tI) :
  x.E (.ListComp elt [⟨tgt,iter,ifs,0⟩] scope pos) (nN r (aU f cap T Tc Te)):=fun Q X st hT c s R=>by
 rw[eval_ListComp];refine qJ (use:=none) ok hre hI O.clos O.cell O.kind O.names hg O.cap hc he hs hT R fun D C oC us vs nD c' st' s' mC g w R' hn rs hq=>?_
 refine⟨mC,hn _ (vg R'),fun h' hs'=>?_⟩;obtain⟨c2,g2,R2,k2⟩:=(vf R' hs').tag rs r;exact aQ (g.trans g2) R2 (w.trans ⟨rfl,rfl,rfl⟩) k2 hq
theorem Cs (ok:x.Ok) (hre:bV x.env=true) {elt iter tgt:Expr}{f:TgF}{t:String}{py:Pos}{ifs:List Expr}{scope:Scope}{cl:List (Str × Addr)}{pos spos:Pos}{cap:List String}{T:TI}{Tc:TB}{Te:TE}
  (O:CompOk x scope cl cap) (hI:x.IT tgt iter T) (hg:∀ y,InComp x y scope cl->y.Tg (assign tgt y.env) f)
  (hc:∀ y,InComp x y scope cl->y.J (forIn ifs true fun c r=>if r=true then do let ok <- isTrue c y.env (eval c y.env);pure (ForInStep.yield ok)else pure (ForInStep.yield r)) (fun ω a b=>a=b) Tc)
  (he:∀ y,InComp x y scope cl->y.E elt Te) (hk:x.env.kindOf (U0 t)=some .local)
  (hsw:autoParam (swapsWith (.ListComp elt [⟨tgt,iter,ifs,0⟩] scope pos) (some (.Name (U0 t) py)) spos.line x.env=pure true) tR) (hs:autoParam (∀ v,foldedSetIterable iter x.env v=pure v) tI) :
  x.S (.Assign [.Name (U0 t) py] (.ListComp elt [⟨tgt,iter,ifs,0⟩] scope pos) spos) (aw t (be (aU f cap T Tc Te))):=fun Q X st hT c s R=>by
 rw[exec_Assign_Name_used _ _ _ _ hsw];refine Z9 (AAE (Z9 ?_));show wpAny _ x.A (do let _ <- comprehension (.ListComp elt [⟨tgt,iter,ifs,0⟩] scope pos) scope x.env _ (newList []) false (eval iter x.env) (some (assign (.Name (U0 t) py) x.env))) _ _ s;refine Z9 (AAB (qJ (use:=some (assign (.Name (U0 t) py) x.env)) (G:=fun ω s'=>x.Po FlR Q c s .next s') ok hre hI O.clos O.cell O.kind O.names hg O.cap hc he hs hT R
  fun D C oC us vs nD c' st' s' mC g w R' hn rs hq=>?_) (fun ω s' hq=>AAA (AAA hq)) fun ω ω z=>z)
 show wpAny _ x.A (assign (.Name (U0 t) py) x.env (.ref D)) _ _ _;have R1:Rel ((x.pt [(C,oC)]).pt [(D,listOf vs.toArray nD)]) c' st' s'.heap:=by
  obtain⟨m,pc,r,z⟩:=R';have eC:=(dc (pc:=pc) (os:=[(C,oC),(D,listOf vs.toArray nD)]) r (.head _)).1;have eD:=(dc (pc:=pc) (os:=[(C,oC),(D,listOf vs.toArray nD)]) r (.tail _ (.head _))).1;have nd:(((D,listOf vs.toArray nD)::[(C,oC)]).map (fun q=>q.1)).Nodup:=by
   have hn:=r.dist.2;rw[V2,V7]at hn;have:=hn.2.1;simp only[Cx.pt,V2,V1,List.map_nil,V7,W2,U6]at this;simp only[V1,List.map_nil,W2,U6];exact⟨fun e=>this.1.1 e.symm,by simp,W1⟩
  refine⟨m,pc,RelH.reprot (os':=[(D,listOf vs.toArray nD),(C,oC)]) r (fun ω ω ω e=>e) (fun p hp=>?_) nd,z⟩;rcases V3.mp hp with rfl|hp
  ·exact⟨eD,by simp⟩
  ·obtain rfl:=U6.mp hp;exact⟨eC,by simp⟩
 obtain⟨R2,g2,k2⟩:=R1.expose;refine AAD (jK (x:=x.pt [(C,oC)]) R2 (Rs.lst k2 ⟨rfl,rfl,rfl⟩ rfl (rs.gr g2)) hk fun h2 R3=>?_);have eC:h2.get? C=some oC:=by
  obtain⟨m,pc,r,_⟩:=R3;exact(dc (pc:=pc) (os:=[(C,oC)]) r (.head _)).1
 refine⟨mC,hn _ eC,fun h' hs'=>?_⟩;exact aQ (g.trans g2) (Rel.reprot (os':=[]) R3 (gx hs'.extBut) (fun p hp=>nomatch hp) W1) (w.trans ⟨rfl,rfl,rfl⟩) .next hq
noncomputable def cm (es:List DictEntry) (fs:List (Int × V)):List (Int × Value):=(es.zip fs).map fun p=>(p.2.1,p.1.val)
theorem Ds.inv {e:DictEntry}{f:Int × V}(r:Ds c (e::es) (f::fs)):(∃ t,e.key=.int f.1 t/\e.hash=hashInt f.1)/\c.R e.val f.2/\Ds c es fs:=
 ⟨r.2.1 0 e f rfl rfl,r.2.2 0 e f rfl rfl,by simpa using r.1,fun i e' f' a b=>r.2.1 (i+1) e' f' (by simpa using a) (by simpa using b),fun i e' f' a b=>r.2.2 (i+1) e' f' (by simpa using a) (by simpa using b)⟩
theorem Ds.cons {e:DictEntry}{f:Int × V}(hk:∃ t,e.key=.int f.1 t/\e.hash=hashInt f.1) (hv:c.R e.val f.2) (r:Ds c es fs):Ds c (e::es) (f::fs):=
 ⟨by simp[r.1],fun i e' f' a b=>by
  cases i with
 |zero=>simp at a b;subst a;subst b;exact hk
 |succ i=>exact r.2.1 i e' f' (by simpa using a) (by simpa using b),fun i e' f' a b=>by
  cases i with
 |zero=>simp at a b;subst a;subst b;exact hv
 |succ i=>exact r.2.2 i e' f' (by simpa using a) (by simpa using b)⟩
@[elab_as_elim] theorem Ds.ind {P:List DictEntry->List (Int × V)->Prop}(h0:P [] []) (h1:∀ e es a b fs t,e.key=.int a t->e.hash=hashInt a->c.R e.val b->Ds c es fs->P es fs->P (e::es) ((a,b)::fs)) {es:List DictEntry}{fs:List (Int × V)}(r:Ds c es fs):P es fs:=by
 induction es generalizing fs with
|nil=>
  obtain rfl:=W3.mp r.1.symm;exact h0
|cons e es ih=>induction fs with
 |nil=>exact nomatch r.1
 |cons f fs=>
   obtain⟨⟨t,k,hh⟩,hv,r'⟩:=r.inv;exact h1 e es f.1 f.2 fs t k hh hv r' (ih r')
theorem Ct {a:Int}{l:List (Int × Value)}:valueAt ((a,v)::l) a=some v:=by
 unfold valueAt;rw[List.find?_cons,decide_eq_true rfl];rfl
theorem Cu {a k:Int}{l:List (Int × Value)}(q:k≠a):valueAt ((a,v)::l) k=valueAt l k:=by
 unfold valueAt;rw[List.find?_cons,decide_eq_false (Ne.symm q)]
theorem Ds.kv (r:Ds c es fs):Pairs (intKind PySem.Challenge.rw_sq0065_01.row.prog x.W.w) es (cm es fs)/\(cm es fs).map (fun q=>q.1)=fs.map (fun q=>q.1)/\
  (∀ e∈es,∃ k,(intKind PySem.Challenge.rw_sq0065_01.row.prog x.W.w).is k e.key=true/\e.hash=(intKind PySem.Challenge.rw_sq0065_01.row.prog x.W.w).hash k)/\∀ k,(∀ u,fs.lookup k=some u->∃ v,valueAt (cm es fs) k=some v/\c.R v u)/\(fs.lookup k=none->valueAt (cm es fs) k=none):=
 Ds.ind ⟨.nil,rfl,(fun ω h=>nomatch h),fun ω=>⟨fun ω h=>(nomatch h),fun ω=>rfl⟩⟩ (fun e es a b fs t hk hh hv ω ih=>by
  obtain⟨p1,p2,p3,p4⟩:=ih;have hi:(intKind PySem.Challenge.rw_sq0065_01.row.prog x.W.w).is a e.key=true:=by rw[hk];exact beq_self_eq_true a
  refine⟨.cons hi rfl p1,congrArg (List.cons a) p2,fun e' h'=>(V3.mp h').elim (fun q=>q ▸ ⟨a,hi,hh⟩) (p3 e'),fun k=>?_⟩;show(∀ u,((a,b)::fs).lookup k=some u->∃ v,valueAt ((a,e.val)::cm es fs) k=some v/\c.R v u)/\(((a,b)::fs).lookup k=none->valueAt ((a,e.val)::cm es fs) k=none);by_cases q:k=a
  ·subst q;exact⟨fun u hu=>⟨_,Ct,U1 (fn.symm.trans hu) ▸ hv⟩,fun z=>nomatch fn.symm.trans z⟩
  ·rw[fQ q,Cu q];exact p4 k) r
theorem je {n:Nat}(hg:h.get? a=some (dictOf es n)) (nd:(fs.map (fun q=>q.1)).Nodup) (r:Ds c es fs):h.DictOf (intKind PySem.Challenge.rw_sq0065_01.row.prog x.W.w) a (cm es fs):=by
 obtain⟨p1,p2,p3,_⟩:=Ds.kv (x:=x) r;exact⟨_,es.toArray,n,hg,⟨rfl,rfl,rfl⟩,rfl,fun e he=>p3 e (by simpa using he),by simpa using p1,by rw[p2];exact nd⟩
noncomputable def vh (x:Cx) (c:Cfg) (h:Heap) (a:Addr) (fs:List (Int × V)):Prop:=∃ es n,h.get? a=some (dictOf es n)/\(fs.map (fun q=>q.1)).Nodup/\(a == sysModules)=false/\Ds c es fs
noncomputable def gy (mh:MH) (v:V) (k:List (Int × V)->Prop):Prop:=match v with
|.dct fs=>k fs
|.ref l=>(match mh.m l with|some (.dict fs)=>k fs|_=>False)
|_=>False
theorem nO {st:St}{d:V}{k:List (Int × V)->Prop}(R:Rel x c st h) (r:c.R v d) (hd:gy st.mh d k):∃ a fs,v=.ref a/\vh x c h a fs/\k fs:=by
 unfold gy at hd;rcases d with _|_|_|_|_|_|_|_|_|_<;>try exact hd.elim
 ·obtain⟨a,es,n,rfl,h1,h2,h3,h4,h5⟩:=VR.inv r;exact⟨a,_,rfl,⟨es,n,R.kn h1,h2.1,h2.2,h3,h4,h5⟩,hd⟩
 ·dsimp only at hd;generalize e:st.mh.m _=o at hd;rcases o with _|(_|_|_|_)<;>try exact hd.elim
  ·obtain⟨a,rfl,ha⟩:=eO r;obtain⟨a',es,n,h1,h2,h3,h5,h4⟩:=R.mo e;obtain rfl:=U1 (ha.symm.trans h1);exact⟨a,_,rfl,⟨es,n,h3,h5.1,h5.2,h4⟩,hd⟩
theorem jO (k:Int) (t:Tok):(intKind PySem.Challenge.rw_sq0065_01.row.prog x.W.w).is k (.int k t)=true:=by show(k == k)=true;simp
noncomputable def ee {α:Type}(o:Option α) (k:α->Prop):Prop:=match o with|some u=>k u|none=>False
theorem nP {α:Type}{o:Option α}{k:α->Prop}(h:ee o k):∃ u,o=some u/\k u:=by
 rcases o with _|u
 ·exact h.elim
 ·exact⟨u,rfl,h⟩
noncomputable def b5 (xs:List V) (j:Int) (k:V->Prop):Prop:=
 if 0<=j then j < 1000000/\ee xs[j.toNat]? k
 else -1000000<=j/\-(xs.length:Int)<=j/\ee xs[(j+xs.length).toNat]? k
noncomputable def bY (mh:MH) (v i:V) (k:V->Prop):Prop:=match v,i with
|.tup xs,.int j=>b5 xs j k
|.lst xs,.int j=>b5 xs j k
|.dct fs,.int j=>(match fs.lookup j with|some u=>k u|none=>False)
|.ref l,.int j=>(match mh.m l with
  |some (.list xs)=>b5 xs j k
  |some (.arr xs)=>b5 xs j k
  |some (.dict fs)=>(match fs.lookup j with|some u=>k u|none=>False)
  |_=>False)
|_,_=>False
set_option tactic.hygienic true in
theorem qL {xs:List V}{j:Int}{t:Tok}(hl:s.heap.IsList a vs.toArray) (rs:Rs c vs xs) (h:b5 xs j k)
  (q:∀ v u,c.R v u->k u->Q v s):wpAny x.W.M x.A (getItem (.ref a) (.int j t)) Q E s:=by
 unfold b5 at h
 split at h
 ·rename_i h0;obtain⟨h1,h2⟩:=h;obtain⟨u,hu,h2⟩:=nP h2;obtain⟨v,hv,rv⟩:=rs.get hu;exact wpAny_getItem_list hl h0 (by lia) (x:=v) (by simpa using hv) (q v u rv h2)
 ·rename_i h0;obtain⟨h1,h3,h2⟩:=h;obtain⟨u,hu,h2⟩:=nP h2;obtain⟨v,hv,rv⟩:=rs.get hu;have e:vs.length=xs.length:=rs.1;exact wpAny_getItem_list_neg hl (by exact Z5.mp ‹_›) (by simp only[U9];lia) (by lia) (x:=v) (by simp only[U9,e];simpa using hv) (q v u rv h2)
set_option tactic.hygienic true in
theorem Cv {xs:List V}{j:Int}{t:Tok}(hl:s.heap.IsTuple a vs.toArray) (rs:Rs c vs xs) (h:b5 xs j k)
  (q:∀ v u,c.R v u->k u->Q v s):wpAny x.W.M x.A (getItem (.ref a) (.int j t)) Q E s:=by
 have e:vs.length=xs.length:=rs.1;unfold b5 at h
 split at h
 ·rename_i h0;obtain⟨h1,h2⟩:=h;obtain⟨u,hu,h2⟩:=nP h2;obtain⟨v,hv,rv⟩:=rs.get hu;have hlt:j.toNat < vs.length:=(W5.mp hv).1;refine PyProof.Rows.getItem_tuple (j:=j.toNat) hl (by lia) (by lia) ?_ (x:=v) (by simpa using hv) (q v u rv h2);have hi:¬ j < 0:=Z6.mpr h0;unfold seqIndex?;simp only[U9,hi,if_false];rw[if_pos (by simp only[U3,decide_eq_true_eq];exact⟨h0,(Z4 h0).mp hlt⟩)]
 ·rename_i h0;obtain⟨h1,h3,h2⟩:=h;obtain⟨u,hu,h2⟩:=nP h2;obtain⟨v,hv,rv⟩:=rs.get hu;refine PyProof.Rows.getItem_tuple (j:=(j+vs.length).toNat) hl (by lia) (by lia) ?_ (x:=v) (by rw[e];simpa using hv) (q v u rv h2);rw[U9];exact seqIndex_neg (by exact Z5.mp ‹_›) (by lia)
theorem vi {st:St}{i:Value}{v₀ i₀:V}(R:Rel x c st s.heap) (r:c.R v v₀) (ri:c.R i i₀) (h:bY st.mh v₀ i₀ k)
  (q:∀ v u tk,c.R v u->k u->Q v { s with toks:=tk }):(∃ a T id,v=.ref a/\s.TypeIs (.ref a) T/\typeLookup (.type T) "__getitem__"=pure (some (.builtin id)))/\wpAny x.W.M x.A (getItem v i) Q E s:=by
 have dict:∀ {a:Addr}{fs:List (Int × V)}{j:Int}{t:Tok},vh x c s.heap a fs->(match fs.lookup j with|some u=>k u|none=>False)->s.TypeIs (.ref a) "dict"/\wpAny x.W.M x.A (getItem (.ref a) (.int j t)) Q E s:=by
  rintro a fs j t ⟨es,n,hg,nd,hs,r⟩ h;have D:=je (x:=x) hg nd r;refine⟨D.typeIs,?_⟩;rcases hu:fs.lookup j with _|u
  ·rw[hu]at h;exact h.elim
  ·rw[hu]at h;obtain⟨v,hv,rv⟩:=(((Ds.kv (x:=x) r).2.2.2 j).1 u hu);exact wpAny_getItem_of (k:=j) (jO j t) D.mapOf hv (q v u _ rv h)
 unfold bY at h;rcases v₀ with _|_|_|_|_|_|_|fs|_|_<;>try exact h.elim
 all_goals rcases i₀ with _|_|_|_|_|_|_|_|_|_<;>try exact h.elim
 ·obtain⟨t,rfl⟩:=bi ri;obtain⟨a,ws,rfl,hl,rs⟩:=R.tupL r;exact⟨⟨a,"tuple",_,rfl,hl.typeIs,PyProof.Rows.slot_tuple_getitem.lookup⟩,Cv hl rs h fun v u rv ku=>q v u _ rv ku⟩
 ·obtain⟨t,rfl⟩:=bi ri;obtain⟨a,ws,rfl,hl,rs⟩:=R.lstL r;exact⟨⟨a,"list",_,rfl,hl.typeIs,slot_list_getitem.lookup⟩,qL hl rs h fun v u rv ku=>q v u _ rv ku⟩
 ·obtain⟨t,rfl⟩:=bi ri;obtain⟨a,fs',rfl,D,rfl⟩:=nO (k:=fun z=>z=fs) R r (by unfold gy;rfl);obtain⟨h1,h2⟩:=dict D h;exact⟨⟨a,"dict",_,rfl,h1,slot_dict_getitem.lookup⟩,h2⟩
 ·obtain⟨t,rfl⟩:=bi ri;dsimp only at h;generalize e:st.mh.m _=o at h;rcases o with _|(_|_|_|fs)<;>try exact h.elim
  ·obtain⟨a,ws,rfl,_,_,hl,rs⟩:=R.refL r (.inl e);exact⟨⟨a,"list",_,rfl,hl.typeIs,slot_list_getitem.lookup⟩,qL hl rs h fun v u rv ku=>q v u _ rv ku⟩
  ·obtain⟨a,ws,rfl,_,_,hl,rs⟩:=R.refL r (.inr e);exact⟨⟨a,"list",_,rfl,hl.typeIs,slot_list_getitem.lookup⟩,qL hl rs h fun v u rv ku=>q v u _ rv ku⟩
  ·obtain⟨a,fs',rfl,D,rfl⟩:=nO (k:=fun z=>z=fs) R r (by unfold gy;dsimp only;rw[e]);obtain⟨h1,h2⟩:=dict D h;exact⟨⟨a,"dict",_,rfl,h1,slot_dict_getitem.lookup⟩,h2⟩
noncomputable def au (To Ti:TE):TE:=fun Q X st=>To (fun v st=>Ti (fun i st=>bY st.mh v i fun u=>Q u st) X st) X st
theorem aG {o i:Expr}{p:Pos}{To Ti:TE}(ho:x.E o To) (hi:x.E i Ti) (hs:∀ a b,subscripted i false a b=operate [a,b] (getItem a b):=by intro _ _;rfl):x.E (.Subscript o i p) (au To Ti):=fun Q X st hT c s R=>
 Subscript_ (ho.go hT R fun v v₀ c1 st1 s1 g1 w1 R1 r1 h1=>hi.go2 h1 g1 w1 R1 fun iv i₀ c2 st2 s2 g2 w2 g R2 r2 h2=>by
  obtain⟨⟨a,T,id,rfl,hT,hl⟩,h⟩:=vi (Q:=fun v s'=>x.Po vR Q c s v s') (E:=x.EX X c s) R2 (r1.gr g) r2 h2 fun v u tk rv hu=>aQ (s':={ s2 with toks:=tk }) g2 R2 (w2.trans ⟨rfl,rfl,rfl⟩) rv hu
  exact tail_any hT hl h (hs _ _))
end
noncomputable def gz (fs:List (Int × V)) (j:Int) (u:V):List (Int × V):=if fs.any (fun f=>f.1=j)then fs.map (fun f=>if f.1=j then(f.1,u)else f)else fs++[(j,u)]
noncomputable def fw (mh:MH) (v i u:V) (k:MH->Prop):Prop:=match v,i with
|.ref l,.int j=>(match mh.m l with
  |some (.arr xs)=>0<=j/\j < 1000000/\j < xs.length/\k (mh.set l (.arr (xs.set j.toNat u)))
  |some (.dict fs)=>fs.length<=1000/\k (mh.set l (.dict (gz fs j u)))
  |_=>False)
|_,_=>False
theorem Rs.set {c:Cfg}{v:Value}{u:V}(h:c.R v u) {vs:List Value}{xs:List V}(r:Rs c vs xs):∀ j,Rs c (vs.set j v) (xs.set j u):=
 Rs.ind (fun ω=>.nil c) (fun ω ω ω ω a r ih j=>by
  induction j with
 |zero=>exact .cons h r
 |succ j=>exact .cons a (ih j)) r
inductive KV (c:Cfg):List (Int × Value)->List (Int × V)->Prop
|nil:KV c [] []
|cons (k:Int) {v:Value}{u:V}{kvs:List (Int × Value)}{fs:List (Int × V)}:c.R v u->KV c kvs fs->KV c ((k,v)::kvs) ((k,u)::fs)
theorem KV.app {c:Cfg}{a b:List (Int × Value)}{p q:List (Int × V)}(h:KV c a p) (r:KV c b q):KV c (a++b) (p++q):=by
 induction h with
|nil=>exact r
|cons k hv _ ih=>exact .cons k hv ih
theorem KV.keys {c:Cfg}{a:List (Int × Value)}{p:List (Int × V)}(h:KV c a p):a.map (fun q=>q.1)=p.map (fun q=>q.1):=by
 induction h with
|nil=>rfl
|cons k _ _ ih=>simp[ih]
theorem KV.any {c:Cfg}{a:List (Int × Value)}{p:List (Int × V)}(h:KV c a p) (j:Int):a.any (fun kv=>decide (kv.1=j))=p.any (fun f=>decide (f.1=j)):=by
 induction h with
|nil=>rfl
|cons k _ _ ih=>simp[ih]
theorem KV.put {c:Cfg}{a:List (Int × Value)}{p:List (Int × V)}(h:KV c a p) (j:Int) {v:Value}{u:V}(hv:c.R v u):KV c (a.map fun kv=>if kv.1=j then(kv.1,v)else kv) (p.map fun f=>if f.1=j then(f.1,u)else f):=by
 induction h with
|nil=>exact .nil
|cons k hw _ ih=>
  simp only[V1];by_cases q:k=j
  ·rw[if_pos q,if_pos q];exact .cons k hv ih
  ·rw[if_neg q,if_neg q];exact .cons k hw ih
theorem KV.store {c:Cfg}{a:List (Int × Value)}{p:List (Int × V)}(h:KV c a p) (j:Int) {v:Value}{u:V}(hv:c.R v u):KV c (PySem.stored a j v) (gz p j u):=by
 unfold PySem.stored gz;rw[h.any j]
 split
 ·exact h.put j hv
 ·exact h.app (.cons j hv .nil)
section
variable {c:Cfg}{h:Heap}{o:Expr}{p p':Pos}{To:TE}
variable {x:Cx}
theorem Ds.toKV {es:List DictEntry}{fs:List (Int × V)}(r:Ds c es fs):KV c (cm es fs) fs:=
 Ds.ind .nil (fun ω ω a ω ω ω ω ω hv ω ih=>.cons a hv ih) r
set_option tactic.hygienic true in
theorem Ds.ofKV {es:List DictEntry}{kvs:List (Int × Value)}{fs:List (Int × V)}(p:Pairs (intKind PySem.Challenge.rw_sq0065_01.row.prog x.W.w) es kvs)
  (hk:∀ e∈es,∃ k,(intKind PySem.Challenge.rw_sq0065_01.row.prog x.W.w).is k e.key=true/\e.hash=(intKind PySem.Challenge.rw_sq0065_01.row.prog x.W.w).hash k) (h:KV c kvs fs):Ds c es fs:=by
 induction p generalizing fs with
|nil=>cases h;exact⟨rfl,fun i e f a=>by simp at a,fun i e f a=>by simp at a⟩
|cons h1 h2 _ ih=>
  rename_i e kv es kvs _;cases h with
 |cons k hv hr=>
   obtain⟨t,ht⟩:=Value.isInt_shape h1;obtain⟨k',hk1,hk2⟩:=hk e (.head _);have:k'=k:=Value.isInt_inj _ _ _ hk1 h1;subst this;exact Ds.cons ⟨t,ht,hk2⟩ (h2 ▸ hv) (ih (fun e he=>hk e (.tail _ he)) hr)
theorem Rel.turn1 {st:St}{h':Heap}{l:aT}{a:Addr}{o:MO}{ob':Obj}(R:Rel x c st h) (ha:c.own a=some l) (k:∀ b ob,b≠a->h.get? b=some ob->h'.get? b=some ob) (hn:h'.get? a=some ob') (hd:∀ vs,ob'.data≠.fields vs)
  (ho:MOk c h' l o):Rel x c { st with mh:=st.mh.set l o } h':=by
 obtain⟨m,pc,r,lr,pr⟩:=R;refine⟨m,pc,r.turn (fun b ob hb e=>k b ob (fun z=>hb (z ▸ ha)) e) (fun b ob hb e=>?_) ho,lr,pr⟩;by_cases q:b=a
 ·subst q;exact⟨ob',hn,hd⟩
 ·obtain⟨ob2,e2,e3⟩:=r.live b l hb;exact⟨ob,k b ob q e,by obtain rfl:=U1 (e.symm.trans e2);exact e3⟩
theorem vj {st:St}{s:Shared}{v i w:Value}{v₀ i₀ u:V}{k:MH->Prop}{E:Value->Shared->Prop}{Q:Unit->Shared->Prop}(R:Rel x c st s.heap) (r:c.R v v₀) (ri:c.R i i₀) (rw:c.R w u) (h:fw st.mh v₀ i₀ u k)
  (q:∀ mh h' tk,k mh->Rel x c { st with mh:=mh } h'->Q () { s with heap:=h',toks:=tk }):wpAny x.W.M x.A (setItem v i w) Q E s:=by
 unfold fw at h;rcases v₀ with _|_|_|_|_|_|_|_|l|_<;>try exact h.elim
 rcases i₀ with _|_|j|_|_|_|_|_|_|_<;>try exact h.elim
 ·obtain⟨t,rfl⟩:=bi ri;dsimp only at h;generalize e:st.mh.m _=o at h;rcases o with _|(_|_|xs|fs)<;>try exact h.elim
  ·have h0:=h.1;have h1:=h.2.1;have h2:=h.2.2.1;have h3:=h.2.2.2;clear h;obtain⟨a,vs,rfl,ha,hown,hl,rs⟩:=R.refL r (.inr e);have el:vs.length=xs.length:=rs.1;refine wpAny_setItem_list hl h0 (by lia) (by simp only[U9];lia) fun h' hl' hs'=>?_
   rw[List.setIfInBounds_toArray]at hl';refine hl'.elim fun o' z0=>?_;have e1:=z0.1;have e2:=z0.2.1;refine z0.2.2.elim fun n' e3=>?_;clear z0 hl'
   refine q _ h' _ h3 (R.turn1 hown (fun b ob hb e=>hs'.extBut b ob hb e) e1 (fun vs=>by rw[e3];simp) ⟨a,o',_,n',ha,hown,e1,e2,e3,rs.set rw _⟩)
  ·have hz:=h.1;have hk:=h.2;clear h;obtain⟨a,rfl,ha⟩:=eO r;obtain⟨a',es,n,h1,h2,h3,⟨nd,hs⟩,h4⟩:=R.mo e;obtain rfl:=U1 (ha.symm.trans h1);have D:=je (x:=x) h3 nd h4;refine wpAny_setItem_pairs (k:=j) (jO j t) D (fun h' hD' hs'=>?_) (by
    have:(cm es fs).length=fs.length:=by have:=congrArg List.length h4.toKV.keys;simpa using this
    rw[this,sizeLine_eq];(first|exact ba ‹_› rfl|lia))
   refine hD'.elim fun o' z0=>?_;refine z0.elim fun es' z1=>?_;refine z1.elim fun ep z2=>?_;have e1:=z2.1;have d1:=z2.2.1;have d4:=z2.2.2.1;have d5:=z2.2.2.2.1;have d6:=z2.2.2.2.2.1;have d7:=z2.2.2.2.2.2;clear z2 z1 z0 hD'
   obtain rfl:=uY d1 d4;have kv:=h4.toKV.store j rw;refine q _ h' _ hk (R.turn1 h2 (fun b ob hb e=>hs'.extBut b ob hb e) e1 (fun vs=>by simp) ⟨a,es'.toList,ep,h1,h2,e1,⟨by rw[<- kv.keys];exact d7,hs⟩,Ds.ofKV (x:=x) d6 (fun e he=>d5 e (by simpa using he)) kv⟩)
noncomputable def jf (Tv To Ti:TE):TS:=fun Q X st=>Tv (fun u st=>To (fun o st=>Ti (fun i st=>fw st.mh o i u fun mh=>Q .next { st with mh:=mh }) X st) X st) X st
theorem nQ {i e:Expr}{Tv Ti:TE}(hv:x.E e Tv) (ho:x.E o To) (hi:x.E i Ti) (hs:autoParam (swapsWith e (some (.Subscript o i p')) p.line x.env=pure false) tR):x.S (.Assign [.Subscript o i p'] e p) (jf Tv To Ti):=fun Q X st hT c s R=>
 wpAny_Assign_Subscript (hv.go hT R fun w u c1 st1 s1 g1 w1 R1 r1 h1=>ho.go2 h1 g1 w1 R1 fun v v₀ c2 st2 s2 g2 w2 ga R2 r2 h2=>hi.go2 h2 g2 w2 R2 fun iv i₀ c3 st3 s3 g3 w3 gb R3 r3 h3=>
  vj R3 (r2.gr gb) r3 (r1.gr (ga.trans gb)) h3 fun mh h' tk hk R'=>aQ g3 R' (w3.trans ⟨rfl,rfl,rfl⟩) .next hk) hs
noncomputable def jg (f:Int->Int->Int) (To Ti Tv:TE):TS:=fun Q X st=>To (fun o st=>Ti (fun i st=>bY st.mh o i fun old=>Tv (fun v st=>match old,v with
|.int a,.int b=>fw st.mh o i (.int (f a b)) fun mh=>Q .next { st with mh:=mh }
|_,_=>False) X st) X st) X st
theorem qM {i e:Expr}{op:Operator}{f:Int->Int->Int}{Ti Tv:TE}
  (op_ok:∀ (i j:Int) (t u:Tok) (Q:Value->Shared->Prop) (E:Value->Shared->Prop) (s:Shared),Q (.int (f i j) s.toks) { s with toks:=s.toks+1 }->wpAny x.W.M x.A (inplaceOp op (.int i t) (.int j u)) Q E s)
  (ho:x.E o To) (hi:x.E i Ti) (hv:x.E e Tv) (hh:∀ ov iv new,augStore i ov iv new=(do holding [new,ov,iv] (setItem ov iv new);release [new,ov,iv] [];pure .next):=by intros;rfl) :
  x.S (.AugAssign (.Subscript o i p') op e p) (jg f To Ti Tv):=fun Q X st hT c s R=>
 wpAny_AugAssign_SubscriptAny (ho.go hT R fun ov o₀ c1 st1 s1 g1 w1 R1 r1 h1=>hi.go2 h1 g1 w1 R1 fun iv i₀ c2 st2 s2 g2 w2 ga R2 r2 h2=>by
  refine(vi (Q:=fun v s'=>wpAny x.W.M x.A (eval e x.env) (fun v' s₄=>wpAny x.W.M x.A (inplaceOp op v v') (fun new s₅=>wpAny x.W.M x.A (setItem ov iv new) (fun ω=>x.Po FlR Q c s .next) (x.EX X c s) s₅) (x.EX X c s) s₄) (x.EX X c s) s') (E:=x.EX X c s) R2 (r1.gr ga) r2 h2 fun v u tk rv hu=>?_).2;refine hv.go2 (s:={ s2 with toks:=tk }) hu g2 (w2.trans ⟨rfl,rfl,rfl⟩) R2 fun v' b c3 st3 s3 g3 w3 gb R3 r3 h3=>?_
  rcases u with _|_|_|_|_|_|_|_|_|_<;>try exact h3.elim
  rcases b with _|_|_|_|_|_|_|_|_|_<;>try exact h3.elim
  ·obtain⟨t,rfl⟩:=bi (rv.gr gb);obtain⟨t',rfl⟩:=bi r3;refine op_ok _ _ _ _ _ _ _ ?_;exact vj (s:={ s3 with toks:=s3.toks+1 }) R3 (r1.gr (ga.trans gb)) (r2.gr gb) (.int _ _) h3 fun mh h' tk' hk R'=>aQ g3 R' (w3.trans ⟨rfl,rfl,rfl⟩) .next hk) hh
noncomputable def bAppend:Fn:=fun us Q X mh=>match us with
|[.ref l,u]=>(match mh.m l with|some (.list xs)=>xs.length<=10000/\Q .none (mh.set l (.list (xs++[u])))|_=>False)
|_=>False
noncomputable def bPop:Fn:=fun us Q X mh=>match us with
|[.ref l,.int j]=>j=0/\(match mh.m l with|some (.list (y::ys))=>ys.length<=10000/\Q y (mh.set l (.list ys))|_=>False)
|_=>False
noncomputable def bInsert:Fn:=fun us Q X mh=>match us with
|[.ref l,.int j,u]=>j=0/\(match mh.m l with|some (.list xs)=>xs.length<=10000/\Q .none (mh.set l (.list (u::xs)))|_=>False)
|_=>False
noncomputable def bExtend:Fn:=fun us Q X mh=>match us with
|[.ref l,.lst ys]=>(match mh.m l with|some (.list xs)=>xs.length+ys.length<=10000/\Q .none (mh.set l (.list (xs++ys)))|_=>False)
|_=>False
theorem Rel.refLL {st:St}(R:Rel x c st h) {v:Value}{l:aT}{xs:List V}(r:c.R v (.ref l)) (e:st.mh.m l=some (.list xs)):∃ a vs n,v=.ref a/\c.adr l=some a/\c.own a=some l/\h.get? a=some (listOf vs.toArray n)/\Rs c vs xs:=by
 obtain⟨a,rfl,ha⟩:=eO r;obtain⟨a',vs,n,h1,h2,h3,h4⟩:=R.mo e;obtain rfl:=U1 (ha.symm.trans h1);exact⟨a,vs,n,rfl,ha,h2,h3,h4⟩
theorem Rel.listUp {st:St}{l:aT}{a:Addr}{vs:List Value}{n:Nat}{ws:List Value}{ys:List V}(R:Rel x c st h) (ha:c.adr l=some a) (ho:c.own a=some l) (hg:h.get? a=some (listOf vs.toArray n)) (f:Array Value->Array Value)
  (hf:f vs.toArray=ws.toArray) (rs:Rs c ws ys):Rel x c { st with mh:=st.mh.set l (.list ys) } (h.update a (Obj.mapSeq f)):=by
 have hn:=IsL.update (h:=h) (l:=a) (items:=vs.toArray) (n:=n) hg f;rw[hf]at hn;refine R.turn1 ho (fun b ob hb e=>(Heap.get?_update_other h _ (Ne.symm hb)).trans e) hn (fun vs=>by simp) ⟨a,ws,_,ha,ho,hn,rs⟩
theorem qN:x.D (.builtin "list.append") bAppend:=by
 intro us Q X st hF c s vs R r;unfold bAppend at hF;rcases us with _|⟨u1,us⟩<;>try exact hF.elim
 rcases u1 with _|_|_|_|_|_|_|_|_|_<;>try exact hF.elim
 all_goals rcases us with _|⟨u2,us⟩<;>try exact hF.elim
 all_goals rcases us with _|⟨u3,us⟩<;>try exact hF.elim
 ·obtain⟨v,v',rfl,rv,rv'⟩:=iq r;dsimp only at hF;generalize e:st.mh.m _=o at hF;rcases o with _|(_|xs|_|_)<;>try exact hF.elim
  ·obtain⟨a,ws,n,rfl,ha,ho,hg,rs⟩:=R.refLL rv e;refine call_meets slot_list_append ⟨_,hg,rfl⟩ entry_list_append (args_list_append _ _) (PySem.list_append a ws.toArray n v' (by rw[U9];exact eQ rs hF.1)) ⟨hg,?_⟩;exact bK (st:={ st with mh:=_ }) (R.listUp ha ho hg _ (ws:=ws++[v']) (by simp) (rs.append (Rs.cons rv' (Rs.nil _)))) ⟨rfl,rfl,rfl⟩ .none hF.2
theorem qO:x.D (.builtin "list.pop") bPop:=by
 intro us Q X st hF c s vs R r;unfold bPop at hF;rcases us with _|⟨u1,us⟩<;>try exact hF.elim
 rcases u1 with _|_|_|_|_|_|_|_|_|_<;>try exact hF.elim
 all_goals rcases us with _|⟨u2,us⟩<;>try exact hF.elim
 rcases u2 with _|_|_|_|_|_|_|_|_|_<;>try exact hF.elim
 all_goals rcases us with _|⟨u3,us⟩<;>try exact hF.elim
 ·obtain⟨v,v',rfl,rv,rv'⟩:=iq r;obtain⟨t,rfl⟩:=bi rv';obtain⟨rfl,hF⟩:=hF;generalize e:st.mh.m _=o at hF;rcases o with _|(_|(_|⟨y,ys⟩)|_|_)<;>try exact hF.elim
  ·obtain⟨a,ws,n,rfl,ha,ho,hg,rs⟩:=R.refLL rv e;obtain⟨w,ws,rfl,ry,rs'⟩:=jd rs;have hz:(w::ws).length<=sizeLine:=by rw[V4,rs'.1,sizeLine_eq];have:=hF.1;(first|exact dm ‹_› rfl|lia)
   refine call_meets PySem.F.slot_list_pop ⟨_,hg,rfl⟩ PySem.F.entry_list_pop (PySem.F.args_list_pop_2 _ _) (PySem.MeetsSeq.list_pop_at a (w::ws).toArray n 0 t 0 w (by decide) (by simp[seqIndex?]) (by simp) (by rw[U9];exact hz)) ⟨hg,?_⟩;exact bK (st:={ st with mh:=_ }) (R.listUp ha ho hg _ (ws:=ws) (by simp[Array.eraseIdxIfInBounds]) rs') ⟨rfl,rfl,rfl⟩ ry hF.2
theorem Cw:x.D (.builtin "list.insert") bInsert:=by
 intro us Q X st hF c s vs R r;unfold bInsert at hF;rcases us with _|⟨u1,us⟩<;>try exact hF.elim
 rcases u1 with _|_|_|_|_|_|_|_|_|_<;>try exact hF.elim
 all_goals rcases us with _|⟨u2,us⟩<;>try exact hF.elim
 rcases u2 with _|_|_|_|_|_|_|_|_|_<;>try exact hF.elim
 all_goals rcases us with _|⟨u3,us⟩<;>try exact hF.elim
 all_goals rcases us with _|⟨u4,us⟩<;>try exact hF.elim
 ·obtain⟨v,v',v'',rfl,rv,rv',rv''⟩:=uW r;obtain⟨t,rfl⟩:=bi rv';obtain⟨rfl,hF⟩:=hF;generalize e:st.mh.m _=o at hF;rcases o with _|(_|xs|_|_)<;>try exact hF.elim
  ·obtain⟨a,ws,n,rfl,ha,ho,hg,rs⟩:=R.refLL rv e;refine call_meets PySem.F.slot_list_insert ⟨_,hg,rfl⟩ PySem.F.entry_list_insert (PySem.F.args_list_insert_3 _ _ _) (PySem.AutoSeq1.list_insert_list_int_val_1 a ws.toArray n 0 t v'' (by decide) (by rw[U9];exact eQ rs hF.1)) ⟨hg,?_⟩;exact bK (st:={ st with mh:=_ }) (R.listUp ha ho hg _ (ws:=v''::ws) (by simp) (Rs.cons rv'' rs)) ⟨rfl,rfl,rfl⟩ .none hF.2
theorem Cy:x.D (.builtin "list.extend") bExtend:=by
 intro us Q X st hF c s vs R r;unfold bExtend at hF;rcases us with _|⟨u1,us⟩<;>try exact hF.elim
 rcases u1 with _|_|_|_|_|_|_|_|_|_<;>try exact hF.elim
 all_goals rcases us with _|⟨u2,us⟩<;>try exact hF.elim
 rcases u2 with _|_|_|_|_|_|_|_|_|_<;>try exact hF.elim
 all_goals rcases us with _|⟨u3,us⟩<;>try exact hF.elim
 ·obtain⟨v,v',rfl,rv,rv'⟩:=iq r;dsimp only at hF;generalize e:st.mh.m _=o at hF;rcases o with _|(_|xs|_|_)<;>try exact hF.elim
  ·obtain⟨a,ws,n,rfl,ha,ho,hg,rs⟩:=R.refLL rv e;obtain⟨b,bE,n2,rfl,h1,rs2⟩:=nt rv';have h4:bE.size=_:=rs2.1;have hb:=R.kn h1;have e1:ws.length=xs.length:=rs.1;have hz:=hF.1;have e2:Builtin.List.listTooLong (ws.toArray.size+bE.size)=false:=by
    unfold Builtin.List.listTooLong;rw[U9,h4,e1];simp only[decide_eq_false_iff_not,sizeLine_eq]
    lia
   refine call_meets PySem.F.slot_list_extend ⟨_,hg,rfl⟩ PySem.F.entry_list_extend (PySem.F.args_list_extend_2 _ _) (PySem.AutoSeq1.list_extend_list_list_0 a ws.toArray n b bE n2 (by rw[e2];simp) (by rw[U9];exact eQ rs (by lia)) (by have:=sizeLine_eq;rw[U9,h4,e1];lia)) ⟨hg,hb,?_⟩;exact bK (st:={ st with mh:=_ }) (R.listUp ha ho hg _ (ws:=ws++bE.toList) (by apply Array.ext';simp) (rs.append rs2)) ⟨rfl,rfl,rfl⟩ .none hF.2
noncomputable def iu (mh:MH) (T:String) (o:V):Prop:=match o with
|.ref l=>(match mh.m l with|some (.list _)=>T="list" |some (.dict _)=>T="dict" |_=>False)
|_=>False
noncomputable def cj (T:String) (To:TE) (F:Fn) (Ts:List TE):TE:=fun Q X st=>To (fun o st=>iu st.mh T o/\bh Ts (fun us st=>F (o::us) (fun v mh=>Q v { st with mh:=mh }) X st.mh) X st) X st
theorem vk {st:St}{s:Shared}{v:Value}{o:V}{T:String}(R:Rel x c st s.heap) (r:c.R v o) (h:iu st.mh T o):s.TypeIs v T/\∀ a,v=.ref a->∃ o,s.heap.get? a=some o/\o.dict=none:=by
 unfold iu at h;rcases o with _|_|_|_|_|_|_|_|_|_<;>try exact h.elim
 ·dsimp only at h;generalize e:st.mh.m _=o at h;rcases o with _|(_|_|_|_)<;>try exact h.elim
  ·obtain⟨a,ws,n,rfl,ha,ho,hg,rs⟩:=R.refLL r e;subst h;exact⟨⟨_,hg,rfl⟩,fun b hb=>by cases hb;exact⟨_,hg,rfl⟩⟩
  ·obtain⟨a,rfl,ha⟩:=eO r;obtain⟨a',es,n,h1,h2,h3,h4⟩:=R.mo e;obtain rfl:=U1 (ha.symm.trans h1);subst h;exact⟨⟨_,h3,rfl⟩,fun b hb=>by cases hb;exact⟨_,h3,rfl⟩⟩
theorem vl {n:String}{T id:String}{l:List Expr}{Ts:List TE}{F:Fn}{pl:Sem Bool}(pa:PlainAttrs T) (slot:Slot T (U0 n) id) (hty:typeOf (.builtin id)=pure (.type "method_descriptor")) (ho:x.E o To) (hD:x.D (.builtin id) F) (h:x.Es l Ts)
  (he:autoParam (eval (.Call (.Attribute o (U0 n) p') l [] p) x.env=(do
   let ov <- eval o x.env
   standAt p'.atName
   let (f,first) <- holding [ov] (getMethod ov (U0 n) pl)
   callWith p f first (backTo p (starEach l x.env)) (backToKw p (keywordEach [] x.env)))) tU):x.E (.Call (.Attribute o (U0 n) p') l [] p) (cj T To F Ts):=fun Q X st hT c s R=>by
 refine methodCall_KW (ho.go hT R fun v u c1 st1 s1 g1 w1 R1 r1 h1=>?_) he;obtain⟨hT,hd⟩:=vk R1 r1 h1.1;refine getMethod_builtin hT pa slot hty hd (Calls.callWith_builtin h.plain ?_);refine(nJ (p:=p) (f:=.builtin id) h).go2 h1.2 g1 w1 R1 fun a us c2 st2 s2 g2 w2 g R2 r2 h2=>?_
 obtain⟨ra,ka⟩:=r2;rw[ka];exact dQ g2 w2 (hD _ Q X st2 h2 c2 s2 _ R2 (Rs.cons (r1.gr g) ra))
end
section
variable {c:Cfg}{s:Shared}{n:String}{p:Pos}
variable {x:Cx}
theorem vm {st:St}{v:Value}{u:V}{rest:List String}{E:Value->Shared->Prop}{Q:Unit->Shared->Prop}(R:Rel x c st s.heap) (rv:c.R v u) (hp:st.pend=n::rest)
  (q:∀ c' h',Gr c c'->Rel x c' { loc:=aj n u st.loc,pend:=rest,mh:=st.mh } h'->Q () { s with heap:=h' }):wpAny x.W.M x.A (storeName x.env (U0 n) v) Q E s:=by
 obtain⟨hk',_⟩:=R.fm;obtain⟨m,pc,r,lr,pr⟩:=R;rw[hp]at pr;rcases pc with _|⟨p,pc⟩
 ·exact pr.elim
 ·obtain⟨p1,p2,p3,p4,p5⟩:=pr;have r0:RelH x.W ((x.env,m)::x.fms) ([]++([p]++(pc++x.prot))) c st.mh s.heap:=r;obtain⟨hg,_⟩:=dc (pc:=[]) (os:=[p]) r0 (.head _);obtain⟨r1,f1⟩:=RelH.outFree (pc:=[]) (os:=[p]) r0 (.head _);refine wpAny_storeName_cell hk' p1 p2 ⟨p.2,hg,p3⟩ fun h' hv hs=>?_
  obtain⟨o,ho,hd⟩:=hv;have r2:=r1.sameBut f1 fun b ob hb e=>hs.extBut b ob hb e
  have r3:=r2.learn (fun a ob=>a=p.1/\ob=o) fun a ob e=>by obtain⟨rfl,rfl⟩:=e;exact⟨ho,f1⟩
  have g:=Gr.learn c (fun a ob=>a=p.1/\ob=o);refine q _ h' g ⟨m,pc,r3,fun y v₀ e=>?_,p5⟩;rw[bw]at e;by_cases hy:y=n
  ·subst hy;rw[if_pos rfl]at e;obtain rfl:=U1 e;exact .inr ⟨.inl p1,p.1,o,v,p2,.inr ⟨rfl,rfl⟩,hd,rv.gr g⟩
  ·rw[if_neg hy]at e;exact(lr.gr g) y v₀ e
noncomputable def nS (n:String) (T:TE):TS:=fun Q X st=>T (fun v st=>match st.pend with|m::rest=>m=n/\Q .next { loc:=aj n v st.loc,pend:=rest,mh:=st.mh }|[]=>False) X st
theorem Cz {e:Expr}{p':Pos}{T:TE}(h:x.E e T) (hs:autoParam (swapsWith e (some (.Name (U0 n) p')) p.line x.env=pure false) tR) :
  x.S (.Assign [.Name (U0 n) p'] e p) (nS n T):=fun Q X st hT c s R=>
 wpAny_Assign_Name (h.go hT R fun v u c1 st1 s1 g1 w1 R1 r1 h1=>by
  rcases hp:st1.pend with _|⟨m,rest⟩
  ·rw[hp]at h1;exact h1.elim
  ·rw[hp]at h1;obtain⟨rfl,h1⟩:=h1;exact vm R1 r1 hp fun c' h' g R'=>aQ (g1.trans g) R' (w1.trans ⟨rfl,rfl,rfl⟩) .next h1) hs
noncomputable def lm (n:String):TgF:=fun u st k=>match st.pend with|m::rest=>m=n/\k { loc:=aj n u st.loc,pend:=rest,mh:=st.mh }|[]=>False
noncomputable def dA:List TgF->List V->St->(St->Prop)->Prop
|[],[],st,k=>k st
|f::fs,u::us,st,k=>f u st fun st'=>dA fs us st' k
|_,_,_,_=>False
noncomputable def dB (fs:List TgF):TgF:=fun u st k=>match u with|.tup us=>us.length=fs.length/\dA fs us st k|_=>False
inductive Cx.Tgs (x:Cx):List (Value->Sem Unit)->List TgF->Prop
|nil:Cx.Tgs x [] []
|cons {t:Value->Sem Unit}{ts:List (Value->Sem Unit)}{f:TgF}{fs:List TgF}:x.Tg t f->Cx.Tgs x ts fs->Cx.Tgs x (t::ts) (f::fs)
theorem Cx.Tgs.length {ts:List (Value->Sem Unit)}{fs:List TgF}(h:x.Tgs ts fs):ts.length=fs.length:=by
 induction h with
|nil=>rfl
|cons _ _ ih=>simp[ih]
theorem CA (hk:x.env.kindOf (U0 n)=some .local):x.Tg (bindName x.env (U0 n)) (an n):=fun u st k hf c s v R r Q E q=>
 wpAny_bindName (jK R r hk fun h' R'=>q _ h' _ c (Gr.refl c) hf R')
theorem CB:x.Tg (assign (.Name (U0 n) p) x.env) (lm n):=fun u st k hf c s v R r Q E q=>by
 unfold lm at hf;rcases hp:st.pend with _|⟨m,rest⟩
 ·rw[hp]at hf;exact hf.elim
 ·rw[hp]at hf;obtain⟨rfl,hf⟩:=hf;exact AAD (vm R r hp fun c' h' g R'=>q _ h' s.toks c' g hf R')
theorem vn {ts:List (Value->Sem Unit)}{fs:List TgF}(h:x.Tgs ts fs):∀ {us:List V}{st:St}{k:St->Prop},dA fs us st k->∀ {c:Cfg}{s:Shared}{vs:List Value},Rel x c st s.heap->Rs c vs us->∀ {Q:Unit->Shared->Prop}{E:Value->Shared->Prop},
  (∀ st' h' tk c',Gr c c'->k st'->Rel x c' st' h'->Q () { s with heap:=h',toks:=tk })->wpAny x.W.M x.A (assignInOrder ts vs) Q E s:=by
 induction h with
|nil=>
  intro us st k hg c s vs R r Q E q;cases us with
 |nil=>exact AAA (q st s.heap s.toks c (Gr.refl c) hg R)
 |cons=>exact hg.elim
|cons ht _ ih=>
  intro us st k hg c s vs R r Q E q;rcases us with _|⟨u,us⟩
  ·exact hg.elim
  ·obtain⟨v,ws,rfl,rv,rs⟩:=jd r;refine Z9 (wpAny_holding (ht u st _ hg c s v R rv _ _ fun st' h' tk c' g hk R'=>?_));exact ih (s:={ s with heap:=h',toks:=tk }) hk R' (rs.gr g) fun st'' h'' tk' c'' g' hk' R''=>q st'' h'' tk' c'' (g.trans g') hk' R''
theorem vo (ok:x.Ok) {c:Cfg}{st:St}{s:Shared}{v:Value}{us:List V}(R:Rel x c st s.heap) (r:c.R v (.tup us)) {n:Nat}(hn:n=us.length) {Q:List Value->Shared->Prop}{E:Value->Shared->Prop}
  (q:∀ vs h',Rs c vs us->Rel x c st h'->Q vs { s with heap:=h' }):wpAny x.W.M x.A (unpackItems v n none) Q E s:=by
 obtain⟨a,ws,rfl,ht,rs⟩:=R.tupL r;have e:n=ws.toArray.size:=by rw[hn,U9,rs.1]
 subst e;refine unpackItems_tuple ok.hnd ht fun h' he=>?_
 exact q ws h' rs (R.keeps fun b o e=>he b o (Y1 (AAJ e)) e)
theorem qP (ok:x.Ok) {elts:List Expr}{k:Nat}{p:Pos}{fs:List TgF}(h:x.Tgs ((assignEach elts x.env).map (fun q=>q.2)) fs) (hst:autoParam ((assignEach elts x.env).findIdx? (fun q=>q.1)=none) tR):x.Tg (assign (.Tuple elts k p) x.env) (dB fs):=fun u st kk hf c s v R r Q E q=>by
 unfold dB at hf;rcases u with _|_|_|_|us|_|_|_|_|_<;>try exact hf.elim
 ·obtain⟨hl,hf⟩:=hf;have hlen:(assignEach elts x.env).length=us.length:=by
   have:=h.length;rw[V0]at this;rw[this,hl]
  rw[PyProof.Rows.assign_Tuple];refine Z9 (AAE ?_);unfold unpack;rw[hst];exact Z9 (wpAny_holding (vo ok R r hlen fun vs h' rs R'=>vn h hf R' rs fun st' h'' tk c' g hk R''=>q st' h'' tk c' g hk R''))
noncomputable def ln (fs:List TgF) (T:TE):TS:=fun Q X st=>T (fun v st=>dB fs v st fun st'=>Q .next st') X st
theorem vp (ok:x.Ok) {elts:List Expr}{k:Nat}{e:Expr}{p p':Pos}{fs:List TgF}{T:TE}(h:x.E e T) (hg:x.Tgs ((assignEach elts x.env).map (fun q=>q.2)) fs)
  (hst:autoParam ((assignEach elts x.env).findIdx? (fun q=>q.1)=none) tR) (hs:autoParam (swapsWithSole [.Tuple elts k p'] e p.line x.env=pure false) tR) (hw:autoParam (swappedStores [.Tuple elts k p'] e x.env=pure none) tR) :
  x.S (.Assign [.Tuple elts k p'] e p) (ln fs T):=fun Q X st hT c s R=>
 Assign_Tuple (h.go hT R fun v u c1 st1 s1 g1 w1 R1 r1 h1=>qP ok hg hst u st1 _ h1 c1 s1 v R1 r1 _ _ fun st' h' tk c' g hk R'=>aQ (g1.trans g) R' (w1.trans ⟨rfl,rfl,rfl⟩) .next hk) hs hw
noncomputable def bt (fs:List TgF) (T:TE):TS:=fun Q X st=>T (fun v st=>match v with|.tup us=>us.length=fs.length/\dA fs us.reverse st fun st'=>Q .next st'|_=>False) X st
theorem Rs.rev {vs:List Value}{us:List V}(r:Rs c vs us):Rs c vs.reverse us.reverse:=by
 induction vs generalizing us with
|nil=>
  cases us with
 |nil=>exact r
 |cons=>have:=r.1;simp at this
|cons v vs ih=>
  rcases us with _|⟨u,us⟩
  ·have:=r.1;simp at this
  ·rw[List.reverse_cons,List.reverse_cons];exact(ih r.tail).append (Rs.cons r.head (Rs.nil c))
theorem CC (ok:x.Ok) {elts:List Expr}{k:Nat}{e:Expr}{p p':Pos}{names:List Str}{fs:List TgF}{T:TE}(h:x.E e T) (hw:swappedStores [.Tuple elts k p'] e x.env=pure (some names))
  (hg:x.Tgs (names.reverse.map fun n=>bindName x.env n) fs)
  (hs:autoParam (swapsWithSole [.Tuple elts k p'] e p.line x.env=pure false) tR) :
  x.S (.Assign [.Tuple elts k p'] e p) (bt fs T):=fun Q X st hT c s R=>
 Assign_Tuple_swapped (h.go hT R fun v u c1 st1 s1 g1 w1 R1 r1 h1=>by
  rcases u with _|_|_|_|us|_|_|_|_|_<;>try exact h1.elim
  ·obtain⟨hl,h1⟩:=h1;have hn:names.length=us.length:=by
    have:=hg.length;rw[V0,List.length_reverse]at this;rw[this,hl]
   refine vo ok R1 r1 hn fun vs h' rs R'=>?_
   exact vn (s:={ s1 with heap:=h' }) hg h1 R' rs.rev fun st' h'' tk c' g hk R''=>aQ (g1.trans g) R'' (w1.trans ⟨rfl,rfl,rfl⟩) .next hk) hs hw
noncomputable def eB (Tl Tr:TE):TE:=fun Q X st=>Tl (fun a st=>Tr (fun b st=>match a,b with
|.lst xs,.lst ys=>xs.length+ys.length<=10000/\Q (.lst (xs++ys)) st
|.tup xs,.tup ys=>xs≠[]/\ys≠[]/\xs.length+ys.length<=10000/\Q (.tup (xs++ys)) st
|_,_=>False) X st) X st
theorem CD {a b:V}{A B:List V->List V->Prop}(h:match a,b with|.lst xs,.lst ys=>A xs ys|.tup xs,.tup ys=>B xs ys|_,_=>False):(∃ xs ys,a=.lst xs/\b=.lst ys/\A xs ys)\/∃ xs ys,a=.tup xs/\b=.tup ys/\B xs ys:=by
 rcases a with _|_|_|_|_|_|_|_|_|_<;>try exact h.elim
 all_goals rcases b with _|_|_|_|_|_|_|_|_|_<;>try exact h.elim
 ·exact .inr ⟨_,_,rfl,rfl,h⟩
 ·exact .inl ⟨_,_,rfl,rfl,h⟩
theorem CE {c2:Cfg}{st2:St}{s2:Shared}{a b:Value}{xs ys:List V}{Q:V->St->Prop}{X:XP}(g2:Gr c c2) (w2:SW s s2) (R2:Rel x c2 st2 s2.heap) (r1:c2.R a (.lst xs)) (r2:c2.R b (.lst ys)) (hz:xs.length+ys.length<=10000) (hq:Q (.lst (xs++ys)) st2):wpAny x.W.M x.A (binaryOp .Add a b) (x.Po vR Q c s) (x.EX X c s) s2:=by
 obtain⟨a,vs,n,rfl,h1,rs1⟩:=nt r1;have h4:vs.size=xs.length:=rs1.1;obtain⟨b,vs',n',rfl,h1',rs2⟩:=nt r2;have h4':vs'.size=ys.length:=rs2.1;refine PySem.P.add_list (R2.kn h1) (R2.kn h1') ?_ (by rw[h4,h4',sizeLine_eq];(first|exact ba ‹_› rfl|lia));obtain⟨R3,g3,k⟩:=R2.push { cls:=.type "list",data:=.seq (vs++vs') } rfl;refine aQ (g2.trans g3) R3 (w2.trans ⟨rfl,rfl,rfl⟩) (Rs.lst (n:=0) (vs:=vs.toList++vs'.toList) k ⟨rfl,rfl,rfl⟩ ?_ ((rs1.append rs2).gr g3)) hq;show Data.seq (vs++vs') 0=Data.seq (vs.toList++vs'.toList).toArray 0
 congr 1
 apply Array.ext';simp
theorem CF {c2:Cfg}{st2:St}{s2:Shared}{a b:Value}{xs ys:List V}{Q:V->St->Prop}{X:XP}(g2:Gr c c2) (w2:SW s s2) (R2:Rel x c2 st2 s2.heap) (r1:c2.R a (.tup xs)) (r2:c2.R b (.tup ys)) (n1:xs≠[]) (n2:ys≠[]) (hz:xs.length+ys.length<=10000) (hq:Q (.tup (xs++ys)) st2):wpAny x.W.M x.A (binaryOp .Add a b) (x.Po vR Q c s) (x.EX X c s) s2:=by
 obtain⟨a,ws,rfl,⟨⟨c1',d1,dt1,sl1⟩,ho1,hc1,m1,hd1⟩,rs1⟩:=R2.tupL r1;obtain⟨b,ws',rfl,⟨⟨c2',d2,dt2,sl2⟩,ho2,hc2,m2,hd2⟩,rs2⟩:=R2.tupL r2;simp only at hc1 hd1 hc2 hd2;subst hc1 hd1 hc2 hd2;have l1:ws.length=_:=rs1.1;have l2:ws'.length=_:=rs2.1;refine concat_meets ⟨_,ho1,rfl⟩ ⟨_,ho2,rfl⟩ noFill_tuple_add seq_tuple_add PySem.F.slot_tuple_add PySem.F.entry_tuple_add (PySem.F.args_tuple_add_2 _ _)
  (tuple_addW2 a b ws.toArray ws'.toArray m1 m2 d1 d2 sl1 sl2 (by
   intro z;simp only[List.isEmpty_toArray,List.isEmpty_iff]at z;subst z;simp at l1;exact n1 (W3.mp l1.symm)) (by
   intro z;simp only[List.isEmpty_toArray,List.isEmpty_iff]at z;subst z;simp at l2;exact n2 (W3.mp l2.symm)) (by rw[U9,U9,l1,l2,sizeLine_eq];(first|exact ba ‹_› rfl|lia))) ⟨ho1,ho2,?_⟩
 obtain⟨R3,g3,k⟩:=R2.push { cls:=.type "tuple",data:=.seq (ws.toArray++ws'.toArray) } rfl;refine aQ (g2.trans g3) R3 (w2.trans ⟨rfl,rfl,rfl⟩) (Rs.tup (n:=0) (vs:=ws++ws') k rfl ?_ ((rs1.append rs2).gr g3)) hq;show Data.seq (ws.toArray++ws'.toArray) 0=Data.seq (ws++ws').toArray 0
 congr 1
 simp
theorem lp {l r:Expr}{Tl Tr:TE}(hl:x.E l Tl) (hr:x.E r Tr):x.E (.BinOp l .Add r p) (eB Tl Tr):=fun Q X st h c s R=>by
 refine wpAny_BinOp (hl.go h R fun a a₀ c1 st1 s1 g1 w1 R1 r1 h1=>hr.go2 h1 g1 w1 R1 fun b b₀ c2 st2 s2 g2 w2 g R2 r2 h2=>by
  rcases CD h2 with ⟨_,_,e1,e2,hz,hq⟩|⟨_,_,e1,e2,n1,n2,hz,hq⟩
  ·exact CE g2 w2 R2 (e1 ▸ r1.gr g) (e2 ▸ r2) hz hq
  ·exact CF g2 w2 R2 (e1 ▸ r1.gr g) (e2 ▸ r2) n1 n2 hz hq)
end
section
variable {c:Cfg}{vs:List Value}{S:Option (Addr × List Int)}{p:Pos}
variable {x:Cx}
theorem vq {ns:List Int}(h:IntsAre vs ns):Rs c vs (ns.map .int):=by
 induction h with
|nil=>exact Rs.nil c
|cons n t _ ih=>exact Rs.cons (.int n t) ih
set_option tactic.hygienic true in
theorem Rs.take {us:List V}(r:Rs c vs us) (k:Nat):Rs c (vs.take k) (us.take k):=
 ⟨by simp[r.1],fun i v u a b=>by
  rw[List.getElem?_take]at a b
  split at a
  ·rename_i hk;rw[if_pos hk]at b;exact r.2 i v u a b
  ·cases a⟩
theorem Rs.drop {us:List V}(r:Rs c vs us) (k:Nat):Rs c (vs.drop k) (us.drop k):=
 ⟨by simp[r.1],fun i v u a b=>by
  rw[List.getElem?_drop]at a b;exact r.2 _ v u a b⟩
noncomputable def gB (S:Option (Addr × List Int)) (v:V) (k:List V->Prop):Prop:=match v with
|.lst xs=>xs.length<=10000/\k xs
|.cst w=>(match S with|some (a,ns)=>w=.ref a/\k (ns.map .int)|none=>False)
|_=>False
theorem vr (hS:S=none\/S=some (x.W.script,x.W.cells)) {c:Cfg}{st:St}{h:Heap}{v:Value}{d:V}{k:List V->Prop}(R:Rel x c st h) (r:c.R v d) (hd:gB S d k):∃ a vs us,v=.ref a/\h.IsList a vs.toArray/\vs.length<=sizeLine/\Rs c vs us/\k us:=by
 unfold gB at hd;rcases d with _|_|_|_|_|_|_|_|_|_<;>try exact hd.elim
 ·obtain⟨a,ws,rfl,hl,rs⟩:=R.lstL r;exact⟨a,ws,_,rfl,hl,eQ rs hd.1,rs,hd.2⟩
 ·rcases hS with rfl|rfl
  ·exact hd.elim
  obtain⟨rfl,hk⟩:=hd;obtain rfl:=uX r;obtain⟨vs,⟨o,ho,z⟩,hi⟩:=x.W.scr;refine⟨_,vs,_,rfl,⟨o,R.base _ _ ho,z⟩,?_,vq hi,hk⟩;have:=x.W.len;rw[hi.length,sizeLine_eq];(first|exact ba ‹_› rfl|lia)
noncomputable def eV (S:Option (Addr × List Int)) (To Te:TE):TE:=fun Q X st=>To (fun v st=>Te (fun i st=>match i with
|.int j=>0<=j/\gB S v fun us=>Q (.lst (us.take j.toNat)) st
|_=>False) X st) X st
noncomputable def iw (S:Option (Addr × List Int)) (To Te:TE):TE:=fun Q X st=>To (fun v st=>Te (fun i st=>match i with
|.int j=>0<=j/\gB S v fun us=>Q (.lst (us.drop j.toNat)) st
|_=>False) X st) X st
theorem lq {o e:Expr}{p':Pos}{To Te:TE}(hS:S=none\/S=some (x.W.script,x.W.cells)) (ho:x.E o To) (he:x.E e Te):x.E (.Subscript o (.Slice none (some e) none p') p) (eV S To Te):=fun Q X st hT c s R=>
 Subscript_ (ho.go hT R fun v v₀ c1 st1 s1 g1 w1 R1 r1 h1=>wpAny_Slice (by
  rw[evalPart_none,evalPart_some];refine AAA (he.go2 h1 g1 w1 R1 fun i i₀ c2 st2 s2 g2 w2 g R2 r2 h2=>?_);refine AAA ?_;rcases i₀ with _|_|j|_|_|_|_|_|_|_<;>try exact h2.elim
  ·have h0:=h2.1;have hk:=h2.2;clear h2;obtain⟨t,rfl⟩:=bi r2;obtain⟨a,vs,us,rfl,hl,hz,rs,hq⟩:=vr hS R2 (r1.gr g) hk;obtain⟨k,rfl⟩:=Int.eq_ofNat_of_zero_le h0;have hl':=hl.push { cls:=.type "slice",data:=.fields #[.none,.int (k:Int) t,.none] };refine tail_any (ops:=[.ref s2.heap.objs.size,.ref a]) (Heap.IsList.typeIs (s:={ s2 with heap:=_ }) hl') slot_list_getitem.lookup (wpAny_getItem_list_slice (s:={ s2 with heap:=_ }) hl' (Heap.IsSliceOf.new ..) .none (.int _ t) .none (by simp) ?_ (by rw[U9];exact hz)) rfl;rw[slicePick_upto'];have z9:=R2.push { cls:=.type "slice",data:=.fields #[.none,.int (k:Int) t,.none] } rfl;have Ra:=z9.1;have ga:=z9.2.1;clear z9;have z9:=Ra.push { cls:=.type "list",data:=.seq (vs.take k).toArray } rfl;have Rb:=z9.1;have gb:=z9.2.1;have kb:=z9.2.2;clear z9;exact aQ ((g2.trans ga).trans gb) Rb (w2.trans ⟨rfl,rfl,rfl⟩) (Rs.lst (n:=0) kb ⟨rfl,rfl,rfl⟩ rfl ((rs.take k).gr (ga.trans gb))) hq))
theorem vt {o e:Expr}{p':Pos}{To Te:TE}(hS:S=none\/S=some (x.W.script,x.W.cells)) (ho:x.E o To) (he:x.E e Te):x.E (.Subscript o (.Slice (some e) none none p') p) (iw S To Te):=fun Q X st hT c s R=>
 Subscript_ (ho.go hT R fun v v₀ c1 st1 s1 g1 w1 R1 r1 h1=>wpAny_Slice (by
  rw[evalPart_none,evalPart_some];refine(he.go2 h1 g1 w1 R1 fun i i₀ c2 st2 s2 g2 w2 g R2 r2 h2=>?_);refine AAA (AAA ?_);rcases i₀ with _|_|j|_|_|_|_|_|_|_<;>try exact h2.elim
  ·have h0:=h2.1;have hk:=h2.2;clear h2;obtain⟨t,rfl⟩:=bi r2;obtain⟨a,vs,us,rfl,hl,hz,rs,hq⟩:=vr hS R2 (r1.gr g) hk;obtain⟨k,rfl⟩:=Int.eq_ofNat_of_zero_le h0;have hl':=hl.push { cls:=.type "slice",data:=.fields #[.int (k:Int) t,.none,.none] };refine tail_any (ops:=[.ref s2.heap.objs.size,.ref a]) (Heap.IsList.typeIs (s:={ s2 with heap:=_ }) hl') slot_list_getitem.lookup (wpAny_getItem_list_slice (s:={ s2 with heap:=_ }) hl' (Heap.IsSliceOf.new ..) (.int _ t) .none .none (by simp) ?_ (by rw[U9];exact hz)) rfl;rw[slicePick_from'];have z9:=R2.push { cls:=.type "slice",data:=.fields #[.int (k:Int) t,.none,.none] } rfl;have Ra:=z9.1;have ga:=z9.2.1;clear z9;have z9:=Ra.push { cls:=.type "list",data:=.seq (vs.drop k).toArray } rfl;have Rb:=z9.1;have gb:=z9.2.1;have kb:=z9.2.2;clear z9;exact aQ ((g2.trans ga).trans gb) Rb (w2.trans ⟨rfl,rfl,rfl⟩) (Rs.lst (n:=0) kb ⟨rfl,rfl,rfl⟩ rfl ((rs.drop k).gr (ga.trans gb))) hq))
theorem vu {st:St}{h:Heap}(R:Rel x c st h):(h.objs.size == sysModules)=false:=by
 obtain⟨o,es,ep,e,_⟩:=x.W.g;have:(3:Nat) < h.objs.size:=AAJ (R.base _ _ e);refine beq_eq_false_iff_ne.mpr fun z=>?_
 rw[z]at this;exact absurd this (by decide)
noncomputable def nT (r:St->Nat):TE:=fun Q X st=>Q (.ref (r st,st.mh.nx (r st))) { st with mh:=st.mh.new (r st) (.dict []) }
theorem vv {r:St->Nat}:x.E (.Dict [] [] p) (nT r):=fun Q X st hT c s R=>by
 refine wpAny_Dict_empty ?_;obtain⟨c2,g,R2,rv⟩:=R.label1 (r st) (dictOf [] 0) (.dict []) rfl (fun vs=>by simp) fun c' g e1 e2=>⟨_,[],0,e1,e2,AAH _ rfl,⟨W1,vu R⟩,rfl,fun i e f h=>by simp at h,fun i e f h=>by simp at h⟩
 exact aQ g R2 ⟨rfl,rfl,rfl⟩ rv hT
noncomputable def bGet:Fn:=fun us Q X mh=>match us with
|[d,.int j]=>gy mh d fun fs=>Q ((fs.lookup j).getD .none) mh
|_=>False
theorem CG:x.D (.builtin "dict.get") bGet:=by
 intro us Q X st hF c s vs R r;unfold bGet at hF;rcases us with _|⟨d,us⟩<;>try exact hF.elim
 all_goals rcases us with _|⟨u2,us⟩<;>try exact hF.elim
 rcases u2 with _|_|j|_|_|_|_|_|_|_<;>try exact hF.elim
 all_goals rcases us with _|⟨u3,us⟩<;>try exact hF.elim
 ·obtain⟨v,v',rfl,rv,rv'⟩:=iq r;obtain⟨t,rfl⟩:=bi rv';obtain⟨a,fs,rfl,⟨es,n,hg,nd,hs,rd⟩,hq⟩:=nO R rv hF;have D:=je (x:=x) hg nd rd;refine call_meetsIn PySem.F.slot_dict_get D.typeIs PySem.F.entry_dict_get (PySem.F.args_dict_get_2 _ _) (meets_dict_get (intKind PySem.Challenge.rw_sq0065_01.row.prog x.W.w) a (jO j t) hs) ⟨_,D.mapOf,?_⟩;obtain⟨k1,k2⟩:=(Ds.kv (x:=x) rd).2.2.2 j;cases e:fs.lookup j with
 |none=>
   rw[e]at hq;show x.Po vR Q c s ((valueAt (cm es fs) j).getD .none) _;rw[k2 e];exact bK (st:=st) R ⟨rfl,rfl,rfl⟩ .none hq
 |some u=>
   rw[e]at hq;obtain⟨w,hw,rw'⟩:=k1 u e;show x.Po vR Q c s ((valueAt (cm es fs) j).getD .none) _;rw[hw];exact bK (st:=st) R ⟨rfl,rfl,rfl⟩ rw' hq
noncomputable def qQ (Tl Tr:TE):TB:=fun Q X st=>Tl (fun a st=>Tr (fun b st=>match a with
|.int j=>gy st.mh b fun fs=>Q (fs.lookup j).isSome st
|_=>False) X st) X st
theorem CH {l r:Expr}{Tl Tr:TE}(hl:x.E l Tl) (hr:x.E r Tr) (hm:autoParam (behindInMarks .In r=false) tU):x.B (.Compare l [.In] [r] p) (qQ Tl Tr):=fun Q X st h c s R=>
 wpAny_isTrue_Compare1 (hl.go h R fun a a₀ c1 st1 s1 g1 w1 R1 r1 h1=>hr.go2 h1 g1 w1 R1 fun b b₀ c2 st2 s2 g2 w2 g R2 r2 h2=>by
  rcases a₀ with _|_|j|_|_|_|_|_|_|_<;>try exact h2.elim
  ·obtain⟨t,rfl⟩:=bi (r1.gr g);obtain⟨a,fs,rfl,⟨es,n,hg,nd,hs,rd⟩,hq⟩:=nO R2 r2 h2;have D:=je (x:=x) hg nd rd;refine wpAny_in_of (k:=j) (jO j t) hs D.mapOf (wpAny_truthy_bool ?_);obtain⟨k1,k2⟩:=(Ds.kv (x:=x) rd).2.2.2 j;have e:(valueAt (cm es fs) j).isSome=(fs.lookup j).isSome:=by
    cases e:fs.lookup j with
   |none=>rw[k2 e];rfl
   |some u=>obtain⟨w,hw,_⟩:=k1 u e;rw[hw];rfl
   rw[e];exact aQ (s':={ s2 with toks:=s2.toks+1 }) g2 R2 (w2.trans ⟨rfl,rfl,rfl⟩) rfl hq) hm
end
noncomputable def dO:List Value:=[.ref 39,.type "ValueError",.type "Exception",.type "BaseException",.type "object"]
noncomputable abbrev dC (C t:Nat):Obj:={ cls:=.ref C,data:=.fields #[.ref t,.none,.none,.none,.bool false,.none] }
section
variable {prog:Program}{w:World}{A:Around}{E:Value->Shared->Prop}{h:Heap}{g:Array GenState}{d:Drawn}{t:Nat}{os:OsState}
variable {nm q:Str}{C N:Addr}{bs:List Value}{hdct:Bool}{sn:List Str}{sub:List Value}{col:Option Bool}{dd:Option Addr}{k0 k1 k2 k3 k5:Option Value}
theorem CI {M:Model}{K:Frag}(X:K.In h) {rest:List Value}{Q:Unit->Shared->Prop}(hN:∀ (S:Setting) (rest:List Value),peek K S (checkBuiltinCall "ValueError.__new__" ⟨.ref C::rest,[]⟩)=some ())
  (hq:Q () ⟨h,g,d,t,os⟩):wpAny M A (checkBuiltinCall "ValueError.__new__" ⟨.ref C::rest,[]⟩) Q E ⟨h,g,d,t,os⟩:=
 Looks.of_peek X (hN _ rest) A Q E _ (fun ω ω e=>e) hq
theorem CJ {R:Result->Shared->Prop}{rest:List Value}(hC:h.get? C=some (excClassObj nm q C N bs dO hdct sn sub false col dd k0 k1 k2 k3 k5 "ValueError.__new__"))
  (hq:R (.ok (.ret (.ref (h.objs.size+1)))) ⟨(h.push { cls:=.type "tuple",data:=.seq rest.toArray }).push (dC C h.objs.size),g,d,t,os⟩) (hrest:rest.length<=sizeLine) :
  codeAny (model prog w) A (.builtin "ValueError.__new__" ⟨.ref C::rest,[]⟩) R ⟨h,g,d,t,os⟩:=by
 have Fn:=PySem.F.excBase_ValueError;have hends:=Fn.ends;have hcB:(Value.ref C::dO).contains (.type "ValueError")=true:=by rw[List.contains_cons];simp[dO]
 have hcA:(Value.ref C::dO).contains (.type "AttributeError")=false:=by rw[List.contains_cons];simp[dO]
 have hcN:(Value.ref C::dO).contains (.type "NameError")=false:=by rw[List.contains_cons];simp[dO]
 refine PySem.codeAny_builtinAt Fn.entry ?_;unfold Builtin.«BaseException.__new__»;refine PySem.wpAt_bind ?_;show PySem.wpAt _ _ _ (stack >>= _) _ _ _;refine PySem.wpAt_bind (PySem.wpAt_stack fun p below=>PySem.wpAt_of_wpAny ?_)
 wp_walk
 refine PySem.wpAt_of_wpAny ?_;rw[Fn.owner]
 repeat (first|with_reducible refine wpAny_madeHere_exc Fn.canon hC ?_|with_reducible refine wpAny_loadPart_at hC ?_|(with_reducible refine wpAny_isSubtype_exc hC ?_;first|rw[hcB]|rw[hcA]|rw[hcN])|wp_step)
 show R _ _;rw[AAK];exact hq
theorem CK {R:Result->Shared->Prop}{rest:List Value}{fI:Addr}(hC:h.get? C=some (excClassObj nm q C N bs dO hdct sn sub false col dd k0 k1 k2 k3 k5 "ValueError.__new__"))
  (hcall:Looks (model prog w) h (specialOf (.ref C) "__call__") (some (.builtin "type.__call__")))
  {K:Frag}(X:K.In h) (hN:∀ (S:Setting) (rest:List Value),peek K S (checkBuiltinCall "ValueError.__new__" ⟨.ref C::rest,[]⟩)=some ()) (hi:findIn K (.ref C) "__init__"=some (some (.ref fI))) (hf:typeIn K (.ref fI)=some (.type "function"))
  (hq:codeAny (model prog w) (A.under (.builtin "type.__call__" ⟨.ref C::rest,[]⟩)) (.call (.ref fI) ⟨.ref (h.objs.size+1)::rest,[]⟩) (InitBack (h.objs.size+1) R)
   ⟨(h.push { cls:=.type "tuple",data:=.seq rest.toArray }).push (dC C h.objs.size),g,d,t,os⟩) (hrest:rest.length<=sizeLine) :
  codeAny (model prog w) A (.call (.ref C) ⟨rest,[]⟩) R ⟨h,g,d,t,os⟩:=by
 have f1:=tc_lookup;have f2:=tc_bind (.ref C);have hT:(⟨h,g,d,t,os⟩:Shared).TypeIs (.ref C) "type":=⟨_,hC,rfl⟩;refine codeAny_of_tree ?_;show wpAny _ _ (callAny (.ref C) _) _ _ _
 repeat (any_goals (first|assumption|with_reducible refine wpAny_loadPart_at hC ?_|wp_step))
 refine⟨rfl,?_⟩;refine codeAny_call_builtin_at (Code.quiet_builtin _ (by decide +kernel)) entry_typeCall (wpAny_check_type_call_sub hC ?_)
 repeat (first|with_reducible refine wpAny_loadPart_at hC ?_|with_reducible refine wpAny_madeBy_exc hC ?_|wp_step)
 refine codeAny_call_builtin_code (Code.quiet_builtin _ PySem.F.excBase_ValueError.quiet) (CI X hN ?_);refine CJ hC ?_ hrest;show wpAny _ _ _ _ _ _;have kp:∀ b o,h.get? b=some o->((h.push { cls:=.type "tuple",data:=.seq rest.toArray }).push (dC C h.objs.size)).get? b=some o:=fun b o e=>AAG _ (AAG _ e)
 have hC₁:=kp _ _ hC;have hget:((h.push { cls:=.type "tuple",data:=.seq rest.toArray }).push (dC C h.objs.size)).get? (h.objs.size+1)=some (dC C h.objs.size):=by heap_get
 have hcC:(Value.ref C::dO).contains (.ref C)=true:=by simp
 unfold isInstance
 repeat (first|with_reducible refine wpAny_loadPart_at hget ?_|(with_reducible refine wpAny_isSubtype_exc hC₁ ?_;rw[hcC])|wp_step)
 refine wpAny_isSubtype_exc hC₁ ?_;rw[hcC];rw[if_neg (by decide)];have I:InstAt ((h.push { cls:=.type "tuple",data:=.seq rest.toArray }).push (dC C h.objs.size)) (h.objs.size+1) (dC C h.objs.size) C none:=⟨hget,rfl,rfl,trivial⟩;refine Z9 (wpAny_holding (special_fn (X.keeps kp) I hi hf (wpAny_call (AAF hq fun r s' z=>?_))));rcases r with e|(v|_|_|_)<;>first|exact z|exact z.elim|skip
 obtain⟨rfl,z⟩:=z;exact AAA z
end
section
variable {prog:Program}{w:World}{A:Around}{E:Value->Shared->Prop}{s:Shared}{K:Frag}{x C tt:Addr}{name:Str}{v:Value}
theorem CL {Q:Unit->Shared->Prop}{cd:ClassData}(X:K.In s.heap) (hx:s.heap.get? x=some (dC C tt)) (hsa:findIn K (.ref C) "__setattr__"=some (some (.builtin "object.__setattr__")))
  (hna:findIn K (.ref C) name=some none) (hcd:clsIn K C=some cd) (hmro:cd.mro=.ref C::dO) (hdc:cd.hasDict=true) (hmo:mroIn K C (.type "object")=some true)
  (q:∀ h' dx tk,(∀ b o,b≠x->s.heap.get? b=some o->h'.get? b=some o)->h'.get? x=some { dC C tt with dict:=some dx }->Q () { s with heap:=h',toks:=tk }) :
  wpAny (model prog w) A (setAttr (.ref x) name v) Q E s:=by
 have I:InstAt s.heap x (dC C tt) C none:=⟨hx,rfl,rfl,trivial⟩;refine set_plain X I hsa ?_;have SF:=PySem.F.store_object;have sub:Looks (model prog w) s.heap (isInstance (.ref x) (.type "object")) true:=I.type.andThen (looks_mroIn X hmo);refine codeAny_call_builtin SF.slot.plain SF.entry (@check_slot (model prog w) _ _ { s with toks:=s.toks+1 } "object.__setattr__" "object" "__setattr__" (.ref x) [.str name s.toks,v] [] _ SF.kind SF.split sub (SF.args (.ref x) (.str name s.toks) v) ?_);have hm:Looks (model prog w) s.heap (mroOf (.ref C)) cd.mro:=(looks_clsIn X hcd).andThen .now;have L3:Looks (model prog w) s.heap (Builtin.ObjectAttr.storeTaker? none) none:=.now;rw[osa_eq,refuse_eq];refine Z9 (Z9 (I.type.here (s:={ s with toks:=s.toks+1 }) (Z9 (hm.here (s:={ s with toks:=s.toks+1 }) ?_))));rw[hmro];unfold dO;rw[refuseLoop_ref,refuseLoop_ref,PySem.F.store_ValueError.passes];refine AAA (Z9 (I.type.here (s:={ s with toks:=s.toks+1 }) (Z9 ((looks_findIn X hna).here (s:={ s with toks:=s.toks+1 }) (Z9 (L3.here (s:={ s with toks:=s.toks+1 }) ?_))))));obtain⟨h,g,d,t,os⟩:=s;dsimp only at hx X ⊢;refine Z9 (AAA (Z9 ?_));show wpAny _ _ (instanceDict x true) _ _ _;unfold instanceDict;refine Z9 (wpAny_loadPart hx ?_);refine Z9 ((looks_clsIn X hcd).here ?_);rw[hdc];have hx₁:(h.push { cls:=.type "dict",data:=.dict #[] }).get? x=some (dC C tt):=AAG _ hx;have hxs:x≠h.objs.size:=Y1 (AAJ hx);show wpAny _ _ (alloc _ >>= _) _ _ _;refine Z9 (wpAny_alloc' ?_);refine Z9 (wpAny_update' hx₁ ?_);refine AAA ?_;have hgd:((h.push { cls:=.type "dict",data:=.dict #[] }).update x fun o=>{ cls:=o.cls,dict:=some h.objs.size,data:=o.data,slots:=o.slots }).get? h.objs.size
   = some { cls:=.type "dict",data:=.dict #[] }:=(Heap.get?_update_ne _ _ _ _ hxs.symm).trans (Heap.get?_push_at rfl rfl)
 have hnd:((h.push { cls:=.type "dict",data:=.dict #[] }).update x fun o=>{ cls:=o.cls,dict:=some h.objs.size,data:=o.data,slots:=o.slots }).Ns h.objs.size (fun ω=>none):=
  ⟨_,#[],_,hgd,rfl,fun e he=>absurd he (by simp),fun ω=>rfl⟩
 show wpAny _ _ (Builtin.ObjectAttr.storeInDict h.objs.size (.str name t) name v) _ _ _;unfold Builtin.ObjectAttr.storeInDict Builtin.ObjectAttr.newKeyGuard;refine Z9 (AAA (Z9 (wpAny_nsSet1 (Heap.Ns1.of_empty hnd) fun h' hn' hs=>?_)));obtain⟨oD,esD,epD,hoD,hdD,hcD⟩:=hn'.count (Within.cons name v Within.nil);refine Z9 (wpAny_lookBehind hoD (by rw[hdD];exact pastItsLine_dict (X9 hcD (by rw[V4,List.length_nil,sizeLine_eq];lia))) ?_);refine AAA ?_;refine q h' h.objs.size _ (fun b ob hbx hb=>?_) ?_
 ·exact(hs.2 b (Y1 (AAJ hb))).trans ((Heap.get?_update_ne _ _ _ _ hbx).trans (AAG _ hb))
 ·exact(hs.2 x hxs).trans (Heap.get?_update_self _ hx₁ rfl)
end
noncomputable def lu (P:Params):FdW P 36:=⟨_,by with_unfolding_all rfl⟩
theorem CM (P:Params):jc (KF P) 36=some (lu P).fd:=(lu P).ok
theorem vw (P:Params):(lu P).fd.scope.names=[(U0 "self",.local),(U0 "reason",.local)]:=by rfl
theorem CN (P:Params):io (KF P) (lu P).fd=true:=by kernel_rfl
theorem CO (P:Params) (a b:Value):∀ S,peek (KF P) S (bindArgs (lu P).fd ⟨[a,b],[]⟩)=some [(U0 "self",a),(U0 "reason",b)]:=fun S=>by kernel_rfl
noncomputable def fS (K:Frag) (C:Nat):Bool:=findIn K (.ref C) "__setattr__" == some (some (.builtin "object.__setattr__")) && findIn K (.ref C) "reason" == some none && findIn K (.ref C) "__init__" == some (some (.ref 36)) &&
 (clsIn K C).any (fun cd=>cd.mro == .ref C::dO && cd.hasDict) && mroIn K C (.type "object") == some true && specialIn K (.ref C) "__call__" == some (some (.builtin "type.__call__")) && mroIn K C (.type "BaseException") == some true &&
 typeIn K (.ref 36) == some (.type "function") && keepIn K (.ref C)
noncomputable def lv (P:Params) (C:Nat):Prop:=(∀ (S:Setting) (rest:List Value),peek (KF P) S (checkBuiltinCall "ValueError.__new__" ⟨.ref C::rest,[]⟩)=some ())/\∃ nm q N bs hdct sn sub col dd k0 k1 k2 k3 k5,(KF P).lookup C=some (excClassObj nm q C N bs dO hdct sn sub false col dd k0 k1 k2 k3 k5 "ValueError.__new__")
section
variable {P:Params}{w:World}{A:Around}{s:Shared}{R:Result->Shared->Prop}
theorem CP {C e tt:Nat}{msg:Value}(hroom:A.depth < recursionLimit) (hw:w.params=P) (X:(KF P).In s.heap) (hlim:s.heap.NoLimit) (hc:fS (KF P) C=true) (hx:s.heap.get? e=some (dC C tt))
  (q:∀ h' dx tk,(∀ b o,b≠e->s.heap.get? b=some o->h'.get? b=some o)->h'.get? e=some { dC C tt with dict:=some dx }->R (.ok (.ret .none)) { s with heap:=h',toks:=tk }) :
  codeAny (model PySem.Challenge.rw_sq0065_01.row.prog w) A (.call (.ref 36) ⟨[.ref e,msg],[]⟩) R s:=by
 have hfd:=CM P;obtain⟨oc,od,osl,ho⟩:=qD hfd;have hk:=CN P;unfold io at hk;simp only[U3]at hk;refine codeAny_call_def (body:=_) hroom (X _ _ ho) rfl hlim (codeRec_of X hk.1.2) rfl (fun M A E Q hq=>(Looks.of_peek (M:=M) X (CO P _ _ _)).here hq) (fun z hz=>by rw[vw]at hz;simp at hz;rcases hz with rfl|rfl<;>decide) (fun z hz=>by rw[vw];simp at hz;rcases hz with rfl|rfl<;>rfl) (fun h₀ hns kp=>?_);unfold fS at hc;simp only[U3,beq_iff_eq]at hc;obtain⟨⟨⟨⟨⟨⟨⟨⟨c1,c2⟩,c3⟩,c4⟩,c5⟩,c6⟩,c7⟩,c8⟩,c9⟩:=hc;obtain⟨cd,d1,d2⟩:=any_some c4;simp only[U3,beq_iff_eq]at d2;refine wpAny_execs_cons (plainObj_wpAny_Assign_Attribute (wpAny_Name (wpAny_loadName_local (by rfl) (by rfl) hns (v:=msg) (by rfl) (wpAny_Name (wpAny_loadName_local (by rfl) (by rfl) hns (v:=.ref e) (by rfl) ?_) (by decide))) (by decide)));refine CL (s:={ s with heap:=h₀,toks:=_ }) (X.keeps kp) (kp _ _ hx) c1 c2 d1 d2.1 d2.2 c5 fun h' dx tk hk' hx'=>wpAny_execs_nil ?_
 exact q h' dx tk (fun b o hb e'=>hk' b o hb (kp b o e')) hx'
end
section
variable {M:Model}{A:Around}{E:Value->Shared->Prop}{env:Env}{nm q:Str}{C N:Addr}{bs:List Value}{hdct:Bool}{sn:List Str}{sub:List Value}{col:Option Bool}{dd:Option Addr}{k0 k1 k2 k3 k5:Option Value}
theorem CQ {s:Shared}{x:Sem Value}{Q:Flow->Shared->Prop}(hh:A.handled=none)
  (h:wpAny M A x (fun v s₁=>∃ e t dx,v=.ref e/\s₁.heap.get? C=some (excClassObj nm q C N bs dO hdct sn sub false col dd k0 k1 k2 k3 k5 "ValueError.__new__")/\
   s₁.heap.get? e=some { cls:=.ref C,dict:=some dx,data:=.fields #[.ref t,.none,.none,.none,.bool false,.none] }/\E (.ref e) s₁) E s) :
  wpAny M A (raiseStmt env (some x) none) Q E s:=by
 have hcB:(Value.ref C::dO).contains (.type "BaseException")=true:=by rw[List.contains_cons];simp[dO]
 unfold raiseStmt;refine Z9 (AAB h (fun v s₁ h₁=>?_) fun ω ω x=>x);obtain⟨e,t,dx,rfl,hC,he,hE⟩:=h₁;obtain⟨hp,g,d,tk,os⟩:=s₁
 repeat (first|with_reducible refine wpAny_loadPart_at he ?_|with_reducible refine wpAny_loadPart_at hC ?_|(with_reducible refine wpAny_isSubtype_exc hC ?_;rw[hcB])|wp_step)
 exact wpAny_raiseNew_none hh hE
end
section
variable {x:Cx}
theorem CR (ok:x.Ok) (hn:1<=x.n) {C:Nat}(hc:fS (KF x.W.w.params) C=true) (hS:lv x.W.w.params C) {c:Cfg}{st:St}{s:Shared}(R:Rel x c st s.heap) {msg:Value}{E:Value->Shared->Prop} :
  wpAny x.W.M x.A (call (.ref C) [msg]) (fun v s'=>∃ e t dx,v=.ref e/\s.heap.get? e=none/\(∀ b o,s.heap.get? b=some o->s'.heap.get? b=some o)/\
   s'.heap.get? e=some { cls:=.ref C,dict:=some dx,data:=.fields #[.ref t,.none,.none,.none,.bool false,.none] }/\SW s s') E s:=by
 obtain⟨hh,gn,dr,tk,os⟩:=s;have X0:=R.inK;dsimp only at R X0 ⊢;obtain⟨hN,nm,q,N,bs,hdct,sn,sub,col,dd,k0,k1,k2,k3,k5,hS⟩:=hS;have hc':=hc;unfold fS at hc';simp only[U3,beq_iff_eq]at hc';obtain⟨⟨⟨⟨⟨⟨⟨⟨c1,c2⟩,c3⟩,c4⟩,c5⟩,c6⟩,c7⟩,c8⟩,c9⟩:=hc';have kp:∀ b o,hh.get? b=some o->((hh.push { cls:=.type "tuple",data:=.seq [msg].toArray }).push (dC C hh.objs.size)).get? b=some o:=fun b o e=>AAG _ (AAG _ e)
 have hx:((hh.push { cls:=.type "tuple",data:=.seq [msg].toArray }).push (dC C hh.objs.size)).get? (hh.objs.size+1)=some (dC C hh.objs.size):=by
  have:=AAH (h:=hh.push { cls:=.type "tuple",data:=.seq [msg].toArray }) (o:=dC C hh.objs.size) rfl
  rwa [AAK]at this
 have oku:=cZ (x:=x) ok hn (C:=C) (vs:=[msg]);refine wpAny_call (CK (X0 _ _ hS) (looks_specialIn X0 c6) X0 hN c3 c8 ?_ (by rw[sizeLine_eq];simp));refine CP (P:=x.W.w.params) (C:=C) (tt:=hh.objs.size) (by have:=oku.d;show(x.under C [msg]).A.depth < 1000;lia) rfl (X0.keeps kp) ((x.W.nolimit.keeps R.base).keeps kp) hc hx fun h' dx tk' hk hx'=>?_
 refine⟨rfl,hh.objs.size+1,_,dx,rfl,AAI (Y7 _),fun b o e=>hk b o (Y1 (Y6 (AAJ e))) (kp b o e),hx',⟨rfl,rfl,rfl⟩⟩
noncomputable def lx (C:Nat) (T:TE):TS:=fun Q X st=>T (fun ω st=>X C st.mh) X st
theorem CS (ok:x.Ok) (hn:1<=x.n) {C:Nat}{n:Str}{arg:Expr}{p p1 p2:Pos}{T:TE}(hc:fS (KF x.W.w.params) C=true) (hS:lv x.W.w.params C)
  (e:nsIn (KF x.W.w.params) mainGlobals n=some (some (.ref C))) (hx:x.env.kindOf n=some .globalImplicit) (ha:x.E arg T) (hse:starEach [arg] x.env=(false,eval arg x.env)::starEach [] x.env)
  (hd:autoParam ((n == ("__debug__":Str))=false) tD)
  (he:autoParam (eval (.Call (.Name n p1) [arg] [] p2) x.env=(do callWith p2 (<- eval (.Name n p1) x.env) [] (backTo p2 (starEach [arg] x.env)) (backToKw p2 (keywordEach [] x.env)))) tR) :
  x.S (.Raise (some (.Call (.Name n p1) [arg] [] p2)) none p) (lx C T):=fun Q X st hT c s R=>by
 have hES:x.Es [arg] [T]:=.cons ha hse .nil;have hk:keepIn (KF x.W.w.params) (.ref C)=true:=by
  unfold fS at hc;simp only[U3]at hc;exact hc.2
 rw[arm_exec_Raise];refine Z9 (AAE ?_);obtain⟨_,nm,q,N,bs,hdct,sn,sub,col,dd,k0,k1,k2,k3,k5,hS'⟩:=id hS;show wpAny _ _ (raiseStmt x.env (some (do let v <- eval (.Call (.Name n p1) [arg] [] p2) x.env;standAt p;pure v)) none) _ _ _;refine CQ (C:=C) (nm:=nm) (q:=q) (N:=N) (bs:=bs) (hdct:=hdct) (sn:=sn) (sub:=sub) (col:=col) (dd:=dd) (k0:=k0) (k1:=k1) (k2:=k2) (k3:=k3) (k5:=k5) ok.hnd ?_;refine Z9 (Call_ ?_ he);obtain⟨hk',hg,_,F,hF⟩:=R.fm;refine Name_function_global hk' hx (loadGlobal_global (mg:=x.W.mg) ?_ (mg_of x.W.K x.W.g e) ?_) hd
 ·rw[hg];exact x.W.g.keeps R.base
 ·refine callWith_of (by rw[hES.plain];rfl) (keeps_K hk) ?_;rw[hse];show wpAny _ _ (evalArgs (.ref C) true ((false,eval arg x.env)::[]) []) _ _ s;refine evalArgs_plain (spliced_cons (ha.go hT R fun v u c1 st1 s1 g1 w1 R1 r1 h1=>spliced_nil ⟨R1.inK,?_⟩));refine AAB (CR (E:=x.EX X c s) ok hn hc hS R1 (msg:=v)) (fun v2 s2 h2=>?_) fun ω ω z=>z
  obtain⟨ea,t,dx,rfl,hn2,k2',hx2,w2⟩:=h2;refine Z9 (AAE (AAA ⟨ea,t,dx,rfl,(R1.keeps k2').inK _ _ hS',hx2,?_⟩));obtain⟨m,pc,rr,lr,pr⟩:=R1;have r2:=rr.keeps k2';exact⟨c1,C,st1.mh,m,pc,ea,F,g1,w1.trans w2,rfl,hF,r2,⟨_,_,_,hx2,rfl,rfl,rfl,rr.fresh hn2,.inl ⟨rfl,.inl rfl⟩⟩,h1⟩
end
theorem CT:isSubtype (.type "type") (.type "tuple")=pure false:=by rw[isSubtype_type];kernel_rfl
theorem CU:isSubtype (.type "type") (.type "type")=pure true:=by rw[isSubtype_type];kernel_rfl
section
variable {M:Model}{A:Around}{E:Value->Shared->Prop}{s:Shared}{K:Frag}
theorem qR {e cls C':Addr}{oe:Obj}{b:Bool}{Q:Bool->Shared->Prop}(X:K.In s.heap) (he:s.heap.get? e=some oe) (hc:oe.cls=.ref cls) (hm:mroIn K cls (.ref C')=some b)
  (hC:typeIn K (.ref C')=some (.type "type")) (hcl:(clsIn K C').isSome=true) (hE:mroIn K C' (.type "BaseException")=some true) (h:Q b s):wpAny M A (excMatches (.ref e) (.ref C')) Q E s:=by
 have L1:Looks M s.heap (typeOf (.ref C')) (.type "type"):=looks_typeIn X hC;have L2:Looks M s.heap (isSubtype (.type "type") (.type "tuple")) false:=Looks.of_pure CT;have L3:Looks M s.heap (isSubtype (.type "type") (.type "type")) true:=Looks.of_pure CU;have L4:Looks M s.heap (isSubtype (.ref C') (.type "BaseException")) true:=looks_mroIn X hE;have L5:Looks M s.heap (typeOf (.ref e)) (.ref cls):=by
  rw[<- hc];exact(Looks.ld (part:=none) he).andThen .now
 have L6:Looks M s.heap (isSubtype (.ref cls) (.ref C')) b:=looks_mroIn X hm;unfold excMatches isInstance;refine Z9 (Z9 (L1.here (L2.here ?_)));rw[if_neg (by decide)];refine Z9 (AAA ?_);dsimp only;rw[List.forIn_cons];unfold isExcClass isType;unfold clsIn at hcl;generalize ho:K.lookup C'=o at hcl;rcases o with _|⟨oc,od,d,sl⟩
 ·exact absurd hcl U2
 ·cases d<;>try exact absurd hcl U2
  refine Z9 (Z9 (Z9 (Z9 (Z9 (wpAny_loadPart (X _ _ ho) (AAA ?_))))));rw[if_pos rfl];refine L4.here ?_;refine AAA (AAA ?_);refine Z9 (L5.here ?_);rw[List.forIn_cons];refine(Z9 (Z9 (Z9 (L6.here ?_))));induction b with
 |true=>exact AAA (AAA (AAA h))
 |false=>exact AAA (AAA (AAA h))
end
section
variable {x:Cx}
noncomputable def qS (C1 C2:Nat) (s1 s2:String) (Q:Fl->St->Prop):XP:=fun cls mh=>(cls=C1/\Q (.ret (.str s1)) ⟨[],[],mh⟩)\/(cls=C2/\Q (.ret (.str s2)) ⟨[],[],mh⟩)
noncomputable def qT (C1 C2:Nat) (s1 s2:String) (Tb:TS):TS:=fun Q X st=>Tb Q (qS C1 C2 s1 s2 Q) st
noncomputable def qU (K:Frag) (C1 C2:Nat):Bool:=mroIn K C1 (.ref C1) == some true && mroIn K C2 (.ref C1) == some false && mroIn K C2 (.ref C2) == some true && typeIn K (.ref C1) == some (.type "type") && typeIn K (.ref C2) == some (.type "type") &&
 (clsIn K C1).isSome && (clsIn K C2).isSome && mroIn K C1 (.type "BaseException") == some true && mroIn K C2 (.type "BaseException") == some true
theorem vx {X:XP}{Q:Fl->St->Prop}{c c':Cfg}{s s':Shared}{mh:MH}{m:bZ}{pc:List (Addr × Obj)}{n:String}{t:Tok}(g:Gr c c') (w:SW s s') (r:RelH x.W ((x.env,m)::x.fms) (pc++x.prot) c' mh s'.heap)
  (q:Q (.ret (.str n)) ⟨[],[],mh⟩):x.Po FlR Q c s (.ret (.str (U0 n) t)) s':=
 ⟨c',.ret (.str n),⟨[],[],mh⟩,g,w,⟨m,[],RelH.reprot (pc:=[]) (os:=pc) (os':=[]) r (fun ω ω ω e=>e) (fun p hp=>nomatch hp) W1,fun y v₀ e=>by simp at e,trivial⟩,.ret _ _ (.str _ _),q⟩
set_option tactic.hygienic true in
theorem CV (ok:x.Ok) (hre:bV x.env=true) {C1 C2:Nat}{n1 n2:Str}{s1 s2:String}{k1 k2:Nat}{p q1 q2 q3 q4 r1 r2 r3 r4:Pos}{body:List Stmt}{Tb:TS}(hc:qU (KF x.W.w.params) C1 C2=true)
  (e1:nsIn (KF x.W.w.params) mainGlobals n1=some (some (.ref C1))) (e2:nsIn (KF x.W.w.params) mainGlobals n2=some (some (.ref C2))) (hx1:x.env.kindOf n1=some .globalImplicit) (hx2:x.env.kindOf n2=some .globalImplicit) (hb:x.L body Tb)
  (hd1:autoParam ((n1 == ("__debug__":Str))=false) tD) (hd2:autoParam ((n2 == ("__debug__":Str))=false) tD) :
  x.S (.Try body [.ExceptHandler (some (.Name n1 q1)) none [.Return (some (.Constant (.str (U0 s1)) k1 q2)) q3] q4,.ExceptHandler (some (.Name n2 r1)) none [.Return (some (.Constant (.str (U0 s2)) k2 r2)) r3] r4] [] [] p)
   (qT C1 C2 s1 s2 Tb):=fun Q X st hT c s R=>by
 unfold qU at hc;simp only[U3,beq_iff_eq]at hc;obtain⟨⟨⟨⟨⟨⟨⟨⟨h1,h2⟩,h3⟩,h4⟩,h5⟩,h6⟩,h7⟩,h8⟩,h9⟩:=hc;refine wpAny_Try_except (AAB (hb Q _ st hT c s R) (fun f s' p=>?_) fun e s' p=>?_)
 ·obtain⟨c',b,st',g,w,R',rb,hq⟩:=p;induction rb with
 |next=>exact wpAny_execs_nil ⟨c',.next,st',g,w,R',.next,hq⟩
 |ret v v₀ rv=>exact⟨c',.ret v₀,st',g,w,R',.ret _ _ rv,hq⟩
 ·obtain⟨c',cls,mh,m,pc,ea,L,g,w,rfl,hL,r,ex,hX⟩:=p;have hfy:x.A.frames=some (dp ((x.env,m)::x.fms)):=ok.fr;refine qs hfy rfl hre r hL ex fun h' r' ex'=>?_
  refine nh (s:={ s' with heap:=h' }) (r:=none) r' ex' (fun fl z=>by rw[z];exact fun z=>nomatch z) fun h'' r'' ex''=>?_
  have w2:SW s { s' with heap:=h'' }:=⟨w.gens,w.drawn,w.os⟩;have XK:(KF x.W.w.params).In h'':=x.W.K.keeps fun b o e=>r''.kn b o (r''.base b o e)
  obtain⟨oe,vs,a0,a1,a2,a3,a4,a5,a6⟩:=id ex'';obtain⟨L',f1,f2,f3,f4,f5,_⟩:=(r''.frs _ (.head _)).ex;dsimp only at f3 f4;have base':∀ b o,x.W.base.get? b=some o->h''.get? b=some o:=fun b o e=>r''.kn b o (r''.base b o e)
  have nameOf:∀ {A:Around}{E:Value->Shared->Prop}{n:Str}{C:Nat}{p:Pos}{G:Value->Shared->Prop},nsIn (KF x.W.w.params) mainGlobals n=some (some (.ref C))->x.env.kindOf n=some .globalImplicit->(n == ("__debug__":Str))=false->
    G (.ref C) { s' with heap:=h'' }->wpAny x.W.M A (eval (.Name n p) x.env) G E { s' with heap:=h'' }:=fun e hx hd hG=>by
   refine Name_function_global f3 hx (loadGlobal_global (mg:=x.W.mg) ?_ (mg_of x.W.K x.W.g e) hG) hd;rw[f4];exact x.W.g.keeps base'
  have suite:∀ {n:String}{k:Nat}{p2 p3 p4:Pos}{A:Around}{R:Result->Shared->Prop},(∀ (h:Heap) (t tk:Nat),RelH x.W ((x.env,m)::x.fms) (pc++x.prot) c' mh h->R (.ok (.ret (.str (U0 n) t))) { s' with heap:=h,toks:=tk })->
    codeAny x.W.M A (.handlers (.ref ea) [.ExceptHandler none none [.Return (some (.Constant (.str (U0 n)) k p2)) p3] p4] x.env) R { s' with heap:=h'' }:=fun hR=>by
   refine codeAny_handlers_suite (nh (s:={ s' with heap:=h'' }) (r:=none) r'' ex'' (fun fl z=>by rw[z];exact fun z=>nomatch z) fun h3 r3 ex3=>?_);exact wpAny_execs_cons (wpAny_Return_some (Constant_str (hR h3 _ _ r3)))
  rcases hX with ⟨rfl,hq⟩|⟨rfl,hq⟩
  ·refine wpAny_handleBy_cons (codeAny_handlers_test (nameOf e1 hx1 hd1 ?_)) (by intro z;cases z);refine qR XK a1 a2 h1 h4 h6 h8 ?_;exact suite fun h t tk rr=>vx (X:=X) g ⟨w.gens,w.drawn,w.os⟩ rr hq
  ·refine wpAny_handleBy_cons (codeAny_handlers_test (nameOf e1 hx1 hd1 ?_)) (by intro z;cases z);refine qR XK a1 a2 h2 h4 h6 h8 ?_;refine wpAny_handleBy_cons (codeAny_handlers_test (nameOf e2 hx2 hd2 ?_)) (by intro z;cases z);refine qR XK a1 a2 h3 h5 h7 h9 ?_;exact suite fun h t tk rr=>vx (X:=X) g ⟨w.gens,w.drawn,w.os⟩ rr hq
end
section
variable {a:Expr}{p:Pos}{T:TE}
variable {x:Cx}
noncomputable def dg (Ta Tb:TE):TE:=fun Q X st=>Ta (fun v st=>match v with|.bool b=>if b then Tb Q X st else Q (.bool false) st|_=>False) X st
noncomputable def dD (Ta Tb:TE):TE:=fun Q X st=>Ta (fun v st=>match v with|.bool b=>if b then Q (.bool true) st else Tb Q X st|_=>False) X st
noncomputable def nU (T:TE):TE:=fun Q X st=>T (fun v st=>fp v fun b=>Q (.bool (!b)) st) X st
theorem qV {c:Cfg}{v:Value}{b:Bool}(h:c.R v (.bool b)):v=.bool b:=VR.inv h
theorem nV (ha:x.E a T):x.E (.BoolOp .And [a] p) T:=fun Q X st hT c s R=>BoolOp_one (ha Q X st hT c s R)
theorem qW (ha:x.E a T):x.E (.BoolOp .Or [a] p) T:=fun Q X st hT c s R=>BoolOp_one (ha Q X st hT c s R)
set_option tactic.hygienic true in
theorem jP {b:Expr}{r:List Expr}{Ta Tb:TE}(ha:x.E a Ta) (hb:x.E (.BoolOp .And (b::r) p) Tb):x.E (.BoolOp .And (a::b::r) p) (dg Ta Tb):=fun Q X st hT c s R=>
 BoolOp_and (ha.go hT R fun v u c1 st1 s1 g1 w1 R1 r1 h1=>by
  rcases u with _|_|_|_|_|_|_|_|_|_<;>try exact h1.elim
  ·dsimp only at h1;obtain rfl:=qV r1;refine wpAny_truthy_bool ?_
   split at h1
   ·rename_i hb';rw[if_pos hb'];exact dQ g1 w1 (hb Q X st1 h1 c1 s1 R1)
   ·rename_i hb';rw[if_neg hb'];rw[Bool.not_eq_true]at hb';subst hb';exact aQ g1 R1 w1 (.bool _) h1)
set_option tactic.hygienic true in
theorem ly {b:Expr}{r:List Expr}{Ta Tb:TE}(ha:x.E a Ta) (hb:x.E (.BoolOp .Or (b::r) p) Tb):x.E (.BoolOp .Or (a::b::r) p) (dD Ta Tb):=fun Q X st hT c s R=>
 BoolOp_or (ha.go hT R fun v u c1 st1 s1 g1 w1 R1 r1 h1=>by
  rcases u with _|_|_|_|_|_|_|_|_|_<;>try exact h1.elim
  ·dsimp only at h1;obtain rfl:=qV r1;refine wpAny_truthy_bool ?_
   split at h1
   ·rename_i hb';rw[if_pos hb'];subst hb';exact aQ g1 R1 w1 (.bool _) h1
   ·rename_i hb';rw[if_neg hb'];exact dQ g1 w1 (hb Q X st1 h1 c1 s1 R1))
theorem vy (ha:x.E a T):x.E (.UnaryOp .Not a p) (nU T):=fun Q X st hT c s R=>
 UnaryOp_ (ha.go hT R fun v u c1 st1 s1 g1 w1 R1 r1 h1=>not_of (by
  unfold fp at h1;rcases u with _|_|_|_|_|_|_|_|_|_<;>try exact h1.elim
  ·obtain rfl:v=.none:=nr r1;exact truthy_none (aQ g1 R1 w1 (.bool _) h1)
  ·obtain rfl:=qV r1;exact wpAny_truthy_bool (aQ g1 R1 w1 (.bool _) h1)
  ·obtain⟨t,rfl⟩:=bi r1;exact P.truthy_int (aQ g1 R1 w1 (.bool _) h1)))
theorem CW (n:Nat) (h:2<=n):Builtin.Slice.sliceAdjust none (some (2:Int)) 1 (n:Int)=(0,2):=by
 unfold Builtin.Slice.sliceAdjust;have h1:¬ ((1:Int) < 0):=by decide
 have h2:¬ ((2:Int) < 0):=by decide
 simp only[h1,h2,if_false]
 congr 1
 exact Int.min_eq_left (Int.ofNat_le.mpr h)
theorem CX {prog:Program}{w:World}{A:Around}{E:Value->Shared->Prop}{s:Shared}{t sl:Addr}{a b:Value}{rest:List Value}{u:Tok}{Q:Value->Shared->Prop}(ht:s.heap.IsTuple t (a::b::rest).toArray) (hs:s.heap.IsSliceOf sl .none (.int 2 u) .none) (hr:rest≠[])
  (h:Q (.ref s.heap.objs.size) { s with heap:=s.heap.push { cls:=.type "tuple",data:=.seq [a,b].toArray } }):wpAny (model prog w) A (getItem (.ref t) (.ref sl)) Q E s:=by
 have hsz:sizeOk (.seq [a,b].toArray):=by show 2<=sizeLine;rw[sizeLine_eq];lia
 obtain⟨os,hos,hcs,hds⟩:=id hs;have hTs:s.TypeIs (.ref sl) "slice":=⟨os,hos,hcs⟩;unfold getItem
 try with_reducible refine wpAny_holding ?_
 first|refine Z9 (AAA ?_)|skip
 refine Z9 (wpAny_sequenceKey ht.typeIs (by decide) ?_);refine Z9 (wpAny_callSpecial?_slot (name:=U0 "__getitem__") ht.typeIs PyProof.Rows.slot_tuple_getitem
  (wpAny_call_entry PyProof.Rows.slot_tuple_getitem ht.typeIs PyProof.Rows.entry_tuple_getitem ?_ (PyProof.Rows.args_tuple_getitem _ _)))
 show wpAny _ _ (Builtin.Tuple.tupleItemsOf (.ref t) >>= _) _ _ s;refine Z9 (tupleItemsOf_ ht ?_);refine Z9 (wpAny_typeOf hTs ?_);rw[if_pos (by decide)];have ha:wpAny (model prog w) A.in1 (Builtin.Slice.sliceApplied (.ref sl) (pure (((a::b::rest).toArray.size:Nat):Int))) (fun r s'=>r=((0:Int),(1:Int),2)/\s'=s) (fun ω ω=>False) s:=by
  unfold Builtin.Slice.sliceApplied Builtin.Slice.sliceFields;refine Z9 (Z9 (wpAny_field hos hds (x:=.none) rfl (Z9 (wpAny_field hos hds (x:=.int 2 u) rfl (Z9 (wpAny_field hos hds (x:=.none) rfl (AAA ?_)))))));refine Z9 (slicePart_none ?_);show wpAny _ _ (if ((1:Int) == 0)=true then _ else _) _ _ s;rw[if_neg (by decide)];refine Z9 (slicePart_none (Z9 (slicePart_int (Z9 (AAA ?_)))));show wpAny _ _ (match Builtin.Slice.sliceAdjust none (some (2:Int)) 1 (((a::b::rest).toArray.size:Nat):Int)with|(lo,hi)=>pure (lo,(1:Int),Builtin.Slice.slicePlaces lo hi 1)) _ _ s;rw[CW _ (by simp)];exact AAA ⟨rfl,rfl⟩
 refine Z9 (AAB ha (fun r s' hr'=>?_) fun ω ω z=>z.elim);obtain⟨rfl,rfl⟩:=hr';have hno:¬ (((0:Int) == 0 && (1:Int) == 1 && (2:Nat) == (a::b::rest).toArray.size)=true):=by
  rcases rest with _|⟨c,rest⟩
  ·exact absurd rfl hr
  ·simp
 show wpAny _ _ (if ((0:Int) == 0 && (1:Int) == 1 && (2:Nat) == (a::b::rest).toArray.size)=true then _ else _) _ _ s';rw[if_neg hno];have hp:((List.range 2).filterMap fun (k:Nat)=>(a::b::rest).toArray[((0:Int)+(k:Int) * 1).toNat]?).toArray=[a,b].toArray:=by
  simp[List.range_succ]
 rw[hp]
 first
 |exact Z9 (m:=Builtin.Tuple.tupleExact _) (AAC (AAA ⟨_,rfl,AAA h⟩) hsz)
 |exact Z9 (m:=Builtin.Tuple.tupleExact _) (AAC (Z9 (AAA (AAA ⟨_,rfl,AAA h⟩))) hsz)
 |exact Z9 (Z9 (m:=Builtin.Tuple.tupleExact _) (AAC (AAA (AAA ⟨_,rfl,AAA h⟩)) hsz))
 |exact Z9 (Z9 (m:=Builtin.Tuple.tupleExact _) (AAC (AAA ⟨_,rfl,AAA h⟩) hsz))
noncomputable def qX (To:TE):TE:=fun Q X st=>To (fun v st=>match v with|.tup (a::b::d::r)=>Q (.tup [a,b]) st|_=>False) X st
theorem CY {o:Expr}{k:Nat}{p' p'':Pos}{To:TE}(ho:x.E o To):x.E (.Subscript o (.Slice none (some (.Constant (.int 2) k p'')) none p') p) (qX To):=fun Q X st hT c s R=>
 Subscript_ (ho.go hT R fun v v₀ c1 st1 s1 g1 w1 R1 r1 h1=>wpAny_Slice (by
  rw[evalPart_none,evalPart_some];refine AAA (wpAny_Constant_int (AAA ?_));rcases v₀ with _|_|_|_|l|_|_|_|_|_<;>try exact h1.elim
  rcases l with _|⟨a,_|⟨b,_|⟨d,r⟩⟩⟩<;>try exact h1.elim
  ·obtain⟨t,ws,rfl,ht,rs⟩:=R1.tupL r1;obtain⟨va,ws,rfl,ra,rs⟩:=jd rs;obtain⟨vb,ws,rfl,rb,rs⟩:=jd rs;obtain⟨vd,ws,rfl,rd,rs⟩:=jd rs;have ht':({ s1 with heap:=s1.heap.push { cls:=.type "slice",data:=.fields #[.none,.int 2 s1.toks,.none] },toks:=s1.toks+1 }:Shared).heap.IsTuple t (va::vb::vd::ws).toArray:=ht.push _;refine tail_any (ops:=[.ref s1.heap.objs.size,.ref t]) ht'.typeIs PyProof.Rows.slot_tuple_getitem.lookup (CX (s:={ s1 with heap:=s1.heap.push _,toks:=s1.toks+1 }) ht' (Heap.IsSliceOf.new ..) (by simp) ?_) rfl;have z9:=R1.push { cls:=.type "slice",data:=.fields #[.none,.int 2 s1.toks,.none] } rfl;have Ra:=z9.1;have ga:=z9.2.1;clear z9;have z9:=Ra.push { cls:=.type "tuple",data:=.seq [va,vb].toArray } rfl;have Rb:=z9.1;have gb:=z9.2.1;have kb:=z9.2.2;clear z9;exact aQ ((g1.trans ga).trans gb) Rb (w1.trans ⟨rfl,rfl,rfl⟩) (Rs.tup (n:=0) kb rfl rfl ((Rs.cons ra (Rs.cons rb (Rs.nil _))).gr (ga.trans gb))) h1))
end
section
variable {x:Cx}
noncomputable def lA (k1 k2:Int) (T1 T2:TE):TE:=fun Q X st=>T1 (fun a st=>T2 (fun b st=>Q (.dct [(k1,a),(k2,b)]) st) X st) X st
theorem J.unprot {α β:Type}{t:Sem α}{ρ:Cfg->α->β->Prop}{T:Tr β}{os:List (Addr × Obj)}(h:(x.pt os).J t ρ T) {Q:β->St->Prop}{X:XP}{st:St}(hT:T Q X st) {c c0:Cfg}{s s0:Shared}(g0:Gr c0 c) (w0:SW s0 s) (R:Rel (x.pt os) c st s.heap) {G:α->Shared->Prop}
  (k:∀ a b c' st' s',Gr c0 c'->SW s0 s'->Gr c c'->Rel (x.pt os) c' st' s'.heap->ρ c' a b->Q b st'->G a s'):wpAny x.W.M x.A t G (x.EX X c0 s0) s:=
 AAB (h.go2 (G:=G) hT g0 w0 R k) (fun ω ω z=>z) fun ω ω z=>EX.unprot z
theorem CZ {k1 k2:Int}{a1 a2:Nat}{e1 e2:Expr}{p p1 p2:Pos}{T1 T2:TE}(hk:k1≠k2) (h1:∀ os,(x.pt os).E e1 T1) (h2:∀ os,(x.pt os).E e2 T2)
  (hshape:autoParam ((evalEachOpt [some (.Constant (.int k1) a1 p1),some (.Constant (.int k2) a2 p2)] x.env).zip ((evalEach [e1,e2] x.env).map fun v=>do let z <- v;standAt p;pure z) =
   [(eval (.Constant (.int k1) a1 p1) x.env,do let z <- eval e1 x.env;standAt p;pure z),(eval (.Constant (.int k2) a2 p2) x.env,do let z <- eval e2 x.env;standAt p;pure z)].map fun q=>(some q.1,q.2)) tR) :
  x.E (.Dict [some (.Constant (.int k1) a1 p1),some (.Constant (.int k2) a2 p2)] [e1,e2] p) (lA k1 k2 T1 T2):=fun Q X st hT c s R=>by
 refine wpAny_Dict_pairs (knd:=intKind PySem.Challenge.rw_sq0065_01.row.prog x.W.w) hshape (by simp) (by simp) ?_;have R0:Rel (x.pt [(s.heap.objs.size,dictOf [] 0)]) c st (s.heap.push (dictOf [] 0)):=R.protPush _ rfl;rw[evalPairs];refine Z9 (wpAny_Constant_int (Z9 (wpAny_holding (Z9 ?_))));refine J.unprot (x:=x) (c0:=c) (s0:=s) (h1 _) hT (s:={ s with heap:=s.heap.push (dictOf [] 0),toks:=s.toks+1 }) (Gr.refl c) ⟨rfl,rfl,rfl⟩ R0 fun v u c1 st1 s1 g1 w1 ω R1 r1 q1=>?_
 refine Z9 (AAE (AAA (Z9 (wpAny_holding ?_))));rw[evalPairs];refine Z9 (wpAny_Constant_int (Z9 (wpAny_holding (Z9 ?_))));refine J.unprot (x:=x) (c0:=c) (s0:=s) (h2 _) q1 (s:={ s1 with toks:=s1.toks+1 }) g1 (w1.trans ⟨rfl,rfl,rfl⟩) R1 fun v' u' c2 st2 s2 g2 w2 gg R2 r2 q2=>?_
 refine Z9 (AAE (AAA (Z9 (wpAny_holding (AAA (AAA (AAA ?_)))))));have hD:s2.heap.get? s.heap.objs.size=some (dictOf [] 0):=by
  refine R2.elim fun m z0=>?_;refine z0.elim fun pc z1=>?_;have r:=z1.1;clear z1 z0 R2
  exact(dc (pc:=pc) (os:=[(s.heap.objs.size,dictOf [] 0)]) r (.head _)).1
 refine⟨[(k1,v),(k2,v')],⟨jO _ _,rfl,jO _ _,rfl,trivial⟩,⟨_,#[],0,hD,⟨rfl,rfl,rfl⟩,rfl,fun e he=>absurd he (by simp),.nil,W1⟩,fun h' hD' hs'=>?_⟩;have hm:merged [] [(k1,v),(k2,v')]=[(k1,v),(k2,v')]:=by
  simp[merged,PySem.stored,hk]
 rw[hm]at hD';refine hD'.elim fun o' z0=>?_;refine z0.elim fun es' z1=>?_;refine z1.elim fun ep z2=>?_;have b1:=z2.1;have d1:=z2.2.1;have d4:=z2.2.2.1;have d5:=z2.2.2.2.1;have d6:=z2.2.2.2.2.1;have d7:=z2.2.2.2.2.2;clear z2 z1 z0 hD'
 obtain rfl:=uY d1 d4;have R3:Rel (x.pt [(s.heap.objs.size,dictOf es'.toList ep)]) c2 st2 h':=Rel.reprot R2 (gx hs'.extBut) (fun p hp=>by obtain rfl:=U6.mp hp;exact⟨b1,.head _⟩) gw;have z9:=R3.expose;have R4:=z9.1;have g4:=z9.2.1;have k4:=z9.2.2;clear z9;have kv:KV c2 [(k1,v),(k2,v')] [(k1,u),(k2,u')]:=.cons k1 (r1.gr gg) (.cons k2 r2 .nil);have ds:=(Ds.ofKV (x:=x) d6 (fun e he=>d5 e (by simpa using he)) kv).gr g4;refine aQ (g2.trans g4) R4 (w2.trans ⟨rfl,rfl,rfl⟩) (.dct _ es'.toList ep _ k4 ⟨by simp[hk],vu R⟩ ds.1 ds.2.1 ds.2.2) q2
end
inductive GV where
|int (i:Int)
|ref (a:Nat)
noncomputable def GV.ctorIdx (x:GV):Nat:=@GV.casesOn (fun ω=>Nat) x (fun ω=>0) (fun ω=>1)
noncomputable def fx:List (String × GV):=[("BadArgument",.ref 52),("Overflow",.ref 64),("BadBox",.ref 76),("BadPage",.ref 88),("TooDeep",.ref 100),("UNITY",.int (65536)),("MAX_DIMEN",.int (1073741823)),("MAX_NUMBER",.int (2147483647)),("INF_BAD",.int (10000)),("NORMAL",.int (0)),("FIL",.int (1)),("FILL",.int (2)),("FILLL",.int (3)),("is_whole",.ref 113),("check_whole",.ref 120),("check_number",.ref 127),("check_dimen",.ref 134),("times",.ref 162),("times_scaled",.ref 162),("over",.ref 169),("over_scaled",.ref 169),("badness",.ref 176),("Glue",.ref 258),("CHAR",.int (0)),("LIGATURE",.int (1)),("HBOX",.int (2)),("VBOX",.int (3)),("RULE",.int (4)),("KERN",.int (5)),("GLUE",.int (6)),("PENALTY",.int (7)),("DISC",.int (8)),("MARK",.int (9)),("INSERT",.int (10)),("ADJUST",.int (11)),("MATH",.int (12)),("SPECIAL",.int (13)),("UNSET",.int (14)),("NATURAL",.int (0)),("STRETCHED",.int (1)),("SHRUNK",.int (2)),("FONT_KERN",.int (0)),("EXPLICIT",.int (1)),("ACCENT_KERN",.int (2)),("MU_KERN",.int (3)),("PLAIN",.int (0)),("ALEADERS",.int (1)),("CLEADERS",.int (2)),("XLEADERS",.int (3)),("MU_SKIP",.int (4)),("NONSCRIPT",.int (5)),("NAMED",.int (100)),("FOR_DEVICE",.int (0)),("WRITING",.int (1)),("OPENING",.int (2)),("CLOSING",.int (3)),("DEEPEST",.int (60)),("Box",.ref 303),("Kern",.ref 324),("Skip",.ref 346),("Penalty",.ref 367),("Mark",.ref 388),("Insert",.ref 409),("check_depth",.ref 420),("described_rest",.ref 432),("described",.ref 438),("described_list",.ref 444),("height_of",.ref 449),("depth_of",.ref 454),("is_discardable",.ref 475),("is_breakable_ahead",.ref 482),("check_column",.ref 489),("AWFUL_boxops",.int (1073741823)),("DEPLORABLE_boxops",.int (100000)),("INF_PENALTY_boxops",.int (10000)),("EJECT_boxops",.int (-10000)),("STANDING",.ref 490),("Column",.ref 535),("break_penalty",.ref 546),("cost_here",.ref 553),("best_break",.ref 560),("vert_break",.ref 567),("TOP_SKIP",.int (7)),("SPLIT_TOP_SKIP",.int (8)),("TAB_SKIP",.int (9)),("SPACE_SKIP",.int (10)),("XSPACE_SKIP",.int (11)),("PAR_FILL_SKIP",.int (12)),("EMPTY",.int (0)),("INSERTS",.int (1)),("BOXES",.int (2)),("AWFUL_pages",.int (1073741823)),("DEPLORABLE_pages",.int (100000)),("EJECT_pages",.int (-10000)),("INF_PENALTY_pages",.int (10000)),("MOST_CLASS",.int (254)),("SIZED",.ref 576),("PARTS",.ref 577),("TOP_SORT",.int (107)),("natural_size",.ref 584),("check_finite",.ref 591),("split_room",.ref 598),("InsertClass",.ref 623),("InsertTable",.ref 653),("Inserted",.ref 674),("Page",.ref 695),("PageBuilder",.ref 829),("_law_jar",.ref 838),("_law_take",.ref 845),("_law_glue",.ref 852),("_law_box",.ref 859),("_law_size",.ref 866),("_law_insert",.ref 873),("_law_item",.ref 880),("_law_class",.ref 887),("_law_node",.ref 892),("_law_end",.ref 899),("_law_state",.ref 904),("_law_build",.ref 911),("_law_bad",.ref 918),("_law_due",.ref 923),("_law_tables",.ref 928),("law",.ref 933)]
noncomputable def qY (i:Int):Value->Bool
|.int j _=>i == j
|_=>false
theorem vz {i:Int}{v:Value}(h:qY i v=true):∃ t,v=.int i t:=by
 cases v<;>try exact absurd h U2
 exact⟨_,congrArg (Value.int · _) (eq_of_beq h).symm⟩
noncomputable def C0 (K:Frag) (p:String × GV):Bool:=match p.2 with
|.int i=>(nsIn K mainGlobals (U0 p.1)).any fun o=>o.any (qY i)
|.ref a=>nsIn K mainGlobals (U0 p.1) == some (some (.ref a))
theorem vA (P:Params):fx.all (C0 (KF P))=true:=by kernel_rfl
theorem ix {P:Params}{n:String}{a:Nat}(h:fx.lookup n=some (.ref a)):nsIn (KF P) mainGlobals (U0 n)=some (some (.ref a)):=
 beq_iff_eq.mp (V6.mp (vA P) _ (ng h))
theorem C3 {P:Params}{n:String}{i:Int}(h:fx.lookup n=some (.int i)):∃ t,nsIn (KF P) mainGlobals (U0 n)=some (some (.int i t)):=by
 obtain⟨o,e1,h1⟩:=any_some (V6.mp (vA P) _ (ng h));obtain⟨v,e2,h2⟩:=any_some h1;obtain⟨t,e3⟩:=vz h2;exact⟨t,by rw[e1,e2,e3]⟩
noncomputable def nW:List String:=["isinstance","len","abs","int","bool","sum","range","min","max","sorted","divmod","tuple","list","enumerate"]
theorem C4 (P:Params):nW.all (fun n=>nsIn (KF P) mainGlobals (U0 n) == some none)=true:=by kernel_rfl
theorem lB {P:Params}{n:String}(h:nW.contains n=true):nsIn (KF P) mainGlobals (U0 n)=some none:=
 beq_iff_eq.mp (V6.mp (C4 P) _ (List.contains_iff_mem.mp h))
noncomputable def jQ:List Nat:=[113,120,127,134,162,169,176,420,432,438,444,449,454,475,482,489,546,553,560,567,584,591,598,838,845,852,859,866,873,880,887,892,899,904,911,918,923,928,212,511,518,525,532,620,650,721,728,735,763,770,777,784,791,798,805,812,819,826,205,300,321,343,364,385,406,504,613,643,671,692,714]
noncomputable def vB (K:Frag) (f:Nat):Bool:=(jc K f).any (io K) && keepIn K (.ref f)
theorem vC (P:Params):jQ.all (vB (KF P))=true:=by kernel_rfl
theorem C5 {P:Params}{f:Nat}{fd:FuncData}(e:jc (KF P) f=some fd) (h:autoParam (jQ.contains f=true) tR):io (KF P) fd=true:=by
 have:=V6.mp (vC P) _ (List.contains_iff_mem.mp h);unfold vB at this;rw[e]at this;exact(U4.mp this).1
theorem C6 {P:Params}{f:Nat}(h:jQ.contains f=true):keepIn (KF P) (.ref f)=true:=
 (U4.mp (V6.mp (vC P) _ (List.contains_iff_mem.mp h))).2
noncomputable def lC:List (Nat × Nat):=[(258,205),(303,300),(324,321),(346,343),(367,364),(388,385),(409,406),(535,504),(623,613),(653,643),(674,671),(695,692),(829,714)]
noncomputable def vD (K:Frag) (p:Nat × Nat):Bool:=makesIn K p.1 && findIn K (.ref p.1) "__init__" == some (some (.ref p.2)) && typeIn K (.ref p.2) == some (.type "function") && keepIn K (.ref p.1)
theorem C7 (P:Params):lC.all (vD (KF P))=true:=by kernel_rfl
theorem dh {P:Params}{C f:Nat}(h:autoParam (lC.contains (C,f)=true) tR):MakeOk (KF P) C f:=by
 have:=V6.mp (C7 P) _ (List.contains_iff_mem.mp h);unfold vD at this;simp only[U3,beq_iff_eq]at this;exact⟨this.1.1.1,this.1.1.2,this.1.2,this.2⟩
noncomputable def qZ:List (Nat × String × Nat):=[(258,"parts",212),(535,"stand",511),(535,"keep",518),(535,"flow",525),(535,"cost",532),(623,"taken",620),(653,"of",650),(829,"start",721),(829,"clear",728),(829,"freeze",735),(829,"contribute",763),(829,"build",770),(829,"remember",777),(829,"begin",784),(829,"penalty_ahead",791),(829,"cost",798),(829,"tried",805),(829,"take",812),(829,"insert",819),(829,"split",826)]
theorem C8 (P:Params):qZ.all (fun p=>jM (KF P) p.1 p.2.1 p.2.2)=true:=by kernel_rfl
theorem C9 {P:Params}{C f:Nat}{n:String}(h:autoParam (qZ.contains (C,n,f)=true) tR):jM (KF P) C n f=true:=by
 have h2:=V6.mp (C8 P) _ (List.contains_iff_mem.mp h);exact h2
theorem vE (P:Params):[76,88].all (fS (KF P))=true:=by kernel_rfl
theorem Da (P:Params):fS (KF P) 76=true:=V6.mp (vE P) _ (.head _)
theorem Db (P:Params):fS (KF P) 88=true:=V6.mp (vE P) _ (.tail _ (.head _))
theorem Dc (P:Params):lv P 76:=⟨fun S rest=>by kernel_rfl,_,_,_,_,_,_,_,_,_,_,_,_,_,_,by with_unfolding_all rfl⟩
theorem Dd (P:Params):lv P 88:=⟨fun S rest=>by kernel_rfl,_,_,_,_,_,_,_,_,_,_,_,_,_,_,by with_unfolding_all rfl⟩
theorem De (P:Params):qU (KF P) 88 76=true:=by kernel_rfl
noncomputable def nX:List (Nat × List Int):=[(490,[2,3,4,14]),(576,[2,3,4]),(577,[2,3,4,5,6,7,9,10,13])]
noncomputable def isTup:Value->Bool
|.type t=>t == "tuple"
|_=>false
theorem Df {v:Value}(h:isTup v=true):v=.type "tuple":=by
 cases v<;>try exact absurd h U2
 exact congrArg _ (eq_of_beq h)
noncomputable def vF:Data->Option (List Value)
|.seq vs _=>some vs.toList
|_=>none
theorem Dg {d:Data}{l:List Value}(h:vF d=some l):∃ vs n,d=.seq vs n/\vs.toList=l:=by
 cases d<;>try exact bO h
 exact⟨_,_,rfl,U1 h⟩
noncomputable def Dh (K:Frag) (p:Nat × List Int):Bool:=(K.lookup p.1).any fun o=>isTup o.cls && (vF o.data).any fun vs=>vs.length == p.2.length && (vs.zip p.2).all fun q=>qY q.2 q.1
theorem Di (P:Params):nX.all (Dh (KF P))=true:=by kernel_rfl
theorem Dj {P:Params}{a:Nat}{xs:List Int}(h:nX.contains (a,xs)=true) {c:Cfg}(k:∀ a o,(KF P).lookup a=some o->c.kn a o):c.R (.ref a) (.tup (xs.map .int)):=by
 obtain⟨o,e,h1⟩:=any_some (V6.mp (Di P) _ (List.contains_iff_mem.mp h));obtain⟨h2,h3⟩:=U4.mp h1;obtain⟨l,e2,h4⟩:=any_some h3;obtain⟨hl,hz⟩:=U4.mp h4;obtain⟨vs,n,ed,rfl⟩:=Dg e2;refine .tup a o vs n _ (k _ _ e) (Df h2) ed ((eq_of_beq hl).trans (V0 _).symm) fun i v u e1 e2=>?_
 rw[X5,Option.map_eq_some_iff]at e2;obtain⟨z,e2,rfl⟩:=e2;have hm:(v,z)∈vs.toList.zip xs:=List.mem_iff_getElem?.mpr ⟨i,List.getElem?_zip_eq_some.mpr ⟨Array.getElem?_toList ▸ e1,e2⟩⟩;obtain⟨t,e3⟩:=vz (V6.mp hz _ hm);have e3:v=.int z t:=e3;rw[e3];exact .int _ _
section
variable {x:Cx}
theorem Dk {n:String}{i:Int}{p:Pos}(h:fx.lookup n=some (.int i)) (hx:x.env.kindOf (U0 n)=some .globalImplicit) (hd:autoParam ((U0 n == ("__debug__":Str))=false) tD):x.E (.Name (U0 n) p) (tK (.int i)):=
 (C3 (P:=x.W.w.params) h).elim fun t e=>uA e (fun c ω=>.int _ _) hx hd
theorem Dl {n:String}{a:Nat}{xs:List Int}{p:Pos}(h:fx.lookup n=some (.ref a)) (ht:nX.contains (a,xs)=true) (hx:x.env.kindOf (U0 n)=some .globalImplicit) (hd:autoParam ((U0 n == ("__debug__":Str))=false) tD) :
  x.E (.Name (U0 n) p) (tK (.tup (xs.map .int))):=uA (ix h) (fun c k=>Dj ht k) hx hd
end
noncomputable def fy (n:String) (st:St):Nat:=match st.loc.lookup n with|some (.ref l)=>l.1|_=>0
noncomputable abbrev aI (P:Params) (f:Addr) (w:FdW P f):={ b:List Stmt // w.fd.body=.stmts b }
noncomputable def nY (scope:Scope):Bool:=scope.kind == .function && scope.names.all (fun y=>y.2 != .cell) && scope.names.all (fun y=>y.2 != .local || scope.names.lookup y.1 == some .local)
section
variable {x:Cx}
theorem bD {scope:Scope}{cl:List (Str × Addr)}{P:Cx->Prop}(h:∀ fms prot A C,(Cx.mk x.W (compEnvC scope cl C x.env) fms prot A x.n).Ok->P (Cx.mk x.W (compEnvC scope cl C x.env) fms prot A x.n)):∀ y,InComp x y scope cl->P y:=by
 rintro ⟨yW,yenv,yf,yp,yA,yn⟩ ⟨h1,h2,h3,C,h4⟩;dsimp only at h1 h2 h4;subst h1 h2 h4;exact h _ _ _ _ h3
theorem vG {scope:Scope}{cl:List (Str × Addr)}{cap:List String}(h:nY scope=true) (hc:closureFor scope x.env=pure cl)
  (hcap:∀ k∈cap,∃ a,cl.lookup (U0 k)=some a/\x.env.cells.lookup (U0 k)=some a/\
   ((relabel scope x.env).names.lookup (U0 k)=some .cell\/((relabel scope x.env).names.lookup (U0 k)=some .free/\(U0 k == ("__classdict__":Str))=false))/\x.env.kindOf (U0 k)≠some .local):CompOk x scope cl cap:=by
 unfold nY at h;simp only[U3,beq_iff_eq,V6,bne_iff_ne,ne_eq,Bool.or_eq_true]at h;obtain⟨⟨h1,h2⟩,h3⟩:=h;exact⟨hc,h2,h1,fun y hy hl=>(h3 y hy).resolve_left (fun q=>q hl),hcap⟩
noncomputable def lD (i j:Int):TE:=tK (.int (i ^ j.toNat))
theorem Dm {i j:Int}{k1 k2:Nat}{p p1 p2:Pos}(h0:j>=0) (h1:¬(j == 0)=true) (h2:¬(i == 0 || i == 1)=true) (h3:¬(i == -1)=true) (h4:¬Builtin.Int.intTooBig (((Builtin.Int.intBits i:Nat):Int) * j)=true) :
  x.E (.BinOp (.Constant (.int i) k1 p1) .Pow (.Constant (.int j) k2 p2) p) (lD i j):=fun Q X st hT c s R=>by
 refine wpAny_BinOp (wpAny_Constant_int (wpAny_Constant_int ?_));refine AutoIntOps.pow_4 h0 h1 h2 h3 h4 ?_;exact bK R ⟨rfl,rfl,rfl⟩ (.int _ _) hT
end
theorem nZ:bootBuiltins (U0 "isinstance")=some (.builtin "isinstance"):=by decide +kernel
theorem eE:bootBuiltins (U0 "len")=some (.builtin "len"):=by decide +kernel
theorem oa:bootBuiltins (U0 "abs")=some (.builtin "abs"):=by decide +kernel
theorem og:bootBuiltins (U0 "int")=some (.type "int"):=by decide +kernel
theorem vH:bootBuiltins (U0 "bool")=some (.type "bool"):=by decide +kernel
theorem Dn:bootBuiltins (U0 "sum")=some (.builtin "sum"):=by decide +kernel
theorem Do:bootBuiltins (U0 "range")=some (.type "range"):=by decide +kernel
theorem Dp:bootBuiltins (U0 "min")=some (.builtin "min"):=by decide +kernel
theorem q8:bootBuiltins (U0 "max")=some (.builtin "max"):=by decide +kernel
theorem vI:bootBuiltins (U0 "sorted")=some (.builtin "sorted"):=by decide +kernel
theorem Dq:bootBuiltins (U0 "divmod")=some (.builtin "divmod"):=by decide +kernel
theorem q9:bootBuiltins (U0 "tuple")=some (.type "tuple"):=by decide +kernel
theorem Dr:bootBuiltins (U0 "list")=some (.type "list"):=by decide +kernel
theorem Dt:bootBuiltins (U0 "enumerate")=some (.type "enumerate"):=by decide +kernel
theorem Du {P:List Value->Prop}(h:P []):∀ vs,vs.length=0->P vs
|[],_=>h
|_::_,e=>by simp at e
theorem b8 {P:List Value->Prop}(h:∀ v0,P [v0]):∀ vs,vs.length=1->P vs
|[],e=>by simp at e
|v::vs,e=>Du (P:=fun vs=>P (v::vs)) (h v) vs (by simpa using e)
theorem bE {P:List Value->Prop}(h:∀ v0 v1,P [v0,v1]):∀ vs,vs.length=2->P vs
|[],e=>by simp at e
|v::vs,e=>b8 (P:=fun vs=>P (v::vs)) (h v) vs (by simpa using e)
theorem ef {P:List Value->Prop}(h:∀ v0 v1 v2,P [v0,v1,v2]):∀ vs,vs.length=3->P vs
|[],e=>by simp at e
|v::vs,e=>bE (P:=fun vs=>P (v::vs)) (h v) vs (by simpa using e)
theorem vJ {P:List Value->Prop}(h:∀ v0 v1 v2 v3,P [v0,v1,v2,v3]):∀ vs,vs.length=4->P vs
|[],e=>by simp at e
|v::vs,e=>ef (P:=fun vs=>P (v::vs)) (h v) vs (by simpa using e)
theorem lE {P:List Value->Prop}(h:∀ v0 v1 v2 v3 v4,P [v0,v1,v2,v3,v4]):∀ vs,vs.length=5->P vs
|[],e=>by simp at e
|v::vs,e=>vJ (P:=fun vs=>P (v::vs)) (h v) vs (by simpa using e)
theorem oh {P:List Value->Prop}(h:∀ v0 v1 v2 v3 v4 v5,P [v0,v1,v2,v3,v4,v5]):∀ vs,vs.length=6->P vs
|[],e=>by simp at e
|v::vs,e=>lE (P:=fun vs=>P (v::vs)) (h v) vs (by simpa using e)
theorem Dv {P:List Value->Prop}(h:∀ v0 v1 v2 v3 v4 v5 v6,P [v0,v1,v2,v3,v4,v5,v6]):∀ vs,vs.length=7->P vs
|[],e=>by simp at e
|v::vs,e=>oh (P:=fun vs=>P (v::vs)) (h v) vs (by simpa using e)
theorem jh {fd:FuncData}{L:Addr}{f:Addr}:bV (callEnvC fd L f)=true:=by
 unfold bV;exact beq_self_eq_true _
theorem le {a b c:Nat}(h:a<=c) (h':autoParam (b<=a) tD):b<=c:=X9 h' h
noncomputable abbrev gC (x:Cx) (n:Str):Prop:=x.env.kindOf n=some .globalImplicit
noncomputable abbrev gD (n:Str):Prop:=(n == ("__debug__":Str))=false
noncomputable abbrev lF (x:Cx) (n:Str) (l:List Expr) (p p':Pos):Prop:=eval (.Call (.Name n p') l [] p) x.env=(do callWith p (<- eval (.Name n p') x.env) [] (backTo p (starEach l x.env)) (backToKw p (keywordEach [] x.env)))
section
variable {n:String}{p p':Pos}{e:Expr}{T:TE}{l:List Expr}{Ts:List TE}{F:Fn}{scope:Scope}{cl:List (Str × Addr)}
variable {x:Cx}
theorem lc (hd:autoParam (gD (U0 n)) tD):x.E (.Name (U0 n) p) (aa n):=Be hd
theorem bP {k:Nat}:x.E (.Constant (.str (U0 n)) k p) (tK (.str n)):=Bd
theorem gi {i:Int}(h:autoParam (fx.lookup n=some (.int i)) tR) (hx:autoParam (gC x (U0 n)) tR) (hd:autoParam (gD (U0 n)) tD):x.E (.Name (U0 n) p) (tK (.int i)):=Dk h hx hd
theorem gt {a:Nat}{xs:List Int}(h:autoParam (fx.lookup n=some (.ref a)) tR) (ht:autoParam (nX.contains (a,xs)=true) tR) (hx:autoParam (gC x (U0 n)) tR) (hd:autoParam (gD (U0 n)) tD) :
  x.E (.Name (U0 n) p) (tK (.tup (xs.map .int))):=Dl h ht hx hd
theorem ta (h:x.E e T)
  (he:autoParam (eval (.Attribute e (U0 n) p) x.env=(do
   let o <- eval e x.env
   standAt p.atName
   let r <- holding [o] (getAttr o (U0 n) true)
   letTemporaryGo e o r
   pure r)) tU):x.E (.Attribute e (U0 n) p) (ae T n):=BH h he
theorem cn (a:x.E e T) (b:x.Es l Ts) (h:autoParam (starEach (e::l) x.env=(false,eval e x.env)::starEach l x.env) tR):x.Es (e::l) (T::Ts):=.cons a h b
theorem c1 (a:x.E e T) (h:autoParam (starEach [e] x.env=(false,eval e x.env)::starEach [] x.env) tR):x.Es [e] [T]:=.cons a h .nil
theorem sf {f:Addr}(hC:x.C (.ref f) F) (h:x.Es l Ts) (e:autoParam (fx.lookup n=some (.ref f)) tR) (hk:autoParam (jQ.contains f=true) tR) (hx:autoParam (gC x (U0 n)) tR)
  (hd:autoParam (gD (U0 n)) tD) (he:autoParam (lF x (U0 n) l p p') tR):x.E (.Call (.Name (U0 n) p') l [] p) (af F Ts):=
 qF (ix e) (C6 hk) hx hC h hd he
theorem vK {P:Params}{C:Nat}(h:(lC.any fun p=>p.1 == C)=true):keepIn (KF P) (.ref C)=true:=by
 obtain⟨⟨a,b⟩,hm,e⟩:=List.any_eq_true.mp h;obtain rfl:=beq_iff_eq.mp e;exact(dh (List.contains_iff_mem.mpr hm)).k
theorem sk {C:Addr}(hC:x.C (.ref C) F) (h:x.Es l Ts) (e:autoParam (fx.lookup n=some (.ref C)) tR) (hk:autoParam ((lC.any fun p=>p.1 == C)=true) tR) (hx:autoParam (gC x (U0 n)) tR)
  (hd:autoParam (gD (U0 n)) tD) (he:autoParam (lF x (U0 n) l p p') tR):x.E (.Call (.Name (U0 n) p') l [] p) (af F Ts):=
 qF (ix e) (vK hk) hx hC h hd he
theorem sR {C:Addr}{F:Nat->Fn}{r:St->Nat}(hC:∀ r,x.C (.ref C) (F r)) (h:x.Es l Ts) (e:autoParam (fx.lookup n=some (.ref C)) tR) (hk:autoParam ((lC.any fun p=>p.1 == C)=true) tR) (hx:autoParam (gC x (U0 n)) tR)
  (hd:autoParam (gD (U0 n)) tD) (he:autoParam (lF x (U0 n) l p p') tR):x.E (.Call (.Name (U0 n) p') l [] p) (eT F r Ts):=
 B2 (ix e) (vK hk) hx hC h hd he
theorem sb {v:Value}(hv:bootBuiltins (U0 n)=some v) (hD:x.D v F) (h:x.Es l Ts) (e:autoParam (nW.contains n=true) tR) (hb:autoParam (uV v=true) tR) (hx:autoParam (gC x (U0 n)) tR)
  (hn:autoParam (U0 n≠"__name__") tD) (hd:autoParam (gD (U0 n)) tD) (he:autoParam (lF x (U0 n) l p p') tR):x.E (.Call (.Name (U0 n) p') l [] p) (af F Ts):=
 Ce (lB e) hv hb hx hD h hn hd he
theorem sB {v:Value}(hv:bootBuiltins (U0 n)=some v) (e:autoParam (nW.contains n=true) tR) (hh:autoParam (handedIn v=true) tR) (hn:autoParam (U0 n≠"__name__") tD)
  (hx:autoParam (gC x (U0 n)) tR) (hd:autoParam (gD (U0 n)) tD):x.E (.Name (U0 n) p) (tK (.cst v)):=Bf (lB e) hv hh hn hx hd
theorem sr (ok:x.Ok) {l:List Expr}{Ts:List TE}{p p':Pos}(h:x.Es l Ts) (hx:autoParam (gC x (U0 "range")) tR) (he:autoParam (lF x (U0 "range") l p p') tR):x.I (.Call (.Name (U0 "range") p') l [] p) (ey Ts):=
 Ci ok (lB rfl) Do hx h (by decide) (by decide) he
theorem sl {o:Expr}{id:String}{To:TE}{G:Fn}{pl:Sem Bool}(slot:Slot "list" (U0 n) id) (ho:x.E o To) (hD:x.D (.builtin id) G) (h:x.Es l Ts)
  (hty:autoParam (typeOf (.builtin id)=pure (.type "method_descriptor")) tR)
  (he:autoParam (eval (.Call (.Attribute o (U0 n) p') l [] p) x.env=(do
   let ov <- eval o x.env
   standAt p'.atName
   let (f,first) <- holding [ov] (getMethod ov (U0 n) pl)
   callWith p f first (backTo p (starEach l x.env)) (backToKw p (keywordEach [] x.env)))) tU):x.E (.Call (.Attribute o (U0 n) p') l [] p) (cj "list" To G Ts):=vl F.plainAttrs_list slot hty ho hD h he
theorem sm {o:Expr}{C:Nat}{f:Addr}{To:TE}{pl:Sem Bool}(ho:x.E o To) (hC:x.C (.ref f) F) (h:x.Es l Ts) (hm:autoParam (qZ.contains (C,n,f)=true) tR)
  (he:autoParam (eval (.Call (.Attribute o (U0 n) p') l [] p) x.env=(do
   let ov <- eval o x.env
   standAt p'.atName
   let (f,first) <- holding [ov] (getMethod ov (U0 n) pl)
   callWith p f first (backTo p (starEach l x.env)) (backToKw p (keywordEach [] x.env)))) tU):x.E (.Call (.Attribute o (U0 n) p') l [] p) (aF C F To Ts):=B5 (C9 hm) ho hC h he
theorem lk {a:Stmt}{r:List Stmt}{T U:TS}(ha:x.S a T) (hr:x.L r U):x.L (a::r) (ab T U):=BP ha hr
theorem l1 {a:Stmt}{T:TS}(ha:x.S a T):x.L [a] T:=BQ ha
theorem sx (ok:x.Ok) (hn:1<=x.n) {C:Nat}{n:String}{arg:Expr}{p p1 p2:Pos}{T:TE}(hc:fS (KF x.W.w.params) C=true) (hS:lv x.W.w.params C) (ha:x.E arg T) (e:autoParam (fx.lookup n=some (.ref C)) tR)
  (hx:autoParam (gC x (U0 n)) tR) (hse:autoParam (starEach [arg] x.env=(false,eval arg x.env)::starEach [] x.env) tR) (hd:autoParam (gD (U0 n)) tD)
  (he:autoParam (eval (.Call (.Name (U0 n) p1) [arg] [] p2) x.env=(do callWith p2 (<- eval (.Name (U0 n) p1) x.env) [] (backTo p2 (starEach [arg] x.env)) (backToKw p2 (keywordEach [] x.env)))) tR) :
  x.S (.Raise (some (.Call (.Name (U0 n) p1) [arg] [] p2)) none p) (lx C T):=CS ok hn hc hS (ix e) hx ha hse hd he
theorem sa (h:x.E e T) (hk:autoParam (x.env.kindOf (U0 n)=some .local) tR) (hs:autoParam (swapsWith e (some (.Name (U0 n) p')) p.line x.env=pure false) tR) :
  x.S (.Assign [.Name (U0 n) p'] e p) (aw n T):=BK h hk hs
theorem gb (hk:autoParam (x.env.kindOf (U0 n)=some .local) tR):x.Tg (bindName x.env (U0 n)) (an n):=CA hk
theorem gl (hk:autoParam (x.env.kindOf (U0 n)=some .local) tR):x.Tg (assign (.Name (U0 n) p) x.env) (an n):=vc hk
theorem gI {y:Cx}(h:InComp x y scope cl) (hn:autoParam (scope.names.lookup (U0 n)=some .local) tR):y.Tg (assign (.Name (U0 n) p) y.env) (an n):=Cp h hn
theorem aN {op:Operator}{f:Int->Int->Int}{Tv:TE}
  (op_ok:∀ (i j:Int) (t u:Tok) (Q:Value->Shared->Prop) (E:Value->Shared->Prop) (s:Shared),Q (.int (f i j) s.toks) { s with toks:=s.toks+1 }->wpAny x.W.M x.A (inplaceOp op (.int i t) (.int j u)) Q E s)
  (hv:x.E e Tv) (hk:autoParam (x.env.kindOf (U0 n)=some .local) tR):x.S (.AugAssign (.Name (U0 n) p') op e p) (ci n f Tv):=BN op_ok hv hk
theorem aR (ok:x.Ok) {elts:List Expr}{k:Nat}{e:Expr}{p p':Pos}{names:List Str}{fs:List TgF}{T:TE}(h:x.E e T) (hw:swappedStores [.Tuple elts k p'] e x.env=pure (some names)) (hg:x.Tgs (names.reverse.map fun n=>bindName x.env n) fs)
  (hs:autoParam (swapsWithSole [.Tuple elts k p'] e p.line x.env=pure false) tR) :
  x.S (.Assign [.Tuple elts k p'] e p) (bt fs T):=CC ok h hw hg hs
theorem sF (ok:x.Ok) {n:String}{iter:Expr}{body:List Stmt}{p p':Pos}{T:TI}{Tb:TS}(hI:x.I iter T) (hb:∀ {os},(x.pt os).Ok->(x.pt os).L body Tb) (hre:bV x.env=true:=by exact jh) (hk:autoParam (x.env.kindOf (U0 n)=some .local) tR)
  (hs:autoParam (∀ v,foldedSetIterable iter x.env v=pure v) tI):x.S (.For (.Name (U0 n) p') iter body [] p) (cG n T Tb):=B8 ok hre hI (fun os=>hb (ok.pt os)) hk hs
theorem sD (ok:x.Ok) {k1 k2:Int}{a1 a2:Nat}{e1 e2:Expr}{p p1 p2:Pos}{T1 T2:TE}(h1:∀ {os},(x.pt os).Ok->(x.pt os).E e1 T1) (h2:∀ {os},(x.pt os).Ok->(x.pt os).E e2 T2) (hk:autoParam (k1≠k2) tD)
  (hshape:autoParam ((evalEachOpt [some (.Constant (.int k1) a1 p1),some (.Constant (.int k2) a2 p2)] x.env).zip ((evalEach [e1,e2] x.env).map fun v=>do let z <- v;standAt p;pure z) =
   [(eval (.Constant (.int k1) a1 p1) x.env,do let z <- eval e1 x.env;standAt p;pure z),(eval (.Constant (.int k2) a2 p2) x.env,do let z <- eval e2 x.env;standAt p;pure z)].map fun q=>(some q.1,q.2)) tR) :
  x.E (.Dict [some (.Constant (.int k1) a1 p1),some (.Constant (.int k2) a2 p2)] [e1,e2] p) (lA k1 k2 T1 T2):=CZ hk (fun os=>h1 (ok.pt os)) (fun os=>h2 (ok.pt os)) hshape
theorem jR (h:autoParam (nY scope=true) tR) (hc:autoParam (closureFor scope x.env=pure cl) tR):CompOk x scope cl []:=vG h hc fun k hk=>nomatch hk
theorem eW {k:String}{a:Addr}(h:autoParam (nY scope=true) tR) (hc:autoParam (closureFor scope x.env=pure cl) tR) (h1:autoParam (cl.lookup (U0 k)=some a) tR) (h2:autoParam (x.env.cells.lookup (U0 k)=some a) tR)
  (h3:autoParam ((relabel scope x.env).names.lookup (U0 k)=some .cell) tR) (h4:autoParam (x.env.kindOf (U0 k)=some .cell) tR):CompOk x scope cl [k]:=vG h hc fun q hq=>by
 obtain rfl:=U6.mp hq;exact⟨a,h1,h2,.inl h3,by rw[h4];exact fun h=>nomatch h⟩
end
noncomputable def aB (n:Nat) (T:TS) (ps:List String) (du:List V):Fn:=fun us Q X mh=>us.length=n/\T (fun fl st=>Q fl.val st.mh) X ⟨ps.zip (us++du),[],mh⟩
noncomputable abbrev So {f:Addr}(w:∀ P,FdW P f) (b:∀ P,aI P f (w P)) (k:Nat) (T:Wd->TS):Prop:=
 ∀ {W:Wd}{fms:bU}{prot:List (Addr × Obj)}{A:Around}{n:Nat}{L:Addr},(⟨W,callEnvC (w W.w.params).fd L f,fms,prot,A,n⟩:Cx).Ok->k<=n->(⟨W,callEnvC (w W.w.params).fd L f,fms,prot,A,n⟩:Cx).L (b W.w.params).1 (T W)
section
variable {f:Addr}{w:∀ P,FdW P f}{b:∀ P,aI P f (w P)}{k:Nat}{T:Wd->TS}
theorem vL (so:So w b k T) {x:Cx}(hx:∃ L,x.env=callEnvC (w x.W.w.params).fd L f) (ok:x.Ok) (hn:k<=x.n):x.L (b x.W.w.params).1 (T x.W):=by
 obtain⟨W,env,fms,prot,A,n⟩:=x;obtain⟨L,hx⟩:=hx;dsimp only at hx hn;subst hx;exact so ok hn
theorem iy (so:So w b k T) (ps:List String) (n:Nat) (ds:List Value) (du:List V) (hv:∀ P,nI P (w P).fd ps n ds) (hd:∀ c,Rs c ds du) {x:Cx}(ok:x.Ok) (hn:k+1<=x.n) (hf:autoParam (jQ.contains f=true) tR)
  (hp:∀ P,nH (w P).fd ps=true:=by exact fun P=>by kernel_rfl) (hl:autoParam (ps.length=n+ds.length) tR) :
  x.C (.ref f) fun us Q X mh=>us.length=n/\T x.W (fun fl st=>Q fl.val st.mh) X ⟨ps.zip (us++du),[],mh⟩:=
 B0 ok (X9 (Nat.le_add_left 1 k) hn) (w _).ok (C5 (w _).ok hf) (b _).2 (hv _) hd (hp _) hl fun y hW hn' ok' hx=>by
  obtain⟨yW,yenv,yf,yp,yA,yn⟩:=y;dsimp only at hW hn' hx;subst hW;exact vL so hx ok' (by show k<=yn;lia)
theorem aK (so:So w b k T) (ps:List String) (n:Nat) (hv:∀ P,nI P (w P).fd ps n []) {x:Cx}(ok:x.Ok) (hn:k+1<=x.n) (hf:autoParam (jQ.contains f=true) tR)
  (hp:∀ P,nH (w P).fd ps=true:=by exact fun P=>by kernel_rfl) (hl:autoParam (ps.length=n) tR) :
  x.C (.ref f) fun us Q X mh=>us.length=n/\T x.W (fun fl st=>Q fl.val st.mh) X ⟨ps.zip (us++[]),[],mh⟩:=
 iy @so ps n [] [] hv (fun c=>Rs.nil c) ok hn hf hp hl
end
section
variable {x:Cx}{t:String}{py spos:Pos}{r:Nat}(ok:x.Ok) {elt iter tgt:Expr}{f:TgF}{ifs:List Expr}{scope:Scope}{cl:List (Str × Addr)}{pos:Pos}{cap:List String}{T:TI}{Tc:TB}{Te:TE}(O:CompOk x scope cl cap) (hI:x.IT tgt iter T) (hg:∀ y,InComp x y scope cl->y.Tg (assign tgt y.env) f)
 (hc:∀ y,InComp x y scope cl->y.J (forIn ifs true fun c r=>if r=true then do let ok <- isTrue c y.env (eval c y.env);pure (ForInStep.yield ok)else pure (ForInStep.yield r)) (fun ω a b=>a=b) Tc)
 (he:∀ y,InComp x y scope cl->y.E elt Te)
include ok O hI hg hc he
theorem sc (hre:bV x.env=true:=by exact jh) (hs:autoParam (∀ v,foldedSetIterable iter x.env v=pure v) tI):x.E (.ListComp elt [⟨tgt,iter,ifs,0⟩] scope pos) (be (aU f cap T Tc Te)):=Cq ok hre O hI hg hc he hs
theorem sA (hre:bV x.env=true:=by exact jh) (hs:autoParam (∀ v,foldedSetIterable iter x.env v=pure v) tI):x.E (.ListComp elt [⟨tgt,iter,ifs,0⟩] scope pos) (nN r (aU f cap T Tc Te)):=Cr ok hre O hI hg hc he hs
theorem sC (hre:bV x.env=true:=by exact jh) (hk:autoParam (x.env.kindOf (U0 t)=some .local) tR)
  (hsw:autoParam (swapsWith (.ListComp elt [⟨tgt,iter,ifs,0⟩] scope pos) (some (.Name (U0 t) py)) spos.line x.env=pure true) tR) (hs:autoParam (∀ v,foldedSetIterable iter x.env v=pure v) tI) :
  x.S (.Assign [.Name (U0 t) py] (.ListComp elt [⟨tgt,iter,ifs,0⟩] scope pos) spos) (aw t (be (aU f cap T Tc Te))):=Cs ok hre O hI hg hc he hk hsw hs
end
noncomputable def vM (P:Params):FdW P 113:=⟨_,by with_unfolding_all rfl⟩
noncomputable def Dw (P:Params):aI P 113 (vM P):=⟨_,by with_unfolding_all rfl⟩
noncomputable def T113:TS:=
 ao (dg (af bIs [aa "value",tK (.cst (.type "int"))]) (dg (nU (af bIs [aa "value",tK (.cst (.type "bool"))])) (aS (ik .LtE .LtE (aa "low") (aa "value") (aa "high")))))
theorem Dx:So vM Dw (0) fun W=>T113:=@fun W fms prot A n L ok hn=>
 @l1 _ _ _ (@aA _ _ _ _ (jP (sb nZ nM (cn lc (c1 (sB og)))) (jP (vy (sb nZ nM (cn lc (c1 (sB vH))))) (nV (uJ ok lc lc lc)))))
noncomputable def fA:Fn:=aB 3 T113 ["value","low","high"] []
theorem iz {x:Cx}(ok:x.Ok) (hn:1<=x.n):x.C (.ref 113) (fA):=
 aK @Dx ["value","low","high"] 3 (fun P=>ef fun v0 v1 v2 S=>by kernel_rfl) ok hn
noncomputable def vN (P:Params):FdW P 120:=⟨_,by with_unfolding_all rfl⟩
noncomputable def Dy (P:Params):aI P 120 (vN P):=⟨_,by with_unfolding_all rfl⟩
noncomputable def T120:TS:=
 ab (ak (aV (b7 (bj (af bIs [aa "value",tK (.cst (.type "int"))]))) (bj (af bIs [aa "value",tK (.cst (.type "bool"))]))) tNo tNil)
 (ao (aa "value"))
theorem Dz:So vN Dy (0) fun W=>T120:=@fun W fms prot A n L ok hn=>
 @lk _ _ _ _ _ (@ar _ _ _ _ _ _ _ _ (bW (dL (cv (sb nZ nM (cn lc (c1 (sB og)))))) (ct (cv (sb nZ nM (cn lc (c1 (sB vH))))))) (l1 bL) av)
 (@l1 _ _ _ (aA lc))
noncomputable def iA:Fn:=aB 1 T120 ["value"] []
theorem lG {x:Cx}(ok:x.Ok) (hn:1<=x.n):x.C (.ref 120) (iA):=
 aK @Dz ["value"] 1 (fun P=>b8 fun v0 S=>by kernel_rfl) ok hn
noncomputable def vO (P:Params):FdW P 127:=⟨_,by with_unfolding_all rfl⟩
noncomputable def DA (P:Params):aI P 127 (vO P):=⟨_,by with_unfolding_all rfl⟩
noncomputable def T127:TS:=
 ab (ak (b7 (ik .LtE .LtE (cD (tK (.int 2147483647))) (af iA [aa "value"]) (tK (.int 2147483647)))) tNo tNil)
 (ao (aa "value"))
theorem DB:So vO DA (1) fun W=>T127:=@fun W fms prot A n L ok hn=>
 @lk _ _ _ _ _ (@ar _ _ _ _ _ _ _ _ (dL (qz ok (dR gi) (sf (lG ok (le hn)) (c1 lc)) gi)) (l1 bL) av)
 (@l1 _ _ _ (aA lc))
noncomputable def jS:Fn:=aB 1 T127 ["value"] []
theorem re {x:Cx}(ok:x.Ok) (hn:2<=x.n):x.C (.ref 127) (jS):=
 aK @DB ["value"] 1 (fun P=>b8 fun v0 S=>by kernel_rfl) ok hn
noncomputable def vP (P:Params):FdW P 134:=⟨_,by with_unfolding_all rfl⟩
noncomputable def DC (P:Params):aI P 134 (vP P):=⟨_,by with_unfolding_all rfl⟩
noncomputable def T134:TS:=
 ab (ak (b7 (ik .LtE .LtE (cD (tK (.int 1073741823))) (af iA [aa "value"]) (tK (.int 1073741823)))) tNo tNil)
 (ao (aa "value"))
theorem DE:So vP DC (1) fun W=>T134:=@fun W fms prot A n L ok hn=>
 @lk _ _ _ _ _ (@ar _ _ _ _ _ _ _ _ (dL (qz ok (dR gi) (sf (lG ok (le hn)) (c1 lc)) gi)) (l1 bL) av)
 (@l1 _ _ _ (aA lc))
noncomputable def dE:Fn:=aB 1 T134 ["value"] []
theorem eh {x:Cx}(ok:x.Ok) (hn:2<=x.n):x.C (.ref 134) (dE):=
 aK @DE ["value"] 1 (fun P=>b8 fun v0 S=>by kernel_rfl) ok hn
noncomputable def vQ (P:Params):FdW P 169:=⟨_,by with_unfolding_all rfl⟩
noncomputable def DF (P:Params):aI P 169 (vQ P):=⟨_,by with_unfolding_all rfl⟩
noncomputable def T169:TS:=
 ab (ak (ag .Eq (af iA [aa "by"]) (tK (.int 0))) tNo tNil)
 (ab (ln [an "quotient",an "rest"] (af bDivmod [af bAbs [af iA [aa "value"]],af bAbs [aa "by"]]))
 (ab (ak (ag .NotEq (aS (ag .Lt (aa "value") (tK (.int 0)))) (aS (ag .Lt (aa "by") (tK (.int 0))))) (aw "quotient" (cD (aa "quotient"))) tNil)
 (ab (ak (ag .Lt (aa "value") (tK (.int 0))) (aw "rest" (cD (aa "rest"))) tNil)
 (ao (aD [aa "quotient",aa "rest"])))))
theorem DG:So vQ DF (1) fun W=>T169:=@fun W fms prot A n L ok hn=>
 @lk _ _ _ _ _ (@ar _ _ _ _ _ _ _ _ (am ok (sf (lG ok (le hn)) (c1 lc)) ai) (l1 bL) av)
 (@lk _ _ _ _ _ (vp ok (sb Dq Cb (cn (sb oa nK (c1 (sf (lG ok (le hn)) (c1 lc)))) (c1 (sb oa nK (c1 lc))))) (.cons gl (.cons gl .nil)))
 (@lk _ _ _ _ _ (@ar _ _ _ _ _ _ _ _ (am ok (cX ok lc ai) (cX ok lc ai)) (@l1 _ _ _ (sa (dR lc))) av)
 (@lk _ _ _ _ _ (@ar _ _ _ _ _ _ _ _ (am ok lc ai) (@l1 _ _ _ (sa (dR lc))) av)
 (@l1 _ _ _ (@aA _ _ _ _ (@aW _ _ _ _ _ (cn lc (c1 lc))))))))
noncomputable def lH:Fn:=aB 2 T169 ["value","by"] []
theorem vS {x:Cx}(ok:x.Ok) (hn:2<=x.n):x.C (.ref 169) (lH):=
 aK @DG ["value","by"] 2 (fun P=>bE fun v0 v1 S=>by kernel_rfl) ok hn
noncomputable def vT (P:Params):FdW P 176:=⟨_,by with_unfolding_all rfl⟩
noncomputable def DH (P:Params):aI P 176 (vT P):=⟨_,by with_unfolding_all rfl⟩
noncomputable def T176:TS:=
 ab (ak (ag .Lt (aa "excess") (tK (.int 0))) tNo tNil)
 (ab (ak (ag .Eq (aa "excess") (tK (.int 0))) (ao (tK (.int 0))) tNil)
 (ab (ak (ag .LtE (aa "total") (tK (.int 0))) (ao (tK (.int 10000))) tNil)
 (ab (ak (ag .LtE (aa "excess") (tK (.int 7230584))) (aw "ratio" (aq (fun ω j=>j≠0/\j.natAbs < 1073741824) Int.fdiv (aq IntMulOk (fun i j=>i * j) (aa "excess") (tK (.int 297))) (aa "total"))) (ak (ag .GtE (aa "total") (tK (.int 1663497))) (aw "ratio" (aq (fun ω j=>j≠0/\j.natAbs < 1073741824) Int.fdiv (aa "excess") (aq (fun ω j=>j≠0/\j.natAbs < 1073741824) Int.fdiv (aa "total") (tK (.int 297))))) (aw "ratio" (aa "excess"))))
 (ab (ak (ag .Gt (aa "ratio") (tK (.int 1290))) (ao (tK (.int 10000))) tNil)
 (ao (aq (fun ω j=>j≠0/\j.natAbs < 1073741824) Int.fdiv (aq (fun ω ω=>True) (fun i j=>i+j) (aq IntMulOk (fun i j=>i * j) (aq IntMulOk (fun i j=>i * j) (aa "ratio") (aa "ratio")) (aa "ratio")) (tK (.int 131072))) (tK (.int 262144))))))))
theorem DI:So vT DH (0) fun W=>T176:=@fun W fms prot A n L ok hn=>
 @lk _ _ _ _ _ (@ar _ _ _ _ _ _ _ _ (am ok lc ai) (l1 bL) av)
 (@lk _ _ _ _ _ (@ar _ _ _ _ _ _ _ _ (am ok lc ai) (@l1 _ _ _ (aA ai)) av)
 (@lk _ _ _ _ _ (@ar _ _ _ _ _ _ _ _ (am ok lc ai) (@l1 _ _ _ (aA gi)) av)
 (@lk _ _ _ _ _ (@ar _ _ _ _ _ _ _ _ (am ok lc ai) (@l1 _ _ _ (sa (la (cq lc ai) lc))) (@l1 _ _ _ (@ar _ _ _ _ _ _ _ _ (am ok lc ai) (@l1 _ _ _ (sa (la lc (la lc ai)))) (@l1 _ _ _ (sa lc)))))
 (@lk _ _ _ _ _ (@ar _ _ _ _ _ _ _ _ (am ok lc ai) (@l1 _ _ _ (aA gi)) av)
 (@l1 _ _ _ (@aA _ _ _ _ (la (bp (cq (cq lc lc) lc) ai) ai)))))))
noncomputable def eF:Fn:=aB 2 T176 ["excess","total"] []
theorem oi {x:Cx}(ok:x.Ok) (hn:1<=x.n):x.C (.ref 176) (eF):=
 aK @DI ["excess","total"] 2 (fun P=>bE fun v0 v1 S=>by kernel_rfl) ok hn
noncomputable def vU (P:Params):FdW P 205:=⟨_,by with_unfolding_all rfl⟩
noncomputable def DJ (P:Params):aI P 205 (vU P):=⟨_,by with_unfolding_all rfl⟩
noncomputable def T205:TS:=
 ab (ak (aV (b7 (bj (af fA [aa "stretch_order",tK (.int 0),tK (.int 3)]))) (b7 (bj (af fA [aa "shrink_order",tK (.int 0),tK (.int 3)])))) tNo tNil)
 (ab (ay 258 "width" (aa "self") (af dE [aa "width"]))
 (ab (ay 258 "stretch" (aa "self") (af dE [aa "stretch"]))
 (ab (ay 258 "stretch_order" (aa "self") (bM (ag .NotEq (aa "stretch") (tK (.int 0))) (aa "stretch_order") (tK (.int 0))))
 (ab (ay 258 "shrink" (aa "self") (af dE [aa "shrink"]))
 (ay 258 "shrink_order" (aa "self") (bM (ag .NotEq (aa "shrink") (tK (.int 0))) (aa "shrink_order") (tK (.int 0))))))))
theorem rg:So vU DJ (2) fun W=>T205:=@fun W fms prot A n L ok hn=>
 @lk _ _ _ _ _ (@ar _ _ _ _ _ _ _ _ (bW (dL (cv (sf (iz ok (le hn)) (cn lc (cn gi (c1 gi)))))) (ct (dL (cv (sf (iz ok (le hn)) (cn lc (cn gi (c1 gi)))))))) (l1 bL) av)
 (@lk _ _ _ _ _ (aC (sf (eh ok (le hn)) (c1 lc)) lc)
 (@lk _ _ _ _ _ (aC (sf (eh ok (le hn)) (c1 lc)) lc)
 (@lk _ _ _ _ _ (aC (ch (am ok lc ai) lc gi) lc)
 (@lk _ _ _ _ _ (aC (sf (eh ok (le hn)) (c1 lc)) lc)
 (@l1 _ _ _ (aC (ch (am ok lc ai) lc gi) lc))))))
noncomputable def oj:Fn:=aB 1 T205 ["self","width","stretch","stretch_order","shrink","shrink_order"] [.int 0,.int 0,.int 0,.int 0,.int 0]
theorem DK {x:Cx}(ok:x.Ok) (hn:3<=x.n):x.C (.ref 205) (oj):=
 iy @rg ["self","width","stretch","stretch_order","shrink","shrink_order"] 1 [.int 0 447,.int 0 448,.int 0 449,.int 0 450,.int 0 451] [.int 0,.int 0,.int 0,.int 0,.int 0] (fun P=>b8 fun v0 S=>by kernel_rfl) (fun c=>Rs.cons (.int _ _) (Rs.cons (.int _ _) (Rs.cons (.int _ _) (Rs.cons (.int _ _) (Rs.cons (.int _ _) (Rs.nil c)))))) ok hn
noncomputable def ol:Fn:=aB 6 T205 ["self","width","stretch","stretch_order","shrink","shrink_order"] []
theorem DL {x:Cx}(ok:x.Ok) (hn:3<=x.n):x.C (.ref 205) (ol):=
 aK @rg ["self","width","stretch","stretch_order","shrink","shrink_order"] 6 (fun P=>oh fun v0 v1 v2 v3 v4 v5 S=>by kernel_rfl) ok hn
noncomputable def K258_0:Fn:=dN 258 oj
noncomputable def DM:Nat->Fn:=cw 258 oj
theorem DN {x:Cx}(ok:x.Ok) (hn:4<=x.n) (r:Nat):x.C (.ref 258) (DM r):=
 dq (dh (f:=205)) (fun vs=>DK (cZ ok (le hn)) (Y0 hn)) r
theorem om {x:Cx}(ok:x.Ok) (hn:4<=x.n):x.C (.ref 258) K258_0:=dS (DN ok hn 0)
noncomputable def K258_5:Fn:=dN 258 ol
noncomputable def DO:Nat->Fn:=cw 258 ol
theorem DP {x:Cx}(ok:x.Ok) (hn:4<=x.n) (r:Nat):x.C (.ref 258) (DO r):=
 dq (dh (f:=205)) (fun vs=>DL (cZ ok (le hn)) (Y0 hn)) r
theorem jT {x:Cx}(ok:x.Ok) (hn:4<=x.n):x.C (.ref 258) K258_5:=dS (DP ok hn 0)
noncomputable def vV (P:Params):FdW P 212:=⟨_,by with_unfolding_all rfl⟩
noncomputable def DQ (P:Params):aI P 212 (vV P):=⟨_,by with_unfolding_all rfl⟩
noncomputable def T212:TS:=
 ao (aD [ae (aa "self") "width",ae (aa "self") "stretch",ae (aa "self") "stretch_order",ae (aa "self") "shrink",ae (aa "self") "shrink_order"])
theorem DR:So vV DQ (0) fun W=>T212:=@fun W fms prot A n L ok hn=>
 @l1 _ _ _ (@aA _ _ _ _ (@aW _ _ _ _ _ (cn (ta lc) (cn (ta lc) (cn (ta lc) (cn (ta lc) (c1 (ta lc))))))))
noncomputable def jU:Fn:=aB 1 T212 ["self"] []
theorem rh {x:Cx}(ok:x.Ok) (hn:1<=x.n):x.C (.ref 212) (jU):=
 aK @DR ["self"] 1 (fun P=>b8 fun v0 S=>by kernel_rfl) ok hn
noncomputable def vW (P:Params):FdW P 300:=⟨_,by with_unfolding_all rfl⟩
noncomputable def DS (P:Params):aI P 300 (vW P):=⟨_,by with_unfolding_all rfl⟩
noncomputable def T300:TS:=
 ab (ak (b7 (bj (af fA [aa "kind",tK (.int 2),tK (.int 3)]))) tNo tNil)
 (ab (ay 303 "kind" (aa "self") (aa "kind"))
 (ab (ay 303 "width" (aa "self") (af dE [aa "width"]))
 (ab (ay 303 "height" (aa "self") (af dE [aa "height"]))
 (ab (ay 303 "depth" (aa "self") (af dE [aa "depth"]))
 (ab (ay 303 "items" (aa "self") (aa "items"))
 (ab (ay 303 "shift" (aa "self") (tK (.int 0)))
 (ab (ay 303 "sign" (aa "self") (tK (.int 0)))
 (ab (ay 303 "order" (aa "self") (tK (.int 0)))
 (ay 303 "ratio" (aa "self") (aD [tK (.int 0),tK (.int 1)]))))))))))
theorem DT:So vW DS (2) fun W=>T300:=@fun W fms prot A n L ok hn=>
 @lk _ _ _ _ _ (@ar _ _ _ _ _ _ _ _ (dL (cv (sf (iz ok (le hn)) (cn lc (cn gi (c1 gi)))))) (l1 bL) av)
 (@lk _ _ _ _ _ (aC lc lc)
 (@lk _ _ _ _ _ (aC (sf (eh ok (le hn)) (c1 lc)) lc)
 (@lk _ _ _ _ _ (aC (sf (eh ok (le hn)) (c1 lc)) lc)
 (@lk _ _ _ _ _ (aC (sf (eh ok (le hn)) (c1 lc)) lc)
 (@lk _ _ _ _ _ (aC lc lc)
 (@lk _ _ _ _ _ (aC ai lc)
 (@lk _ _ _ _ _ (aC gi lc)
 (@lk _ _ _ _ _ (aC ai lc)
 (@l1 _ _ _ (aC (@aW _ _ _ _ _ (cn ai (c1 ai))) lc))))))))))
noncomputable def oq:Fn:=aB 6 T300 ["self","kind","width","height","depth","items"] []
theorem DU {x:Cx}(ok:x.Ok) (hn:3<=x.n):x.C (.ref 300) (oq):=
 aK @DT ["self","kind","width","height","depth","items"] 6 (fun P=>oh fun v0 v1 v2 v3 v4 v5 S=>by kernel_rfl) ok hn
noncomputable def K303:Fn:=dN 303 oq
noncomputable def DV:Nat->Fn:=cw 303 oq
theorem DW {x:Cx}(ok:x.Ok) (hn:4<=x.n) (r:Nat):x.C (.ref 303) (DV r):=
 dq (dh (f:=300)) (fun vs=>DU (cZ ok (le hn)) (Y0 hn)) r
theorem ot {x:Cx}(ok:x.Ok) (hn:4<=x.n):x.C (.ref 303) K303:=dS (DW ok hn 0)
noncomputable def vX (P:Params):FdW P 321:=⟨_,by with_unfolding_all rfl⟩
noncomputable def DX (P:Params):aI P 321 (vX P):=⟨_,by with_unfolding_all rfl⟩
noncomputable def T321:TS:=
 ab (ak (b7 (bj (af fA [aa "sort",tK (.int 0),tK (.int 3)]))) tNo tNil)
 (ab (ay 324 "width" (aa "self") (af dE [aa "width"]))
 (ay 324 "sort" (aa "self") (aa "sort")))
theorem DY:So vX DX (2) fun W=>T321:=@fun W fms prot A n L ok hn=>
 @lk _ _ _ _ _ (@ar _ _ _ _ _ _ _ _ (dL (cv (sf (iz ok (le hn)) (cn lc (cn gi (c1 gi)))))) (l1 bL) av)
 (@lk _ _ _ _ _ (aC (sf (eh ok (le hn)) (c1 lc)) lc)
 (@l1 _ _ _ (aC lc lc)))
noncomputable def ou:Fn:=aB 3 T321 ["self","width","sort"] []
theorem DZ {x:Cx}(ok:x.Ok) (hn:3<=x.n):x.C (.ref 321) (ou):=
 aK @DY ["self","width","sort"] 3 (fun P=>ef fun v0 v1 v2 S=>by kernel_rfl) ok hn
noncomputable def K324:Fn:=dN 324 ou
noncomputable def D0:Nat->Fn:=cw 324 ou
theorem D1 {x:Cx}(ok:x.Ok) (hn:4<=x.n) (r:Nat):x.C (.ref 324) (D0 r):=
 dq (dh (f:=321)) (fun vs=>DZ (cZ ok (le hn)) (Y0 hn)) r
theorem D2 {x:Cx}(ok:x.Ok) (hn:4<=x.n):x.C (.ref 324) K324:=dS (D1 ok hn 0)
noncomputable def vY (P:Params):FdW P 343:=⟨_,by with_unfolding_all rfl⟩
noncomputable def D3 (P:Params):aI P 343 (vY P):=⟨_,by with_unfolding_all rfl⟩
noncomputable def T343:TS:=
 ab (ak (bf (b7 (bj (af fA [aa "sort",tK (.int 0),tK (.int 5)]))) (b7 (bj (af fA [aa "sort",tK (.int 100),aq (fun ω ω=>True) (fun i j=>i+j) (tK (.int 100)) (tK (.int 99))])))) tNo tNil)
 (ab (ak (ag .Eq (aS (ag .Is (aa "leader") (tK .none))) (aS (ik .LtE .LtE (tK (.int 1)) (aa "sort") (tK (.int 3))))) tNo tNil)
 (ab (ak (bf (ag .IsNot (aa "leader") (tK .none)) (b7 (ik .LtE .LtE (tK (.int 2)) (ae (aa "leader") "kind") (tK (.int 4))))) tNo tNil)
 (ab (ay 346 "glue" (aa "self") (aa "glue"))
 (ab (ay 346 "sort" (aa "self") (aa "sort"))
 (ay 346 "leader" (aa "self") (aa "leader"))))))
theorem D4:So vY D3 (1) fun W=>T343:=@fun W fms prot A n L ok hn=>
 @lk _ _ _ _ _ (@ar _ _ _ _ _ _ _ _ (cE (dL (cv (sf (iz ok (le hn)) (cn lc (cn gi (c1 gi)))))) (cN (dL (cv (sf (iz ok (le hn)) (cn lc (cn gi (c1 (bp gi ai))))))))) (l1 bL) av)
 (@lk _ _ _ _ _ (@ar _ _ _ _ _ _ _ _ (am ok (cX ok lc cg) (uJ ok gi lc gi)) (l1 bL) av)
 (@lk _ _ _ _ _ (@ar _ _ _ _ _ _ _ _ (cE (am ok lc cg) (cN (dL (qz ok gi (ta lc) gi)))) (l1 bL) av)
 (@lk _ _ _ _ _ (aC lc lc)
 (@lk _ _ _ _ _ (aC lc lc)
 (@l1 _ _ _ (aC lc lc))))))
noncomputable def ow:Fn:=aB 3 T343 ["self","glue","sort","leader"] [.none]
theorem D5 {x:Cx}(ok:x.Ok) (hn:2<=x.n):x.C (.ref 343) (ow):=
 iy @D4 ["self","glue","sort","leader"] 3 [.none] [.none] (fun P=>ef fun v0 v1 v2 S=>by kernel_rfl) (fun c=>Rs.cons .none (Rs.nil c)) ok hn
noncomputable def K346_2:Fn:=dN 346 ow
noncomputable def D6:Nat->Fn:=cw 346 ow
theorem D7 {x:Cx}(ok:x.Ok) (hn:3<=x.n) (r:Nat):x.C (.ref 346) (D6 r):=
 dq (dh (f:=343)) (fun vs=>D5 (cZ ok (le hn)) (Y0 hn)) r
theorem ox {x:Cx}(ok:x.Ok) (hn:3<=x.n):x.C (.ref 346) K346_2:=dS (D7 ok hn 0)
noncomputable def vZ (P:Params):FdW P 364:=⟨_,by with_unfolding_all rfl⟩
noncomputable def D8 (P:Params):aI P 364 (vZ P):=⟨_,by with_unfolding_all rfl⟩
noncomputable def T364:TS:=
 ay 367 "value" (aa "self") (af jS [aa "value"])
theorem D9:So vZ D8 (2) fun W=>T364:=@fun W fms prot A n L ok hn=>
 @l1 _ _ _ (aC (sf (re ok (le hn)) (c1 lc)) lc)
noncomputable def oA:Fn:=aB 2 T364 ["self","value"] []
theorem Ea {x:Cx}(ok:x.Ok) (hn:3<=x.n):x.C (.ref 364) (oA):=
 aK @D9 ["self","value"] 2 (fun P=>bE fun v0 v1 S=>by kernel_rfl) ok hn
noncomputable def K367:Fn:=dN 367 oA
noncomputable def Eb:Nat->Fn:=cw 367 oA
theorem Ec {x:Cx}(ok:x.Ok) (hn:4<=x.n) (r:Nat):x.C (.ref 367) (Eb r):=
 dq (dh (f:=364)) (fun vs=>Ea (cZ ok (le hn)) (Y0 hn)) r
theorem Ed {x:Cx}(ok:x.Ok) (hn:4<=x.n):x.C (.ref 367) K367:=dS (Ec ok hn 0)
noncomputable def v7 (P:Params):FdW P 385:=⟨_,by with_unfolding_all rfl⟩
noncomputable def Ee (P:Params):aI P 385 (v7 P):=⟨_,by with_unfolding_all rfl⟩
noncomputable def T385:TS:=
 ay 388 "tokens" (aa "self") (af bTuple [aa "tokens"])
theorem Ef:So v7 Ee (0) fun W=>T385:=@fun W fms prot A n L ok hn=>
 @l1 _ _ _ (aC (sb q9 u0 (c1 lc)) lc)
noncomputable def oB:Fn:=aB 2 T385 ["self","tokens"] []
theorem Eg {x:Cx}(ok:x.Ok) (hn:1<=x.n):x.C (.ref 385) (oB):=
 aK @Ef ["self","tokens"] 2 (fun P=>bE fun v0 v1 S=>by kernel_rfl) ok hn
noncomputable def K388:Fn:=dN 388 oB
noncomputable def Eh:Nat->Fn:=cw 388 oB
theorem Ei {x:Cx}(ok:x.Ok) (hn:2<=x.n) (r:Nat):x.C (.ref 388) (Eh r):=
 dq (dh (f:=385)) (fun vs=>Eg (cZ ok (le hn)) (Y0 hn)) r
theorem Ej {x:Cx}(ok:x.Ok) (hn:2<=x.n):x.C (.ref 388) K388:=dS (Ei ok hn 0)
noncomputable def v8 (P:Params):FdW P 406:=⟨_,by with_unfolding_all rfl⟩
noncomputable def Ek (P:Params):aI P 406 (v8 P):=⟨_,by with_unfolding_all rfl⟩
noncomputable def T406:TS:=
 ab (ak (b7 (bj (af fA [aa "number",tK (.int 0),tK (.int 254)]))) tNo tNil)
 (ab (ay 409 "number" (aa "self") (aa "number"))
 (ab (ay 409 "size" (aa "self") (af dE [aa "size"]))
 (ab (ay 409 "depth" (aa "self") (af dE [aa "depth"]))
 (ab (ay 409 "top" (aa "self") (aa "top"))
 (ab (ay 409 "cost" (aa "self") (af jS [aa "cost"]))
 (ay 409 "items" (aa "self") (aa "items")))))))
theorem El:So v8 Ek (2) fun W=>T406:=@fun W fms prot A n L ok hn=>
 @lk _ _ _ _ _ (@ar _ _ _ _ _ _ _ _ (dL (cv (sf (iz ok (le hn)) (cn lc (cn ai (c1 ai)))))) (l1 bL) av)
 (@lk _ _ _ _ _ (aC lc lc)
 (@lk _ _ _ _ _ (aC (sf (eh ok (le hn)) (c1 lc)) lc)
 (@lk _ _ _ _ _ (aC (sf (eh ok (le hn)) (c1 lc)) lc)
 (@lk _ _ _ _ _ (aC lc lc)
 (@lk _ _ _ _ _ (aC (sf (re ok (le hn)) (c1 lc)) lc)
 (@l1 _ _ _ (aC lc lc)))))))
noncomputable def oE:Fn:=aB 7 T406 ["self","number","size","depth","top","cost","items"] []
theorem Em {x:Cx}(ok:x.Ok) (hn:3<=x.n):x.C (.ref 406) (oE):=
 aK @El ["self","number","size","depth","top","cost","items"] 7 (fun P=>Dv fun v0 v1 v2 v3 v4 v5 v6 S=>by kernel_rfl) ok hn
noncomputable def K409:Fn:=dN 409 oE
noncomputable def En:Nat->Fn:=cw 409 oE
theorem Eo {x:Cx}(ok:x.Ok) (hn:4<=x.n) (r:Nat):x.C (.ref 409) (En r):=
 dq (dh (f:=406)) (fun vs=>Em (cZ ok (le hn)) (Y0 hn)) r
theorem rl {x:Cx}(ok:x.Ok) (hn:4<=x.n):x.C (.ref 409) K409:=dS (Eo ok hn 0)
noncomputable def v9 (P:Params):FdW P 475:=⟨_,by with_unfolding_all rfl⟩
noncomputable def Ep (P:Params):aI P 475 (v9 P):=⟨_,by with_unfolding_all rfl⟩
noncomputable def T475:TS:=
 ao (dD (aS (ag .Eq (ae (aa "node") "kind") (tK (.int 6)))) (dD (aS (ag .Eq (ae (aa "node") "kind") (tK (.int 5)))) (dD (aS (ag .Eq (ae (aa "node") "kind") (tK (.int 7)))) (aS (ag .Eq (ae (aa "node") "kind") (tK (.int 12)))))))
theorem Er:So v9 Ep (0) fun W=>T475:=@fun W fms prot A n L ok hn=>
 @l1 _ _ _ (@aA _ _ _ _ (ly (cX ok (ta lc) gi) (ly (cX ok (ta lc) gi) (ly (cX ok (ta lc) gi) (qW (cX ok (ta lc) gi))))))
noncomputable def fB:Fn:=aB 1 T475 ["node"] []
theorem wa {x:Cx}(ok:x.Ok) (hn:1<=x.n):x.C (.ref 475) (fB):=
 aK @Er ["node"] 1 (fun P=>b8 fun v0 S=>by kernel_rfl) ok hn
noncomputable def wb (P:Params):FdW P 482:=⟨_,by with_unfolding_all rfl⟩
noncomputable def Et (P:Params):aI P 482 (wb P):=⟨_,by with_unfolding_all rfl⟩
noncomputable def T482:TS:=
 ao (nU (af fB [aa "node"]))
theorem Eu:So wb Et (1) fun W=>T482:=@fun W fms prot A n L ok hn=>
 @l1 _ _ _ (@aA _ _ _ _ (vy (sf (wa ok (le hn)) (c1 lc))))
noncomputable def ji:Fn:=aB 1 T482 ["node"] []
theorem wc {x:Cx}(ok:x.Ok) (hn:2<=x.n):x.C (.ref 482) (ji):=
 aK @Eu ["node"] 1 (fun P=>b8 fun v0 S=>by kernel_rfl) ok hn
noncomputable def wd (P:Params):FdW P 489:=⟨_,by with_unfolding_all rfl⟩
noncomputable def Ew (P:Params):aI P 489 (wd P):=⟨_,by with_unfolding_all rfl⟩
noncomputable def T489:TS:=
 cG "node" (bc (aa "items")) (ak (aV (ag .Eq (ae (aa "node") "kind") (tK (.int 0))) (aV (ag .Eq (ae (aa "node") "kind") (tK (.int 1))) (aV (ag .Eq (ae (aa "node") "kind") (tK (.int 8))) (ag .Eq (ae (aa "node") "kind") (tK (.int 12)))))) tNo tNil)
theorem Ex:So wd Ew (0) fun W=>T489:=@fun W fms prot A n L ok hn=>
 @l1 _ _ _ (sF ok (cH ok lc) (fun ok=>(@l1 _ _ _ (@ar _ _ _ _ _ _ _ _ (bW (am ok (ta lc) gi) (bW (am ok (ta lc) gi) (bW (am ok (ta lc) gi) (ct (am ok (ta lc) gi))))) (l1 bL) av))))
noncomputable def rm:Fn:=aB 1 T489 ["items"] []
theorem Ey {x:Cx}(ok:x.Ok) (hn:1<=x.n):x.C (.ref 489) (rm):=
 aK @Ex ["items"] 1 (fun P=>b8 fun v0 S=>by kernel_rfl) ok hn
noncomputable def we (P:Params):FdW P 504:=⟨_,by with_unfolding_all rfl⟩
noncomputable def Ez (P:Params):aI P 504 (we P):=⟨_,by with_unfolding_all rfl⟩
noncomputable def T504:TS:=
 ab (ay 535 "height" (aa "self") (tK (.int 0)))
 (ab (ay 535 "depth" (aa "self") (tK (.int 0)))
 (ab (ay 535 "stretch" (aa "self") (fq (fy "self") .arr [tK (.int 0),tK (.int 0),tK (.int 0),tK (.int 0)]))
 (ay 535 "shrink" (aa "self") (tK (.int 0)))))
theorem EA:So we Ez (0) fun W=>T504:=@fun W fms prot A n L ok hn=>
 @lk _ _ _ _ _ (aC ai lc)
 (@lk _ _ _ _ _ (aC ai lc)
 (@lk _ _ _ _ _ (aC (qC (cn ai (cn ai (cn ai (c1 ai))))) lc)
 (@l1 _ _ _ (aC ai lc))))
noncomputable def rn:Fn:=aB 1 T504 ["self"] []
theorem EB {x:Cx}(ok:x.Ok) (hn:1<=x.n):x.C (.ref 504) (rn):=
 aK @EA ["self"] 1 (fun P=>b8 fun v0 S=>by kernel_rfl) ok hn
noncomputable def oF:Nat->Fn:=cw 535 rn
theorem EC {x:Cx}(ok:x.Ok) (hn:2<=x.n) (r:Nat):x.C (.ref 535) (oF r):=
 dq (dh (f:=504)) (fun vs=>EB (cZ ok (le hn)) (Y0 hn)) r
noncomputable def wf (P:Params):FdW P 511:=⟨_,by with_unfolding_all rfl⟩
noncomputable def ED (P:Params):aI P 511 (wf P):=⟨_,by with_unfolding_all rfl⟩
noncomputable def T511:TS:=
 ab (ay 535 "height" (aa "self") (aq (fun ω ω=>True) (fun i j=>i+j) (aq (fun ω ω=>True) (fun i j=>i+j) (ae (aa "self") "height") (ae (aa "self") "depth")) (bM (ag .Is (ae (aa "node") "height") (tK .none)) (tK (.int 0)) (ae (aa "node") "height"))))
 (ay 535 "depth" (aa "self") (bM (ag .Is (ae (aa "node") "depth") (tK .none)) (tK (.int 0)) (ae (aa "node") "depth")))
theorem EE:So wf ED (0) fun W=>T511:=@fun W fms prot A n L ok hn=>
 @lk _ _ _ _ _ (aC (bp (bp (ta lc) (ta lc)) (ch (am ok (ta lc) cg) ai (ta lc))) lc)
 (@l1 _ _ _ (aC (ch (am ok (ta lc) cg) ai (ta lc)) lc))
noncomputable def lI:Fn:=aB 2 T511 ["self","node"] []
theorem EF {x:Cx}(ok:x.Ok) (hn:1<=x.n):x.C (.ref 511) (lI):=
 aK @EE ["self","node"] 2 (fun P=>bE fun v0 v1 S=>by kernel_rfl) ok hn
noncomputable def wg (P:Params):FdW P 518:=⟨_,by with_unfolding_all rfl⟩
noncomputable def EG (P:Params):aI P 518 (wg P):=⟨_,by with_unfolding_all rfl⟩
noncomputable def T518:TS:=
 ak (ag .Gt (ae (aa "self") "depth") (aa "most_depth")) (ab (ay 535 "height" (aa "self") (aq (fun ω ω=>True) (fun i j=>i - j) (aq (fun ω ω=>True) (fun i j=>i+j) (ae (aa "self") "height") (ae (aa "self") "depth")) (aa "most_depth")))
 (ay 535 "depth" (aa "self") (aa "most_depth"))) tNil
theorem EH:So wg EG (0) fun W=>T518:=@fun W fms prot A n L ok hn=>
 @l1 _ _ _ (@ar _ _ _ _ _ _ _ _ (am ok (ta lc) lc) (@lk _ _ _ _ _ (aC (dY (bp (ta lc) (ta lc)) lc) lc)
 (@l1 _ _ _ (aC lc lc))) av)
noncomputable def lJ:Fn:=aB 2 T518 ["self","most_depth"] []
theorem EJ {x:Cx}(ok:x.Ok) (hn:1<=x.n):x.C (.ref 518) (lJ):=
 aK @EH ["self","most_depth"] 2 (fun P=>bE fun v0 v1 S=>by kernel_rfl) ok hn
noncomputable def wh (P:Params):FdW P 525:=⟨_,by with_unfolding_all rfl⟩
noncomputable def EK (P:Params):aI P 525 (wh P):=⟨_,by with_unfolding_all rfl⟩
noncomputable def T525:TS:=
 ab (aw "size" (bM (ag .Eq (ae (aa "node") "kind") (tK (.int 5))) (ae (aa "node") "width") (ae (ae (aa "node") "glue") "width")))
 (ab (ak (ag .Eq (ae (aa "node") "kind") (tK (.int 6))) (ab (ak (ag .NotEq (ae (ae (aa "node") "glue") "shrink_order") (tK (.int 0))) (lx 76 (tK (.str "glue that shrinks without end in a list that is split"))) tNil)
 (ab (jg (fun i j=>i+j) (ae (aa "self") "stretch") (ae (ae (aa "node") "glue") "stretch_order") (ae (ae (aa "node") "glue") "stretch"))
 (ay 535 "shrink" (aa "self") (aq (fun ω ω=>True) (fun i j=>i+j) (ae (aa "self") "shrink") (ae (ae (aa "node") "glue") "shrink"))))) tNil)
 (ab (ay 535 "height" (aa "self") (aq (fun ω ω=>True) (fun i j=>i+j) (aq (fun ω ω=>True) (fun i j=>i+j) (ae (aa "self") "height") (ae (aa "self") "depth")) (aa "size")))
 (ay 535 "depth" (aa "self") (tK (.int 0)))))
theorem EL:So wh EK (1) fun W=>T525:=@fun W fms prot A n L ok hn=>
 @lk _ _ _ _ _ (sa (ch (am ok (ta lc) gi) (ta lc) (ta (ta lc))))
 (@lk _ _ _ _ _ (@ar _ _ _ _ _ _ _ _ (am ok (ta lc) gi) (@lk _ _ _ _ _ (@ar _ _ _ _ _ _ _ _ (am ok (ta (ta lc)) gi) (@l1 _ _ _ (sx ok (le hn) (Da _) (Dc _) bP)) av)
 (@lk _ _ _ _ _ (qM cY (ta lc) (ta (ta lc)) (ta (ta lc)))
 (@l1 _ _ _ (aC (bp (ta lc) (ta (ta lc))) lc)))) av)
 (@lk _ _ _ _ _ (aC (bp (bp (ta lc) (ta lc)) lc) lc)
 (@l1 _ _ _ (aC ai lc))))
noncomputable def jV:Fn:=aB 2 T525 ["self","node"] []
theorem EM {x:Cx}(ok:x.Ok) (hn:2<=x.n):x.C (.ref 525) (jV):=
 aK @EL ["self","node"] 2 (fun P=>bE fun v0 v1 S=>by kernel_rfl) ok hn
noncomputable def wi (P:Params):FdW P 532:=⟨_,by with_unfolding_all rfl⟩
noncomputable def EN (P:Params):aI P 532 (wi P):=⟨_,by with_unfolding_all rfl⟩
noncomputable def T532:TS:=
 ab (ak (ag .Lt (ae (aa "self") "height") (aa "goal")) (ab (ak (aV (ag .NotEq (au (ae (aa "self") "stretch") (tK (.int 1))) (tK (.int 0))) (aV (ag .NotEq (au (ae (aa "self") "stretch") (tK (.int 2))) (tK (.int 0))) (ag .NotEq (au (ae (aa "self") "stretch") (tK (.int 3))) (tK (.int 0))))) (ao (tK (.int 0))) tNil)
 (ao (af eF [aq (fun ω ω=>True) (fun i j=>i - j) (aa "goal") (ae (aa "self") "height"),au (ae (aa "self") "stretch") (tK (.int 0))]))) tNil)
 (ab (ak (ag .Gt (aq (fun ω ω=>True) (fun i j=>i - j) (ae (aa "self") "height") (aa "goal")) (ae (aa "self") "shrink")) (ao (tK (.int 1073741823))) tNil)
 (ao (af eF [aq (fun ω ω=>True) (fun i j=>i - j) (ae (aa "self") "height") (aa "goal"),ae (aa "self") "shrink"])))
theorem EO:So wi EN (1) fun W=>T532:=@fun W fms prot A n L ok hn=>
 @lk _ _ _ _ _ (@ar _ _ _ _ _ _ _ _ (am ok (ta lc) lc) (@lk _ _ _ _ _ (@ar _ _ _ _ _ _ _ _ (bW (am ok (aG (ta lc) ai) ai) (bW (am ok (aG (ta lc) ai) ai) (ct (am ok (aG (ta lc) ai) ai)))) (@l1 _ _ _ (aA ai)) av)
 (@l1 _ _ _ (@aA _ _ _ _ (sf (oi ok (le hn)) (cn (dY lc (ta lc)) (c1 (aG (ta lc) ai))))))) av)
 (@lk _ _ _ _ _ (@ar _ _ _ _ _ _ _ _ (am ok (dY (ta lc) lc) (ta lc)) (@l1 _ _ _ (aA gi)) av)
 (@l1 _ _ _ (@aA _ _ _ _ (sf (oi ok (le hn)) (cn (dY (ta lc) lc) (c1 (ta lc)))))))
noncomputable def lK:Fn:=aB 2 T532 ["self","goal"] []
theorem EP {x:Cx}(ok:x.Ok) (hn:2<=x.n):x.C (.ref 532) (lK):=
 aK @EO ["self","goal"] 2 (fun P=>bE fun v0 v1 S=>by kernel_rfl) ok hn
noncomputable def wj (P:Params):FdW P 546:=⟨_,by with_unfolding_all rfl⟩
noncomputable def EQ (P:Params):aI P 546 (wj P):=⟨_,by with_unfolding_all rfl⟩
noncomputable def T546:TS:=
 ab (ak (ag .Eq (aa "place") (af bLen [aa "items"])) (ao (tK (.int (-10000)))) tNil)
 (ab (aw "node" (au (aa "items") (aa "place")))
 (ab (ak (ag .Eq (ae (aa "node") "kind") (tK (.int 7))) (ao (ae (aa "node") "value")) tNil)
 (ab (ak (ag .Eq (ae (aa "node") "kind") (tK (.int 6))) (ao (bM (bf (ag .Gt (aa "place") (tK (.int 0))) (bj (af ji [au (aa "items") (aq (fun ω ω=>True) (fun i j=>i - j) (aa "place") (tK (.int 1)))]))) (tK (.int 0)) (tK .none))) tNil)
 (ab (ak (ag .Eq (ae (aa "node") "kind") (tK (.int 5))) (ab (aw "is_last" (aS (ag .Eq (aq (fun ω ω=>True) (fun i j=>i+j) (aa "place") (tK (.int 1))) (af bLen [aa "items"]))))
 (ao (bM (bf (b7 (bj (aa "is_last"))) (ag .Eq (ae (au (aa "items") (aq (fun ω ω=>True) (fun i j=>i+j) (aa "place") (tK (.int 1)))) "kind") (tK (.int 6)))) (tK (.int 0)) (tK .none)))) tNil)
 (ao (tK .none))))))
theorem ER:So wj EQ (2) fun W=>T546:=@fun W fms prot A n L ok hn=>
 @lk _ _ _ _ _ (@ar _ _ _ _ _ _ _ _ (am ok lc (sb eE ew (c1 lc))) (@l1 _ _ _ (aA gi)) av)
 (@lk _ _ _ _ _ (sa (aG lc lc))
 (@lk _ _ _ _ _ (@ar _ _ _ _ _ _ _ _ (am ok (ta lc) gi) (@l1 _ _ _ (@aA _ _ _ _ (ta lc))) av)
 (@lk _ _ _ _ _ (@ar _ _ _ _ _ _ _ _ (am ok (ta lc) gi) (@l1 _ _ _ (@aA _ _ _ _ (ch (cE (am ok lc ai) (cN (cv (sf (wc ok (le hn)) (c1 (aG lc (dY lc ai))))))) ai cg))) av)
 (@lk _ _ _ _ _ (@ar _ _ _ _ _ _ _ _ (am ok (ta lc) gi) (@lk _ _ _ _ _ (sa (cX ok (bp lc ai) (sb eE ew (c1 lc))))
 (@l1 _ _ _ (@aA _ _ _ _ (ch (cE (dL (cv lc)) (cN (am ok (ta (aG lc (bp lc ai))) gi))) ai cg)))) av)
 (@l1 _ _ _ (aA cg))))))
noncomputable def fU:Fn:=aB 2 T546 ["items","place"] []
theorem ES {x:Cx}(ok:x.Ok) (hn:3<=x.n):x.C (.ref 546) (fU):=
 aK @ER ["items","place"] 2 (fun P=>bE fun v0 v1 S=>by kernel_rfl) ok hn
noncomputable def wk (P:Params):FdW P 553:=⟨_,by with_unfolding_all rfl⟩
noncomputable def ET (P:Params):aI P 553 (wk P):=⟨_,by with_unfolding_all rfl⟩
noncomputable def T553:TS:=
 ab (aw "bad" (aF 535 lK (aa "column") [aa "goal"]))
 (ab (ak (ag .Eq (aa "bad") (tK (.int 1073741823))) (ao (tK (.int 1073741823))) tNil)
 (ab (ak (ag .LtE (aa "penalty") (tK (.int (-10000)))) (ao (aa "penalty")) tNil)
 (ao (bM (ag .Lt (aa "bad") (tK (.int 10000))) (aq (fun ω ω=>True) (fun i j=>i+j) (aa "bad") (aa "penalty")) (tK (.int 100000))))))
theorem EU:So wk ET (2) fun W=>T553:=@fun W fms prot A n L ok hn=>
 @lk _ _ _ _ _ (sa (sm lc (EP ok (le hn)) (c1 lc)))
 (@lk _ _ _ _ _ (@ar _ _ _ _ _ _ _ _ (am ok lc gi) (@l1 _ _ _ (aA gi)) av)
 (@lk _ _ _ _ _ (@ar _ _ _ _ _ _ _ _ (am ok lc gi) (@l1 _ _ _ (aA lc)) av)
 (@l1 _ _ _ (@aA _ _ _ _ (ch (am ok lc gi) (bp lc lc) gi)))))
noncomputable def lL:Fn:=aB 3 T553 ["column","goal","penalty"] []
theorem EV {x:Cx}(ok:x.Ok) (hn:3<=x.n):x.C (.ref 553) (lL):=
 aK @EU ["column","goal","penalty"] 3 (fun P=>ef fun v0 v1 v2 S=>by kernel_rfl) ok hn
noncomputable def wl (P:Params):FdW P 560:=⟨_,by with_unfolding_all rfl⟩
noncomputable def EW (P:Params):aI P 560 (wl P):=⟨_,by with_unfolding_all rfl⟩
noncomputable def T560:TS:=
 ab (aE (af rm [aa "items"]))
 (ab (aE (af dE [aa "height"]))
 (ab (aE (af dE [aa "most_depth"]))
 (ab (aw "column" (eT oF (fun ω=>0) []))
 (ab (bt [an "size",an "least",an "best"] (aD [af bLen [aa "items"],tK (.int 1073741823),tK (.int 0)]))
 (ab (cG "place" (ey [aq (fun ω ω=>True) (fun i j=>i+j) (af bLen [aa "items"]) (tK (.int 1))]) (ab (aw "penalty" (af fU [aa "items",aa "place"]))
 (ab (ak (bf (ag .IsNot (aa "penalty") (tK .none)) (ag .Lt (aa "penalty") (tK (.int 10000)))) (ab (aw "cost" (af lL [aa "column",aa "height",aa "penalty"]))
 (ab (ak (ag .LtE (aa "cost") (aa "least")) (bt [an "size",an "least",an "best"] (aD [aa "place",aa "cost",aq (fun ω ω=>True) (fun i j=>i+j) (ae (aa "column") "height") (ae (aa "column") "depth")])) tNil)
 (ak (aV (ag .Eq (aa "cost") (tK (.int 1073741823))) (ag .LtE (aa "penalty") (tK (.int (-10000))))) (ao (aD [aa "best",aa "least",aa "size"])) tNil))) tNil)
 (ab (aw "node" (au (aa "items") (aa "place")))
 (ab (ak (ag .In (ae (aa "node") "kind") (tK (.tup ([2,3,4,14].map .int)))) (aE (aF 535 lI (aa "column") [aa "node"])) (ak (aV (ag .Eq (ae (aa "node") "kind") (tK (.int 6))) (ag .Eq (ae (aa "node") "kind") (tK (.int 5)))) (aE (aF 535 jV (aa "column") [aa "node"])) tNil))
 (aE (aF 535 lJ (aa "column") [aa "most_depth"])))))))
 (ao (aD [aa "best",aa "least",aa "size"])))))))
theorem EY:So wl EW (3) fun W=>T560:=@fun W fms prot A n L ok hn=>
 @lk _ _ _ _ _ (bI (sf (Ey ok (le hn)) (c1 lc)))
 (@lk _ _ _ _ _ (bI (sf (eh ok (le hn)) (c1 lc)))
 (@lk _ _ _ _ _ (bI (sf (eh ok (le hn)) (c1 lc)))
 (@lk _ _ _ _ _ (sa (sR (EC ok (le hn)) .nil))
 (@lk _ _ _ _ _ (aR ok (@aW _ _ _ _ _ (cn (sb eE ew (c1 lc)) (cn gi (c1 ai)))) rfl (.cons gb (.cons gb (.cons gb .nil))))
 (@lk _ _ _ _ _ (sF ok (sr ok (c1 (bp (sb eE ew (c1 lc)) ai))) (fun ok=>(@lk _ _ _ _ _ (sa (sf (ES ok (le hn)) (cn lc (c1 lc))))
 (@lk _ _ _ _ _ (@ar _ _ _ _ _ _ _ _ (cE (am ok lc cg) (cN (am ok lc gi))) (@lk _ _ _ _ _ (sa (sf (EV ok (le hn)) (cn lc (cn lc (c1 lc)))))
 (@lk _ _ _ _ _ (@ar _ _ _ _ _ _ _ _ (am ok lc lc) (@l1 _ _ _ (aR ok (@aW _ _ _ _ _ (cn lc (cn lc (c1 (bp (ta lc) (ta lc)))))) rfl (.cons gb (.cons gb (.cons gb .nil))))) av)
 (@l1 _ _ _ (@ar _ _ _ _ _ _ _ _ (bW (am ok lc gi) (ct (am ok lc gi))) (@l1 _ _ _ (@aA _ _ _ _ (@aW _ _ _ _ _ (cn lc (cn lc (c1 lc)))))) av)))) av)
 (@lk _ _ _ _ _ (sa (aG lc lc))
 (@lk _ _ _ _ _ (@ar _ _ _ _ _ _ _ _ (am ok (ta lc) gt) (@l1 _ _ _ (bI (sm lc (EF ok (le hn)) (c1 lc)))) (@l1 _ _ _ (@ar _ _ _ _ _ _ _ _ (bW (am ok (ta lc) gi) (ct (am ok (ta lc) gi))) (@l1 _ _ _ (bI (sm lc (EM ok (le hn)) (c1 lc)))) av)))
 (@l1 _ _ _ (bI (sm lc (EJ ok (le hn)) (c1 lc))))))))))
 (@l1 _ _ _ (@aA _ _ _ _ (@aW _ _ _ _ _ (cn lc (cn lc (c1 lc)))))))))))
noncomputable def oG:Fn:=aB 3 T560 ["items","height","most_depth"] []
theorem EZ {x:Cx}(ok:x.Ok) (hn:4<=x.n):x.C (.ref 560) (oG):=
 aK @EY ["items","height","most_depth"] 3 (fun P=>ef fun v0 v1 v2 S=>by kernel_rfl) ok hn
noncomputable def wm (P:Params):FdW P 567:=⟨_,by with_unfolding_all rfl⟩
noncomputable def E0 (P:Params):aI P 567 (wm P):=⟨_,by with_unfolding_all rfl⟩
noncomputable def T567:TS:=
 ao (qX (af oG [aa "items",aa "height",aa "most_depth"]))
theorem E2:So wm E0 (4) fun W=>T567:=@fun W fms prot A n L ok hn=>
 @l1 _ _ _ (@aA _ _ _ _ (CY (sf (EZ ok (le hn)) (cn lc (cn lc (c1 lc))))))
noncomputable def jj:Fn:=aB 3 T567 ["items","height","most_depth"] []
theorem E3 {x:Cx}(ok:x.Ok) (hn:5<=x.n):x.C (.ref 567) (jj):=
 aK @E2 ["items","height","most_depth"] 3 (fun P=>ef fun v0 v1 v2 S=>by kernel_rfl) ok hn
noncomputable def wn (P:Params):FdW P 449:=⟨_,by with_unfolding_all rfl⟩
noncomputable def E4 (P:Params):aI P 449 (wn P):=⟨_,by with_unfolding_all rfl⟩
noncomputable def T449:TS:=
 ab (aw "kind" (ae (aa "node") "kind"))
 (ab (ak (aV (ag .Eq (aa "kind") (tK (.int 0))) (ag .Eq (aa "kind") (tK (.int 1)))) tNo tNil)
 (ab (ak (aV (ag .Eq (aa "kind") (tK (.int 2))) (aV (ag .Eq (aa "kind") (tK (.int 3))) (ag .Eq (aa "kind") (tK (.int 14))))) (ao (ae (aa "node") "height")) tNil)
 (ab (ak (ag .Eq (aa "kind") (tK (.int 4))) tNo tNil)
 (ab (ak (bf (ag .Eq (aa "kind") (tK (.int 6))) (ag .IsNot (ae (aa "node") "leader") (tK .none))) tNo tNil)
 (ab (ak (ag .Eq (aa "kind") (tK (.int 8))) tNo tNil)
 (ao (tK (.int 0))))))))
theorem E5:So wn E4 (0) fun W=>T449:=@fun W fms prot A n L ok hn=>
 @lk _ _ _ _ _ (sa (ta lc))
 (@lk _ _ _ _ _ (@ar _ _ _ _ _ _ _ _ (bW (am ok lc gi) (ct (am ok lc gi))) bL av)
 (@lk _ _ _ _ _ (@ar _ _ _ _ _ _ _ _ (bW (am ok lc gi) (bW (am ok lc gi) (ct (am ok lc gi)))) (@l1 _ _ _ (@aA _ _ _ _ (ta lc))) av)
 (@lk _ _ _ _ _ (@ar _ _ _ _ _ _ _ _ (am ok lc gi) bL av)
 (@lk _ _ _ _ _ (@ar _ _ _ _ _ _ _ _ (cE (am ok lc gi) (cN (am ok (ta lc) cg))) bL av)
 (@lk _ _ _ _ _ (@ar _ _ _ _ _ _ _ _ (am ok lc gi) bL av)
 (@l1 _ _ _ (aA ai)))))))
noncomputable def gE:Fn:=aB 1 T449 ["node"] []
theorem rp {x:Cx}(ok:x.Ok) (hn:1<=x.n):x.C (.ref 449) (gE):=
 aK @E5 ["node"] 1 (fun P=>b8 fun v0 S=>by kernel_rfl) ok hn
noncomputable def wo (P:Params):FdW P 454:=⟨_,by with_unfolding_all rfl⟩
noncomputable def E6 (P:Params):aI P 454 (wo P):=⟨_,by with_unfolding_all rfl⟩
noncomputable def T454:TS:=
 ab (aw "kind" (ae (aa "node") "kind"))
 (ab (ak (aV (ag .Eq (aa "kind") (tK (.int 0))) (ag .Eq (aa "kind") (tK (.int 1)))) tNo tNil)
 (ab (ak (aV (ag .Eq (aa "kind") (tK (.int 2))) (aV (ag .Eq (aa "kind") (tK (.int 3))) (ag .Eq (aa "kind") (tK (.int 14))))) (ao (ae (aa "node") "depth")) tNil)
 (ab (ak (ag .Eq (aa "kind") (tK (.int 4))) tNo tNil)
 (ab (ak (bf (ag .Eq (aa "kind") (tK (.int 6))) (ag .IsNot (ae (aa "node") "leader") (tK .none))) tNo tNil)
 (ab (ak (ag .Eq (aa "kind") (tK (.int 8))) tNo tNil)
 (ao (tK (.int 0))))))))
theorem E7:So wo E6 (0) fun W=>T454:=@fun W fms prot A n L ok hn=>
 @lk _ _ _ _ _ (sa (ta lc))
 (@lk _ _ _ _ _ (@ar _ _ _ _ _ _ _ _ (bW (am ok lc gi) (ct (am ok lc gi))) bL av)
 (@lk _ _ _ _ _ (@ar _ _ _ _ _ _ _ _ (bW (am ok lc gi) (bW (am ok lc gi) (ct (am ok lc gi)))) (@l1 _ _ _ (@aA _ _ _ _ (ta lc))) av)
 (@lk _ _ _ _ _ (@ar _ _ _ _ _ _ _ _ (am ok lc gi) bL av)
 (@lk _ _ _ _ _ (@ar _ _ _ _ _ _ _ _ (cE (am ok lc gi) (cN (am ok (ta lc) cg))) bL av)
 (@lk _ _ _ _ _ (@ar _ _ _ _ _ _ _ _ (am ok lc gi) bL av)
 (@l1 _ _ _ (aA ai)))))))
noncomputable def iB:Fn:=aB 1 T454 ["node"] []
theorem wp {x:Cx}(ok:x.Ok) (hn:1<=x.n):x.C (.ref 454) (iB):=
 aK @E7 ["node"] 1 (fun P=>b8 fun v0 S=>by kernel_rfl) ok hn
noncomputable def wq (P:Params):FdW P 584:=⟨_,by with_unfolding_all rfl⟩
noncomputable def E8 (P:Params):aI P 584 (wq P):=⟨_,by with_unfolding_all rfl⟩
noncomputable def T584:TS:=
 ab (aw "found" (tK (.int 0)))
 (ab (cG "node" (bc (aa "items")) (ak (ag .In (ae (aa "node") "kind") (tK (.tup ([2,3,4].map .int)))) (ci "found" (fun i j=>i+j) (aq (fun ω ω=>True) (fun i j=>i+j) (af gE [aa "node"]) (af iB [aa "node"]))) (ak (ag .Eq (ae (aa "node") "kind") (tK (.int 5))) (ci "found" (fun i j=>i+j) (ae (aa "node") "width")) (ak (ag .Eq (ae (aa "node") "kind") (tK (.int 6))) (ci "found" (fun i j=>i+j) (ae (ae (aa "node") "glue") "width")) tNil))))
 (ao (aa "found")))
theorem E9:So wq E8 (1) fun W=>T584:=@fun W fms prot A n L ok hn=>
 @lk _ _ _ _ _ (sa ai)
 (@lk _ _ _ _ _ (sF ok (cH ok lc) (fun ok=>(@l1 _ _ _ (@ar _ _ _ _ _ _ _ _ (am ok (ta lc) gt) (@l1 _ _ _ (aN cY (bp (sf (rp ok (le hn)) (c1 lc)) (sf (wp ok (le hn)) (c1 lc))))) (@l1 _ _ _ (@ar _ _ _ _ _ _ _ _ (am ok (ta lc) gi) (@l1 _ _ _ (aN cY (ta lc))) (@l1 _ _ _ (@ar _ _ _ _ _ _ _ _ (am ok (ta lc) gi) (@l1 _ _ _ (aN cY (ta (ta lc)))) av))))))))
 (@l1 _ _ _ (aA lc)))
noncomputable def jW:Fn:=aB 1 T584 ["items"] []
theorem Fa {x:Cx}(ok:x.Ok) (hn:2<=x.n):x.C (.ref 584) (jW):=
 aK @E9 ["items"] 1 (fun P=>b8 fun v0 S=>by kernel_rfl) ok hn
noncomputable def wr (P:Params):FdW P 591:=⟨_,by with_unfolding_all rfl⟩
noncomputable def Fb (P:Params):aI P 591 (wr P):=⟨_,by with_unfolding_all rfl⟩
noncomputable def T591:TS:=
 ak (ag .NotEq (ae (aa "glue") "shrink_order") (tK (.int 0))) (lx 88 (tK (.str "glue on a page that shrinks without end"))) tNil
theorem Fc:So wr Fb (1) fun W=>T591:=@fun W fms prot A n L ok hn=>
 @l1 _ _ _ (@ar _ _ _ _ _ _ _ _ (am ok (ta lc) gi) (@l1 _ _ _ (sx ok (le hn) (Db _) (Dd _) bP)) av)
noncomputable def eX:Fn:=aB 1 T591 ["glue"] []
theorem rq {x:Cx}(ok:x.Ok) (hn:2<=x.n):x.C (.ref 591) (eX):=
 aK @Fc ["glue"] 1 (fun P=>b8 fun v0 S=>by kernel_rfl) ok hn
noncomputable def wu (P:Params):FdW P 598:=⟨_,by with_unfolding_all rfl⟩
noncomputable def Fd (P:Params):aI P 598 (wu P):=⟨_,by with_unfolding_all rfl⟩
noncomputable def T598:TS:=
 ab (aw "room" (tK (.int 1073741823)))
 (ab (ak (ag .Gt (ae (aa "row") "factor") (tK (.int 0))) (aw "room" (bM (ag .Eq (ae (aa "row") "factor") (tK (.int 1000))) (aa "free") (aq IntMulOk (fun i j=>i * j) (au (af lH [aa "free",ae (aa "row") "factor"]) (tK (.int 0))) (tK (.int 1000))))) tNil)
 (ao (af bMax2 [af bMin3 [aa "room",aq (fun ω ω=>True) (fun i j=>i - j) (ae (aa "row") "most") (aa "size"),tK (.int 1073741823)],cD (tK (.int 1073741823))])))
theorem Fe:So wu Fd (2) fun W=>T598:=@fun W fms prot A n L ok hn=>
 @lk _ _ _ _ _ (sa gi)
 (@lk _ _ _ _ _ (@ar _ _ _ _ _ _ _ _ (am ok (ta lc) ai) (@l1 _ _ _ (sa (ch (am ok (ta lc) ai) lc (cq (aG (sf (vS ok (le hn)) (cn lc (c1 (ta lc)))) ai) ai)))) av)
 (@l1 _ _ _ (@aA _ _ _ _ (sb q8 (qH ok) (cn (sb Dp (Ca ok) (cn lc (cn (dY (ta lc) lc) (c1 gi)))) (c1 (dR gi)))))))
noncomputable def gG:Fn:=aB 3 T598 ["row","free","size"] []
theorem Ff {x:Cx}(ok:x.Ok) (hn:3<=x.n):x.C (.ref 598) (gG):=
 aK @Fe ["row","free","size"] 3 (fun P=>ef fun v0 v1 v2 S=>by kernel_rfl) ok hn
noncomputable def wv (P:Params):FdW P 613:=⟨_,by with_unfolding_all rfl⟩
noncomputable def Fg (P:Params):aI P 613 (wv P):=⟨_,by with_unfolding_all rfl⟩
noncomputable def T613:TS:=
 ab (ak (b7 (bj (af fA [aa "number",tK (.int 0),tK (.int 254)]))) tNo tNil)
 (ab (ay 623 "number" (aa "self") (aa "number"))
 (ab (ay 623 "factor" (aa "self") (af jS [aa "factor"]))
 (ab (ay 623 "most" (aa "self") (af dE [aa "most"]))
 (ab (ay 623 "skip" (aa "self") (bM (ag .Is (aa "skip") (tK .none)) (af K258_0 []) (aa "skip")))
 (ay 623 "held" (aa "self") (af iA [aa "held"]))))))
theorem oH:So wv Fg (4) fun W=>T613:=@fun W fms prot A n L ok hn=>
 @lk _ _ _ _ _ (@ar _ _ _ _ _ _ _ _ (dL (cv (sf (iz ok (le hn)) (cn lc (cn ai (c1 gi)))))) (l1 bL) av)
 (@lk _ _ _ _ _ (aC lc lc)
 (@lk _ _ _ _ _ (aC (sf (re ok (le hn)) (c1 lc)) lc)
 (@lk _ _ _ _ _ (aC (sf (eh ok (le hn)) (c1 lc)) lc)
 (@lk _ _ _ _ _ (aC (ch (am ok lc cg) (sk (om ok (le hn)) .nil) lc) lc)
 (@l1 _ _ _ (aC (sf (lG ok (le hn)) (c1 lc)) lc))))))
noncomputable def oI:Fn:=aB 2 T613 ["self","number","factor","most","skip","held"] [.int 1000,.int 1073741823,.none,.int 0]
theorem Fh {x:Cx}(ok:x.Ok) (hn:5<=x.n):x.C (.ref 613) (oI):=
 iy @oH ["self","number","factor","most","skip","held"] 2 [.int 1000 1106,.int 1073741823 312,.none,.int 0 1107] [.int 1000,.int 1073741823,.none,.int 0] (fun P=>bE fun v0 v1 S=>by kernel_rfl) (fun c=>Rs.cons (.int _ _) (Rs.cons (.int _ _) (Rs.cons .none (Rs.cons (.int _ _) (Rs.nil c))))) ok hn
noncomputable def rt:Fn:=aB 4 T613 ["self","number","factor","most","skip","held"] [.none,.int 0]
theorem Fi {x:Cx}(ok:x.Ok) (hn:5<=x.n):x.C (.ref 613) (rt):=
 iy @oH ["self","number","factor","most","skip","held"] 4 [.none,.int 0 1107] [.none,.int 0] (fun P=>vJ fun v0 v1 v2 v3 S=>by kernel_rfl) (fun c=>Rs.cons .none (Rs.cons (.int _ _) (Rs.nil c))) ok hn
noncomputable def oJ:Fn:=aB 5 T613 ["self","number","factor","most","skip","held"] [.int 0]
theorem Fj {x:Cx}(ok:x.Ok) (hn:5<=x.n):x.C (.ref 613) (oJ):=
 iy @oH ["self","number","factor","most","skip","held"] 5 [.int 0 1107] [.int 0] (fun P=>lE fun v0 v1 v2 v3 v4 S=>by kernel_rfl) (fun c=>Rs.cons (.int _ _) (Rs.nil c)) ok hn
noncomputable def oK:Fn:=aB 6 T613 ["self","number","factor","most","skip","held"] []
theorem Fk {x:Cx}(ok:x.Ok) (hn:5<=x.n):x.C (.ref 613) (oK):=
 aK @oH ["self","number","factor","most","skip","held"] 6 (fun P=>oh fun v0 v1 v2 v3 v4 v5 S=>by kernel_rfl) ok hn
noncomputable def K623_1:Fn:=dN 623 oI
noncomputable def Fm:Nat->Fn:=cw 623 oI
theorem Fo {x:Cx}(ok:x.Ok) (hn:6<=x.n) (r:Nat):x.C (.ref 623) (Fm r):=
 dq (dh (f:=613)) (fun vs=>Fh (cZ ok (le hn)) (Y0 hn)) r
theorem Fp {x:Cx}(ok:x.Ok) (hn:6<=x.n):x.C (.ref 623) K623_1:=dS (Fo ok hn 0)
noncomputable def K623_3:Fn:=dN 623 rt
noncomputable def Fq:Nat->Fn:=cw 623 rt
theorem Ft {x:Cx}(ok:x.Ok) (hn:6<=x.n) (r:Nat):x.C (.ref 623) (Fq r):=
 dq (dh (f:=613)) (fun vs=>Fi (cZ ok (le hn)) (Y0 hn)) r
theorem Fu {x:Cx}(ok:x.Ok) (hn:6<=x.n):x.C (.ref 623) K623_3:=dS (Ft ok hn 0)
noncomputable def K623_4:Fn:=dN 623 oJ
noncomputable def Fv:Nat->Fn:=cw 623 oJ
theorem Fw {x:Cx}(ok:x.Ok) (hn:6<=x.n) (r:Nat):x.C (.ref 623) (Fv r):=
 dq (dh (f:=613)) (fun vs=>Fj (cZ ok (le hn)) (Y0 hn)) r
theorem Fy {x:Cx}(ok:x.Ok) (hn:6<=x.n):x.C (.ref 623) K623_4:=dS (Fw ok hn 0)
noncomputable def K623_5:Fn:=dN 623 oK
noncomputable def Fz:Nat->Fn:=cw 623 oK
theorem FB {x:Cx}(ok:x.Ok) (hn:6<=x.n) (r:Nat):x.C (.ref 623) (Fz r):=
 dq (dh (f:=613)) (fun vs=>Fk (cZ ok (le hn)) (Y0 hn)) r
theorem FC {x:Cx}(ok:x.Ok) (hn:6<=x.n):x.C (.ref 623) K623_5:=dS (FB ok hn 0)
noncomputable def ww (P:Params):FdW P 620:=⟨_,by with_unfolding_all rfl⟩
noncomputable def FD (P:Params):aI P 620 (ww P):=⟨_,by with_unfolding_all rfl⟩
noncomputable def T620:TS:=
 ab (ak (ag .Eq (ae (aa "self") "factor") (tK (.int 1000))) (ao (aa "size")) tNil)
 (ao (aq IntMulOk (fun i j=>i * j) (au (af lH [aa "size",tK (.int 1000)]) (tK (.int 0))) (ae (aa "self") "factor")))
theorem FE:So ww FD (2) fun W=>T620:=@fun W fms prot A n L ok hn=>
 @lk _ _ _ _ _ (@ar _ _ _ _ _ _ _ _ (am ok (ta lc) ai) (@l1 _ _ _ (aA lc)) av)
 (@l1 _ _ _ (@aA _ _ _ _ (cq (aG (sf (vS ok (le hn)) (cn lc (c1 ai))) ai) (ta lc))))
noncomputable def eY:Fn:=aB 2 T620 ["self","size"] []
theorem rA {x:Cx}(ok:x.Ok) (hn:3<=x.n):x.C (.ref 620) (eY):=
 aK @FE ["self","size"] 2 (fun P=>bE fun v0 v1 S=>by kernel_rfl) ok hn
noncomputable def wx (P:Params):FdW P 643:=⟨_,by with_unfolding_all rfl⟩
noncomputable def FF (P:Params):aI P 643 (wx P):=⟨_,by with_unfolding_all rfl⟩
noncomputable def T643:TS:=
 ab (ay 653 "rows" (aa "self") (nT (fun ω=>4)))
 (cG "row" (bc (aa "rows")) (jf (aa "row") (ae (aa "self") "rows") (ae (aa "row") "number")))
theorem FG:So wx FF (0) fun W=>T643:=@fun W fms prot A n L ok hn=>
 @lk _ _ _ _ _ (aC vv lc)
 (@l1 _ _ _ (sF ok (cH ok lc) (fun ok=>(@l1 _ _ _ (nQ lc (ta lc) (ta lc))))))
noncomputable def oM:Fn:=aB 2 T643 ["self","rows"] []
theorem FH {x:Cx}(ok:x.Ok) (hn:1<=x.n):x.C (.ref 643) (oM):=
 aK @FG ["self","rows"] 2 (fun P=>bE fun v0 v1 S=>by kernel_rfl) ok hn
noncomputable def K653:Fn:=dN 653 oM
noncomputable def FI:Nat->Fn:=cw 653 oM
theorem FJ {x:Cx}(ok:x.Ok) (hn:2<=x.n) (r:Nat):x.C (.ref 653) (FI r):=
 dq (dh (f:=643)) (fun vs=>FH (cZ ok (le hn)) (Y0 hn)) r
theorem FK {x:Cx}(ok:x.Ok) (hn:2<=x.n):x.C (.ref 653) K653:=dS (FJ ok hn 0)
noncomputable def wy (P:Params):FdW P 650:=⟨_,by with_unfolding_all rfl⟩
noncomputable def FL (P:Params):aI P 650 (wy P):=⟨_,by with_unfolding_all rfl⟩
noncomputable def T650:TS:=
 ab (ak (qQ (aa "number") (ae (aa "self") "rows")) (ao (au (ae (aa "self") "rows") (aa "number"))) tNil)
 (ao (af K623_3 [aa "number",tK (.int 0),tK (.int 0)]))
theorem FM:So wy FL (6) fun W=>T650:=@fun W fms prot A n L ok hn=>
 @lk _ _ _ _ _ (@ar _ _ _ _ _ _ _ _ (CH lc (ta lc)) (@l1 _ _ _ (@aA _ _ _ _ (aG (ta lc) lc))) av)
 (@l1 _ _ _ (@aA _ _ _ _ (sk (Fu ok (le hn)) (cn lc (cn ai (c1 ai))))))
noncomputable def jX:Fn:=aB 2 T650 ["self","number"] []
theorem FN {x:Cx}(ok:x.Ok) (hn:7<=x.n):x.C (.ref 650) (jX):=
 aK @FM ["self","number"] 2 (fun P=>bE fun v0 v1 S=>by kernel_rfl) ok hn
noncomputable def wz (P:Params):FdW P 671:=⟨_,by with_unfolding_all rfl⟩
noncomputable def FO (P:Params):aI P 671 (wz P):=⟨_,by with_unfolding_all rfl⟩
noncomputable def T671:TS:=
 ab (ay 674 "size" (aa "self") (aa "size"))
 (ab (ay 674 "last" (aa "self") (cD (tK (.int 1))))
 (ab (ay 674 "best" (aa "self") (cD (tK (.int 1))))
 (ab (ay 674 "split_at" (aa "self") (cD (tK (.int 1))))
 (ay 674 "split_place" (aa "self") (tK (.int 0))))))
theorem FP:So wz FO (0) fun W=>T671:=@fun W fms prot A n L ok hn=>
 @lk _ _ _ _ _ (aC lc lc)
 (@lk _ _ _ _ _ (aC (dR ai) lc)
 (@lk _ _ _ _ _ (aC (dR ai) lc)
 (@lk _ _ _ _ _ (aC (dR ai) lc)
 (@l1 _ _ _ (aC ai lc)))))
noncomputable def rB:Fn:=aB 2 T671 ["self","size"] []
theorem FQ {x:Cx}(ok:x.Ok) (hn:1<=x.n):x.C (.ref 671) (rB):=
 aK @FP ["self","size"] 2 (fun P=>bE fun v0 v1 S=>by kernel_rfl) ok hn
noncomputable def jk:Nat->Fn:=cw 674 rB
theorem FS {x:Cx}(ok:x.Ok) (hn:2<=x.n) (r:Nat):x.C (.ref 674) (jk r):=
 dq (dh (f:=671)) (fun vs=>FQ (cZ ok (le hn)) (Y0 hn)) r
noncomputable def wA (P:Params):FdW P 692:=⟨_,by with_unfolding_all rfl⟩
noncomputable def FT (P:Params):aI P 692 (wA P):=⟨_,by with_unfolding_all rfl⟩
noncomputable def T692:TS:=
 ab (ay 695 "place" (aa "self") (aa "place"))
 (ab (ay 695 "penalty" (aa "self") (aa "penalty"))
 (ab (ay 695 "cost" (aa "self") (aa "cost"))
 (ay 695 "size" (aa "self") (aa "size"))))
theorem FU:So wA FT (0) fun W=>T692:=@fun W fms prot A n L ok hn=>
 @lk _ _ _ _ _ (aC lc lc)
 (@lk _ _ _ _ _ (aC lc lc)
 (@lk _ _ _ _ _ (aC lc lc)
 (@l1 _ _ _ (aC lc lc))))
noncomputable def oN:Fn:=aB 5 T692 ["self","place","penalty","cost","size"] []
theorem FV {x:Cx}(ok:x.Ok) (hn:1<=x.n):x.C (.ref 692) (oN):=
 aK @FU ["self","place","penalty","cost","size"] 5 (fun P=>lE fun v0 v1 v2 v3 v4 S=>by kernel_rfl) ok hn
noncomputable def K695:Fn:=dN 695 oN
noncomputable def FW:Nat->Fn:=cw 695 oN
theorem FX {x:Cx}(ok:x.Ok) (hn:2<=x.n) (r:Nat):x.C (.ref 695) (FW r):=
 dq (dh (f:=692)) (fun vs=>FV (cZ ok (le hn)) (Y0 hn)) r
theorem FY {x:Cx}(ok:x.Ok) (hn:2<=x.n):x.C (.ref 695) K695:=dS (FX ok hn 0)
noncomputable def wB (P:Params):FdW P 728:=⟨_,by with_unfolding_all rfl⟩
noncomputable def FZ (P:Params):aI P 728 (wB P):=⟨_,by with_unfolding_all rfl⟩
noncomputable def T728:TS:=
 ab (ay 829 "total" (aa "self") (tK (.int 0)))
 (ab (ay 829 "stretch" (aa "self") (fq (fy "self") .arr [tK (.int 0),tK (.int 0),tK (.int 0),tK (.int 0)]))
 (ab (ay 829 "shrink" (aa "self") (tK (.int 0)))
 (ab (ay 829 "depth" (aa "self") (tK (.int 0)))
 (ay 829 "best" (aa "self") (tK .none)))))
theorem F1:So wB FZ (0) fun W=>T728:=@fun W fms prot A n L ok hn=>
 @lk _ _ _ _ _ (aC ai lc)
 (@lk _ _ _ _ _ (aC (qC (cn ai (cn ai (cn ai (c1 ai))))) lc)
 (@lk _ _ _ _ _ (aC ai lc)
 (@lk _ _ _ _ _ (aC ai lc)
 (@l1 _ _ _ (aC cg lc)))))
noncomputable def jY:Fn:=aB 1 T728 ["self"] []
theorem wC {x:Cx}(ok:x.Ok) (hn:1<=x.n):x.C (.ref 728) (jY):=
 aK @F1 ["self"] 1 (fun P=>b8 fun v0 S=>by kernel_rfl) ok hn
noncomputable def wD (P:Params):FdW P 721:=⟨_,by with_unfolding_all rfl⟩
noncomputable def F2 (P:Params):aI P 721 (wD P):=⟨_,by with_unfolding_all rfl⟩
noncomputable def T721:TS:=
 ab (ay 829 "page" (aa "self") (fq (fy "self") .list []))
 (ab (ay 829 "state" (aa "self") (tK (.int 0)))
 (ab (aE (aF 829 jY (aa "self") []))
 (ab (ay 829 "goal" (aa "self") (tK (.int 0)))
 (ab (ay 829 "most_depth" (aa "self") (tK (.int 0)))
 (ab (ay 829 "inserts" (aa "self") (nT (fy "self")))
 (ab (ay 829 "insert_penalties" (aa "self") (tK (.int 0)))
 (ab (ay 829 "last_penalty" (aa "self") (tK (.int 0)))
 (ab (ay 829 "last_kern" (aa "self") (tK (.int 0)))
 (ay 829 "last_glue" (aa "self") (ae (aa "self") "no_glue"))))))))))
theorem F3:So wD F2 (1) fun W=>T721:=@fun W fms prot A n L ok hn=>
 @lk _ _ _ _ _ (aC (nG .nil) lc)
 (@lk _ _ _ _ _ (aC gi lc)
 (@lk _ _ _ _ _ (bI (sm lc (wC ok (le hn)) .nil))
 (@lk _ _ _ _ _ (aC ai lc)
 (@lk _ _ _ _ _ (aC ai lc)
 (@lk _ _ _ _ _ (aC vv lc)
 (@lk _ _ _ _ _ (aC ai lc)
 (@lk _ _ _ _ _ (aC ai lc)
 (@lk _ _ _ _ _ (aC ai lc)
 (@l1 _ _ _ (aC (ta lc) lc))))))))))
noncomputable def rC:Fn:=aB 1 T721 ["self"] []
theorem F4 {x:Cx}(ok:x.Ok) (hn:2<=x.n):x.C (.ref 721) (rC):=
 aK @F3 ["self"] 1 (fun P=>b8 fun v0 S=>by kernel_rfl) ok hn
noncomputable def wE (P:Params):FdW P 714:=⟨_,by with_unfolding_all rfl⟩
noncomputable def F5 (P:Params):aI P 714 (wE P):=⟨_,by with_unfolding_all rfl⟩
noncomputable def T714:TS:=
 ab (ay 829 "vsize" (aa "self") (af dE [aa "vsize"]))
 (ab (ay 829 "max_depth" (aa "self") (af dE [aa "max_depth"]))
 (ab (ay 829 "no_glue" (aa "self") (af K258_0 []))
 (ab (ay 829 "contributions" (aa "self") (fq (fy "self") .list []))
 (ab (ay 829 "held" (aa "self") (fq (fy "self") .list []))
 (aE (aF 829 rC (aa "self") []))))))
theorem F6:So wE F5 (4) fun W=>T714:=@fun W fms prot A n L ok hn=>
 @lk _ _ _ _ _ (aC (sf (eh ok (le hn)) (c1 lc)) lc)
 (@lk _ _ _ _ _ (aC (sf (eh ok (le hn)) (c1 lc)) lc)
 (@lk _ _ _ _ _ (aC (sk (om ok (le hn)) .nil) lc)
 (@lk _ _ _ _ _ (aC (nG .nil) lc)
 (@lk _ _ _ _ _ (aC (nG .nil) lc)
 (@l1 _ _ _ (bI (sm lc (F4 ok (le hn)) .nil)))))))
noncomputable def rD:Fn:=aB 3 T714 ["self","vsize","max_depth"] []
theorem F7 {x:Cx}(ok:x.Ok) (hn:5<=x.n):x.C (.ref 714) (rD):=
 aK @F6 ["self","vsize","max_depth"] 3 (fun P=>ef fun v0 v1 v2 S=>by kernel_rfl) ok hn
noncomputable def jl:Nat->Fn:=cw 829 rD
theorem wF {x:Cx}(ok:x.Ok) (hn:6<=x.n) (r:Nat):x.C (.ref 829) (jl r):=
 dq (dh (f:=714)) (fun vs=>F7 (cZ ok (le hn)) (Y0 hn)) r
noncomputable def wG (P:Params):FdW P 735:=⟨_,by with_unfolding_all rfl⟩
noncomputable def F8 (P:Params):aI P 735 (wG P):=⟨_,by with_unfolding_all rfl⟩
noncomputable def T735:TS:=
 ab (aE (aF 829 jY (aa "self") []))
 (ab (ay 829 "state" (aa "self") (aa "state"))
 (ab (ay 829 "goal" (aa "self") (ae (aa "self") "vsize"))
 (ay 829 "most_depth" (aa "self") (ae (aa "self") "max_depth"))))
theorem F9:So wG F8 (1) fun W=>T735:=@fun W fms prot A n L ok hn=>
 @lk _ _ _ _ _ (bI (sm lc (wC ok (le hn)) .nil))
 (@lk _ _ _ _ _ (aC lc lc)
 (@lk _ _ _ _ _ (aC (ta lc) lc)
 (@l1 _ _ _ (aC (ta lc) lc))))
noncomputable def jZ:Fn:=aB 2 T735 ["self","state"] []
theorem wH {x:Cx}(ok:x.Ok) (hn:2<=x.n):x.C (.ref 735) (jZ):=
 aK @F9 ["self","state"] 2 (fun P=>bE fun v0 v1 S=>by kernel_rfl) ok hn
noncomputable def wI (P:Params):FdW P 763:=⟨_,by with_unfolding_all rfl⟩
noncomputable def Ga (P:Params):aI P 763 (wI P):=⟨_,by with_unfolding_all rfl⟩
noncomputable def T763:TS:=
 ab (cG "node" (bc (aa "items")) (ak (ag .NotIn (ae (aa "node") "kind") (tK (.tup ([2,3,4,5,6,7,9,10,13].map .int)))) tNo tNil))
 (aE (cj "list" (ae (aa "self") "contributions") bExtend [aa "items"]))
theorem Gb:So wI Ga (0) fun W=>T763:=@fun W fms prot A n L ok hn=>
 @lk _ _ _ _ _ (sF ok (cH ok lc) (fun ok=>(@l1 _ _ _ (@ar _ _ _ _ _ _ _ _ (am ok (ta lc) gt) (l1 bL) av))))
 (@l1 _ _ _ (bI (sl F.slot_list_extend (ta lc) Cy (c1 lc))))
noncomputable def cx:Fn:=aB 2 T763 ["self","items"] []
theorem j0 {x:Cx}(ok:x.Ok) (hn:1<=x.n):x.C (.ref 763) (cx):=
 aK @Gb ["self","items"] 2 (fun P=>bE fun v0 v1 S=>by kernel_rfl) ok hn
noncomputable def wJ (P:Params):FdW P 777:=⟨_,by with_unfolding_all rfl⟩
noncomputable def Gc (P:Params):aI P 777 (wJ P):=⟨_,by with_unfolding_all rfl⟩
noncomputable def T777:TS:=
 ab (ay 829 "last_glue" (aa "self") (bM (ag .Eq (ae (aa "node") "kind") (tK (.int 6))) (ae (aa "node") "glue") (ae (aa "self") "no_glue")))
 (ab (ay 829 "last_kern" (aa "self") (bM (ag .Eq (ae (aa "node") "kind") (tK (.int 5))) (ae (aa "node") "width") (tK (.int 0))))
 (ay 829 "last_penalty" (aa "self") (bM (ag .Eq (ae (aa "node") "kind") (tK (.int 7))) (ae (aa "node") "value") (tK (.int 0)))))
theorem Gd:So wJ Gc (0) fun W=>T777:=@fun W fms prot A n L ok hn=>
 @lk _ _ _ _ _ (aC (ch (am ok (ta lc) gi) (ta lc) (ta lc)) lc)
 (@lk _ _ _ _ _ (aC (ch (am ok (ta lc) gi) (ta lc) ai) lc)
 (@l1 _ _ _ (aC (ch (am ok (ta lc) gi) (ta lc) ai) lc)))
noncomputable def iC:Fn:=aB 2 T777 ["self","node"] []
theorem Ge {x:Cx}(ok:x.Ok) (hn:1<=x.n):x.C (.ref 777) (iC):=
 aK @Gd ["self","node"] 2 (fun P=>bE fun v0 v1 S=>by kernel_rfl) ok hn
noncomputable def wK (P:Params):FdW P 784:=⟨_,by with_unfolding_all rfl⟩
noncomputable def Gf (P:Params):aI P 784 (wK P):=⟨_,by with_unfolding_all rfl⟩
noncomputable def T784:TS:=
 ab (aE (af eX [aa "top_skip"]))
 (ab (aw "width" (af bMax2 [aq (fun ω ω=>True) (fun i j=>i - j) (ae (aa "top_skip") "width") (af gE [aa "node"]),tK (.int 0)]))
 (ab (aw "glue" (af K258_5 [aa "width",ae (aa "top_skip") "stretch",ae (aa "top_skip") "stretch_order",ae (aa "top_skip") "shrink",ae (aa "top_skip") "shrink_order"]))
 (ab (ak (ag .Eq (ae (aa "self") "state") (tK (.int 0))) (aE (aF 829 jZ (aa "self") [tK (.int 2)])) tNil)
 (ab (ay 829 "state" (aa "self") (tK (.int 2)))
 (aE (cj "list" (ae (aa "self") "contributions") bInsert [tK (.int 0),af K346_2 [aa "glue",tK (.int 107)]]))))))
theorem Gg:So wK Gf (4) fun W=>T784:=@fun W fms prot A n L ok hn=>
 @lk _ _ _ _ _ (bI (sf (rq ok (le hn)) (c1 lc)))
 (@lk _ _ _ _ _ (sa (sb q8 (qH ok) (cn (dY (ta lc) (sf (rp ok (le hn)) (c1 lc))) (c1 ai))))
 (@lk _ _ _ _ _ (sa (sk (jT ok (le hn)) (cn lc (cn (ta lc) (cn (ta lc) (cn (ta lc) (c1 (ta lc))))))))
 (@lk _ _ _ _ _ (@ar _ _ _ _ _ _ _ _ (am ok (ta lc) gi) (@l1 _ _ _ (bI (sm lc (wH ok (le hn)) (c1 gi)))) av)
 (@lk _ _ _ _ _ (aC gi lc)
 (@l1 _ _ _ (bI (sl F.slot_list_insert (ta lc) Cw (cn ai (c1 (sk (ox ok (le hn)) (cn lc (c1 gi))))))))))))
noncomputable def fV:Fn:=aB 3 T784 ["self","node","top_skip"] []
theorem Gh {x:Cx}(ok:x.Ok) (hn:5<=x.n):x.C (.ref 784) (fV):=
 aK @Gg ["self","node","top_skip"] 3 (fun P=>ef fun v0 v1 v2 S=>by kernel_rfl) ok hn
noncomputable def wL (P:Params):FdW P 791:=⟨_,by with_unfolding_all rfl⟩
noncomputable def Gi (P:Params):aI P 791 (wL P):=⟨_,by with_unfolding_all rfl⟩
noncomputable def T791:TS:=
 ab (ak (ag .Eq (ae (aa "node") "kind") (tK (.int 7))) (ao (ae (aa "node") "value")) tNil)
 (ab (ak (bf (ag .Eq (ae (aa "node") "kind") (tK (.int 6))) (bf (ag .NotEq (ae (aa "self") "page") (bB [])) (bj (af ji [au (ae (aa "self") "page") (cD (tK (.int 1)))])))) (ao (tK (.int 0))) tNil)
 (ab (ak (bf (ag .Eq (ae (aa "node") "kind") (tK (.int 5))) (ag .Eq (ae (au (ae (aa "self") "contributions") (tK (.int 1))) "kind") (tK (.int 6)))) (ao (tK (.int 0))) tNil)
 (ao (tK .none))))
theorem Gj:So wL Gi (2) fun W=>T791:=@fun W fms prot A n L ok hn=>
 @lk _ _ _ _ _ (@ar _ _ _ _ _ _ _ _ (am ok (ta lc) gi) (@l1 _ _ _ (@aA _ _ _ _ (ta lc))) av)
 (@lk _ _ _ _ _ (@ar _ _ _ _ _ _ _ _ (cE (am ok (ta lc) gi) (cE (am ok (ta lc) (cF .nil)) (cN (cv (sf (wc ok (le hn)) (c1 (aG (ta lc) (dR ai)))))))) (@l1 _ _ _ (aA ai)) av)
 (@lk _ _ _ _ _ (@ar _ _ _ _ _ _ _ _ (cE (am ok (ta lc) gi) (cN (am ok (ta (aG (ta lc) ai)) gi))) (@l1 _ _ _ (aA ai)) av)
 (@l1 _ _ _ (aA cg))))
noncomputable def eZ:Fn:=aB 2 T791 ["self","node"] []
theorem Gk {x:Cx}(ok:x.Ok) (hn:3<=x.n):x.C (.ref 791) (eZ):=
 aK @Gj ["self","node"] 2 (fun P=>bE fun v0 v1 S=>by kernel_rfl) ok hn
noncomputable def wM (P:Params):FdW P 798:=⟨_,by with_unfolding_all rfl⟩
noncomputable def Gm (P:Params):aI P 798 (wM P):=⟨_,by with_unfolding_all rfl⟩
noncomputable def T798:TS:=
 ab (aw "excess" (aq (fun ω ω=>True) (fun i j=>i - j) (ae (aa "self") "total") (ae (aa "self") "goal")))
 (ab (ak (aV (bf (ag .Gt (aa "excess") (ae (aa "self") "shrink")) (ag .GtE (aa "excess") (tK (.int 0)))) (ag .GtE (ae (aa "self") "insert_penalties") (tK (.int 10000)))) (ao (tK (.int 1073741823))) tNil)
 (ab (ak (ag .LtE (aa "penalty") (tK (.int (-10000)))) (ao (aa "penalty")) tNil)
 (ab (ak (ag .GtE (aa "excess") (tK (.int 0))) (aw "bad" (af eF [aa "excess",ae (aa "self") "shrink"])) (ak (aV (ag .NotEq (au (ae (aa "self") "stretch") (tK (.int 1))) (tK (.int 0))) (aV (ag .NotEq (au (ae (aa "self") "stretch") (tK (.int 2))) (tK (.int 0))) (ag .NotEq (au (ae (aa "self") "stretch") (tK (.int 3))) (tK (.int 0))))) (aw "bad" (tK (.int 0))) (aw "bad" (af eF [cD (aa "excess"),au (ae (aa "self") "stretch") (tK (.int 0))]))))
 (ao (bM (ag .Lt (aa "bad") (tK (.int 10000))) (aq (fun ω ω=>True) (fun i j=>i+j) (aq (fun ω ω=>True) (fun i j=>i+j) (aa "bad") (aa "penalty")) (ae (aa "self") "insert_penalties")) (tK (.int 100000)))))))
theorem Gn:So wM Gm (1) fun W=>T798:=@fun W fms prot A n L ok hn=>
 @lk _ _ _ _ _ (sa (dY (ta lc) (ta lc)))
 (@lk _ _ _ _ _ (@ar _ _ _ _ _ _ _ _ (bW (cE (am ok lc (ta lc)) (cN (am ok lc ai))) (ct (am ok (ta lc) gi))) (@l1 _ _ _ (aA gi)) av)
 (@lk _ _ _ _ _ (@ar _ _ _ _ _ _ _ _ (am ok lc gi) (@l1 _ _ _ (aA lc)) av)
 (@lk _ _ _ _ _ (@ar _ _ _ _ _ _ _ _ (am ok lc ai) (@l1 _ _ _ (sa (sf (oi ok (le hn)) (cn lc (c1 (ta lc)))))) (@l1 _ _ _ (@ar _ _ _ _ _ _ _ _ (bW (am ok (aG (ta lc) ai) ai) (bW (am ok (aG (ta lc) ai) ai) (ct (am ok (aG (ta lc) ai) ai)))) (@l1 _ _ _ (sa ai)) (@l1 _ _ _ (sa (sf (oi ok (le hn)) (cn (dR lc) (c1 (aG (ta lc) ai)))))))))
 (@l1 _ _ _ (@aA _ _ _ _ (ch (am ok lc gi) (bp (bp lc lc) (ta lc)) gi))))))
noncomputable def fE:Fn:=aB 2 T798 ["self","penalty"] []
theorem Go {x:Cx}(ok:x.Ok) (hn:2<=x.n):x.C (.ref 798) (fE):=
 aK @Gn ["self","penalty"] 2 (fun P=>bE fun v0 v1 S=>by kernel_rfl) ok hn
noncomputable def wN (P:Params):FdW P 826:=⟨_,by with_unfolding_all rfl⟩
noncomputable def Gp (P:Params):aI P 826 (wN P):=⟨_,by with_unfolding_all rfl⟩
noncomputable def T826:TS:=
 ab (aw "size" (af jW [eV none (ae (aa "node") "items") (aa "place")]))
 (ab (b4 674 "size" (fun i j=>i+j) (aa "entry") (aa "size"))
 (ab (ay 674 "split_at" (aa "entry") (af bLen [ae (aa "self") "page"]))
 (ab (ay 674 "split_place" (aa "entry") (aa "place"))
 (ab (b4 829 "goal" (fun i j=>i - j) (aa "self") (aF 623 eY (aa "row") [aa "size"]))
 (ak (ag .Eq (aa "place") (af bLen [ae (aa "node") "items"])) (b4 829 "insert_penalties" (fun i j=>i+j) (aa "self") (tK (.int (-10000)))) (ak (ag .Eq (ae (au (ae (aa "node") "items") (aa "place")) "kind") (tK (.int 7))) (b4 829 "insert_penalties" (fun i j=>i+j) (aa "self") (ae (au (ae (aa "node") "items") (aa "place")) "value")) tNil))))))
theorem Gq:So wN Gp (3) fun W=>T826:=@fun W fms prot A n L ok hn=>
 @lk _ _ _ _ _ (sa (sf (Fa ok (le hn)) (c1 (lq (.inl rfl) (ta lc) lc))))
 (@lk _ _ _ _ _ (eP cY lc lc)
 (@lk _ _ _ _ _ (aC (sb eE ew (c1 (ta lc))) lc)
 (@lk _ _ _ _ _ (aC lc lc)
 (@lk _ _ _ _ _ (eP nF lc (sm lc (rA ok (le hn)) (c1 lc)))
 (@l1 _ _ _ (@ar _ _ _ _ _ _ _ _ (am ok lc (sb eE ew (c1 (ta lc)))) (@l1 _ _ _ (eP cY lc gi)) (@l1 _ _ _ (@ar _ _ _ _ _ _ _ _ (am ok (ta (aG (ta lc) lc)) gi) (@l1 _ _ _ (eP cY lc (ta (aG (ta lc) lc)))) av))))))))
noncomputable def oO:Fn:=aB 5 T826 ["self","node","row","entry","place"] []
theorem Gs {x:Cx}(ok:x.Ok) (hn:4<=x.n):x.C (.ref 826) (oO):=
 aK @Gq ["self","node","row","entry","place"] 5 (fun P=>lE fun v0 v1 v2 v3 v4 S=>by kernel_rfl) ok hn
noncomputable def wO (P:Params):FdW P 819:=⟨_,by with_unfolding_all rfl⟩
noncomputable def Gu (P:Params):aI P 819 (wO P):=⟨_,by with_unfolding_all rfl⟩
noncomputable def T819:TS:=
 ab (aw "entry" (cj "dict" (ae (aa "self") "inserts") bGet [ae (aa "node") "number"]))
 (ab (ak (bf (ag .IsNot (aa "entry") (tK .none)) (ag .GtE (ae (aa "entry") "split_at") (tK (.int 0)))) (ab (b4 829 "insert_penalties" (fun i j=>i+j) (aa "self") (ae (aa "node") "cost"))
 tRet0) tNil)
 (ab (aw "is_first" (aS (ag .Is (aa "entry") (tK .none))))
 (ab (ak (bj (aa "is_first")) (ab (aE (af eX [ae (aa "row") "skip"]))
 (aw "entry" (eT jk (fy "self") [ae (aa "row") "held"]))) tNil)
 (ab (bt [an "used",an "shrink",an "goal"] (aD [ae (aa "self") "goal",ae (aa "self") "shrink",aq (fun ω ω=>True) (fun i j=>i+j) (ae (aa "self") "total") (ae (aa "self") "depth")]))
 (ab (ak (ag .Eq (ae (aa "self") "state") (tK (.int 0))) (bt [an "used",an "shrink",an "goal"] (aD [ae (aa "self") "vsize",tK (.int 0),tK (.int 0)])) tNil)
 (ab (ak (bj (aa "is_first")) (ab (ci "goal" (fun i j=>i - j) (aq (fun ω ω=>True) (fun i j=>i+j) (aF 623 eY (aa "row") [ae (aa "row") "held"]) (ae (ae (aa "row") "skip") "width")))
 (ci "shrink" (fun i j=>i+j) (ae (ae (aa "row") "skip") "shrink"))) tNil)
 (ab (aw "need" (aF 623 eY (aa "row") [ae (aa "node") "size"]))
 (ab (aw "place" (cD (tK (.int 1))))
 (ab (ak (aV (ag .Gt (aa "need") (af bMax2 [aq (fun ω ω=>True) (fun i j=>i+j) (aq (fun ω ω=>True) (fun i j=>i - j) (aa "goal") (aa "used")) (aa "shrink"),tK (.int 0)])) (ag .Gt (aq (fun ω ω=>True) (fun i j=>i+j) (ae (aa "node") "size") (ae (aa "entry") "size")) (ae (aa "row") "most"))) (aw "place" (au (af jj [ae (aa "node") "items",af gG [aa "row",aq (fun ω ω=>True) (fun i j=>i - j) (aa "goal") (aa "used"),ae (aa "entry") "size"],ae (aa "node") "depth"]) (tK (.int 0)))) tNil)
 (ab (ak (ag .Eq (ae (aa "self") "state") (tK (.int 0))) (aE (aF 829 jZ (aa "self") [tK (.int 1)])) tNil)
 (ab (ak (bj (aa "is_first")) (ab (jf (aa "entry") (ae (aa "self") "inserts") (ae (aa "node") "number"))
 (jg (fun i j=>i+j) (ae (aa "self") "stretch") (ae (ae (aa "row") "skip") "stretch_order") (ae (ae (aa "row") "skip") "stretch"))) tNil)
 (ab (ay 829 "goal" (aa "self") (aa "goal"))
 (ab (ay 829 "shrink" (aa "self") (aa "shrink"))
 (ab (ay 674 "last" (aa "entry") (af bLen [ae (aa "self") "page"]))
 (ak (ag .Lt (aa "place") (tK (.int 0))) (ab (b4 674 "size" (fun i j=>i+j) (aa "entry") (ae (aa "node") "size"))
 (b4 829 "goal" (fun i j=>i - j) (aa "self") (aa "need"))) (aE (aF 829 oO (aa "self") [aa "node",aa "row",aa "entry",aa "place"])))))))))))))))))
theorem Gv:So wO Gu (5) fun W=>T819:=@fun W fms prot A n L ok hn=>
 @lk _ _ _ _ _ (sa (vl F.plainAttrs_dict F.slot_dict_get (by rfl) (ta lc) CG (c1 (ta lc))))
 (@lk _ _ _ _ _ (@ar _ _ _ _ _ _ _ _ (cE (am ok lc cg) (cN (am ok (ta lc) ai))) (@lk _ _ _ _ _ (eP cY lc (ta lc))
 (l1 BO)) av)
 (@lk _ _ _ _ _ (sa (cX ok lc cg))
 (@lk _ _ _ _ _ (@ar _ _ _ _ _ _ _ _ (cv lc) (@lk _ _ _ _ _ (bI (sf (rq ok (le hn)) (c1 (ta lc))))
 (@l1 _ _ _ (sa (sR (FS ok (le hn)) (c1 (ta lc)))))) av)
 (@lk _ _ _ _ _ (aR ok (@aW _ _ _ _ _ (cn (ta lc) (cn (ta lc) (c1 (bp (ta lc) (ta lc)))))) rfl (.cons gb (.cons gb (.cons gb .nil))))
 (@lk _ _ _ _ _ (@ar _ _ _ _ _ _ _ _ (am ok (ta lc) gi) (@l1 _ _ _ (aR ok (@aW _ _ _ _ _ (cn (ta lc) (cn ai (c1 ai)))) rfl (.cons gb (.cons gb (.cons gb .nil))))) av)
 (@lk _ _ _ _ _ (@ar _ _ _ _ _ _ _ _ (cv lc) (@lk _ _ _ _ _ (aN nF (bp (sm lc (rA ok (le hn)) (c1 (ta lc))) (ta (ta lc))))
 (@l1 _ _ _ (aN cY (ta (ta lc))))) av)
 (@lk _ _ _ _ _ (sa (sm lc (rA ok (le hn)) (c1 (ta lc))))
 (@lk _ _ _ _ _ (sa (dR ai))
 (@lk _ _ _ _ _ (@ar _ _ _ _ _ _ _ _ (bW (am ok lc (sb q8 (qH ok) (cn (bp (dY lc lc) lc) (c1 ai)))) (ct (am ok (bp (ta lc) (ta lc)) (ta lc)))) (@l1 _ _ _ (sa (aG (sf (E3 ok (le hn)) (cn (ta lc) (cn (sf (Ff ok (le hn)) (cn lc (cn (dY lc lc) (c1 (ta lc))))) (c1 (ta lc))))) ai))) av)
 (@lk _ _ _ _ _ (@ar _ _ _ _ _ _ _ _ (am ok (ta lc) gi) (@l1 _ _ _ (bI (sm lc (wH ok (le hn)) (c1 gi)))) av)
 (@lk _ _ _ _ _ (@ar _ _ _ _ _ _ _ _ (cv lc) (@lk _ _ _ _ _ (nQ lc (ta lc) (ta lc))
 (@l1 _ _ _ (qM cY (ta lc) (ta (ta lc)) (ta (ta lc))))) av)
 (@lk _ _ _ _ _ (aC lc lc)
 (@lk _ _ _ _ _ (aC lc lc)
 (@lk _ _ _ _ _ (aC (sb eE ew (c1 (ta lc))) lc)
 (@l1 _ _ _ (@ar _ _ _ _ _ _ _ _ (am ok lc ai) (@lk _ _ _ _ _ (eP cY lc (ta lc))
 (@l1 _ _ _ (eP nF lc lc))) (@l1 _ _ _ (bI (sm lc (Gs ok (le hn)) (cn lc (cn lc (cn lc (c1 lc)))))))))))))))))))))))
noncomputable def jm:Fn:=aB 3 T819 ["self","node","row"] []
theorem Gw {x:Cx}(ok:x.Ok) (hn:6<=x.n):x.C (.ref 819) (jm):=
 aK @Gv ["self","node","row"] 3 (fun P=>ef fun v0 v1 v2 S=>by kernel_rfl) ok hn
noncomputable def wP (P:Params):FdW P 812:=⟨_,by with_unfolding_all rfl⟩
noncomputable def Gy (P:Params):aI P 812 (wP P):=⟨_,by with_unfolding_all rfl⟩
noncomputable def T812:TS:=
 ab (ak (ag .Eq (ae (aa "node") "kind") (tK (.int 10))) (aE (aF 829 jm (aa "self") [aa "node",aF 653 jX (aa "classes") [ae (aa "node") "number"]])) (ak (ag .In (ae (aa "node") "kind") (tK (.tup ([2,3,4].map .int)))) (ab (b4 829 "total" (fun i j=>i+j) (aa "self") (aq (fun ω ω=>True) (fun i j=>i+j) (ae (aa "self") "depth") (af gE [aa "node"])))
 (ay 829 "depth" (aa "self") (af iB [aa "node"]))) (ak (ag .Eq (ae (aa "node") "kind") (tK (.int 6))) (ab (jg (fun i j=>i+j) (ae (aa "self") "stretch") (ae (ae (aa "node") "glue") "stretch_order") (ae (ae (aa "node") "glue") "stretch"))
 (ab (b4 829 "shrink" (fun i j=>i+j) (aa "self") (ae (ae (aa "node") "glue") "shrink"))
 (ab (b4 829 "total" (fun i j=>i+j) (aa "self") (aq (fun ω ω=>True) (fun i j=>i+j) (ae (aa "self") "depth") (ae (ae (aa "node") "glue") "width")))
 (ay 829 "depth" (aa "self") (tK (.int 0)))))) (ak (ag .Eq (ae (aa "node") "kind") (tK (.int 5))) (ab (b4 829 "total" (fun i j=>i+j) (aa "self") (aq (fun ω ω=>True) (fun i j=>i+j) (ae (aa "self") "depth") (ae (aa "node") "width")))
 (ay 829 "depth" (aa "self") (tK (.int 0)))) tNil))))
 (ab (ak (ag .Gt (ae (aa "self") "depth") (ae (aa "self") "most_depth")) (ab (b4 829 "total" (fun i j=>i+j) (aa "self") (aq (fun ω ω=>True) (fun i j=>i - j) (ae (aa "self") "depth") (ae (aa "self") "most_depth")))
 (ay 829 "depth" (aa "self") (ae (aa "self") "most_depth"))) tNil)
 (ab (aE (cj "list" (ae (aa "self") "page") bAppend [aa "node"]))
 (aE (cj "list" (ae (aa "self") "contributions") bPop [tK (.int 0)]))))
theorem Gz:So wP Gy (7) fun W=>T812:=@fun W fms prot A n L ok hn=>
 @lk _ _ _ _ _ (@ar _ _ _ _ _ _ _ _ (am ok (ta lc) gi) (@l1 _ _ _ (bI (sm lc (Gw ok (le hn)) (cn lc (c1 (sm lc (FN ok (le hn)) (c1 (ta lc)))))))) (@l1 _ _ _ (@ar _ _ _ _ _ _ _ _ (am ok (ta lc) gt) (@lk _ _ _ _ _ (eP cY lc (bp (ta lc) (sf (rp ok (le hn)) (c1 lc))))
 (@l1 _ _ _ (aC (sf (wp ok (le hn)) (c1 lc)) lc))) (@l1 _ _ _ (@ar _ _ _ _ _ _ _ _ (am ok (ta lc) gi) (@lk _ _ _ _ _ (qM cY (ta lc) (ta (ta lc)) (ta (ta lc)))
 (@lk _ _ _ _ _ (eP cY lc (ta (ta lc)))
 (@lk _ _ _ _ _ (eP cY lc (bp (ta lc) (ta (ta lc))))
 (@l1 _ _ _ (aC ai lc))))) (@l1 _ _ _ (@ar _ _ _ _ _ _ _ _ (am ok (ta lc) gi) (@lk _ _ _ _ _ (eP cY lc (bp (ta lc) (ta lc)))
 (@l1 _ _ _ (aC ai lc))) av)))))))
 (@lk _ _ _ _ _ (@ar _ _ _ _ _ _ _ _ (am ok (ta lc) (ta lc)) (@lk _ _ _ _ _ (eP cY lc (dY (ta lc) (ta lc)))
 (@l1 _ _ _ (aC (ta lc) lc))) av)
 (@lk _ _ _ _ _ (bI (sl F.slot_list_append (ta lc) qN (c1 lc)))
 (@l1 _ _ _ (bI (sl F.slot_list_pop (ta lc) qO (c1 ai))))))
noncomputable def fW:Fn:=aB 3 T812 ["self","node","classes"] []
theorem GA {x:Cx}(ok:x.Ok) (hn:8<=x.n):x.C (.ref 812) (fW):=
 aK @Gz ["self","node","classes"] 3 (fun P=>ef fun v0 v1 v2 S=>by kernel_rfl) ok hn
section
variable {x:Cx}
noncomputable def bSortD:Fn:=fun us Q X mh=>match us with
|[.ref l]=>(match mh.m l with|some (.dict es)=>es.length<=60/\∀ ns:List Int,ns.Perm (es.map (fun q=>q.1))->ns.Pairwise (·<=·)->Q (.lst (ns.map .int)) mh|_=>False)
|_=>False
theorem GB {kvs:List (Int × Value)}{vs:List Value}(hl:vs.length=kvs.length) (h:∀ (j:Nat) (v:Value),vs[j]?=some v->∃ k x,kvs[j]?=some (k,x)/\∃ t,v=.int k t):IntsAre vs (kvs.map (fun q=>q.1)):=by
 induction kvs generalizing vs with
|nil=>obtain rfl:vs=[]:=W3.mp hl;exact .nil
|cons p kvs ih=>
  rcases vs with _|⟨v,vs⟩
  ·simp at hl
  ·obtain⟨k,y,e,t,rfl⟩:=h 0 v rfl;simp only[List.getElem?_cons_zero,Option.some.injEq]at e;subst e;exact .cons _ _ (ih (by simpa using hl) fun j w q=>by
    obtain⟨k',y',e',z⟩:=h (j+1) w (by simpa using q);exact⟨k',y',by simpa using e',z⟩)
theorem GC (ok:x.Ok):x.D (.builtin "sorted") bSortD:=by
 intro us Q X st hF c s vs R r;unfold bSortD at hF;rcases us with _|⟨u1,us⟩<;>try exact hF.elim
 rcases u1 with _|_|_|_|_|_|_|_|_|_<;>try exact hF.elim
 all_goals rcases us with _|⟨u2,us⟩<;>try exact hF.elim
 ·dsimp only at hF;generalize e:st.mh.m _=o at hF;rcases o with _|(_|_|_|fs)<;>try exact hF.elim
  ·obtain⟨hz,hq⟩:=hF;obtain⟨v,rfl,rv⟩:=eU r;obtain⟨a',rfl,ha⟩:=eO rv;obtain⟨a,es,n,h1,h2,h3,⟨nd,hs⟩,rd⟩:=R.mo e;obtain rfl:=U1 (ha.symm.trans h1);have D:=je (x:=x) h3 nd rd;obtain⟨ep,hat⟩:=D.dictAt;have hlen:(cm es fs).length=fs.length:=by simp[cm,rd.1]
   have hkeys:(cm es fs).map (fun q=>q.1)=fs.map (fun q=>q.1):=(Ds.kv (x:=x) rd).2.1;refine call_function_entry kind_sorted plain_sorted entry_sorted (args_sorted1 _) ?_;unfold Builtin.«sorted»;refine Z9 (m:=checkCount "sorted" 1 1 _) (AAA ?_);refine Z9 (kdu_collect (A:=x.A.in1) (kdl_dict (knd:=intKind PySem.Challenge.rw_sq0065_01.row.prog x.W.w) (kvs:=cm es fs) (ep:=ep) hs) ok.hnd hat (by rw[hlen,sizeLine_eq];(first|exact ba ‹_› rfl|lia)) fun h' tk acc hk hacc=>?_);have hal:acc.toList.length=(cm es fs).length:=by rw[Array.length_toList];exact hacc.1
   refine Z9 (wpAny_newList ?_ (by rw[hal,hlen,sizeLine_eq];(first|exact ba ‹_› rfl|lia)));have hI:IntsAre acc.toList (fs.map (fun q=>q.1)):=by
    rw[<- hkeys];refine GB hal fun j v e=>?_
    obtain⟨k,y,e1,e2⟩:=hacc.2 j v (by rw[<- Array.getElem?_toList];exact e);obtain⟨t,ht⟩:=Value.isInt_shape e2;exact⟨k,y,e1,t,ht⟩
   have hB:(h'.push { cls:=.type "list",data:=.seq acc.toList.toArray }).get? h'.objs.size=some (seqObj "list" acc.toList.toArray 0):=AAH _ rfl;refine Z9 (wpAny_holding (wpAny_call_entry slot_list_sort ⟨_,hB,rfl⟩ entry_list_sort ?body (args_list_sort _)))
   case body=>
    refine list_sort_tree hB hI (by rw[hal,hlen];(first|exact AS ‹_› rfl|lia)) fun out ns' i1 i2 i3=>?_
    refine⟨_,rfl,AAA ⟨_,rfl,?_⟩⟩;obtain⟨ec,hc⟩:=sortedHeap_at (vs:=acc.toList) (out:=out) hB;have hlt:∀ b o,s.heap.get? b=some o->b < h'.objs.size:=fun b o e=>AAJ (hk b o e)
    have keep:∀ b o,s.heap.get? b=some o->(sortedHeap (h'.push { cls:=.type "list",data:=.seq acc.toList.toArray }) h'.objs.size acc.toList out).get? b=some o:=fun b o e=>by
     rw[sortedHeap_old (Y1 (hlt b o e)) (by rw[size_push'];exact Y6 (hlt b o e))];exact AAG _ (hk b o e)
    have R':=R.know keep (fun a o=>a=h'.objs.size/\o=seqObj "list" out ec) fun a o e=>by
     obtain⟨rfl,rfl⟩:=e;refine⟨hc,?_⟩;cases q:s.heap.get? h'.objs.size with
    |none=>rfl
    |some o=>exact absurd (hlt _ _ q) (Z1 _)
    refine aQ (Gr.learn c _) R' ⟨rfl,rfl,rfl⟩ ?_ (hq ns' i2 i3);have ri:=vq (c:=c.learn fun a o=>a=h'.objs.size/\o=seqObj "list" out ec) i1;have:=Rs.lst (c:=c.learn fun a o=>a=h'.objs.size/\o=seqObj "list" out ec) (a:=h'.objs.size) (o:=seqObj "list" out ec) (vs:=out.toList) (n:=ec) (.inr ⟨rfl,rfl⟩) ⟨rfl,rfl,rfl⟩ (by simp) ri;exact this
end
section
variable {prog:Program}{w:World}{A:Around}{E:Value->Shared->Prop}{s:Shared}
theorem GD {M:Model}{h:Heap}{i:Int}{t:Tok}:Looks M h (typeOf (.int i t)) (.type "int"):=Looks.of_pure rfl
theorem wQ {a:Addr}{vs:List Value}{n:Nat}{P:PySem.Fin->Shared->Prop}(ho:s.heap.get? a=some (seqObj "list" vs.toArray n)) (hl:vs.length < 2)
  (h:P (.done (.ret .none)) { s with heap:=sortedHeap s.heap a vs vs.toArray }) :
  wpAny (model prog w) A (Builtin.«list.sort» ⟨[.ref a],[]⟩) P E s:=by
 rw[list_sort_plain];have ha:a < s.heap.objs.size:=AAJ ho;refine Z9 (listItems_at ho rfl ?_);refine Z9 (listUpdate_at ho rfl ?_ (by rw[U9,sizeLine_eq];(first|exact ur ‹_› rfl|lia)));obtain⟨e1,ho1⟩:∃ e1,(s.heap.update a (Obj.mapSeq fun ω=>#[])).get? a=some (seqObj "list" #[] e1):=⟨_,get?_update_seq ho (fun ω=>#[])⟩;refine Z9 (seqEpoch_at ho1 rfl ?_);refine Z9 (wpAny_newTuple ?_ (by show vs.length<=_;rw[sizeLine_eq];(first|exact ur ‹_› rfl|lia)));refine Z9 (wpAny_newList ?_);refine wpAny_holding ?_;have ho6:(((s.heap.update a (Obj.mapSeq fun ω=>#[])).push (seqObj "tuple" vs.toArray 0)).push (seqObj "list" #[] 0)).get? a=some (seqObj "list" #[] e1):=by
  rw[Heap.get?_push_ne _ _ _ (by rw[size_push',Heap.size_update];exact Y1 (Y6 ha)),Heap.get?_push_ne _ _ _ (by rw[Heap.size_update];exact Y1 ha)];exact ho1
 show wpAny (model prog w) A _ P E { s with heap:=((s.heap.update a (Obj.mapSeq fun ω=>#[])).push (seqObj "tuple" vs.toArray 0)).push (seqObj "list" #[] 0) };dsimp only;have h2:vs.toArray.size < 2:=by simpa using hl
 rw[if_pos h2,if_pos h2];refine Z9 (AAA ?_);rw[StateT.run_pure];refine Z9 (AAA ?_);dsimp only;refine Z9 (seqEpoch_at ho6 rfl ?_);have ez:(arrOf (SortSt.mk' general' (vs.toArray.zip vs.toArray) #[] 7 none)).map (fun q=>q.2)=vs.toArray:=by
  show(vs.toArray.zip vs.toArray).map (fun q=>q.2)=vs.toArray
  apply Array.toList_inj.mp
  simp[List.map_snd_zip]
 rw[ez];refine Z9 (listUpdate_at ho6 rfl ?_ (hsz2:=by rw[U9,sizeLine_eq];lia));simp only[bne_self_eq_false,Bool.false_eq_true,if_false];exact AAA h
theorem GF {a t1 t2:Addr}{n:Nat}{i j:Int}{ti tj:Tok}{v1 v2:Value}{P:PySem.Fin->Shared->Prop}(ho:s.heap.get? a=some (seqObj "list" [Value.ref t1,Value.ref t2].toArray n))
  (h1:s.heap.get? t1=some { cls:=.type "tuple",data:=.seq #[.int i ti,v1] }) (h2:s.heap.get? t2=some { cls:=.type "tuple",data:=.seq #[.int j tj,v2] }) (hne:i≠j) (a1:t1≠a) (a2:t2≠a)
  (h:P (.done (.ret .none)) { s with heap:=sortedHeap s.heap a [Value.ref t1,Value.ref t2] (if j < i then #[Value.ref t2,Value.ref t1]else #[Value.ref t1,Value.ref t2]) }) :
  wpAny (model prog w) A (Builtin.«list.sort» ⟨[.ref a],[]⟩) P E s:=by
 generalize hvs:[Value.ref t1,Value.ref t2]=vs at ho h;have hlen:vs.length=2:=by rw[<- hvs];rfl
 rw[list_sort_plain];have ha:a < s.heap.objs.size:=AAJ ho;refine Z9 (listItems_at ho rfl ?_);refine Z9 (listUpdate_at ho rfl ?_ (by rw[U9,sizeLine_eq];lia));obtain⟨e1,ho1⟩:∃ e1,(s.heap.update a (Obj.mapSeq fun ω=>#[])).get? a=some (seqObj "list" #[] e1):=⟨_,get?_update_seq ho (fun ω=>#[])⟩;refine Z9 (seqEpoch_at ho1 rfl ?_);refine Z9 (wpAny_newTuple ?_ (by show vs.length<=_;rw[sizeLine_eq];lia));refine Z9 (wpAny_newList ?_);refine wpAny_holding ?_;have up:∀ b o,b≠a->s.heap.get? b=some o->(((s.heap.update a (Obj.mapSeq fun ω=>#[])).push (seqObj "tuple" vs.toArray 0)).push (seqObj "list" #[] 0)).get? b=some o:=fun b o hb e=>by
  refine AAG _ (AAG _ ?_);exact(Heap.get?_update_other _ _ (Ne.symm hb)).trans e
 have ho6:(((s.heap.update a (Obj.mapSeq fun ω=>#[])).push (seqObj "tuple" vs.toArray 0)).push (seqObj "list" #[] 0)).get? a=some (seqObj "list" #[] e1):=by
  rw[Heap.get?_push_ne _ _ _ (by rw[size_push',Heap.size_update];exact Y1 (Y6 ha)),Heap.get?_push_ne _ _ _ (by rw[Heap.size_update];exact Y1 ha)];exact ho1
 have g1:=up t1 _ a1 h1;have g2:=up t2 _ a2 h2;show wpAny (model prog w) A _ P E { s with heap:=((s.heap.update a (Obj.mapSeq fun ω=>#[])).push (seqObj "tuple" vs.toArray 0)).push (seqObj "list" #[] 0) };dsimp only;have hn2:¬ vs.toArray.size < 2:=by rw[U9];lia
 rw[if_neg hn2,if_neg hn2];refine Z9 (kat_kind (fs:=[.int i ti,.int j tj]) (T:=.type "int") ?_ (by simp) (fun v hv=>?_) (by decide) ?_)
 ·subst hvs;exact KatTups.cons g1 rfl rfl rfl (KatTups.cons g2 rfl rfl rfl KatTups.nil)
 ·simp only[V3,W8,or_false]at hv;rcases hv with rfl|rfl<;>exact GD
 generalize hH:((s.heap.update a (Obj.mapSeq fun ω=>#[])).push (seqObj "tuple" vs.toArray 0)).push (seqObj "list" #[] 0)=H at g1 g2 ho6 ⊢;have htt:(Value.type "int" != Value.type "tuple")=true:=by decide
 rw[htt];refine Z9 (AAB (kat_run (ks:=vs) (vs:=vs) (Q:=fun st' s'=>s'={ s with heap:=H }/\failedOf st'=none/\(arrOf st').map (fun q=>q.2)=(if j < i then #[Value.ref t2,Value.ref t1]else #[Value.ref t1,Value.ref t2]))
  (G:=fun p s'=>s'={ s with heap:=H }/\p=(if j < i then #[1,0]else #[0,1])) rfl (by lia) (by lia) (fun p st' s' q1 q2 q3 q4=>⟨q4.1,q3,?_⟩) ?_) ?_ fun ω ω e=>e)
 ·have:=kat_snds rfl q2;rw[this,q4.2,<- hvs]
  split<;>rfl
 ·subst hvs;show wpAny _ _ (keyLt' _ (.ref t2) (.ref t1)) _ _ _;refine kat_lt g2 rfl g1 rfl (kat_cons (wpAny_eqBool_int ?_));have hji:(j == i)=false:=by rw[beq_eq_false_iff_ne];exact fun e=>hne e.symm
  rw[hji];refine kat_no ?_;show wpAny _ _ (oneLt' true _ _) _ _ _;refine oneLt_int ?_;by_cases hlt:j < i
  ·rw[decide_eq_true hlt,if_pos hlt];have e:kas_rev (List.toArray (List.range 2)) 0 2=#[1,0]:=by decide +kernel
   exact⟨rfl,by first|(with_unfolding_all exact e)|(dsimp only[V4,List.length_nil,Nat.zero_add,Nat.reduceAdd];exact e)|(kernel_rfl)⟩
  ·rw[decide_eq_false hlt,if_neg hlt];exact⟨rfl,by rfl⟩
 ·rintro ⟨⟨⟩,st'⟩ s' ⟨rfl,hf,hout⟩;dsimp only;rw[hout];refine Z9 (seqEpoch_at ho6 rfl ?_);refine Z9 (listUpdate_at ho6 rfl ?_ (hsz2:=by refine X9 (m:=2) ?_ (by rw[sizeLine_eq];lia);split<;>simp));rw[hf];simp only[bne_self_eq_false,Bool.false_eq_true,if_false];rw[<- hH];subst hvs;exact AAA h
end
noncomputable def eG (es:List (Int × V)):List (Int × V):=match es with
|[]=>[]
|[p]=>[p]
|[p,q]=>if q.1 < p.1 then[q,p]else[p,q]
|p::q::r::l=>p::q::r::l
noncomputable def fX (p:Int × V):V:=.tup [.int p.1,p.2]
noncomputable def oP (To:TE):TE:=fun Q X st=>To (fun v st=>match v with
|.ref l=>(match st.mh.m l with|some (.dict es)=>es.length<=2/\Q (.lst ((eG es).map fX)) st|_=>False)
|_=>False) X st
noncomputable def wR (c:Cfg) (h:Heap) (a:Addr) (f:Int × V):Prop:=∃ t v,h.get? a=some { cls:=.type "tuple",data:=.seq #[.int f.1 t,v] }/\c.R v f.2
section
variable {x:Cx}
theorem GG {c:Cfg}{h:Heap}{lo:Addr}{es:List DictEntry}{fs:List (Int × V)}{as:List Addr}(rd:Ds c es fs) (hl:as.length=fs.length)
  (G:KdxG (intKind PySem.Challenge.rw_sq0065_01.row.prog x.W.w) (cm es fs) lo h as) (j:Nat) (a:Addr) (f:Int × V) (ha:as[j]?=some a) (hf:fs[j]?=some f):wR c h a f:=by
 obtain⟨key,k,v,e1,e2,e3⟩:=G.pairs j a ha;obtain⟨t,rfl⟩:=Value.isInt_shape e2;have hj:j < es.length:=by rw[rd.1];exact(W5.mp hf).1
 have he:=W9 hj;have:(cm es fs)[j]?=some (f.1,(es[j]).val):=by
  unfold cm;rw[X5,(List.getElem?_zip_eq_some (z:=(es[j],f))).mpr ⟨he,hf⟩];rfl
 rw[this]at e1;obtain⟨rfl,rfl⟩:=Prod.mk.inj (U1 e1);exact⟨t,_,e3,rd.2.2 j _ f he hf⟩
theorem GH {α β:Type}{as:List α}{fs:List β}(hl:as.length=fs.length) (hz:fs.length<=2):(as=[]/\fs=[])\/(∃ a f,as=[a]/\fs=[f])\/(∃ a b f g,as=[a,b]/\fs=[f,g]):=by
 rcases fs with _|⟨f,_|⟨g,_|⟨k,fs⟩⟩⟩
 ·exact .inl ⟨W3.mp hl,rfl⟩
 ·exact(List.length_eq_one_iff.mp hl).elim fun a e=>.inr (.inl ⟨a,f,e,rfl⟩)
 ·rcases as with _|⟨a,as⟩
  ·cases hl
  ·exact(List.length_eq_one_iff.mp (Nat.succ.inj hl)).elim fun b e=>.inr (.inr ⟨a,b,f,g,by rw[e],rfl⟩)
 ·exact absurd hz (Nat.not_le_of_gt (Nat.le_add_left 3 _))
theorem GI (ok:x.Ok) {X:XP}{c0 c:Cfg}{st:St}{s0 s:Shared}{D a:Addr}{es:List DictEntry}{n:Nat}{fs:List (Int × V)}{Q:V->St->Prop}(g0:Gr c0 c) (w0:SW s0 s) (R:Rel x c st s.heap)
  (hv:s.heap.IsItemsView D a) (h3:s.heap.get? a=some (dictOf es n)) (nd:(fs.map (fun q=>q.1)).Nodup) (rd:Ds c es fs) (hz:fs.length<=2) (hq:Q (.lst ((eG fs).map fX)) st) :
  wpAny x.W.M x.A (call (.builtin "sorted") [.ref D]) (x.Po vR Q c0 s0) (x.EX X c0 s0) s:=by
 have DD:=je (x:=x) h3 nd rd;obtain⟨ep,hat⟩:=DD.dictAt;have hlen:(cm es fs).length=fs.length:=by simp[cm,rd.1]
 refine call_function_entry kind_sorted plain_sorted entry_sorted (args_sorted1 _) ?_;unfold Builtin.«sorted»;refine Z9 (m:=checkCount "sorted" 1 1 _) (AAA ?_);refine Z9 (kdx_collect (A:=x.A.in1) (knd:=intKind PySem.Challenge.rw_sq0065_01.row.prog x.W.w) (kvs:=cm es fs) (ep:=ep) ok.hnd hv hat (by rw[hlen,sizeLine_eq];(first|exact ba ‹_› rfl|lia)) fun h' tk as hk hl hG=>?_);rw[hlen]at hl;have hP:=GG (x:=x) rd hl hG;refine Z9 (wpAny_newList ?_ (by rw[V0,hl,sizeLine_eq];(first|exact ba ‹_› rfl|lia)));have hB:(h'.push { cls:=.type "list",data:=.seq (as.map Value.ref).toArray }).get? h'.objs.size=some (seqObj "list" (as.map Value.ref).toArray 0):=AAH _ rfl;have hlt:∀ b o,h'.get? b=some o->b < h'.objs.size:=fun b o e=>AAJ e
 have fin:∀ (out:List Addr) (us:List (Int × V)),out.length=us.length->(∀ t∈out,t∈as)->(∀ (j:Nat) (t:Addr) (f:Int × V),out[j]?=some t->us[j]?=some f->wR c h' t f)->Q (.lst (us.map fX)) st->
   x.Po vR Q c0 s0 (.ref h'.objs.size) { s with heap:=sortedHeap (h'.push { cls:=.type "list",data:=.seq (as.map Value.ref).toArray }) h'.objs.size (as.map Value.ref) (out.map Value.ref).toArray,toks:=tk }:=by
  intro out us ho hm hp hq;obtain⟨ec,hc⟩:=sortedHeap_at (vs:=as.map Value.ref) (out:=(out.map Value.ref).toArray) hB;have keep':∀ b o,h'.get? b=some o->(sortedHeap (h'.push { cls:=.type "list",data:=.seq (as.map Value.ref).toArray }) h'.objs.size (as.map Value.ref) (out.map Value.ref).toArray).get? b=some o:=fun b o e=>by
   rw[sortedHeap_old (Y1 (hlt b o e)) (by rw[size_push'];exact Y6 (hlt b o e))];exact AAG _ e
  have none_of:∀ b,s.heap.objs.size<=b->s.heap.get? b=none:=fun b hb=>AAI hb
  have noneB:s.heap.get? h'.objs.size=none:=by
   cases q:s.heap.get? h'.objs.size with
  |none=>rfl
  |some o=>exact absurd (hlt _ _ (hk _ _ q)) (Z1 _)
  have R':=R.know (h':=sortedHeap (h'.push { cls:=.type "list",data:=.seq (as.map Value.ref).toArray }) h'.objs.size (as.map Value.ref) (out.map Value.ref).toArray) (fun b o e=>keep' b o (hk b o e))
   (fun b o=>(b=h'.objs.size/\o=seqObj "list" (out.map Value.ref).toArray ec)\/(b∈as/\h'.get? b=some o)) fun b o e=>by
   rcases e with ⟨rfl,rfl⟩|⟨hb,e⟩
   ·exact⟨hc,noneB⟩
   ·exact⟨keep' b o e,none_of _ (Nat.le_of_lt (hG.above b hb))⟩
  refine⟨_,_,st,g0.trans (Gr.learn c _),w0.trans ⟨rfl,rfl,rfl⟩,R',?_,hq⟩;refine Rs.lst (o:=seqObj "list" (out.map Value.ref).toArray ec) (vs:=out.map Value.ref) (n:=ec) (.inr (.inl ⟨rfl,rfl⟩)) ⟨rfl,rfl,rfl⟩ rfl ⟨by simp[ho],fun j v u e1 e2=>?_⟩;rw[X5,Option.map_eq_some_iff]at e1 e2;obtain⟨t,e1,rfl⟩:=e1;obtain⟨f,e2,rfl⟩:=e2;obtain⟨tt,v,hh,rv⟩:=hp j t f e1 e2;exact Rs.tup (vs:=[.int f.1 tt,v]) (n:=0) (.inr (.inr ⟨hm t (W6 e1),hh⟩)) rfl rfl (Rs.cons (.int _ _) (Rs.cons (rv.gr (Gr.learn c _)) (Rs.nil _)))
 refine Z9 (wpAny_holding (wpAny_call_entry slot_list_sort ⟨_,hB,rfl⟩ entry_list_sort ?body (args_list_sort _)))
 case body=>
  clear hG hk hlen hat DD rd h3 hv R w0 g0;rcases GH hl hz with ⟨rfl,rfl⟩|⟨t1,f1,rfl,rfl⟩|⟨t1,t2,f1,f2,rfl,rfl⟩
  ·refine wQ hB (Nat.zero_lt_two) ⟨_,rfl,AAA ⟨_,rfl,?_⟩⟩;exact fin [] [] rfl (fun t h=>h) hP hq
  ·refine wQ hB (Nat.one_lt_two) ⟨_,rfl,AAA ⟨_,rfl,?_⟩⟩;exact fin [t1] [f1] rfl (fun t h=>h) hP hq
  ·obtain⟨tt1,v1,e1,r1⟩:=hP 0 t1 f1 rfl rfl;obtain⟨tt2,v2,e2,r2⟩:=hP 1 t2 f2 rfl rfl;have hne:f1.1≠f2.1:=by
    intro e;simp[e]at nd
   have up:∀ b o,h'.get? b=some o->(h'.push { cls:=.type "list",data:=.seq ([t1,t2].map Value.ref).toArray }).get? b=some o:=fun b o e=>AAG _ e
   refine GF (s:={ s with heap:=h'.push { cls:=.type "list",data:=.seq ([t1,t2].map Value.ref).toArray },toks:=tk }) hB (up _ _ e1) (up _ _ e2) hne (Y1 (hlt _ _ e1)) (Y1 (hlt _ _ e2)) ⟨_,rfl,AAA ⟨_,rfl,?_⟩⟩;by_cases hc:f2.1 < f1.1
   ·rw[if_pos hc];have hq':Q (.lst ([f2,f1].map fX)) st:=by
     have:eG [f1,f2]=[f2,f1]:=if_pos hc
     rwa [this]at hq
    refine fin [t2,t1] [f2,f1] rfl (fun t h=>?_) (fun j t f a b=>?_) hq'
    ·simp only[V3,W8,or_false]at h ⊢;exact h.symm
    ·rcases j with _|_|j
     ·simp only[List.getElem?_cons_zero,Option.some.injEq]at a b;subst a b;exact hP 1 _ _ rfl rfl
     ·simp only[List.getElem?_cons_zero,List.getElem?_cons_succ,Option.some.injEq]at a b;subst a b;exact hP 0 _ _ rfl rfl
     ·simp at a
   ·rw[if_neg hc];have hq':Q (.lst ([f1,f2].map fX)) st:=by
     have:eG [f1,f2]=[f1,f2]:=if_neg hc
     rwa [this]at hq
    exact fin [t1,t2] [f1,f2] rfl (fun t h=>h) hP hq'
theorem GJ (ok:x.Ok) {o:Expr}{p p' p2 p3:Pos}{pl:Sem Bool}{To:TE}(ho:x.E o To) (hx:x.env.kindOf (U0 "sorted")=some .globalImplicit)
  (he:autoParam (eval (.Call (.Name (U0 "sorted") p') [.Call (.Attribute o (U0 "items") p2) [] [] p3] [] p) x.env=(do callWith p (<- eval (.Name (U0 "sorted") p') x.env) [] [(false,eval (.Call (.Attribute o (U0 "items") p2) [] [] p3) x.env)] [])) tR)
  (he2:autoParam (eval (.Call (.Attribute o (U0 "items") p2) [] [] p3) x.env=(do
   let ov <- eval o x.env
   standAt p2.atName
   let (f,first) <- holding [ov] (getMethod ov (U0 "items") pl)
   callWith p3 f first (backTo p3 (starEach [] x.env)) (backToKw p3 (keywordEach [] x.env)))) tU) :
  x.E (.Call (.Name (U0 "sorted") p') [.Call (.Attribute o (U0 "items") p2) [] [] p3] [] p) (oP To):=fun Q X st hT c s R=>by
 rw[he];obtain⟨hk,hg,hb',_⟩:=R.fm;refine Z9 (Name_function_global hk hx (loadGlobal_builtin (mg:=x.W.mg) (mb:=x.W.mb) ?_ (mg_none_of x.W.K x.W.g (lB (by rfl))) ?_ ((x.W.builtins (U0 "sorted") (by decide)).trans vI) ?_) (by decide))
 ·rw[hg];exact x.W.g.keeps R.base
 ·rw[hb'];exact x.W.b.keeps R.base
 ·refine callWith_builtin1 (methodCall_KW (ho.go hT R fun v u c1 st1 s1 g1 w1 R1 r1 h1=>?_) he2);rcases u with _|_|_|_|_|_|_|_|_|_<;>try exact h1.elim
  ·dsimp only at h1;generalize e:st1.mh.m _=o' at h1;rcases o' with _|(_|_|_|fs)<;>try exact h1.elim
   ·obtain⟨hT',hd⟩:=vk (T:="dict") R1 r1 (by unfold iu;dsimp only;rw[e]);refine getMethod_builtin hT' F.plainAttrs_dict F.slot_dict_items F.type_dict_items hd (Calls.callWith_builtin rfl (evalArgs_nil3 ?_));obtain⟨a',rfl,ha⟩:=eO r1;obtain⟨a,es,n,q1,q2,q3,⟨nd,hs⟩,rd⟩:=R1.mo e;obtain rfl:=U1 (ha.symm.trans q1);have DD:=je (x:=x) q3 nd rd;refine call_meetsIn F.slot_dict_items hT' F.entry_dict_items (F.args_dict_items_1 _) (meets_dict_items (intKind PySem.Challenge.rw_sq0065_01.row.prog x.W.w) a' hs) ⟨⟨_,DD⟩,?_⟩;obtain⟨R2,g2,_⟩:=R1.push { cls:=.type "dict_items",data:=.fields #[.ref a'] } rfl;exact GI ok (s:={ s1 with heap:=s1.heap.push { cls:=.type "dict_items",data:=.fields #[.ref a'] } }) (g1.trans g2) (w1.trans ⟨rfl,rfl,rfl⟩) R2 ⟨_,AAH _ rfl,rfl,rfl⟩ (AAG _ q3) nd (rd.gr g2) h1.1 h1.2
noncomputable def bTupleL:Fn:=fun us Q X mh=>match us with
|[.ref l]=>(match mh.m l with|some (.list xs)=>xs.length<=10000/\Q (.tup xs) mh|_=>False)
|_=>False
theorem GK:x.D (.type "tuple") bTupleL:=by
 intro us Q X st hF c s vs R r;unfold bTupleL at hF;rcases us with _|⟨u1,us⟩<;>try exact hF.elim
 rcases u1 with _|_|_|_|_|_|_|_|_|_<;>try exact hF.elim
 all_goals rcases us with _|⟨u2,us⟩<;>try exact hF.elim
 ·dsimp only at hF;generalize e:st.mh.m _=o at hF;rcases o with _|(_|_|_|_)<;>try exact hF.elim
  ·obtain⟨v,rfl,rv⟩:=eU r;obtain⟨a,ws,rfl,_,_,hl,rs⟩:=R.refL rv (.inl e);refine call_tuple_list hl (fun h' hk=>?_) (by rw[U9];exact eQ rs hF.1);obtain⟨R',g,k⟩:=(R.keeps hk).push { cls:=.type "tuple",data:=.seq ws.toArray } rfl;exact aQ g R' ⟨rfl,rfl,rfl⟩ (Rs.tup k rfl rfl (rs.gr g)) hF.2
noncomputable def V.isTup:V->Bool
|.tup _=>true
|_=>false
noncomputable def oQ (T:TE):TI:=fun Q X st=>T (fun v st=>match v with|.lst xs=>xs.all V.isTup=true/\Q (xs,fun ω=>True) st|_=>False) X st
theorem GL {elts:List Expr}{k:Nat}{p:Pos}{a itA:Addr}{xs:List V}{chk:MH->Prop}{c0:Cfg}(I:ItrP x (.ref itA) xs chk c0 (LI "list_iterator" a itA)) (hx:xs.all V.isTup=true) :
  ItrT x (.Tuple elts k p) (.ref itA) xs chk c0 (LI "list_iterator" a itA) where
 step i os c mh s fms pc prot hi hP g hk r Q E hs he:=
  I.step i os c mh s fms pc prot hi hP g hk r _ E (fun v u os' h' tk c' e g' rv hP' r'=>by
   have hu:=V6.mp hx u (W6 e);rcases u with _|_|_|_|us|_|_|_|_|_<;>try exact absurd hu U2
   obtain⟨T,o,vs,n,rfl,h1,h2,h3,h4⟩:=qy rv;obtain⟨o',rfl,o1,o2⟩:=id hP';have hit:=(dc r' (.head _)).1;exact wpAny_letOwnedTupleGo_listiter (l:=a) (i:=i+1) ⟨o',hit,o1,o2⟩ (hs _ _ _ h' tk c' e g' rv hP' r')) fun hle h' r'=>he hle h' r'
 self:=I.self
theorem GM (ok:x.Ok) {elts:List Expr}{k:Nat}{p:Pos}{e:Expr}{T:TE}(h:x.E e T):x.IT (.Tuple elts k p) e (oQ T):=fun Q X st hT c s R=>
 h.go hT R fun v u c1 st1 s1 g1 w1 R1 r1 h1=>by
  rcases u with _|_|_|_|_|_|_|_|_|_<;>try exact h1.elim
  ·obtain⟨hx,h1⟩:=h1;obtain⟨a,o,vs,n,rfl,q1,q2,q3,q4⟩:=lg r1;refine wpAny_pyIter_list ⟨o,R1.kn q1,q2,n,q3⟩ ⟨c1,_,_,st1,LI "list_iterator" a s1.heap.objs.size,_,g1,w1.trans ⟨rfl,rfl,rfl⟩,h1,GL (qI ok fun fms prot c' mh hh g ω rr=>?_) hx,⟨_,rfl,rfl,rfl⟩,R1.protPush _ rfl⟩;exact⟨vs.toList,⟨o,rr.kn _ _ (g.kn _ _ q1),q2,n,by simpa using q3⟩,q4.gr g⟩
noncomputable def iD (xs:List V):List V:=xs.zipIdx.map fun p=>.tup [.int p.2,p.1]
noncomputable def j6 (T:TE):TI:=fun Q X st=>T (fun v st=>match v with|.lst xs=>Q (iD xs,fun ω=>True) st|_=>False) X st
noncomputable def EI (a e itA:Addr) (i:Nat) (os:List (Addr × Obj)):Prop:=∃ (o2:Obj) (old:Value),os=[(e,{ cls:=.type "enumerate",dict:=none,data:=.fields #[.none,.bool false,.ref itA,rawInt (i:Int),.none,old],slots:=#[] }),(itA,o2)]/\o2.cls=.type "list_iterator"/\o2.data=.fields #[.ref a,.int i 0]
theorem GN (ok:x.Ok) {elts:List Expr}{k:Nat}{p:Pos}{a e itA:Addr}{xs:List V}{c0:Cfg}(hne:e≠itA)
  (hc:∀ (fms:bU) (prot:List (Addr × Obj)) (c:Cfg) (mh:MH) (h:Heap),Gr c0 c->RelH x.W fms prot c mh h->∃ vs,h.IsList a vs.toArray/\Rs c vs xs):ItrT x (.Tuple elts k p) (.ref e) (iD xs) (fun ω=>True) c0 (EI a e itA) where
 step:=by
  rintro i os c mh s fms pc prot hi ⟨o2,old,rfl,o1,od⟩ g hk r Q E hs he;obtain⟨vs,hl,rs⟩:=hc _ _ c mh s.heap g r;have g1:=(dc r (.head _)).1;have g2:=(dc r (.tail _ (.head _))).1;have hit:s.heap.IsListIter itA a i:=⟨o2,g2,o1,od⟩;have hlx:(iD xs).length=xs.length:=by simp[iD]
  by_cases hlt:i < xs.length
  ·have hv:i < vs.length:=by rw[rs.1];exact hlt
   refine wpAny_pyNext_enum_item (x:=vs[i]) g1 hit hl (by simp[hv]) hne fun h₁ heo hit₁ ht₁ hz₁ hk₁=>?_
   dsimp only;refine wpAny_letOwnedTupleGo_enum heo fun h₂ he₂ hs₂=>?_
   replace hs₂:Heap.SameBut e h₁ h₂:=hs₂
   obtain⟨o',q1,q2,q3⟩:=hit₁;have eH:e < s.heap.objs.size:=AAJ g1;have r1:=r.reprot (h':=h₂) (os':=[(e,{ cls:=.type "enumerate",dict:=none,data:=.fields #[.none,.bool false,.ref itA,rawInt ((i:Int)+1),.none,vs[i]],slots:=#[] }),(itA,o')])
    (fun b o hb q=>hs₂.extBut b o (fun z=>hb (by rw[z];exact .head _)) (hk₁ b o (fun z=>hb (by rw[z];exact .head _)) (fun z=>hb (by rw[z];exact .tail _ (.head _))) q))
    (fun q hq=>by
     rcases V3.mp hq with rfl|hq
     ·exact⟨he₂,.head _⟩
     ·obtain rfl:=U6.mp hq;exact⟨hs₂.extBut _ _ hne.symm q1,.tail _ (.head _)⟩) (by simp[hne])
   have ht₂:h₂.get? s.heap.objs.size=some { cls:=.type "tuple",data:=.seq #[.int i s.toks,vs[i]] }:=hs₂.extBut _ _ (Nat.ne_of_gt eH) ht₁;have fr:=r.fresh (a:=s.heap.objs.size) (AAI (Y3 _));have r2:=r1.learn (fun b ob=>b=s.heap.objs.size/\ob={ cls:=.type "tuple",data:=.seq #[.int i s.toks,vs[i]] }) (fun b ob q=>by
    obtain⟨rfl,rfl⟩:=q;refine⟨ht₂,fr.own,fr.kn,fr.fr,fun q hq=>?_⟩;rcases U5.mp hq with hq|hq
    ·exact fr.pr q (U8 _ hq)
    ·rcases U5.mp hq with hq|hq
     ·rcases V3.mp hq with rfl|hq
      ·exact Y1 eH
      ·obtain rfl:=U6.mp hq;exact Y1 (AAJ g2)
     ·exact fr.pr q (U7 _ (U7 _ hq)))
   refine hs (.ref s.heap.objs.size) (.tup [.int i,xs[i]]) _ h₂ (s.toks+1) _ (by simp[iD,hlt]) (Gr.learn c _) ?_ ⟨o',vs[i],by simp,q2,q3⟩ r2;exact Rs.tup (vs:=[.int i s.toks,vs[i]]) (n:=0) (.inr ⟨rfl,rfl⟩) rfl rfl (Rs.cons (.int _ _) (Rs.cons ((rs.2 i _ _ (W9 hv) (W9 hlt)).gr (Gr.learn c _)) (Rs.nil _)))
  ·refine wpAny_pyNext_enum_end ok.hnd g1 hit hl (by simp[rs.1];(first|exact Nat.le_of_not_lt ‹_›|lia)) fun h' hs'=>he (by rw[hlx];(first|exact Nat.le_of_not_lt ‹_›|lia)) h' ?_
   exact r.reprot (os':=[]) (fun b o hb q=>hs' b o (fun z=>hb (by rw[z];exact .tail _ (.head _))) q) (fun p hp=>nomatch hp) W1
 self:=by
  rintro os s ⟨o2,old,rfl,o1,od⟩ hg Q E q;exact wpAny_pyIter_enum (hg _ (.head _)) q
theorem GO (ok:x.Ok) {elts:List Expr}{k:Nat}{p0 p p':Pos}{e:Expr}{T:TE}(h:x.E e T) (hx:x.env.kindOf (U0 "enumerate")=some .globalImplicit)
  (he:autoParam (eval (.Call (.Name (U0 "enumerate") p') [e] [] p) x.env=(do callWith p (<- eval (.Name (U0 "enumerate") p') x.env) [] [(false,eval e x.env)] [])) tR) :
  x.IT (.Tuple elts k p0) (.Call (.Name (U0 "enumerate") p') [e] [] p) (j6 T):=fun Q X st hT c s R=>by
 rw[he];obtain⟨hk,hg,hb',_⟩:=R.fm;refine Z9 (Name_function_global hk hx (loadGlobal_builtin (mg:=x.W.mg) (mb:=x.W.mb) ?_ (mg_none_of x.W.K x.W.g (lB (by rfl))) ?_ ((x.W.builtins (U0 "enumerate") (by decide)).trans Dt) ?_) (by decide))
 ·rw[hg];exact x.W.g.keeps R.base
 ·rw[hb'];exact x.W.b.keeps R.base
 ·refine callWith_type1 (h.go hT R fun v u c1 st1 s1 g1 w1 R1 r1 h1=>?_);rcases u with _|_|_|_|_|_|_|_|_|_<;>try exact h1.elim
  ·obtain⟨a,o,vs,n,rfl,q1,q2,q3,q4⟩:=lg r1;refine call_enumerate_list ⟨o,R1.kn q1,q2,n,q3⟩ fun h' he' hit hz hk=>?_
   refine wpAny_pyIter_enum he' ?_;obtain⟨o',z1,z2,z3⟩:=hit;have hne:s1.heap.objs.size+1≠s1.heap.objs.size:=by lia
   refine⟨c1,_,_,st1,EI a (s1.heap.objs.size+1) s1.heap.objs.size,[(s1.heap.objs.size+1,_),(s1.heap.objs.size,o')],g1,w1.trans ⟨rfl,rfl,rfl⟩,h1,GN ok hne fun fms prot c' mh hh g rr=>?_,⟨o',.none,rfl,z2,z3⟩,?_⟩
   ·exact⟨vs.toList,⟨o,rr.kn _ _ (g.kn _ _ q1),q2,n,by simpa using q3⟩,q4.gr g⟩
   ·refine R1.protect (h':=h') hk (fun q hq=>?_) (by simp);rcases V3.mp hq with rfl|hq
    ·exact⟨he',AAI (Y7 _)⟩
    ·obtain rfl:=U6.mp hq;exact⟨z1,AAI (Y3 _)⟩
end
noncomputable def wS (P:Params):FdW P 805:=⟨_,by with_unfolding_all rfl⟩
noncomputable def GP (P:Params):aI P 805 (wS P):=⟨_,by with_unfolding_all rfl⟩
noncomputable def T805:TS:=
 ab (aw "penalty" (aF 829 eZ (aa "self") [aa "node"]))
 (ab (ak (aV (ag .Is (aa "penalty") (tK .none)) (ag .GtE (aa "penalty") (tK (.int 10000)))) (ao (tK .none)) tNil)
 (ab (aw "cost" (aF 829 fE (aa "self") [aa "penalty"]))
 (ab (ak (aV (ag .Is (ae (aa "self") "best") (tK .none)) (ag .LtE (aa "cost") (ae (ae (aa "self") "best") "cost"))) (ab (ay 829 "best" (aa "self") (af K695 [af bLen [ae (aa "self") "page"],bM (ag .Eq (ae (aa "node") "kind") (tK (.int 7))) (aa "penalty") (tK (.int 10000)),aa "cost",ae (aa "self") "goal"]))
 (cG "number" (bc (af bSortD [ae (aa "self") "inserts"])) (ab (aw "entry" (au (ae (aa "self") "inserts") (aa "number")))
 (ay 674 "best" (aa "entry") (ae (aa "entry") "last"))))) tNil)
 (ab (ak (aV (ag .Eq (aa "cost") (tK (.int 1073741823))) (ag .LtE (aa "penalty") (tK (.int (-10000))))) (ao (ae (aa "self") "best")) tNil)
 (ao (tK .none))))))
theorem GQ:So wS GP (3) fun W=>T805:=@fun W fms prot A n L ok hn=>
 @lk _ _ _ _ _ (sa (sm lc (Gk ok (le hn)) (c1 lc)))
 (@lk _ _ _ _ _ (@ar _ _ _ _ _ _ _ _ (bW (am ok lc cg) (ct (am ok lc gi))) (@l1 _ _ _ (aA cg)) av)
 (@lk _ _ _ _ _ (sa (sm lc (Go ok (le hn)) (c1 lc)))
 (@lk _ _ _ _ _ (@ar _ _ _ _ _ _ _ _ (bW (am ok (ta lc) cg) (ct (am ok lc (ta (ta lc))))) (@lk _ _ _ _ _ (aC (sk (FY ok (le hn)) (cn (sb eE ew (c1 (ta lc))) (cn (ch (am ok (ta lc) gi) lc gi) (cn lc (c1 (ta lc)))))) lc)
 (@l1 _ _ _ (sF ok (cH ok (sb vI (GC ok) (c1 (ta lc)))) (fun ok=>(@lk _ _ _ _ _ (sa (aG (ta lc) lc))
 (@l1 _ _ _ (aC (ta lc) lc))))))) av)
 (@lk _ _ _ _ _ (@ar _ _ _ _ _ _ _ _ (bW (am ok lc gi) (ct (am ok lc gi))) (@l1 _ _ _ (@aA _ _ _ _ (ta lc))) av)
 (@l1 _ _ _ (aA cg))))))
noncomputable def gH:Fn:=aB 2 T805 ["self","node"] []
theorem GR {x:Cx}(ok:x.Ok) (hn:4<=x.n):x.C (.ref 805) (gH):=
 aK @GQ ["self","node"] 2 (fun P=>bE fun v0 v1 S=>by kernel_rfl) ok hn
noncomputable def wT (P:Params):FdW P 770:=⟨_,by with_unfolding_all rfl⟩
noncomputable def GS (P:Params):aI P 770 (wT P):=⟨_,by with_unfolding_all rfl⟩
noncomputable def T770:TS:=
 ab (lj (ag .NotEq (ae (aa "self") "contributions") (bB [])) (ab (bt [an "found",an "node"] (aD [au (ae (aa "self") "contributions") (tK (.int 0)),tK .none]))
 (ab (aw "is_begun" (aS (ag .Eq (ae (aa "self") "state") (tK (.int 2)))))
 (ab (ak (bf (bj (aa "is_begun")) (ag .Eq (ae (aa "node") "kind") (tK (.int 6)))) (aE (af eX [ae (aa "node") "glue"])) tNil)
 (ab (aw "is_waiting" (dg (aa "is_begun") (dg (aS (ag .Eq (ae (aa "node") "kind") (tK (.int 5)))) (aS (ag .Eq (af bLen [ae (aa "self") "contributions"]) (tK (.int 1)))))))
 (ab (ak (bf (b7 (bj (aa "is_begun"))) (ag .In (ae (aa "node") "kind") (tK (.tup ([2,3,4].map .int))))) (aE (aF 829 fV (aa "self") [aa "node",aa "top_skip"])) (ak (bf (b7 (bj (aa "is_begun"))) (bj (af fB [aa "node"]))) (aE (cj "list" (ae (aa "self") "contributions") bPop [tK (.int 0)])) (ak (b7 (bj (aa "is_waiting"))) (ab (aw "found" (aF 829 gH (aa "self") [aa "node"]))
 (ak (ag .Is (aa "found") (tK .none)) (aE (aF 829 fW (aa "self") [aa "node",aa "classes"])) tNil)) tNil)))
 (ab (aE (aF 829 iC (aa "self") [aa "node"]))
 (ak (aV (bj (aa "is_waiting")) (ag .IsNot (aa "found") (tK .none))) (ao (aa "found")) tNil))))))))
 (ao (tK .none))
theorem GU:So wT GS (8) fun W=>T770:=@fun W fms prot A n L ok hn=>
 @lk _ _ _ _ _ (uU ok jh (am ok (ta lc) (cF .nil)) (@lk _ _ _ _ _ (aR ok (@aW _ _ _ _ _ (cn (aG (ta lc) ai) (c1 cg))) rfl (.cons gb (.cons gb .nil)))
 (@lk _ _ _ _ _ (sa (cX ok (ta lc) gi))
 (@lk _ _ _ _ _ (@ar _ _ _ _ _ _ _ _ (cE (cv lc) (cN (am ok (ta lc) gi))) (@l1 _ _ _ (bI (sf (rq ok (le hn)) (c1 (ta lc))))) av)
 (@lk _ _ _ _ _ (sa (jP lc (jP (cX ok (ta lc) gi) (nV (cX ok (sb eE ew (c1 (ta lc))) ai)))))
 (@lk _ _ _ _ _ (@ar _ _ _ _ _ _ _ _ (cE (dL (cv lc)) (cN (am ok (ta lc) gt))) (@l1 _ _ _ (bI (sm lc (Gh ok (le hn)) (cn lc (c1 lc))))) (@l1 _ _ _ (@ar _ _ _ _ _ _ _ _ (cE (dL (cv lc)) (cN (cv (sf (wa ok (le hn)) (c1 lc))))) (@l1 _ _ _ (bI (sl F.slot_list_pop (ta lc) qO (c1 ai)))) (@l1 _ _ _ (@ar _ _ _ _ _ _ _ _ (dL (cv lc)) (@lk _ _ _ _ _ (sa (sm lc (GR ok (le hn)) (c1 lc)))
 (@l1 _ _ _ (@ar _ _ _ _ _ _ _ _ (am ok lc cg) (@l1 _ _ _ (bI (sm lc (GA ok (le hn)) (cn lc (c1 lc))))) av))) av)))))
 (@lk _ _ _ _ _ (bI (sm lc (Ge ok (le hn)) (c1 lc)))
 (@l1 _ _ _ (@ar _ _ _ _ _ _ _ _ (bW (cv lc) (ct (am ok lc cg))) (@l1 _ _ _ (aA lc)) av)))))))))
 (@l1 _ _ _ (aA cg))
noncomputable def oR:Fn:=aB 3 T770 ["self","top_skip","classes"] []
theorem GW {x:Cx}(ok:x.Ok) (hn:9<=x.n):x.C (.ref 770) (oR):=
 aK @GU ["self","top_skip","classes"] 3 (fun P=>ef fun v0 v1 v2 S=>by kernel_rfl) ok hn
noncomputable def wU (P:Params):FdW P 420:=⟨_,by with_unfolding_all rfl⟩
noncomputable def GX (P:Params):aI P 420 (wU P):=⟨_,by with_unfolding_all rfl⟩
noncomputable def T420:TS:=
 ak (ag .Gt (aa "depth") (tK (.int 60))) tNo tNil
theorem GY:So wU GX (0) fun W=>T420:=@fun W fms prot A n L ok hn=>
 @l1 _ _ _ (@ar _ _ _ _ _ _ _ _ (am ok lc gi) (l1 bL) av)
noncomputable def oS:Fn:=aB 1 T420 ["depth"] []
theorem GZ {x:Cx}(ok:x.Ok) (hn:1<=x.n):x.C (.ref 420) (oS):=
 aK @GY ["depth"] 1 (fun P=>b8 fun v0 S=>by kernel_rfl) ok hn
noncomputable def wV (P:Params):FdW P 432:=⟨_,by with_unfolding_all rfl⟩
noncomputable def G0 (P:Params):aI P 432 (wV P):=⟨_,by with_unfolding_all rfl⟩
noncomputable def rE (F444:Fn):TS:=
 ab (aw "kind" (ae (aa "node") "kind"))
 (ab (ak (ag .Eq (aa "kind") (tK (.int 8))) tNo tNil)
 (ab (ak (ag .Eq (aa "kind") (tK (.int 10))) (ao (aD [tK (.int 10),ae (aa "node") "number",ae (aa "node") "size",ae (aa "node") "depth",aF 258 jU (ae (aa "node") "top") [],ae (aa "node") "cost",af F444 [ae (aa "node") "items",aq (fun ω ω=>True) (fun i j=>i+j) (aa "depth") (tK (.int 1))]])) tNil)
 (ab (ak (ag .Eq (aa "kind") (tK (.int 11))) tNo tNil)
 (ab (ak (ag .Eq (aa "kind") (tK (.int 13))) tNo tNil)
 (ab (ak (ag .Eq (aa "kind") (tK (.int 14))) tNo tNil)
 tNo)))))
theorem G1 {F444:Fn}{m:Nat}(hrec:∀ y:Cx,y.Ok->m<=y.n->y.C (.ref 444) F444):So wV G0 (1+m) fun W=>rE F444:=@fun W fms prot A n L ok hn=>
 @lk _ _ _ _ _ (sa (ta lc))
 (@lk _ _ _ _ _ (@ar _ _ _ _ _ _ _ _ (am ok lc gi) bL av)
 (@lk _ _ _ _ _ (@ar _ _ _ _ _ _ _ _ (am ok lc gi) (@l1 _ _ _ (@aA _ _ _ _ (@aW _ _ _ _ _ (cn gi (cn (ta lc) (cn (ta lc) (cn (ta lc) (cn (sm (ta lc) (rh ok (X9 (by decide:1<=1) (X9 (Y4 1 m) hn))) .nil) (cn (ta lc) (c1 (sf (hrec _ ok (X9 (Nat.le_add_left m 1) hn)) (cn (ta lc) (c1 (bp lc ai)))))))))))))) av)
 (@lk _ _ _ _ _ (@ar _ _ _ _ _ _ _ _ (am ok lc gi) bL av)
 (@lk _ _ _ _ _ (@ar _ _ _ _ _ _ _ _ (am ok lc gi) bL av)
 (@lk _ _ _ _ _ (@ar _ _ _ _ _ _ _ _ (am ok lc gi) bL av)
 (l1 bL))))))
noncomputable def rF (F444:Fn):Fn:=aB 2 (rE F444) ["node","depth"] []
theorem G2 {x:Cx}{F444:Fn}{m:Nat}(hrec:∀ y:Cx,y.Ok->m<=y.n->y.C (.ref 444) F444) (ok:x.Ok) (hn:2+m<=x.n):x.C (.ref 432) (rF F444):=
 aK (@G1 _ _ hrec) ["node","depth"] 2 (fun P=>bE fun v0 v1 S=>by kernel_rfl) ok (by lia)
noncomputable def wW (P:Params):FdW P 438:=⟨_,by with_unfolding_all rfl⟩
noncomputable def G3 (P:Params):aI P 438 (wW P):=⟨_,by with_unfolding_all rfl⟩
noncomputable def iE (F444:Fn):TS:=
 ab (aE (af oS [aa "depth"]))
 (ab (aw "kind" (ae (aa "node") "kind"))
 (ab (ak (ag .Eq (aa "kind") (tK (.int 0))) tNo tNil)
 (ab (ak (ag .Eq (aa "kind") (tK (.int 1))) tNo tNil)
 (ab (ak (aV (ag .Eq (aa "kind") (tK (.int 2))) (ag .Eq (aa "kind") (tK (.int 3)))) (ab (aw "sizes" (aD [ae (aa "node") "width",ae (aa "node") "height",ae (aa "node") "depth",ae (aa "node") "shift",ae (aa "node") "sign",ae (aa "node") "order",ae (aa "node") "ratio"]))
 (ao (eB (eB (aD [aa "kind"]) (aa "sizes")) (aD [af F444 [ae (aa "node") "items",aq (fun ω ω=>True) (fun i j=>i+j) (aa "depth") (tK (.int 1))]])))) tNil)
 (ab (ak (ag .Eq (aa "kind") (tK (.int 4))) tNo tNil)
 (ab (ak (ag .Eq (aa "kind") (tK (.int 5))) (ao (aD [tK (.int 5),ae (aa "node") "width",ae (aa "node") "sort"])) tNil)
 (ab (ak (ag .Eq (aa "kind") (tK (.int 6))) (ao (aD [tK (.int 6),aF 258 jU (ae (aa "node") "glue") [],ae (aa "node") "sort",bM (ag .Is (ae (aa "node") "leader") (tK .none)) (aD []) tNo])) tNil)
 (ab (ak (ag .Eq (aa "kind") (tK (.int 7))) (ao (aD [tK (.int 7),ae (aa "node") "value"])) tNil)
 (ab (ak (ag .Eq (aa "kind") (tK (.int 9))) (ao (aD [tK (.int 9),ae (aa "node") "tokens"])) tNil)
 (ab (ak (ag .Eq (aa "kind") (tK (.int 12))) tNo tNil)
 (ao (af (rF F444) [aa "node",aa "depth"]))))))))))))
theorem G4 {F444:Fn}{m:Nat}(hrec:∀ y:Cx,y.Ok->m<=y.n->y.C (.ref 444) F444):So wW G3 (2+m) fun W=>iE F444:=@fun W fms prot A n L ok hn=>
 @lk _ _ _ _ _ (bI (sf (GZ ok (X9 (by decide:1<=2) (X9 (Y4 2 m) hn))) (c1 lc)))
 (@lk _ _ _ _ _ (sa (ta lc))
 (@lk _ _ _ _ _ (@ar _ _ _ _ _ _ _ _ (am ok lc gi) bL av)
 (@lk _ _ _ _ _ (@ar _ _ _ _ _ _ _ _ (am ok lc gi) bL av)
 (@lk _ _ _ _ _ (@ar _ _ _ _ _ _ _ _ (bW (am ok lc gi) (ct (am ok lc gi))) (@lk _ _ _ _ _ (sa (@aW _ _ _ _ _ (cn (ta lc) (cn (ta lc) (cn (ta lc) (cn (ta lc) (cn (ta lc) (cn (ta lc) (c1 (ta lc))))))))))
 (@l1 _ _ _ (@aA _ _ _ _ (lp (lp (@aW _ _ _ _ _ (c1 lc)) lc) (@aW _ _ _ _ _ (c1 (sf (hrec _ ok (X9 (Nat.le_add_left m 2) hn)) (cn (ta lc) (c1 (bp lc ai)))))))))) av)
 (@lk _ _ _ _ _ (@ar _ _ _ _ _ _ _ _ (am ok lc gi) bL av)
 (@lk _ _ _ _ _ (@ar _ _ _ _ _ _ _ _ (am ok lc gi) (@l1 _ _ _ (@aA _ _ _ _ (@aW _ _ _ _ _ (cn gi (cn (ta lc) (c1 (ta lc))))))) av)
 (@lk _ _ _ _ _ (@ar _ _ _ _ _ _ _ _ (am ok lc gi) (@l1 _ _ _ (@aA _ _ _ _ (@aW _ _ _ _ _ (cn gi (cn (sm (ta lc) (rh ok (X9 (by decide:1<=2) (X9 (Y4 2 m) hn))) .nil) (cn (ta lc) (c1 (ch (am ok (ta lc) cg) (aW .nil) bL)))))))) av)
 (@lk _ _ _ _ _ (@ar _ _ _ _ _ _ _ _ (am ok lc gi) (@l1 _ _ _ (@aA _ _ _ _ (@aW _ _ _ _ _ (cn gi (c1 (ta lc)))))) av)
 (@lk _ _ _ _ _ (@ar _ _ _ _ _ _ _ _ (am ok lc gi) (@l1 _ _ _ (@aA _ _ _ _ (@aW _ _ _ _ _ (cn gi (c1 (ta lc)))))) av)
 (@lk _ _ _ _ _ (@ar _ _ _ _ _ _ _ _ (am ok lc gi) bL av)
 (@l1 _ _ _ (@aA _ _ _ _ (sf (G2 hrec ok (X9 (Nat.add_le_add_right (by decide:2<=2) m) hn)) (cn lc (c1 lc)))))))))))))))
noncomputable def F438 (F444:Fn):Fn:=aB 2 (iE F444) ["node","depth"] []
theorem wX {x:Cx}{F444:Fn}{m:Nat}(hrec:∀ y:Cx,y.Ok->m<=y.n->y.C (.ref 444) F444) (ok:x.Ok) (hn:3+m<=x.n):x.C (.ref 438) (F438 F444):=
 aK (@G4 _ _ hrec) ["node","depth"] 2 (fun P=>bE fun v0 v1 S=>by kernel_rfl) ok (by lia)
noncomputable def wY (P:Params):FdW P 444:=⟨_,by with_unfolding_all rfl⟩
noncomputable def G5 (P:Params):aI P 444 (wY P):=⟨_,by with_unfolding_all rfl⟩
noncomputable def rG (F438:Fn):TS:=
 ao (af bTuple [be (aU (an "node") ["depth"] (bc (aa "items")) tTrue (af F438 [aa "node",aa "depth"]))])
theorem wZ {F438:Fn}{m:Nat}(hrec:∀ y:Cx,y.Ok->m<=y.n->y.C (.ref 438) F438):So wY G5 (0+m) fun W=>rG F438:=@fun W fms prot A n L ok hn=>
 @l1 _ _ _ (@aA _ _ _ _ (sb q9 u0 (c1 (sc ok eW (Cx.I.name (cH ok lc)) (fun ω h=>gI h) (bD fun ω ω ω ω ok=>dT) (bD fun ω ω ω ω ok=>(sf (hrec _ ok (X9 (Nat.le_add_left m 0) hn)) (cn lc (c1 lc))))))))
noncomputable def oU (F438:Fn):Fn:=aB 1 (rG F438) ["items","depth"] [.int 0]
theorem G6 {x:Cx}{F438:Fn}{m:Nat}(hrec:∀ y:Cx,y.Ok->m<=y.n->y.C (.ref 438) F438) (ok:x.Ok) (hn:1+m<=x.n):x.C (.ref 444) (oU F438):=
 iy (@wZ _ _ hrec) ["items","depth"] 1 [.int 0 845] [.int 0] (fun P=>b8 fun v0 S=>by kernel_rfl) (fun c=>Rs.cons (.int _ _) (Rs.nil c)) ok (by lia)
noncomputable def w4 (F438:Fn):Fn:=aB 2 (rG F438) ["items","depth"] []
theorem G7 {x:Cx}{F438:Fn}{m:Nat}(hrec:∀ y:Cx,y.Ok->m<=y.n->y.C (.ref 438) F438) (ok:x.Ok) (hn:1+m<=x.n):x.C (.ref 444) (w4 F438):=
 aK (@wZ _ _ hrec) ["items","depth"] 2 (fun P=>bE fun v0 v1 S=>by kernel_rfl) ok (by lia)
noncomputable def ej:Nat->Fn
|0=>fun ω ω ω ω=>False
|k+1=>w4 (F438 (ej k))
theorem w6:∀ (k:Nat) {x:Cx},x.Ok->4 * k<=x.n->x.C (.ref 444) (ej k)
|0,x,ok,hn=>fun us Q X st h=>h.elim
|k+1,x,ok,hn=>G7 (m:=3+4 * k) (fun y oy hy=>wX (m:=4 * k) (fun z oz hz=>w6 k oz hz) oy hy) ok (by lia)
noncomputable def bJ (k:Nat):Fn:=oU (F438 (ej (k - 1)))
theorem gJ {x:Cx}(ok:x.Ok) (hn:16<=x.n):x.C (.ref 444) (bJ 4):=
 G6 (m:=3+4 * 3) (fun y oy hy=>wX (m:=4 * 3) (fun z oz hz=>w6 3 oz hz) oy hy) ok (by omega)
noncomputable def w7 (P:Params):FdW P 845:=⟨_,by with_unfolding_all rfl⟩
noncomputable def G8 (P:Params):aI P 845 (w7 P):=⟨_,by with_unfolding_all rfl⟩
noncomputable def T845:TS:=
 ab (bt [an "at",an "cells"] (aD [au (aa "jar") (tK (.int 0)),au (aa "jar") (tK (.int 1))]))
 (ab (ak (bf (ag .Lt (aa "at") (af bLen [aa "cells"])) (ag .GtE (au (aa "cells") (aa "at")) (lD 10 18))) (ab (aw "digit" (aq (fun ω j=>j≠0) Int.fmod (au (aa "cells") (aa "at")) (aa "many")))
 (ab (jf (aq (fun ω j=>j≠0/\j.natAbs < 1073741824) Int.fdiv (au (aa "cells") (aa "at")) (aa "many")) (aa "cells") (aa "at"))
 (ao (aa "digit")))) tNil)
 (ab (jf (aq (fun ω ω=>True) (fun i j=>i+j) (aa "at") (tK (.int 1))) (aa "jar") (tK (.int 1)))
 (ab (ak (ag .Lt (aa "at") (af bLen [aa "cells"])) (ao (aq (fun ω j=>j≠0) Int.fmod (au (aa "cells") (aa "at")) (aa "many"))) tNil)
 (ao (aq (fun ω j=>j≠0) Int.fmod (aq (fun ω j=>j≠0) Int.fmod (aq (fun ω ω=>True) (fun i j=>i+j) (au (aa "jar") (tK (.int 2))) (aq IntMulOk (fun i j=>i * j) (aa "at") (aq (fun ω ω=>True) (fun i j=>i+j) (aq IntMulOk (fun i j=>i * j) (tK (.int 5)) (aa "at")) (tK (.int 7))))) (tK (.int 1009))) (aa "many"))))))
theorem G9:So w7 G8 (0) fun W=>T845:=@fun W fms prot A n L ok hn=>
 @lk _ _ _ _ _ (aR ok (@aW _ _ _ _ _ (cn (aG lc ai) (c1 (aG lc ai)))) rfl (.cons gb (.cons gb .nil)))
 (@lk _ _ _ _ _ (@ar _ _ _ _ _ _ _ _ (cE (am ok lc (sb eE ew (c1 lc))) (cN (am ok (aG lc lc) (Dm (by decide) (by decide) (by decide) (by decide) (by decide))))) (@lk _ _ _ _ _ (sa (lb (aG lc lc) lc))
 (@lk _ _ _ _ _ (nQ (la (aG lc lc) lc) lc lc)
 (@l1 _ _ _ (aA lc)))) av)
 (@lk _ _ _ _ _ (nQ (bp lc ai) lc ai)
 (@lk _ _ _ _ _ (@ar _ _ _ _ _ _ _ _ (am ok lc (sb eE ew (c1 lc))) (@l1 _ _ _ (@aA _ _ _ _ (lb (aG lc lc) lc))) av)
 (@l1 _ _ _ (@aA _ _ _ _ (lb (lb (bp (aG lc ai) (cq lc (bp (cq ai lc) ai))) ai) lc))))))
noncomputable def aY:Fn:=aB 2 T845 ["jar","many"] []
theorem b9 {x:Cx}(ok:x.Ok) (hn:1<=x.n):x.C (.ref 845) (aY):=
 aK @G9 ["jar","many"] 2 (fun P=>bE fun v0 v1 S=>by kernel_rfl) ok hn
noncomputable def w8 (P:Params):FdW P 852:=⟨_,by with_unfolding_all rfl⟩
noncomputable def Ha (P:Params):aI P 852 (w8 P):=⟨_,by with_unfolding_all rfl⟩
noncomputable def T852:TS:=
 ab (bt [an "down",an "up",an "breadth"] (aD [aq IntMulOk (fun i j=>i * j) (tK (.int 1000)) (af aY [aa "jar",tK (.int 5)]),aq IntMulOk (fun i j=>i * j) (tK (.int 1000)) (af aY [aa "jar",tK (.int 4)]),aq IntMulOk (fun i j=>i * j) (tK (.int 1000)) (af aY [aa "jar",tK (.int 3)])]))
 (ab (aw "order" (bM (bf (ag .Gt (aa "up") (tK (.int 0))) (ag .Eq (af aY [aa "jar",tK (.int 6)]) (tK (.int 5)))) (aq (fun ω ω=>True) (fun i j=>i+j) (tK (.int 1)) (af aY [aa "jar",tK (.int 3)])) (tK (.int 0))))
 (ao (aD [tK (.str "g"),aa "breadth",aa "up",aa "order",aa "down"])))
theorem Hb:So w8 Ha (1) fun W=>T852:=@fun W fms prot A n L ok hn=>
 @lk _ _ _ _ _ (aR ok (@aW _ _ _ _ _ (cn (cq ai (sf (b9 ok (le hn)) (cn lc (c1 ai)))) (cn (cq ai (sf (b9 ok (le hn)) (cn lc (c1 ai)))) (c1 (cq ai (sf (b9 ok (le hn)) (cn lc (c1 ai)))))))) rfl (.cons gb (.cons gb (.cons gb .nil))))
 (@lk _ _ _ _ _ (sa (ch (cE (am ok lc ai) (cN (am ok (sf (b9 ok (le hn)) (cn lc (c1 ai))) ai))) (bp ai (sf (b9 ok (le hn)) (cn lc (c1 ai)))) ai))
 (@l1 _ _ _ (@aA _ _ _ _ (@aW _ _ _ _ _ (cn bP (cn lc (cn lc (cn lc (c1 lc)))))))))
noncomputable def fF:Fn:=aB 1 T852 ["jar"] []
theorem oV {x:Cx}(ok:x.Ok) (hn:2<=x.n):x.C (.ref 852) (fF):=
 aK @Hb ["jar"] 1 (fun P=>b8 fun v0 S=>by kernel_rfl) ok hn
noncomputable def w9 (P:Params):FdW P 859:=⟨_,by with_unfolding_all rfl⟩
noncomputable def Hc (P:Params):aI P 859 (w9 P):=⟨_,by with_unfolding_all rfl⟩
noncomputable def T859:TS:=
 ao (aD [tK (.str "b"),aa "label",aq (fun ω ω=>True) (fun i j=>i+j) (aq IntMulOk (fun i j=>i * j) (tK (.int 1000)) (aq (fun ω ω=>True) (fun i j=>i+j) (tK (.int 1)) (af aY [aa "jar",tK (.int 12)]))) (aq IntMulOk (fun i j=>i * j) (tK (.int 250)) (af aY [aa "jar",tK (.int 3)])),aq IntMulOk (fun i j=>i * j) (tK (.int 1000)) (af aY [aa "jar",tK (.int 4)])])
theorem Hd:So w9 Hc (1) fun W=>T859:=@fun W fms prot A n L ok hn=>
 @l1 _ _ _ (@aA _ _ _ _ (@aW _ _ _ _ _ (cn bP (cn lc (cn (bp (cq ai (bp ai (sf (b9 ok (le hn)) (cn lc (c1 ai))))) (cq ai (sf (b9 ok (le hn)) (cn lc (c1 ai))))) (c1 (cq ai (sf (b9 ok (le hn)) (cn lc (c1 ai))))))))))
noncomputable def gK:Fn:=aB 2 T859 ["jar","label"] []
theorem rH {x:Cx}(ok:x.Ok) (hn:2<=x.n):x.C (.ref 859) (gK):=
 aK @Hd ["jar","label"] 2 (fun P=>bE fun v0 v1 S=>by kernel_rfl) ok hn
noncomputable def xa (P:Params):FdW P 866:=⟨_,by with_unfolding_all rfl⟩
noncomputable def He (P:Params):aI P 866 (xa P):=⟨_,by with_unfolding_all rfl⟩
noncomputable def T866:TS:=
 ab (aw "found" (tK (.int 0)))
 (ab (cG "item" (bc (aa "items")) (ab (ak (ag .Eq (au (aa "item") (tK (.int 0))) (tK (.str "b"))) (ci "found" (fun i j=>i+j) (aq (fun ω ω=>True) (fun i j=>i+j) (au (aa "item") (tK (.int 2))) (au (aa "item") (tK (.int 3))))) tNil)
 (ak (aV (ag .Eq (au (aa "item") (tK (.int 0))) (tK (.str "g"))) (ag .Eq (au (aa "item") (tK (.int 0))) (tK (.str "k")))) (ci "found" (fun i j=>i+j) (au (aa "item") (tK (.int 1)))) tNil)))
 (ao (aa "found")))
theorem Hf:So xa He (0) fun W=>T866:=@fun W fms prot A n L ok hn=>
 @lk _ _ _ _ _ (sa ai)
 (@lk _ _ _ _ _ (sF ok (cH ok lc) (fun ok=>(@lk _ _ _ _ _ (@ar _ _ _ _ _ _ _ _ (am ok (aG lc ai) bP) (@l1 _ _ _ (aN cY (bp (aG lc ai) (aG lc ai)))) av)
 (@l1 _ _ _ (@ar _ _ _ _ _ _ _ _ (bW (am ok (aG lc ai) bP) (ct (am ok (aG lc ai) bP))) (@l1 _ _ _ (aN cY (aG lc ai))) av)))))
 (@l1 _ _ _ (aA lc)))
noncomputable def oW:Fn:=aB 1 T866 ["items"] []
theorem Hg {x:Cx}(ok:x.Ok) (hn:1<=x.n):x.C (.ref 866) (oW):=
 aK @Hf ["items"] 1 (fun P=>b8 fun v0 S=>by kernel_rfl) ok hn
noncomputable def xc (P:Params):FdW P 873:=⟨_,by with_unfolding_all rfl⟩
noncomputable def Hh (P:Params):aI P 873 (xc P):=⟨_,by with_unfolding_all rfl⟩
noncomputable def T873:TS:=
 ab (aw "parts" (fq (fun ω=>0) .list [af gK [aa "jar",aq IntMulOk (fun i j=>i * j) (tK (.int 100)) (aa "label")]]))
 (ab (cG "more" (ey [af aY [aa "jar",tK (.int 3)]]) (ab (aE (cj "list" (aa "parts") bAppend [bM (ag .Eq (af aY [aa "jar",tK (.int 3)]) (tK (.int 1))) (aD [tK (.str "p"),au (bB [tK (.int 0),tK (.int 60),cD (tK (.int 10000)),tK (.int 10000)]) (af aY [aa "jar",tK (.int 4)])]) (af fF [aa "jar"])]))
 (aE (cj "list" (aa "parts") bAppend [af gK [aa "jar",aq (fun ω ω=>True) (fun i j=>i+j) (aq (fun ω ω=>True) (fun i j=>i+j) (aq IntMulOk (fun i j=>i * j) (tK (.int 100)) (aa "label")) (tK (.int 1))) (aa "more")]]))))
 (ao (aD [tK (.str "i"),aq (fun ω ω=>True) (fun i j=>i+j) (tK (.int 1)) (af aY [aa "jar",tK (.int 2)]),af oW [aa "parts"],au (bB [tK (.int 0),tK (.int 100),tK (.int 9000)]) (af aY [aa "jar",tK (.int 3)]),af bTupleL [aa "parts"],aq IntMulOk (fun i j=>i * j) (tK (.int 1000)) (af aY [aa "jar",tK (.int 6)])])))
theorem Hi:So xc Hh (2) fun W=>T873:=@fun W fms prot A n L ok hn=>
 @lk _ _ _ _ _ (sa (nG (c1 (sf (rH ok (le hn)) (cn lc (c1 (cq ai lc)))))))
 (@lk _ _ _ _ _ (sF ok (sr ok (c1 (sf (b9 ok (le hn)) (cn lc (c1 ai))))) (fun ok=>(@lk _ _ _ _ _ (bI (sl F.slot_list_append lc qN (c1 (ch (am ok (sf (b9 ok (le hn)) (cn lc (c1 ai))) ai) (@aW _ _ _ _ _ (cn bP (c1 (aG (cF (cn ai (cn ai (cn (dR ai) (c1 ai))))) (sf (b9 ok (le hn)) (cn lc (c1 ai))))))) (sf (oV ok (le hn)) (c1 lc))))))
 (@l1 _ _ _ (bI (sl F.slot_list_append lc qN (c1 (sf (rH ok (le hn)) (cn lc (c1 (bp (bp (cq ai lc) ai) lc)))))))))))
 (@l1 _ _ _ (@aA _ _ _ _ (@aW _ _ _ _ _ (cn bP (cn (bp ai (sf (b9 ok (le hn)) (cn lc (c1 ai)))) (cn (sf (Hg ok (le hn)) (c1 lc)) (cn (aG (cF (cn ai (cn ai (c1 ai)))) (sf (b9 ok (le hn)) (cn lc (c1 ai)))) (cn (sb q9 GK (c1 lc)) (c1 (cq ai (sf (b9 ok (le hn)) (cn lc (c1 ai))))))))))))))
noncomputable def rI:Fn:=aB 2 T873 ["jar","label"] []
theorem Hj {x:Cx}(ok:x.Ok) (hn:3<=x.n):x.C (.ref 873) (rI):=
 aK @Hi ["jar","label"] 2 (fun P=>bE fun v0 v1 S=>by kernel_rfl) ok hn
noncomputable def xd (P:Params):FdW P 880:=⟨_,by with_unfolding_all rfl⟩
noncomputable def Hk (P:Params):aI P 880 (xd P):=⟨_,by with_unfolding_all rfl⟩
noncomputable def T880:TS:=
 ab (aw "sort" (af aY [aa "jar",tK (.int 14)]))
 (ab (ak (ag .Lt (aa "sort") (tK (.int 5))) (ao (af gK [aa "jar",aa "label"])) tNil)
 (ab (ak (ag .Lt (aa "sort") (tK (.int 7))) (ao (af fF [aa "jar"])) tNil)
 (ab (ak (ag .Lt (aa "sort") (tK (.int 9))) (ao (aD [tK (.str "p"),au (bB [tK (.int 0),tK (.int 50),cD (tK (.int 50)),tK (.int 10000),cD (tK (.int 10000)),tK (.int 9999),tK (.int 300),cD (tK (.int 700))]) (af aY [aa "jar",tK (.int 8)])])) tNil)
 (ab (ak (ag .Eq (aa "sort") (tK (.int 9))) (ao (aD [tK (.str "k"),aq IntMulOk (fun i j=>i * j) (tK (.int 1000)) (af aY [aa "jar",tK (.int 5)])])) tNil)
 (ab (ak (ag .Eq (aa "sort") (tK (.int 10))) (ao (aD [tK (.str "m"),aD [aD [tK (.int 11),aq (fun ω ω=>True) (fun i j=>i+j) (tK (.int 65)) (aa "label")]]])) tNil)
 (ao (af rI [aa "jar",aa "label"])))))))
theorem Hl:So xd Hk (3) fun W=>T880:=@fun W fms prot A n L ok hn=>
 @lk _ _ _ _ _ (sa (sf (b9 ok (le hn)) (cn lc (c1 ai))))
 (@lk _ _ _ _ _ (@ar _ _ _ _ _ _ _ _ (am ok lc ai) (@l1 _ _ _ (@aA _ _ _ _ (sf (rH ok (le hn)) (cn lc (c1 lc))))) av)
 (@lk _ _ _ _ _ (@ar _ _ _ _ _ _ _ _ (am ok lc ai) (@l1 _ _ _ (@aA _ _ _ _ (sf (oV ok (le hn)) (c1 lc)))) av)
 (@lk _ _ _ _ _ (@ar _ _ _ _ _ _ _ _ (am ok lc ai) (@l1 _ _ _ (@aA _ _ _ _ (@aW _ _ _ _ _ (cn bP (c1 (aG (cF (cn ai (cn ai (cn (dR ai) (cn ai (cn (dR ai) (cn ai (cn ai (c1 (dR ai)))))))))) (sf (b9 ok (le hn)) (cn lc (c1 ai))))))))) av)
 (@lk _ _ _ _ _ (@ar _ _ _ _ _ _ _ _ (am ok lc ai) (@l1 _ _ _ (@aA _ _ _ _ (@aW _ _ _ _ _ (cn bP (c1 (cq ai (sf (b9 ok (le hn)) (cn lc (c1 ai))))))))) av)
 (@lk _ _ _ _ _ (@ar _ _ _ _ _ _ _ _ (am ok lc ai) (@l1 _ _ _ (@aA _ _ _ _ (@aW _ _ _ _ _ (cn bP (c1 (@aW _ _ _ _ _ (c1 (@aW _ _ _ _ _ (cn ai (c1 (bp ai lc))))))))))) av)
 (@l1 _ _ _ (@aA _ _ _ _ (sf (Hj ok (le hn)) (cn lc (c1 lc))))))))))
noncomputable def oX:Fn:=aB 2 T880 ["jar","label"] []
theorem Hm {x:Cx}(ok:x.Ok) (hn:4<=x.n):x.C (.ref 880) (oX):=
 aK @Hl ["jar","label"] 2 (fun P=>bE fun v0 v1 S=>by kernel_rfl) ok hn
noncomputable def xe (P:Params):FdW P 887:=⟨_,by with_unfolding_all rfl⟩
noncomputable def Hn (P:Params):aI P 887 (xe P):=⟨_,by with_unfolding_all rfl⟩
noncomputable def T887:TS:=
 ab (bt [an "most",an "share"] (aD [au (bB [tK (.int 1000),tK (.int 500),tK (.int 1000),tK (.int 0)]) (af aY [aa "jar",tK (.int 4)]),aq IntMulOk (fun i j=>i * j) (tK (.int 1000)) (aq (fun ω ω=>True) (fun i j=>i+j) (tK (.int 4)) (af aY [aa "jar",tK (.int 20)]))]))
 (ao (aD [aa "share",aa "most",af fF [aa "jar"],aq IntMulOk (fun i j=>i * j) (tK (.int 1000)) (au (bB [tK (.int 0),tK (.int 0),tK (.int 3)]) (af aY [aa "jar",tK (.int 3)]))]))
theorem Ho:So xe Hn (2) fun W=>T887:=@fun W fms prot A n L ok hn=>
 @lk _ _ _ _ _ (aR ok (@aW _ _ _ _ _ (cn (aG (cF (cn ai (cn ai (cn ai (c1 ai))))) (sf (b9 ok (le hn)) (cn lc (c1 ai)))) (c1 (cq ai (bp ai (sf (b9 ok (le hn)) (cn lc (c1 ai)))))))) rfl (.cons gb (.cons gb .nil)))
 (@l1 _ _ _ (@aA _ _ _ _ (@aW _ _ _ _ _ (cn lc (cn lc (cn (sf (oV ok (le hn)) (c1 lc)) (c1 (cq ai (aG (cF (cn ai (cn ai (c1 ai)))) (sf (b9 ok (le hn)) (cn lc (c1 ai))))))))))))
noncomputable def j7:Fn:=aB 1 T887 ["jar"] []
theorem xh {x:Cx}(ok:x.Ok) (hn:3<=x.n):x.C (.ref 887) (j7):=
 aK @Ho ["jar"] 1 (fun P=>b8 fun v0 S=>by kernel_rfl) ok hn
noncomputable def oY:Fn:=aB 2 T205 ["self","width","stretch","stretch_order","shrink","shrink_order"] [.int 0,.int 0,.int 0,.int 0]
theorem Hp {x:Cx}(ok:x.Ok) (hn:3<=x.n):x.C (.ref 205) (oY):=
 iy @rg ["self","width","stretch","stretch_order","shrink","shrink_order"] 2 [.int 0 448,.int 0 449,.int 0 450,.int 0 451] [.int 0,.int 0,.int 0,.int 0] (fun P=>bE fun v0 v1 S=>by kernel_rfl) (fun c=>Rs.cons (.int _ _) (Rs.cons (.int _ _) (Rs.cons (.int _ _) (Rs.cons (.int _ _) (Rs.nil c))))) ok hn
noncomputable def K258_1:Fn:=dN 258 oY
noncomputable def Hq:Nat->Fn:=cw 258 oY
theorem Hr {x:Cx}(ok:x.Ok) (hn:4<=x.n) (r:Nat):x.C (.ref 258) (Hq r):=
 dq (dh (f:=205)) (fun vs=>Hp (cZ ok (le hn)) (Y0 hn)) r
theorem Hs {x:Cx}(ok:x.Ok) (hn:4<=x.n):x.C (.ref 258) K258_1:=dS (Hr ok hn 0)
noncomputable def xi (P:Params):FdW P 892:=⟨_,by with_unfolding_all rfl⟩
noncomputable def Ht (P:Params):aI P 892 (xi P):=⟨_,by with_unfolding_all rfl⟩
noncomputable def iF (f892:Fn):TS:=
 ab (ak (ag .Eq (au (aa "item") (tK (.int 0))) (tK (.str "b"))) (ao (af K303 [tK (.int 2),au (aa "item") (tK (.int 1)),au (aa "item") (tK (.int 2)),au (aa "item") (tK (.int 3)),bB []])) tNil)
 (ab (ak (ag .Eq (au (aa "item") (tK (.int 0))) (tK (.str "g"))) (ao (af K346_2 [af K258_5 [au (aa "item") (tK (.int 1)),au (aa "item") (tK (.int 2)),au (aa "item") (tK (.int 3)),au (aa "item") (tK (.int 4)),tK (.int 0)],tK (.int 0)])) tNil)
 (ab (ak (ag .Eq (au (aa "item") (tK (.int 0))) (tK (.str "k"))) (ao (af K324 [au (aa "item") (tK (.int 1)),tK (.int 1)])) tNil)
 (ab (ak (ag .Eq (au (aa "item") (tK (.int 0))) (tK (.str "p"))) (ao (af K367 [au (aa "item") (tK (.int 1))])) tNil)
 (ab (ak (ag .Eq (au (aa "item") (tK (.int 0))) (tK (.str "m"))) (ao (af K388 [au (aa "item") (tK (.int 1))])) tNil)
 (ao (af K409 [au (aa "item") (tK (.int 1)),au (aa "item") (tK (.int 2)),aa "deep",af K258_1 [au (aa "item") (tK (.int 5))],au (aa "item") (tK (.int 3)),be (aU (an "part") ["deep"] (bc (au (aa "item") (tK (.int 4)))) tTrue (af f892 [aa "part",aa "deep"]))]))))))
theorem Hu {f892:Fn}{m:Nat}(hrec:∀ y:Cx,y.Ok->m<=y.n->y.C (.ref 892) f892):So xi Ht (4+m) fun W=>iF f892:=@fun W fms prot A n L ok hn=>
 @lk _ _ _ _ _ (@ar _ _ _ _ _ _ _ _ (am ok (aG lc ai) bP) (@l1 _ _ _ (@aA _ _ _ _ (sk (ot ok (X9 (by decide:4<=4) (X9 (Y4 4 m) hn))) (cn gi (cn (aG lc ai) (cn (aG lc ai) (cn (aG lc ai) (c1 (cF .nil))))))))) av)
 (@lk _ _ _ _ _ (@ar _ _ _ _ _ _ _ _ (am ok (aG lc ai) bP) (@l1 _ _ _ (@aA _ _ _ _ (sk (ox ok (X9 (by decide:3<=4) (X9 (Y4 4 m) hn))) (cn (sk (jT ok (X9 (by decide:4<=4) (X9 (Y4 4 m) hn))) (cn (aG lc ai) (cn (aG lc ai) (cn (aG lc ai) (cn (aG lc ai) (c1 ai)))))) (c1 ai))))) av)
 (@lk _ _ _ _ _ (@ar _ _ _ _ _ _ _ _ (am ok (aG lc ai) bP) (@l1 _ _ _ (@aA _ _ _ _ (sk (D2 ok (X9 (by decide:4<=4) (X9 (Y4 4 m) hn))) (cn (aG lc ai) (c1 ai))))) av)
 (@lk _ _ _ _ _ (@ar _ _ _ _ _ _ _ _ (am ok (aG lc ai) bP) (@l1 _ _ _ (@aA _ _ _ _ (sk (Ed ok (X9 (by decide:4<=4) (X9 (Y4 4 m) hn))) (c1 (aG lc ai))))) av)
 (@lk _ _ _ _ _ (@ar _ _ _ _ _ _ _ _ (am ok (aG lc ai) bP) (@l1 _ _ _ (@aA _ _ _ _ (sk (Ej ok (X9 (by decide:2<=4) (X9 (Y4 4 m) hn))) (c1 (aG lc ai))))) av)
 (@l1 _ _ _ (@aA _ _ _ _ (sk (rl ok (X9 (by decide:4<=4) (X9 (Y4 4 m) hn))) (cn (aG lc ai) (cn (aG lc ai) (cn lc (cn (sk (Hs ok (X9 (by decide:4<=4) (X9 (Y4 4 m) hn))) (c1 (aG lc ai))) (cn (aG lc ai) (c1 (sc ok eW (Cx.I.name (cH ok (aG lc ai))) (fun ω h=>gI h) (bD fun ω ω ω ω ok=>dT) (bD fun ω ω ω ω ok=>(sf (hrec _ ok (X9 (Nat.le_add_left m 4) hn)) (cn lc (c1 lc))))))))))))))))))
noncomputable def fY (f892:Fn):Fn:=aB 2 (iF f892) ["item","deep"] []
theorem Hv {x:Cx}{f892:Fn}{m:Nat}(hrec:∀ y:Cx,y.Ok->m<=y.n->y.C (.ref 892) f892) (ok:x.Ok) (hn:5+m<=x.n):x.C (.ref 892) (fY f892):=
 aK (@Hu _ _ hrec) ["item","deep"] 2 (fun P=>bE fun v0 v1 S=>by kernel_rfl) ok (by lia)
noncomputable def bu:Nat->Fn
|0=>fun ω ω ω ω=>False
|k+1=>fY (bu k)
theorem xj:∀ (k:Nat) {x:Cx},x.Ok->5 * k<=x.n->x.C (.ref 892) (bu k)
|0,x,ok,hn=>fun us Q X st h=>h.elim
|k+1,x,ok,hn=>Hv (m:=5 * k) (fun y oy hy=>xj k oy hy) ok (by lia)
theorem fZ {x:Cx}(ok:x.Ok) (hn:10<=x.n):x.C (.ref 892) (bu 2):=xj 2 ok hn
noncomputable def xl (P:Params):FdW P 899:=⟨_,by with_unfolding_all rfl⟩
noncomputable def Hw (P:Params):aI P 899 (xl P):=⟨_,by with_unfolding_all rfl⟩
noncomputable def T899:TS:=
 ao (bM (ag .Is (aa "found") (tK .none)) (aD []) (aD [ae (aa "found") "place",ae (aa "found") "penalty",ae (aa "found") "cost",ae (aa "found") "size"]))
theorem Hx:So xl Hw (0) fun W=>T899:=@fun W fms prot A n L ok hn=>
 @l1 _ _ _ (@aA _ _ _ _ (ch (am ok lc cg) (aW .nil) (@aW _ _ _ _ _ (cn (ta lc) (cn (ta lc) (cn (ta lc) (c1 (ta lc))))))))
noncomputable def iG:Fn:=aB 1 T899 ["found"] []
theorem xm {x:Cx}(ok:x.Ok) (hn:1<=x.n):x.C (.ref 899) (iG):=
 aK @Hx ["found"] 1 (fun P=>b8 fun v0 S=>by kernel_rfl) ok hn
noncomputable def xn (P:Params):FdW P 911:=⟨_,by with_unfolding_all rfl⟩
noncomputable def Hy (P:Params):aI P 911 (xn P):=⟨_,by with_unfolding_all rfl⟩
noncomputable def T911:TS:=
 ab (qT 88 76 "page" "box" (aw "found" (aF 829 oR (aa "builder") [aa "top",aa "table"])))
 (ao (af iG [aa "found"]))
theorem Hz:So xn Hy (9) fun W=>T911:=@fun W fms prot A n L ok hn=>
 @lk _ _ _ _ _ (CV ok jh (De _) (ix (by rfl)) (ix (by rfl)) (by rfl) (by rfl) (@l1 _ _ _ (sa (sm lc (GW ok (le hn)) (cn lc (c1 lc))))))
 (@l1 _ _ _ (@aA _ _ _ _ (sf (xm ok (le hn)) (c1 lc))))
noncomputable def br:Fn:=aB 3 T911 ["builder","top","table"] []
theorem gL {x:Cx}(ok:x.Ok) (hn:10<=x.n):x.C (.ref 911) (br):=
 aK @Hz ["builder","top","table"] 3 (fun P=>ef fun v0 v1 v2 S=>by kernel_rfl) ok hn
noncomputable def xo (P:Params):FdW P 904:=⟨_,by with_unfolding_all rfl⟩
noncomputable def HA (P:Params):aI P 904 (xo P):=⟨_,by with_unfolding_all rfl⟩
noncomputable def T904:TS:=
 ab (aw "rows" (be (aU (dB [an "which",an "one"]) [] (oQ (oP (ae (aa "builder") "inserts"))) tTrue (aD [aa "which",ae (aa "one") "size",ae (aa "one") "last",ae (aa "one") "best",ae (aa "one") "split_at",ae (aa "one") "split_place"]))))
 (ab (aw "sums" (aD [ae (aa "builder") "state",ae (aa "builder") "goal",ae (aa "builder") "total",af bList [ae (aa "builder") "stretch"],ae (aa "builder") "shrink",ae (aa "builder") "depth",ae (aa "builder") "most_depth",ae (aa "builder") "insert_penalties"]))
 (ab (aw "last" (aD [ae (aa "builder") "last_penalty",ae (aa "builder") "last_kern",aF 258 jU (ae (aa "builder") "last_glue") []]))
 (ao (aD [af (bJ 4) [ae (aa "builder") "page"],aa "sums",aa "rows",af iG [ae (aa "builder") "best"],aa "last",af bLen [ae (aa "builder") "held"]]))))
theorem HB:So xo HA (16) fun W=>T904:=@fun W fms prot A n L ok hn=>
 @lk _ _ _ _ _ (sC ok jR (GM ok (GJ ok (ta lc) (by rfl))) (fun y hy=>qP hy.ok (.cons (gI hy) (.cons (gI hy) .nil))) (bD fun ω ω ω ω ok=>dT) (bD fun ω ω ω ω ok=>(@aW _ _ _ _ _ (cn lc (cn (ta lc) (cn (ta lc) (cn (ta lc) (cn (ta lc) (c1 (ta lc))))))))))
 (@lk _ _ _ _ _ (sa (@aW _ _ _ _ _ (cn (ta lc) (cn (ta lc) (cn (ta lc) (cn (sb Dr Cc (c1 (ta lc))) (cn (ta lc) (cn (ta lc) (cn (ta lc) (c1 (ta lc)))))))))))
 (@lk _ _ _ _ _ (sa (@aW _ _ _ _ _ (cn (ta lc) (cn (ta lc) (c1 (sm (ta lc) (rh ok (le hn)) .nil))))))
 (@l1 _ _ _ (@aA _ _ _ _ (@aW _ _ _ _ _ (cn (sf (gJ ok (le hn)) (c1 (ta lc))) (cn lc (cn lc (cn (sf (xm ok (le hn)) (c1 (ta lc))) (cn lc (c1 (sb eE ew (c1 (ta lc))))))))))))))
noncomputable def bz:Fn:=aB 1 T904 ["builder"] []
theorem gM {x:Cx}(ok:x.Ok) (hn:17<=x.n):x.C (.ref 904) (bz):=
 aK @HB ["builder"] 1 (fun P=>b8 fun v0 S=>by kernel_rfl) ok hn
noncomputable def xp (P:Params):FdW P 918:=⟨_,by with_unfolding_all rfl⟩
noncomputable def HC (P:Params):aI P 918 (xp P):=⟨_,by with_unfolding_all rfl⟩
noncomputable def T918:TS:=
 ab (ak (ag .Eq (aa "way") (tK (.int 0))) (ao (bB [af K346_2 [af K258_5 [tK (.int 500),tK (.int 0),tK (.int 0),tK (.int 100),tK (.int 1)],tK (.int 0)]])) tNil)
 (ab (ak (ag .Eq (aa "way") (tK (.int 1))) (ao (bB [af K409 [tK (.int 3),tK (.int 1000),aa "deep",af K258_0 [],tK (.int 0),bB [af K303 [tK (.int 2),tK (.int 9),tK (.int 1000),tK (.int 0),bB []]]]])) tNil)
 (ab (ak (ag .Eq (aa "way") (tK (.int 2))) (ao (bB [af K409 [tK (.int 4),tK (.int 401000),aa "deep",af K258_0 [],tK (.int 0),bB [af K303 [tK (.int 2),tK (.int 9),tK (.int 1000),tK (.int 0),bB []],af K346_2 [af K258_5 [tK (.int 0),tK (.int 0),tK (.int 0),tK (.int 7),tK (.int 2)],tK (.int 0)],af K303 [tK (.int 2),tK (.int 8),tK (.int 400000),tK (.int 0),bB []]]]])) tNil)
 (ao (bB []))))
theorem HD:So xp HC (4) fun W=>T918:=@fun W fms prot A n L ok hn=>
 @lk _ _ _ _ _ (@ar _ _ _ _ _ _ _ _ (am ok lc ai) (@l1 _ _ _ (@aA _ _ _ _ (cF (c1 (sk (ox ok (le hn)) (cn (sk (jT ok (le hn)) (cn ai (cn ai (cn ai (cn ai (c1 ai)))))) (c1 ai))))))) av)
 (@lk _ _ _ _ _ (@ar _ _ _ _ _ _ _ _ (am ok lc ai) (@l1 _ _ _ (@aA _ _ _ _ (cF (c1 (sk (rl ok (le hn)) (cn ai (cn ai (cn lc (cn (sk (om ok (le hn)) .nil) (cn ai (c1 (cF (c1 (sk (ot ok (le hn)) (cn gi (cn ai (cn ai (cn ai (c1 (cF .nil)))))))))))))))))))) av)
 (@lk _ _ _ _ _ (@ar _ _ _ _ _ _ _ _ (am ok lc ai) (@l1 _ _ _ (@aA _ _ _ _ (cF (c1 (sk (rl ok (le hn)) (cn ai (cn ai (cn lc (cn (sk (om ok (le hn)) .nil) (cn ai (c1 (cF (cn (sk (ot ok (le hn)) (cn gi (cn ai (cn ai (cn ai (c1 (cF .nil))))))) (cn (sk (ox ok (le hn)) (cn (sk (jT ok (le hn)) (cn ai (cn ai (cn ai (cn ai (c1 ai)))))) (c1 ai))) (c1 (sk (ot ok (le hn)) (cn gi (cn ai (cn ai (cn ai (c1 (cF .nil)))))))))))))))))))))) av)
 (@l1 _ _ _ (@aA _ _ _ _ (cF .nil)))))
noncomputable def e7:Fn:=aB 2 T918 ["way","deep"] []
theorem xq {x:Cx}(ok:x.Ok) (hn:5<=x.n):x.C (.ref 918) (e7):=
 aK @HD ["way","deep"] 2 (fun P=>bE fun v0 v1 S=>by kernel_rfl) ok hn
noncomputable def xr (P:Params):FdW P 923:=⟨_,by with_unfolding_all rfl⟩
noncomputable def HE (P:Params):aI P 923 (xr P):=⟨_,by with_unfolding_all rfl⟩
noncomputable def T923:TS:=
 ab (ak (ag .Eq (aa "way") (tK (.int 0))) (ao (bM (ag .Eq (aa "state") (tK (.int 2))) (tK (.str "page")) (tK (.str "")))) tNil)
 (ab (ak (ag .Eq (aa "way") (tK (.int 1))) (ao (tK (.str "page"))) tNil)
 (ab (ak (ag .Eq (aa "way") (tK (.int 2))) (ab (aw "free" (bM (ag .Eq (aa "state") (tK (.int 0))) (aa "vsize") (aq (fun ω ω=>True) (fun i j=>i - j) (aq (fun ω ω=>True) (fun i j=>i - j) (ae (aa "builder") "goal") (ae (aa "builder") "total")) (ae (aa "builder") "depth"))))
 (ao (bM (ag .GtE (aa "free") (tK (.int 1000))) (tK (.str "box")) (tK (.str ""))))) tNil)
 (ao (bM (bf (ag .NotEq (aa "state") (tK (.int 2))) (ag .NotEq (be (aU (an "item") [] (bc (aa "rest")) (ag .Eq (au (aa "item") (tK (.int 0))) (tK (.str "b"))) (aa "item"))) (bB []))) (tK (.str "page")) (tK (.str ""))))))
theorem HF:So xr HE (0) fun W=>T923:=@fun W fms prot A n L ok hn=>
 @lk _ _ _ _ _ (@ar _ _ _ _ _ _ _ _ (am ok lc ai) (@l1 _ _ _ (@aA _ _ _ _ (ch (am ok lc gi) bP bP))) av)
 (@lk _ _ _ _ _ (@ar _ _ _ _ _ _ _ _ (am ok lc ai) (@l1 _ _ _ (aA bP)) av)
 (@lk _ _ _ _ _ (@ar _ _ _ _ _ _ _ _ (am ok lc ai) (@lk _ _ _ _ _ (sa (ch (am ok lc gi) lc (dY (dY (ta lc) (ta lc)) (ta lc))))
 (@l1 _ _ _ (@aA _ _ _ _ (ch (am ok lc ai) bP bP)))) av)
 (@l1 _ _ _ (@aA _ _ _ _ (ch (cE (am ok lc gi) (cN (am ok (sc ok jR (Cx.I.name (cH ok lc)) (fun ω h=>gI h) (bD fun ω ω ω ω ok=>(qK (am ok (aG lc ai) bP))) (bD fun ω ω ω ω ok=>lc)) (cF .nil)))) bP bP)))))
noncomputable def e8:Fn:=aB 5 T923 ["way","state","builder","vsize","rest"] []
theorem HG {x:Cx}(ok:x.Ok) (hn:1<=x.n):x.C (.ref 923) (e8):=
 aK @HF ["way","state","builder","vsize","rest"] 5 (fun P=>lE fun v0 v1 v2 v3 v4 S=>by kernel_rfl) ok hn
noncomputable def xt (P:Params):FdW P 928:=⟨_,by with_unfolding_all rfl⟩
noncomputable def HH (P:Params):aI P 928 (xt P):=⟨_,by with_unfolding_all rfl⟩
noncomputable def T928:TS:=
 ab (aw "rows" (be (aU (an "one") ["classes"] (bc (aD [tK (.int 1),tK (.int 2)])) tTrue (af K623_5 [aa "one",au (au (aa "classes") (aa "one")) (tK (.int 0)),au (au (aa "classes") (aa "one")) (tK (.int 1)),ae (af (bu 2) [au (au (aa "classes") (aa "one")) (tK (.int 2)),tK (.int 0)]) "glue",au (au (aa "classes") (aa "one")) (tK (.int 3))]))))
 (ao (af K653 [eB (aa "rows") (bB [af K623_4 [tK (.int 3),tK (.int 1000),tK (.int 9000),af K258_5 [tK (.int 0),tK (.int 0),tK (.int 0),tK (.int 10),tK (.int 3)]],af K623_1 [tK (.int 4)]])]))
theorem HI:So xt HH (10) fun W=>T928:=@fun W fms prot A n L ok hn=>
 @lk _ _ _ _ _ (sC ok eW (Cx.I.name (cH ok (@aW _ _ _ _ _ (cn ai (c1 ai))))) (fun ω h=>gI h) (bD fun ω ω ω ω ok=>dT) (bD fun ω ω ω ω ok=>(sk (FC ok (le hn)) (cn lc (cn (aG (aG lc lc) ai) (cn (aG (aG lc lc) ai) (cn (ta (sf (fZ ok (le hn)) (cn (aG (aG lc lc) ai) (c1 ai)))) (c1 (aG (aG lc lc) ai)))))))))
 (@l1 _ _ _ (@aA _ _ _ _ (sk (FK ok (le hn)) (c1 (lp lc (cF (cn (sk (Fy ok (le hn)) (cn ai (cn ai (cn ai (c1 (sk (jT ok (le hn)) (cn ai (cn ai (cn ai (cn ai (c1 ai))))))))))) (c1 (sk (Fp ok (le hn)) (c1 ai))))))))))
noncomputable def oZ:Fn:=aB 1 T928 ["classes"] []
theorem HJ {x:Cx}(ok:x.Ok) (hn:11<=x.n):x.C (.ref 928) (oZ):=
 aK @HI ["classes"] 1 (fun P=>b8 fun v0 S=>by kernel_rfl) ok hn
noncomputable def xu (P:Params):FdW P 838:=⟨_,by with_unfolding_all rfl⟩
noncomputable def HK (P:Params):aI P 838 (xu P):=⟨_,by with_unfolding_all rfl⟩
noncomputable def rJ (S:Option (Addr × List Int)):TS:=
 ao (fq (fun ω=>1) .arr [nN 1 (aU (an "cell") [] (bc (eV S (aa "script") (tK (.int 60)))) tTrue (af bAbs [af bInt [aa "cell"]])),tK (.int 0),af bSum [be (aU (an "cell") [] (bc (eV S (aa "script") (tK (.int 60)))) tTrue (aq (fun ω j=>j≠0) Int.fmod (af bAbs [af bInt [aa "cell"]]) (tK (.int 65521))))]])
theorem HL:So xu HK (0) fun W=>rJ (some (W.script,W.cells)):=@fun W fms prot A n L ok hn=>
 @l1 _ _ _ (@aA _ _ _ _ (qC (cn (sA ok jR (Cx.I.name (cH ok (lq (.inr rfl) lc ai))) (fun ω h=>gI h) (bD fun ω ω ω ω ok=>dT) (bD fun ω ω ω ω ok=>(sb oa nK (c1 (sb og uZ (c1 lc)))))) (cn ai (c1 (sb Dn (Cd ok) (c1 (sc ok jR (Cx.I.name (cH ok (lq (.inr rfl) lc ai))) (fun ω h=>gI h) (bD fun ω ω ω ω ok=>dT) (bD fun ω ω ω ω ok=>(lb (sb oa nK (c1 (sb og uZ (c1 lc)))) ai))))))))))
noncomputable def lM (S:Option (Addr × List Int)):Fn:=aB 1 (rJ S) ["script"] []
theorem HM {x:Cx}(ok:x.Ok) (hn:1<=x.n):x.C (.ref 838) (lM (some (x.W.script,x.W.cells))):=
 aK @HL ["script"] 1 (fun P=>b8 fun v0 S=>by kernel_rfl) ok hn
noncomputable def o5 (P:Params):FdW P 933:=⟨_,by with_unfolding_all rfl⟩
noncomputable def xv (P:Params):aI P 933 (o5 P):=⟨_,by with_unfolding_all rfl⟩
noncomputable def rK (S:Option (Addr × List Int)):TS:=
 ab (nS "jar" (af (lM S) [aa "script"]))
 (ab (aw "items" (be (aU (an "label") ["jar"] (ey [aq (fun ω ω=>True) (fun i j=>i+j) (tK (.int 1)) (af aY [aa "jar",tK (.int 6)])]) tTrue (af oX [aa "jar",aa "label"]))))
 (ab (bt [an "way",an "cut"] (aD [af aY [aa "jar",aq (fun ω ω=>True) (fun i j=>i+j) (af bLen [aa "items"]) (tK (.int 1))],af aY [aa "jar",tK (.int 4)]]))
 (ab (lj (bf (ag .Gt (aa "cut") (tK (.int 0))) (ag .Eq (au (au (aa "items") (aq (fun ω ω=>True) (fun i j=>i - j) (aa "cut") (tK (.int 1)))) (tK (.int 0))) (tK (.str "k")))) (ci "cut" (fun i j=>i - j) (tK (.int 1))))
 (ab (bt [an "rest",an "first"] (aD [eV none (aa "items") (aa "cut"),be (aU (an "item") [] (bc (iw none (aa "items") (aa "cut"))) (ag .NotEq (au (aa "item") (tK (.int 0))) (tK (.str "k"))) (aa "item"))]))
 (ab (ln [an "vsize",an "deep",lm "inner"] (aD [aq IntMulOk (fun i j=>i * j) (tK (.int 1000)) (aq (fun ω ω=>True) (fun i j=>i+j) (tK (.int 6)) (af aY [aa "jar",tK (.int 24)])),aq IntMulOk (fun i j=>i * j) (tK (.int 1000)) (af aY [aa "jar",tK (.int 4)]),aq IntMulOk (fun i j=>i * j) (tK (.int 1000)) (af aY [aa "jar",tK (.int 3)])]))
 (ab (bt [an "classes",an "top"] (aD [ae (af (bu 2) [af fF [aa "jar"],tK (.int 0)]) "glue",lA 1 2 (af j7 [aa "jar"]) (af j7 [aa "jar"])]))
 (ab (aw "table" (af oZ [aa "classes"]))
 (ab (bt [an "two",an "one"] (aD [eT jl (fun ω=>2) [aa "vsize",aa "deep"],eT jl (fun ω=>3) [aa "vsize",aa "deep"]]))
 (ab (aE (aF 829 cx (aa "two") [be (aU (an "item") ["inner"] (bc (aa "first")) tTrue (af (bu 2) [aa "item",aa "inner"]))]))
 (ab (aw "end" (af br [aa "two",aa "top",aa "table"]))
 (ab (aE (aF 829 cx (aa "one") [be (aU (an "item") ["inner"] (bc (aa "first")) tTrue (af (bu 2) [aa "item",aa "inner"]))]))
 (ab (ak (bf (ag .Eq (aa "way") (tK (.int 3))) (ag .NotEq (af br [aa "one",aa "top",aa "table"]) (aa "end"))) (ao (tK (.bool false))) tNil)
 (ab (aE (aF 829 cx (aa "one") [eB (af e7 [aa "way",aa "inner"]) (be (aU (an "item") ["inner"] (bc (aa "rest")) tTrue (af (bu 2) [aa "item",aa "inner"])))]))
 (ab (ak (ag .NotEq (aa "end") (aD [])) (ao (dD (aS (ag .Eq (aa "way") (tK (.int 3)))) (dg (aS (ag .Eq (af br [aa "one",aa "top",aa "table"]) (aa "end"))) (aS (ag .Eq (af bz [aa "one"]) (af bz [aa "two"])))))) tNil)
 (ab (bt [an "held",an "waits"] (aD [af (bJ 4) [ae (aa "one") "contributions"],af bz [aa "two"]]))
 (ab (aw "other" (bM (ag .Eq (aa "way") (tK (.int 3))) (af K258_5 [tK (.int 0),tK (.int 0),tK (.int 0),tK (.int 1),tK (.int 1)]) (aa "top")))
 (ab (aw "due" (af e8 [aa "way",ae (aa "two") "state",aa "two",aa "vsize",aa "rest"]))
 (ab (aw "ahead" (bB []))
 (ab (ak (bf (ag .Eq (aa "way") (tK (.int 3))) (ag .Eq (aa "due") (tK (.str "page")))) (ab (aw "at" (au (be (aU (dB [an "place",an "item"]) [] (j6 (aa "rest")) (ag .Eq (au (aa "item") (tK (.int 0))) (tK (.str "b"))) (aa "place"))) (tK (.int 0))))
 (ab (bt [an "rest",an "ahead"] (aD [eV none (aa "rest") (aa "at"),iw none (aa "rest") (aa "at")]))
 (ab (aE (aF 829 cx (aa "two") [be (aU (an "item") ["inner"] (bc (aa "ahead")) tTrue (af (bu 2) [aa "item",aa "inner"]))]))
 (ab (ak (ag .NotEq (af br [aa "two",aa "top",aa "table"]) (aD [])) (ao (tK (.bool false))) tNil)
 (bt [an "waits",an "held"] (aD [af bz [aa "two"],af (bJ 4) [be (aU (an "item") ["inner"] (bc (aa "rest")) tTrue (af (bu 2) [aa "item",aa "inner"]))]])))))) tNil)
 (ab (ak (ag .Eq (aa "due") (tK (.str ""))) (ab (ak (aV (ag .Eq (aa "way") (tK (.int 2))) (ag .Eq (aa "way") (tK (.int 3)))) (ao (tK (.bool true))) tNil)
 (ab (ak (ag .In (af br [aa "one",aa "other",aa "table"]) (aD [tK (.str "page"),tK (.str "box")])) (ao (tK (.bool false))) tNil)
 (ab (aE (aF 829 cx (aa "two") [be (aU (an "item") ["inner"] (bc (aa "rest")) tTrue (af (bu 2) [aa "item",aa "inner"]))]))
 (ab (aE (af br [aa "two",aa "top",aa "table"]))
 (ao (dD (aS (ag .Eq (aa "rest") (bB []))) (dg (aS (ag .Eq (af bz [aa "one"]) (af bz [aa "two"]))) (aS (ag .Eq (af (bJ 4) [ae (aa "one") "contributions"]) (af (bJ 4) [ae (aa "two") "contributions"])))))))))) tNil)
 (ab (aw "behind" (bM (ag .Eq (aa "way") (tK (.int 3))) (aa "waits") (af (bJ 4) [eB (af e7 [aa "way",aa "inner"]) (be (aU (an "item") ["inner"] (bc (aa "rest")) tTrue (af (bu 2) [aa "item",aa "inner"])))])))
 (ab (cG "turn" (ey [tK (.int 2)]) (ak (aV (ag .NotEq (af br [aa "one",aa "other",aa "table"]) (aa "due")) (aV (ag .NotEq (af bz [aa "one"]) (aa "held")) (ag .NotEq (af (bJ 4) [ae (aa "one") "contributions"]) (aa "behind")))) (ao (tK (.bool false))) tNil))
 (ab (ak (ag .Lt (aa "way") (tK (.int 3))) (aE (cj "list" (ae (aa "one") "contributions") bPop [tK (.int 0)])) tNil)
 (ab (aE (aF 829 cx (aa "two") [be (aU (an "item") ["inner"] (bc (aa "rest")) tTrue (af (bu 2) [aa "item",aa "inner"]))]))
 (ab (ak (aV (ag .NotEq (af br [aa "one",aa "top",aa "table"]) (af br [aa "two",aa "top",aa "table"])) (ag .NotEq (af bz [aa "one"]) (af bz [aa "two"]))) (ao (tK (.bool false))) tNil)
 (ao (aS (ag .Eq (af (bJ 4) [ae (aa "one") "contributions"]) (af (bJ 4) [ae (aa "two") "contributions"])))))))))))))))))))))))))))))
theorem HN:So o5 xv (17) fun W=>rK (some (W.script,W.cells)):=@fun W fms prot A n L ok hn=>
 @lk _ _ _ _ _ (Cz (sf (HM ok (le hn)) (c1 lc)))
 (@lk _ _ _ _ _ (sC ok eW (Cx.I.name (sr ok (c1 (bp ai (sf (b9 ok (le hn)) (cn lc (c1 ai))))))) (fun ω h=>gI h) (bD fun ω ω ω ω ok=>dT) (bD fun ω ω ω ω ok=>(sf (Hm ok (le hn)) (cn lc (c1 lc)))))
 (@lk _ _ _ _ _ (aR ok (@aW _ _ _ _ _ (cn (sf (b9 ok (le hn)) (cn lc (c1 (bp (sb eE ew (c1 lc)) ai)))) (c1 (sf (b9 ok (le hn)) (cn lc (c1 ai)))))) rfl (.cons gb (.cons gb .nil)))
 (@lk _ _ _ _ _ (uU ok jh (cE (am ok lc ai) (cN (am ok (aG (aG lc (dY lc ai)) ai) bP))) (@l1 _ _ _ (aN nF ai)))
 (@lk _ _ _ _ _ (aR ok (@aW _ _ _ _ _ (cn (lq (.inl rfl) lc lc) (c1 (sc ok jR (Cx.I.name (cH ok (vt (.inl rfl) lc lc))) (fun ω h=>gI h) (bD fun ω ω ω ω ok=>(qK (am ok (aG lc ai) bP))) (bD fun ω ω ω ω ok=>lc))))) rfl (.cons gb (.cons gb .nil)))
 (@lk _ _ _ _ _ (vp ok (@aW _ _ _ _ _ (cn (cq ai (bp ai (sf (b9 ok (le hn)) (cn lc (c1 ai))))) (cn (cq ai (sf (b9 ok (le hn)) (cn lc (c1 ai)))) (c1 (cq ai (sf (b9 ok (le hn)) (cn lc (c1 ai)))))))) (.cons gl (.cons gl (.cons CB .nil))))
 (@lk _ _ _ _ _ (aR ok (@aW _ _ _ _ _ (cn (ta (sf (fZ ok (le hn)) (cn (sf (oV ok (le hn)) (c1 lc)) (c1 ai)))) (c1 (sD ok (fun ok=>(sf (xh ok (le hn)) (c1 lc))) (fun ok=>(sf (xh ok (le hn)) (c1 lc))))))) rfl (.cons gb (.cons gb .nil)))
 (@lk _ _ _ _ _ (sa (sf (HJ ok (le hn)) (c1 lc)))
 (@lk _ _ _ _ _ (aR ok (@aW _ _ _ _ _ (cn (sR (wF ok (le hn)) (cn lc (c1 lc))) (c1 (sR (wF ok (le hn)) (cn lc (c1 lc)))))) rfl (.cons gb (.cons gb .nil)))
 (@lk _ _ _ _ _ (bI (sm lc (j0 ok (le hn)) (c1 (sc ok eW (Cx.I.name (cH ok lc)) (fun ω h=>gI h) (bD fun ω ω ω ω ok=>dT) (bD fun ω ω ω ω ok=>(sf (fZ ok (le hn)) (cn lc (c1 lc))))))))
 (@lk _ _ _ _ _ (sa (sf (gL ok (le hn)) (cn lc (cn lc (c1 lc)))))
 (@lk _ _ _ _ _ (bI (sm lc (j0 ok (le hn)) (c1 (sc ok eW (Cx.I.name (cH ok lc)) (fun ω h=>gI h) (bD fun ω ω ω ω ok=>dT) (bD fun ω ω ω ω ok=>(sf (fZ ok (le hn)) (cn lc (c1 lc))))))))
 (@lk _ _ _ _ _ (@ar _ _ _ _ _ _ _ _ (cE (am ok lc ai) (cN (am ok (sf (gL ok (le hn)) (cn lc (cn lc (c1 lc)))) lc))) (@l1 _ _ _ (aA jH)) av)
 (@lk _ _ _ _ _ (bI (sm lc (j0 ok (le hn)) (c1 (lp (sf (xq ok (le hn)) (cn lc (c1 lc))) (sc ok eW (Cx.I.name (cH ok lc)) (fun ω h=>gI h) (bD fun ω ω ω ω ok=>dT) (bD fun ω ω ω ω ok=>(sf (fZ ok (le hn)) (cn lc (c1 lc)))))))))
 (@lk _ _ _ _ _ (@ar _ _ _ _ _ _ _ _ (am ok lc (aW .nil)) (@l1 _ _ _ (@aA _ _ _ _ (ly (cX ok lc ai) (qW (jP (cX ok (sf (gL ok (le hn)) (cn lc (cn lc (c1 lc)))) lc) (nV (cX ok (sf (gM ok (le hn)) (c1 lc)) (sf (gM ok (le hn)) (c1 lc))))))))) av)
 (@lk _ _ _ _ _ (aR ok (@aW _ _ _ _ _ (cn (sf (gJ ok (le hn)) (c1 (ta lc))) (c1 (sf (gM ok (le hn)) (c1 lc))))) rfl (.cons gb (.cons gb .nil)))
 (@lk _ _ _ _ _ (sa (ch (am ok lc ai) (sk (jT ok (le hn)) (cn ai (cn ai (cn ai (cn ai (c1 ai)))))) lc))
 (@lk _ _ _ _ _ (sa (sf (HG ok (le hn)) (cn lc (cn (ta lc) (cn lc (cn lc (c1 lc)))))))
 (@lk _ _ _ _ _ (sa (cF .nil))
 (@lk _ _ _ _ _ (@ar _ _ _ _ _ _ _ _ (cE (am ok lc ai) (cN (am ok lc bP))) (@lk _ _ _ _ _ (sa (aG (sc ok jR (GO ok lc (by rfl)) (fun y hy=>qP hy.ok (.cons (gI hy) (.cons (gI hy) .nil))) (bD fun ω ω ω ω ok=>(qK (am ok (aG lc ai) bP))) (bD fun ω ω ω ω ok=>lc)) ai))
 (@lk _ _ _ _ _ (aR ok (@aW _ _ _ _ _ (cn (lq (.inl rfl) lc lc) (c1 (vt (.inl rfl) lc lc)))) rfl (.cons gb (.cons gb .nil)))
 (@lk _ _ _ _ _ (bI (sm lc (j0 ok (le hn)) (c1 (sc ok eW (Cx.I.name (cH ok lc)) (fun ω h=>gI h) (bD fun ω ω ω ω ok=>dT) (bD fun ω ω ω ω ok=>(sf (fZ ok (le hn)) (cn lc (c1 lc))))))))
 (@lk _ _ _ _ _ (@ar _ _ _ _ _ _ _ _ (am ok (sf (gL ok (le hn)) (cn lc (cn lc (c1 lc)))) (aW .nil)) (@l1 _ _ _ (aA jH)) av)
 (@l1 _ _ _ (aR ok (@aW _ _ _ _ _ (cn (sf (gM ok (le hn)) (c1 lc)) (c1 (sf (gJ ok (le hn)) (c1 (sc ok eW (Cx.I.name (cH ok lc)) (fun ω h=>gI h) (bD fun ω ω ω ω ok=>dT) (bD fun ω ω ω ω ok=>(sf (fZ ok (le hn)) (cn lc (c1 lc)))))))))) rfl (.cons gb (.cons gb .nil)))))))) av)
 (@lk _ _ _ _ _ (@ar _ _ _ _ _ _ _ _ (am ok lc bP) (@lk _ _ _ _ _ (@ar _ _ _ _ _ _ _ _ (bW (am ok lc ai) (ct (am ok lc ai))) (@l1 _ _ _ (aA jH)) av)
 (@lk _ _ _ _ _ (@ar _ _ _ _ _ _ _ _ (am ok (sf (gL ok (le hn)) (cn lc (cn lc (c1 lc)))) (@aW _ _ _ _ _ (cn bP (c1 bP)))) (@l1 _ _ _ (aA jH)) av)
 (@lk _ _ _ _ _ (bI (sm lc (j0 ok (le hn)) (c1 (sc ok eW (Cx.I.name (cH ok lc)) (fun ω h=>gI h) (bD fun ω ω ω ω ok=>dT) (bD fun ω ω ω ω ok=>(sf (fZ ok (le hn)) (cn lc (c1 lc))))))))
 (@lk _ _ _ _ _ (bI (sf (gL ok (le hn)) (cn lc (cn lc (c1 lc)))))
 (@l1 _ _ _ (@aA _ _ _ _ (ly (cX ok lc (cF .nil)) (qW (jP (cX ok (sf (gM ok (le hn)) (c1 lc)) (sf (gM ok (le hn)) (c1 lc))) (nV (cX ok (sf (gJ ok (le hn)) (c1 (ta lc))) (sf (gJ ok (le hn)) (c1 (ta lc)))))))))))))) av)
 (@lk _ _ _ _ _ (sa (ch (am ok lc ai) lc (sf (gJ ok (le hn)) (c1 (lp (sf (xq ok (le hn)) (cn lc (c1 lc))) (sc ok eW (Cx.I.name (cH ok lc)) (fun ω h=>gI h) (bD fun ω ω ω ω ok=>dT) (bD fun ω ω ω ω ok=>(sf (fZ ok (le hn)) (cn lc (c1 lc))))))))))
 (@lk _ _ _ _ _ (sF ok (sr ok (c1 ai)) (fun ok=>(@l1 _ _ _ (@ar _ _ _ _ _ _ _ _ (bW (am ok (sf (gL ok (le hn)) (cn lc (cn lc (c1 lc)))) lc) (bW (am ok (sf (gM ok (le hn)) (c1 lc)) lc) (ct (am ok (sf (gJ ok (le hn)) (c1 (ta lc))) lc)))) (@l1 _ _ _ (aA jH)) av))))
 (@lk _ _ _ _ _ (@ar _ _ _ _ _ _ _ _ (am ok lc ai) (@l1 _ _ _ (bI (sl F.slot_list_pop (ta lc) qO (c1 ai)))) av)
 (@lk _ _ _ _ _ (bI (sm lc (j0 ok (le hn)) (c1 (sc ok eW (Cx.I.name (cH ok lc)) (fun ω h=>gI h) (bD fun ω ω ω ω ok=>dT) (bD fun ω ω ω ω ok=>(sf (fZ ok (le hn)) (cn lc (c1 lc))))))))
 (@lk _ _ _ _ _ (@ar _ _ _ _ _ _ _ _ (bW (am ok (sf (gL ok (le hn)) (cn lc (cn lc (c1 lc)))) (sf (gL ok (le hn)) (cn lc (cn lc (c1 lc))))) (ct (am ok (sf (gM ok (le hn)) (c1 lc)) (sf (gM ok (le hn)) (c1 lc))))) (@l1 _ _ _ (aA jH)) av)
 (@l1 _ _ _ (@aA _ _ _ _ (cX ok (sf (gJ ok (le hn)) (c1 (ta lc))) (sf (gJ ok (le hn)) (c1 (ta lc)))))))))))))))))))))))))))))))
section
variable {n a1 a2 a3 a4 a5 a6 p1 p2 p3 p4 p5 p6 p0:String}{v u a b d o c u1 u2 u3 u4 u5 u6 w x1 x2 x3 x4 x5 x6 d1 x0 e:V}{l:aT}{k:V->Prop}{U:TS}{Q:(V->St->Prop)}{X w1:XP}{β α:Type}{T Ta Tl To Tv Ti Te:TE}{F:Fn}{D Tc:TB}{Ts:List TE}{m mh m0:MH}{r lo:List (String × V)}{C:Nat}{op op':CmpOp}{fs:List TgF}{f:Int->Int->Int}{i j:Int}{cap p ps:List String}{S:Option (Addr × List Int)}{us xs vs ys du:List V}{P:Int->Int->Prop}{mk:List V->MO}{g:TgF}{K:Fl->St->Prop}
theorem ax {l:List (String × V)}:(aj n v l).lookup n=some v:=by rw[bw,if_pos rfl]
theorem aX {k:String}{l:List (String × V)}(h:(k == n)=false):(aj n v l).lookup k=l.lookup k:=by rw[bw,if_neg (ne_of_beq_false h)]
theorem az {k:String}{l:List (String × V)}(h:(k == n)=false) (e:l.lookup k=some v):(aj n u l).lookup k=some v:=(aX h).trans e
set_option tactic.hygienic true in
theorem HO {Q:Fl->St->Prop}:cV U Q X=(fun f st=>match f with|.next=>U Q X st|f=>Q f st):=by
 funext b st;cases b<;>rfl
theorem HP {T F:Tr β}{Q:β->St->Prop}:cr T F Q X=(fun b st=>if b then T Q X st else F Q X st):=by
 funext b st;unfold cr;cases b<;>simp
theorem HQ {Q:Bool->St->Prop}:dK D Q X=(fun b st=>if b then D Q X st else Q false st):=by
 funext b st;unfold dK;cases b<;>simp
theorem HR {Q:List V->St->Prop}:gv (bh Ts) Q X=(fun v st=>bh Ts (fun vs st=>Q (v::vs) st) X st):=by
 rfl
@[simp] theorem HS:Fl.val (.ret v)=v:=rfl
@[simp] theorem NV:Fl.val .next=.none:=rfl
@[simp] theorem o6 {st:St}:st.put n v={ st with loc:=aj n v st.loc }:=rfl
@[simp] theorem rL:aj n v []=[(n,v)]:=rfl
theorem rM {m:String}:aj n v ((m,u)::r)=if m=n then(n,v)::r else(m,u)::aj n v r:=by
 by_cases h:m=n
 ·subst h;rw[aj,if_pos rfl,if_pos (beq_self_eq_true _)]
 ·rw[aj,if_neg h,if_neg (by rw[beq_iff_eq];exact h)]
@[simp] theorem NW:([]:List (String × V)).lookup n=none:=rfl
theorem lN {m:String}:((m,u)::r).lookup n=if n=m then some u else r.lookup n:=by
 by_cases h:n=m
 ·subst h;rw[V9,beq_self_eq_true,if_pos rfl]
 ·rw[V9,beq_eq_false_iff_ne.mpr h,if_neg h]
@[simp] theorem NX {m:String}(h:(n == m)=false):((m,u)::r).lookup n=r.lookup n:=by rw[lN,if_neg (ne_of_beq_false h)]
@[simp] theorem NY {a:α}{b:β}{l:List α}{m:List β}:(a::l).zip (b::m)=(a,b)::l.zip m:=rfl
@[simp] theorem NZ {a:α}{l m:List α}:(a::l)++m=a::(l++m):=rfl
@[simp] theorem N0 {m:List α}:[]++m=m:=rfl
@[simp] theorem Oa {a:α}{l:List α}:(a::l).length=l.length+1:=rfl
@[simp] theorem Ob:([]:List α).length=0:=rfl
set_option tactic.hygienic true in
theorem cP {T:TS}{Q:(Fl->St->Prop)}{st:St}:ab T U Q X st=(T (fun f st=>match f with|.next=>U Q X st|f=>Q f st) X st):=by rw[<- HO];rfl
theorem j8 {C:TB}{T F:TS}{Q:(Fl->St->Prop)}{st:St}:ak C T F Q X st=(C (fun b st=>if b then T Q X st else F Q X st) X st):=by rw[<- HP (T:=T) (F:=F)];rfl
theorem rN {Tb:TE}{st:St}:dD Ta Tb Q X st=(Ta (fun v st=>match v with|.bool b=>if b then Q (.bool true) st else Tb Q X st|_=>False) X st):=rfl
theorem xw {Tb:TE}{st:St}:dg Ta Tb Q X st=(Ta (fun v st=>match v with|.bool b=>if b then Tb Q X st else Q (.bool false) st|_=>False) X st):=rfl
theorem HT {C:TB}{Q:(Bool->St->Prop)}{st:St}:bf C D Q X st=(C (fun b st=>if b then D Q X st else Q false st) X st):=by rw[<- HQ];rfl
theorem lO {Tr:TE}{Q:(Bool->St->Prop)}{st:St}:ag op Tl Tr Q X st=(Tl (fun a st=>Tr (fun b st=>bq st.mh op a b fun r=>Q r st) X st) X st):=rfl
theorem jn {T:TB}{st:St}:aS T Q X st=(T (fun b st=>Q (.bool b) st) X st):=rfl
theorem iH {k:Bool->Prop}:bq mh op a b k=(match op with
|.Lt=>(match a,b with|.int i,.int j=>k (decide (i < j))|_,_=>False)
|.LtE=>(match a,b with|.int i,.int j=>k (decide (i<=j))|_,_=>False)
|.Gt=>(match a,b with|.int i,.int j=>k (decide (i > j))|_,_=>False)
|.GtE=>(match a,b with|.int i,.int j=>k (decide (i>=j))|_,_=>False)
|.Eq=>bv mh a b k
|.NotEq=>bv mh a b fun r=>k (!r)
|.Is=>(match b with|.none=>cO a k|_=>False)
|.IsNot=>(match b with|.none=>cO a fun r=>k (!r)|_=>False)
|.In=>cW a b k
|.NotIn=>cW a b fun r=>k (!r)):=Eq.trans rfl rfl
theorem jo {st:St}:af F Ts Q X st=(bh Ts (fun us st=>F us (fun v mh=>Q v { st with mh:=mh }) X st.mh) X st):=qE
theorem o7 {st:St}:aF C F To Ts Q X st=(To (fun o st=>d8 st.mh o (fun C' ω=>C'=C/\bh Ts (fun us st=>F (o::us) (fun v mh=>Q v { st with mh:=mh }) X st.mh) X st)) X st):=rfl
theorem cI {st:St}:aa n Q w1 st=(match st.loc.lookup n with|some v=>Q v st|none=>False):=qu
@[simp ↓] theorem cQ {st:St}:tK v Q w1 st=(Q v st):=rfl
@[simp ↓] theorem Oc {w0:(β->St->Prop)}{w2:St}:(tNo:Tr β) w0 w1 w2=(False):=rfl
@[simp ↓] theorem xx {Q:(Fl->St->Prop)}{st:St}:tNil Q w1 st=(Q .next st):=rfl
theorem rO {Q:(Fl->St->Prop)}{st:St}:ao T Q X st=(T (fun v st=>Q (.ret v) st) X st):=rfl
@[simp ↓] theorem Od {Q:(Fl->St->Prop)}{st:St}:tRet0 Q X st=(Q (.ret .none) st):=rfl
theorem rP {Q:(Fl->St->Prop)}{st:St}:aE T Q X st=(T (fun ω st=>Q .next st) X st):=rfl
theorem iI {Q:(Fl->St->Prop)}{st:St}:aw n T Q X st=(T (fun v st=>Q .next (st.put n v)) X st):=rfl
theorem rR {Q:(Fl->St->Prop)}{st:St}:bt fs T Q X st=(T (fun v st=>match v with|.tup us=>us.length=fs.length/\dA fs us.reverse st fun st'=>Q .next st'|_=>False) X st):=rfl
theorem HU {st:St}{k:(St->Prop)}:dB fs u st k=(match u with|.tup us=>us.length=fs.length/\dA fs us st k|_=>False):=rfl
theorem e9 {st:St}{k:(St->Prop)}:an n u st k=(k (st.put n u)):=rfl
theorem HV {Q:(Fl->St->Prop)}{st:St}:ci n f Tv Q X st=(match st.loc.lookup n with
|some (.int i)=>Tv (fun v st=>match v with|.int j=>Q .next (st.put n (.int (f i j)))|_=>False) X st
|_=>False):=Eq.trans rfl rfl
theorem xy {st:St}:au To Ti Q X st=(To (fun v st=>Ti (fun i st=>bY st.mh v i fun u=>Q u st) X st) X st):=rfl
theorem j9 {i:V}:bY mh v i k=(match v,i with
|.tup xs,.int j=>b5 xs j k
|.lst xs,.int j=>b5 xs j k
|.dct fs,.int j=>(match fs.lookup j with|some u=>k u|none=>False)
|.ref l,.int j=>(match mh.m l with
  |some (.list xs)=>b5 xs j k
  |some (.arr xs)=>b5 xs j k
  |some (.dict fs)=>(match fs.lookup j with|some u=>k u|none=>False)
  |_=>False)
|_,_=>False):=Eq.trans rfl rfl
theorem o8 {st:St}:ae T n Q X st=(T (fun v st=>bH st.mh v n fun u=>Q u st) X st):=rfl
theorem jp {st:St}:aD Ts Q X st=(bh Ts (fun vs st=>vs.length<=10000/\Q (.tup vs) st) X st):=rfl
theorem xz {st:St}:bB Ts Q X st=(bh Ts (fun vs st=>vs.length<=10000/\Q (.lst vs) st) X st):=rfl
@[simp ↓] theorem Oe {r:St->Nat}{st:St}:nT r Q X st=(Q (.ref (r st,st.mh.nx (r st))) { st with mh:=st.mh.new (r st) (.dict []) }):=rfl
theorem HW {Tr:TE}{st:St}:eB Tl Tr Q X st=(Tl (fun a st=>Tr (fun b st=>match a,b with
|.lst xs,.lst ys=>xs.length+ys.length<=10000/\Q (.lst (xs++ys)) st
|.tup xs,.tup ys=>xs≠[]/\ys≠[]/\xs.length+ys.length<=10000/\Q (.tup (xs++ys)) st
|_,_=>False) X st) X st):=Eq.trans rfl rfl
theorem kc {T:TI}{Tb:TS}{Q:(Fl->St->Prop)}{st:St}:cG n T Tb Q X st=(T (fun b st=>ck b.2 n Tb b.1 Q X st) X st):=rfl
theorem gN {Q:((List V × (MH->Prop))->St->Prop)}{st:St}:bc T Q X st=(T (fun v st=>d9 st.mh v fun xs chk=>Q (xs,chk) st) X st):=rfl
theorem HY {k:List V->(MH->Prop)->Prop}:d9 mh v k=(match v with
|.lst xs=>k xs fun ω=>True
|.tup xs=>k xs fun ω=>True
|.ref l=>(match mh.m l with
  |some (.list xs)=>k xs fun mh'=>mh'.m l=some (.list xs)
  |_=>False)
|_=>False):=Eq.trans rfl rfl
theorem HZ {Q:((List V × (MH->Prop))->St->Prop)}{st:St}:ey Ts Q X st=(bh Ts (fun us st=>match us with|[.int n]=>0<=n/\n<=1000000/\Q (jN n,fun ω=>True) st|_=>False) X st):=rfl
theorem ke {T:Tr (List V)}{st:St}:be T Q X st=(T (fun us st=>Q (.lst us) st) X st):=rfl
theorem kf {f:TgF}{T:TI}{Q:((List V)->St->Prop)}{st:St}:aU f cap T Tc Te Q X st=(T (fun b st1=>fv b.2 f (df cap st1) Tc Te b.1 [] Q st1) X st):=rfl
theorem H0 {st:St}:eV S To Te Q X st=(To (fun v st=>Te (fun i st=>match i with
|.int j=>0<=j/\gB S v fun us=>Q (.lst (us.take j.toNat)) st
|_=>False) X st) X st):=Eq.trans rfl rfl
theorem H1 {st:St}:iw S To Te Q X st=(To (fun v st=>Te (fun i st=>match i with
|.int j=>0<=j/\gB S v fun us=>Q (.lst (us.drop j.toNat)) st
|_=>False) X st) X st):=Eq.trans rfl rfl
theorem xA {k:List V->Prop}:gB S v k=(match v with
|.lst xs=>xs.length<=10000/\k xs
|.cst w=>(match S with|some (a,ns)=>w=.ref a/\k (ns.map .int)|none=>False)
|_=>False):=Eq.trans rfl rfl
theorem H2 {Tr:TE}{Q:(Bool->St->Prop)}{st:St}:qQ Tl Tr Q X st=(Tl (fun a st=>Tr (fun b st=>match a with
|.int j=>gy st.mh b fun fs=>Q (fs.lookup j).isSome st
|_=>False) X st) X st):=Eq.trans rfl rfl
theorem lP {k:List (Int × V)->Prop}:gy mh v k=(match v with
|.dct fs=>k fs
|.ref l=>(match mh.m l with|some (.dict fs)=>k fs|_=>False)
|_=>False):=Eq.trans rfl rfl
theorem o9 {Q:(V->MH->Prop)}:bGet us Q X mh=(match us with
|[d,.int j]=>gy mh d fun fs=>Q ((fs.lookup j).getD .none) mh
|_=>False):=Eq.trans rfl rfl
theorem H3 {C1 C2:Nat}{s1 s2:String}{Tb:TS}{Q:(Fl->St->Prop)}{st:St}:qT C1 C2 s1 s2 Tb Q X st=(Tb Q (qS C1 C2 s1 s2 Q) st):=rfl
theorem H4 {Q:((List V × (MH->Prop))->St->Prop)}{st:St}:oQ T Q X st=(T (fun v st=>match v with|.lst xs=>xs.all V.isTup=true/\Q (xs,fun ω=>True) st|_=>False) X st):=rfl
theorem H5 {Q:((List V × (MH->Prop))->St->Prop)}{st:St}:j6 T Q X st=(T (fun v st=>match v with|.lst xs=>Q (iD xs,fun ω=>True) st|_=>False) X st):=rfl
theorem H6 {st:St}:oP To Q X st=(To (fun v st=>match v with
|.ref l=>(match st.mh.m l with|some (.dict es)=>es.length<=2/\Q (.lst ((eG es).map fX)) st|_=>False)
|_=>False) X st):=Eq.trans rfl rfl
theorem H7 {st:St}{k:(St->Prop)}:lm n u st k=(match st.pend with|m::rest=>m=n/\k { loc:=aj n u st.loc,pend:=rest,mh:=st.mh }|[]=>False):=rfl
theorem xB {k1 k2:Int}{T1 T2:TE}{st:St}:lA k1 k2 T1 T2 Q X st=(T1 (fun a st=>T2 (fun b st=>Q (.dct [(k1,a),(k2,b)]) st) X st) X st):=rfl
noncomputable def kQ {α:Type}(Q:α->St->Prop) (st:St):α->Prop:=fun r=>Q r st
@[simp ↓] theorem Of {Q:α->St->Prop}{st:St}{r:α}:kQ Q st r=Q r st:=rfl
@[simp ↓] theorem xC {T:TS}{Q:(Fl->St->Prop)}{st:St}:ab T U Q X st=T (cV U Q X) X st:=rfl
@[simp ↓] theorem eI {Q:(Fl->St->Prop)}{st:St}:cV U Q X .next st=U Q X st:=rfl
@[simp ↓] theorem rS {Q:(Fl->St->Prop)}{st:St}:cV U Q X (.ret v) st=Q (.ret v) st:=rfl
@[simp ↓] theorem Og {C:TB}{T F:TS}{Q:(Fl->St->Prop)}{st:St}:ak C T F Q X st=C (cr T F Q X) X st:=rfl
@[simp ↓] theorem Oh {C:TB}{F:TE}{st:St}:bM C T F Q X st=C (cr T F Q X) X st:=rfl
@[simp ↓] theorem pb {T F:Tr β}{Q:β->St->Prop}{b:Bool}{st:St}:cr T F Q X b st=if b=true then T Q X st else F Q X st:=by unfold cr;cases b<;>simp
noncomputable def lQ (Tb:TE) (Q:V->St->Prop) (X:XP):V->St->Prop:=fun v st=>match v with|.bool b=>@ite Prop (b=true) (Classical.propDecidable _) (Q (.bool true) st) (Tb Q X st)|_=>False
set_option tactic.hygienic true in
@[simp ↓] theorem Oi {Tb:TE}{st:St}:dD Ta Tb Q X st=Ta (lQ Tb Q X) X st:=by
 have e:(fun v st=>match v with|.bool b=>if b then Q (.bool true) st else Tb Q X st|_=>False:V->St->Prop)=lQ Tb Q X:=by
  funext v st;unfold lQ;cases v<;>try rfl
  rename_i b;cases b<;>simp
 rw[<- e];rfl
@[simp ↓] theorem Oj {Tb:TE}{b:Bool}{st:St}:lQ Tb Q X (.bool b) st=if b=true then Q (.bool true) st else Tb Q X st:=by unfold lQ;cases b<;>simp
noncomputable def lR (Tb:TE) (Q:V->St->Prop) (X:XP):V->St->Prop:=fun v st=>match v with|.bool b=>@ite Prop (b=true) (Classical.propDecidable _) (Tb Q X st) (Q (.bool false) st)|_=>False
set_option tactic.hygienic true in
@[simp ↓] theorem Ol {Tb:TE}{st:St}:dg Ta Tb Q X st=Ta (lR Tb Q X) X st:=by
 have e:(fun v st=>match v with|.bool b=>if b then Tb Q X st else Q (.bool false) st|_=>False:V->St->Prop)=lR Tb Q X:=by
  funext v st;unfold lR;cases v<;>try rfl
  rename_i b;cases b<;>simp
 rw[<- e];rfl
@[simp ↓] theorem Om {Tb:TE}{b:Bool}{st:St}:lR Tb Q X (.bool b) st=if b=true then Tb Q X st else Q (.bool false) st:=by unfold lR;cases b<;>simp
@[simp ↓] theorem On {C:TB}{Q:(Bool->St->Prop)}{st:St}:aV C D Q X st=C (dZ D Q X) X st:=rfl
@[simp ↓] theorem xD {Q:(Bool->St->Prop)}{b:Bool}{st:St}:dZ D Q X b st=if b=true then Q true st else D Q X st:=by unfold dZ;cases b<;>simp
@[simp ↓] theorem Oo {C:TB}{Q:(Bool->St->Prop)}{st:St}:bf C D Q X st=C (dK D Q X) X st:=rfl
@[simp ↓] theorem xE {Q:(Bool->St->Prop)}{b:Bool}{st:St}:dK D Q X b st=if b=true then D Q X st else Q false st:=by unfold dK;cases b<;>simp
noncomputable def xG (Q:Bool->St->Prop):Bool->St->Prop:=fun b st=>Q (!b) st
@[simp ↓] theorem Op {C:TB}{Q:(Bool->St->Prop)}{st:St}:b7 C Q X st=C (xG Q) X st:=rfl
@[simp ↓] theorem Oq {Q:(Bool->St->Prop)}{b:Bool}{st:St}:xG Q b st=Q (!b) st:=rfl
noncomputable def rT (Q:V->St->Prop) (st:St):Bool->Prop:=fun b=>Q (.bool (!b)) st
noncomputable def xH (Q:V->St->Prop):V->St->Prop:=fun v st=>fp v (rT Q st)
@[simp ↓] theorem Os {st:St}:nU T Q X st=T (xH Q) X st:=rfl
@[simp ↓] theorem Ot {st:St}:xH Q v st=fp v (rT Q st):=rfl
@[simp ↓] theorem Ou {b:Bool}{st:St}:rT Q st b=Q (.bool (!b)) st:=rfl
noncomputable def pd (op':CmpOp) (Q:Bool->St->Prop) (b:V):V->St->Prop:=fun d st=>bq st.mh op' b d (kQ Q st)
noncomputable def pf (op':CmpOp) (Tr:TE) (Q:Bool->St->Prop) (X:XP) (b:V) (st:St):Bool->Prop:=fun r=>if r then Tr (pd op' Q b) X st else Q false st
noncomputable def ph (op op':CmpOp) (Tr:TE) (Q:Bool->St->Prop) (X:XP) (a:V):V->St->Prop:=fun b st=>bq st.mh op a b (pf op' Tr Q X b st)
noncomputable def xI (op op':CmpOp) (Tm Tr:TE) (Q:Bool->St->Prop) (X:XP):V->St->Prop:=fun a st=>Tm (ph op op' Tr Q X a) X st
@[simp ↓] theorem Ov {Tm Tr:TE}{Q:(Bool->St->Prop)}{st:St}:ik op op' Tl Tm Tr Q X st=Tl (xI op op' Tm Tr Q X) X st:=rfl
@[simp ↓] theorem Ow {Tm Tr:TE}{Q:(Bool->St->Prop)}{st:St}:xI op op' Tm Tr Q X a st=Tm (ph op op' Tr Q X a) X st:=rfl
@[simp ↓] theorem Ox {Tr:TE}{Q:(Bool->St->Prop)}{st:St}:ph op op' Tr Q X a b st=bq st.mh op a b (pf op' Tr Q X b st):=rfl
@[simp ↓ 2000] theorem Oy {Tr:TE}{Q:(Bool->St->Prop)}:ph op op' Tr Q X a b ⟨lo,p,m⟩=bq m op a b (pf op' Tr Q X b ⟨lo,p,m⟩):=rfl
@[simp ↓] theorem Oz {Tr:TE}{r:Bool}{Q:(Bool->St->Prop)}{st:St}:pf op' Tr Q X b st r=if r=true then Tr (pd op' Q b) X st else Q false st:=rfl
@[simp ↓] theorem OA {Q:(Bool->St->Prop)}{st:St}:pd op' Q b d st=bq st.mh op' b d (kQ Q st):=rfl
@[simp ↓ 2000] theorem OB {Q:(Bool->St->Prop)}:pd op' Q b d ⟨lo,p,m⟩=bq m op' b d (kQ Q ⟨lo,p,m⟩):=rfl
noncomputable def fb (op:CmpOp) (Q:Bool->St->Prop) (a:V):V->St->Prop:=fun b st=>bq st.mh op a b (kQ Q st)
noncomputable def xJ (op:CmpOp) (Tr:TE) (Q:Bool->St->Prop) (X:XP):V->St->Prop:=fun a st=>Tr (fb op Q a) X st
@[simp ↓] theorem pi {Tr:TE}{Q:(Bool->St->Prop)}{st:St}:ag op Tl Tr Q X st=Tl (xJ op Tr Q X) X st:=rfl
@[simp ↓] theorem xK {Tr:TE}{Q:(Bool->St->Prop)}{st:St}:xJ op Tr Q X a st=Tr (fb op Q a) X st:=rfl
noncomputable def xL (Q:V->St->Prop):Bool->St->Prop:=fun b st=>Q (.bool b) st
@[simp ↓] theorem OC {T:TB}{st:St}:aS T Q X st=T (xL Q) X st:=rfl
@[simp ↓] theorem OD {b:Bool}{st:St}:xL Q b st=Q (.bool b) st:=rfl
noncomputable def kN (k:Bool->Prop):Bool->Prop:=fun r=>k (!r)
@[simp ↓] theorem OE {k:Bool->Prop}{r:Bool}:kN k r=k (!r):=rfl
@[simp ↓] theorem OF {k:Bool->Prop}:bq mh .Lt (.int i) (.int j) k=k (decide (i < j)):=rfl
@[simp ↓] theorem OG {k:Bool->Prop}:bq mh .LtE (.int i) (.int j) k=k (decide (i<=j)):=rfl
@[simp ↓] theorem OH {k:Bool->Prop}:bq mh .Gt (.int i) (.int j) k=k (decide (i > j)):=rfl
@[simp ↓] theorem OI {k:Bool->Prop}:bq mh .GtE (.int i) (.int j) k=k (decide (i>=j)):=rfl
@[simp ↓] theorem kg {k:Bool->Prop}:bq mh .Eq a b k=bv mh a b k:=rfl
@[simp ↓] theorem OJ {k:Bool->Prop}:bq mh .NotEq a b k=bv mh a b (kN k):=rfl
@[simp ↓] theorem OK {k:Bool->Prop}:bq mh .Is a .none k=cO a k:=rfl
@[simp ↓] theorem OL {k:Bool->Prop}:bq mh .IsNot a .none k=cO a (kN k):=rfl
@[simp ↓] theorem OM {k:Bool->Prop}:bq mh .In a b k=cW a b k:=rfl
@[simp ↓] theorem ON {k:Bool->Prop}:bq mh .NotIn a b k=cW a b (kN k):=rfl
@[simp ↓] theorem OO {k:Bool->Prop}:cO .none k=k true:=rfl
@[simp ↓] theorem OP {b:Bool}{k:Bool->Prop}:cO (.bool b) k=k false:=rfl
@[simp ↓] theorem OQ {k:Bool->Prop}:cO (.int i) k=k false:=rfl
@[simp ↓] theorem OR {s:String}{k:Bool->Prop}:cO (.str s) k=k false:=rfl
@[simp ↓] theorem OS {k:Bool->Prop}:cO (.tup xs) k=k false:=rfl
@[simp ↓] theorem OT {k:Bool->Prop}:cO (.lst xs) k=k false:=rfl
@[simp ↓] theorem OU {fs:List (String × V)}{k:Bool->Prop}:cO (.obj C fs) k=k false:=rfl
@[simp ↓] theorem OV {es:List (Int × V)}{k:Bool->Prop}:cO (.dct es) k=k false:=rfl
@[simp ↓] theorem OW {k:Bool->Prop}:cO (.ref l) k=k false:=rfl
noncomputable def xM (Q:V->St->Prop):V->St->Prop:=fun a st=>match a with|.int i=>Q (.int (-i)) st|_=>False
@[simp ↓] theorem OX {st:St}:cD T Q X st=T (xM Q) X st:=rfl
@[simp ↓] theorem OY {st:St}:xM Q (.int i) st=Q (.int (-i)) st:=rfl
noncomputable def xN (Q:Bool->St->Prop):V->St->Prop:=fun a st=>fp a (kQ Q st)
@[simp ↓] theorem OZ {Q:(Bool->St->Prop)}{st:St}:bj T Q X st=T (xN Q) X st:=rfl
@[simp ↓] theorem O0 {Q:(Bool->St->Prop)}{st:St}:xN Q a st=fp a (kQ Q st):=rfl
@[simp ↓] theorem kh {l:List (String × V)}:dM Q ⟨l,p,m⟩ v mh=Q v ⟨l,p,mh⟩:=rfl
@[simp ↓] theorem O1 {st:St}:af F Ts Q X st=bh Ts (eS F Q X) X st:=rfl
@[simp ↓] theorem O2 {F:Nat->Fn}{r:St->Nat}{st:St}:eT F r Ts Q X st=bh Ts (eS (F (r st)) Q X) X st:=rfl
@[simp ↓] theorem H8 {st:St}:eS F Q X us st=F us (dM Q st) X st.mh:=rfl
@[simp ↓ 2000] theorem O3:eS F Q X us ⟨lo,p,m⟩=F us (dM Q ⟨lo,p,m⟩) X m:=rfl
noncomputable def gO (F:Fn) (Q:V->St->Prop) (X:XP) (o:V):List V->St->Prop:=fun us st=>F (o::us) (dM Q st) X st.mh
noncomputable def lS (C:Nat) (F:Fn) (Ts:List TE) (Q:V->St->Prop) (X:XP) (o:V) (st:St):Nat->List (String × V)->Prop:=fun C' ω=>C'=C/\bh Ts (gO F Q X o) X st
noncomputable def pj (C:Nat) (F:Fn) (Ts:List TE) (Q:V->St->Prop) (X:XP):V->St->Prop:=fun o st=>d8 st.mh o (lS C F Ts Q X o st)
@[simp ↓] theorem O4 {st:St}:aF C F To Ts Q X st=To (pj C F Ts Q X) X st:=rfl
@[simp ↓] theorem H9 {st:St}:pj C F Ts Q X o st=d8 st.mh o (lS C F Ts Q X o st):=rfl
@[simp ↓ 2000] theorem O5:pj C F Ts Q X o ⟨lo,p,m⟩=d8 m o (lS C F Ts Q X o ⟨lo,p,m⟩):=rfl
@[simp ↓] theorem O6 {C':Nat}{fs:List (String × V)}{st:St}:lS C F Ts Q X o st C' fs=(C'=C/\bh Ts (gO F Q X o) X st):=rfl
@[simp ↓] theorem O7 {st:St}:gO F Q X o us st=F (o::us) (dM Q st) X st.mh:=rfl
@[simp ↓ 2000] theorem O8:gO F Q X o us ⟨lo,p,m⟩=F (o::us) (dM Q ⟨lo,p,m⟩) X m:=rfl
noncomputable def fG (o:Option V) (Q:V->St->Prop) (st:St):Prop:=match o with|some v=>Q v st|none=>False
@[simp] theorem lT {st:St}:aa n Q X st=fG (st.loc.lookup n) Q st:=qu
@[simp ↓] theorem pk {st:St}:fG (some v) Q st=Q v st:=rfl
@[simp ↓] theorem O9 {st:St}:fG none Q st=False:=rfl
noncomputable def kR (Q:Fl->St->Prop):V->St->Prop:=fun v st=>Q (.ret v) st
@[simp ↓] theorem Pa {Q:(Fl->St->Prop)}{st:St}:ao T Q X st=T (kR Q) X st:=Eq.trans rfl rfl
@[simp ↓] theorem Ia {Q:(Fl->St->Prop)}{st:St}:kR Q v st=Q (.ret v) st:=rfl
noncomputable def pm (Q:Fl->St->Prop):V->St->Prop:=fun ω st=>Q .next st
@[simp ↓] theorem Pb {Q:(Fl->St->Prop)}{st:St}:aE T Q X st=T (pm Q) X st:=Eq.trans rfl rfl
@[simp ↓] theorem Ib {Q:(Fl->St->Prop)}{st:St}:pm Q v st=Q .next st:=rfl
noncomputable def pn (P:Int->Int->Prop) (f:Int->Int->Int) (Q:V->St->Prop) (a:V):V->St->Prop:=fun b st=>match a,b with|.int i,.int j=>P i j/\Q (.int (f i j)) st|_,_=>False
noncomputable def xO (P:Int->Int->Prop) (f:Int->Int->Int) (Tr:TE) (Q:V->St->Prop) (X:XP):V->St->Prop:=fun a st=>Tr (pn P f Q a) X st
@[simp ↓] theorem Ic {Tr:TE}{st:St}:aq P f Tl Tr Q X st=Tl (xO P f Tr Q X) X st:=rfl
@[simp ↓] theorem Id {Tr:TE}{st:St}:xO P f Tr Q X a st=Tr (pn P f Q a) X st:=rfl
@[simp ↓] theorem xP {st:St}:pn P f Q (.int i) (.int j) st=(P i j/\Q (.int (f i j)) st):=rfl
noncomputable def rU (n:String) (Q:Fl->St->Prop):V->St->Prop:=fun v st=>Q .next (st.put n v)
@[simp ↓] theorem Pc {Q:(Fl->St->Prop)}{st:St}:aw n T Q X st=T (rU n Q) X st:=Eq.trans rfl rfl
@[simp ↓] theorem xQ {Q:(Fl->St->Prop)}{l:List (String × V)}:rU n Q v ⟨l,p,m⟩=Q .next ⟨aj n v l,p,m⟩:=rfl
noncomputable def iJ (Q:Fl->St->Prop):St->Prop:=fun st=>Q .next st
@[simp ↓] theorem Pd {Q:(Fl->St->Prop)}{st:St}:iJ Q st=Q .next st:=rfl
noncomputable def lU (fs:List TgF) (Q:Fl->St->Prop):V->St->Prop:=fun v st=>match v with|.tup us=>us.length=fs.length/\dA fs us.reverse st (iJ Q)|_=>False
@[simp ↓] theorem Pe {Q:(Fl->St->Prop)}{st:St}:bt fs T Q X st=T (lU fs Q) X st:=rfl
@[simp ↓] theorem Ie {Q:(Fl->St->Prop)}{st:St}:lU fs Q (.tup us) st=(us.length=fs.length/\dA fs us.reverse st (iJ Q)):=rfl
noncomputable def xR (fs:List TgF) (Q:Fl->St->Prop):V->St->Prop:=fun v st=>dB fs v st (iJ Q)
@[simp ↓] theorem Pf {Q:(Fl->St->Prop)}{st:St}:ln fs T Q X st=T (xR fs Q) X st:=rfl
@[simp ↓] theorem Ph {Q:(Fl->St->Prop)}{st:St}:xR fs Q v st=dB fs v st (iJ Q):=rfl
@[simp ↓] theorem Ig {st:St}{k:St->Prop}:dB fs (.tup us) st k=(us.length=fs.length/\dA fs us st k):=rfl
@[simp ↓] theorem xS {l:List (String × V)}{k:St->Prop}:an n u ⟨l,p,m⟩ k=k ⟨aj n u l,p,m⟩:=rfl
noncomputable def kG (fs:List TgF) (us:List V) (k:St->Prop):St->Prop:=fun st'=>dA fs us st' k
@[simp ↓] theorem Pi {f:TgF}{st:St}{k:St->Prop}:dA (f::fs) (u::us) st k=f u st (kG fs us k):=rfl
@[simp ↓] theorem Pj {st:St}{k:St->Prop}:kG fs us k st=dA fs us st k:=rfl
noncomputable def rV (n:String) (f:Int->Int->Int) (Q:Fl->St->Prop) (i:Int):V->St->Prop:=fun v st=>match v with|.int j=>Q .next (st.put n (.int (f i j)))|_=>False
noncomputable def xT (n:String) (f:Int->Int->Int) (Tv:TE) (Q:Fl->St->Prop) (X:XP) (o:Option V) (st:St):Prop:=match o with|some (.int i)=>Tv (rV n f Q i) X st|_=>False
@[simp ↓] theorem Pk {Q:(Fl->St->Prop)}{st:St}:ci n f Tv Q X st=xT n f Tv Q X (st.loc.lookup n) st:=rfl
@[simp ↓] theorem Pl {Q:(Fl->St->Prop)}{st:St}:xT n f Tv Q X (some (.int i)) st=Tv (rV n f Q i) X st:=rfl
@[simp ↓] theorem Pn {Q:(Fl->St->Prop)}{l:List (String × V)}:rV n f Q i (.int j) ⟨l,p,m⟩=Q .next ⟨aj n (.int (f i j)) l,p,m⟩:=rfl
noncomputable def iK (C:Nat) (n:String) (Q:Fl->St->Prop) (v:V) (l:aT) (st:St) (o:Option MO):Prop:=match o with|some (.inst C' fs)=>C'=C/\fs.length<=800/\Q .next { st with mh:=st.mh.set l (.inst C (aj n v fs)) }|_=>False
noncomputable def dF (C:Nat) (n:String) (Q:Fl->St->Prop) (v:V):V->St->Prop:=fun o st=>match o with|.ref l=>iK C n Q v l st (st.mh.m l)|_=>False
noncomputable def xU (C:Nat) (n:String) (To:TE) (Q:Fl->St->Prop) (X:XP):V->St->Prop:=fun v st=>To (dF C n Q v) X st
@[simp ↓] theorem Pp {Q:(Fl->St->Prop)}{st:St}:ay C n To Tv Q X st=Tv (xU C n To Q X) X st:=rfl
@[simp ↓] theorem Pq {Q:(Fl->St->Prop)}{st:St}:xU C n To Q X v st=To (dF C n Q v) X st:=rfl
@[simp ↓] theorem xV {Q:(Fl->St->Prop)}{st:St}:dF C n Q v (.ref l) st=iK C n Q v l st (st.mh.m l):=rfl
@[simp ↓ 2000] theorem Pr {Q:(Fl->St->Prop)}:dF C n Q v (.ref l) ⟨lo,p,m⟩=iK C n Q v l ⟨lo,p,m⟩ (m.m l):=rfl
@[simp ↓] theorem xW {C':Nat}{fs:List (String × V)}{Q:(Fl->St->Prop)}:iK C n Q v l ⟨lo,p,m⟩ (some (.inst C' fs))=(C'=C/\fs.length<=800/\Q .next ⟨lo,p,m.set l (.inst C (aj n v fs))⟩):=rfl
noncomputable def iL (C:Nat) (n:String) (f:Int->Int->Int) (Q:Fl->St->Prop) (o old:V):V->St->Prop:=fun v st=>match o,old,v with|.ref l,.int i,.int j=>iK C n Q (.int (f i j)) l st (st.mh.m l)|_,_,_=>False
noncomputable def lV (C:Nat) (n:String) (f:Int->Int->Int) (Tv:TE) (Q:Fl->St->Prop) (X:XP) (o:V) (st:St):V->Prop:=fun old=>Tv (iL C n f Q o old) X st
noncomputable def po (C:Nat) (n:String) (f:Int->Int->Int) (Tv:TE) (Q:Fl->St->Prop) (X:XP):V->St->Prop:=fun o st=>bH st.mh o n (lV C n f Tv Q X o st)
@[simp ↓] theorem Ps {Q:(Fl->St->Prop)}{st:St}:b4 C n f To Tv Q X st=To (po C n f Tv Q X) X st:=rfl
@[simp ↓] theorem Ih {Q:(Fl->St->Prop)}{st:St}:po C n f Tv Q X o st=bH st.mh o n (lV C n f Tv Q X o st):=rfl
@[simp ↓ 2000] theorem Pt {Q:(Fl->St->Prop)}:po C n f Tv Q X o ⟨lo,p,m⟩=bH m o n (lV C n f Tv Q X o ⟨lo,p,m⟩):=rfl
@[simp ↓] theorem Pu {old:V}{Q:(Fl->St->Prop)}{st:St}:lV C n f Tv Q X o st old=Tv (iL C n f Q o old) X st:=rfl
@[simp ↓] theorem pp {Q:(Fl->St->Prop)}{st:St}:iL C n f Q (.ref l) (.int i) (.int j) st=iK C n Q (.int (f i j)) l st (st.mh.m l):=rfl
@[simp ↓ 2000] theorem Pv {Q:(Fl->St->Prop)}:iL C n f Q (.ref l) (.int i) (.int j) ⟨lo,p,m⟩=iK C n Q (.int (f i j)) l ⟨lo,p,m⟩ (m.m l):=rfl
noncomputable def jq (Q:Fl->St->Prop) (st:St):MH->Prop:=fun mh=>Q .next { st with mh:=mh }
@[simp ↓] theorem Pw {Q:(Fl->St->Prop)}{l:List (String × V)}:jq Q ⟨l,p,m⟩ mh=Q .next ⟨l,p,mh⟩:=rfl
noncomputable def pq (Q:Fl->St->Prop) (u o:V):V->St->Prop:=fun i st=>fw st.mh o i u (jq Q st)
noncomputable def rW (Ti:TE) (Q:Fl->St->Prop) (X:XP) (u:V):V->St->Prop:=fun o st=>Ti (pq Q u o) X st
noncomputable def xX (To Ti:TE) (Q:Fl->St->Prop) (X:XP):V->St->Prop:=fun u st=>To (rW Ti Q X u) X st
@[simp ↓] theorem Px {Q:(Fl->St->Prop)}{st:St}:jf Tv To Ti Q X st=Tv (xX To Ti Q X) X st:=rfl
@[simp ↓] theorem Py {Q:(Fl->St->Prop)}{st:St}:xX To Ti Q X u st=To (rW Ti Q X u) X st:=rfl
@[simp ↓] theorem Pz {Q:(Fl->St->Prop)}{st:St}:rW Ti Q X u o st=Ti (pq Q u o) X st:=rfl
@[simp ↓] theorem PF {i:V}{Q:(Fl->St->Prop)}{st:St}:pq Q u o i st=fw st.mh o i u (jq Q st):=rfl
@[simp ↓ 2000] theorem PG {i:V}{Q:(Fl->St->Prop)}:pq Q u o i ⟨lo,p,m⟩=fw m o i u (jq Q ⟨lo,p,m⟩):=rfl
noncomputable def pu (f:Int->Int->Int) (Q:Fl->St->Prop) (o i old:V):V->St->Prop:=fun v st=>match old,v with|.int a,.int b=>fw st.mh o i (.int (f a b)) (jq Q st)|_,_=>False
noncomputable def px (f:Int->Int->Int) (Tv:TE) (Q:Fl->St->Prop) (X:XP) (o i:V) (st:St):V->Prop:=fun old=>Tv (pu f Q o i old) X st
noncomputable def pz (f:Int->Int->Int) (Tv:TE) (Q:Fl->St->Prop) (X:XP) (o:V):V->St->Prop:=fun i st=>bY st.mh o i (px f Tv Q X o i st)
noncomputable def xY (f:Int->Int->Int) (Ti Tv:TE) (Q:Fl->St->Prop) (X:XP):V->St->Prop:=fun o st=>Ti (pz f Tv Q X o) X st
@[simp ↓] theorem PH {Q:(Fl->St->Prop)}{st:St}:jg f To Ti Tv Q X st=To (xY f Ti Tv Q X) X st:=rfl
@[simp ↓] theorem PI {Q:(Fl->St->Prop)}{st:St}:xY f Ti Tv Q X o st=Ti (pz f Tv Q X o) X st:=rfl
@[simp ↓] theorem PJ {i:V}{Q:(Fl->St->Prop)}{st:St}:pz f Tv Q X o i st=bY st.mh o i (px f Tv Q X o i st):=rfl
@[simp ↓ 2000] theorem PK {i:V}{Q:(Fl->St->Prop)}:pz f Tv Q X o i ⟨lo,p,m⟩=bY m o i (px f Tv Q X o i ⟨lo,p,m⟩):=rfl
@[simp ↓] theorem PL {i old:V}{Q:(Fl->St->Prop)}{st:St}:px f Tv Q X o i st old=Tv (pu f Q o i old) X st:=rfl
@[simp ↓] theorem PM {i:V}{a b:Int}{Q:(Fl->St->Prop)}{st:St}:pu f Q o i (.int a) (.int b) st=fw st.mh o i (.int (f a b)) (jq Q st):=rfl
@[simp ↓ 2000] theorem PN {i:V}{a b:Int}{Q:(Fl->St->Prop)}:pu f Q o i (.int a) (.int b) ⟨lo,p,m⟩=fw m o i (.int (f a b)) (jq Q ⟨lo,p,m⟩):=rfl
noncomputable def ki (o:Option MO) (mh:MH) (l:aT) (j:Int) (u:V) (k:MH->Prop):Prop:=match o with|some (.arr xs)=>0<=j/\j < 1000000/\j < xs.length/\k (mh.set l (.arr (xs.set j.toNat u)))|some (.dict fs)=>fs.length<=1000/\k (mh.set l (.dict (gz fs j u)))|_=>False
@[simp ↓] theorem PO {k:MH->Prop}:fw mh (.ref l) (.int j) u k=ki (mh.m l) mh l j u k:=rfl
@[simp ↓] theorem Ii {k:MH->Prop}:ki (some (.arr xs)) mh l j u k=(0<=j/\j < 1000000/\j < xs.length/\k (mh.set l (.arr (xs.set j.toNat u)))):=rfl
@[simp ↓] theorem Ij {fs:List (Int × V)}{k:MH->Prop}:ki (some (.dict fs)) mh l j u k=(fs.length<=1000/\k (mh.set l (.dict (gz fs j u)))):=rfl
noncomputable def pA (Q:V->St->Prop) (v:V):V->St->Prop:=fun i st=>bY st.mh v i (kQ Q st)
noncomputable def xZ (Ti:TE) (Q:V->St->Prop) (X:XP):V->St->Prop:=fun v st=>Ti (pA Q v) X st
@[simp ↓] theorem rX {st:St}:au To Ti Q X st=To (xZ Ti Q X) X st:=rfl
@[simp ↓] theorem rY {st:St}:xZ Ti Q X v st=Ti (pA Q v) X st:=rfl
@[simp ↓] theorem x8 {i:V}{st:St}:pA Q v i st=bY st.mh v i (kQ Q st):=rfl
@[simp ↓ 2000] theorem PP {i:V}:pA Q v i ⟨lo,p,m⟩=bY m v i (kQ Q ⟨lo,p,m⟩):=rfl
@[simp ↓] theorem PR {u:α}{k:α->Prop}:ee (some u) k=k u:=rfl
@[simp ↓] theorem PS {k:α->Prop}:ee none k=False:=rfl
noncomputable def lW (o:Option MO) (j:Int) (k:V->Prop):Prop:=match o with|some (.list xs)=>b5 xs j k|some (.arr xs)=>b5 xs j k|some (.dict fs)=>ee (fs.lookup j) k|_=>False
@[simp ↓] theorem PT:bY mh (.tup xs) (.int j) k=b5 xs j k:=rfl
@[simp ↓] theorem PU:bY mh (.lst xs) (.int j) k=b5 xs j k:=rfl
@[simp ↓] theorem PV {fs:List (Int × V)}:bY mh (.dct fs) (.int j) k=ee (fs.lookup j) k:=by
 unfold bY ee;dsimp only<;>cases fs.lookup j<;>rfl
@[simp ↓] theorem rZ:bY mh (.ref l) (.int j) k=lW (mh.m l) j k:=by
 unfold bY lW ee;dsimp only;cases mh.m l with
|none=>rfl
|some o=>
  cases o with
 |dict fs=>dsimp only<;>cases fs.lookup j<;>rfl
 |_=>rfl
@[simp ↓] theorem PW:lW (some (.list xs)) j k=b5 xs j k:=rfl
@[simp ↓] theorem PY:lW (some (.arr xs)) j k=b5 xs j k:=rfl
@[simp ↓] theorem PZ {fs:List (Int × V)}:lW (some (.dict fs)) j k=ee (fs.lookup j) k:=rfl
noncomputable def kA (n:String) (Q:V->St->Prop):V->St->Prop:=fun v st=>bH st.mh v n (kQ Q st)
@[simp ↓] theorem P6 {st:St}:ae T n Q X st=T (kA n Q) X st:=rfl
@[simp ↓] theorem r6 {st:St}:kA n Q v st=bH st.mh v n (kQ Q st):=rfl
@[simp ↓ 2000] theorem P7:kA n Q v ⟨lo,p,m⟩=bH m v n (kQ Q ⟨lo,p,m⟩):=rfl
noncomputable def x9 (o:Option MO) (n:String) (k:V->Prop):Prop:=match o with|some (.inst C fs)=>aL C fs n k|_=>False
@[simp ↓] theorem ya:bH mh (.ref l) n k=x9 (mh.m l) n k:=rfl
@[simp ↓] theorem Qa {fs:List (String × V)}:bH mh (.obj C fs) n k=aL C fs n k:=rfl
@[simp ↓] theorem yb {fs:List (String × V)}:x9 (some (.inst C fs)) n k=aL C fs n k:=rfl
noncomputable def yc (o:Option Int) (k:V->Prop):Prop:=match o with|some i=>k (.int i)|none=>False
@[simp ↓] theorem Qb:aL C [] n k=yc (fR C n) k:=rfl
@[simp ↓] theorem Qc:yc (some i) k=k (.int i):=rfl
@[simp ↓] theorem yd:b5 xs j k=(if 0<=j then j < 1000000/\ee xs[j.toNat]? k else -1000000<=j/\-(xs.length:Int)<=j/\ee xs[(j+xs.length).toNat]? k):=rfl
noncomputable def kT (Q:V->St->Prop):List V->St->Prop:=fun vs st=>vs.length<=10000/\Q (.tup vs) st
@[simp ↓] theorem Qd {st:St}:aD Ts Q X st=bh Ts (kT Q) X st:=rfl
noncomputable def kL (Q:V->St->Prop):List V->St->Prop:=fun vs st=>vs.length<=10000/\Q (.lst vs) st
@[simp ↓] theorem Ik {st:St}:bB Ts Q X st=bh Ts (kL Q) X st:=rfl
noncomputable def pB (r:St->Nat) (mk:List V->MO) (Q:V->St->Prop):List V->St->Prop:=fun vs st=>vs.length<=10000/\Q (.ref (r st,st.mh.nx (r st))) { st with mh:=st.mh.new (r st) (mk vs) }
@[simp ↓] theorem Qe {r:St->Nat}{st:St}:fq r mk Ts Q X st=bh Ts (pB r mk Q) X st:=rfl
@[simp ↓] theorem ye {r:St->Nat}{st:St}:pB r mk Q vs st=(vs.length<=10000/\Q (.ref (r st,st.mh.nx (r st))) { st with mh:=st.mh.new (r st) (mk vs) }):=rfl
@[simp ↓ 2000] theorem Qf {r:St->Nat}:pB r mk Q vs ⟨lo,p,m⟩=(vs.length<=10000/\Q (.ref (r ⟨lo,p,m⟩,m.nx (r ⟨lo,p,m⟩))) ⟨lo,p,m.new (r ⟨lo,p,m⟩) (mk vs)⟩):=rfl
noncomputable def lX (Q:V->St->Prop) (a:V):V->St->Prop:=fun b st=>match a,b with|.lst xs,.lst ys=>xs.length+ys.length<=10000/\Q (.lst (xs++ys)) st|.tup xs,.tup ys=>xs≠[]/\ys≠[]/\xs.length+ys.length<=10000/\Q (.tup (xs++ys)) st|_,_=>False
noncomputable def yg (Tr:TE) (Q:V->St->Prop) (X:XP):V->St->Prop:=fun a st=>Tr (lX Q a) X st
@[simp ↓] theorem Qg {Tr:TE}{st:St}:eB Tl Tr Q X st=Tl (yg Tr Q X) X st:=rfl
@[simp ↓] theorem Qh {Tr:TE}{st:St}:yg Tr Q X a st=Tr (lX Q a) X st:=rfl
@[simp ↓] theorem Il {st:St}:lX Q (.lst xs) (.lst ys) st=(xs.length+ys.length<=10000/\Q (.lst (xs++ys)) st):=rfl
@[simp ↓] theorem Qi {st:St}:lX Q (.tup xs) (.tup ys) st=(xs≠[]/\ys≠[]/\xs.length+ys.length<=10000/\Q (.tup (xs++ys)) st):=rfl
@[simp ↓] theorem Qj {b:Bool}{k:Bool->Prop}:fp (.bool b) k=k b:=rfl
@[simp ↓] theorem Qk {k:Bool->Prop}:fp (.int i) k=k (i != 0):=rfl
@[simp ↓] theorem Ql {k:Bool->Prop}:fp .none k=k false:=rfl
noncomputable def yh (o:Option MO) (k:Nat->List (String × V)->Prop):Prop:=match o with|some (.inst C fs)=>k C fs|_=>False
@[simp ↓] theorem Im {k:Nat->List (String × V)->Prop}:d8 mh (.ref l) k=yh (mh.m l) k:=rfl
@[simp ↓] theorem Qm {fs:List (String × V)}{k:Nat->List (String × V)->Prop}:d8 mh (.obj C fs) k=k C fs:=rfl
@[simp ↓] theorem Io {fs:List (String × V)}{k:Nat->List (String × V)->Prop}:yh (some (.inst C fs)) k=k C fs:=rfl
noncomputable def r7 (o:Option MO) (T:String):Prop:=match o with|some (.list _)=>T="list" |some (.dict _)=>T="dict" |_=>False
@[simp ↓] theorem Qn {T:String}:iu mh T (.ref l)=r7 (mh.m l) T:=rfl
@[simp ↓] theorem Qo {T:String}:r7 (some (.list xs)) T=(T="list"):=rfl
@[simp ↓] theorem Qp {T:String}{xs:List (Int × V)}:r7 (some (.dict xs)) T=(T="dict"):=rfl
noncomputable def r8 (T:String) (F:Fn) (Ts:List TE) (Q:V->St->Prop) (X:XP):V->St->Prop:=fun o st=>iu st.mh T o/\bh Ts (gO F Q X o) X st
@[simp ↓] theorem Qq {T:String}{st:St}:cj T To F Ts Q X st=To (r8 T F Ts Q X) X st:=rfl
@[simp ↓] theorem Qr {T:String}{st:St}:r8 T F Ts Q X o st=(iu st.mh T o/\bh Ts (gO F Q X o) X st):=rfl
@[simp ↓ 2000] theorem Qs {T:String}:r8 T F Ts Q X o ⟨lo,p,m⟩=(iu m T o/\bh Ts (gO F Q X o) X ⟨lo,p,m⟩):=rfl
@[simp ↓] theorem Qt {t:Value}{Q:(V->MH->Prop)}:bIs [.int i,.cst t] Q X mh=((t=.type "int"/\Q (.bool true) mh)\/(t=.type "bool"/\Q (.bool false) mh)):=rfl
noncomputable def lY (o:Option MO) (Q:V->MH->Prop) (mh:MH):Prop:=match o with|some (.list xs)=>xs.length<=1000000/\Q (.int xs.length) mh|some (.arr xs)=>xs.length<=1000000/\Q (.int xs.length) mh|_=>False
@[simp ↓] theorem Iq {Q:(V->MH->Prop)}:bLen [.lst xs] Q X mh=(xs.length<=1000000/\Q (.int xs.length) mh):=rfl
@[simp ↓] theorem Qu {Q:(V->MH->Prop)}:bLen [.ref l] Q X mh=lY (mh.m l) Q mh:=rfl
@[simp ↓] theorem Ir {Q:(V->MH->Prop)}:lY (some (.list xs)) Q mh=(xs.length<=1000000/\Q (.int xs.length) mh):=rfl
@[simp ↓] theorem It {Q:(V->MH->Prop)}:lY (some (.arr xs)) Q mh=(xs.length<=1000000/\Q (.int xs.length) mh):=rfl
@[simp ↓] theorem Qv {Q:(V->MH->Prop)}:bAbs [.int i] Q X mh=Q (.int (if i < 0 then -i else i)) mh:=rfl
@[simp ↓] theorem Qw {Q:(V->MH->Prop)}:bInt [.int i] Q X mh=Q (.int i) mh:=rfl
@[simp ↓] theorem Qx {a b:Int}{Q:(V->MH->Prop)}:bMax2 [.int a,.int b] Q X mh=Q (.int (if b > a then b else a)) mh:=rfl
@[simp ↓] theorem Qy {a b c:Int}{Q:(V->MH->Prop)}:bMin3 [.int a,.int b,.int c] Q X mh=Q (.int (if b < a then(if c < b then c else b)else(if c < a then c else a))) mh:=rfl
@[simp ↓] theorem Iu {a b:Int}{Q:(V->MH->Prop)}:bDivmod [.int a,.int b] Q X mh=(b≠0/\b.natAbs < 1073741824/\Q (.tup [.int (a.fdiv b),.int (a.fmod b)]) mh):=rfl
noncomputable def r9 (C:Nat) (X:XP):V->St->Prop:=fun ω st=>X C st.mh
@[simp ↓] theorem Qz {Q:(Fl->St->Prop)}{st:St}:lx C T Q X st=T (r9 C X) X st:=rfl
@[simp ↓] theorem QA {st:St}:r9 C X v st=X C st.mh:=rfl
@[simp ↓ 2000] theorem QB:r9 C X v ⟨lo,p,m⟩=X C m:=rfl
@[simp ↓] theorem QC {Q:List V->St->Prop}{st:St}:bh (T::Ts) Q X st=T (gv (bh Ts) Q X) X st:=rfl
@[simp ↓] theorem sd {Q:List V->St->Prop}{st:St}:gv (bh Ts) Q X v st=bh Ts (jL Q v) X st:=rfl
@[simp ↓] theorem se {Q:List V->St->Prop}{st:St}:jL Q v vs st=Q (v::vs) st:=rfl
noncomputable def yi (Q:V->MH->Prop) (l:aT):V->MH->Prop:=fun v mh'=>v=.none/\Q (.ref l) mh'
@[simp ↓] theorem QD {Q:V->MH->Prop}:yi Q l v mh=(v=.none/\Q (.ref l) mh):=rfl
@[simp ↓] theorem QE {r:Nat}{Q:(V->MH->Prop)}:cw C F r us Q X mh=F (.ref (r,mh.nx r)::us) (yi Q (r,mh.nx r)) X (mh.new r (.inst C [])):=rfl
noncomputable def yj (Q:V->MH->Prop):V->MH->Prop:=fun v mh'=>frz mh' v Q
@[simp ↓] theorem QF {Q:V->MH->Prop}:yj Q v mh=frz mh v Q:=rfl
@[simp ↓] theorem QG {Q:(V->MH->Prop)}:dN C F us Q X mh=cw C F 0 us (yj Q) X mh:=rfl
noncomputable def lZ (o:Option MO) (mh:MH) (l:aT) (k:V->MH->Prop):Prop:=match o with|some (.inst C fs)=>k (.obj C fs) (mh.drop l)|some (.list xs)=>k (.lst xs) (mh.drop l)|some (.dict es)=>k (.dct es) (mh.drop l)|_=>False
@[simp ↓] theorem QH {k:V->MH->Prop}:frz mh (.ref l) k=lZ (mh.m l) mh l k:=by
 show(match mh.m l with|some (.inst C fs)=>_|some (.list xs)=>_|some (.arr xs)=>_|some (.dict es)=>_|none=>_)=_;unfold lZ;cases mh.m l with
|none=>rfl
|some o=>cases o<;>rfl
@[simp ↓] theorem QI {fs:List (String × V)}{k:V->MH->Prop}:lZ (some (.inst C fs)) mh l k=k (.obj C fs) (mh.drop l):=rfl
@[simp ↓] theorem QJ {k:V->MH->Prop}:lZ (some (.list xs)) mh l k=k (.lst xs) (mh.drop l):=rfl
@[simp ↓] theorem QK {es:List (Int × V)}{k:V->MH->Prop}:lZ (some (.dict es)) mh l k=k (.dct es) (mh.drop l):=rfl
noncomputable def yk (o:Option V):Nat:=match o with|some (.ref l)=>l.1|_=>0
@[simp ↓] theorem QL {st:St}:fy n st=yk (st.loc.lookup n):=rfl
@[simp ↓] theorem QM:yk (some (.ref l))=l.1:=rfl
noncomputable def dv (n:String) (l:List (String × V)) (Q:V->St->Prop) (st:St):Prop:=fG (l.lookup n) Q st
@[simp ↓] theorem yl:aa n Q X ⟨(n,v)::r,p,m⟩=Q v ⟨(n,v)::r,p,m⟩:=by
 rw[lT,lN,if_pos rfl,pk]
@[simp ↓] theorem kj {n':String}(h:(n == n')=false):aa n Q X ⟨(n',v)::r,p,m⟩=dv n r Q ⟨(n',v)::r,p,m⟩:=by
 rw[lT,lN,if_neg (ne_of_beq_false h)];rfl
@[simp ↓] theorem gP {st:St}:dv n ((n,v)::r) Q st=Q v st:=by
 rw[dv,lN,if_pos rfl,pk]
@[simp ↓] theorem cJ {n':String}{st:St}(h:(n == n')=false):dv n ((n',v)::r) Q st=dv n r Q st:=by
 rw[dv,lN,if_neg (ne_of_beq_false h)];rfl
@[simp ↓] theorem QN {st:St}:dv n [] Q st=False:=rfl
@[simp ↓] theorem QO {l:List (String × V)}:aa n Q X ⟨aj n v l,p,m⟩=Q v ⟨aj n v l,p,m⟩:=by
 rw[lT];show fG (List.lookup n (aj n v l)) Q _=_;rw[bw,if_pos rfl,pk]
@[simp ↓] theorem sg {q:String}{l:List (String × V)}(h:(n == q)=false):aa n Q X ⟨aj q v l,p,m⟩=dv n l Q ⟨aj q v l,p,m⟩:=by
 rw[lT];show fG (List.lookup n (aj q v l)) Q _=_;rw[bw,if_neg (ne_of_beq_false h)];rfl
@[simp ↓] theorem si {l:List (String × V)}{st:St}:dv n (aj n v l) Q st=Q v st:=by
 rw[dv];show fG (List.lookup n (aj n v l)) Q _=_;rw[bw,if_pos rfl,pk]
@[simp ↓] theorem sj {q:String}{l:List (String × V)}{st:St}(h:(n == q)=false):dv n (aj q v l) Q st=dv n l Q st:=by
 rw[dv];show fG (List.lookup n (aj q v l)) Q _=_;rw[bw,if_neg (ne_of_beq_false h)];rfl
@[simp] theorem QP {l:List (String × V)}{st:St}:dv n l Q st=fG (l.lookup n) Q st:=rfl
@[simp ↓] theorem sp:aj n v ((n,u)::r)=(n,v)::r:=by rw[rM,if_pos rfl]
@[simp ↓] theorem js {m:String}(h:(m == n)=false):aj n v ((m,u)::r)=(m,u)::aj n v r:=by rw[rM,if_neg (ne_of_beq_false h)]
@[simp ↓] theorem iM:aL C ((n,u)::r) n k=k u:=by unfold aL;rw[V9,beq_self_eq_true]
@[simp ↓] theorem bF {m:String}(h:(n == m)=false):aL C ((m,u)::r) n k=aL C r n k:=by unfold aL;rw[V9,h]
@[simp ↓ high] theorem QQ (h1:(n == a1)=false):aa n Q X ⟨(a1,u1)::(n,v)::r,p,m⟩=Q v ⟨(a1,u1)::(n,v)::r,p,m⟩:=(kj h1).trans (gP)
@[simp ↓ high] theorem QR (h1:(n == a1)=false) (h2:(n == a2)=false):aa n Q X ⟨(a1,u1)::(a2,u2)::(n,v)::r,p,m⟩=Q v ⟨(a1,u1)::(a2,u2)::(n,v)::r,p,m⟩:=(kj h1).trans ((cJ h2).trans (gP))
@[simp ↓ high] theorem QS (h1:(n == a1)=false) (h2:(n == a2)=false) (h3:(n == a3)=false):aa n Q X ⟨(a1,u1)::(a2,u2)::(a3,u3)::(n,v)::r,p,m⟩=Q v ⟨(a1,u1)::(a2,u2)::(a3,u3)::(n,v)::r,p,m⟩:=(kj h1).trans ((cJ h2).trans ((cJ h3).trans (gP)))
@[simp ↓ high] theorem QT (h1:(n == a1)=false) (h2:(n == a2)=false) (h3:(n == a3)=false) (h4:(n == a4)=false):aa n Q X ⟨(a1,u1)::(a2,u2)::(a3,u3)::(a4,u4)::(n,v)::r,p,m⟩=Q v ⟨(a1,u1)::(a2,u2)::(a3,u3)::(a4,u4)::(n,v)::r,p,m⟩:=(kj h1).trans ((cJ h2).trans ((cJ h3).trans ((cJ h4).trans (gP))))
@[simp ↓ high] theorem QU (h1:(n == a1)=false) (h2:(n == a2)=false) (h3:(n == a3)=false) (h4:(n == a4)=false) (h5:(n == a5)=false):aa n Q X ⟨(a1,u1)::(a2,u2)::(a3,u3)::(a4,u4)::(a5,u5)::(n,v)::r,p,m⟩=Q v ⟨(a1,u1)::(a2,u2)::(a3,u3)::(a4,u4)::(a5,u5)::(n,v)::r,p,m⟩:=(kj h1).trans ((cJ h2).trans ((cJ h3).trans ((cJ h4).trans ((cJ h5).trans (gP)))))
@[simp ↓ high] theorem QV (h1:(n == a1)=false) (h2:(n == a2)=false) (h3:(n == a3)=false) (h4:(n == a4)=false) (h5:(n == a5)=false) (h6:(n == a6)=false):aa n Q X ⟨(a1,u1)::(a2,u2)::(a3,u3)::(a4,u4)::(a5,u5)::(a6,u6)::(n,v)::r,p,m⟩=Q v ⟨(a1,u1)::(a2,u2)::(a3,u3)::(a4,u4)::(a5,u5)::(a6,u6)::(n,v)::r,p,m⟩:=(kj h1).trans ((cJ h2).trans ((cJ h3).trans ((cJ h4).trans ((cJ h5).trans ((cJ h6).trans (gP))))))
@[simp ↓ high] theorem QW {st:St}(h1:(n == a1)=false):dv n ((a1,u1)::(n,v)::r) Q st=Q v st:=(cJ h1).trans (gP)
@[simp ↓ high] theorem QX {st:St}(h1:(n == a1)=false) (h2:(n == a2)=false):dv n ((a1,u1)::(a2,u2)::(n,v)::r) Q st=Q v st:=(cJ h1).trans ((cJ h2).trans (gP))
@[simp ↓ high] theorem QY {st:St}(h1:(n == a1)=false) (h2:(n == a2)=false) (h3:(n == a3)=false):dv n ((a1,u1)::(a2,u2)::(a3,u3)::(n,v)::r) Q st=Q v st:=(cJ h1).trans ((cJ h2).trans ((cJ h3).trans (gP)))
@[simp ↓ high] theorem QZ (h1:(n == a1)=false):aL C ((a1,u1)::(n,v)::r) n k=k v:=(bF h1).trans (iM)
@[simp ↓ high] theorem Q0 (h1:(n == a1)=false) (h2:(n == a2)=false):aL C ((a1,u1)::(a2,u2)::(n,v)::r) n k=k v:=(bF h1).trans ((bF h2).trans (iM))
@[simp ↓ high] theorem Q1 (h1:(n == a1)=false) (h2:(n == a2)=false) (h3:(n == a3)=false):aL C ((a1,u1)::(a2,u2)::(a3,u3)::(n,v)::r) n k=k v:=(bF h1).trans ((bF h2).trans ((bF h3).trans (iM)))
@[simp ↓ high] theorem Q2 (h1:(n == a1)=false) (h2:(n == a2)=false) (h3:(n == a3)=false) (h4:(n == a4)=false):aL C ((a1,u1)::(a2,u2)::(a3,u3)::(a4,u4)::(n,v)::r) n k=k v:=(bF h1).trans ((bF h2).trans ((bF h3).trans ((bF h4).trans (iM))))
@[simp ↓ high] theorem Q3 (h1:(n == a1)=false) (h2:(n == a2)=false) (h3:(n == a3)=false) (h4:(n == a4)=false) (h5:(n == a5)=false):aL C ((a1,u1)::(a2,u2)::(a3,u3)::(a4,u4)::(a5,u5)::(n,v)::r) n k=k v:=(bF h1).trans ((bF h2).trans ((bF h3).trans ((bF h4).trans ((bF h5).trans (iM)))))
@[simp ↓ high] theorem Q4 (h1:(n == a1)=false) (h2:(n == a2)=false) (h3:(n == a3)=false) (h4:(n == a4)=false) (h5:(n == a5)=false) (h6:(n == a6)=false):aL C ((a1,u1)::(a2,u2)::(a3,u3)::(a4,u4)::(a5,u5)::(a6,u6)::(n,v)::r) n k=k v:=(bF h1).trans ((bF h2).trans ((bF h3).trans ((bF h4).trans ((bF h5).trans ((bF h6).trans (iM))))))
@[simp ↓ high] theorem Q5 {a7:String}{u7:V}(h1:(n == a1)=false) (h2:(n == a2)=false) (h3:(n == a3)=false) (h4:(n == a4)=false) (h5:(n == a5)=false) (h6:(n == a6)=false) (h7:(n == a7)=false):aL C ((a1,u1)::(a2,u2)::(a3,u3)::(a4,u4)::(a5,u5)::(a6,u6)::(a7,u7)::(n,v)::r) n k=k v:=(bF h1).trans ((bF h2).trans ((bF h3).trans ((bF h4).trans ((bF h5).trans ((bF h6).trans ((bF h7).trans (iM)))))))
@[simp ↓ high] theorem Q6 {a7 a8:String}{u7 u8:V}(h1:(n == a1)=false) (h2:(n == a2)=false) (h3:(n == a3)=false) (h4:(n == a4)=false) (h5:(n == a5)=false) (h6:(n == a6)=false) (h7:(n == a7)=false) (h8:(n == a8)=false):aL C ((a1,u1)::(a2,u2)::(a3,u3)::(a4,u4)::(a5,u5)::(a6,u6)::(a7,u7)::(a8,u8)::(n,v)::r) n k=k v:=(bF h1).trans ((bF h2).trans ((bF h3).trans ((bF h4).trans ((bF h5).trans ((bF h6).trans ((bF h7).trans ((bF h8).trans (iM))))))))
noncomputable def pC (b:Bool) (r:Bool):Bool:=match b with|true=>true|false=>r
noncomputable def jt (n:String):List (String × V)->Bool
|[]=>false
|p::r=>pC (p.1 == n) (jt n r)
@[simp ↓] theorem Q7:jt n []=false:=rfl
@[simp ↓] theorem Q8 {m:String}:jt n ((m,u)::r)=pC (m == n) (jt n r):=rfl
@[simp] theorem Q9 {r:Bool}:pC false r=r:=rfl
theorem ym {b r:Bool}(h:pC b r=false):b=false/\r=false:=by
 cases b with
|false=>exact⟨rfl,h⟩
|true=>exact absurd h.symm U2
theorem yo:∀ {l:List (String × V)},jt n l=false->aj n v l=l++[(n,v)]
|[],_=>rfl
|(m,u)::r,h=>by rw[js (ym h).1,yo (ym h).2];rfl
noncomputable def sq (n:String) (l:List (String × V)):Prop:=jt n l=false
@[simp ↓] theorem Rc {l:List (String × V)}:sq n l=(jt n l=false):=propext Iff.rfl
@[simp ↓ high] theorem Iv {l:List (String × V)}(h:sq n l):aj n v l=l++[(n,v)]:=yo h
@[simp ↓ high] theorem Rd (h1:(a1 == n)=false):aj n v ((a1,u1)::(n,w)::r)=(a1,u1)::(n,v)::r:=(js h1).trans (congrArg _ (sp))
@[simp ↓ high] theorem Re (h1:(a1 == n)=false) (h2:(a2 == n)=false):aj n v ((a1,u1)::(a2,u2)::(n,w)::r)=(a1,u1)::(a2,u2)::(n,v)::r:=(js h1).trans (congrArg _ ((js h2).trans (congrArg _ (sp))))
@[simp ↓ high] theorem Rf (h1:(a1 == n)=false) (h2:(a2 == n)=false) (h3:(a3 == n)=false):aj n v ((a1,u1)::(a2,u2)::(a3,u3)::(n,w)::r)=(a1,u1)::(a2,u2)::(a3,u3)::(n,v)::r:=(js h1).trans (congrArg _ ((js h2).trans (congrArg _ ((js h3).trans (congrArg _ (sp))))))
noncomputable def ju:List (String × V)->Nat->Bool
|[],_=>true
|_::_,0=>false
|_::r,n+1=>ju r n
@[simp ↓] theorem Rg {n:Nat}:ju [] n=true:=rfl
@[simp ↓] theorem Rh {n:Nat}{x:String × V}:ju (x::r) (n+1)=ju r n:=rfl
theorem yq:∀ {l:List (String × V)}{n:Nat},ju l n=true->l.length<=n
|[],_,_=>Z0 _
|_::_,0,h=>nomatch h
|_::r,n+1,h=>Nat.succ_le_succ (yq (l:=r) h)
noncomputable def sv (l:List (String × V)):Prop:=ju l 40=true
@[simp ↓] theorem Ri {l:List (String × V)}:sv l=(ju l 40=true):=propext Iff.rfl
@[simp ↓ high] theorem Iw {fs:List (String × V)}{Q:(Fl->St->Prop)}(h:sv fs):iK C n Q v l ⟨lo,p,m⟩ (some (.inst C fs))=Q .next ⟨lo,p,m.set l (.inst C (aj n v fs))⟩:=by
 rw[xW];exact propext ⟨fun z=>z.2.2,fun z=>⟨rfl,X9 (yq h) (by decide),z⟩⟩
@[simp ↓ high] theorem Ix {fs:List (String × V)}{st:St}:lS C F Ts Q X o st C fs=bh Ts (gO F Q X o) X st:=propext ⟨fun z=>z.2,fun z=>⟨rfl,z⟩⟩
@[simp ↓ high] theorem Rj {st:St}:pn (fun ω ω=>True) f Q (.int i) (.int j) st=Q (.int (f i j)) st:=propext ⟨fun z=>z.2,fun z=>⟨trivial,z⟩⟩
@[simp ↓] theorem yr {T:TS}{Q:V->MH->Prop}:aB 1 T ps du [x1] Q X mh=T (fun fl st=>Q fl.val st.mh) X ⟨ps.zip ([x1]++du),[],mh⟩:=propext ⟨fun z=>z.2,fun z=>⟨rfl,z⟩⟩
@[simp ↓] theorem yt {T:TS}{Q:V->MH->Prop}:aB 2 T ps du [x1,x2] Q X mh=T (fun fl st=>Q fl.val st.mh) X ⟨ps.zip ([x1,x2]++du),[],mh⟩:=propext ⟨fun z=>z.2,fun z=>⟨rfl,z⟩⟩
@[simp ↓] theorem yu {T:TS}{Q:V->MH->Prop}:aB 3 T ps du [x1,x2,x3] Q X mh=T (fun fl st=>Q fl.val st.mh) X ⟨ps.zip ([x1,x2,x3]++du),[],mh⟩:=propext ⟨fun z=>z.2,fun z=>⟨rfl,z⟩⟩
@[simp ↓] theorem yv {T:TS}{Q:V->MH->Prop}:aB 5 T ps du [x1,x2,x3,x4,x5] Q X mh=T (fun fl st=>Q fl.val st.mh) X ⟨ps.zip ([x1,x2,x3,x4,x5]++du),[],mh⟩:=propext ⟨fun z=>z.2,fun z=>⟨rfl,z⟩⟩
@[simp ↓] theorem Iy {T:TS}{Q:V->MH->Prop}:aB 6 T ps du [x1,x2,x3,x4,x5,x6] Q X mh=T (fun fl st=>Q fl.val st.mh) X ⟨ps.zip ([x1,x2,x3,x4,x5,x6]++du),[],mh⟩:=propext ⟨fun z=>z.2,fun z=>⟨rfl,z⟩⟩
@[simp ↓] theorem Iz {T:TS}{x7:V}{Q:V->MH->Prop}:aB 7 T ps du [x1,x2,x3,x4,x5,x6,x7] Q X mh=T (fun fl st=>Q fl.val st.mh) X ⟨ps.zip ([x1,x2,x3,x4,x5,x6,x7]++du),[],mh⟩:=propext ⟨fun z=>z.2,fun z=>⟨rfl,z⟩⟩
@[simp ↓ high] theorem Rk {T:TS}{Q:V->MH->Prop}:aB 1 T [p1] [] [x1] Q X mh=T (fun fl st=>Q fl.val st.mh) X ⟨[(p1,x1)],[],mh⟩:=yr
@[simp ↓ high] theorem Rl {T:TS}{Q:V->MH->Prop}:aB 2 T [p1,p2] [] [x1,x2] Q X mh=T (fun fl st=>Q fl.val st.mh) X ⟨[(p1,x1),(p2,x2)],[],mh⟩:=yt
@[simp ↓ high] theorem Rm {T:TS}{Q:V->MH->Prop}:aB 3 T [p1,p2,p3] [] [x1,x2,x3] Q X mh=T (fun fl st=>Q fl.val st.mh) X ⟨[(p1,x1),(p2,x2),(p3,x3)],[],mh⟩:=yu
@[simp ↓ high] theorem Rn {T:TS}{Q:V->MH->Prop}:aB 5 T [p1,p2,p3,p4,p5] [] [x1,x2,x3,x4,x5] Q X mh=T (fun fl st=>Q fl.val st.mh) X ⟨[(p1,x1),(p2,x2),(p3,x3),(p4,x4),(p5,x5)],[],mh⟩:=yv
@[simp ↓ high] theorem Ro {T:TS}{Q:V->MH->Prop}:aB 6 T [p1,p2,p3,p4,p5,p6] [] [x1,x2,x3,x4,x5,x6] Q X mh=T (fun fl st=>Q fl.val st.mh) X ⟨[(p1,x1),(p2,x2),(p3,x3),(p4,x4),(p5,x5),(p6,x6)],[],mh⟩:=Iy
@[simp ↓ high] theorem Rp {T:TS}{p7:String}{x7:V}{Q:V->MH->Prop}:aB 7 T [p1,p2,p3,p4,p5,p6,p7] [] [x1,x2,x3,x4,x5,x6,x7] Q X mh=T (fun fl st=>Q fl.val st.mh) X ⟨[(p1,x1),(p2,x2),(p3,x3),(p4,x4),(p5,x5),(p6,x6),(p7,x7)],[],mh⟩:=Iz
@[simp ↓ high] theorem Rq {T:TS}{d2 d3 d4 d5:V}{Q:V->MH->Prop}:aB 1 T [p1,p2,p3,p4,p5,p6] [d1,d2,d3,d4,d5] [x1] Q X mh=T (fun fl st=>Q fl.val st.mh) X ⟨[(p1,x1),(p2,d1),(p3,d2),(p4,d3),(p5,d4),(p6,d5)],[],mh⟩:=yr
@[simp ↓ high] theorem Rr {T:TS}{d2 d3 d4:V}{Q:V->MH->Prop}:aB 2 T [p1,p2,p3,p4,p5,p6] [d1,d2,d3,d4] [x1,x2] Q X mh=T (fun fl st=>Q fl.val st.mh) X ⟨[(p1,x1),(p2,x2),(p3,d1),(p4,d2),(p5,d3),(p6,d4)],[],mh⟩:=yt
@[simp ↓ high] theorem Ru {T:TS}{Q:V->MH->Prop}:aB 3 T [p1,p2,p3,p4] [d1] [x1,x2,x3] Q X mh=T (fun fl st=>Q fl.val st.mh) X ⟨[(p1,x1),(p2,x2),(p3,x3),(p4,d1)],[],mh⟩:=yu
@[simp ↓ high] theorem Rv {T:TS}{Q:V->MH->Prop}:aB 5 T [p1,p2,p3,p4,p5,p6] [d1] [x1,x2,x3,x4,x5] Q X mh=T (fun fl st=>Q fl.val st.mh) X ⟨[(p1,x1),(p2,x2),(p3,x3),(p4,x4),(p5,x5),(p6,d1)],[],mh⟩:=yv
@[simp ↓ 2000] theorem yw {Q:(Fl->St->Prop)}{st:St}(h1:us.length=fs.length):lU fs Q (.tup us) st=dA fs us.reverse st (iJ Q):=Ie.trans (propext ⟨fun z=>z.2,fun z=>⟨h1,z⟩⟩)
@[simp ↓ 2000] theorem yx {st:St}{k:St->Prop}(h1:us.length=fs.length):dB fs (.tup us) st k=dA fs us st k:=Ig.trans (propext ⟨fun z=>z.2,fun z=>⟨h1,z⟩⟩)
@[simp ↓ 2000] theorem Rw {k:MH->Prop}(h1:0<=j) (h2:j < 1000000) (h3:j < xs.length):ki (some (.arr xs)) mh l j u k=k (mh.set l (.arr (xs.set j.toNat u))):=Ii.trans (propext ⟨fun z=>z.2.2.2,fun z=>⟨h1,h2,h3,z⟩⟩)
@[simp ↓ 2000] theorem Rx {fs:List (Int × V)}{k:MH->Prop}(h1:fs.length<=1000):ki (some (.dict fs)) mh l j u k=k (mh.set l (.dict (gz fs j u))):=Ij.trans (propext ⟨fun z=>z.2,fun z=>⟨h1,z⟩⟩)
@[simp ↓ 2000] theorem Rz {r:St->Nat}{st:St}(h1:vs.length<=10000):pB r mk Q vs st=Q (.ref (r st,st.mh.nx (r st))) { st with mh:=st.mh.new (r st) (mk vs) }:=ye.trans (propext ⟨fun z=>z.2,fun z=>⟨h1,z⟩⟩)
@[simp ↓ 2000] theorem RA {st:St}(h1:xs.length+ys.length<=10000):lX Q (.lst xs) (.lst ys) st=Q (.lst (xs++ys)) st:=Il.trans (propext ⟨fun z=>z.2,fun z=>⟨h1,z⟩⟩)
@[simp ↓ 2000] theorem RB {Q:(V->MH->Prop)}(h1:xs.length<=1000000):bLen [.lst xs] Q X mh=Q (.int xs.length) mh:=Iq.trans (propext ⟨fun z=>z.2,fun z=>⟨h1,z⟩⟩)
@[simp ↓ 2000] theorem RC {Q:(V->MH->Prop)}(h1:xs.length<=1000000):lY (some (.list xs)) Q mh=Q (.int xs.length) mh:=Ir.trans (propext ⟨fun z=>z.2,fun z=>⟨h1,z⟩⟩)
@[simp ↓ 2000] theorem RD {Q:(V->MH->Prop)}(h1:xs.length<=1000000):lY (some (.arr xs)) Q mh=Q (.int xs.length) mh:=It.trans (propext ⟨fun z=>z.2,fun z=>⟨h1,z⟩⟩)
@[simp ↓ 2000] theorem RE {a b:Int}{Q:(V->MH->Prop)}(h1:b≠0) (h2:b.natAbs < 1073741824):bDivmod [.int a,.int b] Q X mh=Q (.tup [.int (a.fdiv b),.int (a.fmod b)]) mh:=Iu.trans (propext ⟨fun z=>z.2.2,fun z=>⟨h1,h2,z⟩⟩)
@[simp ↓ 2000] theorem l7 (h:0<=j) (h':j < 1000000):b5 xs j k=ee xs[j.toNat]? k:=by
 rw[yd,if_pos h];exact propext ⟨fun z=>z.2,fun z=>⟨h',z⟩⟩
@[simp ↓ high] theorem IB {r:List V}:b5 (x0::r) 0 k=k x0:=l7 (by decide) (by decide)
@[simp ↓ high] theorem IC {r:List V}:b5 (x0::x1::r) 1 k=k x1:=l7 (by decide) (by decide)
@[simp ↓ high] theorem ID {r:List V}:b5 (x0::x1::x2::r) 2 k=k x2:=l7 (by decide) (by decide)
@[simp ↓ high] theorem RF {r:List V}:b5 (x0::x1::x2::x3::r) 3 k=k x3:=l7 (by decide) (by decide)
noncomputable def km (o:Int):Prop:=o=0\/o=1\/o=2\/o=3
noncomputable def yy (a b c d o:Int):Int:=if o=0 then a else if o=1 then b else if o=2 then c else d
@[simp ↓ high] theorem RG {a b c d o:Int}(h:km o):b5 [.int a,.int b,.int c,.int d] o k=k (.int (yy a b c d o)):=by
 rcases h with rfl|rfl|rfl|rfl<;>(rw[yd,if_pos (by decide)];exact propext ⟨fun z=>z.2,fun z=>⟨by decide,z⟩⟩)
@[simp ↓ high] theorem RH {a b c d o x:Int}{k:MH->Prop}(h:km o):ki (some (.arr [.int a,.int b,.int c,.int d])) mh l o (.int (yy a b c d o+x)) k =
  k (mh.set l (.arr [.int (if o=0 then a+x else a),.int (if o=1 then b+x else b),.int (if o=2 then c+x else c),.int (if o=3 then d+x else d)])):=by
 rcases h with rfl|rfl|rfl|rfl<;>exact propext ⟨fun z=>z.2.2.2,fun z=>⟨by decide,by decide,by simp,z⟩⟩
@[simp ↓] theorem RJ {Q:(Bool->St->Prop)}{st:St}:fb .Lt Q (.int i) (.int j) st=Q (decide (i < j)) st:=rfl
@[simp ↓] theorem RK {Q:(Bool->St->Prop)}{st:St}:fb .LtE Q (.int i) (.int j) st=Q (decide (i<=j)) st:=rfl
@[simp ↓] theorem IE {Q:(Bool->St->Prop)}{st:St}:fb .Gt Q (.int i) (.int j) st=Q (decide (i > j)) st:=rfl
@[simp ↓] theorem RL {Q:(Bool->St->Prop)}{st:St}:fb .GtE Q (.int i) (.int j) st=Q (decide (i>=j)) st:=rfl
@[simp ↓] theorem RM {Q:(Bool->St->Prop)}{st:St}:fb .Eq Q a b st=bv st.mh a b (kQ Q st):=rfl
@[simp ↓] theorem IF {Q:(Bool->St->Prop)}{st:St}:fb .NotEq Q a b st=bv st.mh a b (kN (kQ Q st)):=rfl
@[simp ↓] theorem RN {Q:(Bool->St->Prop)}{st:St}:fb .In Q a b st=cW a b (kQ Q st):=rfl
@[simp ↓] theorem RO {Q:(Bool->St->Prop)}{st:St}:fb .NotIn Q a b st=cW a b (kN (kQ Q st)):=rfl
@[simp ↓] theorem RP {Q:(Bool->St->Prop)}{st:St}:fb .Is Q a .none st=cO a (kQ Q st):=rfl
@[simp ↓] theorem RQ {Q:(Bool->St->Prop)}{st:St}:fb .IsNot Q a .none st=cO a (kN (kQ Q st)):=rfl
@[simp ↓ high] theorem IG {T F:Tr β}{Q:β->St->Prop}{p:Prop}[Decidable p] {X:XP}{st:St}(h:p):cr T F Q X (decide p) st=T Q X st:=by rw[pb,decide_eq_true h,if_pos rfl]
@[simp ↓ high] theorem II {T F:Tr β}{Q:β->St->Prop}{p:Prop}[Decidable p] {X:XP}{st:St}(h:¬ p):cr T F Q X (decide p) st=F Q X st:=by rw[pb,decide_eq_false h,if_neg U2]
@[simp ↓ high] theorem jv {T F:Tr β}{Q:β->St->Prop}{st:St}:cr T F Q X true st=T Q X st:=by rw[pb,if_pos rfl]
@[simp ↓ high] theorem gc {T F:Tr β}{Q:β->St->Prop}{st:St}:cr T F Q X false st=F Q X st:=by rw[pb,if_neg U2]
@[simp ↓ high] theorem RR {T F:Tr β}{Q:β->St->Prop}{st:St}:cr T F Q X (i == i) st=T Q X st:=by rw[beq_self_eq_true,jv]
theorem tl {l:List (String × V)}(h:l.lookup n=some v) (Q:V->St->Prop) (X:XP) (p:List String) (m:MH):aa n Q X ⟨l,p,m⟩=Q v ⟨l,p,m⟩:=by
 rw[lT];show fG (l.lookup n) Q _=_;rw[h];rfl
theorem lr {l:List (String × V)}(h:l.lookup n=some v) (Q:V->St->Prop) (st:St):dv n l Q st=Q v st:=by
 show fG (l.lookup n) Q _=_;rw[h];rfl
@[simp ↓ high] theorem l8 {Q:Bool->St->Prop}{st:St}:dK D Q X true st=D Q X st:=by rw[xE,if_pos rfl]
@[simp ↓ high] theorem pD {Q:Bool->St->Prop}{st:St}:dK D Q X false st=Q false st:=by rw[xE,if_neg U2]
@[simp ↓ high] theorem IJ {p:Prop}[Decidable p] {D:TB}{Q:Bool->St->Prop}{X:XP}{st:St}(h:p):dK D Q X (decide p) st=D Q X st:=by rw[decide_eq_true h,l8]
@[simp ↓ high] theorem IK {p:Prop}[Decidable p] {D:TB}{Q:Bool->St->Prop}{X:XP}{st:St}(h:¬ p):dK D Q X (decide p) st=Q false st:=by rw[decide_eq_false h,pD]
@[simp ↓ high] theorem RS {Q:Bool->St->Prop}{st:St}(h:(i == j)=true):dK D Q X (i == j) st=D Q X st:=by rw[h,l8]
@[simp ↓ high] theorem RT {Q:Bool->St->Prop}{st:St}(h:(i == j)=false):dK D Q X (i == j) st=Q false st:=by rw[h,pD]
@[simp ↓ high] theorem RU {p:Prop}[Decidable p] {D:TB}{Q:Bool->St->Prop}{X:XP}{st:St}:dK D Q X (!decide p) st=if p then Q false st else D Q X st:=by
 by_cases h:p
 ·rw[decide_eq_true h,if_pos h];exact pD
 ·rw[decide_eq_false h,if_neg h];exact l8
@[simp ↓ high] theorem sw {Q:Bool->St->Prop}{st:St}:dZ D Q X true st=Q true st:=by rw[xD,if_pos rfl]
@[simp ↓ high] theorem ko {Q:Bool->St->Prop}{st:St}:dZ D Q X false st=D Q X st:=by rw[xD,if_neg U2]
@[simp ↓ high] theorem IL {p:Prop}[Decidable p] {D:TB}{Q:Bool->St->Prop}{X:XP}{st:St}(h:p):dZ D Q X (decide p) st=Q true st:=by rw[decide_eq_true h,sw]
@[simp ↓ high] theorem IM {p:Prop}[Decidable p] {D:TB}{Q:Bool->St->Prop}{X:XP}{st:St}(h:¬ p):dZ D Q X (decide p) st=D Q X st:=by rw[decide_eq_false h,ko]
@[simp ↓ high] theorem RV {Q:Bool->St->Prop}{st:St}(h:(i == j)=true):dZ D Q X (i == j) st=Q true st:=by rw[h,sw]
@[simp ↓ high] theorem RW {Q:Bool->St->Prop}{st:St}(h:(i == j)=false):dZ D Q X (i == j) st=D Q X st:=by rw[h,ko]
@[simp ↓ high] theorem RX {p:Prop}[Decidable p] {D:TB}{Q:Bool->St->Prop}{X:XP}{st:St}:dZ D Q X (!decide p) st=if p then D Q X st else Q true st:=by
 by_cases h:p
 ·rw[decide_eq_true h,if_pos h];exact ko
 ·rw[decide_eq_false h,if_neg h];exact sw
@[simp ↓ high] theorem RY {T F:Tr β}{Q:β->St->Prop}{st:St}(h:(i == j)=true):cr T F Q X (i == j) st=T Q X st:=by rw[h,jv]
@[simp ↓ high] theorem RZ {T F:Tr β}{Q:β->St->Prop}{st:St}(h:(i == j)=false):cr T F Q X (i == j) st=F Q X st:=by rw[h,gc]
@[simp ↓ high] theorem IN {b:Bool}{T F:Tr β}{Q:β->St->Prop}{st:St}:cr T F Q X (!b) st=cr F T Q X b st:=by cases b;exact jv.trans gc.symm;exact gc.trans jv.symm
@[simp ↓ high] theorem R6 {T F:Tr β}{Q:β->St->Prop}{st:St}:cr T F Q X (i != j) st=cr F T Q X (i == j) st:=IN
@[simp ↓ high] theorem R7 {f:TgF}{Q:(Fl->St->Prop)}{st:St}:lU [f,g] Q (.tup [a,b]) st=f b st (kG [g] [a] (iJ Q)):=(yw (fs:=[f,g]) (us:=[a,b]) rfl)
@[simp ↓ high] theorem R8 {f h:TgF}{Q:(Fl->St->Prop)}{st:St}:lU [f,g,h] Q (.tup [a,b,c]) st=f c st (kG [g,h] [b,a] (iJ Q)):=(yw (fs:=[f,g,h]) (us:=[a,b,c]) rfl)
@[simp ↓ high] theorem R9 {f:TgF}{st:St}{k:St->Prop}:dB [f,g] (.tup [a,b]) st k=f a st (kG [g] [b] k):=(yx (fs:=[f,g]) (us:=[a,b]) rfl)
@[simp ↓ high] theorem Sa {f h:TgF}{st:St}{k:St->Prop}:dB [f,g,h] (.tup [a,b,c]) st k=f a st (kG [g,h] [b,c] k):=(yx (fs:=[f,g,h]) (us:=[a,b,c]) rfl)
@[simp ↓ high] theorem Sb {l:List (String × V)}(h1:(n == a1)=false):aa n Q X ⟨aj a1 u1 (aj n v l),p,m⟩=Q v ⟨aj a1 u1 (aj n v l),p,m⟩:=(sg h1).trans (si)
@[simp ↓ high] theorem Sd {l:List (String × V)}(h1:(n == a1)=false) (h2:(n == a2)=false):aa n Q X ⟨aj a1 u1 (aj a2 u2 (aj n v l)),p,m⟩=Q v ⟨aj a1 u1 (aj a2 u2 (aj n v l)),p,m⟩:=(sg h1).trans ((sj h2).trans (si))
@[simp ↓ high] theorem Se {l:List (String × V)}(h1:(n == a1)=false) (h2:(n == a2)=false) (h3:(n == a3)=false):aa n Q X ⟨aj a1 u1 (aj a2 u2 (aj a3 u3 (aj n v l))),p,m⟩=Q v ⟨aj a1 u1 (aj a2 u2 (aj a3 u3 (aj n v l))),p,m⟩:=(sg h1).trans ((sj h2).trans ((sj h3).trans (si)))
noncomputable def sy (Q:(List V × (MH->Prop))->St->Prop):V->St->Prop:=fun v st=>d9 st.mh v fun xs chk=>Q (xs,chk) st
@[simp ↓] theorem Sf {Q:(List V × (MH->Prop))->St->Prop}{st:St}:bc T Q X st=T (sy Q) X st:=rfl
@[simp ↓] theorem Sg {Q:(List V × (MH->Prop))->St->Prop}{st:St}:sy Q (.lst xs) st=Q (xs,fun ω=>True) st:=rfl
@[simp ↓] theorem Sh {Q:(List V × (MH->Prop))->St->Prop}{st:St}:sy Q (.tup xs) st=Q (xs,fun ω=>True) st:=rfl
noncomputable def yz (Q:V->St->Prop):List V->St->Prop:=fun us st=>Q (.lst us) st
@[simp ↓] theorem Si {T:Tr (List V)}{st:St}:be T Q X st=T (yz Q) X st:=rfl
@[simp ↓] theorem sz {st:St}:yz Q us st=Q (.lst us) st:=rfl
noncomputable def yB (f:TgF) (cap:List String) (Tc:TB) (Te:TE) (Q:List V->St->Prop):(List V × (MH->Prop))->St->Prop:=fun b st1=>fv b.2 f (df cap st1) Tc Te b.1 [] Q st1
@[simp ↓] theorem Sj {f:TgF}{T:TI}{Q:List V->St->Prop}{st:St}:aU f cap T Tc Te Q X st=T (yB f cap Tc Te Q) X st:=rfl
@[simp ↓] theorem Sk {f:TgF}{chk:MH->Prop}{Q:List V->St->Prop}{st:St}:yB f cap Tc Te Q (xs,chk) st=fv chk f (df cap st) Tc Te xs [] Q st:=rfl
noncomputable def yC (r:Nat) (Q:V->St->Prop):List V->St->Prop:=fun us st=>Q (.ref (r,st.mh.nx r)) { st with mh:=st.mh.new r (.arr us) }
@[simp ↓] theorem Sl {r:Nat}{T:Tr (List V)}{st:St}:nN r T Q X st=T (yC r Q) X st:=rfl
@[simp ↓] theorem Sm {r:Nat}{l:List (String × V)}:yC r Q us ⟨l,p,m⟩=Q (.ref (r,m.nx r)) ⟨l,p,m.new r (.arr us)⟩:=rfl
noncomputable def yD (n:String) (Tb:TS) (Q:Fl->St->Prop) (X:XP):(List V × (MH->Prop))->St->Prop:=fun b st=>ck b.2 n Tb b.1 Q X st
@[simp ↓] theorem yE {T:TI}{Tb:TS}{Q:(Fl->St->Prop)}{st:St}:cG n T Tb Q X st=T (yD n Tb Q X) X st:=rfl
@[simp ↓] theorem Sn {Tb:TS}{chk:MH->Prop}{Q:(Fl->St->Prop)}{st:St}:yD n Tb Q X (xs,chk) st=ck chk n Tb xs Q X st:=rfl
noncomputable def pE (S:Option (Addr × List Int)) (Q:V->St->Prop) (v:V):V->St->Prop:=fun i st=>match i with|.int j=>0<=j/\gB S v (fun us=>Q (.lst (us.take j.toNat)) st)|_=>False
noncomputable def yF (S:Option (Addr × List Int)) (Te:TE) (Q:V->St->Prop) (X:XP):V->St->Prop:=fun v st=>Te (pE S Q v) X st
@[simp ↓] theorem Sp {st:St}:eV S To Te Q X st=To (yF S Te Q X) X st:=rfl
@[simp ↓] theorem Sq {st:St}:yF S Te Q X v st=Te (pE S Q v) X st:=rfl
@[simp ↓] theorem Sr {st:St}:pE S Q (.lst xs) (.int j) st=(0<=j/\xs.length<=10000/\Q (.lst (xs.take j.toNat)) st):=rfl
@[simp ↓] theorem Ss {a a':Addr}{ns:List Int}{st:St}:pE (some (a,ns)) Q (.cst (.ref a')) (.int j) st=(0<=j/\Value.ref a'=.ref a/\Q (.lst ((ns.map V.int).take j.toNat)) st):=rfl
noncomputable def pF (S:Option (Addr × List Int)) (Q:V->St->Prop) (v:V):V->St->Prop:=fun i st=>match i with|.int j=>0<=j/\gB S v (fun us=>Q (.lst (us.drop j.toNat)) st)|_=>False
noncomputable def yG (S:Option (Addr × List Int)) (Te:TE) (Q:V->St->Prop) (X:XP):V->St->Prop:=fun v st=>Te (pF S Q v) X st
@[simp ↓] theorem Su {st:St}:iw S To Te Q X st=To (yG S Te Q X) X st:=rfl
@[simp ↓] theorem Sv {st:St}:yG S Te Q X v st=Te (pF S Q v) X st:=rfl
@[simp ↓] theorem Sw {st:St}:pF S Q (.lst xs) (.int j) st=(0<=j/\xs.length<=10000/\Q (.lst (xs.drop j.toNat)) st):=rfl
@[simp ↓] theorem Sx {a a':Addr}{ns:List Int}{st:St}:pF (some (a,ns)) Q (.cst (.ref a')) (.int j) st=(0<=j/\Value.ref a'=.ref a/\Q (.lst ((ns.map V.int).drop j.toNat)) st):=rfl
noncomputable def yH (Q:V->St->Prop):V->St->Prop:=fun v st=>match v with|.tup (a::b::d::r)=>Q (.tup [a,b]) st|_=>False
@[simp ↓] theorem Sy {st:St}:qX To Q X st=To (yH Q) X st:=rfl
@[simp ↓] theorem Sz {r:List V}{st:St}:yH Q (.tup (a::b::c::r)) st=Q (.tup [a,b]) st:=rfl
@[simp ↓] theorem SA {Q:(V->MH->Prop)}:bTuple [.tup xs] Q X mh=Q (.tup xs) mh:=rfl
@[simp ↓] theorem SB {Q:(V->MH->Prop)}:bTuple [.lst xs] Q X mh=(xs.length<=10000/\Q (.tup xs) mh):=rfl
noncomputable def sE (o:Option MO) (l:aT) (u:V) (Q:V->MH->Prop) (mh:MH):Prop:=match o with|some (.list xs)=>xs.length<=10000/\Q .none (mh.set l (.list (xs++[u])))|_=>False
@[simp ↓] theorem SC {Q:(V->MH->Prop)}:bAppend [.ref l,u] Q X mh=sE (mh.m l) l u Q mh:=rfl
@[simp ↓] theorem IP {Q:V->MH->Prop}:sE (some (.list xs)) l u Q mh=(xs.length<=10000/\Q .none (mh.set l (.list (xs++[u])))):=rfl
@[simp ↓ 2000] theorem SD {Q:V->MH->Prop}(h1:xs.length<=10000):sE (some (.list xs)) l u Q mh=Q .none (mh.set l (.list (xs++[u]))):=IP.trans (propext ⟨fun z=>z.2,fun z=>⟨h1,z⟩⟩)
noncomputable def sG (o:Option MO) (l:aT) (u:V) (Q:V->MH->Prop) (mh:MH):Prop:=match o with|some (.list xs)=>xs.length<=10000/\Q .none (mh.set l (.list (u::xs)))|_=>False
@[simp ↓ high] theorem SE {Q:(V->MH->Prop)}:bInsert [.ref l,.int 0,u] Q X mh=sG (mh.m l) l u Q mh:=propext ⟨fun z=>z.2,fun z=>⟨rfl,z⟩⟩
@[simp ↓] theorem IQ {Q:V->MH->Prop}:sG (some (.list xs)) l u Q mh=(xs.length<=10000/\Q .none (mh.set l (.list (u::xs)))):=rfl
@[simp ↓ 2000] theorem SG {Q:V->MH->Prop}(h1:xs.length<=10000):sG (some (.list xs)) l u Q mh=Q .none (mh.set l (.list (u::xs))):=IQ.trans (propext ⟨fun z=>z.2,fun z=>⟨h1,z⟩⟩)
noncomputable def sH (o:Option MO) (l:aT) (Q:V->MH->Prop) (mh:MH):Prop:=match o with|some (.list (y::ys))=>ys.length<=10000/\Q y (mh.set l (.list ys))|_=>False
@[simp ↓ high] theorem IR {Q:(V->MH->Prop)}:bPop [.ref l,.int 0] Q X mh=sH (mh.m l) l Q mh:=propext ⟨fun z=>z.2,fun z=>⟨rfl,z⟩⟩
@[simp ↓] theorem IS {y:V}{Q:V->MH->Prop}:sH (some (.list (y::ys))) l Q mh=(ys.length<=10000/\Q y (mh.set l (.list ys))):=rfl
@[simp ↓ 2000] theorem SH {y:V}{Q:V->MH->Prop}(h1:ys.length<=10000):sH (some (.list (y::ys))) l Q mh=Q y (mh.set l (.list ys)):=IS.trans (propext ⟨fun z=>z.2,fun z=>⟨h1,z⟩⟩)
noncomputable def yI (o:Option MO) (l:aT) (us:List V) (Q:V->MH->Prop) (mh:MH):Prop:=match o with|some (.list xs)=>xs.length+us.length<=10000/\Q .none (mh.set l (.list (xs++us)))|_=>False
@[simp ↓] theorem SI {Q:(V->MH->Prop)}:bExtend [.ref l,.lst us] Q X mh=yI (mh.m l) l us Q mh:=rfl
@[simp ↓] theorem SJ {Q:V->MH->Prop}:yI (some (.list xs)) l us Q mh=(xs.length+us.length<=10000/\Q .none (mh.set l (.list (xs++us)))):=rfl
noncomputable def sI (o:Option MO) (Q:V->MH->Prop) (mh:MH):Prop:=match o with|some (.list xs)=>xs.length<=10000/\Q (.tup xs) mh|_=>False
@[simp ↓] theorem SK {Q:(V->MH->Prop)}:bTupleL [.ref l] Q X mh=sI (mh.m l) Q mh:=rfl
@[simp ↓] theorem IU {Q:V->MH->Prop}:sI (some (.list xs)) Q mh=(xs.length<=10000/\Q (.tup xs) mh):=rfl
@[simp ↓ 2000] theorem SL {Q:V->MH->Prop}(h1:xs.length<=10000):sI (some (.list xs)) Q mh=Q (.tup xs) mh:=IU.trans (propext ⟨fun z=>z.2,fun z=>⟨h1,z⟩⟩)
noncomputable def yJ (o:Option MO) (Q:V->MH->Prop) (mh:MH):Prop:=match o with|some (.arr xs)=>xs.length<=10000/\Q (.lst xs) mh|_=>False
@[simp ↓] theorem SM {Q:(V->MH->Prop)}:bList [.ref l] Q X mh=yJ (mh.m l) Q mh:=rfl
@[simp ↓] theorem SN {Q:V->MH->Prop}:yJ (some (.arr xs)) Q mh=(xs.length<=10000/\Q (.lst xs) mh):=rfl
@[simp ↓ 1500] theorem SO {p:Prop}[Decidable p] {β:Type}{T F:Tr β}{Q:β->St->Prop}{X:XP}{st:St}:cr T F Q X (decide p) st=if p then T Q X st else F Q X st:=by
 by_cases h:p
 ·rw[IG h,if_pos h]
 ·rw[II h,if_neg h]
@[simp ↓ 1500] theorem SP {p:Prop}[Decidable p] {D:TB}{Q:Bool->St->Prop}{X:XP}{st:St}:dK D Q X (decide p) st=if p then D Q X st else Q false st:=by
 by_cases h:p
 ·rw[IJ h,if_pos h]
 ·rw[IK h,if_neg h]
@[simp ↓ 1500] theorem SQ {p:Prop}[Decidable p] {D:TB}{Q:Bool->St->Prop}{X:XP}{st:St}:dZ D Q X (decide p) st=if p then Q true st else D Q X st:=by
 by_cases h:p
 ·rw[IL h,if_pos h]
 ·rw[IM h,if_neg h]
noncomputable def yK (Q:(List V × (MH->Prop))->St->Prop):List V->St->Prop:=fun us st=>match us with|[.int n]=>0<=n/\n<=1000000/\Q (jN n,fun ω=>True) st|_=>False
@[simp ↓] theorem SS {Q:(List V × (MH->Prop))->St->Prop}{st:St}:ey Ts Q X st=bh Ts (yK Q) X st:=rfl
@[simp ↓] theorem ST {n:Int}{Q:(List V × (MH->Prop))->St->Prop}{st:St}:yK Q [.int n] st=(0<=n/\n<=1000000/\Q (jN n,fun ω=>True) st):=rfl
theorem kr {l:List (String × V)}(h:Q v ⟨l,p,m⟩):dM Q ⟨l,p,m0⟩ v m:=h
theorem IV {a:String}{l:List (String × V)}(h1:l.lookup n=some v) (h:bH m v a (fun u=>F [u] (dM Q ⟨l,p,m⟩) X m)):af F [ae (aa n) a] Q X ⟨l,p,m⟩:=by
 show aa n (kA a (gv (bh []) (eS F Q X) X)) X ⟨l,p,m⟩;rw[tl h1];exact h
theorem gQ {n1:String}{v1:V}{l:List (String × V)}(h1:l.lookup n1=some v1) (h:F [v1] (dM Q ⟨l,p,m⟩) X m):af F [aa n1] Q X ⟨l,p,m⟩:=by
 show aa n1 (gv (bh []) (eS F Q X) X) X ⟨l,p,m⟩;rw[tl h1];exact h
theorem gS {n1 n2 n3:String}{v1 v2 v3:V}{l:List (String × V)}(h1:l.lookup n1=some v1) (h2:l.lookup n2=some v2) (h3:l.lookup n3=some v3) (h:F [v1,v2,v3] (dM Q ⟨l,p,m⟩) X m):af F [aa n1,aa n2,aa n3] Q X ⟨l,p,m⟩:=by
 show aa n1 (gv (bh [aa n2,aa n3]) (eS F Q X) X) X ⟨l,p,m⟩;rw[tl h1];show aa n2 (gv (bh [aa n3]) (jL (eS F Q X) v1) X) X ⟨l,p,m⟩;rw[tl h2];show aa n3 (gv (bh []) (jL (jL (eS F Q X) v1) v2) X) X ⟨l,p,m⟩;rw[tl h3];exact h
theorem aM {l:List (String × V)}:dM (rU n (cV U K X)) ⟨l,p,m0⟩=fun v m=>U K X ⟨aj n v l,p,m⟩:=by
 funext v m;rw[kh,xQ,eI]
theorem aP {l:List (String × V)}:dM (pm K) ⟨l,p,m0⟩=fun ω m=>K .next ⟨l,p,m⟩:=rfl
theorem aO {l:List (String × V)}:dM (pm (cV U K X)) ⟨l,p,m0⟩=fun ω m=>U K X ⟨l,p,m⟩:=by
 funext v m;rw[kh,Ib,eI]
theorem gd {K1 K2:V->MH->Prop}(h:F us K2 X mh) (e:∀ v m,K2 v m=K1 v m):F us K1 X mh:=by
 have:K2=K1:=funext fun v=>funext (e v)
 exact this ▸ h
@[simp ↓] theorem SU {st:St}:kT Q [] st=Q (.tup []) st:=by simp[kT]
@[simp ↓] theorem IW {st:St}:kL Q [] st=Q (.lst []) st:=by simp[kL]
@[simp ↓] theorem SV:([]:List String).zip (([]:List V)++[])=[]:=rfl
@[simp ↓] theorem SX {st:St}:kT Q [a] st=Q (.tup [a]) st:=by simp[kT]
@[simp ↓] theorem SY {st:St}:kL Q [a] st=Q (.lst [a]) st:=by simp[kL]
@[simp ↓] theorem SZ:([p0]:List String).zip (([a]:List V)++[])=[(p0,a)]:=rfl
@[simp ↓] theorem S0 {st:St}:kT Q [a,b] st=Q (.tup [a,b]) st:=by simp[kT]
@[simp ↓] theorem S1 {st:St}:kL Q [a,b] st=Q (.lst [a,b]) st:=by simp[kL]
@[simp ↓] theorem S2:([p0,p1]:List String).zip (([a,b]:List V)++[])=[(p0,a),(p1,b)]:=rfl
@[simp ↓] theorem S3 {st:St}:kT Q [a,b,c] st=Q (.tup [a,b,c]) st:=by simp[kT]
@[simp ↓] theorem S4 {st:St}:kL Q [a,b,c] st=Q (.lst [a,b,c]) st:=by simp[kL]
@[simp ↓] theorem S5:([p0,p1,p2]:List String).zip (([a,b,c]:List V)++[])=[(p0,a),(p1,b),(p2,c)]:=rfl
@[simp ↓] theorem S6 {st:St}:kT Q [a,b,c,d] st=Q (.tup [a,b,c,d]) st:=by simp[kT]
@[simp ↓] theorem S7 {st:St}:kL Q [a,b,c,d] st=Q (.lst [a,b,c,d]) st:=by simp[kL]
@[simp ↓] theorem S8:([p0,p1,p2,p3]:List String).zip (([a,b,c,d]:List V)++[])=[(p0,a),(p1,b),(p2,c),(p3,d)]:=rfl
@[simp ↓] theorem S9 {st:St}:kT Q [a,b,c,d,e] st=Q (.tup [a,b,c,d,e]) st:=by simp[kT]
@[simp ↓] theorem Td:([p0,p1,p2,p3,p4]:List String).zip (([a,b,c,d,e]:List V)++[])=[(p0,a),(p1,b),(p2,c),(p3,d),(p4,e)]:=rfl
@[simp ↓] theorem Tf {f:V}{st:St}:kT Q [a,b,c,d,e,f] st=Q (.tup [a,b,c,d,e,f]) st:=by simp[kT]
@[simp ↓] theorem Th {f:V}:([p0,p1,p2,p3,p4,p5]:List String).zip (([a,b,c,d,e,f]:List V)++[])=[(p0,a),(p1,b),(p2,c),(p3,d),(p4,e),(p5,f)]:=rfl
@[simp ↓] theorem Tj {f g:V}{st:St}:kT Q [a,b,c,d,e,f,g] st=Q (.tup [a,b,c,d,e,f,g]) st:=by simp[kT]
@[simp ↓] theorem Tk {f g:V}:([p0,p1,p2,p3,p4,p5,p6]:List String).zip (([a,b,c,d,e,f,g]:List V)++[])=[(p0,a),(p1,b),(p2,c),(p3,d),(p4,e),(p5,f),(p6,g)]:=rfl
@[simp ↓] theorem Tn {f g h:V}{st:St}:kT Q [a,b,c,d,e,f,g,h] st=Q (.tup [a,b,c,d,e,f,g,h]) st:=by simp[kT]
@[simp ↓] theorem Tp {f g h:V}{st:St}:kL Q [a,b,c,d,e,f,g,h] st=Q (.lst [a,b,c,d,e,f,g,h]) st:=by simp[kL]
end
theorem sJ {mh:MH}{l:aT}{n:String}{k:V->Prop}:bH mh (.ref l) n k=(match mh.m l with|some (.inst C fs)=>aL C fs n k|_=>False):=rfl
theorem IY {C:Nat}{n m:String}{u:V}{r:List (String × V)}{k:V->Prop}:aL C ((m,u)::r) n k=if n=m then k u else aL C r n k:=by
 unfold aL;by_cases h:n=m
 ·subst h;rw[V9,beq_self_eq_true,if_pos rfl]
 ·rw[V9,beq_eq_false_iff_ne.mpr h,if_neg h]
theorem pG {mh:MH}{l:aT}{k:Nat->List (String × V)->Prop}:d8 mh (.ref l) k=(match mh.m l with|some (.inst C fs)=>k C fs|_=>False):=rfl
@[simp ↓] theorem IZ:fR 324 "kind"=some 5:=by decide +kernel
@[simp ↓] theorem I0:fR 346 "kind"=some 6:=by decide +kernel
@[simp ↓] theorem I4:fR 367 "kind"=some 7:=by decide +kernel
@[simp ↓] theorem I5:fR 388 "kind"=some 9:=by decide +kernel
@[simp ↓] theorem I6:fR 409 "kind"=some 10:=by decide +kernel
@[simp ↓ high] theorem Tq {a b:V}{k:V->Prop}:aL 324 [("width",a),("sort",b)] "kind" k=k (.int 5):=by simp[IZ]
@[simp ↓ high] theorem Tt {a b c:V}{k:V->Prop}:aL 346 [("glue",a),("sort",b),("leader",c)] "kind" k=k (.int 6):=by simp[I0]
@[simp ↓ high] theorem Tu {a:V}{k:V->Prop}:aL 367 [("value",a)] "kind" k=k (.int 7):=by simp[I4]
@[simp ↓ high] theorem Tw {a:V}{k:V->Prop}:aL 388 [("tokens",a)] "kind" k=k (.int 9):=by simp[I5]
@[simp ↓ high] theorem Tx {a b c d e f:V}{k:V->Prop}:aL 409 [("number",a),("size",b),("depth",c),("top",d),("cost",e),("items",f)] "kind" k=k (.int 10):=by simp[I6]
@[simp ↓] theorem cK {Q:List V->St->Prop}{X:XP}{st:St}:bh [] Q X st=Q [] st:=rfl
theorem co {T:TE}{Ts:List TE}{Q:List V->St->Prop}{X:XP}{st:St}:bh (T::Ts) Q X st=T (fun v st=>bh Ts (fun vs st=>Q (v::vs) st) X st) X st:=by rw[<- HR];rfl
@[simp ↓] theorem sK {st:St}{k:St->Prop}:dA [] [] st k=k st:=rfl
theorem sL {f:TgF}{fs:List TgF}{u:V}{us:List V}{st:St}{k:St->Prop}:dA (f::fs) (u::us) st k=f u st fun st'=>dA fs us st' k:=rfl
@[simp ↓] theorem l9 {mh:MH}{i j:Int}{k:Bool->Prop}:bv mh (.int i) (.int j) k=k (i == j):=rfl
noncomputable def dG (s:String):Bool:=PyData.strOk (U0 s)
@[simp] theorem sM:dG "b"=true:=by decide +kernel
@[simp] theorem yL:dG "g"=true:=by decide +kernel
@[simp] theorem sN:dG "k"=true:=by decide +kernel
@[simp] theorem yM:dG "p"=true:=by decide +kernel
@[simp] theorem yN:dG "m"=true:=by decide +kernel
@[simp] theorem yO:dG "i"=true:=by decide +kernel
@[simp] theorem iN:dG "page"=true:=by decide +kernel
@[simp] theorem pH:dG "box"=true:=by decide +kernel
@[simp] theorem kt:dG ""=true:=by decide +kernel
@[simp ↓] theorem I7 {mh:MH}{s t:String}{k:Bool->Prop}:bv mh (.str s) (.str t) k=(dG s=true/\dG t=true/\k (decide (s=t))):=by
 have h:(U0 s == U0 t)=decide (s=t):=by
  by_cases e:s=t
  ·subst e;simp
  ·have:U0 s≠U0 t:=fun z=>e (lh z)
   rw[beq_eq_false_iff_ne.mpr this,decide_eq_false e]
 show((V.str s).ok/\(V.str t).ok/\k (PyData.eqv (V.str s).py (V.str t).py))=_;simp[V.ok,Bq,uD,SeqAt.shaped,PyData.eqv,PyData.canLay0,PyData.depth,h,dG]
@[simp ↓] theorem Ty {mh:MH}{s t:Bool}{k:Bool->Prop}:bv mh (.bool s) (.bool t) k=k (s == t):=by
 show((V.bool s).ok/\(V.bool t).ok/\k (PyData.eqv (V.bool s).py (V.bool t).py))=_;simp[V.ok,Bo,Bn,SeqAt.shaped,PyData.eqv,PyData.canLay0,PyData.depth]
theorem mf {i j:Int}(h1:-1073741824 < j) (h2:j < 1073741824):IntMulOk i j:=IntMulOk.of_right (intBits_le_64 (by lia) (by lia))
theorem mi {i j:Int}(h1:-1073741824 < i) (h2:i < 1073741824):IntMulOk i j:=IntMulOk.of_left (intBits_le_64 (by lia) (by lia))
theorem yP {i:Int}:IntMulOk i 297:=mf (by decide) (by decide)
theorem I8 {i:Int}:IntMulOk i 1000:=mf (by decide) (by decide)
theorem bG {i:Int}:IntMulOk 1000 i:=mi (by decide) (by decide)
theorem gf {i:Int}:IntMulOk 100 i:=mi (by decide) (by decide)
theorem gU {i:Int}:IntMulOk 250 i:=mi (by decide) (by decide)
theorem I9 {i:Int}:IntMulOk 5 i:=mi (by decide) (by decide)
section
variable {i t:Int}
variable {Q:V->MH->Prop}{X:XP}{mh:MH}
theorem gh {a b:Int}:fA [.int i,.int a,.int b] Q X mh=Q (.bool (decide (a<=i/\i<=b))) mh:=by
 by_cases h1:a<=i<;>by_cases h2:i<=b<;>simp[fA,T113,h1,h2]
theorem kx:iA [.int i] Q X mh=Q (.int i) mh:=by
 simp[iA,T120]
theorem mj:jS [.int i] Q X mh=(-2147483647<=i/\i<=2147483647/\Q (.int i) mh):=by
 simp[jS,T127,↓kx]
theorem fg:dE [.int i] Q X mh=(-1073741823<=i/\i<=1073741823/\Q (.int i) mh):=by
 simp[dE,T134,↓kx]
noncomputable def iO (v b:Int):Int:=if v < 0 then -((-v).fdiv b)else v.fdiv b
noncomputable def yQ (v b:Int):Int:=if v < 0 then -((-v).fmod b)else v.fmod b
theorem yR {b:Int}(h1:0 < b) (h2:b < 1073741824):lH [.int i,.int b] Q X mh=Q (.tup [.int (iO i b),.int (yQ i b)]) mh:=by
 have n1:¬ b < 0:=by exact AW ‹_› rfl
 have n2:b≠0:=by exact in1 ‹_› rfl
 have n3:b.natAbs < 1073741824:=by lia
 by_cases h:i < 0<;>simp[lH,T169,↓kx,h,n1,n2,n3,iO,yQ]
noncomputable def di (e t:Int):Int:=
 if e=0 then 0 else if t<=0 then 10000 else
 let r:=if e<=7230584 then(e * 297).fdiv t else if t>=1663497 then e.fdiv (t.fdiv 297)else e
 if r > 1290 then 10000 else(r * r * r+131072).fdiv 262144
theorem Ja (h0:0 < t) (h:t < 1073741824):(t.fdiv 297).natAbs < 1073741824:=by
 have:t.fdiv 297=t / 297:=Int.fdiv_eq_ediv_of_nonneg _ (by decide);have a:0<=t / 297:=Int.ediv_nonneg (Int.le_of_lt h0) (by decide);have b:t / 297<=t:=Int.ediv_le_self _ (Int.le_of_lt h0);rw[this];clear this;generalize t / 297=q at *;lia
theorem Jb (h:1663497<=t):t.fdiv 297≠0:=by
 have:t.fdiv 297=t / 297:=Int.fdiv_eq_ediv_of_nonneg _ (by decide);rw[this];lia
theorem pI {e:Int}(he:0<=e) (ht:t < 1073741824):eF [.int e,.int t] Q X mh=Q (.int (di e t)) mh:=by
 have n1:¬ e < 0:=by exact nc ‹_› rfl
 by_cases h0:e=0
 ·simp[eF,T176,h0,di]
 by_cases h1:t<=0
 ·simp[eF,T176,h0,h1,n1,di]
 have t0:t≠0:=by lia
 have tn:t.natAbs < 1073741824:=by lia
 have hr:∀ r:Int,0<=r->r<=1290->IntMulOk r r/\IntMulOk (r * r) r:=fun r a b=>⟨mf (by exact qr ‹_›) (by exact qq ‹_› rfl),mf (by exact qr ‹_›) (by exact qq ‹_› rfl)⟩
 by_cases h2:e<=7230584
 ·have p:0<=(e * 297).fdiv t:=by rw[Int.fdiv_eq_ediv_of_nonneg _ (by lia)];exact Int.ediv_nonneg (by lia) (by lia)
  by_cases h3:(e * 297).fdiv t > 1290
  ·simp[eF,T176,h0,h1,n1,h2,h3,t0,tn,di,yP]
  ·have:=hr _ p (Z6.mp h3);simp[eF,T176,h0,h1,n1,h2,h3,t0,tn,di,yP,this]
 ·by_cases h4:t>=1663497
  ·have q0:0<=t.fdiv 297:=by rw[Int.fdiv_eq_ediv_of_nonneg _ (by decide)];lia
   have p:0<=e.fdiv (t.fdiv 297):=by rw[Int.fdiv_eq_ediv_of_nonneg _ q0];exact Int.ediv_nonneg (by assumption) q0
   have d1:=Jb h4;have d2:=Ja (by exact AV ‹_› rfl) ht;by_cases h3:e.fdiv (t.fdiv 297) > 1290
   ·simp[eF,T176,h0,h1,n1,h2,h3,h4,t0,tn,di,d1,d2]
   ·have:=hr _ p (Z6.mp h3);simp[eF,T176,h0,h1,n1,h2,h3,h4,t0,tn,di,d1,d2,this]
  ·have h3:e > 1290:=by lia
   simp[eF,T176,h0,h1,n1,h2,h3,h4,t0,tn,di]
end
noncomputable def MH.bump (mh:MH):MH:={ m:=fun k=>if k=(0,mh.nx 0)then none else mh.m k,nx:=fun q=>if q=0 then mh.nx 0+1 else mh.nx q }
theorem dH {mh:MH}{r:Nat}{o:MO}:(mh.new r o).m (r,mh.nx r)=some o:=by simp[MH.new]
theorem ky {mh:MH}{l:aT}{o:MO}:(mh.set l o).m l=some o:=by simp[MH.set]
theorem Jc {mh:MH}{l:aT}{o o':MO}:(mh.set l o).set l o'=mh.set l o':=by
 unfold MH.set;dsimp only;congr 1;funext k;by_cases h:k=l<;>simp[h]
theorem dU {mh:MH}{r:Nat}{o o':MO}:(mh.new r o).set (r,mh.nx r) o'=mh.new r o':=by
 unfold MH.set MH.new;dsimp only;congr 1;funext k;by_cases h:k=(r,mh.nx r)<;>simp[h]
theorem eJ {mh:MH}{o:MO}:(mh.new 0 o).drop (0,mh.nx 0)=mh.bump:=by
 unfold MH.drop MH.new MH.bump;dsimp only;congr 1;funext k;by_cases h:k=(0,mh.nx 0)<;>simp[h]
@[simp ↓ high] theorem Tz {C r:Nat}{n:String}{v:V}{fs lo:List (String × V)}{Q:Fl->St->Prop}{p:List String}{mh:MH}(h:sv fs) (k:sq n fs) :
  dF C n Q v (.ref (r,mh.nx r)) ⟨lo,p,mh.new r (.inst C fs)⟩=Q .next ⟨lo,p,mh.new r (.inst C (fs++[(n,v)]))⟩:=by
 rw[xV,show St.mh ⟨lo,p,mh.new r (.inst C fs)⟩=mh.new r (.inst C fs)from rfl,dH,Iw h,dU,Iv k]
noncomputable def aZ (i:Int):Prop:=-1073741823<=i/\i<=1073741823
structure Gl where
 w:Int
 s:Int
 o:Int
 sh:Int
 so:Int
noncomputable def Gl.v (g:Gl):V:=.obj 258 [("width",.int g.w),("stretch",.int g.s),("stretch_order",.int g.o),("shrink",.int g.sh),("shrink_order",.int g.so)]
noncomputable def cy (w s o sh so:Int):Gl:=⟨w,s,if s=0 then 0 else o,sh,if sh=0 then 0 else so⟩
inductive At where
|box (l h d:Int)
|skip (g:Gl) (sort:Int)
|pen (v:Int)
noncomputable def At.ctorIdx (x:At):Nat:=@At.casesOn (fun ω=>Nat) x (fun ω ω ω=>0) (fun ω ω=>1) (fun ω=>2)
noncomputable def At.v:At->V
|.box l h d=>.obj 303 [("kind",.int 2),("width",.int l),("height",.int h),("depth",.int d),("items",.lst []),("shift",.int 0),("sign",.int 0),("order",.int 0),("ratio",.tup [.int 0,.int 1])]
|.skip g s=>.obj 346 [("glue",g.v),("sort",.int s),("leader",.none)]
|.pen v=>.obj 367 [("value",.int v)]
theorem fH {l h d:Int}:(At.box l h d).v=.obj 303 [("kind",.int 2),("width",.int l),("height",.int h),("depth",.int d),("items",.lst []),("shift",.int 0),("sign",.int 0),("order",.int 0),("ratio",.tup [.int 0,.int 1])]:=rfl
theorem fJ {g:Gl}{s:Int}:(At.skip g s).v=.obj 346 [("glue",g.v),("sort",.int s),("leader",.none)]:=rfl
theorem fK {v:Int}:(At.pen v).v=.obj 367 [("value",.int v)]:=rfl
inductive Nd where
|atm (a:At)
|kern (w:Int)
|mark (t:Int)
|ins (num size deep tw cost:Int) (ps:List At)
noncomputable def Nd.ctorIdx (x:Nd):Nat:=@Nd.casesOn (fun ω=>Nat) x (fun ω=>0) (fun ω=>1) (fun ω=>2) (fun ω ω ω ω ω ω=>3)
noncomputable def At.cs {α:Type}(b:Int->Int->Int->α) (s:Gl->Int->α) (p:Int->α) (a:At):α:=At.rec (motive:=fun ω=>α) b s p a
noncomputable def Nd.cs {α:Type}(f:At->α) (k m:Int->α) (i:α) (n:Nd):α:=Nd.rec (motive:=fun ω=>α) f k m (fun ω ω ω ω ω ω=>i) n
section
variable {α:Type}{b:Int->Int->Int->α}{s:Gl->Int->α}{p k m:Int->α}{f:At->α}{i:α}{x y z u v:Int}{g:Gl}{ps:List At}{a:At}
@[simp] theorem TA:At.cs b s p (.box x y z)=b x y z:=rfl
@[simp] theorem TC:At.cs b s p (.skip g x)=s g x:=rfl
@[simp] theorem TD:At.cs b s p (.pen x)=p x:=rfl
@[simp] theorem TF:Nd.cs f k m i (.atm a)=f a:=rfl
@[simp] theorem TG:Nd.cs f k m i (.kern x)=k x:=rfl
@[simp] theorem TH:Nd.cs f k m i (.mark x)=m x:=rfl
@[simp] theorem TJ:Nd.cs f k m i (.ins x y z u v ps)=i:=rfl
end
noncomputable def Nd.v:Nd->V
|.atm a=>a.v
|.kern w=>.obj 324 [("width",.int w),("sort",.int 1)]
|.mark t=>.obj 388 [("tokens",.tup [.tup [.int 11,.int t]])]
|.ins num size deep tw cost ps=>.obj 409 [("number",.int num),("size",.int size),("depth",.int deep),("top",(Gl.v ⟨tw,0,0,0,0⟩)),("cost",.int cost),("items",.lst (ps.map At.v))]
theorem sO {a:At}:(Nd.atm a).v=a.v:=rfl
theorem sP {w:Int}:(Nd.kern w).v=.obj 324 [("width",.int w),("sort",.int 1)]:=rfl
theorem sQ {t:Int}:(Nd.mark t).v=.obj 388 [("tokens",.tup [.tup [.int 11,.int t]])]:=rfl
theorem sS {num size deep tw cost:Int}{ps:List At}:(Nd.ins num size deep tw cost ps).v=.obj 409 [("number",.int num),("size",.int size),("depth",.int deep),("top",(Gl.v ⟨tw,0,0,0,0⟩)),("cost",.int cost),("items",.lst (ps.map At.v))]:=rfl
section
variable {w s h d:Int}{o:MO}{g:Gl}{n:String}{k:V->Prop}
variable {Q:V->MH->Prop}{X:XP}{mh:MH}
theorem jw {o sh so:Int}:K258_5 [.int w,.int s,.int o,.int sh,.int so] Q X mh =
  (0<=o/\o<=3/\0<=so/\so<=3/\aZ w/\aZ s/\aZ sh/\Q (cy w s o sh so).v mh.bump):=by
 by_cases h1:s=0<;>by_cases h2:sh=0<;>
  simp[K258_5,ol,T205,↓gh,↓fg,dH,dU,eJ,h1,h2,cy,Gl.v,aZ,and_assoc]
theorem pJ:K258_0 [] Q X mh=Q (Gl.v ⟨0,0,0,0,0⟩) mh.bump:=by
 simp[K258_0,oj,T205,↓gh,↓fg,dH,dU,eJ,Gl.v]
theorem Jd:K258_1 [.int w] Q X mh=(aZ w/\Q (Gl.v ⟨w,0,0,0,0⟩) mh.bump):=by
 simp[K258_1,oY,T205,↓gh,↓fg,dH,dU,eJ,Gl.v,aZ,and_assoc]
theorem sT {l:Int}:K303 [.int 2,.int l,.int h,.int d,.lst []] Q X mh=(aZ l/\aZ h/\aZ d/\Q (At.box l h d).v mh.bump):=by
 simp[K303,oq,T300,↓gh,↓fg,dH,dU,eJ,fH,fJ,fK,aZ,and_assoc]
theorem Je:K324 [.int w,.int 1] Q X mh=(aZ w/\Q (Nd.kern w).v mh.bump):=by
 simp[K324,ou,T321,↓gh,↓fg,dH,dU,eJ,sO,sP,sQ,sS,aZ,and_assoc]
theorem ml (hs:s=0\/s=107):K346_2 [g.v,.int s] Q X mh=Q (At.skip g s).v mh.bump:=by
 rcases hs with rfl|rfl<;>simp[K346_2,ow,T343,↓gh,↓fg,dH,dU,eJ,fH,fJ,fK]
theorem Jf {v:Int}:K367 [.int v] Q X mh=(-2147483647<=v/\v<=2147483647/\Q (At.pen v).v mh.bump):=by
 simp[K367,oA,T364,↓mj,dH,dU,eJ,fH,fJ,fK]
theorem Jg {t:Int}:K388 [.tup [.tup [.int 11,.int t]]] Q X mh=Q (Nd.mark t).v mh.bump:=by
 simp[K388,oB,T385,dH,dU,eJ,sO,sP,sQ,sS]
theorem sU {n size deep tw cost:Int}{ps:List At}{xs:List V}(hx:xs=ps.map At.v):K409 [.int n,.int size,.int deep,Gl.v ⟨tw,0,0,0,0⟩,.int cost,.lst xs] Q X mh =
  (0<=n/\n<=254/\aZ size/\aZ deep/\-2147483647<=cost/\cost<=2147483647/\Q (Nd.ins n size deep tw cost ps).v mh.bump):=by
 subst hx;simp[K409,oE,T406,↓gh,↓mj,↓fg,dH,dU,eJ,sO,sP,sQ,sS,aZ,and_assoc]
structure Pg where
 place:Int
 pen:Int
 cost:Int
 size:Int
noncomputable def Pg.v (p:Pg):V:=.obj 695 [("place",.int p.place),("penalty",.int p.pen),("cost",.int p.cost),("size",.int p.size)]
theorem yS {a b c:Int}:K695 [.int a,.int b,.int c,.int d] Q X mh=Q (Pg.v ⟨a,b,c,d⟩) mh.bump:=by
 simp[K695,oN,T692,dH,dU,eJ,Pg.v]
structure Cl where
 num:Int
 factor:Int
 most:Int
 skip:Gl
 held:Int
noncomputable def Cl.v (c:Cl):V:=.obj 623 [("number",.int c.num),("factor",.int c.factor),("most",.int c.most),("skip",c.skip.v),("held",.int c.held)]
theorem Jh {n f m:Int}:K623_5 [.int n,.int f,.int m,g.v,.int h] Q X mh=(0<=n/\n<=254/\-2147483647<=f/\f<=2147483647/\aZ m/\Q (Cl.v ⟨n,f,m,g,h⟩) mh.bump):=by
 simp[K623_5,oK,T613,↓gh,↓kx,↓mj,↓fg,dH,dU,eJ,Cl.v,Gl.v,aZ,and_assoc]
theorem Ji {n f m:Int}:K623_4 [.int n,.int f,.int m,g.v] Q X mh=(0<=n/\n<=254/\-2147483647<=f/\f<=2147483647/\aZ m/\Q (Cl.v ⟨n,f,m,g,0⟩) mh.bump):=by
 simp[K623_4,oJ,T613,↓gh,↓kx,↓mj,↓fg,dH,dU,eJ,Cl.v,Gl.v,aZ,and_assoc]
theorem Jj:((mh.new 0 o).bump).m (0,mh.nx 0)=some o:=by simp[MH.new,MH.bump]
theorem Jk {o':MO}:((mh.new 0 o).bump).set (0,mh.nx 0) o'=(mh.new 0 o').bump:=by
 unfold MH.set MH.new MH.bump;dsimp only;congr 1;funext k;by_cases h:k=(0,mh.nx 0)<;>simp[h]
theorem Jl:((mh.new 0 o).bump).drop (0,mh.nx 0)=mh.bump.bump:=by
 unfold MH.drop MH.new MH.bump;dsimp only;congr 1;funext k;by_cases h:k=(0,mh.nx 0)<;>simp[h]
theorem Jm {n:Int}:K623_1 [.int n] Q X mh=(0<=n/\n<=254/\Q (Cl.v ⟨n,1000,1073741823,⟨0,0,0,0,0⟩,0⟩) mh.bump.bump):=by
 simp[K623_1,oI,T613,↓gh,↓kx,↓mj,↓fg,↓pJ,dH,dU,eJ,Jj,Jk,Jl,Cl.v,Gl.v,and_assoc]
@[simp ↓] theorem TK {l:Int}:bH mh (At.box l h d).v n k=aL 303 [("kind",.int 2),("width",.int l),("height",.int h),("depth",.int d),("items",.lst []),("shift",.int 0),("sign",.int 0),("order",.int 0),("ratio",.tup [.int 0,.int 1])] n k:=rfl
@[simp ↓] theorem Jn:bH mh (At.skip g s).v n k=aL 346 [("glue",g.v),("sort",.int s),("leader",.none)] n k:=rfl
@[simp ↓] theorem TL {v:Int}:bH mh (At.pen v).v n k=aL 367 [("value",.int v)] n k:=rfl
@[simp ↓] theorem TM:bH mh g.v n k=aL 258 [("width",.int g.w),("stretch",.int g.s),("stretch_order",.int g.o),("shrink",.int g.sh),("shrink_order",.int g.so)] n k:=rfl
@[simp ↓] theorem TN {p:Pg}:bH mh p.v n k=aL 695 [("place",.int p.place),("penalty",.int p.pen),("cost",.int p.cost),("size",.int p.size)] n k:=rfl
@[simp ↓] theorem TO {c:Cl}:bH mh c.v n k=aL 623 [("number",.int c.num),("factor",.int c.factor),("most",.int c.most),("skip",c.skip.v),("held",.int c.held)] n k:=rfl
@[simp ↓] theorem TP {c:Cl}{k:Nat->List (String × V)->Prop}:d8 mh c.v k=k 623 [("number",.int c.num),("factor",.int c.factor),("most",.int c.most),("skip",c.skip.v),("held",.int c.held)]:=rfl
@[simp ↓] theorem TQ {k:Nat->List (String × V)->Prop}:d8 mh g.v k=k 258 [("width",.int g.w),("stretch",.int g.s),("stretch_order",.int g.o),("shrink",.int g.sh),("shrink_order",.int g.so)]:=rfl
@[simp ↓] theorem TR:bH mh (Nd.kern w).v n k=aL 324 [("width",.int w),("sort",.int 1)] n k:=rfl
@[simp ↓] theorem TT {t:Int}:bH mh (Nd.mark t).v n k=aL 388 [("tokens",.tup [.tup [.int 11,.int t]])] n k:=rfl
@[simp ↓] theorem Jo {num size deep tw cost:Int}{ps:List At}:bH mh (Nd.ins num size deep tw cost ps).v n k=aL 409 [("number",.int num),("size",.int size),("depth",.int deep),("top",(Gl.v ⟨tw,0,0,0,0⟩)),("cost",.int cost),("items",.lst (ps.map At.v))] n k:=rfl
@[simp ↓] theorem TU {a:At}:bH mh (Nd.atm a).v n k=bH mh a.v n k:=rfl
theorem Jp:∀ xs:List Int,V.dats (xs.map .int)=true/\PyData.canLayAll0 (V.pys (xs.map .int))=true/\PyData.depthAll (V.pys (xs.map .int))=0:=by
 intro ll;induction ll with
|nil=>
  exact⟨rfl,rfl,rfl⟩
|cons x xs IH=>
  exact by
    obtain⟨a,b,c⟩:=IH;simp[uE,Bp,ii,ni,PyData.canLayAll0,PyData.canLay0,PyData.depthAll,PyData.depth,a,b,c]
theorem Jq (i:Int):∀ xs:List Int,((V.pys (xs.map .int)).any fun y=>PyData.eqv y (V.int i).py)=xs.any (· == i):=by
 intro ll;induction ll with
|nil=>
  exact rfl
|cons x xs IH=>
  exact by
    have:=IH;simp[ii,ni,PyData.eqv]at this ⊢;rw[this]
@[simp ↓] theorem pK {i:Int}{xs:List Int}{k:Bool->Prop}:cW (.int i) (.tup (xs.map .int)) k=k (xs.any (· == i)):=by
 obtain⟨a,b,c⟩:=Jp xs;have d:(V.int i).ok:=⟨rfl,rfl⟩;have e:(V.tup (xs.map .int)).ok:=⟨by simp[Br,a],by simp[jI,SeqAt.shaped,PyData.canLay0,PyData.depth,b,c]⟩;unfold cW;dsimp only;rw[Jq];exact propext ⟨fun h=>h.2.2,fun h=>⟨d,e,h⟩⟩
@[simp ↓] theorem TV {i a b c:Int}{k:Bool->Prop}:cW (.int i) (.tup [.int a,.int b,.int c,.int d]) k=k ([a,b,c,d].any (· == i)):=pK (xs:=[a,b,c,d])
end
theorem kz {chk:MH->Prop}{n:String}{Tb:TS}{Q:Fl->St->Prop}{X:XP}{st:St}:ck chk n Tb [] Q X st=(chk st.mh/\Q .next st):=rfl
theorem gj {chk:MH->Prop}{n:String}{Tb:TS}{u:V}{us:List V}{Q:Fl->St->Prop}{X:XP}{st:St}:ck chk n Tb (u::us) Q X st=(chk st.mh/\Tb (cV (ck chk n Tb us) Q X) X (st.put n u)):=
 congrArg (fun q=>chk st.mh/\Tb q X (st.put n u)) (funext fun f=>by cases f<;>rfl)
noncomputable def kW (C:TB) (Tb:TS) (k:Nat) (Q:Fl->St->Prop) (X:XP):Bool->St->Prop:=fun b st=>if b=true then Tb (cV (ip C Tb k) Q X) X st else Q .next st
theorem sV {C:TB}{Tb:TS}{k:Nat}{Q:Fl->St->Prop}{X:XP}{st:St}:ip C Tb (k+1) Q X st=C (kW C Tb k Q X) X st:=
 congrArg (fun q=>C q X st) (funext fun b=>funext fun st=>congrArg (fun q=>if b=true then Tb q X st else Q .next st) (funext fun f=>by cases f<;>rfl))
theorem yT {C:TB}{Tb:TS}{k:Nat}{Q:Fl->St->Prop}{X:XP}{st:St}:kW C Tb k Q X false st=Q .next st:=rfl
theorem Js {C:TB}{Tb:TS}{k:Nat}{Q:Fl->St->Prop}{X:XP}{st:St}:kW C Tb k Q X true st=Tb (cV (ip C Tb k) Q X) X st:=rfl
structure Col where
 h:Int
 d:Int
 s0:Int
 s1:Int
 s2:Int
 s3:Int
 sh:Int
noncomputable def MH.col (mh:MH) (c:Col):MH:=
 { m:=fun k=>if k=(0,mh.nx 0)then some (.inst 535 [("height",.int c.h),("depth",.int c.d),("stretch",.ref (0,mh.nx 0+1)),("shrink",.int c.sh)])
   else if k=(0,mh.nx 0+1)then some (.arr [.int c.s0,.int c.s1,.int c.s2,.int c.s3])else mh.m k,nx:=fun q=>if q=0 then mh.nx 0+2 else mh.nx q }
noncomputable def Col.stand (c:Col) (h d:Int):Col:={ c with h:=c.h+c.d+h,d:=d }
noncomputable def Col.keep (c:Col) (m:Int):Col:=if c.d > m then{ c with h:=c.h+c.d - m,d:=m }else c
noncomputable def Col.flow (c:Col) (g:Gl):Col:=
 { h:=c.h+c.d+g.w,d:=0,s0:=if g.o=0 then c.s0+g.s else c.s0,s1:=if g.o=1 then c.s1+g.s else c.s1,s2:=if g.o=2 then c.s2+g.s else c.s2,s3:=if g.o=3 then c.s3+g.s else c.s3,sh:=c.sh+g.sh }
noncomputable def Col.cost (c:Col) (goal:Int):Int:=
 if c.h < goal then(if c.s1≠0\/c.s2≠0\/c.s3≠0 then 0 else di (goal - c.h) c.s0)
 else if c.h - goal > c.sh then 1073741823 else di (c.h - goal) c.sh
section
variable {d:Int}{o:MO}
variable {Q:V->MH->Prop}{X:XP}{mh:MH}{c:Col}
theorem dj:(mh.col c).m (0,mh.nx 0)=some (.inst 535 [("height",.int c.h),("depth",.int c.d),("stretch",.ref (0,mh.nx 0+1)),("shrink",.int c.sh)]):=by simp[MH.col]
theorem pL:(mh.col c).m (0,mh.nx 0+1)=some (.arr [.int c.s0,.int c.s1,.int c.s2,.int c.s3]):=by simp[MH.col]
theorem pM {h s:Int}:(mh.col c).set (0,mh.nx 0) (.inst 535 [("height",.int h),("depth",.int d),("stretch",.ref (0,mh.nx 0+1)),("shrink",.int s)])=mh.col { c with h:=h,d:=d,sh:=s }:=by
 unfold MH.set MH.col;dsimp only;congr 1;funext k;by_cases e:k=(0,mh.nx 0)<;>simp[e]
theorem yU {a b e:Int}:(mh.col c).set (0,mh.nx 0+1) (.arr [.int a,.int b,.int d,.int e])=mh.col { c with s0:=a,s1:=b,s2:=d,s3:=e }:=by
 unfold MH.set MH.col;dsimp only;congr 1;funext k;by_cases h:k=(0,mh.nx 0)
 ·subst h;simp
 ·by_cases h2:k=(0,mh.nx 0+1)<;>simp[h,h2]
theorem Jt {a b e:Int}:((mh.new 0 o).new 0 (.arr [.int a,.int b,.int d,.int e])).set (0,mh.nx 0) (.inst 535 [("height",.int 0),("depth",.int 0),("stretch",.ref (0,mh.nx 0+1)),("shrink",.int 0)])=mh.col ⟨0,0,a,b,d,e,0⟩:=by
 unfold MH.set MH.col MH.new;dsimp only;congr 1
 ·funext k;by_cases h:k=(0,mh.nx 0)
  ·subst h;simp
  ·by_cases h2:k=(0,mh.nx 0+1)<;>simp[h,h2]
 ·funext q;by_cases h:q=0<;>simp[h]
theorem Ju {o':MO}:((mh.new 0 o).new 0 o').m (0,mh.nx 0)=some o:=by simp[MH.new]
theorem Jv:(mh.new 0 o).nx 0=mh.nx 0+1:=by simp[MH.new]
theorem Jw:oF 0 [] Q X mh=Q (.ref (0,mh.nx 0)) (mh.col ⟨0,0,0,0,0,0,0⟩):=by
 simp[oF,rn,T504,dH,dU,Jv,Ju,ky,Jc,Jt]
theorem Jx {l h:Int}:lI [.ref (0,mh.nx 0),(At.box l h d).v] Q X (mh.col c)=Q .none (mh.col (c.stand h d)):=by
 simp[lI,T511,fH,fJ,fK,Col.stand,dj,pM]
theorem pN {m:Int}:lJ [.ref (0,mh.nx 0),.int m] Q X (mh.col c)=Q .none (mh.col (c.keep m)):=by
 by_cases h:c.d > m<;>simp[lJ,T518,Col.keep,dj,pM,h]
theorem Jy {xs:List V}{k:V->Prop}{n:Nat}(h:n < 1000000):b5 xs (n:Int) k=(match xs[n]? with|some u=>k u|none=>False):=by
 have:(n:Int) < 1000000:=by exact AX ‹_› rfl
 refine(l7 (Z3 n) this).trans ?_;show ee xs[n]? k=_;cases xs[n]?<;>rfl
theorem yV {g:Gl}{s:Int}(ho:g.o=0\/g.o=1\/g.o=2\/g.o=3):jV [.ref (0,mh.nx 0),(At.skip g s).v] Q X (mh.col c) =
  (if g.so≠0 then X 76 (mh.col c)else Q .none (mh.col (c.flow g))):=by
 by_cases h:g.so=0
 ·have ho:km g.o:=ho;simp[jV,T525,fH,fJ,fK,Gl.v,Col.flow,dj,pL,pM,yU,h,ho]
 ·simp[jV,T525,fH,fJ,fK,Gl.v,Col.flow,dj,pL,pM,yU,h]
theorem Jz {goal:Int}(h0:c.s0 < 1073741824) (h1:c.sh < 1073741824):lK [.ref (0,mh.nx 0),.int goal] Q X (mh.col c)=Q (.int (c.cost goal)) (mh.col c):=by
 by_cases h:c.h < goal
 ·have n:0<=goal - c.h:=by lia
  by_cases a1:c.s1=0<;>by_cases a2:c.s2=0<;>by_cases a3:c.s3=0<;>simp[lK,T532,Col.cost,dj,pL,h,a1,a2,a3,↓pI n h0]
 ·have n:0<=c.h - goal:=by lia
  by_cases a:c.h - goal > c.sh<;>simp[lK,T532,Col.cost,dj,pL,h,a,↓pI n h1]
end
noncomputable def At.isBox (a:At):Bool:=a.cs (fun ω ω ω=>true) (fun ω ω=>false) fun ω=>false
noncomputable def cz (ps:List At) (p:Nat):Option Int:=
 if p=ps.length then some (-10000)else match ps[p]? with
|some (.pen v)=>some v
|some (.skip ..)=>if 0 < p/\(ps[p - 1]?.any At.isBox)=true then some 0 else none
|_=>none
noncomputable def kB:Option Int->V
|some i=>.int i
|none=>.none
theorem ca {i:Int}:kB (some i)=.int i:=rfl
theorem cb:kB none=.none:=rfl
noncomputable def dw (c:Col) (goal pen:Int):Int:=
 if c.cost goal=1073741823 then 1073741823 else if pen<=-10000 then pen else if c.cost goal < 10000 then c.cost goal+pen else 100000
noncomputable def Col.next (c:Col) (D:Int):Option At->Option Col
|some (.box _ h d)=>some ((c.stand h d).keep D)
|some (.skip g _)=>if g.so≠0 then none else some ((c.flow g).keep D)
|some (.pen _)=>some (c.keep D)
|none=>some c
theorem sW {c:Col}{D s:Int}{g:Gl}:c.next D (some (.skip g s))=if g.so≠0 then none else some ((c.flow g).keep D):=rfl
noncomputable def cR (c:Col) (H:Int) (p:Nat) (q:Option Int) (r:Int × Int × Int):(Int × Int × Int) × Bool:=match q with
|some q=>if q < 10000 then(if dw c H q<=r.2.1 then((p:Int),dw c H q,c.h+c.d)else r,decide (dw c H q=1073741823\/q<=-10000))else(r,false)
|none=>(r,false)
theorem mm {c:Col}{H:Int}{p:Nat}{q:Int}{r:Int × Int × Int}:cR c H p (some q) r=if q < 10000 then(if dw c H q<=r.2.1 then((p:Int),dw c H q,c.h+c.d)else r,decide (dw c H q=1073741823\/q<=-10000))else(r,false):=rfl
theorem sX {c:Col}{H:Int}{p:Nat}{r:Int × Int × Int}:cR c H p none r=(r,false):=rfl
noncomputable def ek (ps:List At) (H D:Int):List Nat->Col->Int × Int × Int->Option (Int × Int × Int)
|[],_,r=>some r
|p::is,c,r=>if (cR c H p (cz ps p) r).2 then some (cR c H p (cz ps p) r).1 else(c.next D ps[p]?).bind fun c'=>ek ps H D is c' (cR c H p (cz ps p) r).1
theorem jx {ps:List At}{H D:Int}{p:Nat}{is:List Nat}{c:Col}{r:Int × Int × Int}:ek ps H D (p::is) c r=if (cR c H p (cz ps p) r).2 then some (cR c H p (cz ps p) r).1 else(c.next D ps[p]?).bind fun c'=>ek ps H D is c' (cR c H p (cz ps p) r).1:=rfl
noncomputable def bb (ps:List At) (H D:Int):Option (Int × Int × Int):=ek ps H D (List.range (ps.length+1)) ⟨0,0,0,0,0,0,0⟩ (ps.length,1073741823,0)
noncomputable def At.Ok:At->Prop
|.box _ h d=>0<=h/\h<=1000000/\0<=d/\d<=1000000
|.skip g s=>0<=g.w/\g.w<=10000/\0<=g.s/\g.s<=10000/\0<=g.sh/\g.sh<=10000/\(g.o=0\/g.o=1\/g.o=2\/g.o=3)/\0<=g.so/\g.so<=3/\(s=0\/s=107)
|.pen v=>-2147483647<=v/\v<=2147483647
section
variable {a:At}
variable {Q:V->MH->Prop}{X:XP}{mh:MH}{c:Col}
theorem JA {Q:V->St->Prop}{l:List (String × V)}:dD (aS (ag .Eq (ae (aa "node") "kind") (tK (.int 6)))) (dD (aS (ag .Eq (ae (aa "node") "kind") (tK (.int 5)))) (dD (aS (ag .Eq (ae (aa "node") "kind") (tK (.int 7)))) (aS (ag .Eq (ae (aa "node") "kind") (tK (.int 12)))))) Q X ⟨[("node",a.v)],[],mh⟩ =
  Q (.bool (!a.isBox)) ⟨[("node",a.v)],[],mh⟩:=by
 cases a<;>simp[fH,fJ,fK,At.isBox]
theorem JB:fB [a.v] Q X mh=Q (.bool (!a.isBox)) mh:=by
 show(1=1/\dD _ _ _ _ _)=_;rw[eq_self,true_and];exact JA (l:=[]) (Q:=fun v st=>Q v st.mh)
theorem JC:ji [a.v] Q X mh=Q (.bool a.isBox) mh:=by
 simp[ji,T482,↓JB]
noncomputable def sY:TS:=ak (aV (ag .Eq (ae (aa "node") "kind") (tK (.int 0))) (aV (ag .Eq (ae (aa "node") "kind") (tK (.int 1))) (aV (ag .Eq (ae (aa "node") "kind") (tK (.int 8))) (ag .Eq (ae (aa "node") "kind") (tK (.int 12)))))) tNo tNil
theorem JD {Q:Fl->St->Prop}{st:St}:sY Q X (st.put "node" a.v)=Q .next (st.put "node" a.v):=by
 cases a<;>simp[sY,fH,fJ,fK,ax,aX]
theorem JE:∀ (ps:List At) (st:St),ck (fun ω=>True) "node" sY (ps.map At.v) (fun fl st=>Q fl.val st.mh) X st=Q .none st.mh:=by
 intro ll;induction ll with
|nil=>
  intro st;exact by rw[List.map_nil,kz];exact true_and _
|cons a ps IH=>
  intro st;exact by
    rw[V1,gj,JD];show(True/\ck _ _ _ _ _ _ _)=_;rw[IH,true_and];rfl
theorem JF (ps:List At):rm [.lst (ps.map At.v)] Q X mh=Q .none mh:=by
 have:=JE (Q:=Q) (X:=X) ps ⟨[("items",.lst (ps.map At.v))],[],mh⟩;rw[<- this];show(1=1/\T489 _ _ _)=_;unfold T489;rw[eq_self,true_and,kc,gN,cI];rfl
theorem JG {ps:List At}{p:Nat}(hp:p<=ps.length) (hl:ps.length<=1000):fU [.lst (ps.map At.v),.int p] Q X mh=Q (kB (cz ps p)) mh:=by
 have l0:ps.length<=1000000:=by exact ba ‹_› rfl
 by_cases h:p=ps.length
 ·subst h;simp[fU,T546,cz,ca,cb,l0]
 ·have hlt:p < ps.length:=Nat.lt_of_le_of_ne hp h;have p0:(p:Int) < 1000000:=by lia
  obtain⟨a,ha⟩:∃ a,ps[p]?=some a:=⟨ps[p],W9 hlt⟩;have hi:¬ (p:Int)=ps.length:=by lia
  induction a with
 |box l h' d=>simp[fU,T546,cz,ca,cb,l0,h,hi,p0,ha,fH,fJ,fK]
 |pen v=>simp[fU,T546,cz,ca,cb,l0,h,hi,p0,ha,fH,fJ,fK]
 |skip g s=>
   by_cases hz:p=0
   ·subst hz;have hi0:¬ (0:Int)=ps.length:=by lia
    simp[fU,T546,cz,ca,cb,l0,h,hi0,p0,ha,fH,fJ,fK]
   ·have z1:0 < p:=Nat.pos_of_ne_zero hz;have z2:(p:Int) - 1=((p - 1:Nat):Int):=(Int.ofNat_sub z1).symm;have z3:((p - 1:Nat):Int) < 1000000:=Int.lt_of_le_of_lt (Int.ofNat_le.mpr (Nat.sub_le p 1)) p0;obtain⟨b,hb⟩:∃ b,ps[p - 1]?=some b:=⟨ps[p - 1],W9 (Y9 (Nat.sub_le p 1) hlt)⟩;have hb':ps[((p:Int) - 1).toNat]?=some b:=by rw[z2];exact hb
    have z6:(1:Int)<=p:=Int.ofNat_le.mpr z1;have z4:(0:Int)<=(p:Int) - 1:=Int.sub_nonneg_of_le z6;have z5:(p:Int) - 1 < 1000000:=Int.lt_of_le_of_lt (Int.sub_le_self _ (by decide)) p0;have hv:(At.skip g s).v=.obj 346 [("glue",g.v),("sort",.int s),("leader",.none)]:=rfl;cases hbb:b.isBox<;>simp[fU,T546,cz,ca,cb,l0,h,hi,p0,ha,hv,z1,z4,z5,z6,hb,hb',↓JC,hbb]
theorem iP {goal q:Int}(h0:c.s0 < 1073741824) (h1:c.sh < 1073741824):lL [.ref (0,mh.nx 0),.int goal,.int q] Q X (mh.col c)=Q (.int (dw c goal q)) (mh.col c):=by
 by_cases a1:c.cost goal=1073741823<;>by_cases a2:q<=-10000<;>by_cases a3:c.cost goal < 10000<;>
  simp[lL,T553,dw,dj,↓Jz h0 h1,a1,a2,a3]
end
structure Sc (mh mh':MH):Prop where
 m:∀ l:aT,l.1≠0\/l.2 < mh.nx 0->mh'.m l=mh.m l
 nx:∀ r,r≠0->mh'.nx r=mh.nx r
 le:mh.nx 0<=mh'.nx 0
theorem Sc.refl (mh:MH):Sc mh mh:=⟨fun ω ω=>rfl,fun ω ω=>rfl,Y3 _⟩
theorem Sc.trans {a b c:MH}(x:Sc a b) (y:Sc b c):Sc a c:=
 ⟨fun l h=>(y.m l (h.imp id fun z=>Y8 z x.le)).trans (x.m l h),fun r h=>(y.nx r h).trans (x.nx r h),X9 x.le y.le⟩
theorem ce (mh:MH):Sc mh mh.bump:=by
 refine⟨fun l h=>?_,fun r h=>by simp[MH.bump,h],by simp[MH.bump]⟩;have:l≠(0,mh.nx 0):=by rintro rfl;simp at h
 simp[MH.bump,this]
theorem sZ (mh:MH) (c:Col):Sc mh (mh.col c):=by
 refine⟨fun l h=>?_,fun r h=>by simp[MH.col,h],by simp[MH.col]⟩;have h1:l≠(0,mh.nx 0):=by rintro rfl;simp at h
 have h2:l≠(0,mh.nx 0+1):=by rintro rfl;simp at h;lia
 simp[MH.col,h1,h2]
structure L560 (loc:List (String × V)) (ps:List At) (H D:Int) (k:aT) (r:Int × Int × Int):Prop where
 items:loc.lookup "items"=some (.lst (ps.map At.v))
 height:loc.lookup "height"=some (.int H)
 most:loc.lookup "most_depth"=some (.int D)
 column:loc.lookup "column"=some (.ref k)
 best:loc.lookup "best"=some (.int r.1)
 least:loc.lookup "least"=some (.int r.2.1)
 size:loc.lookup "size"=some (.int r.2.2)
noncomputable def dV:TS:=ak (bf (ag .IsNot (aa "penalty") (tK .none)) (ag .Lt (aa "penalty") (tK (.int 10000)))) (ab (aw "cost" (af lL [(aa "column"),(aa "height"),(aa "penalty")]))
  (ab (ak (ag .LtE (aa "cost") (aa "least")) (bt [an "size",an "least",an "best"] (aD [(aa "place"),(aa "cost"),(aq (fun ω ω=>True) (fun i j=>i+j) (ae (aa "column") "height") (ae (aa "column") "depth"))])) tNil)
  (ak (aV (ag .Eq (aa "cost") (tK (.int 1073741823))) (ag .LtE (aa "penalty") (tK (.int (-10000))))) (ao (aD [(aa "best"),(aa "least"),(aa "size")])) tNil))) tNil
noncomputable def gV:TS:=ab (aw "node" (au (aa "items") (aa "place")))
  (ab (ak (ag .In (ae (aa "node") "kind") (tK (.tup ([2,3,4,14].map .int)))) (aE (aF 535 lI (aa "column") [(aa "node")])) (ak (aV (ag .Eq (ae (aa "node") "kind") (tK (.int 6))) (ag .Eq (ae (aa "node") "kind") (tK (.int 5)))) (aE (aF 535 jV (aa "column") [(aa "node")])) tNil))
  (aE (aF 535 lJ (aa "column") [(aa "most_depth")])))
noncomputable def mq:TS:=ab (aw "penalty" (af fU [(aa "items"),(aa "place")])) (ab dV gV)
section
variable {loc:List (String × V)}
variable {X:XP}{mh:MH}{c:Col}{ps:List At}{H D:Int}{r:Int × Int × Int}{K:Fl->St->Prop}
theorem L560.put {k:aT}(h:L560 loc ps H D k r) {n:String}{v:V}(hn:["items","height","most_depth","column","best","least","size"].contains n=false):L560 (aj n v loc) ps H D k r:=by
 simp only[List.contains_cons,List.contains_nil,Bool.or_eq_false_iff,beq_eq_false_iff_ne,ne_eq]at hn;obtain⟨h1,h2,h3,h4,h5,h6,h7,_⟩:=hn;exact⟨by rw[bw,if_neg (Ne.symm h1)];exact h.items,by rw[bw,if_neg (Ne.symm h2)];exact h.height,by rw[bw,if_neg (Ne.symm h3)];exact h.most,by rw[bw,if_neg (Ne.symm h4)];exact h.column,
  by rw[bw,if_neg (Ne.symm h5)];exact h.best,by rw[bw,if_neg (Ne.symm h6)];exact h.least,by rw[bw,if_neg (Ne.symm h7)];exact h.size⟩
theorem JH {pend:List String}{p:Nat}{q:Option Int}(h0:c.s0 < 1073741824) (h1:c.sh < 1073741824) (L:L560 loc ps H D (0,mh.nx 0) r) (hp:loc.lookup "place"=some (.int p)) (hq:loc.lookup "penalty"=some (kB q))
  (hr:(cR c H p q r).2=true->∀ st,st.mh=mh.col c->K (.ret (.tup [.int (cR c H p q r).1.1,.int (cR c H p q r).1.2.1,.int (cR c H p q r).1.2.2])) st)
  (hn:(cR c H p q r).2=false->∀ loc',L560 loc' ps H D (0,mh.nx 0) (cR c H p q r).1->loc'.lookup "place"=some (.int p)->K .next ⟨loc',pend,mh.col c⟩):dV K X ⟨loc,pend,mh.col c⟩:=by
 induction q with
|none=>
  have:=hn rfl loc L hp;simp[dV,↓tl hq,↓lr hq,ca,cb,this]
|some q=>
  by_cases hlt:q < 10000
  ·have e:cR c H p (some q) r=(if dw c H q<=r.2.1 then((p:Int),dw c H q,c.h+c.d)else r,decide (dw c H q=1073741823\/q<=-10000)):=by simp[mm,sX,hlt]
   rw[e]at hr hn;dsimp only at hr hn;by_cases hc:dw c H q<=r.2.1
   ·rw[if_pos hc]at hr hn;by_cases hb:dw c H q=1073741823\/q<=-10000
    ·have:=hr (decide_eq_true hb);rcases hb with hb|hb
     ·rw[hb]at hc this;simp[dV,↓tl hq,↓lr hq,ca,cb,hlt,↓tl hp,↓lr hp,↓tl L.column,↓lr L.column,↓tl L.height,↓lr L.height,↓tl L.least,↓lr L.least,↓iP h0 h1,hc,hb,ax,aX,dj];exact this _ rfl
     ·by_cases hb':dw c H q=1073741823
      ·rw[hb']at hc this;simp[dV,↓tl hq,↓lr hq,ca,cb,hlt,↓tl hp,↓lr hp,↓tl L.column,↓lr L.column,↓tl L.height,↓lr L.height,↓tl L.least,↓lr L.least,↓iP h0 h1,hc,hb',ax,aX,dj];exact this _ rfl
      ·simp[dV,↓tl hq,↓lr hq,ca,cb,hlt,↓tl hp,↓lr hp,↓tl L.column,↓lr L.column,↓tl L.height,↓lr L.height,↓tl L.least,↓lr L.least,↓iP h0 h1,hc,hb,hb',ax,aX,dj];exact this _ rfl
    ·have:=hn (decide_eq_false hb);rw[not_or]at hb;simp[dV,↓tl hq,↓lr hq,ca,cb,hlt,↓tl hp,↓lr hp,↓tl L.column,↓lr L.column,↓tl L.height,↓lr L.height,↓tl L.least,↓lr L.least,↓iP h0 h1,hc,hb.1,hb.2,ax,aX,dj];refine this _ ⟨?_,?_,?_,?_,?_,?_,?_⟩ ?_<;>(repeat first|exact ax|exact L.items|exact L.height|exact L.most|exact L.column|exact hp|refine az rfl ?_)
   ·rw[if_neg hc]at hr hn;by_cases hb:dw c H q=1073741823\/q<=-10000
    ·have:=hr (decide_eq_true hb);rcases hb with hb|hb
     ·rw[hb]at hc;simp[dV,↓tl hq,↓lr hq,ca,cb,hlt,↓tl hp,↓lr hp,↓tl L.column,↓lr L.column,↓tl L.height,↓lr L.height,↓tl L.least,↓lr L.least,↓tl L.best,↓lr L.best,↓tl L.size,↓lr L.size,↓iP h0 h1,hc,hb,ax,aX,dj];exact this _ rfl
     ·by_cases hb':dw c H q=1073741823
      ·rw[hb']at hc;simp[dV,↓tl hq,↓lr hq,ca,cb,hlt,↓tl hp,↓lr hp,↓tl L.column,↓lr L.column,↓tl L.height,↓lr L.height,↓tl L.least,↓lr L.least,↓tl L.best,↓lr L.best,↓tl L.size,↓lr L.size,↓iP h0 h1,hc,hb',ax,aX,dj];exact this _ rfl
      ·simp[dV,↓tl hq,↓lr hq,ca,cb,hlt,↓tl hp,↓lr hp,↓tl L.column,↓lr L.column,↓tl L.height,↓lr L.height,↓tl L.least,↓lr L.least,↓tl L.best,↓lr L.best,↓tl L.size,↓lr L.size,↓iP h0 h1,hc,hb,hb',ax,aX,dj];exact this _ rfl
    ·have:=hn (decide_eq_false hb);rw[not_or]at hb;simp[dV,↓tl hq,↓lr hq,ca,cb,hlt,↓tl hp,↓lr hp,↓tl L.column,↓lr L.column,↓tl L.height,↓lr L.height,↓tl L.least,↓lr L.least,↓iP h0 h1,hc,hb.1,hb.2,ax,aX,dj];exact this _ (L.put (by rfl)) (by (repeat first|exact ax|exact hp|refine az rfl ?_))
  ·have e:cR c H p (some q) r=(r,false):=by simp[mm,sX,hlt]
   rw[e]at hn;have:=hn rfl loc L hp;simp[dV,↓tl hq,↓lr hq,ca,cb,hlt,this]
theorem JI {pend:List String}{p:Nat}{a:At}(hok:a.Ok) (ha:ps[p]?=some a) (hl:ps.length<=1000) (L:L560 loc ps H D (0,mh.nx 0) r) (hp:loc.lookup "place"=some (.int p))
  (hx:c.next D (some a)=none->∀ c',X 76 (mh.col c')) (hn:∀ c',c.next D (some a)=some c'->∀ loc',L560 loc' ps H D (0,mh.nx 0) r->K .next ⟨loc',pend,mh.col c'⟩):gV K X ⟨loc,pend,mh.col c⟩:=by
 have p0:(p:Int) < 1000000:=by
  have:=(W5.mp ha).1
  lia
 induction a with
|box l h d=>
  have:=hn _ rfl (aj "node" (At.box l h d).v loc) (L.put (by rfl));simp[gV,↓tl L.items,↓lr L.items,↓tl hp,↓lr hp,p0,ha,ax,aX,↓tl L.column,↓lr L.column,↓tl L.most,↓lr L.most,dj,↓Jx,↓pN];exact this
|pen v=>
  have:=hn _ rfl (aj "node" (At.pen v).v loc) (L.put (by rfl));simp[gV,↓tl L.items,↓lr L.items,↓tl hp,↓lr hp,p0,ha,ax,aX,↓tl L.column,↓lr L.column,↓tl L.most,↓lr L.most,dj,↓pN];exact this
|skip g s=>
  have ho:=hok.2.2.2.2.2.2.1;clear hok;by_cases hz:g.so=0
  ·have:=hn ((c.flow g).keep D) (by simp[sW,hz]) (aj "node" (At.skip g s).v loc) (L.put (by rfl));simp[gV,↓tl L.items,↓lr L.items,↓tl hp,↓lr hp,p0,ha,ax,aX,↓tl L.column,↓lr L.column,↓tl L.most,↓lr L.most,dj,↓yV ho,↓pN,hz];exact this
  ·have:=hx (by simp[sW,hz]) c;simp[gV,↓tl L.items,↓lr L.items,↓tl hp,↓lr hp,p0,ha,ax,aX,↓tl L.column,↓lr L.column,↓tl L.most,↓lr L.most,dj,↓yV ho,↓pN,hz];exact this
theorem JJ {B:Int}{a:At}{c':Col}(hok:a.Ok) (h:c.next D (some a)=some c') (h0:c.s0<=B) (h1:c.sh<=B):c'.s0<=B+10000/\c'.sh<=B+10000:=by
 have kp:∀ (c:Col),(c.keep D).s0=c.s0/\(c.keep D).sh=c.sh:=fun c=>by unfold Col.keep;split<;>exact⟨rfl,rfl⟩
 induction a with
|box l h' d=>
  obtain rfl:=U1 h;have z9:=kp (c.stand h' d);have k1:=z9.1;have k2:=z9.2;clear z9;rw[k1,k2];simp only[Col.stand];lia
|pen v=>
  obtain rfl:=U1 h;have z9:=kp c;have k1:=z9.1;have k2:=z9.2;clear z9;rw[k1,k2];lia
|skip g s=>
  have a4:=hok.2.2.2.1;have a6:=hok.2.2.2.2.2.1;clear hok;unfold Col.next at h;dsimp only at h
  split at h
  ·cases h
  ·obtain rfl:=U1 h;have z9:=kp (c.flow g);have k1:=z9.1;have k2:=z9.2;clear z9;rw[k1,k2];simp only[Col.flow]
   constructor
   ·split<;>lia
   ·lia
theorem JK (hps:∀ a∈ps,a.Ok) (hl:ps.length<=1000) {X:XP}:∀ (is:List Nat) (c:Col) (r:Int × Int × Int) (B:Int) (st:St),(∀ i∈is,i<=ps.length)->c.s0<=B->c.sh<=B->B+10000 * is.length < 1073741824->st.mh=mh.col c->L560 st.loc ps H D (0,mh.nx 0) r->
  (ek ps H D is c r=none->∀ c',X 76 (mh.col c'))->
  (∀ r',ek ps H D is c r=some r'->(∀ st' c',st'.mh=mh.col c'->K (.ret (.tup [.int r'.1,.int r'.2.1,.int r'.2.2])) st')/\∀ st' c',st'.mh=mh.col c'->L560 st'.loc ps H D (0,mh.nx 0) r'->K .next st')->
  ck (fun ω=>True) "place" mq (is.map fun i:Nat=>V.int i) K X st:=by
 intro ll;induction ll with
|nil=>
  intro c r B st hi b0 b1 hB hm L hx hn;exact by
    rw[List.map_nil,kz];exact⟨trivial,(hn r rfl).2 st c hm L⟩
|cons p is IH=>
  intro c r B st hi b0 b1 hB hm L hx hn;exact by
    rw[V1,gj];refine⟨trivial,?_⟩;obtain⟨loc,pend,mh0⟩:=st;dsimp only at hm L;subst hm;have hple:p<=ps.length:=hi p (.head _);simp only[V4]at hB;have L1:=L.put (n:="place") (v:=.int p) (by rfl);have c0:c.s0 < 1073741824:=by lia
    have c1:c.sh < 1073741824:=by lia
    have step:mq (cV (ck (fun ω=>True) "place" mq (is.map fun i:Nat=>V.int i)) K X) X ⟨aj "place" (.int p) loc,pend,mh.col c⟩:=by
     unfold mq;have e:∀ (K':Fl->St->Prop),dV (cV gV K' X) X ⟨aj "penalty" (kB (cz ps p)) (aj "place" (.int p) loc),pend,mh.col c⟩->ab (aw "penalty" (af fU [(aa "items"),(aa "place")])) (ab dV gV) K' X ⟨aj "place" (.int p) loc,pend,mh.col c⟩:=by
      intro K' h;simp[ax,aX,↓tl L.items,↓lr L.items,↓JG hple hl];exact h
     refine e _ (JH (p:=p) (q:=cz ps p) (r:=r) c0 c1 (L1.put (by rfl)) (by (repeat first|exact ax|refine az rfl ?_)) (by (repeat first|exact ax|refine az rfl ?_)) (fun hb st hm=>?_) fun hb loc' L' hp'=>?_)
     ·have hbl:ek ps H D (p::is) c r=some (cR c H p (cz ps p) r).1:=by rw[jx,if_pos hb]
      exact(hn _ hbl).1 st c hm
     ·have hlt:p < ps.length:=by
       rcases Nat.lt_or_ge p ps.length with h|h
       ·exact h
       ·exfalso;have:p=ps.length:=by lia
        subst this;simp[cz,mm]at hb
      obtain⟨a,ha⟩:∃ a,ps[p]?=some a:=⟨ps[p],W9 hlt⟩;have hok:=hps a (W6 ha);refine JI hok ha hl L' hp' (fun hz c'=>?_) fun c' hz loc'' L''=>?_
      ·refine hx ?_ c';rw[jx,hb,ha,hz];rfl
      ·have hbl:ek ps H D (p::is) c r=ek ps H D is c' (cR c H p (cz ps p) r).1:=by
        rw[jx,hb,ha,hz];rfl
       obtain⟨n0,n1⟩:=JJ hok hz b0 b1;refine IH c' _ (B+10000) _ (fun i h=>hi i (.tail _ h)) n0 n1 (by lia) rfl L'' (fun h=>hx (hbl.trans h)) fun r' h=>hn r' (hbl.trans h)
    exact step
theorem JL {Q:V->MH->Prop}(hps:∀ a∈ps,a.Ok) (hl:ps.length<=1000) (hH:aZ H) (hD:aZ D) (hx:bb ps H D=none->∀ mh',Sc mh mh'->X 76 mh')
  (hq:∀ r,bb ps H D=some r->∀ mh',Sc mh mh'->Q (.tup [.int r.1,.int r.2.1,.int r.2.2]) mh'):oG [.lst (ps.map At.v),.int H,.int D] Q X mh:=by
 have l0:ps.length<=1000000:=by exact ba ‹_› rfl
 have hr:((ps.length:Int)+1).toNat=ps.length+1:=by lia
 have h3:(ps.length:Int)+1<=1000000:=by lia
 have h4:(0:Int)<=(ps.length:Int)+1:=by lia
 have main:=JK (mh:=mh) (X:=X) (H:=H) (D:=D) (K:=cV (ao (aD [(aa "best"),(aa "least"),(aa "size")])) (fun fl st=>Q fl.val st.mh) X) hps hl (List.range (ps.length+1)) ⟨0,0,0,0,0,0,0⟩ (ps.length,1073741823,0) 0
  ⟨[("items",.lst (ps.map At.v)),("height",.int H),("most_depth",.int D),("column",.ref (0,mh.nx 0)),("size",.int 0),("least",.int 1073741823),("best",.int ps.length)],[],mh.col ⟨0,0,0,0,0,0,0⟩⟩
  (fun i h=>by have:=X7.mp h;lia) (Z2 _) (Z2 _) (by rw[X6];lia) rfl ⟨rfl,rfl,rfl,rfl,rfl,rfl,rfl⟩ (fun h c'=>hx h _ (sZ mh c')) (fun r' h=>⟨fun st' c' hm=>by
   rw[rS];show Q _ st'.mh;rw[hm];exact hq r' h _ (sZ mh c'),fun st' c' hm L=>by
   obtain⟨loc,pend,m⟩:=st';dsimp only at hm L;subst hm;have:=hq r' h _ (sZ mh c');simp[↓tl L.best,↓lr L.best,↓tl L.least,↓lr L.least,↓tl L.size,↓lr L.size];exact this⟩)
 have e0:(1073741823:Int)=1073741823:=rfl;simp[oG,T560,cG,ey,↓JF,↓fg,↓Jw,l0,hH.1,hH.2,hD.1,hD.2,h3,h4,jN,hr];simp[mq,dV,gV]at main;exact main
noncomputable def vb (ps:List At) (H D:Int):Option (Int × Int):=(bb ps H D).map fun r=>(r.1,r.2.1)
theorem JM {Q:V->MH->Prop}(hps:∀ a∈ps,a.Ok) (hl:ps.length<=1000) (hH:aZ H) (hD:aZ D) (hx:vb ps H D=none->∀ mh',Sc mh mh'->X 76 mh')
  (hq:∀ r,vb ps H D=some r->∀ mh',Sc mh mh'->Q (.tup [.int r.1,.int r.2]) mh'):jj [.lst (ps.map At.v),.int H,.int D] Q X mh:=by
 have:=JL (X:=X) (mh:=mh) (Q:=fun v mh'=>match v with|.tup (a::b::d::r)=>Q (.tup [a,b]) mh'|_=>False) hps hl hH hD (fun h=>hx (by rw[vb,h];rfl)) (fun r h mh' sc=>hq (r.1,r.2.1) (by rw[vb,h];rfl) mh' sc);simp[jj,T567];exact this
end
structure Ins where
 size:Int
 last:Int
 best:Int
 sat:Int
 spl:Int
noncomputable def Ins.fs (e:Ins):List (String × V):=[("size",.int e.size),("last",.int e.last),("best",.int e.best),("split_at",.int e.sat),("split_place",.int e.spl)]
structure BS where
 vsize:Int
 maxd:Int
 con:List Nd
 page:List Nd
 state:Int
 goal:Int
 total:Int
 shrink:Int
 depth:Int
 mdepth:Int
 s0:Int
 s1:Int
 s2:Int
 s3:Int
 ins:List (Int × Ins)
 ipen:Int
 lpen:Int
 lkern:Int
 lglue:Gl
 best:Option Pg
noncomputable def cS:Option Pg->V
|some p=>p.v
|none=>.none
theorem iQ {p:Pg}:cS (some p)=p.v:=rfl
theorem iR:cS none=.none:=rfl
noncomputable def cf (r:Nat):List (Int × Ins)->List Nat->List (Int × V)
|[],_=>[]
|_::_,[]=>[]
|(k,_)::es,n::ns=>(k,.ref (r,n))::cf r es ns
theorem fh {r:Nat}{ns:List Nat}:cf r [] ns=[]:=rfl
theorem fj {r:Nat}{p:Int × Ins}{es:List (Int × Ins)}:cf r (p::es) []=[]:=rfl
theorem dI {r:Nat}{k:Int}{e:Ins}{es:List (Int × Ins)}{n:Nat}{ns:List Nat}:cf r ((k,e)::es) (n::ns)=(k,.ref (r,n))::cf r es ns:=rfl
noncomputable def dy:List (Int × Ins)->List Nat->Nat->Option MO
|[],_,_=>none
|_::_,[],_=>none
|(_,e)::es,n::ns,i=>if i=n then some (.inst 674 e.fs)else dy es ns i
theorem pO {ns:List Nat}{i:Nat}:dy [] ns i=none:=rfl
theorem pP {p:Int × Ins}{es:List (Int × Ins)}{i:Nat}:dy (p::es) [] i=none:=rfl
theorem gW {k:Int}{e:Ins}{es:List (Int × Ins)}{n:Nat}{ns:List Nat}{i:Nat}:dy ((k,e)::es) (n::ns) i=if i=n then some (.inst 674 e.fs)else dy es ns i:=rfl
structure BL where
 ls:Nat
 il:List Nat
 nx:Nat
 junk:Nat->Option MO
noncomputable def aJ (r ls:Nat) (b:BS):List (String × V):=[("vsize",.int b.vsize),("max_depth",.int b.maxd),("no_glue",Gl.v ⟨0,0,0,0,0⟩),("contributions",.ref (r,1)),("held",.ref (r,2)),("page",.ref (r,3)),("state",.int b.state),
 ("total",.int b.total),("stretch",.ref (r,ls)),("shrink",.int b.shrink),("depth",.int b.depth),("best",cS b.best),("goal",.int b.goal),("most_depth",.int b.mdepth),("inserts",.ref (r,5)),("insert_penalties",.int b.ipen),
 ("last_penalty",.int b.lpen),("last_kern",.int b.lkern),("last_glue",b.lglue.v)]
noncomputable def BL.obj (r:Nat) (L:BL) (b:BS) (n:Nat):Option MO:=
 if n=0 then some (.inst 829 (aJ r L.ls b))else if n=1 then some (.list (b.con.map Nd.v))else if n=2 then some (.list [])else if n=3 then some (.list (b.page.map Nd.v))
 else if n=5 then some (.dict (cf r b.ins L.il))else if n=L.ls then some (.arr [.int b.s0,.int b.s1,.int b.s2,.int b.s3])else(dy b.ins L.il n).or (L.junk n)
noncomputable def MH.bld (mh:MH) (r:Nat) (b:BS) (L:BL):MH:={ m:=fun k=>if k.1=r then L.obj r b k.2 else mh.m k,nx:=fun q=>if q=r then L.nx else mh.nx q }
structure BL.Ok (L:BL) (es:List (Int × Ins)):Prop where
 ls:L.ls=4\/6<=L.ls
 lt:L.ls < L.nx
 len:L.il.length=es.length
 il:∀ i∈L.il,6<=i/\i < L.nx/\i≠L.ls
 nd:L.il.Nodup
 nx:6<=L.nx
 keys:(es.map (fun q=>q.1)).Nodup
noncomputable def BL.newj (L:BL) (o:MO):BL:={ L with nx:=L.nx+1,junk:=fun n=>if n=L.nx then some o else L.junk n }
noncomputable def BL.clear (L:BL) (s0 s1 s2 s3:Int):BL:={ L with ls:=L.nx,nx:=L.nx+1,junk:=fun n=>if n=L.ls then some (.arr [.int s0,.int s1,.int s2,.int s3])else L.junk n }
theorem mr:∀ (es:List (Int × Ins)) (ns:List Nat) (i:Nat),i ∉ ns->dy es ns i=none:=by
 intro ll;induction ll with
|nil=>
  intro _ _ _;exact rfl
|cons hd es IH=>
  obtain⟨k,e⟩:=hd;intro l2;rcases l2 with _|⟨n,ns⟩
  ·intro _ _;exact rfl
  ·intro i h;exact by
     dsimp only[gW];rw[if_neg (by rintro rfl;exact h (.head _))];exact IH ns i fun z=>h (.tail _ z)
theorem BL.Ok.newj {L:BL}{es:List (Int × Ins)}(h:L.Ok es) (o:MO):(L.newj o).Ok es:=
 ⟨h.ls,Y6 h.lt,h.len,fun i hi=>⟨(h.il i hi).1,Y6 (h.il i hi).2.1,(h.il i hi).2.2⟩,h.nd,Nat.le_succ_of_le h.nx,h.keys⟩
theorem BL.Ok.clear {L:BL}{es:List (Int × Ins)}(h:L.Ok es) (s0 s1 s2 s3:Int):(L.clear s0 s1 s2 s3).Ok es:=
 ⟨.inr h.nx,Y5 _,h.len,fun i hi=>⟨(h.il i hi).1,Y6 (h.il i hi).2.1,Y1 (h.il i hi).2.1⟩,h.nd,Nat.le_succ_of_le h.nx,h.keys⟩
section
variable {Q:V->MH->Prop}{X:XP}{mh mh':MH}{r:Nat}{b b':BS}{L:BL}
theorem aH:(mh.bld r b L).m (r,0)=some (.inst 829 (aJ r L.ls b)):=by simp[MH.bld,BL.obj]
theorem em:(mh.bld r b L).m (r,1)=some (.list (b.con.map Nd.v)):=by simp[MH.bld,BL.obj]
theorem JN:(mh.bld r b L).m (r,2)=some (.list []):=by simp[MH.bld,BL.obj]
theorem eo:(mh.bld r b L).m (r,3)=some (.list (b.page.map Nd.v)):=by simp[MH.bld,BL.obj]
theorem gX:(mh.bld r b L).m (r,5)=some (.dict (cf r b.ins L.il)):=by simp[MH.bld,BL.obj]
theorem mv (h:L.Ok b.ins):(mh.bld r b L).m (r,L.ls)=some (.arr [.int b.s0,.int b.s1,.int b.s2,.int b.s3]):=by
 have:=h.ls;have h0:L.ls≠0:=by lia
 have h1:L.ls≠1:=by lia
 have h2:L.ls≠2:=by lia
 have h3:L.ls≠3:=by lia
 have h5:L.ls≠5:=by lia
 simp[MH.bld,BL.obj,h0,h1,h2,h3,h5]
theorem mw {l:aT}(h:l.1≠r):(mh.bld r b L).m l=mh.m l:=by simp[MH.bld,h]
theorem yX:(mh.bld r b L).nx r=L.nx:=by simp[MH.bld]
theorem yY (h:r≠0):(mh.bld r b L).nx 0=mh.nx 0:=by simp[MH.bld,Ne.symm h]
theorem eK {m n:MH}(h:∀ l,m.m l=n.m l) (k:∀ q,m.nx q=n.nx q):m=n:=by
 cases m;cases n
 congr 1
 ·funext l;exact h l
 ·funext q;exact k q
theorem jy {n:Nat}{o:MO}{L':BL}(hn:L'.nx=L.nx) (h:∀ i,i≠n->L'.obj r b' i=L.obj r b i) (ho:L'.obj r b' n=some o):(mh.bld r b L).set (r,n) o=mh.bld r b' L':=by
 refine eK (fun l=>?_) fun q=>by simp[MH.bld,MH.set,hn]
 obtain⟨a,i⟩:=l;by_cases ha:a=r
 ·subst ha;by_cases hi:i=n
  ·subst hi;simp[MH.bld,MH.set,ho]
  ·simp[MH.bld,MH.set,hi,h i hi]
 ·simp[MH.bld,MH.set,ha]
@[simp] theorem yZ (h:b'.con=b.con/\b'.page=b.page/\b'.ins=b.ins/\b'.s0=b.s0/\b'.s1=b.s1/\b'.s2=b.s2/\b'.s3=b.s3) {ls:Nat}(hl:ls=L.ls):(mh.bld r b L).set (r,0) (.inst 829 (aJ r ls b'))=mh.bld r b' L:=by
 subst hl;have h1:=h.1;have h2:=h.2.1;have h3:=h.2.2.1;have h4:=h.2.2.2.1;have h5:=h.2.2.2.2.1;have h6:=h.2.2.2.2.2.1;have h7:=h.2.2.2.2.2.2;clear h;refine jy rfl (fun i hi=>?_) (by simp[BL.obj]);simp[BL.obj,hi,h1,h2,h3,h4,h5,h6,h7]
theorem jz {xs:List Nd}:(mh.bld r b L).set (r,1) (.list (xs.map Nd.v))=mh.bld r { b with con:=xs } L:=
 jy rfl (fun i hi=>by simp[BL.obj,hi,aJ]) (by simp[BL.obj])
theorem JO {xs:List Nd}:(mh.bld r b L).set (r,3) (.list (xs.map Nd.v))=mh.bld r { b with page:=xs } L:=
 jy rfl (fun i hi=>by simp[BL.obj,hi,aJ]) (by simp[BL.obj])
theorem s6 (h:L.Ok b.ins) {a0 a1 a2 a3:Int}:(mh.bld r b L).set (r,L.ls) (.arr [.int a0,.int a1,.int a2,.int a3])=mh.bld r { b with s0:=a0,s1:=a1,s2:=a2,s3:=a3 } L:=by
 have:=h.ls;have h0:L.ls≠0:=by lia
 have h1:L.ls≠1:=by lia
 have h2:L.ls≠2:=by lia
 have h3:L.ls≠3:=by lia
 have h5:L.ls≠5:=by lia
 exact jy rfl (fun i hi=>by simp[BL.obj,hi,aJ]) (by simp[BL.obj,h0,h1,h2,h3,h5])
theorem y0 (h:L.Ok b.ins) {o:MO}:(mh.bld r b L).new r o=mh.bld r b (L.newj o):=by
 have hn:=h.nx;refine eK (fun l=>?_) fun q=>?_
 ·obtain⟨a,i⟩:=l;by_cases ha:a=r
  ·subst ha;by_cases h1:i=L.nx
   ·subst h1;have h0:L.nx≠0:=by exact cU ‹_› rfl
    have h1:L.nx≠1:=by exact cU ‹_› rfl
    have h2:L.nx≠2:=by exact cU ‹_› rfl
    have h3:L.nx≠3:=by exact cU ‹_› rfl
    have h5:L.nx≠5:=by exact cU ‹_› rfl
    have h6:L.nx≠L.ls:=(Y1 h.lt).symm;have h7:dy b.ins L.il L.nx=none:=mr _ _ _ fun z=>absurd (h.il _ z).2.1 (Z1 _)
    simp[MH.bld,MH.new,BL.obj,BL.newj,h0,h1,h2,h3,h5,h6,h7]
   ·simp[MH.bld,MH.new,BL.obj,BL.newj,h1]
  ·simp[MH.bld,MH.new,ha]
 ·by_cases hq:q=r<;>simp[MH.bld,MH.new,BL.newj,hq]
theorem JP {o:MO}:(L.newj o).ls=L.ls:=rfl
theorem s7 {s0 s1 s2 s3:Int}:(L.clear s0 s1 s2 s3).ls=L.nx:=rfl
theorem JQ (h:L.Ok b.ins) (hc:b'.con=b.con/\b'.page=b.page/\b'.ins=b.ins):(mh.bld r b (L.newj (.arr [.int 0,.int 0,.int 0,.int 0]))).set (r,0) (.inst 829 (aJ r L.nx b')) =
  mh.bld r { b' with s0:=0,s1:=0,s2:=0,s3:=0 } (L.clear b.s0 b.s1 b.s2 b.s3):=by
 have c1:=hc.1;have c2:=hc.2.1;have c3:=hc.2.2;clear hc;have hn:=h.nx;refine jy rfl (fun i hi=>?_) (by simp[BL.obj,BL.clear,aJ]);by_cases h1:i=L.nx
 ·have h0:L.nx≠1:=by exact cU ‹_› rfl
  have h2:L.nx≠2:=by exact cU ‹_› rfl
  have h3:L.nx≠3:=by exact cU ‹_› rfl
  have h5:L.nx≠5:=by exact cU ‹_› rfl
  have h6:L.nx≠L.ls:=(Y1 h.lt).symm;have h7:dy b.ins L.il L.nx=none:=mr _ _ _ fun z=>absurd (h.il _ z).2.1 (Z1 _)
  subst h1;simp[BL.obj,BL.clear,BL.newj,hi,h0,h2,h3,h5,h6,h7]
 ·by_cases h2:i=L.ls
  ·have:=h.ls;have g1:L.ls≠1:=by lia
   have g2:L.ls≠2:=by lia
   have g3:L.ls≠3:=by lia
   have g5:L.ls≠5:=by lia
   have g6:dy b.ins L.il L.ls=none:=mr _ _ _ fun z=>(h.il _ z).2.2 rfl
   have g7:L.ls≠L.nx:=Y1 h.lt;subst h2;simp[BL.obj,BL.clear,BL.newj,hi,g1,g2,g3,g5,g6,g7,c1,c2,c3]
  ·simp[BL.obj,BL.clear,BL.newj,hi,h1,h2,c1,c2,c3]
theorem my (h:r≠0):(mh.bld r b L).bump=mh.bump.bld r b L:=by
 refine eK (fun l=>?_) fun q=>?_
 ·obtain⟨a,i⟩:=l;by_cases ha:a=r
  ·subst ha;simp[MH.bld,MH.bump,h]
  ·simp[MH.bld,MH.bump,ha,Ne.symm h]
 ·by_cases hq:q=r
  ·subst hq;simp[MH.bld,MH.bump,h]
  ·simp[MH.bld,MH.bump,hq,Ne.symm h]
theorem mz (h:r≠0) (s:Sc (mh.bld r b L) mh'):mh'=mh'.bld r b L:=by
 refine eK (fun l=>?_) fun q=>?_
 ·obtain⟨a,i⟩:=l;by_cases ha:a=r
  ·subst ha;rw[s.m (a,i) (.inl h)];simp[MH.bld]
  ·simp[MH.bld,ha]
 ·by_cases hq:q=r
  ·subst hq;rw[s.nx _ h];simp[MH.bld]
  ·simp[MH.bld,hq]
end
noncomputable def BS.clear (b:BS):BS:={ b with total:=0,s0:=0,s1:=0,s2:=0,s3:=0,shrink:=0,depth:=0,best:=none }
noncomputable def BS.freeze (b:BS) (st:Int):BS:={ b.clear with state:=st,goal:=b.vsize,mdepth:=b.maxd }
noncomputable def Nd.glue (z:Gl) (n:Nd):Gl:=n.cs (At.cs (fun ω ω ω=>z) (fun g ω=>g) fun ω=>z) (fun ω=>z) (fun ω=>z) z
noncomputable def Nd.kw (n:Nd):Int:=n.cs (fun ω=>0) (fun w=>w) (fun ω=>0) 0
noncomputable def Nd.pv (n:Nd):Int:=n.cs (At.cs (fun ω ω ω=>0) (fun ω ω=>0) fun v=>v) (fun ω=>0) (fun ω=>0) 0
noncomputable def BS.remember (b:BS) (n:Nd):BS:={ b with lglue:=n.glue ⟨0,0,0,0,0⟩,lkern:=n.kw,lpen:=n.pv }
noncomputable def Nd.isBox (n:Nd):Bool:=n.cs (At.cs (fun ω ω ω=>true) (fun ω ω=>false) fun ω=>false) (fun ω=>false) (fun ω=>false) false
noncomputable def Nd.isSkip (n:Nd):Bool:=n.cs (At.cs (fun ω ω ω=>false) (fun ω ω=>true) fun ω=>false) (fun ω=>false) (fun ω=>false) false
noncomputable def Nd.disc (n:Nd):Bool:=n.cs (At.cs (fun ω ω ω=>false) (fun ω ω=>true) fun ω=>true) (fun ω=>true) (fun ω=>false) false
noncomputable def Nd.kind (n:Nd):Int:=n.cs (At.cs (fun ω ω ω=>2) (fun ω ω=>6) fun ω=>7) (fun ω=>5) (fun ω=>9) 10
noncomputable def BS.ahead (b:BS) (n:Nd):Option Int:=match n with
|.atm (.pen v)=>some v
|.atm (.skip ..)=>if (b.page.getLast?.any fun m=>!m.disc)=true then some 0 else none
|.kern _=>if (b.con[1]?.any Nd.isSkip)=true then some 0 else none
|_=>none
section
variable {b:BS}
theorem iS {v:Int}:b.ahead (.atm (.pen v))=some v:=rfl
theorem iT {g:Gl}{s:Int}:b.ahead (.atm (.skip g s))=if (b.page.getLast?.any fun m=>!m.disc)=true then some 0 else none:=rfl
theorem iU {w:Int}:b.ahead (.kern w)=if (b.con[1]?.any Nd.isSkip)=true then some 0 else none:=rfl
theorem iV {l h d:Int}:b.ahead (.atm (.box l h d))=none:=rfl
theorem iW {t:Int}:b.ahead (.mark t)=none:=rfl
theorem iX {num size d tw cost:Int}{ps:List At}:b.ahead (.ins num size d tw cost ps)=none:=rfl
end
noncomputable def BS.costP (b:BS) (p:Int):Int:=
 let e:=b.total - b.goal
 if (e > b.shrink/\e>=0)\/b.ipen>=10000 then 1073741823 else if p<=-10000 then p else
 let bad:=if e>=0 then di e b.shrink else if b.s1≠0\/b.s2≠0\/b.s3≠0 then 0 else di (-e) b.s0
 if bad < 10000 then bad+p+b.ipen else 100000
section
variable {ls:Nat}{k:V->Prop}{i j:Int}{n:String}{p:List String}{g:Gl}{lo:List (String × V)}{f:Int->Int->Int}
variable {Q:V->MH->Prop}{X:XP}{mh mh':MH}{r:Nat}{b b':BS}{L:BL}
@[simp] theorem TW:(aJ r ls b).length=19:=rfl
@[simp ↓] theorem TX:aL 829 (aJ r ls b) "vsize" k=k (.int b.vsize):=rfl
@[simp] theorem TY:aj "vsize" (.int i) (aJ r ls b)=aJ r ls { b with vsize:=i }:=rfl
@[simp ↓] theorem TZ:aL 829 (aJ r ls b) "max_depth" k=k (.int b.maxd):=rfl
@[simp] theorem T0:aj "max_depth" (.int i) (aJ r ls b)=aJ r ls { b with maxd:=i }:=rfl
@[simp ↓] theorem T3:aL 829 (aJ r ls b) "no_glue" k=k (Gl.v ⟨0,0,0,0,0⟩):=rfl
@[simp ↓] theorem JR:aL 829 (aJ r ls b) "contributions" k=k (.ref (r,1)):=rfl
@[simp ↓] theorem T4:aL 829 (aJ r ls b) "held" k=k (.ref (r,2)):=rfl
@[simp ↓] theorem T5:aL 829 (aJ r ls b) "page" k=k (.ref (r,3)):=rfl
@[simp ↓] theorem T6:aL 829 (aJ r ls b) "state" k=k (.int b.state):=rfl
@[simp] theorem JS:aj "state" (.int i) (aJ r ls b)=aJ r ls { b with state:=i }:=rfl
@[simp ↓] theorem T7:aL 829 (aJ r ls b) "total" k=k (.int b.total):=rfl
@[simp] theorem JT:aj "total" (.int i) (aJ r ls b)=aJ r ls { b with total:=i }:=rfl
@[simp ↓] theorem T8:aL 829 (aJ r ls b) "stretch" k=k (.ref (r,ls)):=rfl
@[simp] theorem T9 {n:Nat}:aj "stretch" (.ref (r,n)) (aJ r ls b)=aJ r n b:=rfl
@[simp ↓] theorem Ua:aL 829 (aJ r ls b) "shrink" k=k (.int b.shrink):=rfl
@[simp] theorem JU:aj "shrink" (.int i) (aJ r ls b)=aJ r ls { b with shrink:=i }:=rfl
@[simp ↓] theorem Ub:aL 829 (aJ r ls b) "depth" k=k (.int b.depth):=rfl
@[simp] theorem JV:aj "depth" (.int i) (aJ r ls b)=aJ r ls { b with depth:=i }:=rfl
@[simp ↓] theorem Uc:aL 829 (aJ r ls b) "best" k=k (cS b.best):=rfl
@[simp] theorem JW {p:Pg}:aj "best" p.v (aJ r ls b)=aJ r ls { b with best:=some p }:=rfl
@[simp] theorem Ud:aj "best" .none (aJ r ls b)=aJ r ls { b with best:=none }:=rfl
@[simp ↓] theorem Ue:aL 829 (aJ r ls b) "goal" k=k (.int b.goal):=rfl
@[simp] theorem JX:aj "goal" (.int i) (aJ r ls b)=aJ r ls { b with goal:=i }:=rfl
@[simp ↓] theorem Uf:aL 829 (aJ r ls b) "most_depth" k=k (.int b.mdepth):=rfl
@[simp] theorem JY:aj "most_depth" (.int i) (aJ r ls b)=aJ r ls { b with mdepth:=i }:=rfl
@[simp ↓] theorem y1:aL 829 (aJ r ls b) "inserts" k=k (.ref (r,5)):=rfl
@[simp ↓] theorem Ug:aL 829 (aJ r ls b) "insert_penalties" k=k (.int b.ipen):=rfl
@[simp] theorem JZ:aj "insert_penalties" (.int i) (aJ r ls b)=aJ r ls { b with ipen:=i }:=rfl
@[simp ↓] theorem Uh:aL 829 (aJ r ls b) "last_penalty" k=k (.int b.lpen):=rfl
@[simp] theorem J0:aj "last_penalty" (.int i) (aJ r ls b)=aJ r ls { b with lpen:=i }:=rfl
@[simp ↓] theorem Ui:aL 829 (aJ r ls b) "last_kern" k=k (.int b.lkern):=rfl
@[simp] theorem J6:aj "last_kern" (.int i) (aJ r ls b)=aJ r ls { b with lkern:=i }:=rfl
@[simp ↓] theorem Uj:aL 829 (aJ r ls b) "last_glue" k=k (b.lglue.v):=rfl
@[simp] theorem J7:aj "last_glue" g.v (aJ r ls b)=aJ r ls { b with lglue:=g }:=rfl
@[simp] theorem Uk {a0 a1 a2 a3:Int}(h:b'.con=b.con/\b'.page=b.page/\b'.ins=b.ins/\b'.s0=b.s0/\b'.s1=b.s1/\b'.s2=b.s2/\b'.s3=b.s3):(mh.bld r b (L.clear a0 a1 a2 a3)).set (r,0) (.inst 829 (aJ r L.nx b'))=mh.bld r b' (L.clear a0 a1 a2 a3):=yZ h rfl
theorem fM {v:V}{Q:Fl->St->Prop}(h:aj n v (aJ r L.ls b)=aJ r L.ls b') (hb:b'.con=b.con/\b'.page=b.page/\b'.ins=b.ins/\b'.s0=b.s0/\b'.s1=b.s1/\b'.s2=b.s2/\b'.s3=b.s3) :
  dF 829 n Q v (.ref (r,0)) ⟨lo,p,mh.bld r b L⟩=Q .next ⟨lo,p,mh.bld r b' L⟩:=by
 rw[xV,show St.mh ⟨lo,p,mh.bld r b L⟩=mh.bld r b L from rfl,aH,xW,h,yZ hb rfl];exact propext ⟨fun z=>z.2.2,fun z=>⟨rfl,Y2 rfl,z⟩⟩
@[simp ↓ high] theorem Ul {Q:V->St->Prop}:kA n Q (.ref (r,0)) ⟨lo,p,mh.bld r b L⟩=aL 829 (aJ r L.ls b) n (kQ Q ⟨lo,p,mh.bld r b L⟩):=by rw[r6,ya,show St.mh ⟨lo,p,mh.bld r b L⟩=mh.bld r b L from rfl,aH,yb]
@[simp ↓ high] theorem Um {Tv:TE}{Q:Fl->St->Prop}:po 829 n f Tv Q X (.ref (r,0)) ⟨lo,p,mh.bld r b L⟩=aL 829 (aJ r L.ls b) n (lV 829 n f Tv Q X (.ref (r,0)) ⟨lo,p,mh.bld r b L⟩):=by rw[Ih,ya,show St.mh ⟨lo,p,mh.bld r b L⟩=mh.bld r b L from rfl,aH,yb]
@[simp ↓ high] theorem Un {F:Fn}{Ts:List TE}{Q:V->St->Prop}:pj 829 F Ts Q X (.ref (r,0)) ⟨lo,p,mh.bld r b L⟩=bh Ts (gO F Q X (.ref (r,0))) X ⟨lo,p,mh.bld r b L⟩:=by rw[H9,Im,show St.mh ⟨lo,p,mh.bld r b L⟩=mh.bld r b L from rfl,aH,Io,Ix]
@[simp ↓ high] theorem Uo {Q:Fl->St->Prop}:dF 829 "state" Q (.int i) (.ref (r,0)) ⟨lo,p,mh.bld r b L⟩=Q .next ⟨lo,p,mh.bld r { b with state:=i } L⟩:=fM JS ⟨rfl,rfl,rfl,rfl,rfl,rfl,rfl⟩
@[simp ↓ high] theorem J8 {Q:Fl->St->Prop}:dF 829 "total" Q (.int i) (.ref (r,0)) ⟨lo,p,mh.bld r b L⟩=Q .next ⟨lo,p,mh.bld r { b with total:=i } L⟩:=fM JT ⟨rfl,rfl,rfl,rfl,rfl,rfl,rfl⟩
@[simp ↓ high] theorem J9 {Q:Fl->St->Prop}:dF 829 "shrink" Q (.int i) (.ref (r,0)) ⟨lo,p,mh.bld r b L⟩=Q .next ⟨lo,p,mh.bld r { b with shrink:=i } L⟩:=fM JU ⟨rfl,rfl,rfl,rfl,rfl,rfl,rfl⟩
@[simp ↓ high] theorem Up {Q:Fl->St->Prop}:dF 829 "depth" Q (.int i) (.ref (r,0)) ⟨lo,p,mh.bld r b L⟩=Q .next ⟨lo,p,mh.bld r { b with depth:=i } L⟩:=fM JV ⟨rfl,rfl,rfl,rfl,rfl,rfl,rfl⟩
@[simp ↓ high] theorem Ka {Q:Fl->St->Prop}:dF 829 "goal" Q (.int i) (.ref (r,0)) ⟨lo,p,mh.bld r b L⟩=Q .next ⟨lo,p,mh.bld r { b with goal:=i } L⟩:=fM JX ⟨rfl,rfl,rfl,rfl,rfl,rfl,rfl⟩
@[simp ↓ high] theorem Uq {Q:Fl->St->Prop}:dF 829 "most_depth" Q (.int i) (.ref (r,0)) ⟨lo,p,mh.bld r b L⟩=Q .next ⟨lo,p,mh.bld r { b with mdepth:=i } L⟩:=fM JY ⟨rfl,rfl,rfl,rfl,rfl,rfl,rfl⟩
@[simp ↓ high] theorem Kb {Q:Fl->St->Prop}:dF 829 "insert_penalties" Q (.int i) (.ref (r,0)) ⟨lo,p,mh.bld r b L⟩=Q .next ⟨lo,p,mh.bld r { b with ipen:=i } L⟩:=fM JZ ⟨rfl,rfl,rfl,rfl,rfl,rfl,rfl⟩
@[simp ↓ high] theorem Ur {Q:Fl->St->Prop}:dF 829 "last_penalty" Q (.int i) (.ref (r,0)) ⟨lo,p,mh.bld r b L⟩=Q .next ⟨lo,p,mh.bld r { b with lpen:=i } L⟩:=fM J0 ⟨rfl,rfl,rfl,rfl,rfl,rfl,rfl⟩
@[simp ↓ high] theorem Us {Q:Fl->St->Prop}:dF 829 "last_kern" Q (.int i) (.ref (r,0)) ⟨lo,p,mh.bld r b L⟩=Q .next ⟨lo,p,mh.bld r { b with lkern:=i } L⟩:=fM J6 ⟨rfl,rfl,rfl,rfl,rfl,rfl,rfl⟩
@[simp ↓ high] theorem Ut {Q:Fl->St->Prop}:iL 829 "total" f Q (.ref (r,0)) (.int i) (.int j) ⟨lo,p,mh.bld r b L⟩=Q .next ⟨lo,p,mh.bld r { b with total:=f i j } L⟩:=(pp).trans J8
@[simp ↓ high] theorem Uu {Q:Fl->St->Prop}:iL 829 "shrink" f Q (.ref (r,0)) (.int i) (.int j) ⟨lo,p,mh.bld r b L⟩=Q .next ⟨lo,p,mh.bld r { b with shrink:=f i j } L⟩:=(pp).trans J9
@[simp ↓ high] theorem Uv {Q:Fl->St->Prop}:iL 829 "goal" f Q (.ref (r,0)) (.int i) (.int j) ⟨lo,p,mh.bld r b L⟩=Q .next ⟨lo,p,mh.bld r { b with goal:=f i j } L⟩:=(pp).trans Ka
@[simp ↓ high] theorem Uw {Q:Fl->St->Prop}:iL 829 "insert_penalties" f Q (.ref (r,0)) (.int i) (.int j) ⟨lo,p,mh.bld r b L⟩=Q .next ⟨lo,p,mh.bld r { b with ipen:=f i j } L⟩:=(pp).trans Kb
@[simp ↓ high] theorem Ux {Q:Fl->St->Prop}{g:Pg}:dF 829 "best" Q g.v (.ref (r,0)) ⟨lo,p,mh.bld r b L⟩=Q .next ⟨lo,p,mh.bld r { b with best:=some g } L⟩:=fM JW ⟨rfl,rfl,rfl,rfl,rfl,rfl,rfl⟩
@[simp ↓ high] theorem Uy {Q:Fl->St->Prop}:dF 829 "last_glue" Q g.v (.ref (r,0)) ⟨lo,p,mh.bld r b L⟩=Q .next ⟨lo,p,mh.bld r { b with lglue:=g } L⟩:=fM J7 ⟨rfl,rfl,rfl,rfl,rfl,rfl,rfl⟩
theorem Kc (h:L.Ok b.ins):jY [.ref (r,0)] Q X (mh.bld r b L)=Q .none (mh.bld r b.clear (L.clear b.s0 b.s1 b.s2 b.s3)):=by
 simp[jY,T728,aH,yX,↓y0,h,↓JQ,JP,s7,BS.clear]
theorem s8 {st:Int}(h:L.Ok b.ins):jZ [.ref (r,0),.int st] Q X (mh.bld r b L)=Q .none (mh.bld r (b.freeze st) (L.clear b.s0 b.s1 b.s2 b.s3)):=by
 simp[jZ,T735,aH,↓Kc h,s7,BS.clear,BS.freeze]
theorem jA:eX [g.v] Q X mh=if g.so≠0 then X 88 mh else Q .none mh:=by
 by_cases h:g.so=0<;>simp[eX,T591,h]
theorem pQ {l h d:Int}:gE [(At.box l h d).v] Q X mh=Q (.int h) mh:=by
 simp[gE,T449]
theorem y2 {l h d:Int}:iB [(At.box l h d).v] Q X mh=Q (.int d) mh:=by
 simp[iB,T454]
theorem y3 {n:Nd}:fB [n.v] Q X mh=Q (.bool n.disc) mh:=by
 induction n with
|atm a=>induction a<;>simp[fB,T475,Nd.disc]
|kern w=>simp[fB,T475,Nd.disc]
|mark t=>simp[fB,T475,Nd.disc]
|ins=>simp[fB,T475,Nd.disc]
theorem Kd {n:Nd}:ji [n.v] Q X mh=Q (.bool (!n.disc)) mh:=by
 simp[ji,T482,↓y3]
theorem Ke {n:Nd}:iC [.ref (r,0),n.v] Q X (mh.bld r b L)=Q .none (mh.bld r (b.remember n) L):=by
 induction n with
|atm a=>induction a<;>simp[iC,T777,aH,BS.remember,Nd.glue,Nd.kw,Nd.pv]
|kern w=>simp[iC,T777,aH,BS.remember,Nd.glue,Nd.kw,Nd.pv]
|mark t=>simp[iC,T777,aH,BS.remember,Nd.glue,Nd.kw,Nd.pv]
|ins=>simp[iC,T777,aH,BS.remember,Nd.glue,Nd.kw,Nd.pv]
end
noncomputable def bQ:List (Int × Ins)->List Nat->Int->Option (Nat × Ins)
|[],_,_=>none
|_::_,[],_=>none
|(k,e)::es,n::ns,j=>if j=k then some (n,e)else bQ es ns j
theorem eL {ns:List Nat}{j:Int}:bQ [] ns j=none:=rfl
theorem eM {p:Int × Ins}{es:List (Int × Ins)}{j:Int}:bQ (p::es) [] j=none:=rfl
theorem cT {k j:Int}{e:Ins}{es:List (Int × Ins)}{n:Nat}{ns:List Nat}:bQ ((k,e)::es) (n::ns) j=if j=k then some (n,e)else bQ es ns j:=rfl
noncomputable def bN (k:Int) (e':Ins) (es:List (Int × Ins)):List (Int × Ins):=es.map fun p=>if p.1=k then(k,e')else p
theorem mA {r:Nat}{k:Int}:∀ (es:List (Int × Ins)) (ns:List Nat),(cf r es ns).lookup k=(bQ es ns k).map fun p=>V.ref (r,p.1):=by
 intro ll;induction ll with
|nil=>
  intro _;exact by simp[fh,fj,dI,eL,eM,cT]
|cons hd es IH=>
  obtain⟨j,e⟩:=hd;intro l2;rcases l2 with _|⟨n,ns⟩
  ·exact by simp[fh,fj,dI,eL,eM,cT]
  ·exact by
     dsimp only[dI,cT];by_cases h:k=j
     ·subst h;simp
     ·rw[V9,beq_eq_false_iff_ne.mpr h,if_neg h];exact IH ns
theorem s9 {k:Int}{n:Nat}{e:Ins}:∀ (es:List (Int × Ins)) (ns:List Nat),bQ es ns k=some (n,e)->n∈ns:=by
 intro ll;induction ll with
|nil=>
  intro _ h;exact by simp[eL,eM,cT]at h
|cons hd es IH=>
  obtain⟨j,e'⟩:=hd;intro l2;rcases l2 with _|⟨m,ns⟩
  ·intro h;exact by simp[eL,eM,cT]at h
  ·intro h;exact by
     dsimp only[cT]at h
     split at h
     ·cases h;exact .head _
     ·exact .tail _ (IH ns h)
theorem Kf {k:Int}{n:Nat}{e:Ins}:∀ (es:List (Int × Ins)) (ns:List Nat),ns.Nodup->bQ es ns k=some (n,e)->dy es ns n=some (.inst 674 e.fs):=by
 intro ll;induction ll with
|nil=>
  intro _ _ h;exact by simp[eL,eM,cT]at h
|cons hd es IH=>
  obtain⟨j,e'⟩:=hd;intro l2;rcases l2 with _|⟨m,ns⟩
  ·intro _ h;exact by simp[eL,eM,cT]at h
  ·intro hn h;exact by
     dsimp only[cT]at h;dsimp only[gW]
     split at h
     ·cases h;rw[if_pos rfl]
     ·have:=s9 es ns h;rw[if_neg (by rintro rfl;exact(W2.mp hn).1 this)];exact IH ns (W2.mp hn).2 h
set_option tactic.hygienic true in
theorem y4 {k:Int}{n i:Nat}{e e':Ins}:∀ (es:List (Int × Ins)) (ns:List Nat),ns.Nodup->(es.map (fun q=>q.1)).Nodup->bQ es ns k=some (n,e)->dy (bN k e' es) ns i=if i=n then some (.inst 674 e'.fs)else dy es ns i:=by
 intro ll;induction ll with
|nil=>
  intro _ _ _ h;exact by simp[eL,eM,cT]at h
|cons hd es IH=>
  obtain⟨j,e1⟩:=hd;intro l2;rcases l2 with _|⟨m,ns⟩
  ·intro _ _ h;exact by simp[eL,eM,cT]at h
  ·intro hn hk h;exact by
     dsimp only[cT]at h;show dy ((if j=k then(k,e')else(j,e1))::bN k e' es) (m::ns) i=_
     split at h
     ·rename_i hj;obtain⟨rfl,rfl⟩:=Prod.mk.inj (U1 h);rw[if_pos hj.symm];dsimp only[gW];by_cases hi:i=m
      ·simp[hi]
      ·rw[if_neg hi,if_neg hi,if_neg hi];have:bN k e' es=es:=by
        unfold bN;refine(X2 fun p hp=>?_).trans (List.map_id _);rw[if_neg];· rfl
        rintro rfl;rw[<- hj]at hk;exact(W2.mp hk).1 (V5.mpr ⟨p,hp,rfl⟩)
       rw[this]
     ·rename_i hj;rw[if_neg (fun z=>hj z.symm)];have hm:=s9 es ns h;dsimp only[gW];by_cases hi:i=m
      ·subst hi;rw[if_pos rfl,if_pos rfl,if_neg (by rintro rfl;exact(W2.mp hn).1 hm)]
      ·rw[if_neg hi,if_neg hi];exact IH ns (W2.mp hn).2 (W2.mp hk).2 h
set_option tactic.hygienic true in
theorem mB {k:Int}{e':Ins}{es:List (Int × Ins)}:(bN k e' es).map (fun q=>q.1)=es.map (fun q=>q.1):=by
 unfold bN;rw[X3];refine X2 fun p ω=>?_
 dsimp only[Function.comp]
 split
 ·rename_i h;exact h.symm
 ·rfl
theorem BL.Ok.upd {L:BL}{es:List (Int × Ins)}(h:L.Ok es) (k:Int) (e':Ins):L.Ok (bN k e' es):=
 ⟨h.ls,h.lt,by rw[h.len];simp[bN],h.il,h.nd,h.nx,by rw[mB];exact h.keys⟩
theorem Kg {r:Nat}{k:Int}{e':Ins}:∀ (es:List (Int × Ins)) (ns:List Nat),cf r (bN k e' es) ns=cf r es ns:=by
 intro ll;induction ll with
|nil=>
  intro _;exact by simp[bN,fh,fj,dI]
|cons hd es IH=>
  obtain⟨j,e⟩:=hd;intro l2;rcases l2 with _|⟨n,ns⟩
  ·exact by simp[bN,fh,fj,dI]
  ·exact by
     show cf r ((if j=k then(k,e')else(j,e))::bN k e' es) (n::ns)=_;have:=IH ns;by_cases h:j=k
     ·subst h;rw[if_pos rfl];dsimp only[dI];rw[this]
     ·rw[if_neg h];dsimp only[dI];rw[this]
theorem Kh {k j:Int}{e':Ins}:∀ (es:List (Int × Ins)) (ns:List Nat),bQ (bN k e' es) ns j=if j=k then(bQ es ns k).map fun p=>(p.1,e')else bQ es ns j:=by
 intro ll;induction ll with
|nil=>
  intro _;exact by by_cases h:j=k<;>simp[bN,eL,eM,cT]
|cons hd es IH=>
  obtain⟨i,e⟩:=hd;intro l2;rcases l2 with _|⟨n,ns⟩
  ·exact by by_cases h:j=k<;>simp[bN,eL,eM,cT]
  ·exact by
     show bQ ((if i=k then(k,e')else(i,e))::bN k e' es) (n::ns) j=_;have ih:=IH ns;by_cases h:i=k
     ·subst h;rw[if_pos rfl];dsimp only[cT];by_cases hj:j=i
      ·subst hj;simp
      ·rw[if_neg hj,if_neg hj,if_neg hj,ih,if_neg hj]
     ·rw[if_neg h];dsimp only[cT];by_cases hj:j=i
      ·subst hj;rw[if_pos rfl,if_neg h,if_pos rfl]
      ·rw[if_neg hj,ih];by_cases hk:j=k
       ·subst hk;rw[if_pos rfl,if_pos rfl,if_neg (fun z=>h z.symm)]
       ·rw[if_neg hk,if_neg hk,if_neg hj]
theorem y5 {k:Int}:∀ (es:List (Int × Ins)) (ns:List Nat),ns.length=es.length->(bQ es ns k).map (fun q=>q.2)=es.lookup k:=by
 intro ll;induction ll with
|nil=>
  intro _ _;exact by simp[eL,eM,cT]
|cons hd es IH=>
  obtain⟨j,e⟩:=hd;intro l2;rcases l2 with _|⟨n,ns⟩
  ·intro h;exact by simp at h
  ·intro h;exact by
     dsimp only[cT];by_cases hk:k=j
     ·subst hk;simp
     ·rw[if_neg hk,V9,beq_eq_false_iff_ne.mpr hk];exact IH ns (by simpa using h)
theorem y6 {k:Int}{es:List (Int × Ins)}{ns:List Nat}(h:ns.length=es.length) {e:Ins}(he:es.lookup k=some e):∃ n,bQ es ns k=some (n,e):=by
 have:=y5 (k:=k) es ns h;rw[he]at this;cases q:bQ es ns k with
|none=>rw[q]at this;cases this
|some p=>rw[q]at this;obtain⟨n,e'⟩:=p;obtain rfl:=U1 this;exact⟨n,rfl⟩
theorem pR {r:Nat}:∀ (es:List (Int × Ins)) (ns:List Nat),ns.length=es.length->(cf r es ns).length=es.length:=by
 intro ll;induction ll with
|nil=>
  intro _ _;exact by simp[fh,fj,dI]
|cons hd es IH=>
  obtain⟨j,e⟩:=hd;intro l2;rcases l2 with _|⟨n,ns⟩
  ·intro h;exact by simp at h
  ·intro h;exact by
     dsimp only[dI];simp[IH ns (by simpa using h)]
theorem y7 {r:Nat}:∀ (es:List (Int × Ins)) (ns:List Nat),ns.length=es.length->(cf r es ns).map (fun q=>q.1)=es.map (fun q=>q.1):=by
 intro ll;induction ll with
|nil=>
  intro _ _;exact by simp[fh,fj,dI]
|cons hd es IH=>
  obtain⟨j,e⟩:=hd;intro l2;rcases l2 with _|⟨n,ns⟩
  ·intro h;exact by simp at h
  ·intro h;exact by
     dsimp only[dI];simp[IH ns (by simpa using h)]
section
variable {i:Int}
variable {Q:V->MH->Prop}{X:XP}{mh mh':MH}{r:Nat}{b b':BS}{L:BL}{k:Int}{n:Nat}{e e':Ins}
@[simp] theorem Uz:e.fs.length=5:=rfl
@[simp ↓] theorem UA {k:V->Prop}:aL 674 e.fs "size" k=k (.int e.size):=rfl
@[simp] theorem UB:aj "size" (.int i) e.fs=({ e with size:=i }:Ins).fs:=rfl
@[simp ↓] theorem UC {k:V->Prop}:aL 674 e.fs "last" k=k (.int e.last):=rfl
@[simp] theorem UD:aj "last" (.int i) e.fs=({ e with last:=i }:Ins).fs:=rfl
@[simp ↓] theorem UE {k:V->Prop}:aL 674 e.fs "best" k=k (.int e.best):=rfl
@[simp] theorem UF:aj "best" (.int i) e.fs=({ e with best:=i }:Ins).fs:=rfl
@[simp ↓] theorem UG {k:V->Prop}:aL 674 e.fs "split_at" k=k (.int e.sat):=rfl
@[simp] theorem UH:aj "split_at" (.int i) e.fs=({ e with sat:=i }:Ins).fs:=rfl
@[simp ↓] theorem UI {k:V->Prop}:aL 674 e.fs "split_place" k=k (.int e.spl):=rfl
@[simp] theorem UJ:aj "split_place" (.int i) e.fs=({ e with spl:=i }:Ins).fs:=rfl
theorem y8 (h:L.Ok b.ins) (hf:bQ b.ins L.il k=some (n,e)):n≠0/\n≠1/\n≠2/\n≠3/\n≠5/\n≠L.ls:=by
 obtain⟨a,_,b⟩:=h.il n (s9 _ _ hf);have q:∀ j,j < 6->n≠j:=fun j h=>Nat.ne_of_gt (Y8 h a)
 exact⟨q 0 (by decide),q 1 (by decide),q 2 (by decide),q 3 (by decide),q 5 (by decide),b⟩
theorem mD (h:L.Ok b.ins) (hf:bQ b.ins L.il k=some (n,e)):(mh.bld r b L).m (r,n)=some (.inst 674 e.fs):=by
 obtain⟨h0,h1,h2,h3,h5,h6⟩:=y8 h hf;simp[MH.bld,BL.obj,h0,h1,h2,h3,h5,h6,Kf _ _ h.nd hf]
theorem y9 (h:L.Ok b.ins) (hf:bQ b.ins L.il k=some (n,e)):(mh.bld r b L).set (r,n) (.inst 674 e'.fs)=mh.bld r { b with ins:=bN k e' b.ins } L:=by
 have z9:=y8 h hf;have h0:=z9.1;have h1:=z9.2.1;have h2:=z9.2.2.1;have h3:=z9.2.2.2.1;have h5:=z9.2.2.2.2.1;have h6:=z9.2.2.2.2.2;clear z9;refine jy rfl (fun i hi=>?_) ?_
 ·simp[BL.obj,aJ,Kg,y4 _ _ h.nd h.keys hf,hi]
 ·simp[BL.obj,h0,h1,h2,h3,h5,h6,y4 _ _ h.nd h.keys hf]
theorem za {o:MO}(h:L.Ok b.ins):(mh.bld r b (L.newj o)).m (r,L.nx)=some o:=by
 have:=h.nx;have h0:L.nx≠0:=by exact cU ‹_› rfl
 have h1:L.nx≠1:=by exact cU ‹_› rfl
 have h2:L.nx≠2:=by exact cU ‹_› rfl
 have h3:L.nx≠3:=by exact cU ‹_› rfl
 have h5:L.nx≠5:=by exact cU ‹_› rfl
 have h6:L.nx≠L.ls:=(Y1 h.lt).symm;have h7:dy b.ins L.il L.nx=none:=mr _ _ _ fun z=>absurd (h.il _ z).2.1 (Z1 _)
 simp[MH.bld,BL.obj,BL.newj,h0,h1,h2,h3,h5,h6,h7]
end
noncomputable def mx (a b:Int):Int:=if a < b then b else a
noncomputable def BS.begin (b:BS) (g:Gl) (h:Int):BS:=
 { (if b.state=0 then b.freeze 2 else b)with state:=2,con:=.atm (.skip (cy (mx (g.w - h) 0) g.s g.o g.sh g.so) 107)::b.con }
noncomputable def BL.begin (L:BL) (b:BS):BL:=if b.state=0 then L.clear b.s0 b.s1 b.s2 b.s3 else L
noncomputable def gY (es:List (Int × Ins)):List (Int × Ins):=es.map fun p=>(p.1,{ p.2 with best:=p.2.last })
noncomputable def BS.tried (b:BS) (n:Nd):BS × Option Pg:=match b.ahead n with
|none=>(b,none)
|some p=>if p>=10000 then(b,none)else
  let c:=b.costP p
  let b':=if (b.best.all fun g=>decide (c<=g.cost))=true then{ b with best:=some ⟨b.page.length,if n.kind=7 then p else 10000,c,b.goal⟩,ins:=gY b.ins }else b
  (b',if c=1073741823\/p<=-10000 then b'.best else none)
theorem pS {b:BS}{n:Nd}{P:BS->Prop}(h0:P b) (h1:∀ g,P { b with best:=some g,ins:=gY b.ins }):P (b.tried n).1:=by
 unfold BS.tried;cases b.ahead n with
|none=>exact h0
|some p=>
  dsimp only
  split
  ·exact h0
  ·dsimp only
   split
   ·exact h1 _
   ·exact h0
section
variable {Q:V->MH->Prop}{X:XP}{mh mh':MH}{r:Nat}{b b':BS}{L:BL}
theorem tc {l:aT}{k:Bool->Prop}:bv mh (.ref l) (.lst []) k=(match mh.m l with|some (.list xs)=>k xs.isEmpty|_=>False):=by
 show(match mh.m l with|some (.list xs)=>([]:List V)=[]/\k xs.isEmpty|_=>False)=_;cases mh.m l with
|none=>rfl
|some o=>
  induction o with
 |list xs=>exact propext ⟨fun z=>z.2,fun z=>⟨rfl,z⟩⟩
 |_=>rfl
theorem Ki {l h d:Int}{g:Gl}(hr:r≠0) (hL:L.Ok b.ins) (hb:b.con.length<=10000) (h0:0<=g.o/\g.o<=3/\0<=g.so/\g.so<=3) (hd:aZ (mx (g.w - h) 0)/\aZ g.s/\aZ g.sh):fV [.ref (r,0),(At.box l h d).v,g.v] Q X (mh.bld r b L) =
  if g.so≠0 then X 88 (mh.bld r b L)else Q .none (mh.bump.bump.bld r (b.begin g h) (L.begin b)):=by
 obtain⟨w,s,o,sh,so⟩:=g;obtain⟨o1,o2,o3,o4⟩:=h0;obtain⟨d1,d2,d3⟩:=hd;dsimp only at o1 o2 o3 o4 d1 d2 d3 ⊢;unfold mx at d1;by_cases hz:so=0
 ·by_cases hs:b.state=0
  ·have e1:∀ m:MH,(m.bld r (b.freeze 2) (L.clear b.s0 b.s1 b.s2 b.s3)).set (r,1) (.list (At.v (.skip (cy (mx (w - h) 0) s o sh 0) 107)::b.con.map Nd.v))=m.bld r (b.begin ⟨w,s,o,sh,0⟩ h) (L.clear b.s0 b.s1 b.s2 b.s3):=fun m=>by
    have:=jz (mh:=m) (r:=r) (b:=b.freeze 2) (L:=L.clear b.s0 b.s1 b.s2 b.s3) (xs:=.atm (.skip (cy (mx (w - h) 0) s o sh 0) 107)::b.con);rw[V1]at this;refine Eq.trans this ?_;unfold BS.begin;rw[if_pos hs];rfl
   subst hz;unfold mx at e1;simp[fV,T784,BL.begin,aH,↓jA,↓pQ,↓s8 hL,↓jw,↓ml (.inr rfl),hs,my hr,em,o1,o2,d1,d2,d3,s7,BS.freeze,BS.clear,hb];exact Iff.of_eq (congrArg _ (e1 _))
  ·have e1:∀ m:MH,(m.bld r { b with state:=2 } L).set (r,1) (.list (At.v (.skip (cy (mx (w - h) 0) s o sh 0) 107)::b.con.map Nd.v))=m.bld r (b.begin ⟨w,s,o,sh,0⟩ h) L:=fun m=>by
    have:=jz (mh:=m) (r:=r) (b:={ b with state:=2 }) (L:=L) (xs:=.atm (.skip (cy (mx (w - h) 0) s o sh 0) 107)::b.con);rw[V1]at this;refine Eq.trans this ?_;unfold BS.begin;rw[if_neg hs]
   subst hz;unfold mx at e1;simp[fV,T784,BL.begin,aH,↓jA,↓pQ,↓jw,↓ml (.inr rfl),hs,my hr,em,o1,o2,d1,d2,d3,hb];exact Iff.of_eq (congrArg _ (e1 _))
 ·simp[fV,T784,aH,↓jA,hz]
theorem td {n:Nd}(hk:∀ w,n=.kern w->b.con.length>=2) (hl:b.page.length<=10000):eZ [.ref (r,0),n.v] Q X (mh.bld r b L)=Q (kB (b.ahead n)) (mh.bld r b L):=by
 induction n with
|atm a=>
  induction a with
 |box l h d=>simp[eZ,T791,iS,iT,iU,iV,iW,iX,ca,cb]
 |pen v=>simp[eZ,T791,iS,iT,iU,iV,iW,iX,ca,cb]
 |skip g s=>
   cases hp:b.page.getLast? with
  |none=>
    have:b.page=[]:=List.getLast?_eq_none_iff.mp hp;simp[eZ,T791,aH,iS,iT,iU,iV,iW,iX,ca,cb,↓tc,eo,this]
  |some m=>
    have hne:b.page≠[]:=by rintro e;rw[e]at hp;cases hp
    have hpos:0 < b.page.length:=List.length_pos_iff.mpr hne;have hi:b.page[((-1:Int)+b.page.length).toNat]?=some m:=by
     rw[List.getLast?_eq_getElem?]at hp;rw[<- hp];congr 1;exact A0
    have z1:(-(b.page.length:Int))<=-1:=by lia
    have z2:(1:Int)<=b.page.length:=by lia
    cases hm:m.disc<;>simp[eZ,T791,aH,iS,iT,iU,iV,iW,iX,ca,cb,↓tc,eo,hne,hi,z1,z2,↓Kd,hm,hp]
|kern w=>
  have h2:=hk w rfl;obtain⟨m,hm⟩:∃ m,b.con[1]?=some m:=⟨b.con[1],W9 h2⟩;have:∀ {k:V->Prop},bH (mh.bld r b L) m.v "kind" k=k (.int m.kind):=by
   intro k;induction m with
  |atm a=>induction a<;>simp[Nd.kind]
  |kern w=>simp[Nd.kind]
  |mark t=>simp[Nd.kind]
  |ins=>simp[Nd.kind]
  have hq:(m.kind == 6)=m.isSkip:=by
   induction m with
  |atm a=>induction a<;>rfl
  |kern w=>rfl
  |mark t=>rfl
  |ins=>rfl
  cases hs:m.isSkip
  ·rw[hs]at hq;have hq':m.kind≠6:=by simpa using hq
   simp[eZ,T791,aH,iS,iT,iU,iV,iW,iX,ca,cb,em,hm,↓this,hq',hs]
  ·rw[hs]at hq;have hq':m.kind=6:=by simpa using hq
   simp[eZ,T791,aH,iS,iT,iU,iV,iW,iX,ca,cb,em,hm,↓this,hq',hs]
|mark t=>simp[eZ,T791,iS,iT,iU,iV,iW,iX,ca,cb]
|ins=>simp[eZ,T791,iS,iT,iU,iV,iW,iX,ca,cb]
theorem Kj {p:Int}(hL:L.Ok b.ins) (h0:b.shrink < 1073741824) (h1:b.s0 < 1073741824):fE [.ref (r,0),.int p] Q X (mh.bld r b L)=Q (.int (b.costP p)) (mh.bld r b L):=by
 by_cases c1:(b.total - b.goal > b.shrink/\b.total - b.goal>=0)\/b.ipen>=10000
 ·have:b.costP p=1073741823:=by unfold BS.costP;dsimp only;rw[if_pos c1]
  rw[this];by_cases a:b.total - b.goal > b.shrink
  ·by_cases a':b.goal<=b.total
   ·simp[fE,T798,aH,a,a']
   ·have a3:b.ipen>=10000:=by rcases c1 with h|h;exact absurd h.2 (by lia);exact h
    simp[fE,T798,aH,a,a',a3]
  ·have a3:b.ipen>=10000:=by rcases c1 with h|h;exact absurd h.1 a;exact h
   simp[fE,T798,aH,a,a3]
 ·have e:b.costP p=if p<=-10000 then p else(if (if b.total - b.goal>=0 then di (b.total - b.goal) b.shrink else if b.s1≠0\/b.s2≠0\/b.s3≠0 then 0 else di (-(b.total - b.goal)) b.s0) < 10000 then(if b.total - b.goal>=0 then di (b.total - b.goal) b.shrink else if b.s1≠0\/b.s2≠0\/b.s3≠0 then 0 else di (-(b.total - b.goal)) b.s0)+p+b.ipen else 100000):=by
   unfold BS.costP;dsimp only;rw[if_neg c1]
  rw[e];rw[not_or]at c1;obtain⟨c1,c2⟩:=c1;by_cases a':b.goal<=b.total
  ·have a:¬ b.total - b.goal > b.shrink:=fun z=>c1 ⟨z,by lia⟩
   have a2:0<=b.total - b.goal:=by lia
   by_cases hp:p<=-10000
   ·simp[fE,T798,aH,a,a',c2,hp]
   ·by_cases hb:di (b.total - b.goal) b.shrink < 10000<;>simp[fE,T798,aH,a,a',c2,hp,↓pI a2 h0,hb]
  ·have a2:0<=-(b.total - b.goal):=by lia
   by_cases hp:p<=-10000
   ·by_cases a:b.total - b.goal > b.shrink<;>simp[fE,T798,aH,a,a',c2,hp]
   ·by_cases a:b.total - b.goal > b.shrink<;>by_cases t1:b.s1=0<;>by_cases t2:b.s2=0<;>by_cases t3:b.s3=0<;>by_cases hb:di (-(b.total - b.goal)) b.s0 < 10000<;>
     simp[fE,T798,aH,mv hL,a,a',c2,hp,↓pI a2 h1,hb,t1,t2,t3]
end
noncomputable def pT (p:Int × Ins):Int × Ins:=(p.1,{ p.2 with best:=p.2.last })
theorem Kk {k:Int}{e:Ins}{es:List (Int × Ins)}(hk:(es.map (fun q=>q.1)).Nodup) (h:es.lookup k=some e):∀ p∈es,p.1=k->p.2=e:=by
 induction es with
|nil=>simp at h
|cons q es ih=>
  obtain⟨j,e0⟩:=q;rw[V1,W2]at hk;intro p hp hpk;rw[V9]at h;by_cases hj:k=j
  ·subst hj;rw[beq_self_eq_true]at h;obtain rfl:=U1 h;rcases V3.mp hp with rfl|hp
   ·rfl
   ·exact absurd (V5.mpr ⟨p,hp,hpk⟩) hk.1
  ·rw[beq_eq_false_iff_ne.mpr hj]at h;rcases V3.mp hp with rfl|hp
   ·exact absurd hpk.symm hj
   ·exact ih hk.2 h p hp hpk
theorem zb {k:Int}{es:List (Int × Ins)}(h:k∈es.map (fun q=>q.1)):∃ e,es.lookup k=some e:=by
 induction es with
|nil=>simp at h
|cons q es ih=>
  obtain⟨j,e0⟩:=q;rw[V9];by_cases hj:k=j
  ·subst hj;exact⟨e0,by rw[beq_self_eq_true]⟩
  ·rw[beq_eq_false_iff_ne.mpr hj];refine ih ?_;rw[V1]at h;rcases V3.mp h with rfl|h
   ·exact absurd rfl hj
   ·exact h
theorem Kl {k:Int}{e:Ins}{es:List (Int × Ins)}(hk:(es.map (fun q=>q.1)).Nodup) (h:es.lookup k=some e):bN k { e with best:=e.last } es=es.map fun p=>if p.1=k then pT p else p:=by
 unfold bN;refine X2 fun p hp=>?_
 by_cases hpk:p.1=k
 ·rw[if_pos hpk,if_pos hpk,<- Kk hk h p hp hpk];unfold pT;rw[hpk]
 ·rw[if_neg hpk,if_neg hpk]
noncomputable def pU:TS:=ab (aw "entry" (au (ae (aa "self") "inserts") (aa "number")))
  (ay 674 "best" (aa "entry") (ae (aa "entry") "last"))
noncomputable def BS.mark (b:BS) (ns:List Int):BS:={ b with ins:=b.ins.map fun p=>if p.1∈ns then pT p else p }
section
variable {Q:V->MH->Prop}{X:XP}{mh mh':MH}{r:Nat}{b b':BS}{L:BL}{K:Fl->St->Prop}
theorem Km:∀ (ns:List Int) (b:BS) (st:St),L.Ok b.ins->(∀ k∈ns,k∈b.ins.map (fun q=>q.1))->st.loc.lookup "self"=some (.ref (r,0))->st.mh=mh.bld r b L->
  (∀ st',(∀ n,n≠"entry"->n≠"number"->st'.loc.lookup n=st.loc.lookup n)->st'.mh=mh.bld r (b.mark ns) L->K .next st')->
  ck (fun ω=>True) "number" pU (ns.map V.int) K X st:=by
 intro ll;induction ll with
|nil=>
  intro b st hL hn hs hm hk;exact by
    rw[List.map_nil,kz];refine⟨trivial,hk st (fun ω ω ω=>rfl) ?_⟩;rw[hm];have:b.mark []=b:=by unfold BS.mark;simp
    rw[this]
|cons k ns IH=>
  intro b st hL hn hs hm hk;exact by
    rw[V1,gj];refine⟨trivial,?_⟩;obtain⟨loc,pend,mh0⟩:=st;dsimp only at hs hm;subst hm;obtain⟨e,he⟩:=zb (hn k (.head _));obtain⟨n,hf⟩:=y6 hL.len he;have key:∀ (K':Fl->St->Prop),K' .next ⟨aj "entry" (.ref (r,n)) (aj "number" (.int k) loc),pend,mh.bld r { b with ins:=bN k { e with best:=e.last } b.ins } L⟩->pU K' X ⟨aj "number" (.int k) loc,pend,mh.bld r b L⟩:=fun K' h=>by
     simp[pU,ax,aX,hs,aH,gX,mA,hf,mD hL hf,y9 hL hf];exact h
    refine key _ ?_;refine IH { b with ins:=bN k { e with best:=e.last } b.ins } _ (hL.upd k _) (fun j hj=>by rw[mB];exact hn j (.tail _ hj)) (by (repeat first|exact ax|exact hs|refine az rfl ?_)) rfl fun st' h1 h2=>hk st' (fun m a1 a2=>?_) ?_
    ·rw[h1 m a1 a2];simp[ax,aX,a1,a2]
    ·rw[h2]
     congr 1
     unfold BS.mark;rw[Kl hL.keys he];dsimp only
     congr 1
     rw[X3];refine X2 fun p hp=>?_
     by_cases h1:p.1=k
     ·subst h1;by_cases h2:p.1∈ns<;>simp[pT,h2]
     ·simp[h1]
theorem Ko {g:Option Pg}{k:Bool->Prop}:cO (cS g) k=k g.isNone:=by
 cases g<;>rfl
theorem Kp {ns:List Int}(h:ns.Perm (b.ins.map (fun q=>q.1))):b.mark ns={ b with ins:=gY b.ins }:=by
 unfold BS.mark gY
 congr 1
 refine X2 fun p hp=>?_
 rw[if_pos (h.mem_iff.mpr (V5.mpr ⟨p,hp,rfl⟩))];rfl
theorem Kq {st:St}(hL:L.Ok b.ins) (h60:b.ins.length<=60) (hs:st.loc.lookup "self"=some (.ref (r,0))) (hm:st.mh=mh.bld r b L)
  (hk:∀ st',(∀ n,n≠"entry"->n≠"number"->st'.loc.lookup n=st.loc.lookup n)->st'.mh=mh.bld r { b with ins:=gY b.ins } L->K .next st') :
  cG "number" (bc (af bSortD [(ae (aa "self") "inserts")])) (ab (aw "entry" (au (ae (aa "self") "inserts") (aa "number"))) (ay 674 "best" (aa "entry") (ae (aa "entry") "last"))) K X st:=by
 obtain⟨loc,pend,mh0⟩:=st;dsimp only at hs hm;subst hm;have hl:(cf r b.ins L.il).length<=60:=by rw[pR _ _ hL.len];exact h60
 have key:(∀ ns:List Int,ns.Perm ((cf r b.ins L.il).map (fun q=>q.1))->ns.Pairwise (·<=·)->ck (fun ω=>True) "number" pU (ns.map V.int) K X ⟨loc,pend,mh.bld r b L⟩):=fun ns hp ω=>by
  rw[y7 _ _ hL.len]at hp;refine Km ns b _ hL (fun k h=>hp.mem_iff.mp h) hs rfl fun st' h1 h2=>hk st' h1 ?_
  rw[h2,Kp hp]
 rw[kc,gN,jo,co,o8,cI];dsimp only;rw[hs];dsimp only;rw[sJ,aH];dsimp only;rw[y1,cK];show bSortD [.ref (r,5)] _ _ _;unfold bSortD;dsimp only;rw[gX];exact⟨hl,fun ns a1 a2=>key ns a1 a2⟩
end
section
variable {Q:V->MH->Prop}{X:XP}{mh mh':MH}{r:Nat}{b b':BS}{L:BL}{K:Fl->St->Prop}
theorem gk {n:Nd}{k:V->Prop}:bH mh n.v "kind" k=k (.int n.kind):=by
 induction n with
|atm a=>induction a<;>simp[Nd.kind]
|kern w=>simp[Nd.kind]
|mark t=>simp[Nd.kind]
|ins=>simp[Nd.kind]
set_option tactic.hygienic true in
theorem Kr {n:Nd}(hr:r≠0) (hL:L.Ok b.ins) (h60:b.ins.length<=60) (hk:∀ w,n=.kern w->b.con.length>=2) (hl:b.page.length<=10000) (h0:b.shrink < 1073741824) (h1:b.s0 < 1073741824)
  (hq:∀ m,Sc mh m->Q (cS (b.tried n).2) (m.bld r (b.tried n).1 L)):gH [.ref (r,0),n.v] Q X (mh.bld r b L):=by
 have l0:b.page.length<=1000000:=by exact ba ‹_› rfl
 cases hp:b.ahead n with
|none=>
  have e:b.tried n=(b,none):=by unfold BS.tried;rw[hp]
  rw[e]at hq;have:=hq mh (Sc.refl mh);simp[gH,T805,aH,↓td hk hl,hp,ca,cb];exact this
|some p=>
  by_cases hp1:p>=10000
  ·have e:b.tried n=(b,none):=by unfold BS.tried;rw[hp];dsimp only;rw[if_pos hp1]
   rw[e]at hq;have:=hq mh (Sc.refl mh);simp[gH,T805,aH,↓td hk hl,hp,ca,cb,hp1];exact this
  ·have e:b.tried n=(let b':=if (b.best.all fun g=>decide (b.costP p<=g.cost))=true then{ b with best:=some ⟨b.page.length,if n.kind=7 then p else 10000,b.costP p,b.goal⟩,ins:=gY b.ins }else b
     (b',if b.costP p=1073741823\/p<=-10000 then b'.best else none)):=by unfold BS.tried;rw[hp];dsimp only;rw[if_neg hp1]
   rw[e]at hq;dsimp only at hq;have pre:∀ (U:TS) (K:Fl->St->Prop),U K X ⟨[("self",.ref (r,0)),("node",n.v),("penalty",.int p),("cost",.int (b.costP p))],[],mh.bld r b L⟩->
     (ab (aw "penalty" (aF 829 eZ (aa "self") [(aa "node")])) (ab (ak (aV (ag .Is (aa "penalty") (tK .none)) (ag .GtE (aa "penalty") (tK (.int 10000)))) (ao (tK .none)) tNil)
      (ab (aw "cost" (aF 829 fE (aa "self") [(aa "penalty")])) U))) K X ⟨[("self",.ref (r,0)),("node",n.v)],[],mh.bld r b L⟩:=fun U K h=>by
    simp[aH,↓td hk hl,hp,ca,cb,hp1,↓Kj hL h0 h1];exact h
   have ctest:∀ (K':Bool->St->Prop),K' (if (b.best.all fun g=>decide (b.costP p<=g.cost))=true then true else false) ⟨[("self",.ref (r,0)),("node",n.v),("penalty",.int p),("cost",.int (b.costP p))],[],mh.bld r b L⟩->
     (aV (ag .Is (ae (aa "self") "best") (tK .none)) (ag .LtE (aa "cost") (ae (ae (aa "self") "best") "cost"))) K' X ⟨[("self",.ref (r,0)),("node",n.v),("penalty",.int p),("cost",.int (b.costP p))],[],mh.bld r b L⟩:=fun K' h=>by
    cases hbb:b.best with
   |none=>
     rw[hbb]at h;simp[aH,hbb,iQ,iR];exact h
   |some g=>
     rw[hbb]at h;by_cases hg:b.costP p<=g.cost
     ·simp[hg]at h;simp[aH,hbb,iQ,iR,hg,Pg.v];exact h
     ·simp[hg]at h;simp[aH,hbb,iQ,iR,hg,Pg.v];exact h
   by_cases hc:(b.best.all fun g=>decide (b.costP p<=g.cost))=true
   ·rw[if_pos hc]at hq;dsimp only at hq;have fin:∀ st':St,st'.loc.lookup "self"=some (.ref (r,0))->st'.loc.lookup "cost"=some (.int (b.costP p))->st'.loc.lookup "penalty"=some (.int p)->
      st'.mh=mh.bump.bld r { b with best:=some ⟨b.page.length,if n.kind=7 then p else 10000,b.costP p,b.goal⟩,ins:=gY b.ins } L->
      (ab (ak (aV (ag .Eq (aa "cost") (tK (.int 1073741823))) (ag .LtE (aa "penalty") (tK (.int (-10000))))) (ao (ae (aa "self") "best")) tNil) (ao (tK .none))) (fun fl st=>Q fl.val st.mh) X st':=by
     rintro ⟨loc,pend,m⟩ a1 a2 a3 a4;dsimp only at a1 a2 a3 a4;subst a4;have:=hq mh.bump (ce mh);by_cases z1:b.costP p=1073741823
     ·rw[if_pos (.inl z1)]at this;simp[a1,a2,a3,z1,aH];rw[z1]at this;exact this
     ·by_cases z2:p<=-10000
      ·rw[if_pos (.inr z2)]at this;simp[a1,a2,a3,z1,z2,aH];exact this
      ·rw[if_neg (not_or.mpr ⟨z1,z2⟩)]at this;simp[a1,a2,a3,z1,z2];exact this
    have go:∀ st':St,st'.loc.lookup "self"=some (.ref (r,0))->st'.loc.lookup "cost"=some (.int (b.costP p))->st'.loc.lookup "penalty"=some (.int p)->
      st'.mh=mh.bump.bld r { b with best:=some ⟨b.page.length,if n.kind=7 then p else 10000,b.costP p,b.goal⟩ } L->
      cG "number" (bc (af bSortD [(ae (aa "self") "inserts")])) (ab (aw "entry" (au (ae (aa "self") "inserts") (aa "number"))) (ay 674 "best" (aa "entry") (ae (aa "entry") "last")))
       (fun f st=>match f with|.next=>(ab (ak (aV (ag .Eq (aa "cost") (tK (.int 1073741823))) (ag .LtE (aa "penalty") (tK (.int (-10000))))) (ao (ae (aa "self") "best")) tNil) (ao (tK .none))) (fun fl st=>Q fl.val st.mh) X st|f=>Q f.val st.mh) X st':=by
     intro st' a1 a2 a3 a4;refine Kq (b:={ b with best:=some ⟨b.page.length,if n.kind=7 then p else 10000,b.costP p,b.goal⟩ }) hL h60 a1 a4 fun st2 c1 c2=>?_
     exact fin st2 ((c1 _ (by decide) (by decide)).trans a1) ((c1 _ (by decide) (by decide)).trans a2) ((c1 _ (by decide) (by decide)).trans a3) c2
    have w1:∀ (m:MH) (K:Fl->St->Prop) (loc:List (String × V)),loc.lookup "self"=some (.ref (r,0))->loc.lookup "penalty"=some (.int p)->loc.lookup "cost"=some (.int (b.costP p))->loc.lookup "node"=some n.v->
      cG "number" (bc (af bSortD [(ae (aa "self") "inserts")])) (ab (aw "entry" (au (ae (aa "self") "inserts") (aa "number"))) (ay 674 "best" (aa "entry") (ae (aa "entry") "last"))) K X
       ⟨loc,[],m.bump.bld r { b with best:=some ⟨b.page.length,if n.kind=7 then p else 10000,b.costP p,b.goal⟩ } L⟩->
      (ab (ay 829 "best" (aa "self") (af K695 [(af bLen [(ae (aa "self") "page")]),(bM (ag .Eq (ae (aa "node") "kind") (tK (.int 7))) (aa "penalty") (tK (.int 10000))),(aa "cost"),(ae (aa "self") "goal")]))
  (cG "number" (bc (af bSortD [(ae (aa "self") "inserts")])) (ab (aw "entry" (au (ae (aa "self") "inserts") (aa "number"))) (ay 674 "best" (aa "entry") (ae (aa "entry") "last"))))) K X ⟨loc,[],m.bld r b L⟩:=by
     intro m K loc a1 a2 a3 a4 h;by_cases h7:n.kind=7
     ·rw[if_pos h7]at h;simp[a1,a2,a3,a4,aH,eo,l0,↓gk,h7,↓yS,my hr,-yE];exact h
     ·rw[if_neg h7]at h;simp[a1,a2,a3,a4,aH,eo,l0,↓gk,h7,↓yS,my hr,-yE];exact h
    refine⟨rfl,pre _ _ ?_⟩;rw[cP,j8];refine ctest _ ?_;rw[if_pos hc,if_pos rfl];exact w1 mh _ _ rfl rfl rfl rfl (go _ rfl rfl rfl rfl)
   ·rw[if_neg hc]at hq;have:=hq mh (Sc.refl mh);refine⟨rfl,pre _ _ ?_⟩;rw[cP,j8];refine ctest _ ?_;rw[if_neg hc,if_neg U2];by_cases z1:b.costP p=1073741823
    ·rw[if_pos (.inl z1)]at this;simp[z1,aH];exact this
    ·by_cases z2:p<=-10000
     ·rw[if_pos (.inr z2)]at this;simp[z1,z2,aH];exact this
     ·rw[if_neg (not_or.mpr ⟨z1,z2⟩)]at this;simp[z1,z2];exact this
end
noncomputable def Cl.taken (c:Cl) (s:Int):Int:=if c.factor=1000 then s else iO s 1000 * c.factor
noncomputable def kC (a b c:Int):Int:=if b < a then(if c < b then c else b)else(if c < a then c else a)
noncomputable def Cl.room (c:Cl) (free size:Int):Int:=mx (kC (if c.factor > 0 then(if c.factor=1000 then free else iO free c.factor * 1000)else 1073741823) (c.most - size) 1073741823) (-1073741823)
theorem Ks {c:Cl}{f s:Int}:aZ (c.room f s):=by
 unfold Cl.room mx kC aZ;generalize (if c.factor > 0 then(if c.factor=1000 then f else iO f c.factor * 1000)else 1073741823)=a;generalize c.most - s=b
 constructor<;>(repeat' split)<;>first|exact Z6.mp ‹_›|exact Z2 _|lia
noncomputable def At.nat:At->Int
|.box _ h d=>h+d
|.skip g _=>g.w
|.pen _=>0
theorem pV {l h d:Int}:(At.box l h d).nat=h+d:=rfl
theorem te {g:Gl}{s:Int}:(At.skip g s).nat=g.w:=rfl
theorem tf {v:Int}:(At.pen v).nat=0:=rfl
noncomputable def dP (ps:List At):Int:=(ps.map At.nat).sum
section
variable {Q:V->MH->Prop}{X:XP}{mh mh':MH}{r:Nat}{b b':BS}{L:BL}{K:Fl->St->Prop}{c:Cl}
theorem tg {s:Int}(h1:-1073741824 < c.factor) (h2:c.factor < 1073741824):eY [c.v,.int s] Q X mh=Q (.int (c.taken s)) mh:=by
 have hm:IntMulOk (iO s 1000) c.factor:=mf h1 h2;by_cases h:c.factor=1000
 ·simp[eY,T620,h,Cl.taken]
 ·simp[eY,T620,h,Cl.taken,↓yR (i:=s) (b:=1000) (by decide) (by decide),hm]
theorem zc {f s:Int}(h2:c.factor < 1073741824):gG [c.v,.int f,.int s] Q X mh=Q (.int (c.room f s)) mh:=by
 by_cases h:c.factor > 0
 ·by_cases h1:c.factor=1000
  ·simp[gG,T598,h1,Cl.room,mx,kC]
  ·simp[gG,T598,h,h1,Cl.room,↓yR (i:=f) h h2,I8,mx,kC]
 ·have h1:c.factor≠1000:=by lia
  simp[gG,T598,h,h1,Cl.room,mx,kC]
noncomputable def mE:TS:=ak (ag .In (ae (aa "node") "kind") (tK (.tup ([2,3,4].map .int)))) (ci "found" (fun i j=>i+j) (aq (fun ω ω=>True) (fun i j=>i+j) (af gE [(aa "node")]) (af iB [(aa "node")]))) (ak (ag .Eq (ae (aa "node") "kind") (tK (.int 5))) (ci "found" (fun i j=>i+j) (ae (aa "node") "width")) (ak (ag .Eq (ae (aa "node") "kind") (tK (.int 6))) (ci "found" (fun i j=>i+j) (ae (ae (aa "node") "glue") "width")) tNil))
theorem Kt:∀ (ps:List At) (f:Int) (st:St),st.loc.lookup "found"=some (.int f)->(∀ st',st'.loc.lookup "found"=some (.int (f+dP ps))->st'.mh=st.mh->K .next st')->
  ck (fun ω=>True) "node" mE (ps.map At.v) K X st:=by
 intro ll;induction ll with
|nil=>
  intro f st h hk;exact by
    rw[List.map_nil,kz];exact⟨trivial,hk st (by rw[h];simp[dP]) rfl⟩
|cons a ps IH=>
  intro f st h hk;exact by
    rw[V1,gj];refine⟨trivial,?_⟩;obtain⟨loc,pend,mh0⟩:=st;dsimp only at h hk;have key:∀ (K':Fl->St->Prop),(∀ loc',loc'.lookup "found"=some (.int (f+a.nat))->K' .next ⟨loc',pend,mh0⟩)->mE K' X ⟨aj "node" a.v loc,pend,mh0⟩:=fun K' hk'=>by
     induction a with
    |box l h' d=>
      have:=hk' (aj "found" (.int (f+(h'+d))) (aj "node" (At.box l h' d).v loc)) (by simp[ax,aX,pV]);simp[mE,ax,aX,h,↓pQ,↓y2];exact this
    |skip g s=>
      have:=hk' (aj "found" (.int (f+g.w)) (aj "node" (At.skip g s).v loc)) (by simp[ax,aX,te]);simp[mE,ax,aX,h];exact this
    |pen v=>
      have:=hk' (aj "node" (At.pen v).v loc) (by simp[ax,aX,tf,h]);simp[mE,ax,aX,h];exact this
    refine key _ fun loc' hl=>?_
    refine IH (f+a.nat) ⟨loc',pend,mh0⟩ hl fun st' h1 h2=>hk st' ?_ h2
    rw[h1];simp[dP,Int.add_assoc]
theorem Ku {ps:List At}{p:Nat}(hq:Q (.int (dP (ps.take p))) mh):jW [.lst (List.take p (ps.map At.v))] Q X mh:=by
 rw[<- List.map_take];refine⟨rfl,?_⟩;unfold T584;rw[cP,iI,cQ];dsimp only;rw[cP,kc,gN,cI];show d9 _ (.lst ((ps.take p).map At.v)) _;unfold d9;dsimp only;refine Kt (X:=X) (ps.take p) 0 _ rfl fun st' h1 h2=>?_
 obtain⟨loc,pend,m⟩:=st';dsimp only at h1 h2;subst h2;rw[Int.zero_add]at h1;simp[h1];exact hq
end
structure Mid where
 goal:Int
 shrink:Int
 need:Int
 place:Int
noncomputable def BS.igoal (b:BS) (row:Cl) (first:Bool):Int:=if first=true then(if b.state=0 then b.vsize else b.goal) - (row.taken row.held+row.skip.w)else(if b.state=0 then b.vsize else b.goal)
noncomputable def BS.ishr (b:BS) (row:Cl) (first:Bool):Int:=if first=true then(if b.state=0 then 0 else b.shrink)+row.skip.sh else(if b.state=0 then 0 else b.shrink)
noncomputable def BS.iused (b:BS):Int:=if b.state=0 then 0 else b.total+b.depth
noncomputable def BS.iover (b:BS) (row:Cl) (size esz:Int) (first:Bool):Prop:=mx (b.igoal row first - b.iused+b.ishr row first) 0 < row.taken size\/row.most < size+esz
noncomputable def BS.iplace (b:BS) (row:Cl) (size deep esz:Int) (ps:List At) (first:Bool):Option Int:=
 open Classical in if b.iover row size esz first then(vb ps (row.room (b.igoal row first - b.iused) esz) deep).map (fun q=>q.1)else some (-1)
noncomputable def th (U:TS):TS:=
  (ab (bt [an "used",an "shrink",an "goal"] (aD [(ae (aa "self") "goal"),(ae (aa "self") "shrink"),(aq (fun ω ω=>True) (fun i j=>i+j) (ae (aa "self") "total") (ae (aa "self") "depth"))]))
  (ab (ak (ag .Eq (ae (aa "self") "state") (tK (.int 0))) (bt [an "used",an "shrink",an "goal"] (aD [(ae (aa "self") "vsize"),(tK (.int 0)),(tK (.int 0))])) tNil)
  (ab (ak (bj (aa "is_first")) (ab (ci "goal" (fun i j=>i - j) (aq (fun ω ω=>True) (fun i j=>i+j) (aF 623 eY (aa "row") [(ae (aa "row") "held")]) (ae (ae (aa "row") "skip") "width")))
  (ci "shrink" (fun i j=>i+j) (ae (ae (aa "row") "skip") "shrink"))) tNil)
  (ab (aw "need" (aF 623 eY (aa "row") [(ae (aa "node") "size")]))
  (ab (aw "place" (cD (tK (.int 1))))
  (ab (ak (aV (ag .Gt (aa "need") (af bMax2 [(aq (fun ω ω=>True) (fun i j=>i+j) (aq (fun ω ω=>True) (fun i j=>i - j) (aa "goal") (aa "used")) (aa "shrink")),(tK (.int 0))])) (ag .Gt (aq (fun ω ω=>True) (fun i j=>i+j) (ae (aa "node") "size") (ae (aa "entry") "size")) (ae (aa "row") "most"))) (aw "place" (au (af jj [(ae (aa "node") "items"),(af gG [(aa "row"),(aq (fun ω ω=>True) (fun i j=>i - j) (aa "goal") (aa "used")),(ae (aa "entry") "size")]),(ae (aa "node") "depth")]) (tK (.int 0)))) tNil)
  U))))))
structure N819 (loc:List (String × V)) (r n:Nat) (nv:V) (row:Cl) (first:Bool):Prop where
 self:loc.lookup "self"=some (.ref (r,0))
 node:loc.lookup "node"=some nv
 row:loc.lookup "row"=some row.v
 entry:loc.lookup "entry"=some (.ref (r,n))
 first:loc.lookup "is_first"=some (.bool first)
structure N819' (loc:List (String × V)) (r n:Nat) (nv:V) (row:Cl) (first:Bool) (m:Mid):Prop extends N819 loc r n nv row first where
 goal:loc.lookup "goal"=some (.int m.goal)
 shrink:loc.lookup "shrink"=some (.int m.shrink)
 need:loc.lookup "need"=some (.int m.need)
 place:loc.lookup "place"=some (.int m.place)
section
variable {loc:List (String × V)}{num size deep tw cost:Int}{ps:List At}{U:TS}
variable {Q:V->MH->Prop}{X:XP}{mh mh':MH}{r n:Nat}{b b':BS}{L:BL}{K:Fl->St->Prop}{c:Cl}{row:Cl}{e:Ins}{first:Bool}
theorem zd (hr:r≠0) {m:MH}(sc:Sc (mh.bld r b L) m):∃ m',m=m'.bld r b L/\Sc mh m':=by
 have e1:=mz hr sc;refine⟨{ m:=fun l=>if l.1=r then mh.m l else m.m l,nx:=fun q=>if q=r then mh.nx q else m.nx q },?_,?_⟩
 ·refine eK (fun l=>?_) fun q=>?_
  ·rw[e1];by_cases h:l.1=r<;>simp[MH.bld,h]
  ·rw[e1];by_cases h:q=r<;>simp[MH.bld,h]
 ·refine⟨fun l h=>?_,fun q h=>?_,?_⟩
  ·by_cases hl:l.1=r
   ·simp[hl]
   ·have:=sc.m l (h.imp id fun z=>by rw[yY hr];exact z);simp[hl,this,MH.bld]
  ·by_cases hl:q=r
   ·simp[hl]
   ·have:=sc.nx q h;simp[hl,this,MH.bld]
  ·have:=sc.le;rw[yY hr]at this;simp[Ne.symm hr,this]
theorem ze {K:Bool->St->Prop}(N2:loc.lookup "node"=some (Nd.ins num size deep tw cost ps).v) (N3:loc.lookup "row"=some row.v) (N4:loc.lookup "entry"=some (.ref (r,n))) (M6:loc.lookup "goal"=some (.int (b.igoal row first))) (M7:loc.lookup "shrink"=some (.int (b.ishr row first))) (M8:loc.lookup "need"=some (.int (row.taken size))) (hus:loc.lookup "used"=some (.int b.iused))
  (he0:mh.m (r,n)=some (.inst 674 e.fs)) (ho:b.iover row size e.size first->K true ⟨loc,[],mh⟩) (hn:¬ b.iover row size e.size first->K false ⟨loc,[],mh⟩) :
  (aV (ag .Gt (aa "need") (af bMax2 [(aq (fun ω ω=>True) (fun i j=>i+j) (aq (fun ω ω=>True) (fun i j=>i - j) (aa "goal") (aa "used")) (aa "shrink")),(tK (.int 0))])) (ag .Gt (aq (fun ω ω=>True) (fun i j=>i+j) (ae (aa "node") "size") (ae (aa "entry") "size")) (ae (aa "row") "most"))) K X ⟨loc,[],mh⟩:=by
 by_cases o1:(if b.igoal row first - b.iused+b.ishr row first < 0 then 0 else b.igoal row first - b.iused+b.ishr row first) < row.taken size
 ·have:=ho (.inl o1);simp[↓tl M8,↓tl M6,↓tl hus,↓tl M7,o1];exact this
 ·by_cases o2:row.most < size+e.size
  ·have:=ho (.inr o2);simp[↓tl M8,↓tl M6,↓tl hus,↓tl M7,↓tl N2,↓tl N4,↓tl N3,he0,o1,o2];exact this
  ·have:=hn (not_or.mpr ⟨o1,o2⟩);simp[↓tl M8,↓tl M6,↓tl hus,↓tl M7,↓tl N2,↓tl N4,↓tl N3,he0,o1,o2];exact this
structure N819a (loc:List (String × V)) (r n:Nat) (nv:V) (row:Cl) (first:Bool) (u s g:Int):Prop extends N819 loc r n nv row first where
 used:loc.lookup "used"=some (.int u)
 shrink:loc.lookup "shrink"=some (.int s)
 goal:loc.lookup "goal"=some (.int g)
theorem Kv {nv:V}(N:N819 loc r n nv row first)
  (hk:∀ loc',N819a loc' r n nv row first b.iused (if b.state=0 then 0 else b.shrink) (if b.state=0 then b.vsize else b.goal)->U K X ⟨loc',[],mh.bld r b L⟩) :
  (ab (bt [an "used",an "shrink",an "goal"] (aD [(ae (aa "self") "goal"),(ae (aa "self") "shrink"),(aq (fun ω ω=>True) (fun i j=>i+j) (ae (aa "self") "total") (ae (aa "self") "depth"))]))
  (ab (ak (ag .Eq (ae (aa "self") "state") (tK (.int 0))) (bt [an "used",an "shrink",an "goal"] (aD [(ae (aa "self") "vsize"),(tK (.int 0)),(tK (.int 0))])) tNil) U)) K X ⟨loc,[],mh.bld r b L⟩:=by
 obtain⟨N1,N2,N3,N4,N5⟩:=N;have f:∀ (g s u:Int) (l:List (String × V)),N819 l r n nv row first->N819a (aj "goal" (.int g) (aj "shrink" (.int s) (aj "used" (.int u) l))) r n nv row first u s g:=fun g s u l M=>
  ⟨⟨az rfl (az rfl (az rfl M.self)),az rfl (az rfl (az rfl M.node)),az rfl (az rfl (az rfl M.row)),az rfl (az rfl (az rfl M.entry)),az rfl (az rfl (az rfl M.first))⟩,az rfl (az rfl ax),az rfl ax,ax⟩
 have f1:=f b.goal b.shrink (b.total+b.depth) loc ⟨N1,N2,N3,N4,N5⟩;by_cases hs:b.state=0
 ·have:=hk _ (by rw[BS.iused,if_pos hs,if_pos hs,if_pos hs];exact f b.vsize 0 0 _ f1.toN819);simp[↓tl N1,↓lr N1,hs];exact this
 ·have:=hk _ (by rw[BS.iused,if_neg hs,if_neg hs,if_neg hs];exact f1);simp[↓tl N1,↓lr N1,hs];exact this
theorem Kw {nv:V}{u s g:Int}(h1:-1073741824 < row.factor) (h2:row.factor < 1073741824) (N:N819a loc r n nv row first u s g)
  (hk:∀ loc',N819a loc' r n nv row first u (if first=true then s+row.skip.sh else s) (if first=true then g - (row.taken row.held+row.skip.w)else g)->U K X ⟨loc',[],mh⟩) :
  (ab (ak (bj (aa "is_first")) (ab (ci "goal" (fun i j=>i - j) (aq (fun ω ω=>True) (fun i j=>i+j) (aF 623 eY (aa "row") [(ae (aa "row") "held")]) (ae (ae (aa "row") "skip") "width")))
  (ci "shrink" (fun i j=>i+j) (ae (ae (aa "row") "skip") "shrink"))) tNil) U) K X ⟨loc,[],mh⟩:=by
 obtain⟨⟨N1,N2,N3,N4,N5⟩,N6,N7,N8⟩:=N;cases first
 ·have:=hk _ ⟨⟨N1,N2,N3,N4,N5⟩,N6,N7,N8⟩;simp[↓tl N5];exact this
 ·have:=hk (aj "shrink" (.int (s+row.skip.sh)) (aj "goal" (.int (g - (row.taken row.held+row.skip.w))) loc)) ⟨⟨az rfl (az rfl N1),az rfl (az rfl N2),az rfl (az rfl N3),az rfl (az rfl N4),az rfl (az rfl N5)⟩,az rfl (az rfl N6),ax,az rfl ax⟩;simp[↓tl N5,↓tl N3,↓lr N3,N7,N8,aX,↓tg h1 h2];exact this
theorem Kx {u s g:Int}(h1:-1073741824 < row.factor) (h2:row.factor < 1073741824) (N:N819a loc r n (Nd.ins num size deep tw cost ps).v row first u s g)
  (hk:∀ loc',N819' loc' r n (Nd.ins num size deep tw cost ps).v row first ⟨g,s,row.taken size,-1⟩->loc'.lookup "used"=some (.int u)->U K X ⟨loc',[],mh⟩) :
  (ab (aw "need" (aF 623 eY (aa "row") [(ae (aa "node") "size")]))
  (ab (aw "place" (cD (tK (.int 1)))) U)) K X ⟨loc,[],mh⟩:=by
 obtain⟨⟨N1,N2,N3,N4,N5⟩,N6,N7,N8⟩:=N;have:=hk (aj "place" (.int (-1)) (aj "need" (.int (row.taken size)) loc)) ⟨⟨az rfl (az rfl N1),az rfl (az rfl N2),az rfl (az rfl N3),az rfl (az rfl N4),az rfl (az rfl N5)⟩,az rfl (az rfl N8),az rfl (az rfl N7),az rfl ax,ax⟩ (az rfl (az rfl N6));simp[↓tl N3,↓tl N2,↓lr N2,↓tg h1 h2];exact this
set_option tactic.hygienic true in
theorem zf (hr:r≠0) (h1:-1073741824 < row.factor) (h2:row.factor < 1073741824) (hps:∀ a∈ps,a.Ok) (hl:ps.length<=1000) (hd:aZ deep)
  (N:N819 loc r n (Nd.ins num size deep tw cost ps).v row first) (he:∀ m,Sc (mh.bld r b L) m->m.m (r,n)=some (.inst 674 e.fs))
  (hx:b.iplace row size deep e.size ps first=none->∀ m,Sc mh m->X 76 (m.bld r b L))
  (hu:∀ p,b.iplace row size deep e.size ps first=some p->∀ m loc',Sc mh m->N819' loc' r n (Nd.ins num size deep tw cost ps).v row first ⟨b.igoal row first,b.ishr row first,row.taken size,p⟩->U K X ⟨loc',[],m.bld r b L⟩) :
  th U K X ⟨loc,[],mh.bld r b L⟩:=by
 obtain⟨N1,N2,N3,N4,N5⟩:=N;have he0:=he _ (Sc.refl _);refine Kv ⟨N1,N2,N3,N4,N5⟩ fun loc1 A1=>Kw h1 h2 A1 fun loc2 A2=>Kx h1 h2 A2 fun loc' N' hus=>?_
 have N':N819' loc' r n (Nd.ins num size deep tw cost ps).v row first ⟨b.igoal row first,b.ishr row first,row.taken size,-1⟩:=N'
 obtain⟨⟨M1,M2,M3,M4,M5⟩,M6,M7,M8,M9⟩:=N';dsimp only at M6 M7 M8 M9;by_cases ho:b.iover row size e.size first
 ·have hp:b.iplace row size deep e.size ps first=(vb ps (row.room (b.igoal row first - b.iused) e.size) deep).map (fun q=>q.1):=by unfold BS.iplace;rw[if_pos ho]
  rw[hp]at hx hu;have call:∀ (Q':V->MH->Prop),(∀ p m,(vb ps (row.room (b.igoal row first - b.iused) e.size) deep).map (fun q=>q.1)=some p->Sc mh m->∀ q:Int,Q' (.tup [.int p,.int q]) (m.bld r b L))->
    jj [.lst (ps.map At.v),.int (row.room (b.igoal row first - b.iused) e.size),.int deep] Q' X (mh.bld r b L):=fun Q' hq=>by
   refine JM hps hl Ks hd (fun h m sc=>?_) fun p h m sc=>?_
   ·obtain⟨m',rfl,sc'⟩:=zd hr sc;exact hx (by rw[h];rfl) m' sc'
   ·obtain⟨m',rfl,sc'⟩:=zd hr sc;exact hq p.1 m' (by rw[h];rfl) sc' p.2
  have fin:∀ p m,(vb ps (row.room (b.igoal row first - b.iused) e.size) deep).map (fun q=>q.1)=some p->Sc mh m->U K X ⟨aj "place" (.int p) loc',[],m.bld r b L⟩:=fun p m h sc=>by
   refine hu p h m _ sc ⟨⟨?_,?_,?_,?_,?_⟩,?_,?_,?_,?_⟩<;>(repeat first|exact ax|exact M1|exact M2|exact M3|exact M4|exact M5|exact M6|exact M7|exact M8|refine az rfl ?_)
  have asg:(aw "place" (au (af jj [(ae (aa "node") "items"),(af gG [(aa "row"),(aq (fun ω ω=>True) (fun i j=>i - j) (aa "goal") (aa "used")),(ae (aa "entry") "size")]),(ae (aa "node") "depth")]) (tK (.int 0))))
    (fun f st=>match f with|.next=>U K X st|f=>K f st) X ⟨loc',[],mh.bld r b L⟩:=by
   have:=call (fun v m=>bY m v (.int 0) fun u=>U K X ⟨aj "place" u loc',[],m⟩) (fun p m h sc q=>by
    have:=fin p m h sc;simp;exact this)
   have h598:∀ (Q':V->MH->Prop) (m:MH),Q' (.int (row.room (b.igoal row first - b.iused) e.size)) m->gG [row.v,.int (b.igoal row first - b.iused),.int e.size] Q' X m:=fun Q' m h=>by rw[zc h2];exact h
   rw[iI,xy,jo,co,o8,cI];simp only[M2];rw[Jo];simp[↓tl M3,↓lr M3,↓tl M6,↓lr M6,hus,↓tl M4,↓lr M4,he0,↓zc h2,↓tl M2,↓lr M2]
   try simp at this
   exact this
  rw[cP,j8];refine ze M2 M3 M4 M6 M7 M8 hus he0 (fun ω=>?_) fun z=>absurd ho z
  rw[if_pos rfl];exact asg
 ·have hp:b.iplace row size deep e.size ps first=some (-1):=by unfold BS.iplace;rw[if_neg ho]
  rw[hp]at hu;rw[cP,j8];refine ze M2 M3 M4 M6 M7 M8 hus he0 (fun z=>absurd z ho) fun ω=>?_
  rw[if_neg U2];exact hu (-1) rfl mh loc' (Sc.refl mh) ⟨⟨M1,M2,M3,M4,M5⟩,M6,M7,M8,M9⟩
end
structure BL.J (L:BL) (n:Nat) (o:MO):Prop where
 j:L.junk n=some o
 g:6<=n
 l:n < L.nx
 s:n≠L.ls
 i:n ∉ L.il
theorem BL.J.clear {L:BL}{n:Nat}{o:MO}(h:L.J n o) {a b c d:Int}:(L.clear a b c d).J n o:=
 ⟨by simp[BL.clear,h.s,h.j],h.g,Y6 h.l,Y1 h.l,h.i⟩
theorem BL.J.newj {L:BL}{es:List (Int × Ins)}(h:L.Ok es) (o:MO):(L.newj o).J L.nx o:=
 ⟨by simp[BL.newj],h.nx,Y5 _,(Y1 h.lt).symm,fun z=>absurd (h.il _ z).2.1 (Z1 _)⟩
theorem Ky {r n:Nat}{k:Int}{e:Ins}:∀ (es:List (Int × Ins)) (ns:List Nat),ns.length=es.length->cf r (es++[(k,e)]) (ns++[n])=cf r es ns++[(k,.ref (r,n))]:=by
 intro ll;induction ll with
|nil=>
  intro l2;rcases l2 with _|⟨_,_⟩
  ·intro _;exact by simp[fh,fj,dI]
  ·intro h;exact by simp at h
|cons hd es IH=>
  obtain⟨j,e'⟩:=hd;intro l2;rcases l2 with _|⟨m,ns⟩
  ·intro h;exact by simp at h
  ·intro h;exact by
     have:=IH ns (by simpa using h);simp[fh,fj,dI,this]
theorem Kz {n i:Nat}{k:Int}{e:Ins}:∀ (es:List (Int × Ins)) (ns:List Nat),ns.length=es.length->n ∉ ns->dy (es++[(k,e)]) (ns++[n]) i=if i=n then some (.inst 674 e.fs)else dy es ns i:=by
 intro ll;induction ll with
|nil=>
  intro l2;rcases l2 with _|⟨_,_⟩
  ·intro _ _;exact by simp[pO,pP,gW]
  ·intro h _;exact by simp at h
|cons hd es IH=>
  obtain⟨j,e'⟩:=hd;intro l2;rcases l2 with _|⟨m,ns⟩
  ·intro h _;exact by simp at h
  ·intro h hn;exact by
     have:=IH ns (by simpa using h) (fun z=>hn (.tail _ z));by_cases h1:i=m
     ·subst h1;have:i≠n:=by rintro rfl;exact hn (.head _)
      simp[pO,pP,gW,this]
     ·simp[pO,pP,gW,h1,this]
theorem zg {n:Nat}{k:Int}{e:Ins}:∀ (es:List (Int × Ins)) (ns:List Nat),ns.length=es.length->k ∉ es.map (fun q=>q.1)->bQ (es++[(k,e)]) (ns++[n]) k=some (n,e):=by
 intro ll;induction ll with
|nil=>
  intro l2;rcases l2 with _|⟨_,_⟩
  ·intro _ _;exact by simp[eL,eM,cT]
  ·intro h _;exact by simp at h
|cons hd es IH=>
  obtain⟨j,e'⟩:=hd;intro l2;rcases l2 with _|⟨m,ns⟩
  ·intro h _;exact by simp at h
  ·intro h hk;exact by
     have:=IH ns (by simpa using h) (fun z=>hk (by rw[V1];exact .tail _ z));have hj:k≠j:=by rintro rfl;exact hk (by simp)
     simp[eL,eM,cT,hj,this]
noncomputable def BL.add (L:BL) (n:Nat):BL:={ L with il:=L.il++[n] }
theorem BL.Ok.add {L:BL}{es:List (Int × Ins)}{n:Nat}{o:MO}{k:Int}{e:Ins}(h:L.Ok es) (j:L.J n o) (hk:k ∉ es.map (fun q=>q.1)):(L.add n).Ok (es++[(k,e)]):=by
 refine⟨h.ls,h.lt,by simp[BL.add,h.len],fun i hi=>?_,?_,h.nx,?_⟩
 ·rcases U5.mp hi with hi|hi
  ·exact h.il i hi
  ·obtain rfl:=U6.mp hi;exact⟨j.g,j.l,j.s⟩
 ·show(L.il++[n]).Nodup;rw[V7];refine⟨h.nd,by simp,fun a ha b hb=>?_⟩;obtain rfl:=U6.mp hb;rintro rfl;exact j.i ha
 ·rw[V2,V7];refine⟨h.keys,by simp,fun a ha b hb=>?_⟩;simp only[V1,List.map_nil,U6]at hb;subst hb;rintro rfl;exact hk ha
theorem mF {k:Int}{n:Nat}{e e':Ins}{es:List (Int × Ins)}{ns:List Nat}(h:bQ es ns k=some (n,e)):bQ (bN k e' es) ns k=some (n,e'):=by
 rw[Kh,if_pos rfl,h];rfl
theorem zh {k:Int}{e e':Ins}{es:List (Int × Ins)}:bN k e' (bN k e es)=bN k e' es:=by
 unfold bN;rw[X3];refine X2 fun p ω=>?_
 by_cases h:p.1=k<;>simp[h]
noncomputable def BS.addS (b:BS) (g:Gl):BS:={ b with s0:=if g.o=0 then b.s0+g.s else b.s0,s1:=if g.o=1 then b.s1+g.s else b.s1,s2:=if g.o=2 then b.s2+g.s else b.s2,s3:=if g.o=3 then b.s3+g.s else b.s3 }
noncomputable def zi (ps:List At) (p:Int):Int:=if p=ps.length then -10000 else(ps[p.toNat]?).elim 0 (At.cs (fun ω ω ω=>0) (fun ω ω=>0) id)
noncomputable def BS.splitP (b:BS) (row:Cl) (num:Int) (ps:List At) (e:Ins) (p:Int):BS:=
 { b with ins:=bN num { e with size:=e.size+dP (ps.take p.toNat),sat:=b.page.length,spl:=p } b.ins,goal:=b.goal - row.taken (dP (ps.take p.toNat)),ipen:=b.ipen+zi ps p }
section
variable {Q:V->MH->Prop}{X:XP}{mh mh':MH}{r n:Nat}{b b':BS}{L:BL}{K:Fl->St->Prop}{c:Cl}{row:Cl}{e e':Ins}{first:Bool}{es:List (Int × Ins)}{k:Int}
theorem zj (h:L.Ok b.ins) (j:L.J n (.inst 674 e.fs)) (hk:k ∉ b.ins.map (fun q=>q.1)):(mh.bld r b L).set (r,5) (.dict (cf r b.ins L.il++[(k,.ref (r,n))]))=mh.bld r { b with ins:=b.ins++[(k,e)] } (L.add n):=by
 have:=j.g;have h0:n≠0:=by exact cU ‹_› rfl
 have h1:n≠1:=by exact cU ‹_› rfl
 have h2:n≠2:=by exact cU ‹_› rfl
 have h3:n≠3:=by exact cU ‹_› rfl
 have h5:n≠5:=by exact cU ‹_› rfl
 refine jy rfl (fun i hi=>?_) ?_
 ·simp only[BL.obj,BL.add,Kz _ _ h.len j.i];by_cases hn:i=n
  ·subst hn;simp[h0,h1,h2,h3,h5,j.s,mr _ _ _ j.i,j.j]
  ·simp[hn,hi,aJ]
 ·simp[BL.obj,BL.add,Ky _ _ h.len]
theorem zk (h:L.Ok b.ins) (hk:k ∉ b.ins.map (fun q=>q.1)) {u:V}:gz (cf r b.ins L.il) k u=cf r b.ins L.il++[(k,u)]:=by
 unfold gz;rw[if_neg];intro hz;rw[List.any_eq_true]at hz;obtain⟨p,hp,hq⟩:=hz;rw[<- y7 (r:=r) _ _ h.len]at hk;exact hk (V5.mpr ⟨p,hp,by simpa using hq⟩)
theorem kD (h:L.Ok es) (hf:bQ es L.il k=some (n,e)):∀ (mh:MH) (b:BS),b.ins=es->(mh.bld r b L).m (r,n)=some (.inst 674 e.fs):=fun mh b hb=>by
 subst hb;exact mD h hf
theorem kE (h:L.Ok es) (hf:bQ es L.il k=some (n,e)):∀ (mh:MH) (b:BS) (e':Ins),b.ins=es->(mh.bld r b L).set (r,n) (.inst 674 e'.fs)=mh.bld r { b with ins:=bN k e' es } L:=fun mh b e' hb=>by
 subst hb;exact y9 h hf
theorem KB {num size deep tw cost:Int}{ps:List At}{p:Int}(h1:-1073741824 < row.factor) (h2:row.factor < 1073741824) (hL:L.Ok b.ins) (hf:bQ b.ins L.il k=some (n,e)) (hp:0<=p) (hp':p<=ps.length) (hl:ps.length<=1000) (hg:b.page.length<=10000)
  (hq:Q .none (mh.bld r (b.splitP row k ps e p) L)):oO [.ref (r,0),(Nd.ins num size deep tw cost ps).v,row.v,.ref (r,n),.int p] Q X (mh.bld r b L):=by
 have l0:b.page.length<=1000000:=by exact ba ‹_› rfl
 have l1:ps.length<=1000000:=by exact ba ‹_› rfl
 have l2:ps.length<=10000:=by lia
 have s1:=hL.upd k { e with size:=e.size+dP (ps.take p.toNat) };have f1:=mF (e':={ e with size:=e.size+dP (ps.take p.toNat) }) hf;have s2:=s1.upd k { e with size:=e.size+dP (ps.take p.toNat),sat:=b.page.length };have f2:=mF (e':={ e with size:=e.size+dP (ps.take p.toNat),sat:=(b.page.length:Int) }) f1;have s3:=s2.upd k { e with size:=e.size+dP (ps.take p.toNat),sat:=b.page.length,spl:=p };have f3:=mF (e':={ e with size:=e.size+dP (ps.take p.toNat),sat:=(b.page.length:Int),spl:=p }) f2;have e584':∀ (Q':V->MH->Prop) (m:MH),jW [.lst (List.take p.toNat (ps.map At.v))] Q' X m↔jW [.lst (List.take p.toNat (ps.map At.v))] Q' X m:=fun ω ω=>Iff.rfl
 have go:∀ (U:TS) (K:Fl->St->Prop),U K X ⟨[("self",.ref (r,0)),("node",(Nd.ins num size deep tw cost ps).v),("row",row.v),("entry",.ref (r,n)),("place",.int p),("size",.int (dP (ps.take p.toNat)))],[],mh.bld r b L⟩->
   (ab (aw "size" (af jW [(eV none (ae (aa "node") "items") (aa "place"))])) U) K X ⟨[("self",.ref (r,0)),("node",(Nd.ins num size deep tw cost ps).v),("row",row.v),("entry",.ref (r,n)),("place",.int p)],[],mh.bld r b L⟩:=fun U K h=>by
  have:=Ku (X:=X) (mh:=mh.bld r b L) (ps:=ps) (p:=p.toNat) (Q:=fun v m=>U K X ⟨[("self",.ref (r,0)),("node",(Nd.ins num size deep tw cost ps).v),("row",row.v),("entry",.ref (r,n)),("place",.int p),("size",v)],[],m⟩) h;simp[hp,l2];simp[aM];exact this
 have pre:∀ (U:TS) (K:Fl->St->Prop),U K X ⟨[("self",.ref (r,0)),("node",(Nd.ins num size deep tw cost ps).v),("row",row.v),("entry",.ref (r,n)),("place",.int p),("size",.int (dP (ps.take p.toNat)))],[],mh.bld r { b.splitP row k ps e p with ipen:=b.ipen } L⟩->
   (ab (b4 674 "size" (fun i j=>i+j) (aa "entry") (aa "size")) (ab (ay 674 "split_at" (aa "entry") (af bLen [ae (aa "self") "page"])) (ab (ay 674 "split_place" (aa "entry") (aa "place")) (ab (b4 829 "goal" (fun i j=>i - j) (aa "self") (aF 623 eY (aa "row") [aa "size"])) U)))) K X
    ⟨[("self",.ref (r,0)),("node",(Nd.ins num size deep tw cost ps).v),("row",row.v),("entry",.ref (r,n)),("place",.int p),("size",.int (dP (ps.take p.toNat)))],[],mh.bld r b L⟩:=fun U K h=>by
  clear hq go e584';simp[aH,eo,l0,kD hL hf,kE hL hf,kD s1 f1,kE s1 f1,kD s2 f2,kE s2 f2,zh,↓tg h1 h2];exact h
 refine⟨rfl,?_⟩;unfold T826;refine go _ _ (pre _ _ ?_);clear go pre e584' s1 f1 s2 f2 s3 f3;unfold BS.splitP zi at *;by_cases hz:p=ps.length
 ·rw[if_pos hz]at hq;simp[aH,eo,l1,hz];simpa[hz]using hq
 ·rw[if_neg hz]at hq;have hlt:p.toNat < ps.length:=(Z4 (by assumption)).mpr (by lia);have hm:p < 1000000:=by lia
  obtain⟨a,ha⟩:∃ a,ps[p.toNat]?=some a:=⟨ps[p.toNat],W9 hlt⟩;rw[ha]at hq;induction a with
 |pen v=>
   simp[aH,eo,l1,hz,hp,hm,ha];simpa using hq
 |_=>
   simp[aH,eo,l1,hz,hp,hm,ha];simpa using hq
end
noncomputable def mG:TS:=(ab (ay 829 "goal" (aa "self") (aa "goal"))
  (ab (ay 829 "shrink" (aa "self") (aa "shrink"))
  (ab (ay 674 "last" (aa "entry") (af bLen [(ae (aa "self") "page")]))
  (ak (ag .Lt (aa "place") (tK (.int 0))) (ab (b4 674 "size" (fun i j=>i+j) (aa "entry") (ae (aa "node") "size"))
  (b4 829 "goal" (fun i j=>i - j) (aa "self") (aa "need"))) (aE (aF 829 oO (aa "self") [(aa "node"),(aa "row"),(aa "entry"),(aa "place")]))))))
noncomputable def iY (U:TS):TS:=(ab (ak (ag .Eq (ae (aa "self") "state") (tK (.int 0))) (aE (aF 829 jZ (aa "self") [(tK (.int 1))])) tNil)
  (ab (ak (bj (aa "is_first")) (ab (jf (aa "entry") (ae (aa "self") "inserts") (ae (aa "node") "number"))
  (jg (fun i j=>i+j) (ae (aa "self") "stretch") (ae (ae (aa "row") "skip") "stretch_order") (ae (ae (aa "row") "skip") "stretch"))) tNil) U))
noncomputable def BS.insEnd (b:BS) (row:Cl) (num size:Int) (ps:List At) (e:Ins) (m:Mid):BS:=
 if m.place < 0 then{ b with ins:=bN num { e with last:=b.page.length,size:=e.size+size } b.ins,goal:=m.goal - m.need,shrink:=m.shrink }
 else({ b with ins:=bN num { e with last:=b.page.length } b.ins,goal:=m.goal,shrink:=m.shrink }:BS).splitP row num ps { e with last:=b.page.length } m.place
noncomputable def BS.insBeg (b:BS) (row:Cl) (num:Int) (e:Ins) (first:Bool):BS:=
 if first=true then({ (if b.state=0 then b.freeze 1 else b)with ins:=b.ins++[(num,e)] }:BS).addS row.skip else(if b.state=0 then b.freeze 1 else b)
noncomputable def BS.insert (b:BS) (row:Cl) (num size deep cost:Int) (ps:List At):Except Nat BS:=match b.ins.lookup num with
|some e=>if e.sat>=0 then .ok { b with ipen:=b.ipen+cost }else match b.iplace row size deep e.size ps false with
 |none=>.error 76
 |some p=>.ok ((b.insBeg row num e false).insEnd row num size ps e ⟨b.igoal row false,b.ishr row false,row.taken size,p⟩)
|none=>if row.skip.so≠0 then .error 88 else match b.iplace row size deep row.held ps true with
 |none=>.error 76
 |some p=>.ok ((b.insBeg row num ⟨row.held,-1,-1,-1,0⟩ true).insEnd row num size ps ⟨row.held,-1,-1,-1,0⟩ ⟨b.igoal row true,b.ishr row true,row.taken size,p⟩)
section
variable {num size deep cost tw:Int}{ps:List At}{loc:List (String × V)}{m:Mid}
variable {Q:V->MH->Prop}{X:XP}{mh mh':MH}{r n:Nat}{b b':BS}{L:BL}{K:Fl->St->Prop}{c:Cl}{row:Cl}{e e':Ins}{first:Bool}{es:List (Int × Ins)}{k:Int}
theorem mH {P:BS->Prop}(h:b.insert row num size deep cost ps=.ok b') (h1:P { b with ipen:=b.ipen+cost })
  (h2:∀ (e:Ins) (f:Bool) (p:Int),P ((b.insBeg row num e f).insEnd row num size ps e ⟨b.igoal row f,b.ishr row f,row.taken size,p⟩)):P b':=by
 unfold BS.insert at h;rcases e1:b.ins.lookup num with _|e
 ·rw[e1]at h;dsimp only at h
  split at h
  ·cases h
  ·rcases e2:b.iplace row size deep row.held ps true with _|p
   ·rw[e2]at h;cases h
   ·rw[e2]at h;exact AAL h ▸ h2 _ _ _
 ·rw[e1]at h;dsimp only at h
  split at h
  ·exact AAL h ▸ h1
  ·rcases e2:b.iplace row size deep e.size ps false with _|p
   ·rw[e2]at h;cases h
   ·rw[e2]at h;exact AAL h ▸ h2 _ _ _
theorem zl (h1:-1073741824 < row.factor) (h2:row.factor < 1073741824) (hL:L.Ok b.ins) (hf:bQ b.ins L.il num=some (n,e)) (hl:ps.length<=1000) (hg:b.page.length<=10000)
  (hp:m.place<=ps.length) (N:N819' loc r n (Nd.ins num size deep tw cost ps).v row first m) (hk:K .next ⟨loc,[],mh.bld r (b.insEnd row num size ps e m) L⟩):mG K X ⟨loc,[],mh.bld r b L⟩:=by
 obtain⟨⟨N1,N2,N3,N4,N5⟩,N6,N7,N8,N9⟩:=N;have l0:b.page.length<=1000000:=by exact ba ‹_› rfl
 have s1:=hL.upd num { e with last:=b.page.length };have f1:=mF (e':={ e with last:=(b.page.length:Int) }) hf;have s2:=s1.upd num { e with last:=b.page.length,size:=e.size+size };have f2:=mF (e':={ e with last:=(b.page.length:Int),size:=e.size+size }) f1;unfold BS.insEnd at hk;by_cases hz:m.place < 0
 ·rw[if_pos hz]at hk;simp[mG,↓tl N1,↓lr N1,↓tl N2,↓lr N2,↓tl N4,↓lr N4,↓tl N6,↓lr N6,↓tl N7,↓lr N7,↓tl N8,↓lr N8,↓tl N9,↓lr N9,hz,aH,eo,l0,kD hL hf,kE hL hf,kD s1 f1,kE s1 f1,zh];simpa using hk
 ·rw[if_neg hz]at hk;have hz':0<=m.place:=by exact Z6.mp ‹_›
  have call:=KB (X:=X) (mh:=mh) (r:=r) (num:=num) (size:=size) (deep:=deep) (tw:=tw) (cost:=cost) (b:={ b with ins:=bN num { e with last:=b.page.length } b.ins,goal:=m.goal,shrink:=m.shrink }) (Q:=fun ω m=>K .next ⟨loc,[],m⟩) h1 h2 s1 f1 hz' hp hl hg hk;simp[mG,↓tl N1,↓lr N1,↓tl N2,↓lr N2,↓tl N3,↓lr N3,↓tl N4,↓lr N4,↓tl N6,↓lr N6,↓tl N7,↓lr N7,↓tl N8,↓lr N8,↓tl N9,↓lr N9,hz,aH,eo,l0,kD hL hf,kE hL hf];simpa[aP]using call
theorem KC {U:TS}(hL:L.Ok b.ins) (hf:bQ b.ins L.il num=some (n,e)) (N:N819' loc r n (Nd.ins num size deep tw cost ps).v row false m)
  (hk:∀ L',L'.Ok b.ins->bQ b.ins L'.il num=some (n,e)->U K X ⟨loc,[],mh.bld r (b.insBeg row num e false) L'⟩):iY U K X ⟨loc,[],mh.bld r b L⟩:=by
 obtain⟨⟨N1,N2,N3,N4,N5⟩,N6,N7,N8,N9⟩:=N;unfold BS.insBeg at hk;rw[if_neg U2]at hk;by_cases hs:b.state=0
 ·have:=hk _ (hL.clear b.s0 b.s1 b.s2 b.s3) hf;rw[if_pos hs]at this;simp[iY,↓tl N1,↓lr N1,↓tl N5,↓lr N5,aH,hs,↓s8 hL];exact this
 ·have:=hk _ hL hf;rw[if_neg hs]at this;simp[iY,↓tl N1,↓lr N1,↓tl N5,↓lr N5,aH,hs];exact this
theorem KD {U:TS}(hL:L.Ok b.ins) (hj:L.J n (.inst 674 e.fs)) (hn:num ∉ b.ins.map (fun q=>q.1)) (hlen:b.ins.length<=60) (ho:row.skip.o=0\/row.skip.o=1\/row.skip.o=2\/row.skip.o=3) (N:N819' loc r n (Nd.ins num size deep tw cost ps).v row true m)
  (hk:∀ L',L'.Ok (b.ins++[(num,e)])->bQ (b.ins++[(num,e)]) L'.il num=some (n,e)->U K X ⟨loc,[],mh.bld r (b.insBeg row num e true) L'⟩):iY U K X ⟨loc,[],mh.bld r b L⟩:=by
 obtain⟨⟨N1,N2,N3,N4,N5⟩,N6,N7,N8,N9⟩:=N;unfold BS.insBeg at hk;rw[if_pos rfl]at hk;by_cases hs:b.state=0
 ·have hLc:=hL.clear b.s0 b.s1 b.s2 b.s3;have hjc:=hj.clear (a:=b.s0) (b:=b.s1) (c:=b.s2) (d:=b.s3);have hLa:=hLc.add hjc hn (e:=e);have hfa:=zg (n:=n) (e:=e) b.ins L.il hL.len hn;have:=hk _ hLa hfa;rw[if_pos hs]at this;have hd:(cf r b.ins (L.clear b.s0 b.s1 b.s2 b.s3).il).length<=1000:=by rw[pR _ _ hLc.len];(first|exact ba ‹_› rfl|lia)
  have st:=zk (r:=r) (b:=b.freeze 1) hLc hn (u:=.ref (r,n));have ad:=zj (mh:=mh) (r:=r) (b:=b.freeze 1) hLc hjc hn;have gs:=mv (mh:=mh) (r:=r) (b:={ b.freeze 1 with ins:=b.ins++[(num,e)] }) hLa;have fi:(b.freeze 1).ins=b.ins:=rfl;rw[fi]at st ad;have ss:∀ a0 a1 a2 a3:Int,_:=fun a0 a1 a2 a3=>s6 (mh:=mh) (r:=r) (b:={ b.freeze 1 with ins:=b.ins++[(num,e)] }) hLa (a0:=a0) (a1:=a1) (a2:=a2) (a3:=a3)
  have lsa:((L.clear b.s0 b.s1 b.s2 b.s3).add n).ls=(L.clear b.s0 b.s1 b.s2 b.s3).ls:=Eq.trans rfl rfl;have ho:km row.skip.o:=ho;simp[iY,↓tl N1,↓lr N1,↓tl N2,↓lr N2,↓tl N3,↓lr N3,↓tl N4,↓lr N4,↓tl N5,↓lr N5,aH,gX,hs,↓s8 hL,fi,hd,st,ad,gs,ss,ho];exact this
 ·have hLa:=hL.add hj hn (e:=e);have hfa:=zg (n:=n) (e:=e) b.ins L.il hL.len hn;have:=hk _ hLa hfa;rw[if_neg hs]at this;have hd:(cf r b.ins L.il).length<=1000:=by rw[pR _ _ hL.len];(first|exact ba ‹_› rfl|lia)
  have st:=zk (r:=r) (b:=b) hL hn (u:=.ref (r,n));have ad:=zj (mh:=mh) (r:=r) (b:=b) hL hj hn;have gs:=mv (mh:=mh) (r:=r) (b:={ b with ins:=b.ins++[(num,e)] }) hLa;have ss:∀ a0 a1 a2 a3:Int,_:=fun a0 a1 a2 a3=>s6 (mh:=mh) (r:=r) (b:={ b with ins:=b.ins++[(num,e)] }) hLa (a0:=a0) (a1:=a1) (a2:=a2) (a3:=a3)
  have lsa:(L.add n).ls=L.ls:=Eq.trans rfl rfl;have ho:km row.skip.o:=ho;simp[iY,↓tl N1,↓lr N1,↓tl N2,↓lr N2,↓tl N3,↓lr N3,↓tl N4,↓lr N4,↓tl N5,↓lr N5,aH,gX,hs,hd,st,ad,gs,ss,ho];exact this
end
section
variable {ps:List At}{size:Int}
variable {Q:V->MH->Prop}{X:XP}{mh mh':MH}{r n:Nat}{b b':BS}{L:BL}{K:Fl->St->Prop}{c:Cl}{row:Cl}{e e':Ins}{first:Bool}{es:List (Int × Ins)}{k:Int}
theorem KE {h:Int}(hL:L.Ok b.ins):jk r [.int h] Q X (mh.bld r b L)=Q (.ref (r,L.nx)) (mh.bld r b (L.newj (.inst 674 (Ins.fs ⟨h,-1,-1,-1,0⟩)))):=by
 simp[jk,rB,T671,yX,y0 hL,za hL,Ins.fs]
theorem KG {H D:Int}{p:Int × Int}(h:vb ps H D=some p):p.1<=ps.length/\0<=p.1:=by
 have key:∀ (is:List Nat) (c:Col) (r r':Int × Int × Int),(∀ i∈is,i<=ps.length)->r.1<=ps.length/\0<=r.1->ek ps H D is c r=some r'->r'.1<=ps.length/\0<=r'.1:=by
  intro is;induction is with
 |nil=>intro c r r' _ hr e;obtain rfl:=U1 e;exact hr
 |cons i is ih=>
   intro c r r' hi hr e;have h1:(cR c H i (cz ps i) r).1.1<=ps.length/\0<=(cR c H i (cz ps i) r).1.1:=by
    have:=hi i (.head _);cases cz ps i with
   |none=>exact hr
   |some q=>
     rw[mm]
     split
     ·dsimp only
      split
      ·dsimp only;lia
      ·exact hr
     ·exact hr
   rw[jx]at e
   split at e
   ·obtain rfl:=U1 e;exact h1
   ·obtain⟨c',_,e⟩:=Option.bind_eq_some_iff.mp e;exact ih _ _ _ (fun j hj=>hi j (.tail _ hj)) h1 e
 unfold vb at h;rw[Option.map_eq_some_iff]at h;obtain⟨r,h,rfl⟩:=h;exact key _ _ _ _ (fun i hi=>Nat.le_of_lt_succ (X7.mp hi)) ⟨Z2 _,by exact Z3 _⟩ h
theorem zm {deep esz p:Int}(h:b.iplace row size deep esz ps first=some p):p<=ps.length:=by
 unfold BS.iplace at h
 split at h
 ·rw[Option.map_eq_some_iff]at h;obtain⟨q,h,rfl⟩:=h;exact(KG h).1
 ·obtain rfl:=U1 h;(first|exact AZ|lia)
theorem pW:(b.insBeg row k e first).ins=if first=true then b.ins++[(k,e)]else b.ins:=by
 unfold BS.insBeg BS.addS;cases first
 ·simp;split<;>rfl
 ·simp
theorem tm:(b.insBeg row k e first).page=b.page:=by
 unfold BS.insBeg BS.addS;cases first
 ·simp;split<;>rfl
 ·simp;split<;>rfl
theorem tq {m:Mid}:(b.insEnd row k size ps e m).ins.map (fun q=>q.1)=b.ins.map (fun q=>q.1):=by
 unfold BS.insEnd BS.splitP
 split
 ·exact mB
 ·dsimp only;rw[mB,mB]
theorem BL.Ok.keysOf {es':List (Int × Ins)}(h:L.Ok es) (hk:es'.map (fun q=>q.1)=es.map (fun q=>q.1)):L.Ok es':=
 ⟨h.ls,h.lt,by rw[h.len,<- V0 (f:=(fun q=>q.1)),<- hk,V0],h.il,h.nd,h.nx,by rw[hk];exact h.keys⟩
theorem KH (h:es.lookup k=none):k ∉ es.map (fun q=>q.1):=fun z=>by
 obtain⟨e,he⟩:=zb z;rw[h]at he;cases he
theorem KI {num deep tw cost:Int}(hr:r≠0) (hL:L.Ok b.ins) (h60:b.ins.length<=60) (h1:-1073741824 < row.factor) (h2:row.factor < 1073741824) (hps:∀ a∈ps,a.Ok) (hl:ps.length<=1000) (hd:aZ deep) (hg:b.page.length<=10000)
  (ho:row.skip.o=0\/row.skip.o=1\/row.skip.o=2\/row.skip.o=3)
  (hx:∀ cls,b.insert row num size deep cost ps=.error cls->∀ m L',Sc mh m->L'.Ok b.ins->X cls (m.bld r b L'))
  (hq:∀ b',b.insert row num size deep cost ps=.ok b'->∀ m L',Sc mh m->L'.Ok b'.ins->Q .none (m.bld r b' L')) :
  jm [.ref (r,0),(Nd.ins num size deep tw cost ps).v,row.v] Q X (mh.bld r b L):=by
 refine⟨rfl,?_⟩;cases he:b.ins.lookup num with
|some e=>
  obtain⟨n,hf⟩:=y6 hL.len he;by_cases hs:e.sat>=0
  ·have ei:b.insert row num size deep cost ps=.ok { b with ipen:=b.ipen+cost }:=by unfold BS.insert;rw[he];dsimp only;rw[if_pos hs]
   have:=hq _ ei mh L (Sc.refl mh) hL;have pre:∀ (U:TS) (K:Fl->St->Prop),K (.ret .none) ⟨[("self",.ref (r,0)),("node",(Nd.ins num size deep tw cost ps).v),("row",row.v),("entry",.ref (r,n))],[],mh.bld r { b with ipen:=b.ipen+cost } L⟩->
     (ab (aw "entry" (cj "dict" (ae (aa "self") "inserts") bGet [(ae (aa "node") "number")]))
  (ab (ak (bf (ag .IsNot (aa "entry") (tK .none)) (ag .GtE (ae (aa "entry") "split_at") (tK (.int 0)))) (ab (b4 829 "insert_penalties" (fun i j=>i+j) (aa "self") (ae (aa "node") "cost"))
  tRet0) tNil) U)) K X ⟨[("self",.ref (r,0)),("node",(Nd.ins num size deep tw cost ps).v),("row",row.v)],[],mh.bld r b L⟩:=fun U K h=>by
    simp[o9,lP,aH,gX,mA,hf,mD hL hf,hs];exact h
   exact pre _ _ this
  ·have ei:b.insert row num size deep cost ps=match b.iplace row size deep e.size ps false with
   |none=>.error 76
   |some p=>.ok ((b.insBeg row num e false).insEnd row num size ps e ⟨b.igoal row false,b.ishr row false,row.taken size,p⟩):=by unfold BS.insert;rw[he];dsimp only;rw[if_neg hs]<;>cases b.iplace row size deep e.size ps false<;>rfl
   rw[ei]at hx hq;have pre:∀ (U:TS) (K:Fl->St->Prop),U K X ⟨[("self",.ref (r,0)),("node",(Nd.ins num size deep tw cost ps).v),("row",row.v),("entry",.ref (r,n)),("is_first",.bool false)],[],mh.bld r b L⟩->
     (ab (aw "entry" (cj "dict" (ae (aa "self") "inserts") bGet [(ae (aa "node") "number")]))
  (ab (ak (bf (ag .IsNot (aa "entry") (tK .none)) (ag .GtE (ae (aa "entry") "split_at") (tK (.int 0)))) (ab (b4 829 "insert_penalties" (fun i j=>i+j) (aa "self") (ae (aa "node") "cost"))
  tRet0) tNil)
  (ab (aw "is_first" (aS (ag .Is (aa "entry") (tK .none))))
  (ab (ak (bj (aa "is_first")) (ab (aE (af eX [(ae (aa "row") "skip")]))
  (aw "entry" (eT jk (fy "self") [(ae (aa "row") "held")]))) tNil) U)))) K X ⟨[("self",.ref (r,0)),("node",(Nd.ins num size deep tw cost ps).v),("row",row.v)],[],mh.bld r b L⟩:=fun U K h=>by
    simp[o9,lP,aH,gX,mA,hf,mD hL hf,hs];exact h
   refine pre (th (iY mG)) _ (zf hr h1 h2 hps hl hd ⟨rfl,rfl,rfl,rfl,rfl⟩ (e:=e) (fun m sc=>by
    rw[sc.m (r,n) (.inl hr)];exact mD hL hf) (fun hp m sc=>?_) fun p hp m loc' sc N=>?_)
   ·rw[hp]at hx;exact hx 76 rfl m L sc hL
   ·rw[hp]at hq;refine KC hL hf N fun L' hL' hf'=>?_
    have hi:(b.insBeg row num e false).ins=b.ins:=by rw[pW];rfl
    refine zl h1 h2 (by rw[hi];exact hL') (by rw[hi];exact hf') hl (by rw[tm];exact hg) (zm hp) N ?_;exact hq _ rfl m L' sc (hL'.keysOf (by rw[tq,hi]))
|none=>
  have hn:=KH he;have hlab:bQ b.ins L.il num=none:=by
   have:=y5 (k:=num) b.ins L.il hL.len;rw[he]at this;cases q:bQ b.ins L.il num with
  |none=>rfl
  |some p=>rw[q]at this;cases this
  by_cases hso:row.skip.so=0
  ·have ei:b.insert row num size deep cost ps=match b.iplace row size deep row.held ps true with
   |none=>.error 76
   |some p=>.ok ((b.insBeg row num ⟨row.held,-1,-1,-1,0⟩ true).insEnd row num size ps ⟨row.held,-1,-1,-1,0⟩ ⟨b.igoal row true,b.ishr row true,row.taken size,p⟩):=by unfold BS.insert;rw[he];dsimp only;rw[if_neg (fun z=>z hso)]<;>cases b.iplace row size deep row.held ps true<;>rfl
   rw[ei]at hx hq;have pre:∀ (U:TS) (K:Fl->St->Prop),U K X ⟨[("self",.ref (r,0)),("node",(Nd.ins num size deep tw cost ps).v),("row",row.v),("entry",.ref (r,L.nx)),("is_first",.bool true)],[],mh.bld r b (L.newj (.inst 674 (Ins.fs ⟨row.held,-1,-1,-1,0⟩)))⟩->
     (ab (aw "entry" (cj "dict" (ae (aa "self") "inserts") bGet [(ae (aa "node") "number")]))
  (ab (ak (bf (ag .IsNot (aa "entry") (tK .none)) (ag .GtE (ae (aa "entry") "split_at") (tK (.int 0)))) (ab (b4 829 "insert_penalties" (fun i j=>i+j) (aa "self") (ae (aa "node") "cost"))
  tRet0) tNil)
  (ab (aw "is_first" (aS (ag .Is (aa "entry") (tK .none))))
  (ab (ak (bj (aa "is_first")) (ab (aE (af eX [(ae (aa "row") "skip")]))
  (aw "entry" (eT jk (fy "self") [(ae (aa "row") "held")]))) tNil) U)))) K X ⟨[("self",.ref (r,0)),("node",(Nd.ins num size deep tw cost ps).v),("row",row.v)],[],mh.bld r b L⟩:=fun U K h=>by
    simp[o9,lP,aH,gX,mA,hlab,↓jA,hso,↓KE hL];exact h
   have hj:=BL.J.newj hL (.inst 674 (Ins.fs ⟨row.held,-1,-1,-1,0⟩));have hLj:=hL.newj (.inst 674 (Ins.fs ⟨row.held,-1,-1,-1,0⟩));refine pre (th (iY mG)) _ (zf hr h1 h2 hps hl hd ⟨rfl,rfl,rfl,rfl,rfl⟩ (e:=⟨row.held,-1,-1,-1,0⟩) (fun m sc=>by
    rw[sc.m (r,L.nx) (.inl hr)];exact za hL) (fun hp m sc=>?_) fun p hp m loc' sc N=>?_)
   ·rw[hp]at hx;exact hx 76 rfl m _ sc hLj
   ·rw[hp]at hq;refine KD hLj hj hn h60 ho N fun L' hL' hf'=>?_
    have hi:(b.insBeg row num ⟨row.held,-1,-1,-1,0⟩ true).ins=b.ins++[(num,⟨row.held,-1,-1,-1,0⟩)]:=by rw[pW];rfl
    refine zl h1 h2 (by rw[hi];exact hL') (by rw[hi];exact hf') hl (by rw[tm];exact hg) (zm hp) N ?_;exact hq _ rfl m L' sc (hL'.keysOf (by rw[tq,hi]))
  ·have ei:b.insert row num size deep cost ps=.error 88:=by unfold BS.insert;rw[he];dsimp only;rw[if_pos hso]
   have:=hx 88 ei mh L (Sc.refl mh) hL;have pre:∀ (U:TS) (K:Fl->St->Prop),X 88 (mh.bld r b L)->
     (ab (aw "entry" (cj "dict" (ae (aa "self") "inserts") bGet [(ae (aa "node") "number")]))
  (ab (ak (bf (ag .IsNot (aa "entry") (tK .none)) (ag .GtE (ae (aa "entry") "split_at") (tK (.int 0)))) (ab (b4 829 "insert_penalties" (fun i j=>i+j) (aa "self") (ae (aa "node") "cost"))
  tRet0) tNil)
  (ab (aw "is_first" (aS (ag .Is (aa "entry") (tK .none))))
  (ab (ak (bj (aa "is_first")) (ab (aE (af eX [(ae (aa "row") "skip")]))
  (aw "entry" (eT jk (fy "self") [(ae (aa "row") "held")]))) tNil) U)))) K X ⟨[("self",.ref (r,0)),("node",(Nd.ins num size deep tw cost ps).v),("row",row.v)],[],mh.bld r b L⟩:=fun U K h=>by
    simp[o9,lP,aH,gX,mA,hlab,↓jA,hso];exact h
   exact pre _ _ this
end
noncomputable def bk:V:=.obj 653 [("rows",.ref (4,0))]
noncomputable abbrev Tb:=List (Int × Cl)
noncomputable def Tb.d (t:Tb):List (Int × V):=t.map fun p=>(p.1,p.2.v)
noncomputable def BS.fin (b:BS) (n:Nd):BS:=
 { (if b.depth > b.mdepth then{ b with total:=b.total+(b.depth - b.mdepth),depth:=b.mdepth }else b)with page:=b.page++[n],con:=b.con.tail }
noncomputable def BS.take (t:Tb) (b:BS) (n:Nd):Except Nat BS:=match n with
|.ins num size deep tw cost ps=>(match t.lookup num with
 |some row=>(match b.insert row num size deep cost ps with
  |.ok b'=>.ok (b'.fin n)
  |.error c=>.error c)
 |none=>.error 0)
|.atm (.box _ h d)=>.ok (({ b with total:=b.total+(b.depth+h),depth:=d }:BS).fin n)
|.atm (.skip g _)=>.ok (({ b.addS g with shrink:=b.shrink+g.sh,total:=b.total+(b.depth+g.w),depth:=0 }:BS).fin n)
|.kern w=>.ok (({ b with total:=b.total+(b.depth+w),depth:=0 }:BS).fin n)
|n=>.ok (b.fin n)
noncomputable def mI (r:Nat):TS:=(ab (ak (ag .Gt (ae (aa "self") "depth") (ae (aa "self") "most_depth")) (ab (b4 829 "total" (fun i j=>i+j) (aa "self") (aq (fun ω ω=>True) (fun i j=>i - j) (ae (aa "self") "depth") (ae (aa "self") "most_depth")))
  (ay 829 "depth" (aa "self") (ae (aa "self") "most_depth"))) tNil)
  (ab (aE (cj "list" (ae (aa "self") "page") bAppend [(aa "node")]))
  (aE (cj "list" (ae (aa "self") "contributions") bPop [(tK (.int 0))]))))
section
variable {num:Int}{U:TS}
variable {Q:V->MH->Prop}{X:XP}{mh mh':MH}{r n:Nat}{b b':BS}{L:BL}{K:Fl->St->Prop}{c:Cl}{row:Cl}{e e':Ins}{first:Bool}{es:List (Int × Ins)}{k:Int}{t:Tb}
theorem KJ (h:t.lookup num=some row):t.d.lookup num=some row.v:=by
 unfold Tb.d;induction t with
|nil=>simp at h
|cons p t ih=>
  obtain⟨j,c⟩:=p;rw[V1,V9];rw[V9]at h;by_cases hj:num=j
  ·subst hj;rw[beq_self_eq_true]at h ⊢;obtain rfl:=U1 h;rfl
  ·rw[beq_eq_false_iff_ne.mpr hj]at h ⊢;exact ih h
theorem KL {k:V->Prop}:bH mh bk "rows" k=k (.ref (4,0)):=rfl
theorem KM {k:Nat->List (String × V)->Prop}:d8 mh bk k=k 653 [("rows",.ref (4,0))]:=rfl
theorem KN (ht:mh.m (4,0)=some (.dict t.d)) (h:t.lookup num=some row):jX [bk,.int num] Q X mh=Q row.v mh:=by
 simp[jX,T650,H2,lP,↓KL,ht,KJ h]
theorem kF {n:Nd}{loc:List (String × V)}(h1:loc.lookup "self"=some (.ref (r,0))) (h2:loc.lookup "node"=some n.v) (hp:b.page.length<=10000) (hc:b.con≠[]) (hl:b.con.length<=10000)
  (hk:K .next ⟨loc,[],mh.bld r (b.fin n) L⟩):mI r K X ⟨loc,[],mh.bld r b L⟩:=by
 obtain⟨y,ys,hy⟩:=X1 hc;rw[hy]at hl;simp only[V4]at hl;have hl':ys.length<=10000:=by lia
 have e3:∀ (m:MH) (b:BS),(m.bld r b L).set (r,3) (.list (b.page.map Nd.v++[n.v]))=m.bld r { b with page:=b.page++[n] } L:=fun m b=>by
  have:=JO (mh:=m) (r:=r) (b:=b) (L:=L) (xs:=b.page++[n]);rw[V2]at this;exact this
 unfold BS.fin at hk;rw[hy]at hk;by_cases hz:b.depth > b.mdepth
 ·rw[if_pos hz]at hk;simp[mI,↓tl h1,↓lr h1,↓tl h2,↓lr h2,aH,em,eo,hz,hp,e3,hy,hl',jz];simpa using hk
 ·rw[if_neg hz]at hk;simp[mI,↓tl h1,↓lr h1,↓tl h2,↓lr h2,aH,em,eo,hz,hp,e3,hy,hl',jz];simpa using hk
noncomputable def Cl.Ok (c:Cl):Prop:=0<=c.factor/\c.factor<=1000/\(c.skip.o=0\/c.skip.o=1\/c.skip.o=2\/c.skip.o=3)/\0<=c.skip.w/\c.skip.w<=10000/\0<=c.skip.s/\c.skip.s<=10000/\0<=c.skip.sh/\c.skip.sh<=10000/\0<=c.held
noncomputable def Nd.Ok (t:Tb):Nd->Prop
|.atm a=>a.Ok
|.kern w=>0<=w/\w<=10000
|.mark _=>True
|.ins num size deep tw cost ps=>(∃ row,t.lookup num=some row/\row.Ok)/\0<=size/\size<=1000000/\0<=deep/\deep<=10000/\0<=tw/\tw<=10000/\0<=cost/\cost<=10000/\(∀ a∈ps,a.Ok)/\ps.length<=1000
theorem zn {size deep cost:Int}{ps:List At}(h:b.insert row num size deep cost ps=.ok b'):b'.con=b.con/\b'.page=b.page:=by
 have k1:∀ (e:Ins) (f:Bool) (m:Mid),((b.insBeg row num e f).insEnd row num size ps e m).con=b.con/\((b.insBeg row num e f).insEnd row num size ps e m).page=b.page:=fun e f m=>by
  have a1:(b.insBeg row num e f).page=b.page:=tm;have a2:(b.insBeg row num e f).con=b.con:=by
   unfold BS.insBeg BS.addS;cases f
   ·simp;split<;>rfl
   ·simp;split<;>rfl
  unfold BS.insEnd BS.splitP
  split
  ·exact⟨a2,a1⟩
  ·exact⟨a2,a1⟩
 exact mH (P:=fun b'=>b'.con=b.con/\b'.page=b.page) h ⟨rfl,rfl⟩ fun ω ω ω=>k1 _ _ _
theorem pX {P:BS->Prop}{n:Nd}(h:b.take t n=.ok b') (h1:∀ a0 a1 a2 a3 sh to de:Int,P (({ b with s0:=a0,s1:=a1,s2:=a2,s3:=a3,shrink:=sh,total:=to,depth:=de }:BS).fin n))
  (h2:∀ (row:Cl) (num size deep tw cost:Int) (ps:List At) (b2:BS),n=.ins num size deep tw cost ps->b.insert row num size deep cost ps=.ok b2->P (b2.fin n)):P b':=by
 induction n with
|atm a=>induction a<;>exact AAL h ▸ h1 _ _ _ _ _ _ _
|kern w=>exact AAL h ▸ h1 _ _ _ _ _ _ _
|mark m=>exact AAL h ▸ h1 _ _ _ _ _ _ _
|ins num size deep tw cost ps=>
  unfold BS.take at h;dsimp only at h;cases e:t.lookup num with
 |none=>rw[e]at h;cases h
 |some row=>
   rw[e]at h;dsimp only at h;cases e2:b.insert row num size deep cost ps with
  |error c=>rw[e2]at h;cases h
  |ok b2=>rw[e2]at h;exact AAL h ▸ h2 _ _ _ _ _ _ _ _ rfl e2
noncomputable def gm:TS:=(ak (ag .Eq (ae (aa "node") "kind") (tK (.int 10))) (aE (aF 829 jm (aa "self") [(aa "node"),(aF 653 jX (aa "classes") [(ae (aa "node") "number")])])) (ak (ag .In (ae (aa "node") "kind") (tK (.tup ([2,3,4].map .int)))) (ab (b4 829 "total" (fun i j=>i+j) (aa "self") (aq (fun ω ω=>True) (fun i j=>i+j) (ae (aa "self") "depth") (af gE [(aa "node")])))
  (ay 829 "depth" (aa "self") (af iB [(aa "node")]))) (ak (ag .Eq (ae (aa "node") "kind") (tK (.int 6))) (ab (jg (fun i j=>i+j) (ae (aa "self") "stretch") (ae (ae (aa "node") "glue") "stretch_order") (ae (ae (aa "node") "glue") "stretch"))
  (ab (b4 829 "shrink" (fun i j=>i+j) (aa "self") (ae (ae (aa "node") "glue") "shrink"))
  (ab (b4 829 "total" (fun i j=>i+j) (aa "self") (aq (fun ω ω=>True) (fun i j=>i+j) (ae (aa "self") "depth") (ae (ae (aa "node") "glue") "width")))
  (ay 829 "depth" (aa "self") (tK (.int 0)))))) (ak (ag .Eq (ae (aa "node") "kind") (tK (.int 5))) (ab (b4 829 "total" (fun i j=>i+j) (aa "self") (aq (fun ω ω=>True) (fun i j=>i+j) (ae (aa "self") "depth") (ae (aa "node") "width")))
  (ay 829 "depth" (aa "self") (tK (.int 0)))) tNil))))
theorem KO {l h' d:Int}:ab gm U K X ⟨[("self",.ref (r,0)),("node",(Nd.atm (.box l h' d)).v),("classes",bk)],[],mh.bld r b L⟩=U K X ⟨[("self",.ref (r,0)),("node",(Nd.atm (.box l h' d)).v),("classes",bk)],[],mh.bld r { b with total:=b.total+(b.depth+h'),depth:=d } L⟩:=by
 have e449':∀ {l h d:Int}{Q:V->MH->Prop}{m:MH},gE [(Nd.atm (.box l h d)).v] Q X m=Q (.int h) m:=pQ;have e454':∀ {l h d:Int}{Q:V->MH->Prop}{m:MH},iB [(Nd.atm (.box l h d)).v] Q X m=Q (.int d) m:=y2;simp[gm,aH,↓e449',↓e454']
theorem KP {v:Int}:ab gm U K X ⟨[("self",.ref (r,0)),("node",(Nd.atm (.pen v)).v),("classes",bk)],[],mh.bld r b L⟩=U K X ⟨[("self",.ref (r,0)),("node",(Nd.atm (.pen v)).v),("classes",bk)],[],mh.bld r b L⟩:=by
 simp[gm,aH]
theorem KQ {g:Gl}{s:Int}(hL:L.Ok b.ins) (ho:km g.o):ab gm U K X ⟨[("self",.ref (r,0)),("node",(Nd.atm (.skip g s)).v),("classes",bk)],[],mh.bld r b L⟩=U K X ⟨[("self",.ref (r,0)),("node",(Nd.atm (.skip g s)).v),("classes",bk)],[],mh.bld r { b.addS g with shrink:=b.shrink+g.sh,total:=b.total+(b.depth+g.w),depth:=0 } L⟩:=by
 have gs:=mv (mh:=mh) (r:=r) hL;have ss:∀ a0 a1 a2 a3:Int,_:=fun a0 a1 a2 a3=>s6 (mh:=mh) (r:=r) hL (a0:=a0) (a1:=a1) (a2:=a2) (a3:=a3)
 simp[gm,aH,gs,ss,ho,BS.addS]
theorem KR {w:Int}:ab gm U K X ⟨[("self",.ref (r,0)),("node",(Nd.kern w).v),("classes",bk)],[],mh.bld r b L⟩=U K X ⟨[("self",.ref (r,0)),("node",(Nd.kern w).v),("classes",bk)],[],mh.bld r { b with total:=b.total+(b.depth+w),depth:=0 } L⟩:=by
 simp[gm,aH]
theorem KS {t:Int}:ab gm U K X ⟨[("self",.ref (r,0)),("node",(Nd.mark t).v),("classes",bk)],[],mh.bld r b L⟩=U K X ⟨[("self",.ref (r,0)),("node",(Nd.mark t).v),("classes",bk)],[],mh.bld r b L⟩:=by
 simp[gm,aH]
theorem KT {n:Nd}(hr:r≠0) (hr4:r≠4) (hL:L.Ok b.ins) (h60:b.ins.length<=60) (hn:n.Ok t) (hp:b.page.length<=10000) (hc:b.con≠[]) (hl:b.con.length<=10000) (ht:mh.m (4,0)=some (.dict t.d))
  {PX:Nat->Prop}{PQ:BS->Prop}(hX:∀ cls,PX cls->∀ m L',Sc mh m->L'.Ok b.ins->X cls (m.bld r b L')) (hQ:∀ b',PQ b'->∀ m L',Sc mh m->L'.Ok b'.ins->Q .none (m.bld r b' L'))
  (hx:∀ cls,b.take t n=.error cls->PX cls) (hq:∀ b',b.take t n=.ok b'->PQ b') :
  fW [.ref (r,0),n.v,bk] Q X (mh.bld r b L):=by
 have finI:∀ b:BS,(b.fin n).ins=b.ins:=fun b=>by unfold BS.fin;split<;>rfl
 refine⟨rfl,?_⟩;induction n with
|atm a=>
  induction a with
 |box l h' d=>exact KO.mpr (kF rfl rfl hp hc hl (hQ _ (hq _ rfl) mh L (Sc.refl mh) (by rw[finI];exact hL)))
 |pen v=>exact KP.mpr (kF rfl rfl hp hc hl (hQ _ (hq _ rfl) mh L (Sc.refl mh) (by rw[finI];exact hL)))
 |skip g s=>
   have ho:=hn.2.2.2.2.2.2.1;clear hn;exact(KQ hL ho).mpr (kF rfl rfl hp hc hl (hQ _ (hq _ rfl) mh L (Sc.refl mh) (by rw[finI];exact hL)))
|kern w=>exact KR.mpr (kF rfl rfl hp hc hl (hQ _ (hq _ rfl) mh L (Sc.refl mh) (by rw[finI];exact hL)))
|mark t=>exact KS.mpr (kF rfl rfl hp hc hl (hQ _ (hq _ rfl) mh L (Sc.refl mh) (by rw[finI];exact hL)))
|ins num size deep tw cost ps=>
  refine hn.1.elim fun row z0=>?_;have hrow:=z0.1;have f0:=z0.2.1;have f1:=z0.2.2.1;have ho:=z0.2.2.2.1;have d0:=hn.2.2.2.1;have d1:=hn.2.2.2.2.1;have hps:=hn.2.2.2.2.2.2.2.2.2.1;have hpl:=hn.2.2.2.2.2.2.2.2.2.2;clear z0 hn
  have et:b.take t (.ins num size deep tw cost ps)=(match b.insert row num size deep cost ps with
  |.ok b'=>.ok (b'.fin (.ins num size deep tw cost ps))
  |.error c=>.error c):=by unfold BS.take;dsimp only;rw[hrow]
  rw[et]at hx hq;have main:jm [.ref (r,0),(Nd.ins num size deep tw cost ps).v,row.v] (fun ω m=>mI r (fun fl st=>Q fl.val st.mh) X ⟨[("self",.ref (r,0)),("node",(Nd.ins num size deep tw cost ps).v),("classes",bk)],[],m⟩) X (mh.bld r b L):=by
   refine KI hr hL h60 (by exact qr ‹_›) (by exact qq ‹_› rfl) hps hpl ⟨by exact dn ‹_›,by exact bS ‹_› rfl⟩ hp ho (fun cls h m L' sc hL'=>?_) fun b' h m L' sc hL'=>?_
   ·rw[h]at hx;exact hX cls (hx cls rfl) m L' sc hL'
   ·have z9:=zn h;have c1:=z9.1;have c2:=z9.2;clear z9;rw[h]at hq;exact kF rfl rfl (by rw[c2];exact hp) (by rw[c1];exact hc) (by rw[c1];exact hl) (hQ _ (hq _ rfl) m L' sc (by rw[finI];exact hL'))
  have w:∀ (U:TS) (K:Fl->St->Prop) (Z:TS),jm [.ref (r,0),(Nd.ins num size deep tw cost ps).v,row.v] (fun ω m=>U K X ⟨[("self",.ref (r,0)),("node",(Nd.ins num size deep tw cost ps).v),("classes",bk)],[],m⟩) X (mh.bld r b L)->
    (ab (ak (ag .Eq (ae (aa "node") "kind") (tK (.int 10))) (aE (aF 829 jm (aa "self") [(aa "node"),(aF 653 jX (aa "classes") [(ae (aa "node") "number")])])) Z) U) K X ⟨[("self",.ref (r,0)),("node",(Nd.ins num size deep tw cost ps).v),("classes",bk)],[],mh.bld r b L⟩:=fun U K Z h=>by
   have ht':(mh.bld r b L).m (4,0)=some (.dict t.d):=by rw[mw (Ne.symm hr4)];exact ht
   simp[aH,↓KM,↓KN ht' hrow,aO];exact h
  exact w (mI r) _ _ main
theorem KU {n:Nd}(hr:r≠0) (hr4:r≠4) (hL:L.Ok b.ins) (h60:b.ins.length<=60) (hn:n.Ok t) (hp:b.page.length<=10000) (hc:b.con≠[]) (hl:b.con.length<=10000) (ht:mh.m (4,0)=some (.dict t.d))
  (hx:∀ cls,b.take t n=.error cls->∀ m L',Sc mh m->L'.Ok b.ins->X cls (m.bld r b L'))
  (hq:∀ b',b.take t n=.ok b'->∀ m L',Sc mh m->L'.Ok b'.ins->Q .none (m.bld r b' L')) :
  fW [.ref (r,0),n.v,bk] Q X (mh.bld r b L):=KT hr hr4 hL h60 hn hp hc hl ht (fun ω h=>h) (fun ω h=>h) hx hq
end
inductive SR where
|next (b:BS)
|ret (f:Option Pg) (b:BS)
|exc (c:Nat) (b:BS)
noncomputable def SR.ctorIdx (x:SR):Nat:=@SR.casesOn (fun ω=>Nat) x (fun ω=>0) (fun ω ω=>1) (fun ω ω=>2)
noncomputable def Nd.bad (n:Nd):Bool:=n.cs (At.cs (fun ω ω ω=>false) (fun g ω=>g.so != 0) fun ω=>false) (fun ω=>false) (fun ω=>false) false
noncomputable def Nd.ht (n:Nd):Int:=n.cs (At.cs (fun ω h ω=>h) (fun ω ω=>0) fun ω=>0) (fun ω=>0) (fun ω=>0) 0
noncomputable def Nd.isKern (n:Nd):Bool:=n.cs (fun ω=>false) (fun ω=>true) (fun ω=>false) false
noncomputable def BS.step2 (t:Tb) (b:BS) (n:Nd):SR:=match (b.tried n).2 with
|some f=>.ret (some f) ((b.tried n).1.remember n)
|none=>match (b.tried n).1.take t n with
 |.error c=>.exc c (b.tried n).1
 |.ok b2=>.next (b2.remember n)
noncomputable def BS.step (top:Gl) (t:Tb) (b:BS) (n:Nd):SR:=
 if b.state=2 then
  if n.bad=true then .exc 88 b
  else if n.isKern=true/\b.con.length=1 then .ret none (b.remember n)
  else b.step2 t n
 else if n.isBox=true then(if top.so≠0 then .exc 88 b else .next ((b.begin top n.ht).remember n))
 else if n.disc=true then .next (({ b with con:=b.con.tail }:BS).remember n)
 else b.step2 t n
set_option tactic.hygienic true in
@[reducible] noncomputable def SR.bindN (s:SR) (f:BS->SR):SR:=match s with
|.next b=>f b
|s=>s
noncomputable def BS.run (top:Gl) (t:Tb):Nat->BS->SR
|0,b=>.next b
|k+1,b=>b.con.head?.elim (.ret none b) fun n=>(b.step top t n).bindN (BS.run top t k)
section
variable {b b':BS}{t:Tb}{top:Gl}{n:Nd}{ns:List Nd}{k:Nat}
theorem gZ (hc:b.con=n::ns):BS.run top t (k+1) b=(b.step top t n).bindN (BS.run top t k):=by
 show b.con.head?.elim _ _=_;rw[hc];rfl
theorem kH (hc:b.con=[]):BS.run top t (k+1) b=.ret none b:=by
 show b.con.head?.elim _ _=_;rw[hc];rfl
end
structure SOk (t:Tb) (top:Gl) (b:BS):Prop where
 h60:b.ins.length<=60
 page:b.page.length<=10000
 con:b.con.length<=10000
 shrink:b.shrink < 1073741824
 s0:b.s0 < 1073741824
 nodes:∀ n∈b.con,n.Ok t
 o:0<=top.o/\top.o<=3/\0<=top.so/\top.so<=3
 w:0<=top.w/\top.w<=10000
 d:aZ top.s/\aZ top.sh
set_option tactic.hygienic true in
theorem SR.nx {b c:BS}(h:SR.next b=.next c):b=c:=congrArg (fun s:SR=>match s with|.next x=>x|_=>b) h
theorem mJ {t:Tb}{b:BS}{n:Nd}{P:SR->Prop}(h1:∀ f,(b.tried n).2=some f->P (.ret (some f) ((b.tried n).1.remember n))) (h2:∀ c,(b.tried n).1.take t n=.error c->P (.exc c (b.tried n).1)) (h3:∀ b2,(b.tried n).1.take t n=.ok b2->P (.next (b2.remember n))):P (b.step2 t n):=by
 unfold BS.step2;cases e1:(b.tried n).2 with
|some f=>exact h1 f e1
|none=>
  dsimp only;cases e2:(b.tried n).1.take t n with
 |error c=>exact h2 c e2
 |ok b2=>exact h3 b2 e2
theorem mK {t:Tb}{b b':BS}{n:Nd}{P:BS->Prop}(h:b.step2 t n=.next b') (k:∀ b2,(b.tried n).1.take t n=.ok b2->P (b2.remember n)):P b':=by
 unfold BS.step2 at h;cases e1:(b.tried n).2 with
|some f=>rw[e1]at h;cases h
|none=>
  rw[e1]at h;dsimp only at h;cases e2:(b.tried n).1.take t n with
 |error c=>rw[e2]at h;cases h
 |ok b2=>rw[e2]at h;exact SR.nx h ▸ k b2 e2
theorem tu {top:Gl}{t:Tb}{b b':BS}{n:Nd}{P:BS->Prop}(h:b.step top t n=.next b') (k:b.step2 t n=.next b'->P b') (kb:b.state≠2->n.isBox=true->top.so=0->P ((b.begin top n.ht).remember n))
  (kd:b.state≠2->P (({ b with con:=b.con.tail }:BS).remember n)):P b':=by
 unfold BS.step at h;by_cases h0:b.state=2
 ·rw[if_pos h0]at h;by_cases h1:n.bad=true
  ·rw[if_pos h1]at h;cases h
  ·rw[if_neg h1]at h;by_cases h2:n.isKern=true/\b.con.length=1
   ·rw[if_pos h2]at h;cases h
   ·rw[if_neg h2]at h;exact k h
 ·rw[if_neg h0]at h;by_cases h1:n.isBox=true
  ·rw[if_pos h1]at h;by_cases h2:top.so≠0
   ·rw[if_pos h2]at h;cases h
   ·rw[if_neg h2]at h;exact SR.nx h ▸ kb h0 h1 (Decidable.not_not.mp h2)
  ·rw[if_neg h1]at h;by_cases h2:n.disc=true
   ·rw[if_pos h2]at h;exact SR.nx h ▸ kd h0
   ·rw[if_neg h2]at h;exact k h
structure N770 (loc:List (String × V)) (r:Nat) (top:Gl):Prop where
 self:loc.lookup "self"=some (.ref (r,0))
 top:loc.lookup "top_skip"=some top.v
 cls:loc.lookup "classes"=some bk
structure N770' (loc:List (String × V)) (r:Nat) (top:Gl) (nv:V) (bg:Bool):Prop extends N770 loc r top where
 node:loc.lookup "node"=some nv
 bg:loc.lookup "is_begun"=some (.bool bg)
section
variable {Q:V->MH->Prop}{X:XP}{mh mh':MH}{r n:Nat}{b b':BS}{L:BL}{K:Fl->St->Prop}{top:Gl}{t:Tb}
theorem jB {n:Nd}:(b.tried n).1.con=b.con/\(b.tried n).1.page=b.page/\(b.tried n).1.ins.map (fun q=>q.1)=b.ins.map (fun q=>q.1)/\(b.tried n).1.ins.length=b.ins.length:=
 pS (P:=fun z=>z.con=b.con/\z.page=b.page/\z.ins.map (fun q=>q.1)=b.ins.map (fun q=>q.1)/\z.ins.length=b.ins.length) ⟨rfl,rfl,rfl,rfl⟩ fun ω=>
  ⟨rfl,rfl,by show(gY b.ins).map (fun q=>q.1)=_;unfold gY;rw[X3];exact X2 fun ω ω=>rfl,V0 _⟩
noncomputable def kI:TS:=(ab (aE (aF 829 iC (aa "self") [(aa "node")]))
  (ak (aV (bj (aa "is_waiting")) (ag .IsNot (aa "found") (tK .none))) (ao (aa "found")) tNil))
theorem mL {n:Nd}{bg wt:Bool}{f:Option Pg}{loc:List (String × V)}(N:N770' loc r top n.v bg) (hw:loc.lookup "is_waiting"=some (.bool wt)) (hf:loc.lookup "found"=some (cS f))
  (hk:if wt=true\/f.isSome=true then K (.ret (cS f)) ⟨loc,[],mh.bld r (b.remember n) L⟩else K .next ⟨loc,[],mh.bld r (b.remember n) L⟩):kI K X ⟨loc,[],mh.bld r b L⟩:=by
 obtain⟨⟨N1,N2,N3⟩,N4,N5⟩:=N;cases wt<;>cases f<;>simp at hk<;>simp[kI,↓tl N1,↓lr N1,↓tl N4,↓lr N4,↓tl hw,↓lr hw,↓tl hf,↓lr hf,aH,↓Ke,iQ,iR,Pg.v]<;>exact hk
theorem zo {n:Nd}{bg:Bool}{loc:List (String × V)}(hr:r≠0) (hr4:r≠4) (hL:L.Ok b.ins) (O:SOk t top b) (hn:n.Ok t) (hc:b.con≠[]) (hkn:∀ w,n=.kern w->b.con.length>=2) (ht:mh.m (4,0)=some (.dict t.d))
  (N:N770' loc r top n.v bg) (hw:loc.lookup "is_waiting"=some (.bool false))
  (hx:∀ c b',b.step2 t n=.exc c b'->∀ m L',Sc mh m->L'.Ok b'.ins->X c (m.bld r b' L'))
  (hnx:∀ b',b.step2 t n=.next b'->∀ m L' loc',Sc mh m->L'.Ok b'.ins->N770 loc' r top->K .next ⟨loc',[],m.bld r b' L'⟩)
  (hrt:∀ f b',b.step2 t n=.ret f b'->∀ m L' st,Sc mh m->L'.Ok b'.ins->st.mh=m.bld r b' L'->K (.ret (cS f)) st) :
  ab (ab (aw "found" (aF 829 gH (aa "self") [(aa "node")])) (ak (ag .Is (aa "found") (tK .none)) (aE (aF 829 fW (aa "self") [(aa "node"),(aa "classes")])) tNil)) kI K X ⟨loc,[],mh.bld r b L⟩:=by
 obtain⟨⟨N1,N2,N3⟩,N4,N5⟩:=id N;obtain⟨t1,t2,t3,t4⟩:=jB (b:=b) (n:=n);have hL1:L.Ok (b.tried n).1.ins:=hL.keysOf t3;have call:=Kr (X:=X) (mh:=mh) (r:=r) (b:=b) (L:=L) (n:=n) (Q:=fun v m=>(ab (ak (ag .Is (aa "found") (tK .none)) (aE (aF 829 fW (aa "self") [(aa "node"),(aa "classes")])) tNil) kI) K X ⟨aj "found" v loc,[],m⟩) hr hL O.h60 hkn O.page O.shrink O.s0 (fun m sc=>by
  have N':∀ v,N770' (aj "found" v loc) r top n.v bg:=fun v=>⟨⟨by (repeat first|exact ax|exact N1|refine az rfl ?_),by (repeat first|exact ax|exact N2|refine az rfl ?_),by (repeat first|exact ax|exact N3|refine az rfl ?_)⟩,by (repeat first|exact ax|exact N4|refine az rfl ?_),by (repeat first|exact ax|exact N5|refine az rfl ?_)⟩
  have hw':∀ v,(aj "found" v loc).lookup "is_waiting"=some (.bool false):=fun v=>by (repeat first|exact ax|exact hw|refine az rfl ?_)
  cases hf:(b.tried n).2 with
 |some f=>
   have es:b.step2 t n=.ret (some f) ((b.tried n).1.remember n):=by unfold BS.step2;rw[hf]
   have fin:kI K X ⟨aj "found" (cS (some f)) loc,[],m.bld r (b.tried n).1 L⟩:=by
    refine mL (f:=some f) (N' _) (hw' _) (by (repeat first|exact ax|refine az rfl ?_)) ?_;rw[if_pos (.inr rfl)];exact hrt _ _ es m L _ sc hL1 rfl
   have w:∀ (U:TS) (K:Fl->St->Prop),U K X ⟨aj "found" (cS (some f)) loc,[],m.bld r (b.tried n).1 L⟩->(ab (ak (ag .Is (aa "found") (tK .none)) (aE (aF 829 fW (aa "self") [(aa "node"),(aa "classes")])) tNil) U) K X ⟨aj "found" (cS (some f)) loc,[],m.bld r (b.tried n).1 L⟩:=fun U K h=>by
    have e1:cO (cS (some f))=fun k=>k false:=by funext k;rw[Ko];rfl
    simp[ax,aX,iQ,iR,Pg.v,aO,aM,aP];exact h
   exact w _ _ fin
 |none=>
   have w:∀ (U:TS) (K:Fl->St->Prop),fW [.ref (r,0),n.v,bk] (fun ω m=>U K X ⟨aj "found" (cS none) loc,[],m⟩) X (m.bld r (b.tried n).1 L)->(ab (ak (ag .Is (aa "found") (tK .none)) (aE (aF 829 fW (aa "self") [(aa "node"),(aa "classes")])) tNil) U) K X ⟨aj "found" (cS none) loc,[],m.bld r (b.tried n).1 L⟩:=fun U K h=>by
    simp[ax,aX,iQ,iR,↓tl N1,↓lr N1,↓tl N3,↓lr N3,↓tl N4,↓lr N4,aH,aO,aM,aP];exact h
   refine w _ _ (KU (t:=t) hr hr4 hL1 (by rw[t4];exact O.h60) hn (by rw[t2];exact O.page) (by rw[t1];exact hc) (by rw[t1];exact O.con) (by rw[sc.m (4,0) (.inl (by decide))];exact ht) (fun c h m' L' sc' hL'=>?_) fun b2 h m' L' sc' hL'=>?_)
   ·exact hx c _ (by unfold BS.step2;rw[hf];dsimp only;rw[h]) m' L' (sc.trans sc') hL'
   ·have es:b.step2 t n=.next (b2.remember n):=by unfold BS.step2;rw[hf];dsimp only;rw[h]
    refine mL (f:=none) (N' _) (hw' _) (by (repeat first|exact ax|refine az rfl ?_)) ?_;rw[if_neg (by simp)];exact hnx _ es m' L' _ (sc.trans sc') hL' (N' _).toN770)
 have w:∀ (U:TS) (V':TS) (K:Fl->St->Prop),gH [.ref (r,0),n.v] (fun v m=>(ab V' U) K X ⟨aj "found" v loc,[],m⟩) X (mh.bld r b L)->ab (ab (aw "found" (aF 829 gH (aa "self") [(aa "node")])) V') U K X ⟨loc,[],mh.bld r b L⟩:=fun U V' K h=>by
  simp[↓tl N1,↓lr N1,↓tl N4,↓lr N4,aH,aO,aM,aP]at h ⊢;exact h
 exact w _ _ _ call
end
noncomputable def tv:TS:=(ab (bt [an "found",an "node"] (aD [(au (ae (aa "self") "contributions") (tK (.int 0))),(tK .none)]))
  (ab (aw "is_begun" (aS (ag .Eq (ae (aa "self") "state") (tK (.int 2)))))
  (ab (ak (bf (bj (aa "is_begun")) (ag .Eq (ae (aa "node") "kind") (tK (.int 6)))) (aE (af eX [(ae (aa "node") "glue")])) tNil)
  (ab (aw "is_waiting" (dg (aa "is_begun") (dg (aS (ag .Eq (ae (aa "node") "kind") (tK (.int 5)))) (aS (ag .Eq (af bLen [(ae (aa "self") "contributions")]) (tK (.int 1)))))))
  (ab (ak (bf (b7 (bj (aa "is_begun"))) (ag .In (ae (aa "node") "kind") (tK (.tup ([2,3,4].map .int))))) (aE (aF 829 fV (aa "self") [(aa "node"),(aa "top_skip")])) (ak (bf (b7 (bj (aa "is_begun"))) (bj (af fB [(aa "node")]))) (aE (cj "list" (ae (aa "self") "contributions") bPop [(tK (.int 0))])) (ak (b7 (bj (aa "is_waiting"))) (ab (aw "found" (aF 829 gH (aa "self") [(aa "node")]))
  (ak (ag .Is (aa "found") (tK .none)) (aE (aF 829 fW (aa "self") [(aa "node"),(aa "classes")])) tNil)) tNil)))
  kI)))))
theorem jC (n:Nd):(n.kind=6↔n.isSkip=true)/\(n.kind=5↔n.isKern=true)/\([2,3,4].any (· == n.kind)=n.isBox):=by
 induction n with
|atm a=>induction a<;>simp[Nd.kind,Nd.isSkip,Nd.isKern,Nd.isBox]
|kern w=>simp[Nd.kind,Nd.isSkip,Nd.isKern,Nd.isBox]
|mark t=>simp[Nd.kind,Nd.isSkip,Nd.isKern,Nd.isBox]
|ins=>simp[Nd.kind,Nd.isSkip,Nd.isKern,Nd.isBox]
section
variable {ns:List Nd}{loc:List (String × V)}{U A1 A2 A3:TS}
variable {Q:V->MH->Prop}{X:XP}{mh mh':MH}{r n:Nat}{b b':BS}{L:BL}{K:Fl->St->Prop}{top:Gl}{t:Tb}
theorem KW {n:Nd}:n.isBox=true->∃ l h d,n=.atm (.box l h d):=by
 induction n with
|atm a=>
  induction a with
 |box l h d=>exact fun ω=>⟨l,h,d,rfl⟩
 |_=>exact nofun
|_=>exact nofun
theorem zp {n:Nd}(h:n.isSkip=true) {k:V->Prop}:bH mh n.v "glue" k=k (n.glue ⟨0,0,0,0,0⟩).v/\(n.bad=true↔¬ (n.glue ⟨0,0,0,0,0⟩).so=0):=by
 revert h
 induction n with
|atm a=>induction a<;>simp[Nd.isSkip,Nd.glue,Nd.bad]
|kern=>exact nofun
|mark=>exact nofun
|ins=>exact nofun
theorem KY {n:Nd}(h:n.bad=true):n.isSkip=true:=by
 revert h
 induction n with
|atm a=>induction a<;>simp[Nd.isSkip,Nd.bad]
|kern=>exact nofun
|mark=>exact nofun
|ins=>exact nofun
theorem KZ {n:Nd}(hc:b.con=n::ns) (N:N770 loc r top) (h:U K X ⟨aj "is_begun" (.bool (b.state == 2)) (aj "node" n.v (aj "found" .none loc)),[],mh.bld r b L⟩) :
  (ab (bt [an "found",an "node"] (aD [(au (ae (aa "self") "contributions") (tK (.int 0))),(tK .none)]))
  (ab (aw "is_begun" (aS (ag .Eq (ae (aa "self") "state") (tK (.int 2))))) U)) K X ⟨loc,[],mh.bld r b L⟩:=by
 simp[↓tl N.self,↓lr N.self,em,hc,aO,aM,aP];exact h
theorem K0 {n:Nd}{bg:Bool}(hn:loc.lookup "node"=some n.v) (hb:loc.lookup "is_begun"=some (.bool bg)) (hx:bg=true->n.bad=true->X 88 mh) (hk:¬ (bg=true/\n.bad=true)->U K X ⟨loc,[],mh⟩) :
  ab (ak (bf (bj (aa "is_begun")) (ag .Eq (ae (aa "node") "kind") (tK (.int 6)))) (aE (af eX [(ae (aa "node") "glue")])) tNil) U K X ⟨loc,[],mh⟩:=by
 cases bg
 ·simp[↓tl hb,aO,aM,aP];exact hk (by simp)
 ·by_cases hs:n.isSkip=true
  ·have k6:n.kind=6:=(jC n).1.mpr hs;have eb:=(zp (mh:=mh) hs (k:=fun ω=>True)).2;have eg:∀ {k:V->Prop},bH mh n.v "glue" k=k (n.glue ⟨0,0,0,0,0⟩).v:=(zp hs).1;by_cases hg:(n.glue ⟨0,0,0,0,0⟩).so=0
   ·simp[↓tl hb,↓tl hn,↓gk,k6,↓eg,↓jA,hg,aO,aM,aP];exact hk fun z=>eb.mp z.2 hg
   ·simp[↓tl hb,↓tl hn,↓gk,k6,↓eg,↓jA,hg];exact hx rfl (eb.mpr hg)
  ·have k6:¬ n.kind=6:=fun z=>hs ((jC n).1.mp z)
   simp[↓tl hb,↓tl hn,↓gk,k6,aO,aM,aP];exact hk fun z=>hs (KY z.2)
theorem K4 {n:Nd}{bg:Bool}(hl:b.con.length<=10000) (h0:loc.lookup "self"=some (.ref (r,0))) (hn:loc.lookup "node"=some n.v) (hb:loc.lookup "is_begun"=some (.bool bg))
  (hk:U K X ⟨aj "is_waiting" (.bool (bg && (n.isKern && ((b.con.length:Int) == 1)))) loc,[],mh.bld r b L⟩) :
  ab (aw "is_waiting" (dg (aa "is_begun") (dg (aS (ag .Eq (ae (aa "node") "kind") (tK (.int 5)))) (aS (ag .Eq (af bLen [(ae (aa "self") "contributions")]) (tK (.int 1))))))) U K X ⟨loc,[],mh.bld r b L⟩:=by
 cases bg
 ·simp[↓tl hb];simpa using hk
 ·have l0:b.con.length<=1000000:=ba hl rfl;cases hs:n.isKern
  ·have k5:(n.kind == 5)=false:=beq_eq_false_iff_ne.mpr fun z=>by rw[(jC n).2.1.mp z]at hs;cases hs
   simp[↓tl hb,↓tl hn,↓gk,k5];simpa[hs]using hk
  ·have k5:n.kind=5:=(jC n).2.1.mpr hs;simp[↓tl hb,↓tl hn,↓tl h0,↓gk,k5,em,l0];simpa[hs]using hk
theorem K5 {n:Nd}(hc:b.con=n::ns) (hl:b.con.length<=10000) (N:N770 loc r top)
  (hx:b.state=2->n.bad=true->X 88 (mh.bld r b L))
  (hk:¬(b.state=2/\n.bad=true)->∀ loc',N770' loc' r top n.v (decide (b.state=2))->loc'.lookup "is_waiting"=some (.bool (decide (b.state=2) && (n.isKern && decide (b.con.length=1))))->loc'.lookup "found"=some .none->U K X ⟨loc',[],mh.bld r b L⟩) :
  (ab (bt [an "found",an "node"] (aD [(au (ae (aa "self") "contributions") (tK (.int 0))),(tK .none)]))
  (ab (aw "is_begun" (aS (ag .Eq (ae (aa "self") "state") (tK (.int 2)))))
  (ab (ak (bf (bj (aa "is_begun")) (ag .Eq (ae (aa "node") "kind") (tK (.int 6)))) (aE (af eX [(ae (aa "node") "glue")])) tNil)
  (ab (aw "is_waiting" (dg (aa "is_begun") (dg (aS (ag .Eq (ae (aa "node") "kind") (tK (.int 5)))) (aS (ag .Eq (af bLen [(ae (aa "self") "contributions")]) (tK (.int 1))))))) U)))) K X ⟨loc,[],mh.bld r b L⟩:=by
 refine KZ hc N (K0 (n:=n) (by (repeat first|exact ax|refine az rfl ?_)) ax (fun h z=>hx (beq_iff_eq.mp h) z) fun h=>?_);refine K4 (n:=n) hl (by (repeat first|exact ax|exact N.self|refine az rfl ?_)) (by (repeat first|exact ax|refine az rfl ?_)) ax (hk (fun z=>h ⟨beq_iff_eq.mpr z.1,z.2⟩) _ ⟨⟨?_,?_,?_⟩,?_,?_⟩ ?_ ?_)
 ·(repeat first|exact ax|exact N.self|refine az rfl ?_)
 ·(repeat first|exact ax|exact N.top|refine az rfl ?_)
 ·(repeat first|exact ax|exact N.cls|refine az rfl ?_)
 ·(repeat first|exact ax|refine az rfl ?_)
 ·rw[aX rfl,ax];rfl
 ·have e:((b.con.length:Int) == 1)=decide (b.con.length=1):=by rw[Bool.eq_iff_iff];simp;lia
  rw[ax,e];rfl
 ·(repeat first|exact ax|refine az rfl ?_)
noncomputable def kJ (A1 A2 A3:TS):TS:=ak (bf (b7 (bj (aa "is_begun"))) (ag .In (ae (aa "node") "kind") (tK (.tup ([2,3,4].map .int))))) A1 (ak (bf (b7 (bj (aa "is_begun"))) (bj (af fB [(aa "node")]))) A2 (ak (b7 (bj (aa "is_waiting"))) A3 tNil))
theorem zq {wt:Bool}(N5:loc.lookup "is_begun"=some (.bool true)) (hw:loc.lookup "is_waiting"=some (.bool wt)) :
  ab (kJ A1 A2 A3) U K X ⟨loc,[],mh⟩=if wt=true then U K X ⟨loc,[],mh⟩else ab A3 U K X ⟨loc,[],mh⟩:=by
 cases wt<;>simp[kJ,↓tl N5,↓tl hw]
theorem K6 {n:Nd}(N4:loc.lookup "node"=some n.v) (N5:loc.lookup "is_begun"=some (.bool false)) (hb:n.isBox=true) :
  ab (kJ A1 A2 A3) U K X ⟨loc,[],mh⟩=ab A1 U K X ⟨loc,[],mh⟩:=by
 have hm:∀ k,cW (.int n.kind) (.tup ([2,3,4].map .int)) k=k true:=fun k=>by rw[pK,(jC n).2.2,hb]
 simp[kJ,↓tl N5,↓tl N4,↓gk,↓hm]
theorem zr {n:Nd}(N4:loc.lookup "node"=some n.v) (N5:loc.lookup "is_begun"=some (.bool false)) (hb:¬ n.isBox=true) :
  ab (kJ A1 A2 A3) U K X ⟨loc,[],mh⟩=if n.disc=true then ab A2 U K X ⟨loc,[],mh⟩else ab (ak (b7 (bj (aa "is_waiting"))) A3 tNil) U K X ⟨loc,[],mh⟩:=by
 have hm:∀ k,cW (.int n.kind) (.tup ([2,3,4].map .int)) k=k false:=fun k=>by rw[pK,(jC n).2.2,Bool.eq_false_iff.mpr hb]
 cases hd:n.disc<;>simp[kJ,↓tl N5,↓tl N4,↓gk,↓hm,↓y3,hd]
theorem K7 (hw:loc.lookup "is_waiting"=some (.bool false)) :
  ab (ak (b7 (bj (aa "is_waiting"))) A3 tNil) U K X ⟨loc,[],mh⟩=ab A3 U K X ⟨loc,[],mh⟩:=by
 simp[↓tl hw]
theorem K8 {n:Nd}(N1:loc.lookup "self"=some (.ref (r,0))) (N2:loc.lookup "top_skip"=some top.v) (N4:loc.lookup "node"=some n.v) :
  ab (aE (aF 829 fV (aa "self") [(aa "node"),(aa "top_skip")])) U K X ⟨loc,[],mh.bld r b L⟩=fV [.ref (r,0),n.v,top.v] (fun ω m=>U K X ⟨loc,[],m⟩) X (mh.bld r b L):=by
 simp[↓tl N1,↓tl N2,↓tl N4,aO]
theorem K9 {n:Nd}(N1:loc.lookup "self"=some (.ref (r,0))) (hc:b.con=n::ns) (hl:ns.length<=10000) :
  ab (aE (cj "list" (ae (aa "self") "contributions") bPop [(tK (.int 0))])) U K X ⟨loc,[],mh.bld r b L⟩=U K X ⟨loc,[],mh.bld r { b with con:=b.con.tail } L⟩:=by
 simp[↓tl N1,em,hc,hl,jz]
theorem Lb {n:Nd}(hr:r≠0) (hr4:r≠4) (hL:L.Ok b.ins) (O:SOk t top b) (hc:b.con=n::ns) (ht:mh.m (4,0)=some (.dict t.d)) (N:N770 loc r top)
  (hx:∀ c b',b.step top t n=.exc c b'->∀ m L',Sc mh m->L'.Ok b'.ins->X c (m.bld r b' L'))
  (hnx:∀ b',b.step top t n=.next b'->∀ m L' loc',Sc mh m->L'.Ok b'.ins->N770 loc' r top->K .next ⟨loc',[],m.bld r b' L'⟩)
  (hrt:∀ f b',b.step top t n=.ret f b'->∀ m L' st,Sc mh m->L'.Ok b'.ins->st.mh=m.bld r b' L'->K (.ret (cS f)) st):tv K X ⟨loc,[],mh.bld r b L⟩:=by
 have hn:n.Ok t:=O.nodes n (by rw[hc];exact .head _);obtain⟨k6,k5,k234⟩:=jC n;refine K5 hc O.con N (fun hs hb=>?_) fun hb loc' N' hw hf=>?_
 ·have e:b.step top t n=.exc 88 b:=by unfold BS.step;rw[if_pos hs,if_pos hb]
  exact hx _ _ e mh L (Sc.refl mh) hL
 obtain⟨⟨N1,N2,N3⟩,N4,N5⟩:=id N';by_cases hs:b.state=2
 ·have hb':¬ n.bad=true:=fun z=>hb ⟨hs,z⟩
  rw[decide_eq_true hs]at N' hw N5;by_cases hwt:n.isKern=true/\b.con.length=1
  ·have e:b.step top t n=.ret none (b.remember n):=by unfold BS.step;rw[if_pos hs,if_neg hb',if_pos hwt]
   have hw':loc'.lookup "is_waiting"=some (.bool true):=by rw[hw];simp[hwt.1,hwt.2]
   refine(zq N5 hw').mpr ?_;rw[if_pos rfl];refine mL (f:=none) N' hw' (by rw[hf];rfl) ?_;rw[if_pos (.inl rfl)];exact hrt _ _ e mh L _ (Sc.refl mh) hL rfl
  ·have e:b.step top t n=b.step2 t n:=by unfold BS.step;rw[if_pos hs,if_neg hb',if_neg hwt]
   have hw':loc'.lookup "is_waiting"=some (.bool false):=by
    rw[hw];by_cases h1:n.isKern=true
    ·have h2:¬ b.con.length=1:=fun z=>hwt ⟨h1,z⟩
     simp[h2]
    ·simp[h1]
   refine(zq N5 hw').mpr ?_;rw[if_neg U2];refine zo hr hr4 hL O hn (by rw[hc];simp) (fun w hw=>?_) ht N' hw' (fun c b' h=>hx c b' (e.trans h)) (fun b' h=>hnx b' (e.trans h)) fun f b' h=>hrt f b' (e.trans h)
   subst hw;have h2:¬ b.con.length=1:=fun z=>hwt ⟨rfl,z⟩
   have h3:b.con.length≠0:=by rw[hc];simp
   lia
 ·rw[decide_eq_false hs]at N' hw N5;have hw':loc'.lookup "is_waiting"=some (.bool false):=by rw[hw];simp
  have es:b.step top t n=if n.isBox=true then(if top.so≠0 then .exc 88 b else .next ((b.begin top n.ht).remember n))else if n.disc=true then .next (({ b with con:=b.con.tail }:BS).remember n)else b.step2 t n:=by unfold BS.step;rw[if_neg hs]
  by_cases hbx:n.isBox=true
  ·rw[if_pos hbx]at es;obtain⟨l,h,d,rfl⟩:=KW hbx;obtain⟨h0,h1,h2,h3⟩:=hn;have hd:aZ (mx (top.w - h) 0):=by
    obtain⟨w0,w1⟩:=O.w;unfold mx aZ;split<;>lia
   refine(K6 N4 N5 hbx).mpr ((K8 N1 N2 N4).mpr ?_);show fV [.ref (r,0),(At.box l h d).v,top.v] _ X (mh.bld r b L);rw[Ki hr hL O.con O.o ⟨hd,O.d⟩];by_cases hso:top.so=0
   ·rw[if_neg (fun z=>z hso)]at es ⊢;have hLb:(L.begin b).Ok (b.begin top h).ins:=by
     unfold BL.begin BS.begin
     split
     ·exact hL.clear _ _ _ _
     ·exact hL
    refine mL (f:=none) N' hw' (by rw[hf];rfl) ?_;rw[if_neg (by simp)];exact hnx _ es _ _ _ ((ce mh).trans (ce _)) hLb N'.toN770
   ·rw[if_pos hso]at es ⊢;exact hx _ _ es mh L (Sc.refl mh) hL
  ·rw[if_neg hbx]at es;by_cases hdc:n.disc=true
   ·rw[if_pos hdc]at es;have hl':ns.length<=10000:=by have:=O.con;rw[hc]at this;simp at this;(first|exact ba ‹_› rfl|lia)
    refine(zr N4 N5 hbx).mpr ?_;rw[if_pos hdc];refine(K9 N1 hc hl').mpr (mL (f:=none) N' hw' (by rw[hf];rfl) ?_);rw[if_neg (by simp)];exact hnx _ es mh L _ (Sc.refl mh) hL N'.toN770
   ·rw[if_neg hdc]at es;refine(zr N4 N5 hbx).mpr ?_;rw[if_neg hdc];refine(K7 hw').mpr (zo hr hr4 hL O hn (by rw[hc];simp) (fun w hw=>?_) ht N' hw' (fun c b' h=>hx c b' (es.trans h)) (fun b' h=>hnx b' (es.trans h)) fun f b' h=>hrt f b' (es.trans h));subst hw;exact absurd rfl hdc
end
section
variable {Q:V->MH->Prop}{X:XP}{mh mh':MH}{r n:Nat}{b b':BS}{L:BL}{K:Fl->St->Prop}{top:Gl}{t:Tb}{P:BS->Prop}
theorem Lc (hr:r≠0) (hr4:r≠4) (hO:∀ b,P b->SOk t top b) (hP:∀ b n ns b',P b->b.con=n::ns->b.step top t n=.next b'->P b'):∀ (k:Nat) (b:BS) (L:BL) (mh:MH) (loc:List (String × V)),P b->L.Ok b.ins->mh.m (4,0)=some (.dict t.d)->N770 loc r top->
  (∀ b',BS.run top t k b≠.next b')->
  (∀ c b',BS.run top t k b=.exc c b'->∀ m L',Sc mh m->L'.Ok b'.ins->X c (m.bld r b' L'))->
  (∀ f b',BS.run top t k b=.ret f b'->∀ m L' st,Sc mh m->L'.Ok b'.ins->st.mh=m.bld r b' L'->K (.ret (cS f)) st/\(f=none->K .next st))->
  ip (ag .NotEq (ae (aa "self") "contributions") (bB [])) tv k K X ⟨loc,[],mh.bld r b L⟩:=by
 intro ll;induction ll with
|zero=>
  intro b L mh loc hp hL ht N h0 hx hk;exact(h0 b rfl).elim
|succ k IH=>
  intro b L mh loc hp hL ht N h0 hx hk;exact by
    obtain⟨N1,N2,N3⟩:=id N;rw[sV];have w:∀ (K':Bool->St->Prop),K' (!b.con.isEmpty) ⟨loc,[],mh.bld r b L⟩->(ag .NotEq (ae (aa "self") "contributions") (bB [])) K' X ⟨loc,[],mh.bld r b L⟩:=fun K' h=>by
     simp[↓tl N1,↓lr N1,aH,↓tc,em,aO,aM,aP];exact h
    refine w _ ?_;cases hc:b.con with
   |nil=>
     exact(hk _ _ (kH hc) mh L _ (Sc.refl mh) hL rfl).2 rfl
   |cons n ns=>
     have e:BS.run top t (k+1) b=(b.step top t n).bindN (BS.run top t k):=gZ hc;refine Lb hr hr4 hL (hO b hp) hc ht N (fun c b' h m L' sc hL'=>?_) (fun b' h m L' loc' sc hL' N'=>?_) fun f b' h m L' st sc hL' hm=>?_
     ·exact hx c b' (by rw[e,h]) m L' sc hL'
     ·have e':BS.run top t (k+1) b=BS.run top t k b':=by rw[e,h]
      rw[e']at h0 hx hk;exact IH b' L' m loc' (hP b n ns b' hp hc h) hL' (by rw[sc.m (4,0) (.inl (by decide))];exact ht) N' h0 (fun c b2 h2 m2 L2 sc2=>hx c b2 h2 m2 L2 (sc.trans sc2)) fun f b2 h2 m2 L2 st2 sc2=>hk f b2 h2 m2 L2 st2 (sc.trans sc2)
     ·exact(hk f b' (by rw[e,h]) m L' st sc hL' hm).1
theorem Ld {k:Nat}(hr:r≠0) (hr4:r≠4) (hO:∀ b,P b->SOk t top b) (hP:∀ b n ns b',P b->b.con=n::ns->b.step top t n=.next b'->P b') (hp:P b) (hL:L.Ok b.ins) (ht:mh.m (4,0)=some (.dict t.d))
  (h0:∀ b',BS.run top t k b≠.next b')
  (hx:∀ c b',BS.run top t k b=.exc c b'->∀ m L',Sc mh m->L'.Ok b'.ins->X c (m.bld r b' L'))
  (hk:∀ f b',BS.run top t k b=.ret f b'->∀ m L',Sc mh m->L'.Ok b'.ins->Q (cS f) (m.bld r b' L')):oR [.ref (r,0),top.v,bk] Q X (mh.bld r b L):=by
 refine⟨rfl,?_⟩;show ab (lj (ag .NotEq (ae (aa "self") "contributions") (bB [])) tv) (ao (tK .none)) (fun fl st=>Q fl.val st.mh) X ⟨[("self",.ref (r,0)),("top_skip",top.v),("classes",bk)],[],mh.bld r b L⟩;refine⟨k,Lc hr hr4 hO hP k b L mh _ hp hL ht ⟨rfl,rfl,rfl⟩ h0 hx fun f b' h m L' st sc hL' hm=>?_⟩;have:=hk f b' h m L' sc hL';refine⟨by rw[rS];show Q _ st.mh;rw[hm];exact this,fun hf=>?_⟩;subst hf;rw[eI];show Q .none st.mh;rw[hm];exact this
end
noncomputable def dJ:Option Pg->V
|none=>.tup []
|some p=>.tup [.int p.place,.int p.pen,.int p.cost,.int p.size]
theorem pY:dJ none=.tup []:=rfl
theorem pZ {p:Pg}:dJ (some p)=.tup [.int p.place,.int p.pen,.int p.cost,.int p.size]:=rfl
set_option tactic.hygienic true in
noncomputable def SR.v:SR->V
|.ret f _=>dJ f
|.exc c _=>if c=88 then .str "page" else .str "box"
|.next _=>.none
noncomputable def Gl.tup (g:Gl):V:=.tup [.int g.w,.int g.s,.int g.o,.int g.sh,.int g.so]
noncomputable def At.dsc:At->V
|.box l h d=>.tup [.int 2,.int l,.int h,.int d,.int 0,.int 0,.int 0,.tup [.int 0,.int 1],.tup []]
|.skip g s=>.tup [.int 6,g.tup,.int s,.tup []]
|.pen v=>.tup [.int 7,.int v]
noncomputable def Nd.dsc:Nd->V
|.atm a=>a.dsc
|.kern w=>.tup [.int 5,.int w,.int 1]
|.mark t=>.tup [.int 9,.tup [.tup [.int 11,.int t]]]
|.ins num size deep tw cost ps=>.tup [.int 10,.int num,.int size,.int deep,Gl.tup ⟨tw,0,0,0,0⟩,.int cost,.tup (ps.map At.dsc)]
section
variable {d:Int}{α:Type}{k:Nat}
variable {Q:V->MH->Prop}{X:XP}{mh mh':MH}{r n:Nat}{b b':BS}{L:BL}{K:Fl->St->Prop}{top:Gl}{t:Tb}{P:BS->Prop}
theorem zs {f:Option Pg}:iG [cS f] Q X mh=Q (dJ f) mh:=by
 induction f with
|none=>simp[iG,T899,iQ,iR,pY,pZ]
|some p=>
  simp[iG,T899,iQ,iR,pY,pZ,Pg.v]
theorem tx {g:Gl}:jU [g.v] Q X mh=Q g.tup mh:=by
 simp[jU,T212,Gl.tup]
theorem kK (h:d<=60):oS [.int d] Q X mh=Q .none mh:=by
 have:¬ d > 60:=by lia
 simp[oS,T420,this]
theorem mM {chk:MH->Prop}{f:TgF}{capv:List (String × V)}{Te:TE}{inj g:α->V}{Q:List V->St->Prop}{st:St}(hc:chk st.mh):∀ (us:List α) (acc:List V),acc.length+us.length<=10000->
  (∀ u∈us,∀ (Q':V->St->Prop),(∀ st',st'.mh=st.mh->Q' (g u) st')->f (inj u) ⟨capv,[],st.mh⟩ fun st1=>Te Q' dt st1)->Q (acc++us.map g) st->fv chk f capv tTrue Te (us.map inj) acc Q st:=by
 intro ll;induction ll with
|nil=>
  intro acc _ _ hq;exact by
    rw[List.map_nil];refine⟨hc,?_⟩;rw[List.map_nil,List.append_nil]at hq;exact hq
|cons u us IH=>
  intro acc hl he hq;exact by
    rw[V1];refine⟨hc,?_⟩;have hl':acc.length+us.length+1<=10000:=by rw[V4]at hl;lia
    refine he u (.head _) _ fun st' hm=>?_
    refine⟨by lia,?_⟩;have e:({ st with mh:=st'.mh }:St)=st:=by rw[hm]
    rw[e];refine IH (acc++[g u]) (by simp;lia) (fun v hv=>he v (.tail _ hv)) ?_;rw[W4];rw[V1]at hq;exact hq
theorem ty {inj g:α->V}{us:List α}(hl:us.length<=5000) (he:∀ u∈us,∀ (Q':V->MH->Prop),Q' (g u) mh->F438 (ej k) [inj u,.int d] Q' dt mh) (hq:Q (.tup (us.map g)) mh) :
  ej (k+1) [.lst (us.map inj),.int d] Q X mh:=by
 have key:=mM (chk:=fun ω=>True) (f:=an "node") (capv:=[("depth",.int d)]) (Te:=af (F438 (ej k)) [(aa "node"),(aa "depth")]) (inj:=inj) (g:=g)
  (Q:=fun us' st'=>us'.length<=10000/\Q (.tup us') st'.mh) (st:=⟨[("items",.lst (us.map inj)),("depth",.int d)],[],mh⟩) trivial us [] (by simp;(first|exact ba ‹_› rfl|lia)) (fun u hu Q' hq'=>by
   have:=he u hu (fun v m=>Q' v ⟨[("depth",.int d),("node",inj u)],[],m⟩) (hq' _ rfl);simp[e9,aO,aM,aP];exact this) ⟨by simp;(first|exact ba ‹_› rfl|lia),by simpa using hq⟩
 show 2=2/\af bTuple _ _ _ _;refine⟨rfl,?_⟩;rw[jo,co,ke,kf,gN,cI];exact key
theorem Le {inj g:α->V}{us:List α}{l:aT}(hm:mh.m l=some (.list (us.map inj))) (hl:us.length<=5000) (he:∀ u∈us,∀ (Q':V->MH->Prop),Q' (g u) mh->F438 (ej k) [inj u,.int 0] Q' dt mh) (hq:Q (.tup (us.map g)) mh) :
  oU (F438 (ej k)) [.ref l] Q X mh:=by
 have key:=mM (chk:=fun mh'=>mh'.m l=some (.list (us.map inj))) (f:=an "node") (capv:=[("depth",.int 0)]) (Te:=af (F438 (ej k)) [(aa "node"),(aa "depth")]) (inj:=inj) (g:=g)
  (Q:=fun us' st'=>us'.length<=10000/\Q (.tup us') st'.mh) (st:=⟨[("items",.ref l),("depth",.int 0)],[],mh⟩) hm us [] (by simp;(first|exact ba ‹_› rfl|lia)) (fun u hu Q' hq'=>by
   have:=he u hu (fun v m=>Q' v ⟨[("depth",.int 0),("node",inj u)],[],m⟩) (hq' _ rfl);simp[e9,aO,aM,aP];exact this) ⟨by simp;(first|exact ba ‹_› rfl|lia),by simpa using hq⟩
 show 1=1/\af bTuple _ _ _ _;refine⟨rfl,?_⟩;rw[jo,co,ke,kf,gN,cI];show d9 mh (.ref l) _;unfold d9;dsimp only;rw[hm];exact key
theorem Lf {inj g:α->V}{us:List α}(hl:us.length<=5000) (he:∀ u∈us,∀ (Q':V->MH->Prop),Q' (g u) mh->F438 (ej k) [inj u,.int 0] Q' dt mh) (hq:Q (.tup (us.map g)) mh) :
  oU (F438 (ej k)) [.lst (us.map inj)] Q X mh:=by
 have:=ty (X:=X) (k:=k) (inj:=inj) (g:=g) (d:=0) hl he hq;obtain⟨_,this⟩:=(this:2=2/\_);exact⟨rfl,this⟩
theorem zt {a:At}(hd:d<=50) (hq:Q a.dsc mh):F438 (ej (k+1)) [a.v,.int d] Q X mh:=by
 have hd':d<=60:=by exact bS ‹_› rfl
 induction a with
|box l h d'=>
  have nil:∀ Q':V->MH->Prop,Q' (.tup []) mh->ej (k+1) [.lst [],.int (d+1)] Q' X mh:=fun Q' h=>ty (α:=Nat) (inj:=fun ω=>.none) (g:=fun ω=>.none) (us:=[]) (by simp) (fun u hu=>nomatch hu) h
  have:=nil (fun v m=>Q (.tup [.int 2,.int l,.int h,.int d',.int 0,.int 0,.int 0,.tup [.int 0,.int 1],v]) m) hq;simp[F438,iE,↓kK hd'];exact gd this fun v m=>by simp
|skip g s=>
  simp[F438,iE,↓kK hd',↓tx,aO,aM,aP];exact hq
|pen v=>
  simp[F438,iE,↓kK hd',aO,aM,aP];exact hq
theorem zu {n:Nd}(hd:d<=49) (hps:∀ num size deep tw cost ps,n=.ins num size deep tw cost ps->ps.length<=1000) (hq:Q n.dsc mh):F438 (ej (k+2)) [n.v,.int d] Q X mh:=by
 have hd':d<=60:=by exact bS ‹_› rfl
 induction n with
|atm a=>exact zt (by lia) hq
|kern w=>
  simp[F438,iE,↓kK hd',aO,aM,aP];exact hq
|mark t=>
  simp[F438,iE,↓kK hd',aO,aM,aP];exact hq
|ins num size deep tw cost ps=>
  have:=ty (X:=X) (mh:=mh) (k:=k+1) (inj:=At.v) (g:=At.dsc) (us:=ps) (d:=d+1) (Q:=fun v m=>Q (.tup [.int 10,.int num,.int size,.int deep,Gl.tup ⟨tw,0,0,0,0⟩,.int cost,v]) m) (by have:=hps _ _ _ _ _ _ rfl;(first|exact ba ‹_› rfl|lia)) (fun u hu Q' h=>zt (by lia) h) hq;simp[F438,iE,rF,rE,↓kK hd',↓tx];exact gd this fun v m=>by simp
theorem zv {ns:List Nd}(hl:ns.length<=5000) (hps:∀ n∈ns,∀ num size deep tw cost ps,n=.ins num size deep tw cost ps->ps.length<=1000) (hq:Q (.tup (ns.map Nd.dsc)) mh):bJ 4 [.lst (ns.map Nd.v)] Q X mh:=
 Lf (k:=3) hl (fun u hu Q' h=>zu (by decide) (hps u hu) h) hq
theorem tz {ns:List Nd}{l:aT}(hm:mh.m l=some (.list (ns.map Nd.v))) (hl:ns.length<=5000) (hps:∀ n∈ns,∀ num size deep tw cost ps,n=.ins num size deep tw cost ps->ps.length<=1000) (hq:Q (.tup (ns.map Nd.dsc)) mh):bJ 4 [.ref l] Q X mh:=
 Le (k:=3) hm hl (fun u hu Q' h=>zu (by decide) (hps u hu) h) hq
end
set_option tactic.hygienic true in
noncomputable def SR.b:SR->BS
|.next b=>b
|.ret _ b=>b
|.exc _ b=>b
noncomputable def rowV (p:Int × Ins):V:=.tup [.int p.1,.int p.2.size,.int p.2.last,.int p.2.best,.int p.2.sat,.int p.2.spl]
noncomputable def iZ (es:List (Int × Ins)):List (Int × Ins):=match es with
|[]=>[]
|[p]=>[p]
|[p,q]=>if q.1 < p.1 then[q,p]else[p,q]
|p::q::r::l=>p::q::r::l
theorem Lg:iZ []=[]:=rfl
theorem Lh {p:Int × Ins}:iZ [p]=[p]:=rfl
theorem Li {p q:Int × Ins}:iZ [p,q]=if q.1 < p.1 then[q,p]else[p,q]:=rfl
theorem Lj {p q r:Int × Ins}{l:List (Int × Ins)}:iZ (p::q::r::l)=p::q::r::l:=rfl
noncomputable def BS.st (b:BS):V:=.tup [.tup (b.page.map Nd.dsc),.tup [.int b.state,.int b.goal,.int b.total,.lst [.int b.s0,.int b.s1,.int b.s2,.int b.s3],.int b.shrink,.int b.depth,.int b.mdepth,.int b.ipen],
 .lst ((iZ b.ins).map rowV),dJ b.best,.tup [.int b.lpen,.int b.lkern,b.lglue.tup],.int 0]
noncomputable def dW:List (Int × Ins)->List Nat->List (Int × Nat × Ins)
|[],_=>[]
|_::_,[]=>[]
|(k,e)::es,n::ns=>(k,n,e)::dW es ns
theorem fN {ns:List Nat}:dW [] ns=[]:=rfl
theorem fO {p:Int × Ins}{es:List (Int × Ins)}:dW (p::es) []=[]:=rfl
theorem fP {k:Int}{e:Ins}{es:List (Int × Ins)}{n:Nat}{ns:List Nat}:dW ((k,e)::es) (n::ns)=(k,n,e)::dW es ns:=rfl
noncomputable def fk (es:List (Int × Nat × Ins)):List (Int × Nat × Ins):=match es with
|[]=>[]
|[p]=>[p]
|[p,q]=>if q.1 < p.1 then[q,p]else[p,q]
|p::q::r::l=>p::q::r::l
theorem tA:fk []=[]:=rfl
theorem tB {p:Int × Nat × Ins}:fk [p]=[p]:=rfl
theorem tC {p q:Int × Nat × Ins}:fk [p,q]=if q.1 < p.1 then[q,p]else[p,q]:=rfl
theorem tE {p q r:Int × Nat × Ins}{l:List (Int × Nat × Ins)}:fk (p::q::r::l)=p::q::r::l:=rfl
theorem Lk {r:Nat}:∀ (es:List (Int × Ins)) (ns:List Nat),cf r es ns=(dW es ns).map fun p=>(p.1,V.ref (r,p.2.1)):=by
 intro ll;induction ll with
|nil=>
  intro _;exact by simp[fh,fj,dI,fN,fO,fP]
|cons hd es IH=>
  obtain⟨k,e⟩:=hd;intro l2;rcases l2 with _|⟨n,ns⟩
  ·exact by simp[fh,fj,dI,fN,fO,fP]
  ·exact by simp[fh,fj,dI,fN,fO,fP,IH ns]
theorem Ll:∀ (es:List (Int × Ins)) (ns:List Nat),ns.length=es.length->(dW es ns).map (fun p=>(p.1,p.2.2))=es:=by
 intro ll;induction ll with
|nil=>
  intro _ _;exact by simp[fN,fO,fP]
|cons hd es IH=>
  obtain⟨k,e⟩:=hd;intro l2;rcases l2 with _|⟨n,ns⟩
  ·intro h;exact by simp at h
  ·intro h;exact by simp[fN,fO,fP,IH ns (by simpa using h)]
theorem zw:∀ (es:List (Int × Ins)) (ns:List Nat),∀ p∈dW es ns,p.2.1∈ns:=by
 intro ll;induction ll with
|nil=>
  intro _ p h;exact by simp[fN,fO,fP]at h
|cons hd es IH=>
  obtain⟨k,e⟩:=hd;intro l2;rcases l2 with _|⟨n,ns⟩
  ·intro p h;exact by simp[fN,fO,fP]at h
  ·intro p h;exact by
     simp only[fN,fO,fP,V3]at h;rcases h with rfl|h
     ·exact .head _
     ·exact .tail _ (IH ns p h)
theorem Lm:∀ (es:List (Int × Ins)) (ns:List Nat),ns.Nodup->∀ p∈dW es ns,dy es ns p.2.1=some (.inst 674 p.2.2.fs):=by
 intro ll;induction ll with
|nil=>
  intro _ _ p h;exact by simp[fN,fO,fP]at h
|cons hd es IH=>
  obtain⟨k,e⟩:=hd;intro l2;rcases l2 with _|⟨n,ns⟩
  ·intro _ p h;exact by simp[fN,fO,fP]at h
  ·intro hn p h;exact by
     simp only[fN,fO,fP,V3]at h;dsimp only[gW];rcases h with rfl|h
     ·rw[if_pos rfl]
     ·have:=zw es ns p h;rw[if_neg (by rintro z;rw[z]at this;exact(W2.mp hn).1 this)];exact IH ns (W2.mp hn).2 p h
theorem zx:eG []=[]:=rfl
theorem zy {p:Int × V}:eG [p]=[p]:=rfl
theorem zz {p q:Int × V}:eG [p,q]=if q.1 < p.1 then[q,p]else[p,q]:=rfl
theorem zA {p q r:Int × V}{l:List (Int × V)}:eG (p::q::r::l)=p::q::r::l:=rfl
theorem Ln {ts:List (Int × Nat × Ins)}(f:Int × Nat × Ins->V):eG (ts.map fun p=>(p.1,f p))=(fk ts).map fun p=>(p.1,f p):=by
 rcases ts with _|⟨a,_|⟨b,_|⟨c,ts⟩⟩⟩<;>simp[zx,zy,zz,zA,tA,tB,tC,tE]
 split<;>simp
theorem Lo {ts:List (Int × Nat × Ins)}:(fk ts).map (fun p=>(p.1,p.2.2))=iZ (ts.map fun p=>(p.1,p.2.2)):=by
 rcases ts with _|⟨a,_|⟨b,_|⟨c,ts⟩⟩⟩<;>simp[Lg,Lh,Li,Lj,tA,tB,tC,tE]
 split<;>simp
theorem Lp {ts:List (Int × Nat × Ins)}{p:Int × Nat × Ins}(h:p∈fk ts):p∈ts:=by
 rcases ts with _|⟨a,_|⟨b,_|⟨c,ts⟩⟩⟩<;>simp[tA,tB,tC,tE]at h ⊢
 ·exact h
 ·split at h<;>simp at h
  ·exact h.symm
  ·exact h
 ·exact h
section
variable {Q:V->MH->Prop}{X:XP}{mh mh':MH}{r n:Nat}{b b':BS}{L:BL}{K:Fl->St->Prop}{top:Gl}{t:Tb}{P:BS->Prop}
theorem zB (hL:L.Ok b.ins) (h2:b.ins.length<=2) (hl:b.page.length<=5000) (hps:∀ n∈b.page,∀ num size deep tw cost ps,n=.ins num size deep tw cost ps->ps.length<=1000) (hq:Q b.st (mh.bld r b L)):bz [.ref (r,0)] Q X (mh.bld r b L):=by
 refine⟨rfl,?_⟩;have hlen:(cf r b.ins L.il).length<=2:=by rw[pR _ _ hL.len];exact h2
 have hs:eG (cf r b.ins L.il)=(fk (dW b.ins L.il)).map fun p=>(p.1,V.ref (r,p.2.1)):=by rw[Lk,Ln]
 have hst:(fk (dW b.ins L.il)).length<=2:=by
  have:=congrArg List.length hs;rw[V0]at this;rw[<- this];have:∀ es:List (Int × V),(eG es).length=es.length:=fun es=>by
   rcases es with _|⟨a,_|⟨b,_|⟨c,ts⟩⟩⟩<;>simp[zx,zy,zz,zA]
   split<;>simp
  rw[this];exact hlen
 have rows:∀ (U:TS) (K:Fl->St->Prop),U K X ⟨[("builder",.ref (r,0)),("rows",.lst ((iZ b.ins).map rowV))],[],mh.bld r b L⟩->
   (ab (aw "rows" (be (aU (dB [an "which",an "one"]) [] (oQ (oP (ae (aa "builder") "inserts"))) tTrue (aD [(aa "which"),(ae (aa "one") "size"),(ae (aa "one") "last"),(ae (aa "one") "best"),(ae (aa "one") "split_at"),(ae (aa "one") "split_place")])))) U) K X ⟨[("builder",.ref (r,0))],[],mh.bld r b L⟩:=fun U K h=>by
  have key:=mM (chk:=fun ω=>True) (f:=dB [an "which",an "one"]) (capv:=[]) (Te:=(aD [(aa "which"),(ae (aa "one") "size"),(ae (aa "one") "last"),(ae (aa "one") "best"),(ae (aa "one") "split_at"),(ae (aa "one") "split_place")]))
   (inj:=fun p:Int × Nat × Ins=>fX (p.1,.ref (r,p.2.1))) (g:=fun p=>rowV (p.1,p.2.2)) (st:=⟨[("builder",.ref (r,0))],[],mh.bld r b L⟩)
   (Q:=fun us' st'=>U K X (st'.put "rows" (.lst us'))) trivial (fk (dW b.ins L.il)) [] (by simp;(first|exact ba ‹_› rfl|lia)) (fun p hp Q' hq'=>by
    have hm:=Lp hp;have hne:=hL.il _ (zw _ _ _ hm);have h0:p.2.1≠0:=by lia
    have h1:p.2.1≠1:=by lia
    have h2:p.2.1≠2:=by lia
    have h3:p.2.1≠3:=by lia
    have h5:p.2.1≠5:=by lia
    have e:(mh.bld r b L).m (r,p.2.1)=some (.inst 674 p.2.2.fs):=by
     simp[MH.bld,BL.obj,h0,h1,h2,h3,h5,hne.2.2,Lm _ _ hL.nd p hm]
    have:=hq' ⟨[("which",.int p.1),("one",.ref (r,p.2.1))],[],mh.bld r b L⟩ rfl;simp[e9,fX,e,aO,aM,aP];exact this) (by
    have e2:(fk (dW b.ins L.il)).map (fun p=>rowV (p.1,p.2.2))=(iZ b.ins).map rowV:=by
     have:=Lo (ts:=dW b.ins L.il);rw[Ll _ _ hL.len]at this;rw[<- this,X3];rfl
    rw[e2];simp[rM,rL,o6,aO,aM,aP];exact h)
  have e3:((eG (cf r b.ins L.il)).map fX)=(fk (dW b.ins L.il)).map fun p:Int × Nat × Ins=>fX (p.1,.ref (r,p.2.1)):=by rw[hs,X3];rfl
  rw[cP,iI,ke,kf,H4,H6,o8,cI];show bH _ (.ref (r,0)) _ _;rw[sJ,aH];dsimp only;rw[y1];dsimp only;rw[gX];refine⟨hlen,?_,?_⟩
  ·rw[e3,List.all_map];exact V6.mpr fun ω ω=>rfl
  ·rw[e3];exact key
 refine rows _ _ ?_;have hd:=tz (X:=X) (mh:=mh.bld r b L) (l:=(r,3)) (ns:=b.page) (Q:=fun v m=>m=mh.bld r b L/\v=.tup (b.page.map Nd.dsc)) eo hl hps ⟨rfl,rfl⟩;have hd2:∀ (Q':V->MH->Prop),Q' (.tup (b.page.map Nd.dsc)) (mh.bld r b L)->bJ 4 [.ref (r,3)] Q' X (mh.bld r b L):=fun Q' h=>tz eo hl hps h
 simp[aH,mv hL,↓tx];refine hd2 _ ?_;have:=hq;simp[aH,JN,↓zs,aO,aM,aP];exact this
end
noncomputable def BS.init (v d:Int):BS:=⟨v,d,[],[],0,0,0,0,0,0,0,0,0,0,[],0,0,0,⟨0,0,0,0,0⟩,none⟩
noncomputable def BL.init (m:Nat->Option MO):BL:=⟨4,[],6,m⟩
theorem zC {m:Nat->Option MO}:(BL.init m).Ok []:=⟨.inl rfl,(by decide:4 < 6),rfl,(fun i h=>nomatch h),W1,(by decide:6<=6),W1⟩
noncomputable def MH.reg (mh:MH) (r:Nat) (os:List MO):MH:={ m:=fun k=>if k.1=r/\k.2 < os.length then os[k.2]? else mh.m k,nx:=fun q=>if q=r then os.length else mh.nx q }
section
variable {os:List MO}
variable {Q:V->MH->Prop}{X:XP}{mh mh':MH}{r n:Nat}{b b':BS}{L:BL}{K:Fl->St->Prop}{top:Gl}{t:Tb}{P:BS->Prop}
theorem zD {k:Nat}(hr:r≠0) (hr4:r≠4) (hO:∀ b,P b->SOk t top b) (hP:∀ b n ns b',P b->b.con=n::ns->b.step top t n=.next b'->P b') (hp:P b) (hL:L.Ok b.ins) (ht:mh.m (4,0)=some (.dict t.d))
  (h0:∀ b',BS.run top t k b≠.next b') (hc:∀ c b',BS.run top t k b=.exc c b'->c=88\/c=76)
  (hq:∀ m L',Sc mh m->L'.Ok (BS.run top t k b).b.ins->Q (BS.run top t k b).v (m.bld r (BS.run top t k b).b L')):br [.ref (r,0),top.v,bk] Q X (mh.bld r b L):=by
 have w:∀ (Q:V->MH->Prop),oR [.ref (r,0),top.v,bk] (fun v m=>iG [v] Q X m) (qS 88 76 "page" "box" (cV (ao (af iG [(aa "found")])) (fun fl st=>Q fl.val st.mh) X)) (mh.bld r b L)->br [.ref (r,0),top.v,bk] Q X (mh.bld r b L):=fun Q h=>by
  refine⟨rfl,?_⟩;unfold T911;rw[xC,H3,iI,o7,cI];show d8 _ (.ref (r,0)) _;rw[pG,aH];refine⟨rfl,?_⟩;rw[co];refine(Internal.tl rfl _ _ _ _).mpr ?_;rw[co];refine(Internal.tl rfl _ _ _ _).mpr ?_;rw[cK];exact gd h fun v m=>by simp;rfl
 refine w Q (Ld (k:=k) hr hr4 hO hP hp hL ht h0 (fun c b' h m L' sc hL'=>?_) fun f b' h m L' sc hL'=>?_)
 ·rw[h]at hq;have:=hq m L' sc hL';rcases hc c b' h with rfl|rfl
  ·exact .inl ⟨rfl,this⟩
  ·exact .inr ⟨rfl,this⟩
 ·rw[h]at hq;rw[zs];exact hq m L' sc hL'
noncomputable def tF:TS:=ak (ag .NotIn (ae (aa "node") "kind") (tK (.tup ([2,3,4,5,6,7,9,10,13].map .int)))) tNo tNil
theorem Lq:∀ (ns:List Nd) (st:St),(∀ st',(∀ m,m≠"node"->st'.loc.lookup m=st.loc.lookup m)->st'.mh=st.mh->K .next st')->ck (fun ω=>True) "node" tF (ns.map Nd.v) K X st:=by
 intro ll;induction ll with
|nil=>
  intro st hk;exact⟨trivial,hk st (fun ω ω=>rfl) rfl⟩
|cons n ns IH=>
  intro st hk;exact by
    rw[V1,gj];refine⟨trivial,?_⟩;have key:∀ (K':Fl->St->Prop),K' .next (st.put "node" n.v)->tF K' X (st.put "node" n.v):=fun K' h=>by
     obtain⟨loc,pend,m⟩:=st;have hk:[2,3,4,5,6,7,9,10,13].any (· == n.kind)=true:=by
      induction n with
     |atm a=>induction a<;>rfl
     |kern=>rfl
     |mark=>rfl
     |ins=>rfl
     have hk':∀ {k:Bool->Prop},cW (.int n.kind) (.tup ([2,3,4,5,6,7,9,10,13].map .int)) k=k true:=fun {k}=>by rw[pK,hk]
     unfold tF;rw[j8,lO,o8,cI];have e1:(St.put ⟨loc,pend,m⟩ "node" n.v).loc.lookup "node"=some n.v:=by simp[St.put,ax,aX]
     rw[e1];dsimp only;rw[gk];rw[cQ];rw[iH];dsimp only;rw[hk'];simp[xx,aO,aM,aP];exact h
    refine key _ (IH _ fun st' h1 h2=>hk st' (fun m hm=>?_) h2);rw[h1 m hm];simp[St.put,ax,aX,hm]
theorem zE {ns:List Nd}(hl:b.con.length+ns.length<=10000) (hq:Q .none (mh.bld r { b with con:=b.con++ns } L)):cx [.ref (r,0),.lst (ns.map Nd.v)] Q X (mh.bld r b L):=by
 refine⟨rfl,?_⟩;unfold T763;rw[cP,kc,gN,cI];show d9 _ (.lst (ns.map Nd.v)) _;unfold d9;dsimp only;refine Lq ns _ fun st' h1 h2=>?_
 obtain⟨loc,pend,m⟩:=st';dsimp only at h1 h2;subst h2;have a1:=h1 "self" (by decide);have a2:=h1 "items" (by decide);have b1:loc.lookup "self"=some (.ref (r,0)):=a1;have b2:loc.lookup "items"=some (.lst (ns.map Nd.v)):=a2;have e3:(mh.bld r b L).set (r,1) (.list (b.con.map Nd.v++ns.map Nd.v))=mh.bld r { b with con:=b.con++ns } L:=by
  have:=jz (mh:=mh) (r:=r) (b:=b) (L:=L) (xs:=b.con++ns);rw[V2]at this;exact this
 simp[↓tl b1,↓lr b1,↓tl b2,↓lr b2,aH,em,hl,e3,aO,aM,aP];exact hq
theorem Lr (h:mh.nx r=0):mh=mh.reg r []:=eK (fun l=>by simp[MH.reg]) fun q=>by by_cases hq:q=r<;>simp[MH.reg,hq,h]
theorem Ls {i:Nat}(h:i < os.length):(mh.reg r os).m (r,i)=os[i]?:=by simp[MH.reg,h]
theorem Lu:(mh.reg r os).nx r=os.length:=by simp[MH.reg]
theorem Lv {o:MO}:(mh.reg r os).new r o=mh.reg r (os++[o]):=by
 refine eK (fun l=>?_) fun q=>by by_cases hq:q=r<;>simp[MH.reg,MH.new,hq]
 obtain⟨a,i⟩:=l;by_cases ha:a=r
 ·subst ha;by_cases hi:i=os.length
  ·subst hi;simp[MH.reg,MH.new]
  ·by_cases hl:i < os.length
   ·have:i < os.length+1:=by lia
    simp[MH.reg,MH.new,hi,hl,this]
   ·have:¬ i < os.length+1:=by lia
    simp[MH.reg,MH.new,hi,hl,this]
 ·simp[MH.reg,MH.new,ha]
theorem Ly {o:MO}{i:Nat}(h:i < os.length):(mh.reg r os).set (r,i) o=mh.reg r (os.set i o):=by
 refine eK (fun l=>?_) fun q=>by by_cases hq:q=r<;>simp[MH.reg,MH.set,hq]
 obtain⟨a,j⟩:=l;by_cases ha:a=r
 ·subst ha;by_cases hj:j=i
  ·subst hj;simp[MH.reg,MH.set,h]
  ·simp[MH.reg,MH.set,hj,List.getElem?_set,Ne.symm hj]
 ·simp[MH.reg,MH.set,ha]
theorem Lz (h:r≠0):(mh.reg r os).bump=mh.bump.reg r os:=by
 refine eK (fun l=>?_) fun q=>?_
 ·obtain⟨a,i⟩:=l;by_cases ha:a=r
  ·subst ha;simp[MH.reg,MH.bump,h,Ne.symm h]
  ·simp[MH.reg,MH.bump,ha,Ne.symm h]
 ·by_cases hq:q=r
  ·subst hq;simp[MH.reg,MH.bump,h]
  ·simp[MH.reg,MH.bump,hq,Ne.symm h]
theorem LD {v d:Int}:mh.reg r [.inst 829 (aJ r 4 (BS.init v d)),.list [],.list [],.list [],.arr [.int 0,.int 0,.int 0,.int 0],.dict []]=mh.bld r (BS.init v d) (BL.init fun n=>mh.m (r,n)):=by
 refine eK (fun l=>?_) fun q=>by by_cases hq:q=r<;>simp[MH.reg,MH.bld,BL.init,hq]
 obtain⟨a,i⟩:=l;by_cases ha:a=r
 ·subst ha;rcases i with _|_|_|_|_|_|i
  ·simp[MH.reg,MH.bld,BL.obj,BL.init]
  ·simp[MH.reg,MH.bld,BL.obj,BS.init]
  ·simp[MH.reg,MH.bld,BL.obj]
  ·simp[MH.reg,MH.bld,BL.obj,BS.init]
  ·simp[MH.reg,MH.bld,BL.obj,BL.init,BS.init]
  ·simp[MH.reg,MH.bld,BL.obj,BL.init,BS.init,fh,fj,dI]
  ·have h4:i+1+1+1+1+1+1≠4:=by lia
   have h5:i+1+1+1+1+1+1≠5:=by lia
   have h6:¬ i+1+1+1+1+1+1 < 6:=by lia
   simp[MH.reg,MH.bld,BL.obj,BL.init,BS.init,pO,pP,gW,h4,h5,h6]
 ·simp[MH.reg,MH.bld,ha]
theorem zF {v d:Int}(hr:r≠0) (h0:mh.nx r=0) (hv:aZ v) (hd:aZ d) (hq:Q (.ref (r,0)) (mh.bump.bld r (BS.init v d) (BL.init fun n=>mh.bump.m (r,n)))):jl r [.int v,.int d] Q X mh:=by
 rw[<- LD]at hq;generalize hm:mh=m0 at hq;rw[Lr (mh:=m0) (r:=r) (by rw[<- hm];exact h0)];unfold aJ BS.init cS at hq;simp[jl,rD,T714,rC,T721,jY,T728,↓fg,↓pJ,hv.1,hv.2,hd.1,hd.2,Lu,Lv,Ls,Ly,Lz hr,aO,aM,aP];exact hq
end
theorem p8 {chk:MH->Prop}{f:TgF}{capv:List (String × V)}{Te:TE}{α:Type}{inj:α->V}{Q:List V->St->Prop}{st:St}{I:List α->List V->MH->Prop}
  (hc:∀ us acc m,I us acc m->chk m) (hl:∀ u us acc m,I (u::us) acc m->acc.length<=10000)
  (step:∀ u us acc m,I (u::us) acc m->∀ Q':V->St->Prop,(∀ v st',I us (acc++[v]) st'.mh->Q' v st')->f (inj u) ⟨capv,[],m⟩ fun st1=>Te Q' dt st1)
  (hq:∀ acc m,I [] acc m->Q acc { st with mh:=m }):∀ (us:List α) (acc:List V) (m:MH),I us acc m->fv chk f capv tTrue Te (us.map inj) acc Q { st with mh:=m }:=by
 intro ll;induction ll with
|nil=>
  intro acc m h;exact⟨hc _ _ _ h,hq acc m h⟩
|cons u us IH=>
  intro acc m h;exact⟨hc _ _ _ h,step u us acc m h _ fun v st' h'=>⟨hl u us acc m h,IH (acc++[v]) st'.mh h'⟩⟩
theorem tG {chk:MH->Prop}{f:TgF}{capv:List (String × V)}{Tc:TB}{Te:TE}{α:Type}{inj g:α->V}{p:α->Bool}{Q:List V->St->Prop}{st:St}(hc:chk st.mh):∀ (us:List α) (acc:List V),acc.length+us.length<=10000->
  (∀ u∈us,∀ (K:Bool->St->Prop),(∀ st1,(p u=true->∀ Q':V->St->Prop,(∀ st',st'.mh=st.mh->Q' (g u) st')->Te Q' dt st1)->st1.mh=st.mh->K (p u) st1)->f (inj u) ⟨capv,[],st.mh⟩ fun st1=>Tc K dt st1)->
  Q (acc++(us.filter p).map g) st->fv chk f capv Tc Te (us.map inj) acc Q st:=by
 intro ll;induction ll with
|nil=>
  intro acc _ _ hq;exact⟨hc,by simpa using hq⟩
|cons u us IH=>
  intro acc hl he hq;exact by
    rw[V1];have hl':acc.length+us.length+1<=10000:=by rw[V4]at hl;lia
    refine⟨hc,he u (.head _) _ fun st1 hT hm=>?_⟩;cases hp:p u with
   |true=>
     rw[if_pos rfl];refine hT hp _ fun st' hm'=>⟨by lia,?_⟩
     have e:({ st with mh:=st'.mh }:St)=st:=by rw[hm']
     rw[e];refine IH (acc++[g u]) (by simp;lia) (fun v hv=>he v (.tail _ hv)) ?_;rw[List.filter_cons_of_pos hp,V1]at hq;rw[W4];exact hq
   |false=>
     rw[if_neg U2];have e:({ st with mh:=st1.mh }:St)=st:=by rw[hm]
     rw[e];refine IH acc (by lia) (fun v hv=>he v (.tail _ hv)) ?_;rw[List.filter_cons_of_neg (by rw[hp];exact U2)]at hq;exact hq
noncomputable def JarOk (k:Nat) (mh:MH):Prop:=∃ (cs:List Int) (a:Nat) (s:Int),mh.m (1,0)=some (.arr (cs.map .int))/\mh.m (1,1)=some (.arr [.ref (1,0),.int a,.int s])/\cs.length<=60/\(∀ c∈cs,0<=c)/\a<=k
structure Jr (mh mh':MH):Prop where
 m:∀ l:aT,l.1≠1->(l.1≠0\/l.2 < mh.nx 0)->mh'.m l=mh.m l
 nx:∀ q,q≠0->mh'.nx q=mh.nx q
 le:mh.nx 0<=mh'.nx 0
theorem Jr.refl (m:MH):Jr m m:=⟨fun ω ω ω=>rfl,fun ω ω=>rfl,Y3 _⟩
theorem Jr.trans {a b c:MH}(x:Jr a b) (y:Jr b c):Jr a c:=
 ⟨fun l h1 h=>(y.m l h1 (h.imp id fun z=>Y8 z x.le)).trans (x.m l h1 h),fun r h=>(y.nx r h).trans (x.nx r h),X9 x.le y.le⟩
theorem Sc.jr {a b:MH}(x:Sc a b):Jr a b:=⟨fun l ω h=>x.m l h,x.nx,x.le⟩
theorem JarOk.sc {k:Nat}{a b:MH}(h:JarOk k a) (x:Sc a b):JarOk k b:=by
 obtain⟨cs,at',s,h1,h2,h3⟩:=h;exact⟨cs,at',s,(x.m _ (.inl (by decide))).trans h1,(x.m _ (.inl (by decide))).trans h2,h3⟩
theorem JarOk.up {k j:Nat}{a:MH}(h:JarOk k a) (x:k<=j):JarOk j a:=by
 obtain⟨cs,at',s,h1,h2,h3,h4,h5⟩:=h;exact⟨cs,at',s,h1,h2,h3,h4,X9 h5 x⟩
theorem zG {a b:Int}(h:0 < b):0<=a.fmod b/\a.fmod b < b:=by
 rw[Int.fmod_eq_emod_of_nonneg _ (Int.le_of_lt h)];exact⟨Int.emod_nonneg _ (by exact in1 ‹_› rfl),Int.emod_lt_of_pos _ h⟩
section
variable {l:aT}{x:V}{xs:List V}
variable {Q:V->MH->Prop}{X:XP}{mh mh':MH}{k:Nat}
theorem g8 {l':aT}{o:MO}(h:l'≠l):(mh.set l o).m l'=mh.m l':=by simp[MH.set,h]
theorem tH {i:Nat}{o:MO}:Jr mh (mh.set (1,i) o):=⟨fun l h1 ω=>g8 (fun z=>h1 (by rw[z])),fun ω ω=>rfl,Y3 _⟩
theorem tJ (e:mh.m l=some (.arr (x::xs))) (k:V->Prop):bY mh (.ref l) (.int 0) k=k x:=rZ.trans (by rw[e];exact IB)
theorem tL {y:V}(e:mh.m l=some (.arr (x::y::xs))) (k:V->Prop):bY mh (.ref l) (.int 1) k=k y:=rZ.trans (by rw[e];exact IC)
theorem tM {y z:V}(e:mh.m l=some (.arr (x::y::z::xs))) (k:V->Prop):bY mh (.ref l) (.int 2) k=k z:=rZ.trans (by rw[e];exact ID)
theorem bR {many:Int}(h1:0 < many) (h2:many < 1000000) (hk:k<=100000) (J:JarOk k mh) (hq:∀ i m,0<=i->i < many->JarOk (k+1) m->Jr mh m->Q (.int i) m):aY [.ref (1,1),.int many] Q X mh:=by
 obtain⟨cs,a,s,j1,j2,j3,j4,j5⟩:=J;have m0:many≠0:=by exact in1 ‹_› rfl
 have mn:many.natAbs < 1073741824:=by lia
 have a0:(a:Int) < 1000000:=by lia
 have l0:cs.length<=1000000:=by exact ba ‹_› rfl
 by_cases hlt:a < cs.length
 ·obtain⟨c,hc⟩:∃ c,cs[a]?=some c:=⟨cs[a],W9 hlt⟩;have hc':cs[a]=c:=(W5.mp hc).2;have c0:0<=c:=j4 c (W6 hc);have hlt':(a:Int) < cs.length:=by lia
  have hr:=zG (a:=c) h1;by_cases hb:(10:Int) ^ (18:Int).toNat<=c
  ·have hq':=hq (c.fmod many) (mh.set (1,0) (.arr ((cs.map V.int).set a (.int (c.fdiv many))))) hr.1 hr.2 ⟨cs.set a (c.fdiv many),a,s,by rw[ky,List.map_set],(g8 (by decide)).trans j2,by simpa using j3,fun x hx=>by
     rcases List.mem_or_eq_of_mem_set hx with h|h
     ·exact j4 x h
     ·rw[h,Int.fdiv_eq_ediv_of_nonneg _ (Int.le_of_lt h1)];exact Int.ediv_nonneg c0 (Int.le_of_lt h1),by exact na ‹_›⟩ tH
   simp only[show((18:Int).toNat)=18 from rfl]at hb;simp[aY,T845,lD,↓tJ j2,↓tL j2,↓tM j2,j1,j2,l0,hlt,hc,hc',a0,m0,mn];simp at hb
   try rw[if_pos hb]
   exact hq'
  ·have J':JarOk (k+1) (mh.set (1,1) (.arr [.ref (1,0),.int ((a:Int)+1),.int s])):=⟨cs,a+1,s,(g8 (by decide)).trans j1,by rw[ky];simp,j3,j4,by lia⟩;have hq':=hq (c.fmod many) _ hr.1 hr.2 J' tH;simp only[show((18:Int).toNat)=18 from rfl]at hb;have e10:(mh.set (1,1) (.arr [.ref (1,0),.int ((a:Int)+1),.int s])).m (1,0)=some (.arr (cs.map .int)):=(g8 (by decide)).trans j1;simp at hb;simp[aY,T845,lD,↓tJ j2,↓tL j2,↓tM j2,j1,j2,l0,hlt,hc,hc',a0,m0,mn,hb,e10]
   try rw[if_neg (by lia)]
   exact hq'
 ·have hr:=zG (a:=(s+a * (5 * a+7)).fmod 1009) h1;have J':JarOk (k+1) (mh.set (1,1) (.arr [.ref (1,0),.int ((a:Int)+1),.int s])):=⟨cs,a+1,s,(g8 (by decide)).trans j1,by rw[ky];simp,j3,j4,by lia⟩;have hq':=hq _ _ hr.1 hr.2 J' tH;have e10:(mh.set (1,1) (.arr [.ref (1,0),.int ((a:Int)+1),.int s])).m (1,0)=some (.arr (cs.map .int)):=(g8 (by decide)).trans j1;have hm:IntMulOk (a:Int) (5 * (a:Int)+7):=mi (by lia) (by exact AT ‹_› rfl);simp[aY,T845,lD,↓tJ j2,↓tL j2,↓tM j2,j1,j2,l0,hlt,m0,e10,ky,hm,I9,aO,aM,aP];exact hq'
end
noncomputable def At.it:At->V
|.box l h d=>.tup [.str "b",.int l,.int h,.int d]
|.skip g _=>.tup [.str "g",.int g.w,.int g.s,.int g.o,.int g.sh]
|.pen v=>.tup [.str "p",.int v]
theorem g9 {l h d:Int}:(At.box l h d).it=.tup [.str "b",.int l,.int h,.int d]:=rfl
theorem hA {g:Gl}{s:Int}:(At.skip g s).it=.tup [.str "g",.int g.w,.int g.s,.int g.o,.int g.sh]:=rfl
theorem hJ {v:Int}:(At.pen v).it=.tup [.str "p",.int v]:=rfl
noncomputable def Nd.it:Nd->V
|.atm a=>a.it
|.kern w=>.tup [.str "k",.int w]
|.mark t=>.tup [.str "m",.tup [.tup [.int 11,.int t]]]
|.ins num size _ tw cost ps=>.tup [.str "i",.int num,.int size,.int cost,.tup (ps.map At.it),.int tw]
theorem hM {a:At}:(Nd.atm a).it=a.it:=rfl
theorem hV {w:Int}:(Nd.kern w).it=.tup [.str "k",.int w]:=rfl
theorem hY {t:Int}:(Nd.mark t).it=.tup [.str "m",.tup [.tup [.int 11,.int t]]]:=rfl
theorem hZ {num size d tw cost:Int}{ps:List At}:(Nd.ins num size d tw cost ps).it=.tup [.str "i",.int num,.int size,.int cost,.tup (ps.map At.it),.int tw]:=rfl
noncomputable def eN:At->Prop
|.box l h d=>-1000000<=l/\l<=1000000/\0<=h/\h<=20000/\0<=d/\d<=10000
|.skip g s=>s=0/\g.so=0/\(g.s=0->g.o=0)/\0<=g.w/\g.w<=10000/\0<=g.s/\g.s<=10000/\0<=g.sh/\g.sh<=10000/\(g.o=0\/g.o=1\/g.o=2\/g.o=3)
|.pen v=>-20000<=v/\v<=20000
noncomputable def b6:Nd->Prop
|.atm a=>eN a
|.kern w=>0<=w/\w<=10000
|.mark _=>True
|.ins num size _ tw cost ps=>(num=1\/num=2)/\0<=size/\size<=200000/\0<=tw/\tw<=10000/\0<=cost/\cost<=10000/\(∀ a∈ps,eN a)/\ps.length<=10
section
variable {Q:V->MH->Prop}{X:XP}{mh mh':MH}{k:Nat}
theorem p9 (hk:k<=90000) (J:JarOk k mh) (hq:∀ g m,eN (.skip g 0)->JarOk (k+5) m->Jr mh m->Q (At.it (.skip g 0)) m):fF [.ref (1,1)] Q X mh:=by
 simp[fF,T852,bG];refine bR (many:=5) (k:=k) (by decide) (by decide) (by exact ba ‹_› rfl) J fun a m1 a0 a1 J1 r1=>?_
 simp[bG,gU,gf];refine bR (many:=4) (k:=k+1) (by decide) (by decide) (by exact dm ‹_› rfl) J1 fun b m2 b0 b1 J2 r2=>?_
 simp[bG,gU,gf];refine bR (many:=3) (k:=k+2) (by decide) (by decide) (by exact dm ‹_› rfl) J2 fun c m3 c0 c1 J3 r3=>?_
 simp[bG,gU,gf];have A1:0<=1000 * a:=by exact im ‹_›
 have A2:1000 * a<=10000:=by exact ig ‹_› rfl
 have A3:0<=1000 * b:=by exact im ‹_›
 have A4:1000 * b<=10000:=by exact ig ‹_› rfl
 have A5:0<=1000 * c:=by exact im ‹_›
 have A6:1000 * c<=10000:=by exact ig ‹_› rfl
 by_cases hb:0 < 1000 * b
 ·simp[hb,bG];refine bR (many:=6) (k:=k+3) (by decide) (by decide) (by exact dm ‹_› rfl) J3 fun d m4 d0 d1 J4 r4=>?_
  by_cases hd:d=5
  ·subst hd;simp[bG,gU,gf];refine bR (many:=3) (k:=k+4) (by decide) (by decide) (by exact dm ‹_› rfl) J4 fun o m5 o0 o1 J5 r5=>?_
   simp[bG,gU,gf];refine hq ⟨1000 * a,1000 * b,1+o,1000 * c,0⟩ m5 ⟨rfl,rfl,?_,?_⟩ J5 (r1.trans (r2.trans (r3.trans (r4.trans r5))))
   ·exact fun h=>absurd h (Int.ne_of_gt hb)
   ·exact⟨A1,A2,A3,A4,A5,A6,A7 (by lia) (by lia)⟩
  ·simp[hd,bG,aO,aM,aP];exact hq ⟨1000 * a,1000 * b,0,1000 * c,0⟩ m4 ⟨rfl,rfl,fun ω=>rfl,A1,A2,A3,A4,A5,A6,.inl rfl⟩ (J4.up (by exact ie rfl)) (r1.trans (r2.trans (r3.trans r4)))
 ·simp[hb,bG,aO,aM,aP];exact hq ⟨1000 * a,1000 * b,0,1000 * c,0⟩ m3 ⟨rfl,rfl,fun ω=>rfl,A1,A2,A3,A4,A5,A6,.inl rfl⟩ (J3.up (by exact ie rfl)) (r1.trans (r2.trans r3))
theorem tN {l:Int}(hl:-1000000<=l/\l<=1000000) (hk:k<=90000) (J:JarOk k mh) (hq:∀ h d m,eN (.box l h d)->JarOk (k+3) m->Jr mh m->Q (At.it (.box l h d)) m):gK [.ref (1,1),.int l] Q X mh:=by
 simp[gK,T859,bG,gU];refine bR (many:=12) (k:=k) (by decide) (by decide) (by exact ba ‹_› rfl) J fun a m1 a0 a1 J1 r1=>?_
 simp[bG,gU,gf];refine bR (many:=3) (k:=k+1) (by decide) (by decide) (by exact dm ‹_› rfl) J1 fun b m2 b0 b1 J2 r2=>?_
 simp[bG,gU,gf];refine bR (many:=4) (k:=k+2) (by decide) (by decide) (by exact dm ‹_› rfl) J2 fun c m3 c0 c1 J3 r3=>?_
 simp[bG,gU,gf,aO,aM,aP];exact hq (1000 * (1+a)+250 * b) (1000 * c) m3 ⟨hl.1,hl.2,by lia,by lia,by exact im ‹_›,by exact ig ‹_› rfl⟩ J3 (r1.trans (r2.trans r3))
end
noncomputable def gp (ps:List At):Int:=(ps.map At.nat).sum
theorem LF:∀ ps:List At,(∀ a∈ps,eN a)->0<=gp ps/\gp ps<=30000 * ps.length:=by
 intro ll;induction ll with
|nil=>
  intro _;exact by simp[gp]
|cons a ps IH=>
  intro h;exact by
    have ih:=IH fun b hb=>h b (.tail _ hb)
    have ha:=h a (.head _);have:0<=a.nat/\a.nat<=30000:=by
     induction a with
    |box l h' d=>have a1:=ha.2.2.1;have a2:=ha.2.2.2.1;have a3:=ha.2.2.2.2.1;have a4:=ha.2.2.2.2.2;clear ha;simp only[pV];lia
    |skip g s=>have a1:=ha.2.2.2.1;have a2:=ha.2.2.2.2.1;clear ha;simp only[te];lia
    |pen v=>simp only[tf];lia
    refine⟨Z8 this.1 ih.1,?_⟩;show a.nat+gp ps<=30000 * ((ps.length:Int)+1);rw[Int.mul_add,Int.add_comm];exact Int.add_le_add ih.2 this.2
noncomputable def mN:TS:=(ab (ak (ag .Eq (au (aa "item") (tK (.int 0))) (tK (.str "b"))) (ci "found" (fun i j=>i+j) (aq (fun ω ω=>True) (fun i j=>i+j) (au (aa "item") (tK (.int 2))) (au (aa "item") (tK (.int 3))))) tNil)
  (ak (aV (ag .Eq (au (aa "item") (tK (.int 0))) (tK (.str "g"))) (ag .Eq (au (aa "item") (tK (.int 0))) (tK (.str "k")))) (ci "found" (fun i j=>i+j) (au (aa "item") (tK (.int 1)))) tNil))
section
variable {ps:List At}{mh0:MH}
variable {Q:V->MH->Prop}{X:XP}{mh mh':MH}{k:Nat}
theorem LG {chk:MH->Prop}{K:Fl->St->Prop}:∀ (ps:List At) (f:Int) (st:St),chk st.mh->st.loc.lookup "found"=some (.int f)->(∀ st',st'.loc.lookup "found"=some (.int (f+gp ps))->st'.mh=st.mh->K .next st')->
  ck chk "item" mN (ps.map At.it) K X st:=by
 intro ll;induction ll with
|nil=>
  intro f st hc h hk;exact⟨hc,hk st (by rw[h];simp[gp]) rfl⟩
|cons a ps IH=>
  intro f st hc h hk;exact by
    rw[V1,gj];refine⟨hc,?_⟩;obtain⟨loc,pend,mh0⟩:=st;dsimp only at h hk hc;have key:∀ (K':Fl->St->Prop),(∀ loc',loc'.lookup "found"=some (.int (f+a.nat))->K' .next ⟨loc',pend,mh0⟩)->mN K' X ⟨aj "item" a.it loc,pend,mh0⟩:=fun K' hk'=>by
     induction a with
    |box l h' d=>
      have:=hk' (aj "found" (.int (f+(h'+d))) (aj "item" (At.box l h' d).it loc)) (by simp[ax,aX,pV]);simp[mN,g9,hA,hJ,ax,aX,h,aO,aM,aP];exact this
    |skip g s=>
      have:=hk' (aj "found" (.int (f+g.w)) (aj "item" (At.skip g s).it loc)) (by simp[ax,aX,te]);simp[mN,g9,hA,hJ,ax,aX,h,aO,aM,aP];exact this
    |pen v=>
      have:=hk' (aj "item" (At.pen v).it loc) (by simp[ax,aX,tf,h]);simp[mN,g9,hA,hJ,ax,aX,h,aO,aM,aP];exact this
    refine key _ fun loc' hl=>?_
    refine IH (f+a.nat) ⟨loc',pend,mh0⟩ hc hl fun st' h1 h2=>hk st' ?_ h2
    rw[h1];simp[gp,Int.add_assoc]
theorem LH {l:aT}(hm:mh.m l=some (.list (ps.map At.it))) (hq:Q (.int (gp ps)) mh):oW [.ref l] Q X mh:=by
 refine⟨rfl,?_⟩;unfold T866;rw[cP,iI,cQ];dsimp only;rw[cP,kc,gN,cI];show d9 mh (.ref l) _;unfold d9;dsimp only;rw[hm];refine LG (X:=X) ps 0 _ hm rfl fun st' h1 h2=>?_
 obtain⟨loc,pend,m⟩:=st';dsimp only at h1 h2;subst h2;rw[Int.zero_add]at h1;simp[h1,aO,aM,aP];exact hq
structure PartOk (mh0:MH) (k:Nat) (ps:List At) (m:MH):Prop where
 j:JarOk k m
 l:m.m (0,mh0.nx 0)=some (.list (ps.map At.it))
 r:Jr mh0 m
 a:∀ a∈ps,eN a
 nx:mh0.nx 0 < m.nx 0
theorem PartOk.jr {m m':MH}{k':Nat}(h:PartOk mh0 k ps m) (j:JarOk k' m') (r:Jr m m'):PartOk mh0 k' ps m':=
 ⟨j,(r.m _ (by simp) (.inr h.nx)).trans h.l,h.r.trans r,h.a,Y8 h.nx r.le⟩
theorem PartOk.app {m:MH}{a:At}(h:PartOk mh0 k ps m) (ha:eN a):PartOk mh0 k (ps++[a]) (m.set (0,mh0.nx 0) (.list (ps.map At.it++[a.it]))):=by
 refine⟨?_,by rw[ky,V2];rfl,⟨fun l h1 h2=>?_,fun q hq=>h.r.nx q hq,h.r.le⟩,fun b hb=>?_,h.nx⟩
 ·obtain⟨cs,a',s,j1,j2,j3⟩:=h.j;exact⟨cs,a',s,(g8 (by simp)).trans j1,(g8 (by simp)).trans j2,j3⟩
 ·rw[g8 (by rintro rfl;rcases h2 with h2|h2<;>simp at h2)];exact h.r.m l h1 h2
 ·rcases U5.mp hb with hb|hb
  ·exact h.a b hb
  ·obtain rfl:=U6.mp hb;exact ha
noncomputable def qc:TS:=(ab (aE (cj "list" (aa "parts") bAppend [(bM (ag .Eq (af aY [(aa "jar"),(tK (.int 3))]) (tK (.int 1))) (aD [(tK (.str "p")),(au (bB [(tK (.int 0)),(tK (.int 60)),(cD (tK (.int 10000))),(tK (.int 10000))]) (af aY [(aa "jar"),(tK (.int 4))]))]) (af fF [(aa "jar")]))]))
  (aE (cj "list" (aa "parts") bAppend [(af gK [(aa "jar"),(aq (fun ω ω=>True) (fun i j=>i+j) (aq (fun ω ω=>True) (fun i j=>i+j) (aq IntMulOk (fun i j=>i * j) (tK (.int 100)) (aa "label")) (tK (.int 1))) (aa "more"))])])))
theorem LJ {label:Int}{K:Fl->St->Prop}(hlab:0<=label/\label<=1000):∀ (is:List Nat) (k:Nat) (ps:List At) (st:St),(∀ i∈is,i<=10)->k+10 * is.length<=80000->ps.length+2 * is.length<=10->PartOk mh0 k ps st.mh->
  st.loc.lookup "jar"=some (.ref (1,1))->st.loc.lookup "label"=some (.int label)->st.loc.lookup "parts"=some (.ref (0,mh0.nx 0))->
  (∀ k' ps' st',k'<=k+10 * is.length->ps'.length<=ps.length+2 * is.length->PartOk mh0 k' ps' st'.mh->st'.loc.lookup "jar"=some (.ref (1,1))->st'.loc.lookup "parts"=some (.ref (0,mh0.nx 0))->K .next st')->
  ck (fun ω=>True) "more" qc (is.map fun i:Nat=>V.int i) K X st:=by
 intro ll;induction ll with
|nil=>
  intro k ps st hi hk hp P l1 l2 l3 hK;exact⟨trivial,hK k ps st (by simp) (by simp) P l1 l3⟩
|cons i is IH=>
  intro k ps st hi hk hp P l1 l2 l3 hK;exact by
    rw[V1,gj];refine⟨trivial,?_⟩;obtain⟨loc,pend,m⟩:=st;dsimp only at P l1 l2 l3;simp only[V4]at hk hp hK;have hi0:=hi i (.head _);have hpl:(ps.map At.it).length<=10000:=by rw[V0];lia
    have second:∀ (K':Fl->St->Prop) (k1:Nat) (ps1:List At) (m1:MH),k1<=k+6->ps1.length=ps.length+1->PartOk mh0 k1 ps1 m1->(∀ k2 ps2 m2,k2<=k+10->ps2.length=ps.length+2->PartOk mh0 k2 ps2 m2->K' .next ⟨aj "more" (.int i) loc,pend,m2⟩)->
      aE (cj "list" (aa "parts") bAppend [(af gK [(aa "jar"),(aq (fun ω ω=>True) (fun i j=>i+j) (aq (fun ω ω=>True) (fun i j=>i+j) (aq IntMulOk (fun i j=>i * j) (tK (.int 100)) (aa "label")) (tK (.int 1))) (aa "more"))])]) K' X ⟨aj "more" (.int i) loc,pend,m1⟩:=fun K' k1 ps1 m1 a1 a2 P1 h=>by
     simp[ax,aX,↓tl l1,↓lr l1,↓tl l2,↓lr l2,↓tl l3,↓lr l3,P1.l,gf];refine tN (k:=k1) ⟨by lia,by lia⟩ (by lia) P1.j fun h' d m2 ha J2 r2=>?_
     have P2:=(P1.jr J2 r2);have hpl1:ps1.length<=10000:=by lia
     have:=h (k1+3) (ps1++[.box (100 * label+1+i) h' d]) _ (by lia) (by simp;(first|assumption|lia)) (P2.app ha);simp[ax,aX,↓tl l1,↓lr l1,↓tl l2,↓lr l2,↓tl l3,↓lr l3,P2.l,hpl1,aO,aM,aP];exact this
    have first:∀ (K':Fl->St->Prop),(∀ k1 ps1 m1,k1<=k+6->ps1.length=ps.length+1->PartOk mh0 k1 ps1 m1->K' .next ⟨aj "more" (.int i) loc,pend,m1⟩)->
      aE (cj "list" (aa "parts") bAppend [(bM (ag .Eq (af aY [(aa "jar"),(tK (.int 3))]) (tK (.int 1))) (aD [(tK (.str "p")),(au (bB [(tK (.int 0)),(tK (.int 60)),(cD (tK (.int 10000))),(tK (.int 10000))]) (af aY [(aa "jar"),(tK (.int 4))]))]) (af fF [(aa "jar")]))]) K' X ⟨aj "more" (.int i) loc,pend,m⟩:=fun K' h=>by
     simp[ax,aX,↓tl l1,↓lr l1,↓tl l3,↓lr l3,P.l];refine bR (many:=3) (k:=k) (by decide) (by decide) (by lia) P.j fun a m1 a0 a1 J1 r1=>?_
     have P1:=P.jr J1 r1;have hpl1:ps.length<=10000:=by lia
     by_cases ha:a=1
     ·subst ha;simp[ax,aX,↓tl l1,↓lr l1,↓tl l2,↓lr l2,↓tl l3,↓lr l3];refine bR (many:=4) (k:=k+1) (by decide) (by decide) (by lia) J1 fun c m2 c0 c1 J2 r2=>?_
      have P2:=P1.jr J2 r2;have hc:c=0\/c=1\/c=2\/c=3:=by lia
      rcases hc with rfl|rfl|rfl|rfl
      ·have:=h (k+2) (ps++[.pen 0]) _ (by exact k8 rfl) (by simp) (P2.app (a:=.pen 0) ⟨by decide,by decide⟩);simp[ax,aX,↓tl l1,↓lr l1,↓tl l2,↓lr l2,↓tl l3,↓lr l3,P2.l,hpl1];exact this
      ·have:=h (k+2) (ps++[.pen 60]) _ (by exact k8 rfl) (by simp) (P2.app (a:=.pen 60) ⟨by decide,by decide⟩);simp[ax,aX,↓tl l1,↓lr l1,↓tl l2,↓lr l2,↓tl l3,↓lr l3,P2.l,hpl1];exact this
      ·have:=h (k+2) (ps++[.pen (-10000)]) _ (by exact k8 rfl) (by simp) (P2.app (a:=.pen (-10000)) ⟨by decide,by decide⟩);simp[ax,aX,↓tl l1,↓lr l1,↓tl l2,↓lr l2,↓tl l3,↓lr l3,P2.l,hpl1];exact this
      ·have:=h (k+2) (ps++[.pen 10000]) _ (by exact k8 rfl) (by simp) (P2.app (a:=.pen 10000) ⟨by decide,by decide⟩);simp[ax,aX,↓tl l1,↓lr l1,↓tl l2,↓lr l2,↓tl l3,↓lr l3,P2.l,hpl1];exact this
     ·simp[ax,aX,↓tl l1,↓lr l1,↓tl l2,↓lr l2,↓tl l3,↓lr l3,ha];refine p9 (k:=k+1) (by lia) J1 fun g m2 hg J2 r2=>?_
      have P2:=P1.jr J2 r2;have:=h (k+1+5) (ps++[.skip g 0]) _ (by exact ie rfl) (by simp) (P2.app hg);simp[ax,aX,↓tl l1,↓lr l1,↓tl l2,↓lr l2,↓tl l3,↓lr l3,P2.l,hpl1,aO,aM,aP];exact this
    show qc _ X ⟨aj "more" (.int i) loc,pend,m⟩;unfold qc;rw[cP];refine first _ fun k1 ps1 m1 a1 a2 P1=>?_
    refine second _ k1 ps1 m1 a1 a2 P1 fun k2 ps2 m2 c1 c2 P2=>?_
    refine IH k2 ps2 _ (fun j hj=>hi j (.tail _ hj)) (by lia) (by lia) P2 (by (repeat first|exact ax|exact l1|refine az rfl ?_)) (by (repeat first|exact ax|exact l2|refine az rfl ?_)) (by (repeat first|exact ax|exact l3|refine az rfl ?_)) fun k' ps' st' d1 d2=>hK k' ps' st' (by lia) (by lia)
end
section
variable {Q:V->MH->Prop}{X:XP}{mh mh':MH}{k:Nat}
theorem LK {l:Int}(hlab:0<=l/\l<=1000) (hk:k<=50000) (J:JarOk k mh) (hq:∀ n m,b6 n->JarOk (k+40) m->Jr mh m->Q n.it m):rI [.ref (1,1),.int l] Q X mh:=by
 have fin:∀ (mh0:MH) (k1:Nat) (ps:List At) (st:St),Jr mh mh0->k1<=k+25->ps.length<=5->PartOk mh0 k1 ps st.mh->st.loc.lookup "jar"=some (.ref (1,1))->st.loc.lookup "parts"=some (.ref (0,mh0.nx 0))->
   (ao (aD [(tK (.str "i")),(aq (fun ω ω=>True) (fun i j=>i+j) (tK (.int 1)) (af aY [(aa "jar"),(tK (.int 2))])),(af oW [(aa "parts")]),(au (bB [(tK (.int 0)),(tK (.int 100)),(tK (.int 9000))]) (af aY [(aa "jar"),(tK (.int 3))])),(af bTupleL [(aa "parts")]),(aq IntMulOk (fun i j=>i * j) (tK (.int 1000)) (af aY [(aa "jar"),(tK (.int 6))]))])) (fun fl st=>Q fl.val st.mh) X st:=by
  rintro mh0 k1 ps ⟨loc,pend,m⟩ r0 a1 a2 P l1 l2;dsimp only at P l1 l2;simp[l1,l2];refine bR (many:=2) (k:=k1) (by decide) (by decide) (by lia) P.j fun a m1 a0 a1 J1 r1=>?_
  have P1:=P.jr J1 r1;simp[l1,l2];refine LH P1.l ?_;simp[l1,l2];refine bR (many:=3) (k:=k1+1) (by decide) (by decide) (by lia) J1 fun c m2 c0 c1 J2 r2=>?_
  have P2:=P1.jr J2 r2;have hpl:ps.length<=10000:=by exact ba ‹_› rfl
  have hs:=LF ps P.a;have endL:∀ (z d:Int) (m3:MH),0<=z->z<=10000->0<=d->d < 6->JarOk (k1+2+1) m3->Jr m2 m3->Q (Nd.ins (1+a) (gp ps) 0 (1000 * d) z ps).it m3:=fun z d m3 z0 z1 d0 d1 J3 r3=>by
   have P3:=P2.jr J3 r3;exact hq (.ins (1+a) (gp ps) 0 (1000 * d) z ps) m3 ⟨by lia,hs.1,by lia,by exact im ‹_›,by exact ig ‹_› rfl,z0,z1,P.a,by lia⟩ (P3.j.up (by lia)) (r0.trans P3.r)
  have hc:c=0\/c=1\/c=2:=by lia
  rcases hc with rfl|rfl|rfl
  ·simp[l1,l2,P2.l,hpl,bG];refine bR (many:=6) (k:=k1+2) (by decide) (by decide) (by lia) J2 fun d m3 d0 d1 J3 r3=>?_
   simp[l1,l2,bG];exact endL 0 d m3 (by decide) (by decide) d0 d1 J3 r3
  ·simp[l1,l2,P2.l,hpl,bG];refine bR (many:=6) (k:=k1+2) (by decide) (by decide) (by lia) J2 fun d m3 d0 d1 J3 r3=>?_
   simp[l1,l2,bG];exact endL 100 d m3 (by decide) (by decide) d0 d1 J3 r3
  ·simp[l1,l2,P2.l,hpl,bG];refine bR (many:=6) (k:=k1+2) (by decide) (by decide) (by lia) J2 fun d m3 d0 d1 J3 r3=>?_
   simp[l1,l2,bG];exact endL 9000 d m3 (by decide) (by decide) d0 d1 J3 r3
 have pre:∀ (Tb U:TS) (K:Fl->St->Prop),(∀ m1 h d n m2,Jr mh m1->PartOk m1 (k+4) [.box (100 * l) h d] m2->0<=n->n < 3->ck (fun ω=>True) "more" Tb (jN n) (cV U K X) X ⟨[("jar",.ref (1,1)),("label",.int l),("parts",.ref (0,m1.nx 0))],[],m2⟩)->
   (ab (aw "parts" (fq (fun ω=>0) .list [(af gK [(aa "jar"),(aq IntMulOk (fun i j=>i * j) (tK (.int 100)) (aa "label"))])])) (ab (cG "more" (ey [(af aY [(aa "jar"),(tK (.int 3))])]) Tb) U)) K X ⟨[("jar",.ref (1,1)),("label",.int l)],[],mh⟩:=fun Tb U K hK=>by
  simp[gf];refine tN (k:=k) ⟨by lia,by lia⟩ (by exact ba ‹_› rfl) J fun h d m1 ha J1 r1=>?_
  have P0:PartOk m1 (k+3) [.box (100 * l) h d] (m1.new 0 (.list [(At.box (100 * l) h d).it])):=by
   refine⟨?_,by rw[dH];rfl,⟨fun l h1 h2=>?_,fun q hq=>by simp[MH.new,hq],by simp[MH.new]⟩,fun b hb=>?_,by simp[MH.new]⟩
   ·obtain⟨cs,a',s,j1,j2,j3⟩:=J1;exact⟨cs,a',s,by simpa[MH.new]using j1,by simpa[MH.new]using j2,j3⟩
   ·have:l≠(0,m1.nx 0):=by rintro rfl;rcases h2 with h2|h2<;>simp at h2
    simp[MH.new,this]
   ·obtain rfl:=U6.mp hb;exact ha
  simp;refine bR (many:=3) (k:=k+3) (by decide) (by decide) (by exact dm ‹_› rfl) P0.j fun n m2 n0 n1 J2 r2=>?_
  have n2:n<=1000000:=by exact AU ‹_› rfl
  have:=hK m1 h d n m2 r1 (P0.jr J2 r2) n0 n1;simp[n0,n2,aO,aM,aP];exact this
 refine⟨rfl,pre qc _ _ fun m1 h d n m2 r1 P1 n0 n1=>?_⟩;have hn:(List.range n.toNat).length<=2:=by rw[X6];lia
 refine LJ (X:=X) (mh0:=m1) (label:=l) hlab (List.range n.toNat) (k+4) [.box (100 * l) h d] _ (fun i hi=>by have:=X7.mp hi;lia) (by lia) (by simp;lia) P1 rfl rfl rfl fun k' ps' st' a1 a2 P' b1 b2=>?_
 exact fin m1 k' ps' st' r1 (by lia) (by simp at a2;lia) P' b1 b2
theorem LM {a:Int}(h:0<=a) (h1:a < 8):a=0\/a=1\/a=2\/a=3\/a=4\/a=5\/a=6\/a=7:=by
 obtain⟨n,rfl⟩:=Int.eq_ofNat_of_zero_le h;exact(by decide:∀ n:Nat,n < 8->((n:Int)=0\/(n:Int)=1\/(n:Int)=2\/(n:Int)=3\/(n:Int)=4\/(n:Int)=5\/(n:Int)=6\/(n:Int)=7)) n (Int.ofNat_lt.mp h1)
theorem LN {l:Int}(hlab:0<=l/\l<=1000) (hk:k<=40000) (J:JarOk k mh) (hq:∀ n m,b6 n->JarOk (k+50) m->Jr mh m->Q n.it m):oX [.ref (1,1),.int l] Q X mh:=by
 have pre:∀ (U:TS) (K:Fl->St->Prop),(∀ s m,0<=s->s < 14->JarOk (k+1) m->Jr mh m->U K X ⟨[("jar",.ref (1,1)),("label",.int l),("sort",.int s)],[],m⟩)->
   (ab (aw "sort" (af aY [(aa "jar"),(tK (.int 14))])) U) K X ⟨[("jar",.ref (1,1)),("label",.int l)],[],mh⟩:=fun U K h=>by
  simp[aM];exact bR (many:=14) (k:=k) (by decide) (by decide) (by exact ba ‹_› rfl) J fun s m s0 s1 J1 r1=>h s m s0 s1 J1 r1
 refine⟨rfl,pre _ _ fun s m s0 s1 J1 r1=>?_⟩;by_cases h5:s < 5
 ·have:=tN (X:=X) (Q:=Q) (k:=k+1) (l:=l) ⟨by exact dn (And.left ‹_›),by exact bS (And.right ‹_›) rfl⟩ (by exact dm ‹_› rfl) J1 fun h d m2 ha J2 r2=>hq (.atm (.box l h d)) m2 ha (J2.up (by exact ie rfl)) (r1.trans r2)
  simp[h5];exact gd this fun ω ω=>by simp
 by_cases h7:s < 7
 ·have:=p9 (X:=X) (Q:=Q) (k:=k+1) (by exact dm ‹_› rfl) J1 fun g m2 ha J2 r2=>hq (.atm (.skip g 0)) m2 ha (J2.up (by exact ie rfl)) (r1.trans r2)
  simp[h5,h7];exact gd this fun ω ω=>by simp
 by_cases h9:s < 9
 ·simp[h5,h7,h9];refine bR (many:=8) (k:=k+1) (by decide) (by decide) (by exact dm ‹_› rfl) J1 fun a m2 a0 a1 J2 r2=>?_
  have ha:a=0\/a=1\/a=2\/a=3\/a=4\/a=5\/a=6\/a=7:=LM a0 a1;have endL:∀ z:Int,-20000<=z->z<=20000->Q (Nd.atm (.pen z)).it m2:=fun z z0 z1=>hq (.atm (.pen z)) m2 ⟨z0,z1⟩ (J2.up (by exact ie rfl)) (r1.trans r2)
  rcases ha with rfl|rfl|rfl|rfl|rfl|rfl|rfl|rfl
  ·simp;exact endL (0) (by decide) (by decide)
  ·simp;exact endL (50) (by decide) (by decide)
  ·simp;exact endL (-50) (by decide) (by decide)
  ·simp;exact endL (10000) (by decide) (by decide)
  ·simp;exact endL (-10000) (by decide) (by decide)
  ·simp;exact endL (9999) (by decide) (by decide)
  ·simp;exact endL (300) (by decide) (by decide)
  ·simp;exact endL (-700) (by decide) (by decide)
 by_cases h9':s=9
 ·subst h9';simp[bG];refine bR (many:=5) (k:=k+1) (by decide) (by decide) (by exact dm ‹_› rfl) J1 fun a m2 a0 a1 J2 r2=>?_
  simp[bG,aO,aM,aP];exact hq (.kern (1000 * a)) m2 ⟨by exact im ‹_›,by exact ig ‹_› rfl⟩ (J2.up (by exact ie rfl)) (r1.trans r2)
 by_cases h10:s=10
 ·subst h10;have:=hq (.mark (65+l)) m trivial (J1.up (by exact k8 rfl)) r1;simp;exact this
 ·have:=LK (X:=X) (Q:=Q) (k:=k+1) (l:=l) hlab (by exact dm ‹_› rfl) J1 fun n m2 hn J2 r2=>hq n m2 hn (J2.up (by exact ie rfl)) (r1.trans r2)
  simp[h5,h7,h9,h9',h10];exact gd this fun ω ω=>by simp
end
noncomputable def Nd.deepen (d:Int):Nd->Nd
|.ins num size _ tw cost ps=>.ins num size d tw cost ps
|n=>n
noncomputable def dk (f m:Int) (g:Gl) (h:Int):V:=.tup [.int f,.int m,At.it (.skip g 0),.int h]
noncomputable def dX (f m:Int) (g:Gl) (h:Int):Prop:=(f=1000\/f=500\/f=0)/\4000<=m/\m<=30000/\eN (.skip g 0)/\(h=0\/h=3000)
theorem LO {g:Gl}(h:eN (.skip g 0)):cy g.w g.s g.o g.sh 0=g:=by
 have h1:=h.2.1;have h2:=h.2.2.1;clear h;obtain⟨w,s,o,sh,so⟩:=g;dsimp only at h1 h2;subst h1;unfold cy;by_cases hs:s=0
 ·simp[hs,h2 hs]
 ·simp[hs]
section
variable {Q:V->MH->Prop}{X:XP}{mh mh':MH}{k:Nat}
theorem zH (hk:k<=50000) (J:JarOk k mh) (hq:∀ f m g h m',dX f m g h->JarOk (k+10) m'->Jr mh m'->Q (dk f m g h) m'):j7 [.ref (1,1)] Q X mh:=by
 have endL:∀ (f n:Int) (m1:MH),(f=1000\/f=500\/f=0)->0<=n->n < 20->JarOk (k+2) m1->Jr mh m1->(ao (aD [(aa "share"),(aa "most"),(af fF [(aa "jar")]),(aq IntMulOk (fun i j=>i * j) (tK (.int 1000)) (au (bB [(tK (.int 0)),(tK (.int 0)),(tK (.int 3))]) (af aY [(aa "jar"),(tK (.int 3))])))]))
   (fun fl st=>Q fl.val st.mh) X ⟨[("jar",.ref (1,1)),("most",.int (1000 * (4+n))),("share",.int f)],[],m1⟩:=fun f n m1 hf n0 n1 J1 r1=>by
  simp -implicitDefEqProofs;refine p9 (k:=k+2) (by exact dm ‹_› rfl) J1 fun g m2 hg J2 r2=>?_
  simp -implicitDefEqProofs;refine bR (many:=3) (k:=k+2+5) (by decide) (by decide) (by lia) J2 fun c m3 c0 c1 J3 r3=>?_
  have fin:∀ h:Int,(h=0\/h=3000)->Q (dk f (1000 * (4+n)) g h) m3:=fun h hh=>hq f (1000 * (4+n)) g h m3 ⟨hf,by lia,by lia,hg,hh⟩ (J3.up (by lia)) (r1.trans (r2.trans r3))
  have hc:c=0\/c=1\/c=2:=by lia
  rcases hc with rfl|rfl|rfl
  ·simp -implicitDefEqProofs [bG];exact fin 0 (.inl rfl)
  ·simp -implicitDefEqProofs [bG];exact fin 0 (.inl rfl)
  ·simp -implicitDefEqProofs [bG];exact fin 3000 (.inr rfl)
 have pre:∀ (U:TS) (K:Fl->St->Prop),(∀ (f n:Int) (m1:MH),(f=1000\/f=500\/f=0)->0<=n->n < 20->JarOk (k+2) m1->Jr mh m1->U K X ⟨[("jar",.ref (1,1)),("most",.int (1000 * (4+n))),("share",.int f)],[],m1⟩)->
   (ab (bt [an "most",an "share"] (aD [(au (bB [(tK (.int 1000)),(tK (.int 500)),(tK (.int 1000)),(tK (.int 0))]) (af aY [(aa "jar"),(tK (.int 4))])),(aq IntMulOk (fun i j=>i * j) (tK (.int 1000)) (aq (fun ω ω=>True) (fun i j=>i+j) (tK (.int 4)) (af aY [(aa "jar"),(tK (.int 20))])))])) U) K X ⟨[("jar",.ref (1,1))],[],mh⟩:=fun U K h=>by
  simp -implicitDefEqProofs;refine bR (many:=4) (k:=k) (by decide) (by decide) (by exact ba ‹_› rfl) J fun a m1 a0 a1 J1 r1=>?_
  have ha:a=0\/a=1\/a=2\/a=3:=by lia
  rcases ha with rfl|rfl|rfl|rfl
  ·simp -implicitDefEqProofs [bG];refine bR (many:=20) (k:=k+1) (by decide) (by decide) (by exact dm ‹_› rfl) J1 fun n m2 n0 n1 J2 r2=>?_
   simp -implicitDefEqProofs [bG,aO,aM,aP];exact h 1000 n m2 (.inl rfl) n0 n1 J2 (r1.trans r2)
  ·simp -implicitDefEqProofs [bG];refine bR (many:=20) (k:=k+1) (by decide) (by decide) (by exact dm ‹_› rfl) J1 fun n m2 n0 n1 J2 r2=>?_
   simp -implicitDefEqProofs [bG,aO,aM,aP];exact h 500 n m2 (.inr (.inl rfl)) n0 n1 J2 (r1.trans r2)
  ·simp -implicitDefEqProofs [bG];refine bR (many:=20) (k:=k+1) (by decide) (by decide) (by exact dm ‹_› rfl) J1 fun n m2 n0 n1 J2 r2=>?_
   simp -implicitDefEqProofs [bG,aO,aM,aP];exact h 1000 n m2 (.inl rfl) n0 n1 J2 (r1.trans r2)
  ·simp -implicitDefEqProofs [bG];refine bR (many:=20) (k:=k+1) (by decide) (by decide) (by exact dm ‹_› rfl) J1 fun n m2 n0 n1 J2 r2=>?_
   simp -implicitDefEqProofs [bG,aO,aM,aP];exact h 0 n m2 (.inr (.inr rfl)) n0 n1 J2 (r1.trans r2)
 exact⟨rfl,pre _ _ endL⟩
theorem zI {f:Fn}{a:At}{d:Int}(ha:eN a) (hq:∀ m,Sc mh m->Q a.v m):fY f [a.it,.int d] Q X mh:=by
 induction a with
|box l h d'=>
  obtain⟨a1,a2,a3,a4,a5,a6⟩:=ha;have:=hq _ (ce mh);simp[fY,iF,g9,hA,hJ,↓sT];exact⟨⟨by lia,by exact bS ‹_› rfl⟩,⟨by exact dn ‹_›,by exact bS ‹_› rfl⟩,⟨by exact dn ‹_›,by exact bS ‹_› rfl⟩,this⟩
|skip g s=>
  have hg:=ha;obtain⟨rfl,so,_,w0,w1,s0,s1,h0,h1,ho⟩:=ha;have:=hq _ ((ce mh).trans (ce _));simp[fY,iF,g9,hA,hJ,↓jw,↓ml (.inl rfl),LO hg];exact⟨by lia,by lia,⟨by exact dn ‹_›,by exact bS ‹_› rfl⟩,⟨by exact dn ‹_›,by exact bS ‹_› rfl⟩,⟨by exact dn ‹_›,by exact bS ‹_› rfl⟩,this⟩
|pen v=>
  have:=hq _ (ce mh);obtain⟨a1,a2⟩:=ha;simp[fY,iF,g9,hA,hJ,↓Jf];exact⟨by lia,by exact bS ‹_› rfl,this⟩
theorem tO {n:Nd}{d:Int}(hn:b6 n) (hd:0<=d/\d<=10000) (hq:∀ m,Sc mh m->Q (n.deepen d).v m):bu 2 [n.it,.int d] Q X mh:=by
 show fY (bu 1) [n.it,.int d] Q X mh;induction n with
|atm a=>exact zI hn hq
|kern w=>
  have:=hq _ (ce mh);have a1:=hn.1;have a2:=hn.2;clear hn;simp[fY,iF,hM,hV,hY,hZ,↓Je];exact⟨⟨by exact dn ‹_›,by exact bS ‹_› rfl⟩,this⟩
|mark t=>
  have:=hq _ (ce mh);simp[fY,iF,hM,hV,hY,hZ,↓Jg,aO,aM,aP];exact this
|ins num size d0 tw cost ps=>
  have n0:=hn.1;have s0:=hn.2.1;have s1:=hn.2.2.1;have w0:=hn.2.2.2.1;have w1:=hn.2.2.2.2.1;have c0:=hn.2.2.2.2.2.1;have c1:=hn.2.2.2.2.2.2.1;have hps:=hn.2.2.2.2.2.2.2.1;have hpl:=hn.2.2.2.2.2.2.2.2;clear hn;have hnum:0<=num/\num<=254:=by lia
  have key:=p8 (chk:=fun ω=>True) (f:=an "part") (capv:=[("deep",.int d)]) (Te:=af (bu 1) [(aa "part"),(aa "deep")]) (inj:=At.it) (I:=fun us acc m=>Sc mh.bump m/\acc++us.map At.v=ps.map At.v/\∀ a∈us,eN a)
   (Q:=fun us' st'=>K409 [.int num,.int size,.int d,Gl.v ⟨tw,0,0,0,0⟩,.int cost,.lst us'] Q X st'.mh) (st:=⟨[("item",(Nd.ins num size d0 tw cost ps).it),("deep",.int d)],[],mh.bump⟩) (fun ω ω ω ω=>trivial) (fun u us acc m h=>by
    have:=congrArg List.length h.2.1;simp at this;lia) (fun u us acc m h Q' hq'=>by
    have:=zI (X:=dt) (mh:=m) (f:=fun ω ω ω ω=>False) (d:=d) (Q:=fun v m=>Q' v ⟨[("deep",.int d),("part",u.it)],[],m⟩) (h.2.2 u (.head _)) fun m' sc=>hq' u.v _ ⟨h.1.trans sc,by simpa using h.2.1,fun b hb=>h.2.2 b (.tail _ hb)⟩
    simp[e9,aO,aM,aP];exact this) (fun acc m h=>by
    have h2:acc=ps.map At.v:=by simpa using h.2.1
    show K409 _ Q X m;rw[sU h2];exact⟨hnum.1,hnum.2,⟨by exact dn ‹_›,by exact bS ‹_› rfl⟩,⟨by exact dn (And.left ‹_›),by exact bS (And.right ‹_›) rfl⟩,by exact dn ‹_›,by exact bS ‹_› rfl,hq _ ((ce mh).trans (h.1.trans (ce m)))⟩) ps [] mh.bump ⟨Sc.refl _,by simp,hps⟩
  simp[fY,iF,hM,hV,hY,hZ,↓Jd,df];refine⟨⟨by exact dn ‹_›,by exact bS ‹_› rfl⟩,?_⟩;exact key
end
noncomputable def bm (way deep:Int):List Nd:=
 if way=0 then[.atm (.skip ⟨500,0,0,100,1⟩ 0)]
 else if way=1 then[.ins 3 1000 deep 0 0 [.box 9 1000 0]]
 else if way=2 then[.ins 4 401000 deep 0 0 [.box 9 1000 0,.skip ⟨0,0,0,7,2⟩ 0,.box 8 400000 0]]
 else[]
noncomputable def tb (f1 m1:Int) (g1:Gl) (h1 f2 m2:Int) (g2:Gl) (h2:Int):Tb:=
 [(1,⟨1,f1,m1,g1,h1⟩),(2,⟨2,f2,m2,g2,h2⟩),(3,⟨3,1000,9000,⟨0,0,0,10,3⟩,0⟩),(4,⟨4,1000,1073741823,⟨0,0,0,0,0⟩,0⟩)]
noncomputable def cB (way state free:Int) (bx:Bool):String:=
 if way=0 then(if state=2 then "page" else "")else if way=1 then "page" else if way=2 then(if free>=1000 then "box" else "")
 else if state≠2/\bx=true then "page" else ""
theorem LP:∀ ns:List Int,ir (ns.map V.int)=some ns:=by
 intro ll;induction ll with
|nil=>
  exact rfl
|cons n ns IH=>
  exact by show(ir (ns.map V.int)).map (n::·)=_;rw[IH];rfl
section
variable {Q:V->MH->Prop}{X:XP}{mh mh':MH}{k r:Nat}{b:BS}{L:BL}
theorem LQ {a:Addr}{ns:List Int}(h1:mh.nx 1=0) (hl:ns.length<=10000) (hq:∀ m,JarOk 0 m->(∀ q,q≠1->m.nx q=mh.nx q)->Q (.ref (1,1)) m):lM (some (a,ns)) [.cst (.ref a)] Q X mh:=by
 have hnn:∀ n:Int,0<=(if n < 0 then -n else n):=fun n=>by split<;>first|exact Z6.mp ‹_›|lia
 have h60:(ns.take 60).length<=60:=by rw[X4];lia
 have ap:∀ u:Int,(if u < 0 then -u else u)=if u < 0 then -u else u:=fun ω=>rfl
 simp[lM,rJ,df,h1];rw[<- List.map_take];refine mM (chk:=fun ω=>True) (g:=fun n:Int=>V.int (if n < 0 then -n else n)) trivial (ns.take 60) [] (by simp;lia) (fun u hu Q' hq'=>?_) ?_
 ·have:=hq' ⟨[("cell",.int u)],[],mh⟩ rfl;simp[e9,aO,aM,aP];exact this
 ·simp only[W0];simp[df];rw[<- List.map_take,<- List.map_take];refine mM (chk:=fun ω=>True) (g:=fun n:Int=>V.int ((if n < 0 then -n else n).fmod 65521)) trivial (ns.take 60) [] (by simp;lia) (fun u hu Q' hq'=>?_) ?_
  ·have:=fun m h=>hq' ⟨[("cell",.int u)],[],m⟩ h
   simp[e9,aO,aM,aP];exact this _ (by simp)
  ·have e:(ns.take 60).map (fun n:Int=>V.int ((if n < 0 then -n else n).fmod 65521))=((ns.take 60).map fun n:Int=>(if n < 0 then -n else n).fmod 65521).map V.int:=by rw[X3];rfl
   have e':(ns.take 60).map (fun n:Int=>V.int (if n < 0 then -n else n))=((ns.take 60).map fun n:Int=>if n < 0 then -n else n).map V.int:=by rw[X3];rfl
   simp only[W0];rw[e,e'];rw[sz,sd,cK,se,H8];unfold bSum;dsimp only;rw[LP];have hn1:(mh.new 1 (MO.arr (((ns.take 60).map fun n:Int=>if n < 0 then -n else n).map V.int))).nx 1=1:=by simp[MH.new,h1]
   simp only[kh,sd,se,cK,ye,Ia,HS,hn1,h1];refine⟨by simp,?_⟩;refine hq _ ⟨(ns.take 60).map fun n:Int=>if n < 0 then -n else n,0,((ns.take 60).map fun n:Int=>(if n < 0 then -n else n).fmod 65521).sum,?_,?_,by rw[V0];exact h60,fun c hc=>?_,Y3 _⟩ fun q hq=>by simp[MH.new,hq]
   ·simp[MH.new,h1]
   ·simp[MH.new,h1]
   ·obtain⟨n,_,rfl⟩:=V5.mp hc;exact hnn n
theorem LR {way d:Int}(hw:way=0\/way=1\/way=2\/way=3) (hd:0<=d/\d<=10000) (hq:∀ m,Sc mh m->Q (.lst ((bm way d).map Nd.v)) m):e7 [.int way,.int d] Q X mh:=by
 have h409:∀ {n size cost:Int}{p:At}{Q:V->MH->Prop}{m:MH},K409 [.int n,.int size,.int d,Gl.v ⟨0,0,0,0,0⟩,.int cost,.lst [p.v]] Q X m=(0<=n/\n<=254/\aZ size/\aZ d/\-2147483647<=cost/\cost<=2147483647/\Q (Nd.ins n size d 0 cost [p]).v m.bump):=fun {n size cost p Q m}=>sU (ps:=[p]) rfl
 have h409':∀ {n size cost:Int}{p p' p2:At}{Q:V->MH->Prop}{m:MH},K409 [.int n,.int size,.int d,Gl.v ⟨0,0,0,0,0⟩,.int cost,.lst [p.v,p'.v,p2.v]] Q X m=(0<=n/\n<=254/\aZ size/\aZ d/\-2147483647<=cost/\cost<=2147483647/\Q (Nd.ins n size d 0 cost [p,p',p2]).v m.bump):=fun {n size cost p p' p2 Q m}=>sU (ps:=[p,p',p2]) rfl
 have dd:aZ d:=⟨by exact dn (And.left ‹_›),by exact bS (And.right ‹_›) rfl⟩;have b1:=ce mh;rcases hw with rfl|rfl|rfl|rfl
 ·have:=hq _ (b1.trans (ce _));simp[e7,T918,↓jw,↓ml (.inl rfl),cy,aZ,aO,aM,aP];exact this
 ·have:=hq _ (b1.trans ((ce _).trans (ce _)));simp[e7,T918,↓pJ,↓sT,↓h409,dd];simp[aZ,aO,aM,aP];exact this
 ·have:=hq _ (b1.trans ((ce _).trans ((ce _).trans ((ce _).trans ((ce _).trans (ce _))))));simp[e7,T918,↓pJ,↓jw,↓sT,↓ml (.inl rfl),↓h409',dd,cy];simp[aZ,aO,aM,aP];exact this
 ·have:=hq mh (Sc.refl mh);simp[e7,T918,aO,aM,aP];exact this
noncomputable def cL (b:BS) (vsize:Int):Int:=if b.state=0 then vsize else b.goal - b.total - b.depth
noncomputable def dl (rest:List Nd):Bool:=rest.any Nd.isBox
end
mutual
theorem zJ:∀ v:V,v.dat=true->PyData.eqv v.py v.py=true
|.none,_=>rfl
|.bool b,_=>by show PyData.eqv (.bool b) (.bool b)=true;simp[PyData.eqv]
|.int i,_=>by show PyData.eqv (.int i) (.int i)=true;simp[PyData.eqv]
|.str s,_=>by show PyData.eqv (.str (U0 s)) (.str (U0 s))=true;simp[PyData.eqv]
|.tup xs,h=>by show PyData.eqv (.tuple (V.pys xs)) (.tuple (V.pys xs))=true;simp[PyData.eqv,tP xs h]
|.lst xs,h=>by show PyData.eqv (.list (V.pys xs)) (.list (V.pys xs))=true;simp[PyData.eqv,tP xs h]
|.obj _ _,h=>absurd h U2
|.dct _,h=>absurd h U2
|.ref _,h=>absurd h U2
|.cst _,h=>absurd h U2
theorem tP:∀ xs:List V,V.dats xs=true->PyData.eqvAll (V.pys xs) (V.pys xs)=true
|[],_=>rfl
|x::xs,h=>by
  obtain⟨h1,h2⟩:=U4.mp (show(x.dat && V.dats xs)=true from h);simp[ii,PyData.eqvAll,zJ x h1,tP xs h2]
end
noncomputable def Vd (d:Nat) (v:V):Prop:=v.dat=true/\PyData.canLay0 v.py=true/\v.py.depth<=d
theorem Vd.ok {v:V}(h:Vd 60 v):v.ok:=⟨h.1,by
 have:=h.2.2;simp[SeqAt.shaped,h.2.1];(first|exact ba ‹_› rfl|lia)⟩
theorem Vd.int {d:Nat}{i:Int}:Vd d (.int i):=⟨rfl,rfl,Z0 _⟩
theorem Vd.str {d:Nat}{s:String}(h:dG s=true):Vd d (.str s):=⟨rfl,h,Z0 _⟩
theorem Vd.mono {d d':Nat}{v:V}(h:Vd d v) (hd:d<=d'):Vd d' v:=⟨h.1,h.2.1,X9 h.2.2 hd⟩
theorem Vd.all {d:Nat}{xs:List V}(h:∀ x∈xs,Vd d x):V.dats xs=true/\PyData.canLayAll0 (V.pys xs)=true/\PyData.depthAll (V.pys xs)<=d:=by
 induction xs with
|nil=>exact⟨rfl,rfl,Z0 _⟩
|cons x xs ih=>
  obtain⟨a,b,c⟩:=ih fun y hy=>h y (.tail _ hy)
  obtain⟨a',b',c'⟩:=h x (.head _);refine⟨by rw[uE,a,a'];rfl,by simp[ii,PyData.canLayAll0,b,b'],?_⟩;rw[ii,PyData.depthAll];exact Nat.max_le.mpr ⟨c',c⟩
theorem Vd.tup {d:Nat}{xs:List V}(h:∀ x∈xs,Vd d x):Vd (d+1) (.tup xs):=by
 obtain⟨a,b,c⟩:=Vd.all h;refine⟨a,by rw[jI,PyData.canLay0];exact b,?_⟩;rw[jI,PyData.depth]
 lia
theorem Vd.lst {d:Nat}{xs:List V}(h:∀ x∈xs,Vd d x):Vd (d+1) (.lst xs):=by
 obtain⟨a,b,c⟩:=Vd.all h;refine⟨a,by rw[qw,PyData.canLay0];exact b,?_⟩;rw[qw,PyData.depth]
 lia
theorem Vd.map {α:Type}{d:Nat}{f:α->V}{l:List α}(h:∀ a∈l,Vd d (f a)):∀ x∈l.map f,Vd d x:=fun x hx=>by
 obtain⟨a,ha,rfl⟩:=V5.mp hx;exact h a ha
theorem Vd.nil {d:Nat}:∀ x∈([]:List V),Vd d x:=fun x h=>nomatch h
theorem Vd.cons {d:Nat}{x:V}{xs:List V}(h:Vd d x) (t:∀ y∈xs,Vd d y):∀ y∈x::xs,Vd d y:=fun y hy=>by
 rcases V3.mp hy with rfl|hy
 ·exact h
 ·exact t y hy
theorem tS {g:Gl}:Vd 1 g.tup:=Vd.tup (.cons .int (.cons .int (.cons .int (.cons .int (.cons .int .nil)))))
theorem zK {a:At}:Vd 3 a.dsc:=by
 induction a with
|box l h d=>exact(Vd.tup (d:=2) (.cons .int (.cons .int (.cons .int (.cons .int (.cons .int (.cons .int (.cons .int (.cons ((Vd.tup (d:=0) (.cons .int (.cons .int .nil))).mono (by decide)) (.cons ((Vd.tup (d:=0) .nil).mono (by decide)) .nil))))))))))
|skip g s=>exact(Vd.tup (d:=2) (.cons .int (.cons (tS.mono (by decide)) (.cons .int (.cons ((Vd.tup (d:=0) .nil).mono (by decide)) .nil)))))
|pen v=>exact(Vd.tup (d:=2) (.cons .int (.cons .int .nil)))
theorem LS {n:Nd}:Vd 6 n.dsc:=by
 induction n with
|atm a=>exact zK.mono (by decide)
|kern w=>exact(Vd.tup (d:=5) (.cons .int (.cons .int (.cons .int .nil))))
|mark t=>exact(Vd.tup (d:=5) (.cons .int (.cons ((Vd.tup (d:=1) (.cons (Vd.tup (d:=0) (.cons .int (.cons .int .nil))) .nil)).mono (by decide)) .nil)))
|ins num size deep tw cost ps=>exact(Vd.tup (d:=5) (.cons .int (.cons .int (.cons .int (.cons .int (.cons (tS.mono (by decide)) (.cons .int (.cons ((Vd.tup (d:=3) (Vd.map fun a ω=>zK)).mono (by decide)) .nil))))))))
theorem qd {ns:List Nd}:Vd 7 (.tup (ns.map Nd.dsc)):=Vd.tup (Vd.map fun n ω=>LS)
theorem kM {f:Option Pg}:Vd 1 (dJ f):=by
 induction f with
|none=>exact Vd.tup .nil
|some p=>exact Vd.tup (.cons .int (.cons .int (.cons .int (.cons .int .nil))))
set_option tactic.hygienic true in
theorem zM {s:SR}(h:∀ b,s≠.next b):Vd 1 s.v:=by
 induction s with
|next b=>exact absurd rfl (h b)
|ret f b=>exact kM
|exc c b=>
  unfold SR.v;dsimp only
  split
  ·exact Vd.str iN
  ·exact Vd.str pH
theorem qe {b:BS}:Vd 8 b.st:=
 Vd.tup (.cons qd (.cons ((Vd.tup (d:=1) (.cons .int (.cons .int (.cons .int (.cons (Vd.lst (.cons .int (.cons .int (.cons .int (.cons .int .nil))))) (.cons .int (.cons .int (.cons .int (.cons .int .nil))))))))).mono (by decide))
  (.cons ((Vd.lst (d:=1) (Vd.map fun p ω=>Vd.tup (.cons .int (.cons .int (.cons .int (.cons .int (.cons .int (.cons .int .nil)))))))).mono (by decide)) (.cons (kM.mono (by decide)) (.cons ((Vd.tup (d:=1) (.cons .int (.cons .int (.cons tS .nil)))).mono (by decide)) (.cons .int .nil))))))
theorem zN {a:At}:Vd 1 a.it:=by
 induction a with
|box l h d=>exact Vd.tup (.cons (.str sM) (.cons .int (.cons .int (.cons .int .nil))))
|skip g s=>exact Vd.tup (.cons (.str yL) (.cons .int (.cons .int (.cons .int (.cons .int .nil)))))
|pen v=>exact Vd.tup (.cons (.str yM) (.cons .int .nil))
theorem LU {n:Nd}:Vd 3 n.it:=by
 induction n with
|atm a=>exact zN.mono (by decide)
|kern w=>exact Vd.tup (.cons (.str sN) (.cons .int .nil))
|mark t=>exact Vd.tup (d:=2) (.cons (.str yN) (.cons (Vd.tup (d:=1) (.cons (Vd.tup (d:=0) (.cons .int (.cons .int .nil))) .nil)) .nil))
|ins num size deep tw cost ps=>exact Vd.tup (d:=2) (.cons (.str yO) (.cons .int (.cons .int (.cons .int (.cons ((Vd.tup (d:=1) (Vd.map fun a ω=>zN))) (.cons .int .nil))))))
section
variable {Q:V->MH->Prop}{X:XP}{mh mh':MH}{k r:Nat}{b:BS}{L:BL}
theorem tT {a c:V}{k:Bool->Prop}(ha:Vd 60 a) (hc:Vd 60 c):bv mh a c k=k (PyData.eqv a.py c.py):=by
 have h1:=ha.ok;have h2:=hc.ok;unfold bv;cases e1:pair? (ij a) (ij c)with
|some p=>rw[nq (pair?_some e1).1,nq (pair?_some e1).2];rfl
|none=>
  have e2:(lf a)=none:=by
   have d1:=ha.1;cases a<;>first|rfl|cases d1
  dsimp only;rw[e2];exact propext ⟨fun z=>z.2.2,fun z=>⟨h1,h2,z⟩⟩
theorem mO {a:V}{k:Bool->Prop}(ha:Vd 60 a):bv mh a a k=k true:=by rw[tT ha ha,zJ a ha.1]
theorem zO {xs:List V}{k:Bool->Prop}(h:Vd 60 (.lst xs)):bv mh (.lst xs) (.lst []) k=k xs.isEmpty:=by
 rw[tT h (Vd.lst (d:=59) .nil)];cases xs<;>simp[qw,qx,ii,PyData.eqv,PyData.eqvAll]
theorem LV {f:Option Pg}{k:Bool->Prop}:bv mh (dJ f) (.tup []) k=k f.isNone:=by
 rw[tT (kM.mono (by decide)) (Vd.tup (d:=59) .nil)];cases f<;>simp[pY,pZ,jI,ni,qx,ii,PyData.eqv,PyData.eqvAll]
theorem LW {f:Option Pg}{k:Bool->Prop}:cW (dJ f) (.tup [.str "page",.str "box"]) k=k false:=by
 have h1:=(kM (f:=f)).mono (by decide:1<=60);have h2:=(Vd.tup (d:=0) (.cons (.str iN) (.cons (.str pH) .nil))).mono (by decide:1<=60);have e:((V.pys [.str "page",.str "box"]).any fun y=>PyData.eqv y (dJ f).py)=false:=by
  cases f<;>simp[pY,pZ,jI,uD,ni,qx,ii,PyData.eqv]
 unfold cW;dsimp only;rw[e];exact propext ⟨fun h=>h.2.2,fun h=>⟨h1.ok,h2.ok,h⟩⟩
end
noncomputable def Nd.tag:Nd->String
|.atm (.box ..)=>"b"
|.atm (.skip ..)=>"g"
|.atm (.pen _)=>"p"
|.kern _=>"k"
|.mark _=>"m"
|.ins ..=>"i"
theorem i0 {l h d:Int}:(Nd.atm (.box l h d)).tag="b":=rfl
theorem i4 {g:Gl}{s:Int}:(Nd.atm (.skip g s)).tag="g":=rfl
theorem i5 {v:Int}:(Nd.atm (.pen v)).tag="p":=rfl
theorem i6 {w:Int}:(Nd.kern w).tag="k":=rfl
theorem i7 {t:Int}:(Nd.mark t).tag="m":=rfl
theorem i8 {num size d tw cost:Int}{ps:List At}:(Nd.ins num size d tw cost ps).tag="i":=rfl
section
variable {n:Nd}{es:List (Int × V)}
variable {Q:V->MH->Prop}{X:XP}{mh mh':MH}{k r:Nat}{b:BS}{L:BL}
theorem zP {ns:List Nd}:Vd 4 (.lst (ns.map Nd.it)):=Vd.lst (Vd.map fun n ω=>LU)
theorem LX {rest:List Nd}:((rest.filter Nd.isBox).map Nd.it).isEmpty=!dl rest:=by
 unfold dl;induction rest with
|nil=>rfl
|cons n rest ih=>
  cases h:n.isBox
  ·rw[List.filter_cons_of_neg (by rw[h];exact U2),List.any_cons,h,Bool.false_or];exact ih
  ·rw[List.filter_cons_of_pos h,List.any_cons,h];rfl
theorem zQ {c:String}{k:Bool->Prop}(hc:dG c=true):bY mh n.it (.int 0) (fun u=>bv mh u (.str c) k)=k (decide (n.tag=c)):=by
 have e:∀ s:String,dG s=true->bv mh (.str s) (.str c) k=k (decide (s=c)):=fun s hs=>by rw[I7];exact propext ⟨fun h=>h.2.2,fun h=>⟨hs,hc,h⟩⟩
 induction n with
|atm a=>
  induction a with
 |box l h d=>rw[show(Nd.atm (.box l h d)).tag="b" from rfl,<- e "b" sM];simp[j9,hM,hV,hY,hZ,g9,hA,hJ]
 |skip g s=>rw[show(Nd.atm (.skip g s)).tag="g" from rfl,<- e "g" yL];simp[j9,hM,hV,hY,hZ,g9,hA,hJ]
 |pen v=>rw[show(Nd.atm (.pen v)).tag="p" from rfl,<- e "p" yM];simp[j9,hM,hV,hY,hZ,g9,hA,hJ]
|kern w=>rw[show(Nd.kern w).tag="k" from rfl,<- e "k" sN];simp[j9,hM,hV,hY,hZ]
|mark t=>rw[show(Nd.mark t).tag="m" from rfl,<- e "m" yN];simp[j9,hM,hV,hY,hZ]
|ins a1 a2 a3 a4 a5 a6=>rw[show(Nd.ins a1 a2 a3 a4 a5 a6).tag="i" from rfl,<- e "i" yO];simp[j9,hM,hV,hY,hZ]
theorem zR {k:Bool->Prop}:bY mh n.it (.int 0) (fun u=>bv mh u (.str "b") k)=k n.isBox:=by
 rw[zQ sM];induction n with
|atm a=>induction a<;>simp[Nd.isBox,i0,i4,i5,i6,i7,i8]
|kern w=>simp[Nd.isBox,i0,i4,i5,i6,i7,i8]
|mark t=>simp[Nd.isBox,i0,i4,i5,i6,i7,i8]
|ins=>simp[Nd.isBox,i0,i4,i5,i6,i7,i8]
theorem zS {k:Bool->Prop}:bY mh n.it (.int 0) (fun u=>bv mh u (.str "k") k)=k n.isKern:=by
 rw[zQ sN];induction n with
|atm a=>induction a<;>simp[Nd.isKern,i0,i4,i5,i6,i7,i8]
|kern w=>simp[Nd.isKern,i0,i4,i5,i6,i7,i8]
|mark t=>simp[Nd.isKern,i0,i4,i5,i6,i7,i8]
|ins=>simp[Nd.isKern,i0,i4,i5,i6,i7,i8]
theorem LY {way vsize:Int}{rest:List Nd}(hw:way=0\/way=1\/way=2\/way=3) (hl:rest.length<=1000) (hq:Q (.str (cB way b.state (cL b vsize) (dl rest))) (mh.bld r b L)) :
  e8 [.int way,.int b.state,.ref (r,0),.int vsize,.lst (rest.map Nd.it)] Q X (mh.bld r b L):=by
 rcases hw with rfl|rfl|rfl|rfl
 ·unfold cB at hq;by_cases h:b.state=2<;>simp[h]at hq<;>simp[e8,T923,h]<;>exact hq
 ·unfold cB at hq;simp at hq;simp[e8,T923,aO,aM,aP];exact hq
 ·unfold cB cL at hq;by_cases h:b.state=0
  ·simp[h]at hq;by_cases h2:vsize>=1000<;>simp[h2]at hq<;>simp[e8,T923,h,h2]<;>exact hq
  ·simp[h]at hq;by_cases h2:b.goal - b.total - b.depth>=1000
   ·have h2':1000<=b.goal - b.total - b.depth:=h2;rw[if_pos h2']at hq;simp[e8,T923,h,aH,h2,aO,aM,aP];exact hq
   ·have h2':¬ 1000<=b.goal - b.total - b.depth:=h2;rw[if_neg h2']at hq;simp[e8,T923,h,aH,h2,aO,aM,aP];exact hq
 ·unfold cB at hq;by_cases h:b.state=2
  ·simp[h]at hq;simp[e8,T923,h,aO,aM,aP];exact hq
  ·simp[h]at hq;simp[e8,T923,h,df];refine tG (chk:=fun ω=>True) (g:=Nd.it) (p:=Nd.isBox) trivial rest [] (by simp;(first|exact ba ‹_› rfl|lia)) (fun u hu K hK=>?_) ?_
   ·have:=hK ⟨[("item",u.it)],[],mh.bld r b L⟩ (fun ω Q' h=>by
     have:=h ⟨[("item",u.it)],[],mh.bld r b L⟩ rfl;simp;exact this) rfl
    simp only[xS,rL,pi,rX,yl,rY,cQ,x8];show bY _ u.it (.int 0) (fun w=>bv _ w (.str "b") _);rw[zR];exact this
   ·simp only[W0];simp only[sz,xK,Ik,cK,IW,IF];rw[zO (zP.mono (by decide)),LX];cases hb:dl rest<;>simp[hb]at hq<;>simpa using hq
structure Sc4 (mh mh':MH):Prop where
 nx:∀ q,q≠0->q≠4->mh'.nx q=mh.nx q
noncomputable def MH.tabm (mh:MH) (es:List (Int × V)):MH:=
 { m:=fun k=>if k=(0,mh.nx 0)then some (.inst 653 [("rows",.ref (4,0))])else if k=(4,0)then some (.dict es)else mh.m k,nx:=fun q=>if q=0 then mh.nx 0+1 else if q=4 then 1 else mh.nx q }
theorem LZ:(mh.tabm es).m (0,mh.nx 0)=some (.inst 653 [("rows",.ref (4,0))]):=by simp[MH.tabm]
theorem L0:(mh.tabm es).m (4,0)=some (.dict es):=by simp[MH.tabm]
theorem Ma {es':List (Int × V)}:(mh.tabm es).set (4,0) (.dict es')=mh.tabm es':=by
 refine eK (fun l=>?_) fun q=>rfl
 by_cases h:l=(4,0)
 ·subst h;simp[MH.tabm,MH.set]
 ·simp[MH.tabm,MH.set,h]
theorem Mb (h4:mh.nx 4=0):((mh.new 0 (.inst 653 [])).new 4 (.dict [])).set (0,mh.nx 0) (.inst 653 [("rows",.ref (4,0))])=mh.tabm []:=by
 refine eK (fun l=>?_) fun q=>?_
 ·by_cases h:l=(0,mh.nx 0)
  ·subst h;simp[MH.tabm,MH.set,MH.new]
  ·by_cases h':l=(4,0)<;>simp[MH.tabm,MH.set,MH.new,h,h',h4]
 ·by_cases h:q=0
  ·subst h;simp[MH.tabm,MH.set,MH.new]
  ·by_cases h':q=4<;>simp[MH.tabm,MH.set,MH.new,h,h',h4]
theorem Mc {c1 c2 c3 c4:Cl}(n1:c1.num=1) (n2:c2.num=2) (n3:c3.num=3) (n4:c4.num=4) (h4:mh.nx 4=0)
  (hq:∀ m,m.m (4,0)=some (.dict [(1,c1.v),(2,c2.v),(3,c3.v),(4,c4.v)])->Sc4 mh m->Q bk m):K653 [.lst [c1.v,c2.v,c3.v,c4.v]] Q X mh:=by
 have:=hq ((mh.tabm [(1,c1.v),(2,c2.v),(3,c3.v),(4,c4.v)]).drop (0,mh.nx 0)) (by simp[MH.drop,MH.tabm]) ⟨fun q h0 h4=>by simp[MH.drop,MH.tabm,h0,h4]⟩;have hn:(mh.new 0 (.inst 653 [])).nx 4=0:=by simp[MH.new,h4]
 have hm:∀ o o':MO,((mh.new 0 o).new 4 o').m (0,mh.nx 0)=some o:=fun o o'=>by simp[MH.new]
 simp[K653,oM,T643,gz,↓gj,↓kz,ax,aX,dH,hm,hn,Mb h4,LZ,L0,Ma,n1,n2,n3,n4,aO,aM,aP];exact this
theorem zT {i f mo h:Int}{g:Gl}{fs:List (Int × V)}{m:MH}{Q':V->St->Prop}(hi:i=1\/i=2) (hc:dX f mo g h) (lk:List.lookup i fs=some (dk f mo g h)) (hq':∀ m',Sc m m'->Q' (Cl.v ⟨i,f,mo,g,h⟩) ⟨[("classes",.dct fs),("one",.int i)],[],m'⟩) :
  an "one" (.int i) ⟨[("classes",.dct fs)],[],m⟩ fun st1=>(af K623_5 [(aa "one"),(au (au (aa "classes") (aa "one")) (tK (.int 0))),(au (au (aa "classes") (aa "one")) (tK (.int 1))),(ae (af (bu 2) [(au (au (aa "classes") (aa "one")) (tK (.int 2))),(tK (.int 0))]) "glue"),(au (au (aa "classes") (aa "one")) (tK (.int 3)))]) Q' dt st1:=by
 obtain⟨hf,hm0,hm1,hg,hh⟩:=hc;have:=tO (Q:=fun v m=>bH m v "glue" fun u=>K623_5 [.int i,.int f,.int mo,u,.int h] (fun v m'=>Q' v ⟨[("classes",.dct fs),("one",.int i)],[],m'⟩) dt m) (X:=dt) (mh:=m) (n:=.atm (.skip g 0)) (d:=0) hg ⟨by decide,by decide⟩ fun m2 sc=>by
  show bH m2 (At.skip g 0).v "glue" _;simp only[Jn,IY,if_true];rw[Jh];exact⟨by lia,by lia,by lia,by lia,⟨by exact dn ‹_›,by exact bS ‹_› rfl⟩,hq' _ (sc.trans (ce m2))⟩
 simp -implicitDefEqProofs [e9,dk,lk];refine gd this fun v m'=>?_
 simp only[kh,r6]
 congr 1;funext u
 simp -implicitDefEqProofs [dk,lk];exact Iff.rfl
theorem Md {f1 m1 h1 f2 m2 h2:Int}{g1 g2:Gl}(c1:dX f1 m1 g1 h1) (c2:dX f2 m2 g2 h2) (h4:mh.nx 4=0) (hq:∀ m,m.m (4,0)=some (.dict (tb f1 m1 g1 h1 f2 m2 g2 h2).d)->(∀ q,q≠0->q≠4->m.nx q=mh.nx q)->Q bk m) :
  oZ [.dct [(1,dk f1 m1 g1 h1),(2,dk f2 m2 g2 h2)]] Q X mh:=by
 have key:=p8 (chk:=fun ω=>True) (f:=an "one") (capv:=[("classes",.dct [(1,dk f1 m1 g1 h1),(2,dk f2 m2 g2 h2)])])
  (Te:=(af K623_5 [(aa "one"),(au (au (aa "classes") (aa "one")) (tK (.int 0))),(au (au (aa "classes") (aa "one")) (tK (.int 1))),(ae (af (bu 2) [(au (au (aa "classes") (aa "one")) (tK (.int 2))),(tK (.int 0))]) "glue"),(au (au (aa "classes") (aa "one")) (tK (.int 3)))]))
  (inj:=V.int) (I:=fun us acc m=>Sc mh m/\(us=[1,2]/\acc=[]\/us=[2]/\acc=[Cl.v ⟨1,f1,m1,g1,h1⟩]\/us=[]/\acc=[Cl.v ⟨1,f1,m1,g1,h1⟩,Cl.v ⟨2,f2,m2,g2,h2⟩]))
  (Q:=fun us' st'=>ao (af K653 [(eB (aa "rows") (bB [(af K623_4 [(tK (.int 3)),(tK (.int 1000)),(tK (.int 9000)),(af K258_5 [(tK (.int 0)),(tK (.int 0)),(tK (.int 0)),(tK (.int 10)),(tK (.int 3))])]),(af K623_1 [(tK (.int 4))])]))]) (fun fl st=>Q fl.val st.mh) X (st'.put "rows" (.lst us')))
  (st:=⟨[("classes",.dct [(1,dk f1 m1 g1 h1),(2,dk f2 m2 g2 h2)])],[],mh⟩) (fun ω ω ω ω=>trivial) (fun u us acc m h=>by
   rcases h.2 with ⟨_,rfl⟩|⟨_,rfl⟩|⟨_,rfl⟩<;>simp) (fun u us acc m h Q' hq'=>by
   obtain⟨sc,h⟩:=h;rcases h with ⟨e1,e2⟩|⟨e1,e2⟩|⟨e1,e2⟩
   ·obtain⟨rfl,rfl⟩:=List.cons.inj e1;subst e2;exact zT (.inl rfl) c1 rfl fun m' sc'=>hq' _ _ ⟨sc.trans sc',.inr (.inl ⟨rfl,rfl⟩)⟩
   ·obtain⟨rfl,rfl⟩:=List.cons.inj e1;subst e2;exact zT (.inr rfl) c2 rfl fun m' sc'=>hq' _ _ ⟨sc.trans sc',.inr (.inr ⟨rfl,rfl⟩)⟩
   ·cases e1) (fun acc m h=>by
   obtain⟨sc,h⟩:=h;rcases h with ⟨e1,e2⟩|⟨e1,e2⟩|⟨e1,e2⟩
   ·cases e1
   ·cases e1
   ·subst e2;have b:=(ce m).trans ((ce _).trans ((ce _).trans (ce _)));have h4':(m.bump.bump.bump.bump).nx 4=0:=by rw[(sc.trans b).nx 4 (by decide)];exact h4
    have:=Mc (X:=X) (Q:=Q) (mh:=m.bump.bump.bump.bump) (c1:=⟨1,f1,m1,g1,h1⟩) (c2:=⟨2,f2,m2,g2,h2⟩) (c3:=⟨3,1000,9000,⟨0,0,0,10,3⟩,0⟩) (c4:=⟨4,1000,1073741823,⟨0,0,0,0,0⟩,0⟩) rfl rfl rfl rfl h4'
     fun m' hm s4=>hq m' hm fun q q0 q4=>(s4.nx q q0 q4).trans ((sc.trans b).nx q q0)
    simp -implicitDefEqProofs [↓jw,↓Ji,↓Jm,cy,aZ];exact gd this fun ω ω=>by simp) [1,2] [] mh ⟨Sc.refl mh,.inl ⟨rfl,rfl⟩⟩
 refine⟨rfl,?_⟩;unfold T928;rw[cP,iI,ke,kf,gN,jp];simp only[co];exact⟨by decide,key⟩
end
noncomputable def BS.up (b:BS) (X:List Nd) (g:Gl) (a c:Int):BS:={ b with con:=X,lglue:=g,lkern:=a,lpen:=c }
noncomputable def BS.cn (b:BS) (X:List Nd):BS:={ b with con:=X }
set_option tactic.hygienic true in
noncomputable def SR.app (more:List Nd) (g:Gl) (a c:Int):SR->SR
|.next b=>.next (b.cn (b.con++more))
|.ret f b=>.ret f (b.cn (b.con++more))
|.exc e b=>.exc e (b.up (b.con++more) g a c)
section
variable {more:List Nd}{g:Gl}{a c:Int}{b:BS}
theorem mP:SR.app more g a c (.next b)=.next (b.cn (b.con++more)):=rfl
theorem mQ {f:Option Pg}:SR.app more g a c (.ret f b)=.ret f (b.cn (b.con++more)):=rfl
theorem mR {e:Nat}:SR.app more g a c (.exc e b)=.exc e (b.up (b.con++more) g a c):=rfl
end
section
variable {row:Cl}{num:Int}
variable {b b':BS}{X more:List Nd}{g:Gl}{a c:Int}{t:Tb}{top:Gl}{n:Nd}{ns:List Nd}
theorem Me {size:Int}{ps:List At}{e:Ins}{m:Mid}:(b.up X g a c).insEnd row num size ps e m=(b.insEnd row num size ps e m).up X g a c:=by
 unfold BS.insEnd
 split<;>rfl
theorem Mf {e:Ins}{f:Bool}:(b.up X g a c).insBeg row num e f=(b.insBeg row num e f).up X g a c:=by
 have h0:(if (b.up X g a c).state=0 then(b.up X g a c).freeze 1 else b.up X g a c)=(if b.state=0 then b.freeze 1 else b).up X g a c:=by
  show(if b.state=0 then _ else _)=_
  split<;>rfl
 unfold BS.insBeg;rw[h0];generalize (if b.state=0 then b.freeze 1 else b)=b0;cases f<;>rfl
theorem Mg {size deep cost:Int}{ps:List At}:(b.up X g a c).insert row num size deep cost ps=match b.insert row num size deep cost ps with
 |.ok b'=>.ok (b'.up X g a c)
 |.error e=>.error e:=by
 have hb:∀ (e:Ins) (f:Bool) (m:Mid),(((b.up X g a c).insBeg row num e f).insEnd row num size ps e m)=((b.insBeg row num e f).insEnd row num size ps e m).up X g a c:=fun e f m=>by rw[Mf,Me]
 have hi:∀ (esz:Int) (f:Bool),(b.up X g a c).iplace row size deep esz ps f=b.iplace row size deep esz ps f:=fun ω ω=>rfl
 have hl:(b.up X g a c).ins=b.ins:=rfl;unfold BS.insert;rw[hl];cases he:b.ins.lookup num with
|some e=>
  dsimp only;by_cases hs:e.sat>=0
  ·rw[if_pos hs,if_pos hs];rfl
  ·rw[if_neg hs,if_neg hs,hi];cases b.iplace row size deep e.size ps false with
  |none=>rfl
  |some p=>dsimp only;rw[hb];rfl
|none=>
  dsimp only;by_cases hs:row.skip.so≠0
  ·rw[if_pos hs,if_pos hs]
  ·rw[if_neg hs,if_neg hs,hi];cases b.iplace row size deep row.held ps true with
  |none=>rfl
  |some p=>dsimp only;rw[hb];rfl
theorem kO:(b.up X g a c).fin n=(b.fin n).up X.tail g a c:=by
 unfold BS.fin;by_cases h:b.depth > b.mdepth
 ·have h':(b.up X g a c).depth > (b.up X g a c).mdepth:=h;rw[if_pos h,if_pos h'];rfl
 ·have h':¬ (b.up X g a c).depth > (b.up X g a c).mdepth:=h;rw[if_neg h,if_neg h'];rfl
theorem Mh:(b.up X g a c).take t n=match b.take t n with
 |.ok b'=>.ok (b'.up X.tail g a c)
 |.error e=>.error e:=by
 induction n with
|atm z=>
  induction z with
 |box l h d=>exact congrArg Except.ok (kO (b:={ b with total:=b.total+(b.depth+h),depth:=d }))
 |skip g' s=>exact congrArg Except.ok (kO (b:={ b.addS g' with shrink:=b.shrink+g'.sh,total:=b.total+(b.depth+g'.w),depth:=0 }))
 |pen v=>exact congrArg Except.ok kO
|kern w=>exact congrArg Except.ok (kO (b:={ b with total:=b.total+(b.depth+w),depth:=0 }))
|mark m=>exact congrArg Except.ok kO
|ins num size deep tw cost ps=>
  unfold BS.take;dsimp only;cases t.lookup num with
 |none=>rfl
 |some row=>
   dsimp only;rw[Mg];cases b.insert row num size deep cost ps with
  |error e=>rfl
  |ok b'=>dsimp only;rw[kO]
theorem Mi (h:n.isKern=true->X[1]?=b.con[1]?):(b.up X g a c).ahead n=b.ahead n:=by
 induction n with
|atm z=>cases z<;>rfl
|kern w=>
  have:(b.up X g a c).con=X:=rfl;unfold BS.ahead;dsimp only;rw[this,h rfl]
|mark m=>rfl
|ins=>rfl
theorem Mj (h:n.isKern=true->X[1]?=b.con[1]?):(b.up X g a c).tried n=((b.tried n).1.up X g a c,(b.tried n).2):=by
 unfold BS.tried;rw[Mi h];cases b.ahead n with
|none=>rfl
|some p=>
  dsimp only;by_cases hp:p>=10000
  ·rw[if_pos hp,if_pos hp]
  ·rw[if_neg hp,if_neg hp];have e1:(b.up X g a c).costP p=b.costP p:=rfl;have e2:(b.up X g a c).best=b.best:=rfl;rw[e1,e2];by_cases hb:(b.best.all fun g=>decide (b.costP p<=g.cost))=true
   ·rw[if_pos hb,if_pos hb];rfl
   ·rw[if_neg hb,if_neg hb];rfl
theorem zU:(b.up X g a c).remember n=(b.remember n).cn X:=rfl
theorem tV (h:b.take t n=.ok b'):b'.con=b.con.tail:=by
 have hf:∀ b:BS,(b.fin n).con=b.con.tail:=fun b=>by unfold BS.fin;split<;>rfl
 exact pX (P:=fun b'=>b'.con=b.con.tail) h (fun ω ω ω ω ω ω ω=>hf _) fun ω ω ω ω ω ω ω ω ω h2=>by rw[hf,(zn h2).1]
theorem zV (hc:b.con=n::ns) (hk:n.isKern=true->ns≠[]):(b.up (b.con++more) g a c).step2 t n=(b.step2 t n).app more g a c:=by
 have h1:n.isKern=true->(b.con++more)[1]?=b.con[1]?:=fun h=>by
  obtain⟨m,ms,rfl⟩:=X1 (hk h);rw[hc];rfl
 obtain⟨c1,_⟩:=jB (b:=b) (n:=n);unfold BS.step2;rw[Mj h1];dsimp only;cases hf:(b.tried n).2 with
|some f=>
  dsimp only[mP,mQ,mR];rw[zU];have:((b.tried n).1.remember n).con=b.con:=c1;rw[this]
|none=>
  dsimp only;rw[Mh];cases ht:(b.tried n).1.take t n with
 |error e=>dsimp only[mP,mQ,mR];rw[c1]
 |ok b2=>
   dsimp only[mP,mQ,mR];have:(b2.remember n).con=b.con.tail:=(tV ht).trans (by rw[c1]);rw[zU,this,hc];rfl
theorem zW (hc:b.con=n::ns) (hk:n.isKern=true->ns≠[]):(b.up (b.con++more) g a c).step top t n=(b.step top t n).app more g a c:=by
 have hl:((b.up (b.con++more) g a c).con.length=1/\n.isKern=true)↔False:=⟨fun ⟨h,h'⟩=>by
  have:(b.up (b.con++more) g a c).con=b.con++more:=rfl;rw[this,hc]at h;have:=hk h';rcases ns with _|⟨m,ms⟩
  ·exact this rfl
  ·simp at h,fun h=>h.elim⟩
 have hl':¬ (n.isKern=true/\b.con.length=1):=fun ⟨h',h⟩=>by
  rw[hc]at h;have:=hk h';rcases ns with _|⟨m,ms⟩
  ·exact this rfl
  ·simp at h
 have hst:(b.up (b.con++more) g a c).state=b.state:=rfl;unfold BS.step;rw[hst];by_cases hs:b.state=2
 ·rw[if_pos hs,if_pos hs];by_cases hb:n.bad=true
  ·rw[if_pos hb,if_pos hb];rfl
  ·rw[if_neg hb,if_neg hb,if_neg (fun h=>hl.mp ⟨h.2,h.1⟩),if_neg hl'];exact zV hc hk
 ·rw[if_neg hs,if_neg hs];by_cases hb:n.isBox=true
  ·rw[if_pos hb,if_pos hb];by_cases ho:top.so≠0
   ·rw[if_pos ho,if_pos ho];rfl
   ·rw[if_neg ho,if_neg ho];have:(b.up (b.con++more) g a c).begin top n.ht=(b.begin top n.ht).up ((b.begin top n.ht).con++more) g a c:=by
     unfold BS.begin;by_cases h0:b.state=0
     ·have h0':(b.up (b.con++more) g a c).state=0:=h0;rw[if_pos h0,if_pos h0'];rfl
     ·have h0':¬ (b.up (b.con++more) g a c).state=0:=h0;rw[if_neg h0,if_neg h0'];rfl
    rw[this];rfl
  ·rw[if_neg hb,if_neg hb];by_cases hd:n.disc=true
   ·rw[if_pos hd,if_pos hd];have:(b.up (b.con++more) g a c).con.tail=b.con.tail++more:=by
     show(b.con++more).tail=_;rw[hc];rfl
    rw[this];rfl
   ·rw[if_neg hd,if_neg hd];exact zV hc hk
end
noncomputable def Ev (top:Gl) (t:Tb) (b:BS) (s:SR):Prop:=(∃ k,BS.run top t k b=s)/\∀ b',s≠.next b'
noncomputable def dz (ns:List Nd):Prop:=∀ n,ns.getLast?=some n->n.isKern=false
noncomputable def cC (t:Tb):Nd->Prop
|.atm (.skip g _)=>g.so=0
|.atm _=>True
|.kern _=>True
|.mark _=>True
|.ins num _ _ _ _ ps=>(num=1\/num=2)/\(∃ row,t.lookup num=some row/\row.skip.so=0)/\∀ a∈ps,∀ g s,a=.skip g s->g.so=0
section
variable {b b':BS}{X more:List Nd}{g:Gl}{a c:Int}{t:Tb}{top:Gl}{n:Nd}{ns:List Nd}{s:SR}
theorem tW (hc:b.con=[]):Ev top t b (.ret none b):=⟨⟨1,kH hc⟩,fun ω h=>by cases h⟩
theorem kP (hc:b.con=n::ns) (h:b.step top t n=.next b') (e:Ev top t b' s):Ev top t b s:=by
 obtain⟨⟨k,hk⟩,hn⟩:=e;exact⟨⟨k+1,by rw[gZ hc,h];exact hk⟩,hn⟩
theorem tX {f:Option Pg}(hc:b.con=n::ns) (h:b.step top t n=.ret f b'):Ev top t b (.ret f b'):=⟨⟨1,by rw[gZ hc,h]⟩,fun ω h=>by cases h⟩
theorem qf {e:Nat}(hc:b.con=n::ns) (h:b.step top t n=.exc e b'):Ev top t b (.exc e b'):=⟨⟨1,by rw[gZ hc,h]⟩,fun ω h=>by cases h⟩
set_option tactic.hygienic true in
theorem zX (hc:b.con=n::ns) (h:b.step top t n=.next b'):b'.con=ns\/(b.state≠2/\b'.state=2/\n.isBox=true/\top.so=0/\∃ m,m.isKern=false/\m.isSkip=true/\b'.con=m::n::ns/\(∃ w,m=.atm (.skip (cy w top.s top.o top.sh top.so) 107))):=by
 have h2:∀ b',b.step2 t n=.next b'->b'.con=ns:=fun b' h=>by
  exact mK (P:=fun b'=>b'.con=ns) h fun b2 ht=>by
   show b2.con=ns;rw[tV ht,jB.1,hc];rfl
 unfold BS.step at h;by_cases hs:b.state=2
 ·rw[if_pos hs]at h
  split at h
  ·cases h
  ·split at h
   ·cases h
   ·exact .inl (h2 _ h)
 ·rw[if_neg hs]at h;by_cases hb:n.isBox=true
  ·rw[if_pos hb]at h
   split at h
   ·cases h
   ·rename_i ho;cases h;refine .inr ⟨hs,rfl,hb,by simpa using ho,.atm (.skip (cy (mx (top.w - n.ht) 0) top.s top.o top.sh top.so) 107),rfl,rfl,?_,mx (top.w - n.ht) 0,rfl⟩;show _::b.con=_;rw[hc]
  ·rw[if_neg hb]at h
   split at h
   ·cases h;refine .inl ?_;show b.con.tail=ns;rw[hc];rfl
   ·exact .inl (h2 _ h)
theorem Mk (h:dz (n::ns)):dz ns:=fun m hm=>by
 rcases ns with _|⟨x,xs⟩
 ·simp at hm
 ·exact h m (by rw[List.getLast?_cons_cons];exact hm)
theorem Ml (h:dz (n::ns)) {m:Nd}:dz (m::n::ns):=fun x hx=>h x (by rw[List.getLast?_cons_cons]at hx;exact hx)
theorem tY (h:dz (n::ns)) (hk:n.isKern=true):ns≠[]:=by
 rintro rfl;have:=h n rfl;rw[hk]at this;cases this
theorem zY (hc:b.con=n::ns) (hk:dz b.con) (h:b.step top t n=.next b'):dz b'.con:=by
 rw[hc]at hk;rcases zX hc h with h|⟨_,_,_,_,m,_,_,h,_⟩
 ·rw[h];exact Mk hk
 ·rw[h];exact Ml hk
theorem Mm (hc:b.con=n::ns) (hg:∀ m∈b.con,cC t m) (h:b.step top t n=.next b'):∀ m∈b'.con,cC t m:=by
 rcases zX hc h with h|⟨_,_,_,ho,m,_,_,h,w,hw⟩
 ·rw[h];exact fun m hm=>hg m (by rw[hc];exact .tail _ hm)
 ·rw[h];intro x hx;rcases V3.mp hx with rfl|hx
  ·rw[hw];show(cy w top.s top.o top.sh top.so).so=0;unfold cy;simp[ho]
  ·exact hg x (by rw[hc];exact hx)
set_option tactic.hygienic true in
theorem kS (hk:dz b.con) (h:Ev top t b s):(∀ f b',s=.ret (some f) b'->Ev top t (b.cn (b.con++more)) (.ret (some f) (b'.cn (b'.con++more))))/\
  ∀ b',s=.ret none b'->b'.con=[]/\∀ s',Ev top t (b'.cn more) s'->Ev top t (b.cn (b.con++more)) s':=by
 obtain⟨⟨k,hr⟩,hn⟩:=h;induction k generalizing b with
|zero=>exact(hn b hr.symm).elim
|succ k ih=>
  cases hc:b.con with
 |nil=>
   rw[kH hc]at hr;subst hr;refine⟨(fun f b' e=>nomatch e),(fun b' e=>?_)⟩;cases e;exact⟨hc,fun s' h=>by simpa using h⟩
 |cons n ns=>
   have hkk:=hk;rw[hc]at hkk;have su:=zW (b:=b) (top:=top) (t:=t) (more:=more) (g:=b.lglue) (a:=b.lkern) (c:=b.lpen) hc (tY hkk);have e0:b.up (b.con++more) b.lglue b.lkern b.lpen=b.cn (b.con++more):=rfl;rw[e0]at su;have hc':(b.cn (b.con++more)).con=n::(ns++more):=by show b.con++more=_;rw[hc];rfl
   rw[gZ hc]at hr;rw[<- hc];cases hs:b.step top t n with
  |next b2=>
    rw[hs]at hr su;obtain⟨i1,i2⟩:=ih (zY hc hk hs) hr;exact⟨fun f b' e=>kP hc' su (i1 f b' e),fun b' e=>⟨(i2 b' e).1,fun s' h=>kP hc' su ((i2 b' e).2 s' h)⟩⟩
  |ret f b2=>
    rw[hs]at hr su;subst hr;refine⟨fun f' b' e=>?_,fun b' e=>?_⟩
    ·cases e;exact tX hc' su
    ·cases e;exfalso;have h2:∀ b',b.step2 t n≠.ret none b':=fun b'=>mJ (P:=fun s=>s≠.ret none b') (fun ω ω=>nofun) (fun ω ω=>nofun) fun ω ω=>nofun
     unfold BS.step at hs
     split at hs
     ·split at hs
      ·cases hs
      ·split at hs
       ·rename_i hw;have:=tY hkk hw.1;have hl:=hw.2;rw[hc]at hl;cases ns with
       |nil=>exact this rfl
       |cons=>simp at hl
       ·exact h2 _ hs
     ·split at hs
      ·split at hs<;>cases hs
      ·split at hs
       ·cases hs
       ·exact h2 _ hs
  |exc e b2=>
    rw[hs]at hr;subst hr;exact⟨(fun f b' e=>nomatch e),(fun b' e=>nomatch e)⟩
set_option tactic.hygienic true in
theorem Mn (hne:b.con≠[]) (hk:dz b.con) (h:Ev top t b s) (hx:∀ e b',s≠.exc e b'):Ev top t (b.up b.con g a c) s:=by
 obtain⟨n,ns,hc⟩:=X1 hne;have hkk:=hk;rw[hc]at hkk;have su:=zW (b:=b) (top:=top) (t:=t) (more:=[]) (g:=g) (a:=a) (c:=c) hc (tY hkk);rw[List.append_nil]at su;have cn0:∀ b:BS,b.cn (b.con++[])=b:=fun b=>by rw[List.append_nil];rfl
 have hc':(b.up b.con g a c).con=n::ns:=hc;obtain⟨⟨k,hr⟩,hn⟩:=h;cases k with
|zero=>exact(hn b hr.symm).elim
|succ k=>
  rw[gZ hc]at hr;cases hs:b.step top t n with
 |next b2=>
   rw[hs]at hr su;simp only[mP,mQ,mR,cn0]at su;exact kP hc' su ⟨⟨k,hr⟩,hn⟩
 |ret f b2=>
   rw[hs]at hr su;subst hr;simp only[mP,mQ,mR,cn0]at su;exact tX hc' su
 |exc e b2=>
   rw[hs]at hr;subst hr;exact(hx e b2 rfl).elim
end
theorem Mo {s:Int}(h:0<=s):0<=iO s 1000:=by
 unfold iO;rw[if_neg (by exact nc ‹_› rfl),Int.fdiv_eq_ediv_of_nonneg _ (by decide)]
 lia
theorem tZ {c:Cl}{s:Int}(hc:c.Ok) (h:0<=s):0<=c.taken s:=by
 unfold Cl.taken
 split
 ·exact h
 ·exact Int.mul_nonneg (Mo h) hc.1
theorem Mp {ps:List At}(h:∀ a∈ps,a.Ok):0<=dP ps:=by
 induction ps with
|nil=>exact Z2 _
|cons a ps ih=>
  have ha:=h a (.head _);refine Z8 ?_ (ih fun b hb=>h b (.tail _ hb));induction a with
 |box l h' d=>obtain⟨a1,a2,a3,a4⟩:=ha;rw[pV];(first|exact Z8 ‹_› ‹_›|lia)
 |skip g s=>exact ha.1
 |pen v=>exact Z2 _
section
variable {N:Nat}{b b':BS}{X more:List Nd}{g:Gl}{a c:Int}{t:Tb}{top:Gl}{n:Nd}{ns:List Nd}{s:SR}
structure InsF (b b':BS):Prop where
 shr:b'.shrink<=mx b.shrink 0+10000
 s0:b'.s0<=mx b.s0 0+10000
 il:b'.ins.length<=b.ins.length+1
 st:(b'.state=b.state/\b'.total=b.total/\b'.depth=b.depth/\b'.mdepth=b.mdepth)\/(b.state=0/\b'.state=1/\b'.total=0/\b'.depth=0/\b'.mdepth=b.maxd)
 cst:b'.vsize=b.vsize/\b'.maxd=b.maxd/\b'.con=b.con/\b'.page=b.page
 goal:b'.goal<=mx b.goal b.vsize
theorem gq (x y:Int):x<=mx x y:=by unfold mx;split<;>first|exact Int.le_of_lt ‹_›|exact Z6.mp ‹_›|exact Z2 _|lia
theorem mS (x y:Int):y<=mx x y:=by unfold mx;split<;>first|exact Int.le_of_lt ‹_›|exact Z6.mp ‹_›|exact Z2 _|lia
theorem qg {α:Type}(π:BS->α) (h1:∀ b k,π (b.freeze k)=π b) (h2:∀ (b:BS) es,π { b with ins:=es }=π b) (h3:∀ b g,π (BS.addS b g)=π b) {row:Cl}{num:Int}{e:Ins}{f:Bool}:π (b.insBeg row num e f)=π b:=by
 have h0:π (if b.state=0 then b.freeze 1 else b)=π b:=by split;exact h1 _ _;rfl
 cases f
 ·exact h0
 ·exact(h3 _ _).trans ((h2 _ _).trans h0)
theorem i9 {α:Type}(π:BS->α) (h2:∀ (b:BS) es,π { b with ins:=es }=π b) (h3:∀ b g,π (BS.addS b g)=π b) {row:Cl}{num:Int}{e:Ins}{f:Bool}:π (b.insBeg row num e f)=π (if b.state=0 then b.freeze 1 else b):=by
 cases f
 ·rfl
 ·exact(h3 _ _).trans (h2 _ _)
theorem Mq {row:Cl}{num:Int}{e:Ins}{f:Bool}:(b.insBeg row num e f).s0=(if b.state=0 then b.freeze 1 else b).s0\/(b.insBeg row num e f).s0=(if b.state=0 then b.freeze 1 else b).s0+row.skip.s:=by
 unfold BS.insBeg;generalize (if b.state=0 then b.freeze 1 else b)=b0;cases f
 ·exact .inl rfl
 ·show(if row.skip.o=0 then b0.s0+row.skip.s else b0.s0)=_\/(if row.skip.o=0 then b0.s0+row.skip.s else b0.s0)=_
  split
  ·exact .inr rfl
  ·exact .inl rfl
theorem Mr {row:Cl}{num size deep cost:Int}{ps:List At}(hr:row.Ok) (hps:∀ a∈ps,a.Ok) (hs:0<=size) (h:b.insert row num size deep cost ps=.ok b'):InsF b b':=by
 have key:∀ (e:Ins) (f:Bool) (p:Int),InsF b ((b.insBeg row num e f).insEnd row num size ps e ⟨b.igoal row f,b.ishr row f,row.taken size,p⟩):=fun e f p=>by
  have t1:=tZ hr hs;have t2:=tZ hr (Mp (ps:=ps.take p.toNat) fun a ha=>hps a (List.mem_of_mem_take ha));have t3:=tZ hr hr.2.2.2.2.2.2.2.2.2;obtain⟨f0,f1,ho,w0,w1,s0,s1,h0,h1,hh⟩:=hr;have g1:b.igoal row f<=mx b.goal b.vsize:=by
   have:=gq b.goal b.vsize;have:=mS b.goal b.vsize;unfold BS.igoal
   split<;>split<;>first|assumption|lia
  have g2:b.ishr row f<=mx b.shrink 0+10000:=by
   have:=gq b.shrink 0;have:=mS b.shrink 0;unfold BS.ishr
   split<;>split<;>first|exact ia ‹_›|exact ib ‹_› ‹_› rfl|lia
  have m1:=gq b.s0 0;have m2:=mS b.s0 0;have e1:(b.insBeg row num e f).s0<=mx b.s0 0+10000:=by
   have z:(if b.state=0 then b.freeze 1 else b).s0=0\/(if b.state=0 then b.freeze 1 else b).s0=b.s0:=by split;exact .inl rfl;exact .inr rfl
   have y:=Mq (b:=b) (row:=row) (num:=num) (e:=e) (f:=f);rcases y with y|y<;>rw[y]<;>rcases z with z|z<;>rw[z]<;>first|exact ia ‹_›|exact ib ‹_› ‹_› rfl|lia
  have e2:(b.insBeg row num e f).ins.length<=b.ins.length+1:=by
   rw[pW];split
   ·simp
   ·lia
  have e3:((b.insBeg row num e f).state=b.state/\(b.insBeg row num e f).total=b.total/\(b.insBeg row num e f).depth=b.depth/\(b.insBeg row num e f).mdepth=b.mdepth)\/(b.state=0/\(b.insBeg row num e f).state=1/\(b.insBeg row num e f).total=0/\(b.insBeg row num e f).depth=0/\(b.insBeg row num e f).mdepth=b.maxd):=by
   by_cases hz:b.state=0
   ·have z:(if b.state=0 then b.freeze 1 else b)=b.freeze 1:=if_pos hz;exact .inr ⟨hz,(i9 BS.state (fun ω ω=>rfl) (fun ω ω=>rfl)).trans (congrArg _ z),(i9 BS.total (fun ω ω=>rfl) (fun ω ω=>rfl)).trans (congrArg _ z),(i9 BS.depth (fun ω ω=>rfl) (fun ω ω=>rfl)).trans (congrArg _ z),(i9 BS.mdepth (fun ω ω=>rfl) (fun ω ω=>rfl)).trans (congrArg _ z)⟩
   ·have z:(if b.state=0 then b.freeze 1 else b)=b:=if_neg hz;exact .inl ⟨(i9 BS.state (fun ω ω=>rfl) (fun ω ω=>rfl)).trans (congrArg _ z),(i9 BS.total (fun ω ω=>rfl) (fun ω ω=>rfl)).trans (congrArg _ z),(i9 BS.depth (fun ω ω=>rfl) (fun ω ω=>rfl)).trans (congrArg _ z),(i9 BS.mdepth (fun ω ω=>rfl) (fun ω ω=>rfl)).trans (congrArg _ z)⟩
  have e4:(b.insBeg row num e f).vsize=b.vsize/\(b.insBeg row num e f).maxd=b.maxd/\(b.insBeg row num e f).con=b.con/\(b.insBeg row num e f).page=b.page:=
   ⟨qg BS.vsize (fun ω ω=>rfl) (fun ω ω=>rfl) (fun ω ω=>rfl),qg BS.maxd (fun ω ω=>rfl) (fun ω ω=>rfl) (fun ω ω=>rfl),qg BS.con (fun ω ω=>rfl) (fun ω ω=>rfl) (fun ω ω=>rfl),qg BS.page (fun ω ω=>rfl) (fun ω ω=>rfl) (fun ω ω=>rfl)⟩
  have ul:∀ (k:Int) (e:Ins) (es:List (Int × Ins)),(bN k e es).length=es.length:=fun k e es=>by unfold bN;simp
  unfold BS.insEnd BS.splitP
  split
  ·exact⟨g2,e1,by dsimp only;rw[ul];exact e2,e3,e4,by dsimp only;lia⟩
  ·exact⟨g2,e1,by dsimp only;rw[ul,ul];exact e2,e3,e4,by dsimp only;lia⟩
 have m1:=gq b.shrink 0;have m2:=gq b.s0 0;have m3:=gq b.goal b.vsize;exact mH (P:=InsF b) h ⟨by dsimp only;(first|exact ia ‹_›|lia),by dsimp only;(first|exact ia ‹_›|lia),by dsimp only;lia,.inl ⟨rfl,rfl,rfl,rfl⟩,⟨rfl,rfl,rfl,rfl⟩,m3⟩ key
structure Inv (N:Nat) (t:Tb) (b:BS):Prop where
 n16:N<=16
 cnt:b.page.length+b.con.length+(if b.state=2 then 0 else 1)<=N
 nodes:∀ n∈b.con,n.Ok t
 pg:∀ n∈b.page,n.Ok t
 shr:b.shrink<=20000 * b.page.length
 s0:b.s0<=20000 * b.page.length
 il:b.ins.length<=b.page.length
 tot:0<=b.total/\0<=b.depth/\0<=b.mdepth/\0<=b.maxd
 gl:b.goal<=30000/\b.vsize<=30000
structure TopOk (top:Gl):Prop where
 w:0<=top.w/\top.w<=10000
 s:0<=top.s/\top.s<=10000
 sh:0<=top.sh/\top.sh<=10000
 o:top.o=0\/top.o=1\/top.o=2\/top.o=3
 so:0<=top.so/\top.so<=3
theorem o4 {o:Int}(h:o=0\/o=1\/o=2\/o=3):0<=o/\o<=3:=by
 rcases h with rfl|rfl|rfl|rfl<;>decide
theorem Inv.sok (h:Inv N t b) (ht:TopOk top):SOk t top b:=by
 have:=h.cnt;have n16:=h.n16;have h1:=h.shr;have h2:=h.s0;have h3:=h.il;obtain⟨w,s,sh,o,so⟩:=ht;exact⟨by lia,by lia,by lia,by lia,by lia,h.nodes,⟨(o4 o).1,(o4 o).2,so⟩,w,⟨by exact dn (And.left ‹_›),by exact bS (And.right ‹_›) rfl⟩,⟨by exact dn (And.left ‹_›),by exact bS (And.right ‹_›) rfl⟩⟩
theorem kU (h:Inv N t b) (hc:b.con=n::ns) (hn:n.Ok t) {b1:BS}(e1:b1.con=b.con) (e2:b1.page=b.page) (hst:(b1.state=2↔b.state=2)) (hs:b1.shrink<=mx b.shrink 0+10000) (h0:b1.s0<=mx b.s0 0+10000) (hi:b1.ins.length<=b.ins.length+1)
  (ht:0<=b1.total/\0<=b1.depth/\0<=b1.mdepth/\0<=b1.maxd) (hg:b1.goal<=30000/\b1.vsize<=30000):Inv N t (b1.fin n):=by
 have c:=h.cnt;have hl:b.con.length=ns.length+1:=by rw[hc];rfl
 have f:(b1.fin n).page=b.page++[n]/\(b1.fin n).con=ns/\(b1.fin n).state=b1.state/\(b1.fin n).shrink=b1.shrink/\(b1.fin n).s0=b1.s0/\(b1.fin n).ins=b1.ins/\(b1.fin n).goal=b1.goal/\(b1.fin n).vsize=b1.vsize/\(0<=(b1.fin n).total/\0<=(b1.fin n).depth/\0<=(b1.fin n).mdepth/\0<=(b1.fin n).maxd):=by
  unfold BS.fin
  split
  ·refine⟨by dsimp only;rw[e2],by dsimp only;rw[e1,hc];rfl,rfl,rfl,rfl,rfl,rfl,rfl,by dsimp only;lia,by dsimp only;lia,ht.2.2.1,ht.2.2.2⟩
  ·refine⟨by dsimp only;rw[e2],by dsimp only;rw[e1,hc];rfl,rfl,rfl,rfl,rfl,rfl,rfl,ht⟩
 obtain⟨f1,f2,f3,f4,f5,f6,f7,f8,f9⟩:=f;have m1:mx b.shrink 0<=20000 * b.page.length:=by have:=h.shr;unfold mx;split<;>first|assumption|lia
 have m2:mx b.s0 0<=20000 * b.page.length:=by have:=h.s0;unfold mx;split<;>first|assumption|lia
 have hif:(if (b1.fin n).state=2 then 0 else 1)=(if b.state=2 then 0 else 1):=by
  rw[f3];by_cases hz:b.state=2
  ·rw[if_pos (hst.mpr hz),if_pos hz]
  ·rw[if_neg (fun z=>hz (hst.mp z)),if_neg hz]
 refine⟨h.n16,?_,?_,?_,?_,?_,?_,f9,by rw[f7,f8];exact hg⟩
 ·rw[hif,f1,f2,V8,X8];lia
 ·rw[f2];exact fun m hm=>h.nodes m (by rw[hc];exact .tail _ hm)
 ·rw[f1];intro m hm;rcases U5.mp hm with hm|hm
  ·exact h.pg m hm
  ·obtain rfl:=U6.mp hm;exact hn
 ·rw[f1,f4,V8,X8];lia
 ·rw[f1,f5,V8,X8];lia
 ·rw[f1,f6,V8,X8];have:=h.il;lia
theorem zZ (h:Inv N t b):Inv N t (b.tried n).1/\(b.tried n).1.state=b.state:=
 pS (P:=fun z=>Inv N t z/\z.state=b.state) ⟨h,rfl⟩ fun ω=>⟨⟨h.n16,h.cnt,h.nodes,h.pg,h.shr,h.s0,X9 (Nat.le_of_eq (V0 _)) h.il,h.tot,h.gl⟩,rfl⟩
theorem Ms (h:Inv N t b) (hc:b.con=n::ns) (ht:b.take t n=.ok b'):Inv N t b':=by
 have hn:=h.nodes n (by rw[hc];exact .head _);have m1:=gq b.shrink 0;have m2:=gq b.s0 0;obtain⟨t1,t2,t3,t4⟩:=h.tot;induction n with
|atm z=>
  induction z with
 |box l h' d=>
   cases ht;obtain⟨a1,a2,a3,a4⟩:=hn;exact kU h hc ⟨a1,a2,a3,a4⟩ rfl rfl Iff.rfl (by dsimp only;(first|exact ia ‹_›|lia)) (by dsimp only;(first|exact ia ‹_›|lia)) (by dsimp only;lia) ⟨by dsimp only;lia,a3,t3,t4⟩ h.gl
 |skip g' s=>
   cases ht;have hn':=hn;obtain⟨a1,a2,a3,a4,a5,a6,_⟩:=hn;refine kU h hc hn' rfl rfl Iff.rfl (by dsimp only;(first|exact ib ‹_› ‹_› rfl|lia)) ?_ (by dsimp only[BS.addS];lia) ⟨by dsimp only[BS.addS];lia,Z2 _,t3,t4⟩ h.gl;dsimp only[BS.addS]
   split<;>lia
 |pen v=>cases ht;exact kU h hc hn rfl rfl Iff.rfl (by exact ia ‹_›) (by exact ia ‹_›) (by lia) h.tot h.gl
|kern w=>
  cases ht;obtain⟨a1,a2⟩:=hn;exact kU h hc ⟨a1,a2⟩ rfl rfl Iff.rfl (by dsimp only;(first|exact ia ‹_›|lia)) (by dsimp only;(first|exact ia ‹_›|lia)) (by dsimp only;lia) ⟨by dsimp only;lia,Z2 _,t3,t4⟩ h.gl
|mark m=>cases ht;exact kU h hc hn rfl rfl Iff.rfl (by exact ia ‹_›) (by exact ia ‹_›) (by lia) h.tot h.gl
|ins num size deep tw cost ps=>
  have hn':=hn;obtain⟨⟨row,hrow,hro⟩,z0,_,_,_,_,_,_,_,hps,_⟩:=hn;unfold BS.take at ht;dsimp only at ht;rw[hrow]at ht;dsimp only at ht;rcases h2:b.insert row num size deep cost ps with e|b2
  ·rw[h2]at ht;cases ht
  ·rw[h2]at ht;cases ht;have F:=Mr hro hps z0 h2;obtain⟨v1,v2,v3,v4⟩:=F.cst;have g:=F.goal;obtain⟨g1,g2⟩:=h.gl;have:mx b.goal b.vsize<=30000:=by unfold mx;split<;>first|assumption|lia
   refine kU h hc hn' v3 v4 ?_ F.shr F.s0 F.il ?_ ⟨by exact Z7 ‹_› ‹_›,by rw[v1];exact g2⟩
   ·rcases F.st with ⟨q,_⟩|⟨q1,q2,_⟩
    ·rw[q]
    ·rw[q1,q2];constructor<;>intro z<;>cases z
   ·rcases F.st with ⟨_,q1,q2,q3⟩|⟨_,_,q1,q2,q3⟩
    ·rw[q1,q2,q3,v2];exact h.tot
    ·rw[q1,q2,q3,v2];exact⟨Z2 _,Z2 _,t4,t4⟩
theorem qh (h:Inv N t b):Inv N t (b.remember n):=⟨h.n16,h.cnt,h.nodes,h.pg,h.shr,h.s0,h.il,h.tot,h.gl⟩
theorem Mt (hn:n.Ok t):0<=n.ht:=by
 revert hn
 induction n with
|atm z=>
  induction z with
 |box l h' d=>exact fun hn=>hn.1
 |_=>exact fun ω=>Z2 _
|_=>exact fun ω=>Z2 _
theorem t8 (ht:TopOk top) (h:Inv N t b) (hc:b.con=n::ns) (hs:b.step top t n=.next b'):Inv N t b':=by
 have hn:=h.nodes n (by rw[hc];exact .head _);obtain⟨t1,t2,t3,t4⟩:=h.tot;have cn:=h.cnt;have hl:b.con.length=ns.length+1:=by rw[hc];rfl
 refine tu (P:=Inv N t) hs (fun h2=>mK (P:=Inv N t) h2 fun b2 hk=>qh (Ms (zZ h).1 (by rw[jB.1];exact hc) hk)) (fun h0 hb ho'=>?_) fun h0=>?_
 ·rw[if_neg h0]at cn;refine qh ?_;have hh:0<=n.ht:=Mt hn;obtain⟨w,s,sh,o,so⟩:=ht;have hk:(Nd.atm (.skip (cy (mx (top.w - n.ht) 0) top.s top.o top.sh top.so) 107)).Ok t:=by
   have:0<=mx (top.w - n.ht) 0/\mx (top.w - n.ht) 0<=10000:=by unfold mx;split<;>first|exact Int.le_of_lt ‹_›|exact Z6.mp ‹_›|exact Z2 _|lia
   refine⟨this.1,this.2,s.1,s.2,sh.1,sh.2,?_,?_,?_,.inr rfl⟩
   ·show(if top.s=0 then 0 else top.o)=0\/_;unfold cy;dsimp only
    split
    ·exact .inl rfl
    ·exact o
   ·unfold cy;dsimp only;split<;>lia
   ·unfold cy;dsimp only;split<;>first|exact bS (And.right ‹_›) rfl|lia
  have f:(b.begin top n.ht).page=b.page/\(b.begin top n.ht).con=Nd.atm (.skip (cy (mx (top.w - n.ht) 0) top.s top.o top.sh top.so) 107)::b.con/\(b.begin top n.ht).state=2/\(b.begin top n.ht).shrink<=mx b.shrink 0/\(b.begin top n.ht).s0<=mx b.s0 0/\(b.begin top n.ht).ins=b.ins/\((b.begin top n.ht).goal=b.goal\/(b.begin top n.ht).goal=b.vsize)/\(b.begin top n.ht).vsize=b.vsize/\(0<=(b.begin top n.ht).total/\0<=(b.begin top n.ht).depth/\0<=(b.begin top n.ht).mdepth/\0<=(b.begin top n.ht).maxd):=by
   have m1:=gq b.shrink 0;have m2:=gq b.s0 0;have m3:=mS b.shrink 0;have m4:=mS b.s0 0;unfold BS.begin BS.freeze BS.clear;by_cases hz:b.state=0
   ·rw[if_pos hz];exact⟨rfl,rfl,rfl,m3,m4,rfl,.inr rfl,rfl,Z2 _,Z2 _,t4,t4⟩
   ·rw[if_neg hz];exact⟨rfl,rfl,rfl,m1,m2,rfl,.inl rfl,rfl,t1,t2,t3,t4⟩
  obtain⟨f1,f2,f3,f4,f5,f6,f7,f8,f9⟩:=f;have m1:mx b.shrink 0<=20000 * b.page.length:=by have:=h.shr;unfold mx;split<;>first|assumption|lia
  have m2:mx b.s0 0<=20000 * b.page.length:=by have:=h.s0;unfold mx;split<;>first|assumption|lia
  obtain⟨g1,g2⟩:=h.gl;refine⟨h.n16,?_,?_,by rw[f1];exact h.pg,by rw[f1];(first|exact Z7 ‹_› ‹_›|lia),by rw[f1];(first|exact Z7 ‹_› ‹_›|lia),by rw[f1,f6];exact h.il,f9,by rw[f8];rcases f7 with f7|f7<;>rw[f7]<;>lia⟩
  ·rw[if_pos f3,f1,f2,V4];lia
  ·rw[f2];intro m hm;rcases V3.mp hm with rfl|hm
   ·exact hk
   ·exact h.nodes m hm
 ·rw[if_neg h0]at cn;refine⟨h.n16,?_,fun m hm=>h.nodes m (List.mem_of_mem_tail hm),h.pg,h.shr,h.s0,h.il,h.tot,h.gl⟩;show b.page.length+b.con.tail.length+(if b.state=2 then 0 else 1)<=N;rw[if_neg h0,hc,List.tail_cons];lia
end
noncomputable def bo (b:BS):Prop:=∀ k∈b.ins.map (fun q=>q.1),k=1\/k=2
noncomputable def BS.mu (b:BS):Nat:=2 * b.con.length+(if b.state=2 then 0 else 3)
section
variable {row:Cl}{num size deep cost:Int}{ps:List At}
variable {N:Nat}{b b':BS}{X more:List Nd}{g:Gl}{a c:Int}{t:Tb}{top:Gl}{n:Nd}{ns:List Nd}{s:SR}
theorem Mu (h:b.insert row num size deep cost ps=.ok b'):(b'.state=2↔b.state=2):=by
 have key:∀ (e:Ins) (f:Bool) (m:Mid),(((b.insBeg row num e f).insEnd row num size ps e m).state=2↔b.state=2):=fun e f m=>by
  have e1:((b.insBeg row num e f).insEnd row num size ps e m).state=(b.insBeg row num e f).state:=by unfold BS.insEnd BS.splitP;split<;>rfl
  rw[e1];unfold BS.insBeg BS.addS BS.freeze BS.clear;cases f<;>by_cases hz:b.state=0<;>simp[hz]
 exact mH (P:=fun b'=>b'.state=2↔b.state=2) h Iff.rfl fun ω ω ω=>key _ _ _
theorem z7:(b.fin n).state=b.state:=by unfold BS.fin;split<;>rfl
theorem Mv (h:b.take t n=.ok b'):(b'.state=2↔b.state=2):=
 pX (P:=fun b'=>b'.state=2↔b.state=2) h (fun ω ω ω ω ω ω ω=>by rw[z7]) fun ω ω ω ω ω ω ω ω ω h2=>by rw[z7];exact Mu h2
theorem Mw:(b.tried n).1.state=b.state:=pS (P:=fun z=>z.state=b.state) rfl fun ω=>rfl
theorem z8 (h:b.step2 t n=.next b'):(b'.state=2↔b.state=2):=
 mK (P:=fun b'=>b'.state=2↔b.state=2) h fun b2 hk=>by
  show b2.state=2↔b.state=2;rw[<- Mw (b:=b) (n:=n)];exact Mv hk
theorem Aa (hc:b.con=n::ns) (h:b.step2 t n=.next b'):b'.con=ns:=
 mK (P:=fun b'=>b'.con=ns) h fun b2 ht=>by
  show b2.con=ns;rw[tV ht,jB.1,hc];rfl
theorem Mx (hc:b.con=n::ns) (h:b.step top t n=.next b'):b'.mu < b.mu:=by
 have h2:b.step2 t n=.next b'->b'.mu < b.mu:=fun h=>by
  have e1:=Aa hc h;have e2:=z8 h;unfold BS.mu;rw[e1,hc,V4];by_cases hz:b.state=2
  ·rw[if_pos (e2.mpr hz),if_pos hz];lia
  ·rw[if_neg (fun z=>hz (e2.mp z)),if_neg hz];lia
 refine tu (P:=fun b'=>b'.mu < b.mu) h h2 (fun hs ω ω=>?_) fun hs=>?_
 ·have e1:((b.begin top n.ht).remember n).con.length=b.con.length+1:=rfl;have e2:((b.begin top n.ht).remember n).state=2:=rfl;unfold BS.mu;rw[e1,if_pos e2,if_neg hs];lia
 ·have e1:(({ b with con:=b.con.tail }:BS).remember n).con=ns:=by show b.con.tail=ns;rw[hc];rfl
  have e2:(({ b with con:=b.con.tail }:BS).remember n).state=b.state:=rfl;unfold BS.mu;rw[e1,e2,if_neg hs,hc,V4];lia
set_option tactic.hygienic true in
theorem mT:∀ (m:Nat) (b:BS),b.mu<=m->∃ s,Ev top t b s
|m,b,h=>by
  cases hc:b.con with
 |nil=>exact⟨_,tW hc⟩
 |cons n ns=>
   cases hs:b.step top t n with
  |ret f b'=>exact⟨_,tX hc hs⟩
  |exc e b'=>exact⟨_,qf hc hs⟩
  |next b'=>
    have:=Mx hc hs
    match m,h with
   |0,h=>lia
   |m+1,h=>
     obtain⟨s,hs'⟩:=mT m b' (by lia);exact⟨s,kP hc hs hs'⟩
theorem My {H D:Int}(hg:∀ a∈ps,∀ g s,a=.skip g s->g.so=0):∀ (is:List Nat) (c:Col) (r:Int × Int × Int),ek ps H D is c r≠none:=by
 intro ll;induction ll with
|nil=>
  intro c r;exact fun h=>nomatch h
|cons i is IH=>
  intro c r;exact by
    rw[jx]
    split
    ·exact fun h=>nomatch h
    ·have:c.next D ps[i]?≠none:=by
      cases hi:ps[i]? with
     |none=>exact fun h=>nomatch h
     |some a=>
       induction a with
      |box=>exact fun h=>nomatch h
      |pen=>exact fun h=>nomatch h
      |skip g s=>
        have:=hg _ (W6 hi) g s rfl;rw[sW,if_neg (fun z=>z this)];exact fun h=>nomatch h
     intro h;rcases Option.bind_eq_none_iff.mp h with h;obtain⟨c',hc⟩:=Option.ne_none_iff_exists'.mp this;exact IH _ _ (h c' hc)
theorem Mz {H D:Int}(hg:∀ a∈ps,∀ g s,a=.skip g s->g.so=0):vb ps H D≠none:=by
 unfold vb;cases h:bb ps H D with
|none=>exact absurd h (My hg _ _ _)
|some r=>exact fun z=>nomatch z
theorem MA (hr:row.skip.so=0) (hg:∀ a∈ps,∀ g s,a=.skip g s->g.so=0):∃ b',b.insert row num size deep cost ps=.ok b':=by
 have hp:∀ esz f,b.iplace row size deep esz ps f≠none:=fun esz f=>by
  unfold BS.iplace
  split
  ·cases h:vb ps (row.room (b.igoal row f - b.iused) esz) deep with
  |none=>exact absurd h (Mz hg)
  |some r=>exact fun z=>nomatch z
  ·exact fun z=>nomatch z
 unfold BS.insert;rcases b.ins.lookup num with _|e
 ·dsimp only;rw[if_neg (fun z=>z hr)];obtain⟨p,h⟩:=Option.ne_none_iff_exists'.mp (hp row.held true);rw[h];exact⟨_,rfl⟩
 ·dsimp only
  split
  ·exact⟨_,rfl⟩
  ·obtain⟨p,h⟩:=Option.ne_none_iff_exists'.mp (hp e.size false);rw[h];exact⟨_,rfl⟩
theorem MB (hn:cC t n):∃ b2,b.take t n=.ok b2:=by
 induction n with
|atm z=>induction z<;>exact⟨_,rfl⟩
|kern w=>exact⟨_,rfl⟩
|mark m=>exact⟨_,rfl⟩
|ins num size deep tw cost ps=>
  refine hn.2.1.elim fun row z0=>?_;have hrow:=z0.1;have hso:=z0.2;have hps:=hn.2.2;clear z0 hn
  obtain⟨b2,h2⟩:=MA (b:=b) (num:=num) (size:=size) (deep:=deep) (cost:=cost) hso hps;exact⟨_,by unfold BS.take;dsimp only;rw[hrow];dsimp only;rw[h2]⟩
theorem MC (hn:cC t n):¬ n.bad=true:=by
 revert hn
 induction n with
|atm z=>
  induction z with
 |skip g s=>intro hn;have:g.so=0:=hn;simp[Nd.bad,this]
 |_=>exact fun ω=>nofun
|_=>exact fun ω=>nofun
theorem Ab (hn:cC t n):∀ e b',b.step2 t n≠.exc e b':=fun e b' h=>by
 obtain⟨b2,h2⟩:=MB (b:=(b.tried n).1) hn;exact mJ (P:=fun s=>s≠.exc e b') (fun ω ω=>nofun) (fun c hc=>nomatch h2.symm.trans hc) (fun ω ω=>nofun) h
set_option tactic.hygienic true in
theorem Ac (hn:cC t n) (ho:top.so=0):∀ e b',b.step top t n≠.exc e b':=fun e b' h=>by
 unfold BS.step at h
 split at h
 ·split at h
  ·exact MC hn ‹_›
  ·split at h
   ·cases h
   ·exact Ab hn _ _ h
 ·split at h
  ·split at h
   ·rename_i z;exact z ho
   ·cases h
  ·split at h
   ·cases h
   ·exact Ab hn _ _ h
theorem MD (hk:bo b) (hn:num=1\/num=2) (h:b.insert row num size deep cost ps=.ok b'):bo b':=by
 have key:∀ (e:Ins) (f:Bool) (m:Mid),bo ((b.insBeg row num e f).insEnd row num size ps e m):=fun e f m=>by
  unfold bo;rw[tq,pW]
  split
  ·intro k hk';rw[V2]at hk';rcases U5.mp hk' with h|h
   ·exact hk k h
   ·simp at h;subst h;exact hn
  ·exact hk
 exact mH (P:=bo) h hk fun ω ω ω=>key _ _ _
theorem Ad:(b.fin n).ins=b.ins:=by unfold BS.fin;split<;>rfl
theorem t9 (hk:bo b):bo (b.tried n).1:=by unfold bo;rw[jB.2.2.1];exact hk
theorem MF (hn:cC t n) (hk:bo b) (h:b.step2 t n=.next b'):bo b':=
 mK (P:=bo) h fun b2 ht=>pX (P:=fun b2=>bo (b2.remember n)) ht
  (fun ω ω ω ω ω ω ω=>by show bo (BS.fin _ n);unfold bo;rw[Ad];exact t9 hk)
  fun ω ω ω ω ω ω ω b3 e h3=>by
   show bo (b3.fin n);unfold bo;rw[Ad];rw[e]at hn;exact MD (t9 hk) hn.1 h3
theorem MG {h:Int}:(b.begin g h).ins=b.ins:=by unfold BS.begin;dsimp only;split<;>rfl
theorem MI (hn:cC t n) (hk:bo b) (h:b.step top t n=.next b'):bo b':=
 tu (P:=bo) h (MF hn hk) (fun ω ω ω=>by show bo (b.begin top n.ht);unfold bo;rw[MG];exact hk) fun ω=>hk
structure Fine (N:Nat) (t:Tb) (b:BS):Prop where
 inv:Inv N t b
 keys:bo b
 nke:dz b.con
 good:∀ n∈b.con,cC t n
theorem MJ (ht:TopOk top) (h:Fine N t b) (hc:b.con=n::ns) (hs:b.step top t n=.next b'):Fine N t b':=
 ⟨t8 ht h.inv hc hs,MI (h.good n (by rw[hc];exact .head _)) h.keys hs,zY hc h.nke hs,Mm hc h.good hs⟩
set_option tactic.hygienic true in
theorem qi (ht:TopOk top) (ho:top.so=0) (h:Fine N t b) (e:Ev top t b s):∃ f b',s=.ret f b'/\Inv N t b'/\bo b'/\dz b'.con/\(∀ n∈b'.con,cC t n)/\(f=none->b'.con=[]):=by
 have hap:=kS (more:=[]) h.nke e;obtain⟨⟨k,hr⟩,hn⟩:=e;induction k generalizing b with
|zero=>exact(hn b hr.symm).elim
|succ k ih=>
  cases hc:b.con with
 |nil=>
   rw[kH hc]at hr;subst hr;exact⟨none,b,rfl,h.inv,h.keys,h.nke,h.good,fun ω=>hc⟩
 |cons n ns=>
   rw[gZ hc]at hr;have hg:=h.good n (by rw[hc];exact .head _);cases hs:b.step top t n with
  |next b2=>
    rw[hs]at hr;have f2:=MJ ht h hc hs;exact ih f2 (kS f2.nke ⟨⟨k,hr⟩,hn⟩) hr
  |exc e b2=>exact absurd hs (Ac hg ho e b2)
  |ret f b2=>
    rw[hs]at hr;subst hr;have hcon:f=none->b2.con=[]:=fun hf=>by subst hf;exact(hap.2 b2 rfl).1
    refine⟨f,b2,rfl,?_⟩;have h2:b.step2 t n=.ret f b2->Inv N t b2/\bo b2/\dz b2.con/\(∀ n∈b2.con,cC t n):=fun h2=>by
     revert h2
     refine mJ (P:=fun s=>s=.ret f b2->Inv N t b2/\bo b2/\dz b2.con/\∀ n∈b2.con,cC t n) (fun ω ω h2=>?_) (fun ω ω=>nofun) fun ω ω=>nofun
     cases h2;have e1:((b.tried n).1.remember n).con=b.con:=jB.1;exact⟨qh (zZ h.inv).1,t9 h.keys,by rw[e1];exact h.nke,by rw[e1];exact h.good⟩
    have:Inv N t b2/\bo b2/\dz b2.con/\(∀ n∈b2.con,cC t n):=by
     unfold BS.step at hs
     split at hs
     ·split at hs
      ·cases hs
      ·split at hs
       ·cases hs;exact⟨qh h.inv,h.keys,h.nke,h.good⟩
       ·exact h2 hs
     ·split at hs
      ·split at hs<;>cases hs
      ·split at hs
       ·cases hs
       ·exact h2 hs
    exact⟨this.1,this.2.1,this.2.2.1,this.2.2.2,hcon⟩
end
section
variable {deep tw:Int}
variable {N:Nat}{b b':BS}{X more:List Nd}{g:Gl}{a c:Int}{t:Tb}{top other:Gl}{n:Nd}{ns:List Nd}{s:SR}{f1 m1 h1 f2 m2 h2:Int}{g1 g2:Gl}
theorem MK (hs:b.state=2) (hc:b.con=Nd.atm (.skip ⟨500,0,0,100,1⟩ 0)::more):Ev top t b (.exc 88 b):=by
 refine qf hc ?_;unfold BS.step;rw[if_pos hs,if_pos (by simp[Nd.bad])]
theorem Ae (hs:b.state≠2) (hc:b.con=Nd.atm (.skip ⟨500,0,0,100,1⟩ 0)::more) (e:Ev top t ((b.cn more).up more ⟨500,0,0,100,1⟩ 0 0) s):Ev top t b s:=by
 refine kP hc ?_ e;unfold BS.step;rw[if_neg hs,if_neg (by simp[Nd.isBox]),if_pos (by rfl),hc];rfl
theorem Af (hk:bo b) {k:Int}(h1:k≠1) (h2:k≠2):b.ins.lookup k=none:=by
 cases h:b.ins.lookup k with
|none=>rfl
|some e=>
  exfalso;have:k∈b.ins.map (fun q=>q.1):=by
   have hm:∀ es:List (Int × Ins),es.lookup k=some e->k∈es.map (fun q=>q.1):=by
    intro es;induction es with
   |nil=>intro h;simp at h
   |cons p es ih=>
     intro h;obtain⟨j,e'⟩:=p;rw[V9]at h;by_cases hj:k=j
     ·subst hj;simp
     ·rw[beq_eq_false_iff_ne.mpr hj]at h;rw[V1];exact .tail _ (ih h)
   exact hm _ h
  rcases hk k this with h|h
  ·exact h1 h
  ·exact h2 h
theorem Ag {num size cost:Int}{ps:List At}{row:Cl}{e:Nat}(hc:b.con=Nd.ins num size deep tw cost ps::more) (hr:t.lookup num=some row) (hi:b.insert row num size deep cost ps=.error e):Ev top t b (.exc e b):=by
 have ht:(b.tried (.ins num size deep tw cost ps))=(b,none):=rfl;have h2:b.step2 t (.ins num size deep tw cost ps)=.exc e b:=by
  unfold BS.step2;rw[ht];dsimp only;unfold BS.take;dsimp only;rw[hr];dsimp only;rw[hi]
 refine qf hc ?_;unfold BS.step;by_cases hs:b.state=2
 ·rw[if_pos hs,if_neg (by simp[Nd.bad]),if_neg (by simp[Nd.isKern])];exact h2
 ·rw[if_neg hs,if_neg (by simp[Nd.isBox]),if_neg (by simp[Nd.disc])];exact h2
theorem ML {size cost:Int}{ps:List At}(hk:bo b) (hc:b.con=Nd.ins 3 size deep tw cost ps::more):Ev top (tb f1 m1 g1 h1 f2 m2 g2 h2) b (.exc 88 b):=by
 refine Ag (row:=⟨3,1000,9000,⟨0,0,0,10,3⟩,0⟩) hc rfl ?_;unfold BS.insert;rw[Af hk (by decide) (by decide)];dsimp only;rw[if_pos (by decide)]
theorem MM {H D:Int}(hH:1000<=H) (hD:0<=D):vb [.box 9 1000 0,.skip ⟨0,0,0,7,2⟩ 0,.box 8 400000 0] H D=none:=by
 have e:bb [.box 9 1000 0,.skip ⟨0,0,0,7,2⟩ 0,.box 8 400000 0] H D=none:=by
  unfold bb;show ek _ H D [0,1,2,3] _ _=none;have hk:(Col.stand ⟨0,0,0,0,0,0,0⟩ 1000 0).keep D=⟨1000,0,0,0,0,0,0⟩:=by
   unfold Col.keep Col.stand;dsimp only;rw[if_neg (by exact nc ‹_› rfl)];rfl
  have p0:cz [.box 9 1000 0,.skip ⟨0,0,0,7,2⟩ 0,.box 8 400000 0] 0=none:=rfl;have p1:cz [.box 9 1000 0,.skip ⟨0,0,0,7,2⟩ 0,.box 8 400000 0] 1=some 0:=rfl;rw[jx,p0];rw[if_neg (by rw[sX];exact U2)];show(some ((Col.stand ⟨0,0,0,0,0,0,0⟩ 1000 0).keep D)).bind (fun c'=>ek _ H D [1,2,3] c' _)=none;rw[hk];show ek _ H D [1,2,3] _ _=none;rw[jx,p1];have hcost:dw ⟨1000,0,0,0,0,0,0⟩ H 0≠1073741823:=by
   have hv:Col.cost ⟨1000,0,0,0,0,0,0⟩ H=10000\/Col.cost ⟨1000,0,0,0,0,0,0⟩ H=0:=by
    unfold Col.cost;dsimp only;by_cases h:1000 < H
    ·left
     rw[if_pos h,if_neg (by simp)];unfold di;rw[if_neg (by lia),if_pos (by decide)]
    ·right
     have hH':H=1000:=by lia
     subst hH'
     decide
   unfold dw;rcases hv with hv|hv<;>rw[hv]<;>decide
  rw[if_neg (by simp[mm,hcost])];rfl
 unfold vb;rw[e];rfl
theorem MN (hD:0<=deep) (hi:Inv N (tb f1 m1 g1 h1 f2 m2 g2 h2) b) (hk:bo b) (hc:b.con=Nd.ins 4 401000 deep tw 0 [.box 9 1000 0,.skip ⟨0,0,0,7,2⟩ 0,.box 8 400000 0]::more) (hf:1000<=cL b b.vsize) :
  Ev top (tb f1 m1 g1 h1 f2 m2 g2 h2) b (.exc 76 b):=by
 refine Ag (row:=⟨4,1000,1073741823,⟨0,0,0,0,0⟩,0⟩) hc rfl ?_;unfold BS.insert;rw[Af hk (by decide) (by decide)];dsimp only;rw[if_neg (by decide)];have cn:=hi.cnt;have n16:=hi.n16;have sh:=hi.shr;have z9:=hi.tot;have t1:=z9.1;have t2:=z9.2.1;clear z9;have z9:=hi.gl;have gl1:=z9.1;have gl2:=z9.2;clear z9;have e1:b.igoal ⟨4,1000,1073741823,⟨0,0,0,0,0⟩,0⟩ true - b.iused=cL b b.vsize:=by
  unfold BS.igoal BS.iused cL Cl.taken;by_cases hz:b.state=0
  ·simp[hz]
  ·simp[hz];lia
 have e2:cL b b.vsize<=30000:=by unfold cL;split<;>first|assumption|lia
 have e3:b.ishr ⟨4,1000,1073741823,⟨0,0,0,0,0⟩,0⟩ true<=320000:=by
  unfold BS.ishr;simp
  split<;>lia
 have e4:Cl.taken ⟨4,1000,1073741823,⟨0,0,0,0,0⟩,0⟩ 401000=401000:=by decide
 have e5:Cl.room ⟨4,1000,1073741823,⟨0,0,0,0,0⟩,0⟩ (cL b b.vsize) 0=cL b b.vsize:=by
  unfold Cl.room kC mx;simp
  repeat' split
  all_goals lia
 have ho:b.iover ⟨4,1000,1073741823,⟨0,0,0,0,0⟩,0⟩ 401000 0 true:=by
  unfold BS.iover
  left
  rw[e1,e4];unfold mx
  split<;>lia
 have hp:b.iplace ⟨4,1000,1073741823,⟨0,0,0,0,0⟩,0⟩ 401000 deep 0 [.box 9 1000 0,.skip ⟨0,0,0,7,2⟩ 0,.box 8 400000 0] true=none:=by
  unfold BS.iplace;rw[if_pos ho,e1,e5,MM hf hD];rfl
 rw[hp]
theorem MP (hs:b.state≠2) (hn:n.isBox=false):b.step top t n=b.step other t n:=by
 unfold BS.step;have hn':¬ n.isBox=true:=by rw[hn];exact U2
 rw[if_neg hs,if_neg hs,if_neg hn',if_neg hn']
theorem MQ (hs:b.state≠2) (hn:n.isBox=false) (hc:b.con=n::ns) (h:b.step top t n=.next b'):b'.state≠2/\b'.con=ns:=by
 unfold BS.step at h;rw[if_neg hs,if_neg (by rw[hn];exact U2)]at h
 split at h
 ·cases h;exact⟨hs,by show b.con.tail=ns;rw[hc];rfl⟩
 ·exact⟨fun z=>hs ((z8 h).mp z),Aa hc h⟩
set_option tactic.hygienic true in
theorem MR (hs:b.state≠2) (hn:n.isBox=false):∀ f b',b.step top t n≠.ret f b':=fun f b' h=>by
 unfold BS.step at h;rw[if_neg hs,if_neg (by rw[hn];exact U2)]at h
 split at h
 ·cases h
 ·rename_i hd;have ht:(b.tried n).2=none:=by
   have:b.ahead n=none:=by
    induction n with
   |atm z=>induction z with
    |box=>simp[Nd.isBox]at hn
    |skip=>simp[Nd.disc]at hd
    |pen=>simp[Nd.disc]at hd
   |kern=>simp[Nd.disc]at hd
   |mark=>rfl
   |ins=>rfl
   unfold BS.tried;rw[this]
  exact mJ (P:=fun s=>s≠.ret f b') (fun ω hf=>nomatch ht.symm.trans hf) (fun ω ω=>nofun) (fun ω ω=>nofun) h
set_option tactic.hygienic true in
theorem MS (hs:b.state≠2) (hb:∀ n∈b.con,n.isBox=false) (hg:∀ n∈b.con,cC t n) (ho:top.so=0) (e:Ev top t b s):Ev other t b s/\∃ b',s=.ret none b'/\b'.con=[]/\b'.state≠2:=by
 obtain⟨⟨k,hr⟩,hn⟩:=e;induction k generalizing b with
|zero=>exact(hn b hr.symm).elim
|succ k ih=>
  cases hc:b.con with
 |nil=>
   rw[kH hc]at hr;subst hr;exact⟨tW hc,b,rfl,hc,hs⟩
 |cons n ns=>
   rw[gZ hc]at hr;have hbn:=hb n (by rw[hc];exact .head _);have hgn:=hg n (by rw[hc];exact .head _);cases hst:b.step top t n with
  |next b2=>
    rw[hst]at hr;obtain⟨s2,c2⟩:=MQ hs hbn hc hst;obtain⟨i1,i2⟩:=ih s2 (fun m hm=>hb m (by rw[hc];rw[c2]at hm;exact .tail _ hm)) (fun m hm=>hg m (by rw[hc];rw[c2]at hm;exact .tail _ hm)) hr;exact⟨kP hc (by rw[<- MP (top:=top) hs hbn];exact hst) i1,i2⟩
  |exc e b2=>exact absurd hst (Ac hgn ho e b2)
  |ret f b2=>exact absurd hst (MR hs hbn f b2)
theorem MT (hs:b.state≠2) (hc:b.con=n::more) (hn:n.isBox=true) (ho:other.so≠0):Ev other t b (.exc 88 b):=by
 refine qf hc ?_;unfold BS.step;rw[if_neg hs,if_pos hn,if_pos ho]
end
noncomputable def NoK (ns:List Nd):Prop:=∀ n∈ns,n.isKern=false
theorem NoK.nke {ns:List Nd}(h:NoK ns):dz ns:=fun n hn=>h n (List.mem_of_getLast? hn)
noncomputable def P2 (t:Tb) (b1 b2:BS) (mh:MH):Prop:=∃ (m:MH) (L1 L2:BL),mh=(m.bld 2 b1 L1).bld 3 b2 L2/\L1.Ok b1.ins/\L2.Ok b2.ins/\m.m (4,0)=some (.dict t.d)
theorem ua {m:MH}{b1 b2:BS}{L1 L2:BL}:(m.bld 2 b1 L1).bld 3 b2 L2=(m.bld 3 b2 L2).bld 2 b1 L1:=by
 refine eK (fun l=>?_) fun q=>?_
 ·obtain⟨a,i⟩:=l;by_cases h2:a=2
  ·subst h2;simp[MH.bld]
  ·simp[MH.bld,h2]
 ·by_cases h2:q=2
  ·subst h2;simp[MH.bld]
  ·simp[MH.bld,h2]
theorem P2.two {t:Tb}{b1 b2:BS}{mh:MH}(h:P2 t b1 b2 mh):∃ M L2,mh=M.bld 3 b2 L2/\L2.Ok b2.ins/\M.m (4,0)=some (.dict t.d)/\∀ m b' L',Sc M m->L'.Ok b'.ins->P2 t b1 b' (m.bld 3 b' L'):=by
 obtain⟨m,L1,L2,rfl,o1,o2,ht⟩:=h;have e4:(m.bld 2 b1 L1).m (4,0)=some (.dict t.d):=by rw[mw (by decide)];exact ht
 refine⟨m.bld 2 b1 L1,L2,rfl,o2,e4,fun m' b' L' sc o'=>?_⟩;have e:=mz (by decide) sc;refine⟨m',L1,L',by rw[<- e],o1,o',?_⟩;rw[sc.m (4,0) (.inl (by decide))];exact e4
theorem P2.one {t:Tb}{b1 b2:BS}{mh:MH}(h:P2 t b1 b2 mh):∃ M L1,mh=M.bld 2 b1 L1/\L1.Ok b1.ins/\M.m (4,0)=some (.dict t.d)/\∀ m b' L',Sc M m->L'.Ok b'.ins->P2 t b' b2 (m.bld 2 b' L'):=by
 obtain⟨m,L1,L2,rfl,o1,o2,ht⟩:=h;have e4:(m.bld 3 b2 L2).m (4,0)=some (.dict t.d):=by rw[mw (by decide)];exact ht
 refine⟨m.bld 3 b2 L2,L1,ua,o1,e4,fun m' b' L' sc o'=>?_⟩;have e:=mz (by decide) sc;refine⟨m',L',L2,?_,o',o2,?_⟩
 ·rw[ua,<- e]
 ·rw[sc.m (4,0) (.inl (by decide))];exact e4
theorem P2.sc {t:Tb}{b1 b2:BS}{mh m:MH}(h:P2 t b1 b2 mh) (s:Sc mh m):P2 t b1 b2 m:=by
 obtain⟨m0,L1,L2,rfl,o1,o2,ht⟩:=h;have e:=mz (by decide) s;have s2:Sc ((m0.bld 3 b2 L2).bld 2 b1 L1) m:=by rw[<- ua];exact s
 have e2:=mz (by decide) s2;refine⟨m,L1,L2,by rw[<- e2,<- e],o1,o2,?_⟩;rw[s.m (4,0) (.inl (by decide)),mw (by decide),mw (by decide)];exact ht
section
variable {Q:V->MH->Prop}{X:XP}{mh mh':MH}{k:Nat}
theorem MU {items:List Nd}{K:Fl->St->Prop}:∀ (c:Nat) (st:St),c<=items.length->items.length<=100->st.loc.lookup "items"=some (.lst (items.map Nd.it))->st.loc.lookup "cut"=some (.int c)->
  (∀ c' st',c'<=c->dz (items.take c')->(∀ n,n≠"cut"->st'.loc.lookup n=st.loc.lookup n)->st'.loc.lookup "cut"=some (.int c')->st'.mh=st.mh->st'.pend=st.pend->K .next st')->
  ip (bf (ag .Gt (aa "cut") (tK (.int 0))) (ag .Eq (au (au (aa "items") (aq (fun ω ω=>True) (fun i j=>i - j) (aa "cut") (tK (.int 1)))) (tK (.int 0))) (tK (.str "k")))) (ci "cut" (fun i j=>i - j) (tK (.int 1))) (c+1) K X st:=by
 intro ll;induction ll with
|zero=>
  intro st hc hl h1 h2 hk;exact by
    obtain⟨loc,pend,m⟩:=st;dsimp only at h1 h2;have:=hk 0 ⟨loc,pend,m⟩ (Y3 _) (fun n hn=>by simp at hn) (fun ω ω=>rfl) h2 rfl rfl;rw[sV];simp[yT,h2,aO,aM,aP];exact this
|succ c IH=>
  intro st hc hl h1 h2 hk;exact by
    obtain⟨loc,pend,m⟩:=st;dsimp only at h1 h2;obtain⟨n,hn⟩:∃ n,items[c]?=some n:=⟨items[c],W9 hc⟩;have e1:((c:Int)+1 - 1)=(c:Int):=by lia
    have c0:(c:Int) < 1000000:=by lia
    have c1:(0:Int) < (c:Int)+1:=by lia
    have ht:items.take (c+1)=items.take c++[n]:=by
     rw[List.take_add_one,hn];rfl
    have test:∀ (K':Bool->St->Prop),K' n.isKern ⟨loc,pend,m⟩->(bf (ag .Gt (aa "cut") (tK (.int 0))) (ag .Eq (au (au (aa "items") (aq (fun ω ω=>True) (fun i j=>i - j) (aa "cut") (tK (.int 1)))) (tK (.int 0))) (tK (.str "k")))) K' X ⟨loc,pend,m⟩:=fun K' h=>by
     have:=h;rw[<- zS (mh:=m) (n:=n) (k:=fun b=>K' b ⟨loc,pend,m⟩)]at this;rw[HT];simp only[pi,tl h2,xK,cQ,IE];have hd:decide ((((c+1:Nat):Int)) > 0)=true:=decide_eq_true (by lia);rw[hd,if_pos rfl];simp only[pi,rX,tl h1,rY,Ic,tl h2,Id,cQ,xP];refine⟨trivial,?_⟩;rw[show(((c+1:Nat):Int) - 1)=(c:Int)by lia];show b5 (items.map Nd.it) (c:Int) _;rw[Jy (by lia),X5,hn];exact this
    rw[sV];refine test _ ?_;cases hkn:n.isKern with
   |false=>
     rw[yT];refine hk (c+1) ⟨loc,pend,m⟩ (Y3 _) (fun x hx=>?_) (fun ω ω=>rfl) h2 rfl rfl;rw[ht,List.getLast?_append]at hx;simp at hx;rw[<- hx];exact hkn
   |true=>
     rw[Js];have step:∀ (K':Fl->St->Prop),K' .next ⟨aj "cut" (.int c) loc,pend,m⟩->ci "cut" (fun i j=>i - j) (tK (.int 1)) K' X ⟨loc,pend,m⟩:=fun K' h=>by
      rw[HV];rw[h2];dsimp only;rw[cQ];dsimp only;rw[show(((c+1:Nat):Int) - 1)=(c:Int)by lia];exact h
     refine step _ ?_;refine IH _ (by lia) hl (by simp[ax,aX,h1]) (by simp[ax,aX]) fun c' st' a1 a2 a3 a4 a5 a6=>hk c' st' (by exact na ‹_›) a2 (fun x hx=>?_) a4 a5 a6
     rw[a3 x hx];simp[ax,aX,hx]
theorem qj {nm:String}{its:List Nd}{d:Int}{Q:V->St->Prop}{st:St}(hl:its.length<=1000) (hn:∀ n∈its,b6 n) (hd:0<=d/\d<=10000) (h1:st.loc.lookup nm=some (.lst (its.map Nd.it))) (h2:st.loc.lookup "inner"=some (.int d))
  (hq:∀ m,Sc st.mh m->Q (.lst ((its.map (Nd.deepen d)).map Nd.v)) { st with mh:=m }):be (aU (an "item") ["inner"] (bc (aa nm)) tTrue (af (bu 2) [(aa "item"),(aa "inner")])) Q X st:=by
 have key:=p8 (chk:=fun ω=>True) (f:=an "item") (capv:=[("inner",.int d)]) (Te:=af (bu 2) [(aa "item"),(aa "inner")]) (inj:=Nd.it) (I:=fun us acc m=>Sc st.mh m/\acc++us.map (fun n=>(n.deepen d).v)=its.map (fun n=>(n.deepen d).v)/\∀ n∈us,b6 n)
  (Q:=fun us' st'=>Q (.lst us') st') (st:=st) (fun ω ω ω ω=>trivial) (fun u us acc m h=>by
   have:=congrArg List.length h.2.1;simp at this;lia) (fun u us acc m h Q' hq'=>by
   have:=tO (X:=dt) (mh:=m) (n:=u) (d:=d) (Q:=fun v m=>Q' v ⟨[("inner",.int d),("item",u.it)],[],m⟩) (h.2.2 u (.head _)) hd fun m' sc=>hq' _ _ ⟨h.1.trans sc,by simpa using h.2.1,fun n hn=>h.2.2 n (.tail _ hn)⟩
   simp[e9,aO,aM,aP];exact this) (fun acc m h=>by
   have h2:acc=(its.map (Nd.deepen d)).map Nd.v:=by
    have:=h.2.1;rw[List.map_nil,List.append_nil]at this;rw[X3];exact this
   rw[h2];exact hq m h.1) its [] st.mh ⟨Sc.refl _,by simp,hn⟩
 rw[ke,kf,gN,cI,h1];dsimp only;rw[HY];dsimp only;have e:df ["inner"] st=[("inner",.int d)]:=by simp[df,h2]
 rw[e];exact key
end
structure Lw (loc:List (String × V)) (fi ri:List Nd) (way vs dd d:Int) (top:Gl):Prop where
 first:loc.lookup "first"=some (.lst (fi.map Nd.it))
 rest:loc.lookup "rest"=some (.lst (ri.map Nd.it))
 way:loc.lookup "way"=some (.int way)
 vs:loc.lookup "vsize"=some (.int vs)
 inner:loc.lookup "inner"=some (.int d)
 top:loc.lookup "top"=some top.v
 table:loc.lookup "table"=some bk
 one:loc.lookup "one"=some (.ref (2,0))
 two:loc.lookup "two"=some (.ref (3,0))
section
variable {U:TS}{a:Addr}
variable {Q:V->MH->Prop}{X:XP}{mh mh':MH}{k:Nat}{K:Fl->St->Prop}
noncomputable def Ah (n:String) (Q:Fl->St->Prop):V->St->Prop:=fun v st=>match st.pend with|m::rest=>m=n/\Q .next { loc:=aj n v st.loc,pend:=rest,mh:=st.mh }|[]=>False
theorem MV {n:String}{T:TE}{Q:Fl->St->Prop}{st:St}:nS n T Q X st=T (Ah n Q) X st:=rfl
theorem MW {n m:String}{Q:Fl->St->Prop}{v:V}{l:List (String × V)}{p:List String}:Ah n Q v ⟨l,m::p,mh⟩=(m=n/\Q .next ⟨aj n v l,p,mh⟩):=rfl
theorem MX {cs:List Int}(hl:cs.length<=10000) (h1:mh.nx 1=0)
  (hk:∀ m,JarOk 0 m->(∀ q,q≠1->m.nx q=mh.nx q)->U K X ⟨[("script",.cst (.ref a)),("jar",.ref (1,1))],["inner"],m⟩) :
  (ab (nS "jar" (af (lM (some (a,cs))) [(aa "script")])) U) K X ⟨[("script",.cst (.ref a))],["jar","inner"],mh⟩:=by
 have:=LQ (X:=X) (a:=a) (ns:=cs) (mh:=mh) (Q:=fun v m=>U K X ⟨[("script",.cst (.ref a)),("jar",v)],["inner"],m⟩) h1 hl hk;simp[MV];exact gd this fun v m=>by simp[MW]
theorem MY (J:JarOk 0 mh) (hk:∀ (ns:List Nd) (m:MH),(∀ n∈ns,b6 n)->ns.length<=6->JarOk 400 m->Jr mh m->U K X ⟨[("script",.cst (.ref a)),("jar",.ref (1,1)),("items",.lst (ns.map Nd.it))],["inner"],m⟩) :
  (ab (aw "items" (be (aU (an "label") ["jar"] (ey [(aq (fun ω ω=>True) (fun i j=>i+j) (tK (.int 1)) (af aY [(aa "jar"),(tK (.int 6))]))]) tTrue (af oX [(aa "jar"),(aa "label")])))) U) K X ⟨[("script",.cst (.ref a)),("jar",.ref (1,1))],["inner"],mh⟩:=by
 simp[df];refine bR (many:=6) (k:=0) (by decide) (by decide) (by decide) J fun n m1 n0 n1 J1 r1=>?_
 simp only[kh,xP,sd,se,cK,true_and];refine⟨by lia,by lia,?_⟩;have hN0:(1+n).toNat<=6:=Int.toNat_le.mpr (by lia);have hN:(List.range (1+n).toNat).length<=6:=by rw[X6];exact hN0
 refine p8 (chk:=fun ω=>True) (f:=an "label") (capv:=[("jar",.ref (1,1))]) (inj:=fun i:Nat=>V.int i) (st:=⟨[("script",.cst (.ref a)),("jar",.ref (1,1))],["inner"],m1⟩)
  (I:=fun us acc m=>∃ ns:List Nd,acc=ns.map Nd.it/\(∀ n∈ns,b6 n)/\ns.length+us.length<=6/\JarOk (1+50 * ns.length) m/\Jr m1 m/\∀ i∈us,i<=10) (fun ω ω ω ω=>trivial) (fun u us acc m ⟨ns,e,_,h,_⟩=>by rw[e];simp at h ⊢;lia)
  (fun u us acc m ⟨ns,e,h1,h2,h3,h4,h5⟩ Q' hq'=>?_) (fun acc m ⟨ns,e,h1,h2,h3,h4,h5⟩=>?_) (List.range (1+n).toNat) [] m1 ⟨[],rfl,(fun n hn=>nomatch hn),by simp at hN ⊢;(first|assumption|lia),J1,Jr.refl _,fun i hi=>X9 (Nat.le_of_lt (X7.mp hi)) (X9 hN0 (by decide))⟩
 ·have hu:=h5 u (.head _);simp only[V4]at h2;have:=LN (X:=dt) (mh:=m) (k:=1+50 * ns.length) (l:=(u:Int)) (Q:=fun v m=>Q' v ⟨[("jar",.ref (1,1)),("label",.int u)],[],m⟩) ⟨by exact Z3 _,by exact AY ‹_› rfl⟩ (by lia) h3 fun n m' hn J' r'=>hq' _ _ ⟨ns++[n],by rw[e,V2];rfl,fun x hx=>by
   rcases U5.mp hx with hx|hx
   ·exact h1 x hx
   ·obtain rfl:=U6.mp hx;exact hn,by rw[V8,X8];lia,J'.up (by rw[V8,X8];lia),h4.trans r',fun i hi=>h5 i (.tail _ hi)⟩
  simp[e9];exact gd this fun v m=>by simp
 ·subst e;rw[sz,xQ,eI];exact hk ns m h1 (by simpa using h2) (h3.up (by simp at h2;lia)) (r1.trans h4)
theorem MZ {ns:List Nd}(hl:ns.length<=6) (J:JarOk 400 mh) (hk:∀ (c:Nat) way m,c<=ns.length->(way=0\/way=1\/way=2\/way=3)->JarOk 402 m->Jr mh m->U K X ⟨[("script",.cst (.ref a)),("jar",.ref (1,1)),("items",.lst (ns.map Nd.it)),("way",.int way),("cut",.int c)],["inner"],m⟩) :
  (ab (bt [an "way",an "cut"] (aD [(af aY [(aa "jar"),(aq (fun ω ω=>True) (fun i j=>i+j) (af bLen [(aa "items")]) (tK (.int 1)))]),(af aY [(aa "jar"),(tK (.int 4))])])) U) K X ⟨[("script",.cst (.ref a)),("jar",.ref (1,1)),("items",.lst (ns.map Nd.it))],["inner"],mh⟩:=by
 have l0:ns.length<=1000000:=by exact ba ‹_› rfl
 simp[l0];refine bR (many:=(ns.length:Int)+1) (k:=400) (by lia) (by lia) (by decide) J fun c m1 c0 c1 J1 r1=>?_
 simp;refine bR (many:=4) (k:=401) (by decide) (by decide) (by decide) J1 fun w m2 w0 w1 J2 r2=>?_
 obtain⟨c',rfl⟩:=Int.eq_ofNat_of_zero_le c0;simp;exact hk c' w m2 (by lia) (by lia) J2 (r1.trans r2)
end
section
variable {Q:V->MH->Prop}{X:XP}{mh mh':MH}{k:Nat}{K:Fl->St->Prop}
theorem M0 {U:TS}{a:Addr}{ns:List Nd}{c:Nat}{way:Int}(hl:ns.length<=6) (hc:c<=ns.length) (hn:∀ n∈ns,b6 n)
  (hk:∀ (fi ri:List Nd) (loc:List (String × V)),(∀ n∈fi,b6 n)->(∀ n∈ri,b6 n)->dz fi->NoK ri->fi.length+ri.length<=6->loc.lookup "jar"=some (.ref (1,1))->loc.lookup "way"=some (.int way)->loc.lookup "first"=some (.lst (fi.map Nd.it))->loc.lookup "rest"=some (.lst (ri.map Nd.it))->U K X ⟨loc,["inner"],mh⟩) :
  (ab (lj (bf (ag .Gt (aa "cut") (tK (.int 0))) (ag .Eq (au (au (aa "items") (aq (fun ω ω=>True) (fun i j=>i - j) (aa "cut") (tK (.int 1)))) (tK (.int 0))) (tK (.str "k")))) (ci "cut" (fun i j=>i - j) (tK (.int 1))))
  (ab (bt [an "rest",an "first"] (aD [(eV none (aa "items") (aa "cut")),(be (aU (an "item") [] (bc (iw none (aa "items") (aa "cut"))) (ag .NotEq (au (aa "item") (tK (.int 0))) (tK (.str "k"))) (aa "item")))])) U)) K X ⟨[("script",.cst (.ref a)),("jar",.ref (1,1)),("items",.lst (ns.map Nd.it)),("way",.int way),("cut",.int c)],["inner"],mh⟩:=by
 refine⟨c+1,MU c _ hc (by exact ba ‹_› rfl) rfl rfl fun c' st' a1 a2 a3 a4 a5 a6=>?_⟩;obtain⟨loc,pend,m⟩:=st';dsimp only at a3 a4 a5 a6;subst a5 a6;have b1:loc.lookup "jar"=some (.ref (1,1)):=(a3 _ (by decide)).trans rfl;have b2:loc.lookup "items"=some (.lst (ns.map Nd.it)):=(a3 _ (by decide)).trans rfl;have b3:loc.lookup "way"=some (.int way):=(a3 _ (by decide)).trans rfl;have l0:ns.length<=10000:=by exact ba ‹_› rfl
 simp[df,b2,a4,l0];rw[<- List.map_drop];refine tG (chk:=fun ω=>True) (g:=Nd.it) (p:=fun n=>!n.isKern) trivial (ns.drop c') [] (by simp;(first|exact na ‹_›|lia)) (fun u hu K hK=>?_) ?_
 ·have:=hK ⟨[("item",u.it)],[],m⟩ (fun ω Q' h=>by
   have:=h ⟨[("item",u.it)],[],m⟩ rfl;simp;exact this) rfl
  simp only[xS,rL,pi,rX,yl,rY,cQ,x8];show bY m u.it (.int 0) (fun w=>bv m w (.str "k") (fun r=>K (!r) ⟨[("item",u.it)],[],m⟩));have e:=zS (mh:=m) (n:=u) (k:=fun r=>K (!r) ⟨[("item",u.it)],[],m⟩);rw[e];exact this
 ·have hfi:∀ n∈ns.take c',b6 n:=fun n h=>hn n (List.mem_of_mem_take h)
  have hri:∀ n∈(ns.drop c').filter fun n=>!n.isKern,b6 n:=fun n h=>hn n (List.mem_of_mem_drop ((List.mem_filter.mp h).1))
  have hlen:(ns.take c').length+((ns.drop c').filter fun n=>!n.isKern).length<=6:=by
   have h1:=List.length_filter_le (fun n:Nd=>!n.isKern) (ns.drop c');rw[List.length_drop]at h1;rw[X4];exact X9 (Nat.add_le_add (Nat.min_le_left _ _) h1) (by rw[Nat.add_sub_cancel' (X9 a1 hc)];exact hl)
  have:=hk (ns.take c') ((ns.drop c').filter fun n=>!n.isKern) (aj "first" (.lst ((ns.take c').map Nd.it)) (aj "rest" (.lst (((ns.drop c').filter fun n=>!n.isKern).map Nd.it)) loc)) hfi hri a2 (fun n h=>by have:=(List.mem_filter.mp h).2;simpa using this) hlen
   (by (repeat first|exact ax|exact b1|refine az rfl ?_)) (by (repeat first|exact ax|exact b3|refine az rfl ?_)) (by (repeat first|exact ax|refine az rfl ?_)) (by (repeat first|exact ax|refine az rfl ?_))
  simp only[W0];simp[ax,aX,List.map_take,aO,aM,aP]at this ⊢;exact this
end
structure La (loc:List (String × V)) (fi ri:List Nd) (way:Int):Prop where
 jar:loc.lookup "jar"=some (.ref (1,1))
 way:loc.lookup "way"=some (.int way)
 first:loc.lookup "first"=some (.lst (fi.map Nd.it))
 rest:loc.lookup "rest"=some (.lst (ri.map Nd.it))
theorem La.put {loc:List (String × V)}{fi ri:List Nd}{way:Int}(h:La loc fi ri way) {n:String}{v:V}(hn:n≠"jar"/\n≠"way"/\n≠"first"/\n≠"rest"):La (aj n v loc) fi ri way:=
 ⟨by rw[bw,if_neg (Ne.symm hn.1)];exact h.jar,by rw[bw,if_neg (Ne.symm hn.2.1)];exact h.way,by rw[bw,if_neg (Ne.symm hn.2.2.1)];exact h.first,by rw[bw,if_neg (Ne.symm hn.2.2.2)];exact h.rest⟩
section
variable {U:TS}
variable {Q:V->MH->Prop}{X:XP}{mh mh':MH}{k:Nat}{K:Fl->St->Prop}{fi ri:List Nd}{way:Int}{loc:List (String × V)}
theorem Na (A:La loc fi ri way) (J:JarOk 402 mh) (hk:∀ (vs dd d:Int) (m:MH),6000<=vs->vs<=29000->0<=dd->dd<=3000->0<=d->d<=2000->JarOk 405 m->Jr mh m->U K X ⟨aj "inner" (.int d) (aj "deep" (.int dd) (aj "vsize" (.int vs) loc)),[],m⟩) :
  (ab (ln [an "vsize",an "deep",lm "inner"] (aD [(aq IntMulOk (fun i j=>i * j) (tK (.int 1000)) (aq (fun ω ω=>True) (fun i j=>i+j) (tK (.int 6)) (af aY [(aa "jar"),(tK (.int 24))]))),(aq IntMulOk (fun i j=>i * j) (tK (.int 1000)) (af aY [(aa "jar"),(tK (.int 4))])),(aq IntMulOk (fun i j=>i * j) (tK (.int 1000)) (af aY [(aa "jar"),(tK (.int 3))]))])) U) K X ⟨loc,["inner"],mh⟩:=by
 simp[A.jar,bG];refine bR (many:=24) (k:=402) (by decide) (by decide) (by decide) J fun a m1 a0 a1 J1 r1=>?_
 simp[A.jar,bG];refine bR (many:=4) (k:=403) (by decide) (by decide) (by decide) J1 fun b m2 b0 b1 J2 r2=>?_
 simp[A.jar,bG];refine bR (many:=3) (k:=404) (by decide) (by decide) (by decide) J2 fun c m3 c0 c1 J3 r3=>?_
 have:=hk (1000 * (6+a)) (1000 * b) (1000 * c) m3 (by lia) (by lia) (by exact im ‹_›) (by exact ig ‹_› rfl) (by exact im ‹_›) (by exact ig ‹_› rfl) J3 (r1.trans (r2.trans r3));simp[A.jar,bG,H7,aO,aM,aP];exact this
theorem Nb (A:La loc fi ri way) (J:JarOk 405 mh) (hk:∀ (top:Gl) (f1 m1 h1 f2 m2 h2:Int) (g1 g2:Gl) (m:MH),eN (.skip top 0)->dX f1 m1 g1 h1->dX f2 m2 g2 h2->Jr mh m->
   U K X ⟨aj "top" top.v (aj "classes" (.dct [(1,dk f1 m1 g1 h1),(2,dk f2 m2 g2 h2)]) loc),[],m⟩) :
  (ab (bt [an "classes",an "top"] (aD [(ae (af (bu 2) [(af fF [(aa "jar")]),(tK (.int 0))]) "glue"),(lA 1 2 (af j7 [(aa "jar")]) (af j7 [(aa "jar")]))])) U) K X ⟨loc,[],mh⟩:=by
 simp[A.jar,xB];refine p9 (k:=405) (by decide) J fun top m1 ht J1 r1=>?_
 simp;refine tO (n:=.atm (.skip top 0)) ht ⟨by decide,by decide⟩ fun m2 sc=>?_
 have r12:=r1.trans sc.jr;simp only[kh,r6];show bH m2 (At.skip top 0).v "glue" _;simp[A.jar,xB];refine zH (k:=410) (by decide) (J1.sc sc) fun f1 mo1 g1 h1 m3 c1 J3 r3=>?_
 simp[A.jar];refine zH (k:=420) (by decide) J3 fun f2 mo2 g2 h2 m4 c2 J4 r4=>?_
 have:=hk top f1 mo1 h1 f2 mo2 h2 g1 g2 m4 ht c1 c2 (r12.trans (r3.trans r4));simp;exact this
theorem Nc {f1 m1 h1 f2 m2 h2:Int}{g1 g2:Gl}(c1:dX f1 m1 g1 h1) (c2:dX f2 m2 g2 h2) (hc:loc.lookup "classes"=some (.dct [(1,dk f1 m1 g1 h1),(2,dk f2 m2 g2 h2)])) (h4:mh.nx 4=0)
  (hk:∀ m,m.m (4,0)=some (.dict (tb f1 m1 g1 h1 f2 m2 g2 h2).d)->(∀ q,q≠0->q≠4->m.nx q=mh.nx q)->U K X ⟨aj "table" bk loc,[],m⟩) :
  (ab (aw "table" (af oZ [(aa "classes")])) U) K X ⟨loc,[],mh⟩:=by
 have:=Md (X:=X) (mh:=mh) (Q:=fun v m=>U K X ⟨aj "table" v loc,[],m⟩) c1 c2 h4 hk;simp[↓tl hc,↓lr hc,aO,aM,aP];exact this
theorem Nf {vs dd:Int}{t:Tb}(hv:loc.lookup "vsize"=some (.int vs)) (hd:loc.lookup "deep"=some (.int dd)) (v0:6000<=vs/\vs<=29000) (d0:0<=dd/\dd<=3000) (n2:mh.nx 2=0) (n3:mh.nx 3=0) (ht:mh.m (4,0)=some (.dict t.d))
  (hk:∀ m,P2 t (BS.init vs dd) (BS.init vs dd) m->U K X ⟨aj "one" (.ref (2,0)) (aj "two" (.ref (3,0)) loc),[],m⟩) :
  (ab (bt [an "two",an "one"] (aD [(eT jl (fun ω=>2) [(aa "vsize"),(aa "deep")]),(eT jl (fun ω=>3) [(aa "vsize"),(aa "deep")])])) U) K X ⟨loc,[],mh⟩:=by
 have v:aZ vs:=⟨by exact dn (And.left ‹_›),by exact bS (And.right ‹_›) rfl⟩;have d:aZ dd:=⟨by exact dn (And.left ‹_›),by exact bS (And.right ‹_›) rfl⟩;simp[↓tl hv,↓lr hv,↓tl hd,↓lr hd];refine zF (by decide) n2 v d ?_;have hn3:(mh.bump.bld 2 (BS.init vs dd) (BL.init fun n=>mh.bump.m (2,n))).nx 3=0:=by simp[MH.bld,MH.bump,n3]
 simp[↓tl hv,↓lr hv,↓tl hd,↓lr hd];refine zF (by decide) hn3 v d ?_;simp;have hp:P2 t (BS.init vs dd) (BS.init vs dd) ((mh.bump.bld 2 (BS.init vs dd) (BL.init fun n=>mh.bump.m (2,n))).bump.bld 3 (BS.init vs dd) (BL.init fun n=>(mh.bump.bld 2 (BS.init vs dd) (BL.init fun n=>mh.bump.m (2,n))).bump.m (3,n))):=by
  refine⟨mh.bump.bump,_,_,by rw[my (by decide)],zC,zC,?_⟩;simp[MH.bump,ht,aO,aM,aP]
 exact hk _ hp
end
theorem Ai {es:List (Int × Ins)}(hn:(es.map (fun q=>q.1)).Nodup) (hk:∀ k∈es.map (fun q=>q.1),k=1\/k=2):es.length<=2:=by
 rcases es with _|⟨a,_|⟨b,_|⟨c,es⟩⟩⟩
 ·simp
 ·simp
 ·simp
 ·exfalso;simp only[V1,W2,V3,not_or]at hn;have ha:=hk a.1 (by simp);have hb:=hk b.1 (by simp);have hc:=hk c.1 (by simp)
  lia
theorem ub {a:At}(ha:eN a):a.Ok/\∀ g s,a=.skip g s->g.so=0:=by
 induction a with
|box l h d=>obtain⟨a1,a2,a3,a4,a5,a6⟩:=ha;exact⟨⟨a3,by exact bS ‹_› rfl,a5,by exact bS ‹_› rfl⟩,fun g s e=>nomatch e⟩
|skip g s=>
  obtain⟨rfl,a2,_,a3,a4,a5,a6,a7,a8,a9⟩:=ha;exact⟨⟨a3,a4,a5,a6,a7,a8,a9,by lia,by lia,.inl rfl⟩,fun g' s' e=>by cases e;exact a2⟩
|pen v=>obtain⟨a1,a2⟩:=ha;exact⟨⟨by lia,by exact bS ‹_› rfl⟩,fun g s e=>nomatch e⟩
theorem Aj {n f m h:Int}{g:Gl}(hc:dX f m g h):(Cl.mk n f m g h).Ok/\g.so=0:=by
 obtain⟨hf,_,_,hg,hh⟩:=hc;obtain⟨_,a2,_,a3,a4,a5,a6,a7,a8,a9⟩:=hg;exact⟨⟨by dsimp only;lia,by dsimp only;lia,a9,a3,a4,a5,a6,a7,a8,by dsimp only;lia⟩,a2⟩
theorem Ak {t:Tb}{f1 m1 h1 f2 m2 h2 d:Int}{g1 g2:Gl}(c1:dX f1 m1 g1 h1) (c2:dX f2 m2 g2 h2) (ht:t=tb f1 m1 g1 h1 f2 m2 g2 h2) (hd:0<=d/\d<=10000) {n:Nd}(hn:b6 n):cC t (n.deepen d)/\(n.deepen d).Ok t:=by
 subst ht;induction n with
|atm a=>
  obtain⟨r1,r2⟩:=ub hn;refine⟨?_,r1⟩;induction a with
 |skip g s=>exact r2 g s rfl
 |box=>trivial
 |pen=>trivial
|kern w=>exact⟨trivial,hn⟩
|mark m=>exact⟨trivial,trivial⟩
|ins num size deep tw cost ps=>
  obtain⟨n0,s0,s1,w0,w1,c0,c1',hps,hpl⟩:=hn;have row:∃ row,(tb f1 m1 g1 h1 f2 m2 g2 h2).lookup num=some row/\row.Ok/\row.skip.so=0:=by
   rcases n0 with rfl|rfl
   ·exact⟨_,rfl,Aj c1⟩
   ·exact⟨_,rfl,Aj c2⟩
  obtain⟨row,r1,r2,r3⟩:=row;exact⟨⟨n0,⟨row,r1,r3⟩,fun a ha=>(ub (hps a ha)).2⟩,⟨row,r1,r2⟩,s0,by exact bS ‹_› rfl,hd.1,hd.2,w0,w1,c0,c1',fun a ha=>(ub (hps a ha)).1,by exact ba ‹_› rfl⟩
theorem Al {n:Nd}{d:Int}:(n.deepen d).isKern=n.isKern:=by cases n<;>rfl
theorem Am {n:Nd}{d:Int}:(n.deepen d).isBox=n.isBox:=by
 induction n with
|atm a=>induction a<;>rfl
|kern=>rfl
|mark=>rfl
|ins=>rfl
section
variable {d:Int}
variable {N:Nat}{Q:V->MH->Prop}{X:XP}{mh mh':MH}{k:Nat}{K:Fl->St->Prop}{fi ri:List Nd}{way:Int}{loc:List (String × V)}{t:Tb}{b1 b2 b:BS}{top:Gl}{s:SR}{ns:List Nd}
theorem qk (P:P2 t b1 b2 mh) (hT:TopOk top) (I:Inv N t b2) (e:Ev top t b2 s) (hx:∀ c b',s=.exc c b'->c=88\/c=76) (hq:∀ m,P2 t b1 s.b m->Q s.v m):br [.ref (3,0),top.v,bk] Q X mh:=by
 obtain⟨M,L,rfl,oL,h4,up⟩:=P.two;obtain⟨⟨k,hr⟩,hn⟩:=e;subst hr;exact zD (P:=Inv N t) (by decide) (by decide) (fun b h=>h.sok hT) (fun b n ns b' h hc hs=>t8 hT h hc hs) I oL h4 hn hx fun m L' sc oL'=>hq _ (up m _ L' sc oL')
theorem mU (P:P2 t b1 b2 mh) (hT:TopOk top) (I:Inv N t b1) (e:Ev top t b1 s) (hx:∀ c b',s=.exc c b'->c=88\/c=76) (hq:∀ m,P2 t s.b b2 m->Q s.v m):br [.ref (2,0),top.v,bk] Q X mh:=by
 obtain⟨M,L,rfl,oL,h4,up⟩:=P.one;obtain⟨⟨k,hr⟩,hn⟩:=e;subst hr;exact zD (P:=Inv N t) (by decide) (by decide) (fun b h=>h.sok hT) (fun b n ns b' h hc hs=>t8 hT h hc hs) I oL h4 hn hx fun m L' sc oL'=>hq _ (up m _ L' sc oL')
theorem mV (I:∀ n∈ns,Nd.Ok t n):∀ n∈ns,∀ num size deep tw cost ps,n=.ins num size deep tw cost ps->ps.length<=1000:=fun n hn num size deep tw cost ps e=>by
 have:=I n hn;subst e;exact this.2.2.2.2.2.2.2.2.2.2
theorem mW (P:P2 t b1 b2 mh) (hk:bo b2) (I:Inv N t b2) (hq:Q b2.st mh):bz [.ref (3,0)] Q X mh:=by
 obtain⟨M,L,rfl,oL,h4,up⟩:=P.two;exact zB oL (Ai oL.keys hk) (by have:=I.cnt;have:=I.n16;lia) (mV I.pg) hq
theorem ql (P:P2 t b1 b2 mh) (hk:bo b1) (I:Inv N t b1) (hq:Q b1.st mh):bz [.ref (2,0)] Q X mh:=by
 obtain⟨M,L,rfl,oL,h4,up⟩:=P.one;exact zB oL (Ai oL.keys hk) (by have:=I.cnt;have:=I.n16;lia) (mV I.pg) hq
theorem P2.m2 (P:P2 t b1 b2 mh):∃ ls,mh.m (2,0)=some (.inst 829 (aJ 2 ls b1))/\mh.m (2,1)=some (.list (b1.con.map Nd.v)):=by
 obtain⟨M,L,rfl,oL,h4,up⟩:=P.one;exact⟨_,aH,em⟩
theorem P2.m3 (P:P2 t b1 b2 mh):∃ ls,mh.m (3,0)=some (.inst 829 (aJ 3 ls b2))/\mh.m (3,1)=some (.list (b2.con.map Nd.v)):=by
 obtain⟨M,L,rfl,oL,h4,up⟩:=P.two;exact⟨_,aH,em⟩
theorem kV (n:Nat) (hm:mh.m (n,1)=some (.list (b.con.map Nd.v))) (hl:b.con.length<=5000) (I:∀ n∈b.con,Nd.Ok t n) (hq:Q (.tup (b.con.map Nd.dsc)) mh):bJ 4 [.ref (n,1)] Q X mh:=tz hm hl (mV I) hq
theorem An (P:P2 t b1 b2 mh) (hl:b1.con.length+ns.length<=10000) (hq:∀ m,P2 t (b1.cn (b1.con++ns)) b2 m->Q .none m):cx [.ref (2,0),.lst (ns.map Nd.v)] Q X mh:=by
 obtain⟨M,L,rfl,oL,h4,up⟩:=P.one;exact zE hl (hq _ (up M (b1.cn (b1.con++ns)) L (Sc.refl M) oL))
theorem Ng (P:P2 t b1 b2 mh) (hl:b2.con.length+ns.length<=10000) (hq:∀ m,P2 t b1 (b2.cn (b2.con++ns)) m->Q .none m):cx [.ref (3,0),.lst (ns.map Nd.v)] Q X mh:=by
 obtain⟨M,L,rfl,oL,h4,up⟩:=P.two;exact zE hl (hq _ (up M (b2.cn (b2.con++ns)) L (Sc.refl M) oL))
theorem Nh (P:P2 t b1 b2 mh) {n:Nd}(hc:b1.con=n::ns) (hl:ns.length<=10000) (hq:∀ m,P2 t (b1.cn ns) b2 m->Q n.v m):bPop [.ref (2,1),.int 0] Q X mh:=by
 obtain⟨M,L,rfl,oL,h4,up⟩:=P.one;have:=hq _ (up M (b1.cn ns) L (Sc.refl M) oL);simp[em,hc,hl,jz,aO,aM,aP];exact this
theorem qm {nm:String}{U:TS}{its:List Nd}(P:P2 t b1 b2 mh) (hl:its.length<=1000) (hc:b2.con.length<=1000) (hn:∀ n∈its,b6 n) (hd:0<=d/\d<=10000) (l1:loc.lookup nm=some (.lst (its.map Nd.it))) (l2:loc.lookup "inner"=some (.int d)) (l3:loc.lookup "two"=some (.ref (3,0)))
  (hk:∀ m,P2 t b1 (b2.cn (b2.con++its.map (Nd.deepen d))) m->U K X ⟨loc,[],m⟩) :
  (ab (aE (aF 829 cx (aa "two") [(be (aU (an "item") ["inner"] (bc (aa nm)) tTrue (af (bu 2) [(aa "item"),(aa "inner")])))])) U) K X ⟨loc,[],mh⟩:=by
 obtain⟨ls,e0,_⟩:=P.m3;rw[cP,rP,o7,cI,l3]
 try dsimp only
 rw[pG,e0];refine⟨rfl,?_⟩;rw[co];refine qj (st:=⟨loc,[],mh⟩) hl hn hd l1 l2 fun m sc=>?_
 rw[cK];exact Ng (P.sc sc) (by rw[V0];lia) fun m' P'=>hk m' P'
theorem Ni {nm:String}{U:TS}{its:List Nd}(P:P2 t b1 b2 mh) (hl:its.length<=1000) (hc:b1.con.length<=1000) (hn:∀ n∈its,b6 n) (hd:0<=d/\d<=10000) (l1:loc.lookup nm=some (.lst (its.map Nd.it))) (l2:loc.lookup "inner"=some (.int d)) (l3:loc.lookup "one"=some (.ref (2,0)))
  (hk:∀ m,P2 t (b1.cn (b1.con++its.map (Nd.deepen d))) b2 m->U K X ⟨loc,[],m⟩) :
  (ab (aE (aF 829 cx (aa "one") [(be (aU (an "item") ["inner"] (bc (aa nm)) tTrue (af (bu 2) [(aa "item"),(aa "inner")])))])) U) K X ⟨loc,[],mh⟩:=by
 obtain⟨ls,e0,_⟩:=P.m2;rw[cP,rP,o7,cI,l3]
 try dsimp only
 rw[pG,e0];refine⟨rfl,?_⟩;rw[co];refine qj (st:=⟨loc,[],mh⟩) hl hn hd l1 l2 fun m sc=>?_
 rw[cK];exact An (P.sc sc) (by rw[V0];lia) fun m' P'=>hk m' P'
theorem mX (hw:way=0\/way=1\/way=2\/way=3):(bm way d).length<=1:=by rcases hw with h|h|h|h<;>subst h<;>simp[bm]
theorem Ao {Q:V->St->Prop}(hw:way=0\/way=1\/way=2\/way=3) (hl:ri.length<=1000) (hn:∀ n∈ri,b6 n) (hd:0<=d/\d<=10000) (l1:loc.lookup "rest"=some (.lst (ri.map Nd.it))) (l2:loc.lookup "inner"=some (.int d)) (l3:loc.lookup "way"=some (.int way))
  (hq:∀ m,Sc mh m->Q (.lst ((bm way d++ri.map (Nd.deepen d)).map Nd.v)) ⟨loc,[],m⟩) :
  (eB (af e7 [(aa "way"),(aa "inner")]) (be (aU (an "item") ["inner"] (bc (aa "rest")) tTrue (af (bu 2) [(aa "item"),(aa "inner")])))) Q X ⟨loc,[],mh⟩:=by
 have hb:=mX (d:=d) hw;rw[HW,jo,co,cI,l3]
 try dsimp only
 rw[co,cI,l2]
 try dsimp only
 rw[cK];refine LR hw hd fun m1 s1=>?_
 refine qj (st:=⟨loc,[],m1⟩) hl hn hd l1 l2 fun m2 s2=>?_
 try dsimp only
 refine⟨by rw[V0,V0,V0];lia,?_⟩;rw[<- V2];exact hq m2 (s1.trans s2)
end
section
variable {N:Nat}{Q:V->MH->Prop}{X:XP}{mh mh':MH}{k:Nat}{K:Fl->St->Prop}{fi ri:List Nd}{way:Int}{loc:List (String × V)}{t:Tb}{b1 b2 b:BS}{top other:Gl}{s:SR}{ns more:List Nd}
theorem kX {Q:V->St->Prop}{n ls:Nat}{who:String}(h1:loc.lookup who=some (.ref (n,0))) (e0:mh.m (n,0)=some (.inst 829 (aJ n ls b))) (h:bJ 4 [.ref (n,1)] (dM Q ⟨loc,[],mh⟩) X mh):af (bJ 4) [ae (aa who) "contributions"] Q X ⟨loc,[],mh⟩:=by
 refine IV h1 ?_;rw[sJ,e0];simp only;rw[JR];exact h
theorem ic (I:Inv N t b) (hX:∀ n∈more,n.Ok t) (h16:N+more.length<=16):Inv (N+more.length) t (b.cn (b.con++more)):=by
 have c:=I.cnt;refine⟨h16,?_,fun n hn=>?_,I.pg,I.shr,I.s0,I.il,I.tot,I.gl⟩
 ·show b.page.length+(b.con++more).length+(if b.state=2 then 0 else 1)<=_;rw[V8];lia
 ·rcases U5.mp hn with h|h
  ·exact I.nodes n h
  ·exact hX n h
theorem Ap {M:Nat}(I:Inv N t b) (h:N<=M) (h16:M<=16):Inv M t b:=⟨h16,X9 I.cnt h,I.nodes,I.pg,I.shr,I.s0,I.il,I.tot,I.gl⟩
theorem Aq {d f1 m1 h1 f2 m2 h2:Int}{g1 g2:Gl}(hd:0<=d/\d<=10000):∀ n∈bm way d,n.Ok (tb f1 m1 g1 h1 f2 m2 g2 h2):=by
 have r3:(Cl.mk 3 1000 9000 ⟨0,0,0,10,3⟩ 0).Ok:=⟨by decide,by decide,.inl rfl,by decide,by decide,by decide,by decide,by decide,by decide,by decide⟩;have r4:(Cl.mk 4 1000 1073741823 ⟨0,0,0,0,0⟩ 0).Ok:=⟨by decide,by decide,.inl rfl,by decide,by decide,by decide,by decide,by decide,by decide,by decide⟩;have bx:∀ l h:Int,0<=h->h<=1000000->(At.box l h 0).Ok:=fun l h a b=>⟨a,b,Z2 _,by decide⟩
 intro n hn;unfold bm at hn
 split at hn
 ·simp at hn;subst hn;exact⟨by decide,by decide,by decide,by decide,by decide,by decide,.inl rfl,by decide,by decide,.inl rfl⟩
 ·split at hn
  ·simp at hn;subst hn;refine⟨⟨_,rfl,r3⟩,by decide,by decide,hd.1,hd.2,by decide,by decide,by decide,by decide,fun a ha=>?_,by decide⟩;simp at ha;subst ha;exact bx 9 1000 (by decide) (by decide)
  ·split at hn
   ·simp at hn;subst hn;refine⟨⟨_,rfl,r4⟩,by decide,by decide,hd.1,hd.2,by decide,by decide,by decide,by decide,fun a ha=>?_,by decide⟩;simp at ha;rcases ha with rfl|rfl|rfl
    ·exact bx 9 1000 (by decide) (by decide)
    ·exact⟨by decide,by decide,by decide,by decide,by decide,by decide,.inl rfl,by decide,by decide,.inl rfl⟩
    ·exact bx 8 400000 (by decide) (by decide)
   ·simp at hn
noncomputable def jD:TS:=(ak (aV (ag .NotEq (af br [(aa "one"),(aa "other"),(aa "table")]) (aa "due")) (aV (ag .NotEq (af bz [(aa "one")]) (aa "held")) (ag .NotEq (af (bJ 4) [(ae (aa "one") "contributions")]) (aa "behind")))) (ao (tK (.bool false))) tNil)
structure Lt (loc:List (String × V)) (other:Gl) (due held behind:V):Prop where
 one:loc.lookup "one"=some (.ref (2,0))
 table:loc.lookup "table"=some bk
 other:loc.lookup "other"=some other.v
 due:loc.lookup "due"=some due
 held:loc.lookup "held"=some held
 behind:loc.lookup "behind"=some behind
theorem turn (P:P2 t b1 b2 mh) (hT:TopOk other) (I:Inv N t b1) (e:Ev other t b1 (.exc k b)) (hx:k=88\/k=76) (I':Inv N t b) (hk:bo b) (hl:Lt loc other (SR.v (.exc k b)) b.st (.tup (b.con.map Nd.dsc)))
  (h:∀ m,P2 t b b2 m->K .next ⟨loc,[],m⟩):jD K X ⟨loc,[],mh⟩:=by
 obtain⟨l1,l2,l3,l4,l5,l6⟩:=hl;have hsr:Vd 60 (SR.v (.exc k b)):=(zM (s:=.exc k b) (fun b' h=>nomatch h)).mono (by decide);have ne:∀ {v:V}{m:MH}{kk:Bool->Prop},Vd 60 v->kk false->bq m .NotEq v v kk:=fun {v m kk} hv hkk=>by
  rw[iH];show bv m v v fun r=>kk (!r)
  rw[mO hv];exact hkk
 show af br _ _ _ _;refine gS l1 l3 l2 (mU P hT I e (fun c b' h=>by cases h;exact hx) fun m P'=>?_);have hb:SR.b (.exc k b)=b:=rfl;rw[hb]at P';refine kr ((Internal.tl l4 _ _ _ _).mpr ?_);show bq _ .NotEq _ _ _;refine ne hsr (ko.mpr ?_);show af bz _ _ _ _;refine gQ l1 (ql P' hk I' ?_);refine kr ((Internal.tl l5 _ _ _ _).mpr ?_);show bq _ .NotEq _ _ _;refine ne (qe.mono (by decide)) (ko.mpr ?_);obtain⟨ls,e0,e1⟩:=P'.m2;show af (bJ 4) _ _ _ _;refine kX l1 e0 (kV (t:=t) 2 e1 (by have:=I'.cnt;have:=I'.n16;lia) I'.nodes ?_);refine kr ((Internal.tl l6 _ _ _ _).mpr ?_);show bq _ .NotEq _ _ _;refine ne (qd.mono (by decide)) (gc.mpr ?_);exact h m P'
theorem Ar {rj:List Nd}{d:Int}{c:BS}(P:P2 t (c.cn (rj.map (Nd.deepen d))) c mh) (hc:c.con=[]) (hT:TopOk top) (ho:top.so=0) (hl:rj.length<=100) (hn:∀ n∈rj,b6 n) (hd:0<=d/\d<=10000) (l1:loc.lookup "rest"=some (.lst (rj.map Nd.it))) (l2:loc.lookup "inner"=some (.int d))
  (l3:loc.lookup "two"=some (.ref (3,0))) (l4:loc.lookup "one"=some (.ref (2,0))) (l5:loc.lookup "top"=some top.v) (l6:loc.lookup "table"=some bk) (F:Fine N t (c.cn (rj.map (Nd.deepen d)))) (hK:∀ m,K (.ret (.bool true)) ⟨loc,[],m⟩) :
  (ab (aE (aF 829 cx (aa "two") [(be (aU (an "item") ["inner"] (bc (aa "rest")) tTrue (af (bu 2) [(aa "item"),(aa "inner")])))]))
  (ab (ak (aV (ag .NotEq (af br [(aa "one"),(aa "top"),(aa "table")]) (af br [(aa "two"),(aa "top"),(aa "table")])) (ag .NotEq (af bz [(aa "one")]) (af bz [(aa "two")]))) (ao (tK (.bool false))) tNil)
  (ao (aS (ag .Eq (af (bJ 4) [(ae (aa "one") "contributions")]) (af (bJ 4) [(ae (aa "two") "contributions")])))))) K X ⟨loc,[],mh⟩:=by
 refine qm P (by exact ba ‹_› rfl) (by rw[hc];simp) hn hd l1 l2 l3 fun m P'=>?_
 rw[hc,W0]at P';obtain⟨s,e⟩:=mT (top:=top) (t:=t) _ (c.cn (rj.map (Nd.deepen d))) (Y3 _);obtain⟨f,b',rfl,I',K',_,_,_⟩:=qi hT ho F e;have ne:∀ {v:V}{m:MH}{kk:Bool->Prop},Vd 60 v->kk false->bq m .NotEq v v kk:=fun {v m kk} hv hkk=>by
  rw[iH];show bv m v v fun r=>kk (!r)
  rw[mO hv];exact hkk
 have hsr:Vd 60 (SR.v (.ret f b')):=(zM (s:=.ret f b') (fun b' h=>nomatch h)).mono (by decide);show af br _ _ _ _;refine gS l4 l5 l6 (mU P' hT F.inv e (fun c b' h=>nomatch h) fun m1 P1=>?_);refine kr ?_;show af br _ _ _ _;refine gS l3 l5 l6 (qk P1 hT F.inv e (fun c b' h=>nomatch h) fun m2 P2'=>?_);have hb:SR.b (.ret f b')=b':=rfl;rw[hb]at P2';refine kr ?_;show bq _ .NotEq _ _ _;refine ne hsr (ko.mpr ?_);show af bz _ _ _ _;refine gQ l4 (ql P2' K' I' (kr ?_));show af bz _ _ _ _;refine gQ l3 (mW P2' K' I' ?_);refine kr ?_;show bq _ .NotEq _ _ _;refine ne (qe.mono (by decide)) (gc.mpr ?_);obtain⟨ls,e0,e1⟩:=P2'.m2;obtain⟨ls3,e3,e4⟩:=P2'.m3;have hlen:b'.con.length<=5000:=by have:=I'.cnt;have:=I'.n16;lia
 show af (bJ 4) _ _ _ _;refine kX l4 e0 (kV (t:=t) 2 e1 hlen I'.nodes (kr ?_));show af (bJ 4) _ _ _ _;refine kX l3 e3 (kV (t:=t) 3 e4 hlen I'.nodes ?_);refine kr ?_;show bq _ .Eq _ _ _;rw[kg,mO (qd.mono (by decide))];exact hK m2
end
noncomputable def uc:List String:=["first","rest","way","vsize","inner","top","table","one","two"]
theorem Lw.put {loc:List (String × V)}{fi ri:List Nd}{way vs dd d:Int}{top:Gl}(L:Lw loc fi ri way vs dd d top) {n:String}{v:V}(h:uc.contains n=false):Lw (aj n v loc) fi ri way vs dd d top:=
 have M:∀ q,uc.contains q=true->(aj n v loc).lookup q=loc.lookup q:=fun q hq=>by rw[bw,if_neg fun e=>nomatch (e ▸ hq).symm.trans h]
 ⟨(M _ rfl).trans L.1,(M _ rfl).trans L.2,(M _ rfl).trans L.3,(M _ rfl).trans L.4,(M _ rfl).trans L.5,(M _ rfl).trans L.6,(M _ rfl).trans L.7,(M _ rfl).trans L.8,(M _ rfl).trans L.9⟩
section
variable {U:TS}
variable {N:Nat}{X:XP}{mh mh':MH}{k n ls:Nat}{K:Fl->St->Prop}{fi ri:List Nd}{way d:Int}{loc:List (String × V)}{t:Tb}{b1 b2 b A:BS}{top other:Gl}{s:SR}{ns more:List Nd}
theorem As {v:V}{m:MH}{kk:Bool->Prop}(hv:Vd 60 v) (hkk:kk false):bq m .NotEq v v kk:=by
 rw[iH];show bv m v v fun r=>kk (!r)
 rw[mO hv];exact hkk
theorem ja {v:V}{m:MH}{kk:Bool->Prop}(hv:Vd 60 v) (hkk:kk true):bq m .Eq v v kk:=by
 rw[iH];show bv m v v kk;rw[mO hv];exact hkk
theorem Nj (hw:way=0\/way=1\/way=2\/way=3) (hl:ri.length<=6) (hri:∀ n∈ri,b6 n) (hd:0<=d/\d<=10000) (l1:loc.lookup "rest"=some (.lst (ri.map Nd.it))) (l2:loc.lookup "inner"=some (.int d)) (l3:loc.lookup "way"=some (.int way)) (l4:loc.lookup "one"=some (.ref (2,0))) (P:P2 t b1 b2 mh) (hc:b1.con.length<=100)
  (h:∀ m,P2 t (b1.cn (b1.con++(bm way d++ri.map (Nd.deepen d)))) b2 m->U K X ⟨loc,[],m⟩) :
  (ab (aE (aF 829 cx (aa "one") [(eB (af e7 [(aa "way"),(aa "inner")]) (be (aU (an "item") ["inner"] (bc (aa "rest")) tTrue (af (bu 2) [(aa "item"),(aa "inner")]))))])) U) K X ⟨loc,[],mh⟩:=by
 obtain⟨ls,e0,_⟩:=P.m2;have bl:=mX (d:=d) hw;rw[cP,rP,o7,cI];simp only[l4];rw[pG,e0];refine⟨rfl,?_⟩;rw[co];refine Ao hw (by lia) hri hd l1 l2 l3 fun m' sc=>?_
 rw[cK];exact An (P.sc sc) (by rw[V8,V0];lia) fun m2 P'=>h m2 P'
theorem Nk {f:Option Pg}(L3:loc.lookup "way"=some (.int way)) (L6:loc.lookup "top"=some top.v) (L7:loc.lookup "table"=some bk) (L8:loc.lookup "one"=some (.ref (2,0))) (LE:loc.lookup "end"=some (dJ f)) (P:P2 t b A mh) (hT:TopOk top) (I:Inv n t b) (e:Ev top t b (.ret f A)) (h:∀ m,P2 t (if way=3 then A else b) A m->U K X ⟨loc,[],m⟩) :
  (ab (ak (bf (ag .Eq (aa "way") (tK (.int 3))) (ag .NotEq (af br [(aa "one"),(aa "top"),(aa "table")]) (aa "end"))) (ao (tK (.bool false))) tNil) U) K X ⟨loc,[],mh⟩:=by
 by_cases h3:way=3
 ·subst h3;rw[if_pos rfl]at h;show aa "way" _ X _;refine(Internal.tl L3 _ _ _ _).mpr ?_;rw[cQ,kg];show bv _ (.int 3) (.int 3) _;rw[l9];refine l8.mpr ?_;show af br _ _ _ _;refine gS L8 L6 L7 (mU P hT I e (fun c b' h=>nomatch h) fun m P1=>kr ((Internal.tl LE _ _ _ _).mpr ?_));show bq _ .NotEq _ _ _;exact As (kM.mono (by decide)) (gc.mpr (h m P1))
 ·rw[if_neg h3]at h;have hb3:(way == 3)=false:=beq_eq_false_iff_ne.mpr h3;show aa "way" _ X _;refine(Internal.tl L3 _ _ _ _).mpr ?_;rw[cQ,kg];show bv _ (.int way) (.int 3) _;rw[l9,hb3];exact pD.mpr (gc.mpr (eI.mpr (h mh P)))
theorem Nl {E:TE}(L3:loc.lookup "way"=some (.int way)) (h3:way=3) (hK:∀ st,K (.ret (.bool true)) st):ao (dD (aS (ag .Eq (aa "way") (tK (.int 3)))) E) K X ⟨loc,[],mh⟩:=by
 subst h3;rw[rO,rN,jn,lO,cI];simp only[L3];rw[cQ,kg];show bv _ (.int 3) (.int 3) _;rw[l9];exact hK _
theorem Nm {f:Option Pg}(h3:way≠3) (L3:loc.lookup "way"=some (.int way)) (L6:loc.lookup "top"=some top.v) (L7:loc.lookup "table"=some bk) (L8:loc.lookup "one"=some (.ref (2,0))) (L9:loc.lookup "two"=some (.ref (3,0))) (LE:loc.lookup "end"=some (dJ f)) (P:P2 t b A mh) (hT:TopOk top) (I:Inv n t b) (e:Ev top t b (.ret f (A.cn ns))) (I1:Inv k t (A.cn ns)) (I2:Inv N t A) (KA:bo A) (hK:∀ st,K (.ret (.bool true)) st) :
  (ao (dD (aS (ag .Eq (aa "way") (tK (.int 3)))) (dg (aS (ag .Eq (af br [(aa "one"),(aa "top"),(aa "table")]) (aa "end"))) (aS (ag .Eq (af bz [(aa "one")]) (af bz [(aa "two")])))))) K X ⟨loc,[],mh⟩:=by
 have hb3:(way == 3)=false:=beq_eq_false_iff_ne.mpr h3;rw[rO,rN,jn,lO,cI];simp only[L3];rw[cQ,kg];show bv _ (.int way) (.int 3) _;rw[l9];simp only[hb3,Bool.false_eq_true,if_false];rw[xw,jn];show af br _ _ _ _;refine gS L8 L6 L7 (mU P hT I e (fun c b' h=>nomatch h) fun m P1=>kr ((Internal.tl LE _ _ _ _).mpr ?_));show bq _ .Eq _ _ _;refine ja (kM.mono (by decide)) ?_;simp only[if_true];rw[jn];show af bz _ _ _ _;refine gQ L8 (ql P1 KA I1 (kr ?_));show af bz _ _ _ _;refine gQ L9 (mW P1 KA I2 (kr ?_));show bq _ .Eq _ _ _;exact ja (qe.mono (by decide)) (hK _)
theorem Nn {f1 m1 h1 f2 m2 h2 vs dd:Int}{g1 g2:Gl}{bn:List Nd}(ht:t=tb f1 m1 g1 h1 f2 m2 g2 h2) (c1:dX f1 m1 g1 h1) (c2:dX f2 m2 g2 h2) (L:Lw loc fi ri way vs dd d top) (hw:way=0\/way=1\/way=2\/way=3) (hd:0<=d/\d<=10000) (hT:TopOk top) (ho:top.so=0)
  (hlen:fi.length+ri.length<=6) (hfi:∀ n∈fi,b6 n) (hri:∀ n∈ri,b6 n) (P:P2 t b b mh) (hb:b.con=[]) (hbn:bn=bm way d) (F:Fine 7 t (b.cn (fi.map (Nd.deepen d)))) (hK:∀ st,K (.ret (.bool true)) st)
  (hU:∀ bA m,Ev top t (b.cn (fi.map (Nd.deepen d))) (.ret none bA)->Inv 7 t bA->bo bA->bA.con=[]->
   P2 t (if way=3 then bA.cn (ri.map (Nd.deepen d))else b.cn (fi.map (Nd.deepen d)++(bn++ri.map (Nd.deepen d)))) bA m->U K X ⟨aj "end" (.tup []) loc,[],m⟩) :
  (ab (aE (aF 829 cx (aa "two") [(be (aU (an "item") ["inner"] (bc (aa "first")) tTrue (af (bu 2) [(aa "item"),(aa "inner")])))]))
  (ab (aw "end" (af br [(aa "two"),(aa "top"),(aa "table")]))
  (ab (aE (aF 829 cx (aa "one") [(be (aU (an "item") ["inner"] (bc (aa "first")) tTrue (af (bu 2) [(aa "item"),(aa "inner")])))]))
  (ab (ak (bf (ag .Eq (aa "way") (tK (.int 3))) (ag .NotEq (af br [(aa "one"),(aa "top"),(aa "table")]) (aa "end"))) (ao (tK (.bool false))) tNil)
  (ab (aE (aF 829 cx (aa "one") [(eB (af e7 [(aa "way"),(aa "inner")]) (be (aU (an "item") ["inner"] (bc (aa "rest")) tTrue (af (bu 2) [(aa "item"),(aa "inner")]))))]))
  (ab (ak (ag .NotEq (aa "end") (aD [])) (ao (dD (aS (ag .Eq (aa "way") (tK (.int 3)))) (dg (aS (ag .Eq (af br [(aa "one"),(aa "top"),(aa "table")]) (aa "end"))) (aS (ag .Eq (af bz [(aa "one")]) (af bz [(aa "two")])))))) tNil) U)))))) K X ⟨loc,[],mh⟩:=by
 have ⟨L1,_,_,_,L5,L6,L7,_,L9⟩:=L;have eA:∀ xs:List Nd,b.cn (b.con++xs)=b.cn xs:=fun xs=>by rw[hb];rfl
 refine qm P (by lia) (by rw[hb];simp) hfi hd L1 L5 L9 fun ma PA=>?_
 rw[eA]at PA;obtain⟨s,e⟩:=mT (top:=top) (t:=t) _ (b.cn (fi.map (Nd.deepen d))) (Y3 _);obtain⟨f,bA,rfl,IA,KA,_,_,hcon⟩:=qi hT ho F e;show af br _ _ _ _;refine gS L9 L6 L7 (qk PA hT F.inv e (fun c b' h=>nomatch h) fun mb PB=>kr (eI.mpr ?_));have hsb:SR.b (.ret f bA)=bA:=rfl;rw[hsb]at PB;show ab _ _ K X ⟨aj "end" (dJ f) loc,[],mb⟩;have ME:(aj "end" (dJ f) loc).lookup "end"=some (dJ f):=ax;obtain⟨L1',L2',L3',-,L5',L6',L7',L8',L9'⟩:=L.put (n:="end") (v:=dJ f) (by decide);refine Ni PB (by lia) (by rw[hb];simp) hfi hd L1' L5' L8' fun mc PC=>?_
 rw[eA]at PC;have bl:bn.length<=1:=hbn ▸ mX hw;have hrn:(ri.map (Nd.deepen d)).length=ri.length:=V0 _;have fl:(b.cn (fi.map (Nd.deepen d))).con.length<=100:=by show(fi.map (Nd.deepen d)).length<=100;rw[V0];lia
 refine Nk L3' L6' L7' L8' ME PC hT F.inv e fun md PD=>?_
 refine Nj hw (by lia) hri hd L2' L5' L3' L8' PD (by
  split
  ·have:=IA.cnt;lia
  ·exact fl) fun me PE=>?_
 rw[<- hbn]at PE;rw[xC,j8,lO];refine(Internal.tl ME _ _ _ _).mpr ?_;rw[jp,cK];refine⟨by decide,?_⟩;rw[iH];show bv _ (dJ f) (.tup []) _;rw[LV];induction f with
|none=>
  rw[if_neg (by simp),xx];have hc:=hcon rfl;refine hU bA me e IA KA hc ?_;by_cases h3:way=3
  ·rw[if_pos h3]at PE ⊢;have hbn0:bn=[]:=by rw[hbn,h3];rfl
   rw[hc,hbn0]at PE;exact PE
  ·rw[if_neg h3]at PE ⊢;exact PE
|some p=>
  rw[if_pos (by rfl)];by_cases h3:way=3
  ·exact Nl L3' h3 hK
  ·rw[if_neg h3]at PE;have hmore:∀ n∈bn++ri.map (Nd.deepen d),n.Ok t:=fun n hn=>by
    rcases U5.mp hn with h|h
    ·rw[hbn]at h;rw[ht];exact Aq hd n h
    ·obtain⟨m,hm,rfl⟩:=V5.mp h;exact(Ak c1 c2 ht hd (hri m hm)).2
   have hml:(bn++ri.map (Nd.deepen d)).length<=7:=by rw[V8,hrn];lia
   have e1:=(kS (more:=bn++ri.map (Nd.deepen d)) F.nke e).1 p bA rfl;have I1:=ic (more:=bn++ri.map (Nd.deepen d)) F.inv hmore (by lia);have I2:=ic (more:=bn++ri.map (Nd.deepen d)) IA hmore (by lia);exact Nm h3 L3' L6' L7' L8' L9' ME PE hT I1 e1 I2 IA KA hK
end
structure Lx (loc:List (String × V)) (fi ri:List Nd) (way vs dd d:Int) (top:Gl) (due:String) (H W:V) (oth:Gl):Prop extends Lw loc fi ri way vs dd d top where
 due:loc.lookup "due"=some (.str due)
 held:loc.lookup "held"=some H
 waits:loc.lookup "waits"=some W
 other:loc.lookup "other"=some oth.v
theorem Lx.put {loc:List (String × V)}{fi ri:List Nd}{way vs dd d:Int}{top:Gl}{due:String}{H W:V}{oth:Gl}(L:Lx loc fi ri way vs dd d top due H W oth) {n:String}{v:V}(h:uc.contains n=false) (h':n≠"due"/\n≠"held"/\n≠"waits"/\n≠"other"):Lx (aj n v loc) fi ri way vs dd d top due H W oth:=
 ⟨L.toLw.put h,by rw[bw,if_neg (Ne.symm h'.1)];exact L.due,by rw[bw,if_neg (Ne.symm h'.2.1)];exact L.held,by rw[bw,if_neg (Ne.symm h'.2.2.1)];exact L.waits,by rw[bw,if_neg (Ne.symm h'.2.2.2)];exact L.other⟩
noncomputable def jb (way:Int) (top:Gl):Gl:=if way=3 then⟨0,0,0,1,1⟩else top
section
variable {N:Nat}{X:XP}{mh mh':MH}{k n ls:Nat}{K:Fl->St->Prop}{fi ri:List Nd}{way vs dd d:Int}{loc:List (String × V)}{t:Tb}{b1 b2 b bA:BS}{top oth:Gl}{s:SR}{ns more:List Nd}{due:String}{H W:V}
theorem No {U:TS}(L:Lw loc fi ri way vs dd d top) (hw:way=0\/way=1\/way=2\/way=3) (hri:ri.length<=1000) (P:P2 t b1 bA mh) (I1:∀ n∈b1.con,Nd.Ok t n) (hl1:b1.con.length<=5000) (IA:Inv N t bA) (KA:bo bA)
  (hU:∀ m loc',Lx loc' fi ri way vs dd d top (cB way bA.state (cL bA vs) (dl ri)) bA.st (.tup (b1.con.map Nd.dsc)) (jb way top)->P2 t b1 bA m->U K X ⟨loc',[],m⟩) :
  (ab (bt [an "held",an "waits"] (aD [(af (bJ 4) [(ae (aa "one") "contributions")]),(af bz [(aa "two")])]))
  (ab (aw "other" (bM (ag .Eq (aa "way") (tK (.int 3))) (af K258_5 [(tK (.int 0)),(tK (.int 0)),(tK (.int 0)),(tK (.int 1)),(tK (.int 1))]) (aa "top")))
  (ab (aw "due" (af e8 [(aa "way"),(ae (aa "two") "state"),(aa "two"),(aa "vsize"),(aa "rest")]))
  (ab (aw "ahead" (bB [])) U)))) K X ⟨loc,[],mh⟩:=by
 obtain⟨L1,L2,L3,L4,L5,L6,L7,L8,L9⟩:=id L;obtain⟨ls,e0,e1⟩:=P.m2;rw[cP,rR,jp,co];refine kX L8 e0 (kV (t:=t) 2 e1 hl1 I1 (kr ?_));rw[co];refine gQ L9 (mW P KA IA (kr ?_));rw[cK];refine⟨by simp,by simp,?_⟩;simp only[List.reverse_cons,List.reverse_nil,W0,List.cons_append,sL,sK,e9,o6];show ab _ _ K X ⟨aj "waits" (.tup (b1.con.map Nd.dsc)) (aj "held" bA.st loc),[],mh⟩;have LA:=(L.put (n:="held") (v:=bA.st) (by decide)).put (n:="waits") (v:=.tup (b1.con.map Nd.dsc)) (by decide);have step3:∀ (U':TS) (m:MH) (loc2:List (String × V)),P2 t b1 bA m->Lw loc2 fi ri way vs dd d top->(U' K X ⟨aj "due" (.str (cB way bA.state (cL bA vs) (dl ri))) loc2,[],m⟩)->
   (ab (aw "due" (af e8 [(aa "way"),(ae (aa "two") "state"),(aa "two"),(aa "vsize"),(aa "rest")])) U') K X ⟨loc2,[],m⟩:=fun U' m loc2 P' L' h=>by
  obtain⟨M,L3',rfl,oL,h4,up⟩:=P'.two;have:=LY (X:=X) (mh:=M) (r:=3) (b:=bA) (L:=L3') (way:=way) (vsize:=vs) (rest:=ri) (Q:=fun v m=>U' K X ⟨aj "due" v loc2,[],m⟩) hw hri h;simp[L'.way,L'.two,L'.vs,L'.rest,aH,aO,aM,aP];exact this
 have step2:∀ (U':TS),(∀ m,P2 t b1 bA m->U' K X ⟨aj "other" (jb way top).v (aj "waits" (.tup (b1.con.map Nd.dsc)) (aj "held" bA.st loc)),[],m⟩)->
   (ab (aw "other" (bM (ag .Eq (aa "way") (tK (.int 3))) (af K258_5 [(tK (.int 0)),(tK (.int 0)),(tK (.int 0)),(tK (.int 1)),(tK (.int 1))]) (aa "top"))) U') K X ⟨aj "waits" (.tup (b1.con.map Nd.dsc)) (aj "held" bA.st loc),[],mh⟩:=fun U' h=>by
  unfold jb at h;by_cases h3:way=3
  ·have:=h mh.bump (P.sc (ce mh));rw[if_pos h3]at this;simp[L.way,L.top,h3,↓jw,cy,aZ,aO,aM,aP];exact this
  ·have:=h mh P;rw[if_neg h3]at this;simp[L.way,L.top,h3,aO,aM,aP];exact this
 refine step2 _ fun m P'=>?_
 have LB:=LA.put (n:="other") (v:=(jb way top).v) (by decide);refine step3 _ m _ P' LB ?_;rw[cP,iI,xz,cK];refine⟨by decide,?_⟩;refine hU m _ ⟨(LB.put (n:="due") (by decide)).put (n:="ahead") (by decide),?_,?_,?_,?_⟩ P'
 ·(repeat first|exact ax|refine az rfl ?_)
 ·(repeat first|exact ax|refine az rfl ?_)
 ·(repeat first|exact ax|refine az rfl ?_)
 ·(repeat first|exact ax|refine az rfl ?_)
noncomputable def Np:TE:=(bM (ag .Eq (aa "way") (tK (.int 3))) (aa "waits") (af (bJ 4) [(eB (af e7 [(aa "way"),(aa "inner")]) (be (aU (an "item") ["inner"] (bc (aa "rest")) tTrue (af (bu 2) [(aa "item"),(aa "inner")]))))]))
noncomputable def mY:TS:=(ak (ag .Lt (aa "way") (tK (.int 3))) (aE (cj "list" (ae (aa "one") "contributions") bPop [(tK (.int 0))])) tNil)
theorem Au {U:TS}{bX:BS}{beh:V}(P:P2 t b1 b2 mh) (hT:TopOk oth) (I1:Inv N t b1) (e1:Ev oth t b1 (.exc k bX)) (hx:k=88\/k=76) (IX:Inv N t bX) (hk:bo bX) (e2:Ev oth t bX (.exc k bX)) (hl:Lt loc oth (SR.v (.exc k bX)) bX.st (.tup (bX.con.map Nd.dsc)))
  (h:∀ m,P2 t bX b2 m->U K X ⟨aj "turn" (.int 1) (aj "turn" (.int 0) loc),[],m⟩):(ab (cG "turn" (ey [(tK (.int 2))]) jD) U) K X ⟨loc,[],mh⟩:=by
 have lt:∀ (loc:List (String × V)) (v:V),Lt loc oth (SR.v (.exc k bX)) bX.st (.tup (bX.con.map Nd.dsc))->Lt (aj "turn" v loc) oth (SR.v (.exc k bX)) bX.st (.tup (bX.con.map Nd.dsc)):=fun loc v ⟨a1,a2,a3,a4,a5,a6⟩=>
  ⟨by (repeat first|exact ax|exact a1|refine az rfl ?_),by (repeat first|exact ax|exact a2|refine az rfl ?_),by (repeat first|exact ax|exact a3|refine az rfl ?_),by (repeat first|exact ax|exact a4|refine az rfl ?_),by (repeat first|exact ax|exact a5|refine az rfl ?_),by (repeat first|exact ax|exact a6|refine az rfl ?_)⟩
 rw[cP,kc,HZ,co,cQ,cK];refine⟨by decide,by decide,?_⟩;show ck (fun ω=>True) "turn" jD [.int 0,.int 1] _ X ⟨loc,[],mh⟩;rw[gj];refine⟨trivial,?_⟩;show jD _ X ⟨aj "turn" (.int 0) loc,[],mh⟩;refine turn P hT I1 e1 hx IX hk (lt _ _ hl) fun m P'=>?_
 show ck (fun ω=>True) "turn" jD [.int 1] _ X _;rw[gj];refine⟨trivial,?_⟩;show jD _ X ⟨aj "turn" (.int 1) (aj "turn" (.int 0) loc),[],m⟩;refine turn P' hT IX e2 hx IX hk (lt _ _ (lt _ _ hl)) fun m' P''=>?_
 refine eI.mpr ?_;rw[kz];exact⟨trivial,h m' P''⟩
end
noncomputable def Nq:TS:=(ab (aE (aF 829 cx (aa "two") [(be (aU (an "item") ["inner"] (bc (aa "rest")) tTrue (af (bu 2) [(aa "item"),(aa "inner")])))]))
  (ab (ak (aV (ag .NotEq (af br [(aa "one"),(aa "top"),(aa "table")]) (af br [(aa "two"),(aa "top"),(aa "table")])) (ag .NotEq (af bz [(aa "one")]) (af bz [(aa "two")]))) (ao (tK (.bool false))) tNil)
  (ao (aS (ag .Eq (af (bJ 4) [(ae (aa "one") "contributions")]) (af (bJ 4) [(ae (aa "two") "contributions")]))))))
noncomputable def jE:TS:=ab (aw "behind" Np) (ab (cG "turn" (ey [(tK (.int 2))]) jD) (ab mY Nq))
noncomputable def gu:TS:=(ak (ag .Eq (aa "due") (tK (.str ""))) (ab (ak (aV (ag .Eq (aa "way") (tK (.int 2))) (ag .Eq (aa "way") (tK (.int 3)))) (ao (tK (.bool true))) tNil)
  (ab (ak (ag .In (af br [(aa "one"),(aa "other"),(aa "table")]) (aD [(tK (.str "page")),(tK (.str "box"))])) (ao (tK (.bool false))) tNil)
  (ab (aE (aF 829 cx (aa "two") [(be (aU (an "item") ["inner"] (bc (aa "rest")) tTrue (af (bu 2) [(aa "item"),(aa "inner")])))]))
  (ab (aE (af br [(aa "two"),(aa "top"),(aa "table")]))
  (ao (dD (aS (ag .Eq (aa "rest") (bB []))) (dg (aS (ag .Eq (af bz [(aa "one")]) (af bz [(aa "two")]))) (aS (ag .Eq (af (bJ 4) [(ae (aa "one") "contributions")]) (af (bJ 4) [(ae (aa "two") "contributions")])))))))))) tNil)
structure Fx (t:Tb) (B bA:BS) (fi ri:List Nd) (way d:Int) (top:Gl):Prop where
 hw:way=0\/way=1\/way=2\/way=3
 hd:0<=d/\d<=10000
 hT:TopOk top
 ho:top.so=0
 len:fi.length+ri.length<=6
 hri:∀ n∈ri,b6 n
 nok:NoK ri
 F0:Fine 7 t (B.cn (fi.map (Nd.deepen d)))
 eA:Ev top t (B.cn (fi.map (Nd.deepen d))) (.ret none bA)
 IA:Inv 7 t bA
 KA:bo bA
 cA:bA.con=[]
 good:∀ n∈ri.map (Nd.deepen d),cC t n/\n.Ok t
 bad:∀ n∈bm way d,n.Ok t
section
variable {U:TS}
variable {N:Nat}{X:XP}{mh mh':MH}{k n ls:Nat}{K:Fl->St->Prop}{fi ri:List Nd}{way vs dd d:Int}{loc:List (String × V)}{t:Tb}{b1 b2 b B bA:BS}{top oth:Gl}{s:SR}{ns more:List Nd}{due:String}{H W:V}
theorem ud (h:NoK ri):NoK (ri.map (Nd.deepen d)):=fun n hn=>by
 obtain⟨m,hm,rfl⟩:=V5.mp hn;rw[Al];exact h m hm
theorem ue (F:Fx t B bA fi ri way d top):Fine 13 t (bA.cn (ri.map (Nd.deepen d))):=by
 have hl:(ri.map (Nd.deepen d)).length<=6:=by rw[V0];have:=F.len;lia
 have I:=ic (more:=ri.map (Nd.deepen d)) F.IA (fun n hn=>(F.good n hn).2) (by lia);rw[F.cA,W0]at I;exact⟨Ap I (by lia) (by decide),F.KA,(ud F.nok).nke,fun n hn=>(F.good n hn).1⟩
theorem kY {T:TS}(hw:loc.lookup "way"=some (.int way)) (hdu:loc.lookup "due"=some (.str due)) (hs:dG due=true) (h:¬ (way=3/\due="page")) (hU:U K X ⟨loc,[],mh⟩) :
  (ab (ak (bf (ag .Eq (aa "way") (tK (.int 3))) (ag .Eq (aa "due") (tK (.str "page")))) T tNil) U) K X ⟨loc,[],mh⟩:=by
 by_cases h3:way=3
 ·have h2:due≠"page":=fun z=>h ⟨h3,z⟩
  simp[↓tl hw,↓lr hw,↓tl hdu,↓lr hdu,h3,hs,h2];exact hU
 ·simp[↓tl hw,↓lr hw,h3];exact hU
theorem qn {T:TS}(hdu:loc.lookup "due"=some (.str due)) (hs:dG due=true) (h:due≠"") (hU:U K X ⟨loc,[],mh⟩) :
  (ab (ak (ag .Eq (aa "due") (tK (.str ""))) T tNil) U) K X ⟨loc,[],mh⟩:=by
 simp[↓tl hdu,↓lr hdu,hs,h];exact hU
theorem Nr {x:Nd}(hlt:way < 3) (hl:ns.length<=6) (lw:loc.lookup "way"=some (.int way)) (lo:loc.lookup "one"=some (.ref (2,0))) (P:P2 t (bA.cn (x::ns)) bA mh) (h:∀ m,P2 t (bA.cn ns) bA m->U K X ⟨loc,[],m⟩):(ab mY U) K X ⟨loc,[],mh⟩:=by
 obtain⟨ls,e0,e1⟩:=P.m2;have:=Nh (X:=X) (Q:=fun ω m'=>U K X ⟨loc,[],m'⟩) P (n:=x) (ns:=ns) rfl (by lia) h;unfold mY;simp[↓tl lw,↓lr lw,↓tl lo,↓lr lo,hlt,e0,e1,-IR,aO,aM,aP];exact this
theorem uf {x:Nd}{kk:Nat}(F:Fx t B bA fi ri way d top) (h3:way≠3) (hb:bm way d=[x]) (hkk:kk=88\/kk=76) (hv:SR.v (.exc kk (bA.cn (x::ri.map (Nd.deepen d))))=.str due) (e2:Ev top t (bA.cn (x::ri.map (Nd.deepen d))) (.exc kk (bA.cn (x::ri.map (Nd.deepen d)))))
  (L:Lx loc fi ri way vs dd d top due bA.st W top) (P:P2 t (B.cn (fi.map (Nd.deepen d)++(bm way d++ri.map (Nd.deepen d)))) bA mh) (hK:∀ st,K (.ret (.bool true)) st):jE K X ⟨loc,[],mh⟩:=by
 have hml:(bm way d++ri.map (Nd.deepen d)).length<=7:=by rw[hb];simp;have:=F.len;lia
 have hmore:∀ n∈bm way d++ri.map (Nd.deepen d),n.Ok t:=fun n hn=>by
  rcases U5.mp hn with h|h
  ·exact F.bad n h
  ·exact(F.good n h).2
 have I1:=ic (more:=bm way d++ri.map (Nd.deepen d)) F.F0.inv hmore (by lia);have I2:=ic (more:=bm way d++ri.map (Nd.deepen d)) F.IA hmore (by lia);rw[F.cA,W0]at I2;have e1:=((kS (more:=bm way d++ri.map (Nd.deepen d)) F.F0.nke F.eA).2 bA rfl).2;have hbr:bm way d++ri.map (Nd.deepen d)=x::ri.map (Nd.deepen d):=by rw[hb];rfl
 have ex:Ev top t (bA.cn (bm way d++ri.map (Nd.deepen d))) (.exc kk (bA.cn (bm way d++ri.map (Nd.deepen d)))):=by rw[hbr];exact e2
 have e1':=e1 _ ex;have hb3:(way == 3)=false:=beq_eq_false_iff_ne.mpr h3;unfold jE;show aa "way" _ X _;refine(Internal.tl L.way _ _ _ _).mpr ?_;rw[cQ,kg];show bv _ (.int way) (.int 3) _;rw[l9,hb3];refine gc.mpr ?_;rw[jo,co];refine Ao F.hw (by have:=F.len;lia) F.hri F.hd L.rest L.inner L.way fun m sc=>?_
 rw[cK];refine zv (by exact ba ‹_› rfl) (mV (t:=t) hmore) ?_;refine eI.mpr ?_;show ab _ _ K X ⟨aj "behind" (.tup ((bm way d++ri.map (Nd.deepen d)).map Nd.dsc)) loc,[],m⟩;have hv':SR.v (.exc kk (bA.cn (bm way d++ri.map (Nd.deepen d))))=.str due:=by rw[hbr];exact hv
 have LB:=L.put (n:="behind") (v:=.tup ((bm way d++ri.map (Nd.deepen d)).map Nd.dsc)) (by decide) (by decide);refine Au (bX:=bA.cn (bm way d++ri.map (Nd.deepen d))) (k:=kk) (beh:=.none) (P.sc sc) F.hT I1 e1' hkk I2 F.KA ex ⟨LB.one,LB.table,LB.other,by rw[hv'];exact LB.due,LB.held,by rw[bw,if_pos rfl];rfl⟩ fun m2 P2'=>?_
 have LC:=(LB.put (n:="turn") (v:=.int 0) (by decide) (by decide)).put (n:="turn") (v:=.int 1) (by decide) (by decide);have hlt:way < 3:=by rcases F.hw with h|h|h|h<;>first|exact absurd h h3|(rw[h];decide)
 rw[hbr]at P2';refine Nr hlt (by rw[V0];have:=F.len;lia) LC.way LC.one P2' fun m3 P3=>?_
 exact Ar P3 F.cA F.hT F.ho (by have:=F.len;lia) F.hri F.hd LC.rest LC.inner LC.two LC.one LC.top LC.table (ue F) fun m=>hK _
end
section
variable {U:TS}
variable {N:Nat}{X:XP}{mh mh':MH}{k n ls:Nat}{K:Fl->St->Prop}{fi ri:List Nd}{way vs dd d:Int}{loc:List (String × V)}{t:Tb}{b1 b2 b B bA:BS}{top oth:Gl}{s:SR}{ns more:List Nd}{due:String}{H W:V}
theorem Nt {c:BS}(P:P2 t b1 c mh) (h:ri≠[]->b1=c/\Inv N t c/\bo c) (l1:loc.lookup "rest"=some (.lst (ri.map Nd.it))) (l2:loc.lookup "one"=some (.ref (2,0))) (l3:loc.lookup "two"=some (.ref (3,0))) (hK:∀ st,K (.ret (.bool true)) st) :
  (ao (dD (aS (ag .Eq (aa "rest") (bB []))) (dg (aS (ag .Eq (af bz [(aa "one")]) (af bz [(aa "two")]))) (aS (ag .Eq (af (bJ 4) [(ae (aa "one") "contributions")]) (af (bJ 4) [(ae (aa "two") "contributions")])))))) K X ⟨loc,[],mh⟩:=by
 rw[rO,rN,jn,lO,cI];simp only[l1];rw[xz,cK];refine⟨by decide,?_⟩;rw[iH];show bv _ (.lst (ri.map Nd.it)) (.lst []) _;rw[zO (zP.mono (by decide))];rcases ri with _|⟨x,xs⟩
 ·simp only[List.map_nil,List.isEmpty_nil,if_true];exact hK _
 ·obtain⟨rfl,I,KK⟩:=h (by simp);have hlen:b1.con.length<=5000:=by have:=I.cnt;have:=I.n16;lia
  simp only[V1,List.isEmpty_cons,Bool.false_eq_true,if_false];rw[xw,jn];show af bz _ _ _ _;refine gQ l2 (ql P KK I (kr ?_));show af bz _ _ _ _;refine gQ l3 (mW P KK I (kr ?_));show bq _ .Eq _ _ _;refine ja (qe.mono (by decide)) ?_;simp only[if_true];obtain⟨ls,e0,e1⟩:=P.m2;obtain⟨ls3,e3,e4⟩:=P.m3;rw[jn];show af (bJ 4) _ _ _ _;refine kX l2 e0 (kV (t:=t) 2 e1 hlen I.nodes (kr ?_));show af (bJ 4) _ _ _ _;refine kX l3 e3 (kV (t:=t) 3 e4 hlen I.nodes (kr ?_));show bq _ .Eq _ _ _;exact ja (qd.mono (by decide)) (hK _)
theorem Nu (h:way=2\/way=3) (l1:loc.lookup "due"=some (.str "")) (l2:loc.lookup "way"=some (.int way)) (hK:∀ st,K (.ret (.bool true)) st):(ab gu U) K X ⟨loc,[],mh⟩:=by
 unfold gu;rcases h with h|h
 ·subst h;simp[↓tl l1,↓lr l1,↓tl l2,↓lr l2,kt];exact hK _
 ·subst h;simp[↓tl l1,↓lr l1,↓tl l2,↓lr l2,kt];exact hK _
theorem Nv (l:loc.lookup "way"=some (.int 0)) (h:U K X ⟨loc,[],mh⟩):(ab (ak (aV (ag .Eq (aa "way") (tK (.int 2))) (ag .Eq (aa "way") (tK (.int 3)))) (ao (tK (.bool true))) tNil) U) K X ⟨loc,[],mh⟩:=by
 simp[↓tl l,↓lr l,aO,aM,aP];exact h
theorem Nw {f1:Option Pg}{c1:BS}(l1:loc.lookup "one"=some (.ref (2,0))) (l2:loc.lookup "other"=some oth.v) (l3:loc.lookup "table"=some bk) (P:P2 t B bA mh) (hT:TopOk oth) (I:Inv N t B) (e:Ev oth t B (.ret f1 c1)) (h:∀ m,P2 t c1 bA m->U K X ⟨loc,[],m⟩) :
  (ab (ak (ag .In (af br [(aa "one"),(aa "other"),(aa "table")]) (aD [(tK (.str "page")),(tK (.str "box"))])) (ao (tK (.bool false))) tNil) U) K X ⟨loc,[],mh⟩:=by
 show af br _ _ _ _;refine gS l1 l2 l3 (mU P hT I e (fun c b' h=>nomatch h) fun m Pm=>kr ?_);show aD _ _ _ _;rw[jp,co,cQ,co,cQ,cK];refine⟨by decide,?_⟩;rw[iH];show cW (dJ f1) (.tup [.str "page",.str "box"]) _;rw[LW];exact gc.mpr (eI.mpr (h m Pm))
theorem ug (F:Fx t B bA fi ri way d top) (h1:way≠1) (h0:way=0->bA.state≠2) (hO:way=0->oth=top) (L:Lx loc fi ri way vs dd d top "" H W oth)
  (P:way≠3->P2 t (B.cn (fi.map (Nd.deepen d)++(bm way d++ri.map (Nd.deepen d)))) bA mh) (hK:∀ st,K (.ret (.bool true)) st):(ab gu U) K X ⟨loc,[],mh⟩:=by
 have hw:=F.hw;by_cases h23:way=2\/way=3
 ·exact Nu h23 L.due L.way hK
 have hz:way=0:=by lia
 subst hz;obtain rfl:=hO rfl;have hs:=h0 rfl;have P0:=P (by decide);have hbr:bm 0 d++ri.map (Nd.deepen d)=Nd.atm (.skip ⟨500,0,0,100,1⟩ 0)::ri.map (Nd.deepen d):=rfl;have hml:(bm 0 d++ri.map (Nd.deepen d)).length<=7:=by rw[hbr];simp;have:=F.len;lia
 have hmore:∀ n∈bm 0 d++ri.map (Nd.deepen d),n.Ok t:=fun n hn=>by
  rcases U5.mp hn with h|h
  ·exact F.bad n h
  ·exact(F.good n h).2
 have I1:=ic (more:=bm 0 d++ri.map (Nd.deepen d)) F.F0.inv hmore (by lia);have e1:=((kS (more:=bm 0 d++ri.map (Nd.deepen d)) F.F0.nke F.eA).2 bA rfl).2;have FR:=ue F;obtain⟨s0,e0⟩:=mT (top:=oth) (t:=t) _ (bA.cn (ri.map (Nd.deepen d))) (Y3 _);obtain⟨f,b',rfl,I',kk',_,_,_⟩:=qi F.hT F.ho FR e0;obtain⟨f1,c1,E1,hc1⟩:∃ f1 c1,Ev oth t (B.cn (fi.map (Nd.deepen d)++(bm 0 d++ri.map (Nd.deepen d)))) (.ret f1 c1)/\(ri≠[]->c1=b'):=by
  by_cases hr:ri=[]
  ·refine⟨none,((bA.cn (ri.map (Nd.deepen d))).up (ri.map (Nd.deepen d)) ⟨500,0,0,100,1⟩ 0 0),?_,fun h=>absurd hr h⟩;refine e1 _ (Ae (more:=ri.map (Nd.deepen d)) hs hbr ?_);exact tW (by show ri.map _=[];rw[hr];rfl)
  ·refine⟨f,b',?_,fun ω=>rfl⟩;refine e1 _ (Ae (more:=ri.map (Nd.deepen d)) hs hbr ?_);refine Mn (b:=bA.cn (ri.map (Nd.deepen d))) (fun h=>hr (List.map_eq_nil_iff.mp h)) FR.nke e0 (fun e b h=>nomatch h)
 show aa "due" _ X _;refine(Internal.tl L.due _ _ _ _).mpr ?_;rw[cQ];refine ja (.str kt) (jv.mpr ?_);refine Nv L.way (Nw L.one L.other L.table P0 F.hT I1 E1 fun m Pm=>?_);refine qm Pm (by have:=F.len;lia) (by rw[F.cA];simp) F.hri F.hd L.rest L.inner L.two fun m2 P2'=>?_
 rw[F.cA,W0]at P2';show af br _ _ _ _;refine gS L.two L.top L.table (qk P2' F.hT FR.inv e0 (fun c b' h=>nomatch h) fun m3 P3=>kr (eI.mpr ?_));exact Nt P3 (fun h=>⟨hc1 h,I',kk'⟩) L.rest L.one L.two fun st=>rS.mpr (hK st)
end
theorem Av:∀ {ri:List Nd},dl ri=true->∃ ah bx tl,ri=ah++bx::tl/\(∀ n∈ah,n.isBox=false)/\bx.isBox=true
|[],h=>by simp[dl]at h
|x::xs,h=>by
  cases hx:x.isBox with
 |true=>exact⟨[],x,xs,rfl,(fun n hn=>nomatch hn),hx⟩
 |false=>
   obtain⟨ah,bx,tl,rfl,h1,h2⟩:=Av (ri:=xs) (by simpa[dl,hx]using h);refine⟨x::ah,bx,tl,rfl,fun n hn=>?_,h2⟩;rcases V3.mp hn with rfl|hn
   ·exact hx
   ·exact h1 n hn
theorem Nx {ri:List Nd}:iD (ri.map Nd.it)=ri.zipIdx.map fun p=>.tup [.int p.2,p.1.it]:=by
 unfold iD;rw[List.zipIdx_map,X3];rfl
theorem Ny {ah tl:List Nd}{bx:Nd}(h1:∀ n∈ah,n.isBox=false) (h2:bx.isBox=true):∃ l:List (Nd × Nat),((ah++bx::tl).zipIdx.filter fun p=>p.1.isBox)=(bx,ah.length)::l:=by
 rw[List.zipIdx_append,List.zipIdx_cons,List.filter_append];have:(ah.zipIdx.filter fun p=>p.1.isBox)=[]:=List.filter_eq_nil_iff.mpr fun p hp=>by
  have:=h1 p.1 (List.fst_mem_of_mem_zipIdx hp);simp[this]
 rw[this,W0,List.filter_cons];simp only[h2,if_true];exact⟨List.filter (fun p=>p.1.isBox) (tl.zipIdx (0+ah.length+1)),by rw[Nat.zero_add]⟩
section
variable {N:Nat}{X:XP}{mh mh':MH}{k n ls:Nat}{K:Fl->St->Prop}{fi ri ah tl:List Nd}{bx:Nd}{way vs dd d:Int}{loc:List (String × V)}{t:Tb}{b1 b2 b B bA:BS}{top oth:Gl}{s:SR}{ns more:List Nd}{due:String}{H W:V}
theorem Nz {U:TS}(l1:loc.lookup "rest"=some (.lst ((ah++bx::tl).map Nd.it))) (hl:(ah++bx::tl).length<=6) (h1:∀ n∈ah,n.isBox=false) (h2:bx.isBox=true) (h:U K X ⟨aj "at" (.int ah.length) loc,[],mh⟩) :
  (ab (aw "at" (au (be (aU (dB [an "place",an "item"]) [] (j6 (aa "rest")) (ag .Eq (au (aa "item") (tK (.int 0))) (tK (.str "b"))) (aa "place"))) (tK (.int 0)))) U) K X ⟨loc,[],mh⟩:=by
 rw[cP,iI,xy,ke,kf,H5,cI];simp only[l1];rw[Nx];refine tG (chk:=fun ω=>True) (inj:=fun p:Nd × Nat=>V.tup [.int p.2,p.1.it]) (g:=fun p:Nd × Nat=>V.int p.2) (p:=fun p:Nd × Nat=>p.1.isBox) trivial _ [] (by simp at hl ⊢;(first|exact ba ‹_› rfl|lia)) (fun u hu K' hK'=>?_) ?_
 ·have:=hK' ⟨[("place",.int u.2),("item",u.1.it)],[],mh⟩ (fun ω Q' h=>by
   have:=h ⟨[("place",.int u.2),("item",u.1.it)],[],mh⟩ rfl;simp;exact this) rfl
  simp[HU,df];show bY mh u.1.it (.int 0) (fun w=>bv mh w (.str "b") (fun r=>K' r ⟨[("place",.int u.2),("item",u.1.it)],[],mh⟩));have e:=zR (mh:=mh) (n:=u.1) (k:=fun r=>K' r ⟨[("place",.int u.2),("item",u.1.it)],[],mh⟩);rw[e];exact this
 ·obtain⟨l,e⟩:=Ny (tl:=tl) h1 h2;rw[e,W0,V1];simp;exact h
theorem NA {U:TS}(l1:loc.lookup "rest"=some (.lst ((ah++bx::tl).map Nd.it))) (hl:(ah++bx::tl).length<=6) (h1:∀ n∈ah,n.isBox=false) (h2:bx.isBox=true)
  (hU:U K X ⟨aj "ahead" (.lst (ah.map Nd.it)) (aj "rest" (.lst ((bx::tl).map Nd.it)) (aj "at" (.int ah.length) loc)),[],mh⟩) :
  (ab (aw "at" (au (be (aU (dB [an "place",an "item"]) [] (j6 (aa "rest")) (ag .Eq (au (aa "item") (tK (.int 0))) (tK (.str "b"))) (aa "place"))) (tK (.int 0))))
  (ab (bt [an "rest",an "ahead"] (aD [(eV none (aa "rest") (aa "at")),(iw none (aa "rest") (aa "at"))])) U)) K X ⟨loc,[],mh⟩:=by
 refine Nz l1 hl h1 h2 ?_;have l1':(aj "at" (.int ah.length) loc).lookup "rest"=some (.lst ((ah++bx::tl).map Nd.it)):=by rw[bw,if_neg (by decide)];exact l1
 have l2':(aj "at" (.int ah.length) loc).lookup "at"=some (.int ah.length):=by rw[bw,if_pos rfl]
 have hl0:(ah++bx::tl).length<=10000:=by exact ba ‹_› rfl
 rw[cP,rR,jp,co,H0,Internal.tl l1'];dsimp only;rw[Internal.tl l2'];dsimp only;refine⟨by exact Z3 _,?_⟩;rw[xA];refine⟨by rw[V0];exact hl0,?_⟩;rw[co,H1,Internal.tl l1'];rw[Internal.tl l2'];dsimp only;refine⟨by exact Z3 _,?_⟩;rw[xA];refine⟨by rw[V0];exact hl0,?_⟩;rw[cK];refine⟨by simp,by simp,?_⟩;have e1:((ah++bx::tl).map Nd.it).take (Int.toNat (ah.length:Int))=ah.map Nd.it:=by
  rw[Int.toNat_natCast,<- List.map_take,List.take_left]
 have e2:((ah++bx::tl).map Nd.it).drop (Int.toNat (ah.length:Int))=(bx::tl).map Nd.it:=by
  rw[Int.toNat_natCast,<- List.map_drop,List.drop_left]
 simp only[List.reverse_cons,List.reverse_nil,W0,List.cons_append,sL,sK,e9,o6];rw[e1,e2];exact hU
end
noncomputable def Gx:Gl:=⟨0,0,0,1,1⟩
section
variable {N:Nat}{X:XP}{mh mh':MH}{k n ls:Nat}{K:Fl->St->Prop}{fi ri ah tl:List Nd}{bx:Nd}{way vs dd d:Int}{loc:List (String × V)}{t:Tb}{b1 b2 b B bA:BS}{top oth:Gl}{s:SR}{ns more:List Nd}{due:String}{H W:V}
theorem NB:TopOk Gx:=⟨by decide,by decide,by decide,.inl rfl,by decide⟩
theorem NC {U:TS}(hd:0<=d/\d<=10000) (hT:TopOk top) (ho:top.so=0) (hl:ah.length<=6) (hn:∀ n∈ah,b6 n) (P:P2 t b1 bA mh) (cA:bA.con=[]) (F:Fine N t (bA.cn (ah.map (Nd.deepen d)))) (hs:bA.state≠2) (h1:∀ n∈ah,n.isBox=false)
  (l1:loc.lookup "ahead"=some (.lst (ah.map Nd.it))) (l2:loc.lookup "inner"=some (.int d)) (l3:loc.lookup "two"=some (.ref (3,0))) (l4:loc.lookup "top"=some top.v) (l5:loc.lookup "table"=some bk)
  (hU:∀ b3 m,P2 t b1 b3 m->Inv N t b3->bo b3->b3.con=[]->b3.state≠2->(∀ oth,Ev oth t (bA.cn (ah.map (Nd.deepen d))) (.ret none b3))->U K X ⟨loc,[],m⟩) :
  (ab (aE (aF 829 cx (aa "two") [(be (aU (an "item") ["inner"] (bc (aa "ahead")) tTrue (af (bu 2) [(aa "item"),(aa "inner")])))]))
  (ab (ak (ag .NotEq (af br [(aa "two"),(aa "top"),(aa "table")]) (aD [])) (ao (tK (.bool false))) tNil) U)) K X ⟨loc,[],mh⟩:=by
 refine qm P (by exact ba ‹_› rfl) (by rw[cA];simp) hn hd l1 l2 l3 fun m Pm=>?_
 rw[cA,W0]at Pm;obtain⟨s,e⟩:=mT (top:=top) (t:=t) _ (bA.cn (ah.map (Nd.deepen d))) (Y3 _);have hb:∀ n∈(bA.cn (ah.map (Nd.deepen d))).con,n.isBox=false:=fun n hn'=>by
  have z9:=V5.mp (show n∈ah.map (Nd.deepen d)from hn');refine z9.elim fun x z0=>?_;have hx:=z0.1;have z1:=z0.2;clear z0 z9;obtain rfl:=z1
  rw[Am];exact h1 x hx
 have nb:∀ oth,Ev oth t (bA.cn (ah.map (Nd.deepen d))) s/\∃ b',s=.ret none b'/\b'.con=[]/\b'.state≠2:=fun oth=>MS (b:=bA.cn (ah.map (Nd.deepen d))) hs hb F.good ho e
 have z9:=nb top;refine z9.2.elim fun b3 z0=>?_;have z1:=z0;clear z0 z9;obtain⟨rfl,c3,s3⟩:=z1
 have z9:=qi hT ho F e;refine z9.elim fun f z0=>?_;refine z0.elim fun b' z1=>?_;have hf:=z1.1;have I':=z1.2.1;have K':=z1.2.2.1;clear z1 z0 z9
 cases hf;show af br _ _ _ _;refine gS l3 l4 l5 (qk Pm hT F.inv e (fun c b' h=>nomatch h) fun m3 P3=>kr ?_);show aD _ _ _ _;rw[jp,cK];refine⟨by decide,?_⟩;show bq _ .NotEq (.tup []) (.tup []) _;refine As (.tup .nil) (gc.mpr (eI.mpr ?_));exact hU b3 m3 P3 I' K' c3 s3 fun oth=>(nb oth).1
theorem ND {rj:List Nd}{b3:BS}{m11 f1 h1 f2 m2 h2:Int}(hd:0<=d/\d<=10000) (hl:rj.length<=6) (hn:∀ n∈rj,b6 n) (hg:∀ n∈rj.map (Nd.deepen d),n.Ok t) (P:P2 t b1 b3 mh) (I:Inv N t b3) (kk:bo b3)
  (l1:loc.lookup "rest"=some (.lst (rj.map Nd.it))) (l2:loc.lookup "inner"=some (.int d)) (l3:loc.lookup "two"=some (.ref (3,0)))
  (hU:∀ m,P2 t b1 b3 m->K .next ⟨aj "held" b3.st (aj "waits" (.tup ((rj.map (Nd.deepen d)).map Nd.dsc)) loc),[],m⟩) :
  (bt [an "waits",an "held"] (aD [(af bz [(aa "two")]),(af (bJ 4) [(be (aU (an "item") ["inner"] (bc (aa "rest")) tTrue (af (bu 2) [(aa "item"),(aa "inner")])))])])) K X ⟨loc,[],mh⟩:=by
 rw[rR,jp,co];refine gQ l3 (mW P kk I (kr ?_));rw[co,jo,co];refine qj (st:=⟨loc,[],mh⟩) (by exact ba ‹_› rfl) hn hd l1 l2 fun m sc=>?_
 rw[cK];refine zv (by rw[V0];(first|exact ba ‹_› rfl|lia)) (mV (t:=t) hg) ?_;rw[cK];refine⟨by simp,by simp,?_⟩;simp only[List.reverse_cons,List.reverse_nil,W0,List.cons_append,sL,sK,e9,o6];exact hU m (P.sc sc)
end
noncomputable def uh:TS:=(ab (aw "at" (au (be (aU (dB [an "place",an "item"]) [] (j6 (aa "rest")) (ag .Eq (au (aa "item") (tK (.int 0))) (tK (.str "b"))) (aa "place"))) (tK (.int 0))))
  (ab (bt [an "rest",an "ahead"] (aD [(eV none (aa "rest") (aa "at")),(iw none (aa "rest") (aa "at"))]))
  (ab (aE (aF 829 cx (aa "two") [(be (aU (an "item") ["inner"] (bc (aa "ahead")) tTrue (af (bu 2) [(aa "item"),(aa "inner")])))]))
  (ab (ak (ag .NotEq (af br [(aa "two"),(aa "top"),(aa "table")]) (aD [])) (ao (tK (.bool false))) tNil)
  (bt [an "waits",an "held"] (aD [(af bz [(aa "two")]),(af (bJ 4) [(be (aU (an "item") ["inner"] (bc (aa "rest")) tTrue (af (bu 2) [(aa "item"),(aa "inner")])))])]))))))
section
variable {N:Nat}{X:XP}{mh mh':MH}{k n ls:Nat}{K:Fl->St->Prop}{fi ri ah tl:List Nd}{bx:Nd}{way vs dd d:Int}{loc:List (String × V)}{t:Tb}{b1 b2 b B bA:BS}{top oth:Gl}{s:SR}{ns more:List Nd}{due:String}{H W:V}
theorem NE {T V:TS}(l1:loc.lookup "way"=some (.int 3)) (l2:loc.lookup "due"=some (.str "page")) (h:T (cV V K X) X ⟨loc,[],mh⟩):(ab (ak (bf (ag .Eq (aa "way") (tK (.int 3))) (ag .Eq (aa "due") (tK (.str "page")))) T tNil) V) K X ⟨loc,[],mh⟩:=by
 show aa "way" _ X _;refine(Internal.tl l1 _ _ _ _).mpr ?_;rw[cQ];refine ja .int (l8.mpr ?_);show aa "due" _ X _;refine(Internal.tl l2 _ _ _ _).mpr ?_;rw[cQ];exact ja (.str iN) (jv.mpr h)
theorem NF {U:TS}(l:loc.lookup "way"=some (.int 3)) (h:U K X ⟨loc,[],mh⟩):(ab mY U) K X ⟨loc,[],mh⟩:=by
 unfold mY;simp[↓tl l,↓lr l,aO,aM,aP];exact h
theorem NG {b3:BS}{rj:List Nd}(hT:TopOk top) (ho:top.so=0) (hd:0<=d/\d<=10000) (hl:rj.length<=100) (nR:∀ n∈rj,b6 n) (P4:P2 t b b3 mh) (c3:b3.con=[]) (I1:Inv n t b) (I3:Inv n t (b3.cn (rj.map (Nd.deepen d)))) (K3:bo b3) (FR:Fine n t (b3.cn (rj.map (Nd.deepen d))))
  (e1:Ev Gx t b (.exc 88 (b3.cn (rj.map (Nd.deepen d))))) (e2:Ev Gx t (b3.cn (rj.map (Nd.deepen d))) (.exc 88 (b3.cn (rj.map (Nd.deepen d)))))
  (w1:loc.lookup "held"=some b3.st) (w2:loc.lookup "waits"=some (.tup ((rj.map (Nd.deepen d)).map Nd.dsc))) (n2:loc.lookup "rest"=some (.lst (rj.map Nd.it))) (n3:loc.lookup "inner"=some (.int d)) (n4:loc.lookup "two"=some (.ref (3,0))) (n5:loc.lookup "one"=some (.ref (2,0))) (n6:loc.lookup "top"=some top.v) (n7:loc.lookup "table"=some bk) (n8:loc.lookup "other"=some Gx.v) (n9:loc.lookup "due"=some (.str "page")) (n0:loc.lookup "way"=some (.int 3)) (hK:∀ st,K (.ret (.bool true)) st) :
  jE K X ⟨loc,[],mh⟩:=by
 unfold jE;show aa "way" _ X _;refine(Internal.tl n0 _ _ _ _).mpr ?_;rw[cQ];refine ja .int (jv.mpr ((Internal.tl w2 _ _ _ _).mpr (eI.mpr ?_)));show ab _ _ K X ⟨aj "behind" _ loc,[],mh⟩;have M4:∀ q:String,q≠"behind"->(aj "behind" (.tup ((rj.map (Nd.deepen d)).map Nd.dsc)) loc).lookup q=loc.lookup q:=fun q a=>by
  rw[bw,if_neg a]
 refine Au (bX:=b3.cn (rj.map (Nd.deepen d))) (k:=88) (beh:=.none) (oth:=Gx) P4 NB I1 e1 (.inl rfl) I3 K3 e2 ⟨(M4 _ (by decide)).trans n5,(M4 _ (by decide)).trans n7,(M4 _ (by decide)).trans n8,(M4 _ (by decide)).trans n9,(M4 _ (by decide)).trans w1,by rw[bw,if_pos rfl];rfl⟩ fun m5 P5=>?_
 have M5:∀ q:String,q≠"behind"->q≠"turn"->(aj "turn" (.int 1) (aj "turn" (.int 0) (aj "behind" (.tup ((rj.map (Nd.deepen d)).map Nd.dsc)) loc))).lookup q=loc.lookup q:=fun q a b=>by
  rw[bw,if_neg b,bw,if_neg b,bw,if_neg a]
 refine NF ((M5 _ (by decide) (by decide)).trans n0) ?_;exact Ar P5 c3 hT ho hl nR hd ((M5 _ (by decide) (by decide)).trans n2) ((M5 _ (by decide) (by decide)).trans n3) ((M5 _ (by decide) (by decide)).trans n4) ((M5 _ (by decide) (by decide)).trans n5) ((M5 _ (by decide) (by decide)).trans n6) ((M5 _ (by decide) (by decide)).trans n7) FR fun m=>hK _
theorem NH (F:Fx t B bA fi (ah++bx::tl) 3 d top) (hs:bA.state≠2) (h1:∀ n∈ah,n.isBox=false) (h2:bx.isBox=true) (P:P2 t (bA.cn ((ah++bx::tl).map (Nd.deepen d))) bA mh) (hK:∀ st,K (.ret (.bool true)) st)
  (m1:loc.lookup "ahead"=some (.lst (ah.map Nd.it))) (m2:loc.lookup "rest"=some (.lst ((bx::tl).map Nd.it))) (m3:loc.lookup "inner"=some (.int d)) (m4:loc.lookup "two"=some (.ref (3,0))) (m5:loc.lookup "one"=some (.ref (2,0))) (m6:loc.lookup "top"=some top.v) (m7:loc.lookup "table"=some bk) (m8:loc.lookup "other"=some Gx.v) (m9:loc.lookup "due"=some (.str "page")) (m0:loc.lookup "way"=some (.int 3)) :
  (ab (aE (aF 829 cx (aa "two") [(be (aU (an "item") ["inner"] (bc (aa "ahead")) tTrue (af (bu 2) [(aa "item"),(aa "inner")])))]))
  (ab (ak (ag .NotEq (af br [(aa "two"),(aa "top"),(aa "table")]) (aD [])) (ao (tK (.bool false))) tNil)
  (bt [an "waits",an "held"] (aD [(af bz [(aa "two")]),(af (bJ 4) [(be (aU (an "item") ["inner"] (bc (aa "rest")) tTrue (af (bu 2) [(aa "item"),(aa "inner")])))])])))) (cV (ab gu jE) K X) X ⟨loc,[],mh⟩:=by
 have len:=F.len;rw[V8,V4]at len;have nA:∀ n∈ah,b6 n:=fun n hn=>F.hri n (U8 _ hn)
 have nR:∀ n∈bx::tl,b6 n:=fun n hn=>F.hri n (U7 _ hn)
 have gA:∀ n∈ah.map (Nd.deepen d),cC t n/\n.Ok t:=fun n hn=>F.good n (by rw[V2];exact U8 _ hn)
 have gR:∀ n∈(bx::tl).map (Nd.deepen d),cC t n/\n.Ok t:=fun n hn=>F.good n (by rw[V2];exact U7 _ hn)
 have IA':=ic (more:=ah.map (Nd.deepen d)) F.IA (fun n hn=>(gA n hn).2) (by rw[V0];lia);rw[F.cA,W0,V0]at IA';have FA:Fine (7+ah.length) t (bA.cn (ah.map (Nd.deepen d))):=⟨IA',F.KA,(ud (fun n hn=>F.nok n (U8 _ hn))).nke,fun n hn=>(gA n hn).1⟩;refine NC F.hd F.hT F.ho (by lia) nA P F.cA FA hs h1 m1 m3 m4 m6 m7 fun b3 mb P3 I3 K3 c3 s3 hev=>?_
 refine ND (m11:=0) (f1:=0) (h1:=0) (f2:=0) (m2:=0) (h2:=0) F.hd (by rw[V4];lia) nR (fun n hn=>(gR n hn).2) P3 I3 K3 m2 m3 m4 fun mc P4=>?_
 refine eI.mpr ?_;unfold gu;have M2:∀ q:String,q≠"held"->q≠"waits"->(aj "held" b3.st (aj "waits" (.tup (((bx::tl).map (Nd.deepen d)).map Nd.dsc)) loc)).lookup q=loc.lookup q:=fun q a b=>by
  rw[bw,if_neg a,bw,if_neg b]
 refine qn (due:="page") ((M2 _ (by decide) (by decide)).trans m9) iN (by decide) ?_;have eR:(ah++bx::tl).map (Nd.deepen d)=ah.map (Nd.deepen d)++(bx::tl).map (Nd.deepen d):=V2;have I1:=(ue F).inv;have ap:=((kS (top:=Gx) (t:=t) (b:=bA.cn (ah.map (Nd.deepen d))) (more:=(bx::tl).map (Nd.deepen d)) FA.nke (hev Gx)).2 b3 rfl).2;have e2:Ev Gx t (b3.cn ((bx::tl).map (Nd.deepen d))) (.exc 88 (b3.cn ((bx::tl).map (Nd.deepen d)))):=MT (n:=bx.deepen d) (more:=tl.map (Nd.deepen d)) s3 rfl (by rw[Am];exact h2) (by decide);have e1:Ev Gx t (bA.cn ((ah++bx::tl).map (Nd.deepen d))) (.exc 88 (b3.cn ((bx::tl).map (Nd.deepen d)))):=by rw[eR];exact ap _ e2
 have I3':=ic (more:=(bx::tl).map (Nd.deepen d)) I3 (fun n hn=>(gR n hn).2) (by rw[V0,V4];lia);rw[c3,W0,V0,V4]at I3';have I3'':=Ap (M:=13) I3' (by lia) (by decide);have FR:Fine 13 t (b3.cn ((bx::tl).map (Nd.deepen d))):=⟨I3'',K3,(ud (fun n hn=>F.nok n (U7 _ hn))).nke,fun n hn=>(gR n hn).1⟩;exact NG (rj:=bx::tl) F.hT F.ho F.hd (by rw[V4];lia) nR P4 c3 I1 I3'' K3 FR e1 e2 ax (az rfl ax) ((M2 _ (by decide) (by decide)).trans m2) ((M2 _ (by decide) (by decide)).trans m3) ((M2 _ (by decide) (by decide)).trans m4) ((M2 _ (by decide) (by decide)).trans m5) ((M2 _ (by decide) (by decide)).trans m6) ((M2 _ (by decide) (by decide)).trans m7) ((M2 _ (by decide) (by decide)).trans m8) ((M2 _ (by decide) (by decide)).trans m9) ((M2 _ (by decide) (by decide)).trans m0) hK
theorem NI (F:Fx t B bA fi ri 3 d top) (hs:bA.state≠2) (hb:dl ri=true) (L:Lx loc fi ri 3 vs dd d top "page" H W Gx) (P:P2 t (bA.cn (ri.map (Nd.deepen d))) bA mh) (hK:∀ st,K (.ret (.bool true)) st) :
  (ab (ak (bf (ag .Eq (aa "way") (tK (.int 3))) (ag .Eq (aa "due") (tK (.str "page")))) uh tNil) (ab gu jE)) K X ⟨loc,[],mh⟩:=by
 obtain⟨ah,bx,tl,rfl,h1,h2⟩:=Av hb;have len:=F.len;rw[V8,V4]at len;refine NE L.way L.due ?_;unfold uh;refine NA L.rest (by rw[V8,V4];lia) h1 h2 ?_;have M:∀ q:String,q≠"ahead"->q≠"rest"->q≠"at"->(aj "ahead" (.lst (ah.map Nd.it)) (aj "rest" (.lst ((bx::tl).map Nd.it)) (aj "at" (.int ah.length) loc))).lookup q=loc.lookup q:=fun q a b c=>by
  rw[bw,if_neg a,bw,if_neg b,bw,if_neg c]
 exact NH F hs h1 h2 P hK ax (az rfl ax) ((M _ (by decide) (by decide) (by decide)).trans L.inner) ((M _ (by decide) (by decide) (by decide)).trans L.two) ((M _ (by decide) (by decide) (by decide)).trans L.one) ((M _ (by decide) (by decide) (by decide)).trans L.top) ((M _ (by decide) (by decide) (by decide)).trans L.table) ((M _ (by decide) (by decide) (by decide)).trans L.other) ((M _ (by decide) (by decide) (by decide)).trans L.due) ((M _ (by decide) (by decide) (by decide)).trans L.way)
end
section
variable {N:Nat}{b b':BS}{X more:List Nd}{g:Gl}{a c:Int}{t:Tb}{top:Gl}{n:Nd}{ns:List Nd}{s:SR}
theorem NJ {row:Cl}{num size deep cost:Int}{ps:List At}(h:b.insert row num size deep cost ps=.ok b'):b'.vsize=b.vsize:=by
 have key:∀ (e:Ins) (f:Bool) (m:Mid),((b.insBeg row num e f).insEnd row num size ps e m).vsize=b.vsize:=fun e f m=>by
  have e1:((b.insBeg row num e f).insEnd row num size ps e m).vsize=(b.insBeg row num e f).vsize:=by unfold BS.insEnd BS.splitP;split<;>rfl
  rw[e1];unfold BS.insBeg BS.addS BS.freeze BS.clear;cases f<;>by_cases hz:b.state=0<;>simp[hz]
 exact mH (P:=fun b'=>b'.vsize=b.vsize) h rfl fun ω ω ω=>key _ _ _
theorem NK (h:b.take t n=.ok b'):b'.vsize=b.vsize:=by
 have hf:∀ b:BS,(b.fin n).vsize=b.vsize:=fun b=>by unfold BS.fin;split<;>rfl
 exact pX (P:=fun b'=>b'.vsize=b.vsize) h (fun ω ω ω ω ω ω ω=>hf _) fun ω ω ω ω ω ω ω ω ω h2=>(hf _).trans (NJ h2)
theorem Aw:(b.tried n).1.vsize=b.vsize:=pS (P:=fun z=>z.vsize=b.vsize) rfl fun ω=>rfl
set_option tactic.hygienic true in
noncomputable def SR.keep (v:Int):SR->Prop
|.next b=>b.vsize=v
|.ret _ b=>b.vsize=v
|.exc _ _=>True
theorem Ax:(b.step2 t n).keep b.vsize:=by
 exact mJ (P:=fun s=>s.keep b.vsize) (fun ω ω=>Aw) (fun ω ω=>trivial) fun b2 ht=>(NK ht).trans Aw
theorem NL:(b.step top t n).keep b.vsize:=by
 unfold BS.step
 split
 ·split
  ·trivial
  ·split
   ·rfl
   ·exact Ax
 ·split
  ·split
   ·trivial
   ·show(b.begin top n.ht).vsize=b.vsize;unfold BS.begin BS.freeze BS.clear
    split<;>rfl
  ·split
   ·rfl
   ·exact Ax
set_option tactic.hygienic true in
theorem NM:∀ (k:Nat) (b:BS),(BS.run top t k b).keep b.vsize:=by
 intro ll;induction ll with
|zero=>
  intro b;exact rfl
|succ k IH=>
  intro b;exact by
    cases hc:b.con with
   |nil=>rw[kH hc];rfl
   |cons n ns=>
     rw[gZ hc];have h:=NL (b:=b) (top:=top) (t:=t) (n:=n);cases hs:b.step top t n with
    |next b2=>
      rw[hs]at h;have:=IH b2;rw[show b2.vsize=b.vsize from h]at this;exact this
    |ret f b2=>rw[hs]at h;exact h
    |exc e b2=>trivial
theorem NN {f:Option Pg}(e:Ev top t b (.ret f b')):b'.vsize=b.vsize:=by
 obtain⟨⟨k,hr⟩,_⟩:=e;have:=NM (top:=top) (t:=t) k b;rw[hr]at this;exact this
end
section
variable {N:Nat}{X:XP}{mh mh':MH}{k n ls:Nat}{K:Fl->St->Prop}{fi ri ah tl:List Nd}{bx:Nd}{way vs dd d:Int}{loc:List (String × V)}{t:Tb}{b1 b2 b B bA:BS}{top oth:Gl}{s:SR}{ns more:List Nd}{due:String}{H W:V}
noncomputable def Ay:TS:=(ak (bf (ag .Eq (aa "way") (tK (.int 3))) (ag .Eq (aa "due") (tK (.str "page")))) uh tNil)
theorem NO {f1 m1 h1 f2 m2 h2:Int}{g1 g2:Gl}(ht:t=tb f1 m1 g1 h1 f2 m2 g2 h2) (F:Fx t B bA fi ri way d top) (hvs:bA.vsize=vs) (L:Lx loc fi ri way vs dd d top (cB way bA.state (cL bA vs) (dl ri)) bA.st W (jb way top))
  (P:P2 t (if way=3 then bA.cn (ri.map (Nd.deepen d))else B.cn (fi.map (Nd.deepen d)++(bm way d++ri.map (Nd.deepen d)))) bA mh) (hK:∀ st,K (.ret (.bool true)) st):(ab Ay (ab gu jE)) K X ⟨loc,[],mh⟩:=by
 subst ht;have hmore:∀ n∈bm way d++ri.map (Nd.deepen d),n.Ok (tb f1 m1 g1 h1 f2 m2 g2 h2):=fun n hn=>by
  rcases U5.mp hn with h|h
  ·exact F.bad n h
  ·exact(F.good n h).2
 have hml:(bm way d++ri.map (Nd.deepen d)).length<=7:=by
  rw[V8,V0];have:=mX (d:=d) F.hw;have:=F.len;lia
 have I2:=ic (more:=bm way d++ri.map (Nd.deepen d)) F.IA hmore (by lia);rw[F.cA,W0]at I2;have one3:∀ (hw:way≠3),P2 (tb f1 m1 g1 h1 f2 m2 g2 h2) (B.cn (fi.map (Nd.deepen d)++(bm way d++ri.map (Nd.deepen d)))) bA mh:=fun hw=>by rw[if_neg hw]at P;exact P
 unfold Ay;rcases F.hw with h|h|h|h
 ·subst h;have P':=one3 (by decide);by_cases hs:bA.state=2
  ·have hdu:cB 0 bA.state (cL bA vs) (dl ri)="page":=by unfold cB;rw[if_pos rfl,if_pos hs]
   rw[hdu]at L;refine kY L.way L.due iN (by decide) ?_;unfold gu;refine qn L.due iN (by decide) ?_;exact uf F (by decide) (x:=Nd.atm (.skip ⟨500,0,0,100,1⟩ 0)) (kk:=88) rfl (.inl rfl) rfl (MK (more:=ri.map (Nd.deepen d)) hs rfl) L P' hK
  ·have hdu:cB 0 bA.state (cL bA vs) (dl ri)="":=by unfold cB;rw[if_pos rfl,if_neg hs]
   rw[hdu]at L;refine kY L.way L.due kt (by decide) ?_;exact ug F (by decide) (fun ω=>hs) (fun ω=>by unfold jb;rw[if_neg (by decide)]) L (fun ω=>P') hK
 ·subst h;have P':=one3 (by decide);have hdu:cB 1 bA.state (cL bA vs) (dl ri)="page":=by unfold cB;rw[if_neg (by decide),if_pos rfl]
  rw[hdu]at L;refine kY L.way L.due iN (by decide) ?_;unfold gu;refine qn L.due iN (by decide) ?_;exact uf F (by decide) (kk:=88) rfl (.inl rfl) rfl (ML (more:=ri.map (Nd.deepen d)) F.KA rfl) L P' hK
 ·subst h;have P':=one3 (by decide);by_cases hs:cL bA vs>=1000
  ·have hdu:cB 2 bA.state (cL bA vs) (dl ri)="box":=by unfold cB;rw[if_neg (by decide),if_neg (by decide),if_pos rfl,if_pos hs]
   rw[hdu]at L;refine kY L.way L.due pH (by decide) ?_;unfold gu;refine qn L.due pH (by decide) ?_;refine uf F (by decide) (kk:=76) rfl (.inr rfl) rfl (MN (more:=ri.map (Nd.deepen d)) F.hd.1 I2 F.KA rfl ?_) L P' hK;show 1000<=cL bA bA.vsize;rw[hvs];exact hs
  ·have hdu:cB 2 bA.state (cL bA vs) (dl ri)="":=by unfold cB;rw[if_neg (by decide),if_neg (by decide),if_pos rfl,if_neg hs]
   rw[hdu]at L;refine kY L.way L.due kt (by decide) ?_;exact ug F (by decide) (fun h=>nomatch h) (fun h=>nomatch h) L (fun ω=>P') hK
 ·subst h;have hO:jb 3 top=Gx:=by unfold jb;rw[if_pos rfl];rfl
  rw[hO]at L;rw[if_pos rfl]at P;by_cases hs:bA.state≠2/\dl ri=true
  ·have hdu:cB 3 bA.state (cL bA vs) (dl ri)="page":=by unfold cB;rw[if_neg (by decide),if_neg (by decide),if_neg (by decide),if_pos hs]
   rw[hdu]at L;exact NI F hs.1 hs.2 L P hK
  ·have hdu:cB 3 bA.state (cL bA vs) (dl ri)="":=by unfold cB;rw[if_neg (by decide),if_neg (by decide),if_neg (by decide),if_neg hs]
   rw[hdu]at L;refine kY L.way L.due kt (by decide) ?_;exact ug F (by decide) (fun h=>nomatch h) (fun h=>nomatch h) L (fun h=>absurd rfl h) hK
theorem Az {f1 m1 h1 f2 m2 h2:Int}{g1 g2:Gl}(c1:dX f1 m1 g1 h1) (c2:dX f2 m2 g2 h2) (hd:0<=d/\d<=10000) (h:∀ n∈ns,b6 n):∀ n∈ns.map (Nd.deepen d),cC (tb f1 m1 g1 h1 f2 m2 g2 h2) n/\n.Ok (tb f1 m1 g1 h1 f2 m2 g2 h2):=fun n hn=>by
 obtain⟨m,hm,rfl⟩:=V5.mp hn;exact Ak c1 c2 rfl hd (h m hm)
theorem NP (gF:∀ n∈fi.map (Nd.deepen d),cC t n/\n.Ok t) (hl:fi.length<=6) (nke:dz fi) (v:0<=vs/\vs<=30000) (e0:0<=dd):Fine 7 t ((BS.init vs dd).cn (fi.map (Nd.deepen d))):=by
 refine⟨⟨by decide,?_,fun n hn=>(gF n hn).2,(fun n hn=>nomatch hn),Z2 _,Z2 _,Y3 _,⟨Z2 _,Z2 _,Z2 _,e0⟩,⟨(by decide:(0:Int)<=30000),v.2⟩⟩,(fun k hk=>nomatch hk),fun n hn=>?_,fun n hn=>(gF n hn).1⟩
 ·show 0+(fi.map (Nd.deepen d)).length+1<=7;rw[V0];lia
 ·have hn':(fi.map (Nd.deepen d)).getLast?=some n:=hn;rw[List.getLast?_map]at hn';obtain⟨m,hm,rfl⟩:=Option.map_eq_some_iff.mp hn';rw[Al];exact nke m hm
theorem NQ {b0:BS}(hl:fi.length+ri.length<=6) (hw:way=0\/way=1\/way=2\/way=3) (gF:∀ n∈fi.map (Nd.deepen d),cC t n/\n.Ok t) (gR:∀ n∈ri.map (Nd.deepen d),cC t n/\n.Ok t) (bd:∀ n∈bm way d,n.Ok t) :
  (∀ n∈(if way=3 then bA.cn (ri.map (Nd.deepen d))else b0.cn (fi.map (Nd.deepen d)++(bm way d++ri.map (Nd.deepen d)))).con,Nd.Ok t n)/\(if way=3 then bA.cn (ri.map (Nd.deepen d))else b0.cn (fi.map (Nd.deepen d)++(bm way d++ri.map (Nd.deepen d)))).con.length<=5000:=by
 have bl:=mX (d:=d) hw
 split
 ·exact⟨fun n hn=>(gR n hn).2,by show(ri.map (Nd.deepen d)).length<=5000;rw[V0];lia⟩
 ·refine⟨fun n hn=>?_,?_⟩
  ·rcases U5.mp (show n∈fi.map (Nd.deepen d)++(bm way d++ri.map (Nd.deepen d))from hn)with h|h
   ·exact(gF n h).2
   ·rcases U5.mp h with h|h
    ·exact bd n h
    ·exact(gR n h).2
  ·show(fi.map (Nd.deepen d)++(bm way d++ri.map (Nd.deepen d))).length<=5000;rw[V8,V8,V0,V0];lia
theorem NR {a:Addr}{cs:List Int}(hl:cs.length<=10000) (hK:∀ st,K (.ret (.bool true)) st):rK (some (a,cs)) K X ⟨[("script",.cst (.ref a))],["jar","inner"],⟨fun ω=>none,fun ω=>0⟩⟩:=by
 unfold rK;refine MX hl rfl fun m1 J1 nx1=>?_
 refine MY J1 fun ns m2 hn hlen J2 r2=>?_
 refine MZ hlen J2 fun c way m3 hc hw J3 r3=>?_
 refine M0 hlen hc hn fun fi ri loc hfi hri nke nok hlen' l1 l2 l3 l4=>?_
 have A:La loc fi ri way:=⟨l1,l2,l3,l4⟩;refine Na A J3 fun vs dd d m4 v0 v1 e0 e1 d0 d1 J4 r4=>?_
 have A4:=((A.put (n:="vsize") (v:=.int vs) (by decide)).put (n:="deep") (v:=.int dd) (by decide)).put (n:="inner") (v:=.int d) (by decide);refine Nb A4 J4 fun top f1 mo1 h1 f2 mo2 h2 g1 g2 m5 ht c1 c2 r5=>?_
 have R:=r2.trans (r3.trans (r4.trans r5));have nx5:∀ q,q≠0->q≠1->m5.nx q=0:=fun q q0 q1=>(R.nx q q0).trans (nx1 q q1)
 refine Nc c1 c2 (by (repeat first|exact ax|refine az rfl ?_)) (nx5 4 (by decide) (by decide)) fun m6 ht6 nx6=>?_
 refine Nf (vs:=vs) (dd:=dd) (by (repeat first|exact ax|refine az rfl ?_)) (by (repeat first|exact ax|refine az rfl ?_)) ⟨v0,v1⟩ ⟨e0,e1⟩ ((nx6 2 (by decide) (by decide)).trans (nx5 2 (by decide) (by decide))) ((nx6 3 (by decide) (by decide)).trans (nx5 3 (by decide) (by decide))) ht6 fun m7 P=>?_
 have L:Lw (aj "one" (.ref (2,0)) (aj "two" (.ref (3,0)) (aj "table" bk (aj "top" top.v (aj "classes" (.dct [(1,dk f1 mo1 g1 h1),(2,dk f2 mo2 g2 h2)]) (aj "inner" (.int d) (aj "deep" (.int dd) (aj "vsize" (.int vs) loc)))))))) fi ri way vs dd d top:=
  ⟨by (repeat first|exact ax|exact l3|refine az rfl ?_),by (repeat first|exact ax|exact l4|refine az rfl ?_),by (repeat first|exact ax|exact l2|refine az rfl ?_),by (repeat first|exact ax|refine az rfl ?_),by (repeat first|exact ax|refine az rfl ?_),by (repeat first|exact ax|refine az rfl ?_),by (repeat first|exact ax|refine az rfl ?_),by (repeat first|exact ax|refine az rfl ?_),by (repeat first|exact ax|refine az rfl ?_)⟩
 revert L
 generalize (aj "one" (.ref (2,0)) (aj "two" (.ref (3,0)) (aj "table" bk (aj "top" top.v (aj "classes" (.dct [(1,dk f1 mo1 g1 h1),(2,dk f2 mo2 g2 h2)]) (aj "inner" (.int d) (aj "deep" (.int dd) (aj "vsize" (.int vs) loc))))))))=loc2;intro L;have hd:0<=d/\d<=10000:=⟨d0,by exact bS ‹_› rfl⟩;have ho:=ht.2.1;have t1:=ht.2.2.2.1;have t2:=ht.2.2.2.2.1;have t3:=ht.2.2.2.2.2.1;have t4:=ht.2.2.2.2.2.2.1;have t5:=ht.2.2.2.2.2.2.2.1;have t6:=ht.2.2.2.2.2.2.2.2.1;have t7:=ht.2.2.2.2.2.2.2.2.2;clear ht;have hT:TopOk top:=⟨⟨t1,t2⟩,⟨t3,t4⟩,⟨t5,t6⟩,t7,by lia⟩;have gF:=Az c1 c2 hd hfi;have gR:=Az c1 c2 hd hri;have bd:∀ n∈bm way d,n.Ok (tb f1 mo1 g1 h1 f2 mo2 g2 h2):=Aq hd;have F0:=NP (vs:=vs) (dd:=dd) gF (by lia) nke ⟨by lia,by lia⟩ e0;refine Nn rfl c1 c2 L hw hd hT ho hlen' hfi hri P rfl rfl F0 hK fun bA m8 eA IA KA cA P8=>?_
 have F:Fx (tb f1 mo1 g1 h1 f2 mo2 g2 h2) (BS.init vs dd) bA fi ri way d top:=⟨hw,hd,hT,ho,hlen',hri,nok,F0,eA,IA,KA,cA,gR,bd⟩;have oks:=NQ (bA:=bA) (b0:=BS.init vs dd) hlen' hw gF gR bd;refine No (L.put (n:="end") (v:=.tup []) (by decide)) hw (by lia) P8 oks.1 oks.2 IA KA fun m9 loc9 L9 P9=>?_
 exact NO rfl F (NN eA) L9 P9 hK
end
theorem NS (W:Wd) {s:Shared}{R:Result->Shared->Prop}(hs:s.heap=W.base) {f:Addr}{fd:FuncData}{body:List Stmt}(hfd:jc (KF W.w.params) f=some fd) (hc:io (KF W.w.params) fd=true) (hb:fd.body=.stmts body)
  {p q1 q2:String}(hbind:nI W.w.params fd [p] 1 []) (hk:fd.scope.names.lookup (U0 p)=some .local) (hcs:∀ k,cellsFrom k fd.scope.names []=[(U0 q2,k+1),(U0 q1,k)])
  (hq:(U0 q1 == U0 q2)=false) (hk1:fd.scope.names.lookup (U0 q1)=some .cell) (hk2:fd.scope.names.lookup (U0 q2)=some .cell) (hp1:U0 q1≠U0 p) (hp2:U0 q2≠U0 p) {T:TS}
  (hT:∀ y:Cx,y.W=W->17<=y.n->y.Ok->(∃ L,y.env=callEnvC fd L f)->y.L body T)
  (hF:T (fun fl ω=>fl=.ret (.bool true)) (fun ω ω=>False) ⟨[(p,.cst (.ref W.script))],[q1,q2],⟨fun ω=>none,fun ω=>0⟩⟩)
  (hR:∀ s',SW s s'->(∀ b o,s.heap.get? b=some o->s'.heap.get? b=some o)->R (.ok (.ret (.bool true))) s') :
  codeAny W.M callerA (.call (.ref f) ⟨[.ref W.script],[]⟩) R s:=by
 have X0:(KX W.w.params).In s.heap:=hs ▸ W.K;obtain⟨oc,od,osl,ho⟩:=qD hfd;unfold io at hc;simp only[U3,Bool.not_eq_true',beq_iff_eq,decide_eq_true_eq,List.isEmpty_iff]at hc;obtain⟨⟨⟨⟨⟨⟨⟨hcl,hgl⟩,hbu⟩,hki⟩,hco⟩,hge⟩,hcd⟩,hnd⟩:=hc;refine codeAny_call_function (by decide +kernel) (X0 _ _ ho) rfl hco hge hb (codeRec_of X0 hcd) ?_;refine(Looks.of_peek X0 (hbind [.ref W.script] rfl _)).here ?_;rw[hcl];refine wpAny_newFunctionEnv_cells hki (fun y hy=>?_) fun env' he s' z=>?_
 ·have:y=(U0 p,.ref W.script):=by simpa using hy
  subst this;exact .inl hk
 ·have he':env'=callEnvC fd s.heap.objs.size f:=he;obtain⟨h₁,tk,rfl,kp⟩:=z.done;have hL:env'.locals=s.heap.objs.size:=by rw[he'];rfl
  have hfr:env'.frame=some s.heap.objs.size:=by rw[he'];rfl
  have hcells:env'.cells=[(U0 q2,s.heap.objs.size+1+1),(U0 q1,s.heap.objs.size+1)]:=by rw[he'];exact hcs _
  have hsc:env'.scope=fd.scope:=by rw[he'];rfl
  have hgg:env'.globals=mainGlobals:=by rw[he'];exact hgl
  have hbb:env'.builtins=builtinsNs:=by rw[he'];exact hbu
  have hko:∀ n',env'.kindOf n'=fd.scope.names.lookup n':=fun n'=>by rw[he'];rfl
  refine⟨(show s.heap.NoLimit from hs ▸ W.nolimit).keeps kp,codeAny_func ?_⟩
  let y:Cx:={ W:=W,env:=env',fms:=[],prot:=[],A:=callerA.deeper env',n:=50 }
  have hre:bV env'=true:=by unfold bV;rw[hfr,hL];exact beq_self_eq_true _
  have oky:y.Ok:=by
   refine⟨rfl,?_,?_,?_⟩
   ·show(callerA.deeper env').frames=some ([env'].filter bV);rw[Around.frames_deeper (show callerA.frames=some []from rfl)];exact congrArg some (List.filter_cons_of_pos (l:=[]) hre).symm
   ·show callerA.depth+1+10 * 50<=999
    decide +kernel
   ·show callerA.units+3+100 * 50<=9799
    decide +kernel
  let c:Cfg:=⟨fun a o=>W.base.get? a=some o,fun ω=>none,fun ω=>none⟩
  have fresh:∀ a,s.heap.objs.size<=a->∀ o,¬ c.kn a o:=fun a ha o e=>by
   have e':s.heap.get? a=some o:=by rw[hs];exact e
   rw[AAI ha]at e';cases e'
  have r0:RelH W [] [] c ⟨fun ω=>none,fun ω=>0⟩ h₁:=⟨fun ω ω h=>h,fun a o h=>kp a o (by rw[hs];exact h),fun ω ω ω=>rfl,fun ω ω h=>(nomatch h),fun ω h=>(nomatch h),⟨.nil,.nil⟩,fun ω h=>(nomatch h),fun ω ω h=>(nomatch h),fun ω ω h=>(nomatch h)⟩;have r1:=r0.frame (env:=env') ⟨_,hfr⟩ (by rw[hsc];exact hki) hgg hbb z.toInCall.ns ⟨rfl,fresh _ (by rw[hL];exact Y3 _),fun ω h=>(nomatch h),fun ω h=>(nomatch h)⟩;have l1:env'.cells.lookup (U0 q1)=some (s.heap.objs.size+1):=by
   rw[hcells,V9,hq,V9,beq_self_eq_true]
  have l2:env'.cells.lookup (U0 q2)=some (s.heap.objs.size+1+1):=by
   rw[hcells,V9,beq_self_eq_true]
  obtain⟨o1,g1,d1⟩:=z.cell _ _ l1;obtain⟨o2,g2,d2⟩:=z.cell _ _ l2;have bC:∀ q,q≠U0 p->bindC env'.kindOf ([p].map U0 |>.zip ([.ref W.script]++[])) (fun ω=>none) q=none:=fun q hqp=>by
   show(if env'.kindOf (U0 p)=some .local then(fun ω=>none)else fun y=>if y=U0 p then some (Value.ref W.script)else none) q=none
   split
   ·rfl
   ·exact if_neg hqp
  have r2:RelH W [(env',_)] ([(s.heap.objs.size+1,o1),(s.heap.objs.size+1+1,o2)]++[]) c ⟨fun ω=>none,fun ω=>0⟩ h₁:=
   ⟨r1.base,r1.kn,r1.free,r1.live,r1.frs,⟨r1.dist.1,by simp⟩,fun q hm=>by
    simp only[List.append_nil,V3,W8,or_false]at hm;rcases hm with rfl|rfl
    ·exact⟨g1,rfl,fresh _ (Y4 _ _),fun g hg=>by
      obtain rfl:=U6.mp hg;show env'.locals≠s.heap.objs.size+1;rw[hL];exact Y1 (Y5 _)⟩
    ·exact⟨g2,rfl,fresh _ (Y4 _ 2),fun g hg=>by
      obtain rfl:=U6.mp hg;show env'.locals≠s.heap.objs.size+1+1;rw[hL];exact Y1 (Y8 (Y5 _) (Y7 _))⟩,r1.mo,r1.nxt⟩
  have Ry:Rel y c ⟨[(p,.cst (.ref W.script))],[q1,q2],⟨fun ω=>none,fun ω=>0⟩⟩ h₁:=by
   refine⟨_,[(s.heap.objs.size+1,o1),(s.heap.objs.size+1+1,o2)],r2,fun q v₀ e=>?_,⟨(hko _).trans hk1,l1,d1.trans (by rw[bC _ hp1]),fun g hg=>?_,(hko _).trans hk2,l2,d2.trans (by rw[bC _ hp2]),fun g hg=>(nomatch hg),trivial⟩⟩
   ·by_cases hqp:q=p
    ·subst hqp;obtain rfl:=U1 (fn.symm.trans e);refine .inl ⟨(hko _).trans hk,.ref W.script,?_,.cst _ rfl⟩;show(if env'.kindOf (U0 q)=some .local then(fun y=>if y=U0 q then some (Value.ref W.script)else none)else fun ω=>none) _=_;rw[if_pos ((hko _).trans hk),if_pos rfl]
    ·exact nomatch (fQ hqp).symm.trans e
   ·obtain rfl:=U6.mp hg;show s.heap.objs.size+1+1≠s.heap.objs.size+1
    lia
  refine AAB ((hT y rfl (by show 17<=50;decide) oky ⟨_,he'⟩) _ _ _ hF _ { s with heap:=h₁,toks:=tk } Ry) (fun fl s₂ P=>?_) (fun e s₂ P=>?_)
  ·obtain⟨c2,b,st2,g2,w2,⟨m2,pc2,r2,l2,p2⟩,rb,q2⟩:=P;have kk:∀ b o,s.heap.get? b=some o->s₂.heap.get? b=some o:=fun b o e=>r2.kn b o (g2.kn b o (show W.base.get? b=some o by rw[<- hs];exact e))
   subst q2;cases rb with
  |ret v v₀ rv=>
    cases rv;exact hR s₂ ⟨w2.gens,w2.drawn,w2.os⟩ kk
  ·obtain⟨c2,cls,mh2,m2,pc2,ea,L2,g2,w2,rfl,hL2,r2,ex,hX⟩:=P;exact hX.elim
theorem NT (W:Wd) {s:Shared}{R:Result->Shared->Prop}(hs:s.heap=W.base)
  (hR:∀ s',SW s s'->(∀ b o,s.heap.get? b=some o->s'.heap.get? b=some o)->R (.ok (.ret (.bool true))) s') :
  codeAny W.M callerA (.call (.ref 933) ⟨[.ref W.script],[]⟩) R s:=
 NS W hs (fd:=(o5 W.w.params).fd) (o5 _).ok (by kernel_rfl) (xv _).2 (p:="script") (q1:="jar") (q2:="inner") (b8 fun v0 S=>by kernel_rfl) (by kernel_rfl) (fun k=>by kernel_rfl) (by kernel_rfl) (by kernel_rfl) (by kernel_rfl) (by decide) (by decide)
  (fun y e hn ok he=>by subst e;exact vL HN he ok hn) (NR (X9 W.len (by decide)) fun ω=>rfl) hR
theorem NU {W:Wd}{fa:Addr}(h:W.mg (U0 "law")=some (.ref fa)):fa=933:=by
 have:=mg_of W.K W.g (ix (n:="law") (by rfl));rw[this]at h;cases h;rfl
theorem join933 {w:World}{s₁:Shared}{mg mb:Str->Option Value}{LL:List Str}{mean mean':ExcName->Option Value}{cl:Str->Option Addr}{fa a:Addr}{vs:List Value}{ns:List Int}{P:Program}(hg:s₁.gens=#[]) (HX:(KX w.params).In s₁.heap)
  (T:Top P LL mean mg mb s₁.heap) (hmg:mg (U0 "law")=some (.ref fa)) (hL:s₁.heap.IsList a vs.toArray) (hI:IntsAre vs ns) (hc:¬ ((63:Nat):Int) < (ns.length:Int)) :
  codeAny (model PySem.Challenge.rw_sq0065_01.row.prog w) callerA (.call (.ref fa) ⟨[.ref a],[]⟩) (GoodW PySem.Challenge.rw_sq0065_01.row.claim cl mean' [ofPy (PyData.list (ns.map PyData.int))] s₁) s₁:=by
 let W:Wd:=⟨w,s₁.heap,mg,mb,HX,T.g,T.b,T.nolimit,T.builtins,a,ns,⟨vs,hL,hI⟩,by lia⟩
 obtain rfl:=NU (W:=W) hmg;exact NT W rfl fun s' w k=>⟨.inl ⟨.bool true,.bool true,[],rfl,raisesW_false allW_false_nil,.bool true,postW_of (by wrow_shape) (by wtm_val) (by w_fin),unshared_nil⟩,k,w.os,w.gens.trans hg⟩
end Mine.Internal
theorem PySem.Challenge.cw_sq0065_01_holds : PySem.Challenge.rw_sq0065_01.Holds := by
  w_on
  refine holds_law Mine.Internal.said fun said => ?_
  refine holds_open (q := Mine.Internal.qv) (loose := Mine.Internal.lz) (Xt := fun _ => true) (XP := fun _ _ => True) (Yf := Mine.Internal.kq.obs) (Ya := Mine.Internal.kq.val) (YP := Mine.Internal.kq.says) (N := 9000) Mine.Internal.left Mine.Internal.kq.of Mine.Internal.kq.keeps (fun _ _ => trivial) (fun _ _ _ _ _ => trivial) (by rfl) (by rfl) (by rfl)
    (fun s e => recFacts_of (by rfl)) (by rfl) (by assumption) (by decide +kernel) ⟨rfl, rfl, rfl, rfl, rfl, by decide +kernel⟩ ?hw ?hc
  case hw => w_witness2
  w_strict (
    intro w s₀ s₁ mg mb G Y fa o pm cd doc dV kV ho hd hcd hD hmg hg args vals as hpre hlay hrd hwl hlo
    have HX := kIn_of Y
    refine Ground.open G ?_
    intro T B D TE TW
    try (refine guard_noD D (by decide +kernel) ?_; clear D)
    wrow_args hpre hlay hrd hwl hlo
    all_goals (
      first | refine callC_kw (enter_call ?_) | refine enter_call ?_ | refine callC_kw (enter_callW ?_) | refine enter_callW ?_ | w_how
      try refine codeAny_mono ?_ (fun _ _ g => GoodW.toG g)
      exact Mine.Internal.join933 hg HX T hmg (by assumption) (by assumption) (by assumption)))
