import PyProof.Rows.All
import Wide.All
import OpenK.AllK
import Wide.FinOn
import PyProof.TupleKey
import PyProof.Rows.EqMixed
import PyProof.EqKinds
import Lean
import PySem.Challenge.RW_xm0540_01
set_option Elab.async false
set_option maxRecDepth 100000
set_option linter.unusedVariables false
set_option linter.unusedSectionVars false
set_option tactic.hygienic false
set_option genSizeOf false
set_option genInjectivity false
open PySem PySem.W PyProof.Rows
namespace Mine.Internal
set_option maxHeartbeats 4000000
noncomputable abbrev pw:Program:=PySem.Challenge.pw_xm0540_01
noncomputable abbrev fI:OpenLaw:=PySem.Challenge.rw_xm0540_01
noncomputable def vi(i:Int)(t:Nat):Value:=.int i t
noncomputable def vs(s:String)(t:Nat):Value:=.str (Str.ofString s) t
noncomputable def fJ(l:List Value):Obj:={ cls:=.type "tuple",data:=.seq l.toArray }
noncomputable def La(P:Params)(x:Value×Value):DictEntry:=match x.1 with
 | .str s t=>⟨PyData.keyHash P s,.str s t,x.2⟩
 | .int i t=>⟨i,.int i t,x.2⟩
 | v=>⟨0,v,x.2⟩
noncomputable def E8(P:Params)(c:Value)(n:Nat)(l:List (Value×Value)):Obj:={ cls:=c,data:=.dict (l.map (La P)).toArray n }
noncomputable def st(i:Nat):Stmt:=pw.main.body.getD i (.Pass default)
noncomputable def md(i j:Nat):Stmt:=match st i with
 | .ClassDef _ _ _ b _ _ _ _ _ _ _=>b.getD j (.Pass default)
 | s=>s
noncomputable def bK(q:String)(pm dV:Value)(c:Addr):Stmt→Obj
 | .FunctionDef name args body _ _ _ scope _ _ _=>{ cls:=.type "function",data:=.func (fnOf name (Str.ofString q) args body scope dV .none .none pm none (.ref c) .none) }
 | _=>default
noncomputable def bL(q:String)(t tk c:Nat)(five:Bool):Stmt→Obj
 | .FunctionDef name args _ _ _ _ _ _ _ pos=>{ cls:=.type "code",data:=.fields #[.str name t,vs q (t+1),vs "/claim/cut.py" (t+2),rawInt pos.line,rawInt (args.posonlyargs.length+args.args.length:Nat),
   rawInt 0,rawInt 0,rawInt 3,.ref (c - if five then 3 else 5),.bool true,rawInt 181,.ref (c - if five then 2 else 4),.none,
   if five then .none else .ref (c - 3),if five then .none else .ref (c - 2),.ref (c - 1),rawInt tk,rawInt pos.line,vs "/claim/cut.py" (tk+1)] }
 | _=>default
noncomputable def tC:List (String×Nat×Value):=[
 ("__name__",165,(vs "law_xm0540_01" 1696)),
 ("__doc__",166,.none),
 ("__package__",167,.none),
 ("__loader__",168,(.builtin "__main__.__loader__#opaque")),
 ("__spec__",169,.none),
 ("__annotations__",170,(.ref 6)),
 ("__builtins__",171,(.ref 4)),
 ("__file__",173,(vs "/claim/cut.py" 172)),
 ("__cached__",174,.none),
 ("_wall",193,(.ref 21)),
 ("KeepError",226,(.ref 39)),
 ("TooDeep",255,(.ref 60)),
 ("HostFault",282,(.ref 80)),
 ("Y_KEY",286,(vi 1 285)),
 ("Y_BOOL",288,(vi 2 287)),
 ("Y_STR",290,(vi 3 289)),
 ("Y_NUM",292,(vi 4 291)),
 ("Y_ENUM",294,(vi 5 293)),
 ("Y_UNION",296,(vi 6 295)),
 ("Y_INTER",298,(vi 7 297)),
 ("Y_OBJ",300,(vi 8 299)),
 ("Y_REF",302,(vi 9 301)),
 ("Y_PARAM",304,(vi 10 303)),
 ("Y_ARRAY",306,(vi 11 305)),
 ("Y_TUPLE",308,(vi 12 307)),
 ("Y_SIG",310,(vi 13 309)),
 ("Y_KEYOF",312,(vi 14 311)),
 ("Y_INDEX",314,(vi 15 313)),
 ("Y_COND",316,(vi 16 315)),
 ("Y_MAPPED",318,(vi 17 317)),
 ("Y_TPL",320,(vi 18 319)),
 ("Y_ALIAS",322,(vi 19 321)),
 ("ANY",324,(vi 0 323)),
 ("UNKNOWN",326,(vi 1 325)),
 ("NEVER",328,(vi 2 327)),
 ("VOID",330,(vi 3 329)),
 ("UNDEF",332,(vi 4 331)),
 ("NULLT",334,(vi 5 333)),
 ("STRING",336,(vi 6 335)),
 ("NUMBER",338,(vi 7 337)),
 ("FALSE_T",340,(vi 8 339)),
 ("TRUE_T",342,(vi 9 341)),
 ("OBJECTT",344,(vi 10 343)),
 ("EMPTY",346,(vi 11 345)),
 ("ERR",348,(vi 13 347)),
 ("FRESH_F",350,(vi 14 349)),
 ("FRESH_T",352,(vi 15 351)),
 ("P_OPT",354,(vi 1 353)),
 ("P_READONLY",356,(vi 2 355)),
 ("P_METHOD",358,(vi 4 357)),
 ("P_PRIVATE",360,(vi 8 359)),
 ("P_PROTECTED",362,(vi 16 361)),
 ("P_GETONLY",364,(vi 32 363)),
 ("P_ACCESS",366,(vi 64 365)),
 ("E_NEED",368,(vi 0 367)),
 ("E_OPT",370,(vi 1 369)),
 ("E_REST",372,(vi 2 371)),
 ("E_SPREAD",374,(vi 3 373)),
 ("D_INTERFACE",376,(vi 2 375)),
 ("D_OBJALIAS",378,(vi 3 377)),
 ("FAM_OTHER",380,(vi 0 379)),
 ("FAM_STR",382,(vi 1 381)),
 ("FAM_NUM",384,(vi 2 383)),
 ("FAM_BOOL",386,(vi 3 385)),
 ("FAM_NULL",388,(vi 4 387)),
 ("FAM_UNDEF",390,(vi 5 389)),
 ("FAM_VOID",392,(vi 6 391)),
 ("FAM_OBJ",394,(vi 7 393)),
 ("MAX_UNION",396,(vi 400 395)),
 ("FIRST_ROWS",418,(.ref 105)),
 ("LITERAL_ROWS",419,(.ref 106)),
 ("MARKED_ROWS",420,(.ref 107)),
 ("OBJECT_ROWS",421,(.ref 108)),
 ("KEY_FAMILIES",428,(.ref 109)),
 ("TypeTable",483,(.ref 140)),
 ("Decl",528,(.ref 161)),
 ("kind_of",536,(.ref 172)),
 ("str_type",546,(.ref 180)),
 ("num_type",556,(.ref 188)),
 ("ref_type",565,(.ref 195)),
 ("sorted_props",571,(.ref 200)),
 ("obj_type",585,(.ref 212)),
 ("func_type",593,(.ref 219)),
 ("new_decl",603,(.ref 226)),
 ("parts_of",612,(.ref 233)),
 ("whole_of_row",620,(.ref 240)),
 ("regular_twin",629,(.ref 247)),
 ("join_bools",636,(.ref 254)),
 ("stays_beside",645,(.ref 261)),
 ("top_of",653,(.ref 268)),
 ("union",659,(.ref 273)),
 ("add_undef",667,(.ref 280)),
 ("is_literal",675,(.ref 287)),
 ("is_unit",683,(.ref 294)),
 ("is_fresh",692,(.ref 301)),
 ("regular_one",700,(.ref 308)),
 ("common_family",706,(.ref 313)),
 ("meet_family",717,(.ref 320)),
 ("family",728,(.ref 327)),
 ("is_nullish_family",735,(.ref 334)),
 ("MAX_DRAWN",739,(vi 200 738)),
 ("MEET_NEVER",741,(vi 0 740)),
 ("MEET_LEFT",743,(vi 1 742)),
 ("MEET_RIGHT",745,(vi 2 744)),
 ("MEET_BOTH",747,(vi 3 746)),
 ("all_units",753,(.ref 339)),
 ("value_literal",762,(.ref 346)),
 ("kinds_apart",771,(.ref 353)),
 ("units_clash",777,(.ref 358)),
 ("known_decl",785,(.ref 365)),
 ("body_props",794,(.ref 372)),
 ("flat_props",811,(.ref 379)),
 ("shapes_clash",817,(.ref 384)),
 ("meet_nullish",827,(.ref 391)),
 ("meet_values",838,(.ref 398)),
 ("meet_objects",849,(.ref 405)),
 ("meet_case",860,(.ref 412)),
 ("lay_on",873,(.ref 419)),
 ("members_of_meet",883,(.ref 426)),
 ("meet_parts",889,(.ref 431)),
 ("meet_two",905,(.ref 438)),
 ("inter",916,(.ref 445)),
 ("MOST_PLAIN",920,(vi 40 919)),
 ("PLAIN_ROWS",921,(.ref 446)),
 ("LIST_ROWS",922,(.ref 447)),
 ("prop_dict",931,(.ref 454)),
 ("met_kind",942,(.ref 461)),
 ("met_prop",952,(.ref 468)),
 ("met_index",961,(.ref 475)),
 ("shapes_met_rows",967,(.ref 480)),
 ("meet_shape",973,(.ref 485)),
 ("hidden_apart",983,(.ref 492)),
 ("final_parts",997,(.ref 499)),
 ("plain_shape",1007,(.ref 506)),
 ("tuple_need",1013,(.ref 511)),
 ("tuple_most",1022,(.ref 518)),
 ("length_prop",1028,(.ref 523)),
 ("place_prop",1039,(.ref 530)),
 ("MOST_ROUNDS",1043,(vi 200 1042)),
 ("MOST_SHAPES",1045,(vi 40 1044)),
 ("Thin",1231,(.ref 673)),
 ("elem_read",1239,(.ref 684)),
 ("row_elem",1245,(.ref 689)),
 ("told_places",1253,(.ref 696)),
 ("list_decl",1261,(.ref 703)),
 ("list_shape",1267,(.ref 708)),
 ("find_prop",1276,(.ref 715)),
 ("is_digits",1282,(.ref 720)),
 ("place_of",1289,(.ref 727)),
 ("is_number_name",1296,(.ref 734)),
 ("prop_of_list",1308,(.ref 741)),
 ("prop_row",1319,(.ref 748)),
 ("read_type",1327,(.ref 755)),
 ("late_place",1333,(.ref 760)),
 ("list_read",1342,(.ref 767)),
 ("index_read",1353,(.ref 774)),
 ("part_type",1363,(.ref 781)),
 ("prop_type",1369,(.ref 786)),
 ("index_of",1380,(.ref 793)),
 ("index_of_parts",1393,(.ref 800)),
 ("tuple_at",1402,(.ref 807)),
 ("TOP_NUMBER",1406,(vi 9007199254740991 1405)),
 ("OPEN_KINDS",1407,(.ref 808)),
 ("is_open",1419,(.ref 815)),
 ("unit_word",1428,(.ref 822)),
 ("key_text",1436,(.ref 829)),
 ("digits_back",1446,(.ref 836)),
 ("picked",1457,(.ref 843)),
 ("is_public",1464,(.ref 850)),
 ("shape_keys",1476,(.ref 857)),
 ("list_keys",1482,(.ref 862)),
 ("keys_of_parts",1488,(.ref 867)),
 ("deferred_keys",1499,(.ref 874)),
 ("keys_of",1509,(.ref 881)),
 ("index_parts",1522,(.ref 888)),
 ("kindkeys_open_index",1534,(.ref 895)),
 ("is_number_key",1542,(.ref 902)),
 ("list_index",1553,(.ref 909)),
 ("sign_index",1565,(.ref 916)),
 ("closed_index",1577,(.ref 923)),
 ("never_index",1588,(.ref 930)),
 ("kindkeys_hidden_apart",1594,(.ref 935)),
 ("index_kind",1604,(.ref 942)),
 ("settle_keys",1613,(.ref 949)),
 ("key_shape",1622,(.ref 956)),
 ("KeyHost",1695,(.ref 1008)),
 ("_law_KINDS",1706,(.ref 1011)),
 ("_law_NAMES",1711,(.ref 1012)),
 ("_law_take",1721,(.ref 1019)),
 ("_law_sum",1728,(.ref 1026)),
 ("_law_open",1735,(.ref 1033)),
 ("_law_met",1743,(.ref 1040)),
 ("_law_object",1758,(.ref 1047)),
 ("_law_both",1768,(.ref 1054)),
 ("_law_meet",1782,(.ref 1061)),
 ("_law_name_at",1791,(.ref 1068)),
 ("_law_key_at",1799,(.ref 1075)),
 ("_law_all",1808,(.ref 1082)),
 ("_law_owners",1814,(.ref 1087)),
 ("_law_read",1820,(.ref 1092)),
 ("_law_named",1826,(.ref 1097)),
 ("_law_never",1832,(.ref 1102)),
 ("_law_keys",1843,(.ref 1109)),
 ("_law_shared",1854,(.ref 1116)),
 ("_law_type",1864,(.ref 1123)),
 ("_law_atom",1872,(.ref 1130)),
 ("_law_key",1880,(.ref 1137)),
 ("_law_key_kind",1886,(.ref 1142)),
 ("_law_shape",1892,(.ref 1147)),
 ("_law_laid",1906,(.ref 1154)),
 ("_law_parts",1912,(.ref 1159)),
 ("_law_right",1918,(.ref 1164)),
 ("law",1924,(.ref 1169))]
noncomputable def tD(P:Params)(x:String×Nat×Value):DictEntry:=⟨PyData.keyHash P (Str.ofString x.1),vs x.1 x.2.1,x.2.2⟩
noncomputable def C5(P:Params)(k:Nat)(nm:Value):Obj:={ cls:=.type "dict",data:=.dict ((tD P ("__name__",165,nm))::((tC.take k).drop 1).map (tD P)).toArray k }
noncomputable def IK:List (Int×Int×Nat):=[(1,0,20),(5,0,27),(10,0,48),(15,0,68),(82,0,115),(108,0,150),(126,0,171),(128,0,179),(130,0,187),(132,0,194),(134,0,199),(139,0,211),(141,0,218),(143,0,225),(147,0,232),(154,0,239),(163,0,246),(168,0,253),(172,0,260),(176,0,267),(181,0,272),(198,0,279),(200,0,286),(202,0,293),(204,0,300),(207,0,307),(211,0,312),(215,0,319),(224,0,326),(241,0,333),(249,0,338),(252,0,345),(257,0,352),(261,0,357),(270,0,364),(272,0,371),(277,0,378),(296,0,383),(300,0,390),(306,0,397),(316,0,404),(324,0,411),(338,0,418),(352,0,425),(363,0,430),(372,0,437),(388,0,444),(401,0,453),(406,0,460),(416,0,467),(420,0,474),(424,0,479),(432,0,484),(438,0,491),(444,0,498),(460,0,505),(475,0,510),(477,0,517),(482,0,522),(488,0,529),(495,0,536),(557,0,683),(561,0,688),(565,0,695),(572,0,702),(574,0,707),(588,0,714),(593,0,719),(596,0,726),(598,0,733),(604,0,740),(617,0,747),(625,0,754),(627,0,759),(630,0,766),(634,0,773),(643,0,780),(647,0,785),(652,0,792),(662,0,799),(674,0,806),(681,0,814),(698,0,821),(713,0,828),(717,0,835),(729,0,842),(734,0,849),(736,0,856),(751,0,861),(759,0,866),(765,0,873),(772,0,880),(791,0,887),(799,0,894),(806,0,901),(808,0,908),(818,0,915),(833,0,922),(846,0,929),(858,0,934),(869,0,941),(888,0,948),(895,0,955),(902,0,962),(931,0,1018),(936,0,1025),(940,0,1032),(942,0,1039),(948,0,1046),(962,0,1053),(971,0,1060),(984,0,1067),(991,0,1074),(999,0,1081),(1006,0,1086),(1009,0,1091),(1013,0,1096),(1015,0,1101),(1018,0,1108),(1030,0,1115),(1037,0,1122),(1045,0,1129),(1051,0,1136),(1055,0,1141),(1057,0,1146),(1065,0,1153),(1083,0,1158),(1093,0,1163),(1115,0,1168)]
noncomputable def Fd(k:Nat):Obj:={ cls:=.none,data:=.fields ((IK.take k).flatMap fun x=>[rawInt x.1,rawInt x.2.1,.ref x.2.2]).toArray }
noncomputable def Jf(P:Params)(b:Bool):Obj:=if b then E8 P .none 2 [((vs "type.__subclasses__.Exception.0" 223),(vi 39 0)),((vs "type.__subclasses__.Exception.n" 224),(vi 1 0))] else E8 P .none 0 []
noncomputable def jZ:Value:=vs "kindkeep.types" 283
noncomputable def kN:Value:=vs "law_xm0540_01" 1696
noncomputable def rP:Value:=vs "kindkeep.kindkeys" 1447
noncomputable def zc:Value:=vs "kindkeep.hosts" 1040
noncomputable def BV:Value:=vs "kindkeep.shapes" 917
noncomputable def C8:Value:=vs "kindkeep.typeops" 736
noncomputable def I6:Value:=vs "kindkeep.kindtpl" 1403
noncomputable def KJ(P:Params)(r:Frag):Frag:=(83,fJ [vi 1 285,vs "any" 397])::(84,fJ [vi 1 285,vs "unknown" 398])::(85,fJ [vi 1 285,vs "never" 399])::(86,fJ [vi 1 285,vs "void" 400])::(87,fJ [vi 1 285,vs "undefined" 401])::(88,fJ [vi 1 285,vs "null" 402])::(89,fJ [vi 1 285,vs "string" 403])::(90,fJ [vi 1 285,vs "number" 404])::r
noncomputable def KI(P:Params)(r:Frag):Frag:=(91,fJ [vi 2 287,vi 0 405,vi 0 406])::(92,fJ [vi 2 287,vi 1 407,vi 0 408])::(93,fJ [vi 1 285,vs "object" 409])::(94,fJ [])::(95,fJ [])::(96,fJ [])::(97,fJ [])::(98,fJ [])::r
noncomputable def KH(P:Params)(r:Frag):Frag:=(99,fJ [vi 8 299,.ref 94,.ref 95,.ref 96,.ref 97,.ref 98,vi 0 410])::(100,fJ [vi 8 411,vi 9 412])::(101,fJ [vi 6 295,.ref 100])::(102,fJ [vi 1 285,vs "error" 413])::(103,fJ [vi 2 287,vi 0 414,vi 1 415])::(104,fJ [vi 2 287,vi 1 416,vi 1 417])::(105,fJ [.ref 83,.ref 84,.ref 85,.ref 86,.ref 87,.ref 88,.ref 89,.ref 90,.ref 91,.ref 92,.ref 93,.ref 99,.ref 101,.ref 102,.ref 103,.ref 104])::(106,fJ [vi 2 287,vi 3 289,vi 4 291,vi 5 293])::r
noncomputable def KG(P:Params)(r:Frag):Frag:=(107,fJ [vi 2 287,vi 3 289,vi 4 291,vi 5 293,vi 8 299])::(108,fJ [vi 8 299,vi 9 301,vi 11 305,vi 12 307,vi 13 309])::(109,E8 P (.type "dict") 6 [(vi 3 329,vi 6 391),(vi 4 331,vi 5 389),(vi 5 333,vi 4 387),(vi 6 335,vi 1 381),(vi 7 337,vi 2 383),(vi 10 343,vi 7 393)])::(122,bL "TypeTable.__init__" 441 446 122 false (md 67 0))::(123,bK "TypeTable.__init__" jZ .none 122 (md 67 0))::(136,bL "TypeTable.put" 457 463 136 false (md 67 2))::(137,bK "TypeTable.put" jZ .none 136 (md 67 2))::(139,E8 P (.type "dict") 4 [(vs "__module__" 436,jZ),(vs "__firstlineno__" 440,vi 82 439),(vs "__init__" 448,.ref 123),(vs "row" 456,.ref 130),(vs "put" 465,.ref 137),(vs "__static_attributes__" 476,.ref 138),(vs "__dict__" 478,.ref 141),(vs "__weakref__" 480,.ref 142),(vs "__doc__" 481,.none)])::r
noncomputable def KE(P:Params)(r:Frag):Frag:=(140,{ cls:=.type "type",data:=.cls { name:="TypeTable",bases:=[.type "object"],mro:=[.ref 140,.type "object"],ns:=139,qualname:="TypeTable",hasDict:=true,slotNames:=[],subclasses:=[],abstract:=false,hasDel:=false },slots:=#[none,none,some (vs "TypeTable" 429),some (vs "TypeTable" 437),some (.builtin "object.__new__"),some (.bool true)] })::(157,bL "Decl.__init__" 496 503 157 false (md 68 0))::(158,bK "Decl.__init__" jZ .none 157 (md 68 0))::(160,E8 P (.type "dict") 4 [(vs "__module__" 491,jZ),(vs "__firstlineno__" 495,vi 108 494),(vs "__init__" 505,.ref 158),(vs "__static_attributes__" 521,.ref 159),(vs "__dict__" 523,.ref 162),(vs "__weakref__" 525,.ref 163),(vs "__doc__" 526,.none)])::(161,{ cls:=.type "type",data:=.cls { name:="Decl",bases:=[.type "object"],mro:=[.ref 161,.type "object"],ns:=160,qualname:="Decl",hasDict:=true,slotNames:=[],subclasses:=[],abstract:=false,hasDel:=false },slots:=#[none,none,some (vs "Decl" 484),some (vs "Decl" 492),some (.builtin "object.__new__"),some (.bool true)] })::(171,bL "kind_of" 529 534 171 false (st 69))::(172,bK "kind_of" jZ .none 171 (st 69))::(173,fJ [vi 0 537])::r
noncomputable def KD(P:Params)(r:Frag):Frag:=(179,bL "str_type" 538 544 179 false (st 70))::(180,bK "str_type" jZ (.ref 173) 179 (st 70))::(181,fJ [vi 0 547])::(187,bL "num_type" 548 554 187 false (st 71))::(188,bK "num_type" jZ (.ref 181) 187 (st 71))::(194,bL "ref_type" 557 563 194 false (st 72))::(195,bK "ref_type" jZ .none 194 (st 72))::(199,bL "sorted_props" 566 569 199 true (st 73))::r
noncomputable def KC(P:Params)(r:Frag):Frag:=(200,bK "sorted_props" jZ .none 199 (st 73))::(201,fJ [])::(202,fJ [])::(203,fJ [])::(204,fJ [])::(205,fJ [.ref 201,.ref 202,.ref 203,.ref 204,vi 0 572])::(211,bL "obj_type" 573 583 211 false (st 74))::(212,bK "obj_type" jZ (.ref 205) 211 (st 74))::r
noncomputable def KB(P:Params)(r:Frag):Frag:=(225,bL "new_decl" 594 601 225 false (st 76))::(226,bK "new_decl" jZ .none 225 (st 76))::(232,bL "parts_of" 604 610 232 false (st 77))::(233,bK "parts_of" jZ .none 232 (st 77))::(239,bL "whole_of_row" 613 618 239 false (st 78))::(240,bK "whole_of_row" jZ .none 239 (st 78))::(246,bL "regular_twin" 621 627 246 false (st 79))::(247,bK "regular_twin" jZ .none 246 (st 79))::r
noncomputable def Kz(P:Params)(r:Frag):Frag:=(253,bL "join_bools" 630 634 253 false (st 80))::(254,bK "join_bools" jZ .none 253 (st 80))::(260,bL "stays_beside" 637 643 260 false (st 81))::(261,bK "stays_beside" jZ .none 260 (st 81))::(267,bL "top_of" 646 651 267 false (st 82))::(268,bK "top_of" jZ .none 267 (st 82))::(272,bL "union" 654 657 272 true (st 83))::(273,bK "union" jZ .none 272 (st 83))::r
noncomputable def Kx(P:Params)(r:Frag):Frag:=(279,bL "add_undef" 660 665 279 false (st 84))::(280,bK "add_undef" jZ .none 279 (st 84))::(286,bL "is_literal" 668 673 286 false (st 85))::(287,bK "is_literal" jZ .none 286 (st 85))::(293,bL "is_unit" 676 681 293 false (st 86))::(294,bK "is_unit" jZ .none 293 (st 86))::(300,bL "is_fresh" 684 690 300 false (st 87))::(301,bK "is_fresh" jZ .none 300 (st 87))::r
noncomputable def GH(P:Params)(r:Frag):Frag:=(307,bL "regular_one" 693 698 307 false (st 88))::(308,bK "regular_one" jZ .none 307 (st 88))::(319,bL "meet_family" 707 715 319 false (st 90))::(320,bK "meet_family" jZ .none 319 (st 90))::(326,bL "family" 718 726 326 false (st 91))::(327,bK "family" jZ .none 326 (st 91))::(333,bL "is_nullish_family" 729 733 333 false (st 92))::(334,bK "is_nullish_family" jZ .none 333 (st 92))::r
noncomputable def GG(P:Params)(r:Frag):Frag:=(390,bL "meet_nullish" 818 825 390 false (st 107))::(391,bK "meet_nullish" C8 .none 390 (st 107))::(397,bL "meet_values" 828 836 397 false (st 108))::(398,bK "meet_values" C8 .none 397 (st 108))::(411,bL "meet_case" 850 858 411 false (st 110))::(412,bK "meet_case" C8 .none 411 (st 110))::(418,bL "lay_on" 861 871 418 false (st 111))::(419,bK "lay_on" C8 .none 418 (st 111))::r
noncomputable def GF(P:Params)(r:Frag):Frag:=(425,bL "members_of_meet" 874 881 425 false (st 112))::(426,bK "members_of_meet" C8 .none 425 (st 112))::(430,bL "meet_parts" 884 887 430 true (st 113))::(431,bK "meet_parts" C8 .none 430 (st 113))::(437,bL "meet_two" 890 903 437 false (st 114))::(438,bK "meet_two" C8 .none 437 (st 114))::(444,bL "inter" 906 914 444 false (st 115))::(445,bK "inter" C8 .none 444 (st 115))::r
noncomputable def GE(P:Params)(r:Frag):Frag:=(446,fJ [vi 1 285,vi 2 287,vi 3 289,vi 4 291,vi 5 293])::(447,fJ [vi 11 305,vi 12 307])::(453,bL "prop_dict" 923 929 453 false (st 120))::(454,bK "prop_dict" BV .none 453 (st 120))::(460,bL "met_kind" 932 940 460 false (st 121))::(461,bK "met_kind" BV .none 460 (st 121))::(467,bL "met_prop" 943 950 467 false (st 122))::(468,bK "met_prop" BV .none 467 (st 122))::r
noncomputable def GD(P:Params)(r:Frag):Frag:=(474,bL "met_index" 953 959 474 false (st 123))::(475,bK "met_index" BV .none 474 (st 123))::(479,bL "shapes_met_rows" 962 965 479 true (st 124))::(480,bK "shapes_met_rows" BV .none 479 (st 124))::(484,bL "meet_shape" 968 971 484 true (st 125))::(485,bK "meet_shape" BV .none 484 (st 125))::(491,bL "hidden_apart" 974 981 491 false (st 126))::(492,bK "hidden_apart" BV .none 491 (st 126))::r
noncomputable def GC(P:Params)(sub:List Value)(r:Frag):Frag:=(498,bL "final_parts" 984 995 498 false (st 127))::(499,bK "final_parts" BV .none 498 (st 127))::(505,bL "plain_shape" 998 1005 505 false (st 128))::(506,bK "plain_shape" BV .none 505 (st 128))::(578,bL "Thin.bound" 1100 1105 578 false (md 136 5))::(579,bK "Thin.bound" zc .none 578 (md 136 5))::(672,E8 P (.type "dict") 4 [(vs "__module__" 1053,zc),(vs "__firstlineno__" 1057,vi 495 1056),(vs "__init__" 1065,.ref 544),(vs "force" 1073,.ref 551),(vs "put_deferred" 1081,.ref 558),(vs "put_cond" 1090,.ref 565),(vs "lay_row" 1099,.ref 572),(vs "bound" 1107,.ref 579),(vs "shape" 1115,.ref 586),(vs "fits" 1124,.ref 593),(vs "lies" 1133,.ref 600),(vs "infers" 1143,.ref 607),(vs "tpl_fits" 1152,.ref 614),(vs "shape_fits" 1161,.ref 621),(vs "put_in" 1170,.ref 628),(vs "own_sig" 1179,.ref 635),(vs "forget" 1186,.ref 642),(vs "list_prop" 1195,.ref 649),(vs "list_index" 1203,.ref 656),(vs "elem_met" 1211,.ref 663),(vs "error_class" 1218,.ref 670),(vs "__static_attributes__" 1224,.ref 671),(vs "__dict__" 1226,.ref 674),(vs "__weakref__" 1228,.ref 675),(vs "__doc__" 1229,.none)])::(673,{ cls:=.type "type",data:=.cls { name:="Thin",bases:=[.type "object"],mro:=[.ref 673,.type "object"],ns:=672,qualname:="Thin",hasDict:=true,slotNames:=[],subclasses:=sub,abstract:=false,hasDel:=false },slots:=#[none,none,some (vs "Thin" 1046),some (vs "Thin" 1054),some (.builtin "object.__new__"),some (.bool true)] })::r
noncomputable def GB(P:Params)(r:Frag):Frag:=(714,bL "find_prop" 1268 1274 714 false (st 142))::(715,bK "find_prop" zc .none 714 (st 142))::(719,bL "is_digits" 1277 1280 719 true (st 143))::(720,bK "is_digits" zc .none 719 (st 143))::(733,bL "is_number_name" 1290 1294 733 false (st 145))::(734,bK "is_number_name" zc .none 733 (st 145))::(747,bL "prop_row" 1309 1317 747 false (st 147))::(748,bK "prop_row" zc .none 747 (st 147))::r
noncomputable def GA(P:Params)(r:Frag):Frag:=(754,bL "read_type" 1320 1325 754 false (st 148))::(755,bK "read_type" zc .none 754 (st 148))::(773,bL "index_read" 1343 1351 773 false (st 151))::(774,bK "index_read" zc .none 773 (st 151))::(780,bL "part_type" 1354 1361 780 false (st 152))::(781,bK "part_type" zc .none 780 (st 152))::(785,bL "prop_type" 1364 1367 785 true (st 153))::(786,bK "prop_type" zc .none 785 (st 153))::r
noncomputable def Gz(P:Params)(r:Frag):Frag:=(792,bL "index_of" 1370 1378 792 false (st 154))::(793,bK "index_of" zc .none 792 (st 154))::(808,fJ [vi 10 303,vi 14 311,vi 15 313,vi 16 315,vi 17 317,vi 19 321])::(814,bL "is_open" 1408 1417 814 false (st 160))::(815,bK "is_open" I6 .none 814 (st 160))::(821,bL "unit_word" 1420 1426 821 false (st 161))::(822,bK "unit_word" I6 .none 821 (st 161))::(828,bL "key_text" 1429 1434 828 false (st 162))::r
noncomputable def Gy(P:Params)(r:Frag):Frag:=(829,bK "key_text" I6 .none 828 (st 162))::(835,bL "digits_back" 1437 1444 835 false (st 163))::(836,bK "digits_back" I6 .none 835 (st 163))::(849,bL "is_public" 1458 1462 849 false (st 166))::(850,bK "is_public" rP .none 849 (st 166))::(856,bL "shape_keys" 1465 1474 856 false (st 167))::(857,bK "shape_keys" rP .none 856 (st 167))::(866,bL "keys_of_parts" 1483 1486 866 true (st 169))::r
noncomputable def Gx(P:Params)(r:Frag):Frag:=(867,bK "keys_of_parts" rP .none 866 (st 169))::(880,bL "keys_of" 1500 1507 880 false (st 171))::(881,bK "keys_of" rP .none 880 (st 171))::(887,bL "index_parts" 1510 1520 887 false (st 172))::(888,bK "index_parts" rP .none 887 (st 172))::(901,bL "is_number_key" 1535 1540 901 false (st 174))::(902,bK "is_number_key" rP .none 901 (st 174))::(915,bL "sign_index" 1554 1563 915 false (st 176))::r
noncomputable def Gw(P:Params)(r:Frag):Frag:=(916,bK "sign_index" rP .none 915 (st 176))::(922,bL "closed_index" 1566 1575 922 false (st 177))::(923,bK "closed_index" rP .none 922 (st 177))::(929,bL "never_index" 1578 1586 929 false (st 178))::(930,bK "never_index" rP .none 929 (st 178))::(934,bL "kindkeys_hidden_apart" 1589 1592 934 true (st 179))::(935,bK "kindkeys_hidden_apart" rP .none 934 (st 179))::(941,bL "index_kind" 1595 1602 941 false (st 180))::r
noncomputable def Gv(P:Params)(r:Frag):Frag:=(942,bK "index_kind" rP .none 941 (st 180))::(955,bL "key_shape" 1614 1620 955 false (st 182))::(956,bK "key_shape" rP .none 955 (st 182))::(957,fJ [.ref 673])::(969,bL "KeyHost.__init__" 1635 1640 969 false (md 183 0))::(970,bK "KeyHost.__init__" rP .none 969 (md 183 0))::(976,bL "KeyHost.force" 1643 1649 976 false (md 183 1))::(977,bK "KeyHost.force" rP .none 976 (md 183 1))::r
noncomputable def Gu(P:Params)(r:Frag):Frag:=(990,bL "KeyHost.shape" 1660 1665 990 false (md 183 3))::(991,bK "KeyHost.shape" rP .none 990 (md 183 3))::(1007,E8 P (.type "dict") 2 [(vs "__module__" 1630,rP),(vs "__firstlineno__" 1634,vi 902 1633),(vs "__init__" 1642,.ref 970),(vs "force" 1651,.ref 977),(vs "put_deferred" 1659,.ref 984),(vs "shape" 1667,.ref 991),(vs "list_prop" 1676,.ref 998),(vs "list_index" 1685,.ref 1005),(vs "__static_attributes__" 1692,.ref 1006),(vs "__doc__" 1693,.none)])::(1008,{ cls:=.type "type",data:=.cls { name:="KeyHost",bases:=[.ref 673],mro:=[.ref 1008,.ref 673,.type "object"],ns:=1007,qualname:="KeyHost",hasDict:=true,slotNames:=[],subclasses:=[],abstract:=false,hasDel:=false },slots:=#[some (.ref 957),none,some (vs "KeyHost" 1623),some (vs "KeyHost" 1631),some (.builtin "object.__new__"),some (.bool true)] })::(1011,fJ [vi 1 1698,vi 64 1699,vi 3 1700,vi 4 1701,vi 128 1702,vi 33 1703,vi 12 1704,vi 256 1705])::(1012,fJ [vs "p" 1707,vs "q" 1708,vs "0" 1709,vs "x" 1710])::(1018,bL "_law_take" 1712 1719 1018 false (st 187))::(1019,bK "_law_take" kN .none 1018 (st 187))::r
noncomputable def Gs(P:Params)(r:Frag):Frag:=(1025,bL "_law_sum" 1722 1726 1025 false (st 188))::(1026,bK "_law_sum" kN .none 1025 (st 188))::(1032,bL "_law_open" 1729 1733 1032 false (st 189))::(1033,bK "_law_open" kN .none 1032 (st 189))::(1039,bL "_law_met" 1736 1741 1039 false (st 190))::(1040,bK "_law_met" kN .none 1039 (st 190))::(1046,bL "_law_object" 1744 1756 1046 false (st 191))::(1047,bK "_law_object" kN .none 1046 (st 191))::r
noncomputable def Gq(P:Params)(r:Frag):Frag:=(1053,bL "_law_both" 1759 1766 1053 false (st 192))::(1054,bK "_law_both" kN .none 1053 (st 192))::(1060,bL "_law_meet" 1769 1780 1060 false (st 193))::(1061,bK "_law_meet" kN .none 1060 (st 193))::(1067,bL "_law_name_at" 1783 1789 1067 false (st 194))::(1068,bK "_law_name_at" kN .none 1067 (st 194))::(1074,bL "_law_key_at" 1792 1797 1074 false (st 195))::(1075,bK "_law_key_at" kN .none 1074 (st 195))::r
noncomputable def Gp(P:Params)(r:Frag):Frag:=(1081,bL "_law_all" 1800 1806 1081 false (st 196))::(1082,bK "_law_all" kN .none 1081 (st 196))::(1086,bL "_law_owners" 1809 1812 1086 true (st 197))::(1087,bK "_law_owners" kN .none 1086 (st 197))::(1091,bL "_law_read" 1815 1818 1091 true (st 198))::(1092,bK "_law_read" kN .none 1091 (st 198))::(1096,bL "_law_named" 1821 1824 1096 true (st 199))::(1097,bK "_law_named" kN .none 1096 (st 199))::r
noncomputable def Go(P:Params)(r:Frag):Frag:=(1101,bL "_law_never" 1827 1830 1101 true (st 200))::(1102,bK "_law_never" kN .none 1101 (st 200))::(1108,bL "_law_keys" 1833 1841 1108 false (st 201))::(1109,bK "_law_keys" kN .none 1108 (st 201))::(1115,bL "_law_shared" 1844 1852 1115 false (st 202))::(1116,bK "_law_shared" kN .none 1115 (st 202))::(1122,bL "_law_type" 1855 1862 1122 false (st 203))::(1123,bK "_law_type" kN .none 1122 (st 203))::r
noncomputable def Gn(P:Params)(r:Frag):Frag:=(1129,bL "_law_atom" 1865 1870 1129 false (st 204))::(1130,bK "_law_atom" kN .none 1129 (st 204))::(1136,bL "_law_key" 1873 1878 1136 false (st 205))::(1137,bK "_law_key" kN .none 1136 (st 205))::(1141,bL "_law_key_kind" 1881 1884 1141 true (st 206))::(1142,bK "_law_key_kind" kN .none 1141 (st 206))::(1146,bL "_law_shape" 1887 1890 1146 true (st 207))::(1147,bK "_law_shape" kN .none 1146 (st 207))::r
noncomputable def Gm(P:Params)(r:Frag):Frag:=(1153,bL "_law_laid" 1893 1904 1153 false (st 208))::(1154,bK "_law_laid" kN .none 1153 (st 208))::(1158,bL "_law_parts" 1907 1910 1158 true (st 209))::(1159,bK "_law_parts" kN .none 1158 (st 209))::(1163,bL "_law_right" 1913 1916 1163 true (st 210))::(1164,bK "_law_right" kN .none 1163 (st 210))::(1165,fJ [])::(1166,{ cls:=.none,data:=.fields #[] })::r
noncomputable def Gl(P:Params)(r:Frag):Frag:=(1168,bL "law" 1919 1922 1168 true (st 211))::(1169,bK "law" kN .none 1168 (st 211))::r
noncomputable def kn(P:Params)(sub:List Value):Frag:=KJ P (KI P (KH P (KG P (KE P (KD P (KC P (KB P (Kz P (Kx P (GH P (GG P (GF P (GE P (GD P (GC P sub (GB P (GA P (Gz P (Gy P (Gx P (Gw P (Gv P (Gu P (Gs P (Gq P (Gp P (Go P (Gn P (Gm P (Gl P []))))))))))))))))))))))))))))))
noncomputable def i7(l:Frag)(j:Nat):Option Obj:=@List.rec _ (fun _=>Option Obj) none (fun p _ r=>@Bool.rec (fun _=>Option Obj) r (some p.2) (Nat.beq j p.1)) l
noncomputable def je(n j:Nat)(a b:Option Obj):Option Obj:=@Bool.rec (fun _=>Option Obj) b a (Nat.ble n j)
noncomputable def kq(P:Params)(sub:List Value)(j:Nat):Option Obj:=je 498 j (je 990 j (je 1101 j (je 1153 j (je 1168 j (i7 (Gl P []) j) (i7 (Gm P []) j)) (je 1129 j (i7 (Gn P []) j) (i7 (Go P []) j))) (je 1053 j (je 1081 j (i7 (Gp P []) j) (i7 (Gq P []) j)) (je 1025 j (i7 (Gs P []) j) (i7 (Gu P []) j)))) (je 829 j (je 916 j (je 942 j (i7 (Gv P []) j) (i7 (Gw P []) j)) (je 867 j (i7 (Gx P []) j) (i7 (Gy P []) j))) (je 754 j (je 792 j (i7 (Gz P []) j) (i7 (GA P []) j)) (je 714 j (i7 (GB P []) j) (i7 (GC P sub []) j))))) (je 225 j (je 390 j (je 446 j (je 474 j (i7 (GD P []) j) (i7 (GE P []) j)) (je 425 j (i7 (GF P []) j) (i7 (GG P []) j))) (je 279 j (je 307 j (i7 (GH P []) j) (i7 (Kx P []) j)) (je 253 j (i7 (Kz P []) j) (i7 (KB P []) j)))) (je 107 j (je 179 j (je 200 j (i7 (KC P []) j) (i7 (KD P []) j)) (je 140 j (i7 (KE P []) j) (i7 (KG P []) j))) (je 91 j (je 99 j (i7 (KH P []) j) (i7 (KI P []) j)) (i7 (KJ P []) j))))
noncomputable def uW(P:Params)(b:Bool)(k c:Nat)(nm:Value):List Obj:=[boot_o_0 P,boot_o_1 P,Jf P b,C5 P k nm,boot_o_4 P,boot_o_5 P,boot_o_6 P,boot_o_7 P,boot_o_8 P,boot_o_9 P,boot_o_10 P,
 fJ [],
 Fd c,
 { cls:=(.type "code"),data:=.fields #[(vs "<module>" 182),(vs "<module>" 183),(vs "/claim/cut.py" 184),(vi 1 0),(vi 0 0),(vi 0 0),(vi 0 0),(vi 0 0),(.ref 11),(.bool false),(vi 181 0),(.ref 12),.none,.none,.none,.none,(vi 185 0),(vi 1 0),(vs "/claim/cut.py" 186)] },
 { cls:=(.type "frame"),data:=.plain,slots:=#[some (.ref 13),some (.ref 3),some (.ref 3),none,some (vs "__main__" 164),none,some (.ref 0)] }]
noncomputable def KF(P:Params):Frag:=(3,C5 P 213 (vs "law_xm0540_01" 1696))::kn P [.ref 1008]
end Mine.Internal
namespace Mine.Internal.Hd
section
set_option maxHeartbeats 4000000
noncomputable section
noncomputable def Jv(L:List Obj)(K:Nat→Option Obj)(x:Nat→Obj)(j:Nat):Obj:=match Nat.ble 15 j with
 | true=>(match K j with
  | some o=>o
  | none=>x j)
 | false=>L.getD j default
noncomputable def Jr(f:Nat→Obj)(n:Nat):Nat→Nat→Nat→BT
 | 0,_,_=>.nil
 | d+1,a,b=>match Nat.ble (b+1) n with
  | true=>.node (f b) (Jr f n d (2 * a) (a+b)) (Jr f n d (2 * a) (2 * a+b))
  | false=>.nil
noncomputable def mV(r:Option (Flow×SharedT×Code×Pos)):BT:=match r with
 | some (_,s,_,_)=>s.tree
 | none=>.nil
noncomputable abbrev S(P:Params)(b:Bool)(k c:Nat)(nm:Value)(sub:List Value)(n t:Nat)(x:Nat→Obj)(os:OsState):SharedT:=
 ⟨Jr (Jv (uW P b k c nm) (kq P sub) x) n 12 1 0,n,{},#[],boot_drawn,t,os⟩
noncomputable def env:Env:={ scope:=pw.main.scope,locals:=mainNs,globals:=mainNs,cells:=[],code:=.ref 13,frame:=some 14 }
noncomputable abbrev cE:Code:=.body (behindTheImports pw) env
noncomputable abbrev BB:List Frame:=[topFrame ⟨0,0,0,0⟩]
noncomputable abbrev jL:Option Value:=some (.ref 6)
noncomputable abbrev slice(a k:Nat):List Stmt:=(pw.main.body.drop a).take k
theorem K2(w:World)(os:OsState)(x:Nat→Obj):∃ y:Nat→Obj,segRunT treeTable pw w 11 jL 1 1446 (S w.params false 9 0 (vs "__main__" 164) [] 15 187 x os) (piecesOf (slice 0 66) env cE ⟨0,0,0,0⟩ BB)=some (.next,(S w.params true 73 4 (vs "kindkeep.types" 283) [] 109 422 y os),cE,⟨80,0,80,11⟩):=by
 refine ⟨fun j=>((mV (PySem.W.Fast.tw10110043849684766642 PySem.W.Fast.tw14364793385576792824 pw w 11 jL 1 1446 (S w.params false 9 0 (vs "__main__" 164) [] 15 187 x os) (piecesOf (slice 0 66) env cE ⟨0,0,0,0⟩ BB))).get j).getD default,?_⟩
 rw [PySem.W.Fast.te10110043849684766642,PySem.W.Fast.te14364793385576792824]
 kernel_rfl
theorem Jn(w:World)(os:OsState)(x:Nat→Obj):∃ y:Nat→Obj,segRunT treeTable pw w 11 jL 1 101 (S w.params true 73 4 (vs "kindkeep.types" 283) [] 109 422 x os) (piecesOf (slice 66 1) env cE ⟨80,0,80,11⟩ BB)=some (.next,(S w.params true 74 4 (vs "kindkeep.types" 283) [] 110 429 y os),cE,⟨81,0,81,12⟩):=by
 revert w
 refine byRow2 "special-get-raises" (fun w=>?_) (fun w=>?_)
 ·refine ⟨fun j=>((mV (PySem.W.Fast.tw10110043849684766642 PySem.W.Fast.tw14364793385576792824 pw (w.withFollow "special-get-raises" false) 11 jL 1 101 (S ((w.withFollow "special-get-raises" false)).params true 73 4 (vs "kindkeep.types" 283) [] 109 422 x os) (piecesOf (slice 66 1) env cE ⟨80,0,80,11⟩ BB))).get j).getD default,?_⟩
  rw [PySem.W.Fast.te10110043849684766642,PySem.W.Fast.te14364793385576792824]
  kernel_rfl
 ·refine ⟨fun j=>((mV (PySem.W.Fast.tw10110043849684766642 PySem.W.Fast.tw14364793385576792824 pw (w.withFollow "special-get-raises" true) 11 jL 1 101 (S ((w.withFollow "special-get-raises" true)).params true 73 4 (vs "kindkeep.types" 283) [] 109 422 x os) (piecesOf (slice 66 1) env cE ⟨80,0,80,11⟩ BB))).get j).getD default,?_⟩
  rw [PySem.W.Fast.te10110043849684766642,PySem.W.Fast.te14364793385576792824]
  kernel_rfl
theorem Jm(w:World)(os:OsState)(x:Nat→Obj):∃ y:Nat→Obj,segRunT treeTable pw w 11 jL 1 1504 (S w.params true 74 4 (vs "kindkeep.types" 283) [] 110 429 x os) (piecesOf (slice 67 38) env cE ⟨81,0,81,12⟩ BB)=some (.next,(S w.params true 111 36 (vs "kindkeep.typeops" 736) [] 373 795 y os),cE,⟨272,0,276,54⟩):=by
 refine ⟨fun j=>((mV (PySem.W.Fast.tw10110043849684766642 PySem.W.Fast.tw14364793385576792824 pw w 11 jL 1 1504 (S w.params true 74 4 (vs "kindkeep.types" 283) [] 110 429 x os) (piecesOf (slice 67 38) env cE ⟨81,0,81,12⟩ BB))).get j).getD default,?_⟩
 rw [PySem.W.Fast.te10110043849684766642,PySem.W.Fast.te14364793385576792824]
 kernel_rfl
theorem FU(w:World)(os:OsState)(x:Nat→Obj):∃ y:Nat→Obj,segRunT treeTable pw w 11 jL 1 1646 (S w.params true 111 36 (vs "kindkeep.typeops" 736) [] 373 795 x os) (piecesOf (slice 105 32) env cE ⟨272,0,276,54⟩ BB)=some (.next,(S w.params true 141 61 (vs "kindkeep.hosts" 1040) [] 678 1232 y os),cE,⟨495,0,556,17⟩):=by
 refine ⟨fun j=>((mV (PySem.W.Fast.tw10110043849684766642 PySem.W.Fast.tw14364793385576792824 pw w 11 jL 1 1646 (S w.params true 111 36 (vs "kindkeep.typeops" 736) [] 373 795 x os) (piecesOf (slice 105 32) env cE ⟨272,0,276,54⟩ BB))).get j).getD default,?_⟩
 rw [PySem.W.Fast.te10110043849684766642,PySem.W.Fast.te14364793385576792824]
 kernel_rfl
theorem FT(w:World)(os:OsState)(x:Nat→Obj):∃ y:Nat→Obj,segRunT treeTable pw w 11 jL 1 642 (S w.params true 141 61 (vs "kindkeep.hosts" 1040) [] 678 1232 x os) (piecesOf (slice 137 23) env cE ⟨495,0,556,17⟩ BB)=some (.next,(S w.params true 163 81 (vs "kindkeep.kindtpl" 1403) [] 809 1408 y os),cE,⟨680,0,680,10⟩):=by
 refine ⟨fun j=>((mV (PySem.W.Fast.tw10110043849684766642 PySem.W.Fast.tw14364793385576792824 pw w 11 jL 1 642 (S w.params true 141 61 (vs "kindkeep.hosts" 1040) [] 678 1232 x os) (piecesOf (slice 137 23) env cE ⟨495,0,556,17⟩ BB))).get j).getD default,?_⟩
 rw [PySem.W.Fast.te10110043849684766642,PySem.W.Fast.te14364793385576792824]
 kernel_rfl
theorem FS(w:World)(os:OsState)(x:Nat→Obj):∃ y:Nat→Obj,segRunT treeTable pw w 11 jL 1 701 (S w.params true 163 81 (vs "kindkeep.kindtpl" 1403) [] 809 1408 x os) (piecesOf (slice 160 23) env cE ⟨680,0,680,10⟩ BB)=some (.next,(S w.params true 185 103 (vs "kindkeep.kindkeys" 1447) [] 957 1623 y os),cE,⟨895,0,901,35⟩):=by
 refine ⟨fun j=>((mV (PySem.W.Fast.tw10110043849684766642 PySem.W.Fast.tw14364793385576792824 pw w 11 jL 1 701 (S w.params true 163 81 (vs "kindkeep.kindtpl" 1403) [] 809 1408 x os) (piecesOf (slice 160 23) env cE ⟨680,0,680,10⟩ BB))).get j).getD default,?_⟩
 rw [PySem.W.Fast.te10110043849684766642,PySem.W.Fast.te14364793385576792824]
 kernel_rfl
theorem FQ(w:World)(os:OsState)(x:Nat→Obj):∃ y:Nat→Obj,segRunT treeTable pw w 11 jL 1 455 (S w.params true 185 103 (vs "kindkeep.kindkeys" 1447) [] 957 1623 x os) (piecesOf (slice 183 4) env cE ⟨895,0,901,35⟩ BB)=some (.next,(S w.params true 188 104 (vs "law_xm0540_01" 1696) [.ref 1008] 1013 1712 y os),cE,⟨930,0,930,10⟩):=by
 refine ⟨fun j=>((mV (PySem.W.Fast.tw10110043849684766642 PySem.W.Fast.tw14364793385576792824 pw w 11 jL 1 455 (S w.params true 185 103 (vs "kindkeep.kindkeys" 1447) [] 957 1623 x os) (piecesOf (slice 183 4) env cE ⟨895,0,901,35⟩ BB))).get j).getD default,?_⟩
 rw [PySem.W.Fast.te10110043849684766642,PySem.W.Fast.te14364793385576792824]
 kernel_rfl
theorem FP(w:World)(os:OsState)(x:Nat→Obj):∃ y:Nat→Obj,segRunT treeTable pw w 11 jL 1 396 (S w.params true 188 104 (vs "law_xm0540_01" 1696) [.ref 1008] 1013 1712 x os) (piecesOf (slice 187 13) env cE ⟨930,0,930,10⟩ BB)=some (.next,(S w.params true 201 117 (vs "law_xm0540_01" 1696) [.ref 1008] 1098 1827 y os),cE,⟨1013,0,1014,99⟩):=by
 refine ⟨fun j=>((mV (PySem.W.Fast.tw10110043849684766642 PySem.W.Fast.tw14364793385576792824 pw w 11 jL 1 396 (S w.params true 188 104 (vs "law_xm0540_01" 1696) [.ref 1008] 1013 1712 x os) (piecesOf (slice 187 13) env cE ⟨930,0,930,10⟩ BB))).get j).getD default,?_⟩
 rw [PySem.W.Fast.te10110043849684766642,PySem.W.Fast.te14364793385576792824]
 kernel_rfl
theorem FO(w:World)(os:OsState)(x:Nat→Obj):∃ y:Nat→Obj,segRunT treeTable pw w 11 jL 1 351 (S w.params true 201 117 (vs "law_xm0540_01" 1696) [.ref 1008] 1098 1827 x os) (piecesOf (slice 200 12) env cE ⟨1013,0,1014,99⟩ BB)=some (.next,(S w.params true 213 129 (vs "law_xm0540_01" 1696) [.ref 1008] 1170 1925 y os),cE,⟨1115,0,1146,15⟩):=by
 refine ⟨fun j=>((mV (PySem.W.Fast.tw10110043849684766642 PySem.W.Fast.tw14364793385576792824 pw w 11 jL 1 351 (S w.params true 201 117 (vs "law_xm0540_01" 1696) [.ref 1008] 1098 1827 x os) (piecesOf (slice 200 12) env cE ⟨1013,0,1014,99⟩ BB))).get j).getD default,?_⟩
 rw [PySem.W.Fast.te10110043849684766642,PySem.W.Fast.te14364793385576792824]
 kernel_rfl
end
end
section
set_option maxHeartbeats 4000000
noncomputable section
noncomputable abbrev Sa(P:Params)(os:OsState):Shared:=⟨⟨(uW P false 9 0 (vs "__main__" 164)).toArray,{}⟩,#[],boot_drawn,187,os⟩
theorem pre(w:World)(os:OsState):topGo treeTable pw w 11 jL 12 ⟨boot_heap w.params,Array.mk [],boot_drawn,boot_toks,os⟩ (topStub pw)=some (Sa w.params os,⟨denote treeTable cE,cE,⟨0,0,0,0⟩,BB⟩):=by
 rw [PySem.W.Fast.te15667345088766844465,PySem.W.Fast.te14364793385576792824,PySem.W.Fast.te11892475500146522536]
 kernel_rfl
theorem Lh(w:World)(os:OsState)(x:Nat→Obj):segRun treeTable pw w 11 jL 1 1 (Sa w.params os) (blockOf (behindTheImports pw) env cE ⟨0,0,0,0⟩ BB)=some (.next,SharedT.abs (S w.params false 9 0 (vs "__main__" 164) [] 15 187 x os),cE,⟨0,0,0,0⟩):=by
 rw [PySem.W.Fast.te14374325043358763698,PySem.W.Fast.te14364793385576792824]
 kernel_rfl
noncomputable abbrev SF(P:Params)(y:Nat→Obj)(os:OsState):Shared:=SharedT.abs (S P true 213 129 (vs "law_xm0540_01" 1696) [.ref 1008] 1170 1925 y os)
theorem fin(w:World)(os:OsState)(y:Nat→Obj):topRun treeTable pw w 11 jL 2 (SF w.params y os) ⟨doneF .next,cE,⟨1115,0,1146,15⟩,BB⟩=some (SF w.params y os):=by
 rw [PySem.W.Fast.te14082659384304107361,PySem.W.Fast.te14364793385576792824]
 kernel_rfl
theorem tG(a k:Nat):pw.main.body.drop a=slice a k++pw.main.body.drop (a+k):=by
 rw [←List.drop_drop,List.take_append_drop]
theorem next{w:World}{s s' r:Shared}{n N a k b:Nat}{p p':Pos}(hb:a+k=b)(h:segRun treeTable pw w 11 jL 1 n s (piecesOf (slice a k) env cE p BB)=some (.next,s',cE,p'))
  (g:topRun treeTable pw w 11 jL N s' (restOf (pw.main.body.drop b) env cE p' BB)=some r):topRun treeTable pw w 11 jL (n+N) s (restOf (pw.main.body.drop a) env cE p BB)=some r:=by
 subst hb
 rw [tG a k]
 exact piece_app h g
theorem KZ(w:World)(os:OsState):∃ y N,N≤14000∧topRun treeTable pw w 11 jL N ⟨boot_heap w.params,Array.mk [],boot_drawn,boot_toks,os⟩ (topStub pw)=some (SF w.params y os):=by
 let y0:Nat→Obj:=fun uu=>default
 obtain ⟨y1,h0⟩:=K2 w os y0
 obtain ⟨y2,h1⟩:=Jn w os y1
 obtain ⟨y3,h2⟩:=Jm w os y2
 obtain ⟨y4,h3⟩:=FU w os y3
 obtain ⟨y5,h4⟩:=FT w os y4
 obtain ⟨y6,h5⟩:=FS w os y5
 obtain ⟨y7,h6⟩:=FQ w os y6
 obtain ⟨y8,h7⟩:=FP w os y7
 obtain ⟨y9,h8⟩:=FO w os y8
 refine ⟨y9,12+(1+(1446+(101+(1504+(1646+(642+(701+(455+(396+(351+2)))))))))),by decide,go_top (pre w os) (piece_block (Lh w os y0) ?_)⟩
 show topRun treeTable pw w 11 jL _ _ (restOf (pw.main.body.drop 0) env cE _ BB)=_
 refine next (k:=66) (b:=66) rfl (segRun_of h0) ?_
 refine next (k:=1) (b:=67) rfl (segRun_of h1) ?_
 refine next (k:=38) (b:=105) rfl (segRun_of h2) ?_
 refine next (k:=32) (b:=137) rfl (segRun_of h3) ?_
 refine next (k:=23) (b:=160) rfl (segRun_of h4) ?_
 refine next (k:=23) (b:=183) rfl (segRun_of h5) ?_
 refine next (k:=4) (b:=187) rfl (segRun_of h6) ?_
 refine next (k:=13) (b:=200) rfl (segRun_of h7) ?_
 refine next (k:=12) (b:=212) rfl (segRun_of h8) ?_
 exact piece_nil (fin w os y9)
end
end
section
set_option maxHeartbeats 4000000
noncomputable section
noncomputable def qv:Program:={ pw with main:={ pw.main with body:=[st 211] } }
noncomputable def nx:DefRec:=match st 211 with
 | .FunctionDef name args body _ _ _ scope _ _ pos=>⟨name,args,body,scope,pos⟩
 | _=>⟨Str.empty,⟨[],[],none,[],[],none,[]⟩,[],{ kind:=.function,names:=[],isGenerator:=false,isCoroutine:=false },default⟩
noncomputable def uF:List Str:=((tC.drop 9).map fun x=>Str.ofString x.1).filter fun x=>x != Str.ofString "law"
noncomputable def KA:List Addr:=[3,83,84,85,86,87,88,89,90,91,92,93,94,95,96,97,98,99,100,101,102,103,104,105,106,107,108,109,122,123,136,137,139,140,157,158,160,161,171,172,173,179,180,181,187,188,194,195,199,200,201,202,203,204,205,211,212,225,226,232,233,239,240,246,247,253,254,260,261,267,268,272,273,279,280,286,287,293,294,300,301,307,308,319,320,326,327,333,334,390,391,397,398,411,412,418,419,425,426,430,431,437,438,444,445,446,447,453,454,460,461,467,468,474,475,479,480,484,485,491,492,498,499,505,506,578,579,672,673,714,715,719,720,733,734,747,748,754,755,773,774,780,781,785,786,792,793,808,814,815,821,822,828,829,835,836,849,850,856,857,866,867,880,881,887,888,901,902,915,916,922,923,929,930,934,935,941,942,955,956,957,969,970,976,977,990,991,1007,1008,1011,1012,1018,1019,1025,1026,1032,1033,1039,1040,1046,1047,1053,1054,1060,1061,1067,1068,1074,1075,1081,1082,1086,1087,1091,1092,1096,1097,1101,1102,1108,1109,1115,1116,1122,1123,1129,1130,1136,1137,1141,1142,1146,1147,1153,1154,1158,1159,1163,1164,1165,1166,1168,1169]
noncomputable def Xt(s:Shared):Bool:=recOk fI.row.records s
theorem H1(w:World)(os:OsState)(y:Nat→Obj):(staticsOk (importedModules pw.main.body) (boot_heap w.params) (SF w.params y os).heap && namesBound pw (SF w.params y os).heap && gensDone (SF w.params y os) && laidKept (boot_heap w.params) (SF w.params y os).heap)=true:=by
 rw [PySem.W.Fast.te5923862056798008813]
 kernel_rfl
theorem H2(w:World)(os:OsState)(y:Nat→Obj):openSeen qv uF (importedModules pw.main.body) Xt true (SF w.params y os)=openGood qv uF:=by
 rw [PySem.W.Fast.te4187177175401517315,PySem.W.Fast.te5923862056798008813]
 kernel_rfl
theorem H3(w:World)(os:OsState)(y:Nat→Obj):(KF w.params).map (fun p=>(SF w.params y os).heap.get? p.1)=(KF w.params).map fun p=>some p.2:=by
 kernel_rfl
theorem Lj(P:Params):KA=(KF P).map (·.1):=by kernel_rfl
theorem H4(P:Params):((boot_heap P).isNs mainGlobals && (Array.mk ([]:List GenState)).size==0,(boot_heap P).objs.size,(boot_heap P).nsMap mainGlobals "__annotations__")=(true,11,jL):=by
 rw [PySem.W.Fast.te8920871248978507458]
 kernel_rfl
noncomputable abbrev HK:Hook:=kHook KF KA Lj
theorem DV{tb:String→Option Builtin}{p:Program}{w:World}{N n:Nat}{a:Option Value}{s0 s1:Shared}(z:(s0.heap.isNs mainGlobals && s0.gens.size==0)=true)(hn:s0.heap.objs.size=n)(ha:s0.heap.nsMap mainGlobals "__annotations__"=a)
  (r:topRun tb p w n a N s0 (topStub p)=some s1) (h:(staticsOk (importedModules p.main.body) s0.heap s1.heap && namesBound p s1.heap && gensDone s1 && laidKept s0.heap s1.heap)=true):topFrom tb p w N s0=some s1:=by
 subst hn ha
 unfold topFrom
 rw [z]
 dsimp only
 rw [r,Option.bind_some,h]
theorem Cs{tb:String→Option Builtin}{p:Program}{w:World}{N:Nat}{s0 s1:Shared}(e:fencedOpening tb p w N=some s0)(t:topFrom tb p w N s0=some s1):openEnds tb p w N=some s1:=by
 unfold openEnds
 rw [e]
 exact t
theorem BK{p q:Program}{ls:List Str}{X:Shared→Bool}{α:Type}{Yf:Shared→α}{Ya:World→α}{N:Nat}{g:Bool}{w:World}{s1:Shared}(e:openEnds treeTable p w N=some s1)(a:openSeen q ls (importedModules p.main.body) X g s1=openGood q ls)(b:Yf s1=Ya w):
  (openEnds treeTable p w N).map (fun s=>(openSeen q ls (importedModules p.main.body) X g s,Yf s))=some (openGood q ls,Ya w):=by
 rw [e]
 exact congrArg some (Prod.ext a b)
theorem Ck{K:Params→Frag}{A:List Addr}{e:∀ P,A=(K P).map (·.1)}{s:Shared}{w:World}(h:(K w.params).map (fun p=>s.heap.get? p.1)=(K w.params).map fun p=>some p.2):(kHook K A e).obs s=(kHook K A e).val w:=by
 show A.map s.heap.get?=(K w.params).map fun p=>some p.2
 rw [e w.params,List.map_map]
 exact h
theorem jY:LeftO pw qv uF Xt HK.obs HK.val 14000:=fun w=>by
 obtain ⟨⟨h,gs,d,k,os⟩,e,e'⟩:=Option.map_eq_some_iff.mp (boot_open (p:=pw) (N:=14000) (by kernel_rfl) (by kernel_rfl) (fun s=>by kernel_rfl) w)
 obtain ⟨rfl,rfl,rfl,rfl⟩:h=boot_heap w.params∧gs=Array.mk []∧d=boot_drawn∧k=boot_toks:=by simpa using e'
 obtain ⟨z1,z2,z3⟩:_∧_∧_:=by simpa only [Prod.mk.injEq] using H4 w.params
 obtain ⟨y,N,hN,r0⟩:=KZ w os
 have r:=topRun_mono (14000 - N) _ _ _ _ r0
 rw [show N+(14000 - N)=14000 by omega] at r
 have t:topFrom treeTable pw w 14000 ⟨boot_heap w.params,Array.mk [],boot_drawn,boot_toks,os⟩=some (SF w.params y os):=DV z1 z2 z3 r (H1 w os y)
 exact BK (Cs e t) (H2 w os y) (Ck (H3 w os y))
end
end
section
set_option maxHeartbeats 0
theorem a1:sreFenced pw.main=true:=by
 rw [PySem.W.Fast.te11788848310118352699]
 kernel_rfl
theorem a2:((moduleNames pw.main.body).isEmpty || lookedIntoSs (moduleNames pw.main.body) pw.main.body)=true:=by
 rw [PySem.W.Fast.te9807087744658564304,PySem.W.Fast.te12862048085361865435]
 kernel_rfl
theorem a3:namesResolve pw=true:=by
 rw [PySem.W.Fast.te8377067652309620493]
 kernel_rfl
theorem a4:(pw.boundNames.all fun n=>!worldNames.contains n)=true:=by
 rw [PySem.W.Fast.te18344453789297297638,PySem.W.Fast.te14412699480532031325]
 kernel_rfl
theorem a5:noRoadLSs { strict:=!(importedModules pw.main.body).all cThrough.contains,foot:=none,bare:=(["vars","dir","locals"]:List Str).filter (readsOut pw pw.main.body) } pw.main.body=true:=by
 rw [PySem.W.Fast.te8326940854005059898]
 kernel_rfl
theorem a6:namesMeet pw pw.main.body (fun uu n=>attrL n)=true:=by
 rw [PySem.W.Fast.te17119622794617984870]
 kernel_rfl
theorem Gh:looksOpen pw=true:=by
 unfold looksOpen
 exact look_both (look_both (look_both (look_both (look_both a1 a2) a3) a4) a5) a6
theorem FJ:fI.row.wellSaid=true:=by
 unfold OpenRow.wellSaid OpenRow.partSaid
 refine look_both (look_both (look_both (look_both (look_both (look_both (look_both (look_both (look_both (look_both (look_both (look_both (look_both (look_both (look_both Gh ?_) ?_) ?_) ?_) ?_) ?_) ?_) ?_) ?_) ?_) ?_) ?_) ?_) ?_) ?_
 all_goals
  as_aux_lemma=>
   kernel_rfl
end
section
set_option maxHeartbeats 0
theorem b1:noClassBlock fI.prog fI.footing=true:=by kernel_rfl
theorem b2:noRoadLSs { strict:=true,foot:=some fI.bound',writes:=fI.writes,may:=fI.may } fI.footing=true:=by
 rw [PySem.W.Fast.te8326940854005059898]
 kernel_rfl
theorem b3:fI.namesIt=true:=by kernel_rfl
theorem b4:(fI.bound'.all fun n=>!builtinNamed n || fI.about==[n] || !fI.reads n)=true:=by
 rw [PySem.W.Fast.named_eq]
 kernel_rfl
theorem b5:(namesMeet fI.prog fI.footing (fun sc n=>(!(["type","isinstance","issubclass","getattr","hasattr"]:List Str).contains n || sc.names.lookup n==some .globalImplicit) &&
  (fI.may != some n || sc.kind==.module || sc.names.lookup n==some .globalImplicit)))=true:=by
 rw [PySem.W.Fast.te17119622794617984870]
 kernel_rfl
theorem b6:namesMeet fI.prog fI.above (fun uu n=>!fI.own.contains n)=true:=by
 rw [PySem.W.Fast.te17119622794617984870]
 kernel_rfl
theorem b7:namesMeet fI.prog fI.footing (fun sc n=>sc.kind==.module || sc.names.lookup n != some .globalExplicit)=true:=by
 rw [PySem.W.Fast.te17119622794617984870]
 kernel_rfl
theorem b8:defStands fI.about fI.above=true:=by kernel_rfl
theorem b9:fI.footing.all footLine=true:=by kernel_rfl
theorem Jj:fI.wellSaid=true:=by
 unfold OpenLaw.wellSaid
 refine look_both (look_both (look_both (look_both (look_both (look_both (look_both (look_both (look_both (look_both (look_both (look_both (look_both (look_both (look_both (look_both (look_both (look_both FJ ?_) b9) b1) ?_) ?_) b2) b8) b3) ?_) b4) ?_) ?_) b5) ?_) ?_) ?_) b6) b7
 all_goals
  as_aux_lemma=>
   kernel_rfl
end
section
set_option maxHeartbeats 0
noncomputable abbrev IT:Prop:=WalkO qv uF (fun uu uu1=>True) HK.says fI.row.toRowW nx [] (fun f vs=>PySem.call f vs)
theorem c1:defOf qv fI.row.name=some (nx,[]):=by kernel_rfl
theorem c2:fI.row.prog.theDef fI.row.name=some (nx.params,nx.body,nx.scope):=by kernel_rfl
theorem c3:kwWritten? nx.params.kwonlyargs nx.params.kw_defaults=some []:=by kernel_rfl
theorem c4:(!fI.row.writes || fI.row.records.isEmpty)=true:=by kernel_rfl
theorem c5:(chainsOk qv && opensWell fI.row.prog && (frees fI.row.toRowW && fI.row.within.isEmpty))=true:=by kernel_rfl
theorem c6:pw.tablesWhole=true:=by
 unfold Program.tablesWhole TablesWhole.wProgram
 rw [PySem.W.Fast.te6116379765354995101]
 kernel_rfl
theorem c7:fI.row.toRowW.promised:=⟨[.list []],by kernel_rfl,by kernel_rfl⟩
theorem c8:fI.row.prog.bare:=⟨rfl,rfl,rfl,rfl,rfl,c6⟩
theorem hd(walk:IT):fI.Holds:=
 holds_law Jj fun s=>holds_open (r:=fI.row) jY HK.of HK.keeps (fun uu uu1=>trivial) (fun uu uu1 uu2 uu3 uu4=>trivial) c1 c2 c3 (fun s e=>recFacts_of e) c4 s c5 c8 c7 walk
end
section
set_option maxHeartbeats 400000
structure Kn(w:World)(h:Heap):Prop where
 K:(KF w.params).In h
 b:∃ mb,h.Ns builtinsNs mb∧∀ x:Str,x≠"__name__"→mb x=bootBuiltins x
 nolimit:h.NoLimit
 nodigits:∃ mc,h.Ns cStatics mc∧mc "sys.int_max_str_digits"=none
 code:h.CodeRec (.ref 1168) nx.name
noncomputable abbrev IW:Prop:=∀ (w:World) (s:Shared) (ns:List Int) (vals:List Value) (l:Addr),Kn w s.heap→s.gens=#[]→ns.length≤63→s.heap.get? l=some { cls:=.type "list",data:=.seq vals.toArray }→(l==sysModules)=false→IntsAre vals ns→
 wpAny (model pw w) callerA (call (.ref 1169) [.ref l]) (fun v s'=>v=.bool true∧(∀ b o,s.heap.get? b=some o→s'.heap.get? b=some o)∧s'.os=s.os∧s'.gens=#[]) (fun uu uu1=>False) s
theorem FZ(P:Params):nsIn (KF P) mainGlobals nx.name=some (some (.ref 1169)):=by kernel_rfl
theorem IM(P:Params):codeIn (KF P) (.ref 1168) nx.name=true:=by kernel_rfl
theorem yg(ds:List WData):fI.row.toRowW.claim.post ds (.bool true) ds=true:=by
 show (WShape.has fI.row.records (.bool true) .bool && (WTm.eq .res (.lit (.bool true))).holds fI.row.records ⟨ds,some (.bool true),ds,[]⟩)=true
 have e1:WShape.has fI.row.records (.bool true) .bool=true:=by decide +kernel
 have e2:(WTm.eq .res (.lit (.bool true))).holds fI.row.records ⟨ds,some (.bool true),ds,[]⟩=true:=by
  unfold WTm.holds
  have e3:same (WData.bool true) (WData.bool true)=true:=by decide +kernel
  simp [WTm.value,e3]
 rw [e1,e2];rfl
set_option tactic.hygienic true in
theorem Ay(core:IW):IT:=by
 intro w s₀ s₁ mg mb G Y a o pm cd doc dV kV ho hd hcd hD hmg hg args vals as hpre hlay hrd hwl hlo
 have KX:=kIn_of Y
 refine Ground.open G ?_
 intro T B D TE TW
 have hwl':=hwl
 have hlo':=hlo
 wrow_args hpre hlay hrd hwl hlo
 have ha:a=1169:=by
  have e1:=mg_of KX T.g (FZ w.params)
  rw [hmg] at e1
  cases e1
  rfl
 subst ha
 rename_i ns _ _ _ _ _ _ _ l vs _ hL _ _ r0 hI _ hc _
 have hex:s₁.heap.get? l=some { cls:=.type "list",data:=.seq vs.toArray }:=by
  cases hwl' with
  | cons a _=>
   have a':Well w.params s₁.heap (.ref l) (.list (ofPys (ns.map PyData.int))):=a
   cases a' with
   | list h1 _=>
    obtain ⟨o',e1,_,n,e2⟩:=hL
    rw [h1] at e1
    cases e1
    rw [h1]
    injection e2 with e3 _
    rw [e3]
 have hlm:(l==sysModules)=false:=by
  refine hlo' l (List.mem_append_left _ ?_)
  cases r0
  exact List.mem_cons_self
 refine wpAny_mono (core w s₁ ns vs l ⟨KX,⟨mb,T.b,T.builtins⟩,T.nolimit,T.nodigits,codeRec_of KX (IM w.params)⟩ hg (by omega) hex hlm hI) ?_ (fun uu uu1 x=>x.elim)
 rintro v s' ⟨rfl,hk,hos,hg'⟩
 exact GoodW.toG ⟨.inl ⟨_,.bool true,[],rfl,fun uu=>rfl,.bool true,yg _,unshared_nil⟩,hk,hos,hg'⟩
theorem GK(core:IW):fI.Holds:=hd (Ay core)
end
end Mine.Internal.Hd
namespace Mine.Internal
section
theorem aG{a b:Bool}(h:(a && b)=true):a=true∧b=true:=(Bool.and_eq_true _ _).mp h
theorem aw{α:Type}{a:α}{l:List α}:a∈a::l:=List.mem_cons_self
theorem aE{α:Type}(b:α){a:α}{l:List α}(h:a∈l):a∈b::l:=List.mem_cons_of_mem b h
theorem aJ{α:Type}(l:List α):l <+: l:=List.prefix_refl l
theorem cv{α:Type}{i:Nat}{a:α}{l:List α}(e:l[i]?=some a):∃ h:i < l.length,l[i]=a:=List.getElem?_eq_some_iff.mp e
theorem cn{n m k:Nat}(a:n≤m)(b:m < k):n < k:=Nat.lt_of_le_of_lt a b
theorem bo{α:Type}{a b:α}{l:List α}(h:a∈b::l):a=b∨a∈l:=List.mem_cons.mp h
theorem cV{α:Type}{a b:α}(h:a∈[b]):a=b:=List.mem_singleton.mp h
theorem bR{α β:Type}{b:β}{f:α→β}{l:List α}(h:b∈l.map f):∃ a,a∈l∧f a=b:=List.mem_map.mp h
theorem db{α:Type}{p:α→Bool}{l:List α}(h:l.all p=true):∀ x,x∈l→p x=true:=List.all_eq_true.mp h
theorem cN{α β:Type}{x:Option α}{f:α→Option β}{b:β}(h:x.bind f=some b):∃ a,x=some a∧f a=some b:=Option.bind_eq_some_iff.mp h
theorem cg(n k:Nat):n≤n+k:=Nat.le_add_right n k
theorem f0{n m:Nat}(h:n.ble m=true):n≤m:=Nat.le_of_ble_eq_true h
inductive D where
 | none|bool (b:Bool)|int (i:Int)|str (s:Str)|tup (l:List D)|ref (n:Nat)|rng (a b:Int)
theorem D.int.inj{i j:Int}(e:D.int i=D.int j):i=j:=by cases e;rfl
theorem D.tup.inj{x y:List D}(e:D.tup x=D.tup y):x=y:=by cases e;rfl
mutual
noncomputable def D.eqb:D→D→Bool
 | .none,.none=>true
 | .bool a,.bool b=>a==b
 | .int a,.int b=>a==b
 | .str a,.str b=>a==b
 | .tup a,.tup b=>D.eqbs a b
 | .ref a,.ref b=>a==b
 | .rng a b,.rng c d=>a==c && b==d
 | _,_=>false
noncomputable def D.eqbs:List D→List D→Bool
 | [],[]=>true
 | a::r,b::t=>D.eqb a b && D.eqbs r t
 | _,_=>false
end
noncomputable def D.hkn:Nat→D→Bool
 | _,.int _=>true
 | _,.str _=>true
 | n+1,.tup l=>l.all (D.hkn n)
 | _,_=>false
noncomputable def D.hk(d:D):Bool:=D.hkn 6 d
noncomputable def D.hks(l:List D):Bool:=l.all D.hk
inductive MO where
 | lst (l:List D)|dct (l:List (D×D))|ins (c:Nat) (f:List (Str×D))
abbrev H:=List MO
abbrev L:=Nat→Option D
abbrev CF:=Nat→List D→H→Option (D×H)
abbrev X:=CF→L→H→Option (D×H)
inductive Fl where
 | next|cont|ret (d:D)
abbrev XS:=CF→L→H→Option (Fl×L×H)
abbrev upd(l:L)(i:Nat)(d:D):L:=fun j=>if j=i then some d else l j
noncomputable def bh(k:D):List (D×D)→Option D
 | []=>none
 | (a,b)::r=>if D.eqb a k then some b else bh k r
noncomputable def cL(k v:D):List (D×D)→List (D×D)
 | []=>[(k,v)]
 | (a,b)::r=>if D.eqb a k then (a,v)::r else (a,b)::cL k v r
noncomputable def bp(k:Str):List (Str×D)→Option D
 | []=>none
 | (a,b)::r=>if a==k then some b else bp k r
noncomputable def gy(k:Str)(v:D):List (Str×D)→List (Str×D)
 | []=>[(k,v)]
 | (a,b)::r=>if a==k then (a,v)::r else (a,b)::gy k v r
noncomputable def D.kd:D→Nat
 | .int _=>1
 | .str _=>2
 | .tup _=>3
 | _=>0
noncomputable def cW(n:Nat)(l:List (D×D)):Bool:=l.all fun p=>p.1.kd==n
noncomputable def fE(l:List (D×D)):Bool:=cW 1 l || cW 2 l
noncomputable def sJ(k:D)(l:List (D×D)):Bool:=k.hk && cW k.kd l
noncomputable def ec(k:D):List D→Bool
 | []=>false
 | a::r=>D.eqb a k || ec k r
noncomputable def aS:X:=fun uu uu1 uu2=>none
noncomputable def xk(d:D):X:=fun uu uu1 h=>some (d,h)
noncomputable def xv(i:Nat):X:=fun uu l h=>match l i with|some d=>some (d,h)|none=>none
noncomputable def bd{α β γ:Type}(o:Option (α×γ))(k:α→γ→Option β):Option β:=match o with
 | some (d,h)=>k d h
 | none=>none
noncomputable def x1(a:X)(f:D→H→Option (D×H)):X:=fun c l h=>bd (a c l h) f
noncomputable def x2(a b:X)(f:D→D→H→Option (D×H)):X:=fun c l h=>bd (a c l h) fun d h=>bd (b c l h) (f d)
noncomputable def x3(a b e:X)(f:D→D→D→H→Option (D×H)):X:=fun c l h=>bd (a c l h) fun u h=>bd (b c l h) fun v h=>bd (e c l h) (f u v)
noncomputable def xs(as:List X)(c:CF)(l:L)(h:H):Option (List D×H):=match as with
 | []=>some ([],h)
 | a::r=>bd (a c l h) fun d h=>bd (xs r c l h) fun ds h=>some (d::ds,h)
noncomputable def xl(as:List X)(f:CF→List D→H→Option (D×H)):X:=fun c l h=>bd (xs as c l h) (f c)
noncomputable def new(o:MO)(h:H):Option (D×H):=some (.ref h.length,h++[o])
noncomputable def gG(d:D)(h:H):Option Bool:=match d with
 | .none=>some false
 | .bool b=>some b
 | .int i=>some (i != 0)
 | .str s=>some (s.cps.size != 0)
 | .tup l=>some (!l.isEmpty)
 | .ref n=>(match h[n]? with
  | some (.lst l)=>some (!l.isEmpty)
  | some (.dct l)=>if fE l then some (!l.isEmpty) else none
  | _=>none)
 | .rng _ _=>none
abbrev XT:=CF→L→H→Option (Bool×H)
noncomputable def xt(a:X):XT:=fun c l h=>bd (a c l h) fun d h=>(gG d h).map fun b=>(b,h)
noncomputable def bz(t:XT)(a b:X):X:=fun c l h=>bd (t c l h) fun v h=>bif v then a c l h else b c l h
noncomputable def iu(t:XT):XT:=fun c l h=>bd (t c l h) fun b h=>some (!b,h)
noncomputable def bM(t u:XT):XT:=fun c l h=>bd (t c l h) fun v h=>bif v then u c l h else some (false,h)
noncomputable def dn(t u:XT):XT:=fun c l h=>bd (t c l h) fun v h=>bif v then some (true,h) else u c l h
noncomputable def gE(a b:X):X:=fun c l h=>bd (a c l h) fun d h=>(gG d h).bind fun v=>bif v then b c l h else some (d,h)
noncomputable def tX(a b:X):X:=fun c l h=>bd (a c l h) fun d h=>(gG d h).bind fun v=>bif v then some (d,h) else b c l h
noncomputable def cA(i:Int):Bool:=decide (-(2 ^ 62)≤i∧i < 2 ^ 62)
noncomputable def onI{α:Type}(d:D)(f:Int→Option α):Option α:=match d with|.int i=>f i|_=>none
noncomputable def onS{α:Type}(d:D)(f:Str→Option α):Option α:=match d with|.str i=>f i|_=>none
noncomputable def onT{α:Type}(d:D)(f:List D→Option α):Option α:=match d with|.tup i=>f i|_=>none
noncomputable def onR{α:Type}(d:D)(f:Nat→Option α):Option α:=match d with|.ref i=>f i|_=>none
noncomputable def onL{α:Type}(o:Option MO)(f:List D→Option α):Option α:=match o with|some (.lst l)=>f l|_=>none
noncomputable def onD{α:Type}(o:Option MO)(f:List (D×D)→Option α):Option α:=match o with|some (.dct l)=>f l|_=>none
noncomputable def onO{α:Type}(o:Option MO)(f:Nat→List (Str×D)→Option α):Option α:=match o with|some (.ins C l)=>f C l|_=>none
noncomputable def on1{α:Type}(ds:List D)(f:D→Option α):Option α:=match ds with|[x]=>f x|_=>none
noncomputable def on2{α:Type}(ds:List D)(f:D→D→Option α):Option α:=match ds with|[x,y]=>f x y|_=>none
noncomputable def int2{α:Type}(a b:D)(f:Int→Int→Option α):Option α:=onI a fun i=>onI b fun j=>f i j
noncomputable def ft(o:Operator)(a b:D)(h:H):Option (D×H):=match o with
 | .Add=>(match a with
  | .tup l=>if l.isEmpty then onT b fun m=>some (.tup m,h) else none
  | _=>int2 a b fun i j=>some (.int (i+j),h))
 | .Sub=>int2 a b fun i j=>some (.int (i - j),h)
 | .Mult=>int2 a b fun i j=>if cA i && cA j then some (.int (i * j),h) else none
 | .FloorDiv=>int2 a b fun i j=>if cA i && cA j && j != 0 then some (.int (i.fdiv j),h) else none
 | .Mod=>int2 a b fun i j=>if j != 0 then some (.int (i.fmod j),h) else none
 | .BitAnd=>int2 a b fun i j=>some (.int (Builtin.bitAnd i j),h)
 | .BitOr=>int2 a b fun i j=>some (.int (Builtin.bitOr i j),h)
 | .LShift=>int2 a b fun i j=>if cA i && decide (0≤j∧j < 62) then some (.int (i * 2 ^ j.toNat),h) else none
 | .RShift=>int2 a b fun i j=>if cA i && decide (0≤j∧j < 62) then some (.int (i.fdiv (2 ^ j.toNat)),h) else none
 | _=>none
noncomputable def Aj(o:Operator)(a b:D)(h:H):Option (D×H):=int2 a b fun i j=>ft o (.int i) (.int j) h
noncomputable def pR(a b:D):Option Bool:=match a with
 | .bool x=>(match b with|.bool y=>some (x==y)|_=>none)
 | _=>if a.hk && b.hk then some (D.eqb a b) else none
noncomputable def zo(a c:D)(h:H):Option Bool:=if !a.hk then none else match c with
 | .tup l=>if D.hks l then some (ec a l) else none
 | .ref n=>(match h[n]? with
  | some (.lst l)=>if D.hks l then some (ec a l) else none
  | some (.dct l)=>if sJ a l then some (bh a l).isSome else none
  | _=>none)
 | _=>none
noncomputable def jn(a b:Str):Bool:=decide (a.cps.toList < b.cps.toList)
noncomputable def Bg(a b:D)(f:Int→Int→Bool)(g:Str→Str→Bool):Option Bool:=match a with
 | .int i=>onI b fun j=>some (f i j)
 | .str s=>onS b fun t=>some (g s t)
 | _=>none
noncomputable def isNone{α:Type}(b:D)(v:α):Option α:=match b with|.none=>some v|_=>none
noncomputable def D.isN:D→Bool|.none=>true|_=>false
noncomputable def eF(o:CmpOp)(a b:D)(h:H):Option Bool:=match o with
 | .Eq=>pR a b
 | .NotEq=>(pR a b).map (!·)
 | .Lt=>Bg a b (fun i j=>decide (i < j)) jn
 | .LtE=>Bg a b (fun i j=>decide (i≤j)) fun s t=>!jn t s
 | .Gt=>Bg a b (fun i j=>decide (j < i)) fun s t=>jn t s
 | .GtE=>int2 a b fun i j=>some (decide (j≤i))
 | .Is=>isNone b a.isN
 | .IsNot=>isNone b (!a.isN)
 | .In=>zo a b h
 | .NotIn=>(zo a b h).map (!·)
noncomputable def ac(o:CmpOp)(a b:X):X:=x2 a b fun d e h=>(eF o d e h).map fun r=>(.bool r,h)
noncomputable def iH(o u:CmpOp)(a b e:X):X:=fun c l h=>bd (a c l h) fun x h=>bd (b c l h) fun y h=>(eF o x y h).bind fun v=>bif v then bd (e c l h) fun z h=>(eF u y z h).map fun r=>(.bool r,h) else some (.bool false,h)
noncomputable def tP(i:Int)(n:Nat):Option Nat:=if 0≤i then (if i < n then some i.toNat else none) else if 0≤i+n then some (i+n).toNat else none
noncomputable def KL(s:Str)(k:Nat):Option D:=match s.cps[k]? with
 | some c=>some (.str ⟨#[c]⟩)
 | none=>none
noncomputable def item(a b:D)(h:H):Option (D×H):=match a with
 | .tup l=>onI b fun i=>((tP i l.length).bind fun k=>l[k]?).map fun d=>(d,h)
 | .str s=>onI b fun i=>((tP i s.cps.size).bind fun k=>KL s k).map fun d=>(d,h)
 | .ref n=>(match h[n]? with
  | some (.lst l)=>onI b fun i=>((tP i l.length).bind fun k=>l[k]?).map fun d=>(d,h)
  | some (.dct l)=>if sJ b l then (bh b l).map fun d=>(d,h) else none
  | _=>none)
 | _=>none
noncomputable def tJ(d:D)(dflt:Nat)(n:Nat):Option Nat:=match d with
 | .none=>some dflt
 | .int i=>if 0≤i then some (min i.toNat n) else none
 | _=>none
noncomputable def Fq{α:Type}(l:List α)(a b:Nat):List α:=(l.drop a).take (b - a)
noncomputable def yk(d:D):Option (Option (Int×Tok)):=match d with
 | .none=>some none
 | .int i=>some (some (i,0))
 | _=>none
noncomputable def CC(s:Str)(l u:Option (Int×Tok)):Str:=if ((slicePicked s l u none).length==s.length)=true then s else ⟨((slicePicked s l u none).filterMap (s.cps[·]?)).toArray⟩
noncomputable def aT(a lo hi:D)(h:H):Option (D×H):=match a with
 | .tup l=>if lo.isN then onI hi fun i=>if 0≤i && decide (i < l.length) then some (.tup (l.take i.toNat),h) else none else none
 | .str s=>(yk lo).bind fun x=>(yk hi).bind fun y=>if (CC s x y).cps.size≤1000 then some (.str (CC s x y),h) else none
 | .ref n=>(match h[n]? with
  | some (.lst l)=>(tJ lo 0 l.length).bind fun x=>(tJ hi l.length l.length).bind fun y=>new (.lst (Fq l x y)) h
  | _=>none)
 | _=>none
noncomputable def mB(C:Nat):List String:=
 if C==140 then ["rows","index","decls","bounds","defaults","names","origins","renamed","shaping","putting"]
 else if C==161 then ["did","kind","name","params","body","bases","static","extends_class","abstract","members","variances","busy","at","file","nid"]
 else if C==1008 then ["tab","deep","most_rounds","most_deep","instances","lib"] else []
noncomputable def gh(C:Nat)(f:Str):Bool:=(mB C).any fun x=>Str.ofString x==f
noncomputable def attr(a:D)(f:Str)(h:H):Option (D×H):=onR a fun n=>onO h[n]? fun C fs=>if gh C f then (bp f fs).map fun d=>(d,h) else none
noncomputable def items(d:D)(h:H):Option (List D):=match d with
 | .tup l=>some l
 | .str s=>some (s.cps.toList.map fun c=>.str ⟨#[c]⟩)
 | .ref n=>(match h[n]? with
  | some (.lst l)=>some l
  | some (.dct l)=>if fE l then some (l.map (·.1)) else none
  | _=>none)
 | _=>none
noncomputable def bH(d:D)(h:H):Option (List D):=match d with
 | .tup l=>some l
 | .str s=>some (s.cps.toList.map fun c=>.str ⟨#[c]⟩)
 | .rng a b=>some ((List.range (b - a).toNat).map fun (k:Nat)=>.int (a+k))
 | .ref n=>(match h[n]? with
  | some (.lst l)=>some l
  | some (.dct l)=>if cW 2 l then some (l.map (·.1)) else none
  | _=>none)
 | _=>none
noncomputable def knd(d:D)(h:H):Nat:=match d with
 | .ref n=>(match h[n]? with|some (.lst _)=>1|some (.dct _)=>2|_=>0)
 | _=>0
noncomputable def still(d:D)(xs:List D)(k:Nat)(h:H):Bool:=knd d h==k && (match bH d h with
 | some l=>D.eqbs l xs
 | none=>false)
inductive BI where
 | len|range|sorted|tuple|all|max|min|str|int|dict
noncomputable def wj:D→D→Bool
 | .int a,.int b=>decide (a < b)
 | .str a,.str b=>jn a b
 | _,_=>false
noncomputable def pu(x:D):List D→List D
 | []=>[x]
 | y::r=>if wj y x then y::pu x r else x::y::r
noncomputable def gw(l:List D):List D:=l.foldr pu []
noncomputable def lf(l:List D):Bool:=l.all fun|.int i=>cA i|_=>false
noncomputable def Ja(l:List D):Bool:=l.all fun|.str _=>true|_=>false
noncomputable def eg:D→Int|.int i=>i|_=>0
noncomputable def EN:D→Bool|.bool _=>true|_=>false
noncomputable def tL:D→Bool|.bool b=>b|_=>false
noncomputable def rA(i:Int):Str:=Str.ofString (toString i)
noncomputable def CN(f:Int→Int→Bool)(l:List D)(h:H):Option (D×H):=if lf l && !l.isEmpty then some (.int (l.tail.foldl (fun m x=>if f (eg x) m then eg x else m) (eg (l.headD .none))),h) else none
noncomputable def KN(b:BI)(a:D)(h:H):Option (D×H):=match b with
 | .len=>(match a with
  | .tup l=>some (.int l.length,h)
  | .str s=>some (.int s.cps.size,h)
  | .ref n=>(match h[n]? with
   | some (.lst l)=>some (.int l.length,h)
   | some (.dct l)=>if fE l then some (.int l.length,h) else none
   | _=>none)
  | _=>none)
 | .sorted=>onR a fun n=>onD h[n]? fun l=>if fE l && decide (l.length < 64) then new (.lst (gw (l.map (·.1)))) h else none
 | .tuple=>(match a with
  | .tup l=>some (.tup l,h)
  | .ref n=>onL h[n]? fun l=>some (.tup l,h)
  | _=>none)
 | .all=>onR a fun n=>onL h[n]? fun l=>if l.all EN then some (.bool (l.all tL),h) else none
 | .max=>onR a fun n=>onL h[n]? fun l=>CN (fun i j=>decide (i > j)) l h
 | .min=>onR a fun n=>onL h[n]? fun l=>CN (fun i j=>decide (i < j)) l h
 | .str=>onI a fun i=>if cA i && decide ((rA i).cps.size≤100) then some (.str (rA i),h) else none
 | .int=>onS a fun s=>if s.cps.size≤100 then (PySem.intText? s).map fun n=>(.int n,h) else none
 | .dict=>onR a fun n=>onD h[n]? fun l=>if cW 2 l then new (.dct l) h else none
 | .range=>none
noncomputable def bi(b:BI)(as:List D)(h:H):Option (D×H):=on1 as fun a=>KN b a h
noncomputable def dq(d:D)(h:H):Option (D×H):=onI d fun b=>if cA b && decide (b < 100000) then some (.rng 0 b,h) else none
noncomputable def A8(d e:D)(h:H):Option (D×H):=int2 d e fun a b=>if cA a && cA b && decide (b - a < 100000) then some (.rng a b,h) else none
inductive BM where
 | append|extend|insert|pop|get
noncomputable def oa(k d:D)(l:List (D×D))(h:H):Option (D×H):=if sJ k l then some ((bh k l).getD d,h) else none
noncomputable def bm(m:BM)(a:D)(as:List D)(h:H):Option (D×H):=onR a fun n=>if n==0 then none else match m with
 | .append=>onL h[n]? fun l=>on1 as fun x=>if l.length+1 < 100000 then some (.none,h.set n (.lst (l++[x]))) else none
 | .extend=>onL h[n]? fun l=>on1 as fun x=>onT x fun r=>if l.length+r.length < 100000 then some (.none,h.set n (.lst (l++r))) else none
 | .insert=>onL h[n]? fun l=>on2 as fun i x=>onI i fun i=>if 0≤i && decide (i≤l.length) && decide (l.length+1 < 100000) then some (.none,h.set n (.lst (l.take i.toNat++x::l.drop i.toNat))) else none
 | .pop=>onL h[n]? fun l=>if as.isEmpty then (l.getLast?).map fun d=>(d,h.set n (.lst l.dropLast)) else none
 | .get=>onD h[n]? fun l=>(match as with
  | [k]=>oa k .none l h
  | [k,d]=>oa k d l h
  | _=>none)
noncomputable def setItem(a i v:D)(h:H):Option H:=match a with
 | .ref n=>if n==0 then none else (match h[n]? with
  | some (.lst l)=>onI i fun i=>if 0≤i then (tP i l.length).map fun k=>h.set n (.lst (l.set k v)) else none
  | some (.dct l)=>if sJ i l && decide (l.length+1 < 100000) then some (h.set n (.dct (cL i v l))) else none
  | _=>none)
 | _=>none
noncomputable def setAttr(a:D)(f:Str)(v:D)(h:H):Option H:=onR a fun n=>if n==0 then none else onO h[n]? fun C fs=>if gh C f && decide (fs.length < 20) then some (h.set n (.ins C (gy f v fs))) else none
noncomputable def oj:List D→List (D×D)→Option (List (D×D))
 | .str k::v::r,acc=>oj r (cL (.str k) v acc)
 | [],acc=>some acc
 | _,_=>none
noncomputable def Ga:List (Nat×String×Nat):=[(140,"__init__",123),(140,"put",137),(161,"__init__",158),(1008,"__init__",970),(1008,"force",977),(1008,"shape",991),(1008,"bound",579)]
noncomputable def Gb(C:Nat)(m:String):Option Nat:=(Ga.find? fun p=>p.1==C && p.2.1==m).map (·.2.2)
noncomputable def dT(m:String)(o:X)(as:List X):X:=fun c l h=>bd (o c l h) fun d h=>onR d fun n=>onO h[n]? fun C fs=>if bp (Str.ofString m) fs=none then (Gb C m).bind fun f=>bd (xs as c l h) fun ds h=>c f (.ref n::ds) h else none
noncomputable def kindOf:BM→Nat|.get=>2|_=>1
noncomputable def dB(b:BM)(o:X)(as:List X):X:=fun c l h=>bd (o c l h) fun d h=>if knd d h==kindOf b then bd (xs as c l h) (bm b d) else none
noncomputable def wf(C:Nat)(c:CF)(as:List D)(h:H):Option (D×H):=(Gb C "__init__").bind fun f=>bd (c f (.ref h.length::as) (h++[.ins C []])) fun d h'=>isNone d (.ref h.length,h')
noncomputable def nI(t:Option XT)(c:CF)(l:L)(h:H):Option (Bool×H):=match t with|some t=>t c l h|none=>some (true,h)
noncomputable def dw(chk:H→Bool)(i:Nat)(t:Option XT)(e:X)(c:CF):List D→L→H→List D→Option (List D×H)
 | [],_,h,acc=>if chk h then some (acc,h) else none
 | x::r,l,h,acc=>if chk h then bd (nI t c (upd l i x) h) fun v h=>bif v then bd (e c (upd l i x) h) fun d h=>dw chk i t e c r l h (acc++[d]) else dw chk i t e c r l h acc else none
noncomputable def aN(i:Nat)(it:X)(t:Option XT)(e:X):X:=fun c l h=>bd (it c l h) fun d h=>(bH d h).bind fun ds=>if ds.length < 100000 then bd (dw (still d ds (knd d h)) i t e c ds l h []) fun acc h=>new (.lst acc) h else none
noncomputable def aa:XS:=fun uu l h=>some (.next,l,h)
noncomputable def eM:XS:=fun uu uu1 uu2=>none
noncomputable def bs{α:Type}(o:Option (Fl×L×H))(n:L→H→Option α)(k:L→H→Option α)(r:D→L→H→Option α):Option α:=bd o fun f x=>match f with
 | .next=>n x.1 x.2
 | .cont=>k x.1 x.2
 | .ret d=>r d x.1 x.2
noncomputable def fL(a b:XS):XS:=fun c l h=>bs (a c l h) (b c) (fun l h=>some (.cont,l,h)) fun d l h=>some (.ret d,l,h)
noncomputable def af(e:X):XS:=fun c l h=>bd (e c l h) fun d h=>some (.ret d,l,h)
noncomputable def ui:XS:=fun uu l h=>some (.cont,l,h)
noncomputable def ay(t:XT)(a b:XS):XS:=fun c l h=>bd (t c l h) fun v h=>bif v then a c l h else b c l h
noncomputable def ae(i:Nat)(e:X):XS:=fun c l h=>bd (e c l h) fun d h=>some (.next,upd l i d,h)
noncomputable def bindL(l:L):List Nat→List D→Option L
 | [],[]=>some l
 | i::is,d::ds=>bindL (upd l i d) is ds
 | _,_=>none
noncomputable def iL(is:List Nat)(e:X):XS:=fun c l h=>bd (e c l h) fun d h=>onT d fun ds=>(bindL l is ds).map fun l=>(.next,l,h)
noncomputable def bn(e:X):XS:=fun c l h=>bd (e c l h) fun uu h=>some (.next,l,h)
noncomputable def bB(e a i:X):XS:=fun c l h=>bd (e c l h) fun v h=>bd (a c l h) fun x h=>bd (i c l h) fun k h=>(setItem x k v h).map fun h=>(.next,l,h)
noncomputable def bx(e a:X)(f:Str):XS:=fun c l h=>bd (e c l h) fun v h=>bd (a c l h) fun x h=>(setAttr x f v h).map fun h=>(.next,l,h)
noncomputable def bC(chk:H→Bool)(i:Nat)(body:XS)(c:CF):List D→L→H→Option (Fl×L×H)
 | [],l,h=>if chk h then some (.next,l,h) else none
 | x::r,l,h=>if chk h then bs (body c (upd l i x) h) (bC chk i body c r) (bC chk i body c r) fun d l h=>some (.ret d,l,h) else none
noncomputable def bO(i:Nat)(it:X)(body:XS):XS:=fun c l h=>bd (it c l h) fun d h=>(bH d h).bind fun ds=>if ds.length < 100000 then bC (still d ds (knd d h)) i body c ds l h else none
noncomputable def xu(t:XT)(body:XS)(c:CF):Nat→L→H→Option (Fl×L×H)
 | 0,_,_=>none
 | n+1,l,h=>bd (t c l h) fun v h=>bif v then bs (body c l h) (xu t body c n) (xu t body c n) fun d l h=>some (.ret d,l,h) else some (.next,l,h)
noncomputable def oJ(t:XT)(body:XS):XS:=fun c l h=>xu t body c 2000 l h
inductive GV where
 | c (d:D)|fn (a:Nat)|cls (a:Nat)|bi (b:BI)|tab (l:List (D×D))
end
noncomputable abbrev ki(i:Int):X:=xk (.int i)
section
abbrev G:=List (Str×Nat)
noncomputable def look(x:Str):G→Option Nat
 | []=>none
 | (a,i)::r=>if a==x then some i else look x r
noncomputable def KM:List (String×BI):=[("len",.len),("range",.range),("sorted",.sorted),("tuple",.tuple),("all",.all),("max",.max),("min",.min),("str",.str),("int",.int),("dict",.dict)]
noncomputable def Ff:List (String×BM):=[("append",.append),("extend",.extend),("insert",.insert),("pop",.pop),("get",.get)]
noncomputable def Je:List String:=["put","force","shape","bound"]
noncomputable def iF{α:Type}(x:Str):List (String×α)→Option α
 | []=>none
 | (a,b)::r=>if Str.ofString a==x then some b else iF x r
noncomputable def sF(t:String)(o:Obj):Bool:=o.cls==.type t && (o.dict.isNone && o.slots.isEmpty)
noncomputable def CT(o:Option Obj):Option (Array Value):=o.bind fun o=>match o.data with
 | .seq xs _=>if sF "tuple" o then some xs else none
 | _=>none
noncomputable def DO(o:Obj):Option (Array DictEntry):=match o.data with
 | .dict es _=>if sF "dict" o then some es else none
 | _=>none
noncomputable def jr(P:Params):Nat→Value→Option D
 | 0,_=>none
 | n+1,v=>match v with
  | .int i _=>some (.int i)
  | .str s _=>if s.cps.size≤1000 then some (.str s) else none
  | .ref a=>(CT ((KF P).lookup a)).bind fun xs=>if xs.size < 1000 then (xs.toList.mapM (jr P n)).map .tup else none
  | _=>none
noncomputable def ye(P:Params)(n:Nat)(e:DictEntry):Option (D×D):=(jr P n e.key).bind fun a=>(jr P n e.val).map fun b=>(a,b)
noncomputable def CW(a:Nat)(es:Array DictEntry):Bool:=a != sysModules && es.toList.all fun e=>match e.key with
 | .int i _=>e.hash==hashInt i
 | _=>false
noncomputable def FN(P:Params)(a:Nat)(o:Obj):Option GV:=match o.data with
 | .func _=>some (.fn a)
 | .cls _=>if keepIn (KF P) (.ref a) then some (.cls a) else none
 | .dict _ _=>(DO o).bind fun es=>if CW a es then (es.toList.mapM (ye P 5)).map .tab else none
 | _=>(jr P 8 (.ref a)).map .c
noncomputable def C0(P:Params)(v:Value):Option GV:=match v with
 | .ref a=>((KF P).lookup a).bind (FN P a)
 | v=>(jr P 8 v).map .c
noncomputable def jy(x:Str):List (String×Nat×Value)→Option Value
 | []=>none
 | (a,_,v)::r=>if Str.ofString a==x then some v else jy x r
noncomputable def gv(P:Params)(x:Str):Option GV:=match jy x tC with
 | some v=>C0 P v
 | none=>(iF x KM).map .bi
noncomputable def E7(f:List D→D)(ds:List D)(h:H):Option (D×H):=if ds.length < 1000 then some (f ds,h) else none
noncomputable def zV(ds:List D)(h:H):Option (D×H):=if ds.length < 1000 then new (.lst ds) h else none
noncomputable def u0(ds:List D)(h:H):Option (D×H):=if ds.length < 1000 then (oj ds []).bind fun kvs=>new (.dct kvs) h else none
noncomputable def AA(l:List (D×D))(as:List D)(h:H):Option (D×H):=on2 as fun k d=>onI k fun k=>some ((bh (.int k) l).getD d,h)
noncomputable def IJ:Const→Option D
 | .none=>some .none
 | .bool b=>some (.bool b)
 | .int i=>some (.int i)
 | .str s=>if s.cps.size≤1000 then some (.str s) else none
 | _=>none
noncomputable def mx:G→Nat
 | []=>0
 | (_,i)::r=>max (i+1) (mx r)
noncomputable def Cf(sc:Scope)(x:Str):Bool:=match sc.names.lookup x with
 | some .cell|some .free=>true
 | _=>false
noncomputable def fH(sc:Scope)(x:Str):Bool:=match sc.names.lookup x with
 | some .local|some .cell=>true
 | _=>false
noncomputable def bG:Expr→Bool
 | .Starred ..=>false
 | _=>true
noncomputable def gq:Expr→Option (Option Expr×Option Expr×Option Expr)
 | .Slice a b c _=>some (a,b,c)
 | _=>none
noncomputable def eY:Expr→Option Str
 | .Name x _=>some x
 | _=>none
noncomputable def xA(f:Expr→X)(es:List Expr):List X:=if es.all bG then es.map f else [aS]
noncomputable def xP(f:Expr→X):Option Expr→X
 | none=>xk .none
 | some e=>f e
noncomputable def DU(f:Expr→X)(a i:Expr):X:=match gq i with
 | none=>x2 (f a) (f i) item
 | some (lo,hi,st)=>if (eY a).isSome && st.isNone then x3 (f a) (xP f lo) (xP f hi) aT else aS
noncomputable def ut:Expr→Bool
 | .ListComp ..=>false
 | _=>true
noncomputable def cG:Expr→Bool
 | .Set ..=>false
 | _=>true
noncomputable def jb(sc sc':Scope)(x:Str)(it:Expr):Bool:=
 sc'.kind==.function && sc'.names.lookup x==some .local && cG it
 && sc'.names.all fun p=>p.2 != .cell && (p.2 != .local || sc'.names.lookup p.1==some .local) && (p.2 != .free || Cf sc p.1)
noncomputable def eE(sc':Scope)(x:Str)(g:G):G:=(x,mx g)::g.filter fun p=>sc'.names.lookup p.1==some .free && !(p.1==x)
noncomputable def hH:Expr→Bool
 | .Call (.Name _ _) [] [] _=>false
 | _=>true
noncomputable def pU(es:List Expr):Expr→Bool
 | .Tuple vs _ _=>vs.all (foldedForSure 8) || !vs.all (constantsAlone 8)
 | .ListComp ..|.SetComp ..|.DictComp ..=>false
 | _=>!es.isEmpty
noncomputable def vX(xs:List (Option Expr)):Option (List Expr):=xs.mapM id
noncomputable def ml:List X→List X→List X
 | a::r,b::t=>a::b::ml r t
 | _,_=>[]
noncomputable def qZ(sc:Scope)(x:Str):Bool:=(match sc.names.lookup x with
 | some .local|some .cell|some .free=>true
 | _=>false) && (!(x==("__debug__":Str)) && !(x==("__classdict__":Str)))
noncomputable def glob(gv:Str→Option GV)(sc:Scope)(x:Str):Option GV:=if sc.names.lookup x=some .globalImplicit∧(x==("__debug__":Str))=false then gv x else none
noncomputable def tR:Expr→Option (Str×List Expr)
 | .Call (.Name x _) as [] _=>some (x,as)
 | _=>none
noncomputable def pj:Option GV→Bool
 | some (.bi .range)=>true
 | _=>false
noncomputable def yb(f:Expr→X):List Expr→X
 | [a]=>if bG a then x1 (f a) dq else aS
 | [a,b]=>if bG a && bG b then x2 (f a) (f b) A8 else aS
 | _=>aS
noncomputable def cI(f:Expr→X)(gv:Str→Option GV)(sc:Scope)(g:G)(e:Expr):X:=match tR e with
 | some y=>if (look y.1 g).isNone && pj (glob gv sc y.1) then yb f y.2 else f e
 | none=>f e
mutual
noncomputable def cE(gv:Str→Option GV):Nat→Scope→G→Expr→X
 | 0,_,_,_=>aS
 | n+1,sc,g,e=>match e with
  | .Constant c _ _=>(match IJ c with|some d=>xk d|none=>aS)
  | .Name x _=>(match look x g,qZ sc x with
   | some i,true=>xv i
   | none,false=>(match glob gv sc x with
    | some (.c d)=>xk d
    | _=>aS)
   | _,_=>aS)
  | .BoolOp op [a,b] _=>(match op with
   | .And=>gE (cE gv n sc g a) (cE gv n sc g b)
   | .Or=>tX (cE gv n sc g a) (cE gv n sc g b))
  | .BoolOp op [a,b,c] _=>(match op with
   | .And=>gE (cE gv n sc g a) (gE (cE gv n sc g b) (cE gv n sc g c))
   | .Or=>tX (cE gv n sc g a) (tX (cE gv n sc g b) (cE gv n sc g c)))
  | .BinOp a o b _=>x2 (cE gv n sc g a) (cE gv n sc g b) (ft o)
  | .UnaryOp .USub a _=>x1 (cE gv n sc g a) fun d h=>onI d fun i=>some (.int (-i),h)
  | .UnaryOp .Invert a _=>x1 (cE gv n sc g a) fun d h=>onI d fun i=>some (.int (Builtin.bitNot i),h)
  | .UnaryOp .Not a _=>x1 (cE gv n sc g a) fun d h=>(gG d h).map fun b=>(.bool (!b),h)
  | .IfExp t a b _=>bz (cT gv n sc g t) (cE gv n sc g a) (cE gv n sc g b)
  | .Tuple es _ _=>xl (xA (cE gv n sc g) es) fun uu=>E7 .tup
  | .List es _=>xl (xA (cE gv n sc g) es) fun uu=>zV
  | .Dict [] [] _=>fun uu uu1 h=>new (.dct []) h
  | .Dict ks vs _=>(match vX ks with
   | some ks=>if ks.length != vs.length || decide (15 < ks.length) || ks.isEmpty then aS else xl (ml (ks.map (cE gv n sc g)) (vs.map (cE gv n sc g))) fun uu=>u0
   | none=>aS)
  | .Compare a [o] [b] _=>if cG b then ac o (cE gv n sc g a) (cE gv n sc g b) else aS
  | .Compare a [o,u] [b,c] _=>if cG b && cG c then iH o u (cE gv n sc g a) (cE gv n sc g b) (cE gv n sc g c) else aS
  | .Subscript a i _=>DU (cE gv n sc g) a i
  | .Attribute a f _=>if hH a then x1 (cE gv n sc g a) fun d=>attr d f else aS
  | .Call (.Name x _) as [] _=>(match look x g with
   | some _=>aS
   | none=>match glob gv sc x with
    | some (.fn a)=>xl (xA (cE gv n sc g) as) fun c=>c a
    | some (.cls a)=>xl (xA (cE gv n sc g) as) fun c=>wf a c
    | some (.bi .range)=>aS
    | some (.bi b)=>xl (xA (cE gv n sc g) as) fun uu=>bi b
    | _=>aS)
  | .Call (.Attribute o m ap) as [] p=>if hH o && ap.endLine==p.line && decide (as.length < 20) then (match iF m Ff with
   | some b=>(match (match o with|.Name x _=>(match look x g with|none=>glob gv sc x|some _=>none)|_=>none) with
    | some (.tab l)=>(match b with
     | .get=>xl (xA (cE gv n sc g) as) fun uu=>AA l
     | _=>aS)
    | _=>dB b (cE gv n sc g o) (xA (cE gv n sc g) as))
   | none=>match Je.find? (fun u=>Str.ofString u==m) with
    | some u=>dT u (cE gv n sc g o) (xA (cE gv n sc g) as)
    | none=>aS) else aS
  | .ListComp elt [⟨.Name x _,it,ifs,0⟩] sc' _=>if jb sc sc' x it then (match ifs with
   | []=>aN (mx g) (cI (cE gv n sc g) gv sc g it) none (cE gv n sc' (eE sc' x g) elt)
   | [t]=>aN (mx g) (cI (cE gv n sc g) gv sc g it) (some (cT gv n sc' (eE sc' x g) t)) (cE gv n sc' (eE sc' x g) elt)
   | _=>aS) else aS
  | _=>aS
noncomputable def cT(gv:Str→Option GV):Nat→Scope→G→Expr→XT
 | 0,_,_,_=>fun uu uu1 uu2=>none
 | n+1,sc,g,e=>match e with
  | .UnaryOp .Not a _=>iu (cT gv n sc g a)
  | .BoolOp .And [a,b] _=>bM (cT gv n sc g a) (cT gv n sc g b)
  | .BoolOp .And [a,b,c] _=>bM (cT gv n sc g a) (bM (cT gv n sc g b) (cT gv n sc g c))
  | .BoolOp .Or [a,b] _=>dn (cT gv n sc g a) (cT gv n sc g b)
  | .BoolOp .Or [a,b,c] _=>dn (cT gv n sc g a) (dn (cT gv n sc g b) (cT gv n sc g c))
  | .IfExp _ _ _ _=>fun uu uu1 uu2=>none
  | e=>xt (cE gv n sc g e)
end
noncomputable def names(sc:Scope)(g:G):List Expr→Option (List Nat)
 | []=>some []
 | e::r=>(eY e).bind fun x=>(look x g).bind fun i=>if fH sc x then (names sc g r).map (i::·) else none
noncomputable def cS(gv:Str→Option GV):Nat→Scope→G→List Stmt→XS
 | 0,_,_,_=>eM
 | _,_,_,[]=>aa
 | n+1,sc,g,s::r=>fL (match s with
  | .Return (some e) _=>af (cE gv n sc g e)
  | .Return none _=>af (xk .none)
  | .Continue _=>ui
  | .Pass _=>aa
  | .If t a b _=>ay (cT gv n sc g t) (cS gv n sc g a) (cS gv n sc g b)
  | .For (.Name x _) it b [] _=>(match look x g,fH sc x && cG it with
   | some i,true=>bO i (cI (cE gv n sc g) gv sc g it) (cS gv n sc g b)
   | _,_=>eM)
  | .While t b [] _=>oJ (cT gv n sc g t) (cS gv n sc g b)
  | .Assign [.Name x _] e _=>(match look x g,fH sc x with
   | some i,true=>ae i (cE gv n sc g e)
   | _,_=>eM)
  | .Assign [.Tuple es _ _] e _=>(match names sc g es,pU es e with
   | some is,true=>iL is (cE gv n sc g e)
   | _,_=>eM)
  | .Assign [.Attribute o f _] e _=>bx (cE gv n sc g e) (cE gv n sc g o) f
  | .Assign [.Subscript o i _] e _=>if (gq i).isNone then bB (cE gv n sc g e) (cE gv n sc g o) (cE gv n sc g i) else eM
  | .AugAssign (.Name x _) o e _=>(match look x g,fH sc x with
   | some i,true=>ae i (x2 (xv i) (cE gv n sc g e) (Aj o))
   | _,_=>eM)
  | .Expr e _=>if ut e then bn (cE gv n sc g e) else eM
  | _=>eM) (cS gv n sc g r)
noncomputable def cY(args:Arguments)(sc:Scope):List Str:=
 let ps:=args.args.map (·.arg)
 ps++((sc.names.filter fun x=>(x.2==.local || x.2==.cell) && !ps.contains x.1).map (·.1))
structure Fn where
 n:Nat
 ds:List D
 body:XS
noncomputable def jU:List Str→Bool
 | []=>true
 | x::r=>!r.contains x && jU r
noncomputable def zH(P:Params)(fd:FuncData):Bool:=
 let ps:=fd.params.args.map (·.arg)
 fd.params.posonlyargs.isEmpty && fd.params.kwonlyargs.isEmpty && fd.params.vararg.isNone && fd.params.kwarg.isNone && fd.closure.isEmpty && !fd.scope.isCoroutine && !fd.scope.isGenerator
 && fd.scope.kind==.function && fd.globals==mainGlobals && fd.builtins==builtinsNs && codeIn (KF P) fd.code fd.qualname && jU ps && ps.all (fH fd.scope)
 && jU (cY fd.params fd.scope)
 && fd.scope.names.all fun p=>p.2 != .free && (p.2 != .cell || fd.scope.names.lookup p.1==some .cell)
noncomputable def dflt(P:Params)(v:Value):Option (List D):=match v with
 | .none=>some []
 | .ref T=>(jr P 5 (.ref T)).bind fun d=>onT d some
 | _=>none
noncomputable def ua:FuncBody→Option (List Stmt)
 | .stmts b=>some b
 | _=>none
noncomputable def zE(o:Obj):Option FuncData:=match o.data with
 | .func fd=>some fd
 | _=>none
noncomputable def wC(P:Params)(a:Nat):Option Fn:=((KF P).lookup a).bind fun o=>(zE o).bind fun fd=>(ua fd.body).bind fun b=>if zH P fd then (dflt P fd.defaults).bind fun ds=>
 if ds.length≤fd.params.args.length then some ⟨fd.params.args.length,ds,cS (gv P) 60 fd.scope (cY fd.params fd.scope).zipIdx b⟩ else none else none
noncomputable def wE(n:Nat)(as ds:List D):Option (List D):=if as.length≤n∧n≤as.length+ds.length then some (as++ds.drop (as.length+ds.length - n)) else none
noncomputable def ab(P:Params):Nat→CF
 | 0,_,_,_=>none
 | d+1,a,as,h=>(wC P a).bind fun f=>(wE f.n as f.ds).bind fun as=>bs (f.body (ab P d) (fun i=>as[i]?) h) (fun uu h=>some (.none,h)) (fun uu uu1=>none) fun v uu h=>some (v,h)
noncomputable def Eb(P:Params)(ns:List Int):Option (D×H):=ab P 30 1169 [.ref 0] [.lst (ns.map .int)]
end
section
noncomputable abbrev sq:=fL
noncomputable abbrev q(s:String):Str:=Str.ofString s
noncomputable abbrev xb(o:Operator)(a b:X):X:=x2 a b (ft o)
noncomputable abbrev bW(a:X):X:=x1 a fun d h=>onI d fun i=>some (.int (-i),h)
noncomputable abbrev Au(a:X):X:=x1 a fun d h=>onI d fun i=>some (.int (Builtin.bitNot i),h)
noncomputable abbrev KS(a:X):X:=x1 a fun d h=>(gG d h).map fun b=>(.bool (!b),h)
noncomputable abbrev am(as:List X):X:=xl as fun uu=>E7 .tup
noncomputable abbrev br(as:List X):X:=xl as fun uu=>zV
noncomputable abbrev Fx(as:List X):X:=xl as fun uu=>u0
noncomputable abbrev cu:X:=fun uu uu1 h=>new (.dct []) h
noncomputable abbrev xi(a b:X):X:=x2 a b item
noncomputable abbrev xa(f:Str)(a:X):X:=x1 a fun d=>attr d f
noncomputable abbrev xf(n:Nat)(as:List X):X:=xl as fun c=>c n
noncomputable abbrev xc(n:Nat)(as:List X):X:=xl as fun c=>wf n c
noncomputable abbrev dC(b:BI)(as:List X):X:=xl as fun uu=>bi b
noncomputable abbrev Jc(l:List (D×D))(as:List X):X:=xl as fun uu=>AA l
noncomputable abbrev Ji(o:Operator)(i:Nat)(e:X):XS:=ae i (x2 (xv i) e (Aj o))
noncomputable abbrev KT:XT:=fun uu uu1 uu2=>none
noncomputable def H5:XS:=(sq (bx (br []) (xv 0) (q "rows")) (sq (bx cu (xv 0) (q "index")) (sq (bx (br [(xk .none)]) (xv 0) (q "decls")) (sq (bx (br []) (xv 0) (q "bounds")) (sq (bx (br []) (xv 0) (q "defaults")) (sq (bx (br []) (xv 0) (q "names")) (sq (bx cu (xv 0) (q "origins")) (sq (bx cu (xv 0) (q "renamed")) (sq (bx (ki 0) (xv 0) (q "shaping")) (sq (bx (ki 0) (xv 0) (q "putting")) (sq (bO 1 (xk (.tup [(.tup [(.int 1),(.str (q "any"))]),(.tup [(.int 1),(.str (q "unknown"))]),(.tup [(.int 1),(.str (q "never"))]),(.tup [(.int 1),(.str (q "void"))]),(.tup [(.int 1),(.str (q "undefined"))]),(.tup [(.int 1),(.str (q "null"))]),(.tup [(.int 1),(.str (q "string"))]),(.tup [(.int 1),(.str (q "number"))]),(.tup [(.int 2),(.int 0),(.int 0)]),(.tup [(.int 2),(.int 1),(.int 0)]),(.tup [(.int 1),(.str (q "object"))]),(.tup [(.int 8),(.tup []),(.tup []),(.tup []),(.tup []),(.tup []),(.int 0)]),(.tup [(.int 6),(.tup [(.int 8),(.int 9)])]),(.tup [(.int 1),(.str (q "error"))]),(.tup [(.int 2),(.int 0),(.int 1)]),(.tup [(.int 2),(.int 1),(.int 1)])])) (sq (bn (dT "put" (xv 0) [(xv 1)])) aa)) aa)))))))))))
noncomputable def H0:XS:=(sq (ay (xt (ac .In (xv 1) (xa (q "index") (xv 0)))) (sq (af (xi (xa (q "index") (xv 0)) (xv 1))) aa) aa) (sq (ae 2 (dC .len [(xa (q "rows") (xv 0))])) (sq (bn (dB .append (xa (q "rows") (xv 0)) [(xv 1)])) (sq (bB (xv 2) (xa (q "index") (xv 0)) (xv 1)) (sq (af (xv 2)) aa)))))
noncomputable def HZ:XS:=(sq (bx (xv 1) (xv 0) (q "did")) (sq (bx (xv 2) (xv 0) (q "kind")) (sq (bx (xv 3) (xv 0) (q "name")) (sq (bx (am []) (xv 0) (q "params")) (sq (bx (bW (ki 1)) (xv 0) (q "body")) (sq (bx (am []) (xv 0) (q "bases")) (sq (bx (bW (ki 1)) (xv 0) (q "static")) (sq (bx (ki 0) (xv 0) (q "extends_class")) (sq (bx (xk (.bool false)) (xv 0) (q "abstract")) (sq (bx (br []) (xv 0) (q "members")) (sq (bx (br []) (xv 0) (q "variances")) (sq (bx (ki 0) (xv 0) (q "busy")) (sq (bx (ki 0) (xv 0) (q "at")) (sq (bx (xk (.str (q ""))) (xv 0) (q "file")) (sq (bx (ki 0) (xv 0) (q "nid")) aa)))))))))))))))
noncomputable def HY:XS:=(sq (af (xi (xi (xa (q "rows") (xv 0)) (xv 1)) (ki 0))) aa)
noncomputable def HX:XS:=(sq (af (dT "put" (xv 0) [(am [(ki 3),(xv 1),(xv 2)])])) aa)
noncomputable def HW:XS:=(sq (af (dT "put" (xv 0) [(am [(ki 4),(xv 1),(xv 2)])])) aa)
noncomputable def HV:XS:=(sq (af (dT "put" (xv 0) [(am [(ki 9),(xv 1),(dC .tuple [(xv 2)])])])) aa)
noncomputable def HU:XS:=(sq (ae 1 cu) (sq (bO 2 (xv 0) (sq (bB (xv 2) (xv 1) (xi (xv 2) (ki 0))) aa)) (sq (af (dC .tuple [(aN 3 (dC .sorted [(xv 1)]) none (xi (xv 1) (xv 3)))])) aa)))
noncomputable def HS:XS:=(sq (af (dT "put" (xv 0) [(am [(ki 8),(xf 200 [(xv 1)]),(dC .tuple [(xv 2)]),(dC .tuple [(xv 3)]),(xv 4),(xv 5),(xv 6)])])) aa)
noncomputable def HR:XS:=(sq (ae 3 (xc 161 [(dC .len [(xa (q "decls") (xv 0))]),(xv 1),(xv 2)])) (sq (bn (dB .append (xa (q "decls") (xv 0)) [(xv 3)])) (sq (af (xv 3)) aa)))
noncomputable def HQ:XS:=(sq (ay (xt (ac .Eq (xv 1) (ki 2))) (sq (af (am [])) aa) aa) (sq (ae 2 (xi (xa (q "rows") (xv 0)) (xv 1))) (sq (ay (xt (ac .Eq (xi (xv 2) (ki 0)) (ki 6))) (sq (af (xi (xv 2) (ki 1))) aa) aa) (sq (af (am [(xv 1)])) aa))))
noncomputable def HP:XS:=(sq (ae 1 (xi (xv 0) (ki 0))) (sq (ay (dn (xt (ac .Eq (xv 1) (ki 3))) (xt (ac .Eq (xv 1) (ki 18)))) (sq (af (ki 6)) aa) aa) (sq (ay (xt (ac .Eq (xv 1) (ki 4))) (sq (af (ki 7)) aa) aa) (sq (ay (xt (ac .Eq (xv 1) (ki 5))) (sq (af (bz (xt aS) (ki 6) (ki 7))) aa) aa) (sq (af (bW (ki 1))) aa)))))
noncomputable def HO:XS:=(sq (ae 2 (xi (xa (q "rows") (xv 0)) (xv 1))) (sq (ay (bM (xt (ac .In (xi (xv 2) (ki 0)) (xk (.tup [(.int 2),(.int 3),(.int 4),(.int 5),(.int 8)])))) (xt (ac .Eq (xi (xv 2) (bW (ki 1))) (ki 1)))) (sq (af (dB .get (xa (q "index") (xv 0)) [(xb .Add (x3 (xv 2) (xk .none) (bW (ki 1)) aT) (am [(ki 0)])),(bW (ki 1))])) aa) aa) (sq (af (bW (ki 1))) aa)))
noncomputable def HN:XS:=(sq (ay (bM (dn (xt (ac .In (ki 8) (xv 0))) (xt (ac .In (ki 14) (xv 0)))) (dn (xt (ac .In (ki 9) (xv 0))) (xt (ac .In (ki 15) (xv 0))))) (sq (bB (ki 1) (xv 0) (ki 8)) (sq (bB (ki 1) (xv 0) (ki 9)) aa)) aa) aa)
noncomputable def HM:XS:=(sq (ay (xt (ac .In (xf 247 [(xv 0),(xv 2)]) (xv 1))) (sq (af (xk (.bool false))) aa) aa) (sq (af (ac .NotIn (xf 240 [(xi (xa (q "rows") (xv 0)) (xv 2))]) (xv 1))) aa))
noncomputable def HL:XS:=(sq (bO 1 (am [(ki 0),(ki 13),(ki 1)]) (sq (ay (xt (ac .In (xv 1) (xv 0))) (sq (af (xv 1)) aa) aa) aa)) (sq (af (bW (ki 1))) aa))
noncomputable def HJ:XS:=(sq (ae 2 cu) (sq (bO 3 (xv 1) (sq (bO 4 (xf 233 [(xv 0),(xv 3)]) (sq (bB (ki 1) (xv 2) (xv 4)) aa)) aa)) (sq (ae 5 (xf 268 [(xv 2)])) (sq (ay (xt (ac .GtE (xv 5) (ki 0))) (sq (af (xv 5)) aa) aa) (sq (bn (xf 254 [(xv 2)])) (sq (ae 6 (aN 7 (dC .sorted [(xv 2)]) (some (xt (xf 261 [(xv 0),(xv 2),(xv 7)]))) (xv 7))) (sq (ay (iu (xt (xv 6))) (sq (af (ki 2)) aa) aa) (sq (ay (xt (ac .Eq (dC .len [(xv 6)]) (ki 1))) (sq (af (xi (xv 6) (ki 0))) aa) aa) (sq (ay (xt (ac .Gt (dC .len [(xv 6)]) (ki 400))) (sq eM aa) aa) (sq (af (dT "put" (xv 0) [(am [(ki 6),(dC .tuple [(xv 6)])])])) aa))))))))))
noncomputable def HI:XS:=(sq (af (xf 273 [(xv 0),(am [(xv 1),(ki 4)])])) aa)
noncomputable def HH:XS:=(sq (af (ac .In (xi (xi (xa (q "rows") (xv 0)) (xv 1)) (ki 0)) (xk (.tup [(.int 2),(.int 3),(.int 4),(.int 5)])))) aa)
noncomputable def HG:XS:=(sq (af (tX (ac .Eq (xv 1) (ki 4)) (tX (ac .Eq (xv 1) (ki 5)) (xf 287 [(xv 0),(xv 1)])))) aa)
noncomputable def HF:XS:=(sq (ae 2 (xi (xa (q "rows") (xv 0)) (xv 1))) (sq (af (gE (ac .In (xi (xv 2) (ki 0)) (xk (.tup [(.int 2),(.int 3),(.int 4),(.int 5),(.int 8)]))) (ac .Eq (xi (xv 2) (bW (ki 1))) (ki 1)))) aa))
noncomputable def HE:XS:=(sq (ay (xt (xf 301 [(xv 0),(xv 1)])) (sq (af (dT "put" (xv 0) [(xb .Add aS (am [(ki 0)]))])) aa) aa) (sq (af (xv 1)) aa))
noncomputable def HD:XS:=(sq (ae 2 (ki 0)) (sq (bO 3 (xv 1) (sq (ae 4 (xf 327 [(xv 0),(xv 3)])) (sq (ay (bM (xt (ac .NotEq (xv 4) (ki 0))) (xt (ac .NotEq (xv 4) (ki 7)))) (sq (af (xv 4)) aa) aa) (sq (ay (bM (xt (ac .Eq (xv 4) (ki 7))) (xt (ac .NotEq (xv 3) (ki 11)))) (sq (ae 2 (ki 7)) aa) aa) aa)))) (sq (af (xv 2)) aa)))
noncomputable def HC:XS:=(sq (ae 2 (xi (xa (q "rows") (xv 0)) (xv 1))) (sq (ae 3 (xi (xv 2) (ki 0))) (sq (ay (xt (ac .Eq (xv 3) (ki 1))) (sq (af (Jc [((.int 3),(.int 6)),((.int 4),(.int 5)),((.int 5),(.int 4)),((.int 6),(.int 1)),((.int 7),(.int 2)),((.int 10),(.int 7))] [(xv 1),(ki 0)])) aa) aa) (sq (ay (xt (ac .Eq (xv 3) (ki 2))) (sq (af (ki 3)) aa) aa) (sq (ay (xt (ac .In (xv 3) (xk (.tup [(.int 8),(.int 9),(.int 11),(.int 12),(.int 13)])))) (sq (af (ki 7)) aa) aa) (sq (ay (xt (ac .Eq (xv 3) (ki 6))) (sq (af aS) aa) aa) (sq (ay (xt (ac .Eq (xv 3) (ki 7))) (sq (af (xf 320 [(xv 0),(xi (xv 2) (ki 1))])) aa) aa) (sq (ae 4 (xf 240 [(xv 2)])) (sq (ay (xt (ac .Lt (xv 4) (ki 0))) (sq (af (ki 0)) aa) aa) (sq (af (bz (xt (ac .Eq (xv 4) (ki 6))) (ki 1) (ki 2))) aa))))))))))
noncomputable def HB:XS:=(sq (af (tX (ac .Eq (xv 0) (ki 4)) (tX (ac .Eq (xv 0) (ki 5)) (ac .Eq (xv 0) (ki 6))))) aa)
noncomputable def HA:XS:=(sq (ay (bM (xt (ac .Eq (xv 2) (ki 5))) (xt (ac .Eq (xv 3) (ki 6)))) (sq (af (ki 1)) aa) aa) (sq (ay (bM (xt (ac .Eq (xv 2) (ki 6))) (xt (ac .Eq (xv 3) (ki 5)))) (sq (af (ki 2)) aa) aa) (sq (af (ki 0)) aa)))
noncomputable def Hz:XS:=(sq (ay (xt (ac .NotEq (xv 3) (xv 4))) (sq (af (ki 0)) aa) aa) (sq (ay (bM (xt (xf 294 [(xv 0),(xv 1)])) (xt (xf 294 [(xv 0),(xv 2)]))) (sq (af (ki 0)) aa) aa) (sq (ay (dn (xt (ac .Eq (xv 1) (ki 6))) (xt (ac .Eq (xv 1) (ki 7)))) (sq (af (ki 2)) aa) aa) (sq (ay (dn (xt (ac .Eq (xv 2) (ki 6))) (xt (ac .Eq (xv 2) (ki 7)))) (sq (af (ki 1)) aa) aa) (sq (af (ki 3)) aa)))))
noncomputable def Hy:XS:=(sq (ay (dn (xt (ac .Eq (xv 1) (xv 2))) (xt (ac .Eq (xf 247 [(xv 0),(xv 2)]) (xv 1)))) (sq (af (ki 1)) aa) aa) (sq (ay (xt (ac .Eq (xf 247 [(xv 0),(xv 1)]) (xv 2))) (sq (af (ki 2)) aa) aa) (sq (ae 3 (xf 327 [(xv 0),(xv 1)])) (sq (ae 4 (xf 327 [(xv 0),(xv 2)])) (sq (ay (dn (xt (ac .Eq (xv 3) (ki 0))) (xt (ac .Eq (xv 4) (ki 0)))) (sq (af (ki 3)) aa) aa) (sq (ay (dn (xt (xf 334 [(xv 3)])) (xt (xf 334 [(xv 4)]))) (sq (af (xf 391 [(xv 1),(xv 2),(xv 3),(xv 4)])) aa) aa) (sq (ay (dn (xt (ac .Eq (xv 3) (ki 7))) (xt (ac .Eq (xv 4) (ki 7)))) (sq (af aS) aa) aa) (sq (af (xf 398 [(xv 0),(xv 1),(xv 2),(xv 3),(xv 4)])) aa))))))))
noncomputable def Hx:XS:=(sq (ae 3 (br [])) (sq (ae 4 (xk (.bool false))) (sq (bO 5 (xv 1) (sq (ae 6 (xf 412 [(xv 0),(xv 5),(xv 2)])) (sq (ay (xt (ac .Eq (xv 6) (ki 0))) (sq (af (xk .none)) aa) aa) (sq (ay (xt (ac .Eq (xv 6) (ki 1))) (sq (ae 4 (xk (.bool true))) aa) aa) (sq (ay (xt (ac .NotEq (xv 6) (ki 2))) (sq (bn (dB .append (xv 3) [(xv 5)])) aa) aa) aa))))) (sq (ay (iu (xt (xv 4))) (sq (bn (dB .append (xv 3) [(xv 2)])) aa) aa) (sq (af (xv 3)) aa)))))
noncomputable def Hw:XS:=(sq (ae 2 (xi (xa (q "rows") (xv 0)) (xv 1))) (sq (ay (xt (ac .Eq (xi (xv 2) (ki 0)) (ki 9))) (sq (ae 3 aS) (sq (ay (bM (xt (ac .IsNot (xv 3) (xk .none))) (bM (xt (ac .Eq (xa (q "kind") (xv 3)) (ki 3))) (xt (ac .Eq (xa (q "body") (xv 3)) (ki 11))))) (sq (af (am [(ki 11)])) aa) aa) aa)) aa) (sq (ay (xt (ac .Eq (xi (xv 2) (ki 0)) (ki 7))) (sq (af (xi (xv 2) (ki 1))) aa) aa) (sq (ay (xt (ac .Eq (xi (xv 2) (ki 0)) (ki 8))) (sq (af (am [(xf 308 [(xv 0),(xv 1)])])) aa) aa) (sq (af (am [(xv 1)])) aa)))))
noncomputable def Hv:XS:=(sq (ae 4 (aN 5 (xf 426 [(xv 0),(xv 1)]) none (xv 5))) (sq (bO 3 (xf 426 [(xv 0),(xv 2)]) (sq (ae 4 (xf 419 [(xv 0),(xv 4),(xv 3)])) (sq (ay (xt (ac .Is (xv 4) (xk .none))) (sq (af (ki 2)) aa) aa) aa))) (sq (ay (xt (ac .Eq (dC .len [(xv 4)]) (ki 1))) (sq (af (xi (xv 4) (ki 0))) aa) aa) (sq (af (dT "put" (xv 0) [(am [(ki 7),(dC .tuple [(aN 5 (xv 4) none (xf 308 [(xv 0),(xv 5)]))])])])) aa))))
noncomputable def Hu:XS:=(sq (ay (dn (xt (ac .Eq (xv 1) (xv 2))) (xt (ac .Eq (xv 2) (ki 1)))) (sq (af (xv 1)) aa) aa) (sq (ay (xt (ac .Eq (xv 1) (ki 1))) (sq (af (xv 2)) aa) aa) (sq (ae 3 cu) (sq (iL [4,5] (am [(xf 233 [(xv 0),(xv 1)]),(xf 233 [(xv 0),(xv 2)])])) (sq (ae 6 (gE (ac .Gt (dC .len [(xv 4)]) (ki 1)) (ac .Gt (dC .len [(xv 5)]) (ki 1)))) (sq (bO 7 (xv 4) (sq (bO 8 (xv 5) (sq (ae 9 (xf 431 [(xv 0),(xv 7),(xv 8)])) (sq (ay (xt (ac .NotEq (xv 9) (ki 2))) (sq (bB (ki 1) (xv 3) (xv 9)) aa) aa) (sq (ay (bM (xt (xv 6)) (xt (ac .Gt (dC .len [(xv 3)]) (ki 200)))) (sq eM aa) aa) aa)))) aa)) (sq (af (xf 273 [(xv 0),(dC .sorted [(xv 3)])])) aa)))))))
noncomputable def Ht:XS:=(sq (bO 2 (am [(ki 2),(ki 0),(ki 13)]) (sq (ay (xt (ac .In (xv 2) (xv 1))) (sq (af (xv 2)) aa) aa) aa)) (sq (ae 3 (ki 1)) (sq (bO 4 (x1 (dC .len [(xv 1)]) dq) (sq (ay (xt (ac .NotIn (xi (xv 1) (xv 4)) (x3 (xv 1) (xk .none) (xv 4) aT))) (sq (ae 3 (xf 438 [(xv 0),(xv 3),(xi (xv 1) (xv 4))])) aa) aa) aa)) (sq (af (xv 3)) aa))))
noncomputable def Hs:XS:=(sq (ae 1 cu) (sq (bO 2 (xi (xv 0) (ki 1)) (sq (bB (xv 2) (xv 1) (xi (xv 2) (ki 0))) aa)) (sq (af (xv 1)) aa)))
noncomputable def Hr:XS:=(sq (ay (bM (xt (ac .NotEq (xi (xv 1) (ki 3)) (xi (xv 2) (ki 3)))) (xt (xb .BitAnd (xb .BitOr (xi (xv 1) (ki 2)) (xi (xv 2) (ki 2))) (xb .BitOr (ki 8) (ki 16))))) (sq (af (ki 2)) aa) aa) (sq (ae 3 (xi (xv 1) (ki 1))) (sq (ae 4 (xi (xv 2) (ki 1))) (sq (ay (bM (xt (xb .BitAnd (xi (xv 1) (ki 2)) (ki 1))) (iu (xt (xb .BitAnd (xi (xv 2) (ki 2)) (ki 1))))) (sq (ae 3 (xf 280 [(xv 0),(xv 3)])) aa) aa) (sq (ay (bM (xt (xb .BitAnd (xi (xv 2) (ki 2)) (ki 1))) (iu (xt (xb .BitAnd (xi (xv 1) (ki 2)) (ki 1))))) (sq (ae 4 (xf 280 [(xv 0),(xv 4)])) aa) aa) (sq (af (xf 445 [(xv 0),(am [(xv 3),(xv 4)])])) aa))))))
noncomputable def Hq:XS:=(sq (ae 3 (xb .BitAnd (xb .BitAnd (xi (xv 1) (ki 2)) (xi (xv 2) (ki 2))) (xb .BitOr (xb .BitOr (ki 1) (ki 2)) (ki 32)))) (sq (Ji .BitOr 3 (xb .BitAnd (xb .BitOr (xi (xv 1) (ki 2)) (xi (xv 2) (ki 2))) (xb .BitOr (xb .BitOr (xb .BitOr (ki 8) (ki 16)) (ki 4)) (ki 64)))) (sq (af (am [(xi (xv 1) (ki 0)),(xf 461 [(xv 0),(xv 1),(xv 2)]),(xv 3),(bz (xt (xi (xv 1) (ki 3))) (xi (xv 1) (ki 3)) (xi (xv 2) (ki 3)))])) aa)))
noncomputable def Hp:XS:=(sq (ay (dn (xt (ac .Eq (xv 1) (am []))) (xt (ac .Eq (xv 2) (am [])))) (sq (af (bz (xt (ac .Eq (xv 2) (am []))) (xv 1) (xv 2))) aa) aa) (sq (af (am [(xf 445 [(xv 0),(am [(xi (xv 1) (ki 0)),(xi (xv 2) (ki 0))])]),(xb .BitAnd (xi (xv 1) (ki 1)) (xi (xv 2) (ki 1)))])) aa))
noncomputable def Ho:XS:=(sq (ae 3 (xf 454 [(xv 1)])) (sq (bO 4 (xi (xv 2) (ki 1)) (sq (ae 5 (xi (xv 4) (ki 0))) (sq (bB (bz (xt (ac .In (xv 5) (xv 3))) (xf 468 [(xv 0),(xi (xv 3) (xv 5)),(xv 4)]) (xv 4)) (xv 3) (xv 5)) aa))) (sq (ae 6 (dC .tuple [(aN 8 (dC .sorted [(xv 3)]) none (xi (xv 3) (xv 8)))])) (sq (ae 7 (xf 475 [(xv 0),(xi (xv 1) (ki 4)),(xi (xv 2) (ki 4))])) (sq (af (am [(ki 8),(xv 6),(xb .Add (xi (xv 1) (ki 2)) (xi (xv 2) (ki 2))),(xb .Add (xi (xv 1) (ki 3)) (xi (xv 2) (ki 3))),(xv 7),(xf 475 [(xv 0),(xi (xv 1) (ki 5)),(xi (xv 2) (ki 5))]),(ki 0)])) aa)))))
noncomputable def Hn:XS:=(sq (ae 2 (aN 5 (xv 1) none (xi (xa (q "rows") (xa (q "tab") (xv 0))) (dT "shape" (xv 0) [(xv 5)])))) (sq (ae 3 (xi (xv 2) (ki 0))) (sq (bO 4 (x3 (xv 2) (ki 1) (xk .none) aT) (sq (ae 3 (xf 480 [(xa (q "tab") (xv 0)),(xv 3),(xv 4)])) aa)) (sq (af (dT "put" (xa (q "tab") (xv 0)) [(xv 3)])) aa))))
noncomputable def Hm:XS:=(sq (ae 1 cu) (sq (bO 2 (xv 0) (sq (ae 3 (gE (ac .IsNot (xv 2) (xk .none)) (ac .NotEq (xb .BitAnd (xi (xv 2) (ki 2)) (xb .BitOr (ki 8) (ki 16))) (ki 0)))) (sq (bB (ki 1) (xv 1) (bz (xt (xv 3)) (xi (xv 2) (ki 3)) (ki 0))) aa))) (sq (af (ac .Gt (dC .len [(xv 1)]) (ki 1))) aa)))
noncomputable def Hl:XS:=(sq (ae 2 (br [])) (sq (ae 3 cu) (sq (ae 4 (br [(xv 1)])) (sq (oJ (xt (xv 4)) (sq (ae 5 (dT "force" (xv 0) [(dB .pop (xv 4) [])])) (sq (ay (xt (ac .In (xv 5) (xv 3))) (sq ui aa) aa) (sq (bB (ki 1) (xv 3) (xv 5)) (sq (ae 6 (xi (xa (q "rows") (xa (q "tab") (xv 0))) (xv 5))) (sq (ae 7 (bz (xt (ac .Eq (xi (xv 6) (ki 0)) (ki 6))) (xi (xv 6) (ki 1)) (am [(bz (xt (ac .In (xi (xv 6) (ki 0)) (xk (.tup [(.int 11),(.int 12)])))) (xv 5) (dT "bound" (xv 0) [(xv 5)]))]))) (sq (ay (xt (ac .Eq (xv 7) (am [(xv 5)]))) (sq (bn (dB .append (xv 2) [(xv 5)])) aa) (sq (bn (dB .extend (xv 4) [(xv 7)])) aa)) aa))))))) (sq (af (xv 2)) aa)))))
noncomputable def Hk:XS:=(sq (bO 2 (x1 (ki 40) dq) (sq (ay (xt (ac .Lt (xv 1) (ki 0))) (sq eM aa) aa) (sq (ae 3 (xi (xa (q "rows") (xv 0)) (xv 1))) (sq (ay (xt (ac .Eq (xi (xv 3) (ki 0)) (ki 8))) (sq (af (xv 1)) aa) aa) (sq (ay (xt (ac .Eq (xi (xv 3) (ki 0)) (ki 13))) (sq (af aS) aa) aa) (sq (ay (xt (ac .In (xi (xv 3) (ki 0)) (xk (.tup [(.int 1),(.int 2),(.int 3),(.int 4),(.int 5)])))) (sq (af (ki 11)) aa) aa) (sq (ay (dn (xt (ac .NotEq (xi (xv 3) (ki 0)) (ki 9))) (dn (xt (xi (xv 3) (ki 2))) (xt (xa (q "bases") (xi (xa (q "decls") (xv 0)) (xi (xv 3) (ki 1))))))) (sq eM aa) aa) (sq (ae 1 (xa (q "body") (xi (xa (q "decls") (xv 0)) (xi (xv 3) (ki 1))))) aa)))))))) (sq eM aa))
noncomputable def Hj:XS:=(sq (af (xv 1)) aa)
noncomputable def Hi:XS:=(sq (bO 2 (xi (xv 0) (ki 1)) (sq (ay (xt (ac .Eq (xi (xv 2) (ki 0)) (xv 1))) (sq (af (xv 2)) aa) aa) aa)) (sq (af (xk .none)) aa))
noncomputable def Hh:XS:=(sq (ae 1 (dC .all [(aN 2 (xv 0) none (iH .LtE .LtE (xk (.str (q "0"))) (xv 2) (xk (.str (q "9")))))])) (sq (af (tX (ac .Eq (xv 0) (xk (.str (q "0")))) (gE (ac .NotEq (xv 0) (xk (.str (q "")))) (gE (ac .NotEq (xi (xv 0) (ki 0)) (xk (.str (q "0")))) (xv 1))))) aa))
noncomputable def Hg:XS:=(sq (ay (xt (ac .Eq (xv 0) (xk (.str (q "NaN"))))) (sq (af (xk (.bool true))) aa) aa) (sq (ay (bM (xt (ac .Eq (x3 (xv 0) (ki 0) (ki 1) aT) (xk (.str (q "-"))))) (xt (ac .NotEq (xv 0) (xk (.str (q "-0")))))) (sq (ae 0 (x3 (xv 0) (ki 1) (xk .none) aT)) aa) aa) (sq (af (tX (xf 720 [(xv 0)]) (ac .Eq (xv 0) (xk (.str (q "Infinity")))))) aa)))
noncomputable def Hf:XS:=(sq (ae 1 (dT "force" (xv 0) [(xv 1)])) (sq (ae 3 (xi (xa (q "rows") (xa (q "tab") (xv 0))) (xv 1))) (sq (ay (dn (xt (ac .Eq (xi (xv 3) (ki 0)) (ki 11))) (xt (ac .Eq (xi (xv 3) (ki 0)) (ki 12)))) (sq (ae 4 aS) aa) (sq (ae 4 (xf 715 [(xi (xa (q "rows") (xa (q "tab") (xv 0))) (dT "shape" (xv 0) [(xv 1)])),(xv 2)])) aa)) (sq (af (bz (xt (ac .Is (xv 4) (xk .none))) (xk .none) (am [(xv 2),(dT "force" (xv 0) [(xi (xv 4) (ki 1))]),(xi (xv 4) (ki 2)),(xi (xv 4) (ki 3))]))) aa))))
noncomputable def He:XS:=(sq (af (bz (xt (xb .BitAnd (xi (xv 1) (ki 2)) (ki 1))) (xf 280 [(xv 0),(xi (xv 1) (ki 1))]) (xi (xv 1) (ki 1)))) aa)
noncomputable def Hc:XS:=(sq (ae 3 (xi (xa (q "rows") (xa (q "tab") (xv 0))) (xv 1))) (sq (ay (dn (xt (ac .Eq (xi (xv 3) (ki 0)) (ki 11))) (xt (ac .Eq (xi (xv 3) (ki 0)) (ki 12)))) (sq (ae 1 aS) (sq (af (bz (xt (ac .Lt (xv 1) (ki 0))) (xv 1) (dT "force" (xv 0) [(xv 1)]))) aa)) aa) (sq (ae 4 (xi (xa (q "rows") (xa (q "tab") (xv 0))) (dT "shape" (xv 0) [(xv 1)]))) (sq (ay (bM (xt (xf 734 [(xv 2)])) (xt (ac .NotEq (xi (xv 4) (ki 5)) (am [])))) (sq (af (dT "force" (xv 0) [(xi (xi (xv 4) (ki 5)) (ki 0))])) aa) aa) (sq (af (bz (xt (ac .Eq (xi (xv 4) (ki 4)) (am []))) (bW (ki 1)) (dT "force" (xv 0) [(xi (xi (xv 4) (ki 4)) (ki 0))]))) aa)))))
noncomputable def Hb:XS:=(sq (ay (dn (xt (ac .Eq (xv 1) (ki 0))) (xt (ac .Eq (xv 1) (ki 13)))) (sq (af (xv 1)) aa) aa) (sq (af (bz (xt (ac .Is (xv 2) (xk .none))) (xf 774 [(xv 0),(xv 1),(xv 3)]) (xf 755 [(xa (q "tab") (xv 0)),(xv 2)]))) aa))
noncomputable def Ha:XS:=(sq (ae 3 (aN 6 (xf 499 [(xv 0),(xv 1)]) none (dT "force" (xv 0) [(dT "bound" (xv 0) [(xv 6)])]))) (sq (ae 4 (aN 6 (xv 3) none (bz (xt (ac .In (xv 6) (am [(ki 0),(ki 13)]))) (xk .none) (xf 748 [(xv 0),(xv 6),(xv 2)])))) (sq (ae 5 (aN 6 (x1 (dC .len [(xv 3)]) dq) none (xf 781 [(xv 0),(xi (xv 3) (xv 6)),(xi (xv 4) (xv 6)),(xv 2)]))) (sq (af (bz (dn (xt (ac .In (bW (ki 1)) (xv 5))) (dn (iu (xt (xv 5))) (xt (xf 492 [(xv 4)])))) (bW (ki 1)) (xf 273 [(xa (q "tab") (xv 0)),(xv 5)]))) aa))))
noncomputable def G9:XS:=(sq (ae 1 (dT "force" (xv 0) [(xv 1)])) (sq (ae 3 (xi (xa (q "rows") (xa (q "tab") (xv 0))) (xv 1))) (sq (ay (xt (ac .Eq (xi (xv 3) (ki 0)) (ki 6))) (sq (af aS) aa) aa) (sq (ay (dn (xt (ac .Eq (xi (xv 3) (ki 0)) (ki 11))) (xt (ac .Eq (xi (xv 3) (ki 0)) (ki 12)))) (sq (ae 4 (bz (xt (xv 2)) aS (am []))) aa) (sq (ae 4 (xi (xi (xa (q "rows") (xa (q "tab") (xv 0))) (dT "shape" (xv 0) [(xv 1)])) (bz (xt (xv 2)) (ki 5) (ki 4)))) aa)) (sq (af (bz (xt (ac .Eq (xv 4) (am []))) (am []) (am [(dT "force" (xv 0) [(xi (xv 4) (ki 0))]),(xi (xv 4) (ki 1))]))) aa)))))
noncomputable def G8:XS:=(sq (ae 2 (xi (xa (q "rows") (xv 0)) (xv 1))) (sq (ay (xt (ac .In (xi (xv 2) (ki 0)) (xk (.tup [(.int 10),(.int 14),(.int 15),(.int 16),(.int 17),(.int 19)])))) (sq (af (xk (.bool true))) aa) aa) (sq (ay (dn (xt (ac .Eq (xi (xv 2) (ki 0)) (ki 6))) (xt (ac .Eq (xi (xv 2) (ki 0)) (ki 7)))) (sq (bO 3 (xi (xv 2) (ki 1)) (sq (ay (xt (xf 815 [(xv 0),(xv 3)])) (sq (af (xk (.bool true))) aa) aa) aa)) aa) aa) (sq (ay (xt (ac .Eq (xi (xv 2) (ki 0)) (ki 12))) (sq (bO 4 (xi (xv 2) (ki 1)) (sq (ay (xt (ac .Eq (xi (xv 4) (ki 1)) (ki 3))) (sq (af (xk (.bool true))) aa) aa) aa)) aa) aa) (sq (ay (xt (ac .Eq (xi (xv 2) (ki 0)) (ki 18))) (sq (bO 5 (xi (xv 2) (ki 2)) (sq (ay (xt (xf 815 [(xv 0),(xv 5)])) (sq (af (xk (.bool true))) aa) aa) aa)) aa) aa) (sq (af (xk (.bool false))) aa))))))
noncomputable def G7:XS:=(sq (ae 2 (xi (xa (q "rows") (xv 0)) (xv 1))) (sq (ay (xt (ac .Eq (xi (xv 2) (ki 0)) (ki 3))) (sq (af (xi (xv 2) (ki 1))) aa) aa) (sq (ay (xt (ac .Eq (xi (xv 2) (ki 0)) (ki 4))) (sq (af (dC .str [(xi (xv 2) (ki 1))])) aa) aa) (sq (ay (xt (ac .Eq (xi (xv 2) (ki 0)) (ki 5))) (sq (af (dC .str [(xi (xv 2) (ki 3))])) aa) aa) (sq (ay (xt (ac .Eq (xi (xv 2) (ki 0)) (ki 2))) (sq (af (bz (xt (ac .Eq (xi (xv 2) (ki 1)) (ki 1))) (xk (.str (q "true"))) (xk (.str (q "false"))))) aa) aa) (sq (ay (xt (ac .Eq (xv 1) (ki 5))) (sq (af (xk (.str (q "null")))) aa) aa) (sq (ay (xt (ac .Eq (xv 1) (ki 4))) (sq (af (xk (.str (q "undefined")))) aa) aa) (sq (af (xk .none)) aa))))))))
noncomputable def G6:XS:=(sq (ay (xt (ac .In (xi (xi (xa (q "rows") (xv 0)) (xv 1)) (ki 0)) (am [(ki 3),(ki 4),(ki 5)]))) (sq (af (xf 822 [(xv 0),(xv 1)])) aa) aa) (sq (af (xk .none)) aa))
noncomputable def G5:XS:=(sq (ae 1 (bz (xt (ac .Eq (x3 (xv 0) (xk .none) (ki 1) aT) (xk (.str (q "-"))))) (x3 (xv 0) (ki 1) (xk .none) aT) (xv 0))) (sq (ay (dn (xt (ac .Eq (xv 1) (xk (.str (q ""))))) (xt (ac .Gt (dC .len [(xv 1)]) (ki 16)))) (sq (af (xk (.bool false))) aa) aa) (sq (bO 2 (xv 1) (sq (ay (dn (xt (ac .Lt (xv 2) (xk (.str (q "0"))))) (xt (ac .Gt (xv 2) (xk (.str (q "9")))))) (sq (af (xk (.bool false))) aa) aa) aa)) (sq (ae 3 (dC .int [(xv 1)])) (sq (ay (dn (xt (ac .Gt (xv 3) (ki 9007199254740991))) (xt (ac .NotEq (dC .str [(xv 3)]) (xv 1)))) (sq (af (xk (.bool false))) aa) aa) (sq (af (tX (ac .Gt (xv 3) (ki 0)) (ac .Eq (xv 1) (xv 0)))) aa))))))
noncomputable def G4:XS:=(sq (af (ac .Eq (xb .BitAnd (xi (xv 0) (ki 2)) (xb .Add (ki 8) (ki 16))) (ki 0))) aa)
noncomputable def G3:XS:=(sq (ae 2 (xa (q "tab") (xv 0))) (sq (ae 3 (xi (xa (q "rows") (xv 2)) (dT "shape" (xv 0) [(xv 1)]))) (sq (ae 4 (br [])) (sq (ay (xt (ac .NotEq (xi (xv 3) (ki 0)) (ki 8))) (sq (af (xv 4)) aa) aa) (sq (bO 5 (xi (xv 3) (ki 1)) (sq (ay (xt (xf 850 [(xv 5)])) (sq (bn (dB .append (xv 4) [(xf 180 [(xv 2),(xi (xv 5) (ki 0))])])) aa) aa) aa)) (sq (ay (xt (ac .NotEq (xi (xv 3) (ki 4)) (am []))) (sq (bn (dB .append (xv 4) [(ki 6)])) (sq (bn (dB .append (xv 4) [(ki 7)])) aa)) aa) (sq (ay (dn (xt (ac .NotEq (xi (xv 3) (ki 5)) (am []))) (xt (ac .Eq (xf 327 [(xv 2),(xv 1)]) (ki 1)))) (sq (bn (dB .append (xv 4) [(ki 7)])) aa) aa) (sq (af (xv 4)) aa))))))))
noncomputable def G2:XS:=(sq (ae 3 (xa (q "tab") (xv 0))) (sq (ae 4 (aN 5 (xv 1) none (xf 881 [(xv 0),(xv 5)]))) (sq (ay (xt (xv 2)) (sq (af (xf 445 [(xv 3),(xv 4)])) aa) aa) (sq (af (xf 273 [(xv 3),(xv 4)])) aa))))
noncomputable def G1:XS:=(sq (ae 2 (xa (q "tab") (xv 0))) (sq (ae 1 (dT "force" (xv 0) [(xv 1)])) (sq (ay (dn (xt (ac .Eq (xv 1) (ki 0))) (dn (xt (ac .Eq (xv 1) (ki 13))) (xt (ac .Eq (xv 1) (ki 2))))) (sq (af (xf 273 [(xv 2),(br [(ki 6),(ki 7)])])) aa) aa) (sq (ay (xt (ac .In (xv 1) (am [(ki 1),(ki 3),(ki 4),(ki 5),(ki 10)]))) (sq (af (ki 2)) aa) aa) (sq (ae 3 (xf 172 [(xv 2),(xv 1)])) (sq (ay (xt (ac .Eq (xv 3) (ki 6))) (sq (af (xf 867 [(xv 0),(xf 233 [(xv 2),(xv 1)]),(xk (.bool true))])) aa) aa) (sq (ay (xt (ac .Eq (xv 3) (ki 7))) (sq (af (xf 867 [(xv 0),(xi (xi (xa (q "rows") (xv 2)) (xv 1)) (ki 1)),(xk (.bool false))])) aa) aa) (sq (ay (xt (ac .Eq (xv 3) (ki 18))) (sq (af (xf 273 [(xv 2),(xf 857 [(xv 0),(ki 6)])])) aa) aa) (sq (ay (xt (xf 815 [(xv 2),(xv 1)])) (sq (af aS) aa) aa) (sq (ay (dn (xt (ac .Eq (xv 3) (ki 11))) (xt (ac .Eq (xv 3) (ki 12)))) (sq (af (xf 273 [(xv 2),aS])) aa) aa) (sq (af (xf 273 [(xv 2),(xf 857 [(xv 0),(xv 1)])])) aa)))))))))))
noncomputable def G0:XS:=(sq (ae 4 (br [])) (sq (bO 5 (xv 1) (sq (ae 6 (bz (xt (xv 3)) (xf 942 [(xv 0),(xv 5),(xv 2)]) (xf 942 [(xv 0),(xv 2),(xv 5)]))) (sq (ay (xt (ac .Lt (xv 6) (ki 0))) (sq (af (bW (ki 1))) aa) aa) (sq (bn (dB .append (xv 4) [(xv 6)])) aa)))) (sq (af (xf 273 [(xa (q "tab") (xv 0)),(xv 4)])) aa)))
noncomputable def GZ:XS:=(sq (af (tX (ac .Eq (xv 1) (ki 7)) (ac .Eq (xi (xa (q "rows") (xv 0)) (xv 1)) (am [(ki 18),(am [(xk (.str (q ""))),(xk (.str (q "")))]),(am [(ki 7)])])))) aa)
noncomputable def GY:XS:=(sq (ae 3 (xa (q "tab") (xv 0))) (sq (ae 4 (xf 902 [(xv 3),(xv 2)])) (sq (ay (bM (xt (xv 4)) (xt (ac .Eq (xf 327 [(xv 3),(xv 1)]) (ki 1)))) (sq (af (ki 6)) aa) aa) (sq (ay (xt (xv 4)) (sq (ae 5 (xf 793 [(xv 0),(xv 1),(ki 1)])) (sq (ay (xt (ac .NotEq (xv 5) (am []))) (sq (af (xi (xv 5) (ki 0))) aa) aa) aa)) (sq (ay (bM (xt (ac .NotIn (xv 2) (am [(ki 6),(ki 0)]))) (xt (ac .NotEq (xf 172 [(xv 3),(xv 2)]) (ki 18)))) (sq (af (bW (ki 1))) aa) aa) aa)) (sq (ae 5 (xf 793 [(xv 0),(xv 1),(ki 0)])) (sq (ay (bM (xt (ac .Eq (xv 5) (am []))) (xt (ac .Eq (xv 2) (ki 0)))) (sq (ae 5 (xf 793 [(xv 0),(xv 1),(ki 1)])) aa) aa) (sq (af (bz (xt (ac .NotEq (xv 5) (am []))) (xi (xv 5) (ki 0)) (bW (ki 1)))) aa)))))))
noncomputable def GX:XS:=(sq (ae 3 (xa (q "tab") (xv 0))) (sq (ae 4 (xf 172 [(xv 3),(xv 1)])) (sq (ay (xt (ac .In (xv 1) (am [(ki 5),(ki 4),(ki 3),(ki 1)]))) (sq (af (bW (ki 1))) aa) aa) (sq (ay (dn (xt (ac .Eq (xv 4) (ki 11))) (xt (ac .Eq (xv 4) (ki 12)))) (sq (af aS) aa) aa) (sq (ae 5 (xf 829 [(xv 3),(xv 2)])) (sq (ay (bM (xt (ac .IsNot (xv 5) (xk .none))) (bM (xt (ac .Eq (xf 327 [(xv 3),(xv 1)]) (ki 1))) (xt (xf 836 [(xv 5)])))) (sq (af (ki 6)) aa) aa) (sq (ay (xt (ac .IsNot (xv 5) (xk .none))) (sq (af (xf 786 [(xv 0),(xv 1),(xv 5)])) aa) aa) (sq (af (xf 916 [(xv 0),(xv 1),(xv 2)])) aa))))))))
noncomputable def GW:XS:=(sq (ae 2 (br [])) (sq (bO 3 (xf 233 [(xa (q "tab") (xv 0)),(xv 1)]) (sq (ae 4 (am [])) (sq (ay (xt (ac .NotIn (xv 3) (am [(ki 5),(ki 4),(ki 3),(ki 1)]))) (sq (ae 4 (xf 793 [(xv 0),(xv 3),(ki 0)])) (sq (ay (xt (ac .Eq (xv 4) (am []))) (sq (ae 4 (xf 793 [(xv 0),(xv 3),(ki 1)])) aa) aa) aa)) aa) (sq (ay (xt (ac .Eq (xv 4) (am []))) (sq (af (ki 2)) aa) aa) (sq (bn (dB .append (xv 2) [(xi (xv 4) (ki 0))])) aa))))) (sq (af (xf 273 [(xa (q "tab") (xv 0)),(xv 2)])) aa)))
noncomputable def GU:XS:=(sq (ay (xt (ac .Is (xv 2) (xk .none))) (sq (af (xk (.bool false))) aa) aa) (sq (ae 3 (aN 6 (xv 1) none (xf 748 [(xv 0),(xv 6),(xv 2)]))) (sq (ae 5 (aN 6 (xv 3) (some (bM (xt (ac .IsNot (xv 6) (xk .none))) (iu (xt (xf 850 [(xv 6)]))))) (xv 6))) (sq (ay (xt (ac .Eq (dC .len [(xv 5)]) (ki 0))) (sq (af (xk (.bool false))) aa) aa) (sq (bO 4 (xv 3) (sq (ay (dn (xt (ac .Is (xv 4) (xk .none))) (xt (ac .NotEq (xi (xv 4) (ki 3)) (xi (xi (xv 5) (ki 0)) (ki 3))))) (sq (af (xk (.bool true))) aa) aa) aa)) (sq (af (xk (.bool false))) aa))))))
noncomputable def GT:XS:=(sq (ae 3 (xa (q "tab") (xv 0))) (sq (ae 1 (dT "force" (xv 0) [(xv 1)])) (sq (ae 2 (dT "force" (xv 0) [(xv 2)])) (sq (ay (dn (xt (ac .Eq (xv 1) (ki 13))) (xt (ac .Eq (xv 2) (ki 13)))) (sq (af (ki 13)) aa) aa) (sq (ay (dn (xt (ac .Eq (xv 1) (ki 0))) (xt (ac .Eq (xv 1) (ki 2)))) (sq (af (xv 1)) aa) aa) (sq (ay (xt (ac .Eq (xv 2) (ki 2))) (sq (af (bz (xt (xf 815 [(xv 3),(xv 1)])) (ki 2) (xf 930 [(xv 0),(xv 1)]))) aa) aa) (sq (ay (dn (xt (xf 815 [(xv 3),(xv 1)])) (xt (xf 815 [(xv 3),(xv 2)]))) (sq (af aS) aa) aa) (sq (ay (xt (ac .Eq (xf 172 [(xv 3),(xv 2)]) (ki 6))) (sq (af (xf 888 [(xv 0),(xi (xi (xa (q "rows") (xv 3)) (xv 2)) (ki 1)),(xv 1),(xk (.bool false))])) aa) aa) (sq (ay (xt (ac .Eq (xf 172 [(xv 3),(xv 1)]) (ki 6))) (sq (ay (xt (xf 935 [(xv 0),(xi (xi (xa (q "rows") (xv 3)) (xv 1)) (ki 1)),(xf 829 [(xv 3),(xv 2)])])) (sq (af (bW (ki 1))) aa) aa) (sq (af (xf 888 [(xv 0),(xi (xi (xa (q "rows") (xv 3)) (xv 1)) (ki 1)),(xv 2),(xk (.bool true))])) aa)) aa) (sq (af (xf 923 [(xv 0),(xv 1),(xv 2)])) aa))))))))))
noncomputable def GS:XS:=(sq (ae 2 (xi (xa (q "rows") (xa (q "tab") (xv 0))) (xv 1))) (sq (ay (xt (ac .Eq (xi (xv 2) (ki 0)) (ki 7))) (sq (af (xf 485 [(xv 0),(xi (xv 2) (ki 1))])) aa) aa) (sq (ay (dn (xt (ac .Eq (xi (xv 2) (ki 0)) (ki 11))) (xt (ac .Eq (xi (xv 2) (ki 0)) (ki 12)))) (sq (af aS) aa) aa) (sq (af (xf 506 [(xa (q "tab") (xv 0)),(xv 1)])) aa))))
noncomputable def GR:XS:=(sq (bx (xv 1) (xv 0) (q "tab")) (sq (bx (ki 0) (xv 0) (q "deep")) (sq (bx (ki 200) (xv 0) (q "most_rounds")) (sq (bx (ki 40) (xv 0) (q "most_deep")) (sq (bx cu (xv 0) (q "instances")) (sq (bx (xk .none) (xv 0) (q "lib")) aa))))))
noncomputable def GQ:XS:=(sq (ae 2 (xi (xa (q "rows") (xa (q "tab") (xv 0))) (xv 1))) (sq (af (bz (dn (xt (ac .Eq (xi (xv 2) (ki 0)) (ki 14))) (xt (ac .Eq (xi (xv 2) (ki 0)) (ki 15)))) aS (xv 1))) aa))
noncomputable def GP:XS:=(sq (af (xf 956 [(xv 0),(xv 1)])) aa)
noncomputable def DF:XS:=(sq (ae 2 (xi (xv 0) (ki 0))) (sq (bB (xb .Add (xv 2) (ki 1)) (xv 0) (ki 0)) (sq (ae 3 (dC .len [(xi (xv 0) (ki 1))])) (sq (af (xb .Mod (xb .Add (xi (xi (xv 0) (ki 1)) (xb .Mod (xv 2) (xv 3))) (xb .Mult (xb .FloorDiv (xv 2) (xv 3)) (xb .Add (xv 2) (ki 3)))) (xv 1))) aa))))
noncomputable def DE:XS:=(sq (ay (xt (xb .BitAnd (xv 0) (ki 256))) (sq (af (ki 256)) aa) aa) (sq (af (xb .BitAnd (xv 0) (Au (xb .BitOr (bz (xt (xb .BitAnd (xv 0) (ki 64))) (ki 3) (ki 0)) (bz (xt (xb .BitAnd (xv 0) (ki 128))) (ki 12) (ki 0)))))) aa))
noncomputable def DD:XS:=(sq (af (xb .BitOr (xb .BitOr (xv 0) (bz (xt (xb .BitAnd (xv 0) (ki 64))) (ki 3) (ki 0))) (bz (xt (xb .BitAnd (xv 0) (ki 128))) (ki 12) (ki 0)))) aa)
noncomputable def DC:XS:=(sq (ay (dn (xt (ac .Eq (xv 0) (ki 0))) (xt (ac .Eq (xv 1) (ki 0)))) (sq (af (ki 0)) aa) aa) (sq (ay (xt (xb .BitAnd (xb .BitOr (xv 0) (xv 1)) (ki 256))) (sq (af (ki 256)) aa) aa) (sq (af (xf 1026 [(xb .BitAnd (xf 1033 [(xv 0)]) (xf 1033 [(xv 1)]))])) aa)))
noncomputable def DB:XS:=(sq (ae 1 cu) (sq (ae 2 cu) (sq (bO 3 (am [(xk (.str (q "p"))),(xk (.str (q "q"))),(xk (.str (q "0")))]) (sq (ay (xt (ac .Lt (xf 1019 [(xv 0),(ki 5)]) (ki 3))) (sq (ae 4 (xi (xk (.tup [(.int 1),(.int 64),(.int 3),(.int 4),(.int 128),(.int 33),(.int 12),(.int 256)])) (xf 1019 [(xv 0),(ki 8)]))) (sq (iL [5,6] (xi (am [(am [(ki 0),(ki 0)]),(am [(ki 0),(ki 0)]),(am [(ki 1),(ki 0)]),(am [(ki 2),(ki 0)]),(am [(ki 8),(ki 1)]),(am [(ki 8),(ki 2)]),(am [(xb .Add (ki 16) (ki 1)),(ki 1)])]) (xf 1019 [(xv 0),(ki 7)]))) (sq (bB (am [(xv 4),(ac .Gt (xb .BitAnd (xv 5) (ki 1)) (ki 0)),(xv 6)]) (xv 1) (xv 3)) (sq (bB (xv 5) (xv 2) (xv 3)) aa)))) aa) aa)) (sq (ae 7 (br [(bW (ki 1)),(bW (ki 1))])) (sq (bO 8 (x1 (ki 2) dq) (sq (ay (xt (ac .Eq (xf 1019 [(xv 0),(ki 3)]) (ki 2))) (sq (bB (xi (xk (.tup [(.int 1),(.int 64),(.int 3),(.int 4),(.int 128),(.int 33),(.int 12),(.int 256)])) (xf 1019 [(xv 0),(ki 8)])) (xv 7) (xv 8)) aa) aa) aa)) (sq (af (Fx [(xk (.str (q "members"))),(xv 1),(xk (.str (q "flags"))),(xv 2),(xk (.str (q "texts"))),(xi (xv 7) (ki 0)),(xk (.str (q "digits"))),(xi (xv 7) (ki 1)),(xk (.str (q "parts"))),(am [])])) aa))))))
noncomputable def DA:XS:=(sq (ay (xt (ac .NotEq (xi (xv 0) (ki 2)) (xi (xv 1) (ki 2)))) (sq (af (am [(ki 0),(gE (xi (xv 0) (ki 1)) (xi (xv 1) (ki 1))),(bz (xt (ac .Gt (xi (xv 0) (ki 2)) (ki 0))) (xi (xv 0) (ki 2)) (xi (xv 1) (ki 2)))])) aa) aa) (sq (ae 2 (xi (xv 0) (ki 0))) (sq (ae 3 (xi (xv 1) (ki 0))) (sq (ay (xt (ac .NotEq (xi (xv 0) (ki 1)) (xi (xv 1) (ki 1)))) (sq (ae 2 (xf 1026 [(xb .BitOr (xv 2) (bz (xt (xi (xv 0) (ki 1))) (ki 16) (ki 0)))])) (sq (ae 3 (xf 1026 [(xb .BitOr (xv 3) (bz (xt (xi (xv 1) (ki 1))) (ki 16) (ki 0)))])) aa)) aa) (sq (af (am [(xf 1040 [(xv 2),(xv 3)]),(gE (xi (xv 0) (ki 1)) (xi (xv 1) (ki 1))),(xi (xv 0) (ki 2))])) aa)))))
noncomputable def Dy:XS:=(sq (iL [1,2] (am [(xi (xv 0) (ki 0)),(xi (xv 0) (ki 1))])) (sq (ae 3 (dC .dict [(xi (xv 1) (xk (.str (q "members"))))])) (sq (bO 4 (xi (xv 2) (xk (.str (q "members")))) (sq (ae 5 (xi (xi (xv 2) (xk (.str (q "members")))) (xv 4))) (sq (bB (bz (xt (ac .In (xv 4) (xv 3))) (xf 1054 [(xi (xv 3) (xv 4)),(xv 5)]) (xv 5)) (xv 3) (xv 4)) aa))) (sq (ae 6 (br [])) (sq (bO 7 (am [(xk (.str (q "texts"))),(xk (.str (q "digits")))]) (sq (ay (dn (xt (ac .Lt (xi (xv 1) (xv 7)) (ki 0))) (xt (ac .Lt (xi (xv 2) (xv 7)) (ki 0)))) (sq (bn (dB .append (xv 6) [(bz (xt (ac .Lt (xi (xv 1) (xv 7)) (ki 0))) (xi (xv 2) (xv 7)) (xi (xv 1) (xv 7)))])) aa) (sq (bn (dB .append (xv 6) [(xf 1040 [(xi (xv 1) (xv 7)),(xi (xv 2) (xv 7))])])) aa)) aa)) (sq (af (Fx [(xk (.str (q "members"))),(xv 3),(xk (.str (q "texts"))),(xi (xv 6) (ki 0)),(xk (.str (q "digits"))),(xi (xv 6) (ki 1)),(xk (.str (q "parts"))),(am [(xv 1),(xv 2)])])) aa))))))
noncomputable def Dx:XS:=(sq (ay (xt (ac .Is (xv 0) (xk .none))) (sq (af (bW (ki 1))) aa) aa) (sq (ay (xt (ac .In (xv 1) (xi (xv 0) (xk (.str (q "members")))))) (sq (ae 2 (xi (xi (xv 0) (xk (.str (q "members")))) (xv 1))) (sq (af (xf 1026 [(xb .BitOr (xi (xv 2) (ki 0)) (bz (xt (xi (xv 2) (ki 1))) (ki 16) (ki 0)))])) aa)) aa) (sq (af (bz (bM (xt (ac .Eq (xv 1) (xk (.str (q "0"))))) (xt (ac .GtE (xi (xv 0) (xk (.str (q "digits")))) (ki 0)))) (xi (xv 0) (xk (.str (q "digits")))) (xi (xv 0) (xk (.str (q "texts")))))) aa)))
noncomputable def Dw:XS:=(sq (ay (xt (ac .Is (xv 0) (xk .none))) (sq (af (bz (xt (ac .In (xv 1) (am [(ki 2),(ki 4),(ki 6)]))) (ki 64) (bW (ki 1)))) aa) aa) (sq (ay (xt (ac .Lt (xv 1) (ki 5))) (sq (af (xf 1068 [(xv 0),(bz (xt (ac .Lt (xv 1) (ki 4))) (xi (xk (.tup [(.str (q "p")),(.str (q "q")),(.str (q "0")),(.str (q "x"))])) (xv 1)) (xk (.str (q "0"))))])) aa) aa) (sq (ay (xt (ac .Eq (xv 1) (ki 6))) (sq (af (bz (xt (ac .Lt (xi (xv 0) (xk (.str (q "digits")))) (ki 0))) (xi (xv 0) (xk (.str (q "texts")))) (xi (xv 0) (xk (.str (q "digits")))))) aa) aa) (sq (af (bz (bM (xt (ac .Eq (xv 1) (ki 7))) (xt (ac .Lt (xi (xv 0) (xk (.str (q "texts")))) (ki 0)))) (xi (xv 0) (xk (.str (q "digits")))) (xi (xv 0) (xk (.str (q "texts")))))) aa))))
noncomputable def Dv:XS:=(sq (ay (xt (ac .In (bW (ki 1)) (xv 0))) (sq (af (bW (ki 1))) aa) aa) (sq (ae 1 (ki 0)) (sq (bO 2 (xv 0) (sq (ae 1 (xb .BitOr (xv 1) (xv 2))) aa)) (sq (af (xf 1026 [(xv 1)])) aa))))
noncomputable def Du:XS:=(sq (ae 2 (aN 3 (xv 0) none (bz (dn (xt (ac .Is (xv 3) (xk .none))) (xt (ac .NotIn (xv 1) (xi (xv 3) (xk (.str (q "members"))))))) (ki 0) (xi (xi (xi (xv 3) (xk (.str (q "members")))) (xv 1)) (ki 2))))) (sq (af (ac .NotEq (dC .max [(xv 2)]) (dC .min [(xv 2)]))) aa))
noncomputable def Dt:XS:=(sq (ay (bM (xt (ac .Lt (xv 1) (ki 5))) (xt (xf 1087 [(xv 0),(bz (xt (ac .Lt (xv 1) (ki 4))) (xi (xk (.tup [(.str (q "p")),(.str (q "q")),(.str (q "0")),(.str (q "x"))])) (xv 1)) (xk (.str (q "0"))))]))) (sq (af (bW (ki 1))) aa) aa) (sq (af (xf 1082 [(aN 2 (xv 0) none (xf 1075 [(xv 2),(xv 1)]))])) aa))
noncomputable def Ds:XS:=(sq (af (bz (xt (xf 1087 [(xv 0),(xv 1)])) (bW (ki 1)) (xf 1082 [(aN 2 (xv 0) none (xf 1068 [(xv 2),(xv 1)]))]))) aa)
noncomputable def Dq:XS:=(sq (ae 1 (aN 2 (xv 0) none (bz (xt (ac .Is (xv 2) (xk .none))) (bW (ki 1)) (xf 1075 [(xv 2),(ki 7)])))) (sq (af (bz (xt (ac .In (bW (ki 1)) (xv 1))) (ki 0) (xf 1082 [(xv 1)]))) aa))
noncomputable def Dp:XS:=(sq (ay (xt (ac .Is (xv 0) (xk .none))) (sq (af (ki 32)) aa) aa) (sq (ae 1 (ki 0)) (sq (bO 2 (xi (xv 0) (xk (.str (q "parts")))) (sq (ae 1 (xb .BitOr (xv 1) (xf 1109 [(xv 2)]))) aa)) (sq (ay (xt (ac .Eq (dC .len [(xi (xv 0) (xk (.str (q "parts"))))]) (ki 0))) (sq (bO 3 (x1 (ki 3) dq) (sq (ae 4 (dB .get (xi (xv 0) (xk (.str (q "members")))) [(xi (xk (.tup [(.str (q "p")),(.str (q "q")),(.str (q "0")),(.str (q "x"))])) (xv 3)),(am [(ki 0),(xk (.bool false)),(ki 1)])])) (sq (ae 1 (xb .BitOr (xv 1) (bz (xt (ac .Eq (xi (xv 4) (ki 2)) (ki 0))) (xb .LShift (ki 1) (xv 3)) (ki 0)))) aa))) (sq (ae 1 (xb .BitOr (xb .BitOr (xv 1) (bz (xt (ac .GtE (xi (xv 0) (xk (.str (q "texts")))) (ki 0))) (ki 48) (ki 0))) (bz (xt (ac .GtE (xi (xv 0) (xk (.str (q "digits")))) (ki 0))) (ki 32) (ki 0)))) aa)) aa) (sq (af (bz (xt (xb .BitAnd (xv 1) (ki 16))) (xb .BitAnd (xv 1) (Au (ki 15))) (xv 1))) aa)))))
noncomputable def Do:XS:=(sq (ae 2 (bz (xt (xv 1)) (ki 63) (ki 0))) (sq (bO 3 (xv 0) (sq (ae 4 (xf 1109 [(xv 3)])) (sq (ae 4 (xb .BitOr (xv 4) (bz (xt (xb .BitAnd (xv 4) (ki 16))) (ki 15) (ki 0)))) (sq (ae 2 (bz (xt (xv 1)) (xb .BitAnd (xv 2) (xv 4)) (xb .BitOr (xv 2) (xv 4)))) aa)))) (sq (af (bz (xt (xb .BitAnd (xv 2) (ki 16))) (xb .BitAnd (xv 2) (Au (ki 15))) (xv 2))) aa)))
noncomputable def Dn:XS:=(sq (ay (xt (ac .Lt (xv 1) (ki 0))) (sq (af (bW (ki 1))) aa) aa) (sq (ae 2 (br [])) (sq (bO 3 (x1 (ki 9) dq) (sq (ay (xt (xb .BitAnd (xb .RShift (xv 1) (xv 3)) (ki 1))) (sq (bn (dB .append (xv 2) [(xf 1130 [(xv 0),(xv 3)])])) aa) aa) aa)) (sq (af (xf 273 [(xv 0),(xv 2)])) aa))))
noncomputable def Dm:XS:=(sq (ay (xt (ac .Lt (xv 1) (ki 2))) (sq (af (xf 180 [(xv 0),(xi (xk (.str (q "ab"))) (xv 1))])) aa) aa) (sq (ay (xt (ac .Lt (xv 1) (ki 4))) (sq (af (xf 188 [(xv 0),(xb .Sub (xv 1) (ki 1))])) aa) aa) (sq (af (xi (am [(ki 4),(ki 5),(ki 6),(ki 7),(ki 0)]) (xb .Sub (xv 1) (ki 4)))) aa)))
noncomputable def Dl:XS:=(sq (ay (xt (ac .Lt (xv 1) (ki 4))) (sq (af (xf 180 [(xv 0),(xi (xk (.tup [(.str (q "p")),(.str (q "q")),(.str (q "0")),(.str (q "x"))])) (xv 1))])) aa) aa) (sq (af (bz (xt (ac .Eq (xv 1) (ki 4))) (xf 188 [(xv 0),(ki 0)]) (xi (am [(ki 6),(ki 7),(ki 0)]) (xb .Sub (xv 1) (ki 5))))) aa))
noncomputable def Dk:XS:=(sq (af (xf 273 [(xv 0),(aN 2 (x1 (ki 6) dq) (some (xt (xb .BitAnd (xb .RShift (xv 1) (xv 2)) (ki 1)))) (xf 1137 [(xv 0),(bz (xt (ac .Lt (xv 2) (ki 4))) (xv 2) (xb .Add (xv 2) (ki 1)))]))])) aa)
noncomputable def Dj:XS:=(sq (ae 3 (br [])) (sq (bO 4 (bz (xt (xv 2)) (am [(xk (.str (q "0"))),(xk (.str (q "q"))),(xk (.str (q "p")))]) (am [(xk (.str (q "p"))),(xk (.str (q "q"))),(xk (.str (q "0")))])) (sq (ay (xt (ac .In (xv 4) (xi (xv 1) (xk (.str (q "members")))))) (sq (iL [5,6,7] (xi (xi (xv 1) (xk (.str (q "members")))) (xv 4))) (sq (bn (dB .append (xv 3) [(am [(xv 4),(xf 1123 [(xv 0),(xv 5)]),(xi (xi (xv 1) (xk (.str (q "flags")))) (xv 4)),(xi (bz (xt (xv 2)) (am [(ki 0),(ki 7),(ki 4)]) (am [(ki 0),(ki 1),(ki 2)])) (xv 7))])])) aa)) aa) aa)) (sq (ae 8 (aN 9 (am [(xk (.str (q "texts"))),(xk (.str (q "digits")))]) none (bz (xt (ac .Lt (xi (xv 1) (xv 9)) (ki 0))) (am []) (am [(xf 1123 [(xv 0),(xi (xv 1) (xv 9))]),(ki 0)])))) (sq (af (xf 212 [(xv 0),(xv 3),(am []),(am []),(xi (xv 8) (ki 0)),(xi (xv 8) (ki 1))])) aa))))
noncomputable def Di:XS:=(sq (ae 4 (xc 140 [])) (sq (ay (xt (xv 3)) (sq (bn (xf 226 [(xv 4),(ki 2),(xk (.str (q "N")))])) aa) aa) (sq (ae 5 (xa (q "did") (xf 226 [(xv 4),(ki 2),(xk (.str (q "D")))]))) (sq (ae 6 cu) (sq (bO 7 (xv 2) (sq (ay (xt (ac .Lt (xv 7) (ki 4))) (sq (bn (xf 1130 [(xv 4),(xv 7)])) aa) (sq (ay (xt (ac .Lt (xv 7) (ki 9))) (sq (bn (xf 1137 [(xv 4),(xb .Sub (xv 7) (ki 4))])) aa) (sq (ay (xt (ac .Lt (xb .Sub (xv 7) (ki 9)) (dC .len [(xv 0)]))) (sq (bB (bz (bM (xt (xv 1)) (xt (ac .Eq (xv 7) (ki 9)))) (xf 195 [(xv 4),(xv 5),(am [])]) (xf 1147 [(xv 4),(xi (xv 0) (xb .Sub (xv 7) (ki 9))),(xv 3)])) (xv 6) (xb .Sub (xv 7) (ki 9))) aa) (sq (bn (xf 212 [(xv 4),(br [(am [(xk (.str (q "z"))),(xf 188 [(xv 4),(xb .Add (ki 20) (xv 7))]),(ki 0),(ki 0)])])])) aa)) aa)) aa)) aa)) (sq (ay (xt (xv 1)) (sq (bx (xf 1147 [(xv 4),(xi (xv 0) (ki 0)),(xv 3)]) (xi (xa (q "decls") (xv 4)) (xv 5)) (q "body")) aa) aa) (sq (af (am [(xv 4),(xv 6)])) aa)))))))
noncomputable def Dg:XS:=(sq (ae 3 (dC .len [(xv 1)])) (sq (ae 4 (aN 5 (x1 (xv 3) dq) none (xi (xv 1) (xv 5)))) (sq (ay (xt (ac .Eq (xv 2) (ki 1))) (sq (bn (dB .append (xv 4) [(dT "put" (xv 0) [(am [(ki 7),(am [(xi (xv 1) (ki 0)),(xi (xv 1) (ki 1))])])])])) aa) aa) (sq (ay (xt (ac .Eq (xv 2) (ki 2))) (sq (ae 4 (br [(dT "put" (xv 0) [(am [(ki 7),(am [(xi (xv 1) (ki 0)),(xi (xv 1) (ki 1))])])]),(xi (xv 1) (xb .Sub (xv 3) (ki 1)))])) aa) aa) (sq (ay (xt (ac .Eq (xv 2) (ki 3))) (sq (bn (dB .append (xv 4) [(ki 6)])) aa) aa) (sq (af (xv 4)) aa))))))
noncomputable def De:XS:=(sq (ae 5 (xf 273 [(xv 0),(xv 3)])) (sq (bO 6 (xv 4) (sq (ay (xt (ac .NotEq (xf 942 [(xv 1),(xv 5),(xf 1137 [(xv 0),(xv 6)])]) (xf 1123 [(xv 0),(xf 1092 [(xv 2),(xv 6)])]))) (sq (af (xk (.bool false))) aa) aa) aa)) (sq (ay (xt (ac .NotEq (xf 942 [(xv 1),(xv 5),(ki 2)]) (xf 1123 [(xv 0),(xf 1102 [(xv 2)])]))) (sq (af (xk (.bool false))) aa) aa) (sq (iL [7,8] (am [(xi (xv 4) (ki 0)),(xi (xv 4) (ki 1))])) (sq (ae 9 (aN 13 (am [(xv 7),(xv 8)]) (some (bM (dn (xt (ac .Gt (xv 13) (ki 3))) (xt (ac .NotIn (ki 5) (x3 (xv 4) (xk .none) (ki 2) aT)))) (dn (xt (ac .NotEq (xv 13) (ki 4))) (xt (ac .NotIn (ki 6) (x3 (xv 4) (xk .none) (ki 2) aT)))))) (xv 13))) (sq (ae 10 (xf 1082 [(aN 13 (xv 9) none (xf 1092 [(xv 2),(xv 13)]))])) (sq (ay (xt (ac .NotEq (xf 942 [(xv 1),(xv 5),(xf 273 [(xv 0),(aN 13 (xv 9) none (xf 1137 [(xv 0),(xv 13)]))])]) (xf 1123 [(xv 0),(xv 10)]))) (sq (af (xk (.bool false))) aa) aa) (sq (ae 11 (aN 13 (x1 (dC .len [(xv 3)]) dq) none (xi (xv 3) (xb .Sub (xb .Sub (dC .len [(xv 3)]) (ki 1)) (xv 13))))) (sq (ae 10 (xf 1082 [(aN 13 (xv 2) none (xf 1075 [(xv 13),(xv 8)]))])) (sq (ay (xt (ac .NotEq (xf 888 [(xv 1),(xv 11),(xf 1137 [(xv 0),(xv 8)]),(xk (.bool true))]) (xf 1123 [(xv 0),(xv 10)]))) (sq (af (xk (.bool false))) aa) aa) (sq (ae 12 (xi (xk (.tup [(.str (q "p")),(.str (q "q")),(.str (q "0")),(.str (q "x"))])) (xb .Mod (xv 7) (ki 4)))) (sq (ay (xt (ac .NotEq (xf 786 [(xv 1),(xv 5),(xv 12)]) (xf 1123 [(xv 0),(xf 1097 [(xv 2),(xv 12)])]))) (sq (af (xk (.bool false))) aa) aa) (sq (ay (xt (ac .NotEq (xf 881 [(xv 1),(xv 5)]) (xf 1142 [(xv 0),(xf 1116 [(xv 2),(xk (.bool true))])]))) (sq (af (xk (.bool false))) aa) aa) (sq (af (ac .Eq (xf 867 [(xv 1),(xv 11),(ac .Gt (xv 7) (ki 2))]) (xf 1142 [(xv 0),(xf 1116 [(xv 2),(ac .Gt (xv 7) (ki 2))])]))) aa))))))))))))))
noncomputable def Dc:XS:=(sq (ae 1 (aN 17 (x3 (xv 0) (xk .none) (ki 48) aT) none (xb .Mod (xv 17) (ki 999983)))) (sq (ay (xt (ac .Eq (dC .len [(xv 1)]) (ki 0))) (sq (ae 1 (br [(ki 0),(ki 0),(ki 0),(ki 0),(ki 4),(ki 4),(ki 2),(ki 4),(ki 0),(ki 4),(ki 0),(ki 0),(ki 0),(ki 4),(ki 0),(ki 0),(ki 0),(ki 0),(ki 0),(ki 1),(ki 0),(ki 0),(ki 0),(ki 1),(ki 2),(ki 3),(ki 4),(ki 5),(ki 6),(ki 7),(ki 8),(ki 9),(ki 10),(ki 11),(ki 12)])) aa) aa) (sq (ae 2 (br [(ki 0),(xv 1)])) (sq (ae 3 (aN 17 (x1 (xb .Add (ki 2) (xf 1019 [(xv 2),(ki 2)])) dq) none (xf 1047 [(xv 2)]))) (sq (ae 4 (ac .Eq (xf 1019 [(xv 2),(ki 2)]) (ki 1))) (sq (ae 5 (xf 1019 [(xv 2),(ki 4)])) (sq (ae 6 (x3 (xv 3) (xk .none) (xk .none) aT)) (sq (ay (xt (ac .Eq (xv 5) (ki 1))) (sq (bn (dB .append (xv 6) [(xf 1061 [(xv 3)])])) aa) aa) (sq (ay (xt (ac .Eq (xv 5) (ki 2))) (sq (ae 6 (br [(xf 1061 [(xv 3)]),(xi (xv 3) (bW (ki 1)))])) aa) aa) (sq (ay (xt (ac .Eq (xv 5) (ki 3))) (sq (bn (dB .append (xv 6) [(xk .none)])) aa) aa) (sq (ae 7 (br [(xf 1019 [(xv 2),(ki 7)]),(xf 1019 [(xv 2),(ki 7)])])) (sq (ay (xt (ac .Eq (xf 1019 [(xv 2),(ki 3)]) (ki 2))) (sq (bn (dB .append (xv 7) [(ki 7)])) aa) aa) (sq (ae 8 (xf 1019 [(xv 2),(dC .len [(xv 6)])])) (sq (ae 9 (br [])) (sq (bO 10 (x1 (ki 13) dq) (sq (bn (dB .insert (xv 9) [(xf 1019 [(xv 2),(xb .Add (xv 10) (ki 1))]),(xv 10)])) aa)) (sq (bO 11 (x1 (ki 2) dq) (sq (iL [12,13] (xf 1154 [(xv 3),(xv 4),(bz (xt (ac .Eq (xv 11) (ki 0))) (xv 9) (aN 17 (x1 (ki 13) dq) none (xi (xv 9) (xb .Sub (ki 12) (xv 17))))),(ac .Eq (xv 11) (ki 1))])) (sq (ae 14 (xf 1159 [(xv 12),(xv 13),(xv 5)])) (sq (ae 15 (xc 1008 [(xv 12)])) (sq (ay (iu (xt (xf 1164 [(xv 12),(xv 15),(xv 6),(xv 14),(xv 7)]))) (sq (af (xk (.bool false))) aa) aa) (sq (ae 16 (xf 942 [(xv 15),(xi (xv 14) (xv 8)),(xf 1137 [(xv 12),(xi (xv 7) (ki 0))])])) (sq (ay (xt (ac .NotEq (xv 16) (xf 1123 [(xv 12),(xf 1092 [(br [(xi (xv 6) (xv 8))]),(xi (xv 7) (ki 0))])]))) (sq (af (xk (.bool false))) aa) aa) aa))))))) (sq (af (xk (.bool true))) aa)))))))))))))))))
noncomputable abbrev FA(P:Params)(k n:Nat)(ds:List D)(f:XS):Prop:=wC P k=some ⟨n,ds,f⟩
section
variable (P:Params)
theorem xe:FA P 123 1 [] H5∧FA P 137 2 [] H0∧FA P 158 4 [] HZ∧FA P 172 2 [] HY∧FA P 180 3 [(.int 0)] HX∧FA P 188 3 [(.int 0)] HW∧FA P 195 3 [] HV∧FA P 200 1 [] HU∧FA P 212 7 [(.tup []),(.tup []),(.tup []),(.tup []),(.int 0)] HS∧FA P 226 3 [] HR∧FA P 233 2 [] HQ∧FA P 240 1 [] HP:=⟨by kernel_rfl,by kernel_rfl,by kernel_rfl,by kernel_rfl,by kernel_rfl,by kernel_rfl,by kernel_rfl,by kernel_rfl,by kernel_rfl,by kernel_rfl,by kernel_rfl,by kernel_rfl⟩
theorem Kb:FA P 123 1 [] H5:=(xe P).1
theorem Iu:FA P 137 2 [] H0:=(xe P).2.1
theorem Ka:FA P 158 4 [] HZ:=(xe P).2.2.1
theorem J9:FA P 172 2 [] HY:=(xe P).2.2.2.1
theorem J8:FA P 180 3 [(.int 0)] HX:=(xe P).2.2.2.2.1
theorem J7:FA P 188 3 [(.int 0)] HW:=(xe P).2.2.2.2.2.1
theorem J6:FA P 195 3 [] HV:=(xe P).2.2.2.2.2.2.1
theorem It:FA P 200 1 [] HU:=(xe P).2.2.2.2.2.2.2.1
theorem Ir:FA P 212 7 [(.tup []),(.tup []),(.tup []),(.tup []),(.int 0)] HS:=(xe P).2.2.2.2.2.2.2.2.1
theorem J5:FA P 226 3 [] HR:=(xe P).2.2.2.2.2.2.2.2.2.1
theorem E6:FA P 233 2 [] HQ:=(xe P).2.2.2.2.2.2.2.2.2.2.1
theorem Cx:FA P 240 1 [] HP:=(xe P).2.2.2.2.2.2.2.2.2.2.2
theorem xd:FA P 247 2 [] HO∧FA P 254 1 [] HN∧FA P 261 3 [] HM∧FA P 268 1 [] HL∧FA P 273 2 [] HJ∧FA P 280 2 [] HI∧FA P 287 2 [] HH∧FA P 294 2 [] HG∧FA P 301 2 [] HF∧FA P 308 2 [] HE∧FA P 320 2 [] HD∧FA P 327 2 [] HC:=⟨by kernel_rfl,by kernel_rfl,by kernel_rfl,by kernel_rfl,by kernel_rfl,by kernel_rfl,by kernel_rfl,by kernel_rfl,by kernel_rfl,by kernel_rfl,by kernel_rfl,by kernel_rfl⟩
theorem Iq:FA P 247 2 [] HO:=(xd P).1
theorem J4:FA P 254 1 [] HN:=(xd P).2.1
theorem J3:FA P 261 3 [] HM:=(xd P).2.2.1
theorem Ip:FA P 268 1 [] HL:=(xd P).2.2.2.1
theorem Io:FA P 273 2 [] HJ:=(xd P).2.2.2.2.1
theorem J2:FA P 280 2 [] HI:=(xd P).2.2.2.2.2.1
theorem J1:FA P 287 2 [] HH:=(xd P).2.2.2.2.2.2.1
theorem J0:FA P 294 2 [] HG:=(xd P).2.2.2.2.2.2.2.1
theorem Lc:FA P 301 2 [] HF:=(xd P).2.2.2.2.2.2.2.2.1
theorem Lb:FA P 308 2 [] HE:=(xd P).2.2.2.2.2.2.2.2.2.1
theorem JZ:FA P 320 2 [] HD:=(xd P).2.2.2.2.2.2.2.2.2.2.1
theorem Cw:FA P 327 2 [] HC:=(xd P).2.2.2.2.2.2.2.2.2.2.2
theorem w8:FA P 334 1 [] HB∧FA P 391 4 [] HA∧FA P 398 5 [] Hz∧FA P 412 3 [] Hy∧FA P 419 3 [] Hx∧FA P 426 2 [] Hw∧FA P 431 3 [] Hv∧FA P 438 3 [] Hu∧FA P 445 2 [] Ht∧FA P 454 1 [] Hs∧FA P 461 3 [] Hr∧FA P 468 3 [] Hq:=⟨by kernel_rfl,by kernel_rfl,by kernel_rfl,by kernel_rfl,by kernel_rfl,by kernel_rfl,by kernel_rfl,by kernel_rfl,by kernel_rfl,by kernel_rfl,by kernel_rfl,by kernel_rfl⟩
theorem JY:FA P 334 1 [] HB:=(w8 P).1
theorem JX:FA P 391 4 [] HA:=(w8 P).2.1
theorem Cu:FA P 398 5 [] Hz:=(w8 P).2.2.1
theorem Im:FA P 412 3 [] Hy:=(w8 P).2.2.2.1
theorem E5:FA P 419 3 [] Hx:=(w8 P).2.2.2.2.1
theorem JW:FA P 426 2 [] Hw:=(w8 P).2.2.2.2.2.1
theorem Il:FA P 431 3 [] Hv:=(w8 P).2.2.2.2.2.2.1
theorem E4:FA P 438 3 [] Hu:=(w8 P).2.2.2.2.2.2.2.1
theorem E3:FA P 445 2 [] Ht:=(w8 P).2.2.2.2.2.2.2.2.1
theorem JV:FA P 454 1 [] Hs:=(w8 P).2.2.2.2.2.2.2.2.2.1
theorem Ik:FA P 461 3 [] Hr:=(w8 P).2.2.2.2.2.2.2.2.2.2.1
theorem JU:FA P 468 3 [] Hq:=(w8 P).2.2.2.2.2.2.2.2.2.2.2
theorem w7:FA P 475 3 [] Hp∧FA P 480 3 [] Ho∧FA P 485 2 [] Hn∧FA P 492 1 [] Hm∧FA P 499 2 [] Hl∧FA P 506 2 [] Hk∧FA P 579 2 [] Hj∧FA P 715 2 [] Hi∧FA P 720 1 [] Hh∧FA P 734 1 [] Hg∧FA P 748 3 [] Hf∧FA P 755 2 [] He:=⟨by kernel_rfl,by kernel_rfl,by kernel_rfl,by kernel_rfl,by kernel_rfl,by kernel_rfl,by kernel_rfl,by kernel_rfl,by kernel_rfl,by kernel_rfl,by kernel_rfl,by kernel_rfl⟩
theorem Ct:FA P 475 3 [] Hp:=(w7 P).1
theorem JT:FA P 480 3 [] Ho:=(w7 P).2.1
theorem JS:FA P 485 2 [] Hn:=(w7 P).2.2.1
theorem JR:FA P 492 1 [] Hm:=(w7 P).2.2.2.1
theorem JQ:FA P 499 2 [] Hl:=(w7 P).2.2.2.2.1
theorem E0:FA P 506 2 [] Hk:=(w7 P).2.2.2.2.2.1
theorem JP:FA P 579 2 [] Hj:=(w7 P).2.2.2.2.2.2.1
theorem Ij:FA P 715 2 [] Hi:=(w7 P).2.2.2.2.2.2.2.1
theorem JO:FA P 720 1 [] Hh:=(w7 P).2.2.2.2.2.2.2.2.1
theorem JN:FA P 734 1 [] Hg:=(w7 P).2.2.2.2.2.2.2.2.2.1
theorem JM:FA P 748 3 [] Hf:=(w7 P).2.2.2.2.2.2.2.2.2.2.1
theorem Ii:FA P 755 2 [] He:=(w7 P).2.2.2.2.2.2.2.2.2.2.2
theorem w5:FA P 774 3 [] Hc∧FA P 781 4 [] Hb∧FA P 786 3 [] Ha∧FA P 793 3 [] G9∧FA P 815 2 [] G8∧FA P 822 2 [] G7∧FA P 829 2 [] G6∧FA P 836 1 [] G5∧FA P 850 1 [] G4∧FA P 857 2 [] G3∧FA P 867 3 [] G2∧FA P 881 2 [] G1:=⟨by kernel_rfl,by kernel_rfl,by kernel_rfl,by kernel_rfl,by kernel_rfl,by kernel_rfl,by kernel_rfl,by kernel_rfl,by kernel_rfl,by kernel_rfl,by kernel_rfl,by kernel_rfl⟩
theorem JL:FA P 774 3 [] Hc:=(w5 P).1
theorem Ih:FA P 781 4 [] Hb:=(w5 P).2.1
theorem EZ:FA P 786 3 [] Ha:=(w5 P).2.2.1
theorem JK:FA P 793 3 [] G9:=(w5 P).2.2.2.1
theorem Ig:FA P 815 2 [] G8:=(w5 P).2.2.2.2.1
theorem Ie:FA P 822 2 [] G7:=(w5 P).2.2.2.2.2.1
theorem EY:FA P 829 2 [] G6:=(w5 P).2.2.2.2.2.2.1
theorem Id:FA P 836 1 [] G5:=(w5 P).2.2.2.2.2.2.2.1
theorem JJ:FA P 850 1 [] G4:=(w5 P).2.2.2.2.2.2.2.2.1
theorem JI:FA P 857 2 [] G3:=(w5 P).2.2.2.2.2.2.2.2.2.1
theorem Ic:FA P 867 3 [] G2:=(w5 P).2.2.2.2.2.2.2.2.2.2.1
theorem JH:FA P 881 2 [] G1:=(w5 P).2.2.2.2.2.2.2.2.2.2.2
theorem w4:FA P 888 4 [] G0∧FA P 902 2 [] GZ∧FA P 916 3 [] GY∧FA P 923 3 [] GX∧FA P 930 2 [] GW∧FA P 935 3 [] GU∧FA P 942 3 [] GT∧FA P 956 2 [] GS∧FA P 970 2 [] GR∧FA P 977 2 [] GQ∧FA P 991 2 [] GP∧FA P 1019 2 [] DF:=⟨by kernel_rfl,by kernel_rfl,by kernel_rfl,by kernel_rfl,by kernel_rfl,by kernel_rfl,by kernel_rfl,by kernel_rfl,by kernel_rfl,by kernel_rfl,by kernel_rfl,by kernel_rfl⟩
theorem Ib:FA P 888 4 [] G0:=(w4 P).1
theorem JG:FA P 902 2 [] GZ:=(w4 P).2.1
theorem JF:FA P 916 3 [] GY:=(w4 P).2.2.1
theorem JE:FA P 923 3 [] GX:=(w4 P).2.2.2.1
theorem Ia:FA P 930 2 [] GW:=(w4 P).2.2.2.2.1
theorem H9:FA P 935 3 [] GU:=(w4 P).2.2.2.2.2.1
theorem H8:FA P 942 3 [] GT:=(w4 P).2.2.2.2.2.2.1
theorem H7:FA P 956 2 [] GS:=(w4 P).2.2.2.2.2.2.2.1
theorem JD:FA P 970 2 [] GR:=(w4 P).2.2.2.2.2.2.2.2.1
theorem JC:FA P 977 2 [] GQ:=(w4 P).2.2.2.2.2.2.2.2.2.1
theorem H6:FA P 991 2 [] GP:=(w4 P).2.2.2.2.2.2.2.2.2.2.1
theorem IH:FA P 1019 2 [] DF:=(w4 P).2.2.2.2.2.2.2.2.2.2.2
theorem wZ:FA P 1026 1 [] DE∧FA P 1033 1 [] DD∧FA P 1040 2 [] DC∧FA P 1047 1 [] DB∧FA P 1054 2 [] DA∧FA P 1061 1 [] Dy∧FA P 1068 2 [] Dx∧FA P 1075 2 [] Dw∧FA P 1082 1 [] Dv∧FA P 1087 2 [] Du∧FA P 1092 2 [] Dt∧FA P 1097 2 [] Ds:=⟨by kernel_rfl,by kernel_rfl,by kernel_rfl,by kernel_rfl,by kernel_rfl,by kernel_rfl,by kernel_rfl,by kernel_rfl,by kernel_rfl,by kernel_rfl,by kernel_rfl,by kernel_rfl⟩
theorem DN:FA P 1026 1 [] DE:=(wZ P).1
theorem IG:FA P 1033 1 [] DD:=(wZ P).2.1
theorem zU:FA P 1040 2 [] DC:=(wZ P).2.2.1
theorem IF:FA P 1047 1 [] DB:=(wZ P).2.2.2.1
theorem DM:FA P 1054 2 [] DA:=(wZ P).2.2.2.2.1
theorem IE:FA P 1061 1 [] Dy:=(wZ P).2.2.2.2.2.1
theorem zT:FA P 1068 2 [] Dx:=(wZ P).2.2.2.2.2.2.1
theorem zS:FA P 1075 2 [] Dw:=(wZ P).2.2.2.2.2.2.2.1
theorem DK:FA P 1082 1 [] Dv:=(wZ P).2.2.2.2.2.2.2.2.1
theorem ID:FA P 1087 2 [] Du:=(wZ P).2.2.2.2.2.2.2.2.2.1
theorem zQ:FA P 1092 2 [] Dt:=(wZ P).2.2.2.2.2.2.2.2.2.2.1
theorem DJ:FA P 1097 2 [] Ds:=(wZ P).2.2.2.2.2.2.2.2.2.2.2
theorem wY:FA P 1102 1 [] Dq∧FA P 1109 1 [] Dp∧FA P 1116 2 [] Do∧FA P 1123 2 [] Dn∧FA P 1130 2 [] Dm∧FA P 1137 2 [] Dl∧FA P 1142 2 [] Dk∧FA P 1147 3 [] Dj∧FA P 1154 4 [] Di∧FA P 1159 3 [] Dg∧FA P 1164 5 [] De∧FA P 1169 1 [] Dc:=⟨by kernel_rfl,by kernel_rfl,by kernel_rfl,by kernel_rfl,by kernel_rfl,by kernel_rfl,by kernel_rfl,by kernel_rfl,by kernel_rfl,by kernel_rfl,by kernel_rfl,by kernel_rfl⟩
theorem IC:FA P 1102 1 [] Dq:=(wY P).1
theorem zP:FA P 1109 1 [] Dp:=(wY P).2.1
theorem IB:FA P 1116 2 [] Do:=(wY P).2.2.1
theorem DI:FA P 1123 2 [] Dn:=(wY P).2.2.2.1
theorem zO:FA P 1130 2 [] Dm:=(wY P).2.2.2.2.1
theorem zN:FA P 1137 2 [] Dl:=(wY P).2.2.2.2.2.1
theorem IA:FA P 1142 2 [] Dk:=(wY P).2.2.2.2.2.2.1
theorem Iz:FA P 1147 3 [] Dj:=(wY P).2.2.2.2.2.2.2.1
theorem Iy:FA P 1154 4 [] Di:=(wY P).2.2.2.2.2.2.2.2.1
theorem Ix:FA P 1159 3 [] Dg:=(wY P).2.2.2.2.2.2.2.2.2.1
theorem Iw:FA P 1164 5 [] De:=(wY P).2.2.2.2.2.2.2.2.2.2.1
theorem Iv:FA P 1169 1 [] Dc:=(wY P).2.2.2.2.2.2.2.2.2.2.2
end
end
end Mine.Internal
namespace Mine.Internal
local macro_rules
 |`(tactic|omega)=>`(tactic|first|lia|omega)
open PySem.SeqAt
set_option maxHeartbeats 1000000
variable {w:World}{A:Around}{hb h h':Heap}{φ φ' φ'' φ1:Phi}{s s' s'' s1:Shared}{n k i:Nat}{M M' M'' M1:H}{env:Env}{g:G}{cf:CF}{l l':L}{v:Value}{d e:D}{sc sc':Scope}{x m y:Str}{a b c it:X}{p:Addr×Addr}{Q E:Value→Shared→Prop}{vs:List Value}{es ifs:List Expr}{ap np px:Pos}{α β:Type}{I:Addr}{St:Phi→Heap→Nat→Prop}{ds:List D}{o:MO}{cl:List (Str×Addr)}{t:Option XT}{elt iter:Expr}{as:List X}
theorem fO{α:Type _}{a:α}{G:Prop}(h:none=some a):G:=nomatch h
theorem gW{G:Prop}(h:false=true):G:=nomatch h
mutual
theorem D.eqb_refl:∀ a:D,D.eqb a a=true
 | .none=>rfl
 | .bool a=>beq_self_eq_true a
 | .int a=>beq_self_eq_true a
 | .str a=>beq_self_eq_true a
 | .ref a=>beq_self_eq_true a
 | .tup a=>eqbs_refl a
 | .rng a b=>(Bool.and_eq_true _ _).mpr ⟨beq_self_eq_true a,beq_self_eq_true b⟩
theorem eqbs_refl:∀ a:List D,D.eqbs a a=true
 | []=>rfl
 | a::r=>(Bool.and_eq_true _ _).mpr ⟨D.eqb_refl a,eqbs_refl r⟩
end
mutual
theorem D.eqb_eq:∀ {a b:D},D.eqb a b=true→a=b
 | .none,b,h=>by cases b<;>first|rfl|exact gW h
 | .bool a,b,h=>by cases b<;>first|exact congrArg _ (eq_of_beq h)|exact gW h
 | .int a,b,h=>by cases b<;>first|exact congrArg _ (eq_of_beq h)|exact gW h
 | .str a,b,h=>by cases b<;>first|exact congrArg _ (eq_of_beq h)|exact gW h
 | .ref a,b,h=>by cases b<;>first|exact congrArg _ (eq_of_beq h)|exact gW h
 | .tup a,b,h=>by cases b<;>first|exact congrArg _ (eqbs_eq h)|exact gW h
 | .rng a c,b,h=>by cases b<;>first|exact congr (congrArg _ (eq_of_beq (aG h).1)) (eq_of_beq (aG h).2)|exact gW h
theorem eqbs_eq:∀ {a b:List D},D.eqbs a b=true→a=b
 | [],b,h=>by cases b<;>first|rfl|exact gW h
 | x::r,b,h=>by cases b<;>first|exact congr (congrArg _ (D.eqb_eq (aG h).1)) (eqbs_eq (aG h).2)|exact gW h
end
theorem D.eqb_iff(a b:D):D.eqb a b=true↔a=b:=⟨D.eqb_eq,fun h=>h▸D.eqb_refl a⟩
noncomputable instance:DecidableEq D:=fun a b=>decidable_of_iff _ (D.eqb_iff a b)
theorem D.eqb_dec(a b:D):D.eqb a b=decide (a=b):=by
 rw [Bool.eq_iff_iff,decide_eq_true_iff];exact D.eqb_iff a b
abbrev Phi:=List (Addr×Addr)
def cx:Nat:=100000
abbrev gx(xs:Array Value)(n:Nat):Obj:={ cls:=.type "tuple",data:=.seq xs n }
abbrev gP(xs:Array Value)(n:Nat):Obj:={ cls:=.type "list",data:=.seq xs n }
abbrev cC(es:Array DictEntry)(n:Nat):Obj:={ cls:=.type "dict",data:=.dict es n }
mutual
def V(φ:Phi)(h:Heap)(v:Value):D→Prop
 | .none=>v=.none
 | .bool b=>v=.bool b
 | .int i=>∃ t,v=.int i t
 | .str x=>∃ t,v=.str x t∧x.cps.size≤cx
 | .tup ds=>∃ a xs n,v=.ref a∧h.get? a=some (gx xs n)∧ds.length < 100000∧Vr φ h ds xs.toList
 | .ref n=>∃ p,v=.ref p.1∧φ[n]?=some p
 | .rng _ _=>False
def Vr(φ:Phi)(h:Heap):List D→List Value→Prop
 | [],[]=>True
 | d::ds,v::vs=>V φ h v d∧Vr φ h ds vs
 | _,_=>False
end
def F2{α β:Type}(R:α→β→Prop):List α→List β→Prop
 | [],[]=>True
 | a::l,b::m=>R a b∧F2 R l m
 | _,_=>False
section
variable {γ:Type}{R S:α→β→Prop}{l l2:List α}{m m2:List β}
theorem F2.length(h:F2 R l m):l.length=m.length:=by
 induction l generalizing m with
 | nil=>cases m with
  | nil=>rfl
  | cons=>exact h.elim
 | cons a l ih=>cases m with
  | nil=>exact h.elim
  | cons b m=>exact congrArg (·+1) (ih h.2)
theorem F2.imp(k:∀ a b,a∈l→R a b→S a b)(h:F2 R l m):F2 S l m:=by
 induction l generalizing m with
 | nil=>cases m<;>exact h
 | cons a l ih=>cases m with
  | nil=>exact h
  | cons b m=>exact ⟨k a b aw h.1,ih (fun a b q=>k a b (aE _ q)) h.2⟩
theorem F2.get(h:F2 R l m){k:Nat}{b:β}(e:m[k]?=some b):∃ a,l[k]?=some a∧R a b:=by
 induction l generalizing m k with
 | nil=>cases m with
  | nil=>exact fO e
  | cons=>exact h.elim
 | cons a l ih=>cases m with
  | nil=>exact h.elim
  | cons c m=>cases k with
   | zero=>exact ⟨a,rfl,Option.some.inj e▸h.1⟩
   | succ k=>exact ih h.2 e
theorem F2.mem(h:F2 R l m){a:α}(q:a∈l):∃ b,b∈m∧R a b:=by
 induction l generalizing m with
 | nil=>exact absurd q List.not_mem_nil
 | cons c l ih=>cases m with
  | nil=>exact h.elim
  | cons b m=>exact (bo q).elim (fun e=>⟨b,aw,e▸h.1⟩) fun q=>let ⟨b,q1,q2⟩:=ih h.2 q;⟨b,aE _ q1,q2⟩
theorem F2.append(h:F2 R l m)(k:F2 R l2 m2):F2 R (l++l2) (m++m2):=by
 induction l generalizing m with
 | nil=>cases m with
  | nil=>exact k
  | cons=>exact h.elim
 | cons a l ih=>cases m with
  | nil=>exact h.elim
  | cons b m=>exact ⟨h.1,ih h.2⟩
theorem F2.one{a:α}{b:β}(h:R a b):F2 R [a] [b]:=⟨h,trivial⟩
theorem F2.reverse(h:F2 R l m):F2 R l.reverse m.reverse:=by
 induction l generalizing m with
 | nil=>cases m with
  | nil=>exact h
  | cons=>exact h.elim
 | cons a l ih=>cases m with
  | nil=>exact h.elim
  | cons b m=>rw [List.reverse_cons,List.reverse_cons];exact (ih h.2).append (.one h.1)
theorem F2.drop(h:F2 R l m)(n:Nat):F2 R (l.drop n) (m.drop n):=by
 induction l generalizing m n with
 | nil=>cases m with
  | nil=>cases n<;>trivial
  | cons=>exact h.elim
 | cons a l ih=>cases m with
  | nil=>exact h.elim
  | cons b m=>cases n with
   | zero=>exact h
   | succ n=>exact ih h.2 n
theorem F2.take(h:F2 R l m)(n:Nat):F2 R (l.take n) (m.take n):=by
 induction l generalizing m n with
 | nil=>cases m with
  | nil=>cases n<;>trivial
  | cons=>exact h.elim
 | cons a l ih=>cases m with
  | nil=>exact h.elim
  | cons b m=>cases n with
   | zero=>trivial
   | succ n=>exact ⟨h.1,ih h.2 n⟩
theorem F2.set(h:F2 R l m){a:α}{b:β}(k:R a b)(n:Nat):F2 R (l.set n a) (m.set n b):=by
 induction l generalizing m n with
 | nil=>cases m with
  | nil=>trivial
  | cons=>exact h.elim
 | cons _ l ih=>cases m with
  | nil=>exact h.elim
  | cons _ m=>cases n with
   | zero=>exact ⟨k,h.2⟩
   | succ n=>exact ⟨h.1,ih h.2 n⟩
theorem F2.map_eq{f:α→γ}{g:β→γ}(h:F2 R l m)(k:∀ a b,R a b→g b=f a):m.map g=l.map f:=by
 induction l generalizing m with
 | nil=>cases m with
  | nil=>rfl
  | cons=>exact h.elim
 | cons a l ih=>cases m with
  | nil=>exact h.elim
  | cons b m=>rw [List.map_cons,List.map_cons,k _ _ h.1,ih h.2]
end
abbrev Vs(φ:Phi)(h:Heap)(vs:List Value)(ds:List D):Prop:=F2 (V φ h) vs ds
theorem ke{φ:Phi}{h:Heap}:∀ {ds:List D} {vs:List Value},Vr φ h ds vs↔Vs φ h vs ds
 | [],[]=>.rfl
 | _::_,_::_=>and_congr .rfl ke
 | [],_::_=>.rfl
 | _::_,[]=>.rfl
theorem V.tup{φ:Phi}{h:Heap}{a:Addr}{xs:Array Value}{n:Nat}{ds:List D}(ho:h.get? a=some (gx xs n))(hl:ds.length < 100000)(hi:Vs φ h xs.toList ds):V φ h (.ref a) (.tup ds):=⟨a,xs,n,rfl,ho,hl,ke.mpr hi⟩
@[elab_as_elim] theorem V.tup_ {φ:Phi} {h:Heap} {v:Value} {ds:List D} (e:V φ h v (.tup ds)) {G:Value→Prop} (k:∀ a xs n,h.get? a=some (gx xs n)→ds.length < 100000→Vs φ h xs.toList ds→G (.ref a)):G v:=by
 obtain ⟨a,xs,n,rfl,ho,hl,hi⟩:=e
 exact k a xs n ho hl (ke.mp hi)
@[elab_as_elim] theorem V.int_ {φ:Phi} {h:Heap} {v:Value} {i:Int} (e:V φ h v (.int i)) {G:Value→Prop} (k:∀ t,G (.int i t)):G v:=by obtain ⟨t,rfl⟩:=e;exact k t
@[elab_as_elim] theorem V.str_ {φ:Phi} {h:Heap} {v:Value} {x:Str} (e:V φ h v (.str x)) {G:Value→Prop} (k:∀ t,x.cps.size≤cx→G (.str x t)):G v:=by obtain ⟨t,rfl,hx⟩:=e;exact k t hx
@[elab_as_elim] theorem V.ref_ {φ:Phi} {h:Heap} {v:Value} {n:Nat} (e:V φ h v (.ref n)) {G:Value→Prop} (k:∀ p,φ[n]?=some p→G (.ref p.1)):G v:=by obtain ⟨p,rfl,hp⟩:=e;exact k p hp
theorem V.int{φ:Phi}{h:Heap}(i:Int)(t:Tok):V φ h (.int i t) (.int i):=⟨t,rfl⟩
theorem V.bool{φ:Phi}{h:Heap}(b:Bool):V φ h (.bool b) (.bool b):=rfl
theorem V.none{φ:Phi}{h:Heap}:V φ h .none .none:=rfl
theorem V.str{φ:Phi}{h:Heap}{x:Str}{t:Tok}(z:x.cps.size≤cx):V φ h (.str x t) (.str x):=⟨t,rfl,z⟩
theorem V.ref{φ:Phi}{h:Heap}{n:Nat}{p:Addr×Addr}(e:φ[n]?=some p):V φ h (.ref p.1) (.ref n):=⟨p,rfl,e⟩
def du(h h':Heap):Prop:=∀ (a:Addr) (items:Array Value) (n:Nat),h.get? a=some (gx items n)→h'.get? a=some (gx items n)
theorem aU{α:Type}{l m:List α}(h:l <+: m){n:Nat}{x:α}(e:l[n]?=some x):m[n]?=some x:=by
 obtain ⟨t,rfl⟩:=h
 rw [List.getElem?_append_left (cv e).1];exact e
section
mutual
theorem V.mono{d:D}{v:Value}(hp:φ <+: φ')(hk:du h h')(e:V φ h v d):V φ' h' v d:=by
 cases d with
 | tup ds=>obtain ⟨a,xs,n,r,ho,hl,hi⟩:=e;exact ⟨a,xs,n,r,hk _ _ _ ho,hl,Vr.mono hp hk hi⟩
 | ref n=>obtain ⟨p,r,e⟩:=e;exact ⟨p,r,aU hp e⟩
 | _=>exact e
theorem Vr.mono{d:List D}{v:List Value}(hp:φ <+: φ')(hk:du h h')(e:Vr φ h d v):Vr φ' h' d v:=by
 cases d with
 | nil=>cases v<;>exact e
 | cons d ds=>cases v with
  | nil=>exact e
  | cons v vs=>exact ⟨V.mono hp hk e.1,Vr.mono hp hk e.2⟩
end
mutual
theorem V.tv{d:D}{v:Value}{n:Nat}(k:d.hkn n=true)(e:V φ h v d):V [] h v d:=by
 cases d with
 | tup ds=>cases n with
  | zero=>exact gW k
  | succ n=>obtain ⟨a,xs,m,r,ho,hl,hi⟩:=e;exact ⟨a,xs,m,r,ho,hl,Vr.tv (db k) hi⟩
 | ref _=>cases n<;>exact gW k
 | _=>exact e
theorem Vr.tv{d:List D}{v:List Value}{n:Nat}(k:∀ x∈d,x.hkn n=true)(e:Vr φ h d v):Vr [] h d v:=by
 cases d with
 | nil=>cases v<;>exact e
 | cons d ds=>cases v with
  | nil=>exact e
  | cons v vs=>exact ⟨V.tv (k d aw) e.1,Vr.tv (fun x q=>k x (aE _ q)) e.2⟩
end
theorem F2.mono{vs:List Value}{ds:List D}(e:Vs φ h vs ds)(hp:φ <+: φ')(hk:du h h'):Vs φ' h' vs ds:=F2.imp (fun uu uu1 uu2 q=>q.mono hp hk) e
theorem ES{n:Nat}{ds:List D}(k:(D.tup ds).hkn (n+1)=true):∀ d∈ds,d.hkn n=true:=db k
end
abbrev TV(h:Heap):Value→D→Prop:=V [] h
noncomputable def fD(w:World):Nat→D→Int
 | _,.int i=>hashInt i
 | _,.str x=>hashStr w x
 | n+1,.tup l=>reduceHash (Builtin.Tuple.tupleHashOf (l.map (fD w n)))
 | _,_=>0
noncomputable def gY:Nat→D→Nat
 | n+1,.tup l=>(l.map (gY n)).sum+1
 | _,_=>1
theorem Cm{n:Nat}{d:D}(k:d.hkn n=true):(∃ i,d=.int i)∨(∃ x,d=.str x)∨∃ ds m,d=.tup ds∧n=m+1:=by
 cases n<;>cases d<;>first|exact gW k|exact .inl ⟨_,rfl⟩|exact .inr (.inl ⟨_,rfl⟩)|exact .inr (.inr ⟨_,_,rfl,rfl⟩)
theorem TV.cases{h:Heap}{n:Nat}{P:Value→D→Prop}(p1:∀ i t,P (.int i t) (.int i))(p2:∀ x t,P (.str x t) (.str x))
  (p3:∀ a xs k ds m,n=m+1→h.get? a=some (gx xs k)→Vs [] h xs.toList ds→(∀ d∈ds,d.hkn m=true)→P (.ref a) (.tup ds)) {v:Value} {d:D} (k:d.hkn n=true) (e:TV h v d):P v d:=by
 rcases Cm k with ⟨i,rfl⟩|⟨x,rfl⟩|⟨ds,m,rfl,rfl⟩
 ·obtain ⟨t,rfl⟩:=e;exact p1 i t
 ·obtain ⟨t,rfl,_⟩:=e;exact p2 x t
 ·exact V.tup_ (G:=fun v=>P v _) e fun a xs k' ho hl hi=>p3 a xs k' ds m rfl ho hi (ES k)
theorem rq(w:World)(n:Nat)(i:Int):fD w n (.int i)=hashInt i∧gY n (.int i)=1:=by cases n<;>exact ⟨rfl,rfl⟩
theorem rp(w:World)(n:Nat)(x:Str):fD w n (.str x)=hashStr w x∧gY n (.str x)=1:=by cases n<;>exact ⟨rfl,rfl⟩
theorem t6{n j m:Nat}(e:n+j=m)(h:j < m):n - 1 < n∧n - 1+(j+1)=m:=by
 cases n with
 | zero=>exact absurd (Nat.zero_add j▸e) (Nat.ne_of_lt h)
 | succ n=>exact ⟨Nat.lt_succ_self n,(Nat.add_right_comm n 1 j).symm.trans e⟩
theorem Fe{n:Nat}(h:n < 100000):n≤16777216:=Nat.le_trans (Nat.le_of_lt h) (by decide)
theorem Ju{i:Int}(h:0≤i):-2 ^ 63≤i:=Int.le_trans (by decide) h
theorem Da{i:Int}{n:Nat}(h:i < n)(g:n < 100000):i < 2 ^ 63:=Int.lt_trans h (Int.lt_trans (Int.ofNat_lt.mpr g) (by decide))
theorem yH{i n:Int}(h:0≤i+n):-n≤i:=Int.sub_nonneg.mp (by rw [Int.sub_neg];exact h)
theorem lb{i:Int}{n k:Nat}(e:0≤i∧i < n∧k=i.toNat∨i < 0∧0≤i+n∧k=(i+n).toNat)(h:n≤100000):-2 ^ 63≤i∧i < 2 ^ 63:=
 have b:∀ {j:Int},j≤n→j < 2 ^ 63:=fun q=>Int.lt_of_le_of_lt (Int.le_trans q (Int.ofNat_le.mpr h)) (by decide)
 e.elim (fun q=>⟨Ju q.1,b (Int.le_of_lt q.2.1)⟩) fun q=>⟨Int.le_trans (Int.neg_le_neg (Int.le_of_lt (b (Int.le_refl _)))) (yH q.2.1),Int.lt_trans q.1 (by decide)⟩
theorem GO{i:Int}{n:Nat}(h0:0≤i)(h1:i≤(n:Int))(hn:n < 100000):-9223372036854775808≤i∧i < 9223372036854775808:=⟨Int.le_trans (by decide) h0,Int.lt_of_le_of_lt h1 (Int.lt_trans (Int.ofNat_lt.mpr hn) (by decide))⟩
theorem zh{k n:Nat}(h:k≤n):min k n+(n - k+1)=n+1:=by rw [Nat.min_eq_left h,←Nat.add_assoc,Nat.add_sub_of_le h]
section
variable {prog:Program}{u:Value}
theorem lm{Q:Int→Shared→Prop}(hu:A.units+n < cLine)(hk:d.hkn n=true)(hv:TV s.heap v d)(h:Q (fD w n d) { s with toks:=s.toks+gY n d }):wpAny (model prog w) A (pyHash v) Q E s:=by
 induction n using Nat.strongRecOn generalizing A s v d Q with
 | ind n ih=>
 refine TV.cases (P:=fun v d=>Q (fD w n d) { s with toks:=s.toks+gY n d }→wpAny (model prog w) A (pyHash v) Q E s) (fun i t h=>?_) (fun x t h=>?_) (fun a xs m ds n' e ho hi hks h=>?_) hk hv h
 ·rw [(rq w n i).1,(rq w n i).2] at h
  exact (intKind prog w).pyHash (k:=i) (by simp [intKind,Value.isInt]) h
 ·rw [(rp w n x).1,(rp w n x).2] at h
  exact (PySem.strKind prog w).pyHash (k:=x) (by simp [PySem.strKind,Value.isStrOf]) h
 ·subst e
  have hT:s.TypeIs (.ref a) "tuple":=⟨_,ho,rfl⟩
  unfold pyHash
  first|unfold pyHashByItsType|skip
  refine wpAny_bind (wpAny_cRoomFor_or (.inr (by omega)) ?_)
  refine wpAny_bind (wpAny_specialOf hT F.slot_tuple_hash.lookup ?_)
  show wpAny _ _ (if (some (Value.builtin "tuple.__hash__")==some Value.none)=true then _ else _) Q E s
  rw [if_neg (by rw [beq_builtin_none];exact Bool.false_ne_true)]
  refine wpAny_bind (wpAny_specialOf hT F.slot_tuple_hash.lookup ?_)
  show wpAny _ _ (callSpecialIfBoundUnlessNone? (.ref a) "__hash__" _ >>= _) Q E s
  refine wpAny_bind (wpAny_callSpecialIfBoundUnlessNone?_slot hT F.slot_tuple_hash (wpAny_call_entry F.slot_tuple_hash hT F.entry_tuple_hash ?_ (F.args_tuple_hash_1 _)))
  show wpAny _ _ (Builtin.Tuple.tupleItemsOf (.ref a) >>= _) _ _ s
  refine wpAny_bind (wpAny_tupleItemsOf ho rfl ?_)
  refine wpAny_bind ?_
  rw [←Array.forIn_toList]
  refine wpAny_forIn_list _
   (fun rest (b:Array Int) s'=>∃ done jY,ds=done++jY∧Vs [] s.heap rest jY∧b.toList=done.map (fD w n')∧s'={ s with toks:=s.toks+(done.map (gY n')).sum })
   _ ?_ ?_ _ _ ⟨[],ds,rfl,hi,rfl,rfl⟩
  ·rintro x rest b s' ⟨done,jY,rfl,hl,hb,rfl⟩
   cases jY with
   | nil=>exact hl.elim
   | cons k ks'=>
    refine wpAny_bind (ih n' (Nat.lt_succ_self _) (d:=k) (by show A.units+1+n' < cLine;omega) (hks k (by simp)) hl.1 ?_)
    first
     | exact wpAny_pure ⟨done++[k],ks',by simp,hl.2,by simp [hb],by simp [Nat.add_assoc]⟩
     | exact wpAny_bind (wpAny_pure (wpAny_pure ⟨done++[k],ks',by simp,hl.2,by simp [hb],by simp [Nat.add_assoc]⟩))
  ·rintro b s' ⟨done,jY,rfl,hl,hb,rfl⟩
   cases jY with
   | cons=>exact hl.elim
   | nil=>
   rw [List.append_nil] at h
   show wpAny _ _ (retInt (Builtin.Tuple.tupleHashOf b.toList)) _ _ _
   rw [hb]
   refine wpAny_ret_mkInt ?_
   show wpAny _ _ (if (decide (-(2:Int) ^ 63≤Builtin.Tuple.tupleHashOf (done.map (fD w n'))) && decide (Builtin.Tuple.tupleHashOf (done.map (fD w n')) < 2 ^ 63))=true then _ else _) Q E _
   unfold fD reduceHash gY at h
   by_cases hr:(decide (-(2:Int) ^ 63≤Builtin.Tuple.tupleHashOf (done.map (fD w n'))) && decide (Builtin.Tuple.tupleHashOf (done.map (fD w n')) < 2 ^ 63))=true
   ·rw [if_pos hr]
    rw [if_pos hr] at h
    exact wpAny_pure (by simpa [Nat.add_assoc] using h)
   ·rw [if_neg hr]
    rw [if_neg hr] at h
    exact wpAny_bind (wpAny_rule (wpAny_pure (by simpa [Nat.add_assoc] using h)))
theorem Vs.inj{h:Heap}(ih:∀ {v:Value} {d e:D},d.hkn n=true→TV h v d→TV h v e→d=e){vs:List Value}{ds es:List D}(hk:∀ d∈ds,d.hkn n=true)(h1:Vs [] h vs ds)(h2:Vs [] h vs es):ds=es:=by
 induction vs generalizing ds es with
 | nil=>cases ds with
  | cons=>exact h1.elim
  | nil=>cases es with
   | cons=>exact h2.elim
   | nil=>rfl
 | cons v vs ihv=>cases ds with
  | nil=>exact h1.elim
  | cons d ds=>cases es with
   | nil=>exact h2.elim
   | cons e es=>rw [ih (hk d aw) h1.1 h2.1,ihv (fun d q=>hk d (aE _ q)) h1.2 h2.2]
theorem TV.inj{h:Heap}(hk:d.hkn n=true)(hd:TV h v d)(he:TV h v e):d=e:=by
 induction n using Nat.strongRecOn generalizing v d e with
 | ind n ih=>
 refine TV.cases (P:=fun v d=>TV h v e→d=e) (fun i t he=>?_) (fun x t he=>?_) (fun a xs m ds n' q ho hi hks he=>?_) hk hd he
 ·cases e with
  | int j=>obtain ⟨t,q⟩:=he;cases q;rfl
  | str=>obtain ⟨t,q,_⟩:=he;cases q
  | tup=>obtain ⟨_,_,_,q,_⟩:=he;cases q
  | ref=>obtain ⟨_,q,_⟩:=he;cases q
  | rng=>exact he.elim
  | _=>cases he
 ·cases e with
  | int j=>obtain ⟨t,q⟩:=he;cases q
  | str=>obtain ⟨t,q,_⟩:=he;cases q;rfl
  | tup=>obtain ⟨_,_,_,q,_⟩:=he;cases q
  | ref=>obtain ⟨_,q,_⟩:=he;cases q
  | rng=>exact he.elim
  | _=>cases he
 ·subst q
  cases e with
  | tup es=>
   obtain ⟨_,xs',m',q,ho',_,hi'⟩:=he
   cases q
   rw [ho] at ho'
   cases ho'
   have hi':=ke.mp hi'
   exact congrArg _ (Vs.inj (ih n' (Nat.lt_succ_self _)) hks hi hi')
  | int=>obtain ⟨t,q⟩:=he;cases q
  | str=>obtain ⟨t,q,_⟩:=he;cases q
  | ref=>obtain ⟨_,_,q⟩:=he;simp at q
  | rng=>exact he.elim
  | _=>cases he
theorem mU{m:Nat}{Q:Bool→Shared→Prop}(hm:n≤m)(hk:d.hkn n=true)(hv:TV s.heap v d)(h:Q true s):wpAny (model prog w) A (eqIsQuiet m v) Q E s:=by
 induction n using Nat.strongRecOn generalizing A s v d Q m with
 | ind n ih=>
 refine TV.cases (P:=fun v d=>wpAny (model prog w) A (eqIsQuiet m v) Q E s) (fun i t=>?_) (fun x t=>?_) (fun a items k ds n' e ho hi hks=>?_) hk hv
 ·rw [eqIsQuiet_byValue m rfl];exact wpAny_pure h
 ·rw [eqIsQuiet_byValue m rfl];exact wpAny_pure h
 ·subst e
  have hT:s.TypeIs (.ref a) "tuple":=⟨_,ho,rfl⟩
  obtain ⟨m,rfl⟩:∃ k,m=k+1:=⟨m - 1,by omega⟩
  unfold eqIsQuiet
  refine wpAny_bind (wpAny_specialOf hT F.slot_tuple_eq.lookup ?_)
  show wpAny _ _ (isInstance (.ref a) (.type "tuple") >>= _) _ _ s
  refine wpAny_bind (wpAny_isInstance hT isSubtype_tuple_tuple ?_)
  simp only [Bool.not_true,Bool.false_eq_true,if_false]
  refine wpAny_bind (wpAny_seqItems ho rfl ?_)
  refine wpAny_bind ?_
  show wpAny _ _ (forIn items _ _) _ _ s
  rw [←Array.forIn_toList]
  refine wpAny_forIn_list _ (fun rest r s'=>r.1=none∧s'=s∧∃ jY,(∀ d∈jY,d.hkn n'=true)∧Vs [] s.heap rest jY) _ ?_ ?_ _ _ ⟨rfl,rfl,ds,hks,hi⟩
  ·rintro v rest r s' ⟨hr,rfl,jY,hl,hv⟩
   cases jY with
   | nil=>exact hv.elim
   | cons d ds'=>
    refine wpAny_bind (ih n' (Nat.lt_succ_self _) (d:=d) (by omega) (hl d (by simp)) hv.1 ?_)
    simp only [Bool.not_true,Bool.false_eq_true,if_false]
    exact wpAny_pure ⟨rfl,rfl,ds',fun d hd=>hl d (by simp [hd]),hv.2⟩
  ·rintro ⟨r1,r2⟩ s' ⟨hr,rfl,_⟩
   cases hr
   exact wpAny_pure h
theorem tS(ds es:List D):((List.range (min ds.length es.length)).all (fun j=>decide (ds[j]?=es[j]?)) && ds.length==es.length)=decide (ds=es):=by
 rw [Bool.eq_iff_iff,Bool.and_eq_true,List.all_eq_true,beq_iff_eq,decide_eq_true_iff]
 refine ⟨fun q=>List.ext_getElem? fun j=>?_,fun q=>q▸⟨fun j uu=>decide_eq_true rfl,rfl⟩⟩
 by_cases hj:j < ds.length
 ·exact of_decide_eq_true (q.1 j (List.mem_range.mpr (by omega)))
 ·rw [List.getElem?_eq_none (by omega),List.getElem?_eq_none (by omega)]
theorem CA(i j:Int):decide (D.int i=D.int j)=(i==j):=by
 by_cases h:i=j
 ·rw [h,decide_eq_true rfl];exact (beq_self_eq_true j).symm
 ·rw [decide_eq_false fun e=>h (by cases e;rfl)];exact (beq_eq_false_iff_ne.mpr h).symm
theorem Cz(x y:Str):decide (D.str x=D.str y)=(x==y):=by
 by_cases h:x=y
 ·rw [h,decide_eq_true rfl];exact (beq_self_eq_true y).symm
 ·rw [decide_eq_false fun e=>h (by cases e;rfl)];exact (beq_eq_false_iff_ne.mpr h).symm
abbrev RE(A:Around)(s:Shared)(v u:Value)(b:Bool):Prop:=(RcAt A s v u b∧RcNeAt A s v u (!b))∧EqAt A s v u b
theorem EW(hu:A.units+n < cLine)(hd:d.hkn n=true)(he:e.hkn n=true)(hv:TV s.heap v d)(hw:TV s.heap u e):RE A s v u (decide (d=e)):=by
 induction n using Nat.strongRecOn generalizing A v u d e with
 | ind n ih=>
 refine TV.cases (P:=fun v d=>d.hkn n=true→TV s.heap v d→RE A s v u (decide (d=e))) (fun i t uu uu1=>?_) (fun x t uu uu1=>?_) (fun a xs k ds n' q ho hi hks hd hv=>?_) hd hv hd hv
 ·refine TV.cases (P:=fun u e=>RE A s (.int i t) u (decide (D.int i=e))) (fun j t'=>?_) (fun y t'=>?_) (fun b ys m es uu q ho uu1 uu2=>?_) he hw
  ·rw [CA];exact ⟨⟨RcAt.int_int i t j t',RcNeAt.int_int i t j t'⟩,EqAt.int_int i t j t'⟩
  ·rw [decide_eq_false (by simp)];exact ⟨⟨RcAt.int_str i t y t',RcNeAt.int_str i t y t'⟩,EqAt.int_str i t y t'⟩
  ·rw [decide_eq_false (by simp)];exact ⟨⟨RcAt.int_tuple i t ⟨_,ho,rfl,_,rfl⟩ (by omega),RcNeAt.int_tuple i t ⟨_,ho,rfl,_,rfl⟩ (by omega)⟩,EqAt.int_tuple i t ⟨_,ho,rfl,_,rfl⟩ (by omega)⟩
 ·refine TV.cases (P:=fun u e=>RE A s (.str x t) u (decide (D.str x=e))) (fun j t'=>?_) (fun y t'=>?_) (fun b ys m es uu q ho uu1 uu2=>?_) he hw
  ·rw [decide_eq_false (by simp)];exact ⟨⟨RcAt.str_int x t j t',RcNeAt.str_int x t j t'⟩,EqAt.str_int x t j t'⟩
  ·rw [Cz];exact ⟨⟨RcAt.str_str x t y t',RcNeAt.str_str x t y t'⟩,EqAt.str_str x t y t'⟩
  ·rw [decide_eq_false (by simp)];exact ⟨⟨RcAt.str_tuple x t ⟨_,ho,rfl,_,rfl⟩ (by omega),RcNeAt.str_tuple x t ⟨_,ho,rfl,_,rfl⟩ (by omega)⟩,EqAt.str_tuple x t ⟨_,ho,rfl,_,rfl⟩ (by omega)⟩
 ·refine TV.cases (P:=fun u e=>e.hkn n=true→TV s.heap u e→RE A s (.ref a) u (decide (D.tup ds=e))) (fun j t' uu uu1=>?_) (fun y t' uu uu1=>?_) (fun b ys m es n2 q2 ho' hi' hke he hw=>?_) he hw he hw
  ·rw [decide_eq_false (by simp)];exact ⟨⟨RcAt.tuple_int j t' ⟨_,ho,rfl,_,rfl⟩ (by omega),RcNeAt.tuple_int j t' ⟨_,ho,rfl,_,rfl⟩ (by omega)⟩,EqAt.tuple_int j t' ⟨_,ho,rfl,_,rfl⟩ (by omega)⟩
  ·rw [decide_eq_false (by simp)];exact ⟨⟨RcAt.tuple_str y t' ⟨_,ho,rfl,_,rfl⟩ (by omega),RcNeAt.tuple_str y t' ⟨_,ho,rfl,_,rfl⟩ (by omega)⟩,EqAt.tuple_str y t' ⟨_,ho,rfl,_,rfl⟩ (by omega)⟩
  ·cases q;cases q2
   have l1:xs.size=ds.length:=hi.length
   have l2:ys.size=es.length:=hi'.length
   have e1:((List.range (min xs.size ys.size)).all (fun j=>decide (ds[j]?=es[j]?)) && xs.size==ys.size)=decide (D.tup ds=D.tup es):=by
    rw [l1,l2,tS];exact decide_eq_decide.mpr ⟨congrArg _,fun e=>by cases e;rfl⟩
   have K:∀ (j:Nat) (h1:j < xs.size) (h2:j < ys.size),EqAt A.in1 s xs[j] ys[j] (decide (ds[j]?=es[j]?)):=fun j h1 h2=>by
    have hx:=List.getElem?_eq_getElem (show j < ds.length by omega)
    have hy:=List.getElem?_eq_getElem (show j < es.length by omega)
    obtain ⟨x,qx,tx⟩:=hi.get hx
    obtain ⟨y,qy,ty⟩:=hi'.get hy
    rw [Array.getElem?_toList,Array.getElem?_eq_getElem h1] at qx
    rw [Array.getElem?_toList,Array.getElem?_eq_getElem h2] at qy
    cases qx;cases qy
    rw [hx,hy]
    have:=(ih n' (Nat.lt_succ_self _) (A:=A.in1) (by show A.units+1+n' < cLine;omega) (hks _ (List.getElem_mem _)) (hke _ (List.getElem_mem _)) tx ty).2
    simpa using this
   have key:RcAt A s (.ref a) (.ref b) _:=RcAt.tuples ⟨_,ho,rfl,_,rfl⟩ ⟨_,ho',rfl,_,rfl⟩ (by omega) (e:=fun j=>decide (ds[j]?=es[j]?)) K
   have key2:RcNeAt A s (.ref a) (.ref b) _:=RcNeAt.tuples ⟨_,ho,rfl,_,rfl⟩ ⟨_,ho',rfl,_,rfl⟩ (by omega) (e:=fun j=>decide (ds[j]?=es[j]?)) K
   rw [e1] at key key2
   refine ⟨⟨key,key2⟩,?_⟩
   by_cases hab:a=b
   ·subst hab
    rw [TV.inj hd hv hw,decide_eq_true rfl]
    exact EqAt.same (A:=A) (s:=s) (.ref a)
   ·exact EqAt.of_refs hab key
noncomputable def fi(prog:Program)(w:World):HeapKind prog w D where
 is h d a:=TV h (.ref a) d∧d.hk=true
 hash:=fD w 6
 draws:=gY 6
 room A:=A.units+6 < cLine
 inj:=fun hx hy=>TV.inj hx.2 hx.1 hy.1
 keeps:=fun {h h' k a d o es ep} x ho hd hs=>⟨x.1.mono (aJ _) (fun b items n hb=>(hs.2 b (by
  rintro rfl
  rw [ho] at hb
  exact nomatch hd.symm.trans (congrArg Obj.data (Option.some.inj hb)))).trans hb),x.2⟩
 pyHash:=fun hu hk h=>lm hu hk.2 hk.1 h
 eqBool:=fun hu hx hy h=>(EW hu hx.2 hy.2 hx.1 hy.1).2 _ _ _ _ h
 quiet:=fun hk h=>mU (n:=6) (by decide) hk.2 hk.1 h
end
theorem CZ{A:Around}(h:A.units+10 < cLine):A.units+1+6 < cLine:=cn (Nat.add_le_add_left (by decide) _:A.units+7≤A.units+10) h
theorem ul{pw0:Program}{w:World}{A:Around}(h:A.units+10 < cLine):(fi pw0 w).room A.in1:=CZ h
abbrev pw0:Program:=PySem.Challenge.pw_xm0540_01
abbrev bX:Value→Shared→Prop:=fun uu uu1=>False
def dm(φ:Phi)(a:Addr):Prop:=∃ p∈φ.tail,a=p.1∨a=p.2
def Lk(w:World)(φ:Phi)(h:Heap)(e:DictEntry)(p:D×D):Prop:=e.hash=fD w 6 p.1∧V φ h e.key p.1∧p.1.hk=true∧V φ h e.val p.2
abbrev de(w:World)(φ:Phi)(h:Heap)(es:List DictEntry)(l:List (D×D)):Prop:=F2 (Lk w φ h) es l
def Ll(w:World)(φ:Phi)(h:Heap)(e:DictEntry)(p:Str×D):Prop:=e.hash=hashStr w p.1∧(∃ t,e.key=.str p.1 t)∧V φ h e.val p.2
abbrev jK(w:World)(φ:Phi)(h:Heap)(es:List DictEntry)(l:List (Str×D)):Prop:=F2 (Ll w φ h) es l
def jf(w:World)(φ:Phi)(h:Heap)(p:Addr×Addr):MO→Prop
 | .lst l=>p.2=p.1∧l.length < 100000∧∃ xs n,h.get? p.1=some (gP xs n)∧Vs φ h xs.toList l
 | .dct l=>p.2=p.1∧l.length < 100000∧(l.map (·.1)).Nodup∧∃ es n,h.get? p.1=some (cC es n)∧de w φ h es.toList l
 | .ins C l=>h.get? p.1=some (instObj C p.2)∧l.length < 30∧(l.map (·.1)).Nodup∧∃ es n,h.get? p.2=some (cC es n)∧jK w φ h es.toList l
structure R(w:World)(hb:Heap)(φ:Phi)(h:Heap)(H:H):Prop where
 len:φ.length=H.length
 obj:∀ (n:Nat) (p:Addr×Addr) (o:MO),φ[n]?=some p→(H:List MO)[n]?=some o→jf w φ h p o
 apart:∀ (i j:Nat) (p q:Addr×Addr),φ[i]?=some p→φ[j]?=some q→(p.1=q.1∨p.1=q.2∨p.2=q.1∨p.2=q.2)→i=j
 new:∀ a,dm φ a→hb.get? a=none
 ne:φ≠[]
 mods:∀ (n:Nat) (p:Addr×Addr),φ[n]?=some p→p.1≠sysModules
 big:1 < h.objs.size
 base:∀ b o,hb.get? b=some o→h.get? b=some o
 scr:∃ l,(H:List MO)[0]?=some (.lst l)
def wX(es:Array DictEntry):Prop:=∀ e∈es.toList,∃ x t,e.key=.str x t
def tV(h':Heap)(a:Addr)(es:Array DictEntry)(n:Nat):Prop:=∃ es' n',h'.get? a=some (cC es' n')∧es.size≤es'.size∧(wX es→es.size=es'.size→n=n'∧wX es')
structure eI(φ:Phi)(h:Heap)(φ':Phi)(h':Heap):Prop where
 pre:φ <+: φ'
 keep:∀ a o,h.get? a=some o→¬ dm φ a→h'.get? a=some o
 fresh:∀ a,dm φ' a→¬ dm φ a→h.get? a=none
 dicts:∀ a es n,h.get? a=some (cC es n)→tV h' a es n
theorem aD{α:Type}{x:Option α}{a:α}(h:x=some a)(k:x=none):False:=nomatch h.symm.trans k
section
variable {h'':Heap}{a:Addr}{q:Addr×Addr}
theorem dm.of_prefix(h:φ <+: φ')(o:dm φ a):dm φ' a:=by
 obtain ⟨p,hp,e⟩:=o
 obtain ⟨t,rfl⟩:=h
 cases φ with
 | nil=>exact absurd hp List.not_mem_nil
 | cons q φ=>exact ⟨p,List.mem_append_left _ hp,e⟩
theorem dm.at(hn:n≠0)(hp:φ[n]?=some p):dm φ p.1∧dm φ p.2:=by
 cases φ with
 | nil=>exact fO hp
 | cons q φ=>
  cases n with
  | zero=>exact absurd rfl hn
  | succ n=>exact have m:=List.mem_of_getElem? (l:=φ) hp;⟨⟨p,m,.inl rfl⟩,⟨p,m,.inr rfl⟩⟩
theorem dm.get(o:dm φ a):∃ (n:Nat) (p:Addr×Addr),φ[n]?=some p∧(a=p.1∨a=p.2):=by
 obtain ⟨p,hp,e⟩:=o
 obtain ⟨n,hn⟩:=List.mem_iff_getElem?.mp (List.mem_of_mem_tail hp)
 exact ⟨n,p,hn,e⟩
theorem dm.snoc(hne:φ≠[])(o:dm (φ++[p]) a):dm φ a∨a=p.1∨a=p.2:=by
 obtain ⟨q,hq,e⟩:=o
 cases φ with
 | nil=>exact absurd rfl hne
 | cons p0 φ=>exact (List.mem_append.mp hq).elim (fun m=>.inl ⟨q,m,e⟩) fun m=>.inr (cV m▸e)
theorem tV.same{es:Array DictEntry}(e:h.get? a=some (cC es n)):tV h a es n:=⟨es,n,e,Nat.le_refl _,fun x uu=>⟨rfl,x⟩⟩
theorem tV.trans{h1:Heap}{es:Array DictEntry}(x:tV h a es n)(y:∀ es n,h.get? a=some (cC es n)→tV h1 a es n):tV h1 a es n:=by
 obtain ⟨es1,n1,e1,l1,c1⟩:=x
 obtain ⟨es2,n2,e2,l2,c2⟩:=y es1 n1 e1
 refine ⟨es2,n2,e2,Nat.le_trans l1 l2,fun k q=>?_⟩
 have z:es.size=es1.size:=Nat.le_antisymm l1 (q▸l2)
 have:=c2 (c1 k z).2 (z▸q)
 exact ⟨(c1 k z).1.trans this.1,this.2⟩
theorem eI.refl(φ:Phi)(h:Heap):eI φ h φ h:=⟨aJ _,fun uu uu1 e uu2=>e,fun uu a b=>absurd a b,fun uu uu1 uu2 e=>.same e⟩
theorem eI.trans(x:eI φ h φ' h')(y:eI φ' h' φ'' h''):eI φ h φ'' h'' where
 pre:=x.pre.trans y.pre
 keep a o e n:=y.keep a o (x.keep a o e n) fun o'=>aD e (x.fresh a o' n)
 fresh a o n:=by
  by_cases q:dm φ' a
  ·exact x.fresh a q n
  ·cases h1:h.get? a with
   | none=>rfl
   | some u=>exact (aD (x.keep a u h1 n) (y.fresh a o q)).elim
 dicts a es n e:=(x.dicts a es n e).trans (y.dicts a)
theorem jf.objs(m:jf w φ h p o):∃ o1 o2,h.get? p.1=some o1∧h.get? p.2=some o2∧o1.cls≠.type "tuple"∧o2.cls≠.type "tuple":=by
 cases o with
 | lst l=>obtain ⟨e,_,xs,n,ho,_⟩:=m;exact ⟨_,_,ho,e▸ho,by simp,by simp⟩
 | dct l=>obtain ⟨e,_,_,xs,n,ho,_⟩:=m;exact ⟨_,_,ho,e▸ho,by simp,by simp⟩
 | ins C l=>obtain ⟨h1,_,_,xs,n,ho,_⟩:=m;exact ⟨_,_,h1,ho,by simp,by simp⟩
theorem R.get(r:R w hb φ h M)(e:φ[n]?=some p):∃ o,(M:List MO)[n]?=some o∧jf w φ h p o:=
 have hl:n < (M:List MO).length:=r.len▸(cv e).1
 ⟨_,List.getElem?_eq_getElem hl,r.obj n p _ e (List.getElem?_eq_getElem hl)⟩
theorem R.objs(r:R w hb φ h M)(e:φ[n]?=some p):∃ o1 o2,h.get? p.1=some o1∧h.get? p.2=some o2∧o1.cls≠.type "tuple"∧o2.cls≠.type "tuple":=let ⟨_,_,m⟩:=r.get e;m.objs
theorem R.tup_free(r:R w hb φ h M){items:Array Value}(e:h.get? a=some (gx items n)):¬ dm φ a:=fun o=>by
 obtain ⟨i,p,hi,q⟩:=o.get
 obtain ⟨o1,o2,h1,h2,c1,c2⟩:=r.objs hi
 rcases q with rfl|rfl
 ·rw [h1] at e;cases e;exact c1 rfl
 ·rw [h2] at e;cases e;exact c2 rfl
theorem R.none_free(r:R w hb φ h M)(e:h.get? a=none):¬ dm φ a:=fun o=>by
 obtain ⟨i,p,hi,q⟩:=o.get
 obtain ⟨o1,o2,h1,h2,_⟩:=r.objs hi
 rcases q with rfl|rfl
 ·exact aD h1 e
 ·exact aD h2 e
theorem R.lt_size(r:R w hb φ h M)(e:φ[n]?=some p):p.1 < h.objs.size∧p.2 < h.objs.size:=let ⟨_,_,h1,h2,_⟩:=r.objs e;⟨Heap.lt_size h1,Heap.lt_size h2⟩
theorem eI.tups(x:eI φ h φ' h')(r:R w hb φ h M):du h h':=fun uu uu1 uu2 ho=>x.keep _ _ ho (r.tup_free ho)
theorem V.step(r:R w hb φ h M)(x:eI φ h φ' h'){v:Value}{d:D}(e:V φ h v d):V φ' h' v d:=e.mono x.pre (x.tups r)
theorem Vs.step(r:R w hb φ h M)(x:eI φ h φ' h'){v:List Value}{d:List D}(e:Vs φ h v d):Vs φ' h' v d:=e.mono x.pre (x.tups r)
theorem du.keeps(hk:∀ a o,h.get? a=some o→h'.get? a=some o):du h h':=fun uu uu1 uu2=>hk _ _
theorem de.move(hp:φ <+: φ')(hk:du h h'){es:List DictEntry}{l:List (D×D)}(e:de w φ h es l):de w φ' h' es l:=e.imp fun uu uu1 uu2 q=>⟨q.1,q.2.1.mono hp hk,q.2.2.1,q.2.2.2.mono hp hk⟩
theorem jK.move(hp:φ <+: φ')(hk:du h h'){es:List DictEntry}{l:List (Str×D)}(e:jK w φ h es l):jK w φ' h' es l:=e.imp fun uu uu1 uu2 q=>⟨q.1,q.2.1,q.2.2.mono hp hk⟩
theorem jf.move(hp:φ <+: φ')(hk:du h h')(h1:h'.get? p.1=h.get? p.1)(h2:h'.get? p.2=h.get? p.2)(m:jf w φ h p o):jf w φ' h' p o:=by
 cases o with
 | lst l=>obtain ⟨e,z,xs,n,ho,hi⟩:=m;exact ⟨e,z,xs,n,h1.trans ho,hi.mono hp hk⟩
 | dct l=>obtain ⟨e,z,nd,xs,n,ho,hi⟩:=m;exact ⟨e,z,nd,xs,n,h1.trans ho,de.move hp hk hi⟩
 | ins C l=>obtain ⟨e,z,nd,xs,n,ho,hi⟩:=m;exact ⟨h1.trans e,z,nd,xs,n,h2.trans ho,jK.move hp hk hi⟩
theorem jf.keeps(hp:φ <+: φ')(hk:∀ a o,h.get? a=some o→h'.get? a=some o)(m:jf w φ h p o):jf w φ' h' p o:=
 let ⟨_,_,h1,h2,_⟩:=m.objs;m.move hp (.keeps hk) ((hk _ _ h1).trans h1.symm) ((hk _ _ h2).trans h2.symm)
theorem Heap.size_push(h:Heap)(o:Obj):(h.push o).objs.size=h.objs.size+1:=by rw [Heap.objs_push];exact Array.size_push _
theorem da(h:Heap):h.get? h.objs.size=none:=by
 cases q:h.get? h.objs.size with
 | none=>rfl
 | some o=>exact absurd (Heap.lt_size q) (Nat.lt_irrefl _)
theorem R.keep(r:R w hb φ h M)(hk:∀ a o,h.get? a=some o→h'.get? a=some o)(hz:1 < h'.objs.size):R w hb φ h' M:=
 ⟨r.len,fun n p x hp hx=>(r.obj n p x hp hx).keeps (aJ _) hk,r.apart,r.new,r.ne,r.mods,hz,fun b x e=>hk _ _ (r.base b x e),r.scr⟩
theorem R.push(r:R w hb φ h M)(o:Obj):R w hb φ (h.push o) M:=r.keep (fun uu uu1=>Heap.get?_push_of_some o) (by rw [Heap.size_push];exact Nat.lt_succ_of_lt r.big)
theorem eI.keeps(φ:Phi)(hk:∀ a o,h.get? a=some o→h'.get? a=some o):eI φ h φ h':=⟨aJ _,fun uu uu1 e uu2=>hk _ _ e,fun uu x y=>absurd x y,fun uu uu1 uu2 e=>.same (hk _ _ e)⟩
theorem jC{α:Type}{l:List α}{x y:α}(e:(l++[x])[n]?=some y):l[n]?=some y∨n=l.length∧y=x:=by
 rcases Nat.lt_or_ge n l.length with z|z
 ·exact .inl ((List.getElem?_append_left z).symm.trans e)
 ·have k:=(cv e).1
  rw [List.length_append] at k
  have:n=l.length:=Nat.le_antisymm (Nat.le_of_lt_succ k) z
  subst this
  exact .inr ⟨rfl,by rw [List.getElem?_concat_length] at e;exact (Option.some.inj e).symm⟩
theorem R.snoc(r:R w hb φ h M)(m:jf w (φ++[p]) h p o)(f1:∀ (n:Nat) (q:Addr×Addr),φ[n]?=some q→q.1≠p.1∧q.1≠p.2∧q.2≠p.1∧q.2≠p.2)(n1:hb.get? p.1=none)(n2:hb.get? p.2=none)(hm:p.1≠sysModules):
  R w hb (φ++[p]) h (M++[o]:List MO) where
 len:=by rw [List.length_append,List.length_append,r.len];rfl
 obj n q x hq hx:=by
  rcases jC hq with hq|⟨e,rfl⟩
  ·have hl:n < (M:List MO).length:=r.len▸(cv hq).1
   rw [List.getElem?_append_left hl] at hx
   exact (r.obj n q x hq hx).keeps (List.prefix_append _ _) fun uu uu1 e=>e
  ·rw [e,r.len,List.getElem?_concat_length] at hx
   exact Option.some.inj hx▸m
 apart i j q q' hi hj e:=by
  rcases jC hi with a|⟨ei,rfl⟩<;>rcases jC hj with b|⟨ej,rfl⟩
  ·exact r.apart i j q q' a b e
  ·have:=f1 i q a
   rcases e with e|e|e|e
   ·exact absurd e this.1
   ·exact absurd e this.2.1
   ·exact absurd e this.2.2.1
   ·exact absurd e this.2.2.2
  ·have:=f1 j q' b
   rcases e with e|e|e|e
   ·exact absurd e.symm this.1
   ·exact absurd e.symm this.2.2.1
   ·exact absurd e.symm this.2.1
   ·exact absurd e.symm this.2.2.2
  ·exact ei.trans ej.symm
 new a o:=by
  rcases o.snoc r.ne with o|rfl|rfl
  ·exact r.new a o
  ·exact n1
  ·exact n2
 base:=r.base
 scr:=let ⟨l,hl⟩:=r.scr;⟨l,aU (List.prefix_append _ _) hl⟩
 ne:=by simp
 mods n q hq:=by
  rcases jC hq with hq|⟨_,rfl⟩
  ·exact r.mods n q hq
  ·exact hm
 big:=r.big
theorem R.tups(r:R w hb φ h M)(hn:n≠0)(hp:φ[n]?=some p)(hs:∀ b,b≠p.1→b≠p.2→h'.get? b=h.get? b):du h h':=fun a items k e=>by
 have o:=dm.at hn hp
 have:=r.tup_free e
 rw [hs a (fun q=>this (q▸o.1)) (fun q=>this (q▸o.2))];exact e
theorem R.upd(r:R w hb φ h M)(hn:n≠0)(hp:φ[n]?=some p)(hs:∀ b,b≠p.1→b≠p.2→h'.get? b=h.get? b)(sz:h'.objs.size=h.objs.size)
  (hd:∀ a es n,a=p.1∨a=p.2→h.get? a=some (cC es n)→tV h' a es n) (m:du h h'→jf w φ h' p o):R w hb φ h' (M.set n o:List MO)∧eI φ h φ h':=by
 have o12:=dm.at hn hp
 have ht:=r.tups hn hp hs
 refine ⟨⟨by rw [List.length_set];exact r.len,fun j q x hq hx=>?_,r.apart,r.new,r.ne,r.mods,sz▸r.big,fun b x hx=>?_,let ⟨l,hl⟩:=r.scr;⟨l,by rw [List.getElem?_set_ne hn];exact hl⟩⟩,aJ _,fun a x e q=>?_,fun a x y=>absurd x y,fun a es n e=>?_⟩
 ·by_cases hj:j=n
  ·subst hj
   rw [hp] at hq;cases hq
   rw [List.getElem?_set_self (r.len▸(cv hp).1)] at hx
   cases hx
   exact m ht
  ·rw [List.getElem?_set_ne (Ne.symm hj)] at hx
   have ap:=fun e=>hj (r.apart j n q p hq hp e)
   exact (r.obj j q x hq hx).move (aJ _) ht (hs _ (fun e=>ap (.inl e)) (fun e=>ap (.inr (.inl e)))) (hs _ (fun e=>ap (.inr (.inr (.inl e)))) (fun e=>ap (.inr (.inr (.inr e)))))
 ·rw [hs b (fun e=>aD (e▸hx) (r.new _ o12.1)) (fun e=>aD (e▸hx) (r.new _ o12.2))]
  exact r.base b x hx
 ·rw [hs a (fun e=>q (e▸o12.1)) (fun e=>q (e▸o12.2))];exact e
 ·by_cases q1:a=p.1∨a=p.2
  ·exact hd a es n q1 e
  ·exact .same ((hs a (fun e=>q1 (.inl e)) fun e=>q1 (.inr e)).trans e)
theorem SameBut.size{a:Addr}(x:Heap.SameBut a h h'):h'.objs.size=h.objs.size:=by
 first|exact x.1|exact x.1.symm
theorem R.lst(r:R w hb φ h M)(hp:φ[n]?=some p){l:List D}(ho:(M:List MO)[n]?=some (.lst l)){G:Prop}(k:∀ xs m,p.2=p.1→h.get? p.1=some (gP xs m)→Vs φ h xs.toList l→l.length < 100000→G):G:=by
 obtain ⟨e,z,xs,m,ho,hi⟩:=r.obj n p _ hp ho
 exact k xs m e ho hi z
theorem R.notMods(r:R w hb φ h M)(e:φ[n]?=some p):(p.1==sysModules)=false:=beq_eq_false_iff_ne.mpr (r.mods _ _ e)
theorem fz(r:R w hb φ h M)(h0:h.get? a=none):hb.get? a=none:=by
 cases q:hb.get? a with
 | none=>rfl
 | some o=>exact (aD (r.base _ _ q) h0).elim
end
def eJ(φ:Phi)(h:Heap):Option Value→Option D→Prop
 | some v,some d=>V φ h v d
 | none,none=>True
 | _,_=>False
theorem eJ.isSome{φ:Phi}{h:Heap}:∀ {v:Option Value} {d:Option D},eJ φ h v d→v.isSome=d.isSome
 | some _,some _,_=>rfl
 | none,none,_=>rfl
 | some _,none,e=>e.elim
 | none,some _,e=>e.elim
theorem eJ.find{φ:Phi}{h:Heap}:∀ {v:Option Value} {d:D},eJ φ h v (some d)→∃ x,v=some x∧V φ h x d
 | some x,_,e=>⟨x,rfl,e⟩
 | none,_,e=>e.elim
theorem eJ.getD{φ:Phi}{h:Heap}{a:Value}{b:D}(e:V φ h a b):∀ {v:Option Value} {d:Option D},eJ φ h v d→V φ h (v.getD a) (d.getD b)
 | some _,some _,x=>x
 | none,none,_=>e
 | some _,none,x=>x.elim
 | none,some _,x=>x.elim
structure fq{w:World}{K:Type}[DecidableEq K](knd:KeyKind pw0 w K)(enc:K→D)(n:Nat):Prop where
 inv:∀ d:D,d.kd=n→∃ k,d=enc k
 kd:∀ k,(enc k).kd=n
 inj:∀ a b,enc a=enc b→a=b
 to:∀ {φ:Phi} {h:Heap} {v:Value} {k:K},V φ h v (enc k)→knd.is k v=true
 of:∀ {φ:Phi} {h:Heap} {v:Value} {k:K},knd.is k v=true→(∀ x,enc k=.str x→x.cps.size≤cx)→V φ h v (enc k)
 hash:∀ k,fD w 6 (enc k)=knd.hash k
 hk:∀ k,(enc k).hk=true
theorem tF(w:World):fq (intKind pw0 w) .int 1 where
 inv d h:=by cases d<;>first|exact ⟨_,rfl⟩|exact nomatch h
 kd _:=rfl
 inj _ _ h:=by cases h;rfl
 to:=fun ⟨t,e⟩=>e▸intKind_is pw0 w _ t
 of h _:=Value.isInt_shape h
 hash _:=rfl
 hk _:=rfl
theorem jE(w:World):fq (strKind pw0 w) .str 2 where
 inv d h:=by cases d<;>first|exact ⟨_,rfl⟩|exact nomatch h
 kd _:=rfl
 inj _ _ h:=by cases h;rfl
 to:=fun ⟨t,e,uu⟩=>e▸strKind_is pw0 w _ t
 of h k:=let ⟨t,e⟩:=Value.isStrOf_shape h;⟨t,e,k _ rfl⟩
 hash _:=rfl
 hk _:=rfl
theorem t7:∀ {d:D},d.kd=3→∃ k,d=.tup k:=fun {d} h=>by cases d<;>first|exact ⟨_,rfl⟩|exact nomatch h
theorem ii{n:Nat}{k d:D}{l:List (D×D)}(h:cW n ((k,d)::l)=true):k.kd=n∧cW n l=true:=by
 have:=aG h
 exact ⟨eq_of_beq this.1,this.2⟩
abbrev pO{K:Type}(enc:K→D)(φ:Phi)(h:Heap)(kvs:List (K×Value))(l:List (D×D)):Prop:=F2 (fun p q=>q.1=enc p.1∧V φ h p.2 q.2) kvs l
theorem fZ{α β:Type}(f:α→β){l:List α}(h:(l.map f).Nodup):l.Nodup:=(List.pairwise_map.mp h).imp fun q e=>q (congrArg f e)
theorem wd{α β:Type}(f:α→β)(inj:∀ a b,f a=f b→a=b){l:List α}(h:l.Nodup):(l.map f).Nodup:=List.pairwise_map.mpr (h.imp fun q e=>q (inj _ _ e))
theorem mD{o:Obj}(x:o.ExactDict){es n}(d:o.data=.dict es n):o=cC es n:=by
 obtain ⟨c,dd,dt,sl⟩:=o
 obtain ⟨a,b,c'⟩:=x
 cases a;cases b;cases c';cases d
 rfl
theorem cO(k v:D)(p:D×D)(r:List (D×D)):cL k v (p::r)=if D.eqb p.1 k=true then (p.1,v)::r else p::cL k v r:=rfl
theorem cy(k:D)(p:D×D)(r:List (D×D)):bh k (p::r)=if D.eqb p.1 k=true then some p.2 else bh k r:=rfl
theorem fv(k v:D)(l:List (D×D)):l.length≤(cL k v l).length∧(cL k v l).length≤l.length+1∧cL k v l≠[]:=by
 induction l with
 | nil=>exact ⟨Nat.zero_le _,Nat.le_refl _,nofun⟩
 | cons p r ih=>
  rw [cO]
  cases D.eqb p.1 k with
  | true=>exact ⟨Nat.le_refl _,Nat.le_succ _,nofun⟩
  | false=>exact ⟨Nat.succ_le_succ ih.1,Nat.succ_le_succ ih.2.1,nofun⟩
theorem nV{k d:D}{l:List (D×D)}:((l.map (·.1)).Nodup→((cL k d l).map (·.1)).Nodup)∧∀ x,x∈(cL k d l).map (·.1)→x=k∨x∈l.map (·.1):=by
 induction l with
 | nil=>simp [cL]
 | cons p r ih=>
  rw [cO,D.eqb_dec]
  by_cases q:p.1=k
  ·rw [decide_eq_true q];exact ⟨fun h=>h,fun x hx=>.inr hx⟩
  ·rw [decide_eq_false q]
   simp only [Bool.false_eq_true,if_false,List.map_cons,List.nodup_cons,List.mem_cons]
   exact ⟨fun h=>⟨fun hm=>(ih.2 _ hm).elim q h.1,ih.1 h.2⟩,fun x hx=>hx.elim (fun e=>.inr (.inl e)) fun e=>(ih.2 x e).imp id .inr⟩
section
variable {K:Type}[DecidableEq K]{knd:KeyKind pw0 w K}{enc:K→D}{es:List DictEntry}{l:List (D×D)}{kvs:List (K×Value)}{a:Addr}
theorem fq.eqb(X:fq knd enc n)(a b:K):D.eqb (enc a) (enc b)=decide (a=b):=by
 rw [D.eqb_dec];exact decide_eq_decide.mpr ⟨X.inj a b,fun e=>e▸rfl⟩
theorem pO.keys(e:pO enc φ h kvs l):l.map (·.1)=(kvs.map (·.1)).map enc:=by rw [List.map_map];exact e.map_eq fun uu uu1 q=>q.1
theorem pO.move(hp:φ <+: φ')(hk:du h h')(e:pO enc φ h kvs l):pO enc φ' h' kvs l:=e.imp fun uu uu1 uu2 q=>⟨q.1,q.2.mono hp hk⟩
theorem de.toKvs(X:fq knd enc n)(e:de w φ h es l)(k:cW n l=true):
  ∃ kvs:List (K×Value),(∀ e∈es,∃ k,knd.is k e.key=true∧e.hash=knd.hash k)∧Pairs knd es kvs∧pO enc φ h kvs l:=by
 induction es generalizing l with
 | nil=>cases l with
  | nil=>exact ⟨[],fun uu q=>absurd q List.not_mem_nil,.nil,trivial⟩
  | cons=>exact e.elim
 | cons e1 es ih=>cases l with
  | nil=>exact e.elim
  | cons q l=>
   obtain ⟨q1,q2⟩:=ii k
   obtain ⟨kvs,h1,h2,h3⟩:=ih e.2 q2
   obtain ⟨x,hx⟩:=X.inv _ q1
   obtain ⟨⟨eh,ek,_,ev⟩,_⟩:=e
   rw [hx] at eh ek
   exact ⟨(x,e1.val)::kvs,fun e he=>(bo he).elim (fun z=>z▸⟨x,X.to ek,eh.trans (X.hash x)⟩) (h1 e),.cons (X.to ek) rfl h2,⟨hx,ev⟩,h3⟩
theorem jf.toKvs(X:fq knd enc n)(m:jf w φ h p (.dct l))(k:cW n l=true):∃ kvs,h.DictOf knd p.1 kvs∧pO enc φ h kvs l:=by
 obtain ⟨e,z,nd,es,m,ho,he⟩:=m
 obtain ⟨kvs,h1,h2,h3⟩:=de.toKvs X he k
 exact ⟨kvs,⟨_,_,_,ho,⟨rfl,rfl,rfl⟩,rfl,fun e q=>h1 e (Array.mem_toList_iff.mpr q),h2,fZ enc (h3.keys▸nd)⟩,h3⟩
theorem pO.look(X:fq knd enc n)(e:pO enc φ h kvs l)(k:K):eJ φ h (valueAt kvs k) (bh (enc k) l):=by
 induction kvs generalizing l with
 | nil=>cases l with
  | nil=>exact trivial
  | cons=>exact e.elim
 | cons a kvs ih=>cases l with
  | nil=>exact e.elim
  | cons b l=>
   unfold valueAt at *
   rw [cy,e.1.1,X.eqb,List.find?_cons]
   by_cases q:a.1=k
   ·rw [decide_eq_true q];exact e.1.2
   ·rw [decide_eq_false q];exact ih e.2
theorem kY(e:pO enc φ h kvs l){p:K×Value}(m:p∈kvs):∃ d,(enc p.1,d)∈l:=let ⟨b,q1,q2,_⟩:=e.mem m;⟨b.2,q2▸q1⟩
theorem de.sizes(e:de w φ h es l){x:Str}{d:D}(m:(D.str x,d)∈l):x.cps.size≤cx:=by
 obtain ⟨i,hi⟩:=List.mem_iff_getElem?.mp m
 obtain ⟨_,_,_,⟨_,_,z⟩,_⟩:=F2.get e hi
 exact z
theorem jf.of_kvs(X:fq knd enc n)(x:h.DictOf knd a kvs)(e:pO enc φ h kvs l)(hz:∀ p∈kvs,∀ x,enc p.1=.str x→x.cps.size≤cx)(hl:l.length < 100000):jf w φ h (a,a) (.dct l):=by
 obtain ⟨o,es,ep,ho,he,hd,hk,hp,nd⟩:=x
 rw [mD he hd] at ho
 refine ⟨rfl,hl,by rw [e.keys];exact wd _ X.inj nd,es,ep,ho,?_⟩
 have hk':∀ e∈es.toList,∃ k,knd.is k e.key=true∧e.hash=knd.hash k:=fun e he=>hk e (Array.mem_toList_iff.mp he)
 clear hk nd hl he ho hd
 generalize es.toList=es' at hp hk'
 induction hp generalizing l with
 | nil=>cases l with
  | nil=>trivial
  | cons=>exact e.elim
 | @cons en kv es kvs h1 h2 _ ih=>cases l with
  | nil=>exact e.elim
  | cons b l=>
   obtain ⟨k',h3,h4⟩:=hk' en aw
   have:=knd.inj _ _ _ h3 h1
   subst this
   exact ⟨⟨by rw [e.1.1,X.hash];exact h4,by rw [e.1.1];exact X.of h1 (hz _ aw),by rw [e.1.1];exact X.hk _,by rw [h2];exact e.1.2⟩,ih e.2 (fun p q=>hz p (aE _ q)) fun e q=>hk' e (aE _ q)⟩
theorem de.put(X:fq knd enc n)(e:de w φ h es l)(ks:cW n l=true){k:K}{kv v:Value}{d:D}(hK:V φ h kv (enc k))(hV:V φ h v d):
  (∀ i,(es.findIdx? fun e=>knd.is k e.key)=some i→de w φ h (es.modify i fun e=>{ e with val:=v }) (cL (enc k) d l))∧
  ((es.findIdx? fun e=>knd.is k e.key)=none→de w φ h (es++[⟨knd.hash k,kv,v⟩]) (cL (enc k) d l)):=by
 induction es generalizing l with
 | nil=>cases l with
  | nil=>exact ⟨fun i q=>(nomatch q),fun uu=>⟨⟨(X.hash k).symm,hK,X.hk k,hV⟩,trivial⟩⟩
  | cons=>exact e.elim
 | cons en es ih=>cases l with
  | nil=>exact e.elim
  | cons b l=>
   obtain ⟨q1,q2⟩:=ii ks
   obtain ⟨x,hx⟩:=X.inv _ q1
   have ih:=ih e.2 q2
   obtain ⟨⟨eh,ek,hk,ev⟩,er⟩:=e
   have e1:knd.is k en.key=decide (x=k):=by
    rw [knd.is_eq_decide (X.to (hx▸ek))];exact decide_eq_decide.mpr eq_comm
   rw [cO,hx,X.eqb,List.findIdx?_cons,e1]
   by_cases q:x=k
   ·subst q
    rw [decide_eq_true rfl]
    exact ⟨fun i hi=>(by cases hi;exact ⟨⟨hx▸eh,hx▸ek,hx▸hk,hV⟩,er⟩),fun hi=>nomatch hi⟩
   ·rw [decide_eq_false q]
    cases q2:es.findIdx? fun e=>knd.is k e.key with
    | none=>exact ⟨fun i hi=>(nomatch hi),fun uu=>⟨⟨eh,ek,hk,ev⟩,ih.2 q2⟩⟩
    | some j=>exact ⟨fun i hi=>(by cases hi;exact ⟨⟨eh,ek,hk,ev⟩,ih.1 j q2⟩),fun hi=>nomatch hi⟩
theorem de.strK{es:Array DictEntry}(e:de w φ h es.toList l)(ks:cW 2 l=true):wX es:=fun en q=>by
 obtain ⟨b,q1,q2⟩:=F2.mem e q
 obtain ⟨x,hx⟩:=(jE w).inv _ (eq_of_beq (db ks b q1))
 obtain ⟨t,ht,_⟩:V φ h en.key (.str x):=hx▸q2.2.1
 exact ⟨x,t,ht⟩
abbrev ve(φ:Phi)(h:Heap)(xs:List (D×Addr×Value))(l:List (D×D)):Prop:=F2 (fun (p:D×Addr×Value) (q:D×D)=>q.1=p.1∧V φ h (.ref p.2.1) p.1∧p.1.hk=true∧V φ h p.2.2 q.2) xs l
variable {xs:List (D×Addr×Value)}
theorem ve.keys(e:ve φ h xs l):l.map (·.1)=xs.map (·.1):=e.map_eq fun uu uu1 q=>q.1
theorem ve.move(hk:du h h')(e:ve φ h xs l):ve φ h' xs l:=e.imp fun uu uu1 uu2 q=>⟨q.1,q.2.1.mono (aJ _) hk,q.2.2.1,q.2.2.2.mono (aJ _) hk⟩
theorem mN(x:D×Addr×Value)(xs:List (D×Addr×Value))(k:D):atKey (x::xs) k=if x.1=k then some x.2 else atKey xs k:=by
 unfold atKey
 rw [List.find?_cons]
 by_cases q:x.1=k<;>simp [q]
theorem ve.look(e:ve φ h xs l)(k:D):eJ φ h ((atKey xs k).map (·.2)) (bh k l):=by
 induction xs generalizing l with
 | nil=>cases l with
  | nil=>exact trivial
  | cons=>exact e.elim
 | cons a xs ih=>cases l with
  | nil=>exact e.elim
  | cons b l=>
   rw [mN,cy,e.1.1,D.eqb_dec]
   by_cases q:a.1=k
   ·rw [decide_eq_true q,if_pos q];exact e.1.2.2.2
   ·rw [decide_eq_false q,if_neg q];exact ih e.2
theorem ve.put(e:ve φ h xs l){k:D}{a:Addr}{v:Value}{d:D}(hA:V φ h (.ref a) k)(hk:k.hk=true)(hV:V φ h v d)(nd:(xs.map (·.1)).Nodup):ve φ h (storedH xs k a v) (cL k d l):=by
 induction xs generalizing l with
 | nil=>cases l with
  | nil=>exact ⟨⟨rfl,hA,hk,hV⟩,trivial⟩
  | cons=>exact e.elim
 | cons x xs ih=>cases l with
  | nil=>exact e.elim
  | cons b l=>
   rw [List.map_cons,List.nodup_cons] at nd
   have ih:=ih e.2 nd.2
   unfold storedH at *
   rw [mN,cO,e.1.1,D.eqb_dec]
   by_cases q:x.1=k
   ·subst q
    rw [decide_eq_true rfl,if_pos rfl]
    have e1:xs.map (putAt x.1 v)=xs:=map_putAt_of_not_mem xs x.1 v nd.1
    simp only [Option.isSome_some,if_true,List.map_cons,e1]
    unfold putAt
    rw [if_pos rfl]
    exact ⟨⟨rfl,e.1.2.1,hk,hV⟩,e.2⟩
   ·rw [decide_eq_false q,if_neg q]
    cases c:(atKey xs k).isSome with
    | true=>
     rw [c] at ih
     simp only [if_true,List.map_cons] at ih ⊢
     rw [show putAt k v x=x from if_neg q]
     exact ⟨e.1,ih⟩
    | false=>rw [c] at ih;exact ⟨e.1,ih⟩
theorem jf.tups(m:jf w φ h p (.dct l))(k:cW 3 l=true):∃ xs,h.DictOfH (fi pw0 w) p.1 xs∧ve φ h xs l:=by
 obtain ⟨e,z,nd,es,m,ho,he⟩:=m
 have:∃ xs:List (D×Addr×Value),es.toList=xs.map (entryOfKey (fi pw0 w))∧(∀ x∈xs,(fi pw0 w).is h x.1 x.2.1)∧ve φ h xs l:=by
  clear ho nd z
  generalize es.toList=es at he
  induction es generalizing l with
  | nil=>cases l with
   | nil=>exact ⟨[],rfl,fun uu q=>absurd q List.not_mem_nil,trivial⟩
   | cons=>exact he.elim
  | cons en es ih=>cases l with
   | nil=>exact he.elim
   | cons b l=>
    obtain ⟨q1,q2⟩:=ii k
    obtain ⟨xs,h1,h2,h3⟩:=ih q2 he.2
    obtain ⟨ds,hx⟩:=t7 q1
    obtain ⟨eh,ek,ev⟩:=en
    obtain ⟨⟨e1,e2,e3,e4⟩,_⟩:=he
    dsimp only at e1 e2 e3 e4
    have e2':=e2
    rw [hx] at e2
    obtain ⟨a,_,_,rfl,_⟩:=e2
    exact ⟨(b.1,a,ev)::xs,by rw [List.map_cons,←h1,e1];rfl,fun x q=>(bo q).elim (fun z=>z▸⟨e2'.tv e3,e3⟩) (h2 x),⟨rfl,e2',e3,e4⟩,h3⟩
 obtain ⟨xs,h1,h2,h3⟩:=this
 exact ⟨xs,⟨_,_,_,ho,⟨rfl,rfl,rfl⟩,rfl,h1,h2,h3.keys▸nd⟩,h3⟩
theorem jf.of_tups(x:h.DictOfH (fi pw0 w) a xs)(e:ve φ h xs l)(hl:l.length < 100000):jf w φ h (a,a) (.dct l):=by
 obtain ⟨o,es,ep,ho,he,hd,hk,hi,nd⟩:=x
 rw [mD he hd] at ho
 refine ⟨rfl,hl,e.keys.symm▸nd,es,ep,ho,?_⟩
 rw [hk]
 clear hk nd hl ho hd hi
 induction xs generalizing l with
 | nil=>cases l<;>exact e
 | cons x xs ih=>cases l with
  | nil=>exact e
  | cons b l=>exact ⟨⟨by rw [e.1.1];rfl,by rw [e.1.1];exact e.1.2.1,by rw [e.1.1];exact e.1.2.2.1,e.1.2.2.2⟩,ih e.2⟩
end
def Pu{α:Type}(o:Option α)(p:α→Prop):Prop:=match o with
 | some x=>p x
 | none=>False
section
variable {o:Option α}{p q:α→Prop}
theorem Pu.imp(h:Pu o p)(k:∀ x,p x→q x):Pu o q:=by cases o with
 | none=>exact h
 | some x=>exact k x h
theorem Pu.eq(h:Pu o p):∃ x,o=some x∧p x:=by cases o with
 | none=>exact h.elim
 | some x=>exact ⟨x,rfl,h⟩
theorem Pu.of{x:α}(e:o=some x)(h:p x):Pu o p:=e▸h
theorem Pu.bd{γ:Type}{o:Option (α×γ)}{k:α→γ→Option β}{p:β→Prop}(h:Pu (bd o k) p):Pu o fun x=>Pu (k x.1 x.2) p:=by cases o<;>exact h
theorem Pu.bs{o:Option (Fl×L×H)}{n k:L→H→Option α}{r:D→L→H→Option α}(h:Pu (bs o n k r) p):Pu o fun x=>match x.1 with
  | .next=>Pu (n x.2.1 x.2.2) p
  | .cont=>Pu (k x.2.1 x.2.2) p
  | .ret d=>Pu (r d x.2.1 x.2.2) p:=(Pu.bd h).imp fun x h=>by obtain ⟨f,x⟩:=x;cases f<;>exact h
theorem Pu.bind{k:α→Option β}{p:β→Prop}(h:Pu (o.bind k) p):Pu o fun x=>Pu (k x) p:=by cases o<;>exact h
theorem Pu.map{k:α→β}{p:β→Prop}(h:Pu (o.map k) p):Pu o fun x=>p (k x):=by cases o<;>exact h
theorem Pu.ite{c:Prop}[Decidable c](h:Pu (if c then o else none) p):c∧Pu o p:=by
 by_cases z:c
 ·rw [if_pos z] at h;exact ⟨z,h⟩
 ·rw [if_neg z] at h;exact h.elim
theorem Pu.ite'{c:Prop}[Decidable c](h:Pu (if c then none else o) p):¬ c∧Pu o p:=by
 by_cases z:c
 ·rw [if_pos z] at h;exact h.elim
 ·rw [if_neg z] at h;exact ⟨z,h⟩
@[elab_as_elim] theorem Pu.on1 {ds:List D} {f:D→Option α} (h:Pu (on1 ds f) p) {G:List D→Prop} (k:∀ x,Pu (f x) p→G [x]):G ds:=by
 rcases ds with _|⟨x,_|⟨y,r⟩⟩
 ·exact h.elim
 ·exact k x h
 ·exact h.elim
@[elab_as_elim] theorem Pu.on2 {ds:List D} {f:D→D→Option α} (h:Pu (on2 ds f) p) {G:List D→Prop} (k:∀ x y,Pu (f x y) p→G [x,y]):G ds:=by
 rcases ds with _|⟨x,_|⟨y,_|⟨z,r⟩⟩⟩
 ·exact h.elim
 ·exact h.elim
 ·exact k x y h
 ·exact h.elim
theorem Pu.onL{o:Option MO}{f:List D→Option α}(h:Pu (onL o f) p):∃ l,o=some (.lst l)∧Pu (f l) p:=by
 rcases o with _|_|_|_<;>first|exact h.elim|exact ⟨_,rfl,h⟩
theorem Pu.onO{o:Option MO}{f:Nat→List (Str×D)→Option α}(h:Pu (onO o f) p):∃ C l,o=some (.ins C l)∧Pu (f C l) p:=by
 rcases o with _|_|_|_<;>first|exact h.elim|exact ⟨_,_,rfl,h⟩
theorem Pu.onD{o:Option MO}{f:List (D×D)→Option α}(h:Pu (onD o f) p):∃ l,o=some (.dct l)∧Pu (f l) p:=by
 rcases o with _|_|_|_<;>first|exact h.elim|exact ⟨_,rfl,h⟩
variable {u:Value}
@[elab_as_elim] theorem V.onI (hv:V φ h v d) {f:Int→Option α} (z:Pu (onI d f) p) {G:Value→Prop} (k:∀ i t,Pu (f i) p→G (.int i t)):G v:=by
 cases d with
 | int i=>exact hv.int_ fun t=>k _ t z
 | _=>exact z.elim
@[elab_as_elim] theorem V.onS (hv:V φ h v d) {f:Str→Option α} (z:Pu (onS d f) p) {G:Value→Prop} (k:∀ x t,x.cps.size≤cx→Pu (f x) p→G (.str x t)):G v:=by
 cases d with
 | str i=>exact hv.str_ fun t e=>k _ t e z
 | _=>exact z.elim
@[elab_as_elim] theorem V.onT (hv:V φ h v d) {f:List D→Option α} (z:Pu (onT d f) p) {G:Value→Prop} (k:∀ ds,V φ h v (.tup ds)→Pu (f ds) p→G v):G v:=by
 cases d with
 | tup i=>exact k _ hv z
 | _=>exact z.elim
@[elab_as_elim] theorem V.onR (hv:V φ h v d) {f:Nat→Option α} (z:Pu (onR d f) p) {G:Value→Prop} (k:∀ n a,φ[n]?=some a→Pu (f n) p→G (.ref a.1)):G v:=by
 cases d with
 | ref i=>exact hv.ref_ fun a e=>k _ a e z
 | _=>exact z.elim
@[elab_as_elim] theorem V.int2 (hu:V φ h u d) (hv:V φ h v e) {f:Int→Int→Option α} (z:Pu (int2 d e f) p) {G:Value→Value→Prop} (k:∀ i j t t',Pu (f i j) p→G (.int i t) (.int j t')):G u v:=
 hu.onI (G:=fun u=>G u v) z fun i t z=>hv.onI (G:=fun v=>G _ v) z fun j t' z=>k i j t t' z
end
def u7(env:Env)(h:Heap)(x:Str)(v:Value):Prop:=
 (env.scope.names.lookup x=some .local∧∃ m,h.Ns env.locals m∧m x=some v)∨
 ((env.scope.names.lookup x=some .cell∨env.scope.names.lookup x=some .free)∧∃ c,env.cells.lookup x=some c∧h.IsCell c (some v))
def tU(env:Env)(φ:Phi)(h:Heap)(g:G)(l:L):Prop:=∀ x i d,look x g=some i→l i=some d→∃ v,u7 env h x v∧V φ h v d
structure aW(hb:Heap)(env:Env)(φ:Phi)(h:Heap):Prop where
 kind:env.scope.kind=.function
 glob:env.globals=mainGlobals
 blt:env.builtins=builtinsNs
 locs:∃ m,h.Ns env.locals m
 free:¬ dm φ env.locals
 cells:∀ x c,env.cells.lookup x=some c→¬ dm φ c∧∃ v,h.IsCell c v
 newL:hb.get? env.locals=none
 newC:∀ x c,env.cells.lookup x=some c→hb.get? c=none
 has:∀ x,env.scope.names.lookup x=some .cell∨env.scope.names.lookup x=some .free→(env.cells.lookup x).isSome=true
 apart:∀ x y c,env.cells.lookup x=some c→env.cells.lookup y=some c→x=y
 ne:∀ x c,env.cells.lookup x=some c→c≠env.locals
structure aM(w:World)(hb:Heap)(φ:Phi)(s:Shared)(H':H)(φ':Phi)(s':Shared):Prop where
 r:R w hb φ' s'.heap H'
 st:eI φ s.heap φ' s'.heap
 os:s'.os=s.os
 gens:s'.gens=s.gens
section
theorem aM.trans(a:aM w hb φ s M φ' s')(b:aM w hb φ' s' M' φ'' s''):aM w hb φ s M' φ'' s'':=⟨b.r,a.st.trans b.st,b.os.trans a.os,b.gens.trans a.gens⟩
theorem aM.tok(r:R w hb φ s.heap M)(t:Nat):aM w hb φ s M φ { s with toks:=t }:=⟨r,eI.refl _ _,rfl,rfl⟩
theorem aM.refl(r:R w hb φ s.heap M):aM w hb φ s M φ s:=⟨r,eI.refl _ _,rfl,rfl⟩
theorem aM.lay(r:R w hb φ s.heap M)(o:Obj)(t:Nat):aM w hb φ s M φ { s with heap:=s.heap.push o,toks:=t }:=⟨r.push o,eI.keeps φ fun uu uu1=>Heap.get?_push_of_some o,rfl,rfl⟩
theorem dm.old{a:Addr}{o:Obj}(x:eI φ h φ' h')(e:h.get? a=some o)(n:¬ dm φ a):¬ dm φ' a:=fun q=>aD e (x.fresh a q n)
theorem u7.kept{n:Str}{v:Value}(hL:∀ o,h.get? env.locals=some o→h'.get? env.locals=some o)(hC:∀ y c o,env.cells.lookup y=some c→h.get? c=some o→h'.get? c=some o)(e:u7 env h n v):u7 env h' n v:=
 by
 rcases e with ⟨k,m,⟨o,es,ep,ho,r⟩,hv⟩|⟨k,c,hc,o,ho,hd⟩
 ·exact .inl ⟨k,m,⟨o,es,ep,hL _ ho,r⟩,hv⟩
 ·exact .inr ⟨k,c,hc,o,hC _ _ _ hc ho,hd⟩
theorem aW.move(f:aW hb env φ h)(hL:∀ o,h.get? env.locals=some o→h'.get? env.locals=some o)(hC:∀ y c o,env.cells.lookup y=some c→h.get? c=some o→h'.get? c=some o)(no:∀ a o,h.get? a=some o→¬ dm φ a→¬ dm φ' a):aW hb env φ' h':=
 by
 obtain ⟨m,o,es,ep,ho,r⟩:=f.locs
 refine ⟨f.kind,f.glob,f.blt,⟨m,o,es,ep,hL _ ho,r⟩,no _ _ ho f.free,fun y c hc=>?_,f.newL,f.newC,f.has,f.apart,f.ne⟩
 obtain ⟨h1,v,o',ho',hd⟩:=f.cells y c hc
 exact ⟨no _ _ ho' h1,v,o',hC _ _ _ hc ho',hd⟩
theorem eI.keepL(f:aW hb env φ h)(x:eI φ h φ' h'):(∀ o,h.get? env.locals=some o→h'.get? env.locals=some o)∧∀ y c o,env.cells.lookup y=some c→h.get? c=some o→h'.get? c=some o:=
 ⟨fun o e=>x.keep _ _ e f.free,fun y c o hc e=>x.keep _ _ e (f.cells y c hc).1⟩
theorem aW.step(f:aW hb env φ h)(x:eI φ h φ' h'):aW hb env φ' h':=f.move (x.keepL f).1 (x.keepL f).2 fun uu uu1 e n=>dm.old x e n
theorem tU.step(r:R w hb φ h M)(f:aW hb env φ h)(x:eI φ h φ' h')(e:tU env φ h g l):tU env φ' h' g l:=fun n i d a b=>
 (e n i d a b).elim fun v q=>⟨v,q.1.kept (x.keepL f).1 (x.keepL f).2,q.2.step r x⟩
structure Fr(w:World)(hb:Heap)(env:Env)(g:G)(φ:Phi)(s:Shared)(M:H)(l:L):Prop where
 r:R w hb φ s.heap M
 fr:aW hb env φ s.heap
 lo:tU env φ s.heap g l
theorem Fr.step(F:Fr w hb env g φ s M l)(x:aM w hb φ s M' φ' s'):Fr w hb env g φ' s' M' l:=⟨x.r,F.fr.step x.st,F.lo.step F.r F.fr x.st⟩
def Kv(w:World)(hb:Heap)(φ:Phi)(s:Shared)(Q:Value→Shared→Prop)(x:D×H):Prop:=∀ v s' φ',aM w hb φ s x.2 φ' s'→V φ' s'.heap v x.1→Q v s'
def Kt{α:Type}(w:World)(hb:Heap)(φ:Phi)(s:Shared)(Q:α→Shared→Prop)(x:α×H):Prop:=∀ s' φ',aM w hb φ s x.2 φ' s'→Q x.1 s'
def Kl(w:World)(hb:Heap)(φ:Phi)(s:Shared)(Q:List Value→Shared→Prop)(x:List D×H):Prop:=∀ vs s' φ',aM w hb φ s x.2 φ' s'→Vs φ' s'.heap vs x.1→Q vs s'
theorem Kv.after{Q:Value→Shared→Prop}{x:D×H}(D:aM w hb φ s M φ' s')(k:Kv w hb φ s Q x):Kv w hb φ' s' Q x:=fun v s2 φ2 D2 V2=>k v s2 φ2 (D.trans D2) V2
theorem Kt.after{α:Type}{Q:α→Shared→Prop}{x:α×H}(D:aM w hb φ s M φ' s')(k:Kt w hb φ s Q x):Kt w hb φ' s' Q x:=fun s2 φ2 D2=>k s2 φ2 (D.trans D2)
theorem Pu.after{Q:Value→Shared→Prop}{o:Option (D×H)}(p:Pu o (Kv w hb φ s Q))(D:aM w hb φ s M φ' s'):Pu o (Kv w hb φ' s' Q):=p.imp fun uu k=>k.after D
theorem Pu.afterT{α:Type}{Q:α→Shared→Prop}{o:Option (α×H)}(p:Pu o (Kt w hb φ s Q))(D:aM w hb φ s M φ' s'):Pu o (Kt w hb φ' s' Q):=p.imp fun uu k=>k.after D
def aB(w:World)(hb:Heap)(A:Around)(env:Env)(g:G)(cf:CF)(x:X)(t:Sem Value):Prop:=
 ∀ ⦃s⦄ {φ M l Q},Fr w hb env g φ s M l→Pu (x cf l M) (Kv w hb φ s Q)→wpAny (model pw0 w) A t Q bX s
def fk(w:World)(hb:Heap)(A:Around)(env:Env)(g:G)(cf:CF)(x:XT)(t:Sem Bool):Prop:=
 ∀ ⦃s⦄ {φ M l Q},Fr w hb env g φ s M l→Pu (x cf l M) (Kt w hb φ s Q)→wpAny (model pw0 w) A t Q bX s
def va(w:World)(hb:Heap)(A:Around)(env:Env)(g:G)(cf:CF)(as:List X)(t:Sem (List Value)):Prop:=
 ∀ {s φ M l Q},Fr w hb env g φ s M l→Pu (xs as cf l M) (Kl w hb φ s Q)→wpAny (model pw0 w) A t Q bX s
def DT(w:World)(hb:Heap)(A:Around)(f:D→H→Option (D×H))(o:Value→Sem Value):Prop:=
 ∀ {s φ M d u Q},R w hb φ s.heap M→V φ s.heap u d→Pu (f d M) (Kv w hb φ s Q)→wpAny (model pw0 w) A (o u) Q bX s
def IU(w:World)(hb:Heap)(A:Around)(f:D→D→H→Option (D×H))(o:Value→Value→Sem Value):Prop:=
 ∀ {s φ M d e u v Q},R w hb φ s.heap M→V φ s.heap u d→V φ s.heap v e→Pu (f d e M) (Kv w hb φ s Q)→wpAny (model pw0 w) A (o u v) Q bX s
theorem aZ{t:Sem Value}:aB w hb A env g cf aS t:=fun uu=>fun uu e=>e.elim
theorem xQ{k pos}:aB w hb A env g cf (xk .none) (eval (.Constant .none k pos) env):=fun uu=>fun F p=>(fun uu uu1 uu2=>p .none _ _ (.refl F.r) .none)
theorem xW{b:Bool}{k pos}:aB w hb A env g cf (xk (.bool b)) (eval (.Constant (.bool b) k pos) env):=fun uu=>fun F p=>(fun uu uu1 uu2=>p (.bool b) _ _ (.refl F.r) (.bool b))
theorem AU{i:Int}{k pos}:aB w hb A env g cf (ki i) (eval (.Constant (.int i) k pos) env):=fun uu=>fun F p=>wpAny_Constant_int (p _ _ _ (.tok F.r _) (.int i _))
theorem AP{x:Str}{i:Nat}{pos}(hx:look x g=some i)(hd:(x==("__debug__":Str))=false)(hcd:(x==("__classdict__":Str))=false):aB w hb A env g cf (xv i) (eval (.Name x pos) env):=fun s=>fun {φ M l Q} F p=>by
 obtain ⟨d,q,p⟩:∃ d,l i=some d∧Kv w hb φ s Q (d,M):=by
  have p:Pu (match l i with|some d=>some (d,M)|none=>none) (Kv w hb φ s Q):=p
  cases q:l i with
  | none=>rw [q] at p;exact p.elim
  | some d=>rw [q] at p;exact ⟨d,rfl,p⟩
 obtain ⟨v,hv,hV⟩:=F.lo x i d hx q
 refine wpAny_Name ?_ hd
 have q':=p v s φ (.refl F.r) hV
 rcases hv with ⟨k,m,hm,hv⟩|⟨k|k,c,hc,ho⟩
 ·exact wpAny_loadName_local F.fr.kind k hm hv q'
 ·exact wpAny_loadName_cell F.fr.kind k hc ho q'
 ·exact wpAny_loadName_free F.fr.kind k hc ho q' hcd
theorem uc{a:X}{ta:Sem Value}{f:D→H→Option (D×H)}{o:Value→Sem Value}{t:Sem Value}
  (rule:∀ (s:Shared) (Q:Value→Shared→Prop),wpAny (model pw0 w) A ta (fun u s₁=>wpAny (model pw0 w) A (o u) Q bX s₁) bX s→wpAny (model pw0 w) A t Q bX s)
  (ha:aB w hb A env g cf a ta) (ho:DT w hb A f o):aB w hb A env g cf (x1 a f) t:=fun uu=>fun F p=>rule _ _ (ha F (p.bd.imp fun uu p v1 s1 φ1 D1 V1=>ho D1.r V1 (p.after D1)))
theorem oM{a b:X}{ta tb:Sem Value}{f:D→D→H→Option (D×H)}{o:Value→Value→Sem Value}{t:Sem Value}
  (rule:∀ (s:Shared) (Q:Value→Shared→Prop),wpAny (model pw0 w) A ta (fun u s₁=>wpAny (model pw0 w) A tb (fun v s₂=>wpAny (model pw0 w) A (o u v) Q bX s₂) bX s₁) bX s→wpAny (model pw0 w) A t Q bX s)
  (ha:aB w hb A env g cf a ta) (hb':aB w hb A env g cf b tb) (ho:IU w hb A f o):aB w hb A env g cf (x2 a b f) t:=fun uu=>fun F p=>
 rule _ _ (ha F (p.bd.imp fun uu p v1 s1 φ1 D1 V1=>hb' (F.step D1) (p.bd.imp fun uu p v2 s2 φ2 D2 V2=>ho D2.r (V1.step D1.r D2.st) V2 (p.after (D1.trans D2)))))
end
section
variable {u:Value}
theorem zM{α β:Type}{R:α→β→Prop}{a:Array α}{l:List β}(h:F2 R a.toList l):(!a.isEmpty)=!l.isEmpty:=by
 obtain ⟨a⟩:=a
 cases a<;>cases l<;>first|rfl|exact h.elim
theorem uZ{α β:Type}{R:α→β→Prop}{a:List α}{l:List β}(h:F2 R a l):(!a.isEmpty)=!l.isEmpty:=by
 cases a<;>cases l<;>first|rfl|exact h.elim
theorem uH(r:R w hb φ h M){p:Addr×Addr}(hp:φ[n]?=some p){l:List (D×D)}(ho:(M:List MO)[n]?=some (.dct l))(hf:fE l=true){G:Prop}
  (k1:∀ kvs,h.DictOf (intKind pw0 w) p.1 kvs→pO .int φ h kvs l→kvs.length < 100000→G) (k2:∀ kvs,h.DictOf (strKind pw0 w) p.1 kvs→pO .str φ h kvs l→kvs.length < 100000→G):G:=by
 have m:=r.obj n p _ hp ho
 have hl:l.length < 100000:=m.2.1
 rcases (Bool.or_eq_true _ _).mp hf with hf|hf
 ·obtain ⟨kvs,hd,hk⟩:=m.toKvs (tF w) hf;exact k1 kvs hd hk (hk.length▸hl)
 ·obtain ⟨kvs,hd,hk⟩:=m.toKvs (jE w) hf;exact k2 kvs hd hk (hk.length▸hl)
theorem ji(r:R w hb φ s.heap M)(hV:V φ s.heap u d){q:Bool→Prop}(e:Pu (gG d M) q){Q:Bool→Shared→Prop}(h:∀ b t,q b→Q b { s with toks:=t }):wpAny (model pw0 w) A (truthy u) Q bX s:=by
 cases d with
 | none=>cases hV;exact truthy_none (h _ s.toks e)
 | bool c=>cases hV;exact wpAny_truthy_bool (h _ s.toks e)
 | int i=>exact hV.int_ fun t=>truthy_int (h _ s.toks e)
 | str x=>
  refine hV.str_ fun t hx=>P.truthy_str (by have:x.length=x.cps.size:=rfl;unfold cx at hx;omega) (h _ _ ?_)
  have e1:((x.length:Int) != 0)=(x.cps.size != 0):=by
   rw [Bool.eq_iff_iff,bne_iff_ne,bne_iff_ne];exact not_congr Int.natCast_eq_zero
  rw [e1];exact e
 | tup ds=>
  refine hV.tup_ fun a xs n ho hl hi=>truthy_tuple ⟨_,ho,rfl,_,rfl⟩ (by have:=hi.length;rw [Array.length_toList] at this;omega) (h _ _ ?_)
  rw [zM hi];exact e
 | ref n=>
  refine hV.ref_ fun p hp=>?_
  have e:Pu (match (M:List MO)[n]? with|some (.lst l)=>some (!l.isEmpty)|some (.dct l)=>if fE l then some (!l.isEmpty) else none|_=>none) q:=e
  cases ho:(M:List MO)[n]? with
  | none=>rw [ho] at e;exact e.elim
  | some o=>
   rw [ho] at e
   cases o with
   | lst l=>exact r.lst hp ho fun xs m uu hq hi hl=>wpAny_truthy_list ⟨_,hq,rfl,_,rfl⟩ (by have:=hi.length;rw [Array.length_toList] at this;omega) (h _ _ (by rw [zM hi];exact e))
   | dct l=>
    obtain ⟨hf,e⟩:=Pu.ite e
    exact uH r hp ho hf (fun kvs hd hk hz=>wpAny_truthy_dict (r.notMods hp) hd (by omega) (h _ _ (by rw [uZ hk];exact e))) fun kvs hd hk hz=>wpAny_truthy_dict (r.notMods hp) hd (by omega) (h _ _ (by rw [uZ hk];exact e))
   | ins C l=>exact e.elim
 | rng=>exact hV.elim
theorem xH{a:X}{ta:Sem Value}{t:Sem Bool}
  (rule:∀ (s:Shared) (Q:Bool→Shared→Prop),wpAny (model pw0 w) A ta (fun u s₁=>wpAny (model pw0 w) A (truthy u) Q bX s₁) bX s→wpAny (model pw0 w) A t Q bX s)
  (ha:aB w hb A env g cf a ta):fk w hb A env g cf (xt a) t:=fun uu=>fun F p=>
 rule _ _ (ha F (p.bd.imp fun uu p v1 s1 φ1 D1 V1=>ji D1.r V1 p.map fun b t k=>k _ φ1 (D1.trans (.tok D1.r t))))
theorem I1{a b:X}{ta tb:Sem Value}{v:Bool}(F:Fr w hb env g φ s M l){Q:Value→Shared→Prop}(ha:aB w hb A env g cf a ta)(hb':aB w hb A env g cf b tb)(p:Pu (bif v then a cf l M else b cf l M) (Kv w hb φ s Q)):wpAny (model pw0 w) A (bif v then ta else tb) Q bX s:=by
 cases v with
 | true=>exact ha F p
 | false=>exact hb' F p
theorem AO{t:XT}{a b:X}{x:Expr}{ta tb:Expr}{pos:Pos}(ht:fk w hb A env g cf t (isTrue x env (eval x env)))(ha:aB w hb A env g cf a (eval ta env))
  (hb':aB w hb A env g cf b (eval tb env)):aB w hb A env g cf (bz t a b) (eval (.IfExp x ta tb pos) env):=fun uu=>fun F p=>by
 refine wpAny_IfExp (ht F (p.bd.imp fun x p s1 φ1 D1=>?_))
 obtain ⟨c,M1⟩:=x
 cases c with
 | true=>exact ha (F.step D1) (Pu.after p D1)
 | false=>exact hb' (F.step D1) (Pu.after p D1)
theorem xI{t:XT}{x:Expr}{pos:Pos}{whole:Sem Value}(ht:fk w hb A env g cf t (isTrue x env (eval x env))):fk w hb A env g cf (iu t) (isTrue (.UnaryOp .Not x pos) env whole):=fun uu=>fun F p=>
 wpAny_isTrue_Not (ht F (p.bd.imp fun uu k s1 φ1 D1=>k s1 φ1 D1))
theorem lI{t u:XT}{x:Expr}{rest:List Expr}(ht:fk w hb A env g cf t (isTrue x env (eval x env)))(hu:fk w hb A env g cf u (allTrue .And rest env)):fk w hb A env g cf (bM t u) (allTrue .And (x::rest) env):=fun uu=>fun F p=>by
 refine wpAny_allTrue_And_cons (ht F (p.bd.imp fun x p s1 φ1 D1=>?_))
 obtain ⟨c,M1⟩:=x
 cases c with
 | true=>exact hu (F.step D1) (Pu.afterT p D1)
 | false=>exact p s1 φ1 D1
theorem oL{t u:XT}{x:Expr}{rest:List Expr}(ht:fk w hb A env g cf t (isTrue x env (eval x env)))(hu:fk w hb A env g cf u (allTrue .Or rest env)):fk w hb A env g cf (dn t u) (allTrue .Or (x::rest) env):=fun uu=>fun F p=>by
 refine wpAny_allTrue_Or_cons (ht F (p.bd.imp fun x p s1 φ1 D1=>?_))
 obtain ⟨c,M1⟩:=x
 cases c with
 | false=>exact hu (F.step D1) (Pu.afterT p D1)
 | true=>exact p s1 φ1 D1
theorem lH{a b:X}{ta tb:Sem Value}{rest:List (Sem Value)}{pos:Pos}(ha:aB w hb A env g cf a ta)(hb':aB w hb A env g cf b (boolOp pos .And (tb::rest))):
  aB w hb A env g cf (gE a b) (boolOp pos .And (ta::tb::rest)):=fun uu=>fun F p=>by
 refine wpAny_bind (ha F (p.bd.imp fun uu p v1 s1 φ1 D1 V1=>wpAny_bind (wpAny_standAt (wpAny_bind (wpAny_holding (ji D1.r V1 p.bind fun c t p=>?_))))))
 have D2:=D1.trans (.tok D1.r t)
 cases c with
 | false=>exact wpAny_pure (p v1 _ φ1 D2 V1)
 | true=>exact hb' (F.step D2) (Pu.after p D2)
theorem oK{a b:X}{ta tb:Sem Value}{rest:List (Sem Value)}{pos:Pos}(ha:aB w hb A env g cf a ta)(hb':aB w hb A env g cf b (boolOp pos .Or (tb::rest))):
  aB w hb A env g cf (tX a b) (boolOp pos .Or (ta::tb::rest)):=fun uu=>fun F p=>by
 refine wpAny_bind (ha F (p.bd.imp fun uu p v1 s1 φ1 D1 V1=>wpAny_bind (wpAny_standAt (wpAny_bind (wpAny_holding (ji D1.r V1 p.bind fun c t p=>?_))))))
 have D2:=D1.trans (.tok D1.r t)
 cases c with
 | true=>exact wpAny_pure (p v1 _ φ1 D2 V1)
 | false=>exact hb' (F.step D2) (Pu.after p D2)
theorem AX{c:Const}{d:D}{k pos}(hc:IJ c=some d):aB w hb A env g cf (xk d) (eval (.Constant c k pos) env):=by
 cases c with
 | none=>cases hc;exact xQ
 | bool b=>cases hc;exact xW
 | int i=>cases hc;exact AU
 | str x=>
  obtain ⟨hx,e⟩:=Pu.ite (p:=fun y=>y=d) (show Pu (IJ (.str x)) _ from hc▸rfl)
  cases e
  exact fun uu=>fun F p=>wpAny_Constant_str (p _ _ _ (.tok F.r _) (.str (Nat.le_trans hx (by decide))))
 | _=>cases hc
theorem DW{pos:Pos}{es:List Expr}{as:List X}(hl:es.length=as.length)(hst:∀ e r,e∈es→starEach (e::r) env=(false,eval e env)::starEach r env)
  (hs:∀ (i:Nat) (e:Expr) (a:X),es[i]?=some e→as[i]?=some a→aB w hb A env g cf a (eval e env)):va w hb A env g cf as (spliced (backTo pos (starEach es env))):=by
 induction es generalizing as with
 | nil=>cases as with
  | nil=>exact fun F p=>wpAny_items_nil (p [] _ _ (.refl F.r) trivial)
  | cons=>cases hl
 | cons e0 es ih=>cases as with
  | nil=>cases hl
  | cons a as=>
   intro s φ M l Q F p
   refine wpAny_items_cons (hs 0 e0 a rfl rfl F (p.bd.imp fun uu p v1 s1 φ1 D1 V1=>?_)) (hst e0 es aw)
   exact ih (Nat.succ.inj hl) (fun e r q=>hst e r (aE _ q)) (fun i e a h1 h2=>hs (i+1) e a h1 h2) (F.step D1) (p.bd.imp fun uu k vs s2 φ2 D2 V2=>k _ s2 φ2 (D1.trans D2) ⟨V1.step D1.r D2.st,V2⟩)
theorem kC(r:R w hb φ h M):¬ dm φ h.objs.size:=r.none_free (da h)
theorem aM.own(r:R w hb φ s.heap M){o:Obj}{x:MO}(m:jf w (φ++[(s.heap.objs.size,s.heap.objs.size)]) (s.heap.push o) (s.heap.objs.size,s.heap.objs.size) x):
  aM w hb φ s (M++[x]:List MO) (φ++[(s.heap.objs.size,s.heap.objs.size)]) { s with heap:=s.heap.push o }:=by
 have hn:=fz r (da s.heap)
 refine ⟨(r.push o).snoc m (fun n q hq=>?_) hn hn (Nat.ne_of_gt r.big),⟨List.prefix_append _ _,fun a x e uu=>Heap.get?_push_of_some o e,fun a o n=>?_,fun a es n e=>.same (Heap.get?_push_of_some o e)⟩,rfl,rfl⟩
 ·have:=r.lt_size hq
  exact ⟨Nat.ne_of_lt this.1,Nat.ne_of_lt this.1,Nat.ne_of_lt this.2,Nat.ne_of_lt this.2⟩
 ·rcases o.snoc r.ne with o|rfl|rfl
  ·exact (n o).elim
  ·exact da _
  ·exact da _
theorem kg{vs:List Value}{ds:List D}(e:Vs φ h vs ds)(hl:ds.length < 100000):V φ (h.push (gx vs.toArray 0)) (.ref h.objs.size) (.tup ds):=
 .tup (xs:=vs.toArray) (n:=0) (Heap.get?_push_size _ (ho:=rfl)) hl (e.mono (aJ _) (.keeps fun uu uu1=>Heap.get?_push_of_some _))
theorem kJ{vs:List Value}{ds:List D}(e:Vs φ h vs ds)(hl:ds.length < 100000):jf w (φ++[(h.objs.size,h.objs.size)]) (h.push (gP vs.toArray 0)) (h.objs.size,h.objs.size) (.lst ds):=
 ⟨rfl,hl,vs.toArray,0,Heap.get?_push_size _ (ho:=rfl),e.mono (List.prefix_append _ _) (.keeps fun uu uu1=>Heap.get?_push_of_some _)⟩
theorem jJ(r:R w hb φ h M)(h':Heap)(p:Addr×Addr):V (φ++[p]) h' (.ref p.1) (.ref M.length):=.ref (by rw [←r.len];exact List.getElem?_concat_length)
theorem vw{as:List X}{es:List Expr}{k:Nat}{pos:Pos}(ha:va w hb A env g cf as (spliced (backTo pos (starEach es env)))):aB w hb A env g cf (xl as fun uu=>E7 .tup) (eval (.Tuple es k pos) env):=fun uu=>fun F p=>
 wpAny_Tuple (ha F (p.bd.imp fun uu p vs s1 φ1 D1 V1=>have q:=Pu.ite p;have hl:=V1.length;⟨by rw [sizeLine_eq];omega,q.2 _ _ φ1 (D1.trans (.lay D1.r _ _)) (kg V1 (by omega))⟩))
theorem xR{as:List X}{es:List Expr}{pos:Pos}(ha:va w hb A env g cf as (spliced (backTo pos (starEach es env)))):aB w hb A env g cf (xl as fun uu=>zV) (eval (.List es pos) env):=fun uu=>fun F p=>
 wpAny_List (ha F (p.bd.imp fun uu p vs s1 φ1 D1 V1=>have q:=Pu.ite p;have hl:=V1.length;⟨by rw [sizeLine_eq];omega,q.2 _ _ _ (D1.trans (.own D1.r (kJ V1 (by omega)))) (jJ D1.r _ _)⟩))
end
theorem eV{a:Int}(h:cA a=true):Builtin.Int.intBits a≤63:=by
 simp only [cA,decide_eq_true_eq] at h
 unfold Builtin.Int.intBits
 split
 ·omega
 ·have h1:a.natAbs≠0:=by intro q;simp_all
  have h2:a.natAbs.log2 < 63:=(Nat.log2_lt h1).mpr (by omega)
  omega
theorem nQ{a b:Int}(h:cA b=true):¬ (Builtin.divisionGoesByPylong a b)=true:=by
 have:=eV h
 unfold Builtin.Int.intBits at this
 unfold Builtin.divisionGoesByPylong
 simp only [Bool.and_eq_true,decide_eq_true_eq,not_and]
 intro q
 exfalso
 split at q
 ·omega
 ·rename_i hz
  rw [if_neg hz] at this
  omega
theorem Al{i:Int}{n k:Nat}(e:tP i n=some k):seqIndex? i n=some k∧k < n∧(0≤i∧i < n∧k=i.toNat∨i < 0∧0≤i+n∧k=(i+n).toNat):=by
 unfold tP at e
 unfold seqIndex?
 split at e
 ·split at e
  ·cases e
   have:¬ i < 0:=by omega
   exact ⟨by simp only [this,if_false];rw [if_pos (by omega)],by omega,.inl (by omega)⟩
  ·exact fO e
 ·split at e
  ·cases e
   have h2:i < 0:=by omega
   have h3:0≤i+n∧i+n < n:=by omega
   exact ⟨by simp only [h2,if_true];exact if_pos (by simp [h3.1,h3.2]),by omega,.inr (by omega)⟩
  ·exact fO e
theorem tO{α:Type}{i:Int}{n:Nat}{f:Nat→Option α}{p:α→Prop}(h:Pu ((tP i n).bind f) p):∃ k,seqIndex? i n=some k∧k < n∧(0≤i∧i < n∧k=i.toNat∨i < 0∧0≤i+n∧k=(i+n).toNat)∧Pu (f k) p:=by
 obtain ⟨k,e,h⟩:=h.bind.eq
 obtain ⟨a,b,c⟩:=Al e
 exact ⟨k,a,b,c,h⟩
theorem Bl{k:D}{l:List (D×D)}(ok:sJ k l=true){G:D→Prop}(k1:∀ i,cW 1 l=true→G (.int i))(k2:∀ x,cW 2 l=true→G (.str x))(k3:∀ ds,(D.tup ds).hk=true→cW 3 l=true→G (.tup ds)):G k:=by
 have ok:=aG ok
 cases k with
 | int i=>exact k1 i ok.2
 | str x=>exact k2 x ok.2
 | tup ds=>exact k3 ds ok.1 ok.2
 | _=>exact gW ok.1
section
variable {u:Value}
theorem bf{x:Int}{t:Nat}{Q:Value→Shared→Prop}(r:R w hb φ s.heap M)(k:Kv w hb φ s Q (.int x,M))(u:Tok):Q (.int x u) { s with toks:=t }:=k _ _ φ (.tok r _) (.int x _)
theorem CP{ds:List D}(r:R w hb φ s.heap M)(hu:V φ s.heap u (.tup []))(hv:V φ s.heap v (.tup ds)){Q:Value→Shared→Prop}(k:Kv w hb φ s Q (.tup ds,M)):wpAny (model pw0 w) A (binaryOp .Add u v) Q bX s:=by
 have k:=k v s φ (.refl r) hv
 revert k
 refine hu.tup_ (G:=fun u=>_→wpAny (model pw0 w) A (binaryOp .Add u v) Q bX s) fun a1 i1 n1 ho1 uu hi1=>?_
 refine hv.tup_ (G:=fun v=>Q v s→wpAny (model pw0 w) A (binaryOp .Add _ v) Q bX s) fun a2 i2 n2 ho2 uu uu1 k=>?_
 have e1:i1.isEmpty=true:=by
  have:i1.size=0:=hi1.length
  simpa using this
 exact concat_meets ⟨_,ho1,rfl⟩ ⟨_,ho2,rfl⟩ noFill_tuple_add seq_tuple_add F.slot_tuple_add F.entry_tuple_add (F.args_tuple_add_2 _ _) (AutoSeq1.tuple___add___tuple_tuple_0 a1 i1 n1 a2 i2 n2 e1) ⟨ho1,ho2,k⟩
theorem Es(o:Operator):IU w hb A (ft o) (binaryOp o):=fun {s φ M d e u v Q} r hu hv p=>by
 cases o with
 | Add=>
  cases d with
  | tup l=>
   obtain ⟨z,p⟩:=Pu.ite p
   cases l with
   | nil=>exact hv.onT (G:=fun v=>wpAny (model pw0 w) A (binaryOp .Add u v) Q bX s) p fun ds hv k=>CP r hu hv k
   | cons=>exact gW z
  | int i=>exact V.int2 hu hv (f:=fun i j=>some (D.int (i+j),M)) p fun i j t t' k=>AutoIntOps.add_0 (bf r k _)
  | _=>exact p.elim
 | Sub=>exact V.int2 hu hv p fun i j t t' k=>AutoIntOps.sub_0 (bf r k _)
 | Mult=>exact V.int2 hu hv p fun i j t t' k=>have q:=Pu.ite k;AutoIntOps.mul_0 (bf r q.2 _) (IntMulOk.of_left (Nat.le_trans (eV (aG q.1).1) (by decide)))
 | FloorDiv=>exact V.int2 hu hv p fun i j t t' k=>have q:=Pu.ite k;have z:=aG q.1;AutoIntOps.floordiv_1 (by simpa using z.2) (nQ (aG z.1).2) (bf r q.2 _)
 | Mod=>exact V.int2 hu hv p fun i j t t' k=>have q:=Pu.ite k;AutoIntOps.mod_1 (by simpa using q.1) (bf r q.2 _)
 | BitAnd=>exact V.int2 hu hv p fun i j t t' k=>and_int (bf r k _)
 | BitOr=>exact V.int2 hu hv p fun i j t t' k=>or_int (bf r k _)
 | LShift=>exact V.int2 hu hv p fun i j t t' k=>have q:=Pu.ite k;have z:=aG q.1;have y:=of_decide_eq_true z.2;lshift_int y.1 (by have:=eV z.1;omega) (bf r q.2 _)
 | RShift=>exact V.int2 hu hv p fun i j t t' k=>have q:=Pu.ite k;have z:=aG q.1;rshift_int (of_decide_eq_true z.2).1 (bf r q.2 _)
 | _=>exact p.elim
theorem Eo(o:Operator):IU w hb A (Aj o) (inplaceOp o):=fun {s φ M d e u v Q} r hu hv p=>by
 refine V.int2 hu hv p fun i j t t' p=>?_
 cases o with
 | Add=>exact AutoIntOps.iadd_0 (bf r p _)
 | Sub=>exact AutoIntOps.isub_0 (bf r p _)
 | Mult=>have q:=Pu.ite p;exact AutoIntOps.imul_0 (bf r q.2 _) (IntMulOk.of_left (Nat.le_trans (eV (aG q.1).1) (by decide)))
 | FloorDiv=>have q:=Pu.ite p;have z:=aG q.1;exact AutoIntOps.ifloordiv_1 (by simpa using z.2) (nQ (aG z.1).2) (bf r q.2 _)
 | Mod=>have q:=Pu.ite p;exact AutoIntOps.imod_1 (by simpa using q.1) (bf r q.2 _)
 | BitAnd=>exact iand_int (bf r p _)
 | BitOr=>exact ior_int (bf r p _)
 | LShift=>have q:=Pu.ite p;have z:=aG q.1;have y:=of_decide_eq_true z.2;exact ilshift_int y.1 (by have:=eV z.1;omega) (bf r q.2 _)
 | RShift=>have q:=Pu.ite p;have z:=aG q.1;exact irshift_int (of_decide_eq_true z.2).1 (bf r q.2 _)
 | _=>exact p.elim
theorem Ej:DT w hb A (fun d h=>onI d fun i=>some (.int (-i),h)) (unaryOp .USub):=fun r hu p=>hu.onI p fun i t k=>neg_int (bf r k _)
theorem El:DT w hb A (fun d h=>onI d fun i=>some (.int (Builtin.bitNot i),h)) (unaryOp .Invert):=fun r hu p=>hu.onI p fun i t k=>invert_int (bf r k _)
theorem Ei:DT w hb A (fun d h=>(gG d h).map fun b=>(.bool (!b),h)) (unaryOp .Not):=fun r hu p=>not_value (ji r hu p.map fun b t k=>k _ _ _ (.tok r t) (.bool _))
theorem zn{K:Type}[DecidableEq K]{knd:KeyKind pw0 w K}{enc:K→D}(X:fq knd enc n)(neg:Bool){j:Nat}{p:Addr×Addr}{l:List (D×D)}{k:K}(r:R w hb φ s.heap M)(hp:φ[j]?=some p)(ho:(M:List MO)[j]?=some (.dct l))(ks:cW n l=true)(hV:V φ s.heap u (enc k))
  {Q:Value→Shared→Prop} (h:∀ t,Q (.bool (neg ^^ (bh (enc k) l).isSome)) { s with toks:=t }):wpAny (model pw0 w) A (compareOp (if neg then .NotIn else .In) u (.ref p.1)) Q bX s:=by
 obtain ⟨kvs,hd,hk⟩:=(r.obj _ _ _ hp ho).toKvs X ks
 have e:=(hk.look X k).isSome
 cases neg with
 | false=>exact wpAny_in_of (X.to hV) (r.notMods hp) hd.mapOf (by rw [e];simpa using h _)
 | true=>exact wpAny_notIn_of (X.to hV) (r.notMods hp) hd.mapOf (by rw [e];simpa using h _)
theorem C9(neg:Bool){c:D}(hu:A.units+10 < cLine)(r:R w hb φ s.heap M)(hV:V φ s.heap u d)(hW:V φ s.heap v c){q:Bool→Prop}(p:Pu (zo d c M) q)
  {Q:Value→Shared→Prop} (h:∀ b t,q b→Q (.bool (neg ^^ b)) { s with toks:=t }):wpAny (model pw0 w) A (compareOp (if neg then .NotIn else .In) u v) Q bX s:=by
 classical
 obtain ⟨hk,p⟩:=Pu.ite' p
 have k:d.hk=true:=by simpa using hk
 have key:∀ {ds:List D} {items:Array Value},Vs φ s.heap items.toList ds→D.hks ds=true→(∀ y,y∈items→EqAt A.in1 s y u (decide (TV s.heap y d)))∧items.any (fun y=>decide (TV s.heap y d))=ec d ds:=by
  intro ds items hi hk
  have one:∀ y e,V φ s.heap y e→e.hk=true→(TV s.heap y d↔e=d):=fun y e hV' hd=>⟨fun q=>TV.inj hd (hV'.tv hd) q,fun q=>q▸hV'.tv hd⟩
  refine ⟨fun y hy=>?_,?_⟩
  ·obtain ⟨e,he,hV'⟩:=hi.mem (Array.mem_toList_iff.mpr hy)
   have hd:=db hk e he
   rw [decide_eq_decide.mpr (one y e hV' hd)]
   exact (EW (by show A.units+1+6 < cLine;exact CZ hu) hd k (hV'.tv hd) (hV.tv k)).2
  ·rw [←Array.any_toList]
   generalize items.toList=vs at hi
   induction vs generalizing ds with
   | nil=>cases ds with
    | nil=>rfl
    | cons=>exact hi.elim
   | cons y vs ih=>cases ds with
    | nil=>exact hi.elim
    | cons e ds=>
     have hk:=aG hk
     rw [List.any_cons,ih hk.2 hi.2,ec,D.eqb_dec,decide_eq_decide.mpr (one y e hi.1 hk.1)]
 have done:∀ {b:Bool},q b→∀ t,Q (.bool (neg ^^ b)) { s with toks:=t }:=fun z t=>h _ t z
 cases c with
 | tup ds=>
  obtain ⟨hk,z⟩:=Pu.ite p
  refine hW.tup_ (G:=fun v=>wpAny (model pw0 w) A (compareOp (if neg then .NotIn else .In) u v) Q bX s) fun a items m ho hl hi=>?_
  obtain ⟨k1,k2⟩:=key hi hk
  cases neg with
  | false=>exact in_tupleAt _ ⟨_,ho,rfl,_,rfl⟩ k1 (by rw [k2];simpa using done z s.toks)
  | true=>exact notIn_tupleAt _ ⟨_,ho,rfl,_,rfl⟩ k1 (by rw [k2];simpa using done z s.toks)
 | ref j=>
  refine hW.ref_ (G:=fun v=>wpAny (model pw0 w) A (compareOp (if neg then .NotIn else .In) u v) Q bX s) fun a hp=>?_
  obtain ⟨o,ho,m⟩:=r.get hp
  have p:Pu (match (M:List MO)[j]? with|some (.lst l)=>if D.hks l then some (ec d l) else none|some (.dct l)=>if sJ d l then some (bh d l).isSome else none|_=>none) q:=p
  rw [ho] at p
  cases o with
  | lst ds=>
   obtain ⟨hk,z⟩:=Pu.ite p
   refine r.lst hp ho fun xs m uu hq hi hl=>?_
   obtain ⟨k1,k2⟩:=key hi hk
   cases neg with
   | false=>exact in_listAt _ ⟨_,hq,rfl,_,rfl⟩ k1 (by rw [k2];simpa using done z s.toks)
   | true=>exact notIn_listAt _ ⟨_,hq,rfl,_,rfl⟩ k1 (by rw [k2];simpa using done z s.toks)
  | dct l=>
   obtain ⟨ok,z⟩:=Pu.ite p
   revert hV z
   refine Bl (G:=fun d=>V φ s.heap u d→q (bh d l).isSome→wpAny (model pw0 w) A (compareOp (if neg then .NotIn else .In) u (.ref a.1)) Q bX s) ok (fun i ks hV z=>zn (tF w) neg r hp ho ks hV (done z)) (fun i ks hV z=>zn (jE w) neg r hp ho ks hV (done z)) fun ds k1 k2 hV z=>?_
   obtain ⟨xs,hd,hk⟩:=m.tups k2
   have e:=(hk.look (.tup ds)).isSome
   rw [Option.isSome_map] at e
   have hr:(fi pw0 w).room A.in1:=ul hu
   obtain ⟨b,_,_,rfl,_⟩:=hV
   have hV:V φ s.heap (.ref b) (.tup ds):=⟨b,_,_,rfl,‹_›⟩
   cases neg with
   | false=>exact wpAny_in_heap (knd:=fi pw0 w) hr ⟨hV.tv k1,k1⟩ (r.notMods hp) hd (by rw [e];simpa using done z _)
   | true=>exact wpAny_notIn_heap (knd:=fi pw0 w) hr ⟨hV.tv k1,k1⟩ (r.notMods hp) hd (by rw [e];simpa using done z _)
  | ins=>exact p.elim
 | _=>exact p.elim
theorem DH{c:D}(hu:A.units+10 < cLine)(hV:V φ s.heap u d)(hW:V φ s.heap v c){q:Bool→Prop}(p:Pu (pR d c) q):∃ b,q b∧RcAt A s u v b∧RcNeAt A s u v (!b):=by
 have gen:Pu (if d.hk && c.hk then some (D.eqb d c) else none) q→∃ b,q b∧RcAt A s u v b∧RcNeAt A s u v (!b):=fun p=>by
  obtain ⟨hk,p⟩:=Pu.ite p
  have hk:=aG hk
  refine ⟨_,p,?_⟩
  rw [D.eqb_dec]
  exact (EW (by omega) hk.1 hk.2 (hV.tv hk.1) (hW.tv hk.2)).1
 cases d with
 | bool x=>cases c with
  | bool y=>cases hV;cases hW;exact ⟨_,p,RcAt.bool_bool _ _,RcNeAt.bool_bool _ _⟩
  | _=>exact p.elim
 | _=>exact gen p
theorem V.isN(e:V φ h v d):(v==Value.none)=d.isN:=by
 cases d with
 | none=>cases e;rfl
 | bool=>cases e;rfl
 | int=>obtain ⟨_,rfl⟩:=e;rfl
 | str=>obtain ⟨_,rfl,_⟩:=e;rfl
 | tup=>obtain ⟨_,_,_,rfl,_⟩:=e;rfl
 | ref=>obtain ⟨_,rfl,_⟩:=e;rfl
 | rng=>exact e.elim
theorem yw(hV:V φ h u d)(hW:V φ h v e){f:Int→Int→Bool}{k:Str→Str→Bool}{q:Bool→Prop}(p:Pu (Bg d e f k) q){G:Value→Value→Prop}(k1:∀ i j t t',q (f i j)→G (.int i t) (.int j t'))(k2:∀ i j t t',q (k i j)→G (.str i t) (.str j t')):G u v:=by
 cases d with
 | int i=>exact hV.int_ fun t=>hW.onI (G:=fun v=>G _ v) p fun j t' z=>k1 i j t t' z
 | str i=>exact hV.str_ fun t uu=>hW.onS (G:=fun v=>G _ v) p fun j t' uu z=>k2 i j t t' z
 | _=>exact p.elim
theorem j5(o:CmpOp)(hu:A.units+10 < cLine)(r:R w hb φ s.heap M)(hV:V φ s.heap u d)(hW:V φ s.heap v e){q:Bool→Prop}(p:Pu (eF o d e M) q)
  {Q:Value→Shared→Prop} (h:∀ b t,q b→Q (.bool b) { s with toks:=t }):wpAny (model pw0 w) A (compareOp o u v) Q bX s:=by
 cases o with
 | Eq=>obtain ⟨b,z,c,_⟩:=DH hu hV hW p;exact EqBoolInt.of_rc c (h _ s.toks z)
 | NotEq=>obtain ⟨b,z,_,c⟩:=DH hu hV hW (Pu.map p);exact EqBoolInt.of_rcne c (h _ s.toks z)
 | Lt=>exact yw (G:=fun u v=>wpAny (model pw0 w) A (compareOp .Lt u v) Q bX s) hV hW p (fun uu uu1 uu2 uu3 z=>lt_int (h _ s.toks z)) fun uu uu1 uu2 uu3 z=>lt_str (h _ s.toks z)
 | LtE=>exact yw (G:=fun u v=>wpAny (model pw0 w) A (compareOp .LtE u v) Q bX s) hV hW p (fun uu uu1 uu2 uu3 z=>le_int (h _ s.toks z)) fun uu uu1 uu2 uu3 z=>P.le_str (by simpa [jn] using h _ s.toks z)
 | Gt=>exact yw (G:=fun u v=>wpAny (model pw0 w) A (compareOp .Gt u v) Q bX s) hV hW p (fun uu uu1 uu2 uu3 z=>gt_int (h _ s.toks z)) fun uu uu1 uu2 uu3 z=>P.gt_str (h _ s.toks z)
 | GtE=>exact V.int2 hV hW p fun uu uu1 uu2 uu3 z=>ge_int (h _ s.toks z)
 | Is=>cases e with
  | none=>cases hW;exact is_none (by rw [hV.isN];exact h _ s.toks p)
  | _=>exact p.elim
 | IsNot=>cases e with
  | none=>cases hW;exact isNot_none (by rw [hV.isN];exact h _ s.toks p)
  | _=>exact p.elim
 | In=>exact C9 false hu r hV hW p fun b t z=>by simpa using h b t z
 | NotIn=>exact C9 true hu r hV hW (Pu.map p) fun b t z=>by simpa using h _ t z
theorem A0{l r:Expr}{o:Operator}{pos:Pos}(ha:aB w hb A env g cf a (eval l env))(hb':aB w hb A env g cf b (eval r env)):aB w hb A env g cf (x2 a b (ft o)) (eval (.BinOp l o r pos) env):=oM (fun s Q h=>wpAny_BinOp h) ha hb' (Es o)
theorem rX{e:Expr}{o:UnaryOp}{pos:Pos}{f:D→H→Option (D×H)}(ha:aB w hb A env g cf a (eval e env))(ho:DT w hb A f (unaryOp o)):aB w hb A env g cf (x1 a f) (eval (.UnaryOp o e pos) env):=uc (fun s Q h=>wpAny_UnaryOp h) ha ho
theorem Er(hu:A.units+10 < cLine)(o:CmpOp):IU w hb A (fun d e h=>(eF o d e h).map fun r=>(.bool r,h)) (compareOp o):=fun r hV hW p=>j5 o hu r hV hW p.map fun b t k=>k _ _ _ (.tok r t) (.bool b)
end
theorem zZ(P:Params)(C:Nat)(h:C=140∨C=161∨C=1008):
  findIn (KF P) (.ref C) "__getattribute__"=some (some (.builtin "object.__getattribute__"))∧findIn (KF P) (.ref C) "__setattr__"=some (some (.builtin "object.__setattr__"))∧plainOver (KF P) C=true∧(clsIn (KF P) C).any (·.hasDict)=true:=by
 rcases h with rfl|rfl|rfl<;>exact ⟨by kernel_rfl,by kernel_rfl,by kernel_rfl,by kernel_rfl⟩
theorem wF(P:Params):([140,161,1008].all fun C=>(mB C).all fun x=>(findIn (KF P) (.ref C) (Str.ofString x)==some none))=true:=by kernel_rfl
theorem ry(P:Params){C:Nat}{f:Str}(e:gh C f=true):(C=140∨C=161∨C=1008)∧findIn (KF P) (.ref C) f=some none:=by
 have hC:C=140∨C=161∨C=1008:=by
  unfold gh mB at e
  by_cases h1:C=140
  ·exact .inl h1
  ·by_cases h2:C=161
   ·exact .inr (.inl h2)
   ·by_cases h3:C=1008
    ·exact .inr (.inr h3)
    ·rw [if_neg (by simpa using h1),if_neg (by simpa using h2),if_neg (by simpa using h3)] at e;exact gW e
 obtain ⟨x,hx,e⟩:=List.any_eq_true.mp e
 have:=db (db (wF P) C (by simpa using hC)) x hx
 rw [eq_of_beq e] at this
 exact ⟨hC,eq_of_beq this⟩
theorem wQ{i:Int}{n:Nat}(h:0≤i):min i.toNat n=clipAt n i:=by
 obtain ⟨j,rfl⟩:=Int.eq_ofNat_of_zero_le h
 rw [clipAt_nat];rfl
section
variable {u:Value}
theorem uK{K:Type}[DecidableEq K]{knd:KeyKind pw0 w K}{enc:K→D}(X:fq knd enc n){l:List (D×D)}{k:K}{x:D}(m:jf w φ h p (.dct l))(ks:cW n l=true)(e:bh (enc k) l=some x):∃ kvs y,h.DictOf knd p.1 kvs∧valueAt kvs k=some y∧V φ h y x:=by
 obtain ⟨kvs,hd,hk⟩:=m.toKvs X ks
 have ag:=hk.look X k
 rw [e] at ag
 obtain ⟨y,e,hy⟩:=ag.find
 exact ⟨kvs,y,hd,e,hy⟩
theorem Bh{value slice:Expr}(hu:A.units+10 < cLine)(hs:∀ o i,subscripted slice false o i=operate [o,i] (getItem o i)):IU w hb A item (subscriptTail value slice):=fun {s φ M d e u v Q} r hV hW p=>by
 cases d with
 | tup l=>
  refine hV.tup_ (G:=fun u=>wpAny (model pw0 w) A (subscriptTail value slice u v) Q bX s) fun a items m ho hl hi=>hW.onI p fun i t p=>?_
  obtain ⟨k,e1,e2,e3,p⟩:=tO p.map
  obtain ⟨x,q,p⟩:=p.eq
  obtain ⟨y,hy,hV⟩:=hi.get q
  have hsz:items.size=l.length:=hi.length
  exact tail_any (T:="tuple") ⟨_,ho,rfl⟩ F.slot_tuple_getitem.lookup (P.getItem_tuple (n:=m) ho (lb e3 (Nat.le_of_lt hl)).1 (lb e3 (Nat.le_of_lt hl)).2 (by rw [hsz];exact e1) (by simpa using hy) (p y s φ (.refl r) hV)) (hs _ _)
 | str x=>
  refine hV.str_ (G:=fun u=>wpAny (model pw0 w) A (subscriptTail value slice u v) Q bX s) fun t' hx=>hW.onI p fun i t p=>?_
  obtain ⟨k,e1,e2,e3,p⟩:=tO p.map
  unfold cx at hx
  obtain ⟨z,q,p⟩:=p.eq
  unfold KL at q
  cases q2:x.cps[k]? with
  | none=>rw [q2] at q;exact fO q
  | some ch=>
   rw [q2] at q
   cases q
   refine tail_any (T:="str") rfl F.slot_str_getitem.lookup (P.getItem_str ?_ (by show (seqIndex? i x.cps.size).bind _=_;rw [e1];exact q2) (p _ _ φ (.tok r _) (.str (by show 1≤cx;decide)))) (hs _ _)
   have:=lb e3 hx;simp;exact this
 | ref j=>
  refine hV.ref_ (G:=fun u=>wpAny (model pw0 w) A (subscriptTail value slice u v) Q bX s) fun a hp=>?_
  obtain ⟨o,ho,m⟩:=r.get hp
  have p:Pu (match (M:List MO)[j]? with
   | some (.lst l)=>onI e fun i=>((tP i l.length).bind fun k=>l[k]?).map fun d=>(d,M)
   | some (.dct l)=>if sJ e l then (bh e l).map fun d=>(d,M) else none
   | _=>none) (Kv w hb φ s Q):=p
  rw [ho] at p
  cases o with
  | lst l=>
   refine hW.onI p fun i t p=>r.lst hp ho fun items m uu hq hi hl=>?_
   obtain ⟨k,e1,e2,e3,p2⟩:=tO p.map
   obtain ⟨x,q,p2⟩:=p2.eq
   obtain ⟨y,hy,hV⟩:=hi.get q
   have p3:=p2 y s φ (.refl r) hV
   have hsz:items.size=l.length:=hi.length
   refine tail_any (T:="list") ⟨_,hq,rfl⟩ slot_list_getitem.lookup ?_ (hs _ _)
   rcases e3 with ⟨h0,h1,rfl⟩|⟨h0,h1,rfl⟩
   ·exact wpAny_getItem_list ⟨_,hq,rfl,_,rfl⟩ h0 (Da h1 hl) (by simpa using hy) p3
   ·exact wpAny_getItem_list_neg ⟨_,hq,rfl,_,rfl⟩ h0 (by rw [hsz];exact yH h1) (lb (.inr ⟨h0,h1,rfl⟩) (Nat.le_of_lt hl)).1 (by rw [hsz];simpa using hy) p3
  | dct l=>
   obtain ⟨ok,p⟩:=Pu.ite p
   obtain ⟨x,q,p⟩:=p.map.eq
   revert hW q
   refine Bl (G:=fun e=>V φ s.heap v e→bh e l=some x→wpAny (model pw0 w) A (subscriptTail value slice (.ref a.1) v) Q bX s) ok (fun k ks hW q=>?_) (fun k ks hW q=>?_) fun ds k1 k2 hW q=>?_
   ·obtain ⟨kvs,y,hd,e,hy⟩:=uK (tF w) m ks q
    exact tail_any (T:="dict") hd.mapOf.typeIs slot_dict_getitem.lookup (wpAny_getItem_of ((tF w).to hW) hd.mapOf e (p y _ φ (.tok r _) hy)) (hs _ _)
   ·obtain ⟨kvs,y,hd,e,hy⟩:=uK (jE w) m ks q
    exact tail_any (T:="dict") hd.mapOf.typeIs slot_dict_getitem.lookup (wpAny_getItem_of ((jE w).to hW) hd.mapOf e (p y _ φ (.tok r _) hy)) (hs _ _)
   ·obtain ⟨xs,hd,hk⟩:=m.tups k2
    have ag:=hk.look (.tup ds)
    rw [q] at ag
    obtain ⟨_,q3,hy⟩:=ag.find
    obtain ⟨y,q4,rfl⟩:=Option.map_eq_some_iff.mp q3
    obtain ⟨b,x1,x2,rfl,x3⟩:=hW
    have hW:V φ s.heap (.ref b) (.tup ds):=⟨b,x1,x2,rfl,x3⟩
    have hroom:(fi pw0 w).room A.in1:=ul hu
    exact tail_any (T:="dict") hd.typeIs slot_dict_getitem.lookup (wpAny_getItem_heap (knd:=fi pw0 w) hroom ⟨hW.tv k1,k1⟩ hd q4 (p y.2 _ φ (.tok r _) hy)) (hs _ _)
  | ins=>exact p.elim
 | _=>exact p.elim
theorem jK.find{es:List DictEntry}{l:List (Str×D)}(e:jK w φ h es l)(f:Str):eJ φ h ((es.find? (·.key.isStr f)).map (·.val)) (bp f l)∧es.any (·.refKey)=false:=by
 induction es generalizing l with
 | nil=>cases l with
  | nil=>exact ⟨trivial,rfl⟩
  | cons=>exact e.elim
 | cons en es ih=>cases l with
  | nil=>exact e.elim
  | cons b l=>
   obtain ⟨⟨_,⟨t,hk⟩,hv⟩,er⟩:=e
   have e1:en.key.isStr f=(b.1==f):=by rw [hk];rfl
   have e2:en.refKey=false:=by unfold DictEntry.refKey;rw [hk]
   refine ⟨?_,by rw [List.any_cons,(ih er).2,e2];rfl⟩
   show eJ φ h _ (if b.1==f then some b.2 else bp f l)
   rw [List.find?_cons,e1]
   cases b.1==f with
   | true=>exact hv
   | false=>exact (ih er).1
theorem po{C:Nat}{l:List (Str×D)}(m:jf w φ h p (.ins C l)):
  ∃ es n,h.get? p.2=some (cC es n)∧jK w φ h es.toList l∧InstAt h p.1 (instObj C p.2) C (some (cC es n)):=by
 obtain ⟨a,_,_,es,n,b,c⟩:=m
 exact ⟨es,n,b,c,⟨a,rfl,rfl,b⟩⟩
theorem V.handed(e:V φ h v d):handedIn v=true:=by
 cases d with
 | none=>cases e;rfl
 | bool=>cases e;rfl
 | int=>obtain ⟨_,rfl⟩:=e;rfl
 | str=>obtain ⟨_,rfl,_⟩:=e;rfl
 | tup=>obtain ⟨_,_,_,rfl,_⟩:=e;rfl
 | ref=>obtain ⟨_,rfl,_⟩:=e;rfl
 | rng=>exact e.elim
theorem Bj(f:Str)(x:Bool)(KX:(KF w.params).In hb):DT w hb A (fun d=>attr d f) (fun v=>getAttr v f x):=fun {s φ M d u Q} r hu p=>by
 refine hu.onR p fun n a hp p=>?_
 obtain ⟨C,fs,ho,p⟩:=p.onO
 obtain ⟨fo,p⟩:=p.ite
 obtain ⟨y,q,p⟩:=p.map.eq
 obtain ⟨es,k,h2,h3,I⟩:=po (r.obj _ _ _ hp ho)
 obtain ⟨hC,hF⟩:=ry w.params fo
 obtain ⟨c1,c2,c3,c4⟩:=zZ w.params C hC
 have X:(KF w.params).In s.heap:=KX.keeps r.base
 have f1:=(h3.find f).1
 rw [q] at f1
 obtain ⟨_,e0,hz⟩:=f1.find
 obtain ⟨en,e1,rfl⟩:=Option.map_eq_some_iff.mp e0
 refine get_value X I c1 (v:=en.val) ?_ hz.handed (p _ _ φ (.tok r _) hz)
 unfold findObj
 obtain ⟨cd,hcd,hdct⟩:=any_some c4
 rw [hcd,Option.bind_some,hF]
 simp only [Option.bind_some]
 unfold PySem.W.ownOf
 rw [hdct]
 simp [lookIn,e1]
theorem cR{o:Expr}(h:hH o=true)(attr:Str)(env:Env)(whole:Sem Value):attributeBase o attr env whole=whole:=by
 cases o with
 | Call f as ks p=>cases f with
  | Name x q=>cases as with
   | nil=>cases ks with
    | nil=>exact gW h
    | cons=>rfl
   | cons=>rfl
  | _=>rfl
 | _=>rfl
theorem xX{value:Expr}{f:Str}{pos:Pos}(KX:(KF w.params).In hb)(hok:hH value=true)(ha:aB w hb A env g cf a (eval value env)):aB w hb A env g cf (x1 a fun d=>attr d f) (eval (.Attribute value f pos) env):=
 uc (o:=fun v=>getAttr v f true) (fun s Q h=>Attribute_any_ h (by rw [arm_eval_Attribute,cR hok])) ha (Bj f true KX)
end
section
variable {u kv:Value}{j:Nat}
theorem aM.upd{t:Nat}(r:R w hb φ s.heap M)(hn:n≠0)(hp:φ[n]?=some p)(hs:∀ b,b≠p.1→b≠p.2→h'.get? b=s.heap.get? b)
  (sz:h'.objs.size=s.heap.objs.size) (hd:∀ a es n,a=p.1∨a=p.2→s.heap.get? a=some (cC es n)→tV h' a es n) (m:du s.heap h'→jf w φ h' p o):aM w hb φ s (M.set n o:List MO) φ { s with heap:=h',toks:=t }:=
 have q:=r.upd hn hp hs sz hd m;⟨q.1,q.2,rfl,rfl⟩
theorem aM.upd1{t:Nat}(r:R w hb φ s.heap M)(hn:n≠0)(hp:φ[n]?=some p)(he:p.2=p.1)(hs:Heap.SameBut p.1 s.heap h')(hd:∀ es n,s.heap.get? p.1=some (cC es n)→tV h' p.1 es n)(m:du s.heap h'→jf w φ h' p o):
  aM w hb φ s (M.set n o:List MO) φ { s with heap:=h',toks:=t }:=
 .upd r hn hp (fun b q uu=>hs.2 b q) (SameBut.size hs) (fun a es n z q=>by rcases z with rfl|rfl;exact hd es n q;rw [he] at q ⊢;exact hd es n q) m
theorem de.length{es:Array DictEntry}{l:List (D×D)}(e:de w φ h es.toList l):es.size=l.length:=F2.length e
theorem kz{K:Type}[DecidableEq K]{knd:KeyKind pw0 w K}{enc:K→D}(X:fq knd enc n){k:K}{l:List (D×D)}(r:R w hb φ s.heap M)(hn:j≠0)(hp:φ[j]?=some p)(ho:(M:List MO)[j]?=some (.dct l))
  (hK:V φ s.heap kv (enc k)) (hV:V φ s.heap v d) (ks:cW n l=true) (hz:l.length+1 < 100000) {Q:Unit→Shared→Prop} (k:∀ s',aM w hb φ s (M.set j (.dct (cL (enc k) d l)):List MO) φ s'→Q () s') :
  wpAny (model pw0 w) A (PySem.setItem (.ref p.1) kv v) Q bX s:=by
 obtain ⟨hpp,_,hnd,es,ep,hq,he⟩:=r.obj _ _ _ hp ho
 have hT:s.TypeIs (.ref p.1) "dict":=⟨_,hq,rfl⟩
 have el:=de.length he
 obtain ⟨_,k1,_,_⟩:=de.toKvs X he ks
 have hk:KeysOf knd es:=fun e q=>k1 e (Array.mem_toList_iff.mpr q)
 have fin:∀ (f:Obj→Obj) (es':Array DictEntry) (n':Nat) (tk:Nat),f (cC es ep)=cC es' n'→es.size≤es'.size→(es.size=es'.size→ep=n'∧(wX es→wX es'))→de w φ s.heap es'.toList (cL (enc ‹K›) d l)→Q () { s with heap:=s.heap.update p.1 f,toks:=tk }:=by
  intro f es' n' tk e1 e2 e3 e4
  have g2:(s.heap.update p.1 f).get? p.1=some (cC es' n'):=by rw [←e1];exact Heap.get?_update_self _ hq (by rw [e1];rfl)
  refine k _ (aM.upd1 r hn hp hpp (Heap.SameBut.update ..) (fun es0 n0 hg=>?_) fun ht=>⟨hpp,cn (fv _ d l).2.1 hz,nV.1 hnd,es',n',g2,de.move (aJ _) ht e4⟩)
  rw [hq] at hg
  cases hg
  exact ⟨es',n',g2,e2,fun x q=>⟨(e3 q).1,(e3 q).2 x⟩⟩
 unfold PySem.setItem
 try with_reducible refine wpAny_holding ?_
 refine wpAny_bind (wpAny_sequenceKey hT (by decide) ?_)
 refine wpAny_bind (wpAny_callSpecial?_slot (name:=Str.ofString "__setitem__") hT slot_dict_setitem (wpAny_call_entry slot_dict_setitem hT entry_dict_setitem ?_ (args_dict_setitem _ _ _)))
 show wpAny _ _ (Builtin.Dict.notOrdered "__setitem__" ⟨[.ref p.1,kv,v],[]⟩ >>= _) _ _ s
 refine wpAny_bind (wpAny_notOrdered_dict hT ?_)
 show wpAny _ _ (dictSet p.1 kv v >>= _) _ _ s
 refine wpAny_bind ?_
 unfold dictSet
 try with_reducible refine wpAny_holding ?_
 refine wpAny_bind (knd.pyHash (X.to hK) ?_)
 unfold dictSetHashed
 try with_reducible refine wpAny_holding ?_
 refine wpAny_bind (wpAny_dictFind_of (s:={ s with toks:=s.toks+1 }) (X.to hK) hq rfl hk ?_)
 have ep2:=de.put X he ks hK hV
 have hidx:(es.findIdx? fun e=>knd.is ‹K› e.key)=es.toList.findIdx? fun e=>knd.is ‹K› e.key:=by obtain ⟨q⟩:=es;simp
 rw [hidx]
 cases hi:es.toList.findIdx? fun e=>knd.is ‹K› e.key with
 | some i=>
  refine wpAny_bind (wpAny_rule (wpAny_bind (wpAny_updateDict (s:={ s with toks:=s.toks+1 }) hq rfl (wpAny_point (wpAny_pure ⟨.none,rfl,wpAny_pure (fin _ _ _ _ rfl ?_ ?_ ?_)⟩)))))
  ·simp
  ·intro _
   refine ⟨rfl,fun x e q=>?_⟩
   obtain ⟨q0⟩:=es
   simp only [List.modify_toArray] at q
   obtain ⟨i',hi'⟩:=List.mem_iff_getElem?.mp q
   rw [List.getElem?_modify] at hi'
   obtain ⟨e0,q1,rfl⟩:=Option.map_eq_some_iff.mp hi'
   have:=x e0 (List.mem_of_getElem? q1)
   split<;>exact this
  ·have:=ep2.1 i hi
   obtain ⟨q⟩:=es;simpa using this
 | none=>
  refine wpAny_bind (wpAny_rule (wpAny_updateDictKeys (hz:=by rw [sizeLine_eq];omega) (s:={ s with toks:=s.toks+1 }) hq rfl (wpAny_pure ⟨.none,rfl,wpAny_pure (fin _ _ _ _ rfl ?_ ?_ ?_)⟩)))
  ·simp
  ·intro q;simp at q
  ·have:=ep2.2 hi
   obtain ⟨q⟩:=es;simpa using this
theorem qn{ds:List D}{l:List (D×D)}(hu:A.units+10 < cLine)(r:R w hb φ s.heap M)(hn:j≠0)(hp:φ[j]?=some p)(ho:(M:List MO)[j]?=some (.dct l))
  (hK:V φ s.heap kv (.tup ds)) (hV:V φ s.heap v d) (k1:(D.tup ds).hk=true) (k2:cW 3 l=true) (hz:l.length+1 < 100000) {Q:Unit→Shared→Prop} (k:∀ s',aM w hb φ s (M.set j (.dct (cL (.tup ds) d l)):List MO) φ s'→Q () s') :
  wpAny (model pw0 w) A (PySem.setItem (.ref p.1) kv v) Q bX s:=by
 have m:=r.obj _ _ _ hp ho
 obtain ⟨xs,hd,hk⟩:=m.tups k2
 obtain ⟨a,x1,x2,rfl,x3⟩:=hK
 have hK:V φ s.heap (.ref a) (.tup ds):=⟨a,x1,x2,rfl,x3⟩
 have hr:(fi pw0 w).room A.in1:=ul hu
 have pl:=fv (.tup ds) d l
 have nd:(xs.map (·.1)).Nodup:=hk.keys▸m.2.2.1
 refine wpAny_setItem_heap (knd:=fi pw0 w) hr ⟨hK.tv k1,k1⟩ hd (fun h' hd' hs=>k _ ?_) (by rw [hk.length,sizeLine_eq];omega)
 have fin:du s.heap h'→jf w φ h' (p.1,p.1) (.dct (cL (.tup ds) d l)):=fun ht=>.of_tups hd' (ve.put (hk.move ht) (hK.mono (aJ _) ht) k1 (hV.mono (aJ _) ht) nd) (by omega)
 refine aM.upd1 r hn hp m.1 hs (fun es0 n0 hg=>?_) fun ht=>by have:=fin ht;obtain ⟨p1,p2⟩:=p;cases m.1;exact this
 obtain ⟨_,_,_,es',n',g2,he'⟩:=fin (r.tups hn hp fun b q uu=>hs.2 b q)
 obtain ⟨_,_,_,es,n,g1,he⟩:=m
 rw [hg] at g1
 cases g1
 have e1:=de.length he
 have e2:=de.length he'
 refine ⟨es',n',g2,by omega,fun x q=>?_⟩
 cases l with
 | nil=>exact absurd (List.length_eq_zero_iff.mp (by rw [←e2,←q,e1];rfl)) pl.2.2
 | cons b l=>
  obtain ⟨q1,_⟩:=ii k2
  obtain ⟨es⟩:=es0
  cases es with
  | nil=>exact he.elim
  | cons e es=>
   obtain ⟨y,t,hy⟩:=x e aw
   have hk:=he.1.2.1
   obtain ⟨z,hz⟩:=t7 q1
   rw [hy,hz] at hk
   obtain ⟨_,_,_,q,_⟩:=hk
   cases q
theorem gU{k t:Nat}{l:List D}{xs:Array Value}{f:Array Value→Array Value}(r:R w hb φ s.heap M)(hn:n≠0)(hp:φ[n]?=some p)(he:p.2=p.1)(ho:s.heap.get? p.1=some (gP xs k))(hv:∀ h',du s.heap h'→Vs φ h' (f xs).toList l)(hl:l.length < 100000):
  aM w hb φ s (M.set n (.lst l):List MO) φ { s with heap:=s.heap.update p.1 (Obj.mapSeq f),toks:=t }:=
 .upd1 r hn hp he (Heap.SameBut.update ..) (fun es n hg=>absurd (congrArg Obj.cls (Option.some.inj (ho.symm.trans hg))) (by simp)) fun ht=>⟨he,hl,_,_,Heap.get?_update_self (Obj.mapSeq f) ho rfl,hv _ ht⟩
theorem oR{k:Nat}{i:Int}{l:List D}(r:R w hb φ s.heap M)(hn:n≠0)(hp:φ[n]?=some p)(ho:(M:List MO)[n]?=some (.lst l))
  (hI:V φ s.heap kv (.int i)) (hV:V φ s.heap v d) (hk:tP i l.length=some k) (hi:0≤i) {Q:Unit→Shared→Prop} (h:∀ s',aM w hb φ s (M.set n (.lst (l.set k d)):List MO) φ s'→Q () s') :
  wpAny (model pw0 w) A (PySem.setItem (.ref p.1) kv v) Q bX s:=by
 refine hI.int_ fun t=>r.lst hp ho fun items m hpp hq hit hl=>?_
 obtain ⟨-,hlt,hk'⟩:=Al hk
 have hk':=hk'.elim (fun q=>q.2) fun q=>absurd hi (Int.not_le.mpr q.1)
 have hsz:items.size=l.length:=hit.length
 refine ki_setAt (n:=m) hq hi (Da hk'.1 hl) (hsz▸hk'.1) (h _ ?_)
 refine gU r hn hp hpp hq (fun h' ht=>?_) (by simpa using hl)
 rw [Array.toList_setIfInBounds,hk'.2]
 exact (F2.mono hit (aJ _) ht).set (hV.mono (aJ _) ht) _
theorem sh{i:D}(hu:A.units+10 < cLine)(r:R w hb φ s.heap M)(hO:V φ s.heap u e)(hI:V φ s.heap kv i)(hV:V φ s.heap v d){Q:Unit→Shared→Prop}(p:Pu (setItem e i d M) fun M'=>∀ s',aM w hb φ s M' φ s'→Q () s'):
  wpAny (model pw0 w) A (PySem.setItem u kv v) Q bX s:=by
 cases e with
 | ref n=>
  obtain ⟨hn,p⟩:=Pu.ite' p
  have hn:n≠0:=by simpa using hn
  refine hO.ref_ fun a hp=>?_
  obtain ⟨o,ho,m⟩:=r.get hp
  rw [ho] at p
  cases o with
  | lst l=>
   cases i with
   | int i=>
    obtain ⟨hi,p⟩:=Pu.ite p
    obtain ⟨k,q,p⟩:=(Pu.map p).eq
    exact oR r hn hp ho hI hV q hi p
   | _=>exact p.elim
  | dct l=>
   obtain ⟨ok,p⟩:=Pu.ite p
   have ok:=aG ok
   have hz:=of_decide_eq_true ok.2
   revert hI p
   exact Bl (G:=fun i=>V φ s.heap kv i→Pu (some (M.set n (.dct (cL i d l)))) (fun M'=>∀ s',aM w hb φ s M' φ s'→Q () s')→wpAny (model pw0 w) A (PySem.setItem (.ref a.1) kv v) Q bX s) ok.1
    (fun i ks hI p=>kz (tF w) r hn hp ho hI hV ks hz p) (fun i ks hI p=>kz (jE w) r hn hp ho hI hV ks hz p) fun ds k1 ks hI p=>qn hu r hn hp ho hI hV k1 ks hz p
  | ins=>exact p.elim
 | _=>exact p.elim
theorem jK.put{es:List DictEntry}{l:List (Str×D)}(e:jK w φ h es l)(f:Str)(t:Tok)(hV:V φ h v d):jK w φ h (putL f (hashStr w f) (.str f t) v es) (gy f d l):=by
 induction es generalizing l with
 | nil=>cases l with
  | nil=>exact ⟨⟨rfl,⟨t,rfl⟩,hV⟩,trivial⟩
  | cons=>exact e.elim
 | cons en es ih=>cases l with
  | nil=>exact e.elim
  | cons b l=>
   obtain ⟨⟨e1,⟨t',e2⟩,e3⟩,e4⟩:=e
   have e5:en.key.isStr f=(b.1==f):=by rw [e2];rfl
   rw [putL,e5]
   show jK w φ h _ (if b.1==f then (b.1,d)::l else b::gy f d l)
   cases b.1==f with
   | true=>exact ⟨⟨e1,⟨t',e2⟩,hV⟩,e4⟩
   | false=>exact ⟨⟨e1,⟨t',e2⟩,e3⟩,ih e4⟩
theorem nU{f:Str}{l:List (Str×D)}:((l.map (·.1)).Nodup→((gy f d l).map (·.1)).Nodup)∧(gy f d l).length≤l.length+1∧∀ x,x∈(gy f d l).map (·.1)→x=f∨x∈l.map (·.1):=by
 induction l with
 | nil=>simp [gy]
 | cons p r ih=>
  have e:gy f d (p::r)=if p.1==f then (p.1,d)::r else p::gy f d r:=rfl
  rw [e]
  by_cases q:p.1=f
  ·rw [if_pos (beq_iff_eq.mpr q)];exact ⟨fun h=>h,Nat.le_succ _,fun x hx=>.inr hx⟩
  ·rw [if_neg (mt beq_iff_eq.mp q),List.map_cons,List.map_cons,List.nodup_cons,List.nodup_cons]
   exact ⟨fun h=>⟨fun hm=>(ih.2.2 _ hm).elim q h.1,ih.1 h.2⟩,Nat.succ_le_succ ih.2.1,fun x hx=>(bo hx).elim (fun e=>.inr (e▸aw)) fun e=>(ih.2.2 x e).imp id (aE _)⟩
theorem qu(f:Str)(hs:Int)(k v:Value)(es:List DictEntry):es.length≤(putL f hs k v es).length∧(putL f hs k v es).length≤es.length+1∧((putL f hs k v es).length=es.length→(es.any (·.key.isStr f))=true∧(putL f hs k v es).map (·.key)=es.map (·.key)):=by
 induction es with
 | nil=>exact ⟨Nat.zero_le _,Nat.le_refl _,fun h=>nomatch h⟩
 | cons e r ih=>
  rw [putL]
  cases q:e.key.isStr f with
  | true=>exact ⟨Nat.le_refl _,Nat.le_succ _,fun uu=>⟨by rw [List.any_cons,q];rfl,rfl⟩⟩
  | false=>exact ⟨Nat.succ_le_succ ih.1,Nat.succ_le_succ ih.2.1,fun z=>have y:=ih.2.2 (Nat.succ.inj z);⟨by rw [List.any_cons,y.1,Bool.or_true],congrArg (e.key::·) y.2⟩⟩
theorem tV.putL{a:Addr}{es:Array DictEntry}{f:Str}{hs:Int}{k v:Value}(g:h.get? a=some (dictOf (putL f hs k v es.toList) (putN f es.toList n))):tV h a es n:=by
 obtain ⟨h1,_,h2⟩:=qu f hs k v es.toList
 refine ⟨_,_,g,by simpa using h1,fun x q=>?_⟩
 obtain ⟨a1,b1⟩:=h2 (by simpa using q.symm)
 refine ⟨by unfold putN;rw [a1];rfl,fun e he=>?_⟩
 have hm:e.key∈(W.putL f hs k v es.toList).map (·.key):=List.mem_map_of_mem (by simpa using he)
 rw [b1] at hm
 obtain ⟨e',he',q'⟩:=bR hm
 obtain ⟨y,t,hy⟩:=x e' he'
 exact ⟨y,t,by rw [←q',hy]⟩
theorem sj(f:Str)(KX:(KF w.params).In hb)(r:R w hb φ s.heap M)(hu:V φ s.heap u e)(hv:V φ s.heap v d){Q:Unit→Shared→Prop}(p:Pu (setAttr e f d M) fun M'=>∀ s',aM w hb φ s M' φ s'→Q () s'):wpAny (model pw0 w) A (PySem.setAttr u f v) Q bX s:=by
 refine hu.onR p fun n a hp p=>?_
 obtain ⟨hn,p⟩:=p.ite'
 obtain ⟨C,fs,ho,p⟩:=p.onO
 obtain ⟨fo,h⟩:=p.ite
 have fo:=aG fo
 have hn':n≠0:=by simpa using hn
 have m:=r.obj _ _ _ hp ho
 obtain ⟨es,k,h2,h3,I⟩:=po m
 obtain ⟨hC,hF⟩:=ry w.params fo.1
 obtain ⟨c1,c2,c3,c4⟩:=zZ w.params C hC
 have X:(KF w.params).In s.heap:=KX.keeps r.base
 refine set_plain X I c2 ?_
 refine osa_open (s:={ s with toks:=s.toks+1 }) X I c3 (r:=none) (by unfold takerIn;rw [hF];rfl) fun b=>?_
 obtain ⟨cd,hc,hd'⟩:=any_some c4
 refine wpAny_bind (wpAny_pure (wpAny_bind (wpAny_bind (wpAny_loadPart m.1 (wpAny_bind (Looks.here (s:={ s with toks:=s.toks+1 }) (looks_clsIn X hc) ?_))))))
 rw [hd']
 refine wpAny_pure (a:=some a.2) (wpAny_bind (wpAny_pure (wpAny_bind ?_)))
 unfold nsSet
 refine wpAny_bind (wpAny_bind (wpAny_askSetting (wpAny_pure (wpAny_bind (wpAny_mkText (wpAny_bind (wpAny_loadPart h2 ?_)))))))
 dsimp only
 have c:(!es.any (·.key.isStr f) && es.any (·.refKey))=false:=by
  rw [←Array.any_toList (p:=fun x:DictEntry=>x.refKey),(h3.find f).2,Bool.and_false]
 rw [aRefKeyMayBeTheName_at,c]
 refine wpAny_updatePart h2 ?_
 have e1:=putName_dict f (PyData.keyHash w.params f) (.str f (s.toks+1)) v es.toList k
 have hl:=h3.length
 have hfs:=of_decide_eq_true fo.2
 have hl2:=(qu f (PyData.keyHash w.params f) (.str f (s.toks+1)) v es.toList).2.1
 have g2:(s.heap.update a.2 (Obj.putName f (PyData.keyHash w.params f) (.str f (s.toks+1)) v)).get? a.2=some (dictOf (putL f (PyData.keyHash w.params f) (.str f (s.toks+1)) v es.toList) (putN f es.toList k)):=by
  rw [←e1]
  exact Heap.get?_update_self _ h2 (by first|(rw [e1];rfl)|(rw [show ({ cls:=.type "dict",data:=.dict es k }:Obj)=dictOf es.toList k by simp,e1];rfl))
 refine wpAny_bind (wpAny_lookBehind g2 (by exact pastItsLine_dict (by rw [List.size_toArray,sizeLine_eq];exact Nat.le_trans hl2 (Nat.succ_le_succ (hl▸Nat.le_trans (Nat.le_of_lt hfs) (by decide))))) ?_)
 refine wpAny_pure (h _ ?_)
 have sb:=Heap.SameBut.update (h:=s.heap) (a:=a.2) (f:=Obj.putName f (PyData.keyHash w.params f) (.str f (s.toks+1)) v)
 refine aM.upd r hn' hp (fun b uu q=>sb.2 b q) (SameBut.size sb) (fun b es0 n0 hb0 hg=>?_) fun ht=>?_
 ·rcases hb0 with rfl|rfl
  ·rw [m.1] at hg;exact absurd (congrArg Obj.cls (Option.some.inj hg)) (by simp)
  ·rw [h2] at hg
   cases hg
   exact tV.putL g2
 ·have hne:a.1≠a.2:=fun e=>by
   have h1:=m.1
   rw [e,h2] at h1
   exact absurd (congrArg Obj.cls (Option.some.inj h1)) (by simp)
  exact ⟨(sb.2 _ hne).trans m.1,cn (nU (f:=f) (d:=d) (l:=fs)).2.1 (Nat.lt_of_lt_of_le (Nat.succ_lt_succ hfs) (by decide)),nU.1 m.2.2.1,_,_,g2,jK.move (aJ _) ht (jK.put h3 f (s.toks+1) hv)⟩
end
theorem j6{o:CmpOp}{r:Expr}(h:cG r=true):behindInMarks o r=false:=by
 cases r<;>first|rfl|exact gW h
section
variable {u:Value}{le me re:Expr}{o o2:CmpOp}{pos:Pos}{whole:Sem Value}
theorem AY(hu:A.units+10 < cLine)(hr:cG re=true)(ha:aB w hb A env g cf a (eval le env))(hb':aB w hb A env g cf b (eval re env)):aB w hb A env g cf (ac o a b) (eval (.Compare le [o] [re] pos) env):=oM (fun s Q h=>wpAny_Compare1 h (j6 hr)) ha hb' (Er hu o)
theorem xK(hu:A.units+10 < cLine)(hr:cG re=true)(ha:aB w hb A env g cf a (eval le env))(hb':aB w hb A env g cf b (eval re env)):fk w hb A env g cf (xt (ac o a b)) (isTrue (.Compare le [o] [re] pos) env whole):=fun uu=>fun F p=>
 wpAny_isTrue_Compare1 (ha F (p.bd.bd.imp fun uu p v1 s1 φ1 D1 V1=>hb' (F.step D1) (p.bd.imp fun uu p v2 s2 φ2 D2 V2=>j5 o hu D2.r (V1.step D1.r D2.st) V2 p.map fun b t k=>wpAny_truthy_bool (k _ φ2 (D1.trans (D2.trans (.tok D2.r t))))))) (j6 hr)
theorem uA{tb tc:Sem Value}(hc:cG re=true):markedEach [o,o2] [me,re] [tb,tc]=[tb,tc]:=by
 show [tb,markedBehindIn o2 re tc]=_
 unfold markedBehindIn
 rw [j6 hc]
theorem vC(hu:A.units+10 < cLine)(hr:cG re=true)(ha:aB w hb A env g cf a (eval le env))(hb':aB w hb A env g cf b (eval me env))(hc:aB w hb A env g cf c (eval re env)):
  aB w hb A env g cf (iH o o2 a b c) (eval (.Compare le [o,o2] [me,re] pos) env):=fun s=>fun {φ M l Q} F p=>by
 show wpAny _ A (do compareChain pos (←eval le env) [o,o2] (markedEach [o,o2] [me,re] [eval me env,eval re env])) Q bX s
 rw [uA hr]
 refine wpAny_bind (ha F (p.bd.imp fun uu p v1 s1 φ1 D1 V1=>chain_link (hb' (F.step D1) (p.bd.imp fun uu p v2 s2 φ2 D2 V2=>j5 o hu D2.r (V1.step D1.r D2.st) V2 p.bind fun k t p=>wpAny_truthy_bool ?_))))
 have D3:=D1.trans (D2.trans (.tok D2.r t))
 cases k with
 | false=>exact p _ _ φ2 D3 (.bool false)
 | true=>exact chain_last (hc (F.step D3) ((Pu.bd p).imp fun uu p v4 s4 φ4 D4 V4=>j5 o2 hu D4.r (V2.step D2.r D4.st) V4 p.map fun k t' p=>p _ _ φ4 (D3.trans (D4.trans (.tok D4.r t'))) (.bool k)))
theorem rY(hu:A.units+10 < cLine)(hr:cG re=true)(ha:aB w hb A env g cf a (eval le env))(hb':aB w hb A env g cf b (eval me env))(hc:aB w hb A env g cf c (eval re env)):
  fk w hb A env g cf (xt (iH o o2 a b c)) (isTrue (.Compare le [o,o2] [me,re] pos) env whole):=fun s=>fun {φ M l Q} F p=>by
 show wpAny _ A (do testChain pos (←eval le env) [o,o2] (markedEach [o,o2] [me,re] [eval me env,eval re env])) Q bX s
 rw [uA hr]
 refine wpAny_bind (ha F (p.bd.bd.imp fun uu p v1 s1 φ1 D1 V1=>test_link (hb' (F.step D1) (p.bd.imp fun uu p v2 s2 φ2 D2 V2=>j5 o hu D2.r (V1.step D1.r D2.st) V2 p.bind fun k t p=>wpAny_truthy_bool ?_))))
 have D3:=D1.trans (D2.trans (.tok D2.r t))
 cases k with
 | false=>exact p _ φ2 D3
 | true=>exact test_last (hc (F.step D3) ((Pu.bd p).imp fun uu p v4 s4 φ4 D4 V4=>j5 o2 hu D4.r (V2.step D2.r D4.st) V4 p.map fun k t' p=>wpAny_truthy_bool (p _ φ4 (D3.trans (D4.trans (.tok D4.r t'))))))
theorem lC{o i:Value}{sl:Expr}(h:gq sl=none):subscripted sl false o i=operate [o,i] (getItem o i):=by
 cases sl<;>first|rfl|exact nomatch h
theorem AR{value slice:Expr}(hu:A.units+10 < cLine)(hs:gq slice=none)(ha:aB w hb A env g cf a (eval value env))(hb':aB w hb A env g cf b (eval slice env)):aB w hb A env g cf (x2 a b item) (eval (.Subscript value slice pos) env):=
 oM (fun s Q h=>Subscript_ h) ha hb' (Bh hu fun o i=>lC hs)
theorem qg{f:Expr→X}{e:Option Expr}(h:∀ e,aB w hb A env g cf (f e) (eval e env)):aB w hb A env g cf (xP f e) (evalPart e env):=by
 cases e with
 | none=>exact fun uu=>fun F p=>by rw [evalPart_none];exact wpAny_pure (p _ _ _ (.refl F.r) .none)
 | some y=>exact h y
theorem V.part{k:Nat}(e:V φ h v d){q:Nat→Prop}(c:Pu (tJ d k n) q):∃ o,IsPart v o∧q (o.elim k (clipAt n)):=by
 cases d with
 | none=>cases e;exact ⟨Option.none,IsPart.none,c⟩
 | int i=>
  obtain ⟨t,rfl⟩:=e
  obtain ⟨h0,c⟩:=Pu.ite c
  exact ⟨some i,.int i t,by show q (clipAt n i);rw [←wQ h0];exact c⟩
 | _=>exact c.elim
theorem V.part2(e:V φ h v d){q:Option (Int×Tok)→Prop}(c:Pu (yk d) q):∃ o o',v=partValue o'∧o'.map (·.1)=o.map (·.1)∧q o:=by
 cases d with
 | none=>cases e;exact ⟨_,Option.none,rfl,rfl,c⟩
 | int i=>obtain ⟨t,rfl⟩:=e;exact ⟨some (i,0),some (i,t),rfl,rfl,c⟩
 | _=>exact c.elim
theorem lF{x:Str}{a a' b b':Option (Int×Tok)}(h1:a.map (·.1)=a'.map (·.1))(h2:b.map (·.1)=b'.map (·.1)):slicePicked x a b none=slicePicked x a' b' none:=by
 unfold slicePicked;rw [h1,h2]
theorem rJ(k n:Nat)(h:k≤n):Builtin.Slice.sliceAdjust none (some (k:Int)) 1 (n:Int)=(0,(k:Int)):=by
 unfold Builtin.Slice.sliceAdjust
 have h1:¬ ((1:Int) < 0):=by omega
 have h2:¬ ((k:Int) < 0):=by omega
 simp only [h1,h2,if_false]
 congr 1
 omega
theorem qC(k:Nat):Builtin.Slice.slicePlaces 0 (k:Int) 1=k:=by
 unfold Builtin.Slice.slicePlaces
 have h1:(1:Int) > 0:=by omega
 simp only [h1,if_true,Int.ediv_one]
 split<;>omega
theorem pL{E:Value→Shared→Prop}{sl:Addr}{k n:Nat}{u:Tok}{Q:Int×Int×Nat→Shared→Prop}(hs:s.heap.IsSliceOf sl .none (.int k u) .none)(hk:k≤n)(h:Q (0,1,k) s):
  wpAny (model pw0 w) A (Builtin.Slice.sliceApplied (.ref sl) (pure (n:Int))) Q E s:=by
 obtain ⟨os,hos,hcs,hds⟩:=id hs
 unfold Builtin.Slice.sliceApplied Builtin.Slice.sliceFields
 refine wpAny_bind (wpAny_bind (wpAny_field hos hds (x:=.none) rfl (wpAny_bind (wpAny_field hos hds (x:=.int k u) rfl (wpAny_bind (wpAny_field hos hds (x:=.none) rfl (wpAny_pure ?_)))))))
 refine wpAny_bind (slicePart_none ?_)
 show wpAny _ _ (if ((1:Int)==0)=true then _ else _) _ _ s
 rw [if_neg (by decide)]
 refine wpAny_bind (slicePart_none (wpAny_bind (slicePart_int (wpAny_bind (wpAny_pure ?_)))))
 show wpAny _ _ (match Builtin.Slice.sliceAdjust none (some (k:Int)) 1 (n:Int) with|(lo,hi)=>pure (lo,(1:Int),Builtin.Slice.slicePlaces lo hi 1)) _ _ s
 rw [rJ k n hk]
 show wpAny _ _ (pure ((0:Int),(1:Int),Builtin.Slice.slicePlaces 0 (k:Int) 1)) _ _ s
 rw [qC]
 exact wpAny_pure h
theorem vU(xs:Array Value)(k:Nat):((List.range k).filterMap fun (j:Nat)=>xs[((0:Int)+(j:Int) * 1).toNat]?).toArray=(xs.toList.take k).toArray:=by
 have e:(fun (j:Nat)=>xs[((0:Int)+(j:Int) * 1).toNat]?)=fun j=>xs[j]?:=by
  funext j
  have:((0:Int)+(j:Int) * 1).toNat=j:=by omega
  rw [this]
 rw [e]
 have:=pick_run xs 0 k
 rw [List.filterMap_map] at this
 have e2:((fun x=>xs[x]?) ∘ fun x=>0+x)=fun j=>xs[j]?:=by funext j;simp
 rw [e2] at this
 rw [this,List.drop_zero]
theorem pF{E:Value→Shared→Prop}{t sl:Addr}{items:Array Value}{k:Nat}{u:Tok}{Q:Value→Shared→Prop}(ht:IsTup s.heap t items)(hs:s.heap.IsSliceOf sl .none (.int k u) .none)(hk:k < items.size)
  (h:Q (.ref s.heap.objs.size) { s with heap:=s.heap.push (gx (items.toList.take k).toArray 0) }) (hsz:items.size≤sizeLine):wpAny (model pw0 w) A (getItem (.ref t) (.ref sl)) Q E s:=by
 have hdrop:sizeOk (.seq (items.toList.take k).toArray):=by
  show (items.toList.take k).toArray.size≤sizeLine
  rw [List.size_toArray,List.length_take,Array.length_toList]
  omega
 obtain ⟨os,hos,hcs,hds⟩:=id hs
 have hTs:s.TypeIs (.ref sl) "slice":=⟨os,hos,hcs⟩
 unfold getItem
 try with_reducible refine wpAny_holding ?_
 refine wpAny_bind (wpAny_sequenceKey ht.typeIs (by decide) ?_)
 refine wpAny_bind (wpAny_callSpecial?_slot (name:=Str.ofString "__getitem__") ht.typeIs slot_tuple_getitem (wpAny_call_entry slot_tuple_getitem ht.typeIs entry_tuple_getitem ?_ (args_tuple_getitem _ _)))
 show wpAny _ _ (Builtin.Tuple.tupleItemsOf (.ref t) >>= _) _ _ s
 refine wpAny_bind (tupleItemsOf_ ht (wpAny_bind (wpAny_typeOf hTs ?_)))
 rw [if_pos (by decide)]
 refine wpAny_bind (pL hs (Nat.le_of_lt hk) ?_)
 have hno:¬ (((0:Int)==0 && (1:Int)==1 && k==items.size)=true):=by
  have:(k==items.size)=false:=by rw [beq_eq_false_iff_ne];omega
  rw [this];simp
 show wpAny _ _ (if ((0:Int)==0 && (1:Int)==1 && k==items.size)=true then _ else _) _ _ s
 rw [if_neg hno,vU items k]
 exact wpAny_bind (m:=Builtin.Tuple.tupleExact _) (wpAny_newObj_type (wpAny_pure ⟨_,rfl,wpAny_pure h⟩) hdrop)
abbrev lG(v2 v3:Value):Obj:={ cls:=.type "slice",data:=.fields #[v2,v3,.none] }
theorem vz{x:Str}{xp sp:Pos}{lo hi:Option Expr}(ha:aB w hb A env g cf a (eval (.Name x xp) env))(hlo:aB w hb A env g cf b (evalPart lo env))(hhi:aB w hb A env g cf c (evalPart hi env)):
  aB w hb A env g cf (x3 a b c aT) (eval (.Subscript (.Name x xp) (.Slice lo hi none sp) pos) env):=fun {s φ M l Q} f p=>by
 obtain ⟨x1,e1,p⟩:=p.bd.eq
 obtain ⟨x2,e2,p⟩:=p.bd.eq
 obtain ⟨x3,e3,p⟩:=p.bd.eq
 obtain ⟨d1,M1⟩:=x1
 obtain ⟨d2,M2⟩:=x2
 obtain ⟨d3,M3⟩:=x3
 have walk:∀ P:Value→Value→Value→Shared→Prop,(∀ v1 v2 v3 s3 φ3,aM w hb φ s M3 φ3 s3→V φ3 s3.heap v1 d1→V φ3 s3.heap v2 d2→V φ3 s3.heap v3 d3→P v1 v2 v3 s3)→
   wpAny (model pw0 w) A (eval (.Name x xp) env) (fun v1 s1=>wpAny (model pw0 w) A (evalPart lo env) (fun v2 s2=>wpAny (model pw0 w) A (evalPart hi env) (fun v3 s3=>P v1 v2 v3 s3) bX s2) bX s1) bX s:=fun P hP=>
  ha f (.of e1 fun v1 s1 φ1 D1 V1=>hlo (f.step D1) (.of e2 fun v2 s2 φ2 D2 V2=>hhi ((f.step D1).step D2) (.of e3 fun v3 s3 φ3 D3 V3=>hP v1 v2 v3 s3 φ3 ((D1.trans D2).trans D3) ((V1.step D1.r D2.st).step D2.r D3.st) (V2.step D2.r D3.st) V3)))
 cases d1 with
 | tup l=>
  obtain ⟨hn,p⟩:=Pu.ite p
  cases d3 with
  | int i=>
   obtain ⟨hc,p5⟩:=Pu.ite p
   have hc:=aG hc
   have hc2:=of_decide_eq_true hc.2
   refine Subscript_ (wpAny_mono (walk (fun v1 v2 v3 s3=>wpAny (model pw0 w) A (subscriptTail (.Name x xp) (.Slice lo hi none sp) v1 (.ref s3.heap.objs.size)) Q bX { s3 with heap:=s3.heap.push (lG v2 v3) }) ?_) (fun v1 s1 h1=>wpAny_Slice (wpAny_mono h1 (fun v2 s2 h2=>wpAny_mono h2 (fun v3 s3 h3=>by rw [evalPart_none];exact wpAny_pure h3) fun uu uu1 x=>x) fun uu uu1 x=>x)) fun uu uu1 x=>x)
   intro v1 v2 v3 s3 φ3 D3 V1 V2 V3
   cases d2 with
   | none=>
    cases V2
    refine V3.int_ fun t=>V1.tup_ (G:=fun v1=>wpAny (model pw0 w) A (subscriptTail (.Name x xp) (.Slice lo hi none sp) v1 (.ref s3.heap.objs.size)) Q bX { s3 with heap:=s3.heap.push (lG .none (.int i t)) }) fun a' items n ho hl hi'=>?_
    have hsz:items.size=l.length:=hi'.length
    obtain ⟨k,rfl⟩:=Int.eq_ofNat_of_zero_le (of_decide_eq_true hc.1)
    have hk:k < items.size:=hsz▸Int.ofNat_lt.mp hc2
    have ho':(s3.heap.push (lG .none (.int k t))).get? a'=some (gx items n):=Heap.get?_push_of_some _ ho
    refine tail_any (T:="tuple") ⟨_,ho',rfl⟩ F.slot_tuple_getitem.lookup (pF (s:={ s3 with heap:=s3.heap.push (lG .none (.int k t)) }) ⟨_,ho',rfl,_,rfl⟩ (Heap.IsSliceOf.new ..) hk ?_ (by rw [sizeLine_eq,hsz];exact Fe hl)) rfl
    have D4:=D3.trans (.lay D3.r (lG .none (.int k t)) s3.toks)
    have hm:=(F2.mono hi' (aJ _) (du.keeps fun uu uu1=>Heap.get?_push_of_some (lG .none (.int k t)))).take k
    exact p5 _ _ φ3 (D4.trans (.lay D4.r _ _)) (kg hm (by rw [List.length_take];exact cn (Nat.min_le_right _ _) hl))
   | _=>exact gW hn
  | _=>exact p.elim
 | str x0=>
  refine wpAny_Subscript_str_slice (walk _ fun v1 v2 v3 s3 φ3 D3 V1 V2 V3=>?_)
  obtain ⟨t,rfl,hx⟩:=V1
  obtain ⟨o1,o1',rfl,e1,p⟩:=V2.part2 (Pu.bind p)
  obtain ⟨o2,o2',rfl,e2,p⟩:=V3.part2 (Pu.bind p)
  obtain ⟨hlen,p⟩:=Pu.ite p
  refine ⟨x0,t,o1',o2',rfl,rfl,rfl,?_⟩
  have D4:=D3.trans (.lay D3.r (lG (partValue o1') (partValue o2')) s3.toks)
  unfold sliceMade
  rw [lF e1 e2]
  by_cases q:((slicePicked x0 o1 o2 none).length==x0.length)=true
  ·have hc:CC x0 o1 o2=x0:=if_pos q
   rw [if_pos (by simpa using q)]
   rw [hc] at p
   exact p _ _ φ3 D4 (.str hx)
  ·have hc:CC x0 o1 o2=⟨((slicePicked x0 o1 o2 none).filterMap (x0.cps[·]?)).toArray⟩:=if_neg q
   rw [if_neg (by simpa using q)]
   rw [hc] at p hlen
   refine ⟨by rw [sizeLine_eq];exact Nat.le_trans hlen (by decide),?_⟩
   exact p _ _ φ3 (D4.trans (.tok D4.r _)) (.str (Nat.le_trans hlen (by decide)))
 | ref n=>
  have p:Pu (match (M3:List MO)[n]? with
   | some (.lst l)=>(tJ d2 0 l.length).bind fun x=>(tJ d3 l.length l.length).bind fun y=>new (.lst (Fq l x y)) M3
   | _=>none) (Kv w hb φ s Q):=p
  cases ho:(M3:List MO)[n]? with
  | none=>rw [ho] at p;exact p.elim
  | some o=>
  rw [ho] at p
  cases o with
  | lst l=>
   refine wpAny_Subscript_list_slice (walk _ fun v1 v2 v3 s3 φ3 D3 V1 V2 V3=>?_)
   obtain ⟨o1,P1,p⟩:=V2.part (Pu.bind p)
   obtain ⟨o2,P2,p⟩:=V3.part (Pu.bind p)
   obtain ⟨pa,rfl,hp⟩:=V1
   refine D3.r.lst hp ho fun items m uu hq hi' hl=>?_
   have hsz:items.size=l.length:=hi'.length
   refine ⟨pa.1,items,o1,o2,rfl,⟨_,hq,rfl,_,rfl⟩,by rw [sizeLine_eq,hsz];exact Fe hl,P1,P2,?_⟩
   have D4:=D3.trans (.lay D3.r (lG v2 v3) s3.toks)
   have hm:Vs φ3 (s3.heap.push (lG v2 v3)) _ (Fq l (o1.elim 0 (clipAt l.length)) (o2.elim l.length (clipAt l.length))):=
    ((F2.mono hi' (aJ _) (du.keeps fun uu uu1=>Heap.get?_push_of_some (lG v2 v3))).drop (o1.elim 0 (clipAt l.length))).take (o2.elim l.length (clipAt l.length) - o1.elim 0 (clipAt l.length))
   rw [slicePick_plain items o1 o2,hsz]
   have:=p _ _ _ (D4.trans (.own D4.r (kJ hm (by unfold Fq;rw [List.length_take,List.length_drop];exact cn (Nat.le_trans (Nat.min_le_right _ _) (Nat.sub_le _ _)) hl)))) (jJ D4.r _ _)
   rw [show (s3.heap.push (lG v2 v3)).objs.size=s3.heap.objs.size+1 from Heap.size_push ..] at this
   exact this
  | _=>exact p.elim
 | _=>exact p.elim
end
structure aI(w:World)(h:Heap):Prop where
 K:(KF w.params).In h
 b:∃ mb,h.Ns builtinsNs mb∧∀ x:Str,x≠"__name__"→mb x=bootBuiltins x
 nolimit:h.NoLimit
 nodigits:∃ mc,h.Ns cStatics mc∧mc "sys.int_max_str_digits"=none
theorem BD(P:Params):(KF P).lookup mainGlobals=some { cls:=.type "dict",data:=.dict (tC.map (tD P)).toArray 213 }:=by kernel_rfl
theorem yQ{P:Params}{x:Str}(l:List (String×Nat×Value)):((l.map (tD P)).find? (·.key.isStr x)).map (·.val)=jy x l∧(l.map (tD P)).any (·.refKey)=false:=by
 induction l with
 | nil=>exact ⟨rfl,rfl⟩
 | cons e r ih=>
  refine ⟨?_,by rw [List.map_cons,List.any_cons,ih.2];rfl⟩
  rw [List.map_cons,List.find?_cons,show (tD P e).key.isStr x=(Str.ofString e.1==x) from rfl]
  show _=if (Str.ofString e.1==x)=true then some e.2.2 else jy x r
  cases Str.ofString e.1==x with
  | true=>rfl
  | false=>exact ih.1
theorem uB(P:Params)(x:Str):nsIn (KF P) mainGlobals x=some (jy x tC):=by
 unfold nsIn
 rw [BD]
 dsimp only
 obtain ⟨h1,h2⟩:=yQ (P:=P) (x:=x) tC
 cases q:(tC.map (tD P)).find? (·.key.isStr x) with
 | some e=>rw [q] at h1;simp only [←h1];rfl
 | none=>rw [q] at h1;rw [←h1,h2];rfl
theorem BC{α β:Type}{R:α→β→Prop}{f:α→Option β}{l:List α}{r:List β}(e:l.mapM f=some r)(hR:∀ a b,a∈l→f a=some b→R a b):F2 R l r:=by
 induction l generalizing r with
 | nil=>cases e;trivial
 | cons a l ih=>
  rw [List.mapM_cons] at e
  obtain ⟨b,q,e⟩:=cN e
  obtain ⟨bs,q2,e⟩:=cN e
  cases e
  exact ⟨hR a b aw q,ih q2 fun a b h=>hR a b (aE _ h)⟩
theorem lO{t:String}{o:Obj}(h:sF t o=true):o={ cls:=.type t,data:=o.data }:=by
 obtain ⟨c,d,dt,⟨sl⟩⟩:=o
 obtain ⟨h1,h2⟩:=aG h
 obtain ⟨h2,h3⟩:=aG h2
 cases eq_of_beq h1
 cases Option.isNone_iff_eq_none.mp h2
 cases sl with
 | nil=>rfl
 | cons=>cases h3
theorem vl{o:Option Obj}{xs:Array Value}(e:CT o=some xs):∃ n,o=some (gx xs n):=by
 obtain ⟨o,rfl,e⟩:=cN e
 obtain ⟨c,d,dt,sl⟩:=o
 cases dt with
 | seq ys n=>
  obtain ⟨h,e⟩:=Pu.ite (p:=fun y=>y=xs) (.of e rfl)
  cases e
  exact ⟨n,congrArg some (lO h)⟩
 | _=>exact fO e
theorem wJ{o:Obj}{xs:Array DictEntry}(e:DO o=some xs):∃ n,o=cC xs n:=by
 obtain ⟨c,d,dt,sl⟩:=o
 cases dt with
 | dict ys n=>
  obtain ⟨h,e⟩:=Pu.ite (p:=fun y=>y=xs) (.of e rfl)
  cases e
  exact ⟨n,lO h⟩
 | _=>exact fO e
theorem lM{P:Params}{φ:Phi}{h:Heap}(X:(KF P).In h){n:Nat}{v:Value}{d:D}(e:jr P n v=some d):V φ h v d:=by
 induction n generalizing v d with
 | zero=>exact fO e
 | succ n ih=>
  cases v with
  | int i t=>cases e;exact .int i t
  | str x t=>
   obtain ⟨z,e⟩:=Pu.ite (p:=fun y=>y=d) (.of e rfl)
   cases e
   exact .str (Nat.le_trans z (by decide))
  | ref a=>
   obtain ⟨xs,q,e⟩:=cN e
   obtain ⟨k,hk⟩:=vl q
   obtain ⟨z,e⟩:=Pu.ite (p:=fun y=>y=d) (.of e rfl)
   obtain ⟨ds,q2,rfl⟩:=e.map.eq
   have f:Vs φ h xs.toList ds:=BC q2 fun a b uu=>ih
   exact .tup (X _ _ hk) (by have:xs.size=ds.length:=f.length;omega) f
  | _=>exact fO e
def Ki(P:Params)(u:Value):GV→Prop
 | .c d=>∃ n,jr P n u=some d
 | .fn a=>u=.ref a∧keepIn (KF P) (.ref a)=true
 | .cls a=>u=.ref a∧keepIn (KF P) (.ref a)=true
 | .bi _=>False
 | .tab l=>∃ a es n,u=.ref a∧(KF P).lookup a=some (cC es n)∧CW a es=true∧es.toList.mapM (ye P 5)=some l
theorem vP{P:Params}{u:Value}{g:GV}(e:C0 P u=some g):Ki P u g:=by
 have viaV:(jr P 8 u).map .c=some g→Ki P u g:=fun e=>by
  obtain ⟨d,q,rfl⟩:=Option.map_eq_some_iff.mp e
  exact ⟨8,q⟩
 cases u with
 | ref a=>
  obtain ⟨o,hl,e⟩:=cN e
  obtain ⟨c,dd,dt,sl⟩:=o
  cases dt with
  | func fd=>cases e;exact ⟨rfl,by unfold keepIn;dsimp only;rw [hl]⟩
  | cls=>
   obtain ⟨z,e⟩:=Pu.ite (p:=fun y=>y=g) (.of e rfl)
   cases e;exact ⟨rfl,z⟩
  | dict es n=>
   obtain ⟨es,q,e⟩:=cN e
   obtain ⟨n,q⟩:=wJ q
   obtain ⟨z,e⟩:=Pu.ite (p:=fun y=>y=g) (.of e rfl)
   obtain ⟨l,q2,rfl⟩:=e.map.eq
   exact ⟨a,es,n,rfl,q▸hl,z,q2⟩
  | _=>exact viaV e
 | _=>exact viaV e
structure bF(sc:Scope)(env:Env):Prop where
 names:∀ x,env.scope.names.lookup x=sc.names.lookup x∨(sc.names.lookup x=some .free∧env.scope.names.lookup x=some .cell)
noncomputable def mI:BI→Value
 | .len=>.builtin "len"|.sorted=>.builtin "sorted"|.all=>.builtin "all"|.max=>.builtin "max"|.min=>.builtin "min"
 | .range=>.type "range"|.tuple=>.type "tuple"|.str=>.type "str"|.int=>.type "int"|.dict=>.type "dict"
theorem Fh:(KM.all fun p=>(bootBuiltins (Str.ofString p.1)==some (mI p.2)) && (Str.ofString p.1 != ("__name__":Str)))=true:=by kernel_rfl
theorem nX{α:Type}{x:Str}{l:List (String×α)}{b:α}(e:iF x l=some b):∃ a,(a,b)∈l∧Str.ofString a=x:=by
 induction l with
 | nil=>exact fO e
 | cons p r ih=>
  have e:(if (Str.ofString p.1==x)=true then some p.2 else iF x r)=some b:=e
  by_cases h:(Str.ofString p.1==x)=true
  ·rw [if_pos h] at e;cases e;exact ⟨p.1,aw,eq_of_beq h⟩
  ·rw [if_neg h] at e
   obtain ⟨a',h1,h2⟩:=ih e
   exact ⟨a',aE _ h1,h2⟩
section
variable {pos:Pos}
theorem aI.keeps(x:aI w h)(k:∀ b o,h.get? b=some o→h'.get? b=some o):aI w h' where
 K:=x.K.keeps k
 b:=x.b.imp fun mb q=>⟨q.1.keeps k,q.2⟩
 nolimit:=x.nolimit.imp fun mc q=>⟨q.1.keeps k,q.2⟩
 nodigits:=x.nodigits.imp fun mc q=>⟨q.1.keeps k,q.2⟩
theorem R.base'(r:R w hb φ h M)(B:aI w hb):aI w h:=B.keeps r.base
theorem bF.glob(S:bF sc env)(h:sc.names.lookup x=some .globalImplicit):env.scope.names.lookup x=some .globalImplicit:=
 (S.names x).elim (fun e=>e.trans h) fun e=>nomatch h.symm.trans e.1
theorem rt{gvx:GV}(e:glob (gv w.params) sc x=some gvx)(S:bF sc env)(X:aI w s.heap)(fr:aW hb env φ h):(∃ u,Ki w.params u gvx∧∀ {E Q},Q u s→wpAny (model pw0 w) A (eval (.Name x pos) env) Q E s)∨∃ b,gvx=.bi b∧∀ {E Q},Q (mI b) s→wpAny (model pw0 w) A (eval (.Name x pos) env) Q E s:=by
 obtain ⟨⟨h1,h2⟩,e⟩:=Pu.ite (p:=fun y=>y=gvx) (.of e rfl)
 replace e:gv w.params x=some gvx:=by
  obtain ⟨_,q,rfl⟩:=e.eq
  exact q
 unfold gv at e
 split at e
 ·rename_i hu
  refine .inl ⟨v,vP e,fun {E Q} hq=>Calls.Name_function_global fr.kind (S.glob h1) ?_ h2⟩
  unfold loadGlobal
  rw [fr.glob]
  refine wpAny_bind ((looks_nsIn (M:=model pw0 w) X.K (uB w.params x)).here ?_)
  rw [hu]
  exact wpAny_pure hq
 ·rename_i hu
  obtain ⟨b,hb',rfl⟩:=Option.map_eq_some_iff.mp e
  obtain ⟨a,m1,rfl⟩:=nX hb'
  have:=aG (db Fh _ m1)
  refine .inr ⟨b,rfl,fun {E Q} hq=>Calls.Name_function_global fr.kind (S.glob h1) ?_ h2⟩
  unfold loadGlobal
  rw [fr.glob,fr.blt]
  refine wpAny_bind ((looks_nsIn (M:=model pw0 w) X.K (uB w.params _)).here ?_)
  rw [hu]
  obtain ⟨mb,hm,hmb⟩:=X.b
  refine wpAny_bind (wpAny_nsGet hm ?_)
  rw [hmb _ (bne_iff_ne.mp this.2),eq_of_beq this.1]
  exact wpAny_pure hq
theorem DY{d:D}(B:aI w hb)(S:bF sc env)(e:glob (gv w.params) sc x=some (.c d)):aB w hb A env g cf (xk d) (eval (.Name x pos) env):=fun uu=>fun F p=>by
 have X:=F.r.base' B
 rcases rt (A:=A) (pos:=pos) e S X F.fr with ⟨u,⟨n,hn⟩,k⟩|⟨b,q,_⟩
 ·exact k (p u _ _ (.refl F.r) (lM X.K hn))
 ·cases q
theorem Bx{a:Nat}(B:aI w hb)(S:bF sc env)(r:R w hb φ s.heap M)(fr:aW hb env φ s.heap)(e:glob (gv w.params) sc x=some (.fn a))(h:keepIn (KF w.params) (.ref a)=true→Q (.ref a) s):wpAny (model pw0 w) A (eval (.Name x pos) env) Q E s:=by
 rcases rt (A:=A) (pos:=pos) e S (r.base' B) fr with ⟨u,⟨rfl,z⟩,k⟩|⟨b,q,_⟩
 ·exact k (h z)
 ·cases q
theorem yK{a:Nat}(B:aI w hb)(S:bF sc env)(r:R w hb φ s.heap M)(fr:aW hb env φ s.heap)(e:glob (gv w.params) sc x=some (.cls a))(h:keepIn (KF w.params) (.ref a)=true→Q (.ref a) s):wpAny (model pw0 w) A (eval (.Name x pos) env) Q E s:=by
 rcases rt (A:=A) (pos:=pos) e S (r.base' B) fr with ⟨u,⟨rfl,z⟩,k⟩|⟨b,q,_⟩
 ·exact k (h z)
 ·cases q
theorem o0{b:BI}(B:aI w hb)(S:bF sc env)(r:R w hb φ s.heap M)(fr:aW hb env φ s.heap)(e:glob (gv w.params) sc x=some (.bi b))(h:Q (mI b) s):wpAny (model pw0 w) A (eval (.Name x pos) env) Q E s:=by
 rcases rt (A:=A) (pos:=pos) e S (r.base' B) fr with ⟨u,z,_⟩|⟨b,q,k⟩
 ·exact z.elim
 ·cases q;exact k h
end
structure cK(w:World)(hb:Heap)(env:Env)(φ:Phi)(s:Shared)(H':H)(φ':Phi)(s':Shared):Prop where
 r:R w hb φ' s'.heap H'
 fr:aW hb env φ' s'.heap
 pre:φ <+: φ'
 keep:∀ a o,s.heap.get? a=some o→¬ dm φ a→a≠env.locals→(∀ x,env.cells.lookup x≠some a)→s'.heap.get? a=some o
 fresh:∀ a,dm φ' a→¬ dm φ a→s.heap.get? a=none
 dicts:∀ a es n,s.heap.get? a=some (cC es n)→a≠env.locals→tV s'.heap a es n
 os:s'.os=s.os
 gens:s'.gens=s.gens
def IV(φ:Phi)(h:Heap)(f:Flow):Fl→Prop
 | .next=>f=.next
 | .cont=>f=.cont
 | .ret d=>∃ v,f=.ret v∧V φ h v d
def Ks(w:World)(hb:Heap)(env:Env)(g:G)(φ:Phi)(s:Shared)(Q:Flow→Shared→Prop)(x:Fl×L×H):Prop:=
 ∀ f s' φ',cK w hb env φ s x.2.2 φ' s'→tU env φ' s'.heap g x.2.1→IV φ' s'.heap f x.1→Q f s'
def ct(w:World)(hb:Heap)(A:Around)(env:Env)(g:G)(cf:CF)(x:XS)(t:Sem Flow):Prop:=
 ∀ ⦃s⦄ {φ M l Q},Fr w hb env g φ s M l→Pu (x cf l M) (Ks w hb env g φ s Q)→wpAny (model pw0 w) A t Q bX s
def ix(g:G):Prop:=∀ x y i,look x g=some i→look y g=some i→x=y
section
variable {u:Value}{xa xb:XS}{c0:Addr}{pos:Pos}
theorem aM.toS(x:aM w hb φ s M φ' s')(f:aW hb env φ s.heap):cK w hb env φ s M φ' s':=
 ⟨x.r,f.step x.st,x.st.pre,fun a o e n uu uu1=>x.st.keep a o e n,x.st.fresh,fun a es n e uu=>x.st.dicts a es n e,x.os,x.gens⟩
theorem aW.locals_at(f:aW hb env φ h):∃ o,h.get? env.locals=some o:=by
 obtain ⟨m,o,es,ep,ho,_⟩:=f.locs
 exact ⟨o,ho⟩
theorem cK.trans(x:cK w hb env φ s M φ' s')(y:cK w hb env φ' s' M' φ'' s''):cK w hb env φ s M' φ'' s'' where
 r:=y.r
 fr:=y.fr
 pre:=x.pre.trans y.pre
 keep a o e n h1 h2:=y.keep a o (x.keep a o e n h1 h2) (fun o'=>aD e (x.fresh a o' n)) h1 h2
 fresh a o n:=by
  by_cases q:dm φ' a
  ·exact x.fresh a q n
  ·have yn:=y.fresh a o q
   cases h1:s.heap.get? a with
   | none=>rfl
   | some u=>
    refine (aD (x.keep a u h1 n (fun e=>?_) fun x' hx'=>?_) yn).elim
    ·obtain ⟨o',ho⟩:=x.fr.locals_at
     exact aD (e▸ho) yn
    ·obtain ⟨_,v',o',ho,_⟩:=x.fr.cells x' a hx'
     exact aD ho yn
 dicts a es n e h1:=(x.dicts a es n e h1).trans fun es n e=>y.dicts a es n e h1
 os:=y.os.trans x.os
 gens:=y.gens.trans x.gens
theorem aW.kinds(f:aW hb env φ h){a:Addr}(z:a=env.locals∨∃ x,env.cells.lookup x=some a):(∀ xs n,h.get? a≠some (gx xs n))∧(∀ xs n,h.get? a≠some (gP xs n)):=by
 rcases z with rfl|⟨x,hx⟩
 ·obtain ⟨m,o,es,ep,ho,hd,_⟩:=f.locs
  exact ⟨fun xs n e=>(by rw [e] at ho;cases ho;cases hd),fun xs n e=>(by rw [e] at ho;cases ho;cases hd)⟩
 ·obtain ⟨_,v,o,ho,hd⟩:=f.cells x a hx
  exact ⟨fun xs n e=>(by rw [e] at ho;cases ho;cases hd),fun xs n e=>(by rw [e] at ho;cases ho;cases hd)⟩
theorem cK.tups(x:cK w hb env φ s M φ' s')(r:R w hb φ s.heap M')(f:aW hb env φ s.heap):du s.heap s'.heap:=fun a xs n e=>
 x.keep a _ e (r.tup_free e) (fun z=>(f.kinds (.inl z)).1 xs n e) fun y z=>(f.kinds (.inr ⟨y,z⟩)).1 xs n e
theorem R.other(r:R w hb φ h M)(hs:Heap.SameBut c0 h h')(hc:¬ dm φ c0)(h0:∀ p,φ[0]?=some p→c0≠p.1∧c0≠p.2)(hn:hb.get? c0=none)(ht:∀ xs n,h.get? c0≠some (gx xs n)):R w hb φ h' M∧du h h':=by
 have tp:du h h':=fun a xs n e=>(hs.2 a (fun z=>ht xs n (z▸e))).trans e
 refine ⟨⟨r.len,fun n p o hp ho=>?_,r.apart,r.new,r.ne,r.mods,by rw [SameBut.size hs];exact r.big,fun b o e=>(hs.2 b (fun z=>aD e (z▸hn))).trans (r.base b o e),r.scr⟩,tp⟩
 have ne:p.1≠c0∧p.2≠c0:=by
  by_cases hz:n=0
  ·subst hz;exact ⟨fun e=>(h0 p hp).1 e.symm,fun e=>(h0 p hp).2 e.symm⟩
  ·have o12:=dm.at hz hp
   exact ⟨fun e=>hc (e▸o12.1),fun e=>hc (e▸o12.2)⟩
 exact (r.obj n p o hp ho).move (aJ _) tp (hs.2 _ ne.1) (hs.2 _ ne.2)
theorem R.scr1(r:R w hb φ h M){p:Addr×Addr}(e:φ[0]?=some p)(hc:∀ xs n,h.get? c0≠some (gP xs n)):c0≠p.1∧c0≠p.2:=by
 obtain ⟨l,hl⟩:=r.scr
 obtain ⟨q,_,xs,n,ho,_⟩:=r.obj 0 p _ e hl
 exact ⟨fun z=>hc xs n (z▸ho),fun z=>hc xs n (by rw [z,q];exact ho)⟩
theorem pY{x:Str}{i:Nat}{t:Nat}(F:Fr w hb env g φ s M l)(hx:look x g=some i)(hg:ix g)(hV:V φ s.heap v d)(hs:Heap.SameBut c0 s.heap h')
  (hc:(c0=env.locals∧(∃ m,h'.Ns env.locals m∧m x=some v∧∀ m0,s.heap.Ns env.locals m0→∀ y,y≠x→m y=m0 y)∧env.scope.names.lookup x=some .local)∨(env.cells.lookup x=some c0∧h'.IsCell c0 (some v)∧env.scope.names.lookup x=some .cell)) :
  cK w hb env φ s M φ { s with heap:=h',toks:=t }∧tU env φ h' g (upd l i d):=by
 obtain ⟨r,f,lo⟩:=F
 have kind:c0=env.locals∨∃ x,env.cells.lookup x=some c0:=hc.imp (·.1) fun q=>⟨x,q.1⟩
 have kd:=f.kinds kind
 have c1:¬ dm φ c0∧hb.get? c0=none:=by
  rcases kind with rfl|⟨y,hy⟩
  ·exact ⟨f.free,f.newL⟩
  ·exact ⟨(f.cells _ _ hy).1,f.newC _ _ hy⟩
 obtain ⟨r',tp⟩:=r.other hs c1.1 (fun p hp=>r.scr1 hp kd.2) c1.2 kd.1
 have fr':aW hb env φ h':=by
  refine ⟨f.kind,f.glob,f.blt,?_,f.free,fun y c' hy=>⟨(f.cells y c' hy).1,?_⟩,f.newL,f.newC,f.has,f.apart,f.ne⟩
  ·rcases hc with ⟨rfl,⟨m,hm,_⟩,_⟩|⟨hc,_,_⟩
   ·exact ⟨m,hm⟩
   ·exact f.locs.imp fun m hm=>hm.sameBut hs (Ne.symm (f.ne _ _ hc))
  ·by_cases q:c'=c0
   ·rcases hc with ⟨rfl,_,_⟩|⟨hc,hc2,_⟩
    ·exact absurd q (f.ne _ _ hy)
    ·exact ⟨_,q▸hc2⟩
   ·exact (f.cells y c' hy).2.imp fun v' hv'=>hv'.sameBut hs q
 refine ⟨⟨r',fr',aJ _,fun a o e n1 n2 n3=>(hs.2 a fun z=>?_).trans e,fun a o n=>absurd o n,fun a es n e h1=>.same ((hs.2 a fun z=>?_).trans e),rfl,rfl⟩,fun y j d' hy hj=>?_⟩
 ·rcases kind with q|⟨y,hy⟩
  ·exact n2 (z.trans q)
  ·exact n3 y (z▸hy)
 ·rcases kind with q|⟨y,hy⟩
  ·exact h1 (z.trans q)
  ·obtain ⟨_,v',o,ho,hd⟩:=f.cells _ _ hy
   rw [←z,e] at ho;cases ho;cases hd
 ·by_cases hji:j=i
  ·subst hji
   have:=hg y x j hy hx
   subst this
   have:d'=d:=by rw [upd,if_pos rfl] at hj;exact (Option.some.inj hj).symm
   subst this
   refine ⟨v,?_,hV.mono (aJ _) tp⟩
   rcases hc with ⟨rfl,⟨m,hm,hmv,_⟩,hkl⟩|⟨hc,hc2,hkc⟩
   ·exact .inl ⟨hkl,m,hm,hmv⟩
   ·exact .inr ⟨.inl hkc,c0,hc,hc2⟩
  ·rw [upd,if_neg hji] at hj
   obtain ⟨v',hv',hV'⟩:=lo y j d' hy hj
   refine ⟨v',?_,hV'.mono (aJ _) tp⟩
   have hyx:y≠x:=fun e=>hji (Option.some.inj ((e▸hy).symm.trans hx))
   rcases hv' with ⟨k,m,hm,hmv⟩|⟨k,c',hc',hcv⟩
   ·rcases hc with ⟨rfl,⟨m',hm',_,hm2⟩,_⟩|⟨hc,_,_⟩
    ·exact .inl ⟨k,m',hm',by rw [hm2 m hm y hyx];exact hmv⟩
    ·exact .inl ⟨k,m,hm.sameBut hs (Ne.symm (f.ne _ _ hc)),hmv⟩
   ·refine .inr ⟨k,c',hc',hcv.sameBut hs fun z=>?_⟩
    rcases hc with ⟨rfl,_,_⟩|⟨hc,_,_⟩
    ·exact f.ne _ _ hc' z
    ·exact hyx (f.apart _ _ _ hc' (z▸hc))
theorem gI{x:Str}{i:Nat}(F:Fr w hb env g φ s M l)(hx:look x g=some i)(hg:ix g)
  (hk:env.scope.names.lookup x=some .local∨env.scope.names.lookup x=some .cell) (hV:V φ s.heap v d) {Q:Unit→Shared→Prop} (h:∀ s',cK w hb env φ s M φ s'→tU env φ s'.heap g (upd l i d)→Q () s') :
  wpAny (model pw0 w) A (storeName env x v) Q bX s:=by
 rcases hk with hk|hk
 ·obtain ⟨m,hm⟩:=F.fr.locs
  refine wpAny_storeName_local hk hm (fun h' hn hs=>?_) (by rw [F.fr.kind];rfl)
  have q:=pY (t:=s.toks+1) F hx hg hV hs (.inl ⟨rfl,⟨_,hn,if_pos rfl,fun m0 hm0 y hy=>?_⟩,hk⟩)
  ·exact h _ q.1 q.2
  ·rw [if_neg hy]
   obtain ⟨o,es,ep,ho,hd,_,hf⟩:=hm
   obtain ⟨o',es',ep',ho',hd',_,hf'⟩:=hm0
   rw [ho] at ho';cases ho'
   rw [hd] at hd';cases hd'
   rw [←hf y,hf' y]
 ·obtain ⟨c,hc⟩:=Option.isSome_iff_exists.mp (F.fr.has x (.inl hk))
  obtain ⟨_,v0,hv0⟩:=F.fr.cells x c hc
  refine wpAny_storeName_cell F.fr.kind hk hc hv0 fun h' hcl hs=>?_
  have q:=pY (t:=s.toks) F hx hg hV hs (.inr ⟨hc,hcl,hk⟩)
  exact h _ q.1 q.2
theorem Ks.after{Q:Flow→Shared→Prop}{x:Fl×L×H}(D:cK w hb env φ s M φ' s')(k:Ks w hb env g φ s Q x):Ks w hb env g φ' s' Q x:=fun f s2 φ2 D2=>k f s2 φ2 (D.trans D2)
theorem Pu.afterS{Q:Flow→Shared→Prop}{o:Option (Fl×L×H)}(p:Pu o (Ks w hb env g φ s Q))(D:cK w hb env φ s M φ' s'):Pu o (Ks w hb env g φ' s' Q):=p.imp fun uu k=>k.after D
theorem vc{h:Heap}(B:aI w h):1 < h.objs.size:=by
 have:(KF w.params).lookup 83=some (fJ [vi 1 285,vs "any" 397]):=by kernel_rfl
 exact Nat.lt_of_lt_of_le (by decide) (Nat.le_of_lt (Heap.lt_size (B.K _ _ this)))
theorem aM.kept(B:aI w hb)(r:R w hb φ s.heap M)(t:Nat)(hk:∀ b o,s.heap.get? b=some o→h'.get? b=some o):aM w hb φ s M φ { s with heap:=h',toks:=t }:=
 ⟨r.keep hk (vc (B.keeps fun b o e=>hk b o (r.base b o e))),eI.keeps φ hk,rfl,rfl⟩
theorem Fr.ks(F:Fr w hb env g φ s M l){x:Fl}{f:Flow}{Q:Flow→Shared→Prop}(D:aM w hb φ s M' φ' s')(k:Ks w hb env g φ s Q (x,l,M'))(z:IV φ' s'.heap f x):Q f s':=k f s' φ' (D.toS F.fr) (F.lo.step F.r F.fr D.st) z
theorem cK.fr'(D:cK w hb env φ s M φ' s')(L:tU env φ' s'.heap g l):Fr w hb env g φ' s' M l:=⟨D.r,D.fr,L⟩
theorem bN{t:Sem Flow}:ct w hb A env g cf eM t:=fun uu=>fun uu p=>p.elim
theorem xO:ct w hb A env g cf aa (exec (.Pass pos) env):=fun uu=>fun F p=>wpAny_Pass (F.ks (.refl F.r) p rfl)
theorem xU:ct w hb A env g cf ui (exec (.Continue pos) env):=fun uu=>fun F p=>wpAny_Continue (F.ks (.refl F.r) p rfl)
theorem AT:ct w hb A env g cf aa (execs [] env):=fun uu=>fun F p=>wpAny_execs_nil (F.ks (.refl F.r) p rfl)
theorem bA{st:Stmt}{rest:List Stmt}(ha:ct w hb A env g cf xa (exec st env))(hb':ct w hb A env g cf xb (execs rest env)):ct w hb A env g cf (fL xa xb) (execs (st::rest) env):=fun uu=>fun F p=>by
 refine wpAny_execs_cons (ha F (p.bs.imp fun x p f s1 φ1 D1 L1 F1=>?_))
 obtain ⟨fl,l1,M1⟩:=x
 cases fl with
 | next=>cases F1;exact hb' (D1.fr' L1) (Pu.afterS p D1)
 | cont=>cases F1;exact p _ s1 φ1 D1 L1 rfl
 | ret d=>obtain ⟨v,rfl,hv⟩:=F1;exact p _ s1 φ1 D1 L1 ⟨v,rfl,hv⟩
theorem AS{e:Expr}(ha:aB w hb A env g cf a (eval e env)):ct w hb A env g cf (af a) (exec (.Return (some e) pos) env):=fun uu=>fun F p=>
 wpAny_Return_some (ha F (p.bd.imp fun uu p v s1 φ1 D1 V1=>F.ks D1 p ⟨v,rfl,V1⟩))
theorem xN:ct w hb A env g cf (af (xk .none)) (exec (.Return none pos) env):=fun uu=>fun F p=>wpAny_Return_none (F.ks (.refl F.r) p ⟨_,rfl,.none⟩)
theorem DX{t:XT}{x:Expr}{body orelse:List Stmt}(ht:fk w hb A env g cf t (isTrue x env (eval x env)))(ha:ct w hb A env g cf xa (execs body env))(hb':ct w hb A env g cf xb (execs orelse env)):
  ct w hb A env g cf (ay t xa xb) (exec (.If x body orelse pos) env):=fun uu=>fun F p=>by
 refine wpAny_If (ht F (p.bd.imp fun x p s1 φ1 D1=>?_))
 obtain ⟨c,M1⟩:=x
 cases c with
 | true=>exact ha (F.step D1) (Pu.afterS p (D1.toS F.fr))
 | false=>exact hb' (F.step D1) (Pu.afterS p (D1.toS F.fr))
theorem AW{e:Expr}(hs:swapsWith e none pos.line env=pure false)(ha:aB w hb A env g cf a (eval e env)):ct w hb A env g cf (bn a) (exec (.Expr e pos) env):=fun uu=>fun F p=>
 wpAny_Expr_any (ha F (p.bd.imp fun uu p v s1 φ1 D1 V1=>F.ks D1 p rfl)) (by unfold interactive;rw [F.fr.kind];rfl) hs
theorem lE{sc:Scope}{x:Str}(S:bF sc env)(h:fH sc x=true):env.scope.names.lookup x=some .local∨env.scope.names.lookup x=some .cell:=by
 unfold fH at h
 rcases S.names x with q|⟨q,_⟩
 ·rw [q]
  split at h
  ·exact .inl ‹_›
  ·exact .inr ‹_›
  ·exact gW h
 ·rw [q] at h;exact gW h
theorem ue{sc:Scope}{x:Str}{i:Nat}{e:Expr}{np:Pos}(S:bF sc env)(G:ix g)(hx:look x g=some i)(hk:fH sc x=true)(hs:swapsWith e (some (.Name x np)) pos.line env=pure false)(ha:aB w hb A env g cf a (eval e env)):
  ct w hb A env g cf (ae i a) (exec (.Assign [.Name x np] e pos) env):=fun uu=>fun F p=>
 wpAny_Assign_Name (ha F (p.bd.imp fun uu p v s1 φ1 D1 V1=>gI (F.step D1) hx G (lE S hk) V1 fun s2 D2 L2=>p _ s2 φ1 ((D1.toS F.fr).trans D2) L2 rfl)) hs
theorem A1{sc:Scope}{x:Str}{i:Nat}{e:Expr}{o:Operator}{np:Pos}(S:bF sc env)(G:ix g)(hx:look x g=some i)(hk:fH sc x=true)(ha:aB w hb A env g cf a (eval e env)):
  ct w hb A env g cf (ae i (x2 (xv i) a (Aj o))) (exec (.AugAssign (.Name x np) o e pos) env):=fun s=>fun {φ M l Q} F p=>by
 have p:=p.bd.bd
 cases q0:l i with
 | none=>unfold xv at p;rw [q0] at p;exact p.elim
 | some d0=>
  unfold xv at p;rw [q0] at p
  obtain ⟨v0,hv0,V0⟩:=F.lo x i d0 hx q0
  refine wpAny_AugAssign_Name ?_
  have rest:wpAny (model pw0 w) A (eval e env) (fun v s₂=>wpAny (model pw0 w) A (inplaceOp o v0 v) (fun r s₃=>wpAny (model pw0 w) A (storeName env x r) (fun uu=>Q .next) bX s₃) bX s₂) bX s:=
   ha F ((Pu.bd p).imp fun uu p v s1 φ1 D1 V1=>Eo o D1.r (V0.step F.r D1.st) V1 (p.imp fun uu p v2 s2 φ2 D2 V2=>gI ((F.step D1).step D2) hx G (lE S hk) V2 fun s3 D3 L3=>p _ s3 φ2 (((D1.trans D2).toS F.fr).trans D3) L3 rfl))
  rcases hv0 with ⟨k,m,hm,hv⟩|⟨k|k,c,hc,ho⟩
  ·exact wpAny_loadName_local F.fr.kind k hm hv rest
  ·exact wpAny_loadName_cell F.fr.kind k hc ho rest
  ·rcases lE S hk with z|z<;>exact nomatch k.symm.trans z
theorem vx{e o i:Expr}{tp:Pos}(hu:A.units+10 < cLine)(hs:swapsWith e (some (.Subscript o i tp)) pos.line env=pure false)
  (ha:aB w hb A env g cf a (eval e env)) (hb':aB w hb A env g cf b (eval o env)) (hc:aB w hb A env g cf c (eval i env)):ct w hb A env g cf (bB a b c) (exec (.Assign [.Subscript o i tp] e pos) env):=fun uu=>fun F p=>
 wpAny_Assign_Subscript (ha F (p.bd.imp fun uu p v1 s1 φ1 D1 V1=>hb' (F.step D1) (p.bd.imp fun uu p v2 s2 φ2 D2 V2=>hc ((F.step D1).step D2) (p.bd.imp fun uu p v3 s3 φ3 D3 V3=>
  sh hu D3.r (V2.step D2.r D3.st) V3 ((V1.step D1.r D2.st).step D2.r D3.st) (p.map.imp fun uu p s4 D4=>F.ks (((D1.trans D2).trans D3).trans D4) p rfl))))) hs
theorem vy{e o:Expr}{f:Str}{tp:Pos}(KX:(KF w.params).In hb)(hs:swapsWithSole [.Attribute o f tp] e pos.line env=pure false)(hw:swappedStores [.Attribute o f tp] e env=pure none)
  (ha:aB w hb A env g cf a (eval e env)) (hb':aB w hb A env g cf b (eval o env)):ct w hb A env g cf (bx a b f) (exec (.Assign [.Attribute o f tp] e pos) env):=fun uu=>fun F p=>by
 refine wpAny_Assign_stores (ha F (p.bd.imp fun uu p v1 s1 φ1 D1 V1=>?_)) hs hw
 show wpAny _ A (do
  let ov ←holding [v1] (eval o env)
  standAt tp.atName
  holding [v1,ov] (PySem.setAttr ov f v1)
  release [v1,ov] []) _ _ _
 refine wpAny_bind (wpAny_holding (hb' (F.step D1) (p.bd.imp fun uu p v2 s2 φ2 D2 V2=>wpAny_bind (wpAny_standAt (wpAny_bind (wpAny_holding ?_))))))
 exact sj f KX D2.r V2 (V1.step D1.r D2.st) (p.map.imp fun uu p s4 D4=>wpAny_release (F.ks ((D1.trans D2).trans D4) p rfl))
end
theorem lT{e:Expr}{x:Str}(h:eY e=some x):∃ p,e=.Name x p:=by
 cases e<;>first|exact ⟨_,congrArg (Expr.Name · _) (Option.some.inj h)⟩|exact fO h
abbrev tT(sc:Scope)(g:G)(e:Expr)(i:Nat):Prop:=∃ x p,e=.Name x p∧look x g=some i∧fH sc x=true
theorem wi{sc:Scope}{g:G}{es:List Expr}{is:List Nat}(h:names sc g es=some is):F2 (tT sc g) es is:=by
 induction es generalizing is with
 | nil=>cases h;trivial
 | cons e es ih=>
  obtain ⟨x,h1,h⟩:=cN h
  obtain ⟨i,h2,h⟩:=cN h
  obtain ⟨h3,h⟩:=Pu.ite (p:=fun y=>y=is) (.of h rfl)
  obtain ⟨js,h4,rfl⟩:=h.map.eq
  obtain ⟨p,hp⟩:=lT h1
  exact ⟨⟨x,p,hp,h2,h3⟩,ih h4⟩
theorem F2.mapL{α β γ:Type}{R:α→β→Prop}{S:γ→β→Prop}{f:α→γ}{l:List α}{m:List β}(h:F2 R l m)(k:∀ a b,R a b→S (f a) b):F2 S (l.map f) m:=by
 induction l generalizing m with
 | nil=>cases m<;>exact h
 | cons a l ih=>cases m with
  | nil=>exact h
  | cons b m=>exact ⟨k _ _ h.1,ih h.2⟩
theorem tM{l m:L}{is:List Nat}{ds:List D}(i:Nat)(d:D)(h:bindL l is ds=some m):bindL l (is++[i]) (ds++[d])=some (upd m i d):=by
 induction is generalizing l ds with
 | nil=>cases ds with
  | nil=>cases h;rfl
  | cons=>exact fO h
 | cons j is ih=>cases ds with
  | nil=>exact fO h
  | cons e ds=>exact ih h
theorem xw(l:L){i j:Nat}(a b:D)(h:i≠j):upd (upd l i a) j b=upd (upd l j b) i a:=by
 funext t
 show (if t=j then some b else if t=i then some a else l t)=if t=i then some a else if t=j then some b else l t
 by_cases h1:t=i
 ·rw [if_neg (h1▸h),if_pos h1,if_pos h1]
 ·rw [if_neg h1,if_neg h1]
theorem tN{l l':L}{is:List Nat}{ds:List D}{i:Nat}{d:D}(hi:i∉is)(h:bindL (upd l i d) is ds=some l'):∃ m,bindL l is ds=some m∧l'=upd m i d:=by
 induction is generalizing l ds with
 | nil=>cases ds with
  | nil=>cases h;exact ⟨l,rfl,rfl⟩
  | cons=>exact fO h
 | cons j is ih=>cases ds with
  | nil=>exact fO h
  | cons e ds=>
   have h:bindL (upd (upd l i d) j e) is ds=some l':=h
   rw [xw l d e fun z=>hi (by rw [z];exact aw)] at h
   exact ih (fun z=>hi (aE _ z)) h
theorem wS{l l':L}{is:List Nat}{ds:List D}(hn:is.Nodup)(h:bindL l is ds=some l'):bindL l is.reverse ds.reverse=some l':=by
 induction is generalizing l l' ds with
 | nil=>cases ds with
  | nil=>exact h
  | cons=>exact fO h
 | cons j is ih=>cases ds with
  | nil=>exact fO h
  | cons e ds=>
   rw [List.nodup_cons] at hn
   obtain ⟨m,h1,rfl⟩:=tN hn.1 h
   rw [List.reverse_cons,List.reverse_cons]
   exact tM j e (ih hn.2 h1)
theorem pK{l l':L}{is:List Nat}{ds:List D}(h:bindL l is ds=some l'):is.length=ds.length:=by
 induction is generalizing l ds with
 | nil=>cases ds with
  | nil=>rfl
  | cons=>exact fO h
 | cons j is ih=>cases ds with
  | nil=>exact fO h
  | cons e ds=>exact congrArg (·+1) (ih h)
theorem nJ{env:Env}{es:List Expr}{k:Nat}{tp pos:Pos}{e:Expr}(h:pU es e=true):swapsWithSole [.Tuple es k tp] e pos.line env=pure false:=by
 cases e<;>first|rfl|exact gW h
theorem iU{l:List Str}(h:l.eraseDups.length=l.length):l.Nodup:=by
 have le:∀ (n:Nat) (l:List Str),l.length≤n→l.eraseDups.length≤l.length:=by
  intro n
  induction n with
  | zero=>intro l h;cases List.length_eq_zero_iff.mp (Nat.le_zero.mp h);exact Nat.le_refl _
  | succ n ih=>intro l h;cases l with
   | nil=>exact Nat.le_refl _
   | cons a l=>
    have h1:=List.length_filter_le (fun b=>!b==a) l
    rw [List.eraseDups_cons]
    exact Nat.succ_le_succ (Nat.le_trans (ih _ (Nat.le_trans h1 (Nat.le_of_succ_le_succ h))) h1)
 induction l with
 | nil=>exact List.nodup_nil
 | cons a l ih=>
  rw [List.eraseDups_cons] at h
  have h1:=List.length_filter_le (fun b=>!b==a) l
  have h2:=le _ (l.filter fun b=>!b==a) (Nat.le_refl _)
  have h:=Nat.succ.inj h
  have e:=List.filter_eq_self.mpr (List.length_filter_eq_length_iff.mp (Nat.le_antisymm h1 (h▸h2)))
  rw [e] at h
  exact List.nodup_cons.mpr ⟨fun hm=>by have:=List.filter_eq_self.mp e a hm;simp at this,ih h⟩
theorem sM{f:Expr→Option Str}(hf:∀ id pos,f (.Name id pos)=some id∨f (.Name id pos)=none){es:List Expr}(hE:∀ e∈es,∃ x p,e=.Name x p)(hl:(es.filterMap f).length=es.length):es.filterMap f=es.filterMap eY:=by
 induction es with
 | nil=>rfl
 | cons e es ih=>
  obtain ⟨x,p,rfl⟩:=hE e aw
  rw [List.filterMap_cons] at hl ⊢
  rcases hf x p with q|q
  ·rw [q] at hl ⊢
   exact congrArg (x::·) (ih (fun e q=>hE e (aE _ q)) (Nat.succ.inj hl))
  ·rw [q] at hl
   exact absurd hl (Nat.ne_of_lt (Nat.lt_succ_of_le (List.length_filterMap_le f es)))
theorem rS{env:Env}{es:List Expr}{k:Nat}{tp:Pos}{e:Expr}(h:pU es e=true)(hE:∀ e∈es,∃ x p,e=.Name x p):
  swappedStores [.Tuple es k tp] e env=pure none∨(swappedStores [.Tuple es k tp] e env=pure (some (es.filterMap eY))∧(es.filterMap eY).length=es.length∧(es.filterMap eY).Nodup):=by
 cases e with
 | Tuple vs n p=>
  unfold swappedStores
  have h:=(Bool.or_eq_true _ _).mp h
  dsimp only
  split
  ·exact .inl rfl
  ·split
   ·exact .inl rfl
   ·split
    ·exact .inl rfl
    ·rename_i c3
     split
     ·exact .inl rfl
     ·rename_i c4
      rcases h with h|h
      ·exact absurd h c4
      ·rw [if_neg (by rw [Bool.not_eq_true'] at h;rw [h];exact Bool.false_ne_true)]
       simp only [Bool.or_eq_true,bne_iff_ne,ne_eq,not_or,Decidable.not_not] at c3
       have c5:=sM (fun id pos=>by dsimp only;split<;>first|exact .inl rfl|exact .inr rfl) hE c3.1
       rw [c5] at c3 ⊢
       exact .inr ⟨rfl,c3.1,iU c3.2⟩
 | ListComp=>exact gW h
 | SetComp=>exact gW h
 | DictComp=>exact gW h
 | _=>exact .inl rfl
section
variable {u:Value}{pos:Pos}
def u9(w:World)(A:Around)(env:Env)(sc:Scope)(g:G)(t:Value→Sem Unit)(i:Nat):Prop:=∃ x,look x g=some i∧fH sc x=true∧∀ {s v} {Q:Unit→Shared→Prop},wpAny (model pw0 w) A (storeName env x v) Q bX s→wpAny (model pw0 w) A (t v) Q bX s
theorem nN(S:bF sc env)(G:ix g){ts:List (Value→Sem Unit)}{is:List Nat}{vs:List Value}{ds:List D}(ht:F2 (u9 w A env sc g) ts is)(F:Fr w hb env g φ s M l)(hV:Vs φ s.heap vs ds)(hb':bindL l is ds=some l')
  {Q:Unit→Shared→Prop} (h:∀ s',cK w hb env φ s M φ s'→tU env φ s'.heap g l'→Q () s'):wpAny (model pw0 w) A (assignInOrder ts vs) Q bX s:=by
 induction is generalizing ts vs ds l s with
 | nil=>cases ts with
  | cons=>exact ht.elim
  | nil=>cases ds with
   | cons=>exact fO hb'
   | nil=>cases hb';exact wpAny_pure (h s ((aM.refl F.r).toS F.fr) F.lo)
 | cons i is ih=>cases ts with
  | nil=>exact ht.elim
  | cons t ts=>cases ds with
   | nil=>exact fO hb'
   | cons d ds=>cases vs with
    | nil=>exact hV.elim
    | cons v vs=>
     obtain ⟨⟨x,e1,e2,k⟩,ht⟩:=ht
     refine wpAny_bind (wpAny_holding (k (gI F e1 G (lE S e2) hV.1 fun s1 D1 L1=>?_)))
     exact ih ht (D1.fr' L1) (hV.2.mono (aJ _) (D1.tups F.r F.fr)) hb' fun s2 D2 L2=>h s2 (D1.trans D2) L2
theorem rG{x:Str}{Q:Unit→Shared→Prop}(h:wpAny (model pw0 w) A (storeName env x v) Q bX s):wpAny (model pw0 w) A (bindName env x v) Q bX s:=
 wpAny_bind (wpAny_holding (wpAny_point (wpAny_bind (wpAny_mono h (fun uu uu1 q=>wpAny_point q) fun uu uu1 e=>e))))
theorem wU{es:List Expr}{is:List Nat}(N:F2 (tT sc g) es is):F2 (fun (t:Bool×(Value→Sem Unit)) i=>t.1=false∧u9 w A env sc g t.2 i) (assignEach es env) is:=by
 induction es generalizing is with
 | nil=>cases is<;>exact N
 | cons e es ih=>cases is with
  | nil=>exact N.elim
  | cons i is=>
   obtain ⟨⟨x,p,rfl,e1,e2⟩,N⟩:=N
   exact ⟨⟨rfl,x,e1,e2,fun h=>wpAny_assign_Name h⟩,ih N⟩
theorem Bw{es:List Expr}{is:List Nat}(N:F2 (tT sc g) es is):F2 (fun x i=>look x g=some i∧fH sc x=true) (es.filterMap eY) is:=by
 induction es generalizing is with
 | nil=>cases is<;>exact N
 | cons e es ih=>cases is with
  | nil=>exact N.elim
  | cons i is=>
   obtain ⟨⟨x,p,rfl,e⟩,N⟩:=N
   exact ⟨e,ih N⟩
theorem Bp(G:ix g){xs:List Str}{is:List Nat}(T:F2 (fun x i=>look x g=some i∧fH sc x=true) xs is)(hnd:xs.Nodup):is.Nodup:=by
 induction xs generalizing is with
 | nil=>cases is with
  | nil=>exact List.nodup_nil
  | cons=>exact T.elim
 | cons x xs ih=>cases is with
  | nil=>exact T.elim
  | cons i is=>
   rw [List.nodup_cons] at hnd
   refine List.nodup_cons.mpr ⟨fun hm=>?_,ih T.2 hnd.2⟩
   obtain ⟨j,hj⟩:=List.mem_iff_getElem?.mp hm
   obtain ⟨y,q1,q2,_⟩:=F2.get T.2 hj
   exact hnd.1 (G _ _ _ q2 T.1.1▸List.mem_of_getElem? q1)
theorem AQ{es:List Expr}{is:List Nat}{k:Nat}{e:Expr}{tp:Pos}(B:aI w hb)(hh:A.handled=none)(S:bF sc env)(G:ix g)(hn:names sc g es=some is)(hu:pU es e=true)(ha:aB w hb A env g cf a (eval e env)):
  ct w hb A env g cf (iL is a) (exec (.Assign [.Tuple es k tp] e pos) env):=fun s=>fun {φ M l Q} F p=>by
 have N:=wi hn
 have hE:∀ e∈es,∃ x p,e=.Name x p:=fun e q=>(F2.mem N q).elim fun i q=>q.2.elim fun x q=>q.elim fun p q=>⟨x,p,q.1⟩
 have nl:=F2.length N
 have items:∀ {v:Value} {φ1:Phi} {s1:Shared} {ds:List D} {l':L},V φ1 s1.heap v (.tup ds)→bindL l is ds=some l'→∃ a xs,v=.ref a∧s1.heap.IsTuple a xs∧xs.size=es.length∧Vs φ1 s1.heap xs.toList ds:=fun V1 q=>by
  obtain ⟨ad,xs,n,rfl,ho,_,hi⟩:=V1
  have hi:=ke.mp hi
  exact ⟨ad,xs,rfl,⟨_,ho,rfl,_,rfl⟩,hi.length.trans ((pK q).symm.trans nl.symm),hi⟩
 rcases rS (k:=k) (tp:=tp) (env:=env) hu hE with hw|⟨hw,hlen,hnd⟩
 ·refine wpAny_Assign_stores (ha F (p.bd.imp fun x p v s1 φ1 D1 V1=>?_)) (nJ hu) hw
  obtain ⟨d,M1⟩:=x
  cases d with
  | tup ds=>
   obtain ⟨l',q,p⟩:=(Pu.map p).eq
   obtain ⟨ad,xs,rfl,hT,hz,hi⟩:=items V1 q
   have T:=wU (w:=w) (A:=A) (env:=env) N
   show wpAny _ A (assign (.Tuple es k tp) env (.ref ad)) _ _ _
   refine wpAny_assign_Tuple hh hT (by rw [hz,T.length,nl]) ?_ fun h' he=>?_
   ·rw [List.findIdx?_eq_none_iff]
    exact fun x hx=>(F2.mem T hx).elim fun i q=>by rw [q.2.1]
   ·have D0:=aM.kept B D1.r (s:=s1) (h':=h') s1.toks fun b o e=>he b o (fun q=>by rw [q] at e;exact absurd (Heap.lt_size e) (Nat.lt_irrefl _)) e
    exact nN S G (T.mapL fun uu uu1 q=>q.2) ((F.step D1).step D0) (hi.mono (aJ _) (D0.st.tups D1.r)) q fun s2 D2 L2=>p _ s2 φ1 (((D1.trans D0).toS F.fr).trans D2) L2 rfl
  | _=>exact p.elim
 ·refine Assign_Tuple_swapped (names:=es.filterMap eY) (ha F (p.bd.imp fun x p v s1 φ1 D1 V1=>?_)) (nJ hu) hw
  obtain ⟨d,M1⟩:=x
  cases d with
  | tup ds=>
   obtain ⟨l',q,p⟩:=(Pu.map p).eq
   obtain ⟨ad,xs,rfl,hT,hz,hi⟩:=items V1 q
   have T:=Bw N
   have ni:=Bp G T hnd
   rw [show (es.filterMap eY).length=xs.size by rw [hlen,hz]]
   refine wpAny_unpackItems_tuple hh hT fun h' he=>?_
   have D0:=aM.kept B D1.r (s:=s1) (h':=h') s1.toks fun b o e=>he b o (fun q=>by rw [q] at e;exact absurd (Heap.lt_size e) (Nat.lt_irrefl _)) e
   exact nN S G (T.reverse.mapL fun x uu q=>⟨x,q.1,q.2,rG⟩) ((F.step D1).step D0) (hi.mono (aJ _) (D0.st.tups D1.r)).reverse (wS ni q) fun s2 D2 L2=>p _ s2 φ1 (((D1.trans D0).toS F.fr).trans D2) L2 rfl
  | _=>exact p.elim
end
def IZ(names:List Str)(all:List Value)(b:Nat)(slots:List (Str×Value)):Prop:=
 ∀ j n,names[j]?=some n→slots.lookup n=if j < b then all[j]? else none
theorem nq{α:Type}(l m:List (Str×α))(n:Str):(l++m).lookup n=(l.lookup n).or (m.lookup n):=by
 induction l with
 | nil=>rfl
 | cons p r ih=>
  rw [List.cons_append,List.lookup_cons,List.lookup_cons,ih]
  cases n==p.1<;>rfl
theorem we{α:Type}{l:List α}(h:l.Nodup){i j:Nat}{x:α}(hi:l[i]?=some x)(hj:l[j]?=some x):i=j:=
 (List.getElem?_inj (cv hi).1 h).mp (hi.trans hj.symm)
theorem lW{names:List Str}{vals:List Value}(hn:names.Nodup){j:Nat}{n:Str}(h:names[j]?=some n):(names.zip vals).lookup n=vals[j]?:=by
 induction names generalizing vals j with
 | nil=>exact fO h
 | cons a r ih=>
  rw [List.nodup_cons] at hn
  cases vals with
  | nil=>rfl
  | cons v vs=>
   rw [List.zip_cons_cons,List.lookup_cons]
   cases j with
   | zero=>cases h;rw [beq_self_eq_true];rfl
   | succ j=>
    have hm:n∈r:=List.mem_of_getElem? h
    rw [(beq_eq_false_iff_ne (a:=n) (b:=a)).mpr fun e=>hn.1 (e▸hm)]
    exact ih hn.2 h
theorem IZ.binds{names:List Str}{all:List Value}{slots:List (Str×Value)}(h:IZ names all names.length slots)(hl:names.length≤all.length):names.filterMap (fun n=>(slots.lookup n).map (n,·))=names.zip all:=by
 have key:∀ (ns:List Str) (vs:List Value),ns.length≤vs.length→(∀ (j:Nat) (n:Str),ns[j]?=some n→slots.lookup n=vs[j]?)→ns.filterMap (fun n=>(slots.lookup n).map (n,·))=ns.zip vs:=by
  intro ns
  induction ns with
  | nil=>intro vs _ _;rfl
  | cons n ns ih=>
   intro vs hv hh
   cases vs with
   | nil=>exact absurd hv (Nat.not_succ_le_zero _)
   | cons v vs=>
    rw [List.filterMap_cons,hh 0 n rfl,List.zip_cons_cons]
    exact congrArg ((n,v)::·) (ih vs (Nat.le_of_succ_le_succ hv) fun j m hm=>hh (j+1) m hm)
 exact key names all hl fun j n hj=>(h j n hj).trans (if_pos (cv hj).1)
theorem rT{names:List Str}{vals:List Value}(hn:names.Nodup){k:Nat}(hk:k≤vals.length):(names.take k).filter (fun n=>((names.zip vals).lookup n).isNone)=[]:=by
 rw [List.filter_eq_nil_iff]
 intro n hm
 obtain ⟨j,hj⟩:=List.mem_iff_getElem?.mp hm
 have hj2:=(cv hj).1
 rw [List.length_take] at hj2
 rw [List.getElem?_take_of_lt (by omega)] at hj
 rw [lW hn hj,List.getElem?_eq_getElem (by omega)]
 exact Bool.false_ne_true
theorem wK{M:Model}{A:Around}{E:Value→Shared→Prop}{Q:List (Str×Value)→Shared→Prop}{s:Shared}{names:List Str}{all:List Value}{v i:Nat}{f:Str×Value→List (Str×Value)→Sem (ForInStep (List (Str×Value)))}{rest slots:List (Str×Value)}
  (hf:∀ p sl,f p sl=if (sl.lookup p.1).isNone=true then pure (.yield (sl++[p])) else pure (.yield sl)) (hn:names.Nodup) (hv:v≤names.length) (hva:v≤all.length) (hQ:∀ sl,IZ names all names.length sl→Q sl s)
  (hr:∀ j p,rest[j]?=some p→names[i+j]?=some p.1∧(v≤i+j→all[i+j]?=some p.2)) (hl:i+rest.length=names.length) (hb:IZ names all (max v i) slots):wpAny M A (forIn rest slots f) Q E s:=by
 induction rest generalizing i slots with
 | nil=>
  have hl:i=names.length:=hl
  rw [hl,Nat.max_eq_right hv] at hb
  exact wpAny_pure (hQ _ hb)
 | cons p rest ih=>
  obtain ⟨a,b⟩:=hr 0 p rfl
  have ih:=fun {sl}=>ih (i:=i+1) (slots:=sl) (fun j q hq=>by rw [Nat.add_right_comm];exact hr (j+1) q hq) (by rw [←hl,List.length_cons];omega)
  have h1:=hb i _ a
  rw [List.forIn_cons,hf]
  by_cases h:i < v
  ·rw [if_pos (by omega),List.getElem?_eq_getElem (by omega)] at h1
   rw [Nat.max_eq_left (by omega)] at hb
   rw [h1]
   exact wpAny_bind (wpAny_pure (ih (by rw [Nat.max_eq_left (by omega)];exact hb)))
  ·rw [Nat.max_eq_right (by omega)] at hb h1
   rw [if_neg (Nat.lt_irrefl _)] at h1
   rw [h1]
   refine wpAny_bind (wpAny_pure (ih fun j m hm=>?_))
   rw [Nat.max_eq_right (by omega),nq,hb j m hm]
   obtain ⟨n,d⟩:=p
   by_cases hji:j=i
   ·subst hji
    cases a.symm.trans hm
    rw [if_neg (Nat.lt_irrefl _),if_pos (Nat.lt_succ_self _),List.lookup_cons,beq_self_eq_true]
    exact (b (Nat.not_lt.mp h)).symm
   ·have:(m==n)=false:=beq_eq_false_iff_ne.mpr fun e=>hji (we hn hm (e▸a))
    rw [List.lookup_cons,this,List.lookup_nil,Option.or_none]
    by_cases hj:j < i
    ·rw [if_pos hj,if_pos (by omega)]
    ·rw [if_neg hj,if_neg (by omega)]
theorem jh{α:Type}{M:Model}{A:Around}{c:Prop}[Decidable c]{a b:Sem α}{Q:α→Shared→Prop}{E:Value→Shared→Prop}{s:Shared}(hc:¬ c)(h:wpAny M A b Q E s):wpAny M A (if c then a else b) Q E s:=by rw [if_neg hc];exact h
theorem rx{v u p:Nat}(h:v≤p)(g:p≤v+u):v+(u - (v+u - p))=p:=by
 obtain ⟨q,rfl⟩:=Nat.exists_eq_add_of_le h
 rw [Nat.add_sub_add_left,Nat.sub_sub_self (Nat.le_of_add_le_add_left g)]
theorem Cq{v d n j:Nat}(hz:d≤n)(hg:n≤v+d)(hv:v≤n - d+j):v+d - n+(n - d+j - v)=j:=by
 obtain ⟨k,rfl⟩:=Nat.exists_eq_add_of_le hz
 obtain ⟨m,rfl⟩:=Nat.exists_eq_add_of_le (Nat.le_of_add_le_add_left (Nat.add_comm v d▸hg))
 rw [Nat.add_sub_cancel_left] at hv ⊢
 rw [Nat.add_comm (k+m) d,Nat.add_sub_add_left,Nat.add_sub_cancel_left,Nat.add_sub_add_left,Nat.add_sub_of_le (Nat.le_of_add_le_add_left hv)]
theorem CM{s:Shared}{fd:FuncData}{names:List Str}{vals ds:List Value}(h1:fd.params.posonlyargs=[])(h2:fd.params.kwonlyargs=[])(h3:fd.params.vararg=none)(h4:fd.params.kwarg=none)
  (hnm:fd.params.args.map (·.arg)=names) (hn:names.Nodup) (hd:∀ (M:Model) (A:Around) (E:Value→Shared→Prop) (Q:Option (Array Value)→Shared→Prop),(∀ o:Option (Array Value),(o.getD #[]).toList=ds→Q o s)→wpAny M A (seqItems? fd.defaults) Q E s)
  (hz:ds.length≤names.length) (hl:vals.length≤names.length) (hg:names.length≤vals.length+ds.length) :
  BindsTo s fd ⟨vals,[]⟩ (names.zip (vals++ds.drop (vals.length+ds.length - names.length))):=by
 intro M A E Q hQ
 generalize hall:vals++ds.drop (vals.length+ds.length - names.length)=all at hQ
 have hal:all.length=names.length:=by rw [←hall,List.length_append,List.length_drop];exact rx hl hg
 have B0:IZ names all (max vals.length (names.length - ds.length)) (names.zip vals):=fun j n h=>by
  rw [lW hn h,Nat.max_eq_left (Nat.sub_le_of_le_add hg)]
  by_cases hj:j < vals.length
  ·rw [if_pos hj,←hall,List.getElem?_append_left hj]
  ·rw [if_neg hj,List.getElem?_eq_none (Nat.not_lt.mp hj)]
 unfold bindArgs
 refine wpAny_bind (wpAny_pure (wpAny_bind (hd _ _ _ _ fun o ho=>?_)))
 clear hd
 subst ho
 dsimp only
 rw [show fd.params.posonlyargs.map (·.arg)++fd.params.args.map (·.arg)=names by rw [h1];exact hnm]
 refine jh (fun q=>absurd (of_decide_eq_true (aG q).1) (Nat.not_lt.mpr hl)) ?_
 rw [Nat.sub_eq_zero_of_le hz,List.drop_zero]
 refine jh (by rw [rT hn (Nat.sub_le_of_le_add hg)];exact Bool.false_ne_true) (wpAny_bind (wK (fun uu uu1=>rfl) hn hl (hal▸hl) (fun sl hb=>?_) (fun j p hp=>?_) ?_ B0))
 ·rw [h2]
  refine wpAny_bind (wpAny_pure ?_)
  rw [h3,h4]
  show wpAny M A (pure (List.filterMap _ (names++[]))) Q E s
  rw [List.append_nil,hb.binds (Nat.le_of_eq hal.symm)]
  exact wpAny_pure hQ
 ·obtain ⟨a,b⟩:=List.getElem?_zip_eq_some.mp hp
  rw [List.getElem?_drop] at a
  refine ⟨a,fun hv=>?_⟩
  rw [←hall,List.getElem?_append_right hv,List.getElem?_drop,←b]
  exact congrArg (fun n=>(o.getD #[]).toList[n]?) (Cq hz hg hv)
 ·rw [List.length_zip,List.length_drop,Nat.sub_sub_self hz,Nat.min_self];exact Nat.sub_add_cancel hz
structure Gd(A:Around)(n:Nat):Prop where
 hh:A.handled=none
 depth:A.depth+3 * n+5 < recursionLimit
 units:A.units+20 * n+60 < cLine
structure kK(A:Around)(n:Nat):Prop where
 hh:A.handled=none
 depth:A.depth+3 * n+7 < recursionLimit
 units:A.units+20 * n+70 < cLine
theorem kK.gd{A:Around}{n:Nat}(x:kK A n):Gd A n:=⟨x.hh,by have:=x.depth;omega,by have:=x.units;omega⟩
theorem Gd.d0{A:Around}{n:Nat}(x:Gd A n):A.depth < recursionLimit:=cn (Nat.le_trans (cg _ _) (cg _ _)) x.depth
theorem kK.u{A:Around}{n:Nat}(x:kK A n):A.units+10 < cLine:=by have:=x.units;omega
theorem Gd.deeper{A:Around}{n:Nat}(x:Gd A (n+1))(env:Env):kK (A.deeper env) n:=⟨x.hh,by have:=x.depth;show A.depth+1+3 * n+7 < recursionLimit;omega,by have:=x.units;show A.units+3+20 * n+70 < cLine;omega⟩
abbrev CR(Q:Value→Shared→Prop):Result→Shared→Prop:=fun r s'=>match r with
 | .ok (.ret v)=>Q v s'
 | .ok _=>False
 | .error e=>bX e s'
def gz(w:World)(hb:Heap)(n:Nat)(cf:CF):Prop:=
 ∀ {A a as vs s φ M Q},Gd A n→R w hb φ s.heap M→Vs φ s.heap vs as→Pu (cf a as M) (Kv w hb φ s Q)→codeAny (model pw0 w) A (.call (.ref a) ⟨vs,[]⟩) (CR Q) s
theorem lR{l:List Str}(h:jU l=true):l.Nodup:=by
 induction l with
 | nil=>exact List.nodup_nil
 | cons x r ih=>
  obtain ⟨h1,h2⟩:=aG h
  exact List.nodup_cons.mpr ⟨fun hm=>(by rw [List.contains_iff_mem.mpr hm] at h1;cases h1),ih h2⟩
theorem ou{kindOf:Str→Option NameKind}{ns:List Str}{us:List Value}{m cm:Str→Option Value}{x:Str}(hx:x∉ns):PySem.bindL kindOf (ns.zip us) m x=m x∧bindC kindOf (ns.zip us) cm x=cm x:=by
 induction ns generalizing us m cm with
 | nil=>exact ⟨rfl,rfl⟩
 | cons b ns ih=>
  cases us with
  | nil=>exact ⟨rfl,rfl⟩
  | cons u us=>
   rw [List.mem_cons,not_or] at hx
   rw [List.zip_cons_cons]
   unfold PySem.bindL bindC
   rw [(ih hx.2 (cm:=cm)).1,(ih hx.2 (m:=m)).2]
   by_cases q:kindOf b=some .local
   ·rw [if_pos q,if_pos q];exact ⟨if_neg hx.1,rfl⟩
   ·rw [if_neg q,if_neg q];exact ⟨rfl,if_neg hx.1⟩
theorem Fi{kindOf:Str→Option NameKind}{names:List Str}{vs:List Value}{j:Nat}{x:Str}{m cm:Str→Option Value}(hn:names.Nodup)(h:names[j]?=some x)(hj:j < vs.length):
  (kindOf x=some .local→PySem.bindL kindOf (names.zip vs) m x=vs[j]?)∧(kindOf x≠some .local→bindC kindOf (names.zip vs) cm x=vs[j]?):=by
 induction names generalizing vs j m cm with
 | nil=>exact fO h
 | cons a r ih=>
  cases vs with
  | nil=>exact absurd hj (Nat.not_lt_zero _)
  | cons v vs=>
   rw [List.nodup_cons] at hn
   rw [List.zip_cons_cons]
   unfold PySem.bindL bindC
   cases j with
   | zero=>
    cases h
    rw [(ou hn.1 (cm:=cm)).1,(ou hn.1 (m:=m)).2]
    exact ⟨fun q=>by rw [if_pos q];exact if_pos rfl,fun q=>by rw [if_neg q];exact if_pos rfl⟩
   | succ j=>exact ⟨(ih hn.2 h (Nat.lt_of_succ_lt_succ hj) (cm:=cm)).1,(ih hn.2 h (Nat.lt_of_succ_lt_succ hj) (m:=m)).2⟩
theorem gZ{names:List (Str×NameKind)}{n:Nat}{acc:List (Str×Addr)}{x:Str}(h:names.lookup x=some .cell∨(acc.lookup x).isSome=true):((cellsFrom n names acc).lookup x).isSome=true:=by
 induction names generalizing n acc with
 | nil=>exact h.elim (fun e=>nomatch e) id
 | cons p r ih=>
  obtain ⟨y,k⟩:=p
  rw [List.lookup_cons] at h
  unfold cellsFrom
  by_cases hk:(k==.cell)=true
  ·rw [if_pos hk]
   refine ih ?_
   rw [List.lookup_cons]
   cases q:x==y with
   | true=>exact .inr rfl
   | false=>rw [q] at h;exact h
  ·rw [if_neg hk]
   refine ih (h.imp_left fun h=>?_)
   cases q:x==y with
   | true=>rw [q] at h;cases h;exact absurd rfl hk
   | false=>rw [q] at h;exact h
theorem gQ{names:List Str}{k i:Nat}{x:Str}(h:look x (names.zipIdx k)=some i):k≤i∧names[i - k]?=some x:=by
 induction names generalizing k with
 | nil=>exact fO h
 | cons a r ih=>
  have h:(if (a==x)=true then some k else look x (r.zipIdx (k+1)))=some i:=h
  by_cases q:(a==x)=true
  ·rw [if_pos q] at h;cases h
   exact ⟨Nat.le_refl _,by rw [Nat.sub_self,eq_of_beq q];rfl⟩
  ·rw [if_neg q] at h
   obtain ⟨h1,h2⟩:=ih h
   exact ⟨Nat.le_of_succ_le h1,by rw [show i - k=(i - (k+1))+1 by omega];exact h2⟩
theorem zy{names:List Str}(h:names.Nodup):ix names.zipIdx:=fun x y i hx hy=>Option.some.inj ((gQ hx).2.symm.trans (gQ hy).2)
section
variable {as as':List D}
theorem cK.back(x:cK w hb env φ s' M' φ' s'')(k:aM w hb φ s M φ s')(keep:∀ b o,s.heap.get? b=some o→s'.heap.get? b=some o)(hL:s.heap.get? env.locals=none)(hC:∀ y c,env.cells.lookup y=some c→s.heap.get? c=none):aM w hb φ s M' φ' s'' where
 r:=x.r
 st:={
  pre:=x.pre
  keep:=fun a o e n=>x.keep a o (keep a o e) n (fun z=>aD e (z▸hL)) fun y hy=>aD e (hC y a hy)
  fresh:=fun a o n=>by
   cases q:s.heap.get? a with
   | none=>rfl
   | some u=>exact (aD (keep a u q) (x.fresh a o n)).elim
  dicts:=fun a es n e=>x.dicts a es n (keep _ _ e) fun z=>aD e (z▸hL) }
 os:=x.os.trans k.os
 gens:=x.gens.trans k.gens
structure Km(P:Params)(fd:FuncData):Prop where
 p1:fd.params.posonlyargs=[]
 p2:fd.params.kwonlyargs=[]
 p3:fd.params.vararg=none
 p4:fd.params.kwarg=none
 p5:fd.closure=[]
 p6:fd.scope.isCoroutine=false
 p7:fd.scope.isGenerator=false
 p8:fd.scope.kind=.function
 p9:fd.globals=mainGlobals
 p10:fd.builtins=builtinsNs
 p11:codeIn (KF P) fd.code fd.qualname=true
 p12:jU (fd.params.args.map (·.arg))=true
 p13:(fd.params.args.map (·.arg)).all (fH fd.scope)=true
 p14:jU (cY fd.params fd.scope)=true
 p15:(fd.scope.names.all fun p=>p.2 != .free && (p.2 != .cell || fd.scope.names.lookup p.1==some .cell))=true
theorem Db{P:Params}{fd:FuncData}(h:zH P fd=true):Km P fd:=by
 simp only [zH,Bool.and_eq_true,List.isEmpty_iff,Option.isNone_iff_eq_none,Bool.not_eq_true',beq_iff_eq] at h
 exact ⟨h.1.1.1.1.1.1.1.1.1.1.1.1.1.1,h.1.1.1.1.1.1.1.1.1.1.1.1.1.2,h.1.1.1.1.1.1.1.1.1.1.1.1.2,h.1.1.1.1.1.1.1.1.1.1.1.2,h.1.1.1.1.1.1.1.1.1.1.2,h.1.1.1.1.1.1.1.1.1.2,h.1.1.1.1.1.1.1.1.2,h.1.1.1.1.1.1.1.2,h.1.1.1.1.1.1.2,h.1.1.1.1.1.2,h.1.1.1.1.2,h.1.1.1.2,h.1.1.2,h.1.2,h.2⟩
theorem Cy{P:Params}{v:Value}{ds:List D}(X:(KF P).In s.heap)(e:dflt P v=some ds):∃ us,Vs φ s.heap us ds∧∀ (M:Model) (A:Around) (E:Value→Shared→Prop) (Q:Option (Array Value)→Shared→Prop),(∀ o:Option (Array Value),(o.getD #[]).toList=us→Q o s)→wpAny M A (seqItems? v) Q E s:=by
 cases v with
 | none=>cases e;exact ⟨[],trivial,fun M A E Q hQ=>wpAny_bind (wpAny_pure (wpAny_pure (hQ none rfl)))⟩
 | ref T=>
  obtain ⟨d,q,e⟩:=cN e
  cases d with
  | tup l=>
   cases e
   obtain ⟨_,xs,k,e2,ho,_,hi⟩:=lM (φ:=φ) X q
   cases e2
   exact ⟨xs.toList,ke.mp hi,fun M A E Q hQ=>wpAny_seqItems ho rfl (hQ _ rfl)⟩
  | _=>exact fO e
 | _=>exact fO e
theorem pZ{sc:Scope}{x:Str}(h:fH sc x=true):sc.names.lookup x=some .local∨sc.names.lookup x=some .cell:=lE (env:={ (default:Env) with scope:=sc }) ⟨fun uu=>.inl rfl⟩ h
theorem CK{fd:FuncData}{a:Nat}{b:List Stmt}{o:Obj}{ds0:List D}(B:aI w hb)(hl:(KF w.params).lookup a=some o)(hfd:o.data=.func fd)(hb':fd.body=.stmts b)(hok:zH w.params fd=true)
  (hds:dflt w.params fd.defaults=some ds0) (hdl:ds0.length≤fd.params.args.length)
  (body:∀ {A:Around} {env:Env},kK A n→env.scope=fd.scope→ct w hb A env ((cY fd.params fd.scope).zipIdx) cf (cS (gv w.params) 60 fd.scope (cY fd.params fd.scope).zipIdx b) (execs b env))
  (gd:Gd A (n+1)) (r:R w hb φ s.heap M) (hV:Vs φ s.heap vs as) (hf:wE fd.params.args.length as ds0=some as')
  (p:Pu (cS (gv w.params) 60 fd.scope (cY fd.params fd.scope).zipIdx b cf (fun i=>as'[i]?) M) fun x=>Kv w hb φ s Q (match x.1 with|.ret d=>d|_=>.none,x.2.2)∧x.1≠.cont):codeAny (model pw0 w) A (.call (.ref a) ⟨vs,[]⟩) (CR Q) s:=by
 have K:=Db hok
 have Bs:=r.base' B
 obtain ⟨us,vd,hseq⟩:=Cy (φ:=φ) (s:=s) Bs.K hds
 obtain ⟨⟨f1,f2⟩,e⟩:=Pu.ite (p:=fun y=>y=as') (.of hf rfl)
 have e:_=as':=e
 obtain ⟨ps,hps⟩:∃ ps,fd.params.args.map (·.arg)=ps:=⟨_,rfl⟩
 have hpl:fd.params.args.length=ps.length:=by rw [←hps,List.length_map]
 have hnd:=lR (hps▸K.p12)
 rw [hpl] at f1 f2 e hdl
 have e1:=hV.length
 have e2:=vd.length
 rw [←e2] at hdl
 rw [←e1,←e2] at f2
 rw [←e1] at f1
 have hbind:=CM (vals:=vs) K.p1 K.p2 K.p3 K.p4 hps hnd hseq hdl f1 f2
 obtain ⟨all,hall⟩:∃ all,vs++us.drop (vs.length+us.length - ps.length)=all:=⟨_,rfl⟩
 have f4:Vs φ s.heap all as':=by rw [←hall,←e,e1,e2];exact hV.append (vd.drop _)
 have hal:all.length=ps.length:=by rw [←hall,List.length_append,List.length_drop];exact rx f1 f2
 rw [hall] at hbind
 refine codeAny_call_function gd.d0 (Bs.K _ _ hl) hfd K.p6 K.p7 hb' (codeRec_of Bs.K K.p11) (hbind _ _ _ _ ?_)
 rw [K.p5]
 refine wpAny_newFunctionEnv_cells K.p8 (fun x hx=>(pZ (db K.p13 _ (hps▸(List.of_mem_zip hx).1))).imp_right fun e=>⟨e,gZ (.inl e)⟩) fun env he s1 X=>⟨Bs.nolimit.keeps X.toInCall.keep,codeAny_func ?_⟩
 have es:env.scope=fd.scope:=he▸rfl
 have eL:env.locals=s.heap.objs.size:=he▸rfl
 have has:∀ x,fd.scope.names.lookup x=some .cell→(env.cells.lookup x).isSome=true:=fun x hx=>he▸gZ (.inl hx)
 have hbl:=fun {j:Nat} {x:Str}=>Fi (kindOf:=env.kindOf) (vs:=all) (j:=j) (x:=x) (m:=fun uu=>none) (cm:=fun uu=>none) hnd
 obtain ⟨h',tk,rfl⟩:=X.toInCall.same
 have D1:=aM.kept (s:=s) B r tk X.toInCall.keep
 have nL:s.heap.get? env.locals=none:=eL▸da _
 have nC:∀ y c,env.cells.lookup y=some c→s.heap.get? c=none:=fun y c hy=>by
  cases q:s.heap.get? c with
  | none=>rfl
  | some o=>exact absurd (Heap.lt_size q) (Nat.not_lt.mpr (Nat.le_of_lt (eL▸X.above y c (mem_of_lookup hy))))
 have fr1:aW hb env φ h':=by
  refine ⟨by rw [es];exact K.p8,by rw [he];exact K.p9,by rw [he];exact K.p10,⟨_,X.toInCall.ns⟩,r.none_free nL,fun x c hx=>⟨r.none_free (nC x c hx),_,X.cell x c hx⟩,fz r nL,fun x c hx=>fz r (nC x c hx),fun x hx=>?_,
   fun x y c hx hy=>name_of_addr X.apart (mem_of_lookup hx) (mem_of_lookup hy),fun x c hx e=>absurd (X.above x c (mem_of_lookup hx)) (by rw [e];exact Nat.lt_irrefl _)⟩
  rw [es] at hx
  refine hx.elim (has x) fun hx=>?_
  have:=db K.p15 _ (mem_of_lookup hx)
  exact gW (aG this).1
 have lo1:tU env φ h' ((cY fd.params fd.scope).zipIdx) (fun i=>as'[i]?):=fun x i d' hx hi=>by
  have hx2:=(gQ hx).2
  have hil:i < as'.length:=(cv hi).1
  have hil2:i < all.length:=by rw [f4.length];exact hil
  have hx3:ps[i]?=some x:=by
   unfold cY at hx2
   rw [Nat.sub_zero,hps,List.getElem?_append_left (hal▸hil2)] at hx2
   exact hx2
  obtain ⟨v,hv1,hv2⟩:=f4.get hi
  obtain ⟨g1,g2⟩:=hbl hx3 hil2
  refine ⟨v,?_,hv2.mono (aJ _) (.keeps X.toInCall.keep)⟩
  rcases pZ (db K.p13 x (hps▸List.mem_of_getElem? hx3)) with e|e
  ·exact .inl ⟨es▸e,_,X.toInCall.ns,(g1 (show env.scope.names.lookup x=_ from es▸e)).trans hv1⟩
  ·obtain ⟨c,hcc⟩:=Option.isSome_iff_exists.mp (has x e)
   have:=X.cell x c hcc
   rw [g2 (show env.scope.names.lookup x≠_ by rw [es,e];simp),hv1] at this
   exact .inr ⟨.inl (es▸e),c,hcc,this⟩
 refine wpAny_mono (body (gd.deeper env) es ⟨D1.r,fr1,lo1⟩ (p.imp fun x p f s2 φ2 D2 L2 F2=>?_)) (fun uu uu1 q=>q) fun uu uu1 x=>x.elim
 have D:=D2.back D1 X.toInCall.keep nL nC
 obtain ⟨fl,l,M2⟩:=x
 cases fl with
 | next=>cases F2;exact p.1 _ s2 φ2 D .none
 | cont=>exact absurd rfl p.2
 | ret d=>obtain ⟨v,rfl,hv⟩:=F2;exact p.1 _ s2 φ2 D hv
theorem vM(B:aI w hb)
  (body:∀ {A:Around} {env:Env} {fd:FuncData} {b:List Stmt},kK A n→zH w.params fd=true→env.scope=fd.scope→ct w hb A env ((cY fd.params fd.scope).zipIdx) (ab w.params n) (cS (gv w.params) 60 fd.scope (cY fd.params fd.scope).zipIdx b) (execs b env)) :
  gz w hb (n+1) (ab w.params (n+1)):=fun {A a as vs s φ M Q} gd r hV p=>by
 obtain ⟨f,qf,p⟩:=Pu.eq (Pu.bind p)
 obtain ⟨as',q2,p⟩:=Pu.eq (Pu.bind p)
 obtain ⟨o,hl,qf⟩:=cN qf
 obtain ⟨fd,hfd,qf⟩:=cN qf
 obtain ⟨b,hb',qf⟩:=cN qf
 obtain ⟨hok,qf⟩:=Pu.ite (p:=fun y=>y=f) (.of qf rfl)
 obtain ⟨ds,hds,qf⟩:=Pu.eq (Pu.bind qf)
 obtain ⟨hdl,qf⟩:=Pu.ite qf
 cases qf
 have hfd:o.data=.func fd:=by unfold zE at hfd;split at hfd<;>first|exact fO hfd|(cases hfd;assumption)
 have hb':fd.body=.stmts b:=by unfold ua at hb';split at hb'<;>first|exact fO hb'|(cases hb';assumption)
 refine CK B hl hfd hb' hok hds hdl (fun gd=>body gd hok) gd r hV q2 (p.bs.imp fun x p=>?_)
 obtain ⟨fl,l,M2⟩:=x
 cases fl with
 | next=>exact ⟨p,fun e=>nomatch e⟩
 | cont=>exact p.elim
 | ret d=>exact ⟨p,fun e=>nomatch e⟩
theorem vL:gz w hb 0 (ab w.params 0):=fun uu uu1 uu2 p=>p.elim
end
abbrev Kp(I:Addr)(h h':Heap):Prop:=∀ b o,b≠I→h.get? b=some o→h'.get? b=some o
def kh(φ:Phi)(h:Heap)(T:Nat→Prop)(xs:List D)(i:Nat)(o:Option Value):Prop:=match xs[i]? with
 | some x=>∃ v,o=some v∧V φ h v x∧T (i+1)
 | none=>o=none
structure rN(w:World)(hb:Heap)(I:Addr)(d:D)(k:Nat)(xs:List D)(St:Phi→Heap→Nat→Prop):Prop where
 obj:∀ {φ h i},St φ h i→∃ o,h.get? I=some o∧o.cls≠.type "tuple"
 self:∀ {A s φ i Q E},A.handled=none→St φ s.heap i→Q (.ref I) s→wpAny (model pw0 w) A (pyIter (.ref I)) Q E s
 move:∀ {φ φ' h h' i},St φ h i→φ <+: φ'→(∀ o,h.get? I=some o→h'.get? I=some o)→du h h'→(∀ (n:Nat) a es j,φ[n]?=some (a,a)→h.get? a=some (cC es j)→tV h' a es j)→St φ' h' i
 next:∀ {A s φ M i Q},A.handled=none→R w hb φ s.heap M→bH d M=some xs→knd d M=k→St φ s.heap i→i≤xs.length→
  (∀ o h' tk,Kp I s.heap h'→kh φ s.heap (St φ h') xs i o→Q o { s with heap:=h',toks:=tk })→wpAny (model pw0 w) A (pyNext (.ref I)) Q bX s
section
variable {xs:List D}
theorem jv{fp:List Addr}{P:Nat→Value→Prop}{S T:Nat→Heap→Prop}{Q:Option Value→Shared→Prop}(W:Walks pw0 w A I fp [I] n P S)(hn:n=xs.length)(st:S i s.heap)(hi:i≤xs.length)(hP:∀ v x,P i v→xs[i]?=some x→V φ s.heap v x)
  (hT:∀ h',Kp I s.heap h'→S (i+1) h'→T (i+1) h') (hQ:∀ o h' tk,Kp I s.heap h'→kh φ s.heap (fun j=>T j h') xs i o→Q o { s with heap:=h',toks:=tk }):wpAny (model pw0 w) A (pyNext (.ref I)) Q bX s:=by
 subst hn
 rcases Nat.lt_or_eq_of_le hi with q|q
 ·have e:=List.getElem?_eq_getElem q
  refine W.item i s Q _ q st fun v h' tk p st' hk=>?_
  have hk:Kp I s.heap h':=fun b o ne e=>hk b o (fun z=>ne (cV z)) e
  exact hQ _ h' tk hk (by unfold kh;rw [e];exact ⟨v,rfl,hP v _ p e,hT h' hk st'⟩)
 ·subst q
  exact W.done s Q _ st fun h' tk hk=>hQ _ h' tk (fun b o ne e=>hk b o (fun z=>ne (cV z)) e) (by unfold kh;rw [List.getElem?_eq_none (Nat.le_refl _)])
theorem mF{o:Obj}{c d:String}(hc:o.cls=.type c)(h1:c≠d):o.cls≠.type d:=by
 rw [hc];exact fun e=>h1 (by cases e;rfl)
theorem B9{t:Addr}{ys:Array Value}{n:Nat}:rN w hb I (.tup xs) 0 xs fun φ h i=>h.IsTupleIter I t i∧h.get? t=some (gx ys n)∧Vs φ h ys.toList xs:=by
 have ob:∀ {h:Heap} {i},h.IsTupleIter I t i→∃ o,h.get? I=some o∧o.cls≠.type "tuple":=fun ⟨o,ho,hc,uu⟩=>⟨o,ho,mF hc (by decide)⟩
 refine ⟨fun st=>ob st.1,fun hh st h=>wpAny_pyIter_tupleiter st.1 h,fun st hp hI tp hd=>⟨st.1.at hI,tp _ _ _ st.2.1,st.2.2.mono hp tp⟩,fun hh r hx hk st hi hQ=>?_⟩
 obtain ⟨o,ho,c⟩:=ob st.1
 have ne:t≠I:=fun e=>c (by rw [←e,st.2.1] at ho;cases ho;rfl)
 have vs:=st.2.2
 refine jv (Walks.tuple hh I t ne ys) (by rw [←Array.length_toList];exact vs.length) ⟨st.1,_,st.2.1,rfl,_,rfl⟩ hi (fun v x p e=>?_) (fun h' hk S=>⟨S.1,hk _ _ ne st.2.1,vs.mono (aJ _) fun a uu uu1 e=>hk a _ (fun z=>c (by rw [z,ho] at e;cases e;rfl)) e⟩) hQ
 obtain ⟨u,q,hu⟩:=vs.get e
 rw [Array.getElem?_toList,p] at q
 cases q;exact hu
theorem uN{x:Str}{t:Tok}{ty:String}(h1:ty≠"tuple")(W:∀ A:Around,A.handled=none→Walks pw0 w A I [I] [I] x.cps.size (SignAt x) fun i h=>h.IsStrIter I ty x t i):
  rN w hb I (.str x) 0 (x.cps.toList.map fun c=>.str ⟨#[c]⟩) fun φ h i=>h.IsStrIter I ty x t i:=by
 refine ⟨fun ⟨o,ho,hc,uu⟩=>⟨o,ho,mF hc h1⟩,fun hh st h=>(W _ hh).self _ _ _ _ st h,fun ⟨o,ho,r⟩ hp hI tp hd=>⟨o,hI o ho,r⟩,fun hh r hx hk st hi hQ=>?_⟩
 refine jv (W _ hh) (by rw [List.length_map,Array.length_toList]) st hi (fun v x p e=>?_) (fun h' hk S=>S) hQ
 obtain ⟨c,k,hc,rfl⟩:=p
 rw [List.getElem?_map,Array.getElem?_toList,hc] at e
 cases e
 exact .str (by show 1≤cx;decide)
theorem Cb{a b:Int}:rN w hb I (.rng a b) 0 ((List.range (b - a).toNat).map fun (k:Nat)=>.int (a+k)) fun φ h i=>IsRangeIter h I (a+(i:Nat) * 1) (((b - a).toNat:Int) - (i:Nat)) 1:=by
 refine ⟨fun st=>⟨_,st,mF rfl (by decide)⟩,fun hh st h=>wpAny_pyIter_rangeiter st h,fun st hp hI tp hd=>hI _ st,fun hh r hx hk st hi hQ=>?_⟩
 refine jv (Walks.range hh I a 1 (b - a).toNat) (by rw [List.length_map,List.length_range]) st hi (fun v x p e=>?_) (fun h' hk S=>S) hQ
 obtain ⟨t,rfl⟩:=p
 rw [List.getElem?_map] at e
 obtain ⟨j,q,rfl⟩:=Option.map_eq_some_iff.mp e
 have hj:=(cv q).1
 rw [List.length_range] at hj
 rw [List.getElem?_range hj] at q
 cases q
 rw [Int.mul_one]
 exact .int _ _
theorem i9{n:Nat}(h:bH (.ref n) M=some xs):((M:List MO)[n]?=some (.lst xs)∧knd (.ref n) M=1)∨∃ l,(M:List MO)[n]?=some (.dct l)∧cW 2 l=true∧xs=l.map (·.1)∧knd (.ref n) M=2:=by
 unfold bH at h
 unfold knd
 dsimp only at h ⊢
 cases q:(M:List MO)[n]? with
 | none=>rw [q] at h;cases h
 | some o=>
  rw [q] at h
  cases o with
  | lst l=>cases h;exact .inl ⟨rfl,rfl⟩
  | dct l=>
   obtain ⟨ks,e⟩:=Pu.ite (p:=fun y=>y=xs) (.of h rfl)
   exact .inr ⟨l,rfl,ks,e.symm,rfl⟩
  | ins C l=>cases h
theorem Cc{n:Nat}{a:Addr}:rN w hb I (.ref n) 1 xs fun φ h i=>h.IsListIter I a i∧φ[n]?=some (a,a):=by
 have ob:∀ {h:Heap} {i},h.IsListIter I a i→∃ o,h.get? I=some o∧o.cls=.type "list_iterator":=fun ⟨o,ho,hc,uu⟩=>⟨o,ho,hc⟩
 refine ⟨fun st=>let ⟨o,ho,hc⟩:=ob st.1;⟨o,ho,mF hc (by decide)⟩,fun hh st h=>wpAny_pyIter_listiter st.1 h,fun st hp hI tp hd=>⟨st.1.at hI,aU hp st.2⟩,fun hh r hx hk st hi hQ=>?_⟩
 rcases i9 hx with ⟨ho,_⟩|⟨l,_,_,_,q⟩
 ·refine r.lst st.2 ho fun ys m uu hy vs hl=>?_
  obtain ⟨o,ho,c⟩:=ob st.1
  have ne:a≠I:=fun e=>by rw [←e,hy] at ho;cases ho;simp at c
  refine jv (Walks.list hh I a ne ys) (by rw [←Array.length_toList];exact vs.length) ⟨st.1,_,hy,rfl,_,rfl⟩ hi (fun v x p e=>?_) (fun h' hk S=>⟨S.1,st.2⟩) hQ
  obtain ⟨u,q,hu⟩:=vs.get e
  rw [Array.getElem?_toList,p] at q
  cases q;exact hu
 ·exact nomatch hk.symm.trans q
theorem de.dictAt{a:Addr}{es:Array DictEntry}{l:List (D×D)}(ho:h.get? a=some (cC es n))(he:de w φ h es.toList l)(ks:cW 2 l=true)(nd:(l.map (·.1)).Nodup):∃ kvs,h.DictAt (strKind pw0 w) a kvs n∧pO .str φ h kvs l∧kvs.length=l.length∧es.size=l.length:=by
 obtain ⟨kvs,h1,h2,h3⟩:=de.toKvs (jE w) he ks
 exact ⟨kvs,⟨_,_,ho,⟨rfl,rfl,rfl⟩,rfl,fun e q=>h1 e (Array.mem_toList_iff.mpr q),h2,fZ D.str (h3.keys▸nd)⟩,h3,h3.length,Array.length_toList▸he.length⟩
theorem Cd{n ep:Nat}{a:Addr}:rN w hb I (.ref n) 2 xs fun φ h i=>h.IsKeyIter I a i xs.length ep∧φ[n]?=some (a,a)∧∃ es m,h.get? a=some (cC es m)∧xs.length≤es.size∧(xs.length=es.size→m=ep∧wX es):=by
 have ob:∀ {h:Heap} {i len ep},h.IsKeyIter I a i len ep→∃ o,h.get? I=some o∧o.cls=.type "dict_keyiterator":=fun ⟨o,ho,hc,uu⟩=>⟨o,ho,hc⟩
 refine ⟨fun st=>let ⟨o,ho,hc⟩:=ob st.1;⟨o,ho,mF hc (by decide)⟩,fun hh st h=>wpAny_pyIter_keyiter st.1 h,fun st hp hI tp hd=>?_,fun {A s φ M i Q} hh r hx hk st hi hQ=>?_⟩
 ·obtain ⟨s1,s2,es,m,e1,l1,c1⟩:=st
  obtain ⟨es2,n2,e2,l2,c2⟩:=hd _ _ es m s2 e1
  refine ⟨s1.at hI,aU hp s2,es2,n2,e2,Nat.le_trans l1 l2,fun q=>?_⟩
  have z:es.size=es2.size:=Nat.le_antisymm l2 (q▸l1)
  obtain ⟨q1,q2⟩:=c1 (q.trans z.symm)
  obtain ⟨q3,q4⟩:=c2 q2 z
  exact ⟨q3▸q1,q4⟩
 ·obtain ⟨s1,s2,es,m,e1,l1,c1⟩:=st
  rcases i9 hx with ⟨_,q⟩|⟨l,ho,ks,rfl,_⟩
  ·exact nomatch hk.symm.trans q
  ·obtain ⟨_,_,nd,es',m',ho',he⟩:=r.obj n _ _ s2 ho
   rw [e1] at ho';cases ho'
   obtain ⟨kvs,hm,hkv,hl,hz⟩:=de.dictAt e1 he ks nd
   obtain ⟨rfl,sk⟩:=c1 (by rw [List.length_map,hz])
   obtain ⟨o,ho2,c⟩:=ob s1
   have ne:a≠I:=fun e=>by rw [←e,e1] at ho2;cases ho2;simp at c
   have hle:kvs.length=(l.map (·.1)).length:=by rw [List.length_map,hl]
   refine jv (Walks.dictKeys hh I a ne kvs m) hle ⟨hle▸s1,hm⟩ hi (fun v x p e=>?_) (fun h' hk S=>⟨hle▸S.1,s2,es,m,hk _ _ ne e1,l1,c1⟩) hQ
   obtain ⟨k,u,hk1,hk2⟩:=p
   rw [hkv.keys,List.getElem?_map,List.getElem?_map,hk1] at e
   cases e
   obtain ⟨d',hd'⟩:=kY hkv (List.mem_of_getElem? hk1)
   exact (jE w).of hk2 fun x q=>by cases q;exact he.sizes hd'
structure nG(hb:Heap)(φ:Phi)(h:Heap)(c:Addr):Prop where
 own:¬ dm φ c
 new:hb.get? c=none
 scr:∀ p,φ[0]?=some p→c≠p.1∧c≠p.2
 tup:∀ xs n,h.get? c≠some (gx xs n)
theorem nG.ne(x:nG hb φ h I){n:Nat}{p:Addr×Addr}(hp:φ[n]?=some p):p.1≠I∧p.2≠I:=by
 by_cases hz:n=0
 ·have q:=x.scr p (hz▸hp);exact ⟨Ne.symm q.1,Ne.symm q.2⟩
 ·have o:=dm.at hz hp
  exact ⟨fun e=>x.own (e▸o.1),fun e=>x.own (e▸o.2)⟩
theorem R.poke(B:aI w hb)(r:R w hb φ h M)(hk:Kp I h h')(x:nG hb φ h I):R w hb φ h' M∧du h h':=by
 have tp:du h h':=fun a items n e=>hk a _ (fun z=>x.tup items n (z▸e)) e
 have base:∀ b o,hb.get? b=some o→h'.get? b=some o:=fun b o e=>hk b o (fun z=>aD (z▸e) x.new) (r.base b o e)
 refine ⟨⟨r.len,fun n p o hp ho=>?_,r.apart,r.new,r.ne,r.mods,vc (B.keeps base),base,r.scr⟩,tp⟩
 obtain ⟨o1,o2,h1,h2,_⟩:=r.objs hp
 exact (r.obj n p o hp ho).move (aJ _) tp ((hk _ _ (x.ne hp).1 h1).trans h1.symm) ((hk _ _ (x.ne hp).2 h2).trans h2.symm)
theorem Eu(r:R w hb φ h M)(h0:h.get? I=none)(hp:φ <+: φ'):∀ p,φ'[0]?=some p→I≠p.1∧I≠p.2:=fun p hp'=>by
 cases φ with
 | nil=>exact absurd rfl r.ne
 | cons q t=>
  have e:(q::t)[0]?=some p:=(aU hp (rfl:(q::t)[0]?=some q)).symm.trans hp'
  obtain ⟨o1,o2,h1,h2,_⟩:=r.objs e
  exact ⟨fun z=>aD h1 (z▸h0),fun z=>aD h2 (z▸h0)⟩
theorem nG.of(r:R w hb φ h M)(h0:h.get? I=none)(hp:φ <+: φ')(o:¬ dm φ' I)(t:∀ xs n,h'.get? I≠some (gx xs n)):nG hb φ' h' I:=⟨o,fz r h0,Eu r h0 hp,t⟩
theorem rN.tup(it:rN w hb I d k xs St)(st:St φ h i):∀ xs n,h.get? I≠some (gx xs n):=fun xs n e=>by
 obtain ⟨o,ho,c⟩:=it.obj st
 rw [e] at ho;cases ho;exact c rfl
theorem aW.apartI(f:aW hb env φ h)(h0:h.get? I=none):I≠env.locals∧∀ y,env.cells.lookup y≠some I:=by
 obtain ⟨o,ho⟩:=f.locals_at
 refine ⟨fun e=>aD (e▸ho) h0,fun y e=>?_⟩
 obtain ⟨_,v,o',ho',_⟩:=f.cells y I e
 exact aD ho' h0
theorem cK.poke(B:aI w hb){φ0:Phi}{s0:Shared}{tk:Nat}(fr0:aW hb env φ0 s0.heap)(x:cK w hb env φ0 s0 M φ s)(L:tU env φ s.heap g l)(hk:Kp I s.heap h')(h0:s0.heap.get? I=none)(p:nG hb φ s.heap I):cK w hb env φ0 s0 M φ { s with heap:=h',toks:=tk }∧du s.heap h'∧tU env φ h' g l:=by
 obtain ⟨r',tp⟩:=x.r.poke B hk p
 have ne:=fr0.apartI h0
 have hL:∀ o,s.heap.get? env.locals=some o→h'.get? env.locals=some o:=fun o e=>hk _ o (Ne.symm ne.1) e
 have hC:∀ y c o,env.cells.lookup y=some c→s.heap.get? c=some o→h'.get? c=some o:=fun y c o hc e=>hk _ o (fun z=>ne.2 y (z▸hc)) e
 refine ⟨⟨r',x.fr.move hL hC fun uu uu1 uu2 n=>n,x.pre,fun a o e n1 n2 n3=>hk a o (fun z=>aD (z▸e) h0) (x.keep a o e n1 n2 n3),x.fresh,fun a es n e h1=>?_,x.os,x.gens⟩,tp,fun y i d a b=>?_⟩
 ·obtain ⟨es',n',e1,q⟩:=x.dicts a es n e h1
  exact ⟨es',n',hk a _ (fun z=>aD (z▸e) h0) e1,q⟩
 ·obtain ⟨v,h1,h2⟩:=L y i d a b
  exact ⟨v,h1.kept hL hC,h2.mono (aJ _) tp⟩
theorem aM.poke(B:aI w hb){tk:Nat}(x:aM w hb φ s M' φ' s')(hk:Kp I s'.heap h')(h0:s.heap.get? I=none)(p:nG hb φ' s'.heap I):aM w hb φ s M' φ' { s' with heap:=h',toks:=tk }∧du s'.heap h':=by
 obtain ⟨r',tp⟩:=x.r.poke B hk p
 refine ⟨⟨r',⟨x.st.pre,fun a o e n=>hk a o (fun z=>aD (z▸e) h0) (x.st.keep a o e n),x.st.fresh,fun a es n e=>?_⟩,x.os,x.gens⟩,tp⟩
 obtain ⟨es',n',e1,q⟩:=x.st.dicts a es n e
 exact ⟨es',n',hk a _ (fun z=>aD (z▸e) h0) e1,q⟩
def Ap(w:World)(hb:Heap)(φ:Phi)(s:Shared)(Q:Value→Shared→Prop)(x:D×H):Prop:=Pu (bH x.1 x.2) fun xs=>xs.length < 100000∧∀ I St s' φ',aM w hb φ s x.2 φ' s'→rN w hb I x.1 (knd x.1 x.2) xs St→St φ' s'.heap 0→s.heap.get? I=none→¬ dm φ' I→hb.get? I=none→Q (.ref I) s'
def rL(w:World)(hb:Heap)(A:Around)(env:Env)(g:G)(cf:CF)(x:X)(t:Sem Value):Prop:=
 ∀ ⦃s⦄ {φ M l Q},Fr w hb env g φ s M l→Pu (x cf l M) (Ap w hb φ s Q)→wpAny (model pw0 w) A t (fun v s₁=>wpAny (model pw0 w) A (pyIter v) Q bX s₁) bX s
theorem jV{h0:Heap}(r0:R w hb φ h0 M)(st:eI φ h0 φ' h)(r:R w hb φ' h M'):h0.get? h.objs.size=none∧¬ dm φ' h.objs.size∧hb.get? h.objs.size=none:=by
 have no:=kC r
 refine ⟨?_,no,fz r (da h)⟩
 cases q:h0.get? h.objs.size with
 | none=>rfl
 | some o=>exact (aD (st.keep _ o q fun o'=>no (o'.of_prefix st.pre)) (da h)).elim
theorem Ce{φ0:Phi}{s0:Shared}{M0:H}{v:Value}{Q:Value→Shared→Prop}(r0:R w hb φ0 s0.heap M0)(D0:aM w hb φ0 s0 M φ s)(hV:V φ s.heap v d)(p:Ap w hb φ0 s0 Q (d,M)):wpAny (model pw0 w) A (pyIter v) Q bX s:=by
 obtain ⟨n1,n2,n3⟩:=jV r0 D0.st D0.r
 obtain ⟨xs,hx,hl,p⟩:=Pu.eq p
 have D1:∀ o,aM w hb φ0 s0 M φ { s with heap:=s.heap.push o }:=fun o=>D0.trans (.lay D0.r o _)
 have q:∀ {o:Obj} {St},rN w hb s.heap.objs.size d (knd d M) xs St→St φ (s.heap.push o) 0→Q (.ref s.heap.objs.size) { s with heap:=s.heap.push o }:=fun it st=>p _ _ _ φ (D1 _) it st n1 n2 n3
 have at0:∀ {o:Obj},o.isFreed=false→(s.heap.push o).get? s.heap.objs.size=some o:=fun e=>Heap.get?_push_size _ e
 cases d with
 | str x=>
  cases hx
  refine hV.str_ fun t hz=>?_
  cases ha:x.cps.all (· < 128) with
  | true=>exact wpAny_pyIter_ascii ha (q (uN (by decide) fun A hA=>Walks.strAscii hA _ x t) ⟨_,at0 rfl,rfl,rfl⟩)
  | false=>exact wpAny_pyIter_wide ha (q (uN (by decide) fun A hA=>Walks.strWide hA _ x t) ⟨_,at0 rfl,rfl,rfl⟩)
 | tup ds=>
  cases hx
  exact hV.tup_ fun a ys m ho hl hi=>wpAny_pyIter_tuple ⟨_,ho,rfl,_,rfl⟩ (q B9 ⟨⟨_,at0 rfl,rfl,rfl⟩,Heap.get?_push_of_some _ ho,hi.mono (aJ _) (.keeps fun uu uu1=>Heap.get?_push_of_some _)⟩)
 | ref n=>
  refine hV.ref_ fun a hp=>?_
  rcases i9 hx with ⟨ho,e⟩|⟨l,ho,ks,rfl,e⟩
  ·rw [e] at q
   exact D0.r.lst hp ho fun ys m e2 hy vs hl=>wpAny_pyIter_list ⟨_,hy,rfl,_,rfl⟩ (q Cc ⟨⟨_,at0 rfl,rfl,rfl⟩,by obtain ⟨a1,a2⟩:=a;cases e2;exact hp⟩)
  ·rw [e] at q
   obtain ⟨e2,_,nd,es,m,hy,he⟩:=D0.r.obj n _ _ hp ho
   obtain ⟨kvs,hm,_,hl1,hl2⟩:=de.dictAt hy he ks nd
   exact wpAny_pyIter_dict (D0.r.notMods hp) hm (q Cd ⟨⟨_,at0 rfl,rfl,by rw [List.length_map,←hl1];rfl⟩,by obtain ⟨a1,a2⟩:=a;cases e2;exact hp,es,m,Heap.get?_push_of_some _ hy,by rw [hl2,List.length_map];exact Nat.le_refl _,fun uu=>⟨rfl,he.strK ks⟩⟩)
 | rng=>exact hV.elim
 | _=>exact fO hx
theorem uf{x:X}{t:Sem Value}(h:aB w hb A env g cf x t):rL w hb A env g cf x t:=fun uu=>fun F p=>h F (p.imp fun uu p v s1 φ1 D1 V1=>Ce F.r D1 V1 p)
end
section
variable {xs:List D}
theorem nO(h:still d xs k M=true):knd d M=k∧bH d M=some xs:=by
 obtain ⟨h1,h2⟩:=aG h
 refine ⟨eq_of_beq h1,?_⟩
 cases q:bH d M with
 | none=>rw [q] at h2;cases h2
 | some l=>
  rw [q] at h2
  exact congrArg some (eqbs_eq h2)
theorem wo{chk:H→Bool}{body:XS}{p:Fl×L×H→Prop}(h:Pu (bC chk i body cf xs l M) p):chk M=true:=by
 cases xs with
 | nil=>exact (Pu.ite h).1
 | cons x r=>exact (Pu.ite h).1
theorem sd{iter:Expr}(h:cG iter=true)(x:Value):foldedSetIterable iter env x=pure x:=by unfold foldedSetIterable;cases iter<;>first|rfl|exact gW h
theorem rN.stepS(it:rN w hb I d k xs St)(x:cK w hb env φ s M φ' s')(F:Fr w hb env g φ s M' l)(st:St φ s.heap i)(hI:¬ dm φ I)(ne:I≠env.locals∧∀ y,env.cells.lookup y≠some I):St φ' s'.heap i∧¬ dm φ' I:=by
 obtain ⟨oI,hoI,_⟩:=it.obj st
 refine ⟨it.move st x.pre (fun o e=>x.keep I o e hI ne.1 ne.2) (x.tups F.r F.fr) fun n a es j hp e=>x.dicts a es j e fun z=>?_,fun o=>aD hoI (x.fresh I o hI)⟩
 by_cases hz:n=0
 ·subst hz
  obtain ⟨l,hl⟩:=F.r.scr
  obtain ⟨_,_,ys,m,ho,_⟩:=F.r.obj 0 _ _ hp hl
  rw [e] at ho;exact absurd (congrArg Obj.cls (Option.some.inj ho)) (by simp)
 ·exact F.fr.free (z▸(dm.at hz hp).1)
def Kj(w:World)(hb:Heap)(env:Env)(g:G)(cf:CF)(φ:Phi)(s:Shared)(I:Addr)(xs:List D)(St:Phi→Heap→Nat→Prop)(lp:List D→L→H→Option (Fl×L×H))(Q:Flow→Shared→Prop)(n:Nat)(st:Shared):Prop:=
 ∃ φ2 M2 l2 j,n+j=xs.length∧cK w hb env φ s M2 φ2 st∧tU env φ2 st.heap g l2∧St φ2 st.heap j∧¬ dm φ2 I∧Pu (lp (xs.drop j) l2 M2) (Ks w hb env g φ s Q)
theorem AV{sc:Scope}{x:Str}{i:Nat}{it:X}{body:XS}{iter:Expr}{bs:List Stmt}{xp pos:Pos}(B:aI w hb)(hh:A.handled=none)(S:bF sc env)(G:ix g)(hx:look x g=some i)(hk:fH sc x=true)(hset:cG iter=true)
  (hi:rL w hb A env g cf it (eval iter env)) (hbody:ct w hb A env g cf body (execs bs env)):ct w hb A env g cf (bO i it body) (exec (.For (.Name x xp) iter bs [] pos) env):=fun s=>fun {φ M l Q} F p=>by
 refine wpAny_For (hi F (p.bd.imp fun y p=>p.bind.imp fun xs p=>?_)) (sd hset)
 obtain ⟨d,H1⟩:=y
 obtain ⟨hl,p⟩:=Pu.ite p
 refine ⟨hl,fun I St s1 φ1 D1 it st1 n1 o1 n3=>?_⟩
 have ne:=F.fr.apartI n1
 refine codeAny_forLoop_any (Kj w hb env g cf φ s I xs St (bC (still d xs (knd d H1)) i body cf) Q) (fun n st=>?_) xs.length ⟨φ1,H1,l,0,rfl,D1.toS F.fr,(F.step D1).lo,st1,o1,p⟩
 rintro ⟨φ2,M2,l2,j,hn,D2,L2,st2,o2,p⟩
 obtain ⟨k1,k2⟩:=nO (wo p)
 refine wpAny_mono (it.next hh D2.r k2 k1 st2 (hn▸Nat.le_add_left j n) fun o h' tk hk' hO=>?_) (fun uu uu1 q=>q) fun uu uu1 x=>x.elim
 obtain ⟨D3,tp3,L3⟩:=cK.poke B F.fr D2 (tk:=tk) L2 hk' n1 (.of F.r n1 D2.pre o2 (it.tup st2))
 unfold kh at hO
 cases q:xs[j]? with
 | none=>
  rw [q] at hO;cases hO
  rw [List.drop_eq_nil_of_le (List.getElem?_eq_none_iff.mp q)] at p
  exact wpAny_execs_nil ((Pu.ite p).2 _ _ φ2 D3 L3 rfl)
 | some x=>
  rw [q] at hO
  obtain ⟨v,rfl,V3,st3⟩:=hO
  obtain ⟨hj,rfl⟩:=cv q
  rw [List.drop_eq_getElem_cons hj] at p
  refine wpAny_pure (wpAny_assign_Name (wpAny_mono (gI (D3.fr' L3) hx G (lE S hk) (V3.mono (aJ _) tp3) fun s4 D4 L4=>?_) (fun uu uu1 q=>q) fun uu uu1 x=>x.elim))
  have D34:=D3.trans D4
  obtain ⟨st4,o4⟩:=it.stepS D4 (D3.fr' L3) st3 o2 ne
  refine wpAny_mono (hbody (D34.fr' L4) ((Pu.ite p).2.bs.imp fun y p f s5 φ5 D5 L5 F5=>?_)) (fun uu uu1 q=>q) fun uu uu1 x=>x.elim
  have D35:=D34.trans D5
  obtain ⟨st5,o5⟩:=it.stepS D5 (D34.fr' L4) st4 o4 ne
  obtain ⟨fl,l5,M5⟩:=y
  cases fl with
  | ret d=>obtain ⟨v,rfl,hv⟩:=F5;exact p _ s5 φ5 D35 L5 ⟨v,rfl,hv⟩
  | next=>cases F5;exact ⟨n - 1,(t6 hn hj).1,φ5,M5,l5,j+1,(t6 hn hj).2,D35,L5,st5,o5,p⟩
  | cont=>cases F5;exact ⟨n - 1,(t6 hn hj).1,φ5,M5,l5,j+1,(t6 hn hj).2,D35,L5,st5,o5,p⟩
theorem vu{t:XT}{body:XS}{x:Expr}{bs:List Stmt}{pos:Pos}(ht:fk w hb A env g cf t (isTrue x env (eval x env)))(hbody:ct w hb A env g cf body (execs bs env)):
  ct w hb A env g cf (oJ t body) (exec (.While x bs [] pos) env):=fun s=>fun {φ M l Q} F p=>by
 refine wpAny_While (codeAny_whileLoop (fun n st=>∃ φ2 M2 l2,Fr w hb env g φ2 st M2 l2∧Pu (xu t body cf n l2 M2) (Ks w hb env g φ2 st Q)) (fun n st=>?_) 2000 ⟨φ,M,l,F,p⟩)
 rintro ⟨φ2,M2,l2,F2,p⟩
 cases n with
 | zero=>exact p.elim
 | succ n=>
  refine wpAny_mono (ht F2 (Pu.imp (Pu.bd p) fun y p s3 φ3 D3=>?_)) (fun uu uu1 q=>q) fun uu uu1 x=>x.elim
  obtain ⟨c,M3⟩:=y
  have F3:=F2.step D3
  have p:=Pu.afterS p (D3.toS F2.fr)
  cases c with
  | false=>exact wpAny_execs_nil (F3.ks (.refl F3.r) p rfl)
  | true=>
   have p:Pu (Internal.bs (body cf l2 M3) (xu t body cf n) (xu t body cf n) fun d l h=>some (.ret d,l,h)) _:=p
   refine wpAny_mono (hbody F3 (p.bs.imp fun y p f s5 φ5 D5 L5 F5=>?_)) (fun uu uu1 q=>q) fun uu uu1 x=>x.elim
   obtain ⟨fl,l5,M5⟩:=y
   cases fl with
   | ret d=>obtain ⟨v,rfl,hv⟩:=F5;exact p _ s5 φ5 D5 L5 ⟨v,rfl,hv⟩
   | next=>cases F5;exact ⟨n,Nat.lt_succ_self _,φ5,M5,l5,D5.fr' L5,Pu.afterS p D5⟩
   | cont=>cases F5;exact ⟨n,Nat.lt_succ_self _,φ5,M5,l5,D5.fr' L5,Pu.afterS p D5⟩
end
theorem Kp.of{c:Addr}{h h':Heap}(hs:Heap.SameBut c h h'):Kp c h h':=fun b o ne e=>(hs.2 b ne).trans e
theorem iT{h:Heap}{C:Addr}{m:Str→Option Value}(hC:h.Ns C m):∀ xs n,h.get? C≠some (gx xs n):=fun xs n q=>by
 obtain ⟨o,es,ep,ho',hd',_⟩:=hC
 rw [q] at ho';cases ho';cases hd'
theorem oS{f:Str×NameKind→Str×NameKind}(hf:∀ p,f p=p∨(p.2=.free∧f p=(p.1,.cell))){names:List (Str×NameKind)}{y:Str}:(names.map f).lookup y=names.lookup y∨(names.lookup y=some .free∧(names.map f).lookup y=some .cell):=by
 induction names with
 | nil=>exact .inl rfl
 | cons p r ih=>
  rw [List.map_cons,List.lookup_cons]
  rcases hf p with e|⟨e1,e2⟩
  ·rw [e,List.lookup_cons]
   cases y==p.1 with
   | true=>exact .inl rfl
   | false=>exact ih
  ·rw [e2,List.lookup_cons,e1]
   cases y==p.1 with
   | true=>exact .inr ⟨rfl,rfl⟩
   | false=>exact ih
structure kj(sc sc':Scope)(x:Str):Prop where
 kind:sc'.kind=.function
 var:sc'.names.lookup x=some .local
 nocell:∀ y∈sc'.names,y.2≠.cell
 locs:∀ y∈sc'.names,y.2=.local→sc'.names.lookup y.1=some .local
 free:∀ y,(y,NameKind.free)∈sc'.names→Cf sc y=true
theorem zY{sc sc':Scope}{x:Str}{it:Expr}(h:jb sc sc' x it=true):kj sc sc' x∧cG it=true:=by
 simp only [jb,Bool.and_eq_true,beq_iff_eq,List.all_eq_true] at h
 have h4:=h.2
 exact ⟨⟨h.1.1.1,h.1.1.2,fun y hy e=>by simpa [e] using (h4 y hy).1.1,fun y hy e=>by simpa [e] using (h4 y hy).1.2,fun y hy=>by simpa using (h4 _ hy).2⟩,h.1.2⟩
theorem qP{p:Str×Nat→Bool}{y:Str}{i:Nat}{g:G}(h:look y (g.filter p)=some i):(∃ j,p (y,j)=true)∧((∀ j,p (y,j)=true)→look y g=some i):=by
 induction g with
 | nil=>exact fO h
 | cons a r ih=>
  obtain ⟨a,k⟩:=a
  by_cases hp:p (a,k)=true
  ·rw [List.filter_cons_of_pos hp] at h
   unfold look at h ⊢
   by_cases q:(a==y)=true
   ·rw [if_pos q] at h ⊢
    exact ⟨⟨k,eq_of_beq q▸hp⟩,fun uu=>h⟩
   ·rw [if_neg q] at h ⊢
    exact ih h
  ·rw [List.filter_cons_of_neg hp] at h
   obtain ⟨h1,h2⟩:=ih h
   refine ⟨h1,fun hq=>?_⟩
   unfold look
   rw [if_neg fun q:(a==y)=true=>hp (eq_of_beq q▸hq k)]
   exact h2 hq
theorem BE{y:Str}{i:Nat}{g:G}(h:look y g=some i):i < mx g:=by
 induction g with
 | nil=>exact fO h
 | cons a r ih=>
  unfold look at h
  unfold mx
  by_cases q:(a.1==y)=true
  ·rw [if_pos q] at h;cases h;exact Nat.lt_of_lt_of_le (Nat.lt_succ_self _) (Nat.le_max_left _ _)
  ·rw [if_neg q] at h;exact Nat.lt_of_lt_of_le (ih h) (Nat.le_max_right _ _)
section
variable {C Ld:Addr}{e:X}{pos:Pos}{xs:List D}{kn:Nat}
theorem tI{f:Str×NameKind→List (Str×Addr)→Sem (ForInStep (List (Str×Addr)))}(hf:∀ p cs,f p cs=if (p.2==NameKind.free)=true then do
   let c ←cellOf env p.1
   pure (.yield ((p.1,c)::cs)) else pure (.yield cs)) {names:List (Str×NameKind)} {cs:List (Str×Addr)} (h1:∀ y,(y,NameKind.free)∈names→(env.cells.lookup y).isSome=true) (h2:∀ y c,cs.lookup y=some c→env.cells.lookup y=some c) :
  ∃ cl,forIn names cs f=pure cl∧(∀ y c,cl.lookup y=some c→env.cells.lookup y=some c)∧∀ y,(y,NameKind.free)∈names∨(cs.lookup y).isSome=true→(cl.lookup y).isSome=true:=by
 induction names generalizing cs with
 | nil=>exact ⟨cs,List.forIn_nil,h2,fun y h=>h.elim (fun m=>absurd m List.not_mem_nil) id⟩
 | cons p r ih=>
  obtain ⟨n,k⟩:=p
  have ih:=fun {cs}=>ih (cs:=cs) fun y hy=>h1 y (aE _ hy)
  rw [List.forIn_cons,hf]
  by_cases hk:k=.free
  ·subst hk
   obtain ⟨c,hc⟩:=Option.isSome_iff_exists.mp (h1 n aw)
   obtain ⟨cl,q1,q2,q3⟩:=ih (cs:=(n,c)::cs) fun y c' hy=>by
    rw [List.lookup_cons] at hy
    cases q:y==n with
    | true=>rw [q] at hy;cases hy;rw [eq_of_beq q];exact hc
    | false=>rw [q] at hy;exact h2 y c' hy
   refine ⟨cl,?_,q2,fun y hy=>q3 y ?_⟩
   ·rw [if_pos (show (NameKind.free==NameKind.free)=true from rfl),show cellOf env n=pure c by unfold cellOf;rw [hc],pure_bind,pure_bind]
    exact q1
   ·rw [List.lookup_cons]
    cases q:y==n with
    | true=>exact .inr rfl
    | false=>exact hy.imp_left fun hy=>(bo hy).elim (fun e=>by cases e;rw [beq_self_eq_true] at q;cases q) id
  ·obtain ⟨cl,q1,q2,q3⟩:=ih h2
   refine ⟨cl,?_,q2,fun y hy=>q3 y (hy.imp_left fun hy=>(bo hy).elim (fun e=>absurd (by cases e;rfl) hk) id)⟩
   rw [if_neg fun z=>hk (eq_of_beq z),pure_bind]
   exact q1
theorem mG(hf:∀ y,(y,NameKind.free)∈sc'.names→(env.cells.lookup y).isSome=true):
  ∃ cl,closureFor sc' env=pure cl∧(∀ y c,cl.lookup y=some c→env.cells.lookup y=some c)∧∀ y,(y,NameKind.free)∈sc'.names→(cl.lookup y).isSome=true:=by
 unfold closureFor
 obtain ⟨cl,q1,q2,q3⟩:=tI (env:=env) (f:=fun x cs=>if (x.2==NameKind.free)=true then do
   let c ←cellOf env x.1
   pure (.yield ((x.1,c)::cs)) else pure (.yield cs)) (fun uu uu1=>rfl) (cs:=[]) hf fun y c h=>nomatch h
 exact ⟨cl,(congrArg (· >>= pure) q1).trans (pure_bind _ _),q2,fun y hy=>q3 y (.inl hy)⟩
theorem mj(S:bF sc env){y:Str}(h:Cf sc y=true):env.scope.names.lookup y=some .cell∨env.scope.names.lookup y=some .free:=by
 unfold Cf at h
 rcases S.names y with e|⟨_,e⟩
 ·rw [e]
  split at h
  ·exact .inl ‹_›
  ·exact .inr ‹_›
  ·exact gW h
 ·exact .inl e
theorem ir{y:Str}:(compEnvC sc' cl C env).scope.names.lookup y=sc'.names.lookup y∨(sc'.names.lookup y=some .free∧(compEnvC sc' cl C env).scope.names.lookup y=some .cell):=by
 show List.lookup y (relabel sc' env).names=_∨_∧List.lookup y (relabel sc' env).names=_
 unfold relabel
 refine oS fun p=>?_
 by_cases hc:(p.2==NameKind.free && env.scope.kind==.function && env.kindOf p.1==some .cell)=true
 ·exact .inr ⟨eq_of_beq (aG (aG hc).1).1,if_pos hc⟩
 ·exact .inl (if_neg hc)
theorem k5:bF sc' (compEnvC sc' cl C env):=⟨fun y=>ir⟩
theorem mH(h:sc'.names.lookup x=some .local):(compEnvC sc' cl C env).scope.names.lookup x=some .local:=ir.elim (·.trans h) fun e=>nomatch h.symm.trans e.1
theorem wR(K:kj sc sc' x){y:Str}(h:(compEnvC sc' cl C env).scope.names.lookup y=some .cell∨(compEnvC sc' cl C env).scope.names.lookup y=some .free):sc'.names.lookup y=some .free:=by
 rcases ir (cl:=cl) (C:=C) (env:=env) (sc':=sc') (y:=y) with e|⟨e1,e2⟩
 ·rw [e] at h
  exact h.elim (fun h=>absurd rfl (K.nocell _ (mem_of_lookup h))) id
 ·exact e1
theorem tK(K:kj sc sc' x)(q2:∀ y c,cl.lookup y=some c→env.cells.lookup y=some c)(q3:∀ y,(y,NameKind.free)∈sc'.names→(cl.lookup y).isSome=true)(fr:aW hb env φ h){m:Str→Option Value}(hC:h.Ns C m)(oC:¬ dm φ C)(nC:hb.get? C=none)(ne:∀ y c,env.cells.lookup y=some c→c≠C):
  aW hb (compEnvC sc' cl C env) φ h:=⟨K.kind,fr.glob,fr.blt,⟨m,hC⟩,oC,fun y c hy=>fr.cells y c (q2 y c hy),nC,fun y c hy=>fr.newC y c (q2 y c hy),fun y hy=>q3 y (mem_of_lookup (wR K hy)),fun y z c hy hz=>fr.apart y z c (q2 y c hy) (q2 z c hz),fun y c hy=>ne y c (q2 y c hy)⟩
theorem Ab(K:kj sc sc' x)(S:bF sc env)(q2:∀ y c,cl.lookup y=some c→env.cells.lookup y=some c)(q3:∀ y,(y,NameKind.free)∈sc'.names→(cl.lookup y).isSome=true)(lo:tU env φ h g l){m:Str→Option Value}(hC:h.Ns C m)(hm:m x=some v)(hV:V φ h v d):
  tU (compEnvC sc' cl C env) φ h (eE sc' x g) (upd l (mx g) d):=fun y i d' hy hi=>by
 unfold eE look at hy
 by_cases q:(x==y)=true
 ·rw [if_pos q] at hy
  cases hy
  cases eq_of_beq q
  rw [upd,if_pos rfl] at hi
  cases hi
  exact ⟨v,.inl ⟨mH K.var,m,hC,hm⟩,hV⟩
 ·rw [if_neg q] at hy
  obtain ⟨⟨j,f1⟩,f2⟩:=qP hy
  have hlook:=f2 fun uu=>f1
  have hfree:(y,NameKind.free)∈sc'.names:=mem_of_lookup (eq_of_beq (aG f1).1)
  rw [upd,if_neg (Nat.ne_of_lt (BE hlook))] at hi
  obtain ⟨v',hv',hV'⟩:=lo y i d' hlook hi
  rcases hv' with ⟨e,_⟩|⟨_,c,hc,hcell⟩
  ·rcases mj S (K.free y hfree) with z|z<;>exact nomatch e.symm.trans z
  ·obtain ⟨c',hc'⟩:=Option.isSome_iff_exists.mp (q3 y hfree)
   cases hc.symm.trans (q2 y c' hc')
   refine ⟨v',.inr ⟨?_,c,hc',hcell⟩,hV'⟩
   exact ir.elim (fun e=>.inr (e.trans (eq_of_beq (aG f1).1))) fun e=>.inl e.2
def rK(w:World)(hb:Heap)(A:Around)(env:Env)(g:G)(cf:CF)(t:Option XT)(ifs:List Expr):Prop:=match t,ifs with
 | none,[]=>True
 | some t,[c]=>fk w hb A env g cf t (isTrue c env (eval c env))
 | _,_=>False
theorem xz(ht:rK w hb A env g cf t ifs)(F:Fr w hb env g φ s M l){Q:Bool→Shared→Prop}(p:Pu (nI t cf l M) (Kt w hb φ s Q)):wpAny (model pw0 w) A (forIn ifs true fun c r=>if r=true then do let ok ←isTrue c env (eval c env);pure (ForInStep.yield ok) else pure (ForInStep.yield r)) Q bX s:=by
 cases t with
 | none=>cases ifs with
  | nil=>exact wpAny_tests_nil (p s φ (.refl F.r))
  | cons=>exact ht.elim
 | some t=>cases ifs with
  | nil=>exact ht.elim
  | cons c cs=>cases cs with
   | cons=>exact ht.elim
   | nil=>exact wpAny_tests_one (ht F p)
structure CB(C Ld:Addr)(n:Nat)(ys:Array Value)(acc:List D)(m:Str→Option Value)(φ:Phi)(h:Heap):Prop where
 hD:∃ k,h.get? Ld=some (gP ys k)
 vD:Vs φ h ys.toList acc
 lD:acc.length≤n
 oD:¬ dm φ Ld
 hC:h.Ns C m
 oC:¬ dm φ C
variable {ys:Array Value}{acc:List D}{m:Str→Option Value}{c:Addr}
theorem CB.kp(x:CB C Ld n ys acc m φ h)(hk:Kp c h h')(n1:Ld≠c)(n2:C≠c)(tp:du h h'):CB C Ld n ys acc m φ h':=⟨let ⟨k,q⟩:=x.hD;⟨k,hk _ _ n1 q⟩,x.vD.mono (aJ _) tp,x.lD,x.oD,x.hC.at' fun o q=>hk _ o n2 q,x.oC⟩
theorem CB.step(x:CB C Ld n ys acc m φ s.heap)(r:R w hb φ s.heap M)(D:aM w hb φ s M' φ' s'):CB C Ld n ys acc m φ' s'.heap:=by
 obtain ⟨k,q⟩:=x.hD
 obtain ⟨o,es,ep,ho,_⟩:=x.hC
 exact ⟨⟨k,D.st.keep _ _ q x.oD⟩,x.vD.step r D.st,x.lD,dm.old D.st q x.oD,x.hC.at' fun o q=>D.st.keep _ o q x.oC,dm.old D.st ho x.oC⟩
theorem rN.step{i:Nat}(it:rN w hb I d kn xs St)(st:St φ s.heap i)(o:¬ dm φ I)(r:R w hb φ s.heap M)(D:aM w hb φ s M' φ' s'):St φ' s'.heap i∧¬ dm φ' I:=by
 obtain ⟨oI,hoI,_⟩:=it.obj st
 exact ⟨it.move st D.st.pre (fun u e=>D.st.keep _ u e o) (D.st.tups r) fun n a es j uu e=>D.st.dicts a es j e,dm.old D.st hoI o⟩
theorem rN.other{i:Nat}(it:rN w hb I d kn xs St)(st:St φ h i)(hk:Kp c h h')(tp:du h h')(ne:I≠c)(p:nG hb φ h c):St φ h' i:=
 it.move st (aJ _) (fun o e=>hk _ o ne e) tp fun n a es j hp e=>.same (hk _ _ (p.ne hp).1 e)
theorem wP{chk:H→Bool}{i:Nat}{p:List D×H→Prop}(h:Pu (dw chk i t e cf xs l M acc) p):chk M=true:=by
 cases xs with
 | nil=>exact (Pu.ite h).1
 | cons x r=>exact (Pu.ite h).1
theorem wO(B:aI w hb)(hh:A.handled=none)(K:kj sc sc' x)(S:bF sc env)(F:Fr w hb env g φ s M l)(it:rN w hb I d kn xs St)(n1:s.heap.get? I=none)(nC:s.heap.get? C=none)(nD:s.heap.get? Ld=none)(hDC:Ld≠C)(hDI:Ld≠I)(hCI:C≠I)(hlen:xs.length < 100000)
  (q2:∀ y c,cl.lookup y=some c→env.cells.lookup y=some c) (q3:∀ y,(y,NameKind.free)∈sc'.names→(cl.lookup y).isSome=true)
  (hT:rK w hb A (compEnvC sc' cl C env) (eE sc' x g) cf t ifs) (hE:aB w hb A (compEnvC sc' cl C env) (eE sc' x g) cf e (eval elt (compEnvC sc' cl C env))) {Z:List D×H→Prop} {RR:Result→Shared→Prop}
  (fin:∀ z φ' s' ys m,Z z→aM w hb φ s z.2 φ' s'→CB C Ld xs.length ys z.1 m φ' s'.heap→RR (.ok .next) s')
  (D1:aM w hb φ s M1 φ1 s1) (st1:St φ1 s1.heap 0) (o1:¬ dm φ1 I) (c1:CB C Ld 0 #[] [] m φ1 s1.heap) (p:Pu (dw (still d xs kn) (mx g) t e cf xs l M1 []) Z) :
  codeAny (model pw0 w) A (.compLoop (.ListComp elt [⟨.Name x px,iter,ifs,0⟩] sc' pos) 0 (.ref I) (.ref Ld) (compEnvC sc' cl C env)) RR s1:=by
 have neC:∀ y c,env.cells.lookup y=some c→c≠C:=fun y c hy q=>(F.fr.apartI nC).2 y (q▸hy)
 refine codeAny_compLoop_tests (fun n st=>∃ j φ2 M2 ys m acc,n+j=xs.length∧aM w hb φ s M2 φ2 st∧St φ2 st.heap j∧¬ dm φ2 I∧CB C Ld j ys acc m φ2 st.heap∧Pu (dw (still d xs kn) (mx g) t e cf (xs.drop j) l M2 acc) Z) ?_ xs.length ⟨0,φ1,M1,#[],m,[],rfl,D1,st1,o1,c1,p⟩ (fun v=>rfl)
 rintro n st ⟨j,φ2,M2,ys,m,acc,hn,D2,st2,o2,c2,p⟩
 obtain ⟨k1,k2⟩:=nO (wP p)
 refine wpAny_mono (it.next hh D2.r k2 k1 st2 (by omega) fun o h' tk hk' hO=>?_) (fun uu uu1 q=>q) fun uu uu1 x=>x.elim
 obtain ⟨D3,tp3⟩:=aM.poke B D2 (tk:=tk) hk' n1 (.of F.r n1 D2.st.pre o2 (it.tup st2))
 have c3:=c2.kp hk' hDI hCI tp3
 unfold kh at hO
 cases q:xs[j]? with
 | none=>
  rw [q] at hO;cases hO
  have hj:=List.getElem?_eq_none_iff.mp q
  rw [List.drop_eq_nil_of_le hj] at p
  exact fin _ φ2 _ ys m (Pu.ite p).2 D3 (show j=xs.length by omega▸c3)
 | some x0=>
  rw [q] at hO
  obtain ⟨v,rfl,V3,st3⟩:=hO
  obtain ⟨hj,rfl⟩:=cv q
  rw [List.drop_eq_getElem_cons hj] at p
  refine wpAny_assign_Name (wpAny_storeName_local (env:=compEnvC sc' cl C env) (mH K.var) c3.hC (fun h4 hC4 hs4=>?_) (by rw [show (compEnvC sc' cl C env).scope.kind=.function from K.kind];rfl))
  have pk:nG hb φ2 h' C:=.of F.r nC D2.st.pre c3.oC (iT c3.hC)
  obtain ⟨D4,tp4⟩:=aM.poke B D3 (tk:=tk+1) (.of hs4) nC pk
  have st4:=it.other st3 (.of hs4) tp4 (Ne.symm hCI) pk
  have c4:CB C Ld j ys acc _ φ2 h4:=⟨let ⟨k,q⟩:=c3.hD;⟨k,(hs4.2 _ hDC).trans q⟩,c3.vD.mono (aJ _) tp4,c3.lD,c3.oD,hC4,c3.oC⟩
  have F4:Fr w hb (compEnvC sc' cl C env) (eE sc' x g) φ2 { st with heap:=h4,toks:=tk+1 } M2 (upd l (mx g) xs[j]):=
   ⟨D4.r,tK K q2 q3 (F.step D4).fr hC4 c3.oC (fz F.r nC) neC,Ab K S q2 q3 (F.step D4).lo hC4 (if_pos rfl) ((V3.mono (aJ _) tp3).mono (aJ _) tp4)⟩
  refine wpAny_mono (xz hT F4 ((Pu.ite p).2.bd.imp fun y p s5 φ5 D5=>?_)) (fun uu uu1 q=>q) fun uu uu1 x=>x.elim
  have D45:=D4.trans D5
  have st5:=it.step st4 o2 D4.r D5
  have c5:=c4.step D4.r D5
  obtain ⟨b,M5⟩:=y
  cases b with
  | false=>
   show ∃ m,m < n∧_
   exact ⟨n - 1,by omega,j+1,φ5,M5,ys,_,acc,by omega,D45,st5.1,st5.2,⟨c5.hD,c5.vD,Nat.le_succ_of_le c5.lD,c5.oD,c5.hC,c5.oC⟩,p⟩
  | true=>
   have p:Pu (bd (e cf (upd l (mx g) xs[j]) M5) fun u h=>dw (still d xs kn) (mx g) t e cf (xs.drop (j+1)) l h (acc++[u])) Z:=p
   refine wpAny_mono (hE (F4.step D5) (p.bd.imp fun y p u s6 φ6 D6 V6=>?_)) (fun uu uu1 q=>q) fun uu uu1 x=>x.elim
   have D46:=D45.trans D6
   have st6:=it.step st5.1 st5.2 D5.r D6
   have c6:=c5.step D5.r D6
   obtain ⟨k,hD6⟩:=c6.hD
   have hz6:=c6.vD.length
   rw [Array.length_toList] at hz6
   have hz7:=c6.lD
   refine call_meets slot_list_append ⟨_,hD6,rfl⟩ entry_list_append (PySem.F.args_list_append_2 _ _) (list_append Ld ys k u (by rw [sizeLine_eq];omega)) ⟨hD6,?_⟩
   have sb:=Heap.SameBut.update (h:=s6.heap) (a:=Ld) (f:=Obj.mapSeq (·.push u))
   have pk:nG hb φ6 s6.heap Ld:=.of F.r nD D46.st.pre c6.oD fun xs n e=>absurd (congrArg Obj.cls (Option.some.inj (hD6.symm.trans e))) (by simp)
   obtain ⟨D7,tp7⟩:=aM.poke B D46 (tk:=s6.toks) (.of sb) nD pk
   have hD7:=Heap.get?_update_self (Obj.mapSeq (·.push u)) hD6 rfl
   exact ⟨n - 1,by omega,j+1,φ6,_,ys.push u,_,acc++[y.1],by omega,D7,it.other st6.1 (.of sb) tp7 (Ne.symm hDI) pk,st6.2,⟨⟨_,hD7⟩,by rw [Array.toList_push];exact (c6.vD.mono (aJ _) tp7).append ⟨V6.mono (aJ _) tp7,trivial⟩,by rw [List.length_append];exact Nat.succ_le_succ hz7,c6.oD,c6.hC.sameBut sb (Ne.symm hDC),c6.oC⟩,p⟩
end
section
variable {e:X}{py pos spos:Pos}
theorem aM.adopt{p:Addr×Addr}{o:MO}(r:R w hb φ s.heap M)(x:aM w hb φ s M' φ' s')(m:jf w (φ'++[p]) s'.heap p o)(o1:¬ dm φ' p.1)(o2:¬ dm φ' p.2)(h1:s.heap.get? p.1=none)(h2:s.heap.get? p.2=none)(hm:p.1≠sysModules):aM w hb φ s (M'++[o]:List MO) (φ'++[p]) s':=by
 refine ⟨x.r.snoc m (fun n q hq=>?_) (fz r h1) (fz r h2) hm,⟨x.st.pre.trans (List.prefix_append _ _),x.st.keep,fun a o no=>?_,x.st.dicts⟩,x.os,x.gens⟩
 ·by_cases hz:n=0
  ·have a:=Eu r h1 x.st.pre _ (hz▸hq)
   have b:=Eu r h2 x.st.pre _ (hz▸hq)
   exact ⟨Ne.symm a.1,Ne.symm b.1,Ne.symm a.2,Ne.symm b.2⟩
  ·have a:=dm.at hz hq
   exact ⟨fun e=>o1 (e▸a.1),fun e=>o2 (e▸a.1),fun e=>o1 (e▸a.2),fun e=>o2 (e▸a.2)⟩
 ·rcases o.snoc x.r.ne with o|e|e
  ·exact x.st.fresh a o no
  ·exact e▸h1
  ·exact e▸h2
def IX(w:World)(hb:Heap)(φ:Phi)(s:Shared)(RR:Value→Addr→Result→Shared→Prop)(z:List D×H):Prop:=
 ∀ C Ld ys k m φ' s',aM w hb φ s z.2 φ' s'→s.heap.get? C=none→Ld≠C→¬ dm φ' C→s'.heap.Ns C m→s'.heap.get? Ld=some (gP ys k)→(∀ h',du s'.heap h'→h'.get? Ld=some (gP ys k)→∀ s'',s''.heap=h'→aM w hb φ s z.2 φ' s''→aM w hb φ s (z.2++[.lst z.1]:List MO) (φ'++[(Ld,Ld)]) s'')→RR (.ref Ld) C (.ok .next) s'
theorem oq{I:Addr}{d:D}{xs:List D}{kn:Nat}{St:Phi→Heap→Nat→Prop}(B:aI w hb)(hh:A.handled=none)(K:kj sc sc' x)(S:bF sc env)(F:Fr w hb env g φ s M l)(it:rN w hb I d kn xs St)(hlen:xs.length < 100000)
  (D1:aM w hb φ s M1 φ1 s1) (st1:St φ1 s1.heap 0) (n1:s.heap.get? I=none) (o1:¬ dm φ1 I)
  (q2:∀ y c,cl.lookup y=some c→env.cells.lookup y=some c) (q3:∀ y,(y,NameKind.free)∈sc'.names→(cl.lookup y).isSome=true)
  (hT:∀ C,rK w hb A (compEnvC sc' cl C env) (eE sc' x g) cf t ifs) (hE:∀ C,aB w hb A (compEnvC sc' cl C env) (eE sc' x g) cf e (eval elt (compEnvC sc' cl C env))) {RR:Value→Addr→Result→Shared→Prop}
  (p:Pu (dw (still d xs kn) (mx g) t e cf xs l M1 []) (IX w hb φ s RR)) :
  wpAny (model pw0 w) A (newList []) (fun acc s₃=>wpAny (model pw0 w) A (newFunctionEnv sc' env.globals cl [] env.qual none .none (some env)) (fun cenv s₄=>
   codeAny (model pw0 w) A (.compStart (.ListComp elt [⟨.Name x px,iter,ifs,0⟩] sc' pos) 0 (.ref I) acc { cenv with scope:=relabel sc' env }) (RR acc cenv.locals) s₄) bX s₃) bX s1:=by
 refine wpAny_newObj_type (wpAny_newFunctionEnv K.nocell (fun y hy=>absurd hy List.not_mem_nil) (fun h₁ hns hsb=>?_) K.kind)
 have DL:=D1.trans (.lay D1.r (gP #[] 0) s1.toks)
 obtain ⟨nD,oD,_⟩:=jV F.r D1.st D1.r
 obtain ⟨nC,oC,_⟩:=jV F.r DL.st DL.r
 have hz:(s1.heap.push (gP #[] 0)).objs.size=s1.heap.objs.size+1:=Heap.size_push ..
 obtain ⟨oI,hoI,_⟩:=it.obj st1
 have hI:=Heap.lt_size hoI
 have hbig:=D1.r.big
 have old3:∀ b o,(s1.heap.push (gP #[] 0)).get? b=some o→h₁.get? b=some o:=fun b o q=>(hsb.2 b (Nat.ne_of_lt (Heap.lt_size q))).trans (Heap.get?_push_of_some _ q)
 have old:∀ b o,s1.heap.get? b=some o→h₁.get? b=some o:=fun b o q=>old3 _ _ (Heap.get?_push_of_some _ q)
 have Dh:=D1.trans (.kept B D1.r (s1.toks+([]:List (Str×Value)).length) old)
 have st2:=it.move st1 (aJ _) (fun o q=>old _ _ q) (.keeps old) fun n a es j hp q=>.same (old _ _ q)
 have lp:=wO (pos:=pos) (px:=px) (iter:=iter) (RR:=RR (.ref s1.heap.objs.size) (s1.heap.push (gP #[] 0)).objs.size) B hh K S F it n1 nC nD (by rw [hz];exact Nat.ne_of_lt (Nat.lt_succ_self _)) (Nat.ne_of_gt hI) (by rw [hz];exact Nat.ne_of_gt (Nat.lt_succ_of_lt hI)) hlen q2 q3 (hT _) (hE _)
  (fun z φ' s' ys m f D c=>let ⟨k,q⟩:=c.hD;f _ _ ys k m φ' s' D nC (by rw [hz];exact Nat.ne_of_lt (Nat.lt_succ_self _)) c.oC c.hC q fun h' tp q' s'' e D'=>by
   subst e
   exact D'.adopt F.r ⟨rfl,cn c.lD hlen,ys,k,q',(c.vD.mono (aJ _) tp).mono (List.prefix_append _ _) fun uu uu1 uu2 z=>z⟩ c.oD c.oD nD nD (by show s1.heap.objs.size≠1;omega)) Dh st2 o1 ⟨⟨0,old3 _ _ (Heap.get?_push_size _ rfl)⟩,trivial,Nat.le_refl _,oD,hns,oC⟩ p
 exact codeAny_compStart_list lp (it.self hh st2 lp)
theorem qh(B:aI w hb)(hh:A.handled=none)(S:bF sc env)(hok:jb sc sc' x iter=true)(hi:rL w hb A env g cf it (eval iter env))
  (hT:∀ {env'},bF sc' env'→rK w hb A env' (eE sc' x g) cf t ifs) (hE:∀ {env'},bF sc' env'→aB w hb A env' (eE sc' x g) cf e (eval elt env')) :
  aB w hb A env g cf (aN (mx g) it t e) (eval (.ListComp elt [⟨.Name x px,iter,ifs,0⟩] sc' pos) env):=fun uu=>fun F p=>by
 obtain ⟨K,hset⟩:=zY hok
 obtain ⟨cl,c1,c2,c3⟩:=mG (env:=env) (sc':=sc') fun y hy=>F.fr.has y (mj S (K.free y hy))
 rw [eval_ListComp]
 refine wpAny_comprehension_free (use:=none) rfl (sd hset) c1 K.kind K.locs (hi F (p.bd.imp fun u p=>p.bind.imp fun xs p=>?_))
 obtain ⟨hl,p⟩:=Pu.ite p
 refine ⟨hl,fun I St s1 φ1 D1 it st1 n1 o1 uu=>oq B hh K S F it hl D1 st1 n1 o1 c2 c3 (fun C=>hT k5) (fun C=>hE k5) (RR:=fun acc C=>compPost (model pw0 w) A bX none _ acc C) (p.bd.imp fun z p C Ld ys k m φ2 s2 D2 nC ne oC hC hD ad=>?_)⟩
 refine ⟨m,hC,fun h' hs=>?_⟩
 obtain ⟨D3,tp3⟩:=aM.poke B D2 (tk:=s2.toks) (.of hs) nC (.of F.r nC D2.st.pre oC (iT hC))
 exact p _ _ _ (ad h' tp3 ((hs.2 _ ne).trans hD) _ rfl D3) (jJ D3.r _ (Ld,Ld))
theorem ku{i:Nat}(B:aI w hb)(hh:A.handled=none)(S:bF sc env)(G:ix g)(hy:look y g=some i)(hk:fH sc y=true)(hok:jb sc sc' x iter=true)(hi:rL w hb A env g cf it (eval iter env))
  (hT:∀ {env'},bF sc' env'→rK w hb A env' (eE sc' x g) cf t ifs) (hE:∀ {env'},bF sc' env'→aB w hb A env' (eE sc' x g) cf e (eval elt env'))
  (hsw:swapsWith (.ListComp elt [⟨.Name x px,iter,ifs,0⟩] sc' pos) (some (.Name y py)) spos.line env=pure true) :
  ct w hb A env g cf (ae i (aN (mx g) it t e)) (exec (.Assign [.Name y py] (.ListComp elt [⟨.Name x px,iter,ifs,0⟩] sc' pos) spos) env):=fun s=>fun {φ M l Q} F p=>by
 obtain ⟨K,hset⟩:=zY hok
 obtain ⟨cl,c1,c2,c3⟩:=mG (env:=env) (sc':=sc') fun y hy=>F.fr.has y (mj S (K.free y hy))
 rw [exec_Assign_Name_used _ _ _ _ hsw]
 refine wpAny_bind (wpAny_standAt (wpAny_bind ?_))
 show wpAny _ A (do let _ ←comprehension (.ListComp elt [⟨.Name x px,iter,ifs,0⟩] sc' pos) sc' env _ (newList []) false (eval iter env) (some (assign (.Name y py) env))) _ _ s
 refine wpAny_bind (wpAny_mono (wpAny_comprehension_free (use:=some (assign (.Name y py) env)) (Q:=fun uu s'=>Q .next s') (E:=bX) rfl (sd hset) c1 K.kind K.locs (hi F (p.bd.bd.imp fun u p=>p.bind.imp fun xs p=>?_))) (fun uu s' hq=>wpAny_pure (wpAny_pure hq)) fun uu uu1 e=>e)
 obtain ⟨hl,p⟩:=Pu.ite p
 refine ⟨hl,fun I St s1 φ1 D1 it st1 n1 o1 uu=>oq B hh K S F it hl D1 st1 n1 o1 c2 c3 (fun C=>hT k5) (fun C=>hE k5) (RR:=fun acc C=>compPost (model pw0 w) A bX (some (assign (.Name y py) env)) (fun uu s'=>Q .next s') acc C) (p.bd.imp fun z p C Ld ys k m φ2 s2 D2 nC ne oC hC hD ad=>?_)⟩
 have D4:=ad _ (fun uu uu1 uu2 e=>e) hD _ rfl D2
 have oC4:¬ dm (φ2++[(Ld,Ld)]) C:=fun o=>(o.snoc D2.r.ne).elim oC fun e=>e.elim (fun e=>ne e.symm) fun e=>ne e.symm
 show wpAny _ A (assign (.Name y py) env (.ref Ld)) _ _ _
 refine wpAny_assign_Name (gI (F.step D4) hy G (lE S hk) (jJ D2.r s2.heap (Ld,Ld)) fun s3 D5 L5=>?_)
 have a:=F.fr.apartI nC
 have hC5:s3.heap.Ns C m:=hC.at' fun o z=>D5.keep C o z oC4 a.1 a.2
 refine ⟨m,hC5,fun h' hs=>?_⟩
 have D45:=(D4.toS F.fr).trans D5
 obtain ⟨D6,_,L6⟩:=cK.poke (tk:=s3.toks) B F.fr D45 L5 (.of hs) nC (.of F.r nC D45.pre oC4 (iT hC5))
 exact p _ _ _ D6 L6 rfl
end
theorem rh(x:D)(l:List D):(pu x l).Perm (x::l):=by
 induction l with
 | nil=>exact .refl _
 | cons y r ih=>
  rw [pu]
  cases wj y x with
  | true=>exact (ih.cons y).trans (.swap x y r)
  | false=>exact .refl _
theorem hZ(l:List D):(gw l).Perm l:=by
 induction l with
 | nil=>exact .refl _
 | cons x l ih=>exact (rh x (gw l)).trans (ih.cons x)
structure Ft{K:Type}(enc:K→D):Prop where
 as:∀ {a b},wj (enc a) (enc b)=true→wj (enc b) (enc a)=false
 tr:∀ {a b c},wj (enc b) (enc a)=false→wj (enc c) (enc b)=false→wj (enc c) (enc a)=false
 anti:∀ {a b},wj (enc b) (enc a)=false→wj (enc a) (enc b)=false→a=b
abbrev Up(a b:D):Prop:=wj b a=false
theorem tf{K:Type}{enc:K→D}(O:Ft enc)(k:K){l:List D}(hS:∀ y∈l,∃ k,y=enc k)(h:l.Pairwise Up):(pu (enc k) l).Pairwise Up:=by
 induction l with
 | nil=>exact List.pairwise_singleton ..
 | cons y r ih=>
  obtain ⟨h1,h2⟩:=List.pairwise_cons.mp h
  obtain ⟨j,rfl⟩:=hS _ aw
  rw [pu]
  cases q:wj (enc j) (enc k) with
  | true=>
   refine List.pairwise_cons.mpr ⟨fun z hz=>?_,ih (fun z hz=>hS z (aE _ hz)) h2⟩
   exact (bo ((rh _ r).subset hz)).elim (fun e=>e▸O.as q) (h1 z)
  | false=>
   refine List.pairwise_cons.mpr ⟨fun z hz=>?_,h⟩
   refine (bo hz).elim (fun e=>e▸q) fun hz=>?_
   obtain ⟨i,rfl⟩:=hS z (aE _ hz)
   exact O.tr q (h1 _ hz)
theorem qe{K:Type}{enc:K→D}(O:Ft enc)(ks:List K):(gw (ks.map enc)).Pairwise Up:=by
 induction ks with
 | nil=>exact .nil
 | cons k ks ih=>exact tf O k (fun y hy=>let ⟨k,_,e⟩:=bR ((hZ _).subset hy);⟨k,e.symm⟩) ih
theorem AH{K:Type}{enc:K→D}(O:Ft enc){ks ks':List K}(p:ks'.Perm ks)(h:ks'.Pairwise fun a b=>Up (enc a) (enc b)):gw (ks.map enc)=ks'.map enc:=by
 refine List.Perm.eq_of_pairwise (fun a b ha hb x y=>?_) (qe O ks) (List.pairwise_map.mpr h) ((hZ _).trans (p.map enc).symm)
 obtain ⟨i,_,rfl⟩:=bR ((hZ _).subset ha)
 obtain ⟨j,_,rfl⟩:=bR hb
 exact congrArg enc (O.anti x y)
theorem AE{a b:Str}(h:a.cps.toList=b.cps.toList):a=b:=congrArg Str.mk (Array.toList_inj.mp h)
theorem EE{i j:Int}:wj (.int i) (.int j)=false↔j≤i:=decide_eq_false_iff_not.trans Int.not_lt
theorem Fp{a b:Str}:wj (.str a) (.str b)=false↔b.cps.toList≤a.cps.toList:=decide_eq_false_iff_not.trans List.not_lt
theorem Jo:Ft D.int:=⟨fun h=>EE.mpr (Int.le_of_lt (of_decide_eq_true h)),fun h k=>EE.mpr (Int.le_trans (EE.mp h) (EE.mp k)),fun h k=>Int.le_antisymm (EE.mp h) (EE.mp k)⟩
theorem FW:Ft D.str:=⟨fun h=>Fp.mpr (List.le_of_lt (of_decide_eq_true h)),fun h k=>Fp.mpr (List.le_trans (Fp.mp h) (Fp.mp k)),fun h k=>AE (List.le_antisymm (Fp.mp h) (Fp.mp k))⟩
theorem wn(a b:List Nat):PySem.Spec.ltCps a b=decide (a < b):=by
 induction a generalizing b with
 | nil=>cases b<;>simp [PySem.Spec.ltCps]
 | cons a r ih=>
  cases b with
  | nil=>simp [PySem.Spec.ltCps]
  | cons b t=>
   rw [PySem.Spec.ltCps,ih]
   by_cases h:a < b
   ·simp [h,List.cons_lt_cons_iff]
   ·by_cases h2:a=b<;>simp [h,h2,List.cons_lt_cons_iff]
theorem sr{p:Str}{l:List Str}(h:risingS p l=true):(p::l).Pairwise fun a b=>Up (.str a) (.str b):=by
 induction l generalizing p with
 | nil=>exact List.pairwise_singleton ..
 | cons x r ih=>
  obtain ⟨h1,h2⟩:=aG h
  have ih:=ih h2
  rw [wn,Bool.not_eq_true'] at h1
  refine List.pairwise_cons.mpr ⟨fun y hy=>?_,ih⟩
  exact (bo hy).elim (fun e=>e▸h1) fun hy=>FW.tr h1 ((List.pairwise_cons.mp ih).1 y hy)
theorem qd{l:List Str}(h:sortedS l=true):l.Pairwise fun a b=>Up (.str a) (.str b):=by
 cases l with
 | nil=>exact .nil
 | cons x r=>exact sr h
theorem F2.of{α β:Type}{R:α→β→Prop}{l:List α}{m:List β}(hl:l.length=m.length)(h:∀ (j:Nat) a b,l[j]?=some a→m[j]?=some b→R a b):F2 R l m:=by
 induction l generalizing m with
 | nil=>cases m with
  | nil=>trivial
  | cons=>cases hl
 | cons a l ih=>cases m with
  | nil=>cases hl
  | cons b m=>exact ⟨h 0 a b rfl rfl,ih (Nat.succ.inj hl) fun j a b p q=>h (j+1) a b p q⟩
section
variable {l:List (D×D)}
theorem Cg{ns:List Int}(e:Vs φ h vs (ns.map .int)):IntsAre vs ns:=by
 induction ns generalizing vs with
 | nil=>cases vs with
  | nil=>exact .nil
  | cons=>exact e.elim
 | cons n ns ih=>cases vs with
  | nil=>exact e.elim
  | cons v vs=>obtain ⟨⟨t,rfl⟩,e⟩:=e;exact .cons n t (ih e)
theorem uP{ns:List Int}(e:IntsAre vs ns):Vs φ h vs (ns.map .int):=by
 induction e with
 | nil=>trivial
 | cons n t _ ih=>exact ⟨.int n t,ih⟩
theorem AD{ns:List Str}(e:Vs φ h vs (ns.map .str)):StrsAre vs ns∧∀ x∈ns,x.cps.size≤cx:=by
 induction ns generalizing vs with
 | nil=>cases vs with
  | nil=>exact ⟨.nil,fun x h=>absurd h List.not_mem_nil⟩
  | cons=>exact e.elim
 | cons n ns ih=>cases vs with
  | nil=>exact e.elim
  | cons v vs=>obtain ⟨⟨t,rfl,z⟩,e⟩:=e;exact ⟨.cons n t (ih e).1,fun x hx=>(bo hx).elim (fun q=>q▸z) ((ih e).2 x)⟩
theorem AC{ns:List Str}(e:StrsAre vs ns)(hz:∀ x∈ns,x.cps.size≤cx):Vs φ h vs (ns.map .str):=by
 induction e with
 | nil=>trivial
 | cons n t _ ih=>exact ⟨.str (hz n aw),ih fun x hx=>hz x (aE _ hx)⟩
def Kh{K:Type}(enc:K→D):Prop:=∀ {w:World} {A:Around} {E:Value→Shared→Prop} {s:Shared} {φ:Phi} {h:Heap} {vs:List Value} {ks:List K} {a:Addr} {n:Nat} {P:PySem.Fin→Shared→Prop},Vs φ h vs (ks.map enc)→vs.length < 64→s.heap.get? a=some (seqObj "list" vs.toArray n)→
 (∀ (out:Array Value) (ks':List K),(∀ φ h,Vs φ h out.toList (ks'.map enc))→ks'.Perm ks→(ks'.Pairwise fun a b=>Up (enc a) (enc b))→P (.done (.ret .none)) { s with heap:=sortedHeap s.heap a vs out })→wpAny (model pw0 w) A (Builtin.«list.sort» ⟨[.ref a],[]⟩) P E s
theorem Jh:Kh D.int:=fun hv h64 ho k=>list_sort_tree ho (Cg hv) h64 fun out ns' a1 a2 a3=>k out ns' (fun uu uu1=>uP a1) a2 (a3.imp fun q=>EE.mpr q)
theorem Jg:Kh D.str:=fun hv h64 ho k=>by
 obtain ⟨hS,hz⟩:=AD hv
 refine list_sort_treeK strKind_oneLt ho hS.keysOf (fun v₁ v₂ rest e=>keyKind_strs (e▸hS)) h64 fun st' hp hs=>?_
 obtain ⟨ss',a1,a2,a3⟩:=sorted_out_str hS hp hs
 exact k _ ss' (fun uu uu1=>AC a1 fun x hx=>hz x (a2.subset hx)) a2 (qd a3)
theorem aM.grow(B:aI w hb)(r:R w hb φ s.heap M){D:Addr}{x:MO}(t:Nat)(hk:∀ b o,s.heap.get? b=some o→h'.get? b=some o)(hD:s.heap.get? D=none)(hm:D≠sysModules)(m:jf w (φ++[(D,D)]) h' (D,D) x):aM w hb φ s (M++[x]:List MO) (φ++[(D,D)]) { s with heap:=h',toks:=t }:=
 (aM.kept B r t hk).adopt r m (r.none_free hD) (r.none_free hD) hD hD hm
theorem nP{K:Type}[DecidableEq K]{knd:KeyKind pw0 w K}{enc:K→D}(X:fq knd enc n)(O:Ft enc)(S:Kh enc)(B:aI w hb)(hh:A.handled=none)(r:R w hb φ s.heap M)(hm:(p.1==sysModules)=false)(m:jf w φ s.heap p (.dct l))(hn:cW n l=true)(h64:l.length < 64)
  (k:Kv w hb φ s Q (.ref M.length,(M++[.lst (gw (l.map (·.1)))]:List MO))):wpAny (model pw0 w) A (call (.builtin "sorted") [.ref p.1]) Q bX s:=by
 obtain ⟨kvs,hd,hk⟩:=m.toKvs X hn
 obtain ⟨_,_,_,es,_,_,he⟩:=m
 have hlen:=hk.length
 obtain ⟨ep,hat⟩:=hd.dictAt
 refine Calls.call_function_entry kind_sorted plain_sorted entry_sorted (args_sorted1 _) ?_
 unfold Builtin.«sorted»
 refine wpAny_bind (m:=checkCount "sorted" 1 1 _) (wpAny_pure ?_)
 refine wpAny_bind (kdu_collect (A:=A.in1) (kdl_dict hm) hh hat (by rw [sizeLine_eq];omega) fun h' tk acc hkp hacc=>?_)
 have hz:acc.toList.length=kvs.length:=by rw [Array.length_toList];exact hacc.1
 refine wpAny_bind (wpAny_newList ?_ (by rw [sizeLine_eq];omega))
 have hV:Vs φ s.heap acc.toList ((kvs.map (·.1)).map enc):=.of (by rw [List.length_map,List.length_map];exact hz) fun j v d hv hd=>by
  obtain ⟨k,x,hx,hkk⟩:=hacc.2 j v (by rw [←Array.getElem?_toList];exact hv)
  rw [List.getElem?_map,List.getElem?_map,hx] at hd
  cases hd
  obtain ⟨d',hd'⟩:=kY hk (List.mem_of_getElem? hx)
  exact X.of hkk fun x q=>de.sizes he (q▸hd')
 have g0:(h'.push (gP acc.toList.toArray 0)).get? h'.objs.size=some (seqObj "list" acc.toList.toArray 0):=Heap.get?_push_size _ rfl
 refine wpAny_bind (wpAny_holding (wpAny_call_entry slot_list_sort ⟨_,g0,rfl⟩ entry_list_sort (S hV (by omega) g0 fun out ks' a1 a2 a3=>⟨_,rfl,?_⟩) (args_list_sort _)))
 refine wpAny_pure ⟨_,rfl,?_⟩
 obtain ⟨e,ge⟩:=sortedHeap_at (out:=out) g0
 have hsz:h'.objs.size < (h'.push (gP acc.toList.toArray 0)).objs.size:=by rw [Heap.size_push];exact Nat.lt_succ_self _
 have hk2:∀ b o,s.heap.get? b=some o→(sortedHeap (h'.push (gP acc.toList.toArray 0)) h'.objs.size acc.toList out).get? b=some o:=fun b o hb=>by
  have hlt:=Heap.lt_size (hkp b o hb)
  rw [sortedHeap_old (Nat.ne_of_lt hlt) (Nat.lt_trans hlt hsz)]
  exact Heap.get?_push_of_some _ (hkp b o hb)
 have hD:s.heap.get? h'.objs.size=none:=by
  cases q:s.heap.get? h'.objs.size with
  | none=>rfl
  | some o=>exact (aD (hkp _ _ q) (da _)).elim
 refine k _ _ _ (aM.grow B r tk hk2 hD (Nat.ne_of_gt (vc (B.keeps fun b o e=>hkp b o (r.base b o e)))) ⟨rfl,?_,out,e,ge,?_⟩) (jJ r _ _)
 ·rw [(hZ _).length_eq,List.length_map];omega
 ·rw [hk.keys,AH O a2 a3]
  exact a1 _ _
abbrev DS(w:World)(hb:Heap)(A:Around)(b:BI):Prop:=DT w hb A (KN b) fun u=>call (mI b) [u]
theorem vZ(B:aI w hb)(hh:A.handled=none):DS w hb A .sorted:=fun r hV p=>hV.onR p fun n a hp p=>by
 obtain ⟨l,ho,p⟩:=Pu.onD p
 obtain ⟨hc,p⟩:=Pu.ite p
 obtain ⟨hf,h64⟩:=aG hc
 have m:=r.obj _ _ _ hp ho
 rcases (Bool.or_eq_true _ _).mp hf with q|q
 ·exact nP (tF w) Jo Jh B hh r (r.notMods hp) m q (of_decide_eq_true h64) p
 ·exact nP (jE w) FW Jg B hh r (r.notMods hp) m q (of_decide_eq_true h64) p
theorem Bi(B:aI w hb):DS w hb A .dict:=fun {s φ M d u Q} r hV p=>hV.onR p fun n a hp p=>by
 obtain ⟨l,ho,p⟩:=Pu.onD p
 obtain ⟨hc,p⟩:=Pu.ite p
 have m:=r.obj _ _ _ hp ho
 obtain ⟨kvs,hd,hk⟩:=m.toKvs (jE w) hc
 obtain ⟨_,hl,_,es,_,_,he⟩:=m
 refine kt_call_dict (r.notMods hp) hd (by rw [sizeLine_eq,hk.length];omega) fun h' hm hs=>?_
 have hk2:∀ b o,s.heap.get? b=some o→h'.get? b=some o:=fun b o e=>(hs.2 b (Nat.ne_of_lt (Heap.lt_size e))).trans (Heap.get?_push_of_some _ e)
 refine p _ _ _ (aM.grow B r s.toks hk2 (da _) (Nat.ne_of_gt r.big) (.of_kvs (jE w) hm (hk.move (List.prefix_append _ _) (.keeps hk2)) (fun q hq x e=>?_) hl)) (jJ r _ _)
 obtain ⟨d',hd'⟩:=kY hk hq
 exact de.sizes he (e▸hd')
end
section
variable {l:List D}{z:α→Prop}
@[elab_as_elim] theorem F2.on1 {f:D→Option α} (hV:Vs φ h vs ds) (q:Pu (on1 ds f) z) {G:List Value→Prop} (k:∀ x v,V φ h v x→Pu (f x) z→G [v]):G vs:=by
 refine q.on1 (G:=fun ds=>Vs φ h vs ds→G vs) (fun x q hV=>?_) hV
 rcases vs with _|⟨v,_|⟨u,r⟩⟩
 ·exact hV.elim
 ·exact k x v hV.1 q
 ·exact hV.2.elim
@[elab_as_elim] theorem F2.on2 {f:D→D→Option α} (hV:Vs φ h vs ds) (q:Pu (on2 ds f) z) {G:List Value→Prop} (k:∀ x y v u,V φ h v x→V φ h u y→Pu (f x y) z→G [v,u]):G vs:=by
 refine q.on2 (G:=fun ds=>Vs φ h vs ds→G vs) (fun x y q hV=>?_) hV
 rcases vs with _|⟨v,_|⟨u,_|⟨t,r⟩⟩⟩
 ·exact hV.elim
 ·exact hV.2.elim
 ·exact k x y v u hV.1 hV.2.1 q
 ·exact hV.2.2.elim
theorem Vs.size{xs:Array Value}(e:Vs φ h xs.toList l):xs.size=l.length:=F2.length e
theorem Ek:DS w hb A .len:=fun {s φ M d u Q} r hV p=>by
 have fin:∀ {m n:Nat} (k:Tok) (t:Nat),Pu (some (.int m,M)) (Kv w hb φ s Q)→n=m→Q (.int n k) { s with toks:=t }:=fun k t p e=>p _ _ φ (.tok r t) (e▸.int _ _)
 cases d with
 | tup l=>exact hV.tup_ fun a xs n ho hl hi=>len_tuple ⟨_,ho,rfl,_,rfl⟩ (by rw [Vs.size hi];omega) (fin _ _ p (Vs.size hi))
 | str x=>exact hV.str_ fun t hx=>P.len_str (by have:x.length=x.cps.size:=rfl;unfold cx at hx;omega) (fin _ _ p rfl)
 | ref n=>
  refine hV.ref_ fun a hp=>?_
  have p:Pu (match (M:List MO)[n]? with|some (.lst l)=>some (.int l.length,M)|some (.dct l)=>if fE l then some (.int l.length,M) else none|_=>none) (Kv w hb φ s Q):=p
  cases ho:(M:List MO)[n]? with
  | none=>rw [ho] at p;exact p.elim
  | some o=>
   rw [ho] at p
   cases o with
   | lst l=>exact r.lst hp ho fun xs m uu hq hi hl=>Calls.call_len_list ⟨_,hq,rfl,_,rfl⟩ (by rw [Vs.size hi];omega) (fin _ _ p (Vs.size hi))
   | dct l=>
    obtain ⟨hf,p⟩:=Pu.ite p
    exact uH r hp ho hf (fun kvs hd hk hz=>call_len_dict (r.notMods hp) hd (by omega) (fin _ _ p hk.length)) fun kvs hd hk hz=>call_len_dict (r.notMods hp) hd (by omega) (fin _ _ p hk.length)
   | ins C l=>exact p.elim
 | _=>exact p.elim
theorem yA(B:aI w hb):DS w hb A .tuple:=fun {s φ M d u Q} r hV p=>by
 cases d with
 | tup l=>exact hV.tup_ fun a xs n ho hl hi=>call_tuple_same ⟨_,ho,rfl,_,rfl⟩ (p _ _ φ (.refl r) (.tup ho hl hi))
 | ref n=>
  refine hV.ref_ fun a hp=>?_
  obtain ⟨l,ho,p⟩:=Pu.onL p
  refine r.lst hp ho fun xs m uu hq hi hl=>call_tuple_list ⟨_,hq,rfl,_,rfl⟩ (fun h' hk=>?_) (by rw [sizeLine_eq,Vs.size hi];omega)
  have D1:=aM.kept (s:=s) (h':=h') B r s.toks hk
  exact p _ _ φ (D1.trans (.lay D1.r _ _)) (kg (h:=h') (F2.mono hi (aJ _) (.keeps hk)) hl)
 | _=>exact p.elim
theorem Eg:DS w hb A .str:=fun r hV p=>hV.onI p fun i t p=>by
 obtain ⟨hc,p⟩:=Pu.ite p
 obtain ⟨h1,h2⟩:=aG hc
 have h1:-(2 ^ 62)≤i∧i < 2 ^ 62:=of_decide_eq_true h1
 refine P.str_of_int ?_ (p _ _ _ (.tok r _) (.str (Nat.le_trans (of_decide_eq_true h2) (by decide))))
 by_cases h0:i.natAbs=0
 ·rw [h0];decide
 ·exact Nat.lt_of_lt_of_le ((Nat.log2_lt h0).mpr (show i.natAbs < 2 ^ 63 by omega)) (by decide)
theorem Em:DS w hb A .int:=fun r hV p=>hV.onS p fun x t hx p=>by
 obtain ⟨hc,p⟩:=Pu.ite p
 obtain ⟨n,q,p⟩:=p.map.eq
 exact KIN.call_text q (Nat.le_trans hc (by decide)) (p _ _ _ (.tok r _) (.int _ _))
theorem wW{α:Type}(l:List α)(f:α→Bool)(d:α):(List.range l.length).all (fun i=>f (l.getD i d))=l.all f:=by
 rw [Bool.eq_iff_iff,List.all_eq_true,List.all_eq_true]
 refine ⟨fun h x hx=>?_,fun h i hi=>?_⟩
 ·obtain ⟨i,hi⟩:=List.mem_iff_getElem?.mp hx
  have:=h i (List.mem_range.mpr (cv hi).1)
  rw [List.getD_eq_getElem?_getD,hi] at this
  exact this
 ·rw [List.getD_eq_getElem?_getD,List.getElem?_eq_getElem (List.mem_range.mp hi)]
  exact h _ (List.getElem_mem _)
theorem Et(B:aI w hb)(hh:A.handled=none):DS w hb A .all:=fun {s φ M d u Q} r hV p=>hV.onR p fun n a hp p=>by
 obtain ⟨l,ho,p⟩:=Pu.onL p
 obtain ⟨hc,p⟩:=Pu.ite p
 refine r.lst hp ho fun ys m uu hq hi hl=>call_all_walk (wpAny_pyIter_list ⟨_,hq,rfl,_,rfl⟩ ?_)
 have ne:=Nat.ne_of_lt (Heap.lt_size hq)
 refine ⟨s.heap.objs.size,_,_,ys.size,_,_,fun i=>tL (l.getD i .none),rfl,Walks.list (A:=A.in1) hh _ a.1 ne ys,⟨⟨_,Heap.get?_push_size _ rfl,rfl,rfl⟩,_,Heap.get?_push_of_some _ hq,rfl,_,rfl⟩,fun i v s1 Q1 E1 hv hq1=>?_,fun h' tk hk=>?_⟩
 ·have hil:=(Array.getElem?_eq_some_iff.mp hv).1
  rw [Vs.size hi] at hil
  obtain ⟨u,hu1,hu⟩:=F2.get hi (List.getElem?_eq_getElem hil)
  rw [Array.getElem?_toList,hv] at hu1
  cases hu1
  have:=db hc l[i] (List.getElem_mem _)
  dsimp only at hq1
  rw [List.getD_eq_getElem?_getD,List.getElem?_eq_getElem hil] at hq1
  generalize l[i]=x at hu this hq1
  cases x with
  | bool b=>cases hu;exact wpAny_truthy_bool hq1
  | _=>exact gW this
 ·rw [Vs.size hi,wW l tL .none]
  exact p _ _ φ (.kept B r tk fun b o e=>hk b o (fun z=>Nat.ne_of_lt (Heap.lt_size e) (cV z)) (Heap.get?_push_of_some _ e)) (.bool _)
theorem An{f:Int→Int→Bool}{ns:List Int}{k:Nat}(h:k < ns.length):argBest (fun i j=>f (ns.getD i 0) (ns.getD j 0)) k < ns.length∧ns.getD (argBest (fun i j=>f (ns.getD i 0) (ns.getD j 0)) k) 0=((ns.drop 1).take k).foldl (fun m x=>if f x m then x else m) (ns.getD 0 0):=by
 induction k with
 | zero=>exact ⟨h,rfl⟩
 | succ k ih=>
  obtain ⟨h1,h2⟩:=ih (Nat.lt_of_succ_lt h)
  have hk:((ns.drop 1).take (k+1))=(ns.drop 1).take k++[ns.getD (k+1) 0]:=by
   rw [List.take_add_one,List.getElem?_drop,List.getD_eq_getElem?_getD,Nat.add_comm 1 k,List.getElem?_eq_getElem h]
   rfl
  rw [argBest,hk,List.foldl_append,←h2]
  show (if _ then _ else _) < _∧_=if _ then _ else _
  by_cases q:f (ns.getD (k+1) 0) (ns.getD (argBest (fun i j=>f (ns.getD i 0) (ns.getD j 0)) k) 0)=true
  ·rw [if_pos q,if_pos q];exact ⟨h,rfl⟩
  ·rw [if_neg q,if_neg q];exact ⟨h1,rfl⟩
theorem Vs.ints{xs:Array Value}(e:Vs φ h xs.toList l)(hi:lf l=true){i:Nat}{v:Value}(hv:xs[i]?=some v):∃ t,v=.int ((l.map eg).getD i 0) t:=by
 have hil:=(Array.getElem?_eq_some_iff.mp hv).1
 rw [Vs.size e] at hil
 obtain ⟨u,h1,h2⟩:=F2.get e (List.getElem?_eq_getElem hil)
 rw [Array.getElem?_toList,hv] at h1
 cases h1
 have:=db hi l[i] (List.getElem_mem _)
 rw [List.getD_eq_getElem?_getD,List.getElem?_map,List.getElem?_eq_getElem hil]
 generalize l[i]=x at h2 this
 cases x with
 | int i=>exact h2
 | _=>exact gW this
abbrev I0(w:World)(A:Around)(op:CmpOp)(x:Value)(Q E:Value→Shared→Prop)(s:Shared):Prop:=wpAny (model pw0 w) A.in1 (pyIter x) (fun it s₂=>∃ I fp wr n P St bt,it=.ref I∧Walks pw0 w A.in1 I fp wr n P St∧St 0 s₂.heap∧(∀ b∈fp,b < s₂.heap.objs.size)∧0 < n∧CmpOf pw0 w A.in1 op P bt∧
   ∀ v h' tk,P (argBest bt (n - 1)) v→(∀ b o,b∉wr→s₂.heap.get? b=some o→h'.get? b=some o)→Q v { s₂ with heap:=h',toks:=tk }) E s
theorem uq{f:Int→Int→Bool}{op:CmpOp}{id:String}(B:aI w hb)(hh:A.handled=none)(cmp:∀ {P:Nat→Value→Prop} (val:Nat→Int),(∀ i v,P i v→∃ t,v=.int (val i) t)→CmpOf pw0 w A.in1 op P fun i j=>f (val i) (val j))
  (walk:∀ {x Q E s},I0 w A op x Q E s→wpAny (model pw0 w) A (call (.builtin id) [x]) Q E s):DT w hb A (fun d h=>onR d fun n=>onL (h:List MO)[n]? fun l=>CN f l h) fun u=>call (.builtin id) [u]:=fun {s φ M d u Q} r hV p=>hV.onR p fun n a hp p=>by
 obtain ⟨l,ho,p⟩:=Pu.onL p
 obtain ⟨hc,p⟩:=Pu.ite p
 obtain ⟨h1,h2⟩:=aG hc
 cases l with
 | nil=>cases h2
 | cons x l=>
  refine r.lst hp ho fun ys m uu hq hi hl=>walk (wpAny_pyIter_list ⟨_,hq,rfl,_,rfl⟩ ?_)
  have hlt:=Heap.lt_size hq
  have hz:ys.size=l.length+1:=Vs.size hi
  refine ⟨s.heap.objs.size,_,_,ys.size,_,_,fun i j=>f (((x::l).map eg).getD i 0) (((x::l).map eg).getD j 0),rfl,Walks.list (A:=A.in1) hh _ a.1 (Nat.ne_of_lt hlt) ys,⟨⟨_,Heap.get?_push_size _ rfl,rfl,rfl⟩,_,Heap.get?_push_of_some _ hq,rfl,_,rfl⟩,fun b hb'=>?_,by omega,cmp _ fun i v hv=>Vs.ints hi h1 hv,fun v h' tk hv hk=>?_⟩
  ·rw [Heap.size_push]
   rcases bo hb' with rfl|hb'
   ·exact Nat.lt_succ_self _
   ·cases cV hb';exact Nat.lt_succ_of_lt hlt
  ·obtain ⟨t,rfl⟩:=Vs.ints hi h1 hv
   rw [(An (by rw [List.length_map];show _ < l.length+1;omega)).2]
   have e2:(((x::l).map eg).drop 1).take (ys.size - 1)=l.map eg:=List.take_of_length_le (by rw [hz];exact Nat.le_of_eq (List.length_map _))
   rw [e2,List.foldl_map]
   exact p _ _ φ (.kept B r tk fun b o e=>hk b o (fun z=>Nat.ne_of_lt (Heap.lt_size e) (cV z)) (Heap.get?_push_of_some _ e)) (.int _ _)
theorem FY(B:aI w hb)(hh:A.handled=none){b:BI}(hb':b≠.range):DS w hb A b:=by
 cases b with
 | range=>exact absurd rfl hb'
 | len=>exact Ek
 | sorted=>exact vZ B hh
 | tuple=>exact yA B
 | all=>exact Et B hh
 | max=>exact uq B hh CmpOf.ints_gt call_max_walk
 | min=>exact uq B hh CmpOf.ints_lt call_min_walk
 | str=>exact Eg
 | int=>exact Em
 | dict=>exact Bi B
end
section
variable {l:List D}
def Fk(w:World)(hb:Heap)(A:Around)(b:BM)(id:String):Prop:=
 ∀ {s φ M o ds u vs Q},R w hb φ s.heap M→V φ s.heap u o→Vs φ s.heap vs ds→Pu (bm b o ds M) (Kv w hb φ s Q)→wpAny (model pw0 w) A (call (.builtin id) (u::vs)) Q bX s
theorem I2{b:BM}{id:String}{f:List D→List D→H→Nat→Option (D×H)}(e:∀ (a:Nat) ds M,(if (a==0)=true then none else onL (M:List MO)[a]? fun l=>f l ds M a)=bm b (.ref a) ds M)
  (k:∀ {s φ M n a l ys m ds vs Q},R w hb φ s.heap M→n≠0→φ[n]?=some a→a.2=a.1→s.heap.get? a.1=some (gP ys m)→Vs φ s.heap ys.toList l→l.length < 100000→ys.size=l.length→Vs φ s.heap vs ds→Pu (f l ds M n) (Kv w hb φ s Q)→wpAny (model pw0 w) A (call (.builtin id) (.ref a.1::vs)) Q bX s):Fk w hb A b id:=fun {s φ M o ds u vs Q} r hu hV p=>by
 refine hu.onR (f:=fun n=>bm b (.ref n) ds M) (show Pu (onR o _) _ by cases o<;>exact p) fun n a hp p=>?_
 rw [←e] at p
 obtain ⟨hn,p⟩:=Pu.ite' p
 obtain ⟨l,ho,p⟩:=Pu.onL p
 exact r.lst hp ho fun ys m e2 hq hi hl=>k r (fun z=>hn (beq_iff_eq.mpr z)) hp e2 hq hi hl (Vs.size hi) hV p
theorem wa:Fk w hb A .append "list.append":=I2 (f:=fun l ds M n=>on1 ds fun x=>if l.length+1 < 100000 then some (.none,M.set n (.lst (l++[x]))) else none) (fun uu uu1 uu2=>rfl) fun {s φ M n a l ys m ds vs Q} r hn hp e2 hq hi hl hz hV p=>hV.on1 p fun x v V1 p=>by
 obtain ⟨hc,p⟩:=Pu.ite p
 refine call_meets slot_list_append ⟨_,hq,rfl⟩ entry_list_append (F.args_list_append_2 _ _) (list_append a.1 ys m v (by rw [sizeLine_eq];omega)) ⟨hq,p _ _ φ (gU (t:=s.toks) r hn hp e2 hq (fun h' ht=>?_) (by rw [List.length_append];exact hc)) .none⟩
 rw [Array.toList_push]
 exact (F2.mono hi (aJ _) ht).append ⟨V1.mono (aJ _) ht,trivial⟩
theorem v9:Fk w hb A .extend "list.extend":=I2 (f:=fun l ds M n=>on1 ds fun x=>onT x fun r=>if l.length+r.length < 100000 then some (.none,M.set n (.lst (l++r))) else none) (fun uu uu1 uu2=>rfl) fun {s φ M n a l ys m ds vs Q} r hn hp e2 hq hi hl hz hV p=>hV.on1 p fun x v V1 p=>V1.onT p fun r2 V1 p=>V1.tup_ fun b ys2 k2 hq2 hl2 hi2=>by
 obtain ⟨hc,p⟩:=Pu.ite p
 have hz2:=Vs.size hi2
 have hno:¬(!ys.isEmpty && Builtin.List.listTooLong (ys.size+ys2.size))=true:=by
  have:Builtin.List.listTooLong (ys.size+ys2.size)=false:=by
   unfold Builtin.List.listTooLong
   rw [sizeLine_eq];simp;omega
  rw [this,Bool.and_false];exact Bool.false_ne_true
 refine call_meets F.slot_list_extend ⟨_,hq,rfl⟩ F.entry_list_extend (F.args_list_extend_2 _ _) (AutoSeq1.list_extend_list_tuple_0 a.1 ys m b ys2 k2 hno (by rw [sizeLine_eq];omega) (by rw [sizeLine_eq];omega)) ⟨hq,hq2,p _ _ φ (gU (t:=s.toks) r hn hp e2 hq (fun h' ht=>?_) (by rw [List.length_append];exact hc)) .none⟩
 rw [Array.toList_append]
 exact (F2.mono hi (aJ _) ht).append (F2.mono hi2 (aJ _) ht)
theorem v7:Fk w hb A .insert "list.insert":=I2 (f:=fun l ds M n=>on2 ds fun i x=>onI i fun i=>if 0≤i && decide (i≤l.length) && decide (l.length+1 < 100000) then some (.none,M.set n (.lst (l.take i.toNat++x::l.drop i.toNat))) else none) (fun uu uu1 uu2=>rfl) fun {s φ M n a l ys m ds vs Q} r hn hp e2 hq hi hl hz hV p=>hV.on2 p fun x y v u V1 V2 p=>V1.onI p fun i t p=>by
 obtain ⟨hc,p⟩:=Pu.ite p
 obtain ⟨hc,c2⟩:=aG hc
 obtain ⟨c0,c1⟩:=aG hc
 have c0:=of_decide_eq_true c0
 have c1:=of_decide_eq_true c1
 have hk:=Int.toNat_le.mpr c1
 have hfit:¬(!Builtin.List.listFitsIndex i)=true:=by
  unfold Builtin.List.listFitsIndex
  simp;exact GO c0 c1 hl
 refine call_meets F.slot_list_insert ⟨_,hq,rfl⟩ F.entry_list_insert (F.args_list_insert_3 _ _ _) (AutoSeq1.list_insert_list_int_val_1 a.1 ys m i t u hfit (by rw [sizeLine_eq,hz];exact Nat.le_trans (Nat.le_of_lt hl) (by decide))) ⟨hq,p _ _ φ (gU (t:=s.toks) r hn hp e2 hq (fun h' ht=>?_) (by simp;rw [zh hk];exact of_decide_eq_true c2)) .none⟩
 have e1:(if i < 0 then (i+(ys.size:Int)).toNat else min i.toNat ys.size)=i.toNat:=by rw [if_neg (Int.not_lt.mpr c0)];exact Nat.min_eq_left (hz▸hk)
 rw [e1,show ((ys.extract 0 i.toNat).push u++ys.extract i.toNat).toList=ys.toList.take i.toNat++u::ys.toList.drop i.toNat by simp;exact List.take_of_length_le (by simp)]
 have hi':=F2.mono hi (aJ φ) ht
 exact (hi'.take _).append ⟨V2.mono (aJ _) ht,hi'.drop _⟩
theorem Eh:Fk w hb A .pop "list.pop":=I2 (f:=fun l ds M n=>if ds.isEmpty then (l.getLast?).map fun d=>(d,M.set n (.lst l.dropLast)) else none) (fun uu uu1 uu2=>rfl) fun {s φ M n a l ys m ds vs Q} r hn hp e2 hq hi hl hz hV p=>by
 obtain ⟨hc,p⟩:=Pu.ite p
 cases List.isEmpty_iff.mp hc
 cases vs with
 | cons=>exact hV.elim
 | nil=>
  obtain ⟨x,q,p⟩:=p.map.eq
  rw [List.getLast?_eq_getElem?] at q
  obtain ⟨y,hy,hV⟩:=F2.get hi q
  refine call_meets F.slot_list_pop ⟨_,hq,rfl⟩ F.entry_list_pop (F.args_list_pop_1 _) (MeetsSeq.list_pop_last a.1 ys m y (by rw [←Array.getElem?_toList,hz];exact hy) (by rw [sizeLine_eq,hz];exact Fe hl)) ⟨hq,p _ _ φ (gU (t:=s.toks) r hn hp e2 hq (fun h' ht=>?_) (by rw [List.length_dropLast];exact cn (Nat.sub_le _ _) hl)) (hV.mono (aJ _) (r.tups hn hp fun b q uu=>(Heap.SameBut.update _ _ _).2 b q))⟩
  rw [show (ys.eraseIdxIfInBounds (ys.size - 1)).toList=ys.toList.dropLast by obtain ⟨its⟩:=ys;rw [List.eraseIdxIfInBounds_toArray];exact List.eraseIdx_length_sub_one,List.dropLast_eq_take,List.dropLast_eq_take,F2.length hi]
  exact (F2.mono hi (aJ _) ht).take _
theorem zD{k d:D}{l:List (D×D)}{vk vd:Value}(hu:A.units+10 < cLine)(r:R w hb φ s.heap M)(hp:φ[n]?=some p)(ho:(M:List MO)[n]?=some (.dct l))(hk:V φ s.heap vk k)(hd:V φ s.heap vd d)(z:Pu (oa k d l M) (Kv w hb φ s Q)){one:Bool}(h1:one=true→vd=.none):
  wpAny (model pw0 w) A (call (.builtin "dict.get") (if one then [.ref p.1,vk] else [.ref p.1,vk,vd])) Q bX s:=by
 obtain ⟨ok,z⟩:=Pu.ite z
 have m:=r.obj _ _ _ hp ho
 have hm:=r.notMods hp
 have fin:∀ {v:Option Value} (t:Nat),eJ φ s.heap v (bh k l)→Q (v.getD vd) { s with toks:=t }:=fun t a=>z _ _ φ (.tok r t) (a.getD hd)
 clear z
 have key:∀ {K:Type} [DecidableEq K] {knd:KeyKind pw0 w K} {enc:K→D} {n:Nat} (X:fq knd enc n) {i:K},V φ s.heap vk (enc i)→(∀ {v:Option Value} (t:Nat),eJ φ s.heap v (bh (enc i) l)→Q (v.getD vd) { s with toks:=t })→cW n l=true→wpAny (model pw0 w) A (call (.builtin "dict.get") (if one then [.ref p.1,vk] else [.ref p.1,vk,vd])) Q bX s:=fun X i hk fin ks=>by
  obtain ⟨kvs,hd,hkk⟩:=m.toKvs X ks
  have h2:=hd.mapOf
  cases one with
  | true=>cases h1 rfl;exact call_meetsIn F.slot_dict_get h2.typeIs F.entry_dict_get (F.args_dict_get_2 _ _) (meets_dict_get _ _ (X.to hk) hm) ⟨_,h2,fin _ (hkk.look X i)⟩
  | false=>exact call_meetsIn F.slot_dict_get h2.typeIs F.entry_dict_get (F.args_dict_get_3 _ _ _) (meets_dict_get_default _ _ (X.to hk) hm vd) ⟨_,h2,fin _ (hkk.look X i)⟩
 refine Bl ok (G:=fun k=>V φ s.heap vk k→(∀ {v:Option Value} (t:Nat),eJ φ s.heap v (bh k l)→Q (v.getD vd) { s with toks:=t })→_) (fun i ks hk fin=>key (tF w) hk fin ks) (fun x ks hk fin=>key (jE w) hk fin ks) (fun ts k1 k2 hk2 fin2=>?_) hk fin
 clear key fin hk
 obtain ⟨xs,h2,hkk⟩:=m.tups k2
 have tv:=hk2.tv k1
 revert tv
 refine hk2.tup_ (G:=fun vk=>V [] s.heap vk (.tup ts)→wpAny (model pw0 w) A (call (.builtin "dict.get") (if one then [.ref p.1,vk] else [.ref p.1,vk,vd])) Q bX s) fun b ys j uu uu1 uu2 tv=>?_
 have hroom:(fi pw0 w).room A.in1:=ul hu
 cases one with
 | true=>cases h1 rfl;exact call_meetsIn F.slot_dict_get h2.typeIs F.entry_dict_get (F.args_dict_get_2 _ _) (meetsH_dict_get (fi pw0 w) _ _ hm) ⟨hroom,_,xs,⟨tv,k1⟩,h2,fin2 _ (hkk.look _)⟩
 | false=>exact call_meetsIn F.slot_dict_get h2.typeIs F.entry_dict_get (F.args_dict_get_3 _ _ _) (meetsH_dict_get_default (fi pw0 w) _ _ hm vd) ⟨hroom,_,xs,⟨tv,k1⟩,h2,fin2 _ (hkk.look _)⟩
theorem Ep(hu:A.units+10 < cLine):Fk w hb A .get "dict.get":=fun {s φ M o ds u vs Q} r hu' hV p=>by
 cases o with
 | ref n=>
  refine hu'.ref_ fun a hp=>?_
  obtain ⟨hn,p⟩:=Pu.ite' p
  obtain ⟨l,ho,p⟩:=Pu.onD p
  rcases ds with _|⟨k,_|⟨d,_|⟨e,ds⟩⟩⟩
  ·exact p.elim
  ·exact hV.on1 (f:=fun k=>oa k .none l M) p fun k v V1 p=>zD (one:=true) hu r hp ho V1 .none p fun uu=>rfl
  ·exact hV.on2 (f:=fun k d=>oa k d l M) p fun k d v u V1 V2 p=>zD (one:=false) hu r hp ho V1 V2 p fun e=>nomatch e
  ·exact p.elim
 | _=>exact p.elim
noncomputable def Fs:BM→String|.get=>"dict"|_=>"list"
noncomputable def Af:BM→String|.append=>"list.append"|.extend=>"list.extend"|.insert=>"list.insert"|.pop=>"list.pop"|.get=>"dict.get"
theorem rF{m:Str}{b:BM}(e:iF m Ff=some b):PlainAttrs (Fs b)∧Slot (Fs b) m (Af b)∧typeOf (.builtin (Af b))=pure (.type "method_descriptor"):=by
 obtain ⟨a,h1,rfl⟩:=nX e
 simp only [Ff,List.mem_cons,List.not_mem_nil,or_false,Prod.mk.injEq] at h1
 rcases h1 with ⟨rfl,rfl⟩|⟨rfl,rfl⟩|⟨rfl,rfl⟩|⟨rfl,rfl⟩|⟨rfl,rfl⟩
 ·exact ⟨F.plainAttrs_list,F.slot_list_append,F.type_list_append⟩
 ·exact ⟨F.plainAttrs_list,F.slot_list_extend,F.type_list_extend⟩
 ·exact ⟨F.plainAttrs_list,F.slot_list_insert,F.type_list_insert⟩
 ·exact ⟨F.plainAttrs_list,F.slot_list_pop,F.type_list_pop⟩
 ·exact ⟨F.plainAttrs_dict,F.slot_dict_get,F.type_dict_get⟩
theorem FX(hu:A.units+10 < cLine)(b:BM):Fk w hb A b (Af b):=by
 cases b with
 | append=>exact wa
 | extend=>exact v9
 | insert=>exact v7
 | pop=>exact Eh
 | get=>exact Ep hu
end
theorem jO{env:Env}{e:Expr}{r:List Expr}(h:bG e=true):starEach (e::r) env=(false,eval e env)::starEach r env:=by cases e<;>first|rfl|exact gW h
theorem eU{env:Env}{es:List Expr}(h:es.all bG=true):((starEach es env).all fun x=>!x.1)=true:=by
 induction es with
 | nil=>rfl
 | cons e r ih=>
  obtain ⟨h1,h2⟩:=aG h
  rw [jO h1,List.all_cons,ih h2];rfl
theorem fj{pos:Pos}{l:List (Bool×Sem Value)}(h:(l.all fun x=>!x.1)=true):((backTo pos l).all fun x=>!x.1)=true∧((backTo pos l).any fun x=>x.1)=false:=by
 unfold backTo
 refine ⟨by rw [List.all_map];exact h,?_⟩
 rw [List.any_map,List.any_eq_false]
 exact fun x hx q=>by
  have:=db h x hx
  rw [show x.1=true from q] at this
  cases this
noncomputable def Gc(P:Params)(p:Nat×String×Nat):Bool:=findIn (KF P) (.ref p.1) (Str.ofString p.2.1)==some (some (.ref p.2.2)) && (typeIn (KF P) (.ref p.2.2)==some (.type "function") && (keepIn (KF P) (.ref p.2.2) && (makesIn (KF P) p.1
 && (findIn (KF P) (.ref p.1) "__getattribute__"==some (some (.builtin "object.__getattribute__")) && findIn (KF P) (.ref p.1) "__getattr__"==some none))))
theorem By(P:Params):Ga.all (Gc P)=true:=by kernel_rfl
theorem uw{P:Params}{C f:Nat}{m:String}(e:Gb C m=some f):findIn (KF P) (.ref C) (Str.ofString m)=some (some (.ref f))∧typeIn (KF P) (.ref f)=some (.type "function")∧keepIn (KF P) (.ref f)=true∧makesIn (KF P) C=true
  ∧findIn (KF P) (.ref C) "__getattribute__"=some (some (.builtin "object.__getattribute__"))∧findIn (KF P) (.ref C) "__getattr__"=some none:=by
 obtain ⟨p,q,rfl⟩:=Option.map_eq_some_iff.mp e
 have h1:=aG (show (p.1==C && p.2.1==m)=true from List.find?_some (p:=fun p:Nat×String×Nat=>p.1==C && p.2.1==m) q)
 have h2:=db (By P) p (List.mem_of_find?_eq_some q)
 cases eq_of_beq h1.1
 cases eq_of_beq h1.2
 simpa only [Gc,Bool.and_eq_true,beq_iff_eq] using h2
theorem sZ{α:Type}{d:D}{v:α}{p:α→Prop}(h:Pu (isNone d v) p):d=.none∧p v:=by
 cases d with
 | none=>exact ⟨rfl,h⟩
 | _=>exact h.elim
section
variable {C:Nat}{p pos:Pos}{o:Expr}
theorem gu{f:Value}{Q:Args→Shared→Prop}{E:Value→Shared→Prop}(h:es.all bG=true)(hs:wpAny (model pw0 w) A (spliced (backTo pos (starEach es env))) (fun vs s'=>Q ⟨vs,[]⟩ s') E s):
  wpAny (model pw0 w) A (evalArgs f true (backTo pos (starEach es env)) []) Q E s:=by
 cases es with
 | nil=>
  unfold evalArgs
  show wpAny (model pw0 w) A (spliced [] >>= _) Q E s
  refine wpAny_bind (wpAny_mono hs (fun vs s' h=>?_) fun uu uu1 x=>x)
  refine wpAny_bind (wpAny_pure (wpAny_holding ?_))
  show wpAny (model pw0 w) A (evalAll [] >>= _) Q E s'
  unfold evalAll
  exact wpAny_bind (wpAny_pure (wpAny_bind (wpAny_pure (wpAny_pure h))))
 | cons e r=>
  rw [jO (aG h).1] at hs ⊢
  exact Calls.evalArgs_plain hs
theorem kK.under(gd:kK A n):Gd (A.under (.builtin "type.__call__" ⟨.ref C::vs,[]⟩)) n:=by
 have:=gd.depth
 have:=gd.units
 have hw:(Code.builtin "type.__call__" ⟨.ref C::vs,[]⟩).weight=1:=rfl
 have hu:(Code.builtin "type.__call__" ⟨.ref C::vs,[]⟩).cUnits=1:=rfl
 refine ⟨gd.hh,?_,?_⟩
 ·show A.depth+_+3 * n+5 < recursionLimit;omega
 ·show A.units+_+20 * n+60 < cLine;omega
theorem Ez{Q:Value→Shared→Prop}(B:aI w hb)(gd:kK A n)(hc:gz w hb n cf)(r:R w hb φ s.heap M)(hV:Vs φ s.heap vs ds)(p:Pu (wf C cf ds M) (Kv w hb φ s Q)):wpAny (model pw0 w) A (call (.ref C) vs) Q bX s:=by
 obtain ⟨f,q,p⟩:=(Pu.bind p).eq
 obtain ⟨k1,k2,k3,k4,_⟩:=uw (P:=w.params) q
 have X:=(r.base' B).K
 obtain ⟨hp,gg,dr,tk,os⟩:=s
 have D1:=aM.lay r emptyDict tk
 have D2:=D1.trans (.lay D1.r (instObj C hp.objs.size) tk)
 obtain ⟨m1,m2,m3⟩:=jV r (eI.refl _ _) r
 obtain ⟨n1,n2,n3⟩:=jV r D1.st D1.r
 have hsz:(hp.push emptyDict).objs.size=hp.objs.size+1:=Heap.size_push ..
 have g0:(hp.push emptyDict).get? hp.objs.size=some emptyDict:=Heap.get?_push_size _ rfl
 have hbig:=r.big
 have D3:=D2.adopt (p:=(hp.objs.size+1,hp.objs.size)) (o:=.ins C []) r ⟨by rw [←hsz];exact Heap.get?_push_size _ rfl,by decide,List.nodup_nil,#[],_,Heap.get?_push_of_some _ g0,trivial⟩ (hsz▸n2) m2 (hsz▸n1) m1 (Nat.ne_of_gt (Nat.lt_succ_of_lt hbig))
 have hself:=jJ (φ:=φ) r ((hp.push emptyDict).push (instObj C hp.objs.size)) (hp.objs.size+1,hp.objs.size)
 refine wpAny_call (make_core (makes_of X k4) (looks_findIn X k1) (fun self=>bind_fn X self k2) (.inl (by simp)) ?_)
 refine codeAny_mono (hc gd.under D3.r (show Vs _ _ (_::vs) (.ref M.length::ds) from ⟨hself,hV.step r D3.st⟩) (p.bd.imp fun y p v s' φ' D4 V4=>?_) (Q:=fun v s'=>v=.none∧Q (.ref (hp.objs.size+1)) s')) fun r s' z=>?_
 ·obtain ⟨q,p⟩:=sZ p
  rw [q] at V4
  exact ⟨V4,p _ s' φ' (D3.trans D4) (hself.step D3.r D4.st)⟩
 ·rcases r with e|(v|_|_|_)
  ·exact z.elim
  all_goals first|exact z.elim|(obtain ⟨rfl,z⟩:=z;exact ⟨rfl,z⟩)
def jd(w:World)(hb:Heap)(A:Around)(env:Env)(g:G)(cf:CF)(as:List X)(es:List Expr):Prop:=
 (∀ {l M p},Pu (xs as cf l M) p→es.all bG=true)∧(es.all bG=true→∀ pos,va w hb A env g cf as (spliced (backTo pos (starEach es env))))
theorem rD{Q:Value→Shared→Prop}{c:Addr}{first:List Value}(z:keepIn (KF w.params) (.ref c)=true)(hs:es.all bG=true)(h:wpAny (model pw0 w) A (spliced (backTo pos (starEach es env))) (fun vs s'=>(KF w.params).In s'.heap∧wpAny (model pw0 w) A (call (.ref c) (first++vs)) Q bX s') bX s):
  wpAny (model pw0 w) A (callWith pos (.ref c) first (backTo pos (starEach es env)) []) Q bX s:=
 callWith_of (by rw [(fj (eU hs)).2];rfl) (fun h x=>let ⟨k,a,b⟩:=looks_keep z x;⟨k,a.elim .inl fun z=>.inr (.inl z),b⟩) (gu hs h)
theorem lJ{c:Addr}{f:CF→List D→H→Option (D×H)}(B:aI w hb)(nm:∀ {s φ M l} {Q:Value→Shared→Prop},Fr w hb env g φ s M l→(keepIn (KF w.params) (.ref c)=true→Q (.ref c) s)→wpAny (model pw0 w) A (eval (.Name x p) env) Q bX s)
  (op:∀ {s φ M ds vs Q},R w hb φ s.heap M→Vs φ s.heap vs ds→Pu (f cf ds M) (Kv w hb φ s Q)→wpAny (model pw0 w) A (call (.ref c) vs) Q bX s) (ha:jd w hb A env g cf as es) :
  aB w hb A env g cf (xl as f) (eval (.Call (.Name x p) es [] pos) env):=fun uu=>fun F p=>
 have hs:=ha.1 p.bd
 wpAny_Call_ofName (nm F fun z=>rD z hs (ha.2 hs pos F (p.bd.imp fun uu p vs s1 φ1 D1 V1=>⟨(D1.r.base' B).K,op D1.r V1 (p.after D1)⟩)))
theorem DZ{c:Addr}(B:aI w hb)(S:bF sc env)(gd:kK A n)(hc:gz w hb n cf)(e:glob (gv w.params) sc x=some (.fn c))(ha:jd w hb A env g cf as es):aB w hb A env g cf (xl as fun f=>f c) (eval (.Call (.Name x p) es [] pos) env):=
 lJ B (fun F h=>Bx B S F.r F.fr e h) (fun r hV p=>wpAny_call (hc gd.gd r hV p)) ha
theorem AZ(B:aI w hb)(S:bF sc env)(gd:kK A n)(hc:gz w hb n cf)(e:glob (gv w.params) sc x=some (.cls C))(ha:jd w hb A env g cf as es):aB w hb A env g cf (xl as fun f=>wf C f) (eval (.Call (.Name x p) es [] pos) env):=
 lJ B (fun F h=>yK B S F.r F.fr e h) (fun r hV p=>Ez B gd hc r hV p) ha
theorem rE{b:BI}{Q:Value→Shared→Prop}(hs:es.all bG=true)(h:wpAny (model pw0 w) A (spliced (backTo pos (starEach es env))) (fun vs=>wpAny (model pw0 w) A (call (mI b) vs) Q bX) bX s):wpAny (model pw0 w) A (callWith pos (mI b) [] (backTo pos (starEach es env)) []) Q bX s:=by
 have any:=(fj (pos:=pos) (eU (env:=env) hs)).2
 cases b<;>first|exact Calls.callWith_builtin any (gu hs h)|exact PySem.callWith_type any (gu hs h)
theorem D8{b:BI}(B:aI w hb)(S:bF sc env)(gd:kK A n)(hb':b≠.range)(e:glob (gv w.params) sc x=some (.bi b))(ha:jd w hb A env g cf as es):aB w hb A env g cf (xl as fun uu=>bi b) (eval (.Call (.Name x p) es [] pos) env):=fun s=>fun {φ M l Q} F p=>
 have hs:=ha.1 p.bd
 wpAny_Call_ofName (o0 B S F.r F.fr e (rE hs (ha.2 hs pos (Q:=fun vs=>wpAny (model pw0 w) A (call (mI b) vs) Q bX) F (p.bd.imp fun uu p vs s1 φ1 D1 V1=>V1.on1 p fun d v V1 p=>FY B gd.hh hb' D1.r V1 (p.after D1)))))
theorem BU{u:Value}{d:D}{b:BM}(r:R w hb φ s.heap M)(hV:V φ s.heap u d)(hk:(knd d M==kindOf b)=true):s.TypeIs u (Fs b)∧∀ a,u=.ref a→∃ ob,s.heap.get? a=some ob∧ob.dict=none:=by
 have hk:=eq_of_beq hk
 cases d with
 | ref n=>
  refine hV.ref_ fun a hp=>?_
  obtain ⟨o,ho,m⟩:=r.get hp
  have hk:(match (M:List MO)[n]? with|some (.lst _)=>1|some (.dct _)=>2|_=>0)=kindOf b:=hk
  rw [ho] at hk
  cases o with
  | lst l=>
   obtain ⟨_,_,ys,j,q,_⟩:=m
   have e:Fs b="list":=by cases b<;>first|rfl|cases hk
   exact ⟨e▸⟨_,q,rfl⟩,fun a e=>by cases e;exact ⟨_,q,rfl⟩⟩
  | dct l=>
   obtain ⟨_,_,_,ys,j,q,_⟩:=m
   have e:Fs b="dict":=by cases b<;>first|rfl|cases hk
   exact ⟨e▸⟨_,q,rfl⟩,fun a e=>by cases e;exact ⟨_,q,rfl⟩⟩
  | ins=>cases b<;>cases hk
 | _=>cases b<;>cases hk
theorem JA(hs:es.all bG=true)(hn:es.length < 20):((backTo pos (starEach es env)).all (fun x=>!x.1) && (backToKw pos (keywordEach [] env)).all (fun x=>x.1.isSome)
   && decide (es.length+([]:List Keyword).length+(if ([]:List Keyword).isEmpty then 0 else 1) < 30))=true:=by
 rw [(fj (eU hs)).1]
 exact decide_eq_true (Nat.lt_of_lt_of_le hn (by decide))
theorem AN{b:BM}(gd:kK A n)(hok:hH o=true)(hline:(ap.endLine==pos.line)=true)(hn:es.length < 20)(e:iF m Ff=some b)(hx:aB w hb A env g cf a (eval o env))(ha:jd w hb A env g cf as es):
  aB w hb A env g cf (dB b a as) (eval (.Call (.Attribute o m ap) es [] pos) env):=fun s=>fun {φ M l Q} F p=>by
 have hs:es.all bG=true:=let ⟨y,_,p1⟩:=p.bd.eq;ha.1 (Pu.ite p1).2.bd
 obtain ⟨f1,f2,f3⟩:=rF e
 refine wpAny_Call_method_late (cR hok _ _ _) (JA hs hn) hline rfl (hx F (p.bd.imp fun y p u s1 φ1 D1 V1=>?_))
 obtain ⟨hk,p⟩:=Pu.ite p
 obtain ⟨t1,t2⟩:=BU D1.r V1 hk
 exact ⟨Fs b,Af b,f1,f2,f3,t1,t2,Calls.callWith_builtin (fj (eU hs)).2 (gu hs (ha.2 hs pos (Q:=fun vs=>wpAny (model pw0 w) A (call (.builtin (Af b)) (u::vs)) Q bX) (F.step D1) (p.bd.imp fun uu p vs s2 φ2 D2 V2=>FX gd.u b D2.r (V1.step D1.r D2.st) V2 (p.after (D1.trans D2)))))⟩
theorem AM{m:String}(B:aI w hb)(gd:kK A n)(hc:gz w hb n cf)(hok:hH o=true)(hline:(ap.endLine==pos.line)=true)(hn:es.length < 20)(hx:aB w hb A env g cf a (eval o env))(ha:jd w hb A env g cf as es):
  aB w hb A env g cf (dT m a as) (eval (.Call (.Attribute o (Str.ofString m) ap) es [] pos) env):=fun s=>fun {φ M l Q} F p=>by
 rw [arm_eval_Call,cR hok]
 refine wpAny_bind (hx F (p.bd.imp fun y p u s1 φ1 D1 V1=>wpAny_bind (wpAny_standAt ?_)))
 refine V1.onR p fun k q hp p=>?_
 obtain ⟨C,fs,ho,p⟩:=Pu.onO p
 obtain ⟨q3,p⟩:=Pu.ite p
 obtain ⟨f,q1,p⟩:=(Pu.bind p).eq
 have hs:=ha.1 (Pu.bd p)
 obtain ⟨f3,f4,f5,_,f1,f2⟩:=uw (P:=w.params) q1
 obtain ⟨es',k',h1,h3,I⟩:=po (D1.r.obj _ _ _ hp ho)
 obtain ⟨g1,g2⟩:=h3.find (Str.ofString m)
 have X:=(D1.r.base' B).K
 rw [q3] at g1
 have hfind:es'.toList.find? (·.key.isStr (Str.ofString m))=none:=by
  cases q:es'.toList.find? (·.key.isStr (Str.ofString m)) with
  | none=>rfl
  | some e=>rw [q] at g1;exact g1.elim
 have hform:methodCallForm (es.length+([]:List Keyword).length) (backTo pos (starEach es env)) (backToKw pos (keywordEach [] env))=true:=JA hs hn
 unfold methodCall
 rw [hform]
 refine wpAny_bind (wpAny_holding ?_)
 unfold calleeOf
 rw [if_pos rfl]
 refine method_fn X I f1 f2 f3 f4 (by unfold shadowIn;simp [lookIn,hfind,g2]) (wpAny_bind (wpAny_of_eq (show methodCallPos true o env ap pos=pure pos by unfold methodCallPos;simp [hline]) ?_))
 exact rD f5 hs (ha.2 hs pos (F.step D1) ((Pu.bd p).imp fun uu p vs s2 φ2 D2 V2=>⟨(D2.r.base' B).K,wpAny_call (hc gd.gd D2.r (show Vs _ _ (_::vs) (.ref k::_) from ⟨(V.ref hp).step D1.r D2.st,V2⟩) (p.after (D1.trans D2)))⟩))
end
noncomputable def EV:List (Value×Value)→List Value
 | []=>[]
 | p::r=>p.1::p.2::EV r
theorem wM{ds:List D}{acc out:List (D×D)}(h:oj ds acc=some out):out.length≤acc.length+ds.length:=by
 have key:∀ (n:Nat) {ds:List D} {acc:List (D×D)},ds.length≤n→oj ds acc=some out→out.length≤acc.length+ds.length:=by
  intro n
  induction n with
  | zero=>
   intro ds acc hn h
   cases ds with
   | nil=>cases h;exact Nat.le_refl _
   | cons=>exact absurd hn (Nat.not_succ_le_zero _)
  | succ n ih=>
   intro ds acc hn h
   rcases ds with _|⟨d,_|⟨v,r⟩⟩
   ·cases h;exact Nat.le_refl _
   ·cases d<;>exact fO h
   ·cases d with
    | str k=>
     have hn:r.length+2≤n+1:=hn
     have:=ih (by omega) (show oj r (cL (.str k) v acc)=some out from h)
     have:=(fv (.str k) v acc).2.1
     show _≤acc.length+(r.length+2)
     omega
    | _=>exact fO h
 exact key _ (Nat.le_refl _) h
theorem vW{ks:List (Option Expr)}{kes:List Expr}(h:vX ks=some kes):ks=kes.map some:=by
 unfold vX at h
 induction ks generalizing kes with
 | nil=>cases h;rfl
 | cons k ks ih=>
  rw [List.mapM_cons] at h
  obtain ⟨e,q,h⟩:=cN h
  obtain ⟨l,q2,h⟩:=cN h
  cases h
  cases q
  rw [ih q2];rfl
section
variable {p pos:Pos}{ea eb:Expr}{tl:List (D×D)}
theorem qr(B:aI w hb)(r:R w hb φ s.heap M)(D1:aM w hb φ s M1 φ1 s1){a b:Int}{t u v:Tok}{tk:Nat}{ro:Obj}(ha:cA a=true)(hb2:cA b=true)(hr:IsRange (s1.heap.push ro) s1.heap.objs.size a b 1 t u v)
  {Q:Value→Shared→Prop} (p:Ap w hb φ s Q (.rng a b,M1)):wpAny (model pw0 w) A (pyIter (.ref s1.heap.objs.size)) Q bX { s1 with heap:=s1.heap.push ro,toks:=tk }:=by
 obtain ⟨h1,h2⟩:-(2 ^ 62)≤a∧a < 2 ^ 62:=of_decide_eq_true ha
 obtain ⟨h3,h4⟩:-(2 ^ 62)≤b∧b < 2 ^ 62:=of_decide_eq_true hb2
 have DL:=D1.trans (.lay D1.r ro tk)
 obtain ⟨n1,n2,n3⟩:=jV r DL.st DL.r
 refine wpAny_pyIter_range hr (small_one h1 h2 h3 h4) (p.2 _ _ _ _ (DL.trans (.lay DL.r _ _)) Cb ?_ n1 n2 n3)
 have hsz:Builtin.Range.rangeSize a b 1=((b - a).toNat:Int):=by rw [rangeSize_one];split<;>omega
 show ((s1.heap.push ro).push _).get? (s1.heap.push ro).objs.size=_
 rw [Heap.get?_push_size _ rfl,hsz]
 simp
theorem Pu.xs1{z:List D×H→Prop}(p:Pu (a cf l M) fun y=>z ([y.1],y.2)):Pu (xs [a] cf l M) z:=by
 show Pu (Internal.bd (a cf l M) fun d h=>some ([d],h)) z
 cases q:a cf l M<;>rw [q] at p<;>exact p
theorem Pu.xs2{z:List D×H→Prop}(p:Pu (a cf l M) fun y=>Pu (b cf l y.2) fun u=>z ([y.1,u.1],u.2)):Pu (xs [a,b] cf l M) z:=by
 show Pu (Internal.bd (a cf l M) fun d h=>Internal.bd (xs [b] cf l h) fun ds h=>some (d::ds,h)) z
 cases q:a cf l M with
 | none=>rw [q] at p;exact p
 | some y=>
  rw [q] at p
  show Pu (Internal.bd (Internal.bd (b cf l y.2) fun d h=>some ([d],h)) fun ds h=>some (y.1::ds,h)) z
  have p:Pu (b cf l y.2) fun u=>z ([y.1,u.1],u.2):=p
  cases q:b cf l y.2<;>rw [q] at p<;>exact p
theorem xM(B:aI w hb)(S:bF sc env)(e:glob (gv w.params) sc x=some (.bi .range))(ha:jd w hb A env g cf [a] [ea]):rL w hb A env g cf (x1 a dq) (eval (.Call (.Name x p) [ea] [] pos) env):=fun uu=>fun F p=>by
 have hs:=ha.1 (Pu.xs1 (z:=fun y=>Pu (on1 y.1 fun d=>dq d y.2) _) p.bd)
 refine wpAny_Call_ofName (o0 B S F.r F.fr e (PySem.callWith_type (fj (eU hs)).2 (gu hs (ha.2 hs pos F (Pu.xs1 (p.bd.imp fun y p vs s1 φ1 D1 V1=>?_))))))
 refine V1.on1 (f:=fun d=>dq d y.2) p fun d v V1 p=>V1.onI p fun b t p=>?_
 obtain ⟨hc,p⟩:=Pu.ite p
 exact call_range_1 (qr B F.r D1 (by decide) (aG hc).1 (IsRange.new ..) p)
theorem xL(B:aI w hb)(S:bF sc env)(e:glob (gv w.params) sc x=some (.bi .range))(ha:jd w hb A env g cf [a,b] [ea,eb]):rL w hb A env g cf (x2 a b A8) (eval (.Call (.Name x p) [ea,eb] [] pos) env):=fun uu=>fun F p=>by
 have p:=Pu.xs2 (z:=fun y=>Pu (on2 y.1 fun d e=>A8 d e y.2) _) (p.bd.imp fun uu p=>p.bd)
 have hs:=ha.1 p
 refine wpAny_Call_ofName (o0 B S F.r F.fr e (PySem.callWith_type (fj (eU hs)).2 (gu hs (ha.2 hs pos F (p.imp fun y p vs s1 φ1 D1 V1=>?_)))))
 refine V1.on2 p fun d e u v V1 V2 p=>V1.int2 V2 p fun i j t t' p=>?_
 obtain ⟨hc,p⟩:=Pu.ite p
 have hc:=aG (aG hc).1
 exact call_range_2 (qr B F.r D1 hc.1 hc.2 (IsRange.new ..) p)
theorem vn{P:Params}(X:(KF P).In h){k:Int}{es:List DictEntry}{l:List (D×D)}(e:es.mapM (ye P 5)=some l)(hk:∀ e∈es,∃ i t,e.key=.int i t):eJ φ h ((es.find? fun e=>Value.isInt k e.key).map (·.val)) (bh (.int k) l):=by
 induction es generalizing l with
 | nil=>cases e;trivial
 | cons en es ih=>
  rw [List.mapM_cons] at e
  obtain ⟨y,q,e⟩:=cN e
  obtain ⟨l2,q2,e⟩:=cN e
  cases e
  obtain ⟨i,t,hi⟩:=hk en aw
  obtain ⟨a,qa,q⟩:=cN q
  obtain ⟨d,q3,rfl⟩:=Option.map_eq_some_iff.mp q
  rw [hi] at qa
  cases qa
  rw [List.find?_cons,hi,cy]
  show eJ φ h (Option.map _ (match i==k with|true=>some en|false=>_)) (if (i==k)=true then some d else bh (.int k) l2)
  cases i==k with
  | true=>exact lM X q3
  | false=>exact ih q2 fun e he=>hk e (aE _ he)
theorem xJ(B:aI w hb)(S:bF sc env)(hm:iF m Ff=some .get)(hline:(ap.endLine==pos.line)=true)(hn:es.length < 20)(e:glob (gv w.params) sc x=some (.tab tl))(ha:jd w hb A env g cf as es):
  aB w hb A env g cf (xl as fun uu=>AA tl) (eval (.Call (.Attribute (.Name x np) m ap) es [] pos) env):=fun s=>fun {φ M l Q} F p=>by
 have hs:=ha.1 p.bd
 obtain ⟨f1,f2,f3⟩:=rF hm
 rcases rt (A:=A) (pos:=np) e S (F.r.base' B) F.fr with ⟨_,⟨a,en,nn,rfl,hl,hok,hmm⟩,k⟩|⟨b,q,_⟩
 ·obtain ⟨o1,o2⟩:=aG hok
  have X:=(F.r.base' B).K
  refine wpAny_Call_method_late (cR rfl _ _ _) (JA hs hn) hline rfl (k ⟨"dict","dict.get",f1,f2,f3,⟨_,X _ _ hl,rfl⟩,fun a' e'=>by cases e';exact ⟨_,X _ _ hl,rfl⟩,?_⟩)
  refine Calls.callWith_builtin (fj (eU hs)).2 (gu hs (ha.2 hs pos (Q:=fun vs=>wpAny (model pw0 w) A (call (.builtin "dict.get") (.ref a::vs)) Q bX) F (p.bd.imp fun y p vs s2 φ2 D2 V2=>V2.on2 p fun dk dd vk vd Vk Vd p=>Vk.onI p fun k t p=>?_)))
  have X2:=(D2.r.base' B).K
  have hkey:∀ e∈en.toList,∃ i t,e.key=.int i t∧e.hash=hashInt i:=fun e he=>by
   have:=db o2 e he
   split at this
   ·exact ⟨_,_,‹_›,eq_of_beq this⟩
   ·exact gW this
  have hmap:s2.heap.MapOf (PySem.intKind pw0 w) a (findBy (PySem.intKind pw0 w).is en):=⟨_,en,nn,X2 _ _ hl,⟨rfl,rfl,rfl⟩,rfl,fun e he=>by
   obtain ⟨i,t,hk,hh⟩:=hkey e (Array.mem_toList_iff.mpr he)
   exact ⟨i,by rw [hk];exact intKind_is ..,hh⟩,fun uu=>rfl⟩
  refine call_meetsIn PySem.F.slot_dict_get hmap.typeIs PySem.F.entry_dict_get (PySem.F.args_dict_get_3 _ _ _) (meets_dict_get_default _ _ (intKind_is pw0 w k t) (beq_eq_false_iff_ne.mpr (bne_iff_ne.mp o1)) vd) ⟨_,hmap,p _ _ _ (D2.trans (.tok D2.r _)) ?_⟩
  have e5:findBy (PySem.intKind pw0 w).is en k=(en.toList.find? fun e=>Value.isInt k e.key).map (·.val):=by
   unfold findBy
   rw [←Array.find?_toList]
   rfl
  show V φ2 s2.heap ((findBy (PySem.intKind pw0 w).is en k).getD vd) _
  rw [e5]
  exact eJ.getD Vd (vn X2 hmm fun e he=>let ⟨i,t,hk,_⟩:=hkey e he;⟨i,t,hk⟩)
 ·cases q
end
section
variable {pos:Pos}{f:Expr→X}
theorem vA{kes ves:List Expr}(hl:kes.length=ves.length)(hx:∀ e,aB w hb A env g cf (f e) (eval e env)){Q:List (Value×Value)→Shared→Prop}(F:Fr w hb env g φ s M l)
  (p:Pu (xs (ml (kes.map f) (ves.map f)) cf l M) fun y=>∀ ps s' φ',aM w hb φ s y.2 φ' s'→Vs φ' s'.heap (EV ps) y.1→Q ps s'):wpAny (model pw0 w) A (evalPairs (pairTrees (kes.map some) ves env pos)) Q bX s:=by
 induction kes generalizing ves s φ M Q with
 | nil=>cases ves with
  | nil=>exact pairTrees_nil_walk (p [] s φ (.refl F.r) trivial)
  | cons=>cases hl
 | cons k ks ih=>cases ves with
  | nil=>cases hl
  | cons v vs=>
   refine pairTrees_cons_walk (hx k F (p.bd.imp fun uu p v1 s1 φ1 D1 V1=>hx v (F.step D1) (p.bd.bd.imp fun uu p v2 s2 φ2 D2 V2=>ih (Nat.succ.inj hl) ((F.step D1).step D2) (p.bd.imp fun uu p ps s3 φ3 D3 V3=>?_))))
   exact p _ s3 φ3 ((D1.trans D2).trans D3) ⟨(V1.step D1.r D2.st).step D2.r D3.st,V2.step D2.r D3.st,V3⟩
theorem pO.put{K:Type}[DecidableEq K]{knd:KeyKind pw0 w K}{enc:K→D}{n:Nat}(X:fq knd enc n){kvs:List (K×Value)}{l:List (D×D)}{k:K}{v:Value}{d:D}(e:pO enc φ h kvs l)(hV:V φ h v d)(nd:(kvs.map (·.1)).Nodup):pO enc φ h (stored kvs k v) (cL (enc k) d l):=by
 induction kvs generalizing l with
 | nil=>cases l with
  | nil=>exact ⟨⟨rfl,hV⟩,trivial⟩
  | cons=>exact e.elim
 | cons a kvs ih=>cases l with
  | nil=>exact e.elim
  | cons b l=>
   obtain ⟨n1,n2⟩:=List.nodup_cons.mp nd
   have ih:=ih e.2 n2
   rw [cO,e.1.1,X.eqb]
   unfold stored at ih ⊢
   rw [List.any_cons]
   by_cases q:a.1=k
   ·rw [decide_eq_true q,Bool.true_or,if_pos rfl,if_pos rfl,List.map_cons,if_pos q]
    refine ⟨⟨rfl,hV⟩,?_⟩
    rw [show kvs.map (fun kv=>if kv.1=k then (kv.1,v) else kv)=kvs from (List.map_congr_left fun kv hkv=>if_neg fun z=>n1 (List.mem_map.mpr ⟨kv,hkv,z.trans q.symm⟩)).trans (List.map_id _)]
    exact e.2
   ·rw [decide_eq_false q,Bool.false_or,if_neg Bool.false_ne_true]
    by_cases c:(kvs.any fun kv=>decide (kv.1=k))=true
    ·rw [if_pos c] at ih ⊢
     rw [List.map_cons,if_neg q]
     exact ⟨e.1,ih⟩
    ·rw [if_neg c] at ih ⊢
     exact ⟨e.1,ih⟩
def KQ(l:List (D×D)):Prop:=(l.map (·.1)).Nodup∧∀ x:Str,D.str x∈l.map (·.1)→x.cps.size≤cx
theorem vV{ps:List (Value×Value)}{ds:List D}{acc:List (Str×Value)}{accD kvsD:List (D×D)}(hV:Vs φ h (EV ps) ds)(hd:oj ds accD=some kvsD)(hk:pO .str φ h acc accD)(hz:KQ accD):
  ∃ kvs,Carries (strKind pw0 w) ps kvs∧pO .str φ h (merged acc kvs) kvsD∧KQ kvsD:=by
 induction ps generalizing ds acc accD with
 | nil=>cases ds with
  | nil=>cases hd;exact ⟨[],trivial,hk,hz⟩
  | cons=>exact hV.elim
 | cons p ps ih=>
  rcases ds with _|⟨dk,_|⟨dv,r⟩⟩
  ·exact hV.elim
  ·exact hV.2.elim
  ·obtain ⟨V1,V2,hV⟩:=hV
   cases dk with
   | str k=>
    obtain ⟨kv,vv⟩:=p
    obtain ⟨t,rfl,hs⟩:=V1
    have pk:=nV (k:=.str k) (d:=dv) (l:=accD)
    obtain ⟨kvs,c1,c2,c3⟩:=ih hV hd (hk.put (jE w) V2 (fZ D.str (hk.keys▸hz.1))) ⟨pk.1 hz.1,fun x hx=>(pk.2 _ hx).elim (fun e=>by cases e;exact hs) (hz.2 x)⟩
    exact ⟨(k,vv)::kvs,⟨strKind_is ..,rfl,c1⟩,c2,c3⟩
   | _=>exact fO hd
theorem vB:aB w hb A env g cf (fun uu uu1 h=>new (.dct []) h) (eval (.Dict [] [] pos) env):=fun uu=>fun F p=>
 wpAny_Dict_empty (p _ _ _ (aM.own F.r (o:=cC #[] 0) (x:=.dct []) ⟨rfl,by decide,List.nodup_nil,#[],0,Heap.get?_push_size _ rfl,trivial⟩) (jJ F.r _ _))
theorem xT{ks:List (Option Expr)}{kes ves:List Expr}(B:aI w hb)(hks:vX ks=some kes)(hl:kes.length=ves.length)(h15:kes.length≤15)(h0:kes≠[])(hx:∀ e,aB w hb A env g cf (f e) (eval e env)):
  aB w hb A env g cf (xl (ml (kes.map f) (ves.map f)) fun uu=>u0) (eval (.Dict ks ves pos) env):=fun s=>fun {φ M l Q} F p=>by
 rw [vW hks]
 have D0:=aM.lay F.r (cC #[] 0) s.toks
 have nD:=da s.heap
 have oD:=kC F.r
 have gD:(s.heap.push (cC #[] 0)).get? s.heap.objs.size=some (cC #[] 0):=Heap.get?_push_size _ rfl
 refine wpAny_Dict_walk (knd:=strKind pw0 w) (by simp) (by rw [List.length_map];exact hl) (fun e=>h0 (List.map_eq_nil_iff.mp e)) (by rw [List.length_map];exact h15) (vA hl hx (F.step D0) (p.bd.imp fun y p ps s1 φ1 D1 V1=>?_))
 obtain ⟨hlen,p⟩:=Pu.ite p
 obtain ⟨kvsD,q2,p⟩:=p.bind.eq
 obtain ⟨kvs,c1,c2,c3⟩:=vV (w:=w) V1 q2 (acc:=[]) trivial ⟨List.nodup_nil,fun x hx=>absurd hx List.not_mem_nil⟩
 have gD1:=D1.st.keep _ _ gD oD
 refine ⟨kvs,c1,⟨_,#[],0,gD1,⟨rfl,rfl,rfl⟩,rfl,fun e he=>absurd he (Array.not_mem_empty e),.nil,List.nodup_nil⟩,fun h' hm hs=>?_⟩
 have D01:=D0.trans D1
 have oD1:=dm.old D1.st gD oD
 obtain ⟨D3,tp3⟩:=aM.poke B D01 (h':=h') (tk:=s1.toks+ps.length) (.of hs) nD (.of F.r nD D01.st.pre oD1 fun xs n q=>absurd (congrArg Obj.cls (Option.some.inj (gD1.symm.trans q))) (by simp))
 have hle:=wM q2
 have hlen2:y.1.length < 1000:=hlen
 have D4:=D3.adopt (p:=(s.heap.objs.size,s.heap.objs.size)) (o:=.dct kvsD) F.r (.of_kvs (jE w) hm (c2.move (List.prefix_append _ _) tp3) (fun q hq x e=>?_) (cn hle (by show 0+_ < _;omega))) oD1 oD1 nD nD (Nat.ne_of_gt F.r.big)
 ·exact p _ _ _ D4 (jJ D3.r _ (s.heap.objs.size,s.heap.objs.size))
 ·obtain ⟨d',hd'⟩:=kY c2 hq
  exact c3.2 x (List.mem_map.mpr ⟨_,hd',e⟩)
end
section
variable {p:Pos}{e a b:Expr}
theorem oO{f:Expr→X}(hf:∀ e,aB w hb A env g cf (f e) (eval e env))(hs:es.all bG=true):jd w hb A env g cf (es.map f) es:=by
 refine ⟨fun uu=>hs,fun hs pos=>DW (by rw [List.length_map]) (fun e r he=>jO (db hs e he)) fun i e a h1 h2=>?_⟩
 rw [List.getElem?_map,h1] at h2
 cases h2
 exact hf e
theorem Pu.elim_bad{l:L}{M:H}{p:List D×H→Prop}(h:Pu (xs [aS] cf l M) p):False:=h
theorem A2{f:Expr→X}(hf:∀ e,aB w hb A env g cf (f e) (eval e env)):jd w hb A env g cf (xA f es) es:=by
 unfold xA
 by_cases h:es.all bG=true
 ·rw [if_pos h];exact oO hf h
 ·rw [if_neg h];exact ⟨fun p=>(Pu.elim_bad p).elim,fun q=>absurd q h⟩
theorem tQ{y:Str×List Expr}(h:tR e=some y):∃ p q,e=.Call (.Name y.1 p) y.2 [] q:=by
 cases e with
 | Call f as kws q=>
  cases f with
  | Name x p=>cases kws with
   | nil=>cases h;exact ⟨_,_,rfl⟩
   | cons=>exact fO h
  | _=>exact fO h
 | _=>exact fO h
theorem rf{o:Option GV}(h:pj o=true):o=some (.bi .range):=by
 cases o with
 | none=>exact gW h
 | some v=>cases v with
  | bi b=>cases b<;>first|rfl|exact gW h
  | _=>exact gW h
theorem xV{f:Expr→X}(B:aI w hb)(S:bF sc env)(hf:∀ e,aB w hb A env g cf (f e) (eval e env))(e:Expr):rL w hb A env g cf (cI f (gv w.params) sc g e) (eval e env):=by
 have bad:∀ t:Sem Value,rL w hb A env g cf aS t:=fun t=>fun uu=>fun uu p=>p.elim
 unfold cI
 cases q:tR e with
 | none=>exact uf (hf _)
 | some y=>
  dsimp only
  by_cases h:((look y.1 g).isNone && pj (glob (gv w.params) sc y.1))=true
  ·rw [if_pos h]
   have h:=rf (aG h).2
   obtain ⟨p,r,rfl⟩:=tQ q
   obtain ⟨x,as⟩:=y
   rcases as with _|⟨a,_|⟨b,_|⟨c,as⟩⟩⟩
   ·exact bad _
   ·by_cases hs:bG a=true
    ·rw [show yb f [a]=x1 (f a) dq from if_pos hs]
     exact xM B S h (oO (es:=[_]) hf ((Bool.and_true _).trans hs))
    ·rw [show yb f [a]=aS from if_neg hs];exact bad _
   ·by_cases hs:(bG a && bG b)=true
    ·rw [show yb f [a,b]=x2 (f a) (f b) A8 from if_pos hs]
     exact xL B S h (oO (es:=[_,_]) hf (by rw [List.all_cons,List.all_cons,List.all_nil,Bool.and_true];exact hs))
    ·rw [show yb f [a,b]=aS from if_neg hs];exact bad _
   ·exact bad _
  ·rw [if_neg h];exact uf (hf _)
theorem n8(h:qZ sc x=true):(x==("__debug__":Str))=false∧(x==("__classdict__":Str))=false:=by
 have h:=aG (aG h).2
 rw [Bool.not_eq_true',Bool.not_eq_true'] at h
 exact h
abbrev PE(w:World)(hb:Heap)(A:Around)(cf:CF)(n:Nat):Prop:=∀ {sc:Scope} {g:G} {env:Env} (e:Expr),bF sc env→aB w hb A env g cf (cE (gv w.params) n sc g e) (eval e env)
abbrev PT(w:World)(hb:Heap)(A:Around)(cf:CF)(n:Nat):Prop:=∀ {sc:Scope} {g:G} {env:Env} (e:Expr),bF sc env→fk w hb A env g cf (cT (gv w.params) n sc g e) (isTrue e env (eval e env))
theorem vI(B:aI w hb)(S:bF sc env):aB w hb A env g cf (cE (gv w.params) (n+1) sc g (.Name x p)) (eval (.Name x p) env):=by
 show aB w hb A env g cf (match look x g,qZ sc x with
  | some i,true=>xv i
  | none,false=>(match glob (gv w.params) sc x with
   | some (.c d)=>xk d
   | _=>aS)
  | _,_=>aS) _
 cases h1:look x g with
 | some i=>
  cases h2:qZ sc x with
  | true=>exact AP h1 (n8 h2).1 (n8 h2).2
  | false=>exact aZ
 | none=>
  cases h2:qZ sc x with
  | true=>exact aZ
  | false=>
   cases h3:glob (gv w.params) sc x with
   | none=>exact aZ
   | some v=>cases v with
    | c d=>exact DY B S h3
    | _=>exact aZ
theorem qm(ih:PE w hb A cf n){op:BoolOp}(S:bF sc env):aB w hb A env g cf (cE (gv w.params) (n+1) sc g (.BoolOp op es p)) (eval (.BoolOp op es p) env):=by
 have one:∀ {x:X} {t:Sem Value},aB w hb A env g cf x t→aB w hb A env g cf x (boolOp p op [t]):=fun h=>h
 rcases es with _|⟨a,_|⟨b,_|⟨c,_|⟨d,r⟩⟩⟩⟩
 ·exact aZ
 ·exact aZ
 ·cases op with
  | And=>exact lH (ih a S) (one (ih b S))
  | Or=>exact oK (ih a S) (one (ih b S))
 ·cases op with
  | And=>exact lH (ih a S) (lH (ih b S) (one (ih c S)))
  | Or=>exact oK (ih a S) (oK (ih b S) (one (ih c S)))
 ·exact aZ
theorem oN(ih:PE w hb A cf n){op:UnaryOp}(S:bF sc env):aB w hb A env g cf (cE (gv w.params) (n+1) sc g (.UnaryOp op e p)) (eval (.UnaryOp op e p) env):=by
 cases op with
 | USub=>exact rX (ih e S) Ej
 | Invert=>exact rX (ih e S) El
 | Not=>exact rX (ih e S) Ei
 | UAdd=>exact aZ
theorem fM(ih:PE w hb A cf n)(S:bF sc env):jd w hb A env g cf (xA (cE (gv w.params) n sc g) es) es:=A2 fun e=>ih e S
theorem ud{as:List X}{f:CF→List D→H→Option (D×H)}{t:Sem Value}(ha:jd w hb A env g cf as es)(h:es.all bG=true→aB w hb A env g cf (xl as f) t):aB w hb A env g cf (xl as f) t:=fun uu=>fun F p=>h (ha.1 p.bd) F p
theorem vJ(B:aI w hb)(ih:PE w hb A cf n){ks:List (Option Expr)}(S:bF sc env):aB w hb A env g cf (cE (gv w.params) (n+1) sc g (.Dict ks es p)) (eval (.Dict ks es p) env):=by
 have go:aB w hb A env g cf (match vX ks with
   | some ks=>if ks.length != es.length || decide (15 < ks.length) || ks.isEmpty then aS else xl (ml (ks.map (cE (gv w.params) n sc g)) (es.map (cE (gv w.params) n sc g))) fun uu=>u0
   | none=>aS) (eval (.Dict ks es p) env):=by
  cases hk:vX ks with
  | none=>exact aZ
  | some kes=>
   intro s φ M l Q F h
   by_cases hc:(kes.length != es.length || decide (15 < kes.length) || kes.isEmpty)=true
   ·have h:Pu ((if (kes.length != es.length || decide (15 < kes.length) || kes.isEmpty)=true then aS else _) cf l M) _:=h
    rw [if_pos hc] at h;exact h.elim
   ·have h:Pu ((if (kes.length != es.length || decide (15 < kes.length) || kes.isEmpty)=true then aS else _) cf l M) _:=h
    rw [if_neg hc] at h
    simp only [Bool.or_eq_true,bne_iff_ne,ne_eq,decide_eq_true_eq,List.isEmpty_iff,not_or,Decidable.not_not] at hc
    exact xT B hk hc.1.1 (Nat.not_lt.mp hc.1.2) hc.2 (fun e=>ih e S) F h
 cases ks with
 | nil=>cases es with
  | nil=>exact vB
  | cons=>exact go
 | cons=>exact go
theorem jp(hu:A.units+10 < cLine)(ih:PE w hb A cf n){os:List CmpOp}(S:bF sc env):aB w hb A env g cf (cE (gv w.params) (n+1) sc g (.Compare a os es p)) (eval (.Compare a os es p) env)∧fk w hb A env g cf (xt (cE (gv w.params) (n+1) sc g (.Compare a os es p))) (isTrue (.Compare a os es p) env (eval (.Compare a os es p) env)):=by
 have bad:cE (gv w.params) (n+1) sc g (.Compare a os es p)=aS→aB w hb A env g cf (cE (gv w.params) (n+1) sc g (.Compare a os es p)) (eval (.Compare a os es p) env)∧fk w hb A env g cf (xt (cE (gv w.params) (n+1) sc g (.Compare a os es p))) (isTrue (.Compare a os es p) env (eval (.Compare a os es p) env)):=fun e=>by
  rw [e];exact ⟨aZ,fun uu=>fun uu p=>p.elim⟩
 rcases os with _|⟨o,_|⟨u,_|⟨u2,os⟩⟩⟩
 ·exact bad rfl
 ·rcases es with _|⟨b,_|⟨c,es⟩⟩
  ·exact bad rfl
  ·by_cases q:cG b=true
   ·have e1:cE (gv w.params) (n+1) sc g (.Compare a [o] [b] p)=ac o (cE (gv w.params) n sc g a) (cE (gv w.params) n sc g b):=if_pos q
    rw [e1]
    exact ⟨AY hu q (ih a S) (ih b S),xK hu q (ih a S) (ih b S)⟩
   ·exact bad (if_neg q)
  ·exact bad rfl
 ·rcases es with _|⟨b,_|⟨c,_|⟨d,es⟩⟩⟩
  ·exact bad rfl
  ·exact bad rfl
  ·by_cases q:(cG b && cG c)=true
   ·have e1:cE (gv w.params) (n+1) sc g (.Compare a [o,u] [b,c] p)=iH o u (cE (gv w.params) n sc g a) (cE (gv w.params) n sc g b) (cE (gv w.params) n sc g c):=if_pos q
    obtain ⟨q1,q2⟩:=aG q
    rw [e1]
    exact ⟨vC hu q2 (ih a S) (ih b S) (ih c S),rY hu q2 (ih a S) (ih b S) (ih c S)⟩
   ·exact bad (if_neg q)
  ·exact bad rfl
 ·rcases es with _|⟨b,_|⟨c,es⟩⟩<;>exact bad rfl
end
section
variable {p:Pos}{e a b:Expr}
theorem rH{lo hi st:Option Expr}(h:gq e=some (lo,hi,st)):∃ q,e=.Slice lo hi st q:=by
 cases e<;>first|(cases h;exact ⟨_,rfl⟩)|exact fO h
theorem lL(hu:A.units+10 < cLine)(ih:PE w hb A cf n)(S:bF sc env):aB w hb A env g cf (DU (cE (gv w.params) n sc g) a b) (eval (.Subscript a b p) env):=by
 unfold DU
 cases q:gq b with
 | none=>exact AR hu q (ih a S) (ih b S)
 | some t=>
  obtain ⟨lo,hi,st⟩:=t
  obtain ⟨sp,rfl⟩:=rH q
  dsimp only
  by_cases h:((eY a).isSome && st.isNone)=true
  ·rw [if_pos h]
   obtain ⟨h1,h2⟩:=aG h
   obtain ⟨x,hx⟩:=Option.isSome_iff_exists.mp h1
   obtain ⟨xp,rfl⟩:=lT hx
   cases Option.isNone_iff_eq_none.mp h2
   exact vz (ih _ S) (qg fun e=>ih e S) (qg fun e=>ih e S)
  ·rw [if_neg h];exact aZ
theorem mW(B:aI w hb)(gd:kK A k)(hc:gz w hb k cf)(ih:PE w hb A cf n)(S:bF sc env):
  aB w hb A env g cf (cE (gv w.params) (n+1) sc g (.Call (.Name x np) es [] p)) (eval (.Call (.Name x np) es [] p) env):=by
 have ha:jd w hb A env g cf (xA (cE (gv w.params) n sc g) es) es:=fM ih S
 show aB w hb A env g cf (match look x g with
   | some _=>aS
   | none=>match glob (gv w.params) sc x with
    | some (.fn a)=>xl (xA (cE (gv w.params) n sc g) es) fun c=>c a
    | some (.cls a)=>xl (xA (cE (gv w.params) n sc g) es) fun c=>wf a c
    | some (.bi .range)=>aS
    | some (.bi b)=>xl (xA (cE (gv w.params) n sc g) es) fun uu=>bi b
    | _=>aS) _
 cases look x g with
 | some i=>exact aZ
 | none=>
  cases q:glob (gv w.params) sc x with
  | none=>exact aZ
  | some v=>
   cases v with
   | fn a=>exact DZ B S gd hc q ha
   | cls a=>exact AZ B S gd hc q ha
   | bi b=>
    cases b with
    | range=>exact aZ
    | _=>exact D8 B S gd (fun e=>nomatch e) q ha
   | _=>exact aZ
theorem mX{o:Expr}(B:aI w hb)(gd:kK A k)(hc:gz w hb k cf)(ih:PE w hb A cf n)(S:bF sc env):
  aB w hb A env g cf (cE (gv w.params) (n+1) sc g (.Call (.Attribute o m ap) es [] p)) (eval (.Call (.Attribute o m ap) es [] p) env):=by
 have ha:jd w hb A env g cf (xA (cE (gv w.params) n sc g) es) es:=fM ih S
 show aB w hb A env g cf (if hH o && ap.endLine==p.line && decide (es.length < 20) then (match iF m Ff with
   | some b=>(match (match o with|.Name x _=>(match look x g with|none=>glob (gv w.params) sc x|some _=>none)|_=>none) with
    | some (.tab l)=>(match b with
     | .get=>xl (xA (cE (gv w.params) n sc g) es) fun uu=>AA l
     | _=>aS)
    | _=>dB b (cE (gv w.params) n sc g o) (xA (cE (gv w.params) n sc g) es))
   | none=>match Je.find? (fun u=>Str.ofString u==m) with
    | some u=>dT u (cE (gv w.params) n sc g o) (xA (cE (gv w.params) n sc g) es)
    | none=>aS) else aS) _
 split
 case isFalse=>exact aZ
 rename_i hq
 obtain ⟨hq,h3⟩:=aG hq
 obtain ⟨h1,h2⟩:=aG hq
 have h3:=of_decide_eq_true h3
 cases q:iF m Ff with
 | some b=>
  have me:aB w hb A env g cf (dB b (cE (gv w.params) n sc g o) (xA (cE (gv w.params) n sc g) es)) (eval (.Call (.Attribute o m ap) es [] p) env):=AN gd h1 h2 h3 q (ih o S) ha
  by_cases ho:∃ x np,o=.Name x np
  ·obtain ⟨x,np,rfl⟩:=ho
   dsimp only
   cases look x g with
   | some i=>exact me
   | none=>
    dsimp only
    cases q2:glob (gv w.params) sc x with
    | none=>exact me
    | some v=>
     cases v with
     | tab l=>
      cases b with
      | get=>exact xJ B S q h2 h3 q2 ha
      | _=>exact aZ
     | _=>exact me
  ·have e1:(match o with|.Name x _=>(match look x g with|none=>glob (gv w.params) sc x|some _=>none)|_=>none)=none:=by
    cases o<;>first|rfl|exact absurd ⟨_,_,rfl⟩ ho
   dsimp only
   rw [e1]
   exact me
 | none=>
  cases q2:Je.find? (fun u=>Str.ofString u==m) with
  | none=>exact aZ
  | some u=>
   cases eq_of_beq (show (Str.ofString u==m)=true from List.find?_some (p:=fun u=>Str.ofString u==m) q2)
   exact AM B gd hc h1 h2 h3 (ih o S) ha
theorem vK(B:aI w hb)(gd:kK A k)(hc:gz w hb k cf)(ih:PE w hb A cf n){f:Expr}{kws:List Keyword}(S:bF sc env):
  aB w hb A env g cf (cE (gv w.params) (n+1) sc g (.Call f es kws p)) (eval (.Call f es kws p) env):=by
 cases kws with
 | nil=>
  cases f with
  | Name x np=>exact mW B gd hc ih S
  | Attribute o m ap=>exact mX B gd hc ih S
  | _=>exact aZ
 | cons kw kws=>cases f<;>exact aZ
end
section
variable {p:Pos}{e a b:Expr}
def IY(w:World)(hb:Heap)(A:Around)(env:Env)(g:G)(cf:CF)(sc:Scope)(z:X)(e:Expr):Prop:=aB w hb A env g cf z (eval e env)∧
 ∀ {y:Str} {py spos:Pos} {i:Nat},ix g→look y g=some i→fH sc y=true→swapsWith e (some (.Name y py)) spos.line env=pure true→ct w hb A env g cf (ae i z) (exec (.Assign [.Name y py] e spos) env)
theorem fS:IY w hb A env g cf sc aS e:=⟨aZ,fun uu uu1 uu2 uu3=>fun uu=>fun uu p=>p.elim⟩
theorem CE{gv:Str→Option GV}{px:Pos}{it elt:Expr}{ifs:List Expr}:cE gv (n+1) sc g (.ListComp elt [⟨.Name x px,it,ifs,0⟩] sc' p)=(if jb sc sc' x it then (match ifs with
      | []=>aN (mx g) (cI (cE gv n sc g) gv sc g it) none (cE gv n sc' (eE sc' x g) elt)
      | [t]=>aN (mx g) (cI (cE gv n sc g) gv sc g it) (some (cT gv n sc' (eE sc' x g) t)) (cE gv n sc' (eE sc' x g) elt)
      | _=>aS) else aS):=rfl
theorem iy(B:aI w hb)(hh:A.handled=none)(ih:PE w hb A cf n)(ihT:PT w hb A cf n){elt:Expr}{gens:List Comprehension}(S:bF sc env):IY w hb A env g cf sc (cE (gv w.params) (n+1) sc g (.ListComp elt gens sc' p)) (.ListComp elt gens sc' p):=by
 rcases gens with _|⟨⟨tg,it,ifs,as⟩,_|⟨g2,r⟩⟩
 ·exact fS
 ·by_cases ht:∃ x px,tg=.Name x px
  ·obtain ⟨x,px,rfl⟩:=ht
   by_cases has:as=0
   ·subst has
    rw [CE]
    by_cases hok:jb sc sc' x it=true
    ·rw [if_pos hok]
     have hi:=xV (g:=g) B S (fun e=>ih e S) it
     rcases ifs with _|⟨t,_|⟨t2,r⟩⟩
     ·exact ⟨qh B hh S hok hi (fun S'=>trivial) fun S'=>ih elt S',fun G hy hk hsw=>ku B hh S G hy hk hok hi (fun S'=>trivial) (fun S'=>ih elt S') hsw⟩
     ·exact ⟨qh B hh S hok hi (fun S'=>ihT t S') fun S'=>ih elt S',fun G hy hk hsw=>ku B hh S G hy hk hok hi (fun S'=>ihT t S') (fun S'=>ih elt S') hsw⟩
     ·exact fS
    ·rw [if_neg hok]
     exact fS
   ·have:cE (gv w.params) (n+1) sc g (.ListComp elt [⟨.Name x px,it,ifs,as⟩] sc' p)=aS:=by
     rcases as with (_|a)|a
     ·exact absurd rfl has
     ·rfl
     ·rfl
    rw [this];exact fS
  ·have:cE (gv w.params) (n+1) sc g (.ListComp elt [⟨tg,it,ifs,as⟩] sc' p)=aS:=by
    cases tg<;>first|rfl|exact absurd ⟨_,_,rfl⟩ ht
   rw [this];exact fS
 ·have:cE (gv w.params) (n+1) sc g (.ListComp elt (⟨tg,it,ifs,as⟩::g2::r) sc' p)=aS:=by
   cases tg<;>first|rfl|(rcases as with (_|a)|a<;>rfl)
  rw [this];exact fS
theorem vH(B:aI w hb)(gd:kK A k)(hc:gz w hb k cf)(ih:PE w hb A cf n)(ihT:PT w hb A cf n):PE w hb A cf (n+1):=fun {sc g env} e S=>by
 cases e with
 | Constant c kk p=>
  show aB w hb A env g cf (match IJ c with|some d=>xk d|none=>aS) _
  cases q:IJ c with
  | none=>exact aZ
  | some d=>exact AX q
 | Name x p=>exact vI B S
 | BoolOp op es p=>exact qm ih S
 | BinOp a o b p=>exact A0 (ih a S) (ih b S)
 | UnaryOp op a p=>exact oN ih S
 | IfExp t a b p=>exact AO (ihT t S) (ih a S) (ih b S)
 | Tuple es kk p=>exact ud (fM ih S) fun hs=>vw ((fM ih S).2 hs _)
 | List es p=>exact ud (fM ih S) fun hs=>xR ((fM ih S).2 hs _)
 | Dict ks vs p=>exact vJ B ih S
 | Compare a os es p=>exact (jp gd.u ih S).1
 | Subscript a b p=>exact lL gd.u ih S
 | Attribute a f p=>
  show aB w hb A env g cf (if hH a then x1 (cE (gv w.params) n sc g a) fun d=>attr d f else aS) _
  split
  ·exact xX B.K ‹_› (ih a S)
  ·exact aZ
 | Call f es kws p=>exact vK B gd hc ih S
 | ListComp elt gens sc' p=>exact (iy B gd.hh ih ihT S).1
 | _=>exact aZ
theorem ia{t:XT}{op:BoolOp}(ht:fk w hb A env g cf t (isTrue e env (eval e env))):fk w hb A env g cf t (allTrue op [e] env):=fun uu=>fun F p=>by
 cases op with
 | And=>
  refine wpAny_allTrue_And_cons (ht F (p.imp fun y k s1 φ1 D1=>?_))
  obtain ⟨c,M1⟩:=y
  cases c with
  | true=>exact wpAny_allTrue_And_nil (k s1 φ1 D1)
  | false=>exact k s1 φ1 D1
 | Or=>
  refine wpAny_allTrue_Or_cons (ht F (p.imp fun y k s1 φ1 D1=>?_))
  obtain ⟨c,M1⟩:=y
  cases c with
  | false=>exact wpAny_allTrue_Or_nil (k s1 φ1 D1)
  | true=>exact k s1 φ1 D1
theorem ib{t:XT}{op:BoolOp}{whole:Sem Value}(h:fk w hb A env g cf t (allTrue op es env)):fk w hb A env g cf t (isTrue (.BoolOp op es p) env whole):=fun uu=>fun F p=>wpAny_isTrue_BoolOp (h F p)
theorem vE(hu:A.units+10 < cLine)(ih:PE w hb A cf n)(ih1:∀ m,n=m+1→PE w hb A cf m)(ihT:PT w hb A cf n):PT w hb A cf (n+1):=fun {sc g env} e S=>by
 cases e with
 | UnaryOp op a p=>
  cases op with
  | Not=>exact xI (ihT a S)
  | _=>exact xH (fun s Q h=>wpAny_isTrue_value h) (ih _ S)
 | BoolOp op es p=>
  have bad:cT (gv w.params) (n+1) sc g (.BoolOp op es p)=xt aS→fk w hb A env g cf (cT (gv w.params) (n+1) sc g (.BoolOp op es p)) (isTrue (.BoolOp op es p) env (eval (.BoolOp op es p) env)):=fun e=>by
   rw [e];exact fun uu=>fun uu p=>p.elim
  rcases es with _|⟨a,_|⟨b,_|⟨c,_|⟨d,r⟩⟩⟩⟩
  ·exact bad (by cases op<;>cases n<;>rfl)
  ·exact bad (by cases op<;>cases n<;>rfl)
  ·cases op with
   | And=>exact ib (lI (ihT a S) (ia (ihT b S)))
   | Or=>exact ib (oL (ihT a S) (ia (ihT b S)))
  ·cases op with
   | And=>exact ib (lI (ihT a S) (lI (ihT b S) (ia (ihT c S))))
   | Or=>exact ib (oL (ihT a S) (oL (ihT b S) (ia (ihT c S))))
  ·exact bad (by cases op<;>cases n<;>rfl)
 | IfExp t a b p=>exact fun uu=>fun uu p=>p.elim
 | Compare a os es p=>
  cases n with
  | zero=>exact fun uu=>fun uu p=>p.elim
  | succ m=>exact (jp hu (ih1 m rfl) S).2
 | _=>exact xH (fun s Q h=>wpAny_isTrue_value h) (ih _ S)
theorem gJ(B:aI w hb)(gd:kK A k)(hc:gz w hb k cf)(n:Nat):(PE w hb A cf n∧PT w hb A cf n)∧∀ m,n=m+1→PE w hb A cf m:=by
 induction n with
 | zero=>exact ⟨⟨fun e S=>aZ,fun e S=>fun uu=>fun uu p=>p.elim⟩,fun m h=>nomatch h⟩
 | succ n ih=>exact ⟨⟨vH B gd hc ih.1.1 ih.1.2,vE gd.u ih.1.1 ih.2 ih.1.2⟩,fun m h=>by cases h;exact ih.1.1⟩
end
section
variable {p:Pos}{e:Expr}{r:List Stmt}
abbrev PS(w:World)(hb:Heap)(A:Around)(cf:CF)(n:Nat):Prop:=∀ {sc:Scope} {g:G} {env:Env} (b:List Stmt),bF sc env→ix g→ct w hb A env g cf (cS (gv w.params) n sc g b) (execs b env)
theorem vF(B:aI w hb)(gd:kK A k)(hc:gz w hb k cf)(S:bF sc env)(G:ix g):ct w hb A env g cf (match look x g,fH sc x with
   | some i,true=>ae i (cE (gv w.params) n sc g e)
   | _,_=>eM) (exec (.Assign [.Name x np] e p) env):=by
 split
 ·have E:=(gJ B gd hc n).1.1 (sc:=sc) (g:=g) e S
  have bad:∀ {i:Nat},cE (gv w.params) n sc g e=aS→ct w hb A env g cf (ae i (cE (gv w.params) n sc g e)) (exec (.Assign [.Name x np] e p) env):=fun q=>by
   rw [q];exact fun uu=>fun uu p=>p.elim
  cases e with
  | ListComp elt gens sc' cp=>
   obtain ⟨b,hsw⟩:∃ b,swapsWith (.ListComp elt gens sc' cp) (some (.Name x np)) p.line env=pure b:=⟨_,rfl⟩
   cases b with
   | false=>exact ue S G ‹_› ‹_› hsw E
   | true=>cases n with
    | zero=>exact bad rfl
    | succ m=>
     have q:=(gJ B gd hc m).1
     exact (iy B gd.hh q.1 q.2 S).2 G ‹_› ‹_› hsw
  | SetComp=>exact bad (by cases n<;>rfl)
  | DictComp=>exact bad (by cases n<;>rfl)
  | _=>exact ue S G ‹_› ‹_› rfl E
 ·exact bN
theorem qk{ts:List Expr}(B:aI w hb)(gd:kK A k)(hc:gz w hb k cf)(S:bF sc env)(G:ix g)(ih:ct w hb A env g cf (cS (gv w.params) n sc g r) (execs r env)):ct w hb A env g cf (cS (gv w.params) (n+1) sc g (.Assign ts e p::r)) (execs (.Assign ts e p::r) env):=by
 have E:=fun e=>(gJ B gd hc n).1.1 (sc:=sc) (g:=g) (env:=env) e S
 rcases ts with _|⟨t,_|⟨t2,ts⟩⟩
 ·exact bA bN ih
 ·cases t with
  | Name x np=>exact bA (vF B gd hc S G) ih
  | Tuple es kk tp=>
   have:ct w hb A env g cf (match names sc g es,pU es e with
    | some is,true=>iL is (cE (gv w.params) n sc g e)
    | _,_=>eM) (exec (.Assign [.Tuple es kk tp] e p) env):=by
    split
    ·exact AQ B gd.hh S G ‹_› ‹_› (E e)
    ·exact bN
   exact bA this ih
  | Attribute o f tp=>exact bA (vy B.K (by cases e<;>rfl) (by cases e<;>rfl) (E e) (E o)) ih
  | Subscript o i tp=>
   have:ct w hb A env g cf (if (gq i).isNone then bB (cE (gv w.params) n sc g e) (cE (gv w.params) n sc g o) (cE (gv w.params) n sc g i) else eM) (exec (.Assign [.Subscript o i tp] e p) env):=by
    split
    ·exact vx gd.u (by cases e<;>rfl) (E e) (E o) (E i)
    ·exact bN
   exact bA this ih
  | _=>exact bA bN ih
 ·have e1:cS (gv w.params) (n+1) sc g (.Assign (t::t2::ts) e p::r)=fL eM (cS (gv w.params) n sc g r):=by cases t<;>rfl
  rw [e1]
  exact bA bN ih
theorem lK{t:Expr}{o:Operator}(B:aI w hb)(gd:kK A k)(hc:gz w hb k cf)(S:bF sc env)(G:ix g)(ih:ct w hb A env g cf (cS (gv w.params) n sc g r) (execs r env)):ct w hb A env g cf (cS (gv w.params) (n+1) sc g (.AugAssign t o e p::r)) (execs (.AugAssign t o e p::r) env):=by
 cases t with
 | Name x np=>
  have:ct w hb A env g cf (match look x g,fH sc x with
   | some i,true=>ae i (x2 (xv i) (cE (gv w.params) n sc g e) (Aj o))
   | _,_=>eM) (exec (.AugAssign (.Name x np) o e p) env):=by
   split
   ·exact A1 S G ‹_› ‹_› ((gJ B gd hc n).1.1 e S)
   ·exact bN
  exact bA this ih
 | _=>exact bA bN ih
theorem vG(B:aI w hb)(gd:kK A k)(hc:gz w hb k cf)(S:bF sc env):ct w hb A env g cf (if ut e then bn (cE (gv w.params) n sc g e) else eM) (exec (.Expr e p) env):=by
 have bad:cE (gv w.params) n sc g e=aS→ct w hb A env g cf (bn (cE (gv w.params) n sc g e)) (exec (.Expr e p) env):=fun q=>by
  rw [q];exact fun uu=>fun uu p=>p.elim
 split
 ·cases e with
  | ListComp=>exact gW ‹_›
  | SetComp=>exact bad (by cases n<;>rfl)
  | DictComp=>exact bad (by cases n<;>rfl)
  | _=>exact AW rfl ((gJ B gd hc n).1.1 _ S)
 ·exact bN
theorem xY{t it:Expr}{b oe:List Stmt}(B:aI w hb)(gd:kK A k)(hc:gz w hb k cf)(S:bF sc env)(G:ix g)(ih:PS w hb A cf n):ct w hb A env g cf (cS (gv w.params) (n+1) sc g (.For t it b oe p::r)) (execs (.For t it b oe p::r) env):=by
 cases t with
 | Name x xp=>
  cases oe with
  | nil=>
   have:ct w hb A env g cf (match look x g,fH sc x && cG it with
    | some i,true=>bO i (cI (cE (gv w.params) n sc g) (gv w.params) sc g it) (cS (gv w.params) n sc g b)
    | _,_=>eM) (exec (.For (.Name x xp) it b [] p) env):=by
    split
    ·rename_i h1 h2
     obtain ⟨h2,h3⟩:=aG h2
     exact AV B gd.hh S G h1 h2 h3 (xV B S (fun e=>(gJ B gd hc n).1.1 e S) it) (ih b S G)
    ·exact bN
   exact bA this (ih r S G)
  | cons=>exact bA bN (ih r S G)
 | _=>exact bA bN (ih r S G)
theorem FG(B:aI w hb)(gd:kK A k)(hc:gz w hb k cf)(n:Nat):PS w hb A cf n:=by
 induction n with
 | zero=>exact fun b S G=>bN
 | succ n ih=>
  intro sc g env b S G
  have E:=fun e=>(gJ B gd hc n).1.1 (sc:=sc) (g:=g) (env:=env) e S
  have T:=fun e=>(gJ B gd hc n).1.2 (sc:=sc) (g:=g) (env:=env) e S
  cases b with
  | nil=>exact AT
  | cons st r=>
   have R:=ih r S G
   cases st with
   | Return e p=>cases e with
    | none=>exact bA xN R
    | some e=>exact bA (AS (E e)) R
   | Continue p=>exact bA xU R
   | Pass p=>exact bA xO R
   | If t a b p=>exact bA (DX (T t) (ih a S G) (ih b S G)) R
   | For t it b oe p=>exact xY B gd hc S G ih
   | While t b oe p=>cases oe with
    | nil=>exact bA (vu (T t) (ih b S G)) R
    | cons=>exact bA bN R
   | Assign ts e p=>exact qk B gd hc S G R
   | AugAssign t o e p=>exact lK B gd hc S G R
   | Expr e p=>exact bA (vG B gd hc S) R
   | _=>exact bA bN R
theorem FH(B:aI w hb)(n:Nat):gz w hb n (ab w.params n):=by
 induction n with
 | zero=>exact vL
 | succ n ih=>exact vM B fun gd hok es=>FG B gd ih 60 _ ⟨fun x=>.inl (by rw [es])⟩ (zy (lR (Db hok).p14))
end
def vb:Prop:=∀ (P:Params) (ns:List Int),ns.length≤63→∃ H',Eb P ns=some (.bool true,H')
theorem I9(law:vb)(w:World)(s:Shared)(ns:List Int)(vals:List Value)(l:Addr)(B:aI w s.heap)(hg:s.gens=#[])(hn:ns.length≤63)(hl:s.heap.get? l=some { cls:=.type "list",data:=.seq vals.toArray })(hm:(l==sysModules)=false)(hI:IntsAre vals ns):
  wpAny (model pw0 w) callerA (call (.ref 1169) [.ref l]) (fun v s'=>v=.bool true∧(∀ b o,s.heap.get? b=some o→s'.heap.get? b=some o)∧s'.os=s.os∧s'.gens=#[]) (fun uu uu1=>False) s:=by
 obtain ⟨H',hr⟩:=law w.params ns hn
 have no:∀ a,¬ dm [(l,l)] a:=fun a ⟨p,hp,uu⟩=>absurd hp List.not_mem_nil
 have R0:R w s.heap [(l,l)] s.heap ([.lst (ns.map .int)]:List MO):=by
  refine ⟨rfl,fun n p o hp ho=>?_,fun i j p q hi hj uu=>?_,fun a o=>(no a o).elim,List.cons_ne_nil _ _,fun n p hp=>?_,vc B,fun b o e=>e,⟨_,rfl⟩⟩
  ·cases n with
   | zero=>cases hp;cases ho;exact ⟨rfl,by rw [List.length_map];omega,_,0,hl,uP hI⟩
   | succ n=>cases hp
  ·cases i with
   | zero=>cases j with
    | zero=>rfl
    | succ j=>cases hj
   | succ i=>cases hi
  ·cases n with
   | zero=>cases hp;exact beq_eq_false_iff_ne.mp hm
   | succ n=>cases hp
 have gd:Gd callerA 30:=⟨rfl,by decide,by decide⟩
 have hV:Vs [(l,l)] s.heap [.ref l] [.ref 0]:=⟨.ref (p:=(l,l)) rfl,trivial⟩
 exact wpAny_call (FH B 30 gd R0 hV (Q:=fun v s'=>v=.bool true∧(∀ b o,s.heap.get? b=some o→s'.heap.get? b=some o)∧s'.os=s.os∧s'.gens=#[]) (.of hr fun v s' φ' D V=>⟨V,fun b o e=>D.st.keep b o e (no b),D.os,D.gens.trans hg⟩))
end Mine.Internal
namespace Mine.Internal
local macro_rules
 |`(tactic|omega)=>`(tactic|first|lia|omega)
variable {P:Params}{h hh h1 h2 h0 h' hb h3:H}{c:CF}{d d1 d2 z cell dP dQ nme dO w9 w11:D}{n m i k j t S key v p N r s dA nA mK k1 M t0 ot dl n' p2 C did how p1 tab base mQ:Nat}{b:Tb}{T' ds rs acc ps Ld A:List D}{tn w byo dc:Bool}{dd:Option (Nat×Nat)}{Y ys K ts js I ns qs Ss rest vs ks' ids od:List Nat}{lp lp':LP}{o o1 o2:Ob}{f:Nat→LP}{os os':List MO}{oo:Option Nat}{Ls:List LP}{g g':Nat→D}{obs:List Ob}{fs:List (Str×D)}{m2 m1 mb':Mb}{ans:List (Option Nat)}{E:List (D×D)}{o':MO}{chk:H→Bool}
section
variable {l l1 l2:L}{a b e:X}{t u:XT}{x y:XS}{d3:D}
theorem dy{α β γ:Type}{o:Option (α×γ)}{k:α→γ→Option β}{x:α}{y:γ}{r:Option β}(ho:o=some (x,y))(hk:k x y=r):Internal.bd o k=r:=by rw [ho];exact hk
theorem v_{i:Nat}(hl:l i=some d):xv i c l h=some (d,h):=by unfold xv;rw [hl]
theorem kQ{f:D→H→Option (D×H)}{r:Option (D×H)}(ha:a c l h=some (d,h1))(hf:f d h1=r):x1 a f c l h=r:=dy ha hf
theorem ar{f:D→D→H→Option (D×H)}{r:Option (D×H)}(ha:a c l h=some (d1,h1))(hb:b c l h1=some (d2,h2))(hf:f d1 d2 h2=r):x2 a b f c l h=r:=dy ha (dy hb hf)
theorem CS{f:D→D→D→H→Option (D×H)}{r:Option (D×H)}(ha:a c l h=some (d1,h1))(hb:b c l h1=some (d2,h2))(he:e c l h2=some (d3,h3))(hf:f d1 d2 d3 h3=r):x3 a b e f c l h=r:=dy ha (dy hb (dy he hf))
theorem KR:xs [] c l h=some ([],h):=rfl
theorem bV{as:List X}{ds:List D}(ha:a c l h=some (d,h1))(hb:xs as c l h1=some (ds,h2)):xs (a::as) c l h=some (d::ds,h2):=dy ha (dy hb rfl)
theorem aQ(ha:a c l h=some (d,h1)):xs [a] c l h=some ([d],h1):=bV ha rfl
theorem dJ(ha:a c l h=some (d1,h1))(hb:b c l h1=some (d2,h2)):xs [a,b] c l h=some ([d1,d2],h2):=bV ha (aQ hb)
theorem dW(ha:a c l h=some (d1,h1))(hb:b c l h1=some (d2,h2))(he:e c l h2=some (d3,h3)):xs [a,b,e] c l h=some ([d1,d2,d3],h3):=bV ha (dJ hb he)
theorem bZ{as:List X}{f:CF→List D→H→Option (D×H)}{ds:List D}{r:Option (D×H)}(ha:xs as c l h=some (ds,h1))(hf:f c ds h1=r):xl as f c l h=r:=dy ha hf
theorem tW{v:Bool}(ha:a c l h=some (d,h1))(hf:gG d h1=some v):xt a c l h=some (v,h1):=dy ha (by rw [hf];rfl)
theorem av{v:Bool}(ha:a c l h=some (.bool v,h1)):xt a c l h=some (v,h1):=tW ha rfl
theorem aF{o:CmpOp}{v:Bool}(ha:a c l h=some (d1,h1))(hb:b c l h1=some (d2,h2))(hf:eF o d1 d2 h2=some v):ac o a b c l h=some (.bool v,h2):=ar ha hb (by rw [hf];rfl)
theorem eQ{v:Bool}{r:Option (D×H)}(ht:t c l h=some (v,h1))(hr:(bif v then a c l h1 else b c l h1)=r):bz t a b c l h=r:=dy ht hr
theorem ko{v:Bool}(ht:t c l h=some (v,h1)):iu t c l h=some (!v,h1):=dy ht rfl
theorem fG(ht:t c l h=some (false,h1)):bM t u c l h=some (false,h1):=dy ht rfl
theorem iJ{r:Option (Bool×H)}(ht:t c l h=some (true,h1))(hu:u c l h1=r):bM t u c l h=r:=dy ht hu
theorem lw(ht:t c l h=some (true,h1)):dn t u c l h=some (true,h1):=dy ht rfl
theorem jl{r:Option (Bool×H)}(ht:t c l h=some (false,h1))(hu:u c l h1=r):dn t u c l h=r:=dy ht hu
theorem dF{v w:Bool}(ht:t c l h=some (v,h))(hu:u c l h=some (w,h)):bM t u c l h=some (v && w,h):=by cases v;exact fG ht;exact iJ ht hu
theorem cw{v w:Bool}(ht:t c l h=some (v,h))(hu:u c l h=some (w,h)):dn t u c l h=some (v || w,h):=by cases v;exact jl ht hu;exact lw ht
theorem bg{r:Option (Fl×L×H)}(ha:x c l h=some (.next,l1,h1))(hb:y c l1 h1=r):fL x y c l h=r:=dy ha hb
theorem AG(ha:x c l h=some (.ret d,l1,h1)):fL x y c l h=some (.ret d,l1,h1):=dy ha rfl
theorem zu{v:Bool}{r:Option (Fl×L×H)}(ht:t c l h=some (v,h1))(hr:(bif v then x c l h1 else y c l h1)=r):ay t x y c l h=r:=dy ht hr
theorem GI{z:XS}{v:Bool}(ht:t c l h=some (v,h1))(hv:v=true)(hr:x c l h1=some (.ret d,l1,h2)):fL (ay t x z) y c l h=some (.ret d,l1,h2):=by subst hv;exact AG (zu ht hr)
theorem ja{z:XS}{v:Bool}(ht:t c l h=some (v,h1))(hv:v=true)(ha:a c l h1=some (d,h2)):fL (ay t (fL (af a) aa) z) y c l h=some (.ret d,l,h2):=GI ht hv (AG (dy ha rfl))
theorem j2{z:XS}{v:Bool}{r:Option (Fl×L×H)}(ht:t c l h=some (v,h1))(hv:v=true)(hr:x c l h1=some (.next,l1,h2))(hn:y c l1 h2=r):fL (ay t x z) y c l h=r:=by subst hv;exact bg (zu ht hr) hn
theorem bI{v:Bool}{r:Option (Fl×L×H)}(ht:t c l h=some (v,h1))(hv:v=false)(hr:y c l h1=r):fL (ay t x aa) y c l h=r:=by subst hv;exact bg (zu ht rfl) hr
def hU(x:XS)(c:CF)(l:L)(h:H)(d:D)(h1:H):Prop:=∃ l1,x c l h=some (.ret d,l1,h1)
theorem ax(ha:x c l h=some (.next,l1,h1))(hb:hU y c l1 h1 d h2):hU (fL x y) c l h d h2:=let ⟨l',e⟩:=hb;⟨l',bg ha e⟩
theorem uk(ha:hU x c l h d h1):hU (fL x y) c l h d h1:=let ⟨l',e⟩:=ha;⟨l',AG e⟩
theorem aj(ha:a c l h=some (d,h1)):hU (fL (af a) y) c l h d h1:=⟨l,AG (dy ha rfl)⟩
theorem aL{z:XS}{v:Bool}(ht:t c l h=some (v,h1))(hv:v=true)(ha:a c l h1=some (d,h2)):hU (fL (ay t (fL (af a) aa) z) y) c l h d h2:=⟨l,ja ht hv ha⟩
theorem FL{z:XS}{v:Bool}(ht:t c l h=some (v,h1))(hv:v=true)(ha:hU x c l h1 d h2):hU (fL (ay t x z) y) c l h d h2:=let ⟨l',e⟩:=ha;⟨l',GI ht hv e⟩
theorem eX{z:XS}{v:Bool}(ht:t c l h=some (v,h1))(hv:v=true)(hr:x c l h1=some (.next,l1,h2))(hn:hU y c l1 h2 d h3):hU (fL (ay t x z) y) c l h d h3:=let ⟨l',e⟩:=hn;⟨l',j2 ht hv hr e⟩
theorem ai{v:Bool}(ht:t c l h=some (v,h1))(hv:v=false)(hn:hU y c l h1 d h2):hU (fL (ay t x aa) y) c l h d h2:=let ⟨l',e⟩:=hn;⟨l',bI ht hv e⟩
theorem K1(ha:a c l h=some (d,h1)):af a c l h=some (.ret d,l,h1):=dy ha rfl
theorem aA{i:Nat}(ha:a c l h=some (d,h1)):ae i a c l h=some (.next,upd l i d,h1):=dy ha rfl
theorem dS(ha:a c l h=some (d,h1)):bn a c l h=some (.next,l,h1):=dy ha rfl
theorem eW{h4:H}(ha:a c l h=some (d1,h1))(hb:b c l h1=some (d2,h2))(he:e c l h2=some (d3,h3))(hf:setItem d2 d3 d1 h3=some h4):bB a b e c l h=some (.next,l,h4):=dy ha (dy hb (dy he (by rw [hf];rfl)))
theorem CY{f:Str}{h4:H}(ha:a c l h=some (d1,h1))(hb:b c l h1=some (d2,h2))(hf:setAttr d2 f d1 h2=some h4):bx a b f c l h=some (.next,l,h4):=dy ha (dy hb (by rw [hf];rfl))
theorem ah{n k:Nat}{adr:Nat}{bd:XS}{as as' df:List D}(hf:wC P adr=some ⟨k,df,bd⟩)(hfill:wE k as df=some as')(he:hU bd (ab P n) (fun i=>as'[i]?) h d h1):ab P (n+1) adr as h=some (d,h1):=by
 obtain ⟨l',he⟩:=he
 show Option.bind (wC P adr) _=_
 rw [hf]
 show Option.bind (wE k as df) _=_
 rw [hfill]
 exact dy he rfl
theorem pI{n k:Nat}{adr:Nat}{bd:XS}{as as' df:List D}(hf:wC P adr=some ⟨k,df,bd⟩)(hfill:wE k as df=some as')(he:bd (ab P n) (fun i=>as'[i]?) h=some (.next,l1,h1)):ab P (n+1) adr as h=some (.none,h1):=by
 show Option.bind (wC P adr) _=_
 rw [hf]
 show Option.bind (wE k as df) _=_
 rw [hfill]
 exact dy he rfl
theorem rO{adr:Nat}{as:List X}{ds:List D}{r:Option (D×H)}(ha:xs as c l h=some (ds,h1))(hc:c adr ds h1=r):xf adr as c l h=r:=bZ ha hc
theorem I5{α:Type}{e:α→D}{ys:List α}{j:Nat}{z:D}(h:(ys.map e)[j]?=some z){G:Prop}(K:∀ y,ys[j]?=some y→z=e y→G):G:=by
 rw [List.getElem?_map] at h
 cases q:ys[j]? with
 | none=>rw [q] at h;cases h
 | some y=>rw [q] at h;cases h;exact K y q rfl
theorem dD{adr:Nat}{r:Option (D×H)}(ha:a c l h=some (d1,h1))(hc:c adr [d1] h1=r):xf adr [a] c l h=r:=bZ (aQ ha) hc
theorem az{adr:Nat}{r:Option (D×H)}(ha:a c l h=some (d1,h1))(hb:b c l h1=some (d2,h2))(hc:c adr [d1,d2] h2=r):xf adr [a,b] c l h=r:=bZ (dJ ha hb) hc
theorem ck{adr:Nat}{r:Option (D×H)}(ha:a c l h=some (d1,h1))(hb:b c l h1=some (d2,h2))(he:e c l h2=some (d3,h3))(hc:c adr [d1,d2,d3] h3=r):xf adr [a,b,e] c l h=r:=bZ (dW ha hb he) hc
theorem aH{i:Nat}(ha:a c l h=some (d1,h1))(hb:hU y c (upd l i d1) h1 d h2):hU (fL (ae i a) y) c l h d h2:=ax (aA ha) hb
theorem Gg{α:Type}{f:α→D}{chk:H→Bool}{i:Nat}{bd:XS}{ys:List α}(I:Nat→L→H→Prop)(st:∀ j l h,I j l h→chk h=true)
  (step:∀ j y l h,ys[j]?=some y→I j l h→∀ G:Prop,(∀ l' h',bd c (upd l i (f y)) h=some (.next,l',h')→I (j+1) l' h'→G)→G)
  (h0:I 0 l h) {G:Prop} (K:∀ l' h',bC chk i bd c (ys.map f) l h=some (.next,l',h')→I ys.length l' h'→G):G:=by
 have key:∀ (r:List α) (j:Nat),ys.drop j=r→j+r.length=ys.length→∀ l h,I j l h→∀ G:Prop,(∀ l' h',bC chk i bd c (r.map f) l h=some (.next,l',h')→I ys.length l' h'→G)→G:=by
  intro r
  induction r with
  | nil=>exact fun j hd hj l h hI G K=>K l h (if_pos (st j l h hI)) (hj▸hI)
  | cons y r ih=>
   intro j hd hj l h hI G K
   have e:ys[j]?=some y:=by rw [←List.head?_drop,hd];rfl
   refine step j y l h e hI _ fun l' h' k1 k2=>ih (j+1) (by rw [←List.drop_drop,hd];rfl) ((Nat.succ_add_eq_add_succ j r.length).trans hj) l' h' k2 _ fun l2 h2 k3=>K l2 h2 ?_
   show (if chk h=true then _ else _)=_
   rw [if_pos (st j l h hI),k1]
   exact k3
 exact key ys 0 rfl (Nat.zero_add _) l h h0 _ K
theorem aO{i:Nat}{bd:XS}{ds:List D}{r:Option (Fl×L×H)}(ha:a c l h=some (d,h1))(hi:bH d h1=some ds)(hl:ds.length < 100000)(hr:bC (still d ds (knd d h1)) i bd c ds l h1=r):bO i a bd c l h=r:=dy ha (by rw [hi,Option.bind_some,if_pos hl];exact hr)
theorem GN{α:Type}{f:α→D}{i:Nat}{bd:XS}{ys:List α}(I:Nat→L→H→Prop)(ha:a c l h=some (d,h1))(hi:bH d h1=some (ys.map f))(hl:ys.length < 100000)
  (st:∀ j l h,I j l h→still d (ys.map f) (knd d h1) h=true)
  (step:∀ j y l h,ys[j]?=some y→I j l h→∀ G:Prop,(∀ l' h',bd c (upd l i (f y)) h=some (.next,l',h')→I (j+1) l' h'→G)→G)
  (h0:I 0 l h1) {G:Prop} (K:∀ l' h',bO i a bd c l h=some (.next,l',h')→I ys.length l' h'→G):G:=
 Gg I st step h0 fun l' h' e q=>K l' h' (aO ha hi (by rw [List.length_map];exact hl) e) q
def Le(m l:L):Prop:=∀ i d,m i=some d→l i=some d
theorem Le.refl:Le l l:=fun uu uu1 e=>e
theorem Le.set{m:L}(q:Le m l){i:Nat}{z:D}:Le (upd m i z) (upd l i z):=fun j d e=>by
 by_cases k:j=i
 ·exact (if_pos k).trans ((if_pos k).symm.trans e)
 ·exact (if_neg k).trans (q j d ((if_neg k).symm.trans e))
theorem Le.upd{m:L}(q:Le m l){i:Nat}{z:D}(n:m i=none):Le m (upd l i z):=fun j d e=>by
 by_cases k:j=i
 ·subst k;exact fO (n.symm.trans e)
 ·exact (if_neg k).trans (q j d e)
theorem w_{m:L}{i:Nat}(q:Le m l)(e:m i=some d):xv i c l h=some (d,h):=v_ (q i d e)
theorem wN{α:Type}{f g:α→D}{p:α→Bool}{chk:H→Bool}{i:Nat}{tt:Option XT}(hc:chk h=true){ys:List α}{acc:List D}(h1:∀ y∈ys,nI tt c (upd l i (f y)) h=some (p y,h))(h2:∀ y∈ys,p y=true→e c (upd l i (f y)) h=some (g y,h)):
  dw chk i tt e c (ys.map f) l h acc=some (acc++(ys.filter p).map g,h):=by
 induction ys generalizing acc with
 | nil=>exact (if_pos hc).trans (by rw [List.filter_nil,List.map_nil,List.append_nil])
 | cons y r ih=>
  have ih:=fun acc=>ih (acc:=acc) (fun z hz=>h1 z (aE _ hz)) fun z hz=>h2 z (aE _ hz)
  refine (if_pos hc).trans (dy (h1 y aw) ?_)
  rw [List.filter_cons]
  cases q:p y with
  | true=>exact dy (h2 y aw q) ((ih _).trans (by rw [if_pos rfl,List.map_cons,List.append_assoc];rfl))
  | false=>exact (ih _).trans (by rw [if_neg Bool.false_ne_true])
theorem bE{ds:List D}(hi:bH d h1=some ds)(hk:knd d h1=knd d h):still d ds (knd d h) h1=true:=by
 unfold still
 rw [hi,hk,beq_self_eq_true]
 exact eqbs_refl ds
theorem fF{i:Nat}{it:X}{tt:Option XT}{ds acc:List D}(ha:it c l h=some (d,h1))(hi:bH d h1=some ds)(hl:ds.length < 100000)(hr:dw (still d ds (knd d h1)) i tt e c ds l h1 []=some (acc,h2)):aN i it tt e c l h=some (.ref h2.length,h2++[.lst acc]):=dy ha (by rw [hi,Option.bind_some,if_pos hl];exact dy hr rfl)
theorem oE{α:Type}{f g:α→D}{p:α→Bool}{i:Nat}{it:X}{tt:Option XT}{ys:List α}(ha:it c l h=some (d,h1))(hi:bH d h1=some (ys.map f))(hl:ys.length < 100000)(q1:∀ y∈ys,nI tt c (upd l i (f y)) h1=some (p y,h1))(q2:∀ y∈ys,p y=true→e c (upd l i (f y)) h1=some (g y,h1)):aN i it tt e c l h=some (.ref h1.length,h1++[.lst ((ys.filter p).map g)]):=
 fF ha hi (by rw [List.length_map];exact hl) (wN (bE hi rfl) q1 q2)
theorem fu{α:Type}{f g:α→D}{i:Nat}{it:X}{ys:List α}(ha:it c l h=some (d,h1))(hi:bH d h1=some (ys.map f))(hl:ys.length < 100000)(q2:∀ y∈ys,e c (upd l i (f y)) h1=some (g y,h1)):aN i it none e c l h=some (.ref h1.length,h1++[.lst (ys.map g)]):=
 (oE (p:=fun uu=>true) ha hi hl (fun uu uu1=>rfl) fun y hy uu=>q2 y hy).trans (by rw [List.filter_eq_self.mpr fun uu uu1=>rfl])
end
theorem an{l:List D}{h:H}:still (.tup l) l 0 h=true:=bE (d:=.tup l) (h:=h) rfl rfl
theorem EB{n a b c:Nat}(h:a < n∧b < n∧c < n):n≠a∧n≠b∧n≠c:=⟨Nat.ne_of_gt h.1,Nat.ne_of_gt h.2.1,Nat.ne_of_gt h.2.2⟩
noncomputable def pos(x:D):List D→Option Nat
 | []=>none
 | a::r=>if D.eqb a x then some 0 else (pos x r).map (·+1)
structure Tb where
 (tab r i:Nat)
structure HT(b:Tb)(h:H)(T:List D):Prop where
 tab:∃ fs,(h:List MO)[b.tab]?=some (.ins 140 fs)∧bp (q "rows") fs=some (.ref b.r)∧bp (q "index") fs=some (.ref b.i)∧bp (q "put") fs=none
 r:(h:List MO)[b.r]?=some (.lst T)
 i:∃ I,(h:List MO)[b.i]?=some (.dct I)∧cW 3 I=true∧I.length≤T.length∧∀ x:D,bh x I=(pos x T).map fun (k:Nat)=>.int k
 ne:b.r≠0∧b.i≠0∧b.r≠b.i∧b.tab≠b.r∧b.tab≠b.i
 nd:T.Nodup
def dE(b:Tb)(h h':H):Prop:=(h:List MO).length≤(h':List MO).length∧∀ (n:Nat) (o:MO),(h:List MO)[n]?=some o→n≠b.r→n≠b.i→(h':List MO)[n]?=some o
section
variable {l:L}{T:List D}{a k:X}{o:MO}{K:List D}{I:List (D×D)}
theorem cJ(e:(h:List MO)[n]?=some o):n < (h:List MO).length:=(cv e).1
theorem au{os:List MO}(e:(h:List MO)[n]?=some o):(h++os:List MO)[n]?=some o:=(List.getElem?_append_left (cJ e)).trans e
theorem ak:(h++[o]:List MO)[(h:List MO).length]?=some o:=(List.getElem?_append_right (Nat.le_refl _)).trans (by rw [Nat.sub_self];rfl)
theorem fX:(h++[o]:List MO).set (h:List MO).length o'=h++[o']:=(List.set_append_right _ _ (Nat.le_refl _)).trans (by rw [Nat.sub_self];rfl)
theorem aY(e:(h:List MO)[m]?=some o)(ne:m≠n):(h.set n o':List MO)[m]?=some o:=(List.getElem?_set_ne (Ne.symm ne)).trans e
theorem co(e:(h:List MO)[n]?=some o):(h.set n o':List MO)[n]?=some o':=List.getElem?_set_self (cJ e)
theorem ox{C:Nat}{f:Str}{fs:List (Str×D)}(hn:(h:List MO)[n]?=some (.ins C fs))(hf:gh C f=true)(hl:bp f fs=some d):attr (.ref n) f h=some (d,h):=by
 show onO (h:List MO)[n]? _=_
 rw [hn];exact (if_pos hf).trans (by rw [hl];rfl)
theorem xn{m:BM}{as:List X}{ds:List D}{r:Option (D×H)}(ho:a c l h=some (d,h1))(hk:(knd d h1==kindOf m)=true)(has:xs as c l h1=some (ds,h2))(hf:bm m d ds h2=r):dB m a as c l h=r:=dy ho ((if_pos hk).trans (dy has hf))
theorem xm{C f u:Nat}{m:String}{fs:List (Str×D)}{as:List X}{ds:List D}{r:Option (D×H)}(ho:a c l h=some (.ref u,h1))(hu:(h1:List MO)[u]?=some (.ins C fs))(hl:bp (Str.ofString m) fs=none)(hm:Gb C m=some f)(has:xs as c l h1=some (ds,h2))(hc:c f (.ref u::ds) h2=r):dT m a as c l h=r:=by
 refine dy ho ?_
 show onO (h1:List MO)[u]? _=_
 rw [hu]
 exact (if_pos hl).trans (by rw [hm];exact dy has hc)
theorem di(e:(h:List MO)[n]?=some (.lst K)):knd (.ref n) h=1:=by unfold knd;dsimp only;rw [e]
theorem pe(e:(h:List MO)[n]?=some (.dct I)):knd (.ref n) h=2:=by unfold knd;dsimp only;rw [e]
theorem dU(hn:(h:List MO)[n]?=some (.lst K)):bi .len [.ref n] h=some (.int K.length,h):=by
 show (match (h:List MO)[n]? with|some (.lst l)=>some (D.int l.length,h)|some (.dct l)=>if fE l then some (D.int l.length,h) else none|_=>none)=_
 rw [hn]
theorem CO(hn:(h:List MO)[n]?=some (.lst K))(h0:n≠0)(hl:K.length+1 < 100000):bm .append (.ref n) [d] h=some (.none,(h.set n (.lst (K++[d])):List MO)):=by
 refine (if_neg fun e=>h0 (eq_of_beq e)).trans ?_
 show onL (h:List MO)[n]? _=_
 rw [hn]
 exact if_pos hl
theorem dz{z:D}(hm:m≠0)(ha:a c l h=some (.ref m,h))(e0:(h:List MO)[m]?=some (.lst K))(hk:xs [k] c l h=some ([z],h2))(e:(h2:List MO)[m]?=some (.lst K))(hl:K.length+1 < 100000):dB .append a [k] c l h=some (.none,(h2.set m (.lst (K++[z])):List MO)):=
 xn ha (by rw [di e0];rfl) hk (CO e hm hl)
theorem Am{t n:Nat}(h:t < n):tP (t:Int) n=some t:=(if_pos (Int.natCast_nonneg t)).trans (if_pos (Int.ofNat_lt.mpr h))
theorem aP{t:Nat}(ht:K[t]?=some d):item (.tup K) (.int t) h=some (d,h):=by
 show Option.map _ ((tP (t:Int) K.length).bind _)=_
 rw [Am (cv ht).1]
 show Option.map _ K[t]?=_
 rw [ht];rfl
theorem aX{t:Nat}(hn:(h:List MO)[n]?=some (.lst K))(ht:K[t]?=some d):item (.ref n) (.int t) h=some (d,h):=by
 unfold item;dsimp only;rw [hn]
 exact aP ht
theorem aq:item (.tup (d::K)) (.int 0) h=some (d,h):=aP (t:=0) rfl
theorem bj:item (.tup (d1::d::K)) (.int 1) h=some (d,h):=aP (t:=1) rfl
theorem pz(hn:(h:List MO)[n]?=some (.dct I))(ok:sJ d I=true):eF .In d (.ref n) h=some (bh d I).isSome:=by
 show zo d (.ref n) h=_
 have q:=(aG ok).1
 unfold zo
 dsimp only
 rw [q,hn]
 exact (if_neg (by decide)).trans (if_pos ok)
theorem fP(hn:(h:List MO)[n]?=some (.dct I))(ok:sJ d I=true)(e:bh d I=some d1):item (.ref n) d h=some (d1,h):=by
 unfold item;dsimp only;rw [hn]
 exact (if_pos ok).trans (by rw [e];rfl)
theorem gM(h0:n≠0)(hn:(h:List MO)[n]?=some (.dct I))(ok:sJ d I=true)(hl:I.length+1 < 100000):setItem (.ref n) d d1 h=some (h.set n (.dct (cL d d1 I))):=by
 refine (if_neg fun e=>h0 (eq_of_beq e)).trans ?_
 rw [hn]
 exact if_pos ((Bool.and_eq_true _ _).mpr ⟨ok,decide_eq_true hl⟩)
theorem jN(hm:(h:List MO)[m]?=some (.lst K)):gG (.ref m) h=some (!K.isEmpty):=by unfold gG;dsimp only;rw [hm]
theorem jM(hm:(h:List MO)[m]?=some (.lst K)):bi .tuple [.ref m] h=some (.tup K,h):=by
 show onL (h:List MO)[m]? _=_
 rw [hm];rfl
theorem aK(hm:(h:List MO)[m]?=some (.lst K)):bH (.ref m) h=some K:=by unfold bH;dsimp only;rw [hm]
theorem HT.rows(x:HT b h T):attr (.ref b.tab) (q "rows") h=some (.ref b.r,h):=let ⟨_,h1,h2,_⟩:=x.tab;ox h1 (by decide) h2
theorem HT.index(x:HT b h T):attr (.ref b.tab) (q "index") h=some (.ref b.i,h):=let ⟨_,h1,_,h2,_⟩:=x.tab;ox h1 (by decide) h2
theorem HT.lts(x:HT b h T):b.tab < (h:List MO).length∧b.r < (h:List MO).length∧b.i < (h:List MO).length:=let ⟨_,h1,_⟩:=x.tab;let ⟨_,h2,_⟩:=x.i;⟨cJ h1,cJ x.r,cJ h2⟩
theorem HT.pos(x:HT b h T):(h:List MO).length≠0:=Nat.ne_of_gt (cn (Nat.zero_le _) x.lts.2.1)
theorem HT.app{os:List MO}(x:HT b h T):HT b (h++os:List MO) T:=let ⟨fs,t1,t2⟩:=x.tab;let ⟨I,i1,i2⟩:=x.i;⟨⟨fs,au t1,t2⟩,au x.r,⟨I,au i1,i2⟩,x.ne,x.nd⟩
theorem HT.set{o:MO}(x:HT b h T)(h1:m≠b.tab∧m≠b.r∧m≠b.i):HT b (h.set m o) T:=let ⟨fs,t1,t2⟩:=x.tab;let ⟨I,i1,i2⟩:=x.i;⟨⟨fs,aY t1 (Ne.symm h1.1),t2⟩,aY x.r (Ne.symm h1.2.1),⟨I,aY i1 (Ne.symm h1.2.2),i2⟩,x.ne,x.nd⟩
theorem dE.refl:dE b h h:=⟨Nat.le_refl _,fun uu uu1 e uu2 uu3=>e⟩
theorem dE.trans(x:dE b h h1)(y:dE b h1 h2):dE b h h2:=⟨Nat.le_trans x.1 y.1,fun n o e a b=>y.2 n o (x.2 n o e a b) a b⟩
theorem dE.app{os:List MO}:dE b h (h++os:List MO):=⟨by rw [List.length_append];exact cg _ _,fun n o e uu uu1=>au e⟩
theorem dE.set(x:dE b h h1)(hm:(h:List MO).length≤m):dE b h (h1.set m o):=⟨by rw [List.length_set];exact x.1,fun n e hn a1 a2=>aY (x.2 n e hn a1 a2) (Nat.ne_of_lt (Nat.lt_of_lt_of_le (cJ hn) hm))⟩
theorem qo(x:HT b h T)(ha:a c l h=some (.ref b.tab,h)):xa (q "rows") a c l h=some (.ref b.r,h):=kQ ha x.rows
theorem ti(x:HT b h T)(ha:a c l h=some (.ref b.tab,h)):xa (q "index") a c l h=some (.ref b.i,h):=kQ ha x.index
theorem dY{t:Nat}(x:HT b h T)(ht:T[t]?=some d)(ha:a c l h=some (.ref b.tab,h))(hk:k c l h=some (.int t,h)):xi (xa (q "rows") a) k c l h=some (d,h):=ar (qo x ha) hk (aX x.r ht)
theorem ET(i:Int):D.hk (.int i)=true:=rfl
theorem gX{i j:Int}:eF .Eq (.int i) (.int j) h=some (i==j):=rfl
theorem lS{i j:Int}:eF .NotEq (.int i) (.int j) h=some (!(i==j)):=rfl
theorem ao{i j:Int}{e:X}(ha:a c l h=some (.int i,h))(he:e c l h=some (.int j,h)):xt (ac .Eq a e) c l h=some (i==j,h):=av (aF ha he gX)
theorem fV{i j:Int}{e:X}(ha:a c l h=some (.int i,h))(he:e c l h=some (.int j,h)):xt (ac .NotEq a e) c l h=some (!(i==j),h):=av (aF ha he lS)
theorem k_:xk d c l h=some (d,h):=rfl
theorem pD{t k:Nat}(e:t≠k):((t:Int)==(k:Int))=false:=beq_eq_false_iff_ne.mpr fun q=>e (Int.ofNat.inj q)
theorem rR{t k:Nat}{e:X}(ne:t≠k)(ha:a c l h=some (.int t,h))(he:e c l h=some (.int k,h)):xt (ac .Eq a e) c l h=some (false,h):=pD ne▸ao ha he
inductive Pt (T:List D):Nat→List Nat→Prop
 | never:Pt T 2 []
 | un {t:Nat} {X:List Nat}:t≠2→T[t]?=some (.tup [.int 6,.tup (X.map fun (a:Nat)=>.int a)])→Pt T t X
 | one {t:Nat} {k:Int} {r:List D}:t≠2→T[t]?=some (.tup (.int k::r))→k≠6→Pt T t [t]
theorem dZ{n t:Nat}{X:List Nat}(x:HT b h T)(f:Pt T t X):ab P (n+1) 233 [.ref b.tab,.int t] h=some (.tup (X.map fun (a:Nat)=>.int a),h):=by
 cases f with
 | never=>exact ah (E6 P) rfl (aL (ao (v_ rfl) k_) rfl rfl)
 | un h2 ht=>exact ah (E6 P) rfl (ai (rR h2 (v_ rfl) k_) rfl (ax (aA (dY x ht (v_ rfl) (v_ rfl))) (aL (ao (ar (v_ rfl) k_ aq) k_) rfl (ar (v_ rfl) k_ bj))))
 | one h2 ht hk=>exact ah (E6 P) rfl (ai (rR h2 (v_ rfl) k_) rfl (ax (aA (dY x ht (v_ rfl) (v_ rfl))) (ai (ao (ar (v_ rfl) k_ aq) k_) (beq_eq_false_iff_ne.mpr hk) (aj rfl))))
theorem cz{n t:Nat}{k:D}{r:List D}(x:HT b h T)(ht:T[t]?=some (.tup (k::r))):ab P (n+1) 172 [.ref b.tab,.int t] h=some (k,h):=
 ah (J9 P) rfl (aj (ar (dY x ht (v_ rfl) (v_ rfl)) k_ aq))
end
theorem sQ(x k v:D)(I:List (D×D)):bh x (cL k v I)=if k=x then some v else bh x I:=by
 induction I with
 | nil=>show (if D.eqb k x=true then _ else _)=_;rw [D.eqb_dec];exact ite_congr (decide_eq_true_eq) (fun uu=>rfl) fun uu=>rfl
 | cons p r ih=>
  rw [cO,D.eqb_dec]
  by_cases h:p.1=k
  ·subst h
   rw [decide_eq_true rfl,if_pos rfl,cy,cy,D.eqb_dec]
   by_cases q:p.1=x
   ·rw [decide_eq_true q,if_pos rfl,if_pos q]
   ·rw [decide_eq_false q,if_neg Bool.false_ne_true,if_neg q,if_neg Bool.false_ne_true]
  ·rw [decide_eq_false h,if_neg Bool.false_ne_true,cy,cy,ih,D.eqb_dec]
   by_cases q:p.1=x
   ·rw [decide_eq_true q,if_pos rfl,if_pos rfl,if_neg fun e=>h (q.trans e.symm)]
   ·rw [decide_eq_false q,if_neg Bool.false_ne_true,if_neg Bool.false_ne_true]
theorem fN(x a:D)(r:List D):pos x (a::r)=if a=x then some 0 else (pos x r).map (·+1):=by
 show (if D.eqb a x=true then _ else _)=_
 rw [D.eqb_dec]
 exact ite_congr (decide_eq_true_eq) (fun uu=>rfl) fun uu=>rfl
theorem yh(x k:D)(T:List D)(h:pos k T=none):pos x (T++[k])=if k=x then some T.length else pos x T:=by
 induction T with
 | nil=>exact fN x k []
 | cons a r ih=>
  rw [fN] at h
  by_cases q:a=k
  ·rw [if_pos q] at h;cases h
  ·rw [if_neg q] at h
   rw [List.cons_append,fN,fN,ih (Option.map_eq_none_iff.mp h)]
   by_cases e:k=x
   ·rw [if_pos e,if_pos e,if_neg (e▸q)];rfl
   ·rw [if_neg e,if_neg e]
theorem Be{x:D}{T:List D}:∀ {j:Nat},pos x T=some j→T[j]?=some x:=by
 induction T with
 | nil=>exact fun h=>fO h
 | cons a r ih=>
  intro j h
  rw [fN] at h
  by_cases q:a=x
  ·rw [if_pos q] at h;cases h;exact congrArg some q
  ·rw [if_neg q] at h
   cases e:pos x r with
   | none=>rw [e] at h;cases h
   | some i=>rw [e] at h;cases h;exact ih e
theorem qz{x:D}{T:List D}(h:pos x T=none):x∉T:=by
 induction T with
 | nil=>exact List.not_mem_nil
 | cons a r ih=>
  rw [fN] at h
  by_cases q:a=x
  ·rw [if_pos q] at h;cases h
  ·rw [if_neg q] at h
   exact fun m=>(bo m).elim (fun e=>q e.symm) (ih (Option.map_eq_none_iff.mp h))
theorem ww{k v:D}{n:Nat}{I:List (D×D)}(h:cW n I=true)(hk:k.kd=n):cW n (cL k v I)=true:=by
 induction I with
 | nil=>exact (Bool.and_eq_true _ _).mpr ⟨beq_iff_eq.mpr hk,rfl⟩
 | cons p r ih=>
  rw [cO]
  obtain ⟨a,c⟩:=aG h
  cases D.eqb p.1 k with
  | true=>exact (Bool.and_eq_true _ _).mpr ⟨a,c⟩
  | false=>exact (Bool.and_eq_true _ _).mpr ⟨a,ih c⟩
noncomputable def Tb.T(b:Tb)(h:H):List D:=match (h:List MO)[b.r]? with
 | some (.lst T)=>T
 | _=>[]
noncomputable def bJ:List D:=[.tup [.int 1,.str (q "any")],.tup [.int 1,.str (q "unknown")],.tup [.int 1,.str (q "never")],.tup [.int 1,.str (q "void")],.tup [.int 1,.str (q "undefined")],.tup [.int 1,.str (q "null")],.tup [.int 1,.str (q "string")],.tup [.int 1,.str (q "number")],
 .tup [.int 2,.int 0,.int 0],.tup [.int 2,.int 1,.int 0],.tup [.int 1,.str (q "object")],.tup [.int 8,.tup [],.tup [],.tup [],.tup [],.tup [],.int 0],.tup [.int 6,.tup [.int 8,.int 9]],.tup [.int 1,.str (q "error")],.tup [.int 2,.int 0,.int 1],.tup [.int 2,.int 1,.int 1]]
structure Tok(T:List D):Prop where
 first:bJ <+: T
 nd:T.Nodup
structure In(b:Tb)(n:Nat)(h:H):Prop where
 ht:HT b h (b.T h)
 tok:Tok (b.T h)
 room:(b.T h).length+n≤98000
structure Gr(b:Tb)(h h':H):Prop where
 p:b.T h <+: b.T h'
 k:dE b h h'
section
variable {l:L}{T:List D}{a k:X}{o:MO}{row:D}{G:Prop}
theorem HT.eq(x:HT b h T):b.T h=T:=by unfold Tb.T;rw [x.r]
theorem Gr.refl:Gr b h h:=⟨aJ _,dE.refl⟩
theorem Gr.trans(x:Gr b h h1)(y:Gr b h1 h2):Gr b h h2:=⟨x.p.trans y.p,x.k.trans y.k⟩
theorem HT.gr(x:HT b h T)(y:HT b h' T)(k:dE b h h'):Gr b h h':=⟨by rw [x.eq,y.eq];exact aJ _,k⟩
theorem In.of(x:HT b h T)(t:Tok T)(r:T.length+n≤98000):In b n h:=by cases x.eq;exact ⟨x,t,r⟩
theorem In.le(x:In b n h)(e:m≤n):In b m h:=⟨x.ht,x.tok,Nat.le_trans (Nat.add_le_add_left e _) x.room⟩
theorem In.app{os:List MO}(x:In b n h):In b n (h++os:List MO):=.of x.ht.app x.tok x.room
theorem In.gapp{os:List MO}(x:In b n h):Gr b h (h++os:List MO):=x.ht.gr x.ht.app dE.app
theorem In.set(x:In b n h)(e:m≠b.tab∧m≠b.r∧m≠b.i):In b n (h.set m o):=.of (x.ht.set e) x.tok x.room
theorem yf{n:Nat}(x:HT b h T)(hk:row.hk=true)(kd:row.kd=3)(hT:T.length < 99000)
  (K:∀ h' T' (t:Nat),ab P (n+1) 137 [.ref b.tab,row] h=some (.int t,h')→HT b h' T'→T <+: T'→T'.length≤T.length+1→dE b h h'→T'[t]?=some row→G):G:=by
 obtain ⟨I,i1,i2,i3,i4⟩:=x.i
 have ok:sJ row I=true:=(Bool.and_eq_true _ _).mpr ⟨hk,by rw [kd];exact i2⟩
 have hin:=pz i1 ok
 have i5:=i4 row
 cases hp:pos row T with
 | some t=>
  rw [hp] at i5
  rw [i5] at hin
  exact K h T t (ah (Iu P) rfl (aL (av (aF (v_ rfl) (ti x (v_ rfl)) hin)) rfl (ar (ti x (v_ rfl)) (v_ rfl) (fP i1 ok i5)))) x (aJ _) (Nat.le_succ _) dE.refl (Be hp)
 | none=>
  rw [hp] at i5
  rw [i5] at hin
  obtain ⟨n1,n2,n3,n4,n5⟩:=x.ne
  obtain ⟨fs,t1,t2,t3,t4⟩:=x.tab
  refine K _ (T++[row]) T.length (ah (Iu P) rfl (ai (av (aF (v_ rfl) (ti x (v_ rfl)) hin)) rfl (ax (aA (bZ (aQ (qo x (v_ rfl))) (dU x.r))) (ax (dS (dz n1 (qo x (v_ rfl)) x.r (aQ (v_ rfl)) x.r (by omega))) (ax (eW (v_ rfl) (kQ (v_ rfl) (ox (aY t1 n4) (by decide) t3)) (v_ rfl) (gM n2 (aY i1 (Ne.symm n3)) ok (by omega))) (aj (v_ rfl)))))))
   ⟨⟨fs,aY (aY t1 n4) n5,t2,t3,t4⟩,aY (co x.r) n3,⟨_,co (aY i1 (Ne.symm n3)),ww i2 kd,?_,fun y=>?_⟩,x.ne,?_⟩ (List.prefix_append _ _) ?_ ⟨?_,fun m o e m1 m2=>aY (aY e m1) m2⟩ ((List.getElem?_append_right (Nat.le_refl _)).trans (by rw [Nat.sub_self];rfl))
  ·rw [List.length_append];exact Nat.le_trans (fv row (.int T.length) I).2.1 (Nat.succ_le_succ i3)
  ·rw [sQ,yh _ _ _ hp,i4]
   by_cases hy:row=y
   ·rw [if_pos hy,if_pos hy];rfl
   ·rw [if_neg hy,if_neg hy]
  ·exact List.nodup_append.mpr ⟨x.nd,List.pairwise_singleton _ _,fun a ha b hb e=>qz hp (cV hb▸e▸ha)⟩
  ·rw [List.length_append];exact Nat.le_refl _
  ·rw [List.length_set,List.length_set];exact Nat.le_refl _
theorem gN{m:Nat}(x:In b (n+1) h)(hk:row.hk=true)(kd:row.kd=3)(K:∀ h' (t:Nat),ab P (m+1) 137 [.ref b.tab,row] h=some (.int t,h')→In b n h'→Gr b h h'→(b.T h')[t]?=some row→G):G:=
 have r:=x.room
 yf (P:=P) (n:=m) x.ht hk kd (by omega) fun h' T' t e y p le k g=>by
  cases y.eq
  exact K h' t e ⟨y,⟨x.tok.first.trans p,y.nd⟩,by omega⟩ ⟨p,k⟩ g
theorem sE{n:Nat}{r:Option (D×H)}(x:HT b h T)(ha:a (ab P n) l h=some (.ref b.tab,h))(hk:k (ab P n) l h=some (row,h))(hr:ab P n 137 [.ref b.tab,row] h=r):dT "put" a [k] (ab P n) l h=r:=
 let ⟨_,t1,_,_,t4⟩:=x.tab
 xm ha t1 t4 (by decide) (aQ hk) hr
end
theorem Kw{a b:Nat}(q:(a:Int)=b):a=b:=Int.ofNat.inj q
theorem KO{a b k n:Nat}(h:a+k≤n)(e:b≤k):a+b≤n:=Nat.le_trans (Nat.add_le_add_left e a) h
noncomputable def dG(K:List Nat):List (D×D):=K.map fun (k:Nat)=>(.int k,.int 1)
noncomputable def has(K:List Nat)(x:Int):Bool:=(bh (.int x) (dG K)).isSome
theorem mr{x:Int}{k:Nat}{K:List Nat}:has (k::K) x=if (k:Int)=x then true else has K x:=by
 unfold has dG
 rw [List.map_cons,cy]
 show (if ((k:Int)==x)=true then _ else _:Option D).isSome=_
 by_cases e:(k:Int)=x
 ·rw [if_pos e,if_pos (beq_iff_eq.mpr e)];rfl
 ·rw [if_neg e,if_neg (mt beq_iff_eq.mp e)]
theorem dj{K:List Nat}{x:Nat}:has K (x:Int)=decide (x∈K):=by
 induction K with
 | nil=>rfl
 | cons k r ih=>
  rw [mr,ih]
  by_cases e:k=x
  ·rw [if_pos (congrArg _ e),decide_eq_true (e▸aw)]
  ·rw [if_neg fun q=>e (Kw q)]
   exact decide_eq_decide.mpr ⟨aE _,fun q=>(bo q).elim (fun q=>absurd q.symm e) id⟩
theorem pE{K:List Nat}:has K (-1)=false:=by
 induction K with
 | nil=>rfl
 | cons k r ih=>rw [mr,if_neg (fun e=>nomatch e),ih]
theorem oY(x:Int)(K:List Nat):sJ (.int x) (dG K)=true:=by
 refine (Bool.and_eq_true _ _).mpr ⟨rfl,List.all_eq_true.mpr fun p hp=>?_⟩
 obtain ⟨k,_,rfl⟩:=bR hp
 rfl
noncomputable def ins(K:List Nat)(k:Nat):List Nat:=if k∈K then K else K++[k]
theorem Bd(k:Nat)(K:List Nat):cL (.int k) (.int 1) (dG K)=dG (ins K k):=by
 have key:(k∈K→cL (.int k) (.int 1) (dG K)=dG K)∧(k∉K→cL (.int k) (.int 1) (dG K)=dG (K++[k])):=by
  induction K with
  | nil=>exact ⟨fun q=>absurd q List.not_mem_nil,fun uu=>rfl⟩
  | cons a r ih=>
   have e:cL (.int k) (.int 1) (dG (a::r))=if ((a:Int)==(k:Int))=true then dG (a::r) else (.int a,.int 1)::cL (.int k) (.int 1) (dG r):=cO _ _ _ _
   by_cases q:a=k
   ·rw [e,if_pos (beq_iff_eq.mpr (congrArg _ q))]
    exact ⟨fun uu=>rfl,fun z=>absurd (q▸aw) z⟩
   ·rw [e,if_neg (mt beq_iff_eq.mp fun z=>q (Kw z))]
    exact ⟨fun z=>congrArg _ (ih.1 ((bo z).elim (fun w=>absurd w.symm q) id)),fun z=>congrArg _ (ih.2 fun w=>z (aE _ w))⟩
 unfold ins
 by_cases q:k∈K
 ·rw [if_pos q];exact key.1 q
 ·rw [if_neg q];exact key.2 q
theorem fw{K:List Nat}{k x:Nat}:x∈ins K k↔x∈K∨x=k:=by
 unfold ins
 by_cases q:k∈K
 ·rw [if_pos q];exact ⟨.inl,fun z=>z.elim id fun e=>e▸q⟩
 ·rw [if_neg q,List.mem_append,List.mem_singleton]
theorem io{K:List Nat}{k:Nat}(h:K.Nodup):(ins K k).Nodup:=by
 unfold ins
 by_cases q:k∈K
 ·rw [if_pos q];exact h
 ·rw [if_neg q];exact List.nodup_append.mpr ⟨h,List.pairwise_singleton _ _,fun a ha b hb e=>q (cV hb▸e▸ha)⟩
theorem pr{K:List Nat}{k:Nat}:(ins K k).length≤K.length+1:=by
 unfold ins
 by_cases q:k∈K
 ·rw [if_pos q];exact Nat.le_succ _
 ·rw [if_neg q,List.length_append];exact Nat.le_refl _
theorem tH(K:List Nat):(dG K).length=K.length:=List.length_map _
noncomputable def wh(k:Int):Int:=if k=3∨k=18 then 6 else if k=4 then 7 else -1
inductive At (T:List D) (t:Nat) (k:Int):Prop
 | mk (r:List D):T[t]?=some (.tup (.int k::r))→t≠2→k≠6→k≠5→(k=2∨k=3∨k=4∨k=8→(D.int k::r).getLast?=some (.int 0))→At T t k
section
variable {l:L}{T:List D}{a k:X}{g:Nat}
theorem GJ{x:Int}(hg:(h:List MO)[g]?=some (.dct (dG K))):eF .In (.int x) (.ref g) h=some (has K x):=pz hg (oY x K)
theorem Bo{x:Int}(hg:(h:List MO)[g]?=some (.dct (dG K))):eF .NotIn (.int x) (.ref g) h=some (!has K x):=congrArg (Option.map (!·)) (GJ hg)
theorem pW{e:X}{x:Int}(hg:(h:List MO)[g]?=some (.dct (dG K)))(ha:a c l h=some (.int x,h))(he:e c l h=some (.ref g,h)):xt (ac .In a e) c l h=some (has K x,h):=av (aF ha he (GJ hg))
theorem oQ{x:Nat}(hn:g≠0)(hl:K.length < 90000)(hg:(h:List MO)[g]?=some (.dct (dG K))):setItem (.ref g) (.int x) (.int 1) h=some (h.set g (.dct (dG (ins K x)))):=Bd x K▸gM hn hg (oY x K) (by rw [tH];omega)
theorem pT{k:Int}{r:List D}(hk:k≠5):ab P (n+1) 240 [.tup (.int k::r)] h=some (.int (wh k),h):=by
 have f:∀ {j:Int},k≠j→(k==j)=false:=fun e=>beq_eq_false_iff_ne.mpr e
 unfold wh
 by_cases h3:k=3
 ·subst h3;exact ah (Cx P) rfl (ax (aA (ar (v_ rfl) k_ aq)) (aL (cw (ao (v_ rfl) k_) (ao (v_ rfl) k_)) rfl k_))
 ·by_cases h18:k=18
  ·subst h18;exact ah (Cx P) rfl (ax (aA (ar (v_ rfl) k_ aq)) (aL (cw (ao (v_ rfl) k_) (ao (v_ rfl) k_)) rfl k_))
  ·rw [if_neg fun e=>e.elim h3 h18]
   have e:(k==3 || k==18)=false:=by rw [f h3,f h18];rfl
   by_cases h4:k=4
   ·subst h4;exact ah (Cx P) rfl (ax (aA (ar (v_ rfl) k_ aq)) (ai (cw (ao (v_ rfl) k_) (ao (v_ rfl) k_)) rfl (aL (ao (v_ rfl) k_) rfl k_)))
   ·rw [if_neg h4]
    exact ah (Cx P) rfl (ax (aA (ar (v_ rfl) k_ aq)) (ai (cw (ao (v_ rfl) k_) (ao (v_ rfl) k_)) e (ai (ao (v_ rfl) k_) (f h4) (ai (ao (v_ rfl) k_) (f hk) (aj rfl)))))
theorem At.pt{t:Nat}{k:Int}(x:At T t k):Pt T t [t]:=by obtain ⟨_,h1,h2,h3,_,_⟩:=x;exact .one h2 h1 h3
theorem At.grow{T':List D}(hp:T <+: T'){t:Nat}{k:Int}(x:At T t k):At T' t k:=by obtain ⟨r,h1,h2,h3,h4,h5⟩:=x;exact ⟨r,aU hp h1,h2,h3,h4,h5⟩
theorem wx{L:List D}{d:D}(hl:L.getLast?=some d):item (.tup L) (.int (-1)) h=some (d,h):=by
 cases L with
 | nil=>exact fO hl
 | cons a r=>
  rw [List.getLast?_eq_getElem?] at hl
  have e:(-1:Int)+((r.length+1:Nat):Int)=(r.length:Int):=by omega
  show Option.map _ (((if 0≤(-1:Int)+((r.length+1:Nat):Int) then some ((-1:Int)+((r.length+1:Nat):Int)).toNat else none:Option Nat)).bind _)=_
  rw [e,if_pos (Int.natCast_nonneg _)]
  show Option.map _ (a::r)[(a::r).length - 1]?=_
  rw [hl];rfl
theorem oG{t:Nat}{k:Int}(x:HT b h T)(ht:At T t k):ab P (n+1) 247 [.ref b.tab,.int t] h=some (.int (-1),h):=by
 obtain ⟨r,h1,h2,h3,h5,h4⟩:=ht
 by_cases hk:k=2∨k=3∨k=4∨k=8
 ·have e:=h4 hk
  rcases hk with rfl|rfl|rfl|rfl<;>exact ah (Iq P) rfl (ax (aA (dY x h1 (v_ rfl) (v_ rfl))) (ai (iJ (av (aF (ar (v_ rfl) k_ aq) k_ rfl)) (ao (ar (v_ rfl) rfl (wx e)) k_)) rfl (aj rfl)))
 ·refine ah (Iq P) rfl (ax (aA (dY x h1 (v_ rfl) (v_ rfl))) (ai (fG (av (aF (ar (v_ rfl) k_ aq) k_ (congrArg some (?_:ec (.int k) [(.int 2),(.int 3),(.int 4),(.int 5),(.int 8)]=false))))) rfl (aj rfl)))
  have f:∀ {j:Int},j≠k→(j==k)=false:=fun e=>beq_eq_false_iff_ne.mpr e
  show ((2==k) || ((3==k) || ((4==k) || ((5==k) || ((8==k) || false)))))=false
  rw [f fun e=>hk (.inl e.symm),f fun e=>hk (.inr (.inl e.symm)),f fun e=>hk (.inr (.inr (.inl e.symm))),f fun e=>h5 e.symm,f fun e=>hk (.inr (.inr (.inr e.symm)))]
  rfl
theorem xD{t:Nat}{k:Int}(x:HT b h T)(ht:At T t k)(hg:(h:List MO)[g]?=some (.dct (dG K))):ab P (n+2) 261 [.ref b.tab,.ref g,.int t] h=some (.bool (!has K (wh k)),h):=by
 obtain ⟨_,h1,_,_,h5,_⟩:=ht
 exact ah (J3 P) rfl (ai (pW hg (rO (dJ (v_ rfl) (v_ rfl)) (oG x ⟨_,h1,by assumption,by assumption,h5,by assumption⟩)) (v_ rfl)) pE (aj (aF (rO (aQ (dY x h1 (v_ rfl) (v_ rfl))) (pT h5)) (v_ rfl) (Bo hg))))
end
section
variable {l l1:L}{T:List D}{a k:X}{g:Nat}
theorem aR{chk:H→Bool}{i:Nat}{bd:XS}(hc:chk h=true):bC chk i bd c [] l h=some (.next,l,h):=if_pos hc
theorem aC{chk:H→Bool}{i:Nat}{bd:XS}{z:D}{r:List D}{res:Option (Fl×L×H)}(hc:chk h=true)(hb:bd c (upd l i z) h=some (.next,l1,h1))(hr:bC chk i bd c r l1 h1=res):bC chk i bd c (z::r) l h=res:=(if_pos hc).trans (by rw [hb];exact hr)
theorem eH{chk:H→Bool}{i:Nat}{bd:XS}{z d:D}{r:List D}(hc:chk h=true)(hb:bd c (upd l i z) h=some (.ret d,l1,h1)):bC chk i bd c (z::r) l h=some (.ret d,l1,h1):=(if_pos hc).trans (by rw [hb];rfl)
theorem vm{n:Nat}(hg:(h:List MO)[g]?=some (.dct (dG K)))(h13:13∉K)(h1':1∉K):ab P (n+1) 268 [.ref g] h=some (.int (if 0∈K then 0 else -1),h):=by
 have f:∀ {x:Nat},x∉K→has K x=false:=fun e=>dj.trans (decide_eq_false e)
 have st:still (.tup [.int 0,.int 13,.int 1]) [.int 0,.int 13,.int 1] (knd (.tup [.int 0,.int 13,.int 1]) h) h=true:=an
 by_cases hz:0∈K
 ·rw [if_pos hz]
  exact ah (Ip P) rfl (uk ⟨_,aO rfl rfl (by decide) (eH st (ja (pW hg (v_ rfl) (v_ rfl)) ((dj (x:=0)).trans (decide_eq_true hz)) (v_ rfl)))⟩)
 ·rw [if_neg hz]
  exact ah (Ip P) rfl (ax (aO rfl rfl (by decide) (aC st (bI (pW hg (v_ rfl) (v_ rfl)) (f hz) rfl) (aC st (bI (pW hg (v_ rfl) (v_ rfl)) (f h13) rfl) (aC st (bI (pW hg (v_ rfl) (v_ rfl)) (f h1') rfl) (aR st))))) (aj rfl))
theorem B8{n:Nat}(hg:(h:List MO)[g]?=some (.dct (dG K)))(h8:8∉K)(h14:14∉K):ab P (n+1) 254 [.ref g] h=some (.none,h):=by
 have f:∀ {x:Nat},x∉K→has K x=false:=fun e=>dj.trans (decide_eq_false e)
 exact pI (l1:=fun i=>[.ref g][i]?) (J4 P) rfl (bI (fG ((cw (pW hg k_ (v_ rfl)) (pW hg k_ (v_ rfl))).trans (by rw [show has K 8=false from f h8,show has K 14=false from f h14];rfl))) rfl rfl)
end
noncomputable def rk(x:Nat):List Nat→List Nat
 | []=>[x]
 | y::r=>if y < x then y::rk x r else x::y::r
noncomputable def cZ(K:List Nat):List Nat:=K.foldr rk []
abbrev iN(L:List Nat):List D:=L.map fun (k:Nat)=>D.int k
theorem ip(x y:Nat)(r:List Nat):rk x (y::r)=if y < x then y::rk x r else x::y::r:=rfl
theorem zk(x:Nat)(L:List Nat):pu (.int x) (iN L)=iN (rk x L):=by
 induction L with
 | nil=>rfl
 | cons y r ih=>
  rw [ip]
  show (if decide ((y:Int) < x)=true then D.int y::pu (.int x) (iN r) else .int x::.int y::iN r)=_
  rw [ih]
  by_cases q:y < x
  ·rw [if_pos q,if_pos (decide_eq_true (Int.ofNat_lt.mpr q))];rfl
  ·rw [if_neg q,if_neg fun e=>q (Int.ofNat_lt.mp (of_decide_eq_true e))];rfl
theorem vp(K:List Nat):gw (iN K)=iN (cZ K):=by
 induction K with
 | nil=>rfl
 | cons x r ih=>exact (congrArg (pu (.int x)) ih).trans (zk x (cZ r))
theorem qK{x y:Nat}{L:List Nat}:y∈rk x L↔y=x∨y∈L:=by
 induction L with
 | nil=>exact List.mem_cons
 | cons z r ih=>
  rw [ip]
  by_cases q:z < x
  ·rw [if_pos q,List.mem_cons,ih,List.mem_cons];exact or_left_comm
  ·rw [if_neg q,List.mem_cons]
theorem cD{y:Nat}{K:List Nat}:y∈cZ K↔y∈K:=by
 induction K with
 | nil=>exact Iff.rfl
 | cons x r ih=>exact qK.trans ((or_congr Iff.rfl ih).trans List.mem_cons.symm)
theorem rj{x:Nat}{L:List Nat}(h:L.Pairwise (· < ·))(hx:x∉L):(rk x L).Pairwise (· < ·):=by
 induction L with
 | nil=>exact List.pairwise_singleton _ _
 | cons z r ih=>
  rw [List.pairwise_cons] at h
  rw [ip]
  by_cases q:z < x
  ·rw [if_pos q,List.pairwise_cons]
   exact ⟨fun y hy=>(qK.mp hy).elim (fun e=>e▸q) (h.1 y),ih h.2 fun m=>hx (aE _ m)⟩
  ·rw [if_neg q,List.pairwise_cons,List.pairwise_cons]
   have lt:x < z:=Nat.lt_of_le_of_ne (Nat.le_of_not_lt q) fun e=>hx (e▸aw)
   exact ⟨fun y hy=>(bo hy).elim (fun e=>e▸lt) fun m=>Nat.lt_trans lt (h.1 y m),h⟩
theorem gb{K:List Nat}(h:K.Nodup):(cZ K).Pairwise (· < ·):=by
 induction K with
 | nil=>exact .nil
 | cons x r ih=>
  rw [List.nodup_cons] at h
  exact rj (ih h.2) fun q=>h.1 (cD.mp q)
theorem zj(x:Nat)(L:List Nat):(rk x L).length=L.length+1:=by
 induction L with
 | nil=>rfl
 | cons y r ih=>
  rw [ip]
  by_cases q:y < x
  ·rw [if_pos q];exact congrArg (·+1) ih
  ·rw [if_neg q];rfl
theorem fQ(K:List Nat):(cZ K).length=K.length:=by
 induction K with
 | nil=>rfl
 | cons x r ih=>exact (zj x (cZ r)).trans (congrArg (·+1) ih)
noncomputable def aV(L:List Nat):List Nat:=L.foldl ins []
theorem kG{L K:List Nat}(h:K.Nodup):(L.foldl ins K).Nodup∧∀ x,x∈L.foldl ins K↔x∈K∨x∈L:=by
 induction L generalizing K with
 | nil=>exact ⟨h,fun x=>⟨.inl,fun q=>q.elim id fun q=>nomatch q⟩⟩
 | cons y r ih=>
  have ih:=ih (io (k:=y) h)
  exact ⟨ih.1,fun x=>(ih.2 x).trans ((or_congr fw Iff.rfl).trans (or_assoc.trans (or_congr Iff.rfl List.mem_cons.symm)))⟩
theorem ri(L K:List Nat):(L.foldl ins K).length≤K.length+L.length:=by
 induction L generalizing K with
 | nil=>exact Nat.le_refl _
 | cons y r ih=>exact Nat.le_trans (ih _) (Nat.le_trans (Nat.add_le_add_right pr _) (Nat.le_of_eq (Nat.succ_add_eq_add_succ _ _)))
theorem a8{L:List Nat}{x:Nat}:x∈aV L↔x∈L:=((kG List.nodup_nil).2 x).trans ⟨fun q=>q.elim (fun q=>nomatch q) id,.inr⟩
theorem eP{L:List Nat}:(aV L).Nodup:=(kG List.nodup_nil).1
theorem mu{L:List Nat}:(aV L).length≤L.length:=Nat.le_trans (ri _ _) (Nat.le_of_eq (Nat.zero_add _))
def cF(d:D)(h:H)(ds:List D):Prop:=d=.tup ds∨∃ m,d=.ref m∧(h:List MO)[m]?=some (.lst ds)
section
variable {l l1:L}{T:List D}{a k:X}{g:Nat}
theorem cF.items(x:cF d h ds):bH d h=some ds:=by
 rcases x with rfl|⟨m,rfl,hm⟩
 ·rfl
 ·exact aK hm
theorem cF.knd(x:cF d h ds)(y:cF d h' ds):knd d h'=knd d h:=by
 rcases x with rfl|⟨m,rfl,hm⟩
 ·rfl
 ·rcases y with y|⟨m',y,hm'⟩
  ·cases y
  ·cases y;rw [di hm,di hm']
theorem cF.still(x:cF d h ds)(y:cF d h' ds):still d ds (Internal.knd d h) h'=true:=bE y.items (x.knd y)
theorem cF.app{os:List MO}(x:cF d h ds):cF d (h++os:List MO) ds:=x.imp id fun ⟨m,e,hm⟩=>⟨m,e,au hm⟩
theorem qc(hg:(h:List MO)[g]?=some (.dct (dG K)))(hl:K.length < 64):bi .sorted [.ref g] h=some (.ref (h:List MO).length,(h++[.lst (iN (cZ K))]:List MO)):=by
 have e3:(dG K).map (·.1)=iN K:=by unfold dG;rw [List.map_map];rfl
 show onD (h:List MO)[g]? _=_
 rw [hg]
 refine (if_pos ((Bool.and_eq_true _ _).mpr ⟨?_,decide_eq_true (by rw [tH];exact hl)⟩)).trans ?_
 ·exact (Bool.or_eq_true _ _).mpr (.inl (aG (oY 0 K)).2)
 ·rw [e3,vp];rfl
noncomputable def kT(T:List D)(t:Nat):Int:=match T[t]? with
 | some (.tup (.int k::_))=>k
 | _=>0
theorem At.kT{t:Nat}{k:Int}(x:At T t k):kT T t=k:=by
 obtain ⟨r,h1,_⟩:=x
 unfold Internal.kT;rw [h1]
noncomputable def sW(T:List D)(K:List Nat):List Nat:=(cZ K).filter fun t=>!has K (wh (kT T t))
def Un(T:List D)(t:Nat)(Y:List Nat):Prop:=(Y=[]∧t=2)∨Y=[t]∨(2≤Y.length∧T[t]?=some (.tup [.int 6,.tup (iN Y)]))
theorem FB{m:L}{chk:H→Bool}(hc:∀ K,chk (h++[.dct (dG K)]:List MO)=true)(h0:(h:List MO).length≠0)(m2:m 2=some (.ref (h:List MO).length))(m4:m 4=none){X:List Nat}(hl:K.length+X.length < 90000)(q:Le m l){G:Prop}
  (k:∀ l',bC chk 4 (sq (bB (ki 1) (xv 2) (xv 4)) aa) c (iN X) l (h++[.dct (dG K)]:List MO)=some (.next,l',(h++[.dct (dG (X.foldl ins K))]:List MO))→Le m l'→G):G:=by
 induction X generalizing l K with
 | nil=>exact k l (aR (hc K)) q
 | cons x X ih=>
  rw [List.length_cons] at hl
  exact ih (cn (Nat.add_le_add_right pr _) (by omega)) (q.upd m4) fun l' e q'=>k l' (aC (hc K) (bg (eW k_ (v_ (q.upd m4 _ _ m2)) (v_ rfl) ((oQ h0 (by omega) ak).trans (congrArg some fX))) rfl) e) q'
theorem Az{n:Nat}{m:L}{chk:H→Bool}(x:HT b h T)(hc:∀ K,chk (h++[.dct (dG K)]:List MO)=true)(m0:m 0=some (.ref b.tab))(m2:m 2=some (.ref (h:List MO).length))(m3:m 3=none)(m4:m 4=none){ts:List Nat}{Xs:List (List Nat)}(f:F2 (Pt T) ts Xs)(hl:K.length+Xs.flatten.length < 200)(q:Le m l){G:Prop}
  (k:∀ l',bC chk 3 (sq (bO 4 (xf 233 [(xv 0),(xv 3)]) (sq (bB (ki 1) (xv 2) (xv 4)) aa)) aa) (ab P (n+1)) (iN ts) l (h++[.dct (dG K)]:List MO)=some (.next,l',(h++[.dct (dG (Xs.flatten.foldl ins K))]:List MO))→Le m l'→G):G:=by
 induction ts generalizing l K Xs with
 | nil=>cases Xs with
  | nil=>exact k l (aR (hc K)) q
  | cons=>exact f.elim
 | cons t ts ih=>cases Xs with
  | nil=>exact f.elim
  | cons X Xs=>
   rw [List.flatten_cons,List.length_append] at hl
   rw [List.flatten_cons,List.foldl_append] at k
   refine FB (K:=K) (chk:=still (.tup (iN X)) (iN X) 0) (c:=ab P (n+1)) (fun uu=>an) x.pos m2 m4 (X:=X) (by omega) (q.upd (i:=3) (z:=.int t) m3) fun l1 e1 q1=>?_
   exact ih f.2 (cn (Nat.add_le_add_right (ri X K) _) (by omega)) q1 fun l' e q'=>k l' (aC (hc K) (bg (aO (rO (dJ (v_ (q.upd m3 _ _ m0)) (v_ rfl)) (dZ x.app f.1)) rfl (by rw [List.length_map];omega) e1) rfl) e) q'
end
section
variable {l l1:L}{T:List D}{a:X}{G:Prop}
theorem gc(n:Nat)(L:List Nat):(iN L).all (D.hkn n)=true:=List.all_eq_true.mpr fun x hx=>by
 obtain ⟨k,_,rfl⟩:=bR hx
 cases n<;>rfl
theorem GL(L:List Nat):(D.tup [.int 6,.tup (iN L)]).hk=true:=by
 show (true && ((iN L).all (D.hkn 4) && true))=true
 rw [gc];rfl
theorem vh{Y:List Nat}{r:Nat}{m:L}(x:In b (n+1) h)(q:Le m l)(m0:m 0=some (.ref b.tab))(m6:m 6=some (.ref r))(hr:(h:List MO)[r]?=some (.lst (iN Y)))(hl:Y.length < 60)(Q:∀ h' (t:Nat),hU (sq (ay (iu (xt (xv 6))) (sq (af (ki 2)) aa) aa) (sq (ay (xt (ac .Eq (dC .len [(xv 6)]) (ki 1))) (sq (af (xi (xv 6) (ki 0))) aa) aa) (sq (ay (xt (ac .Gt (dC .len [(xv 6)]) (ki 400))) (sq eM aa) aa) (sq (af (dT "put" (xv 0) [(am [(ki 6),(dC .tuple [(xv 6)])])])) aa)))) (ab P (k+1)) l h (.int t) h'→In b n h'→Gr b h h'→Un (b.T h') t Y→G):G:=by
 have v6:=w_ (c:=ab P (k+1)) (h:=h) q m6
 have tr:=ko (tW v6 (jN hr))
 have ln:=bZ (f:=fun uu=>bi .len) (aQ v6) (dU hr)
 cases Y with
 | nil=>exact Q h 2 (aL tr rfl k_) (x.le (Nat.le_succ n)) .refl (.inl ⟨rfl,rfl⟩)
 | cons y Y=>cases Y with
  | nil=>exact Q h y (ai tr rfl (aL (ao ln k_) rfl (ar v6 k_ (aX (t:=0) hr rfl)))) (x.le (Nat.le_succ n)) .refl (.inr (.inl rfl))
  | cons z Y=>
   have lz:(iN (y::z::Y)).length=(y::z::Y).length:=List.length_map _
   exact gN (P:=P) (m:=k) x (GL (y::z::Y)) rfl fun h' t e x' g r=>Q h' t (ai tr rfl (ai (ao ln k_) (pD (k:=1) (lz▸nofun)) (ai (av (aF ln k_ rfl)) (decide_eq_false (by rw [lz];omega)) (aj (sE x.ht (w_ q m0) (bZ (dJ k_ (bZ (aQ v6) (jM hr))) rfl) e))))) x' g (.inr (.inr ⟨Nat.le_add_left 2 _,r⟩))
theorem pV{ts:List Nat}{Xs:List (List Nat)}(x:In b (n+1) h)(hd:cF d h (iN ts))(f:F2 (Pt (b.T h)) ts Xs)
  (hA:∀ a∈Xs.flatten,∃ k,At (b.T h) a k) (bad:∀ a∈Xs.flatten,a≠1∧a≠8∧a≠13∧a≠14) (hs:Xs.flatten.length < 200) (hK:(aV Xs.flatten).length < 60) (hts:ts.length < 60)
  (Q:∀ h' (t:Nat),ab P (m+4) 273 [.ref b.tab,d] h=some (.int t,h')→In b n h'→Gr b h h'→(0∈Xs.flatten→t=0)→(0∉Xs.flatten→Un (b.T h') t (sW (b.T h) (aV Xs.flatten)))→G):G:=by
 refine Az (P:=P) (n:=m+2) (m:=upd (fun i=>[.ref b.tab,d][i]?) 2 (.ref (h:List MO).length)) (chk:=still d (iN ts) (knd d (h++[.dct []]:List MO))) (K:=[]) x.ht (fun uu=>hd.app.still hd.app) rfl rfl rfl rfl f (by rw [List.length_nil,Nat.zero_add];exact hs) .refl fun l3 e1 q3=>?_
 have no:∀ {a:Nat},a=1∨a=8∨a=13∨a=14→a∉aV Xs.flatten:=fun e q=>have z:=bad _ (a8.mp q);e.elim z.1 fun e=>e.elim z.2.1 fun e=>e.elim z.2.2.1 z.2.2.2
 have e1:=aO (c:=ab P (m+3)) (a:=xv 1) (v_ rfl) hd.app.items (by rw [List.length_map];omega) e1
 have top:=vm (P:=P) (n:=m+2) (ak (h:=h)) (no (.inr (.inr (.inl rfl)))) (no (.inl rfl))
 have v2:∀ {h'},xv 2 (ab P (m+3)) l3 h'=some (.ref (h:List MO).length,h'):=w_ q3 rfl
 by_cases h0:0∈aV Xs.flatten
 ·exact Q (h++[.dct (dG (aV Xs.flatten))]:List MO) 0 (ah (Io P) rfl (ax (x:=ae 2 cu) (aA rfl) (ax e1 (ax (aA (rO (aQ v2) (top.trans (by rw [if_pos h0];rfl)))) (aL (av (aF (v_ rfl) k_ rfl)) rfl (v_ rfl)))))) (x.app.le (Nat.le_succ n)) x.gapp (fun uu=>rfl) fun q=>absurd (a8.mp h0) q
 ·have q5:=q3.upd (i:=5) (z:=.int (-1)) rfl
  have comp:=oE (i:=7) (it:=xl [xv 2] fun uu=>bi .sorted) (tt:=some (xt (xf 261 [(xv 0),(xv 2),(xv 7)]))) (e:=xv 7) (c:=ab P (m+3)) (h:=(h++[.dct (dG (aV Xs.flatten))]:List MO)) (f:=fun (y:Nat)=>D.int y) (g:=fun (y:Nat)=>D.int y) (p:=fun y=>!has (aV Xs.flatten) (wh (kT (b.T h) y)))
   (bZ (f:=fun uu=>bi .sorted) (aQ (w_ q5 rfl)) (qc ak (Nat.lt_trans hK (by decide)))) (aK ak) (by rw [fQ];exact Nat.lt_trans hK (by decide)) (fun y hy=>by
    obtain ⟨k,hk⟩:=hA y (a8.mp (cD.mp hy))
    rw [hk.kT]
    exact av (rO (dW (w_ (q5.upd rfl) rfl) (w_ (q5.upd rfl) rfl) (v_ rfl)) (xD (P:=P) (n:=m+1) x.ht.app.app hk (au ak)))) fun y uu uu1=>v_ rfl
  exact vh (P:=P) (k:=m+2) (Y:=sW (b.T h) (aV Xs.flatten)) x.app.app.app q5.set rfl rfl ak (cn (Nat.le_trans (List.length_filter_le _ _) (Nat.le_of_eq (fQ _))) hK) fun h' t r x' g u=>
   Q h' t (ah (Io P) rfl (ax (x:=ae 2 cu) (aA rfl) (ax e1 (ax (aA (i:=5) (rO (aQ v2) (top.trans (by rw [if_neg h0])))) (ai (av (aF (v_ rfl) k_ rfl)) rfl (ax (dS (rO (aQ (w_ q5 rfl)) (B8 (P:=P) (n:=m+2) ak (no (.inr (.inl rfl))) (no (.inr (.inr (.inr rfl))))))) (ax (aA comp) r))))))) x' ((x.gapp.trans (x.app.gapp.trans x.app.app.gapp)).trans g) (fun q=>absurd (a8.mpr q) h0) fun uu=>u
end
abbrev nw(w:Bool):Nat:=bif w then 4 else 2
noncomputable def bk(w:Bool)(i:Nat):Int:=if i < nw w then 3 else if i < 4 then 4 else 1
noncomputable def u3(w:Bool)(i:Nat):List D:=List.getD ((bif w then ([[.str (q "p"),.int 0],[.str (q "q"),.int 0],[.str (q "0"),.int 0],[.str (q "x"),.int 0]]:List (List D)) else [[.str (q "a"),.int 0],[.str (q "b"),.int 0],[.int 1,.int 0],[.int 2,.int 0]])++[[.str (q "undefined")],[.str (q "null")],[.str (q "string")],[.str (q "number")],[.str (q "any")]]) i []
noncomputable def pJ(w:Bool)(i:Nat):D:=.tup (.int (bk w i)::u3 w i)
def Bt(w:Bool)(T:List D)(i a:Nat):Prop:=i < 9∧T[a]?=some (pJ w i)
structure Ms(w:Bool)(T:List D)(S:Nat)(Y:List Nat):Prop where
 srt:Y.Pairwise (· < ·)
 of:∀ a∈Y,∃ i,S.testBit i=true∧Bt w T i a
 to:∀ i,S.testBit i=true→∃ a∈Y,Bt w T i a
noncomputable def wb(w:Bool)(i:Nat):Nat:=if i < nw w then 6 else if i < 4 then 7 else i
structure Nm(w:Bool)(S:Nat):Prop where
 lt:S < 256
 n:∀ i,S.testBit i=true→wb w i=i∨S.testBit (wb w i)=false
abbrev CQ(w:Bool)(S:Nat):Prop:=S=256∨Nm w S
inductive Ty (w:Bool) (T:List D) (S t:Nat):Prop
 | mk (Y:List Nat):CQ w S→Un T t Y→Ms w T S Y→Ty w T S t
section
variable {T:List D}{a e t':Nat}{x:D}{Z:List Nat}
theorem lQ(h:T.Nodup)(p:T[i]?=some x)(q:T[j]?=some x):i=j:=by
 obtain ⟨h1,e1⟩:=cv p
 obtain ⟨h2,e2⟩:=cv q
 exact (List.getElem_inj h).mp (e1.trans e2.symm)
theorem Tok.at(k:Tok T)(h:bJ[j]?=some x):T[j]?=some x:=aU k.first h
theorem Tok.grow(k:Tok T)(p:T <+: T')(nd:T'.Nodup):Tok T':=⟨k.first.trans p,nd⟩
theorem A7:∀ w,∀ i < 9,4≤i→bJ[if i=8 then 0 else i]?=some (pJ w i):=by decide +kernel
theorem Ec:∀ w,∀ i < 9,∀ j < 16,(decide (j∈[1,2,3,8,13,14]) || decide (j < 4∧i < 8))=true→(bJ.map (D.eqb (pJ w i)))[j]?=some false:=by decide +kernel
theorem A6:∀ w,∀ i < 9,∀ j < 9,D.eqb (pJ w i) (pJ w j)=true→i=j:=by decide +kernel
theorem qp:∀ w,∀ i < 9,(bk w i=2∨bk w i=3∨bk w i=4∨bk w i=8→D.eqb ((u3 w i).getLastD .none) (.int 0)=true)∧bk w i≠6∧bk w i≠5∧(u3 w i).length≠0:=by decide +kernel
theorem Bt.fix(k:Tok T)(h:i < 9)(h4:4≤i):Bt w T i (if i=8 then 0 else i):=⟨h,k.at (A7 w i h h4)⟩
theorem Bt.ne(k:Tok T)(b:Bt w T i a)(hj:j∈[1,2,3,8,13,14]∨(j < 4∧i < 8)):a≠j:=fun e=>by
 subst e
 have lt:a < 16:=hj.elim (fun m=>(by decide:∀ x∈[1,2,3,8,13,14],x < 16) a m) fun h=>Nat.lt_of_lt_of_le h.1 (by decide)
 have r:=Ec w i b.1 a lt ((Bool.or_eq_true _ _).mpr (hj.imp decide_eq_true decide_eq_true))
 rw [List.getElem?_map] at r
 cases q:bJ[a]? with
 | none=>rw [q] at r;cases r
 | some x=>
  rw [q,Option.some.inj ((k.at q).symm.trans b.2)] at r
  exact absurd (Option.some.inj r) (by rw [D.eqb_refl];decide)
theorem Bt.at(k:Tok T)(b:Bt w T i a):At T a (bk w i):=by
 obtain ⟨l1,l2,l3,l4⟩:=qp w i b.1
 refine ⟨_,b.2,b.ne k (.inl (by decide)),l2,l3,fun h=>?_⟩
 have e:=D.eqb_eq (l1 h)
 rw [←e]
 cases q:u3 w i with
 | nil=>rw [q] at l4;exact absurd rfl l4
 | cons=>rfl
theorem Bt.inj(b:Bt w T i a)(c:Bt w T j a):i=j:=A6 w i b.1 j c.1 (Option.some.inj (b.2.symm.trans c.2)▸D.eqb_refl _)
theorem Bt.uniq(k:Tok T)(b:Bt w T i a)(c:Bt w T i e):a=e:=lQ k.nd b.2 c.2
theorem Bt.id(k:Tok T)(b:Bt w T i a)(h4:4≤i):a=if i=8 then 0 else i:=b.uniq k (.fix k b.1 h4)
theorem Bt.grow(p:T <+: T')(b:Bt w T i a):Bt w T' i a:=⟨b.1,aU p b.2⟩
theorem Un.grow(p:T <+: T')(u:Un T t Y):Un T' t Y:=u.imp id (Or.imp id fun ⟨a,e⟩=>⟨a,aU p e⟩)
theorem Un.uniq(nd:T.Nodup)(u:Un T t Y)(v:Un T t' Y):t=t':=by
 rcases u with ⟨rfl,rfl⟩|rfl|⟨h,e⟩<;>rcases v with ⟨v,rfl⟩|v|⟨h',e'⟩
 ·rfl
 ·cases v
 ·cases h'
 ·cases v
 ·cases v;rfl
 ·exact absurd h' (Nat.lt_irrefl 1)
 ·rw [v] at h;cases h
 ·rw [v] at h;exact absurd h (Nat.lt_irrefl 1)
 ·exact lQ nd e e'
theorem rV{A B:List Nat}(p:A.Pairwise (· < ·))(q:B.Pairwise (· < ·))(h:∀ x,x∈A↔x∈B):A=B:=by
 induction A generalizing B with
 | nil=>cases B with
  | nil=>rfl
  | cons b B=>exact absurd ((h b).mpr aw) List.not_mem_nil
 | cons a A ih=>cases B with
  | nil=>exact absurd ((h a).mp aw) List.not_mem_nil
  | cons b B=>
   rw [List.pairwise_cons] at p q
   have e:a=b:=by
    rcases bo ((h a).mp aw) with r|r
    ·exact r
    ·rcases bo ((h b).mpr aw) with s|s
     ·exact s.symm
     ·exact absurd (Nat.lt_trans (q.1 a r) (p.1 b s)) (Nat.lt_irrefl _)
   cases e
   refine congrArg _ (ih p.2 q.2 fun x=>⟨fun m=>?_,fun m=>?_⟩)
   ·exact (bo ((h x).mp (aE _ m))).elim (fun e=>absurd (e▸p.1 x m) (Nat.lt_irrefl _)) _root_.id
   ·exact (bo ((h x).mpr (aE _ m))).elim (fun e=>absurd (e▸q.1 x m) (Nat.lt_irrefl _)) _root_.id
theorem rU{n lo:Nat}{L:List Nat}(h:L.Pairwise (· < ·))(hl:lo≤n)(hb:∀ x∈L,lo≤x∧x < n):L.length+lo≤n:=by
 induction L generalizing lo with
 | nil=>exact Nat.le_trans (Nat.le_of_eq (Nat.zero_add _)) hl
 | cons a r ih=>
  rw [List.pairwise_cons] at h
  have b:=hb a aw
  exact Nat.le_trans (Nat.add_le_add_left b.1 _) (Nat.succ_add_eq_add_succ r.length a▸ih h.2 b.2 fun x hx=>⟨h.1 x hx,(hb x (aE _ hx)).2⟩)
theorem dp{n:Nat}{L:List Nat}(h:L.Nodup)(hb:∀ x∈L,x < n):L.length≤n:=fQ L▸rU (lo:=0) (gb h) (Nat.zero_le n) fun x hx=>⟨Nat.zero_le _,hb x (cD.mp hx)⟩
theorem CL(k:Tok T)(h:Y.Nodup)(hb:∀ a∈Y,∃ i,S.testBit i=true∧Bt w T i a):∃ L:List Nat,L.length=Y.length∧L.Nodup∧∀ i∈L,∃ a∈Y,Bt w T i a:=by
 induction Y with
 | nil=>exact ⟨[],rfl,List.nodup_nil,fun uu q=>nomatch q⟩
 | cons a Y ih=>
  rw [List.nodup_cons] at h
  obtain ⟨L,h1,h2,h3⟩:=ih h.2 fun b q=>hb b (aE _ q)
  obtain ⟨i,_,ba⟩:=hb a aw
  refine ⟨i::L,congrArg (·+1) h1,List.nodup_cons.mpr ⟨fun q=>?_,h2⟩,fun j hj=>?_⟩
  ·obtain ⟨c,hc,bc⟩:=h3 i q
   exact h.1 (ba.uniq k bc▸hc)
  ·rcases bo hj with rfl|hj
   ·exact ⟨a,aw,ba⟩
   ·obtain ⟨c,hc,bc⟩:=h3 j hj
    exact ⟨c,aE _ hc,bc⟩
theorem mJ(k:Tok T)(h:Y.Nodup)(hb:∀ a∈Y,∃ i,S.testBit i=true∧Bt w T i a):Y.length≤9:=by
 obtain ⟨L,h1,h2,h3⟩:=CL k h hb
 exact h1▸dp h2 fun i hi=>(h3 i hi).elim fun uu b=>b.2.1
theorem Ms.len(k:Tok T)(m:Ms w T S Y):Y.length≤9:=mJ k (m.srt.imp fun h=>Nat.ne_of_lt h) m.of
theorem Ms.uniq(k:Tok T)(m:Ms w T S Y)(m':Ms w T S Z):Y=Z:=by
 have key:∀ {Y Z:List Nat},Ms w T S Y→Ms w T S Z→∀ a,a∈Y→a∈Z:=fun m m' a ha=>by
  obtain ⟨i,h2,b⟩:=m.of a ha
  obtain ⟨c,hc,bc⟩:=m'.to i h2
  exact b.uniq k bc▸hc
 exact rV m.srt m'.srt fun a=>⟨key m m' a,key m' m a⟩
theorem Ms.grow(p:T <+: T')(m:Ms w T S Y):Ms w T' S Y:=⟨m.srt,fun a ha=>(m.of a ha).imp fun uu h=>⟨h.1,h.2.grow p⟩,fun i h=>(m.to i h).imp fun uu h=>⟨h.1,h.2.grow p⟩⟩
theorem Ty.grow(p:T <+: T')(y:Ty w T S t):Ty w T' S t:=by obtain ⟨Y,n,u,m⟩:=y;exact ⟨Y,n,u.grow p,m.grow p⟩
theorem Ty.uniq(k:Tok T)(y:Ty w T S t)(z:Ty w T S t'):t=t':=by
 obtain ⟨Y,n,u,m⟩:=y
 obtain ⟨Z,_,v,m'⟩:=z
 exact u.uniq k.nd (m.uniq k m'▸v)
theorem Ms.pt(k:Tok T)(m:Ms w T S Y)(u:Un T t Y):Pt T t Y:=by
 rcases u with ⟨rfl,rfl⟩|rfl|⟨h2,e⟩
 ·exact .never
 ·obtain ⟨i,_,b⟩:=m.of t aw
  exact (b.at k).pt
 ·refine .un (fun z=>?_) e
  rw [z,k.at (j:=2) rfl] at e
  cases e
theorem pX{i:Nat}(h:Nat.testBit 256 i=true):i=8:=by
 rw [show 256=2 ^ 8 from rfl,Nat.testBit_two_pow] at h
 exact (of_decide_eq_true h).symm
theorem EC(k:Tok T):Ms w T 256 [0]:=⟨List.pairwise_singleton _ _,fun a m=>cV m▸⟨8,rfl,.fix k (by decide) (by decide)⟩,fun i h=>⟨0,List.mem_singleton.mpr rfl,by rw [pX h];exact .fix k (by decide) (by decide)⟩⟩
theorem lv(k:Tok T):Ty w T 256 0:=⟨[0],.inl rfl,.inr (.inl rfl),EC k⟩
theorem Ty.any(k:Tok T)(y:Ty w T 256 t):t=0:=y.uniq k (lv k)
theorem CQ.lt(n:CQ w S):S < 512:=n.elim (fun e=>e▸by decide) fun n=>Nat.lt_of_lt_of_le n.lt (by decide)
end
noncomputable def iz:List Nat→Nat
 | []=>0
 | S::r=>S ||| iz r
theorem gp{i:Nat}{Ss:List Nat}:(iz Ss).testBit i=Ss.any (·.testBit i):=by
 induction Ss with
 | nil=>exact Nat.zero_testBit i
 | cons S r ih=>exact (Nat.testBit_or S (iz r) i).trans (by rw [ih,List.any_cons])
theorem yx{Ss:List Nat}(hs:∀ s∈Ss,s < 512):iz Ss < 512:=by
 induction Ss with
 | nil=>exact Nat.zero_lt_succ _
 | cons S r ih=>exact Nat.or_lt_two_pow (n:=9) (hs S aw) (ih fun x hx=>hs x (aE _ hx))
noncomputable def lsum(w:Bool)(S:Nat):Nat:=if S.testBit 8 then 256 else S &&& (511 - ((if S.testBit 6 then (bif w then 15 else 3) else 0)+(if S.testBit 7 then (bif w then 0 else 12) else 0)))
theorem cP:∀ w S,S < 512→S.testBit 8=false→lsum w S < 256∧∀ i,i < 9→(lsum w S).testBit i=(S.testBit i && (decide (wb w i=i) || !S.testBit (wb w i))):=by
 intro w;cases w<;>decide +kernel
structure Cv(w:Bool)(T:List D)(S:Nat)(F:List Nat):Prop where
 of:∀ a∈F,∃ i,S.testBit i=true∧Bt w T i a
 to:∀ i,S.testBit i=true→∃ a∈F,Bt w T i a
section
variable {T:List D}{F:List Nat}{G:Prop}
theorem tu(h:S < 512)(hi:9≤i):S.testBit i=false:=Nat.testBit_lt_two_pow (Nat.lt_of_lt_of_le h (Nat.pow_le_pow_right (n:=2) (by decide) hi))
theorem Ai(h:S < 512)(q:S.testBit i=true):i < 9:=Nat.lt_of_not_le fun e=>nomatch q.symm.trans (tu h e)
theorem Nm.b8(n:Nm w S):S.testBit 8=false:=Nat.testBit_lt_two_pow (i:=8) n.lt
theorem Nm.l9(n:Nm w S):S < 512:=Nat.lt_trans n.lt (by decide)
theorem tZ:∀ w,∀ i < 9,wb w i < 9∧wb w (wb w i)=wb w i:=by decide +kernel
theorem o8(h:S < 512)(h8:S.testBit 8=false):Nm w (lsum w S):=by
 obtain ⟨h1,h2⟩:=cP w S h h8
 refine ⟨h1,fun i q=>?_⟩
 have hi:=Ai (Nat.lt_trans h1 (by decide)) q
 rw [h2 i hi,Bool.and_eq_true,Bool.or_eq_true] at q
 exact q.2.imp of_decide_eq_true fun e=>by
  rw [h2 _ (tZ w i hi).1]
  cases z:S.testBit (wb w i)
  ·rfl
  ·rw [z] at e;cases e
theorem sG(k:Tok T)(y:F2 (fun t S=>Ty w T S t) ts Ss):∃ Xs,F2 (Pt T) ts Xs∧Xs.flatten.length≤9 * ts.length∧Cv w T (iz Ss) Xs.flatten∧iz Ss < 512:=by
 induction ts generalizing Ss with
 | nil=>cases Ss with
  | nil=>exact ⟨[],trivial,Nat.le_refl _,⟨fun uu q=>(nomatch q),fun i q=>nomatch (Nat.zero_testBit i).symm.trans q⟩,by decide⟩
  | cons=>exact y.elim
 | cons t ts ih=>cases Ss with
  | nil=>exact y.elim
  | cons S Ss=>
   obtain ⟨Xs,f,l,c,o⟩:=ih y.2
   obtain ⟨X,nm,u,m⟩:=y.1
   refine ⟨X::Xs,⟨m.pt k u,f⟩,?_,⟨fun a ha=>?_,fun i q=>?_⟩,Nat.or_lt_two_pow (n:=9) nm.lt o⟩
   ·rw [List.flatten_cons,List.length_append,List.length_cons,Nat.mul_succ,Nat.add_comm]
    exact Nat.add_le_add l (m.len k)
   ·rw [List.flatten_cons,List.mem_append] at ha
    exact ha.elim (fun ha=>(m.of a ha).imp fun i q=>⟨(Nat.testBit_or S (iz Ss) i).trans (by rw [q.1];rfl),q.2⟩) fun ha=>(c.of a ha).imp fun i q=>⟨(Nat.testBit_or S (iz Ss) i).trans (by rw [q.1,Bool.or_true]),q.2⟩
   ·refine ((Bool.or_eq_true _ _).mp ((Nat.testBit_or S (iz Ss) i).symm.trans q)).elim (fun q=>?_) fun q=>?_
    ·exact (m.to i q).imp fun a z=>⟨List.mem_append_left _ z.1,z.2⟩
    ·exact (c.to i q).imp fun a z=>⟨List.mem_append_right _ z.1,z.2⟩
theorem Cv.has(k:Tok T)(c:Cv w T S F)(h4:4≤m)(h8:m < 8):has (aV F) (m:Int)=S.testBit m:=by
 have bm:Bt w T m m:=by have:=Bt.fix (w:=w) (i:=m) k (by omega) h4;rwa [if_neg (by omega)] at this
 rw [dj,Bool.eq_iff_iff,decide_eq_true_eq,a8]
 refine ⟨fun q=>?_,fun q=>?_⟩
 ·obtain ⟨i,hb,bt⟩:=c.of m q
  exact bt.inj bm▸hb
 ·obtain ⟨a,ha,bt⟩:=c.to m q
  exact bt.uniq k bm▸ha
theorem Cv.any(k:Tok T)(c:Cv w T S F):0∈F↔S.testBit 8=true:=⟨fun q=>by
 obtain ⟨i,hb,bt⟩:=c.of 0 q
 have:=bt.1
 by_cases h:i < 8
 ·exact absurd rfl (bt.ne k (.inr ⟨by decide,h⟩))
 ·rw [show i=8 by omega] at hb;exact hb,fun q=>by
 obtain ⟨a,ha,bt⟩:=c.to 8 q
 rw [show a=0 from bt.id k (by decide)] at ha;exact ha⟩
theorem Cv.stay(k:Tok T)(c:Cv w T S F):(!Internal.has (aV F) (wh (bk w i)))=(decide (wb w i=i) || !S.testBit (wb w i)):=by
 have h6:Internal.has (aV F) 6=S.testBit 6:=c.has k (m:=6) (by decide) (by decide)
 have h7:Internal.has (aV F) 7=S.testBit 7:=c.has k (m:=7) (by decide) (by decide)
 unfold bk wb
 have l4:nw w≤4:=by cases w<;>decide
 by_cases a1:i < nw w
 ·rw [if_pos a1,if_pos a1,decide_eq_false (by omega)]
  exact congrArg (!·) h6
 ·by_cases a2:i < 4
  ·rw [if_neg a1,if_neg a1,if_pos a2,if_pos a2,decide_eq_false (by omega)]
   exact congrArg (!·) h7
  ·rw [if_neg a1,if_neg a1,if_neg a2,if_neg a2,decide_eq_true rfl]
   exact congrArg (!·) (pE (K:=aV F))
theorem eR(x:In b (n+1) h)(hd:cF d h (iN ts))(y:F2 (fun t S=>Ty w (b.T h) S t) ts Ss)(hts:ts.length≤9)
  (Q:∀ h' (t:Nat),ab P (m+4) 273 [.ref b.tab,d] h=some (.int t,h')→In b n h'→Gr b h h'→Ty w (b.T h') (lsum w (iz Ss)) t→G):G:=by
 obtain ⟨Xs,f,hl,c,o⟩:=sG x.tok y
 have k:=x.tok
 refine pV (P:=P) (m:=m) x hd f (fun a ha=>(c.of a ha).imp' _ fun i q=>q.2.at k) (fun a ha=>?_) (by omega) (cn (mJ k eP fun a ha=>c.of a (a8.mp ha)) (by decide)) (by omega) fun h' t e x' g z u=>Q h' t e x' g ?_
 ·obtain ⟨i,_,q⟩:=c.of a ha
  exact ⟨q.ne k (.inl (by decide)),q.ne k (.inl (by decide)),q.ne k (.inl (by decide)),q.ne k (.inl (by decide))⟩
 ·cases q:(iz Ss).testBit 8 with
  | true=>
   rw [z ((c.any k).mpr q),show lsum w (iz Ss)=256 from if_pos q]
   exact lv x'.tok
  | false=>
   obtain ⟨l1,l2⟩:=cP w _ o q
   refine ⟨_,.inr (o8 o q),u (fun z=>nomatch q.symm.trans ((c.any k).mp z)),(Ms.grow g.p ⟨(gb eP).filter _,fun a ha=>?_,fun i hb=>?_⟩)⟩
   ·obtain ⟨ha,hst⟩:=List.mem_filter.mp ha
    obtain ⟨i,hb,bt⟩:=c.of a (a8.mp (cD.mp ha))
    rw [(bt.at k).kT,c.stay k] at hst
    exact ⟨i,by rw [l2 i bt.1,hb,hst];rfl,bt⟩
   ·have hi:=Ai (Nat.lt_trans l1 (by decide)) hb
    obtain ⟨h1,h2⟩:=aG ((l2 i hi).symm.trans hb)
    obtain ⟨a,ha,bt⟩:=c.to i h1
    exact ⟨a,List.mem_filter.mpr ⟨cD.mpr (a8.mpr ha),by rw [(bt.at k).kT,c.stay k];exact h2⟩,bt⟩
end
structure mT(b:Tb)(h0:H)(m:Nat)(K:List D)(n:Nat)(h:H):Prop where
 x:In b n h
 g:Gr b h0 h
 le:(h0:List MO).length≤m
 ne:m≠b.tab∧m≠b.r∧m≠b.i
 z:m≠0
 e:(h:List MO)[m]?=some (.lst K)
section
variable {l:L}{T:List D}{a k:X}{K:List D}{o:MO}{G:Prop}
theorem In.Tset(x:In b n h)(e:m≠b.tab∧m≠b.r∧m≠b.i):b.T (h.set m o)=b.T h:=(x.ht.set e).eq
theorem In.gset(x:In b n h)(e:m≠b.tab∧m≠b.r∧m≠b.i)(g:Gr b h0 h)(le:(h0:List MO).length≤m):Gr b h0 (h.set m o):=⟨by rw [x.Tset e];exact g.p,g.k.set le⟩
theorem FC{N:Nat}(h:j < N):N - j=N - (j+1)+1:=by omega
theorem In.step{N k:Nat}(x:In b (n+k * (N - j)) h)(e:j < N):In b (n+k * (N - (j+1))+k) h:=by
 rw [FC e,Nat.mul_succ,←Nat.add_assoc] at x;exact x
theorem In.skip{N k:Nat}(x:In b (n+k * (N - j)) h):In b (n+k * (N - (j+1))) h:=x.le (Nat.add_le_add_left (Nat.mul_le_mul_left k (Nat.sub_le_sub_left (Nat.le_succ j) N)) n)
theorem In.new(x:In b n h):mT b h (h:List MO).length [] n (h++[.lst []]:List MO):=⟨x.app,x.gapp,Nat.le_refl _,EB x.ht.lts,x.ht.pos,ak⟩
theorem mT.call(s:mT b h0 m K n h)(x:In b n' h')(g:Gr b h h'):mT b h0 m K n' h':=⟨x,s.g.trans g,s.le,s.ne,s.z,g.k.2 _ _ s.e s.ne.2.1 s.ne.2.2⟩
theorem mT.push(s:mT b h0 m K n h)(ha:a c l h=some (.ref m,h))(hk:k c l h=some (z,h2))(s2:mT b h0 m K n' h2)(hl:K.length < 99000)
  (Q:∀ h3,dB .append a [k] c l h=some (.none,h3)→mT b h0 m (K++[z]) n' h3→b.T h3=b.T h2→G):G:=
 Q _ (dz s.z ha s.e (aQ hk) s2.e (by omega)) ⟨s2.x.set s.ne,s2.x.gset s.ne s2.g s.le,s.le,s.ne,s.z,co s2.e⟩ (s2.x.Tset s.ne)
theorem iq{ts:List Nat}:iN ts++[.int t]=iN (ts++[t]):=(List.map_append (f:=fun (k:Nat)=>D.int k) (l₁:=ts) (l₂:=[t])).symm
theorem gH{s:Str}(x:In b (n+1) h)(Q:∀ h' (t:Nat),ab P (m+2) 180 [.ref b.tab,.str s] h=some (.int t,h')→In b n h'→Gr b h h'→(b.T h')[t]?=some (.tup [.int 3,.str s,.int 0])→G):G:=
 gN (P:=P) (m:=m) (row:=.tup [.int 3,.str s,.int 0]) x rfl rfl fun h' t e=>Q h' t (ah (as':=[.ref b.tab,.str s,.int 0]) (J8 P) rfl (aj (sE x.ht (v_ rfl) rfl e)))
theorem gO{i:Int}(x:In b (n+1) h)(Q:∀ h' (t:Nat),ab P (m+2) 188 [.ref b.tab,.int i] h=some (.int t,h')→In b n h'→Gr b h h'→(b.T h')[t]?=some (.tup [.int 4,.int i,.int 0])→G):G:=
 gN (P:=P) (m:=m) (row:=.tup [.int 4,.int i,.int 0]) x rfl rfl fun h' t e=>Q h' t (ah (as':=[.ref b.tab,.int i,.int 0]) (J7 P) rfl (aj (sE x.ht (v_ rfl) rfl e)))
theorem jG(h:(2 ^ i).testBit j=true):i=j:=by rw [Nat.testBit_two_pow] at h;exact of_decide_eq_true h
theorem yE(hi:i < 9):CQ w (2 ^ i):=by
 by_cases e:i=8
 ·exact .inl (e▸rfl)
 ·refine .inr ⟨Nat.pow_lt_pow_right (n:=8) (by decide) (by omega),fun j q=>?_⟩
  cases jG q
  by_cases z:wb w i=i
  ·exact .inl z
  ·exact .inr (Nat.testBit_two_pow.trans (decide_eq_false fun e=>z e.symm))
theorem iI(bt:Bt w T i t):Ty w T (2 ^ i) t:=⟨[t],yE bt.1,.inr (.inl rfl),List.pairwise_singleton _ _,fun a m=>cV m▸⟨i,by rw [Nat.testBit_two_pow];exact decide_eq_true rfl,bt⟩,fun j q=>⟨t,List.mem_singleton.mpr rfl,jG q▸bt⟩⟩
theorem jI(x:In b (n+1) h)(y:Ty w (b.T h) S t)(Q:∀ h' (t':Nat),ab P (m+5) 280 [.ref b.tab,.int t] h=some (.int t',h')→In b n h'→Gr b h h'→Ty w (b.T h') (lsum w (S ||| 16)) t'→G):G:=
 eR (P:=P) (m:=m) (d:=.tup (iN [t,4])) (ts:=[t,4]) (Ss:=[S,16]) x (.inl rfl) ⟨y,iI (i:=4) (.fix x.tok (by decide) (by decide)),trivial⟩ (f0 rfl) fun h' t' e x' g y=>Q h' t' (ah (J2 P) rfl (aj (az (v_ rfl) (bZ (dJ (v_ rfl) k_) rfl) e))) x' g y
theorem eK{i j:Int}{e:X}{h1 h2:H}(ha:a c l h=some (.int i,h1))(he:e c l h1=some (.int j,h2)):xt (ac .Lt a e) c l h=some (decide (i < j),h2):=av (aF ha he rfl)
theorem yP{i j:Nat}{e:X}{v:Bool}(ha:a c l h=some (.int i,h))(he:e c l h=some (.int j,h))(k:decide (i < j)=v):xt (ac .Lt a e) c l h=some (v,h):=(eK ha he).trans (by rw [←k,show decide ((i:Int) < (j:Int))=decide (i < j) from decide_eq_decide.mpr Int.ofNat_lt])
theorem Li(h2:i < 2):∃ s,item (.str (q "ab")) (.int i) h=some (.str s,h)∧pJ false i=.tup [.int 3,.str s,.int 0]:=by
 cases i with
 | zero=>exact ⟨_,rfl,rfl⟩
 | succ i=>cases i with
  | zero=>exact ⟨_,rfl,rfl⟩
  | succ i=>exact absurd h2 (Nat.not_lt_of_le (Nat.le_add_left 2 i))
theorem Jq:∀ i:Nat,i < 4→2≤i→D.eqb (.tup [.int 4,.int ((i:Int) - 1),.int 0]) (pJ false i)=true:=by decide +kernel
theorem Kg:∀ i:Nat,i < 9→4≤i→D.eqb ([D.int 4,.int 5,.int 6,.int 7,.int 0].getD (i - 4) .none) (.int ((if i=8 then 0 else i:Nat):Int))=true:=by decide +kernel
theorem u4(hi:i < 9)(x:In b (n+1) h)(Q:∀ h' (t:Nat),ab P (m+3) 1130 [.ref b.tab,.int i] h=some (.int t,h')→In b n h'→Gr b h h'→Bt false (b.T h') i t→G):G:=by
 by_cases h2:i < 2
 ·obtain ⟨s,e1,e2⟩:=Li (h:=h) h2
  exact gH (P:=P) (m:=m) (s:=s) x fun h' t e x' g r=>Q h' t (ah (zO P) rfl (aL (yP (v_ rfl) k_ (decide_eq_true h2)) rfl (az (v_ rfl) (ar k_ (v_ rfl) e1) e))) x' g ⟨hi,e2▸r⟩
 ·by_cases h4:i < 4
  ·exact gO (P:=P) (m:=m) x fun h' t e x' g r=>Q h' t (ah (zO P) rfl (ai (yP (v_ rfl) k_ (decide_eq_false h2)) rfl (aL (yP (v_ rfl) k_ (decide_eq_true h4)) rfl (az (v_ rfl) (ar (v_ rfl) k_ rfl) e)))) x' g ⟨hi,D.eqb_eq (Jq i h4 (Nat.le_of_not_lt h2))▸r⟩
  ·have l4:=Nat.le_of_not_lt h4
   have z:[D.int 4,.int 5,.int 6,.int 7,.int 0][i - 4]?=some (.int ((if i=8 then 0 else i:Nat):Int)):=by
    rw [←D.eqb_eq (Kg i hi l4)]
    exact (List.getElem?_eq_getElem (by show i - 4 < 5;omega)).trans (congrArg some (List.getElem_eq_getD _))
   exact Q h _ (ah (zO P) rfl (ai (yP (v_ rfl) k_ (decide_eq_false h2)) rfl (ai (yP (v_ rfl) k_ (decide_eq_false h4)) rfl (aj (ar rfl (ar (v_ rfl) k_ (congrArg (fun z=>some (D.int z,h)) (Int.ofNat_sub l4).symm)) (aP z)))))) (x.le (Nat.le_succ n)) .refl (.fix x.tok hi l4)
theorem Ah:∀ S:Nat,S < 512→∀ i:Nat,i < 9→(Builtin.bitAnd (Int.fdiv (S:Int) (2 ^ i)) 1 != 0)=S.testBit i:=by decide +kernel
theorem fK{u v:Int}{h:H}:still (.rng u v) ((List.range (v - u).toNat).map fun (k:Nat)=>.int (u+k)) 0 h=true:=bE (d:=.rng u v) (h:=h) rfl rfl
noncomputable def hG(S i:Nat):List Nat:=(List.range i).filter fun j=>S.testBit j
theorem kI:hG S (i+1)=if S.testBit i then hG S i++[i] else hG S i:=by
 unfold hG
 rw [List.range_succ,List.filter_append,List.filter_cons]
 cases S.testBit i
 ·exact List.append_nil _
 ·rfl
theorem yy(h:S < 512):iz ((hG S 9).map fun i=>2 ^ i)=S:=by
 refine Nat.eq_of_testBit_eq fun j=>?_
 rw [gp,List.any_map,Bool.eq_iff_iff,List.any_eq_true]
 refine ⟨fun ⟨i,hi,hb⟩=>jG hb▸(List.mem_filter.mp hi).2,fun hb=>⟨j,List.mem_filter.mpr ⟨List.mem_range.mpr (Nat.lt_of_not_le fun q=>?_),hb⟩,?_⟩⟩
 ·exact nomatch hb.symm.trans (Nat.testBit_lt_two_pow (Nat.lt_of_lt_of_le h (Nat.pow_le_pow_right (n:=2) (by decide) q)))
 ·exact Nat.testBit_two_pow.trans (decide_eq_true rfl)
theorem jP{S:Nat}(h:S < 1000000000):cA (S:Int)=true:=by
 unfold cA
 exact decide_eq_true (by omega)
theorem A3(a b:Int)(h:H):ft .RShift (.int a) (.int b) h=if (cA a && decide (0≤b∧b < 62))=true then some (.int (a.fdiv (2 ^ b.toNat)),h) else none:=rfl
theorem FI{S j:Nat}{hh:H}(h1:S < 512)(h2:j < 9):ft .RShift (.int S) (.int j) hh=some (.int (Int.fdiv (S:Int) (2 ^ j)),hh):=
 (A3 _ _ _).trans (if_pos ((Bool.and_eq_true _ _).mpr ⟨jP (Nat.lt_of_lt_of_le h1 (by decide)),decide_eq_true ⟨Int.natCast_nonneg _,by omega⟩⟩))
end
section
variable {l:L}{T:List D}{a k:X}{K:List D}{G:Prop}
theorem yc(i:Int):dq (.int i) h=if (cA i && decide (i < 100000))=true then some (.rng 0 i,h) else none:=rfl
theorem bP(hn:n < 90000):dq (.int n) h=some (.rng 0 n,h):=(yc _).trans (if_pos ((Bool.and_eq_true _ _).mpr ⟨jP (by omega),decide_eq_true (by omega)⟩))
theorem um{n j y:Nat}(h:(List.range n)[j]?=some y):j < n∧y=j:=by
 have:=(cv h).1
 rw [List.length_range] at this
 exact ⟨this,(Option.some.inj ((List.getElem?_range this).symm.trans h)).symm⟩
theorem mL:(hG S i).length≤i:=Nat.le_trans (List.length_filter_le _ _) (Nat.le_of_eq List.length_range)
theorem F2.mapR{α β γ:Type}{R:α→β→Prop}{S:α→γ→Prop}{g:β→γ}{l:List α}{m:List β}(h:F2 R l m)(k:∀ a b,R a b→S a (g b)):F2 S l (m.map g):=by
 induction l generalizing m with
 | nil=>cases m with
  | nil=>exact h
  | cons=>exact h.elim
 | cons a l ih=>cases m with
  | nil=>exact h.elim
  | cons b m=>exact ⟨k a b h.1,ih h.2⟩
theorem EO(k:Nat):D.int (0+(k:Int))=.int k:=congrArg D.int (Int.zero_add _)
theorem bU:bH (.rng 0 (n:Int)) h=some ((List.range n).map fun (k:Nat)=>.int k):=by
 show some ((List.range ((n:Int) - 0).toNat).map fun (k:Nat)=>D.int (0+k))=_
 rw [Int.sub_zero,Int.toNat_natCast,funext EO]
theorem bD:still (.rng 0 (n:Int)) ((List.range n).map fun (k:Nat)=>.int k) 0 h=true:=bE (d:=.rng 0 n) (h:=h) bU rfl
theorem gV(x:In b (n+10) h)(hS:S < 512)(Q:∀ h' (t:Nat),ab P (m+5) 1123 [.ref b.tab,.int S] h=some (.int t,h')→In b n h'→Gr b h h'→Ty false (b.T h') (lsum false S) t→G):G:=by
 refine GN (f:=fun (k:Nat)=>D.int (0+(k:Int))) (i:=3) (a:=x1 (ki 9) dq) (c:=ab P (m+4)) (l:=upd (fun i=>[D.ref b.tab,.int S][i]?) 2 (.ref (h:List MO).length)) (h:=(h++[MO.lst []]:List MO)) (ys:=List.range ((9:Int) - 0).toNat) (d:=.rng 0 9)
  (fun j l hh=>∀ G:Prop,(∀ ts,mT b h (h:List MO).length (iN ts) (n+1+1 * (9 - j)) hh→F2 (fun t i=>Bt false (b.T hh) i t) ts (hG S j)→Le (upd (fun i=>[D.ref b.tab,.int S][i]?) 2 (.ref (h:List MO).length)) l→G)→G)
  (bd:=sq (ay (xt (xb .BitAnd (xb .RShift (xv 1) (xv 3)) (ki 1))) (sq (bn (dB .append (xv 2) [(xf 1130 [(xv 0),(xv 3)])])) aa) aa) aa)
  (kQ k_ (bP (n:=9) (by decide))) rfl (by decide) (fun uu uu1 uu2 uu3=>fK) (fun j y l hh hy I G K=>I _ fun ts s f q=>?_) (fun G K=>K [] x.new trivial .refl) fun l' h1 lp I=>I _ fun ts s f q=>?_
 ·obtain ⟨hj,rfl⟩:=um hy
  have hj:y < 9:=hj
  have q':=q.upd (i:=3) (z:=.int (0+y)) rfl
  have tst:=tW (ar (f:=ft .BitAnd) (ar (f:=ft .RShift) (c:=ab P (m+4)) (h:=hh) (w_ q' (i:=1) rfl) (v_ (i:=3) (d:=.int y) (congrArg some (EO y))) (FI hS hj)) (k_ (d:=.int 1)) rfl) (congrArg some (Ah S hS y hj))
  have hl:=F2.length f
  have hb:=mL (S:=S) (i:=y)
  cases hB:S.testBit y with
  | false=>
   rw [hB] at tst
   exact K _ _ (bI tst rfl rfl) fun G K=>K ts (s.call s.x.skip .refl) (by rw [kI,hB];exact f) q'
  | true=>
   rw [hB] at tst
   exact u4 (P:=P) (m:=m+1) hj (s.x.step hj) fun h2 t e x2 g2 bt=>s.push (c:=ab P (m+4)) (l:=upd l 3 (.int (0+y))) (a:=xv 2) (k:=xf 1130 [(xv 0),(xv 3)]) (w_ q' rfl) (az (w_ q' rfl) (v_ (i:=3) (congrArg some (EO y))) e) (s.call x2 g2) (by rw [List.length_map];omega) fun h3 e3 s3 t3=>
    K _ _ (j2 tst rfl (bg (dS e3) rfl) rfl) fun G K=>K (ts++[t]) (iq▸s3) (by
     rw [kI,hB,t3]
     exact (f.imp fun uu uu1 uu2 b=>b.grow g2.p).append (.one bt)) q'
 ·exact eR (P:=P) (m:=m) (ts:=ts) (Ss:=(hG S 9).map fun i=>2 ^ i) s.x (.inr ⟨_,rfl,s.e⟩) (f.mapR fun uu uu1 b=>iI b) (F2.length f▸mL) fun h2 t e x2 g2 y=>Q h2 t (ah (DI P) rfl (ai (eK (v_ rfl) k_) (decide_eq_false (Int.not_lt.mpr (Int.natCast_nonneg S))) (ax (x:=ae 2 (br [])) (aA rfl) (ax lp (aj (az (w_ q rfl) (w_ q rfl) e)))))) x2 (s.g.trans g2) (yy hS▸y)
theorem pb:ab P (n+1) 1123 [.ref b.tab,.int (-1)] h=some (.int (-1),h):=ah (DI P) rfl (aL (eK (v_ rfl) k_) rfl rfl)
end
noncomputable def fb(w:Bool)(i:Nat):Nat:=if i=4 then 5 else if i=5 then 4 else if i < nw w∨i=6 then 1 else 2
noncomputable def mc(w:Bool)(i j:Nat):Nat:=if i=j then 1 else if i=4∨i=5∨j=4∨j=5∨fb w i≠fb w j∨(i < 4∧j < 4) then 0 else if i < 4 then 1 else 2
noncomputable def mb(w:Bool)(i j:Nat):Option Nat:=if mc w i j=0 then none else if mc w i j=1 then some i else some j
section
variable {l:L}{T:List D}{a k:X}{v:Bool}{G:Prop}
theorem lh{v w:Bool}(ha:a c l h=some (.bool v,h))(hk:k c l h=some (.bool w,h)):tX a k c l h=some (.bool (v || w),h):=dy ha (by cases v;exact hk;rfl)
theorem lj{v w:Bool}(ha:a c l h=some (.bool v,h))(hk:k c l h=some (.bool w,h)):gE a k c l h=some (.bool (v && w),h):=dy ha (by cases v;rfl;exact hk)
theorem wG{i j:Int}{e:X}(ha:a c l h=some (.int i,h))(he:e c l h=some (.int j,h)):ac .Eq a e c l h=some (.bool (i==j),h):=aF ha he gX
theorem cQ{i j:Nat}:((i:Int)==(j:Int))=decide (i=j):=by rw [Bool.eq_iff_iff,beq_iff_eq,decide_eq_true_eq];exact Int.ofNat_inj
theorem Bt.eqk(k:Tok T)(b:Bt w T i s)(hi:i < 8){c:Nat}(h4:4≤c)(h8:c < 8):((s:Int)==(c:Int))=decide (i=c):=by
 have f:=Bt.fix (w:=w) (i:=c) k (by omega) h4
 rw [if_neg (by omega)] at f
 rw [cQ]
 exact decide_eq_decide.mpr ⟨fun e=>b.inj (e▸f),fun e=>b.uniq k (e▸f)⟩
theorem Bt.eqi(k:Tok T)(p:Bt w T i s)(q:Bt w T j t):((s:Int)==(t:Int))=decide (i=j):=by
 rw [cQ]
 exact decide_eq_decide.mpr ⟨fun e=>p.inj (e▸q),fun e=>p.uniq k (e▸q)⟩
theorem B1:∀ w,∀ i < 8,4≤i→bk w i=1∧bh (.int (i:Int)) [((.int 3),(.int 6)),((.int 4),(.int 5)),((.int 5),(.int 4)),((.int 6),(.int 1)),((.int 7),(.int 2)),((.int 10),(.int 7))]=some (.int (fb w i:Int)):=by
 intro w i h8 h4
 have:i=4∨i=5∨i=6∨i=7:=by omega
 rcases this with rfl|rfl|rfl|rfl<;>cases w<;>exact ⟨rfl,rfl⟩
theorem BH:∀ w,∀ i < 4,(bk w i==1)=false∧(bk w i==2)=false∧ec (.int (bk w i)) [.int 8,.int 9,.int 11,.int 12,.int 13]=false∧(bk w i==6)=false∧(bk w i==7)=false∧decide (wh (bk w i) < 0)=false∧fb w i=if wh (bk w i)=6 then 1 else 2:=by decide +kernel
theorem tA(x:HT b h T)(k:Tok T)(p:Bt w T i t)(hi:i < 8):ab P (n+2) 327 [.ref b.tab,.int t] h=some (.int (fb w i:Int),h):=by
 have row:=p.2
 by_cases h4:i < 4
 ·obtain ⟨e1,e2,em,e6,e7,ew,ef⟩:=BH w i h4
  obtain ⟨_,_,e5,_⟩:=qp w i p.1
  refine ah (Cw P) rfl (aH (dY x row (v_ rfl) (v_ rfl)) (aH (ar (v_ rfl) k_ aq) (ai (ao (v_ rfl) k_) e1 (ai (ao (v_ rfl) k_) e2 (ai (av (aF (v_ rfl) k_ rfl)) em (ai (ao (v_ rfl) k_) e6 (ai (ao (v_ rfl) k_) e7 (aH (dD (v_ rfl) (pT e5)) (ai (eK (v_ rfl) k_) ew (aj (eQ (ao (v_ rfl) k_) ?_)))))))))))
  rw [ef]
  by_cases z:wh (bk w i)=6
  ·rw [if_pos z,beq_iff_eq.mpr z];rfl
  ·rw [if_neg z,beq_eq_false_iff_ne.mpr z];rfl
 ·have l4:=Nat.le_of_not_lt h4
  obtain ⟨e1,e2⟩:=B1 w i hi l4
  have e:t=i:=by have:=p.id k l4;rwa [if_neg (by omega)] at this
  refine ah (Cw P) rfl (aH (dY x row (v_ rfl) (v_ rfl)) (aH (ar (v_ rfl) k_ aq) (aL (ao (v_ rfl) k_) (beq_iff_eq.mpr e1) (bZ (dJ (v_ rfl) k_) ?_))))
  show some ((bh (.int t) _).getD _,h)=_
  rw [e,e2];rfl
theorem BG:∀ w,∀ i < 8,ec (.int (bk w i)) [(.int 2),(.int 3),(.int 4),(.int 5)]=decide (i < 4):=by decide +kernel
theorem wz(x:HT b h T)(p:Bt w T i t)(hi:i < 8):ab P (n+1) 287 [.ref b.tab,.int t] h=some (.bool (decide (i < 4)),h):=
 ah (J1 P) rfl (aj (aF (ar (dY x p.2 (v_ rfl) (v_ rfl)) k_ aq) k_ (congrArg some (BG w i hi))))
theorem mh(x:HT b h T)(k:Tok T)(p:Bt w T i t)(hi:i < 8):ab P (n+2) 294 [.ref b.tab,.int t] h=some (.bool (decide (i=4) || (decide (i=5) || decide (i < 4))),h):=
 p.eqk k hi (c:=4) (by decide) (by decide)▸p.eqk k hi (c:=5) (by decide) (by decide)▸ah (J0 P) rfl (aj (lh (wG (v_ rfl) k_) (lh (wG (v_ rfl) k_) (az (v_ rfl) (v_ rfl) (wz x p hi)))))
theorem lP{f:Int}:ab P (n+1) 334 [.int f] h=some (.bool (f==4 || (f==5 || f==6)),h):=
 ah (JY P) rfl (aj (lh (wG (v_ rfl) k_) (lh (wG (v_ rfl) k_) (wG (v_ rfl) k_))))
theorem yM{f g:Int}{x y:D}(hf:(f==6)=false)(hg:(g==6)=false):ab P (n+1) 391 [x,y,.int f,.int g] h=some (.int 0,h):=
 ah (JX P) rfl (ai (dF (ao (v_ rfl) k_) (ao (v_ rfl) k_)) (by rw [hg,Bool.and_false]) (ai (dF (ao (v_ rfl) k_) (ao (v_ rfl) k_)) (by rw [hf];rfl) (aj k_)))
theorem uy:∀ w,∀ i < 8,((fb w i:Int)==0)=false∧((fb w i:Int)==6)=false∧((fb w i:Int)==7)=false∧((fb w i:Int)==4 || ((fb w i:Int)==5 || (fb w i:Int)==6))=decide (i=4∨i=5):=by decide +kernel
theorem Jt:∀ w,∀ i < 8,∀ j < 8,i≠j→((decide (i=4∨i=5) || decide (j=4∨j=5)) || ((!((fb w i:Int)==(fb w j:Int))) || ((decide (i=4) || (decide (i=5) || decide (i < 4))) && (decide (j=4) || (decide (j=5) || decide (j < 4))))))=true→mc w i j=0:=by decide +kernel
theorem Js:∀ w,∀ i < 8,∀ j < 8,i≠j→((decide (i=4∨i=5) || decide (j=4∨j=5)) || ((!((fb w i:Int)==(fb w j:Int))) || ((decide (i=4) || (decide (i=5) || decide (i < 4))) && (decide (j=4) || (decide (j=5) || decide (j < 4))))))=false→(bif (decide (i=6) || decide (i=7)) then decide (mc w i j=2) else (decide (j=6) || decide (j=7)) && decide (mc w i j=1))=true:=by decide +kernel
theorem CD(x:HT b h T)(k:Tok T)(p:Bt w T i s)(q:Bt w T j t)(hi:i < 8)(hj:j < 8):ab P (n+4) 412 [.ref b.tab,.int s,.int t] h=some (.int (mc w i j:Int),h):=by
 have neg:∀ {s:Nat},((-1:Int)==(s:Int))=false:=rfl
 have tw1:=az (c:=ab P (n+3)) (l:=fun i=>[D.ref b.tab,.int s,.int t][i]?) (v_ (i:=0) rfl) (v_ (i:=2) rfl) (oG (P:=P) (n:=n+2) x (q.at k))
 have t1:=cw (ao (c:=ab P (n+3)) (l:=fun i=>[D.ref b.tab,.int s,.int t][i]?) (v_ (i:=1) rfl) (v_ (i:=2) rfl)) (ao tw1 (v_ (i:=1) rfl))
 rw [p.eqi k q] at t1
 by_cases e:i=j
 ·rw [show mc w i j=1 from if_pos e]
  exact ah (Im P) rfl (aL t1 (by rw [decide_eq_true e];rfl) k_)
 ·obtain ⟨z1,s1,v1,u1⟩:=uy w i hi
  obtain ⟨z2,s2,v2,u2⟩:=uy w j hj
  have pre:∀ {r:D},hU (sq (ay (dn (xt (xf 334 [(xv 3)])) (xt (xf 334 [(xv 4)]))) (sq (af (xf 391 [(xv 1),(xv 2),(xv 3),(xv 4)])) aa) aa) (sq (ay (dn (xt (ac .Eq (xv 3) (ki 7))) (xt (ac .Eq (xv 4) (ki 7)))) (sq (af aS) aa) aa) (sq (af (xf 398 [(xv 0),(xv 1),(xv 2),(xv 3),(xv 4)])) aa))) (ab P (n+3))
    (upd (upd (fun i=>[D.ref b.tab,.int s,.int t][i]?) 3 (.int (fb w i:Int))) 4 (.int (fb w j:Int))) h r h→ab P (n+4) 412 [.ref b.tab,.int s,.int t] h=some (r,h):=fun hr=>
   ah (Im P) rfl (ai t1 (by rw [decide_eq_false e];rfl) (ai (ao (az (v_ rfl) (v_ rfl) (oG (P:=P) (n:=n+2) x (p.at k))) (v_ rfl)) neg (aH (az (v_ rfl) (v_ rfl) (tA x k p hi)) (aH (az (v_ rfl) (v_ rfl) (tA x k q hj)) (ai (cw (ao (v_ rfl) k_) (ao (v_ rfl) k_)) (by rw [z1,z2];rfl) hr)))))
  have nu:xt (xf 334 [(xv 3)]) (ab P (n+3)) (upd (upd (fun i=>[D.ref b.tab,.int s,.int t][i]?) 3 (.int (fb w i:Int))) 4 (.int (fb w j:Int))) h=some (decide (i=4∨i=5),h):=u1▸av (dD (v_ rfl) lP)
  have nv:xt (xf 334 [(xv 4)]) (ab P (n+3)) (upd (upd (fun i=>[D.ref b.tab,.int s,.int t][i]?) 3 (.int (fb w i:Int))) 4 (.int (fb w j:Int))) h=some (decide (j=4∨j=5),h):=u2▸av (dD (v_ rfl) lP)
  have u5:∀ {l:L} {a k:X} {c:CF},c=ab P (n+2)→a c l h=some (.ref b.tab,h)→k c l h=some (.int s,h)→xt (xf 294 [a,k]) c l h=some (decide (i=4) || (decide (i=5) || decide (i < 4)),h):=fun e ha hk=>by subst e;exact av (az ha hk (mh x k p hi))
  have u6:∀ {l:L} {a k:X} {c:CF},c=ab P (n+2)→a c l h=some (.ref b.tab,h)→k c l h=some (.int t,h)→xt (xf 294 [a,k]) c l h=some (decide (j=4) || (decide (j=5) || decide (j < 4)),h):=fun e ha hk=>by subst e;exact av (az ha hk (mh x k q hj))
  have k6:∀ {l:L} {a:X} {c:CF},a c l h=some (.int s,h)→dn (xt (ac .Eq a (ki 6))) (xt (ac .Eq a (ki 7))) c l h=some (decide (i=6) || decide (i=7),h):=fun ha=>p.eqk k hi (c:=6) (by decide) (by decide)▸p.eqk k hi (c:=7) (by decide) (by decide)▸cw (ao ha k_) (ao ha k_)
  have k7:∀ {l:L} {a:X} {c:CF},a c l h=some (.int t,h)→dn (xt (ac .Eq a (ki 6))) (xt (ac .Eq a (ki 7))) c l h=some (decide (j=6) || decide (j=7),h):=fun ha=>q.eqk k hj (c:=6) (by decide) (by decide)▸q.eqk k hj (c:=7) (by decide) (by decide)▸cw (ao ha k_) (ao ha k_)
  have m0:=Jt w i hi j hj e
  have m1:=Js w i hi j hj e
  cases e1:decide (i=4∨i=5) || decide (j=4∨j=5) with
  | true=>
   rw [m0 (by rw [e1];rfl)]
   exact pre (aL (cw nu nv) e1 (rO (bV (v_ rfl) (dW (v_ rfl) (v_ rfl) (v_ rfl))) (yM s1 s2)))
  | false=>
   rw [e1] at m0 m1
   refine pre (ai (cw nu nv) e1 (ai (cw (ao (v_ rfl) k_) (ao (v_ rfl) k_)) (by rw [v1,v2];rfl) (aj (rO (bV (v_ rfl) (bV (v_ rfl) (dW (v_ rfl) (v_ rfl) (v_ rfl)))) ?_))))
   cases e2:(!((fb w i:Int)==(fb w j:Int))) with
   | true=>rw [m0 (by rw [e2];rfl)];exact ah (Cu P) rfl (aL (fV (v_ rfl) (v_ rfl)) e2 k_)
   | false=>
    rw [e2] at m0 m1
    have un:=dF (u5 rfl (l:=fun k=>[D.ref b.tab,.int s,.int t,.int (fb w i:Int),.int (fb w j:Int)][k]?) (v_ (i:=0) rfl) (v_ (i:=1) rfl)) (u6 rfl (v_ (i:=0) rfl) (v_ (i:=2) rfl))
    cases e3:(decide (i=4) || (decide (i=5) || decide (i < 4))) && (decide (j=4) || (decide (j=5) || decide (j < 4))) with
    | true=>rw [m0 (by rw [e3];rfl)];exact ah (Cu P) rfl (ai (fV (v_ rfl) (v_ rfl)) e2 (aL un e3 k_))
    | false=>
     have m1:=m1 (by rw [e3];rfl)
     cases e4:decide (i=6) || decide (i=7) with
     | true=>
      rw [e4] at m1
      rw [of_decide_eq_true m1]
      exact ah (Cu P) rfl (ai (fV (v_ rfl) (v_ rfl)) e2 (ai un e3 (aL (k6 (v_ rfl)) e4 k_)))
     | false=>
      rw [e4] at m1
      obtain ⟨e5,e6⟩:=aG m1
      rw [of_decide_eq_true e6]
      exact ah (Cu P) rfl (ai (fV (v_ rfl) (v_ rfl)) e2 (ai un e3 (ai (k6 (v_ rfl)) e4 (aL (k7 (v_ rfl)) e5 k_))))
end
section
variable {l:L}{T:List D}{a k:X}{u g:Nat}{v:Bool}{G:Prop}{X:List Nat}{p:Nat→Prop}
theorem Aq:1 < 100000:=by decide
theorem Gi:∀ w,∀ i < 8,(bk w i==9)=false∧(bk w i==7)=false∧(bk w i==8)=false:=by decide +kernel
theorem lU(x:HT b h T)(p:Bt w T i t)(hi:i < 8):ab P (n+1) 426 [.ref b.tab,.int t] h=some (.tup [.int t],h):=by
 obtain ⟨e9,e7,e8⟩:=Gi w i hi
 exact ah (JW P) rfl (aH (dY x p.2 (v_ rfl) (v_ rfl)) (ai (ao (ar (v_ rfl) k_ aq) k_) e9 (ai (ao (ar (v_ rfl) k_ aq) k_) e7 (ai (ao (ar (v_ rfl) k_ aq) k_) e8 (aj rfl)))))
theorem qw{z:Nat}(hp:(h:List MO).length≠0)(q3:a c l (h++[.lst []]:List MO)=some (.ref (h:List MO).length,(h++[.lst []]:List MO)))(q5:k c l (h++[.lst []]:List MO)=some (.int z,(h++[.lst []]:List MO))):dB .append a [k] c l (h++[.lst []]:List MO)=some (.none,(h++[.lst [.int z]]:List MO)):=
 (dz hp q3 ak (aQ q5) ak (by decide)).trans (by rw [fX];rfl)
theorem EH(x:HT b h T)(k:Tok T)(p:Bt w T i s)(q:Bt w T j t)(hi:i < 8)(hj:j < 8)(hm:(h:List MO)[m]?=some (.lst [.int s])):
  (mc w i j=0→ab P (n+5) 419 [.ref b.tab,.ref m,.int t] h=some (.none,(h++[.lst []]:List MO)))∧∀ r,mc w i j=1∧r=s∨mc w i j=2∧r=t→ab P (n+5) 419 [.ref b.tab,.ref m,.int t] h=some (.ref (h:List MO).length,(h++[.lst [.int r]]:List MO)):=by
 have st:∀ {os:List MO},still (.ref m) (iN [s]) (knd (.ref m) (h++[.lst []]:List MO)) (h++os:List MO)=true:=bE (aK (au hm)) (by rw [di (au hm),di (au hm)])
 have cs:=CD (P:=P) (n:=n) (x.app (os:=[.lst []])) k p q hi hj
 refine ⟨fun e=>?_,fun r e=>?_⟩
 ·rw [e] at cs
  exact ah (E5 P) rfl (ax (x:=ae 3 (br [])) (aA rfl) (ax (x:=ae 4 (xk (.bool false))) (aA k_) (uk ⟨_,aO (ds:=[.int s]) (v_ rfl) (aK (au hm)) Aq (eH st (bg (aA (ck (v_ rfl) (v_ rfl) (v_ rfl) cs)) (ja (ao (v_ rfl) k_) rfl k_)))⟩)))
 ·rcases e with ⟨e,rfl⟩|⟨e,rfl⟩<;>rw [e] at cs
  ·exact ah (E5 P) rfl (ax (x:=ae 3 (br [])) (aA rfl) (ax (x:=ae 4 (xk (.bool false))) (aA k_) (ax (aO (ds:=[.int r]) (v_ rfl) (aK (au hm)) Aq (aC st (bg (aA (ck (v_ rfl) (v_ rfl) (v_ rfl) cs)) (bI (ao (v_ rfl) k_) rfl (j2 (ao (v_ rfl) k_) rfl (bg (aA k_) rfl) (j2 (fV (v_ rfl) k_) rfl (bg (dS (qw x.pos (v_ rfl) (v_ rfl))) rfl) rfl)))) (aR st))) (ai (ko (av (v_ rfl))) rfl (aj (v_ rfl))))))
  ·exact ah (E5 P) rfl (ax (x:=ae 3 (br [])) (aA rfl) (ax (x:=ae 4 (xk (.bool false))) (aA k_) (ax (aO (ds:=[.int s]) (v_ rfl) (aK (au hm)) Aq (aC st (bg (aA (ck (v_ rfl) (v_ rfl) (v_ rfl) cs)) (bI (ao (v_ rfl) k_) rfl (bI (ao (v_ rfl) k_) rfl (bI (fV (v_ rfl) k_) rfl rfl)))) (aR st))) (eX (ko (av (v_ rfl))) rfl (bg (dS (qw x.pos (v_ rfl) (v_ rfl))) rfl) (aj (v_ rfl))))))
def Mt(w:Bool)(T:List D)(i j r:Nat):Prop:=mb w i j=none∧r=2∨∃ u,mb w i j=some u∧Bt w T u r∧u < 8
theorem Ge:∀ w,∀ i < 8,∀ j < 8,mc w i j < 3:=by decide +kernel
theorem nj(x:HT b h T)(k:Tok T)(p:Bt w T i s)(q:Bt w T j t)(hi:i < 8)(hj:j < 8)(Q:∀ (os:List MO) (r:Nat),ab P (n+6) 431 [.ref b.tab,.int s,.int t] h=some (.int r,(h++os:List MO))→Mt w T i j r→G):G:=by
 have m2:=lU (P:=P) (n:=n+4) (x.app (os:=[.lst [.int s]])) q hj
 have cmp:=fu (i:=5) (it:=xf 426 [(xv 0),(xv 1)]) (e:=xv 5) (c:=ab P (n+5)) (l:=fun i=>[D.ref b.tab,.int s,.int t][i]?) (ys:=[s]) (f:=fun (y:Nat)=>D.int y) (g:=fun (y:Nat)=>D.int y) (az (v_ rfl) (v_ rfl) (lU (P:=P) (n:=n+4) x p hi)) rfl Aq fun y uu=>v_ rfl
 obtain ⟨l0,l1⟩:=EH (P:=P) (n:=n) (x.app (os:=[.lst [.int s]])) k p q hi hj ak
 by_cases e:mc w i j=0
 ·exact Q ([.lst [.int s]]++[.lst []]) 2 ((ah (Il P) rfl (aH cmp (uk ⟨_,aO (ds:=[.int t]) (az (v_ rfl) (v_ rfl) m2) rfl Aq (eH an (bg (aA (ck (v_ rfl) (v_ rfl) (v_ rfl) (l0 e))) (ja (av (aF (v_ rfl) k_ rfl)) rfl k_)))⟩))).trans (by rw [List.append_assoc];rfl)) (.inl ⟨if_pos e,rfl⟩)
 ·have fin:∀ r,mc w i j=1∧r=s∨mc w i j=2∧r=t→ab P (n+6) 431 [.ref b.tab,.int s,.int t] h=some (.int r,(h++([.lst [.int s]]++[.lst [.int r]]):List MO)):=fun r z=>
   (ah (Il P) rfl (aH cmp (ax (aO (ds:=[.int t]) (az (v_ rfl) (v_ rfl) m2) rfl Aq (aC an (bg (aA (ck (v_ rfl) (v_ rfl) (v_ rfl) (l1 r z))) (bI (av (aF (v_ rfl) k_ rfl)) rfl rfl)) (aR an))) (aL (ao (bZ (aQ (v_ rfl)) (dU ak)) k_) rfl (ar (v_ rfl) k_ (aX (t:=0) ak rfl)))))).trans (by rw [List.append_assoc])
  by_cases e1:mc w i j=1
  ·exact Q _ s (fin s (.inl ⟨e1,rfl⟩)) (.inr ⟨i,(if_neg e).trans (if_pos e1),p,hi⟩)
  ·have e2:mc w i j=2:=by have:=Ge w i hi j hj;omega
   exact Q _ t (fin t (.inr ⟨e2,rfl⟩)) (.inr ⟨j,(if_neg e).trans (if_neg e1),q,hj⟩)
theorem yW{K:List Nat}(hg:(hh:List MO)[g]?=some (.dct (dG K))):bi .len [.ref g] hh=some (.int K.length,hh):=by
 show (match (hh:List MO)[g]? with|some (.lst l)=>some (D.int l.length,hh)|some (.dct l)=>if fE l then some (D.int l.length,hh) else none|_=>none)=_
 rw [hg]
 exact (if_pos ((Bool.or_eq_true _ _).mpr (.inl (aG (oY 0 K)).2))).trans (by rw [tH])
structure Ca(w:Bool)(T:List D)(p:Nat→Prop)(K:List Nat):Prop where
 nd:K.Nodup
 of:∀ a∈K,∃ i,p i∧Bt w T i a∧i < 8
 to:∀ i,p i→∃ a∈K,Bt w T i a
theorem Ca.len(k:Tok T)(x:Ca w T p K):K.length≤9:=mJ (S:=511) k x.nd fun a ha=>(x.of a ha).imp fun i q=>⟨(by decide:∀ i < 8,Nat.testBit 511 i=true) i q.2.2,q.2.1⟩
theorem Ca.ins(k:Tok T)(x:Ca w T p K)(q:Bt w T u s)(hu:u < 8):Ca w T (fun i=>p i∨some u=some i) (Internal.ins K s):=⟨io x.nd,fun a ha=>(fw.mp ha).elim (fun ha=>(x.of a ha).imp fun uu z=>⟨.inl z.1,z.2⟩) fun e=>⟨u,.inr rfl,e▸q,hu⟩,fun i z=>z.elim (fun z=>(x.to i z).imp fun a y=>⟨fw.mpr (.inl y.1),y.2⟩) fun e=>⟨s,fw.mpr (.inr rfl),Option.some.inj e▸q⟩⟩
theorem Ca.iff{p':Nat→Prop}(x:Ca w T p K)(e:∀ i,p i↔p' i):Ca w T p' K:=⟨x.nd,fun a ha=>(x.of a ha).imp fun i z=>⟨(e i).mp z.1,z.2⟩,fun i z=>x.to i ((e i).mpr z)⟩
structure Lf(b:Tb)(T:List D)(w:Bool)(h:H)(g:Nat)(p:Nat→Prop)(hh:H):Prop where
 x:HT b hh T
 kp:dE b h hh
 g:∃ K,Ca w T p K∧(hh:List MO)[g]?=some (.dct (dG K))
noncomputable abbrev Jy:XS:=sq (ae 9 (xf 431 [(xv 0),(xv 7),(xv 8)])) (sq (ay (xt (ac .NotEq (xv 9) (ki 2))) (sq (bB (ki 1) (xv 3) (xv 9)) aa) aa) (sq (ay (bM (xt (xv 6)) (xt (ac .Gt (dC .len [(xv 3)]) (ki 200)))) (sq eM aa) aa) aa))
theorem rn{l:L}{cr:Bool}(x:Ca w T p K)(k:Tok T)(hg:(hh:List MO)[g]?=some (.dct (dG K)))(q3:l 3=some (.ref g))(q6:l 6=some (.bool cr)):sq (ay (bM (xt (xv 6)) (xt (ac .Gt (dC .len [(xv 3)]) (ki 200)))) (sq eM aa) aa) aa c l hh=some (.next,l,hh):=
 bI (dF (av (v_ q6)) (av (aF (bZ (aQ (v_ q3)) (yW hg)) k_ rfl))) (by have:=x.len k;show (cr && decide ((200:Int) < (K.length:Int)))=false;rw [decide_eq_false (by omega),Bool.and_false]) rfl
theorem EQ{m0:L}{cr:Bool}(k:Tok T)(hl:(h:List MO).length≤g)(ne:g≠b.tab∧g≠b.r∧g≠b.i)(g0:g≠0)(m0':m0 0=some (.ref b.tab))(m3:m0 3=some (.ref g))(m6:m0 6=some (.bool cr))(m7:m0 7=some (.int s))(m8:m0 8=none)(m9:m0 9=none)(ps:Bt w T i s)(pt:Bt w T j t)(hi:i < 8)(hj:j < 8)(q:Le m0 l)(f:Lf b T w h g p hh)
  (Q:∀ l' h',Jy (ab P (n+6)) (upd l 8 (.int t)) hh=some (.next,l',h')→Lf b T w h g (fun u=>p u∨mb w i j=some u) h'→Le m0 l'→G):G:=by
 obtain ⟨x,kp,K,ca,hg⟩:=f
 have q8:=q.upd (i:=8) (z:=.int t) m8
 refine nj (P:=P) (n:=n) x k ps pt hi hj fun os r e mt=>?_
 have q9:=q8.upd (i:=9) (z:=.int r) m9
 have s1:=aA (i:=9) (ck (w_ q8 m0') (w_ q8 m7) (v_ (i:=8) rfl) e)
 have hg':=au (os:=os) hg
 rcases mt with ⟨e1,rfl⟩|⟨u,e1,bt,hu⟩
 ·exact Q _ _ (bg s1 (bI (fV (v_ rfl) k_) rfl (rn ca k hg' (q9 _ _ m3) (q9 _ _ m6)))) ⟨x.app,kp.trans .app,K,ca.iff fun i=>⟨.inl,fun z=>z.elim id fun z=>nomatch e1.symm.trans z⟩,hg'⟩ q9
 ·have ci:=ca.ins k bt hu
  exact Q _ _ (bg s1 (j2 (fV (v_ rfl) k_) (by rw [show ((r:Int)==2)=false from pD (k:=2) (bt.ne k (.inl (by decide)))];rfl) (bg (eW k_ (w_ q9 m3) (v_ rfl) (oQ g0 (cn (ca.len k) (by decide)) hg')) rfl) (rn ci k (co hg') (q9 _ _ m3) (q9 _ _ m6)))) ⟨x.app.set ne,(kp.trans .app).set hl,_,ci.iff fun i=>by rw [e1],co hg'⟩ q9
end
noncomputable def be(w:Bool)(S:Nat):Nat:=(S ||| (if S.testBit 6 then (bif w then 15 else 3) else 0)) ||| (if S.testBit 7 then (bif w then 0 else 12) else 0)
noncomputable def eO(w:Bool)(S R:Nat):Nat:=if S=0∨R=0 then 0 else if (S ||| R).testBit 8 then 256 else lsum w (be w S &&& be w R)
theorem cb:∀ w S,S < 512→be w S < 512∧∀ i,i < 9→(be w S).testBit i=(S.testBit i || S.testBit (wb w i)):=by
 intro w;cases w<;>decide +kernel
theorem uz:∀ w k,k < 8→∀ u,u < 8→∀ v,v < 8→decide (mb w u v=some k)=(decide (u=k∧v=k) || (decide (u=k∧v=wb w k) || decide (u=wb w k∧v=k))):=by
 intro w;cases w<;>decide +kernel
theorem Gf:∀ w u,u < 8→∀ v,v < 8→(mb w u v).getD 0 < 8:=by decide +kernel
theorem IP:∀ a b c d:Bool,((a && b || (a && d || c && b)) && (false || !(c && d || (c && d || c && d))))=(((a || c) && (b || d)) && (false || !((c || c) && (d || d)))):=by decide
theorem IO:∀ a b:Bool,((a && b || (a && b || a && b)) && (true || !(a && b || (a && b || a && b))))=(((a || a) && (b || b)) && (true || !((a || a) && (b || b)))):=by decide
section
variable {R:Nat}
theorem Nm.b7(n:Nm w S)(q:S.testBit i=true):i < 8:=Nat.lt_of_not_le fun e=>nomatch q.symm.trans (Nat.testBit_lt_two_pow (Nat.lt_of_lt_of_le n.lt (Nat.pow_le_pow_right (n:=2) (by decide) e)))
theorem pN(nS:Nm w S)(nR:Nm w R):be w S &&& be w R < 512∧(be w S &&& be w R).testBit 8=false:=by
 obtain ⟨a,b⟩:=cb w S nS.l9
 refine ⟨cn Nat.and_le_left a,?_⟩
 rw [Nat.testBit_and,b 8 (by decide),show wb w 8=8 by cases w<;>rfl,nS.b8];rfl
theorem uE:be w 0=0:=by cases w<;>rfl
theorem gR(nS:Nm w S)(nR:Nm w R):eO w S R=lsum w (be w S &&& be w R):=by
 unfold eO
 by_cases e:S=0∨R=0
 ·rw [if_pos e]
  have z:be w S &&& be w R=0:=e.elim (fun e=>by rw [e,uE,Nat.zero_and]) fun e=>by rw [e,uE,Nat.and_zero]
  rw [z];cases w<;>rfl
 ·rw [if_neg e,if_neg (by rw [Nat.testBit_or,nS.b8,nR.b8];decide)]
theorem k9(a:S < 512)(b:R < 512)(h:∀ i,i < 9→S.testBit i=R.testBit i):S=R:=Nat.eq_of_testBit_eq fun i=>(Nat.lt_or_ge i 9).elim (h i) fun q=>(tu a q).trans (tu b q).symm
theorem ux(nS:Nm w S)(nR:Nm w R)(hb:∀ k,M.testBit k=true↔∃ u v,S.testBit u=true∧R.testBit v=true∧mb w u v=some k)(hi:i < 9):M.testBit i=(S.testBit i && R.testBit i || (S.testBit i && R.testBit (wb w i) || S.testBit (wb w i) && R.testBit i)):=by
 rw [Bool.eq_iff_iff,hb]
 simp only [Bool.or_eq_true,Bool.and_eq_true]
 refine ⟨fun ⟨u,v,a,b,e⟩=>?_,fun z=>?_⟩
 ·have u8:=nS.b7 a
  have v8:=nR.b7 b
  have i8:=Gf w u u8 v v8
  rw [e] at i8
  have z:=(uz w i i8 u u8 v v8).symm.trans (decide_eq_true e)
  simp only [Bool.or_eq_true,decide_eq_true_eq] at z
  exact Or.imp (fun (z:u=i∧v=i)=>⟨z.1▸a,z.2▸b⟩) (Or.imp (fun (z:u=i∧v=wb w i)=>⟨z.1▸a,z.2▸b⟩) fun (z:u=wb w i∧v=i)=>⟨z.1▸a,z.2▸b⟩) z
 ·have f:∀ u v,S.testBit u=true→R.testBit v=true→i < 8→(u=i∧v=i)∨(u=i∧v=wb w i)∨(u=wb w i∧v=i)→∃ u v,S.testBit u=true∧R.testBit v=true∧mb w u v=some i:=fun u v a b h8 e=>by
   refine ⟨u,v,a,b,of_decide_eq_true ((uz w i h8 u (nS.b7 a) v (nR.b7 b)).trans ?_)⟩
   simp only [Bool.or_eq_true,decide_eq_true_eq];exact e
  exact z.elim (fun z=>f _ _ z.1 z.2 (nS.b7 z.1) (.inl ⟨rfl,rfl⟩)) fun z=>z.elim (fun z=>f _ _ z.1 z.2 (nS.b7 z.1) (.inr (.inl ⟨rfl,rfl⟩))) fun z=>f _ _ z.1 z.2 (nR.b7 z.2) (.inr (.inr ⟨rfl,rfl⟩))
theorem wt(nS:Nm w S)(nR:Nm w R)(hM:M < 256)(hb:∀ k,M.testBit k=true↔∃ u v,S.testBit u=true∧R.testBit v=true∧mb w u v=some k):lsum w M=eO w S R:=by
 obtain ⟨n1,n2⟩:=pN nS nR
 have nM:M.testBit 8=false:=Nat.testBit_lt_two_pow (i:=8) hM
 obtain ⟨a1,a2⟩:=cP w M (Nat.lt_trans hM (by decide)) nM
 obtain ⟨b1,b2⟩:=cP w _ n1 n2
 obtain ⟨_,s⟩:=cb w S nS.l9
 obtain ⟨_,r⟩:=cb w R nR.l9
 rw [gR nS nR]
 refine k9 (Nat.lt_trans a1 (by decide)) (Nat.lt_trans b1 (by decide)) fun i hi=>?_
 obtain ⟨w1,w2⟩:=tZ w i hi
 rw [a2 i hi,b2 i hi,Nat.testBit_and,Nat.testBit_and,s i hi,r i hi,s _ w1,r _ w1,w2,ux nS nR hb hi,ux nS nR hb w1,w2]
 by_cases e:wb w i=i
 ·rw [e,decide_eq_true rfl];exact IO _ _
 ·rw [decide_eq_false e];exact IP _ _ _ _
end
theorem Le.weak{m l:L}{i:Nat}{z:D}(q:Le (Internal.upd m i z) l)(n:m i=none):Le m l:=fun j d e=>q j d ((if_neg fun z:j=i=>nomatch (z▸e).symm.trans n).trans e)
theorem F2.choose{α β:Type}{R:α→β→Prop}{l:List α}(h:∀ a∈l,∃ b,R a b):∃ m,F2 R l m:=by
 induction l with
 | nil=>exact ⟨[],trivial⟩
 | cons a l ih=>exact (h a aw).elim fun b hb=>(ih fun a q=>h a (aE _ q)).imp' (b::·) fun m hm=>⟨hb,hm⟩
theorem F2.memR{α β:Type}{R:α→β→Prop}{l:List α}{m:List β}(h:F2 R l m){b:β}(q:b∈m):∃ a∈l,R a b:=by
 induction l generalizing m with
 | nil=>cases m with
  | nil=>exact nomatch q
  | cons=>exact h.elim
 | cons a l ih=>cases m with
  | nil=>exact h.elim
  | cons c m=>exact (bo q).elim (fun e=>⟨a,aw,e▸h.1⟩) fun q=>(ih h.2 q).imp fun uu z=>⟨aE _ z.1,z.2⟩
section
variable {l:L}{T:List D}{u g:Nat}{v:Bool}{G:Prop}{X:List Nat}{p:Nat→Prop}{m0:L}{cr:Bool}
abbrev Pm(w:Bool)(T:List D)(i:Nat)(Y:List Nat)(u:Nat):Prop:=∃ t∈Y,∃ j,Bt w T j t∧mb w i j=some u
theorem Lf.iff{p':Nat→Prop}(x:Lf b T w h g p hh)(e:∀ i,p i↔p' i):Lf b T w h g p' hh:=⟨x.x,x.kp,x.g.imp fun uu z=>⟨z.1.iff e,z.2⟩⟩
theorem C3{α:Type}{a:α}{l:List α}{p:Prop}{q:α→Prop}:(p∨q a)∨(∃ x∈l,q x)↔p∨∃ x∈a::l,q x:=by
 rw [or_assoc]
 exact or_congr Iff.rfl ⟨fun z=>z.elim (fun z=>⟨a,aw,z⟩) fun z=>z.imp fun x z=>⟨aE _ z.1,z.2⟩,fun ⟨x,z,y⟩=>(bo z).elim (fun e=>.inl (e▸y)) fun z=>.inr ⟨x,z,y⟩⟩
theorem zl(k:Tok T)(hc:∀ hh,chk hh=true)(hl:(h:List MO).length≤g)(ne:g≠b.tab∧g≠b.r∧g≠b.i)(g0:g≠0)(e0:m0 0=some (.ref b.tab))(e3:m0 3=some (.ref g))(e6:m0 6=some (.bool cr))(e7:m0 7=some (.int s))(e8:m0 8=none)(e9:m0 9=none)(ps:Bt w T i s)(hi:i < 8)(hY:∀ t∈Y,∃ j,Bt w T j t∧j < 8)(q:Le m0 l)(f:Lf b T w h g p hh)
  (Q:∀ l' h',bC chk 8 Jy (ab P (n+6)) (iN Y) l hh=some (.next,l',h')→Lf b T w h g (fun u=>p u∨Pm w T i Y u) h'→Le m0 l'→G):G:=by
 induction Y generalizing l hh p with
 | nil=>exact Q l hh (aR (hc _)) (f.iff fun i=>⟨.inl,fun z=>z.elim id fun ⟨uu,z,uu1⟩=>nomatch z⟩) q
 | cons t Y ih=>
  obtain ⟨j,pt,hj⟩:=hY t aw
  refine EQ (P:=P) (n:=n) k hl ne g0 e0 e3 e6 e7 e8 e9 ps pt hi hj q f fun l1 h1 s1 f1 q1=>?_
  refine ih (fun t z=>hY t (aE _ z)) q1 f1 fun l2 h2 s2 f2 q2=>Q l2 h2 (aC (hc _) s1 s2) (f2.iff fun u=>Iff.trans (or_congr (or_congr Iff.rfl ⟨fun z=>⟨j,pt,z⟩,fun ⟨j',z,e⟩=>pt.inj z▸e⟩) Iff.rfl) C3) q2
theorem yq(k:Tok T)(hc:∀ hh,chk hh=true)(hl:(h:List MO).length≤g)(ne:g≠b.tab∧g≠b.r∧g≠b.i)(g0:g≠0)(e0:m0 0=some (.ref b.tab))(e3:m0 3=some (.ref g))(e5:m0 5=some (.tup (iN Y)))(e6:m0 6=some (.bool cr))(e7:m0 7=none)(e8:m0 8=none)(e9:m0 9=none)(hX:∀ t∈X,∃ j,Bt w T j t∧j < 8)(hY:∀ t∈Y,∃ j,Bt w T j t∧j < 8)(lY:Y.length < 100000)(q:Le m0 l)(f:Lf b T w h g p hh)
  (Q:∀ l' h',bC chk 7 (sq (bO 8 (xv 5) Jy) aa) (ab P (n+6)) (iN X) l hh=some (.next,l',h')→Lf b T w h g (fun u=>p u∨∃ s∈X,∃ i,Bt w T i s∧Pm w T i Y u) h'→Le m0 l'→G):G:=by
 induction X generalizing l hh p with
 | nil=>exact Q l hh (aR (hc _)) (f.iff fun i=>⟨.inl,fun z=>z.elim id fun ⟨uu,z,uu1⟩=>nomatch z⟩) q
 | cons s X ih=>
  obtain ⟨i,ps,hi⟩:=hX s aw
  refine zl (P:=P) (n:=n) (chk:=still (.tup (iN Y)) (iN Y) 0) (m0:=upd m0 7 (.int s)) (l:=upd l 7 (.int s)) k (fun uu=>an) hl ne g0 e0 e3 e6 rfl e8 e9 ps hi hY q.set f fun l1 h1 s1 f1 q1=>?_
  refine ih (fun t z=>hX t (aE _ z)) (q1.weak e7) f1 fun l2 h2 s2 f2 q2=>Q l2 h2 (aC (hc _) (bg (aO (w_ q.set e5) rfl (by rw [List.length_map];exact lY) s1) rfl) s2) (f2.iff fun u=>Iff.trans (or_congr (or_congr Iff.rfl ⟨fun z=>⟨i,ps,z⟩,fun ⟨j',z,e⟩=>ps.inj z▸e⟩) Iff.rfl) C3) q2
theorem nK{is:List Nat}{ds:List D}{h1:H}{l2:L}{a:Internal.X}(ha:a c l h=some (.tup ds,h1))(hb:bindL l is ds=some l2):iL is a c l h=some (.next,l2,h1):=dy ha (by show Option.map _ _=_;rw [hb];rfl)
end
section
variable {l:L}{T:List D}{u g R:Nat}{v:Bool}{G:Prop}{p:Nat→Prop}
theorem Un.inj(k:Tok T){X Y:List Nat}(uS:Un T t X)(uR:Un T t Y)(mS:Ms w T S X)(mR:Ms w T R Y):X=Y:=by
 have one:∀ {S:Nat} {Z:List Nat},Ms w T S [t]→T[t]?=some (.tup [.int 6,.tup (iN Z)])→False:=fun m e=>by
  obtain ⟨i,_,bt⟩:=m.of t aw
  obtain ⟨r,e1,_,e2,_⟩:=bt.at k
  rw [e] at e1
  injection e1 with q
  injection q with q
  injection q with q _
  injection q with q
  exact e2 q.symm
 have two:∀ {S:Nat},Ms w T S [2]→False:=fun m=>by
  obtain ⟨i,_,bt⟩:=m.of 2 aw
  exact bt.ne k (.inl (by decide)) rfl
 have row2:∀ {Z:List Nat},T[2]?=some (.tup [.int 6,.tup (iN Z)])→False:=fun e=>by rw [k.at (j:=2) rfl] at e;cases e
 rcases uS with ⟨rfl,e⟩|rfl|⟨hX,e⟩<;>rcases uR with ⟨rfl,e'⟩|rfl|⟨hY,e'⟩
 ·rfl
 ·cases e;exact (two mR).elim
 ·cases e;exact (row2 e').elim
 ·cases e';exact (two mS).elim
 ·rfl
 ·exact (one mS e').elim
 ·cases e';exact (row2 e).elim
 ·exact (one mR e).elim
 ·rw [e] at e'
  have:=Option.some.inj e'
  injection this with q
  injection q with _ q
  injection q with q _
  injection q with q
  exact List.map_inj_right (fun a b q=>by injection q with q;exact Int.ofNat.inj q) |>.mp q
theorem Ty.inj(k:Tok T)(y:Ty w T S t)(z:Ty w T R t):S=R:=by
 obtain ⟨X,nS,uS,mS⟩:=y
 obtain ⟨Y,nR,uR,mR⟩:=z
 cases uS.inj k uR mS mR
 have key:∀ {S R:Nat},Ms w T S X→Ms w T R X→∀ i,S.testBit i=true→R.testBit i=true:=fun mS mR i q=>by
  obtain ⟨a,ha,ba⟩:=mS.to i q
  obtain ⟨j,q2,bb⟩:=mR.of a ha
  exact ba.inj bb▸q2
 exact Nat.eq_of_testBit_eq fun i=>Bool.eq_iff_iff.mpr ⟨key mS mR i,key mR mS i⟩
theorem jx(n:Nm w S):lsum w S=S:=by
 obtain ⟨h1,h2⟩:=cP w S n.l9 n.b8
 refine k9 (Nat.lt_trans h1 (by decide)) n.l9 fun i hi=>(h2 i hi).trans ?_
 cases b:S.testBit i with
 | false=>rfl
 | true=>
  rcases n.n i b with e|e<;>rw [e]
  ·rw [decide_eq_true rfl];rfl
  ·cases decide (wb w i=i)<;>rfl
theorem IQ:∀ a c:Bool,((a || c) && (false || !(c || c)))=(a && (false || !c)):=by decide
theorem iX(n:Nm w S):lsum w (be w S)=lsum w S:=by
 obtain ⟨a,s⟩:=cb w S n.l9
 obtain ⟨h1,h2⟩:=cP w S n.l9 n.b8
 obtain ⟨k1,k2⟩:=cP w (be w S) a (by rw [s 8 (by decide),show wb w 8=8 by cases w<;>rfl,n.b8];rfl)
 refine k9 (Nat.lt_trans k1 (by decide)) (Nat.lt_trans h1 (by decide)) fun i hi=>?_
 obtain ⟨w1,w2⟩:=tZ w i hi
 rw [k2 i hi,h2 i hi,s i hi,s _ w1,w2]
 by_cases e:wb w i=i
 ·rw [e,Bool.or_self]
 ·rw [decide_eq_false e];exact IQ _ _
theorem ws(n:Nm w S):eO w S S=S:=by rw [gR n n,Nat.and_self,iX n,jx n]
theorem Ty.nm(y:Ty w T S t)(h:S≠256):Nm w S:=by obtain ⟨_,n,_⟩:=y;exact n.resolve_left h
theorem Ty.ne(k:Tok T)(y:Ty w T S t)(hj:j=1∨j=13∨j=0∧S≠256):t≠j:=fun e=>by
 subst e
 obtain ⟨Y,nm,u,m⟩:=y
 have no:∀ {r:D},T[t]?=some r→r≠.tup [.int 6,.tup (iN Y)]→Un T t Y→False:=fun e nr u=>by
  rcases u with ⟨_,rfl⟩|rfl|⟨_,e'⟩
  ·rcases hj with e|e|e<;>omega
  ·obtain ⟨i,q,bt⟩:=m.of t aw
   rcases hj with rfl|rfl|⟨rfl,ne⟩
   ·exact bt.ne k (.inl (by decide)) rfl
   ·exact bt.ne k (.inl (by decide)) rfl
   ·exact bt.ne k (.inr ⟨by decide,(nm.resolve_left ne).b7 q⟩) rfl
  ·rw [e] at e';exact nr (Option.some.inj e')
 rcases hj with rfl|rfl|⟨rfl,_⟩
 ·exact no (k.at (j:=1) rfl) (by intro e;injection e with e;injection e with e;injection e with e;cases e) u
 ·exact no (k.at (j:=13) rfl) (by intro e;injection e with e;injection e with e;injection e with e;cases e) u
 ·exact no (k.at (j:=0) rfl) (by intro e;injection e with e;injection e with e;injection e with e;cases e) u
theorem cF.gr{ts:List Nat}(i:cF d h (iN ts))(x:In b n h)(g:Gr b h hh):cF d hh (iN ts):=by
 rcases i with rfl|⟨m,rfl,hm⟩
 ·exact .inl rfl
 ·refine .inr ⟨m,rfl,g.k.2 _ _ hm ?_ ?_⟩
  ·rintro rfl
   have e:=x.ht.r.symm.trans hm
   have z:=x.tok.at (j:=0) rfl
   injection e with e
   injection e with e
   rw [e] at z
   cases ts<;>cases z
  ·rintro rfl
   obtain ⟨I,i1,_⟩:=x.ht.i
   cases i1.symm.trans hm
theorem qL(x:In b (n+1) h)(yS:Ty w (b.T h) S s)(yR:Ty w (b.T h) R t)(hS:S≠256)(hR:R≠256)
  (Q:∀ h' (r:Nat),ab P (m+7) 438 [.ref b.tab,.int s,.int t] h=some (.int r,h')→In b n h'→Gr b h h'→Ty w (b.T h') (eO w S R) r→G):G:=by
 have k:=x.tok
 have nS:=yS.nm hS
 have nR:=yR.nm hR
 have t1:=cw (c:=ab P (m+6)) (h:=h) (l:=fun i=>[D.ref b.tab,.int s,.int t][i]?) (ao (v_ (i:=1) rfl) (v_ (i:=2) rfl)) (ao (v_ (i:=2) rfl) (k_ (d:=.int 1)))
 by_cases hst:s=t
 ·subst hst
  cases yS.inj k yR
  exact Q h s (ah (E4 P) rfl (aL t1 (by rw [beq_self_eq_true];rfl) (v_ rfl))) (x.le (Nat.le_succ n)) .refl ((ws nS).symm▸yS)
 ·have s1:((s:Int)==1)=false:=pD (k:=1) (yS.ne k (.inl rfl))
  have t1':((t:Int)==1)=false:=pD (k:=1) (yR.ne k (.inl rfl))
  obtain ⟨X,_,uS,mS⟩:=yS
  obtain ⟨Y,_,uR,mR⟩:=yR
  have bt:∀ {S:Nat} {X:List Nat},Nm w S→Ms w (b.T h) S X→∀ t∈X,∃ j,Bt w (b.T h) j t∧j < 8:=fun n m t ht=>(m.of t ht).imp fun j z=>⟨z.2,n.b7 z.1⟩
  let l0:L:=upd (upd (upd (upd (fun i=>[D.ref b.tab,.int s,.int t][i]?) 3 (.ref (h:List MO).length)) 4 (.tup (iN X))) 5 (.tup (iN Y))) 6 (.bool (decide ((1:Int) < ((iN X).length:Int)) && decide ((1:Int) < ((iN Y).length:Int))))
  refine yq (P:=P) (n:=m) (h:=h) (hh:=(h++[.dct []]:List MO)) (T:=b.T h) (w:=w) (p:=fun uu=>False) (X:=X) (Y:=Y) (m0:=l0) (chk:=still (.tup (iN X)) (iN X) 0) (g:=(h:List MO).length) k (fun uu=>an) (Nat.le_refl _) (EB x.ht.lts) x.ht.pos rfl rfl rfl rfl rfl rfl rfl (bt nS mS) (bt nR mR) (cn (mR.len k) (by decide)) .refl ⟨x.ht.app,.app,[],⟨List.nodup_nil,fun uu q=>(nomatch q),fun uu q=>q.elim⟩,ak⟩ fun l' h' lp f q=>?_
  obtain ⟨x',kp,K,ca,hg⟩:=f
  obtain ⟨B,fB⟩:=F2.choose (R:=fun a k=>Bt w (b.T h) k a∧k < 8) (l:=cZ K) fun a ha=>(ca.of a (cD.mp ha)).imp fun uu z=>z.2
  have kl:=ca.len k
  have eT:b.T h'=b.T h:=x'.eq
  refine eR (P:=P) (m:=m+2) (d:=.ref (h':List MO).length) (w:=w) (ts:=cZ K) (Ss:=B.map fun k=>2 ^ k) (In.of x'.app k x.room) (.inr ⟨_,rfl,ak⟩) (F2.mapR fB fun a k z=>by rw [x'.app.eq];exact iI z.1) (by rw [fQ];exact kl) fun h2 r e x2 g y=>Q h2 r (ah (E4 P) rfl (ai t1 (by rw [show ((s:Int)==(t:Int))=false from pD hst,t1'];rfl) (ai (ao (v_ rfl) k_) s1 (ax (x:=ae 3 cu) (aA rfl) (ax (nK (bZ (dJ (az (v_ rfl) (v_ rfl) (dZ x.ht.app (mS.pt k uS))) (az (v_ rfl) (v_ rfl) (dZ x.ht.app (mR.pt k uR)))) rfl) rfl) (aH (lj (aF (bZ (aQ (v_ rfl)) rfl) k_ rfl) (aF (bZ (aQ (v_ rfl)) rfl) k_ rfl)) (ax (aO (v_ rfl) rfl (by rw [List.length_map];exact cn (mS.len k) (by decide)) lp) (aj (az (w_ q rfl) (bZ (aQ (w_ q rfl)) (qc hg (by omega))) e))))))))) x2 ((x.ht.gr x' kp).trans ((In.of x' k x.room).gapp.trans g)) ?_
  rw [←wt nS nR (M:=iz (B.map fun k=>2 ^ k)) ?_ fun i=>?_]
  ·exact y
  ·refine Nat.lt_pow_two_of_testBit (n:=8) _ fun i hi=>Bool.eq_false_iff.mpr fun q=>?_
   rw [gp,List.any_map,List.any_eq_true] at q
   obtain ⟨j,hj,q⟩:=q
   obtain ⟨a,_,z⟩:=fB.memR hj
   exact absurd (jG q▸z.2) (Nat.not_lt_of_le hi)
  ·rw [gp,List.any_map,List.any_eq_true]
   refine ⟨fun ⟨j,hj,q⟩=>?_,fun ⟨u,v,a,c,e⟩=>?_⟩
   ·cases jG q
    obtain ⟨a,ha,z,_⟩:=fB.memR hj
    obtain ⟨i',pi,zi,_⟩:=ca.of a (cD.mp ha)
    cases zi.inj z
    rcases pi with pi|⟨s',hs,u,bu,t',ht,v,bv,e⟩
    ·exact pi.elim
    ·obtain ⟨u',su,bu'⟩:=mS.of s' hs
     obtain ⟨v',sv,bv'⟩:=mR.of t' ht
     exact ⟨u,v,bu'.inj bu▸su,bv'.inj bv▸sv,e⟩
   ·obtain ⟨s',hs,bu⟩:=mS.to u a
    obtain ⟨t',ht,bv⟩:=mR.to v c
    obtain ⟨a',ha,ba⟩:=ca.to i (.inr ⟨s',hs,u,bu,t',ht,v,bv,e⟩)
    obtain ⟨j,hj,z,_⟩:=F2.mem fB (cD.mpr ha)
    exact ⟨j,hj,ba.inj z▸Nat.testBit_two_pow.trans (decide_eq_true rfl)⟩
end
theorem lB:∀ S:Nat,S < 512→(Builtin.bitAnd (S:Int) 256 != 0)=S.testBit 8∧(Builtin.bitAnd (S:Int) 64 != 0)=S.testBit 6∧(Builtin.bitAnd (S:Int) 128 != 0)=S.testBit 7:=by decide +kernel
theorem AB:∀ S:Nat,S < 512→S.testBit 8=false→Builtin.bitAnd (S:Int) (Builtin.bitNot (Builtin.bitOr (if S.testBit 6 then 3 else 0) (if S.testBit 7 then 12 else 0)))=(lsum false S:Int):=by decide +kernel
theorem CJ(a b:Nat):Builtin.bitOr (a:Int) (b:Int)=((a ||| b:Nat):Int):=by
 have nn:∀ x:Int,Builtin.bitNot (Builtin.bitNot x)=x:=fun x=>by unfold Builtin.bitNot;omega
 have na:∀ x:Nat,decide (0≤Builtin.bitNot (x:Int))=false:=fun x=>decide_eq_false (by unfold Builtin.bitNot;omega)
 unfold Builtin.bitOr Builtin.bitAnd
 rw [na,na,nn (a:Int),nn (b:Int)]
 exact nn ((a ||| b:Nat):Int)
section
variable {l:L}{a k:X}{R:Nat}
theorem iw{a b:Nat}:ft .BitOr (.int a) (.int b) h=some (.int ((a ||| b:Nat):Int),h):=congrArg (fun z=>some (D.int z,h)) (CJ a b)
theorem fW{i j:Int}(ha:a c l h=some (.int i,h))(hk:k c l h=some (.int j,h)):xt (xb .BitAnd a k) c l h=some (Builtin.bitAnd i j != 0,h):=tW (ar ha hk rfl) rfl
theorem yj{v:Bool}{x y:Int}{m:Int}(e:(Builtin.bitAnd m y != 0)=v)(hm:l 0=some (.int m)):bz (xt (xb .BitAnd (xv 0) (ki y))) (ki x) (ki 0) c l h=some (.int (if v=true then x else 0),h):=eQ (fW (v_ hm) k_) (by rw [e];cases v<;>rfl)
theorem yi{v:Bool}{x y:Nat}{m:Int}(e:(Builtin.bitAnd m (y:Int) != 0)=v)(hm:l 0=some (.int m)):bz (xt (xb .BitAnd (xv 0) (ki (y:Int)))) (ki (x:Int)) (ki 0) c l h=some (.int ((if v=true then x else 0:Nat):Int),h):=(yj e hm).trans (by cases v<;>rfl)
theorem eZ(hS:S < 512):ab P (n+1) 1026 [.int S] h=some (.int (lsum false S),h):=by
 obtain ⟨s8,s6,s7⟩:=lB S hS
 cases q:S.testBit 8 with
 | true=>
  rw [show lsum false S=256 from if_pos q]
  exact ah (DN P) rfl (aL (fW (v_ rfl) k_) (s8.trans q) k_)
 | false=>
  rw [←AB S hS q]
  exact ah (DN P) rfl (ai (fW (v_ rfl) k_) (s8.trans q) (aj (ar (v_ rfl) (kQ (ar (yj s6 rfl) (yj s7 rfl) rfl) rfl) rfl)))
theorem kD(hS:S < 512):ab P (n+1) 1033 [.int S] h=some (.int (be false S),h):=by
 obtain ⟨_,s6,s7⟩:=lB S hS
 exact ah (IG P) rfl (aj (ar (ar (v_ rfl) (yi (x:=3) (y:=64) s6 rfl) iw) (yi (x:=12) (y:=128) s7 rfl) iw))
theorem iY(hS:S < 512)(hR:R < 512):ab P (n+2) 1040 [.int S,.int R] h=some (.int (eO false S R),h):=by
 have t0:=cw (c:=ab P (n+1)) (h:=h) (l:=fun i=>[D.int S,.int R][i]?) (ao (v_ (i:=0) rfl) (k_ (d:=.int 0))) (ao (v_ (i:=1) rfl) (k_ (d:=.int 0)))
 have z:((S:Int)==0 || (R:Int)==0)=decide (S=0∨R=0):=by
  rw [show ((S:Int)==0)=decide (S=0) from cQ (j:=0),show ((R:Int)==0)=decide (R=0) from cQ (j:=0),Bool.decide_or]
 rw [z] at t0
 unfold eO
 by_cases h0:S=0∨R=0
 ·rw [if_pos h0]
  exact ah (zU P) rfl (aL t0 (decide_eq_true h0) k_)
 ·rw [if_neg h0]
  have t8:=(lB _ (Nat.or_lt_two_pow (n:=9) hS hR)).1
  cases q:(S ||| R).testBit 8 with
  | true=>exact ah (zU P) rfl (ai t0 (decide_eq_false h0) (aL (fW (ar (v_ rfl) (v_ rfl) iw) k_) (t8.trans q) k_))
  | false=>exact ah (zU P) rfl (ai t0 (decide_eq_false h0) (ai (fW (ar (v_ rfl) (v_ rfl) iw) k_) (t8.trans q) (aj (dD (ar (dD (v_ rfl) (kD hS)) (dD (v_ rfl) (kD hR)) rfl) (eZ (cn Nat.and_le_left (cb false S hS).1))))))
end
section
variable {R:Nat}{L:List Nat}
theorem Kd:∀ a b c d e:Bool,(((a || c) && (b || d)) && (e || !((c || c) && (d || d))) || ((c || c) && (d || d)) && (true || !((c || c) && (d || d))))=((a || c) && (b || d)):=by decide
theorem sP(nS:Nm w S)(nR:Nm w R):be w (eO w S R)=be w S &&& be w R:=by
 obtain ⟨n1,n2⟩:=pN nS nR
 obtain ⟨b1,b2⟩:=cP w _ n1 n2
 obtain ⟨_,s⟩:=cb w S nS.l9
 obtain ⟨_,r⟩:=cb w R nR.l9
 obtain ⟨o1,o2⟩:=cb w (eO w S R) (by rw [gR nS nR];exact Nat.lt_trans b1 (by decide))
 rw [gR nS nR] at o1 o2 ⊢
 refine k9 o1 n1 fun i hi=>?_
 obtain ⟨w1,w2⟩:=tZ w i hi
 rw [o2 i hi,b2 i hi,b2 _ w1,Nat.testBit_and,Nat.testBit_and,s i hi,r i hi,s _ w1,r _ w1,w2,decide_eq_true (rfl:wb w i=wb w i)]
 exact Kd _ _ _ _ _
noncomputable def kc(L:List Nat):Nat:=L.foldl (· &&& ·) 511
theorem kb{a:Nat}:(L.foldl (· &&& ·) a).testBit i=(a.testBit i && L.all (·.testBit i)):=by
 induction L generalizing a with
 | nil=>exact (Bool.and_true _).symm
 | cons s r ih=>exact ih.trans (by rw [Nat.testBit_and,List.all_cons,Bool.and_assoc])
theorem oB:kc (L++[s])=kc L &&& s:=List.foldl_append
theorem rI(h:s∈L):kc L &&& s=kc L:=by
 refine Nat.eq_of_testBit_eq fun i=>?_
 unfold kc
 rw [Nat.testBit_and,kb]
 cases q:L.all (·.testBit i) with
 | false=>rw [Bool.and_false];rfl
 | true=>rw [db q s h,Bool.and_true]
noncomputable def cH(w:Bool)(Ss:List Nat):Nat:=if 0∈Ss then 0 else if 256∈Ss then 256 else lsum w (kc (Ss.map (be w)))
theorem jW(h:S < 512):511 &&& be w S=be w S:=(Nat.and_comm _ _).trans (Nat.and_two_pow_sub_one_of_lt_two_pow (n:=9) (cb w S h).1)
theorem kW{a b x:Nat}:x∈[a,b]↔a=x∨b=x:=by
 rw [List.mem_cons,List.mem_singleton];exact or_congr eq_comm eq_comm
theorem BJ(hS:CQ w S)(hR:CQ w R):cH w [S,R]=eO w S R:=by
 unfold cH eO
 by_cases h0:S=0∨R=0
 ·rw [if_pos h0,if_pos (kW.mpr h0)]
 ·rw [if_neg h0,if_neg (mt kW.mp h0)]
  by_cases h1:S=256∨R=256
  ·have e8:(S ||| R).testBit 8=true:=by
    rw [Nat.testBit_or]
    rcases h1 with rfl|rfl
    ·rfl
    ·exact Bool.or_true _
   rw [if_pos (kW.mpr h1),if_pos e8]
  ·have nS:=hS.resolve_left fun e=>h1 (.inl e)
   have nR:=hR.resolve_left fun e=>h1 (.inr e)
   rw [if_neg (mt kW.mp h1),if_neg (by rw [Nat.testBit_or,nS.b8,nR.b8];decide)]
   show lsum w ((511 &&& be w S) &&& be w R)=_
   rw [jW nS.l9]
end
section
variable {l:L}{T:List D}{a k:X}{G:Prop}
theorem o7{x:Int}:ec (.int x) (iN ts)=has ts x:=by
 induction ts with
 | nil=>rfl
 | cons t r ih=>
  rw [mr,←ih]
  show ((t:Int)==x || _)=_
  by_cases e:(t:Int)=x
  ·rw [if_pos e,beq_iff_eq.mpr e];rfl
  ·rw [if_neg e,beq_eq_false_iff_ne.mpr e];rfl
theorem tm{x:Int}(i:cF d h (iN ts)):eF .In (.int x) d h=some (has ts x):=by
 show zo (.int x) d h=_
 unfold zo
 rw [ET,←o7]
 rcases i with rfl|⟨m,rfl,hm⟩
 ·exact (if_neg (by decide)).trans (if_pos (gc 6 ts))
 ·dsimp only
  rw [hm]
  exact (if_neg (by decide)).trans (if_pos (gc 6 ts))
theorem Bv{x:Int}(i:cF d h (iN ts)):eF .NotIn (.int x) d h=some (!has ts x):=congrArg (Option.map (!·)) (tm i)
theorem cB(i:cF d h ds)(hj:ds[j]?=some z):item d (.int j) h=some (z,h):=by
 rcases i with rfl|⟨m,rfl,hm⟩
 ·exact aP hj
 ·exact aX hm hj
theorem kX(i:cF d h ds):bi .len [d] h=some (.int ds.length,h):=by
 rcases i with rfl|⟨m,rfl,hm⟩
 ·rfl
 ·exact dU hm
theorem vt(i:cF d h ds)(hj:j < ds.length)(Q:∀ (e:D) (os:List MO),aT d .none (.int j) h=some (e,(h++os:List MO))→cF e (h++os:List MO) (ds.take j)→G):G:=by
 rcases i with rfl|⟨m,rfl,hm⟩
 ·refine Q (.tup (ds.take j)) [] ?_ (.inl rfl)
  rw [List.append_nil]
  exact if_pos ((Bool.and_eq_true _ _).mpr ⟨decide_eq_true (Int.natCast_nonneg j),decide_eq_true (Int.ofNat_lt.mpr hj)⟩)
 ·refine Q (.ref (h:List MO).length) [.lst (ds.take j)] ?_ (.inr ⟨_,rfl,ak⟩)
  unfold aT
  dsimp only
  rw [hm]
  show (Option.bind (if 0≤(j:Int) then some (min (j:Int).toNat ds.length) else none) fun y=>new (.lst (Fq ds 0 y)) h)=_
  rw [if_pos (Int.natCast_nonneg j),Int.toNat_natCast,Nat.min_eq_left (Nat.le_of_lt hj)]
  rfl
end
section
variable {l:L}{T:List D}{S0:Nat}{G:Prop}
theorem Le.weak3{m l:L}{i:Nat}{y z:D}(q:Le (Internal.upd m i y) l):Le (Internal.upd m i z) (Internal.upd l i z):=fun j d e=>by
 by_cases k:j=i
 ·exact (if_pos k).trans ((if_pos k).symm.trans e)
 ·exact (if_neg k).trans (q j d ((if_neg k).trans ((if_neg k).symm.trans e)))
theorem zw{R:Nat→Nat→Prop}(f:F2 R ts Ss)(e:∀ {t S},R t S→(t=t0↔S=S0)):has ts t0=decide (S0∈Ss):=by
 rw [dj]
 refine decide_eq_decide.mpr ⟨fun m=>?_,fun m=>?_⟩
 ·obtain ⟨S,hS,y⟩:=f.mem m
  exact e y |>.mp rfl▸hS
 ·obtain ⟨t,ht,y⟩:=f.memR m
  exact e y |>.mpr rfl▸ht
theorem Ty.zero(k:Tok T)(y:Ty w T S0 t):t=2↔S0=0:=by
 have z:Ty w T 0 2:=⟨[],.inr ⟨by decide,fun i q=>nomatch (Nat.zero_testBit i).symm.trans q⟩,.inl ⟨rfl,rfl⟩,.nil,fun uu q=>(nomatch q),fun i q=>nomatch (Nat.zero_testBit i).symm.trans q⟩
 exact ⟨fun e=>y.inj k (e▸z),fun e=>y.uniq k (e▸z)⟩
theorem oF:Ty w T 0 2:=⟨[],.inr ⟨by decide,fun i q=>nomatch (Nat.zero_testBit i).symm.trans q⟩,.inl ⟨rfl,rfl⟩,.nil,fun uu q=>(nomatch q),fun i q=>nomatch (Nat.zero_testBit i).symm.trans q⟩
theorem Ty.full(k:Tok T)(y:Ty w T S0 t):t=0↔S0=256:=⟨fun e=>y.inj k (e▸lv k),fun e=>y.uniq k (e▸lv k)⟩
theorem tz{o:Nat}(e:o=1)(ne:t≠1):ab P (m+7) 438 [.ref b.tab,.int o,.int t] h=some (.int t,h):=by
 subst e
 have t1:((t:Int)==1)=false:=pD (k:=1) ne
 exact ah (E4 P) rfl (ai (cw (ao (v_ rfl) (v_ rfl)) (ao (v_ rfl) k_)) (by rw [t1];exact (Bool.or_false _).trans (pD (t:=1) (Ne.symm ne))) (aL (ao (v_ rfl) k_) rfl (v_ rfl)))
theorem te{o y:Nat}(k:Tok (b.T h))(hd:cF d h (iN ts))(f:F2 (fun t S=>Ty w (b.T h) S t) ts Ss)(z1:256∉Ss)(x:In b (n+7) h)(hj:y < ts.length)(h7:y < 7)(q:Le (upd (fun i=>[D.ref b.tab,d][i]?) 3 (.int o)) l)(xj:In b (n+1 * (7 - y)) hh)(g:Gr b h hh)(hS:y=0∧o=1∨∃ S,Ty w (b.T hh) S o∧S≠256∧be w S=kc ((Ss.take y).map (be w)))
  (K:∀ l' h',sq (ay (xt (ac .NotIn (xi (xv 1) (xv 4)) (x3 (xv 1) (xk .none) (xv 4) aT))) (sq (ae 3 (xf 438 [(xv 0),(xv 3),(xi (xv 1) (xv 4))])) aa) aa) aa (ab P (m+7)) (upd l 4 (.int y)) hh=some (.next,l',h')→(∀ G:Prop,(∀ o:Nat,Le (upd (fun i=>[D.ref b.tab,d][i]?) 3 (.int o)) l'→In b (n+1 * (7 - (y+1))) h'→Gr b h h'→(y+1=0∧o=1∨∃ S,Ty w (b.T h') S o∧S≠256∧be w S=kc ((Ss.take (y+1)).map (be w)))→G)→G)→G):G:=by
 have iv:=hd.gr x g
 have q4:=q.upd (i:=4) (z:=.int y) rfl
 obtain ⟨R,eS⟩:∃ R,Ss[y]?=some R:=⟨_,List.getElem?_eq_getElem (f.length▸hj)⟩
 obtain ⟨t,et,yt⟩:=F2.get f eS
 have nR:R≠256:=fun e=>z1 (e▸List.mem_of_getElem? eS)
 have esn:(Ss.take (y+1)).map (be w)=(Ss.take y).map (be w)++[be w R]:=by rw [List.take_add_one,eS,List.map_append];rfl
 have ez:(iN ts)[y]?=some (.int t):=by rw [List.getElem?_map,et];rfl
 refine vt (j:=y) iv (by rw [List.length_map];exact hj) fun e os c1 i2=>?_
 rw [←List.map_take] at i2
 have tst:=av (aF (c:=ab P (m+7)) (ar (f:=item) (w_ q4 (i:=1) rfl) (v_ (i:=4) rfl) (cB iv ez)) (CS (w_ q4 (i:=1) rfl) (k_ (d:=.none)) (v_ (i:=4) rfl) c1) (Bv i2))
 rw [dj] at tst
 have xa:=xj.app (os:=os)
 have ga:=g.trans (xj.gapp (os:=os))
 have Te:b.T (hh++os:List MO)=b.T hh:=xj.ht.app.eq
 by_cases hm:t∈ts.take y
 ·rw [decide_eq_true hm] at tst
  refine K _ _ (bI tst rfl rfl) fun G K=>K o q4 xa.skip ga (.inr ?_)
  rcases hS with ⟨e0,_⟩|⟨S,y',s1,s2⟩
  ·rw [e0] at hm;exact nomatch hm
  ·obtain ⟨R',hR,yR⟩:=(f.take y).mem hm
   cases yR.inj k yt
   exact ⟨S,Te▸y',s1,by rw [esn,oB,s2,rI (List.mem_map.mpr ⟨R,hR,rfl⟩)]⟩
 ·rw [decide_eq_false hm] at tst
  have it2:=ar (f:=item) (c:=ab P (m+7)) (w_ q4 (i:=1) rfl) (v_ (i:=4) rfl) (cB (iv.app (os:=os)) ez)
  have yt':=yt.grow ga.p
  rcases hS with ⟨e0,e1⟩|⟨S,y',s1,s2⟩
  ·refine K _ _ (j2 tst rfl (bg (aA (ck (w_ q4 rfl) (w_ q4 rfl) it2 (tz e1 (yt.ne k (.inl rfl))))) rfl) rfl) fun G K=>K t (Le.weak3 q4) xa.skip ga (.inr ⟨R,yt',nR,?_⟩)
   rw [esn,e0]
   exact (jW (yt.nm nR).l9).symm
  ·refine qL (P:=P) (m:=m) (xa.step h7) (Te▸y') yt' s1 nR fun h2 r e2 x2 g2 yr=>?_
   have nS:=y'.nm s1
   have nR':=yt.nm nR
   refine K _ _ (j2 tst rfl (bg (aA (ck (w_ q4 rfl) (w_ q4 rfl) it2 e2)) rfl) rfl) fun G K=>K r (Le.weak3 q4) x2 (ga.trans g2) (.inr ⟨_,yr,fun e=>?_,?_⟩)
   ·rw [gR nS nR'] at e
    have:=(cP w _ (pN nS nR').1 (pN nS nR').2).1
    rw [e] at this;exact absurd this (by decide)
   ·rw [sP nS nR',esn,oB,s2]
theorem rg(x:In b (n+7) h)(hd:cF d h (iN ts))(f:F2 (fun t S=>Ty w (b.T h) S t) ts Ss)(h0:ts≠[])(hts:ts.length≤7)(Q:∀ h' (r:Nat),ab P (m+8) 445 [.ref b.tab,d] h=some (.int r,h')→In b n h'→Gr b h h'→Ty w (b.T h') (cH w Ss) r→G):G:=by
 have k:=x.tok
 have m2:has ts 2=decide (0∈Ss):=zw (t0:=2) f fun y=>y.zero k
 have m0:has ts 0=decide (256∈Ss):=zw (t0:=0) f fun y=>y.full k
 have m13:has ts 13=false:=(dj (x:=13)).trans (decide_eq_false fun z=>let ⟨_,_,y⟩:=f.mem z;y.ne k (.inr (.inl rfl)) rfl)
 have inn:∀ {x:Int} {l:L},l 1=some d→l 2=some (.int x)→xt (ac .In (xv 2) (xv 1)) (ab P (m+7)) l h=some (has ts x,h):=fun q1 q2=>av (aF (v_ q2) (v_ q1) (tm hd))
 have st:still (.tup [.int 2,.int 0,.int 13]) [.int 2,.int 0,.int 13] (knd (.tup [.int 2,.int 0,.int 13]) h) h=true:=an
 by_cases z0:0∈Ss
 ·exact Q h 2 (ah (E3 P) rfl (uk ⟨_,aO rfl rfl (by decide) (eH st (ja (inn rfl rfl) (m2.trans (decide_eq_true z0)) (v_ rfl)))⟩)) (x.le (cg n 7)) .refl (by rw [show cH w Ss=0 from if_pos z0];exact oF)
 ·have s2':=m2.trans (decide_eq_false z0)
  by_cases z1:256∈Ss
  ·exact Q h 0 (ah (E3 P) rfl (uk ⟨_,aO rfl rfl (by decide) (aC st (bI (inn rfl rfl) s2' rfl) (eH st (ja (inn rfl rfl) (m0.trans (decide_eq_true z1)) (v_ rfl))))⟩)) (x.le (cg n 7)) .refl (by rw [show cH w Ss=256 from (if_neg z0).trans (if_pos z1)];exact lv k)
  ·rw [show cH w Ss=_ from (if_neg z0).trans (if_neg z1)] at Q
   refine GN (f:=fun (k:Nat)=>D.int (k:Int)) (i:=4) (a:=x1 (dC .len [(xv 1)]) dq) (c:=ab P (m+7)) (l:=upd (upd (upd (upd (fun i=>[D.ref b.tab,d][i]?) 2 (.int 2)) 2 (.int 0)) 2 (.int 13)) 3 (.int 1)) (h:=h) (ys:=List.range ts.length) (d:=.rng 0 ts.length)
    (bd:=sq (ay (xt (ac .NotIn (xi (xv 1) (xv 4)) (x3 (xv 1) (xk .none) (xv 4) aT))) (sq (ae 3 (xf 438 [(xv 0),(xv 3),(xi (xv 1) (xv 4))])) aa) aa) aa)
    (fun j l hh=>∀ G:Prop,(∀ o:Nat,Le (upd (fun i=>[D.ref b.tab,d][i]?) 3 (.int o)) l→In b (n+1 * (7 - j)) hh→Gr b h hh→(j=0∧o=1∨∃ S,Ty w (b.T hh) S o∧S≠256∧be w S=kc ((Ss.take j).map (be w)))→G)→G)
    (kQ (bZ (aQ (v_ rfl)) ((kX hd).trans (by rw [List.length_map]))) (bP (by omega))) bU (by rw [List.length_range];omega) (fun uu uu1 uu2 uu3=>bD) (fun j y l hh hy I G K=>I _ fun o q xj g hS=>?_) (fun G K=>K 1 (Le.set (Le.upd (Le.upd (Le.upd .refl rfl) rfl) rfl)) x .refl (.inl ⟨rfl,rfl⟩)) fun l' h' lp I=>I _ fun o q xj g hS=>?_
   ·obtain ⟨hj,rfl⟩:=um hy
    exact te (P:=P) (m:=m) k hd f z1 x hj (by omega) q xj g hS K
   ·rw [List.length_range,f.length,List.take_length] at hS
    rcases hS with ⟨e,_⟩|⟨S,y,s1,s2⟩
    ·exact absurd (List.length_eq_zero_iff.mp (f.length.trans e)) h0
    ·exact Q h' o (ah (E3 P) rfl (ax (aO rfl rfl (by decide) (aC st (bI (inn rfl rfl) s2' rfl) (aC st (bI (inn rfl rfl) (m0.trans (decide_eq_false z1)) rfl) (aC st (bI (inn rfl rfl) m13 rfl) (aR st))))) (aH k_ (ax lp (aj (w_ q rfl)))))) (xj.le (cg n _)) g (by
      have nS:=y.nm s1
      rw [←s2,iX nS,jx nS];exact y)
end
noncomputable def nm:Nat→Str
 | 0=>q "p"
 | 1=>q "q"
 | 2=>q "0"
 | _=>q "x"
theorem oZ:∀ i,i < 4→∀ j,j < 4→D.eqb (.str (nm i)) (.str (nm j))=decide (i=j):=by decide +kernel
noncomputable def dM(ks:List Nat)(g:Nat→D):List (D×D):=ks.map fun k=>(.str (nm k),g k)
noncomputable abbrev iS(ks:List Nat):List D:=ks.map fun k=>.str (nm k)
noncomputable abbrev lq(g:Nat→D)(k:Nat)(v:D):Nat→D:=fun j=>if j=k then v else g j
noncomputable def ord(ks:List Nat):List Nat:=[2,0,1].filter fun k=>decide (k∈ks)
theorem FF:∀ a < 3,D.eqbs (gw (iS [a])) (iS (ord [a]))=true:=by decide +kernel
theorem FE:∀ a < 3,∀ e < 3,a≠e→D.eqbs (gw (iS [a,e])) (iS (ord [a,e]))=true:=by decide +kernel
theorem FD:∀ a < 3,∀ e < 3,∀ f < 3,(a≠e∧a≠f∧e≠f)→D.eqbs (gw (iS [a,e,f])) (iS (ord [a,e,f]))=true:=by decide +kernel
section
variable {l:L}{T:List D}{v:D}{a:X}{ks:List Nat}{f:Nat}{G:Prop}
theorem lX(hk:k < 4)(h:∀ j∈ks,j < 4):bh (.str (nm k)) (dM ks g)=if k∈ks then some (g k) else none:=by
 induction ks with
 | nil=>rfl
 | cons a r ih=>
  refine (cy _ _ (dM r g)).trans ?_
  rw [ih fun j hj=>h j (aE _ hj),oZ a (h a aw) k hk]
  by_cases e:a=k
  ·rw [decide_eq_true e,if_pos rfl,if_pos (e▸aw),e]
  ·rw [decide_eq_false e,if_neg Bool.false_ne_true]
   by_cases q:k∈r
   ·rw [if_pos q,if_pos (aE _ q)]
   ·rw [if_neg q,if_neg fun z=>(bo z).elim (fun z=>e z.symm) q]
theorem E9(nk:k∉ks):dM ks (lq g k v)=dM ks g:=List.map_congr_left fun j hj=>by
 show (_,if j=k then v else g j)=_
 rw [if_neg fun e:j=k=>nk (e▸hj)]
theorem Bb(hk:k < 4)(h:∀ j∈ks,j < 4)(nd:ks.Nodup):cL (.str (nm k)) v (dM ks g)=dM (ins ks k) (lq g k v):=by
 have key:(k∈ks→cL (.str (nm k)) v (dM ks g)=dM ks (lq g k v))∧(k∉ks→cL (.str (nm k)) v (dM ks g)=dM (ks++[k]) (lq g k v)):=by
  induction ks with
  | nil=>exact ⟨fun q=>(nomatch q),fun uu=>congrArg (fun z=>[(D.str (nm k),z)]) (if_pos rfl).symm⟩
  | cons a r ih=>
   rw [List.nodup_cons] at nd
   obtain ⟨i1,i2⟩:=ih (fun j hj=>h j (aE _ hj)) nd.2
   have e:cL (.str (nm k)) v (dM (a::r) g)=if decide (a=k)=true then (.str (nm a),v)::dM r g else (.str (nm a),g a)::cL (.str (nm k)) v (dM r g):=(cO _ _ _ _).trans (by rw [oZ a (h a aw) k hk];rfl)
   rw [e]
   by_cases z:a=k
   ·rw [if_pos (decide_eq_true z)]
    refine ⟨fun uu=>?_,fun q=>absurd (z▸aw) q⟩
    show _=(_,if a=k then v else g a)::dM r (lq g k v)
    rw [if_pos z,E9 (z▸nd.1)]
   ·rw [if_neg fun q=>z (of_decide_eq_true q)]
    have e2:(D.str (nm a),g a)=(D.str (nm a),lq g k v a):=congrArg _ (if_neg z).symm
    rw [e2]
    exact ⟨fun q=>congrArg _ (i1 ((bo q).resolve_left fun e=>z e.symm)),fun q=>congrArg _ (i2 fun w=>q (aE _ w))⟩
 unfold ins
 by_cases q:k∈ks
 ·rw [if_pos q];exact key.1 q
 ·rw [if_neg q];exact key.2 q
theorem jB(ks:List Nat)(g:Nat→D):cW 2 (dM ks g)=true:=List.all_eq_true.mpr fun p hp=>by
 obtain ⟨k,_,rfl⟩:=bR hp
 rfl
theorem oX(ks:List Nat)(g:Nat→D):sJ (.str (nm k)) (dM ks g)=true:=(Bool.and_eq_true _ _).mpr ⟨rfl,jB ks g⟩
theorem uC(h:∀ j∈ks,j < 3):∀ j∈ks,j < 4:=fun j q=>Nat.lt_succ_of_lt (h j q)
theorem vo(h:∀ j∈ks,j < 3)(nd:ks.Nodup):gw (iS ks)=iS (ord ks):=by
 have hl:ks.length≤3:=dp nd h
 rcases ks with _|⟨a,_|⟨e,_|⟨f,_|⟨g,r⟩⟩⟩⟩
 ·rfl
 ·exact eqbs_eq (FF a (h a aw))
 ·simp only [List.nodup_cons,List.mem_cons,not_or] at nd
  exact eqbs_eq (FE a (h a (by simp)) e (h e (by simp)) nd.1.1)
 ·simp only [List.nodup_cons,List.mem_cons,not_or] at nd
  exact eqbs_eq (FD a (h a (by simp)) e (h e (by simp)) f (h f (by simp)) ⟨nd.1.1,nd.1.2.1,nd.2.1.1⟩)
 ·exact absurd hl (Nat.not_le_of_gt (Nat.le_add_left 4 _))
theorem uo(h:k∈ord ks):k∈ks:=of_decide_eq_true (List.mem_filter.mp h).2
theorem Bf(ks:List Nat):(ord ks).length≤3:=List.length_filter_le _ [2,0,1]
theorem EP(hm:(h:List MO)[m]?=some (.dct (dM ks g)))(hk:k < 4)(hks:∀ j∈ks,j < 4):eF .In (.str (nm k)) (.ref m) h=some (decide (k∈ks)):=(pz hm (oX ks g)).trans (by
 rw [lX hk hks]
 by_cases e:k∈ks
 ·rw [if_pos e,decide_eq_true e];rfl
 ·rw [if_neg e,decide_eq_false e];rfl)
theorem I3(hm:(h:List MO)[m]?=some (.dct (dM ks g)))(hk:k < 4)(hks:∀ j∈ks,j < 4):eF .NotIn (.str (nm k)) (.ref m) h=some (!decide (k∈ks)):=congrArg (Option.map (!·)) (EP hm hk hks)
theorem pg(hm:(h:List MO)[m]?=some (.dct (dM ks g)))(hk:k < 4)(hks:∀ j∈ks,j < 4)(hi:k∈ks):item (.ref m) (.str (nm k)) h=some (g k,h):=fP hm (oX ks g) ((lX hk hks).trans (if_pos hi))
theorem zW:(dM ks g).length=ks.length:=List.length_map _
theorem jR(hn:m≠0)(hm:(h:List MO)[m]?=some (.dct (dM ks g)))(hk:k < 4)(hks:∀ j∈ks,j < 4)(nd:ks.Nodup):setItem (.ref m) (.str (nm k)) v h=some (h.set m (.dct (dM (ins ks k) (lq g k v)))):=
 Bb hk hks nd▸gM hn hm (oX ks g) (by have:=dp nd hks;rw [zW];omega)
theorem uO(hm:(h:List MO)[m]?=some (.dct (dM ks g))):bH (.ref m) h=some (iS ks):=by
 unfold bH
 dsimp only
 rw [hm]
 exact (if_pos (jB ks g)).trans (congrArg some List.map_map)
theorem Jx(hks:∀ j∈ks,j < n)(hk:k < n):∀ j∈ins ks k,j < n:=fun j hj=>(fw.mp hj).elim (hks j) fun e=>e▸hk
theorem qb(hm:(h:List MO)[m]?=some (.dct (dM ks g)))(hks:∀ j∈ks,j < 3)(nd:ks.Nodup)(hf:l f=some (.ref m))(hif:f≠i):
  dC .tuple [(aN i (dC .sorted [(xv f)]) none (xi (xv f) (xv i)))] c l h=some (.tup ((ord ks).map g),(h++[.lst (iS (ord ks))]++[.lst ((ord ks).map g)]:List MO)):=by
 have e1:bi .sorted [.ref m] h=some (.ref (h:List MO).length,(h++[.lst (iS (ord ks))]:List MO)):=by
  show onD (h:List MO)[m]? _=_
  rw [hm]
  refine (if_pos ((Bool.and_eq_true _ _).mpr ⟨(Bool.or_eq_true _ _).mpr (.inr (jB ks g)),decide_eq_true ?_⟩)).trans ?_
  ·have:=dp nd hks
   rw [zW];omega
  ·rw [show (dM ks g).map (·.1)=iS ks from List.map_map,vo hks nd];rfl
 have l3:=Bf ks
 exact bZ (aQ (fu (f:=fun k=>.str (nm k)) (g:=g) (bZ (f:=fun uu=>bi .sorted) (aQ (v_ hf)) e1) (aK ak) (by omega) fun k hk=>ar (f:=item) (v_ ((if_neg hif).trans hf)) (v_ (if_pos rfl)) (pg (au hm) (uC hks k (uo hk)) (uC hks) (uo hk)))) (jM ak)
theorem oh{m0:L}{chk:H→Bool}(hc:∀ ks,chk (h++[.dct (dM ks g)]:List MO)=true)(hp:(h:List MO).length≠0)(m1:m0 1=some (.ref (h:List MO).length))(m2:m0 2=none)(hjs:∀ j∈js,j < 4)(hks:∀ j∈ks,j < 4)(nd:(ks++js).Nodup)(hg:∀ j∈js,∃ r,g j=.tup (.str (nm j)::r))(q:Le m0 l)
  (Q:∀ l',bC chk 2 (sq (bB (xv 2) (xv 1) (xi (xv 2) (ki 0))) aa) c (js.map g) l (h++[.dct (dM ks g)]:List MO)=some (.next,l',(h++[.dct (dM (ks++js) g)]:List MO))→Le m0 l'→G):G:=by
 induction js generalizing l ks with
 | nil=>exact Q l (by rw [List.append_nil];exact aR (hc ks)) q
 | cons j js ih=>
  obtain ⟨r,er⟩:=hg j aw
  have e:ks++j::js=(ks++[j])++js:=by rw [List.append_assoc];rfl
  rw [e] at nd Q
  obtain ⟨n1,n2,n3⟩:=List.nodup_append.mp (List.nodup_append.mp nd).1
  have jk:j∉ks:=fun z=>n3 j z j (List.mem_singleton.mpr rfl) rfl
  have j4:=hjs j aw
  have q2:=q.upd (i:=2) (z:=g j) m2
  refine ih (fun i z=>hjs i (aE _ z)) (fun i z=>(List.mem_append.mp z).elim (hks i) fun z=>cV z▸j4) nd (fun i z=>hg i (aE _ z)) q2 fun l' e' q'=>Q l' (aC (hc ks) (bg (eW (v_ rfl) (w_ q2 m1) (ar (f:=item) (v_ (i:=2) (d:=g j) rfl) k_ (by rw [er];exact aq)) ((jR hp ak j4 hks n1).trans (congrArg some (fX.trans ?_)))) rfl) e') q'
  rw [show ins ks j=ks++[j] from if_neg jk]
  refine congrArg (fun z=>(h++[.dct z]:List MO)) (List.map_congr_left fun i uu=>?_)
  by_cases z:i=j
  ·cases z;exact congrArg _ (if_pos rfl)
  ·exact congrArg _ (if_neg z)
theorem kL(hd:cF d h (js.map g))(hp:(h:List MO).length≠0)(hjs:∀ j∈js,j < 3)(nd:js.Nodup)(hg:∀ j∈js,∃ r,g j=.tup (.str (nm j)::r))(Q:∀ os,ab P (n+1) 200 [d] h=some (.tup ((ord js).map g),(h++os:List MO))→G):G:=by
 have hl:js.length≤3:=dp nd hjs
 refine oh (c:=ab P n) (chk:=still d (js.map g) (knd d (h++[.dct []]:List MO))) (ks:=[]) (m0:=upd (fun i=>[d][i]?) 1 (.ref (h:List MO).length)) (fun ks=>hd.app.still hd.app) hp rfl rfl (uC hjs) (fun uu q=>nomatch q) nd hg .refl fun l' lp q=>?_
 exact Q ([.dct (dM js g)]++[.lst (iS (ord js))]++[.lst ((ord js).map g)]) ((ah (It P) rfl (ax (x:=ae 1 cu) (aA rfl) (ax (aO (v_ rfl) hd.app.items (by rw [List.length_map];omega) lp) (aj (qb (i:=3) (f:=1) (h:=(h++[.dct (dM js g)]:List MO)) ak hjs nd (q 1 _ rfl) (by decide)))))).trans (by rw [List.append_assoc,List.append_assoc];rfl))
theorem oV{r:List D}{z:D}(hp:(h:List MO).length≠0)(hjs:∀ j∈js,j < 3)(nd:js.Nodup)(hg:∀ j∈js,∃ r,g j=.tup (.str (nm j)::r)):
  ab P (n+1) 454 [.tup (z::.tup (js.map g)::r)] h=some (.ref (h:List MO).length,(h++[.dct (dM js g)]:List MO)):=by
 have hl:js.length≤3:=dp nd hjs
 exact oh (c:=ab P n) (chk:=still (.tup (js.map g)) (js.map g) (knd (.tup (js.map g)) (h++[.dct []]:List MO))) (ks:=[]) (m0:=upd (fun i=>[.tup (z::.tup (js.map g)::r)][i]?) 1 (.ref (h:List MO).length)) (fun uu=>an) hp rfl rfl (uC hjs) (fun uu q=>nomatch q) nd hg .refl fun l' lp q=>ah (JV P) rfl (ax (x:=ae 1 cu) (aA rfl) (ax (aO (ar (v_ rfl) k_ bj) rfl (by rw [List.length_map];omega) lp) (aj (w_ q rfl))))
end
structure Mb where
 (ty:Nat) (opt:Bool) (own:Nat)
structure Ob where
 (m:Nat→Option Mb) (tx dg:Option Nat)
noncomputable def oc(tn:Bool)(o:Nat):Nat:=bif tn then (if o=0 then 0 else if o=1 then 7 else 4) else o
theorem ur:∀ tn i,i < 3→∀ j,j < 3→(((oc tn i:Nat):Int)==((oc tn j:Nat):Int))=decide (i=j):=by
 intro tn;cases tn<;>decide +kernel
noncomputable abbrev kM(tn:Bool)(k t fl own:Nat):D:=.tup [.str (nm k),.int t,.int fl,.int (oc tn own:Nat)]
inductive Mr (tn:Bool) (T:List D) (k:Nat) (m:Mb) (d:D):Prop
 | mk (t fl:Nat):d=kM tn k t fl m.own→Ty false T m.ty t→fl < 128→fl.testBit 0=m.opt→(fl.testBit 3 || fl.testBit 4)=decide (m.own≠0)→m.own < 3→Mr tn T k m d
noncomputable def Bk(m:Mb):Nat:=lsum false (m.ty ||| if m.opt then 16 else 0)
noncomputable def both(m n:Mb):Mb:=if m.own≠n.own then ⟨0,m.opt && n.opt,if 0 < m.own then m.own else n.own⟩
 else ⟨if m.opt≠n.opt then eO false (Bk m) (Bk n) else eO false m.ty n.ty,m.opt && n.opt,m.own⟩
theorem kZ:∀ f:Nat,f < 128→(Builtin.bitAnd (f:Int) 1 != 0)=f.testBit 0∧(Builtin.bitAnd (f:Int) 24 != 0)=(f.testBit 3 || f.testBit 4):=by decide +kernel
theorem IR:∀ a b c d:Bool,((a || c) || (b || d))=((a || b) || (c || d)):=by decide
section
variable {l:L}{T:List D}{a:X}{R:Nat}{v:Bool}{G:Prop}{tst:XT}
theorem Mr.grow{m:Mb}(p:T <+: T')(x:Mr tn T k m d):Mr tn T' k m d:=by
 obtain ⟨t,fl,e,y,r1,r2,r3,r4⟩:=x
 exact ⟨t,fl,e,y.grow p,r1,r2,r3,r4⟩
theorem Ty.lsum(y:Ty w T S t):Internal.lsum w S=S:=by
 obtain ⟨_,n,_⟩:=y
 rcases n with rfl|n
 ·cases w<;>rfl
 ·exact jx n
theorem Ty.nm9(y:Ty w T S t):CQ w S:=by obtain ⟨_,n,_⟩:=y;exact n
theorem bT{L:List D}{d e f:D}:item (.tup (d::e::f::L)) (.int 2) h=some (f,h):=aP (t:=2) rfl
theorem fa{L:List D}{d e f g:D}:item (.tup (d::e::f::g::L)) (.int 3) h=some (g,h):=aP (t:=3) rfl
theorem n9(x:In b (n+7) h)(p1:Ty w (b.T h) S s)(p2:Ty w (b.T h) R t)(Q:∀ h' (r:Nat),ab P (m+8) 445 [.ref b.tab,.tup [.int s,.int t]] h=some (.int r,h')→In b n h'→Gr b h h'→Ty w (b.T h') (eO w S R) r→G):G:=
 rg (P:=P) (m:=m) (ts:=[s,t]) (Ss:=[S,R]) x (.inl rfl) ⟨p1,p2,trivial⟩ (fun e=>nomatch e) (f0 rfl) fun h' r e x' g y=>Q h' r e x' g (BJ p1.nm9 p2.nm9▸y)
theorem xy(x:In b (n+1) h)(y:Ty w (b.T h) S t)(ht:tst (ab P (m+5)) l h=some (v,h))(q0:l 0=some (.ref b.tab))(qi:l i=some (.int t))(Q:∀ l' h' (t':Nat),ay tst (sq (ae i (xf 280 [(xv 0),(xv i)])) aa) aa (ab P (m+5)) l h=some (.next,l',h')→(∀ j,j≠i→l' j=l j)→l' i=some (.int t')→In b n h'→Gr b h h'→Ty w (b.T h') (if v then lsum w (S ||| 16) else S) t'→G):G:=by
 cases v with
 | false=>exact Q l h t (zu ht rfl) (fun uu uu1=>rfl) qi (x.le (Nat.le_succ n)) .refl y
 | true=>exact jI (P:=P) (m:=m) x y fun h' t' e x' g y'=>Q _ h' t' (zu ht (bg (aA (az (v_ q0) (v_ qi) e)) rfl)) (fun j z=>if_neg z) (if_pos rfl) x' g y'
theorem CH{T T':List D}(y1:Ty false T m1.ty s)(y2:Ty false T' m2.ty t)(ho:m1.own=m2.own):eO false (if m1.opt && !m2.opt then lsum false (m1.ty ||| 16) else m1.ty) (if m2.opt && !m1.opt then lsum false (m2.ty ||| 16) else m2.ty)=(both m1 m2).ty:=by
 rw [show both m1 m2=_ from if_neg fun e=>e ho]
 show _=if m1.opt≠m2.opt then eO false (Bk m1) (Bk m2) else eO false m1.ty m2.ty
 unfold Bk
 cases m1.opt<;>cases m2.opt
 ·rfl
 ·show eO false m1.ty _=eO false (lsum false (m1.ty ||| 0)) _
  rw [Nat.or_zero,y1.lsum];rfl
 ·show eO false _ m2.ty=eO false _ (lsum false (m2.ty ||| 0))
  rw [Nat.or_zero,y2.lsum];rfl
 ·rfl
theorem yz{own:Nat}{f:Nat}(hf:f < 128)(q:a c l h=some (kM tn k t f own,h)):xt (xb .BitAnd (xi a (ki 2)) (ki 1)) c l h=some (f.testBit 0,h):=(fW (ar q k_ bT) k_).trans (by rw [(kZ _ hf).1])
theorem qJ(x:In b (n+10) h)(p1:Mr tn (b.T h) k m1 d1)(p2:Mr tn (b.T h) k m2 d2)(Q:∀ h' (r:Nat),ab P (m+9) 461 [.ref b.tab,d1,d2] h=some (.int r,h')→In b n h'→Gr b h h'→Ty false (b.T h') (both m1 m2).ty r→G):G:=by
 obtain ⟨t1,f1,rfl,y1,l1,o1,w1,c1⟩:=p1
 obtain ⟨t2,f2,rfl,y2,l2,o2,w2,c2⟩:=p2
 have hid:(Builtin.bitAnd ((f1 ||| f2:Nat):Int) 24 != 0)=(decide (m1.own≠0) || decide (m2.own≠0)):=by
  rw [(kZ _ (Nat.or_lt_two_pow (n:=7) l1 l2)).2,Nat.testBit_or,Nat.testBit_or,←w1,←w2,IR]
 have tst:=dF (c:=ab P (m+8)) (l:=fun i=>[D.ref b.tab,kM tn k t1 f1 m1.own,kM tn k t2 f2 m2.own][i]?) ((fV (ar (f:=item) (v_ (i:=1) rfl) k_ fa) (ar (f:=item) (v_ (i:=2) rfl) k_ fa)).trans (congrArg (fun v=>some (!v,h)) (ur tn _ c1 _ c2))) ((fW (ar (f:=ft .BitOr) (ar (f:=item) (v_ (i:=1) rfl) k_ bT) (ar (f:=item) (v_ (i:=2) rfl) k_ bT) iw) (ar (f:=ft .BitOr) (k_ (d:=.int 8)) (k_ (d:=.int 16)) rfl)).trans (congrArg (fun v=>some (v,h)) hid))
 by_cases ho:m1.own=m2.own
 ·refine xy (P:=P) (m:=m+3) (i:=3) (v:=m1.opt && !m2.opt) (l:=upd (upd (fun i=>[D.ref b.tab,kM tn k t1 f1 m1.own,kM tn k t2 f2 m2.own][i]?) 3 (.int t1)) 4 (.int t2)) (tst:=bM (xt (xb .BitAnd (xi (xv 1) (ki 2)) (ki 1))) (iu (xt (xb .BitAnd (xi (xv 2) (ki 2)) (ki 1))))) (x.le (Nat.add_le_add_left (by decide:8+1≤10) n)) y1 (o1▸o2▸dF (yz l1 (v_ rfl)) (ko (yz l2 (v_ rfl)))) rfl rfl fun l3 h3 s e3 q3 v3 x3 g3 z3=>?_
  refine xy (P:=P) (m:=m+3) (i:=4) (v:=m2.opt && !m1.opt) (tst:=bM (xt (xb .BitAnd (xi (xv 2) (ki 2)) (ki 1))) (iu (xt (xb .BitAnd (xi (xv 1) (ki 2)) (ki 1))))) x3 (y2.grow g3.p) (o1▸o2▸dF (yz l2 (v_ ((q3 2 (by decide)).trans rfl))) (ko (yz l1 (v_ ((q3 1 (by decide)).trans rfl))))) ((q3 0 (by decide)).trans rfl) ((q3 4 (by decide)).trans rfl) fun l4 h4 t e4 q4 v4 x4 g4 z4=>?_
  refine n9 (P:=P) (m:=m) x4 (z3.grow g4.p) z4 fun h5 r e5 x5 g5 z5=>Q h5 r (ah (Ik P) rfl (ai tst (by rw [decide_eq_true ho];rfl) (aH (ar (v_ rfl) k_ bj) (aH (ar (v_ rfl) k_ bj) (ax e3 (ax e4 (aj (az (v_ ((q4 0 (by decide)).trans ((q3 0 (by decide)).trans rfl))) (bZ (dJ (v_ ((q4 3 (by decide)).trans v3)) (v_ v4)) rfl) e5)))))))) x5 (g3.trans (g4.trans g5)) ?_
  rw [←CH y1 y2 ho];exact z5
 ·refine Q h 2 (ah (Ik P) rfl (aL tst ?_ k_)) (x.le (cg n 10)) .refl (by unfold both;rw [if_pos ho];exact oF)
  rw [decide_eq_false ho]
  by_cases z:m1.own=0
  ·rw [decide_eq_true (p:=m2.own≠0) fun e=>ho (z.trans e.symm),Bool.or_true];rfl
  ·rw [decide_eq_true z];rfl
theorem jF:(both m1 m2).own=if m1.own≠0 then m1.own else m2.own:=by
 by_cases ho:m1.own=m2.own
 ·rw [show both m1 m2=_ from if_neg fun e=>e ho]
  by_cases z:m1.own=0
  ·exact ho.trans (if_neg fun e=>e z).symm
  ·exact (if_pos z).symm
 ·rw [show both m1 m2=_ from if_pos ho]
  by_cases z:m1.own=0
  ·exact (if_neg fun e=>absurd (z▸e) (Nat.lt_irrefl 0)).trans (if_neg fun e=>e z).symm
  ·exact (if_pos (Nat.pos_of_ne_zero z)).trans (if_pos z).symm
theorem Ad:(both m1 m2).opt=(m1.opt && m2.opt):=by unfold both;split<;>rfl
theorem Kf:∀ a b:Bool,((a && b && true) || ((a || b) && false))=(a && b):=by decide
theorem Ke:∀ a b c d:Bool,(((a && b && false) || ((a || b) && true)) || ((c && d && false) || ((c || d) && true)))=((a || c) || (b || d)):=by decide
theorem qI(x:In b (n+10) h)(p1:Mr tn (b.T h) k m1 d1)(p2:Mr tn (b.T h) k m2 d2)(Q:∀ h' d,ab P (m+10) 468 [.ref b.tab,d1,d2] h=some (d,h')→In b n h'→Gr b h h'→Mr tn (b.T h') k (both m1 m2) d→G):G:=by
 refine qJ (P:=P) (m:=m) x p1 p2 fun h' r e x' g y=>?_
 obtain ⟨t1,f1,rfl,y1,l1,o1,w1,c1⟩:=p1
 obtain ⟨t2,f2,rfl,y2,l2,o2,w2,c2⟩:=p2
 have own:∀ {l:L},l 1=some (kM tn k t1 f1 m1.own)→l 2=some (kM tn k t2 f2 m2.own)→bz (xt (xi (xv 1) (ki 3))) (xi (xv 1) (ki 3)) (xi (xv 2) (ki 3)) (ab P (m+9)) l h'=some (.int (oc tn (both m1 m2).own:Nat),h'):=fun q1 q2=>by
  have z:(((oc tn m1.own:Nat):Int)==0)=decide (m1.own=0):=by rw [←ur tn m1.own c1 0 (by decide)];cases tn<;>rfl
  refine eQ (tW (v:=!decide (m1.own=0)) (ar (v_ q1) k_ fa) (congrArg (fun v=>some (!v)) z)) ?_
  rw [jF]
  by_cases z:m1.own=0
  ·rw [if_neg fun e=>e z,decide_eq_true z];exact ar (v_ q2) k_ fa
  ·rw [if_pos z,decide_eq_false z];exact ar (v_ q1) k_ fa
 refine Q h' _ (ah (JU P) rfl (aH (ar (ar (ar (v_ rfl) k_ bT) (ar (v_ rfl) k_ bT) rfl) (ar (ar k_ k_ rfl) k_ rfl) rfl) (aH (ar (v_ rfl) (ar (ar (ar (v_ rfl) k_ bT) (ar (v_ rfl) k_ bT) iw) (ar (ar (ar k_ k_ rfl) k_ rfl) k_ rfl) rfl) iw) (aj (bZ (bV (ar (v_ rfl) k_ aq) (dW (ck (v_ rfl) (v_ rfl) (v_ rfl) e) (v_ rfl) (own rfl rfl))) rfl))))) x' g ⟨r,(f1 &&& f2 &&& 35) ||| ((f1 ||| f2) &&& 92),rfl,y,Nat.or_lt_two_pow (n:=7) (cn Nat.and_le_right (by decide)) (cn Nat.and_le_right (by decide)),?_,?_,?_⟩
 ·rw [Ad,←o1,←o2,Nat.testBit_or,Nat.testBit_and,Nat.testBit_and,Nat.testBit_and,Nat.testBit_or]
  exact Kf _ _
 ·rw [jF,Nat.testBit_or,Nat.testBit_and,Nat.testBit_and,Nat.testBit_and,Nat.testBit_or,Nat.testBit_or,Nat.testBit_and,Nat.testBit_and,Nat.testBit_and,Nat.testBit_or]
  refine (Ke _ _ _ _).trans ?_
  rw [w1,w2]
  by_cases z:m1.own=0
  ·rw [if_neg fun e=>e z,decide_eq_false fun e=>e z];rfl
  ·rw [if_pos z,decide_eq_true z];rfl
 ·rw [jF];split<;>assumption
end
def Cl(T:List D)(o:Option Nat)(d:D):Prop:=match o with
 | none=>d=.tup []
 | some S=>∃ t:Nat,d=.tup [.int t,.int 0]∧Ty false T S t
theorem Cl.some{T:List D}{S t:Nat}(y:Ty false T S t):Cl T (some S) (.tup [.int t,.int 0]):=⟨t,rfl,y⟩
noncomputable def fx:Option Nat→Option Nat→Option Nat
 | none,c=>c
 | some S,none=>some S
 | some S,some R=>some (eO false S R)
noncomputable def fU(f:Nat→Option Mb):List Nat:=[2,0,1].filter fun k=>(f k).isSome
structure Dr(R:Nat→Mb→D→Prop)(f:Nat→Option Mb)(kk:List Nat)(g:Nat→D):Prop where
 nd:kk.Nodup
 mem:∀ k,k∈kk↔(f k).isSome=true
 pm:∀ k m,f k=some m→k < 3∧R k m (g k)
abbrev Dd(tn:Bool)(T:List D)(f:Nat→Option Mb)(kk:List Nat)(g:Nat→D):Prop:=Dr (Mr tn T) f kk g
inductive Rw (tn:Bool) (T:List D) (o:Ob) (d:D):Prop
 | mk (g:Nat→D) (cs cd:D):d=.tup [.int 8,.tup ((fU o.m).map g),.tup [],.tup [],cs,cd,.int 0]→Dd tn T o.m (fU o.m) g→Cl T o.tx cs→Cl T o.dg cd→Rw tn T o d
noncomputable def mm(f g:Nat→Option Mb)(k:Nat):Option Mb:=match f k,g k with
 | some x,some y=>some (both x y)
 | some x,none=>some x
 | none,r=>r
noncomputable def kB(a b:Ob):Ob:=⟨mm a.m b.m,fx a.tx b.tx,fx a.dg b.dg⟩
structure Ao(b:Tb)(h0:H)(m:Nat)(o:MO)(n:Nat)(h:H):Prop where
 x:In b n h
 g:Gr b h0 h
 le:(h0:List MO).length≤m
 ne:m≠b.tab∧m≠b.r∧m≠b.i
 z:m≠0
 e:(h:List MO)[m]?=some o
section
variable {l:L}{T:List D}{a:X}{o1 o2:Option Nat}{f:Nat→Option Mb}{kk:List Nat}{mb:Mb}{v:D}{o:MO}{p q:Ob}{G:Prop}
theorem In.newo(x:In b n h):Ao b h (h:List MO).length o n (h++[o]:List MO):=⟨x.app,x.gapp,Nat.le_refl _,EB x.ht.lts,x.ht.pos,ak⟩
theorem Ao.call(s:Ao b h0 m o n h)(x:In b n' h')(g:Gr b h h'):Ao b h0 m o n' h':=⟨x,s.g.trans g,s.le,s.ne,s.z,g.k.2 _ _ s.e s.ne.2.1 s.ne.2.2⟩
theorem Ao.set(s:Ao b h0 m o n h):Ao b h0 m o' n (h.set m o')∧b.T (h.set m o')=b.T h:=⟨⟨s.x.set s.ne,s.x.gset s.ne s.g s.le,s.le,s.ne,s.z,co s.e⟩,s.x.Tset s.ne⟩
theorem Cl.grow(p:T <+: T')(x:Cl T o1 d):Cl T' o1 d:=by
 cases o1 with
 | none=>exact x
 | some S=>exact x.imp fun t z=>⟨z.1,z.2.grow p⟩
theorem Dd.grow(p:T <+: T')(x:Dd tn T f kk g):Dd tn T' f kk g:=⟨x.nd,x.mem,fun k m e=>⟨(x.pm k m e).1,(x.pm k m e).2.grow p⟩⟩
theorem Dr.cong{R:Nat→Mb→D→Prop}{f':Nat→Option Mb}(x:Dr R f kk g)(e:∀ i,f i=f' i):Dr R f' kk g:=funext e▸x
theorem Dr.get{R:Nat→Mb→D→Prop}(x:Dr R f kk g)(h:k∈kk)(Q:∀ m,f k=some m→k < 3→R k m (g k)→G):G:=by
 cases e:f k with
 | none=>exact nomatch ((x.mem k).mp h).symm.trans (congrArg Option.isSome e)
 | some m=>exact Q m e (x.pm k m e).1 (x.pm k m e).2
theorem Dr.lt{R:Nat→Mb→D→Prop}(x:Dr R f kk g):∀ k∈kk,k < 3:=fun k h=>x.get h fun uu uu1 a uu2=>a
theorem Mr.row(x:Mr tn T k mb v):∃ r,v=.tup (.str (nm k)::r):=by obtain ⟨t,fl,e,_⟩:=x;exact ⟨_,e⟩
theorem Dd.row(x:Dd tn T f kk g):∀ k∈kk,∃ r,g k=.tup (.str (nm k)::r):=fun k h=>x.get h fun uu uu1 uu2 z=>z.row
theorem Dr.ord{R:Nat→Mb→D→Prop}(x:Dr R f kk g):Internal.ord kk=fU f:=List.filter_congr fun k uu=>by
 rw [Bool.eq_iff_iff,decide_eq_true_eq];exact x.mem k
theorem Bz(h:∀ k m,f k=some m→k < 3)(e:(f k).isSome=true):k∈fU f:=by
 refine List.mem_filter.mpr ⟨?_,e⟩
 obtain ⟨m,z⟩:=Option.isSome_iff_exists.mp e
 exact (by decide:∀ k < 3,k∈[2,0,1]) k (h k m z)
theorem Dr.ks{R:Nat→Mb→D→Prop}(x:Dr R f kk g):Dr R f (fU f) g:=⟨List.Nodup.sublist List.filter_sublist (by decide),fun k=>⟨fun h=>(List.mem_filter.mp h).2,Bz fun k m e=>(x.pm k m e).1⟩,x.pm⟩
theorem Rw.grow(p:T <+: T'){o:Ob}(x:Rw tn T o d):Rw tn T' o d:=by
 obtain ⟨g,cs,cd,e,a,b,c⟩:=x
 exact ⟨g,cs,cd,e,a.grow p,b.grow p,c.grow p⟩
theorem cU{t:XT}{a e:X}{h1:H}{r:Option (D×H)}(ht:t c l h=some (true,h1))(hr:a c l h1=r):bz t a e c l h=r:=eQ ht hr
theorem cq{t:XT}{a e:X}{h1:H}{r:Option (D×H)}(ht:t c l h=some (false,h1))(hr:e c l h1=r):bz t a e c l h=r:=eQ ht hr
theorem dX{d e:D}{x y:X}{v:Bool}(hx:x c l h=some (d,h))(hy:y c l h=some (e,h))(hv:pR d e=some v):xt (ac .Eq x y) c l h=some (v,h):=av (aF hx hy hv)
theorem jw(x:In b (n+7) h)(p1:Cl (b.T h) o1 d1)(p2:Cl (b.T h) o2 d2)(Q:∀ h' d,ab P (m+9) 475 [.ref b.tab,d1,d2] h=some (d,h')→In b n h'→Gr b h h'→Cl (b.T h') (fx o1 o2) d→G):G:=by
 have x':=x.le (cg n 7)
 cases o1 with
 | none=>
  cases p1
  cases o2 with
  | none=>cases p2;exact Q h (.tup []) (ah (Ct P) rfl ⟨_,rfl⟩) x' .refl rfl
  | some R=>obtain ⟨t,rfl,y⟩:=p2;exact Q h (.tup _) (ah (Ct P) rfl ⟨_,rfl⟩) x' .refl (.some y)
 | some S=>
  obtain ⟨s,rfl,y⟩:=p1
  cases o2 with
  | none=>cases p2;exact Q h (.tup _) (ah (Ct P) rfl ⟨_,rfl⟩) x' .refl (.some y)
  | some R=>
   obtain ⟨t,rfl,z⟩:=p2
   exact n9 (P:=P) (m:=m) x y z fun h' r e x2 g z2=>Q h' _ (ah (Ct P) rfl (ai (cw (dX (v_ rfl) rfl rfl) (dX (v_ rfl) rfl rfl)) rfl (aj (bZ (dJ (az (v_ rfl) (bZ (dJ (ar (v_ rfl) k_ aq) (ar (v_ rfl) k_ aq)) rfl) e) (ar (ar (v_ rfl) k_ bj) (ar (v_ rfl) k_ bj) rfl)) rfl)))) x2 g (.some z2)
theorem Dr.ins{R:Nat→Mb→D→Prop}(x:Dr R f kk g)(hk:k < 3)(hv:R k mb v):Dr R (fun i=>if i=k then some mb else f i) (Internal.ins kk k) (lq g k v):=by
 refine ⟨io x.nd,fun i=>?_,fun i m' e=>?_⟩
 ·rw [fw]
  by_cases q:i=k
  ·rw [if_pos q];exact ⟨fun uu=>rfl,fun uu=>.inr q⟩
  ·rw [if_neg q];exact (or_iff_left q).trans (x.mem i)
 ·by_cases q:i=k
  ·rw [if_pos q] at e
   cases e
   subst q
   exact ⟨hk,by show R i mb (if i=i then v else g i);rw [if_pos rfl];exact hv⟩
  ·rw [if_neg q] at e
   exact ⟨(x.pm i m' e).1,by show R i m' (if i=k then v else g i);rw [if_neg q];exact (x.pm i m' e).2⟩
theorem Dr.mmc{R:Nat→Mb→D→Prop}{q:Nat→Option Mb}(d3:Dr R (fun i=>if i∈js then mm (fun i=>if i=k then some (match f k with|some x=>both x m2|none=>m2) else f i) q i else if i=k then some (match f k with|some x=>both x m2|none=>m2) else f i) kk g)(nd:k∉js)(e2:q k=some m2):Dr R (fun i=>if i∈k::js then mm f q i else f i) kk g:=by
 refine d3.cong fun i=>?_
 by_cases z:i=k
 ·cases z
  rw [if_neg nd,if_pos rfl,if_pos aw]
  unfold mm
  rw [e2]
  cases f k<;>rfl
 ·by_cases w:i∈js
  ·rw [if_pos w,if_pos (aE _ w)]
   unfold mm
   dsimp only
   rw [if_neg z]
  ·rw [if_neg w,if_neg z,if_neg fun y=>(bo y).elim z w]
theorem yN{m0:L}(s:Ao b h0 m (.dct (dM kk g)) (n+10) h)(dd:Dd tn (b.T h) f kk g)(hk:k < 3)(p2:Mr tn (b.T h) k m2 v)(z0:m0 0=some (.ref b.tab))(z3:m0 3=some (.ref m))(z4:m0 4=none)(z5:m0 5=none)(q:Le m0 l)
  (Q:∀ l' h' kk' g',sq (ae 5 (xi (xv 4) (ki 0))) (sq (bB (bz (xt (ac .In (xv 5) (xv 3))) (xf 468 [(xv 0),(xi (xv 3) (xv 5)),(xv 4)]) (xv 4)) (xv 3) (xv 5)) aa) (ab P (n'+10)) (upd l 4 v) h=some (.next,l',h')→Ao b h0 m (.dct (dM kk' g')) n h'→b.T h <+: b.T h'→Dd tn (b.T h') (fun i=>if i=k then some (match f k with|some x=>both x m2|none=>m2) else f i) kk' g'→Le m0 l'→G):G:=by
 obtain ⟨r,er⟩:=p2.row
 have q5:=(q.upd (i:=4) (z:=v) z4).upd (i:=5) (z:=.str (nm k)) z5
 have s1:=aA (c:=ab P (n'+10)) (i:=5) (ar (f:=item) (v_ (l:=upd l 4 v) (i:=4) rfl) (k_ (h:=h) (d:=.int 0)) (er▸aq))
 have k4:k < 4:=Nat.lt_succ_of_lt hk
 have tin:=av (aF (c:=ab P (n'+10)) (l:=upd (upd l 4 v) 5 (.str (nm k))) (v_ (i:=5) rfl) (w_ q5 z3) (EP s.e k4 (uC dd.lt)))
 by_cases hm:k∈kk
 ·rw [decide_eq_true hm] at tin
  refine dd.get hm fun m1 e1 uu pm1=>?_
  rw [e1] at Q
  refine qI (P:=P) (m:=n') s.x pm1 p2 fun h2 d2 e x2 g2 pm=>?_
  obtain ⟨s3,t3⟩:=(s.call x2 g2).set (o':=.dct (dM (Internal.ins kk k) (lq g k d2)))
  exact Q _ _ _ _ (bg s1 (bg (eW (cU tin (ck (w_ q5 z0) (ar (f:=item) (w_ q5 z3) (v_ (i:=5) rfl) (pg s.e k4 (uC dd.lt) hm)) (v_ rfl) e)) (w_ q5 z3) (v_ rfl) (jR s.z (s.call x2 g2).e k4 (uC dd.lt) dd.nd)) rfl)) s3 (t3▸g2.p) (t3▸(dd.grow g2.p).ins hk pm) q5
 ·rw [decide_eq_false hm] at tin
  have e1:f k=none:=by
   cases z:f k with
   | none=>rfl
   | some m=>exact absurd ((dd.mem k).mpr (by rw [z];rfl)) hm
  rw [e1] at Q
  obtain ⟨s3,t3⟩:=(s.call (s.x.le (cg n 10)) .refl).set (o':=.dct (dM (Internal.ins kk k) (lq g k v)))
  exact Q _ _ _ _ (bg s1 (bg (eW (cq tin (v_ rfl)) (w_ q5 z3) (v_ rfl) (jR s.z s.e k4 (uC dd.lt) dd.nd)) rfl)) s3 (t3▸aJ _) (t3▸dd.ins hk p2) q5
theorem yO{m0:L}{chk:H→Bool}{g2:Nat→D}(hc:∀ h,chk h=true)(s:Ao b h0 m (.dct (dM kk g)) (n+10 * js.length) h)(dd:Dd tn (b.T h) f kk g)(nd:js.Nodup)(p2:∀ k∈js,∃ m2,q.m k=some m2∧k < 3∧Mr tn (b.T h) k m2 (g2 k))(z0:m0 0=some (.ref b.tab))(z3:m0 3=some (.ref m))(z4:m0 4=none)(z5:m0 5=none)(e:Le m0 l)
  (Q:∀ l' h' kk' g',bC chk 4 (sq (ae 5 (xi (xv 4) (ki 0))) (sq (bB (bz (xt (ac .In (xv 5) (xv 3))) (xf 468 [(xv 0),(xi (xv 3) (xv 5)),(xv 4)]) (xv 4)) (xv 3) (xv 5)) aa)) (ab P (n'+10)) (js.map g2) l h=some (.next,l',h')→Ao b h0 m (.dct (dM kk' g')) n h'→b.T h <+: b.T h'→Dd tn (b.T h') (fun i=>if i∈js then mm f q.m i else f i) kk' g'→Le m0 l'→G):G:=by
 induction js generalizing l h kk g f with
 | nil=>exact Q l h kk g (aR (hc _)) s (aJ _) dd e
 | cons k js ih=>
  obtain ⟨m2,e2,hk,pm⟩:=p2 k aw
  rw [List.nodup_cons] at nd
  refine yN (P:=P) (n':=n') (n:=n+10 * js.length) s dd hk pm z0 z3 z4 z5 e fun l1 h1 k1 g1 e1 s1 t1 d1 q1=>?_
  refine ih s1 d1 nd.2 (fun i z=>let ⟨m,a,b,c⟩:=p2 i (aE _ z);⟨m,a,b,c.grow t1⟩) q1 fun l2 h2 k2 g3 e3 s3 t3 d3 q3=>Q l2 h2 k2 g3 (aC (hc _) e1 e3) s3 (t1.trans t3) ?_ q3
  exact d3.mmc nd.1 e2
theorem Dr.mma{R:Nat→Mb→D→Prop}{q:Nat→Option Mb}(x:Dr R (fun i=>if i∈js then mm f q i else f i) kk g)(hj:∀ i,i∈js↔(q i).isSome=true):Dr R (mm f q) kk g:=x.cong fun i=>by
 by_cases z:i∈js
 ·rw [if_pos z]
 ·rw [if_neg z]
  unfold mm
  cases r:q i with
  | none=>cases f i<;>rfl
  | some m=>exact absurd ((hj i).mpr (congrArg Option.isSome r)) z
theorem mZ(x:In b (n+60) h)(p1:Rw tn (b.T h) p d1)(p2:Rw tn (b.T h) q d2)(Q:∀ h' d,ab P (n'+11) 480 [.ref b.tab,d1,d2] h=some (d,h')→In b n h'→Gr b h h'→Rw tn (b.T h') (kB p q) d→G):G:=by
 obtain ⟨g1,cs1,cd1,rfl,dd1,t1,f1⟩:=p1
 obtain ⟨g2,cs2,cd2,rfl,dd2,t2,f2⟩:=p2
 have l3:(fU q.m).length≤3:=List.length_filter_le _ [2,0,1]
 have s0:Ao b h (h:List MO).length (.dct (dM (fU p.m) g1)) (n+30+10 * (fU q.m).length) (h++[.dct (dM (fU p.m) g1)]:List MO):=(x.le (by omega)).newo
 have T0:b.T (h++[.dct (dM (fU p.m) g1)]:List MO)=b.T h:=x.ht.app.eq
 refine yO (P:=P) (n':=n') (tn:=tn) (q:=q) (m0:=upd (fun i=>[.ref b.tab,.tup [.int 8,.tup ((fU p.m).map g1),.tup [],.tup [],cs1,cd1,.int 0],.tup [.int 8,.tup ((fU q.m).map g2),.tup [],.tup [],cs2,cd2,.int 0]][i]?) 3 (.ref (h:List MO).length)) (chk:=still (.tup ((fU q.m).map g2)) ((fU q.m).map g2) 0) (g2:=g2) (js:=fU q.m) (fun uu=>an) s0 (T0▸dd1) dd2.nd (fun k hk=>dd2.get hk fun m a b c=>⟨m,a,b,T0▸c⟩) rfl rfl rfl rfl .refl fun l' h1 kk gg lp s1 p1 dd q1=>?_
 rw [T0] at p1
 have dd:Dd tn (b.T h1) (mm p.m q.m) kk gg:=dd.mma dd2.mem
 have srt:=qb (c:=ab P (n'+10)) (l:=l') (i:=8) (f:=3) s1.e dd.lt dd.nd (q1 3 _ rfl) (by decide)
 have xS:=s1.x.app (os:=[.lst (iS (ord kk))])
 have gS:=s1.g.trans (s1.x.gapp.trans (xS.gapp (os:=[.lst ((ord kk).map gg)])))
 have xS:=xS.app (os:=[.lst ((ord kk).map gg)])
 have TS:b.T (h1++[.lst (iS (ord kk))]++[.lst ((ord kk).map gg)]:List MO)=b.T h1:=s1.x.ht.app.app.eq
 refine jw (P:=P) (m:=n'+1) (n:=n+23) xS (t1.grow gS.p) (t2.grow gS.p) fun h2 c1 e2 x2 g2' y2=>?_
 refine jw (P:=P) (m:=n'+1) (n:=n+16) x2 (f1.grow (gS.p.trans g2'.p)) (f2.grow (gS.p.trans g2'.p)) fun h3 c2 e3 x3 g3 y3=>?_
 have v1:=q1 1 _ rfl
 have v2:=q1 2 _ rfl
 refine Q h3 _ (ah (JT P) rfl (aH (dD (v_ rfl) (oV (P:=P) (n:=n'+9) x.ht.pos dd1.lt dd1.nd dd1.row)) (ax (aO (ar (v_ rfl) k_ bj) rfl (by rw [List.length_map];omega) lp) (aH srt (aH (ck (v_ (q1 0 _ rfl)) (ar (v_ v1) k_ (aP (t:=4) rfl)) (ar (v_ v2) k_ (aP (t:=4) rfl)) e2) (aj (bZ (bV k_ (bV (v_ rfl) (bV (ar (ar (v_ v1) k_ bT) (ar (v_ v2) k_ bT) rfl) (bV (ar (ar (v_ v1) k_ fa) (ar (v_ v2) k_ fa) rfl) (dW (v_ rfl) (ck (v_ (q1 0 _ rfl)) (ar (v_ v1) k_ (aP (t:=5) rfl)) (ar (v_ v2) k_ (aP (t:=5) rfl)) e3) k_))))) rfl))))))) (x3.le (cg n 16)) (gS.trans (g2'.trans g3)) ⟨gg,c1,c2,?_,?_,y2.grow g3.p,y3⟩
 ·rw [dd.ord];rfl
 ·exact Dd.grow (g2'.p.trans g3.p) (TS▸dd.ks)
end
inductive Fu (b:Tb) (did t0:Nat) (h:H):Prop
 | mk (fs fe:List (Str×D)) (dl e:Nat) (L:List D):(h:List MO)[b.tab]?=some (.ins 140 fs)→bp (q "decls") fs=some (.ref dl)→(h:List MO)[dl]?=some (.lst L)→L[did]?=some (.ref e)→
  (h:List MO)[e]?=some (.ins 161 fe)→bp (q "body") fe=some (.int t0)→bp (q "bases") fe=some (.tup [])→(b.tab≠b.r∧b.tab≠b.i)→(dl≠b.r∧dl≠b.i)→(e≠b.r∧e≠b.i)→Fu b did t0 h
structure En(b:Tb)(u:Nat)(dd:Option (Nat×Nat))(h:H):Prop where
 hst:∃ fs,(h:List MO)[u]?=some (.ins 1008 fs)∧bp (q "tab") fs=some (.ref b.tab)∧bp (q "force") fs=none∧bp (q "shape") fs=none∧bp (q "bound") fs=none
 ne:u≠b.r∧u≠b.i
 dcl:∀ did t0,dd=some (did,t0)→Fu b did t0 h
inductive Pq (tn:Bool) (dd:Option (Nat×Nat)) (T:List D) (t:Nat) (o:Ob):Prop
 | obj (r:D):T[t]?=some r→Rw tn T o r→Pq tn dd T t o
 | ref (did t0:Nat) (r:D):dd=some (did,t0)→T[t]?=some (.tup [.int 9,.int did,.tup []])→T[t0]?=some r→Rw tn T o r→Pq tn dd T t o
inductive LP where
 | str|one (o:Ob)|met (o1 o2:Ob)
noncomputable def LP.ob:LP→Ob
 | .str=>⟨fun uu=>none,none,none⟩
 | .one o=>o
 | .met a b=>kB a b
def Pd(tn:Bool)(dd:Option (Nat×Nat))(T:List D)(t:Nat):LP→Prop
 | .str=>t=6
 | .one o=>Pq tn dd T t o
 | .met o1 o2=>∃ a e:Nat,T[t]?=some (.tup [.int 7,.tup [.int a,.int e]])∧Pq tn dd T a o1∧Pq tn dd T e o2
def Kk(T:List D)(t:Nat):Prop:=∃ (k:Int) (r:List D),T[t]?=some (.tup (.int k::r))∧k≠14∧k≠15
section
variable {l:L}{T:List D}{a x:X}{u:Nat}{G:Prop}
theorem En.keep(x:En b u dd h)(kp:dE b h hh):En b u dd hh:=by
 refine ⟨x.hst.imp fun fs z=>⟨kp.2 _ _ z.1 x.ne.1 x.ne.2,z.2⟩,x.ne,fun did t0 e=>?_⟩
 obtain ⟨fs,fe,dl,e,L,a1,a2,a3,a4,a5,a6,a7,n1,n2,n3⟩:=x.dcl did t0 e
 exact ⟨fs,fe,dl,e,L,kp.2 _ _ a1 n1.1 n1.2,a2,kp.2 _ _ a3 n2.1 n2.2,a4,kp.2 _ _ a5 n3.1 n3.2,a6,a7,n1,n2,n3⟩
theorem Pq.grow(p:T <+: T')(z:Pq tn dd T t o):Pq tn dd T' t o:=by
 cases z with
 | obj r e z=>exact .obj r (aU p e) (z.grow p)
 | ref did t0 r e1 e2 e3 z=>exact .ref did t0 r e1 (aU p e2) (aU p e3) (z.grow p)
theorem Pd.grow(p:T <+: T')(z:Pd tn dd T t lp):Pd tn dd T' t lp:=by
 cases lp with
 | str=>exact z
 | one=>exact Pq.grow p z
 | met=>exact z.imp fun a z=>z.imp fun e z=>⟨aU p z.1,z.2.1.grow p,z.2.2.grow p⟩
theorem dH(e:En b u dd h)(ha:a c l h=some (.ref u,h)):xa (q "tab") a c l h=some (.ref b.tab,h):=e.hst.elim fun fs z=>kQ ha (ox z.1 (by decide) z.2.1)
theorem kF(e:En b u dd h)(y:HT b h T)(ht:T[t]?=some d)(ha:a c l h=some (.ref u,h))(hk:x c l h=some (.int t,h)):xi (xa (q "rows") (xa (q "tab") a)) x c l h=some (d,h):=dY y ht (dH e ha) hk
theorem rZ{as:List X}{ds:List D}{r:Option (D×H)}(e:En b u dd h1)(ho:a c l h=some (.ref u,h1))(has:xs as c l h1=some (ds,h2))(hc:c 991 (.ref u::ds) h2=r):dT "shape" a as c l h=r:=e.hst.elim fun fs z=>xm ho z.1 z.2.2.2.1 (by decide) has hc
theorem zF(e:En b u dd h)(y:HT b h T)(z:Kk T t):ab P (n+1) 977 [.ref u,.int t] h=some (.int t,h):=by
 obtain ⟨k,r,e1,n1,n2⟩:=z
 exact ah (JC P) rfl (aH (kF e y e1 (v_ rfl) (v_ rfl)) (aj (cq ((cw (ao (ar (v_ rfl) k_ aq) k_) (ao (ar (v_ rfl) k_ aq) k_)).trans (by rw [beq_eq_false_iff_ne.mpr n1,beq_eq_false_iff_ne.mpr n2];rfl)) (v_ rfl))))
theorem uV(e:En b u dd h1)(e2:En b u dd h2)(y:HT b h2 T)(z:Kk T t)(ho:a (ab P (n+1)) l h=some (.ref u,h1))(hx:x (ab P (n+1)) l h1=some (.int t,h2)):dT "force" a [x] (ab P (n+1)) l h=some (.int t,h2):=e.hst.elim fun fs w=>xm ho w.1 w.2.2.1 (by decide) (aQ hx) (zF e2 y z)
theorem fh(e:En b u dd h1)(y:HT b h1 T)(z:Kk T t)(ho:a (ab P (n+1)) l h=some (.ref u,h1))(hx:x (ab P (n+1)) l h1=some (.int t,h1)):dT "force" a [x] (ab P (n+1)) l h=some (.int t,h1):=uV e e y z ho hx
theorem Ac(e:En b u dd h1)(ho:a (ab P (n+1)) l h=some (.ref u,h1))(hx:x (ab P (n+1)) l h1=some (d,h2)):dT "bound" a [x] (ab P (n+1)) l h=some (d,h2):=e.hst.elim fun fs z=>xm ho z.1 z.2.2.2.2 (by decide) (aQ hx) (ah (JP P) rfl (aj (v_ rfl)))
theorem IN:∀ w,∀ i < 9,bk w i≠14∧bk w i≠15:=by decide +kernel
theorem Ty.kk{w:Bool}{S:Nat}(k:Tok T)(y:Ty w T S t):Kk T t:=by
 obtain ⟨Y,_,u,m⟩:=y
 rcases u with ⟨_,rfl⟩|rfl|⟨_,e⟩
 ·exact ⟨1,_,k.at (j:=2) rfl,by decide,by decide⟩
 ·obtain ⟨i,_,bt⟩:=m.of t aw
  exact ⟨_,_,bt.2,IN w i bt.1⟩
 ·exact ⟨6,_,e,by decide,by decide⟩
theorem Br(t:Nat):decide ((t:Int) < 0)=false:=decide_eq_false (Int.not_lt.mpr (Int.natCast_nonneg t))
theorem vT{r:D}(y:HT b h T)(e:T[t]?=some r)(z:Rw tn T o r):ab P (n+1) 506 [.ref b.tab,.int t] h=some (.int t,h):=by
 obtain ⟨g,cs,cd,rfl,_⟩:=z
 exact ah (E0 P) rfl (uk ⟨_,aO (kQ k_ (bP (n:=40) (by decide))) rfl (by decide) (eH fK (bI (eK (v_ rfl) k_) (Br t) (bg (aA (dY y e (v_ rfl) (v_ rfl))) (ja (ao (ar (v_ rfl) k_ aq) k_) rfl (v_ rfl)))))⟩)
theorem j8{f:Str}{C:Nat}{fs:List (Str×D)}(ha:a c l h=some (.ref m,h))(hm:(h:List MO)[m]?=some (.ins C fs))(hf:gh C f=true)(hl:bp f fs=some d):xa f a c l h=some (d,h):=kQ ha (ox hm hf hl)
theorem vS{did t0:Nat}{r:D}(y:HT b h T)(dc:Fu b did t0 h)(e:T[t]?=some (.tup [.int 9,.int did,.tup []]))(e0:T[t0]?=some r)(z:Rw tn T o r):ab P (n+1) 506 [.ref b.tab,.int t] h=some (.int t0,h):=by
 obtain ⟨g,cs,cd,rfl,_⟩:=z
 obtain ⟨fs,fe,dl,e',Ld,a1,a2,a3,a4,a5,a6,a7,_⟩:=dc
 have row:∀ {l:L},l 0=some (.ref b.tab)→l 3=some (.tup [.int 9,.int did,.tup []])→xi (xa (q "decls") (xv 0)) (xi (xv 3) (ki 1)) (ab P n) l h=some (.ref e',h):=fun q0 q3=>ar (j8 (v_ q0) a1 (by decide) a2) (ar (v_ q3) k_ bj) (aX a3 a4)
 exact ah (E0 P) rfl (uk ⟨_,aO (kQ k_ (bP (n:=40) (by decide))) rfl (by decide) (aC fK (bI (eK (v_ rfl) k_) (Br t) (bg (aA (dY y e (v_ rfl) (v_ rfl))) (bI (ao (ar (v_ rfl) k_ aq) k_) rfl (bI (ao (ar (v_ rfl) k_ aq) k_) rfl (bI (av (aF (ar (v_ rfl) k_ aq) k_ rfl)) rfl
  (bI (cw (fV (ar (v_ rfl) k_ aq) k_) (cw (tW (ar (v_ rfl) k_ bT) rfl) (tW (j8 (row rfl rfl) a5 (by decide) a7) rfl))) rfl (bg (aA (j8 (row rfl rfl) a5 (by decide) a6)) rfl))))))) (eH fK (bI (eK (v_ rfl) k_) (Br t0) (bg (aA (dY y e0 (v_ rfl) (v_ rfl))) (ja (ao (ar (v_ rfl) k_ aq) k_) rfl (v_ rfl))))))⟩)
theorem vR(y:HT b h T)(tk:Tok T):ab P (n+1) 506 [.ref b.tab,.int 6] h=some (.int 11,h):=
 ah (E0 P) rfl (uk ⟨_,aO (kQ k_ (bP (n:=40) (by decide))) rfl (by decide) (eH fK (bI (eK (v_ rfl) k_) (by decide) (bg (aA (dY (t:=6) y (tk.at rfl) (v_ rfl) (v_ rfl))) (bI (ao (ar (v_ rfl) k_ aq) k_) rfl (bI (ao (ar (v_ rfl) k_ aq) k_) rfl (ja (av (aF (ar (v_ rfl) k_ aq) k_ rfl)) rfl k_))))))⟩)
theorem j0{s:D}{k:Int}{r:List D}(e:En b u dd h)(y:HT b h T)(e1:T[t]?=some (.tup (.int k::r)))(n7:(k==7)=false)(n11:(k==11 || k==12)=false)(pl:ab P (n+1) 506 [.ref b.tab,.int t] h=some (s,h)):ab P (n+3) 991 [.ref u,.int t] h=some (s,h):=
 ah (H6 P) rfl (aj (az (v_ rfl) (v_ rfl) (ah (H7 P) rfl (aH (kF e y e1 (v_ rfl) (v_ rfl)) (ai (ao (ar (v_ rfl) k_ aq) k_) n7 (ai (cw (ao (ar (v_ rfl) k_ aq) k_) (ao (ar (v_ rfl) k_ aq) k_)) n11 (aj (az (dH e (v_ rfl)) (v_ rfl) pl))))))))
theorem Rw.kind{r:D}(z:Rw tn T o r):∃ s,r=.tup (.int 8::s):=by obtain ⟨g,cs,cd,e,_⟩:=z;exact ⟨_,e⟩
theorem oP(e:En b u dd h)(y:HT b h T)(z:Pq tn dd T t o)(Q:∀ (s:Nat) (r:D),ab P (n+3) 991 [.ref u,.int t] h=some (.int s,h)→T[s]?=some r→Rw tn T o r→G):G:=by
 cases z with
 | obj r e1 z=>
  obtain ⟨s,rfl⟩:=z.kind
  exact Q t _ (j0 e y e1 rfl rfl (vT y e1 z)) e1 z
 | ref did t0 r e1 e2 e3 z=>exact Q t0 r (j0 e y e2 rfl rfl (vS y (e.dcl _ _ e1) e2 e3 z)) e3 z
theorem ya:Rw tn T LP.str.ob (.tup [.int 8,.tup [],.tup [],.tup [],.tup [],.tup [],.int 0]):=
 ⟨fun uu=>.none,.tup [],.tup [],rfl,⟨.nil,fun k=>⟨fun q=>(nomatch q),fun q=>(nomatch q)⟩,fun k m e=>nomatch e⟩,rfl,rfl⟩
theorem A4(e:En b u dd h)(y:HT b h T)(tk:Tok T):ab P (n+3) 991 [.ref u,.int 6] h=some (.int 11,h):=j0 (t:=6) e y (tk.at rfl) rfl rfl (vR y tk)
theorem gn{chk:H→Bool}{i:Nat}{tt:Option XT}{acc:List D}(hc:chk h=true):dw chk i tt x c [] l h acc=some (acc,h):=if_pos hc
theorem gj{chk:H→Bool}{i:Nat}{z:D}{r acc:List D}{res:Option (List D×H)}(hc:chk h=true)(hb:x c (upd l i z) h=some (d,h1))(hr:dw chk i none x c r l h1 (acc++[d])=res):dw chk i none x c (z::r) l h acc=res:=(if_pos hc).trans (dy (x:=true) (y:=h) rfl (dy hb hr))
theorem Cl.hk{o:Option Nat}(x:Cl T o d):D.hkn 5 d=true:=by
 cases o with
 | none=>cases x;rfl
 | some S=>obtain ⟨t,rfl,_⟩:=x;rfl
theorem Mr.hk{m:Mb}(x:Mr tn T k m d):D.hkn 4 d=true:=by obtain ⟨t,fl,rfl,_⟩:=x;rfl
theorem uQ{r:D}(z:Rw tn T o r):r.hk=true∧r.kd=3:=by
 obtain ⟨g,cs,cd,rfl,dd,c1,c2⟩:=z
 refine ⟨?_,rfl⟩
 have ps:((fU o.m).map g).all (D.hkn 4)=true:=List.all_eq_true.mpr fun p hp=>by
  obtain ⟨k,hk,rfl⟩:=bR hp
  exact dd.get hk fun uu uu1 uu2 z=>z.hk
 show (true && (((fU o.m).map g).all (D.hkn 4) && (true && (true && (D.hkn 5 cs && (D.hkn 5 cd && (true && true)))))))=true
 rw [ps,c1.hk,c2.hk];rfl
theorem rW{z1 z2:D}(hm:(h:List MO)[m]?=some (.lst [z1,z2])):aT (.ref m) (.int 1) .none h=some (.ref (h:List MO).length,(h++[.lst [z2]]:List MO)):=by
 unfold aT
 dsimp only
 rw [hm]
 rfl
theorem ng{a1 a2:Nat}(e:En b u dd h)(x:In b (n+61) h)(z1:Pq tn dd (b.T h) a1 o1)(z2:Pq tn dd (b.T h) a2 o2)(Q:∀ h' (s:Nat) (r:D),ab P (m+12) 485 [.ref u,.tup [.int a1,.int a2]] h=some (.int s,h')→In b n h'→Gr b h h'→(b.T h')[s]?=some r→Rw tn (b.T h') (kB o1 o2) r→G):G:=by
 refine oP (P:=P) (n:=m+8) e x.ht z1 fun s1 r1 c1 g1 w1=>oP (P:=P) (n:=m+8) e x.ht z2 fun s2 r2 c2 g2 w2=>?_
 have el:∀ {s t:Nat} {r:D} {l:L},l 0=some (.ref u)→l 5=some (.int t)→ab P (m+11) 991 [.ref u,.int t] h=some (.int s,h)→(b.T h)[s]?=some r→xi (xa (q "rows") (xa (q "tab") (xv 0))) (dT "shape" (xv 0) [(xv 5)]) (ab P (m+11)) l h=some (r,h):=fun q0 q5 cc gg=>kF e x.ht gg (v_ q0) (rZ e (v_ q0) (aQ (v_ q5)) cc)
 have cm:=fF (i:=5) (it:=xv 1) (c:=ab P (m+11)) (l:=fun i=>[.ref u,.tup [.int a1,.int a2]][i]?) (ds:=[.int a1,.int a2]) (v_ rfl) rfl (f0 rfl) (gj an (el rfl rfl c1 g1) (gj an (el rfl rfl c2 g2) (gn an)))
 have gA:(h++[.lst [r1,r2]]:List MO)[(h:List MO).length]?=some (.lst [r1,r2]):=ak
 have TT:b.T (h++[.lst [r1,r2]]++[.lst [r2]]:List MO)=b.T h:=x.ht.app.app.eq
 have s0:=x.app (os:=[.lst [r1,r2]]) |>.newo (o:=.lst [r2])
 have e0:=(e.keep x.gapp.k).keep s0.g.k
 have g0:=x.gapp.trans s0.g
 refine mZ (P:=P) (n:=n+1) (n':=m) s0.x (TT▸w1) (TT▸w2) fun h2 d e2 x2 g2 z=>?_
 have e3:=e0.keep g2.k
 have s2:=s0.call x2 g2
 exact gN (P:=P) (m:=m+10) x2 (uQ z).1 (uQ z).2 fun h3 s e4 x4 g4 ge=>Q h3 s d (ah (JS P) rfl (aH cm (aH (ar (v_ rfl) k_ (aX (t:=0) gA rfl)) (ax (aO (ds:=[r2]) (CS (v_ rfl) k_ k_ (rW gA)) (aK s0.e) Aq (aC (bE (aK s0.e) rfl) (bg (aA (ck (dH e0 (v_ rfl)) (v_ rfl) (v_ rfl) e2)) rfl) (aR (bE (aK s2.e) ((di s2.e).trans (di s0.e).symm))))) (aj (sE x2.ht (dH e3 (v_ rfl)) (v_ rfl) e4)))))) x4 (g0.trans (g2.trans g4)) ge (z.grow g4.p)
theorem jq(e:En b u dd h)(x:In b (n+61) h)(z:Pd tn dd (b.T h) t lp)(Q:∀ h' (s:Nat) (r:D),ab P (m+14) 991 [.ref u,.int t] h=some (.int s,h')→In b n h'→Gr b h h'→(b.T h')[s]?=some r→Rw tn (b.T h') lp.ob r→G):G:=by
 cases lp with
 | str=>cases z;exact Q h 11 _ (A4 e x.ht x.tok) (x.le (cg n 61)) .refl (x.tok.at rfl) ya
 | one=>exact oP (P:=P) (n:=m+11) e x.ht z fun s r c g w=>Q h s r c (x.le (cg n 61)) .refl g w
 | met o1 o2=>
  obtain ⟨a,c,e1,z1,z2⟩:=z
  exact ng (P:=P) (m:=m) e x z1 z2 fun h' s r e' x' g'=>Q h' s r (ah (H6 P) rfl (aj (az (v_ rfl) (v_ rfl) (ah (H7 P) rfl (aH (kF e x.ht e1 (v_ rfl) (v_ rfl)) (aL (ao (ar (v_ rfl) k_ aq) k_) rfl (az (v_ rfl) (ar (v_ rfl) k_ bj) e'))))))) x' g'
end
def jc(T:List D)(o:Option Nat)(d:D):Prop:=match o with
 | none=>d=.int (-1)
 | some S=>∃ t:Nat,d=.int t∧Ty false T S t
def rQ(tn:Bool)(T:List D)(k:Nat)(o:Option Mb)(d:D):Prop:=match o with
 | none=>d=.none
 | some m=>Mr tn T k m d
noncomputable def As(o:Ob)(k:Nat):Option Nat:=if k=2∧o.dg.isSome=true then o.dg else o.tx
noncomputable def bS(o:Ob)(k:Nat):Option Nat:=match o.m k with
 | some m=>some (Bk m)
 | none=>As o k
theorem iE{k:Nat}(hk:k < 4){M:Nat→Prop}(a0:M 0)(a1:M 1)(a2:M 2)(a3:M 3):M k:=by
 have:k=0∨k=1∨k=2∨k=3:=by omega
 rcases this with rfl|rfl|rfl|rfl<;>assumption
theorem C4:∀ k,k < 4→jn (nm k) (q "0")=false∧(!jn (q "9") (nm k))=decide (k=2):=by decide +kernel
theorem qG:∀ k,k < 4→pR (.str (nm k)) (.str (q "NaN"))=some false∧pR (.str (nm k)) (.str (q "-"))=some false∧pR (.str (nm k)) (.str (q "-0"))=some false∧pR (.str (nm k)) (.str (q "Infinity"))=some false∧pR (.str (nm k)) (.str (q ""))=some false∧pR (.str (nm k)) (.str (q "0"))=some (decide (k=2)):=by decide +kernel
section
variable {l:L}{T:List D}{e1:D}{a x y e:X}{u:Nat}{v:Bool}{mb:Mb}{G:Prop}{ks:List Nat}
theorem jc.grow(p:T <+: T')(x:jc T oo d):jc T' oo d:=by
 cases oo with
 | none=>exact x
 | some S=>exact x.imp fun t z=>⟨z.1,z.2.grow p⟩
theorem rQ.grow{om:Option Mb}(p:T <+: T')(x:rQ tn T k om d):rQ tn T' k om d:=by
 cases om with
 | none=>exact x
 | some S=>exact Mr.grow p x
theorem ju(hk:k < 4):bH (.str (nm k)) h=some [.str (nm k)]:=iE (M:=fun k=>bH (.str (nm k)) h=some [.str (nm k)]) hk rfl rfl rfl rfl
theorem Bu(hk:k < 4):item (.str (nm k)) (.int 0) h=some (.str (nm k),h):=iE (M:=fun k=>item (.str (nm k)) (.int 0) h=some (.str (nm k),h)) hk rfl rfl rfl rfl
theorem Ex(hk:k < 4):aT (.str (nm k)) (.int 0) (.int 1) h=some (.str (nm k),h):=iE (M:=fun k=>aT (.str (nm k)) (.int 0) (.int 1) h=some (.str (nm k),h)) hk rfl rfl rfl rfl
theorem Cr(hx:x c l h=some (d,h))(hy:y c l h=some (e1,h))(hv:pR d e1=some v):ac .Eq x y c l h=some (.bool v,h):=aF hx hy hv
theorem EA(hx:x c l h=some (d,h))(hy:y c l h=some (e1,h))(hv:pR d e1=some v):ac .NotEq x y c l h=some (.bool (!v),h):=aF hx hy (congrArg (Option.map (!·)) hv)
theorem ly(hx:x c l h=some (d,h))(hy:y c l h=some (e1,h))(hv:pR d e1=some v):xt (ac .NotEq x y) c l h=some (!v,h):=av (EA hx hy hv)
theorem Av{o u:CmpOp}(ha:a c l h=some (d,h))(hb:x c l h=some (d1,h))(h1:eF o d d1 h=some true)(he:e c l h=some (d2,h))(h2:eF u d1 d2 h=some v):iH o u a x e c l h=some (.bool v,h):=dy ha (dy hb (by rw [h1];exact dy he (by rw [h2];rfl)))
theorem IS(e:(h:List MO)[m]?=some (.lst [.bool v])):bi .all [.ref m] h=some (.bool v,h):=by
 show onL (h:List MO)[m]? _=_
 rw [e]
 exact congrArg (fun v=>some (D.bool v,h)) (Bool.and_true v)
theorem Kc:∀ v:Bool,(v || ((!false) && ((!v) && v)))=v:=by decide
theorem ph(hk:k < 4):ab P (n+1) 720 [.str (nm k)] h=some (.bool (decide (k=2)),(h++[.lst [.bool (decide (k=2))]]:List MO)):=by
 obtain ⟨f1,f2⟩:=C4 k hk
 obtain ⟨_,_,_,_,n5,n6⟩:=qG k hk
 have cm:=fF (i:=2) (it:=xv 0) (e:=iH .LtE .LtE (xk (.str (q "0"))) (xv 2) (xk (.str (q "9")))) (c:=ab P n) (l:=fun i=>[D.str (nm k)][i]?) (ds:=[.str (nm k)]) (v_ rfl) (ju (h:=h) hk) Aq (gj (bE (ju hk) rfl) (Av k_ (v_ rfl) (congrArg (fun v=>some (!v)) f1) k_ (congrArg some f2)) (gn (bE (ju hk) rfl)))
 exact ah (JO P) rfl (aH (bZ (aQ cm) (IS ak)) (aj ((lh (Cr (v_ rfl) k_ n6) (lj (EA (v_ rfl) k_ n5) (lj (EA (ar (v_ rfl) k_ (Bu hk)) k_ n6) (v_ rfl)))).trans (congrArg (fun v=>some (D.bool v,_)) (Kc _)))))
theorem Fw(ha:a c l h=some (.bool v,h1))(hb:v=false→x c l h1=some (.bool v,h1)):tX a x c l h=some (.bool v,h1):=dy ha (by
 cases v
 ·exact hb rfl
 ·rfl)
theorem wy(hk:k < 4):ab P (n+2) 734 [.str (nm k)] h=some (.bool (decide (k=2)),(h++[.lst [.bool (decide (k=2))]]:List MO)):=by
 obtain ⟨n1,n2,n3,n4,n5,n6⟩:=qG k hk
 have dg:=dD (a:=xv 0) (l:=fun i=>[D.str (nm k)][i]?) (v_ (i:=0) rfl) (ph (P:=P) (n:=n) (h:=h) hk)
 exact ah (JN P) rfl (ai (dX (v_ rfl) k_ n1) rfl (ai (fG (dX (CS (v_ rfl) k_ k_ (Ex hk)) k_ n2)) rfl (aj (Fw dg fun e=>e▸Cr (v_ rfl) k_ n4))))
theorem wD{chk:H→Bool}(hc:chk h=true)(hk:k < 4)(hg:∀ j∈ks,j < 4∧∃ r,g j=.tup (.str (nm j)::r))(q1:l 1=some (.str (nm k)))
  (Q:∀ l',(k∈ks→bC chk 2 (sq (ay (xt (ac .Eq (xi (xv 2) (ki 0)) (xv 1))) (sq (af (xv 2)) aa) aa) aa) (ab P n) (ks.map g) l h=some (.ret (g k),l',h))→(k∉ks→bC chk 2 (sq (ay (xt (ac .Eq (xi (xv 2) (ki 0)) (xv 1))) (sq (af (xv 2)) aa) aa) aa) (ab P n) (ks.map g) l h=some (.next,l',h))→G):G:=by
 induction ks generalizing l with
 | nil=>exact Q l (fun q=>(nomatch q)) fun uu=>aR hc
 | cons j ks ih=>
  obtain ⟨j4,r,er⟩:=hg j aw
  have tst:=dX (c:=ab P n) (l:=upd l 2 (g j)) (d:=.str (nm j)) (ar (f:=item) (v_ (i:=2) (d:=g j) rfl) (k_ (h:=h)) (er▸aq)) (v_ (i:=1) q1) (congrArg some (oZ j j4 k hk))
  by_cases e:j=k
  ·rw [decide_eq_true e] at tst
   exact Q (upd l 2 (g j)) (fun uu=>(eH hc (ja tst rfl (v_ rfl))).trans (by rw [e])) fun z=>absurd (e▸aw) z
  ·rw [decide_eq_false e] at tst
   exact ih (l:=upd l 2 (g j)) (fun i hi=>hg i (aE _ hi)) q1 fun l' a b=>Q l' (fun z=>aC hc (bI tst rfl rfl) (a ((bo z).resolve_left fun w=>e w.symm))) fun z=>aC hc (bI tst rfl rfl) (b fun w=>z (aE _ w))
theorem pH{r:D}(z:Rw tn T o r)(hk:k < 4)(Q:∀ d,ab P (n+1) 715 [r,.str (nm k)] h=some (d,h)→rQ tn T k (o.m k) d→G):G:=by
 obtain ⟨g,cs,cd,rfl,dd,_⟩:=z
 have hl:(fU o.m).length≤3:=List.length_filter_le _ [2,0,1]
 refine wD (P:=P) (n:=n) (h:=h) (g:=g) (ks:=fU o.m) (chk:=still (.tup ((fU o.m).map g)) ((fU o.m).map g) 0) (l:=fun i=>[D.tup [.int 8,.tup ((fU o.m).map g),.tup [],.tup [],cs,cd,.int 0],.str (nm k)][i]?) an hk (fun j hj=>⟨uC dd.lt j hj,dd.row j hj⟩) rfl fun l' a b=>?_
 by_cases hm:k∈fU o.m
 ·exact dd.get hm fun m e uu pm=>Q (g k) (ah (Ij P) rfl (uk ⟨_,aO (ar (v_ rfl) k_ bj) rfl (by rw [List.length_map];omega) (a hm)⟩)) (e▸pm)
 ·have e:o.m k=none:=by
   cases q:o.m k with
   | none=>rfl
   | some m=>exact absurd ((dd.mem k).mpr (congrArg Option.isSome q)) hm
  exact Q .none (ah (Ij P) rfl (ax (aO (ar (v_ rfl) k_ bj) rfl (by rw [List.length_map];omega) (b hm)) (aj k_))) (by rw [e];exact rfl)
theorem Pd.kind(z:Pd tn dd T t lp)(tk:Tok T)(Q:∀ (kd:Int) (r:List D),T[t]?=some (.tup (.int kd::r))→(kd=1∨kd=7∨kd=8∨kd=9)→(∀ j,j=0∨j=1∨j=2∨j=3∨j=4∨j=5∨j=13→t≠j)→G):G:=by
 have no:∀ {kd:Int} {r:List D},T[t]?=some (.tup (.int kd::r))→kd=7∨kd=8∨kd=9→∀ j,j=0∨j=1∨j=2∨j=3∨j=4∨j=5∨j=13→t≠j:=fun {kd r} e hk j hj q=>by
  subst q
  have key:∀ {s:Str},bJ[t]?=some (.tup [.int 1,.str s])→False:=fun ej=>by
   rw [tk.at ej] at e
   injection e with e;injection e with e;injection e with e _;injection e with e
   omega
  rcases hj with rfl|rfl|rfl|rfl|rfl|rfl|rfl<;>exact key rfl
 cases lp with
 | str=>cases z;exact Q 1 _ (tk.at (j:=6) rfl) (.inl rfl) (fun j hj e=>by omega)
 | one o=>
  cases z with
  | obj r e z=>obtain ⟨s,rfl⟩:=z.kind;exact Q 8 _ e (.inr (.inr (.inl rfl))) (no e (.inr (.inl rfl)))
  | ref did t0 r e1 e2 e3 z=>exact Q 9 _ e2 (.inr (.inr (.inr rfl))) (no e2 (.inr (.inr rfl)))
 | met=>obtain ⟨a,c,e,_⟩:=z;exact Q 7 _ e (.inr (.inl rfl)) (no e (.inl rfl))
theorem Pd.kk(z:Pd tn dd T t lp)(tk:Tok T):Kk T t:=z.kind tk fun kd r e hk uu=>⟨kd,r,e,by omega,by omega⟩
theorem uM:∀ {kd:Int},kd=1∨kd=7∨kd=8∨kd=9→(kd==11 || kd==12)=false:=fun h=>by rcases h with rfl|rfl|rfl|rfl<;>rfl
theorem sL{kd:Int}{r:List D}{i:Nat}(q3:l i=some (.tup (.int kd::r)))(hk:kd=1∨kd=7∨kd=8∨kd=9):dn (xt (ac .Eq (xi (xv i) (ki 0)) (ki 11))) (xt (ac .Eq (xi (xv i) (ki 0)) (ki 12))) c l h=some (false,h):=
 (cw (ao (ar (v_ q3) k_ aq) k_) (ao (ar (v_ q3) k_ aq) k_)).trans (congrArg (fun v=>some (v,h)) (uM hk))
theorem xE{s:Nat}{r:D}(e:En b u dd h)(y:HT b h T)(y2:HT b h2 T')(g:T'[s]?=some r)(ha:a (ab P n) l h=some (.ref u,h))(hx:x (ab P n) l h=some (.int t,h))(hc:ab P n 991 [.ref u,.int t] h=some (.int s,h2)):
  xi (xa (q "rows") (xa (q "tab") a)) (dT "shape" a [x]) (ab P n) l h=some (r,h2):=
 ar (qo y (dH e ha)) (rZ e ha (aQ hx) hc) (aX y2.r g)
theorem kA(e:En b u dd h)(x:In b (n+61) h)(z:Pd tn dd (b.T h) t lp)(hk:k < 4)(Q:∀ h' d,ab P (m+15) 748 [.ref u,.int t,.str (nm k)] h=some (d,h')→In b n h'→Gr b h h'→rQ tn (b.T h') k (lp.ob.m k) d→G):G:=by
 refine jq (P:=P) (m:=m) e x z fun h2 s r c2 x2 g2 m6 m7=>?_
 refine pH (P:=P) (n:=m+13) (h:=h2) m7 hk fun p p1 p2=>?_
 refine z.kind x.tok fun kd rr e1 ek uu=>?_
 have e2:=e.keep g2.k
 refine Q h2 p (ah (JM P) rfl (aH (fh (P:=P) (n:=m+13) e x.ht (z.kk x.tok) (v_ rfl) (v_ rfl)) (aH (kF e x.ht e1 (v_ rfl) (v_ rfl)) (ax (zu (sL rfl ek) (bg (aA (az (xE e x.ht x2.ht m6 (v_ rfl) (v_ rfl) c2) (v_ rfl) p1)) rfl)) (aj ?_))))) x2 g2 p2
 cases hm:lp.ob.m k with
 | none=>
  rw [hm] at p2
  cases p2
  exact cU (av (aF (v_ rfl) k_ rfl)) k_
 | some mb=>
  rw [hm] at p2
  obtain ⟨tt,fl,rfl,ty,_⟩:=p2
  exact cq (av (aF (v_ rfl) k_ rfl)) (bZ (bV (v_ rfl) (dW (fh e2 x2.ht (ty.kk x2.tok) (v_ rfl) (ar (v_ rfl) k_ bj)) (ar (v_ rfl) k_ bT) (ar (v_ rfl) k_ fa))) rfl)
theorem oT(x:In b (n+1) h)(pm:Mr tn (b.T h) k mb d)(Q:∀ h' (t:Nat),ab P (m+6) 755 [.ref b.tab,d] h=some (.int t,h')→In b n h'→Gr b h h'→Ty false (b.T h') (Bk mb) t→G):G:=by
 obtain ⟨t,fl,rfl,ty,l1,o1,_⟩:=pm
 have b1:=yz (c:=ab P (m+5)) (l:=fun i=>[D.ref b.tab,kM tn k t fl mb.own][i]?) (h:=h) l1 (v_ (i:=1) rfl)
 rw [o1] at b1
 unfold Bk at Q
 cases hm:mb.opt with
 | false=>
  rw [hm] at b1 Q
  exact Q h t (ah (Ii P) rfl (aj (cq b1 (ar (v_ rfl) k_ bj)))) (x.le (Nat.le_succ n)) .refl (by show Ty false _ (lsum false (mb.ty ||| 0)) t;rw [Nat.or_zero,ty.lsum];exact ty)
 | true=>
  rw [hm] at b1 Q
  exact jI (P:=P) (m:=m) x ty fun h' t' e x' g y=>Q h' t' (ah (Ii P) rfl (aj (cU b1 (az (v_ rfl) (ar (v_ rfl) k_ bj) e)))) x' g y
theorem DQ{j i i0 S:Nat}{r cell:D}(e:En b u dd h)(y:HT b h T)(tk:Tok T)(cl:Cl T (some S) cell)(hi:item r (.int j) h=some (cell,h))(q:l i=some r)(q0:l i0=some (.ref u))(Q:∀ t:Nat,Ty false T S t→dT "force" (xv i0) [(xi (xi (xv i) (ki j)) (ki 0))] (ab P (n+1)) l h=some (.int t,h)→G):G:=by
 obtain ⟨t,rfl,ty⟩:=cl
 exact Q t ty (fh e y (ty.kk tk) (v_ q0) (ar (ar (v_ q) k_ hi) k_ aq))
theorem kH(cl:Cl T oo d):pR d (.tup [])=some (!oo.isSome):=by
 cases oo with
 | none=>cases cl;rfl
 | some S=>obtain ⟨t,rfl,_⟩:=cl;rfl
theorem nE(e:En b u dd h)(x:In b (n+61) h)(z:Pd tn dd (b.T h) t lp)(hk:k < 4)(Q:∀ h' d,ab P (m+15) 774 [.ref u,.int t,.str (nm k)] h=some (d,h')→In b n h'→Gr b h h'→jc (b.T h') (As lp.ob k) d→G):G:=by
 refine jq (P:=P) (m:=m) e x z fun h2 s r c2 x2 g2 m6 m7=>?_
 refine z.kind x.tok fun kd rr e1 ek uu=>?_
 obtain ⟨g,cs,cd,rfl,_,k1,k2⟩:=m7
 have pre:∀ {d:D} {h3:H},hU (sq (ay (bM (xt (xf 734 [(xv 2)])) (xt (ac .NotEq (xi (xv 4) (ki 5)) (am [])))) (sq (af (dT "force" (xv 0) [(xi (xi (xv 4) (ki 5)) (ki 0))])) aa) aa) (sq (af (bz (xt (ac .Eq (xi (xv 4) (ki 4)) (am []))) (bW (ki 1)) (dT "force" (xv 0) [(xi (xi (xv 4) (ki 4)) (ki 0))]))) aa)) (ab P (m+14)) (upd (upd (fun i=>[D.ref u,.int t,.str (nm k)][i]?) 3 (.tup (.int kd::rr))) 4 (.tup [.int 8,.tup ((fU lp.ob.m).map g),.tup [],.tup [],cs,cd,.int 0])) h2 d h3→ab P (m+15) 774 [.ref u,.int t,.str (nm k)] h=some (d,h3):=fun hr=>
  ah (JL P) rfl (aH (kF e x.ht e1 (v_ rfl) (v_ rfl)) (ai (sL rfl ek) rfl (aH (xE e x.ht x2.ht m6 (v_ rfl) (v_ rfl) c2) hr)))
 have x3:=x2.app (os:=[.lst [.bool (decide (k=2))]])
 have g3:=g2.trans (x2.gapp (os:=[.lst [.bool (decide (k=2))]]))
 have y3:=x2.ht.app (os:=[.lst [.bool (decide (k=2))]])
 have T3:b.T (h2++[.lst [.bool (decide (k=2))]]:List MO)=b.T h2:=y3.eq
 have e3:=e.keep g3.k
 have t1:=av (dD (c:=ab P (m+14)) (v_ (l:=upd (upd (fun i=>[D.ref u,.int t,.str (nm k)][i]?) 3 (.tup (.int kd::rr))) 4 (.tup [.int 8,.tup ((fU lp.ob.m).map g),.tup [],.tup [],cs,cd,.int 0])) (i:=2) rfl) (wy (P:=P) (n:=m+12) (h:=h2) hk))
 unfold As at Q
 have tst:bM (xt (xf 734 [(xv 2)])) (xt (ac .NotEq (xi (xv 4) (ki 5)) (am []))) (ab P (m+14)) (upd (upd (fun i=>[D.ref u,.int t,.str (nm k)][i]?) 3 (.tup (.int kd::rr))) 4 (.tup [.int 8,.tup ((fU lp.ob.m).map g),.tup [],.tup [],cs,cd,.int 0])) h2=some (decide (k=2∧lp.ob.dg.isSome=true),(h2++[.lst [.bool (decide (k=2))]]:List MO)):=by
  by_cases q:k=2
  ·rw [decide_eq_true q] at t1 ⊢
   refine iJ t1 ((ly (ar (f:=item) (v_ rfl) k_ (aP (t:=5) rfl)) rfl (kH k2)).trans (congrArg (fun v=>some (v,_)) ?_))
   rw [Bool.not_not,Bool.eq_iff_iff,decide_eq_true_eq];exact (and_iff_right q).symm
  ·rw [decide_eq_false fun z=>q z.1]
   rw [decide_eq_false q] at t1 ⊢;exact fG t1
 by_cases q:k=2∧lp.ob.dg.isSome=true
 ·rw [decide_eq_true q] at tst
  rw [if_pos q] at Q
  cases eS:lp.ob.dg with
  | none=>rw [eS] at q;exact nomatch q.2
  | some S=>
   rw [eS] at k2 Q
   exact DQ (P:=P) (n:=m+13) (j:=5) e3 y3 x2.tok k2 (aP (t:=5) rfl) rfl rfl fun t' ty fc=>Q _ _ (pre (aL tst rfl fc)) x3 g3 ⟨t',rfl,T3.symm▸ty⟩
 ·rw [decide_eq_false q] at tst
  rw [if_neg q] at Q
  cases eS:lp.ob.tx with
  | none=>
   rw [eS] at k1 Q
   exact Q _ _ (pre (ai tst rfl (aj (cU (dX (ar (v_ rfl) k_ (aP (t:=4) rfl)) rfl (kH k1)) rfl)))) x3 g3 rfl
  | some S=>
   rw [eS] at k1 Q
   exact DQ (P:=P) (n:=m+13) (j:=4) e3 y3 x2.tok k1 (aP (t:=4) rfl) rfl rfl fun t' ty fc=>Q _ _ (pre (ai tst rfl (aj (cq (dX (ar (v_ rfl) k_ (aP (t:=4) rfl)) rfl (kH k1)) fc)))) x3 g3 ⟨t',rfl,T3.symm▸ty⟩
theorem oW(e:En b u dd h)(x:In b (n+61) h)(z:Pd tn dd (b.T h) t lp)(p:rQ tn (b.T h) k (lp.ob.m k) d)(hk:k < 4)(Q:∀ h' d',ab P (m+16) 781 [.ref u,.int t,d,.str (nm k)] h=some (d',h')→In b n h'→Gr b h h'→jc (b.T h') (bS lp.ob k) d'→G):G:=by
 have e0:((t:Int)==0 || (t:Int)==13)=false:=z.kind x.tok fun uu uu1 uu2 uu3 ne=>by rw [show ((t:Int)==0)=false from pD (k:=0) (ne 0 (.inl rfl)),show ((t:Int)==13)=false from pD (k:=13) (ne 13 (by decide))];rfl
 unfold bS at Q
 cases hm:lp.ob.m k with
 | none=>
  rw [hm] at p Q
  cases p
  exact nE (P:=P) (m:=m) e x z hk fun h' d' e' x' g y=>Q h' d' (ah (Ih P) rfl (ai (cw (ao (v_ rfl) k_) (ao (v_ rfl) k_)) e0 (aj (cU (av (aF (v_ rfl) k_ rfl)) (ck (v_ rfl) (v_ rfl) (v_ rfl) e'))))) x' g y
 | some mb=>
  rw [hm] at p Q
  refine oT (P:=P) (m:=m+9) (n:=n) (x.le (Nat.add_le_add_left (by decide:1≤61) n)) p fun h' t' e' x' g y=>?_
  obtain ⟨tt,fl,rfl,_⟩:=p
  exact Q h' _ (ah (Ih P) rfl (ai (cw (ao (v_ rfl) k_) (ao (v_ rfl) k_)) e0 (aj (cq (av (aF (v_ rfl) k_ rfl)) (az (dH e (v_ rfl)) (v_ rfl) e'))))) x' g ⟨t',rfl,y⟩
end
def xg(tn:Bool)(dd:Option (Nat×Nat))(T:List D)(Y:List Nat)(f:Nat→LP):Prop:=∀ y∈Y,Pd tn dd T y (f y)
noncomputable abbrev GM:XS:=(sq (ae 5 (dT "force" (xv 0) [(dB .pop (xv 4) [])])) (sq (ay (xt (ac .In (xv 5) (xv 3))) (sq ui aa) aa) (sq (bB (ki 1) (xv 3) (xv 5)) (sq (ae 6 (xi (xa (q "rows") (xa (q "tab") (xv 0))) (xv 5))) (sq (ae 7 (bz (xt (ac .Eq (xi (xv 6) (ki 0)) (ki 6))) (xi (xv 6) (ki 1)) (am [(bz (xt (ac .In (xi (xv 6) (ki 0)) (xk (.tup [(.int 11),(.int 12)])))) (xv 5) (dT "bound" (xv 0) [(xv 5)]))]))) (sq (ay (xt (ac .Eq (xv 7) (am [(xv 5)]))) (sq (bn (dB .append (xv 2) [(xv 5)])) aa) (sq (bn (dB .extend (xv 4) [(xv 7)])) aa)) aa))))))
noncomputable abbrev wB(u t n:Nat):L:=upd (upd (upd (fun i=>[D.ref u,.int t][i]?) 2 (.ref n)) 3 (.ref (n+1))) 4 (.ref (n+2))
noncomputable abbrev pQ(h:H)(O S R:List Nat):H:=(h++[MO.lst (iN O),.dct (dG S),.lst (iN R)]:List MO)
section
variable {l:L}{T:List D}{a x:X}{u y w:Nat}{v:Bool}{O S R ms:List Nat}{G:Prop}{o:MO}{K r:List D}
theorem xg.grow(p:T <+: T')(z:xg tn dd T Y f):xg tn dd T' Y f:=fun y hy=>(z y hy).grow p
theorem tw{j:Nat}(e:os[j]?=some o):(h++os:List MO)[(h:List MO).length+j]?=some o:=(List.getElem?_append_right (cg _ _)).trans (by rw [Nat.add_sub_cancel_left];exact e)
theorem FK{j:Nat}:(h++os:List MO).set ((h:List MO).length+j) o=(h++os.set j o:List MO):=(List.set_append_right _ _ (cg _ _)).trans (by rw [Nat.add_sub_cancel_left])
theorem Jl(hm:m≠0)(ha:a c l h=some (.ref m,h))(e:(h:List MO)[m]?=some (.lst (K++[z]))):dB .pop a [] c l h=some (z,(h.set m (.lst K):List MO)):=by
 refine xn ha (by rw [di e];rfl) rfl ((if_neg fun e=>hm (eq_of_beq e)).trans ?_)
 show onL (h:List MO)[m]? _=_
 rw [e]
 show Option.map _ (K++[z]).getLast?=_
 rw [List.getLast?_concat,List.dropLast_concat];rfl
theorem JB(hm:m≠0)(ha:a c l h=some (.ref m,h))(hx:x c l h=some (.tup r,h))(e:(h:List MO)[m]?=some (.lst K))(hl:K.length+r.length < 100000):dB .extend a [x] c l h=some (.none,(h.set m (.lst (K++r)):List MO)):=by
 refine xn ha (by rw [di e];rfl) (aQ hx) ((if_neg fun e=>hm (eq_of_beq e)).trans ?_)
 show onL (h:List MO)[m]? _=_
 rw [e]
 exact if_pos hl
theorem Fy{tt:XT}{bd:XS}{l1:L}{r:Option (Fl×L×H)}(ht:tt c l h=some (true,h))(hb:bd c l h=some (.next,l1,h1))(hr:xu tt bd c n l1 h1=r):xu tt bd c (n+1) l h=r:=dy ht (dy hb hr)
theorem Jd{tt:XT}{bd:XS}(ht:tt c l h=some (false,h)):xu tt bd c (n+1) l h=some (.next,l,h):=dy ht rfl
theorem oH:gG (.ref ((h:List MO).length+2)) (pQ h O S R)=some (!R.isEmpty):=(jN (tw (j:=2) rfl)).trans (by cases R<;>rfl)
theorem uT{kd:Int}(e:En b u dd h)(ht:HT b h T)(row:T[y]?=some (.tup (.int kd::r)))(kk:kd≠14∧kd≠15)(hS:y∉S)(hs:S.length < 90000)(q:Le (wB u t (h:List MO).length) l)
  (more:∀ l',Le (wB u t (h:List MO).length) l'→l' 5=some (.int y)→l' 6=some (.tup (.int kd::r))→bz (xt (ac .Eq (xi (xv 6) (ki 0)) (ki 6))) (xi (xv 6) (ki 1)) (am [(bz (xt (ac .In (xi (xv 6) (ki 0)) (xk (.tup [(.int 11),(.int 12)])))) (xv 5) (dT "bound" (xv 0) [(xv 5)]))]) (ab P (n+1)) l' (pQ h O (S++[y]) R)=some (.tup (iN ms),pQ h O (S++[y]) R))
  (tail:∀ l',Le (wB u t (h:List MO).length) l'→l' 5=some (.int y)→l' 7=some (.tup (iN ms))→ay (xt (ac .Eq (xv 7) (am [(xv 5)]))) (sq (bn (dB .append (xv 2) [(xv 5)])) aa) (sq (bn (dB .extend (xv 4) [(xv 7)])) aa) (ab P (n+1)) l' (pQ h O (S++[y]) R)=some (.next,l',hh))
  (Q:∀ l',GM (ab P (n+1)) l (pQ h O S (R++[y]))=some (.next,l',hh)→Le (wB u t (h:List MO).length) l'→G):G:=by
 have q5:=q.upd (i:=5) (z:=.int y) rfl
 have q6:=q5.upd (i:=6) (z:=.tup (.int kd::r)) rfl
 have q7:=q6.upd (i:=7) (z:=.tup (iN ms)) rfl
 have pp:dB .pop (xv 4) [] (ab P (n+1)) l (pQ h O S (R++[y]))=some (.int y,pQ h O S R):=(Jl (K:=iN R) (z:=.int y) (Nat.succ_ne_zero _) (w_ q rfl) ((tw (j:=2) rfl).trans (by rw [iq]))).trans (congrArg (fun z=>some (D.int y,z)) (FK (h:=h) (j:=2)))
 have si:setItem (.ref ((h:List MO).length+1)) (.int y) (.int 1) (pQ h O S R)=some (pQ h O (S++[y]) R):=(oQ (x:=y) (K:=S) (Nat.succ_ne_zero _) hs (tw (j:=1) rfl)).trans (by rw [show ins S y=S++[y] from if_neg hS];exact congrArg some (FK (h:=h) (j:=1)))
 exact Q _ (bg (aA (uV (P:=P) (n:=n) (e.keep dE.app) (e.keep dE.app) ht.app ⟨kd,_,row,kk⟩ (w_ q rfl) pp)) (bI (pW (K:=S) (tw (j:=1) rfl) (v_ rfl) (w_ q5 rfl)) (dj.trans (decide_eq_false hS)) (bg (eW k_ (w_ q5 rfl) (v_ rfl) si) (bg (aA (kF (e.keep dE.app) ht.app row (w_ q5 rfl) (v_ rfl))) (bg (aA (more _ q6 rfl rfl)) (bg (tail _ q7 rfl rfl) rfl)))))) q7
theorem uY{A B:List D}(a:A.all (D.hkn 5)=true)(b:B.all (D.hkn 5)=true):pR (.tup A) (.tup B)=some (decide (A=B)):=by
 have e:decide (D.tup A=.tup B)=decide (A=B):=decide_eq_decide.mpr ⟨fun q=>by injection q,fun q=>q▸rfl⟩
 show (if (A.all (D.hkn 5) && B.all (D.hkn 5))=true then some (D.eqb (.tup A) (.tup B)) else none)=_
 rw [a,b]
 exact congrArg some ((D.eqb_dec _ _).trans e)
theorem B7:∀ {kd:Int},kd=1∨kd=7∨kd=8∨kd=9→(kd==6)=false∧ec (.int kd) [.int 11,.int 12]=false∧kd≠14∧kd≠15:=fun h=>by rcases h with rfl|rfl|rfl|rfl<;>decide +kernel
theorem EU(e:En b u dd h)(ht:HT b h T)(tk:Tok T)(z:Pd tn dd T y lp)(hS:y∉S)(hO:O.length < 90000)(hs:S.length < 90000)(q:Le (wB u t (h:List MO).length) l)(Q:∀ l',GM (ab P (n+1)) l (pQ h O S (R++[y]))=some (.next,l',pQ h (O++[y]) (S++[y]) R)→Le (wB u t (h:List MO).length) l'→G):G:=z.kind tk fun kd r e1 ek uu=>by
 obtain ⟨k6,kl,kk⟩:=B7 ek
 refine uT (P:=P) (n:=n) (ms:=[y]) e ht e1 kk hS hs q (fun l' q' q5 q6=>cq ((ao (ar (v_ q6) k_ aq) k_).trans (by rw [k6])) (bZ (aQ (cq ((av (aF (ar (v_ q6) k_ aq) k_ rfl)).trans (by rw [kl])) (Ac (e.keep dE.app) (w_ q' rfl) (v_ q5)))) rfl)) (fun l' q' q5 q7=>zu (v:=true) (dX (v_ q7) (bZ (aQ (v_ q5)) rfl) ((uY (gc 5 [y]) (gc 5 [y])).trans (congrArg some (decide_eq_true rfl)))) (bg (dS (d:=.none) ((dz ht.pos (w_ q' rfl) (tw (j:=0) rfl) (aQ (v_ q5)) (tw (j:=0) rfl) (by rw [List.length_map];omega)).trans ?_)) rfl)) Q
 exact congrArg (fun z=>some (D.none,z)) ((FK (j:=0)).trans (by rw [iq];rfl))
theorem uU(e:En b u dd h)(ht:HT b h T)(tk:Tok T)(z:xg tn dd T R f)(nd:R.Nodup)(hS:∀ v∈R,v∉S)(hO:O.length+R.length < 90000)(hs:S.length+R.length < 90000)(q:Le (wB u t (h:List MO).length) l)
  (Q:∀ l' S',xu (xt (xv 4)) GM (ab P (n+1)) (w+(R.length+1)) l (pQ h O S R.reverse)=some (.next,l',pQ h (O++R) S' [])→Le (wB u t (h:List MO).length) l'→G):G:=by
 induction R generalizing O S l with
 | nil=>exact Q l S (by rw [List.append_nil];exact Jd (tW (w_ q rfl) oH)) q
 | cons y R ih=>
  rw [List.nodup_cons] at nd
  rw [List.length_cons] at hO hs
  refine EU (P:=P) (n:=n) (R:=R.reverse) (O:=O) (S:=S) e ht tk (z y aw) (hS y aw) (by omega) (by omega) q fun l1 b1 q1=>?_
  refine ih (O:=O++[y]) (S:=S++[y]) (fun v hv=>z v (aE _ hv)) nd.2 (fun v hv q=>(List.mem_append.mp q).elim (hS v (aE _ hv)) fun q=>nd.1 (cV q▸hv)) (by rw [List.length_append];show O.length+1+R.length < _;omega) (by rw [List.length_append];show S.length+1+R.length < _;omega) q1 fun l2 S' c1 q2=>Q l2 S' ?_ q2
  rw [List.append_assoc] at c1
  rw [List.reverse_cons]
  exact Fy ((tW (w_ q rfl) oH).trans (by cases R.reverse<;>rfl)) b1 c1
theorem my(e:En b u dd h)(ht:HT b h T)(tk:Tok T)(z:xg tn dd T Y f)(nd:Y.Nodup)(un:Un T t Y)(h0:Y≠[])(hl:Y.length < 50)(Q:∀ os,ab P (n+2) 499 [.ref u,.int t] h=some (.ref (h:List MO).length,(h++.lst (iN Y.reverse)::os:List MO))→G):G:=by
 have fin:∀ {l1:L} {S':List Nat},xu (xt (xv 4)) GM (ab P (n+1)) 2000 (wB u t (h:List MO).length) (pQ h [] [] [t])=some (.next,l1,pQ h Y.reverse S' [])→Le (wB u t (h:List MO).length) l1→G:=fun {l1 S'} w q2=>by
  have e1:(h++[.lst []]:List MO).length=(h:List MO).length+1:=List.length_append
  have e2:(h++[.lst []]++[.dct []]:List MO).length=(h:List MO).length+2:=List.length_append.trans (congrArg (·+1) e1)
  have e3:(h++[.lst []]++[.dct []]++[.lst [.int t]]:List MO)=pQ h [] [] [t]:=by rw [List.append_assoc,List.append_assoc];rfl
  have s2:ae 3 cu (ab P (n+1)) (upd (fun i=>[D.ref u,.int t][i]?) 2 (.ref (h:List MO).length)) (h++[.lst []]:List MO)=some (.next,upd (upd (fun i=>[D.ref u,.int t][i]?) 2 (.ref (h:List MO).length)) 3 (.ref ((h:List MO).length+1)),(h++[.lst []]++[.dct []]:List MO)):=e1▸aA rfl
  have s3:ae 4 (br [(xv 1)]) (ab P (n+1)) (upd (upd (fun i=>[D.ref u,.int t][i]?) 2 (.ref (h:List MO).length)) 3 (.ref ((h:List MO).length+1))) (h++[.lst []]++[.dct []]:List MO)=some (.next,wB u t (h:List MO).length,pQ h [] [] [t]):=(aA rfl).trans (by rw [e2,e3])
  exact Q [.dct (dG S'),.lst []] (ah (JQ P) rfl (ax (x:=ae 2 (br [])) (aA rfl) (ax s2 (ax s3 (ax (x:=oJ (xt (xv 4)) GM) w (aj (w_ q2 rfl)))))))
 have tr:=tW (c:=ab P (n+1)) (w_ (Le.refl (l:=wB u t (h:List MO).length)) (i:=4) rfl) (oH (h:=h) (O:=[]) (S:=[]) (R:=[t]))
 rcases un with ⟨rfl,_⟩|rfl|⟨h2,eu⟩
 ·exact absurd rfl h0
 ·exact uU (P:=P) (n:=n) (w:=1998) (R:=[t]) (O:=[]) (S:=[]) e ht tk z nd (fun uu uu1 q=>nomatch q) (show 1 < 90000 by decide) (show 1 < 90000 by decide) .refl fun l1 S' w q2=>fin w q2
 ·have nt:t∉Y:=fun hm=>(z t hm).kind tk fun kd r e1 ek uu=>by
   rw [eu] at e1
   injection e1 with e1;injection e1 with e1;injection e1 with e1 _;injection e1 with e1
   omega
  refine uT (P:=P) (n:=n) (t:=t) (l:=wB u t (h:List MO).length) (ms:=Y) (hh:=pQ h [] [t] Y) (R:=[]) (O:=[]) (S:=[]) e ht eu (by decide) List.not_mem_nil (by decide) .refl (fun l' q' q5 q6=>cU ((ao (ar (v_ q6) k_ aq) k_).trans rfl) (ar (v_ q6) k_ bj)) (fun l' q' q5 q7=>zu (v:=false) (dX (v_ q7) (bZ (aQ (v_ q5)) rfl) ((uY (gc 5 Y) (gc 5 [t])).trans (congrArg some (decide_eq_false fun e=>?_)))) (bg (dS (d:=.none) ((JB (Nat.succ_ne_zero _) (w_ q' rfl) (v_ q7) (tw (j:=2) rfl) ?_).trans ?_)) rfl)) fun l1 b1 q1=>?_
  ·have e2:Y.length=1:=(List.length_map _).symm.trans (congrArg List.length e)
   exact absurd (e2▸h2) (by decide)
  ·rw [List.length_map]
   show 0+(iN Y).length < 100000
   rw [List.length_map,Nat.zero_add];exact Nat.lt_trans hl (by decide)
  ·exact congrArg (fun z=>some (D.none,z)) (FK (j:=2))
  ·refine uU (P:=P) (n:=n) (f:=f) (w:=1998 - Y.length) (R:=Y.reverse) (O:=[]) (S:=[t]) e ht tk (fun v hv=>z v (List.mem_reverse.mp hv)) (List.pairwise_reverse.mpr (nd.imp fun q=>Ne.symm q)) (fun v hv q=>nt (cV q▸List.mem_reverse.mp hv)) (by rw [List.length_reverse];show 0+Y.length < 90000;rw [Nat.zero_add];exact Nat.lt_trans hl (by decide)) (by rw [List.length_reverse];show 1+Y.length < 90000;exact Nat.lt_trans (Nat.add_lt_add_left hl 1) (by decide)) q1 fun l2 S' w q2=>?_
   rw [List.reverse_reverse,List.length_reverse,show 1998 - Y.length+(Y.length+1)=1999 from congrArg (·+1) (Nat.sub_add_cancel (Nat.le_trans (Nat.le_of_lt hl) (by decide)))] at w
   exact fin (Fy (n:=1999) tr b1 w) q2
end
noncomputable def FV:Option Mb→Nat
 | none=>0
 | some m=>m.own
noncomputable def ownOf(o:Ob)(k:Nat):Nat:=FV (o.m k)
noncomputable def apart(L:List Nat):Bool:=L.any fun a=>L.any fun b=>a != b
noncomputable def bw(L:List (Option Nat)):Option Nat:=if none∈L then none else some (lsum false (iz (L.filterMap id)))
noncomputable def eG(L:List LP)(k:Nat):Option Nat:=if apart (L.map fun p=>ownOf p.ob k)=true then none else bw (L.map fun p=>bS p.ob k)
abbrev FR(T:List D)(rs:List D)(ans:List (Option Nat)):Prop:=F2 (fun r o=>jc T o r) rs ans
theorem vj{L:List Nat}(nd:L.Nodup):1 < L.length↔∃ a∈L,∃ b∈L,a≠b:=by
 rcases L with _|⟨a,_|⟨c,r⟩⟩
 ·exact ⟨fun q=>(nomatch q),fun ⟨uu,q,uu1⟩=>(nomatch q)⟩
 ·refine ⟨fun q=>absurd q (Nat.lt_irrefl 1),fun ⟨x,q,y,w,ne⟩=>absurd ((cV q).trans (cV w).symm) ne⟩
 ·exact ⟨fun uu=>⟨a,aw,c,aE _ aw,fun e=>(List.nodup_cons.mp nd).1 (e▸aw)⟩,fun uu=>Nat.succ_lt_succ (Nat.succ_pos _)⟩
theorem yB{tn:Bool}{a c:Nat}(ha:a < 3)(hc:c < 3)(e:oc tn a=oc tn c):a=c:=of_decide_eq_true ((ur tn a ha c hc).symm.trans (beq_iff_eq.mpr (congrArg _ e)))
theorem wV{L:List Nat}:apart L=true↔∃ a∈L,∃ b∈L,a≠b:=by
 unfold apart
 rw [List.any_eq_true]
 refine exists_congr fun a=>and_congr Iff.rfl ?_
 rw [List.any_eq_true]
 exact exists_congr fun b=>and_congr Iff.rfl bne_iff_ne
theorem pM{tn:Bool}{L:List Nat}(h:∀ x∈L,x < 3):decide (1 < (aV (L.map (oc tn))).length)=apart L:=by
 rw [Bool.eq_iff_iff,decide_eq_true_eq,vj eP,wV]
 refine ⟨fun ⟨a,ha,c,hc,ne⟩=>?_,fun ⟨x,hx,y,hy,ne⟩=>⟨oc tn x,a8.mpr (List.mem_map.mpr ⟨x,hx,rfl⟩),oc tn y,a8.mpr (List.mem_map.mpr ⟨y,hy,rfl⟩),fun e=>ne (yB (h x hx) (h y hy) e)⟩⟩
 obtain ⟨x,hx,rfl⟩:=bR (a8.mp ha)
 obtain ⟨y,hy,rfl⟩:=bR (a8.mp hc)
 exact ⟨x,hx,y,hy,fun e=>ne (congrArg _ e)⟩
section
variable {l:L}{T:List D}{a x it:X}{u:Nat}{G:Prop}
theorem FR.grow(p:T <+: T')(x:FR T rs ans):FR T' rs ans:=x.imp fun uu uu1 uu2 z=>z.grow p
theorem jc.int{oo:Option Nat}(z:jc T oo d):∃ j:Int,d=.int j∧((-1:Int)==j)=!oo.isSome:=by
 cases oo with
 | none=>exact ⟨-1,z,rfl⟩
 | some S=>obtain ⟨t,e,_⟩:=z;exact ⟨t,e,rfl⟩
abbrev Zi(r:D)(o:Option Nat):Prop:=∃ j:Int,r=.int j∧((-1:Int)==j)=!o.isSome
theorem F0(x:F2 Zi rs ans):ec (.int (-1)) rs=decide (none∈ans)∧D.hks rs=true:=by
 induction rs generalizing ans with
 | nil=>cases ans with
  | nil=>exact ⟨rfl,rfl⟩
  | cons=>exact x.elim
 | cons r rs ih=>cases ans with
  | nil=>exact x.elim
  | cons o ans=>
   obtain ⟨i1,i2⟩:=ih x.2
   obtain ⟨j,rfl,e⟩:=x.1
   refine ⟨?_,(Bool.and_eq_true _ _).mpr ⟨rfl,i2⟩⟩
   show ((j==(-1:Int)) || ec (.int (-1)) rs)=_
   rw [i1,BEq.comm,e]
   cases o with
   | none=>exact (decide_eq_true aw).symm
   | some S=>exact decide_eq_decide.mpr ⟨aE _,fun q=>(bo q).resolve_left nofun⟩
theorem Ci(i:cF d h rs)(hk:d1.hk=true)(ks:D.hks rs=true):eF .In d1 d h=some (ec d1 rs):=by
 show zo d1 d h=_
 unfold zo
 rw [hk]
 rcases i with rfl|⟨m,rfl,hm⟩
 ·exact (if_neg (by decide)).trans (if_pos ks)
 ·dsimp only
  rw [hm]
  exact (if_neg (by decide)).trans (if_pos ks)
theorem tj(x:F2 Zi rs ans)(i:cF d h rs):eF .In (.int (-1)) d h=some (decide (none∈ans)):=(F0 x).1▸Ci i rfl (F0 x).2
theorem FR.in_(x:FR T rs ans)(i:cF d h rs):eF .In (.int (-1)) d h=some (decide (none∈ans)):=tj (x.imp fun uu uu1 uu2 z=>z.int) i
theorem FR.all(x:FR T rs ans)(hn:none∉ans):∃ ts:List Nat,rs=iN ts∧F2 (fun t S=>Ty false T S t) ts (ans.filterMap id):=by
 induction rs generalizing ans with
 | nil=>cases ans with
  | nil=>exact ⟨[],rfl,trivial⟩
  | cons=>exact x.elim
 | cons r rs ih=>cases ans with
  | nil=>exact x.elim
  | cons o ans=>
   obtain ⟨ts,e1,e2⟩:=ih x.2 fun q=>hn (aE _ q)
   have z:=x.1
   cases o with
   | none=>exact absurd aw hn
   | some S=>obtain ⟨t,e,ty⟩:=z;exact ⟨t::ts,by rw [e,e1];rfl,ty,e2⟩
theorem gF(x:In b (n+1) h)(i:cF d h rs)(z:FR (b.T h) rs ans)(hn:none∉ans)(hl:rs.length≤9)(Q:∀ h' d',ab P (m+4) 273 [.ref b.tab,d] h=some (d',h')→In b n h'→Gr b h h'→jc (b.T h') (bw ans) d'→G):G:=by
 obtain ⟨ts,rfl,f⟩:=z.all hn
 rw [List.length_map] at hl
 exact eR (P:=P) (m:=m) (w:=false) x i f hl fun h' t e x' g y=>Q h' _ e x' g (by unfold bw;rw [if_neg hn];exact ⟨t,rfl,y⟩)
theorem Co{m0:L}{om:Option Mb}{r:D}(z:rQ tn T k om r)(h0:(h:List MO).length≠0)(hl:K.length < 90000)(m1:m0 1=some (.ref (h:List MO).length))(m2:m0 2=none)(m3:m0 3=none)(q:Le m0 l)
  (Q:∀ l',sq (ae 3 (gE (ac .IsNot (xv 2) (xk .none)) (ac .NotEq (xb .BitAnd (xi (xv 2) (ki 2)) (xb .BitOr (ki 8) (ki 16))) (ki 0)))) (sq (bB (ki 1) (xv 1) (bz (xt (xv 3)) (xi (xv 2) (ki 3)) (ki 0))) aa) c (upd l 2 r) (h++[.dct (dG K)]:List MO)=some (.next,l',(h++[.dct (dG (ins K (oc tn (FV om))))]:List MO))→Le m0 l'→G):G:=by
 have q3:∀ v:Bool,Le m0 (upd (upd l 2 r) 3 (.bool v)):=fun v=>(q.upd m2).upd m3
 have fin:∀ {v:Bool} {key:Nat},gE (ac .IsNot (xv 2) (xk .none)) (ac .NotEq (xb .BitAnd (xi (xv 2) (ki 2)) (xb .BitOr (ki 8) (ki 16))) (ki 0)) c (upd l 2 r) (h++[.dct (dG K)]:List MO)=some (.bool v,(h++[.dct (dG K)]:List MO))→bz (xt (xv 3)) (xi (xv 2) (ki 3)) (ki 0) c (upd (upd l 2 r) 3 (.bool v)) (h++[.dct (dG K)]:List MO)=some (.int (key:Int),(h++[.dct (dG K)]:List MO))→sq (ae 3 (gE (ac .IsNot (xv 2) (xk .none)) (ac .NotEq (xb .BitAnd (xi (xv 2) (ki 2)) (xb .BitOr (ki 8) (ki 16))) (ki 0)))) (sq (bB (ki 1) (xv 1) (bz (xt (xv 3)) (xi (xv 2) (ki 3)) (ki 0))) aa) c (upd l 2 r) (h++[.dct (dG K)]:List MO)=some (.next,upd (upd l 2 r) 3 (.bool v),(h++[.dct (dG (ins K key))]:List MO)):=fun {v key} e1 e2=>
  bg (aA e1) (bg (eW k_ (w_ (q3 v) m1) e2 ((oQ h0 hl ak).trans (congrArg some fX))) rfl)
 cases om with
 | none=>
  cases z
  exact Q _ (fin (v:=false) (dy (aF (v:=false) (v_ rfl) k_ rfl) rfl) ((cq (av (v_ rfl)) k_).trans (by cases tn<;>rfl))) (q3 _)
 | some mb=>
  obtain ⟨tt,fl,rfl,_,l1,_,w1,c1⟩:=z
  have a2:ac .NotEq (xb .BitAnd (xi (xv 2) (ki 2)) (xb .BitOr (ki 8) (ki 16))) (ki 0) c (upd l 2 (kM tn k tt fl mb.own)) (h++[.dct (dG K)]:List MO)=some (.bool (decide (mb.own≠0)),(h++[.dct (dG K)]:List MO)):=(aF (ar (ar (v_ rfl) k_ bT) (ar k_ k_ rfl) rfl) k_ lS).trans (congrArg (fun v=>some (D.bool v,_)) ((kZ fl l1).2.trans w1))
  refine Q _ (fin (v:=decide (mb.own≠0)) (lj (v:=true) (aF (v_ rfl) k_ rfl) a2) ?_) (q3 _)
  by_cases z:mb.own=0
  ·rw [decide_eq_false fun e=>e z]
   refine (cq (av (v_ rfl)) k_).trans ?_
   show _=some (D.int (oc tn mb.own:Nat),_)
   rw [z];cases tn<;>rfl
  ·rw [decide_eq_true z]
   exact cU (av (v_ rfl)) (ar (v_ rfl) k_ fa)
theorem zx{m0:L}(hc:∀ K,chk (h++[.dct (dG K)]:List MO)=true)(z:F2 (fun r y=>rQ tn T k ((f y).ob.m k) r) rs ys)(h0:(h:List MO).length≠0)(hl:K.length+ys.length < 90000)(m1:m0 1=some (.ref (h:List MO).length))(m2:m0 2=none)(m3:m0 3=none)(q:Le m0 l)
  (Q:∀ l',bC chk 2 (sq (ae 3 (gE (ac .IsNot (xv 2) (xk .none)) (ac .NotEq (xb .BitAnd (xi (xv 2) (ki 2)) (xb .BitOr (ki 8) (ki 16))) (ki 0)))) (sq (bB (ki 1) (xv 1) (bz (xt (xv 3)) (xi (xv 2) (ki 3)) (ki 0))) aa)) c rs l (h++[.dct (dG K)]:List MO)=some (.next,l',(h++[.dct (dG ((ys.map fun y=>oc tn (ownOf (f y).ob k)).foldl ins K))]:List MO))→Le m0 l'→G):G:=by
 induction rs generalizing ys K l with
 | nil=>cases ys with
  | nil=>exact Q l (aR (hc K)) q
  | cons=>exact z.elim
 | cons r rs ih=>cases ys with
  | nil=>exact z.elim
  | cons y ys=>
   rw [List.length_cons] at hl
   refine Co (c:=c) (K:=K) z.1 h0 (by omega) m1 m2 m3 q fun l1 e1 q1=>?_
   exact ih z.2 (cn (Nat.add_le_add_right pr _) (by omega)) q1 fun l2 e2 q2=>Q l2 (aC (hc K) e1 e2) q2
theorem rQ.own{om:Option Mb}{r:D}(z:rQ tn T k om r):(FV om) < 3:=by
 cases om with
 | none=>decide
 | some m=>obtain ⟨_,_,_,_,_,_,_,z⟩:=z;exact z
theorem kO(hp:(h:List MO).length≠0)(i:cF d h rs)(h7:ys.length≤9)(z:F2 (fun r y=>rQ tn T k ((f y).ob.m k) r) rs ys):ab P (n+1) 492 [d] h=some (.bool (apart (ys.map fun y=>ownOf (f y).ob k)),(h++[.dct (dG (aV (ys.map fun y=>oc tn (ownOf (f y).ob k))))]:List MO)):=by
 have hap:=pM (tn:=tn) (L:=ys.map fun y=>ownOf (f y).ob k) fun x hx=>by
  obtain ⟨y,hy,rfl⟩:=bR hx
  obtain ⟨r,_,zr⟩:=z.memR hy
  exact zr.own
 rw [List.map_map] at hap
 refine zx (c:=ab P n) (K:=[]) (chk:=still d rs (knd d (h++[.dct []]:List MO))) (m0:=upd (fun i=>[d][i]?) 1 (.ref (h:List MO).length)) (fun uu=>i.app.still i.app) z hp (show 0+ys.length < 90000 by omega) rfl rfl rfl .refl fun l' lp q=>?_
 exact ah (JR P) rfl (ax (x:=ae 1 cu) (aA rfl) (ax (aO (v_ rfl) i.app.items (by rw [z.length];omega) lp) (aj ((aF (bZ (aQ (w_ q rfl)) (yW ak)) k_ rfl).trans (congrArg (fun v=>some (D.bool v,_)) (Eq.trans (decide_eq_decide.mpr Int.ofNat_lt) hap))))))
theorem Fb{e:Nat→D}{R:Nat→D→List D→Prop}(mono:∀ y d T T',T <+: T'→R y d T→R y d T')(hc:∀ h',Gr b h0 h'→chk h'=true)(x1:In b (n+N * ys.length) h1)(g1:Gr b h0 h1)
  (st:∀ y∈ys,∀ n' h',In b (n'+N) h'→Gr b h0 h'→∀ G:Prop,(∀ d h2,x c (upd l i (e y)) h'=some (d,h2)→In b n' h2→Gr b h' h2→R y d (b.T h2)→G)→G)
  (Q:∀ rs h',dw chk i none x c (ys.map e) l h1 acc=some (acc++rs,h')→In b n h'→Gr b h1 h'→F2 (fun r y=>R y r (b.T h')) rs ys→G):G:=by
 induction ys generalizing h1 acc with
 | nil=>exact Q [] h1 (by rw [List.append_nil];exact gn (hc _ g1)) x1 .refl trivial
 | cons y ys ih=>
  rw [List.length_cons,Nat.mul_succ,←Nat.add_assoc] at x1
  refine st y aw (n+N * ys.length) h1 x1 g1 _ fun d h2 e2 x2 g2 r2=>?_
  refine ih x2 (g1.trans g2) (fun y hy=>st y (aE _ hy)) (acc:=acc++[d]) fun rs h3 e3 x3 g3 r3=>Q (d::rs) h3 ?_ x3 (g2.trans g3) ⟨mono _ _ _ _ g3.p r2,r3⟩
  rw [List.append_assoc] at e3
  exact gj (hc _ g1) e2 e3
theorem jg{e:Nat→D}{R:Nat→D→List D→Prop}(mono:∀ y d T T',T <+: T'→R y d T→R y d T')(ha:it c l h=some (d,h1))(hi:bH d h1=some (ys.map e))(hl:ys.length < 100000)(hc:∀ h',Gr b h1 h'→still d (ys.map e) (knd d h1) h'=true)(x1:In b (n+N * ys.length) h1)
  (st:∀ y∈ys,∀ n' h',In b (n'+N) h'→Gr b h1 h'→∀ G:Prop,(∀ d h2,x c (upd l i (e y)) h'=some (d,h2)→In b n' h2→Gr b h' h2→R y d (b.T h2)→G)→G)
  (Q:∀ rs h',aN i it none x c l h=some (.ref (h':List MO).length,(h'++[.lst rs]:List MO))→In b n h'→Gr b h1 h'→F2 (fun r y=>R y r (b.T h')) rs ys→G):G:=
 Fb (acc:=[]) mono hc x1 .refl st fun rs h' e=>Q rs h' (fF ha hi (by rw [List.length_map];exact hl) e)
end
section
variable {l:L}{T:List D}{a x it:X}{u:Nat}{R:List Nat}{G:Prop}
theorem Ao.gr{o:MO}{h':H}(s:Ao b h0 m o n h)(g:Gr b h h'):(h':List MO)[m]?=some o:=g.k.2 _ _ s.e s.ne.2.1 s.ne.2.2
theorem F2.range{R':Nat→D→Prop}(z:F2 (fun r j=>∀ v,R[j]?=some v→R' v r) rs (List.range R.length)):F2 (fun r v=>R' v r) rs R:=F2.of (z.length.trans List.length_range) fun j r v a e=>by
 have hj:=(cv e).1
 obtain ⟨r',a',z'⟩:=z.get (k:=j) (b:=j) (List.getElem?_range hj)
 cases a.symm.trans a'
 exact z' v e
theorem nf{d:D}(e:En b u dd h)(x:In b (n+1000) h)(zR:∀ v∈R,Pd tn dd (b.T h) v (f v))(h0:R≠[])(hl:R.length≤7)(hk:k < 4)(cm:aN 6 (xf 499 [(xv 0),(xv 1)]) none (dT "force" (xv 0) [(dT "bound" (xv 0) [(xv 6)])]) (ab P (m+16)) (fun i=>[D.ref u,d,.str (nm k)][i]?) hh=some (.ref (h:List MO).length,(h++[.lst (iN R)]:List MO)))
  (Q:∀ h' d',ab P (m+17) 786 [.ref u,d,.str (nm k)] hh=some (d',h')→In b n h'→Gr b h h'→jc (b.T h') (eG (R.map f) k) d'→G):G:=by
 have sB:=(x.le (Nat.add_le_add_left (by decide:1+854≤1000) n)).newo (o:=.lst (iN R))
 have TB:b.T (h++[.lst (iN R)]:List MO)=b.T h:=x.ht.app.eq
 have eB:=e.keep sB.g.k
 have iB:cF (.ref (h:List MO).length) (h++[.lst (iN R)]:List MO) (iN R):=.inr ⟨_,rfl,sB.e⟩
 refine jg (c:=ab P (m+16)) (l:=upd (fun i=>[D.ref u,d,.str (nm k)][i]?) 3 (.ref (h:List MO).length)) (it:=xv 3) (x:=bz (xt (ac .In (xv 6) (am [(ki 0),(ki 13)]))) (xk .none) (xf 748 [(xv 0),(xv 6),(xv 2)])) (i:=6) (N:=61) (n:=n+428) (e:=fun v=>.int v) (R:=fun v d T'=>rQ tn T' k ((f v).ob.m k) d)
  (fun v d T T' p q=>q.grow p) (v_ rfl) iB.items (cn hl (by decide)) (fun h' g=>iB.still (iB.gr sB.x g)) (sB.x.le (by omega)) (fun v hv n' h' x' g' G K=>by
   have z':=(TB.symm▸zR v hv:Pd tn dd (b.T (h++[.lst (iN R)]:List MO)) v (f v)).grow g'.p
   have e0:ec (.int (v:Int)) [.int 0,.int 13]=false:=z'.kind x'.tok fun uu uu1 uu2 uu3 ne=>by
    show ((((0:Nat):Int)==(v:Int)) || ((((13:Nat):Int)==(v:Int)) || false))=false
    rw [pD (Ne.symm (ne 0 (.inl rfl))),pD (Ne.symm (ne 13 (by decide)))];rfl
   exact kA (P:=P) (m:=m+1) (eB.keep g'.k) x' z' hk fun h2 d e2 x2 g2 z2=>K d h2 (cq ((av (aF (v_ rfl) rfl rfl)).trans (congrArg (fun v=>some (v,_)) e0)) (ck (v_ rfl) (v_ rfl) (v_ rfl) e2)) x2 g2 z2) fun rs h2 e2 x2 g2 z2=>?_
 have sC:=x2.newo (o:=.lst rs)
 have TC:b.T (h2++[.lst rs]:List MO)=b.T h2:=x2.ht.app.eq
 have gC:=g2.trans sC.g
 have eC:=eB.keep gC.k
 have sBC:=sB.call sC.x gC
 have iC:cF (.ref (h:List MO).length) (h2++[.lst rs]:List MO) (iN R):=.inr ⟨_,rfl,sBC.e⟩
 have ln:=(kX iC).trans (by rw [List.length_map]:_=some (D.int (R.length:Int),(h2++[.lst rs]:List MO)))
 refine jg (c:=ab P (m+16)) (l:=upd (upd (fun i=>[D.ref u,d,.str (nm k)][i]?) 3 (.ref (h:List MO).length)) 4 (.ref (h2:List MO).length)) (it:=x1 (dC .len [(xv 3)]) dq) (x:=xf 781 [(xv 0),(xi (xv 3) (xv 6)),(xi (xv 4) (xv 6)),(xv 2)]) (i:=6) (N:=61) (n:=n+1) (e:=fun j=>.int j) (ys:=List.range R.length) (R:=fun j d T'=>∀ v,R[j]?=some v→jc T' (bS (f v).ob k) d)
  (fun v d T T' p q w hw=>(q w hw).grow p) (kQ (bZ (aQ (v_ rfl)) ln) (bP (cn hl (by decide)))) bU (by rw [List.length_range];exact cn hl (by decide)) (fun h' g=>bD) (sC.x.le (by rw [List.length_range];omega)) (fun j hj n' h' x' g' G K=>by
   have hv:=List.getElem?_eq_getElem (List.mem_range.mp hj)
   obtain ⟨r,er,zr⟩:=z2.get hv
   have z':=(zR _ (List.getElem_mem (List.mem_range.mp hj))).grow (TB▸g2.p)
   exact oW (P:=P) (m:=m) (eC.keep g'.k) x' (z'.grow (TC▸g'.p)) (zr.grow (TC▸g'.p)) hk fun h4 d e4 x4 g4 z4=>K d h4 (rO (bV (v_ rfl) (dW (ar (v_ rfl) (v_ rfl) (aX (sBC.gr g') ((List.getElem?_map ..).trans (by rw [hv];rfl)))) (ar (v_ rfl) (v_ rfl) (aX (sC.gr g') er)) (v_ rfl))) e4) x4 g4 fun w hw=>by cases hv.symm.trans hw;exact z4) fun rs3 h3 e3 x3 g3 z3=>?_
 have sD:=x3.newo (o:=.lst rs3)
 have TD:b.T (h3++[.lst rs3]:List MO)=b.T h3:=x3.ht.app.eq
 have gD:=g3.trans sD.g
 have fr:FR (b.T h3) rs3 (R.map fun v=>bS (f v).ob k):=z3.range.mapR fun uu uu1 z=>z
 have iD:cF (.ref (h3:List MO).length) (h3++[.lst rs3]:List MO) rs3:=.inr ⟨_,rfl,sD.e⟩
 have g0:=sB.g.trans (gC.trans gD)
 have t1:=av (aF (c:=ab P (m+16)) (l:=upd (upd (upd (fun i=>[D.ref u,d,.str (nm k)][i]?) 3 (.ref (h:List MO).length)) 4 (.ref (h2:List MO).length)) 5 (.ref (h3:List MO).length)) (a:=bW (ki 1)) (d1:=.int (-1)) rfl (v_ (i:=5) rfl) (fr.in_ iD))
 have t2:=ko (c:=ab P (m+16)) (tW (v_ (l:=upd (upd (upd (fun i=>[D.ref u,d,.str (nm k)][i]?) 3 (.ref (h:List MO).length)) 4 (.ref (h2:List MO).length)) 5 (.ref (h3:List MO).length)) (i:=5) rfl) (jN sD.e))
 have ne3:rs3.isEmpty=false:=by
  cases rs3 with
  | nil=>exact absurd (List.length_eq_zero_iff.mp ((List.length_map _).symm.trans fr.length.symm)) h0
  | cons=>rfl
 rw [ne3] at t2
 have ha:=kO (P:=P) (n:=m+15) (tn:=tn) (f:=f) (k:=k) (ys:=R) (T:=b.T h2) (h:=(h3++[.lst rs3]:List MO)) sD.x.ht.pos (.inr ⟨_,rfl,sC.gr gD⟩) (Nat.le_trans hl (by decide)) z2
 have nm:eG (R.map f) k=if apart (R.map fun v=>ownOf (f v).ob k)=true then none else bw (R.map fun v=>bS (f v).ob k):=by unfold eG;rw [List.map_map,List.map_map];rfl
 rw [nm] at Q
 by_cases hn:none∈R.map fun v=>bS (f v).ob k
 ·rw [decide_eq_true hn] at t1
  refine Q _ _ (ah (EZ P) rfl (aH cm (aH e2 (aH e3 (aj (cU (lw t1) rfl)))))) (sD.x.le (Nat.le_succ n)) g0 ?_
  rw [show bw (R.map fun v=>bS (f v).ob k)=none from if_pos hn]
  split<;>exact rfl
 ·rw [decide_eq_false hn] at t1
  have tt:=jl t1 (jl t2 (av (dD (v_ (i:=4) rfl) ha)))
  cases hap:apart (R.map fun v=>ownOf (f v).ob k) with
  | true=>
   rw [hap] at tt Q
   exact Q _ _ (ah (EZ P) rfl (aH cm (aH e2 (aH e3 (aj (cU tt rfl)))))) (sD.x.app.le (Nat.le_succ n)) (g0.trans sD.x.gapp) rfl
  | false=>
   rw [hap] at tt Q
   have TE:b.T (h3++[.lst rs3]++[.dct (dG (aV (R.map fun y=>oc tn (ownOf (f y).ob k))))]:List MO)=b.T h3:=x3.ht.app.app.eq
   exact gF (P:=P) (m:=m+12) (d:=.ref (h3:List MO).length) (sD.x.app (os:=[.dct (dG (aV (R.map fun y=>oc tn (ownOf (f y).ob k))))])) iD.app (TE.symm▸fr) hn (by rw [fr.length,List.length_map];omega) fun h5 r e5 x5 g5 z5=>Q h5 r (ah (EZ P) rfl (aH cm (aH e2 (aH e3 (aj (cq tt (az (dH (e.keep (g0.trans sD.x.gapp).k) (v_ rfl)) (v_ rfl) e5))))))) x5 (g0.trans (sD.x.gapp.trans g5)) z5
theorem jt(e:En b u dd h)(x:In b (n+1000) h)(z:xg tn dd (b.T h) Y f)(nd:Y.Nodup)(un:Un (b.T h) t Y)(h0:Y≠[])(hl:Y.length≤7)(hk:k < 4)(Q:∀ h' d,ab P (m+17) 786 [.ref u,.int t,.str (nm k)] h=some (d,h')→In b n h'→Gr b h h'→jc (b.T h') (eG (Y.reverse.map f) k) d→G):G:=by
 refine my (P:=P) (n:=m+14) e x.ht x.tok z nd un h0 (by omega) fun os fp=>?_
 have xA:=x.app (os:=.lst (iN Y.reverse)::os)
 have gA:=x.gapp (os:=.lst (iN Y.reverse)::os)
 have eA:=e.keep gA.k
 have gm:(h++.lst (iN Y.reverse)::os:List MO)[(h:List MO).length]?=some (.lst (iN Y.reverse)):=tw (j:=0) rfl
 have zA:∀ v∈Y.reverse,Pd tn dd (b.T (h++.lst (iN Y.reverse)::os:List MO)) v (f v):=fun v hv=>(z v (List.mem_reverse.mp hv)).grow gA.p
 exact nf (P:=P) (m:=m) (n:=n) eA xA zA (fun q=>h0 (List.reverse_eq_nil_iff.mp q)) (by rw [List.length_reverse];exact hl) hk (fu (f:=fun (v:Nat)=>D.int v) (g:=fun (v:Nat)=>D.int v) (az (v_ rfl) (v_ rfl) fp) (aK gm) (by rw [List.length_reverse];omega) fun v hv=>fh eA xA.ht ((zA v hv).kk xA.tok) (v_ rfl) (Ac eA (v_ rfl) (v_ rfl))) fun h' d e' x' g'=>Q h' d e' x' (gA.trans g')
end
noncomputable def EL(key:Nat):Int:=if key < 4 then 3 else if key=4 then 4 else 1
noncomputable def ny(key:Nat):D:=.tup (.int (EL key)::List.getD [[.str (nm 0),.int 0],[.str (nm 1),.int 0],[.str (nm 2),.int 0],[.str (nm 3),.int 0],[.int 0,.int 0],[.str (q "string")],[.str (q "number")],[.str (q "any")]] key [])
def Ky(T:List D)(key i:Nat):Prop:=key < 8∧T[i]?=some (ny key)
noncomputable def cj(key:Nat):Option Nat:=if key < 4 then some key else if key=4 then some 2 else none
noncomputable def AF(o:Option Nat):D:=match o with
 | none=>.none
 | some k=>.str (nm k)
theorem jA{key k:Nat}(h:cj key=some k):k < 4:=by
 unfold cj at h
 split at h
 ·cases h;assumption
 ·split at h
  ·cases h;decide
  ·cases h
theorem yZ:∀ key < 8,5≤key→bJ[if key=7 then 0 else key+1]?=some (ny key):=by decide +kernel
theorem BS:∀ key < 8,∀ j < 16,(decide (j∈[1,2,8,13,14]) || decide (j=0∧key < 7))=true→(bJ.map (D.eqb (ny key)))[j]?=some false:=by decide +kernel
theorem yY:∀ key < 8,∀ j < 8,D.eqb (ny key) (ny j)=true→key=j:=by decide +kernel
theorem ig:∀ key < 8,(EL key=1∨EL key=3∨EL key=4)∧D.hk (ny key)=true∧pR (ny key) (.tup [.int 18,.tup [.str (q ""),.str (q "")],.tup [.int 7]])=some false∧ec (.int (EL key)) [.int 3,.int 4,.int 5]=decide (key < 5):=by decide +kernel
section
variable {l:L}{T:List D}{a x:X}{u:Nat}{v:Bool}{G:Prop}
theorem Ky.grow(p:T <+: T')(x:Ky T key i):Ky T' key i:=⟨x.1,aU p x.2⟩
theorem Ky.fix(tk:Tok T)(h:key < 8)(h5:5≤key):Ky T key (if key=7 then 0 else key+1):=⟨h,tk.at (yZ key h h5)⟩
theorem Ky.inj(x:Ky T key i)(y:Ky T j i):key=j:=yY key x.1 j y.1 (Option.some.inj (x.2.symm.trans y.2)▸D.eqb_refl _)
theorem Ky.no(x:Ky T key i)(tk:Tok T)(hj:j∈[1,2,8,13,14]∨j=0∧key < 7):i≠j:=fun e=>by
 subst e
 have lt:i < 16:=hj.elim ((by decide:∀ x∈[1,2,8,13,14],x < 16) i) fun w=>w.1▸(by decide)
 have r:=BS key x.1 i lt ((Bool.or_eq_true _ _).mpr (hj.imp decide_eq_true decide_eq_true))
 rw [List.getElem?_map] at r
 cases q:bJ[i]? with
 | none=>rw [q] at r;cases r
 | some z=>
  rw [q,Option.some.inj ((tk.at q).symm.trans x.2)] at r
  exact absurd (Option.some.inj r) (by rw [D.eqb_refl];decide)
theorem Ky.ne(x:Ky T key i)(tk:Tok T)(hj:j∈[1,2,8,13,14]):i≠j:=x.no tk (.inl hj)
theorem Ky.iff(x:Ky T key i)(tk:Tok T)(hj:j < 8)(h5:5≤j):i=(if j=7 then 0 else j+1)↔key=j:=⟨fun e=>x.inj (e▸.fix tk hj h5),fun e=>lQ tk.nd x.2 (e▸(Ky.fix tk hj h5).2)⟩
theorem Ky.kk(x:Ky T key i):Kk T i:=by
 obtain ⟨e,_⟩:=ig key x.1
 exact ⟨_,_,x.2,by omega,by omega⟩
theorem qR(hk:key < 4):ny key=.tup [.int 3,.str (nm key),.int 0]:=iE (M:=fun key=>ny key=.tup [.int 3,.str (nm key),.int 0]) hk rfl rfl rfl rfl
theorem kE(y:HT b h T)(x:Ky T key i):ab P (n+2) 829 [.ref b.tab,.int i] h=some (AF (cj key),h):=by
 obtain ⟨_,_,_,em⟩:=ig key x.1
 have t1:=av (aF (c:=ab P (n+1)) (l:=fun j=>[D.ref b.tab,.int i][j]?) (ar (f:=item) (dY y x.2 (v_ (i:=0) rfl) (v_ (i:=1) rfl)) (k_ (d:=.int 0)) aq) (rfl:am [(ki 3),(ki 4),(ki 5)] _ _ h=some (.tup [.int 3,.int 4,.int 5],h)) (rfl:eF .In _ _ h=_))
 replace t1:=t1.trans (congrArg (fun v=>some (v,h)) em)
 unfold cj
 by_cases h4:key < 4
 ·rw [if_pos h4]
  have e:=x.2
  rw [qR h4] at e
  exact ah (EY P) rfl (aL t1 (decide_eq_true (Nat.lt_succ_of_lt h4)) (az (v_ rfl) (v_ rfl) (ah (Ie P) rfl (aH (dY y e (v_ rfl) (v_ rfl)) (aL (ao (ar (v_ rfl) k_ aq) k_) rfl (ar (v_ rfl) k_ bj))))))
 ·rw [if_neg h4]
  by_cases h5:key=4
  ·subst h5
   rw [if_pos rfl]
   exact ah (EY P) rfl (aL t1 rfl (az (v_ rfl) (v_ rfl) (ah (Ie P) rfl (aH (dY y x.2 (v_ rfl) (v_ rfl)) (ai (ao (ar (v_ rfl) k_ aq) k_) rfl (aL (ao (ar (v_ rfl) k_ aq) k_) rfl (bZ (aQ (ar (v_ rfl) k_ bj)) (by rfl))))))))
  ·rw [if_neg h5]
   exact ah (EY P) rfl (ai t1 (decide_eq_false (by omega)) (aj k_))
theorem sK(y:HT b h T)(tk:Tok T)(x:Ky T key i):ab P (n+1) 902 [.ref b.tab,.int i] h=some (.bool (decide (key=6)),h):=by
 obtain ⟨_,_,e2,_⟩:=ig key x.1
 refine ah (JG P) rfl (aj ((lh (wG (v_ rfl) k_) (Cr (dY y x.2 (v_ rfl) (v_ rfl)) rfl e2)).trans (congrArg (fun v=>some (D.bool v,h)) ?_)))
 rw [Bool.or_false]
 exact (cQ (j:=7)).trans (decide_eq_decide.mpr (x.iff tk (j:=6) (by decide) (by decide)))
theorem Ey:pR (.str (nm 2)) (.str (nm 2))=some true∧PySem.intText? (nm 2)=some 0:=by decide +kernel
theorem mE(hk:k < 4):ab P (n+1) 836 [.str (nm k)] h=some (.bool (decide (k=2)),h):=by
 have n1:=(qG k hk).2.1
 have ne:=(qG k hk).2.2.2.2.1
 have cut1:aT (.str (nm k)) .none (.int 1) h=some (.str (nm k),h):=iE (M:=fun k=>aT (.str (nm k)) .none (.int 1) h=some (.str (nm k),h)) hk rfl rfl rfl rfl
 have ln:bi .len [.str (nm k)] h=some (.int 1,h):=iE (M:=fun k=>bi .len [.str (nm k)] h=some (.int 1,h)) hk rfl rfl rfl rfl
 have it:=ju (h:=h) hk
 have st:still (.str (nm k)) [.str (nm k)] 0 h=true:=bE it rfl
 obtain ⟨f1,f2⟩:=C4 k hk
 have t1:∀ {l:L},l 2=some (.str (nm k))→dn (xt (ac .Lt (xv 2) (xk (.str (q "0"))))) (xt (ac .Gt (xv 2) (xk (.str (q "9"))))) (ab P n) l h=some (!decide (k=2),h):=fun q2=>
  (cw (av (aF (v:=jn (nm k) (q "0")) (v_ q2) k_ rfl)) (av (aF (v:=jn (q "9") (nm k)) (v_ q2) k_ rfl))).trans (congrArg (fun v=>some (v,h)) (by rw [f1,←f2,Bool.not_not];rfl))
 by_cases q:k=2
 ·subst q
  have ci:bi .int [.str (nm 2)] h=some (.int 0,h):=by
   show (if (nm 2).cps.size≤100 then (PySem.intText? (nm 2)).map fun n=>(D.int n,h) else none)=_
   rw [Ey.2];rfl
  exact ah (Id P) rfl (aH (cq (dX (CS (v_ rfl) k_ k_ cut1) k_ n1) (v_ rfl)) (ai (cw (dX (v_ rfl) k_ ne) (av (aF (bZ (aQ (v_ rfl)) ln) k_ rfl))) rfl (ax (aO (v_ rfl) it Aq (aC st (bI (t1 rfl) rfl rfl) (aR st))) (aH (bZ (aQ (v_ rfl)) ci) (ai (cw (av (aF (v_ rfl) k_ rfl)) (ly (bZ (aQ (v_ rfl)) (show bi .str [.int 0] h=some (.str (nm 2),h) from rfl)) (v_ rfl) Ey.1)) rfl (aj (lh (v:=false) (aF (v_ rfl) k_ rfl) (Cr (v_ rfl) (v_ rfl) Ey.1))))))))
 ·rw [decide_eq_false q] at t1 ⊢
  exact ah (Id P) rfl (aH (cq (dX (CS (v_ rfl) k_ k_ cut1) k_ n1) (v_ rfl)) (ai (cw (dX (v_ rfl) k_ ne) (av (aF (bZ (aQ (v_ rfl)) ln) k_ rfl))) rfl (uk ⟨_,aO (v_ rfl) it Aq (eH st (ja (t1 rfl) rfl k_))⟩)))
theorem Pq.kind(z:Pq tn dd T t o):∃ (kd:Int) (r:List D),T[t]?=some (.tup (.int kd::r))∧(kd=8∨kd=9):=by
 cases z with
 | obj r e z=>obtain ⟨s,rfl⟩:=z.kind;exact ⟨8,_,e,.inl rfl⟩
 | ref did t0 r e1 e2 e3 z=>exact ⟨9,_,e2,.inr rfl⟩
theorem Gk:∀ {kd:Int},kd=8∨kd=9→(kd==1)=false∧(kd==2)=false∧ec (.int kd) [.int 8,.int 9,.int 11,.int 12,.int 13]=true:=fun h=>by rcases h with rfl|rfl<;>decide +kernel
theorem zJ(y:HT b h T)(z:Pq tn dd T t o):ab P (n+1) 327 [.ref b.tab,.int t] h=some (.int 7,h):=by
 obtain ⟨kd,r,e,hk⟩:=z.kind
 obtain ⟨n1,n2,nm⟩:=Gk hk
 exact ah (Cw P) rfl (aH (dY y e (v_ rfl) (v_ rfl)) (aH (ar (v_ rfl) k_ aq) (ai (ao (v_ rfl) k_) n1 (ai (ao (v_ rfl) k_) n2 (aL (av (aF (v_ rfl) k_ rfl)) nm k_)))))
theorem rz{m0:L}{fd:Nat}(cc:ab P (n+1) 327 [.ref b.tab,.int t] h=some (.int 7,h))(z0:m0 0=some (.ref b.tab))(z2:m0 2=none)(z3:m0 3=none)(z4:m0 4=none)(hf:fd=0∨fd=7)(q:Le (upd m0 2 (.int fd)) l)
  (Q:∀ l' (fd':Nat),sq (ae 4 (xf 327 [(xv 0),(xv 3)])) (sq (ay (bM (xt (ac .NotEq (xv 4) (ki 0))) (xt (ac .NotEq (xv 4) (ki 7)))) (sq (af (xv 4)) aa) aa) (sq (ay (bM (xt (ac .Eq (xv 4) (ki 7))) (xt (ac .NotEq (xv 3) (ki 11)))) (sq (ae 2 (ki 7)) aa) aa) aa)) (ab P (n+1)) (upd l 3 (.int t)) h=some (.next,l',h)→(fd'=0∨fd'=7)→Le (upd m0 2 (.int fd')) l'→G):G:=by
 have q3:=q.upd (i:=3) (z:=.int t) ((if_neg (by decide)).trans z3)
 have q4:=q3.upd (i:=4) (z:=.int 7) ((if_neg (by decide)).trans z4)
 have s1:=aA (i:=4) (az (c:=ab P (n+1)) (w_ q3 (i:=0) ((if_neg (by decide)).trans z0)) (v_ (i:=3) rfl) cc)
 by_cases e:t=11
 ·subst e
  exact Q _ fd (bg s1 (bI (dF (fV (v_ rfl) k_) (fV (v_ rfl) k_)) rfl (bI (dF (ao (v_ rfl) k_) (fV (v_ rfl) k_)) rfl rfl))) hf q4
 ·exact Q _ 7 (bg s1 (bI (dF (fV (v_ rfl) k_) (fV (v_ rfl) k_)) rfl (j2 (dF (ao (v_ rfl) k_) (fV (v_ rfl) k_)) (by rw [show ((t:Int)==11)=false from pD (k:=11) e];rfl) (bg (aA k_) rfl) rfl))) (.inr rfl) (Le.weak3 q4)
theorem zK{a1 a2:Nat}(y:HT b h T)(z1:Pq tn dd T a1 o1)(z2:Pq tn dd T a2 o2):∃ fm:Nat,fm≠1∧ab P (n+2) 320 [.ref b.tab,.tup [.int a1,.int a2]] h=some (.int fm,h):=by
 refine rz (P:=P) (n:=n) (m0:=fun i=>[D.ref b.tab,.tup [.int a1,.int a2]][i]?) (l:=upd (fun i=>[D.ref b.tab,.tup [.int a1,.int a2]][i]?) 2 (.int 0)) (fd:=0) (zJ (n:=n) y z1) rfl rfl rfl rfl (.inl rfl) .refl fun l1 f1 b1 h1 q1=>?_
 refine rz (P:=P) (n:=n) (zJ (n:=n) y z2) rfl rfl rfl rfl h1 q1 fun l2 f2 b2 h2 q2=>⟨f2,by omega,ah (JZ P) rfl (ax (x:=ae 2 (ki 0)) (aA k_) (ax (aO (ds:=[.int a1,.int a2]) (v_ rfl) rfl (f0 rfl) (aC an b1 (aC an b2 (aR an)))) (aj (w_ q2 rfl))))⟩
noncomputable def LP.isS:LP→Bool
 | .str=>true
 | _=>false
theorem mC(y:HT b h T)(tk:Tok T)(z:Pd tn dd T t lp):∃ fm:Int,(fm==1)=lp.isS∧ab P (n+3) 327 [.ref b.tab,.int t] h=some (.int fm,h):=by
 cases lp with
 | str=>cases z;exact ⟨1,rfl,tA (w:=false) (i:=6) y tk (.fix tk (by decide) (by decide)) (by decide)⟩
 | one o=>exact ⟨7,rfl,zJ y z⟩
 | met o1 o2=>
  obtain ⟨a,e,er,z1,z2⟩:=z
  obtain ⟨fm,n1,c⟩:=zK (P:=P) (n:=n) y z1 z2
  exact ⟨fm,pD (k:=1) n1,ah (Cw P) rfl (aH (dY y er (v_ rfl) (v_ rfl)) (aH (ar (v_ rfl) k_ aq) (ai (ao (v_ rfl) k_) rfl (ai (ao (v_ rfl) k_) rfl (ai (av (aF (v_ rfl) k_ rfl)) rfl (ai (ao (v_ rfl) k_) rfl (aL (ao (v_ rfl) k_) rfl (az (v_ rfl) (ar (v_ rfl) k_ bj) c))))))))⟩
end
noncomputable def bq(lp:LP)(key:Nat):Option Nat:=match lp with
 | .str=>if key=2∨key=4∨key=6 then some 64 else none
 | lp=>match cj key with
  | some k=>bS lp.ob k
  | none=>if key=6 then (if lp.ob.dg.isSome=true then lp.ob.dg else lp.ob.tx) else if key=7 then (if lp.ob.tx.isSome=true then lp.ob.tx else lp.ob.dg) else lp.ob.tx
abbrev bY(S:Nat):Prop:=CQ false S
theorem bY.lt{S:Nat}(h:bY S):S < 512:=CQ.lt h
theorem bY.id{S:Nat}(h:bY S):lsum false S=S:=h.elim (fun e=>e▸rfl) jx
theorem ic{S:Nat}(h:S < 512):bY (lsum false S):=by
 cases q:S.testBit 8 with
 | true=>exact .inl (if_pos q)
 | false=>exact .inr (o8 h q)
theorem sa:bY 0:=.inr ⟨by decide,fun i q=>nomatch (Nat.zero_testBit i).symm.trans q⟩
theorem jQ{S R:Nat}(hS:bY S)(hR:bY R):bY (eO false S R):=by
 unfold eO
 split
 ·exact sa
 ·split
  ·exact .inl rfl
  ·exact ic (cn Nat.and_le_left (cb false S hS.lt).1)
structure Ob.Ok(o:Ob):Prop where
 m:∀ k m,o.m k=some m→bY m.ty∧m.own < 3∧k < 3
 tx:∀ S,o.tx=some S→bY S
 dg:∀ S,o.dg=some S→bY S
theorem gL{m:Mb}(h:bY m.ty):bY (Bk m):=ic (Nat.or_lt_two_pow (n:=9) h.lt (by split<;>decide))
theorem CI{m n:Mb}(h1:bY m.ty)(h2:bY n.ty)(o1:m.own < 3)(o2:n.own < 3):bY (both m n).ty∧(both m n).own < 3:=by
 refine ⟨?_,by rw [jF];split<;>assumption⟩
 unfold both
 split
 ·exact sa
 ·show bY (if _ then _ else _)
  split
  ·exact jQ (gL h1) (gL h2)
  ·exact jQ h1 h2
theorem qM{a c:Option Nat}(x:∀ S,a=some S→bY S)(y:∀ S,c=some S→bY S){S:Nat}(e:fx a c=some S):bY S:=by
 cases a with
 | none=>exact y S e
 | some u=>cases c with
  | none=>exact x S e
  | some v=>cases e;exact jQ (x u rfl) (y v rfl)
section
variable {l:L}{T:List D}{a x:X}{u:Nat}{p:Ob}{G:Prop}
theorem Ob.Ok.name(x:o.Ok)(e:bS o k=some S):bY S:=by
 unfold bS at e
 cases hm:o.m k with
 | some m=>rw [hm] at e;cases e;exact gL (x.m k m hm).1
 | none=>
  rw [hm] at e
  replace e:As o k=some S:=e
  unfold As at e
  by_cases q:k=2∧o.dg.isSome=true
  ·rw [if_pos q] at e;exact x.dg S e
  ·rw [if_neg q] at e;exact x.tx S e
theorem Cl.ok(cl:Cl T oo d)(S:Nat)(e:oo=Option.some S):bY S:=by cases e;obtain ⟨t,_,ty⟩:=cl;exact ty.nm9
theorem Mr.ok{m:Mb}(x:Mr tn T k m d):bY m.ty∧m.own < 3:=by obtain ⟨t,fl,_,ty,_,_,_,q⟩:=x;exact ⟨ty.nm9,q⟩
theorem Rw.ok(x:Rw tn T o d):o.Ok:=by
 obtain ⟨g,cs,cd,_,dd,c1,c2⟩:=x
 exact ⟨fun k m e=>have z:=dd.pm k m e;⟨z.2.ok.1,z.2.ok.2,z.1⟩,c1.ok,c2.ok⟩
theorem Pq.ok(z:Pq tn dd T t o):o.Ok:=by
 cases z with
 | obj _ _ r=>exact r.ok
 | ref _ _ _ _ _ _ r=>exact r.ok
theorem qE(x:o.Ok)(y:p.Ok):(kB o p).Ok:=by
 refine ⟨fun k m e=>?_,fun S e=>qM x.tx y.tx e,fun S e=>qM x.dg y.dg e⟩
 replace e:mm o.m p.m k=some m:=e
 unfold mm at e
 cases h1:o.m k with
 | none=>rw [h1] at e;exact y.m k m e
 | some u=>
  rw [h1] at e
  cases h2:p.m k with
  | none=>rw [h2] at e;cases e;exact x.m k _ h1
  | some v=>
   rw [h2] at e
   cases e
   have z:=x.m k u h1
   have w:=y.m k v h2
   have r:=CI z.1 w.1 z.2.1 w.2.1
   exact ⟨r.1,r.2,z.2.2⟩
theorem Pd.ok(z:Pd tn dd T t lp):lp.ob.Ok:=by
 cases lp with
 | str=>exact ⟨fun k m e=>(nomatch e),fun S e=>(nomatch e),fun S e=>(nomatch e)⟩
 | one o=>exact Pq.ok z
 | met o p=>obtain ⟨_,_,_,z,w⟩:=z;exact qE z.ok w.ok
theorem mP(h:∀ S,oo=some S→bY S):bw [oo]=oo:=by
 cases oo with
 | none=>rfl
 | some S=>
  have ne:none∉[some S]:=fun q=>by cases cV q
  exact (if_neg ne).trans (congrArg some ((congrArg (lsum false) (Nat.or_zero S)).trans (h S rfl).id))
theorem eD(num:Bool)(e:En b u dd h)(x:In b (n+61) h)(z:Pd tn dd (b.T h) t lp)(Q:∀ h' d,ab P (m+15) 793 [.ref u,.int t,.int (bif num then 1 else 0)] h=some (d,h')→In b n h'→Gr b h h'→Cl (b.T h') (bif num then lp.ob.dg else lp.ob.tx) d→G):G:=by
 refine jq (P:=P) (m:=m) e x z fun h2 s r c2 x2 g2 m6 m7=>?_
 refine z.kind x.tok fun kd rr e1 ek uu=>?_
 have e2:=e.keep g2.k
 obtain ⟨g,cs,cd,rfl,_,k1,k2⟩:=m7
 have ret:∀ {cell:D} {oo:Option Nat} {j:Int},Cl (b.T h2) oo cell→item (.tup [.int 8,.tup ((fU lp.ob.m).map g),.tup [],.tup [],cs,cd,.int 0]) (.int j) h2=some (cell,h2)→(∀ {l:L} {h:H},l 2=some (.int (bif num then 1 else 0))→bz (xt (xv 2)) (ki 5) (ki 4) (ab P (m+14)) l h=some (.int j,h))→ab P (m+15) 793 [.ref u,.int t,.int (bif num then 1 else 0)] h=some (cell,h2):=fun {cell oo j} cl ij hj=>by
  refine ah (JK P) rfl (aH (fh (P:=P) (n:=m+13) e x.ht (z.kk x.tok) (v_ rfl) (v_ rfl)) (aH (kF e x.ht e1 (v_ rfl) (v_ rfl)) (ai (ao (ar (v_ rfl) k_ aq) k_) (B7 ek).1 (ax (zu (sL rfl ek) (bg (aA (ar (xE e x.ht x2.ht m6 (v_ rfl) (v_ rfl) c2) (hj rfl) ij)) rfl)) (aj ?_)))))
  have ce:=kH cl
  cases oo with
  | none=>cases cl;exact cU (dX (v_ rfl) rfl ce) rfl
  | some S=>
   obtain ⟨t,rfl,ty⟩:=cl
   exact cq (dX (v_ rfl) rfl ce) (bZ (dJ (fh e2 x2.ht (ty.kk x2.tok) (v_ rfl) (ar (v_ rfl) k_ aq)) (ar (v_ rfl) k_ bj)) rfl)
 cases num with
 | true=>exact Q h2 cd (ret k2 (aP (t:=5) rfl) fun q=>cU (tW (v_ q) rfl) k_) x2 g2 k2
 | false=>exact Q h2 cs (ret k1 (aP (t:=4) rfl) fun q=>cq (tW (v_ q) rfl) k_) x2 g2 k1
theorem mq{t:XT}{x y:XS}{h1:H}{r:Option (Fl×L×H)}(ht:t c l h=some (true,h1))(hr:x c l h1=r):ay t x y c l h=r:=zu ht hr
theorem nF{t:XT}{x y:XS}{h1:H}{r:Option (Fl×L×H)}(ht:t c l h=some (false,h1))(hr:y c l h1=r):ay t x y c l h=r:=zu ht hr
theorem Aa(cl:Cl T oo d)(q:l i=some d):xt (ac .Eq (xv i) (am [])) c l h=some (!oo.isSome,h):=dX (v_ q) rfl (kH cl)
theorem DP(cl:Cl T oo d)(q:l i=some d):xt (ac .NotEq (xv i) (am [])) c l h=some (oo.isSome,h):=(ly (v_ q) rfl (kH cl)).trans (by rw [Bool.not_not])
theorem IL(cl:Cl T oo d)(q:l i=some d):∃ r,(bz (xt (ac .NotEq (xv i) (am []))) (xi (xv i) (ki 0)) (bW (ki 1))) c l h=some (r,h)∧jc T oo r:=by
 have n:=DP (c:=c) (h:=h) cl q
 cases oo with
 | none=>exact ⟨.int (-1),cq n rfl,rfl⟩
 | some S=>obtain ⟨t,rfl,ty⟩:=cl;exact ⟨.int t,cU n (ar (v_ q) k_ aq),t,rfl,ty⟩
noncomputable abbrev KW:XS:=(sq (ae 5 (xf 793 [(xv 0),(xv 1),(ki 0)])) (sq (ay (bM (xt (ac .Eq (xv 5) (am []))) (xt (ac .Eq (xv 2) (ki 0)))) (sq (ae 5 (xf 793 [(xv 0),(xv 1),(ki 1)])) aa) aa) (sq (af (bz (xt (ac .NotEq (xv 5) (am []))) (xi (xv 5) (ki 0)) (bW (ki 1)))) aa)))
theorem uh(e:En b u dd h)(x:In b (n+130) h)(z:Pd tn dd (b.T h) t lp)(q0:l 0=some (.ref u))(q1:l 1=some (.int t))(q2:l 2=some (.int i))
  (Q:∀ h' d,hU KW (ab P (m+15)) l h d h'→In b n h'→Gr b h h'→jc (b.T h') (if i=0∧lp.ob.tx.isSome=false then lp.ob.dg else lp.ob.tx) d→G):G:=by
 refine eD (P:=P) (m:=m) (n:=n+69) false e x z fun h2 d e2 x2 g2 cl=>?_
 replace cl:Cl (b.T h2) lp.ob.tx d:=cl
 have tst:=dF (c:=ab P (m+15)) (l:=upd l 5 d) (h:=h2) (Aa cl (i:=5) rfl) ((ao (l:=upd l 5 d) (v_ (i:=2) q2) (k_ (d:=.int 0))).trans (congrArg (fun v=>some (v,h2)) (cQ (j:=0))))
 have s1:=aA (i:=5) (ck (c:=ab P (m+15)) (v_ q0) (v_ q1) (k_ (d:=.int 0)) e2)
 by_cases q:i=0∧lp.ob.tx.isSome=false
 ·rw [if_pos q] at Q
  refine eD (P:=P) (m:=m) (n:=n+8) true (e.keep g2.k) x2 (z.grow g2.p) fun h3 d3 e3 x3 g3 cl3=>?_
  obtain ⟨r,r1,r2⟩:=IL (c:=ab P (m+15)) (l:=upd (upd l 5 d) 5 d3) (h:=h3) (i:=5) (cl3:Cl (b.T h3) lp.ob.dg d3) rfl
  exact Q h3 r (ax s1 (eX tst (by rw [q.2,decide_eq_true q.1];rfl) (bg (aA (ck (v_ q0) (v_ q1) k_ e3)) rfl) (aj r1))) (x3.le (cg n 8)) (g2.trans g3) r2
 ·rw [if_neg q] at Q
  obtain ⟨r,r1,r2⟩:=IL (c:=ab P (m+15)) (l:=upd l 5 d) (h:=h2) (i:=5) cl rfl
  refine Q h2 r (ax s1 (ai tst (Bool.eq_false_iff.mpr fun w=>?_) (aj r1))) (x2.le (cg n 69)) g2 r2
  rw [Bool.and_eq_true,Bool.not_eq_true',decide_eq_true_eq] at w
  exact q ⟨w.2,w.1⟩
end
section
variable {l:L}{T:List D}{a x:X}{u:Nat}{p:Ob}{G:Prop}
theorem B4(e:key=5):bq lp key=lp.ob.tx:=by cases e;cases lp<;>rfl
theorem B3(e:key=6)(s:lp.isS=false):bq lp key=if lp.ob.dg.isSome=true then lp.ob.dg else lp.ob.tx:=by
 cases e
 cases lp with
 | str=>cases s
 | one o=>rfl
 | met o1 o2=>rfl
theorem B2(e:key=7):bq lp key=if 0=0∧lp.ob.tx.isSome=false then lp.ob.dg else lp.ob.tx:=by
 have sel:∀ a b:Option Nat,(if a.isSome=true then a else b)=if 0=0∧a.isSome=false then b else a:=fun a b=>by cases a<;>rfl
 cases e
 cases lp with
 | str=>rfl
 | one o=>exact sel _ _
 | met o1 o2=>exact sel _ _
theorem sU(h:cj key=none)(h8:key < 8):key=5∨key=6∨key=7:=by
 unfold cj at h
 by_cases a:key < 4
 ·rw [if_pos a] at h;cases h
 ·rw [if_neg a] at h
  by_cases c:key=4
  ·rw [if_pos c] at h;cases h
  ·omega
theorem mY(e:En b u dd h)(x:In b (n+200) h)(z:Pd tn dd (b.T h) t lp)(y:Ky (b.T h) key i)(hk:cj key=none)(Q:∀ h' d,ab P (m+16) 916 [.ref u,.int t,.int i] h=some (d,h')→In b n h'→Gr b h h'→jc (b.T h') (bq lp key) d→G):G:=by
 obtain ⟨fm,f1,fc⟩:=mC (P:=P) (n:=m+12) x.ht x.tok z
 have tst:=dF (c:=ab P (m+15)) (h:=h) (l:=upd (upd (fun i'=>[D.ref u,.int t,.int i][i']?) 3 (.ref b.tab)) 4 (.bool (decide (key=6)))) (av (v_ (i:=4) rfl)) ((ao (az (v_ (i:=3) rfl) (v_ (i:=1) rfl) fc) (k_ (d:=.int 1))).trans (congrArg (fun v=>some (v,h)) f1))
 have start:∀ {d:D} {hh:H},hU _ (ab P (m+15)) (upd (upd (fun i'=>[D.ref u,.int t,.int i][i']?) 3 (.ref b.tab)) 4 (.bool (decide (key=6)))) h d hh→ab P (m+16) 916 [.ref u,.int t,.int i] h=some (d,hh):=fun hr=>
  ah (JF P) rfl (aH (dH e (v_ rfl)) (aH (az (v_ rfl) (v_ rfl) (sK (P:=P) (n:=m+14) x.ht x.tok y)) hr))
 have i6:=y.iff x.tok (j:=5) (by decide) (by decide)
 have i0:=y.iff x.tok (j:=7) (by decide) (by decide)
 have rest:key≠6→(key=5∧i=6∨key=7∧i=0)→G:=fun n6 hi=>by
  rw [decide_eq_false n6] at tst start
  have im:ec (.int (i:Int)) [.int 6,.int 0]=true:=by rcases hi with ⟨_,rfl⟩|⟨_,rfl⟩<;>rfl
  refine uh (P:=P) (m:=m) (n:=n+70) (l:=upd (upd (fun i'=>[D.ref u,.int t,.int i][i']?) 3 (.ref b.tab)) 4 (.bool false)) (i:=i) e x z rfl rfl rfl fun h2 d r2 x2 g2 z2=>Q h2 d (start (ai tst rfl (ax (nF (av (v_ rfl)) (bI (fG ((av (aF (v_ rfl) rfl rfl)).trans (congrArg (fun v=>some (!v,h)) im))) rfl rfl)) r2))) (x2.le (cg n 70)) g2 ?_
  rcases hi with ⟨e5,e6⟩|⟨e7,e0⟩
  ·rw [if_neg fun w=>absurd (e6.symm.trans w.1) (by decide)] at z2
   rw [B4 e5];exact z2
  ·rw [e0] at z2
   rw [B2 e7];exact z2
 rcases sU hk y.1 with e5|e6|e7
 ·exact rest (fun q=>absurd (e5.symm.trans q) (by decide)) (.inl ⟨e5,i6.mpr e5⟩)
 ·rw [decide_eq_true e6] at tst start
  cases hs:lp.isS with
  | true=>
   rw [hs] at tst
   have ks:bq lp key=some 64:=by
    cases lp with
    | str=>cases e6;rfl
    | _=>cases hs
   exact Q h (.int 6) (start (aL tst rfl k_)) (x.le (cg n 200)) .refl (ks▸⟨6,rfl,iI (w:=false) (i:=6) (.fix x.tok (by decide) (by decide))⟩)
  | false=>
   rw [hs] at tst
   rw [B3 e6 hs] at Q
   refine eD (P:=P) (m:=m) (n:=n+139) true e x z fun h3 d3 e3 x3 g3 c3=>?_
   replace c3:Cl (b.T h3) lp.ob.dg d3:=c3
   have s1:=aA (i:=5) (ck (c:=ab P (m+15)) (l:=upd (upd (fun i'=>[D.ref u,.int t,.int i][i']?) 3 (.ref b.tab)) 4 (.bool true)) (v_ (i:=0) rfl) (v_ (i:=1) rfl) (k_ (d:=.int 1)) e3)
   have ne:=DP (c:=ab P (m+15)) (l:=upd (upd (upd (fun i'=>[D.ref u,.int t,.int i][i']?) 3 (.ref b.tab)) 4 (.bool true)) 5 d3) (h:=h3) (i:=5) c3 rfl
   cases hd:lp.ob.dg with
   | some S=>
    rw [hd] at c3 ne Q
    obtain ⟨tt,rfl,ty⟩:=c3
    exact Q h3 _ (start (ai tst rfl (uk ⟨_,mq (av (v_ rfl)) (bg s1 (ja ne rfl (ar (v_ rfl) k_ aq)))⟩))) (x3.le (cg n 139)) g3 ⟨tt,rfl,ty⟩
   | none=>
    rw [hd] at ne Q
    refine uh (P:=P) (m:=m) (n:=n+9) (l:=upd (upd (upd (fun i'=>[D.ref u,.int t,.int i][i']?) 3 (.ref b.tab)) 4 (.bool true)) 5 d3) (i:=i) (e.keep g3.k) x3 (z.grow g3.p) rfl rfl rfl fun h2 d r2 x2 g2 z2=>Q h2 d (start (ai tst rfl (ax (mq (av (v_ rfl)) (bg s1 (bI ne rfl rfl))) r2))) (x2.le (cg n 9)) (g3.trans g2) ?_
    rw [if_neg fun w=>absurd (e6.symm.trans (i0.mp w.1)) (by decide)] at z2
    exact z2
 ·exact rest (fun q=>absurd (e7.symm.trans q) (by decide)) (.inr ⟨e7,i0.mpr e7⟩)
def Fv(T:List D)(t:Nat):Prop:=∃ (kd:Int) (r:List D),T[t]?=some (.tup (.int kd::r))∧(kd=1∨kd=3∨kd=4∨kd=8∨kd=9)
def Nd(C:Nat→Prop)(T:List D)(t:Nat):Prop:=Fv T t∨∃ (kd:Int) (X:List Nat),T[t]?=some (.tup [.int kd,.tup (iN X)])∧(kd=6∨kd=7)∧X.length < 50∧∀ x∈X,C x
theorem B6:∀ {kd:Int},kd=1∨kd=3∨kd=4∨kd=8∨kd=9→ec (.int kd) [.int 10,.int 14,.int 15,.int 16,.int 17,.int 19]=false∧(kd==6 || kd==7)=false∧(kd==12)=false∧(kd==18)=false:=fun h=>by rcases h with rfl|rfl|rfl|rfl|rfl<;>decide +kernel
theorem B5:∀ {kd:Int},kd=6∨kd=7→ec (.int kd) [.int 10,.int 14,.int 15,.int 16,.int 17,.int 19]=false∧(kd==6 || kd==7)=true∧(kd==12)=false∧(kd==18)=false:=fun h=>by rcases h with rfl|rfl<;>decide +kernel
theorem dK(y:HT b h T)(z:Fv T t):ab P (n+1) 815 [.ref b.tab,.int t] h=some (.bool false,h):=by
 obtain ⟨kd,r,e,hk⟩:=z
 obtain ⟨n1,n6,n12,n18⟩:=B6 hk
 exact ah (Ig P) rfl (aH (dY y e (v_ rfl) (v_ rfl)) (ai (av (aF (ar (v_ rfl) k_ aq) k_ rfl)) n1 (ai (cw (ao (ar (v_ rfl) k_ aq) k_) (ao (ar (v_ rfl) k_ aq) k_)) n6 (ai (ao (ar (v_ rfl) k_ aq) k_) n12 (ai (ao (ar (v_ rfl) k_ aq) k_) n18 (aj k_))))))
theorem vY{m0:L}{chk:H→Bool}(hc:chk h=true)(m00:m0 0=some (.ref b.tab))(m3:m0 3=none)(st:∀ v∈Y,c 815 [.ref b.tab,.int v] h=some (.bool false,h))(q:Le m0 l)(Q:∀ l',bC chk 3 (sq (ay (xt (xf 815 [(xv 0),(xv 3)])) (sq (af (xk (.bool true))) aa) aa) aa) c (iN Y) l h=some (.next,l',h)→Le m0 l'→G):G:=by
 induction Y generalizing l with
 | nil=>exact Q l (aR hc) q
 | cons v Y ih=>exact ih (fun w hw=>st w (aE _ hw)) (q.upd m3) fun l' e q'=>Q l' (aC hc (bI (av (az (w_ (q.upd m3) m00) (v_ rfl) (st v aw))) rfl rfl) e) q'
theorem kU{C:Nat→Prop}(y:HT b h T)(st:∀ x,C x→ab P (n+1) 815 [.ref b.tab,.int x] h=some (.bool false,h))(z:Nd C T t):ab P (n+2) 815 [.ref b.tab,.int t] h=some (.bool false,h):=by
 rcases z with z|⟨kd,X,e,hk,hX,hc⟩
 ·exact dK y z
 ·obtain ⟨n1,n6,n12,n18⟩:=B5 hk
  refine vY (c:=ab P (n+1)) (chk:=still (.tup (iN X)) (iN X) 0) (m0:=upd (fun i=>[D.ref b.tab,.int t][i]?) 2 (.tup [.int kd,.tup (iN X)])) an rfl rfl (fun v hv=>st v (hc v hv)) .refl fun l' lp q=>?_
  have v2:=q 2 _ rfl
  exact ah (Ig P) rfl (aH (dY y e (v_ rfl) (v_ rfl)) (ai (av (aF (ar (v_ rfl) k_ aq) k_ rfl)) n1 (eX (cw (ao (ar (v_ rfl) k_ aq) k_) (ao (ar (v_ rfl) k_ aq) k_)) n6 (bg (aO (ar (v_ rfl) k_ bj) rfl (by rw [List.length_map];omega) lp) rfl) (ai (ao (ar (v_ v2) k_ aq) k_) n12 (ai (ao (ar (v_ v2) k_ aq) k_) n18 (aj k_))))))
theorem Pq.cls(z:Pq tn dd T t o):Fv T t:=by
 obtain ⟨kd,r,e,hk⟩:=z.kind
 exact ⟨kd,r,e,.inr (.inr (.inr hk))⟩
theorem Pd.cls(z:Pd tn dd T t lp)(tk:Tok T):Nd (Fv T) T t:=by
 cases lp with
 | str=>cases z;exact .inl ⟨1,_,tk.at (j:=6) rfl,.inl rfl⟩
 | one o=>exact .inl (Pq.cls z)
 | met o p=>
  obtain ⟨a,e,er,z,w⟩:=z
  exact .inr ⟨7,[a,e],er,.inr rfl,f0 rfl,fun x hx=>(bo hx).elim (fun e=>e▸z.cls) fun hx=>cV hx▸w.cls⟩
theorem Ky.cls(y:Ky T key i):Fv T i:=⟨_,_,y.2,(ig key y.1).1.imp _root_.id fun z=>z.elim .inl fun z=>.inr (.inl z)⟩
end
section
variable {l:L}{T:List D}{a x:X}{u:Nat}{p:Ob}{G:Prop}{g:Nat→Option Nat}
theorem EM(hk:cj key=some k):bq lp key=if lp.isS=true∧k=2 then some 64 else bS lp.ob k:=by
 cases lp with
 | one o=>show (match cj key with|some k=>bS _ k|none=>_)=_;rw [hk];rfl
 | met o1 o2=>show (match cj key with|some k=>bS _ k|none=>_)=_;rw [hk];rfl
 | str=>
  show (if key=2∨key=4∨key=6 then some 64 else none)=if true=true∧k=2 then some 64 else As _ k
  unfold cj at hk
  unfold As
  by_cases a:key < 4
  ·rw [if_pos a] at hk;cases hk
   by_cases c:k=2
   ·rw [if_pos (.inl c),if_pos ⟨rfl,c⟩]
   ·rw [if_neg fun z=>z.elim c fun z=>z.elim (fun z=>absurd a (z▸Nat.lt_irrefl 4)) fun z=>absurd a (z▸by decide),if_neg fun z=>c z.2,if_neg fun z=>c z.1];rfl
  ·rw [if_neg a] at hk
   by_cases c:key=4
   ·rw [if_pos c] at hk;cases hk;rw [if_pos (.inr (.inl c)),if_pos ⟨rfl,rfl⟩]
   ·rw [if_neg c] at hk;cases hk
theorem Ku(h:∀ j,j=0∨j=1∨j=2∨j=3∨j=4∨j=5∨j=13→t≠j):ec (.int (t:Int)) [.int 5,.int 4,.int 3,.int 1]=false:=by
 show (((5:Nat):Int)==(t:Int) || (((4:Nat):Int)==(t:Int) || (((3:Nat):Int)==(t:Int) || (((1:Nat):Int)==(t:Int) || false))))=false
 rw [pD (h 5 (by omega)).symm,pD (h 4 (by omega)).symm,pD (h 3 (by omega)).symm,pD (h 1 (by omega)).symm];rfl
theorem kP(e:En b u dd h)(x:In b (n+1000) h)(z:Pd tn dd (b.T h) t lp)(y:Ky (b.T h) key i)(Q:∀ h' d,ab P (m+18) 923 [.ref u,.int t,.int i] h=some (d,h')→In b n h'→Gr b h h'→jc (b.T h') (bq lp key) d→G):G:=by
 refine z.kind x.tok fun kd r e1 ek nn=>?_
 obtain ⟨fm,f1,fc⟩:=mC (P:=P) (n:=m+14) x.ht x.tok z
 have start:∀ {d:D} {hh:H},hU _ (ab P (m+17)) (upd (upd (upd (fun i'=>[D.ref u,.int t,.int i][i']?) 3 (.ref b.tab)) 4 (.int kd)) 5 (AF (cj key))) h d hh→ab P (m+18) 923 [.ref u,.int t,.int i] h=some (d,hh):=fun hr=>
  ah (JE P) rfl (aH (dH e (v_ rfl)) (aH (az (v_ rfl) (v_ rfl) (cz x.ht e1)) (ai (av (aF (v_ rfl) rfl rfl)) (Ku nn) (ai (cw (ao (v_ rfl) k_) (ao (v_ rfl) k_)) (uM ek) (aH (az (v_ rfl) (v_ rfl) (kE x.ht y)) hr)))))
 cases hk:cj key with
 | none=>
  rw [hk,show AF none=.none from rfl] at start
  exact mY (P:=P) (m:=m+1) (n:=n+800) e x z y hk fun h' d e' x' g' z'=>Q h' d (start (ai (fG (av (aF (v_ rfl) k_ rfl))) rfl (ai (av (aF (v_ rfl) k_ rfl)) rfl (aj (ck (v_ rfl) (v_ rfl) (v_ rfl) e'))))) (x'.le (cg n 800)) g' z'
 | some k=>
  rw [hk,show AF (some k)=.str (nm k) from rfl] at start
  have k4:=jA hk
  have tst:=dF (c:=ab P (m+17)) (h:=h) (l:=upd (upd (upd (fun i'=>[D.ref u,.int t,.int i][i']?) 3 (.ref b.tab)) 4 (.int kd)) 5 (.str (nm k))) (av (aF (v_ (i:=5) rfl) (k_ (d:=.none)) (rfl:eF .IsNot _ _ h=some true))) (dF ((ao (az (v_ (i:=3) rfl) (v_ (i:=1) rfl) fc) (k_ (d:=.int 1))).trans (congrArg (fun v=>some (v,h)) f1)) (av (dD (v_ (i:=5) rfl) (mE (P:=P) (n:=m+16) (h:=h) k4))))
  rw [EM hk] at Q
  by_cases q:lp.isS=true∧k=2
  ·rw [if_pos q] at Q
   rw [q.1,decide_eq_true q.2] at tst
   exact Q h (.int 6) (start (aL tst rfl k_)) (x.le (cg n 1000)) .refl ⟨6,rfl,iI (w:=false) (i:=6) (.fix x.tok (by decide) (by decide))⟩
  ·rw [if_neg q] at Q
   refine jt (P:=P) (m:=m) (n:=n) (Y:=[t]) (f:=fun uu=>lp) e x (fun v hv=>cV hv▸z) (List.pairwise_singleton _ _) (.inr (.inl rfl)) (fun q=>nomatch q) (f0 rfl) k4 fun h' d e' x' g' z'=>Q h' d (start (ai tst (Bool.eq_false_iff.mpr fun w=>?_) (aL (av (aF (v_ rfl) k_ rfl)) rfl (ck (v_ rfl) (v_ rfl) (v_ rfl) e')))) x' g' ?_
   ·rw [Bool.true_and,Bool.and_eq_true,decide_eq_true_eq] at w
    exact q w
   ·replace z':jc (b.T h') (if apart [ownOf lp.ob k]=true then none else bw [bS lp.ob k]) d:=z'
    have ap:apart [ownOf lp.ob k]=false:=by show (ownOf lp.ob k != ownOf lp.ob k || false || false)=false;rw [bne_self_eq_false];rfl
    rw [ap,if_neg Bool.false_ne_true,mP fun S e=>z.ok.name e] at z'
    exact z'
noncomputable abbrev K9:XS:=(sq (ay (xt (ac .Eq (xf 172 [(xv 3),(xv 2)]) (ki 6))) (sq (af (xf 888 [(xv 0),(xi (xi (xa (q "rows") (xv 3)) (xv 2)) (ki 1)),(xv 1),(xk (.bool false))])) aa) aa) (sq (ay (xt (ac .Eq (xf 172 [(xv 3),(xv 1)]) (ki 6))) (sq (ay (xt (xf 935 [(xv 0),(xi (xi (xa (q "rows") (xv 3)) (xv 1)) (ki 1)),(xf 829 [(xv 3),(xv 2)])])) (sq (af (bW (ki 1))) aa) aa) (sq (af (xf 888 [(xv 0),(xi (xi (xa (q "rows") (xv 3)) (xv 1)) (ki 1)),(xv 2),(xk (.bool true))])) aa)) aa) (sq (af (xf 923 [(xv 0),(xv 1),(xv 2)])) aa)))
noncomputable abbrev I8(b:Tb)(u t i:Nat):L:=upd (upd (upd (fun j=>[D.ref u,.int t,.int i][j]?) 3 (.ref b.tab)) 1 (.int t)) 2 (.int i)
theorem pB(e:En b u dd h)(y:HT b h T)(kt:Kk T t)(ki:Kk T i)(nt:t≠13∧t≠0∧t≠2)(ni:i≠13∧i≠2)(ot:ab P (n+1) 815 [.ref b.tab,.int t] h=some (.bool false,h))(oi:ab P (n+1) 815 [.ref b.tab,.int i] h=some (.bool false,h))(hr:hU K9 (ab P (n+1)) (I8 b u t i) h d hh):
  ab P (n+2) 942 [.ref u,.int t,.int i] h=some (d,hh):=by
 exact ah (H8 P) rfl (aH (dH e (v_ rfl)) (aH (fh e y kt (v_ rfl) (v_ rfl)) (aH (fh e y ki (v_ rfl) (v_ rfl)) (ai (cw (rR (k:=13) nt.1 (v_ rfl) k_) (rR (k:=13) ni.1 (v_ rfl) k_)) rfl (ai (cw (rR (k:=0) nt.2.1 (v_ rfl) k_) (rR (k:=2) nt.2.2 (v_ rfl) k_)) rfl (ai (rR (k:=2) ni.2 (v_ rfl) k_) rfl
  (ai (cw (av (az (v_ rfl) (v_ rfl) ot)) (av (az (v_ rfl) (v_ rfl) oi))) rfl hr)))))))
theorem pC(e:En b u dd h)(x:In b (n+1000) h)(z:Pd tn dd (b.T h) t lp)(y:Ky (b.T h) key i)(Q:∀ h' d,ab P (m+19) 942 [.ref u,.int t,.int i] h=some (d,h')→In b n h'→Gr b h h'→jc (b.T h') (bq lp key) d→G):G:=by
 refine kP (P:=P) (m:=m) (n:=n) e x z y fun h' d e' x' g' z'=>Q h' d ?_ x' g' z'
 refine z.kind x.tok fun kd r e1 ek nn=>?_
 have k6:(EL key==6)=false:=by rcases (ig key y.1).1 with e|e|e<;>rw [e]<;>rfl
 exact pB (n:=m+17) e x.ht (z.kk x.tok) y.kk ⟨nn 13 (by omega),nn 0 (by omega),nn 2 (by omega)⟩ ⟨y.ne x.tok (by decide),y.ne x.tok (by decide)⟩ (kU (n:=m+16) x.ht (fun uu z=>dK x.ht z) (z.cls x.tok)) (dK x.ht y.cls)
  (ai (ao (az (v_ rfl) (v_ rfl) (cz x.ht y.2)) k_) k6 (ai (ao (az (v_ rfl) (v_ rfl) (cz x.ht e1)) k_) (B7 ek).1 (aj (ck (v_ rfl) (v_ rfl) (v_ rfl) e'))))
noncomputable abbrev K7:XS:=(sq (ae 6 (bz (xt (xv 3)) (xf 942 [(xv 0),(xv 5),(xv 2)]) (xf 942 [(xv 0),(xv 2),(xv 5)]))) (sq (ay (xt (ac .Lt (xv 6) (ki 0))) (sq (af (bW (ki 1))) aa) aa) (sq (bn (dB .append (xv 4) [(xv 6)])) aa)))
abbrev K8(u:Nat)(byo:Bool)(ot:Nat)(y:Nat):List D:=bif byo then [.ref u,.int y,.int ot] else [.ref u,.int ot,.int y]
theorem rB{m0:L}{chk:H→Bool}{bd:XS}(hc:∀ hh,Gr b h0 hh→chk hh=true)(q:Le m0 l)(s:mT b h0 r rs (n+N * ys.length) h1)(hl:rs.length+ys.length < 100)
  (st:∀ v∈ys,∀ n' h' rs l,Le m0 l→mT b h0 r rs (n'+N) h'→rs.length < 99000→∀ G:Prop,(∀ l' h2,g v=none→bd c (upd l i (.int v)) h'=some (.ret d,l',h2)→In b n' h2→Gr b h0 h2→G)→
   (∀ (S tt:Nat) l' h2,g v=some S→bd c (upd l i (.int v)) h'=some (.next,l',h2)→mT b h0 r (rs++[.int tt]) n' h2→b.T h' <+: b.T h2→Le m0 l'→Ty false (b.T h2) S tt→G)→G)
  (Q0:∀ l' h',bC chk i bd c (iN ys) l h1=some (.ret d,l',h')→In b n h'→Gr b h0 h'→none∈ys.map g→G)
  (Q:∀ l' h' rs',bC chk i bd c (iN ys) l h1=some (.next,l',h')→mT b h0 r (rs++rs') n h'→b.T h1 <+: b.T h'→none∉ys.map g→Le m0 l'→FR (b.T h') rs' (ys.map g)→G):G:=by
 induction ys generalizing rs l h1 with
 | nil=>exact Q l h1 [] (aR (hc _ s.g)) (by rw [List.append_nil];exact s) (aJ _) (fun q=>nomatch q) q trivial
 | cons v ys ih=>
  rw [List.length_cons,Nat.mul_succ,←Nat.add_assoc] at s
  rw [List.length_cons] at hl
  refine st v aw _ _ _ _ q s (by omega) _ (fun l' h2 e e2 x2 g2=>Q0 l' h2 (eH (hc _ s.g) e2) (x2.le (cg n _)) g2 (e▸aw)) fun S tt l2 h2 e e2 s2 p2 q2 ty=>?_
  exact ih q2 s2 (by rw [List.length_append];exact cn (Nat.le_of_eq (by rw [List.length_singleton];omega)) hl) (fun w hw=>st w (aE _ hw)) (fun l' h' e4 x4 g4 n4=>Q0 l' h' (aC (hc _ s.g) e2 e4) x4 g4 (aE _ n4)) fun l' h' rs' e4 s4 g4 n4 q4 f4=>Q l' h' (.int tt::rs') (aC (hc _ s.g) e2 e4) (by rw [List.append_assoc] at s4;exact s4) (p2.trans g4) (fun w=>(bo w).elim (fun q=>nomatch e.symm.trans q.symm) n4) q4 ⟨e▸⟨tt,rfl,ty.grow g4⟩,f4⟩
theorem ff(e:En b u dd h)(x:In b (n+1+N * ys.length) h)(i:cF d h (iN ys))(hl:ys.length≤7)
  (st:∀ v∈ys,∀ n' h',In b (n'+N) h'→Gr b h h'→∀ G:Prop,(∀ h2 d,ab P (m+4) 942 (K8 u byo ot v) h'=some (d,h2)→In b n' h2→Gr b h' h2→jc (b.T h2) (g v) d→G)→G)
  (Q:∀ h' d',ab P (m+5) 888 [.ref u,d,.int ot,.bool byo] h=some (d',h')→In b n h'→Gr b h h'→jc (b.T h') (bw (ys.map g)) d'→G):G:=by
 have s0:=x.new
 refine rB (c:=ab P (m+4)) (bd:=K7) (i:=5) (g:=g) (d:=.int (-1)) (l:=upd (fun j=>[D.ref u,d,.int ot,.bool byo][j]?) 4 (.ref (h:List MO).length)) (m0:=upd (fun j=>[D.ref u,d,.int ot,.bool byo][j]?) 4 (.ref (h:List MO).length)) (chk:=still d (iN ys) (knd d (h++[.lst []]:List MO))) (fun hh g=>(i.app).still (i.gr x g)) .refl s0 (by show 0+_ < _;omega) (fun v hv n' h' rs l q s hr G Q0 Q=>?_) (fun l' h' lp x' g' hn=>?_) fun l' h' rs' lp s' p' hn q' f'=>?_
 ·refine st v hv n' h' s.x s.g G fun h2 d e2 x2 g2 z2=>?_
  have q5:Le _ (upd l 5 (.int v)):=q.upd rfl
  have cc:bz (xt (xv 3)) (xf 942 [(xv 0),(xv 5),(xv 2)]) (xf 942 [(xv 0),(xv 2),(xv 5)]) (ab P (m+4)) (upd l 5 (.int v)) h'=some (d,h2):=by
   cases byo with
   | true=>exact cU (av (w_ q5 rfl)) (ck (w_ q5 rfl) (v_ rfl) (w_ q5 rfl) e2)
   | false=>exact cq (av (w_ q5 rfl)) (ck (w_ q5 rfl) (w_ q5 rfl) (v_ rfl) e2)
  cases hg:g v with
  | none=>
   rw [hg] at z2
   cases z2
   exact Q0 _ h2 hg (bg (aA cc) (ja (eK (v_ rfl) k_) rfl rfl)) x2 (s.g.trans g2)
  | some S=>
   rw [hg] at z2
   obtain ⟨tt,rfl,ty⟩:=z2
   have q6:Le _ (upd (upd l 5 (.int v)) 6 (.int tt)):=q5.upd rfl
   have s2:=s.call x2 g2
   exact s2.push (c:=ab P (m+4)) (a:=xv 4) (k:=xv 6) (w_ q6 rfl) (v_ rfl) s2 hr fun h3 e3 s3 T3=>Q S tt _ h3 hg (bg (aA cc) (bI (eK (v_ rfl) k_) (Br tt) (bg (dS e3) rfl))) s3 (T3▸g2.p) q6 (T3▸ty)
 ·exact Q h' _ (ah (Ib P) rfl (ax (x:=ae 4 (br [])) (aA rfl) (uk ⟨_,aO (v_ rfl) i.app.items (by rw [List.length_map];omega) lp⟩))) (x'.le (cg n 1)) g' (by unfold bw;rw [if_pos hn];rfl)
 ·exact gF (P:=P) (m:=m) (d:=.ref (h:List MO).length) s'.x (.inr ⟨_,rfl,s'.e⟩) f' hn (by show rs'.length≤9;rw [f'.length,List.length_map];omega) fun h5 r e5 x5 g5 z5=>Q h5 r (ah (Ib P) rfl (ax (x:=ae 4 (br [])) (aA rfl) (ax (aO (v_ rfl) i.app.items (by rw [List.length_map];omega) lp) (aj (az (dH (e.keep s'.g.k) (w_ q' rfl)) (w_ q' rfl) e5))))) x5 (s'.g.trans g5) z5
end
section
variable {l:L}{T:List D}{a x:X}{u w:Nat}{G:Prop}{om:Option Mb}{mb:Mb}{zs:List (D×Nat)}
theorem F2.pairs{α β:Type}{R:α→β→Prop}{l:List α}{m:List β}(z:F2 R l m):∃ zs:List (α×β),zs.map Prod.fst=l∧zs.map Prod.snd=m∧∀ q∈zs,R q.1 q.2:=by
 induction l generalizing m with
 | nil=>cases m with
  | nil=>exact ⟨[],rfl,rfl,fun q h=>nomatch h⟩
  | cons=>exact z.elim
 | cons a l ih=>cases m with
  | nil=>exact z.elim
  | cons b m=>
   obtain ⟨zs,e1,e2,e3⟩:=ih z.2
   exact ⟨(a,b)::zs,congrArg _ e1,congrArg _ e2,fun q hq=>(bo hq).elim (fun e=>e▸z.1) (e3 q)⟩
theorem nZ(z:Mr tn T k mb d):ab P (n+1) 850 [d] h=some (.bool (!decide (mb.own≠0)),h):=by
 obtain ⟨t,fl,rfl,_,l1,_,w1,_⟩:=z
 have e1:xb .BitAnd (xi (xv 0) (ki 2)) (xb .Add (ki 8) (ki 16)) (ab P n) (fun i=>[D.tup [.str (nm k),.int t,.int fl,.int (oc tn mb.own:Nat)]][i]?) h=some (.int (Builtin.bitAnd (fl:Int) 24),h):=ar (ar (v_ rfl) k_ bT) (ar k_ k_ rfl) rfl
 refine ah (JJ P) rfl (aj ((aF (v:=Builtin.bitAnd (fl:Int) 24==0) e1 k_ gX).trans (congrArg (fun v=>some (D.bool v,h)) ?_)))
 rw [←w1,←(kZ fl l1).2]
 exact (Bool.not_not _).symm
theorem Cn(z:rQ tn T k om d):nI (some (bM (xt (ac .IsNot (xv 6) (xk .none))) (iu (xt (xf 850 [(xv 6)]))))) (ab P (n+1)) (upd l 6 d) h=some (decide (FV om≠0),h):=by
 cases om with
 | none=>cases z;exact fG (av (aF (v_ rfl) k_ rfl))
 | some mb=>exact (iJ (av (aF (v_ rfl) k_ (by obtain ⟨t,fl,rfl,_⟩:=z;rfl))) (ko (av (dD (v_ rfl) (nZ z))))).trans (congrArg (fun v=>some (v,h)) (Bool.not_not _))
theorem wA(z:rQ tn T k om d)(hw:w < 3)(w0:w≠0){r0:D}(z0:∃ a c e,r0=.tup [a,c,e,.int (oc tn w:Nat)]){rs0:List D}(hp:(h:List MO)[p]?=some (.lst (r0::rs0)))(q5:l 5=some (.ref p)):
  dn (xt (ac .Is (xv 4) (xk .none))) (xt (ac .NotEq (xi (xv 4) (ki 3)) (xi (xi (xv 5) (ki 0)) (ki 3)))) c (upd l 4 d) h=some (FV om != w,h):=by
 cases om with
 | none=>cases z;exact (lw (av (aF (v_ rfl) k_ rfl))).trans (congrArg (fun v=>some (v,h)) (bne_iff_ne.mpr w0.symm).symm)
 | some mb=>
  obtain ⟨a,c,e,rfl⟩:=z0
  obtain ⟨t,fl,rfl,_,l1,_,w1,c1⟩:=z
  exact (jl (l:=upd l 4 (kM tn k t fl mb.own)) (av (aF (v_ (i:=4) rfl) (k_ (d:=.none)) (rfl:eF .Is _ _ h=some false))) (fV (ar (v_ (i:=4) rfl) k_ fa) (ar (ar (v_ (i:=5) q5) k_ (aX (t:=0) hp rfl)) k_ fa))).trans (congrArg (fun v=>some (!v,h)) ((ur tn _ c1 _ hw).trans (Bool.eq_iff_iff.mpr (decide_eq_true_iff.trans beq_iff_eq.symm))))
noncomputable abbrev Jz:XS:=(sq (ay (dn (xt (ac .Is (xv 4) (xk .none))) (xt (ac .NotEq (xi (xv 4) (ki 3)) (xi (xi (xv 5) (ki 0)) (ki 3))))) (sq (af (xk (.bool true))) aa) aa) aa)
theorem zv{chk:H→Bool}(hc:chk h=true)(hw:w < 3)(w0:w≠0){r0:D}(z0:∃ a c e,r0=.tup [a,c,e,.int (oc tn w:Nat)]){rs0:List D}(hp:(h:List MO)[p]?=some (.lst (r0::rs0)))(z:∀ q∈zs,rQ tn T k ((f q.2).ob.m k) q.1)(q5:l 5=some (.ref p)):
  ∃ l',bC chk 4 Jz c (zs.map Prod.fst) l h=some (if zs.any (fun q=>ownOf (f q.2).ob k != w)=true then .ret (.bool true) else .next,l',h):=by
 induction zs generalizing l with
 | nil=>exact ⟨l,aR hc⟩
 | cons r zs ih=>
  have tst:=wA (c:=c) (z r aw) hw w0 z0 hp q5
  rw [List.any_cons]
  cases q:(ownOf (f r.2).ob k != w) with
  | true=>exact ⟨_,eH hc (ja tst q k_)⟩
  | false=>exact (ih (l:=upd l 4 r.1) (fun q hq=>z q (aE _ hq)) q5).imp fun l' e=>aC hc (bI tst q rfl) e
theorem oA{L:List Nat}(hw:w∈L):apart L=L.any fun v=>v != w:=by
 rw [Bool.eq_iff_iff]
 refine List.any_eq_true.trans ⟨fun ⟨x,hx,q⟩=>?_,fun q=>?_⟩
 ·obtain ⟨z,hz,q⟩:=List.any_eq_true.mp q
  by_cases e:x=w
  ·exact List.any_eq_true.mpr ⟨z,hz,bne_iff_ne.mpr fun r=>bne_iff_ne.mp q (e.trans r.symm)⟩
  ·exact List.any_eq_true.mpr ⟨x,hx,bne_iff_ne.mpr e⟩
 ·obtain ⟨x,hx,q⟩:=List.any_eq_true.mp q
  exact ⟨x,hx,List.any_eq_true.mpr ⟨w,hw,q⟩⟩
theorem sV(e:En b u dd h)(x:In b (n+500) h)(z:xg tn dd (b.T h) Y f)(hk:k < 4)(hl:Y.length≤7)(Q:∀ h',ab P (m+16) 935 [.ref u,.tup (iN Y),.str (nm k)] h=some (.bool (apart (Y.map fun v=>ownOf (f v).ob k)),h')→In b n h'→Gr b h h'→G):G:=by
 refine jg (c:=ab P (m+15)) (l:=fun j=>[D.ref u,.tup (iN Y),.str (nm k)][j]?) (x:=xf 748 [(xv 0),(xv 6),(xv 2)]) (it:=xv 1) (i:=6) (N:=61) (n:=n) (e:=fun v=>.int v) (R:=fun v d T'=>rQ tn T' k ((f v).ob.m k) d) (fun v d T T' p q=>q.grow p) (v_ rfl) rfl (cn hl (by decide)) (fun uu uu1=>an) (x.le (by omega))
  (fun v hv n' h' x' g' G K=>kA (P:=P) (m:=m) (e.keep g'.k) x' ((z v hv).grow g'.p) hk fun h2 d e2 x2 g2 z2=>K d h2 (ck (v_ rfl) (v_ rfl) (v_ rfl) e2) x2 g2 z2) fun rs h2 cm x2 g2 z2=>?_
 obtain ⟨zs,rfl,e2,zz⟩:=z2.pairs
 have ln:zs.length≤7:=by rw [←List.length_map (f:=Prod.snd),e2];exact hl
 have sA:=x2.newo (o:=.lst (zs.map Prod.fst))
 have TA:b.T (h2++[.lst (zs.map Prod.fst)]:List MO)=b.T h2:=x2.ht.app.eq
 have cm2:=oE (c:=ab P (m+15)) (l:=upd (fun j=>[D.ref u,.tup (iN Y),.str (nm k)][j]?) 3 (.ref (h2:List MO).length)) (it:=xv 3) (i:=6) (e:=xv 6) (ys:=zs) (f:=Prod.fst) (g:=Prod.fst) (tt:=some (bM (xt (ac .IsNot (xv 6) (xk .none))) (iu (xt (xf 850 [(xv 6)]))))) (p:=fun q=>decide (ownOf (f q.2).ob k≠0)) (v_ rfl) (aK sA.e) (cn ln (by decide)) (fun q hq=>Cn (n:=m+14) (zz q hq)) fun uu uu1 uu2=>v_ rfl
 have sB:=sA.x.newo (o:=.lst ((zs.filter fun q=>decide (ownOf (f q.2).ob k≠0)).map Prod.fst))
 have gB:=sB.e
 have gAB:=sA.gr sB.g
 refine Q _ (ah (H9 P) rfl (ai (av (aF (v_ rfl) k_ rfl)) rfl (aH cm (aH cm2 ?_)))) sB.x (g2.trans (sA.g.trans sB.g))
 have em:(Y.map fun v=>ownOf (f v).ob k)=zs.map fun q=>ownOf (f q.2).ob k:=by rw [←e2,List.map_map];rfl
 rw [em]
 have mf:∀ q,q∈zs.filter (fun q=>decide (ownOf (f q.2).ob k≠0))↔q∈zs∧ownOf (f q.2).ob k≠0:=fun q=>List.mem_filter.trans (and_congr_right fun uu=>decide_eq_true_iff)
 rcases hF:zs.filter (fun q=>decide (ownOf (f q.2).ob k≠0)) with _|⟨r0,rs0⟩
 ·have zr:∀ q∈zs,ownOf (f q.2).ob k=0:=fun q hq=>Decidable.byContradiction fun w=>nomatch hF▸(mf q).mpr ⟨hq,w⟩
  have ap:apart (zs.map fun q=>ownOf (f q.2).ob k)=false:=by
   refine Bool.eq_false_iff.mpr fun w=>?_
   obtain ⟨x,hx,w⟩:=List.any_eq_true.mp w
   obtain ⟨y,hy,w⟩:=List.any_eq_true.mp w
   obtain ⟨q,hq,rfl⟩:=bR hx
   obtain ⟨q',hq',rfl⟩:=bR hy
   exact bne_iff_ne.mp w ((zr q hq).trans (zr q' hq').symm)
  rw [ap]
  replace gB:=gB.trans (congrArg (fun z=>some (MO.lst (z.map Prod.fst))) hF)
  exact aL (ao (bZ (aQ (v_ rfl)) (dU gB)) k_) rfl k_
 ·obtain ⟨hq,w0⟩:=(mf r0).mp (hF▸aw)
  replace gB:=gB.trans (congrArg (fun z=>some (MO.lst (z.map Prod.fst))) hF)
  have l0f:(((rs0.map Prod.fst).length+1:Nat)==(0:Int))=false:=pD (Nat.succ_ne_zero _)
  have r0s:∃ a c e,r0.1=.tup [a,c,e,.int (oc tn (ownOf (f r0.2).ob k):Nat)]:=by
   have zq:=zz r0 hq
   unfold ownOf at w0 ⊢
   cases hm:(f r0.2).ob.m k with
   | none=>rw [hm] at w0;exact absurd rfl w0
   | some mb=>rw [hm] at zq;obtain ⟨t,fl,e,_⟩:=zq;exact ⟨_,_,_,e⟩
  obtain ⟨l',lp⟩:=zv (w:=ownOf (f r0.2).ob k) (c:=ab P (m+15)) (chk:=still (.ref (h2:List MO).length) (zs.map Prod.fst) (knd (.ref (h2:List MO).length) _)) (l:=upd (upd (fun j=>[D.ref u,.tup (iN Y),.str (nm k)][j]?) 3 (.ref (h2:List MO).length)) 5 (.ref (h2++[.lst (zs.map Prod.fst)]:List MO).length)) (bE (aK gAB) rfl) (zz r0 hq).own w0 r0s gB zz rfl
  have lps:=aO (a:=xv 3) (i:=4) (v_ rfl) (aK gAB) (by rw [List.length_map];exact cn ln (by decide)) lp
  rw [(oA (List.mem_map.mpr ⟨r0,hq,rfl⟩)).trans List.any_map]
  show hU _ _ _ _ (.bool (zs.any fun q=>ownOf (f q.2).ob k != ownOf (f r0.2).ob k)) _
  refine ai (ao (bZ (aQ (v_ rfl)) (dU gB)) k_) l0f ?_
  cases hq:zs.any fun q=>ownOf (f q.2).ob k != ownOf (f r0.2).ob k with
  | true=>
   rw [hq] at lps
   exact uk ⟨_,lps⟩
  | false=>
   rw [hq] at lps
   exact ax lps (aj k_)
end
noncomputable def d6(lp:LP):Option Nat:=if lp.ob.tx.isSome=true then lp.ob.tx else lp.ob.dg
noncomputable def bQ(L:List LP)(key:Nat):Option Nat:=if ((cj key).any fun k=>apart (L.map fun p=>ownOf p.ob k))=true then none else bw (L.map fun p=>bq p key)
def Wh(tn:Bool)(dd:Option (Nat×Nat))(T:List D)(t:Nat)(Y:List Nat)(f:Nat→LP):Prop:=Un T t Y∧Y≠[]∧Y.Nodup∧Y.length≤7∧xg tn dd T Y f
section
variable {l:L}{T:List D}{a x:X}{u w:Nat}{G:Prop}{kf:Nat→Nat}
noncomputable abbrev Kr:XS:=ay (xt (ac .NotIn (xv 3) (am [(ki 5),(ki 4),(ki 3),(ki 1)]))) (sq (ae 4 (xf 793 [(xv 0),(xv 3),(ki 0)])) (sq (ay (xt (ac .Eq (xv 4) (am []))) (sq (ae 4 (xf 793 [(xv 0),(xv 3),(ki 1)])) aa) aa) aa)) aa
noncomputable abbrev K3:XS:=(sq (ae 4 (am [])) (sq Kr (sq (ay (xt (ac .Eq (xv 4) (am []))) (sq (af (ki 2)) aa) aa) (sq (bn (dB .append (xv 2) [(xi (xv 4) (ki 0))])) aa))))
theorem Bm{m0:L}(e:En b u dd h)(x:In b (n+130) h)(z:Pd tn dd (b.T h) t lp)(q:Le m0 l)(m00:m0 0=some (.ref u))(m4:m0 4=none)(q3:l 3=some (.int t))(Q:∀ l' d h',Kr (ab P (m+15)) l h=some (.next,l',h')→Le m0 l'→l' 4=some d→In b n h'→Gr b h h'→Cl (b.T h') (d6 lp) d→G):G:=by
 have tst:xt (ac .NotIn (xv 3) (am [(ki 5),(ki 4),(ki 3),(ki 1)])) (ab P (m+15)) l h=some (true,h):=av ((aF (v_ q3) rfl rfl).trans (congrArg (fun v=>some (D.bool (!v),h)) (z.kind x.tok fun uu uu1 uu2 uu3 nn=>Ku nn)))
 refine eD (P:=P) (m:=m) (n:=n+69) false e x z fun h2 d e2 x2 g2 cl=>?_
 replace cl:Cl (b.T h2) lp.ob.tx d:=cl
 have s1:=aA (i:=4) (ck (c:=ab P (m+15)) (w_ q m00) (v_ q3) (k_ (d:=.int 0)) e2)
 have ce:=Aa (c:=ab P (m+15)) (l:=upd l 4 d) (h:=h2) (i:=4) cl rfl
 unfold d6 at Q
 cases hx:lp.ob.tx with
 | some S=>
  rw [hx] at ce cl Q
  exact Q _ d h2 (mq tst (bg s1 (bI ce rfl rfl))) (q.upd m4) rfl (x2.le (cg n 69)) g2 cl
 | none=>
  rw [hx] at ce Q
  refine eD (P:=P) (m:=m) (n:=n+8) true (e.keep g2.k) x2 (z.grow g2.p) fun h3 d3 e3 x3 g3 cl3=>?_
  exact Q _ d3 h3 (mq tst (bg s1 (j2 ce rfl (bg (aA (ck (w_ (q.upd m4) m00) (v_ q3) k_ e3)) rfl) rfl))) ((q.upd m4).upd m4) rfl (x3.le (cg n 8)) (g2.trans g3) cl3
theorem Wh.grow(w:Wh tn dd T t Y f)(p:T <+: T'):Wh tn dd T' t Y f:=⟨w.1.grow p,w.2.1,w.2.2.1,w.2.2.2.1,w.2.2.2.2.grow p⟩
theorem Nd.up{C C':Nat→Prop}(z:Nd C T t)(hc:∀ x,C x→C' x):Nd C' T t:=z.imp_right fun ⟨kd,X,e,hk,hX,q⟩=>⟨kd,X,e,hk,hX,fun x hx=>hc x (q x hx)⟩
abbrev Nt(t:Nat):Prop:=∀ j,j=0∨j=1∨j=2∨j=3∨j=4∨j=5∨j=10∨j=13→t≠j
theorem lu(tk:Tok T)(e:T[t]?=some (.tup [.int 6,.tup (iN Y)])):Nt t:=fun j hj q=>by
 have no:∀ {s:Str},bJ[j]?=some (.tup [.int 1,.str s])→False:=fun ej=>by
  rw [q,tk.at ej] at e
  cases e
 rcases hj with rfl|rfl|rfl|rfl|rfl|rfl|rfl|rfl<;>exact no rfl
theorem Wh.pt(w:Wh tn dd T t Y f)(tk:Tok T):Pt T t Y∧Kk T t∧(t≠13∧t≠0∧t≠2)∧Nd (Nd (Fv T) T) T t:=by
 obtain ⟨un,ne,nd,len,pts⟩:=w
 rcases un with ⟨e,_⟩|rfl|⟨h2,e⟩
 ·exact absurd e ne
 ·have z:=pts t aw
  exact z.kind tk fun kd r e1 ek nn=>⟨.one (nn 2 (by omega)) e1 (beq_eq_false_iff_ne.mp (B7 ek).1),z.kk tk,⟨nn 13 (by omega),nn 0 (by omega),nn 2 (by omega)⟩,(z.cls tk).up fun uu=>.inl⟩
 ·exact ⟨.un (lu tk e _ (by omega)) e,⟨6,_,e,by decide,by decide⟩,⟨lu tk e _ (by omega),lu tk e _ (by omega),lu tk e _ (by omega)⟩,.inr ⟨6,Y,e,.inl rfl,by omega,fun x hx=>(pts x hx).cls tk⟩⟩
theorem Wh.op(w:Wh tn dd T t Y f)(y:HT b h T)(tk:Tok T):ab P (n+3) 815 [.ref b.tab,.int t] h=some (.bool false,h):=kU (n:=n+1) y (fun uu z=>kU y (fun uu z=>dK y z) z) (w.pt tk).2.2.2
theorem yG(e:En b u dd h)(x:In b (n+1000) h)(w:Wh tn dd (b.T h) t Y f)(Q:∀ h' (r:Nat),ab P (m+17) 942 [.ref u,.int t,.int 2] h=some (.int r,h')→In b n h'→Gr b h h'→Ty false (b.T h') ((bw (Y.map (d6 ∘ f))).getD 0) r→G):G:=by
 obtain ⟨pt,kt,⟨n13,n0,n2⟩,_⟩:=w.pt x.tok
 have hl:=w.2.2.2.1
 have start:∀ {d:D} {hh:H},ab P (m+16) 930 [.ref u,.int t] h=some (d,hh)→ab P (m+17) 942 [.ref u,.int t,.int 2] h=some (d,hh):=fun hr=>
  ah (H8 P) rfl (aH (dH e (v_ rfl)) (aH (fh e x.ht kt (v_ rfl) (v_ rfl)) (aH (fh (t:=2) e x.ht ⟨1,_,x.tok.at (j:=2) rfl,by decide,by decide⟩ (v_ rfl) (v_ rfl)) (ai (cw (rR (k:=13) n13 (v_ rfl) k_) (ao (v_ rfl) k_)) rfl (ai (cw (rR (k:=0) n0 (v_ rfl) k_) (rR (k:=2) n2 (v_ rfl) k_)) rfl (aL (ao (v_ rfl) k_) rfl (cq (av (az (v_ rfl) (v_ rfl) (w.op x.ht x.tok))) (az (v_ rfl) (v_ rfl) hr))))))))
 have ps:xf 233 [(xa (q "tab") (xv 0)),(xv 1)] (ab P (m+15)) (upd (fun j=>[D.ref u,.int t][j]?) 2 (.ref (h:List MO).length)) (h++[.lst []]:List MO)=some (.tup (iN Y),(h++[.lst []]:List MO)):=az (dH (e.keep dE.app) (v_ rfl)) (v_ rfl) (dZ x.ht.app pt)
 have s0:=(x.le (Nat.add_le_add_left (show 1+130 * Y.length≤1000 by omega) n)).new
 refine rB (n:=n+1) (N:=130) (c:=ab P (m+15)) (bd:=K3) (i:=3) (g:=d6 ∘ f) (d:=.int 2) (l:=upd (fun j=>[D.ref u,.int t][j]?) 2 (.ref (h:List MO).length)) (m0:=upd (fun j=>[D.ref u,.int t][j]?) 2 (.ref (h:List MO).length)) (chk:=still (.tup (iN Y)) (iN Y) 0) (ys:=Y) (rs:=[]) (fun uu uu1=>an) .refl (by rw [Nat.add_assoc];exact s0) (by show 0+_ < _;omega) (fun v hv n' h' rs l q s hr G Q0 Q=>?_) (fun l' h' lp x' g' hn=>?_) fun l' h' rs' lp s' p' hn q' f'=>?_
 ·refine Bm (P:=P) (m:=m) (l:=upd (upd l 3 (.int v)) 4 (.tup [])) (e.keep s.g.k) s.x ((w.2.2.2.2 v hv).grow s.g.p) ((q.upd (z:=.int v) rfl).upd rfl) rfl rfl rfl fun lc d h2 e2 q2 q4 x2 g2 cl=>?_
  have ce:=Aa (c:=ab P (m+15)) (h:=h2) cl q4
  cases hg:d6 (f v) with
  | none=>
   rw [hg] at ce
   exact Q0 _ h2 hg (bg (aA rfl) (bg e2 (ja ce rfl k_))) x2 (s.g.trans g2)
  | some S=>
   rw [hg] at ce cl
   obtain ⟨tt,rfl,ty⟩:=cl
   have s2:=s.call x2 g2
   exact s2.push (c:=ab P (m+15)) (a:=xv 2) (k:=xi (xv 4) (ki 0)) (w_ q2 rfl) (ar (v_ q4) k_ aq) s2 hr fun h3 e3 s3 T3=>Q S tt _ h3 hg (bg (aA rfl) (bg e2 (bI ce rfl (bg (dS e3) rfl)))) s3 (T3▸g2.p) q2 (T3▸ty)
 ·exact Q h' 2 (start (ah (Ia P) rfl (ax (x:=ae 2 (br [])) (aA rfl) (uk ⟨_,aO ps rfl (by rw [List.length_map];omega) lp⟩)))) (x'.le (cg n 1)) g' (by unfold bw;rw [if_pos hn];exact oF)
 ·refine gF (P:=P) (m:=m+11) (d:=.ref (h:List MO).length) s'.x (.inr ⟨_,rfl,s'.e⟩) f' hn (by show rs'.length≤9;rw [f'.length,List.length_map];omega) fun h5 r e5 x5 g5 z5=>?_
  unfold bw at z5 Q
  rw [if_neg hn] at z5 Q
  obtain ⟨r,rfl,ty⟩:=z5
  exact Q h5 r (start (ah (Ia P) rfl (ax (x:=ae 2 (br [])) (aA rfl) (ax (aO ps rfl (by rw [List.length_map];omega) lp) (aj (az (dH (e.keep s'.g.k) (w_ q' rfl)) (w_ q' rfl) e5)))))) x5 (s'.g.trans g5) ty
end
section
variable {l:L}{T:List D}{a x:X}{u w:Nat}{G:Prop}{kf:Nat→Nat}
theorem zg{α:Type}{q:Prop}[Decidable q]{a:α}{S:α}(e:(if q then some a else none)=some S):S=a:=by
 split at e
 ·cases e;rfl
 ·cases e
theorem dN(x:lp.ob.Ok)(e:bq lp key=some S):bY S:=by
 have sel:∀ {q:Prop} [Decidable q] {a c:Option Nat},(if q then a else c)=some S→a=some S∨c=some S:=fun {q} uu {a c} e=>by
  split at e
  ·exact .inl e
  ·exact .inr e
 have gen:(match cj key with
  | some k=>bS lp.ob k
  | none=>if key=6 then (if lp.ob.dg.isSome=true then lp.ob.dg else lp.ob.tx) else if key=7 then (if lp.ob.tx.isSome=true then lp.ob.tx else lp.ob.dg) else lp.ob.tx)=some S→bY S:=fun e=>by
  cases hk:cj key with
  | some k=>rw [hk] at e;exact x.name e
  | none=>
   rw [hk] at e
   have e:lp.ob.dg=some S∨lp.ob.tx=some S:=(sel e).elim sel fun e=>(sel e).elim (fun e=>(sel e).symm) .inr
   exact e.elim (x.dg S) (x.tx S)
 cases lp with
 | str=>exact zg e▸yE (w:=false) (i:=6) (by decide)
 | one o=>exact gen e
 | met o1 o2=>exact gen e
theorem fT(h:∀ S,some S∈ans→bY S)(e:bw ans=some S):bY S:=by
 unfold bw at e
 split at e
 ·cases e
 ·cases e
  exact ic (yx fun s hs=>by
   obtain ⟨o,ho,eo⟩:=List.mem_filterMap.mp hs
   exact (h s ((eo:o=some s)▸ho)).lt)
theorem fY(h:∀ p∈Ls,p.ob.Ok)(e:bQ Ls key=some S):bY S:=by
 unfold bQ at e
 split at e
 ·cases e
 ·refine fT (fun S hS=>?_) e
  obtain ⟨p,hp,e⟩:=bR hS
  exact dN (h p hp) e
theorem nT(ok:lp.ob.Ok):bQ [lp] key=bq lp key:=by
 have ap:((cj key).any fun k=>apart ([lp].map fun p=>ownOf p.ob k))=false:=by
  cases cj key with
  | none=>rfl
  | some k=>show (ownOf lp.ob k != ownOf lp.ob k || false || false)=false;rw [bne_self_eq_false];rfl
 unfold bQ
 rw [ap,if_neg Bool.false_ne_true]
 exact mP fun S e=>dN ok e
theorem Wh.ok(w:Wh tn dd T t Y f):∀ p∈Y.map f,p.ob.Ok:=fun p hp=>by
 obtain ⟨v,hv,rfl⟩:=bR hp
 exact (w.2.2.2.2 v hv).ok
theorem tq(e:En b u dd h)(x:In b (n+7600) h)(w:Wh tn dd (b.T h) t Y f)(y:Ky (b.T h) key i)(Q:∀ h' d,ab P (m+21) 942 [.ref u,.int t,.int i] h=some (d,h')→In b n h'→Gr b h h'→jc (b.T h') (bQ (Y.map f) key) d→G):G:=by
 obtain ⟨_,kt,nt,_⟩:=w.pt x.tok
 have k6:(EL key==6)=false:=by rcases (ig key y.1).1 with e|e|e<;>rw [e]<;>rfl
 have hl:=w.2.2.2.1
 rcases w.1 with ⟨q,_⟩|rfl|⟨h2,eu⟩
 ·exact absurd q w.2.1
 ·have z:=w.2.2.2.2 t aw
  exact pC (P:=P) (m:=m+2) (n:=n) e (x.le (by omega)) z y fun h' d e' x' g' z'=>Q h' d e' x' g' ((nT z.ok).symm▸z')
 ·have row:∀ {h1:H} {l:L},In b 0 h1→Gr b h h1→l 3=some (.ref b.tab)→l 1=some (.int t)→xi (xi (xa (q "rows") (xv 3)) (xv 1)) (ki 1) (ab P (m+20)) l h1=some (.tup (iN Y),h1):=fun x g q3 q1=>ar (dY x.ht (aU g.p eu) (v_ q3) (v_ q1)) k_ bj
  have head:∀ {h1 h2:H} {d:D} {v:Bool},xt (xf 935 [(xv 0),(xi (xi (xa (q "rows") (xv 3)) (xv 1)) (ki 1)),(xf 829 [(xv 3),(xv 2)])]) (ab P (m+20)) (I8 b u t i) h=some (v,h1)→(v=true∧d=.int (-1)∧h1=h2∨v=false∧In b 0 h1∧Gr b h h1∧ab P (m+20) 888 [.ref u,.tup (iN Y),.int i,.bool true] h1=some (d,h2))→ab P (m+21) 942 [.ref u,.int t,.int i] h=some (d,h2):=fun {h1 h2 d v} tst hr=>
   pB (n:=m+19) e x.ht kt y.kk nt ⟨y.ne x.tok (by decide),y.ne x.tok (by decide)⟩ (w.op (n:=m+17) x.ht x.tok) (dK x.ht y.cls) (ai (ao (az (v_ rfl) (v_ rfl) (cz x.ht y.2)) k_) k6 (FL (ao (az (v_ rfl) (v_ rfl) (cz x.ht eu)) k_) rfl (hr.elim (fun ⟨e1,e2,e3⟩=>e2▸e3▸aL tst e1 rfl) fun ⟨e1,x1,g1,e4⟩=>ai tst e1 (aj (rO (bV (v_ rfl) (dW (row x1 g1 rfl rfl) (v_ rfl) k_)) e4)))))
  have fin:∀ {h1:H},In b (n+7001) h1→Gr b h h1→xt (xf 935 [(xv 0),(xi (xi (xa (q "rows") (xv 3)) (xv 1)) (ki 1)),(xf 829 [(xv 3),(xv 2)])]) (ab P (m+20)) (I8 b u t i) h=some (false,h1)→(∀ h' d,ab P (m+21) 942 [.ref u,.int t,.int i] h=some (d,h')→In b n h'→Gr b h h'→jc (b.T h') (bw ((Y.map f).map fun p=>bq p key)) d→G)→G:=fun {h1} x1 g1 tst Q=>
   ff (P:=P) (m:=m+15) (n:=n) (N:=1000) (byo:=true) (ot:=i) (d:=.tup (iN Y)) (g:=fun v=>bq (f v) key) (e.keep g1.k) (x1.le (by omega)) (.inl rfl) hl (fun v hv n' h' x' g' G K=>pC (P:=P) (m:=m) (n:=n') ((e.keep g1.k).keep g'.k) x' ((w.2.2.2.2 v hv).grow (g1.trans g').p) (y.grow (g1.trans g').p) K) fun h' d e' x' g' z'=>Q h' d (head tst (.inr ⟨rfl,x1.le (Nat.zero_le _),g1,e'⟩)) x' (g1.trans g') (by rw [List.map_map];exact z')
  have kt:=kE (P:=P) (n:=m+18) (h:=h) x.ht y
  unfold bQ at Q
  cases hk:cj key with
  | none=>
   rw [hk] at kt Q
   exact fin (x.le (by omega)) .refl (av (ck (v_ rfl) (row (x.le (Nat.zero_le _)) .refl rfl rfl) (az (v_ rfl) (v_ rfl) kt) (ah (H9 P) rfl (aL (av (aF (v_ rfl) k_ rfl)) rfl k_)))) Q
  | some k=>
   rw [hk] at kt Q
   refine sV (P:=P) (m:=m+4) (n:=n+7001) e (x.le (by omega)) w.2.2.2.2 (jA hk) hl fun h1 e1 x1 g1=>?_
   have tst:=av (ck (v_ (l:=I8 b u t i) (i:=0) rfl) (row (x.le (Nat.zero_le _)) .refl rfl rfl) (az (v_ (i:=3) rfl) (v_ (i:=2) rfl) kt) e1)
   replace Q:∀ h' d,_→_→_→jc (b.T h') (if apart ((Y.map f).map fun p=>ownOf p.ob k)=true then none else bw ((Y.map f).map fun p=>bq p key)) d→G:=Q
   have em:((Y.map f).map fun p=>ownOf p.ob k)=Y.map fun v=>ownOf (f v).ob k:=List.map_map
   rw [em] at Q
   cases ha:apart (Y.map fun v=>ownOf (f v).ob k) with
   | false=>
    rw [ha] at tst
    exact fin x1 g1 tst fun h' d a1 a2 a3 a4=>Q h' d a1 a2 a3 (by rw [ha,if_neg Bool.false_ne_true];exact a4)
   | true=>
    rw [ha] at tst
    exact Q h1 _ (head tst (.inl ⟨rfl,rfl,rfl⟩)) (x1.le (cg n _)) g1 (by rw [if_pos ha];rfl)
theorem ER(e:En b u dd h)(x:In b (n+15300) h)(w:Wh tn dd (b.T h) t Y f)(un:Un (b.T h) j I)(h0:I≠[])(hl:I.length≤2)(y:∀ v∈I,Ky (b.T h) (kf v) v)(Q:∀ h' d,ab P (m+23) 942 [.ref u,.int t,.int j] h=some (d,h')→In b n h'→Gr b h h'→jc (b.T h') (bw (I.map fun v=>bQ (Y.map f) (kf v))) d→G):G:=by
 rcases un with ⟨q,_⟩|rfl|⟨h2,eu⟩
 ·exact absurd q h0
 ·exact tq (P:=P) (m:=m+2) (n:=n) e (x.le (by omega)) w (y j aw) fun h' d e' x' g' z'=>Q h' d e' x' g' ((mP fun S e=>fY w.ok e).symm▸z')
 ·obtain ⟨_,kt,nt,_⟩:=w.pt x.tok
  exact ff (P:=P) (m:=m+17) (n:=n) (N:=7600) (byo:=false) (ot:=t) (d:=.tup (iN I)) (g:=fun v=>bQ (Y.map f) (kf v)) e (x.le (by omega)) (.inl rfl) (by omega) (fun v hv n' h' x' g' G K=>tq (P:=P) (m:=m) (n:=n') (e.keep g'.k) x' (w.grow g'.p) ((y v hv).grow g'.p) K) fun h' d e' x' g' z'=>Q h' d
   (pB (n:=m+21) e x.ht kt ⟨6,_,eu,by decide,by decide⟩ nt ⟨lu x.tok eu _ (by omega),lu x.tok eu _ (by omega)⟩ (w.op (n:=m+19) x.ht x.tok) (kU (n:=m+20) x.ht (fun uu z=>dK x.ht z) (.inr ⟨6,I,eu,.inl rfl,by omega,fun v hv=>(y v hv).cls⟩)) (aL (ao (az (v_ rfl) (v_ rfl) (cz x.ht eu)) k_) rfl (rO (bV (v_ rfl) (dW (ar (dY x.ht eu (v_ rfl) (v_ rfl)) k_ bj) (v_ rfl) k_)) e'))) x' g' z'
end
noncomputable def nc(o:Ob)(k:Nat):Bool:=(o.m k).any fun m=>!decide (m.own≠0)
noncomputable def kvs(lp:LP):List Nat:=[2,0,1].filter (nc lp.ob)++(bif lp.ob.tx.isSome then [6,7] else [])++(bif lp.ob.dg.isSome || lp.isS then [7] else [])
abbrev BL(w:Bool)(T:List D)(ts vs:List Nat):Prop:=F2 (fun t v=>Bt w T v t) ts vs
section
variable {l:L}{T:List D}{a x:X}{u:Nat}{ks:List Nat}{G:Prop}{mb:Mb}
theorem BL.grow(p:T <+: T')(x:BL w T ts vs):BL w T' ts vs:=x.imp fun uu uu1 uu2 z=>z.grow p
theorem F2.snoc{α β:Type}{R:α→β→Prop}{l:List α}{m:List β}{a:α}{b:β}(x:F2 R l m)(z:R a b):F2 R (l++[a]) (m++[b]):=x.append ⟨z,trivial⟩
theorem CG(hk:k < 4)(e:T[t]?=some (.tup [.int 3,.str (nm k),.int 0])):Bt true T k t:=
 ⟨Nat.lt_of_lt_of_le hk (by decide),e.trans (iE (M:=fun k=>some (D.tup [.int 3,.str (nm k),.int 0])=some (pJ true k)) hk rfl rfl rfl rfl)⟩
noncomputable abbrev KU:XS:=sq (ay (xt (xf 850 [(xv 5)])) (sq (bn (dB .append (xv 4) [(xf 180 [(xv 2),(xi (xv 5) (ki 0))])])) aa) aa) aa
theorem AL{m0:L}{chk:H→Bool}(hc:∀ hh,chk hh=true)(st:∀ k∈ks,∃ m,o.m k=some m∧k < 3∧Mr tn T k m (g k))(m2:m0 2=some (.ref b.tab))(m4:m0 4=some (.ref r))(m5:m0 5=none)(q:Le m0 l)(s:mT b h0 r (iN ts) (n+ks.length) h1)(bl:BL true (b.T h1) ts vs)(hl:ts.length+ks.length < 99)
  (Q:∀ l' h' ts',bC chk 5 KU (ab P (m+2)) (ks.map g) l h1=some (.next,l',h')→mT b h0 r (iN ts') n h'→b.T h1 <+: b.T h'→BL true (b.T h') ts' (vs++ks.filter (nc o))→Le m0 l'→G):G:=by
 induction ks generalizing ts vs l h1 with
 | nil=>exact Q l h1 ts (aR (hc _)) s (aJ _) (by rw [List.filter_nil,List.append_nil];exact bl) q
 | cons k ks ih=>
  obtain ⟨mb,em,k3,pm⟩:=st k aw
  have epub:nc o k=!decide (mb.own≠0):=by unfold nc;rw [em];rfl
  have tst:xt (xf 850 [(xv 5)]) (ab P (m+2)) (upd l 5 (g k)) h1=some (nc o k,h1):=epub▸av (dD (v_ rfl) (nZ pm))
  have q5:Le m0 (upd l 5 (g k)):=q.upd m5
  rw [List.length_cons] at hl
  rw [List.length_cons,←Nat.add_assoc] at s
  rw [List.filter_cons] at Q
  cases hp:nc o k with
  | false=>
   rw [hp] at tst
   rw [hp,if_neg Bool.false_ne_true] at Q
   exact ih (fun k hk=>st k (aE _ hk)) q5 ⟨s.x.le (Nat.le_succ _),s.g,s.le,s.ne,s.z,s.e⟩ bl (by omega) fun l' h' ts' e=>Q l' h' ts' (aC (hc _) (bI tst rfl rfl) e)
  | true=>
   rw [hp] at tst
   rw [hp,if_pos rfl] at Q
   obtain ⟨row,er⟩:=pm.row
   refine gH (P:=P) (m:=m) (s:=nm k) s.x fun h2 t e2 x2 g2 row2=>?_
   have s2:=s.call x2 g2
   refine s.push (l:=upd l 5 (g k)) (a:=xv 4) (k:=xf 180 [(xv 2),(xi (xv 5) (ki 0))]) (w_ q5 m4) (az (w_ q5 m2) (ar (v_ rfl) k_ (er▸aq)) e2) s2 (by rw [List.length_map];omega) fun h3 e3 s3 T3=>?_
   rw [iq] at s3
   exact ih (fun k hk=>st k (aE _ hk)) q5 s3 ((T3▸bl.grow g2.p:BL true (b.T h3) ts vs).snoc (T3▸CG (by omega) row2)) (by rw [List.length_append];exact cn (Nat.le_of_eq (by rw [List.length_singleton];omega)) hl) fun l' h' ts' e s' p' bl'=>Q l' h' ts' (aC (hc _) (j2 tst rfl (bg (dS e3) rfl) rfl) e) s' (g2.p.trans (T3▸p')) (by rw [List.append_assoc] at bl';exact bl')
theorem BR:(fU o.m).filter (nc o)=[2,0,1].filter (nc o):=by
 unfold fU
 rw [List.filter_filter]
 refine List.filter_congr fun k uu=>?_
 unfold nc
 cases o.m k<;>simp
theorem nb(e:En b u dd h)(x:In b (n+64) h)(z:Pd tn dd (b.T h) t lp)(Q:∀ h' r ts,ab P (m+15) 857 [.ref u,.int t] h=some (.ref r,h')→In b n h'→Gr b h h'→(h':List MO)[r]?=some (.lst (iN ts))→BL true (b.T h') ts (kvs lp)→G):G:=by
 refine jq (P:=P) (m:=m) (n:=n+3) e x z fun h2 s r c2 x2 g2 m6 m7=>?_
 obtain ⟨g,cs,cd,rfl,ddh,k1,k2⟩:=m7
 have hl3:(fU lp.ob.m).length≤3:=List.length_filter_le _ [2,0,1]
 have s2:ae 3 (xi (xa (q "rows") (xv 2)) (dT "shape" (xv 0) [(xv 1)])) (ab P (m+14)) (upd (fun j=>[D.ref u,.int t][j]?) 2 (.ref b.tab)) h=some (.next,upd (upd (fun j=>[D.ref u,.int t][j]?) 2 (.ref b.tab)) 3 (.tup [.int 8,.tup ((fU lp.ob.m).map g),.tup [],.tup [],cs,cd,.int 0]),h2):=aA (ar (qo x.ht (v_ rfl)) (rZ e (v_ rfl) (aQ (v_ rfl)) c2) (aX x2.ht.r m6))
 have s0:=x2.new
 have T0:b.T (h2++[.lst []]:List MO)=b.T h2:=x2.ht.app.eq
 refine AL (P:=P) (o:=lp.ob) (g:=g) (T:=b.T h2) (m:=m+12) (n:=n) (m0:=upd (upd (upd (fun j=>[D.ref u,.int t][j]?) 2 (.ref b.tab)) 3 (.tup [.int 8,.tup ((fU lp.ob.m).map g),.tup [],.tup [],cs,cd,.int 0])) 4 (.ref (h2:List MO).length)) (ts:=[]) (vs:=[]) (chk:=still (.tup ((fU lp.ob.m).map g)) ((fU lp.ob.m).map g) 0) (fun uu=>an) (fun k hk=>ddh.get hk fun m a b c=>⟨m,a,b,c⟩) rfl rfl rfl .refl ⟨s0.x.le (Nat.add_le_add_left hl3 n),s0.g,s0.le,s0.ne,s0.z,s0.e⟩ trivial (by show 0+_ < _;omega) fun l' h3 ts lp1 s3 p3 bl q=>?_
 rw [List.nil_append,BR] at bl
 have start:∀ {d:D} {hh:H},hU _ (ab P (m+14)) l' h3 d hh→ab P (m+15) 857 [.ref u,.int t] h=some (d,hh):=fun hr=>
  ah (JI P) rfl (aH (dH e (v_ rfl)) (ax s2 (ax (x:=ae 4 (br [])) (aA rfl) (ai (ly (ar (v_ rfl) k_ aq) k_ (show pR (.int 8) (.int 8)=some true from rfl)) rfl (ax (aO (ar (v_ rfl) k_ bj) rfl (by rw [List.length_map];omega) lp1) hr)))))
 have ap:∀ {ts:List Nat} {v:Nat} {h:H},mT b h2 (h2:List MO).length (iN ts) n h→ts.length < 90→∀ G:Prop,(∀ h',dB .append (xv 4) [(ki v)] (ab P (m+14)) l' h=some (.none,h')→mT b h2 (h2:List MO).length (iN (ts++[v])) n h'→b.T h'=b.T h→G)→G:=fun {ts v h} s hl G Q=>
  s.push (c:=ab P (m+14)) (l:=l') (a:=xv 4) (k:=ki v) (w_ q rfl) k_ s (by rw [List.length_map];omega) fun h' e s'=>Q h' e (iq▸s')
 have b6:∀ {h},In b n h→Bt true (b.T h) 6 6:=fun x=>.fix x.tok (by decide) (by decide)
 have b7:∀ {h},In b n h→Bt true (b.T h) 7 7:=fun x=>.fix x.tok (by decide) (by decide)
 have l3:ts.length≤3:=bl.length.symm▸List.length_filter_le _ [2,0,1]
 have mid:∀ G:Prop,(∀ h4 ts4,(∀ {d:D} {hh:H} {rest:XS},hU rest (ab P (m+14)) l' h4 d hh→hU (sq (ay (xt (ac .NotEq (xi (xv 3) (ki 4)) (am []))) (sq (bn (dB .append (xv 4) [(ki 6)])) (sq (bn (dB .append (xv 4) [(ki 7)])) aa)) aa) rest) (ab P (m+14)) l' h3 d hh)→mT b h2 (h2:List MO).length (iN ts4) n h4→b.T h4=b.T h3→BL true (b.T h4) ts4 ([2,0,1].filter (nc lp.ob)++(bif lp.ob.tx.isSome then [6,7] else []))→ts4.length≤5→G)→G:=fun G K=>by
  have ce:=(ly (c:=ab P (m+14)) (h:=h3) (ar (w_ (i:=3) q rfl) (k_ (d:=.int 4)) (aP (t:=4) rfl)) (rfl:am [] (ab P (m+14)) l' h3=some (.tup [],h3)) (kH k1)).trans (congrArg (fun v=>some (v,h3)) (Bool.not_not _))
  cases hx:lp.ob.tx.isSome with
  | false=>
   rw [hx] at ce K
   exact K h3 ts (fun hr=>ai ce rfl hr) s3 rfl (by rw [cond_false,List.append_nil];exact bl) (by omega)
  | true=>
   rw [hx] at ce K
   refine ap (v:=6) s3 (by omega) _ fun h5 e5 s5 T5=>ap (v:=7) s5 (by rw [List.length_append,List.length_singleton];omega) _ fun h6 e6 s6 T6=>?_
   refine K h6 _ (fun hr=>eX ce rfl (bg (dS e5) (bg (dS e6) rfl)) hr) s6 (T6.trans T5) ?_ (by rw [List.length_append,List.length_append,List.length_singleton,List.length_singleton];omega)
   have z:=((((T6.trans T5)▸bl:BL true (b.T h6) ts _).snoc (b6 s6.x)).snoc (b7 s6.x))
   rw [List.append_assoc ([2,0,1].filter (nc lp.ob))] at z
   exact z
 refine mid _ fun h4 ts4 cont s4 T4 bl4 l5=>?_
 obtain ⟨fm,f1,fc⟩:=mC (P:=P) (n:=m+11) (h:=h4) s4.x.ht s4.x.tok (z.grow (g2.trans s4.g).p)
 have tst:=cw ((ly (c:=ab P (m+14)) (h:=h4) (ar (w_ (i:=3) q rfl) (k_ (d:=.int 5)) (aP (t:=5) rfl)) (rfl:am [] (ab P (m+14)) l' h4=some (.tup [],h4)) (kH k2)).trans (congrArg (fun v=>some (v,h4)) (Bool.not_not _))) ((ao (az (w_ (i:=2) q rfl) (w_ (i:=1) q rfl) fc) (k_ (d:=.int 1))).trans (congrArg (fun v=>some (v,h4)) f1))
 unfold kvs at Q
 cases hx:(lp.ob.dg.isSome || lp.isS) with
 | false=>
  rw [hx] at tst Q
  exact Q h4 _ ts4 (start (cont (ai tst rfl (aj (w_ q rfl))))) s4.x (g2.trans s4.g) s4.e (by rw [cond_false,List.append_nil];exact bl4)
 | true=>
  rw [hx] at tst Q
  exact ap (v:=7) s4 (by omega) _ fun h5 e5 s5 T5=>Q h5 _ _ (start (cont (eX tst rfl (bg (dS e5) rfl) (aj (w_ q rfl))))) s5.x (g2.trans s5.g) s5.e ((T5▸bl4:BL true (b.T h5) ts4 _).snoc (b7 s5.x))
end
noncomputable def ex(M:Nat):Nat:=(M &&& 15) ||| ((M >>> 4) <<< 6)
noncomputable def set6(M:Nat):Nat:=if M.testBit 4 then M &&& 48 else M
noncomputable def k0(a b c x y:Bool):Nat:=((((if a then 1 else 0) ||| (if b then 2 else 0)) ||| (if c then 4 else 0)) ||| (if x then 48 else 0)) ||| (if y then 32 else 0)
noncomputable def Ar(o:Ob):Nat:=k0 (nc o 0) (nc o 1) (nc o 2) o.tx.isSome o.dg.isSome
noncomputable def lk:LP→Nat
 | .str=>32
 | .one o=>set6 (Ar o)
 | .met a b=>set6 (set6 (Ar a) ||| set6 (Ar b))
theorem ma:∀ a b c x y,k0 a b c x y < 64:=by decide +kernel
theorem tB:∀ M < 64,set6 M < 64∧lsum true (ex M)=ex (set6 M)∧ex M < 512∧(ex M).testBit 8=false:=by decide +kernel
theorem DG:∀ M < 64,∀ N < 64,ex M ||| ex N=ex (M ||| N):=by decide +kernel
theorem ie{M:Nat}(h:M < 64):set6 M < 64:=(tB M h).1
theorem jD{M:Nat}(h:M < 64):lsum true (ex M)=ex (set6 M):=(tB M h).2.1
theorem Fm{M N:Nat}(a:M < 64)(b:N < 64):M ||| N < 64:=Nat.or_lt_two_pow (n:=6) a b
theorem yV(p:LP):∃ M < 64,lk p=set6 M:=by
 cases p with
 | str=>exact ⟨32,by decide,by decide +kernel⟩
 | one o=>exact ⟨_,ma _ _ _ _ _,rfl⟩
 | met a b=>exact ⟨_,Fm (ie (ma _ _ _ _ _)) (ie (ma _ _ _ _ _)),rfl⟩
theorem gT(p:LP):lk p < 64:=(yV p).elim fun M z=>z.2▸ie z.1
theorem C6(p:LP):Nm true (ex (lk p)):=by
 obtain ⟨M,h,e⟩:=yV p
 obtain ⟨_,s,l9,b8⟩:=tB M h
 rw [e,←s]
 exact o8 l9 b8
theorem EK:∀ a b c x y:Bool,iz ((((if c then [2] else [])++((if a then [0] else [])++((if b then [1] else [])++[])))++(bif x then [6,7] else [])++(bif y then [7] else [])).map fun v=>2 ^ v)=ex (k0 a b c x y):=by decide +kernel
theorem fR{p:Nat→Bool}{v:Nat}{r:List Nat}:(v::r).filter p=(if p v then [v] else [])++r.filter p:=by
 rw [List.filter_cons];cases p v<;>rfl
theorem EJ{lp:LP}(h:lp.isS=false):iz ((kvs lp).map fun v=>2 ^ v)=ex (Ar lp.ob):=by
 unfold kvs
 rw [h,Bool.or_false,fR,fR,fR,List.filter_nil]
 exact EK ..
theorem sR{w:Bool}{S:Nat}(h:Nm w S):cH w [S]=S:=by
 unfold cH
 by_cases h0:S=0
 ·rw [h0];rfl
 ·rw [if_neg fun q=>h0 (cV q).symm,if_neg fun q=>Nat.ne_of_gt h.lt (cV q)]
  exact (congrArg (lsum w) (jW h.l9)).trans ((iX h).trans (jx h))
section
variable {l:L}{T:List D}{a x:X}{u:Nat}{both:Bool}{o' p:Ob}{ks:List Nat}{G:Prop}{mb:Mb}{K:Nat→Nat}{kd:Int}
theorem uj{R:Nat→Nat→Prop}(z:F2 (fun r y=>∃ t:Nat,r=.int t∧R t y) rs ys):∃ ts:List Nat,rs=iN ts∧F2 R ts ys:=by
 induction rs generalizing ys with
 | nil=>cases ys with
  | nil=>exact ⟨[],rfl,trivial⟩
  | cons=>exact z.elim
 | cons r rs ih=>cases ys with
  | nil=>exact z.elim
  | cons y ys=>
   obtain ⟨⟨t,rfl,a⟩,z⟩:=z
   obtain ⟨ts,rfl,b⟩:=ih z
   exact ⟨t::ts,rfl,a,b⟩
theorem zb(e:En b u dd h)(x:In b (n+7+N * ys.length) h)(i:cF d h (iN ys))(h0:ys≠[])(hl:ys.length≤7)
  (st:∀ v∈ys,∀ n' h',In b (n'+N) h'→Gr b h h'→∀ G:Prop,(∀ h2 (t:Nat),ab P (m+8) 881 [.ref u,.int v] h'=some (.int t,h2)→In b n' h2→Gr b h' h2→Ty true (b.T h2) (K v) t→G)→G)
  (Q:∀ h' (t:Nat),ab P (m+9) 867 [.ref u,d,.bool both] h=some (.int t,h')→In b n h'→Gr b h h'→Ty true (b.T h') (bif both then cH true (ys.map K) else lsum true (iz (ys.map K))) t→G):G:=by
 refine jg (c:=ab P (m+8)) (l:=upd (fun j=>[D.ref u,d,.bool both][j]?) 3 (.ref b.tab)) (it:=xv 1) (x:=xf 881 [(xv 0),(xv 5)]) (i:=5) (N:=N) (n:=n+7) (e:=fun v=>.int v) (R:=fun v d T'=>∃ t:Nat,d=.int t∧Ty true T' (K v) t) (fun v d T T' p q=>q.imp fun t z=>⟨z.1,z.2.grow p⟩) (v_ rfl) i.items (cn hl (by decide)) (fun h' g=>i.still (i.gr x g)) x
  (fun v hv n' h' x' g' G K=>st v hv n' h' x' g' G fun h2 t e2 x2 g2 y2=>K _ h2 (az (v_ rfl) (v_ rfl) e2) x2 g2 ⟨t,rfl,y2⟩) fun rs h2 cm x2 g2 z2=>?_
 obtain ⟨ts,rfl,f⟩:=uj (R:=fun t y=>Ty true (b.T h2) (K y) t) z2
 have ln:=f.length
 have TA:b.T (h2++[.lst (iN ts)]:List MO)=b.T h2:=x2.ht.app.eq
 have gA:=g2.trans (x2.gapp (os:=[.lst (iN ts)]))
 have iA:cF (.ref (h2:List MO).length) (h2++[.lst (iN ts)]:List MO) (iN ts):=.inr ⟨_,rfl,ak⟩
 have fA:F2 (fun t S=>Ty true (b.T (h2++[.lst (iN ts)]:List MO)) S t) ts (ys.map K):=TA▸f.mapR (g:=K) fun uu uu1 z=>z
 cases both with
 | true=>exact rg (P:=P) (m:=m) (n:=n) (x2.app (os:=[.lst (iN ts)])) iA fA (fun q=>h0 (List.length_eq_zero_iff.mp (ln.symm.trans (congrArg List.length q)))) (ln.symm▸hl) fun h' r e' x' g' y'=>Q h' r (ah (Ic P) rfl (aH (dH e (v_ rfl)) (aH cm (aL (av (v_ rfl)) rfl (az (v_ rfl) (v_ rfl) e'))))) x' (gA.trans g') y'
 | false=>exact eR (P:=P) (m:=m+4) (n:=n+6) (x2.app (os:=[.lst (iN ts)])) iA fA (Nat.le_trans (ln.symm▸hl) (by decide)) fun h' r e' x' g' y'=>Q h' r (ah (Ic P) rfl (aH (dH e (v_ rfl)) (aH cm (ai (av (v_ rfl)) rfl (aj (az (v_ rfl) (v_ rfl) e')))))) (x'.le (cg n 6)) (gA.trans g') y'
noncomputable abbrev K6:XS:=(sq (ae 3 (xf 172 [(xv 2),(xv 1)])) (sq (ay (xt (ac .Eq (xv 3) (ki 6))) (sq (af (xf 867 [(xv 0),(xf 233 [(xv 2),(xv 1)]),(xk (.bool true))])) aa) aa) (sq (ay (xt (ac .Eq (xv 3) (ki 7))) (sq (af (xf 867 [(xv 0),(xi (xi (xa (q "rows") (xv 2)) (xv 1)) (ki 1)),(xk (.bool false))])) aa) aa) (sq (ay (xt (ac .Eq (xv 3) (ki 18))) (sq (af (xf 273 [(xv 2),(xf 857 [(xv 0),(ki 6)])])) aa) aa) (sq (ay (xt (xf 815 [(xv 2),(xv 1)])) (sq (af aS) aa) aa) (sq (ay (dn (xt (ac .Eq (xv 3) (ki 11))) (xt (ac .Eq (xv 3) (ki 12)))) (sq (af (xf 273 [(xv 2),aS])) aa) aa) (sq (af (xf 273 [(xv 2),(xf 857 [(xv 0),(xv 1)])])) aa)))))))
theorem pd{row:List D}(e:En b u dd h)(y:HT b h T)(e1:T[t]?=some (.tup (.int kd::row)))(kt:Kk T t)(nt:Nt t)(hr:hU K6 (ab P (n+1)) (upd (upd (fun j=>[D.ref u,.int t][j]?) 2 (.ref b.tab)) 1 (.int t)) h d hh):ab P (n+2) 881 [.ref u,.int t] h=some (d,hh):=by
 have z2:ec (.int (t:Int)) (iN [1,3,4,5,10])=false:=o7.trans (dj.trans (decide_eq_false fun q=>nt t (by simp only [List.mem_cons,List.not_mem_nil,or_false] at q;omega) rfl))
 exact ah (JH P) rfl (aH (dH e (v_ rfl)) (aH (fh e y kt (v_ rfl) (v_ rfl)) (ai (cw (rR (k:=0) (nt 0 (by omega)) (v_ rfl) k_) (cw (rR (k:=13) (nt 13 (by omega)) (v_ rfl) k_) (rR (k:=2) (nt 2 (by omega)) (v_ rfl) k_))) rfl (ai (av (aF (v_ rfl) rfl rfl)) z2 hr))))
theorem Pd.nt(z:Pd tn dd T t lp)(tk:Tok T):Nt t:=fun j hj q=>by
 by_cases j10:j=10
 ·have e10:=tk.at (j:=10) rfl
  cases q;cases j10
  cases lp with
  | str=>cases z
  | one o=>
   obtain ⟨kd,r,e,hk⟩:=Pq.kind z
   rw [e10] at e;cases e;rcases hk with q|q<;>cases q
  | met=>obtain ⟨a,c,e,_⟩:=z;rw [e10] at e;cases e
 ·exact z.kind tk fun uu uu1 uu2 uu3 nn=>nn j (by omega) q
theorem qV{row:List D}(e:En b u dd h)(x:In b (n+80) h)(z:Pd tn dd (b.T h) t lp)(e1:(b.T h)[t]?=some (.tup (.int kd::row)))(ek:kd=1∨kd=3∨kd=4∨kd=8∨kd=9)(eq:lsum true (iz ((kvs lp).map fun v=>2 ^ v))=ex (lk lp))(Q:∀ h' (r:Nat),ab P (m+17) 881 [.ref u,.int t] h=some (.int r,h')→In b n h'→Gr b h h'→Ty true (b.T h') (ex (lk lp)) r→G):G:=by
 refine nb (P:=P) (m:=m+1) (n:=n+1) e (x.le (by omega)) z fun h2 r ts c2 x2 g2 e2 bl=>?_
 have kn:(kd==6)=false∧(kd==7)=false∧(kd==18)=false∧(kd==11 || kd==12)=false:=by rcases ek with rfl|rfl|rfl|rfl|rfl<;>decide +kernel
 have ln:ts.length≤9:=by
  rw [bl.length]
  have l3:=List.length_filter_le (nc lp.ob) [2,0,1]
  unfold kvs
  rw [List.length_append,List.length_append]
  cases lp.ob.tx.isSome<;>cases (lp.ob.dg.isSome || lp.isS)<;>exact Nat.le_trans (Nat.add_le_add_right (Nat.add_le_add_right l3 _) _) (by decide)
 exact eR (P:=P) (m:=m+12) (n:=n) (d:=.ref r) x2 (.inr ⟨_,rfl,e2⟩) (bl.mapR (g:=fun v=>2 ^ v) fun uu uu1 bt=>iI bt) ln fun h3 r e3 x3 g3 y3=>Q h3 r (pd (n:=m+15) e x.ht e1 (z.kk x.tok) (z.nt x.tok) (aH (az (v_ rfl) (v_ rfl) (cz x.ht e1)) (ai (ao (v_ rfl) k_) kn.1 (ai (ao (v_ rfl) k_) kn.2.1 (ai (ao (v_ rfl) k_) kn.2.2.1 (ai (av (az (v_ rfl) (v_ rfl) (dK x.ht ⟨kd,row,e1,ek⟩))) rfl (ai (cw (ao (v_ rfl) k_) (ao (v_ rfl) k_)) kn.2.2.2 (aj (az (v_ rfl) (az (v_ rfl) (v_ rfl) c2) e3))))))))) x3 (g2.trans g3) (eq▸y3)
theorem qT(e:En b u dd h)(x:In b (n+80) h)(z:Pq tn dd (b.T h) t o)(Q:∀ h' (r:Nat),ab P (m+17) 881 [.ref u,.int t] h=some (.int r,h')→In b n h'→Gr b h h'→Ty true (b.T h') (ex (lk (.one o))) r→G):G:=by
 obtain ⟨kd,r,e1,hk⟩:=z.kind
 exact qV (P:=P) (lp:=.one o) e x z e1 (.inr (.inr (.inr hk))) ((congrArg (lsum true) (EJ rfl)).trans (jD (ma _ _ _ _ _))) Q
end
section
variable {l:L}{T:List D}{a x:X}{u:Nat}{both:Bool}{o' p:Ob}{ks:List Nat}{G:Prop}{mb:Mb}{kd:Int}{oo':Option Nat}
theorem fy{s t:Nat}(e:D.int s=D.int t):s=t:=Int.ofNat.inj (D.int.inj e)
theorem Mr.uniq(tk:Tok T)(p:Mr tn T k mb d)(r:Mr tn T k mb' d):mb=mb':=by
 obtain ⟨t,fl,rfl,ty,_,o1,_,c1⟩:=p
 obtain ⟨t',fl',e,ty',_,o1',_,c1'⟩:=r
 obtain ⟨_,e⟩:=List.cons.inj (D.tup.inj e)
 obtain ⟨e1,e⟩:=List.cons.inj e
 obtain ⟨e2,e⟩:=List.cons.inj e
 have a2:=yB c1 c1' (fy (List.cons.inj e).1)
 cases fy e1;cases fy e2
 have a1:=ty.inj tk ty'
 have a3:=o1.symm.trans o1'
 cases mb;cases mb'
 cases a1;cases a2;cases a3;rfl
theorem Cl.uniq(tk:Tok T)(p:Cl T oo d)(r:Cl T oo' d):oo=oo':=by
 cases oo with
 | none=>cases oo' with
  | none=>rfl
  | some=>cases p;obtain ⟨t,e,_⟩:=r;cases e
 | some S=>
  obtain ⟨t,rfl,ty⟩:=p
  cases oo' with
  | none=>cases r
  | some R=>
   obtain ⟨t',e,ty'⟩:=r
   cases fy (List.cons.inj (D.tup.inj e)).1
   exact congrArg Option.some (ty.inj tk ty')
theorem Dd.sub(tk:Tok T)(x:Dd tn T o.m (fU o.m) g)(y:Dd tn T o'.m (fU o'.m) g')(e:(fU o.m).map g=(fU o'.m).map g')(hm:o.m k=some mb):o'.m k=some mb:=by
 obtain ⟨k3,pm⟩:=x.pm k mb hm
 obtain ⟨j,hj,ej⟩:=bR (e▸List.mem_map_of_mem ((x.mem k).mpr (hm▸rfl)):g k∈(fU o'.m).map g')
 refine y.get hj fun mb' e' j3 pm'=>?_
 have jk:j=k:=by
  obtain ⟨r,e1⟩:=pm.row
  obtain ⟨r',e2⟩:=pm'.row
  have z:=(List.cons.inj (D.tup.inj (e2.symm.trans (ej.trans e1)))).1
  exact of_decide_eq_true ((oZ j (by omega) k (by omega)).symm.trans (z▸D.eqb_refl _))
 cases jk
 rw [e',pm.uniq tk (ej▸pm')]
theorem Rw.uniq(tk:Tok T)(p:Rw tn T o d)(r:Rw tn T o' d):o=o':=by
 obtain ⟨g,cs,cd,rfl,dg,c1,c2⟩:=p
 obtain ⟨g',cs',cd',e,dg',c1',c2'⟩:=r
 obtain ⟨_,e⟩:=List.cons.inj (D.tup.inj e)
 obtain ⟨ep,e⟩:=List.cons.inj e
 obtain ⟨_,e⟩:=List.cons.inj e
 obtain ⟨_,e⟩:=List.cons.inj e
 obtain ⟨e1,e⟩:=List.cons.inj e
 obtain ⟨e2,_⟩:=List.cons.inj e
 cases e1;cases e2
 have ep:=D.tup.inj ep
 have em:o.m=o'.m:=funext fun k=>by
  cases h:o.m k with
  | some m=>exact (dg.sub tk dg' ep h).symm
  | none=>cases h':o'.m k with
   | none=>rfl
   | some m=>exact nomatch h.symm.trans (dg'.sub tk dg ep.symm h')
 have a1:=c1.uniq tk c1'
 have a2:=c2.uniq tk c2'
 cases o;cases o'
 cases em;cases a1;cases a2;rfl
theorem Pq.uniq(tk:Tok T)(p:Pq tn dd T t o)(r:Pq tn dd T t o'):o=o':=by
 cases p with
 | obj r1 e1 q1=>cases r with
  | obj r2 e2 q2=>cases e1.symm.trans e2;exact q1.uniq tk q2
  | ref _ _ _ _ e2 _ _=>obtain ⟨s,rfl⟩:=q1.kind;cases e1.symm.trans e2
 | ref d1 t1 r1 f1 e1 g1 q1=>cases r with
  | obj r2 e2 q2=>obtain ⟨s,rfl⟩:=q2.kind;cases e1.symm.trans e2
  | ref d2 t2 r2 f2 e2 g2 q2=>cases f1.symm.trans f2;cases g1.symm.trans g2;exact q1.uniq tk q2
theorem Pq.no6(z:Pq tn dd T t o)(tk:Tok T):t≠6:=fun q=>by
 obtain ⟨kd,r,e,hk⟩:=z.kind
 rw [q,tk.at (j:=6) rfl] at e
 cases e
 rcases hk with q|q<;>cases q
theorem Pq.no7{r:List D}(z:Pq tn dd T t o):T[t]?≠some (.tup (.int 7::r)):=fun q=>by
 obtain ⟨kd,r,e,hk⟩:=z.kind
 rw [q] at e
 cases e
 rcases hk with q|q<;>cases q
theorem Pd.uniq(tk:Tok T)(p:Pd tn dd T t lp)(r:Pd tn dd T t lp'):lp=lp':=by
 cases lp with
 | str=>cases p;cases lp' with
  | str=>rfl
  | one=>exact absurd rfl (Pq.no6 r tk)
  | met=>obtain ⟨_,_,e,_⟩:=r;rw [tk.at (j:=6) rfl] at e;cases e
 | one o=>cases lp' with
  | str=>cases r;exact absurd rfl (Pq.no6 p tk)
  | one o'=>exact congrArg _ (Pq.uniq tk p r)
  | met=>obtain ⟨_,_,e,_⟩:=r;exact absurd e (Pq.no7 p)
 | met o1 o2=>
  obtain ⟨a1,a2,e,z1,z2⟩:=p
  cases lp' with
  | str=>cases r;rw [tk.at (j:=6) rfl] at e;cases e
  | one o'=>exact absurd e (Pq.no7 r)
  | met=>
   obtain ⟨a1',a2',e',w1,w2⟩:=r
   obtain ⟨q1,q⟩:=List.cons.inj (D.tup.inj (List.cons.inj (List.cons.inj (D.tup.inj (Option.some.inj (e.symm.trans e')))).2).1)
   cases fy q1;cases fy (List.cons.inj q).1
   rw [z1.uniq tk w1,z2.uniq tk w2]
theorem qU(e:En b u dd h)(x:In b (n+200) h)(z:Pd tn dd (b.T h) t lp)(Q:∀ h' (r:Nat),ab P (m+20) 881 [.ref u,.int t] h=some (.int r,h')→In b n h'→Gr b h h'→Ty true (b.T h') (ex (lk lp)) r→G):G:=by
 cases lp with
 | str=>cases z;exact qV (P:=P) (m:=m+3) (n:=n) (tn:=tn) (lp:=.str) e (x.le (by omega)) rfl (x.tok.at (j:=6) rfl) (.inl rfl) (by decide +kernel) Q
 | one o=>exact qT (P:=P) (m:=m+3) (n:=n) e (x.le (by omega)) z Q
 | met o1 o2=>
  have zt:=z
  obtain ⟨a1,a2,er,z1,z2⟩:=z
  have g1:(if a1=a1 then o1 else o2)=o1:=if_pos rfl
  have g2:(if a2=a1 then o1 else o2)=o2:=by
   by_cases q:a2=a1
   ·cases q;rw [if_pos rfl];exact z1.uniq x.tok z2
   ·exact if_neg q
  have zz:∀ v∈[a1,a2],Pq tn dd (b.T h) v (if v=a1 then o1 else o2):=fun v hv=>by
   rcases bo hv with rfl|hv
   ·exact g1.symm▸z1
   ·cases cV hv;exact g2.symm▸z2
  refine zb (P:=P) (m:=m+10) (n:=n) (N:=80) (both:=false) (K:=fun v=>ex (lk (.one (if v=a1 then o1 else o2)))) (ys:=[a1,a2]) (d:=.tup (iN [a1,a2])) e (x.le (by rw [Nat.add_assoc];exact Nat.add_le_add_left (show 7+80 * 2≤200 by decide) n)) (.inl rfl) (fun q=>nomatch q) (f0 rfl) (fun v hv n' h' x' g' G K=>qT (P:=P) (m:=m+1) (n:=n') (e.keep g'.k) x' ((zz v hv).grow g'.p) K) fun h' r e' x' g' y'=>?_
  have eq:iz ([a1,a2].map fun v=>ex (lk (.one (if v=a1 then o1 else o2))))=ex (lk (.one o1)) ||| ex (lk (.one o2)):=by
   show ex (lk (.one (if a1=a1 then o1 else o2))) ||| (ex (lk (.one (if a2=a1 then o1 else o2))) ||| 0)=_
   rw [g1,g2,Nat.or_zero]
  rw [cond_false,eq,DG _ (gT _) _ (gT _),jD (Fm (gT _) (gT _))] at y'
  exact Q h' r (pd (n:=m+18) e x.ht er (zt.kk x.tok) (zt.nt x.tok) (aH (az (v_ rfl) (v_ rfl) (cz x.ht er)) (ai (ao (v_ rfl) k_) rfl (aL (ao (v_ rfl) k_) rfl (ck (v_ rfl) (ar (dY x.ht er (v_ rfl) (v_ rfl)) k_ bj) k_ e'))))) x' g' y'
theorem uI(e:En b u dd h)(x:In b (n+1500) h)(i:cF d h (iN ys))(z:xg tn dd (b.T h) ys f)(h0:ys≠[])(hl:ys.length≤7)(Q:∀ h' (t:Nat),ab P (m+21) 867 [.ref u,d,.bool both] h=some (.int t,h')→In b n h'→Gr b h h'→Ty true (b.T h') (bif both then cH true (ys.map fun v=>ex (lk (f v))) else lsum true (iz (ys.map fun v=>ex (lk (f v))))) t→G):G:=
 zb (P:=P) (m:=m+12) (n:=n) (N:=200) e (x.le (by omega)) i h0 hl (fun v hv n' h' x' g' G K=>qU (P:=P) (m:=m) (n:=n') (e.keep g'.k) x' ((z v hv).grow g'.p) K) Q
theorem zf(e:En b u dd h)(x:In b (n+1500) h)(w:Wh tn dd (b.T h) t Y f)(Q:∀ h' (r:Nat),ab P (m+22) 881 [.ref u,.int t] h=some (.int r,h')→In b n h'→Gr b h h'→Ty true (b.T h') (cH true (Y.map fun v=>ex (lk (f v)))) r→G):G:=by
 obtain ⟨pt,kt,_,_⟩:=w.pt x.tok
 obtain ⟨un,ne,nd,hl,pts⟩:=w
 rcases un with ⟨q,_⟩|rfl|⟨h2,eu⟩
 ·exact absurd q ne
 ·exact qU (P:=P) (m:=m+2) (n:=n) e (x.le (by omega)) (pts t aw) fun h' r e' x' g' y'=>Q h' r e' x' g' ((sR (C6 _)).symm▸y')
 ·exact uI (P:=P) (m:=m) (n:=n) (both:=true) (d:=.tup (iN Y)) e x (.inl rfl) pts ne hl fun h' r e' x' g' y'=>Q h' r (pd (n:=m+20) e x.ht eu kt (lu x.tok eu) (aH (az (v_ rfl) (v_ rfl) (cz x.ht eu)) (aL (ao (v_ rfl) k_) rfl (ck (v_ rfl) (az (v_ rfl) (v_ rfl) (dZ x.ht pt)) k_ e')))) x' g' y'
end
noncomputable def oz:Option Nat→Int
 | none=>-1
 | some S=>S
noncomputable abbrev cM(o:Option Nat):D:=.int (oz o)
noncomputable def lV(m:Mb):D:=.tup [.int m.ty,.bool m.opt,.int m.own]
def xh(h:H)(p:Nat)(f:Nat→Option Mb):Prop:=∃ (ks:List Nat) (g:Nat→D),(h:List MO)[p]?=some (.dct (dM ks g))∧Dr (fun uu m d=>d=lV m) f ks g
def lg(h:H)(n:Nat)(o:Ob)(ps:List D):Prop:=o.Ok∧∃ (E:List (D×D)) (p:Nat),(h:List MO)[n]?=some (.dct E)∧cW 2 E=true∧xh h p o.m∧bh (.str (q "members")) E=some (.ref p)∧bh (.str (q "texts")) E=some (cM o.tx)∧bh (.str (q "digits")) E=some (cM o.dg)∧bh (.str (q "parts")) E=some (.tup ps)
def OD(h:H)(d:D):LP→Prop
 | .str=>d=.none
 | .one o=>∃ n,d=.ref n∧lg h n o []
 | .met a e=>∃ n na ne,d=.ref n∧lg h n (kB a e) [.ref na,.ref ne]∧lg h na a []∧lg h ne e []
abbrev PL(h:H)(ds:List D)(L:List LP):Prop:=F2 (OD h) ds L
def Mv(h hh:H):Prop:=∀ (n:Nat) (E:List (D×D)),(h:List MO)[n]?=some (MO.dct E)→cW 2 E=true→(hh:List MO)[n]?=some (MO.dct E)
section
variable {l:L}{T:List D}{a x:X}{u:Nat}{mb:Mb}{f:Nat→Option Mb}{G:Prop}{s:Str}
theorem qD:decide (oz oo < 0)=!oo.isSome:=by
 cases oo with
 | none=>rfl
 | some S=>exact decide_eq_false (Int.not_lt.mpr (Int.natCast_nonneg S))
theorem C2:decide (oz oo≥0)=oo.isSome:=by
 cases oo with
 | none=>rfl
 | some S=>exact decide_eq_true (Int.natCast_nonneg S)
theorem Mv.app:Mv h (h++os:List MO):=fun uu uu1 e uu2=>au e
theorem Mv.trans(x:Mv h h1)(y:Mv h1 h2):Mv h h2:=fun n E e k=>y n E (x n E e k) k
theorem Mv.gr(x:In b n h)(g:Gr b h hh):Mv h hh:=fun m E e k=>g.k.2 m _ e (fun q=>by cases (q▸e).symm.trans x.ht.r) fun w=>by
 obtain ⟨I,i1,i2,_,i4⟩:=x.ht.i
 cases i1.symm.trans (w▸e)
 cases E with
 | nil=>
  have z:=i4 (.tup [.int 1,.str (q "any")])
  cases v:Internal.pos (.tup [.int 1,.str (q "any")]) (b.T h) with
  | none=>exact qz v (List.mem_of_getElem? (x.tok.at (j:=0) rfl))
  | some=>rw [v] at z;cases z
 | cons z r=>
  have a:=beq_iff_eq.mp (aG k).1
  exact absurd (a.symm.trans (beq_iff_eq.mp (aG i2).1)) (by decide)
theorem xh.mv(x:xh h p f)(v:Mv h hh):xh hh p f:=x.imp fun ks z=>z.imp fun g z=>⟨v _ _ z.1 (jB ks g),z.2⟩
theorem lg.mv(x:lg h n o ps)(v:Mv h hh):lg hh n o ps:=⟨x.1,x.2.imp fun E z=>z.imp fun p z=>⟨v _ _ z.1 z.2.1,z.2.1,z.2.2.1.mv v,z.2.2.2⟩⟩
theorem OD.mv(x:OD h d lp)(v:Mv h hh):OD hh d lp:=by
 cases lp with
 | str=>exact x
 | one o=>exact x.imp fun n z=>⟨z.1,z.2.mv v⟩
 | met=>obtain ⟨n,na,ne,e,r,r1,r2⟩:=x;exact ⟨n,na,ne,e,r.mv v,r1.mv v,r2.mv v⟩
theorem PL.mv(x:PL h ds Ls)(v:Mv h hh):PL hh ds Ls:=x.imp fun uu uu1 uu2 z=>z.mv v
theorem OD.ok(x:OD h d lp):lp.ob.Ok:=by
 cases lp with
 | str=>exact ⟨fun k m e=>(nomatch e),fun S e=>(nomatch e),fun S e=>(nomatch e)⟩
 | one o=>obtain ⟨_,_,r⟩:=x;exact r.1
 | met=>obtain ⟨_,_,_,_,r,_⟩:=x;exact r.1
theorem PL.ok(x:PL h ds Ls):∀ p∈Ls,p.ob.Ok:=fun p hp=>by obtain ⟨d,_,z⟩:=x.memR hp;exact z.ok
theorem pS(e:(h:List MO)[n]?=some (.dct E))(k:cW 2 E=true)(ha:a c l h=some (.ref n,h))(hl:bh (.str s) E=some d):xi a (xk (.str s)) c l h=some (d,h):=ar ha k_ (fP e ((Bool.and_eq_true _ _).mpr ⟨rfl,k⟩) hl)
theorem lg.tx_(x:lg h n o ps)(ha:a c l h=some (.ref n,h)):xi a (xk (.str (q "texts"))) c l h=some (cM o.tx,h):=by obtain ⟨_,E,p,e,k,_,_,r,_⟩:=x;exact pS e k ha r
theorem lg.dg_(x:lg h n o ps)(ha:a c l h=some (.ref n,h)):xi a (xk (.str (q "digits"))) c l h=some (cM o.dg,h):=by obtain ⟨_,E,p,e,k,_,_,_,r,_⟩:=x;exact pS e k ha r
theorem lg.ps_(x:lg h n o ps)(ha:a c l h=some (.ref n,h)):xi a (xk (.str (q "parts"))) c l h=some (.tup ps,h):=by obtain ⟨_,E,p,e,k,_,_,_,_,r⟩:=x;exact pS e k ha r
theorem lg.mem_(x:lg h n o ps):∃ p,xh h p o.m∧∀ {a:X} {c:CF} {l:L},a c l h=some (.ref n,h)→xi a (xk (.str (q "members"))) c l h=some (.ref p,h):=by obtain ⟨_,E,p,e,k,mm,r,_⟩:=x;exact ⟨p,mm,fun ha=>pS e k ha r⟩
theorem xh.look(x:xh h p f)(hk:k < 4):∃ E,(h:List MO)[p]?=some (.dct E)∧sJ (.str (nm k)) E=true∧bh (.str (nm k)) E=(f k).map lV:=by
 obtain ⟨ks,g,e,nd,mem,r⟩:=x
 refine ⟨_,e,oX ks g,(lX hk (uC fun j hj=>(Option.isSome_iff_exists.mp ((mem j).mp hj)).elim fun m em=>(r j m em).1)).trans ?_⟩
 cases hf:f k with
 | none=>exact if_neg fun q=>nomatch ((mem k).mp q).symm.trans (congrArg Option.isSome hf)
 | some mb=>rw [if_pos ((mem k).mpr (hf▸rfl)),(r k mb hf).2];rfl
theorem xh.in_(x:xh h p f)(hk:k < 4):eF .In (.str (nm k)) (.ref p) h=some (f k).isSome∧∀ mb,f k=some mb→item (.ref p) (.str (nm k)) h=some (lV mb,h):=by
 obtain ⟨E,e,o,lk⟩:=x.look hk
 exact ⟨(pz e o).trans (by rw [lk,Option.isSome_map]),fun mb em=>fP e o (by rw [lk,em];rfl)⟩
theorem Ef(q:l i=some (lV mb))(ha:a c l h=some (.int mb.ty,h)):xb .BitOr a (bz (xt (xi (xv i) (ki 1))) (ki 16) (ki 0)) c l h=some (.int ((mb.ty ||| if mb.opt then 16 else 0:Nat):Int),h):=by
 refine ar ha (eQ (v:=mb.opt) (av (ar (v_ q) k_ bj)) (r:=some (.int ((if mb.opt then 16 else 0:Nat):Int),h)) ?_) iw
 cases mb.opt<;>rfl
theorem sH(h:bY mb.ty):mb.ty ||| (if mb.opt then 16 else 0) < 512:=Nat.or_lt_two_pow (n:=9) h.lt (by split<;>decide)
theorem iV(x:lg h n o ps)(hk:k < 4):ab P (m+2) 1068 [.ref n,.str (nm k)] h=some (cM (bS o k),h):=by
 obtain ⟨p,mm,acc⟩:=x.mem_
 obtain ⟨mi,mg⟩:=mm.in_ hk
 have tin:=av (aF (c:=ab P (m+1)) (v_ (l:=fun i=>[D.ref n,.str (nm k)][i]?) (i:=1) rfl) (acc (v_ (i:=0) rfl)) mi)
 unfold bS
 cases hm:o.m k with
 | some mb=>
  rw [hm] at tin
  exact ah (zT P) rfl (ai (av (aF (v_ rfl) k_ rfl)) rfl (FL tin rfl (aH (ar (acc (v_ rfl)) (v_ rfl) (mg mb hm)) (aj (dD (Ef rfl (ar (v_ rfl) k_ aq)) (eZ (sH (x.1.m k mb hm).1)))))))
 | none=>
  rw [hm] at tin
  have tst:=dF (dX (v_ (l:=fun i=>[D.ref n,.str (nm k)][i]?) (i:=1) rfl) k_ (qG k hk).2.2.2.2.2) (av (aF (c:=ab P (m+1)) (o:=.GtE) (x.dg_ (v_ (i:=0) rfl)) (k_ (d:=.int 0)) (congrArg some C2)))
  refine ah (zT P) rfl (ai (av (aF (v_ rfl) k_ rfl)) rfl (ai tin rfl (aj (eQ tst ?_))))
  unfold As
  by_cases c:k=2∧o.dg.isSome=true
  ·rw [if_pos c,decide_eq_true c.1,c.2];exact x.dg_ (v_ rfl)
  ·rw [if_neg c,show (decide (k=2) && o.dg.isSome)=false from Bool.eq_false_iff.mpr fun z=>c (by rw [Bool.and_eq_true,decide_eq_true_eq] at z;exact z)]
   exact x.tx_ (v_ rfl)
theorem sO(x:OD h d lp)(hk:k < 4):ab P (m+2) 1068 [d,.str (nm k)] h=some (cM (bS lp.ob k),h):=by
 cases lp with
 | str=>
  cases x
  rw [show bS LP.str.ob k=none by show As _ k=none;unfold As;split<;>rfl]
  exact ah (zT P) rfl (aL (av (aF (v_ rfl) k_ rfl)) rfl rfl)
 | one o=>obtain ⟨n,rfl,r⟩:=x;exact iV r hk
 | met=>obtain ⟨n,na,ne,rfl,r,_⟩:=x;exact iV r hk
theorem qW(qi:l i=some (.int (key:Int)))(hk:cj key=some k):bz (xt (ac .Lt (xv i) (ki 4))) (xi (xk (.tup [(.str (q "p")),(.str (q "q")),(.str (q "0")),(.str (q "x"))])) (xv i)) (xk (.str (q "0"))) c l h=some (.str (nm k),h):=by
 refine eQ (eK (v_ qi) k_) ?_
 unfold cj at hk
 by_cases a:key < 4
 ·rw [if_pos a] at hk
  have hk:=Option.some.inj hk
  subst hk
  rw [decide_eq_true (show (key:Int) < 4 by omega)]
  exact ar k_ (v_ qi) (iE (M:=fun key=>item (.tup [(.str (q "p")),(.str (q "q")),(.str (q "0")),(.str (q "x"))]) (.int (key:Int)) h=some (.str (nm key),h)) a rfl rfl rfl rfl)
 ·rw [if_neg a] at hk
  rw [decide_eq_false (show ¬(key:Int) < 4 by omega)]
  by_cases c:key=4
  ·rw [if_pos c] at hk;cases hk;rfl
  ·rw [if_neg c] at hk;cases hk
theorem uJ:decide ((key:Int) < 5)=(cj key).isSome:=by
 unfold cj
 by_cases a:key < 4
 ·rw [if_pos a];exact decide_eq_true (by omega)
 ·rw [if_neg a]
  by_cases c:key=4
  ·rw [if_pos c];exact decide_eq_true (by omega)
  ·rw [if_neg c];exact decide_eq_false (by omega)
theorem uL(r:lg h n o ps):ab P (m+3) 1075 [.ref n,.int key] h=some (cM (match cj key with
  | some k=>bS o k
  | none=>if key=6 then (if o.dg.isSome=true then o.dg else o.tx) else if key=7 then (if o.tx.isSome=true then o.tx else o.dg) else o.tx),h):=by
 have t5:=(eK (c:=ab P (m+2)) (h1:=h) (v_ (l:=fun i=>[D.ref n,.int key][i]?) (i:=1) rfl) (k_ (d:=.int 5))).trans (congrArg (fun v=>some (v,h)) uJ)
 cases hk:cj key with
 | some k=>
  rw [hk] at t5
  exact ah (zS P) rfl (ai (av (aF (v_ rfl) k_ rfl)) rfl (aL t5 rfl (az (v_ rfl) (qW rfl hk) (iV r (jA hk)))))
 | none=>
  rw [hk] at t5
  have dgl:=(eK (c:=ab P (m+2)) (r.dg_ (v_ (l:=fun i=>[D.ref n,.int key][i]?) (i:=0) rfl)) (k_ (d:=.int 0))).trans (congrArg (fun v=>some (v,h)) qD)
  have txl:=(eK (c:=ab P (m+2)) (r.tx_ (v_ (l:=fun i=>[D.ref n,.int key][i]?) (i:=0) rfl)) (k_ (d:=.int 0))).trans (congrArg (fun v=>some (v,h)) qD)
  refine ah (zS P) rfl (ai (av (aF (v_ rfl) k_ rfl)) rfl (ai t5 rfl ?_))
  by_cases k6:key=6
  ·cases k6
   refine aL (ao (v_ rfl) k_) rfl (eQ dgl ?_)
   cases o.dg.isSome with
   | true=>exact r.dg_ (v_ rfl)
   | false=>exact r.tx_ (v_ rfl)
  ·refine ai (rR (k:=6) k6 (v_ rfl) k_) rfl (aj (eQ (dF ((ao (v_ rfl) k_).trans (congrArg (fun v=>some (v,h)) (cQ (j:=7)))) txl) ?_))
   show cond _ _ _=some (cM (if key=6 then _ else _),h)
   rw [if_neg k6]
   by_cases k7:key=7
   ·rw [decide_eq_true k7,if_pos k7]
    cases o.tx.isSome with
    | true=>exact r.tx_ (v_ rfl)
    | false=>exact r.dg_ (v_ rfl)
   ·rw [decide_eq_false k7,if_neg k7]
    exact r.tx_ (v_ rfl)
theorem j1(x:OD h d lp):ab P (m+3) 1075 [d,.int key] h=some (cM (bq lp key),h):=by
 cases lp with
 | str=>
  cases x
  have e:ec (.int (key:Int)) (iN [2,4,6])=decide (key=2∨key=4∨key=6):=o7.trans (dj.trans (decide_eq_decide.mpr (by simp only [List.mem_cons,List.not_mem_nil,or_false])))
  refine ah (zS P) rfl (aL (av (aF (v_ rfl) k_ rfl)) rfl (eQ ((av (aF (v_ rfl) rfl rfl)).trans (congrArg (fun v=>some (v,h)) e)) ?_))
  show cond _ _ _=some (cM (if key=2∨key=4∨key=6 then some 64 else none),h)
  by_cases z:key=2∨key=4∨key=6
  ·rw [decide_eq_true z,if_pos z];rfl
  ·rw [decide_eq_false z,if_neg z];rfl
 | one o=>obtain ⟨n,rfl,r⟩:=x;exact uL r
 | met=>obtain ⟨n,na,ne,rfl,r,_⟩:=x;exact uL r
end
section
variable {l:L}{T:List D}{a x:X}{u iv:Nat}{mb:Mb}{G:Prop}{A:List (Option Nat)}{el:X}{g:LP→Option Nat}
theorem yl:F2 Zi (A.map cM) A:=by
 induction A with
 | nil=>trivial
 | cons o A ih=>exact ⟨⟨oz o,rfl,by cases o<;>rfl⟩,ih⟩
theorem BQ{chk:H→Bool}(hc:chk h=true)(hn:none∉A)(q1:l 1=some (.int S)):∃ l',bC chk 2 (sq (ae 1 (xb .BitOr (xv 1) (xv 2))) aa) c (A.map cM) l h=some (.next,l',h)∧l' 1=some (.int (S ||| iz (A.filterMap id):Nat)):=by
 induction A generalizing S l with
 | nil=>exact ⟨l,aR hc,q1.trans (by rw [List.filterMap_nil];exact congrArg (fun z:Nat=>some (D.int z)) (Nat.or_zero S).symm)⟩
 | cons o A ih=>cases o with
  | none=>exact absurd aw hn
  | some R=>
   obtain ⟨l',e,q⟩:=ih (l:=upd (upd l 2 (.int R)) 1 (.int (S ||| R:Nat))) (fun w=>hn (aE _ w)) rfl
   exact ⟨l',aC hc (bg (aA (ar (v_ q1) (v_ rfl) iw)) rfl) e,q.trans (by rw [Nat.or_assoc];rfl)⟩
theorem iZ(its:cF d h (A.map cM))(hl:A.length < 90)(h5:∀ S,some S∈A→S < 512):ab P (m+2) 1082 [d] h=some (cM (bw A),h):=by
 have tst:=av (aF (c:=ab P (m+1)) (a:=bW (ki 1)) (d1:=.int (-1)) rfl (v_ (l:=fun i=>[d][i]?) (i:=0) rfl) (tj yl its))
 unfold bw
 by_cases hn:none∈A
 ·rw [if_pos hn]
  exact ah (DK P) rfl (aL tst (decide_eq_true hn) rfl)
 ·rw [if_neg hn]
  obtain ⟨l',lp,q1⟩:=BQ (c:=ab P (m+1)) (S:=0) (l:=upd (fun j=>[d][j]?) 1 (.int ((0:Nat):Int))) (its.still its) hn rfl
  rw [Nat.zero_or] at q1
  exact ah (DK P) rfl (ai tst (decide_eq_false hn) (ax (x:=ae 1 (ki 0)) (aA k_) (ax (aO (v_ rfl) its.items (by rw [List.length_map];omega) lp) (aj (dD (v_ q1) (eZ (yx fun s hs=>by
   obtain ⟨o,ho,eo⟩:=List.mem_filterMap.mp hs
   exact h5 s ((eo:o=some s)▸ho))))))))
theorem qF{v:Bool}(e:eF .In d1 d2 h=some v):eF .NotIn d1 d2 h=some (!v):=by
 show (zo d1 d2 h).map _=_
 rw [show zo d1 d2 h=some v from e];rfl
theorem OD.cases(z:OD h d lp):(d=.none∧lp=.str)∨∃ n ps,d=.ref n∧lg h n lp.ob ps∧lp.isS=false:=by
 cases lp with
 | str=>exact .inl ⟨z,rfl⟩
 | one o=>obtain ⟨n,e,r⟩:=z;exact .inr ⟨n,[],e,r,rfl⟩
 | met=>obtain ⟨n,na,ne,e,r,_⟩:=z;exact .inr ⟨n,_,e,r,rfl⟩
theorem Ee(z:OD h d lp)(hk:k < 4)(q3:l i=some d)(q1:l 1=some (.str (nm k))):
  (bz (dn (xt (ac .Is (xv i) (xk .none))) (xt (ac .NotIn (xv 1) (xi (xv i) (xk (.str (q "members"))))))) (ki 0) (xi (xi (xi (xv i) (xk (.str (q "members")))) (xv 1)) (ki 2))) c l h=some (.int (ownOf lp.ob k:Nat),h):=by
 rcases z.cases with ⟨rfl,rfl⟩|⟨n,ps,rfl,r,_⟩
 ·exact cU (lw (av (aF (v_ q3) k_ rfl))) k_
 ·obtain ⟨p,mm,acc⟩:=r.mem_
  obtain ⟨mi,mg⟩:=mm.in_ hk
  have tst:dn (xt (ac .Is (xv i) (xk .none))) (xt (ac .NotIn (xv 1) (xi (xv i) (xk (.str (q "members")))))) c l h=some (!(lp.ob.m k).isSome,h):=jl (av (aF (v_ q3) k_ rfl)) (av (aF (v_ q1) (acc (v_ q3)) (qF mi)))
  unfold ownOf
  cases hm:lp.ob.m k with
  | none=>rw [hm] at tst;exact cU tst k_
  | some mb=>rw [hm] at tst;exact cq tst (ar (ar (acc (v_ q3)) (v_ q1) (mg mb hm)) k_ bT)
theorem yp(x:o.Ok):ownOf o k < 3:=by
 unfold ownOf
 cases hm:o.m k with
 | none=>decide
 | some m=>exact (x.m k m hm).2.1
theorem ED{L:List D}{A B:Int}(h:B≤A):L.foldl (fun m x=>if decide (eg x > m)=true then eg x else m) A=L.foldl (fun m x=>if decide (eg x < m)=true then eg x else m) B↔B=A∧∀ x∈L,eg x=A:=by
 induction L generalizing A B with
 | nil=>exact ⟨fun e=>⟨e.symm,fun uu q=>nomatch q⟩,fun e=>e.1.symm⟩
 | cons y L ih=>
  rw [List.foldl_cons,List.foldl_cons,ih (by simp only [decide_eq_true_eq];split<;>split<;>omega)]
  simp only [decide_eq_true_eq,List.mem_cons,forall_eq_or_imp]
  constructor
  ·intro ⟨e,w⟩
   have:B=A∧eg y=A:=by split at e<;>split at e<;>omega
   exact ⟨this.1,this.2,fun x hx=>(w x hx).trans (by split<;>omega)⟩
  ·intro ⟨e,ey,w⟩
   rw [if_neg (by omega),if_neg (by omega)]
   exact ⟨e,w⟩
theorem DR{L:List D}{f:Int→Int→Bool}(e:(h:List MO)[n]?=some (.lst (d::L)))(sm:lf (d::L)=true):onL (h:List MO)[n]? (fun l=>CN f l h)=some (.int (L.foldl (fun m x=>if f (eg x) m then eg x else m) (eg d)),h):=by
 rw [e]
 exact if_pos ((Bool.and_eq_true _ _).mpr ⟨sm,rfl⟩)
theorem li{it:X}{R:LP→D}(its:cF d h ds)(pl:PL h ds Ls)(hl:Ls.length < 90)(hi:it c l h=some (d,h))(st:∀ z p,OD h z p→p∈Ls→el c (upd l i z) h=some (R p,h)):aN i it none el c l h=some (.ref (h:List MO).length,(h++[.lst (Ls.map R)]:List MO)):=by
 obtain ⟨zs,rfl,rfl,zz⟩:=F2.pairs pl
 rw [List.length_map] at hl
 rw [List.map_map]
 exact fu (f:=Prod.fst) (g:=fun q=>R q.2) hi its.items (Nat.lt_of_lt_of_le hl (by decide)) fun q hq=>st q.1 q.2 (zz q hq) (List.mem_map_of_mem hq)
theorem nW(its:cF d h ds)(pl:PL h ds Ls)(h0:Ls≠[])(hl:Ls.length < 90)(hk:k < 4):ab P (m+1) 1087 [d,.str (nm k)] h=some (.bool (apart (Ls.map fun p=>ownOf p.ob k)),(h++[.lst (Ls.map fun p=>.int (ownOf p.ob k:Nat))]:List MO)):=by
 have e:=li (c:=ab P m) (l:=fun j=>[d,.str (nm k)][j]?) (i:=3) (it:=xv 0) (el:=bz (dn (xt (ac .Is (xv 3) (xk .none))) (xt (ac .NotIn (xv 1) (xi (xv 3) (xk (.str (q "members"))))))) (ki 0) (xi (xi (xi (xv 3) (xk (.str (q "members")))) (xv 1)) (ki 2))) (R:=fun p=>.int (ownOf p.ob k:Nat)) its pl hl (v_ rfl) fun z p od uu=>Ee od hk rfl rfl
 have sm:lf (Ls.map fun p=>.int (ownOf p.ob k:Nat))=true:=List.all_eq_true.mpr fun z hz=>by
  obtain ⟨p,hp,rfl⟩:=bR hz
  have:=yp (k:=k) (pl.ok p hp)
  exact decide_eq_true (by omega)
 cases Ls with
 | nil=>exact absurd rfl h0
 | cons p Lr=>
  refine ah (ID P) rfl (aH e (aj ((aF (bZ (aQ (v_ rfl)) (DR ak sm)) (bZ (aQ (v_ rfl)) (DR ak sm)) lS).trans (congrArg (fun v=>some (D.bool v,_)) ?_))))
  rw [List.map_cons,oA (w:=ownOf p.ob k) aw,Bool.eq_iff_iff,List.any_eq_true]
  have mi:=ED (L:=Lr.map fun p=>D.int (ownOf p.ob k:Nat)) (Int.le_refl (ownOf p.ob k:Nat))
  refine (bne_iff_ne (α:=Int)).trans ((not_congr mi).trans ⟨fun q=>?_,fun ⟨x,hx,q⟩ w=>?_⟩)
  ·refine Decidable.byContradiction fun w=>q ⟨rfl,fun x hx=>?_⟩
   obtain ⟨p',hp',rfl⟩:=bR hx
   exact congrArg _ (Decidable.byContradiction fun ne=>w ⟨_,aE _ (List.mem_map_of_mem (f:=fun p=>ownOf p.ob k) hp'),bne_iff_ne.mpr ne⟩)
  ·rcases bo hx with rfl|hx
   ·exact bne_iff_ne.mp q rfl
   ·obtain ⟨p',hp',rfl⟩:=bR hx
    exact bne_iff_ne.mp q (Int.ofNat.inj (w.2 (.int (ownOf p'.ob k:Nat)) (List.mem_map_of_mem (f:=fun p=>D.int (ownOf p.ob k:Nat)) hp')))
theorem mO{it:X}(its:cF d h ds)(pl:PL h ds Ls)(hl:Ls.length < 90)(q0:it (ab P (m+2)) l h=some (d,h))(hA:∀ p∈Ls,∀ S,g p=some S→S < 512)
  (st:∀ z p,OD h z p→p∈Ls→el (ab P (m+2)) (upd l i z) h=some (cM (g p),h)):xf 1082 [(aN i it none el)] (ab P (m+2)) l h=some (cM (bw (Ls.map g)),(h++[.lst (Ls.map fun p=>cM (g p))]:List MO)):=
 dD (li its pl hl q0 st) (iZ (A:=Ls.map g) (.inr ⟨_,rfl,ak.trans (by rw [List.map_map];rfl)⟩) (by rw [List.length_map];exact hl) fun S hS=>by
  obtain ⟨p,hp,e⟩:=bR hS
  exact hA p hp S e)
theorem oU(its:cF d h ds)(pl:PL h ds Ls)(h0:Ls≠[])(hl:Ls.length < 90):∃ os:List MO,ab P (m+4) 1092 [d,.int key] h=some (cM (bQ Ls key),(h++os:List MO)):=by
 have kinds:∀ {hh:H},cF d hh ds→PL hh ds Ls→xf 1082 [(aN 2 (xv 0) none (xf 1075 [(xv 2),(xv 1)]))] (ab P (m+3)) (fun j=>[d,.int key][j]?) hh=some (cM (bw (Ls.map fun p=>bq p key)),(hh++[.lst (Ls.map fun p=>cM (bq p key))]:List MO)):=fun its pl=>
  mO (m:=m+1) its pl hl (v_ rfl) (fun p hp S e=>(dN (pl.ok p hp) e).lt) fun z p od uu=>az (v_ rfl) (v_ rfl) (j1 od)
 have t5:=(eK (c:=ab P (m+3)) (h1:=h) (v_ (l:=fun i=>[d,.int key][i]?) (i:=1) rfl) (k_ (d:=.int 5))).trans (congrArg (fun v=>some (v,h)) uJ)
 unfold bQ
 cases hk:cj key with
 | none=>
  rw [hk] at t5
  exact ⟨_,ah (zQ P) rfl (ai (fG t5) rfl (aj (kinds its pl)))⟩
 | some k=>
  rw [hk] at t5
  have tst:=iJ t5 (av (az (v_ (i:=0) rfl) (qW (i:=1) rfl hk) (nW (P:=P) (m:=m+2) its pl h0 hl (jA hk))))
  show ∃ os:List MO,_=some (cM (if apart (Ls.map fun p=>ownOf p.ob k)=true then none else _),(h++os:List MO))
  cases ha:apart (Ls.map fun p=>ownOf p.ob k) with
  | true=>
   rw [ha] at tst
   exact ⟨_,ah (zQ P) rfl (aL tst rfl rfl)⟩
  | false=>
   rw [ha] at tst
   exact ⟨[_]++[_],(ah (zQ P) rfl (ai tst rfl (aj (kinds its.app (pl.mv .app))))).trans (by rw [←List.append_assoc];rfl)⟩
theorem yI(its:cF d h ds)(pl:PL h ds Ls)(h0:Ls≠[])(hl:Ls.length < 90)(hk:k < 4):∃ os:List MO,ab P (m+4) 1097 [d,.str (nm k)] h=some (cM (eG Ls k),(h++os:List MO)):=by
 have tst:=av (az (c:=ab P (m+3)) (v_ (l:=fun i=>[d,.str (nm k)][i]?) (i:=0) rfl) (v_ (i:=1) rfl) (nW (P:=P) (m:=m+2) its pl h0 hl hk))
 unfold eG
 cases ha:apart (Ls.map fun p=>ownOf p.ob k) with
 | true=>
  rw [ha] at tst
  exact ⟨_,ah (DJ P) rfl (aj (cU tst rfl))⟩
 | false=>
  rw [ha] at tst
  exact ⟨[_]++[_],(ah (DJ P) rfl (aj (cq tst (mO (P:=P) (m:=m+1) (i:=2) (it:=xv 0) (el:=xf 1068 [(xv 2),(xv 1)]) (g:=fun p=>bS p.ob k) its.app (pl.mv .app) hl (v_ rfl) (fun p hp S e=>((pl.ok p hp).name e).lt) fun z p od uu=>az (v_ rfl) (v_ rfl) (sO (m:=m+1) od hk))))).trans (by rw [←List.append_assoc];rfl)⟩
theorem wq(its:cF d h ds)(pl:PL h ds Ls)(hl:Ls.length < 90):∃ os:List MO,ab P (m+4) 1102 [d] h=some (.int ((bw (Ls.map d6)).getD 0:Nat),(h++os:List MO)):=by
 have e:=li (c:=ab P (m+3)) (l:=fun j=>[d][j]?) (i:=2) (it:=xv 0) (el:=bz (xt (ac .Is (xv 2) (xk .none))) (bW (ki 1)) (xf 1075 [(xv 2),(ki 7)])) (R:=fun p=>cM (d6 p)) its pl hl (v_ rfl) fun z p od uu=>by
  have ka:=j1 (P:=P) (m:=m) (key:=7) od
  rcases od.cases with ⟨rfl,rfl⟩|⟨n,ps,rfl,r,hs⟩
  ·exact cU (av (aF (v_ rfl) k_ rfl)) rfl
  ·refine cq (av (aF (v_ rfl) k_ rfl)) (az (v_ rfl) k_ (ka.trans (congrArg (fun z=>some (cM z,h)) ?_)))
   cases p with
   | str=>cases hs
   | one=>rfl
   | met=>rfl
 have its':cF (.ref (h:List MO).length) (h++[.lst (Ls.map fun p=>cM (d6 p))]:List MO) ((Ls.map d6).map cM):=.inr ⟨_,rfl,ak.trans (by rw [List.map_map];rfl)⟩
 have la:=iZ (P:=P) (m:=m+1) its' (by rw [List.length_map];exact hl) fun S hS=>by
  obtain ⟨p,hp,e⟩:=bR hS
  have ok:=pl.ok p hp
  unfold d6 at e
  split at e
  ·exact (ok.tx S e).lt
  ·exact (ok.dg S e).lt
 refine ⟨[.lst (Ls.map fun p=>cM (d6 p))],ah (IC P) rfl (aH e (aj (eQ (av (aF (a:=bW (ki 1)) (d1:=.int (-1)) rfl (v_ rfl) (tj yl its'))) ?_)))⟩
 unfold bw at la ⊢
 by_cases hn:none∈Ls.map d6
 ·rw [if_pos hn,decide_eq_true hn];rfl
 ·rw [if_neg hn] at la ⊢
  rw [decide_eq_false hn];exact dD (v_ rfl) la
end
noncomputable def d5(M:Nat):Nat:=M ||| (if M.testBit 4 then 15 else 0)
noncomputable def shf(both:Bool)(m:Nat)(p:LP):Nat:=bif both then m &&& d5 (lk p) else m ||| d5 (lk p)
noncomputable def shared(both:Bool)(L:List LP):Nat:=set6 (L.foldl (shf both) (bif both then 63 else 0))
theorem mM:∀ M:Nat,M < 64→((Builtin.bitAnd (M:Int) 16 != 0)=M.testBit 4∧Builtin.bitAnd (M:Int) (Builtin.bitNot 15)=((M &&& 48:Nat):Int))∧d5 M < 64∧be true (ex M)=ex (d5 M)∧set6 (d5 M)=set6 M∧511 &&& ex M=ex (63 &&& M):=by decide +kernel
theorem zL:∀ M < 64,∀ N < 64,ex M &&& ex N=ex (M &&& N)∧d5 (M ||| N)=d5 M ||| d5 N:=by decide +kernel
theorem EG(p:LP):d5 (lk p) < 64:=(mM _ (gT p)).2.1
theorem zG{L:List LP}{A:Nat}(h:A < 64):(L.map fun p=>be true (ex (lk p))).foldl (· &&& ·) (ex A)=ex (L.foldl (shf true) A)∧L.foldl (shf true) A < 64:=by
 induction L generalizing A with
 | nil=>exact ⟨rfl,h⟩
 | cons p r ih=>
  rw [List.map_cons,List.foldl_cons,List.foldl_cons,(mM _ (gT p)).2.2.1,(zL _ h _ (EG p)).1]
  exact ih (cn Nat.and_le_left h)
theorem Cp{L:List LP}:iz (L.map lk) < 64∧iz (L.map fun p=>ex (lk p))=ex (iz (L.map lk))∧∀ A,L.foldl (shf false) A=A ||| d5 (iz (L.map lk)):=by
 induction L with
 | nil=>exact ⟨by decide,by decide +kernel,fun A=>(Nat.or_zero A).symm⟩
 | cons p r ih=>
  obtain ⟨i1,i2,i3⟩:=ih
  refine ⟨Fm (gT p) i1,(congrArg (ex (lk p) ||| ·) i2).trans (DG _ (gT p) _ i1),fun A=>?_⟩
  rw [List.foldl_cons,i3]
  show (A ||| d5 (lk p)) ||| _=A ||| d5 (lk p ||| iz (r.map lk))
  rw [(zL _ (gT p) _ i1).2,Nat.or_assoc]
theorem iG{L:List LP}(h0:L≠[]):cH true (L.map fun p=>ex (lk p))=ex (shared true L):=by
 have e:lsum true (kc ((L.map fun p=>ex (lk p)).map (be true)))=ex (shared true L):=by
  rw [List.map_map]
  cases L with
  | nil=>exact absurd rfl h0
  | cons p r=>
   have b:=(mM _ (gT p)).2
   obtain ⟨i1,i2⟩:=zG (L:=r) (cn Nat.and_le_left (by decide):63 &&& d5 (lk p) < 64)
   show lsum true ((r.map fun p=>be true (ex (lk p))).foldl (· &&& ·) (511 &&& be true (ex (lk p))))=ex (set6 (r.foldl (shf true) (63 &&& d5 (lk p))))
   rw [b.2.1,(mM _ (EG p)).2.2.2.2,i1,jD i2]
 unfold cH
 by_cases z:0∈L.map fun p=>ex (lk p)
 ·rw [if_pos z,←e]
  have m0:0∈(L.map fun p=>ex (lk p)).map (be true):=List.mem_map.mpr ⟨0,z,rfl⟩
  have a0:=(rI m0).symm.trans (Nat.and_zero _)
  rw [a0];rfl
 ·rw [if_neg z,if_neg (fun q=>by
   obtain ⟨p,_,e⟩:=bR q
   exact Nat.ne_of_lt (C6 p).lt e),e]
theorem qN(L:List LP):lsum true (iz (L.map fun p=>ex (lk p)))=ex (shared false L):=by
 obtain ⟨i1,i2,i3⟩:=Cp (L:=L)
 unfold shared
 rw [i2,jD i1,i3,cond_false,Nat.zero_or,(mM _ i1).2.2.2.1]
theorem D9{both:Bool}{p:LP}{m:Nat}(h:m < 64):shf both m p < 64:=by
 cases both with
 | true=>exact cn Nat.and_le_left h
 | false=>exact Fm h (EG p)
theorem pG{both:Bool}{L:List LP}{m:Nat}(h:m < 64):L.foldl (shf both) m < 64:=by
 induction L generalizing m with
 | nil=>exact h
 | cons p r ih=>exact ih (D9 h)
theorem vO(both:Bool)(L:List LP):shared both L < 64:=ie (pG (by cases both<;>decide))
section
variable {l:L}{a x:X}{u:Nat}{mb:Mb}{G:Prop}{both:Bool}{f:Nat→Option Mb}
theorem xZ(hM:M < 64)(qi:l i=some (.int (M:Nat))):bz (xt (xb .BitAnd (xv i) (ki 16))) (xb .BitAnd (xv i) (Au (ki 15))) (xv i) c l h=some (.int (set6 M:Nat),h):=by
 obtain ⟨b1,b2⟩:=(mM M hM).1
 refine eQ ((fW (v_ qi) k_).trans (congrArg (fun v=>some (v,h)) b1)) ?_
 unfold set6
 cases q:M.testBit 4 with
 | true=>rw [if_pos rfl];exact ar (v_ qi) (kQ k_ rfl) (congrArg (fun z=>some (D.int z,h)) b2)
 | false=>exact v_ (c:=c) qi
theorem xh.get_(x:xh h p f)(hp:p≠0)(hk:k < 4):bm .get (.ref p) [.str (nm k),d] h=some (((f k).map lV).getD d,h):=by
 obtain ⟨E,e,o,lk⟩:=x.look hk
 refine (if_neg fun e=>hp (eq_of_beq e)).trans ?_
 show onD (h:List MO)[p]? (fun l=>oa (.str (nm k)) d l h)=_
 rw [e,←lk]
 exact if_pos o
theorem lZ(r:lg h n o ps)(h0:∃ L,(h:List MO)[0]?=some (.lst L))(hk:v < 3)(q0:l 0=some (.ref n))(q1:l 1=some (.int (M:Nat))):
  ∃ l1:L,sq (ae 4 (dB .get (xi (xv 0) (xk (.str (q "members")))) [(xi (xk (.tup [(.str (q "p")),(.str (q "q")),(.str (q "0")),(.str (q "x"))])) (xv 3)),(am [(ki 0),(xk (.bool false)),(ki 1)])])) (sq (ae 1 (xb .BitOr (xv 1) (bz (xt (ac .Eq (xi (xv 4) (ki 2)) (ki 0))) (xb .LShift (ki 1) (xv 3)) (ki 0)))) aa) c (upd l 3 (.int v)) h=some (.next,l1,h)∧l1 0=some (.ref n)∧l1 1=some (.int ((M ||| if nc o v then 2 ^ v else 0:Nat):Int)):=by
 obtain ⟨p,mm,acc⟩:=r.mem_
 obtain ⟨E,e,_⟩:=mm.look (k:=0) (by decide)
 have hp:p≠0:=fun z=>by obtain ⟨L,e0⟩:=h0;cases e0.symm.trans (z▸e)
 have c3:∀ {M:Nat→Prop},M 0→M 1→M 2→M v:=fun {M} a b c=>by
  rcases (by omega:v=0∨v=1∨v=2) with rfl|rfl|rfl<;>assumption
 have inm:item (.tup [(.str (q "p")),(.str (q "q")),(.str (q "0")),(.str (q "x"))]) (.int v) h=some (.str (nm v),h):=c3 (M:=fun v=>item (.tup [(.str (q "p")),(.str (q "q")),(.str (q "0")),(.str (q "x"))]) (.int (v:Int)) h=some (.str (nm v),h)) rfl rfl rfl
 have g1:=aA (i:=4) (xn (m:=.get) (c:=c) (l:=upd l 3 (.int v)) (acc (v_ (i:=0) q0)) (by rw [pe e];rfl) (dJ (ar k_ (v_ (i:=3) rfl) inm) (show (am [(ki 0),(xk (.bool false)),(ki 1)]) c (upd l 3 (.int v)) h=some (.tup [.int 0,.bool false,.int 1],h) from rfl)) (mm.get_ hp (by omega)))
 have own:∃ (a c:D) (w:Int),((o.m v).map lV).getD (.tup [.int 0,.bool false,.int 1])=.tup [a,c,.int w]∧(w==0)=nc o v:=by
  unfold nc
  cases o.m v with
  | none=>exact ⟨_,_,1,rfl,rfl⟩
  | some m=>exact ⟨_,_,m.own,rfl,(cQ (j:=0)).trans (by show _=!decide (m.own≠0);by_cases z:m.own=0<;>simp [z])⟩
 obtain ⟨a,cc,w,er,ew⟩:=own
 rw [er] at g1
 refine ⟨_,bg g1 (bg (aA (ar (v_ q1) (eQ (v:=nc o v) (r:=some (.int ((if nc o v then 2 ^ v else 0:Nat):Int),h)) ((ao (ar (v_ rfl) k_ bT) k_).trans (congrArg (fun v=>some (v,h)) ew)) ?_) iw)) rfl),q0,rfl⟩
 cases nc o v with
 | false=>rfl
 | true=>exact ar k_ (v_ rfl) (c3 (M:=fun v=>ft .LShift (.int 1) (.int (v:Int)) h=some (.int ((2 ^ v:Nat):Int),h)) rfl rfl rfl)
theorem jX(r:lg h n o [])(h0:∃ L,(h:List MO)[0]?=some (.lst L)):ab P (m+1) 1109 [.ref n] h=some (.int (set6 (Ar o):Nat),h):=by
 obtain ⟨l1,b1,p0,p1⟩:=lZ (c:=ab P m) (v:=0) (M:=0) (l:=upd (fun j=>[D.ref n][j]?) 1 (.int 0)) r h0 (by decide) rfl rfl
 obtain ⟨l2,b2,p0,p1⟩:=lZ (c:=ab P m) (v:=1) r h0 (by decide) p0 p1
 obtain ⟨l3,b3,p0,p1⟩:=lZ (c:=ab P m) (v:=2) r h0 (by decide) p0 p1
 have st:still (.rng 0 ((3:Nat):Int)) ((List.range 3).map fun (k:Nat)=>.int k) 0 h=true:=bD
 rw [Nat.zero_or] at p1
 have cc:∀ {v:Bool} {k:Nat} {s:Str} {oo:Option Nat},xi (xv 0) (xk (.str s)) (ab P m) l3 h=some (cM oo,h)→bz (xt (ac .GtE (xi (xv 0) (xk (.str s))) (ki 0))) (ki k) (ki 0) (ab P m) l3 h=some (.int ((if oo.isSome then k else 0:Nat):Int),h):=fun {v k s oo} e=>by
  refine eQ (v:=oo.isSome) (av (aF e k_ (congrArg some C2))) ?_
  cases oo.isSome<;>rfl
 exact ah (zP P) rfl (ai (av (aF (v_ rfl) k_ rfl)) rfl (ax (x:=ae 1 (ki 0)) (aA k_) (ax (aO (ds:=[]) (r.ps_ (v_ rfl)) rfl (by decide) (aR an)) (eX (ao (bZ (aQ (r.ps_ (v_ rfl))) rfl) k_) rfl (bg (aO (kQ k_ (bP (n:=3) (by decide))) bU (by decide) (aC st b1 (aC st b2 (aC st b3 (aR st))))) (bg (aA (ar (ar (v_ p1) (cc (v:=true) (k:=48) (r.tx_ (v_ p0))) iw) (cc (v:=true) (k:=32) (r.dg_ (v_ p0))) iw)) rfl)) (aj (xZ (M:=Ar o) (ma _ _ _ _ _) rfl))))))
theorem yU(z:OD h d lp)(h0:∃ L,(h:List MO)[0]?=some (.lst L)):ab P (m+2) 1109 [d] h=some (.int (lk lp:Nat),h):=by
 cases lp with
 | str=>cases z;exact ah (zP P) rfl (aL (av (aF (v_ rfl) k_ rfl)) rfl k_)
 | one o=>obtain ⟨n,rfl,r⟩:=z;exact jX r h0
 | met a b=>
  obtain ⟨n,na,ne,rfl,r,r1,r2⟩:=z
  have lt:((0:Nat) ||| set6 (Ar a)) ||| set6 (Ar b) < 64:=Fm (Fm (by decide) (ie (ma _ _ _ _ _))) (ie (ma _ _ _ _ _))
  have e:lk (.met a b)=set6 (((0:Nat) ||| set6 (Ar a)) ||| set6 (Ar b)):=by rw [Nat.zero_or];rfl
  rw [e]
  exact ah (zP P) rfl (ai (av (aF (v_ rfl) k_ rfl)) rfl (ax (x:=ae 1 (xk (.int ((0:Nat):Int)))) (aA k_) (ax (aO (ds:=[.ref na,.ref ne]) (r.ps_ (v_ rfl)) rfl (f0 rfl) (aC an (bg (aA (ar (v_ rfl) (dD (v_ rfl) (jX r1 h0)) iw)) rfl) (aC an (bg (aA (ar (v_ rfl) (dD (v_ rfl) (jX r2 h0)) iw)) rfl) (aR an)))) (ai (ao (bZ (aQ (r.ps_ (v_ rfl))) rfl) k_) rfl (aj (xZ lt rfl))))))
noncomputable abbrev KV:XS:=sq (ae 4 (xf 1109 [(xv 3)])) (sq (ae 4 (xb .BitOr (xv 4) (bz (xt (xb .BitAnd (xv 4) (ki 16))) (ki 15) (ki 0)))) (sq (ae 2 (bz (xt (xv 1)) (xb .BitAnd (xv 2) (xv 4)) (xb .BitOr (xv 2) (xv 4)))) aa))
theorem A5{chk:H→Bool}(hc:chk h=true)(pl:PL h ds Ls)(h0:∃ L,(h:List MO)[0]?=some (.lst L))(q1:l 1=some (.bool both))(q2:l 2=some (.int (M:Nat))):∃ l',bC chk 3 KV (ab P (m+2)) ds l h=some (.next,l',h)∧l' 2=some (.int (Ls.foldl (shf both) M:Nat)):=by
 induction ds generalizing Ls l M with
 | nil=>cases Ls with
  | nil=>exact ⟨l,aR hc,q2⟩
  | cons=>exact pl.elim
 | cons d ds ih=>cases Ls with
  | nil=>exact pl.elim
  | cons p Ls=>
   have op:xb .BitOr (xv 4) (bz (xt (xb .BitAnd (xv 4) (ki 16))) (ki 15) (ki 0)) (ab P (m+2)) (upd (upd l 3 d) 4 (.int (lk p:Nat))) h=some (.int (d5 (lk p):Nat),h):=by
    refine ar (v_ rfl) (eQ (v:=(lk p).testBit 4) (r:=some (.int ((if (lk p).testBit 4 then 15 else 0:Nat):Int),h)) ((fW (v_ rfl) k_).trans (congrArg (fun v=>some (v,h)) (mM _ (gT p)).1.1)) ?_) iw
    cases (lk p).testBit 4<;>rfl
   have stp:bz (xt (xv 1)) (xb .BitAnd (xv 2) (xv 4)) (xb .BitOr (xv 2) (xv 4)) (ab P (m+2)) (upd (upd (upd l 3 d) 4 (.int (lk p:Nat))) 4 (.int (d5 (lk p):Nat))) h=some (.int (shf both M p:Nat),h):=by
    refine eQ (av (v_ q1)) ?_
    cases both with
    | true=>exact ar (v_ q2) (v_ rfl) rfl
    | false=>exact ar (v_ q2) (v_ rfl) iw
   obtain ⟨l',e,q⟩:=ih (l:=upd (upd (upd (upd l 3 d) 4 (.int (lk p:Nat))) 4 (.int (d5 (lk p):Nat))) 2 (.int (shf both M p:Nat))) (M:=shf both M p) pl.2 q1 rfl
   exact ⟨l',aC hc (bg (aA (dD (v_ rfl) (yU pl.1 h0))) (bg (aA op) (bg (aA stp) rfl))) e,q⟩
theorem vN(its:cF d h ds)(pl:PL h ds Ls)(hl:Ls.length < 90)(h0:∃ L,(h:List MO)[0]?=some (.lst L)):ab P (m+3) 1116 [d,.bool both] h=some (.int (shared both Ls:Nat),h):=by
 obtain ⟨l',lp,q2⟩:=A5 (P:=P) (m:=m) (both:=both) (M:=bif both then 63 else 0) (l:=upd (fun j=>[d,.bool both][j]?) 2 (.int ((bif both then 63 else 0:Nat):Int))) (its.still its) pl h0 rfl rfl
 refine ah (IB P) rfl (aH (eQ (v:=both) (r:=some (.int ((bif both then 63 else 0:Nat):Int),h)) (av (v_ rfl)) ?_) (ax (aO (v_ rfl) its.items (by rw [F2.length pl];omega) lp) (aj (xZ (pG (by cases both<;>decide)) q2))))
 cases both<;>rfl
end
section
variable {l:L}{a x:X}{u n1 n2:Nat}{mb:Mb}{ps1 ps2:List D}{G:Prop}{f F:Nat→Option Mb}{o3:Option Nat}{ks kk:List Nat}{gg:Nat→D}
abbrev Md(f:Nat→Option Mb)(ks:List Nat)(g:Nat→D):Prop:=Dr (fun uu m d=>d=lV m) f ks g
theorem Fj(q0:l i=some (lV m1))(q1:l j=some (lV m2)):gE (xi (xv i) (ki 1)) (xi (xv j) (ki 1)) c l h=some (.bool (m1.opt && m2.opt),h):=lj (ar (v_ q0) k_ bj) (ar (v_ q1) k_ bj)
theorem Ae(s1:bY m1.ty)(s2:bY m2.ty):ab P (m+3) 1054 [lV m1,lV m2] h=some (lV (both m1 m2),h):=by
 have t1:=(fV (c:=ab P (m+2)) (h:=h) (ar (v_ (l:=fun i=>[lV m1,lV m2][i]?) (i:=0) rfl) (k_ (d:=.int 2)) bT) (ar (v_ (i:=1) rfl) (k_ (d:=.int 2)) bT)).trans (congrArg (fun v=>some (!v,h)) (cQ (i:=m1.own) (j:=m2.own)))
 unfold both
 by_cases ho:m1.own=m2.own
 ·rw [if_neg fun w=>w ho]
  rw [decide_eq_true ho] at t1
  have t2:∀ {l:L},l 0=some (lV m1)→l 1=some (lV m2)→xt (ac .NotEq (xi (xv 0) (ki 1)) (xi (xv 1) (ki 1))) (ab P (m+2)) l h=some (!(m1.opt==m2.opt),h):=fun q0 q1=>ly (ar (v_ q0) k_ bj) (ar (v_ q1) k_ bj) rfl
  refine ah (DM P) rfl (ai t1 rfl (aH (ar (v_ rfl) k_ aq) (aH (ar (v_ rfl) k_ aq) ?_)))
  by_cases hp:m1.opt=m2.opt
  ·rw [if_neg fun w=>w hp]
   exact ai (t2 rfl rfl) (by rw [hp,beq_self_eq_true];rfl) (aj (bZ (dW (az (v_ rfl) (v_ rfl) (iY s1.lt s2.lt)) (Fj rfl rfl) (ar (v_ rfl) k_ bT)) rfl))
  ·rw [if_pos hp]
   exact eX (t2 rfl rfl) (by rw [beq_eq_false_iff_ne.mpr hp];rfl) (bg (aA (dD (Ef (mb:=m1) rfl (v_ rfl)) (eZ (sH s1)))) (bg (aA (dD (Ef (mb:=m2) rfl (v_ rfl)) (eZ (sH s2)))) rfl)) (aj (bZ (dW (az (v_ rfl) (v_ rfl) (iY (gL s1).lt (gL s2).lt)) (Fj rfl rfl) (ar (v_ rfl) k_ bT)) rfl))
 ·rw [if_pos ho]
  rw [decide_eq_false ho] at t1
  refine ah (DM P) rfl (aL t1 rfl (bZ (dW k_ (Fj rfl rfl) (eQ (v:=decide ((m1.own:Int) > 0)) (r:=some (.int ((if 0 < m1.own then m1.own else m2.own:Nat):Int),h)) (av (aF (ar (v_ rfl) k_ bT) k_ rfl)) ?_)) rfl))
  by_cases z:0 < m1.own
  ·rw [decide_eq_true (show (m1.own:Int) > 0 by omega),if_pos z];exact ar (v_ rfl) (k_ (c:=ab P (m+2))) bT
  ·rw [decide_eq_false (show ¬(m1.own:Int) > 0 by omega),if_neg z];exact ar (v_ rfl) (k_ (c:=ab P (m+2))) bT
theorem BF{m0:L}{chk:H→Bool}{w:Nat→Option Mb}(hc:∀ os,chk (h++os:List MO)=true)(h0:(h:List MO).length≠0)(nd:ks.Nodup)(md:Md F kk gg)(mw:xh h p2 w)(hks:∀ k∈ks,∃ m',w k=some m'∧k < 3∧bY m'.ty∧∀ m,F k=some m→bY m.ty)
  (acc:∀ {os:List MO} {l:L},l 2=some d2→xi (xv 2) (xk (.str (q "members"))) (ab P (n+3)) l (h++os:List MO)=some (.ref p2,(h++os:List MO))) (z2:m0 2=some d2) (z3:m0 3=some (.ref (h:List MO).length)) (z4:m0 4=none) (z5:m0 5=none) (e:Le m0 l)
  (Q:∀ l' kk' gg',bC chk 4 (sq (ae 5 (xi (xi (xv 2) (xk (.str (q "members")))) (xv 4))) (sq (bB (bz (xt (ac .In (xv 4) (xv 3))) (xf 1054 [(xi (xv 3) (xv 4)),(xv 5)]) (xv 5)) (xv 3) (xv 4)) aa)) (ab P (n+3)) (iS ks) l (h++[.dct (dM kk gg)]:List MO)=some (.next,l',(h++[.dct (dM kk' gg')]:List MO))→Md (fun i=>if i∈ks then mm F w i else F i) kk' gg'→Le m0 l'→G):G:=by
 induction ks generalizing F kk gg l with
 | nil=>exact Q l kk gg (aR (hc _)) md e
 | cons k ks ih=>
  obtain ⟨m',em,k3,s2,s1⟩:=hks k aw
  rw [List.nodup_cons] at nd
  have k4:k < 4:=Nat.lt_succ_of_lt k3
  have h4:=uC md.lt
  have e5:=(e.upd (i:=4) (z:=.str (nm k)) z4).upd (i:=5) (z:=lV m') z5
  have st:=aA (i:=5) (ar (f:=item) (acc (os:=[.dct (dM kk gg)]) (l:=upd l 4 (.str (nm k))) (e 2 _ z2)) (v_ (i:=4) rfl) (((mw.mv .app).in_ k4).2 m' em))
  have tin:=av (aF (c:=ab P (n+3)) (l:=upd (upd l 4 (.str (nm k))) 5 (lV m')) (v_ (i:=4) rfl) (w_ e5 z3) (EP (h:=(h++[.dct (dM kk gg)]:List MO)) ak k4 h4))
  have nxt:bz (xt (ac .In (xv 4) (xv 3))) (xf 1054 [(xi (xv 3) (xv 4)),(xv 5)]) (xv 5) (ab P (n+3)) (upd (upd l 4 (.str (nm k))) 5 (lV m')) (h++[.dct (dM kk gg)]:List MO)=some (lV (match F k with|some x=>both x m'|none=>m'),(h++[.dct (dM kk gg)]:List MO)):=by
   refine eQ tin ?_
   by_cases hk:k∈kk
   ·rw [decide_eq_true hk]
    refine md.get hk fun m1 e1 uu g1=>?_
    rw [e1]
    exact az (ar (w_ e5 z3) (v_ rfl) ((pg ak k4 h4 hk).trans (congrArg (fun z=>some (z,_)) g1))) (v_ rfl) (Ae (s1 m1 e1) s2)
   ·rw [decide_eq_false hk]
    cases e1:F k with
    | none=>exact v_ (c:=ab P (n+3)) (l:=upd (upd l 4 (.str (nm k))) 5 (lV m')) (i:=5) rfl
    | some m=>exact absurd ((md.mem k).mpr (congrArg Option.isSome e1)) hk
  refine ih nd.2 (md.ins k3 rfl) (fun i hi=>?_) e5 fun l' kk' gg' e' d' q'=>Q l' kk' gg' (aC (hc _) (bg st (bg (eW nxt (w_ e5 z3) (v_ rfl) ((jR h0 ak k4 h4 md.nd).trans (congrArg some fX))) rfl)) e') (d'.mmc nd.1 em) q'
  obtain ⟨m'',a1,a2,a3,a4⟩:=hks i (aE _ hi)
  exact ⟨m'',a1,a2,a3,fun m e=>a4 m (by rwa [if_neg fun z:i=k=>nd.1 (z▸hi)] at e)⟩
noncomputable abbrev FM(p:Nat)(o:Ob)(ps:List D):List (D×D):=[(.str (q "members"),.ref p),(.str (q "texts"),cM o.tx),(.str (q "digits"),cM o.dg),(.str (q "parts"),.tup ps)]
noncomputable abbrev Lg:XS:=(sq (ay (dn (xt (ac .Lt (xi (xv 1) (xv 7)) (ki 0))) (xt (ac .Lt (xi (xv 2) (xv 7)) (ki 0)))) (sq (bn (dB .append (xv 6) [(bz (xt (ac .Lt (xi (xv 1) (xv 7)) (ki 0))) (xi (xv 2) (xv 7)) (xi (xv 1) (xv 7)))])) aa) (sq (bn (dB .append (xv 6) [(xf 1040 [(xi (xv 1) (xv 7)),(xi (xv 2) (xv 7))])])) aa)) aa)
theorem rC(hu:∀ S,oo=some S→bY S)(hv:∀ S,o3=some S→bY S)(h0:(h:List MO).length≠0)(hA:A.length < 10)
  (b1:xi (xv 1) (xv 7) (ab P (n+2)) l (h++[.lst A]:List MO)=some (cM oo,(h++[.lst A]:List MO)))
  (b2:xi (xv 2) (xv 7) (ab P (n+2)) l (h++[.lst A]:List MO)=some (cM o3,(h++[.lst A]:List MO))) (q6:l 6=some (.ref (h:List MO).length)) :
  Lg (ab P (n+2)) l (h++[.lst A]:List MO)=some (.next,l,(h++[.lst (A++[cM (fx oo o3)])]:List MO)):=by
 have ap:∀ {k:X} {z:D},k (ab P (n+2)) l (h++[.lst A]:List MO)=some (z,(h++[.lst A]:List MO))→sq (bn (dB .append (xv 6) [k])) aa (ab P (n+2)) l (h++[.lst A]:List MO)=some (.next,l,(h++[.lst (A++[z])]:List MO)):=fun hk=>bg (dS ((dz h0 (v_ q6) ak (aQ hk) ak (by omega)).trans (congrArg (fun z=>some (D.none,z)) fX))) rfl
 have t1:=(eK b1 (k_ (d:=.int 0))).trans (congrArg (fun v=>some (v,_)) qD)
 have t2:=(eK b2 (k_ (d:=.int 0))).trans (congrArg (fun v=>some (v,_)) qD)
 cases oo with
 | none=>exact bg (mq (lw t1) (ap (cU t1 b2))) rfl
 | some S=>cases o3 with
  | none=>exact bg (mq (jl t1 t2) (ap (cq t1 b1))) rfl
  | some R=>exact bg (nF (jl t1 t2) (ap (az b1 b2 (iY (hu S rfl).lt (hv R rfl).lt)))) rfl
theorem qQ{r0:List D}(its:cF d h (.ref n1::.ref n2::r0))(r1:lg h n1 o1 ps1)(r2:lg h n2 o2 ps2)(h0:(h:List MO).length≠0):
  ∃ (hh:H) (os:List MO) (r:Nat),hh=(h++os:List MO)∧ab P (n+4) 1061 [d] h=some (.ref r,hh)∧lg hh r (kB o1 o2) [.ref n1,.ref n2]:=by
 obtain ⟨ok1,E1,p1,a1,b1,⟨ks1,g1,e1,md1⟩,l1,_⟩:=id r1
 obtain ⟨ok2,E2,p2,a2,b2,⟨ks2,g2,e2,md2⟩,l2,_⟩:=id r2
 have s1:iL [1,2] (am [(xi (xv 0) (ki 0)),(xi (xv 0) (ki 1))]) (ab P (n+3)) (fun j=>[d][j]?) h=some (.next,upd (upd (fun j=>[d][j]?) 1 (.ref n1)) 2 (.ref n2),h):=nK (bZ (dJ (ar (v_ rfl) k_ (cB (j:=0) its rfl)) (ar (v_ rfl) k_ (cB (j:=1) its rfl))) rfl) rfl
 have dc:bi .dict [.ref p1] h=some (.ref (h:List MO).length,(h++[.dct (dM ks1 g1)]:List MO)):=by
  show onD (h:List MO)[p1]? (fun l=>if cW 2 l then new (.dct l) h else none)=_
  rw [e1]
  exact if_pos (jB ks1 g1)
 have dx:=aA (i:=3) (a:=dC .dict [(xi (xv 1) (xk (.str (q "members"))))]) (c:=ab P (n+3)) (l:=upd (upd (fun j=>[d][j]?) 1 (.ref n1)) 2 (.ref n2)) (bZ (aQ (pS a1 b1 (v_ (i:=1) rfl) l1)) dc)
 refine BF (P:=P) (n:=n) (h:=h) (d2:=.ref n2) (m0:=upd (upd (upd (fun j=>[d][j]?) 1 (.ref n1)) 2 (.ref n2)) 3 (.ref (h:List MO).length)) (chk:=still (.ref p2) (iS ks2) (knd (.ref p2) (h++[.dct (dM ks1 g1)]:List MO))) (w:=o2.m) (fun os=>bE (uO (au e2)) ((pe (au e2)).trans (pe (au e2)).symm)) h0 md2.nd md1 ⟨ks2,g2,e2,md2⟩ (fun k hk=>md2.get hk fun m e k3 uu=>⟨m,e,k3,(ok2.m k m e).1,fun m' e'=>(ok1.m k m' e').1⟩)
  (fun q=>pS (au a2) b2 (v_ q) l2) rfl rfl rfl rfl .refl fun l' kk gg lp md qq=>?_
 have md:=md.mma md2.mem
 have hA0:(h++[.dct (dM kk gg)]:List MO).length≠0:=by rw [List.length_append];exact Nat.succ_ne_zero _
 have v1:=qq 1 _ rfl
 have v2:=qq 2 _ rfl
 have c1:=rC (P:=P) (n:=n+1) (h:=(h++[.dct (dM kk gg)]:List MO)) (l:=upd (upd l' 6 (.ref (h++[.dct (dM kk gg)]:List MO).length)) 7 (.str (q "texts"))) (oo:=o1.tx) (o3:=o2.tx) (A:=[]) ok1.tx ok2.tx hA0 (by decide) ((r1.mv (.trans .app .app)).tx_ (v_ v1)) ((r2.mv (.trans .app .app)).tx_ (v_ v2)) rfl
 have c2:=rC (P:=P) (n:=n+1) (h:=(h++[.dct (dM kk gg)]:List MO)) (l:=upd (upd (upd l' 6 (.ref (h++[.dct (dM kk gg)]:List MO).length)) 7 (.str (q "texts"))) 7 (.str (q "digits"))) (oo:=o1.dg) (o3:=o2.dg) (A:=[cM (fx o1.tx o2.tx)]) ok1.dg ok2.dg hA0 (f0 rfl) ((r1.mv (.trans .app .app)).dg_ (v_ v1)) ((r2.mv (.trans .app .app)).dg_ (v_ v2)) rfl
 have gB:(h++[.dct (dM kk gg)]++[.lst [cM (fx o1.tx o2.tx),cM (fx o1.dg o2.dg)]]:List MO)[(h++[.dct (dM kk gg)]:List MO).length]?=some (.lst [cM (fx o1.tx o2.tx),cM (fx o1.dg o2.dg)]):=ak
 refine ⟨(h++[.dct (dM kk gg)]++[.lst [cM (fx o1.tx o2.tx),cM (fx o1.dg o2.dg)]]++[.dct (FM (h:List MO).length (kB o1 o2) [.ref n1,.ref n2])]:List MO),[.dct (dM kk gg)]++([.lst [cM (fx o1.tx o2.tx),cM (fx o1.dg o2.dg)]]++[.dct (FM (h:List MO).length (kB o1 o2) [.ref n1,.ref n2])]),_,by rw [List.append_assoc,List.append_assoc],ah (IE P) rfl (ax s1 (ax dx (ax (aO (pS (au a2) b2 (v_ rfl) l2) (uO (au e2)) ?_ lp) (ax (x:=ae 6 (br [])) (aA rfl) (ax (aO (ds:=[.str (q "texts"),.str (q "digits")]) rfl rfl (f0 rfl) (aC an c1 (aC an c2 (aR an)))) (aj (bZ (bV k_ (bV (v_ (qq 3 _ rfl)) (bV k_ (bV (ar (v_ rfl) k_ (aX (t:=0) gB rfl)) (bV k_ (dW (ar (v_ rfl) k_ (aX (t:=1) gB rfl)) k_ (bZ (dJ (v_ v1) (v_ v2)) rfl))))))) rfl))))))),qE ok1 ok2,_,(h:List MO).length,ak,rfl,⟨kk,gg,au (au ak),md⟩,rfl,rfl,rfl,rfl⟩
 rw [List.length_map]
 exact cn (dp md2.nd md2.lt) (by decide)
end
def Fz(dA:Nat)(h h':H):Prop:=(h:List MO).length≤(h':List MO).length∧∀ (m:Nat) (o:MO),m≠dA→(h:List MO)[m]?=some o→(h':List MO)[m]?=some o
def Dz(h:H)(dA nA a:Nat):Prop:=(h:List MO)[dA]?=some (.lst [.int (a:Nat),.ref nA])∧(dA≠nA∧dA≠0)∧∃ N:List Int,(h:List MO)[nA]?=some (.lst (N.map .int))∧N.length≠0∧N.length < 100
abbrev Fg(f:Nat→Option Mb)(ks:List Nat)(g:Nat→D):Prop:=Dr (fun uu m d=>(bY m.ty∧m.own < 3)∧∃ fl:Nat,d=.int fl∧fl < 128∧fl.testBit 0=m.opt∧(fl.testBit 3 || fl.testBit 4)=decide (m.own≠0)) f ks g
def rM(h:H)(n:Nat)(o:Ob):Prop:=lg h n o []∧∃ (E:List (D×D)) (p:Nat) (ks:List Nat) (g:Nat→D),(h:List MO)[n]?=some (.dct E)∧cW 2 E=true∧(h:List MO)[p]?=some (.dct (dM ks g))∧bh (.str (q "flags")) E=some (.ref p)∧Fg o.m ks g
section
variable {l:L}{x:X}{a:Nat}{f:Nat→Option Mb}{ks:List Nat}{z:MO}{G:Prop}
theorem Fz.refl:Fz dA h h:=⟨Nat.le_refl _,fun uu uu1 uu2 e=>e⟩
theorem Fz.trans(x:Fz dA h h1)(y:Fz dA h1 h2):Fz dA h h2:=⟨Nat.le_trans x.1 y.1,fun m o n e=>y.2 m o n (x.2 m o n e)⟩
theorem Fz.app:Fz dA h (h++os:List MO):=⟨List.length_append▸cg _ _,fun m o n e=>au e⟩
theorem Fz.set(x:Fz dA h h1)(hm:(h:List MO).length≤m∨m=dA):Fz dA h (h1.set m z):=⟨(by rw [List.length_set];exact x.1),fun n o nn e=>aY (x.2 n o nn e) (hm.elim (fun w=>Nat.ne_of_lt (Nat.lt_of_lt_of_le (cJ e) w)) fun w=>w▸nn)⟩
theorem Fz.pos(x:Fz dA h h1)(e:(h:List MO).length≠0):(h1:List MO).length≠0:=fun w=>e (Nat.le_zero.mp (w▸x.1))
theorem Dz.app(z:Dz h dA nA a):Dz (h++os:List MO) dA nA a:=⟨au z.1,z.2.1,z.2.2.imp fun N w=>⟨au w.1,w.2⟩⟩
theorem Dz.set{y:MO}(z:Dz h dA nA a)(h1:m≠dA)(h2:m≠nA):Dz (h.set m y) dA nA a:=⟨aY z.1 h1.symm,z.2.1,z.2.2.imp fun N w=>⟨aY w.1 h2.symm,w.2⟩⟩
theorem Dz.dct(z:Dz h dA nA a)(e:(h:List MO)[m]?=some (.dct E)):m≠dA∧m≠nA:=⟨fun w=>(by cases (w▸e).symm.trans z.1),fun w=>by obtain ⟨N,r,_⟩:=z.2.2;cases (w▸e).symm.trans r⟩
theorem Dz.lt(z:Dz h dA nA a):dA < (h:List MO).length∧nA < (h:List MO).length:=⟨cJ z.1,z.2.2.elim fun N w=>cJ w.1⟩
theorem Dz.mv(z:Dz h dA nA a)(s:Fz dA h hh):Mv h hh:=fun m E e uu=>s.2 m _ (z.dct e).1 e
theorem rM.mv(x:rM h n o)(v:Mv h hh):rM hh n o:=by
 obtain ⟨r,E,p,ks,g,e,kd,e2,r2⟩:=x
 exact ⟨r.mv v,E,p,ks,g,v _ _ e kd,kd,v _ _ e2 (jB ks g),r2⟩
theorem zI{a b:Int}:ft .FloorDiv (.int a) (.int b) h=if (cA a && cA b && b != 0)=true then some (.int (a.fdiv b),h) else none:=rfl
theorem yL{a b:Int}:ft .Mult (.int a) (.int b) h=if (cA a && cA b)=true then some (.int (a * b),h) else none:=rfl
theorem o6{a b:Int}:ft .Mod (.int a) (.int b) h=if (b != 0)=true then some (.int (a.fmod b),h) else none:=rfl
theorem Dz.take(z:Dz h dA nA a)(ha:a < 9999)(hm:m≠0)(Q:∀ hh (v:Nat),v < m→ab P (n+1) 1019 [.ref dA,.int m] h=some (.int v,hh)→Dz hh dA nA (a+1)→Fz dA h hh→G):G:=by
 obtain ⟨g0,ne,N,e,n0,nl⟩:=z
 have hx:=List.getElem?_eq_getElem (Nat.mod_lt a (Nat.pos_of_ne_zero n0))
 have mp:(0:Int) < m:=Int.ofNat_lt.mpr (Nat.pos_of_ne_zero hm)
 have r0:0≤Int.fmod (N[a % N.length]'(Nat.mod_lt a (Nat.pos_of_ne_zero n0))+((a / N.length:Nat):Int) * ((a:Int)+3)) m:=Int.fmod_nonneg_of_pos _ mp
 have r1:=Int.fmod_lt_of_pos (N[a % N.length]'(Nat.mod_lt a (Nat.pos_of_ne_zero n0))+((a / N.length:Nat):Int) * ((a:Int)+3)) mp
 have nz:((N.length:Int) != 0)=true:=bne_iff_ne.mpr fun e=>n0 (Int.ofNat.inj e)
 have mz:((m:Int) != 0)=true:=bne_iff_ne.mpr fun e=>hm (Int.ofNat.inj e)
 have e1:=aY (o':=.lst [.int (a+1:Nat),.ref nA]) e ne.1.symm
 have g1:(h.set dA (.lst [.int (a+1:Nat),.ref nA]):List MO)[dA]?=some (.lst [.int (a+1:Nat),.ref nA]):=co g0
 have nm:∀ {l:L},l 0=some (.ref dA)→xi (xv 0) (ki 1) (ab P n) l (h.set dA (.lst [.int (a+1:Nat),.ref nA]))=some (.ref nA,h.set dA (.lst [.int (a+1:Nat),.ref nA])):=fun q0=>ar (v_ q0) k_ (aX (t:=1) g1 rfl)
 have si:setItem (.ref dA) (.int 0) (.int ((a:Int)+1)) h=some (h.set dA (.lst [.int (a+1:Nat),.ref nA])):=by
  refine (if_neg fun e=>ne.2 (eq_of_beq e)).trans ?_
  rw [g0];rfl
 have m1:ft .Mod (.int (a:Int)) (.int (N.length:Int)) (h.set dA (.lst [.int (a+1:Nat),.ref nA]))=some (.int ((a % N.length:Nat):Int),h.set dA (.lst [.int (a+1:Nat),.ref nA])):=o6.trans ((if_pos nz).trans (congrArg (fun z=>some (D.int z,_)) (Int.fmod_eq_emod_of_nonneg _ (Int.natCast_nonneg _))))
 have ss:∀ z:Nat,z < 20000→cA (z:Int)=true:=fun z hz=>jP (Nat.lt_of_lt_of_le hz (by decide))
 have ql:a / N.length≤a:=Nat.div_le_self _ _
 have m2:ft .FloorDiv (.int (a:Int)) (.int (N.length:Int)) (h.set dA (.lst [.int (a+1:Nat),.ref nA]))=some (.int ((a / N.length:Nat):Int),h.set dA (.lst [.int (a+1:Nat),.ref nA])):=zI.trans ((if_pos (by rw [ss a (by omega),ss N.length (by omega),nz];rfl)).trans (congrArg (fun z=>some (D.int z,_)) (Int.fdiv_eq_ediv_of_nonneg _ (Int.natCast_nonneg _))))
 have m3:ft .Mult (.int ((a / N.length:Nat):Int)) (.int ((a:Int)+3)) (h.set dA (.lst [.int (a+1:Nat),.ref nA]))=some (.int (((a / N.length:Nat):Int) * ((a:Int)+3)),h.set dA (.lst [.int (a+1:Nat),.ref nA])):=yL.trans (if_pos (by rw [ss (a / N.length) (by omega),Bool.true_and];exact ss (a+3) (by omega)))
 refine Q _ (Int.fmod (N[a % N.length]'(Nat.mod_lt a (Nat.pos_of_ne_zero n0))+((a / N.length:Nat):Int) * ((a:Int)+3)) m).toNat (by omega) ?_ ⟨g1,ne,N,e1,n0,nl⟩ (Fz.refl.set (.inr rfl))
 rw [Int.toNat_of_nonneg r0]
 exact ah (IH P) rfl (aH (ar (v_ rfl) k_ (aX (t:=0) g0 rfl)) (ax (eW (ar (v_ rfl) k_ rfl) (v_ rfl) k_ si) (aH (bZ (aQ (nm rfl)) (dU e1)) (aj (ar (ar (ar (nm rfl) (ar (v_ rfl) (v_ rfl) (by rw [List.length_map];exact m1)) (aX e1 ((List.getElem?_map ..).trans (congrArg _ hx)))) (ar (ar (v_ rfl) (v_ rfl) (by rw [List.length_map];exact m2)) (ar (v_ rfl) k_ rfl) m3) rfl) (v_ rfl) (o6.trans (if_pos mz)))))))
theorem qS(hv:v < 8):∃ S:Nat,bY S∧([(.int 1),(.int 64),(.int 3),(.int 4),(.int 128),(.int 33),(.int 12),(.int 256)]:List D)[v]?=some (.int S):=by
 have sm:∀ {S:Nat},S < 512∧lsum false S=S→bY S:=fun h=>h.2▸ic h.1
 rcases (by omega:v=0∨v=1∨v=2∨v=3∨v=4∨v=5∨v=6∨v=7) with rfl|rfl|rfl|rfl|rfl|rfl|rfl|rfl
 ·exact ⟨1,sm (by decide +kernel),rfl⟩
 ·exact ⟨64,sm (by decide +kernel),rfl⟩
 ·exact ⟨3,sm (by decide +kernel),rfl⟩
 ·exact ⟨4,sm (by decide +kernel),rfl⟩
 ·exact ⟨128,sm (by decide +kernel),rfl⟩
 ·exact ⟨33,sm (by decide +kernel),rfl⟩
 ·exact ⟨12,sm (by decide +kernel),rfl⟩
 ·exact ⟨256,sm (by decide +kernel),rfl⟩
noncomputable abbrev CX:List D:=[.tup [.int 0,.int 0],.tup [.int 0,.int 0],.tup [.int 1,.int 0],.tup [.int 2,.int 0],.tup [.int 8,.int 1],.tup [.int 8,.int 2],.tup [.int 17,.int 1]]
theorem xF(hv:v < 7):∃ s w:Nat,CX[v]?=some (.tup [.int s,.int w])∧s < 128∧w < 3∧(s.testBit 3 || s.testBit 4)=decide (w≠0)∧decide (Builtin.bitAnd (s:Int) 1 > (0:Int))=s.testBit 0:=by
 rcases (by omega:v=0∨v=1∨v=2∨v=3∨v=4∨v=5∨v=6) with rfl|rfl|rfl|rfl|rfl|rfl|rfl
 ·exact ⟨0,0,rfl,by decide +kernel⟩
 ·exact ⟨0,0,rfl,by decide +kernel⟩
 ·exact ⟨1,0,rfl,by decide +kernel⟩
 ·exact ⟨2,0,rfl,by decide +kernel⟩
 ·exact ⟨8,1,rfl,by decide +kernel⟩
 ·exact ⟨8,2,rfl,by decide +kernel⟩
 ·exact ⟨17,1,rfl,by decide +kernel⟩
noncomputable abbrev K5:XS:=(sq (ay (xt (ac .Lt (xf 1019 [(xv 0),(ki 5)]) (ki 3))) (sq (ae 4 (xi (xk (.tup [(.int 1),(.int 64),(.int 3),(.int 4),(.int 128),(.int 33),(.int 12),(.int 256)])) (xf 1019 [(xv 0),(ki 8)]))) (sq (iL [5,6] (xi (am [(am [(ki 0),(ki 0)]),(am [(ki 0),(ki 0)]),(am [(ki 1),(ki 0)]),(am [(ki 2),(ki 0)]),(am [(ki 8),(ki 1)]),(am [(ki 8),(ki 2)]),(am [(xb .Add (ki 16) (ki 1)),(ki 1)])]) (xf 1019 [(xv 0),(ki 7)]))) (sq (bB (am [(xv 4),(ac .Gt (xb .BitAnd (xv 5) (ki 1)) (ki 0)),(xv 6)]) (xv 1) (xv 3)) (sq (bB (xv 5) (xv 2) (xv 3)) aa)))) aa) aa)
theorem o9{m0:L}(z:Dz h dA nA a)(ha:a < 9000)(hj:j < 3)(e1:(h:List MO)[p1]?=some (.dct (dM ks g)))(e2:(h:List MO)[p2]?=some (.dct (dM ks' g')))(ne:p1≠p2)(n1:p1≠0)(n2:p2≠0)(l1:(h0:List MO).length≤p1)(l2:(h0:List MO).length≤p2)(fr:Fz dA h0 h)(md:Md f ks g)(fg:Fg f ks' g')(m00:m0 0=some (.ref dA))(m1:m0 1=some (.ref p1))(m2:m0 2=some (.ref p2))(m3:m0 3=none)(m4:m0 4=none)(m5:m0 5=none)(m6:m0 6=none)(q:Le m0 l)
  (Q:∀ h' a' f ks g ks' g' l',K5 (ab P (n+1)) (upd l 3 (.str (nm j))) h=some (.next,l',h')→a'≤a+3→Dz h' dA nA a'→Fz dA h0 h'→(h':List MO)[p1]?=some (.dct (dM ks g))→(h':List MO)[p2]?=some (.dct (dM ks' g'))→Md f ks g→Fg f ks' g'→Le m0 l'→G):G:=by
 have q3:Le m0 (upd l 3 (.str (nm j))):=q.upd m3
 refine z.take (P:=P) (n:=n) (m:=5) (by omega) (by decide) fun hA v1 b1 t1 zA fA=>?_
 have tst:=eK (az (w_ q3 m00) (k_ (d:=.int 5)) t1) (k_ (d:=.int 3))
 cases hv:decide ((v1:Int) < 3) with
 | false=>
  rw [hv] at tst
  exact Q hA (a+1) f ks g ks' g' _ (bI tst rfl rfl) (by omega) zA (fr.trans fA) (fA.2 _ _ (z.dct e1).1 e1) (fA.2 _ _ (z.dct e2).1 e2) md fg q3
 | true=>
  rw [hv] at tst
  refine zA.take (P:=P) (n:=n) (m:=8) (by omega) (by decide) fun hB v2 b2 t2 zB fB=>zB.take (P:=P) (n:=n) (m:=7) (by omega) (by decide) fun hC v3 b3 t3 zC fC=>?_
  obtain ⟨S,sS,kS⟩:=qS b2
  obtain ⟨s,w,k7,s128,w3,sw,s0⟩:=xF b3
  have f1:=fA.trans (fB.trans fC)
  have e1:=f1.2 _ _ (z.dct e1).1 e1
  have e2:=f1.2 _ _ (z.dct e2).1 e2
  have j4:j < 4:=Nat.lt_succ_of_lt hj
  have q4:=q3.upd (i:=4) (z:=.int S) m4
  have q6:=(q4.upd (i:=5) (z:=.int s) m5).upd (i:=6) (z:=.int w) m6
  have gt:ac .Gt (xb .BitAnd (xv 5) (ki 1)) (ki 0) (ab P (n+1)) (upd (upd (upd (upd l 3 (.str (nm j))) 4 (.int S)) 5 (.int s)) 6 (.int w)) hC=some (.bool (s.testBit 0),hC):=aF (ar (v_ rfl) k_ rfl) k_ (congrArg some s0)
  have s1:=jR (k:=j) (v:=lV ⟨S,s.testBit 0,w⟩) n1 e1 j4 (uC md.lt) md.nd
  have e2':=aY (o':=.dct (dM (ins ks j) (lq g j (lV ⟨S,s.testBit 0,w⟩)))) e2 ne.symm
  have s2:=jR (k:=j) (v:=.int s) n2 e2' j4 (uC fg.lt) fg.nd
  have nA:=zC.dct e1
  have nB:=zC.dct e2
  exact Q _ (a+1+1+1) _ _ _ _ _ _ (j2 tst rfl (bg (aA (ar k_ (az (w_ q3 m00) (k_ (d:=.int 8)) t2) (aP kS))) (bg (nK (ar (show (am [(am [(ki 0),(ki 0)]),(am [(ki 0),(ki 0)]),(am [(ki 1),(ki 0)]),(am [(ki 2),(ki 0)]),(am [(ki 8),(ki 1)]),(am [(ki 8),(ki 2)]),(am [(xb .Add (ki 16) (ki 1)),(ki 1)])]) (ab P (n+1)) (upd (upd l 3 (.str (nm j))) 4 (.int S)) hB=some (.tup CX,hB) from rfl) (az (w_ q4 m00) (k_ (d:=.int 7)) t3) (aP k7)) rfl) (bg (eW (bZ (dW (v_ rfl) gt (v_ rfl)) rfl) (w_ q6 m1) (v_ rfl) s1) (bg (eW (v_ rfl) (w_ q6 m2) (v_ rfl) s2) rfl)))) rfl)
   (Nat.le_refl _) ((zC.set nA.1 nA.2).set nB.1 nB.2) (((fr.trans f1).set (.inl l1)).set (.inl l2)) (aY (co e1) ne) (co e2') (md.ins hj rfl) (fg.ins hj ⟨⟨sS,w3⟩,s,rfl,s128,rfl,sw⟩) q6
end
section
variable {l:L}{x:X}{a:Nat}{f:Nat→Option Mb}{ks:List Nat}{z:MO}{G:Prop}{cs:List D}
noncomputable abbrev K4:XS:=(sq (ay (xt (ac .Eq (xf 1019 [(xv 0),(ki 3)]) (ki 2))) (sq (bB (xi (xk (.tup [(.int 1),(.int 64),(.int 3),(.int 4),(.int 128),(.int 33),(.int 12),(.int 256)])) (xf 1019 [(xv 0),(ki 8)])) (xv 7) (xv 8)) aa) aa) aa)
theorem uG{m0:L}(z:Dz h dA nA a)(ha:a < 9000)(e:(h:List MO)[p]?=some (.lst cs))(hn:p≠0∧p≠dA∧p≠nA)(le:(h0:List MO).length≤p)(fr:Fz dA h0 h)(hj:cs[j]?=some (.int (-1)))(m00:m0 0=some (.ref dA))(m7:m0 7=some (.ref p))(m8:m0 8=none)(q:Le m0 l)
  (Q:∀ h' a' u l',K4 (ab P (n+1)) (upd l 8 (.int j)) h=some (.next,l',h')→a'≤a+2→Dz h' dA nA a'→Fz dA h0 h'→Mv h h'→(h':List MO)[p]?=some (.lst (cs.set j (cM u)))→(∀ S,u=some S→bY S)→Le m0 l'→G):G:=by
 have q8:Le m0 (upd l 8 (.int j)):=q.upd m8
 refine z.take (P:=P) (n:=n) (m:=3) (by omega) (by decide) fun hA v1 b1 t1 zA fA=>?_
 have tst:=av (aF (c:=ab P (n+1)) (o:=.Eq) (az (w_ q8 m00) (k_ (d:=.int 3)) t1) (k_ (d:=.int 2)) gX)
 cases hv:((v1:Int)==2) with
 | false=>
  rw [hv] at tst
  refine Q hA (a+1) none _ (bI tst rfl rfl) (by omega) zA (fr.trans fA) (z.mv fA) ((fA.2 _ _ hn.2.1 e).trans (congrArg (fun z=>some (MO.lst z)) ?_)) (fun S e=>nomatch e) q8
  obtain ⟨h1,h2⟩:=cv hj
  exact (List.set_getElem_self h1).symm.trans (by rw [h2];rfl)
 | true=>
  rw [hv] at tst
  refine zA.take (P:=P) (n:=n) (m:=8) (by omega) (by decide) fun hB v2 b2 t2 zB fB=>?_
  obtain ⟨S,sS,kS⟩:=qS b2
  have f1:=fA.trans fB
  have e1:=f1.2 _ _ hn.2.1 e
  have si:setItem (.ref p) (.int j) (.int S) hB=some (hB.set p (.lst (cs.set j (.int S)))):=by
   refine (if_neg fun e=>hn.1 (eq_of_beq e)).trans ?_
   rw [e1]
   show (if (0:Int)≤j then (tP (j:Int) cs.length).map fun k=>hB.set p (.lst (cs.set k (.int S))) else none)=_
   rw [if_pos (Int.natCast_nonneg j),Am (cv hj).1];rfl
  exact Q _ (a+1+1) (some S) _ (j2 tst rfl (bg (eW (ar k_ (az (w_ q8 m00) (k_ (d:=.int 8)) t2) (aP kS)) (w_ q8 m7) (v_ rfl) si) rfl) rfl) (by omega) (zB.set hn.2.1 hn.2.2) ((fr.trans f1).set (.inl le)) (fun m' E' e' uu=>aY (f1.2 _ _ (z.dct e').1 e') fun w=>by cases (w▸e').symm.trans e) (co e1) (fun S' e=>by cases e;exact sS) q8
noncomputable abbrev Jk(p p':Nat)(u v:Option Nat):List (D×D):=[(.str (q "members"),.ref p),(.str (q "flags"),.ref p'),(.str (q "texts"),cM u),(.str (q "digits"),cM v),(.str (q "parts"),.tup [])]
theorem Dz.object(z:Dz h dA nA a)(ha:a < 7900)(hp:(h:List MO).length≠0)(Q:∀ h' r a' o,ab P (n+2) 1047 [.ref dA] h=some (.ref r,h')→a'≤a+20→Dz h' dA nA a'→Fz dA h h'→rM h' r o→G):G:=by
 have ln:(h++[.dct []]:List MO).length=(h:List MO).length+1:=by rw [List.length_append];rfl
 have e1:(h++[.dct []]++[.dct []]:List MO)[(h:List MO).length]?=some (.dct (dM [] fun uu=>.none)):=au ak
 have e2:(h++[.dct []]++[.dct []]:List MO)[(h++[.dct []]:List MO).length]?=some (.dct (dM [] fun uu=>.none)):=ak
 have n12:(h:List MO).length≠(h++[.dct []]:List MO).length:=by omega
 have no:∀ {k:Nat},k∈[]↔((none:Option Mb).isSome=true):=⟨fun q=>(nomatch q),fun q=>(nomatch q)⟩
 refine o9 (P:=P) (n:=n) (j:=0) (h0:=h) (l:=upd (upd (fun j=>[D.ref dA][j]?) 1 (.ref (h:List MO).length)) 2 (.ref (h++[.dct []]:List MO).length)) (m0:=upd (upd (fun j=>[D.ref dA][j]?) 1 (.ref (h:List MO).length)) 2 (.ref (h++[.dct []]:List MO).length)) (f:=fun uu=>none) (z.app.app) (by omega) (by decide) e1 e2 n12 hp (by omega) (Nat.le_refl _) (by omega) (Fz.app.trans .app) ⟨.nil,fun uu=>no,fun uu uu1 e=>(nomatch e)⟩ ⟨.nil,fun uu=>no,fun uu uu1 e=>(nomatch e)⟩ rfl rfl rfl rfl rfl rfl rfl .refl fun hA a1 f1 ks1 g1 ks1' g1' l1 c1 b1 z1 r1 e1 e2 md fg q1=>?_
 refine o9 (P:=P) (n:=n) (j:=1) (h0:=h) z1 (by omega) (by decide) e1 e2 n12 hp (by omega) (Nat.le_refl _) (by omega) r1 md fg rfl rfl rfl rfl rfl rfl rfl q1 fun hB a2 f2 ks2 g2 ks2' g2' l2 c2 b2 z2 r2 e1 e2 md fg q2=>?_
 refine o9 (P:=P) (n:=n) (j:=2) (h0:=h) z2 (by omega) (by decide) e1 e2 n12 hp (by omega) (Nat.le_refl _) (by omega) r2 md fg rfl rfl rfl rfl rfl rfl rfl q2 fun hC a3 f3 ks3 g3 ks3' g3' l3 c3 b3 z3 r3 e1 e2 md fg q3=>?_
 have lt:=z3.lt
 have h3:=r3.1
 have q7:=Le.set q3 (i:=7) (z:=.ref (hC:List MO).length)
 refine uG (P:=P) (n:=n) (j:=0) (h0:=h) (p:=(hC:List MO).length) (z3.app (os:=[.lst [.int (-1),.int (-1)]])) (by omega) ak ⟨by omega,by omega,by omega⟩ h3 (r3.trans .app) rfl rfl rfl rfl q7 fun hD a4 u l4 c4 b4 z4 r4 v4 e4 su q4=>?_
 refine uG (P:=P) (n:=n) (j:=1) (h0:=h) z4 (by omega) e4 ⟨by omega,by omega,by omega⟩ h3 r4 rfl rfl rfl rfl q4 fun hE a5 v l5 c5 b5 z5 r5 v5 e5 sv q5=>?_
 have mv:Mv hC (hE++[.dct (Jk (h:List MO).length (h++[.dct []]:List MO).length u v)]:List MO):=(Mv.app.trans v4).trans (v5.trans .app)
 refine Q _ _ a5 ⟨f3,u,v⟩ (ah (IF P) rfl (ax (x:=ae 1 cu) (aA rfl) (ax (x:=ae 2 cu) (aA rfl) (ax (aO (ds:=[.str (q "p"),.str (q "q"),.str (q "0")]) rfl rfl (f0 rfl) (aC an c1 (aC an c2 (aC an c3 (aR an))))) (ax (x:=ae 7 (br [(bW (ki 1)),(bW (ki 1))])) (aA rfl) (ax (aO (kQ k_ (bP (n:=2) (by decide))) bU (by decide) (aC (bD (n:=2)) c4 (aC (bD (n:=2)) c5 (aR (bD (n:=2)))))) (aj (bZ (bV k_ (bV (v_ (q5 1 _ rfl)) (bV k_ (bV (v_ (q5 2 _ rfl)) (bV k_ (bV (ar (v_ (q5 7 _ rfl)) k_ (aX (t:=0) e5 rfl)) (bV k_ (dW (ar (v_ (q5 7 _ rfl)) k_ (aX (t:=1) e5 rfl)) k_ rfl)))))))) rfl))))))))
  (by omega) z5.app (r5.trans .app) ⟨⟨⟨fun k m e=>?_,su,sv⟩,_,_,ak,rfl,⟨_,_,mv _ _ e1 (jB _ _),md⟩,rfl,rfl,rfl,rfl⟩,_,_,_,_,ak,rfl,mv _ _ e2 (jB _ _),rfl,fg⟩
 obtain ⟨k3,w,_⟩:=fg.pm k m e
 exact ⟨w.1,w.2,k3⟩
end
def Sub(h h':H):Prop:=(h:List MO).length≤(h':List MO).length∧∀ (m:Nat) (o:MO),(h:List MO)[m]?=some o→(h':List MO)[m]?=some o
abbrev OL(h:H)(ns:List Nat)(obs:List Ob):Prop:=F2 (rM h) ns obs
section
variable {l:L}{T:List D}{x:X}{a:Nat}{z:MO}{G:Prop}{f:Str}{e:X}{row:D}
theorem OL.mv(x:OL h ns obs)(v:Mv h hh):OL hh ns obs:=x.imp fun uu uu1 uu2 z=>z.mv v
theorem wH{chk:H→Bool}(hc:∀ hh,chk hh=true)(z:Dz h dA nA a)(ha:a+20 * ds.length < 7900)(hp:(h:List MO).length≠0)(q2:l 2=some (.ref dA))(Q:∀ h' a' ns obs,dw chk 17 none (xf 1047 [(xv 2)]) (ab P (n+2)) ds l h acc=some (acc++ns.map .ref,h')→a'≤a+20 * ds.length→Dz h' dA nA a'→Fz dA h h'→OL h' ns obs→obs.length=ds.length→G):G:=by
 induction ds generalizing a h acc with
 | nil=>exact Q h a [] [] ((gn (hc _)).trans (by rw [List.map_nil,List.append_nil])) (Nat.le_refl _) z .refl trivial rfl
 | cons d ds ih=>
  rw [List.length_cons,Nat.mul_succ] at ha Q
  refine z.object (P:=P) (n:=n) (by omega) hp fun h1 r a1 o e1 b1 z1 f1 r1=>?_
  refine ih (acc:=acc++[.ref r]) z1 (by omega) (f1.pos hp) fun h2 a2 ns obs e2 b2 z2 f2 ol le=>Q h2 a2 (r::ns) (o::obs) (gj (hc _) (dD (v_ q2) e1) (e2.trans (by rw [List.append_assoc];rfl))) (by omega) z2 (f1.trans f2) ⟨r1.mv (z1.mv f2),ol⟩ (congrArg (·+1) le)
theorem Dz.objects(z:Dz h dA nA a)(ha:a < 1000)(hp:(h:List MO).length≠0)(q2:l 2=some (.ref dA))(Q:∀ h' m a' ns obs,aN 17 (x1 (xb .Add (ki 2) (xf 1019 [(xv 2),(ki 2)])) dq) none (xf 1047 [(xv 2)]) (ab P (n+2)) l h=some (.ref m,h')→a'≤a+61→Dz h' dA nA a'→Fz dA h h'→(h':List MO)[m]?=some (.lst (ns.map .ref))→m≠dA→OL h' ns obs→2≤obs.length→obs.length≤3→G):G:=by
 refine z.take (P:=P) (n:=n+1) (m:=2) (by omega) (by decide) fun h1 v b1 t1 z1 f1=>?_
 have it:x1 (xb .Add (ki 2) (xf 1019 [(xv 2),(ki 2)])) dq (ab P (n+2)) l h=some (.rng 0 ((2+v:Nat):Int),h1):=kQ (ar (f:=ft .Add) k_ (az (v_ q2) k_ t1) (by rfl:_=some (D.int ((2+v:Nat):Int),h1))) (bP (by omega))
 have ln:((List.range (2+v)).map fun (k:Nat)=>D.int k).length=2+v:=by rw [List.length_map,List.length_range]
 refine wH (P:=P) (n:=n) (l:=l) (acc:=[]) (ds:=(List.range (2+v)).map fun (k:Nat)=>.int k) (chk:=still (.rng 0 ((2+v:Nat):Int)) ((List.range (2+v)).map fun (k:Nat)=>.int k) (knd (.rng 0 ((2+v:Nat):Int)) h1)) (fun uu=>bD) z1 (by omega) (f1.pos hp) q2 fun h2 a2 ns obs e2 b2 z2 f2 ol le=>?_
 have lt:=z2.lt
 exact Q _ _ a2 ns obs (fF it bU (by omega) e2) (by omega) z2.app (f1.trans (f2.trans .app)) ak (by omega) (ol.mv .app) (by omega) (by omega)
theorem Sub.refl:Sub h h:=⟨Nat.le_refl _,fun uu uu1 e=>e⟩
theorem Sub.trans(x:Sub h h1)(y:Sub h1 h2):Sub h h2:=⟨Nat.le_trans x.1 y.1,fun m o e=>y.2 m o (x.2 m o e)⟩
theorem Sub.app:Sub h (h++os:List MO):=⟨List.length_append▸cg _ _,fun m o e=>au e⟩
theorem Sub.set(x:Sub h h1)(hm:(h:List MO).length≤m):Sub h (h1.set m z):=⟨by rw [List.length_set];exact x.1,fun n o e=>aY (x.2 n o e) (Nat.ne_of_lt (Nat.lt_of_lt_of_le (cJ e) hm))⟩
theorem Sub.keep(x:Sub h h1)(k:dE b h1 h2)(r:(h:List MO).length≤b.r)(i:(h:List MO).length≤b.i):Sub h h2:=
 ⟨Nat.le_trans x.1 k.1,fun m o e=>k.2 _ _ (x.2 m o e) (Nat.ne_of_lt (Nat.lt_of_lt_of_le (cJ e) r)) (Nat.ne_of_lt (Nat.lt_of_lt_of_le (cJ e) i))⟩
theorem Sub.mv(x:Sub h hh):Mv h hh:=fun n E e uu=>x.2 n _ e
theorem Ba{v:D}:(gy f v fs).length≤fs.length+1:=by
 induction fs with
 | nil=>exact Nat.le_refl _
 | cons a r ih=>
  unfold gy
  split
  ·exact Nat.le_succ _
  ·exact Nat.succ_le_succ ih
theorem iM(h0:(h:List MO).length≠0)(q0:l 0=some (.ref (h:List MO).length))(he:e c l (h++.ins C fs::os:List MO)=some (d,(h++.ins C fs::os':List MO)))(hf:gh C f=true)(hl:fs.length≤k)(hk:k < 20)
  (Q:∀ F,F=gy f d fs→F.length≤k+1→(∀ {x:XS} {r:Option (Fl×L×H)},x c l (h++.ins C F::os':List MO)=r→sq (bx e (xv 0) f) x c l (h++.ins C fs::os:List MO)=r)→G):G:=by
 refine Q _ rfl (Nat.le_trans Ba (Nat.succ_le_succ hl)) fun hx=>bg (CY he (v_ q0) ?_) hx
 refine (if_neg fun e=>h0 (eq_of_beq e)).trans ?_
 show onO (h++.ins C fs::os':List MO)[(h:List MO).length]? _=_
 rw [show (h++.ins C fs::os':List MO)[(h:List MO).length]?=some (.ins C fs) from tw (j:=0) rfl]
 exact (if_pos (by rw [hf,decide_eq_true (cn hl hk)];rfl)).trans (congrArg some (FK (j:=0)))
theorem EX{z:MO}:D.ref (h++z::os:List MO).length=.ref ((h:List MO).length+1+os.length):=by rw [List.length_append,List.length_cons];exact congrArg D.ref (by omega)
theorem Fo{z:MO}:(br []) c l (h++z::os:List MO)=some (.ref ((h:List MO).length+1+os.length),(h++z::(os++[.lst []]):List MO)):=EX (z:=z)▸congrArg (fun y=>some (D.ref (h++z::os:List MO).length,y)) (List.append_assoc h (z::os) [.lst []])
theorem Jp{z:MO}:(br [(xk .none)]) c l (h++z::os:List MO)=some (.ref ((h:List MO).length+1+os.length),(h++z::(os++[.lst [.none]]):List MO)):=EX (z:=z)▸congrArg (fun y=>some (D.ref (h++z::os:List MO).length,y)) (List.append_assoc h (z::os) [.lst [.none]])
theorem I4{z:MO}:cu c l (h++z::os:List MO)=some (.ref ((h:List MO).length+1+os.length),(h++z::(os++[.dct []]):List MO)):=EX (z:=z)▸congrArg (fun y=>some (D.ref (h++z::os:List MO).length,y)) (List.append_assoc h (z::os) [.dct []])
theorem yF{adr:Nat}{as:List X}{dsv:List D}(ha:xs as c l h=some (dsv,h1))(hm:Gb C "__init__"=some adr)(hc:c adr (.ref (h1:List MO).length::dsv) (h1++[.ins C []]:List MO)=some (.none,h2)):xc C as c l h=some (.ref (h1:List MO).length,h2):=by
 refine bZ ha ?_
 unfold wf
 rw [hm]
 exact dy hc rfl
theorem A9{t:Nat}(p:T <+: T')(l1:T'.length≤T.length+1)(e:T'[t]?=some row)(n:row∉T):T'=T++[row]:=by
 obtain ⟨s,rfl⟩:=p
 match s,l1,e with
 | [],_,e=>exact absurd (List.mem_of_getElem? (by rwa [List.append_nil] at e)) n
 | [z],_,e=>
  have:row∈T++[z]:=List.mem_of_getElem? e
  rw [List.mem_append,List.mem_singleton] at this
  rw [this.resolve_left n]
 | _::_::_,l1,_=>rw [List.length_append] at l1;exact absurd l1 (by simp)
end
noncomputable def Ev:List D→Bool
 | []=>true
 | a::r=>!ec a r && Ev r
theorem BA{a:D}{r:List D}(h:ec a r=false):a∉r:=by
 induction r with
 | nil=>exact fun q=>nomatch q
 | cons y r ih=>
  obtain ⟨e1,e2⟩:=(Bool.or_eq_false_iff (x:=D.eqb y a) (y:=ec a r)).mp h
  exact fun q=>(bo q).elim (fun e=>nomatch (e▸e1).symm.trans (D.eqb_refl _)) (ih e2)
theorem Bq{L:List D}(h:Ev L=true):L.Nodup:=by
 induction L with
 | nil=>exact .nil
 | cons a r ih=>
  obtain ⟨h1,h2⟩:=aG h
  exact List.nodup_cons.mpr ⟨BA (Bool.not_eq_true' _ |>.mp h1),ih h2⟩
theorem og:Ev bJ=true∧(bJ.all fun r=>r.hk && r.kd==3)=true:=by decide +kernel
theorem CU:Tok bJ:=⟨aJ _,Bq og.1⟩
section
variable {l:L}{T rows:List D}{did kd:D}{x:X}{a:Nat}{z:MO}{G:Prop}{f:Str}{e:X}{row:D}
theorem xC{chk:H→Bool}(hc:∀ hh,chk hh=true)(ht:HT b h T)(nd:(T++rows).Nodup)(hk:∀ r∈rows,r.hk=true∧r.kd=3)(hl:T.length+rows.length < 90)(q0:l 0=some (.ref b.tab)):
  ∃ l' h',bC chk 1 (sq (bn (dT "put" (xv 0) [(xv 1)])) aa) (ab P (n+1)) rows l h=some (.next,l',h')∧HT b h' (T++rows)∧dE b h h':=by
 induction rows generalizing T l h with
 | nil=>exact ⟨l,h,aR (hc _),by rw [List.append_nil];exact ht,dE.refl⟩
 | cons r rows ih=>
  obtain ⟨a1,a2⟩:=hk r aw
  rw [List.length_cons] at hl
  refine yf (P:=P) (n:=n) ht a1 a2 (by omega) fun h1 T1 t e y p le k g=>?_
  cases A9 p le g fun q=>(List.nodup_append.mp nd).2.2 r q r aw rfl
  obtain ⟨l',h',e',y',k'⟩:=ih (l:=upd l 1 r) y (by rw [List.append_assoc];exact nd) (fun r hr=>hk r (aE _ hr)) (by rw [List.length_append];exact cn (Nat.le_of_eq (by rw [List.length_singleton];omega)) hl) q0
  exact ⟨l',h',aC (hc _) (bg (dS (sE ht (v_ q0) (v_ rfl) e)) rfl) e',by rw [List.append_assoc] at y';exact y',k.trans k'⟩
theorem xB(h0:(h:List MO).length≠0)(Q:∀ h' fs,xc 140 [] (ab P (n+2)) l h=some (.ref (h:List MO).length,h')→HT ⟨(h:List MO).length,(h:List MO).length+1,(h:List MO).length+2⟩ h' bJ→Sub h h'→(h':List MO)[(h:List MO).length]?=some (.ins 140 fs)→bp (q "decls") fs=some (.ref ((h:List MO).length+3))→(h':List MO)[(h:List MO).length+3]?=some (.lst [.none])→G):G:=by
 refine iM (c:=ab P (n+1)) (l:=fun j=>[D.ref (h:List MO).length][j]?) (h:=h) (C:=140) (fs:=[]) (os:=[]) (f:=q "rows") (k:=0) h0 rfl Fo (by decide +kernel) (Nat.le_refl 0) (by decide) fun F1 e1 L1 s1=>?_
 refine iM (c:=ab P (n+1)) (l:=fun j=>[D.ref (h:List MO).length][j]?) (h:=h) (C:=140) (os:=[.lst []]) (f:=q "index") h0 rfl I4 (by decide +kernel) L1 (by decide) fun F2 e2 L2 s2=>?_
 refine iM (c:=ab P (n+1)) (l:=fun j=>[D.ref (h:List MO).length][j]?) (h:=h) (C:=140) (os:=[.lst [],.dct []]) (f:=q "decls") h0 rfl Jp (by decide +kernel) L2 (by decide) fun F3 e3 L3 s3=>?_
 refine iM (c:=ab P (n+1)) (l:=fun j=>[D.ref (h:List MO).length][j]?) (h:=h) (C:=140) (os:=[.lst [],.dct [],.lst [.none]]) (f:=q "bounds") h0 rfl Fo (by decide +kernel) L3 (by decide) fun F4 e4 L4 s4=>?_
 refine iM (c:=ab P (n+1)) (l:=fun j=>[D.ref (h:List MO).length][j]?) (h:=h) (C:=140) (os:=[.lst [],.dct [],.lst [.none],.lst []]) (f:=q "defaults") h0 rfl Fo (by decide +kernel) L4 (by decide) fun F5 e5 L5 s5=>?_
 refine iM (c:=ab P (n+1)) (l:=fun j=>[D.ref (h:List MO).length][j]?) (h:=h) (C:=140) (os:=[.lst [],.dct [],.lst [.none],.lst [],.lst []]) (f:=q "names") h0 rfl Fo (by decide +kernel) L5 (by decide) fun F6 e6 L6 s6=>?_
 refine iM (c:=ab P (n+1)) (l:=fun j=>[D.ref (h:List MO).length][j]?) (h:=h) (C:=140) (os:=[.lst [],.dct [],.lst [.none],.lst [],.lst [],.lst []]) (f:=q "origins") h0 rfl I4 (by decide +kernel) L6 (by decide) fun F7 e7 L7 s7=>?_
 refine iM (c:=ab P (n+1)) (l:=fun j=>[D.ref (h:List MO).length][j]?) (h:=h) (C:=140) (os:=[.lst [],.dct [],.lst [.none],.lst [],.lst [],.lst [],.dct []]) (f:=q "renamed") h0 rfl I4 (by decide +kernel) L7 (by decide) fun F8 e8 L8 s8=>?_
 refine iM (c:=ab P (n+1)) (l:=fun j=>[D.ref (h:List MO).length][j]?) (h:=h) (C:=140) (os:=[.lst [],.dct [],.lst [.none],.lst [],.lst [],.lst [],.dct [],.dct []]) (f:=q "shaping") (e:=ki 0) h0 rfl k_ (by decide +kernel) L8 (by decide) fun F9 e9 L9 s9=>?_
 refine iM (c:=ab P (n+1)) (l:=fun j=>[D.ref (h:List MO).length][j]?) (h:=h) (C:=140) (os:=[.lst [],.dct [],.lst [.none],.lst [],.lst [],.lst [],.dct [],.dct []]) (f:=q "putting") (e:=ki 0) h0 rfl k_ (by decide +kernel) L9 (by decide) fun F10 e10 uu s10=>?_
 have g0:(h++.ins 140 F10::[.lst [],.dct [],.lst [.none],.lst [],.lst [],.lst [],.dct [],.dct []]:List MO)[(h:List MO).length]?=some (.ins 140 F10):=tw (j:=0) rfl
 have t0:HT ⟨(h:List MO).length,(h:List MO).length+1,(h:List MO).length+2⟩ (h++.ins 140 F10::[.lst [],.dct [],.lst [.none],.lst [],.lst [],.lst [],.dct [],.dct []]:List MO) []:=
  ⟨⟨F10,g0,by rw [e10,e9,e8,e7,e6,e5,e4,e3,e2,e1];rfl,by rw [e10,e9,e8,e7,e6,e5,e4,e3,e2,e1];rfl,by rw [e10,e9,e8,e7,e6,e5,e4,e3,e2,e1];rfl⟩,tw (j:=1) rfl,⟨[],tw (j:=2) rfl,rfl,Nat.le_refl _,fun x=>rfl⟩,⟨by simp,by simp,by simp,by simp,by simp⟩,.nil⟩
 obtain ⟨l',h',lp,ht,kp⟩:=xC (P:=P) (n:=n) (l:=fun j=>[D.ref (h:List MO).length][j]?) (chk:=still (.tup bJ) bJ 0) (fun uu=>an) t0 (rows:=bJ) CU.nd (fun r hr=>by
  obtain ⟨a,c⟩:=aG (db og.2 r hr)
  exact ⟨a,beq_iff_eq.mp c⟩) (by decide) rfl
 exact Q h' F10 (yF (adr:=123) rfl (by decide +kernel) (pI (Kb P) rfl (s1 (s2 (s3 (s4 (s5 (s6 (s7 (s8 (s9 (s10 (bg (aO k_ rfl (by decide) lp) rfl))))))))))))) ht (Sub.app.keep kp (Nat.le_succ _) (cg _ 2)) (kp.2 _ _ g0 (by simp) (by simp)) (by rw [e10,e9,e8,e7,e6,e5,e4,e3,e2,e1];rfl) (kp.2 _ _ (tw (j:=3) rfl) (by simp) (by simp))
end
section
variable {l:L}{T rows:List D}{did kd:D}{x:X}{a:Nat}{z:MO}{G:Prop}{f:Str}{e:X}{row:D}{is:List Nat}
theorem wL(h0:(h:List MO).length≠0)(Q:∀ F,ab P (n+1) 158 [.ref (h:List MO).length,did,kd,nme] (h++[.ins 161 []]:List MO)=some (.none,(h++.ins 161 F::[.lst [],.lst []]:List MO))→bp (q "did") F=some did→bp (q "body") F=some (.int (-1))→bp (q "bases") F=some (.tup [])→F.length≤15→G):G:=by
 refine iM (c:=ab P n) (l:=fun j=>[D.ref (h:List MO).length,did,kd,nme][j]?) (h:=h) (C:=161) (fs:=[]) (os:=[]) (f:=q "did") (e:=xv 1) (k:=0) h0 rfl (v_ rfl) (by decide +kernel) (Nat.le_refl 0) (by decide) fun F1 e1 L1 s1=>?_
 refine iM (c:=ab P n) (l:=fun j=>[D.ref (h:List MO).length,did,kd,nme][j]?) (h:=h) (C:=161) (os:=[]) (f:=q "kind") (e:=xv 2) h0 rfl (v_ rfl) (by decide +kernel) L1 (by decide) fun F2 e2 L2 s2=>?_
 refine iM (c:=ab P n) (l:=fun j=>[D.ref (h:List MO).length,did,kd,nme][j]?) (h:=h) (C:=161) (os:=[]) (f:=q "name") (e:=xv 3) h0 rfl (v_ rfl) (by decide +kernel) L2 (by decide) fun F3 e3 L3 s3=>?_
 refine iM (c:=ab P n) (l:=fun j=>[D.ref (h:List MO).length,did,kd,nme][j]?) (h:=h) (C:=161) (os:=[]) (f:=q "params") (e:=am []) (d:=.tup []) h0 rfl rfl (by decide +kernel) L3 (by decide) fun F4 e4 L4 s4=>?_
 refine iM (c:=ab P n) (l:=fun j=>[D.ref (h:List MO).length,did,kd,nme][j]?) (h:=h) (C:=161) (os:=[]) (f:=q "body") (e:=bW (ki 1)) (d:=.int (-1)) h0 rfl rfl (by decide +kernel) L4 (by decide) fun F5 e5 L5 s5=>?_
 refine iM (c:=ab P n) (l:=fun j=>[D.ref (h:List MO).length,did,kd,nme][j]?) (h:=h) (C:=161) (os:=[]) (f:=q "bases") (e:=am []) (d:=.tup []) h0 rfl rfl (by decide +kernel) L5 (by decide) fun F6 e6 L6 s6=>?_
 refine iM (c:=ab P n) (l:=fun j=>[D.ref (h:List MO).length,did,kd,nme][j]?) (h:=h) (C:=161) (os:=[]) (f:=q "static") (e:=bW (ki 1)) (d:=.int (-1)) h0 rfl rfl (by decide +kernel) L6 (by decide) fun F7 e7 L7 s7=>?_
 refine iM (c:=ab P n) (l:=fun j=>[D.ref (h:List MO).length,did,kd,nme][j]?) (h:=h) (C:=161) (os:=[]) (f:=q "extends_class") (e:=ki 0) h0 rfl k_ (by decide +kernel) L7 (by decide) fun F8 e8 L8 s8=>?_
 refine iM (c:=ab P n) (l:=fun j=>[D.ref (h:List MO).length,did,kd,nme][j]?) (h:=h) (C:=161) (os:=[]) (f:=q "abstract") (e:=xk (.bool false)) h0 rfl k_ (by decide +kernel) L8 (by decide) fun F9 e9 L9 s9=>?_
 refine iM (c:=ab P n) (l:=fun j=>[D.ref (h:List MO).length,did,kd,nme][j]?) (h:=h) (C:=161) (os:=[]) (f:=q "members") (e:=br []) h0 rfl Fo (by decide +kernel) L9 (by decide) fun F10 e10 L10 s10=>?_
 refine iM (c:=ab P n) (l:=fun j=>[D.ref (h:List MO).length,did,kd,nme][j]?) (h:=h) (C:=161) (os:=[.lst []]) (f:=q "variances") (e:=br []) h0 rfl Fo (by decide +kernel) L10 (by decide) fun F11 e11 L11 s11=>?_
 refine iM (c:=ab P n) (l:=fun j=>[D.ref (h:List MO).length,did,kd,nme][j]?) (h:=h) (C:=161) (os:=[.lst [],.lst []]) (f:=q "busy") (e:=ki 0) h0 rfl k_ (by decide +kernel) L11 (by decide) fun F12 e12 L12 s12=>?_
 refine iM (c:=ab P n) (l:=fun j=>[D.ref (h:List MO).length,did,kd,nme][j]?) (h:=h) (C:=161) (os:=[.lst [],.lst []]) (f:=q "at") (e:=ki 0) h0 rfl k_ (by decide +kernel) L12 (by decide) fun F13 e13 L13 s13=>?_
 refine iM (c:=ab P n) (l:=fun j=>[D.ref (h:List MO).length,did,kd,nme][j]?) (h:=h) (C:=161) (os:=[.lst [],.lst []]) (f:=q "file") (e:=xk (.str (q ""))) h0 rfl k_ (by decide +kernel) L13 (by decide) fun F14 e14 L14 s14=>?_
 refine iM (c:=ab P n) (l:=fun j=>[D.ref (h:List MO).length,did,kd,nme][j]?) (h:=h) (C:=161) (os:=[.lst [],.lst []]) (f:=q "nid") (e:=ki 0) h0 rfl k_ (by decide +kernel) L14 (by decide) fun F15 e15 L15 s15=>?_
 exact Q F15 (pI (Ka P) rfl (s1 (s2 (s3 (s4 (s5 (s6 (s7 (s8 (s9 (s10 (s11 (s12 (s13 (s14 (s15 rfl)))))))))))))))) (by rw [e15,e14,e13,e12,e11,e10,e9,e8,e7,e6,e5,e4,e3,e2,e1];rfl) (by rw [e15,e14,e13,e12,e11,e10,e9,e8,e7,e6,e5,e4,e3,e2,e1];rfl) (by rw [e15,e14,e13,e12,e11,e10,e9,e8,e7,e6,e5,e4,e3,e2,e1];rfl) L15
theorem qH(h0:(h:List MO).length≠0)(ht:(h:List MO)[tab]?=some (.ins 140 fs))(hf:bp (q "decls") fs=some (.ref dl))(hl:(h:List MO)[dl]?=some (.lst Ld))(d0:dl≠0)(l9:Ld.length < 90)
  (Q:∀ F,ab P (n+2) 226 [.ref tab,kd,nme] h=some (.ref (h:List MO).length,(h++.ins 161 F::[.lst [],.lst []]:List MO).set dl (.lst (Ld++[.ref (h:List MO).length])))→bp (q "did") F=some (.int Ld.length)→bp (q "body") F=some (.int (-1))→bp (q "bases") F=some (.tup [])→F.length≤15→G):G:=
 wL (P:=P) (n:=n) (did:=.int Ld.length) (kd:=kd) (nme:=nme) h0 fun F c1=>Q F (ah (J5 P) rfl (aH (yF (adr:=158) (h1:=h) (dW (bZ (aQ (j8 (v_ rfl) ht (by decide +kernel) hf)) (dU hl)) (v_ rfl) (v_ rfl)) (by decide +kernel) c1) (ax (dS (dz (m:=dl) (K:=Ld) d0 (j8 (v_ rfl) (au ht) (by decide +kernel) hf) (au hl) (aQ (v_ rfl)) (au hl) (by omega))) (aj (v_ rfl)))))
theorem Cj(h0:(h:List MO).length≠0)(qi:l i=some (.ref b.tab))(y:HT b h T)(dc:∀ did t0,dd=some (did,t0)→Fu b did t0 h)(Q:∀ h',xc 1008 [(xv i)] (ab P (n+1)) l h=some (.ref (h:List MO).length,h')→HT b h' T→Sub h h'→En b (h:List MO).length dd h'→G):G:=by
 refine iM (c:=ab P n) (l:=fun j=>[D.ref (h:List MO).length,.ref b.tab][j]?) (h:=h) (C:=1008) (fs:=[]) (os:=[]) (f:=q "tab") (e:=xv 1) (k:=0) h0 rfl (v_ rfl) (by decide +kernel) (Nat.le_refl 0) (by decide) fun F1 e1 L1 s1=>?_
 refine iM (c:=ab P n) (l:=fun j=>[D.ref (h:List MO).length,.ref b.tab][j]?) (h:=h) (C:=1008) (os:=[]) (f:=q "deep") (e:=ki 0) h0 rfl k_ (by decide +kernel) L1 (by decide) fun F2 e2 L2 s2=>?_
 refine iM (c:=ab P n) (l:=fun j=>[D.ref (h:List MO).length,.ref b.tab][j]?) (h:=h) (C:=1008) (os:=[]) (f:=q "most_rounds") (e:=ki 200) h0 rfl k_ (by decide +kernel) L2 (by decide) fun F3 e3 L3 s3=>?_
 refine iM (c:=ab P n) (l:=fun j=>[D.ref (h:List MO).length,.ref b.tab][j]?) (h:=h) (C:=1008) (os:=[]) (f:=q "most_deep") (e:=ki 40) h0 rfl k_ (by decide +kernel) L3 (by decide) fun F4 e4 L4 s4=>?_
 refine iM (c:=ab P n) (l:=fun j=>[D.ref (h:List MO).length,.ref b.tab][j]?) (h:=h) (C:=1008) (os:=[]) (f:=q "instances") (e:=cu) h0 rfl I4 (by decide +kernel) L4 (by decide) fun F5 e5 L5 s5=>?_
 refine iM (c:=ab P n) (l:=fun j=>[D.ref (h:List MO).length,.ref b.tab][j]?) (h:=h) (C:=1008) (os:=[.dct []]) (f:=q "lib") (e:=xk .none) h0 rfl k_ (by decide +kernel) L5 (by decide) fun F6 e6 L6 s6=>?_
 have lt:=y.lts
 refine Q (h++.ins 1008 F6::[.dct []]:List MO) (yF (adr:=970) (h1:=h) (aQ (v_ qi)) (by decide +kernel) (pI (JD P) rfl (s1 (s2 (s3 (s4 (s5 (s6 rfl)))))))) y.app Sub.app ⟨⟨F6,tw (j:=0) rfl,by rw [e6,e5,e4,e3,e2,e1];rfl,by rw [e6,e5,e4,e3,e2,e1];rfl,by rw [e6,e5,e4,e3,e2,e1];rfl,by rw [e6,e5,e4,e3,e2,e1];rfl⟩,by omega,fun did t0 ed=>?_⟩
 obtain ⟨fs,fe,dl,ee,Ld,a1,a2,a3,a4,a5,a6,a7,r1,r2,r3⟩:=dc did t0 ed
 exact ⟨fs,fe,dl,ee,Ld,au a1,a2,au a3,a4,au a5,a6,a7,r1,r2,r3⟩
theorem dL(h8:key < 8)(x:In b (n+1) h)(Q:∀ h' (i:Nat),ab P (m+3) 1137 [.ref b.tab,.int key] h=some (.int i,h')→In b n h'→Gr b h h'→Ky (b.T h') key i→G):G:=by
 have t4:=eK (c:=ab P (m+2)) (h1:=h) (v_ (l:=fun j=>[D.ref b.tab,.int key][j]?) (i:=1) rfl) (k_ (d:=.int 4))
 by_cases h4:key < 4
 ·rw [decide_eq_true (show (key:Int) < 4 by omega)] at t4
  exact gH (P:=P) (m:=m) (s:=nm key) x fun h' t e x' g' r=>Q h' t (ah (zN P) rfl (aL t4 rfl (az (v_ rfl) (ar k_ (v_ rfl) (iE (M:=fun key=>item (.tup [(.str (q "p")),(.str (q "q")),(.str (q "0")),(.str (q "x"))]) (.int (key:Int)) h=some (.str (nm key),h)) h4 rfl rfl rfl rfl)) e))) x' g' ⟨h8,r.trans (congrArg some (qR h4).symm)⟩
 ·rw [decide_eq_false (show ¬(key:Int) < 4 by omega)] at t4
  by_cases e4:key=4
  ·cases e4
   exact gO (P:=P) (m:=m) (i:=0) x fun h' t e x' g' r=>Q h' t (ah (zN P) rfl (ai t4 rfl (aj (cU ((ao (i:=((4:Nat):Int)) (j:=4) (v_ rfl) k_).trans rfl) (az (v_ rfl) k_ e))))) x' g' ⟨h8,r⟩
  ·have go:∀ {t:Nat},item (.tup [.int 6,.int 7,.int 0]) (.int ((key:Int) - 5)) h=some (.int t,h)→Ky (b.T h) key t→G:=fun {t} it k=>
    Q h t (ah (zN P) rfl (ai t4 rfl (aj (cq (rR (k:=4) e4 (v_ rfl) k_) (ar rfl (ar (v_ rfl) k_ rfl) it))))) (x.le (Nat.le_succ n)) .refl k
   rcases (by omega:key=5∨key=6∨key=7) with rfl|rfl|rfl
   ·exact go (t:=6) rfl (.fix x.tok (by decide) (by decide))
   ·exact go (t:=7) rfl (.fix x.tok (by decide) (by decide))
   ·exact go (t:=0) rfl (.fix x.tok (by decide) (by decide))
noncomputable def eb(i:Nat):Nat:=if i < 4 then i else i+2
theorem uX:∀ M < 64,iz ((((List.range 6).filter fun i=>M.testBit i).map eb).map fun v=>2 ^ v)=ex M∧set6 (set6 M)=set6 M:=by decide +kernel
theorem BZ:∀ i < 6,D.eqb (ny (if i < 4 then i else i+1)) (pJ true (eb i))=true∧eb i < 9:=by decide +kernel
theorem Ag(hS:S < 512)(hj:j < 9)(q1:l i=some (.int (S:Nat)))(q2:l k=some (.int j)):xt (xb .BitAnd (xb .RShift (xv i) (xv k)) (ki 1)) c l h=some (S.testBit j,h):=
 tW (ar (f:=ft .BitAnd) (ar (f:=ft .RShift) (v_ q1) (v_ q2) (FI hS hj)) (k_ (d:=.int 1)) rfl) (congrArg some (Ah S hS j hj))
theorem BW{chk:H→Bool}(hc:∀ hh,chk hh=true)(hM:M < 64)(hi:∀ i∈is,i < 6)(q0:l 0=some (.ref b.tab))(q1:l 1=some (.int M))(x:In b (n+is.length) h)
  (Q:∀ ts h',dw chk 2 (some (xt (xb .BitAnd (xb .RShift (xv 1) (xv 2)) (ki 1)))) (xf 1137 [(xv 0),(bz (xt (ac .Lt (xv 2) (ki 4))) (xv 2) (xb .Add (xv 2) (ki 1)))]) (ab P (m+3)) (iN is) l h acc=some (acc++iN ts,h')→In b n h'→Gr b h h'→BL true (b.T h') ts ((is.filter fun i=>M.testBit i).map eb)→G):G:=by
 induction is generalizing h acc n with
 | nil=>exact Q [] h ((gn (hc _)).trans (by rw [show iN []=[] from rfl,List.append_nil])) x .refl trivial
 | cons i is ih=>
  have i6:=hi i aw
  have tst:nI (some (xt (xb .BitAnd (xb .RShift (xv 1) (xv 2)) (ki 1)))) (ab P (m+3)) (upd l 2 (.int i)) h=some (M.testBit i,h):=Ag (Nat.lt_trans hM (by decide)) (by omega) q1 rfl
  rw [List.length_cons,←Nat.add_assoc,Nat.add_right_comm] at x
  rw [List.filter_cons] at Q
  cases hb:M.testBit i with
  | false=>
   rw [hb] at tst
   rw [hb,if_neg Bool.false_ne_true] at Q
   exact ih (n:=n+1) (fun j hj=>hi j (aE _ hj)) x fun ts h' e x'=>Q ts h' ((if_pos (hc _)).trans (dy tst e)) (x'.le (Nat.le_succ n))
  | true=>
   rw [hb] at tst
   rw [hb,if_pos rfl] at Q
   have arg:bz (xt (ac .Lt (xv 2) (ki 4))) (xv 2) (xb .Add (xv 2) (ki 1)) (ab P (m+3)) (upd l 2 (.int i)) h=some (.int ((if i < 4 then i else i+1:Nat):Int),h):=by
    refine eQ (eK (v_ rfl) k_) ?_
    by_cases z:i < 4
    ·rw [if_pos z,decide_eq_true (show (i:Int) < 4 by omega)];rfl
    ·rw [if_neg z,decide_eq_false (show ¬(i:Int) < 4 by omega)];rfl
   obtain ⟨r1,r2⟩:=BZ i i6
   exact dL (P:=P) (m:=m) (n:=n+is.length) (key:=if i < 4 then i else i+1) (by split<;>omega) (by rw [Nat.add_right_comm];exact x) fun h1 t e1 x1 g1 ky=>ih (acc:=acc++[.int t]) (fun j hj=>hi j (aE _ hj)) x1 fun ts h' e x' g' bl=>Q (t::ts) h' ((if_pos (hc _)).trans (dy tst (dy (az (v_ q0) arg e1) (e.trans (by rw [List.append_assoc];rfl))))) x' (g1.trans g') ⟨Bt.grow g'.p ⟨r2,ky.2.trans (congrArg some ((D.eqb_iff _ _).mp r1))⟩,bl⟩
theorem qX(hM:M < 64)(x:In b (n+8) h)(Q:∀ h' (t:Nat),ab P (m+5) 1142 [.ref b.tab,.int M] h=some (.int t,h')→In b n h'→Gr b h h'→Ty true (b.T h') (ex (set6 M)) t→G):G:=by
 refine BW (P:=P) (m:=m+1) (M:=M) (acc:=[]) (is:=List.range 6) (l:=fun j=>[D.ref b.tab,.int (M:Nat)][j]?) (chk:=still (.rng 0 ((6:Nat):Int)) ((List.range 6).map fun (k:Nat)=>.int k) 0) (n:=n+1) (fun uu=>bD) hM (fun i hi=>List.mem_range.mp hi) rfl rfl (x.le (by rw [List.length_range];omega)) fun ts h2 e2 x2 g2 bl=>?_
 have l6:ts.length≤6:=by
  rw [F2.length bl,List.length_map]
  exact Nat.le_trans (List.length_filter_le _ _) (Nat.le_of_eq List.length_range)
 have TT:b.T (h2++[.lst (iN ts)]:List MO)=b.T h2:=x2.ht.app.eq
 exact eR (P:=P) (m:=m) (n:=n) (w:=true) (d:=.ref (h2:List MO).length) (x2.app (os:=[.lst (iN ts)])) (.inr ⟨_,rfl,ak⟩) (TT.symm▸(bl.mapR (g:=fun v=>2 ^ v) fun uu uu1 bt=>iI bt:F2 (fun t S=>Ty true (b.T h2) S t) ts _)) (by omega) fun h5 r e5 x5 g5 y5=>Q h5 r (ah (IA P) rfl (aj (az (v_ rfl) (fF (kQ k_ (bP (n:=6) (by decide))) bU (by decide) e2) e5))) x5 (g2.trans (x2.gapp.trans g5)) (by rw [(uX M hM).1,jD hM] at y5;exact y5)
end
theorem F2.fn{R:D→Nat→Prop}{zs:List D}{js:List Nat}(nd:js.Nodup)(z:F2 R zs js):∃ g:Nat→D,zs=js.map g∧∀ k∈js,R (g k) k:=by
 induction js generalizing zs with
 | nil=>cases zs with
  | nil=>exact ⟨fun uu=>.none,rfl,fun uu q=>nomatch q⟩
  | cons=>exact z.elim
 | cons j js ih=>cases zs with
  | nil=>exact z.elim
  | cons d zs=>
   obtain ⟨n1,n2⟩:=List.nodup_cons.mp nd
   obtain ⟨g,e,w⟩:=ih n2 z.2
   refine ⟨fun i=>if i=j then d else g i,?_,fun k hk=>?_⟩
   ·rw [List.map_cons,if_pos rfl,e]
    exact congrArg (d::·) (List.map_congr_left fun i hi=>(if_neg fun w:i=j=>n1 (w▸hi)).symm)
   ·show R (if k=j then d else g k) k
    rcases bo hk with rfl|hk
    ·rw [if_pos rfl];exact z.1
    ·rw [if_neg fun w:k=j=>n1 (w▸hk)];exact w k hk
noncomputable def yD(tn:Bool):List Nat:=bif tn then [2,1,0] else [0,1,2]
theorem Ew:∀ tn,(yD tn).length=3∧(yD tn).Nodup∧∀ k,k∈yD tn↔k < 3:=fun tn=>by
 have e:∀ {k:Nat},k < 3↔k=0∨k=1∨k=2:=by omega
 cases tn
 ·exact ⟨rfl,by decide +kernel,fun k=>by rw [e];simp [yD]⟩
 ·exact ⟨rfl,by decide +kernel,fun k=>by rw [e];simp [yD];omega⟩
section
variable {l:L}{T:List D}{a x:X}{n0:Nat}{G:Prop}{mb:Mb}{ks:List Nat}{row:D}{s:Str}
theorem C1{kx:X}{r:Option (D×H)}(y:HT b h T)(ha:a (ab P n) l h=some (.ref b.tab,h))(hk:kx (ab P n) l h=some (row,h2))(hr:ab P n 137 [.ref b.tab,row] h2=r):dT "put" a [kx] (ab P n) l h=r:=y.tab.elim fun fs z=>xm ha z.1 z.2.2.2 (by decide +kernel) (aQ hk) hr
theorem yo:∀ tn,∀ w < 3,(bif tn then ([.int 0,.int 7,.int 4]:List D) else [.int 0,.int 1,.int 2])[w]?=some (.int (oc tn w:Nat)):=fun tn w hw=>by
 rcases (by omega:w=0∨w=1∨w=2) with rfl|rfl|rfl<;>cases tn<;>rfl
noncomputable abbrev Kq:XS:=(sq (ay (xt (ac .In (xv 4) (xi (xv 1) (xk (.str (q "members")))))) (sq (iL [5,6,7] (xi (xi (xv 1) (xk (.str (q "members")))) (xv 4))) (sq (bn (dB .append (xv 3) [(am [(xv 4),(xf 1123 [(xv 0),(xv 5)]),(xi (xi (xv 1) (xk (.str (q "flags")))) (xv 4)),(xi (bz (xt (xv 2)) (am [(ki 0),(ki 7),(ki 4)]) (am [(ki 0),(ki 1),(ki 2)])) (xv 7))])])) aa)) aa) aa)
theorem AJ{m0:L}(r:rM h1 n0 o)(hk:k < 3)(m00:m0 0=some (.ref b.tab))(m1:m0 1=some (.ref n0))(m2:m0 2=some (.bool tn))(m3:m0 3=some (.ref p))(m4:m0 4=none)(m5:m0 5=none)(m6:m0 6=none)(m7:m0 7=none)(q:Le m0 l)(s:mT b h0 p rs (n+10) h1)(hl:rs.length < 99)(em:o.m k=some mb)
  (Q:∀ l' h' z,Kq (ab P (m+5)) (upd l 4 (.str (nm k))) h1=some (.next,l',h')→mT b h0 p (rs++[z]) n h'→b.T h1 <+: b.T h'→Mr tn (b.T h') k mb z→Le m0 l'→G):G:=by
 obtain ⟨r0,E,pf,kf,gf,e1,kd,e2,el,fg⟩:=r
 obtain ⟨pm,mm,acc⟩:=r0.mem_
 obtain ⟨mi,mg⟩:=mm.in_ (k:=k) (by omega)
 rw [em] at mi
 obtain ⟨sm,ow,_⟩:=r0.1.m k mb em
 refine fg.get ((fg.mem k).mpr (em▸rfl)) fun mb' e' uu fl=>?_
 cases em.symm.trans e'
 obtain ⟨_,fl,gk,f1,f2,f3⟩:=fl
 have q4:Le m0 (upd l 4 (.str (nm k))):=q.upd m4
 have q7:Le m0 (upd (upd (upd (upd l 4 (.str (nm k))) 5 (.int mb.ty)) 6 (.bool mb.opt)) 7 (.int mb.own)):=((q4.upd m5).upd m6).upd m7
 refine gV (P:=P) (m:=m) s.x sm.lt fun h2 t e x2 g2 y2=>?_
 rw [sm.id] at y2
 have mv:=Mv.gr s.x g2
 have ow':xi (bz (xt (xv 2)) (am [(ki 0),(ki 7),(ki 4)]) (am [(ki 0),(ki 1),(ki 2)])) (xv 7) (ab P (m+5)) (upd (upd (upd (upd l 4 (.str (nm k))) 5 (.int mb.ty)) 6 (.bool mb.opt)) 7 (.int mb.own)) h2=some (.int (oc tn mb.own:Nat),h2):=by
  refine ar (d1:=.tup (bif tn then ([.int 0,.int 7,.int 4]:List D) else [.int 0,.int 1,.int 2])) (eQ (av (w_ q7 m2)) ?_) (v_ rfl) (aP (yo tn _ ow))
  cases tn<;>rfl
 exact s.push (c:=ab P (m+5)) (a:=xv 3) (z:=kM tn k t fl mb.own) (w_ q7 m3) (bZ (bV (v_ rfl) (dW (az (w_ q7 m00) (v_ rfl) e) (ar (pS (mv _ _ e1 kd) kd (w_ q7 m1) el) (v_ rfl) ((pg (mv _ _ e2 (jB _ _)) (Nat.lt_succ_of_lt hk) (uC fg.lt) ((fg.mem k).mpr (em▸rfl))).trans (congrArg (fun z=>some (z,h2)) gk))) ow')) rfl) (s.call x2 g2) (by omega) fun h3 e3 s3 T3=>
  Q _ h3 _ (j2 (av (aF (v_ rfl) (acc (w_ q4 m1)) mi)) rfl (bg (nK (ar (acc (w_ q4 m1)) (v_ rfl) (mg mb em)) rfl) (bg (dS e3) rfl)) rfl) s3 (T3▸g2.p) ⟨t,fl,rfl,T3▸y2,f1,f2,f3,ow⟩ q7
theorem AK{m0:L}{chk:H→Bool}(hc:∀ hh,chk hh=true)(x0:In b i h0)(r:rM h0 n0 o)(hk:∀ k∈ks,k < 3)(m00:m0 0=some (.ref b.tab))(m1:m0 1=some (.ref n0))(m2:m0 2=some (.bool tn))(m3:m0 3=some (.ref p))(m4:m0 4=none)(m5:m0 5=none)(m6:m0 6=none)(m7:m0 7=none)(q:Le m0 l)(s:mT b h0 p rs (n+10 * ks.length) h1)(hl:rs.length+ks.length < 99)
  (Q:∀ l' h' zs,bC chk 4 Kq (ab P (m+5)) (iS ks) l h1=some (.next,l',h')→mT b h0 p (rs++zs) n h'→b.T h1 <+: b.T h'→F2 (fun z k=>∃ mb,o.m k=some mb∧Mr tn (b.T h') k mb z) zs (ks.filter fun k=>(o.m k).isSome)→Le m0 l'→G):G:=by
 induction ks generalizing rs l h1 with
 | nil=>exact Q l h1 [] (aR (hc _)) (by rw [List.append_nil];exact s) (aJ _) trivial q
 | cons k ks ih=>
  rw [List.length_cons,Nat.mul_succ,←Nat.add_assoc] at s
  rw [List.length_cons] at hl
  rw [List.filter_cons] at Q
  have k3:=hk k aw
  have r1:=r.mv (Mv.gr x0 s.g)
  cases em:o.m k with
  | none=>
   obtain ⟨pm,mm,acc⟩:=r1.1.mem_
   have mi:=(mm.in_ (k:=k) (by omega)).1
   rw [em] at mi
   rw [em,if_neg (fun q=>nomatch q)] at Q
   have q4:Le m0 (upd l 4 (.str (nm k))):=q.upd m4
   exact ih (fun j hj=>hk j (aE _ hj)) q4 ⟨s.x.le (cg _ 10),s.g,s.le,s.ne,s.z,s.e⟩ (by omega) fun l' h' zs e=>Q l' h' zs (aC (hc _) (bI (av (aF (v_ rfl) (acc (w_ q4 m1)) mi)) rfl rfl) e)
  | some mb=>
   rw [em,if_pos (show (some mb).isSome=true from rfl)] at Q
   refine AJ (P:=P) (m:=m) (n:=n+10 * ks.length) r1 k3 m00 m1 m2 m3 m4 m5 m6 m7 q s (by omega) em fun l2 h2 z e2 s2 p2 z2 q2=>?_
   exact ih (fun j hj=>hk j (aE _ hj)) q2 s2 (by rw [List.length_append];exact cn (Nat.le_of_eq (by rw [List.length_singleton];omega)) hl) fun l' h' zs e s' p' z'=>Q l' h' (z::zs) (aC (hc _) e2 e) (by rw [List.append_assoc] at s';exact s') (p2.trans p') ⟨⟨mb,em,z2.grow p'⟩,z'⟩
theorem ub(hu:∀ S,oo=some S→bY S)(x:In b (n+10) h)(q0:l 0=some (.ref b.tab))(g1:xi (xv 1) (xv 9) (ab P (m+5)) (upd l 9 (.str s)) h=some (cM oo,h))(Q:∀ h' d,bz (xt (ac .Lt (xi (xv 1) (xv 9)) (ki 0))) (am []) (am [(xf 1123 [(xv 0),(xi (xv 1) (xv 9))]),(ki 0)]) (ab P (m+5)) (upd l 9 (.str s)) h=some (d,h')→In b n h'→Gr b h h'→Cl (b.T h') oo d→G):G:=by
 have t1:=(eK g1 (k_ (d:=.int 0))).trans (congrArg (fun v=>some (v,h)) qD)
 cases oo with
 | none=>exact Q h _ (cU t1 rfl) (x.le (cg n 10)) .refl rfl
 | some S=>exact gV (P:=P) (m:=m) x (hu S rfl).lt fun h2 t e x2 g2 y2=>Q h2 _ (cq t1 (bZ (dJ (az (v_ q0) g1 e) k_) rfl)) x2 g2 ⟨t,rfl,(hu S rfl).id▸y2⟩
theorem jz(r:rM h n0 o)(x:In b (n+60) h)(Q:∀ h' (s:Nat) (row:D),ab P (m+6) 1147 [.ref b.tab,.ref n0,.bool tn] h=some (.int s,h')→In b n h'→Gr b h h'→(b.T h')[s]?=some row→Rw tn (b.T h') o row→G):G:=by
 obtain ⟨l3,nd3,mem3⟩:=Ew tn
 have itn:(bz (xt (xv 2)) (am [(xk (.str (q "0"))),(xk (.str (q "q"))),(xk (.str (q "p")))]) (am [(xk (.str (q "p"))),(xk (.str (q "q"))),(xk (.str (q "0")))])) (ab P (m+5)) (upd (fun j=>[D.ref b.tab,.ref n0,.bool tn][j]?) 3 (.ref (h:List MO).length)) (h++[.lst []]:List MO)=some (.tup (iS (yD tn)),(h++[.lst []]:List MO)):=by
  refine eQ (av (v_ rfl)) ?_
  cases tn<;>rfl
 refine AK (P:=P) (m:=m) (n:=n+30) (tn:=tn) (o:=o) (n0:=n0) (ks:=yD tn) (rs:=[]) (m0:=upd (fun j=>[D.ref b.tab,.ref n0,.bool tn][j]?) 3 (.ref (h:List MO).length)) (chk:=still (.tup (iS (yD tn))) (iS (yD tn)) 0) (fun uu=>an) x r (fun k hk=>(mem3 k).mp hk) rfl rfl rfl rfl rfl rfl rfl rfl .refl (by rw [l3];exact x.new) (by rw [l3];decide) fun l' h1 zs lp s1 p1 z1 q1=>?_
 have r1:=r.mv (Mv.gr x s1.g)
 refine ub (P:=P) (m:=m) (n:=n+20) (s:=q "texts") r.1.1.tx s1.x (q1 0 _ rfl) (r1.1.tx_ (v_ (q1 1 _ rfl))) fun h2 cs e2 x2 g2 c2=>?_
 refine ub (P:=P) (m:=m) (n:=n+10) (s:=q "digits") r.1.1.dg x2 (q1 0 _ rfl) ((r1.mv (Mv.gr s1.x g2)).1.dg_ (v_ (q1 1 _ rfl))) fun h3 cd e3 x3 g3 c3=>?_
 have s3:=(s1.call x2 g2).call x3 g3
 obtain ⟨g,rfl,zz⟩:=F2.fn (List.Nodup.sublist List.filter_sublist nd3) z1
 have TD:b.T (h3++[.lst [cs,cd]]:List MO)=b.T h3:=x3.ht.app.eq
 have gl:=au (os:=[.lst [cs,cd]]) s3.e
 have jm:∀ k,k∈(yD tn).filter (fun k=>(o.m k).isSome)↔(o.m k).isSome=true:=fun k=>List.mem_filter.trans (and_iff_right_of_imp fun z=>(Option.isSome_iff_exists.mp z).elim fun m e=>(mem3 k).mpr (r.1.1.m k m e).2.2)
 have dd:Dd tn (b.T h3) o.m ((yD tn).filter fun k=>(o.m k).isSome) g:=⟨List.Nodup.sublist List.filter_sublist nd3,jm,fun k mb e=>⟨(r.1.1.m k mb e).2.2,by
  obtain ⟨mb',e',z⟩:=zz k ((jm k).mpr (e▸rfl))
  cases e.symm.trans e'
  exact z.grow (g2.p.trans g3.p)⟩⟩
 refine kL (P:=P) (n:=m+3) (d:=.ref (h:List MO).length) (h:=(h3++[.lst [cs,cd]]:List MO)) (g:=g) (.inr ⟨_,rfl,gl⟩) x3.ht.app.pos dd.lt dd.nd (Dd.row dd) fun os sp=>?_
 rw [dd.ord] at sp
 have rw':Rw tn (b.T h3) o (.tup [.int 8,.tup ((fU o.m).map g),.tup [],.tup [],cs,cd,.int 0]):=⟨g,cs,cd,rfl,dd.ks,c2.grow g3.p,c3⟩
 have TE:b.T (h3++[.lst [cs,cd]]++os:List MO)=b.T h3:=x3.ht.app.app.eq
 refine gN (P:=P) (m:=m+3) (n:=n) ((x3.app (os:=[.lst [cs,cd]])).app (os:=os) |>.le (Nat.add_le_add_left (by decide) n)) (uQ rw').1 (uQ rw').2 fun h5 t e5 x5 g5 r5=>?_
 have gD:(h3++[.lst [cs,cd]]:List MO)[(h3:List MO).length]?=some (.lst [cs,cd]):=ak
 have g0:Gr b h (h3++[.lst [cs,cd]]++os:List MO):=s3.g.trans (x3.gapp.trans (x3.app.gapp))
 refine Q h5 t _ (ah (Iz P) rfl (ax (x:=ae 3 (br [])) (aA rfl) (ax (aO itn rfl (by rw [List.length_map,l3];decide) lp) (aH (fF (ds:=[.str (q "texts"),.str (q "digits")]) rfl rfl (f0 rfl) (gj an e2 (gj an e3 (gn an)))) (aj (rO (bV (v_ (q1 0 _ rfl)) (bV (v_ (q1 3 _ rfl)) (bV (d:=.tup []) rfl (dW (d1:=.tup []) rfl (ar (v_ rfl) k_ (aX (t:=0) gD rfl)) (ar (v_ rfl) k_ (aX (t:=1) gD rfl)))))) (ah (as':=[.ref b.tab,.ref (h:List MO).length,.tup [],.tup [],cs,cd,.int 0]) (Ir P) rfl (aj (C1 x3.ht.app (v_ rfl) (bZ (bV k_ (bV (dD (v_ rfl) sp) (bV (bZ (aQ (v_ rfl)) rfl) (bV (bZ (aQ (v_ rfl)) rfl) (dW (v_ rfl) (v_ rfl) (v_ rfl)))))) rfl) e5))))))))) x5 (g0.trans g5) r5 (rw'.grow (TE▸g5.p))
end
noncomputable def dI(ks:List Nat)(g:Nat→Nat):List (D×D):=ks.map fun (k:Nat)=>(.int k,.int (g k))
noncomputable abbrev xx(g:Nat→Nat)(k v:Nat):Nat→Nat:=fun j=>if j=k then v else g j
section
variable {l:L}{T:List D}{kd:D}{a x:X}{e j4 j7:Nat}{G:Prop}{g:Nat→Nat}{ks:List Nat}{s:Str}{r:List D}{w:Int}
theorem yT:bh (.int k) (dI ks g)=if k∈ks then some (.int (g k)) else none:=by
 induction ks with
 | nil=>rfl
 | cons a r ih=>
  show (if D.eqb (.int (a:Int)) (.int (k:Int))=true then _ else bh (.int k) (dI r g))=_
  rw [ih,D.eqb_dec]
  by_cases e:a=k
  ·rw [e,decide_eq_true rfl,if_pos rfl,if_pos aw]
  ·rw [decide_eq_false fun z=>e (fy z),if_neg Bool.false_ne_true]
   by_cases w:k∈r
   ·rw [if_pos w,if_pos (aE _ w)]
   ·rw [if_neg w,if_neg fun z=>(bo z).elim (fun z=>e z.symm) w]
theorem Fa(nk:k∉ks):dI ks (xx g k v)=dI ks g:=List.map_congr_left fun j hj=>by
 show (D.int j,D.int ((if j=k then v else g j:Nat):Int))=_
 rw [if_neg fun z:j=k=>nk (z▸hj)]
theorem Bc(nd:ks.Nodup):cL (.int k) (.int v) (dI ks g)=dI (ins ks k) (xx g k v):=by
 induction ks with
 | nil=>show [(D.int k,D.int v)]=[(D.int k,D.int ((if k=k then v else g k:Nat):Int))];rw [if_pos rfl]
 | cons a r ih=>
  rw [List.nodup_cons] at nd
  show (if D.eqb (.int (a:Int)) (.int (k:Int))=true then _ else (D.int a,D.int (g a))::cL (.int k) (.int v) (dI r g))=_
  rw [ih nd.2,D.eqb_dec]
  unfold ins
  by_cases e:a=k
  ·subst e
   rw [decide_eq_true rfl,if_pos rfl,if_pos aw]
   show _=(D.int a,D.int ((if a=a then v else g a:Nat):Int))::dI r (xx g a v)
   rw [if_pos rfl,Fa nd.1];rfl
  ·rw [decide_eq_false fun z=>e (fy z),if_neg Bool.false_ne_true]
   have ea:(D.int (a:Int),D.int (g a:Int))=(D.int a,D.int ((if a=k then v else g a:Nat):Int)):=by rw [if_neg e]
   by_cases w:k∈r
   ·rw [if_pos w,if_pos (aE _ w),ea];rfl
   ·rw [if_neg w,if_neg (fun z=>(bo z).elim (fun z=>e z.symm) w),ea];rfl
theorem sI:sJ (.int k) (dI ks g)=true:=(Bool.and_eq_true _ _).mpr ⟨rfl,List.all_eq_true.mpr fun p hp=>by obtain ⟨_,_,rfl⟩:=bR hp;rfl⟩
theorem Ea(hm0:m≠0)(hm:(h:List MO)[m]?=some (.dct (dI ks g)))(nd:ks.Nodup)(l9:ks.length < 90):setItem (.ref m) (.int k) (.int v) h=some (h.set m (.dct (dI (ins ks k) (xx g k v)))):=Bc (v:=v) nd▸gM hm0 hm sI (by unfold dI;rw [List.length_map];omega)
theorem sY(hm:(h:List MO)[m]?=some (.dct (dI ks g)))(hk:k∈ks):item (.ref m) (.int k) h=some (.int (g k),h):=fP hm sI (yT.trans (if_pos hk))
theorem wc(hm:(h:List MO)[m]?=some (.lst [.tup (.str s::r)]))(h0:(h:List MO).length≠0)(Q:∀ os,ab P (n+1) 200 [.ref m] h=some (.tup [.tup (.str s::r)],(h++os:List MO))→G):G:=by
 have g1:(h++[.dct [(.str s,.tup (.str s::r))]]:List MO)[(h:List MO).length]?=some (.dct [(.str s,.tup (.str s::r))]):=ak
 have g2:(h++[.dct [(.str s,.tup (.str s::r))]]++[.lst [.str s]]:List MO)[(h++[.dct [(.str s,.tup (.str s::r))]]:List MO).length]?=some (.lst [.str s]):=ak
 have g3:(h++[.dct [(.str s,.tup (.str s::r))]]++[.lst [.str s]]++[.lst [.tup (.str s::r)]]:List MO)[(h++[.dct [(.str s,.tup (.str s::r))]]++[.lst [.str s]]:List MO).length]?=some (.lst [.tup (.str s::r)]):=ak
 have st:∀ {os:List MO},still (.ref m) [.tup (.str s::r)] (knd (.ref m) (h++[.dct []]:List MO)) (h++os:List MO)=true:=bE (aK (au hm)) ((di (au hm)).trans (di (au hm)).symm)
 have si:=gM (d:=.str s) (d1:=.tup (.str s::r)) h0 (ak (h:=h) (o:=.dct [])) rfl (by decide)
 rw [fX] at si
 have lk:bh (.str s) [(.str s,D.tup (.str s::r))]=some (.tup (.str s::r)):=by unfold bh;rw [if_pos (D.eqb_refl _)]
 have so:bi .sorted [.ref (h:List MO).length] (h++[.dct [(.str s,.tup (.str s::r))]]:List MO)=some (.ref (h++[.dct [(.str s,.tup (.str s::r))]]:List MO).length,(h++[.dct [(.str s,.tup (.str s::r))]]++[.lst [.str s]]:List MO)):=by
  show onD (h++[.dct [(.str s,.tup (.str s::r))]]:List MO)[(h:List MO).length]? (fun l=>if fE l && decide (l.length < 64) then new (.lst (gw (l.map (·.1)))) _ else none)=_
  rw [g1];rfl
 refine Q ([.dct [(.str s,.tup (.str s::r))]]++([.lst [.str s]]++[.lst [.tup (.str s::r)]])) ?_
 rw [←List.append_assoc,←List.append_assoc]
 exact ah (It P) rfl (ax (x:=ae 1 cu) (aA rfl) (ax (aO (ds:=[.tup (.str s::r)]) (v_ rfl) (aK (au hm)) (f0 rfl) (aC st (bg (eW (v_ rfl) (v_ rfl) (ar (v_ rfl) k_ aq) si) rfl) (aR st))) (aj (bZ (aQ (fF (ds:=[.str s]) (bZ (aQ (v_ rfl)) so) (aK g2) (f0 rfl) (gj (bE (aK g2) rfl) (ar (v_ rfl) (v_ rfl) (fP (au g1) rfl lk)) (gn (bE (aK g2) rfl))))) (jM g3)))))
theorem Jb(x:In b (n+2) h)(q4:l j4=some (.ref b.tab))(q7:l j7=some (.int w))(Q:∀ d h',xf 212 [(xv j4),(br [(am [(xk (.str (q "z"))),(xf 188 [(xv j4),(xb .Add (ki 20) (xv j7))]),(ki 0),(ki 0)])])] (ab P (m+3)) l h=some (d,h')→In b n h'→Gr b h h'→G):G:=by
 refine gO (P:=P) (m:=m+1) (n:=n+1) (i:=20+w) x fun h1 t e1 x1 g1 uu=>?_
 refine wc (P:=P) (n:=m+1) (h:=(h1++[.lst [.tup [.str (q "z"),.int t,.int 0,.int 0]]]:List MO)) ak x1.ht.app.pos fun os sp=>?_
 refine gN (P:=P) (m:=m+1) (n:=n) (row:=.tup [.int 8,.tup [.tup [.str (q "z"),.int t,.int 0,.int 0]],.tup [],.tup [],.tup [],.tup [],.int 0]) ((x1.app (os:=[.lst [.tup [.str (q "z"),.int t,.int 0,.int 0]]])).app (os:=os)) rfl rfl fun h5 u e5 x5 g5 uu=>?_
 exact Q _ h5 (az (v_ q4) (bZ (aQ (bZ (bV k_ (dW (az (v_ q4) (ar k_ (v_ q7) rfl) e1) k_ k_)) rfl)) rfl) (ah (as':=[.ref b.tab,.ref (h1:List MO).length,.tup [],.tup [],.tup [],.tup [],.int 0]) (Ir P) rfl (aj (C1 x1.ht.app (v_ rfl) (bZ (bV k_ (bV (dD (v_ rfl) sp) (bV (bZ (aQ (v_ rfl)) rfl) (bV (bZ (aQ (v_ rfl)) rfl) (dW (v_ rfl) (v_ rfl) (v_ rfl)))))) rfl) e5)))) x5 (g1.trans (x1.gapp.trans (x1.app.gapp.trans g5)))
theorem qt(x:In b (n+1) h)(Q:∀ h' (t:Nat),ab P (m+2) 195 [.ref b.tab,.int did,.tup []] h=some (.int t,h')→In b n h'→Gr b h h'→(b.T h')[t]?=some (.tup [.int 9,.int did,.tup []])→G):G:=
 gN (P:=P) (m:=m) (row:=.tup [.int 9,.int did,.tup []]) x rfl rfl fun h' t e=>Q h' t (ah (J6 P) rfl (aj (sE x.ht (v_ rfl) (bZ (dW k_ (v_ rfl) (bZ (aQ (v_ rfl)) rfl)) rfl) e)))
def Df(b:Tb)(base did e:Nat)(h:H):Prop:=(∃ (fs fe:List (Str×D)) (dl:Nat) (Ld:List D),(h:List MO)[b.tab]?=some (.ins 140 fs)∧bp (q "decls") fs=some (.ref dl)∧(h:List MO)[dl]?=some (.lst Ld)∧Ld[did]?=some (.ref e)∧(h:List MO)[e]?=some (.ins 161 fe)∧bp (q "bases") fe=some (.tup [])∧fe.length≤15∧
  dl≠b.r∧dl≠b.i∧e≠dl)∧e≠b.tab∧e≠b.r∧e≠b.i∧base≤e∧e≠0
theorem Df.keep(x:Df b base did e h)(y:HT b h T)(kp:dE b h hh):Df b base did e hh:=by
 obtain ⟨⟨fs,fe,dl,Ld,a1,a2,a3,a4,a5,a6,a7,n2,n3,n4⟩,ne⟩:=x
 obtain ⟨_,_,_,t1,t2⟩:=y.ne
 exact ⟨⟨fs,fe,dl,Ld,kp.2 _ _ a1 t1 t2,a2,kp.2 _ _ a3 n2 n3,a4,kp.2 _ _ a5 ne.2.1 ne.2.2.1,a6,a7,n2,n3,n4⟩,ne⟩
theorem qO{f f':Str}{v:D}{fs:List (Str×D)}:bp f (gy f' v fs)=if (f'==f)=true then some v else bp f fs:=by
 induction fs with
 | nil=>rfl
 | cons p r ih=>
  unfold gy
  by_cases z:(p.1==f')=true
  ·rw [if_pos z]
   have e:p.1=f':=eq_of_beq z
   show (if (p.1==f)=true then some v else bp f r)=(if (f'==f)=true then some v else (if (p.1==f)=true then some p.2 else bp f r))
   rw [e]
   by_cases y:(f'==f)=true
   ·rw [if_pos y,if_pos y]
   ·rw [if_neg y,if_neg y,if_neg y]
  ·rw [if_neg z]
   show (if (p.1==f)=true then some p.2 else bp f (gy f' v r))=(if (f'==f)=true then some v else (if (p.1==f)=true then some p.2 else bp f r))
   rw [ih]
   by_cases y:(p.1==f)=true
   ·rw [if_pos y,if_neg fun w=>z (beq_iff_eq.mpr ((eq_of_beq y).trans (eq_of_beq w).symm)),if_pos y]
   ·rw [if_neg y,if_neg y]
end
section
variable {l:L}{T:List D}{kd q0 q1 q2:D}{a x:X}{e:Nat}{G:Prop}
theorem Df.body(x:Df b base did e h)(y:HT b h T)(Q:∀ h',setAttr (.ref e) (q "body") (.int t0) h=some h'→Fu b did t0 h'→HT b h' T→(∀ {h0:H},Sub h0 h→(h0:List MO).length≤base→Sub h0 h')→(∀ (m:Nat) (o:MO),m≠e→(h:List MO)[m]?=some o→(h':List MO)[m]?=some o)→(∀ {c:CF} {l:L} {i j:Nat},l i=some (.ref b.tab)→l j=some (.int did)→xi (xa (q "decls") (xv i)) (xv j) c l h=some (.ref e,h))→G):G:=by
 obtain ⟨⟨fs,fe,dl,Ld,a1,a2,a3,a4,a5,a6,a7,n2,n3,n4⟩,ne⟩:=x
 obtain ⟨_,_,_,t1,t2⟩:=y.ne
 refine Q (h.set e (.ins 161 (gy (q "body") (.int t0) fe))) ?_ (.mk fs (gy (q "body") (.int t0) fe) dl e Ld (aY a1 ne.1.symm) a2 (aY a3 n4.symm) a4 (co a5) ?_ ?_ ⟨t1,t2⟩ ⟨n2,n3⟩ ⟨ne.2.1,ne.2.2.1⟩) (y.set ⟨ne.1,ne.2.1,ne.2.2.1⟩) (fun s hb=>s.set (Nat.le_trans hb ne.2.2.2.1)) (fun m o hm e=>aY e hm) fun qi qj=>ar (j8 (v_ qi) a1 (by decide +kernel) a2) (v_ qj) (aX a3 a4)
 ·refine (if_neg fun w=>ne.2.2.2.2 (eq_of_beq w)).trans ?_
  show onO (h:List MO)[e]? _=_
  rw [a5]
  exact if_pos (by rw [decide_eq_true (show fe.length < 20 by omega)];decide +kernel)
 ·rw [qO,if_pos (by decide +kernel)]
 ·rw [qO,if_neg (by decide +kernel)];exact a6
theorem uv(y:HT b h T)(ht:(h:List MO)[b.tab]?=some (.ins 140 fs))(hf:bp (q "decls") fs=some (.ref dl))(hl:(h:List MO)[dl]?=some (.lst Ld))(d0:dl≠0∧dl≠b.tab∧dl≠b.r∧dl≠b.i)(l9:Ld.length < 90)
  (Q:∀ h' F,ab P (n+2) 226 [.ref b.tab,kd,nme] h=some (.ref (h:List MO).length,h')→HT b h' T→(h':List MO)[b.tab]?=some (.ins 140 fs)→(h':List MO)[dl]?=some (.lst (Ld++[.ref (h:List MO).length]))→(h':List MO)[(h:List MO).length]?=some (.ins 161 F)→bp (q "did") F=some (.int Ld.length)→bp (q "bases") F=some (.tup [])→F.length≤15→(∀ {h0:H},Sub h0 h→(h0:List MO).length≤dl→Sub h0 h')→G):G:=
 qH (P:=P) (n:=n) (kd:=kd) (nme:=nme) y.pos ht hf hl d0.1 l9 fun F c1 g1 g2 g3 g4=>
  Q _ F c1 (y.app.set ⟨d0.2.1,d0.2.2.1,d0.2.2.2⟩) (aY (au ht) d0.2.1.symm) (co (au hl)) (aY (tw (j:=0) rfl) (Nat.ne_of_gt (cJ hl))) g1 g3 g4 fun s hb=>(s.trans .app).set hb
theorem sT(h0:(h:List MO).length≠0)
  (Q:∀ (h3:H) (b:Tb) (did e:Nat) (h1 h2:H),ae 4 (xc 140 []) (ab P (n+2)) (fun j=>[q0,q1,q2,D.bool tn][j]?) h=some (.next,upd (fun j=>[q0,q1,q2,D.bool tn][j]?) 4 (.ref b.tab),h1)→
   ay (xt (xv 3)) (sq (bn (xf 226 [(xv 4),(ki 2),(xk (.str (q "N")))])) aa) aa (ab P (n+2)) (upd (fun j=>[q0,q1,q2,D.bool tn][j]?) 4 (.ref b.tab)) h1=some (.next,upd (fun j=>[q0,q1,q2,D.bool tn][j]?) 4 (.ref b.tab),h2)→
   ae 5 (xa (q "did") (xf 226 [(xv 4),(ki 2),(xk (.str (q "D")))])) (ab P (n+2)) (upd (fun j=>[q0,q1,q2,D.bool tn][j]?) 4 (.ref b.tab)) h2=some (.next,upd (upd (fun j=>[q0,q1,q2,D.bool tn][j]?) 4 (.ref b.tab)) 5 (.int did),h3)→
   HT b h3 bJ→Sub h h3→Df b (h:List MO).length did e h3→e < (h3:List MO).length→(h:List MO).length≤b.r→(h:List MO).length≤b.i→G):G:=by
 refine xB (P:=P) (n:=n) (l:=fun j=>[q0,q1,q2,D.bool tn][j]?) h0 fun h1 fs t1 y1 s1 a1 a2 a3=>?_
 have dne:(h:List MO).length+3≠0∧(h:List MO).length+3≠(h:List MO).length∧(h:List MO).length+3≠(h:List MO).length+1∧(h:List MO).length+3≠(h:List MO).length+2:=by omega
 have last:∀ {h2:H} {Ld:List D},HT ⟨(h:List MO).length,(h:List MO).length+1,(h:List MO).length+2⟩ h2 bJ→(h2:List MO)[(h:List MO).length]?=some (.ins 140 fs)→(h2:List MO)[(h:List MO).length+3]?=some (.lst Ld)→Ld.length < 90→Sub h h2→
   ay (xt (xv 3)) (sq (bn (xf 226 [(xv 4),(ki 2),(xk (.str (q "N")))])) aa) aa (ab P (n+2)) (upd (fun j=>[q0,q1,q2,D.bool tn][j]?) 4 (.ref (h:List MO).length)) h1=some (.next,upd (fun j=>[q0,q1,q2,D.bool tn][j]?) 4 (.ref (h:List MO).length),h2)→G:=fun {h2 Ld} y2 b1 b3 l9 s2 st=>by
  refine uv (P:=P) (n:=n) (b:=⟨(h:List MO).length,(h:List MO).length+1,(h:List MO).length+2⟩) (kd:=.int 2) (nme:=.str (q "D")) y2 b1 a2 b3 dne l9 fun h3 F c1 y3 c2 c3 g0 g1 g2 g3 c4=>?_
  have lt:=y2.lts
  have ld:=cJ b3
  have l2:=s2.1
  exact Q h3 ⟨(h:List MO).length,(h:List MO).length+1,(h:List MO).length+2⟩ Ld.length (h2:List MO).length h1 h2 (aA t1) st (aA (kQ (ck (v_ rfl) k_ k_ c1) (ox g0 (by decide +kernel) g1))) y3 (c4 s2 (cg _ 3)) ⟨⟨fs,F,_,_,c2,a2,c3,(List.getElem?_append_right (Nat.le_refl _)).trans (by rw [Nat.sub_self];rfl),g0,g2,g3,dne.2.2.1,dne.2.2.2,by omega⟩,by omega,by omega,by omega,l2,by omega⟩ (cJ g0) (Nat.le_succ _) (cg _ 2)
 cases tn with
 | false=>exact last y1 a1 a3 (by decide) s1 (nF (av (v_ rfl)) rfl)
 | true=>exact uv (P:=P) (n:=n) (b:=⟨(h:List MO).length,(h:List MO).length+1,(h:List MO).length+2⟩) (kd:=.int 2) (nme:=.str (q "N")) y1 a1 a2 a3 dne (by decide) fun h2 F e1 y2 e2 e3 uu uu1 uu2 uu3 e4=>last y2 e2 e3 (f0 rfl) (e4 s1 (cg _ 3)) (mq (av (v_ rfl)) (bg (dS (ck (v_ rfl) k_ k_ e1)) rfl))
end
def Mk(tn dc:Bool)(did:Nat)(obs:List Ob)(T:List D)(i v:Nat):Prop:=(dc && decide (i=0))=true∧T[v]?=some (.tup [.int 9,.int did,.tup []])∨(dc && decide (i=0))=false∧∃ o row,obs[i]?=some o∧T[v]?=some row∧Rw tn T o row
section
variable {l:L}{T:List D}{a x:X}{e job:Nat}{G:Prop}{ks:List Nat}{g:Nat→Nat}
theorem Mk.grow(p:T <+: T')(x:Mk tn dc did obs T i v):Mk tn dc did obs T' i v:=x.imp (fun ⟨a,e⟩=>⟨a,aU p e⟩) fun ⟨a,o,row,e1,e2,e3⟩=>⟨a,o,row,e1,aU p e2,e3.grow p⟩
theorem cF.sub{ds:List D}(i:cF d h ds)(s:Sub h hh):cF d hh ds:=i.imp id fun ⟨m,e,g⟩=>⟨m,e,s.2 _ _ g⟩
noncomputable abbrev Jw:XS:=(sq (ay (xt (ac .Lt (xv 7) (ki 4))) (sq (bn (xf 1130 [(xv 4),(xv 7)])) aa) (sq (ay (xt (ac .Lt (xv 7) (ki 9))) (sq (bn (xf 1137 [(xv 4),(xb .Sub (xv 7) (ki 4))])) aa) (sq (ay (xt (ac .Lt (xb .Sub (xv 7) (ki 9)) (dC .len [(xv 0)]))) (sq (bB (bz (bM (xt (xv 1)) (xt (ac .Eq (xv 7) (ki 9)))) (xf 195 [(xv 4),(xv 5),(am [])]) (xf 1147 [(xv 4),(xi (xv 0) (xb .Sub (xv 7) (ki 9))),(xv 3)])) (xv 6) (xb .Sub (xv 7) (ki 9))) aa) (sq (bn (xf 212 [(xv 4),(br [(am [(xk (.str (q "z"))),(xf 188 [(xv 4),(xb .Add (ki 20) (xv 7))]),(ki 0),(ki 0)])])])) aa)) aa)) aa)) aa)
theorem kR{j:Nat}(hj:j≤job)(ha:a c l h=some (.int job,h)):xb .Sub a (ki j) c l h=some (.int ((job - j:Nat):Int),h):=ar ha k_ (congrArg (fun z=>some (D.int z,h)) (Int.ofNat_sub hj).symm)
theorem BN{m0:L}(its:cF d h1 (ns.map .ref))(ol:OL h1 ns obs)(j13:job < 13)(m00:m0 0=some d)(m1:m0 1=some (.bool dc))(m3:m0 3=some (.bool tn))(m4:m0 4=some (.ref b.tab))(m5:m0 5=some (.int did))(m6:m0 6=some (.ref p))(m7:m0 7=none)(q:Le m0 l)(s:Ao b h3 p (.dct (dI ks g)) (n+70) h1)(nd:ks.Nodup)(hks:∀ i∈ks,i < 4∧Mk tn dc did obs (b.T h1) i (g i))(l3:obs.length≤3)
  (Q:∀ l' h' ks' g',Jw (ab P (m+6)) (upd l 7 (.int job)) h1=some (.next,l',h')→Ao b h3 p (.dct (dI ks' g')) n h'→b.T h1 <+: b.T h'→ks'.Nodup→(∀ i∈ks',i < 4∧Mk tn dc did obs (b.T h') i (g' i))→(∀ i,i∈ks'↔i∈ks∨9≤job∧job - 9 < obs.length∧i=job - 9)→Le m0 l'→G):G:=by
 have q7:Le m0 (upd l 7 (.int job)):=q.upd m7
 have other:∀ {h4:H},Jw (ab P (m+6)) (upd l 7 (.int job)) h1=some (.next,upd l 7 (.int job),h4)→In b n h4→Gr b h1 h4→¬(9≤job∧job - 9 < obs.length)→G:=fun {h4} e x4 g4 no=>
  Q _ h4 ks g e (s.call x4 g4) g4.p nd (fun i hi=>⟨(hks i hi).1,(hks i hi).2.grow g4.p⟩) (fun i=>(or_iff_left fun w=>no ⟨w.1,w.2.1⟩).symm) q7
 have t4:=eK (c:=ab P (m+6)) (h1:=h1) (v_ (l:=upd l 7 (.int job)) (i:=7) rfl) (k_ (d:=.int 4))
 have t9:=eK (c:=ab P (m+6)) (h1:=h1) (v_ (l:=upd l 7 (.int job)) (i:=7) rfl) (k_ (d:=.int 9))
 by_cases j4:job < 4
 ·rw [decide_eq_true (show (job:Int) < 4 by omega)] at t4
  exact u4 (P:=P) (m:=m+3) (n:=n+69) (i:=job) (by omega) s.x fun h4 t e x4 g4 uu=>other (bg (mq t4 (bg (dS (az (w_ q7 m4) (v_ rfl) e)) rfl)) rfl) (x4.le (cg n 69)) g4 fun w=>by omega
 ·rw [decide_eq_false (show ¬(job:Int) < 4 by omega)] at t4
  by_cases j9:job < 9
  ·rw [decide_eq_true (show (job:Int) < 9 by omega)] at t9
   exact dL (P:=P) (m:=m+3) (n:=n+69) (key:=job - 4) (by omega) s.x fun h4 t e x4 g4 uu=>other (bg (nF t4 (bg (mq t9 (bg (dS (az (w_ q7 m4) (kR (by omega) (v_ rfl)) e)) rfl)) rfl)) rfl) (x4.le (cg n 69)) g4 fun w=>by omega
  ·rw [decide_eq_false (show ¬(job:Int) < 9 by omega)] at t9
   have sb:∀ {h:H},xb .Sub (xv 7) (ki 9) (ab P (m+6)) (upd l 7 (.int job)) h=some (.int ((job - 9:Nat):Int),h):=kR (by omega) (v_ rfl)
   have el:decide (((job - 9:Nat):Int) < ((ns.map D.ref).length:Nat))=decide (job - 9 < obs.length):=decide_eq_decide.mpr (by rw [List.length_map,F2.length ol];exact Int.ofNat_lt)
   have tl:=(eK (e:=dC .len [(xv 0)]) sb (bZ (aQ (w_ q7 m00)) (kX its))).trans (congrArg (fun v=>some (v,h1)) el)
   by_cases jo:job - 9 < obs.length
   ·rw [decide_eq_true jo] at tl
    have fin:∀ {v:Nat} {h4:H},(bz (bM (xt (xv 1)) (xt (ac .Eq (xv 7) (ki 9)))) (xf 195 [(xv 4),(xv 5),(am [])]) (xf 1147 [(xv 4),(xi (xv 0) (xb .Sub (xv 7) (ki 9))),(xv 3)])) (ab P (m+6)) (upd l 7 (.int job)) h1=some (.int v,h4)→In b n h4→Gr b h1 h4→Mk tn dc did obs (b.T h4) (job - 9) v→G:=fun {v h4} e1 x4 g4 mk=>by
     have lk:=dp nd fun i hi=>(hks i hi).1
     have s4:=s.call x4 g4
     have si:=Ea (k:=job - 9) (v:=v) s.z s4.e nd (by omega)
     obtain ⟨s5,T5⟩:=s4.set (o':=.dct (dI (ins ks (job - 9)) (xx g (job - 9) v)))
     refine Q _ _ _ _ (bg (nF t4 (bg (nF t9 (bg (mq tl (bg (eW e1 (w_ q7 m6) sb si) rfl)) rfl)) rfl)) rfl) s5 (T5▸g4.p) (io nd) (fun i hi=>?_) (fun i=>fw.trans (or_congr_right ⟨fun w=>⟨by omega,jo,w⟩,fun w=>w.2.2⟩)) q7
     rw [T5]
     show i < 4∧Mk tn dc did obs (b.T h4) i (if i=job - 9 then v else g i)
     by_cases zz:i=job - 9
     ·rw [if_pos zz,zz];exact ⟨by omega,mk⟩
     ·rw [if_neg zz]
      have hi':=(fw.mp hi).resolve_right zz
      exact ⟨(hks i hi').1,(hks i hi').2.grow g4.p⟩
    have e9:((job:Int)==9)=decide (job - 9=0):=(cQ (i:=job) (j:=9)).trans (decide_eq_decide.mpr (by omega))
    have tdc:=dF (av (w_ (c:=ab P (m+6)) (h:=h1) q7 m1)) ((ao (v_ (i:=7) rfl) (k_ (d:=.int 9))).trans (congrArg (fun v=>some (v,h1)) e9))
    cases zz:(dc && decide (job - 9=0)) with
    | true=>
     rw [zz] at tdc
     exact qt (P:=P) (m:=m+4) (n:=n+69) (did:=did) s.x fun h4 t e x4 g4 r=>fin (cU tdc (ck (w_ q7 m4) (w_ q7 m5) rfl e)) (x4.le (cg n 69)) g4 (.inl ⟨zz,r⟩)
    | false=>
     rw [zz] at tdc
     have ho:=List.getElem?_eq_getElem jo
     obtain ⟨r0,er,rc⟩:=F2.get ol ho
     exact jz (P:=P) (m:=m) (n:=n+10) (tn:=tn) rc s.x fun h4 t row e x4 g4 g5 r=>fin (cq tdc (ck (w_ q7 m4) (ar (w_ q7 m00) sb (cB its ((List.getElem?_map ..).trans (congrArg _ er)))) (w_ q7 m3) e)) (x4.le (cg n 10)) g4 (.inr ⟨zz,_,row,ho,g5,r⟩)
   ·rw [decide_eq_false jo] at tl
    exact Jb (P:=P) (m:=m+3) (n:=n+68) (j4:=4) (j7:=7) (l:=upd l 7 (.int job)) s.x (q7 4 _ m4) rfl fun d' h4 e x4 g4=>other (bg (nF t4 (bg (nF t9 (bg (nF tl (bg (dS e) rfl)) rfl)) rfl)) rfl) (x4.le (cg n 68)) g4 fun w=>jo w.2
theorem BO{m0:L}{chk:H→Bool}(hc:∀ hh,Gr b h3 hh→chk hh=true)(its:∀ hh,Gr b h3 hh→cF d hh (ns.map .ref))(ol:∀ hh,Gr b h3 hh→OL hh ns obs)(hj:∀ j∈js,j < 13)(m00:m0 0=some d)(m1:m0 1=some (.bool dc))(m3:m0 3=some (.bool tn))(m4:m0 4=some (.ref b.tab))(m5:m0 5=some (.int did))(m6:m0 6=some (.ref p))(m7:m0 7=none)(q:Le m0 l)(s:Ao b h3 p (.dct (dI ks g)) (n+70 * js.length) h1)(nd:ks.Nodup)(hks:∀ i∈ks,i < 4∧Mk tn dc did obs (b.T h1) i (g i))(l3:obs.length≤3)
  (Q:∀ l' h' ks' g',bC chk 7 Jw (ab P (m+6)) (iN js) l h1=some (.next,l',h')→Ao b h3 p (.dct (dI ks' g')) n h'→ks'.Nodup→(∀ i∈ks',i < 4∧Mk tn dc did obs (b.T h') i (g' i))→(∀ i,i∈ks'↔i∈ks∨∃ j∈js,9≤j∧j - 9 < obs.length∧i=j - 9)→Le m0 l'→G):G:=by
 induction js generalizing ks g l h1 with
 | nil=>exact Q l h1 ks g (aR (hc _ s.g)) s nd hks (fun i=>(or_iff_left fun ⟨uu,w,uu1⟩=>nomatch w).symm) q
 | cons job js ih=>
  rw [List.length_cons,Nat.mul_succ,←Nat.add_assoc] at s
  refine BN (P:=P) (m:=m) (n:=n+70 * js.length) (its _ s.g) (ol _ s.g) (hj job aw) m00 m1 m3 m4 m5 m6 m7 q s nd hks l3 fun l2 h2 ks2 g2 e2 s2 p2 nd2 hk2 i2 q2=>?_
  refine ih (fun j hj'=>hj j (aE _ hj')) q2 s2 nd2 hk2 fun l' h' ks' g' e' s' nd' hk' i' q'=>Q l' h' ks' g' (aC (hc _ s.g) e2 e') s' nd' hk' (fun i=>?_) q'
  rw [i',i2]
  simp only [List.mem_cons,exists_eq_or_imp,or_assoc]
theorem BP(h0:(h:List MO).length≠0)(its:cF d h (ns.map .ref))(ol:OL h ns obs)(ito:cF dO h (iN js))(hj:∀ j∈js,j < 13)(l13:js.length≤13)(all:∀ j < 13,j∈js)(l2:2≤obs.length)(l3:obs.length≤3)
  (Q:∀ (h':H) (b:Tb) (mA:Nat) (ks:List Nat) (g:Nat→Nat) (dd:Option (Nat×Nat)),ab P (m+7) 1154 [d,.bool dc,dO,.bool tn] h=some (.tup [.ref b.tab,.ref mA],h')→In b 96800 h'→Sub h h'→(h:List MO).length≤b.r→(h:List MO).length≤b.i→
   (h':List MO)[mA]?=some (.dct (dI ks g))→ks.Nodup→(∀ i,i∈ks↔i < obs.length)→(∀ i o,obs[i]?=some o→Pq tn dd (b.T h') (g i) o)→(∀ did t0,dd=some (did,t0)→Fu b did t0 h')→G):G:=by
 refine sT (P:=P) (n:=m+4) (tn:=tn) (q0:=d) (q1:=.bool dc) (q2:=dO) h0 fun h3 b did e h1 h2 s4 s3 s5 y3 sb3 df e3 gr gi=>?_
 have x3:In b 97984 h3:=.of y3 CU (by decide)
 have subk:∀ hh,Gr b h3 hh→Sub h hh:=fun hh g=>sb3.keep g.k gr gi
 refine BO (P:=P) (m:=m) (n:=97000) (h3:=h3) (p:=(h3:List MO).length) (js:=js) (ks:=[]) (g:=fun uu=>0) (m0:=upd (upd (upd (fun j=>[d,.bool dc,dO,.bool tn][j]?) 4 (.ref b.tab)) 5 (.int did)) 6 (.ref (h3:List MO).length)) (did:=did) (tn:=tn) (dc:=dc) (chk:=still dO (iN js) (knd dO (h3++[.dct []]:List MO))) (fun hh g=>((ito.sub sb3).app).still (ito.sub (subk hh g))) (fun hh g=>its.sub (subk hh g)) (fun hh g=>ol.mv (subk hh g).mv) hj rfl rfl rfl rfl rfl rfl rfl .refl (x3.le (by omega)).newo .nil (fun uu w=>nomatch w) l3 fun l' h5 ks g lp s5' nd hks mem q=>?_
 have mem:∀ i,i∈ks↔i < obs.length:=fun i=>(mem i).trans ⟨fun w=>w.elim (fun w=>nomatch w) fun ⟨j,uu,uu1,a,e⟩=>e▸a,fun w=>.inr ⟨i+9,all _ (by omega),by omega,by omega,by omega⟩⟩
 have df5:=df.keep y3 s5'.g.k
 have sb5:=subk h5 s5'.g
 have start:∀ {d':D} {hh:H},hU _ (ab P (m+6)) l' h5 d' hh→ab P (m+7) 1154 [d,.bool dc,dO,.bool tn] h=some (d',hh):=fun hr=>
  ah (Iy P) rfl (ax s4 (ax s3 (ax s5 (ax (x:=ae 6 cu) (aA rfl) (ax (aO (v_ rfl) ((ito.sub sb3).app).items (by rw [List.length_map];omega) lp) hr)))))
 cases dc with
 | false=>
  refine Q h5 b _ ks g none (start (ax (x:=ay (xt (xv 1)) _ _) (nF (av (w_ q rfl)) rfl) (aj (bZ (dJ (w_ q rfl) (w_ q rfl)) rfl)))) (s5'.x.le (by omega)) sb5 gr gi s5'.e nd mem (fun i o ho=>?_) fun uu uu1 z=>nomatch z
  rcases (hks i ((mem i).mpr (cv ho).1)).2 with ⟨z,_⟩|⟨_,o',row,eo,a,r⟩
  ·cases z
  ·cases ho.symm.trans eo;exact .obj row a r
 | true=>
  have ho:=List.getElem?_eq_getElem (Nat.lt_of_lt_of_le (by decide) l2:0 < obs.length)
  obtain ⟨n0,en,rc⟩:=F2.get (ol.mv sb5.mv) ho
  refine jz (P:=P) (m:=m) (n:=96800) (tn:=tn) rc (s5'.x.le (by omega)) fun h6 t0 row c1 x6 g6 c6 c7=>?_
  refine (df5.keep s5'.x.ht g6.k).body (t0:=t0) x6.ht fun h7 se dcl y7 s7 gs acc=>?_
  have x7:In b 96800 h7:=.of y7 x6.tok x6.room
  have T7:b.T h7=b.T h6:=y7.eq
  refine Q h7 b _ ks g (some (did,t0)) (start (ax (x:=ay (xt (xv 1)) _ _) (mq (av (w_ q rfl)) (bg (CY (ck (w_ q rfl) (ar (w_ q rfl) k_ (cB (j:=0) (its.sub sb5) ((List.getElem?_map ..).trans (congrArg _ en)))) (w_ q rfl) c1) (acc (q 4 _ rfl) (q 5 _ rfl)) se) rfl)) (aj (bZ (dJ (w_ q rfl) (w_ q rfl)) rfl)))) x7 (s7 (sb5.keep g6.k gr gi) (Nat.le_refl _)) gr gi (gs _ _ (Nat.ne_of_gt e3) (s5'.gr g6)) nd mem (fun i o hoi=>?_) fun uu uu1 z=>by cases z;exact dcl
  rw [T7]
  rcases ((hks i ((mem i).mpr (cv hoi).1)).2).grow g6.p with ⟨z,a⟩|⟨_,o',row',eo,a,r⟩
  ·cases of_decide_eq_true (show decide (i=0)=true from z)
   cases ho.symm.trans hoi
   exact .ref did t0 row rfl a c6 c7
  ·cases hoi.symm.trans eo;exact .obj row' a r
end
noncomputable def yC(obs:List Ob)(i:Nat):Ob:=obs.getD i LP.str.ob
noncomputable def lps(obs:List Ob)(how:Nat):List LP:=if how=1 then obs.map .one++[.met (yC obs 0) (yC obs 1)] else if how=2 then [.met (yC obs 0) (yC obs 1),.one (yC obs (obs.length - 1))] else if how=3 then obs.map .one++[.str] else obs.map .one
abbrev KP(tn:Bool)(dd:Option (Nat×Nat))(T:List D)(kinds:List Nat)(L:List LP):Prop:=F2 (Pd tn dd T) kinds L
section
variable {l:L}{T:List D}{a x:X}{mA:Nat}{G:Prop}{ks kinds:List Nat}{g:Nat→Nat}
theorem jT(h:i < obs.length):obs[i]?=some (yC obs i):=by
 unfold yC
 rw [List.getD_eq_getElem?_getD,List.getElem?_eq_getElem h];rfl
theorem KP.grow(x:KP tn dd T kinds Ls)(p:T <+: T'):KP tn dd T' kinds Ls:=x.imp fun uu uu1 uu2 z=>z.grow p
theorem vQ(nd:ks.Nodup)(h:∀ i,i∈ks↔i < n):ks.length=n:=((List.perm_ext_iff_of_nodup nd List.nodup_range).mpr fun i=>(h i).trans List.mem_range.symm).length_eq.trans List.length_range
theorem II(x:In b n h)(e:(h:List MO)[m]?=some (.dct (dI ks g)))(h0:ks.length≠0)(gr:Gr b h hh):(hh:List MO)[m]?=some (.dct (dI ks g)):=by
 refine gr.k.2 _ _ e (fun z=>by cases (z▸e).symm.trans x.ht.r) fun z=>?_
 obtain ⟨I,i1,i2,_⟩:=x.ht.i
 cases i1.symm.trans (z▸e)
 cases ks with
 | nil=>exact h0 rfl
 | cons a r=>exact absurd (show ((1:Nat)==3)=true from db i2 (.int a,.int (g a)) aw) (by decide)
theorem za(pq:∀ i o,obs[i]?=some o→Pq tn dd T (g i) o):KP tn dd T ((List.range obs.length).map g) (obs.map .one):=F2.of (by rw [List.length_map,List.length_map,List.length_range]) fun j k p a e=>by
 rw [List.getElem?_map] at a e
 cases ho:obs[j]? with
 | none=>rw [ho] at e;cases e
 | some o=>
  rw [ho] at e;cases e
  rw [List.getElem?_range (cv ho).1] at a
  cases a
  exact pq j o ho
theorem pc(x:In b (n+1) h)(hm:(h:List MO)[mA]?=some (.dct (dI ks g)))(nd:ks.Nodup)(mem:∀ i,i∈ks↔i < obs.length)(pq:∀ i o,obs[i]?=some o→Pq tn dd (b.T h) (g i) o)(l2:2≤obs.length)(l3:obs.length≤3)(hw:how < 4)
  (Q:∀ h' kinds r,ab P (m+3) 1159 [.ref b.tab,.ref mA,.int how] h=some (.ref r,h')→In b n h'→Gr b h h'→(h':List MO)[r]?=some (.lst (iN kinds))→KP tn dd (b.T h') kinds (lps obs how)→(h:List MO).length≤r→G):G:=by
 have kl:=vQ nd mem
 have ln:bi .len [.ref mA] h=some (.int (obs.length:Int),h):=by
  show (match (h:List MO)[mA]? with|some (.lst l)=>some (D.int l.length,h)|some (.dct l)=>if fE l then some (D.int l.length,h) else none|_=>none)=_
  rw [hm]
  have kd:cW 1 (dI ks g)=true:=(aG (sI (k:=0))).2
  show (if fE (dI ks g)=true then some (D.int (dI ks g).length,h) else none)=_
  rw [if_pos (show fE (dI ks g)=true by unfold fE;rw [kd];rfl),←kl]
  unfold dI;rw [List.length_map]
 have cm:=fu (c:=ab P (m+2)) (l:=upd (fun j=>[D.ref b.tab,.ref mA,.int how][j]?) 3 (.int obs.length)) (i:=5) (it:=x1 (xv 3) dq) (e:=xi (xv 1) (xv 5)) (ys:=List.range obs.length) (f:=fun (k:Nat)=>.int k) (g:=fun k=>.int (g k)) (kQ (v_ rfl) (bP (by omega))) bU (by rw [List.length_range];omega) fun y hy=>ar (v_ rfl) (v_ rfl) (sY hm ((mem y).mpr (List.mem_range.mp hy)))
 have em:((List.range obs.length).map fun k=>D.int (g k))=iN ((List.range obs.length).map g):=by rw [iN,List.map_map];rfl
 rw [em] at cm
 have s1:=x.newo (o:=.lst (iN ((List.range obs.length).map g)))
 have T1:b.T (h++[.lst (iN ((List.range obs.length).map g))]:List MO)=b.T h:=x.ht.app.eq
 have start:∀ {d':D} {hh:H},hU _ (ab P (m+2)) (upd (upd (fun j=>[D.ref b.tab,.ref mA,.int how][j]?) 3 (.int obs.length)) 4 (.ref (h:List MO).length)) (h++[.lst (iN ((List.range obs.length).map g))]:List MO) d' hh→ab P (m+3) 1159 [.ref b.tab,.ref mA,.int how] h=some (d',hh):=fun hr=>
  ah (Ix P) rfl (aH (bZ (aQ (v_ rfl)) ln) (aH cm hr))
 have kp0:KP tn dd (b.T (h++[.lst (iN ((List.range obs.length).map g))]:List MO)) ((List.range obs.length).map g) (obs.map .one):=T1▸za pq
 have mg:∀ {i:Nat},i < obs.length→item (.ref mA) (.int i) (h++[.lst (iN ((List.range obs.length).map g))]:List MO)=some (.int (g i),(h++[.lst (iN ((List.range obs.length).map g))]:List MO)):=fun hi=>sY (au hm) ((mem _).mpr hi)
 have put:∀ G:Prop,(∀ h2 (t:Nat),(∀ {l:L},l 0=some (.ref b.tab)→l 1=some (.ref mA)→dT "put" (xv 0) [(am [(ki 7),(am [(xi (xv 1) (ki 0)),(xi (xv 1) (ki 1))])])] (ab P (m+2)) l (h++[.lst (iN ((List.range obs.length).map g))]:List MO)=some (.int t,h2))→Ao b h (h:List MO).length (.lst (iN ((List.range obs.length).map g))) n h2→Gr b (h++[.lst (iN ((List.range obs.length).map g))]:List MO) h2→Pd tn dd (b.T h2) t (.met (yC obs 0) (yC obs 1))→G)→G:=fun G K=>
  gN (P:=P) (m:=m+1) (n:=n) (row:=.tup [.int 7,.tup [.int (g 0),.int (g 1)]]) s1.x rfl rfl fun h2 t e2 x2 g2 r2=>K h2 t (fun q0 q1=>sE s1.x.ht (v_ q0) (bZ (dJ k_ (bZ (dJ (ar (v_ q1) k_ (mg (i:=0) (by omega))) (ar (v_ q1) k_ (mg (i:=1) (by omega)))) rfl)) rfl) e2) (s1.call x2 g2) g2 ⟨g 0,g 1,r2,(pq 0 _ (jT (by omega))).grow (T1▸g2.p),(pq 1 _ (jT (by omega))).grow (T1▸g2.p)⟩
 have sn:∀ {t:Nat},iN ((List.range obs.length).map g)++[.int t]=iN ((List.range obs.length).map g++[t]):=iq
 have ll:(iN ((List.range obs.length).map g)).length=obs.length:=by rw [List.length_map,List.length_map,List.length_range]
 rcases (by omega:how=0∨how=1∨how=2∨how=3) with rfl|rfl|rfl|rfl
 ·exact Q _ _ _ (start (ai (ao (v_ rfl) k_) rfl (ai (ao (v_ rfl) k_) rfl (ai (ao (v_ rfl) k_) rfl (aj (v_ rfl)))))) (s1.x.le (Nat.le_succ n)) s1.g ak kp0 (Nat.le_refl _)
 ·refine put _ fun h2 t e2 s2 g2 pm=>?_
  have ap:=dz (c:=ab P (m+2)) (l:=upd (upd (fun j=>[D.ref b.tab,.ref mA,.int ((1:Nat):Int)][j]?) 3 (.int obs.length)) 4 (.ref (h:List MO).length)) (a:=xv 4) s1.z (v_ rfl) s1.e (aQ (e2 rfl rfl)) s2.e (by omega)
  rw [sn] at ap
  obtain ⟨s3,T3⟩:=s2.set (o':=.lst (iN ((List.range obs.length).map g++[t])))
  exact Q _ _ _ (start (eX (ao (v_ rfl) k_) rfl (bg (dS ap) rfl) (ai (ao (v_ rfl) k_) rfl (ai (ao (v_ rfl) k_) rfl (aj (v_ rfl)))))) s3.x s3.g s3.e (T3▸(kp0.grow g2.p).snoc pm) (Nat.le_refl _)
 ·refine put _ fun h2 t e2 s2 g2 pm=>?_
  have hm2:=II x hm (by omega) s2.g
  have la:xi (xv 1) (xb .Sub (xv 3) (ki 1)) (ab P (m+2)) (upd (upd (fun j=>[D.ref b.tab,.ref mA,.int ((2:Nat):Int)][j]?) 3 (.int obs.length)) 4 (.ref (h:List MO).length)) h2=some (.int (g (obs.length - 1)),h2):=ar (v_ rfl) (kR (j:=1) (by omega) (v_ rfl)) (sY hm2 ((mem _).mpr (by omega)))
  exact Q _ [t,g (obs.length - 1)] _ (start (ai (ao (v_ rfl) k_) rfl (eX (ao (v_ rfl) k_) rfl (bg (aA (bZ (dJ (e2 rfl rfl) la) rfl)) rfl) (ai (ao (v_ rfl) k_) rfl (aj (v_ rfl)))))) s2.x.app (s2.g.trans s2.x.gapp) ak (s2.x.ht.app.eq.trans s2.x.ht.eq.symm▸⟨pm,(pq _ _ (jT (by omega))).grow s2.g.p,trivial⟩) s2.g.k.1
 ·have ap:=dz (c:=ab P (m+2)) (l:=upd (upd (fun j=>[D.ref b.tab,.ref mA,.int ((3:Nat):Int)][j]?) 3 (.int obs.length)) 4 (.ref (h:List MO).length)) (a:=xv 4) (k:=xk (.int ((6:Nat):Int))) s1.z (v_ rfl) s1.e (aQ k_) s1.e (by omega)
  rw [sn (t:=6)] at ap
  obtain ⟨s3,T3⟩:=s1.set (o':=.lst (iN ((List.range obs.length).map g++[6])))
  exact Q _ _ _ (start (ai (ao (v_ rfl) k_) rfl (ai (ao (v_ rfl) k_) rfl (eX (ao (v_ rfl) k_) rfl (bg (dS ap) rfl) (aj (v_ rfl)))))) (s3.x.le (Nat.le_succ n)) s3.g s3.e (T3▸kp0.snoc (rfl:Pd tn dd _ 6 .str)) (Nat.le_refl _)
end
theorem jH{α:Type}{A B:List α}(h:∀ x,x∈A↔x∈B)(p:α→Bool):A.all p=B.all p∧A.any p=B.any p:=by
 refine ⟨Bool.eq_iff_iff.mpr ?_,Bool.eq_iff_iff.mpr ?_⟩
 ·rw [List.all_eq_true,List.all_eq_true];exact forall_congr' fun x=>imp_congr_left (h x)
 ·rw [List.any_eq_true,List.any_eq_true];exact exists_congr fun x=>and_congr_left' (h x)
theorem dh{α β:Type}{A B:List α}(h:∀ x,x∈A↔x∈B){f:α→β}(y:β):y∈A.map f↔y∈B.map f:=by
 rw [List.mem_map,List.mem_map];exact exists_congr fun x=>and_congr_left' (h x)
theorem hJ{A B:List (Option Nat)}(h:∀ x,x∈A↔x∈B):bw A=bw B:=by
 have e:iz (A.filterMap id)=iz (B.filterMap id):=Nat.eq_of_testBit_eq fun i=>by
  rw [gp,gp]
  exact (jH (fun x=>by rw [List.mem_filterMap,List.mem_filterMap];exact exists_congr fun y=>and_congr_left' (h y)) _).2
 unfold bw
 rw [e]
 exact ite_congr (propext (h none)) (fun uu=>rfl) fun uu=>rfl
theorem oy{A B:List Nat}(h:∀ x,x∈A↔x∈B):apart A=apart B:=(jH h _).2.trans (congrArg B.any (funext fun uu=>(jH h _).2))
theorem l8{w:Bool}{A B:List Nat}(h:∀ x,x∈A↔x∈B):cH w A=cH w B:=by
 have e:kc (A.map (be w))=kc (B.map (be w)):=Nat.eq_of_testBit_eq fun i=>by
  unfold kc
  rw [kb,kb,(jH (dh h) _).1]
 unfold cH
 rw [e]
 exact ite_congr (propext (h 0)) (fun uu=>rfl) fun uu=>ite_congr (propext (h 256)) (fun uu=>rfl) fun uu=>rfl
theorem sN{A B:List LP}{k:Nat}(h:∀ x,x∈A↔x∈B):eG A k=eG B k:=by
 unfold eG
 rw [hJ (dh h),oy (dh h)]
theorem jS{A B:List LP}{key:Nat}(h:∀ x,x∈A↔x∈B):bQ A key=bQ B key:=by
 unfold bQ
 rw [hJ (dh h)]
 cases cj key with
 | none=>rfl
 | some k=>
  show (if apart (A.map fun p=>ownOf p.ob k)=true then none else _)=(if apart (B.map fun p=>ownOf p.ob k)=true then none else _)
  rw [oy (dh h)]
section
variable {l:L}{T:List D}{a e:X}{kinds:List Nat}{G:Prop}
open Classical in
noncomputable def EF(tn:Bool)(dd:Option (Nat×Nat))(T:List D)(v:Nat):LP:=if h:∃ p,Pd tn dd T v p then choose h else .str
theorem Pd.of(z:Pd tn dd T t lp)(tk:Tok T):EF tn dd T t=lp:=by
 have h:∃ p,Pd tn dd T t p:=⟨lp,z⟩
 unfold EF
 rw [dif_pos h]
 exact (Classical.choose_spec h).uniq tk z
theorem jc.uniq(tk:Tok T)(x:jc T oo d1)(z:jc T oo d2):d1=d2:=by
 cases oo with
 | none=>cases x;cases z;rfl
 | some S=>
  obtain ⟨t,rfl,a⟩:=x
  obtain ⟨u,rfl,c⟩:=z
  rw [a.uniq tk c]
theorem nY(x:In b (n+10) h)(hs:∀ S,oo=some S→bY S)(Q:∀ h' d,ab P (m+5) 1123 [.ref b.tab,.int (oz oo)] h=some (d,h')→In b n h'→Gr b h h'→jc (b.T h') oo d→G):G:=by
 cases oo with
 | none=>exact Q h _ pb (x.le (cg n 10)) .refl rfl
 | some S=>exact gV (P:=P) (m:=m) x (hs S rfl).lt fun h' t e x' g y=>Q h' _ e x' g ⟨t,rfl,(hs S rfl).id▸y⟩
structure Rc(b:Tb)(u:Nat)(dd:Option (Nat×Nat))(tn:Bool)(hb:H)(dP dQ:D)(ds:List D)(Ls:List LP)(qs:List Nat)(mK:Nat)(kinds:List Nat)(h:H):Prop where
 en:En b u dd h
 sub:Sub hb h
 lr:(hb:List MO).length≤b.r∧(hb:List MO).length≤b.i
 iP:cF dP hb ds
 pl:PL hb ds Ls
 h0:∃ L,(hb:List MO)[0]?=some (.lst L)
 iK:cF (.ref mK) h (iN kinds)
 kp:KP tn dd (b.T h) kinds Ls
 iQ:cF dQ hb (iN qs)
 n0:kinds≠[]
 n7:kinds.length≤7
end
section
variable {l:L}{T:List D}{a e:X}{u:Nat}{both:Bool}{kinds:List Nat}{G:Prop}
theorem Rc.gr(r:Rc b u dd tn hb dP dQ ds Ls qs mK kinds h)(x:In b n h)(g:Gr b h hh):Rc b u dd tn hb dP dQ ds Ls qs mK kinds hh:=⟨r.en.keep g.k,r.sub.keep g.k r.lr.1 r.lr.2,r.lr,r.iP,r.pl,r.h0,r.iK.gr x g,r.kp.grow g.p,r.iQ,r.n0,r.n7⟩
theorem Rc.parts(r:Rc b u dd tn hb dP dQ ds Ls qs mK kinds h):cF dP h ds∧PL h ds Ls∧Ls≠[]∧Ls.length < 90:=by
 have e:=F2.length r.kp
 have n7:=r.n7
 exact ⟨r.iP.sub r.sub,r.pl.mv r.sub.mv,fun w=>r.n0 (List.length_eq_zero_iff.mp (e.trans (congrArg List.length w))),by omega⟩
theorem CV(tk:Tok T)(ha:a c l h=some (d1,h1))(he:e c l h1=some (d2,h2))(x1:jc T oo d1)(x2:jc T oo d2):xt (ac .NotEq a e) c l h=some (false,h2):=by
 cases x1.uniq tk x2
 obtain ⟨i,rfl,_⟩:=x1.int
 exact av (aF ha he (lS.trans (by rw [beq_self_eq_true];rfl)))
theorem yX{os:List MO}(x:In b (n+10) h)(x1:jc (b.T h) oo d1)(hs:∀ S,oo=some S→bY S)(q0:l 0=some (.ref b.tab))(ha:a (ab P (m+5)) l hh=some (d1,h))(he:e (ab P (m+5)) l h=some (cM oo,(h++os:List MO)))(Q:∀ h',xt (ac .NotEq a (xf 1123 [(xv 0),e])) (ab P (m+5)) l hh=some (false,h')→In b n h'→Gr b h h'→G):G:=
 nY (P:=P) (m:=m) (x.app (os:=os)) hs fun h2 d c1 x2 g2 y2=>Q h2 (CV x2.tok ha (az (v_ q0) he c1) (x1.grow (x.gapp.trans g2).p) y2) x2 (x.gapp.trans g2)
theorem BY(r:Rc b u dd tn hb dP dQ ds Ls qs mK kinds h)(x:In b (n+7700) h)(w:Wh tn dd (b.T h) t Y f)(wm:∀ p,p∈Y.map f↔p∈Ls)(h8:key < 8)(q0:l 0=some (.ref b.tab))(q1:l 1=some (.ref u))(q2:l 2=some dP)(q5:l 5=some (.int t))(q6:l 6=some (.int key))
  (Q:∀ h',xt (ac .NotEq (xf 942 [(xv 1),(xv 5),(xf 1137 [(xv 0),(xv 6)])]) (xf 1123 [(xv 0),(xf 1092 [(xv 2),(xv 6)])])) (ab P (m+21)) l h=some (false,h')→In b n h'→Gr b h h'→G):G:=by
 refine dL (P:=P) (m:=m+18) (n:=n+7699) h8 x fun h1 i e1 x1 g1 ky=>?_
 refine tq (P:=P) (m:=m) (n:=n+10) ((r.gr x g1).en) (x1.le (by omega)) (w.grow g1.p) ky fun h2 d e2 x2 g2 z2=>?_
 have r2:=(r.gr x g1).gr x1 g2
 obtain ⟨pi,pl,p0,p9⟩:=r2.parts
 obtain ⟨os,c1⟩:=oU (P:=P) (m:=m+17) (key:=key) pi pl p0 p9
 exact yX (P:=P) (m:=m+16) (l:=l) x2 (jS wm▸z2) (fun S e=>fY pl.ok e) q0 (ck (v_ q1) (v_ q5) (az (v_ q0) (v_ q6) e1) e2) (az (v_ q2) (v_ q6) c1) fun h' e x' g=>Q h' e x' (g1.trans (g2.trans g))
theorem wg(r:Rc b u dd tn hb dP dQ ds Ls qs mK kinds h)(x:In b (n+1100) h)(w:Wh tn dd (b.T h) t Y f)(wm:∀ p,p∈Y.map f↔p∈Ls)(q0:l 0=some (.ref b.tab))(q1:l 1=some (.ref u))(q2:l 2=some dP)(q5:l 5=some (.int t))
  (Q:∀ h',xt (ac .NotEq (xf 942 [(xv 1),(xv 5),(ki 2)]) (xf 1123 [(xv 0),(xf 1102 [(xv 2)])])) (ab P (m+17)) l h=some (false,h')→In b n h'→Gr b h h'→G):G:=by
 refine yG (P:=P) (m:=m) (n:=n+10) r.en (x.le (by omega)) w fun h2 tt e2 x2 g2 y2=>?_
 obtain ⟨pi,pl,p0,p9⟩:=(r.gr x g2).parts
 obtain ⟨os,c1⟩:=wq (P:=P) (m:=m+13) pi pl p9
 have em:bw (Y.map (d6 ∘ f))=bw (Ls.map d6):=by
  rw [←List.map_map];exact hJ (dh wm)
 rw [em] at y2
 refine yX (P:=P) (m:=m+12) (l:=l) (oo:=some ((bw (Ls.map d6)).getD 0)) x2 ⟨tt,rfl,y2⟩ (fun S e=>?_) q0 (ck (v_ q1) (v_ q5) k_ e2) (dD (v_ q2) c1) fun h' e x' g=>Q h' e x' (g2.trans g)
 cases e
 cases hq:bw (Ls.map d6) with
 | none=>exact sa
 | some S=>
  refine fT (fun S hS=>?_) hq
  obtain ⟨p,hp,e⟩:=bR hS
  unfold d6 at e
  split at e
  ·exact (pl.ok p hp).tx S e
  ·exact (pl.ok p hp).dg S e
theorem yJ(r:Rc b u dd tn hb dP dQ ds Ls qs mK kinds h)(x:In b (n+1100) h)(w:Wh tn dd (b.T h) t Y f)(wm:∀ p,p∈Y.map f↔p∈Ls)(hk:k < 4)(q0:l 0=some (.ref b.tab))(q1:l 1=some (.ref u))(q2:l 2=some dP)(q5:l 5=some (.int t))(q12:l 12=some (.str (nm k)))
  (Q:∀ h',xt (ac .NotEq (xf 786 [(xv 1),(xv 5),(xv 12)]) (xf 1123 [(xv 0),(xf 1097 [(xv 2),(xv 12)])])) (ab P (m+17)) l h=some (false,h')→In b n h'→Gr b h h'→G):G:=by
 obtain ⟨un,ne,nd,hl,pts⟩:=w
 refine jt (P:=P) (m:=m) (n:=n+10) r.en (x.le (by omega)) pts nd un ne hl hk fun h2 d e2 x2 g2 z2=>?_
 obtain ⟨pi,pl,p0,p9⟩:=(r.gr x g2).parts
 obtain ⟨os,c1⟩:=yI (P:=P) (m:=m+13) pi pl p0 p9 hk
 have em:eG (Y.reverse.map f) k=eG Ls k:=sN fun p=>(dh (fun v=>List.mem_reverse) p).trans (wm p)
 refine yX (P:=P) (m:=m+12) (l:=l) x2 (em▸z2) (fun S e=>?_) q0 (ck (v_ q1) (v_ q5) (v_ q12) e2) (az (v_ q2) (v_ q12) c1) fun h' e x' g=>Q h' e x' (g2.trans g)
 unfold eG at e
 split at e
 ·cases e
 ·refine fT (fun S hS=>?_) e
  obtain ⟨p,hp,e⟩:=bR hS
  exact (pl.ok p hp).name e
theorem C7(r:Rc b u dd tn hb dP dQ ds Ls qs mK kinds h)(x:In b (n+8) h)(q0:l 0=some (.ref b.tab))(q2:l 2=some dP)(he:e (ab P (m+5)) l h=some (.bool both,h))(Q:∀ h' (t:Nat),xf 1142 [(xv 0),(xf 1116 [(xv 2),e])] (ab P (m+5)) l h=some (.int t,h')→In b n h'→Gr b h h'→Ty true (b.T h') (ex (shared both Ls)) t→G):G:=by
 obtain ⟨pi,pl,p0,p9⟩:=r.parts
 obtain ⟨L0,z0⟩:=r.h0
 exact qX (P:=P) (m:=m) (vO both Ls) x fun h2 t e2 x2 g2 y2=>Q h2 t (az (v_ q0) (az (v_ q2) he (vN (m:=m+2) pi pl p9 ⟨L0,r.sub.2 _ _ z0⟩)) e2) x2 g2 ((show set6 (shared both Ls)=shared both Ls from (uX _ (pG (by cases both<;>decide))).2)▸y2)
theorem ze(r:Rc b u dd tn hb dP dQ ds Ls qs mK kinds h)(x:In b (n+1600) h)(w:Wh tn dd (b.T h) t Y f)(wm:∀ p,p∈Y.map f↔p∈Ls)(q0:l 0=some (.ref b.tab))(q1:l 1=some (.ref u))(q2:l 2=some dP)(q5:l 5=some (.int t))
  (Q:∀ h',xt (ac .NotEq (xf 881 [(xv 1),(xv 5)]) (xf 1142 [(xv 0),(xf 1116 [(xv 2),(xk (.bool true))])])) (ab P (m+22)) l h=some (false,h')→In b n h'→Gr b h h'→G):G:=by
 refine zf (P:=P) (m:=m) (n:=n+8) r.en (x.le (by omega)) w fun h2 t2 e2 x2 g2 y2=>?_
 have r2:=r.gr x g2
 have em:cH true (Y.map fun v=>ex (lk (f v)))=ex (shared true Ls):=by
  rw [←iG r2.parts.2.2.1,show (Y.map fun v=>ex (lk (f v)))=(Y.map f).map fun p=>ex (lk p) by rw [List.map_map];rfl]
  exact l8 (dh wm)
 rw [em] at y2
 refine C7 (P:=P) (m:=m+17) (n:=n) (l:=l) (both:=true) (e:=xk (.bool true)) r2 x2 q0 q2 k_ fun h3 t3 e3 x3 g3 y3=>?_
 cases (y2.grow g3.p).uniq x3.tok y3
 exact Q h3 (av (aF (az (v_ q1) (v_ q5) e2) e3 (lS.trans (by rw [beq_self_eq_true];rfl)))) x3 (g2.trans g3)
end
section
variable {l:L}{T:List D}{a e x:X}{u k0:Nat}{both:Bool}{r:List D}{kinds:List Nat}{G:Prop}
noncomputable def Ed(k0 k1 k:Nat):Bool:=(decide (3 < k) || !(decide (k0=5) || decide (k1=5))) && (!decide (k=4) || !(decide (k0=6) || decide (k1=6)))
noncomputable def cX(k0 k1:Nat):List Nat:=[k0,k1].filter (Ed k0 k1)
theorem xr:∀ k0 < 7,∀ k1 < 7,(!(cX k0 k1).isEmpty && (cX k0 k1).all fun a=>decide (a < 7) && (cX k0 k1).all fun e=>(!decide (a < 4) || !decide (e=5)) && (!decide (a=4) || !decide (e=6)))=true:=by decide +kernel
theorem Aw(h0:k0 < 7)(h1:k1 < 7):cX k0 k1≠[]∧∀ a∈cX k0 k1,a < 7∧∀ e∈cX k0 k1,(a < 4→e≠5)∧(a=4→e≠6):=by
 obtain ⟨n,al⟩:=aG (xr k0 h0 k1 h1)
 refine ⟨fun e=>(by rw [e] at n;cases n),fun a ha=>?_⟩
 obtain ⟨x,y⟩:=aG (db al a ha)
 refine ⟨of_decide_eq_true x,fun e he=>?_⟩
 have c:=db y e he
 simp only [Bool.and_eq_true,Bool.or_eq_true,Bool.not_eq_true',decide_eq_false_iff_not] at c
 omega
theorem xq:(cX k0 k1).length≤2:=List.length_filter_le _ [k0,k1]
noncomputable abbrev Ko:XT:=(bM (dn (xt (ac .Gt (xv 13) (ki 3))) (xt (ac .NotIn (ki 5) (x3 (xv 4) (xk .none) (ki 2) aT)))) (dn (xt (ac .NotEq (xv 13) (ki 4))) (xt (ac .NotIn (ki 6) (x3 (xv 4) (xk .none) (ki 2) aT)))))
theorem vq(hm:(h:List MO)[m]?=some (.lst (iN (k0::k1::rest)))):aT (.ref m) .none (.int 2) h=some (.ref (h:List MO).length,(h++[.lst (iN [k0,k1])]:List MO)):=by
 unfold aT
 dsimp only
 rw [hm]
 show (tJ (.int 2) (iN (k0::k1::rest)).length (iN (k0::k1::rest)).length).bind (fun y=>new (.lst (Fq (iN (k0::k1::rest)) 0 y)) h)=_
 rw [show tJ (.int 2) (iN (k0::k1::rest)).length (iN (k0::k1::rest)).length=some 2 from congrArg some (Nat.min_eq_left (Nat.le_add_left 2 _))]
 rfl
theorem xG(hm:(h:List MO)[m]?=some (.lst (iN (k0::k1::rest))))(q4:l 4=some (.ref m)):xt (ac .NotIn (ki v) (x3 (xv 4) (xk .none) (ki 2) aT)) c l h=some (!(decide (k0=v) || decide (k1=v)),(h++[.lst (iN [k0,k1])]:List MO)):=by
 refine (av (aF k_ (CS (v_ q4) k_ k_ (vq hm)) (qF (tm (ts:=[k0,k1]) (.inr ⟨_,rfl,ak⟩))))).trans (congrArg (fun z=>some (!z,_)) (dj.trans ?_))
 rw [←Bool.decide_or]
 exact decide_eq_decide.mpr (by simp only [List.mem_cons,List.not_mem_nil,or_false];omega)
theorem tY(hm:(h:List MO)[m]?=some (.lst (iN (k0::k1::rest))))(q4:l 4=some (.ref m))(q13:l 13=some (.int k)):∃ os:List MO,Ko c l h=some (Ed k0 k1 k,(h++os:List MO)):=by
 have t3:∀ {h:H},xt (ac .Gt (xv 13) (ki 3)) c l h=some (decide (3 < k),h):=fun {h}=>(av (aF (v_ q13) (k_ (d:=.int 3)) rfl)).trans (congrArg (fun v=>some (v,h)) (decide_eq_decide.mpr (show (k:Int) > 3↔3 < k by omega)))
 have t4:∀ {h:H},xt (ac .NotEq (xv 13) (ki 4)) c l h=some (!decide (k=4),h):=fun {h}=>(fV (v_ q13) k_).trans (congrArg (fun v=>some (!v,h)) (cQ (j:=4)))
 have first:∃ os:List MO,dn (xt (ac .Gt (xv 13) (ki 3))) (xt (ac .NotIn (ki 5) (x3 (xv 4) (xk .none) (ki 2) aT))) c l h=some (decide (3 < k) || !(decide (k0=5) || decide (k1=5)),(h++os:List MO)):=by
  have t:=t3 (h:=h)
  cases z:decide (3 < k) with
  | true=>rw [z] at t;exact ⟨[],(List.append_nil h).symm▸lw t⟩
  | false=>rw [z] at t;exact ⟨_,jl t (xG (v:=5) hm q4)⟩
 obtain ⟨os,e1⟩:=first
 unfold Ed
 cases z:(decide (3 < k) || !(decide (k0=5) || decide (k1=5))) with
 | false=>rw [z] at e1;exact ⟨os,fG e1⟩
 | true=>
  rw [z] at e1
  have t:=t4 (h:=(h++os:List MO))
  cases y:(!decide (k=4)) with
  | true=>rw [y] at t;exact ⟨os,iJ e1 (lw t)⟩
  | false=>rw [y] at t;exact ⟨os++[.lst (iN [k0,k1])],List.append_assoc h os _▸iJ e1 (jl t (xG (v:=6) (au hm) q4))⟩
theorem zX{chk:H→Bool}{tt:XT}{v:Bool}{ks:List Nat}{res:Option (List D×H)}(hc:chk h=true)(ht:tt c (upd l i (.int k)) h=some (v,h1))(hr:dw chk i (some tt) (xv i) c r l h1 (acc++if v then [.int k] else [])=res):dw chk i (some tt) (xv i) c (.int k::r) l h acc=res:=by
 refine (if_pos hc).trans (dy ht ?_)
 cases v with
 | true=>exact dy (v_ (if_pos rfl)) hr
 | false=>rw [if_neg Bool.false_ne_true,List.append_nil] at hr;exact hr
theorem vf(hm:(h:List MO)[m]?=some (.lst (iN (k0::k1::rest))))(q4:l 4=some (.ref m))(q7:l 7=some (.int k0))(q8:l 8=some (.int k1)):∃ (os:List MO) (r:Nat),aN 13 (am [(xv 7),(xv 8)]) (some Ko) (xv 13) c l h=some (.ref r,(h++os:List MO))∧(h++os:List MO)[r]?=some (.lst (iN (cX k0 k1))):=by
 obtain ⟨o1,e1⟩:=tY (c:=c) (l:=upd l 13 (.int k0)) (k:=k0) hm q4 rfl
 obtain ⟨o2,e2⟩:=tY (c:=c) (l:=upd l 13 (.int k1)) (h:=(h++o1:List MO)) (k:=k1) (au hm) q4 rfl
 have em:([]++(if Ed k0 k1 k0 then [D.int k0] else []))++(if Ed k0 k1 k1 then [D.int k1] else [])=iN (cX k0 k1):=by
  unfold cX
  rw [fR,fR,List.filter_nil]
  cases Ed k0 k1 k0<;>cases Ed k0 k1 k1<;>rfl
 refine ⟨o1++(o2++[.lst (iN (cX k0 k1))]),(h++o1++o2:List MO).length,?_⟩
 rw [←List.append_assoc,←List.append_assoc]
 exact ⟨fF (ds:=[.int k0,.int k1]) (bZ (dJ (v_ q7) (v_ q8)) rfl) rfl (f0 rfl) (zX (ks:=[]) an e1 (zX (ks:=[]) an e2 (em▸gn an))),ak⟩
theorem Fc{chk:H→Bool}{R:Nat→D}(hc:∀ os,chk (h++os:List MO)=true){os:List MO}(st:∀ v os,v∈ys→∃ os',x c (upd l i (.int v)) (h++os:List MO)=some (R v,(h++os++os':List MO))):∃ os2,dw chk i none x c (iN ys) l (h++os:List MO) acc=some (acc++ys.map R,(h++os2:List MO)):=by
 induction ys generalizing os acc with
 | nil=>exact ⟨os,(gn (hc os)).trans (by rw [List.map_nil,List.append_nil])⟩
 | cons v ys ih=>
  obtain ⟨os',e⟩:=st v os aw
  obtain ⟨os2,e2⟩:=ih (os:=os++os') (acc:=acc++[R v]) fun w os hw=>st w os (aE _ hw)
  rw [List.append_assoc] at e2
  exact ⟨os2,gj (hc os) (List.append_assoc h os os'▸e) e2⟩
theorem Ax(pi:cF dP h ds)(pl:PL h ds Ls)(p0:Ls≠[])(p9:Ls.length < 90)(iW:cF d h (iN ys))(hl:ys.length≤7)(q2:l 2=some dP)(q9:l 9=some d):∃ os:List MO,xf 1082 [(aN 13 (xv 9) none (xf 1092 [(xv 2),(xv 13)]))] (ab P (m+5)) l h=some (cM (bw (ys.map fun v=>bQ Ls v)),(h++os:List MO)):=by
 obtain ⟨os2,e⟩:=Fc (c:=ab P (m+5)) (l:=l) (x:=xf 1092 [(xv 2),(xv 13)]) (i:=13) (R:=fun v=>cM (bQ Ls v)) (h:=h) (chk:=still d (iN ys) (knd d h)) (fun os=>iW.still iW.app) (ys:=ys) (os:=[]) (acc:=[]) (fun v os hv=>by
  obtain ⟨os',c1⟩:=oU (P:=P) (m:=m+1) (key:=v) (h:=(h++os:List MO)) pi.app (pl.mv .app) p0 p9
  exact ⟨os',az (v_ q2) (v_ rfl) c1⟩)
 rw [List.append_nil,List.nil_append,show (ys.map fun v=>cM (bQ Ls v))=(ys.map fun v=>bQ Ls v).map cM by rw [List.map_map];rfl] at e
 refine ⟨os2++[.lst ((ys.map fun v=>bQ Ls v).map cM)],?_⟩
 rw [←List.append_assoc]
 exact dD (fF (v_ q9) iW.items (by rw [List.length_map];omega) e) (iZ (A:=ys.map fun v=>bQ Ls v) (.inr ⟨_,rfl,ak⟩) (by rw [List.length_map];omega) fun S hS=>by
  obtain ⟨v,hv,e⟩:=bR hS
  exact (fY pl.ok e).lt)
end
section
variable {l:L}{T:List D}{a e x:X}{u k0:Nat}{both:Bool}{r:List D}{kinds:List Nat}{G:Prop}
theorem ru{L:List Nat}:(L.map fun t=>[t]).flatten=L:=by
 induction L with
 | nil=>rfl
 | cons a r ih=>exact congrArg (a::·) ih
theorem nH(x:In b (n+1) h)(its:cF d h (iN ids))(l9:ids.length≤9)(ha:∀ v∈ids,∃ kd,At (b.T h) v kd∧(∀ j:Nat,wh kd=j→j∉ids)∧(v≠0∧v≠1∧v≠8∧v≠13∧v≠14))
  (Q:∀ h' (t:Nat),ab P (m+4) 273 [.ref b.tab,d] h=some (.int t,h')→In b n h'→Gr b h h'→Un (b.T h') t (cZ (aV ids))→G):G:=by
 refine pV (P:=P) (m:=m) (n:=n) (ts:=ids) (Xs:=ids.map fun t=>[t]) x its (F2.of (List.length_map ..).symm fun j t X a e=>?_) (fun a hm=>?_) (fun a hm=>?_) (by rw [ru];omega) (by rw [ru];exact cn mu (by omega)) (by omega) fun h' t e x' g uu un=>Q h' t e x' g ?_
 ·rw [List.getElem?_map,a] at e
  cases e
  obtain ⟨kd,⟨r,e,n2,n6,_⟩,_⟩:=ha t (List.mem_of_getElem? a)
  exact .one n2 e n6
 ·rw [ru] at hm
  obtain ⟨kd,at',_⟩:=ha a hm
  exact ⟨kd,at'⟩
 ·rw [ru] at hm
  obtain ⟨kd,_,_,nn⟩:=ha a hm
  exact nn.2
 ·rw [ru] at un
  have un:=un fun q=>by
   obtain ⟨kd,_,_,nn⟩:=ha 0 q
   exact nn.1 rfl
  have ek:sW (b.T h) (aV ids)=cZ (aV ids):=List.filter_eq_self.mpr fun v hv=>by
   obtain ⟨kd,at',no,_⟩:=ha v (a8.mp (cD.mp hv))
   have nh:has (aV ids) (wh kd)=false:=by
    have key:∀ j:Nat,wh kd=j→has (aV ids) (wh kd)=false:=fun j e=>by
     rw [e,dj];exact decide_eq_false fun q=>no j e (a8.mp q)
    by_cases a:kd=3∨kd=18
    ·exact key 6 (if_pos a)
    ·by_cases c:kd=4
     ·exact key 7 ((if_neg a).trans (if_pos c))
     ·rw [show wh kd=-1 from (if_neg a).trans (if_neg c)];exact pE
   rw [at'.kT,nh];rfl
  exact ek▸un
theorem qY(h0:ids≠[]):(∀ v,v∈cZ (aV ids)↔v∈ids)∧cZ (aV ids)≠[]∧(cZ (aV ids)).Nodup∧(cZ (aV ids)).length≤ids.length:=by
 have m:∀ v,v∈cZ (aV ids)↔v∈ids:=fun v=>cD.trans a8
 refine ⟨m,fun q=>?_,(gb eP).imp fun q=>Nat.ne_of_lt q,(fQ _).symm▸mu⟩
 obtain ⟨v,hv⟩:=List.exists_mem_of_ne_nil _ h0
 exact nomatch q▸(m v).mpr hv
theorem Pd.at(z:Pd tn dd T t lp)(tk:Tok T):(∃ kd,At T t kd∧wh kd=-1)∧(t≠0∧t≠1∧t≠8∧t≠13∧t≠14):=by
 refine z.kind tk fun kd0 r0 e0 ek0 nn=>⟨?_,nn 0 (by omega),nn 1 (by omega),fun q=>?_,nn 13 (by omega),fun q=>?_⟩
 ·have n2:=nn 2 (by omega)
  cases lp with
  | str=>cases z;exact ⟨1,⟨_,tk.at (j:=6) rfl,n2,by decide,by decide,fun q=>by omega⟩,rfl⟩
  | one o=>
   cases z with
   | obj r e z=>obtain ⟨g,cs,cd,rfl,_⟩:=z;exact ⟨8,⟨_,e,n2,by decide,by decide,fun uu=>rfl⟩,rfl⟩
   | ref _ _ _ _ e=>exact ⟨9,⟨_,e,n2,by decide,by decide,fun q=>by omega⟩,rfl⟩
  | met=>obtain ⟨_,_,e,_⟩:=z;exact ⟨7,⟨_,e,n2,by decide,by decide,fun q=>by omega⟩,rfl⟩
 ·rw [q,tk.at (j:=8) rfl] at e0;cases e0;omega
 ·rw [q,tk.at (j:=14) rfl] at e0;cases e0;omega
theorem Ky.at(y:Ky T key i)(tk:Tok T)(h7:key < 7):∃ kd,At T i kd∧wh kd=if key < 4 then 6 else if key=4 then 7 else -1:=by
 have n2:=y.ne tk (j:=2) (by decide)
 have e:=y.2
 rcases (by omega:key=0∨key=1∨key=2∨key=3∨key=4∨key=5∨key=6) with rfl|rfl|rfl|rfl|rfl|rfl|rfl
 ·exact ⟨3,⟨_,e,n2,by decide,by decide,fun uu=>rfl⟩,rfl⟩
 ·exact ⟨3,⟨_,e,n2,by decide,by decide,fun uu=>rfl⟩,rfl⟩
 ·exact ⟨3,⟨_,e,n2,by decide,by decide,fun uu=>rfl⟩,rfl⟩
 ·exact ⟨3,⟨_,e,n2,by decide,by decide,fun uu=>rfl⟩,rfl⟩
 ·exact ⟨4,⟨_,e,n2,by decide,by decide,fun uu=>rfl⟩,rfl⟩
 ·exact ⟨1,⟨_,e,n2,by decide,by decide,fun q=>by omega⟩,rfl⟩
 ·exact ⟨1,⟨_,e,n2,by decide,by decide,fun q=>by omega⟩,rfl⟩
theorem vg(x:In b (n+1) h)(its:cF d h (iN kinds))(kp:KP tn dd (b.T h) kinds Ls)(h0:kinds≠[])(l7:kinds.length≤7)(Q:∀ h' (t:Nat) (Y:List Nat) (f:Nat→LP),ab P (m+4) 273 [.ref b.tab,d] h=some (.int t,h')→In b n h'→Gr b h h'→Wh tn dd (b.T h') t Y f→(∀ p,p∈Y.map f↔p∈Ls)→(∀ v,v∈Y↔v∈kinds)→G):G:=by
 refine nH (P:=P) (m:=m) (n:=n) x its (by omega) (fun v hv=>?_) fun h' t e x' g un=>?_
 ·obtain ⟨p,_,z⟩:=F2.mem kp hv
  obtain ⟨⟨kd,at',w⟩,nn⟩:=z.at x.tok
  exact ⟨kd,at',fun j e=>(by omega),nn⟩
 ·obtain ⟨mi,ne,nd,le⟩:=qY h0
  have kp':=KP.grow kp g.p
  refine Q h' t _ (EF tn dd (b.T h')) e x' g ⟨un,ne,nd,by omega,fun v hv=>?_⟩ (fun p=>⟨fun hp=>?_,fun hp=>?_⟩) mi
  ·obtain ⟨p,_,z⟩:=F2.mem kp' ((mi v).mp hv)
   rw [z.of x'.tok];exact z
  ·obtain ⟨v,hv,rfl⟩:=bR hp
   obtain ⟨p,hp,z⟩:=F2.mem kp' ((mi v).mp hv)
   rw [z.of x'.tok];exact hp
  ·obtain ⟨v,hv,z⟩:=F2.memR kp' hp
   exact List.mem_map.mpr ⟨v,(mi v).mpr hv,z.of x'.tok⟩
open Classical in
noncomputable def I7(T:List D)(v:Nat):Nat:=if h:∃ k,Ky T k v then choose h else 0
theorem Ky.kf(x:Ky T key i):I7 T i=key:=by
 have h:∃ k,Ky T k i:=⟨key,x⟩
 unfold I7
 rw [dif_pos h]
 exact (Classical.choose_spec h).inj x
theorem wv(x:In b (n+1) h)(its:cF d h (iN ids))(hk:F2 (fun i k=>Ky (b.T h) k i) ids ys)(w:∀ a∈ys,a < 7∧∀ e∈ys,(a < 4→e≠5)∧(a=4→e≠6))(h2:ys.length≤2)(Q:∀ h' (j:Nat),ab P (m+4) 273 [.ref b.tab,d] h=some (.int j,h')→In b n h'→Gr b h h'→Un (b.T h') j (cZ (aV ids))→G):G:=by
 have le:=F2.length hk
 refine nH (P:=P) (m:=m) (n:=n) x its (by omega) (fun v hv=>?_) Q
 obtain ⟨k,hkm,ky⟩:=F2.mem hk hv
 obtain ⟨k7,kw⟩:=w k hkm
 obtain ⟨kd,at',wk⟩:=ky.at x.tok k7
 have n1:=ky.ne x.tok (j:=1) (by decide)
 refine ⟨kd,at',fun j e q=>?_,ky.no x.tok (.inr ⟨rfl,k7⟩),n1,ky.ne x.tok (by decide),ky.ne x.tok (by decide),ky.ne x.tok (by decide)⟩
 obtain ⟨k',hk',ky'⟩:=F2.mem hk q
 rw [e] at wk
 by_cases c:k < 4
 ·rw [if_pos c] at wk
  exact (kw k' hk').1 c ((ky'.iff x.tok (j:=5) (by decide) (by decide)).mp (Int.ofNat.inj wk))
 ·rw [if_neg c] at wk
  by_cases c4:k=4
  ·rw [if_pos c4] at wk
   exact (kw k' hk').2 c4 ((ky'.iff x.tok (j:=6) (by decide) (by decide)).mp (Int.ofNat.inj wk))
  ·rw [if_neg c4] at wk
   omega
end
section
variable {l:L}{T:List D}{a e x:X}{u k0:Nat}{both:Bool}{kinds:List Nat}{G:Prop}
theorem xo(r:Rc b u dd tn hb dP dQ ds Ls qs mK kinds h)(x:In b (n+15400) h)(w:Wh tn dd (b.T h) t Y f)(wm:∀ p,p∈Y.map f↔p∈Ls)(w0:ys≠[])(wp:∀ a∈ys,a < 7∧∀ e∈ys,(a < 4→e≠5)∧(a=4→e≠6))(w2:ys.length≤2)(iW:cF w9 h (iN ys))(q0:l 0=some (.ref b.tab))(q1:l 1=some (.ref u))(q5:l 5=some (.int t))(q9:l 9=some w9)(q10:l 10=some (cM (bw (ys.map fun v=>bQ Ls v))))
  (Q:∀ h',xt (ac .NotEq (xf 942 [(xv 1),(xv 5),(xf 273 [(xv 0),(aN 13 (xv 9) none (xf 1137 [(xv 0),(xv 13)]))])]) (xf 1123 [(xv 0),(xv 10)])) (ab P (m+23)) l h=some (false,h')→In b n h'→Gr b h h'→G):G:=by
 refine jg (c:=ab P (m+23)) (l:=l) (x:=xf 1137 [(xv 0),(xv 13)]) (it:=xv 9) (i:=13) (N:=1) (n:=n+15311) (e:=fun v=>.int v) (R:=fun k d T'=>∃ i:Nat,d=.int i∧Ky T' k i) (fun v d T T' p q=>q.imp fun i z=>⟨z.1,z.2.grow p⟩) (v_ q9) iW.items (cn w2 (by decide)) (fun h' g=>iW.still (iW.gr x g)) (x.le (by omega))
  (fun v hv n' h' x' g' G K=>dL (P:=P) (m:=m+20) (n:=n') (key:=v) (Nat.lt_succ_of_lt (wp v hv).1) x' fun h2 i e2 x2 g2 ky=>K _ h2 (az (v_ q0) (v_ rfl) e2) x2 g2 ⟨i,rfl,ky⟩) fun rs h2 cm x2 g2 z2=>?_
 obtain ⟨ids,rfl,zi⟩:=uj (R:=fun i k=>Ky (b.T h2) k i) z2
 have r2:=r.gr x g2
 have T2:b.T (h2++[.lst (iN ids)]:List MO)=b.T h2:=x2.ht.app.eq
 have xA:=x2.app (os:=[.lst (iN ids)])
 have gA:=x2.gapp (os:=[.lst (iN ids)])
 have i0:ids≠[]:=fun e=>w0 (List.length_eq_zero_iff.mp ((F2.length zi).symm.trans (congrArg List.length e)))
 refine wv (P:=P) (m:=m+19) (n:=n+15310) (d:=.ref (h2:List MO).length) xA (.inr ⟨_,rfl,ak⟩) (T2.symm▸zi) wp w2 fun h3 jj e3 x3 g3 un=>?_
 obtain ⟨mi,ne,nd,le⟩:=qY i0
 have r3:=(r2.gr x2 gA).gr xA g3
 have g03:=g2.trans (gA.trans g3)
 have ky:∀ v∈cZ (aV ids),∃ k∈ys,Ky (b.T h3) k v:=fun v hv=>by
  obtain ⟨k,hk,z⟩:=F2.mem zi ((mi v).mp hv)
  exact ⟨k,hk,z.grow (gA.trans g3).p⟩
 refine ER (P:=P) (m:=m) (n:=n+10) (I:=cZ (aV ids)) (kf:=I7 (b.T h3)) r3.en (x3.le (by omega)) (w.grow g03.p) un ne (by rw [F2.length zi] at le;omega) (fun v hv=>by
  obtain ⟨k,_,z⟩:=ky v hv
  exact z.kf.symm▸z) fun h4 d4 e4 x4 g4 z4=>?_
 have em:bw ((cZ (aV ids)).map fun v=>bQ (Y.map f) (I7 (b.T h3) v))=bw (ys.map fun v=>bQ Ls v):=by
  refine hJ fun o=>⟨fun ho=>?_,fun ho=>?_⟩
  ·obtain ⟨v,hv,rfl⟩:=bR ho
   obtain ⟨k,hk,z⟩:=ky v hv
   exact List.mem_map.mpr ⟨k,hk,by rw [z.kf,jS wm]⟩
  ·obtain ⟨k,hk,rfl⟩:=bR ho
   obtain ⟨v,hv,z⟩:=F2.memR zi hk
   exact List.mem_map.mpr ⟨v,(mi v).mpr hv,by rw [(z.grow (gA.trans g3).p).kf,jS wm]⟩
 rw [em] at z4
 have pl:=r.pl.ok
 exact yX (P:=P) (m:=m+18) (l:=l) (os:=[]) x4 z4 (fun S e=>fT (fun S hS=>by
  obtain ⟨v,hv,e⟩:=bR hS
  exact fY pl e) e) q0 (ck (v_ q1) (v_ q5) (az (v_ q0) cm e3) e4) (by rw [List.append_nil];exact v_ q10) fun h' e x' g=>Q h' e x' (g03.trans (g4.trans g))
theorem wT(iK:cF (.ref mK) h (iN kinds))(h9:kinds.length < 90)(q3:l 3=some (.ref mK)):aN 13 (x1 (dC .len [(xv 3)]) dq) none (xi (xv 3) (xb .Sub (xb .Sub (dC .len [(xv 3)]) (ki 1)) (xv 13))) c l h=some (.ref (h:List MO).length,(h++[.lst (iN kinds.reverse)]:List MO)):=by
 have ln0:=kX iK
 rw [List.length_map] at ln0
 have ln:dC .len [(xv 3)] c l h=some (.int (kinds.length:Int),h):=bZ (aQ (v_ q3)) ln0
 have ln2:∀ {y:D},dC .len [(xv 3)] c (upd l 13 y) h=some (.int (kinds.length:Int),h):=fun {y}=>bZ (aQ (v_ q3)) ln0
 have em:((List.range kinds.length).map fun j=>D.int (kinds.getD (kinds.length - 1 - j) 0:Nat))=iN kinds.reverse:=by
  refine List.ext_getElem (by rw [List.length_map,List.length_range,List.length_map,List.length_reverse]) fun j h1 h2=>?_
  rw [List.length_map,List.length_range] at h1
  rw [List.getElem_map,List.getElem_map,List.getElem_range,List.getElem_reverse,List.getD_eq_getElem?_getD,List.getElem?_eq_getElem (by omega)];rfl
 rw [←em]
 refine fu (ys:=List.range kinds.length) (f:=fun (k:Nat)=>.int k) (kQ ln (bP (by omega))) bU (by rw [List.length_range];omega) fun j hj=>?_
 rw [List.mem_range] at hj
 have e:=List.getElem?_eq_getElem (l:=kinds) (i:=kinds.length - 1 - j) (by omega)
 refine ar (v_ q3) (ar (kR (j:=1) (by omega) ln2) (v_ rfl) (show some (D.int (((kinds.length - 1:Nat):Int) - (j:Int)),h)=some (D.int ((kinds.length - 1 - j:Nat):Int),h) by rw [Int.ofNat_sub (show j≤kinds.length - 1 by omega)])) (cB iK ((List.getElem?_map ..).trans ?_))
 rw [List.getD_eq_getElem?_getD,e];rfl
theorem Ak(r:Rc b u dd tn hb dP dQ ds Ls qs mK kinds h)(x:In b (n+7100) h)(zp:xg tn dd (b.T h) ys f)(hl:ys.length≤7)(em:bw (ys.map fun v=>bq (f v) key)=bw (Ls.map fun p=>bq p key))(h8:key < 8)(iB:cF w11 h (iN ys))(q0:l 0=some (.ref b.tab))(q1:l 1=some (.ref u))(q8:l 8=some (.int key))(q11:l 11=some w11)(q10:l 10=some (cM (bw (Ls.map fun p=>bq p key))))
  (Q:∀ h',xt (ac .NotEq (xf 888 [(xv 1),(xv 11),(xf 1137 [(xv 0),(xv 8)]),(xk (.bool true))]) (xf 1123 [(xv 0),(xv 10)])) (ab P (m+20)) l h=some (false,h')→In b n h'→Gr b h h'→G):G:=by
 refine dL (P:=P) (m:=m+17) (n:=n+7099) h8 x fun h1 i e1 x1 g1 ky=>?_
 have r1:=r.gr x g1
 refine ff (P:=P) (m:=m+15) (n:=n+10) (N:=1000) (byo:=true) (ot:=i) (d:=w11) (g:=fun v=>bq (f v) key) r1.en (x1.le (by omega)) (iB.gr x g1) hl (fun v hv n' h' x' g' G K=>pC (P:=P) (m:=m) (n:=n') (r1.en.keep g'.k) x' ((zp v hv).grow (g1.trans g').p) (ky.grow g'.p) K) fun h2 d2 e2 x2 g2 z2=>?_
 rw [em] at z2
 exact yX (P:=P) (m:=m+15) (l:=l) (os:=[]) x2 z2 (fun S e=>fT (fun S hS=>by
  obtain ⟨p,hp,e⟩:=bR hS
  exact dN (r.pl.ok p hp) e) e) q0 (rO (bV (v_ q1) (dW (v_ q11) (az (v_ q0) (v_ q8) e1) k_)) e2) (by rw [List.append_nil];exact v_ q10) fun h' e x' g=>Q h' e x' (g1.trans (g2.trans g))
theorem wu(r:Rc b u dd tn hb dP dQ ds Ls qs mK kinds h)(x:In b (n+1600) h)(zp:xg tn dd (b.T h) ys f)(y0:ys≠[])(hl:ys.length≤7)(zm:∀ p,p∈ys.map f↔p∈Ls)(iB:cF w11 h (iN ys))(q0:l 0=some (.ref b.tab))(q1:l 1=some (.ref u))(q2:l 2=some dP)(q11:l 11=some w11)(he:∀ {h},e (ab P (m+21)) l h=some (.bool both,h))
  (Q:∀ h',ac .Eq (xf 867 [(xv 1),(xv 11),e]) (xf 1142 [(xv 0),(xf 1116 [(xv 2),e])]) (ab P (m+21)) l h=some (.bool true,h')→In b n h'→Gr b h h'→G):G:=by
 refine uI (P:=P) (m:=m) (n:=n+8) (both:=both) (d:=w11) r.en (x.le (by omega)) iB zp y0 hl fun h2 t2 e2 x2 g2 y2=>?_
 have r2:=r.gr x g2
 have em:(bif both then cH true (ys.map fun v=>ex (lk (f v))) else lsum true (iz (ys.map fun v=>ex (lk (f v)))))=ex (shared both Ls):=by
  rw [show (ys.map fun v=>ex (lk (f v)))=(ys.map f).map fun p=>ex (lk p) by rw [List.map_map];rfl]
  cases both with
  | true=>rw [←iG r2.parts.2.2.1];exact l8 (dh zm)
  | false=>
   rw [←qN]
   exact congrArg (lsum true) (Nat.eq_of_testBit_eq fun i=>by rw [gp,gp];exact (jH (dh zm) _).2)
 rw [em] at y2
 refine C7 (P:=P) (m:=m+16) (n:=n) (l:=l) (both:=both) (e:=e) r2 x2 q0 q2 he fun h3 t3 e3 x3 g3 y3=>?_
 cases (y2.grow g3.p).uniq x3.tok y3
 exact Q h3 (aF (ck (v_ q1) (v_ q11) he e2) e3 (gX.trans (by rw [beq_self_eq_true]))) x3 (g2.trans g3)
end
section
variable {l:L}{T:List D}{a e x:X}{u k0:Nat}{both:Bool}{kinds:List Nat}{G:Prop}
noncomputable abbrev K0:XS:=(sq (ay (xt (ac .NotEq (xf 942 [(xv 1),(xv 5),(xf 1137 [(xv 0),(xv 6)])]) (xf 1123 [(xv 0),(xf 1092 [(xv 2),(xv 6)])]))) (sq (af (xk (.bool false))) aa) aa) aa)
theorem sy{m0:L}{chk:H→Bool}(hc:∀ hh,Gr b h1 hh→chk hh=true)(r:Rc b u dd tn hb dP dQ ds Ls qs mK kinds h1)(x1:In b i h1)(w:Wh tn dd (b.T h1) t Y f)(wm:∀ p,p∈Y.map f↔p∈Ls)(h8:∀ v∈ys,v < 8)(m00:m0 0=some (.ref b.tab))(m1:m0 1=some (.ref u))(m2:m0 2=some dP)(m5:m0 5=some (.int t))(m6:m0 6=none)(q:Le m0 l)(x:In b (n+7700 * ys.length) h)(g:Gr b h1 h)
  (Q:∀ l' h',bC chk 6 K0 (ab P (m+21)) (iN ys) l h=some (.next,l',h')→In b n h'→Gr b h1 h'→Le m0 l'→G):G:=by
 induction ys generalizing l h with
 | nil=>exact Q l h (aR (hc _ g)) x g q
 | cons key ys ih=>
  rw [List.length_cons,Nat.mul_succ,←Nat.add_assoc] at x
  have q6:Le m0 (upd l 6 (.int key)):=q.upd m6
  exact BY (P:=P) (m:=m) (n:=n+7700 * ys.length) (l:=upd l 6 (.int key)) (r.gr x1 g) x (w.grow g.p) wm (h8 key aw) (q6 0 _ m00) (q6 1 _ m1) (q6 2 _ m2) (q6 5 _ m5) rfl fun h2 e2 x2 g2=>ih (fun v hv=>h8 v (aE _ hv)) q6 x2 (g.trans g2) fun l' h' e=>Q l' h' (aC (hc _ g) (bI e2 rfl rfl) e)
theorem yd(r:Rc b u dd tn hb dP (.ref mQ) ds Ls (k0::k1::rest) mK kinds h)(x:In b 70000 h)(b0:k0 < 7)(b1:k1 < 7)(h8:∀ v∈rest,v < 8)(l3:rest.length≤1)(Q:∀ h',ab P (m+24) 1164 [.ref b.tab,.ref u,dP,.ref mK,.ref mQ] h=some (.bool true,h')→In b 18000 h'→Gr b h h'→G):G:=by
 refine vg (P:=P) (m:=m+19) (n:=69999) x r.iK r.kp r.n0 r.n7 fun h1 t Y f e1 x1 g1 w wm ym=>?_
 have r1:=r.gr x g1
 have q8:∀ v∈k0::k1::rest,v < 8:=fun v hv=>by
  rcases bo hv with rfl|hv
  ·omega
  ·rcases bo hv with rfl|hv
   ·omega
   ·exact h8 v hv
 have kq:=r.iQ.sub r1.sub
 refine sy (P:=P) (m:=m+2) (n:=46000) (ys:=k0::k1::rest) (chk:=still (.ref mQ) (iN (k0::k1::rest)) (knd (.ref mQ) h1)) (l:=upd (fun j=>[D.ref b.tab,.ref u,dP,.ref mK,.ref mQ][j]?) 5 (.int t)) (m0:=upd (fun j=>[D.ref b.tab,.ref u,dP,.ref mK,.ref mQ][j]?) 5 (.int t)) (fun hh g=>kq.still (r.iQ.sub (r1.gr x1 g).sub)) r1 x1 w wm q8 rfl rfl rfl rfl rfl .refl (x1.le (by rw [List.length_cons,List.length_cons];omega)) .refl fun l' h2 lp x2 g2 qq=>?_
 have r2:=r1.gr x1 g2
 have w2:=w.grow g2.p
 have p0:=qq 0 _ rfl
 have p1:=qq 1 _ rfl
 have p2:=qq 2 _ rfl
 have p3:=qq 3 _ rfl
 have p4:=qq 4 _ rfl
 have p5:=qq 5 _ rfl
 refine wg (P:=P) (m:=m+6) (n:=44900) (l:=l') r2 x2 w2 wm p0 p1 p2 p5 fun h3 c1 x3 g3=>?_
 have r3:=r2.gr x2 g3
 have w3:=w2.grow g3.p
 have k3:=r.iQ.sub r3.sub
 have su:iL [7,8] (am [(xi (xv 4) (ki 0)),(xi (xv 4) (ki 1))]) (ab P (m+23)) l' h3=some (.next,upd (upd l' 7 (.int k0)) 8 (.int k1),h3):=nK (bZ (dJ (ar (v_ p4) k_ (cB (j:=0) k3 rfl)) (ar (v_ p4) k_ (cB (j:=1) k3 rfl))) rfl) rfl
 have km:(h3:List MO)[mQ]?=some (.lst (iN (k0::k1::rest))):=by
  rcases k3 with z|⟨m',z,e⟩
  ·cases z
  ·cases z;exact e
 obtain ⟨os4,m9,e9,g9⟩:=vf (c:=ab P (m+23)) (l:=upd (upd l' 7 (.int k0)) 8 (.int k1)) km p4 rfl rfl
 obtain ⟨w0,wp⟩:=Aw b0 b1
 have wl:=xq (k0:=k0) (k1:=k1)
 have x4:=x3.app (os:=os4)
 have g4:=x3.gapp (os:=os4)
 have r4:=r3.gr x3 g4
 obtain ⟨pi,pl,pn,p9⟩:=r4.parts
 have iW:cF (.ref m9) (h3++os4:List MO) (iN (cX k0 k1)):=.inr ⟨m9,rfl,g9⟩
 obtain ⟨os5,e10⟩:=Ax (P:=P) (m:=m+18) (l:=upd (upd (upd l' 7 (.int k0)) 8 (.int k1)) 9 (.ref m9)) pi pl pn p9 iW (by omega) p2 rfl
 have x5:=x4.app (os:=os5)
 have g5:=x4.gapp (os:=os5)
 have r5:=r4.gr x4 g5
 refine xo (P:=P) (m:=m) (n:=29500) (l:=upd (upd (upd (upd l' 7 (.int k0)) 8 (.int k1)) 9 (.ref m9)) 10 (cM (bw ((cX k0 k1).map fun v=>bQ Ls v)))) r5 x5 (w3.grow (g4.trans g5).p) wm w0 wp wl iW.app p0 p1 p5 rfl rfl fun h6 f1 x6 g6=>?_
 have r6:=r5.gr x5 g6
 have w6:=w3.grow (g4.trans (g5.trans g6)).p
 have n7:=r.n7
 have bc:=wT (c:=ab P (m+23)) (l:=upd (upd (upd (upd l' 7 (.int k0)) 8 (.int k1)) 9 (.ref m9)) 10 (cM (bw ((cX k0 k1).map fun v=>bQ Ls v)))) r6.iK (by omega) p3
 have x7:=x6.app (os:=[.lst (iN kinds.reverse)])
 have g7:=x6.gapp (os:=[.lst (iN kinds.reverse)])
 have r7:=r6.gr x6 g7
 have iB:cF (.ref (h6:List MO).length) (h6++[.lst (iN kinds.reverse)]:List MO) (iN kinds.reverse):=.inr ⟨_,rfl,ak⟩
 obtain ⟨pi,pl,pn,p9⟩:=r7.parts
 have e12:=mO (P:=P) (m:=m+21) (i:=13) (it:=xv 2) (el:=xf 1075 [(xv 13),(xv 8)]) (g:=fun p=>bq p k1) (l:=upd (upd (upd (upd (upd l' 7 (.int k0)) 8 (.int k1)) 9 (.ref m9)) 10 (cM (bw ((cX k0 k1).map fun v=>bQ Ls v)))) 11 (.ref (h6:List MO).length)) pi pl p9 (v_ p2) (fun p hp S e=>(dN (pl.ok p hp) e).lt) fun z p od uu=>az (v_ rfl) (v_ rfl) (j1 (m:=m+20) od)
 have x8:=x7.app (os:=[.lst (Ls.map fun p=>cM (bq p k1))])
 have g8:=x7.gapp (os:=[.lst (Ls.map fun p=>cM (bq p k1))])
 have r8:=r7.gr x7 g8
 have rv:∀ v,v∈kinds.reverse↔v∈Y:=fun v=>List.mem_reverse.trans (ym v).symm
 have zm:∀ p,p∈kinds.reverse.map f↔p∈Ls:=fun p=>(dh rv p).trans (wm p)
 have zp:∀ {T'},b.T h1 <+: T'→xg tn dd T' kinds.reverse f:=fun pp v hv=>(w.2.2.2.2 v ((rv v).mp hv)).grow pp
 have em:bw (kinds.reverse.map fun v=>bq (f v) k1)=bw (Ls.map fun p=>bq p k1):=by
  rw [show (kinds.reverse.map fun v=>bq (f v) k1)=(kinds.reverse.map f).map fun p=>bq p k1 by rw [List.map_map];rfl]
  exact hJ (dh zm)
 have g18:=g2.trans (g3.trans (g4.trans (g5.trans (g6.trans (g7.trans g8)))))
 have lr:kinds.reverse.length≤7:=by rw [List.length_reverse];exact n7
 refine Ak (P:=P) (m:=m+3) (n:=22400) (l:=upd (upd (upd (upd (upd (upd l' 7 (.int k0)) 8 (.int k1)) 9 (.ref m9)) 10 (cM (bw ((cX k0 k1).map fun v=>bQ Ls v)))) 11 (.ref (h6:List MO).length)) 10 (cM (bw (Ls.map fun p=>bq p k1)))) r8 x8 (zp g18.p) lr em (by omega) iB.app p0 p1 rfl rfl rfl fun h9 c9 x9 g9'=>?_
 have r9:=r8.gr x8 g9'
 have w9:=w6.grow (g7.trans (g8.trans g9')).p
 have nmi:ae 12 (xi (xk (.tup [(.str (q "p")),(.str (q "q")),(.str (q "0")),(.str (q "x"))])) (xb .Mod (xv 7) (ki 4))) (ab P (m+23)) (upd (upd (upd (upd (upd (upd l' 7 (.int k0)) 8 (.int k1)) 9 (.ref m9)) 10 (cM (bw ((cX k0 k1).map fun v=>bQ Ls v)))) 11 (.ref (h6:List MO).length)) 10 (cM (bw (Ls.map fun p=>bq p k1)))) h9=some (.next,upd (upd (upd (upd (upd (upd (upd l' 7 (.int k0)) 8 (.int k1)) 9 (.ref m9)) 10 (cM (bw ((cX k0 k1).map fun v=>bQ Ls v)))) 11 (.ref (h6:List MO).length)) 10 (cM (bw (Ls.map fun p=>bq p k1)))) 12 (.str (nm (k0 % 4))),h9):=
  aA (ar k_ (ar (v_ (d:=.int k0) rfl) k_ (o6.trans ((if_pos rfl).trans (congrArg (fun z=>some (D.int z,h9)) (Int.fmod_eq_emod_of_nonneg (b:=4) k0 (by decide)))))) (iE (M:=fun key=>item (.tup [(.str (q "p")),(.str (q "q")),(.str (q "0")),(.str (q "x"))]) (.int (key:Int)) h9=some (.str (nm key),h9)) (Nat.mod_lt k0 (by decide)) rfl rfl rfl rfl))
 refine yJ (P:=P) (m:=m+6) (n:=21300) (l:=upd (upd (upd (upd (upd (upd (upd l' 7 (.int k0)) 8 (.int k1)) 9 (.ref m9)) 10 (cM (bw ((cX k0 k1).map fun v=>bQ Ls v)))) 11 (.ref (h6:List MO).length)) 10 (cM (bw (Ls.map fun p=>bq p k1)))) 12 (.str (nm (k0 % 4)))) (k:=k0 % 4) r9 x9 w9 wm (Nat.mod_lt k0 (by decide)) p0 p1 p2 p5 rfl fun h10 c10 x10 g10=>?_
 have r10:=r9.gr x9 g10
 refine ze (P:=P) (m:=m+1) (n:=19700) (l:=upd (upd (upd (upd (upd (upd (upd l' 7 (.int k0)) 8 (.int k1)) 9 (.ref m9)) 10 (cM (bw ((cX k0 k1).map fun v=>bQ Ls v)))) 11 (.ref (h6:List MO).length)) 10 (cM (bw (Ls.map fun p=>bq p k1)))) 12 (.str (nm (k0 % 4)))) r10 x10 (w9.grow g10.p) wm p0 p1 p2 p5 fun h11 c11 x11 g11=>?_
 have r11:=r10.gr x10 g11
 have iB11:=cF.gr (iB.app (os:=[.lst (Ls.map fun p=>cM (bq p k1))])) x8 (g9'.trans (g10.trans g11))
 exact wu (P:=P) (m:=m+2) (n:=18000) (both:=decide ((k0:Int) > 2)) (l:=upd (upd (upd (upd (upd (upd (upd l' 7 (.int k0)) 8 (.int k1)) 9 (.ref m9)) 10 (cM (bw ((cX k0 k1).map fun v=>bQ Ls v)))) 11 (.ref (h6:List MO).length)) 10 (cM (bw (Ls.map fun p=>bq p k1)))) 12 (.str (nm (k0 % 4)))) (e:=ac .Gt (xv 7) (ki 2)) r11 (x11.le (by decide)) (zp (g18.trans (g9'.trans (g10.trans g11))).p) (fun z=>r.n0 (List.reverse_eq_nil_iff.mp z)) lr zm iB11 p0 p1 p2 rfl (aF (v_ rfl) k_ rfl) fun h12 c12 x12 g12=>Q h12
  (ah (Iw P) rfl (aH (az (v_ rfl) (v_ rfl) e1) (ax (aO (v_ rfl) kq.items (by rw [List.length_map,List.length_cons,List.length_cons];omega) lp) (ai c1 rfl (ax su (aH e9 (aH e10 (ai f1 rfl (aH bc (aH e12 (ai c9 rfl (ax nmi (ai c10 rfl (ai c11 rfl (aj c12))))))))))))))) x12 (g1.trans (g18.trans (g9'.trans (g10.trans (g11.trans g12)))))
end
structure Sf(h:H)(dO dP dR:D)(mQ how alone:Nat)(ns:List Nat)(obs:List Ob)(ds:List D)(od:List Nat)(k0 k1:Nat)(rest:List Nat):Prop where
 h0:∃ L,(h:List MO)[0]?=some (.lst L)
 iO:cF dO h (ns.map .ref)
 ol:OL h ns obs
 iP:cF dP h ds
 pl:PL h ds (lps obs how)
 iQ:(h:List MO)[mQ]?=some (.lst (iN (k0::k1::rest)))
 iR:cF dR h (iN od)
 hw:how < 4
 al:alone < (lps obs how).length
 ll:2≤obs.length∧obs.length≤3
 kk:k0 < 7∧k1 < 7∧(∀ v∈rest,v < 8)∧rest.length≤1
 oo:od.length=13∧∀ j,j∈od↔j < 13
section
variable {l:L}{dR:D}{a e x:X}{u k0 alone:Nat}{kinds:List Nat}{G:Prop}
theorem Sf.sub(s:Sf h dO dP dR mQ how alone ns obs ds od k0 k1 rest)(x:Sub h hh):Sf hh dO dP dR mQ how alone ns obs ds od k0 k1 rest:=
 ⟨s.h0.imp fun L e=>x.2 _ _ e,s.iO.sub x,s.ol.mv x.mv,s.iP.sub x,s.pl.mv x.mv,x.2 _ _ s.iQ,s.iR.sub x,s.hw,s.al,s.ll,s.kk,s.oo⟩
theorem yu(iR:cF dR h (iN od))(oo:od.length=13∧∀ j,j∈od↔j < 13)(q9:l 9=some dR)(q11:l 11=some (.int ((if tn then 1 else 0:Nat):Int)))
  (Q:∀ dR' os od',bz (xt (ac .Eq (xv 11) (ki 0))) (xv 9) (aN 17 (x1 (ki 13) dq) none (xi (xv 9) (xb .Sub (ki 12) (xv 17)))) c l h=some (dR',(h++os:List MO))→cF dR' (h++os:List MO) (iN od')→od'.length=13→(∀ j,j∈od'↔j < 13)→G):G:=by
 obtain ⟨o13,om⟩:=oo
 cases tn with
 | false=>exact Q dR [] od (cU (ao (v_ q11) k_) ((v_ q9).trans (by rw [List.append_nil]))) iR.app o13 om
 | true=>
  have em:((List.range 13).map fun j=>D.int (od.getD (12 - j) 0:Nat))=iN od.reverse:=by
   refine List.ext_getElem (by rw [List.length_map,List.length_range,List.length_map,List.length_reverse,o13]) fun j h1 h2=>?_
   rw [List.length_map,List.length_range] at h1
   rw [List.getElem_map,List.getElem_map,List.getElem_range,List.getElem_reverse,List.getD_eq_getElem?_getD,List.getElem?_eq_getElem (by omega)]
   simp only [o13];rfl
  have cm:=fu (c:=c) (l:=l) (h:=h) (i:=17) (it:=x1 (ki 13) dq) (e:=xi (xv 9) (xb .Sub (ki 12) (xv 17))) (ys:=List.range 13) (f:=fun (k:Nat)=>.int k) (g:=fun j=>D.int (od.getD (12 - j) 0:Nat)) (kQ k_ (bP (n:=13) (by decide))) bU (by decide) fun j hj=>by
   rw [List.mem_range] at hj
   have e:=List.getElem?_eq_getElem (l:=od) (i:=12 - j) (by omega)
   refine ar (v_ q9) (ar k_ (v_ rfl) (show some (D.int ((12:Int) - (j:Int)),h)=some (D.int ((12 - j:Nat):Int),h) by rw [Int.ofNat_sub (show j≤12 by omega)];rfl)) (cB iR ((List.getElem?_map ..).trans ?_))
   rw [List.getD_eq_getElem?_getD,e];rfl
  rw [em] at cm
  exact Q _ _ od.reverse (cq (ao (v_ q11) k_) cm) (.inr ⟨_,rfl,ak⟩) (by rw [List.length_reverse];exact o13) fun j=>List.mem_reverse.trans (om j)
theorem uD(l2:2≤obs.length)(l3:obs.length≤3):(lps obs how).length≤4∧2≤(lps obs how).length:=by
 unfold lps
 split
 ·rw [List.length_append,List.length_map];exact ⟨Nat.succ_le_succ l3,Nat.le_succ_of_le l2⟩
 ·split
  ·exact ⟨f0 rfl,Nat.le_refl 2⟩
  ·split
   ·rw [List.length_append,List.length_map];exact ⟨Nat.succ_le_succ l3,Nat.le_succ_of_le l2⟩
   ·rw [List.length_map];omega
noncomputable abbrev KY:XS:=(sq (iL [12,13] (xf 1154 [(xv 3),(xv 4),(bz (xt (ac .Eq (xv 11) (ki 0))) (xv 9) (aN 17 (x1 (ki 13) dq) none (xi (xv 9) (xb .Sub (ki 12) (xv 17))))),(ac .Eq (xv 11) (ki 1))])) (sq (ae 14 (xf 1159 [(xv 12),(xv 13),(xv 5)])) (sq (ae 15 (xc 1008 [(xv 12)])) (sq (ay (iu (xt (xf 1164 [(xv 12),(xv 15),(xv 6),(xv 14),(xv 7)]))) (sq (af (xk (.bool false))) aa) aa) (sq (ae 16 (xf 942 [(xv 15),(xi (xv 14) (xv 8)),(xf 1137 [(xv 12),(xi (xv 7) (ki 0))])])) (sq (ay (xt (ac .NotEq (xv 16) (xf 1123 [(xv 12),(xf 1092 [(br [(xi (xv 6) (xv 8))]),(xi (xv 7) (ki 0))])]))) (sq (af (xk (.bool false))) aa) aa) aa))))))
theorem ug{m0:L}(s:Sf h dO dP dR mQ how alone ns obs ds od k0 k1 rest)(q3:m0 3=some dO)(q4:m0 4=some (.bool dc))(q5:m0 5=some (.int how))(q6:m0 6=some dP)(q7:m0 7=some (.ref mQ))(q8:m0 8=some (.int alone))(q9:m0 9=some dR)(mn:m0 11=none∧m0 12=none∧m0 13=none∧m0 14=none∧m0 15=none∧m0 16=none)(q:Le m0 l)
  (Q:∀ l' h',KY (ab P (m+24)) (upd l 11 (.int ((if tn then 1 else 0:Nat):Int))) h=some (.next,l',h')→Sub h h'→Le m0 l'→G):G:=by
 obtain ⟨n11,n12,n13,n14,n15,n16⟩:=mn
 have e11:Le m0 (upd l 11 (.int ((if tn then 1 else 0:Nat):Int))):=q.upd n11
 have hp:(h:List MO).length≠0:=s.h0.elim fun L e=>Nat.ne_of_gt (cJ e)
 refine yu (c:=ab P (m+24)) (l:=upd l 11 (.int ((if tn then 1 else 0:Nat):Int))) (tn:=tn) s.iR s.oo (e11 9 _ q9) rfl fun dR' os od' c1 iR' o13 om=>?_
 have sx:Sub h (h++os:List MO):=.app
 have sS:=s.sub sx
 have lx:=sx.1
 refine BP (P:=P) (m:=m+17) (dc:=dc) (tn:=tn) (h:=(h++os:List MO)) (by omega) sS.iO sS.ol iR' (fun j hj=>(om j).mp hj) (Nat.le_of_eq o13) (fun j hj=>(om j).mpr hj) s.ll.1 s.ll.2 fun h2 b mA ks g dd c2 x2 sb2 gr gi hm2 nd2 mem2 pq2 dcl2=>?_
 have gr':=Nat.le_trans lx gr
 have gi':=Nat.le_trans lx gi
 have tnE:ac .Eq (xv 11) (ki 1) (ab P (m+24)) (upd l 11 (.int ((if tn then 1 else 0:Nat):Int))) (h++os:List MO)=some (.bool tn,(h++os:List MO)):=by
  refine (aF (v_ rfl) (k_ (d:=.int 1)) gX).trans ?_
  cases tn<;>rfl
 have e13:Le m0 (upd (upd (upd l 11 (.int ((if tn then 1 else 0:Nat):Int))) 12 (.ref b.tab)) 13 (.ref mA)):=(e11.upd n12).upd n13
 have s1:=nK (is:=[12,13]) (ds:=[.ref b.tab,.ref mA]) (l2:=upd (upd (upd l 11 (.int ((if tn then 1 else 0:Nat):Int))) 12 (.ref b.tab)) 13 (.ref mA)) (rO (bV (w_ e11 q3) (dW (w_ e11 q4) c1 tnE)) c2) rfl
 refine pc (P:=P) (m:=m+21) (n:=96700) (how:=how) (x2.le (by decide)) hm2 nd2 mem2 pq2 s.ll.1 s.ll.2 s.hw fun h3 kinds mK c3 x3 g3 gK kp uu=>?_
 have sb3:Sub h h3:=(sx.trans sb2).keep g3.k gr' gi'
 have e14:Le m0 (upd (upd (upd (upd l 11 (.int ((if tn then 1 else 0:Nat):Int))) 12 (.ref b.tab)) 13 (.ref mA)) 14 (.ref mK)):=e13.upd n14
 refine Cj (P:=P) (n:=m+23) (dd:=dd) (l:=upd (upd (upd (upd l 11 (.int ((if tn then 1 else 0:Nat):Int))) 12 (.ref b.tab)) 13 (.ref mA)) 14 (.ref mK)) (i:=12) x3.ht.pos rfl x3.ht (fun did t0 ed=>by
  obtain ⟨fs,fe,dl,e,Ld,a1,a2,a3,a4,a5,a6,a7,n1,n2,n3⟩:=dcl2 did t0 ed
  exact ⟨fs,fe,dl,e,Ld,g3.k.2 _ _ a1 n1.1 n1.2,a2,g3.k.2 _ _ a3 n2.1 n2.2,a4,g3.k.2 _ _ a5 n3.1 n3.2,a6,a7,n1,n2,n3⟩) fun h4 c4 y4 sb4 en4=>?_
 have x4:In b 96700 h4:=.of y4 x3.tok x3.room
 obtain ⟨k0l,k1l,k8,kr⟩:=s.kk
 obtain ⟨pl4,pl2⟩:=uD (how:=how) s.ll.1 s.ll.2
 have kl:=F2.length kp
 have rc:Rc b (h3:List MO).length dd tn h dP (.ref mQ) ds (lps obs how) (k0::k1::rest) mK kinds h4:=
  ⟨en4,sb3.trans sb4,⟨gr',gi'⟩,s.iP,s.pl,s.h0,.inr ⟨mK,rfl,sb4.2 _ _ gK⟩,y4.eq.symm▸kp,.inr ⟨mQ,rfl,s.iQ⟩,fun e=>(by rw [e] at kl;rw [←kl] at pl2;exact absurd pl2 (by decide)),by omega⟩
 have e15:Le m0 (upd (upd (upd (upd (upd l 11 (.int ((if tn then 1 else 0:Nat):Int))) 12 (.ref b.tab)) 13 (.ref mA)) 14 (.ref mK)) 15 (.ref (h3:List MO).length)):=e14.upd n15
 refine yd (P:=P) (m:=m) rc (x4.le (by decide)) k0l k1l k8 kr fun h5 c5 x5 g5=>?_
 have r5:=rc.gr x4 g5
 refine dL (P:=P) (m:=m+21) (n:=17000) (key:=k0) (by omega) (x5.le (by decide)) fun h6 ik c6 x6 g6 ky=>?_
 have r6:=r5.gr x5 g6
 have la:=List.getElem?_eq_getElem s.al
 generalize (lps obs how)[alone]'s.al=pv at la
 obtain ⟨kv,ka,zd⟩:=F2.get r6.kp la
 obtain ⟨dv,hdv,od7⟩:=F2.get s.pl la
 refine pC (P:=P) (m:=m+5) (n:=15000) r6.en (x6.le (by decide)) zd ky fun h7 d7 c7 x7 g7 z7=>?_
 have r7:=r6.gr x6 g7
 obtain ⟨pi7,_⟩:=r7.parts
 obtain ⟨os8,c8⟩:=oU (P:=P) (m:=m+20) (key:=k0) (d:=.ref (h7:List MO).length) (h:=(h7++[.lst [dv]]:List MO)) (ds:=[dv]) (Ls:=[pv]) (.inr ⟨_,rfl,ak⟩) ⟨od7.mv (r7.sub.mv.trans .app),trivial⟩ (fun z=>nomatch z) (f0 rfl)
 rw [nT zd.ok] at c8
 have k0v:∀ {h:H} {l:L},l 7=some (.ref mQ)→(h:List MO)[mQ]?=some (.lst (iN (k0::k1::rest)))→xi (xv 7) (ki 0) (ab P (m+24)) l h=some (.int k0,h):=fun q i=>ar (v_ q) k_ (aX (t:=0) i rfl)
 have s16:=aA (i:=16) (ck (c:=ab P (m+24)) (l:=upd (upd (upd (upd (upd l 11 (.int ((if tn then 1 else 0:Nat):Int))) 12 (.ref b.tab)) 13 (.ref mA)) 14 (.ref mK)) 15 (.ref (h3:List MO).length)) (v_ (i:=15) rfl) (ar (f:=item) (v_ (i:=14) rfl) (w_ e15 q8) (cB (j:=alone) r5.iK ((List.getElem?_map ..).trans (congrArg _ ka)))) (az (v_ (i:=12) rfl) (k0v (e15 7 _ q7) (r5.sub.2 _ _ s.iQ)) c6) c7)
 have e16:Le m0 (upd (upd (upd (upd (upd (upd l 11 (.int ((if tn then 1 else 0:Nat):Int))) 12 (.ref b.tab)) 13 (.ref mA)) 14 (.ref mK)) 15 (.ref (h3:List MO).length)) 16 d7):=e15.upd n16
 refine nY (P:=P) (m:=m+19) (n:=14990) (oo:=bq pv k0) (h:=(h7++([.lst [dv]]++os8):List MO)) x7.app (fun S e=>dN zd.ok e) fun h9 d9 c9 x9 g9 z9=>?_
 have rd:xf 1092 [(br [(xi (xv 6) (xv 8))]),(xi (xv 7) (ki 0))] (ab P (m+24)) (upd (upd (upd (upd (upd (upd l 11 (.int ((if tn then 1 else 0:Nat):Int))) 12 (.ref b.tab)) 13 (.ref mA)) 14 (.ref mK)) 15 (.ref (h3:List MO).length)) 16 d7) h7=some (cM (bq pv k0),(h7++([.lst [dv]]++os8):List MO)):=by
  rw [←List.append_assoc]
  exact az (bZ (aQ (ar (w_ e16 q6) (w_ e16 q8) (cB pi7 hdv))) rfl) (k0v (e16 7 _ q7) (au (r7.sub.2 _ _ s.iQ))) c8
 have last:=CV (c:=ab P (m+24)) (l:=(upd (upd (upd (upd (upd (upd l 11 (.int ((if tn then 1 else 0:Nat):Int))) 12 (.ref b.tab)) 13 (.ref mA)) 14 (.ref mK)) 15 (.ref (h3:List MO).length)) 16 d7)) x9.tok (v_ (i:=16) rfl) (az (v_ (i:=12) rfl) rd c9) (z7.grow (x7.gapp.trans g9).p) z9
 exact Q _ h9 (bg s1 (bg (aA (ck (v_ rfl) (v_ rfl) (w_ e13 q5) c3)) (bg (aA c4) (bI (ko (av (rO (bV (v_ rfl) (bV (v_ rfl) (dW (w_ e15 q6) (v_ rfl) (w_ e15 q7)))) c5))) rfl (bg s16 (bI last rfl rfl)))))) (r7.sub.keep (x7.gapp.trans g9).k gr' gi') e16
end
section
variable {l:L}{a:Nat}{G:Prop}
theorem BX(z:Dz h dA nA a)(hp:(h:List MO).length≠0)(ha:a < 9000)(q2:l 2=some (.ref dA))
  (Q:∀ h' mQ k0 k1 rest a',(∀ {rest':XS} {d:D} {hh:H},hU rest' (ab P (n+1)) (upd l 7 (.ref mQ)) h' d hh→hU (sq (ae 7 (br [(xf 1019 [(xv 2),(ki 7)]),(xf 1019 [(xv 2),(ki 7)])])) (sq (ay (xt (ac .Eq (xf 1019 [(xv 2),(ki 3)]) (ki 2))) (sq (bn (dB .append (xv 7) [(ki 7)])) aa) aa) rest')) (ab P (n+1)) l h d hh)→
   (h':List MO)[mQ]?=some (.lst (iN (k0::k1::rest)))→(k0 < 7∧k1 < 7∧(∀ v∈rest,v < 8)∧rest.length≤1)→Fz dA h h'→(h:List MO).length≤mQ→Dz h' dA nA a'→a'≤a+3→G):G:=by
 refine z.take (P:=P) (n:=n) (m:=7) (by omega) (by decide) fun hA k0 b0 t0 zA fA=>zA.take (P:=P) (n:=n) (m:=7) (by omega) (by decide) fun hB k1 b1 t1 zB fB=>?_
 have fAB:=fA.trans fB
 have lt:=zB.lt
 have le:=fAB.1
 have s7:=aA (i:=7) (c:=ab P (n+1)) (l:=l) (h:=h) (a:=br [(xf 1019 [(xv 2),(ki 7)]),(xf 1019 [(xv 2),(ki 7)])]) (d:=.ref (hB:List MO).length) (h1:=(hB++[.lst (iN [k0,k1])]:List MO)) (bZ (dJ (az (v_ q2) k_ t0) (az (v_ q2) k_ t1)) rfl)
 refine zB.app (os:=[.lst (iN [k0,k1])]) |>.take (P:=P) (n:=n) (m:=3) (by omega) (by decide) fun hC v bv tv zC fC=>?_
 have tst:=av (aF (c:=ab P (n+1)) (l:=upd l 7 (.ref (hB:List MO).length)) (o:=.Eq) (az (v_ (i:=2) q2) (k_ (d:=.int 3)) tv) (k_ (d:=.int 2)) gX)
 have g4:=fC.2 (hB:List MO).length (.lst (iN [k0,k1])) (by omega) ak
 have f4:=fAB.trans (Fz.app.trans fC)
 cases hv:((v:Int)==2) with
 | false=>
  rw [hv] at tst
  exact Q hC _ k0 k1 [] _ (fun hr=>ax s7 (ai tst rfl hr)) g4 ⟨b0,b1,fun uu q=>(nomatch q),Nat.zero_le 1⟩ f4 le zC (by omega)
 | true=>
  rw [hv] at tst
  have ap:=dz (c:=ab P (n+1)) (l:=upd l 7 (.ref (hB:List MO).length)) (h:=hC) (h2:=hC) (a:=xv 7) (k:=ki 7) (by omega) (v_ rfl) g4 (aQ k_) g4 (f0 rfl)
  exact Q _ _ k0 k1 [7] _ (fun hr=>ax s7 (eX tst rfl (bg (dS ap) rfl) hr)) (co g4) ⟨b0,b1,fun v q=>(cV q▸(by decide)),Nat.le_refl 1⟩ (f4.set (.inl le)) le (zC.set (by omega) (by omega)) (by omega)
theorem Ch{K:List D}{i:Nat}{y:D}(h0:m≠0)(hm:(h:List MO)[m]?=some (.lst K))(hi:i≤K.length)(hl:K.length < 99000):bm .insert (.ref m) [.int i,y] h=some (.none,h.set m (.lst (K.take i++y::K.drop i))):=by
 refine (if_neg fun e=>h0 (eq_of_beq e)).trans ?_
 show onL (h:List MO)[m]? (fun l=>if (0≤(i:Int) && decide ((i:Int)≤l.length) && decide (l.length+1 < 100000))=true then some (D.none,h.set m (.lst (l.take (i:Int).toNat++y::l.drop (i:Int).toNat))) else none)=_
 rw [hm]
 exact if_pos (by rw [decide_eq_true (Int.natCast_nonneg i),decide_eq_true (Int.ofNat_le.mpr hi),decide_eq_true (show K.length+1 < 100000 by omega)];rfl)
theorem yv{m0:L}{chk:H→Bool}(hc:∀ hh,chk hh=true)(z:Dz h1 dA nA a)(ha:a+js.length < 9000)(m2:m0 2=some (.ref dA))(m9:m0 9=some (.ref p))(m10:m0 10=none)(hp:p≠0∧p≠dA∧p≠nA)(le:(h:List MO).length≤p)(fr:Fz dA h h1)(q:Le m0 l)(e:(h1:List MO)[p]?=some (.lst (iN od)))(hl:od.length+js.length≤13)(hj:∀ i j,js[i]?=some j→j=od.length+i)
  (Q:∀ l' h' od' a',bC chk 10 (sq (bn (dB .insert (xv 9) [(xf 1019 [(xv 2),(xb .Add (xv 10) (ki 1))]),(xv 10)])) aa) (ab P (n+1)) (iN js) l h1=some (.next,l',h')→(h':List MO)[p]?=some (.lst (iN od'))→od'.length=od.length+js.length→(∀ x,x∈od'↔x∈od∨x∈js)→Fz dA h h'→Dz h' dA nA a'→Le m0 l'→G):G:=by
 induction js generalizing od l h1 a with
 | nil=>exact Q l h1 od a (aR (hc _)) e rfl (fun x=>(or_iff_left fun w=>nomatch w).symm) fr z q
 | cons j js ih=>
  rw [List.length_cons] at ha hl
  have ej:j=od.length:=hj 0 j rfl
  refine z.take (P:=P) (n:=n) (m:=j+1) (by omega) (Nat.succ_ne_zero j) fun hA v bv tv zA fA=>?_
  have q10:Le m0 (upd l 10 (.int j)):=q.upd m10
  have eA:=fA.2 _ _ hp.2.1 e
  have ins:=Ch (y:=.int j) (i:=v) hp.1 eA (by rw [List.length_map];omega) (by rw [List.length_map];omega)
  rw [show (iN od).take v++D.int j::(iN od).drop v=iN (od.take v++j::od.drop v) by rw [iN,iN,List.map_append,List.map_cons,List.map_take,List.map_drop]] at ins
  have st:sq (bn (dB .insert (xv 9) [(xf 1019 [(xv 2),(xb .Add (xv 10) (ki 1))]),(xv 10)])) aa (ab P (n+1)) (upd l 10 (.int j)) h1=some (.next,upd l 10 (.int j),hA.set p (.lst (iN (od.take v++j::od.drop v)))):=bg (dS (xn (w_ q10 m9) (by rw [di e];rfl) (dJ (az (w_ q10 m2) (ar (v_ rfl) k_ rfl) tv) (v_ rfl)) ins)) rfl
  have lod:(od.take v++j::od.drop v).length=od.length+1:=by rw [List.length_append,List.length_cons,List.length_take,List.length_drop];omega
  refine ih (od:=od.take v++j::od.drop v) (zA.set hp.2.1 hp.2.2) (by omega) ((fr.trans fA).set (.inl le)) q10 (co eA) (by omega) (fun i k ek=>(hj (i+1) k ek).trans (by omega)) fun l' h' od' a' e' g' lo mo f' z' q'=>Q l' h' od' a' (aC (hc _) st e') g' (by rw [lo,lod,List.length_cons];omega) (fun x=>(mo x).trans ?_) f' z' q'
  have key:x∈od.take v∨x∈od.drop v↔x∈od:=by rw [←List.mem_append,List.take_append_drop]
  rw [List.mem_append,List.mem_cons,List.mem_cons,←key]
  constructor
  ·rintro ((a|b|c)|d)
   ·exact .inl (.inl a)
   ·exact .inr (.inl b)
   ·exact .inl (.inr c)
   ·exact .inr (.inr d)
  ·rintro ((a|b)|c|d)
   ·exact .inl (.inl a)
   ·exact .inl (.inr (.inr b))
   ·exact .inl (.inr (.inl c))
   ·exact .inr d
end
section
variable {l:L}{a m3:Nat}{G:Prop}{K:List D}
theorem vr(hm:(h:List MO)[m]?=some (.lst K)):aT (.ref m) .none .none h=some (.ref (h:List MO).length,(h++[.lst K]:List MO)):=by
 unfold aT
 dsimp only
 rw [hm]
 show new (.lst ((K.drop 0).take (K.length - 0))) h=_
 rw [List.drop_zero,Nat.sub_zero,List.take_length];rfl
theorem sX(hm:(h:List MO)[m]?=some (.lst K))(hl:K[K.length - 1]?=some z):item (.ref m) (.int (-1)) h=some (z,h):=by
 have h1:=(cv hl).1
 unfold item
 dsimp only
 rw [hm]
 show Option.map _ ((tP (-1) K.length).bind _)=_
 have e:tP (-1) K.length=some (K.length - 1):=by
  unfold tP
  rw [if_neg (by omega),if_pos (by omega)]
  exact congrArg some (by omega)
 rw [e]
 show Option.map _ K[K.length - 1]?=_
 rw [hl];rfl
theorem OL.pl(x:OL h ns obs):PL h (ns.map .ref) (obs.map .one):=by
 induction ns generalizing obs with
 | nil=>cases obs with
  | nil=>trivial
  | cons=>exact x.elim
 | cons n ns ih=>cases obs with
  | nil=>exact x.elim
  | cons o obs=>exact ⟨⟨n,rfl,x.1.1⟩,ih x.2⟩
theorem sg{o:MO}(e:(h:List MO)[m]?=some (.lst K)):Mv h (h.set m o):=fun n E e' uu=>aY e' fun w=>by cases (w▸e').symm.trans e
theorem wI{m0:L}(z:Dz h dA nA a)(hp:(h:List MO).length≠0)(hm:(h:List MO)[m3]?=some (.lst (ns.map .ref)))(ol:OL h ns obs)(l2:2≤obs.length)(l3:obs.length≤3)(hw:how < 4)(q3:m0 3=some (.ref m3))(q5:m0 5=some (.int how))(q6:m0 6=none)(q:Le m0 l)
  (Q:∀ l' pA ds h',(∀ {rest:XS} {d:D} {hh:H},hU rest (ab P (n+5)) l' h' d hh→hU (sq (ae 6 (x3 (xv 3) (xk .none) (xk .none) aT)) (sq (ay (xt (ac .Eq (xv 5) (ki 1))) (sq (bn (dB .append (xv 6) [(xf 1061 [(xv 3)])])) aa) aa) (sq (ay (xt (ac .Eq (xv 5) (ki 2))) (sq (ae 6 (br [(xf 1061 [(xv 3)]),(xi (xv 3) (bW (ki 1)))])) aa) aa) (sq (ay (xt (ac .Eq (xv 5) (ki 3))) (sq (bn (dB .append (xv 6) [(xk .none)])) aa) aa) rest)))) (ab P (n+5)) l h d hh)→
   Le m0 l'→l' 6=some (.ref pA)→(h':List MO)[pA]?=some (.lst ds)→PL h' ds (lps obs how)→Fz dA h h'→(h:List MO).length≤pA→Dz h' dA nA a→G):G:=by
 have lt:=z.lt
 have ln:=F2.length ol
 have g1:(h++[.lst (ns.map .ref)]:List MO)[(h:List MO).length]?=some (.lst (ns.map .ref)):=ak
 have z1:=z.app (os:=[.lst (ns.map .ref)])
 have ol1:=ol.mv (.app (os:=[.lst (ns.map .ref)]))
 have hm1:=au (os:=[.lst (ns.map .ref)]) hm
 have e6:Le m0 (upd l 6 (.ref (h:List MO).length)):=q.upd q6
 have s6:=aA (i:=6) (c:=ab P (n+5)) (CS (w_ (i:=3) q q3) (k_ (d:=.none)) (k_ (d:=.none)) (vr hm))
 have tE:∀ {l:L} {h:H} {v:Nat},Le m0 l→xt (ac .Eq (xv 5) (ki v)) (ab P (n+5)) l h=some (decide (how=v),h):=fun q=>(ao (w_ q q5) k_).trans (congrArg (fun z=>some (z,_)) cQ)
 obtain ⟨n1,en1,ra⟩:=F2.get ol1 (jT (obs:=obs) (i:=0) (by omega))
 obtain ⟨n2,en2,rb⟩:=F2.get ol1 (jT (obs:=obs) (i:=1) (by omega))
 have er:∃ r,ns=n1::n2::r:=by
  match ns,en1,en2 with
  | a::c::r,e1,e2=>cases e1;cases e2;exact ⟨r,rfl⟩
 obtain ⟨r,er⟩:=er
 obtain ⟨hM,osm,nm',rfl,cm,rm⟩:=qQ (P:=P) (n:=n+1) (d:=.ref m3) (r0:=r.map .ref) (.inr ⟨m3,rfl,hm1.trans (by rw [er];rfl)⟩) ra.1 rb.1 (by rw [List.length_append];exact Nat.succ_ne_zero _)
 have z2:=z1.app (os:=osm)
 have g2:=au (os:=osm) g1
 have odm:OD (h++[.lst (ns.map .ref)]++osm:List MO) (.ref nm') (.met (yC obs 0) (yC obs 1)):=⟨nm',n1,n2,rfl,rm,ra.1.mv .app,rb.1.mv .app⟩
 have mt:∀ {l:L},Le m0 l→xf 1061 [(xv 3)] (ab P (n+5)) l (h++[.lst (ns.map .ref)]:List MO)=some (.ref nm',(h++[.lst (ns.map .ref)]++osm:List MO)):=fun q=>dD (w_ q q3) cm
 have pl1:=OL.pl ol1
 have f1:Fz dA h (h++[.lst (ns.map .ref)]:List MO):=.app
 rcases (by omega:how=0∨how=1∨how=2∨how=3) with rfl|rfl|rfl|rfl
 ·exact Q _ _ _ _ (fun hr=>ax s6 (ai (tE (v:=1) e6) rfl (ai (tE (v:=2) e6) rfl (ai (tE (v:=3) e6) rfl hr)))) e6 rfl g1 pl1 f1 (Nat.le_refl _) z1
 ·have ap:=dz (c:=ab P (n+5)) (l:=upd l 6 (.ref (h:List MO).length)) (a:=xv 6) hp (v_ rfl) g1 (aQ (mt e6)) g2 (by rw [List.length_map];omega)
  exact Q _ _ _ _ (fun hr=>ax s6 (eX (tE (v:=1) e6) rfl (bg (dS ap) rfl) (ai (tE (v:=2) e6) rfl (ai (tE (v:=3) e6) rfl hr)))) e6 rfl (co g2) (F2.snoc ((pl1.mv .app).mv (sg g2)) (odm.mv (sg g2))) ((f1.trans .app).set (.inl (Nat.le_refl _))) (Nat.le_refl _) (z2.set (by omega) (by omega))
 ·obtain ⟨nl,enl,rl⟩:=F2.get ol1 (jT (obs:=obs) (i:=obs.length - 1) (by omega))
  have il:xi (xv 3) (bW (ki 1)) (ab P (n+5)) (upd l 6 (.ref (h:List MO).length)) (h++[.lst (ns.map .ref)]++osm:List MO)=some (.ref nl,(h++[.lst (ns.map .ref)]++osm:List MO)):=ar (w_ e6 q3) (kQ k_ rfl) (sX (au hm1) (by rw [List.length_map,ln,List.getElem?_map,enl];rfl))
  exact Q _ _ _ _ (fun hr=>ax s6 (ai (tE (v:=1) e6) rfl (eX (tE (v:=2) e6) rfl (bg (aA (bZ (dJ (mt e6) il) rfl)) rfl) (ai (tE (v:=3) (e6.upd q6)) rfl hr)))) (e6.upd q6) rfl ak ⟨odm.mv .app,⟨nl,rfl,rl.1.mv (.trans .app .app)⟩,trivial⟩ ((f1.trans .app).trans .app) (by rw [List.append_assoc,List.length_append];omega) z2.app
 ·have ap:=dz (c:=ab P (n+5)) (l:=upd l 6 (.ref (h:List MO).length)) (a:=xv 6) (k:=xk .none) hp (v_ rfl) g1 (aQ k_) g1 (by rw [List.length_map];omega)
  exact Q _ _ _ _ (fun hr=>ax s6 (ai (tE (v:=1) e6) rfl (ai (tE (v:=2) e6) rfl (eX (tE (v:=3) e6) rfl (bg (dS ap) rfl) hr)))) e6 rfl (co g1) (F2.snoc (pl1.mv (sg g1)) (rfl:OD _ _ .str)) (f1.set (.inl (Nat.le_refl _))) (Nat.le_refl _) (z1.set (by omega) (by omega))
end
section
variable {l:L}{a:Nat}{G:Prop}
noncomputable abbrev KK:List Int:=[0,0,0,0,4,4,2,4,0,4,0,0,0,4,0,0,0,0,0,1,0,0,0,1,2,3,4,5,6,7,8,9,10,11,12]
theorem AI{ns:List Int}:aT (.ref 0) .none (.int 48) [.lst (ns.map .int)]=some (.ref 1,[.lst (ns.map .int),.lst ((ns.take 48).map .int)]):=by
 show some (D.ref 1,[MO.lst (ns.map .int),.lst (((ns.map D.int).drop 0).take (min 48 (ns.map D.int).length - 0))])=_
 rw [List.drop_zero,Nat.sub_zero,List.map_take]
 exact congrArg (fun z=>some (D.ref 1,[_,MO.lst z])) List.take_eq_take_min.symm
theorem Bn{ns:List Int}(Q:∀ (hA:H) (nA:Nat) (l':L),(∀ {rest:XS} {d:D} {hh:H},hU rest (ab P n) l' hA d hh→hU (sq (ae 1 (aN 17 (x3 (xv 0) (xk .none) (ki 48) aT) none (xb .Mod (xv 17) (ki 999983)))) (sq (ay (xt (ac .Eq (dC .len [(xv 1)]) (ki 0))) (sq (ae 1 (br [(ki 0),(ki 0),(ki 0),(ki 0),(ki 4),(ki 4),(ki 2),(ki 4),(ki 0),(ki 4),(ki 0),(ki 0),(ki 0),(ki 4),(ki 0),(ki 0),(ki 0),(ki 0),(ki 0),(ki 1),(ki 0),(ki 0),(ki 0),(ki 1),(ki 2),(ki 3),(ki 4),(ki 5),(ki 6),(ki 7),(ki 8),(ki 9),(ki 10),(ki 11),(ki 12)])) aa) aa) rest)) (ab P n) (fun i=>[D.ref 0][i]?) [.lst (ns.map .int)] d hh)→
   l' 1=some (.ref nA)→(∃ L,(hA:List MO)[0]?=some (.lst L))→nA≠0→(∃ N:List Int,(hA:List MO)[nA]?=some (.lst (N.map .int))∧N.length≠0∧N.length < 100)→G):G:=by
 have nl:(ns.take 48).length≤48:=List.length_take_le _ _
 have cm:=fu (c:=ab P n) (l:=fun i=>[D.ref 0][i]?) (h:=[.lst (ns.map .int)]) (i:=17) (it:=x3 (xv 0) (xk .none) (ki 48) aT) (e:=xb .Mod (xv 17) (ki 999983)) (ys:=ns.take 48) (f:=D.int) (g:=fun i=>D.int (Int.fmod i 999983)) (CS (v_ rfl) k_ k_ AI) (aK rfl) (cn nl (by decide)) fun y uu=>ar (v_ rfl) k_ rfl
 have s1:=aA (i:=1) cm
 rw [show ((ns.take 48).map fun i=>D.int (Int.fmod i 999983))=((ns.take 48).map fun i=>Int.fmod i 999983).map D.int by rw [List.map_map];rfl] at s1
 have lN:((ns.take 48).map fun i=>Int.fmod i 999983).length≤48:=by rw [List.length_map];exact nl
 revert s1 lN
 generalize ((ns.take 48).map fun i=>Int.fmod i 999983)=N
 intro s1 lN
 have tst:xt (ac .Eq (dC .len [(xv 1)]) (ki 0)) (ab P n) (upd (fun i=>[D.ref 0][i]?) 1 (.ref 2)) [.lst (ns.map .int),.lst ((ns.take 48).map .int),.lst (N.map .int)]=some (decide (N.length=0),[.lst (ns.map .int),.lst ((ns.take 48).map .int),.lst (N.map .int)]):=(ao (bZ (aQ (v_ rfl)) (dU (n:=2) rfl)) k_).trans (congrArg (fun v=>some (v,_)) (by rw [List.length_map];exact cQ (j:=0)))
 by_cases z:N.length=0
 ·rw [decide_eq_true z] at tst
  exact Q [.lst (ns.map .int),.lst ((ns.take 48).map .int),.lst (N.map .int),.lst (KK.map .int)] 3 _ (fun hr=>ax s1 (eX tst rfl (bg (x:=ae 1 _) (aA rfl) rfl) hr)) rfl ⟨_,rfl⟩ (by decide) ⟨KK,rfl,by decide,by decide⟩
 ·rw [decide_eq_false z] at tst
  exact Q _ 2 _ (fun hr=>ax s1 (ai tst rfl hr)) rfl ⟨_,rfl⟩ (by decide) ⟨N,rfl,z,by omega⟩
end
section
theorem EI{ns:List Int}:∃ h',ab P 30 1169 [.ref 0] [.lst (ns.map .int)]=some (.bool true,h'):=by
 refine Bn (P:=P) (n:=29) (ns:=ns) fun hA nA lA stA qA zA nA0 eN=>?_
 obtain ⟨N,eN,N0,Nl⟩:=eN
 have pA:(hA:List MO).length≠0:=zA.elim fun L e=>Nat.ne_of_gt (cJ e)
 have lnA:=cJ eN
 have z0:Dz (hA++[.lst [.int ((0:Nat):Int),.ref nA]]:List MO) (hA:List MO).length nA 0:=⟨ak,⟨by omega,pA⟩,N,au eN,N0,Nl⟩
 have qB:Le (upd (fun uu=>none) 2 (.ref (hA:List MO).length)) (upd lA 2 (.ref (hA:List MO).length)):=Le.set (m:=fun uu=>none) (l:=lA) fun uu uu1 e=>nomatch (show (none:Option D)=some _ from e)
 have sB:ae 2 (br [(ki 0),(xv 1)]) (ab P 29) lA hA=some (.next,upd lA 2 (.ref (hA:List MO).length),(hA++[.lst [.int ((0:Nat):Int),.ref nA]]:List MO)):=aA (bZ (dJ k_ (v_ qA)) rfl)
 refine z0.objects (P:=P) (n:=27) (l:=upd lA 2 (.ref (hA:List MO).length)) (by decide) (by rw [List.length_append];exact Nat.succ_ne_zero _) rfl fun h1 m3 a1 nsO obs e3 b1 z1 f1 g3 m3d ol l2 l3=>?_
 have q3:=Le.set qB (i:=3) (z:=.ref m3)
 refine z1.take (P:=P) (n:=28) (m:=2) (by omega) (by decide) fun h2 vd uu td z2 f2=>?_
 have s4:=aA (i:=4) (aF (c:=ab P 29) (l:=upd (upd lA 2 (.ref (hA:List MO).length)) 3 (.ref m3)) (o:=.Eq) (az (v_ (i:=2) rfl) (k_ (d:=.int 2)) td) (k_ (d:=.int 1)) gX)
 have q4:=Le.set q3 (i:=4) (z:=.bool ((vd:Int)==1))
 refine z2.take (P:=P) (n:=28) (m:=4) (by omega) (by decide) fun h3 how hw th z3 f3=>?_
 have s5:=aA (i:=5) (az (c:=ab P 29) (l:=upd (upd (upd lA 2 (.ref (hA:List MO).length)) 3 (.ref m3)) 4 (.bool ((vd:Int)==1))) (v_ (i:=2) rfl) (k_ (d:=.int 4)) th)
 have q5:=Le.set q4 (i:=5) (z:=.int how)
 have f23:=f2.trans f3
 have p1:=f1.pos (by rw [List.length_append];exact Nat.succ_ne_zero _)
 refine wI (P:=P) (n:=24) z3 (f23.pos p1) (f23.2 _ _ m3d g3) (ol.mv (z1.mv f23)) l2 l3 hw rfl rfl rfl q5 fun l6 pP ds h4 st6 q6 e6 g6 pl6 f6 pP0 z6=>?_
 have d3:=z3.lt
 have p4:=f6.pos (f23.pos p1)
 refine BX (P:=P) (n:=28) (l:=l6) z6 p4 (by omega) (q6 2 _ rfl) fun h5 mQ k0 k1 rest a5 st7 g7 kk f7 mQ0 z7 b7=>?_
 have d4:=z6.lt
 have q7:=Le.set (Le.refl (l:=l6)) (i:=7) (z:=.ref mQ)
 have g65:=f7.2 _ _ (by omega) g6
 have dl:=F2.length pl6
 obtain ⟨pl4,pl2⟩:=uD (how:=how) l2 l3
 refine z7.take (P:=P) (n:=28) (m:=ds.length) (by omega) (by omega) fun h6 alone al ta z8 f8=>?_
 have q7':Le (upd (upd (upd (upd (upd (upd (fun uu=>none) 2 (.ref (hA:List MO).length)) 3 (.ref m3)) 4 (.bool ((vd:Int)==1))) 5 (.int how)) 6 (.ref pP)) 7 (.ref mQ)) (upd l6 7 (.ref mQ)):=Le.set fun j d e=>by
  by_cases z:j=6
  ·rw [z] at e ⊢;cases e;exact e6
  ·exact q6 j d ((if_neg z).symm.trans e)
 have s8:=aA (i:=8) (az (c:=ab P 29) (l:=upd l6 7 (.ref mQ)) (w_ (i:=2) q7' rfl) (bZ (f:=fun uu=>bi .len) (aQ (w_ (i:=6) q7' rfl)) (dU g65)) ta)
 have q8:=Le.set q7' (i:=8) (z:=.int alone)
 have p6:=f8.pos (f7.pos p4)
 have d8:=z8.lt
 have q9:=Le.set q8 (i:=9) (z:=.ref (h6:List MO).length)
 refine yv (P:=P) (n:=28) (h:=h6) (h1:=(h6++[.lst []]:List MO)) (p:=(h6:List MO).length) (od:=[]) (js:=List.range 13) (chk:=still (.rng 0 ((13:Nat):Int)) ((List.range 13).map fun (k:Nat)=>.int k) 0) (l:=upd (upd (upd l6 7 (.ref mQ)) 8 (.int alone)) 9 (.ref (h6:List MO).length)) (fun uu=>bD) z8.app (by rw [List.length_range];omega) rfl rfl rfl ⟨p6,by omega,by omega⟩ (Nat.le_refl _) .app q9 ak (by decide) (fun i j e=>by
  obtain ⟨hi,e⟩:=cv e
  rw [←e,List.getElem_range];exact (Nat.zero_add i).symm) fun l9 h7 od a9 lp g9 lo mo f9 z9 q9=>?_
 have f57:=f8.trans f9
 have f47:=f7.trans f57
 have f37:=f6.trans f47
 have f17:=f23.trans f37
 have sf:Sf h7 (.ref m3) (.ref pP) (.ref (h6:List MO).length) mQ how alone nsO obs ds od k0 k1 rest:=
  ⟨zA.imp fun L e=>(f1.trans f17).2 0 _ (Ne.symm pA) (au e),.inr ⟨m3,rfl,f17.2 _ _ m3d g3⟩,ol.mv (z1.mv f17),.inr ⟨pP,rfl,f57.2 _ _ (by omega) g65⟩,pl6.mv (z6.mv f47),f57.2 _ _ (by omega) g7,.inr ⟨_,rfl,g9⟩,hw,dl▸al,⟨l2,l3⟩,kk,lo.trans (by rw [List.length_range];rfl),fun j=>(mo j).trans ((or_iff_right fun w=>nomatch w).trans List.mem_range)⟩
 refine ug (P:=P) (m:=5) (tn:=false) sf rfl rfl rfl rfl rfl rfl rfl ⟨rfl,rfl,rfl,rfl,rfl,rfl⟩ q9 fun l10 h8 c1 sb1 q10=>?_
 refine ug (P:=P) (m:=5) (tn:=true) (sf.sub sb1) rfl rfl rfl rfl rfl rfl rfl ⟨rfl,rfl,rfl,rfl,rfl,rfl⟩ q10 fun l11 h9 c2 uu uu1=>?_
 exact ⟨h9,ah (n:=29) (Iv P) rfl (stA (ax (x:=ae 2 (br [(ki 0),(xv 1)])) sB (ax (aA (i:=3) e3) (ax s4 (ax s5 (st6 (st7 (ax s8 (ax (x:=ae 9 (br [])) (aA rfl) (ax (aO (kQ k_ (bP (n:=13) (by decide))) bU (by decide) lp) (ax (aO (kQ k_ (bP (n:=2) (by decide))) bU (by decide) (aC bD c1 (aC bD c2 (aR bD)))) (aj k_))))))))))))⟩
end
theorem Gj:vb:=fun P ns hn=>EI
end Mine.Internal
open Mine.Internal in
theorem PySem.Challenge.cw_xm0540_01_holds : PySem.Challenge.rw_xm0540_01.Holds :=
  Hd.GK fun w s ns vals l B hg hn hl hm hI=>I9 Gj w s ns vals l ⟨B.K,B.b,B.nolimit,B.nodigits⟩ hg hn hl hm hI
