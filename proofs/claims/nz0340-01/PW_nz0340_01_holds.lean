import PyProof.Rows.All
import Wide.All
import OpenK.AllK
import Wide.FinOn
import PySem.Challenge.RW_nz0340_01
set_option tactic.hygienic false
set_option linter.all false
set_option Elab.async false
set_option genSizeOf false
set_option genInjectivity false
set_option genCtorIdx false
open Option.some renaming inj→ì
open Bool renaming casesOn→ñ
open Option renaming casesOn→ş
open List renaming casesOn→Ū
open Nat renaming casesOn→mM
open PySem renaming Str→Õ
open Bool renaming and_eq_true_iff→Kk,or_eq_false_iff→w4,or_eq_true_iff→lU,eq_iff_iff→oS,and_eq_true→ar,not_eq_true→w3,false_eq_true→Bh,true_and→sI,false_or→jJ,true_or→oK,false_ne_true→jH,eq_false_iff→oJ,false_and→wX
open Int renaming ofNat→vi,ofNat_le→vh,le_trans→oV,le_of_lt→jM,not_lt→bO,ofNat_lt→bw,lt_of_lt_of_le→wZ,natCast_nonneg→lS,ofNat_nonneg→jG
open Nat renaming ble→aj,zero_add→ki,le_of_ble_eq_true→jc,le_antisymm→cQ,le_refl→Ų,le_trans→ă,add_le_add_left→Kj,le_of_eq→Ņ,beq→Þ,beq_refl→jN,blt→Đ,eq_of_beq_eq_true→Ģ,ble_eq_true_of_le→w5,blt_eq→bQ,lt_irrefl→sL,lt_of_lt_of_le→ik,succ_pos→Ĭ,le_of_lt→aV,lt_of_succ_lt_succ→Bj,lt_of_le_of_lt→Ń,le_add_right→ź,lt_trans→oO,ne_of_lt→eV,succ_add_eq_add_succ→wY,le_add_left→î,not_lt_of_le→Ŧ
open List renaming replicate→Ħ,append_nil→Ŵ,append_assoc→ĝ,mem_singleton→ė,mem_cons→Ą,range→bP,length_cons→Ă,all_cons→gH,mem_map→dT,drop_eq_getElem_cons→Hw,length→oQ,length_take→oP,length_drop→sJ,mem_cons_self→ŭ,mem_cons_of_mem→ŧ,any_cons→ij,length_map→Ė,size_toArray→Ź,idxOf?_eq_none_iff→Bi,nodup_cons→eW,nodup_nil→lT,lookup_cons→oN,not_mem_nil→jL,length_append→ċ,all_eq_true→gG,map_cons→Ō,getElem?_toArray→sH,reverse_cons→aq,length_reverse→oH,take_of_length_le→sG,dropWhile→cC,dropWhile_suffix→Bg,forall_mem_cons→gF,contains_cons→sF,length_nil→cB,map_nil→fK,map_append→dS,filter_cons_of_pos→sD,filter_cons_of_neg→sC,length_singleton→sA,mem_append→sz,nil_append→jF,reverse_nil→oE
open PySem.Heap renaming lt_size→eX,get?_push_of_some→ō,get?_push_size→fM
open Option renaming isNone_iff_eq_none→oU,isSome_iff_exists→Hv,map_some→bN,bind_some→bu
open PySem PySem.W PyProof.Rows
noncomputable section
namespace Internal
structure A3(a b c:Prop):Prop where mk::(l:a) (m:b) (r:c)
structure A4(a b c d:Prop):Prop where mk::(l:a) (m:b) (n:c) (r:d)
structure A5(a b c d e:Prop):Prop where mk::(l:a) (m:b) (n:c) (o:d) (r:e)
structure A6(a b c d e f:Prop):Prop where mk::(l:a) (m:b) (n:c) (o:d) (p:e) (r:f)
inductive T2{α:Sort _}{β:Sort _}(p:α→β→Prop):Prop|mk (a:α) (b:β) (h:p a b)
inductive T3{α:Sort _}{β:Sort _}{γ:Sort _}(p:α→β→γ→Prop):Prop|mk (a:α) (b:β) (c:γ) (h:p a b c)
inductive T4{α:Sort _}{β:Sort _}{γ:Sort _}{δ:Sort _}(p:α→β→γ→δ→Prop):Prop|mk (a:α) (b:β) (c:γ) (d:δ) (h:p a b c d)
inductive T5{α:Sort _}{β:Sort _}{γ:Sort _}{δ:Sort _}{ε:Sort _}(p:α→β→γ→δ→ε→Prop):Prop|mk (a:α) (b:β) (c:γ) (d:δ) (e:ε) (h:p a b c d e)
inductive T6{α:Sort _}{β:Sort _}{γ:Sort _}{δ:Sort _}{ε:Sort _}{ζ:Sort _}(p:α→β→γ→δ→ε→ζ→Prop):Prop|mk (a:α) (b:β) (c:γ) (d:δ) (e:ε) (f:ζ) (h:p a b c d e f)
end Internal
namespace Internal.H
section
set_option maxRecDepth 100000
set_option maxHeartbeats 0
abbrev pw:Program:=PySem.Challenge.pw_nz0340_01
noncomputable def ct(i:Nat):Stmt:=(pw.main.body.drop i).headD default
noncomputable def xB:Stmt→List Stmt
 |.ClassDef _ _ _ b .. =>b
 |_=>[]
noncomputable def fdOf(st:Stmt)(q:Õ):FuncData:=match st with
 |.FunctionDef n a b _ _ _ sc _ _ _=>{name:=n,qualname:=q,params:=a,body:=.stmts b,scope:=sc,globals:=0,closure:=[],defaults:=.none,kwdefaults:=.none}
 |_=>default
def df(i:Nat)(q:Õ):FuncData:=fdOf (ct i) q
def dm(i j:Nat)(q:Õ):FuncData:=fdOf (((xB (ct i)).drop j).headD default) q
noncomputable def oT(l:List Value):Obj:=⟨.type "tuple",none,.seq ⟨l⟩ 0,#[]⟩
noncomputable def oR(l:List Value):Obj:=⟨.none,none,.fields ⟨l⟩,#[]⟩
noncomputable def oC(l:List Value):Obj:=⟨.type "code",none,.fields ⟨l⟩,#[]⟩
noncomputable def oF(f:FuncData):Obj:=⟨.none,none,.func f,#[]⟩
noncomputable def oG(f:FuncData)(d pm:Value)(c:Addr):Obj:=⟨.type "function",none,.func {f with globals:=3,defaults:=d,pyModule:=pm,code:=.ref c},#[]⟩
noncomputable def en(P:Params)(x:Õ)(t:Nat)(v:Value):DictEntry:=⟨PyData.keyHash P x,.str x t,v⟩
noncomputable def bg:List Obj→Nat→BT→BT
 |[],_,t=>t
 |o::r,n,t=>bg r (n+1) (t.ins n o)
noncomputable def bq:List (Nat×Obj)→BT→BT
 |[],t=>t
 |p::r,t=>bq r (t.set p.1 fun À=>p.2)
noncomputable def HJ:Stmt→Nat
 |.FunctionDef _ _ _ _ _ _ _ _ _ p=>p.line
 |_=>0
noncomputable def jQ:Stmt→Õ
 |.FunctionDef n .. =>n
 |_=>""
noncomputable def N8:List Õ→Nat→List Value
 |[],_=>[]
 |n::r,t=>.str n t::N8 r (t+1)
noncomputable def D6(n:Nat):Value:=.int n 0
noncomputable def Oa(t:Nat):Value:=.str "/claim/cut.py" t
def Oc(n q:Õ)(l k g a t:Nat)(b:Bool)(x y z:Value)(u:Nat):Obj:=oC [.str n t,.str q (t+1),Oa (t+2),D6 l,D6 k,D6 0,D6 0,D6 g,.ref a,.bool b,D6 181,.ref (a+1),.none,x,y,z,D6 u,D6 l,Oa (u+1)]
def Ob(f:FuncData)(l a t:Nat)(x y z:Value)(u:Nat):Obj:=Oc f.name f.qualname l f.params.args.length 3 a t true x y z u
def Wx(f:FuncData)(l:Nat)(d pm:Value)(a t:Nat):Nat→List Obj
 |0=>[oT [],oR [],oF f,Ob f l a t .none .none (.ref (a+2)) (t+3),oG f d pm (a+3)]
 |n+1=>[oT [],oR [],oT (N8 ((localNames f.params f.scope f.body).getD ([],[])).1 (t+3)),oT [],oF f,Ob f l a t (.ref (a+2)) (.ref (a+3)) (.ref (a+4)) (t+3+n),oG f d pm (a+5)]
noncomputable def dy(g:Nat→Stmt)(c:Õ)(pm:Value):List Nat→Nat→Nat→Nat→List Obj
 |[],_,_,_=>[]
 |s::r,i,a,t=>Wx (fdOf (g i) (c++jQ (g i))) (HJ (g i)) .none pm a t s++dy g c pm r (i+1) (a+match s with|0=>5|_=>7) (t+6+(s - 1))
def iw(i j:Nat):Stmt:=((xB (ct i)).drop j).headD default
def HN(g:Stmt)(c:Õ)(pm d:Value)(s a t:Nat):List Obj:=Wx (fdOf g (c++jQ g)) (HJ g) d pm a t s
noncomputable def BY(c:Nat):List (Nat×Nat)→List Value
 |[]=>[]
 |p::r=>D6 p.1::D6 c::.ref p.2::BY c r
noncomputable def zx:Obj:=⟨.type "builtin_function_or_method",none,.fields ⟨[.builtin "type.__prepare__",.type "type"]⟩,#[]⟩
noncomputable def zy(a:Nat):Obj:=⟨.type "builtin_function_or_method",none,.fields ⟨[.builtin "object.__init_subclass__",.ref a]⟩,#[]⟩
noncomputable def zw(a:Nat):Obj:=⟨.type "super",none,.fields ⟨[.ref a,.ref a,.ref a]⟩,#[]⟩
noncomputable def zA(c d:Nat)(m:Value):Obj:=⟨.type "frame",none,.plain,⟨[some (.ref c),some (.ref 3),some (.ref d),none,some m,none,some (.ref 0)]⟩⟩
def zB(n:Õ)(l a t:Nat):Obj:=Oc n n l 0 0 a t false .none .none .none (t+3)
noncomputable def kK(l:List DictEntry)(n:Nat):Obj:=⟨.type "dict",none,.dict ⟨l⟩ n,⟨[]⟩⟩
noncomputable def Gd(a t:Nat):Obj:=⟨.type "getset_descriptor",none,.fields ⟨[.str "__weakref__" t,.ref a,.builtin "ExceptionGroup.__weakref__",.none]⟩,#[]⟩
noncomputable def HM(a t:Nat):Obj:=⟨.type "getset_descriptor",none,.fields ⟨[.str "__dict__" t,.ref a,.builtin "function.__dict__",.builtin "function.__dict__#set"]⟩,#[]⟩
noncomputable def HL(n:Õ)(bs mro:List Value)(d:Nat)(sub:List Value)(s0:Option Value)(t u:Nat)(nw:String):Obj:=⟨.type "type",none,.cls ⟨n,bs,mro,d,n,true,[],sub,false,none,false⟩,⟨[s0,none,some (.str n t),some (.str n u),some (.builtin nw),some (.bool true)]⟩⟩
def HK(n:Õ)(a t:Nat):Obj:=HL n [.type "object"] [.ref a,.type "object"] (a - 1) [] none t (t+8) "object.__new__"
noncomputable def VX:Value:=.str "__main__" 164
noncomputable def wN:Value:=.str "postkeep.errors" 194
noncomputable def zu:Value:=.str "postkeep.boxes" 284
noncomputable def A_:Value:=.str "postkeep.octets" 366
noncomputable def DZ:Value:=.str "postkeep.charsets" 518
noncomputable def Ft:Value:=.str "postkeep.tokens" 613
noncomputable def eU:Value:=.str "postkeep.dates" 721
noncomputable def qi:Value:=.str "postkeep.headers" 1007
noncomputable def Zs:Value:=.str "postkeep.base64" 1139
noncomputable def uV:Value:=.str "postkeep.params" 1169
noncomputable def M8:Value:=.str "postkeep.quoted" 1395
noncomputable def gQ:Value:=.str "postkeep.parts" 1460
noncomputable def Ba:Value:=.str "postkeep.query" 1604
noncomputable def J3:Value:=.str "postkeep.sets" 1640
noncomputable def J2:Value:=.str "postkeep.words" 1663
noncomputable def ah:Value:=.str "postkeep.search" 1755
noncomputable def gv:Value:=.str "law_nz0340_01" 1961
def MV:List Obj:=[oT [],oR [],oC [.str "<module>" 182,.str "<module>" 183,.str "/claim/cut.py" 184,.int 1 0,.int 0 0,.int 0 0,.int 0 0,.int 0 0,.ref 11,.bool false,.int 181 0,.ref 12,.none,.none,.none,.none,.int 185 0,.int 1 0,.str "/claim/cut.py" 186],⟨.type "frame",none,.plain,⟨[some (.ref 13),some (.ref 3),some (.ref 3),none,some VX,none,some (.ref 0)]⟩⟩]
def bU(P:Params):List DictEntry:=[en P "__name__" 165 gv,en P "__doc__" 166 .none,en P "__package__" 167 .none,en P "__loader__" 168 (.builtin "__main__.__loader__#opaque"),en P "__spec__" 169 .none,en P "__annotations__" 170 (.ref 6),en P "__builtins__" 171 (.ref 4),en P "__file__" 173 (.str "/claim/cut.py" 172),en P "__cached__" 174 .none,en P "_wall" 193 (.ref 21),en P "PostError" 235 (.ref 46),en P "WordFault" 251 (.ref 59),en P "MimeFault" 267 (.ref 71),en P "StoreFault" 283 (.ref 83),en P "SYSTEM" 287 (.str "\\Seen \\Answered \\Flagged \\Deleted \\Draft" 286),en P "NO_KEYWORD" 289 (.str "(){ %*\"\\]" 288),en P "MOST_KEYWORD" 291 (.int 60 290),en P "system_flags" 297 (.ref 92),en P "is_keyword" 305 (.ref 99),en P "flag_name" 313 (.ref 106),en P "Letter" 365 (.ref 137),en P "RETURN_octets" 369 (.int 13 368),en P "MOST_FIGURES" 371 (.int 20 370),en P "Cursor" 481 (.ref 223),en P "lower_code" 488 (.ref 234),en P "lower" 494 (.ref 239),en P "lower_text" 500 (.ref 244),en P "line_spans" 517 (.ref 252),en P "ASCII" 521 (.str "us-ascii" 520),en P "LATIN" 523 (.str "iso-8859-1" 522),en P "UTF8" 525 (.str "utf-8" 524),en P "CHARSETS" 526 (.ref 253),en P "UNKNOWN_SIGN" 529 (.str "�" 528),en P "charset_names" 537 (.ref 260),en P "charset_name" 544 (.ref 267),en P "need_charset" 551 (.ref 274),en P "follower_span" 558 (.ref 281),en P "utf8_sign" 572 (.ref 288),en P "sign_at" 581 (.ref 295),en P "text_in" 593 (.ref 302),en P "strict_text" 605 (.ref 309),en P "guessed_text" 612 (.ref 316),en P "MOST_DEPTH_tokens" 616 (.int 20 615),en P "SIGNS_tokens" 618 (.bytes ⟨[60,62,64,44,59,58,46,92]⟩ 617),en P "ATOM_SIGNS" 620 (.bytes ⟨[33,35,36,37,38,39,42,43,45,47,61,63,94,95,96,123,124,125,126]⟩ 619),en P "NEVER_ESCAPED" 624 (.ref 317),en P "is_atom_code" 631 (.ref 324),en P "line_end" 639 (.ref 331),en P "inside_at" 649 (.ref 338),en P "closed_at" 662 (.ref 345),en P "comment_at" 675 (.ref 352),en P "atom_at" 684 (.ref 359),en P "token_at" 695 (.ref 366),en P "past_white" 704 (.ref 373),en P "tokens_of" 714 (.ref 380),en P "without_comments" 720 (.ref 385),en P "MONTHS" 735 (.ref 386),en P "DAYS" 743 (.ref 387),en P "MOST_YEAR" 745 (.int 9999 744),en P "DAY_SECONDS" 747 (.int 86400 746),en P "FIRST_DAY" 749 (.int 719162 748),en P "Moment" 797 (.ref 411),en P "is_leap" 804 (.ref 422),en P "month_length" 812 (.ref 429),en P "days_before_year" 820 (.ref 436),en P "day_told" 831 (.ref 443),en P "is_day" 840 (.ref 450),en P "is_time" 849 (.ref 457),en P "day_of" 858 (.ref 465),en P "month_number" 864 (.ref 470),en P "is_day_name" 870 (.ref 475),en P "is_figures" 876 (.ref 480),en P "zone_in" 884 (.ref 487),en P "named_zone" 890 (.ref 492),en P "DateReader" 961 (.ref 542),en P "full_year" 969 (.ref 553),en P "read_clock" 979 (.ref 560),en P "read_zone" 988 (.ref 567),en P "read_date" 1006 (.ref 574),en P "WHITE_headers" 1011 (.ref 575),en P "Field" 1055 (.ref 604),en P "line_at" 1065 (.ref 615),en P "is_name" 1073 (.ref 622),en P "colon_in" 1083 (.ref 629),en P "read_spans" 1101 (.ref 637),en P "read_fields" 1110 (.ref 643),en P "rows_of" 1121 (.ref 650),en P "unfolded" 1128 (.ref 657),en P "first_body" 1138 (.ref 664),en P "SIGNS_base64" 1142 (.bytes ⟨[65,66,67,68,69,70,71,72,73,74,75,76,77,78,79,80,81,82,83,84,85,86,87,88,89,90,97,98,99,100,101,102,103,104,105,106,107,108,109,110,111,112,113,114,115,116,117,118,119,120,121,122,48,49,50,51,52,53,54,55,56,57,43,47]⟩ 1141),en P "PAD" 1144 (.int 61 1143),en P "worth_table" 1150 (.ref 669),en P "group_octets" 1156 (.ref 674),en P "decoded" 1168 (.ref 681),en P "WHITE_params" 1175 (.ref 682),en P "SEMICOLON" 1177 (.int 59 1176),en P "EQUALS_params" 1179 (.int 61 1178),en P "QUOTE" 1181 (.int 34 1180),en P "BRACKET" 1183 (.int 40 1182),en P "PER_CENT" 1185 (.int 37 1184),en P "BARRED" 1187 (.bytes ⟨[40,41,60,62,64,44,59,58,92,34,47,91,93,63,61]⟩ 1186),en P "HEX_FIGURES" 1189 (.bytes ⟨[48,49,50,51,52,53,54,55,56,57,65,66,67,68,69,70]⟩ 1188),en P "Kind" 1249 (.ref 725),en P "plain_kind" 1255 (.ref 736),en P "is_token_code" 1262 (.ref 743),en P "skip_between" 1269 (.ref 750),en P "take_token" 1277 (.ref 757),en P "is_worth_code" 1284 (.ref 764),en P "take_worth" 1293 (.ref 771),en P "small_word" 1299 (.ref 776),en P "take_pairs" 1308 (.ref 783),en P "part_number" 1317 (.ref 790),en P "part_of" 1327 (.ref 797),en P "hex_worth" 1333 (.ref 849),en P "hex_worth_params" 1334 (.ref 802),en P "percent_decoded" 1344 (.ref 809),en P "charset_cut" 1350 (.ref 814),en P "joined_worth" 1362 (.ref 821),en P "params_of" 1377 (.ref 828),en P "strict_kind" 1387 (.ref 835),en P "read_kind" 1394 (.ref 842),en P "EQUALS_quoted" 1398 (.int 61 1397),en P "BLANK" 1400 (.int 32 1399),en P "RETURN_quoted" 1402 (.int 13 1401),en P "UNDERLINE" 1404 (.int 95 1403),en P "hex_worth_quoted" 1412 (.ref 849),en P "quoted_at" 1422 (.ref 856),en P "line_parts" 1432 (.ref 863),en P "unquoted" 1442 (.ref 870),en P "quoted_decoded" 1453 (.ref 877),en P "word_q_decoded" 1459 (.ref 882),en P "MOST_DEPTH_parts" 1463 (.int 20 1462),en P "PLAIN_ENCODING" 1465 (.str "7bit" 1464),en P "OPEN_ENCODINGS" 1469 (.ref 883),en P "WORD_ENDS" 1471 (.bytes ⟨[32,9,40,59]⟩ 1470),en P "BLANKS" 1473 (.bytes ⟨[32,9]⟩ 1472),en P "Part" 1519 (.ref 905),en P "encoding_of" 1525 (.ref 914),en P "boundary_way" 1535 (.ref 921),en P "part_spans" 1552 (.ref 928),en P "kid_spans" 1558 (.ref 933),en P "has_inner" 1565 (.ref 940),en P "read_part" 1571 (.ref 945),en P "read_message" 1578 (.ref 952),en P "undone" 1586 (.ref 959),en P "body_octets" 1594 (.ref 966),en P "body_text" 1603 (.ref 973),en P "row_of" 1613 (.ref 980),en P "leaves_of" 1623 (.ref 987),en P "needs_part" 1629 (.ref 992),en P "decide" 1639 (.ref 999),en P "ends_of" 1651 (.ref 1006),en P "has" 1662 (.ref 1013),en P "WHITE_words" 1669 (.ref 1014),en P "OPENING" 1671 (.int 40 1670),en P "CLOSING" 1673 (.int 41 1672),en P "WAYS" 1676 (.ref 1015),en P "is_word_sign" 1683 (.ref 1022),en P "part_end" 1692 (.ref 1029),en P "word_parts" 1698 (.ref 1034),en P "is_apart" 1707 (.ref 1041),en P "plain_text" 1713 (.ref 1046),en P "word_at" 1725 (.ref 1053),en P "pieces_of" 1736 (.ref 1060),en P "all_white" 1742 (.ref 1065),en P "decoded_words" 1754 (.ref 1072),en P "MOST_DEPTH_search" 1758 (.int 20 1757),en P "Seen" 1791 (.ref 1089),en P "is_within" 1799 (.ref 1100),en P "field_text" 1806 (.ref 1107),en P "field_line" 1813 (.ref 1114),en P "header_holds" 1823 (.ref 1121),en P "head_holds" 1832 (.ref 1128),en P "inner_holds" 1842 (.ref 1135),en P "texts_hold" 1854 (.ref 1143),en P "look_holds" 1863 (.ref 1150),en P "day_holds" 1872 (.ref 1157),en P "sent_day" 1881 (.ref 1164),en P "sent_holds" 1890 (.ref 1171),en P "number_holds" 1902 (.ref 1178),en P "simple_holds" 1912 (.ref 1185),en P "leaf_holds" 1921 (.ref 1192),en P "matches" 1932 (.ref 1199),en P "context_of" 1939 (.ref 1206),en P "search_seen" 1945 (.ref 1211),en P "seen_of" 1954 (.ref 1218),en P "search" 1960 (.ref 1223),en P "_law_days" 1980 (.ref 1232),en P "_law_dates" 1987 (.ref 1233),en P "_law_words" 1992 (.ref 1234),en P "_law_flags" 1997 (.ref 1235),en P "_law_box" 2003 (.ref 1240),en P "_law_draw" 2013 (.ref 1247),en P "_law_octets" 2019 (.ref 1252),en P "_law_letter" 2025 (.ref 1257),en P "_law_set" 2035 (.ref 1264),en P "_law_has" 2047 (.ref 1271),en P "_law_leaf" 2056 (.ref 1278),en P "_law_tree" 2062 (.ref 1283),en P "_law_day" 2071 (.ref 1290),en P "_law_look" 2077 (.ref 1295),en P "_law_text" 2083 (.ref 1300),en P "_law_met" 2089 (.ref 1305),en P "law" 2095 (.ref 1310)]
noncomputable def wk:List (Nat×Value)→List DictEntry→List DictEntry
 |[],l=>l
 |p::r,l=>wk r (l.modify p.1 fun x=>{x with val:=p.2})
def oM(P:Params)(n k:Nat)(ds:List (Nat×Value)):Obj:=⟨.type "dict",none,.dict ⟨wk ds ((bU P).take n)⟩ k,#[]⟩
def I4:List Value:=BY 0 [(1,20),(5,27),(14,55),(16,67),(18,79),(24,91),(26,98),(33,105),(40,112),(57,147),(104,233),(106,238),(108,243),(110,251),(129,259),(138,266),(140,273),(143,280),(151,287),(165,294),(171,301),(180,308),(191,315),(201,323),(203,330),(207,337),(220,344),(229,351),(244,358),(249,365),(266,372),(273,379),(281,384),(289,393),(302,421),(304,428),(308,435),(311,442),(324,449),(326,456),(328,464),(330,469),(333,474),(335,479),(337,486),(342,491),(347,498),(379,552),(383,559),(390,566),(397,573),(420,581),(431,614),(438,621),(443,628),(446,636),(462,642),(465,649),(474,656),(476,663),(485,668),(487,673),(495,680),(517,688),(535,735),(537,742),(539,749),(547,756),(554,763),(556,770),(566,775),(568,782),(584,789),(593,796),(602,801),(608,808),(616,813),(621,820),(632,827),(650,834),(660,841),(672,848),(681,855),(687,862),(699,869),(711,876),(720,881),(728,889),(744,913),(753,920),(761,927),(777,932),(784,939),(786,944),(797,951),(799,958),(805,965),(807,972),(811,979),(818,986),(829,991),(832,998),(847,1005),(856,1012),(867,1021),(869,1028),(874,1033),(887,1040),(891,1045),(893,1052),(903,1059),(917,1064),(919,1071),(931,1078),(937,1099),(939,1106),(941,1113),(943,1120),(948,1127),(953,1134),(955,1142),(966,1149),(972,1156),(976,1163),(985,1170),(988,1177),(997,1184),(1003,1191),(1009,1198),(1011,1205),(1013,1210),(1016,1217),(1018,1222),(1026,1239),(1035,1246),(1046,1251),(1048,1256),(1061,1263),(1066,1270),(1072,1277),(1086,1282),(1096,1289),(1100,1294),(1120,1299),(1122,1304),(1130,1309)]
def oB(n:Nat):Obj:=oR (I4.take n)
def Zh(P:Params):List Obj:=dy ct "" VX [2] 0 15 187++([oT [.type "Exception"],zx,kK [en P "__module__" 203 wN,en P "__qualname__" 205 (.str "PostError" 204),en P "__firstlineno__" 207 (.int 5 206),en P "__init__" 218 (.ref 36),en P "told" 225 (.ref 43),en P "__static_attributes__" 228 (.ref 44)] 6,oT [],oR (BY 4 [(7,35),(12,42)]),zB "PostError" 5 25 198,zA 27 24 wN,oT [.int (-1) 209]]++(HN (iw 2 0) "PostError." wN (.ref 29) 4 30 210++(dy (iw 2) "PostError." wN [2] 1 37 219++([oT [.str "at" 226,.str "what" 227],kK [en P "__module__" 203 wN,en P "__firstlineno__" 207 (.int 5 206),en P "__init__" 218 (.ref 36),en P "told" 225 (.ref 43),en P "__static_attributes__" 228 (.ref 44),en P "__weakref__" 230 (.ref 47),en P "__doc__" 231 .none] 3,HL "PostError" [.type "Exception"] [.ref 46,.type "Exception",.type "BaseException",.type "object"] 45 [] (some (.ref 22)) 196 204 "Exception.__new__",Gd 46 229,zw 46,zy 46]))))
def Zg(P:Params):List Obj:=[oT [.ref 46],zx,kK [en P "__module__" 243 wN,en P "__qualname__" 245 (.str "WordFault" 244),en P "__firstlineno__" 247 (.int 14 246),en P "__static_attributes__" 248 (.ref 57)] 4,oT [],oR [],zB "WordFault" 14 53 238,zA 55 52 wN,oT [],kK [en P "__module__" 243 wN,en P "__firstlineno__" 247 (.int 14 246),en P "__static_attributes__" 248 (.ref 57),en P "__doc__" 249 .none] 2,HL "WordFault" [.ref 46] [.ref 59,.ref 46,.type "Exception",.type "BaseException",.type "object"] 58 [] (some (.ref 50)) 236 244 "Exception.__new__",zw 59,zy 59]
def Zf(P:Params):List Obj:=[oT [.ref 46],zx,kK [en P "__module__" 259 wN,en P "__qualname__" 261 (.str "MimeFault" 260),en P "__firstlineno__" 263 (.int 16 262),en P "__static_attributes__" 264 (.ref 69)] 4,oT [],oR [],zB "MimeFault" 16 65 254,zA 67 64 wN,oT [],kK [en P "__module__" 259 wN,en P "__firstlineno__" 263 (.int 16 262),en P "__static_attributes__" 264 (.ref 69),en P "__doc__" 265 .none] 2,HL "MimeFault" [.ref 46] [.ref 71,.ref 46,.type "Exception",.type "BaseException",.type "object"] 70 [] (some (.ref 62)) 252 260 "Exception.__new__",zw 71,zy 71]
def Ze(P:Params):List Obj:=[oT [.ref 46],zx,kK [en P "__module__" 275 wN,en P "__qualname__" 277 (.str "StoreFault" 276),en P "__firstlineno__" 279 (.int 18 278),en P "__static_attributes__" 280 (.ref 81)] 4,oT [],oR [],zB "StoreFault" 18 77 270,zA 79 76 wN,oT [],kK [en P "__module__" 275 wN,en P "__firstlineno__" 279 (.int 18 278),en P "__static_attributes__" 280 (.ref 81),en P "__doc__" 281 .none] 2,HL "StoreFault" [.ref 46] [.ref 83,.ref 46,.type "Exception",.type "BaseException",.type "object"] 82 [] (some (.ref 74)) 268 276 "Exception.__new__",zw 83,zy 83]++(dy ct "" zu [1,3,3] 10 86 292)
def Zd(P:Params):List Obj:=[oT [],zx,kK [en P "__module__" 321 zu,en P "__qualname__" 323 (.str "Letter" 322),en P "__firstlineno__" 325 (.int 40 324),en P "__init__" 337 (.ref 120),en P "has" 345 (.ref 127),en P "told" 352 (.ref 134),en P "__static_attributes__" 358 (.ref 135)] 7,oT [],oR (BY 4 [(42,119),(49,126),(52,133)]),zB "Letter" 40 110 316,zA 112 109 zu]++(dy (iw 13) "Letter." zu [7,3,2] 0 114 326++([oT [.str "flags" 353,.str "instant" 354,.str "modseq" 355,.str "octets" 356,.str "uid" 357],kK [en P "__module__" 321 zu,en P "__firstlineno__" 325 (.int 40 324),en P "__init__" 337 (.ref 120),en P "has" 345 (.ref 127),en P "told" 352 (.ref 134),en P "__static_attributes__" 358 (.ref 135),en P "__dict__" 360 (.ref 138),en P "__weakref__" 362 (.ref 139),en P "__doc__" 363 .none] 4,HK "Letter" 137 314,HM 137 359,Gd 137 361,zw 137,zy 137]))
def Zc(P:Params):List Obj:=[oT [],zx,kK [en P "__module__" 379 A_,en P "__qualname__" 381 (.str "Cursor" 380),en P "__firstlineno__" 383 (.int 57 382),en P "__init__" 396 (.ref 156),en P "is_done" 403 (.ref 163),en P "peek" 413 (.ref 171),en P "take" 421 (.ref 178),en P "starts" 429 (.ref 185),en P "skip" 437 (.ref 192),en P "take_while" 445 (.ref 199),en P "take_until" 453 (.ref 206),en P "number" 462 (.ref 213),en P "find" 470 (.ref 220),en P "__static_attributes__" 474 (.ref 221)] 14,oT [],oR (BY 4 [(59,155),(64,162),(67,170),(71,177),(77,184),(80,191),(86,198),(89,205),(92,212),(102,219)]),zB "Cursor" 57 145 374,zA 147 144 A_,oT [.int 0 384,.int (-1) 386]]++(HN (iw 17 0) "Cursor." A_ (.ref 149) 5 150 387++(dy (iw 17) "Cursor." A_ [2] 1 157 397++([oT [.int 0 404]]++(HN (iw 17 2) "Cursor." A_ (.ref 164) 4 165 405++(dy (iw 17) "Cursor." A_ [3,3,3,3,3,4,3] 3 172 414++([oT [.str "at" 471,.str "data" 472,.str "end" 473],kK [en P "__module__" 379 A_,en P "__firstlineno__" 383 (.int 57 382),en P "__init__" 396 (.ref 156),en P "is_done" 403 (.ref 163),en P "peek" 413 (.ref 171),en P "take" 421 (.ref 178),en P "starts" 429 (.ref 185),en P "skip" 437 (.ref 192),en P "take_while" 445 (.ref 199),en P "take_until" 453 (.ref 206),en P "number" 462 (.ref 213),en P "find" 470 (.ref 220),en P "__static_attributes__" 474 (.ref 221),en P "__dict__" 476 (.ref 224),en P "__weakref__" 478 (.ref 225),en P "__doc__" 479 .none] 4,HK "Cursor" 223 372,HM 223 475,Gd 223 477,zw 223,zy 223]))))))
def Zb(_:Params):List Obj:=dy ct "" A_ [2,0,0] 18 228 482++([oT [.int 0 501,.int (-1) 503]]++(HN (ct 21) "" A_ (.ref 245) 9 246 504++([oT [.str "us-ascii" 520,.str "iso-8859-1" 522,.str "utf-8" 524]]++(dy ct "" DZ [3,2,2,2,9,4] 28 254 530))))
def Za(_:Params):List Obj:=dy ct "" DZ [7,7,2] 34 296 582++([oT [.int 0 621,.int 10 622,.int 13 623]]++(dy ct "" Ft [2,3,5,8,8,4,6] 42 318 625))
def Y_(_:Params):List Obj:=dy ct "" Ft [4,5,0] 49 367 696++([oT [.str "Jan" 723,.str "Feb" 724,.str "Mar" 725,.str "Apr" 726,.str "May" 727,.str "Jun" 728,.str "Jul" 729,.str "Aug" 730,.str "Sep" 731,.str "Oct" 732,.str "Nov" 733,.str "Dec" 734],oT [.str "Mon" 736,.str "Tue" 737,.str "Wed" 738,.str "Thu" 739,.str "Fri" 740,.str "Sat" 741,.str "Sun" 742]])
def Y9(P:Params):List Obj:=[oT [],zx,kK [en P "__module__" 757 eU,en P "__qualname__" 759 (.str "Moment" 758),en P "__firstlineno__" 761 (.int 289 760),en P "__init__" 775 (.ref 401),en P "told" 782 (.ref 408),en P "__static_attributes__" 790 (.ref 409)] 6,oT [],oR (BY 4 [(291,400),(300,407)]),zB "Moment" 289 391 752,zA 393 390 eU]++(dy (iw 58) "Moment." eU [9,2] 0 395 762++([oT [.str "day" 783,.str "hour" 784,.str "minute" 785,.str "month" 786,.str "second" 787,.str "year" 788,.str "zone" 789],kK [en P "__module__" 757 eU,en P "__firstlineno__" 761 (.int 289 760),en P "__init__" 775 (.ref 401),en P "told" 782 (.ref 408),en P "__static_attributes__" 790 (.ref 409),en P "__dict__" 792 (.ref 412),en P "__weakref__" 794 (.ref 413),en P "__doc__" 795 .none] 4,HK "Moment" 411 750,HM 411 791,Gd 411 793,zw 411,zy 411]++(dy ct "" eU [2,3,3,6] 59 416 798)))
def Sh(_:Params):List Obj:=dy ct "" eU [4,4] 63 444 832++([oT [.int 0 850]]++(HN (ct 65) "" eU (.ref 458) 3 459 851++(dy ct "" eU [0,0,0,3,0] 66 466 859)))
def Sg(P:Params):List Obj:=[oT [],zx,kK [en P "__module__" 898 eU,en P "__qualname__" 900 (.str "DateReader" 899),en P "__firstlineno__" 902 (.int 347 901),en P "__init__" 910 (.ref 506),en P "place" 917 (.ref 513),en P "atom" 923 (.ref 518),en P "skip" 931 (.ref 525),en P "number" 941 (.ref 532),en P "need" 950 (.ref 539),en P "__static_attributes__" 954 (.ref 540)] 10,oT [],oR (BY 4 [(349,505),(354,512),(357,517),(362,524),(368,531),(375,538)]),zB "DateReader" 347 496 893,zA 498 495 eU]++(dy (iw 71) "DateReader." eU [3,2,0,3,5,4] 0 500 903++([oT [.str "at" 951,.str "length" 952,.str "tokens" 953],kK [en P "__module__" 898 eU,en P "__firstlineno__" 902 (.int 347 901),en P "__init__" 910 (.ref 506),en P "place" 917 (.ref 513),en P "atom" 923 (.ref 518),en P "skip" 931 (.ref 525),en P "number" 941 (.ref 532),en P "need" 950 (.ref 539),en P "__static_attributes__" 954 (.ref 540),en P "__dict__" 956 (.ref 543),en P "__weakref__" 958 (.ref 544),en P "__doc__" 959 .none] 4,HK "DateReader" 542 891,HM 542 955,Gd 542 957,zw 542,zy 542]))
def Sf(_:Params):List Obj:=dy ct "" eU [3,5,4,13] 72 547 962++([oT [.int 32 1009,.int 9 1010]])
def Se(P:Params):List Obj:=[oT [],zx,kK [en P "__module__" 1019 qi,en P "__qualname__" 1021 (.str "Field" 1020),en P "__firstlineno__" 1023 (.int 420 1022),en P "__init__" 1032 (.ref 589),en P "word" 1038 (.ref 594),en P "told" 1045 (.ref 601),en P "__static_attributes__" 1048 (.ref 602)] 7,oT [],oR (BY 4 [(422,588),(426,593),(429,600)]),zB "Field" 420 579 1014,zA 581 578 qi]++(dy (iw 78) "Field." qi [4,0,2] 0 583 1024++([oT [.str "name" 1046,.str "raw" 1047],kK [en P "__module__" 1019 qi,en P "__firstlineno__" 1023 (.int 420 1022),en P "__init__" 1032 (.ref 589),en P "word" 1038 (.ref 594),en P "told" 1045 (.ref 601),en P "__static_attributes__" 1048 (.ref 602),en P "__dict__" 1050 (.ref 605),en P "__weakref__" 1052 (.ref 606),en P "__doc__" 1053 .none] 4,HK "Field" 604 1012,HM 604 1049,Gd 604 1051,zw 604,zy 604]++(dy ct "" qi [5,3,5] 79 609 1056)))
def Sd(_:Params):List Obj:=[oT [.int 0 1084,.int (-1) 1086]]++(HN (ct 82) "" qi (.ref 630) 10 631 1087++([oT [.int 0 1102,.int (-1) 1104]]++(HN (ct 83) "" qi (.ref 638) 0 639 1105++(dy ct "" qi [6,2,5] 84 644 1111++(dy ct "" Zs [0,0,7] 90 665 1145++([oT [.int 9 1171,.int 10 1172,.int 13 1173,.int 32 1174]]))))))
def Sb(P:Params):List Obj:=[oT [],zx,kK [en P "__module__" 1197 uV,en P "__qualname__" 1199 (.str "Kind" 1198),en P "__firstlineno__" 1201 (.int 517 1200),en P "__init__" 1211 (.ref 696),en P "told" 1217 (.ref 701),en P "is_multi" 1224 (.ref 708),en P "is_letter" 1231 (.ref 715),en P "is_text" 1238 (.ref 722),en P "__static_attributes__" 1242 (.ref 723)] 9,oT [],oR (BY 4 [(519,695),(524,700),(527,707),(530,714),(533,721)]),zB "Kind" 517 686 1192,zA 688 685 uV]++(dy (iw 102) "Kind." uV [5,0,2,2,2] 0 690 1202++([oT [.str "params" 1239,.str "sub" 1240,.str "top" 1241],kK [en P "__module__" 1197 uV,en P "__firstlineno__" 1201 (.int 517 1200),en P "__init__" 1211 (.ref 696),en P "told" 1217 (.ref 701),en P "is_multi" 1224 (.ref 708),en P "is_letter" 1231 (.ref 715),en P "is_text" 1238 (.ref 722),en P "__static_attributes__" 1242 (.ref 723),en P "__dict__" 1244 (.ref 726),en P "__weakref__" 1246 (.ref 727),en P "__doc__" 1247 .none] 4,HK "Kind" 725 1190,HM 725 1243,Gd 725 1245,zw 725,zy 725]++(dy ct "" uV [1] 103 730 1250)))
def Sa(_:Params):List Obj:=dy ct "" uV [2,2,3,2,4,0,4,4,5,0] 104 737 1256++(dy ct "" uV [5,0,7] 115 803 1335)
def R_(_:Params):List Obj:=dy ct "" uV [10,5,2] 118 822 1363++(dy ct "" M8 [2] 126 843 1405++(dy ct "" M8 [5,5,5,6,0] 128 850 1413++([oT [.str "7bit" 1466,.str "8bit" 1467,.str "binary" 1468]])))
def R9(P:Params):List Obj:=[oT [],zx,kK [en P "__module__" 1481 gQ,en P "__qualname__" 1483 (.str "Part" 1482),en P "__firstlineno__" 1485 (.int 728 1484),en P "__init__" 1497 (.ref 897),en P "told" 1503 (.ref 902),en P "__static_attributes__" 1512 (.ref 903)] 6,oT [],oR (BY 4 [(730,896),(740,901)]),zB "Part" 728 887 1476,zA 889 886 gQ]++(dy (iw 139) "Part." gQ [7,0] 0 891 1486++([oT [.str "begin" 1504,.str "body" 1505,.str "encoding" 1506,.str "end" 1507,.str "fields" 1508,.str "inner" 1509,.str "kids" 1510,.str "kind" 1511],kK [en P "__module__" 1481 gQ,en P "__firstlineno__" 1485 (.int 728 1484),en P "__init__" 1497 (.ref 897),en P "told" 1503 (.ref 902),en P "__static_attributes__" 1512 (.ref 903),en P "__dict__" 1514 (.ref 906),en P "__weakref__" 1516 (.ref 907),en P "__doc__" 1517 .none] 4,HK "Part" 905 1474,HM 905 1513,Gd 905 1515,zw 905,zy 905]++(dy ct "" gQ [0,5,12,0] 140 910 1520)))
def R8(_:Params):List Obj:=dy ct "" gQ [2,0,2,3,3,4] 144 934 1559++(dy ct "" Ba [3,5,0,5] 151 974 1606++(dy ct "" J3 [5,6] 156 1000 1642))
def R7(_:Params):List Obj:=[oT [.int 9 1665,.int 10 1666,.int 13 1667,.int 32 1668],oT [.str "Q" 1674,.str "B" 1675]]++(dy ct "" J2 [2,4,0,4,0,7,6,0,7] 163 1016 1677)
def R6(P:Params):List Obj:=[oT [],zx,kK [en P "__module__" 1766 ah,en P "__qualname__" 1768 (.str "Seen" 1767),en P "__firstlineno__" 1770 (.int 931 1769),en P "__init__" 1780 (.ref 1086),en P "__static_attributes__" 1784 (.ref 1087)] 5,oT [],oR (BY 4 [(933,1085)]),zB "Seen" 931 1076 1761,zA 1078 1075 ah]++(dy (iw 174) "Seen." ah [5] 0 1080 1771++([oT [.str "letter" 1781,.str "number" 1782,.str "part" 1783],kK [en P "__module__" 1766 ah,en P "__firstlineno__" 1770 (.int 931 1769),en P "__init__" 1780 (.ref 1086),en P "__static_attributes__" 1784 (.ref 1087),en P "__dict__" 1786 (.ref 1090),en P "__weakref__" 1788 (.ref 1091),en P "__doc__" 1789 .none] 4,HK "Seen" 1089 1759,HM 1089 1785,Gd 1089 1787,zw 1089,zy 1089]++(dy ct "" ah [3,2,2,5,4] 175 1094 1792)))
def R5(_:Params):List Obj:=dy ct "" ah [5] 180 1129 1833++([oT [.int 0 1843]]++(HN (ct 181) "" ah (.ref 1136) 6 1137 1844++(dy ct "" ah [4,4,4,4,7,5,4] 182 1144 1855++([oT [],oR [],oT [.str "tree" 1925,.str "seen" 1926,.str "context" 1927],oT [.str "seen" 1928,.str "context" 1929],oF (df 189 "matches"),oC [.str "matches" 1922,.str "matches" 1923,.str "/claim/cut.py" 1924,.int 1009 0,.int 3 0,.int 0 0,.int 0 0,.int 3 0,.ref 1193,.bool true,.int 181 0,.ref 1194,.none,.ref 1195,.ref 1196,.ref 1197,.int 1930 0,.int 1009 0,.str "/claim/cut.py" 1931],oG (df 189 "matches") .none ah 1198]++(dy ct "" ah [2,0] 190 1200 1933)))))
def R4(_:Params):List Obj:=dy ct "" ah [4,0] 192 1212 1946++([oT [.int 1969 1963,.int 12 1964,.int 31 1965],oT [.ref 1224,.int (-1) 1967],oT [.int 1994 1968,.int 2 1969,.int 1 1970],oT [.ref 1226,.int 8797 1971],oT [.int 1994 1972,.int 2 1973,.int 2 1974],oT [.ref 1228,.int 8798 1975],oT [.int 2000 1976,.int 2 1977,.int 29 1978],oT [.ref 1230,.int 11016 1979],oT [.ref 1225,.ref 1227,.ref 1229,.ref 1231],oT [.str "31 Dec 1969 23:00 -0500" 1981,.str "Tue, 1 Feb 1994 23:59:60 +0000" 1982,.str "2 Feb 1994 00:00:00 GMT" 1983,.str "29 Feb 00 12:00:00 +1400" 1984,.str "30 Feb 1994 00:00 GMT" 1985,.str "" 1986],oT [.str "tea" 1988,.str "At noon" 1989,.str "seven" 1990,.str "x" 1991],oT [.str "$Work" 1993,.str "\\Answered" 1994,.str "\\Seen" 1995,.str "kw" 1996]]++(dy ct "" gv [0,5,0,0,5,7,4,0] 199 1236 1998))
def R3(_:Params):List Obj:=dy ct "" gv [4,0,0,0,0] 207 1284 2063
def CH(P:Params):List Obj:=[boot_o_0 P,boot_o_1 P,boot_o_2 P,boot_o_3 P,boot_o_4 P,boot_o_5 P,boot_o_6 P,boot_o_7 P,boot_o_8 P,boot_o_9 P,boot_o_10 P]
def Qx(P:Params):BT:=bg (CH P++MV) 0 .nil
def Qw(P:Params):BT:=bq [(3,oM P 11 11 [(0,.str "postkeep.errors" 194)]),(12,oB 6),(2,⟨.none,none,.dict ⟨[en P "type.__subclasses__.Exception.0" 232 (.int 46 0),en P "type.__subclasses__.Exception.n" 233 (.int 1 0)]⟩ 2,⟨[]⟩⟩)] (bg (Zh P) 15 (Qx P))
def Qv(P:Params):BT:=bq [(3,oM P 12 12 [(0,.str "postkeep.errors" 194)]),(12,oB 9),(46,HL "PostError" [.type "Exception"] [.ref 46,.type "Exception",.type "BaseException",.type "object"] 45 [.ref 59] (some (.ref 22)) 196 204 "Exception.__new__")] (bg (Zg P) 50 (Qw P))
def Qu(P:Params):BT:=bq [(3,oM P 13 13 [(0,.str "postkeep.errors" 194)]),(12,oB 12),(46,HL "PostError" [.type "Exception"] [.ref 46,.type "Exception",.type "BaseException",.type "object"] 45 [.ref 59,.ref 71] (some (.ref 22)) 196 204 "Exception.__new__")] (bg (Zf P) 62 (Qv P))
def Qt(P:Params):BT:=bq [(3,oM P 20 20 [(0,.str "postkeep.boxes" 284)]),(12,oB 24),(46,HL "PostError" [.type "Exception"] [.ref 46,.type "Exception",.type "BaseException",.type "object"] 45 [.ref 59,.ref 71,.ref 83] (some (.ref 22)) 196 204 "Exception.__new__")] (bg (Ze P) 74 (Qu P))
def Qs(P:Params):BT:=bq [(3,oM P 23 23 [(0,.str "postkeep.octets" 366)]),(12,oB 27)] (bg (Zd P) 107 (Qt P))
def Qr(P:Params):BT:=bq [(3,oM P 24 24 [(0,.str "postkeep.octets" 366)]),(12,oB 30)] (bg (Zc P) 142 (Qs P))
def Qq(P:Params):BT:=bq [(3,oM P 39 39 [(0,.str "postkeep.charsets" 518)]),(12,oB 60)] (bg (Zb P) 228 (Qr P))
def Qp(P:Params):BT:=bq [(3,oM P 53 53 [(0,.str "postkeep.tokens" 613)]),(12,oB 90)] (bg (Za P) 296 (Qq P))
def Qo(P:Params):BT:=bq [(3,oM P 61 61 [(0,.str "postkeep.dates" 721)]),(12,oB 99)] (bg (Y_ P) 367 (Qp P))
def IY(P:Params):BT:=bq [(3,oM P 66 66 [(0,.str "postkeep.dates" 721)]),(12,oB 114)] (bg (Y9 P) 388 (Qo P))
def IX(P:Params):BT:=bq [(3,oM P 74 74 [(0,.str "postkeep.dates" 721)]),(12,oB 138)] (bg (Sh P) 444 (IY P))
def IW(P:Params):BT:=bq [(3,oM P 75 75 [(0,.str "postkeep.dates" 721)]),(12,oB 141)] (bg (Sg P) 493 (IX P))
def IV(P:Params):BT:=bq [(3,oM P 80 80 [(0,.str "postkeep.headers" 1007)]),(12,oB 153)] (bg (Sf P) 547 (IW P))
def IU(P:Params):BT:=bq [(3,oM P 84 84 [(0,.str "postkeep.headers" 1007)]),(12,oB 165)] (bg (Se P) 576 (IV P))
def IT(P:Params):BT:=bq [(3,oM P 102 102 [(0,.str "postkeep.params" 1169)]),(12,oB 189)] (bg (Sd P) 630 (IU P))
def IS(P:Params):BT:=bq [(3,oM P 104 104 [(0,.str "postkeep.params" 1169)]),(12,oB 195)] (bg (Sb P) 683 (IT P))
def IQ(P:Params):BT:=bq [(3,oM P 118 118 [(0,.str "postkeep.params" 1169),(113,.ref 802)]),(12,oB 234)] (bg (Sa P) 737 (IS P))
def IP(P:Params):BT:=bq [(3,oM P 136 136 [(0,.str "postkeep.parts" 1460)]),(12,oB 261)] (bg (R_ P) 822 (IQ P))
def IM(P:Params):BT:=bq [(3,oM P 141 141 [(0,.str "postkeep.parts" 1460)]),(12,oB 276)] (bg (R9 P) 884 (IP P))
def IL(P:Params):BT:=bq [(3,oM P 153 153 [(0,.str "postkeep.words" 1663)]),(12,oB 312)] (bg (R8 P) 934 (IM P))
def IK(P:Params):BT:=bq [(3,oM P 167 167 [(0,.str "postkeep.search" 1755)]),(12,oB 339)] (bg (R7 P) 1014 (IL P))
def IJ(P:Params):BT:=bq [(3,oM P 173 173 [(0,.str "postkeep.search" 1755)]),(12,oB 357)] (bg (R6 P) 1073 (IK P))
def II(P:Params):BT:=bq [(3,oM P 185 185 [(0,.str "postkeep.search" 1755)]),(12,oB 393)] (bg (R5 P) 1129 (IJ P))
def IG(P:Params):BT:=bq [(3,oM P 199 199 []),(12,oB 423)] (bg (R4 P) 1212 (II P))
def az(P:Params):BT:=bq [(3,oM P 204 204 []),(12,oB 438)] (bg (R3 P) 1284 (IG P))
noncomputable def env:Env:={scope:=pw.main.scope,locals:=mainNs,globals:=mainNs,cells:=[],code:=.ref 13,frame:=some 14}
abbrev D7:List Stmt:=pw.main.body
def y0:Code:=.body (behindTheImports pw) env
noncomputable def HS:List Frame:=[topFrame ⟨0,0,0,0⟩]
abbrev rt(t:Params→BT)(n tk:Nat)(w:World)(os:OsState):SharedT:=⟨t w.params,n,{},⟨[]⟩,{},tk,os⟩
noncomputable def PC(k:Nat)(a:Params→BT)(n t j l:Nat)(p:PySem.Pos)(b:Params→BT)(n' t':Nat)(q:PySem.Pos):Prop:=∀(w:World) (os:OsState),PySem.W.Fast.tw10110043849684766642 PySem.W.Fast.tw14364793385576792824 pw w 11 (some (.ref 6)) 1 k (rt a n t w os) (piecesOf ((D7.drop j).take l) env y0 p HS)=some (.next,rt b n' t' w os,y0,q)
theorem PC.to{k n t j l n' t':Nat}{a b:Params→BT}{p q:PySem.Pos}(h:PC k a n t j l p b n' t' q)(w:World)(os:OsState):segRunT treeTable pw w 11 (some (.ref 6)) 1 k (rt a n t w os) (piecesOf ((D7.drop j).take l) env y0 p HS)=some (.next,rt b n' t' w os,y0,q):=by
 rewrite[PySem.W.Fast.te10110043849684766642,PySem.W.Fast.te14364793385576792824];exact h w os
theorem Y3:PC 307 Qx 15 187 0 3 ⟨0,0,0,0⟩ Qw 50 236 ⟨5,0,13,35⟩:=fun w os=>by kernel_rfl
theorem Y2:PC 214 Qw 50 236 3 1 ⟨5,0,13,35⟩ Qv 62 252 ⟨14,0,15,8⟩:=fun w os=>by kernel_rfl
theorem Y1:PC 214 Qv 62 252 4 1 ⟨14,0,15,8⟩ Qu 74 268 ⟨16,0,17,8⟩:=fun w os=>by kernel_rfl
theorem Y0:PC 338 Qu 74 268 5 8 ⟨16,0,17,8⟩ Qt 107 314 ⟨33,0,39,15⟩:=fun w os=>by kernel_rfl
theorem YZ:PC 321 Qt 107 314 13 4 ⟨33,0,39,15⟩ Qs 142 372 ⟨56,0,56,12⟩:=fun w os=>by kernel_rfl
theorem YY:PC 526 Qs 142 372 17 1 ⟨56,0,56,12⟩ Qr 228 482 ⟨57,0,103,54⟩:=fun w os=>by kernel_rfl
theorem YX:PC 380 Qr 228 482 18 16 ⟨57,0,103,54⟩ Qq 296 582 ⟨165,0,170,26⟩:=fun w os=>by kernel_rfl
theorem YW:PC 372 Qq 296 582 34 15 ⟨165,0,170,26⟩ Qp 367 696 ⟨249,0,265,40⟩:=fun w os=>by kernel_rfl
theorem YV:PC 165 Qp 367 696 49 9 ⟨249,0,265,40⟩ Qo 388 750 ⟨288,0,288,9⟩:=fun w os=>by kernel_rfl
theorem YU:PC 388 Qo 388 750 58 5 ⟨288,0,288,9⟩ IY 444 832 ⟨311,0,323,34⟩:=fun w os=>by kernel_rfl
theorem R1:PC 229 IY 444 832 63 8 ⟨311,0,323,34⟩ IX 493 891 ⟨342,0,346,46⟩:=fun w os=>by kernel_rfl
theorem R0:PC 383 IX 493 891 71 1 ⟨342,0,346,46⟩ IW 547 962 ⟨347,0,378,29⟩:=fun w os=>by kernel_rfl
theorem RZ:PC 155 IW 547 962 72 6 ⟨347,0,378,29⟩ IV 576 1012 ⟨419,0,419,13⟩:=fun w os=>by kernel_rfl
theorem RY:PC 378 IV 576 1012 78 4 ⟨419,0,419,13⟩ IU 630 1084 ⟨443,0,445,63⟩:=fun w os=>by kernel_rfl
theorem RX:PC 373 IU 630 1084 82 20 ⟨443,0,445,63⟩ IT 683 1190 ⟨516,0,516,11⟩:=fun w os=>by kernel_rfl
theorem RW:PC 376 IT 683 1190 102 2 ⟨516,0,516,11⟩ IS 737 1256 ⟨535,0,536,57⟩:=fun w os=>by kernel_rfl
theorem RV:PC 397 IS 737 1256 104 14 ⟨535,0,536,57⟩ IQ 822 1363 ⟨621,0,631,72⟩:=fun w os=>by kernel_rfl
theorem RU:PC 396 IQ 822 1363 118 21 ⟨621,0,631,72⟩ IP 884 1474 ⟨727,0,727,6⟩:=fun w os=>by kernel_rfl
theorem RT:PC 385 IP 884 1474 139 5 ⟨727,0,727,6⟩ IM 934 1559 ⟨777,0,783,59⟩:=fun w os=>by kernel_rfl
theorem RQ:PC 388 IM 934 1559 144 15 ⟨777,0,783,59⟩ IL 1014 1665 ⟨862,0,862,8⟩:=fun w os=>by kernel_rfl
theorem RP:PC 333 IL 1014 1665 159 15 ⟨862,0,862,8⟩ IK 1073 1759 ⟨930,0,930,17⟩:=fun w os=>by kernel_rfl
theorem RO:PC 378 IK 1073 1759 174 6 ⟨930,0,930,17⟩ IJ 1129 1833 ⟨948,0,952,24⟩:=fun w os=>by kernel_rfl
theorem RN:PC 377 IJ 1129 1833 180 12 ⟨948,0,952,24⟩ II 1212 1946 ⟨1013,0,1015,73⟩:=fun w os=>by kernel_rfl
theorem RL:PC 391 II 1212 1946 192 15 ⟨1013,0,1015,73⟩ IG 1284 2063 ⟨1086,0,1095,113⟩:=fun w os=>by kernel_rfl
theorem RK:PC 136 IG 1284 2063 207 5 ⟨1086,0,1095,113⟩ az 1311 2096 ⟨1130,0,1157,72⟩:=fun w os=>by kernel_rfl
def Ha(P:Params):Heap:=⟨⟨CH P++MV⟩,{}⟩
theorem JM(w:World)(os:OsState):topGo treeTable pw w 11 (some (.ref 6)) 12 ⟨boot_heap w.params,⟨[]⟩,boot_drawn,boot_toks,os⟩ (topStub pw)=some (⟨Ha w.params,⟨[]⟩,{},187,os⟩,⟨denote treeTable y0,y0,⟨0,0,0,0⟩,HS⟩):=by
 rewrite[PySem.W.Fast.te15667345088766844465,PySem.W.Fast.te14364793385576792824,PySem.W.Fast.te11892475500146522536];kernel_rfl
theorem AK(w:World)(os:OsState):segRun treeTable pw w 11 (some (.ref 6)) 1 1 ⟨Ha w.params,⟨[]⟩,{},187,os⟩ (blockOf D7 env y0 ⟨0,0,0,0⟩ HS)=some (.next,(rt Qx 15 187 w os).abs,y0,⟨0,0,0,0⟩):=by
 rewrite[PySem.W.Fast.te14374325043358763698,PySem.W.Fast.te14364793385576792824];kernel_rfl
theorem JN(w:World)(os:OsState):topRun treeTable pw w 11 (some (.ref 6)) 2 (rt az 1311 2096 w os).abs ⟨doneF .next,y0,⟨1130,0,1157,72⟩,HS⟩=some (rt az 1311 2096 w os).abs:=by
 rewrite[PySem.W.Fast.te14082659384304107361,PySem.W.Fast.te14364793385576792824];kernel_rfl
theorem ú{w:World}{n N j k:Nat}{S S':SharedT}{r:Shared}{pos p':Pos}(h:segRunT treeTable pw w 11 (some (.ref 6)) 1 n S (piecesOf ((D7.drop j).take k) env y0 pos HS)=some (.next,S',y0,p'))
  (h':topRun treeTable pw w 11 (some (.ref 6)) N S'.abs (restOf (D7.drop (j+k)) env y0 p' HS)=some r):topRun treeTable pw w 11 (some (.ref 6)) (n+N) S.abs (restOf (D7.drop j) env y0 pos HS)=some r:=by
 have e:D7.drop j=(D7.drop j).take k++D7.drop (j+k):=by rw[←List.drop_drop,List.take_append_drop]
 rw[e];exact piece_app (segRun_of h) h'
theorem Cj:D7.drop 212=[]:=by kernel_rfl
theorem run(w:World)(os:OsState):topRun treeTable pw w 11 (some (.ref 6)) 8315 ⟨boot_heap w.params,⟨[]⟩,boot_drawn,boot_toks,os⟩ (topStub pw)=some (rt az 1311 2096 w os).abs:=by
 refine go_top (n:=12) (N:=8303) (JM w os) ?_;refine piece_block (n:=1) (N:=8302) (AK w os) ?_;refine ú (n:=307) (N:=7995) (j:=0) (k:=3) (Y3.to w os) ?_;refine ú (n:=214) (N:=7781) (j:=3) (k:=1) (Y2.to w os) ?_;refine ú (n:=214) (N:=7567) (j:=4) (k:=1) (Y1.to w os) ?_;refine ú (n:=338) (N:=7229) (j:=5) (k:=8) (Y0.to w os) ?_;refine ú (n:=321) (N:=6908) (j:=13) (k:=4) (YZ.to w os) ?_;refine ú (n:=526) (N:=6382) (j:=17) (k:=1) (YY.to w os) ?_;refine ú (n:=380) (N:=6002) (j:=18) (k:=16) (YX.to w os) ?_;refine ú (n:=372) (N:=5630) (j:=34) (k:=15) (YW.to w os) ?_;refine ú (n:=165) (N:=5465) (j:=49) (k:=9) (YV.to w os) ?_;refine ú (n:=388) (N:=5077) (j:=58) (k:=5) (YU.to w os) ?_;refine ú (n:=229) (N:=4848) (j:=63) (k:=8) (R1.to w os) ?_;refine ú (n:=383) (N:=4465) (j:=71) (k:=1) (R0.to w os) ?_;refine ú (n:=155) (N:=4310) (j:=72) (k:=6) (RZ.to w os) ?_;refine ú (n:=378) (N:=3932) (j:=78) (k:=4) (RY.to w os) ?_;refine ú (n:=373) (N:=3559) (j:=82) (k:=20) (RX.to w os) ?_;refine ú (n:=376) (N:=3183) (j:=102) (k:=2) (RW.to w os) ?_;refine ú (n:=397) (N:=2786) (j:=104) (k:=14) (RV.to w os) ?_;refine ú (n:=396) (N:=2390) (j:=118) (k:=21) (RU.to w os) ?_;refine ú (n:=385) (N:=2005) (j:=139) (k:=5) (RT.to w os) ?_;refine ú (n:=388) (N:=1617) (j:=144) (k:=15) (RQ.to w os) ?_;refine ú (n:=333) (N:=1284) (j:=159) (k:=15) (RP.to w os) ?_;refine ú (n:=378) (N:=906) (j:=174) (k:=6) (RO.to w os) ?_;refine ú (n:=377) (N:=529) (j:=180) (k:=12) (RN.to w os) ?_;refine ú (n:=391) (N:=138) (j:=192) (k:=15) (RL.to w os) ?_;refine ú (n:=136) (N:=2) (j:=207) (k:=5) (RK.to w os) ?_;rw[Cj];exact piece_nil (JN w os)
def qv:Program:={pw with main:={pw.main with body:=[ct 211]}}
noncomputable def qm:List Õ:=
 .ofString "_wall"::.ofString "PostError"::.ofString "WordFault"::.ofString "MimeFault"::.ofString "StoreFault"::.ofString "SYSTEM"::.ofString "NO_KEYWORD"::.ofString "MOST_KEYWORD"::.ofString "system_flags"::.ofString "is_keyword"::.ofString "flag_name"::.ofString "Letter"::
 .ofString "RETURN_octets"::.ofString "MOST_FIGURES"::.ofString "Cursor"::.ofString "lower_code"::.ofString "lower"::.ofString "lower_text"::.ofString "line_spans"::.ofString "ASCII"::.ofString "LATIN"::.ofString "UTF8"::.ofString "CHARSETS"::.ofString "UNKNOWN_SIGN"::
 .ofString "charset_names"::.ofString "charset_name"::.ofString "need_charset"::.ofString "follower_span"::.ofString "utf8_sign"::.ofString "sign_at"::.ofString "text_in"::.ofString "strict_text"::.ofString "guessed_text"::.ofString "MOST_DEPTH_tokens"::.ofString "SIGNS_tokens"::.ofString "ATOM_SIGNS"::
 .ofString "NEVER_ESCAPED"::.ofString "is_atom_code"::.ofString "line_end"::.ofString "inside_at"::.ofString "closed_at"::.ofString "comment_at"::.ofString "atom_at"::.ofString "token_at"::.ofString "past_white"::.ofString "tokens_of"::.ofString "without_comments"::.ofString "MONTHS"::
 .ofString "DAYS"::.ofString "MOST_YEAR"::.ofString "DAY_SECONDS"::.ofString "FIRST_DAY"::.ofString "Moment"::.ofString "is_leap"::.ofString "month_length"::.ofString "days_before_year"::.ofString "day_told"::.ofString "is_day"::.ofString "is_time"::.ofString "day_of"::
 .ofString "month_number"::.ofString "is_day_name"::.ofString "is_figures"::.ofString "zone_in"::.ofString "named_zone"::.ofString "DateReader"::.ofString "full_year"::.ofString "read_clock"::.ofString "read_zone"::.ofString "read_date"::.ofString "WHITE_headers"::.ofString "Field"::
 .ofString "line_at"::.ofString "is_name"::.ofString "colon_in"::.ofString "read_spans"::.ofString "read_fields"::.ofString "rows_of"::.ofString "unfolded"::.ofString "first_body"::.ofString "SIGNS_base64"::.ofString "PAD"::.ofString "worth_table"::.ofString "group_octets"::
 .ofString "decoded"::.ofString "WHITE_params"::.ofString "SEMICOLON"::.ofString "EQUALS_params"::.ofString "QUOTE"::.ofString "BRACKET"::.ofString "PER_CENT"::.ofString "BARRED"::.ofString "HEX_FIGURES"::.ofString "Kind"::.ofString "plain_kind"::.ofString "is_token_code"::
 .ofString "skip_between"::.ofString "take_token"::.ofString "is_worth_code"::.ofString "take_worth"::.ofString "small_word"::.ofString "take_pairs"::.ofString "part_number"::.ofString "part_of"::.ofString "hex_worth"::.ofString "hex_worth_params"::.ofString "percent_decoded"::.ofString "charset_cut"::
 .ofString "joined_worth"::.ofString "params_of"::.ofString "strict_kind"::.ofString "read_kind"::.ofString "EQUALS_quoted"::.ofString "BLANK"::.ofString "RETURN_quoted"::.ofString "UNDERLINE"::.ofString "hex_worth_quoted"::.ofString "quoted_at"::.ofString "line_parts"::.ofString "unquoted"::
 .ofString "quoted_decoded"::.ofString "word_q_decoded"::.ofString "MOST_DEPTH_parts"::.ofString "PLAIN_ENCODING"::.ofString "OPEN_ENCODINGS"::.ofString "WORD_ENDS"::.ofString "BLANKS"::.ofString "Part"::.ofString "encoding_of"::.ofString "boundary_way"::.ofString "part_spans"::.ofString "kid_spans"::
 .ofString "has_inner"::.ofString "read_part"::.ofString "read_message"::.ofString "undone"::.ofString "body_octets"::.ofString "body_text"::.ofString "row_of"::.ofString "leaves_of"::.ofString "needs_part"::.ofString "decide"::.ofString "ends_of"::.ofString "has"::
 .ofString "WHITE_words"::.ofString "OPENING"::.ofString "CLOSING"::.ofString "WAYS"::.ofString "is_word_sign"::.ofString "part_end"::.ofString "word_parts"::.ofString "is_apart"::.ofString "plain_text"::.ofString "word_at"::.ofString "pieces_of"::.ofString "all_white"::
 .ofString "decoded_words"::.ofString "MOST_DEPTH_search"::.ofString "Seen"::.ofString "is_within"::.ofString "field_text"::.ofString "field_line"::.ofString "header_holds"::.ofString "head_holds"::.ofString "inner_holds"::.ofString "texts_hold"::.ofString "look_holds"::.ofString "day_holds"::
 .ofString "sent_day"::.ofString "sent_holds"::.ofString "number_holds"::.ofString "simple_holds"::.ofString "leaf_holds"::.ofString "matches"::.ofString "context_of"::.ofString "search_seen"::.ofString "seen_of"::.ofString "search"::.ofString "_law_days"::.ofString "_law_dates"::
 .ofString "_law_words"::.ofString "_law_flags"::.ofString "_law_box"::.ofString "_law_draw"::.ofString "_law_octets"::.ofString "_law_letter"::.ofString "_law_set"::.ofString "_law_has"::.ofString "_law_leaf"::.ofString "_law_tree"::.ofString "_law_day"::.ofString "_law_look"::
 .ofString "_law_text"::.ofString "_law_met"::[]
def jh(P:Params):Heap:=absHeap (az P) 1311 {}
abbrev bc(w:World)(os:OsState):Shared:=⟨jh w.params,⟨[]⟩,{},2096,os⟩
theorem KO:∀w:World,(fencedOpening treeTable pw w 20000).map (fun s=>(s.heap,s.gens,s.drawn,s.toks))=some (boot_heap w.params,Array.mk [],boot_drawn,boot_toks):=
 boot_open (by kernel_rfl) (by kernel_rfl) (fun s=>by kernel_rfl)
theorem Zw(w:World):staticsOk (importedModules pw.main.body) (boot_heap w.params) (jh w.params)=true:=by kernel_rfl
theorem Zv(w:World):namesBound pw (jh w.params)=true:=by kernel_rfl
theorem Zu(w:World)(os:OsState):gensDone (bc w os)=true:=by kernel_rfl
theorem Zt(w:World):laidKept (boot_heap w.params) (jh w.params)=true:=by kernel_rfl
theorem Zq(w:World)(os:OsState):seen ((recsOf qv).map (·.name)) (ownsOf qv) [] {bc w os with gens:= #[]}=expectedOf qv:=by kernel_rfl
theorem Zp(w:World)(os:OsState):(bc w os).heap.bltView=bltViewBooted:=by kernel_rfl
theorem Sl(w:World)(os:OsState):(bc w os).heap.keysOk (looseW qv qm) ((recsOf qv).map (·.name)) ((litsOf qv).map (·.1)) ((clssOf qv (looseW qv qm)).map (·.name))=true:=by kernel_rfl
theorem Sk(w:World)(os:OsState):(bc w os).heap.accountedOkI (importedModules pw.main.body)=true:=by kernel_rfl
theorem Sj(w:World)(os:OsState):((bc w os).heap.isNs mainGlobals&&(bc w os).heap.isNs builtinsNs)=true:=by kernel_rfl
theorem Si(w:World)(os:OsState):tablesOk qv (bc w os).heap=true:=by kernel_rfl
theorem Zn(w:World)(os:OsState):tabsOk qv (bc w os)=true:=by kernel_rfl
theorem Zm(w:World)(os:OsState):pinSeenD qv (drecsOf qv) (bc w os)=pinGoodD (drecsOf qv):=by kernel_rfl
theorem Zl(w:World)(os:OsState):plainSeenE qv (looseW qv qm) (bc w os)=plainGoodE qv (looseW qv qm):=by kernel_rfl
theorem Zk(w:World)(os:OsState):plainSeenD qv qm (bc w os)=plainGoodD qv qm:=by kernel_rfl
theorem Zj(w:World)(os:OsState):wideSeen qv (bc w os)=wideGood qv:=by kernel_rfl
theorem Zi(w:World)(os:OsState):clsSeenW qv qm (bc w os)=clsGoodW qv qm:=by kernel_rfl
end
section
set_option maxRecDepth 100000
set_option maxHeartbeats 400000
noncomputable def Yf(s:Shared):Heap×Nat:=(s.heap,s.toks)
def Ya(w:World):Heap×Nat:=(jh w.params,2096)
noncomputable def XT(_:Shared):Bool:=true
theorem Zo(w:World)(os:OsState):((bc w os).heap.keysOk (looseW qv qm) ((recsOf qv).map (·.name)) ((litsOf qv).map (·.1)) ((clssOf qv (looseW qv qm)).map (·.name))&&(bc w os).heap.accountedOkI (importedModules pw.main.body)&&(bc w os).heap.isNs mainGlobals&&(bc w os).heap.isNs builtinsNs&&tablesOk qv (bc w os).heap&&XT (bc w os)&&(if true then(bc w os).gens.size==0 else !leftWithCleanup (bc w os).gens))=true:=
 have c:=Kk.mp (Sj w os)
 look_both (look_both (look_both (look_both (look_both (look_both (Sl w os) (Sk w os)) c.1) c.2) (Si w os)) rfl) rfl
theorem MZ(w:World)(os:OsState):openSeen qv qm (importedModules pw.main.body) XT true (bc w os)=openGood qv qm:=by
 delta openSeen openGood
 exact looks_pair (Zq w os) (looks_pair (Zp w os) (looks_pair (Zo w os) (looks_pair (Zn w os) (looks_pair (Zm w os) (looks_pair (Zl w os) (looks_pair (Zk w os) (looks_pair (Zj w os) (Zi w os))))))))
theorem Zx(w:World)(os:OsState):(staticsOk (importedModules pw.main.body) (boot_heap w.params) (jh w.params)&&namesBound pw (jh w.params)&&gensDone (bc w os)&&laidKept (boot_heap w.params) (jh w.params))=true:=
 look_both (look_both (look_both (Zw w) (Zv w)) (Zu w os)) (Zt w)
theorem Fx(w:World)(os:OsState):((staticsOk (importedModules pw.main.body) (boot_heap w.params) (jh w.params)&&namesBound pw (jh w.params)&&gensDone (bc w os)&&laidKept (boot_heap w.params) (jh w.params)),openSeen qv qm (importedModules pw.main.body) XT true (bc w os),Yf (bc w os))=(true,openGood qv qm,Ya w):=
 looks_pair (Zx w os) (looks_pair (MZ w os) rfl)
theorem left:LeftO pw qv qm XT Yf Ya 20000:=by
 apply LeftO.of_pieces (p:=pw) (q:=qv) (loose:=qm) (Xt:=XT) (Yf:=Yf) (Ya:=Ya) (N:=20000) (g0:=true) (M:=8315) (H₀:=boot_heap) (H₁:=jh) (gs₀:=⟨[]⟩) (gs₁:=⟨[]⟩) (d₀:=boot_drawn) (d₁:={}) (k₀:=boot_toks) (k₁:=2096) (m₀:=11) (ann:=some (.ref 6))
 case open_=>exact KO
 case size=>intro w;kernel_rfl
 case run=>exact fun w os=>(run w os).trans (by kernel_rfl)
 case le=>kernel_rfl
 case looks=>
  intro w
  funext os
  exact Fx w os
abbrev ū:OpenLaw:=PySem.Challenge.rw_nz0340_01
theorem YH:sreFenced ū.row.prog.main=true:=by kernel_rfl
theorem YG:((moduleNames ū.row.prog.main.body).isEmpty||lookedIntoSs (moduleNames ū.row.prog.main.body) ū.row.prog.main.body)=true:=by kernel_rfl
theorem Q8:namesResolve ū.row.prog=true:=by
 rewrite[PySem.W.Fast.te8377067652309620493];kernel_rfl
theorem YF:(ū.row.prog.boundNames.all fun n=> !worldNames.contains n)=true:=by
 rewrite[PySem.W.Fast.te18344453789297297638,PySem.W.Fast.te14412699480532031325,PySem.W.Fast.te3471404346716756564,PySem.W.Fast.sDec_eq];kernel_rfl
theorem YE:noRoadLSs {strict:= !(importedModules ū.row.prog.main.body).all cThrough.contains,foot:=none,bare:=(["vars","dir","locals"]:List Õ).filter (readsOut ū.row.prog ū.row.prog.main.body)} ū.row.prog.main.body=true:=by
 rewrite[PySem.W.Fast.te8326940854005059898,PySem.W.Fast.te13343964577679436407];kernel_rfl
theorem YD:(namesMeet ū.row.prog ū.row.prog.main.body fun À n=>attrL n)=true:=by
 rewrite[PySem.W.Fast.te17119622794617984870,PySem.W.Fast.te17868728402115742887];kernel_rfl
theorem YR:looksOpen ū.row.prog=true:=by
 delta looksOpen
 exact look_both (look_both (look_both (look_both (look_both YH YG) Q8) YF) YE) YD
theorem YQ:ū.row.wellSaid=true:=by
 delta OpenRow.wellSaid OpenRow.partSaid
 refine look_both (look_both (look_both (look_both (look_both (look_both (look_both (look_both (look_both (look_both (look_both (look_both (look_both (look_both (look_both YR ?_) ?_) ?_) ?_) ?_) ?_) ?_) ?_) ?_) ?_) ?_) ?_) ?_) ?_) ?_
 all_goals kernel_rfl
theorem YO:decide (ū.foot≤(behindTheImports ū.prog).length)=true:=by kernel_rfl
theorem YN:ū.footing.all footLine=true:=by kernel_rfl
theorem YM:noClassBlock ū.prog ū.footing=true:=by kernel_rfl
theorem YL:(ū.most.all fun n=>decide (63≤n))=true:=by kernel_rfl
theorem YK:(ū.bound.all fun n=>decide (2^63≤n))=true:=by kernel_rfl
theorem YJ:noRoadLSs {strict:=true,foot:=some ū.bound',writes:=ū.writes,may:=ū.may} ū.footing=true:=by
 rewrite[PySem.W.Fast.te8326940854005059898];kernel_rfl
theorem YI:defStands ū.about ū.above=true:=by kernel_rfl
theorem Ro:ū.namesIt=true:=by rewrite[PySem.W.Fast.te16286561074155671207];kernel_rfl
theorem Rn:(["type","isinstance","issubclass","getattr","hasattr"]:List Õ).all (fun n=>ū.about !=[n])=true:=by kernel_rfl
theorem Rm:(ū.bound'.all fun n=> !builtinNamed n||ū.about==[n]|| !ū.reads n)=true:=by
 rewrite[PySem.W.Fast.te797321630700447069,PySem.W.Fast.named_eq,PySem.W.Fast.sDec_eq,PySem.W.Fast.te6984425678791042302];kernel_rfl
theorem Rl:(!ū.writes||(ū.prog.main.body.flatMap importedNames).all fun n=> !ū.reads n)=true:=by kernel_rfl
theorem Rk:((ū.prog.main.body.flatMap importedNames).all fun n=> !ū.reads n||(drawsOf n ū.prog.main.body).all fun mn=>mn.2 !=("attrgetter":Õ)&&mn.2 !=("methodcaller":Õ))=true:=by kernel_rfl
theorem Rj:(namesMeet ū.prog ū.footing (fun sc n=>(!(["type","isinstance","issubclass","getattr","hasattr"]:List Õ).contains n||sc.names.lookup n==some .globalImplicit)&&
  (ū.may !=some n||sc.kind==.module||sc.names.lookup n==some .globalImplicit)))=true:=by
 rewrite[PySem.W.Fast.te17119622794617984870];kernel_rfl
theorem Ri:ū.own.contains ū.name=true:=by kernel_rfl
theorem Rh:(ū.own.eraseDups.length==ū.own.length)=true:=by kernel_rfl
theorem Rg:(ū.own.all fun n=> !builtinNamed n)=true:=by rewrite[PySem.W.Fast.named_eq];kernel_rfl
theorem Rf:namesMeet ū.prog ū.above (fun À n=> !ū.own.contains n)=true:=by
 rewrite[PySem.W.Fast.te17119622794617984870,PySem.W.Fast.te10792542408131684335,PySem.W.Fast.te3471404346716756564,PySem.W.Fast.sDec_eq];kernel_rfl
theorem Rd:(namesMeet ū.prog ū.footing fun sc n=>sc.kind==.module||sc.names.lookup n !=some .globalExplicit)=true:=by
 rewrite[PySem.W.Fast.te17119622794617984870];kernel_rfl
theorem QD:ū.wellSaid=true:=by
 delta OpenLaw.wellSaid
 exact look_both (look_both (look_both (look_both (look_both (look_both (look_both (look_both (look_both (look_both (look_both (look_both (look_both (look_both (look_both (look_both (look_both (look_both YQ YO) YN) YM) YL) YK) YJ) YI) Ro) Rn) Rm) Rl) Rk) Rj) Ri) Rh) Rg) Rf) Rd
noncomputable def Ja:FuncBody→List Stmt
 |.stmts b=>b
 |_=>[]
noncomputable def Mr:Stmt→Pos
 |.FunctionDef _ _ _ _ _ _ _ _ _ p=>p
 |_=>⟨0,0,0,0⟩
def dl:PySem.DefRec:=⟨"law",(df 211 "law").params,Ja (df 211 "law").body,(df 211 "law").scope,Mr (ct 211)⟩
def YP(w:World)(h:Heap):Prop:=∀a o,(az w.params).get a=some o→a<1311→o.isFreed=false→h.get? a=some o
theorem hY(w:World)(s:Shared)(e:Yf s=Ya w):YP w s.heap:=by
 intro a o g l f;have h:s.heap=jh w.params:=congrArg Prod.fst e;rw[h];refine(abs_get l g).trans ?_;obtain⟨c,d,dt,sl⟩:=o;cases dt<;>first|rfl|cases f
theorem hYk(w:World)(h h':Heap)(y:YP w h)(k:∀b o,h.get? b=some o→h'.get? b=some o):YP w h':=fun a o g l f=>k _ _ (y a o g l f)
theorem N7:defOf qv ū.row.name=some (dl,[]):=by kernel_rfl
theorem N6:ū.row.prog.theDef ū.row.name=some (dl.params,dl.body,dl.scope):=by kernel_rfl
theorem Tx:kwWritten? dl.params.kwonlyargs dl.params.kw_defaults=some []:=by kernel_rfl
theorem Tv:(!ū.row.writes||ū.row.records.isEmpty)=true:=by kernel_rfl
theorem Tw:(chainsOk qv&&opensWell ū.row.prog&&(frees ū.row.toRowW&&ū.row.within.isEmpty))=true:=by kernel_rfl
theorem KP:ū.row.prog.bare:=⟨rfl,rfl,rfl,rfl,rfl,by decide+kernel⟩
theorem KN:ū.row.toRowW.promised:=⟨[.list []],by decide+kernel,by decide+kernel⟩
abbrev Vh(_:Õ→Option Value)(_:Heap):Prop:=True
theorem hd(call:WalkO qv qm Vh YP ū.row.toRowW dl [] fun f vs=>PySem.call f vs):ū.Holds:=by
 refine holds_law QD fun ok=>?_;apply holds_open (q:=qv) (loose:=qm) (Xt:=XT) (XP:=Vh) (Yf:=Yf) (Ya:=Ya) (YP:=YP) (d:=dl) (kwd:=[]) (N:=20000)
 case left=>exact left
 case hY=>exact hY
 case hYk=>exact hYk
 case hX=>exact fun À À=>trivial
 case hXk=>exact fun À À À À À=>trivial
 case hdef=>exact N7
 case hp=>exact N6
 case hk=>exact Tx
 case hRf=>exact fun À À=>recFacts_nil rfl
 case hwr=>exact Tv
 case k1=>exact ok
 case ok=>exact Tw
 case hb=>exact KP
 case hw=>exact KN
 case call=>exact call
end
end Internal.H
namespace Internal
section
set_option maxRecDepth 100000
inductive Ln|n (k:Nat)|v (i:Nat)|a (x y:Ln)|m (k:Nat) (x:Ln)
noncomputable def Ln.ctorIdx:Ln→Nat:=fun v=>v.casesOn (fun À=>0) (fun À=>1) (fun À À=>2) (fun À À=>3)
inductive Lc|z|c (l r:Ln) (t:Lc)
noncomputable def Lc.ctorIdx:Lc→Nat:=fun v=>v.casesOn 0 (fun À À À=>1)
abbrev Â:Ln:=.v 0
abbrev È:Ln:=.v 1
abbrev ã:Ln:=.v 2
abbrev kg:Ln:=.v 3
abbrev Á:Ln:=.n 1
abbrev Ù:Ln:=.n 1000000
abbrev Ē:Ln:=.n 0
abbrev ĵ:Ln:=.n 7
abbrev ŷ:Ln:=.n 84
abbrev Ĵ:Ln:=.n 2
abbrev ť:Ln:=.n 20
abbrev aU:Ln:=.n 1000
abbrev ak:Ln:=.n 86
abbrev bM:Ln:=.n 100
abbrev br:Ln:=.n 50
abbrev bL:Ln:=.n 30
abbrev dM:Ln:=.n 4
abbrev hZ:Ln:=.n 60
abbrev jD:Ln:=.n 25
abbrev hW:Ln:=.n 3
abbrev lD:Ln:=.n 10
abbrev jB:Ln:=.n 5
abbrev n9:Ln:=.n 900
noncomputable def uh:List Nat→List Nat→List Nat
 |[],y=>y
 |x,[]=>x
 |a::x,b::y=>(a+b)::uh x y
noncomputable def PL:Nat→List Nat
 |0=>[1]
 |i+1=>0::PL i
noncomputable def PM(k:Nat):List Nat→List Nat
 |[]=>[]
 |a::x=>(k*a)::PM k x
noncomputable def Ln.p:Ln→List Nat
 |.n k=>[k]
 |.v i=>0::PL i
 |.a x y=>uh x.p y.p
 |.m k x=>PM k x.p
noncomputable def Lc.l:Lc→List Nat
 |.z=>[]
 |.c l _ t=>uh l.p t.l
noncomputable def Lc.r:Lc→List Nat
 |.z=>[]
 |.c _ r t=>uh r.p t.r
noncomputable def V0:List Nat→Nat
 |[]=>0
 |x::_=>x
noncomputable def V2:List Int→Int
 |[]=>0
 |x::_=>x
noncomputable def Kh:Nat→List Nat→Nat
 |0,v=>V0 v
 |i+1,v=>Kh i v.tail
noncomputable def Ki:Nat→List Int→Int
 |0,v=>V2 v
 |i+1,v=>Ki i v.tail
noncomputable def Ln.d(v:List Nat):Ln→Nat
 |.n k=>k
 |.v i=>Kh i v
 |.a x y=>x.d v+y.d v
 |.m k x=>k*x.d v
noncomputable def Ln.i(v:List Int):Ln→Int
 |.n k=>vi k
 |.v i=>Ki i v
 |.a x y=>x.i v+y.i v
 |.m k x=>vi k*x.i v
noncomputable def Lc.H(v:List Nat)(P:Prop):Lc→Prop
 |.z=>P
 |.c l r t=>l.d v≤r.d v→t.H v P
noncomputable def Lc.J(v:List Int)(P:Prop):Lc→Prop
 |.z=>P
 |.c l r t=>l.i v≤r.i v→t.J v P
noncomputable def wU:List Nat→List Nat→Nat
 |[],_=>0
 |a::x,v=>a*V0 v+wU x v.tail
noncomputable def ldI:List Nat→List Int→Int
 |[],_=>0
 |a::x,v=>vi a*V2 v+ldI x v.tail
noncomputable def FA:List Nat→List Nat→Bool
 |[],_=>true
 |a::x,[]=>a==0&&FA x []
 |a::x,b::y=>aj a b&&FA x y
def SQ(x y:List Nat):Bool:=FA x y&&FA y x
def SP(x y:List Nat):Bool:=match x,y with
 |a::x,b::y=>aj a b&&SQ x y
 |x,y=>SQ x y
theorem i_(x:List Nat):∀(y v:List Nat),wU (uh x y) v=wU x v+wU y v:=by
 induction x with
 |nil=>exact fun y v=>(ki _).symm
 |cons a x ih=>
  intro y v
  induction y using Ū with
  |nil=>rfl
  |cons b y=>exact(congr (congrArg HAdd.hAdd (Nat.add_mul a b _)) (ih y _)).trans (Nat.add_add_add_comm _ _ _ _)
theorem SY(a b c d:Int):a+b+(c+d)=a+c+(b+d):=by omega
theorem ja(x:List Nat):∀(y:List Nat) (v:List Int),ldI (uh x y) v=ldI x v+ldI y v:=by
 induction x with
 |nil=>exact fun y v=>(Int.zero_add _).symm
 |cons a x ih=>
  intro y v
  induction y using Ū with
  |nil=>exact(Int.add_zero _).symm
  |cons b y=>exact(congr (congrArg HAdd.hAdd (Int.add_mul (.ofNat a) (.ofNat b) _)) (ih y _)).trans (SY _ _ _ _)
theorem Kc(k:Nat)(x:List Nat):∀(v:List Nat),wU (PM k x) v=k*wU x v:=by
 induction x with
 |nil=>exact fun v=>rfl
 |cons a x ih=>exact fun v=>(congr (congrArg HAdd.hAdd (Nat.mul_assoc k a _)) (ih _)).trans (Nat.mul_add _ _ _).symm
theorem Ke(k:Nat)(x:List Nat):∀(v:List Int),ldI (PM k x) v=vi k*ldI x v:=by
 induction x with
 |nil=>exact fun v=>(Int.mul_zero _).symm
 |cons a x ih=>exact fun v=>(congr (congrArg HAdd.hAdd (Int.mul_assoc (.ofNat k) (.ofNat a) _)) (ih _)).trans (Int.mul_add _ _ _).symm
theorem Kb(i:Nat):∀v:List Nat,wU (PL i) v=Kh i v:=by
 induction i with
 |zero=>exact fun v=>Nat.one_mul _
 |succ i ih=>exact fun v=>(congr (congrArg HAdd.hAdd (Nat.zero_mul _)) (ih _)).trans (ki _)
theorem Kd(i:Nat):∀v:List Int,ldI (PL i) v=Ki i v:=by
 induction i with
 |zero=>exact fun v=>(Int.add_zero _).trans (Int.one_mul _)
 |succ i ih=>exact fun v=>(congr (congrArg HAdd.hAdd (Int.zero_mul _)) (ih _)).trans (Int.zero_add _)
theorem Ln.PH(v:List Nat)(e:Ln):wU e.p (1::v)=e.d v:=by
 induction e with
 |n k=>exact Nat.mul_one _
 |v i=>exact(congr (congrArg HAdd.hAdd (Nat.zero_mul _)) (Kb i v)).trans (ki _)
 |a x y hx hy=>exact(i_ _ _ _).trans (congr (congrArg HAdd.hAdd hx) hy)
 |m k x hx=>exact(Kc _ _ _).trans (congrArg _ hx)
theorem Ln.PG(v:List Int)(e:Ln):ldI e.p (1::v)=e.i v:=by
 induction e with
 |n k=>exact(Int.add_zero _).trans (Int.mul_one _)
 |v i=>exact(congr (congrArg HAdd.hAdd (Int.zero_mul _)) (Kd i v)).trans (Int.zero_add _)
 |a x y hx hy=>exact(ja _ _ _).trans (congr (congrArg HAdd.hAdd hx) hy)
 |m k x hx=>exact(Ke _ _ _).trans (congrArg _ hx)
theorem ig{x:List Nat}:∀(y v:List Nat),FA x y=true→wU x v≤wU y v:=by
 induction x with
 |nil=>exact fun À À À=>Nat.zero_le _
 |cons a x ih=>
  intro y v h
  induction y using Ū with
  |nil=>
   obtain⟨h1,h2⟩:=Ĥ.mp h;have:=ih [] v.tail h2;rw[show a=0 from eq_of_beq h1];show 0*_+_≤0;rw[Nat.zero_mul,ki];exact this
  |cons b y=>
   obtain⟨h1,h2⟩:=Ĥ.mp h;exact Nat.add_le_add (Nat.mul_le_mul_right _ (jc h1)) (ih _ _ h2)
where Ĥ {a b:Bool}:(a&&b)=true↔a=true∧b=true:=by induction a using ñ<;>induction b using ñ<;>decide
theorem Ht{x:List Nat}:∀(y:List Nat) (v:List Int),FA x y=true→FA y x=true→ldI x v=ldI y v:=by
 induction x with
 |nil=>
  intro y
  induction y with
  |nil=>exact fun À À À=>rfl
  |cons b y ih=>
   intro v h g;obtain⟨h1,h2⟩:=ig.Ĥ.mp g;rw[show b=0 from eq_of_beq h1];show 0=vi 0*_+_;rw[←ih _ rfl h2];exact(congrArg (· +(0:Int)) (Int.zero_mul _)).symm
 |cons a x ih=>
  intro y v h g
  induction y using Ū with
  |nil=>
   obtain⟨h1,h2⟩:=ig.Ĥ.mp h;rw[show a=0 from eq_of_beq h1];show vi 0*_+_=0;rw[ih _ _ h2 rfl];exact congrArg (· +(0:Int)) (Int.zero_mul _)
  |cons b y=>
   obtain⟨h1,h2⟩:=ig.Ĥ.mp h;obtain⟨g1,g2⟩:=ig.Ĥ.mp g;rw[show a=b from cQ (jc h1) (jc g1)];exact congrArg _ (ih _ _ h2 g2)
theorem Hr{x y:List Nat}{v:List Int}(h:SP x y=true):ldI x (1::v)≤ldI y (1::v):=by
 have e:∀x y,SQ x y=true→ldI x (1::v)≤ldI y (1::v):=fun x y h=>by
  obtain⟨a,b⟩:=ig.Ĥ.mp h;rw[Ht _ _ a b];exact Int.le_refl _
 induction x using Ū with
 |nil=>exact e _ _ h
 |cons a x=>
  induction y using Ū with
  |nil=>exact e _ _ h
  |cons b y=>
   obtain⟨h1,h2⟩:=ig.Ĥ.mp h;obtain⟨a1,b1⟩:=ig.Ĥ.mp h2;show vi a*1+ldI x v≤vi b*1+ldI y v;rw[Ht _ _ a1 b1,Int.mul_one,Int.mul_one];exact Int.add_le_add_right (vh.mpr (jc h1)) _
theorem Lc.Pr{v:List Nat}{P:Prop}(t:Lc):(wU t.l (1::v)≤wU t.r (1::v)→P)→t.H v P:=by
 induction t generalizing P with
 |z=>exact fun k=>k (Ų _)
 |c l r t ih=>
  intro k h;refine ih fun q=>k ?_;show wU (uh _ _) _≤wU (uh _ _) _;rw[i_,i_,Ln.PH,Ln.PH];exact Nat.add_le_add h q
theorem Lc.Pm{v:List Int}{P:Prop}(t:Lc):(ldI t.l (1::v)≤ldI t.r (1::v)→P)→t.J v P:=by
 induction t generalizing P with
 |z=>exact fun k=>k (Int.le_refl _)
 |c l r t ih=>
  intro k h;refine ih fun q=>k ?_;show ldI (uh _ _) _≤ldI (uh _ _) _;rw[ja,ja,Ln.PG,Ln.PG];exact Int.add_le_add h q
theorem ä(v:List Nat)(t:Lc)(l r:Ln)(h:FA (uh l.p t.r) (uh r.p t.l)=true):t.H v (l.d v≤r.d v):=by
 refine t.Pr fun q=>?_;have:=ig _ (1::v) h;rw[i_,i_,Ln.PH,Ln.PH]at this;exact Nat.le_of_add_le_add_right (ă this (Kj q _))
theorem í(v:List Int)(t:Lc)(l r:Ln)(h:SP (uh l.p t.r) (uh r.p t.l)=true):t.J v (l.i v≤r.i v):=by
 refine t.Pm fun q=>?_;have:=Hr (v:=v) h;rw[ja,ja,Ln.PG,Ln.PG]at this;exact Int.le_of_add_le_add_right (oV this (Int.add_le_add_left q _))
theorem Nb(v:List Nat)(t:Lc)(h:FA (uh [1] t.r) t.l=true):t.H v False:=by
 refine t.Pr fun q=>?_;have:=ig _ (1::v) h;rw[i_]at this;exact Nat.not_succ_le_zero 0 (Nat.le_of_add_le_add_right (ă this (ă q (Ņ (ki _).symm))))
theorem sk(v:List Int)(t:Lc)(h:SP (uh [1] t.r) t.l=true):t.J v False:=by
 refine t.Pm fun q=>?_;have:=Hr (v:=v) h;rw[ja]at this;have e:ldI [1] (1::v)=1:=rfl;rw[e]at this;omega
example (a b c:Nat) (h:a+2≤b) (h2:b<c):a+1<c:=ä [_,_,_] (.c (.a Â Ĵ) È (.c (.a È Á) ã .z)) (.a (.a Â Á) Á) ã rfl h h2
example (B:Int) (h:B+20<1000000):B+1+1<1000000:=í [_] (.c (.a (.a Â ť) Á) Ù .z) (.a (.a (.a Â Á) Á) Á) Ù rfl h
end
inductive V where
 |none
 |bool (b:Bool)
 |int (i:Int)
 |str (l:List Nat)
 |bytes (l:List Nat)
 |tup (l:List V)
 |lst (l:List V)
 |aX (l:List (List Nat×V))
 |ins (c:Nat) (l:List (Nat×V))
 |Ó (i:Nat)
 |g9 (l:List V)
noncomputable def V.ctorIdx:V→Nat:=fun v=>v.casesOn 0 (fun À=>1) (fun À=>2) (fun À=>3) (fun À=>4) (fun À=>5) (fun À=>6) (fun À=>7) (fun À À=>8) (fun À=>9) (fun À=>10)
inductive Cell where
 |lst (l:List V)
 |aX (l:List (List Nat×V))
 |ins (c:Nat) (l:List (Nat×V))
 |Ô (v:V)
noncomputable def Cell.ctorIdx:Cell→Nat:=fun v=>v.casesOn (fun À=>0) (fun À=>1) (fun À À=>2) (fun À=>3)
inductive PE where
 |c (v:V)
 |l (i:Nat)
 |k (i:Nat)
 |at(e:PE) (a:Nat)
 |fn (j:Nat) (as:List PE)
 |cl (c:Nat) (as:List PE)
 |bl (b:Nat) (as:List PE)
 |lo (e:PE) (as:List PE)
 |me (o:PE) (a:Nat) (as:List PE)
 |ix (o i:PE)
 |sl (o:PE) (lo hi st:Option PE)
 |bi (op:Nat) (a b:PE)
 |cm (a:PE) (ops:List Nat) (bs:List PE)
 |bo (Hz:Bool) (es:List PE)
 |nt (e:PE)
 |ng (e:PE)
 |te (t a b:PE)
 |tu (es:List PE)
 |li (es:List PE)
 |di (ks vs:List PE)
 |co (elt:PE) (tg:List Nat) (iter:PE) (ifs:List PE) (n:Nat)
 |la
 |no
noncomputable def PE.ctorIdx:PE→Nat:=fun v=>v.casesOn (fun À=>0) (fun À=>1) (fun À=>2) (fun À À=>3) (fun À À=>4) (fun À À=>5) (fun À À=>6) (fun À À=>7) (fun À À À=>8) (fun À À=>9) (fun À À À À=>10) (fun À À À=>11) (fun À À À=>12) (fun À À=>13) (fun À=>14) (fun À=>15) (fun À À À=>16) (fun À=>17) (fun À=>18) (fun À À=>19) (fun À À À À À=>20) 21 22
inductive Tg where
 |n (k:Bool) (i:Nat)
 |t (l:List (Bool×Nat))
 |a (o:PE) (at_:Nat)
 |s (o i:PE)
 |no
noncomputable def Tg.ctorIdx:Tg→Nat:=fun v=>v.casesOn (fun À À=>0) (fun À=>1) (fun À À=>2) (fun À À=>3) 4
inductive PS where
 |as (t:Tg) (e:PE)
 |ex (e:PE)
 |if(t:PE) (b o:List PS)
 |wh (t:PE) (b:List PS)
 |fo (t:Tg) (it:PE) (b:List PS)
 |re (e:PE)
 |ra (es:List PE)
 |tr (b:List PS) (c:Nat) (h:List PS)
 |pa
 |sw (l:List (Bool×Nat)) (es:List PE)
 |no
noncomputable def PS.ctorIdx:PS→Nat:=fun v=>v.casesOn (fun À À=>0) (fun À=>1) (fun À À À=>2) (fun À À=>3) (fun À À À=>4) (fun À=>5) (fun À=>6) (fun À À À=>7) 8 (fun À À=>9) 10
structure Fn where
 ps:List (Bool×Nat)
 nl:Nat
 nc:Nat
 mq:List V
 body:List PS
structure St where
 H:List Cell
 ρ:List (Option V)
 κ:List (Option V)
inductive Out where
 |val (v:V)
 |vals (l:List V)
 |next
 |ret (v:V)
 |exc
 |ov (o:Option V)
noncomputable def Out.ctorIdx:Out→Nat:=fun v=>v.casesOn (fun À=>0) (fun À=>1) 2 (fun À=>3) 4 (fun À=>5)
abbrev Ġ:List Nat:=[115,117,98,106,101,99,116]
abbrev ň:List Nat:=[100,97,116,101]
abbrev bK:List Nat:=[83,117,98,106,101,99,116,58,32]
abbrev cY:List Nat:=[115,117,98,106,101,99,116,58,32]
abbrev aT:List Nat:=[109,111,100,115,101,113]
abbrev Ť:List Nat:=[115,101,110,116]
abbrev ŗ:List Nat:=[98,111,100,121]
abbrev eT:List Nat:=[117,115,45,97,115,99,105,105]
abbrev cw:List Nat:=[104,101,97,100,101,114]
abbrev aS:List Nat:=[116,101,120,116]
abbrev AE:List Nat:=[84,117,101,44,32,49,32,70,101,98,32,49,57,57,52,32,50,51,58,53,57,58,54,48,32,43,48,48,48,48]
abbrev eS:List Nat:=[68,97,116,101,58,32]
abbrev eR:List Nat:=[102,108,97,103,115]
abbrev AD:List Nat:=[50,57,32,70,101,98,32,48,48,32,49,50,58,48,48,58,48,48,32,43,49,52,48,48]
abbrev dK:List Nat:=[115,105,122,101]
abbrev AB:List Nat:=[51,49,32,68,101,99,32,49,57,54,57,32,50,51,58,48,48,32,45,48,53,48,48]
abbrev AA:List Nat:=[50,32,70,101,98,32,49,57,57,52,32,48,48,58,48,48,58,48,48,32,71,77,84]
abbrev Az:List Nat:=[51,48,32,70,101,98,32,49,57,57,52,32,48,48,58,48,48,32,71,77,84]
abbrev jA:List Nat:=[98,101,102,111,114,101]
abbrev lC:List Nat:=[83,117,98,106,101,99,116]
abbrev jz:List Nat:=[100,97,116,101,58,32]
abbrev rR:List Nat:=[92,65,110,115,119,101,114,101,100]
abbrev rQ:List Nat:=[105,115,111,45,56,56,53,57,45,49]
abbrev lB:List Nat:=[108,97,114,103,101,114]
abbrev n8:List Nat:=[115,109,97,108,108,101,114]
abbrev lA:List Nat:=[115,101,118,101,110]
abbrev hV:List Nat:=[102,108,97,103]
abbrev fC:List Nat:=[13,10,13,10]
abbrev n7:List Nat:=[115,105,110,99,101]
abbrev n6:List Nat:=[117,116,102,45,56]
abbrev Ay:List Nat:=[115,117,98,106,101,99,116,58,32,120]
abbrev wD:List Nat:=[65,116,32,110,111,111,110]
abbrev lz:List Nat:=[68,97,116,101]
abbrev rP:List Nat:=[36,87,111,114,107]
abbrev rO:List Nat:=[92,83,101,101,110]
abbrev Ax:List Nat:=[99,104,97,114,115,101,116]
abbrev Hl:List Nat:=[115,101,110,116,98,101,102,111,114,101]
abbrev Aw:List Nat:=[100,97,116,101,58,32,50]
abbrev wC:List Nat:=[55,98,105,116]
abbrev fB:PE:=.c (.str [])
abbrev nZ:PE:=.c (.str [117,105,100])
abbrev jy:PE:=.c (.str ň)
abbrev wB:PE:=.c (.str [13,10])
abbrev Ì:PE:=.c (.int 1)
abbrev ç:PE:=.c (.int 0)
abbrev ţ:PE:=.c (.int 7)
abbrev Ÿ:PE:=.c (.int 2)
abbrev ly:PE:=.c (.int 2147483647)
abbrev hU:PE:=.c (.int 4)
abbrev rN:PE:=.c (.int 3)
abbrev rK:PE:=.c (.int 5)
abbrev wA:PE:=.c (.int 10)
abbrev Ã:PE:=.l 1
abbrev Ä:PE:=.l 0
abbrev Ë:PE:=.l 2
abbrev à:PE:=.l 3
abbrev û:PE:=.l 6
abbrev ā:PE:=.l 4
abbrev ğ:PE:=.k 0
abbrev aR:PE:=.l 5
abbrev dJ:PE:=.l 10
abbrev cv:PE:=.l 9
abbrev dI:PE:=.l 7
inductive Task where
 |ev (d:Nat) (e:PE) (s:St)
 |bY (d:Nat) (es:List PE) (s:St)
 |gr (d:Nat) (e:PE) (s:St)
 |hK (d:Nat) (Hz:Bool) (es:List PE) (s:St)
 |yZ (d:Nat) (v:V) (ops:List Nat) (es:List PE) (s:St)
 |CG (d:Nat) (Hz:Bool) (es:List PE) (s:St)
 |ex (d:Nat) (x:PS) (s:St)
 |dj (d:Nat) (x:List PS) (s:St)
 |pH (d:Nat) (t:PE) (b:List PS) (s:St)
 |qG (d:Nat) (t:Tg) (items:List V) (b:List PS) (s:St)
 |fh (d:Nat) (elt:PE) (tg:List Nat) (ifs:List PE) (items:List V) (acc:List V) (s:St)
 |call (d:Nat) (j:Nat) (as:List V) (H:List Cell)
 |asg (d:Nat) (t:Tg) (v:V) (s:St)
 |opt (d:Nat) (e:Option PE) (s:St)
noncomputable def Task.ctorIdx:Task→Nat:=fun v=>v.casesOn (fun À À À=>0) (fun À À À=>1) (fun À À À=>2) (fun À À À À=>3) (fun À À À À À=>4) (fun À À À À=>5) (fun À À À=>6) (fun À À À=>7) (fun À À À À=>8) (fun À À À À À=>9) (fun À À À À À À À=>10) (fun À À À À=>11) (fun À À À À=>12) (fun À À À=>13)
structure Č where
 fn:Nat→Option Fn
 gw:Nat→Nat→Option Nat
 init:Nat→Option Nat
 open_:Nat→Bool
 Fq:Nat→Bool
 lam:Nat
abbrev Res:=St×Out
theorem nS{C:Prop}{β:Type _}{x:β}(h:none=some x):C:=by cases h
theorem sN{C:Prop}{β:Type _}{x:β}(h:some x=none):C:=nS h.symm
theorem nN{C:Prop}{β:Type _}{x:β}{r:List β}(h:[]=x::r):C:=by cases h
theorem nC{C:Prop}{β:Type _}{x:β}{r:List β}(h:x::r=[]):C:=nN h.symm
theorem neT{C:Prop}{α:Type _}(t:α→Nat){x y:α}(h:x=y)(e:Þ (t x) (t y)=false):C:=by
 rw[h,jN]at e;exact Bool.noConfusion e
theorem ĕ{C:Prop}(h:true=false):C:=Bool.noConfusion h
theorem â{C:Prop}(h:false=true):C:=Bool.noConfusion h
theorem ob{α β:Type}{o:Option α}{f:α→Option β}{y:β}(h:o.bind f=some y):∃x,o=some x∧f x=some y:=by
 induction o using ş with
 |none=>exact nS h
 |some x=>exact⟨x,rfl,h⟩
theorem om{α β:Type}{o:Option α}{f:α→β}{y:β}(h:o.map f=some y):∃x,o=some x∧f x=y:=by
 induction o using ş with
 |none=>exact nS h
 |some x=>exact⟨x,rfl,ì h⟩
theorem og{α:Type}{b:Bool}{x:Option α}{y:α}(h:(if b then x else none)=some y):b=true∧x=some y:=by
 induction b using ñ with
 |false=>exact nS h
 |true=>exact⟨rfl,h⟩
theorem oa{a b:Bool}(h:(a&&b)=true):a=true∧b=true:=Kk.mp h
theorem ï{α β:Type}{o:Option α}{f:α→Option β}{y:β}{C:Prop}(h:o.bind f=some y)(k:∀x,o=some x→f x=some y→C):C:=by
 induction o using ş with
 |none=>exact nS h
 |some x=>exact k x rfl h
theorem cJ{α β:Type}{o:Option α}{f:α→β}{y:β}{C:Prop}(h:o.map f=some y)(k:∀x,o=some x→f x=y→C):C:=by
 induction o using ş with
 |none=>exact nS h
 |some x=>exact k x rfl (ì h)
theorem cy{α:Type}{b:Bool}{x:Option α}{y:α}(h:(if b then x else none)=some y):b=true:=(og h).1
theorem cn{α:Type}{b:Bool}{x:Option α}{y:α}(h:(if b then x else none)=some y):x=some y:=(og h).2
theorem aC{a b:Bool}(h:(a&&b)=true):a=true:=(oa h).1
theorem aB{a b:Bool}(h:(a&&b)=true):b=true:=(oa h).2
noncomputable def qO:V→Option Bool
 |.bool b=>some b
 |_=>none
noncomputable def qI:V→Option Int
 |.int i=>some i
 |_=>none
noncomputable def qS:V→Option (List Nat)
 |.str l=>some l
 |_=>none
noncomputable def qB:V→Option (List Nat)
 |.bytes l=>some l
 |_=>none
noncomputable def qT:V→Option (List V)
 |.tup l=>some l
 |_=>none
noncomputable def qL:V→Option (List V)
 |.lst l=>some l
 |_=>none
def Iv{α β:Type}(f:β→α)(v:α):Option β→Prop
 |none=>True
 |some b=>v=f b
theorem mO{α β:Type}{f:β→α}{v:α}{o:Option β}{b:β}(h:o=some b)(q:Iv f v o):v=f b:=by subst h;exact q
theorem iO{v:V}{b:Bool}(h:qO v=some b):v=.bool b:=mO (f:=V.bool) h (by induction v using V.casesOn<;>first|exact trivial|exact rfl)
theorem iI{v:V}{b:Int}(h:qI v=some b):v=.int b:=mO (f:=V.int) h (by induction v using V.casesOn<;>first|exact trivial|exact rfl)
theorem iS{v:V}{b:List Nat}(h:qS v=some b):v=.str b:=mO (f:=V.str) h (by induction v using V.casesOn<;>first|exact trivial|exact rfl)
theorem iB{v:V}{b:List Nat}(h:qB v=some b):v=.bytes b:=mO (f:=V.bytes) h (by induction v using V.casesOn<;>first|exact trivial|exact rfl)
theorem iT{v:V}{b:List V}(h:qT v=some b):v=.tup b:=mO (f:=V.tup) h (by induction v using V.casesOn<;>first|exact trivial|exact rfl)
theorem iL{v:V}{b:List V}(h:qL v=some b):v=.lst b:=mO (f:=V.lst) h (by induction v using V.casesOn<;>first|exact trivial|exact rfl)
noncomputable def q1{α:Type}:List α→Option α
 |[]=>none
 |x::r=>match r with
  |[]=>some x
  |_::_=>none
def q2{α:Type}:List α→Option (α×α)
 |[]=>none
 |x::r=>(q1 r).map fun y=>(x,y)
def q3{α:Type}:List α→Option (α×α×α)
 |[]=>none
 |x::r=>(q2 r).map fun y=>(x,y)
theorem i1{α:Type}{l:List α}{x:α}(h:q1 l=some x):l=[x]:=by
 induction l using Ū with
 |nil=>exact nS h
 |cons y r=>induction r using Ū with
  |nil=>(replace h:=ì h;subst h);rfl
  |cons=>exact nS h
theorem i2{α:Type}{l:List α}{x:α×α}(h:q2 l=some x):l=[x.1,x.2]:=by
 induction l using Ū with
 |nil=>exact nS h
 |cons y r=>refine cJ h fun z h1 h2=>?_;subst h2;rw[i1 h1]
theorem i3{α:Type}{l:List α}{x:α×α×α}(h:q3 l=some x):l=[x.1,x.2.1,x.2.2]:=by
 induction l using Ū with
 |nil=>exact nS h
 |cons y r=>refine cJ h fun z h1 h2=>?_;subst h2;rw[i2 h1]
noncomputable def é{α:Type}:List α→Nat→Option α
 |[],_=>none
 |x::r,i=>match i with
  |0=>some x
  |i+1=>é r i
noncomputable def put{α:Type}:List α→Nat→α→List α
 |[],_,_=>[]
 |y::r,i,x=>match i with
  |0=>x::r
  |i+1=>y::put r i x
noncomputable abbrev aw:Cell→V
 |.lst l=>.lst l
 |.aX l=>.aX l
 |.ins c l=>.ins c l
 |.Ô v=>v
def view(H:List Cell):V→Option V
 |.Ó i=>(é H i).map aw
 |v=>some v
def fb(H:List Cell)(i:Nat):Cell→List Cell×V
 |.lst l=>(put H i (.Ô (.lst l)),.lst l)
 |.aX l=>(put H i (.Ô (.aX l)),.aX l)
 |.ins c l=>(put H i (.Ô (.ins c l)),.ins c l)
 |.Ô v=>(H,v)
def Ô(H:List Cell):V→Option (List Cell×V)
 |.Ó i=>(é H i).map (fb H i)
 |v=>some (H,v)
noncomputable def ē:List Cell→List V→Option (List Cell×List V)
 |H,[]=>some (H,[])
 |H,v::r=>(Ô H v).bind fun p=>(ē p.1 r).bind fun q=>some (q.1,p.2::q.2)
noncomputable def Ø:List Nat→List Nat→Bool
 |[],[]=>true
 |a::r,b::t=>Þ a b&&Ø r t
 |_,_=>false
noncomputable def qg:List Nat→List Nat→Bool
 |[],[]=>false
 |[],_::_=>true
 |_::_,[]=>false
 |a::r,b::t=>Đ a b||(Þ a b&&qg r t)
noncomputable def gI(a b:Int):Bool:=decide (a=b)
noncomputable def Ī(a b:Int):Bool:=decide (a<b)
noncomputable def gc(a b:Int):Bool:=decide (a≤b)
noncomputable def pM(f:V→V→Option Bool):List V→List V→Option Bool
 |[],b=>match b with
  |[]=>some true
  |_::_=>none
 |a::r,b=>match b with
  |[]=>none
  |b::t=>(f a b).bind fun p=>(pM f r t).bind fun q=>some (p&&q)
noncomputable def ej{α β:Type}:List α→List β→Bool
 |[],b=>match b with
  |[]=>true
  |_::_=>false
 |_::r,b=>match b with
  |[]=>false
  |_::t=>ej r t
noncomputable def gq:Nat→V→V→Option Bool
 |0,_,_=>none
 |n+1,a,b=>match a with
  |.bool a=>(qO b).bind fun b=>some (a==b)
  |.int a=>(qI b).bind fun b=>some (gI a b)
  |.str a=>(qS b).bind fun b=>some (Ø a b)
  |.bytes a=>(qB b).bind fun b=>some (Ø a b)
  |.tup a=>(qT b).bind fun b=>pM (gq n) a b
  |.lst a=>(qL b).bind fun b=>if ej a b then pM (gq n) a b else some false
  |_=>none
def gN:V→V→Option Bool:=gq 8
def days(l:List V):Option (Int×Int×Int):=(q3 l).bind fun p=>(qI p.1).bind fun a=>(qI p.2.1).bind fun b=>(qI p.2.2).bind fun c=>some (a,b,c)
def Bt(l m:List V):Option Bool:=(days l).bind fun a=>(days m).bind fun b=>some (Ī a.1 b.1||(gI a.1 b.1&&(Ī a.2.1 b.2.1||(gI a.2.1 b.2.1&&Ī a.2.2 b.2.2))))
noncomputable def lY:List Nat→List Nat→Bool
 |[],_=>true
 |_::_,[]=>false
 |a::r,b::t=>Þ a b&&lY r t
noncomputable def ř(x:List Nat):List Nat→Bool
 |[]=>lY x []
 |b::t=>lY x (b::t)||ř x t
noncomputable def e_(x:V):List V→Option Bool
 |[]=>some false
 |y::r=>(gN y x).bind fun p=>(e_ x r).bind fun q=>some (p||q)
noncomputable def isAtom:V→Bool
 |.bool _=>true
 |.int _=>true
 |.str _=>true
 |.bytes _=>true
 |_=>false
noncomputable def ip:V→Bool
 |.none=>true
 |_=>false
noncomputable def big:Int:=18446744073709551616
def isIn(a b:V):Option Bool:=match b with
 |.str y=>(qS a).bind fun x=>some (ř x y)
 |.bytes y=>match a with
  |.bytes x=>(q1 x).bind fun x=>some (y.any (Þ x))
  |.int x=>if gc 0 x&&Ī x 256 then some (y.any (Þ x.toNat))else none
  |_=>none
 |.tup l=>if isAtom a then e_ a l else none
 |.lst l=>if isAtom a then e_ a l else none
 |_=>none
def cmp(op:Nat)(a b:V):Option Bool:=match op with
 |0=>gN a b
 |1=>(gN a b).map not
 |2=>match a with
  |.int x=>(qI b).bind fun y=>some (Ī x y)
  |.tup x=>(qT b).bind fun y=>Bt x y
  |_=>none
 |3=>match a with
  |.int x=>(qI b).bind fun y=>some (gc x y)
  |.str x=>(qS b).bind fun y=>some (!qg y x)
  |_=>none
 |4=>(qI a).bind fun x=>(qI b).bind fun y=>some (Ī y x)
 |5=>match a with
  |.int x=>(qI b).bind fun y=>some (gc y x)
  |.tup x=>(qT b).bind fun y=>(Bt x y).map not
  |_=>none
 |6=>if ip b then some (ip a)else none
 |7=>if ip b then some (!ip a)else none
 |8=>isIn a b
 |9=>(isIn a b).map not
 |_=>none
noncomputable def small{α:Type}(l:List α):Bool:=Đ l.length 1000000
noncomputable def j_:Int:=10715086071862673209484250490600018105614048117055336074437503883703510511249361224931983788156958581275946729175531468251871452856923140435984577574698574803934567774824230985421074605062371141877954182153046474983581941267398767559165543946077062914571196477686542167660429831652624386837205668069376
def pI(a b:V):Option (Int×Int):=(qI a).bind fun x=>(qI b).bind fun y=>some (x,y)
def bin(op:Nat)(a b:V):Option V:=match op with
 |0=>match a with
  |.int x=>(qI b).bind fun y=>some (.int (x+y))
  |.str x=>(qS b).bind fun y=>if small x&&small y then some (.str (x++y))else none
  |.lst x=>(qL b).bind fun y=>if small x&&small y then some (.lst (x++y))else none
  |_=>none
 |1=>(pI a b).bind fun p=>some (.int (p.1 - p.2))
 |2=>(pI a b).bind fun p=>if Ī p.1.natAbs big&&Ī p.2.natAbs big then some (.int (p.1*p.2))else none
 |3=>(pI a b).bind fun p=>if Ī 0 p.2&&Ī p.2 j_ then some (.int (p.1 / p.2))else none
 |4=>(pI a b).bind fun p=>if Ī 0 p.2&&Ī p.2 j_ then some (.int (p.1 % p.2))else none
 |5=>(pI a b).bind fun p=>if gI p.1 10&&(gI p.2 15||gI p.2 200)then some (.int (10^p.2.toNat))else none
 |_=>none
def truth:V→Option Bool
 |.bool b=>some b
 |.none=>some false
 |.int i=>some (!gI i 0)
 |.str l=>if small l then some (!l.isEmpty)else none
 |.bytes l=>if small l then some (!l.isEmpty)else none
 |.lst l=>if small l then some (!l.isEmpty)else none
 |_=>none
def clamp(n:Nat)(i:Int):Nat:=if Ī i 0 then(i+n).toNat else min i.toNat n
def bound(n:Nat)(dflt:Nat):Option V→Option Nat
 |none=>some dflt
 |some v=>(qI v).bind fun i=>some (clamp n i)
noncomputable def part{α:Type}(l:List α)(a b:Nat):List α:=(l.drop a).take (b - a)
def cut{α:Type}(l:List α)(lo hi:Option V)(f:List α→V):Option V:=if small l then(bound l.length 0 lo).bind fun a=>(bound l.length l.length hi).bind fun b=>some (f (part l a b))else none
def slice(v:V)(lo hi st:Option V):Option V:=match st with
 |none=>match v with
  |.str l=>cut l lo hi .str
  |.bytes l=>cut l lo hi .bytes
  |.tup l=>cut l lo hi .tup
  |.lst l=>cut l lo hi .lst
  |_=>none
 |some s=>(qI s).bind fun i=>(qL v).bind fun l=>if gI i (-1)&&(lo.isNone&&hi.isNone)&&small l then some (.lst l.reverse)else none
def at_{α:Type}(l:List α)(i:Int):Option α:=if Ī i 0 then(if Ī (i+l.length) 0 then none else é l (i+l.length).toNat)else é l i.toNat
noncomputable def look(k:List Nat):List (List Nat×V)→Option V
 |[]=>none
 |p::r=>if Ø p.1 k then some p.2 else look k r
noncomputable def lW:List (List Nat×V)→Bool
 |[]=>true
 |p::r=> !(r.any fun q=>Ø q.1 p.1)&&lW r
noncomputable def dput(k:List Nat)(v:V):List (List Nat×V)→List (List Nat×V)
 |[]=>[(k,v)]
 |p::r=>if Ø p.1 k then(p.1,v)::r else p::dput k v r
noncomputable def d7(k:Nat):List (Nat×V)→Option V
 |[]=>none
 |p::r=>if Þ p.1 k then some p.2 else d7 k r
noncomputable def gX(k:Nat)(v:V):List (Nat×V)→List (Nat×V)
 |[]=>[(k,v)]
 |p::r=>if Þ p.1 k then(k,v)::r else p::gX k v r
def Ć(i:Int):Bool:=Ī i 1000000&&Ī (-1000000) i
def item(v i:V):Option V:=match v with
 |.tup l=>(qI i).bind fun i=>if Ć i then at_ l i else none
 |.lst l=>(qI i).bind fun i=>if Ć i then at_ l i else none
 |.str l=>(qI i).bind fun i=>if Ć i then(at_ l i).map fun c=>.str [c]else none
 |.bytes l=>(qI i).bind fun i=>if Ć i then(at_ l i).map (fun (c:Nat)=>V.int (c:Int))else none
 |.aX l=>(qS i).bind fun k=>look k l
 |_=>none
noncomputable def dP(c:Nat):Nat:=if aj 65 c&&aj c 90 then c+32 else c
noncomputable def ascii(l:List Nat):Bool:=l.all fun c=>Đ c 128
noncomputable def uA:List V→Option (List (List Nat))
 |[]=>some []
 |v::r=>(qS v).bind fun x=>(uA r).map (x:: ·)
noncomputable def iX:List V→Option (List Nat)
 |[]=>some []
 |v::r=>(qI v).bind fun x=>if gc 0 x&&Ī x 256 then(iX r).map (x.toNat:: ·)else none
noncomputable def mL(a:Int):Nat→List V
 |0=>[]
 |n+1=>.int a::mL (a+1) n
noncomputable def digits(acc:Nat):List Nat→Option Nat
 |[]=>some acc
 |c::r=>if aj 48 c&&aj c 57 then digits (acc*10+(c - 48)) r else none
noncomputable def bA(n:Nat):List V→List V
 |[]=>[]
 |v::r=>.tup [.int n,v]::bA (n+1) r
noncomputable def eg:List Nat→List Nat→List V
 |[],acc=>[.str acc.reverse]
 |c::r,acc=>if Þ c 32 then .str acc.reverse::eg r []else eg r (c::acc)
noncomputable def iz(x:Nat):List Nat→Nat→Option Nat
 |[],_=>none
 |c::r,n=>if Þ c x then some n else iz x r (n+1)
noncomputable def iA(s:List Nat):List Nat→List Nat
 |[]=>[]
 |c::r=>if s.any (Þ c)then iA s r else c::r
noncomputable def idxOf(x:V):List V→Nat→Option Nat
 |[],_=>none
 |y::r,n=>(gN y x).bind fun p=>match p with
  |true=>(e_ x r).bind fun À=>some n
  |false=>idxOf x r (n+1)
def lenOf:V→Option V
 |.str l=>if small l then some (.int l.length)else none
 |.bytes l=>if small l then some (.int l.length)else none
 |.tup l=>if small l then some (.int l.length)else none
 |.lst l=>if small l then some (.int l.length)else none
 |_=>none
def JP(l:List V):Option (Int×Int):=(q2 l).bind fun p=>pI p.1 p.2
def blt(b:Nat)(as:List V):Option V:=match b with
 |0=>(q1 as).bind lenOf
 |1=>(q1 as).bind fun v=>(qI v).bind fun i=>if gc 0 i&&Ī i 55296 then some (.str [i.toNat])else none
 |2=>(q1 as).bind fun v=>match v with
  |.int i=>some (.int i)
  |.str l=>if l.isEmpty||aj 10 l.length then none else(digits 0 l).map fun n=>.int n
  |_=>none
 |3=>(q1 as).bind fun v=>(qS v).bind fun l=>(q1 l).map fun (c:Nat)=>.int (c:Int)
 |4=>(q1 as).bind fun v=>(qI v).map fun i=>.int i.natAbs
 |5=>(q1 as).bind fun v=>match v with
  |.tup l=>some (.tup l)
  |.lst l=>if small l then some (.tup l)else none
  |_=>none
 |6=>(JP as).map fun p=>.int (if Ī p.2 p.1 then p.2 else p.1)
 |7=>(JP as).map fun p=>.int (if Ī p.1 p.2 then p.2 else p.1)
 |8=>(q1 as).bind fun v=>(qL v).bind fun l=>if small l then(iX l).map .bytes else none
 |9=>(q1 as).bind fun v=>(qL v).bind fun l=>(JP l).map fun p=>.lst (if Ī p.2 p.1 then[.int p.2,.int p.1]else[.int p.1,.int p.2])
 |_=>none
noncomputable def ux:List Nat:=[92,83,101,101,110,32,92,65,110,115,119,101,114,101,100,32,92,70,108,97,103,103,101,100,32,92,68,101,108,101,116,101,100,32,92,68,114,97,102,116]
noncomputable def JY:V→Option V
 |.lst _=>none
 |v=>some v
def Oi(l:List Nat)(x:Nat)(a b:Int):V:=.int (match iz x (part l a.toNat b.toNat) a.toNat with|some n=>n|none=> -1)
def oi(k:Nat)(o:V)(as:List V):Option V:=match k with
 |1=>(qS o).bind fun l=>(q1 as).bind fun v=>(qS v).bind fun s=>if Ø l ux&&Ø s [32]then some (.lst (eg l []))else none
 |2=>(qS o).bind fun l=>if ascii l&&small l&&as.isEmpty then some (.str (l.map dP))else none
 |3=>(qS o).bind fun l=>(q1 as).bind fun v=>(qL v).bind fun m=>(uA m).bind fun x=>if small m&&small x.flatten&&l.isEmpty then some (.str x.flatten)else none
 |4=>(qB o).bind fun l=>(q1 as).bind fun v=>(qL v).bind fun m=>(q1 m).bind fun u=>(qB u).bind fun x=>if l.isEmpty then some (.bytes x)else none
 |5=>(qB o).bind fun l=>(q3 as).bind fun p=>(qB p.1).bind fun s=>(q1 s).bind fun x=>(pI p.2.1 p.2.2).bind fun q=>if small l&&gc 0 q.1&&gc q.1 q.2&&gc q.2 l.length then some (Oi l x q.1 q.2)else none
 |6=>(qB o).bind fun l=>(q1 as).bind fun v=>(qB v).bind fun s=>if small l then some (.bytes (iA s (iA s l).reverse).reverse)else none
 |7=>(qL o).bind fun l=>(q1 as).bind fun v=>(qS v).bind fun x=>if small l then(idxOf (.str x) l 0).map fun (n:Nat)=>.int (n:Int)else none
 |8=>match o with
  |.aX l=>(q2 as).bind fun p=>(qS p.1).bind fun k=>JY ((look k l).getD p.2)
  |_=>none
 |_=>none
noncomputable def wd:V→Nat
 |.str _=>1
 |.bytes _=>2
 |.lst _=>3
 |.aX _=>4
 |_=>0
noncomputable def V4:List (Nat×Nat×Nat):=[(0,1,1),(1,1,2),(2,1,3),(2,2,4),(3,2,5),(4,2,6),(5,3,7),(6,4,8),(7,3,9),(8,3,10),(9,3,11)]
noncomputable def LN(a t:Nat):List (Nat×Nat×Nat)→Nat
 |[]=>0
 |p::r=>if Þ p.1 a&&Þ p.2.1 t then p.2.2 else LN a t r
def kd(a:Nat)(v:Option V):Nat:=match v with
 |some v=>LN a (wd v) V4
 |none=>0
noncomputable def sQ:V→Option (Nat×List (Nat×V))
 |.ins c l=>some (c,l)
 |_=>none
def fields(H:List Cell)(v:V):Option (Nat×List (Nat×V)):=(view H v).bind sQ
noncomputable def items:V→Option (List V)
 |.tup l=>some l
 |.lst l=>some l
 |.str l=>some (l.map fun c=>.str [c])
 |.bytes l=>some (l.map fun (c:Nat)=>V.int (c:Int))
 |_=>none
noncomputable def Ð:V→Bool
 |.Ó _=>false
 |_=>true
def Ş(s:St)(k:Bool)(i:Nat)(v:V):Option St:=match k with
 |true=>(é s.κ i).map fun À=>{s with κ:=put s.κ i (some v)}
 |false=>(é s.ρ i).map fun À=>{s with ρ:=put s.ρ i (some v)}
noncomputable def Ď(s:St):List (Bool×Nat)→List V→Option St
 |[],vs=>match vs with
  |[]=>some s
  |_::_=>none
 |p::r,vs=>match vs with
  |[]=>none
  |v::t=>(Ş s p.1 p.2 v).bind fun s=>Ď s r t
noncomputable def pS:List Nat→Tg
 |[]=>.t []
 |i::r=>match r with
  |[]=>.n false i
  |_::_=>.t ((i::r).map fun i=>(false,i))
noncomputable def padded(as mq:List V)(n:Nat):List V:=as++mq.drop (mq.length - (n - as.length))
noncomputable def made(H:List Cell):V→List Cell×V
 |.lst l=>(H++[.lst l],.Ó H.length)
 |v=>(H,v)
def keyOf:PE→Option (List Nat)
 |.c v=>qS v
 |_=>none
noncomputable def dictOf:List PE→List V→Option (List (List Nat×V))
 |[],vs=>match vs with
  |[]=>some []
  |_::_=>none
 |k::ks,vs=>match vs with
  |[]=>none
  |v::vs=>(keyOf k).bind fun k=>(dictOf ks vs).map fun l=>(k,v)::l
noncomputable def pW:PE→Bool
 |.nt _=>false
 |.bo _ _=>false
 |.te _ _ _=>false
 |.cm _ _ _=>false
 |.no=>false
 |_=>true
noncomputable def Bs:Out→Bool
 |.next=>true
 |_=>false
noncomputable def PN(k:Nat):Bool:=aj 1 k&&aj k 8
abbrev L:=List Cell
abbrev Jd:=Task→Res→Prop
abbrev DI(P:Č)(M:Jd):Prop:=∀{d kk n v S Å} (h:Ş S kk n v=some Å),M (.asg d (.n kk n) v S) (Å,.next)
abbrev DH(P:Č)(M:Jd):Prop:=∀{d q v S Å} {vs:List V} (h:view S.H v=some (.tup vs)) (h2:Ď S q vs=some Å),M (.asg d (.t q) v S) (Å,.next)
abbrev DJ(P:Č)(M:Jd):Prop:=∀{d o n v v' S ρ κ m c j l} {H H₁ Ö:L} (h1:M (.ev d o S) (⟨H,ρ,κ⟩,.val (.Ó m))) (h2:Ô H v=some (H₁,v')) (h3:é H₁ m=some (.ins c l)) (h4:P.init c=some j) (h5:P.gw c n=none) (h6:put H₁ m (.ins c (gX n v' l))=Ö),M (.asg d (.a o n) v S) (⟨Ö,ρ,κ⟩,.next)
abbrev xP(P:Č)(M:Jd):Prop:=∀{d o i v v' S Å ρ κ m} {H H₁ Ö:L} {l l':List V} {q:Int} (h1:M (.ev d o S) (Å,.val (.Ó m))) (h2:M (.ev d i Å) (⟨H,ρ,κ⟩,.val (.int q))) (h3:Ô H v=some (H₁,v')) (h4:é H₁ m=some (.lst l)) (h5:(gc 0 q&&Ī q l.length&&Ī q 1000000)=true) (h6:put l q.toNat v'=l') (h7:put H₁ m (.lst l')=Ö),M (.asg d (.s o i) v S) (⟨Ö,ρ,κ⟩,.next)
abbrev xQ(P:Č)(M:Jd):Prop:=∀{d o i v v' S Å ρ κ m} {H H₁ Ö:L} {l:List (List Nat×V)} {q:List Nat} (h1:M (.ev d o S) (Å,.val (.Ó m))) (h2:M (.ev d i Å) (⟨H,ρ,κ⟩,.val (.str q))) (h3:Ô H v=some (H₁,v')) (h4:é H₁ m=some (.aX l)) (h5:small l=true) (h7:put H₁ m (.aX (dput q v' l))=Ö),M (.asg d (.s o i) v S) (⟨Ö,ρ,κ⟩,.next)
abbrev Ic(P:Č)(M:Jd):Prop:=∀{d v S},M (.ev d (.c v) S) (S,.val v)
abbrev Ia(P:Č)(M:Jd):Prop:=∀{d n S v} (h:é S.ρ n=some (some v)),M (.ev d (.l n) S) (S,.val v)
abbrev Ib(P:Č)(M:Jd):Prop:=∀{d n S v} (h:é S.κ n=some (some v)),M (.ev d (.k n) S) (S,.val v)
abbrev DE(P:Č)(M:Jd):Prop:=∀{d e n S v x ρ κ c l j} {H:L} (h1:M (.ev d e S) (⟨H,ρ,κ⟩,.val v)) (h2:fields H v=some (c,l)) (h3:P.init c=some j) (h4:P.gw c n=none) (h5:d7 n l=some x),M (.ev d (.at e n) S) (⟨H,ρ,κ⟩,.val x)
abbrev Du(P:Č)(M:Jd):Prop:=∀{d as j S ρ κ á ë vs v} {H H₁:L} (h1:M (.bY d as S) (⟨H,ρ,κ⟩,.vals vs)) (h2:M (.call d j vs H) (⟨H₁,á,ë⟩,.val v)),M (.ev d (.fn j as) S) (⟨H₁,ρ,κ⟩,.val v)
abbrev Dt(P:Č)(M:Jd):Prop:=∀{d as j S ρ κ á ë vs} {H H₁:L} (h1:M (.bY d as S) (⟨H,ρ,κ⟩,.vals vs)) (h2:M (.call d j vs H) (⟨H₁,á,ë⟩,.exc)),M (.ev d (.fn j as) S) (⟨H₁,ρ,κ⟩,.exc)
abbrev DA(P:Č)(M:Jd):Prop:=∀{d as c j S ρ κ á ë vs v} {H H₁ Ö:L} (h1:M (.bY (d+1) as S) (⟨H,ρ,κ⟩,.vals vs)) (h2:P.init c=some j) (h3:M (.call d j (.Ó H.length::vs) (H++[.ins c []])) (⟨H₁,á,ë⟩,.val .none)) (h4:P.Fq c=false) (h5:Ô H₁ (.Ó H.length)=some (Ö,v)),M (.ev (d+1) (.cl c as) S) (⟨Ö,ρ,κ⟩,.val v)
abbrev Dz(P:Č)(M:Jd):Prop:=∀{d as c j S ρ κ á ë vs} {H H₁:L} (h1:M (.bY (d+1) as S) (⟨H,ρ,κ⟩,.vals vs)) (h2:P.init c=some j) (h3:M (.call d j (.Ó H.length::vs) (H++[.ins c []])) (⟨H₁,á,ë⟩,.val .none)) (h4:P.Fq c=true),M (.ev (d+1) (.cl c as) S) (⟨H₁,ρ,κ⟩,.val (.Ó H.length))
abbrev DC(P:Č)(M:Jd):Prop:=∀{d as n S ρ κ vs vs' v v'} {H H₁ Ö:L} (h1:M (.bY d as S) (⟨H,ρ,κ⟩,.vals vs)) (h2:ē H vs=some (H₁,vs')) (h3:blt n vs'=some v) (h4:made H₁ v=(Ö,v')),M (.ev d (.bl n as) S) (⟨Ö,ρ,κ⟩,.val v')
abbrev tY(P:Č)(M:Jd):Prop:=∀{d as S ρ κ vs} {H H₁:L} {p q:Int} (h1:M (.bY d as S) (⟨H,ρ,κ⟩,.vals vs)) (h2:ē H vs=some (H₁,[.int p,.int q])) (h3:(Ć p&&Ć q)=true),M (.ev d (.bl 10 as) S) (⟨H₁++[.lst (mL p (q - p).toNat)],ρ,κ⟩,.val (.Ó H₁.length))
abbrev tX(P:Č)(M:Jd):Prop:=∀{d as S ρ κ vs} {H H₁:L} {p:Int} (h1:M (.bY d as S) (⟨H,ρ,κ⟩,.vals vs)) (h2:ē H vs=some (H₁,[.int p])) (h3:Ć p=true),M (.ev d (.bl 11 as) S) (⟨H₁,ρ,κ⟩,.val (.tup (mL 0 p.toNat)))
abbrev pG(P:Č)(M:Jd):Prop:=∀{d as S ρ κ vs} {H H₁:L} {p q:Int} (h1:M (.bY d as S) (⟨H,ρ,κ⟩,.vals vs)) (h2:ē H vs=some (H₁,[.int p,.int q])) (h3:(Ć p&&Ć q)=true),M (.ev d (.bl 11 as) S) (⟨H₁,ρ,κ⟩,.val (.tup (mL p (q - p).toNat)))
abbrev tW(P:Č)(M:Jd):Prop:=∀{d as S ρ κ vs l} {H H₁:L} (h1:M (.bY d as S) (⟨H,ρ,κ⟩,.vals vs)) (h2:ē H vs=some (H₁,[.lst l])),M (.ev d (.bl 12 as) S) (⟨H₁,ρ,κ⟩,.val (.tup (bA 0 l)))
abbrev Dp(P:Č)(M:Jd):Prop:=∀{d e as S Å ρ κ á ë x y v v'} {H H₁:L} (h1:M (.ev (d+1) e S) (Å,.val (.g9 [x,y]))) (h2:M (.bY (d+1) as Å) (⟨H,ρ,κ⟩,.vals [v])) (h3:M (.call d P.lam [v,x,y] H) (⟨H₁,á,ë⟩,.val v')),M (.ev (d+1) (.lo e as) S) (⟨H₁,ρ,κ⟩,.val v')
abbrev xI(P:Č)(M:Jd):Prop:=∀{d o n as S ρ κ á ë Ŕ Ĺ v c l m j vs x} {H H₁ Ö:L} (h1:M (.ev d o S) (⟨H,ρ,κ⟩,.val v)) (h2:fields H v=some (c,l)) (h3:P.init c=some m) (h4:d7 n l=none) (h5:P.gw c n=some j) (h6:M (.bY d as ⟨H,ρ,κ⟩) (⟨H₁,á,ë⟩,.vals vs)) (h7:M (.call d j (v::vs) H₁) (⟨Ö,Ŕ,Ĺ⟩,.val x)),M (.ev d (.me o n as) S) (⟨Ö,á,ë⟩,.val x)
abbrev xK(P:Č)(M:Jd):Prop:=∀{d o n as S ρ κ á ë m x x'} {H H₁ Ö ų:L} {l:List V} (h1:M (.ev d o S) (⟨H,ρ,κ⟩,.val (.Ó m))) (h3:kd n (view H (.Ó m))=9) (h4:M (.bY d as ⟨H,ρ,κ⟩) (⟨H₁,á,ë⟩,.vals [x])) (h5:Ô H₁ x=some (Ö,x')) (h6:é Ö m=some (.lst l)) (h7:small l=true) (h8:put Ö m (.lst (l++[x']))=ų),M (.ev d (.me o n as) S) (⟨ų,á,ë⟩,.val .none)
abbrev xG(P:Č)(M:Jd):Prop:=∀{d o n as S ρ κ á ë m x} {H H₁ Ö:L} {l r:List V} (h1:M (.ev d o S) (⟨H,ρ,κ⟩,.val (.Ó m))) (h3:kd n (view H (.Ó m))=10) (h4:M (.bY d as ⟨H,ρ,κ⟩) (⟨H₁,á,ë⟩,.vals [])) (h6:é H₁ m=some (.lst l)) (h7:small l=true) (h8:l.reverse=x::r) (h9:put H₁ m (.lst r.reverse)=Ö),M (.ev d (.me o n as) S) (⟨Ö,á,ë⟩,.val x)
abbrev xJ(P:Č)(M:Jd):Prop:=∀{d o n as S ρ κ á ë m x} {H H₁ Ö ų:L} {l q:List V} (h1:M (.ev d o S) (⟨H,ρ,κ⟩,.val (.Ó m))) (h3:kd n (view H (.Ó m))=11) (h4:M (.bY d as ⟨H,ρ,κ⟩) (⟨H₁,á,ë⟩,.vals [x])) (h5:Ô H₁ x=some (Ö,.lst q)) (h6:é Ö m=some (.lst l)) (h7:(small l&&small q)=true) (h8:put Ö m (.lst (l++q))=ų),M (.ev d (.me o n as) S) (⟨ų,á,ë⟩,.val .none)
abbrev xH(P:Č)(M:Jd):Prop:=∀{d o n as S ρ κ á ë k v v' vs vs' x x'} {H H₁ Ö ų ub:L} (h1:M (.ev d o S) (⟨H,ρ,κ⟩,.val v)) (h3:kd n (view H v)=k) (hk:PN k=true) (h4:M (.bY d as ⟨H,ρ,κ⟩) (⟨H₁,á,ë⟩,.vals vs)) (h5:Ô H₁ v=some (Ö,v')) (h6:ē Ö vs=some (ų,vs')) (h7:oi k v' vs'=some x) (h8:made ų x=(ub,x')),M (.ev d (.me o n as) S) (⟨ub,á,ë⟩,.val x')
abbrev Ds(P:Č)(M:Jd):Prop:=∀{d o i S Å ρ κ v v' x y} {H:L} (h1:M (.ev d o S) (Å,.val v)) (h2:M (.ev d i Å) (⟨H,ρ,κ⟩,.val x)) (h3:view H v=some v') (h4:item v' x=some y),M (.ev d (.ix o i) S) (⟨H,ρ,κ⟩,.val y)
abbrev Dl(P:Č)(M:Jd):Prop:=∀{d o lo hi st S Å Í ĩ ρ κ oq pd Ċ v v' x x'} {H H₁:L} (h1:M (.ev d o S) (Å,.val v)) (h2:M (.opt d lo Å) (Í,.ov oq)) (h3:M (.opt d hi Í) (ĩ,.ov pd)) (h4:M (.opt d st ĩ) (⟨H,ρ,κ⟩,.ov Ċ)) (h5:view H v=some v') (h6:slice v' oq pd Ċ=some x) (h7:made H x=(H₁,x')),M (.ev d (.sl o lo hi st) S) (⟨H₁,ρ,κ⟩,.val x')
abbrev DD(P:Č)(M:Jd):Prop:=∀{d n a b S Å ρ κ x y x' y' v v'} {H H₁ Ö ų:L} (h1:M (.ev d a S) (Å,.val x)) (h2:M (.ev d b Å) (⟨H,ρ,κ⟩,.val y)) (h3:Ô H x=some (H₁,x')) (h4:Ô H₁ y=some (Ö,y')) (h5:bin n x' y'=some v) (h6:made Ö v=(ų,v')),M (.ev d (.bi n a b) S) (⟨ų,ρ,κ⟩,.val v')
abbrev Dx(P:Č)(M:Jd):Prop:=∀{d a ops bs S Å Í x q} (h1:M (.ev d a S) (Å,.val x)) (h2:M (.yZ d x ops bs Å) (Í,.val (.bool q))),M (.ev d (.cm a ops bs) S) (Í,.val (.bool q))
abbrev DB(P:Č)(M:Jd):Prop:=∀{d q es S Å v} (h1:M (.CG d q es S) (Å,.val v)),M (.ev d (.bo q es) S) (Å,.val v)
abbrev Dm(P:Č)(M:Jd):Prop:=∀{d e S ρ κ v v' q} {H:L} (h1:M (.ev d e S) (⟨H,ρ,κ⟩,.val v)) (h2:view H v=some v') (h3:truth v'=some q),M (.ev d (.nt e) S) (⟨H,ρ,κ⟩,.val (.bool !q))
abbrev Dn(P:Č)(M:Jd):Prop:=∀{d e S Å q} (h1:M (.ev d e S) (Å,.val (.int q))),M (.ev d (.ng e) S) (Å,.val (.int (-q)))
abbrev xF(P:Č)(M:Jd):Prop:=∀{d t a b S Å Í q v} (h1:M (.gr d t S) (Å,.val (.bool q))) (h2:q=true→M (.ev d a Å) (Í,.val v)) (h3:q=false→M (.ev d b Å) (Í,.val v)),M (.ev d (.te t a b) S) (Í,.val v)
abbrev Dk(P:Č)(M:Jd):Prop:=∀{d es S ρ κ vs vs'} {H H₁:L} (h1:M (.bY d es S) (⟨H,ρ,κ⟩,.vals vs)) (h2:ē H vs=some (H₁,vs')) (h3:small vs'=true),M (.ev d (.tu es) S) (⟨H₁,ρ,κ⟩,.val (.tup vs'))
abbrev Dq(P:Č)(M:Jd):Prop:=∀{d es S ρ κ vs vs'} {H H₁:L} (h1:M (.bY d es S) (⟨H,ρ,κ⟩,.vals vs)) (h2:ē H vs=some (H₁,vs')) (h3:small vs'=true),M (.ev d (.li es) S) (⟨H₁++[.lst vs'],ρ,κ⟩,.val (.Ó H₁.length))
abbrev Dv(P:Č)(M:Jd):Prop:=∀{d ks es S ρ κ vs vs' l} {H H₁:L} (h1:M (.bY d es S) (⟨H,ρ,κ⟩,.vals vs)) (h2:ē H vs=some (H₁,vs')) (h3:dictOf ks vs'=some l) (h4:lW l=true),M (.ev d (.di ks es) S) (⟨H₁++[.aX l],ρ,κ⟩,.val (.Ó H₁.length))
abbrev Dy(P:Č)(M:Jd):Prop:=∀{d elt tg it ifs n S ρ κ Ŕ Ĺ v v' l vs} {H H₁ Ö:L} (h1:M (.ev (d+1) it S) (⟨H,ρ,κ⟩,.val v)) (h2:Ô H v=some (H₁,v')) (h3:items v'=some l) (h4:M (.fh d elt tg ifs l [] ⟨H₁,Ħ n none,κ⟩) (⟨Ö,Ŕ,Ĺ⟩,.vals vs)),M (.ev (d+1) (.co elt tg it ifs n) S) (⟨Ö++[.lst vs],ρ,Ĺ⟩,.val (.Ó Ö.length))
abbrev Dr(P:Č)(M:Jd):Prop:=∀{d ρ κ x y vs} {H H₁:L} (h1:é κ 0=some (some x)) (h2:é κ 1=some (some y)) (h3:ē H [x,y]=some (H₁,vs)),M (.ev d .la ⟨H,ρ,κ⟩) (⟨H₁,ρ,[]⟩,.val (.g9 vs))
abbrev Ig(P:Č)(M:Jd):Prop:=∀{d S},M (.opt d none S) (S,.ov none)
abbrev Ie(P:Č)(M:Jd):Prop:=∀{d e S Å v} (h:M (.ev d e S) (Å,.val v)),M (.opt d (some e) S) (Å,.ov (some v))
abbrev Di(P:Č)(M:Jd):Prop:=∀{d S},M (.bY d [] S) (S,.vals [])
abbrev Dj(P:Č)(M:Jd):Prop:=∀{d e es S Å Í v vs} (h1:M (.ev d e S) (Å,.val v)) (h2:M (.bY d es Å) (Í,.vals vs)),M (.bY d (e::es) S) (Í,.vals (v::vs))
abbrev De(P:Č)(M:Jd):Prop:=∀{d e S Å q} (h1:M (.gr d e S) (Å,.val (.bool q))),M (.gr d (.nt e) S) (Å,.val (.bool !q))
abbrev Dh(P:Č)(M:Jd):Prop:=∀{d q p es S Å} (h1:M (.hK d q es S) (Å,.val (.bool p))),M (.gr d (.bo q es) S) (Å,.val (.bool p))
abbrev Dd(P:Č)(M:Jd):Prop:=∀{d t a b S Å Í q p} (h1:M (.gr d t S) (Å,.val (.bool q))) (h2:q=true→M (.gr d a Å) (Í,.val (.bool p))) (h3:q=false→M (.gr d b Å) (Í,.val (.bool p))),M (.gr d (.te t a b) S) (Í,.val (.bool p))
abbrev Df(P:Č)(M:Jd):Prop:=∀{d a ops bs S Å Í x p} (h1:M (.ev d a S) (Å,.val x)) (h2:M (.yZ d x ops bs Å) (Í,.val (.bool p))),M (.gr d (.cm a ops bs) S) (Í,.val (.bool p))
abbrev H_(P:Č)(M:Jd):Prop:=∀{d e S ρ κ v v' q} {H:L} (hp:pW e=true) (h1:M (.ev d e S) (⟨H,ρ,κ⟩,.val v)) (h2:view H v=some v') (h3:truth v'=some q),M (.gr d e S) (⟨H,ρ,κ⟩,.val (.bool q))
abbrev C_(P:Č)(M:Jd):Prop:=∀{d q S},M (.hK d q [] S) (S,.val (.bool q))
abbrev Dc(P:Č)(M:Jd):Prop:=∀{d q p u e es S Å Í} (h1:M (.gr d e S) (Å,.val (.bool p))) (h2:p=q→M (.hK d q es Å) (Í,.val (.bool u))) (h3:p=(!q)→(Í,u)=(Å,p)),M (.hK d q (e::es) S) (Í,.val (.bool u))
abbrev Io(P:Č)(M:Jd):Prop:=∀{d x n e S ρ κ y x' y' q} {H:L} (h1:M (.ev d e S) (⟨H,ρ,κ⟩,.val y)) (h2:view H x=some x') (h3:view H y=some y') (h4:cmp n x' y'=some q),M (.yZ d x [n] [e] S) (⟨H,ρ,κ⟩,.val (.bool q))
abbrev DF(P:Č)(M:Jd):Prop:=∀{d x n m ops e a es S ρ κ y x' y' q p Í} {H:L} (h1:M (.ev d e S) (⟨H,ρ,κ⟩,.val y)) (h2:view H x=some x') (h3:view H y=some y') (h4:cmp n x' y'=some q) (h5:q=true→M (.yZ d y (m::ops) (a::es) ⟨H,ρ,κ⟩) (Í,.val (.bool p))) (h6:q=false→(Í,p)=(⟨H,ρ,κ⟩,false)),M (.yZ d x (n::m::ops) (e::a::es) S) (Í,.val (.bool p))
abbrev Ip(P:Č)(M:Jd):Prop:=∀{d q e S Å v} (h1:M (.ev d e S) (Å,.val v)),M (.CG d q [e] S) (Å,.val v)
abbrev DG(P:Č)(M:Jd):Prop:=∀{d q p e a es S ρ κ v v' u Í} {H:L} (h1:M (.ev d e S) (⟨H,ρ,κ⟩,.val v)) (h2:view H v=some v') (h3:truth v'=some p) (h4:p=q→M (.CG d q (a::es) ⟨H,ρ,κ⟩) (Í,.val u)) (h5:p=(!q)→(Í,u)=(⟨H,ρ,κ⟩,v)),M (.CG d q (e::a::es) S) (Í,.val u)
abbrev C9(P:Č)(M:Jd):Prop:=∀{d t e S Å Í v} (h1:M (.ev d e S) (Å,.val v)) (h2:M (.asg d t v Å) (Í,.next)),M (.ex d (.as t e) S) (Í,.next)
abbrev C8(P:Č)(M:Jd):Prop:=∀{d t e S Å} (h1:M (.ev d e S) (Å,.exc)),M (.ex d (.as t e) S) (Å,.exc)
abbrev C7(P:Č)(M:Jd):Prop:=∀{d e S Å v} (h1:M (.ev d e S) (Å,.val v)),M (.ex d (.ex e) S) (Å,.next)
abbrev C5(P:Č)(M:Jd):Prop:=∀{d t A B S Å q r} (h1:M (.gr d t S) (Å,.val (.bool q))) (h2:q=true→M (.dj d A Å) r) (h3:q=false→M (.dj d B Å) r),M (.ex d (.if t A B) S) r
abbrev CY(P:Č)(M:Jd):Prop:=∀{d t B S r} (h1:M (.pH d t B S) r),M (.ex (d+1) (.wh t B) S) r
abbrev C6(P:Č)(M:Jd):Prop:=∀{d t it B S ρ κ v v' l r} {H H₁:L} (h1:M (.ev (d+1) it S) (⟨H,ρ,κ⟩,.val v)) (h2:Ô H v=some (H₁,v')) (h3:items v'=some l) (h4:M (.qG d t l B ⟨H₁,ρ,κ⟩) r),M (.ex (d+1) (.fo t it B) S) r
abbrev C2(P:Č)(M:Jd):Prop:=∀{d e S Å v} (h1:M (.ev d e S) (Å,.val v)),M (.ex d (.re e) S) (Å,.ret v)
abbrev C3(P:Č)(M:Jd):Prop:=∀{d es S Å vs} (h1:M (.bY d es S) (Å,.vals vs)) (h2:Þ vs.length 2=true),M (.ex d (.ra es) S) (Å,.exc)
abbrev C0(P:Č)(M:Jd):Prop:=∀{d B c A S Å o} (h1:M (.dj d B S) (Å,o)) (h2:o≠.exc),M (.ex d (.tr B c A) S) (Å,o)
abbrev CZ(P:Č)(M:Jd):Prop:=∀{d B v S Å} (h1:M (.dj d B S) (Å,.exc)) (h2:ip v=true),M (.ex d (.tr B 7 [.re (.c v)]) S) (Å,.ret v)
abbrev C4(P:Č)(M:Jd):Prop:=∀{d S},M (.ex d .pa S) (S,.next)
abbrev C1(P:Č)(M:Jd):Prop:=∀{d q es S Å Í vs} (h1:M (.bY d es S) (Å,.vals vs)) (h2:Ď Å q vs=some Í),M (.ex d (.sw q es) S) (Í,.next)
abbrev CX(P:Č)(M:Jd):Prop:=∀{d S},M (.dj d [] S) (S,.next)
abbrev pF(P:Č)(M:Jd):Prop:=∀{d X Y S Å r} (h1:M (.ex d X S) (Å,.next)) (h2:M (.dj d Y Å) r),M (.dj d (X::Y) S) r
abbrev tV(P:Č)(M:Jd):Prop:=∀{d X Y S Å o} (h1:M (.ex d X S) (Å,o)) (h2:Bs o=false),M (.dj d (X::Y) S) (Å,o)
abbrev H7(P:Č)(M:Jd):Prop:=∀{d t B S Å Í r} (h1:M (.gr d t S) (Å,.val (.bool true))) (h2:M (.dj d B Å) (Í,.next)) (h3:M (.pH d t B Í) r),M (.pH d t B S) r
abbrev H8(P:Č)(M:Jd):Prop:=∀{d t B S Å Í v} (h1:M (.gr d t S) (Å,.val (.bool true))) (h2:M (.dj d B Å) (Í,.ret v)),M (.pH d t B S) (Í,.ret v)
abbrev H9(P:Č)(M:Jd):Prop:=∀{d t B S Å} (h1:M (.gr d t S) (Å,.val (.bool false))),M (.pH d t B S) (Å,.next)
abbrev Il(P:Č)(M:Jd):Prop:=∀{d t B S},M (.qG d t [] B S) (S,.next)
abbrev Im(P:Č)(M:Jd):Prop:=∀{d t B S Å Í v l r} (h0:Ð v=true) (h1:M (.asg d t v S) (Å,.next)) (h2:M (.dj d B Å) (Í,.next)) (h3:M (.qG d t l B Í) r),M (.qG d t (v::l) B S) r
abbrev Ik(P:Č)(M:Jd):Prop:=∀{d t B S Å Í v l x} (h0:Ð v=true) (h1:M (.asg d t v S) (Å,.next)) (h2:M (.dj d B Å) (Í,.ret x)),M (.qG d t (v::l) B S) (Í,.ret x)
abbrev Ii(P:Č)(M:Jd):Prop:=∀{d elt tg ifs acc S},M (.fh d elt tg ifs [] acc S) (S,.vals acc.reverse)
abbrev Ih(P:Č)(M:Jd):Prop:=∀{d elt tg ifs acc S Å Í ρ κ v l x x' r} {H H₁:L} (h0:(Ð v&&small acc)=true) (h1:M (.asg d (pS tg) v S) (Å,.next)) (h2:M (.hK d true ifs Å) (Í,.val (.bool true))) (h3:M (.ev d elt Í) (⟨H,ρ,κ⟩,.val x)) (h4:Ô H x=some (H₁,x')) (h5:M (.fh d elt tg ifs l (x'::acc) ⟨H₁,ρ,κ⟩) r),M (.fh d elt tg ifs (v::l) acc S) r
abbrev Ij(P:Č)(M:Jd):Prop:=∀{d elt tg ifs acc S Å Í v l r} (h0:(Ð v&&small acc)=true) (h1:M (.asg d (pS tg) v S) (Å,.next)) (h2:M (.hK d true ifs Å) (Í,.val (.bool false))) (h5:M (.fh d elt tg ifs l acc Í) r),M (.fh d elt tg ifs (v::l) acc S) r
abbrev xM(P:Č)(M:Jd):Prop:=∀{d j vs f S ρ κ v v'} {H H₁ Ö ų:L} (h1:P.fn j=some f) (h2:Ď ⟨H,Ħ f.nl none,Ħ f.nc none⟩ f.ps (padded vs f.mq f.ps.length)=some S) (h3:M (.dj d f.body S) (⟨H₁,ρ,κ⟩,.ret v)) (h4:P.open_ j=false) (h5:Ô H₁ v=some (Ö,v')) (h6:Ö.take H.length=ų),M (.call (d+1) j vs H) (⟨ų,[],[]⟩,.val v')
abbrev tZ(P:Č)(M:Jd):Prop:=∀{d j vs f S Å v} {H:L} (h1:P.fn j=some f) (h2:Ď ⟨H,Ħ f.nl none,Ħ f.nc none⟩ f.ps (padded vs f.mq f.ps.length)=some S) (h3:M (.dj d f.body S) (Å,.ret v)) (h4:P.open_ j=true),M (.call (d+1) j vs H) (Å,.val v)
abbrev t7(P:Č)(M:Jd):Prop:=∀{d j vs f S ρ κ} {H H₁ Ö:L} (h1:P.fn j=some f) (h2:Ď ⟨H,Ħ f.nl none,Ħ f.nc none⟩ f.ps (padded vs f.mq f.ps.length)=some S) (h3:M (.dj d f.body S) (⟨H₁,ρ,κ⟩,.next)) (h6:H₁.take H.length=Ö),M (.call (d+1) j vs H) (⟨Ö,[],[]⟩,.val .none)
abbrev xO(P:Č)(M:Jd):Prop:=∀{d j vs f S ρ κ} {H H₁ Ö:L} (h1:P.fn j=some f) (h2:Ď ⟨H,Ħ f.nl none,Ħ f.nc none⟩ f.ps (padded vs f.mq f.ps.length)=some S) (h3:M (.dj d f.body S) (⟨H₁,ρ,κ⟩,.exc)) (h6:H₁.take H.length=Ö),M (.call (d+1) j vs H) (⟨Ö,[],[]⟩,.exc)
abbrev xN(P:Č)(M:Jd):Prop:=∀{D d j vs vs' v S} {H H₁:L} (h1:D≤d) (h2:ē H vs=some (H₁,vs')) (h3:M (.call D j vs' []) (S,.val v)) (h4:Ð v=true),M (.call d j vs H) (⟨H₁,[],[]⟩,.val v)
structure Yq(P:Č)(M:Jd):Prop where
 gW:DI P M
 CM:DH P M
 dA:DJ P M
 tP:xP P M
 xE:xQ P M
 nY:Ic P M
 aQ:Ia P M
 As:Ib P M
structure Yp(P:Č)(M:Jd):Prop where
 Av:DE P M
 ll:Du P M
 E1:Dt P M
 uM:DA P M
 E2:Dz P M
 ke:DC P M
 lu:tY P M
 Ŏ:tX P M
structure Yo(P:Č)(M:Jd):Prop where
 kq:pG P M
 lr:tW P M
 Aq:Dp P M
 rG:xI P M
 rJ:xK P M
 rD:xG P M
 rH:xJ P M
 rF:xH P M
structure Yn(P:Č)(M:Jd):Prop where
 yr:Ds P M
 Am:Dl P M
 rI:DD P M
 yu:Dx P M
 Au:DB P M
 Ao:Dm P M
 Ap:Dn P M
 nX:xF P M
structure Ym(P:Č)(M:Jd):Prop where
 uL:Dk P M
 i7:Dq P M
 yt:Dv P M
 lq:Dy P M
 Ar:Dr P M
 JU:Ig P M
 LL:Ie P M
 ű:Di P M
structure Yl(P:Č)(M:Jd):Prop where
 Ŗ:Dj P M
 zU:De P M
 yd:Dh P M
 yc:Dd P M
 j0:Df P M
 Mk:H_ P M
 gO:C_ P M
 ri:Dc P M
structure Yk(P:Č)(M:Jd):Prop where
 y_:Io P M
 y7:DF P M
 OU:Ip P M
 zd:DG P M
 ũ:C9 P M
 D_:C8 P M
 zI:C7 P M
 g_:C5 P M
structure Yj(P:Č)(M:Jd):Prop where
 zE:CY P M
 bR:C6 P M
 qY:C2 P M
 D9:C3 P M
 zF:C0 P M
 D8:CZ P M
 zH:C4 P M
 zG:C1 P M
structure Yi(P:Č)(M:Jd):Prop where
 gp:CX P M
 Ò:pF P M
 gK:tV P M
 L8:H7 P M
 PB:H8 P M
 L9:H9 P M
 ui:Il P M
 mQ:Im P M
structure Yh(P:Č)(M:Jd):Prop where
 zD:Ik P M
 i9:Ii P M
 kh:Ih P M
 Hq:Ij P M
 É:xM P M
 lV:tZ P M
 eD:t7 P M
 w8:xO P M
structure Vl(P:Č)(M:Jd):Prop where
 oX:xN P M
structure Ru(P:Č)(M:Jd):Prop where
 u0:Yq P M
 u1:Yp P M
 u2:Yo P M
 u3:Yn P M
 u4:Ym P M
 u5:Yl P M
 u6:Yk P M
 u7:Yj P M
 u8:Yi P M
 u9:Yh P M
 Yv:Vl P M
def Ev(P:Č)(t:Task)(r:Res):Prop:=∀M,Ru P M→M t r
section
variable{P:Č}
theorem gW:DI P (Ev P):=fun h M R=>R.u0.gW h
theorem CM:DH P (Ev P):=fun h h2 M R=>R.u0.CM h h2
theorem dA:DJ P (Ev P):=fun h1 h2 h3 h4 h5 h6 M R=>R.u0.dA (h1 M R) h2 h3 h4 h5 h6
theorem tP:xP P (Ev P):=fun h1 h2 h3 h4 h5 h6 h7 M R=>R.u0.tP (h1 M R) (h2 M R) h3 h4 h5 h6 h7
theorem xE:xQ P (Ev P):=fun h1 h2 h3 h4 h5 h7 M R=>R.u0.xE (h1 M R) (h2 M R) h3 h4 h5 h7
theorem nY:Ic P (Ev P):=fun M R=>R.u0.nY
theorem aQ:Ia P (Ev P):=fun h M R=>R.u0.aQ h
theorem As:Ib P (Ev P):=fun h M R=>R.u0.As h
theorem Av:DE P (Ev P):=fun h1 h2 h3 h4 h5 M R=>R.u1.Av (h1 M R) h2 h3 h4 h5
theorem ll:Du P (Ev P):=fun h1 h2 M R=>R.u1.ll (h1 M R) (h2 M R)
theorem E1:Dt P (Ev P):=fun h1 h2 M R=>R.u1.E1 (h1 M R) (h2 M R)
theorem uM:DA P (Ev P):=fun h1 h2 h3 h4 h5 M R=>R.u1.uM (h1 M R) h2 (h3 M R) h4 h5
theorem E2:Dz P (Ev P):=fun h1 h2 h3 h4 M R=>R.u1.E2 (h1 M R) h2 (h3 M R) h4
theorem ke:DC P (Ev P):=fun h1 h2 h3 h4 M R=>R.u1.ke (h1 M R) h2 h3 h4
theorem lu:tY P (Ev P):=fun h1 h2 h3 M R=>R.u1.lu (h1 M R) h2 h3
theorem Ŏ:tX P (Ev P):=fun h1 h2 h3 M R=>R.u1.Ŏ (h1 M R) h2 h3
theorem kq:pG P (Ev P):=fun h1 h2 h3 M R=>R.u2.kq (h1 M R) h2 h3
theorem lr:tW P (Ev P):=fun h1 h2 M R=>R.u2.lr (h1 M R) h2
theorem Aq:Dp P (Ev P):=fun h1 h2 h3 M R=>R.u2.Aq (h1 M R) (h2 M R) (h3 M R)
theorem rG:xI P (Ev P):=fun h1 h2 h3 h4 h5 h6 h7 M R=>R.u2.rG (h1 M R) h2 h3 h4 h5 (h6 M R) (h7 M R)
theorem rJ:xK P (Ev P):=fun h1 h3 h4 h5 h6 h7 h8 M R=>R.u2.rJ (h1 M R) h3 (h4 M R) h5 h6 h7 h8
theorem rD:xG P (Ev P):=fun h1 h3 h4 h6 h7 h8 h9 M R=>R.u2.rD (h1 M R) h3 (h4 M R) h6 h7 h8 h9
theorem rH:xJ P (Ev P):=fun h1 h3 h4 h5 h6 h7 h8 M R=>R.u2.rH (h1 M R) h3 (h4 M R) h5 h6 h7 h8
theorem rF:xH P (Ev P):=fun h1 h3 hk h4 h5 h6 h7 h8 M R=>R.u2.rF (h1 M R) h3 hk (h4 M R) h5 h6 h7 h8
theorem yr:Ds P (Ev P):=fun h1 h2 h3 h4 M R=>R.u3.yr (h1 M R) (h2 M R) h3 h4
theorem Am:Dl P (Ev P):=fun h1 h2 h3 h4 h5 h6 h7 M R=>R.u3.Am (h1 M R) (h2 M R) (h3 M R) (h4 M R) h5 h6 h7
theorem rI:DD P (Ev P):=fun h1 h2 h3 h4 h5 h6 M R=>R.u3.rI (h1 M R) (h2 M R) h3 h4 h5 h6
theorem yu:Dx P (Ev P):=fun h1 h2 M R=>R.u3.yu (h1 M R) (h2 M R)
theorem Au:DB P (Ev P):=fun h1 M R=>R.u3.Au (h1 M R)
theorem Ao:Dm P (Ev P):=fun h1 h2 h3 M R=>R.u3.Ao (h1 M R) h2 h3
theorem Ap:Dn P (Ev P):=fun h1 M R=>R.u3.Ap (h1 M R)
theorem nX:xF P (Ev P):=fun h1 h2 h3 M R=>R.u3.nX (h1 M R) (fun q=>h2 q M R) (fun q=>h3 q M R)
theorem uL:Dk P (Ev P):=fun h1 h2 h3 M R=>R.u4.uL (h1 M R) h2 h3
theorem i7:Dq P (Ev P):=fun h1 h2 h3 M R=>R.u4.i7 (h1 M R) h2 h3
theorem yt:Dv P (Ev P):=fun h1 h2 h3 h4 M R=>R.u4.yt (h1 M R) h2 h3 h4
theorem lq:Dy P (Ev P):=fun h1 h2 h3 h4 M R=>R.u4.lq (h1 M R) h2 h3 (h4 M R)
theorem Ar:Dr P (Ev P):=fun h1 h2 h3 M R=>R.u4.Ar h1 h2 h3
theorem JU:Ig P (Ev P):=fun M R=>R.u4.JU
theorem LL:Ie P (Ev P):=fun h M R=>R.u4.LL (h M R)
theorem ű:Di P (Ev P):=fun M R=>R.u4.ű
theorem Ŗ:Dj P (Ev P):=fun h1 h2 M R=>R.u5.Ŗ (h1 M R) (h2 M R)
theorem zU:De P (Ev P):=fun h1 M R=>R.u5.zU (h1 M R)
theorem yd:Dh P (Ev P):=fun h1 M R=>R.u5.yd (h1 M R)
theorem yc:Dd P (Ev P):=fun h1 h2 h3 M R=>R.u5.yc (h1 M R) (fun q=>h2 q M R) (fun q=>h3 q M R)
theorem j0:Df P (Ev P):=fun h1 h2 M R=>R.u5.j0 (h1 M R) (h2 M R)
theorem Mk:H_ P (Ev P):=fun hp h1 h2 h3 M R=>R.u5.Mk hp (h1 M R) h2 h3
theorem gO:C_ P (Ev P):=fun M R=>R.u5.gO
theorem ri:Dc P (Ev P):=fun h1 h2 h3 M R=>R.u5.ri (h1 M R) (fun q=>h2 q M R) h3
theorem y_:Io P (Ev P):=fun h1 h2 h3 h4 M R=>R.u6.y_ (h1 M R) h2 h3 h4
theorem y7:DF P (Ev P):=fun h1 h2 h3 h4 h5 h6 M R=>R.u6.y7 (h1 M R) h2 h3 h4 (fun q=>h5 q M R) h6
theorem OU:Ip P (Ev P):=fun h1 M R=>R.u6.OU (h1 M R)
theorem zd:DG P (Ev P):=fun h1 h2 h3 h4 h5 M R=>R.u6.zd (h1 M R) h2 h3 (fun q=>h4 q M R) h5
theorem ũ:C9 P (Ev P):=fun h1 h2 M R=>R.u6.ũ (h1 M R) (h2 M R)
theorem D_:C8 P (Ev P):=fun h1 M R=>R.u6.D_ (h1 M R)
theorem zI:C7 P (Ev P):=fun h1 M R=>R.u6.zI (h1 M R)
theorem g_:C5 P (Ev P):=fun h1 h2 h3 M R=>R.u6.g_ (h1 M R) (fun q=>h2 q M R) (fun q=>h3 q M R)
theorem zE:CY P (Ev P):=fun h1 M R=>R.u7.zE (h1 M R)
theorem bR:C6 P (Ev P):=fun h1 h2 h3 h4 M R=>R.u7.bR (h1 M R) h2 h3 (h4 M R)
theorem qY:C2 P (Ev P):=fun h1 M R=>R.u7.qY (h1 M R)
theorem D9:C3 P (Ev P):=fun h1 h2 M R=>R.u7.D9 (h1 M R) h2
theorem zF:C0 P (Ev P):=fun h1 h2 M R=>R.u7.zF (h1 M R) h2
theorem D8:CZ P (Ev P):=fun h1 h2 M R=>R.u7.D8 (h1 M R) h2
theorem zH:C4 P (Ev P):=fun M R=>R.u7.zH
theorem zG:C1 P (Ev P):=fun h1 h2 M R=>R.u7.zG (h1 M R) h2
theorem gp:CX P (Ev P):=fun M R=>R.u8.gp
theorem Ò:pF P (Ev P):=fun h1 h2 M R=>R.u8.Ò (h1 M R) (h2 M R)
theorem gK:tV P (Ev P):=fun h1 h2 M R=>R.u8.gK (h1 M R) h2
theorem L8:H7 P (Ev P):=fun h1 h2 h3 M R=>R.u8.L8 (h1 M R) (h2 M R) (h3 M R)
theorem PB:H8 P (Ev P):=fun h1 h2 M R=>R.u8.PB (h1 M R) (h2 M R)
theorem L9:H9 P (Ev P):=fun h1 M R=>R.u8.L9 (h1 M R)
theorem ui:Il P (Ev P):=fun M R=>R.u8.ui
theorem mQ:Im P (Ev P):=fun h0 h1 h2 h3 M R=>R.u8.mQ h0 (h1 M R) (h2 M R) (h3 M R)
theorem zD:Ik P (Ev P):=fun h0 h1 h2 M R=>R.u9.zD h0 (h1 M R) (h2 M R)
theorem i9:Ii P (Ev P):=fun M R=>R.u9.i9
theorem kh:Ih P (Ev P):=fun h0 h1 h2 h3 h4 h5 M R=>R.u9.kh h0 (h1 M R) (h2 M R) (h3 M R) h4 (h5 M R)
theorem Hq:Ij P (Ev P):=fun h0 h1 h2 h5 M R=>R.u9.Hq h0 (h1 M R) (h2 M R) (h5 M R)
theorem É:xM P (Ev P):=fun h1 h2 h3 h4 h5 h6 M R=>R.u9.É h1 h2 (h3 M R) h4 h5 h6
theorem lV:tZ P (Ev P):=fun h1 h2 h3 h4 M R=>R.u9.lV h1 h2 (h3 M R) h4
theorem eD:t7 P (Ev P):=fun h1 h2 h3 h6 M R=>R.u9.eD h1 h2 (h3 M R) h6
theorem w8:xO P (Ev P):=fun h1 h2 h3 h6 M R=>R.u9.w8 h1 h2 (h3 M R) h6
theorem oX:xN P (Ev P):=fun h1 h2 h3 h4 M R=>R.Yv.oX h1 h2 (h3 M R) h4
end
abbrev An(P:Č)(t:Task):=Option {r:Res // Ev P t r}
noncomputable def ok{P:Č}{t:Task}{r:Res}(h:Ev P t r):An P t:=some ⟨r,h⟩
section
variable{P:Č}{t:Task}{α β:Type}
noncomputable def dV(r:An P t)(f:∀s v,Ev P t (s,.val v)→Option β):Option β:=match r with
 |none=>none
 |some p=>match p with
  |⟨(s,o),h⟩=>match o,h with
   |.val v,h=>f s v h
   |_,_=>none
noncomputable def dL(r:An P t)(f:∀s v,Ev P t (s,.vals v)→Option β):Option β:=match r with
 |none=>none
 |some p=>match p with
  |⟨(s,o),h⟩=>match o,h with
   |.vals v,h=>f s v h
   |_,_=>none
noncomputable def dN(r:An P t)(f:∀s,Ev P t (s,.next)→Option β):Option β:=match r with
 |none=>none
 |some p=>match p with
  |⟨(s,o),h⟩=>match o,h with
   |.next,h=>f s h
   |_,_=>none
noncomputable def dO(r:An P t)(f:∀s v,Ev P t (s,.ov v)→Option β):Option β:=match r with
 |none=>none
 |some p=>match p with
  |⟨(s,o),h⟩=>match o,h with
   |.ov v,h=>f s v h
   |_,_=>none
def dB(r:An P t)(f:∀s b,Ev P t (s,.val (.bool b))→Option β):Option β:=dV r fun s v=>match v with
 |.bool b=>f s b
 |_=>fun À=>none
noncomputable def od(o:Option α)(f:∀x,o=some x→Option β):Option β:=match o,f with
 |none,_=>none
 |some x,f=>f x rfl
noncomputable def gd(b:Bool)(f:b=true→Option β):Option β:=match b,f with
 |false,_=>none
 |true,f=>f rfl
noncomputable def sel(b:Bool)(f:b=true→Option β)(g:b=false→Option β):Option β:=match b,f,g with
 |false,_,g=>g rfl
 |true,f,_=>f rfl
end
theorem tf{q:Bool}{p:Prop}(e:q=true)(e':q=false):p:=Bool.noConfusion (e.symm.trans e')
theorem ft{q:Bool}{p:Prop}(e:q=false)(e':q=true):p:=tf e' e
noncomputable def qC:V→Option Nat
 |.Ó i=>some i
 |_=>none
noncomputable def cL:Cell→Option (List V)
 |.lst l=>some l
 |_=>none
noncomputable def cD:Cell→Option (List (List Nat×V))
 |.aX l=>some l
 |_=>none
noncomputable def cI:Cell→Option (Nat×List (Nat×V))
 |.ins c l=>some (c,l)
 |_=>none
noncomputable def H2:V→Option (List V)
 |.g9 l=>some l
 |_=>none
noncomputable def PQ{α:Type}:Option α→Bool
 |none=>true
 |some _=>false
theorem jC{v:V}{i:Nat}(h:qC v=some i):v=.Ó i:=mO (f:=V.Ó) h (by induction v using V.casesOn<;>first|exact trivial|exact rfl)
theorem kL{v:Cell}{l:List V}(h:cL v=some l):v=.lst l:=mO (f:=Cell.lst) h (by induction v using Cell.casesOn<;>first|exact trivial|exact rfl)
theorem kD{v:Cell}{l:List (List Nat×V)}(h:cD v=some l):v=.aX l:=mO (f:=Cell.aX) h (by induction v using Cell.casesOn<;>first|exact trivial|exact rfl)
theorem kI{v:Cell}{l:Nat×List (Nat×V)}(h:cI v=some l):v=.ins l.1 l.2:=mO (f:=fun p=>Cell.ins p.1 p.2) h (by induction v using Cell.casesOn<;>first|exact trivial|exact rfl)
theorem jK{v:V}{l:List V}(h:H2 v=some l):v=.g9 l:=mO (f:=V.g9) h (by induction v using V.casesOn<;>first|exact trivial|exact rfl)
theorem PK{v:V}(h:ip v=true):v=.none:=by induction v using V.casesOn<;>cases h;rfl
theorem iN{α:Type}{o:Option α}(h:PQ o=true):o=none:=by induction o using ş<;>first|rfl|exact â h
theorem jI{a b:V}{p:Int×Int}(h:pI a b=some p):a=.int p.1∧b=.int p.2:=by
 refine ï h fun x h1 h=>?_;refine ï h fun y h2 h=>?_
 (replace h:=ì h;subst h)
 exact⟨iI h1,iI h2⟩
theorem SW{l:List V}{p:Int×Int}(h:JP l=some p):l=[.int p.1,.int p.2]:=by
 refine ï h fun x h1 h=>?_;obtain⟨e1,e2⟩:=jI h;rw[i2 h1,e1,e2]
noncomputable def VN{α:Type}:List α→Option (α×List α)
 |[]=>none
 |x::r=>some (x,r)
theorem jU{α:Type}{l:List α}{q:α×List α}(h:VN l=some q):l=q.1::q.2:=mO (f:=fun q=>q.1::q.2) h (by induction l using Ū<;>first|exact trivial|exact rfl)
theorem jE{α:Type}{l:List α}(h:l.isEmpty=true):l=[]:=by induction l using Ū<;>first|rfl|exact â h
noncomputable def Um:PE→Option V
 |.c v=>some v
 |_=>none
theorem jV{e:PE}{v:V}(h:Um e=some v):e=.c v:=mO (f:=PE.c) h (by induction e using PE.casesOn<;>first|exact trivial|exact rfl)
noncomputable def RF:PS→Option PE
 |.re e=>some e
 |_=>none
theorem jX{x:PS}{e:PE}(h:RF x=some e):x=.re e:=mO (f:=PS.re) h (by induction x using PS.casesOn<;>first|exact trivial|exact rfl)
def AU(l:List (Option V))(i:Nat):Option V:=(é l i).bind id
theorem n2{l:List (Option V)}{i:Nat}{v:V}(h:AU l i=some v):é l i=some (some v):=let ⟨_,h1,h2⟩:=ob h;h1.trans (congrArg some h2)
theorem e2{α β:Type}{o:Option (α×β)}{q:α×β}{l:β}(h:o=some q)(e:q.2=l):o=some (q.1,l):=h.trans (congrArg (fun l=>some (q.1,l)) e)
theorem Qi{P:Č}{d c:Nat}{B k:List PS}{x:PS}{e:PE}{v:V}{S Å:St}(h:Ev P (.dj d B S) (Å,.exc))(h1:Þ c 7=true)(h2:q1 k=some x)(h3:RF x=some e)(h4:Um e=some v)(h5:ip v=true):Ev P (.ex d (.tr B c k) S) (Å,.ret v):=by
 rw[Ģ h1,i1 h2,jX h3,jV h4];exact D8 h h5
structure L2(P:Č) where
 f:Nat→List V→Option V
 D:Nat
 ok:∀{j vs v},f j vs=some v→Ð v=true∧T2 fun d st=>d≤D∧Ev P (.call d j vs []) (st,.val v)
theorem Nv{P:Č}{o:L2 P}{d j:Nat}{vs vs':List V}{v:V}{H H₁:L}(hd:aj o.D d=true)(h1:ē H vs=some (H₁,vs'))(h2:o.f j vs'=some v):Ev P (.call (d+1) j vs H) (⟨H₁,[],[]⟩,.val v):=
 let ⟨h3,_,_,h4,h5⟩:=o.ok h2
 oX (ă h4 (Nat.le_succ_of_le (jc hd))) h1 h5 h3
section
variable{P:Č}(R:∀t,An P t)
def Vd(d:Nat)(e:PE)(n:Nat)(s:St):An P (.ev d (.at e n) s):=dV (R (.ev d e s)) fun s v h1=>od (fields s.H v) fun q h2=>od (P.init q.1) fun j h3=>gd (PQ (P.gw q.1 n)) fun h4=>od (d7 n q.2) fun x h5=>ok (Av h1 h2 h3 (iN h4) h5)
def U3(d j:Nat)(as:List PE)(s:St):An P (.ev d (.fn j as) s):=dL (R (.bY d as s)) fun s vs h1=>match R (.call d j vs s.H)with
 |none=>none
 |some p=>match p with
  |⟨(t,o),h⟩=>match o,h with
   |.val v,h=>ok (ll h1 h)
   |.exc,h=>ok (E1 h1 h)
   |_,_=>none
def U_(c:Nat)(as:List PE)(s:St):(d:Nat)→An P (.ev d (.cl c as) s)
 |0=>none
 |d+1=>dL (R (.bY (d+1) as s)) fun s vs h1=>od (P.init c) fun j h2=>dV (R (.call d j (.Ó s.H.length::vs) (s.H++[.ins c []]))) fun t v h3=>gd (ip v) fun h4=>
  sel (P.Fq c) (fun e=>ok (E2 h1 h2 (PK h4▸h3) e)) fun e=>od (Ô t.H (.Ó s.H.length)) fun q h5=>ok (uM h1 h2 (PK h4▸h3) e h5)
def Vc(d b:Nat)(as:List PE)(s ĉ:St)(vs:List V)(h1:Ev P (.bY d as s) (ĉ,.vals vs)):An P (.ev d (.bl b as) s):=od (ē ĉ.H vs) fun q h2=>
 sel (Þ b 10) (fun e=>od (JP q.2) fun p h3=>gd (Ć p.1&&Ć p.2) fun h4=>ok (Ģ e▸lu h1 (e2 h2 (SW h3)) h4)) fun À=>
 sel (Þ b 11) (fun e=>match h3:q1 q.2 with
  |some v=>od (qI v) fun p h4=>gd (Ć p) fun h5=>ok (Ģ e▸Ŏ h1 (e2 h2 (iI h4▸i1 h3)) h5)
  |none=>od (JP q.2) fun p h4=>gd (Ć p.1&&Ć p.2) fun h5=>ok (Ģ e▸kq h1 (e2 h2 (SW h4)) h5)) fun À=>
 gd (Þ b 12) fun e=>od (q1 q.2) fun v h3=>od (qL v) fun l h4=>ok (Ģ e▸lr h1 (e2 h2 (iL h4▸i1 h3)))
def Va(d b:Nat)(as:List PE)(s:St):An P (.ev d (.bl b as) s):=dL (R (.bY d as s)) fun ĉ vs h1=>match aj 10 b with
 |false=>od (ē ĉ.H vs) fun q h2=>od (blt b q.2) fun v h3=>ok (ke h1 h2 h3 rfl)
 |true=>Vc d b as s ĉ vs h1
def U0(e:PE)(as:List PE)(s:St):(d:Nat)→An P (.ev d (.lo e as) s)
 |0=>none
 |d+1=>dV (R (.ev (d+1) e s)) fun s v h1=>od (H2 v) fun l h2=>od (q2 l) fun p h3=>dL (R (.bY (d+1) as s)) fun s vs h4=>od (q1 vs) fun v h5=>dV (R (.call d P.lam [v,p.1,p.2] s.H)) fun t x h6=>
  ok (Aq (i2 h3▸jK h2▸h1) (i1 h5▸h4) h6)
section
variable(d:Nat)(e:PE)(n:Nat)(as:List PE)(s ĉ Ğ:St)(i:Nat)(vs:List V)(h1:Ev P (.ev d e s) (ĉ,.val (.Ó i)))(h2:Ev P (.bY d as ĉ) (Ğ,.vals vs))
include h1 h2
def Vf(hk:kd n (view ĉ.H (.Ó i))=9):An P (.ev d (.me e n as) s):=od (q1 vs) fun x h3=>od (Ô Ğ.H x) fun q h4=>od (é q.1 i) fun c h5=>od (cL c) fun l h6=>gd (small l) fun h7=>ok (rJ h1 hk (i1 h3▸h2) h4 (kL h6▸h5) h7 rfl)
def UX(hk:kd n (view ĉ.H (.Ó i))=10):An P (.ev d (.me e n as) s):=od (é Ğ.H i) fun c h3=>od (cL c) fun l h4=>od (VN l.reverse) fun q h5=>gd (small l) fun h6=>gd vs.isEmpty fun h7=>ok (rD h1 hk (jE h7▸h2) (kL h4▸h3) h6 (jU h5) rfl)
def U4(hk:kd n (view ĉ.H (.Ó i))=11):An P (.ev d (.me e n as) s):=od (q1 vs) fun x h3=>od (Ô Ğ.H x) fun q h4=>od (qL q.2) fun m h5=>od (é q.1 i) fun c h6=>od (cL c) fun l h7=>gd (small l&&small m) fun h8=>
 ok (rH h1 hk (i1 h3▸h2) (e2 h4 (iL h5)) (kL h7▸h6) h8 rfl)
end
def UZ(d:Nat)(e:PE)(n:Nat)(as:List PE)(s:St):An P (.ev d (.me e n as) s):=dV (R (.ev d e s)) fun s v h1=>match h2:fields s.H v with
 |some q=>od (P.init q.1) fun m h3=>gd (PQ (d7 n q.2)) fun h4=>od (P.gw q.1 n) fun j h5=>dL (R (.bY d as s)) fun t vs h6=>dV (R (.call d j (v::vs) t.H)) fun u x h7=>ok (rG h1 h2 h3 (iN h4) h5 h6 h7)
 |none=>dL (R (.bY d as s)) fun t vs h6=>sel (PN (kd n (view s.H v))) (fun hk=>od (Ô t.H v) fun q h7=>od (ē q.1 vs) fun p h8=>od (oi (kd n (view s.H v)) q.2 p.2) fun x h9=>ok (rF h1 rfl hk h6 h7 h8 h9 rfl)) fun À=>
  match v,h1 with
  |.Ó i,h1=>sel (Þ (kd n (view s.H (.Ó i))) 9) (fun hk=>Vf d e n as _ s t i vs h1 h6 (Ģ hk)) fun À=>sel (Þ (kd n (view s.H (.Ó i))) 10) (fun hk=>UX d e n as _ s t i vs h1 h6 (Ģ hk)) fun À=>
   gd (Þ (kd n (view s.H (.Ó i))) 11) fun hk=>U4 d e n as _ s t i vs h1 h6 (Ģ hk)
  |_,_=>none
def U2(d:Nat)(a i:PE)(s:St):An P (.ev d (.ix a i) s):=dV (R (.ev d a s)) fun s v h1=>dV (R (.ev d i s)) fun s x h2=>od (view s.H v) fun v h3=>od (item v x) fun y h4=>ok (yr h1 h2 h3 h4)
def UU(d:Nat)(a:PE)(lo hi st:Option PE)(s:St):An P (.ev d (.sl a lo hi st) s):=dV (R (.ev d a s)) fun s v h1=>dO (R (.opt d lo s)) fun s lo h2=>dO (R (.opt d hi s)) fun s hi h3=>dO (R (.opt d st s)) fun s st h4=>
 od (view s.H v) fun v h5=>od (slice v lo hi st) fun x h6=>ok (Am h1 h2 h3 h4 h5 h6 rfl)
def Vb(d n:Nat)(a b:PE)(s:St):An P (.ev d (.bi n a b) s):=dV (R (.ev d a s)) fun s x h1=>dV (R (.ev d b s)) fun s y h2=>od (Ô s.H x) fun p h3=>od (Ô p.1 y) fun q h4=>od (bin n p.2 q.2) fun v h5=>ok (rI h1 h2 h3 h4 h5 rfl)
def U9(d:Nat)(a:PE)(ops:List Nat)(bs:List PE)(s:St):An P (.ev d (.cm a ops bs) s):=dV (R (.ev d a s)) fun s x h1=>dB (R (.yZ d x ops bs s)) fun s q h2=>ok (yu h1 h2)
def UY(d:Nat)(e:PE)(s:St):An P (.ev d (.nt e) s):=dV (R (.ev d e s)) fun s v h1=>od (view s.H v) fun v h2=>od (truth v) fun q h3=>ok (Ao h1 h2 h3)
def US(d:Nat)(t a b:PE)(s:St):An P (.ev d (.te t a b) s):=dB (R (.gr d t s)) fun s q h1=>sel q (fun e=>dV (R (.ev d a s)) fun s v h2=>ok (nX h1 (fun À=>h2) (tf e))) fun e=>dV (R (.ev d b s)) fun s v h2=>ok (nX h1 (ft e) fun À=>h2)
def UQ(d:Nat)(es:List PE)(s:St):An P (.ev d (.tu es) s):=dL (R (.bY d es s)) fun s vs h1=>od (ē s.H vs) fun q h2=>gd (small q.2) fun h3=>ok (uL h1 h2 h3)
def U1(d:Nat)(es:List PE)(s:St):An P (.ev d (.li es) s):=dL (R (.bY d es s)) fun s vs h1=>od (ē s.H vs) fun q h2=>gd (small q.2) fun h3=>ok (i7 h1 h2 h3)
def U6(d:Nat)(ks es:List PE)(s:St):An P (.ev d (.di ks es) s):=dL (R (.bY d es s)) fun s vs h1=>od (ē s.H vs) fun q h2=>od (dictOf ks q.2) fun l h3=>gd (lW l) fun h4=>ok (yt h1 h2 h3 h4)
def U8(elt:PE)(tg:List Nat)(it:PE)(ifs:List PE)(n:Nat)(s:St):(d:Nat)→An P (.ev d (.co elt tg it ifs n) s)
 |0=>none
 |d+1=>dV (R (.ev (d+1) it s)) fun s v h1=>od (Ô s.H v) fun q h2=>od (items q.2) fun l h3=>dL (R (.fh d elt tg ifs l [] ⟨q.1,Ħ n none,s.κ⟩)) fun t vs h4=>ok (lq h1 h2 h3 h4)
def U5(d:Nat)(s:St):(e:PE)→An P (.ev d e s)
 |.c v=>ok nY
 |.l i=>od (AU s.ρ i) fun v h=>ok (aQ (n2 h))
 |.k i=>od (AU s.κ i) fun v h=>ok (As (n2 h))
 |.at e n=>Vd R d e n s
 |.fn j as=>U3 R d j as s
 |.cl c as=>U_ R c as s d
 |.bl b as=>Va R d b as s
 |.lo e as=>U0 R e as s d
 |.me e n as=>UZ R d e n as s
 |.ix a i=>U2 R d a i s
 |.sl a lo hi st=>UU R d a lo hi st s
 |.bi n a b=>Vb R d n a b s
 |.cm a ops bs=>U9 R d a ops bs s
 |.bo q es=>dV (R (.CG d q es s)) fun s v h=>ok (Au h)
 |.nt e=>UY R d e s
 |.ng e=>dV (R (.ev d e s)) fun s v h1=>od (qI v) fun q h2=>ok (Ap (iI h2▸h1))
 |.te t a b=>US R d t a b s
 |.tu es=>UQ R d es s
 |.li es=>U1 R d es s
 |.di ks es=>U6 R d ks es s
 |.co elt tg it ifs n=>U8 R elt tg it ifs n s d
 |.la=>od (AU s.κ 0) fun x h1=>od (AU s.κ 1) fun y h2=>od (ē s.H [x,y]) fun q h3=>ok (Ar (n2 h1) (n2 h2) h3)
 |.no=>none
def UP(d:Nat)(s:St)(e:PE):An P (.gr d e s):=gd (pW e) fun hp=>dV (R (.ev d e s)) fun s v h1=>od (view s.H v) fun v h2=>od (truth v) fun q h3=>ok (Mk hp h1 h2 h3)
def OZ(d:Nat)(s:St):(e:PE)→An P (.gr d e s)
 |.nt e=>dB (R (.gr d e s)) fun s q h=>ok (zU h)
 |.bo q es=>dB (R (.hK d q es s)) fun s q h=>ok (yd h)
 |.te t a b=>dB (R (.gr d t s)) fun s q h1=>sel q (fun e=>dB (R (.gr d a s)) fun s v h2=>ok (yc h1 (fun À=>h2) (tf e))) fun e=>dB (R (.gr d b s)) fun s v h2=>ok (yc h1 (ft e) fun À=>h2)
 |.cm a ops bs=>dV (R (.ev d a s)) fun s x h1=>dB (R (.yZ d x ops bs s)) fun s q h2=>ok (j0 h1 h2)
 |e=>UP R d s e
theorem bz{p q:Bool}{a:Prop}(h:(p==q)=true)(e:p= !q):a:=by subst e;induction q using ñ<;>exact â h
theorem X_{p q:Bool}{a:Prop}(h:(p==q)=false)(e:p=q):a:=by subst e;induction p using ñ<;>exact ĕ h
def Lw(d:Nat)(q:Bool)(s:St):(es:List PE)→An P (.hK d q es s)
 |[]=>ok gO
 |e::es=>dB (R (.gr d e s)) fun s p h1=>sel (p==q) (fun e=>dB (R (.hK d q es s)) fun s p h2=>ok (ri h1 (fun À=>h2) (bz e))) fun e=>ok (ri h1 (X_ e) fun À=>rfl)
def O2(d:Nat)(x:V)(s:St):(ops:List Nat)→(es:List PE)→An P (.yZ d x ops es s)
 |[],_=>none
 |n::ops,es=>match es with
  |[]=>none
  |e::es=>dV (R (.ev d e s)) fun s y h1=>od (view s.H x) fun x h2=>od (view s.H y) fun y' h3=>od (cmp n x y') fun q h4=>match ops,es with
   |[],[]=>ok (y_ h1 h2 h3 h4)
   |m::ops,a::es=>sel q (fun e=>dB (R (.yZ d y (m::ops) (a::es) s)) fun s q h5=>ok (y7 h1 h2 h3 h4 (fun À=>h5) (tf e))) fun e=>ok (y7 h1 h2 h3 h4 (ft e) fun À=>rfl)
   |_,_=>none
def O3(d:Nat)(q:Bool)(s:St):(es:List PE)→An P (.CG d q es s)
 |[]=>none
 |e::es=>dV (R (.ev d e s)) fun s v h1=>match es with
  |[]=>ok (OU h1)
  |a::es=>od (view s.H v) fun v' h2=>od (truth v') fun p h3=>sel (p==q) (fun e=>dV (R (.CG d q (a::es) s)) fun s u h4=>ok (zd h1 h2 h3 (fun À=>h4) (bz e))) fun e=>ok (zd h1 h2 h3 (X_ e) fun À=>rfl)
def Ve(d:Nat)(t:Tg)(e:PE)(s:St):An P (.ex d (.as t e) s):=match R (.ev d e s)with
 |none=>none
 |some p=>match p with
  |⟨(s,o),h⟩=>match o,h with
   |.val v,h=>dN (R (.asg d t v s)) fun s h2=>ok (ũ h h2)
   |.exc,h=>ok (D_ h)
   |_,_=>none
def UR(d:Nat)(b:List PS)(c:Nat)(k:List PS)(s:St):An P (.ex d (.tr b c k) s):=match R (.dj d b s)with
 |none=>none
 |some p=>match p with
  |⟨(s,o),h⟩=>match o,h with
   |.exc,h=>gd (Þ c 7) fun h1=>od (q1 k) fun x h2=>od (RF x) fun e h3=>od (Um e) fun v h4=>gd (ip v) fun h5=>ok (Qi h h1 h2 h3 h4 h5)
   |.next,h=>ok (zF h (fun q=>neT Out.ctorIdx q rfl))
   |.ret v,h=>ok (zF h (fun q=>neT Out.ctorIdx q rfl))
   |_,_=>none
def a_x(s:St):(d:Nat)→(x:PS)→An P (.ex d x s)
 |d,.as t e=>Ve R d t e s
 |d,.ex e=>dV (R (.ev d e s)) fun s À h=>ok (zI h)
 |d,.if t b c=>dB (R (.gr d t s)) fun s q h1=>sel q (fun e=>(R (.dj d b s)).bind fun p=>ok (g_ h1 (fun À=>p.2) (tf e))) fun e=>(R (.dj d c s)).bind fun p=>ok (g_ h1 (ft e) fun À=>p.2)
 |0,.wh t b=>none
 |d+1,.wh t b=>(R (.pH d t b s)).bind fun p=>ok (zE p.2)
 |0,.fo t it b=>none
 |d+1,.fo t it b=>dV (R (.ev (d+1) it s)) fun s v h1=>od (Ô s.H v) fun q h2=>od (items q.2) fun l h3=>(R (.qG d t l b ⟨q.1,s.ρ,s.κ⟩)).bind fun p=>ok (bR h1 h2 h3 p.2)
 |d,.re e=>dV (R (.ev d e s)) fun s v h=>ok (qY h)
 |d,.ra es=>dL (R (.bY d es s)) fun s vs h=>gd (Þ vs.length 2) fun h2=>ok (D9 h h2)
 |d,.tr b c h=>UR R d b c h s
 |d,.pa=>ok zH
 |d,.sw q es=>dL (R (.bY d es s)) fun s vs h1=>od (Ď s q vs) fun s h2=>ok (zG h1 h2)
 |d,.no=>none
def UO(d:Nat)(s:St):(xs:List PS)→An P (.dj d xs s)
 |[]=>ok gp
 |x::r=>(R (.ex d x s)).bind fun p=>match p with
  |⟨(s,o),h⟩=>match o,h with
   |.next,h=>(R (.dj d r s)).bind fun p=>ok (Ò h p.2)
   |.ret v,h=>ok (gK h rfl)
   |.exc,h=>ok (gK h rfl)
   |_,_=>none
def OY(d:Nat)(t:PE)(b:List PS)(s:St):An P (.pH d t b s):=dB (R (.gr d t s)) fun s q h1=>match q,h1 with
 |true,h1=>(R (.dj d b s)).bind fun p=>match p with
  |⟨(s,o),h⟩=>match o,h with
   |.next,h=>(R (.pH d t b s)).bind fun p=>ok (L8 h1 h p.2)
   |.ret v,h=>ok (PB h1 h)
   |_,_=>none
 |false,h1=>ok (L9 h1)
def O0(d:Nat)(t:Tg)(b:List PS)(s:St):(l:List V)→An P (.qG d t l b s)
 |[]=>ok ui
 |v::l=>gd (Ð v) fun h0=>dN (R (.asg d t v s)) fun s h1=>(R (.dj d b s)).bind fun p=>match p with
  |⟨(s,o),h⟩=>match o,h with
   |.next,h=>(R (.qG d t l b s)).bind fun p=>ok (mQ h0 h1 h p.2)
   |.ret v,h=>ok (zD h0 h1 h)
   |_,_=>none
def O1(d:Nat)(elt:PE)(tg:List Nat)(ifs:List PE)(acc:List V)(s:St):(l:List V)→An P (.fh d elt tg ifs l acc s)
 |[]=>ok i9
 |v::l=>gd (Ð v&&small acc) fun h0=>dN (R (.asg d (pS tg) v s)) fun s h1=>dB (R (.hK d true ifs s)) fun s q h2=>match q,h2 with
  |true,h2=>dV (R (.ev d elt s)) fun s x h3=>od (Ô s.H x) fun q h4=>(R (.fh d elt tg ifs l (q.2::acc) ⟨q.1,s.ρ,s.κ⟩)).bind fun p=>ok (kh h0 h1 h2 h3 h4 p.2)
  |false,h2=>(R (.fh d elt tg ifs l acc s)).bind fun p=>ok (Hq h0 h1 h2 p.2)
def vP(d j:Nat)(vs:List V)(H:L):An P (.call (d+1) j vs H):=od (P.fn j) fun f h1=>od (Ď ⟨H,Ħ f.nl none,Ħ f.nc none⟩ f.ps (padded vs f.mq f.ps.length)) fun s h2=>(R (.dj d f.body s)).bind fun p=>match p with
 |⟨(s,o),h⟩=>match o,h with
  |.ret v,h=>sel (P.open_ j) (fun e=>ok (lV h1 h2 h e)) fun e=>od (Ô s.H v) fun q h5=>ok (É h1 h2 h e h5 rfl)
  |.next,h=>ok (eD h1 h2 h rfl)
  |.exc,h=>ok (w8 h1 h2 h rfl)
  |_,_=>none
def Lx(o:L2 P)(j:Nat)(vs:List V)(H:L):(d:Nat)→An P (.call d j vs H)
 |0=>none
 |d+1=>sel (aj o.D d) (fun e=>match h1:ē H vs with
  |none=>vP R d j vs H
  |some q=>match h2:o.f j q.2 with
   |some v=>ok (Nv e h1 h2)
   |none=>vP R d j vs H) fun À=>vP R d j vs H
def UW(d:Nat)(v:V)(s:St)(e:PE)(n:Nat):An P (.asg d (.a e n) v s):=dV (R (.ev d e s)) fun s u h1=>od (qC u) fun m h2=>od (Ô s.H v) fun q h3=>od (é q.1 m) fun c h4=>od (cI c) fun p h5=>od (P.init p.1) fun À h6=>gd (PQ (P.gw p.1 n)) fun h7=>
 ok (dA (jC h2▸h1) h3 (kI h5▸h4) h6 (iN h7) rfl)
def UT(d:Nat)(v:V)(s:St)(e i:PE):An P (.asg d (.s e i) v s):=dV (R (.ev d e s)) fun s u h1=>od (qC u) fun m h2=>dV (R (.ev d i s)) fun s k h3=>od (Ô s.H v) fun q h4=>od (é q.1 m) fun c h5=>match k,h3 with
 |.int j,h3=>od (cL c) fun l h6=>gd (gc 0 j&&Ī j l.length&&Ī j 1000000) fun h7=>ok (tP (jC h2▸h1) h3 h4 (kL h6▸h5) h7 rfl rfl)
 |.str k,h3=>od (cD c) fun l h6=>gd (small l) fun h7=>ok (xE (jC h2▸h1) h3 h4 (kD h6▸h5) h7 rfl)
 |_,_=>none
def O4(d:Nat)(v:V)(s:St):(t:Tg)→An P (.asg d t v s)
 |.n k i=>od (Ş s k i v) fun s h=>ok (gW h)
 |.t q=>od (view s.H v) fun v h1=>od (qT v) fun vs h2=>od (Ď s q vs) fun s h3=>ok (CM (iT h2▸h1) h3)
 |.a e n=>UW R d v s e n
 |.s e i=>UT R d v s e i
 |.no=>none
def Mq(o:L2 P):(t:Task)→An P t
 |.ev d e s=>U5 R d s e
 |.bY d es s=>match es with
  |[]=>ok ű
  |e::r=>dV (R (.ev d e s)) fun s v h1=>dL (R (.bY d r s)) fun s vs h2=>ok (Ŗ h1 h2)
 |.gr d e s=>OZ R d s e
 |.hK d q es s=>Lw R d q s es
 |.yZ d x ops es s=>O2 R d x s ops es
 |.CG d q es s=>O3 R d q s es
 |.ex d x s=>a_x R s d x
 |.dj d xs s=>UO R d s xs
 |.pH d t b s=>OY R d t b s
 |.qG d t l b s=>O0 R d t b s l
 |.fh d elt tg ifs l acc s=>O1 R d elt tg ifs acc s l
 |.call d j vs H=>Lx R o j vs H d
 |.asg d t v s=>O4 R d v s t
 |.opt d e s=>match e with
  |none=>ok JU
  |some e=>dV (R (.ev d e s)) fun s v h=>ok (LL h)
end
def EV{P:Č}(o:L2 P)(n:Nat):(t:Task)→An P t:=Nat.rec (fun À=>none) (fun À ih=>Mq ih o) n
noncomputable def b0:List PS:=[.re (.me (.c (.str [92,83,101,101,110,32,92,65,110,115,119,101,114,101,100,32,92,70,108,97,103,103,101,100,32,92,68,101,108,101,116,101,100,32,92,68,114,97,102,116])) 0 [.c (.str [32])])]
def f0:Fn:=⟨[],0,0,[],b0⟩
noncomputable def b1:List PS:=[.if (.nt (.cm Ì [3,3] [.bl 0 [.l 0],.c (.int 60)])) [.re (.c (.bool false))] [],.fo (.n false 1) Ä [.if (.bo false [.nt (.cm (.c (.int 32)) [2,2] [.bl 3 [.l 1],.c (.int 127)]),.cm Ã [8] [.c (.str [40,41,123,32,37,42,34,92,93])]]) [.re (.c (.bool false))] []],.re (.c (.bool true))]
def f1:Fn:=⟨[(false,0)],2,0,[],b1⟩
noncomputable def b2:List PS:=[.fo (.n false 1) (.fn 0 []) [.if (.cm (.me Ä 1 []) [0] [.me Ã 1 []]) [.re Ã] []],.if (.nt (.fn 1 [.l 0])) [.no] [],.re Ä]
def f2:Fn:=⟨[(false,0)],2,0,[],b2⟩
noncomputable def b3:List PS:=[.re (.te (.cm (.c (.int 65)) [3,3] [.l 0,.c (.int 90)]) (.bi 0 Ä (.c (.int 32))) Ä)]
def f3:Fn:=⟨[(false,0)],1,0,[],b3⟩
noncomputable def b4:List PS:=[.re (.me fB 2 [.co (.bl 1 [.fn 3 [.bl 3 [.l 1]]]) [1] Ä [] 2])]
def f4:Fn:=⟨[(false,0)],1,0,[],b4⟩
noncomputable def b5:List PS:=[.as (.n false 0) (.di [] []),.fo (.n false 1) (.tu [.c (.str eT),.c (.str [97,115,99,105,105]),.c (.str [97,110,115,105,95,120,51,46,52,45,49,57,54,56]),.c (.str [105,115,111,95,54,52,54,46,105,114,118,58,49,57,57,49]),.c (.str [105,115,111,45,105,114,45,54]),.c (.str [105,115,111,54,52,54,45,117,115]),.c (.str [117,115]),.c (.str [99,112,51,54,55]),.c (.str [105,98,109,51,54,55])]) [.as (.s Ä Ã) (.c (.str eT))],.fo (.n false 1) (.tu [.c (.str rQ),.c (.str [105,115,111,95,56,56,53,57,45,49]),.c (.str [105,115,111,95,56,56,53,57,45,49,58,49,57,56,55]),.c (.str [105,115,111,45,105,114,45,49,48,48]),.c (.str [108,97,116,105,110,49]),.c (.str [108,49]),.c (.str [99,112,56,49,57]),.c (.str [105,98,109,56,49,57])]) [.as (.s Ä Ã) (.c (.str rQ))],.fo (.n false 1) (.tu [.c (.str n6),.c (.str [117,116,102,56])]) [.as (.s Ä Ã) (.c (.str n6))],.re Ä]
def f5:Fn:=⟨[],2,0,[],b5⟩
noncomputable def b6:List PS:=[.re (.me (.fn 5 []) 6 [.fn 4 [.l 0],.c (.str [])])]
def f6:Fn:=⟨[(false,0)],1,0,[],b6⟩
noncomputable def b7:List PS:=[.if (.cm Ä [9] [.c (.tup [.str eT,.str rQ,.str n6])]) [.no] []]
def f7:Fn:=⟨[(false,0)],1,0,[],b7⟩
noncomputable def b8:List PS:=[.as (.n false 2) (.ix Ä Ã),.if (.cm Ë [2] [.c (.int 128)]) [.re (.tu [.l 2,.c (.int 1)])] [],.as (.t [(false,3),(false,4),(false,5)]) .no,.if (.cm aR [0] [.c (.int 0)]) [.re (.tu [.ng Ì,.c (.int 1)])] [],.as (.n false 6) (.bi 4 Ë .no),.fo (.n false 7) (.bl 11 [.c (.int 1),.bi 0 aR Ì]) [.if (.bo false [.cm (.bi 0 Ã dI) [5] [.bl 0 [.l 0]],.nt (.cm à [3,3] [.ix Ä (.bi 0 Ã dI),.l 4])]) [.re (.tu [.ng Ì,.l 7])] [],.as (.n false 6) (.bi 0 (.bi 2 û (.c (.int 64))) (.bi 4 (.ix Ä (.bi 0 Ã dI)) (.c (.int 64)))),.sw [(false,3),(false,4)] [.c (.int 128),.c (.int 191)]],.re (.tu [.l 6,.bi 0 aR Ì])]
def f8:Fn:=⟨[(false,0),(false,1)],8,0,[],b8⟩
noncomputable def b9:List PS:=[.if (.cm Ä [0] [.c (.str n6)]) [.re (.fn 8 [.l 1,.l 2])] [],.if (.bo true [.cm Ä [0] [.c (.str eT)],.cm (.ix Ã Ë) [4] [.c (.int 127)]]) [.re (.tu [.ng Ì,.c (.int 1)])] [],.re (.tu [.ix Ã Ë,.c (.int 1)])]
def f9:Fn:=⟨[(false,0),(false,1),(false,2)],3,0,[],b9⟩
noncomputable def b10:List PS:=[.ex (.fn 7 [.l 0]),.as (.n false 2) (.li []),.as (.n false 3) ç,.wh (.cm à [2] [.bl 0 [.l 1]]) [.as (.t [(false,4),(false,5)]) (.fn 9 [.l 0,.l 1,.l 3]),.ex (.me Ë 7 [.te (.cm ā [5] [.c (.int 0)]) (.bl 1 [.l 4]) (.c (.str [65533]))]),.as (.n false 3) (.bi 0 à aR)],.re (.me fB 2 [.l 2])]
def X7:Fn:=⟨[(false,0),(false,1)],6,0,[],b10⟩
noncomputable def b11:List PS:=[.ex (.fn 7 [.l 0]),.as (.n false 2) (.li []),.as (.n false 3) ç,.wh (.cm à [2] [.bl 0 [.l 1]]) [.as (.t [(false,4),(false,5)]) (.fn 9 [.l 0,.l 1,.l 3]),.if (.cm ā [2] [.c (.int 0)]) [.no] [],.ex (.me Ë 7 [.bl 1 [.l 4]]),.as (.n false 3) (.bi 0 à aR)],.re (.me fB 2 [.l 2])]
def X6:Fn:=⟨[(false,0),(false,1)],6,0,[],b11⟩
noncomputable def Qb:List PS:=[.tr [.re (.fn 11 [.c (.str n6),.l 0])] 8 [.re (.fn 10 [.c (.str rQ),.l 0])]]
def X5:Fn:=⟨[(false,0)],1,0,[],Qb⟩
noncomputable def b13:List PS:=[.re (.bo false [.cm (.c (.int 48)) [3,3] [.l 0,.c (.int 57)],.cm (.c (.int 65)) [3,3] [.l 0,.c (.int 90)],.cm (.c (.int 97)) [3,3] [.l 0,.c (.int 122)],.cm Ä [4] [.c (.int 127)],.cm Ä [8] [.c (.bytes [33,35,36,37,38,39,42,43,45,47,61,63,94,95,96,123,124,125,126])]])]
def X4:Fn:=⟨[(false,0)],1,0,[],b13⟩
noncomputable def b14:List PS:=[.if (.cm (.sl Ä (some Ã) (some (.bi 0 Ã Ì)) none) [0] [.c (.bytes [10])]) [.re (.bi 0 Ã Ì)] [],.re (.te (.cm (.sl Ä (some Ã) (some (.bi 0 Ã Ÿ)) none) [0] [.c (.bytes [13,10])]) (.bi 0 Ã Ÿ) (.ng Ì))]
def X3:Fn:=⟨[(false,0),(false,1)],2,0,[],b14⟩
noncomputable def Yc:List PS:=[.as (.n false 2) Ã,.wh (.bo true [.cm Ë [2] [.bl 0 [.l 0]],.fn 13 [.ix Ä Ë]]) [.as (.n false 2) (.bi 0 Ë Ì)],.re (.tu [.sl Ä (some Ã) (some Ë) none,.l 2])]
def X0:Fn:=⟨[(false,0),(false,1)],3,0,[],Yc⟩
noncomputable def b16:List PS:=[.as (.n false 2) (.sl Ä (some Ã) (some (.bi 0 Ã Ì)) none),.if (.cm Ë [0] [.c (.bytes [34])]) [.as (.t [(false,3),(false,4)]) .no,.re (.tu [.tu [.c (.str [113,117,111,116,101,100]),.l 3,.l 1],.l 4])] [],.if (.cm Ë [0] [.c (.bytes [91])]) [.as (.t [(false,3),(false,4)]) .no,.re (.tu [.tu [.c (.str [108,105,116,101,114,97,108]),.l 3,.l 1],.l 4])] [],.if (.cm Ë [0] [.c (.bytes [40])]) [.as (.t [(false,3),(false,4)]) .no,.re (.tu [.tu [.c (.str [99,111,109,109,101,110,116]),.l 3,.l 1],.l 4])] [],.if (.cm Ë [8] [.c (.bytes [60,62,64,44,59,58,46,92])]) [.re (.tu [.tu [.c (.str [115,105,103,110]),.l 2,.l 1],.bi 0 Ã Ì])] [],.if (.nt (.fn 13 [.ix Ä Ã])) [.ra [.c (.str [97,32,115,105,103,110,32,116,104,97,116,32,99,97,110,110,111,116,32,115,116,97,110,100]),.l 1]] [],.as (.t [(false,3),(false,4)]) (.fn 15 [.l 0,.l 1]),.re (.tu [.tu [.c (.str [97,116,111,109]),.l 3,.l 1],.l 4])]
def XZ:Fn:=⟨[(false,0),(false,1)],5,0,[],b16⟩
noncomputable def b17:List PS:=[.wh (.cm Ã [2] [.bl 0 [.l 0]]) [.as (.n false 2) (.te (.cm (.ix Ä Ã) [8] [.tu [.c (.int 9),.c (.int 32)]]) (.bi 0 Ã Ì) (.fn 14 [.l 0,.l 1])),.if (.cm Ë [2] [.c (.int 0)]) [.re Ã] [],.as (.n false 1) Ë],.re Ã]
def XY:Fn:=⟨[(false,0),(false,1)],3,0,[],b17⟩
noncomputable def b18:List PS:=[.as (.n false 1) (.li []),.as (.n false 2) (.fn 17 [.l 0,.c (.int 0)]),.wh (.cm Ë [2] [.bl 0 [.l 0]]) [.as (.t [(false,3),(false,2)]) (.fn 16 [.l 0,.l 2]),.ex (.me Ã 7 [.l 3]),.as (.n false 2) (.fn 17 [.l 0,.l 2])],.re Ã]
def XX:Fn:=⟨[(false,0)],4,0,[],b18⟩
noncomputable def b19:List PS:=[.re (.co Ã [1] Ä [.cm (.ix Ã ç) [1] [.c (.str [99,111,109,109,101,110,116])]] 2)]
def XW:Fn:=⟨[(false,0)],1,0,[],b19⟩
noncomputable def b20:List PS:=[.re (.bo true [.cm (.bi 4 Ä hU) [0] [.c (.int 0)],.bo false [.cm (.bi 4 Ä (.c (.int 100))) [1] [.c (.int 0)],.cm (.bi 4 Ä (.c (.int 400))) [0] [.c (.int 0)]]])]
def XU:Fn:=⟨[(false,0)],1,0,[],b20⟩
noncomputable def b21:List PS:=[.if (.cm Ã [0] [.c (.int 2)]) [.re (.te (.fn 20 [.l 0]) (.c (.int 29)) (.c (.int 28)))] [],.re (.te (.cm Ã [8] [.tu [.c (.int 4),.c (.int 6),.c (.int 9),.c (.int 11)]]) (.c (.int 30)) (.c (.int 31)))]
def XS:Fn:=⟨[(false,0),(false,1)],2,0,[],b21⟩
noncomputable def b22:List PS:=[.as (.n false 1) (.bi 1 Ä Ì),.re (.bi 0 (.bi 1 (.bi 0 (.bi 2 Ã (.c (.int 365))) (.bi 3 Ã hU)) (.bi 3 Ã (.c (.int 100)))) (.bi 3 Ã (.c (.int 400))))]
def XR:Fn:=⟨[(false,0)],2,0,[],b22⟩
noncomputable def b23:List PS:=[.as (.n false 1) (.bi 0 Ä (.c (.int 719162))),.as (.n false 2) (.bi 0 (.bi 3 (.bi 2 Ã (.c (.int 400))) (.c (.int 146097))) Ì),.wh (.cm (.fn 22 [.l 2]) [4] [.l 1]) [.as (.n false 2) (.bi 1 Ë Ì)],.wh (.cm (.fn 22 [.bi 0 Ë Ì]) [3] [.l 1]) [.as (.n false 2) (.bi 0 Ë Ì)],.as (.n false 3) (.bi 1 Ã (.fn 22 [.l 2])),.as (.n false 4) Ì,.wh (.cm à [5] [.fn 21 [.l 2,.l 4]]) [.as (.n false 3) (.bi 1 à (.fn 21 [.l 2,.l 4])),.as (.n false 4) (.bi 0 ā Ì)],.re (.tu [.l 2,.l 4,.bi 0 à Ì])]
def XQ:Fn:=⟨[(false,0)],5,0,[],b23⟩
noncomputable def b24:List PS:=[.re (.bo true [.cm Ì [3,3] [.l 0,.c (.int 9999)],.cm Ì [3,3] [.l 1,.c (.int 12)],.cm Ì [3,3] [.l 2,.fn 21 [.l 0,.l 1]]])]
def XO:Fn:=⟨[(false,0),(false,1),(false,2)],3,0,[],b24⟩
noncomputable def b25:List PS:=[.re (.bo true [.cm ç [3,3] [.l 0,.c (.int 23)],.cm ç [3,3] [.l 1,.c (.int 59)],.cm ç [3,3] [.l 2,.c (.int 60)]])]
def XN:Fn:=⟨[(false,0),(false,1),(false,2)],3,0,[],b25⟩
noncomputable def b26:List PS:=[.re (.fn 23 [.bi 3 (.bi 0 Ä (.bi 2 Ã (.c (.int 60)))) (.c (.int 86400))])]
def XM:Fn:=⟨[(false,0),(false,1)],2,0,[.int 0],b26⟩
noncomputable def b27:List PS:=[.as (.n false 1) (.co (.fn 4 [.l 1]) [1] (.c (.tup [.str [74,97,110],.str [70,101,98],.str [77,97,114],.str [65,112,114],.str [77,97,121],.str [74,117,110],.str [74,117,108],.str [65,117,103],.str [83,101,112],.str [79,99,116],.str [78,111,118],.str [68,101,99]])) [] 2),.re (.te (.cm (.fn 4 [.l 0]) [8] [.l 1]) (.bi 0 (.me Ã 5 [.fn 4 [.l 0]]) Ì) ç)]
def XK:Fn:=⟨[(false,0)],2,0,[],b27⟩
noncomputable def b28:List PS:=[.re (.cm (.fn 4 [.l 0]) [8] [.co (.fn 4 [.l 1]) [1] (.c (.tup [.str [77,111,110],.str [84,117,101],.str [87,101,100],.str [84,104,117],.str [70,114,105],.str [83,97,116],.str [83,117,110]])) [] 2])]
def XJ:Fn:=⟨[(false,0)],1,0,[],b28⟩
noncomputable def b29:List PS:=[.re (.bo true [.cm Ä [1] [.c (.str [])],.cm (.co Ã [1] Ä [.nt (.cm (.c (.str [48])) [3,3] [.l 1,.c (.str [57])])] 2) [0] [.li []]])]
def XI:Fn:=⟨[(false,0)],1,0,[],b29⟩
noncomputable def b30:List PS:=[.if (.bo false [.cm (.bl 0 [.l 0]) [1] [.c (.int 5)],.cm (.ix Ä ç) [9] [.c (.str [43,45])],.nt (.fn 29 [.sl Ä (some Ì) none none]),.cm (.bl 2 [.sl Ä (some rN) none none]) [4] [.c (.int 59)]]) [.re (.c .none)] [],.as (.n false 1) (.bi 0 (.bi 2 (.bl 2 [.sl Ä (some Ì) (some rN) none]) (.c (.int 60))) (.bl 2 [.sl Ä (some rN) none none])),.re (.te (.cm (.ix Ä ç) [0] [.c (.str [45])]) (.ng Ã) Ã)]
def XH:Fn:=⟨[(false,0)],2,0,[],b30⟩
noncomputable def b31:List PS:=[.if (.bo false [.cm Ä [0] [.c (.str [])],.cm (.co Ã [1] (.fn 4 [.l 0]) [.nt (.cm (.c (.str [97])) [3,3] [.l 1,.c (.str [122])])] 2) [1] [.li []]]) [.re (.c .none)] [],.as (.n false 1) (.di [.c (.str [101,115,116]),.c (.str [101,100,116]),.c (.str [99,115,116]),.c (.str [99,100,116]),.c (.str [109,115,116]),.c (.str [109,100,116]),.c (.str [112,115,116]),.c (.str [112,100,116])] [.ng rK,.ng hU,.ng (.c (.int 6)),.ng rK,.ng ţ,.ng (.c (.int 6)),.ng (.c (.int 8)),.ng ţ]),.re (.bi 2 (.me Ã 6 [.fn 4 [.l 0],.c (.int 0)]) (.c (.int 60)))]
def XG:Fn:=⟨[(false,0)],2,0,[],b31⟩
noncomputable def b32:List PS:=[.if (.cm Ã [0] [.c (.int 2)]) [.re (.bi 0 Ä (.te (.cm Ä [2] [.c (.int 50)]) (.c (.int 2000)) (.c (.int 1900))))] [],.re (.te (.cm Ã [0] [.c (.int 3)]) (.bi 0 Ä (.c (.int 1900))) Ä)]
def XF:Fn:=⟨[(false,0),(false,1)],2,0,[],b32⟩
noncomputable def b33:List PS:=[.as (.n false 1) (.ix (.me Ä 32 [.c (.int 2),.c (.int 2)]) ç),.if (.nt (.me Ä 49 [.c (.bytes [58])])) [.ra [.c (.str [97,32,99,111,108,111,110,32,105,115,32,109,105,115,115,105,110,103]),.me Ä 31 []]] [],.as (.n false 2) (.ix (.me Ä 32 [.c (.int 2),.c (.int 2)]) ç),.as (.n false 3) (.te (.me Ä 49 [.c (.bytes [58])]) (.ix (.me Ä 32 [.c (.int 2),.c (.int 2)]) ç) ç),.re (.tu [.l 1,.l 2,.l 3])]
def XD:Fn:=⟨[(false,0)],4,0,[],b33⟩
noncomputable def b34:List PS:=[.as (.n false 1) (.me Ä 29 []),.as (.n false 2) (.fn 30 [.l 1]),.if (.cm Ë [6] [.c .none]) [.as (.n false 2) (.fn 31 [.l 1])] [],.ex (.me Ä 30 [.cm Ë [7] [.c .none],.c (.str [97,32,122,111,110,101,32,105,115,32,109,105,115,115,105,110,103])]),.re Ë]
def XC:Fn:=⟨[(false,0)],3,0,[],b34⟩
noncomputable def b35:List PS:=[.as (.n false 1) (.cl 1 [.l 0]),.if (.fn 28 [.me Ã 29 []]) [.as (.a Ã 10) (.bi 0 (.at Ã 10) Ì),.ex (.me Ã 49 [.c (.bytes [44])])] [],.as (.n false 2) (.me Ã 31 []),.as (.n false 3) (.ix (.me Ã 32 [.c (.int 1),.c (.int 2)]) ç),.as (.n false 4) (.fn 27 [.me Ã 29 []]),.ex (.me Ã 30 [.cm ā [4] [.c (.int 0)],.c (.str [97,32,109,111,110,116,104,32,105,115,32,109,105,115,115,105,110,103])]),.as (.t [(false,5),(false,6)]) (.me Ã 32 [.c (.int 2),.c (.int 4)]),.as (.n false 7) (.fn 32 [.l 5,.l 6]),.if (.nt (.fn 24 [.l 7,.l 4,.l 3])) [.ra [.c (.str [116,104,101,114,101,32,105,115,32,110,111,32,115,117,99,104,32,100,97,121]),.l 2]] [],.as (.n false 2) (.me Ã 31 []),.as (.t [(false,8),(false,9),(false,10)]) (.fn 33 [.l 1]),.if (.nt (.fn 25 [.l 8,.l 9,.l 10])) [.ra [.c (.str [116,104,101,114,101,32,105,115,32,110,111,32,115,117,99,104,32,116,105,109,101]),.l 2]] [],.as (.n false 11) (.fn 34 [.l 1]),.if (.cm (.at Ã 10) [2] [.bl 0 [.at Ã 27]]) [.ra [.c (.str [115,111,109,101,116,104,105,110,103,32,115,116,97,110,100,115,32,98,101,104,105,110,100,32,116,104,101,32,100,97,116,101]),.me Ã 31 []]] [],.re (.cl 2 [.l 7,.l 4,.l 3,.l 8,.l 9,.l 10,.l 11])]
def XB:Fn:=⟨[(false,0)],12,0,[],b35⟩
noncomputable def b36:List PS:=[.as (.n false 3) (.me Ä 3 [.c (.bytes [10]),.l 1,.l 2]),.if (.cm à [2] [.c (.int 0)]) [.re (.tu [.l 2,.l 2])] [],.if (.bo true [.cm à [4] [.l 1],.cm (.ix Ä (.bi 1 à Ì)) [0] [.c (.int 13)]]) [.re (.tu [.bi 1 à Ì,.bi 0 à Ì])] [],.re (.tu [.l 3,.bi 0 à Ì])]
def XA:Fn:=⟨[(false,0),(false,1),(false,2)],4,0,[],b36⟩
noncomputable def b37:List PS:=[.fo (.n false 1) Ä [.if (.bo false [.cm Ã [2] [.c (.int 33)],.cm Ã [4] [.c (.int 126)],.cm Ã [0] [.c (.int 58)]]) [.re (.c (.bool false))] []],.re (.cm (.bl 0 [.l 0]) [4] [.c (.int 0)])]
def Xz:Fn:=⟨[(false,0)],2,0,[],b37⟩
noncomputable def b38:List PS:=[.as (.n false 3) (.me Ä 3 [.c (.bytes [58]),.l 1,.l 2]),.re (.te (.bo true [.cm à [5] [.c (.int 0)],.fn 37 [.sl Ä (some Ã) (some à) none]]) à (.ng Ì))]
def Xy:Fn:=⟨[(false,0),(false,1),(false,2)],4,0,[],b38⟩
noncomputable def b39:List PS:=[.as (.n false 3) (.te (.cm Ë [2] [.c (.int 0)]) (.bl 0 [.l 0]) Ë),.as (.n false 4) (.li []),.as (.n false 5) Ã,.wh (.cm aR [2] [.l 3]) [.as (.t [(false,6),(false,7)]) (.fn 36 [.l 0,.l 5,.l 3]),.if (.cm û [0] [.l 5]) [.re (.tu [.l 4,.l 7])] [],.as (.n false 8) (.fn 38 [.l 0,.l 5,.l 6]),.if (.cm (.l 8) [2] [.c (.int 0)]) [.re (.tu [.l 4,.l 5])] [],.wh (.bo true [.cm dI [2] [.l 3],.cm (.ix Ä dI) [8] [.c (.tup [.int 32,.int 9])]]) [.as (.t [(false,6),(false,7)]) (.fn 36 [.l 0,.l 7,.l 3])],.ex (.me ā 7 [.tu [.cl 3 [.sl Ä (some aR) (some (.l 8)) none,.sl Ä (some (.bi 0 (.l 8) Ì)) (some û) none],.l 5,.l 7]]),.as (.n false 5) dI],.re (.tu [.l 4,.l 3])]
def Xx:Fn:=⟨[(false,0),(false,1),(false,2)],9,0,[.int 0,.int (-1)],b39⟩
noncomputable def b40:List PS:=[.as (.t [(false,3),(false,4)]) (.fn 39 [.l 0,.l 1,.l 2]),.re (.tu [.co (.ix Ã ç) [1] à [] 2,.l 4])]
def Xw:Fn:=⟨[(false,0),(false,1),(false,2)],5,0,[.int 0,.int (-1)],b40⟩
noncomputable def b41:List PS:=[.as (.n false 1) (.li []),.as (.n false 2) ç,.wh (.c (.bool true)) [.as (.t [(false,3),(false,4)]) (.fn 36 [.l 0,.l 2,.bl 0 [.l 0]]),.ex (.me Ã 7 [.sl Ä (some Ë) (some à) none]),.if (.cm à [0] [.bl 0 [.l 0]]) [.re Ã] [],.as (.n false 2) ā]]
def Xv:Fn:=⟨[(false,0)],5,0,[],b41⟩
noncomputable def b42:List PS:=[.re (.me (.me (.c (.bytes [])) 2 [.fn 41 [.l 0]]) 4 [.c (.bytes [32,9])])]
def Xu:Fn:=⟨[(false,0)],1,0,[],b42⟩
noncomputable def b43:List PS:=[.as (.n false 2) (.fn 4 [.l 1]),.fo (.n false 3) Ä [.if (.cm (.me à 57 []) [0] [.l 2]) [.re (.fn 42 [.at à 34])] []],.re (.c .none)]
def Xs:Fn:=⟨[(false,0),(false,1)],4,0,[],b43⟩
noncomputable def b44:List PS:=[.re (.cl 4 [.c (.str aS),.c (.str [112,108,97,105,110]),.di [.c (.str Ax)] [.c (.str eT)]])]
def Xr:Fn:=⟨[],0,0,[],b44⟩
noncomputable def b45:List PS:=[.if (.cm Ä [6] [.c .none]) [.re (.fn 44 [])] [],.tr [.re .no] 7 [.re (.fn 44 [])]]
def Xq:Fn:=⟨[(false,0)],1,0,[],b45⟩
noncomputable def b46:List PS:=[.as (.n false 1) (.fn 43 [.l 0,.c (.str [99,111,110,116,101,110,116,45,116,114,97,110,115,102,101,114,45,101,110,99,111,100,105,110,103])]),.if (.cm Ã [6] [.c .none]) [.re (.c (.str wC))] [],.as (.n false 2) ç,.wh (.bo true [.cm Ë [2] [.bl 0 [.l 1]],.cm (.ix Ã Ë) [9] [.c (.bytes [32,9,40,59])]]) [.as (.n false 2) (.bi 0 Ë Ì)],.as (.n false 3) (.fn 4 [.me fB 2 [.co (.bl 1 [.l 1]) [1] (.sl Ã none (some Ë) none) [] 2]]),.re (.te (.cm à [0] [.c (.str [])]) (.c (.str wC)) à)]
def Xp:Fn:=⟨[(false,0)],4,0,[],b46⟩
noncomputable def b47:List PS:=[.re (.bo true [.me (.at Ä 41) 52 [],.cm (.at Ä 42) [8] [.c (.tup [.str wC,.str [56,98,105,116],.str [98,105,110,97,114,121]])]])]
def Xo:Fn:=⟨[(false,0)],1,0,[],b47⟩
noncomputable def b48:List PS:=[.as (.t [(false,3),(false,4)]) (.fn 40 [.k 0,.l 0,.l 1]),.as (.n false 5) (.fn 43 [.l 3,.c (.str [99,111,110,116,101,110,116,45,116,121,112,101])]),.as (.n false 6) (.te (.bo true [.cm aR [6] [.c .none],.l 2]) (.cl 4 [.c (.str [109,101,115,115,97,103,101]),.c (.str [114,102,99,56,50,50]),.di [] []]) (.fn 45 [.l 5])),.as (.n false 7) (.cl 5 [.l 0,.l 4,.l 1,.l 3,.l 6]),.if (.bo true [.cm (.k 1) [2] [.c (.int 20)],.me û 53 []]) [.as (.n true 2) (.cm (.at û 36) [0] [.c (.str [100,105,103,101,115,116])]),.as (.a dI 11) (.co (.fn 48 [.k 0,.l 1,.l 2,.bi 0 (.k 1) Ì,.k 2]) [1,2] .no [] 3)] [.if (.bo true [.cm (.k 1) [2] [.c (.int 20)],.fn 47 [.l 7]]) [.as (.a dI 43) (.fn 48 [.k 0,.l 4,.l 1,.bi 0 (.k 1) Ì,.c (.bool false)])] []],.re dI]
def Xn:Fn:=⟨[(true,0),(false,0),(false,1),(true,1),(false,2)],8,3,[],b48⟩
noncomputable def b49:List PS:=[.re (.fn 48 [.l 0,.c (.int 0),.bl 0 [.l 0],.c (.int 0),.c (.bool false)])]
def Xm:Fn:=⟨[(false,0)],1,0,[],b49⟩
noncomputable def b50:List PS:=[.if (.cm Ä [0] [.c (.str [98,97,115,101,54,52])]) [.re .no] [],.if (.cm Ä [0] [.c (.str [113,117,111,116,101,100,45,112,114,105,110,116,97,98,108,101])]) [.re .no] [],.re Ã]
def Xl:Fn:=⟨[(false,0),(false,1)],2,0,[],b50⟩
noncomputable def b51:List PS:=[.re (.fn 50 [.at Ã 42,.sl Ä (some (.at Ã 39)) (some (.at Ã 19)) none])]
def Xk:Fn:=⟨[(false,0),(false,1)],2,0,[],b51⟩
noncomputable def b52:List PS:=[.as (.n false 2) (.fn 6 [.me (.at (.at Ã 41) 37) 6 [.c (.str Ax),.c (.str eT)]]),.re (.fn 10 [.te (.cm Ë [0] [.c (.str [])]) (.c (.str eT)) Ë,.fn 51 [.l 0,.l 1]])]
def Xj:Fn:=⟨[(false,0),(false,1)],3,0,[],b52⟩
noncomputable def b53:List PS:=[.as (.n false 1) (.li []),.wh (.cm (.ix Ä ç) [0] [.c (.str [97,110,100])]) [.ex (.me Ã 7 [.ix Ä Ÿ]),.as (.n false 0) (.ix Ä Ì)],.ex (.me Ã 7 [.l 0]),.re (.sl Ã none none (some (.ng Ì)))]
def Xi:Fn:=⟨[(false,0)],2,0,[],b53⟩
noncomputable def b54:List PS:=[.sw [(false,1),(false,2)] [.li [],.li [.l 0]],.wh (.cm Ë [1] [.li []]) [.as (.n false 3) (.me Ë 8 []),.if (.cm (.ix à ç) [0] [.c (.str [110,111,116])]) [.ex (.me Ë 7 [.ix à Ì])] [.if (.cm (.ix à ç) [8] [.tu [.c (.str [97,110,100]),.c (.str [111,114])]]) [.ex (.me Ë 9 [.li [.ix à Ÿ,.ix à Ì]])] [.ex (.me Ã 7 [.l 3])]]],.re Ã]
def Xh:Fn:=⟨[(false,0)],4,0,[],b54⟩
noncomputable def b55:List PS:=[.as (.n false 1) (.co (.ix Ã ç) [1] (.fn 54 [.l 0]) [] 2),.re (.cm (.co Ã [1] Ã [.bo false [.cm Ã [8] [.tu [.c (.str cw),.c (.str aS),.c (.str ŗ)]],.cm (.sl Ã none (some hU) none) [0] [.c (.str Ť)]]] 2) [1] [.li []])]
def Xg:Fn:=⟨[(false,0)],2,0,[],b55⟩
noncomputable def b56:List PS:=[.as (.n false 2) (.ix Ä ç),.if (.cm Ë [0] [.c (.str [97,108,108])]) [.re (.c (.bool true))] [],.if (.cm Ë [0] [.c (.str [110,111,116])]) [.re (.nt (.fn 56 [.ix Ä Ì,.l 1]))] [],.if (.cm Ë [0] [.c (.str [111,114])]) [.re (.bo false [.fn 56 [.ix Ä Ì,.l 1],.fn 56 [.ix Ä Ÿ,.l 1]])] [],.if (.cm Ë [1] [.c (.str [97,110,100])]) [.re (.lo Ã [.l 0])] [],.fo (.n false 3) (.fn 53 [.l 0]) [.if (.nt (.fn 56 [.l 3,.l 1])) [.re (.c (.bool false))] []],.re (.c (.bool true))]
def Xf:Fn:=⟨[(false,0),(false,1)],4,0,[],b56⟩
noncomputable def b57:List PS:=[.as (.t [(false,2),(false,3)]) Ä,.if (.bo true [.cm Ã [0] [.c (.int 0)],.bo false [.cm Ë [0] [.c (.int 0)],.cm à [0] [.c (.int 0)]]]) [.re (.c .none)] [],.if (.cm Ë [0] [.c (.int 0)]) [.as (.n false 2) Ã] [],.if (.cm à [0] [.c (.int 0)]) [.as (.n false 3) Ã] [],.re (.tu [.bl 6 [.l 2,.l 3],.bl 7 [.l 2,.l 3]])]
def Xe:Fn:=⟨[(false,0),(false,1)],4,0,[],b57⟩
noncomputable def b58:List PS:=[.fo (.n false 3) Ä [.as (.n false 4) (.fn 57 [.l 3,.l 2]),.if (.bo true [.cm ā [7] [.c .none],.cm (.ix ā ç) [3,3] [.l 1,.ix ā Ì]]) [.re (.c (.bool true))] []],.re (.c (.bool false))]
def Xd:Fn:=⟨[(false,0),(false,1),(false,2)],5,0,[],b58⟩
noncomputable def b59:List PS:=[.as (.n false 1) (.li []),.as (.n false 2) ç,.as (.n false 3) ç,.wh (.cm à [2] [.bl 0 [.l 0]]) [.as (.n false 4) (.te (.cm (.ix Ä à) [0] [.c (.int 61)]) .no (.c .none)),.if (.cm ā [6] [.c .none]) [.as (.n false 3) (.bi 0 à Ì)] [.ex (.me Ã 7 [.tu [.c (.bool false),.sl Ä (some Ë) (some à) none]]),.ex (.me Ã 7 [.tu [.c (.bool true),.ix ā ç]]),.as (.n false 3) (.ix ā Ì),.as (.n false 2) à]],.re (.bi 0 Ã (.li [.tu [.c (.bool false),.sl Ä (some Ë) none none]]))]
def Xc:Fn:=⟨[(false,0)],5,0,[],b59⟩
noncomputable def b60:List PS:=[.as (.n false 1) (.fn 59 [.l 0]),.as (.n false 2) (.li []),.fo (.n false 3) (.bl 11 [.bl 0 [.l 1]]) [.as (.t [(false,4),(false,5)]) (.ix Ã à),.if ā [.ex (.me Ë 7 [.l 5])] [.if (.nt (.bo true [.cm ç [2,2] [.l 3,.bi 1 (.bl 0 [.l 1]) Ì],.no])) [.ex (.me Ë 7 [.fn 12 [.l 5]])] []]],.re (.me fB 2 [.l 2])]
def Xb:Fn:=⟨[(false,0)],6,0,[],b60⟩
noncomputable def b61:List PS:=[.re (.cm (.fn 4 [.fn 10 [.c (.str n6),.l 0]]) [8] [.fn 4 [.l 1]])]
def Xa:Fn:=⟨[(false,0),(false,1)],2,0,[],b61⟩
noncomputable def b62:List PS:=[.re (.fn 60 [.fn 42 [.at Ä 34]])]
def W_:Fn:=⟨[(false,0)],1,0,[],b62⟩
noncomputable def b63:List PS:=[.re (.bi 0 (.bi 0 (.fn 10 [.c (.str rQ),.at Ä 33]) (.c (.str [58,32]))) (.fn 62 [.l 0]))]
def W9:Fn:=⟨[(false,0)],1,0,[],b63⟩
noncomputable def b64:List PS:=[.fo (.n false 3) Ä [.if (.bo true [.cm (.me à 57 []) [0] [.l 1],.bo false [.cm Ë [0] [.c (.bytes [])],.fn 61 [.l 2,.fn 62 [.l 3]]]]) [.re (.c (.bool true))] []],.re (.c (.bool false))]
def W8:Fn:=⟨[(false,0),(false,1),(false,2)],4,0,[],b64⟩
noncomputable def b65:List PS:=[.fo (.n false 2) Ä [.if (.fn 61 [.l 1,.fn 63 [.l 2]]) [.re (.c (.bool true))] []],.re (.cm Ã [0] [.c (.bytes [])])]
def W7:Fn:=⟨[(false,0),(false,1)],3,0,[],b65⟩
noncomputable def b66:List PS:=[.if (.cm Ë [0] [.c (.bytes [])]) [.re (.c (.bool true))] [],.if (.cm à [4] [.c (.int 20)]) [.re (.c (.bool false))] [],.if (.cm (.at Ã 43) [7] [.c .none]) [.re .no] [],.fo (.n false 4) (.at Ã 11) [.if (.fn 66 [.l 0,.l 4,.l 2,.bi 0 à Ì]) [.re (.c (.bool true))] []],.re (.bo true [.cm (.at Ã 11) [0] [.li []],.me (.at Ã 41) 54 [],.fn 61 [.l 2,.fn 52 [.l 0,.l 1]]])]
def W6:Fn:=⟨[(false,0),(false,1),(false,2),(false,3)],5,0,[.int 0],b66⟩
noncomputable def b67:List PS:=[.if (.cm (.ix Ä ç) [0] [.c (.str cw)]) [.re (.fn 64 [.at Ë 40,.ix Ä Ì,.ix Ä Ÿ])] [],.if (.bo true [.cm (.ix Ä ç) [0] [.c (.str aS)],.fn 65 [.at Ë 40,.ix Ä Ì]]) [.re (.c (.bool true))] [],.re (.fn 66 [.l 1,.l 2,.ix Ä Ì])]
def W5:Fn:=⟨[(false,0),(false,1),(false,2)],3,0,[],b67⟩
noncomputable def b68:List PS:=[.if (.cm Ä [0] [.c (.str jA)]) [.re (.cm Ã [2] [.l 2])] [],.re (.te (.cm Ä [0] [.c (.str [111,110])]) (.cm Ã [0] [.l 2]) (.cm Ã [5] [.l 2]))]
def TR:Fn:=⟨[(false,0),(false,1),(false,2)],3,0,[],b68⟩
noncomputable def b69:List PS:=[.as (.n false 1) (.fn 43 [.l 0,.c (.str ň)]),.if (.cm Ã [6] [.c .none]) [.re (.c .none)] [],.tr [.as (.n false 2) (.fn 35 [.l 1])] 7 [.re (.c .none)],.re (.tu [.at Ë 20,.at Ë 21,.at Ë 22])]
def W4:Fn:=⟨[(false,0)],3,0,[],b69⟩
noncomputable def b70:List PS:=[.as (.n false 2) (.fn 69 [.l 1]),.re (.bo true [.cm Ë [7] [.c .none],.fn 68 [.sl (.ix Ä ç) (some hU) none none,.l 2,.ix Ä Ì]])]
def W3:Fn:=⟨[(false,0),(false,1)],3,0,[],b70⟩
noncomputable def b71:List PS:=[.as (.t [(false,4),(false,5)]) Ä,.if (.cm ā [0] [.c (.str lB)]) [.re (.cm (.bl 0 [.at Ã 14]) [4] [.l 5])] [],.if (.cm ā [0] [.c (.str n8)]) [.re (.cm (.bl 0 [.at Ã 14]) [2] [.l 5])] [],.if (.cm ā [0] [.c (.str aT)]) [.re (.cm (.at Ã 17) [5] [.l 5])] [],.re (.te (.cm ā [0] [.c (.str [115,101,113])]) (.fn 58 [.l 5,.l 2,.ix à ç]) (.fn 58 [.l 5,.at Ã 13,.ix à Ì]))]
def W2:Fn:=⟨[(false,0),(false,1),(false,2),(false,3)],6,0,[],b71⟩
noncomputable def b72:List PS:=[.if (.cm (.ix Ä ç) [0] [.c (.str hV)]) [.re (.me Ã 55 [.fn 2 [.ix Ä Ì]])] [],.if (.cm (.ix Ä ç) [8] [.tu [.c (.str jA),.c (.str [111,110]),.c (.str n7)]]) [.re (.fn 68 [.ix Ä ç,.fn 26 [.at Ã 16,.c (.int 0)],.ix Ä Ì])] [],.re (.fn 71 [.l 0,.l 1,.l 2,.l 3])]
def W0:Fn:=⟨[(false,0),(false,1),(false,2),(false,3)],4,0,[],b72⟩
noncomputable def b73:List PS:=[.if (.cm (.ix Ä ç) [8] [.tu [.c (.str cw),.c (.str aS),.c (.str ŗ)]]) [.re (.fn 67 [.l 0,.at (.at Ã 46) 14,.at Ã 47])] [],.if (.cm (.sl (.ix Ä ç) none (some hU) none) [0] [.c (.str Ť)]) [.re (.fn 70 [.l 0,.at (.at Ã 47) 40])] [],.re (.fn 72 [.l 0,.at Ã 46,.at Ã 32,.l 2])]
def WZ:Fn:=⟨[(false,0),(false,1),(false,2)],3,0,[],b73⟩
noncomputable def b74:List PS:=[.re (.fn 56 [.l 0,.la])]
def WY:Fn:=⟨[(false,0),(true,0),(true,1)],1,2,[],b74⟩
noncomputable def b75:List PS:=[.re (.te (.cm Ä [1] [.li []]) (.tu [.at (.ix Ä (.ng Ì)) 32,.at (.at (.ix Ä (.ng Ì)) 46) 13]) (.tu [.c (.int 0),.c (.int 0)]))]
def WX:Fn:=⟨[(false,0)],1,0,[],b75⟩
noncomputable def b76:List PS:=[.as (.n true 1) (.fn 75 [.l 0]),.re (.co (.at Ã 32) [1] Ä [.fn 74 [.k 0,.l 1,.k 1]] 2)]
def WW:Fn:=⟨[(true,0),(false,0)],1,2,[],b76⟩
noncomputable def b77:List PS:=[.re (.cl 6 [.l 0,.l 1,.te Ë (.fn 49 [.at Ä 14]) (.c .none)])]
def WV:Fn:=⟨[(false,0),(false,1),(false,2)],3,0,[],b77⟩
noncomputable def b78:List PS:=[.as (.n true 0) (.fn 55 [.l 0]),.re (.fn 76 [.l 0,.co (.fn 77 [.l 2,.bi 0 Ã Ì,.k 0]) [1,2] (.bl 12 [.l 1]) [] 3])]
def WU:Fn:=⟨[(false,0),(false,1)],2,1,[],b78⟩
noncomputable def b79:List PS:=[.as (.n false 2) (.co (.bl 2 [.l 1]) [1] (.sl Ä none (some (.c (.int 40))) none) [] 2),.as (.n false 3) ç,.if (.bo true [.l 2,.cm (.bl 4 [.ix Ë ç]) [5] [.bi 5 wA (.c (.int 15))]]) [.as (.n false 3) (.bi 4 (.bi 3 (.bl 4 [.ix Ë ç]) Ÿ) (.bi 5 wA (.c (.int 200))))] [],.as (.n false 4) ţ,.fo (.n false 1) Ë [.as (.n false 4) (.bi 4 (.bi 0 (.bi 0 (.bi 2 ā (.c (.int 48271))) (.bi 4 Ã ly)) (.c (.int 11))) ly)],.re (.li [.l 2,.l 3,.l 4,.c (.int 0)])]
def WT:Fn:=⟨[(false,0)],5,0,[],b79⟩
noncomputable def b80:List PS:=[.as (.n false 2) (.ix Ä rN),.as (.s Ä rN) (.bi 0 Ë Ì),.if (.cm (.ix Ä Ì) [4] [.c (.int 0)]) [.as (.n false 3) (.bi 4 (.ix Ä Ì) Ã),.as (.s Ä Ì) (.bi 3 (.ix Ä Ì) Ã),.re à] [],.as (.s Ä Ÿ) (.bi 4 (.bi 0 (.bi 0 (.bi 2 (.ix Ä Ÿ) (.c (.int 16807))) (.bi 2 Ë Ë)) rK) ly),.if (.cm Ë [2] [.bl 0 [.ix Ä ç]]) [.re (.bi 4 (.ix (.ix Ä ç) Ë) Ã)] [],.re (.bi 4 (.bi 3 (.ix Ä Ÿ) rK) Ã)]
def WS:Fn:=⟨[(false,0),(false,1)],4,0,[],b80⟩
noncomputable def b81:List PS:=[.re (.bl 8 [.co (.bl 3 [.l 1]) [1] Ä [] 2])]
def WR:Fn:=⟨[(false,0)],1,0,[],b81⟩
noncomputable def b82:List PS:=[.as (.n false 1) (.fn 80 [.k 0,.c (.int 6)]),.as (.n false 2) (.ix (.c (.tup [.str AB,.str AE,.str AA,.str AD,.str Az,.str []])) Ã),.as (.n false 3) (.ix (.c (.tup [.str [116,101,97],.str wD,.str lA,.str [120]])) (.fn 80 [.k 0,.c (.int 4)])),.as (.n false 4) (.ix (.c (.tup [.str [116,101,97],.str wD,.str lA,.str [120]])) (.fn 80 [.k 0,.c (.int 4)])),.as (.n false 5) (.bi 0 (.bi 0 (.bi 0 (.bi 0 (.bi 0 (.te (.cm Ë [1] [.c (.str [])]) (.bi 0 (.bi 0 (.c (.str eS)) Ë) wB) fB) (.c (.str bK))) à) (.c (.str fC))) ā) wB),.as (.n false 6) (.co Ã [1] (.c (.tup [.str rP,.str rR,.str rO,.str [107,119]])) [.cm (.fn 80 [.k 0,.c (.int 2)]) [0] [.c (.int 1)]] 2),.as (.n false 7) (.fn 80 [.k 0,.c (.int 4)]),.as (.n false 8) (.bi 0 (.bi 2 (.c (.int 86400)) (.ix (.ix (.c (.tup [.tup [.tup [.int 1969,.int 12,.int 31],.int (-1)],.tup [.tup [.int 1994,.int 2,.int 1],.int 8797],.tup [.tup [.int 1994,.int 2,.int 2],.int 8798],.tup [.tup [.int 2000,.int 2,.int 29],.int 11016]])) dI) Ì)) (.ix (.tu [.c (.int 0),.c (.int 86399),.c (.int 40000)]) (.fn 80 [.k 0,.c (.int 3)]))),.as (.n false 9) (.bi 0 Ì (.fn 80 [.k 0,.c (.int 9)])),.as (.n false 10) (.te (.cm Ã [2] [.c (.int 4)]) (.ix (.ix (.c (.tup [.tup [.tup [.int 1969,.int 12,.int 31],.int (-1)],.tup [.tup [.int 1994,.int 2,.int 1],.int 8797],.tup [.tup [.int 1994,.int 2,.int 2],.int 8798],.tup [.tup [.int 2000,.int 2,.int 29],.int 11016]])) Ã) ç) (.c .none)),.as (.n false 11) (.di [.c (.str [117,105,100]),.c (.str eR),.c (.str dK),.c (.str [100,97,121]),.c (.str aT),.c (.str Ť),.c (.str Ġ),.c (.str ŗ),.c (.str ň)] [.l 0,.l 6,.bl 0 [.l 5],.ix (.ix (.c (.tup [.tup [.tup [.int 1969,.int 12,.int 31],.int (-1)],.tup [.tup [.int 1994,.int 2,.int 1],.int 8797],.tup [.tup [.int 1994,.int 2,.int 2],.int 8798],.tup [.tup [.int 2000,.int 2,.int 29],.int 11016]])) dI) ç,.l 9,.l 10,.l 3,.l 4,.l 2]),.re (.tu [.cl 0 [.l 0,.fn 81 [.l 5],.l 6,.l 8,.l 9],.l 11])]
def WQ:Fn:=⟨[(true,0),(false,0)],12,1,[],b82⟩
noncomputable def b83:List PS:=[.as (.n false 2) (.li []),.fo (.n false 3) (.bl 11 [.bi 0 Ì (.fn 80 [.l 0,.c (.int 2)])]) [.ex (.me Ë 7 [.tu [.fn 80 [.l 0,.bi 0 Ã Ÿ],.fn 80 [.l 0,.bi 0 Ã Ÿ]]])],.re (.bl 5 [.l 2])]
def WO:Fn:=⟨[(false,0),(false,1)],4,0,[],b83⟩
noncomputable def b84:List PS:=[.fo (.t [(false,3),(false,4)]) Ä [.as (.n false 5) (.bl 9 [.li [.te (.cm à [0] [.c (.int 0)]) Ë à,.te (.cm ā [0] [.c (.int 0)]) Ë ā]]),.if (.cm (.ix aR ç) [3,3] [.l 1,.ix aR Ì]) [.re (.c (.bool true))] []],.re (.c (.bool false))]
def WN:Fn:=⟨[(false,0),(false,1),(false,2)],6,0,[],b84⟩
noncomputable def b85:List PS:=[.as (.n false 1) (.ix (.tu [.c (.str hV),.c (.str lB),.c (.str n8),.c (.str aT),.c (.str [115,101,113]),.c (.str [117,105,100]),.c (.str jA),.c (.str [111,110]),.c (.str n7),.c (.str Hl),.c (.str [115,101,110,116,111,110]),.c (.str [115,101,110,116,115,105,110,99,101]),.c (.str cw),.c (.str aS),.c (.str ŗ),.c (.str [97,108,108])]) (.fn 80 [.l 0,.c (.int 16)])),.if (.cm Ã [0] [.c (.str hV)]) [.re (.tu [.l 1,.ix (.c (.tup [.str rP,.str rR,.str rO,.str [107,119]])) (.fn 80 [.l 0,.c (.int 4)])])] [],.if (.cm Ã [8] [.tu [.c (.str lB),.c (.str n8)]]) [.re (.tu [.l 1,.bi 0 (.c (.int 20)) (.fn 80 [.l 0,.c (.int 50)])])] [],.if (.cm Ã [0] [.c (.str aT)]) [.re (.tu [.l 1,.fn 80 [.l 0,.c (.int 10)]])] [],.if (.cm Ã [8] [.tu [.c (.str [115,101,113]),.c (.str [117,105,100])]]) [.re (.tu [.l 1,.fn 83 [.l 0,.te (.cm Ã [0] [.c (.str [115,101,113])]) rK (.c (.int 14))]])] [],.if (.cm Ã [8] [.tu [.c (.str cw),.c (.str aS),.c (.str ŗ)]]) [.as (.n false 2) (.ix (.tu [.c (.bytes [84,69,65]),.c (.bytes [110,111,111,110]),.c (.bytes lA),.c (.bytes Aw),.c (.bytes []),.c (.bytes Ay),.c (.bytes [101]),.c (.bytes [122,122])]) (.fn 80 [.l 0,.c (.int 8)])),.re (.te (.cm Ã [0] [.c (.str cw)]) (.tu [.l 1,.c (.str Ġ),.l 2]) (.tu [.l 1,.l 2]))] [],.re (.te (.cm Ã [0] [.c (.str [97,108,108])]) (.tu [.l 1]) (.tu [.l 1,.ix (.ix (.c (.tup [.tup [.tup [.int 1969,.int 12,.int 31],.int (-1)],.tup [.tup [.int 1994,.int 2,.int 1],.int 8797],.tup [.tup [.int 1994,.int 2,.int 2],.int 8798],.tup [.tup [.int 2000,.int 2,.int 29],.int 11016]])) (.fn 80 [.l 0,.c (.int 4)])) ç]))]
def WM:Fn:=⟨[(false,0)],3,0,[],b85⟩
noncomputable def b86:List PS:=[.as (.n false 0) (.co (.fn 85 [.k 0]) [1] (.bl 11 [.c (.int 3)]) [] 2),.if (.cm (.fn 80 [.k 0,.c (.int 2)]) [0] [.c (.int 1)]) [.as (.s Ä ç) (.tu [.c (.str [110,111,116]),.ix Ä ç])] [],.as (.n false 1) (.fn 80 [.k 0,.c (.int 4)]),.if (.cm Ã [0] [.c (.int 0)]) [.re (.ix Ä ç)] [],.if (.cm Ã [0] [.c (.int 1)]) [.re (.tu [.c (.str [97,110,100]),.ix Ä ç,.ix Ä Ì])] [],.re (.te (.cm Ã [0] [.c (.int 2)]) (.tu [.c (.str [111,114]),.tu [.c (.str [97,110,100]),.ix Ä ç,.ix Ä Ì],.ix Ä Ÿ]) (.tu [.c (.str [110,111,116]),.tu [.c (.str [111,114]),.ix Ä ç,.tu [.c (.str [110,111,116]),.ix Ä Ì]]]))]
def WL:Fn:=⟨[(true,0)],2,1,[],b86⟩
noncomputable def b87:List PS:=[.if (.cm Ä [0] [.c (.str jA)]) [.re (.cm Ã [2] [.l 2])] [],.re (.te (.cm Ä [0] [.c (.str [111,110])]) (.cm Ã [0] [.l 2]) (.cm Ã [5] [.l 2]))]
def WK:Fn:=⟨[(false,0),(false,1),(false,2)],3,0,[],b87⟩
noncomputable def b88:List PS:=[.as (.n false 4) (.ix ğ ç),.if (.cm ā [0] [.c (.str cw)]) [.re (.cm (.fn 89 [.ix ğ Ÿ]) [8] [.me (.ix Ä (.c (.str Ġ))) 1 []])] [],.if (.bo false [.cm ā [0] [.c (.str ŗ)],.cm ā [0] [.c (.str aS)]]) [.as (.n false 5) (.li [.me (.ix Ä (.c (.str ŗ))) 1 []]),.if (.cm ā [0] [.c (.str aS)]) [.as (.n false 5) (.bi 0 (.bi 0 aR (.li [.bi 0 (.c (.str cY)) (.me (.ix Ä (.c (.str Ġ))) 1 [])])) (.te (.cm (.ix Ä jy) [1] [.c (.str [])]) (.li [.bi 0 (.c (.str jz)) (.me (.ix Ä jy) 1 [])]) (.li [])))] [],.re (.cm (.bl 0 [.co Ã [1] aR [.cm (.fn 89 [.ix ğ Ì]) [8] [.l 1]] 2]) [4] [.c (.int 0)])] [],.if (.cm (.sl ā none (some hU) none) [0] [.c (.str Ť)]) [.re (.bo true [.cm (.ix Ä (.c (.str Ť))) [7] [.c .none],.fn 87 [.sl ā (some hU) none none,.ix Ä (.c (.str Ť)),.ix ğ Ì]])] [],.if (.cm ā [8] [.tu [.c (.str jA),.c (.str [111,110]),.c (.str n7)]]) [.re (.fn 87 [.l 4,.ix Ä (.c (.str [100,97,121])),.ix ğ Ì])] [],.if (.cm ā [0] [.c (.str hV)]) [.re (.cm (.ix ğ Ì) [8] [.ix Ä (.c (.str eR))])] [],.if (.bo false [.cm ā [0] [.c (.str lB)],.cm ā [0] [.c (.str n8)]]) [.re (.te (.cm ā [0] [.c (.str lB)]) (.cm (.ix Ä (.c (.str dK))) [4] [.ix ğ Ì]) (.cm (.ix Ä (.c (.str dK))) [2] [.ix ğ Ì]))] [],.if (.cm ā [0] [.c (.str aT)]) [.re (.cm (.ix Ä (.c (.str aT))) [5] [.ix ğ Ì])] [],.re (.te (.cm ā [0] [.c (.str [115,101,113])]) (.fn 84 [.ix ğ Ì,.l 1,.l 2]) (.fn 84 [.ix ğ Ì,.ix Ä nZ,.l 3]))]
def WJ:Fn:=⟨[(true,0),(false,0),(false,1),(false,2),(false,3)],6,1,[],b88⟩
noncomputable def b89:List PS:=[.re (.me (.me fB 2 [.co (.bl 1 [.l 1]) [1] Ä [] 2]) 1 [])]
def WI:Fn:=⟨[(false,0)],1,0,[],b89⟩
noncomputable def b90:List PS:=[.as (.n false 1) (.ix Ä ç),.if (.cm Ã [0] [.c (.str [110,111,116])]) [.re (.nt (.fn 90 [.ix Ä Ì,.k 0,.k 1,.k 2,.k 3]))] [],.if (.cm Ã [8] [.tu [.c (.str [97,110,100]),.c (.str [111,114])]]) [.as (.n false 2) (.co (.fn 90 [.l 1,.k 0,.k 1,.k 2,.k 3]) [1] (.sl Ä (some Ì) none none) [] 2),.re (.te (.cm Ã [0] [.c (.str [97,110,100])]) (.cm (.c (.bool false)) [9] [.l 2]) (.cm (.c (.bool true)) [8] [.l 2]))] [],.re (.bo false [.cm Ã [0] [.c (.str [97,108,108])],.fn 88 [.l 0,.k 0,.k 1,.k 2,.k 3]])]
def WH:Fn:=⟨[(false,0),(true,0),(true,1),(true,2),(true,3)],3,4,[],b90⟩
noncomputable def Uz:List PS:=[.as (.n false 1) (.fn 79 [.l 0]),.as (.n false 2) (.li []),.as (.n true 0) (.li []),.as (.n true 1) ç,.fo (.n false 3) (.bl 11 [.fn 80 [.l 1,.c (.int 5)]]) [.as (.n true 1) (.bi 0 (.bi 0 (.k 1) Ì) (.fn 80 [.l 1,.c (.int 3)])),.as (.t [(false,4),(false,5)]) (.fn 82 [.l 1,.k 1]),.ex (.me Ë 7 [.l 4]),.ex (.me ğ 7 [.l 5])],.fo (.n false 3) (.bl 11 [.c (.int 2)]) [.as (.n true 2) (.fn 86 [.l 1]),.as (.n false 7) (.co (.bi 0 Ã Ì) [1] (.bl 11 [.bl 0 [.k 0]]) [.fn 90 [.k 2,.ix ğ Ã,.bi 0 Ã Ì,.bl 0 [.k 0],.k 1]] 2),.if (.cm (.fn 78 [.k 2,.l 2]) [1] [.l 7]) [.re (.c (.bool false))] []],.as (.n false 8) (.co (.cl 0 [.at Ã 13,.c .none,.at Ã 15,.at Ã 16,.at Ã 17]) [1] Ë [] 2),.as (.n true 3) (.tu [.c (.str [111,114]),.tu [.c (.str hV),.c (.str [107,119])],.tu [.c (.str [117,105,100]),.tu [.tu [.c (.int 2),.c (.int 0)]]]]),.if (.cm (.fn 78 [.k 3,.l 8]) [1] [.co (.bi 0 Ã Ì) [1] (.bl 11 [.bl 0 [.k 0]]) [.fn 90 [.k 3,.ix ğ Ã,.bi 0 Ã Ì,.bl 0 [.k 0],.k 1]] 2]) [.re (.c (.bool false))] [],.fo (.n false 6) (.bl 11 [.bl 0 [.k 0]]) [.as (.n false 9) (.fn 77 [.ix Ë û,.bi 0 ţ û,.c (.bool false)]),.as (.n false 10) (.fn 77 [.ix Ë û,.bi 0 ţ û,.c (.bool true)]),.if (.bo false [.cm (.at cv 47) [7] [.c .none],.cm (.tu [.at cv 32,.at (.at cv 46) 13]) [1] [.tu [.bi 0 ţ û,.ix (.ix ğ û) nZ]],.cm (.at dJ 32) [1] [.bi 0 ţ û]]) [.re (.c (.bool false))] [],.as (.n false 11) (.bi 0 (.te (.cm (.ix (.ix ğ û) jy) [1] [.c (.str [])]) (.li [.c (.str ň)]) (.li [])) (.li [.c (.str Ġ)])),.if (.bo false [.cm (.co (.me Ã 57 []) [1] (.at (.at dJ 47) 40) [] 2) [1] [.l 11],.cm (.me (.at dJ 46) 58 []) [1] [.me (.ix Ë û) 58 []]]) [.re (.c (.bool false))] []],.re (.cm (.fn 78 [.tu [.c (.str [97,108,108])],.l 2]) [0] [.bl 10 [.c (.int 1),.bi 0 (.bl 0 [.l 2]) Ì]])]
def TQ:Fn:=⟨[(false,0)],12,4,[],Uz⟩
noncomputable def b92:List PS:=[.as (.a Ä 13) Ã,.as (.a Ä 14) Ë,.as (.a Ä 15) (.bl 5 [.l 3]),.as (.a Ä 16) ā,.as (.a Ä 17) aR]
def WG:Fn:=⟨[(false,0),(false,1),(false,2),(false,3),(false,4),(false,5)],6,0,[],b92⟩
noncomputable def b93:List PS:=[.re (.cm Ã [8] [.at Ä 15])]
def WE:Fn:=⟨[(false,0),(false,1)],2,0,[],b93⟩
noncomputable def b94:List PS:=[.re (.tu [.at Ä 13,.at Ä 14,.at Ä 15,.at Ä 16,.at Ä 17])]
def WD:Fn:=⟨[(false,0)],1,0,[],b94⟩
noncomputable def b95:List PS:=[.as (.a Ä 20) Ã,.as (.a Ä 21) Ë,.as (.a Ä 22) à,.as (.a Ä 23) ā,.as (.a Ä 24) aR,.as (.a Ä 25) û,.as (.a Ä 26) dI]
def WC:Fn:=⟨[(false,0),(false,1),(false,2),(false,3),(false,4),(false,5),(false,6),(false,7)],8,0,[],b95⟩
noncomputable def b96:List PS:=[.as (.a Ä 27) (.fn 19 [.fn 18 [.l 1]]),.as (.a Ä 10) ç,.as (.a Ä 28) (.bl 0 [.l 1])]
def WB:Fn:=⟨[(false,0),(false,1)],2,0,[],b96⟩
noncomputable def b97:List PS:=[.re (.te (.cm (.at Ä 10) [2] [.bl 0 [.at Ä 27]]) (.ix (.ix (.at Ä 27) (.at Ä 10)) Ÿ) (.at Ä 28))]
def WA:Fn:=⟨[(false,0)],1,0,[],b97⟩
noncomputable def b98:List PS:=[.if (.bo false [.cm (.at Ä 10) [5] [.bl 0 [.at Ä 27]],.cm (.ix (.ix (.at Ä 27) (.at Ä 10)) ç) [1] [.c (.str [97,116,111,109])]]) [.re fB] [],.re (.me fB 2 [.co (.bl 1 [.l 1]) [1] (.ix (.ix (.at Ä 27) (.at Ä 10)) Ì) [] 2])]
def Wz:Fn:=⟨[(false,0)],1,0,[],b98⟩
noncomputable def b99:List PS:=[.if (.bo false [.cm (.at Ä 10) [5] [.bl 0 [.at Ä 27]],.cm (.sl (.ix (.at Ä 27) (.at Ä 10)) none (some Ÿ) none) [1] [.tu [.c (.str [115,105,103,110]),.l 1]]]) [.re (.c (.bool false))] [],.as (.a Ä 10) (.bi 0 (.at Ä 10) Ì),.re (.c (.bool true))]
def Wy:Fn:=⟨[(false,0),(false,1)],2,0,[],b99⟩
noncomputable def UK:List PS:=[.as (.n false 3) (.me Ä 29 []),.if (.bo false [.nt (.fn 29 [.l 3]),.nt (.cm Ã [3,3] [.bl 0 [.l 3],.l 2])]) [.ra [.c (.str [97,32,110,117,109,98,101,114,32,105,115,32,109,105,115,115,105,110,103]),.me Ä 31 []]] [],.as (.a Ä 10) (.bi 0 (.at Ä 10) Ì),.re (.tu [.bl 2 [.l 3],.bl 0 [.l 3]])]
def Oy:Fn:=⟨[(false,0),(false,1),(false,2)],4,0,[],UK⟩
noncomputable def UJ:List PS:=[.if (.nt Ã) [.ra [.l 2,.me Ä 31 []]] [],.as (.a Ä 10) (.bi 0 (.at Ä 10) Ì)]
def Ox:Fn:=⟨[(false,0),(false,1),(false,2)],3,0,[],UJ⟩
noncomputable def UI:List PS:=[.as (.a Ä 33) Ã,.as (.a Ä 34) Ë]
def Ow:Fn:=⟨[(false,0),(false,1),(false,2)],3,0,[],UI⟩
noncomputable def UH:List PS:=[.re (.fn 4 [.me fB 2 [.co (.bl 1 [.l 1]) [1] (.at Ä 33) [] 2]])]
def Ov:Fn:=⟨[(false,0)],1,0,[],UH⟩
noncomputable def UG:List PS:=[.as (.a Ä 35) Ã,.as (.a Ä 36) Ë,.as (.a Ä 37) à]
def Ou:Fn:=⟨[(false,0),(false,1),(false,2),(false,3)],4,0,[],UG⟩
noncomputable def UE:List PS:=[.re (.cm (.at Ä 35) [0] [.c (.str [109,117,108,116,105,112,97,114,116])])]
def Ot:Fn:=⟨[(false,0)],1,0,[],UE⟩
noncomputable def UD:List PS:=[.re (.bo true [.cm (.at Ä 35) [0] [.c (.str [109,101,115,115,97,103,101])],.cm (.at Ä 36) [0] [.c (.str [114,102,99,56,50,50])]])]
def Oq:Fn:=⟨[(false,0)],1,0,[],UD⟩
noncomputable def UC:List PS:=[.re (.cm (.at Ä 35) [0] [.c (.str aS)])]
def Oo:Fn:=⟨[(false,0)],1,0,[],UC⟩
noncomputable def UB:List PS:=[.as (.a Ä 38) Ã,.as (.a Ä 39) Ë,.as (.a Ä 19) à,.as (.a Ä 40) ā,.as (.a Ä 41) aR,.as (.a Ä 42) (.fn 46 [.l 4]),.as (.a Ä 11) (.li []),.as (.a Ä 43) (.c .none)]
def Om:Fn:=⟨[(false,0),(false,1),(false,2),(false,3),(false,4),(false,5)],6,0,[],UB⟩
noncomputable def UA:List PS:=[.as (.a Ä 46) Ã,.as (.a Ä 32) Ë,.as (.a Ä 47) à]
def Ol:Fn:=⟨[(false,0),(false,1),(false,2),(false,3)],4,0,[],UA⟩
def P2:List (List Fn):=[[f0,f1,f2,f3,f4,f5,f6,f7,f8,f9,X7,X6,X5,X4,X3,X0],[XZ,XY,XX,XW,XU,XS,XR,XQ,XO,XN,XM,XK,XJ,XI,XH,XG],[XF,XD,XC,XB,XA,Xz,Xy,Xx,Xw,Xv,Xu,Xs,Xr,Xq,Xp,Xo],[Xn,Xm,Xl,Xk,Xj,Xi,Xh,Xg,Xf,Xe,Xd,Xc,Xb,Xa,W_,W9],[W8,W7,W6,W5,TR,W4,W3,W2,W0,WZ,WY,WX,WW,WV,WU,WT],[WS,WR,WQ,WO,WN,WM,WL,WK,WJ,WI,WH,TQ,WG,WE,WD,WC],[WB,WA,Wz,Wy,Oy,Ox,Ow,Ov,Ou,Ot,Oq,Oo,Om,Ol]]
def pf(T:List (List α))(j:Nat):Option α:=match é T (j / 16)with
 |some l=>é l (j % 16)
 |none=>none
noncomputable def eC(k:Nat):List (Nat×Nat)→Option Nat
 |[]=>none
 |p::r=>match Þ p.1 k with
  |true=>some p.2
  |false=>eC k r
noncomputable def r8:List (Nat×Nat):=[(55,93),(58,94),(95,97),(93,98),(113,99),(96,100),(94,101),(186,110),(249,103),(250,111),(314,112),(309,105),(308,106),(310,107),(378,113)]
noncomputable def xc:List (Option Nat):=[some 92,some 96,some 95,some 102,some 104,some 108,some 109]
def l7(c:Nat):Option Nat:=match é xc c with
 |some x=>x
 |none=>none
def Ê:Č where
 fn j:=pf P2 j
 gw c a:=eC (c*64+a) r8
 init c:=l7 c
 open_ j:=Þ j 79
 Fq c:=Þ c 1
 lam:=73
inductive Gl where
 |fn (j:Nat)|cls (c:Nat)|blt (b:Nat)|con (v:V)
noncomputable def Gl.ctorIdx:Gl→Nat:=fun v=>v.casesOn (fun À=>0) (fun À=>1) (fun À=>2) (fun À=>3)
structure Cx where
 sn:List (Õ×NameKind)
 loc:List Õ
 Ó:List Õ
 xn:List (Õ×Gl)
 Ŷ:List Õ
noncomputable def idx(x:Õ):List Õ→Nat→Option Nat
 |[],_=>none
 |y::r,n=>if y=x then some n else idx x r (n+1)
noncomputable def gl(x:Õ):List (Õ×Gl)→Option Gl
 |[]=>none
 |p::r=>if p.1=x then some p.2 else gl x r
noncomputable def LY:Const→Option V
 |.none=>some .none
 |.bool b=>some (.bool b)
 |.int i=>some (.int i)
 |.str s=>some (.str s.cps.toList)
 |.bytes b=>some (.bytes (b.map (·.toNat)))
 |_=>none
noncomputable def Cc:Operator→Option Nat
 |.Add=>some 0|.Sub=>some 1|.Mult=>some 2|.FloorDiv=>some 3|.Mod=>some 4|.Pow=>some 5
 |_=>none
noncomputable def tB:CmpOp→Nat
 |.Eq=>0|.NotEq=>1|.Lt=>2|.LtE=>3|.Gt=>4|.GtE=>5|.Is=>6|.IsNot=>7|.In=>8|.NotIn=>9
noncomputable def bT(x:Õ):Bool:=x==("__debug__":Õ)||x==("__classdict__":Õ)
def Ma(cx:Cx)(x:Õ):NameKind→Option (Bool×Nat)
 |.local=>(idx x cx.loc 0).map fun i=>(false,i)
 |.cell=>(idx x cx.Ó 0).map fun i=>(true,i)
 |.free=>(idx x cx.Ó 0).map fun i=>(true,i)
 |_=>none
def Ę(cx:Cx)(x:Õ):Option (Bool×Nat):=if bT x then none else(cx.sn.lookup x).bind (Ma cx x)
def dz(cx:Cx)(x:Õ):Option Gl:=if bT x then none else(cx.sn.lookup x).bind fun k=>match k with
 |.globalImplicit=>gl x cx.xn
 |_=>none
def uI(cx:Cx)(sc:PySem.Scope):Bool:=sc.kind==.function&&sc.names.all fun p=>p.2 !=.cell&&(p.2 !=.local||sc.names.lookup p.1==some .local)&&(p.2 !=.free||(cx.sn.lookup p.1==some .cell&&(Ę cx p.1).isSome))
noncomputable def aI:List (Õ×NameKind)→List Õ
 |[]=>[]
 |p::r=>match p.2 with
  |.local=>p.1::aI r
  |_=>aI r
noncomputable def š:List (Õ×NameKind)→List Õ
 |[]=>[]
 |p::r=>match p.2 with
  |.cell=>p.1::š r
  |_=>š r
def mS(cx:Cx)(sc:PySem.Scope):Cx:={cx with sn:=sc.names,loc:=aI sc.names}
inductive Vw where
 |nm (x:Õ)|tu (es:List Expr)|li|ca (f:Expr) (as:List Expr) (ks:List Keyword)|co (c:Const)|st|se|cp|sl|Y7
noncomputable def Vw.ctorIdx:Vw→Nat:=fun v=>v.casesOn (fun À=>0) (fun À=>1) 2 (fun À À À=>3) (fun À=>4) 5 6 7 8 9
noncomputable def vw:Expr→Vw
 |.Name x _=>.nm x
 |.Tuple es _ _=>.tu es
 |.List _ _=>.li
 |.Call f as ks _=>.ca f as ks
 |.Constant c _ _=>.co c
 |.Starred _ _=>.st
 |.Set _ _ _=>.se
 |.ListComp _ _ _ _=>.cp
 |.SetComp _ _ _ _=>.cp
 |.DictComp _ _ _ _ _=>.cp
 |.Slice _ _ _ _=>.sl
 |_=>.Y7
def VwI(e:Expr):Vw→Prop
 |.nm x=>∃p,e=.Name x p
 |.tu es=>T2 fun k p=>e=.Tuple es k p
 |.ca f as ks=>∃p,e=.Call f as ks p
 |_=>True
theorem Qj(e:Expr):VwI e (vw e):=by induction e using PySem.Expr.casesOn<;>first|trivial|exact⟨_,rfl⟩|exact⟨_,_,rfl⟩
def isStar(e:Expr):Bool:=match vw e with
 |.st=>true
 |_=>false
def plain(es:List Expr):Bool:=es.all fun e=> !isStar e
noncomputable def M6:Vw→Option Õ
 |.nm x=>some x
 |_=>none
noncomputable def Qn:Vw→Option (List Expr)
 |.tu ts=>some ts
 |_=>none
noncomputable def OQ:Vw→Option (Expr×List Expr×List Keyword)
 |.ca f as ks=>some (f,as,ks)
 |_=>none
def Uh:Vw→Option (List Nat)
 |.co c=>(LY c).bind qS
 |_=>none
def nameOf(e:Expr):Option Õ:=M6 (vw e)
def pR(e:Expr):Option (List Expr):=Qn (vw e)
def jq(e:Expr):Option (Expr×List Expr×List Keyword):=OQ (vw e)
def Ui(e:Expr):Option (List Nat):=Uh (vw e)
theorem gC{e:Expr}{x:Õ}(h:nameOf e=some x):∃p,e=.Name x p:=by
 have q:=Qj e;unfold nameOf at h;generalize vw e=v at h q
 induction v using Vw.casesOn<;>cases h;exact q
theorem tupI{e:Expr}{x:List Expr}(h:pR e=some x):T2 fun k p=>e=.Tuple x k p:=by
 have q:=Qj e;unfold pR at h;generalize vw e=v at h q
 induction v using Vw.casesOn<;>cases h;exact q
theorem H4{e:Expr}{x:Expr×List Expr×List Keyword}(h:jq e=some x):∃p,e=.Call x.1 x.2.1 x.2.2 p:=by
 have q:=Qj e;unfold jq at h;generalize vw e=v at h q
 induction v using Vw.casesOn<;>cases h;exact q
def wQ(cx:Cx)(e:Expr):Option Nat:=(nameOf e).bind fun x=>(Ę cx x).bind fun p=>if p.1 then none else some p.2
def cW(cx:Cx)(e:Expr):Option (List Nat):=match pR e with
 |some es=>(q2 es).bind fun p=>(wQ cx p.1).bind fun i=>(wQ cx p.2).map fun j=>[i,j]
 |none=>(wQ cx e).map fun i=>[i]
def da(e:Expr):Bool:=match jq e with
 |some p=>p.2.1.isEmpty&&p.2.2.isEmpty&&nameOf p.1==some ("super":Õ)
 |none=>false
def Br(e:Expr):Bool:=(pR e).isSome
def jl(t:Expr):PE→Bool
 |.bl b _=> !Þ b 12||Br t
 |_=>true
def isSet(e:Expr):Bool:=match vw e with
 |.se=>true
 |_=>false
def jf(e:Expr):Bool:=match vw e with
 |.cp=>true
 |_=>false
def dU(e:Expr):Bool:=match vw e with
 |.sl=>true
 |_=>false
def Nq(k:Option Expr):Option (List Nat):=k.bind Ui
noncomputable def fU:List (Option Expr)→Option (List (List Nat))
 |[]=>some []
 |k::r=>(Nq k).bind fun x=>(fU r).map (x:: ·)
noncomputable def dR:PySem.Scope:=⟨.function,[("leaf",.local),("context",.free),("seen",.free),("leaf_holds",.globalImplicit)],false,false,[]⟩
noncomputable def mZ:Nat:=1010
noncomputable def m7:Nat:=24
noncomputable def OX(a:Arg):Bool:=a.arg==("leaf":Õ)&&a.annotation.isNone
def wW(a:Arguments):Bool:=a.posonlyargs.isEmpty&&((q1 a.args).any OX&&(a.vararg.isNone&&(a.kwonlyargs.isEmpty&&(a.kw_defaults.isEmpty&&(a.kwarg.isNone&&a.defaults.isEmpty)))))
def FJ(e:Expr):Bool:=(jq e).any fun p=>nameOf p.1==some ("leaf_holds":Õ)&&(p.2.2.isEmpty&&(q3 p.2.1).any fun q=>nameOf q.1==some ("leaf":Õ)&&(nameOf q.2.1==some ("seen":Õ)&&nameOf q.2.2==some ("context":Õ)))
def fJ(a:Arguments)(e:Expr):Bool:=wW a&&FJ e
def Hu(cx:Cx)(args:Arguments)(body:Expr)(sc:PySem.Scope)(pos:Pos):Bool:=
 fJ args body&&(sc==dR&&(cx.sn.lookup ("seen":Õ)==some .cell&&(Ę cx "seen"==some (true,0)&&(Ę cx "context"==some (true,1)&&(Þ pos.line mZ&&Þ pos.col m7)))))
noncomputable def cst:Option V→PE
 |some v=>.c v
 |none=>.no
noncomputable def HY:Gl→Option V
 |.con v=>some v
 |_=>none
def OB(cx:Cx)(x:Õ):PE:=match Ę cx x with
 |some p=>match p.1 with
  |false=>.l p.2
  |true=>.k p.2
 |none=>cst ((dz cx x).bind HY)
noncomputable def Lo:PE→Option (List PE)
 |.bl b as=>if Þ b 11 then some as else none
 |_=>none
def zb(i:Bool)(b:Nat)(as zf:List PE):PE:=match aj 11 b with
 |true=>match i with
  |true=>.bl b as
  |false=>.no
 |false=>match Þ b 10 with
  |true=>match(q1 zf).bind Lo with
   |some xs=>.bl 10 xs
   |none=>.no
  |false=>.bl b as
def glE(i:Bool)(as zf:List PE):Gl→PE
 |.fn j=>.fn j as
 |.cls c=>.cl c as
 |.blt b=>zb i b as zf
 |.con _=>.no
def pq(i:Bool)(cx:Cx)(f:Õ)(as zf:List PE):PE:=match Ę cx f with
 |some p=>match p.1 with
  |false=>.lo (.l p.2) as
  |true=>.no
 |none=>match dz cx f with
  |some G=>glE i as zf G
  |none=>.no
noncomputable def CD(o:Option (PE×Nat×Pos))(n:Nat)(pos:Pos)(as:List PE):PE:=match o with
 |some q=>match(q.2.2.endLine==pos.line)&&Đ n 20 with
  |true=>.me q.1 q.2.1 as
  |false=>.no
 |none=>.no
def jW(i:Bool)(cx:Cx)(f:Expr)(o:Option (PE×Nat×Pos))(n:Nat)(pos:Pos)(as zf:List PE):PE:=match nameOf f with
 |some x=>pq i cx x as zf
 |none=>CD o n pos as
noncomputable def atE(a:Option Nat)(e:PE):PE:=match a with
 |some a=>.at e a
 |none=>.no
noncomputable def Mo(v i:PE)(s:Option (Option PE×Option PE×Option PE)):PE:=match s with
 |some q=>.sl v q.1 q.2.1 q.2.2
 |none=>.ix v i
noncomputable def Yb(a b:PE)(o:Option Nat):PE:=match o with
 |some n=>.bi n a b
 |none=>.no
noncomputable def Yu(e:PE):UnaryOp→PE
 |.Not=>.nt e
 |.USub=>.ng e
 |_=>.no
noncomputable def cq(b:Bool)(e:PE):PE:=match b with
 |true=>e
 |false=>.no
noncomputable def diE(vs:List PE)(ks:Option (List (List Nat))):PE:=match ks with
 |some ks=>.di (ks.map fun k=>.c (.str k)) vs
 |none=>.no
noncomputable def P9(n:Nat)(elt:PE)(g:Option (PE×List Nat×List PE)):PE:=match g with
 |some q=>.co elt q.2.1 q.1 q.2.2 n
 |none=>.no
mutual
noncomputable def mR(i:Bool)(cx:Cx):Expr→PE
 |.Constant c _ _=>cst (LY c)
 |.Name x _=>OB cx x
 |.Attribute e a _=>cq (!da e) (atE (idx a cx.Ŷ 0) (mR false cx e))
 |.Call f as ks pos=>cq (ks.isEmpty&&plain as) (jW i cx f (K5 cx f) as.length pos (cT false cx as) (cT true cx as))
 |.Subscript v k _=>Mo (mR false cx v) (mR false cx k) (K2 cx k)
 |.BinOp a op b _=>Yb (mR false cx a) (mR false cx b) (Cc op)
 |.Compare a ops bs _=>cq (!bs.any isSet) (.cm (mR false cx a) (ops.map tB) (cT false cx bs))
 |.BoolOp op es _=>.bo (op==.And) (cT false cx es)
 |.UnaryOp op e _=>Yu (mR false cx e) op
 |.IfExp t a b _=>.te (mR false cx t) (mR false cx a) (mR false cx b)
 |.Tuple es _ _=>cq (plain es) (.tu (cT false cx es))
 |.List es _=>cq (plain es) (.li (cT false cx es))
 |.Dict ks vs _=>cq (Þ ks.length vs.length&&aj ks.length 15) (diE (cT false cx vs) (fU ks))
 |.ListComp elt gens sc _=>cq (uI cx sc) (P9 (aI sc.names).length (mR false (mS cx sc) elt) (LX cx (mS cx sc) gens))
 |.Lambda args body sc pos=>cq (Hu cx args body sc pos) .la
 |_=>.no
noncomputable def cT(i:Bool)(cx:Cx):List Expr→List PE
 |[]=>[]
 |e::r=>mR i cx e::cT i cx r
noncomputable def K3(cx:Cx):Option Expr→Option PE
 |none=>none
 |some e=>some (mR false cx e)
noncomputable def K5(cx:Cx):Expr→Option (PE×Nat×Pos)
 |.Attribute o a p=>if da o then none else(idx a cx.Ŷ 0).map fun k=>(mR false cx o,k,p)
 |_=>none
noncomputable def K2(cx:Cx):Expr→Option (Option PE×Option PE×Option PE)
 |.Slice lo hi st _=>some (K3 cx lo,K3 cx hi,K3 cx st)
 |_=>none
noncomputable def LX(cx HX:Cx):List Comprehension→Option (PE×List Nat×List PE)
 |[]=>none
 |c::r=>if r.isEmpty then K6 cx HX c else none
noncomputable def K6(cx HX:Cx):Comprehension→Option (PE×List Nat×List PE)
 |⟨t,it,ifs,a⟩=>if gI a 0&&(!isSet it&&jl t (mR true cx it))then(cW HX t).map fun tg=>(mR true cx it,tg,cT false HX ifs)else none
end
abbrev er:=mR false
abbrev fc:=cT false
abbrev xq:=mR true
noncomputable def Š(cx:Cx):List Expr→Option (List (Bool×Nat))
 |[]=>some []
 |e::r=>(nameOf e).bind fun x=>(Ę cx x).bind fun p=>(Š cx r).map (p:: ·)
def fg(cx:Cx):Expr→Tg
 |.Name x _=>match Ę cx x with
  |some p=>.n p.1 p.2
  |none=>.no
 |.Tuple ts _ _=>match Š cx ts with
  |some l=>.t l
  |none=>.no
 |.Attribute o a _=>match idx a cx.Ŷ 0 with
  |some a=>.a (er cx o) a
  |none=>.no
 |.Subscript o i _=>.s (er cx o) (er cx i)
 |_=>.no
def isTup(e:Expr):Bool:=match vw e with
 |.tu _=>true
 |.li=>true
 |_=>false
def Qz(ts es:List Expr):Bool:=(q2 ts).any fun p=>(q2 es).any fun q=>(nameOf p.1).any fun x=>(nameOf p.2).any fun y=>x !=y&&(plain es&&(!(es.all (constantsAlone 8))||es.all (foldedForSure 8)))
noncomputable def hH(b:Bool)(e:PS):PS:=match b with
 |true=>e
 |false=>.no
def QA(cx:Cx)(ts es:List Expr):PS:=match Š cx ts with
 |some l=>hH (Qz ts es) (.sw l (fc cx es))
 |none=>.no
def Qc(cx:Cx)(t e:Expr):PS:=match pR t,pR e with
 |some ts,some es=>QA cx ts es
 |_,_=>hH (!(isStar t||(isTup t&&isTup e))) (.as (fg cx t) (er cx e))
noncomputable def OP:Gl→Option Nat
 |.cls c=>some c
 |_=>none
def ph(cx:Cx)(e:Expr):Option Nat:=(nameOf e).bind fun x=>(dz cx x).bind OP
def VQ(cx:Cx)(e:Option Expr):PS:=match(e.bind jq).bind fun p=>(ph cx p.1).bind fun c=>if Þ c 7&&(p.2.2.isEmpty&&plain p.2.1)then some p.2.1 else none with
 |some es=>.ra (fc cx es)
 |none=>.no
def RE(cx:Cx):Option Expr→PS
 |some e=>.re (er cx e)
 |none=>.no
noncomputable def Yw(b:List PS)(h:Option (Nat×List PS)):PS:=match h with
 |some q=>.tr b q.1 q.2
 |none=>.no
mutual
noncomputable def OA(cx:Cx):Stmt→PS
 |.Assign ts e _=>match q1 ts with
  |some t=>Qc cx t e
  |none=>.no
 |.Expr e _=>hH (!jf e) (.ex (er cx e))
 |.If t b o _=>.if (er cx t) (bF cx b) (bF cx o)
 |.While t b o _=>hH o.isEmpty (.wh (er cx t) (bF cx b))
 |.For t it b o _=>hH (o.isEmpty&&(!isSet it&&jl t (xq cx it))) (.fo (fg cx t) (xq cx it) (bF cx b))
 |.Return e _=>RE cx e
 |.Raise e c _=>hH c.isNone (VQ cx e)
 |.Try b hs o f _=>hH (o.isEmpty&&f.isEmpty) (Yw (bF cx b) (OD cx hs))
 |.Pass _=>.pa
 |_=>.no
noncomputable def bF(cx:Cx):List Stmt→List PS
 |[]=>[]
 |s::r=>OA cx s::bF cx r
noncomputable def OD(cx:Cx):List ExceptHandler→Option (Nat×List PS)
 |[]=>none
 |h::r=>if r.isEmpty then T8 cx h else none
noncomputable def T8(cx:Cx):ExceptHandler→Option (Nat×List PS)
 |.ExceptHandler t n b _=>if n.isNone then(t.bind (ph cx)).map fun c=>(c,bF cx b)else none
end
noncomputable def TL:List (Õ×Gl):=[("system_flags",.fn 0),("is_keyword",.fn 1),("flag_name",.fn 2),("lower_code",.fn 3),("lower_text",.fn 4),("charset_names",.fn 5),("charset_name",.fn 6),("need_charset",.fn 7),("utf8_sign",.fn 8),("sign_at",.fn 9),("text_in",.fn 10),("strict_text",.fn 11),("guessed_text",.fn 12),("is_atom_code",.fn 13),("line_end",.fn 14),("atom_at",.fn 15),("token_at",.fn 16),("past_white",.fn 17),("tokens_of",.fn 18),("without_comments",.fn 19),("is_leap",.fn 20),("month_length",.fn 21),("days_before_year",.fn 22),("day_told",.fn 23),("is_day",.fn 24),("is_time",.fn 25),("day_of",.fn 26),("month_number",.fn 27),("is_day_name",.fn 28),("is_figures",.fn 29)]
noncomputable def TK:List (Õ×Gl):=[("zone_in",.fn 30),("named_zone",.fn 31),("full_year",.fn 32),("read_clock",.fn 33),("read_zone",.fn 34),("read_date",.fn 35),("line_at",.fn 36),("is_name",.fn 37),("colon_in",.fn 38),("read_spans",.fn 39),("read_fields",.fn 40),("rows_of",.fn 41),("unfolded",.fn 42),("first_body",.fn 43),("plain_kind",.fn 44),("read_kind",.fn 45),("encoding_of",.fn 46),("has_inner",.fn 47),("read_part",.fn 48),("read_message",.fn 49),("undone",.fn 50),("body_octets",.fn 51),("body_text",.fn 52),("row_of",.fn 53),("leaves_of",.fn 54),("needs_part",.fn 55),("decide",.fn 56),("ends_of",.fn 57),("has",.fn 58),("pieces_of",.fn 59)]
noncomputable def TJ:List (Õ×Gl):=[("decoded_words",.fn 60),("is_within",.fn 61),("field_text",.fn 62),("field_line",.fn 63),("header_holds",.fn 64),("head_holds",.fn 65),("texts_hold",.fn 66),("look_holds",.fn 67),("day_holds",.fn 68),("sent_day",.fn 69),("sent_holds",.fn 70),("number_holds",.fn 71),("simple_holds",.fn 72),("leaf_holds",.fn 73),("matches",.fn 74),("context_of",.fn 75),("search_seen",.fn 76),("seen_of",.fn 77),("search",.fn 78),("_law_box",.fn 79),("_law_draw",.fn 80),("_law_octets",.fn 81),("_law_letter",.fn 82),("_law_set",.fn 83),("_law_has",.fn 84),("_law_leaf",.fn 85),("_law_tree",.fn 86),("_law_day",.fn 87),("_law_look",.fn 88),("_law_text",.fn 89)]
noncomputable def TH:List (Õ×Gl):=[("_law_met",.fn 90),("law",.fn 91),("Letter",.cls 0),("DateReader",.cls 1),("Moment",.cls 2),("Field",.cls 3),("Kind",.cls 4),("Part",.cls 5),("Seen",.cls 6),("WordFault",.cls 7),("MimeFault",.cls 8),("len",.blt 0),("chr",.blt 1),("int",.blt 2),("ord",.blt 3),("abs",.blt 4),("tuple",.blt 5),("min",.blt 6),("max",.blt 7),("bytes",.blt 8),("sorted",.blt 9),("list",.blt 10),("range",.blt 11),("enumerate",.blt 12),("SYSTEM",.con (.str [92,83,101,101,110,32,92,65,110,115,119,101,114,101,100,32,92,70,108,97,103,103,101,100,32,92,68,101,108,101,116,101,100,32,92,68,114,97,102,116])),("NO_KEYWORD",.con (.str [40,41,123,32,37,42,34,92,93])),("MOST_KEYWORD",.con (.int 60)),("RETURN_octets",.con (.int 13)),("MOST_FIGURES",.con (.int 20)),("ASCII",.con (.str [117,115,45,97,115,99,105,105]))]
noncomputable def TG:List (Õ×Gl):=[("LATIN",.con (.str [105,115,111,45,56,56,53,57,45,49])),("UTF8",.con (.str [117,116,102,45,56])),("CHARSETS",.con (.tup [.str [117,115,45,97,115,99,105,105],.str [105,115,111,45,56,56,53,57,45,49],.str [117,116,102,45,56]])),("UNKNOWN_SIGN",.con (.str [65533])),("MOST_DEPTH_tokens",.con (.int 20)),("SIGNS_tokens",.con (.bytes [60,62,64,44,59,58,46,92])),("ATOM_SIGNS",.con (.bytes [33,35,36,37,38,39,42,43,45,47,61,63,94,95,96,123,124,125,126])),("NEVER_ESCAPED",.con (.tup [.int 0,.int 10,.int 13])),("MONTHS",.con (.tup [.str [74,97,110],.str [70,101,98],.str [77,97,114],.str [65,112,114],.str [77,97,121],.str [74,117,110],.str [74,117,108],.str [65,117,103],.str [83,101,112],.str [79,99,116],.str [78,111,118],.str [68,101,99]])),("DAYS",.con (.tup [.str [77,111,110],.str [84,117,101],.str [87,101,100],.str [84,104,117],.str [70,114,105],.str [83,97,116],.str [83,117,110]])),("MOST_YEAR",.con (.int 9999)),("DAY_SECONDS",.con (.int 86400)),("FIRST_DAY",.con (.int 719162)),("WHITE_headers",.con (.tup [.int 32,.int 9])),("SIGNS_base64",.con (.bytes [65,66,67,68,69,70,71,72,73,74,75,76,77,78,79,80,81,82,83,84,85,86,87,88,89,90,97,98,99,100,101,102,103,104,105,106,107,108,109,110,111,112,113,114,115,116,117,118,119,120,121,122,48,49,50,51,52,53,54,55,56,57,43,47])),("PAD",.con (.int 61)),("WHITE_params",.con (.tup [.int 9,.int 10,.int 13,.int 32])),("SEMICOLON",.con (.int 59)),("EQUALS_params",.con (.int 61)),("QUOTE",.con (.int 34)),("BRACKET",.con (.int 40)),("PER_CENT",.con (.int 37)),("BARRED",.con (.bytes [40,41,60,62,64,44,59,58,92,34,47,91,93,63,61])),("HEX_FIGURES",.con (.bytes [48,49,50,51,52,53,54,55,56,57,65,66,67,68,69,70])),("EQUALS_quoted",.con (.int 61)),("BLANK",.con (.int 32)),("RETURN_quoted",.con (.int 13)),("UNDERLINE",.con (.int 95)),("MOST_DEPTH_parts",.con (.int 20)),("PLAIN_ENCODING",.con (.str [55,98,105,116]))]
noncomputable def TF:List (Õ×Gl):=[("OPEN_ENCODINGS",.con (.tup [.str [55,98,105,116],.str [56,98,105,116],.str [98,105,110,97,114,121]])),("WORD_ENDS",.con (.bytes [32,9,40,59])),("BLANKS",.con (.bytes [32,9])),("WHITE_words",.con (.tup [.int 9,.int 10,.int 13,.int 32])),("OPENING",.con (.int 40)),("CLOSING",.con (.int 41)),("WAYS",.con (.tup [.str [81],.str [66]])),("MOST_DEPTH_search",.con (.int 20)),("_law_days",.con (.tup [.tup [.tup [.int 1969,.int 12,.int 31],.int (-1)],.tup [.tup [.int 1994,.int 2,.int 1],.int 8797],.tup [.tup [.int 1994,.int 2,.int 2],.int 8798],.tup [.tup [.int 2000,.int 2,.int 29],.int 11016]])),("_law_dates",.con (.tup [.str [51,49,32,68,101,99,32,49,57,54,57,32,50,51,58,48,48,32,45,48,53,48,48],.str [84,117,101,44,32,49,32,70,101,98,32,49,57,57,52,32,50,51,58,53,57,58,54,48,32,43,48,48,48,48],.str [50,32,70,101,98,32,49,57,57,52,32,48,48,58,48,48,58,48,48,32,71,77,84],.str [50,57,32,70,101,98,32,48,48,32,49,50,58,48,48,58,48,48,32,43,49,52,48,48],.str [51,48,32,70,101,98,32,49,57,57,52,32,48,48,58,48,48,32,71,77,84],.str []])),("_law_words",.con (.tup [.str [116,101,97],.str [65,116,32,110,111,111,110],.str [115,101,118,101,110],.str [120]])),("_law_flags",.con (.tup [.str [36,87,111,114,107],.str [92,65,110,115,119,101,114,101,100],.str [92,83,101,101,110],.str [107,119]]))]
def Of:List (Õ×Gl):=TL++TK++TJ++TH++TG++TF
noncomputable def UM:List Õ:=["split","lower","join","find","strip","index","get","append","pop","extend","at","kids","what","uid","octets","flags","instant","modseq","data","end","year","month","day","hour","minute","second","zone","tokens","length","atom"]
noncomputable def UL:List Õ:=["need","place","number","name","raw","top","sub","params","begin","body","fields","kind","encoding","inner","rstrip","upper","letter","part","peek","skip","is_done","take","is_letter","is_multi","is_text","has","starts","word","told"]
def Ŷ:List Õ:=UM++UL
section
set_option maxRecDepth 100000
open Internal.H
structure Row where
 a:Nat
 i:Nat
 m:Option Nat
 q:Õ
 d:Value
 pm:Value
 c:Nat
structure DT where
 c:Nat
 n:Õ
 N:Nat
 k2:Value
 k3:Value
 es:List DictEntry
 e:Nat
noncomputable def rT(a i:Nat)(pm:Value)(f:Fn):Row×Fn:=(⟨a,i,none,jQ (ct i),.none,pm,a - 1⟩,f)
noncomputable def rM(a i j:Nat)(c:Õ)(pm:Value)(f:Fn):Row×Fn:=(⟨a,i,some j,c++jQ (iw i j),.none,pm,a - 1⟩,f)
def Ah:List (List (Row×Fn)):=[[rT 92 10 zu f0,rT 99 11 zu f1,rT 106 12 zu f2,rT 234 18 A_ f3,rT 244 20 A_ f4,rT 260 28 DZ f5,rT 267 29 DZ f6,rT 274 30 DZ f7,rT 288 32 DZ f8,rT 295 33 DZ f9,rT 302 34 DZ X7,rT 309 35 DZ X6,rT 316 36 DZ X5,rT 324 42 Ft X4,rT 331 43 Ft X3,rT 359 47 Ft X0],
[rT 366 48 Ft XZ,rT 373 49 Ft XY,rT 380 50 Ft XX,rT 385 51 Ft XW,rT 422 59 eU XU,rT 429 60 eU XS,rT 436 61 eU XR,rT 443 62 eU XQ,rT 450 63 eU XO,rT 457 64 eU XN,(⟨465,65,none,jQ (ct 65),.ref 458,eU,464⟩,XM),rT 470 66 eU XK,rT 475 67 eU XJ,rT 480 68 eU XI,rT 487 69 eU XH,rT 492 70 eU XG],
[rT 553 72 eU XF,rT 560 73 eU XD,rT 567 74 eU XC,rT 574 75 eU XB,rT 615 79 qi XA,rT 622 80 qi Xz,rT 629 81 qi Xy,(⟨637,82,none,jQ (ct 82),.ref 630,qi,636⟩,Xx),(⟨643,83,none,jQ (ct 83),.ref 638,qi,642⟩,Xw),rT 650 84 qi Xv,rT 657 85 qi Xu,rT 664 86 qi Xs,rT 736 103 uV Xr,rT 842 120 uV Xq,rT 914 140 gQ Xp,rT 940 144 gQ Xo],
[rT 945 145 gQ Xn,rT 952 146 gQ Xm,rT 959 147 gQ Xl,rT 966 148 gQ Xk,rT 973 149 gQ Xj,rT 980 151 Ba Xi,rT 987 152 Ba Xh,rT 992 153 Ba Xg,rT 999 154 Ba Xf,rT 1006 156 J3 Xe,rT 1013 157 J3 Xd,rT 1060 169 J2 Xc,rT 1072 171 J2 Xb,rT 1100 175 ah Xa,rT 1107 176 ah W_,rT 1114 177 ah W9],
[rT 1121 178 ah W8,rT 1128 179 ah W7,(⟨1143,181,none,jQ (ct 181),.ref 1136,ah,1142⟩,W6),rT 1150 182 ah W5,rT 1157 183 ah TR,rT 1164 184 ah W4,rT 1171 185 ah W3,rT 1178 186 ah W2,rT 1185 187 ah W0,rT 1192 188 ah WZ,rT 1199 189 ah WY,rT 1206 190 ah WX,rT 1211 191 ah WW,rT 1218 192 ah WV,rT 1223 193 ah WU,rT 1240 199 gv WT],
[rT 1247 200 gv WS,rT 1252 201 gv WR,rT 1257 202 gv WQ,rT 1264 203 gv WO,rT 1271 204 gv WN,rT 1278 205 gv WM,rT 1283 206 gv WL,rT 1290 207 gv WK,rT 1295 208 gv WJ,rT 1300 209 gv WI,rT 1305 210 gv WH,rT 1310 211 gv TQ,rM 120 13 0 "Letter." zu WG,rM 127 13 1 "Letter." zu WE,rM 134 13 2 "Letter." zu WD,rM 401 58 0 "Moment." eU WC],
[rM 506 71 0 "DateReader." eU WB,rM 513 71 1 "DateReader." eU WA,rM 518 71 2 "DateReader." eU Wz,rM 525 71 3 "DateReader." eU Wy,rM 532 71 4 "DateReader." eU Oy,rM 539 71 5 "DateReader." eU Ox,rM 589 78 0 "Field." qi Ow,rM 594 78 1 "Field." qi Ov,rM 696 102 0 "Kind." uV Ou,rM 708 102 2 "Kind." uV Ot,rM 715 102 3 "Kind." uV Oq,rM 722 102 4 "Kind." uV Oo,rM 897 139 0 "Part." gQ Om,rM 1086 174 0 "Seen." ah Ol]]
noncomputable def TS:Nat→Nat
 |110=>408|111=>601|112=>701|113=>902|_=>0
def fW(j:Nat):Nat:=match pf Ah j with
 |some p=>p.1.a
 |none=>TS j
def gj(P:Params):List DT:=[⟨0,"Letter",136,.str "Letter" 314,.str "Letter" 322,[en P "__module__" 321 zu,en P "__firstlineno__" 325 (.int 40 324),en P "__init__" 337 (.ref 120),en P "has" 345 (.ref 127),en P "told" 352 (.ref 134),en P "__static_attributes__" 358 (.ref 135),en P "__dict__" 360 (.ref 138),en P "__weakref__" 362 (.ref 139),en P "__doc__" 363 .none],4⟩,
⟨1,"DateReader",541,.str "DateReader" 891,.str "DateReader" 899,[en P "__module__" 898 eU,en P "__firstlineno__" 902 (.int 347 901),en P "__init__" 910 (.ref 506),en P "place" 917 (.ref 513),en P "atom" 923 (.ref 518),en P "skip" 931 (.ref 525),en P "number" 941 (.ref 532),en P "need" 950 (.ref 539),en P "__static_attributes__" 954 (.ref 540),en P "__dict__" 956 (.ref 543),en P "__weakref__" 958 (.ref 544),en P "__doc__" 959 .none],4⟩,
⟨2,"Moment",410,.str "Moment" 750,.str "Moment" 758,[en P "__module__" 757 eU,en P "__firstlineno__" 761 (.int 289 760),en P "__init__" 775 (.ref 401),en P "told" 782 (.ref 408),en P "__static_attributes__" 790 (.ref 409),en P "__dict__" 792 (.ref 412),en P "__weakref__" 794 (.ref 413),en P "__doc__" 795 .none],4⟩,
⟨3,"Field",603,.str "Field" 1012,.str "Field" 1020,[en P "__module__" 1019 qi,en P "__firstlineno__" 1023 (.int 420 1022),en P "__init__" 1032 (.ref 589),en P "word" 1038 (.ref 594),en P "told" 1045 (.ref 601),en P "__static_attributes__" 1048 (.ref 602),en P "__dict__" 1050 (.ref 605),en P "__weakref__" 1052 (.ref 606),en P "__doc__" 1053 .none],4⟩,
⟨4,"Kind",724,.str "Kind" 1190,.str "Kind" 1198,[en P "__module__" 1197 uV,en P "__firstlineno__" 1201 (.int 517 1200),en P "__init__" 1211 (.ref 696),en P "told" 1217 (.ref 701),en P "is_multi" 1224 (.ref 708),en P "is_letter" 1231 (.ref 715),en P "is_text" 1238 (.ref 722),en P "__static_attributes__" 1242 (.ref 723),en P "__dict__" 1244 (.ref 726),en P "__weakref__" 1246 (.ref 727),en P "__doc__" 1247 .none],4⟩,
⟨5,"Part",904,.str "Part" 1474,.str "Part" 1482,[en P "__module__" 1481 gQ,en P "__firstlineno__" 1485 (.int 728 1484),en P "__init__" 1497 (.ref 897),en P "told" 1503 (.ref 902),en P "__static_attributes__" 1512 (.ref 903),en P "__dict__" 1514 (.ref 906),en P "__weakref__" 1516 (.ref 907),en P "__doc__" 1517 .none],4⟩,
⟨6,"Seen",1088,.str "Seen" 1759,.str "Seen" 1767,[en P "__module__" 1766 ah,en P "__firstlineno__" 1770 (.int 931 1769),en P "__init__" 1780 (.ref 1086),en P "__static_attributes__" 1784 (.ref 1087),en P "__dict__" 1786 (.ref 1090),en P "__weakref__" 1788 (.ref 1091),en P "__doc__" 1789 .none],4⟩]
def B7(r:Row):FuncData:=match r.m with
 |none=>df r.i r.q
 |some j=>dm r.i j r.q
def ro(r:Row):Obj:=oG (B7 r) r.d r.pm r.c
def B6(r:Row):FuncData:={B7 r with globals:=3,defaults:=r.d,pyModule:=r.pm,code:=.ref r.c}
noncomputable def L1(f:FuncData):List Stmt:=match f.body with
 |.stmts b=>b
 |_=>[]
def P7(sc:PySem.Scope):Cx:=⟨sc.names,aI sc.names,š sc.names,Of,Ŷ⟩
theorem Lk:Ah.flatten.map (fun p=>p.2.body)=Ah.flatten.map fun p=>bF (P7 (B7 p.1).scope) (L1 (B7 p.1)):=by kernel_rfl
theorem RC:P2=Ah.map fun c=>c.map (·.2):=by kernel_rfl
end
def qX(i:Bool)(cx:Cx)(x:Expr):PE→Prop
 |.c v=>(T3 fun c k p=>x=.Constant c k p∧LY c=some v)∨T2 fun n p=>x=.Name n p∧dz cx n=some (.con v)
 |.l j=>T2 fun n p=>x=.Name n p∧Ę cx n=some (false,j)
 |.k j=>T2 fun n p=>x=.Name n p∧Ę cx n=some (true,j)
 |.at e a=>T3 fun y n p=>A4 (x=.Attribute y n p) (da y=false) (idx n cx.Ŷ 0=some a) (er cx y=e)
 |.fn j as=>T4 fun f np ys p=>A4 (x=.Call (.Name f np) ys [] p) (plain ys=true) (dz cx f=some (.fn j)) (fc cx ys=as)
 |.cl c as=>T4 fun f np ys p=>A4 (x=.Call (.Name f np) ys [] p) (plain ys=true) (dz cx f=some (.cls c)) (fc cx ys=as)
 |.bl b as=>T4 fun f np ys p=>A3 (x=.Call (.Name f np) ys [] p) (plain ys=true) ((A3 (dz cx f=some (.blt b)) (fc cx ys=as) (aj b 9=true∨(i=true∧aj 11 b=true)))∨(A3 (b=10) (dz cx f=some (.blt 10)) (∃y,ys=[y]∧xq cx y=.bl 11 as)))
 |.lo e as=>T5 fun f np ys p j=>A5 (x=.Call (.Name f np) ys [] p) (plain ys=true) (Ę cx f=some (false,j)) (e=.l j) (fc cx ys=as)
 |.me e a as=>T5 fun y n ap ys p=>A6 (x=.Call (.Attribute y n ap) ys [] p) (plain ys=true) (da y=false) ((ap.endLine==p.line)=true) (ys.length<20) (A3 (idx n cx.Ŷ 0=some a) (er cx y=e) (fc cx ys=as))
 |.ix a b=>T3 fun y z p=>A4 (x=.Subscript y z p) (dU z=false) (er cx y=a) (er cx z=b)
 |.sl a lo hi st=>T6 fun y l h s q p=>A5 (x=.Subscript y (.Slice l h s q) p) (er cx y=a) (K3 cx l=lo) (K3 cx h=hi) (K3 cx s=st)
 |.bi n a b=>T4 fun y o z p=>A4 (x=.BinOp y o z p) (Cc o=some n) (er cx y=a) (er cx z=b)
 |.cm a ops bs=>T4 fun y os zs p=>A5 (x=.Compare y os zs p) (zs.any isSet=false) (er cx y=a) (os.map tB=ops) (fc cx zs=bs)
 |.bo q es=>T3 fun o ys p=>A3 (x=.BoolOp o ys p) ((o==.And)=q) (fc cx ys=es)
 |.nt e=>T2 fun y p=>x=.UnaryOp .Not y p∧er cx y=e
 |.ng e=>T2 fun y p=>x=.UnaryOp .USub y p∧er cx y=e
 |.te t a b=>T4 fun y z u p=>A4 (x=.IfExp y z u p) (er cx y=t) (er cx z=a) (er cx u=b)
 |.tu es=>T3 fun ys k p=>A3 (x=.Tuple ys k p) (plain ys=true) (fc cx ys=es)
 |.li es=>T2 fun ys p=>A3 (x=.List ys p) (plain ys=true) (fc cx ys=es)
 |.di ks vs=>T4 fun ys zs p ns=>A6 (x=.Dict ys zs p) (ys.length=zs.length) (ys.length≤15) (fU ys=some ns) (ks=ns.map (fun k=>.c (.str k))) (fc cx zs=vs)
 |.co elt tg it ifs n=>T6 fun y t z us sc p=>A6 (x=.ListComp y [⟨t,z,us,0⟩] sc p) (uI cx sc=true) (isSet z=false) (jl t (xq cx z)=true) (cW (mS cx sc) t=some tg) (A4 (er (mS cx sc) y=elt) (xq cx z=it) (fc (mS cx sc) us=ifs) (n=(aI sc.names).length))
 |.la=>T4 fun a b sc p=>x=.Lambda a b sc p∧Hu cx a b sc p=true
 |.no=>True
theorem ju{M:PE→Prop}(h0:M .no){b:Bool}{e:PE}(h:b=true→M e):M (cq b e):=by
 induction b using ñ with
 |true=>exact h rfl
 |false=>exact h0
theorem nn{b:Bool}(h:(!b)=true):b=false:=by induction b using ñ<;>first|rfl|exact â h
theorem emp{α:Type}{l:List α}(h:l.isEmpty=true):l=[]:=by induction l using Ū<;>first|rfl|exact â h
theorem SX{e:PE}{as:List PE}(h:Lo e=some as):e=.bl 11 as:=by
 induction e using PE.casesOn<;>first|(exact nS h;done)|skip
 (have h1:=cy h;have h2:=cn h)
 (replace h2:=ì h2;subst h2)
 rw[Ģ h1]
theorem Cb{i:Bool}{cx:Cx}{l:List Expr}{e:PE}(h:cT i cx l=[e]):∃y,l=[y]∧mR i cx y=e:=by
 induction l using Ū with
 |nil=>cases h
 |cons y r=>induction r using Ū with
  |nil=>exact⟨y,rfl,(List.cons.inj h).1⟩
  |cons z r=>cases h
theorem JX{b:Nat}(h:aj 11 b=false)(h':Þ b 10=false):aj b 9=true:=by
 refine w5 ?_;have h1:¬11≤b:=fun q=>by rw[w5 q]at h;exact ĕ h
 have h2:b≠10:=fun q=>by subst q;exact ĕ h'
 omega
theorem CB(i:Bool)(cx:Cx)(f:Õ)(np:Pos)(ys:List Expr)(p:Pos)(hp:plain ys=true):qX i cx (.Call (.Name f np) ys [] p) (pq i cx f (fc cx ys) (cT true cx ys)):=by
 unfold pq
 induction h1:Ę cx f using ş with
 |some q=>
  obtain⟨k,j⟩:=q
  induction k using ñ with
  |false=>exact⟨f,np,ys,p,j,rfl,hp,h1,rfl,rfl⟩
  |true=>trivial
 |none=>
  induction h2:dz cx f using ş with
  |none=>trivial
  |some G=>
   induction G using Gl.casesOn with
   |fn j=>exact⟨f,np,ys,p,rfl,hp,h2,rfl⟩
   |cls c=>exact⟨f,np,ys,p,rfl,hp,h2,rfl⟩
   |con v=>trivial
   |blt b=>
    show qX i cx _ (zb i b (fc cx ys) (cT true cx ys));unfold zb
    induction h3:aj 11 b using ñ with
    |true=>
     induction i using ñ with
     |true=>exact⟨f,np,ys,p,rfl,hp,.inl ⟨h2,rfl,.inr ⟨rfl,h3⟩⟩⟩
     |false=>trivial
    |false=>
     induction h4:Þ b 10 using ñ with
     |true=>
      dsimp only
      induction h5:(q1 (cT true cx ys)).bind Lo using ş with
      |none=>trivial
      |some xs=>
       refine ï h5 fun e h6 h7=>?_;obtain⟨y,h8,h9⟩:=Cb (i1 h6);obtain rfl:=Ģ h4;exact⟨f,np,ys,p,rfl,hp,.inr ⟨rfl,h2,y,h8,h9.trans (SX h7)⟩⟩
     |false=>exact⟨f,np,ys,p,rfl,hp,.inl ⟨h2,rfl,.inl (JX h3 h4)⟩⟩
theorem CA(i:Bool)(cx:Cx)(f:Expr)(ys:List Expr)(p:Pos)(hp:plain ys=true):qX i cx (.Call f ys [] p) (jW i cx f (K5 cx f) ys.length p (fc cx ys) (cT true cx ys)):=by
 unfold jW
 induction h1:nameOf f using ş with
 |some x=>obtain⟨np,rfl⟩:=gC h1;exact CB i cx x np ys p hp
 |none=>
  show qX i cx _ (CD _ _ _ _);unfold CD
  induction h2:K5 cx f using ş with
  |none=>trivial
  |some q=>
   dsimp only
   induction h3:(q.2.2.endLine==p.line)&&Đ ys.length 20 using ñ with
   |false=>trivial
   |true=>
    (have h4:=aC h3;have h5:=aB h3)
    induction f using PySem.Expr.casesOn with
    |Attribute y n ap=>
     have h2:(if da y then none else(idx n cx.Ŷ 0).map fun k=>(er cx y,k,ap))=some q:=h2
     induction h6:da y using ñ with
     |true=>rw[h6]at h2;exact nS h2
     |false=>
      rw[h6]at h2
      (refine cJ h2 fun k h7 zq=>?_;obtain rfl:=zq)
      exact⟨y,n,ap,ys,p,rfl,hp,h6,h4,bQ.mp h5,h7,rfl,rfl⟩
    |_=>exact nS h2
theorem erV(i:Bool)(cx:Cx)(x:Expr):qX i cx x (mR i cx x):=by
 induction x using PySem.Expr.casesOn with
 |Constant c k p=>
  show qX i cx _ (cst (LY c))
  induction h:LY c using ş with
  |none=>trivial
  |some v=>exact .inl ⟨c,k,p,rfl,h⟩
 |Name n p=>
  show qX i cx _ (OB cx n);unfold OB
  induction h:Ę cx n using ş with
  |some q=>
   obtain⟨k,j⟩:=q
   induction k using ñ with
   |false=>exact⟨n,p,rfl,h⟩
   |true=>exact⟨n,p,rfl,h⟩
  |none=>
   dsimp only
   induction h2:(dz cx n).bind HY using ş with
   |none=>trivial
   |some v=>
    refine ï h2 fun G h3 h4=>?_
    induction G using Gl.casesOn<;>cases h4
    exact .inr ⟨n,p,rfl,h3⟩
 |Attribute e a p=>
  refine ju (M:=qX i cx _) trivial fun h=>?_
  induction h2:idx a cx.Ŷ 0 using ş with
  |none=>trivial
  |some k=>exact⟨e,a,p,rfl,nn h,h2,rfl⟩
 |Call f as ks p=>
  refine ju (M:=qX i cx _) trivial fun h=>?_
  (have h1:=aC h;have h2:=aB h)
  obtain rfl:=emp h1;exact CA i cx f as p h2
 |Subscript v k p=>
  show qX i cx _ (Mo (er cx v) (er cx k) (K2 cx k))
  induction h:dU k using ñ with
  |false=>
   have:K2 cx k=none:=by induction k using PySem.Expr.casesOn<;>first|rfl|exact ĕ h
   rw[this];exact⟨v,k,p,rfl,h,rfl,rfl⟩
  |true=>
   induction k using PySem.Expr.casesOn<;>first|(exact â h;done)|skip
   exact⟨v,_,_,_,_,p,rfl,rfl,rfl,rfl,rfl⟩
 |BinOp a o b p=>
  show qX i cx _ (Yb (er cx a) (er cx b) (Cc o))
  induction h:Cc o using ş with
  |none=>trivial
  |some n=>exact⟨a,o,b,p,rfl,h,rfl,rfl⟩
 |Compare a ops bs p=>
  refine ju (M:=qX i cx _) trivial fun h=>?_;exact⟨a,ops,bs,p,rfl,nn h,rfl,rfl,rfl⟩
 |BoolOp o es p=>exact⟨o,es,p,rfl,rfl,rfl⟩
 |UnaryOp o e p=>
  induction o using PySem.UnaryOp.casesOn with
  |Not=>exact⟨e,p,rfl,rfl⟩
  |USub=>exact⟨e,p,rfl,rfl⟩
  |_=>trivial
 |IfExp t a b p=>exact⟨t,a,b,p,rfl,rfl,rfl,rfl⟩
 |Tuple es k p=>exact ju (M:=qX i cx _) trivial fun h=>⟨es,k,p,rfl,h,rfl⟩
 |List es p=>exact ju (M:=qX i cx _) trivial fun h=>⟨es,p,rfl,h,rfl⟩
 |Dict ks vs p=>
  refine ju (M:=qX i cx _) trivial fun h=>?_
  (have h1:=aC h;have h2:=aB h)
  induction h3:fU ks using ş with
  |none=>trivial
  |some ns=>exact⟨ks,vs,p,ns,rfl,Ģ h1,jc h2,h3,rfl,rfl⟩
 |ListComp elt gens sc p=>
  refine ju (M:=qX i cx _) trivial fun h=>?_;show qX i cx _ (P9 _ _ (LX cx (mS cx sc) gens))
  induction h2:LX cx (mS cx sc) gens using ş with
  |none=>trivial
  |some q=>
   induction gens using Ū with
   |nil=>exact nS h2
   |cons c r=>
    (have h3:=cy (x:=K6 cx (mS cx sc) c) h2;have h2:=cn (x:=K6 cx (mS cx sc) c) h2)
    obtain rfl:=emp h3;obtain⟨t,it,ifs,a⟩:=c
    (have h4:=cy (x:=(cW (mS cx sc) t).map fun tg=>(xq cx it,tg,fc (mS cx sc) ifs)) h2;have h2:=cn (x:=(cW (mS cx sc) t).map fun tg=>(xq cx it,tg,fc (mS cx sc) ifs)) h2)
    (have h5:=aB h4;have h4:=aC h4)
    (have h6:=aB h5;have h5:=aC h5)
    (refine cJ h2 fun tg h7 zq=>?_;obtain rfl:=zq)
    obtain rfl:a=0:=of_decide_eq_true h4;exact⟨elt,t,it,ifs,sc,p,rfl,h,nn h5,h6,h7,rfl,rfl,rfl,rfl⟩
 |Lambda a b sc p=>exact ju (M:=qX i cx _) trivial fun h=>⟨a,b,sc,p,rfl,h⟩
 |_=>trivial
def Pw(cx:Cx)(x:Expr):Tg→Prop
 |.n k i=>T2 fun n p=>x=.Name n p∧Ę cx n=some (k,i)
 |.t l=>T3 fun ts k p=>x=.Tuple ts k p∧Š cx ts=some l
 |.a e a=>T3 fun o n p=>A3 (x=.Attribute o n p) (idx n cx.Ŷ 0=some a) (er cx o=e)
 |.s a b=>T3 fun o i p=>A3 (x=.Subscript o i p) (er cx o=a) (er cx i=b)
 |.no=>True
theorem erT(cx:Cx)(x:Expr):Pw cx x (fg cx x):=by
 induction x using PySem.Expr.casesOn with
 |Name n p=>
  show Pw cx _ (match Ę cx n with|some p=>.n p.1 p.2|none=>.no)
  induction h:Ę cx n using ş with
  |none=>trivial
  |some q=>exact⟨n,p,rfl,h⟩
 |Tuple ts k p=>
  show Pw cx _ (match Š cx ts with|some l=>.t l|none=>.no)
  induction h:Š cx ts using ş with
  |none=>trivial
  |some q=>exact⟨ts,k,p,rfl,h⟩
 |Attribute o a p=>
  show Pw cx _ (match idx a cx.Ŷ 0 with|some a=>.a (er cx o) a|none=>.no)
  induction h:idx a cx.Ŷ 0 using ş with
  |none=>trivial
  |some q=>exact⟨o,a,p,rfl,h,rfl⟩
 |Subscript o i p=>exact⟨o,i,p,rfl,rfl,rfl⟩
 |_=>trivial
def jt(cx:Cx)(x:Stmt):PS→Prop
 |.as t e=>T3 fun y z p=>A5 (x=.Assign [y] z p) (isStar y=false) (isTup y=false∨isTup z=false) (fg cx y=t) (er cx z=e)
 |.ex e=>T2 fun y p=>A3 (x=.Expr y p) (jf y=false) (er cx y=e)
 |.if t b o=>T4 fun y c d p=>A4 (x=.If y c d p) (er cx y=t) (bF cx c=b) (bF cx d=o)
 |.wh t b=>T3 fun y c p=>A3 (x=.While y c [] p) (er cx y=t) (bF cx c=b)
 |.fo t it b=>T4 fun y z c p=>A6 (x=.For y z c [] p) (isSet z=false) (jl y (xq cx z)=true) (fg cx y=t) (xq cx z=it) (bF cx c=b)
 |.re e=>T2 fun y p=>x=.Return (some y) p∧er cx y=e
 |.ra es=>T5 fun f np ys q p=>A4 (x=.Raise (some (.Call (.Name f np) ys [] q)) none p) (plain ys=true) (dz cx f=some (.cls 7)) (fc cx ys=es)
 |.tr b c h=>T6 fun y z np k ep p=>A4 (x=.Try y [.ExceptHandler (some (.Name z np)) none k ep] [] [] p) (dz cx z=some (.cls c)) (bF cx y=b) (bF cx k=h)
 |.pa=>∃p,x=.Pass p
 |.sw l es=>∃y py z pz m mp a b n np p,A6 (x=.Assign [.Tuple [.Name y py,.Name z pz] m mp] (.Tuple [a,b] n np) p) (y≠z) (plain [a,b]=true) ((!([a,b].all (constantsAlone 8))||[a,b].all (foldedForSure 8))=true) (Š cx [.Name y py,.Name z pz]=some l) (fc cx [a,b]=es)
 |.no=>True
theorem gM{M:PS→Prop}(h0:M .no){b:Bool}{e:PS}(h:b=true→M e):M (hH b e):=by
 induction b using ñ with
 |true=>exact h rfl
 |false=>exact h0
theorem anyI{α:Type}{o:Option α}{f:α→Bool}(h:o.any f=true):∃x,o=some x∧f x=true:=by
 induction o using ş with
 |none=>exact â h
 |some x=>exact⟨x,rfl,h⟩
theorem I8{cx:Cx}{ts es:List Expr}{m n:Nat}{mp np p:Pos}:jt cx (.Assign [.Tuple ts m mp] (.Tuple es n np) p) (QA cx ts es):=by
 unfold QA
 induction h:Š cx ts using ş with
 |none=>trivial
 |some l=>
  refine gM (M:=jt cx _) trivial fun h2=>?_;obtain⟨q,h3,h2⟩:=anyI h2;obtain⟨r,h4,h2⟩:=anyI h2;obtain⟨y,h5,h2⟩:=anyI h2;obtain⟨z,h6,h2⟩:=anyI h2
  (have dX:=aC h2;have h7:=aB h2)
  (have h8:=aB h7;have h7:=aC h7)
  obtain rfl:=i2 h4;have h3:=i2 h3;obtain⟨py,e1⟩:=gC h5;obtain⟨pz,e2⟩:=gC h6;rw[e1,e2]at h3;subst h3;exact⟨y,py,z,pz,m,mp,_,_,n,np,p,rfl,bne_iff_ne.mp dX,h7,h8,h,rfl⟩
theorem Lq{cx:Cx}{t e:Expr}{p:Pos}:jt cx (.Assign [t] e p) (Qc cx t e):=by
 have gen:jt cx (.Assign [t] e p) (hH (!(isStar t||(isTup t&&isTup e))) (.as (fg cx t) (er cx e))):=by
  refine gM (M:=jt cx _) trivial fun h=>?_;obtain⟨h1,h2⟩:=w4.mp (nn h);exact⟨t,e,p,rfl,h1,Bool.and_eq_false_iff.mp h2,rfl,rfl⟩
 unfold Qc
 induction h1:pR t using ş with
 |none=>exact gen
 |some ts=>
  induction h2:pR e using ş with
  |none=>exact gen
  |some es=>
   obtain⟨m,mp,rfl⟩:=tupI h1;obtain⟨n,np,rfl⟩:=tupI h2;exact I8
theorem Cy{cx:Cx}{e:Expr}{c:Nat}(h:ph cx e=some c):T2 fun n p=>e=.Name n p∧dz cx n=some (.cls c):=by
 refine ï h fun n h1 h=>?_;refine ï h fun G h2 h=>?_;obtain⟨p,rfl⟩:=gC h1
 induction G using Gl.casesOn<;>cases h
 exact⟨n,p,rfl,h2⟩
theorem T7(cx:Cx)(x:Stmt):jt cx x (OA cx x):=by
 induction x using PySem.Stmt.casesOn with
 |Assign ts e p=>
  show jt cx _ (match q1 ts with|some t=>Qc cx t e|none=>.no)
  induction h:q1 ts using ş with
  |none=>trivial
  |some t=>obtain rfl:=i1 h;exact Lq
 |Expr e p=>exact gM (M:=jt cx _) trivial fun h=>⟨e,p,rfl,nn h,rfl⟩
 |If t b o p=>exact⟨t,b,o,p,rfl,rfl,rfl,rfl⟩
 |While t b o p=>exact gM (M:=jt cx _) trivial fun h=>by obtain rfl:=emp h;exact⟨t,b,p,rfl,rfl,rfl⟩
 |For t it b o p=>
  refine gM (M:=jt cx _) trivial fun h=>?_
  (have h1:=aC h;have h2:=aB h)
  (have h3:=aB h2;have h2:=aC h2)
  obtain rfl:=emp h1;exact⟨t,it,b,p,rfl,nn h2,h3,rfl,rfl,rfl⟩
 |Return e p=>induction e using ş with
  |none=>trivial
  |some e=>exact⟨e,p,rfl,rfl⟩
 |Raise e c p=>
  refine gM (M:=jt cx _) trivial fun h=>?_
  induction c using ş with
  |some=>exact â h
  |none=>
  unfold VQ
  induction h1:(e.bind jq).bind fun p=>(ph cx p.1).bind fun c=>if Þ c 7&&(p.2.2.isEmpty&&plain p.2.1)then some p.2.1 else none using ş with
  |none=>trivial
  |some es=>
   refine ï h1 fun q h2 h1=>?_;refine ï h1 fun c h3 h1=>?_
   (have h4:=cy h1;have h1:=cn h1)
   (have h5:=aB h4;have h4:=aC h4)
   (have h6:=aB h5;have h5:=aC h5)
   refine ï h2 fun y h7 h8=>?_
   (replace h1:=ì h1;subst h1)
   obtain rfl:=h7;obtain⟨cp,rfl⟩:=H4 h8;obtain⟨n,np,e1,h9⟩:=Cy h3;obtain rfl:=Ģ h4;rw[e1,emp h5];exact⟨n,np,_,cp,p,rfl,h6,h9,rfl⟩
 |Try b hs o f p=>
  refine gM (M:=jt cx _) trivial fun h=>?_
  (have h1:=aC h;have h2:=aB h)
  obtain rfl:=emp h1;obtain rfl:=emp h2
  induction h3:OD cx hs using ş with
  |none=>trivial
  |some q=>
   induction hs using Ū with
   |nil=>exact nS h3
   |cons k r=>
    (have h4:=cy (x:=T8 cx k) h3;have h3:=cn (x:=T8 cx k) h3)
    obtain rfl:=emp h4;obtain⟨t,n,k,ep⟩:=k
    (have h5:=cy (x:=(t.bind (ph cx)).map fun c=>(c,bF cx k)) h3;have h3:=cn (x:=(t.bind (ph cx)).map fun c=>(c,bF cx k)) h3)
    (refine cJ h3 fun c h6 zq=>?_;obtain rfl:=zq)
    refine ï h6 fun e h7 h6=>?_
    induction n using ş with
    |some=>exact â h5
    |none=>
    obtain rfl:=h7;obtain⟨z,np,rfl,h8⟩:=Cy h6;exact⟨b,z,np,k,ep,p,rfl,h8,rfl,rfl⟩
 |Pass p=>exact⟨p,rfl⟩
 |_=>trivial
theorem jk{cx:Cx}{xs:List Stmt}{X:PS}{Y:List PS}(h:bF cx xs=X::Y):T2 fun x r=>A3 (xs=x::r) (OA cx x=X) (bF cx r=Y):=by
 induction xs using Ū with
 |nil=>exact nN h
 |cons x r=>
  obtain⟨h1,h2⟩:=List.cons.inj h;exact⟨x,r,rfl,h1,h2⟩
theorem ž{i:Bool}{cx:Cx}{xs:List Expr}{X:PE}{Y:List PE}(h:cT i cx xs=X::Y):T2 fun x r=>A3 (xs=x::r) (mR i cx x=X) (cT i cx r=Y):=by
 induction xs using Ū with
 |nil=>exact nN h
 |cons x r=>
  obtain⟨h1,h2⟩:=List.cons.inj h;exact⟨x,r,rfl,h1,h2⟩
theorem gi{i:Bool}{cx:Cx}{xs:List Expr}(h:cT i cx xs=[]):xs=[]:=by
 induction xs using Ū with
 |nil=>rfl
 |cons x r=>exact nC h
theorem tA{cx:Cx}{xs:List Stmt}(h:bF cx xs=[]):xs=[]:=by
 induction xs using Ū with
 |nil=>rfl
 |cons x r=>exact nC h
abbrev FH:=Addr→Option Obj
def aP(k k':FH):Prop:=∀a o,k a=some o→k' a=some o
theorem aP.refl(k:FH):aP k k:=fun À À e=>e
theorem aP.trans{a b c:FH}(x:aP a b)(y:aP b c):aP a c:=fun À À e=>y _ _ (x _ _ e)
noncomputable def fi:Nat→Addr
 |0=>137|1=>542|2=>411|3=>604|4=>725|5=>905|6=>1089|7=>59|8=>71|_=>0
def mC(T:String)(vs:List Value)(o:Obj):Prop:=∃n,o={cls:=.type T,data:=.seq vs.toArray n}
def xS(es:List DictEntry)(o:Obj):Prop:=∃n,o={cls:=.type "dict",data:=.dict es.toArray n}
def Hd(es:List DictEntry)(o:Obj):Prop:=∃n,o.data=.dict es.toArray n
def DN(c:Nat)(a dx:Addr)(o:Obj):Prop:=A4 (o.cls=.ref (fi c)) (o.dict=some dx) (∀k,o.data≠.cls k) (dx≠a)
structure Sta where
 hash:Õ→Int
 Ŷ:List Õ
 LM:FuncData→Addr→Addr→Addr→Prop
 OC:Obj→Prop
structure mJ(Ŷ:List Õ)(l:List (Nat×V))(es:List DictEntry):Prop where
 keys:StrKeys es.toArray
 uniq:UniqKeys es.toArray
 only:∀s v,nsFind es.toArray s=some v→T2 fun x d=>(x,d)∈l∧é Ŷ x=some s
 nd:(l.map (·.1)).Nodup
inductive Iq(A:Value→Prop)(B:List Value→Prop)(vs:List Value):Prop
 |mk (v:Value) (r:List Value) (e:vs=v::r) (h1:A v) (h2:B r)
inductive Pf(l:List Nat)(v:Value):Prop
 |mk (b:Array UInt8) (t:Tok) (e:v=.bytes b t) (h:b.toList.map (·.toNat)=l)
inductive RDc(n:Int)(x:List Nat)(A:Value→Prop)(B:List DictEntry→Prop)(es:List DictEntry):Prop
 |mk (t:Tok) (v:Value) (r:List DictEntry) (e:es=⟨n,.str ⟨⟨x⟩⟩ t,v⟩::r) (h1:A v) (h2:B r)
inductive RAc(Ŷ:List Õ)(x:Nat)(A:Value→Prop)(N:Prop)(es:List DictEntry):Prop
 |mk (s:Õ) (v:Value) (h1:é Ŷ x=some s) (h2:nsFind es.toArray s=some v) (h3:A v) (n:N)
inductive qV(T:String)(k:FH)(M:List Value→Prop)(v:Value):Prop
 |mk (a:Addr) (o:Obj) (vs:List Value) (e:v=.ref a) (h:k a=some o) (q:mC T vs o) (r:M vs)
inductive Pe(k:FH)(N:Prop)(M:List DictEntry→Prop)(v:Value):Prop
 |mk (a:Addr) (o:Obj) (es:List DictEntry) (e:v=.ref a) (h:k a=some o) (q:xS es o) (n:N) (r:M es)
inductive Pd(c:Nat)(k:FH)(N M:List DictEntry→Prop)(v:Value):Prop
 |mk (a:Addr) (o:Obj) (dx:Addr) (od:Obj) (es:List DictEntry) (e:v=.ref a) (h:k a=some o) (q:DN c a dx o) (h':k dx=some od) (q':Hd es od) (n:N es) (r:M es)
inductive Vm(Y:Sta)(k:FH)(M:List Value→Prop)(v:Value):Prop
 |mk (a:Addr) (o:Obj) (fd:FuncData) (c c₁ c₂:Addr) (oc Ň aF:Obj) (cN cM:Value) (e:v=.ref a) (h:k a=some o) (q:o.data=.func fd) (h1:Y.LM fd c c₁ c₂) (h2:k c=some oc) (h3:Y.OC oc)
   (h4:k c₁=some Ň) (h5:Ň.data=.cell (some cN)) (h6:k c₂=some aF) (h7:aF.data=.cell (some cM)) (r:M [cN,cM])
section
variable(Y:Sta)
mutual
noncomputable def Rep(k:FH):V→Value→Prop
 |.none,v=>v=.none
 |.bool b,v=>v=.bool b
 |.int i,v=>∃t,v=.int i t
 |.str l,v=>∃t,v=.str ⟨⟨l⟩⟩ t
 |.bytes l,v=>Pf l v
 |.tup l,v=>qV "tuple" k (ß k l) v
 |.lst l,v=>qV "list" k (ß k l) v
 |.aX l,v=>Pe k ((l.map (·.1)).Nodup) (gY k l) v
 |.ins c l,v=>Pd c k (mJ Y.Ŷ l) (iH k l) v
 |.Ó _,_=>False
 |.g9 l,v=>Vm Y k (ß k l) v
noncomputable def ß(k:FH):List V→List Value→Prop
 |[],vs=>vs=[]
 |d::l,vs=>Iq (Rep k d) (ß k l) vs
noncomputable def gY(k:FH):List (List Nat×V)→List DictEntry→Prop
 |[],es=>es=[]
 |(x,d)::l,es=>RDc (Y.hash ⟨⟨x⟩⟩) x (Rep k d) (gY k l) es
noncomputable def iH(k:FH):List (Nat×V)→List DictEntry→Prop
 |[],_=>True
 |(x,d)::l,es=>RAc Y.Ŷ x (Rep k d) (iH k l es) es
end
end
set_option genInjectivity true in
inductive Role where
 |free|Ô (o:Obj)|kept (o:Obj)|tab|cell (i:Nat)|cV (i:Nat)|loc|var (i:Nat)|held (o:Obj)
noncomputable def Role.ctorIdx:Role→Nat:=fun v=>v.casesOn 0 (fun À=>1) (fun À=>2) 3 (fun À=>4) (fun À=>5) 6 (fun À=>7) (fun À=>8)
structure Gh where
 r:Addr→Role
 as:List Addr
 L:Addr
 cs:List Addr
noncomputable def Gh.k(g:Gh):FH:=fun a=>match g.r a with
 |.Ô o=>some o
 |_=>none
theorem Gh.Ř{g:Gh}{a o}(e:g.r a=.Ô o):g.k a=some o:=by unfold Gh.k;rw[e]
theorem Gh.aN{g:Gh}{a o}(e:g.k a=some o):g.r a=.Ô o:=by
 unfold Gh.k at e
 split at e
 ·rename_i h;rw[h];injection e with e;rw[e]
 ·exact nS e
noncomputable def Gh.set(g:Gh)(n:Addr)(x:Role):Gh:={g with r:=fun a=>if a=n then x else g.r a}
theorem Gh.þ(g:Gh)(n x):(g.set n x).r n=x:=if_pos rfl
theorem Gh.ø(g:Gh){n a}(x)(h:a≠n):(g.set n x).r a=g.r a:=if_neg h
structure Ě extends Sta where
 zC:List (Õ×Gl)
 sh:Shared
 tab:Addr
 qn:Addr
 lR:Õ
 mZ:Nat
 m7:Nat
section
variable(Z:Ě)
def ć(g:Gh):V→Value→Prop
 |.Ó i,x=>∃a,é g.as i=some a∧x=.ref a
 |v,x=>Rep Z.toSta g.k v x
noncomputable def Ł(g:Gh):List V→List Value→Prop
 |[],xs=>xs=[]
 |v::r,xs=>Iq (ć Z g v) (Ł g r) xs
inductive VD(g:Gh)(h:Heap)(i:Nat)(a:Addr)(M:List Value→Prop):Prop
 |mk (r:g.r a=.cell i) (o:Obj) (vs:List Value) (e:h.get? a=some o) (q:mC "list" vs o) (m:M vs)
inductive VG(g:Gh)(h:Heap)(i:Nat)(a:Addr)(N:Prop)(M:List DictEntry→Prop):Prop
 |mk (r:g.r a=.cell i) (o:Obj) (es:List DictEntry) (e:h.get? a=some o) (q:xS es o) (n:N) (m:M es)
inductive VF(g:Gh)(h:Heap)(i:Nat)(a:Addr)(c:Nat)(N M:List DictEntry→Prop):Prop
 |mk (r:g.r a=.cell i) (o:Obj) (dx:Addr) (od:Obj) (es:List DictEntry) (e:h.get? a=some o) (q:DN c a dx o) (r':g.r dx=.cV i) (e':h.get? dx=some od) (q':Hd es od) (n:N es) (m:M es)
def dC(g:Gh)(h:Heap)(i:Nat)(a:Addr):Cell→Prop
 |.lst l=>VD g h i a (ß Z.toSta g.k l)
 |.aX l=>VG g h i a ((l.map (·.1)).Nodup) (gY Z.toSta g.k l)
 |.ins c l=>VF g h i a c (mJ Z.toSta.Ŷ l) (iH Z.toSta g.k l)
 |.Ô v=>Rep Z.toSta g.k v (.ref a)
def Pa(k:FH)(h:Heap):Prop:=∃ps,h.get? Z.tab=some {cls:=.none,data:=.fields ps}∧(ps= #[]∨T2 fun c oc=>A3 (ps= #[rawInt Z.mZ,rawInt Z.m7,.ref c]) (k c=some oc) (Z.OC oc))
structure Base(g:Gh)(s:Shared)(H:List Cell):Prop where
 vd:T2 fun h t=>s={Z.sh with heap:=h,toks:=t}
 old:OldK Z.sh.heap s.heap
 top:∀a o,Z.sh.heap.get? a=some o→a≠Z.tab→g.r a=.Ô o
 tab:g.r Z.tab=.tab∧Pa Z g.k s.heap
 Ô:∀a o,g.r a=.Ô o→s.heap.get? a=some o
 kept:∀a o,g.r a=.kept o→∃sl,s.heap.get? a=some {o with slots:=sl}
 held:∀a o,g.r a=.held o→s.heap.get? a=some o
 alive:∀a,g.r a≠.free→∃o,s.heap.get? a=some o
 len:g.as.length=H.length
 cells:∀i c,é H i=some c→∃a,é g.as i=some a∧dC Z g s.heap i a c
inductive LB(cx:Cx)(g:Gh)(h:Heap)(ρ:List (Option V)):Prop
 |mk (m:Õ→Option Value) (n:h.Ns g.L m) (q:∀x i v,idx x cx.loc 0=some i→é ρ i=some (some v)→∃w,m x=some w∧ć Z g v w)
inductive O8(g:Gh)(h:Heap)(i:Nat)(ov:Option V):Prop
 |mk (c:Addr) (w:Option Value) (h1:é g.cs i=some c) (h2:g.r c=.var i) (h3:h.IsCell c w) (h4:∀v,ov=some v→∃x,w=some x∧ć Z g v x)
structure LH(cx:Cx)(g:Gh)(s:Shared)(ρ κ:List (Option V)):Prop where
 loc:g.r g.L=.loc
 locs:LB Z cx g s.heap ρ
 vars:∀i ov,é κ i=some ov→O8 Z g s.heap i ov
structure Inv(cx:Cx)(g:Gh)(s:Shared)(st:St):Prop where
 base:Base Z g s st.H
 gJ:LH Z cx g s st.ρ st.κ
end
theorem Base.fresh{Z:Ě}{g:Gh}{s:Shared}{H:List Cell}(B:Base Z g s H)(a:Addr)(h:s.heap.objs.size≤a):g.r a=.free:=
 Classical.byContradiction fun n=>by
  obtain⟨o,e⟩:=B.alive a n;exact sL _ (ik (eX e) h)
structure Gst(g g':Gh):Prop where
 k:aP g.k g'.k
 kept:∀a o,g.r a=.kept o→g'.r a=.kept o
 held:∀a o,g.r a=.held o→g'.r a=.held o
 as:∃l,g'.as=g.as++l
 L:g'.L=g.L
 cs:g'.cs=g.cs
 loc:∀a,g.r a=.loc→g'.r a=.loc
theorem Gst.refl(g:Gh):Gst g g:=⟨.refl _,fun À À e=>e,fun À À e=>e,⟨[],(Ŵ _).symm⟩,rfl,rfl,fun À e=>e⟩
theorem Gst.trans{a b c:Gh}(x:Gst a b)(y:Gst b c):Gst a c:=by
 refine⟨x.k.trans y.k,fun p o e=>y.kept p o (x.kept p o e),fun p o e=>y.held p o (x.held p o e),?_,y.L.trans x.L,y.cs.trans x.cs,fun p e=>y.loc p (x.loc p e)⟩
 ·obtain⟨l,hl⟩:=x.as;obtain⟨m,hm⟩:=y.as;exact⟨l++m,by rw[hm,hl,ĝ]⟩
theorem af{α:Type}{l m:List α}{i:Nat}{x:α}(h:é l i=some x):é (l++m) i=some x:=by
 induction l generalizing i with
 |nil=>exact nS h
 |cons a r ih=>induction i using mM with
  |zero=>exact h
  |succ i=>exact ih h
section
variable{Y:Sta}{k k':FH}
mutual
theorem Rep.mono(e:aP k k'):∀{v x},Rep Y k v x→Rep Y k' v x
 |.none,_,h=>h
 |.bool _,_,h=>h
 |.int _,_,h=>h
 |.str _,_,h=>h
 |.bytes _,_,h=>h
 |.tup _,_,h=>by obtain⟨a,o,vs,h1,h2,h3,h4⟩:=h;exact⟨a,o,vs,h1,e _ _ h2,h3,ß.mono e h4⟩
 |.lst _,_,h=>by obtain⟨a,o,vs,h1,h2,h3,h4⟩:=h;exact⟨a,o,vs,h1,e _ _ h2,h3,ß.mono e h4⟩
 |.aX _,_,h=>by obtain⟨a,o,vs,h1,h2,h3,n,h4⟩:=h;exact⟨a,o,vs,h1,e _ _ h2,h3,n,gY.mono e h4⟩
 |.ins _ _,_,h=>by obtain⟨a,o,dx,od,es,h1,h2,h3,h4,h5,n,h6⟩:=h;exact⟨a,o,dx,od,es,h1,e _ _ h2,h3,e _ _ h4,h5,n,iH.mono e h6⟩
 |.Ó _,_,h=>h
 |.g9 _,_,h=>by
  obtain⟨a,o,fd,c,c₁,c₂,oc,Ň,aF,cN,cM,h1,h2,h3,h4,h5,h6,h7,h8,h9,Ge,TB⟩:=h;exact⟨a,o,fd,c,c₁,c₂,oc,Ň,aF,cN,cM,h1,e _ _ h2,h3,h4,e _ _ h5,h6,e _ _ h7,h8,e _ _ h9,Ge,ß.mono e TB⟩
theorem ß.mono(e:aP k k'):∀{l vs},ß Y k l vs→ß Y k' l vs
 |[],_,h=>h
 |_::_,_,h=>let ⟨v,r,h1,h2,h3⟩:=h;⟨v,r,h1,Rep.mono e h2,ß.mono e h3⟩
theorem gY.mono(e:aP k k'):∀{l vs},gY Y k l vs→gY Y k' l vs
 |[],_,h=>h
 |(_,_)::_,_,h=>by obtain⟨t,v,r,h1,h2,h3⟩:=h;exact⟨t,v,r,h1,Rep.mono e h2,gY.mono e h3⟩
theorem iH.mono(e:aP k k'):∀{l vs},iH Y k l vs→iH Y k' l vs
 |[],_,_=>trivial
 |(_,_)::_,_,h=>by obtain⟨s,v,h1,h2,h3,h4⟩:=h;exact⟨s,v,h1,h2,Rep.mono e h3,iH.mono e h4⟩
end
end
section
variable{Z:Ě}{g g':Gh}
theorem ć.mono(e:Gst g g'){v x}(h:ć Z g v x):ć Z g' v x:=by
 induction v using V.casesOn with
 |Ó i=>
  obtain⟨a,h1,h2⟩:=h;obtain⟨l,hl⟩:=e.as;exact⟨a,by rw[hl];exact af h1,h2⟩
 |_=>exact Rep.mono e.k h
theorem Ł.mono(e:Gst g g'):∀{vs xs},Ł Z g vs xs→Ł Z g' vs xs
 |[],_,h=>h
 |_::_,_,h=>by obtain⟨x,t,h1,h2,h3⟩:=h;exact⟨x,t,h1,h2.mono e,Ł.mono e h3⟩
end
section
theorem OldK.young{h₀ h h':Heap}(K:OldK h₀ h)(hk:∀b o',h₀.get? b=some o'→∀o,h.get? b=some o→h'.get? b=some o):OldK h₀ h':=by
 refine⟨fun b o e=>?_,fun b o e=>let ⟨o',s6⟩:=K.there b o e;⟨o',hk b _ e _ s6⟩⟩;rcases K.old b o e with x|⟨t,hc,vs,more,hv,x⟩|⟨rfl,hc,⟨o',es,n,s6,r⟩,z⟩
 ·exact .inl (hk _ _ e _ x)
 ·exact .inr (.inl ⟨t,hc,vs,more,hv,hk _ _ e _ x⟩)
 ·exact .inr (.inr ⟨rfl,hc,⟨o',es,n,hk _ _ e _ s6,r⟩,fun key=>by rw[OldK.staticOf_congr ((hk _ _ e _ s6).trans s6.symm) key];exact z key⟩)
variable{Z:Ě}{g g':Gh}{s:Shared}{H H':List Cell}
theorem dC.to{h h':Heap}{i:Nat}{a:Addr}{c:Cell}(e:aP g.k g'.k)(r1:∀b,g.r b=.cell i→g'.r b=.cell i)(r2:∀b,g.r b=.cV i→g'.r b=.cV i)
  (hk:∀b o,(g.r b=.cell i∨g.r b=.cV i)→h.get? b=some o→h'.get? b=some o)(x:dC Z g h i a c):dC Z g' h' i a c:=by
 induction c using Cell.casesOn with
 |lst l=>obtain⟨h1,o,vs,h2,h3,h4⟩:=x;exact⟨r1 _ h1,o,vs,hk _ _ (.inl h1) h2,h3,h4.mono e⟩
 |aX l=>obtain⟨h1,o,vs,h2,h3,n,h4⟩:=x;exact⟨r1 _ h1,o,vs,hk _ _ (.inl h1) h2,h3,n,h4.mono e⟩
 |ins c l=>obtain⟨h1,o,dx,od,es,h2,h3,h4,h5,h6,n,h7⟩:=x;exact⟨r1 _ h1,o,dx,od,es,hk _ _ (.inl h1) h2,h3,r2 _ h4,hk _ _ (.inr h4) h5,h6,n,h7.mono e⟩
 |Ô v=>exact Rep.mono e x
theorem Base.gen(B:Base Z g s H)(D:Addr→Prop){h':Heap}{t:Nat}
  (hD:∀a,D a→(∀o,g.r a≠.Ô o)∧g.r a≠.tab)
  (hs:∀b o,¬D b→s.heap.get? b=some o→h'.get? b=some o)
  (hr:∀b,¬D b→g'.r b=g.r b)
  (hn:∀a,D a→A4 (∀o,g'.r a=.Ô o→h'.get? a=some o) (∀o,g'.r a=.kept o→∃sl,h'.get? a=some {o with slots:=sl}) (∀o,g'.r a=.held o→h'.get? a=some o) (g'.r a≠.free→∃o,h'.get? a=some o))
  (hlen:g'.as.length=H'.length)(has:∀i a,é g.as i=some a→é g'.as i=some a)
  (hc:∀i c,é H' i=some c→(é H i=some c∧∀b,D b→g.r b≠.cell i∧g.r b≠.cV i)∨∃a,é g'.as i=some a∧dC Z g' h' i a c):
  Base Z g' {s with heap:=h',toks:=t} H':=by
 have hk:aP g.k g'.k:=fun a o e=>by
  have e:=Gh.aN e;have nd:¬D a:=fun d=>(hD a d).1 o e
  exact Gh.Ř ((hr a nd).trans e)
 obtain⟨bx,ò,hl⟩:=B.vd;have JV:¬D Z.tab:=fun d=>(hD _ d).2 B.tab.1
 have So:∀b o,Z.sh.heap.get? b=some o→¬D b:=fun b o e d=>by
  by_cases q:b=Z.tab
  ·subst q;exact JV d
  ·exact(hD b d).1 o (B.top b o e q)
 refine⟨⟨h',t,by rw[hl]⟩,OldK.young B.old fun b o' e' o e=>hs b o (So b o' e') e,fun a o e ne=>?_,?_,fun a o e=>?_,fun a o e=>?_,fun a o e=>?_,fun a l=>?_,hlen,fun i c e=>?_⟩
 ·have q:=B.top a o e ne;exact(hr a fun d=>(hD a d).1 o q).trans q
 ·obtain⟨vs,hv,hc⟩:=B.tab.2;exact⟨(hr _ JV).trans B.tab.1,vs,hs _ _ JV hv,hc.imp (fun e=>e) fun ⟨c,oc,e1,e2,e3⟩=>⟨c,oc,e1,hk _ _ e2,e3⟩⟩
 ·by_cases d:D a
  ·exact(hn a d).1 o e
  ·exact hs a o d (B.Ô a o ((hr a d).symm.trans e))
 ·by_cases d:D a
  ·obtain⟨_,q,_⟩:=hn a d;exact q o e
  ·obtain⟨sl,q⟩:=B.kept a o ((hr a d).symm.trans e);exact⟨sl,hs a _ d q⟩
 ·by_cases d:D a
  ·obtain⟨_,_,q,_⟩:=hn a d;exact q o e
  ·exact hs a o d (B.held a o ((hr a d).symm.trans e))
 ·by_cases d:D a
  ·obtain⟨_,_,_,q⟩:=hn a d;exact q l
  ·obtain⟨o,q⟩:=B.alive a (hr a d▸l);exact⟨o,hs a o d q⟩
 ·rcases hc i c e with⟨q,nd⟩|q
  ·obtain⟨a,ha,x⟩:=B.cells i c q;refine⟨a,has i a ha,x.to hk (fun b e=>?_) (fun b e=>?_) fun b o e q=>?_⟩
   ·exact(hr b fun d=>(nd b d).1 e).trans e
   ·exact(hr b fun d=>(nd b d).2 e).trans e
   ·exact hs b o (fun d=>e.elim (nd b d).1 (nd b d).2) q
  ·exact q
theorem Base.other(B:Base Z g s H){a:Addr}{h':Heap}(t:Nat)(hr:g.r a=.free∨g.r a=.loc∨∃i,g.r a=.var i)(hs:Heap.SameBut a s.heap h')(N4:g.r a=.free∨∃o,h'.get? a=some o):
  Base Z g {s with heap:=h',toks:=t} H:=by
 refine B.gen (· =a) ?_ (fun b o nd e=>(hs.2 b nd).trans e) (fun À À=>rfl) ?_ B.len (fun À À e=>e) fun i c e=>.inl ⟨e,?_⟩
 ·rintro _ rfl;rcases hr with e|e|⟨i,e⟩<;>rw[e]<;>simp
 ·rintro _ rfl
  refine⟨fun o e=>?_,fun o e=>?_,fun o e=>?_,fun e=>?_⟩
  ·rcases hr with q|q|⟨i,q⟩<;>rw[q]at e<;>exact neT Role.ctorIdx e rfl
  ·rcases hr with q|q|⟨i,q⟩<;>rw[q]at e<;>exact neT Role.ctorIdx e rfl
  ·rcases hr with q|q|⟨i,q⟩<;>rw[q]at e<;>exact neT Role.ctorIdx e rfl
  ·exact N4.resolve_left e
 ·rintro _ rfl;rcases hr with e|e|⟨i,e⟩<;>rw[e]<;>simp
theorem Base.toks(B:Base Z g s H)(t:Nat):Base Z g {s with toks:=t} H:=
 B.gen (h':=s.heap) (fun À=>False) (fun À d=>d.elim) (fun À À À e=>e) (fun À À=>rfl) (fun À d=>d.elim) B.len (fun À À e=>e) fun À À e=>.inl ⟨e,fun À d=>d.elim⟩
theorem Base.push(B:Base Z g s H)(o:Obj)(t:Nat)(x:Role)(hf:o.isFreed=false)(hx:x=.free∨x=.Ô o∨x=.kept o∨x=.held o∨x=.loc∨∃i,x=.var i):
  Base Z (g.set s.heap.objs.size x) {s with heap:=s.heap.push o,toks:=t} H:=by
 have jP:g.r s.heap.objs.size=.free:=B.fresh _ (Ų _);refine B.gen (· =s.heap.objs.size) ?_ (fun b o' À e=>ō o e) (fun b nd=>g.ø x nd) ?_ B.len (fun À À e=>e) fun i c e=>.inl ⟨e,?_⟩
 ·rintro _ rfl;rw[jP];simp
 ·rintro _ rfl
  rw[g.þ];have q:=fM s.heap hf;refine⟨fun o' e=>?_,fun o' e=>?_,fun o' e=>?_,fun À=>⟨_,fM s.heap hf⟩⟩
  ·rcases hx with y|y|y|y|y|⟨i,y⟩<;>rw[y]at e<;>cases e
   exact q
  ·rcases hx with y|y|y|y|y|⟨i,y⟩<;>rw[y]at e<;>cases e
   exact⟨_,q⟩
  ·rcases hx with y|y|y|y|y|⟨i,y⟩<;>rw[y]at e<;>cases e
   exact q
 ·rintro _ rfl;rw[jP];simp
noncomputable def Gh.snoc(g:Gh)(n:Addr):Gh:={g with as:=g.as++[n]}
theorem qe{α:Type}{l:List α}{i:Nat}{x:α}(h:é l i=some x):i<l.length:=by
 induction l generalizing i x with
 |nil=>
  exact nS h
 |cons y r IH=>
  exact match i,h with
  |0,_=>Ĭ _
  |i+1,h=>Nat.succ_lt_succ (IH h)
theorem eA{α:Type}(l:List α)(x:α):é (l++[x]) l.length=some x:=by
 induction l generalizing x with
 |nil=>
  exact rfl
 |cons _ r IH=>
  exact IH x
theorem fF{α:Type}{x:α}{l:List α}{i:Nat}{y:α}(h:é (l++[x]) i=some y):é l i=some y∨(i=l.length∧y=x):=by
 induction l generalizing i y with
 |nil=>
  exact match i,h with
  |0,h=>.inr ⟨rfl,(ì h).symm⟩
  |i+1,h=>by exact nS h
 |cons a r IH=>
  exact match i,h with
  |0,h=>.inl h
  |i+1,h=>(IH h).imp (fun x=>x) fun x=>⟨congrArg (· +1) x.1,x.2⟩
theorem kz{α:Type}{y:α}{l:List α}{i:Nat}{j:Nat}{x:α}(h:é (put l i y) j=some x):(j=i∧x=y)∨(j≠i∧é l j=some x):=by
 induction l generalizing i j x with
 |nil=>
  exact nS h
 |cons a r IH=>
  exact match i,j,h with
  |0,0,h=>.inl ⟨rfl,(ì h).symm⟩
  |0,j+1,h=>.inr ⟨Nat.succ_ne_zero j,h⟩
  |i+1,0,h=>.inr ⟨(Nat.succ_ne_zero i).symm,h⟩
  |i+1,j+1,h=>(IH h).imp (fun x=>⟨congrArg (· +1) x.1,x.2⟩) fun x=>⟨fun e=>x.1 (Nat.succ.inj e),x.2⟩
theorem et{α:Type}(l:List α)(i:Nat)(x:α):(put l i x).length=l.length:=by
 induction l generalizing i x with
 |nil=>
  exact rfl
 |cons a r IH=>
  exact match i with
  |0=>rfl
  |i+1=>congrArg (· +1) (IH i x)
theorem Gst.set(g:Gh){n:Addr}{x:Role}(h:g.r n=.free):Gst g (g.set n x):=by
 have ne:∀{a y},g.r a=y→y≠.free→a≠n:=fun e k q=>k (e.symm.trans (q▸h))
 refine⟨fun a o e=>?_,fun a o e=>?_,fun a o e=>?_,⟨[],(Ŵ _).symm⟩,rfl,rfl,fun a e=>?_⟩
 ·have e:=Gh.aN e;exact Gh.Ř ((g.ø x (ne e (by simp))).trans e)
 ·exact(g.ø x (ne e (by simp))).trans e
 ·exact(g.ø x (ne e (by simp))).trans e
 ·exact(g.ø x (ne e (by simp))).trans e
theorem Gst.snoc(g:Gh)(n:Addr):Gst g (g.snoc n):=⟨.refl _,fun À À e=>e,fun À À e=>e,⟨[n],rfl⟩,rfl,rfl,fun À e=>e⟩
theorem Base.Fm(B:Base Z g s H)(o:Obj)(t:Nat)(c:Cell)(hf:o.isFreed=false)
  (hc:((g.set s.heap.objs.size (.cell H.length)).snoc s.heap.objs.size).r s.heap.objs.size=.cell H.length→(s.heap.push o).get? s.heap.objs.size=some o→
   dC Z ((g.set s.heap.objs.size (.cell H.length)).snoc s.heap.objs.size) (s.heap.push o) H.length s.heap.objs.size c):
  Base Z ((g.set s.heap.objs.size (.cell H.length)).snoc s.heap.objs.size) {s with heap:=s.heap.push o,toks:=t} (H++[c]):=by
 have jP:g.r s.heap.objs.size=.free:=B.fresh _ (Ų _);refine B.gen (· =s.heap.objs.size) ?_ (fun b o' À e=>ō o e) (fun b nd=>g.ø _ nd) ?_ (by simp[Gh.snoc,Gh.set,B.len]) (fun À À e=>af e) fun i c' e=>?_
 ·rintro _ rfl;rw[jP];simp
 ·rintro _ rfl
  have q:((g.set s.heap.objs.size (.cell H.length)).snoc s.heap.objs.size).r s.heap.objs.size=.cell H.length:=g.þ _ _;refine⟨fun o' e=>?_,fun o' e=>?_,fun o' e=>?_,fun À=>⟨_,fM s.heap hf⟩⟩
  ·rw[q]at e;exact neT Role.ctorIdx e rfl
  ·rw[q]at e;exact neT Role.ctorIdx e rfl
  ·rw[q]at e;exact neT Role.ctorIdx e rfl
 ·rcases fF e with e|⟨rfl,rfl⟩
  ·exact .inl ⟨e,by rintro _ rfl;rw[jP];simp⟩
  ·refine .inr ⟨s.heap.objs.size,?_,hc (g.þ _ _) (fM s.heap hf)⟩;show é (g.as++[_]) _=_;rw[←B.len];exact eA _ _
theorem Base.cZ(B:Base Z g s H){i:Nat}{a:Addr}{c c':Cell}{h':Heap}(t:Nat)(D:Addr→Prop)(hi:é H i=some c)(ha:é g.as i=some a)
  (hD:∀b,D b→g.r b=.cell i∨g.r b=.cV i)(hs:∀b o,¬D b→s.heap.get? b=some o→h'.get? b=some o)(N4:∀b,D b→∃o,h'.get? b=some o)
  (hc:dC Z g h' i a c'):Base Z g {s with heap:=h',toks:=t} (put H i c'):=by
 refine B.gen D (fun b d=>?_) hs (fun À À=>rfl) (fun b d=>?_) (by rw[et];exact B.len) (fun À À e=>e) fun j cj e=>?_
 ·rcases hD b d with e|e<;>rw[e]<;>simp
 ·refine⟨fun o e=>?_,fun o e=>?_,fun o e=>?_,fun e=>?_⟩
  ·rcases hD b d with q|q<;>rw[q]at e<;>exact neT Role.ctorIdx e rfl
  ·rcases hD b d with q|q<;>rw[q]at e<;>exact neT Role.ctorIdx e rfl
  ·rcases hD b d with q|q<;>rw[q]at e<;>exact neT Role.ctorIdx e rfl
  ·exact N4 b d
 ·rcases kz e with⟨rfl,rfl⟩|⟨ne,e⟩
  ·exact .inr ⟨a,ha,hc⟩
  ·refine .inl ⟨e,fun b d=>?_⟩;rcases hD b d with q|q<;>rw[q]<;>simp[Ne.symm ne]
end
section
variable{Z:Ě}{g g':Gh}{s s':Shared}{H H':List Cell}{cx:Cx}{ρ κ:List (Option V)}
def ś(Y:Sta)(h:Heap)(k:FH):V→Value→Prop
 |.tup l,v=>qV "tuple" h.get? (ß Y k l) v
 |.lst l,v=>qV "list" h.get? (ß Y k l) v
 |.aX l,v=>Pe h.get? ((l.map (·.1)).Nodup) (gY Y k l) v
 |.ins c l,v=>Pd c h.get? (mJ Y.Ŷ l) (iH Y k l) v
 |w,v=>Rep Y k w v
theorem Base.sub(B:Base Z g s H){a o}(e:g.k a=some o):s.heap.get? a=some o:=B.Ô a o (Gh.aN e)
theorem Rep.sX(B:Base Z g s H){v x}(h:Rep Z.toSta g.k v x):ś Z.toSta s.heap g.k v x:=by
 induction v using V.casesOn with
 |tup l=>obtain⟨a,o,vs,h1,h2,h3,h4⟩:=h;exact⟨a,o,vs,h1,B.sub h2,h3,h4⟩
 |lst l=>obtain⟨a,o,vs,h1,h2,h3,h4⟩:=h;exact⟨a,o,vs,h1,B.sub h2,h3,h4⟩
 |aX l=>obtain⟨a,o,vs,h1,h2,h3,h4,h5⟩:=h;exact⟨a,o,vs,h1,B.sub h2,h3,h4,h5⟩
 |ins c l=>obtain⟨a,o,dx,od,es,h1,h2,h3,h4,h5,h6,h7⟩:=h;exact⟨a,o,dx,od,es,h1,B.sub h2,h3,B.sub h4,h5,h6,h7⟩
 |_=>exact h
theorem Base.cell(B:Base Z g s H){i:Nat}{c:Cell}{x:Value}(h:ć Z g (.Ó i) x)(q:é H i=some c):∃a,A3 (x=.ref a) (é g.as i=some a) (dC Z g s.heap i a c):=by
 obtain⟨a,h1,h2⟩:=h;obtain⟨a',h3,h4⟩:=B.cells _ _ q;rw[h1]at h3;(replace h3:=ì h3;subst h3);exact⟨a,h2,h1,h4⟩
theorem xU(B:Base Z g s H){v w x}(h:ć Z g v x)(e:view H v=some w):ś Z.toSta s.heap g.k w x:=by
 induction v using V.casesOn with
 |Ó i=>
  (refine cJ e fun c q zq=>?_;obtain rfl:=zq)
  obtain⟨a,rfl,h1,h3⟩:=B.cell h q
  induction c using Cell.casesOn with
  |lst l=>obtain⟨r,o,vs,q1,q2,q3⟩:=h3;exact⟨a,o,vs,rfl,q1,q2,q3⟩
  |aX l=>obtain⟨r,o,vs,q1,q2,q3,q4⟩:=h3;exact⟨a,o,vs,rfl,q1,q2,q3,q4⟩
  |ins c l=>obtain⟨r,o,dx,od,es,q1,q2,q3,q4,q5,q6,q7⟩:=h3;exact⟨a,o,dx,od,es,rfl,q1,q2,q4,q5,q6,q7⟩
  |Ô v=>exact Rep.sX B h3
 |_=>(replace e:=ì e;subst e);exact Rep.sX B h
theorem Gst.iZ(g:Gh){n:Addr}{o:Obj}{i:Nat}(h:g.r n=.cell i∨g.r n=.cV i):Gst g (g.set n (.Ô o)):=by
 have ne:∀{a y},g.r a=y→y≠.cell i→y≠.cV i→a≠n:=fun e k k2 q=>h.elim (fun h=>k (e.symm.trans (q▸h))) fun h=>k2 (e.symm.trans (q▸h))
 refine⟨fun a o e=>?_,fun a o e=>?_,fun a o e=>?_,⟨[],(Ŵ _).symm⟩,rfl,rfl,fun a e=>?_⟩
 ·have e:=Gh.aN e;exact Gh.Ř ((g.ø _ (ne e (by simp) (by simp))).trans e)
 ·exact(g.ø _ (ne e (by simp) (by simp))).trans e
 ·exact(g.ø _ (ne e (by simp) (by simp))).trans e
 ·exact(g.ø _ (ne e (by simp) (by simp))).trans e
structure ę(g g':Gh):Prop extends Gst g g' where
 var:∀a i,g.r a=.var i→g'.r a=.var i
theorem ę.refl(g:Gh):ę g g:=⟨.refl g,fun À À e=>e⟩
theorem ę.trans{a b c:Gh}(x:ę a b)(y:ę b c):ę a c:=⟨x.toGst.trans y.toGst,fun p i e=>y.var p i (x.var p i e)⟩
theorem ę.iZ(g:Gh){n:Addr}{o:Obj}{i:Nat}(h:g.r n=.cell i∨g.r n=.cV i):ę g (g.set n (.Ô o)):=
 ⟨.iZ g h,fun a j e=>(g.ø _ fun q=>by subst q;rw[e]at h;rcases h with h|h<;>exact neT Role.ctorIdx h rfl).trans e⟩
theorem ę.set(g:Gh){n:Addr}{x:Role}(h:g.r n=.free):ę g (g.set n x):=
 ⟨.set g h,fun a j e=>(g.ø _ fun q=>by subst q;rw[e]at h;exact neT Role.ctorIdx h rfl).trans e⟩
theorem ę.snoc(g:Gh)(n:Addr):ę g (g.snoc n):=⟨.snoc g n,fun À À e=>e⟩
theorem Base.qE(B:Base Z g s H){i:Nat}{a:Addr}{c:Cell}{v:V}(D:List (Addr×Obj))(hi:é H i=some c)(ha:é g.as i=some a)(g':Gh)(has:g'.as=g.as)
  (hD:∀p∈D,A3 (g.r p.1=.cell i∨g.r p.1=.cV i) (s.heap.get? p.1=some p.2) (g'.r p.1=.Ô p.2))(hr:∀b,(∀p∈D,b≠p.1)→g'.r b=g.r b)
  (hc:Rep Z.toSta g'.k v (.ref a)):Base Z g' s (put H i (.Ô v)):=by
 have:=B.gen (g':=g') (h':=s.heap) (t:=s.toks) (H':=put H i (.Ô v)) (fun b=>∃p∈D,b=p.1) ?_ (fun À À À e=>e) (fun b nd=>hr b fun p hp e=>nd ⟨p,hp,e⟩) ?_
  (by rw[et,has];exact B.len) (fun À À e=>by rw[has];exact e) ?_
 ·exact this
 ·rintro _ ⟨p,hp,rfl⟩
  have:=(hD p hp).1;rcases this with e|e<;>rw[e]<;>simp
 ·rintro _ ⟨p,hp,rfl⟩
  obtain⟨_,q1,q2⟩:=hD p hp;rw[q2];refine⟨fun o e=>?_,fun o e=>?_,fun o e=>?_,fun À=>⟨_,q1⟩⟩
  ·injection e with e;rw[←e];exact q1
  ·exact neT Role.ctorIdx e rfl
  ·exact neT Role.ctorIdx e rfl
 ·intro j cj e;rcases kz e with⟨rfl,rfl⟩|⟨ne,e⟩
  ·exact .inr ⟨a,has▸ha,hc⟩
  ·refine .inl ⟨e,?_⟩
   rintro _ ⟨p,hp,rfl⟩
   rcases(hD p hp).1 with q|q<;>rw[q]<;>simp[Ne.symm ne]
theorem Base.bE(B:Base Z g s H){v v' x}(e:Internal.Ô H v=some (H',v'))(h:ć Z g v x){C:Prop}(hq:∀g',ę g g'→Base Z g' s H'→Rep Z.toSta g'.k v' x→C):C:=by
 induction v using V.casesOn with
 |Ó i=>
  refine cJ e fun c q e=>?_;obtain⟨a,rfl,h1,h3⟩:=B.cell h q
  induction c using Cell.casesOn with
  |lst l=>
   cases e;obtain⟨r,o,vs,q1,q2,q3⟩:=h3;have S:=ę.iZ g (o:=o) (.inl r);have R:Rep Z.toSta (g.set a (.Ô o)).k (.lst l) (.ref a):=⟨a,o,vs,rfl,Gh.Ř (g.þ ..),q2,q3.mono S.k⟩;exact hq _ S (B.qE [(a,o)] q h1 _ rfl (fun p hp=>by obtain rfl:=ė.mp hp;exact⟨.inl r,q1,g.þ ..⟩) (fun b hb=>g.ø _ (hb _ (.head _))) R) R
  |aX l=>
   cases e;obtain⟨r,o,vs,q1,q2,q3,q4⟩:=h3;have S:=ę.iZ g (o:=o) (.inl r);have R:Rep Z.toSta (g.set a (.Ô o)).k (.aX l) (.ref a):=⟨a,o,vs,rfl,Gh.Ř (g.þ ..),q2,q3,q4.mono S.k⟩;exact hq _ S (B.qE [(a,o)] q h1 _ rfl (fun p hp=>by obtain rfl:=ė.mp hp;exact⟨.inl r,q1,g.þ ..⟩) (fun b hb=>g.ø _ (hb _ (.head _))) R) R
  |ins c l=>
   cases e;obtain⟨r,o,dx,od,es,q1,q2,q3,q4,q5,q6,q7⟩:=h3;have ne:dx≠a:=fun e=>by rw[e,r]at q3;cases q3
   have Å:=ę.iZ g (o:=o) (.inl r);have r2:(g.set a (.Ô o)).r dx=.cV i:=(g.ø _ ne).trans q3;have Í:=ę.iZ (g.set a (.Ô o)) (o:=od) (.inr r2);have ra:((g.set a (.Ô o)).set dx (.Ô od)).r a=.Ô o:=((g.set a (.Ô o)).ø _ (Ne.symm ne)).trans (g.þ ..);have rd:((g.set a (.Ô o)).set dx (.Ô od)).r dx=.Ô od:=Gh.þ ..;have R:Rep Z.toSta ((g.set a (.Ô o)).set dx (.Ô od)).k (.ins c l) (.ref a):=⟨a,o,dx,od,es,rfl,Gh.Ř ra,q2,Gh.Ř rd,q5,q6,q7.mono (Å.trans Í).k⟩;refine hq _ (Å.trans Í) (B.qE [(a,o),(dx,od)] q h1 _ rfl ?_ (fun b hb=>?_) R) R
   ·intro p hp;rcases Ą.mp hp with rfl|hp
    ·exact⟨.inl r,q1,ra⟩
    ·obtain rfl:=ė.mp hp;exact⟨.inr q3,q4,rd⟩
   ·exact(Gh.ø _ _ (hb (dx,od) (.tail _ (.head _)))).trans (g.ø _ (hb (a,o) (.head _)))
  |Ô v=>cases e;exact hq g (.refl g) B h3
 |_=>cases e;exact hq g (.refl g) B h
theorem Base.eH{C:Prop}{vs:List V}{vs':List V}{xs:List Value}{g:Gh}{H:List Cell}{H':List Cell}(B:Base Z g s H)(e:Internal.ē H vs=some (H',vs'))(h:Ł Z g vs xs)(hq:(∀g',ę g g'→Base Z g' s H'→ß Z.toSta g'.k vs' xs→C)):C:=by
 induction vs generalizing vs' xs g H H' with
 |nil=>
  cases e;exact hq g (.refl g) B h
 |cons v r IH=>
  obtain⟨x,t,rfl,h1,h2⟩:=h;refine ï e fun p e1 e=>?_;refine ï e fun q e2 e=>?_;cases e;refine B.bE e1 h1 fun Ü Å vZ eO=>?_;refine IH vZ e2 (h2.mono Å.toGst) fun ó Í aA fY=>?_;exact hq ó (Å.trans Í) aA ⟨x,t,rfl,eO.mono Í.k,fY⟩
theorem LH.keep(F:LH Z cx g s ρ κ)(e:ę g g')(hL:∀o,s.heap.get? g.L=some o→s'.heap.get? g.L=some o)
  (hc:∀a i o,g.r a=.var i→s.heap.get? a=some o→s'.heap.get? a=some o):LH Z cx g' s' ρ κ:=by
 refine⟨e.L▸e.loc _ F.loc,?_,fun i ov q=>?_⟩
 ·obtain⟨m,⟨o,es,ep,ho,r⟩,hm⟩:=F.locs;refine⟨m,⟨o,es,ep,e.L▸hL o ho,r⟩,fun x i v h1 h2=>?_⟩;obtain⟨w,q1,q2⟩:=hm x i v h1 h2;exact⟨w,q1,q2.mono e.toGst⟩
 ·obtain⟨c,w,q1,q2,⟨o,ho,hd⟩,q4⟩:=F.vars i ov q;refine⟨c,w,e.cs▸q1,e.var _ _ q2,⟨o,hc _ _ _ q2 ho,hd⟩,fun v hv=>?_⟩;obtain⟨x,y1,y2⟩:=q4 v hv;exact⟨x,y1,y2.mono e.toGst⟩
theorem Rep.iM{v x}(h:Rep Z.toSta g.k v x):ć Z g v x:=by
 induction v using V.casesOn with
 |Ó i=>exact h.elim
 |_=>exact h
end
def aL(g:Gh)(l:List Env):Prop:=∀e∈l,e.scope.kind=.function∧∃L,e.frame=some L∧((g.r L=.loc∧L=g.L)∨T3 fun o es n=>g.r L=.kept o∧o.data=.dict es n)
structure œ(d:Nat)(A:Around)(g:Gh):Prop where
 hd:A.handled=none
 depth:A.depth+4*d+2<recursionLimit
 units:A.units+20*d+30<cLine
 frames:∃l,A.frames=some l∧aL g l
structure aY(Z:Ě)(cx:Cx)(g:Gh)(env:Env):Prop where
 kind:env.scope.kind=.function
 L:env.locals=g.L
 xn:env.globals=mainGlobals
 H5:env.builtins=builtinsNs
 kinds:∀x,env.kindOf x=(cx.sn.lookup x).map fun k=>if k=.free then .cell else k
 Ó:∀x i,Ę cx x=some (true,i)→∃c,env.cells.lookup x=some c∧é g.cs i=some c
 Ŷ:cx.Ŷ=Z.Ŷ
 zC:cx.xn=Z.zC
 code:cx.sn.lookup ("seen":Õ)=some .cell→env.code=.ref Z.qn∧env.qual++("<lambda>":Õ)=Z.lR
theorem pg{cx:Cx}{x:Õ}{p:Bool×Nat}(h:Ę cx x=some p):bT x=false∧∃k,cx.sn.lookup x=some k∧Ma cx x k=some p:=by
 unfold Ę at h
 induction ho:bT x using ñ with
 |true=>rw[ho]at h;exact nS h
 |false=>rw[ho]at h;exact⟨rfl,ob h⟩
theorem dY{cx:Cx}{x i}(h:Ę cx x=some (false,i)):A3 (bT x=false) (cx.sn.lookup x=some .local) (idx x cx.loc 0=some i):=by
 obtain⟨ho,k,h1,h2⟩:=pg h
 induction k using PySem.NameKind.casesOn with
 |«local»=>refine cJ h2 fun j h3 h4=>?_;(injection h4 with _ h4;subst h4);exact⟨ho,h1,h3⟩
 |cell=>refine cJ h2 fun j h3 h4=>?_;(injection h4 with h4;exact absurd h4 (by decide))
 |free=>refine cJ h2 fun j h3 h4=>?_;(injection h4 with h4;exact absurd h4 (by decide))
 |_=>exact nS h2
theorem bj{cx:Cx}{x i}(h:Ę cx x=some (true,i)):A3 (bT x=false) (cx.sn.lookup x=some .cell∨cx.sn.lookup x=some .free) (idx x cx.Ó 0=some i):=by
 obtain⟨ho,k,h1,h2⟩:=pg h
 induction k using PySem.NameKind.casesOn with
 |«local»=>refine cJ h2 fun j h3 h4=>?_;(injection h4 with h4;exact absurd h4 (by decide))
 |cell=>refine cJ h2 fun j h3 h4=>?_;(injection h4 with _ h4;subst h4);exact⟨ho,.inl h1,h3⟩
 |free=>refine cJ h2 fun j h3 h4=>?_;(injection h4 with _ h4;subst h4);exact⟨ho,.inr h1,h3⟩
 |_=>exact nS h2
theorem yW{cx:Cx}{x G}(h:dz cx x=some G):A3 (bT x=false) (cx.sn.lookup x=some .globalImplicit) (gl x cx.xn=some G):=by
 unfold dz at h
 induction ho:bT x using ñ with
 |true=>rw[ho]at h;exact nS h
 |false=>
  rw[ho]at h;refine ï h fun k h1 h2=>?_
  induction k using PySem.NameKind.casesOn with
  |globalImplicit=>exact⟨rfl,h1,h2⟩
  |_=>exact nS h2
theorem dq{x:Õ}(h:bT x=false):(x==("__debug__":Õ))=false:=(w4.mp h).1
theorem aY.loc{Z cx g env}(he:aY Z cx g env){x i}(h:Ę cx x=some (false,i)):A3 (env.kindOf x=some .local) ((x==("__debug__":Õ))=false) (idx x cx.loc 0=some i):=by
 obtain⟨h1,h2,h3⟩:=dY h;exact⟨by rw[he.kinds,h2];rfl,dq h1,h3⟩
theorem aY.cell{Z cx g env}(he:aY Z cx g env){x i}(h:Ę cx x=some (true,i)):A3 (env.kindOf x=some .cell) ((x==("__debug__":Õ))=false) (∃c,env.cells.lookup x=some c∧é g.cs i=some c):=by
 obtain⟨h1,h2,h3⟩:=bj h;exact⟨by rw[he.kinds];rcases h2 with h2|h2<;>rw[h2]<;>rfl,dq h1,he.Ó x i h⟩
theorem aY.gl{Z cx g env}(he:aY Z cx g env){x G}(h:dz cx x=some G):A3 (env.kindOf x=some .globalImplicit) ((x==("__debug__":Õ))=false) (gl x Z.zC=some G):=by
 obtain⟨h1,h2,h3⟩:=yW h;exact⟨by rw[he.kinds,h2];rfl,dq h1,he.zC▸h3⟩
structure dn(Z:Ě) where
 fn:Nat→Addr
noncomputable def oldK(Z:Ě):FH:=fun a=>if a=Z.tab then none else Z.sh.heap.get? a
noncomputable def nh:Nat→Value
 |0=>.builtin "len"|1=>.builtin "chr"|2=>.type "int"|3=>.builtin "ord"|4=>.builtin "abs"|5=>.type "tuple"|6=>.builtin "min"|7=>.builtin "max"
 |8=>.type "bytes"|9=>.builtin "sorted"|10=>.type "list"|11=>.type "range"|12=>.type "enumerate"|_=>.none
def Vv(Z:Ě)(K:dn Z)(j:Nat):Prop:=T2 fun o fd=>A3 (Z.sh.heap.get? (K.fn j)=some o) (o.data=.func fd) (K.fn j≠Z.tab)
def DP(Z:Ě)(K:dn Z):Gl→Value→Prop
 |.con v,w=>Rep Z.toSta (oldK Z) v w
 |.fn j,w=>w=.ref (K.fn j)∧Vv Z K j
 |.cls c,w=>w=.ref (fi c)
 |.blt b,w=>w=nh b
structure cf(Z:Ě)(K:dn Z):Prop where
 tm:mainGlobals≠Z.tab
 tb:builtinsNs≠Z.tab
 all:∀x G,gl x Z.zC=some G→T3 fun m mb w=>A4 (Z.sh.heap.Ns mainGlobals m) (Z.sh.heap.Ns builtinsNs mb) (m x=some w∨(m x=none∧mb x=some w)) (DP Z K G w)
section
variable{Z:Ě}{g g':Gh}{s s':Shared}{H:List Cell}
theorem aP.old(B:Base Z g s H):aP (oldK Z) g.k:=fun a o e=>by
 unfold oldK at e
 split at e
 ·exact nS e
 ·rename_i ne;exact Gh.Ř (B.top a o e ne)
theorem Base.du(B:Base Z g s H){a m}(n:Z.sh.heap.Ns a m)(ne:a≠Z.tab):s.heap.Ns a m:=
 let ⟨o,es,ep,e,r⟩:=n;⟨o,es,ep,B.Ô _ _ (B.top a o e ne),r⟩
theorem aL.mono{l}(h:aL g l)(e:Gst g g'):aL g' l:=fun x hx=>
 let ⟨k,L,h1,h2⟩:=h x hx
 ⟨k,L,h1,h2.imp (fun q=>⟨e.loc _ q.1,q.2.trans e.L.symm⟩) fun ⟨o,es,n,q1,q2⟩=>⟨o,es,n,e.kept _ _ q1,q2⟩⟩
theorem œ.mono{d A}(h:œ d A g)(e:Gst g g'):œ d A g':=⟨h.hd,h.depth,h.units,let ⟨l,a,b⟩:=h.frames;⟨l,a,b.mono e⟩⟩
theorem aY.mono{cx env}(h:aY Z cx g env)(e:Gst g g'):aY Z cx g' env:=
 ⟨h.kind,h.L.trans e.L.symm,h.xn,h.H5,h.kinds,fun x i a=>let ⟨c,r1,r2⟩:=h.Ó x i a;⟨c,r1,e.cs▸r2⟩,h.Ŷ,h.zC,h.code⟩
end
def Vy(A:Around)(env:Env):Prop:=T2 fun e l=>A.frames=some (e::l)∧e.frame=env.frame
structure Ok(Z:Ě)(d:Nat)(cx:Cx)(A:Around)(env:Env)(g:Gh)(s:Shared)(st:St):Prop where
 r:œ d A g
 e:aY Z cx g env
 i:Inv Z cx g s st
 f:Vy A env
theorem Ok.to{Z:Ě}{d cx A env}{g g':Gh}{s s' st Ċ}(C:Ok Z d cx A env g s st)(G:Gst g g')(I:Inv Z cx g' s' Ċ):Ok Z d cx A env g' s' Ċ:=⟨C.r.mono G,C.e.mono G,I,C.f⟩
section
variable(prog:Program)(w:World)(Z:Ě)(K:dn Z)
abbrev õ{α:Type}(A:Around)(t:Sem α)(Q:α→Shared→Prop)(E:Value→Shared→Prop)(s:Shared):Prop:=wpAny (model prog w) A t Q E s
abbrev Iu(d:Nat)(cx:Cx)(A:Around)(env:Env)(g:Gh)(Ċ:St)(v:V)(Q:Value→Shared→Prop):Prop:=∀g' s' x,Gst g g'→Ok Z d cx A env g' s' Ċ→ć Z g' v x→Q x s'
abbrev mH(d:Nat)(cx:Cx)(A:Around)(env:Env)(g:Gh)(Ċ:St)(Q:Shared→Prop):Prop:=∀g' s',Gst g g'→Ok Z d cx A env g' s' Ċ→Q s'
def Ű(d:Nat)(e:PE)(st Ċ:St)(v:V):Prop:=∀cx x env A g s Q E,er cx x=e→Ok Z d cx A env g s st→Iu Z d cx A env g Ċ v Q→õ prog w A (eval x env) Q E s
def gy(d:Nat)(e:PE)(st Ċ:St)(b:Bool):Prop:=∀cx x env A g s Q E,er cx x=e→Ok Z d cx A env g s st→mH Z d cx A env g Ċ (Q b)→õ prog w A (isTrue x env (eval x env)) Q E s
def ĺ(d:Nat)(es:List PE)(st Ċ:St)(vs:List V):Prop:=∀cx xs env A g s Q E pos,fc cx xs=es→plain xs=true→Ok Z d cx A env g s st→(∀g' s' ys,Gst g g'→Ok Z d cx A env g' s' Ċ→Ł Z g' vs ys→Q ys s')→õ prog w A (spliced (backTo pos (starEach xs env))) Q E s
end
section
set_option maxRecDepth 100000
open Internal.H
noncomputable def cO:Nat:=1194
noncomputable def wV:Õ:="matches.<locals>.<lambda>"
theorem bp{α β:Type}{f g:α→β}:∀{l:List α} {x:α},l.map f=l.map g→x∈l→f x=g x
 |y::r,x,h,m=>by
  obtain⟨h1,h2⟩:=List.cons.inj h;rcases Ą.mp m with e|m
  ·subst e;exact h1
  ·exact bp h2 m
theorem Sx{a b:Nat}(h:Đ a b=true):a<b:=bQ.mp h
theorem Sy{a b:Nat}(h:Þ a b=false):a≠b:=fun e=>by subst e;rw[jN]at h;exact ĕ h
def Old(t:BT)(k:FH):Prop:=∀a o,t.get a=some o→a<1311→a≠cO→o.isFreed=false→k a=some o
def Hn(a:Nat):Bool:=Đ a 1311&& !Þ a cO
theorem fD{a:Nat}(h:Hn a=true):a<1311∧a≠cO:=⟨Sx (oa h).1,Sy (nn (oa h).2)⟩
noncomputable def Mu:Data→Option (List Value)
 |.seq vs _=>some vs.toList
 |_=>none
noncomputable def En:Value→Option String
 |.type T=>some T
 |_=>none
noncomputable def PF:Value→Option V
 |.none=>some .none
 |.bool b=>some (.bool b)
 |.int i _=>some (.int i)
 |.str s _=>some (.str s.cps.toList)
 |.bytes b _=>some (.bytes (b.toList.map (·.toNat)))
 |_=>none
noncomputable def p_:Value→Option Addr
 |.ref a=>some a
 |_=>none
theorem wz{x:Value}{a:Addr}(h:p_ x=some a):x=.ref a:=mO (f:=Value.ref) h (by induction x using PySem.Value.casesOn<;>first|exact trivial|exact rfl)
theorem pQ{x:Value}{a:String}(h:En x=some a):x=.type a:=mO (f:=Value.type) h (by induction x using PySem.Value.casesOn<;>first|exact trivial|exact rfl)
theorem EJ{x:Data}{l:List Value}(h:Mu x=some l):∃n,x=.seq l.toArray n:=by
 induction x using PySem.Data.casesOn with
 |seq vs n=>exact⟨n,by rw[←ì h]⟩
 |_=>exact nS h
def Es(o:Obj):Option (List Value):=(Mu o.data).bind fun vs=>(En o.cls).bind fun T=>if T=="tuple"&&(o.dict.isNone&&o.slots.isEmpty)then some vs else none
theorem Er{o:Obj}{vs:List Value}(h:Es o=some vs):mC "tuple" vs o∧o.isFreed=false:=by
 obtain⟨c,d,dt,sl⟩:=o;refine ï h fun vs' h1 h=>?_;refine ï h fun T h2 h=>?_
 (have h3:=cy h;have h4:=cn h)
 (have h5:=aC h3;have h6:=aB h3)
 (have h7:=aB h6;have h6:=aC h6)
 obtain rfl:=ì h4;obtain⟨n,e1⟩:=EJ h1;have e2:c=.type T:=pQ h2;have e1:dt=_:=e1;have e3:sl= #[]:=Array.isEmpty_iff.mp h7;have e4:d=none:=oU.mp h6;rw[e1,e2,e3,e4,eq_of_beq h5];exact⟨⟨n,rfl⟩,rfl⟩
noncomputable def Fv(f:Value→Option V):List Value→Option (List V)
 |[]=>some []
 |x::r=>(f x).bind fun v=>(Fv f r).bind fun l=>some (v::l)
def rh(t:BT)(a:Nat):Option (List Value):=if Hn a then(t.get a).bind Es else none
noncomputable def rV(t:BT):Nat→Value→Option V
 |0,x=>PF x
 |n+1,x=>match PF x with
  |some v=>some v
  |none=>(p_ x).bind fun a=>(rh t a).bind fun vs=>(Fv (rV t n) vs).bind fun l=>some (.tup l)
section
variable{Y:Sta}{t:BT}{k:FH}
theorem Aa{x:Value}{v:V}(h:PF x=some v):Rep Y k v x:=by
 induction x using PySem.Value.casesOn<;>first|exact nS h|(replace h:=ì h;subst h;first|rfl|exact⟨_,rfl⟩|exact⟨_,_,rfl,rfl⟩)
theorem ql{f:Value→Option V}(hf:∀x v,f x=some v→Rep Y k v x):∀{xs:List Value} {l:List V},Fv f xs=some l→ß Y k l xs
 |[],_,h=>by obtain rfl:=ì h;rfl
 |x::r,_,h=>by
  refine ï h fun v h1 h=>?_;refine ï h fun l h2 h=>?_;obtain rfl:=ì h;exact⟨x,r,rfl,hf x v h1,ql hf h2⟩
theorem rg(hk:Old t k){a:Addr}{vs:List Value}(h:rh t a=some vs):∃o,A6 (t.get a=some o) (k a=some o) (mC "tuple" vs o) (a<1311) (a≠cO) (o.isFreed=false):=by
 (have h0:=cy (x:=(t.get a).bind Es) h;have h:=cn (x:=(t.get a).bind Es) h)
 refine ï h fun o h1 h=>?_;obtain⟨b1,b2⟩:=fD h0;obtain⟨c1,c2⟩:=Er h;exact⟨o,h1,hk a o h1 b1 b2 c2,c1,b1,b2,c2⟩
theorem lE(hk:Old t k):∀(n:Nat) {x:Value} {v:V},rV t n x=some v→Rep Y k v x
 |0,_,_,h=>Aa h
 |n+1,x,v,h=>by
  unfold rV at h
  induction q:PF x using ş with
  |some u=>rw[q]at h;obtain rfl:=ì h;exact Aa q
  |none=>
   rw[q]at h;refine ï h fun a h1 h=>?_;refine ï h fun vs h2 h=>?_;refine ï h fun l h3 h=>?_;obtain rfl:=ì h;obtain rfl:=wz h1;obtain⟨o,_,h4,h5,_⟩:=rg hk h2;exact⟨a,o,vs,rfl,h4,h5,ql (fun x v=>lE hk n) h3⟩
end
noncomputable def Gn:Data→Option (Array Value)
 |.fields vs=>some vs
 |_=>none
theorem Gm{x:Data}{l:Array Value}(h:Gn x=some l):x=.fields l:=mO (f:=Data.fields) h (by induction x using PySem.Data.casesOn<;>first|exact trivial|exact rfl)
noncomputable def zY:Value→Option Õ
 |.str s _=>some s
 |_=>none
theorem wi{x:Value}{s:Õ}(h:zY x=some s):∃t,x=.str s t:=by
 induction x using PySem.Value.casesOn with
 |str s' t=>exact⟨t,by rw[←ì h]⟩
 |_=>exact nS h
def HZ(t:BT)(c:Nat):Option Õ:=if Hn c then(t.get c).bind fun o=>(Gn o.data).bind fun vs=>(vs[1]? :Option Value).bind zY else none
def K9(t:BT)(d:Value):Option (List V):=match p_ d with
 |some T=>(rh t T).bind (Fv (rV t 2))
 |none=>some []
noncomputable def Ho:Value→Bool
 |.none=>true
 |_=>false
def JF(t:BT)(p:Row×Fn):=
 let fd:=B6 p.1;let n:=fd.params.args.map (·.arg)
 ((Hn p.1.a,fd.body,fd.closure,fd.scope.kind,fd.scope.isCoroutine,fd.scope.isGenerator),n.map (Ę (P7 fd.scope)),
  (decide (fd.scope.names.map (·.1)).Nodup&&(fd.scope.names.all (fun q=>q.2 !=.free)&&aj p.2.mq.length n.length),(aI fd.scope.names).length,(š fd.scope.names).length),
  ((fd.scope.names.lookup ("seen":Õ)!=some .cell||(Þ p.1.c 1198&&(fd.qualname++".<locals>.")++("<lambda>":Õ)==wV)),HZ t p.1.c,K9 t p.1.d,(p_ p.1.d).isSome||Ho p.1.d,(t.get p.1.a)))
def JE(p:Row×Fn):=
 let fd:=B6 p.1
 ((true,FuncBody.stmts (L1 (B7 p.1)),([]:List (Õ×Addr)),ScopeKind.function,false,false),p.2.ps.map some,(true,p.2.nl,p.2.nc),(true,some fd.qualname,some p.2.mq,true,some (ro p.1)))
theorem JB(P:Params):Ah.flatten.map (JF (az P))=Ah.flatten.map JE:=by kernel_rfl
def OH(P:Params)(r:Row):Frag:=match p_ r.d with
 |some T=>match(az P).get T with
  |some o=>[(T,o)]
  |none=>[]
 |none=>[]
def K_(P:Params)(r:Row):List Value:=match p_ r.d with
 |some T=>(rh (az P) T).getD []
 |none=>[]
def DW(r:Row):List Õ:=(B6 r).params.args.map (·.arg)
def GP(p:Row×Fn):List (Row×Nat):=(bP (p.2.mq.length+1)).map fun i=>(p.1,(DW p.1).length - i)
def Qa(P:Params)(q:Row×Nat):(Nat→Value)→Setting→Option (List (Õ×Value)):=fun f S=>peek (OH P q.1) S (bindArgs (B6 q.1) ⟨(bP q.2).map f,[]⟩)
def P_(P:Params)(q:Row×Nat):(Nat→Value)→Setting→Option (List (Õ×Value)):=fun f À=>some ((DW q.1).zip ((bP q.2).map f++(K_ P q.1).drop ((K_ P q.1).length - ((DW q.1).length - q.2))))
theorem GR(P:Params):(Ah.flatten.map fun p=>(GP p).map (Qa P))=(Ah.flatten.map fun p=>(GP p).map (P_ P)):=by kernel_rfl
end
section
variable{prog:Program}{w:World}{Z:Ě}{K:dn Z}{P:Č}{env:Env}{cx:Cx}{g g':Gh}{s s':Shared}{A:Around}{d:Nat}
section
variable{st Ċ:St}{H H':List Cell}
def Keeps(s s':Shared):Prop:=∀b o,s.heap.get? b=some o→s'.heap.get? b=some o
theorem Keeps.refl(s:Shared):Keeps s s:=fun À À e=>e
theorem Inv.next(I:Inv Z cx g s st)(e:ę g g')(k:Keeps s s')(B:Base Z g' s' H'):Inv Z cx g' s' {st with H:=H'}:=
 ⟨B,I.gJ.keep e (fun o q=>k _ o q) fun a i o À q=>k a o q⟩
theorem Inv.toks(I:Inv Z cx g s st)(t:Nat):Inv Z cx g {s with toks:=t} st:=I.next (.refl g) (fun À À e=>e) (I.base.toks t)
theorem Ok.next(C:Ok Z d cx A env g s st)(e:ę g g')(k:Keeps s s')(B:Base Z g' s' H'):Ok Z d cx A env g' s' {st with H:=H'}:=C.to e.toGst (C.i.next e k B)
theorem Ok.toks(C:Ok Z d cx A env g s st)(t:Nat):Ok Z d cx A env g {s with toks:=t} st:=C.to (.refl g) (C.i.toks t)
theorem Ok.base(C:Ok Z d cx A env g s st):Base Z g s st.H:=C.i.base
def đ(Z:Ě)(g:Gh)(s:Shared)(H:List Cell)(v:V)(Q:Value→Shared→Prop):Prop:=
 ∀g' s' z,ę g g'→Keeps s s'→Base Z g' s' (made H v).1→ć Z g' (made H v).2 z→Q z s'
theorem tE(C:Ok Z d cx A env g s st){v:V}{x:Value}{Q:Value→Shared→Prop}{E}(hq:Iu Z d cx A env g st v Q)(h:ć Z g v x):õ prog w A (pure x) Q E s:=wpAny_pure (hq g s _ (.refl g) C h)
theorem iv{i:Bool}{x:Expr}{e:PE}(h:mR i cx x=e):qX i cx x e:=h▸erV i cx x
theorem Cs(C:Ok Z d cx A env g s st){c:Const}{k:Nat}{p:Pos}{v:V}{Q:Value→Shared→Prop}{E}(h:LY c=some v)(hq:Iu Z d cx A env g st v Q):õ prog w A (eval (.Constant c k p) env) Q E s:=by
 induction c using PySem.Const.casesOn with
 |none=>(replace h:=ì h;subst h);exact tE C hq rfl
 |bool b=>(replace h:=ì h;subst h);exact tE C hq rfl
 |int i=>(replace h:=ì h;subst h);exact wpAny_mkInt (hq g _ _ (.refl g) (C.toks _) ⟨_,rfl⟩)
 |str x=>(replace h:=ì h;subst h);exact wpAny_mkText (hq g _ _ (.refl g) (C.toks _) ⟨_,rfl⟩)
 |bytes b=>(replace h:=ì h;subst h);exact wpAny_mkTextBytes (hq g _ _ (.refl g) (C.toks _) ⟨_,_,rfl,rfl⟩)
 |_=>exact nS h
theorem ŋ(hg:cf Z K){env:Env}(he:aY Z cx g env)(B:Base Z g s H){x:Õ}{G:Gl}{p:Pos}{Q:Value→Shared→Prop}{E:Value→Shared→Prop}
  (hG:dz cx x=some G)(hq:∀z,DP Z K G z→Q z s):õ prog w A (eval (.Name x p) env) Q E s:=by
 obtain⟨h1,h2,h3⟩:=he.gl hG;obtain⟨m,mb,z,n1,n2,n3,n4⟩:=hg.all x G h3;have m1:s.heap.Ns env.globals m:=he.xn▸B.du n1 hg.tm;have m2:s.heap.Ns env.builtins mb:=he.H5▸B.du n2 hg.tb;refine Calls.Name_function_global he.kind h1 ?_ h2;rcases n3 with n3|⟨n3,n5⟩
 ·exact Calls.loadGlobal_global m1 n3 (hq z n4)
 ·exact Calls.loadGlobal_builtin m1 n3 m2 n5 (hq z n4)
theorem u_{env:Env}(he:aY Z cx g env)(hi:Inv Z cx g s st){x:Õ}{i:Nat}{v:V}{p:Pos}{Q:Value→Shared→Prop}{E:Value→Shared→Prop}
  (hv:Ę cx x=some (false,i))(hn:é st.ρ i=some (some v))(hq:∀z,ć Z g v z→Q z s):õ prog w A (eval (.Name x p) env) Q E s:=by
 obtain⟨h1,h2,h3⟩:=he.loc hv;obtain⟨m,hm,PX⟩:=hi.gJ.locs;obtain⟨y,q1,q2⟩:=PX x i v h3 hn;exact wpAny_Name (wpAny_loadName_local he.kind h1 (he.L▸hm) q1 (hq _ q2)) h2
theorem yC{env:Env}(he:aY Z cx g env)(hi:Inv Z cx g s st){x:Õ}{i:Nat}{v:V}{p:Pos}{Q:Value→Shared→Prop}{E:Value→Shared→Prop}
  (hv:Ę cx x=some (true,i))(hn:é st.κ i=some (some v))(hq:∀z,ć Z g v z→Q z s):õ prog w A (eval (.Name x p) env) Q E s:=by
 obtain⟨h1,h2,c,h3,h4⟩:=he.cell hv;obtain⟨c',y,q1,q2,q3,q4⟩:=hi.gJ.vars _ _ hn;obtain rfl:c=c':=ì (h4.symm.trans q1);obtain⟨z,rfl,q5⟩:=q4 _ rfl;exact wpAny_Name (wpAny_loadName_cell he.kind h1 h3 q3 (hq _ q5)) h2
theorem Q8(hg:cf Z K){v:V}:Ű prog w Z d (.c v) st st v:=by
 intro cx x env A g s Q E hx C hq;rcases iv hx with⟨c,k,p,rfl,h⟩|⟨n,p,rfl,h⟩
 ·exact Cs C h hq
 ·refine ŋ hg C.e C.base h fun z hz=>?_;exact hq g s z (.refl g) C (Rep.mono (v:=v) (.old C.base) hz).iM
theorem YB{n:Nat}{v:V}(h:é st.ρ n=some (some v)):Ű prog w Z d (.l n) st st v:=by
 intro cx x env A g s Q E hx C hq;obtain⟨n,p,rfl,hv⟩:=iv hx;exact u_ C.e C.i hv h fun z hz=>hq g s z (.refl g) C hz
theorem YC{n:Nat}{v:V}(h:é st.κ n=some (some v)):Ű prog w Z d (.k n) st st v:=by
 intro cx x env A g s Q E hx C hq;obtain⟨n,p,rfl,hv⟩:=iv hx;exact yC C.e C.i hv h fun z hz=>hq g s z (.refl g) C hz
theorem wg{x y:List Nat}:(⟨⟨x⟩⟩:Õ)++(⟨⟨y⟩⟩:Õ)=⟨⟨x++y⟩⟩:=by
 show PySem.Str.mk (Array.mk x++Array.mk y)=_;simp
theorem ĥ{α}{l:List α}(h:small l=true):l.length<1000000:=bQ.mp h
theorem nG{α β:Type}{l:List α}{m:List β}(h:small l=true)(h':small m=true):l.length+m.length≤2^24:=
 ă (Nat.add_le_add (aV (ĥ h)) (aV (ĥ h'))) (by decide)
theorem Base.fH(B:Base Z g s H){l:List V}{vs:List Value}{n t:Nat}{Q:Value→Shared→Prop}(hr:ß Z.toSta g.k l vs)(hq:đ Z g s H (.lst l) Q):
  Q (.ref s.heap.objs.size) {s with heap:=s.heap.push {cls:=.type "list",data:=.seq vs.toArray n},toks:=t}:=by
 have hf:g.r s.heap.objs.size=.free:=B.fresh _ (Ų _);have S:ę g ((g.set s.heap.objs.size (.cell H.length)).snoc s.heap.objs.size):=(ę.set g hf).trans (ę.snoc _ _);refine hq _ _ _ S (fun b o e=>ō _ e) (B.Fm {cls:=.type "list",data:=.seq vs.toArray n} t (.lst l) rfl fun r q=>⟨r,_,vs,q,⟨n,rfl⟩,hr.mono S.k⟩) ⟨_,?_,rfl⟩;show é (g.as++[_]) _=_;rw[←B.len];exact eA _ _
theorem ß.app{Y:Sta}{k:FH}{a:List V}{b:List V}{x:List Value}{y:List Value}(h:ß Y k a x)(h':ß Y k b y):ß Y k (a++b) (x++y):=by
 induction a generalizing b x y with
 |nil=>
  subst h;exact h'
 |cons _ wa IH=>
  obtain⟨v,r,rfl,h1,h2⟩:=h;exact⟨v,_,rfl,h1,IH h2 h'⟩
theorem ß.len{Y:Sta}{k:FH}{a:List V}{x:List Value}(h:ß Y k a x):x.length=a.length:=by
 induction a generalizing x with
 |nil=>
  subst h;rfl
 |cons _ wa IH=>
  obtain⟨v,r,rfl,h1,h2⟩:=h;exact congrArg (· +1) (IH h2)
theorem đ.kG{v:V}{Q:Value→Shared→Prop}(hq:đ Z g s H v Q)(B:Base Z g s H)(hv:∀l,v≠.lst l)(t:Nat){z:Value}(hz:ć Z g v z):Q z {s with toks:=t}:=by
 have e:made H v=(H,v):=by induction v using V.casesOn<;>first|rfl|exact absurd rfl (hv _)
 unfold đ at hq;rw[e]at hq;exact hq g _ z (.refl g) (fun À À e=>e) (B.toks t) hz
theorem Ab{y:Int}(h0:0<y)(h:y<j_):y.natAbs.log2<9000:=by
 have:y.natAbs≠0:=by omega
 have h1:y.natAbs<2^1000:=by
  have:(j_:Int)=((2^1000:Nat):Int):=by decide+kernel
  omega
 have:=(Nat.log2_lt this).mpr h1;exact ă ‹_› (by decide)
theorem Ac{x y:Int}(h0:0<y)(h:y<j_):Builtin.divisionGoesByPylong x y=false:=PyProof.noPylong_of_log2 (Ab h0 h)
theorem bD{a b:Int}(h:Ī a b=true):a<b:=of_decide_eq_true h
theorem gS{a b:Int}(h:gc a b=true):a≤b:=of_decide_eq_true h
theorem A8{x y:Int}(h1:Ī x.natAbs big=true)(h2:Ī y.natAbs big=true):IntMulOk x y:=
 have q:=bD h2
 IntMulOk.of_right (PySem.intBits_le_64 (Int.neg_lt_of_neg_lt (Int.lt_of_le_of_lt (Int.natAbs_neg y▸Int.le_natAbs) q)) (Int.lt_of_le_of_lt Int.le_natAbs q))
theorem ia{k:FH}{Y:Sta}{a b:V}{x y:Value}{v:V}{f:Int×Int→Option V}(hx:Rep Y k a x)(hy:Rep Y k b y)(h:(pI a b).bind f=some v){C:Prop}(q:∀i j t u,f (i,j)=some v→x=.int i t→y=.int j u→C):C:=by
 refine ï h fun p h1 h2=>?_;obtain⟨rfl,rfl⟩:=jI h1;obtain⟨t,h3⟩:=hx;obtain⟨u,h4⟩:=hy;exact q _ _ t u h2 h3 h4
theorem AP{j:Int}{r:Option V}{v:V}(h:(if Ī 0 j&&Ī j j_ then r else none)=some v):A3 (0<j) (j<j_) (r=some v):=
 let ⟨h1,h2⟩:=og h;let ⟨h1,h3⟩:=oa h1
 ⟨bD h1,bD h3,h2⟩
theorem đ.int{i:Int}{v:V}{Q:Value→Shared→Prop}(hq:đ Z g s H v Q)(B:Base Z g s H)(e:some (V.int i)=some v)(t:Tok):Q (.int i t) {s with toks:=t+1}:=by
 (replace e:=ì e;subst e);exact hq.kG B (fun À q=>neT V.ctorIdx q rfl) _ ⟨t,rfl⟩
theorem vN(B:Base Z g s H){i j:List Nat}{x y:Value}{Q E}(hx:Rep Z.toSta g.k (.str i) x)(hy:Rep Z.toSta g.k (.str j) y)(h3:small i=true)(h4:small j=true)(hq:đ Z g s H (.str (i++j)) Q):õ prog w A (binaryOp .Add x y) Q E s:=by
 obtain⟨t,rfl⟩:=hx;obtain⟨u,rfl⟩:=hy;exact PyProof.Rows.add_str (fun t' tk=>hq.kG B (fun À q=>neT V.ctorIdx q rfl) _ ⟨_,congrArg (Value.str · _) wg⟩) (nG h3 h4)
theorem vO(B:Base Z g s H){i j:List V}{x y:Value}{Q E}(hx:Rep Z.toSta g.k (.lst i) x)(hy:Rep Z.toSta g.k (.lst j) y)(h3:small i=true)(h4:small j=true)(hq:đ Z g s H (.lst (i++j)) Q):õ prog w A (binaryOp .Add x y) Q E s:=by
 obtain⟨ax,ox,vs,rfl,k1,⟨n,rfl⟩,r1⟩:=hx;obtain⟨ay,oy,us,rfl,k2,⟨m,rfl⟩,r2⟩:=hy;have:=nG h3 h4;rw[←r1.len,←r2.len]at this;refine PySem.P.add_list (B.sub k1) (B.sub k2) ?_ this;rw[List.append_toArray];exact B.fH (n:=0) (t:=s.toks) (r1.app r2) hq
theorem Lv(B:Base Z g s H){a b v:V}{x y:Value}{Q E}(hx:Rep Z.toSta g.k a x)(hy:Rep Z.toSta g.k b y)(h:bin 0 a b=some v)(hq:đ Z g s H v Q):õ prog w A (binaryOp .Add x y) Q E s:=by
 induction a using V.casesOn with
 |int i=>
  refine ï h fun j h1 h2=>?_;obtain rfl:=iI h1;obtain⟨t,rfl⟩:=hx;obtain⟨u,rfl⟩:=hy;exact PyProof.Rows.add_int (hq.int B h2 _)
 |str i=>
  refine ï h fun j h1 h2=>?_
  (have h3:=cy h2;have h2:=cn h2)
  (replace h2:=ì h2;subst h2)
  exact vN B hx (iS h1▸hy) (oa h3).1 (oa h3).2 hq
 |lst i=>
  refine ï h fun j h1 h2=>?_
  (have h3:=cy h2;have h2:=cn h2)
  (replace h2:=ì h2;subst h2)
  exact vO B hx (iL h1▸hy) (oa h3).1 (oa h3).2 hq
 |_=>exact nS h
theorem Lp(B:Base Z g s H){o:Operator}{op:Nat}{a b v:V}{x y:Value}{Q E}(hx:Rep Z.toSta g.k a x)(hy:Rep Z.toSta g.k b y)(h:bin op a b=some v)(ho:Cc o=some op)
  (hq:đ Z g s H v Q):õ prog w A (binaryOp o x y) Q E s:=by
 induction o using PySem.Operator.casesOn with
 |Add=>(replace ho:=ì ho;subst ho);exact Lv B hx hy h hq
 |Sub=>
  (replace ho:=ì ho;subst ho)
  refine ia hx hy h fun i j t u h2 e1 e2=>?_;rw[e1,e2];exact PyProof.Rows.sub_int (hq.int B h2 _)
 |Mult=>
  (replace ho:=ì ho;subst ho)
  refine ia hx hy h fun i j t u h2 e1 e2=>?_;rw[e1,e2]
  (have h3:=cy h2;have h2:=cn h2)
  exact PyProof.Rows.mul_int (hq.int B h2 _) (A8 (oa h3).1 (oa h3).2)
 |FloorDiv=>
  (replace ho:=ì ho;subst ho)
  refine ia hx hy h fun i j t u h2 e1 e2=>?_;rw[e1,e2];obtain⟨h3,h4,h2⟩:=AP h2;refine PyProof.Rows.floordiv_int (Int.ne_of_gt h3) ?_ (.inl (Ac h3 h4));rw[Int.fdiv_eq_ediv_of_nonneg _ (jM h3)];exact hq.int B h2 _
 |Mod=>
  (replace ho:=ì ho;subst ho)
  refine ia hx hy h fun i j t u h2 e1 e2=>?_;rw[e1,e2];obtain⟨h3,h4,h2⟩:=AP h2;refine PyProof.Rows.mod_int' (Int.ne_of_gt h3) ?_;rw[Int.fmod_eq_emod_of_nonneg _ (jM h3)];exact hq.int B h2 _
 |Pow=>
  (replace ho:=ì ho;subst ho)
  refine ia hx hy h fun i j t u h2 e1 e2=>?_;rw[e1,e2]
  (have h3:=cy h2;have h2:=cn h2)
  obtain rfl:i=10:=of_decide_eq_true (oa h3).1;rcases lU.mp (oa h3).2 with h4|h4
  ·obtain rfl:j=15:=of_decide_eq_true h4;exact PyProof.Rows.pow_int (by decide) (by decide+kernel) (hq.int B h2 _)
  ·obtain rfl:j=200:=of_decide_eq_true h4;exact PyProof.Rows.pow_int (by decide) (by decide+kernel) (hq.int B h2 _)
 |_=>exact nS ho
theorem Ra{n:Nat}{a b:PE}{Å:St}{ρ κ:List (Option V)}{x y x' y' v v':V}{H H₁ Ö ų:L}(h1:Ű prog w Z d a st Å x)(h2:Ű prog w Z d b Å ⟨H,ρ,κ⟩ y)(h3:Ô H x=some (H₁,x'))(h4:Ô H₁ y=some (Ö,y'))(h5:bin n x' y'=some v)(h6:made Ö v=(ų,v')):Ű prog w Z d (.bi n a b) st ⟨ų,ρ,κ⟩ v':=by
 intro cx x env A g s Q E hx C hq;obtain⟨y,o,z,p,rfl,ho,e1,e2⟩:=iv hx;refine wpAny_BinOp (h1 _ _ _ _ _ _ _ _ e1 C fun Ü ò ŵ Ñ Ï ô=>?_);refine wpAny_mono (h2 _ _ _ _ _ _ (fun r s'=>õ prog w A (binaryOp o ŵ r) Q E s') E e2 Ï fun ó Ļ xX ù è ů=>?_) (fun À À e=>e) fun À À e=>e
 refine è.base.bE h3 (ô.mono ù) fun İ ł Ŝ fX=>?_;refine Ŝ.bE h4 (ů.mono ł.toGst) fun BZ nq nu vT=>?_;refine Lp nu (fX.mono nq.k) vT h5 ho fun qz ED Yt g7 Kl mI jr=>?_;rw[h6]at mI jr;exact hq _ _ _ (Ñ.trans (ù.trans ((ł.trans nq).trans g7).toGst)) (è.next ((ł.trans nq).trans g7) Kl mI) jr
end
section
open PySem.SeqAt
section
variable{st:St}{H H':List Cell}
theorem cz:∀{a b:List Nat},Ø a b=decide (a=b)
 |[],[]=>rfl
 |[],_::_=>rfl
 |_::_,[]=>rfl
 |a::r,b::t=>by
  rw[Ø,cz (a:=r)]
  induction h:Þ a b using ñ with
  |true=>rw[Ģ h];exact decide_eq_decide.mpr ⟨fun e=>e▸rfl,fun e=>(List.cons.inj e).2⟩
  |false=>exact(decide_eq_false fun e=>by rw[(List.cons.inj e).1,jN]at h;exact ĕ h).symm
theorem ý{a b:List Nat}(h:Ø a b=true):a=b:=of_decide_eq_true (cz▸h)
theorem Ŭ(a:List Nat):Ø a a=true:=cz.trans (decide_eq_true rfl)
theorem bytes_inj{a b:Array UInt8}(h:a.toList.map (·.toNat)=b.toList.map (·.toNat)):a.toList=b.toList:=by
 exact(List.map_inj_right (fun x y e=>UInt8.toNat_inj.mp e)).mp h
theorem Base.isList{a:Addr}{o:Obj}{vs:List Value}(h:s.heap.get? a=some o)(q:mC "list" vs o):s.heap.IsList a vs.toArray:=let ⟨n,e⟩:=q;by subst e;exact⟨_,h,rfl,n,rfl⟩
theorem Base.eE{a:Addr}{o:Obj}{vs:List Value}(h:s.heap.get? a=some o)(q:mC "tuple" vs o):s.heap.IsTuple a vs.toArray:=let ⟨n,e⟩:=q;by subst e;exact⟨_,h,rfl,n,rfl⟩
theorem EqAt.of_rc{A:Around}{s:Shared}{x y:Value}{r:Bool}(h:RcAt A s x y r)(hf:∀b t,x≠.float b t)(hs:x=y→r=true):EqAt A s x y r:=fun prog w E Q hq=>by
 unfold eqBool;refine wpAny_holding ?_;refine wpAny_ite_split (fun Gb=>?_) (fun À=>?_)
 ·have:=hs (eq_of_beq Gb);subst this;exact wpAny_bind (wpAny_rule (wpAny_pure hq))
 ·have t:wpAny (model prog w) A (richCompare .Eq x y>>=truthOfDropped) Q E s:=wpAny_bind (h prog w E _ (wpAny_truthy_bool hq))
  split
  ·rename_i e;exact absurd (Prod.mk.inj e).1 (hf _ _)
  ·exact t
inductive VK(v:V)(x:Value):Prop
 |none (e:x=.none) (q:v=.none)
 |bool (b:Bool) (e:x=.bool b)
 |int (i:Int) (t:Tok) (e:x=.int i t)
 |str (b:Õ) (t:Tok) (e:x=.str b t)
 |bytes (b:Array UInt8) (t:Tok) (e:x=.bytes b t)
 |ref (a:Addr) (e:x=.ref a)
theorem ś.vk{Y:Sta}{h:Heap}{k:FH}{v:V}{x:Value}(q:ś Y h k v x):VK v x:=by
 induction v using V.casesOn with
 |none=>exact .none q rfl
 |bool=>exact .bool _ q
 |int=>obtain⟨_,e⟩:=q;exact .int _ _ e
 |str=>obtain⟨_,e⟩:=q;exact .str _ _ e
 |bytes=>obtain⟨_,_,e,_⟩:=q;exact .bytes _ _ e
 |tup=>obtain⟨_,_,_,e⟩:=q;exact .ref _ e
 |lst=>obtain⟨_,_,_,e⟩:=q;exact .ref _ e
 |aX=>obtain⟨_,_,_,e⟩:=q;exact .ref _ e
 |ins=>obtain⟨_,_,_,_,_,e⟩:=q;exact .ref _ e
 |Ó=>exact q.elim
 |g9=>obtain⟨_,_,_,_,_,_,_,_,_,_,_,e⟩:=q;exact .ref _ e
theorem Rep.vk{Y:Sta}{k:FH}{v:V}{x:Value}(q:Rep Y k v x):VK v x:=by
 induction v using V.casesOn with
 |none=>exact .none q rfl
 |bool=>exact .bool _ q
 |int=>obtain⟨_,e⟩:=q;exact .int _ _ e
 |str=>obtain⟨_,e⟩:=q;exact .str _ _ e
 |bytes=>obtain⟨_,_,e,_⟩:=q;exact .bytes _ _ e
 |tup=>obtain⟨_,_,_,e⟩:=q;exact .ref _ e
 |lst=>obtain⟨_,_,_,e⟩:=q;exact .ref _ e
 |aX=>obtain⟨_,_,_,e⟩:=q;exact .ref _ e
 |ins=>obtain⟨_,_,_,_,_,e⟩:=q;exact .ref _ e
 |Ó=>exact q.elim
 |g9=>obtain⟨_,_,_,_,_,_,_,_,_,_,_,e⟩:=q;exact .ref _ e
theorem VK.wL{v:V}{x:Value}(h:VK v x)(b t):x≠.float b t:=by
 induction h using VK.casesOn<;>subst_vars<;>nofun
theorem mC.inj{T:String}{xs ys:List Value}{o:Obj}(h:mC T xs o)(h':mC T ys o):xs=ys:=by
 obtain⟨n,e⟩:=h;obtain⟨m,e'⟩:=h';rw[e]at e';injection e' with _ _ e _
 injection e with e _
 exact List.toArray_inj e
theorem qV.same{T:String}{k:FH}{M N:List Value→Prop}{x:Value}(h:qV T k M x)(h':qV T k N x):∃vs,M vs∧N vs:=by
 obtain⟨a,o,vs,rfl,k1,q1,r1⟩:=h;obtain⟨b,p,us,e,k2,q2,r2⟩:=h'
 (injection e with e;subst e)
 rw[k1]at k2;(replace k2:=ì k2;subst k2);obtain rfl:=q1.inj q2;exact⟨_,r1,r2⟩
theorem rf{f:V→V→Option Bool}{a b:List V}{r:Bool}(h:pM f a b=some r):a.length=b.length∧∃e:Nat→Bool,(∀i x y,é a i=some x→é b i=some y→f x y=some (e i))∧(bP a.length).all e=r:=by
 induction a generalizing b r with
 |nil=>
  induction b using Ū with
  |nil=>(replace h:=ì h;subst h);exact⟨rfl,fun À=>true,fun À À À h=>nS h,rfl⟩
  |cons=>exact nS h
 |cons x a IH=>
  induction b using Ū with
  |nil=>exact nS h
  |cons y b=>
   refine ï h fun p h1 h=>?_;refine ï h fun q h2 h=>?_
   (replace h:=ì h;subst h)
   obtain⟨hl,e,he,rfl⟩:=IH h2;refine⟨congrArg (· +1) hl,fun i=>match i with|0=>p|i+1=>e i,fun i u v hu hv=>?_,?_⟩
   ·induction i using mM with
    |zero=>(replace hu:=ì hu;subst hu);(replace hv:=ì hv;subst hv);exact h1
    |succ i=>exact he i u v hu hv
   ·rw[Ă,List.range_succ_eq_map,gH,List.all_map];rfl
theorem kA{α:Type}:∀{l:List α} {i:Nat} (h:i<l.length),é l i=some l[i]
 |[],i,h=>absurd h (Nat.not_lt_zero i)
 |_::r,i,h=>match i,h with
  |0,_=>rfl
  |i+1,h=>kA (l:=r) (Bj h)
theorem ß.é{Y:Sta}{k:FH}:∀{l:List V} {xs:List Value},ß Y k l xs→∀{i x} (h:i<xs.length),Internal.é l i=some x→Rep Y k x xs[i]
 |[],_,_,_,_,_,hn=>by exact nS hn
 |_::_,_,q,i,x,h,hn=>by
  obtain⟨v,r,rfl,h1,h2⟩:=q
  induction i using mM with
  |zero=>(replace hn:=ì hn;subst hn);exact h1
  |succ i=>exact ß.é h2 (Bj h) hn
theorem lg{α β:Type}{a:List α}{b:List β}:ej a b=decide (a.length=b.length):=by
 induction a generalizing b with
 |nil=>
  induction b using Ū<;>rfl
 |cons _ r IH=>
  induction b using Ū with
  |nil=>rfl
  |cons x t=>exact(IH (b:=t)).trans (decide_eq_decide.mpr ⟨congrArg (· +1),Nat.succ.inj⟩)
theorem nE{Y:Sta}{k:FH}{f:V→V→Option Bool}(hf:∀{a b r x},f a b=some r→Rep Y k a x→Rep Y k b x→r=true){a b:List V}{r:Bool}{xs:List Value}(h:pM f a b=some r)(ha:ß Y k a xs)(hb:ß Y k b xs):r=true:=by
 induction a generalizing b r xs with
 |nil=>
  induction b using Ū with
  |nil=>exact(ì h).symm
  |cons=>exact nS h
 |cons x a IH=>
  induction b using Ū with
  |nil=>exact nS h
  |cons y b=>
   refine ï h fun p h1 h=>?_;refine ï h fun q h2 h=>?_;obtain⟨v,t,rfl,a1,a2⟩:=ha;obtain⟨v',t',e,b1,b2⟩:=hb;injection e with e1 e2;subst e1 e2
   obtain rfl:=hf h1 a1 b1;obtain rfl:=IH h2 a2 b2;exact(ì h).symm
theorem iQ{Y:Sta}{k:FH}(n:Nat){a b:V}{r:Bool}{x:Value}(h:gq n a b=some r)(ha:Rep Y k a x)(hb:Rep Y k b x):r=true:=by
 induction n generalizing a b r x with
 |zero=>exact nS h
 |succ n IH=>
  induction a using V.casesOn with
  |bool a=>
   refine ï h fun c h1 h2=>?_;obtain rfl:=iO h1;replace h2:=ì h2;subst h2;subst ha;injection (show Value.bool _=_ from hb)with e;subst e;exact beq_self_eq_true _
  |int a=>
   refine ï h fun c h1 h2=>?_;obtain rfl:=iI h1;replace h2:=ì h2;subst h2;obtain⟨t,rfl⟩:=ha;obtain⟨u,e⟩:=hb;injection e with e;subst e;exact decide_eq_true rfl
  |str a=>
   refine ï h fun c h1 h2=>?_;obtain rfl:=iS h1;replace h2:=ì h2;subst h2;obtain⟨t,rfl⟩:=ha;obtain⟨u,e⟩:=hb;injection e with e;injection e with e;injection e with e;subst e;exact Ŭ _
  |bytes a=>
   refine ï h fun c h1 h2=>?_;obtain rfl:=iB h1;replace h2:=ì h2;subst h2;obtain⟨c,t,rfl,rfl⟩:=ha;obtain⟨c',u,e,rfl⟩:=hb;injection e with e;subst e;exact Ŭ _
  |tup a=>
   refine ï h fun c h1 h2=>?_;obtain rfl:=iT h1;obtain⟨vs,r1,r2⟩:=qV.same ha hb;exact nE IH h2 r1 r2
  |lst a=>
   refine ï h fun c h1 h2=>?_;obtain rfl:=iL h1;obtain⟨vs,r1,r2⟩:=qV.same ha hb;rw[if_pos (lg.trans (decide_eq_true (r1.len.symm.trans r2.len)))]at h2;exact nE IH h2 r1 r2
  |_=>exact nS h
theorem nA{f:V→V→Option Bool}(hf:∀{a b},f a b=some true→a=b){a b:List V}(h:pM f a b=some true):a=b:=by
 induction a generalizing b with
 |nil=>
  induction b using Ū with
  |nil=>rfl
  |cons=>exact nS h
 |cons x a IH=>
  induction b using Ū with
  |nil=>exact nS h
  |cons y b=>
   refine ï h fun p h1 h=>?_;refine ï h fun q h2 h=>?_
   (have e1:=aC (ì h);have e2:=aB (ì h))
   subst e1 e2;obtain rfl:=hf h1;obtain rfl:=IH h2;rfl
theorem xW(n:Nat){a b:V}(h:gq n a b=some true):a=b:=by
 induction n generalizing a b with
 |zero=>exact nS h
 |succ n IH=>
  induction a using V.casesOn with
  |bool a=>refine ï h fun c h1 h2=>?_;rw[iO h1,eq_of_beq (ì h2)]
  |int a=>refine ï h fun c h1 h2=>?_;rw[iI h1,show a=c from of_decide_eq_true (ì h2)]
  |str a=>refine ï h fun c h1 h2=>?_;rw[iS h1,ý (ì h2)]
  |bytes a=>refine ï h fun c h1 h2=>?_;rw[iB h1,ý (ì h2)]
  |tup a=>refine ï h fun c h1 h2=>?_;rw[iT h1,nA IH h2]
  |lst a=>
   refine ï h fun c h1 h2=>?_
   induction hs:ej a c using ñ with
   |false=>rw[hs]at h2;(injection h2 with h2;exact absurd h2 (by decide))
   |true=>rw[hs]at h2;rw[iL h1,nA IH h2]
  |_=>exact nS h
theorem in1_units(A:Around):A.in1.units=A.units+1:=rfl
theorem Bb(B:Base Z g s H){A:Around}{n:Nat}(ih:∀{a b:V} {r:Bool} {x y:Value},gq n a b=some r→ś Z.toSta s.heap g.k a x→ś Z.toSta s.heap g.k b y→RcAt A.in1 s x y r){xs ys:List Value}{l m:List V}{e:Nat→Bool}(r1:ß Z.toSta g.k l xs)(r2:ß Z.toSta g.k m ys)
  (he:∀i x y,é l i=some x→é m i=some y→gq n x y=some (e i))(j:Nat)(h1:j<xs.toArray.size)(h2:j<ys.toArray.size):EqAt A.in1 s xs.toArray[j] ys.toArray[j] (e j):=by
 have h1:j<xs.length:=h1;have h2:j<ys.length:=h2;have k1:=kA (r1.len▸h1:j<l.length);have k2:=kA (r2.len▸h2:j<m.length);have e0:=he j _ _ k1 k2;have p1:=r1.é h1 k1;have p2:=r2.é h2 k2;exact EqAt.of_rc (ih e0 (Rep.sX B p1) (Rep.sX B p2)) p1.vk.wL fun q=>iQ n e0 p1 (by have q:xs[j]=ys[j]:=q;rw[q];exact p2)
theorem Ak(B:Base Z g s H)(n:Nat){A:Around}{a b:V}{r:Bool}{x y:Value}(h:gq n a b=some r)(hu:A.units+n<cLine)(ha:ś Z.toSta s.heap g.k a x)(hb:ś Z.toSta s.heap g.k b y):RcAt A s x y r∧RcNeAt A s x y (!r):=by
 induction n generalizing A a b r x y with
 |zero=>exact nS h
 |succ n IH=>
  have V6:A.in1.units+n<cLine:=by rw[in1_units];exact ä [_,_,_] (.c (.a (.a Â (.a È Á)) Á) ã .z) (.a (.a (.a Â Á) È) Á) ã rfl hu
  have LQ:A.units<cLine:=by exact Ń (ź _ _) ‹_›
  induction a using V.casesOn with
  |bool a=>
   refine ï h fun c h1 h2=>?_
   (replace h2:=ì h2;subst h2);obtain rfl:=iO h1
   subst ha;subst hb;exact⟨fun prog w E Q h=>eq_bool h,RcNeAt.bool_bool _ _⟩
  |int a=>
   refine ï h fun c h1 h2=>?_
   (replace h2:=ì h2;subst h2);obtain rfl:=iI h1
   obtain⟨t,rfl⟩:=ha;obtain⟨u,rfl⟩:=hb;exact⟨fun prog w E Q h=>PyProof.Rows.eq_int h,RcNeAt.int_int _ _ _ _⟩
  |str a=>
   refine ï h fun c h1 h2=>?_
   (replace h2:=ì h2;subst h2);obtain rfl:=iS h1
   obtain⟨t,rfl⟩:=ha;obtain⟨u,rfl⟩:=hb;have e:Ø a c=((⟨⟨a⟩⟩:Õ)==⟨⟨c⟩⟩):=by
    rw[cz,←str_beq];exact oS.mpr ⟨fun h=>beq_iff_eq.mpr (of_decide_eq_true h),fun h=>decide_eq_true (eq_of_beq h)⟩
   rw[e];exact⟨fun prog w E Q h=>PyProof.Rows.eq_str h,RcNeAt.str_str _ _ _ _⟩
  |bytes a=>
   refine ï h fun c h1 h2=>?_
   (replace h2:=ì h2;subst h2);obtain rfl:=iB h1
   obtain⟨p,t,rfl,rfl⟩:=ha;obtain⟨q,u,rfl,rfl⟩:=hb;have e:Ø (p.toList.map (·.toNat)) (q.toList.map (·.toNat))=(p.toList==q.toList):=by
    rw[cz,oS];exact⟨fun h=>beq_iff_eq.mpr (bytes_inj (of_decide_eq_true h)),fun h=>decide_eq_true (by rw[eq_of_beq h])⟩
   rw[e];exact⟨fun prog w E Q h=>eq_bytes h,fun prog w E Q h=>ne_bytes h⟩
  |tup a=>
   refine ï h fun c h1 h2=>?_;obtain rfl:=iT h1;obtain⟨hl,e,he,hr⟩:=rf h2;obtain⟨ad,o,vs,rfl,k1,q1,r1⟩:=ha;obtain⟨UN,o',us,rfl,k2,q2,r2⟩:=hb;have hs:vs.toArray.size=us.toArray.size:=r1.len.trans (hl.trans r2.len.symm);have hh:((bP (min vs.toArray.size us.toArray.size)).all e&&vs.toArray.size==us.toArray.size)=r:=by
    rw[←hs,Nat.min_self,show vs.toArray.size=a.length from r1.len,hr,beq_self_eq_true,Bool.and_true]
   have ih:=Bb B (fun h ha hb=>(IH h V6 ha hb).1) r1 r2 he;exact hh▸⟨RcAt.tuples (Base.eE k1 q1) (Base.eE k2 q2) LQ ih,RcNeAt.tuples (Base.eE k1 q1) (Base.eE k2 q2) LQ ih⟩
  |lst a=>
   refine ï h fun c h1 h2=>?_;obtain rfl:=iL h1;obtain⟨ad,o,vs,rfl,k1,q1,r1⟩:=ha;obtain⟨UN,o',us,rfl,k2,q2,r2⟩:=hb
   induction PT:ej a c using ñ with
   |true=>
    rw[PT]at h2;obtain⟨hl,e,he,hr⟩:=rf h2;have hs:vs.toArray.size=us.toArray.size:=r1.len.trans (hl.trans r2.len.symm);have hh:(bP vs.toArray.size).all e=r:=by rw[show vs.toArray.size=a.length from r1.len,hr]
    have ih:=Bb B (fun h ha hb=>(IH h V6 ha hb).1) r1 r2 he;exact hh▸⟨RcAt.lists (Base.isList k1 q1) (Base.isList k2 q2) hs LQ ih,RcNeAt.lists (Base.isList k1 q1) (Base.isList k2 q2) hs LQ ih⟩
   |false=>
    rw[PT]at h2;(replace h2:=ì h2;subst h2);rw[lg]at PT;have hs:(vs.toArray.size !=us.toArray.size)=true:=bne_iff_ne.mpr fun q=>of_decide_eq_false PT (r1.len.symm.trans (Eq.trans q r2.len))
    exact⟨RcAt.lists_lengths (Base.isList k1 q1) (Base.isList k2 q2) hs LQ,RcNeAt.lists_lengths (Base.isList k1 q1) (Base.isList k2 q2) hs LQ⟩
  |_=>exact nS h
end
end
section
set_option maxHeartbeats 4000000
open PySem.SeqAt open AutoSeq1 (wpAny_loadPart') open MeetsSeq MeetsSeq2 MeetsSeq3 SeqRoads2
theorem i5{prog:Program}{w:World}{A:Around}{E:Value→Shared→Prop}{s:Shared}{a b:Int}{t u:Tok}{Q:Value→Shared→Prop}(h:Q (.bool (decide (a<b))) s):wpAny (model prog w) A (richCompare .Lt (.int a t) (.int b u)) Q E s:=PyProof.Rows.lt_int h
theorem i6{prog:Program}{w:World}{A:Around}{E:Value→Shared→Prop}{s:Shared}{a b:Int}{t u:Tok}{Q:Value→Shared→Prop}(h:Q (.bool (decide (b≤a))) s):wpAny (model prog w) A (richCompare .GtE (.int a t) (.int b u)) Q E s:=PyProof.Rows.ge_int h
theorem g3{a b:Int}:decide (b≤a)= !decide (a<b):=by by_cases h:a<b<;>simp[h]<;>exact bO.mp ‹_›
theorem dF{M:Model}{op:CmpOp}{x y:Value}{b:Bool}{A:Around}{Q:ForInStep (Option PySem.Fin×Unit)→Shared→Prop}{E:Value→Shared→Prop}{s:Shared}(hr:∀{Q:Value→Shared→Prop} {E:Value→Shared→Prop},Q (.bool b) s→wpAny M A (richCompare op x y) Q E s)(hq:Q (.done (some (.done (.ret (.bool b))),())) s):wpAny M A (do
    rule "tuple.compare.by-the-first-pair-that-differs"
    let r ←richCompare op x y;let r ←ret r
    pure (ForInStep.done (some r,()))) Q E s:=
 wpAny_bind (wpAny_rule (wpAny_bind (hr (wpAny_bind (wpAny_pure (wpAny_pure hq))))))
theorem iW{M:Model}{a b:Int}{α:Type}{X Y:Sem α}{A:Around}{Q:α→Shared→Prop}{E:Value→Shared→Prop}{s:Shared}(h1:a=b→wpAny M A Y Q E s)(h2:a≠b→wpAny M A X Q E s):wpAny M A (if(!(a==b))=true then X else Y) Q E s:=by
 by_cases h:a=b
 ·rw[show(a==b)=true from beq_iff_eq.mpr h];exact h1 h
 ·rw[show(a==b)=false from beq_eq_false_iff_ne.mpr h];exact h2 h
theorem FC{a b:Int}{c:Bool}(h:a≠b):(Ī a b||(gI a b&&c))=decide (a<b):=by simp[Ī,gI,h]
theorem FE{a b:Int}{c:Bool}(h:a=b):(Ī a b||(gI a b&&c))=c:=by simp[Ī,gI,h]
theorem Et(l b:Addr)(a1 a2 a3 b1 b2 b3:Int)(t1 t2 t3 u1 u2 u3:Tok)(n n2:Nat):
  Meets (Builtin.«tuple.__lt__» ⟨[.ref l,.ref b],[]⟩)
   (fun A R s=>A3 (s.heap.get? l=some {cls:=.type "tuple",data:=.seq #[.int a1 t1,.int a2 t2,.int a3 t3] n}) (s.heap.get? b=some {cls:=.type "tuple",data:=.seq #[.int b1 u1,.int b2 u2,.int b3 u3] n2}) (R (.ok (.ret (.bool (Ī a1 b1||(gI a1 b1&&(Ī a2 b2||(gI a2 b2&&Ī a3 b3))))))) s)):=
 .of_wp fun prog w A R s h=>by
  obtain⟨hp,g,d,tk,os⟩:=s;obtain⟨hl,hb,h⟩:=h;have f2:=AutoSeq1.sub_tuple_tuple;wp_walk using wpAny_loadPart' hl,wpAny_loadPart' hb;refine wpAny_eqBool_int (iW (fun h1=>?_) fun h1=>dF i5 (wpAny_pure (wpAny_pure ⟨_,rfl,FC h1▸h⟩)));rw[FE h1]at h;wp_walk;refine wpAny_eqBool_int (iW (fun h2=>?_) fun h2=>dF i5 (wpAny_pure (wpAny_pure ⟨_,rfl,FC h2▸h⟩)));rw[FE h2]at h;wp_walk;refine wpAny_eqBool_int (iW (fun h3=>?_) fun h3=>dF i5 (wpAny_pure (wpAny_pure ⟨_,rfl,h⟩)));subst h3;wp_walk;refine⟨_,rfl,?_⟩
  simpa [Ī,Builtin.Tuple.tupleCompareSizes]using h
theorem Eu(l b:Addr)(a1 a2 a3 b1 b2 b3:Int)(t1 t2 t3 u1 u2 u3:Tok)(n n2:Nat):
  Meets (Builtin.«tuple.__ge__» ⟨[.ref l,.ref b],[]⟩)
   (fun A R s=>A3 (s.heap.get? l=some {cls:=.type "tuple",data:=.seq #[.int a1 t1,.int a2 t2,.int a3 t3] n}) (s.heap.get? b=some {cls:=.type "tuple",data:=.seq #[.int b1 u1,.int b2 u2,.int b3 u3] n2}) (R (.ok (.ret (.bool (!(Ī a1 b1||(gI a1 b1&&(Ī a2 b2||(gI a2 b2&&Ī a3 b3)))))))) s)):=
 .of_wp fun prog w A R s h=>by
  obtain⟨hp,g,d,tk,os⟩:=s;obtain⟨hl,hb,h⟩:=h;have f2:=AutoSeq1.sub_tuple_tuple;wp_walk using wpAny_loadPart' hl,wpAny_loadPart' hb;refine wpAny_eqBool_int (iW (fun h1=>?_) fun h1=>dF i6 (wpAny_pure (wpAny_pure ⟨_,rfl,by rw[g3,←FC h1];exact h⟩)));rw[FE h1]at h;wp_walk;refine wpAny_eqBool_int (iW (fun h2=>?_) fun h2=>dF i6 (wpAny_pure (wpAny_pure ⟨_,rfl,by rw[g3,←FC h2];exact h⟩)));rw[FE h2]at h;wp_walk;refine wpAny_eqBool_int (iW (fun h3=>?_) fun h3=>dF i6 (wpAny_pure (wpAny_pure ⟨_,rfl,by rw[g3];exact h⟩)));subst h3;wp_walk;refine⟨_,rfl,?_⟩
  simpa [Ī,Builtin.Tuple.tupleCompareSizes]using h
end
section
set_option maxHeartbeats 1000000
set_option maxRecDepth 100000
open PySem.SeqAt open AutoSeq1 (wpAny_loadPart') open MeetsSeq MeetsSeq2 MeetsSeq3 SeqRoads2
section
theorem bS{M:Model}{A:Around}{E:Value→Shared→Prop}{s:Shared}{b:Array UInt8}{t:Tok}{id:String}{Q:Option (Array UInt8)→Shared→Prop}(h:Q (some b) s):
  wpAny M A (Builtin.Bytes.buffer? id (.bytes b t)) Q E s:=wpAny_of_eq KBy.buffer_eq h
theorem iF(b:Array UInt8)(x:Int)(t u:Tok)(h0:0≤x)(h1:x<256):
  Meets (Builtin.«bytes.__contains__» ⟨[.bytes b t,.int x u],[]⟩)
   (fun A R s=>R (.ok (.ret (.bool (b.contains x.toNat.toUInt8)))) s):=
 .of_wp fun prog w A R s h=>by
  obtain⟨hp,g,d,tk,os⟩:=s;have e0:(decide (x<0)||decide (x≥256))=false:=by simp;exact⟨‹_›,‹_›⟩
  wp_walk using bS;exact⟨_,rfl,h⟩
theorem uZ:typeLookup (.type "bytes") "__index__"=pure none:=by rw[typeLookup_type,builtinLookup_eq_fast];kernel_rfl
theorem um{M:Model}{A:Around}{E:Value→Shared→Prop}{s:Shared}{Q:Option Value→Shared→Prop}(h:Q none s):
  wpAny M A (typeLookup (.type "bytes") (Str.ofString "__index__")) Q E s:=wpAny_of_eq uZ h
theorem jZ{α:Type}{M:Model}{A:Around}{E:Value→Shared→Prop}{s:Shared}{cls msg:String}{Q:α→Shared→Prop}(hp:PlainExc cls)(hh:A.handled=none)(hm:(msg:Õ).length≤sizeLine)
  (h:∀h' tk e,(∀b o,s.heap.get? b=some o→h'.get? b=some o)→s.heap.objs.size≤h'.objs.size→E (.ref e) {s with heap:=h',toks:=tk}):
  wpAny M A (raiseErrorMade cls msg:Sem α) Q E s:=by
 unfold raiseErrorMade;refine wpAny_bind (wpAny_mkStr (wpAny_bind ?_) hm);unfold newExc newTuple;refine wpAny_bind (wpAny_newObj_type ?_);refine wpAny_bind (m:=firstArgMember _ _) (wpAny_of_eq (a:=Value.none) (by simp only[firstArgMember,hp.first];rfl) ?_);rw[hp.own];refine wpAny_newObj_type ?_;unfold raiseNew;refine wpAny_bind (wpAny_handled ?_);rw[hh];refine wpAny_bind (wpAny_pure (wpAny_throw ?_));exact h _ _ _ (fun b o hb=>ō _ (ō _ hb)) (by simp only[Heap.size_push];exact ä [_] .z Â (.a (.a Â Á) Á) rfl)
theorem iE(b c:Array UInt8)(t u:Tok):
  Meets (Builtin.«bytes.__contains__» ⟨[.bytes b t,.bytes c u],[]⟩)
   (fun A R s=>A.handled=none∧∀h' tk,(∀b o,s.heap.get? b=some o→h'.get? b=some o)→R (.ok (.ret (.bool (Builtin.Bytes.find? b c 0 b.size).isSome))) {s with heap:=h',toks:=tk}):=
 .of_wp fun prog w A R s h=>by
  obtain⟨hp,g,d,tk,os⟩:=s;wp_walk using um;refine jZ plainExc_TypeError h.1 (by decide+kernel) fun h' kW e k1 k2=>?_;wp_walk using bS;exact⟨_,rfl,h.2 h' kW k1⟩
variable{st:St}{H H':List Cell}
def LG(s:Shared)(h':Heap):Prop:=∀b o,s.heap.get? b=some o→h'.get? b=some o
theorem LG.refl(s:Shared):LG s s.heap:=fun À À e=>e
theorem Base.KQ(B:Base Z g s H){h':Heap}(G:LG s h')(t:Nat):Base Z g {s with heap:=h',toks:=t} H:=
 B.gen (h':=h') (fun À=>False) (fun À d=>d.elim) (fun b o À e=>G b o e) (fun À À=>rfl) (fun À d=>d.elim) B.len (fun À À e=>e) fun À À e=>.inl ⟨e,fun À d=>d.elim⟩
theorem Inv.KQ(I:Inv Z cx g s st){h':Heap}(G:LG s h')(t:Nat):Inv Z cx g {s with heap:=h',toks:=t} st:=I.next (.refl g) (fun b o e=>G b o e) (I.base.KQ G t)
theorem iC{b:Array UInt8}{l:List Nat}(h:b.toList.map (·.toNat)=l)(x:Nat)(hx:x<256):b.contains x.toUInt8=l.any (Þ x):=by
 subst h;rw[oS,Array.contains_iff_mem,List.any_eq_true];constructor
 ·intro m;refine⟨x,dT.mpr ⟨x.toUInt8,Array.mem_toList_iff.mpr m,?_⟩,jN x⟩
  simpa using hx
 ·rintro ⟨y,hy,e⟩
  obtain rfl:=Ģ e;obtain⟨c,hc,e⟩:=dT.mp hy;have:x.toUInt8=c:=by rw[←e];exact UInt8.toNat_inj.mp (by simp)
  rw[this];exact Array.mem_toList_iff.mp hc
theorem B5{b c:Array UInt8}{l:List Nat}{x:Nat}(h:b.toList.map (·.toNat)=l)(hc:c.toList.map (·.toNat)=[x]):(Builtin.Bytes.find? b c 0 b.size).isSome=l.any (Þ x):=by
 obtain⟨y,rfl,rfl⟩:∃y:UInt8,c= #[y]∧y.toNat=x:=by
  obtain⟨c⟩:=c
  induction c using Ū with
  |nil=>exact nN hc
  |cons y r=>induction r using Ū with
   |nil=>exact⟨y,rfl,by simpa using hc⟩
   |cons z r=>simp at hc
 subst h;unfold Builtin.Bytes.find?;rw[oS,List.find?_isSome,List.any_eq_true];constructor
 ·rintro ⟨i,hi,e⟩
  have e:b.extract i (i+1)= #[y]:=eq_of_beq e;have hy:y∈b:=by
   have:y∈b.extract i (i+1):=by rw[e];simp
   obtain⟨j,hj,e⟩:=Array.mem_extract_iff_getElem.mp this;exact e▸Array.getElem_mem _
  exact⟨y.toNat,dT.mpr ⟨y,Array.mem_toList_iff.mpr hy,rfl⟩,jN _⟩
 ·rintro ⟨n,hn,e⟩
  obtain⟨z,hz,e'⟩:=dT.mp hn;have:y=z:=UInt8.toNat_inj.mp ((Ģ e).trans e'.symm);subst this;obtain⟨i,hi,e⟩:=List.getElem_of_mem hz;have hi:i<b.size:=by simpa using hi
  refine⟨i,?_,?_⟩
  ·simp;assumption
  ·have:b.extract i (i+1)= #[y]:=by
    apply Array.ext';simp[Array.toList_extract];rw[Hw (by simpa using hi)];simp at e;simp[e]
   simp[this]
theorem Ok.KQ(C:Ok Z d cx A env g s st){h':Heap}(G:LG s h')(t:Nat):Ok Z d cx A env g {s with heap:=h',toks:=t} st:=C.to (.refl g) (C.i.KQ G t)
theorem jd:∀{p l:List Nat},lY p l=true↔l.take p.length=p
 |[],l=>by simp[lY]
 |_::_,[]=>by simp[lY]
 |a::r,b::t=>by
  rw[lY,ar,jd,Ă,List.take_succ_cons,List.cons.injEq];refine and_congr ⟨fun h=>(Ģ h).symm,fun h=>by subst h;exact jN _⟩ Iff.rfl
theorem yJ{p:List Nat}{l:List Nat}:ř p l=true↔∃i,i≤l.length∧(l.drop i).take p.length=p:=by
 induction l generalizing p with
 |nil=>
  rw[ř,jd];exact⟨fun h=>⟨0,Ų _,h⟩,fun ⟨i,_,h⟩=>by simpa using h⟩
 |cons b t IH=>
  rw[ř,Bool.or_eq_true,jd,IH];constructor
  ·rintro (h|⟨i,hi,h⟩)
   ·exact⟨0,Nat.zero_le _,h⟩
   ·exact⟨i+1,Nat.succ_le_succ hi,h⟩
  ·rintro ⟨i,hi,h⟩
   induction i using mM with
   |zero=>exact .inl h
   |succ i=>exact .inr ⟨i,Nat.le_of_succ_le_succ hi,h⟩
theorem oh(p l:List Nat):(!(Builtin.Str.occurrences ⟨⟨l⟩⟩ ⟨⟨p⟩⟩ 0 (⟨⟨l⟩⟩:Õ).length 1).isEmpty)=ř p l:=by
 rw[oS];refine(PySem.StrLaws.found_iff ⟨⟨l⟩⟩ ⟨⟨p⟩⟩).trans (Iff.trans ?_ yJ.symm);have hx:(⟨⟨l⟩⟩:Õ).length=l.length:=rfl;have hy:(⟨⟨p⟩⟩:Õ).length=p.length:=rfl;rw[hx,hy];have key:∀i,(Builtin.Str.subAt ⟨⟨l⟩⟩ ⟨⟨p⟩⟩ i=true)↔(l.drop i).take p.length=p:=fun i=>by
  unfold Builtin.Str.subAt;rw[beq_iff_eq,hy];show(Array.mk l).extract i (i+p.length)=Array.mk p↔_;rw[←Array.toList_inj];simp
 constructor
 ·rintro ⟨i,h1,h2⟩;exact⟨i,by exact ă (ź _ _) ‹_›,(key i).mp h2⟩
 ·rintro ⟨i,h1,h2⟩
  refine⟨i,?_,(key i).mpr h2⟩;have:=congrArg oQ h2;rw[oP,sJ]at this;exact Nat.add_le_of_le_sub' h1 (ă (Ņ this.symm) (Nat.min_le_right _ _))
open Classical in
def vy(Y:Sta)(k:FH)(b:V)(y:Value):Bool:=decide (Rep Y k b y)
theorem kN{Y:Sta}{k:FH}{b v:V}{y:Value}{q:Bool}(hr:Rep Y k v y)(hq:gN v b=some q):vy Y k b y=q:=by
 induction q using ñ with
 |true=>obtain rfl:=xW 8 hq;exact @decide_eq_true _ (_) hr
 |false=>exact @decide_eq_false _ (_) fun h=>by cases iQ 8 hq hr h
theorem pE{x:V}:∀{l:List V} {r:Bool},e_ x l=some r→∀v∈l,∃q,gN v x=some q
 |[],_,_,v,hv=>by cases hv
 |y::t,r,h,v,hv=>by
  refine ï h fun p h1 h=>?_;refine ï h fun q h2 h=>?_;rcases Ą.mp hv with rfl|hv
  ·exact⟨_,h1⟩
  ·exact pE h2 v hv
theorem ß.mem{Y:Sta}{k:FH}:∀{l:List V} {xs:List Value},ß Y k l xs→∀y∈xs,∃v∈l,Rep Y k v y
 |[],_,h,y,hy=>by subst h;cases hy
 |d::l,_,q,y,hy=>by
  obtain⟨v,r,rfl,h1,h2⟩:=q;rcases Ą.mp hy with rfl|hy
  ·exact⟨d,ŭ,h1⟩
  ·obtain⟨v,hv,h⟩:=ß.mem h2 y hy;exact⟨v,ŧ _ hv,h⟩
theorem Lr{Y:Sta}{k:FH}{b:V}{l:List V}{xs:List Value}{r:Bool}(h:e_ b l=some r)(q:ß Y k l xs):xs.any (vy Y k b)=r:=by
 induction l generalizing xs r with
 |nil=>
  subst q;(replace h:=ì h;subst h);rfl
 |cons y t IH=>
  obtain⟨v,r',rfl,h1,h2⟩:=q;refine ï h fun p e1 h=>?_;refine ï h fun q e2 h=>?_
  (replace h:=ì h;subst h)
  rw[ij,kN h1 e1,IH e2 h2]
theorem Bz(B:Base Z g s H){l:List V}{xs:List Value}{b:V}{x:Value}{r:Bool}{A:Around}(hu:A.units+20<cLine)(hr:ß Z.toSta g.k l xs)(hb:Rep Z.toSta g.k b x)(h:e_ b l=some r):
  (∀y,y∈xs.toArray→EqAt A.in1 s y x (vy Z.toSta g.k b y))∧xs.toArray.any (vy Z.toSta g.k b)=r:=by
 refine⟨fun y hy=>?_,(List.any_toArray ..).trans (Lr h hr)⟩;obtain⟨v,hv,h1⟩:=hr.mem y (List.mem_toArray.mp hy);obtain⟨q,hq⟩:=pE h v hv;rw[kN h1 hq];exact EqAt.of_rc (Ak B 8 hq (by rw[in1_units];exact ä [_,_] (.c (.a (.a Â ť) Á) È .z) (.a (.a (.a Â Á) (.n 8)) Á) È rfl hu) (Rep.sX B h1) (Rep.sX B hb)).1 h1.vk.wL fun e=>iQ 8 hq h1 (e▸hb)
theorem tN{h:Heap}{k:FH}{Y:Sta}{v:V}{x:Value}(ha:isAtom v=true)(hx:ś Y h k v x):Rep Y k v x:=by
 induction v using V.casesOn<;>first|exact hx|exact â ha
theorem lH:∀{a b:List Nat},qg a b=decide (a<b)
 |[],[]=>rfl
 |[],_::_=>rfl
 |_::_,[]=>rfl
 |a::r,b::t=>by
  rw[qg,lH,oS];simp only[Bool.or_eq_true,ar,bQ,Nat.beq_eq,decide_eq_true_eq,List.cons_lt_cons_iff]
structure vY(Z:Ě)(A:Around)(g:Gh)(s:Shared)(H:List Cell):Prop where
 hd:A.handled=none
 u:A.units+20<cLine
 b:Base Z g s H
abbrev uf(s:Shared)(r:Bool)(Q:Value→Shared→Prop):Prop:=∀h' t,LG s h'→Q (.bool r) {s with heap:=h',toks:=t}
theorem uf.now{r:Bool}{Q:Value→Shared→Prop}(h:uf s r Q):Q (.bool r) s:=h s.heap s.toks (.refl s)
def vW(prog:Program)(w:World)(A:Around)(s:Shared)(x y:Value)(r:Bool)(E:Value→Shared→Prop):Prop:=∀Q:Value→Shared→Prop,(uf s r Q→õ prog w A (compareOp .In x y) Q E s)∧(uf s (!r) Q→õ prog w A (compareOp .NotIn x y) Q E s)
theorem By(M:vY Z A g s H){a:V}{l:List V}{r:Bool}{x y:Value}{E}(hx:ś Z.toSta s.heap g.k a x)(h:(if isAtom a then e_ a l else none)=some r)(hy:ś Z.toSta s.heap g.k (.tup l) y∨ś Z.toSta s.heap g.k (.lst l) y):vW prog w A s x y r E:=by
 (have ha:=cy h;have h:=cn h)
 intro Q;rcases hy with⟨ad,o,vs,rfl,k1,q1,r1⟩|⟨ad,o,vs,rfl,k1,q1,r1⟩
 ·have:=Bz M.b M.u r1 (tN ha hx) h;rw[←this.2];exact⟨fun hq=>in_tupleAt _ (Base.eE k1 q1) this.1 hq.now,fun hq=>notIn_tupleAt _ (Base.eE k1 q1) this.1 hq.now⟩
 ·have:=Bz M.b M.u r1 (tN ha hx) h;rw[←this.2];exact⟨fun hq=>in_listAt _ (Base.isList k1 q1) this.1 hq.now,fun hq=>notIn_listAt _ (Base.isList k1 q1) this.1 hq.now⟩
theorem BA(M:vY Z A g s H){a:V}{l:List Nat}{r:Bool}{x y:Value}{E}(hx:ś Z.toSta s.heap g.k a x)(hy:Pf l y)(h:isIn a (.bytes l)=some r):vW prog w A s x y r E:=by
 obtain⟨b,u,rfl,e2⟩:=hy;intro Q
 induction a using V.casesOn with
 |bytes q=>
  refine ï h fun c h1 h=>?_
  (replace h:=ì h;subst h);cases i1 h1
  obtain⟨p,t,rfl,e1⟩:=hx;have e:=B5 e2 e1;exact⟨fun hq=>in_meets (typeIs_bytes s b u) FB.slot_bytes_contains FB.entry_bytes_contains (FB.args_bytes_contains_2 _ _) (iE b p u t) ⟨M.hd,fun h' tk k=>⟨_,rfl,by rw[e];exact hq h' tk k⟩⟩,
   fun hq=>notIn_meets (typeIs_bytes s b u) FB.slot_bytes_contains FB.entry_bytes_contains (FB.args_bytes_contains_2 _ _) (iE b p u t) ⟨M.hd,fun h' tk k=>⟨_,rfl,by rw[e];exact hq h' tk k⟩⟩⟩
 |int i=>
  (have h1:=cy h;have h:=cn h)
  (have h2:=aB h1;have h1:=aC h1)
  have h1:=gS h1;have h2:=bD h2
  (replace h:=ì h;subst h);obtain⟨t,rfl⟩:=hx
  have e:=iC e2 i.toNat ((Int.toNat_lt h1).mpr h2);exact⟨fun hq=>in_meets (typeIs_bytes s b u) FB.slot_bytes_contains FB.entry_bytes_contains (FB.args_bytes_contains_2 _ _) (iF b _ u t h1 h2) ⟨_,rfl,by rw[e];exact hq.now⟩,
   fun hq=>notIn_meets (typeIs_bytes s b u) FB.slot_bytes_contains FB.entry_bytes_contains (FB.args_bytes_contains_2 _ _) (iF b _ u t h1 h2) ⟨_,rfl,by rw[e];exact hq.now⟩⟩
 |_=>exact nS h
theorem w_(M:vY Z A g s H){a b:V}{r:Bool}{x y:Value}{E}(hx:ś Z.toSta s.heap g.k a x)(hy:ś Z.toSta s.heap g.k b y)(h:isIn a b=some r):vW prog w A s x y r E:=by
 induction b using V.casesOn with
 |str m=>
  refine ï h fun l h1 h=>?_
  (replace h:=ì h;subst h);cases iS h1
  obtain⟨t,rfl⟩:=hx;obtain⟨u,rfl⟩:=hy;exact fun Q=>⟨fun hq=>PyProof.Rows.in_str (by rw[oh];exact hq.now),fun hq=>PyProof.Rows.notIn_str (by rw[oh];exact hq.now)⟩
 |bytes m=>exact BA M hx hy h
 |tup l=>exact By M hx h (.inl hy)
 |lst l=>exact By M hx h (.inr hy)
 |_=>exact nS h
inductive VA(h:Heap)(p:Int×Int×Int)(x:Value):Prop
 |mk (l:Addr) (t1 t2 t3:Tok) (n:Nat) (e:x=.ref l) (q:h.get? l=some {cls:=.type "tuple",data:=.seq #[.int p.1 t1,.int p.2.1 t2,.int p.2.2 t3] n})
theorem GB{l:List V}{p:Int×Int×Int}{x:Value}{Y:Sta}{h:Heap}{k:FH}(hx:ś Y h k (.tup l) x)(q:days l=some p):VA h p x:=by
 refine ï q fun u h0 q=>?_;refine ï q fun a h1 q=>?_;refine ï q fun b h2 q=>?_;refine ï q fun c h3 q=>?_
 (replace q:=ì q;subst q)
 rw[i3 h0,iI h1,iI h2,iI h3]at hx;obtain⟨ad,o,vs,rfl,k1,⟨n,rfl⟩,r⟩:=hx;obtain⟨_,_,rfl,⟨t1,rfl⟩,r⟩:=r;obtain⟨_,_,rfl,⟨t2,rfl⟩,r⟩:=r;obtain⟨_,_,rfl,⟨t3,rfl⟩,r⟩:=r;subst r;exact⟨ad,t1,t2,t3,n,rfl,k1⟩
theorem M_(M:vY Z A g s H){a b:V}{r:Bool}{x y:Value}{Q E}(hx:ś Z.toSta s.heap g.k a x)(hy:ś Z.toSta s.heap g.k b y)(h:cmp 2 a b=some r)(hq:Q (.bool r) s):õ prog w A (compareOp .Lt x y) Q E s:=by
 induction a using V.casesOn with
 |int i=>
  refine ï h fun j h1 h=>?_
  (replace h:=ì h;subst h);cases iI h1
  obtain⟨t,rfl⟩:=hx;obtain⟨u,rfl⟩:=hy;exact PyProof.Rows.lt_int hq
 |tup l=>
  refine ï h fun m h1 h=>?_;cases iT h1;refine ï h fun p h2 h=>?_;refine ï h fun q h3 h=>?_
  (replace h:=ì h;subst h)
  obtain⟨la,t1,t2,t3,n,rfl,k1⟩:=GB hx h2;obtain⟨lb,u1,u2,u3,n',rfl,k2⟩:=GB hy h3;exact richCompare_meets_room (op:=.Lt) ⟨_,k1,rfl⟩ ⟨_,k2,rfl⟩ F.slot_tuple_lt F.entry_tuple_lt (F.args_tuple_lt_2 _ _) (Et la lb p.1 p.2.1 p.2.2 q.1 q.2.1 q.2.2 t1 t2 t3 u1 u2 u3 n n') ⟨k1,k2,(fun q=>neT PySem.Value.ctorIdx q rfl),hq⟩ (by have:=M.u;exact Ń (ź _ _) ‹_›)
 |_=>exact nS h
theorem Og(M:vY Z A g s H){a b:V}{r:Bool}{x y:Value}{Q E}(hx:ś Z.toSta s.heap g.k a x)(hy:ś Z.toSta s.heap g.k b y)(h:cmp 5 a b=some r)(hq:Q (.bool r) s):õ prog w A (compareOp .GtE x y) Q E s:=by
 induction a using V.casesOn with
 |int i=>
  refine ï h fun j h1 h=>?_
  (replace h:=ì h;subst h);cases iI h1
  obtain⟨t,rfl⟩:=hx;obtain⟨u,rfl⟩:=hy;exact PyProof.Rows.ge_int hq
 |tup l=>
  refine ï h fun m h1 h=>?_;cases iT h1
  (refine cJ h fun À h' zq=>?_;obtain rfl:=zq)
  refine ï h' fun p h2 h'=>?_;refine ï h' fun q h3 h'=>?_
  (replace h':=ì h';subst h')
  obtain⟨la,t1,t2,t3,n,rfl,k1⟩:=GB hx h2;obtain⟨lb,u1,u2,u3,n',rfl,k2⟩:=GB hy h3;exact richCompare_meets_room (op:=.GtE) ⟨_,k1,rfl⟩ ⟨_,k2,rfl⟩ F.slot_tuple_ge F.entry_tuple_ge (F.args_tuple_ge_2 _ _) (Eu la lb p.1 p.2.1 p.2.2 q.1 q.2.1 q.2.2 t1 t2 t3 u1 u2 u3 n n') ⟨k1,k2,(fun q=>neT PySem.Value.ctorIdx q rfl),hq⟩ (by have:=M.u;exact Ń (ź _ _) ‹_›)
 |_=>exact nS h
theorem Ng{a b:V}{r:Bool}{x y:Value}{Q E}(hx:ś Z.toSta s.heap g.k a x)(hy:ś Z.toSta s.heap g.k b y)(h:cmp 3 a b=some r)(hq:Q (.bool r) s):õ prog w A (compareOp .LtE x y) Q E s:=by
 induction a using V.casesOn with
 |int i=>
  refine ï h fun j h1 h=>?_
  (replace h:=ì h;subst h);cases iI h1
  obtain⟨t,rfl⟩:=hx;obtain⟨u,rfl⟩:=hy;exact PyProof.Rows.le_int hq
 |str l=>
  refine ï h fun m h1 h=>?_
  (replace h:=ì h;subst h);cases iS h1
  obtain⟨t,rfl⟩:=hx;obtain⟨u,rfl⟩:=hy;rw[lH]at hq;exact PySem.P.le_str hq
 |_=>exact nS h
theorem w9{a:V}{x:Value}{h:Heap}{k:FH}{Y:Sta}(hx:ś Y h k a x):(x==Value.none)=ip a:=by
 induction hx.vk using VK.casesOn with
 |none e q=>subst e q;rfl
 |bool b e=>subst e;induction a using V.casesOn<;>first|rfl|exact neT PySem.Value.ctorIdx hx rfl
 |int b t e=>subst e;induction a using V.casesOn<;>first|rfl|exact neT PySem.Value.ctorIdx hx rfl
 |str b t e=>subst e;induction a using V.casesOn<;>first|rfl|exact neT PySem.Value.ctorIdx hx rfl
 |bytes b t e=>subst e;induction a using V.casesOn<;>first|rfl|exact neT PySem.Value.ctorIdx hx rfl
 |ref b e=>subst e;induction a using V.casesOn<;>first|rfl|exact neT PySem.Value.ctorIdx hx rfl
theorem Ld(M:vY Z A g s H){o:CmpOp}{a b:V}{r:Bool}{x y:Value}{Q:Value→Shared→Prop}{E}(hx:ś Z.toSta s.heap g.k a x)(hy:ś Z.toSta s.heap g.k b y)
  (h:cmp (tB o) a b=some r)(hq:uf s r Q):õ prog w A (compareOp o x y) Q E s:=by
 have hu:A.units+8<cLine:=Ń (Kj (by decide) _) M.u
 induction o using PySem.CmpOp.casesOn with
 |Eq=>exact(Ak M.b 8 h hu hx hy).1 prog w E Q hq.now
 |NotEq=>(refine cJ h fun q h' zq=>?_;obtain rfl:=zq);exact(Ak M.b 8 h' hu hx hy).2 prog w E Q hq.now
 |Lt=>exact M_ M hx hy h hq.now
 |LtE=>exact Ng hx hy h hq.now
 |Gt=>
  refine ï h fun i h1 h=>?_;refine ï h fun j h2 h=>?_
  (replace h:=ì h;subst h);cases iI h1;cases iI h2
  obtain⟨t,rfl⟩:=hx;obtain⟨u,rfl⟩:=hy;exact PyProof.Rows.gt_int hq.now
 |GtE=>exact Og M hx hy h hq.now
 |Is=>
  (have h1:=cy h;have h:=cn h)
  (replace h:=ì h;subst h)
  obtain rfl:=PK h1;subst hy;exact is_none (by rw[w9 hx];exact hq.now)
 |IsNot=>
  (have h1:=cy h;have h:=cn h)
  (replace h:=ì h;subst h)
  obtain rfl:=PK h1;subst hy;exact isNot_none (by rw[w9 hx];exact hq.now)
 |In=>exact(w_ M hx hy h Q).1 hq
 |NotIn=>(refine cJ h fun q h' zq=>?_;obtain rfl:=zq);exact(w_ M hx hy h' Q).2 hq
theorem xv(l:List Nat):(((⟨⟨l⟩⟩:Õ).length:Int)!=0)= !l.isEmpty:=by
 induction l using Ū with
 |nil=>rfl
 |cons x r=>exact bne_iff_ne.mpr (fun e=>by cases e)
theorem kS{k:FH}{Y:Sta}{a:V}{b:Bool}{x:Value}{Q:Bool→Shared→Prop}{E}(hx:ś Y s.heap k a x)
  (h:truth a=some b)(hq:∀t,Q b {s with toks:=t}):õ prog w A (truthy x) Q E s:=by
 induction a using V.casesOn with
 |bool c=>(replace h:=ì h;subst h);subst hx;exact wpAny_truthy_bool (hq s.toks)
 |none=>(replace h:=ì h;subst h);subst hx;exact truthy_none (hq s.toks)
 |int i=>(replace h:=ì h;subst h);obtain⟨t,rfl⟩:=hx;exact PyProof.Rows.truthy_int (hq s.toks)
 |str l=>
  (have h1:=cy h;have h:=cn h)
  (replace h:=ì h;subst h);obtain⟨t,rfl⟩:=hx
  have:=ĥ h1;exact PySem.P.truthy_str (show ¬((l.length:Nat):Int)≥2^63 from Int.not_le.mpr (bw.mpr (oO this (show 1000000<2^63 by decide)))) (by rw[xv];exact hq _)
 |bytes l=>
  (have h1:=cy h;have h:=cn h)
  (replace h:=ì h;subst h);obtain⟨c,t,rfl,rfl⟩:=hx
  have:=ĥ h1;rw[Ė]at this;have hl:c.size=c.toList.length:=rfl;refine truthy_bytes (by exact aV (ik ‹_› (by decide))) ?_;have e:((c.size:Int)!=0)= !(c.toList.map (·.toNat)).isEmpty:=by rw[←xv,show(⟨⟨c.toList.map (·.toNat)⟩⟩:Õ).length=c.size from Ė ..]
  rw[e];exact hq _
 |lst l=>
  (have h1:=cy h;have h:=cn h)
  (replace h:=ì h;subst h)
  obtain⟨ad,o,vs,rfl,k1,q1,r1⟩:=hx;have:=ĥ h1;have hl:=r1.len;refine wpAny_truthy_list (Base.isList k1 q1) (bw.mpr (oO (Ń (Ņ (Ź.trans hl)) this) (show 1000000<2^63 by decide))) ?_;have e:vs.toArray.isEmpty=l.isEmpty:=by
   induction l using Ū with
   |nil=>subst r1;rfl
   |cons=>obtain⟨_,_,rfl,_⟩:=r1;rfl
  rw[e];exact hq _
 |_=>exact nS h
end
end
section
section
variable(prog:Program)(w:World)(Z:Ě)
noncomputable abbrev km(ifs:List Expr)(env:Env)(b:Bool):Sem Bool:=forIn ifs b fun c r=>if r=true then do let ok ←isTrue c env (eval c env);pure (ForInStep.yield ok)else pure (ForInStep.yield r)
structure jY(d:Nat)(q:Bool)(es:List PE)(st Ċ:St)(b:Bool):Prop where
 t:∀cx xs o env A g s Q E,(o==BoolOp.And)=q→fc cx xs=es→Ok Z d cx A env g s st→mH Z d cx A env g Ċ (Q b)→õ prog w A (allTrue o xs env) Q E s
 l:∀cx xs env A g s Q E,q=true→fc cx xs=es→Ok Z d cx A env g s st→mH Z d cx A env g Ċ (Q b)→õ prog w A (km xs env true) Q E s
def zm(d:Nat)(v:V)(ops:List Nat)(es:List PE)(st Ċ:St)(r:Bool):Prop:=∀cx os xs env A g s x E pos,os.map tB=ops→fc cx xs=es→xs.any isSet=false→Ok Z d cx A env g s st→ć Z g v x→
 (∀Q,mH Z d cx A env g Ċ (Q (.bool r))→õ prog w A (compareChain pos x os (markedEach os xs (evalEach xs env))) Q E s)∧
  (∀Q,mH Z d cx A env g Ċ (Q r)→õ prog w A (testChain pos x os (markedEach os xs (evalEach xs env))) Q E s)
def CW(d:Nat)(q:Bool)(es:List PE)(st Ċ:St)(v:V):Prop:=∀cx xs o env A g s Q E pos,(o==BoolOp.And)=q→fc cx xs=es→Ok Z d cx A env g s st→Iu Z d cx A env g Ċ v Q→õ prog w A (boolOp pos o (evalEach xs env)) Q E s
end
variable{st Ċ S Å Í:St}{H H':List Cell}{ρ κ:List (Option V)}{v x y x' y' v':V}{vs:List V}{e a b t:PE}{es:List PE}{q p:Bool}
theorem Iu.mono{Q:Value→Shared→Prop}(h:Iu Z d cx A env g st v Q)(G:Gst g g'):Iu Z d cx A env g' st v Q:=fun À À À G'=>h _ _ _ (G.trans G')
theorem mH.mono{Q:Shared→Prop}(h:mH Z d cx A env g st Q)(G:Gst g g'):mH Z d cx A env g' st Q:=fun À À G'=>h _ _ (G.trans G')
theorem Ok.view(C:Ok Z d cx A env g s st){v v':V}{x:Value}(hv:ć Z g v x)(h:view st.H v=some v'):ś Z.toSta s.heap g.k v' x:=xU C.base hv h
theorem Ok.cmp(C:Ok Z d cx A env g s st):vY Z A g s st.H:=⟨C.r.hd,by have:=C.r.units;exact ä [_,_,_] (.c (.a (.a (.a Â (.m 20 ã)) bL) Á) È .z) (.a (.a Â ť) Á) È rfl this,C.base⟩
theorem Js:ĺ prog w Z d [] S S []:=by
 intro cx xs env A g s Q E pos hx hp C hq;obtain rfl:=gi hx;exact wpAny_items_nil (hq g s [] (.refl g) C rfl)
theorem ez{x:Expr}{r:List Expr}(h:plain (x::r)=true):isStar x=false∧plain r=true:=by
 unfold plain at h;rw[gH]at h;exact⟨nn (oa h).1,(oa h).2⟩
theorem nM{x:Expr}{r:List Expr}(h:isStar x=false):starEach (x::r) env=(false,eval x env)::starEach r env:=by
 induction x using PySem.Expr.casesOn<;>first|rfl|exact ĕ h
theorem Jt(h1:Ű prog w Z d e S Å v)(h2:ĺ prog w Z d es Å Í vs):ĺ prog w Z d (e::es) S Í (v::vs):=by
 intro cx xs env A g s Q E pos hx hp C hq;obtain⟨x,r,rfl,e1,e2⟩:=ž hx;obtain⟨p1,p2⟩:=ez hp;refine wpAny_items_cons ?_ (nM p1);refine h1 _ _ _ _ _ _ _ _ e1 C fun Ü ò ŵ Ñ Ï ô=>?_;refine h2 _ _ _ _ _ _ _ _ _ e2 p2 Ï fun ó Ļ xX ù è ů=>?_;exact hq _ _ _ (Ñ.trans ù) è ⟨_,_,rfl,ô.mono ù,ů⟩
theorem jv{Q:Bool→Shared→Prop}{E:Value→Shared→Prop}:∀(es:List Expr),Q false s→õ prog w A (km es env false) Q E s
 |[],h=>wpAny_pure h
 |e::r,h=>by
  show wpAny _ A (forIn (e::r) false _) Q E s;rw[List.forIn_cons];exact wpAny_bind (wpAny_pure (jv r h))
theorem Jm:jY prog w Z d q [] S S q where
 t cx xs o env A g s Q E ho hx C hq:=by
  obtain rfl:=gi hx;subst ho
  induction o using PySem.BoolOp.casesOn
  ·exact wpAny_allTrue_And_nil (hq g s (.refl g) C)
  ·exact wpAny_allTrue_Or_nil (hq g s (.refl g) C)
 l cx xs env A g s Q E ho hx C hq:=by
  obtain rfl:=gi hx;subst ho;exact wpAny_pure (hq g s (.refl g) C)
theorem Jn{u:Bool}(h1:gy prog w Z d e S Å p)(h2:p=q→jY prog w Z d q es Å Í u)(h3:p=(!q)→(Í,u)=(Å,p)):jY prog w Z d q (e::es) S Í u where
 t cx xs o env A g s Q E ho hx C hq:=by
  obtain⟨x,r,rfl,e1,e2⟩:=ž hx;subst ho
  induction o using PySem.BoolOp.casesOn
  ·refine wpAny_allTrue_And_cons (h1 _ _ _ _ _ _ _ _ e1 C fun Ü ò Ñ Ï=>?_)
   induction p using ñ
   ·cases h3 rfl;exact hq _ _ Ñ Ï
   ·exact(h2 rfl).t _ _ _ _ _ _ _ _ _ rfl e2 Ï (hq.mono Ñ)
  ·refine wpAny_allTrue_Or_cons (h1 _ _ _ _ _ _ _ _ e1 C fun Ü ò Ñ Ï=>?_)
   induction p using ñ
   ·exact(h2 rfl).t _ _ _ _ _ _ _ _ _ rfl e2 Ï (hq.mono Ñ)
   ·cases h3 rfl;exact hq _ _ Ñ Ï
 l cx xs env A g s Q E ho hx C hq:=by
  obtain⟨x,r,rfl,e1,e2⟩:=ž hx;subst ho;show wpAny _ A (forIn (x::r) true _) Q E s;rw[List.forIn_cons];refine wpAny_bind (wpAny_bind (h1 _ _ _ _ _ _ _ _ e1 C fun Ü ò Ñ Ï=>wpAny_pure ?_))
  induction p using ñ
  ·cases h3 rfl;exact jv r (hq _ _ Ñ Ï)
  ·exact(h2 rfl).l _ _ _ _ _ _ _ _ rfl e2 Ï (hq.mono Ñ)
theorem MN(h1:Ű prog w Z d e S Å v):CW prog w Z d q [e] S Å v:=by
 intro cx xs o env A g s Q E pos ho hx C hq;obtain⟨x,r,rfl,e1,e2⟩:=ž hx;obtain rfl:=gi e2;exact h1 _ _ _ _ _ _ _ _ e1 C hq
theorem MM{u:V}(h1:Ű prog w Z d e S ⟨H,ρ,κ⟩ v)(h2:view H v=some v')(h3:truth v'=some p)(h4:p=q→CW prog w Z d q (a::es) ⟨H,ρ,κ⟩ Í u)(h5:p=(!q)→(Í,u)=(⟨H,ρ,κ⟩,v)):CW prog w Z d q (e::a::es) S Í u:=by
 intro cx xs o env A g s Q E pos ho hx C hq;obtain⟨x,r,rfl,e1,e2⟩:=ž hx;obtain⟨y,r,rfl,_,_⟩:=ž e2;subst ho;show õ prog w A (do
  let v ←eval x env
  standAt pos
  let t ←holding [v] (truthy v)
  match o,t with
  |.And,false|.Or,true=>pure v
  |_,_=>boolOp pos o (evalEach (y::r) env)) Q E s
 refine wpAny_bind (h1 _ _ _ _ _ _ _ _ e1 C fun Ü ò ŵ Ñ Ï ô=>?_);refine wpAny_bind (wpAny_standAt (wpAny_bind (wpAny_holding ?_)));refine kS (Ï.view ô h2) h3 fun t=>?_
 induction o using PySem.BoolOp.casesOn<;>induction p using ñ
 ·cases h5 rfl;exact wpAny_pure (hq _ _ _ Ñ (Ï.toks t) ô)
 ·exact h4 rfl _ _ _ _ _ _ _ _ _ _ rfl e2 (Ï.toks t) (hq.mono Ñ)
 ·exact h4 rfl _ _ _ _ _ _ _ _ _ _ rfl e2 (Ï.toks t) (hq.mono Ñ)
 ·cases h5 rfl;exact wpAny_pure (hq _ _ _ Ñ (Ï.toks t) ô)
theorem qk{o:CmpOp}{e:Expr}{t:Sem Value}(h:isSet e=false):markedBehindIn o e t=t:=by
 refine markedBehindIn_of_false ?_
 induction e using PySem.Expr.casesOn<;>first|rfl|exact ĕ h
theorem qZ{M:Model}{A:Around}{E:Value→Shared→Prop}{s:Shared}{vs:List Value}{m:Sem Value}{Q:Value→Shared→Prop}(h:wpAny M A m Q E s):wpAny M A (operate vs m) Q E s:=
 fun Γ p V5=>by rw[Sem.wp_operate];exact h Γ p V5
theorem dD{M:Model}{A:Around}{E:Value→Shared→Prop}{s:Shared}{vs ks:List Value}{Q:Unit→Shared→Prop}(h:Q () s):wpAny M A (release vs ks) Q E s:=
 fun Γ p V5=>by rw[Sem.wp_release];exact h
theorem iD{n:Nat}{o:CmpOp}{z:Expr}{u:Value}{E:Value→Shared→Prop}{Q:Value→Value→Shared→Prop}(h1:Ű prog w Z d e S ⟨H,ρ,κ⟩ y)(h2:view H x=some x')(h3:view H y=some y')(h4:cmp n x' y'=some q)(ho:tB o=n)(hz:er cx z=e)(C:Ok Z d cx A env g s S)(hx:ć Z g x u)
  (hq:∀Ü ò ŵ,Gst g Ü→Ok Z d cx A env Ü ò ⟨H,ρ,κ⟩→ć Z Ü y ŵ→Q ŵ (.bool q) ò):õ prog w A (eval z env) (fun ŵ ò=>õ prog w A (compareOp o u ŵ) (Q ŵ) E ò) E s:=by
 refine h1 _ _ _ _ _ _ _ _ hz C fun Ü ò ŵ Ñ Ï ô=>?_;refine Ld Ï.cmp (Ï.view (hx.mono Ñ) h2) (Ï.view ô h3) (ho▸h4) fun h' t k=>?_;exact hq _ _ _ Ñ (Ï.KQ k t) ô
theorem ML{n:Nat}(h1:Ű prog w Z d e S ⟨H,ρ,κ⟩ y)(h2:view H x=some x')(h3:view H y=some y')(h4:cmp n x' y'=some q):zm prog w Z d x [n] [e] S ⟨H,ρ,κ⟩ q:=by
 intro cx os xs env A g s u E pos ho hx hs C hv;obtain⟨z,r,rfl,e1,e2⟩:=ž hx;obtain rfl:=gi e2
 induction os using Ū with
 |nil=>exact nN ho
 |cons o os=>
 obtain⟨eo,e3⟩:=List.cons.inj ho;obtain rfl:=List.map_eq_nil_iff.mp e3;have hm:markedEach [o] [z] (evalEach [z] env)=[eval z env]:=by
  show[markedBehindIn o z _]=_;rw[qk (by simpa using hs)]
 rw[hm];refine⟨fun Q hq=>?_,fun Q hq=>?_⟩
 ·show õ prog w A (do
   let rv ←holding [u] (eval z env)
   standAt pos
   operate [u,rv] (compareOp o u rv)) Q E s
  refine wpAny_bind (wpAny_holding (wpAny_mono (iD (Q:=fun À=>Q) h1 h2 h3 h4 eo e1 C hv fun Ü ò ŵ Ñ Ï À=>hq _ _ Ñ Ï) (fun ŵ ò h=>?_) fun À À e=>e));exact wpAny_bind (wpAny_standAt (qZ h))
 ·show õ prog w A (do
   let rv ←holding [u] (eval z env)
   standAt pos
   let c ←operate [u,rv] (compareOp o u rv)
   holding [c] (truthy c)) Q E s
  refine wpAny_bind (wpAny_holding (wpAny_mono (iD (Q:=fun À c s=>õ prog w A (holding [c] (truthy c)) Q E s) h1 h2 h3 h4 eo e1 C hv fun Ü ò ŵ Ñ Ï À=>wpAny_holding (wpAny_truthy_bool (hq _ _ Ñ Ï))) (fun ŵ ò h=>?_) fun À À e=>e));exact wpAny_bind (wpAny_standAt (wpAny_bind (qZ h)))
theorem uX{o':CmpOp}{os:List CmpOp}{e':Expr}{es:List Expr}{env:Env}:T2 fun t ts=>markedEach (o'::os) (e'::es) (evalEach (e'::es) env)=t::ts:=by
 show T2 fun t ts=>markedEach (o'::os) (e'::es) (eval e' env::evalEach es env)=t::ts
 induction os using Ū<;>induction es using Ū<;>exact⟨_,_,rfl⟩
theorem MK{n m:Nat}{ops:List Nat}(h1:Ű prog w Z d e S ⟨H,ρ,κ⟩ y)(h2:view H x=some x')(h3:view H y=some y')(h4:cmp n x' y'=some q)(h5:q=true→zm prog w Z d y (m::ops) (a::es) ⟨H,ρ,κ⟩ Í p)(h6:q=false→(Í,p)=(⟨H,ρ,κ⟩,false)):
  zm prog w Z d x (n::m::ops) (e::a::es) S Í p:=by
 intro cx os xs env A g s u E pos ho hx hs C hv;obtain⟨z,r,rfl,e1,e2⟩:=ž hx;obtain⟨z',r,rfl,e3,e4⟩:=ž e2
 induction os using Ū with
 |nil=>exact nN ho
 |cons o os=>
 obtain⟨eo,e5⟩:=List.cons.inj ho
 induction os using Ū with
 |nil=>exact nN e5
 |cons o' os=>
 rw[ij,w4]at hs;obtain⟨t,ts,ht⟩:=uX (o':=o') (os:=os) (e':=z') (es:=r) (env:=env);have hm:markedEach (o::o'::os) (z::z'::r) (evalEach (z::z'::r) env)=eval z env::t::ts:=by rw[←ht];rfl
 rw[hm];refine⟨fun Q hq=>?_,fun Q hq=>?_⟩
 ·show õ prog w A (do
   let rv ←holding [u] (eval z env)
   standAt pos
   let c ←holding [u,rv] (compareOp o u rv)
   release [u,rv] [c]
   if ←holding [c,rv] (truthy c)then compareChain pos rv (o'::os) (t::ts)else pure c) Q E s
  refine wpAny_bind (wpAny_holding (wpAny_mono (iD (Q:=fun rv c s=>õ prog w A (do
   release [u,rv] [c]
   if ←holding [c,rv] (truthy c)then compareChain pos rv (o'::os) (t::ts)else pure c) Q E s) h1 h2 h3 h4 eo e1 C hv fun Ü ò ŵ Ñ Ï ô=>?_) (fun ŵ ò h=>?_) fun À À e=>e))
  ·refine wpAny_bind (dD (wpAny_bind (wpAny_holding (wpAny_truthy_bool ?_))))
   induction q using ñ with
   |true=>rw[if_pos rfl,←ht];exact(h5 rfl _ _ _ _ _ _ _ _ _ _ e5 e2 hs.2 Ï ô).1 Q (hq.mono Ñ)
   |false=>cases h6 rfl;exact wpAny_pure (hq _ _ Ñ Ï)
  ·exact wpAny_bind (wpAny_standAt (wpAny_bind (wpAny_holding h)))
 ·show õ prog w A (do
   let rv ←holding [u] (eval z env)
   standAt pos
   let c ←holding [u,rv] (compareOp o u rv)
   release [u,rv] [c]
   if ←holding [c,rv] (truthy c)then testChain pos rv (o'::os) (t::ts)else pure false) Q E s
  refine wpAny_bind (wpAny_holding (wpAny_mono (iD (Q:=fun rv c s=>õ prog w A (do
   release [u,rv] [c]
   if ←holding [c,rv] (truthy c)then testChain pos rv (o'::os) (t::ts)else pure false) Q E s) h1 h2 h3 h4 eo e1 C hv fun Ü ò ŵ Ñ Ï ô=>?_) (fun ŵ ò h=>?_) fun À À e=>e))
  ·refine wpAny_bind (dD (wpAny_bind (wpAny_holding (wpAny_truthy_bool ?_))))
   induction q using ñ with
   |true=>rw[if_pos rfl,←ht];exact(h5 rfl _ _ _ _ _ _ _ _ _ _ e5 e2 hs.2 Ï ô).2 Q (hq.mono Ñ)
   |false=>cases h6 rfl;exact wpAny_pure (hq _ _ Ñ Ï)
  ·exact wpAny_bind (wpAny_standAt (wpAny_bind (wpAny_holding h)))
theorem Q6{ops:List Nat}{bs:List PE}(h1:Ű prog w Z d a S Å x)(h2:zm prog w Z d x ops bs Å Í q):Ű prog w Z d (.cm a ops bs) S Í (.bool q):=by
 intro cx x env A g s Q E hx C hq;obtain⟨y,os,zs,p,rfl,hs,e1,e2,e3⟩:=iv hx;rw[arm_eval_Compare];refine wpAny_bind (h1 _ _ _ _ _ _ _ _ e1 C fun Ü ò ŵ Ñ Ï ô=>?_);exact(h2 _ _ _ _ _ _ _ _ _ _ e2 e3 hs Ï ô).1 Q fun ó Ļ ù è=>hq _ _ _ (Ñ.trans ù) è rfl
theorem Jq{ops:List Nat}{bs:List PE}(h1:Ű prog w Z d a S Å x)(h2:zm prog w Z d x ops bs Å Í q):gy prog w Z d (.cm a ops bs) S Í q:=by
 intro cx x env A g s Q E hx C hq;obtain⟨y,os,zs,p,rfl,hs,e1,e2,e3⟩:=iv hx;show õ prog w A (do testChain p (←eval y env) os (markedEach os zs (evalEach zs env))) Q E s;refine wpAny_bind (h1 _ _ _ _ _ _ _ _ e1 C fun Ü ò ŵ Ñ Ï ô=>?_);exact(h2 _ _ _ _ _ _ _ _ _ _ e2 e3 hs Ï ô).2 Q (hq.mono Ñ)
theorem Q9(h1:CW prog w Z d q es S Å v):Ű prog w Z d (.bo q es) S Å v:=by
 intro cx x env A g s Q E hx C hq;obtain⟨o,ys,p,rfl,ho,e1⟩:=iv hx;rw[arm_eval_BoolOp];exact h1 _ _ _ _ _ _ _ _ _ _ ho e1 C hq
theorem Jr(h1:jY prog w Z d q es S Å p):gy prog w Z d (.bo q es) S Å p:=by
 intro cx x env A g s Q E hx C hq;obtain⟨o,ys,p,rfl,ho,e1⟩:=iv hx;exact h1.t _ _ _ _ _ _ _ _ _ ho e1 C hq
theorem JW{x:Value}{Q:Value→Shared→Prop}{E}(h:õ prog w A (truthy x) (fun b s'=>Q (.bool !b) s') E s):õ prog w A (unaryOp .Not x) Q E s:=not_value h
theorem QQ(h1:Ű prog w Z d e S ⟨H,ρ,κ⟩ v)(h2:view H v=some v')(h3:truth v'=some q):Ű prog w Z d (.nt e) S ⟨H,ρ,κ⟩ (.bool !q):=by
 intro cx x env A g s Q E hx C hq;obtain⟨y,p,rfl,e1⟩:=iv hx;rw[arm_eval_UnaryOp];refine wpAny_bind (h1 _ _ _ _ _ _ _ _ e1 C fun Ü ò ŵ Ñ Ï ô=>?_);refine wpAny_bind (wpAny_standAt (wpAny_holding (JW ?_)));exact kS (Ï.view ô h2) h3 fun t=>hq _ _ _ Ñ (Ï.toks t) rfl
theorem QR{i:Int}(h1:Ű prog w Z d e S Å (.int i)):Ű prog w Z d (.ng e) S Å (.int (-i)):=by
 intro cx x env A g s Q E hx C hq;obtain⟨y,p,rfl,e1⟩:=iv hx;rw[arm_eval_UnaryOp];refine wpAny_bind (h1 _ _ _ _ _ _ _ _ e1 C fun Ü ò ŵ Ñ Ï ô=>?_);refine wpAny_bind (wpAny_standAt (wpAny_holding ?_));obtain⟨t,rfl⟩:=ô;exact PyProof.Rows.neg_int (hq _ _ _ Ñ (Ï.toks _) ⟨_,rfl⟩)
theorem QJ(h1:gy prog w Z d t S Å q)(h2:q=true→Ű prog w Z d a Å Í v)(h3:q=false→Ű prog w Z d b Å Í v):Ű prog w Z d (.te t a b) S Í v:=by
 intro cx x env A g s Q E hx C hq;obtain⟨y,z,u,p,rfl,e1,e2,e3⟩:=iv hx;rw[arm_eval_IfExp];refine wpAny_bind (h1 _ _ _ _ _ _ _ _ e1 C fun Ü ò Ñ Ï=>?_)
 induction q using ñ with
 |true=>exact h2 rfl _ _ _ _ _ _ _ _ e2 Ï (hq.mono Ñ)
 |false=>exact h3 rfl _ _ _ _ _ _ _ _ e3 Ï (hq.mono Ñ)
theorem Jo(h1:gy prog w Z d t S Å q)(h2:q=true→gy prog w Z d a Å Í p)(h3:q=false→gy prog w Z d b Å Í p):gy prog w Z d (.te t a b) S Í p:=by
 intro cx x env A g s Q E hx C hq;obtain⟨y,z,u,p,rfl,e1,e2,e3⟩:=iv hx;show õ prog w A (do if ←isTrue y env (eval y env)then isTrue z env (eval z env)else isTrue u env (eval u env)) Q E s;refine wpAny_bind (h1 _ _ _ _ _ _ _ _ e1 C fun Ü ò Ñ Ï=>?_)
 induction q using ñ with
 |true=>exact h2 rfl _ _ _ _ _ _ _ _ e2 Ï (hq.mono Ñ)
 |false=>exact h3 rfl _ _ _ _ _ _ _ _ e3 Ï (hq.mono Ñ)
theorem Jp(h1:gy prog w Z d e S Å q):gy prog w Z d (.nt e) S Å (!q):=by
 intro cx x env A g s Q E hx C hq;obtain⟨y,p,rfl,e1⟩:=iv hx;show õ prog w A (do return !(←isTrue y env (eval y env))) Q E s;exact wpAny_bind (h1 _ _ _ _ _ _ _ _ e1 C fun Ü ò Ñ Ï=>wpAny_pure (hq _ _ Ñ Ï))
theorem isTrue_plain{x:Expr}(h:pW (er cx x)=true):isTrue x env (eval x env)=(do let v ←eval x env;standAt x.pos;holding [v] (truthy v)):=by
 induction x using PySem.Expr.casesOn with
 |Compare a ops bs p=>induction hb: !bs.any isSet using ñ with
  |true=>rw[show er cx (.Compare a ops bs p)=cq (!bs.any isSet) _ from rfl,hb]at h;exact â h
  |false=>rw[show er cx (.Compare a ops bs p)=cq (!bs.any isSet) _ from rfl,hb]at h;exact â h
 |BoolOp=>exact â h
 |IfExp=>exact â h
 |UnaryOp o e p=>induction o using PySem.UnaryOp.casesOn<;>first|rfl|exact â h
 |_=>rfl
theorem Mz(hp:pW e=true)(h1:Ű prog w Z d e S ⟨H,ρ,κ⟩ v)(h2:view H v=some v')(h3:truth v'=some q):gy prog w Z d e S ⟨H,ρ,κ⟩ q:=by
 intro cx x env A g s Q E hx C hq;rw[isTrue_plain (cx:=cx) (by rw[hx];exact hp)];refine wpAny_bind (h1 _ _ _ _ _ _ _ _ hx C fun Ü ò ŵ Ñ Ï ô=>?_);refine wpAny_bind (wpAny_standAt (wpAny_holding ?_));exact kS (Ï.view ô h2) h3 fun t=>hq _ _ Ñ (Ï.toks t)
end
section
variable{st:St}{H H':List Cell}
def cH(g:Gh)(s s':Shared):Prop:=∀a o,(g.r a=.loc∨∃i,g.r a=.var i)→s.heap.get? a=some o→∃sl,s'.heap.get? a=some {o with slots:=sl}
theorem LH.Nr{ρ κ:List (Option V)}(F:LH Z cx g s ρ κ)(e:ę g g')(k:cH g s s'):LH Z cx g' s' ρ κ:=by
 refine⟨e.L▸e.loc _ F.loc,?_,fun i ov q=>?_⟩
 ·obtain⟨m,⟨o,es,ep,ho,hd,r⟩,hm⟩:=F.locs;obtain⟨sl,s6⟩:=k _ _ (.inl F.loc) ho;refine⟨m,⟨{o with slots:=sl},es,ep,e.L▸s6,hd,r⟩,fun x i v h1 h2=>?_⟩;obtain⟨w,q1,q2⟩:=hm x i v h1 h2;exact⟨w,q1,q2.mono e.toGst⟩
 ·obtain⟨c,w,q1,q2,⟨o,ho,hd⟩,q4⟩:=F.vars i ov q;obtain⟨sl,s6⟩:=k _ _ (.inr ⟨_,q2⟩) ho;refine⟨c,w,e.cs▸q1,e.var _ _ q2,⟨_,s6,hd⟩,fun v hv=>?_⟩;obtain⟨x,y1,y2⟩:=q4 v hv;exact⟨x,y1,y2.mono e.toGst⟩
theorem Inv.fG(I:Inv Z cx g s st)(e:ę g g')(k:cH g s s')(B:Base Z g' s' H'):Inv Z cx g' s' {st with H:=H'}:=⟨B,I.gJ.Nr e k⟩
theorem Ok.fG(C:Ok Z d cx A env g s st)(e:ę g g')(k:cH g s s')(B:Base Z g' s' H'):Ok Z d cx A env g' s' {st with H:=H'}:=C.to e.toGst (C.i.fG e k B)
noncomputable def Ů:Role→Bool
 |.loc=>true
 |.var _=>true
 |_=>false
def Gh.down(g:Gh)(h:Heap)(L:Addr)(cs:List Addr):Gh where
 r a:=if a=L then .loc else match cs.idxOf? a with
  |some i=>.var i
  |none=>if Ů (g.r a)then(match h.get? a with|some o=>.kept o|none=>.free)else g.r a
 as:=g.as
 L:=L
 cs:=cs
def Gh.up(g gE:Gh):Gh where
 r a:=if Ů (g.r a)then g.r a else if Ů (gE.r a)then .free else gE.r a
 as:=gE.as
 L:=g.L
 cs:=g.cs
theorem lZ{x:Role}(h:Ů x=true):x=.loc∨∃i,x=.var i:=by induction x using Role.casesOn<;>first|(exact â h;done)|exact .inl rfl|exact .inr ⟨_,rfl⟩
theorem Base.own(B:Base Z g s H)(a:Addr)(h:Ů (g.r a)=true):∃o,s.heap.get? a=some o:=B.alive a fun e=>by rw[e]at h;exact â h
structure č(s:Shared)(h:Heap)(L:Addr)(cs:List Addr):Prop where
 keep:∀b o,s.heap.get? b=some o→h.get? b=some o
 new:s.heap.objs.size≤L
 above:∀c∈cs,L<c
 there:∃o,h.get? L=some o
 cells:∀c∈cs,∃o,h.get? c=some o
theorem č.TP{h:Heap}{L:Addr}{cs:List Addr}(N:č s h L cs){a:Addr}(ha:a∈cs):s.heap.objs.size≤a:=ă N.new (aV (N.above a ha))
theorem č.idx{h:Heap}{L:Addr}{cs:List Addr}(N:č s h L cs){a:Addr}(ha:a<s.heap.objs.size):a≠L∧cs.idxOf? a=none:=by
 refine⟨fun e=>?_,?_⟩
 ·subst e;exact sL _ (ik ha N.new)
 ·rw[Bi];exact fun hm=>sL _ (ik ha (N.TP hm))
theorem č.size{h:Heap}{L:Addr}{cs:List Addr}(N:č s h L cs):s.heap.objs.size≤h.objs.size:=by
 obtain⟨o,q⟩:=N.there;exact ă N.new (aV (eX q))
theorem vB{h:Heap}{L:Addr}{cs:List Addr}:(g.down h L cs).r L=.loc:=if_pos rfl
theorem Cm{h:Heap}{L:Addr}{cs:List Addr}{a:Addr}{i:Nat}(n:a≠L)(e:cs.idxOf? a=some i):(g.down h L cs).r a=.var i:=by
 show(if a=L then Role.loc else _)=_;rw[if_neg n,e]
theorem qM{h:Heap}{L:Addr}{cs:List Addr}{a:Addr}(n:a≠L)(e:cs.idxOf? a=none):(g.down h L cs).r a=if Ů (g.r a)then(match h.get? a with|some o=>.kept o|none=>.free)else g.r a:=by
 show(if a=L then Role.loc else _)=_;rw[if_neg n,e]
theorem dZ{h:Heap}{L:Addr}{cs:List Addr}(B:Base Z g s H)(N:č s h L cs){a:Addr}{x:Role}(e:g.r a=x)(h1:Ů x=false)(h2:x≠.free):(g.down s.heap L cs).r a=x:=by
 have ha:a<s.heap.objs.size:=Nat.lt_of_not_le fun l=>h2 (e.symm.trans (B.fresh a l))
 obtain⟨n1,n2⟩:=N.idx ha;rw[qM n1 n2,e,h1];rfl
theorem cE{h:Heap}{L:Addr}{cs:List Addr}(B:Base Z g s H)(N:č s h L cs){a:Addr}{o:Obj}(e:Ů (g.r a)=true)(ho:s.heap.get? a=some o):(g.down s.heap L cs).r a=.kept o:=by
 have ha:a<s.heap.objs.size:=eX ho;obtain⟨n1,n2⟩:=N.idx ha;rw[qM n1 n2,if_pos e,ho]
theorem tD{h:Heap}{L:Addr}{cs:List Addr}(B:Base Z g s H)(N:č s h L cs):aP g.k (g.down s.heap L cs).k:=fun a o e=>
 Gh.Ř (dZ B N (Gh.aN e) rfl (by simp))
theorem Base.down(B:Base Z g s H){h:Heap}{L:Addr}{cs:List Addr}(N:č s h L cs)(t:Nat):Base Z (g.down s.heap L cs) {s with heap:=h,toks:=t} H:=by
 refine B.gen (fun a=>a=L∨a∈cs∨Ů (g.r a)=true) ?_ (fun b o À e=>N.keep b o e) (fun b nd=>?_) ?_ B.len (fun À À e=>e) fun i c e=>.inl ⟨e,?_⟩
 ·have fr:∀a,s.heap.objs.size≤a→(∀o,g.r a≠.Ô o)∧g.r a≠.tab:=fun a l=>by
   rw[B.fresh a l];exact⟨(by simp),(by simp)⟩
  rintro a (rfl|hm|ho)
  ·exact fr _ N.new
  ·exact fr _ (N.TP hm)
  ·refine⟨fun o e=>?_,fun e=>?_⟩<;>rw[e]at ho<;>exact â ho
 ·have n1:b≠L:=fun e=>nd (.inl e)
  have n2:cs.idxOf? b=none:=by rw[Bi];exact fun e=>nd (.inr (.inl e))
  have n3:Ů (g.r b)=false:=by rw[←w3];exact fun e=>nd (.inr (.inr e))
  rw[qM n1 n2,n3];rfl
 ·intro a ha
  by_cases e:a=L
  ·subst e;rw[vB];exact⟨(by simp),(by simp),(by simp),fun À=>N.there⟩
  ·induction hc:cs.idxOf? a using ş with
   |some i=>
    rw[Cm e hc];refine⟨(by simp),(by simp),(by simp),fun À=>N.cells a ?_⟩;rcases Decidable.em (a∈cs)with m|m
    ·exact m
    ·rw[Bi.mpr m]at hc;exact nS hc
   |none=>
    have own:Ů (g.r a)=true:=by
     rcases ha with q|q|q
     ·exact absurd q e
     ·rw[Bi]at hc;exact absurd q hc
     ·exact q
    obtain⟨o,ho⟩:=B.own a own;rw[qM e hc,if_pos own,ho];refine⟨(by simp),fun o' e'=>?_,(by simp),fun À=>⟨o,N.keep a o ho⟩⟩
    (injection e' with e';subst e')
    exact⟨o.slots,N.keep a o ho⟩
 ·rintro b (rfl|hm|ho)
  ·rw[B.fresh _ N.new];exact⟨(by simp),(by simp)⟩
  ·rw[B.fresh b (N.TP hm)];exact⟨(by simp),(by simp)⟩
  ·rcases lZ ho with e|⟨i,e⟩<;>rw[e]<;>exact⟨(by simp),(by simp)⟩
section
variable{gE:Gh}{sE:Shared}{HE:List Cell}{h:Heap}{L:Addr}{cs:List Addr}
theorem uq{a:Addr}(e:Ů (g.r a)=true):(g.up gE).r a=g.r a:=if_pos e
theorem iR{a:Addr}(e:Ů (g.r a)=false)(e':Ů (gE.r a)=false):(g.up gE).r a=gE.r a:=by
 show(if Ů (g.r a)=true then _ else _)=_;rw[e,e'];rfl
theorem ur(B:Base Z g s H)(N:č s h L cs)(e:Gst (g.down s.heap L cs) gE):ę g (g.up gE):=by
 refine⟨⟨fun a o q=>?_,fun a o q=>?_,fun a o q=>?_,e.as,rfl,rfl,fun a q=>?_⟩,fun a i q=>?_⟩
 ·have q:=Gh.aN q;have q':gE.r a=.Ô o:=Gh.aN (e.k a o (Gh.Ř (dZ B N q rfl (by simp))));exact Gh.Ř ((iR (by rw[q];rfl) (by rw[q'];rfl)).trans q')
 ·have q':gE.r a=.kept o:=e.kept a o (dZ B N q rfl (by simp));exact(iR (by rw[q];rfl) (by rw[q'];rfl)).trans q'
 ·have q':gE.r a=.held o:=e.held a o (dZ B N q rfl (by simp));exact(iR (by rw[q];rfl) (by rw[q'];rfl)).trans q'
 ·exact(uq (by rw[q];rfl)).trans q
 ·exact(uq (by rw[q];rfl)).trans q
theorem pP(B:Base Z g s H)(N:č s h L cs)(e:Gst (g.down s.heap L cs) gE)(BE:Base Z gE sE HE):cH g s sE:=fun a o r ho=>by
 have own:Ů (g.r a)=true:=by rcases r with q|⟨i,q⟩<;>rw[q]<;>rfl
 exact BE.kept a o (e.kept a o (cE B N own ho))
theorem Mc(B:Base Z g s H)(N:č s h L cs)(e:Gst (g.down s.heap L cs) gE):aP gE.k (g.up gE).k:=fun a o q=>by
 have q:=Gh.aN q
 induction ho:Ů (g.r a)using ñ with
 |true=>
  obtain⟨o',h'⟩:=B.own a ho;have:=e.kept a o' (cE B N ho h');rw[q]at this;exact neT Role.ctorIdx this rfl
 |false=>exact Gh.Ř ((iR ho (by rw[q];rfl)).trans q)
theorem Base.up(B:Base Z g s H)(N:č s h L cs)(e:Gst (g.down s.heap L cs) gE)(BE:Base Z gE sE HE):Base Z (g.up gE) sE HE:=by
 have:=BE.gen (g':=g.up gE) (h':=sE.heap) (t:=sE.toks) (H':=HE) (fun a=>Ů (g.r a)=true∨Ů (gE.r a)=true) ?_ (fun À À À e=>e) (fun b nd=>?_) ?_ BE.len (fun À À e=>e) fun i c q=>.inl ⟨q,?_⟩
 ·exact this
 ·rintro a (ho|ho)
  ·obtain⟨o',h'⟩:=B.own a ho;have:=e.kept a o' (cE B N ho h');exact⟨by rw[this];exact(by simp),by rw[this];exact(by simp)⟩
  ·exact⟨fun o q=>(by rw[q]at ho;exact â ho),fun q=>(by rw[q]at ho;exact â ho)⟩
 ·exact iR (by rw[←w3];exact fun q=>nd (.inl q)) (by rw[←w3];exact fun q=>nd (.inr q))
 ·intro a ha
  induction ho:Ů (g.r a)using ñ with
  |true=>
   rw[uq ho];obtain⟨o',h'⟩:=B.own a ho;have:=BE.kept a _ (e.kept a o' (cE B N ho h'));obtain⟨sl,this⟩:=this;rcases lZ ho with q|⟨i,q⟩<;>rw[q]<;>exact⟨(by simp),(by simp),(by simp),fun À=>⟨_,this⟩⟩
  |false=>
   have hE:Ů (gE.r a)=true:=by
    rcases ha with q|q
    ·rw[ho]at q;exact â q
    ·exact q
   have:(g.up gE).r a=.free:=by
    show(if Ů (g.r a)=true then _ else _)=_;rw[ho,hE];rfl
   rw[this];exact⟨(by simp),(by simp),(by simp),fun q=>absurd rfl q⟩
 ·rintro b (ho|ho)
  ·obtain⟨o',h'⟩:=B.own b ho;have:=e.kept b o' (cE B N ho h');rw[this];exact⟨(by simp),(by simp)⟩
  ·rcases lZ ho with q|⟨i,q⟩<;>rw[q]<;>exact⟨(by simp),(by simp)⟩
theorem ć.up(hk:aP gE.k (g.up gE).k){v:V}{x:Value}(h:ć Z gE v x):ć Z (g.up gE) v x:=by
 induction v using V.casesOn with
 |Ó i=>exact h
 |_=>exact Rep.mono hk h
end
def Gr(Z:Ě)(sc:PySem.Scope):Cx:=⟨sc.names,aI sc.names,š sc.names,Z.zC,Z.Ŷ⟩
structure g8(Z:Ě)(K:dn Z)(j:Nat)(f:Fn)(o:Obj)(fd:FuncData)(body:List Stmt)(names:List Õ)(dv:List Value):Prop where
 tab:K.fn j≠Z.tab
 ho:Z.sh.heap.get? (K.fn j)=some o
 hd:o.data=.func fd
 cd:T4 fun c oc vs t=>A5 (fd.code=.ref c) (c≠Z.tab) (Z.sh.heap.get? c=some oc) (oc.data=.fields vs) (vs[1]? =some (.str fd.qualname t))
 hb:fd.body=.stmts body
 eb:f.body=bF (Gr Z fd.scope) body
 g9:fd.closure=[]
 kind:fd.scope.kind=.function
 co:fd.scope.isCoroutine=false
 gen:fd.scope.isGenerator=false
 xn:fd.globals=mainGlobals
 H5:fd.builtins=builtinsNs
 bd:∀(s:Shared) (xs:List Value),(∀a o,Z.sh.heap.get? a=some o→a≠Z.tab→s.heap.get? a=some o)→xs.length≤names.length→names.length≤xs.length+dv.length→BindsTo s fd ⟨xs,[]⟩ (names.zip (xs++dv.drop (dv.length - (names.length - xs.length))))
 dl:dv.length≤names.length
 rd:ß Z.toSta (oldK Z) f.mq dv
 ps:names.map (Ę (Gr Z fd.scope))=f.ps.map some
 keys:(fd.scope.names.map (·.1)).Nodup
 AV:∀p∈fd.scope.names,p.2≠.free
 nl:f.nl=(aI fd.scope.names).length
 nc:f.nc=(š fd.scope.names).length
 lam:fd.scope.names.lookup ("seen":Õ)=some .cell→fd.code=.ref Z.qn∧(fd.qualname++".<locals>.")++("<lambda>":Õ)=Z.lR
def vU(Z:Ě)(g:Gh):Out→Flow→Prop
 |.next,f=>f=.next
 |.ret v,f=>∃x,f=.ret x∧ć Z g v x
 |_,_=>False
def cG(g:Gh)(s:Shared):Prop:=T3 fun o es n=>s.heap.get? g.L=some o∧o.data=.dict es n
theorem Inv.gD(I:Inv Z cx g s st):cG g s:=by
 obtain⟨m,⟨o,es,ep,ho,hd,_⟩,_⟩:=I.gJ.locs;exact⟨o,es,ep,ho,hd⟩
section
variable(prog:Program)(w:World)(Z:Ě)(K:dn Z)
inductive Exc(Z:Ě)(g:Gh)(h:Heap)(x:Value):Prop
 |mk (a:Addr) (o:Obj) (vs:Array Value) (a0 t:Value) (e:x=.ref a) (r:g.r a=.free) (q:h.get? a=some o) (c:o.cls=.ref (fi 7)) (d:o.data=.fields vs) (h0:vs[0]? =some a0) (h1:vs[1]? =some t)
   (tb:t=.none∨T3 fun T oT ts=>A6 (t=.ref T) (g.r T=.free) (T≠a) (h.get? T=some oT) (oT.data=.fields ts) (ts[3]? =some .none))
abbrev Px(d:Nat)(cx:Cx)(A:Around)(env:Env)(g:Gh)(Ċ:St)(E:Value→Shared→Prop):Prop:=∀g' s' x,Gst g g'→Ok Z d cx A env g' s' Ċ→Exc Z g' s'.heap x→E x s'
structure vX(d:Nat)(cx:Cx)(A:Around)(env:Env)(g:Gh)(Ċ:St)(o:Out)(Q:Flow→Shared→Prop)(E:Value→Shared→Prop):Prop where
 q:∀g' s' f,Gst g g'→Ok Z d cx A env g' s' Ċ→vU Z g' o f→Q f s'
 x:o=.exc→Px Z d cx A env g Ċ E
def Pc(d:Nat)(e:PE)(st Ċ:St):Prop:=∀cx x env A g s Q E,er cx x=e→Ok Z d cx A env g s st→Px Z d cx A env g Ċ E→õ prog w A (eval x env) Q E s
def vQ(d:Nat)(x:PS)(st Ċ:St)(o:Out):Prop:=∀cx y env A g s Q E,OA cx y=x→Ok Z d cx A env g s st→vX Z d cx A env g Ċ o Q E→õ prog w A (exec y env) Q E s
def fj(d:Nat)(xs:List PS)(st Ċ:St)(o:Out):Prop:=∀cx ys env A g s Q E,bF cx ys=xs→Ok Z d cx A env g s st→vX Z d cx A env g Ċ o Q E→õ prog w A (execs ys env) Q E s
def cF(d:Nat)(j:Nat)(vs:List V)(H:L)(Ċ:St)(v:V):Prop:=∀A g s xs Q E,œ d A g→cG g s→Base Z g s H→Ł Z g vs xs→
 (∀g' s' x,ę g g'→cH g s s'→Base Z g' s' Ċ.H→ć Z g' v x→Q x s')→õ prog w A (call (.ref (K.fn j)) xs) Q E s
def vR(d:Nat)(j:Nat)(vs:List V)(H:L)(Ċ:St):Prop:=∀A g s xs Q E,œ d A g→cG g s→Base Z g s H→Ł Z g vs xs→
 (∀g' s' x,ę g g'→cH g s s'→Base Z g' s' Ċ.H→Exc Z g' s'.heap x→E x s')→õ prog w A (call (.ref (K.fn j)) xs) Q E s
end
theorem BC{x:Õ}:∀{l:List Õ} {n i:Nat},idx x l n=some i→n≤i∧é l (i - n)=some x
 |y::r,n,i,h=>by
  unfold idx at h
  split at h
  ·rename_i e;(replace h:=ì h;subst h);subst e;rw[Nat.sub_self];exact⟨Ų _,rfl⟩
  ·obtain⟨h1,h2⟩:=BC h;refine⟨by exact aV ‹_›,?_⟩;have:i - n=(i - (n+1))+1:=by omega
   rw[this];exact h2
theorem dc{x:Õ}{l:List Õ}{i:Nat}(h:idx x l 0=some i):é l i=some x:=(BC h).2
theorem qx{x y:Õ}{l:List Õ}{i:Nat}(h:idx x l 0=some i)(h':idx y l 0=some i):x=y:=ì ((dc h).symm.trans (dc h'))
theorem aG{α:Type}{l:List α}{i:Nat}{x:α}(h:é l i=some x):x∈l:=by
 induction l generalizing i x with
 |nil=>
  exact nS h
 |cons _ r IH=>
  exact match i,h with
  |0,h=>by(replace h:=ì h;subst h);exact ŭ
  |i+1,h=>ŧ _ (IH h)
theorem gR{x:Õ}{l:List Õ}{n:Nat}{i:Nat}(nd:l.Nodup)(h:é l i=some x):idx x l n=some (n+i):=by
 induction l generalizing n i with
 |nil=>
  exact nS h
 |cons y r IH=>
  obtain⟨nn,nd⟩:=eW.mp nd
  induction i using mM with
  |zero=>(replace h:=ì h;subst h);exact if_pos rfl
  |succ i=>
   have h:é r i=some x:=h;exact(if_neg (fun e:y=x=>nn (e▸aG h))).trans ((IH nd h).trans (by rw[Nat.succ_add];rfl))
theorem oj{x:Õ}{l:List (Õ×NameKind)}:x∈š l↔(x,NameKind.cell)∈l:=by
 induction l with
 |nil=>
  exact⟨nofun,nofun⟩
 |cons fm r IH=>
  obtain⟨y,k⟩:=fm;have ih:=IH
  induction k using PySem.NameKind.casesOn with
  |cell=>rw[show š ((y,.cell)::r)=y::š r from rfl,Ą,Ą,ih,Prod.mk.injEq];exact or_congr (and_iff_left rfl).symm Iff.rfl
  |_=>rw[Ą];exact ih.trans ⟨.inr,fun h=>h.resolve_left (fun e=>by cases e)⟩
theorem tK{l:List (Õ×NameKind)}(h:(l.map (·.1)).Nodup):(š l).Nodup:=by
 induction l with
 |nil=>
  exact lT
 |cons fm r IH=>
  obtain⟨y,k⟩:=fm;obtain⟨nn,nd⟩:=eW.mp h;have ih:=IH nd
  induction k using PySem.NameKind.casesOn<;>first|exact ih|exact eW.mpr ⟨fun m=>nn (dT.mpr ⟨_,oj.mp m,rfl⟩),ih⟩
theorem m_{x:Õ}{l:List (Õ×NameKind)}{n:Nat}{acc:List (Õ×Addr)}(h:((x,NameKind.cell)∈l∨∃a,(x,a)∈acc)):∃a,(x,a)∈cellsFrom n l acc:=by
 induction l generalizing n acc with
 |nil=>
  rcases h with h|h
  ·cases h
  ·exact h
 |cons fm r IH=>
  obtain⟨y,k⟩:=fm;unfold cellsFrom
  split
  ·rename_i hk;refine IH ?_;rcases h with h|⟨a,h⟩
   ·rcases Ą.mp h with e|h
    ·cases e;exact .inr ⟨n,ŭ⟩
    ·exact .inl h
   ·exact .inr ⟨a,ŧ _ h⟩
  ·rename_i hk;refine IH ?_;rcases h with h|h
   ·rcases Ą.mp h with e|h
    ·cases e;exact absurd rfl hk
    ·exact .inl h
   ·exact .inr h
theorem lookup_isSome{α}{x:Õ}{a:α}:∀{l:List (Õ×α)},(x,a)∈l→(l.lookup x).isSome=true
 |(y,b)::r,h=>by
  rw[oN]
  induction e:x==y using ñ with
  |true=>rfl
  |false=>
   rcases Ą.mp h with q|h
   ·(injection q with q;subst q);simp at e
   ·exact lookup_isSome h
structure qW(Z:Ě)(g:Gh)(cx:Cx)(m cm:Õ→Option Value)(st:St):Prop where
 loc:∀x i v,idx x cx.loc 0=some i→é st.ρ i=some (some v)→∃y,m x=some y∧ć Z g v y
 Ó:∀x i v,idx x cx.Ó 0=some i→é st.κ i=some (some v)→∃y,cm x=some y∧ć Z g v y
theorem uE{k:Bool}{i:Nat}{v:V}{Ċ:St}(h:Ş st k i v=some Ċ):A3 (Ċ.H=st.H) (Ċ.ρ.length=st.ρ.length) (Ċ.κ.length=st.κ.length):=by
 induction k using ñ<;>((refine cJ h fun À À zq=>?_;obtain rfl:=zq))
 ·exact⟨rfl,et ..,rfl⟩
 ·exact⟨rfl,rfl,et ..⟩
theorem uN{cx:Cx}{l:List (Option V)}{names:List Õ}{x:Õ}{i:Nat}{v:V}{y:Value}{m:Õ→Option Value}(M:∀x i v,idx x names 0=some i→é l i=some (some v)→∃y,m x=some y∧ć Z g v y)(h3:idx x names 0=some i)(hv:ć Z g v y):
  ∀z j v',idx z names 0=some j→é (put l i (some v)) j=some (some v')→∃u,(if z=x then some y else m z)=some u∧ć Z g v' u:=fun z j v' hz hn=>by
 rcases kz hn with⟨rfl,e⟩|⟨ne,e⟩
 ·(replace e:=ì e;subst e)
  exact⟨y,if_pos (qx hz h3),hv⟩
 ·obtain⟨u,q1,q2⟩:=M z j v' hz e;exact⟨u,(if_neg fun e':z=x=>ne (ì (hz.symm.trans (e'▸h3)))).trans q1,q2⟩
theorem qW.set{m cm:Õ→Option Value}(M:qW Z g cx m cm st){x:Õ}{k:Bool}{i:Nat}{v:V}{y:Value}{Ċ:St}(he:Ę cx x=some (k,i))(hs:Ş st k i v=some Ċ)(hv:ć Z g v y)
  {kindOf:Õ→Option NameKind}(hk:∀x,kindOf x=cx.sn.lookup x)(HD:∀x,cx.sn.lookup x≠some .free):
  (kindOf x=some .local∨(kindOf x=some .cell∧x∈cx.Ó))∧qW Z g cx (if kindOf x=some .local then fun z=>if z=x then some y else m z else m) (if kindOf x=some .local then cm else fun z=>if z=x then some y else cm z) Ċ:=by
 induction k using ñ with
 |false=>
  obtain⟨_,h2,h3⟩:=dY he
  (refine cJ hs fun À À zq=>?_;obtain rfl:=zq)
  have h2:=(hk x).trans h2;rw[if_pos h2,if_pos h2];exact⟨.inl h2,uN (cx:=cx) M.loc h3 hv,M.Ó⟩
 |true=>
  obtain⟨_,h2,h3⟩:=bj he
  (refine cJ hs fun À À zq=>?_;obtain rfl:=zq)
  have h2:=(hk x).trans (h2.resolve_right (HD x));have nl:¬kindOf x=some .local:=by rw[h2];nofun
  rw[if_neg nl,if_neg nl];exact⟨.inr ⟨h2,aG (dc h3)⟩,M.loc,uN (cx:=cx) M.Ó h3 hv⟩
theorem qW.sets{kindOf:Õ→Option NameKind}(hk:∀x,kindOf x=cx.sn.lookup x)(HD:∀x,cx.sn.lookup x≠some .free)(ps:List (Bool×Nat)):∀(names:List Õ) (vs:List V) (xs:List Value) (m cm:Õ→Option Value) (st Ċ:St),
  names.map (Ę cx)=ps.map some→Ď st ps vs=some Ċ→Ł Z g vs xs→qW Z g cx m cm st→
   (∀x∈names.zip xs,kindOf x.1=some .local∨(kindOf x.1=some .cell∧x.1∈cx.Ó))∧qW Z g cx (PySem.bindL kindOf (names.zip xs) m) (PySem.bindC kindOf (names.zip xs) cm) Ċ:=by
 induction ps with
 |nil=>
  intro names vs xs m cm st Ċ he hs hv M;obtain rfl:=List.map_eq_nil_iff.mp he
  induction vs using Ū with
  |cons=>exact nS hs
  |nil=>(replace hs:=ì hs;subst hs);subst hv;exact⟨fun À m=>absurd m jL,M⟩
 |cons p ps ih=>
  intro names vs xs m cm st Ċ he hs hv M
  induction vs using Ū with
  |nil=>exact nS hs
  |cons v vs=>
  induction names using Ū with
  |nil=>exact nN he
  |cons n r=>
  obtain⟨N1,ZZ⟩:=List.cons.inj he;refine ï hs fun ĉ zv HC=>?_;obtain⟨y,t,rfl,h1,h2⟩:=hv;obtain⟨a,Vp⟩:=M.set (k:=p.1) (i:=p.2) N1 zv h1 hk HD;obtain⟨b,Vo⟩:=ih r vs t _ _ ĉ Ċ ZZ HC h2 Vp;refine⟨fun x hx=>?_,Vo⟩;rw[List.zip_cons_cons]at hx;rcases Ą.mp hx with rfl|hx
  ·exact a
  ·exact b x hx
theorem ć.r7(hk:aP g.k g'.k)(ha:g'.as=g.as){v:V}{x:Value}(h:ć Z g v x):ć Z g' v x:=by
 induction v using V.casesOn with
 |Ó i=>obtain⟨a,h1,h2⟩:=h;exact⟨a,ha▸h1,h2⟩
 |_=>exact Rep.mono hk h
theorem Ł.app{a:List V}{b:List V}{x:List Value}{y:List Value}(h:Ł Z g a x)(h':Ł Z g b y):Ł Z g (a++b) (x++y):=by
 induction a generalizing b x y with
 |nil=>
  subst h;exact h'
 |cons _ wa IH=>
  obtain⟨v,r,rfl,h1,h2⟩:=h;exact⟨v,_,rfl,h1,IH h2 h'⟩
theorem Ł.len{a:List V}{x:List Value}(h:Ł Z g a x):x.length=a.length:=by
 induction a generalizing x with
 |nil=>
  subst h;rfl
 |cons _ wa IH=>
  obtain⟨v,r,rfl,h1,h2⟩:=h;exact congrArg (· +1) (IH h2)
theorem ß.v7{a:List V}{x:List Value}(h:ß Z.toSta g.k a x):Ł Z g a x:=by
 induction a generalizing x with
 |nil=>
  subst h;rfl
 |cons _ wa IH=>
  obtain⟨v,r,rfl,h1,h2⟩:=h;exact⟨v,r,rfl,h1.iM,IH h2⟩
theorem ß.drop{Y:Sta}{k:FH}(n:Nat){a:List V}{x:List Value}(h:ß Y k a x):ß Y k (a.drop n) (x.drop n):=by
 induction n generalizing a x with
 |zero=>
  exact h
 |succ n IH=>
  induction a using Ū with
  |nil=>subst h;rfl
  |cons=>obtain⟨v,r,rfl,h1,h2⟩:=h;exact IH h2
theorem fy{ps:List (Bool×Nat)}{vs:List V}{st:St}{Ċ:St}(h:Ď st ps vs=some Ċ):A4 (ps.length=vs.length) (Ċ.H=st.H) (Ċ.ρ.length=st.ρ.length) (Ċ.κ.length=st.κ.length):=by
 induction ps generalizing vs st Ċ with
 |nil=>
  induction vs using Ū with
  |nil=>(replace h:=ì h;subst h);exact⟨rfl,rfl,rfl,rfl⟩
  |cons=>exact nS h
 |cons p r IH=>
  induction vs using Ū with
  |nil=>exact nS h
  |cons v t=>
  refine ï h fun ĉ h1 h=>?_;obtain⟨a,b,c⟩:=uE h1;obtain⟨e,a',b',c'⟩:=IH h;exact⟨congrArg (· +1) e,a'.trans a,b'.trans b,c'.trans c⟩
theorem wH{α β:Type}(f:α→β){l:List α}{i:Nat}{x:α}(h:é l i=some x):é (l.map f) i=some (f x):=by
 induction l generalizing i x with
 |nil=>
  exact nS h
 |cons _ r IH=>
  exact match i,h with
  |0,h=>by(replace h:=ì h;subst h);rfl
  |i+1,h=>IH h
theorem ľ{α:Type}{l:List α}{i:Nat}:é l i=l[i]? :=by
 induction l generalizing i with
 |nil=>
  exact rfl
 |cons _ r IH=>
  exact match i with
  |0=>rfl
  |i+1=>(IH).trans (List.getElem?_cons_succ).symm
theorem gB{α:Type}{n i:Nat}{x y:α}(h:é (Ħ n x) i=some y):y=x:=by
 rw[ľ]at h;exact(List.mem_replicate.mp (List.mem_of_getElem? h)).2
noncomputable def Gh.take(g:Gh)(n:Nat):Gh:={g with as:=g.as.take n}
theorem AR{α:Type}{l:List α}{n i:Nat}{x:α}(h:é (l.take n) i=some x):é l i=some x∧i<n:=by
 rw[ľ]at h ⊢;rw[List.getElem?_take]at h
 (have h1:=cy (b:=decide (i<n)) (by simpa using h);have h2:=cn (b:=decide (i<n)) (by simpa using h))
 exact⟨h2,of_decide_eq_true h1⟩
theorem zR{α:Type}{l:List α}{n i:Nat}{x:α}(h:é l i=some x)(b:i<n):é (l.take n) i=some x:=by
 rw[ľ]at h ⊢;rw[List.getElem?_take,if_pos b];exact h
theorem Base.take(B:Base Z g s H)(n:Nat):Base Z (g.take n) s (H.take n):=by
 refine⟨B.vd,B.old,B.top,B.tab,B.Ô,B.kept,B.held,B.alive,?_,fun i c e=>?_⟩
 ·show(g.as.take n).length=_;rw[oP,oP,B.len]
 ·obtain⟨e,l⟩:=AR e;obtain⟨a,ha,x⟩:=B.cells i c e;exact⟨a,zR ha l,dC.to (g:=g) (g':=g.take n) (fun À À e=>e) (fun À e=>e) (fun À e=>e) (fun À À À e=>e) x⟩
theorem ę.take(S:ę g g')(B:Base Z g s H):ę g (g'.take H.length):=by
 refine⟨⟨S.k,S.kept,S.held,?_,S.L,S.cs,S.loc⟩,S.var⟩;obtain⟨l,hl⟩:=S.as;refine⟨[],?_⟩;show g'.as.take H.length=_;rw[hl,←B.len,Ŵ];simp
def vE(L:Addr)(names:List (Õ×NameKind)):List Addr:=(š names).map fun x=>((cellsFrom (L+1) names []).lookup x).getD 0
theorem d4{L:Addr}{names:List (Õ×NameKind)}{x:Õ}(h:x∈š names):(cellsFrom (L+1) names []).lookup x=some (((cellsFrom (L+1) names []).lookup x).getD 0):=by
 obtain⟨a,ha⟩:=m_ (n:=L+1) (acc:=[]) (.inl (oj.mp h));have:=lookup_isSome ha
 induction q:(cellsFrom (L+1) names []).lookup x using ş with
 |none=>rw[q]at this;exact â this
 |some b=>rfl
theorem GD{L:Addr}{names:List (Õ×NameKind)}(ap:(cellsFrom (L+1) names []).Pairwise fun x y=>x.2≠y.2)(hk:(names.map (·.1)).Nodup){i:Nat}(hi:i<(š names).length):
  T2 fun y c=>A4 (é (vE L names) i=some c) ((cellsFrom (L+1) names []).lookup y=some c) (idx y (š names) 0=some i) ((vE L names).idxOf? c=some i):=by
 have key:∀{j} (hj:j<(š names).length),T2 fun y c=>A3 (é (vE L names) j=some c) ((cellsFrom (L+1) names []).lookup y=some c) (idx y (š names) 0=some j):=fun {j} hj=>by
  have hy:=kA hj;generalize (š names)[j]=y at hy;exact⟨y,_,wH _ hy,d4 (aG hy),(gR (n:=0) (tK hk) hy).trans (congrArg some (ki j))⟩
 obtain⟨y,c,hc,NT,n1⟩:=key hi;refine⟨y,c,hc,NT,n1,?_⟩;rw[ľ]at hc;obtain⟨BL,hc⟩:=List.getElem?_eq_some_iff.mp hc;refine List.idxOf?_eq_some_iff.mpr ⟨BL,hc,fun j hj e=>?_⟩;obtain⟨z,c',F_,Wg,n2⟩:=key (oO hj hi);rw[ľ,List.getElem?_eq_getElem (oO hj BL)]at F_;obtain rfl:=ì F_;rw[e]at Wg;obtain rfl:=name_of_addr ap (PySem.mem_of_lookup NT) (PySem.mem_of_lookup Wg);exact eV hj (ì (n2.symm.trans n1))
theorem pj(hr:œ (d+1) A g)(hL:cG g s)(B:Base Z g s H){h':Heap}{L:Addr}{cs:List Addr}(N:č s h' L cs)(OF:env.frame=some L)(Gu:env.scope.kind=.function):œ d (A.deeper env) (g.down s.heap L cs):=by
 refine⟨hr.hd,by have:=hr.depth;rw[depth_deeper];exact ä [_,_,_] (.c (.a (.a (.a Â (.m 4 (.a È Á))) Ĵ) Á) ã .z) (.a (.a (.a (.a Â Á) (.m 4 È)) Ĵ) Á) ã rfl this,by have:=hr.units;rw[Around.deeper_units];exact ä [_,_,_] (.c (.a (.a (.a Â (.m 20 (.a È Á))) bL) Á) ã .z) (.a (.a (.a (.a Â hW) (.m 20 È)) bL) Á) ã rfl this,?_⟩;obtain⟨l,hl,ZW⟩:=hr.frames;refine⟨env::l,Around.frames_deeper hl,fun e he=>?_⟩;rcases Ą.mp he with rfl|he
 ·exact⟨Gu,_,OF,.inl ⟨vB,rfl⟩⟩
 ·obtain⟨k,L',h1,h2⟩:=ZW e he;refine⟨k,L',h1,.inr ?_⟩;rcases h2 with⟨q1,q2⟩|⟨o,es,n,q1,q2⟩
  ·obtain⟨o,es,n,a,b⟩:=hL;exact⟨o,es,n,cE B N (by rw[q1];rfl) (q2▸a),b⟩
  ·exact⟨o,es,n,dZ B N q1 rfl (by simp),q2⟩
structure xR(Z:Ě)(fd:FuncData)(env:Env)(L:Addr):Prop where
 e1:env.locals=L
 e2:env.cells=cellsFrom (L+1) fd.scope.names []
 e3:env.scope=fd.scope
 e4:env.globals=mainGlobals
 e5:env.builtins=builtinsNs
 e6:env.frame=some L
 e7:env.kindOf=fun x=>fd.scope.names.lookup x
 e8:(Gr Z fd.scope).sn.lookup ("seen":Õ)=some .cell→env.code=.ref Z.qn∧env.qual++("<lambda>":Õ)=Z.lR
theorem xR.of{j:Nat}{f:Fn}{o:Obj}{fd:FuncData}{body:List Stmt}{names:List Õ}{dv:List Value}(F:g8 Z K j f o fd body names dv){env:Env}{L a:Addr}(h:env=newEnv fd.scope L fd.globals (cellsFrom (L+1) fd.scope.names []) (fd.qualname++".<locals>.") (some a) fd.code none fd.builtins):xR Z fd env L:=by
 subst h;exact⟨rfl,rfl,rfl,F.xn,F.H5,rfl,rfl,F.lam⟩
theorem Ce{j:Nat}{f:Fn}{o:Obj}{fd:FuncData}{body:List Stmt}{names:List Õ}{dv:List Value}(F:g8 Z K j f o fd body names dv){env:Env}{m cm:Õ→Option Value}{S:St}{s':Shared}(hr:œ (d+1) A g)(hL:cG g s)(B:Base Z g s H)(EA:xR Z fd env s.heap.objs.size)
  (x:InCallC s s.heap.objs.size m (cellsFrom (s.heap.objs.size+1) fd.scope.names []) cm s')(M:qW Z g (Gr Z fd.scope) m cm S)(HD:∀x,(Gr Z fd.scope).sn.lookup x≠some .free)(l2:S.H=H)(l4:S.κ.length=f.nc):
  č s s'.heap s.heap.objs.size (vE s.heap.objs.size fd.scope.names)∧Ok Z d (Gr Z fd.scope) (A.deeper env) env (g.down s.heap s.heap.objs.size (vE s.heap.objs.size fd.scope.names)) s' S:=by
 obtain⟨Uc,P6,OG,Ub,Ua,OF,L0,Gu⟩:=EA;have N:č s s'.heap s.heap.objs.size (vE s.heap.objs.size fd.scope.names):=by
  refine⟨x.toInCall.keep,Ų _,fun c hc=>?_,?_,fun c hc=>?_⟩
  ·obtain⟨y,hy,rfl⟩:=dT.mp hc;exact x.above y _ (PySem.mem_of_lookup (d4 hy))
  ·obtain⟨o,es,ep,q,_⟩:=x.toInCall.ns;exact⟨o,q⟩
  ·obtain⟨y,hy,rfl⟩:=dT.mp hc;obtain⟨o,q,_⟩:=x.cell y _ (d4 hy);exact⟨o,q⟩
 obtain⟨h',tk,D4,_⟩:=x.done;have hh:s'.heap=h':=by rw[D4]
 have BD:Base Z (g.down s.heap s.heap.objs.size (vE s.heap.objs.size fd.scope.names)) s' H:=by
  have:=B.down N tk;rw[hh]at this;rw[D4];exact this
 have HI:=tD B N;obtain⟨fl,ZX,_⟩:=hr.frames;refine⟨N,⟨pj hr hL B N OF (by rw[OG];exact F.kind),?_,⟨l2▸BD,vB,⟨_,x.toInCall.ns,fun y i u h1 h2=>?_⟩,fun i ov hn=>?_⟩,_,_,Around.frames_deeper ZX,rfl⟩⟩
 ·refine⟨by rw[OG];exact F.kind,Uc,Ub,Ua,fun y=>?_,fun y i hy=>?_,rfl,rfl,Gu⟩
  ·rw[L0];show fd.scope.names.lookup y=(fd.scope.names.lookup y).map _
   induction q:fd.scope.names.lookup y using ş with
   |none=>rfl
   |some k=>exact(congrArg some (if_neg fun e=>HD y (by rw[←e];exact q))).symm
  ·obtain⟨_,_,h3⟩:=bj hy;have hy:=dc h3;exact⟨_,by rw[P6];exact d4 (aG hy),wH _ hy⟩
 ·obtain⟨z,q1,q2⟩:=M.loc y i u h1 h2;exact⟨z,q1,q2.r7 HI rfl⟩
 ·have hi:i<(š fd.scope.names).length:=by
   have:=qe hn;rw[l4,F.nc]at this;exact this
  obtain⟨y,c,hc,NT,n1,KI⟩:=GD x.apart F.keys hi;refine⟨c,_,hc,Cm (fun e=>?_) ?_,x.cell y c NT,fun u hu=>?_⟩
  ·have:=x.above y c (PySem.mem_of_lookup NT);rw[e]at this;exact sL _ this
  ·exact KI
  ·subst hu;obtain⟨z,q1,q2⟩:=M.Ó y i u n1 hn;exact⟨z,q1,q2.r7 HI rfl⟩
theorem mv{j:Nat}{f:Fn}{o:Obj}{fd:FuncData}{body:List Stmt}{names:List Õ}{dv:List Value}(F:g8 Z K j f o fd body names dv)(aO:Z.sh.heap.NoLimit)(cK:cStatics≠Z.tab){vs:List V}{S:St}{xs:List Value}{Q:Value→Shared→Prop}{E:Value→Shared→Prop}
  (BH:Ď ⟨H,Ħ f.nl none,Ħ f.nc none⟩ f.ps (padded vs f.mq f.ps.length)=some S)(hr:œ (d+1) A g)(hL:cG g s)(B:Base Z g s H)(hv:Ł Z g vs xs)
  (k:∀env s' cs,č s s'.heap s.heap.objs.size cs→Ok Z d (Gr Z fd.scope) (A.deeper env) env (g.down s.heap s.heap.objs.size cs) s' S→env.frame=some s.heap.objs.size→wpAny (model prog w) (A.deeper env) (execs body env) (fun f s'=>Q (match f with|.ret v=>v|_=>.none) s')
   (fun e s'=>wpAny (model prog w) (A.deeper env) (leaving env e) (fun À Rp=>E e Rp) (fun e' Rp=>E e' Rp) s') s'):õ prog w A (call (.ref (K.fn j)) xs) Q E s:=by
 obtain⟨l1,l2,l3,l4⟩:=fy BH;have lp:names.length=f.ps.length:=by have:=congrArg oQ F.ps;simpa using this
 have lx:xs.length=vs.length:=hv.len;have ld:dv.length=f.mq.length:=F.rd.len;unfold padded at l1 BH;rw[ċ,sJ]at l1;have rd:ß Z.toSta g.k f.mq dv:=F.rd.mono (.old B);have PR:Ł Z g (vs++f.mq.drop (f.mq.length - (f.ps.length - vs.length))) (xs++dv.drop (dv.length - (names.length - xs.length))):=by
  rw[lp,lx,ld];exact hv.app (rd.drop _).v7
 have hdl:=F.dl;have HD:∀x,(Gr Z fd.scope).sn.lookup x≠some .free:=fun x e=>F.AV _ (PySem.mem_of_lookup e) rfl
 have Vq:qW Z g (Gr Z fd.scope) (fun À=>none) (fun À=>none) ⟨H,Ħ f.nl none,Ħ f.nc none⟩:=
  ⟨fun x i v À e=>(by have:=gB e;exact sN this),fun x i v À e=>(by have:=gB e;exact sN this)⟩
 obtain⟨BN,M⟩:=qW.sets (kindOf:=fun x=>fd.scope.names.lookup x) (fun x=>rfl) HD _ _ _ _ _ _ _ _ F.ps BH PR Vq;have xk:BindsTo s fd ⟨xs,[]⟩ (names.zip (xs++dv.drop (dv.length - (names.length - xs.length)))):=F.bd s xs (fun a o q n=>B.Ô _ _ (B.top _ _ q n)) (by exact ä [_,_,_,_,_] (.c (.a kg (.v 4)) ã (.c ã È (.c Â kg .z))) Â È rfl (Ņ l1.symm) (Ņ lp.symm) (Ņ lx)) (by omega);generalize names.zip (xs++dv.drop (dv.length - (names.length - xs.length)))=bs at BN M xk;clear PR rd lx ld l1;have KL:s.heap.CodeRec fd.code fd.qualname:=by
  obtain⟨c,oc,vs,t,e1,e2,e3,e4,e5⟩:=F.cd;exact⟨c,oc,vs,t,e1,B.Ô _ _ (B.top _ _ e3 e2),e4,e5⟩
 have s7:s.heap.NoLimit:=let ⟨mc,a,b⟩:=aO;⟨mc,B.du a cK,b⟩;refine wpAny_call (codeAny_call_function (by have:=hr.depth;exact ä [_,_,_] (.c (.a (.a (.a Â (.m 4 (.a ã Á))) Ĵ) Á) È .z) (.a Â Á) È rfl this) (B.Ô _ _ (B.top _ _ F.ho F.tab)) F.hd F.co F.gen F.hb KL (xk _ _ _ _ ?_));rw[F.g9];refine wpAny_newFunctionEnv_cells F.kind (fun x hx=>?_) fun env he s' x=>?_
 ·rcases BN x hx with e|⟨e,m⟩
  ·exact .inl e
  ·exact .inr ⟨e,by rw[d4 m];rfl⟩
 ·refine⟨s7.keeps x.toInCall.keep,codeAny_func ?_⟩;have EA:=xR.of F he;rw[EA.e1,EA.e2,EA.e7]at x;obtain⟨N,C⟩:=Ce F hr hL B EA x M HD l2 (l4.trans List.length_replicate);exact k env s' _ N C EA.e6
abbrev DU(Z:Ě)(K:dn Z)(P:Č):Prop:=∀j f,P.fn j=some f→T5 fun o fd body names dv=>g8 Z K j f o fd body names dv
section
variable(hF:DU Z K P)(aO:Z.sh.heap.NoLimit)(cK:cStatics≠Z.tab)
include hF aO cK
theorem mu{j:Nat}{f:Fn}{vs:List V}{S S':St}{o:Out}(h1:P.fn j=some f)(h2:Ď ⟨H,Ħ f.nl none,Ħ f.nc none⟩ f.ps (padded vs f.mq f.ps.length)=some S)(h3:fj prog w Z d f.body S S' o)(ho:o≠.exc){xs:List Value}{Q:Value→Shared→Prop}{E:Value→Shared→Prop}
  (hr:œ (d+1) A g)(hL:cG g s)(B:Base Z g s H)(hv:Ł Z g vs xs)
  (hq:∀g' s' fl,ę g g'→cH g s s'→Base Z g' s' S'.H→vU Z g' o fl→Q (match fl with|.ret v=>v|_=>.none) s'):õ prog w A (call (.ref (K.fn j)) xs) Q E s:=by
 obtain⟨ob,fd,body,names,dv,F⟩:=hF j f h1;refine mv F aO cK h2 hr hL B hv fun env ĉ cs N C À=>?_;refine h3 _ _ _ _ _ _ _ _ F.eb.symm C ⟨fun gE sE fl GE CE OE=>?_,fun e=>absurd e ho⟩;have hk:=Mc B N GE;refine hq _ _ _ (ur B N GE) (pP B N GE CE.base) (B.up N GE CE.base) ?_
 induction o using Out.casesOn with
 |ret v=>obtain⟨y,rfl,hy⟩:=OE;exact⟨y,rfl,ć.up hk hy⟩
 |_=>exact OE
theorem EN{j:Nat}{f:Fn}{vs:List V}{S:St}{v v':V}{ρ κ:List (Option V)}{H₁ Ö ų:L}(h1:P.fn j=some f)(h2:Ď ⟨H,Ħ f.nl none,Ħ f.nc none⟩ f.ps (padded vs f.mq f.ps.length)=some S)(h3:fj prog w Z d f.body S ⟨H₁,ρ,κ⟩ (.ret v))
  (h5:Ô H₁ v=some (Ö,v'))(h6:Ö.take H.length=ų):cF prog w Z K (d+1) j vs H ⟨ų,[],[]⟩ v':=by
 intro A g s xs Q E hr hL B hv hq;refine mu hF aO cK h1 h2 h3 (fun q=>neT Out.ctorIdx q rfl) hr hL B hv fun g' s' fl S K' B' OE=>?_;obtain⟨y,rfl,hy⟩:=OE;subst h6;exact B'.bE h5 hy fun İ ĩ Ŝ fX=>hq _ _ _ ((S.trans ĩ).take B) K' (Ŝ.take H.length) (Rep.iM (g:=İ.take H.length) fX)
theorem Af{j:Nat}{f:Fn}{vs:List V}{S Å:St}{v:V}(h1:P.fn j=some f)(h2:Ď ⟨H,Ħ f.nl none,Ħ f.nc none⟩ f.ps (padded vs f.mq f.ps.length)=some S)(h3:fj prog w Z d f.body S Å (.ret v)):cF prog w Z K (d+1) j vs H Å v:=by
 intro A g s xs Q E hr hL B hv hq;refine mu hF aO cK h1 h2 h3 (fun q=>neT Out.ctorIdx q rfl) hr hL B hv fun g' s' fl S K' B' OE=>?_;obtain⟨y,rfl,hy⟩:=OE;exact hq _ _ _ S K' B' hy
theorem Ag{j:Nat}{f:Fn}{vs:List V}{S:St}{ρ κ:List (Option V)}{H₁ Ö:L}(h1:P.fn j=some f)(h2:Ď ⟨H,Ħ f.nl none,Ħ f.nc none⟩ f.ps (padded vs f.mq f.ps.length)=some S)(h3:fj prog w Z d f.body S ⟨H₁,ρ,κ⟩ .next)(h6:H₁.take H.length=Ö):cF prog w Z K (d+1) j vs H ⟨Ö,[],[]⟩ .none:=by
 intro A g s xs Q E hr hL B hv hq;refine mu hF aO cK h1 h2 h3 (fun q=>neT Out.ctorIdx q rfl) hr hL B hv fun g' s' fl S K' B' OE=>?_;obtain rfl:fl=.next:=OE;subst h6;exact hq _ _ _ (S.take B) K' (B'.take H.length) rfl
end
end
section
variable{st Ċ S Å Í:St}{H H' H₁ Ö:List Cell}{ρ κ á ë:List (Option V)}{es as:List PE}{vs vs':List V}{v:V}
theorem ı{M:Model}{A:Around}{E:Value→Shared→Prop}{s:Shared}{f:Value}{args:List (Bool×Sem Value)}{Q:Args→Shared→Prop}(hp:args.any (·.1)=false)
  (h:wpAny M A (spliced args) (fun vs s'=>Q ⟨vs,[]⟩ s') E s):wpAny M A (evalArgs f true args []) Q E s:=by
 induction args using Ū with
 |nil=>
  unfold evalArgs;show wpAny M A (spliced []>>=_) Q E s;refine wpAny_bind (wpAny_mono h (fun vs s' h'=>?_) fun À À x=>x);refine wpAny_holding ?_;exact wpAny_bind (wpAny_pure (wpAny_bind (wpAny_pure (wpAny_pure h'))))
 |cons a r=>
  obtain⟨b,x⟩:=a
  induction b using ñ with
  |true=>simp at hp
  |false=>exact Calls.evalArgs_plain h
theorem plain_any{es:List Expr}{env:Env}{pos:Pos}(h:plain es=true):(backTo pos (starEach es env)).any (·.1)=false:=by
 induction es with
 |nil=>rfl
 |cons e r ih=>
  obtain⟨h1,h2⟩:=ez h;rw[nM h1];exact ih h2
theorem av{f:Õ}{np:Pos}{as:List Expr}{p:Pos}{env:Env}{Q:Value→Shared→Prop}{E:Value→Shared→Prop}
  (h:õ prog w A (eval (.Name f np) env) (fun f ĉ=>õ prog w A (callWith p f [] (backTo p (starEach as env)) []) Q E ĉ) E s):õ prog w A (eval (.Call (.Name f np) as [] p) env) Q E s:=
 wpAny_Call_ofName h
theorem xC(hg:cf Z K){f:Õ}{np p:Pos}{j:Nat}{ys:List Expr}{Q:Value→Shared→Prop}{E:Value→Shared→Prop}(hf:dz cx f=some (.fn j))(hp:plain ys=true)(he:fc cx ys=as)(h1:ĺ prog w Z d as S Å vs)(C:Ok Z d cx A env g s S)
  (hq:∀g' s' xs,Gst g g'→Ok Z d cx A env g' s' Å→Ł Z g' vs xs→õ prog w A (call (.ref (K.fn j)) xs) Q E s'):õ prog w A (eval (.Call (.Name f np) ys [] p) env) Q E s:=by
 refine av (ŋ hg C.e C.base hf fun z hz=>?_);obtain⟨rfl,o,fd,k1,k2,k3⟩:=hz;refine Calls.callWith_function (o:=o) (fd:=fd) (ı (plain_any hp) ?_);exact h1 _ _ _ _ _ _ _ _ _ he hp C fun Ü ò xs Ñ Ï ô=>⟨⟨Ï.base.Ô _ _ (Ï.base.top _ _ k1 k3),k2⟩,hq _ _ _ Ñ Ï ô⟩
theorem Q1(hg:cf Z K){j:Nat}(h1:ĺ prog w Z d as S ⟨H,ρ,κ⟩ vs)(h2:cF prog w Z K d j vs H ⟨H₁,á,ë⟩ v):Ű prog w Z d (.fn j as) S ⟨H₁,ρ,κ⟩ v:=by
 intro cx x env A g s Q E hx C hq;obtain⟨f,np,ys,p,rfl,hp,hf,e1⟩:=iv hx;refine xC hg hf hp e1 h1 C fun Ü ò xs Ñ Ï ô=>?_;exact h2 _ _ _ _ _ _ Ï.r Ï.i.gD Ï.base ô fun ó Ļ x Í DM aA ů=>hq _ _ _ (Ñ.trans Í.toGst) (Ï.fG Í DM aA) ů
theorem QZ(hg:cf Z K){j:Nat}(h1:ĺ prog w Z d as S ⟨H,ρ,κ⟩ vs)(h2:vR prog w Z K d j vs H ⟨H₁,á,ë⟩):Pc prog w Z d (.fn j as) S ⟨H₁,ρ,κ⟩:=by
 intro cx x env A g s Q E hx C hq;obtain⟨f,np,ys,p,rfl,hp,hf,e1⟩:=iv hx;refine xC hg hf hp e1 h1 C fun Ü ò xs Ñ Ï ô=>?_;exact h2 _ _ _ _ _ _ Ï.r Ï.i.gD Ï.base ô fun ó Ļ x Í DM aA O5=>hq _ _ _ (Ñ.trans Í.toGst) (Ï.fG Í DM aA) O5
theorem lM(B:Base Z g s H){l:List V}{vs:List Value}{n t:Nat}(hr:ß Z.toSta g.k l vs){C:Prop}(hq:∀g',ę g g'→Base Z g' {s with heap:=s.heap.push {cls:=.type "tuple",data:=.seq vs.toArray n},toks:=t} H→ć Z g' (.tup l) (.ref s.heap.objs.size)→C):C:=by
 have hf:g.r s.heap.objs.size=.free:=B.fresh _ (Ų _);have S:ę g (g.set s.heap.objs.size (.Ô {cls:=.type "tuple",data:=.seq vs.toArray n})):=ę.set g hf;exact hq _ S (B.push _ t _ rfl (.inr (.inl rfl))) ⟨_,_,vs,rfl,Gh.Ř (g.þ ..),⟨n,rfl⟩,hr.mono S.k⟩
theorem kX{α:Type}{l:List α}(h:small l=true){xs:List Value}(e:xs.length=l.length):xs.length≤2^24:=by
 rw[e];exact ă (aV (ĥ h)) (by decide)
theorem QH(h1:ĺ prog w Z d es S ⟨H,ρ,κ⟩ vs)(h2:ē H vs=some (H₁,vs'))(h3:small vs'=true):Ű prog w Z d (.tu es) S ⟨H₁,ρ,κ⟩ (.tup vs'):=by
 intro cx x env A g s Q E hx C hq;obtain⟨ys,k,p,rfl,hp,e1⟩:=iv hx;refine wpAny_Tuple (h1 _ _ _ _ _ _ _ _ _ e1 hp C fun Ü ò xs Ñ Ï ô=>?_);refine Base.eH Ï.base h2 ô fun ó Í aA fY=>?_;refine⟨kX h3 fY.len,lM (n:=0) (t:=ò.toks) aA fY fun İ ĩ Ŝ bH=>?_⟩;exact hq _ _ _ (Ñ.trans (Í.trans ĩ).toGst) (Ï.next (Í.trans ĩ) (fun b o e=>ō _ e) Ŝ) bH
theorem QV(h1:ĺ prog w Z d es S ⟨H,ρ,κ⟩ vs)(h2:ē H vs=some (H₁,vs'))(h3:small vs'=true):Ű prog w Z d (.li es) S ⟨H₁++[.lst vs'],ρ,κ⟩ (.Ó H₁.length):=by
 intro cx x env A g s Q E hx C hq;obtain⟨ys,p,rfl,hp,e1⟩:=iv hx;refine wpAny_List (h1 _ _ _ _ _ _ _ _ _ e1 hp C fun Ü ò xs Ñ Ï ô=>?_);refine Base.eH Ï.base h2 ô fun ó Í aA fY=>?_;refine⟨kX h3 fY.len,aA.fH (n:=0) (t:=ò.toks) (Q:=Q) fY fun İ iU z ĩ ua Ŝ bH=>?_⟩;exact hq _ _ _ (Ñ.trans (Í.trans ĩ).toGst) (Ï.next (Í.trans ĩ) ua Ŝ) bH
end
section
section
variable(prog:Program)(w:World)(Z:Ě)
def vS(d:Nat)(t:Tg)(v:V)(st Ċ:St):Prop:=∀cx x env A g s y Q E,fg cx x=t→Ok Z d cx A env g s st→ć Z g v y→mH Z d cx A env g Ċ (Q ())→õ prog w A (assign x env y) Q E s
end
variable{st Ċ S Å Í:St}{H H' H₁ Ö:List Cell}{ρ κ á ë:List (Option V)}{es as:List PE}{vs vs':List V}{v:V}{e t:PE}{q:Bool}{X:PS}{Y B D:List PS}{o:Out}
theorem mG{h':Heap}(k:Heap.ExtBut s.heap.objs.size s.heap h'):LG s h':=fun b o e=>k b o (eV (eX e)) e
theorem hM(C:Ok Z d cx A env g s st){x:Õ}{k:Bool}{i:Nat}{v:V}{y:Value}{Q:Unit→Shared→Prop}{E:Value→Shared→Prop}
  (hv:Ę cx x=some (k,i))(hs:Ş st k i v=some Ċ)(hx:ć Z g v y)(hq:∀s',Ok Z d cx A env g s' Ċ→Q () s'):õ prog w A (bindName env x y) Q E s:=by
 refine wpAny_bindName ?_;have hi:=C.i;have he:=C.e;obtain⟨m,hm,PX⟩:=hi.gJ.locs
 induction k using ñ with
 |false=>
  (refine cJ hs fun À À zq=>?_;obtain rfl:=zq)
  obtain⟨h1,h2,h3⟩:=he.loc hv;refine wpAny_storeName_local h1 (he.L▸hm) (fun h' hn xe=>hq _ (C.to (.refl g) ⟨?_,hi.gJ.loc,⟨_,he.L▸hn,uN (cx:=cx) PX h3 hx⟩,fun j ov hj=>?_⟩)) (by rw[he.kind];rfl)
  ·have al:∃o,h'.get? g.L=some o:=by rw[he.L]at hn;obtain⟨o,es,ep,q,_⟩:=hn;exact⟨o,q⟩
   exact hi.base.other (s.toks+1) (.inr (.inl hi.gJ.loc)) (he.L▸xe) (.inr al)
  ·obtain⟨c,t,q1,q2,q3,q4⟩:=hi.gJ.vars j ov hj;refine⟨c,t,q1,q2,q3.sameBut xe fun e=>?_,q4⟩;rw[he.L]at e;rw[e,hi.gJ.loc]at q2;exact neT Role.ctorIdx q2 rfl
 |true=>
  (refine cJ hs fun ov ZJ zq=>?_;obtain rfl:=zq)
  obtain⟨h1,h2,c,h3,h4⟩:=he.cell hv;obtain⟨c',t,q1,q2,q3,q4⟩:=hi.gJ.vars i ov ZJ;rw[h4]at q1;(replace q1:=ì q1;subst q1);refine wpAny_storeName_cell he.kind h1 h3 q3 (fun h' hc xe=>hq _ (C.to (.refl g) ⟨?_,hi.gJ.loc,⟨m,hm.sameBut xe fun e=>?_,PX⟩,fun j Y6 hj=>?_⟩))
  ·have al:∃o,h'.get? c=some o:=by obtain⟨o,q,_⟩:=hc;exact⟨o,q⟩
   exact hi.base.other s.toks (.inr (.inr ⟨i,q2⟩)) xe (.inr al)
  ·have:=hi.gJ.loc;rw[e,q2]at this;exact neT Role.ctorIdx this rfl
  ·rcases kz hj with⟨rfl,e⟩|⟨ne,e⟩
   ·subst e;exact⟨c,some y,h4,q2,hc,fun u hu=>by(replace hu:=ì hu;subst hu);exact⟨y,rfl,hx⟩⟩
   ·obtain⟨cj,tj,p1,p2,p3,p4⟩:=hi.gJ.vars j Y6 e;refine⟨cj,tj,p1,p2,p3.sameBut xe fun e=>?_,p4⟩;rw[e,q2]at p2
    (injection p2 with p2;subst p2)
    exact ne rfl
inductive O7(cx:Cx)(t:Expr)(r:List Expr)(l:List (Bool×Nat)):Prop
 |mk (x:Õ) (p:Pos) (k:Bool) (i:Nat) (l':List (Bool×Nat)) (e:t=.Name x p) (h1:Ę cx x=some (k,i)) (h2:Š cx r=some l') (e':l=(k,i)::l')
theorem dk{t:Expr}{r:List Expr}{l:List (Bool×Nat)}(h:Š cx (t::r)=some l):O7 cx t r l:=by
 refine ï h fun x h1 h=>?_;refine ï h fun q h2 h=>?_
 (refine cJ h fun l' h3 zq=>?_;obtain rfl:=zq)
 obtain⟨p,rfl⟩:=gC h1;exact⟨x,p,q.1,q.2,l',rfl,h2,h3,rfl⟩
theorem jS{ts:List Expr}{l:List (Bool×Nat)}(h:Š cx ts=some l):(assignEach ts env).findIdx? (·.1)=none∧(assignEach ts env).length=l.length:=by
 induction ts generalizing l with
 |nil=>
  (replace h:=ì h;subst h);exact⟨rfl,rfl⟩
 |cons t r IH=>
  obtain⟨x,p,k,i,l',rfl,h1,h2,rfl⟩:=dk h;obtain⟨a,b⟩:=IH h2;have e:assignEach (.Name x p::r) env=(false,assign (.Name x p) env)::assignEach r env:=rfl;rw[e];exact⟨by rw[List.findIdx?_cons,a];rfl,congrArg (· +1) b⟩
theorem my:∀{ts:List Expr} {l:List (Bool×Nat)} {vs:List V} {xs:List Value} {s:Shared} {st Ċ:St} {Q:Unit→Shared→Prop} {E:Value→Shared→Prop},Š cx ts=some l→Ok Z d cx A env g s st→Ď st l vs=some Ċ→Ł Z g vs xs→
  (∀s',Ok Z d cx A env g s' Ċ→Q () s')→õ prog w A (assignInOrder ((assignEach ts env).map (·.2)) xs) Q E s
 |[],l,vs,xs,s,st,Ċ,Q,E,h,C,hs,hv,hq=>by
  (replace h:=ì h;subst h)
  induction vs using Ū with
  |cons=>exact nS hs
  |nil=>(replace hs:=ì hs;subst hs);subst hv;exact wpAny_pure (hq s C)
 |t::r,l,vs,xs,s,st,Ċ,Q,E,h,C,hs,hv,hq=>by
  obtain⟨x,p,k,i,l',rfl,h1,h2,rfl⟩:=dk h
  induction vs using Ū with
  |nil=>exact nS hs
  |cons v vs=>
   obtain⟨y,ys,rfl,hy,ZD⟩:=hv;refine ï hs fun ĉ NL hs=>?_;show õ prog w A (do holding ys (do standAt p;bindName env x y);assignInOrder ((assignEach r env).map (·.2)) ys) Q E s;refine wpAny_bind (wpAny_holding (wpAny_bind (wpAny_standAt ?_)));exact hM C h1 NL hy fun ò Ï=>my h2 Ï hs ZD hq
theorem tv{x:Expr}{e:Tg}(h:fg cx x=e):Pw cx x e:=h▸erT cx x
theorem sv{x:Stmt}{e:PS}(h:OA cx x=e):jt cx x e:=h▸T7 cx x
theorem Jy{k:Bool}{i:Nat}(h:Ş S k i v=some Å):vS prog w Z d (.n k i) v S Å:=by
 intro cx x env A g s y Q E hx C hv hq;obtain⟨n,p,rfl,h1⟩:=tv hx;show õ prog w A (do standAt p;bindName env n y) Q E s;exact wpAny_bind (wpAny_standAt (hM C h1 h hv fun t C'=>hq g t (.refl g) C'))
theorem gV{ts:List Expr}{k:Nat}{p:Pos}{l:List (Bool×Nat)}{vs:List V}{ys:List Value}{a:Addr}{Q:Unit→Shared→Prop}{E:Value→Shared→Prop}(h1:Š cx ts=some l)(h2:Ď S l vs=some Å)(C:Ok Z d cx A env g s S)(ht:s.heap.IsTuple a ys.toArray)(hv:Ł Z g vs ys)
  (hq:mH Z d cx A env g Å (Q ())):õ prog w A (assign (.Tuple ts k p) env (.ref a)) Q E s:=by
 obtain⟨e1,e2⟩:=jS (env:=env) h1;refine wpAny_assign_Tuple C.r.hd ht (by rw[e2,(fy h2).1,←hv.len];rfl) e1 fun h' k=>?_;exact my h1 (C.KQ (mG k) s.toks) h2 hv fun t C'=>hq g t (.refl g) C'
theorem Jx{l:List (Bool×Nat)}(h:view S.H v=some (.tup vs))(h2:Ď S l vs=some Å):vS prog w Z d (.t l) v S Å:=by
 intro cx x env A g s y Q E hx C hv hq;obtain⟨ts,k,p,rfl,h1⟩:=tv hx;obtain⟨a,o,ys,rfl,k,q,r⟩:=C.view hv h;exact gV h1 h2 C (Base.eE k q) r.v7 hq
theorem vX.mono{Q:Flow→Shared→Prop}{E:Value→Shared→Prop}(h:vX Z d cx A env g st o Q E)(G:Gst g g'):vX Z d cx A env g' st o Q E:=⟨fun À À À G'=>h.q _ _ _ (G.trans G'),fun e À À À G'=>h.x e _ _ _ (G.trans G')⟩
theorem Jj:fj prog w Z d [] S S .next:=by
 intro cx ys env A g s Q E hx C hq;obtain rfl:=tA hx;exact wpAny_execs_nil (hq.q g s .next (.refl g) C rfl)
theorem yo(h1:vQ prog w Z d X S Å .next)(h2:fj prog w Z d Y Å Í o):fj prog w Z d (X::Y) S Í o:=by
 intro cx ys env A g s Q E hx C hq;obtain⟨x,r,rfl,e1,e2⟩:=jk hx;refine wpAny_execs_cons (h1 _ _ _ _ _ _ _ _ e1 C ⟨fun Ü ò f Ñ Ï nj=>?_,(fun q=>neT Out.ctorIdx q rfl)⟩);obtain rfl:f=.next:=nj;exact h2 _ _ _ _ _ _ _ _ e2 Ï (hq.mono Ñ)
theorem Ae(h1:vQ prog w Z d X S Å o)(ho:Bs o=false):fj prog w Z d (X::Y) S Å o:=by
 intro cx ys env A g s Q E hx C hq;obtain⟨x,r,rfl,e1,e2⟩:=jk hx;refine wpAny_execs_cons (h1 _ _ _ _ _ _ _ _ e1 C ⟨fun Ü ò f Ñ Ï nj=>?_,hq.x⟩)
 induction o using Out.casesOn with
 |next=>exact ĕ ho
 |ret v=>obtain⟨y,rfl,hy⟩:=nj;exact hq.q _ _ _ Ñ Ï ⟨y,rfl,hy⟩
 |_=>exact nj.elim
theorem QP:vQ prog w Z d .pa S S .next:=by
 intro cx x env A g s Q E hx C hq;obtain⟨p,rfl⟩:=sv hx;exact wpAny_Pass (hq.q g s .next (.refl g) C rfl)
theorem QM(h1:Ű prog w Z d e S Å v):vQ prog w Z d (.re e) S Å (.ret v):=by
 intro cx x env A g s Q E hx C hq;obtain⟨y,p,rfl,e1⟩:=sv hx;exact wpAny_Return_some (h1 _ _ _ _ _ _ _ _ e1 C fun Ü ò x Ñ Ï ô=>hq.q _ _ _ Ñ Ï ⟨x,rfl,ô⟩)
theorem QY(h1:gy prog w Z d t S Å q)(h2:q=true→fj prog w Z d B Å Í o)(h3:q=false→fj prog w Z d D Å Í o):vQ prog w Z d (.if t B D) S Í o:=by
 intro cx x env A g s Q E hx C hq;obtain⟨y,c,e,p,rfl,e1,e2,e3⟩:=sv hx;refine wpAny_If (h1 _ _ _ _ _ _ _ _ e1 C fun Ü ò Ñ Ï=>?_)
 induction q using ñ with
 |true=>exact h2 rfl _ _ _ _ _ _ _ _ e2 Ï (hq.mono Ñ)
 |false=>exact h3 rfl _ _ _ _ _ _ _ _ e3 Ï (hq.mono Ñ)
theorem aZ{e:Expr}{t:Option Expr}{n:Nat}{env:Env}(h:jf e=false):swapsWith e t n env=pure false:=by
 induction e using PySem.Expr.casesOn<;>first|rfl|exact ĕ h
theorem aY.quiet{env:Env}(he:aY Z cx g env):interactive env=false:=by
 unfold interactive;rw[he.kind];rfl
theorem Q2(h1:Ű prog w Z d e S Å v):vQ prog w Z d (.ex e) S Å .next:=by
 intro cx x env A g s Q E hx C hq;obtain⟨y,p,rfl,hc,e1⟩:=sv hx;exact wpAny_Expr_any (h1 _ _ _ _ _ _ _ _ e1 C fun Ü ò x Ñ Ï ô=>hq.q _ _ _ Ñ Ï rfl) C.e.quiet (aZ hc)
theorem QI{c:Nat}(h1:fj prog w Z d B S Å o)(ho:o≠.exc):vQ prog w Z d (.tr B c D) S Å o:=by
 intro cx x env A g s Q E hx C hq;obtain⟨y,z,np,k,ep,p,rfl,_,e1,_⟩:=sv hx;refine wpAny_Try_except (h1 _ _ _ _ _ _ _ _ e1 C ⟨fun Ü ò f Ñ Ï nj=>?_,fun e=>absurd e ho⟩)
 induction o using Out.casesOn with
 |next=>obtain rfl:f=.next:=nj;exact wpAny_execs_nil (hq.q _ _ _ Ñ Ï rfl)
 |ret v=>obtain⟨y,rfl,hy⟩:=nj;exact hq.q _ _ _ Ñ Ï ⟨y,rfl,hy⟩
 |_=>exact nj.elim
def LoopAt(prog:Program)(w:World)(Z:Ě)(d:Nat)(cx:Cx)(A:Around)(env:Env)(g:Gh)(s:Shared)(c:Code)(Ċ:St)(o:Out):Prop:=
 ∀RR:Result→Shared→Prop,(∀g' s' f,Gst g g'→Ok Z d cx A env g' s' Ċ→vU Z g' o f→RR (.ok f) s')→codeAny (model prog w) A c RR s
theorem LoopAt.mono(h:LoopAt prog w Z d cx A env g' s (c:Code) Ċ o)(G:Gst g g'):LoopAt prog w Z d cx A env g s c Ċ o:=fun RR hq=>h RR fun ó Ğ f ù C O=>hq ó Ğ f (G.trans ù) C O
def zj(prog:Program)(w:World)(Z:Ě)(d:Nat)(t:PE)(b:List PS)(st Ċ:St)(o:Out):Prop:=o≠.exc∧∀cx x ys env A g s,er cx x=t→bF cx ys=b→Ok Z d cx A env g s st→LoopAt prog w Z d cx A env g s (.whileLoop x ys [] env) Ċ o
theorem gL{t:Expr}{b:List Stmt}{env:Env}{RR:Result→Shared→Prop}
  (h:∀E,õ prog w A (isTrue t env (eval t env)) (fun c Ğ=>if c then ∀E,õ prog w A (execs b env) (fun f aM=>match f with
    |.next|.cont=>codeAny (model prog w) A (.whileLoop t b [] env) RR aM
    |.brk=>RR (.ok .next) aM
    |.ret v=>RR (.ok (.ret v)) aM) E Ğ else RR (.ok .next) Ğ) E s):codeAny (model prog w) A (.whileLoop t b [] env) RR s:=by
 refine codeAny_of_tree ?_;show wpAny _ A ((whileTurn t b [] env).onRaise (fun x=>do noteFrame x env;theTreesLotGoes x)) _ _ s;refine wpAny_noted ?_;simp only[whileTurn];refine wpAny_bind (wpAny_mono (h _) (fun c Ğ cR=>?_) fun À À h'=>h')
 induction c using ñ with
 |false=>
  simp only[Bh,if_false]at cR ⊢;exact wpAny_bind (wpAny_execs_nil (wpAny_pure cR))
 |true=>
  simp only[if_true]at cR ⊢;refine wpAny_bind (wpAny_mono (cR _) (fun f aM ņ=>?_) fun À À h'=>h')
  induction f using PySem.Flow.casesOn with
  |next=>exact wpAny_pure ⟨rfl,ņ⟩
  |cont=>exact wpAny_pure ⟨rfl,ņ⟩
  |brk=>exact wpAny_pure ņ
  |ret v=>exact wpAny_pure ņ
theorem Mw(h1:gy prog w Z d t S Å true)(h2:fj prog w Z d B Å Í .next)(h3:zj prog w Z d t B Í S' o):zj prog w Z d t B S S' o:=by
 refine⟨h3.1,fun cx x ys env A g s hx hy C RR hq=>gL fun E=>?_⟩;refine h1 _ _ _ _ _ _ _ _ hx C fun Ü ò Ñ Ï=>?_;rw[if_pos rfl];intro E;refine h2 _ _ _ _ _ _ _ _ hy Ï ⟨fun ó Ļ f ù è Lz=>?_,(fun q=>neT Out.ctorIdx q rfl)⟩;obtain rfl:f=.next:=Lz;exact(h3.2 _ _ _ _ _ _ _ hx hy è).mono (Ñ.trans ù) RR hq
theorem Mx(h1:gy prog w Z d t S Å true)(h2:fj prog w Z d B Å Í (.ret v)):zj prog w Z d t B S Í (.ret v):=by
 refine⟨(fun q=>neT Out.ctorIdx q rfl),fun cx x ys env A g s hx hy C RR hq=>gL fun E=>?_⟩;refine h1 _ _ _ _ _ _ _ _ hx C fun Ü ò Ñ Ï=>?_;rw[if_pos rfl];intro E;refine h2 _ _ _ _ _ _ _ _ hy Ï ⟨fun ó Ļ f ù è Lz=>?_,(fun q=>neT Out.ctorIdx q rfl)⟩;obtain⟨y,rfl,hy⟩:=Lz;exact hq _ _ _ (Ñ.trans ù) è ⟨y,rfl,hy⟩
theorem My(h1:gy prog w Z d t S Å false):zj prog w Z d t B S Å .next:=by
 refine⟨(fun q=>neT Out.ctorIdx q rfl),fun cx x ys env A g s hx hy C RR hq=>gL fun E=>?_⟩;exact h1 _ _ _ _ _ _ _ _ hx C fun Ü ò Ñ Ï=>hq _ _ _ Ñ Ï rfl
theorem œ.down(h:œ (d+1) A g):œ d A g:=⟨h.hd,by have:=h.depth;exact ä [_,_,_] (.c (.a (.a (.a Â (.m 4 (.a È Á))) Ĵ) Á) ã .z) (.a (.a (.a Â (.m 4 È)) Ĵ) Á) ã rfl this,by have:=h.units;exact ä [_,_,_] (.c (.a (.a (.a Â (.m 20 (.a È Á))) bL) Á) ã .z) (.a (.a (.a Â (.m 20 È)) bL) Á) ã rfl this,h.frames⟩
theorem Ok.down(C:Ok Z (d+1) cx A env g s st):Ok Z d cx A env g s st:=⟨C.r.down,C.e,C.i,C.f⟩
theorem Ok.lift(C:Ok Z (d+1) cx A env g s st){g' s' Ċ}(G:Gst g g')(C':Ok Z d cx A env g' s' Ċ):Ok Z (d+1) cx A env g' s' Ċ:=⟨C.r.mono G,C'.e,C'.i,C'.f⟩
theorem QF(h1:zj prog w Z d t B S Å o):vQ prog w Z (d+1) (.wh t B) S Å o:=by
 intro cx x env A g s Q E hx C hq;obtain⟨y,c,p,rfl,e1,e2⟩:=sv hx;exact wpAny_While (h1.2 _ _ _ _ _ _ _ e1 e2 C.down _ fun g' s' f G C' O=>hq.q g' s' f G (C.lift G C') O)
end
section
variable{st Ċ S Å Í:St}{H H' H₁ Ö:List Cell}{ρ κ á ë:List (Option V)}{es as:List PE}{vs vs':List V}{v x:V}{e t:PE}{c n j:Nat}{l:List (Nat×V)}
inductive DQ(h:Heap)(tab a:Addr):Prop
 |mk (o:Obj) (fd:FuncData) (e:h.get? a=some o) (q:o.data=.func fd) (c:o.cls=.type "function") (n:a≠tab)
inductive ClsAt(h h₀:Heap)(tab:Addr)(Ŷ:List Õ)(fn:Nat→Addr)(P:Č)(c:Nat):Prop
 |mk (nm q:Õ) (N:Addr) (bs:List Value) (sn:List Õ) (sub:List Value) (col:Option Bool) (dd:Option Addr) (k0 k1 k2 k3 k5:Option Value) (mN:Õ→Option Value) (c1:N≠tab)
   (c2:h.get? (fi c)=some (excClassObj nm q (fi c) N bs [.type "object"] true sn sub false col dd k0 k1 k2 k3 k5 "object.__new__")) (c3:h.Ns N mN)
   (c4:mN "__getattribute__"=none) (c5:mN "__getattr__"=none) (c6:mN "__setattr__"=none)
   (c7:∀a x,é Ŷ a=some x→P.gw c a=none→mN x=none) (c8:∀a x j,é Ŷ a=some x→P.gw c a=some j→mN x=some (.ref (fn j))∧DQ h₀ tab (fn j)) (c9:∀j,P.init c=some j→mN "__init__"=some (.ref (fn j))∧DQ h₀ tab (fn j))
structure ae(Z:Ě)(K:dn Z)(P:Č)(c:Nat):Prop where
 tab:fi c≠Z.tab
 all:ClsAt Z.sh.heap Z.sh.heap Z.tab Z.Ŷ K.fn P c
theorem Base.Ľ(B:Base Z g s H){a:Addr}{o:Obj}(e:Z.sh.heap.get? a=some o)(n:a≠Z.tab):s.heap.get? a=some o:=B.Ô _ _ (B.top _ _ e n)
theorem ae.now(F:ae Z K P c)(B:Base Z g s H):ClsAt s.heap Z.sh.heap Z.tab Z.Ŷ K.fn P c:=by
 obtain⟨nm,q,N,bs,sn,sub,col,dd,k0,k1,k2,k3,k5,mN,c1,c2,c3,c4,c5,c6,c7,c8,c9⟩:=F.all;exact⟨nm,q,N,bs,sn,sub,col,dd,k0,k1,k2,k3,k5,mN,c1,B.Ô _ _ (B.top _ _ c2 F.tab),B.du c3 c1,c4,c5,c6,c7,c8,c9⟩
structure cg(Z:Ě):Prop where
 nd:Z.Ŷ.Nodup
 obj:∀a x,é Z.Ŷ a=some x→typeLookup (.type "object") x=pure none
 small:Z.Ŷ.length≤sizeLine
theorem xD(cS:cg Z){a b:Nat}{x:Õ}(h:é Z.Ŷ a=some x)(h':é Z.Ŷ b=some x):a=b:=by
 have n1:=gR (n:=0) cS.nd h;have n2:=gR (n:=0) cS.nd h';have:=ì (n1.symm.trans n2);exact cQ (ä [_,_] (.c (.a Ē Â) (.a Ē È) .z) Â È rfl (Ņ this)) (ä [_,_] (.c (.a Ē Â) (.a Ē È) .z) Â È rfl (Ņ this.symm))
theorem zi{x:Nat}{v:V}{l:List (Nat×V)}(h:d7 x l=some v):(x,v)∈l:=by
 induction l with
 |nil=>
  exact nS h
 |cons fm l IH=>
  obtain⟨y,d⟩:=fm;have h:(if Þ y x then some d else d7 x l)=some v:=h
  induction e:Þ y x using ñ with
  |true=>rw[e]at h;(replace h:=ì h;subst h);rw[Ģ e];exact ŭ
  |false=>rw[e]at h;exact ŧ _ (IH h)
theorem rC{k:FH}{Y:Sta}{es:List DictEntry}{x:Nat}{v:V}{l:List (Nat×V)}(q:iH Y k l es)(h:(x,v)∈l):T2 fun s z=>A3 (é Y.Ŷ x=some s) (nsFind es.toArray s=some z) (Rep Y k v z):=by
 induction l with
 |nil=>
  cases h
 |cons fm l IH=>
  obtain⟨y,d⟩:=fm;obtain⟨s,z,h1,h2,h3,h4⟩:=q;rcases Ą.mp h with e|h
  ·cases e;exact⟨s,z,h1,h2,h3⟩
  ·exact IH h4 h
theorem mz{x:Nat}:∀{l:List (Nat×V)},d7 x l=none→∀d,(x,d)∉l
 |[],_,_,hm=>by cases hm
 |(y,d)::l,h,d',hm=>by
  have h:(if Þ y x then some d else d7 x l)=none:=h
  induction e:Þ y x using ñ with
  |true=>rw[e]at h;exact sN h
  |false=>
   rw[e]at h;rcases Ą.mp hm with q|hm
   ·(injection q with q;subst q);rw[jN]at e;exact ĕ e
   ·exact mz h d' hm
inductive InstAt(Y:Sta)(h:Heap)(k:FH)(c:Nat)(l:List (Nat×V))(x:Value):Prop
 |mk (a:Addr) (es:List DictEntry) (e:x=.ref a) (i:h.Inst a (fi c) (nsFind es.toArray)) (w:mJ Y.Ŷ l es) (r:iH Y k l es)
theorem xb{x:Value}(hx:ś Z.toSta s.heap g.k (.ins c l) x):InstAt Z.toSta s.heap g.k c l x:=by
 obtain⟨a,o,dx,od,es,rfl,h1,⟨i1,i2,i3,i4⟩,h2,⟨n,h3⟩,h4,h5⟩:=hx;exact⟨a,es,rfl,⟨_,h1,i1,i3,.inr ⟨dx,i2,i4,⟨od,_,n,h2,h3,h4.keys,h4.uniq,fun À=>rfl⟩⟩⟩,h4,h5⟩
theorem handed{Y:Sta}{k:FH}{v:V}{z:Value}(h:Rep Y k v z):handedOut z=pure z:=by
 induction h.vk using VK.casesOn<;>subst_vars<;>rfl
theorem yf{id:Õ}{p pos:Pos}(h:da (.Call (.Name id p) [] [] pos)=false):(id !="super")=true:=by
 have h:(true&&true&&(some id==some ("super":Õ)))=false:=h;rw[sI,sI]at h;exact bne_iff_ne.mpr fun e=>by rw[e,beq_self_eq_true]at h;exact ĕ h
theorem eM{e:Expr}{a:Õ}{env:Env}{t:Sem Value}(h:da e=false):attributeBase e a env t=t:=by
 induction e using PySem.Expr.casesOn with
 |Call f as ks pos=>induction f using PySem.Expr.casesOn with
  |Name id p=>induction as using Ū with
   |nil=>induction ks using Ū with
    |nil=>exact if_pos (lU.mpr (.inl (lU.mpr (.inl (lU.mpr (.inl (yf h)))))))
    |cons=>rfl
   |cons=>rfl
  |_=>rfl
 |_=>rfl
theorem Fz(Tp:ae Z K P c)(cS:cg Z)(B:Base Z g s H){x:Value}{a:Nat}{name:Õ}{v:V}{ex:Bool}{Q:Value→Shared→Prop}{E:Value→Shared→Prop}
  (hx:ś Z.toSta s.heap g.k (.ins c l) x)(hm:P.gw c a=none)(hl:d7 a l=some v)(hn:é Z.Ŷ a=some name)
  (hq:∀t z,Rep Z.toSta g.k v z→Q z {s with toks:=t}):õ prog w A (getAttr x name ex) Q E s:=by
 obtain⟨ad,es,rfl,hI,h4,h5⟩:=xb hx;obtain⟨nm,q,N,bs,sn,sub,col,dd,k0,k1,k2,k3,k5,mN,c1,c2,c3,c4,c5,c6,c7,c8,c9⟩:=Tp.now B;obtain⟨s',z,e1,e2,e3⟩:=rC h5 (zi hl);rw[hn]at e1;(replace e1:=ì e1;subst e1);exact load_attr c2 c3 c4 (c7 a _ hn hm) (cS.obj a _ hn) hI e2 (handed e3) (hq _ z e3)
theorem insI{v:V}{p:Nat×List (Nat×V)}(h:sQ v=some p):v=.ins p.1 p.2:=mO (f:=fun p=>V.ins p.1 p.2) h (by induction v using V.casesOn<;>first|exact trivial|exact rfl)
theorem jR{H:L}{v:V}(h:fields H v=some (c,l)):view H v=some (.ins c l):=by
 refine ï h fun x h1 h2=>?_;rw[h1,insI h2]
theorem Rb(hc:∀c j,P.init c=some j→ae Z K P c)(cS:cg Z)(h1:Ű prog w Z d e S ⟨H,ρ,κ⟩ v)(h2:fields H v=some (c,l))(h3:P.init c=some j)(h4:P.gw c n=none)(h5:d7 n l=some x):Ű prog w Z d (.at e n) S ⟨H,ρ,κ⟩ x:=by
 intro cx x env A g s Q E hx C hq;obtain⟨y,a,p,rfl,BJ,vt,e1⟩:=iv hx;rw[arm_eval_Attribute,eM BJ];refine wpAny_bind (h1 _ _ _ _ _ _ _ _ e1 C fun Ü ò ŵ Ñ Ï ô=>?_);refine wpAny_bind (wpAny_standAt (wpAny_bind (wpAny_holding ?_)));refine Fz (hc c j h3) cS Ï.base (Ï.view ô (jR h2)) h4 h5 (Ï.e.Ŷ▸dc vt) fun t z hz=>?_;exact wpAny_bind (wpAny_letTemporaryGo (wpAny_pure (hq _ _ _ Ñ (Ï.toks t) hz.iM)))
end
section
variable{st Ċ S Å Í:St}{H H' H₁ Ö:List Cell}{ρ κ á ë Ŕ Ĺ:List (Option V)}{es as:List PE}{vs vs':List V}{v x:V}{e t:PE}{c n j m:Nat}{l:List (Nat×V)}
theorem d5{M:Model}{A:Around}{E:Value→Shared→Prop}{s:Shared}{pos:Pos}{f:Value}{first:List Value}{args:List (Bool×Sem Value)}{Q:Value→Shared→Prop}(hp:args.any (·.1)=false)
  (h:wpAny M A (spliced args) (fun vs ĉ=>(∀Q:Keeper→Shared→Prop,Q .machine ĉ→wpAny M A (keeperOf f) Q E ĉ)∧wpAny M A (call f (first++vs)) Q E ĉ) E s):wpAny M A (callWith pos f first args []) Q E s:=by
 unfold callWith;refine wpAny_bind (wpAny_holding (ı hp (wpAny_mono h (fun vs ĉ bx=>wpAny_bind (wpAny_standAt ?_)) fun À À x=>x)));simp only[hp,List.any_nil,Bool.or_false];refine wpAny_bind (bx.1 _ ?_);exact wpAny_bind (wpAny_mono bx.2 (fun r Ğ hr=>wpAny_bind (wpAny_holding (wpAny_point (wpAny_pure hr)))) fun À À x=>x)
theorem Gk{ys:List Expr}{pos:Pos}(hp:plain ys=true)(hn:ys.length<20):methodCallForm (ys.length+0) (backTo pos (starEach ys env)) []=true:=by
 have:=plain_any (env:=env) (pos:=pos) hp;unfold methodCallForm;simp only[List.all_nil,List.isEmpty_nil,Bool.and_true,if_true,Nat.add_zero,ar,decide_eq_true_eq];refine⟨gG.mpr fun x hx=>?_,by exact ă ‹_› (by decide)⟩;rw[List.any_eq_false]at this
 simpa using this x hx
theorem method_call{o:Expr}{ys:List Expr}{a:Õ}{apos pos:Pos}{u f:Value}{first:List Value}{Q:Value→Shared→Prop}{E:Value→Shared→Prop}(hp:plain ys=true)(sY:(apos.endLine==pos.line)=true)(hn:ys.length<20)
  (key:∀(Q:Value×List Value→Shared→Prop),Q (f,first) s'→∀pl,õ prog w A (getMethod u a pl) Q E s)(h:∀p,õ prog w A (callWith p f first (backTo pos (starEach ys env)) []) Q E s'):
  õ prog w A (methodCall o a apos pos env u (ys.length+0) (backTo pos (starEach ys env)) []) Q E s:=by
 unfold methodCall;rw[Gk hp hn];refine wpAny_bind (wpAny_holding (key _ ?_ _));refine wpAny_bind ?_;unfold methodCallPos;rw[sY];exact wpAny_pure (h _)
theorem QT(hc:∀c j,P.init c=some j→ae Z K P c)(cS:cg Z)(h1:Ű prog w Z d e S ⟨H,ρ,κ⟩ v)(h2:fields H v=some (c,l))(h3:P.init c=some m)(h4:d7 n l=none)(h5:P.gw c n=some j)(h6:ĺ prog w Z d as ⟨H,ρ,κ⟩ ⟨H₁,á,ë⟩ vs)
  (h7:cF prog w Z K d j (v::vs) H₁ ⟨Ö,Ŕ,Ĺ⟩ x):Ű prog w Z d (.me e n as) S ⟨Ö,á,ë⟩ x:=by
 intro cx x env A g s Q E hx C hq;obtain⟨y,a,ap,ys,p,rfl,hp,BJ,sY,hlen,vt,e1,e2⟩:=iv hx;rw[arm_eval_Call,eM BJ];refine wpAny_bind (h1 _ _ _ _ _ _ _ _ e1 C fun Ü ò ŵ Ñ Ï ô=>wpAny_bind (wpAny_standAt ?_));have eY:é Z.Ŷ n=some a:=C.e.Ŷ▸dc vt;obtain⟨ad,es,rfl,hI,q4,q5⟩:=xb (Ï.view ô (jR h2));obtain⟨nm,q,N,bs,sn,sub,col,dd,k0,k1,k2,k3,k5,mN,c1,c2,c3,c4,c5,c6,c7,c8,c9⟩:=(hc c m h3).now Ï.base;obtain⟨m1,of,fd,f1,f2,f3,f4⟩:=c8 n a j eY h5;have ZN:nsFind es.toArray a=none:=by
  induction q:nsFind es.toArray a using ş with
  |none=>rfl
  |some z=>
   obtain⟨x,dv,ZP,LO⟩:=q4.only a z q;rw[xD cS eY LO]at h4;exact absurd ZP (mz h4 dv)
 refine method_call hp sY hlen (fun Q hQ pl=>method_of c2 c3 c4 c5 m1 (Ï.base.Ľ f1 f4) f3 (cS.obj n a eY) hI ZN hQ) fun À=>?_;refine Calls.callWith_function (o:=of) (fd:=fd) (ı (plain_any hp) ?_);refine h6 _ _ _ _ _ _ _ _ _ e2 hp Ï fun ó Ļ xs ù è ů=>⟨⟨è.base.Ľ f1 f4,f2⟩,?_⟩;exact h7 _ _ _ _ _ _ è.r è.i.gD è.base ⟨_,_,rfl,ô.mono ù,ů⟩ fun İ iU x ĩ ua Ŝ bH=>hq _ _ _ (Ñ.trans (ù.trans ĩ.toGst)) (è.fG ĩ ua Ŝ) bH
theorem p9{r:Role}(h:r=.free):(∀o,r≠.Ô o)∧r≠.tab:=by subst h;exact⟨by simp,by simp⟩
theorem lj{r:Role}{i:Nat}(h:r=.free):r≠.cell i∧r≠.cV i:=by subst h;exact⟨by simp,by simp⟩
theorem hR{r:Role}{h:Heap}{a:Addr}{o:Obj}{i:Nat}(e:r=.cell i∨r=.cV i)(ho:h.get? a=some o):A4 (∀o,r=.Ô o→h.get? a=some o) (∀o,r=.kept o→∃sl,h.get? a=some {o with slots:=sl}) (∀o,r=.held o→h.get? a=some o) (r≠.free→∃o,h.get? a=some o):=by
 rcases e with rfl|rfl<;>exact⟨by simp,by simp,by simp,fun À=>⟨o,ho⟩⟩
theorem Base.Fj(B:Base Z g s H){h':Heap}{x dx:Addr}{c:Nat}(M:Heap.MadeObj s.heap h' x dx (fi c))(t:Nat){C:Prop}
  (hq:∀g',ę g g'→Base Z g' {s with heap:=h',toks:=t} (H++[.ins c []])→ć Z g' (.Ó H.length) (.ref x)→C):C:=by
 have fr:∀a,s.heap.get? a=none→g.r a=.free:=fun a e=>Classical.byContradiction fun n=>by
  obtain⟨o,q⟩:=B.alive a n;rw[e]at q;cases q
 have fx:=fr x M.newX;have fd:=fr dx M.newD;obtain⟨o,ho,D5,Te,N2⟩:=M.inst;rcases N2 with⟨q,_⟩|⟨Ud,N3,dX,od,es,ep,PV,Tn,hk,hu,NR⟩
 ·rw[M.dict o ho]at q;cases q
 have e:=M.dict o ho;rw[N3]at e;cases e;have last:é (g.as++[x]) H.length=some x:=B.len▸eA _ _;generalize s9:(g.set x (.cell H.length)).set dx (.cV H.length)=Ü;have r1:Ü.r x=.cell H.length:=s9▸((g.set x _).ø _ (Ne.symm dX)).trans (g.þ ..);have r2:Ü.r dx=.cV H.length:=s9▸Gh.þ ..;have r3:∀b,b≠x→b≠dx→Ü.r b=g.r b:=fun b n1 n2=>s9▸((g.set x _).ø _ n2).trans (g.ø _ n1)
 have as:Ü.as=g.as:=s9▸rfl;have fd':(g.set x (.cell H.length)).r dx=.free:=(g.ø _ dX).trans fd;have S:ę g (Ü.snoc x):=s9▸((ę.set g fx).trans (ę.set _ fd')).trans (ę.snoc _ _);have last:é (Ü.snoc x).as H.length=some x:=by show é (Ü.as++[x]) _=_;rw[as];exact last
 refine hq (Ü.snoc x) S ?_ ⟨x,last,rfl⟩;refine B.gen (g':=Ü.snoc x) (fun b=>b=x∨b=dx) ?_ (fun b o À q=>M.keeps b o q) (fun b nd=>r3 b (fun q=>nd (.inl q)) fun q=>nd (.inr q)) ?_ ?_ (fun À À q=>by show é (Ü.as++[x]) _=_;rw[as];exact af q) fun i c' q=>?_
 ·rintro _ (rfl|rfl)
  ·exact p9 fx
  ·exact p9 fd
 ·rintro _ (rfl|rfl)
  ·exact hR (.inl r1) ho
  ·exact hR (.inr r2) PV
 ·show(Ü.as++[x]).length=_;rw[ċ,ċ,as,B.len];rfl
 ·rcases fF q with q|⟨rfl,rfl⟩
  ·refine .inl ⟨q,?_⟩
   rintro _ (rfl|rfl)
   ·exact lj fx
   ·exact lj fd
  ·have ee:es.toList.toArray=es:=Array.toArray_toList;refine .inr ⟨x,last,r1,o,dx,od,es.toList,ho,⟨D5,N3,Te,dX⟩,r2,PV,⟨ep,ee.symm▸Tn⟩,⟨ee.symm▸hk,ee.symm▸hu,fun s v q=>?_,lT⟩,trivial⟩;rw[ee,NR]at q;cases q
theorem œ.under{c:Code}(h:œ (d+1) A g)(h1:c.weight≤4)(h2:c.cUnits≤20)(h3:c.envs=[]):œ d (A.under c) g:=by
 refine⟨h.hd,?_,?_,?_⟩
 ·have:=h.depth;show A.depth+c.weight+4*d+2<_;exact ä [_,_,_,_] (.c È dM (.c (.a (.a (.a Â (.m 4 (.a ã Á))) Ĵ) Á) kg .z)) (.a (.a (.a (.a Â È) (.m 4 ã)) Ĵ) Á) kg rfl h1 this
 ·have:=h.units;show A.units+c.cUnits+20*d+30<_;exact ä [_,_,_,_] (.c È ť (.c (.a (.a (.a Â (.m 20 (.a ã Á))) bL) Á) kg .z)) (.a (.a (.a (.a Â È) (.m 20 ã)) bL) Á) kg rfl h2 this
 ·obtain⟨l,a,b⟩:=h.frames;refine⟨l,?_,b⟩;show pushEnvs c.envs A.frames=_;rw[h3];exact a
theorem Yx(C:Addr)(xs:List Value):(Code.builtin "type.__call__" ⟨.ref C::xs,[]⟩).weight=1:=rfl
theorem Yy(C:Addr)(xs:List Value):(Code.builtin "type.__call__" ⟨.ref C::xs,[]⟩).cUnits=1:=by kernel_rfl
theorem Yz(C:Addr)(xs:List Value):(Code.builtin "type.__call__" ⟨.ref C::xs,[]⟩).envs=[]:=by kernel_rfl
theorem rZ(hc:∀c j,P.init c=some j→ae Z K P c)(hg:cf Z K){cx:Cx}{f:Õ}{np p:Pos}{ys:List Expr}{Q:Value→Shared→Prop}{E:Value→Shared→Prop}(hf:dz cx f=some (.cls c))(hp:plain ys=true)(e1:fc cx ys=as)(h1:ĺ prog w Z (d+1) as S ⟨H,ρ,κ⟩ vs)(h2:P.init c=some j)
  (h3:cF prog w Z K d j (.Ó H.length::vs) (H++[.ins c []]) ⟨H₁,á,ë⟩ .none)(C:Ok Z (d+1) cx A env g s S)(hq:∀g' s' x,Gst g g'→Ok Z (d+1) cx A env g' s' ⟨H₁,ρ,κ⟩→ć Z g' (.Ó H.length) x→Q x s'):õ prog w A (eval (.Call (.Name f np) ys [] p) env) Q E s:=by
 refine av (ŋ hg C.e C.base hf fun z hz=>?_);obtain rfl:z=.ref (fi c):=hz;refine d5 (plain_any hp) ?_;refine h1 _ _ _ _ _ _ _ _ _ e1 hp C fun Ü ò xs Ñ Ï ô=>?_;obtain⟨nm,q,N,bs,sn,sub,col,dd,k0,k1,k2,k3,k5,mN,c1,c2,c3,c4,c5,c6,c7,c8,c9⟩:=(hc c j h2).now Ï.base;obtain⟨m1,of,fd,f1,f2,f3,f4⟩:=c9 j h2;refine⟨fun Q hQ=>wpAny_keeperOf_exc c2 hQ,wpAny_call_obj_init PySem.F.objNew c2 c3 m1 (Ï.base.Ľ f1 f4) f3 fun h' x dx M=>?_⟩;refine Ï.base.Fj M ò.toks fun ó Í aA ů=>?_;have è:Ok Z (d+1) cx A env ó {ò with heap:=h'} ⟨H++[.ins c []],ρ,κ⟩:=Ï.next Í (fun b o q=>M.keeps b o q) aA;have RM:œ d (A.under (.builtin "type.__call__" ⟨.ref (fi c)::xs,[]⟩)) ó:=è.r.under (by rw[Yx];decide) (by rw[Yy];decide) (Yz _ _);refine h3 _ _ _ _ _ _ RM è.i.gD è.base ⟨_,_,rfl,ů,ô.mono Í.toGst⟩ fun İ iU y ĩ ua Ŝ bH=>?_;exact⟨bH,hq _ _ _ (Ñ.trans (Í.trans ĩ).toGst) (è.fG ĩ ua Ŝ) (ů.mono ĩ.toGst)⟩
theorem Q7(hc:∀c j,P.init c=some j→ae Z K P c)(hg:cf Z K)(h1:ĺ prog w Z (d+1) as S ⟨H,ρ,κ⟩ vs)(h2:P.init c=some j)(h3:cF prog w Z K d j (.Ó H.length::vs) (H++[.ins c []]) ⟨H₁,á,ë⟩ .none)(h5:Ô H₁ (.Ó H.length)=some (Ö,v)):Ű prog w Z (d+1) (.cl c as) S ⟨Ö,ρ,κ⟩ v:=by
 intro cx x env A g s Q E hx C hq;obtain⟨f,np,ys,p,rfl,hp,hf,e1⟩:=iv hx;refine rZ hc hg hf hp e1 h1 h2 h3 C fun İ iU y ł ĸ bH=>?_;exact ĸ.base.bE h5 bH fun BZ eN nu vT=>hq _ _ _ (ł.trans eN.toGst) (ĸ.next eN (Keeps.refl _) nu) vT.iM
theorem Q4(hc:∀c j,P.init c=some j→ae Z K P c)(hg:cf Z K)(h1:ĺ prog w Z (d+1) as S ⟨H,ρ,κ⟩ vs)(h2:P.init c=some j)(h3:cF prog w Z K d j (.Ó H.length::vs) (H++[.ins c []]) ⟨H₁,á,ë⟩ .none):Ű prog w Z (d+1) (.cl c as) S ⟨H₁,ρ,κ⟩ (.Ó H.length):=by
 intro cx x env A g s Q E hx C hq;obtain⟨f,np,ys,p,rfl,hp,hf,e1⟩:=iv hx;exact rZ hc hg hf hp e1 h1 h2 h3 C hq
end
section
variable{st S:St}{H H₁ Ö:List Cell}{ρ κ:List (Option V)}{e:PE}{c n j m:Nat}{l:List (Nat×V)}{v v':V}
theorem gm(x z:Nat)(v u:V)(r:List (Nat×V)):(z=x∧gX x v ((z,u)::r)=(x,v)::r)∨(z≠x∧gX x v ((z,u)::r)=(z,u)::gX x v r):=by
 show(_∧(if Þ z x then(x,v)::r else(z,u)::gX x v r)=_)∨(_∧(if Þ z x then(x,v)::r else(z,u)::gX x v r)=_)
 induction e:Þ z x using ñ with
 |true=>exact .inl ⟨Ģ e,rfl⟩
 |false=>exact .inr ⟨Nat.ne_of_beq_eq_false e,rfl⟩
theorem CR{x y:Nat}{v d:V}(n:y≠x):∀{l:List (Nat×V)},(y,d)∈l→(y,d)∈gX x v l:=fun {l}=>by
 induction l with
 |nil=>exact nofun
 |cons p r ih=>
  intro h;rcases gm x p.1 v p.2 r with⟨e,q⟩|⟨e,q⟩<;>(refine q▸?_;rcases Ą.mp h with h|h)
  ·exact absurd ((congrArg (·.1) h).trans e) n
  ·exact .tail _ h
  ·exact h▸.head _
  ·exact .tail _ (ih h)
theorem CS{x:Nat}{v:V}:∀{l:List (Nat×V)},(x,v)∈gX x v l:=fun {l}=>by
 induction l with
 |nil=>exact .head _
 |cons p r ih=>
  rcases gm x p.1 v p.2 r with⟨e,q⟩|⟨e,q⟩<;>refine q▸?_
  ·exact e▸.head _
  ·exact .tail _ ih
theorem tQ{x y:Nat}{v d:V}:∀{l:List (Nat×V)},(l.map (·.1)).Nodup→(y,d)∈gX x v l→(y=x∧d=v)∨(y≠x∧(y,d)∈l):=fun {l}=>by
 induction l with
 |nil=>exact fun À h=>.inl (Prod.mk.inj (ė.mp h))
 |cons p r ih=>
  intro nd;obtain⟨nn,nd⟩:=eW.mp nd;rcases gm x p.1 v p.2 r with⟨e,q⟩|⟨e,q⟩<;>(refine fun h=>?_;rcases Ą.mp (q▸h)with h|h)
  ·exact .inl (Prod.mk.inj h)
  ·exact .inr ⟨fun e'=>nn (dT.mpr ⟨_,h,e'.trans e.symm⟩),.tail _ h⟩
  ·exact .inr ⟨fun e'=>e ((congrArg (·.1) h).symm.trans e'),h▸.head _⟩
  ·exact(ih nd h).imp id fun k=>⟨k.1,.tail _ k.2⟩
theorem GZ{x:Nat}{v:V}:∀{l:List (Nat×V)},(l.map (·.1)).Nodup→((gX x v l).map (·.1)).Nodup:=fun {l}=>by
 induction l with
 |nil=>exact fun À=>eW.mpr ⟨nofun,lT⟩
 |cons p r ih=>
  intro nd;obtain⟨nn,Sw⟩:=eW.mp nd;rcases gm x p.1 v p.2 r with⟨e,q⟩|⟨e,q⟩<;>refine q▸?_
  ·exact eW.mpr ⟨e▸nn,Sw⟩
  ·refine eW.mpr ⟨fun k=>?_,ih Sw⟩;obtain⟨u,k,ku⟩:=dT.mp k;rcases tQ (y:=u.1) (d:=u.2) Sw k with⟨k,_⟩|⟨_,k⟩
   ·exact e (ku.symm.trans k)
   ·exact nn (dT.mpr ⟨_,k,ku⟩)
theorem E0{k:FH}{Y:Sta}{es:List DictEntry}:∀{l:List (Nat×V)},(∀x v,(x,v)∈l→T2 fun s z=>A3 (é Y.Ŷ x=some s) (nsFind es.toArray s=some z) (Rep Y k v z))→iH Y k l es:=fun {l}=>by
 induction l with
 |nil=>exact fun À=>trivial
 |cons p r ih=>
  intro h;obtain⟨s,z,a,b,c⟩:=h p.1 p.2 (.head _);exact⟨s,z,a,b,c,ih fun x v m=>h x v (.tail _ m)⟩
theorem ze{es:List DictEntry}{ml:Array DictEntry}{a:Õ}{x:Value}{i:Nat}(k4:mJ Z.Ŷ l es)(hk:StrKeys ml)(hu:UniqKeys ml)(eY:é Z.Ŷ i=some a)(kf:∀y,nsFind ml y=if y=a then some x else nsFind es.toArray y):mJ Z.Ŷ (gX i v l) ml.toList:=by
 have ee:ml.toList.toArray=ml:=Array.toArray_toList;refine⟨ee.symm▸hk,ee.symm▸hu,fun y z q=>?_,GZ k4.nd⟩;rw[ee,kf]at q
 by_cases e:y=a
 ·exact⟨i,v,CS,e▸eY⟩
 ·obtain⟨x',d',m,LO⟩:=k4.only y z ((if_neg e).symm.trans q);exact⟨x',d',CR (fun e':x'=i=>e (ì (LO.symm.trans (e'▸eY)))) m,LO⟩
theorem Aj{k:FH}{es:List DictEntry}{ml:Array DictEntry}{a:Õ}{x:Value}{i:Nat}(cS:cg Z)(nd:(l.map (·.1)).Nodup)(h:iH Z.toSta k l es)(eY:é Z.Ŷ i=some a)(kf:∀y,nsFind ml y=if y=a then some x else nsFind es.toArray y)(R:Rep Z.toSta k v x):iH Z.toSta k (gX i v l) ml.toList:=by
 refine E0 fun y dv m=>?_;rcases tQ nd m with⟨e1,e2⟩|⟨ne,m⟩
 ·exact⟨a,x,e1▸eY,(kf a).trans (if_pos rfl),e2▸R⟩
 ·obtain⟨sy,z,b1,b2,b3⟩:=rC h m;exact⟨sy,z,b1,((kf sy).trans (if_neg fun e:sy=a=>ne (xD cS b1 (e.symm▸eY)))).trans b2,b3⟩
theorem JT{o o':Obj}(h1:o'.cls=o.cls)(h2:o'.data=o.data)(h3:o'.slots=o.slots)(h4:o'.dict=o.dict):o'=o:=by
 induction o using PySem.Obj.casesOn;induction o' using PySem.Obj.casesOn;simp_all
structure Ly(h h':Heap)(ad dx:Addr)(ob:Obj)(a:Õ)(x:Value)(es:Array DictEntry):Prop where
 kp:∀b o,b≠ad→b≠dx→h.get? b=some o→h'.get? b=some o
 ho:h'.get? ad=some ob
 ds:T2 fun od ml=>A5 (h'.get? dx=some od) (Hd ml.toList od) (StrKeys ml) (UniqKeys ml) (∀y,nsFind ml y=if y=a then some x else nsFind es y)
theorem uF(hc:ae Z K P c)(cS:cg Z)(B:Base Z g s H){ad dx:Addr}{ob od:Obj}{es:List DictEntry}{a:Õ}{x:Value}{i:Nat}{Q:Unit→Shared→Prop}{E:Value→Shared→Prop}(eY:é Z.Ŷ i=some a)(hm:P.gw c i=none)(r1:g.r ad=.cell m)(k1:s.heap.get? ad=some ob)
  (q:DN c ad dx ob)(k2:s.heap.get? dx=some od)(q':Hd es od)(k4:mJ Z.Ŷ l es)(hQ:∀h' kW,Ly s.heap h' ad dx ob a x es.toArray→Q () {s with heap:=h',toks:=kW}):õ prog w A (setAttr (.ref ad) a x) Q E s:=by
 obtain⟨i1,i2,i3,i4⟩:=q;obtain⟨n',k3⟩:=q';obtain⟨nm,q,N,bs,sn,sub,col,dd,kk0,kk1,kk2,kk3,kk5,mN,c1,c2,c3,c4,c5,c6,c7,c8,c9⟩:=hc.all;have top:=B.top _ _ c2 hc.tab;have dX:ad≠fi c:=fun q=>by rw[←q,r1]at top;exact neT Role.ctorIdx top rfl
 have hI:s.heap.Inst ad (fi c) (nsFind es.toArray):=⟨_,k1,i1,i3,.inr ⟨dx,i2,i4,⟨od,_,n',k2,k3,k4.keys,k4.uniq,fun À=>rfl⟩⟩⟩;have hw:Within (nsFind es.toArray) Z.Ŷ:=fun y hy=>by
  induction q:nsFind es.toArray y using ş with
  |none=>exact absurd q hy
  |some z=>obtain⟨x,dv,_,LO⟩:=k4.only y z q;exact aG LO
 obtain⟨mP,gn,dr,tk,os⟩:=s;refine store_attr PySem.F.store_object (B.Ô _ _ top) (B.du c3 c1) c6 (c7 i a eY hm) (cS.obj i a eY) dX hI (fun h' kW I' kp sm=>?_) hw cS.small;obtain⟨Ň,p1,p2,p3,p4,p5⟩:=sm ob k1;have ho:h'.get? ad=some ob:=p1.trans (congrArg some (JT p2 p3 p4 ((p5 dx i2).trans i2.symm)));refine hQ h' kW ⟨fun b o n1 n2 e=>kp b o n1 (fun Y4 Ud q1 q2=>?_) e,ho,?_⟩
 ·have e:=ì (k1.symm.trans q1);exact fun e'=>n2 (e'.trans (ì (q2.symm.trans (e▸i2))))
 ·obtain⟨aF,q1,q2,q3,q4⟩:=I';have e:=ì (ho.symm.trans q1);rcases q4 with⟨q,_⟩|⟨Ud,qd,_,R2,ml,ep',kd,Km,kk,ku,kf⟩
  ·rw[←e,i2]at q;exact sN q
  ·have e':=ì ((e▸i2).symm.trans qd);exact⟨R2,ml,e'▸kd,⟨ep',(Array.toArray_toList (xs:=ml)).symm▸Km⟩,kk,ku,kf⟩
theorem Jz(hc:∀c j,P.init c=some j→ae Z K P c)(cS:cg Z)(h1:Ű prog w Z d e S ⟨H,ρ,κ⟩ (.Ó m))(h2:Ô H v=some (H₁,v'))(h3:é H₁ m=some (.ins c l))(h4:P.init c=some j)(h5:P.gw c n=none)(h6:put H₁ m (.ins c (gX n v' l))=Ö):
  vS prog w Z d (.a e n) v S ⟨Ö,ρ,κ⟩:=by
 intro cx x env A g s y Q E hx C hv hq;obtain⟨o,a,p,rfl,vt,e1⟩:=tv hx;rw[assign_Attribute];refine wpAny_bind (wpAny_holding ?_);refine h1 _ _ _ _ _ _ _ _ e1 C fun Ü ò ŵ Ñ Ï ô=>?_;have eY:é Z.Ŷ n=some a:=C.e.Ŷ▸dc vt;refine Ï.base.bE h2 (hv.mono Ñ) fun ó Í aA fY=>?_;have è:=Ï.next Í (Keeps.refl _) aA;obtain⟨ad,ha,rfl⟩:=ô.mono Í.toGst;obtain⟨UN,N5,r1,ob,dx,od,es,k1,q,r2,k2,q',k4,k5⟩:=aA.cells _ _ h3;obtain rfl:ad=UN:=ì (ha.symm.trans N5);refine wpAny_bind (wpAny_standAt (wpAny_bind (wpAny_holding ?_)));refine uF (hc c j h4) cS aA eY h5 r1 k1 q k2 q' k4 fun h' kW M=>?_;obtain⟨kp,ho,R2,ml,kd,Km,kk,ku,kf⟩:=M;refine dD (hq ó _ (Ñ.trans Í.toGst) (è.fG (.refl ó) (fun b o r e=>⟨o.slots,kp b o (fun q=>?_) (fun q=>?_) e⟩) ?_))
 ·subst q;rw[r1]at r;rcases r with r|⟨_,r⟩<;>exact neT Role.ctorIdx r rfl
 ·subst q;rw[r2]at r;rcases r with r|⟨_,r⟩<;>exact neT Role.ctorIdx r rfl
 ·refine h6▸aA.cZ (h':=h') (c':=.ins c (gX n v' l)) kW (fun b=>b=ad∨b=dx) h3 ha ?_ (fun b o nd e=>kp b o (fun q=>nd (.inl q)) (fun q=>nd (.inr q)) e) ?_ ⟨r1,ob,dx,R2,ml.toList,ho,q,r2,kd,Km,ze k4 kk ku eY kf,Aj cS k4.nd k5 eY kf fY⟩
  ·rintro _ (rfl|rfl)
   ·exact .inl r1
   ·exact .inr r2
  ·rintro _ (rfl|rfl)
   ·exact⟨_,ho⟩
   ·exact⟨_,kd⟩
end
section
variable{h:Heap}{k:FH}{Y:Sta}{l:List (List Nat×V)}{es:List DictEntry}{fN:List (Õ×Value)}{x:List Nat}{u:V}{v:Value}
inductive Kv(Y:Sta)(k:FH):List (List Nat×V)→List (Õ×Value)→Prop
 |nil:Kv Y k [] []
 |cons {x d l v r} (h1:Rep Y k d v) (h2:Kv Y k l r):Kv Y k ((x,d)::l) ((⟨⟨x⟩⟩,v)::r)
theorem kF{x y:List Nat}(h:(⟨⟨x⟩⟩:Õ)=⟨⟨y⟩⟩):x=y:=congrArg (fun s:Õ=>s.cps.toList) h
theorem Kv.keys(h:Kv Y k l fN):fN.map (·.1)=l.map fun p=>(⟨⟨p.1⟩⟩:Õ):=by
 induction h with
 |nil=>rfl
 |cons _ _ ih=>exact congrArg (List.cons _) ih
theorem Kv.nodup(h:Kv Y k l fN)(nd:(l.map (·.1)).Nodup):(fN.map (·.1)).Nodup:=by
 rw[h.keys];exact List.pairwise_map.mpr ((List.pairwise_map.mp nd).imp fun n e=>n (kF e))
theorem nK(prog:Program)(w:World)(x:List Nat)(t:Tok):(strKind prog w).is ⟨⟨x⟩⟩ (.str ⟨⟨x⟩⟩ t)=true:=decide_eq_true rfl
structure DK(prog:Program)(w:World)(Y:Sta)(k:FH)(l:List (List Nat×V))(es:List DictEntry)(fN:List (Õ×Value)):Prop where
 v:Kv Y k l fN
 p:Pairs (strKind prog w) es fN
 h:∀e∈es,∃k,(strKind prog w).is k e.key=true∧e.hash=(strKind prog w).hash k
theorem EZ(hh:Z.hash=hashStr w)(h:gY Z.toSta k l es):∃fN,DK prog w Z.toSta k l es fN:=by
 induction l generalizing es with
 |nil=>exact h▸⟨[],.nil,.nil,fun À m=>absurd m jL⟩
 |cons p l ih=>
  obtain⟨t,v,r,e,h1,h2⟩:=h;obtain⟨fN,a,b,c⟩:=ih h2;refine e▸⟨(⟨⟨p.1⟩⟩,v)::fN,.cons h1 a,.cons (nK ..) rfl b,fun e he=>?_⟩;rcases Ą.mp he with he|he
  ·exact he▸⟨⟨⟨p.1⟩⟩,nK ..,congrFun hh _⟩
  ·exact c e he
theorem eK(hh:Z.hash=hashStr w){a:Addr}{o:Obj}(ho:h.get? a=some o)(hd:xS es o)(nd:(l.map (·.1)).Nodup)(hr:gY Z.toSta k l es):
  ∃fN,Kv Z.toSta k l fN∧h.DictOf (strKind prog w) a fN:=by
 obtain⟨fN,h1,h2,h3⟩:=EZ (prog:=prog) hh hr;obtain⟨n,rfl⟩:=hd;have e:es.toArray.toList=es:=rfl;exact⟨fN,h1,_,es.toArray,n,ho,⟨rfl,rfl,rfl⟩,rfl,fun e he=>h3 e (Array.mem_toList_iff.mpr he),h2,h1.nodup nd⟩
set_option tactic.hygienic true in
theorem FK(hh:Z.hash=hashStr w)(h:Kv Z.toSta k l fN)(hp:Pairs (strKind prog w) es fN)(hk:∀e∈es,∃k,(strKind prog w).is k e.key=true∧e.hash=(strKind prog w).hash k):gY Z.toSta k l es:=by
 induction h generalizing es with
 |nil=>cases hp;rfl
 |@cons x d l v r h1 h2 ih=>
  cases hp with
  |cons a b c=>
  rename_i e es;obtain⟨t,ht⟩:=Value.isStrOf_shape a;obtain⟨k',q1,q2⟩:=hk e (.head _);have q3:e.hash=Z.hash ⟨⟨x⟩⟩:=q2.trans ((congrArg (hashStr w) (Value.isStrOf_inj _ _ _ q1 a)).trans (congrFun hh _).symm);refine⟨t,v,es,?_,h1,ih c fun e he=>hk e (.tail _ he)⟩;have b:e.val=v:=b;rw[←q3,←ht,←b]
theorem lk(hh:Z.hash=hashStr w){a:Addr}(hd:h.DictOf (strKind prog w) a fN)(hk:Kv Z.toSta k l fN):
  T2 fun o es=>A3 (h.get? a=some o) (xS es o) (gY Z.toSta k l es):=by
 obtain⟨o,es,ep,h1,⟨e1,e2,e3⟩,h3,h4,h5,h6⟩:=hd;refine⟨o,es.toList,h1,⟨ep,?_⟩,FK hh hk h5 fun e he=>h4 e (Array.mem_toList_iff.mp he)⟩
 induction o using PySem.Obj.casesOn;subst e1;subst e2;subst e3;subst h3;rfl
theorem jn(x:List Nat)(p:List Nat×V)(u:V)(r:List (List Nat×V)):(p.1=x∧dput x u (p::r)=(p.1,u)::r)∨(p.1≠x∧dput x u (p::r)=p::dput x u r):=by
 show(_∧(if Ø p.1 x then(p.1,u)::r else p::dput x u r)=_)∨(_∧(if Ø p.1 x then(p.1,u)::r else p::dput x u r)=_)
 induction e:Ø p.1 x using ñ with
 |true=>exact .inl ⟨ý e,rfl⟩
 |false=>exact .inr ⟨fun q=>(by rw[q,Ŭ]at e;exact ĕ e),rfl⟩
theorem yA(x:List Nat)(p:List Nat×V)(r:List (List Nat×V)):(p.1=x∧look x (p::r)=some p.2)∨(p.1≠x∧look x (p::r)=look x r):=by
 show(_∧(if Ø p.1 x then some p.2 else look x r)=_)∨(_∧(if Ø p.1 x then some p.2 else look x r)=_)
 induction e:Ø p.1 x using ñ with
 |true=>exact .inl ⟨ý e,rfl⟩
 |false=>exact .inr ⟨fun q=>(by rw[q,Ŭ]at e;exact ĕ e),rfl⟩
theorem pK{α:Type}[DecidableEq α](k:α)(p:α×Value)(r:List (α×Value)):(p.1=k→valueAt (p::r) k=some p.2)∧(p.1≠k→valueAt (p::r) k=valueAt r k):=by
 unfold valueAt;rw[List.find?_cons];exact⟨fun e=>by rw[decide_eq_true e];rfl,fun e=>by rw[decide_eq_false e]⟩
theorem Kv.look(h:Kv Y k l fN):(∀d,look x l=some d→∃v,valueAt fN ⟨⟨x⟩⟩=some v∧Rep Y k d v)∧(look x l=none→valueAt fN (⟨⟨x⟩⟩:Õ)=none):=by
 induction h with
 |nil=>exact⟨(fun À q=>nS q),fun À=>rfl⟩
 |@cons y d l v r h1 h2 ih=>
  obtain⟨v1,v2⟩:=pK (⟨⟨x⟩⟩:Õ) (⟨⟨y⟩⟩,v) r;rcases yA x (y,d) l with⟨e,q⟩|⟨e,q⟩<;>rw[q]
  ·exact⟨fun d e'=>⟨v,v1 (congrArg (fun x=>(⟨⟨x⟩⟩:Õ)) e),ì e'▸h1⟩,(fun q=>sN q)⟩
  ·rw[v2 fun e'=>e (kF e')];exact ih
theorem yi{k:Õ}{p:Õ×Value}{r:List (Õ×Value)}(n:p.1≠k):PySem.stored (p::r) k v=p::PySem.stored r k v:=by
 unfold PySem.stored;rw[ij,decide_eq_false n,jJ,Ō,if_neg n]
 induction r.any fun kv=>decide (kv.1=k)using ñ<;>rfl
theorem yj{k:Õ}{p:Õ×Value}{r:List (Õ×Value)}(e:p.1=k)(n:k∉r.map (·.1)):PySem.stored (p::r) k v=(p.1,v)::r:=by
 unfold PySem.stored;rw[ij,decide_eq_true e,oK,if_pos rfl,Ō,if_pos e,map_store_of_not_mem _ _ _ n]
theorem Kv.stored(hv:Rep Y k u v)(h:Kv Y k l fN)(nd:(l.map (·.1)).Nodup):Kv Y k (dput x u l) (PySem.stored fN ⟨⟨x⟩⟩ v):=by
 induction h with
 |nil=>exact .cons hv .nil
 |@cons y d l v' r h1 h2 ih=>
  obtain⟨nn,nd⟩:=eW.mp nd;rcases jn x (y,d) u l with⟨e,q⟩|⟨e,q⟩<;>rw[q]
  ·have e:y=x:=e;subst e;rw[yj rfl fun m=>?_]
   ·exact .cons hv h2
   ·rw[h2.keys]at m;obtain⟨p,hp,e⟩:=dT.mp m;exact nn (dT.mpr ⟨p,hp,kF e⟩)
  ·rw[yi fun e'=>e (kF e')];exact .cons h1 (ih nd)
theorem Ck{y:List Nat}(h:y∈(dput x u l).map (·.1)):y=x∨y∈l.map (·.1):=by
 induction l with
 |nil=>exact .inl (ė.mp h)
 |cons p r ih=>
  rcases jn x p u r with⟨e,q⟩|⟨e,q⟩<;>rw[q]at h
  ·exact .inr h
  ·rcases Ą.mp h with h|h
   ·exact .inr (h▸.head _)
   ·exact(ih h).imp id (.tail _)
theorem Gx(h:(l.map (·.1)).Nodup):((dput x u l).map (·.1)).Nodup:=by
 induction l with
 |nil=>exact eW.mpr ⟨nofun,lT⟩
 |cons p r ih=>
  obtain⟨nn,nd⟩:=eW.mp h;rcases jn x p u r with⟨e,q⟩|⟨e,q⟩<;>rw[q]
  ·exact h
  ·exact eW.mpr ⟨fun m=>(Ck m).elim e nn,ih nd⟩
end
section
variable{S Å:St}{H:List Cell}{ρ κ:List (Option V)}{v v' x y k:V}{e t:PE}
theorem ż{i:Int}(h:Ć i=true):i<1000000∧ -1000000<i:=⟨bD (oa h).1,bD (oa h).2⟩
inductive LJ{α:Type}(l:List α)(i:Int)(x:α):Prop
 |pos (h:0≤i) (e:l[i.toNat]? =some x) (q:i<l.length)
 |neg (h:i<0) (h':0≤i+l.length) (e:l[(i+l.length).toNat]? =some x)
theorem H6{α}{l:List α}{i:Int}{x:α}(h:at_ l i=some x):LJ l i x:=by
 have h:(if Ī i 0 then(if Ī (i+l.length) 0 then none else é l (i+l.length).toNat)else é l i.toNat)=some x:=h
 induction e0:Ī i 0 using ñ with
 |true=>
  rw[e0]at h
  induction e1:Ī (i+l.length) 0 using ñ with
  |true=>rw[e1]at h;exact nS h
  |false=>rw[e1]at h;exact .neg (bD e0) (bO.mp (of_decide_eq_false e1)) (ľ.symm.trans h)
 |false=>
  rw[e0]at h;have hl:i.toNat<l.length:=qe h;exact .pos (bO.mp (of_decide_eq_false e0)) (ľ.symm.trans h) ((Int.toNat_lt (bO.mp (of_decide_eq_false e0))).mp hl)
theorem o8{n:Int}(h:Ć n=true): -2^63≤n∧n<2^63:=⟨oV (show(-2^63:Int)≤ -1000000 by decide) (jM (ż h).2),Int.lt_trans (ż h).1 (show(1000000:Int)<2^63 by decide)⟩
theorem vJ{α}{l:List α}{i:Int}{x:α}(h:at_ l i=some x):∃j,seqIndex? i l.length=some j∧l[j]? =some x:=by
 induction H6 h using LJ.casesOn with
 |pos a b c=>exact⟨_,by simp[seqIndex?,bO.mpr a,a,c],b⟩
 |neg a b c=>
  have:i+(l.length:Int)<l.length:=by exact í [_,_] (.c (.a Â Á) Ē .z) (.a (.a Â È) Á) È rfl a
  exact⟨_,by simp[seqIndex?,a,b,this],c⟩
theorem ß.get{Y:Sta}{k:FH}:∀{l:List V} {xs:List Value} {j:Nat} {x:V},ß Y k l xs→l[j]? =some x→∃z,xs[j]? =some z∧Rep Y k x z:=fun {l xs j x} q h=>by
 rw[←ľ]at h;have hl:j<xs.length:=q.len▸qe h;exact⟨_,List.getElem?_eq_getElem hl,q.é hl h⟩
theorem uG{T:String}{vs:List Value}{o:Obj}{a:Addr}{h:Heap}(e:h.get? a=some o)(q:mC T vs o):∃n,h.get? a=some {cls:=.type T,dict:=none,data:=.seq vs.toArray n,slots:= #[]}:=by
 obtain⟨n,rfl⟩:=q;exact⟨n,e⟩
structure bJ(prog:Program)(w:World)(A:Around)(s:Shared)(o i:Value)(Q:Value→Shared→Prop)(E:Value→Shared→Prop):Prop where
 t:T2 fun T id=>s.TypeIs o T∧typeLookup (.type T) "__getitem__"=pure (some (.builtin id))
 w:õ prog w A (getItem o i) Q E s
section
variable{o i:Value}{Q:Value→Shared→Prop}{E:Value→Shared→Prop}{n:Int}
theorem item_tup{l:List V}(hv:ś Z.toSta s.heap g.k (.tup l) o)(hk:Rep Z.toSta g.k (.int n) i)(hi:Ć n=true)(h:at_ l n=some x)(hq:∀t z,Rep Z.toSta g.k x z→Q z {s with toks:=t}):bJ prog w A s o i Q E:=by
 have b:=ż hi;obtain⟨j,j1,j2⟩:=vJ h;obtain⟨a,ob,vs,rfl,k1,q1,r1⟩:=hv;obtain⟨t,rfl⟩:=hk;obtain⟨z,z1,z2⟩:=r1.get j2;obtain⟨n,ex⟩:=uG k1 q1;refine⟨⟨"tuple",_,⟨_,ex,rfl⟩,F.slot_tuple_getitem.lookup⟩,?_⟩;exact PySem.P.getItem_tuple ex (o8 hi).1 (o8 hi).2 (k:=j) (by rw[Ź,r1.len];exact j1) (by rw[sH];exact z1) (hq _ z z2)
theorem Bo{l:List V}(hv:ś Z.toSta s.heap g.k (.lst l) o)(hk:Rep Z.toSta g.k (.int n) i)(hi:Ć n=true)(h:at_ l n=some x)(hq:∀t z,Rep Z.toSta g.k x z→Q z {s with toks:=t}):bJ prog w A s o i Q E:=by
 have b:=ż hi;obtain⟨a,ob,vs,rfl,k1,q1,r1⟩:=hv;obtain⟨t,rfl⟩:=hk;have il:=Base.isList k1 q1;refine⟨⟨"list",_,il.typeIs,slot_list_getitem.lookup⟩,?_⟩;have hl:(vs.toArray.size:Int)=l.length:=congrArg Nat.cast (Ź.trans r1.len)
 induction H6 h using LJ.casesOn with
 |pos a c q=>
  obtain⟨z,z1,z2⟩:=r1.get c;exact wpAny_getItem_list il a (o8 hi).2 (by rw[sH];exact z1) (hq _ z z2)
 |neg a a' c=>
  obtain⟨z,z1,z2⟩:=r1.get c;exact wpAny_getItem_list_neg il a (Int.le_of_sub_nonneg ((Int.sub_neg n _).symm▸hl.symm▸a')) (o8 hi).1 (by rw[hl,sH];exact z1) (hq _ z z2)
theorem item_str{l:List Nat}{c:Nat}(hv:Rep Z.toSta g.k (.str l) o)(hk:Rep Z.toSta g.k (.int n) i)(hi:Ć n=true)(h:at_ l n=some c)(hq:∀t z,Rep Z.toSta g.k (.str [c]) z→Q z {s with toks:=t}):bJ prog w A s o i Q E:=by
 have b:=ż hi;obtain⟨j,j1,j2⟩:=vJ h;obtain⟨t,rfl⟩:=hv;obtain⟨u,rfl⟩:=hk;refine⟨⟨"str",_,typeIs_str _ _ _,F.slot_str_getitem.lookup⟩,?_⟩;have e:(⟨⟨l⟩⟩:Õ).length=l.length:=rfl;exact PySem.P.getItem_str (c:=c) (by simp;exact o8 hi) (by rw[e,j1];simpa using j2) (hq _ _ ⟨_,rfl⟩)
theorem vn{l:List Nat}{c:Nat}(hv:Rep Z.toSta g.k (.bytes l) o)(hk:Rep Z.toSta g.k (.int n) i)(hi:Ć n=true)(h:at_ l n=some c)(hq:∀t z,Rep Z.toSta g.k (.int c) z→Q z {s with toks:=t}):bJ prog w A s o i Q E:=by
 have b:=ż hi;obtain⟨j,j1,j2⟩:=vJ h;obtain⟨b,t,rfl,rfl⟩:=hv;obtain⟨u,rfl⟩:=hk;refine⟨⟨"bytes",_,typeIs_bytes _ _ _,FB.slot_bytes_getitem.lookup⟩,?_⟩;rw[List.getElem?_map]at j2;obtain⟨c',F_,rfl⟩:=Option.map_eq_some_iff.mp j2;refine getItem_gives (typeIs_bytes s _ t) (by decide) FB.slot_bytes_getitem FB.entry_bytes_getitem (FB.args_bytes_getitem_2 _ _) (gives_bytes_getitem b _ t u c' ?_ ?_) (hq _ _ ⟨_,rfl⟩)
 ·simp only[Builtin.Bytes.fitsIndex,ar,decide_eq_true_eq];exact o8 hi
 ·rw[Ė]at j1;have:b.toList.length=b.size:=Array.length_toList;rw[←this,j1];exact(Array.getElem?_toList (xs:=b)).symm.trans F_
theorem Bp{l:List (List Nat×V)}{c:List Nat}(hh:Z.hash=hashStr w)(hv:ś Z.toSta s.heap g.k (.aX l) o)(hk:Rep Z.toSta g.k (.str c) i)(h:look c l=some x)(hq:∀t z,Rep Z.toSta g.k x z→Q z {s with toks:=t}):bJ prog w A s o i Q E:=by
 obtain⟨a,ob,es,rfl,k1,q1,nd,r1⟩:=hv;obtain⟨u,rfl⟩:=hk;obtain⟨fN,kv,K7⟩:=eK (prog:=prog) hh k1 q1 nd r1;obtain⟨z,z1,z2⟩:=kv.look.1 x h;exact⟨⟨"dict",_,K7.typeIs,slot_dict_getitem.lookup⟩,wpAny_getItem_of (knd:=strKind prog w) (nK ..) K7.mapOf z1 (hq _ z z2)⟩
theorem EY(h:qI k=some n)(hk:ć Z g k i):Rep Z.toSta g.k (.int n) i:=by
 have e:=iI h;subst e;exact hk
theorem RD{c:List Nat}(h:qS k=some c)(hk:ć Z g k i):Rep Z.toSta g.k (.str c) i:=by
 have e:=iS h;subst e;exact hk
theorem FZ(hh:Z.hash=hashStr w)(hv:ś Z.toSta s.heap g.k v o)(hk:ć Z g k i)(h:item v k=some x)(hq:∀t z,Rep Z.toSta g.k x z→Q z {s with toks:=t}):bJ prog w A s o i Q E:=by
 induction v using V.casesOn with
 |tup l=>refine ï h fun n h1 h2=>?_;(have h3:=cn h2;have h2:=cy h2);exact item_tup hv (EY h1 hk) h2 h3 hq
 |lst l=>refine ï h fun n h1 h2=>?_;(have h3:=cn h2;have h2:=cy h2);exact Bo hv (EY h1 hk) h2 h3 hq
 |str l=>refine ï h fun n h1 h2=>?_;(have h3:=cn h2;have h2:=cy h2);refine cJ h3 fun c h4 h5=>?_;exact item_str hv (EY h1 hk) h2 h4 (h5▸hq)
 |bytes l=>refine ï h fun n h1 h2=>?_;(have h3:=cn h2;have h2:=cy h2);refine cJ h3 fun c h4 h5=>?_;exact vn hv (EY h1 hk) h2 h4 (h5▸hq)
 |aX l=>refine ï h fun n h1 h2=>?_;exact Bp hh hv (RD h1 hk) h2 hq
 |_=>exact nS h
end
theorem yh{i:Expr}{o k:Value}(h:dU i=false):subscripted i false o k=operate [o,k] (getItem o k):=by
 induction i using PySem.Expr.casesOn<;>first|rfl|exact ĕ h
theorem QX(hh:Z.hash=hashStr w)(h1:Ű prog w Z d e S Å v)(h2:Ű prog w Z d t Å ⟨H,ρ,κ⟩ x)(h3:view H v=some v')(h4:item v' x=some y):Ű prog w Z d (.ix e t) S ⟨H,ρ,κ⟩ y:=by
 intro cx z env A g s Q E hx C hq;obtain⟨o,i,p,rfl,hs,e1,e2⟩:=iv hx;refine Subscript_ (h1 _ _ _ _ _ _ _ _ e1 C fun Ü ò ŵ Ñ Ï ô=>h2 _ _ _ _ _ _ _ _ e2 Ï fun ó Ļ xX ù è ů=>?_);have hit:=FZ (prog:=prog) (w:=w) (A:=A) (E:=E) (Q:=Q) hh (è.view (ô.mono ù) h3) ů h4 fun t z hz=>hq _ _ _ (Ñ.trans ù) (è.toks t) hz.iM
 obtain⟨⟨T,id,hT,hl⟩,hw⟩:=hit;exact tail_any hT hl hw (yh hs)
end
section
variable{S Å:St}{H H₁ Ö:List Cell}{ρ κ:List (Option V)}{d m:Nat}{v v' x y k:V}{a b:PE}
theorem mU{E:Value→Shared→Prop}{l:Addr}{items:Array Value}{n:Nat}{k:Int}{t:Tok}{v:Value}{Q:Unit→Shared→Prop}(hl:IsL s.heap l items n)(h0:0≤k)(NY:k<2^63)(hn:k<items.size)
  (hQ:Q () {s with heap:=s.heap.update l (Obj.mapSeq (·.setIfInBounds k.toNat v))}):wpAny (model prog w) A (setItem (.ref l) (.int k t) v) Q E s:=by
 have hT:=hl.isList.typeIs;unfold setItem;refine wpAny_holding ?_;refine wpAny_bind (wpAny_sequenceKey hT (by decide) ?_);refine wpAny_bind (wpAny_callSpecial?_slot (name:=Str.ofString "__setitem__") hT slot_list_setitem
  (wpAny_call_entry slot_list_setitem hT entry_list_setitem ?_ (args_list_setitem _ _ _)))
 show wpAny _ _ (Builtin.List.listSubscript? (.int k t)>>=_) _ _ s;have hf:Builtin.List.listFitsIndex k=true:=by simp only[Builtin.List.listFitsIndex,ar,decide_eq_true_eq];exact⟨oV (show(-2^63:Int)≤0 by decide) h0,NY⟩
 refine wpAny_bind (wpAny_listSubscript_int hf ?_);clear NY hf;obtain⟨j,rfl⟩:=Int.eq_ofNat_of_zero_le h0;have hj:j<items.size:=bw.mp hn;show wpAny _ _ ((seqItemAt l j>>=fun r=>pure (r.map (j, ·)))>>=_) _ _ s;refine wpAny_bind (wpAny_bind (wpAny_seqItemAt hl rfl (wpAny_pure ?_)));rw[Array.getElem?_eq_getElem hj];show wpAny _ _ (setSeqItemAt l j v>>=_) _ _ s;exact wpAny_bind (wpAny_setSeqItemAt hl rfl (wpAny_pure ⟨.none,rfl,wpAny_pure hQ⟩))
theorem ß.put{Y:Sta}{k:FH}{v:V}{z:Value}(hz:Rep Y k v z){l:List V}{vs:List Value}{j:Nat}(h:ß Y k l vs):ß Y k (Internal.put l j v) (vs.set j z):=by
 induction l generalizing vs j with
 |nil=>exact h▸rfl
 |cons p l ih=>
  obtain⟨x,r,rfl,h1,h2⟩:=h
  induction j using mM with
  |zero=>exact⟨z,r,rfl,hz,h2⟩
  |succ j=>exact⟨x,_,rfl,h1,ih h2⟩
theorem assign_Subscript(o i:Expr)(p:Pos)(env:Env)(v:Value)(hs:dU i=false):assign (.Subscript o i p) env v=(do
  let ov ←holding [v] (eval o env);let iv ←holding [v,ov] (eval i env)
  standAt p
  holding [v,ov,iv] (setItem ov iv v)
  release [v,ov,iv] []):=by induction i using PySem.Expr.casesOn<;>first|rfl|exact ĕ hs
theorem cH.cell{h':Heap}{t:Nat}{a:Addr}{n:Nat}(hr:g.r a=.cell n)(hk:∀b o,b≠a→s.heap.get? b=some o→h'.get? b=some o):cH g s {s with heap:=h',toks:=t}:=fun b o r e=>by
 refine⟨o.slots,hk b o (fun q=>?_) e⟩;subst q;rw[hr]at r;rcases r with r|⟨_,r⟩<;>exact neT Role.ctorIdx r rfl
theorem Ok.cZ(C:Ok Z d cx A env g s ⟨H,ρ,κ⟩){n:Nat}{a:Addr}{c c':Cell}{o':Obj}{h':Heap}(t:Nat)(hc:é H n=some c)(ha:é g.as n=some a)(hr:g.r a=.cell n)(hk:∀b o,b≠a→s.heap.get? b=some o→h'.get? b=some o)(ho:h'.get? a=some o')(hl:dC Z g h' n a c'):
  Ok Z d cx A env g {s with heap:=h',toks:=t} ⟨put H n c',ρ,κ⟩:=by
 refine C.fG (.refl g) (cH.cell hr hk) (C.base.cZ t (fun b=>b=a) hc ha (fun b e=>.inl (e▸hr)) hk (fun b e=>⟨_,e▸ho⟩) hl)
theorem Fh{i:Expr}(h:er cx i=b)(hb:b≠.no):dU i=false:=by
 induction e:dU i using ñ with
 |false=>rfl
 |true=>induction i using PySem.Expr.casesOn<;>first|exact absurd h.symm hb|(exact â e;done)
theorem CN(hb:b≠.no)(h1:Ű prog w Z d a S Å (.Ó m))(h2:Ű prog w Z d b Å ⟨H,ρ,κ⟩ x)(h3:Ô H v=some (H₁,v')){X:Expr}{y:Value}{Q:Unit→Shared→Prop}{E:Value→Shared→Prop}(hx:fg cx X=.s a b)(C:Ok Z d cx A env g s S)(hv:ć Z g v y)
  (hq:∀g' s' q z,Gst g g'→Ok Z d cx A env g' s' ⟨H₁,ρ,κ⟩→é g'.as m=some q→ć Z g' x z→Rep Z.toSta g'.k v' y→õ prog w A (setItem (.ref q) z y) Q E s'):õ prog w A (assign X env y) Q E s:=by
 obtain⟨o,i,p,rfl,e1,e2⟩:=tv hx;rw[assign_Subscript _ _ _ _ _ (Fh e2 hb)];refine wpAny_bind (wpAny_holding (h1 _ _ _ _ _ _ _ _ e1 C fun Ü ò ŵ Ñ Ï ô=>?_));refine wpAny_bind (wpAny_holding (h2 _ _ _ _ _ _ _ _ e2 Ï fun ó Ļ xX ù è ů=>?_));refine è.base.bE h3 ((hv.mono Ñ).mono ù) fun İ ĩ Ŝ fX=>?_;have ĸ:=è.next ĩ (Keeps.refl _) Ŝ;obtain⟨a,ha,rfl⟩:=(ô.mono ù).mono ĩ.toGst;refine wpAny_bind (wpAny_standAt (wpAny_bind (wpAny_holding ?_)));exact wpAny_mono (hq İ Ļ a xX (Ñ.trans (ù.trans ĩ.toGst)) ĸ ha (ů.mono ĩ.toGst) fX) (fun À À h=>dD h) fun À À h=>h
theorem ES{l l':List V}{q:Int}(hb:b≠.no)(h1:Ű prog w Z d a S Å (.Ó m))(h2:Ű prog w Z d b Å ⟨H,ρ,κ⟩ (.int q))(h3:Ô H v=some (H₁,v'))(h4:é H₁ m=some (.lst l))(h5:(gc 0 q&&Ī q l.length&&Ī q 1000000)=true)(h6:put l q.toNat v'=l')(h7:put H₁ m (.lst l')=Ö):
  vS prog w Z d (.s a b) v S ⟨Ö,ρ,κ⟩:=by
 intro cx X env A g s y Q E hx C hv hq;refine CN hb h1 h2 h3 hx C hv fun İ iU c z ł ĸ ha bH fX=>?_
 (have Qb:=aC h5;have b3:=aB h5)
 have b1:=gS (oa Qb).1;have b2:=bD (oa Qb).2;have b3:=bD b3;obtain⟨u,rfl⟩:=bH;obtain⟨a',N5,r1,ob,vs,k1,⟨n,rfl⟩,k3⟩:=ĸ.base.cells _ _ h4;obtain rfl:c=a':=ì (ha.symm.trans N5);refine mU k1 b1 (by exact wZ ‹_› (by decide)) (by rw[Ź,k3.len];exact b2) (hq İ _ ł ?_);have hu:=IsL.update k1 (·.setIfInBounds q.toNat y);rw[List.setIfInBounds_toArray]at hu;exact h7▸h6▸ĸ.cZ iU.toks h4 ha r1 (fun b o n e=>by rw[Heap.get?_update_other _ _ (Ne.symm n)];exact e) hu ⟨r1,_,_,hu,⟨_,rfl⟩,k3.put fX⟩
theorem ET{l:List (List Nat×V)}{q:List Nat}(hh:Z.hash=hashStr w)(hb:b≠.no)(h1:Ű prog w Z d a S Å (.Ó m))(h2:Ű prog w Z d b Å ⟨H,ρ,κ⟩ (.str q))(h3:Ô H v=some (H₁,v'))(h4:é H₁ m=some (.aX l))(h5:small l=true)(h7:put H₁ m (.aX (dput q v' l))=Ö):
  vS prog w Z d (.s a b) v S ⟨Ö,ρ,κ⟩:=by
 intro cx X env A g s y Q E hx C hv hq;refine CN hb h1 h2 h3 hx C hv fun İ iU c z ł ĸ ha bH fX=>?_;obtain⟨u,rfl⟩:=bH;obtain⟨a',N5,r1,ob,es,k1,k2,nd,k3⟩:=ĸ.base.cells _ _ h4;obtain rfl:c=a':=ì (ha.symm.trans N5);obtain⟨fN,kv,K7⟩:=eK (prog:=prog) hh k1 k2 nd k3;have hl:=(Ė _).symm.trans ((congrArg oQ kv.keys).trans (Ė _));refine wpAny_setItem_pairs (knd:=strKind prog w) (nK ..) K7 (fun h' Ue sb=>?_) (by rw[hl];exact aV (oO (ĥ h5) (by decide)));obtain⟨o',ml,q1,q2,q3⟩:=lk hh Ue (kv.stored fX nd);exact hq İ _ ł (h7▸ĸ.cZ _ h4 ha r1 (fun b o n e=>(sb.2 b n).trans e) q1 ⟨r1,o',ml,q1,q2,Gx nd,q3⟩)
theorem eQ{t e:Expr}{p:Pos}{Q:Flow→Shared→Prop}{E:Value→Shared→Prop}(hs:swapsWith e (some t) p.line env=pure false)(hw:swappedStores [t] e env=pure none)(cK:isStar t=false)
  (h:õ prog w A (eval e env) (fun v ĉ=>õ prog w A (assign t env v) (fun À=>Q .next) E ĉ) E s):õ prog w A (exec (.Assign [t] e p) env) Q E s:=by
 rw[PyProof.Rows.exec_Assign];refine wpAny_bind (wpAny_standAt ?_);have D4:swapsWithSole [t] e p.line env=pure false:=hs;rw[D4];refine wpAny_bind (wpAny_pure ?_);rw[if_neg (by decide)];refine wpAny_bind (wpAny_mono h (fun v ĉ bx=>?_) fun À À x=>x);rw[hw];refine wpAny_bind (wpAny_pure ?_);have e1:(assignEach [t] env).map (·.2)=[assign t env]:=by induction t using PySem.Expr.casesOn<;>first|rfl|exact ĕ cK
 rw[e1];show wpAny (model prog w) A (do assignAll v [assign t env];pure .next) Q E ĉ;exact wpAny_bind (wpAny_mono bx (fun À À x=>wpAny_pure x) fun À À x=>x)
theorem d_{t e:Expr}(h:isTup t=false∨isTup e=false):swappedStores [t] e env=pure none:=by
 rcases h with h|h
 ·induction t using PySem.Expr.casesOn<;>first|rfl|exact ĕ h
 ·induction t using PySem.Expr.casesOn<;>first|rfl|(induction e using PySem.Expr.casesOn<;>first|rfl|exact ĕ h)
end
section
variable{g ħ g':Gh}{st S S' Å Í:St}{H H':List Cell}{wr fp:List Addr}{I:Addr}{mK:Expr}{h':Heap}{t:Tg}{v:V}{l:List V}{B:List PS}{o:Out}
structure uc(wr:List Addr)(g g':Gh):Prop where
 k:aP g.k g'.k
 held:∀a∈wr,∀o,g.r a=.held o→g'.r a=.held o
theorem Gst.yR(G:Gst g g'):uc wr g g':=⟨G.k,fun a À=>G.held a⟩
theorem uc.refl(wr:List Addr)(g:Gh):uc wr g g:=⟨.refl _,fun À À À e=>e⟩
theorem uc.trans{a b c:Gh}(x:uc wr a b)(y:uc wr b c):uc wr a c:=⟨x.k.trans y.k,fun p m o e=>y.held p m o (x.held p m o e)⟩
noncomputable def aW:Option Obj→Role
 |some o=>.held o
 |none=>.free
def Gh.hold(g:Gh)(wr:List Addr)(h:Heap):Gh:={g with r:=fun b=>if b∈wr then aW (h.get? b)else g.r b}
theorem Ž{h:Heap}{b:Addr}(n:b∉wr):(g.hold wr h).r b=g.r b:=if_neg n
theorem de{h:Heap}{b:Addr}(n:b∈wr):(g.hold wr h).r b=aW (h.get? b):=if_pos n
noncomputable def vq:Role→Bool
 |.free=>true
 |.held _=>true
 |_=>false
def g5(g:Gh)(wr:List Addr):Prop:=∀b∈wr,vq (g.r b)=true
theorem g5.not(O:g5 g wr){b:Addr}{x:Role}(e:g.r b=x)(h:vq x=false):b∉wr:=fun m=>by
 have:=O b m;rw[e,h]at this;exact â this
theorem bh(O:g5 g wr){h:Heap}{b:Addr}{x:Role}(e:g.r b=x)(n:vq x=false):(g.hold wr h).r b=x:=(Ž (O.not e n)).trans e
theorem fR{h:Heap}(O:g5 g wr):aP g.k (g.hold wr h).k:=fun a o e=>Gh.Ř (bh O (Gh.aN e) rfl)
structure Nil(g:Gh)(b:Addr):Prop where
 Ô:∀o,g.r b≠.Ô o
 kept:∀o,g.r b≠.kept o
 held:∀o,g.r b≠.held o
 loc:g.r b≠.loc
theorem Nil.free{b:Addr}(h:g.r b=.free):Nil g b:=⟨by rw[h];simp,by rw[h];simp,by rw[h];simp,by rw[h];simp⟩
theorem Nil.back{b:Addr}(h:Nil g' b)(G:Gst g g'):Nil g b:=
 ⟨fun o e=>h.Ô o (Gh.aN (G.k b o (Gh.Ř e))),fun o e=>h.kept o (G.kept b o e),fun o e=>h.held o (G.held b o e),fun e=>h.loc (G.loc b e)⟩
theorem aK{h:Heap}(G:Gst ħ g)(O:g5 g wr)(F:∀b∈wr,Nil ħ b):Gst ħ (g.hold wr h):=by
 refine⟨fun a o e=>fR O a o (G.k a o e),fun a o e=>?_,fun a o e=>?_,G.as,G.L,G.cs,fun a e=>?_⟩
 ·exact bh O (G.kept a o e) rfl
 ·exact(Ž fun m=>(F a m).held o e).trans (G.held a o e)
 ·exact bh O (G.loc a e) rfl
def Off(wr:List Addr)(s:Shared)(h':Heap):Prop:=∀b o,b∉wr→s.heap.get? b=some o→h'.get? b=some o
theorem f_{r:Role}(h:vq r=true):((∀o,r≠.Ô o)∧r≠.tab)∧∀i,r≠.cell i∧r≠.cV i:=by
 induction r using Role.casesOn with
 |free=>simp
 |held o=>simp
 |_=>exact â h
theorem sZ{h:Heap}{a:Addr}:A4 (∀o,aW (h.get? a)=.Ô o→h.get? a=some o) (∀o,aW (h.get? a)=.kept o→∃sl,h.get? a=some {o with slots:=sl}) (∀o,aW (h.get? a)=.held o→h.get? a=some o) (aW (h.get? a)≠.free→∃o,h.get? a=some o):=by
 induction h.get? a using ş with
 |none=>exact⟨fun À q=>neT Role.ctorIdx q rfl,fun À q=>neT Role.ctorIdx q rfl,fun À q=>neT Role.ctorIdx q rfl,fun q=>absurd rfl q⟩
 |some o=>exact⟨fun À q=>neT Role.ctorIdx q rfl,fun À q=>neT Role.ctorIdx q rfl,fun À q=>by injection q with q;exact congrArg some q,fun À=>⟨o,rfl⟩⟩
theorem Base.hold(B:Base Z g s H)(O:g5 g wr)(kp:Off wr s h')(t:Nat):Base Z (g.hold wr h') {s with heap:=h',toks:=t} H:=
 B.gen (fun b=>b∈wr) (fun a m=>(f_ (O a m)).1) kp (fun b n=>Ž n) (fun a m=>de (g:=g) m▸sZ) B.len (fun À À e=>e) fun i c e=>.inl ⟨e,fun b m=>(f_ (O b m)).2 i⟩
theorem Inv.hold(V:Inv Z cx g s st)(O:g5 g wr)(kp:Off wr s h')(t:Nat):Inv Z cx (g.hold wr h') {s with heap:=h',toks:=t} st:=by
 have hk:=fR (h:=h') O;refine⟨V.base.hold O kp t,bh O V.gJ.loc rfl,?_,fun i ov q=>?_⟩
 ·obtain⟨m,⟨o,es,ep,ho,r⟩,hm⟩:=V.gJ.locs;refine⟨m,⟨o,es,ep,kp _ _ (O.not V.gJ.loc rfl) ho,r⟩,fun x i v h1 h2=>?_⟩;obtain⟨y,q1,q2⟩:=hm x i v h1 h2;exact⟨y,q1,q2.r7 hk rfl⟩
 ·obtain⟨c,y,q1,q2,⟨o,ho,hd⟩,q4⟩:=V.gJ.vars i ov q;refine⟨c,y,q1,bh O q2 rfl,⟨o,kp _ _ (O.not q2 rfl) ho,hd⟩,fun v hv=>?_⟩;obtain⟨x,y1,y2⟩:=q4 v hv;exact⟨x,y1,y2.r7 hk rfl⟩
theorem œ.hold(R:œ d A g)(O:g5 g wr):œ d A (g.hold wr h'):=by
 refine⟨R.hd,R.depth,R.units,?_⟩;obtain⟨l,a,b⟩:=R.frames;refine⟨l,a,fun e he=>?_⟩;obtain⟨k,L,h1,h2⟩:=b e he;exact⟨k,L,h1,h2.imp (fun q=>⟨bh O q.1 rfl,q.2⟩) fun ⟨o,es,n,q1,q2⟩=>⟨o,es,n,bh O q1 rfl,q2⟩⟩
theorem Ok.hold(C:Ok Z d cx A env g s st)(O:g5 g wr)(kp:Off wr s h')(t:Nat):Ok Z d cx A env (g.hold wr h') {s with heap:=h',toks:=t} st:=
 ⟨C.r.hold O,⟨C.e.kind,C.e.L,C.e.xn,C.e.H5,C.e.kinds,C.e.Ó,C.e.Ŷ,C.e.zC,C.e.code⟩,C.i.hold O kp t,C.f⟩
inductive Pp(Y:Sta)(k:FH)(h:Heap)(x:V)(z:Value):Prop
 |mk (T:Addr) (xs:List Value) (vs:List V) (e:z=.ref T) (e':x=.tup vs) (i:h.IsTuple T xs.toArray) (r:ß Y k vs xs)
def eP(Y:Sta)(mK:Expr)(k:FH)(h:Heap)(x:V)(z:Value):Prop:=Rep Y k x z∨(isTup mK=true∧Pp Y k h x z)
theorem eP.mono{Y:Sta}{k k':FH}{h:Heap}{x:V}{z:Value}(q:eP Y mK k h x z)(e:aP k k'):eP Y mK k' h x z:=
 q.imp (Rep.mono e) fun ⟨a,⟨T,xs,vs,e1,e2,i,r⟩⟩=>⟨a,T,xs,vs,e1,e2,i,ß.mono e r⟩
def iJ(g:Gh)(wr:List Addr):Prop:=∀b∈wr,∃o,g.r b=.held o
theorem iJ.gu(h:iJ g wr):g5 g wr:=fun b m=>let ⟨o,q⟩:=h b m;q▸rfl
theorem iJ.mono(h:iJ g wr)(G:uc wr g g'):iJ g' wr:=fun b m=>let ⟨o,q⟩:=h b m;⟨o,G.held b m o q⟩
abbrev AY(prog:Program)(w:World)(A:Around)(mK:Expr)(I:Addr)(Q:Value→Shared→Prop)(E:Value→Shared→Prop)(s:Shared):Prop:=
 õ prog w A (pyNext (.ref I)) (fun r ĉ=>match r with|none=>False|some z=>∀mF,õ prog w A (letOwnedTupleGo mK (.ref I) z) (fun À Ğ=>Q z Ğ) mF ĉ) E s
noncomputable def Nx(prog:Program)(w:World)(Z:Ě)(A:Around)(mK:Expr)(wr:List Addr)(I:Addr):List V→Gh→Prop
 |[],g=>∀g' s' H',uc wr g g'→Base Z g' s' H'→∀(Q:Option Value→Shared→Prop) E,(∀h' t,Off wr s' h'→Q none {s' with heap:=h',toks:=t})→õ prog w A (pyNext (.ref I)) Q E s'
 |x::l,g=>∀g' s' H',uc wr g g'→Base Z g' s' H'→(isTup mK=true→∃vs,x=V.tup vs)→∀(Q:Value→Shared→Prop) E,
   (∀h' t z,Off wr s' h'→iJ (g'.hold wr h') wr→eP Z.toSta mK (g'.hold wr h').k h' x z→Nx prog w Z A mK wr I l (g'.hold wr h')→Q z {s' with heap:=h',toks:=t})→AY prog w A mK I Q E s'
theorem Nx.mono(h:Nx prog w Z A mK wr I l g)(G:uc wr g g'):Nx prog w Z A mK wr I l g':=by
 induction l using Ū with
 |nil=>exact fun ó Ğ Ö ù aA=>h ó Ğ Ö (G.trans ù) aA
 |cons x l=>exact fun ó Ğ Ö ù aA=>h ó Ğ Ö (G.trans ù) aA
theorem uP{t:Expr}{it v:Value}(h:isTup t=false):letOwnedTupleGo t it v=pure ():=by
 induction t using PySem.Expr.casesOn<;>first|rfl|exact ĕ h
structure Wk(prog:Program)(w:World)(A:Around)(mK:Expr)(I:Addr)(fp wr:List Addr)(n:Nat)(It:Nat→Value→Heap→Prop)(Sv:Nat→Heap→Prop):Prop where
 frame:∀i h h',Sv i h→(∀b∈fp,∀o,h.get? b=some o→h'.get? b=some o)→Sv i h'
 item:∀i (s:Shared) (Q:Value→Shared→Prop) (E:Value→Shared→Prop),i<n→Sv i s.heap→(∀v h' t,It i v h'→Sv (i+1) h'→Off wr s h'→Q v {s with heap:=h',toks:=t})→AY prog w A mK I Q E s
 done:∀(s:Shared) (Q:Option Value→Shared→Prop) (E:Value→Shared→Prop),Sv n s.heap→(∀h' t,Off wr s h'→Q none {s with heap:=h',toks:=t})→õ prog w A (pyNext (.ref I)) Q E s
 al:∀i h,Sv i h→∀b∈wr,∃o,h.get? b=some o
theorem Wk.of{n:Nat}{Pv:Nat→Value→Prop}{Sv:Nat→Heap→Prop}(W:Walks prog w A I fp wr n Pv Sv)(al:∀i h,Sv i h→∀b∈wr,∃o,h.get? b=some o)
  (ow:∀(i:Nat) (s:Shared) (v:Value) (Q:Unit→Shared→Prop) (E:Value→Shared→Prop),Sv i s.heap→Q () s→wpAny (model prog w) A (letOwnedTupleGo mK (.ref I) v) Q E s):Wk prog w A mK I fp wr n (fun i v À=>Pv i v) Sv:=
 ⟨W.frame,fun i s Q E hi st hQ=>W.item i s _ E hi st fun v h' tk p Ċ kp mF=>ow (i+1) _ v _ mF Ċ (hQ v h' tk p Ċ kp),W.done,al⟩
theorem Wk.ofT{n:Nat}{elts:List Expr}{k:Nat}{p:Pos}{Pt:Nat→Array Value→Prop}{Sv:Nat→Heap→Prop}{Mid:Nat→Addr→Heap→Prop}(W:WalksT prog w A I fp wr n Pt Sv Mid)(al:∀i h,Sv i h→∀b∈wr,∃o,h.get? b=some o):
  Wk prog w A (.Tuple elts k p) I fp wr n (fun i v h=>T2 fun T vals=>A3 (v=.ref T) (Pt i vals) (h.IsTuple T vals)) Sv:=by
 refine⟨W.frame,fun i s Q E hi st hQ=>W.item i s _ E hi st fun T vals bx tk pt o_ vr mid Nm mF=>?_,W.done,al⟩;refine W.go elts k p i T {s with heap:=bx,toks:=tk} _ mF mid fun h' Ċ Hx=>?_;obtain⟨oT,e1,e2⟩:=vr;exact hQ (.ref T) h' tk ⟨T,vals,rfl,pt,oT,Hx T oT (W.apart i T bx mid) e1,e2⟩ Ċ fun b o nb e=>Hx b o nb (Nm b o nb e)
structure Fp(g:Gh)(h:Heap)(fp wr:List Addr):Prop where
 f:∀b∈fp,∀o,h.get? b=some o→g.r b=.Ô o∨(b∈wr∧g.r b=.held o)
 w:iJ g wr
 z:∀b∈fp,b∉wr→∃o,g.r b=.Ô o
theorem Fp.I_{h:Heap}(F:Fp g h fp wr)(G:uc wr g g')(B:Base Z g' s' H'):∀b∈fp,∀o,h.get? b=some o→s'.heap.get? b=some o:=fun b m o e=>by
 rcases F.f b m o e with q|⟨mw,q⟩
 ·exact B.Ô b o (Gh.aN (G.k b o (Gh.Ř q)))
 ·exact B.held b o (G.held b mw o q)
theorem Fp.step{h:Heap}(F:Fp g h fp wr)(G:uc wr g g')(B:Base Z g' s' H')(kp:Off wr s' h')(al:∀b∈wr,∃o,h'.get? b=some o):Fp (g'.hold wr h') h' fp wr:=by
 have zz:∀b∈fp,b∉wr→∃o,g'.r b=.Ô o:=fun b m n=>let ⟨o,q⟩:=F.z b m n;⟨o,Gh.aN (G.k b o (Gh.Ř q))⟩
 refine⟨fun b m o e=>?_,fun b m=>?_,fun b m n=>let ⟨o,q⟩:=zz b m n;⟨o,(Ž n).trans q⟩⟩
 ·by_cases q:b∈wr
  ·exact .inr ⟨q,(de q).trans (congrArg aW e)⟩
  ·obtain⟨o',q'⟩:=zz b m q;have e':=kp b o' q (B.Ô b o' q');rw[e]at e';exact .inl ((Ž q).trans (ì e'▸q'))
 ·obtain⟨o,q⟩:=al b m;exact⟨o,(de m).trans (congrArg aW q)⟩
theorem Nx.walks{n:Nat}{It:Nat→Value→Heap→Prop}{Sv:Nat→Heap→Prop}(W:Wk prog w A mK I fp wr n It Sv){l:List V}:
  ∀{i:Nat} {g:Gh} {h:Heap},n=i+l.length→Sv i h→(∀j v h' x,It (i+j) v h'→l[j]? =some x→eP Z.toSta mK g.k h' x v)→Fp g h fp wr→Nx prog w Z A mK wr I l g:=by
 induction l with
 |nil=>
  intro i g h hn hs hp F g' s' H' G B Q E hq;obtain rfl:n=i:=hn;exact W.done s' Q E (W.frame n _ _ hs (F.I_ G B)) hq
 |cons x l ih=>
  intro i g h hn hs hp F g' s' H' G B ht Q E hq;rw[Ă]at hn;refine W.item i s' Q E (by exact ä [_,_,_] (.c (.a Â (.a ã Á)) È .z) (.a Â Á) È rfl (Ņ hn.symm)) (W.frame i _ _ hs (F.I_ G B)) fun v h' tk p Ċ kp=>?_;have F':=F.step G B kp (W.al _ _ Ċ);have hk:aP g.k (g'.hold wr h').k:=fun a o q=>fR (F.w.mono G).gu a o (G.k a o q)
  refine hq h' tk v kp F'.w ((hp 0 v h' x p rfl).mono hk) (ih (i:=i+1) (by exact cQ (ä [_,_,_] (.c Â (.a È (.a ã Á)) .z) Â (.a (.a È Á) ã) rfl (Ņ hn)) (ä [_,_,_] (.c (.a Â (.a È Á)) ã .z) (.a (.a Â Á) È) ã rfl (Ņ hn.symm))) Ċ (fun j u HP y p q=>(hp (j+1) u HP y ?_ q).mono hk) F');have e:i+1+j=i+(j+1):=by exact wY _ _
  exact e▸p
abbrev qF(prog:Program)(w:World)(A:Around)(t:Expr)(I:Addr)(b:List Stmt)(env:Env)(RR:Result→Shared→Prop):Flow→Shared→Prop:=fun f fu=>match f with
 |.next|.cont=>codeAny (model prog w) A (.forLoop t (.ref I) b [] env) RR fu
 |.brk=>RR (.ok .next) fu
 |.ret v=>RR (.ok (.ret v)) fu
theorem tc{t:Expr}{I:Addr}{b:List Stmt}{RR:Result→Shared→Prop}
  (h:∀E,õ prog w A (pyNext (.ref I)) (fun r ĉ=>match r with
   |none=>RR (.ok .next) ĉ
   |some v=>∀E,õ prog w A (letOwnedTupleGo t (.ref I) v) (fun À Ğ=>∀E,õ prog w A (assign t env v) (fun À aM=>∀E,õ prog w A (execs b env) (qF prog w A t I b env RR) E aM) E Ğ) E ĉ) E s):codeAny (model prog w) A (.forLoop t (.ref I) b [] env) RR s:=by
 refine codeAny_of_tree ?_;show wpAny _ A ((forTurn t (.ref I) b [] env).onRaise (fun x=>do noteFrame x env;theTreesLotGoes x)) _ _ s;refine wpAny_noted ?_;simp only[forTurn];refine wpAny_bind (wpAny_standAt (wpAny_bind (wpAny_onRaise (wpAny_mono (h _) (fun r ĉ bx=>?_) fun À À h'=>wpAny_standAt h'))))
 induction r using ş with
 |none=>exact wpAny_pure ⟨rfl,codeAny_block (wpAny_execs_nil bx)⟩
 |some v=>
  refine wpAny_bind (wpAny_mono (bx _) (fun À Ğ cR=>wpAny_bind (wpAny_mono (cR _) (fun À aM ņ=>wpAny_bind (wpAny_mono (ņ _) (fun f fu l8=>?_) fun À À h'=>h')) fun À À h'=>h')) fun À À h'=>h')
  induction f using PySem.Flow.casesOn with
  |next=>exact wpAny_pure ⟨rfl,l8⟩
  |cont=>exact wpAny_pure ⟨rfl,l8⟩
  |brk=>exact wpAny_pure l8
  |ret v=>exact wpAny_pure l8
structure uj(prog:Program)(w:World)(Z:Ě)(d:Nat)(t:Tg)(v:V)(S Å:St):Prop where
 s:vS prog w Z d t v S Å
 tp:∀l,t=.t l→∃vs,view S.H v=some (.tup vs)∧Ď S l vs=some Å
 n:t≠.no
theorem jO{x:Expr}(ht:isTup x=true):(T3 fun ts k p=>x=.Tuple ts k p)∨T2 fun ts p=>x=.List ts p:=by
 induction x using PySem.Expr.casesOn with
 |Tuple ts k p=>exact .inl ⟨ts,k,p,rfl⟩
 |List ts p=>exact .inr ⟨ts,p,rfl⟩
 |_=>exact â ht
theorem uj.shape(h:uj prog w Z d t v S Å){x:Expr}(hx:fg cx x=t)(ht:isTup x=true):T4 fun ts k p l=>A3 (x=.Tuple ts k p) (Š cx ts=some l) (t=.t l):=by
 rcases jO ht with⟨ts,k,p,e⟩|⟨ts,p,e⟩<;>rw[e]at hx
 ·have e':(match Š cx ts with|some l=>Tg.t l|none=>.no)=t:=hx
  induction hl:Š cx ts using ş with
  |none=>rw[hl]at e';exact absurd e'.symm h.n
  |some l=>rw[hl]at e';exact⟨ts,k,p,l,e,hl,e'.symm⟩
 ·exact absurd hx.symm h.n
theorem uj.tup(h:uj prog w Z d t v S Å){x:Expr}(hx:fg cx x=t)(hv:Ð v=true)(ht:isTup x=true):∃vs,v=.tup vs:=by
 obtain⟨ts,k,p,l,_,hl,e⟩:=h.shape hx ht;obtain⟨vs,h1,_⟩:=h.tp l e
 induction v using V.casesOn with
 |Ó i=>exact â hv
 |_=>exact⟨vs,ì h1⟩
theorem tO(h:uj prog w Z d t v S Å){x:Expr}(hx:fg cx x=t){z:Value}{Q:Unit→Shared→Prop}{E:Value→Shared→Prop}(C:Ok Z d cx A env g s S)(hz:eP Z.toSta x g.k s.heap v z)(hq:mH Z d cx A env g Å (Q ())):õ prog w A (assign x env z) Q E s:=by
 rcases hz with hz|⟨ht,T,xs,vs,rfl,rfl,vr,NG⟩
 ·exact h.s _ _ _ _ _ _ _ _ _ hx C hz.iM hq
 ·obtain⟨ts,k,p,l,rfl,hl,e⟩:=h.shape hx ht;obtain⟨vs',h1,h2⟩:=h.tp l e;obtain rfl:=ì (congrArg (fun o=>o.bind qT) h1);exact gV hl h2 C vr NG.v7 hq
def zl(prog:Program)(w:World)(Z:Ě)(d:Nat)(t:Tg)(l:List V)(b:List PS)(st Ċ:St)(o:Out):Prop:=o≠.exc∧∀cx x ys env A ħ g s I wr,fg cx x=t→bF cx ys=b→Ok Z d cx A env g s st→Gst ħ g→
 iJ g wr→Nx prog w Z A x wr I l g→(∀b∈wr,Nil ħ b)→LoopAt prog w Z d cx A env ħ s (.forLoop x (.ref I) ys [] env) Ċ o
theorem MI:zl prog w Z d t [] B S S .next:=
 ⟨(fun q=>neT Out.ctorIdx q rfl),fun cx x ys env A ħ g s I wr hx hy C G T N F RR hq=>tc fun E=>N g s _ (.refl _ g) C.base _ E fun h' tk kp=>hq _ _ _ (aK G T.gu F) (C.hold T.gu kp tk) rfl⟩
theorem td(h0:Ð v=true)(h1:uj prog w Z d t v S Å){x:Expr}{ys:List Stmt}(hx:fg cx x=t)(C:Ok Z d cx A env g s S)(G:Gst ħ g)(T:iJ g wr)(N:Nx prog w Z A x wr I (v::l) g)(F:∀b∈wr,Nil ħ b){RR:Result→Shared→Prop}
  (hq:∀ó Ğ,Gst ħ ó→Ok Z d cx A env ó Ğ Å→iJ ó wr→Nx prog w Z A x wr I l ó→∀E,õ prog w A (execs ys env) (qF prog w A x I ys env RR) E Ğ):codeAny (model prog w) A (.forLoop x (.ref I) ys [] env) RR s:=by
 refine tc fun E=>wpAny_mono (N g s _ (.refl _ g) C.base (h1.tup hx h0) (fun z Ğ=>∀E,õ prog w A (assign x env z) (fun À aM=>∀E,õ prog w A (execs ys env) (qF prog w A x I ys env RR) E aM) E Ğ) E fun h' tk z kp hh ir N' E=>?_) (fun r ĉ sW=>?_) fun À À e=>e
 ·exact tO h1 hx (C.hold T.gu kp tk) ir fun Ü Ğ Ñ Ï=>hq Ü Ğ ((aK (h:=h') G T.gu F).trans Ñ) Ï (hh.mono Ñ.yR) (N'.mono Ñ.yR)
 ·induction r using ş with
  |none=>exact sW.elim
  |some z=>exact sW
theorem MJ(h0:Ð v=true)(h1:uj prog w Z d t v S Å)(h2:fj prog w Z d B Å Í .next)(h3:zl prog w Z d t l B Í S' o):zl prog w Z d t (v::l) B S S' o:=by
 refine⟨h3.1,fun cx x ys env A ħ g s I wr hx hy C G T N F RR hq=>td h0 h1 hx C G T N F fun ó Ğ ù è O9 Pg E=>?_⟩;refine h2 _ _ _ _ _ _ _ _ hy è ⟨fun İ iU f ł ĸ DL=>?_,(fun q=>neT Out.ctorIdx q rfl)⟩;obtain rfl:f=.next:=DL;exact h3.2 _ _ _ _ _ _ _ _ _ _ hx hy ĸ (ù.trans ł) (O9.mono ł.yR) (Pg.mono ł.yR) F RR hq
theorem MH{y:V}(h0:Ð v=true)(h1:uj prog w Z d t v S Å)(h2:fj prog w Z d B Å Í (.ret y)):zl prog w Z d t (v::l) B S Í (.ret y):=by
 refine⟨(fun q=>neT Out.ctorIdx q rfl),fun cx x ys env A ħ g s I wr hx hy C G T N F RR hq=>td h0 h1 hx C G T N F fun ó Ğ ù è O9 Pg E=>?_⟩;refine h2 _ _ _ _ _ _ _ _ hy è ⟨fun İ iU f ł ĸ DL=>?_,(fun q=>neT Out.ctorIdx q rfl)⟩;obtain⟨u,rfl,hu⟩:=DL;exact hq _ _ _ (ù.trans ł) ĸ ⟨u,rfl,hu⟩
end
section
variable{g ħ g':Gh}{st S Å:St}{H H₁:List Cell}{ρ κ:List (Option V)}{wr fp:List Addr}{I:Addr}{t:Expr}{h':Heap}{v v':V}{l:List V}{Q:Value→Shared→Prop}{E:Value→Shared→Prop}{e it:PE}{B:List PS}{o:Out}{x:Value}{tg:Tg}
noncomputable def AN:List String:=["enumerate","zip","dict_itemiterator","dict_reverseitemiterator","odict_iterator","itertools.zip_longest","itertools.pairwise"]
theorem AM{v:Value}{o:Obj}{C:String}{Q:Unit→Shared→Prop}(ho:s.heap.get? I=some o)(hc:o.cls=.type C)(hn:AN.contains C=false)(h:Q () s):wpAny (model prog w) A (letOwnedTupleGo t (.ref I) v) Q E s:=by
 unfold AN at hn
 induction ht:isTup t using ñ with
 |false=>rw[uP ht];exact wpAny_pure h
 |true=>
  rcases jO ht with⟨ts,k,p,rfl⟩|⟨ts,p,rfl⟩<;>unfold letOwnedTupleGo<;>induction v using PySem.Value.casesOn<;>first
   |exact wpAny_pure h
   |(refine wpAny_bind (wpAny_load ho ?_)
     rw[hc]
     induction o.data using PySem.Data.casesOn<;>first|exact wpAny_pure h|(dsimp only;rw[hn];exact wpAny_pure h))
structure Src(prog:Program)(w:World)(Z:Ě)(mK:Expr)(l:List V)(I:Addr)(wr:List Addr)(g:Gh):Prop where
 nx:∀A:Around,A.handled=none→Nx prog w Z A mK wr I l g
 held:iJ g wr
 self:∀(A:Around) g' s' H' (Q:Value→Shared→Prop) E,uc wr g g'→Base Z g' s' H'→Q (.ref I) s'→õ prog w A (pyIter (.ref I)) Q E s'
theorem Src.mono(h:Src prog w Z t l I wr g)(G:uc wr g g'):Src prog w Z t l I wr g':=
 ⟨fun A hA=>(h.nx A hA).mono G,h.held.mono G,fun A ó Ğ Ö Q E ù B hq=>h.self A ó Ğ Ö Q E (G.trans ù) B hq⟩
def js(prog:Program)(w:World)(Z:Ě)(d:Nat)(cx:Cx)(A:Around)(env:Env)(t:Expr)(l:List V)(g:Gh)(st:St)(Q:Value→Shared→Prop):Prop:=
 ∀Ü g' s' I wr,Gst g Ü→Ü.r Ü.L=.loc→Gst Ü g'→Ok Z d cx A env g' s' st→Src prog w Z t l I wr g'→(∀b∈wr,Nil Ü b)→Q (.ref I) s'
theorem js.mono(h:js prog w Z d cx A env t l g st Q)(G:Gst g g'):js prog w Z d cx A env t l g' st Q:=fun Ü ó Ğ I wr Ñ t_ ù Vu S F=>h Ü ó Ğ I wr (G.trans Ñ) t_ ù Vu S F
theorem ru(C:Ok Z d cx A env g s st){n:Nat}{It:Nat→Value→Heap→Prop}{Sv:Nat→Heap→Prop}(O:∀b∈wr,g.r b=.free)(kp:∀b o,s.heap.get? b=some o→h'.get? b=some o)(W:∀A:Around,A.handled=none→Wk prog w A t I fp wr n It Sv)
  (self:∀(A:Around) (s':Shared) (Q:Value→Shared→Prop) (E:Value→Shared→Prop),Sv 0 s'.heap→Q (.ref I) s'→wpAny (model prog w) A (pyIter (.ref I)) Q E s')
  (cK:Sv 0 h')(PZ:∀b∈fp,b∈wr∨∃o,g.r b=.Ô o)(hn:n=l.length)(hp:∀j v HP x,It j v HP→l[j]? =some x→eP Z.toSta t g.k HP x v)(tk:Nat)(hq:js prog w Z d cx A env t l g st Q):Q (.ref I) {s with heap:=h',toks:=tk}:=by
 have O':g5 g wr:=fun b m=>by rw[O b m];rfl
 have F:∀b∈wr,Nil g b:=fun b m=>.free (O b m)
 have G:=aK (h:=h') (Gst.refl g) O' F;have FP:Fp (g.hold wr h') h' fp wr:=by
  refine⟨fun b m o e=>?_,fun b m=>?_,fun b m n=>?_⟩
  ·by_cases q:b∈wr
   ·exact .inr ⟨q,(de q).trans (congrArg aW e)⟩
   ·obtain⟨o',q'⟩:=(PZ b m).resolve_left q;have e':=kp b o' (C.base.Ô b o' q');rw[e]at e';exact .inl ((Ž q).trans (ì e'▸q'))
  ·obtain⟨o,q⟩:=(W A C.r.hd).al 0 _ cK b m;exact⟨o,(de m).trans (congrArg aW q)⟩
  ·obtain⟨o',q'⟩:=(PZ b m).resolve_left n;exact⟨o',(Ž n).trans q'⟩
 refine hq g _ _ I wr (.refl g) C.i.gJ.loc G (C.hold O' (fun b o À e=>kp b o e) tk) ⟨fun A hA=>?_,FP.w,fun VH ó Ğ Ö Q E ù aA NN=>?_⟩ F
 ·exact Nx.walks (W A hA) (i:=0) (hn.trans (ki _).symm) cK (fun j v HP x p e=>(hp j v HP x (ki j▸p) e).mono G.k) FP
 ·exact self VH Ğ Q E ((W A C.r.hd).frame 0 _ _ cK (FP.I_ ù aA)) NN
theorem dG(C:Ok Z d cx A env g s st){o:Obj}(hf:o.isFreed=false){n:Nat}{Pv:Nat→Value→Prop}{Sv:Nat→Heap→Prop}(W:∀A:Around,A.handled=none→Walks prog w A s.heap.objs.size fp [s.heap.objs.size] n Pv Sv)
  (al:∀i h,Sv i h→T2 fun o C=>A3 (h.get? s.heap.objs.size=some o) (o.cls=.type C) (AN.contains C=false))
  (self:∀(A:Around) (s':Shared) (Q:Value→Shared→Prop) (E:Value→Shared→Prop),Sv 0 s'.heap→Q (.ref s.heap.objs.size) s'→wpAny (model prog w) A (pyIter (.ref s.heap.objs.size)) Q E s')
  (cK:Sv 0 (s.heap.push o))(PZ:∀b∈fp,b=s.heap.objs.size∨∃o,g.r b=.Ô o)(hn:n=l.length)(hp:∀j v x,Pv j v→l[j]? =some x→Rep Z.toSta g.k x v)(tk:Nat)(hq:js prog w Z d cx A env t l g st Q):Q (.ref s.heap.objs.size) {s with heap:=s.heap.push o,toks:=tk}:=by
 refine ru C (fun b m=>ė.mp m▸C.base.fresh _ (Ų _)) (fun b o' e=>ō _ e) (fun A hA=>Wk.of (W A hA) (fun i h hs b m=>?_) fun i s' v Q E hs ZI=>?_) self cK (fun b m=>(PZ b m).imp ė.mpr id) hn (fun j v HP x p e=>.inl (hp j v x p e)) tk hq
 ·obtain⟨o',C,e,_⟩:=al i h hs;exact⟨o',ė.mp m▸e⟩
 ·obtain⟨o',C,e,e1,e2⟩:=al i _ hs;exact AM e e1 e2 ZI
theorem ß.TM{Y:Sta}{k:FH}{l:List V}{vs:List Value}{j:Nat}{x:V}{v:Value}(h:ß Y k l vs)(hx:l[j]? =some x)(hv:vs[j]? =some v):Rep Y k x v:=by
 obtain⟨z,z1,z2⟩:=h.get hx;exact ì (z1.symm.trans hv)▸z2
theorem KA{m:List V}(C:Ok Z d cx A env g s st)(hx:Rep Z.toSta g.k (.tup m) x)(hq:js prog w Z d cx A env t m g st Q):õ prog w A (pyIter x) Q E s:=by
 obtain⟨a,o,vs,rfl,k,⟨n,rfl⟩,r⟩:=hx;have ho:=C.base.sub k;have dX:a≠s.heap.objs.size:=eV (eX ho);refine wpAny_pyIter_tuple ⟨_,ho,rfl,_,rfl⟩ ?_;refine dG C rfl (fun A hA=>Walks.tuple hA s.heap.objs.size a dX vs.toArray) (fun i h hs=>?_) (fun A s' Q E hs hq=>wpAny_pyIter_tupleiter hs.1 hq) ⟨⟨_,fM _ rfl,rfl,rfl⟩,⟨_,ō _ ho,rfl,_,rfl⟩⟩ (fun b m=>?_) (Ź.trans r.len) (fun j v x p e=>r.TM e (sH▸p)) s.toks hq
 ·obtain⟨⟨o,e,ec,ed⟩,_⟩:=hs;exact⟨o,_,e,ec,by decide⟩
 ·exact(Ą.mp m).imp id fun q=>⟨_,ė.mp q▸Gh.aN k⟩
theorem KD{m:List V}(C:Ok Z d cx A env g s st)(hx:Rep Z.toSta g.k (.lst m) x)(hq:js prog w Z d cx A env t m g st Q):õ prog w A (pyIter x) Q E s:=by
 obtain⟨a,o,vs,rfl,k,⟨n,rfl⟩,r⟩:=hx;have ho:=C.base.sub k;have dX:a≠s.heap.objs.size:=eV (eX ho);refine wpAny_pyIter_list ⟨_,ho,rfl,_,rfl⟩ ?_;refine dG C rfl (fun A hA=>Walks.list hA s.heap.objs.size a dX vs.toArray) (fun i h hs=>?_) (fun A s' Q E hs hq=>wpAny_pyIter_listiter hs.1 hq) ⟨⟨_,fM _ rfl,rfl,rfl⟩,⟨_,ō _ ho,rfl,_,rfl⟩⟩ (fun b m=>?_) (Ź.trans r.len) (fun j v x p e=>r.TM e (sH▸p)) s.toks hq
 ·obtain⟨⟨o,e,ec,ed⟩,_⟩:=hs;exact⟨o,_,e,ec,by decide⟩
 ·exact(Ą.mp m).imp id fun q=>⟨_,ė.mp q▸Gh.aN k⟩
theorem KC{m:List Nat}(C:Ok Z d cx A env g s st)(hx:Rep Z.toSta g.k (.str m) x)(hq:js prog w Z d cx A env t (m.map fun c=>.str [c]) g st Q):õ prog w A (pyIter x) Q E s:=by
 obtain⟨tk,rfl⟩:=hx;have sign:∀j (v:Value) x,SignAt ⟨⟨m⟩⟩ j v→(m.map fun c=>V.str [c])[j]? =some x→Rep Z.toSta g.k x v:=fun j v x p e=>by
  obtain⟨c,u,hc,rfl⟩:=p;have hc:m[j]? =some c:=by simpa using hc
  rw[List.getElem?_map,hc]at e;exact ì e▸⟨u,rfl⟩
 have hl:m.toArray.size=(m.map fun c=>V.str [c]).length:=Ź.trans (Ė _).symm
 induction ha:(⟨⟨m⟩⟩:Õ).cps.all (· <128)using ñ with
 |false=>
  refine wpAny_pyIter_wide ha ?_;refine dG C rfl (fun A hA=>Walks.strWide hA s.heap.objs.size ⟨⟨m⟩⟩ tk) (fun i h hs=>?_) (fun A s' Q E hs hq=>wpAny_pyIter_striter_wide hs hq) ⟨_,fM _ rfl,rfl,rfl⟩ (fun b m=>.inl (ė.mp m)) hl sign s.toks hq;obtain⟨o,e,ec,ed⟩:=hs;exact⟨o,_,e,ec,by decide⟩
 |true=>
  refine wpAny_pyIter_ascii ha ?_;refine dG C rfl (fun A hA=>Walks.strAscii hA s.heap.objs.size ⟨⟨m⟩⟩ tk) (fun i h hs=>?_) (fun A s' Q E hs hq=>wpAny_pyIter_striter_ascii hs hq) ⟨_,fM _ rfl,rfl,rfl⟩ (fun b m=>.inl (ė.mp m)) hl sign s.toks hq;obtain⟨o,e,ec,ed⟩:=hs;exact⟨o,_,e,ec,by decide⟩
theorem Bq{m:List Nat}(C:Ok Z d cx A env g s st)(hx:Rep Z.toSta g.k (.bytes m) x)(hq:js prog w Z d cx A env t (m.map fun (c:Nat)=>V.int (c:Int)) g st Q):õ prog w A (pyIter x) Q E s:=by
 obtain⟨b,tk,rfl,rfl⟩:=hx;refine KBw.pyIter_bytes ?_;refine dG C rfl (fun A hA=>KBw.walks hA s.heap.objs.size b tk) (fun i h hs=>?_) (fun A s' Q E hs hq=>KBw.pyIter_self hs hq) ⟨_,fM _ rfl,rfl,rfl⟩ (fun b m=>.inl (ė.mp m)) (by simp) (fun j v x p e=>?_) s.toks hq
 ·obtain⟨o,e,ec,ed⟩:=hs;exact⟨o,_,e,ec,by decide⟩
 ·obtain⟨c,u,hc,rfl⟩:=p;have hc:b.toList[j]? =some c:=by simpa using hc
  rw[List.getElem?_map,List.getElem?_map,hc]at e;exact ì e▸⟨u,rfl⟩
theorem FY(C:Ok Z d cx A env g s st)(hx:Rep Z.toSta g.k v x)(hl:items v=some l)(hq:js prog w Z d cx A env t l g st Q):õ prog w A (pyIter x) Q E s:=by
 induction v using V.casesOn with
 |tup m=>exact KA C hx (ì hl▸hq)
 |lst m=>exact KD C hx (ì hl▸hq)
 |str m=>exact KC C hx (ì hl▸hq)
 |bytes m=>exact Bq C hx (ì hl▸hq)
 |_=>exact nS hl
end
section
variable{g ħ g':Gh}{st S Å:St}{H H₁:List Cell}{ρ κ:List (Option V)}{d b:Nat}{t:Expr}{v v':V}{l vs vs':List V}{Q:Value→Shared→Prop}{E:Value→Shared→Prop}{e it:PE}{es as:List PE}{B:List PS}{o:Out}{x:Value}{tg:Tg}
theorem za(b:Nat)(hb:b<13):(∃id,nh b=.builtin id)∨∃T,nh b=.type T:=by
 match b with
 |0|1|3|4|6|7|9=>exact .inl ⟨_,rfl⟩
 |2|5|8|10|11|12=>exact .inr ⟨_,rfl⟩
 |n+13=>exact absurd hb (Nat.not_lt.mpr (î ..))
theorem gT(hg:cf Z K){ys:List Expr}{f:Õ}{np p:Pos}(hf:dz cx f=some (.blt b))(hb:b<13)(hp:plain ys=true)(e1:fc cx ys=as)(h1:ĺ prog w Z d as S ⟨H,ρ,κ⟩ vs)(h2:ē H vs=some (H₁,vs'))(C:Ok Z d cx A env g s S)
  (hq:∀g' s' xs,Gst g g'→Ok Z d cx A env g' s' ⟨H₁,ρ,κ⟩→ß Z.toSta g'.k vs' xs→õ prog w A (call (nh b) xs) Q E s'):õ prog w A (eval (.Call (.Name f np) ys [] p) env) Q E s:=by
 refine av (ŋ hg C.e C.base hf fun z hz=>?_);obtain rfl:z=nh b:=hz;have go:õ prog w A (evalArgs (nh b) true (backTo p (starEach ys env)) []) (fun a ĉ=>õ prog w A (call (nh b) ([]++a.pos) a.kw) Q E ĉ) E s:=by
  refine ı (plain_any hp) ?_;refine h1 _ _ _ _ _ _ _ _ _ e1 hp C fun Ü ò xs Ñ Ï ô=>?_;exact Base.eH Ï.base h2 ô fun ó Í aA fY=>hq _ _ _ (Ñ.trans Í.toGst) (Ï.next Í (.refl _) aA) fY
 rcases za b hb with⟨id,e⟩|⟨T,e⟩<;>rw[e]at go ⊢
 ·exact Calls.callWith_builtin (plain_any hp) go
 ·exact PySem.callWith_type (plain_any hp) go
noncomputable def isIt:PE→Bool
 |.bl b _=>aj 11 b
 |_=>false
theorem GQ{zf:List PE}(h:zb true b as zf=e)(n:isIt e=false):zb false b as zf=e:=by
 unfold zb at h ⊢
 induction q:aj 11 b using ñ with
 |true=>
  rw[q]at h;rw[←h]at n;have n:aj 11 b=false:=n;rw[q]at n;exact ĕ n
 |false=>rw[q]at h;exact h
theorem CC{f:Õ}{zf:List PE}(h:pq true cx f as zf=e)(n:isIt e=false):pq false cx f as zf=e:=by
 unfold pq at h ⊢
 induction q:Ę cx f using ş with
 |some p=>rw[q]at h;exact h
 |none=>
  rw[q]at h
  induction q2:dz cx f using ş with
  |none=>rw[q2]at h;exact h
  |some G=>
   rw[q2]at h
   induction G using Gl.casesOn with
   |blt b=>exact GQ h n
   |_=>exact h
theorem K4{x:Expr}(h:xq cx x=e)(n:isIt e=false):er cx x=e:=by
 induction x using PySem.Expr.casesOn with
 |Call f as ks pos=>
  have h:cq (ks.isEmpty&&plain as) (jW true cx f (K5 cx f) as.length pos (fc cx as) (cT true cx as))=e:=h;show cq (ks.isEmpty&&plain as) (jW false cx f (K5 cx f) as.length pos (fc cx as) (cT true cx as))=e
  induction q:(ks.isEmpty&&plain as)using ñ with
  |false=>rw[q]at h;exact h
  |true=>
   rw[q]at h;have h:jW true cx f (K5 cx f) as.length pos (fc cx as) (cT true cx as)=e:=h;show jW false cx f (K5 cx f) as.length pos (fc cx as) (cT true cx as)=e;unfold jW at h ⊢
   induction q2:nameOf f using ş with
   |none=>rw[q2]at h;exact h
   |some y=>rw[q2]at h;exact CC h n
 |_=>exact h
def ni(prog:Program)(w:World)(Z:Ě)(d:Nat)(e:PE)(S Å:St)(v:V):Prop:=∀H' v' l,Ô Å.H v=some (H',v')→items v'=some l→∀cx x t env A g s Q E,xq cx x=e→jl t e=true→Ok Z d cx A env g s S→
 js prog w Z d cx A env t l g {Å with H:=H'} Q→õ prog w A (eval x env) (fun z ĉ=>∀mF,õ prog w A (pyIter z) Q mF ĉ) E s
theorem wj(h:Ű prog w Z d e S Å v)(n:isIt e=false):ni prog w Z d e S Å v:=fun H' v' l hf hl cx x t env A g s Q E hx ho C hq=>
 h _ _ _ _ _ _ _ _ (K4 hx n) C fun Ü ĉ z Ñ Ï ô mF=>Ï.base.bE hf ô fun ó Í aA fY=>FY (Ï.next Í (.refl _) aA) fY hl (hq.mono (Ñ.trans Í.toGst))
theorem wy{x:V}{n:Nat}:∀{a:Int} {j:Nat},(mL a n)[j]? =some x→x=.int (a+j):=by
 induction n with
 |zero=>exact fun h=>nomatch h
 |succ n ih=>
  intro a j h
  induction j using mM with
  |zero=>exact(ì h).symm.trans (congrArg V.int (Int.add_zero a).symm)
  |succ j=>
   refine(ih (a:=a+1) (j:=j) h).trans (congrArg V.int ?_);exact Int.le_antisymm (í [_,_] .z (.a (.a Â Á) È) (.a Â (.a È Á)) rfl) (í [_,_] .z (.a Â (.a È Á)) (.a (.a Â Á) È) rfl)
theorem wu(n:Nat):∀(a:Int),(mL a n).length=n:=by
 induction n with
 |zero=>exact fun À=>rfl
 |succ n ih=>exact fun a=>congrArg (· +1) (ih (a+1))
theorem qJ{l:List V}{x:V}:∀{n j:Nat},(bA n l)[j]? =some x→∃y,l[j]? =some y∧x=.tup [.int (n+j:Nat),y]:=by
 induction l with
 |nil=>exact fun h=>nomatch h
 |cons v r ih=>
  intro n j h
  induction j using mM with
  |zero=>exact⟨v,rfl,(ì h).symm⟩
  |succ j=>
   obtain⟨y,h1,h2⟩:=ih (n:=n+1) (j:=j) h;have e:n+1+j=n+(j+1):=by exact wY _ _
   exact⟨y,h1,e▸h2⟩
theorem qH(l:List V):∀(n:Nat),(bA n l).length=l.length:=by
 induction l with
 |nil=>exact fun À=>rfl
 |cons v r ih=>exact fun n=>congrArg (· +1) (ih (n+1))
theorem rB(a b:Int):Builtin.Range.rangeSize a b 1=((b - a).toNat:Int):=by
 rw[rangeSize_one]
 by_cases h:a<b
 ·rw[if_pos h,Int.toNat_of_nonneg (Int.sub_nonneg_of_le (jM h))]
 ·rw[if_neg h,Int.toNat_eq_zero.mpr (Int.sub_nonpos_of_le (bO.mp h))];rfl
theorem nW{a b:Int}(h:a<1000000∧ -1000000<a)(h2:b<1000000∧ -1000000<b):Builtin.Range.small a b 1=true:=
 have m:(-2^62:Int)≤ -1000000:=by decide
 have l:(1000000:Int)<2^62:=by decide
 small_one (oV m (jM h.2)) (Int.lt_trans h.1 l) (oV m (jM h2.2)) (Int.lt_trans h2.1 l)
theorem JG{a b:Int}(h:a<1000000∧ -1000000<a)(h2:b<1000000∧ -1000000<b):(b - a).toNat≤2^24:=
 Int.toNat_le.mpr (oV (Int.sub_le_sub (jM h2.1) (jM h.2)) (by decide))
theorem lX{r:Addr}{a b:Int}{u v x:Tok}(C:Ok Z d cx A env g s st)(ha:Ć a=true)(hb:Ć b=true)(hr:IsRange s.heap r a b 1 u v x)(hq:js prog w Z d cx A env t (mL a (b - a).toNat) g st Q):õ prog w A (pyIter (.ref r)) Q E s:=by
 have h1:=ż ha;have h2:=ż hb;refine wpAny_pyIter_range hr (nW h1 h2) ?_;have o_:Builtin.Range.rangeSize a b 1=((b - a).toNat:Int):=rB a b;refine dG C rfl (fun A hA=>Walks.range hA s.heap.objs.size a 1 (b - a).toNat) (fun i h hs=>⟨_,_,hs,rfl,by decide⟩) (fun A s' Q E hs hq=>wpAny_pyIter_rangeiter hs hq) ?_ (fun b m=>.inl (ė.mp m)) (wu _ _).symm (fun j v x p e=>?_) s.toks hq
 ·rw[o_];have e1:a+((0:Nat):Int)*1=a:=by exact Int.le_antisymm (í [_] .z (.a Â (.m 0 Á)) Â rfl) (í [_] .z Â (.a Â (.m 0 Á)) rfl)
  have e2:(((b - a).toNat:Int) - ((0:Nat):Int))=((b - a).toNat:Int):=by rfl
  show IsRangeIter _ _ _ _ _;rw[e1,e2];exact fM _ rfl
 ·obtain⟨tk,rfl⟩:=p;rw[wy e];exact⟨tk,by rw[Int.mul_one]⟩
theorem cu(C:Ok Z d cx A env g s st){o:Obj}(hf:o.isFreed=false)(tk:Nat){G:Prop}(hq:∀g',ę g g'→Ok Z d cx A env g' {s with heap:=s.heap.push o,toks:=tk} st→G):G:=
 have S:=ę.set (x:=.free) g (C.base.fresh _ (Ų _))
 hq _ S (C.next S (fun b o' e=>ō _ e) (C.base.push o tk .free hf (.inl rfl)))
theorem qt(hb:aj 11 b=true)(Z9:b<13)(hg:cf Z K)(h1:ĺ prog w Z d as S ⟨H,ρ,κ⟩ vs)(h2:ē H vs=some (H₁,vs')){X:Expr}(hx:xq cx X=.bl b as)(C:Ok Z d cx A env g s S)
  (hq:∀g' s' xs,Gst g g'→Ok Z d cx A env g' s' ⟨H₁,ρ,κ⟩→ß Z.toSta g'.k vs' xs→õ prog w A (call (nh b) xs) Q E s'):õ prog w A (eval X env) Q E s:=by
 obtain⟨f,np,ys,p,rfl,hp,⟨hf,e1,_⟩|⟨e,_⟩⟩:=iv hx
 ·exact gT hg hf Z9 hp e1 h1 h2 C hq
 ·subst e;exact â hb
theorem qr(hb:aj 11 b=true):Ű prog w Z d (.bl b as) S Å v:=by
 intro cx x env A g s Q E hx;obtain⟨f,np,ys,p,rfl,hp,⟨hf,e1,h|⟨h,_⟩⟩|⟨e,_⟩⟩:=iv hx
 ·have h1:=jc hb;have h2:=jc h;exact absurd (ă h1 h2) (by decide)
 ·exact â h
 ·subst e;exact â hb
theorem Jv{p:Int}(hg:cf Z K)(h1:ĺ prog w Z d as S ⟨H,ρ,κ⟩ vs)(h2:ē H vs=some (H₁,[.int p]))(h3:Ć p=true):ni prog w Z d (.bl 11 as) S ⟨H₁,ρ,κ⟩ (.tup (mL 0 p.toNat)):=by
 intro H' v' l hf hl cx x t env A g s Q E hx ho C hq;cases hf;(replace hl:=ì hl;subst hl);refine qt rfl (by decide) hg h1 h2 hx C fun Ü ò xs Ñ Ï eO=>?_;obtain⟨x,r,rfl,⟨tx,rfl⟩,hr⟩:=eO;obtain rfl:r=[]:=hr;refine call_range_1 fun mF=>cu Ï (o:={cls:=.type "range",data:=.fields #[.int 0 ò.toks,.int p tx,.int 1 (ò.toks+1)]}) rfl (ò.toks+1+1) fun ó Í è=>?_;exact lX è (a:=0) (b:=p) (by decide) h3 (IsRange.new _ _ _ _ _ _ _) ((Int.sub_zero p).symm▸hq.mono (Ñ.trans Í.toGst))
theorem ER{p q:Int}(hg:cf Z K)(h1:ĺ prog w Z d as S ⟨H,ρ,κ⟩ vs)(h2:ē H vs=some (H₁,[.int p,.int q]))(h3:(Ć p&&Ć q)=true):ni prog w Z d (.bl 11 as) S ⟨H₁,ρ,κ⟩ (.tup (mL p (q - p).toNat)):=by
 intro H' v' l hf hl cx x t env A g s Q E hx ho C hq;cases hf;(replace hl:=ì hl;subst hl);refine qt rfl (by decide) hg h1 h2 hx C fun Ü ò xs Ñ Ï eO=>?_;obtain⟨x,r,rfl,⟨tx,rfl⟩,y,r',rfl,⟨ty,rfl⟩,hr⟩:=eO;obtain rfl:r'=[]:=hr;refine call_range_2 fun mF=>cu Ï (o:={cls:=.type "range",data:=.fields #[.int p tx,.int q ty,.int 1 ò.toks]}) rfl (ò.toks+1) fun ó Í è=>?_;exact lX è (oa h3).1 (oa h3).2 (IsRange.new _ _ _ _ _ _ _) (hq.mono (Ñ.trans Í.toGst))
theorem Cd(C:Ok Z d cx A env g s st){h':Heap}{al I J:Addr}{ol:Obj}{ws:List Value}{m:List V}{elts:List Expr}{k':Nat}{p':Pos}(k:g.k al=some ol)(q:mC "list" ws ol)(rm:ß Z.toSta g.k m ws)(hI:I=s.heap.objs.size+1)(hJ:J=s.heap.objs.size)
  (HG:IsEnum h' I J 0 .none)(hit:h'.IsListIter J al 0)(PY:∀b o,s.heap.get? b=some o→h'.get? b=some o)(hq:js prog w Z d cx A env (.Tuple elts k' p') (bA 0 m) g st Q):õ prog w A (pyIter (.ref I)) Q E {s with heap:=h',toks:=s.toks}:=by
 obtain⟨nl,rfl⟩:=q;have Wb:=C.base.sub k;have BL:al<s.heap.objs.size:=eX Wb;refine wpAny_pyIter_enum HG ?_;have O:∀b∈[I,J],g.r b=.free:=fun b n=>by
  rcases Ą.mp n with n|n
  ·exact C.base.fresh _ (n▸hI▸Nat.le_succ _)
  ·exact C.base.fresh _ (ė.mp n▸hJ▸Ų _)
 have n1:I≠J:=hI▸hJ▸Nat.succ_ne_self _;have n2:al≠I:=hI▸eV (Nat.lt_succ_of_lt BL);have n3:al≠J:=hJ▸eV BL;refine ru C O PY (fun A hA=>Wk.ofT (WalksT.enumerate hA I J al n1 n2 n3 ws.toArray) fun i h hs b m=>?_) (fun A s' Q E hs hq=>?_) ⟨⟨_,HG⟩,hit,⟨_,PY _ _ Wb,rfl,_,rfl⟩⟩ (fun b m=>?_) (by rw[qH,←rm.len];exact Ź) (fun j v HP x pv e=>?_) s.toks hq
 ·obtain⟨⟨old,e1⟩,⟨o,e2,_⟩,_⟩:=hs;rcases Ą.mp m with rfl|m
  ·exact⟨_,e1⟩
  ·exact⟨_,ė.mp m▸e2⟩
 ·obtain⟨⟨old,e1⟩,_⟩:=hs;exact wpAny_pyIter_enum e1 hq
 ·rcases Ą.mp m with rfl|m
  ·exact .inl (.head _)
  ·rcases Ą.mp m with rfl|m
   ·exact .inl (.tail _ (.head _))
   ·exact .inr ⟨_,ė.mp m▸Gh.aN k⟩
 ·obtain⟨T,vals,rfl,⟨tk,y,q1,rfl⟩,oT,f1,f2,n,f3⟩:=pv;obtain⟨z,q2,rfl⟩:=qJ e;exact .inr ⟨rfl,T,_,_,rfl,rfl,⟨oT,f1,f2,n,f3⟩,_,_,rfl,⟨tk,by rw[ki]⟩,y,[],rfl,rm.TM q2 (sH▸q1),rfl⟩
theorem Ju{m:List V}(hg:cf Z K)(h1:ĺ prog w Z d as S ⟨H,ρ,κ⟩ vs)(h2:ē H vs=some (H₁,[.lst m])):ni prog w Z d (.bl 12 as) S ⟨H₁,ρ,κ⟩ (.tup (bA 0 m)):=by
 intro H' v' l hf hl cx x t env A g s Q E hx ho C hq;cases hf;(replace hl:=ì hl;subst hl);refine qt rfl (by decide) hg h1 h2 hx C fun Ü ò xs Ñ Ï eO=>?_;obtain⟨x,r,rfl,⟨al,ol,ws,rfl,k,q,rm⟩,hr⟩:=eO;obtain rfl:r=[]:=hr;have hL:=Base.isList (Ï.base.sub k) q;refine call_enumerate_list hL fun h' HG hit o_ PY mF=>?_;have ZF:Br t=true:=ho
 induction t using PySem.Expr.casesOn with
 |Tuple elts k' p'=>exact Cd Ï k q rm rfl rfl HG hit PY (hq.mono Ñ)
 |_=>exact â ZF
theorem Q0(h1:ni prog w Z (d+1) it S ⟨H,ρ,κ⟩ v)(h2:Ô H v=some (H₁,v'))(h3:items v'=some l)(h4:zl prog w Z d tg l B ⟨H₁,ρ,κ⟩ Å o):vQ prog w Z (d+1) (.fo tg it B) S Å o:=by
 intro cx x env A g s Q E hx C hq;obtain⟨y,z,c,p,rfl,hs,ho,e1,e2,e3⟩:=sv hx;refine wpAny_For ?_ (fun x=>?_)
 ·refine wpAny_mono (h1 _ _ _ h2 h3 _ _ _ _ _ _ _ (fun it Ğ=>codeAny (model prog w) A (.forLoop y it c [] env) (fun r s'=>match r with|.ok f=>Q f s'|.error e=>cameBackBy (model prog w) A env E e s') Ğ) E e2 (e2▸ho) C ?_) (fun x ĉ h'=>h' E) fun À À e=>e
  intro Ü ó Ğ I wr Ñ t_ ù è S F;exact h4.2 _ _ _ _ _ _ _ _ _ _ e1 e3 è.down ù S.held (S.nx A C.r.hd) F _ fun İ aM f ł ĸ DL=>hq.q _ _ _ (Ñ.trans ł) (C.lift (Ñ.trans ł) ĸ) DL
 ·induction z using PySem.Expr.casesOn<;>first|rfl|exact ĕ hs
end
section
variable{cx HX:Cx}{g ħ Ü ó g' gE:Gh}{s s' sE:Shared}{st Ċ:St}{H H' HE:List Cell}{h:Heap}{L a:Addr}{x:Role}{o:Obj}
noncomputable def au:Role→Bool
 |.loc=>true
 |_=>false
theorem Ż(h:au x=true):x=.loc:=by induction x using Role.casesOn<;>first|(exact â h;done)|rfl
noncomputable def NB:Role→Bool
 |.kept _=>true
 |.free=>true
 |_=>false
noncomputable def w7:Option Obj→Role
 |some o=>.kept o
 |none=>.free
theorem Bm(o:Option Obj):NB (w7 o)=true:=by induction o using ş<;>rfl
theorem Bl(o:Option Obj):au (w7 o)=false:=by induction o using ş<;>rfl
def Gh.sub(g:Gh)(h:Heap)(L:Addr):Gh where
 r a:=if a=L then .loc else if au (g.r a)then w7 (h.get? a)else g.r a
 as:=g.as
 L:=L
 cs:=g.cs
def Gh.nF(g gE:Gh)(h:Heap):Gh where
 r a:=if au (g.r a)then .loc else if au (gE.r a)then aW (h.get? a)else gE.r a
 as:=gE.as
 L:=g.L
 cs:=g.cs
theorem nJ:(g.sub h L).r L=.loc:=if_pos rfl
theorem nI(n:a≠L):(g.sub h L).r a=if au (g.r a)then w7 (h.get? a)else g.r a:=if_neg n
theorem ń(n:a≠L)(e:g.r a=x)(h1:au x=false):(g.sub h L).r a=x:=by
 rw[nI n,e,h1];rfl
theorem pX(n:a≠L)(e:g.r a=.loc)(ho:h.get? a=some o):(g.sub h L).r a=.kept o:=by
 rw[nI n,e,ho];rfl
theorem EE(q:(g.sub h L).r a=.loc):a=L:=Classical.byContradiction fun n=>by
 rw[nI n]at q
 induction l:au (g.r a)using ñ with
 |true=>
  rw[l,if_pos rfl]at q;have:=Bl (h.get? a);rw[q]at this;exact ĕ this
 |false=>
  rw[l,if_neg jH]at q;rw[q]at l;exact ĕ l
theorem zW(e:(g.sub h L).r a=x)(h1:au x=false)(h2:NB x=false):g.r a=x:=by
 by_cases n:a=L
 ·rw[n,nJ]at e;rw[←e]at h1;exact ĕ h1
 ·rw[nI n]at e
  induction q:au (g.r a)using ñ with
  |true=>
   rw[q,if_pos rfl]at e;rw[←e,Bm]at h2;exact ĕ h2
  |false=>rw[q]at e;exact e
theorem EG(e:Gst g ó)(hn:Nil g L):Gst (g.sub h L) (ó.sub h L):=by
 refine⟨fun a o q=>?_,fun a o q=>?_,fun a o q=>?_,e.as,rfl,e.cs,fun a q=>EE q▸nJ⟩
 ·have q1:=zW (Gh.aN q) rfl rfl;exact Gh.Ř (ń (fun p=>hn.Ô o (p▸q1)) (Gh.aN (e.k a o (Gh.Ř q1))) rfl)
 ·by_cases n:a=L
  ·rw[n,nJ]at q;exact neT Role.ctorIdx q rfl
  ·rw[nI n]at q
   induction l:au (g.r a)using ñ with
   |true=>
    rw[l]at q;rw[nI n,e.loc a (Ż l)];exact q
   |false=>
    rw[l]at q;exact ń n (e.kept a o q) rfl
 ·have q1:=zW q rfl rfl;exact ń (fun p=>hn.held o (p▸q1)) (e.held a o q1) rfl
theorem we(n:a≠L)(h':Nil g a):Nil (g.sub h L) a:=by
 have e:(g.sub h L).r a=g.r a:=ń n rfl (oJ.mpr fun q=>h'.loc (Ż q));exact⟨fun o q=>h'.Ô o (e▸q),fun o q=>h'.kept o (e▸q),fun o q=>h'.held o (e▸q),fun q=>h'.loc (e▸q)⟩
theorem Base.qf(B:Base Z g s H)(hL:s.heap.objs.size≤L)(e:g.r a=x)(n:vq x=false):a≠L:=fun p=>by
 have:=B.fresh _ hL;rw[←p,e]at this;rw[this]at n;exact ĕ n
theorem pY{wr:List Addr}(B:Base Z g s H)(hL:s.heap.objs.size≤L):uc wr g (g.sub h L):=by
 refine⟨fun a o q=>?_,fun a À o q=>?_⟩
 ·have q:=Gh.aN q;exact Gh.Ř (ń (B.qf hL q rfl) q rfl)
 ·refine ń (fun p=>?_) q rfl;have:=B.fresh _ hL;rw[←p,q]at this;exact neT Role.ctorIdx this rfl
theorem iq{r:Role}(h:au r=true):((∀o,r≠.Ô o)∧r≠.tab)∧∀i,r≠.cell i∧r≠.cV i:=by
 rw[Ż h];simp
theorem w6{r:Role}(h:r=.kept o):((∀o,r≠.Ô o)∧r≠.tab)∧∀i,r≠.cell i∧r≠.cV i:=by
 rw[h];simp
theorem Base.QB(B:Base Z g s H)(hL:s.heap.objs.size≤L)(kp:∀b o,s.heap.get? b=some o→h.get? b=some o)(th:∃o,h.get? L=some o)(t:Nat):Base Z (g.sub s.heap L) {s with heap:=h,toks:=t} H:=by
 refine B.gen (fun a=>a=L∨au (g.r a)=true) (fun a q=>?_) (fun b o À e=>kp b o e) (fun b nd=>?_) (fun a ha=>?_) B.len (fun À À e=>e) fun i c e=>.inl ⟨e,fun b q=>?_⟩
 ·rcases q with q|q
  ·exact(f_ (q▸B.fresh _ hL▸rfl)).1
  ·exact(iq q).1
 ·exact ń (fun e=>nd (.inl e)) rfl (oJ.mpr fun e=>nd (.inr e))
 ·by_cases e:a=L
  ·rw[e,nJ];exact⟨(by simp),(by simp),(by simp),fun À=>th⟩
  ·have lo:g.r a=.loc:=Ż (ha.resolve_left e);obtain⟨o,ho⟩:=B.alive a (by rw[lo];simp);rw[pX e lo ho];refine⟨(by simp),fun o' e'=>⟨o.slots,?_⟩,(by simp),fun À=>⟨o,kp a o ho⟩⟩;exact Role.kept.inj e'▸kp a o ho
 ·rcases q with q|q
  ·exact(f_ (q▸B.fresh _ hL▸rfl)).2 i
  ·exact(iq q).2 i
theorem pO(e:g.r a=.loc):(g.nF gE h).r a=.loc:=if_pos (by rw[e];rfl)
theorem kR(n:au (g.r a)=false):(g.nF gE h).r a=if au (gE.r a)then aW (h.get? a)else gE.r a:=if_neg (by rw[n];exact jH)
noncomputable def eF:Role→Bool
 |.kept _=>true
 |_=>false
theorem Hp{y:Role}(e:gE.r a=y)(hk:g.r a=.loc→eF (gE.r a)=true)(nk:eF y=false):au (g.r a)=false:=oJ.mpr fun q=>by
 have:=hk (Ż q);rw[e,nk]at this;exact â this
theorem pN{y:Role}(e:gE.r a=y)(l:au y=false)(hk:g.r a=.loc→eF (gE.r a)=true)(nk:eF y=false):(g.nF gE h).r a=y:=by
 rw[kR (Hp e hk nk),e,l];rfl
theorem Ek(e:gE.r a=.loc)(hk:g.r a=.loc→eF (gE.r a)=true)(ho:h.get? a=some o):(g.nF gE h).r a=.held o:=by
 rw[kR (Hp e hk rfl),e,ho];rfl
theorem Hy(e:Gst (g.sub h L) gE)(hn:Nil g L)(al:∀a,g.r a=.loc→∃o,h.get? a=some o)(q:g.r a=.loc):∃o,h.get? a=some o∧gE.r a=.kept o:=by
 obtain⟨o,ho⟩:=al a q;exact⟨o,ho,e.kept a o (pX (fun p=>hn.loc (p▸q)) q ho)⟩
theorem El(e:Gst (g.sub h L) gE)(hn:Nil g L){hE:Heap}:Gst g (g.nF gE hE):=by
 have go:∀{a x},g.r a=x→au x=false→gE.r a=x→(g.nF gE hE).r a=x:=fun {a x} q l q'=>by
  rw[kR (by rw[q];exact l),q',l];rfl
 refine⟨fun a o q=>?_,fun a o q=>?_,fun a o q=>?_,e.as,rfl,rfl,fun a q=>pO q⟩
 ·have q:=Gh.aN q;exact Gh.Ř (go q rfl (Gh.aN (e.k a o (Gh.Ř (ń (fun p=>hn.Ô o (p▸q)) q rfl)))))
 ·exact go q rfl (e.kept a o (ń (fun p=>hn.kept o (p▸q)) q rfl))
 ·exact go q rfl (e.held a o (ń (fun p=>hn.held o (p▸q)) q rfl))
theorem Mb(hk:∀{a},g.r a=.loc→eF (gE.r a)=true){hE:Heap}:aP gE.k (g.nF gE hE).k:=fun a o q=>Gh.Ř (pN (Gh.aN q) rfl hk rfl)
theorem je{r:Role}(h:eF r=true):∃o,r=.kept o:=by induction r using Role.casesOn<;>first|(exact â h;done)|exact⟨_,rfl⟩
theorem Base.nF(B:Base Z gE sE HE)(hk:∀{a},g.r a=.loc→eF (gE.r a)=true):Base Z (g.nF gE sE.heap) sE HE:=by
 refine B.gen (g':=g.nF gE sE.heap) (h':=sE.heap) (t:=sE.toks) (H':=HE) (fun a=>au (g.r a)=true∨au (gE.r a)=true) (fun a q=>?_) (fun À À À e=>e) (fun b nd=>?_) (fun a ha=>?_) B.len (fun À À e=>e) fun i c q=>.inl ⟨q,fun b q=>?_⟩
 ·rcases q with q|q
  ·obtain⟨o,q⟩:=je (hk (Ż q));exact(w6 q).1
  ·exact(iq q).1
 ·rw[kR (oJ.mpr fun q=>nd (.inl q)),oJ.mpr fun q=>nd (.inr q)];rfl
 ·by_cases ho:g.r a=.loc
  ·rw[pO ho];obtain⟨o,q⟩:=je (hk ho);obtain⟨sl,q⟩:=B.kept a o q;exact⟨(by simp),(by simp),(by simp),fun À=>⟨_,q⟩⟩
  ·have q:gE.r a=.loc:=Ż (ha.resolve_left fun p=>ho (Ż p));have e:(g.nF gE sE.heap).r a=aW (sE.heap.get? a):=by
    rw[kR (oJ.mpr fun p=>ho (Ż p)),q];rfl
   rw[e];exact sZ
 ·rcases q with q|q
  ·obtain⟨o,q⟩:=je (hk (Ż q));exact(w6 q).2 i
  ·exact(iq q).2 i
structure Kx(g g':Gh):Prop where
 k:aP g.k g'.k
 as:∃l,g'.as=g.as++l
theorem Gst.kx(G:Gst g g'):Kx g g':=⟨G.k,G.as⟩
theorem Kx.trans{a b c:Gh}(x:Kx a b)(y:Kx b c):Kx a c:=⟨x.k.trans y.k,let ⟨l,hl⟩:=x.as;let ⟨m,hm⟩:=y.as;⟨l++m,by rw[hm,hl,ĝ]⟩⟩
theorem Kx.same(k:aP g.k g'.k)(e:g'.as=g.as):Kx g g':=⟨k,[],e.trans (Ŵ _).symm⟩
theorem kH{wr:List Addr}(O:g5 g wr):Kx g (g.hold wr h):=.same (fR O) rfl
theorem ć.kx(K:Kx g g'){v:V}{x:Value}(h:ć Z g v x):ć Z g' v x:=by
 induction v using V.casesOn with
 |Ó i=>
  obtain⟨a,h1,h2⟩:=h;obtain⟨l,hl⟩:=K.as;exact⟨a,hl▸af h1,h2⟩
 |_=>exact Rep.mono K.k h
theorem Inv.nF(Po:Inv Z cx ó s st)(G:Gst g ó)(IE:Inv Z HX gE sE Ċ)(e:Gst (g.sub s.heap L) gE)(hn:Nil g L)(hx:Kx ó gE)(hl:g.r g.L=.loc):A3 (Gst g (g.nF gE sE.heap)) (Kx gE (g.nF gE sE.heap)) (Inv Z cx (g.nF gE sE.heap) sE {Ċ with ρ:=st.ρ}):=by
 have al:∀a,g.r a=.loc→∃o,s.heap.get? a=some o:=fun a q=>Po.base.alive a (by rw[G.loc a q];simp)
 have hk:∀{a},g.r a=.loc→eF (gE.r a)=true:=fun q=>let ⟨o,_,q⟩:=Hy e hn al q;q▸rfl
 have kE:Kx gE (g.nF gE sE.heap):=.same (Mb hk) rfl;refine⟨El e hn,kE,IE.base.nF hk,pO hl,?_,fun i ov q=>?_⟩
 ·obtain⟨m,⟨o,es,ep,ho,hd,r⟩,hm⟩:=Po.gJ.locs;rw[G.L]at ho;obtain⟨o',s6,q⟩:=Hy e hn al hl;obtain rfl:=ì (ho.symm.trans s6);obtain⟨sl,q⟩:=IE.base.kept _ _ q;refine⟨m,⟨{o with slots:=sl},es,ep,q,hd,r⟩,fun x i v h1 h2=>?_⟩;obtain⟨y,q1,q2⟩:=hm x i v h1 h2;exact⟨y,q1,q2.kx (hx.trans kE)⟩
 ·obtain⟨c,y,q1,q2,q3,q4⟩:=IE.gJ.vars i ov q;have ec:gE.cs=g.cs:=e.cs;refine⟨c,y,ec▸q1,pN q2 rfl hk rfl,q3,fun v hv=>?_⟩;obtain⟨x,y1,y2⟩:=q4 v hv;exact⟨x,y1,y2.kx kE⟩
theorem œ.sub(R:œ d A g)(I:Inv Z cx g s st)(hL:s.heap.objs.size≤L):œ d A (g.sub s.heap L):=by
 refine⟨R.hd,R.depth,R.units,?_⟩;obtain⟨l,a,b⟩:=R.frames;refine⟨l,a,fun e he=>?_⟩;obtain⟨k,L',h1,h2⟩:=b e he;refine⟨k,L',h1,.inr ?_⟩;rcases h2 with⟨q1,q2⟩|⟨o,es,n,q1,q2⟩
 ·obtain⟨o,es,n,ho,hd⟩:=I.gD;rw[←q2]at ho;exact⟨o,es,n,pX (I.base.qf hL q1 rfl) q1 ho,hd⟩
 ·exact⟨o,es,n,ń (I.base.qf hL q1 rfl) q1 rfl,q2⟩
end
section
variable{g ħ Ü ó g':Gh}{S S' Å Í:St}{H H₁:List Cell}{ρ κ:List (Option V)}{wr:List Addr}{I D:Addr}{elt t:PE}{ifs:List PE}{l acc vs out:List V}{v x x':V}{tg:List Nat}{n:Nat}{ws:List Value}
abbrev kO(prog:Program)(w:World)(A:Around)(t elt iter:Expr)(ifs:List Expr)(scope:PySem.Scope)(pos:Pos)(it acc:Value)(env:Env)(RR:Result→Shared→Prop):Bool→Shared→Prop:=fun ok fu=>
 if ok=true then ∀E,õ prog w A (eval elt env) (fun x ED=>∀E,õ prog w A (call (.builtin "list.append") [acc,x]) (fun À Ml=>codeAny (model prog w) A (.compLoop (.ListComp elt [⟨t,iter,ifs,0⟩] scope pos) 0 it acc env) RR Ml) E ED) E fu
 else codeAny (model prog w) A (.compLoop (.ListComp elt [⟨t,iter,ifs,0⟩] scope pos) 0 it acc env) RR fu
theorem pn{elt t iter:Expr}{ifs:List Expr}{scope:PySem.Scope}{pos:Pos}{it acc:Value}{RR:Result→Shared→Prop}
  (h:∀E,õ prog w A (pyNext it) (fun r ĉ=>match r with
   |none=>RR (.ok .next) ĉ
   |some v=>∀E,õ prog w A (letOwnedTupleGo t it v) (fun À Ğ=>∀E,õ prog w A (assign t env v) (fun À aM=>∀E,õ prog w A (km ifs env true) (kO prog w A t elt iter ifs scope pos it acc env RR) E aM) E Ğ) E ĉ) E s):codeAny (model prog w) A (.compLoop (.ListComp elt [⟨t,iter,ifs,0⟩] scope pos) 0 it acc env) RR s:=by
 refine codeAny_of_tree ?_;show wpAny _ A ((compTurn (.ListComp elt [⟨t,iter,ifs,0⟩] scope pos) 0 it acc env).onRaise (fun x=>do noteFrame x env;theTreesLotGoes x)) _ _ s;refine wpAny_noted ?_;rw[compTurn_list];refine wpAny_bind (wpAny_standAt (wpAny_bind (wpAny_mono (h _) (fun r ĉ bx=>?_) fun À À h'=>h')))
 induction r using ş with
 |none=>exact wpAny_pure bx
 |some v=>
  refine wpAny_bind (wpAny_mono (bx _) (fun À Ğ cR=>wpAny_bind (wpAny_mono (cR _) (fun À aM ņ=>wpAny_bind (wpAny_mono (ņ _) (fun ok fu l8=>?_) fun À À h'=>h')) fun À À h'=>h')) fun À À h'=>h')
  induction ok using ñ with
  |false=>exact wpAny_pure ⟨rfl,l8⟩
  |true=>
   exact wpAny_bind (wpAny_bind (wpAny_mono (l8 _) (fun x ED yO=>wpAny_bind (wpAny_mono (yO _) (fun À Ml S6=>wpAny_pure (wpAny_pure ⟨rfl,S6⟩)) fun À À h'=>h')) fun À À h'=>h'))
noncomputable def tT(vs:List Value)(n:Nat):Obj:={cls:=.type "list",data:=.seq vs.toArray n}
structure zt(prog:Program)(w:World)(Z:Ě)(d:Nat)(cx:Cx)(A:Around)(env:Env)(ħ g:Gh)(s:Shared)(st:St)(t:Expr)(tg:List Nat)(wr:List Addr)(I D:Addr)(l acc:List V)(ws:List Value)(n:Nat):Prop where
 tg:cW cx t=some tg
 ok:Ok Z d cx A env g s st
 G:Gst ħ g
 T:iJ g wr
 N:Nx prog w Z A t wr I l g
 F:∀b∈wr,Nil ħ b
 Dw:D∉wr
 Hc:Nil ħ D
 Dg:g.r D=.held (tT ws n)
 a:ß Z.toSta g.k acc.reverse ws
def He(Z:Ě)(d:Nat)(cx:Cx)(A:Around)(env:Env)(ħ g:Gh)(Ċ:St)(D:Addr)(out:List V)(RR:Result→Shared→Prop):Prop:=
 ∀g' s' ws n,Gst ħ g'→Kx g g'→Ok Z d cx A env g' s' Ċ→g'.r D=.held (tT ws n)→ß Z.toSta g'.k out ws→RR (.ok .next) s'
theorem He.mono{env:Env}{RR:Result→Shared→Prop}(h:He Z d cx A env ħ g S' D out RR)(k:Kx g g'):He Z d cx A env ħ g' S' D out RR:=fun g' s' ws n q1 q2=>h g' s' ws n q1 (k.trans q2)
def mE(prog:Program)(w:World)(Z:Ě)(d:Nat)(elt:PE)(tg:List Nat)(ifs:List PE)(l acc:List V)(st Ċ:St)(out:List V):Prop:=∀cx x t us env A ħ g s I wr D ws n sc iter pos,er cx x=elt→fc cx us=ifs→zt prog w Z d cx A env ħ g s st t tg wr I D l acc ws n→
 ∀RR:Result→Shared→Prop,He Z d cx A env ħ g Ċ D out RR→codeAny (model prog w) A (.compLoop (.ListComp x [⟨t,iter,us,0⟩] sc pos) 0 (.ref I) (.ref D) env) RR s
theorem lO{e:Expr}{i:Nat}(h:wQ cx e=some i):T2 fun x p=>e=.Name x p∧Ę cx x=some (false,i):=by
 refine ï h fun x h1 h2=>?_;obtain⟨p,rfl⟩:=gC h1;refine ï h2 fun q h3 h4=>?_;obtain⟨k,j⟩:=q
 induction k using ñ with
 |true=>exact nS h4
 |false=>exact⟨x,p,rfl,h3.trans (congrArg (fun j=>some (false,j)) (ì h4))⟩
theorem yV{x:Õ}{p:Pos}{q:Bool×Nat}(h:Ę cx x=some q):fg cx (.Name x p)=.n q.1 q.2:=by
 show(match Ę cx x with|some p=>Tg.n p.1 p.2|none=>.no)=_;rw[h]
theorem uw{t:Expr}(h:cW cx t=some tg):fg cx t=pS tg:=by
 unfold cW at h
 induction q:pR t using ş with
 |none=>
  rw[q]at h
  (refine cJ h fun i h1 zq=>?_;obtain rfl:=zq)
  obtain⟨x,p,rfl,h2⟩:=lO h1;exact yV h2
 |some es=>
  rw[q]at h;obtain⟨k,p,rfl⟩:=tupI q;refine ï h fun y h1 h2=>?_;refine ï h2 fun i h3 h4=>?_
  (refine cJ h4 fun j h5 zq=>?_;obtain rfl:=zq)
  obtain⟨a,pa,e1,h6⟩:=lO h3;obtain⟨b,pb,e2,h7⟩:=lO h5;have e:=i2 h1;rw[e1,e2]at e;subst e;show(match Š cx [.Name a pa,.Name b pb]with|some l=>Tg.t l|none=>.no)=_;have:Š cx [.Name a pa,.Name b pb]=some [(false,i),(false,j)]:=by
   show(Ę cx a).bind (fun p=>((Ę cx b).bind fun p=>(some []).map (p:: ·)).map (p:: ·))=_;rw[h6,h7];rfl
  rw[this];rfl
theorem MF:mE prog w Z d elt tg ifs [] acc S S acc.reverse:=by
 intro cx x t us env A ħ g s I wr D ws n sc iter pos hx hy C RR hq;refine pn fun E=>C.N g s _ (.refl _ g) C.ok.base _ E fun h' tk kp=>?_;exact hq _ _ ws n (aK C.G C.T.gu C.F) (kH C.T.gu) (C.ok.hold C.T.gu kp tk) ((Ž C.Dw).trans C.Dg) (C.a.mono (fR C.T.gu))
theorem tH{b:Bool}(h0:Ð v=true)(h1:uj prog w Z d (pS tg) v S Å)(h2:jY prog w Z d true ifs Å Í b){x t iter:Expr}{us:List Expr}{sc:PySem.Scope}{pos:Pos}(hy:fc cx us=ifs)(C:zt prog w Z d cx A env ħ g s S t tg wr I D (v::l) acc ws n){RR:Result→Shared→Prop}
  (hq:∀ó Ğ,Kx g ó→zt prog w Z d cx A env ħ ó Ğ Í t tg wr I D l acc ws n→kO prog w A t x iter us sc pos (.ref I) (.ref D) env RR b Ğ):codeAny (model prog w) A (.compLoop (.ListComp x [⟨t,iter,us,0⟩] sc pos) 0 (.ref I) (.ref D) env) RR s:=by
 have hx:=uw C.tg;refine pn fun E=>wpAny_mono (C.N g s _ (.refl _ g) C.ok.base (h1.tup hx h0) (fun z Ğ=>∀E,õ prog w A (assign t env z) (fun À aM=>∀E,õ prog w A (km us env true) (kO prog w A t x iter us sc pos (.ref I) (.ref D) env RR) E aM) E Ğ) E fun h' tk z kp hh ir N' E=>?_) (fun r ĉ sW=>?_) fun À À e=>e
 ·have G':=aK (h:=h') C.G C.T.gu C.F;refine tO h1 hx (C.ok.hold C.T.gu kp tk) ir fun Ü Ğ Ñ Ï E=>?_;refine h2.l _ _ _ _ _ _ _ _ rfl hy Ï fun ó fu ù è=>?_;have GG:=Ñ.trans ù;exact hq ó fu ((kH C.T.gu).trans GG.kx) ⟨C.tg,è,G'.trans GG,hh.mono GG.yR,N'.mono GG.yR,C.F,C.Dw,C.Hc,GG.held _ _ ((Ž C.Dw).trans C.Dg),(C.a.mono (fR C.T.gu)).mono GG.k⟩
 ·induction r using ş with
  |none=>exact sW.elim
  |some z=>exact sW
theorem MG(h0:(Ð v&&small acc)=true)(h1:uj prog w Z d (pS tg) v S Å)(h2:jY prog w Z d true ifs Å Í false)(h5:mE prog w Z d elt tg ifs l acc Í S' out):mE prog w Z d elt tg ifs (v::l) acc S S' out:=by
 intro cx x t us env A ħ g s I wr D ws n sc iter pos hx hy C RR hq;exact tH (oa h0).1 h1 h2 hy C fun ó Ğ k è=>h5 _ _ _ _ _ _ _ _ _ _ _ _ _ _ _ _ _ hx hy è RR (hq.mono k)
theorem Ct(h2:small acc=true){x t:Expr}(C:zt prog w Z d cx A env ħ g s S t tg wr I D l acc ws n){y:Value}{x:V}(hy:Rep Z.toSta g.k x y){Q:Value→Shared→Prop}{E:Value→Shared→Prop}
  (hq:∀g' s' n' z,Kx g g'→zt prog w Z d cx A env ħ g' s' S t tg wr I D l (x::acc) (ws++[y]) n'→Q z s'):õ prog w A (call (.builtin "list.append") [.ref D,y]) Q E s:=by
 have hO:=C.ok.base.held _ _ C.Dg;have hF:g5 g [D]:=fun b m=>by rw[ė.mp m,C.Dg];rfl
 refine wpAny_list_append_plain (items:=ws.toArray) ⟨n,hO⟩ (fun yO xf NK=>?_) ?_
 ·obtain⟨AQ,xf⟩:=xf;rw[List.push_toArray]at xf;have BM:=fR (g:=g) (h:=yO) hF;have yR:uc wr g (g.hold [D] yO):=⟨BM,fun a m o q=>(Ž fun p:a∈[D]=>C.Dw (ė.mp p▸m)).trans q⟩;refine hq (g.hold [D] yO) _ AQ _ (kH hF) ⟨C.tg,C.ok.hold hF (h':=yO) (fun b o nb e=>(NK.2 b fun q=>nb (ė.mpr q)).trans e) s.toks,aK C.G hF fun b m=>ė.mp m▸C.Hc,C.T.mono yR,C.N.mono yR,C.F,C.Dw,C.Hc,(de (ė.mpr rfl)).trans (congrArg aW xf),?_⟩;rw[aq];exact ß.app (C.a.mono BM) ⟨y,[],rfl,hy.mono BM,rfl⟩
 ·have e:=C.a.len;have h3:=ĥ h2;rw[oH]at e;show ws.toArray.size≤2^24;rw[Ź];omega
theorem ME(h0:(Ð v&&small acc)=true)(h1:uj prog w Z d (pS tg) v S Å)(h2:jY prog w Z d true ifs Å Í true)(h3:Ű prog w Z d elt Í ⟨H,ρ,κ⟩ x)(h4:Ô H x=some (H₁,x'))(h5:mE prog w Z d elt tg ifs l (x'::acc) ⟨H₁,ρ,κ⟩ S' out):mE prog w Z d elt tg ifs (v::l) acc S S' out:=by
 intro cx z t us env A ħ g s I wr D ws n sc iter pos hx hy C RR hq;refine tH (oa h0).1 h1 h2 hy C fun ó Ğ k è=>?_;unfold kO;rw[if_pos rfl];intro E;refine h3 _ _ _ _ _ _ _ _ hx è.ok fun İ Md y ł ĸ bH E=>ĸ.base.bE h4 bH fun BZ eN nu vT=>?_;have G:=ł.trans eN.toGst;have DS:zt prog w Z d cx A env ħ BZ Md ⟨H₁,ρ,κ⟩ t tg wr I D l acc ws n:=⟨C.tg,ĸ.next eN (.refl _) nu,è.G.trans G,è.T.mono G.yR,è.N.mono G.yR,C.F,C.Dw,C.Hc,G.held _ _ è.Dg,è.a.mono G.k⟩;exact Ct (oa h0).2 DS vT (x:=z) fun qz ED AQ À Kl zr=>h5 _ _ _ _ _ _ _ _ _ _ _ _ _ _ _ _ _ hx hy zr RR (hq.mono (k.trans (G.kx.trans Kl)))
end
section
variable{g ħ Ü ó g' gE:Gh}{s s' sE:Shared}{st Ċ:St}{H H' HE:List Cell}
noncomputable def bG(env:Env):List (Õ×NameKind)→List (Õ×Addr)→List (Õ×Addr)
 |[],acc=>acc
 |(n,k)::r,acc=>bG env r (if k=.free then(n,(env.cells.lookup n).getD 0)::acc else acc)
theorem tI{env:Env}:∀(l:List (Õ×NameKind)) (acc:List (Õ×Addr)),(∀p∈l,p.2=.free→∃c,env.cells.lookup p.1=some c)→
  (forIn (m:=Sem) l acc fun x r=>match x with|(name,kind)=>if(kind==.free)=true then do let a ←cellOf env name;pure (ForInStep.yield ((name,a)::r))else pure (ForInStep.yield r))=pure (bG env l acc)
 |[],acc,_=>rfl
 |(n,k)::r,acc,h=>by
  rw[List.forIn_cons];have ih:=fun acc=>tI r acc fun p hp=>h p (ŧ _ hp)
  by_cases hk:k=.free
  ·obtain⟨c,hc⟩:=h (n,k) ŭ hk;have e:cellOf env n=pure c:=by unfold cellOf;rw[hc]
   have hb:(k==NameKind.free)=true:=by rw[hk];rfl
   simp only[hb,if_true,e,pure_bind];rw[ih];have e2:bG env ((n,k)::r) acc=bG env r ((n,c)::acc):=by
    rw[bG,if_pos hk,hc];rfl
   rw[e2]
  ·have hb:(k==NameKind.free)=false:=by simpa using hk
   simp only[hb,Bh,if_false,pure_bind];rw[ih];have e2:bG env ((n,k)::r) acc=bG env r acc:=by
    rw[bG,if_neg hk]
   rw[e2]
theorem GL{env:Env}{x:Õ}{c:Addr}(hc:env.cells.lookup x=some c)(l:List (Õ×NameKind))(acc:List (Õ×Addr))(h:(acc.lookup x=some c∨(x,NameKind.free)∈l∧∀b,acc.lookup x=some b→b=c)):(bG env l acc).lookup x=some c:=by
 induction l generalizing acc with
 |nil=>
  rcases h with h|⟨h,_⟩
  ·exact h
  ·cases h
 |cons fm r IH=>
  obtain⟨n,k⟩:=fm;unfold bG;refine IH _ ?_
  by_cases hk:k=.free
  ·rw[if_pos hk]
   by_cases hn:x=n
   ·subst hn;refine .inl ?_;rw[oN,hc];simp
   ·have hb:(x==n)=false:=by simpa using hn
    have e:List.lookup x ((n,(env.cells.lookup n).getD 0)::acc)=acc.lookup x:=by rw[oN,hb]
    rw[e];refine h.imp id fun ⟨h1,h2⟩=>⟨?_,h2⟩
    rcases Ą.mp h1 with q|q
    ·cases q;exact absurd rfl hn
    ·exact q
  ·rw[if_neg hk];refine h.imp id fun ⟨h1,h2⟩=>⟨?_,h2⟩
   rcases Ą.mp h1 with q|q
   ·cases q;exact absurd rfl hk
   ·exact q
structure Pb(cx:Cx)(sc:PySem.Scope):Prop where
 kind:sc.kind=.function
 cell:∀p∈sc.names,p.2≠.cell
 loc:∀p∈sc.names,p.2=.local→sc.names.lookup p.1=some .local
 free:∀p∈sc.names,p.2=.free→cx.sn.lookup p.1=some .cell∧(Ę cx p.1).isSome=true
theorem eh{sc:PySem.Scope}(h:uI cx sc=true):Pb cx sc:=by
 (have h1:=aC h;have h2:=aB h)
 have h2:=gG.mp h2;refine⟨eq_of_beq h1,fun p hp hk=>?_,fun p hp hk=>?_,fun p hp hk=>?_⟩
 ·have:=(oa (oa (h2 p hp)).1).1;rw[hk]at this;exact â this
 ·have:=(oa (oa (h2 p hp)).1).2;rw[hk]at this;exact eq_of_beq this
 ·have:=(oa (h2 p hp)).2;rw[hk]at this
  (have a:=aC this;have b:=aB this)
  exact⟨eq_of_beq a,b⟩
theorem mem_of_lookup{α}{x:Õ}{k:α}:∀{l:List (Õ×α)},l.lookup x=some k→(x,k)∈l
 |(y,k')::r,h=>by
  rw[oN]at h
  induction e:x==y using ñ with
  |true=>rw[e]at h;(replace h:=ì h;subst h);rw[show x=y by simpa using e];exact ŭ
  |false=>rw[e]at h;exact ŧ _ (mem_of_lookup h)
theorem fA{env:Env}{x:Õ}(hk:env.scope.kind=.function):∀(l:List (Õ×NameKind)),(∀p∈l,p.2=.free→env.kindOf p.1=some .cell)→
  (l.map fun (n,k)=>if(k==NameKind.free&&env.scope.kind==.function&&env.kindOf n==some .cell)then(n,NameKind.cell)else(n,k)).lookup x=(l.lookup x).map fun k=>if k=.free then .cell else k
 |[],_=>rfl
 |(n,k)::r,h=>by
  have ih:=fA (x:=x) hk r fun p hp=>h p (ŧ _ hp)
  rw[Ō]
  by_cases hf:k=.free
  ·have hc:=h (n,k) ŭ hf;have e:(k==NameKind.free&&env.scope.kind==.function&&env.kindOf n==some .cell)=true:=by rw[hf,hk,hc];rfl
   simp only[e,if_true,oN]
   induction q:x==n using ñ with
   |true=>simp[hf]
   |false=>exact ih
  ·have e:(k==NameKind.free&&env.scope.kind==.function&&env.kindOf n==some .cell)=false:=by
    have:(k==NameKind.free)=false:=by simpa using hf
    rw[this];rfl
   simp only[e,Bh,if_false,oN]
   induction q:x==n using ñ with
   |true=>simp[hf]
   |false=>exact ih
theorem tG{sc:PySem.Scope}{env:Env}(ho:Pb cx sc)(he:aY Z cx g env):∃cl,closureFor sc env=pure cl∧∀(L:Addr) (as:List Addr) (r:Addr→Role),
  aY Z (mS cx sc) ⟨r,as,L,g.cs⟩ {newEnv sc L env.globals cl env.qual none .none (some env) env.builtins with scope:=relabel sc env}:=by
 have kc:∀p∈sc.names,p.2=.free→env.kindOf p.1=some .cell:=fun p hp hk=>by rw[he.kinds,(ho.free p hp hk).1];rfl
 have cc:∀p∈sc.names,p.2=.free→T2 fun i c=>A3 (Ę cx p.1=some (true,i)) (env.cells.lookup p.1=some c) (é g.cs i=some c):=fun p hp hk=>by
  obtain⟨h1,h2⟩:=ho.free p hp hk;obtain⟨⟨b,i⟩,hv⟩:=Hv.mp h2
  induction b using ñ with
  |true=>obtain⟨c,q1,q2⟩:=he.Ó _ _ hv;exact⟨i,c,hv,q1,q2⟩
  |false=>obtain⟨_,z,_⟩:=dY hv;rw[z]at h1;(injection h1 with h1;exact absurd h1 (by decide))
 have D5:=tI (env:=env) sc.names [] fun p hp hk=>let ⟨i,c,_,q,_⟩:=cc p hp hk;⟨c,q⟩
 have Tq:closureFor sc env=pure (bG env sc.names []):=by
  unfold closureFor;exact(bind_congr (fun À=>rfl)).trans ((congrArg (· >>=pure) D5).trans (pure_bind _ _))
 refine⟨bG env sc.names [],Tq,fun L as r=>⟨?_,rfl,he.xn,he.H5,fun x=>?_,fun x i hv=>?_,he.Ŷ,he.zC,fun q=>(ho.cell _ (mem_of_lookup q) rfl).elim⟩⟩
 ·exact ho.kind
 ·exact fA he.kind sc.names kc
 ·obtain⟨h1,h2,h3⟩:=bj hv;have hf:sc.names.lookup x=some .free:=h2.resolve_left fun q=>ho.cell _ (mem_of_lookup q) rfl
  have hm:=mem_of_lookup hf;obtain⟨i',c,q1,q2,q3⟩:=cc _ hm rfl;have e:i'=i:=by
   obtain⟨_,_,q4⟩:=bj q1;have:idx x cx.Ó 0=some i:=h3;exact ì (q4.symm.trans this)
  subst e;exact⟨c,GL q2 sc.names [] (.inr ⟨hm,by simp⟩),q3⟩
theorem Fe{i n:Nat}{v:V}(h:é (Ħ n (none:Option V)) i=some (some v)):False:=by
 cases(List.mem_replicate.mp (aG h)).2
theorem EF{sc:PySem.Scope}{h:Heap}{L:Addr}{m:Õ→Option Value}(hi:Inv Z cx g s st)(hL:s.heap.objs.size≤L)(kp:∀b o,s.heap.get? b=some o→h.get? b=some o)(hm:h.Ns L m)(n t:Nat):
  Inv Z (mS cx sc) (g.sub s.heap L) {s with heap:=h,toks:=t} {st with ρ:=Ħ n none}:=by
 have hx:Kx g (g.sub s.heap L):=.same (pY (wr:=[]) hi.base hL).k rfl;obtain⟨o,es,ep,ho,r⟩:=hm;refine⟨hi.base.QB hL kp ⟨o,ho⟩ t,nJ,⟨m,⟨o,es,ep,ho,r⟩,fun x i v À q=>(Fe q).elim⟩,fun i ov q=>?_⟩;obtain⟨c,y,q1,q2,⟨oc,hc,hd⟩,q4⟩:=hi.gJ.vars i ov q;refine⟨c,y,q1,ń (hi.base.qf hL q2 rfl) q2 rfl,⟨oc,kp _ _ hc,hd⟩,fun v hv=>?_⟩;obtain⟨x,y1,y2⟩:=q4 v hv;exact⟨x,y1,y2.kx hx⟩
theorem kJ{r:Role}{o:Obj}(h:r=.held o):((∀o,r≠.Ô o)∧r≠.tab)∧∀i,r≠.cell i∧r≠.cV i:=by
 rw[h];simp
abbrev Gh.Ó(g:Gh)(D:Addr)(n:Nat):Gh:=(g.set D (.cell n)).snoc D
theorem qy{D:Addr}{o:Obj}(hD:g.r D=.held o){a:Addr}{x:Role}(e:g.r a=x)(n:x≠.held o):a≠D:=fun p=>n (e.symm.trans (p▸hD))
theorem vI{D:Addr}{o:Obj}{n:Nat}(hD:g.r D=.held o):Kx g (g.Ó D n):=⟨fun a o e=>by
  have e:=Gh.aN e;exact Gh.Ř ((g.ø _ (qy hD e (by simp))).trans e),[D],rfl⟩
theorem Base.md(B:Base Z g s H){D:Addr}{vs:List Value}{n:Nat}{l:List V}(hD:g.r D=.held (tT vs n))(hr:ß Z.toSta g.k l vs):Base Z (g.Ó D H.length) s (H++[.lst l]):=by
 have hO:=B.held _ _ hD;have q:(g.Ó D H.length).r D=.cell H.length:=g.þ _ _;refine B.gen (g':=g.Ó D H.length) (h':=s.heap) (t:=s.toks) (H':=H++[.lst l]) (· =D) (fun b e=>(kJ (e▸hD)).1) (fun À À À e=>e) (fun b nd=>g.ø _ nd) (fun a ha=>?_) ?_ (fun À À e=>af e) fun i c' e=>?_
 ·rw[show a=D from ha];exact hR (.inl q) hO
 ·show(g.as++[D]).length=_;rw[ċ,ċ,B.len];rfl
 ·rcases fF e with e|⟨rfl,rfl⟩
  ·exact .inl ⟨e,fun b e=>(kJ (e▸hD)).2 i⟩
  ·exact .inr ⟨D,B.len▸eA _ _,q,_,vs,hO,⟨n,rfl⟩,hr.mono (vI hD).k⟩
theorem Inv.H3(hi:Inv Z cx g s st){D:Addr}{o:Obj}{c:Cell}(hD:g.r D=.held o)(B:Base Z (g.Ó D st.H.length) s (st.H++[c]))(G:Gst ħ g)(hn:Nil ħ D):
  A3 (Gst ħ (g.Ó D st.H.length)) (Inv Z cx (g.Ó D st.H.length) s {st with H:=st.H++[c]}) (ć Z (g.Ó D st.H.length) (.Ó st.H.length) (.ref D)):=by
 have hx:=vI (n:=st.H.length) hD;refine⟨⟨fun a o e=>hx.k a o (G.k a o e),fun a o e=>?_,fun a o e=>?_,?_,G.L,G.cs,fun a e=>?_⟩,⟨B,?_,?_,fun i ov q=>?_⟩,D,hi.base.len▸eA _ _,rfl⟩
 ·exact(g.ø _ fun p:a=D=>hn.kept o (p▸e)).trans (G.kept a o e)
 ·exact(g.ø _ fun p:a=D=>hn.held o (p▸e)).trans (G.held a o e)
 ·obtain⟨l',HF⟩:=G.as;exact⟨l'++[D],(congrArg (· ++[D]) HF).trans (ĝ ..)⟩
 ·exact(g.ø _ fun p:a=D=>hn.loc (p▸e)).trans (G.loc a e)
 ·exact(g.ø _ (qy hD hi.gJ.loc (by simp))).trans hi.gJ.loc
 ·obtain⟨m,h1,h2⟩:=hi.gJ.locs;exact⟨m,h1,fun x i v q1 q2=>let ⟨y,q3,q4⟩:=h2 x i v q1 q2;⟨y,q3,q4.kx hx⟩⟩
 ·obtain⟨c,y,q1,q2,q3,q4⟩:=hi.gJ.vars i ov q;exact⟨c,y,q1,(g.ø _ (qy hD q2 (by simp))).trans q2,q3,fun v hv=>let ⟨x,y1,y2⟩:=q4 v hv;⟨x,y1,y2.kx hx⟩⟩
theorem Inv.md(hi:Inv Z cx g s st){D:Addr}{vs:List Value}{n:Nat}{l:List V}(hD:g.r D=.held (tT vs n))(hr:ß Z.toSta g.k l vs)(G:Gst ħ g)(hn:Nil ħ D):
  A3 (Gst ħ (g.Ó D st.H.length)) (Inv Z cx (g.Ó D st.H.length) s {st with H:=st.H++[.lst l]}) (ć Z (g.Ó D st.H.length) (.Ó st.H.length) (.ref D)):=hi.H3 hD (hi.base.md hD hr) G hn
end
section
variable{g ħ Ü ó İ g' gE:Gh}{s s' sE Ļ:Shared}{S Å st:St}{H H₁ Ö:List Cell}{ρ κ Ŕ Ĺ:List (Option V)}{d n:Nat}{wr:List Addr}{I D:Addr}{elt it e:PE}{ifs:List PE}{l vs:List V}{v v':V}{tg:List Nat}{tt:Tg}{Q:Value→Shared→Prop}{E:Value→Shared→Prop}
structure Qd(cx:Cx)(X:Expr)(elt:PE)(tg:List Nat)(it:PE)(ifs:List PE)(n:Nat)(y t z:Expr)(us:List Expr)(sc:PySem.Scope)(p:Pos):Prop where
 e:X=.ListComp y [⟨t,z,us,0⟩] sc p
 ho:uI cx sc=true
 hs:isSet z=false
 HG:jl t (xq cx z)=true
 ZG:cW (mS cx sc) t=some tg
 e1:er (mS cx sc) y=elt
 e2:xq cx z=it
 e3:fc (mS cx sc) us=ifs
 hn:n=(aI sc.names).length
theorem Cw{X:Expr}(hx:er cx X=.co elt tg it ifs n):T6 fun y t z us sc p=>Qd cx X elt tg it ifs n y t z us sc p:=by
 obtain⟨y,t,z,us,sc,p,a,b,c,d,e,f,g,h,i⟩:=iv hx;exact⟨y,t,z,us,sc,p,a,b,c,d,e,f,g,h,i⟩
noncomputable abbrev H0(sc:PySem.Scope)(env:Env)(cl:List (Õ×Addr))(L:Addr):Env:={newEnv sc L env.globals cl env.qual none .none (some env) env.builtins with scope:=relabel sc env}
structure Py(Z:Ě)(cx:Cx)(g:Gh)(sc:PySem.Scope)(env:Env)(cl:List (Õ×Addr)):Prop where
 c:closureFor sc env=pure cl
 e:∀(L:Addr) (as:List Addr) (r:Addr→Role),aY Z (mS cx sc) ⟨r,as,L,g.cs⟩ (H0 sc env cl L)
def VC(Z:Ě)(d:Nat)(cx:Cx)(A:Around)(env:Env)(g:Gh)(Ċ:St)(m:Nat)(RR:Value→Addr→Result→Shared→Prop):Prop:=
 ∀g' s' D C,Gst g g'→Ok Z d cx A env g' s' Ċ→ć Z g' (.Ó m) (.ref D)→iJ g' [C]→(∃m,s'.heap.Ns C m)→Nil g C→RR (.ref D) C (.ok .next) s'
theorem comp_back{HX:Cx}{T_:Env}{L:Addr}{ws:List Value}{AQ:Nat}{RR:Value→Addr→Result→Shared→Prop}(C:Ok Z (d+1) cx A env g s st)(Ñ:Gst g Ü)(t_:Ü.r Ü.L=.loc)(ù:Gst Ü İ)(ĸ:Inv Z cx İ Ļ ⟨H₁,ρ,κ⟩)(hL:Ļ.heap.objs.size≤L)(nL:Nil Ü L)(nD:Nil Ü D)(N_:D≠L)
  (GE:Gst (Ü.sub Ļ.heap L) gE)(KE:Kx (İ.sub Ļ.heap L) gE)(IE:Ok Z d HX A T_ gE sE ⟨Ö,Ŕ,Ĺ⟩)(rE:gE.r D=.held (tT ws AQ))(aE:ß Z.toSta gE.k vs ws)(hq:VC Z (d+1) cx A env g ⟨Ö++[.lst vs],ρ,Ĺ⟩ Ö.length RR):RR (.ref D) L (.ok .next) sE:=by
 obtain⟨g7,LC,LF⟩:=ĸ.nF ù IE.i GE nL ((Kx.same (pY (wr:=[]) ĸ.base hL).k rfl).trans KE) t_;have MU:(Ü.nF gE sE.heap).r D=.held (tT ws AQ):=pN rE rfl (fun q=>(nD.loc q).elim) rfl;obtain⟨Pu,Vt,Vi⟩:=LF.md MU (aE.mono LC.k) g7 nD;obtain⟨m,hm,_⟩:=IE.i.gJ.locs;rw[GE.L]at hm;obtain⟨oL,esL,epL,PW,rL⟩:=hm;have MT:(Ü.nF gE sE.heap).r L=.held oL:=Ek (GE.loc _ nJ) (fun q=>(nL.loc q).elim) PW;exact hq _ _ _ _ (Ñ.trans Pu) (C.to (Ñ.trans Pu) Vt) Vi (fun b mb=>⟨oL,ė.mp mb▸(Gh.ø _ _ (Ne.symm N_)).trans MT⟩) ⟨m,oL,esL,epL,PW,rL⟩ (nL.back Ñ)
theorem GF{y t z:Expr}{us:List Expr}{sc:PySem.Scope}{pos:Pos}{cl:List (Õ×Addr)}{RR:Value→Addr→Result→Shared→Prop}(h4:mE prog w Z d elt tg ifs l [] ⟨H₁,Ħ n none,κ⟩ ⟨Ö,Ŕ,Ĺ⟩ vs){X:Expr}(hX:Qd cx X elt tg it ifs n y t z us sc pos)(Uj:Py Z cx g sc env cl)
  (C:Ok Z (d+1) cx A env g s st)(Ñ:Gst g Ü)(t_:Ü.r Ü.L=.loc)(ù:Gst Ü ó)(è:Ok Z (d+1) cx A env ó Ļ ⟨H₁,ρ,κ⟩)(S:Src prog w Z t l I wr ó)(F:∀b∈wr,Nil Ü b)(hq:VC Z (d+1) cx A env g ⟨Ö++[.lst vs],ρ,Ĺ⟩ Ö.length RR):
  õ prog w A (newList []) (fun acc aM=>õ prog w A (newFunctionEnv sc env.globals cl [] env.qual none .none (some env)) (fun tJ fu=>
    codeAny (model prog w) A (.compStart (.ListComp y [⟨t,z,us,0⟩] sc pos) 0 (.ref I) acc {tJ with scope:=relabel sc env}) (RR acc tJ.locals) fu) E aM) E Ļ:=by
 have ho:=eh hX.ho;refine wpAny_newObj_type ?_;generalize hD:Ļ.heap.objs.size=D;have TA:ó.r D=.free:=è.base.fresh _ (hD▸Ų _);have O:g5 ó [D]:=fun b m=>by rw[ė.mp m,TA];rfl
 have FD:∀b∈[D],Nil ó b:=fun b m=>ė.mp m▸.free TA
 generalize BP:Ļ.heap.push {cls:=.type "list",dict:=none,data:=.seq ([]:List Value).toArray}=ņ;have N9:ņ.get? D=some (tT [] 0):=by rw[←BP,←hD];exact fM _ rfl
 have Nl:∀b o,Ļ.heap.get? b=some o→ņ.get? b=some o:=fun b o e=>by rw[←BP];exact ō _ e
 have BI:ņ.objs.size=D+1:=by rw[←BP,Heap.size_push,hD]
 have ĸ:=è.hold O (h':=ņ) (fun b o À e=>Nl b o e) Ļ.toks;have ł:=aK (h:=ņ) (Gst.refl ó) O FD;have Hk:(ó.hold [D] ņ).r D=.held (tT [] 0):=(de (ė.mpr rfl)).trans (congrArg aW N9);generalize Wj:ó.hold [D] ņ=İ at ĸ ł Hk;refine wpAny_newFunctionEnv ho.cell (fun y hy=>absurd hy jL) (fun l8 xh xe=>?_) ho.kind;dsimp only at xh xe ⊢;have Nk:∀b o,ņ.get? b=some o→l8.get? b=some o:=fun b o e=>(xe.2 b (eV (eX e))).trans (ō _ e)
 have hL:ņ.objs.size≤ņ.objs.size:=Ų _;have Pn:=EF (sc:=sc) ĸ.i (h:=l8) (L:=ņ.objs.size) hL Nk xh (aI sc.names).length (Ļ.toks+0);have JA:=ĸ.r.down.sub ĸ.i (L:=ņ.objs.size) hL;have nL:Nil Ü ņ.objs.size:=((Nil.free (ĸ.base.fresh _ hL)).back ł).back ù;have ecs:İ.cs=g.cs:=(Ñ.trans (ù.trans ł)).cs;have N0:=ecs▸Uj.e ņ.objs.size İ.as (İ.sub ņ ņ.objs.size).r;have gs:Gst (Ü.sub ņ ņ.objs.size) (İ.sub ņ ņ.objs.size):=EG (ù.trans ł) nL;have eN:=S.mono (ł.yR.trans (pY (h:=ņ) ĸ.base hL));have L7:∀b∈wr,b<D:=fun b m=>by
  obtain⟨o,q⟩:=S.held b m;exact hD▸eX (è.base.held b o q)
 have N_:D≠ņ.objs.size:=BI▸eV (Nat.lt_succ_self _);have nD:=(Nil.free TA).back ù;have loop:codeAny (model prog w) A (.compLoop (.ListComp y [⟨t,z,us,0⟩] sc pos) 0 (.ref I) (.ref D) (H0 sc env cl ņ.objs.size)) (RR (.ref D) ņ.objs.size) {Ļ with heap:=l8,toks:=Ļ.toks+0}:=by
  refine h4 _ _ _ _ _ _ (Ü.sub ņ ņ.objs.size) (İ.sub ņ ņ.objs.size) _ _ _ _ [] 0 _ _ _ hX.e1 hX.e3 ⟨hX.ZG,⟨JA,N0,hX.hn▸Pn,C.f⟩,gs,eN.held,eN.nx A C.r.hd,fun b m=>we (BI▸eV (Nat.lt_succ_of_lt (L7 b m))) (F b m),fun m=>sL _ (L7 _ m),we N_ nD,ń N_ Hk rfl,rfl⟩ _ ?_;intro gE sE ws n' GE KE CE rE aE;exact comp_back C Ñ t_ (ù.trans ł) ĸ.i hL nL nD N_ GE KE CE rE aE hq
 exact codeAny_compStart_list loop (eN.self A _ _ _ _ _ (.refl _ _) Pn.base loop)
theorem tF{y t z:Expr}{us:List Expr}{sc:PySem.Scope}{pos:Pos}{cl:List (Õ×Addr)}{RR:Value→Addr→Result→Shared→Prop}(h1:ni prog w Z (d+1) it S ⟨H,ρ,κ⟩ v)(h2:Ô H v=some (H₁,v'))(h3:items v'=some l)(h4:mE prog w Z d elt tg ifs l [] ⟨H₁,Ħ n none,κ⟩ ⟨Ö,Ŕ,Ĺ⟩ vs)
  {X:Expr}(hX:Qd cx X elt tg it ifs n y t z us sc pos)(Uj:Py Z cx g sc env cl)(C:Ok Z (d+1) cx A env g s S)(hq:VC Z (d+1) cx A env g ⟨Ö++[.lst vs],ρ,Ĺ⟩ Ö.length RR):
  õ prog w A (eval z env) (fun x ĉ=>õ prog w A (pyIter x) (fun it Ğ=>õ prog w A (newList []) (fun acc aM=>õ prog w A (newFunctionEnv sc env.globals cl [] env.qual none .none (some env)) (fun tJ fu=>
    codeAny (model prog w) A (.compStart (.ListComp y [⟨t,z,us,0⟩] sc pos) 0 it acc {tJ with scope:=relabel sc env}) (RR acc tJ.locals) fu) E aM) E Ğ) E ĉ) E s:=by
 refine wpAny_mono (h1 _ _ _ h2 h3 _ _ _ _ _ _ _ (fun it Ğ=>õ prog w A (newList []) (fun acc aM=>õ prog w A (newFunctionEnv sc env.globals cl [] env.qual none .none (some env)) (fun tJ fu=>
    codeAny (model prog w) A (.compStart (.ListComp y [⟨t,z,us,0⟩] sc pos) 0 it acc {tJ with scope:=relabel sc env}) (RR acc tJ.locals) fu) E aM) E Ğ) E hX.e2 (hX.e2▸hX.HG) C ?_) (fun x ĉ h'=>h' E) fun À À e=>e
 intro Ü ó Ļ I wr Ñ t_ ù è S F;exact GF h4 hX Uj C Ñ t_ ù è S F hq
theorem rx{iter:Expr}(h:isSet iter=false)(x:Value):foldedSetIterable iter env x=pure x:=by
 induction iter using PySem.Expr.casesOn<;>first|rfl|exact ĕ h
theorem Ok.Hs(C:Ok Z d cx A env g s st){c:Addr}{h':Heap}(hC:iJ g [c])(hs:Heap.SameBut c s.heap h')(G:Gst ħ g)(n:Nil ħ c){G':Prop}(hq:∀g',Gst ħ g'→Kx g g'→Ok Z d cx A env g' {s with heap:=h'} st→G'):G':=
 hq (g.hold [c] h') (aK G hC.gu (fun b m=>ė.mp m▸n)) (kH hC.gu) (C.hold hC.gu (fun b o nb e=>(hs.2 b fun q=>nb (ė.mpr q)).trans e) s.toks)
structure Vk(prog:Program)(w:World)(Z:Ě)(d:Nat)(e:PE)(S S':St)(v:V):Prop where
 s:Ű prog w Z d e S S' v
 c:∀elt tg it ifs n,e=.co elt tg it ifs n→∃d' H ρ κ iK v' H₁ l Ö Ŕ Ĺ vs,A6 (d=d'+1) (ni prog w Z (d'+1) it S ⟨H,ρ,κ⟩ iK) (Ô H iK=some (H₁,v')) (items v'=some l) (mE prog w Z d' elt tg ifs l [] ⟨H₁,Ħ n none,κ⟩ ⟨Ö,Ŕ,Ĺ⟩ vs) (S'=⟨Ö++[.lst vs],ρ,Ĺ⟩∧v=.Ó Ö.length)
theorem Q5(h1:ni prog w Z (d+1) it S ⟨H,ρ,κ⟩ v)(h2:Ô H v=some (H₁,v'))(h3:items v'=some l)(h4:mE prog w Z d elt tg ifs l [] ⟨H₁,Ħ n none,κ⟩ ⟨Ö,Ŕ,Ĺ⟩ vs):Vk prog w Z (d+1) (.co elt tg it ifs n) S ⟨Ö++[.lst vs],ρ,Ĺ⟩ (.Ó Ö.length):=by
 refine⟨fun cx x env A g s Q E hx C hq=>?_,fun À À À À À e=>by cases e;exact⟨d,H,ρ,κ,v,v',H₁,l,Ö,Ŕ,Ĺ,vs,rfl,h1,h2,h3,h4,rfl,rfl⟩⟩;obtain⟨y,t,z,us,sc,p,hX⟩:=Cw hx;obtain⟨cl,BU,D5⟩:=tG (eh hX.ho) C.e;rw[hX.e,eval_ListComp];refine wpAny_comprehension_free (use:=none) rfl (rx hX.hs) BU (eh hX.ho).kind (eh hX.ho).loc ?_;refine tF h1 h2 h3 h4 hX ⟨BU,D5⟩ C fun g' s' D c G C' V hh hm hn=>?_;obtain⟨m,hm⟩:=hm;exact⟨m,hm,fun h' hs=>C'.Hs hh hs G hn fun ó ù DM è=>hq _ _ _ ù è (V.kx DM)⟩
theorem uy{elt:Expr}{gens:List Comprehension}{sc:PySem.Scope}{pos:Pos}{t:Expr}{n:Nat}:∃b,swapsWith (.ListComp elt gens sc pos) (some t) n env=pure b∧(b=true→T2 fun x p=>t=.Name x p):=by
 induction t using PySem.Expr.casesOn with
 |Name x p=>exact⟨_,rfl,fun À=>⟨x,p,rfl⟩⟩
 |_=>exact⟨false,rfl,fun h=>â h⟩
theorem vG{y t z:Expr}{us:List Expr}{sc:PySem.Scope}{pos p px:Pos}{x:Õ}{X:Expr}{Í:St}{Q:Flow→Shared→Prop}(LU:swapsWith (.ListComp y [⟨t,z,us,0⟩] sc pos) (some (.Name x px)) p.line env=pure true)(h1:ni prog w Z (d+1) it S ⟨H,ρ,κ⟩ v)(h2:Ô H v=some (H₁,v'))(h3:items v'=some l)(h4:mE prog w Z d elt tg ifs l [] ⟨H₁,Ħ n none,κ⟩ ⟨Ö,Ŕ,Ĺ⟩ vs)
  (hX:Qd cx X elt tg it ifs n y t z us sc pos)(h5:uj prog w Z (d+1) tt (.Ó Ö.length) ⟨Ö++[.lst vs],ρ,Ĺ⟩ Í)(ht:fg cx (.Name x px)=tt)(C:Ok Z (d+1) cx A env g s S)(hq:vX Z (d+1) cx A env g Í .next Q E):õ prog w A (exec (.Assign [.Name x px] (.ListComp y [⟨t,z,us,0⟩] sc pos) p) env) Q E s:=by
 obtain⟨cl,BU,D5⟩:=tG (eh hX.ho) C.e;rw[exec_Assign_Name_used _ _ _ _ LU];refine wpAny_bind (wpAny_standAt (wpAny_bind ?_));show wpAny _ A (do let _ ←comprehension (.ListComp y [⟨t,z,us,0⟩] sc pos) sc env _ (newList []) false (eval z env) (some (assign (.Name x px) env))) _ _ s;refine wpAny_bind (wpAny_mono (wpAny_comprehension_free (use:=some (assign (.Name x px) env)) (Q:=fun À s'=>Q .next s') rfl (rx hX.hs) BU (eh hX.ho).kind (eh hX.ho).loc ?_) (fun À s' hq=>wpAny_pure (wpAny_pure hq)) fun À À e=>e);refine tF h1 h2 h3 h4 hX ⟨BU,D5⟩ C fun g' s' D c G C' V hh hm hn=>?_;refine h5.s _ _ _ _ _ _ _ _ _ ht C' V fun ó Ļ ù è=>?_;obtain⟨m,o,es,ep,s6,r⟩:=hm;obtain⟨oC,qC⟩:=hh c (.head _);have RJ:=ì (s6.symm.trans (C'.base.held _ _ qC));have RI:=è.base.held _ _ (ù.held _ _ qC);exact⟨m,⟨o,es,ep,RJ▸RI,r⟩,fun h' hs=>è.Hs (hh.mono ù.yR) hs (G.trans ù) hn fun İ ł ua ĸ=>hq.q _ _ _ ł ĸ rfl⟩
theorem CO(h1:Ű prog w Z d e S Å v)(h2:uj prog w Z d tt v Å st){y z:Expr}{p:Pos}{Q:Flow→Shared→Prop}(LU:swapsWith z (some y) p.line env=pure false)(cK:isStar y=false)(LR:isTup y=false∨isTup z=false)(e1:fg cx y=tt)(e2:er cx z=e)(C:Ok Z d cx A env g s S)(hq:vX Z d cx A env g st .next Q E):
  õ prog w A (exec (.Assign [y] z p) env) Q E s:=
 eQ LU (d_ LR) cK (h1 _ _ _ _ _ _ _ _ e2 C fun Ü ò ŵ Ñ Ï ô=>h2.s _ _ _ _ _ _ _ _ _ e1 Ï ô fun ó Ļ ù è=>hq.q _ _ _ (Ñ.trans ù) è rfl)
theorem yL{z:Expr}(h:jf z=true):(T4 fun y gs sc p=>z=.ListComp y gs sc p)∨er cx z=.no:=by
 induction z using PySem.Expr.casesOn with
 |ListComp y gs sc p=>exact .inl ⟨y,gs,sc,p,rfl⟩
 |SetComp=>exact .inr rfl
 |DictComp=>exact .inr rfl
 |_=>exact â h
theorem T9{y:Expr}{gs:List Comprehension}{sc:PySem.Scope}{p:Pos}:er cx (.ListComp y gs sc p)=.no∨T5 fun elt tg it ifs n=>er cx (.ListComp y gs sc p)=.co elt tg it ifs n:=by
 show cq (uI cx sc) (P9 _ _ (LX cx (mS cx sc) gs))=_∨T5 fun elt tg it ifs n=>cq (uI cx sc) (P9 _ _ (LX cx (mS cx sc) gs))=_
 induction uI cx sc using ñ with
 |false=>exact .inl rfl
 |true=>
  induction LX cx (mS cx sc) gs using ş with
  |none=>exact .inl rfl
  |some q=>exact .inr ⟨_,_,_,_,_,rfl⟩
theorem Jl(hn:e≠.no)(h1:Vk prog w Z d e S Å v)(h2:uj prog w Z d tt v Å st):vQ prog w Z d (.as tt e) S st .next:=by
 intro cx x env A g s Q E hx C hq;obtain⟨y,z,p,rfl,cK,LR,e1,e2⟩:=sv hx
 induction hc:jf z using ñ with
 |false=>exact CO h1.s h2 (aZ hc) cK LR e1 e2 C hq
 |true=>
  rcases yL (cx:=cx) hc with⟨y',gs,sc,p',rfl⟩|h
  ·obtain⟨b,LU,eY⟩:=uy (elt:=y') (gens:=gs) (sc:=sc) (pos:=p') (t:=y) (n:=p.line) (env:=env)
   induction b using ñ with
   |false=>exact CO h1.s h2 LU cK LR e1 e2 C hq
   |true=>
    obtain⟨x,px,rfl⟩:=eY rfl;rcases T9 (cx:=cx) (y:=y') (gs:=gs) (sc:=sc) (p:=p')with h|⟨elt,tg,it,ifs,n,h⟩
    ·exact absurd (e2.symm.trans h) hn
    ·obtain⟨d',H,ρ,κ,iK,v',H₁,l,Ö,Ŕ,Ĺ,vs,rfl,a1,a2,a3,a4,rfl,rfl⟩:=h1.c _ _ _ _ _ (e2.symm.trans h);obtain⟨L4,t,z,us,VP,E3,hX⟩:=Cw h;cases hX.e;exact vG LU a1 a2 a3 a4 hX h2 e1 C hq
  ·exact absurd (e2.symm.trans h) hn
end
section
variable{S Å Í st:St}{es:List PE}{vs:List V}{q:List (Bool×Nat)}
theorem AF{α}{x y:α}:∀{l:List α} {i j:Nat},i≠j→put (put l i x) j y=put (put l j y) i x:=fun {l}=>by
 induction l with
 |nil=>exact fun {i j} _=>by induction i using mM<;>induction j using mM<;>rfl
 |cons a r ih=>
  intro i j h
  induction i using mM with
  |zero=>induction j using mM with
   |zero=>exact absurd rfl h
   |succ j=>rfl
  |succ i=>induction j using mM with
   |zero=>rfl
   |succ j=>exact congrArg (a:: ·) (ih fun e=>h (congrArg (· +1) e))
theorem lG{α}{x:α}:∀{l:List α} {i j:Nat},i≠j→é (put l i x) j=é l j:=fun {l}=>by
 induction l with
 |nil=>exact fun {i j} _=>by induction i using mM<;>rfl
 |cons a r ih=>
  intro i j h
  induction i using mM with
  |zero=>induction j using mM with
   |zero=>exact absurd rfl h
   |succ j=>rfl
  |succ i=>induction j using mM with
   |zero=>rfl
   |succ j=>exact ih fun e=>h (congrArg (· +1) e)
theorem wF{l:List (Option V)}{i j:Nat}{v u:V}{a b:Option V}{f:List (Option V)→St}(h1:é l i=some a)(h2:é (put l i (some v)) j=some b)(n:i≠j):
  ((é l j).map fun À=>f (put l j (some u)))=some (f (put l j (some u)))∧((é (put l j (some u)) i).map fun À=>f (put (put l j (some u)) i (some v)))=some (f (put (put l i (some v)) j (some u))):=by
 rw[lG n]at h2;rw[h2,lG (Ne.symm n),h1,AF n];exact⟨rfl,rfl⟩
theorem rA{k₁ k₂:Bool}{Bn qp:Nat}{iK mT:V}(h1:Ş S k₁ Bn iK=some Å)(h2:Ş Å k₂ qp mT=some Í)(n:k₁=k₂→Bn≠qp):∃t,Ş S k₂ qp mT=some t∧Ş t k₁ Bn iK=some Í:=by
 induction k₁ using ñ with
 |false=>
  (refine cJ h1 fun a e1 zq=>?_;obtain rfl:=zq)
  induction k₂ using ñ with
  |false=>
   (refine cJ h2 fun b e2 zq=>?_;obtain rfl:=zq)
   exact⟨_,wF (f:=fun ρ=>{S with ρ:=ρ}) e1 e2 (n rfl)⟩
  |true=>
   (refine cJ h2 fun b e2 zq=>?_;obtain rfl:=zq)
   have e2:é S.κ qp=some b:=e2;exact⟨{S with κ:=put S.κ qp (some mT)},congrArg (Option.map _) e2,congrArg (Option.map _) e1⟩
 |true=>
  (refine cJ h1 fun a e1 zq=>?_;obtain rfl:=zq)
  induction k₂ using ñ with
  |false=>
   (refine cJ h2 fun b e2 zq=>?_;obtain rfl:=zq)
   have e2:é S.ρ qp=some b:=e2;exact⟨{S with ρ:=put S.ρ qp (some mT)},congrArg (Option.map _) e2,congrArg (Option.map _) e1⟩
  |true=>
   (refine cJ h2 fun b e2 zq=>?_;obtain rfl:=zq)
   exact⟨_,wF (f:=fun κ=>{S with κ:=κ}) e1 e2 (n rfl)⟩
theorem fm2{α β:Type}{f:α→Option β}{a b:α}{x y:β}(ha:f a=some x∨f a=none)(hb:f b=some y∨f b=none):List.filterMap f [a,b]=[x,y]∨(List.filterMap f [a,b]).length≠2:=by
 rcases ha with ha|ha<;>rcases hb with hb|hb<;>simp[ha,hb]
theorem wK{e:Expr}:isStar e=false→(match e with|.Starred .. =>true|_=>false:Bool)=false:=by
 intro h
 induction e using PySem.Expr.casesOn<;>first|rfl|exact ĕ h
theorem rn{x y:Õ}{px py tp vp:Pos}{kt kv:Nat}{a b:Expr}(hp:plain [a,b]=true)(h:(!([a,b].all (constantsAlone 8))||[a,b].all (foldedForSure 8))=true):
  swappedStores [.Tuple [.Name x px,.Name y py] kt tp] (.Tuple [a,b] kv vp) env=pure none∨swappedStores [.Tuple [.Name x px,.Name y py] kt tp] (.Tuple [a,b] kv vp) env=pure (some [x,y]):=by
 obtain⟨h1,h2⟩:=ez hp;have cK:([a,b].any fun|.Starred .. =>true|_=>false)=false:=by
  rw[ij,ij,wK h1,wK (ez h2).1];rfl
 unfold swappedStores;dsimp only
 split
 ·exact .inl rfl
 split
 ·rename_i c;exact absurd (c.symm.trans cK) (by simp)
 generalize xh:List.filterMap _ [Expr.Name x px,Expr.Name y py]=ns;have Td:ns=[x,y]∨ns.length≠2:=by
  rw[←xh];refine fm2 ?_ ?_
  ·show(if _ then some x else none)=some x∨(if _ then some x else none)=none
   split<;>simp
  ·show(if _ then some y else none)=some y∨(if _ then some y else none)=none
   split<;>simp
 split
 ·exact .inl rfl
 rename_i c2;have e2:ns=[x,y]:=Td.resolve_right fun q=>c2 (by
  have:(ns.length !=2)=true:=by simpa using q
  show(ns.length !=2||_)=true;rw[this];rfl)
 split
 ·exact .inl rfl
 rename_i c3
 split
 ·rename_i c4;rw[c4]at h;rcases lU.mp h with q|q
  ·exact â q
  ·exact absurd q c3
 ·exact .inr (by rw[e2])
theorem ry{E3 JJ:Bool×Nat}(h:Ď S [E3,JJ] vs=some st):T3 fun iK mT aM=>A3 (vs=[iK,mT]) (Ş S E3.1 E3.2 iK=some aM) (Ş aM JJ.1 JJ.2 mT=some st):=by
 induction vs using Ū with
 |nil=>exact nS h
 |cons iK r=>
  refine ï h fun aM h1 h=>?_
  induction r using Ū with
  |nil=>exact nS h
  |cons mT r=>
   refine ï h fun fu h2 h=>?_
   induction r using Ū with
   |nil=>exact⟨iK,mT,aM,rfl,h1,h2.trans h⟩
   |cons=>exact nS h
theorem zV{a b:Expr}{kv:Nat}{vp:Pos}{Q:Value→Shared→Prop}{E:Value→Shared→Prop}(h1:ĺ prog w Z d es S Å vs)(hl:vs.length=2)(hp:plain [a,b]=true)(he:fc cx [a,b]=es)(C:Ok Z d cx A env g s S)
  (hq:∀g' ò xs c,Gst g g'→Ok Z d cx A env g' ò Å→ò.heap.IsTuple c xs.toArray→Ł Z g' vs xs→Q (.ref c) ò):õ prog w A (eval (.Tuple [a,b] kv vp) env) Q E s:=by
 refine wpAny_Tuple (h1 _ _ _ _ _ _ _ _ _ he hp C fun Ü ò xs Ñ Ï ô=>?_);refine⟨by rw[ô.len,hl];decide,cu Ï (o:={cls:=.type "tuple",data:=.seq xs.toArray}) rfl ò.toks fun ó Í è=>?_⟩;exact hq _ _ _ _ (Ñ.trans Í.toGst) è ⟨_,fM _ rfl,rfl,_,rfl⟩ (ô.mono Í.toGst)
theorem QK(h1:ĺ prog w Z d es S Å vs)(h2:Ď Å q vs=some Í):vQ prog w Z d (.sw q es) S Í .next:=by
 intro cx X env A g s Q E hx C hq;obtain⟨x,px,y,py,kt,tp,a,b,kv,vp,p,rfl,dX,hp,ZM,hl,he⟩:=sv hx;have hv:vs.length=2:=by rw[←(fy h2).1,←(jS (env:=env) hl).2];rfl
 rcases rn (x:=x) (y:=y) (px:=px) (py:=py) (tp:=tp) (vp:=vp) (kt:=kt) (kv:=kv) (env:=env) hp ZM with hw|hw
 ·refine eQ (aZ rfl) hw rfl (zV h1 hv hp he C fun Ü ò xs c Ñ Ï T ô=>?_);exact gV hl h2 Ï T ô fun ó Ļ ù è=>hq.q _ _ _ (Ñ.trans ù) è rfl
 ·refine Assign_Tuple_swapped (zV h1 hv hp he C fun Ü ò xs c Ñ Ï T ô=>?_) rfl hw;obtain⟨x',p',k₁,Bn,l',ex,f1,f2,rfl⟩:=dk hl
  (injection ex with ex;subst ex)
  obtain⟨y',p'',k₂,qp,Zy,ey,f3,f4,rfl⟩:=dk f2
  (injection ey with ey;subst ey)
  obtain rfl:[]=Zy:=ì f4;obtain⟨iK,mT,aM,rfl,e3,e4⟩:=ry h2;obtain⟨Qf,EU,rfl,w1,Qe,MP,rfl,w2,rz⟩:=ô;obtain rfl:MP=[]:=rz;obtain⟨t,c1,c2⟩:=rA e3 e4 fun ek ei=>by
   have ek:k₁=k₂:=ek;have ei:Bn=qp:=ei;subst ek ei
   induction k₁ using ñ
   ·obtain⟨_,_,z1⟩:=dY f1;obtain⟨_,_,z2⟩:=dY f3;exact dX (qx z1 z2)
   ·obtain⟨_,_,z1⟩:=bj f1;obtain⟨_,_,z2⟩:=bj f3;exact dX (qx z1 z2)
  refine wpAny_unpackItems_tuple (items:=[Qf,Qe].toArray) C.r.hd T fun h' k=>?_;refine assignInOrder_cons (hM (Ï.KQ (mG k) _) f3 c1 w2 fun Ļ è=>?_);exact assignInOrder_cons (hM è f1 c2 w1 fun iU ĸ=>assignInOrder_nil (hq.q Ü iU _ Ñ ĸ rfl))
end
section
variable{H H':List Cell}
theorem SO(x:Int):(max 0 x).toNat=x.toNat:=by induction x using Int.casesOn<;>rfl
theorem Fu(k n:Nat):(min (k:Int) n).toNat=min k n:=(Nat.le_total k n).elim (fun h=>by rw[Int.min_eq_left (vh.mpr h),Nat.min_eq_left h];rfl) fun h=>by rw[Int.min_eq_right (vh.mpr h),Nat.min_eq_right h];rfl
theorem Cz(n:Nat)(i:Int):clamp n i=clipAt n i:=by
 unfold clamp clipAt;rw[SO]
 induction h:Ī i 0 using ñ with
 |true=>
  have h:=bD h;rw[if_pos rfl,if_pos h,Int.min_eq_left (jM (by exact í [_,_] (.c (.a Â Á) Ē .z) (.a (.a Â È) Á) È rfl h))]
 |false=>
  have h:¬i<0:=of_decide_eq_false h;obtain⟨k,rfl⟩:=Int.eq_ofNat_of_zero_le (bO.mp h);rw[if_neg jH,if_neg h,Fu];rfl
def E_:Option V→Option (Option Int)
 |none=>some none
 |some v=>(qI v).map some
theorem tM{n dflt:Nat}{v:Option V}{r:Nat}(h:bound n dflt v=some r):∃i,E_ v=some i∧r=i.elim dflt (clipAt n):=by
 induction v using ş with
 |none=>exact⟨none,rfl,(ì h).symm⟩
 |some v=>
  refine ï h fun i h1 h2=>?_;exact⟨some i,congrArg (Option.map some) h1,(ì h2).symm.trans (Cz n i)⟩
def bC(Z:Ě)(g:Gh):Option V→Value→Prop
 |none,x=>x=.none
 |some v,x=>ć Z g v x
theorem bC.is{v:Option V}{x:Value}{i:Option Int}(h:bC Z g v x)(e:E_ v=some i):IsPart x i:=by
 induction v using ş with
 |none=>(replace e:=ì e;subst e);exact h▸.none
 |some v=>
  (refine cJ e fun n h1 zq=>?_;obtain rfl:=zq)
  have e:=iI h1;subst e;obtain⟨t,rfl⟩:=h;exact .int _ _
theorem ß.tk{Y:Sta}{k:FH}{l:List V}:∀{vs:List Value} {n:Nat},ß Y k l vs→ß Y k (l.take n) (vs.take n):=by
 induction l with
 |nil=>exact fun {vs n} h=>by rw[show vs=[]from h,List.take_nil,List.take_nil];rfl
 |cons v l ih=>
  intro vs n h;obtain⟨x,r,rfl,h1,h2⟩:=h
  induction n using mM with
  |zero=>rfl
  |succ n=>exact⟨x,_,rfl,h1,ih h2⟩
theorem ß.dr{Y:Sta}{k:FH}{l:List V}:∀{vs:List Value} {n:Nat},ß Y k l vs→ß Y k (l.drop n) (vs.drop n):=by
 induction l with
 |nil=>exact fun {vs n} h=>by rw[show vs=[]from h,List.drop_nil,List.drop_nil];rfl
 |cons v l ih=>
  intro vs n h
  induction n using mM with
  |zero=>exact h
  |succ n=>
   obtain⟨x,r,rfl,h1,h2⟩:=h;exact ih h2
theorem ß.part{Y:Sta}{k:FH}{l:List V}{vs:List Value}(a n:Nat)(h:ß Y k l vs):ß Y k ((l.drop a).take n) ((vs.drop a).take n):=h.dr.tk
theorem ß.rev{Y:Sta}{k:FH}{l:List V}:∀{vs:List Value},ß Y k l vs→ß Y k l.reverse vs.reverse:=by
 induction l with
 |nil=>exact fun h=>h▸rfl
 |cons v l ih=>
  intro vs h;obtain⟨x,r,rfl,h1,h2⟩:=h;rw[aq,aq];exact ß.app (ih h2) ⟨x,[],rfl,h1,rfl⟩
theorem pJ(B:Base Z g s H){v:V}{l:List V}{x:Value}(h:ć Z g v x)(e:view H v=some (.tup l)):Rep Z.toSta g.k (.tup l) x:=by
 induction v using V.casesOn with
 |Ó i=>
  obtain⟨a,h1,rfl⟩:=h;refine cJ e fun c q e=>?_;obtain⟨a',h2,h3⟩:=B.cells _ _ q;have ea:=ì (h1.symm.trans h2)
  induction c using Cell.casesOn with
  |Ô v=>exact(show v=.tup l from e)▸ea▸h3
  |_=>exact neT V.ctorIdx e rfl
 |_=>exact ì e▸h
theorem vM(lo hi:Option Int)(n:Nat):Builtin.Slice.sliceAdjust lo hi 1 (n:Int)=(((lo.elim 0 (clipAt n):Nat):Int),((hi.elim n (clipAt n):Nat):Int)):=by
 have e:∀i:Int,(if i<0 then max (i+(n:Int)) 0 else min i (n:Int))=(clipAt n i:Int):=fun i=>by
  rw[clipAt_cast]
  by_cases h:i<0
  ·rw[if_pos h,if_pos h,Int.min_eq_left (a:=i+(n:Int)) (b:=n) (í [_,_] (.c (.a Â Á) Ē .z) (.a Â È) È rfl h),Int.max_comm]
  ·rw[if_neg h,if_neg h,Int.max_eq_right (Int.le_min.mpr ⟨bO.mp h,lS n⟩)]
 refine Prod.ext ?_ ?_
 ·induction lo using ş with
  |none=>rfl
  |some v=>exact e v
 ·induction hi using ş with
  |none=>rfl
  |some v=>exact e v
theorem uO(a b:Nat):Builtin.Slice.slicePlaces (a:Int) (b:Int) 1=b - a:=by
 show(if(a:Int)<b then((b:Int) - a - 1) / 1+1 else 0).toNat=_
 by_cases h:(a:Int)<b
 ·rw[if_pos h,Int.ediv_one,Int.sub_add_cancel];exact Int.toNat_sub b a
 ·rw[if_neg h];exact(Nat.sub_eq_zero_of_le (vh.mp (bO.mp h))).symm
theorem gz{E:Value→Shared→Prop}{x:Value}{i:Option Int}{Q:Option Int→Shared→Prop}(h:IsPart x i)(hq:Q i s):wpAny (model prog w) A (Builtin.Slice.slicePartIndex x) Q E s:=by
 cases h with
 |none=>exact slicePart_none hq
 |int i t=>exact slicePart_int hq
theorem tR{E:Value→Shared→Prop}{sl:Addr}{vl vu:Value}{lo hi:Option Int}{n:Nat}{Q:Int×Int×Nat→Shared→Prop}(hs:s.heap.IsSliceOf sl vl vu .none)(pl:IsPart vl lo)(pu:IsPart vu hi)
  (h:Q (((lo.elim 0 (clipAt n):Nat):Int),1,(hi.elim n (clipAt n)) - (lo.elim 0 (clipAt n))) s):wpAny (model prog w) A (Builtin.Slice.sliceApplied (.ref sl) (pure (n:Int))) Q E s:=by
 obtain⟨os,NQ,Ws,P0⟩:=id hs;unfold Builtin.Slice.sliceApplied Builtin.Slice.sliceFields;refine wpAny_bind (wpAny_bind (wpAny_field NQ P0 (x:=vl) rfl (wpAny_bind (wpAny_field NQ P0 (x:=vu) rfl (wpAny_bind (wpAny_field NQ P0 (x:=.none) rfl (wpAny_pure ?_)))))));refine wpAny_bind (slicePart_none ?_);show wpAny _ _ (if((1:Int)==0)=true then _ else _) _ _ s;rw[if_neg (by decide)];refine wpAny_bind (gz pl (wpAny_bind (gz pu (wpAny_bind (wpAny_pure ?_)))));show wpAny _ _ (match Builtin.Slice.sliceAdjust lo hi 1 (n:Int)with|(lo,hi)=>pure (lo,(1:Int),Builtin.Slice.slicePlaces lo hi 1)) _ _ s;rw[vM];dsimp only;rw[uO];exact wpAny_pure h
theorem AI(xs:Array Value)(a n:Nat):((bP n).filterMap fun (k:Nat)=>xs[((a:Int)+(k:Int)*1).toNat]?).toArray=((xs.toList.drop a).take n).toArray:=by
 have e:(fun (k:Nat)=>xs[((a:Int)+(k:Int)*1).toNat]?)=fun k=>xs[a+k]? :=by
  funext k
  have:((a:Int)+(k:Int)*1).toNat=a+k:=by exact(Nat.add_assoc _ _ _).symm
  rw[this]
 rw[e];have:=pick_run xs a n;rw[List.filterMap_map]at this;have e2:((fun x=>xs[x]?)∘fun x=>a+x)=fun k=>xs[a+k]? :=rfl
 rw[e2]at this;rw[this]
theorem gx{E:Value→Shared→Prop}{t sl:Addr}{items:Array Value}{o:Obj}{vl vu:Value}{lo hi:Option Int}{Q:Value→Shared→Prop}(ho:s.heap.get? t=some o)(ZK:o.cls=.type "tuple")(PV:∃n,o.data=.seq items n)(hs:s.heap.IsSliceOf sl vl vu .none)(pl:IsPart vl lo)(pu:IsPart vu hi)
  (h0:((items.toList.drop (lo.elim 0 (clipAt items.size))).take (hi.elim items.size (clipAt items.size) - lo.elim 0 (clipAt items.size)))=items.toList→Q (.ref t) s)
  (h:Q (.ref s.heap.objs.size) {s with heap:=s.heap.push {cls:=.type "tuple",data:=.seq ((items.toList.drop (lo.elim 0 (clipAt items.size))).take (hi.elim items.size (clipAt items.size) - lo.elim 0 (clipAt items.size))).toArray}})
  (o_:items.size≤sizeLine):wpAny (model prog w) A (getItem (.ref t) (.ref sl)) Q E s:=by
 have ht:IsTup s.heap t items:=⟨o,ho,ZK,PV⟩;have xj:sizeOk (.seq ((items.toList.drop (lo.elim 0 (clipAt items.size))).take (hi.elim items.size (clipAt items.size) - lo.elim 0 (clipAt items.size))).toArray):=by
  show _≤sizeLine;rw[Ź,oP,sJ,Array.length_toList];omega
 obtain⟨os,NQ,Ws,P0⟩:=id hs;have Z_:s.TypeIs (.ref sl) "slice":=⟨os,NQ,Ws⟩;unfold getItem;try with_reducible refine wpAny_holding ?_
 first|refine wpAny_bind (wpAny_pure ?_)|skip
 refine wpAny_bind (wpAny_sequenceKey ht.typeIs (by decide) ?_);refine wpAny_bind (wpAny_callSpecial?_slot (name:=PySem.Str.ofString "__getitem__") ht.typeIs slot_tuple_getitem
  (wpAny_call_entry slot_tuple_getitem ht.typeIs entry_tuple_getitem ?_ (args_tuple_getitem _ _)))
 show wpAny _ _ (Builtin.Tuple.tupleItemsOf (.ref t)>>=_) _ _ s;refine wpAny_bind (tupleItemsOf_ ht ?_);refine wpAny_bind (wpAny_typeOf Z_ ?_);rw[if_pos (by decide)];refine wpAny_bind (tR hs pl pu ?_)
 by_cases hw:((((lo.elim 0 (clipAt items.size):Nat):Int)==0&&(1:Int)==1&&(hi.elim items.size (clipAt items.size) - lo.elim 0 (clipAt items.size))==items.size)=true)
 ·show wpAny _ _ (if _=true then _ else _) _ _ s;rw[if_pos hw];simp only[ar,beq_iff_eq]at hw;have h1:(lo.elim 0 (clipAt items.size):Nat)=0:=by omega
  have:=h0 (by rw[hw.2,h1,List.drop_zero,sG (by simp)]);refine wpAny_bind (m:=Builtin.Tuple.tupleIsExact _) ?_;refine wpAny_bind (wpAny_typeOf ht.typeIs (wpAny_pure ?_));rw[if_pos (by decide)];exact wpAny_bind (wpAny_rule (wpAny_bind (wpAny_pure (wpAny_pure ⟨_,rfl,wpAny_pure this⟩))))
 ·show wpAny _ _ (if _=true then _ else _) _ _ s;rw[if_neg hw,AI]
  first
   |exact wpAny_bind (m:=Builtin.Tuple.tupleExact _) (wpAny_newObj_type (wpAny_pure ⟨_,rfl,wpAny_pure h⟩) xj)
   |exact wpAny_bind (m:=Builtin.Tuple.tupleExact _) (wpAny_newObj_type (wpAny_bind (wpAny_pure (wpAny_pure ⟨_,rfl,wpAny_pure h⟩))) xj)
   |exact wpAny_bind (wpAny_bind (m:=Builtin.Tuple.tupleExact _) (wpAny_newObj_type (wpAny_pure (wpAny_pure ⟨_,rfl,wpAny_pure h⟩)) xj))
   |exact wpAny_bind (wpAny_bind (m:=Builtin.Tuple.tupleExact _) (wpAny_newObj_type (wpAny_pure ⟨_,rfl,wpAny_pure h⟩) xj))
end
section
variable{S Å Í ĩ:St}{H H₁:List Cell}{ρ κ:List (Option V)}{e:PE}{lo hi st:Option PE}{oq pd Ċ:Option V}{v v' y y':V}
theorem uz(lo hi:Option Int)(n:Nat):Builtin.Str.strSliceIndices lo hi 1 n=(bP ((hi.elim n (clipAt n)) - (lo.elim 0 (clipAt n)))).map ((lo.elim 0 (clipAt n))+ ·):=by
 have e:Builtin.Str.strSliceIndices lo hi 1 n=sliceRange (((lo.elim 0 (clipAt n):Nat):Int)) (((hi.elim n (clipAt n):Nat):Int)) 1:=by
  unfold Builtin.Str.strSliceIndices;have h1:(1:Int)>0:=by decide
  induction lo using ş<;>induction hi using ş<;>simp[clipAt_cast,h1]
 rw[e,sliceRange_one]
theorem rS{α}(l:List α)(a n:Nat)(h:((l.drop a).take n).length=l.length):(l.drop a).take n=l:=by
 rw[oP,sJ]at h;have h1:l.length≤n:=h▸Nat.min_le_left _ _;have h2:l.length≤l.length - a:=ă (Ņ h.symm) (Nat.min_le_right _ _)
 induction a using mM with
 |zero=>exact sG h1
 |succ a=>induction l using Ū with
  |nil=>exact List.take_nil
  |cons x t=>exact absurd (ă h2 (ă (Ņ (Nat.succ_sub_succ _ _)) (Nat.sub_le _ _))) (Nat.not_succ_le_self _)
theorem GN(n:Nat)(i:Option Int):i.elim n (clipAt n)≤n:=by
 induction i using ş with
 |none=>exact Ų _
 |some u=>exact vh.mp ((clipAt_cast n u).symm▸Int.max_le.mpr ⟨lS n,Int.min_le_right _ _⟩)
theorem yv{α}(l:List α)(a n:Nat):((l.drop a).take n).length≤l.length:=
 ă (List.length_take_le' _ _) (ă (Ņ sJ) (Nat.sub_le _ _))
theorem Ũ{E:Value→Shared→Prop}{l:List Nat}{t:Tok}{sl:Addr}{l' u':Option (Int×Tok)}{Q:Value→Shared→Prop}(hs:s.heap.IsSliceOf sl (partValue l') (partValue u') .none)(hz:l.length≤sizeLine)
  (h:∀t' k,Q (.str ⟨⟨(l.drop ((l'.map (·.1)).elim 0 (clipAt l.length))).take ((u'.map (·.1)).elim l.length (clipAt l.length) - (l'.map (·.1)).elim 0 (clipAt l.length))⟩⟩ t') {s with toks:=k}):wpAny (model prog w) A (getItem (.str ⟨⟨l⟩⟩ t) (.ref sl)) Q E s:=by
 refine wpAny_getItem_str_slice (l:=l') (u:=u') (st:=none) hs rfl ?_;have ep:slicePicked ⟨⟨l⟩⟩ l' u' none=(bP (((u'.map (·.1)).elim l.length (clipAt l.length)) - ((l'.map (·.1)).elim 0 (clipAt l.length)))).map (((l'.map (·.1)).elim 0 (clipAt l.length))+ ·):=uz _ _ l.length;have ef:(slicePicked ⟨⟨l⟩⟩ l' u' none).filterMap ((⟨l⟩:Array Nat)[·]?)=(l.drop ((l'.map (·.1)).elim 0 (clipAt l.length))).take ((u'.map (·.1)).elim l.length (clipAt l.length) - (l'.map (·.1)).elim 0 (clipAt l.length)):=by
  rw[ep];exact pick_run ⟨l⟩ _ _
 have h2:=GN l.length (u'.map (·.1));revert h ef ep;generalize (l'.map (·.1)).elim 0 (clipAt l.length)=a;generalize (u'.map (·.1)).elim l.length (clipAt l.length)=b at h2 ⊢;intro h ep ef;unfold sliceMade
 split
 ·rename_i hc;have h1:b - a=l.length:=by
   have:=eq_of_beq (Kk.mp hc).2;rw[ep,Ė,List.length_range]at this;exact this
  have:=h t s.toks;rw[rS _ _ _ (by rw[oP,sJ];omega)]at this;exact this
 ·have:=h s.toks (s.toks+1);rw[←ef]at this;exact⟨ă (ef▸yv l a (b - a)) hz,this⟩
theorem ji{E:Value→Shared→Prop}{l:List Nat}{t:Tok}{sl:Addr}{vl vu:Value}{lo hi:Option Int}{Q:Value→Shared→Prop}(hs:s.heap.IsSliceOf sl vl vu .none)(pl:IsPart vl lo)(pu:IsPart vu hi)(hz:l.length≤sizeLine)
  (h:∀t' k,Q (.str ⟨⟨(l.drop (lo.elim 0 (clipAt l.length))).take (hi.elim l.length (clipAt l.length) - lo.elim 0 (clipAt l.length))⟩⟩ t') {s with toks:=k}):wpAny (model prog w) A (getItem (.str ⟨⟨l⟩⟩ t) (.ref sl)) Q E s:=by
 cases pl<;>cases pu
 ·exact Ũ (l':=none) (u':=none) hs hz h
 ·exact Ũ (l':=none) (u':=some (_,_)) hs hz h
 ·exact Ũ (l':=some (_,_)) (u':=none) hs hz h
 ·exact Ũ (l':=some (_,_)) (u':=some (_,_)) hs hz h
theorem ŕ{α}{l:List α}(h:small l=true):l.length≤2^24:=ă (aV (ĥ h)) (by decide)
structure Cut(l:List α)(lo hi:Option V)(f:List α→V)(y:V):Prop where
 z:small l=true
 e:T2 fun i j=>A3 (E_ lo=some i) (E_ hi=some j) (y=f ((l.drop (i.elim 0 (clipAt l.length))).take (j.elim l.length (clipAt l.length) - i.elim 0 (clipAt l.length))))
theorem qN{α}{l:List α}{f:List α→V}(h:cut l oq pd f=some y):Cut l oq pd f y:=by
 (have hz:=cy h;have h:=cn h)
 refine ï h fun a h1 h=>?_;refine ï h fun b h2 h=>?_;obtain⟨i,F7,rfl⟩:=tM h1;obtain⟨j,F6,rfl⟩:=tM h2;exact⟨hz,i,j,F7,F6,(ì h).symm⟩
section
variable{E:Value→Shared→Prop}{x vl vu vs:Value}{sl:Addr}{Q:Value→Shared→Prop}
theorem Jf{l:List Nat}(B:Base Z g s H)(hv:Rep Z.toSta g.k (.str l) x)(hs:s.heap.IsSliceOf sl vl vu .none)(pl:bC Z g oq vl)(pu:bC Z g pd vu)(h:Cut l oq pd .str y)(hq:đ Z g s H y Q):bJ prog w A s x (.ref sl) Q E:=by
 obtain⟨hz,i,j,F7,F6,rfl⟩:=h;obtain⟨t,rfl⟩:=hv;exact⟨⟨_,_,typeIs_str _ _ _,F.slot_str_getitem.lookup⟩,ji hs (pl.is F7) (pu.is F6) (ŕ hz) fun t' k=>hq.kG B (fun À q=>neT V.ctorIdx q rfl) k ⟨t',rfl⟩⟩
theorem z0{l:List Nat}(B:Base Z g s H)(hv:Rep Z.toSta g.k (.bytes l) x)(hs:s.heap.IsSliceOf sl vl vu .none)(pl:bC Z g oq vl)(pu:bC Z g pd vu)(h:Cut l oq pd .bytes y)(hq:đ Z g s H y Q):bJ prog w A s x (.ref sl) Q E:=by
 obtain⟨hz,i,j,F7,F6,rfl⟩:=h;obtain⟨bs,t,rfl,Wv⟩:=hv;have hlen:bs.size=l.length:=by rw[←Wv,Ė,Array.length_toList]
 refine⟨⟨_,_,typeIs_bytes _ _ _,FB.slot_bytes_getitem.lookup⟩,?_⟩;refine getItem_meets (typeIs_bytes _ _ _) (by decide) FB.slot_bytes_getitem FB.entry_bytes_getitem (FB.args_bytes_getitem_2 _ _) (KBc.meets_slice2 bs t _ (pl.is F7) (pu.is F6)) ⟨hs,ă (KBc.size_picked_le bs i j) (hlen▸ŕ hz),fun t' k=>hq.kG B (fun À q=>neT V.ctorIdx q rfl) k ⟨_,t',rfl,?_⟩⟩;rw[KBc.picked_eq,hlen];show List.map _ ((bs.toList.drop _).take _)=_;rw[List.map_take,List.map_drop,Wv]
theorem Je{l:List V}(B:Base Z g s H)(hv:ś Z.toSta s.heap g.k (.tup l) x)(sX:Rep Z.toSta g.k (.tup l) x)(hs:s.heap.IsSliceOf sl vl vu .none)(pl:bC Z g oq vl)(pu:bC Z g pd vu)(h:Cut l oq pd .tup y)(hq:đ Z g s H y Q):bJ prog w A s x (.ref sl) Q E:=by
 obtain⟨hz,i,j,F7,F6,rfl⟩:=h;obtain⟨t,o,ws,rfl,ho,⟨n,rfl⟩,r⟩:=hv;have hlen:ws.toArray.size=l.length:=Ź.trans r.len;refine⟨⟨_,_,⟨_,ho,rfl⟩,slot_tuple_getitem.lookup⟩,?_⟩;refine gx (items:=ws.toArray) ho rfl ⟨n,rfl⟩ hs (pl.is F7) (pu.is F6) (fun e=>?_) ?_ (hlen▸ŕ hz)<;>rw[hlen]at*
 ·refine hq.kG B (fun À q=>neT V.ctorIdx q rfl) s.toks ?_;rw[rS _ _ _ ((ß.part _ _ r).len.symm.trans ((congrArg oQ e).trans r.len))];exact sX
 ·exact lM (n:=0) (t:=s.toks) B (ß.part (i.elim 0 (clipAt l.length)) (j.elim l.length (clipAt l.length) - i.elim 0 (clipAt l.length)) r) fun İ ĩ Ŝ bH=>hq _ _ _ ĩ (fun b o e=>ō _ e) Ŝ bH
theorem Jh{l:List V}(B:Base Z g s H)(hv:ś Z.toSta s.heap g.k (.lst l) x)(hs:s.heap.IsSliceOf sl vl vu .none)(pl:bC Z g oq vl)(pu:bC Z g pd vu)(h:Cut l oq pd .lst y)(hq:đ Z g s H y Q):bJ prog w A s x (.ref sl) Q E:=by
 obtain⟨hz,i,j,F7,F6,rfl⟩:=h;obtain⟨t,o,ws,rfl,ho,q,r⟩:=hv;have hlen:ws.toArray.size=l.length:=Ź.trans r.len;have hL:=Base.isList ho q;refine⟨⟨_,_,hL.typeIs,list_getitem_lookup⟩,?_⟩;refine wpAny_getItem_list_slice hL hs (pl.is F7) (pu.is F6) .none (by simp) ?_ (hlen▸ŕ hz);rw[slicePick_plain,hlen];exact B.fH (n:=0) (t:=s.toks) (ß.part _ _ r) hq
theorem Jg{l:List V}(B:Base Z g s H)(hv:ś Z.toSta s.heap g.k (.lst l) x){t:Tok}(hs:s.heap.IsSliceOf sl .none .none (.int (-1) t))(hz:small l=true)(hq:đ Z g s H (.lst l.reverse) Q):bJ prog w A s x (.ref sl) Q E:=by
 obtain⟨a,o,ws,rfl,ho,q,r⟩:=hv;have hlen:ws.toArray.size=l.length:=Ź.trans r.len;have hL:=Base.isList ho q;refine⟨⟨_,_,hL.typeIs,list_getitem_lookup⟩,?_⟩;refine wpAny_getItem_list_slice (st:=some (-1)) hL hs .none .none (.int _ _) (by simp) ?_ (hlen▸ŕ hz);rw[krv_pick];exact B.fH (n:=0) (t:=s.toks) r.rev hq
theorem zZ(B:Base Z g s H)(hv:ś Z.toSta s.heap g.k v x)(vr:∀l,v=.tup l→Rep Z.toSta g.k (.tup l) x)(hs:s.heap.IsSliceOf sl vl vu vs)(pl:bC Z g oq vl)(pu:bC Z g pd vu)(ps:bC Z g Ċ vs)(h:slice v oq pd Ċ=some y)(hq:đ Z g s H y Q):bJ prog w A s x (.ref sl) Q E:=by
 induction Ċ using ş with
 |none=>
  have ps:vs=.none:=ps;subst ps
  induction v using V.casesOn with
  |str l=>exact Jf B hv hs pl pu (qN h) hq
  |bytes l=>exact z0 B hv hs pl pu (qN h) hq
  |tup l=>exact Je B hv (vr l rfl) hs pl pu (qN h) hq
  |lst l=>exact Jh B hv hs pl pu (qN h) hq
  |_=>exact nS h
 |some s=>
  refine ï h fun i h1 h=>?_;refine ï h fun l h2 h=>?_
  (have h3:=cy h;have h:=cn h)
  (have hz:=aB h3;have h3:=aC h3)
  (have h4:=aB h3;have h3:=aC h3)
  (have h5:=aB h4;have h4:=aC h4)
  have e1:=iI h1;have e2:=iL h2;have e3:i= -1:=of_decide_eq_true h3;have e4:=oU.mp h4;have e5:=oU.mp h5;have e6:=ì h;subst e1 e2 e3 e4 e5 e6;have pl:vl=.none:=pl;have pu:vu=.none:=pu;subst pl pu;obtain⟨t,rfl⟩:=ps;exact Jg B hv hs hz hq
end
def zk(prog:Program)(w:World)(Z:Ě)(d:Nat)(e:Option PE)(st Ċ:St)(o:Option V):Prop:=∀cx x env A g s Q E,K3 cx x=e→Ok Z d cx A env g s st→(∀g' s' x,Gst g g'→Ok Z d cx A env g' s' Ċ→bC Z g' o x→Q x s')→õ prog w A (evalPart x env) Q E s
theorem MD:zk prog w Z d none S S none:=by
 intro cx x env A g s Q E hx C hq
 induction x using ş with
 |none=>exact wpAny_pure (hq g s _ (.refl g) C rfl)
 |some x=>exact sN hx
theorem MC(h:Ű prog w Z d e S Å v):zk prog w Z d (some e) S Å (some v):=by
 intro cx x env A g s Q E hx C hq
 induction x using ş with
 |none=>exact nS hx
 |some x=>exact h _ _ _ _ _ _ _ _ (ì hx) C hq
theorem bC.mono{v:Option V}{x:Value}(h:bC Z g v x)(G:Gst g g'):bC Z g' v x:=by
 induction v using ş with
 |none=>exact h
 |some v=>exact ć.mono G h
theorem yg{lo hi stp:Option Expr}{p:Pos}{o i:Value}:∃ops,subscripted (.Slice lo hi stp p) false o i=operate ops (getItem o i):=by
 induction stp using ş<;>exact⟨_,rfl⟩
theorem QL(h1:Ű prog w Z d e S Å v)(h2:zk prog w Z d lo Å Í oq)(h3:zk prog w Z d hi Í ĩ pd)(h4:zk prog w Z d st ĩ ⟨H,ρ,κ⟩ Ċ)(h5:view H v=some v')(h6:slice v' oq pd Ċ=some y)(h7:made H y=(H₁,y')):Ű prog w Z d (.sl e lo hi st) S ⟨H₁,ρ,κ⟩ y':=by
 intro cx X env A g s Q E hx C hq;obtain⟨o,l,h,t,q,p,rfl,e1,e2,e3,e4⟩:=iv hx;refine Subscript_ (h1 _ _ _ _ _ _ _ _ e1 C fun Ü ò ŵ Ñ Ï ô=>wpAny_Slice ?_);refine h2 _ _ _ _ _ _ _ _ e2 Ï fun ó Ļ xX ù è ů=>?_;refine h3 _ _ _ _ _ _ _ _ e3 è fun İ iU Qm ł ĸ bH=>?_;refine h4 _ _ _ _ _ _ _ _ e4 ĸ fun BZ Me Ql nq DS Vj=>?_;refine cu DS (o:={cls:=.type "slice",data:=.fields #[xX,Qm,Ql]}) rfl Me.toks fun qz tU zr=>?_;have V1:=ô.mono ((ù.trans ł).trans (nq.trans tU.toGst));have hit:=zZ (prog:=prog) (w:=w) (A:=A) (E:=E) (Q:=Q) zr.base (zr.view V1 h5) (fun l e=>pJ zr.base V1 (h5.trans (congrArg some e))) (Heap.IsSliceOf.new _ _ _ _)
  (ů.mono (ł.trans (nq.trans tU.toGst))) (bH.mono (nq.trans tU.toGst)) (Vj.mono tU.toGst) h6
  fun g' t z S K B V=>hq _ _ _ (((Ñ.trans ù).trans ł).trans (nq.trans (tU.trans S).toGst)) (by rw[h7]at B;exact zr.next S K B) (by rw[h7]at V;exact V)
 obtain⟨⟨T,id,hT,hl⟩,hw⟩:=hit;obtain⟨ops,hs⟩:=yg (lo:=l) (hi:=h) (stp:=t) (p:=q) (o:=ŵ) (i:=.ref Me.heap.objs.size);exact tail_any hT hl hw hs
end
section
variable{g:Gh}{s:Shared}{H:List Cell}{d b:Nat}{vs:List V}{xs:List Value}{v u:V}{Q:Value→Shared→Prop}{E:Value→Shared→Prop}{h':Heap}{Y:Sta}{k:FH}
theorem Base.grow(B:Base Z g s H)(kp:∀b o,s.heap.get? b=some o→h'.get? b=some o)(t:Nat):Base Z g {s with heap:=h',toks:=t} H:=
 B.gen (fun À=>False) (fun À d=>d.elim) (fun b o À e=>kp b o e) (fun À À=>rfl) (fun À d=>d.elim) B.len (fun À À e=>e) fun À À e=>.inl ⟨e,fun À d=>d.elim⟩
theorem Base.wO(B:Base Z g s H){a:Addr}{vs:List Value}{n:Nat}{l:List V}(fr:s.heap.objs.size≤a)(kp:∀b o,s.heap.get? b=some o→h'.get? b=some o)(ho:h'.get? a=some {cls:=.type "list",data:=.seq vs.toArray n})
  (hr:ß Z.toSta g.k l vs)(t:Nat)(hq:đ Z g s H (.lst l) Q):Q (.ref a) {s with heap:=h',toks:=t}:=by
 have hf:g.r a=.free:=B.fresh _ fr;have S:ę g (g.Ó a H.length):=(ę.set g hf).trans (ę.snoc _ _);have q:(g.Ó a H.length).r a=.cell H.length:=g.þ _ _;have last:é (g.Ó a H.length).as H.length=some a:=B.len▸eA _ _;refine hq _ _ _ S (fun b o e=>kp b o e) (B.gen (g':=g.Ó a H.length) (· =a) (fun b e=>by rw[show b=a from e];exact p9 hf) (fun b o' À e=>kp b o' e) (fun b nd=>g.ø _ nd) (fun b e=>by rw[show b=a from e];exact hR (.inl q) ho) ?_ (fun À À e=>af e) fun i c' e=>?_) ⟨a,last,rfl⟩
 ·show(g.as++[a]).length=(H++[Cell.lst l]).length;rw[ċ,ċ,B.len];rfl
 ·rcases fF e with e|⟨rfl,rfl⟩
  ·exact .inl ⟨e,fun b e=>by rw[show b=a from e];exact lj hf⟩
  ·exact .inr ⟨a,last,q,_,vs,ho,⟨n,rfl⟩,hr.mono S.k⟩
theorem đ.BB(hq:đ Z g s H v Q)(B:Base Z g s H)(hv:∀l,v≠.lst l)(kp:∀b o,s.heap.get? b=some o→h'.get? b=some o)(t:Nat){z:Value}(hz:ć Z g v z):Q z {s with heap:=h',toks:=t}:=
 đ.kG (s:={s with heap:=h',toks:=t}) (Q:=Q) (fun g' s' z S K B' V=>hq g' s' z S (fun b o e=>K b o (kp b o e)) B' V) (B.grow kp t) hv t hz
theorem rep1(h:q1 vs=some v)(r:ß Y k vs xs):∃x,xs=[x]∧Rep Y k v x:=by
 rw[i1 h]at r;obtain⟨x,t,e,hx,ht⟩:=r;exact⟨x,e.trans (congrArg _ (show t=[]from ht)),hx⟩
theorem rep2{p:V×V}(h:q2 vs=some p)(r:ß Y k vs xs):T2 fun x y=>A3 (xs=[x,y]) (Rep Y k p.1 x) (Rep Y k p.2 y):=by
 rw[i2 h]at r;obtain⟨x,t,e,hx,y,t',e',hy,ht⟩:=r;exact⟨x,y,e.trans (congrArg _ (e'.trans (congrArg _ (show t'=[]from ht)))),hx,hy⟩
theorem rint{n:Int}{x:Value}(h:qI v=some n)(r:Rep Y k v x):∃t,x=.int n t:=by
 rw[iI h]at r;exact r
theorem uJ{l:List Nat}{x:Value}(h:qS v=some l)(r:Rep Y k v x):∃t,x=.str ⟨⟨l⟩⟩ t:=by
 rw[iS h]at r;exact r
theorem Ai{p:Int×Int}(h:JP vs=some p)(r:ß Y k vs xs):T2 fun t u=>xs=[.int p.1 t,.int p.2 u]:=by
 rw[SW h]at r;obtain⟨x,r',e,⟨t,ex⟩,y,YS,e',⟨u,ey⟩,e''⟩:=r;exact⟨t,u,by rw[e,e',show YS=[]from e'',ex,ey]⟩
theorem vC{l:List Nat}:∀{acc n:Nat},digits acc l=some n→NumText.AllDigits l∧n=l.foldl (fun a c=>a*10+(c - 48)) acc:=by
 induction l with
 |nil=>exact fun h=>⟨fun c m=>absurd m jL,(ì h).symm⟩
 |cons c r ih=>
  intro acc n h
  (have hc:=cy h;have h:=cn h)
  obtain⟨q1,q2⟩:=ih h;refine⟨fun x m=>?_,q2⟩;rcases Ą.mp m with e|m
  ·exact e▸⟨jc (oa hc).1,jc (oa hc).2⟩
  ·exact q1 x m
structure LA(xs:List Value)(ns:List Nat)(is:List Int):Prop where
 a:IntsAre xs is
 b:∀n∈is,0≤n∧n<256
 c:is.map Int.toNat=ns
theorem ya{l:List V}:∀{ns:List Nat} {xs:List Value},iX l=some ns→ß Y k l xs→∃is:List Int,LA xs ns is:=by
 induction l with
 |nil=>exact fun {ns xs} h r=>⟨[],(show xs=[]from r)▸.nil,fun À m=>absurd m jL,ì h⟩
 |cons v t ih=>
  intro ns xs h r;obtain⟨x,r',e,hx,hr⟩:=r;refine ï h fun i h1 h=>?_
  (have hc:=cy h;have h:=cn h)
  refine cJ h fun VW h2 h3=>?_;obtain⟨tk,e'⟩:=rint h1 hx;obtain⟨is,i1,i2,i3⟩:=ih h2 hr;refine⟨i::is,e▸e'▸.cons i tk i1,fun n m=>?_,h3▸i3▸rfl⟩;rcases Ą.mp m with q|m
  ·exact q▸⟨gS (oa hc).1,bD (oa hc).2⟩
  ·exact i2 n m
theorem I5{α}{n:Nat}{l:List α}(h:small l=true)(e:n=l.length):(n:Int)<2^63:=
 bw.mpr (ik (e▸ĥ h) (show 1000000≤2^63 by decide))
theorem Nd{l:List Nat}(h:small l=true):¬((l.length:Nat):Int)≥2^63:=Int.not_le.mpr (I5 h rfl)
theorem Ux(B:Base Z g s H)(r:ß Z.toSta g.k vs xs)(h:blt 0 vs=some v)(hq:đ Z g s H v Q):õ prog w A (call (.builtin "len") xs) Q E s:=by
 refine ï h fun u h1 h=>?_;obtain⟨x,rfl,hx⟩:=rep1 h1 r
 induction u using V.casesOn with
 |str l=>
  (have hz:=cy h;have h:=cn h)
  have h:=ì h;subst h;obtain⟨t,rfl⟩:=hx;exact PySem.P.len_str (Nd hz) (hq.kG B (fun À q=>neT V.ctorIdx q rfl) _ ⟨_,rfl⟩)
 |bytes l=>
  (have hz:=cy h;have h:=cn h)
  have h:=ì h;subst h;obtain⟨bs,t,rfl,hb⟩:=hx;have hl:bs.size=l.length:=by rw[←hb,Ė,Array.length_toList]
  exact len_bytes (ă (hl▸ŕ hz) (by decide)) (hq.kG B (fun À q=>neT V.ctorIdx q rfl) _ ⟨_,by rw[hl]⟩)
 |tup l=>
  (have hz:=cy h;have h:=cn h)
  have h:=ì h;subst h;obtain⟨a,o,ws,rfl,k,⟨n,rfl⟩,rl⟩:=hx;have hl:ws.toArray.size=l.length:=Ź.trans rl.len;exact PyProof.Rows.len_tuple ⟨_,B.sub k,rfl,_,rfl⟩ (I5 hz hl) (hq.kG B (fun À q=>neT V.ctorIdx q rfl) _ ⟨_,by rw[hl]⟩)
 |lst l=>
  (have hz:=cy h;have h:=cn h)
  have h:=ì h;subst h;obtain⟨a,o,ws,rfl,k,q,rl⟩:=hx;have hl:ws.toArray.size=l.length:=Ź.trans rl.len;exact PyProof.Rows.len_list (Base.isList (B.sub k) q) (I5 hz hl) (hq.kG B (fun À q=>neT V.ctorIdx q rfl) _ ⟨_,by rw[hl]⟩)
 |_=>exact nS h
theorem Uw(B:Base Z g s H)(r:ß Z.toSta g.k vs xs)(h:blt 1 vs=some v)(hq:đ Z g s H v Q):õ prog w A (call (.builtin "chr") xs) Q E s:=by
 refine ï h fun u h1 h=>?_;obtain⟨x,rfl,hx⟩:=rep1 h1 r;refine ï h fun i h2 h=>?_
 (have hc:=cy h;have h:=cn h)
 have h:=ì h;subst h;obtain⟨t,rfl⟩:=rint h2 hx;have a1:=gS (oa hc).1;have a2:=bD (oa hc).2;exact PySem.P.chr_of_int (w4.mpr ⟨decide_eq_false (by exact bO.mpr ‹_›),decide_eq_false (by exact fun eG=>sk [_] (.c (.a Â Á) (.n 55296) (.c (.a (.n 1114111) Á) Â .z)) rfl a2 eG)⟩) (hq.kG B (fun À q=>neT V.ctorIdx q rfl) _ ⟨_,rfl⟩)
theorem Uv(B:Base Z g s H)(r:ß Z.toSta g.k vs xs)(h:blt 2 vs=some v)(hq:đ Z g s H v Q):õ prog w A (call (.type "int") xs) Q E s:=by
 refine ï h fun u h1 h=>?_;obtain⟨x,rfl,hx⟩:=rep1 h1 r
 induction u using V.casesOn with
 |int i=>
  have h:=ì h;subst h;obtain⟨t,rfl⟩:=hx;exact call_int_int (hq.kG B (fun À q=>neT V.ctorIdx q rfl) s.toks ⟨_,rfl⟩)
 |str l=>
  have h:(if(l.isEmpty||aj 10 l.length)=true then none else((digits 0 l).bind fun a=>some (a:Int)).map fun n=>V.int n)=some v:=h
  induction hc:(l.isEmpty||aj 10 l.length)using ñ with
  |true=>rw[hc]at h;exact nS h
  |false=>
   rw[hc]at h
   (refine cJ h fun i h2 zq=>?_;obtain rfl:=zq)
   refine ï h2 fun n h2 h3=>?_;obtain⟨q1,q2⟩:=vC h2;obtain⟨t,rfl⟩:=hx;obtain⟨c1,c2⟩:=w4.mp hc;have hlen:l.length<10:=Nat.not_le.mp fun h'=>by rw[w5 h']at c2;exact ĕ c2
   have e:=PySem.intText_digits (x:=⟨⟨l⟩⟩) q1 (by intro e;rw[show l=[]from e]at c1;exact ĕ c1) (ă (aV hlen) (by decide));exact PySem.W.KIN.call_text e (ă (aV hlen) (by decide)) (hq.kG B (fun À q=>neT V.ctorIdx q rfl) _ ⟨s.toks,by rw[←ì h3,q2];rfl⟩)
 |_=>exact nS h
theorem Uu(B:Base Z g s H)(r:ß Z.toSta g.k vs xs)(h:blt 3 vs=some v)(hq:đ Z g s H v Q):õ prog w A (call (.builtin "ord") xs) Q E s:=by
 refine ï h fun u h1 h=>?_;obtain⟨x,rfl,hx⟩:=rep1 h1 r;refine ï h fun l h2 h=>?_
 (refine cJ h fun c h3 zq=>?_;obtain rfl:=zq)
 obtain⟨t,rfl⟩:=uJ h2 hx;rw[i1 h3];exact PySem.P.ord_of_char (hq.kG B (fun À q=>neT V.ctorIdx q rfl) _ ⟨_,rfl⟩)
theorem Ut(B:Base Z g s H)(r:ß Z.toSta g.k vs xs)(h:blt 4 vs=some v)(hq:đ Z g s H v Q):õ prog w A (call (.builtin "abs") xs) Q E s:=by
 refine ï h fun u h1 h=>?_;obtain⟨x,rfl,hx⟩:=rep1 h1 r
 (refine cJ h fun i h2 zq=>?_;obtain rfl:=zq)
 obtain⟨t,rfl⟩:=rint h2 hx;refine call_abs_int fun u tk=>?_;have e:(if i<0 then -i else i)=(i.natAbs:Int):=by
  induction i using Int.casesOn with
  |ofNat n=>rfl
  |negSucc n=>exact if_pos (Int.negSucc_lt_zero n)
 rw[e];exact hq.kG B (fun À q=>neT V.ctorIdx q rfl) _ ⟨_,rfl⟩
theorem Us(B:Base Z g s H)(r:ß Z.toSta g.k vs xs)(h:blt 5 vs=some v)(hq:đ Z g s H v Q):õ prog w A (call (.type "tuple") xs) Q E s:=by
 refine ï h fun u h1 h=>?_;obtain⟨x,rfl,hx⟩:=rep1 h1 r
 induction u using V.casesOn with
 |tup l=>
  have h:=ì h;subst h;obtain⟨a,o,ws,rfl,k,⟨n,rfl⟩,rl⟩:=id hx;exact call_tuple_tup ⟨_,B.sub k,rfl,_,rfl⟩ (hq.kG B (fun À q=>neT V.ctorIdx q rfl) s.toks hx)
 |lst l=>
  (have hz:=cy h;have h:=cn h)
  have h:=ì h;subst h;obtain⟨a,o,ws,rfl,k,q,rl⟩:=hx;have hl:ws.toArray.size=l.length:=Ź.trans rl.len;refine call_tuple_list (Base.isList (B.sub k) q) (fun h' kp=>?_) (hl▸ŕ hz);exact lM (n:=0) (t:=s.toks) (B.grow kp s.toks) rl fun İ ĩ Ŝ bH=>hq _ _ _ ĩ (fun b o e=>ō _ (kp b o e)) Ŝ bH
 |_=>exact nS h
theorem Ur(hr:œ d A g)(B:Base Z g s H)(r:ß Z.toSta g.k vs xs)(h:blt 6 vs=some v)(hq:đ Z g s H v Q):õ prog w A (call (.builtin "min") xs) Q E s:=by
 obtain⟨⟨a,b⟩,h1,rfl⟩:=om h;obtain⟨t,u,rfl⟩:=Ai h1 r;refine min_two_ints hr.hd fun h' tk kp=>?_
 by_cases q:b<a
 ·have e:Ī b a=true:=decide_eq_true q;rw[if_pos q];exact hq.BB B (fun À q=>neT V.ctorIdx q rfl) kp _ ⟨u,by rw[e];rfl⟩
 ·have e:Ī b a=false:=decide_eq_false q;rw[if_neg q];exact hq.BB B (fun À q=>neT V.ctorIdx q rfl) kp _ ⟨t,by rw[e];rfl⟩
theorem Uq(hr:œ d A g)(B:Base Z g s H)(r:ß Z.toSta g.k vs xs)(h:blt 7 vs=some v)(hq:đ Z g s H v Q):õ prog w A (call (.builtin "max") xs) Q E s:=by
 obtain⟨⟨a,b⟩,h1,rfl⟩:=om h;obtain⟨t,u,rfl⟩:=Ai h1 r;refine max_two_ints hr.hd fun h' tk kp=>?_
 by_cases q:a<b
 ·have e:Ī a b=true:=decide_eq_true q;rw[if_pos (show b>a from q)];exact hq.BB B (fun À q=>neT V.ctorIdx q rfl) kp _ ⟨u,by rw[e];rfl⟩
 ·have e:Ī a b=false:=decide_eq_false q;rw[if_neg (show ¬b>a from q)];exact hq.BB B (fun À q=>neT V.ctorIdx q rfl) kp _ ⟨t,by rw[e];rfl⟩
theorem Up(hr:œ d A g)(B:Base Z g s H)(r:ß Z.toSta g.k vs xs)(h:blt 8 vs=some v)(hq:đ Z g s H v Q):õ prog w A (call (.type "bytes") xs) Q E s:=by
 refine ï h fun u h1 h=>?_;obtain⟨x,rfl,hx⟩:=rep1 h1 r;refine ï h fun l h2 h=>?_
 (have hz:=cy h;have h:=cn h)
 (refine cJ h fun ns h3 zq=>?_;obtain rfl:=zq)
 rw[iL h2]at hx;obtain⟨a,o,ws,rfl,k,q,rl⟩:=hx;obtain⟨is,i1,i2,i3⟩:=ya h3 rl;refine call_bytes_ints (Base.isList (B.sub k) q) i1 i2 (rl.len▸ŕ hz) hr.hd fun h' t k' kp=>?_;refine hq.BB B (fun À q=>neT V.ctorIdx q rfl) kp _ ⟨_,t,rfl,?_⟩;rw[←i3];unfold byteArr;rw[List.map_map];refine List.map_congr_left fun n m=>?_;have:=i2 n m;show(n.toNat.toUInt8).toNat=n.toNat;rw[Nat.toUInt8,UInt8.toNat_ofNat'];exact Nat.mod_eq_of_lt ((Int.toNat_lt this.1).mpr this.2)
theorem AJ{α:Type}{p q a b:α}(h:[p,q].Perm [a,b]):(p=a∧q=b)∨(p=b∧q=a):=by
 have one:∀{c d:α},[p,q].Perm [c,d]→p=c→p=c∧q=d:=fun h e=>by
  subst e;exact⟨rfl,ė.mp ((List.perm_cons _).mp h |>.subset (.head _))⟩
 rcases Ą.mp (h.subset (.head _))with e|e
 ·exact .inl (one h e)
 ·exact .inr (one (h.trans (List.Perm.swap _ _ _)) (ė.mp e))
theorem uB{a b:Int}{ol:List Value}{ns:List Int}(i1:IntsAre ol ns)(i2:ns.Perm [a,b])(i3:ns.Pairwise (· ≤ ·)):ß Y k (if Ī b a then[.int b,.int a]else[.int a,.int b]) ol:=by
 have len:=i2.length_eq;cases i1 with
 |nil=>exact absurd len (show(0:Nat)≠2 by decide)
 |cons p t1 i1=>cases i1 with
  |nil=>exact absurd len (show(1:Nat)≠2 by decide)
  |cons q t2 i1=>cases i1 with
   |cons=>exact absurd (Nat.succ.inj (Nat.succ.inj len)) (Nat.succ_ne_zero _)
   |nil=>
    have hle:p≤q:=(List.pairwise_cons.mp i3).1 q (.head _);have fin:∀{x y:Int},p=x→q=y→ß Y k [.int x,.int y] [.int p t1,.int q t2]:=fun e e'=>e▸e'▸⟨_,_,rfl,⟨t1,rfl⟩,_,_,rfl,⟨t2,rfl⟩,rfl⟩
    have two:=AJ i2
    by_cases P1:b<a
    ·rw[show Ī b a=true from decide_eq_true P1,if_pos rfl];exact two.elim (fun h=>absurd P1 (bO.mpr (h.1▸h.2▸hle))) fun h=>fin h.1 h.2
    ·rw[show Ī b a=false from decide_eq_false P1,if_neg jH];exact two.elim (fun h=>fin h.1 h.2) fun h=>have e:=Int.le_antisymm (h.1▸h.2▸hle) (bO.mp P1);fin (h.1.trans e) (h.2.trans e.symm)
theorem Uo(B:Base Z g s H)(r:ß Z.toSta g.k vs xs)(h:blt 9 vs=some v)(hq:đ Z g s H v Q):õ prog w A (call (.builtin "sorted") xs) Q E s:=by
 refine ï h fun u h1 h=>?_;obtain⟨x,rfl,hx⟩:=rep1 h1 r;refine ï h fun l h2 h=>?_;obtain⟨⟨a,b⟩,h3,rfl⟩:=om h;rw[iL h2]at hx;obtain⟨al,o,ws,rfl,k,q,rl⟩:=hx;obtain⟨t,u,rfl⟩:=Ai h3 rl;refine sorted_ints (Base.isList (B.sub k) q) (.cons a t (.cons b u .nil)) (by show 2<64;decide) fun out VW i1 i2 i3=>?_;obtain⟨e,he⟩:=sortedAll_at s.heap [Value.int a t,Value.int b u] out;exact B.wO (h':=sortedAll s.heap [Value.int a t,Value.int b u] out) (vs:=out.toList) (n:=e) (Nat.le_succ _) (fun À À=>sortedAll_old) he (uB i1 i2 i3) s.toks hq
theorem Ll(hr:œ d A g)(B:Base Z g s H)(r:ß Z.toSta g.k vs xs)(h:blt b vs=some v)(hq:đ Z g s H v Q):õ prog w A (call (nh b) xs) Q E s:=by
 revert h
 match b with
 |0=>exact fun h=>Ux B r h hq
 |1=>exact fun h=>Uw B r h hq
 |2=>exact fun h=>Uv B r h hq
 |3=>exact fun h=>Uu B r h hq
 |4=>exact fun h=>Ut B r h hq
 |5=>exact fun h=>Us B r h hq
 |6=>exact fun h=>Ur hr B r h hq
 |7=>exact fun h=>Uq hr B r h hq
 |8=>exact fun h=>Up hr B r h hq
 |9=>exact fun h=>Uo B r h hq
 |n+10=>exact(fun q=>nS q)
end
section
variable{S:St}{H H₁ Ö:List Cell}{ρ κ:List (Option V)}{d n:Nat}{as:List PE}{vs vs':List V}{v v':V}
theorem CJ{b:Nat}(h:blt b vs=some v):b<10:=by
 refine Nat.lt_of_not_le fun q=>?_;obtain⟨m,rfl⟩:=Nat.exists_eq_add_of_le' q;exact nS h
theorem Q_(hg:cf Z K)(h1:ĺ prog w Z d as S ⟨H,ρ,κ⟩ vs)(h2:ē H vs=some (H₁,vs'))(h3:blt n vs'=some v)(h4:made H₁ v=(Ö,v')):Ű prog w Z d (.bl n as) S ⟨Ö,ρ,κ⟩ v':=by
 intro cx x env A g s Q E hx C hq;have hb:=CJ h3;obtain⟨f,np,ys,p,rfl,hp,⟨hf,e1,_⟩|⟨e,_⟩⟩:=iv hx
 ·refine gT hg hf (oO hb (by decide)) hp e1 h1 h2 C fun Ü ò xs Ñ Ï eO=>?_;exact Ll Ï.r Ï.base eO h3 fun ó Ļ z S K B V=>by
   rw[h4]at B V;exact hq _ _ _ (Ñ.trans S.toGst) (Ï.next S K B) V
 ·subst e;exact absurd hb (by decide)
theorem EW{Y:Sta}{k:FH}{l:List V}:∀{vs:List Value},vs.length=l.length→(∀(j:Nat) v x,vs[j]? =some v→l[j]? =some x→Rep Y k x v)→ß Y k l vs:=by
 induction l with
 |nil=>exact fun h À=>List.length_eq_zero_iff.mp h
 |cons x l ih=>
  intro vs h hh
  induction vs using Ū with
  |nil=>cases h
  |cons v vs=>exact⟨v,vs,rfl,hh 0 v x rfl rfl,ih (Nat.succ.inj h) fun j v x h1 h2=>hh (j+1) v x h1 h2⟩
theorem Jw{p q:Int}(hg:cf Z K)(h1:ĺ prog w Z d as S ⟨H,ρ,κ⟩ vs)(h2:ē H vs=some (H₁,[.int p,.int q]))(h3:(Ć p&&Ć q)=true):Ű prog w Z d (.bl 10 as) S ⟨H₁++[.lst (mL p (q - p).toNat)],ρ,κ⟩ (.Ó H₁.length):=by
 intro cx x env A g s Q E hx C hq;obtain⟨f,np,ys,pos,rfl,hp,⟨hf,e1,h|⟨h,_⟩⟩|⟨_,hf,y,rfl,hy⟩⟩:=iv hx
 ·exact â h
 ·exact â h
 have b1:=ż (oa h3).1;have b2:=ż (oa h3).2;obtain⟨r,np',ys,p',rfl,mP,⟨S_,e1,_⟩|⟨h,_⟩⟩:=iv hy
 case inr=>(injection h with h;exact absurd h (by decide))
 refine av (ŋ hg C.e C.base hf fun z hz=>?_);obtain rfl:z=.type "list":=hz;refine PySem.callWith_type rfl (ı rfl (spliced_more ?_));refine gT hg S_ (by decide) mP e1 h1 h2 C fun Ü ò xs Ñ Ï eO=>?_;obtain⟨x,r,rfl,⟨tx,rfl⟩,y,r',rfl,⟨ty,rfl⟩,hr⟩:=eO;obtain rfl:r'=[]:=hr;refine call_range_2 (cu Ï (o:={cls:=.type "range",data:=.fields #[.int p tx,.int q ty,.int 1 ò.toks]}) rfl (ò.toks+1) fun ó Í è=>spliced_none ?_);have o_:Builtin.Range.rangeSize p q 1=((q - p).toNat:Int):=rB p q;show õ prog w A (call (.type "list") [.ref ò.heap.objs.size]) Q E _;refine call_list_range (n:=(q - p).toNat) C.r.hd (IsRange.new _ _ _ _ _ _ _) (nW b1 b2) o_ (JG b1 b2) fun h' tk acc c kp ho hit=>?_;have hl:acc.toList.length=(q - p).toNat:=Array.length_toList.trans hit.1;refine è.base.wO (h':=h') (vs:=acc.toList) (n:=c) (l:=mL p (q - p).toNat) (Q:=Q) (Ņ rfl) kp ho (EW (hl.trans (wu _ _).symm) fun j v x h1 h2=>?_) tk fun İ iU z S K B V=>hq _ _ _ (Ñ.trans (Í.trans S).toGst) (è.next S K B) V
 obtain⟨t,rfl⟩:=hit.2 j v (by simpa using h1);rw[wy h2];exact⟨t,by rw[Int.mul_one]⟩
end
section
set_option maxRecDepth 100000
theorem nP:Slot "bytes" "find" "bytes.find":=
 .of (owner:="bytes") (n:="find") (by rw[typeLookup_type,builtinLookup_eq_fast];kernel_rfl) (by decide+kernel) (by decide+kernel) (by decide+kernel)
  (by first|exact .inl (by decide+kernel)|exact .inr (by decide+kernel)) (by rw[isSubtype_type];kernel_rfl)
theorem xZ:typeOf (.builtin "bytes.find")=pure (.type "method_descriptor"):=by show builtinType _=_;rw[builtinType_eq_fast];kernel_rfl
theorem vA:entryFor table "bytes.find"=some Builtin.«bytes.find»:=entryFor_of_tree (by kernel_rfl)
theorem zh(a b c d:Value):argsOk "bytes.find" ⟨[a,b,c,d],[]⟩:=by unfold argsOk;kernel_rfl
theorem nO:Slot "bytes" "join" "bytes.join":=
 .of (owner:="bytes") (n:="join") (by rw[typeLookup_type,builtinLookup_eq_fast];kernel_rfl) (by decide+kernel) (by decide+kernel) (by decide+kernel)
  (by first|exact .inl (by decide+kernel)|exact .inr (by decide+kernel)) (by rw[isSubtype_type];kernel_rfl)
theorem xY:typeOf (.builtin "bytes.join")=pure (.type "method_descriptor"):=by show builtinType _=_;rw[builtinType_eq_fast];kernel_rfl
theorem vz:entryFor table "bytes.join"=some Builtin.«bytes.join»:=entryFor_of_tree (by kernel_rfl)
theorem zg(a b:Value):argsOk "bytes.join" ⟨[a,b],[]⟩:=by unfold argsOk;kernel_rfl
theorem kY:Slot "bytes" "strip" "bytes.strip":=
 .of (owner:="bytes") (n:="strip") (by rw[typeLookup_type,builtinLookup_eq_fast];kernel_rfl) (by decide+kernel) (by decide+kernel) (by decide+kernel)
  (by first|exact .inl (by decide+kernel)|exact .inr (by decide+kernel)) (by rw[isSubtype_type];kernel_rfl)
theorem uu:typeOf (.builtin "bytes.strip")=pure (.type "method_descriptor"):=by show builtinType _=_;rw[builtinType_eq_fast];kernel_rfl
theorem tC:entryFor table "bytes.strip"=some Builtin.«bytes.strip»:=entryFor_of_tree (by kernel_rfl)
theorem vL(a b:Value):argsOk "bytes.strip" ⟨[a,b],[]⟩:=by unfold argsOk;kernel_rfl
noncomputable def kT:Nat→String
 |1=>"str"|2=>"str"|3=>"str"|4=>"bytes"|5=>"bytes"|6=>"bytes"|7=>"list"|8=>"dict"|9=>"list"|10=>"list"|11=>"list"|_=>""
noncomputable def Ny:Nat→String
 |1=>"str.split"|2=>"str.lower"|3=>"str.join"|4=>"bytes.join"|5=>"bytes.find"|6=>"bytes.strip"|7=>"list.index"|8=>"dict.get"|9=>"list.append"|10=>"list.pop"|11=>"list.extend"|_=>""
noncomputable def SU:Nat→Õ
 |1=>"split"|2=>"lower"|3=>"join"|4=>"join"|5=>"find"|6=>"strip"|7=>"index"|8=>"get"|9=>"append"|10=>"pop"|11=>"extend"|_=>""
structure Pl(k:Nat):Prop where
 pa:PlainAttrs (kT k)
 slot:Slot (kT k) (SU k) (Ny k)
 ty:typeOf (.builtin (Ny k))=pure (.type "method_descriptor")
theorem Nn:∀k,1≤k→k≤11→Pl k
 |1,_,_=>⟨PySem.F.plainAttrs_str,PySem.F.slot_str_split,PySem.F.type_str_split⟩
 |2,_,_=>⟨PySem.F.plainAttrs_str,PySem.F.slot_str_lower,PySem.F.type_str_lower⟩
 |3,_,_=>⟨PySem.F.plainAttrs_str,PySem.F.slot_str_join,PySem.F.type_str_join⟩
 |4,_,_=>⟨FB.plainAttrs_bytes,nO,xY⟩
 |5,_,_=>⟨FB.plainAttrs_bytes,nP,xZ⟩
 |6,_,_=>⟨FB.plainAttrs_bytes,kY,uu⟩
 |7,_,_=>⟨PySem.F.plainAttrs_list,PySem.F.slot_list_index,PySem.F.type_list_index⟩
 |8,_,_=>⟨PySem.F.plainAttrs_dict,PySem.F.slot_dict_get,PySem.F.type_dict_get⟩
 |9,_,_=>⟨PySem.F.plainAttrs_list,PySem.F.slot_list_append,PySem.F.type_list_append⟩
 |10,_,_=>⟨PySem.F.plainAttrs_list,PySem.F.slot_list_pop,PySem.F.type_list_pop⟩
 |11,_,_=>⟨PySem.F.plainAttrs_list,PySem.F.slot_list_extend,PySem.F.type_list_extend⟩
 |0,h,_=>by exact absurd ‹_› (sL _)
 |n+12,_,h=>by exact absurd ‹_› (Ŧ (î _ _))
theorem pC{M:Model}{A:Around}{E:Value→Shared→Prop}{s:Shared}{x:Int}{v:Tok}{Q:Option Int→Shared→Prop}(h:Q (some x) s):wpAny M A (Builtin.Bytes.bound? (some (.int x v))) Q E s:=by
 show wpAny M A (specialOf (.int x v) "__index__">>=fun r=>_) Q E s;refine wpAny_bind (wpAny_specialOf (T:="int") (typeIs_int s x v) PySem.F.slot_int_index.lookup ?_);simp only[Option.isNone_some,Bh,if_false];exact wpAny_bind (wpAny_of_eq (a:=x) rfl (wpAny_pure h))
theorem uW(b c:Array UInt8)(t u v1 v2:Tok)(x y:Int):
  Meets (Builtin.«bytes.find» ⟨[.bytes b t,.bytes c u,.int x v1,.int y v2],[]⟩)
   (fun A R s=>∃r:Option Nat,((if(Builtin.Bytes.window b.size (some x) (some y)).2 - (Builtin.Bytes.window b.size (some x) (some y)).1<c.size then(none:Option (Nat×Nat))else some ((Builtin.Bytes.window b.size (some x) (some y)).1.toNat,(Builtin.Bytes.window b.size (some x) (some y)).2.toNat)).bind fun p=>Builtin.Bytes.find? b c p.1 p.2)=r∧
    ∀t' k,R (.ok (.ret (.int (match r with|some i=>(i:Int)|none=> -1) t'))) {s with toks:=k}):=
 .of_wp fun prog w A R s h=>by
  obtain⟨hp,g,d,tk,os⟩:=s;obtain⟨r,hr,h⟩:=h;show wpAny _ _ (Builtin.Bytes.searchArgs .bytes "find" ⟨[.bytes b t,.bytes c u,.int x v1,.int y v2],[]⟩>>=fun r=>_) _ _ _;refine wpAny_bind ?_;unfold Builtin.Bytes.searchArgs;refine wpAny_bind (wpAny_of_eq (a:=(Value.bytes b t,[Value.bytes c u,Value.int x v1,Value.int y v2])) rfl ?_);refine wpAny_bind (pC ?_);refine wpAny_bind (pC ?_);refine wpAny_bind (wpAny_of_eq (a:=some c) KBy.buffer_eq ?_);refine wpAny_bind (wpAny_pure ?_);refine wpAny_bind (wpAny_of_eq (a:=b) rfl ?_);refine wpAny_pure ?_;have S_:((if(Builtin.Bytes.window b.size (some x) (some y)).2 - (Builtin.Bytes.window b.size (some x) (some y)).1<c.size then(none:Option (Nat×Nat))else some ((Builtin.Bytes.window b.size (some x) (some y)).1.toNat,(Builtin.Bytes.window b.size (some x) (some y)).2.toNat)).bind fun (lo,hi)=>if false=true then Builtin.Bytes.rfind? b c lo hi else Builtin.Bytes.find? b c lo hi)=r:=by
   rw[←hr];rfl
  show wpAny _ _ (match((if(Builtin.Bytes.window b.size (some x) (some y)).2 - (Builtin.Bytes.window b.size (some x) (some y)).1<c.size then(none:Option (Nat×Nat))else some ((Builtin.Bytes.window b.size (some x) (some y)).1.toNat,(Builtin.Bytes.window b.size (some x) (some y)).2.toNat)).bind fun (lo,hi)=>if false=true then Builtin.Bytes.rfind? b c lo hi else Builtin.Bytes.find? b c lo hi)with|some i=>_|none=>_) _ _ _;rw[S_]
  induction r using ş with
  |some i=>
   refine wpAny_bind (wpAny_mkInt (wpAny_pure ⟨_,rfl,h _ _⟩))
  |none=>
   refine wpAny_bind (wpAny_rule (wpAny_bind (wpAny_mkInt (wpAny_pure ⟨_,rfl,h _ _⟩))))
theorem r9(b c:Array UInt8)(t u:Tok):
  Meets (Builtin.«bytes.strip» ⟨[.bytes b t,.bytes c u],[]⟩)
   (fun A R s=>b.size≤sizeLine∧∀t' k,R (.ok (.ret (.bytes (cC c.contains (cC c.contains b.toList).reverse).reverse.toArray t'))) {s with toks:=k}):=
 .of_wp fun prog w A R s h=>by
  obtain⟨hp,g,d,tk,os⟩:=s;obtain⟨hz,h⟩:=h;have hle:(cC c.contains (cC c.contains b.toList).reverse).reverse.length≤b.size:=by
   have h1:=(Bg c.contains (l:=(cC c.contains b.toList).reverse)).length_le;have h2:=(Bg c.contains (l:=b.toList)).length_le;simp only[oH,Array.length_toList]at h1 h2 ⊢;exact ă ‹_› ‹_›
  wp_walk using bS;simp only[if_true]
  split
  ·rename_i hc;wp_walk;refine⟨_,rfl,?_⟩;have e:(cC c.contains (cC c.contains b.toList).reverse).reverse.toArray=b:=by
    have h2:=Bg c.contains (l:=b.toList);have h1:=Bg c.contains (l:=(cC c.contains b.toList).reverse);have F_:(cC c.contains (cC c.contains b.toList).reverse).length=b.toList.length:=by
     have:=eq_of_beq hc
     rwa [oH,←Array.length_toList]at this
    have l1:(cC c.contains (cC c.contains b.toList).reverse).length≤(cC c.contains b.toList).length:=by
     have:=h1.length_le
     rwa [oH]at this
    have l2:=h2.length_le;have q2:cC c.contains b.toList=b.toList:=h2.eq_of_length (by exact cQ (ä [_,_] (.c Â È .z) Â È rfl l2) (ä [_,_,_] (.c Â ã (.c ã È .z)) Â È rfl (Ņ F_.symm) l1));have q1:=h1.eq_of_length (by rw[oH];exact cQ (ä [_,_] (.c Â È .z) Â È rfl l1) (ä [_,_,_] (.c ã È (.c Â ã .z)) Â È rfl (Ņ F_.symm) l2));rw[q1,List.reverse_reverse,q2,Array.toArray_toList]
   have:=h t tk;rw[e]at this;exact this
  ·wp_walk;refine wpAny_ite ?_;rw[if_neg (by rw[Ź];exact fun eG=>Nb [_,_,_] (.c Â È (.c ã Â (.c (.a È Á) ã .z))) rfl hz hle eG)];refine wpAny_bind (wpAny_fresh (wpAny_pure ?_));wp_walk;exact⟨_,rfl,h _ _⟩
theorem r_(b c:Array UInt8)(t u:Tok)(l:Addr)(n:Nat):
  Meets (Builtin.«bytes.join» ⟨[.bytes b t,.ref l],[]⟩)
   (fun A R s=>(s.heap.get? l=some {cls:=.type "list",data:=.seq #[.bytes c u] n})∧R (.ok (.ret (.bytes c u))) s):=
 .of_wp fun prog w A R s h=>by
  obtain⟨hp,g,d,tk,os⟩:=s;obtain⟨h,hr⟩:=h;wp_walk using bS,wpAny_loadPart' h;exact⟨_,rfl,hr⟩
section
variable{g:Gh}{s:Shared}{H:List Cell}{d k:Nat}{vs:List V}{xs:List Value}{v o:V}{u:Value}{Q:Value→Shared→Prop}{E:Value→Shared→Prop}
inductive mB(Z:Ě):Prop
 |mk (o:Obj) (e:DictEntry) (r:List DictEntry) (n:Nat) (m:Addr) (om:Obj) (h1:Z.sh.heap.get? sysModules=some o) (h2:o.data=.dict (e::r).toArray n) (h3:e.val=.ref m) (h4:Z.sh.heap.get? m=some om) (h5:m≠Z.tab) (h6:sysModules≠Z.tab) (h7:om.cls=.type "module") (h8:∀fd,om.data≠.func fd)
theorem EX{Y:Sta}{k:FH}{m:Addr}(h:Rep Y k v (.ref m)):∃o,k m=some o∧(o.cls≠.type "module"∨∃fd,o.data=.func fd):=by
 induction v using V.casesOn with
 |none=>exact neT PySem.Value.ctorIdx h rfl
 |bool=>exact neT PySem.Value.ctorIdx h rfl
 |int=>obtain⟨t,h⟩:=h;exact neT PySem.Value.ctorIdx h rfl
 |str=>obtain⟨t,h⟩:=h;exact neT PySem.Value.ctorIdx h rfl
 |bytes=>obtain⟨b,t,h,_⟩:=h;exact neT PySem.Value.ctorIdx h rfl
 |tup=>obtain⟨a,o,vs,ea,k,⟨n,rfl⟩,_⟩:=h;(injection ea with ea;subst ea);exact⟨_,k,.inl (by simp)⟩
 |lst=>obtain⟨a,o,vs,ea,k,⟨n,rfl⟩,_⟩:=h;(injection ea with ea;subst ea);exact⟨_,k,.inl (by simp)⟩
 |aX=>obtain⟨a,o,vs,ea,k,⟨n,rfl⟩,_⟩:=h;(injection ea with ea;subst ea);exact⟨_,k,.inl (by simp)⟩
 |ins=>obtain⟨a,o,dx,od,es,ea,k,hI,_⟩:=h;(injection ea with ea;subst ea);exact⟨_,k,.inl (by rw[hI.1];simp)⟩
 |Ó=>exact h.elim
 |g9=>obtain⟨a,o,fd,c,c₁,c₂,oc,Ň,aF,cN,cM,ea,k,Wm,_⟩:=h;(injection ea with ea;subst ea);exact⟨_,k,.inr ⟨_,Wm⟩⟩
theorem mB.ne(hs:mB Z)(B:Base Z g s H){l:List (List Nat×V)}{a:Addr}(h:Rep Z.toSta g.k (.aX l) (.ref a)):(a==sysModules)=false:=by
 rw[beq_eq_false_iff_ne];intro ea';obtain⟨o,e,r,n,m,om,h1,h2,h3,h4,h5,h6,h7,h8⟩:=hs;obtain⟨a',o',es,ea,k,⟨n',rfl⟩,nd,rd⟩:=h;have ea:=Value.ref.inj ea;have k1:g.k sysModules=some o:=Gh.Ř (B.top _ _ h1 h6);rw[←ea,ea',k1]at k;rw[ì k]at h2;have ZY:es=e::r:=by
  injection h2 with h2 _
  simpa using congrArg Array.toList h2
 subst ZY
 induction l using Ū with
 |nil=>exact nC rd
 |cons p l=>
  obtain⟨t,v,r',he,hv,_⟩:=rd;injection he with he _
  rw[he]at h3;have h3:v=.ref m:=h3;subst h3;obtain⟨aF,k2,q⟩:=EX hv;rw[show g.k m=some om from Gh.Ř (B.top _ _ h4 h5)]at k2;obtain rfl:=ì k2;exact q.elim (fun q=>q h7) fun ⟨fd,q⟩=>h8 fd q
theorem EH{k:FH}{Y:Sta}{l:List V}:∀{x:List (List Nat)} {xs:List Value},uA l=some x→ß Y k l xs→∃tl:List (Õ×Tok),xs=strValues tl∧tl.map (·.1)=x.map fun y=>(⟨⟨y⟩⟩:Õ):=by
 induction l with
 |nil=>exact fun {x xs} h r=>⟨[],r,(ì h)▸rfl⟩
 |cons v t ih=>
  intro x xs h r;obtain⟨z,r',e,hz,hr⟩:=r;refine ï h fun y h1 h=>?_;refine cJ h fun x' h2 h3=>?_;obtain⟨tk,e'⟩:=uJ h1 hz;obtain⟨tl,e1,e2⟩:=ih h2 hr;exact⟨(⟨⟨y⟩⟩,tk)::tl,by rw[e,e',e1];rfl,by rw[←h3,Ō,Ō,e2]⟩
theorem vm(l:List (List Nat)):Txt.join ⟨⟨[]⟩⟩ (l.map fun y=>(⟨⟨y⟩⟩:Õ))=⟨⟨l.flatten⟩⟩:=by
 have e:Txt.join ⟨⟨[]⟩⟩ (l.map fun y=>(⟨⟨y⟩⟩:Õ))=PySem.Str.join ⟨#[]⟩ (l.map fun y=>(⟨⟨y⟩⟩:Õ)):=eq_of_beq (PyProof.Rows.join_closes rfl);rw[e]
 induction l with
 |nil=>rfl
 |cons x r ih=>
  rw[Ō,PyProof.Rows.join_nil_cons,ih ?_,List.flatten_cons,wg];exact eq_of_beq (PyProof.Rows.join_closes rfl)
theorem JR{b:Array UInt8}{y:UInt8}{a:Nat}(h:a<b.size):(b.extract (0+a) (0+a+1)== #[y])=Þ b[a].toNat y.toNat:=by
 have e2:b.extract (0+a) (0+a+1)= #[b[a]]:=by
  apply Array.ext';rw[Array.toList_extract];simp[Hw (show a<b.toList.length by simpa using h)]
 rw[e2,oS];constructor
 ·intro h;have h: #[b[a]]= #[y]:=eq_of_beq h;have:b[a]=y:=by simpa using h
  rw[this];exact jN _
 ·intro h;have:b[a]=y:=UInt8.toNat_inj.mp (Ģ h);rw[this];simp
theorem tw{b:Array UInt8}{y:UInt8}(n:Nat):∀(a:Nat),a+n≤b.size→(((bP n).map (· +a)).find? fun i=>b.extract i (i+1)== #[y])=iz y.toNat (((b.toList.map (·.toNat)).drop a).take n) a:=by
 induction n with
 |zero=>exact fun a À=>rfl
 |succ n ih=>
  intro a h;have BL:a<b.size:=by exact Ń (ź _ _) ‹_›
  have e:(b.toList.map (·.toNat)).drop a=b[a].toNat::(b.toList.map (·.toNat)).drop (a+1):=by
   rw[Hw (by simpa using BL)];simp
  rw[e,List.take_succ_cons,List.range_succ_eq_map,Ō,List.find?_cons,JR BL];show _=if Þ b[a].toNat y.toNat then _ else _
  induction q:Þ b[a].toNat y.toNat using ñ with
  |true=>exact congrArg some (ki a)
  |false=>
   refine Eq.trans (congrArg (List.find? _) ?_) (ih (a+1) (by exact ä [_,_,_] (.c (.a Â (.a È Á)) ã .z) (.a (.a Â Á) È) ã rfl h));rw[List.map_map];exact List.map_congr_left fun i À=>by show i+1+a=i+(a+1);exact wY _ _
theorem mm{c:Array UInt8}{s:List Nat}(hc:c.toList.map (·.toNat)=s)(l:List UInt8):(l.dropWhile c.contains).map (·.toNat)=iA s (l.map (·.toNat)):=by
 induction l with
 |nil=>rfl
 |cons x r ih=>
  have e:s.any (Þ x.toNat)=c.contains x:=by
   rw[←iC hc x.toNat x.toNat_lt];congr 1;simp
  rw[List.dropWhile_cons,Ō];show _=if s.any (Þ x.toNat)then iA s (r.map (·.toNat))else x.toNat::r.map (·.toNat)
  rw[e]
  induction c.contains x using ñ with
  |true=>exact ih
  |false=>rfl
theorem Fw(c:Nat):dP c=lo1 c:=by
 unfold dP lo1
 by_cases h:65≤c∧c≤90
 ·rw[if_pos h,if_pos (by rw[w5 h.1,w5 h.2];rfl)]
 ·rw[if_neg h,if_neg];intro h';exact h ⟨jc (oa h').1,jc (oa h').2⟩
structure Pq(Y:Sta)(k:FH)(x:V)(xs:List Value)(j:Nat):Prop where
 lt:j<xs.length
 is:∀y,xs[j]? =some y→vy Y k x y=true
 no:∀i y,i<j→xs[i]? =some y→vy Y k x y=false
theorem BF{Y:Sta}{k:FH}{x:V}{l:List V}:∀{xs:List Value} {m n:Nat},ß Y k l xs→idxOf x l m=some n→∃j,n=m+j∧Pq Y k x xs j:=by
 induction l with
 |nil=>exact(fun À q=>nS q)
 |cons v t ih=>
  intro xs m n r h;obtain⟨y,r',rfl,h1,h2⟩:=r;refine ï h fun p q h=>?_
  induction p using ñ with
  |true=>
   refine ï h fun À À h=>?_;exact⟨0,(ì h).symm,Ĭ _,fun z hz=>ì hz▸kN h1 q,fun i À hi=>absurd hi (Nat.not_lt_zero i)⟩
  |false=>
   obtain⟨j,e,a,b,c⟩:=ih h2 h;refine⟨j+1,by exact cQ (ä [_,_,_] (.c Â (.a (.a È Á) ã) .z) Â (.a È (.a ã Á)) rfl (Ņ e)) (ä [_,_,_] (.c (.a (.a Â Á) È) ã .z) (.a Â (.a È Á)) ã rfl (Ņ e.symm)),Nat.succ_lt_succ a,b,fun i z hi hz=>?_⟩
   induction i using mM with
   |zero=>exact ì hz▸kN h1 q
   |succ i=>exact c i z (Bj hi) hz
theorem yN{x:V}{l:List V}:∀{m n:Nat},idxOf x l m=some n→∃r,e_ x l=some r:=by
 induction l with
 |nil=>exact(fun q=>nS q)
 |cons v t ih=>
  intro m n h;refine ï h fun p q h=>?_;have e:∀{r},e_ x t=some r→∃r,e_ x (v::t)=some r:=fun {r} h=>⟨_,by show(gN v x).bind (fun p=>(e_ x t).bind _)=_;rw[q,h];rfl⟩
  induction p using ñ with
  |true=>refine ï h fun r h2 À=>?_;exact e h2
  |false=>obtain⟨r,h2⟩:=ih h;exact e h2
theorem nH:Builtin.Str.partsBetween ⟨⟨ux⟩⟩ (Builtin.Str.occurrences ⟨⟨ux⟩⟩ ⟨⟨[32]⟩⟩ 0 (PySem.Str.length ⟨⟨ux⟩⟩) (PySem.Str.length ⟨⟨ux⟩⟩+1)) (PySem.Str.length ⟨⟨[32]⟩⟩)=
  [⟨⟨[92,83,101,101,110]⟩⟩,⟨⟨[92,65,110,115,119,101,114,101,100]⟩⟩,⟨⟨[92,70,108,97,103,103,101,100]⟩⟩,⟨⟨[92,68,101,108,101,116,101,100]⟩⟩,⟨⟨[92,68,114,97,102,116]⟩⟩]:=by decide+kernel
theorem ye:eg ux []=[.str [92,83,101,101,110],.str [92,65,110,115,119,101,114,101,100],.str [92,70,108,97,103,103,101,100],.str [92,68,101,108,101,116,101,100],.str [92,68,114,97,102,116]]:=by kernel_rfl
theorem SK(B:Base Z g s H)(ho:Rep Z.toSta g.k o u)(r:ß Z.toSta g.k vs xs)(h:oi 1 o vs=some v)(hq:đ Z g s H v Q):õ prog w A (call (.builtin "str.split") (u::xs)) Q E s:=by
 refine ï h fun l h1 h=>?_;refine ï h fun a h2 h=>?_;refine ï h fun b h3 h=>?_
 (have h4:=cy h;have h:=cn h)
 obtain⟨x,rfl,hx⟩:=rep1 h2 r;obtain⟨t,rfl⟩:=uJ h1 ho;obtain⟨t',rfl⟩:=uJ h3 hx;have e1:=ý (oa h4).1;have e2:=ý (oa h4).2;have e3:=ì h;subst e1 e2 e3;refine call_meets PySem.F.slot_str_split (typeIs_str _ _ _) PySem.F.entry_str_split (PySem.F.args_str_split_2 _ _) (meets_str_split_sep ⟨⟨ux⟩⟩ ⟨⟨[32]⟩⟩ t t' (by decide+kernel) (by decide+kernel) (by decide+kernel) (by decide+kernel) (by rw[nH];decide+kernel)) ?_;rw[nH];rw[ye]at hq;refine B.fH (n:=0) (t:=s.toks+5) (Q:=Q) ?_ hq;exact⟨_,_,rfl,⟨_,rfl⟩,_,_,rfl,⟨_,rfl⟩,_,_,rfl,⟨_,rfl⟩,_,_,rfl,⟨_,rfl⟩,_,_,rfl,⟨_,rfl⟩,rfl⟩
theorem Bc{l:List Nat}(h:ascii l=true):Txt.lower ⟨⟨l⟩⟩=⟨⟨l.map dP⟩⟩:=by
 have hA:∀c∈l,c<128:=fun c hc=>bQ.mp (gG.mp h c hc)
 rw[lower_ascii (x:=⟨⟨l⟩⟩) (by simpa using hA)]
 congr 1
 apply Array.ext';simp only[Array.toList_map];exact List.map_congr_left fun c À=>(Fw c).symm
theorem SJ(B:Base Z g s H)(ho:Rep Z.toSta g.k o u)(r:ß Z.toSta g.k vs xs)(h:oi 2 o vs=some v)(hq:đ Z g s H v Q):õ prog w A (call (.builtin "str.lower") (u::xs)) Q E s:=by
 refine ï h fun l h1 h=>?_
 (have h4:=cy h;have h:=cn h)
 (have h6:=aC h4;have h5:=aB h4)
 obtain⟨t,rfl⟩:=uJ h1 ho;have e3:=ì h;have e4:vs=[]:=emp h5;subst e3 e4;have e5:xs=[]:=r;subst e5;refine PySem.SC.lower (fit_lower (ă (aV (ĥ (oa h6).2)) (by decide))) ?_;rw[Bc (oa h6).1];exact hq.kG B (fun À q=>neT V.ctorIdx q rfl) _ ⟨_,rfl⟩
theorem SI(B:Base Z g s H)(ho:Rep Z.toSta g.k o u)(r:ß Z.toSta g.k vs xs)(h:oi 3 o vs=some v)(hq:đ Z g s H v Q):õ prog w A (call (.builtin "str.join") (u::xs)) Q E s:=by
 refine ï h fun l h1 h=>?_;refine ï h fun a h2 h=>?_;refine ï h fun m h3 h=>?_;refine ï h fun x h4 h=>?_
 (have h5:=cy h;have h:=cn h)
 (have h7:=aC h5;have h6:=aB h5)
 obtain⟨y,rfl,hy⟩:=rep1 h2 r;obtain⟨t,rfl⟩:=uJ h1 ho;have e1:=emp h6;have e2:=ì h;have e3:=iL h3;subst e1 e2 e3;obtain⟨c,oo,ws,rfl,k,q,rl⟩:=hy;obtain⟨tl,rfl,e2⟩:=EH h4 rl;have z2:=ĥ (oa h7).2;refine SC.join (Base.isList (B.sub k) q) e2 (joinOk_of ?_) fun t' k=>?_
 ·have e3:((x.map fun y=>(⟨⟨y⟩⟩:Õ)).map (·.length)).sum=x.flatten.length:=by
   rw[List.length_flatten,List.map_map]
   congr 1
  rw[e3];show _+_*0≤_;exact aV (ik ‹_› (by decide))
 ·rw[vm];exact hq.kG B (fun À q=>neT V.ctorIdx q rfl) k ⟨t',rfl⟩
theorem SH(B:Base Z g s H)(ho:Rep Z.toSta g.k o u)(r:ß Z.toSta g.k vs xs)(h:oi 4 o vs=some v)(hq:đ Z g s H v Q):õ prog w A (call (.builtin "bytes.join") (u::xs)) Q E s:=by
 refine ï h fun l h1 h=>?_;refine ï h fun a h2 h=>?_;refine ï h fun m h3 h=>?_;refine ï h fun x h4 h=>?_;refine ï h fun c h5 h=>?_;have h:=cn h;obtain⟨y,rfl,hy⟩:=rep1 h2 r;have e1:=iB h1;have e2:=ì h;have e3:=iL h3;have e4:=iB h5;subst e1 e2 e3 e4;obtain⟨bb,t,rfl,hb⟩:=ho;obtain⟨ad,oo,ws,rfl,k,⟨n,rfl⟩,rl⟩:=hy;obtain⟨z,rfl,cc,u,rfl,LW⟩:=rep1 h4 rl;exact call_meets nO (typeIs_bytes _ _ _) vz (zg _ _) (r_ bb cc t u ad n) ⟨B.sub k,hq.kG B (fun À q=>neT V.ctorIdx q rfl) s.toks ⟨cc,u,rfl,LW⟩⟩
theorem find_eq{bb:Array UInt8}{c0:UInt8}{l:List Nat}{a b:Int}(hb:bb.toList.map (·.toNat)=l)(h2:0≤a)(h3:a≤b)(h4:b≤l.length):
  ((if(Builtin.Bytes.window bb.size (some a) (some b)).2 - (Builtin.Bytes.window bb.size (some a) (some b)).1<(#[c0]:Array UInt8).size then(none:Option (Nat×Nat))else some ((Builtin.Bytes.window bb.size (some a) (some b)).1.toNat,(Builtin.Bytes.window bb.size (some a) (some b)).2.toNat)).bind fun p=>Builtin.Bytes.find? bb #[c0] p.1 p.2)=iz c0.toNat (part l a.toNat b.toNat) a.toNat:=by
 have hlen:bb.size=l.length:=by rw[←hb,Ė,Array.length_toList]
 have ew:Builtin.Bytes.window bb.size (some a) (some b)=(a,b):=by
  unfold Builtin.Bytes.window;have e1:¬a<0:=by exact bO.mpr ‹_›
  have e2:¬b<0:=by exact fun eG=>sk [_,_] (.c Ē Â (.c Â È (.c (.a È Á) Ē .z))) rfl h2 h3 eG
  simp only[Option.getD_some,e1,e2,if_false];exact congrArg (Prod.mk a) (Int.min_eq_right (hlen.symm▸h4))
 rw[ew];show(if b - a<((1:Nat):Int)then none else some (a.toNat,b.toNat)).bind _=_;unfold part
 by_cases Gb:b - a<((1:Nat):Int)
 ·rw[if_pos Gb,show b.toNat - a.toNat=0 from Nat.sub_eq_zero_of_le (Int.toNat_le_toNat (Int.le_of_sub_nonpos (Int.lt_add_one_iff.mp Gb))),List.take_zero];rfl
 ·rw[if_neg Gb];show Builtin.Bytes.find? bb #[c0] a.toNat b.toNat=_;unfold Builtin.Bytes.find?;have e3:b.toNat+1 - (a.toNat+ #[c0].size)=b.toNat - a.toNat:=Nat.add_sub_add_right ..;rw[e3,←hb];exact tw _ _ (ă (Ņ (Nat.add_sub_cancel' (Int.toNat_le_toNat h3))) (Int.toNat_le.mpr (hlen.symm▸h4)))
theorem AO{cc:Array UInt8}{x:Nat}(h:cc.toList.map (·.toNat)=[x]):∃y:UInt8,cc= #[y]∧y.toNat=x:=by
 obtain⟨c⟩:=cc
 induction c using Ū with
 |nil=>cases h
 |cons y r=>induction r using Ū with
  |nil=>exact⟨y,rfl,(List.cons.inj h).1⟩
  |cons z r=>cases h
theorem SG(B:Base Z g s H)(ho:Rep Z.toSta g.k o u)(r:ß Z.toSta g.k vs xs)(h:oi 5 o vs=some v)(hq:đ Z g s H v Q):õ prog w A (call (.builtin "bytes.find") (u::xs)) Q E s:=by
 refine ï h fun l h1 h=>?_;refine ï h fun p h2 h=>?_;refine ï h fun c h3 h=>?_;refine ï h fun x h4 h=>?_;obtain⟨⟨a,b⟩,h5,h⟩:=ob h
 (have hc:=cy h;have h:=cn h)
 (have g4:=aB hc;have hc:=aC hc)
 (have g3:=aB hc;have hc:=aC hc)
 refine ï h5 fun i h6 h5=>?_;refine ï h5 fun j h7 h5=>?_;have e1:=iB h1;have e2:=ì h;have e3:=ì h5;rw[i3 h2]at r;obtain⟨y,_,rfl,hy,z,_,rfl,hz,z',t,rfl,ZC,e⟩:=r;have e:t=[]:=e;subst e1 e2 e;rw[iB h3,i1 h4]at hy;obtain⟨bb,t,rfl,hb⟩:=ho;obtain⟨cc,u,rfl,LW⟩:=hy;obtain⟨t1,rfl⟩:=rint h6 hz;obtain⟨t2,rfl⟩:=rint h7 ZC;cases e3;obtain⟨c0,rfl,rfl⟩:=AO LW;have g2:=gS (oa hc).2;have g3:=gS g3;have g4:=gS g4;refine call_meets nP (typeIs_bytes _ _ _) vA (zh _ _ _ _) (uW bb #[c0] t u t1 t2 a b) ⟨_,find_eq hb g2 g3 g4,fun t' k=>?_⟩;exact hq.kG B (fun À q=>neT V.ctorIdx q rfl) k ⟨t',rfl⟩
theorem SD(B:Base Z g s H)(ho:Rep Z.toSta g.k o u)(r:ß Z.toSta g.k vs xs)(h:oi 6 o vs=some v)(hq:đ Z g s H v Q):õ prog w A (call (.builtin "bytes.strip") (u::xs)) Q E s:=by
 refine ï h fun l h1 h=>?_;refine ï h fun a h2 h=>?_;refine ï h fun c h3 h=>?_
 (have hz:=cy h;have h:=cn h)
 obtain⟨y,rfl,hy⟩:=rep1 h2 r;have e1:=iB h1;have e2:=ì h;have e3:=iB h3;subst e1 e2 e3;obtain⟨bb,t,rfl,hb⟩:=ho;obtain⟨cc,u,rfl,LW⟩:=hy;have hlen:bb.size=l.length:=by rw[←hb,Ė,Array.length_toList]
 refine call_meets kY (typeIs_bytes _ _ _) tC (vL _ _) (r9 bb cc t u) ⟨hlen▸ŕ hz,fun t' k=>hq.kG B (fun À q=>neT V.ctorIdx q rfl) k ⟨_,t',rfl,?_⟩⟩;show((cC cc.contains (cC cc.contains bb.toList).reverse).reverse).map _=_;rw[List.map_reverse,mm LW,List.map_reverse,mm LW,hb]
theorem SA(hr:œ d A g)(B:Base Z g s H)(ho:Rep Z.toSta g.k o u)(r:ß Z.toSta g.k vs xs)(h:oi 7 o vs=some v)(hq:đ Z g s H v Q):õ prog w A (call (.builtin "list.index") (u::xs)) Q E s:=by
 refine ï h fun l h1 h=>?_;refine ï h fun a h2 h=>?_;refine ï h fun x h3 h=>?_
 (have hz:=cy h;have h:=cn h)
 (refine cJ h fun n h4 zq=>?_;obtain rfl:=zq)
 obtain⟨y,rfl,hy⟩:=rep1 h2 r;have e1:=iL h1;have e2:=iS h3;subst e1 e2;obtain⟨ad,oo,ws,rfl,k,⟨m,rfl⟩,rl⟩:=ho;have hx:=hy;obtain⟨t,rfl⟩:=hy;obtain⟨rr,Tu⟩:=yN h4;obtain⟨j,e,p2,p3,p4⟩:=BF rl h4;obtain rfl:n=j:=e.trans (ki j);have o_:ws.toArray.size=l.length:=Ź.trans rl.len;have hO:=B.sub k;refine call_meets PySem.F.slot_list_index ⟨_,hO,rfl⟩ PySem.F.entry_list_index (PySem.F.args_list_index_2 _ _)
  (PySem.SeqAt.list_indexAt ad ws.toArray m none #[] (.str ⟨⟨x⟩⟩ t) (vy Z.toSta g.k (.str x)) n (by simpa using p2) (by have:=ĥ hz;have:=rl.len;omega) ?_ ?_) ⟨hO,(Bz B (A:=A) (by have:=hr.units;exact ä [_,_,_] (.c (.a (.a (.a Â (.m 20 ã)) bL) Á) È .z) (.a (.a Â ť) Á) È rfl this) rl hx Tu).1,hq.kG B (fun À q=>neT V.ctorIdx q rfl) _ ⟨_,rfl⟩⟩
 ·exact p3 _ (by simp)
 ·exact fun j hj BL=>p4 j _ BL (by simp)
theorem Sz(hh:Z.hash=hashStr w)(sV:mB Z)(B:Base Z g s H)(ho:Rep Z.toSta g.k o u)(r:ß Z.toSta g.k vs xs)(h:oi 8 o vs=some v)(hq:đ Z g s H v Q):õ prog w A (call (.builtin "dict.get") (u::xs)) Q E s:=by
 induction o using V.casesOn with
 |aX l=>
  refine ï h fun p h1 h=>?_;refine ï h fun x h2 h=>?_;obtain⟨y,z,rfl,hy,hz⟩:=rep2 h1 r;obtain⟨t,rfl⟩:=uJ h2 hy;have s6:=ho;obtain⟨a,oo,es,rfl,k,q1,nd,rd⟩:=ho;obtain⟨fN,kv,K7⟩:=eK (prog:=prog) hh (B.sub k) q1 nd rd;have nl:(look x l).getD p.2=v∧∀m,v≠.lst m:=by
   revert h;generalize (look x l).getD p.2=c
   induction c using V.casesOn<;>intro h<;>first|(cases h;done)|exact⟨ì h,by rw[←ì h];exact(fun À q=>neT V.ctorIdx q rfl)⟩
  refine call_meetsIn PySem.F.slot_dict_get K7.typeIs PySem.F.entry_dict_get (PySem.F.args_dict_get_3 _ _ _) (meets_dict_get_default (strKind prog w) a (nK prog w x t) (sV.ne B s6) z) ⟨_,K7.mapOf,?_⟩
  induction hl:look x l using ş with
  |some e=>
   obtain⟨v',e1,e2⟩:=kv.look.1 e hl;rw[e1];exact hq.kG B nl.2 _ (show Rep Z.toSta g.k v v' from(by have:=nl.1;rw[hl]at this;exact this▸e2)).iM
  |none=>
   rw[kv.look.2 hl];exact hq.kG B nl.2 _ (show Rep Z.toSta g.k v z from(by have:=nl.1;rw[hl]at this;exact this▸hz)).iM
 |_=>exact nS h
theorem JZ(hh:Z.hash=hashStr w)(sV:mB Z)(hr:œ d A g)(B:Base Z g s H)(ho:Rep Z.toSta g.k o u)(r:ß Z.toSta g.k vs xs)(h:oi k o vs=some v)(hq:đ Z g s H v Q):õ prog w A (call (.builtin (Ny k)) (u::xs)) Q E s:=by
 revert h
 match k with
 |0=>exact(fun q=>nS q)
 |1=>exact fun h=>SK B ho r h hq
 |2=>exact fun h=>SJ B ho r h hq
 |3=>exact fun h=>SI B ho r h hq
 |4=>exact fun h=>SH B ho r h hq
 |5=>exact fun h=>SG B ho r h hq
 |6=>exact fun h=>SD B ho r h hq
 |7=>exact fun h=>SA hr B ho r h hq
 |8=>exact fun h=>Sz hh sV B ho r h hq
 |n+9=>exact(fun q=>nS q)
end
end
section
variable{S:St}{H H₁ Ö ų ub:List Cell}{ρ κ á ë:List (Option V)}{d n k m:Nat}{e:PE}{as:List PE}{vs vs':List V}{v v' x x':V}{u:Value}{Q:Value→Shared→Prop}{E:Value→Shared→Prop}
noncomputable def Sr:List Õ:=["split","lower","join","find","strip","index","get","append","pop","extend"]
structure vV(Z:Ě):Prop where
 all:∀a x,a<10→é Z.Ŷ a=some x→é Sr a=some x
noncomputable def Mi:Nat→String
 |1=>"str"|2=>"bytes"|3=>"list"|4=>"dict"|_=>""
structure Pk(p:Nat×Nat×Nat):Prop where
 a:p.1<10
 n:é Sr p.1=some (SU p.2.2)
 t:kT p.2.2=Mi p.2.1
 k1:1≤p.2.2
 k2:p.2.2≤11
 t0:p.2.1≠0
theorem Kn:∀p∈V4,Pk p:=by
 refine gF.mpr ⟨⟨by decide,rfl,rfl,by decide,by decide,by decide⟩,?_⟩;refine gF.mpr ⟨⟨by decide,rfl,rfl,by decide,by decide,by decide⟩,?_⟩;refine gF.mpr ⟨⟨by decide,rfl,rfl,by decide,by decide,by decide⟩,?_⟩;refine gF.mpr ⟨⟨by decide,rfl,rfl,by decide,by decide,by decide⟩,?_⟩;refine gF.mpr ⟨⟨by decide,rfl,rfl,by decide,by decide,by decide⟩,?_⟩;refine gF.mpr ⟨⟨by decide,rfl,rfl,by decide,by decide,by decide⟩,?_⟩;refine gF.mpr ⟨⟨by decide,rfl,rfl,by decide,by decide,by decide⟩,?_⟩;refine gF.mpr ⟨⟨by decide,rfl,rfl,by decide,by decide,by decide⟩,?_⟩;refine gF.mpr ⟨⟨by decide,rfl,rfl,by decide,by decide,by decide⟩,?_⟩;refine gF.mpr ⟨⟨by decide,rfl,rfl,by decide,by decide,by decide⟩,?_⟩;exact gF.mpr ⟨⟨by decide,rfl,rfl,by decide,by decide,by decide⟩,fun À m=>absurd m jL⟩
theorem FO{a t:Nat}{L:List (Nat×Nat×Nat)}(h0:LN a t L≠0):(a,t,LN a t L)∈L:=by
 induction L with
 |nil=>exact absurd rfl h0
 |cons p r ih=>
  have e:LN a t (p::r)=if Þ p.1 a&&Þ p.2.1 t then p.2.2 else LN a t r:=rfl
  induction q:(Þ p.1 a&&Þ p.2.1 t)using ñ with
  |true=>
   rw[q,if_pos rfl]at e;rw[e,←Ģ (oa q).1,←Ģ (oa q).2];exact .head _
  |false=>
   rw[q,if_neg jH]at e;rw[e]at h0 ⊢;exact .tail _ (ih h0)
theorem Nt{a:Nat}{o:Option V}(h:kd a o=k)(h0:k≠0):∃v,o=some v∧Pk (a,wd v,k):=by
 induction o using ş with
 |none=>exact absurd h.symm h0
 |some v=>exact⟨v,rfl,h▸Kn _ (FO (h.symm▸h0:kd a (some v)≠0))⟩
structure O_(s:Shared)(u:Value)(T:String):Prop where
 t:s.TypeIs u T
 d:∀b,u=.ref b→∃o,s.heap.get? b=some o∧o.dict=none
theorem zS{h:FH}(hv:ś Z.toSta s.heap h v u)(h0:wd v≠0):O_ s u (Mi (wd v)):=by
 induction v using V.casesOn with
 |str l=>obtain⟨t,rfl⟩:=hv;exact⟨typeIs_str _ _ _,(fun À q=>neT PySem.Value.ctorIdx q rfl)⟩
 |bytes l=>obtain⟨b,t,rfl,_⟩:=hv;exact⟨typeIs_bytes _ _ _,(fun À q=>neT PySem.Value.ctorIdx q rfl)⟩
 |lst l=>obtain⟨a,o,vs,rfl,ho,⟨n,rfl⟩,_⟩:=hv;exact⟨⟨_,ho,rfl⟩,fun b e=>⟨_,Value.ref.inj e▸ho,rfl⟩⟩
 |aX l=>obtain⟨a,o,vs,rfl,ho,⟨n,rfl⟩,_⟩:=hv;exact⟨⟨_,ho,rfl⟩,fun b e=>⟨_,Value.ref.inj e▸ho,rfl⟩⟩
 |_=>exact absurd rfl h0
theorem lI{o:Expr}{ys:List Expr}{a:Õ}{apos pos:Pos}(h1:1≤k)(h2:k≤11)(eY:SU k=a)(hT:O_ s u (kT k))(hp:plain ys=true)(sY:(apos.endLine==pos.line)=true)(hn:ys.length<20)
  (h:õ prog w A (spliced (backTo pos (starEach ys env))) (fun xs ĉ=>õ prog w A (call (.builtin (Ny k)) (u::xs)) Q E ĉ) E s):õ prog w A (methodCall o a apos pos env u (ys.length+0) (backTo pos (starEach ys env)) []) Q E s:=
 have F:=Nn k h1 h2
 method_call hp sY hn (fun Q hQ pl=>getMethod_builtin hT.t F.pa (eY▸F.slot) F.ty hT.d hQ) fun À=>Calls.callWith_builtin (plain_any hp) (ı (plain_any hp) h)
theorem kC(eY:vV Z)(h1:Ű prog w Z d e S ⟨H,ρ,κ⟩ v)(h3:kd n (view H v)=k)(h0:k≠0)(h4:ĺ prog w Z d as ⟨H,ρ,κ⟩ ⟨H₁,á,ë⟩ vs){X:Expr}(hx:er cx X=.me e n as)(C:Ok Z d cx A env g s S)
  (hq:∀g' s' u xs,Gst g g'→Ok Z d cx A env g' s' ⟨H₁,á,ë⟩→ć Z g' v u→Ł Z g' vs xs→õ prog w A (call (.builtin (Ny k)) (u::xs)) Q E s'):õ prog w A (eval X env) Q E s:=by
 obtain⟨y,a,ap,ys,p,rfl,hp,BJ,sY,hlen,vt,e1,e2⟩:=iv hx;rw[arm_eval_Call,eM BJ];refine wpAny_bind (h1 _ _ _ _ _ _ _ _ e1 C fun Ü ò ŵ Ñ Ï ô=>wpAny_bind (wpAny_standAt ?_));have hn:é Z.Ŷ n=some a:=C.e.Ŷ▸dc vt;obtain⟨v',PR,F⟩:=Nt h3 h0;have T:=zS (Ï.view ô PR) F.t0;rw[←show kT k=_ from F.t]at T;refine lI F.k1 F.k2 (ì (F.n.symm.trans (eY.all _ _ F.a hn))) T hp sY hlen ?_;exact h4 _ _ _ _ _ _ _ _ _ e2 hp Ï fun ó Ļ xs ù è ů=>hq _ _ _ _ (Ñ.trans ù) è (ô.mono ù) ů
theorem QS(eY:vV Z)(hh:Z.hash=hashStr w)(sV:mB Z)(h1:Ű prog w Z d e S ⟨H,ρ,κ⟩ v)(h3:kd n (view H v)=k)(hk:PN k=true)(h4:ĺ prog w Z d as ⟨H,ρ,κ⟩ ⟨H₁,á,ë⟩ vs)(h5:Ô H₁ v=some (Ö,v'))(h6:ē Ö vs=some (ų,vs'))(h7:oi k v' vs'=some x)(h8:made ų x=(ub,x')):
  Ű prog w Z d (.me e n as) S ⟨ub,á,ë⟩ x':=by
 intro cx X env A g s Q E hx C hq;refine kC eY h1 h3 (fun e=>by rw[e]at hk;exact â hk) h4 hx C fun ó Ļ u xs G è ô ů=>?_;refine è.base.bE h5 ô fun İ ĩ Ŝ fX=>Base.eH Ŝ h6 (ů.mono ĩ.toGst) fun BZ eN nu vT=>?_;exact JZ hh sV (è.r.mono (ĩ.trans eN).toGst) nu (fX.mono eN.k) vT h7 fun qz Md z tU LC mI jr=>by
  rw[h8]at mI jr;exact hq _ _ _ (G.trans ((ĩ.trans eN).trans tU).toGst) ((è.next (ĩ.trans eN) (.refl _) nu).next tU LC mI) jr
theorem mr(B:Base Z g s H){l:List V}(hv:ć Z g (.Ó m) u)(h:é H m=some (.lst l)):T3 fun a vs n=>A5 (u=.ref a) (é g.as m=some a) (g.r a=.cell m) (s.heap.get? a=some {cls:=.type "list",data:=.seq vs.toArray n}) (ß Z.toSta g.k l vs):=by
 obtain⟨a,h1,rfl⟩:=hv;obtain⟨a',h2,r,o,vs,q1,⟨n,rfl⟩,q3⟩:=B.cells _ _ h;obtain rfl:a=a':=ì (h1.symm.trans h2);exact⟨a,vs,n,rfl,h1,r,q1,q3⟩
theorem IB{y:V}{xs:List Value}(h:Ł Z g [y] xs):∃z,xs=[z]∧ć Z g y z:=by
 obtain⟨z,r,e,hz,hr⟩:=h;exact⟨z,e.trans (congrArg _ (show r=[]from hr)),hz⟩
theorem Rc{l:List V}(eY:vV Z)(h1:Ű prog w Z d e S ⟨H,ρ,κ⟩ (.Ó m))(h3:kd n (view H (.Ó m))=9)(h4:ĺ prog w Z d as ⟨H,ρ,κ⟩ ⟨H₁,á,ë⟩ [x])(h5:Ô H₁ x=some (Ö,x'))(h6:é Ö m=some (.lst l))(h7:small l=true)(h8:put Ö m (.lst (l++[x']))=ų):
  Ű prog w Z d (.me e n as) S ⟨ų,á,ë⟩ .none:=by
 intro cx X env A g s Q E hx C hq;refine kC eY h1 h3 (by decide) h4 hx C fun ó Ļ u xs G è ô ů=>?_;obtain⟨y,rfl,hy⟩:=IB ů;refine è.base.bE h5 hy fun İ ĩ Ŝ fX=>?_;have ĸ:=è.next ĩ (.refl _) Ŝ;obtain⟨ca,ws,n,rfl,q1,q2,q3,q4⟩:=mr Ŝ (ô.mono ĩ.toGst) h6;refine wpAny_list_append_plain (items:=ws.toArray) ⟨n,q3⟩ (fun h' ⟨n',mP⟩ D4=>?_) ((Ź.trans q4.len)▸ŕ h7);rw[List.push_toArray]at mP;exact hq _ _ _ (G.trans ĩ.toGst) (h8▸ĸ.cZ Ļ.toks h6 q1 q2 (fun b o n e=>(D4.2 b n).trans e) mP ⟨q2,_,ws++[y],mP,⟨n',rfl⟩,q4.app ⟨y,[],rfl,fX,rfl⟩⟩) rfl
theorem ß.snoc_inv{Y:Sta}{k:FH}{l:List V}{x:V}:∀{vs:List Value},ß Y k (l++[x]) vs→T2 fun ws y=>A3 (vs=ws++[y]) (ß Y k l ws) (Rep Y k x y):=by
 induction l with
 |nil=>
  intro vs h;obtain⟨v,r,e,h1,h2⟩:=h;exact⟨[],v,e.trans (congrArg _ (show r=[]from h2)),rfl,h1⟩
 |cons d l ih=>
  intro vs h;obtain⟨v,r,e,h1,h2⟩:=h;obtain⟨ws,y,e',h3,h4⟩:=ih h2;exact⟨v::ws,y,e.trans (congrArg _ e'),⟨v,ws,rfl,h1,h3⟩,h4⟩
theorem QO{l r:List V}(eY:vV Z)(h1:Ű prog w Z d e S ⟨H,ρ,κ⟩ (.Ó m))(h3:kd n (view H (.Ó m))=10)(h4:ĺ prog w Z d as ⟨H,ρ,κ⟩ ⟨H₁,á,ë⟩ [])(h6:é H₁ m=some (.lst l))(h7:small l=true)(h8:l.reverse=x::r)(h9:put H₁ m (.lst r.reverse)=Ö):
  Ű prog w Z d (.me e n as) S ⟨Ö,á,ë⟩ x:=by
 intro cx X env A g s Q E hx C hq;refine kC eY h1 h3 (by decide) h4 hx C fun ó Ļ u xs G è ô ů=>?_;have ů:xs=[]:=ů;subst ů;obtain⟨ca,ws,n,rfl,q1,q2,q3,q4⟩:=mr è.base ô h6;have el:l=r.reverse++[x]:=List.reverse_reverse l▸h8▸aq;have o_:=(Ź.trans q4.len)▸ŕ h7;rw[el]at q4;obtain⟨PA,y,rfl,p1,p2⟩:=q4.snoc_inv;refine Copied.pop_at (its:=(PA++[y]).toArray) (y:=y) q3 (by simp) (fun h' D4 mP=>?_) o_;have e5:(PA++[y]).toArray.pop=PA.toArray:=by simp
 rw[e5]at mP;exact hq _ _ _ G (h9▸è.cZ Ļ.toks h6 q1 q2 (fun b o n e=>(D4.2 b n).trans e) mP ⟨q2,_,PA,mP,⟨n+1,rfl⟩,p1⟩) p2.iM
theorem QE{l q:List V}(eY:vV Z)(h1:Ű prog w Z d e S ⟨H,ρ,κ⟩ (.Ó m))(h3:kd n (view H (.Ó m))=11)(h4:ĺ prog w Z d as ⟨H,ρ,κ⟩ ⟨H₁,á,ë⟩ [x])(h5:Ô H₁ x=some (Ö,.lst q))(h6:é Ö m=some (.lst l))(h7:(small l&&small q)=true)(h8:put Ö m (.lst (l++q))=ų):
  Ű prog w Z d (.me e n as) S ⟨ų,á,ë⟩ .none:=by
 intro cx X env A g s Q E hx C hq;refine kC eY h1 h3 (by decide) h4 hx C fun ó Ļ u xs G è ô ů=>?_;obtain⟨y,rfl,hy⟩:=IB ů;refine è.base.bE h5 hy fun İ ĩ Ŝ fX=>?_;have ĸ:=è.next ĩ (.refl _) Ŝ;obtain⟨ca,ws,n,rfl,q1,q2,q3,q4⟩:=mr Ŝ (ô.mono ĩ.toGst) h6;obtain⟨ba,ob,us,rfl,kb,⟨nb,rfl⟩,rb⟩:=fX;have z1:=ĥ (oa h7).1;have z2:=ĥ (oa h7).2;have e1:ws.toArray.size=l.length:=Ź.trans q4.len;have e2:us.toArray.size=q.length:=Ź.trans rb.len;have hs:ws.toArray.size+us.toArray.size≤2^24:=by omega
 refine call_meets PySem.F.slot_list_extend ⟨_,q3,rfl⟩ PySem.F.entry_list_extend (PySem.F.args_list_extend_2 _ _) (AutoSeq1.list_extend_list_list_0 ca ws.toArray n ba us.toArray nb (fun h'=>?_) (e1▸ŕ (oa h7).1) (by show _≤2^24+1;exact ă ‹_› (by decide))) ⟨q3,Ŝ.sub kb,?_⟩
 ·exact absurd (of_decide_eq_true (oa h').2) (Nat.not_lt.mpr hs)
 ·have hu:=IsL.update (h:=Ļ.heap) (l:=ca) (items:=ws.toArray) (n:=n) q3 (fun x=>x++us.toArray);rw[List.append_toArray]at hu;exact hq _ _ _ (G.trans ĩ.toGst) (h8▸ĸ.cZ Ļ.toks h6 q1 q2 (fun b o n e=>((Heap.SameBut.update ..).2 b n).trans e) hu ⟨q2,_,ws++us,hu,⟨_,rfl⟩,q4.app rb⟩) rfl
end
section
variable{g ħ Ü g':Gh}{S Å Í:St}{H H₁:List Cell}{ρ κ:List (Option V)}{d n:Nat}{e:PE}{es:List PE}{vs vs':List V}{v:V}{Q:Value→Shared→Prop}{E:Value→Shared→Prop}{ks:List (List Nat)}{l:List (List Nat×V)}{D:Addr}{ps:List (Value×Value)}{Mm:Shared}{Mp:St}
inductive gZ(Z:Ě)(g:Gh):List (List Nat)→List V→List (Value×Value)→Prop
 |nil:gZ Z g [] [] []
 |cons {k ks v vs t x r} (h1:ć Z g v x) (h2:gZ Z g ks vs r):gZ Z g (k::ks) (v::vs) ((.str ⟨⟨k⟩⟩ t,x)::r)
theorem gZ.vals(h:gZ Z g ks vs ps):Ł Z g vs (ps.map (·.2)):=by
 induction h with
 |nil=>rfl
 |cons h1 h2 ih=>exact⟨_,_,rfl,h1,ih⟩
def mD(prog:Program)(w:World)(Z:Ě)(d:Nat)(es:List PE)(st Ċ:St)(vs:List V):Prop:=∀cx keys xs ns env A g s Q E pos,fc cx xs=es→fU keys=some ns→keys.length=xs.length→Ok Z d cx A env g s st→
 (∀g' s' ps,Gst g g'→Ok Z d cx A env g' s' Ċ→gZ Z g' ns vs ps→Q ps s')→õ prog w A (evalPairs (pairTrees keys xs env pos)) Q E s
theorem MA:mD prog w Z d [] S S []:=by
 intro cx keys xs ns env A g s Q E pos hx hk hl C hq;obtain rfl:=gi hx;obtain rfl:keys=[]:=List.length_eq_zero_iff.mp hl;obtain rfl:[]=ns:=ì hk;exact pairTrees_nil_walk (hq g s [] (.refl g) C .nil)
theorem SS{k:Option Expr}{x:List Nat}(h:Nq k=some x):T2 fun kk p=>k=some (.Constant (.str ⟨⟨x⟩⟩) kk p):=by
 refine ï h fun e h1 h2=>?_
 induction e using PySem.Expr.casesOn with
 |Constant c kk p=>
  induction c using PySem.Const.casesOn with
  |str y=>
   have h2:some y.cps.toList=some x:=h2;obtain⟨⟨y⟩⟩:=y;exact⟨kk,p,h1.trans (by rw[show y=x from ì h2])⟩
  |_=>exact nS h2
 |_=>exact nS h2
theorem jT{k:Option Expr}{r:List (Option Expr)}(h:fU (k::r)=some ks):T4 fun x kk p ns=>A3 (k=some (.Constant (.str ⟨⟨x⟩⟩) kk p)) (fU r=some ns) (ks=x::ns):=by
 refine ï h fun x h1 h=>?_;refine cJ h fun ns h2 h3=>?_;obtain⟨kk,p,e⟩:=SS h1;exact⟨x,kk,p,ns,e,h2,h3.symm⟩
theorem MB(h1:Ű prog w Z d e S Å v)(h2:mD prog w Z d es Å Í vs):mD prog w Z d (e::es) S Í (v::vs):=by
 intro cx keys xs ns env A g s Q E pos hx hk hl C hq;obtain⟨x,r,rfl,e1,e2⟩:=ž hx
 induction keys using Ū with
 |nil=>cases hl
 |cons k keys=>
  obtain⟨y,kk,p,VW,rfl,ZT,rfl⟩:=jT hk;refine pairTrees_cons_walk (wpAny_mkText ?_);refine h1 _ _ _ _ _ _ _ _ e1 (C.toks _) fun Ü ò y Ñ Ï ô=>?_;exact h2 _ _ _ _ _ _ _ _ _ _ _ e2 ZT (Nat.succ.inj hl) Ï fun ó Ļ ps ù è ů=>hq _ _ _ (Ñ.trans ù) è (.cons (ô.mono ù) ů)
noncomputable def Cn(es:List DictEntry)(n:Nat):Obj:={cls:=.type "dict",data:=.dict es.toArray n}
theorem Base.BQ(B:Base Z g s H){es:List DictEntry}{n:Nat}(hD:g.r D=.held (Cn es n))(nd:(l.map (·.1)).Nodup)(hr:gY Z.toSta g.k l es):Base Z (g.Ó D H.length) s (H++[.aX l]):=by
 have hO:=B.held _ _ hD;have q:(g.Ó D H.length).r D=.cell H.length:=g.þ _ _;refine B.gen (g':=g.Ó D H.length) (h':=s.heap) (t:=s.toks) (H':=H++[.aX l]) (· =D) (fun b e=>(kJ (e▸hD)).1) (fun À À À e=>e) (fun b nd=>g.ø _ nd) (fun a ha=>?_) ?_ (fun À À e=>af e) fun i c' e=>?_
 ·rw[show a=D from ha];exact hR (.inl q) hO
 ·show(g.as++[D]).length=_;rw[ċ,ċ,B.len];rfl
 ·rcases fF e with e|⟨rfl,rfl⟩
  ·exact .inl ⟨e,fun b e=>(kJ (e▸hD)).2 i⟩
  ·exact .inr ⟨D,B.len▸eA _ _,q,_,es,hO,⟨n,rfl⟩,nd,hr.mono (vI hD).k⟩
theorem Ok.Fl(C:Ok Z d cx A env g s S){o:Obj}(hf:o.isFreed=false)(t:Nat){G:Prop}(hq:∀g',Gst g g'→Ok Z d cx A env g' {s with heap:=s.heap.push o,toks:=t} S→g'.r s.heap.objs.size=.held o→Nil g s.heap.objs.size→G):G:=by
 have jP:=C.base.fresh _ (Ų _);have S:=ę.set g (x:=.held o) jP;exact hq _ S.toGst (C.next S (fun b o' e=>ō _ e) (C.base.push o t (.held o) hf (by simp))) (g.þ _ _) (.free jP)
theorem yI(h:lW l=true):(l.map (·.1)).Nodup:=by
 induction l with
 |nil=>exact lT
 |cons p r ih=>
  (have h1:=aC h;have h2:=aB h)
  refine eW.mpr ⟨fun m=>?_,ih h2⟩;obtain⟨q,hq,e⟩:=dT.mp m;have:(r.any fun q=>Ø q.1 p.1)=true:=List.any_eq_true.mpr ⟨q,hq,(show q.1=p.1 from e)▸Ŭ _⟩;rw[this]at h1;exact â h1
theorem AL{k:FH}(h:gZ Z g ks vs ps):∀{vs':List V} {l:List (List Nat×V)},ß Z.toSta k vs' (ps.map (·.2))→dictOf (ks.map fun k=>.c (.str k)) vs'=some l→∃fN,Carries (strKind prog w) ps fN∧Kv Z.toSta k l fN:=by
 induction h with
 |nil=>
  intro vs' l hr hd
  induction vs' using Ū with
  |nil=>exact⟨[],trivial,(ì hd)▸.nil⟩
  |cons=>exact nS hd
 |@cons x ks v vs t y r h1 h2 ih=>
  intro vs' l hr hd
  induction vs' using Ū with
  |nil=>exact nS hd
  |cons v' vs'=>
   obtain⟨y',r',e,q1,q2⟩:=hr;obtain⟨e1,e2⟩:=List.cons.inj e;have hd:(keyOf (.c (.str x))).bind (fun k=>(dictOf (ks.map fun k=>.c (.str k)) vs').map fun l=>(k,v')::l)=some l:=hd;refine ï hd fun k h3 hd=>?_;refine cJ hd fun l' h4 hd=>?_;obtain⟨fN,c1,c2⟩:=ih (e2▸q2) h4;have e3:x=k:=ì h3;have e1:y=y':=e1;refine⟨(⟨⟨x⟩⟩,y)::fN,⟨nK ..,rfl,c1⟩,?_⟩;rw[←hd,←e3,e1];exact .cons q1 c2
theorem vo{keys:List (Option Expr)}:∀{ks},fU keys=some ks→keys.all (·.isSome)=true:=by
 induction keys with
 |nil=>exact fun À=>rfl
 |cons k r ih=>
  intro ks h;obtain⟨x,kk,p,ns,rfl,h2,_⟩:=jT h;exact Kk.mpr ⟨rfl,ih h2⟩
theorem pk(C:Ok Z d cx A env g s ⟨H,ρ,κ⟩){es:List DictEntry}{n:Nat}(hD:g.r D=.held (Cn es n))(nd:(l.map (·.1)).Nodup)(hr:gY Z.toSta g.k l es)(G:Gst ħ g)(hn:Nil ħ D)(VB:Ok Z d cx A env ħ Mm Mp)(hq:Iu Z d cx A env ħ ⟨H++[.aX l],ρ,κ⟩ (.Ó H.length) Q):Q (.ref D) s:=by
 obtain⟨g7,LF,jr⟩:=C.i.H3 hD (C.base.BQ hD nd hr) G hn;exact hq _ _ _ g7 (VB.to g7 LF) jr
theorem Q3{V3:List PE}(hh:Z.hash=hashStr w)(h1:ĺ prog w Z d es S ⟨H,ρ,κ⟩ vs)(hp:mD prog w Z d es S ⟨H,ρ,κ⟩ vs)(h0:es=[]→S=⟨H,ρ,κ⟩∧vs=[])(h2:ē H vs=some (H₁,vs'))(h3:dictOf V3 vs'=some l)(h4:lW l=true):Ű prog w Z d (.di V3 es) S ⟨H₁++[.aX l],ρ,κ⟩ (.Ó H₁.length):=by
 intro cx X env A g s Q E hx C hq;obtain⟨keys,zs,p,ns,rfl,heq,hlen,hk,rfl,e1⟩:=iv hx;have Wd:=yI h4;refine C.Fl (o:={cls:=.type "dict",data:=.dict #[]}) rfl s.toks fun Ü Ñ Ï EU n₁=>?_
 by_cases hz:keys=[]
 ·subst hz;obtain rfl:zs=[]:=List.length_eq_zero_iff.mp heq.symm;obtain rfl:[]=es:=e1;obtain⟨rfl,rfl⟩:=h0 rfl;obtain rfl:[]=ns:=ì hk;cases h2;obtain rfl:[]=l:=ì h3;exact wpAny_Dict_empty (pk (l:=[]) (es:=[]) (n:=0) Ï EU lT rfl Ñ n₁ C hq)
 refine wpAny_Dict_walk (knd:=strKind prog w) (vo hk) heq hz hlen ?_;refine hp _ _ _ _ _ _ _ _ _ _ _ e1 hk heq Ï fun ó Ļ ps ù è ů=>Base.eH è.base h2 ů.vals fun İ ĩ Ŝ fX=>?_;have ĸ:=è.next ĩ (.refl _) Ŝ;have ł:=ù.trans ĩ.toGst;obtain⟨fN,c1,c2⟩:=AL (prog:=prog) (w:=w) ů fX h3;have MO:=ł.held _ _ EU;obtain⟨kv0,k0,d0⟩:=eK (prog:=prog) (w:=w) hh (ĸ.base.held _ _ MO) ⟨0,rfl⟩ (l:=[]) (k:=İ.k) (es:=[]) lT rfl;cases k0;refine⟨fN,c1,d0,fun h' N3 D4=>?_⟩;rw[merged_nil_of_nodup _ (c2.nodup Wd)]at N3;obtain⟨o,ml,ho,⟨n,rfl⟩,rd⟩:=lk hh N3 c2;have hO:g5 İ [s.heap.objs.size]:=fun b m=>by rw[ė.mp m,MO];rfl
 have DS:=ĸ.hold hO (h':=h') (fun b o nb e=>(D4.2 b fun q=>nb (ė.mpr q)).trans e) (Ļ.toks+ps.length);have nq:=aK (h:=h') (Ñ.trans ł) hO (fun b m=>ė.mp m▸n₁);have JA:(İ.hold [s.heap.objs.size] h').r s.heap.objs.size=.held (Cn ml n):=(de (ė.mpr rfl)).trans (congrArg aW ho);exact pk DS JA Wd (rd.mono (fR hO)) nq n₁ C hq
end
section
variable{g ħ g':Gh}{st:St}{H H' H₁:List Cell}{ρ κ:List (Option V)}{vs:List V}
def Pj(q:Õ)(fd:FuncData)(c c₁ c₂:Addr):Prop:=
 T4 fun params body pm ctv=>fd=kla_fn "<lambda>" q params body dR [("seen",c₁),("context",c₂)] pm (.ref c) ctv∧fJ params body=true
def Ph(q:Õ)(oc:Obj):Prop:=T2 fun vs t=>oc.data=.fields vs∧vs[1]? =some (.str q t)
structure kl(Z:Ě)(P:Č):Prop where
 LM:Z.LM=Pj Z.lR
 OC:Z.OC=Ph Z.lR
 L:Z.mZ=mZ
 C:Z.m7=m7
 code:CodeHd Z.sh.heap Z.qn Z.tab
 Mj:Z.sh.heap.get? Z.tab=some (tabObj #[])
 bmod:∃mg,Z.sh.heap.Ns mainGlobals mg∧Z.sh.heap.BuiltinsAt mg Z.tab
 ne:Z.tab≠cStatics
 tm:mainGlobals≠Z.tab
 lh:gl ("leaf_holds":Õ) Z.zC=some (.fn P.lam)
theorem kl.Cv(LZ:kl Z P)(B:Base Z g s H):CodeHd s.heap Z.qn Z.tab:=by
 obtain⟨o,vs,file,tf,flags,tg,S5,text,tt,e,r⟩:=LZ.code;exact⟨o,vs,file,tf,flags,tg,S5,text,tt,B.Ô _ _ (B.top _ _ e r.2.2.2.2.2.2.2.2),r⟩
theorem kl.OR(LZ:kl Z P)(B:Base Z g s H):∃mg,s.heap.Ns mainGlobals mg∧s.heap.BuiltinsAt mg Z.tab:=by
 obtain⟨mg,h1,bm,o,b1,b2,b3,b4,b5,b6⟩:=LZ.bmod;exact⟨mg,B.du h1 LZ.tm,bm,o,b1,b2,b3,b4,B.Ô _ _ (B.top _ _ b5 b4),b6⟩
theorem Base.EC(LZ:kl Z P)(B:Base Z g s H){h':Heap}(t:Nat){c:Addr}{oc:Obj}(hx:Heap.ExtBut Z.tab s.heap h')(h0:s.heap.get? Z.tab=some (tabObj #[]))(hc:s.heap.objs.size≤c)
  (ho:h'.get? c=some oc)(hO:Z.OC oc)(hP:h'.get? Z.tab=some (tabObj #[rawInt Z.mZ,rawInt Z.m7,.ref c])):Base Z (g.set c (.Ô oc)) {s with heap:=h',toks:=t} H:=by
 have fr:=B.fresh c hc;have S:=ę.set g (x:=.Ô oc) fr;have ne:∀b,b≠c→(g.set c (.Ô oc)).r b=g.r b:=fun b q=>g.ø _ q
 have nf:∀{a x},g.r a=x→vq x=false→a≠c:=fun e n q=>by rw[q,fr]at e;rw[←e]at n;exact ĕ n
 have keep:∀b o x,g.r b=x→x≠.tab→s.heap.get? b=some o→h'.get? b=some o:=fun b o x q n e=>hx b o (fun e'=>n (q.symm.trans (e'▸B.tab.1))) e
 have C:=LZ.Cv B;have C':CodeHd h' Z.qn Z.tab:=by
  obtain⟨o,vs,file,tf,flags,tg,S5,text,tt,e,r⟩:=C;exact⟨o,vs,file,tf,flags,tg,S5,text,tt,hx _ _ r.2.2.2.2.2.2.2.2 e,r⟩
 have back:∀b x,(g.set c (.Ô oc)).r b=x→(∀o,x≠.Ô o)→g.r b=x:=fun b x q n=>by
  by_cases e:b=c
  ·rw[e,g.þ]at q;exact absurd q.symm (n oc)
  ·exact(ne b e).symm.trans q
 obtain⟨bx,ò,hl⟩:=B.vd;refine⟨⟨h',t,by rw[hl]⟩,?_,fun a o e n=>?_,?_,fun a o e=>?_,fun a o e=>?_,fun a o e=>?_,fun a l=>?_,B.len,fun i cc e=>?_⟩
 ·exact B.old.step_table (c₀:=Z.qn) (c:=Z.qn) (ps₀:= #[]) (ps:= #[]) (more:= #[rawInt Z.mZ,rawInt Z.m7,.ref c]) (LZ.code.tab LZ.Mj) (C.tab h0) (C'.tab hP) hx LZ.ne
 ·have q:=B.top a o e n;exact(ne a (nf q rfl)).trans q
 ·exact⟨(ne _ (nf B.tab.1 rfl)).trans B.tab.1,_,hP,.inr ⟨c,oc,rfl,Gh.Ř (g.þ _ _),hO⟩⟩
 ·by_cases q:a=c
  ·rw[q,g.þ]at e;exact q▸Role.Ô.inj e▸ho
  ·rw[ne a q]at e;exact keep a o _ e (by simp) (B.Ô a o e)
 ·have e:=back a _ e (by simp);obtain⟨sl,q⟩:=B.kept a o e;exact⟨sl,keep a _ _ e (by simp) q⟩
 ·have e:=back a _ e (by simp);exact keep a _ _ e (by simp) (B.held a o e)
 ·by_cases q:a=c
  ·exact⟨_,q▸ho⟩
  ·by_cases q2:a=Z.tab
   ·exact⟨_,q2▸hP⟩
   ·rw[ne a q]at l;obtain⟨o,e⟩:=B.alive a l;exact⟨o,hx a o q2 e⟩
 ·obtain⟨a,ha,x⟩:=B.cells i cc e;refine⟨a,ha,x.to S.k (fun b e=>(ne b (nf e rfl)).trans e) (fun b e=>(ne b (nf e rfl)).trans e) fun b o e q=>?_⟩;rcases e with e|e<;>exact keep b o _ e (by simp) q
theorem zL{r:Role}{i:Nat}(h:r=.var i):((∀o,r≠.Ô o)∧r≠.tab)∧∀i,r≠.cell i∧r≠.cV i:=by
 rw[h];simp
theorem Base.z4(B:Base Z g s H){c:Addr}{i:Nat}{o:Obj}(hr:g.r c=.var i)(ho:s.heap.get? c=some o):Base Z (g.set c (.Ô o)) s H:=by
 refine B.gen (h':=s.heap) (t:=s.toks) (· =c) (fun a e=>(zL (e▸hr)).1) (fun À À À e=>e) (fun b nd=>g.ø _ nd) (fun a ha=>?_) B.len (fun À À e=>e) fun i c' e=>.inl ⟨e,fun b e=>(zL (e▸hr)).2 i⟩
 rw[show a=c from ha,g.þ];exact⟨fun o' e=>Role.Ô.inj e▸ho,by simp,by simp,fun À=>⟨_,ho⟩⟩
theorem Gst.z4(g:Gh){c:Addr}{i:Nat}{o:Obj}(hr:g.r c=.var i):Gst g (g.set c (.Ô o)):=by
 have ne:∀{a y},g.r a=y→y≠.var i→a≠c:=fun e n q=>n (e.symm.trans (q▸hr))
 refine⟨fun a o' e=>?_,fun a o' e=>?_,fun a o' e=>?_,⟨[],(Ŵ _).symm⟩,rfl,rfl,fun a e=>?_⟩
 ·have e:=Gh.aN e;exact Gh.Ř ((g.ø _ (ne e (by simp))).trans e)
 ·exact(g.ø _ (ne e (by simp))).trans e
 ·exact(g.ø _ (ne e (by simp))).trans e
 ·exact(g.ø _ (ne e (by simp))).trans e
theorem Inv.Fi(hi:Inv Z cx g s st)(G:Gst g g')(B:Base Z g' s' H')(hL:∀o,s.heap.get? g.L=some o→s'.heap.get? g.L=some o):Inv Z cx g' s' {st with H:=H',κ:=[]}:=by
 refine⟨B,G.L▸G.loc _ hi.gJ.loc,?_,fun i ov q=>?_⟩
 ·obtain⟨m,⟨o,es,ep,ho,r⟩,hm⟩:=hi.gJ.locs;refine⟨m,⟨o,es,ep,G.L▸hL o ho,r⟩,fun x i v h1 h2=>?_⟩;obtain⟨y,q1,q2⟩:=hm x i v h1 h2;exact⟨y,q1,q2.mono G⟩
 ·exact nS q
theorem sx(LZ:kl Z P)(B:Base Z g s H){params:Arguments}{body:Expr}{pm ctv:Value}{c c₁ c₂:Addr}{oc Ň aF:Obj}{cN cM:Value}{t:Nat}(hs:fJ params body=true)(hc:g.k c=some oc)(hO:Z.OC oc)
  (h1:g.k c₁=some Ň)(d1:Ň.data=.cell (some cN))(h2:g.k c₂=some aF)(d2:aF.data=.cell (some cM))(hv:ß Z.toSta g.k vs [cN,cM]){C:Prop}
  (hq:∀g',Gst g g'→Base Z g' {s with heap:=s.heap.push {cls:=.type "function",data:=.func (kla_fn "<lambda>" Z.lR params body dR [("seen",c₁),("context",c₂)] pm (.ref c) ctv)},toks:=t} H→ć Z g' (.g9 vs) (.ref s.heap.objs.size)→C):C:=by
 have hf:g.r s.heap.objs.size=.free:=B.fresh _ (Ų _);have S:ę g (g.set s.heap.objs.size (.Ô {cls:=.type "function",data:=.func (kla_fn "<lambda>" Z.lR params body dR [("seen",c₁),("context",c₂)] pm (.ref c) ctv)})):=ę.set g hf;refine hq _ S.toGst (B.push _ t _ rfl (.inr (.inl rfl))) ⟨_,_,kla_fn "<lambda>" Z.lR params body dR [("seen",c₁),("context",c₂)] pm (.ref c) ctv,c,c₁,c₂,oc,Ň,aF,cN,cM,rfl,Gh.Ř (g.þ ..),rfl,?_,S.k _ _ hc,hO,S.k _ _ h1,d1,S.k _ _ h2,d2,hv.mono S.k⟩;rw[LZ.LM];exact⟨params,body,pm,ctv,rfl,hs⟩
structure Vs(a:Arguments):Prop where
 e:∃p,a=⟨[],[⟨"leaf",none,p⟩],none,[],[],none,[]⟩
theorem Ni{a:Arguments}(h:wW a=true):Vs a:=by
 obtain⟨po,as,va,ko,kd,kw,df⟩:=a
 (have h1:=aC h;have h:=aB h)
 (have h2:=aC h;have h:=aB h)
 (have h3:=aC h;have h:=aB h)
 (have h4:=aC h;have h:=aB h)
 (have h5:=aC h;have h:=aB h)
 (have h6:=aC h;have h7:=aB h)
 obtain⟨⟨n,an,p⟩,h8,h9⟩:=anyI h2
 (have Ge:=aB h9;have h9:=aC h9)
 have e1:po=[]:=emp h1;have e2:=i1 h8;have e3:va=none:=oU.mp h3;have e4:ko=[]:=emp h4;have e5:kd=[]:=emp h5;have e6:kw=none:=oU.mp h6;have e7:df=[]:=emp h7;have e8:an=none:=oU.mp Ge;have e9:=eq_of_beq h9;have e2:as=[⟨n,an,p⟩]:=e2;have e9:n=("leaf":Õ):=e9;rw[e1,e2,e3,e4,e5,e6,e7,e8,e9];exact⟨p,rfl⟩
structure Vr(env:Env)(args:Arguments)(body:Expr)(c₁ c₂:Addr):Prop where
 d:defaultsOf args env=([],[])
 c:closureFor dR env=pure [(("seen":Õ),c₁),(("context":Õ),c₂)]
theorem Nh{args:Arguments}{body:Expr}{c₁ c₂:Addr}(h:fJ args body=true)(e1:env.cells.lookup ("seen":Õ)=some c₁)(e3:env.cells.lookup ("context":Õ)=some c₂):Vr env args body c₁ c₂:=by
 obtain⟨p,rfl⟩:=(Ni (oa h).1).e;refine⟨rfl,?_⟩;have q1:cellOf env "seen"=pure c₁:=by unfold cellOf;rw[e1]
 have q2:cellOf env "context"=pure c₂:=by unfold cellOf;rw[e3]
 unfold closureFor dR;simp[q1,q2]
theorem zP(C:Ok Z d cx A env g s ⟨H,ρ,κ⟩){x y:V}{c₁ c₂:Addr}(ha:é κ 0=some (some x))(hb:é κ 1=some (some y))(hf:ē H [x,y]=some (H₁,vs))(e2:é g.cs 0=some c₁)(e4:é g.cs 1=some c₂){G':Prop}
  (hq:∀İ Ň aF cN cM,Gst g İ→Base Z İ s H₁→İ.k c₁=some Ň→Ň.data=.cell (some cN)→İ.k c₂=some aF→aF.data=.cell (some cM)→ß Z.toSta İ.k vs [cN,cM]→G'):G':=by
 obtain⟨OM,L4,p1,p2,⟨Ň,p3,p4⟩,p5⟩:=C.i.gJ.vars _ _ ha;obtain rfl:c₁=OM:=ì (e2.symm.trans p1);obtain⟨cN,rfl,NI⟩:=p5 _ rfl;obtain⟨OL,Qg,r1,r2,⟨aF,r3,r4⟩,r5⟩:=C.i.gJ.vars _ _ hb;obtain rfl:c₂=OL:=ì (e4.symm.trans r1);obtain⟨cM,rfl,NH⟩:=r5 _ rfl;refine Base.eH (vs:=[x,y]) (xs:=[cN,cM]) C.base hf ⟨_,_,rfl,NI,_,_,rfl,NH,rfl⟩ fun Ü Å vZ eO=>?_;have v1:=Å.var _ _ p2;have v2:=Å.var _ _ r2;have ne:c₂≠c₁:=fun q=>by rw[q,v1]at v2;(injection v2 with v2;exact absurd v2 (by decide))
 have aA:=vZ.z4 v1 p3;have ù:=Gst.z4 Ü (o:=Ň) v1;have v3:=(Ü.ø (.Ô Ň) ne).trans v2;have ł:=Gst.z4 (Ü.set c₁ (.Ô Ň)) (o:=aF) v3;exact hq _ Ň aF cN cM (Å.toGst.trans (ù.trans ł)) (aA.z4 v3 r3) (ł.k _ _ (Gh.Ř (Gh.þ ..))) p4 (Gh.Ř (Gh.þ ..)) r4 (eO.mono (ù.trans ł).k)
theorem QW(LZ:kl Z P){x y:V}(ha:é κ 0=some (some x))(hb:é κ 1=some (some y))(hf:ē H [x,y]=some (H₁,vs)):Ű prog w Z d .la ⟨H,ρ,κ⟩ ⟨H₁,ρ,[]⟩ (.g9 vs):=by
 intro cx X env A g s Q E hx C hq;obtain⟨args,body,sc,pos,rfl,Wc⟩:=iv hx
 (have l9:=aC Wc;have k1:=aB Wc)
 (have ZH:=aC k1;have k2:=aB k1)
 (have Z1:=aC k2;have k3:=aB k2)
 (have hs:=aC k3;have k4:=aB k3)
 (have hc:=aC k4;have k5:=aB k4)
 have hL:=Ģ (oa k5).1;have hC:=Ģ (oa k5).2;obtain rfl:sc=dR:=eq_of_beq ZH;obtain⟨BS,NO⟩:=C.e.code (eq_of_beq Z1);obtain⟨c₁,e1,e2⟩:=C.e.Ó _ _ (eq_of_beq hs);obtain⟨c₂,e3,e4⟩:=C.e.Ó _ _ (eq_of_beq hc);refine zP C ha hb hf e2 e4 fun İ Ň aF cN cM G Ŝ k1 p4 k2 r4 RR=>?_;obtain⟨Wo,D5⟩:=Nh l9 e1 e3;have nL:g.L≠Z.tab:=fun q=>by have:=C.i.gJ.loc;rw[q,C.base.tab.1]at this;exact neT Role.ctorIdx this rfl
 have fin:∀{qz:Gh} {s':Shared} {v:Value},Gst İ qz→Base Z qz s' H₁→ć Z qz (.g9 vs) v→(∀o,s.heap.get? g.L=some o→s'.heap.get? g.L=some o)→Q v s':=fun g7 mI jr k=>hq _ _ _ (G.trans g7) (C.to (G.trans g7) (C.i.Fi (G.trans g7) mI k)) jr
 refine kla_eval Wo ?_;rw[NO];obtain⟨mg,n1,n2⟩:=LZ.OR Ŝ;obtain⟨ps,t1,t2⟩:=Ŝ.tab.2;rcases t2 with rfl|⟨c,oc,rfl,t3,t4⟩
 ·refine kla_makeFunction D5 C.e.xn n1 BS (LZ.Cv Ŝ) t1 trivial rfl LZ.tm n2 fun c' ctv h' tk hx Wl BL S9 V8=>?_;obtain⟨c,oc,vs',t,q0,q1,q2,q3⟩:=S9
  (injection q0 with q0;subst q0)
  rw[hL,hC,←LZ.L,←LZ.C]at V8;have hO:Z.OC oc:=by rw[LZ.OC];exact⟨vs',t,q2,q3⟩
  have nu:=Ŝ.EC LZ tk hx t1 Wl q1 hO V8;have eN:=ę.set İ (x:=.Ô oc) (Ŝ.fresh _ Wl);exact sx (pm:=(mg "__name__").getD .none) (ctv:=ctv) (t:=tk) LZ nu l9 (Gh.Ř (Gh.þ ..)) hO (eN.k _ _ k1) p4 (eN.k _ _ k2) r4 (RR.mono eN.k) fun qz g7 mI jr=>
   fin (eN.toGst.trans g7) mI jr fun o e=>ō _ (hx _ _ nL e)
 ·have hf:codeAmong pos (#[rawInt Z.mZ,rawInt Z.m7,.ref c]:Array Value).toList=some (.ref c):=by
   show(if _ then _ else _)=_;rw[hL,hC,LZ.L,LZ.C];rfl
  refine kla_makeFunctionHit D5 C.e.xn n1 BS (LZ.Cv Ŝ) t1 trivial hf n2 fun ctv h' tk hk o_=>?_;exact sx (pm:=(mg "__name__").getD .none) (ctv:=ctv) (t:=tk) LZ (Ŝ.grow hk tk) l9 t3 t4 k1 p4 k2 r4 RR fun qz g7 mI jr=>
   fin g7 mI jr fun o e=>ō _ (hk _ _ e)
end
section
variable{S Å ĩ:St}{H H₁:List Cell}{ρ κ á ë:List (Option V)}{d n:Nat}{as:List PE}{e:PE}{v x y:V}
theorem vc(hg:cf Z K)(B:Base Z g s H){env:Env}{x:Õ}{G:Gl}{p:Pos}{Q:Value→Shared→Prop}{E:Value→Shared→Prop}(hG:gl x Z.zC=some G)
  (hk:env.scope.kind=.function)(h1:env.kindOf x=some .globalImplicit)(h2:(x==("__debug__":Õ))=false)(e1:env.globals=mainGlobals)(e2:env.builtins=builtinsNs)
  (hq:∀z,DP Z K G z→Q z s):õ prog w A (eval (.Name x p) env) Q E s:=by
 obtain⟨m,mb,z,n1,n2,n3,n4⟩:=hg.all x G hG;have m1:s.heap.Ns env.globals m:=e1▸B.du n1 hg.tm;have m2:s.heap.Ns env.builtins mb:=e2▸B.du n2 hg.tb;refine Calls.Name_function_global hk h1 ?_ h2;rcases n3 with n3|⟨n3,n5⟩
 ·exact Calls.loadGlobal_global m1 n3 (hq z n4)
 ·exact Calls.loadGlobal_builtin m1 n3 m2 n5 (hq z n4)
theorem uD{params:Arguments}{body:Expr}(h:fJ params body=true):T6 fun p1 p2 p3 p4 p5 p6=>params=⟨[],[⟨"leaf",none,p1⟩],none,[],[],none,[]⟩∧
  body=.Call (.Name "leaf_holds" p2) [.Name "leaf" p3,.Name "seen" p4,.Name "context" p5] [] p6:=by
 (have ha:=aC h;have hb:=aB h)
 obtain⟨p1,e1⟩:=(Ni ha).e;obtain⟨⟨f,as,ks⟩,h1,h2⟩:=anyI hb;obtain⟨p6,e2⟩:=H4 h1
 (have h3:=aC h2;have h4:=aB h2)
 (have h5:=aC h4;have h6:=aB h4)
 obtain⟨⟨a,b,c⟩,h7,h8⟩:=anyI h6
 (have h9:=aC h8;have Ge:=aB h8)
 (have TB:=aC Ge;have h12:=aB Ge)
 obtain⟨p2,e3⟩:=gC (eq_of_beq h3);obtain⟨p3,e4⟩:=gC (eq_of_beq h9);obtain⟨p4,e5⟩:=gC (eq_of_beq TB);obtain⟨p5,e6⟩:=gC (eq_of_beq h12);have e7:=i3 h7;have e8:ks=[]:=emp h5;have e3:f=_:=e3;have e4:a=_:=e4;have e5:b=_:=e5;have e6:c=_:=e6;have e7:as=[a,b,c]:=e7;have e2:body=.Call f as ks p6:=e2;refine⟨p1,p2,p3,p4,p5,p6,e1,?_⟩;rw[e2,e8,e7,e3,e4,e5,e6]
theorem vg:∀x∈dR.names,x.2≠.cell:=by decide
theorem FI(LZ:kl Z P)(hg:cf Z K){c₁ c₂:Addr}{leaf x y v:V}{z:Value}{Ň aF:Obj}{cN cM:Value}{h':Heap}{t':Nat}{m:Õ→Option Value}{p2 p3 p4 p5 p6:Pos}{Q:Value→Shared→Prop}{E:Value→Shared→Prop}(h:cF prog w Z K d P.lam [leaf,x,y] H ĩ v)(hr:œ (d+1) A g)(hL:cG g s)(B:Base Z g s H)
  (Uc:env.locals=s.heap.objs.size)(P6:env.cells=[(("seen":Õ),c₁),(("context":Õ),c₂)])(OG:env.scope=dR)(Ub:env.globals=mainGlobals)(Ua:env.builtins=builtinsNs)(OF:env.frame=some s.heap.objs.size)
  (hk:∀b o,s.heap.get? b=some o→h'.get? b=some o)(xh:h'.Ns s.heap.objs.size m)(hm:m "leaf"=some z)(ht:t'=s.toks+1)
  (k6:g.k c₁=some Ň)(k7:Ň.data=.cell (some cN))(k8:g.k c₂=some aF)(k9:aF.data=.cell (some cM))(eO:Rep Z.toSta g.k x cN)(fY:Rep Z.toSta g.k y cM)(hx:ć Z g leaf z)
  (hq:∀g' s' y,ę g g'→cH g s s'→Base Z g' s' ĩ.H→ć Z g' v y→Q y s'):õ prog w (A.deeper env) (eval (.Call (.Name "leaf_holds" p2) [.Name "leaf" p3,.Name "seen" p4,.Name "context" p5] [] p6) env) Q E {s with heap:=h',toks:=t'}:=by
 subst ht;have N:č s h' s.heap.objs.size []:=⟨hk,Ų _,(fun À m=>absurd m jL),let ⟨o,es,ep,e,_⟩:=xh;⟨o,e⟩,(fun À m=>absurd m jL)⟩;have BD:=B.down N (s.toks+1);have HI:=tD B N;have L0:env.kindOf=fun x=>dR.names.lookup x:=by funext y;unfold Env.kindOf;rw[OG]
 have Gu:env.scope.kind=.function:=by rw[OG];rfl
 have LD:cG (g.down s.heap s.heap.objs.size []) {s with heap:=h',toks:=s.toks+1}:=let ⟨o,es,ep,e,e2,_⟩:=xh;⟨o,es,ep,e,e2⟩;refine av (vc hg BD LZ.lh Gu (by rw[L0];rfl) (by decide) Ub Ua fun z hz=>?_);obtain⟨rfl,oF,fdF,f1,f2,f3⟩:=hz;refine Calls.callWith_function (o:=oF) (fd:=fdF) (ı (plain_any (by rfl)) ?_);refine wpAny_items_cons (wpAny_Name (wpAny_loadName_local Gu (by rw[L0];rfl) (Uc▸xh) (v:=z) hm ?_) (by decide)) rfl;refine wpAny_items_cons (wpAny_Name (wpAny_loadName_free Gu (by rw[L0];rfl) (by rw[P6];rfl) ⟨Ň,hk _ _ (B.sub k6),k7⟩ ?_ (by decide)) (by decide)) rfl;refine wpAny_items_cons (wpAny_Name (wpAny_loadName_free Gu (by rw[L0];rfl) (by rw[P6];rfl) ⟨aF,hk _ _ (B.sub k8),k9⟩ ?_ (by decide)) (by decide)) rfl;refine wpAny_items_nil ⟨⟨hk _ _ (B.Ô _ _ (B.top _ _ f1 f3)),f2⟩,?_⟩;refine h _ _ _ _ _ _ (pj hr hL B N OF Gu) LD BD ⟨z,_,rfl,hx.r7 HI rfl,cN,_,rfl,(eO.mono HI).iM,cM,_,rfl,(fY.mono HI).iM,rfl⟩ fun gE sE y GE KE BE VE=>?_;exact hq _ _ _ (ur B N GE.toGst) (pP B N GE.toGst BE) (B.up N GE.toGst BE) (ć.up (Mc B N GE.toGst) VE)
theorem Bf(LZ:kl Z P)(hg:cf Z K)(aO:Z.sh.heap.NoLimit)(cK:cStatics≠Z.tab){a:Addr}{leaf:V}{z:Value}{Q:Value→Shared→Prop}{E:Value→Shared→Prop}(h:cF prog w Z K d P.lam [leaf,x,y] H ĩ v)(hr:œ (d+1) A g)(hL:cG g s)(B:Base Z g s H)(hf:Rep Z.toSta g.k (.g9 [x,y]) (.ref a))(hx:ć Z g leaf z)
  (hq:∀g' s' y,ę g g'→cH g s s'→Base Z g' s' ĩ.H→ć Z g' v y→Q y s'):õ prog w A (call (.ref a) [z]) Q E s:=by
 obtain⟨a',o,fd,c,c₁,c₂,oc,Ň,aF,cN,cM,e0,k1,k2,k3,k4,k5,k6,k7,k8,k9,L4,EU,e1,eO,Qg,MP,e2,fY,e3⟩:=hf;cases e0;cases e3;cases e2;cases e1;rw[LZ.LM]at k3;rw[LZ.OC]at k5;obtain⟨params,body,pm,ctv,rfl,l9⟩:=k3;obtain⟨vs,t,q1,q2⟩:=k5;obtain⟨p1,p2,p3,p4,p5,p6,rfl,rfl⟩:=uD l9;have s7:s.heap.NoLimit:=let ⟨mc,a,b⟩:=aO;⟨mc,B.du a cK,b⟩;refine wpAny_call (kla_callFunE (o:=o) (fd:=kla_fn "<lambda>" Z.lR ⟨[],[⟨"leaf",none,p1⟩],none,[],[],none,[]⟩ (.Call (.Name "leaf_holds" p2) [.Name "leaf" p3,.Name "seen" p4,.Name "context" p5] [] p6) dR [("seen",c₁),("context",c₂)] pm (.ref c) ctv)
  (by have:=hr.depth;exact ä [_,_,_] (.c (.a (.a (.a Â (.m 4 (.a ã Á))) Ĵ) Á) È .z) (.a Â Á) È rfl this) (B.sub k1) k2 rfl rfl rfl ⟨c,oc,vs,t,rfl,B.sub k4,q1,q2⟩ ?_)
 refine BindsTo.of_eq (binds:=[("leaf",z)]) rfl _ _ _ _ ?_;refine wpAny_newFunctionEnv vg (by intro y hy;rw[ė.mp hy];rfl) (fun h' xh xe=>?_) rfl;have hk:∀b o,s.heap.get? b=some o→h'.get? b=some o:=fun b o e=>(xe.2 b (eV (eX e))).trans (ō _ e)
 refine⟨s7.keeps hk,kla_codeExpr ?_⟩;exact FI (env:=newEnv dR s.heap.objs.size mainGlobals [(("seen":Õ),c₁),(("context":Õ),c₂)] (Z.lR++".<locals>.") (some a) (.ref c) none builtinsNs) LZ hg h hr hL B rfl rfl rfl rfl rfl rfl hk xh (by simp) rfl k6 k7 k8 k9 eO fY hx hq
theorem QU(LZ:kl Z P)(hg:cf Z K)(aO:Z.sh.heap.NoLimit)(cK:cStatics≠Z.tab){leaf:V}(h1:Ű prog w Z (d+1) e S Å (.g9 [x,y]))(h2:ĺ prog w Z (d+1) as Å ⟨H,ρ,κ⟩ [leaf])(h3:cF prog w Z K d P.lam [leaf,x,y] H ⟨H₁,á,ë⟩ v):Ű prog w Z (d+1) (.lo e as) S ⟨H₁,ρ,κ⟩ v:=by
 intro cx X env A g s Q E hx C hq;obtain⟨f,np,ys,p,j,rfl,hp,hf,rfl,e1⟩:=iv hx;have hu:er cx (.Name f np)=.l j:=by
  show OB cx f=_;unfold OB;rw[hf]
 refine av (h1 _ _ _ _ _ _ _ _ hu C fun Ü ò ŵ Ñ Ï ô=>?_);have O6:=ô;obtain⟨a,o,fd,c,c₁,c₂,oc,Ň,aF,cN,cM,rfl,k1,k2,k3⟩:=ô;refine Calls.callWith_function (o:=o) (fd:=fd) (ı (plain_any hp) ?_);refine h2 _ _ _ _ _ _ _ _ _ e1 hp Ï fun ó Ļ xs ù è ů=>⟨⟨è.base.sub (ù.k _ _ k1),k2⟩,?_⟩;obtain⟨z,rfl,bH⟩:=IB ů;refine Bf LZ hg aO cK h3 è.r è.i.gD è.base (Rep.mono ù.k O6) bH fun İ iU y ł ua Ŝ bH=>?_;exact hq _ _ _ (Ñ.trans (ù.trans ł.toGst)) (è.fG ł ua Ŝ) bH
end
section
variable{g g' gE:Gh}{s s' sE:Shared}{S:St}{H H' H₁ HE:List Cell}{d D j:Nat}{vs vs':List V}{v:V}{h:Heap}{a:Addr}{o:Obj}{x:Role}
noncomputable def į:Role→Bool
 |.cell _=>true
 |.cV _=>true
 |_=>false
def Gh.hide(g:Gh)(h:Heap):Gh where
 r a:=if į (g.r a)then aW (h.get? a)else g.r a
 as:=[]
 L:=g.L
 cs:=g.cs
def Gh.hN(g gE:Gh):Gh where
 r a:=if į (g.r a)then g.r a else if į (gE.r a)then .free else gE.r a
 as:=g.as
 L:=g.L
 cs:=g.cs
theorem ma(e:į (g.r a)=false):(g.hide h).r a=g.r a:=if_neg (e▸jH)
theorem bX(e:g.r a=x)(n:į x=false):(g.hide h).r a=x:=(ma (e▸n)).trans e
theorem gf(e:į (g.r a)=true)(ho:h.get? a=some o):(g.hide h).r a=.held o:=(if_pos e).trans (congrArg aW ho)
theorem iY(e:į (g.r a)=true):(g.hN gE).r a=g.r a:=if_pos e
theorem fw(e:į (g.r a)=false)(e':į (gE.r a)=false):(g.hN gE).r a=gE.r a:=(if_neg (e▸jH)).trans (if_neg (e'▸jH))
theorem BO(g:Gh):aP g.k (g.hide h).k:=fun a o e=>Gh.Ř (bX (Gh.aN e) rfl)
theorem Base.gk(B:Base Z g s H)(q:į (g.r a)=true):∃o,s.heap.get? a=some o:=B.alive a fun e=>by rw[e]at q;exact â q
theorem Base.hide(B:Base Z g s H):Base Z (g.hide s.heap) s []:=by
 have inv:∀{a x},(g.hide s.heap).r a=x→vq x=false→g.r a=x:=fun {a x} e n=>by
  induction q:į (g.r a)using ñ with
  |false=>rw[ma q]at e;exact e
  |true=>
   obtain⟨o,ho⟩:=B.gk q;rw[gf q ho]at e;rw[←e]at n;exact ĕ n
 refine⟨B.vd,B.old,fun a o e n=>bX (B.top a o e n) rfl,⟨bX B.tab.1 rfl,?_⟩,fun a o e=>B.Ô a o (inv e rfl),fun a o e=>B.kept a o (inv e rfl),fun a o e=>?_,fun a l=>B.alive a fun e=>l (bX e rfl),rfl,fun i c e=>nomatch e⟩
 ·obtain⟨ps,h1,h2⟩:=B.tab.2;exact⟨ps,h1,h2.imp id fun ⟨c,oc,e1,e2,e3⟩=>⟨c,oc,e1,BO g _ _ e2,e3⟩⟩
 ·induction q:į (g.r a)using ñ with
  |false=>rw[ma q]at e;exact B.held a o e
  |true=>
   obtain⟨o',ho⟩:=B.gk q;rw[gf q ho]at e;exact Role.held.inj e▸ho
theorem s8(e:ę (g.hide s.heap) gE):ę g (g.hN gE):=by
 have go:∀{a x},g.r a=x→į x=false→((g.hide s.heap).r a=x→gE.r a=x)→(g.hN gE).r a=x:=fun {a x} h1 h2 h4=>by
  have q:=h4 (bX h1 h2);exact(fw (h1▸h2) (q▸h2)).trans q
 exact⟨⟨fun a o q=>Gh.Ř (go (Gh.aN q) rfl fun h=>Gh.aN (e.k a o (Gh.Ř h))),fun a o q=>go q rfl (e.kept a o),fun a o q=>go q rfl (e.held a o),⟨[],(Ŵ _).symm⟩,rfl,rfl,fun a q=>go q rfl (e.loc a)⟩,fun a i q=>go q rfl (e.var a i)⟩
theorem xi(B:Base Z g s H)(e:ę (g.hide s.heap) gE):aP gE.k (g.hN gE).k:=fun a o q=>by
 have q:=Gh.aN q
 induction c:į (g.r a)using ñ with
 |false=>exact Gh.Ř ((fw c (q▸rfl)).trans q)
 |true=>
  obtain⟨o',ho⟩:=B.gk c;have:=e.held a o' (gf c ho);rw[q]at this;exact neT Role.ctorIdx this rfl
theorem yP(k:cH (g.hide h) s sE):cH g s sE:=fun a o r ho=>k a o (r.imp (fun q=>bX q rfl) fun ⟨i,q⟩=>⟨i,bX q rfl⟩) ho
theorem kZ(q:(g.hN gE).r a=x)(h1:į x=false)(h2:x≠.free):gE.r a=x:=by
 induction c:į (g.r a)using ñ with
 |true=>rw[iY c]at q;rw[q,h1]at c;exact â c
 |false=>
  induction c':į (gE.r a)using ñ with
  |true=>exact absurd (q.symm.trans ((if_neg (c▸jH)).trans (if_pos c'))) h2
  |false=>rw[fw c c']at q;exact q
theorem Base.hN(B:Base Z g s H)(e:ę (g.hide s.heap) gE)(BE:Base Z gE sE HE):Base Z (g.hN gE) sE H:=by
 have S:=s8 e;have hE:∀{a o},į (g.r a)=true→s.heap.get? a=some o→sE.heap.get? a=some o:=fun c ho=>BE.held _ _ (e.held _ _ (gf c ho))
 refine⟨BE.vd,BE.old,fun a o h1 h2=>Gh.aN (S.k a o (Gh.Ř (B.top a o h1 h2))),⟨(fw (B.tab.1▸rfl) (BE.tab.1▸rfl)).trans BE.tab.1,?_⟩,fun a o q=>BE.Ô a o (kZ q rfl (by simp)),fun a o q=>BE.kept a o (kZ q rfl (by simp)),fun a o q=>BE.held a o (kZ q rfl (by simp)),fun a l=>?_,B.len,fun i c q=>?_⟩
 ·obtain⟨ps,h1,h2⟩:=BE.tab.2;exact⟨ps,h1,h2.imp id fun ⟨c,oc,e1,e2,e3⟩=>⟨c,oc,e1,xi B e _ _ e2,e3⟩⟩
 ·induction c:į (g.r a)using ñ with
  |true=>
   obtain⟨o,ho⟩:=B.gk c;exact⟨o,hE c ho⟩
  |false=>exact BE.alive a fun e'=>l ((fw c (e'▸rfl)).trans e')
 ·obtain⟨a,ha,x⟩:=B.cells i c q;refine⟨a,ha,x.to S.k (fun b e=>(iY (e▸rfl)).trans e) (fun b e=>(iY (e▸rfl)).trans e) fun b o e q=>?_⟩;rcases e with e|e<;>exact hE (e▸rfl) q
theorem œ.hide(R:œ d A g)(h:Heap):œ d A (g.hide h):=by
 refine⟨R.hd,R.depth,R.units,?_⟩;obtain⟨l,a,b⟩:=R.frames;refine⟨l,a,fun e he=>?_⟩;obtain⟨k,L,h1,h2⟩:=b e he;exact⟨k,L,h1,h2.imp (fun q=>⟨bX q.1 rfl,q.2⟩) fun ⟨o,es,n,q1,q2⟩=>⟨o,es,n,bX q1 rfl,q2⟩⟩
theorem œ.le(R:œ d A g)(h:D≤d):œ D A g:=⟨R.hd,Ń (Nat.add_le_add_right (Kj (Nat.mul_le_mul_left 4 h) _) 2) R.depth,Ń (Nat.add_le_add_right (Kj (Nat.mul_le_mul_left 20 h) _) 30) R.units,R.frames⟩
theorem EO(h1:D≤d)(h2:ē H vs=some (H₁,vs'))(h3:cF prog w Z K D j vs' [] S v)(h4:Ð v=true):cF prog w Z K d j vs H ⟨H₁,[],[]⟩ v:=by
 intro A g s xs Q E hr hL B hx hq;refine Base.eH B h2 hx fun Ü Å vZ eO=>?_;refine h3 _ _ _ _ _ _ ((hr.mono Å.toGst).le h1 |>.hide s.heap) (by unfold cG;rw[show(Ü.hide s.heap).L=g.L from Å.L];exact hL) vZ.hide (ß.v7 (eO.mono (BO Ü))) fun gE sE y SE KE BE VE=>?_;have R:Rep Z.toSta gE.k v y:=by
  induction v using V.casesOn with
  |Ó i=>exact â h4
  |_=>exact VE
 refine hq _ _ _ (Å.trans (s8 SE)) (fun a o r e=>yP KE a o (r.imp (Å.loc a) fun ⟨i,q⟩=>⟨i,Å.var a i q⟩) e) (vZ.hN SE BE) (R.mono (xi vZ SE)).iM
end
section
set_option maxRecDepth 100000
section
variable{M:Model}{E:Value→Shared→Prop}{h:Heap}{g:Array GenState}{d:Drawn}{t:Nat}{os:OsState}
variable{nm q:Õ}{C N:Addr}{bs bm tl:List Value}{mf:Bool}{sn:List Õ}{sub:List Value}{ab:Bool}{col:Option Bool}{dd:Option Addr}{k0 k1 k2 k3 k5:Option Value}{newId:String}
inductive nr(h:Heap)(a:Addr)(mA:Õ→Option Value):Prop
 |mk (c0:Value) (dd:Option Addr) (cd:ClassData) (sl:Array (Option Value)) (hA:h.get? a=some {cls:=c0,dict:=dd,data:=.cls cd,slots:=sl}) (hn:h.Ns cd.ns mA)
theorem nr.keeps{h':Heap}{a:Addr}{mA:Õ→Option Value}(T:nr h a mA)(hk:∀b o,h.get? b=some o→h'.get? b=some o):nr h' a mA:=by
 obtain⟨c0,dd,cd,sl,hA,hn⟩:=T;exact⟨c0,dd,cd,sl,hk _ _ hA,hn.keeps hk⟩
theorem mY{a:Addr}{mN mA:Õ→Option Value}{name:Õ}{v:Value}{Q:Option Value→Shared→Prop}(hC:h.get? C=some (excClassObj nm q C N bs (.ref a::tl) mf sn sub ab col dd k0 k1 k2 k3 k5 newId))(hn:h.Ns N mN)(h0:mN name=none)(T:nr h a mA)(h1:mA name=some v)
  (hq:Q (some v) ⟨h,g,d,t,os⟩):wpAny M A (typeLookup (.ref C) name) Q E ⟨h,g,d,t,os⟩:=by
 obtain⟨c0,dd',cd,sl,hA,Tz⟩:=T;rw[typeLookup_eq];refine wpAny_bind (wpAny_mroOf_exc hC ?_);rw[lookupAlong_cons];refine wpAny_bind (wpAny_classOwn_exc hC hn ?_);rw[h0,lookupAlong_cons];refine wpAny_bind (wpAny_classOwn_cls hA Tz ?_);rw[h1];exact wpAny_pure hq
theorem ie{a:Addr}{mN mA:Õ→Option Value}{name:Õ}{y:Option Value}{Q:Option Value→Shared→Prop}(hC:h.get? C=some (excClassObj nm q C N bs (.ref a::tl) mf sn sub ab col dd k0 k1 k2 k3 k5 newId))(hn:h.Ns N mN)(h0:mN name=none)(T:nr h a mA)(h1:mA name=none)
  (l_:lookupAlong tl name=pure y)(hq:Q y ⟨h,g,d,t,os⟩):wpAny M A (typeLookup (.ref C) name) Q E ⟨h,g,d,t,os⟩:=by
 obtain⟨c0,dd',cd,sl,hA,Tz⟩:=T;rw[typeLookup_eq];refine wpAny_bind (wpAny_mroOf_exc hC ?_);rw[lookupAlong_cons];refine wpAny_bind (wpAny_classOwn_exc hC hn ?_);rw[h0,lookupAlong_cons];refine wpAny_bind (wpAny_classOwn_cls hA Tz ?_);rw[h1,l_];exact wpAny_pure hq
end
section
variable{E:Value→Shared→Prop}{h:Heap}{g:Array GenState}{d:Drawn}{t:Nat}{os:OsState}
variable{nm q:Õ}{C N:Addr}{bs bm pD:List Value}{mf:Bool}{sn:List Õ}{sub:List Value}{ab:Bool}{col:Option Bool}{dd:Option Addr}{k0 k1 k2 k3 k5:Option Value}{B newId fP:String}
structure zp(C:Addr)(bm:List Value)(B:String):Prop where
 b:(Value.ref C::bm).contains (.type B)=true
 a:(Value.ref C::bm).contains (.type "AttributeError")=false
 n:(Value.ref C::bm).contains (.type "NameError")=false
theorem zp.of{a:Addr}(F:ExcBaseFacts B newId fP pD):zp C (.ref a::pD) B:=
 ⟨by rw[sF,sF,F.hasB,Bool.or_true,Bool.or_true],by rw[sF,sF,F.noAttr];rfl,by rw[sF,sF,F.noName];rfl⟩
theorem IA{M:Model}{α:Type}{c:Bool}{X Y:Sem α}{Q:α→Shared→Prop}{s:Shared}(h:c=true)(k:wpAny M A X Q E s):wpAny M A (if c=true then X else Y) Q E s:=by rw[h];exact k
theorem Hf{M:Model}{α:Type}{c:Bool}{X Y:Sem α}{Q:α→Shared→Prop}{s:Shared}(h:c=false)(k:wpAny M A Y Q E s):wpAny M A (if c=true then X else Y) Q E s:=by rw[h];exact k
theorem kn{M:Model}{n:String}{Q:Bool→Shared→Prop}(hC:h.get? C=some (excClassObj nm q C N bs bm mf sn sub ab col dd k0 k1 k2 k3 k5 newId))(hb:(Value.ref C::bm).contains (.type n)=true)(hq:Q true ⟨h,g,d,t,os⟩):wpAny M A (isSubtype (.ref C) (.type n)) Q E ⟨h,g,d,t,os⟩:=wpAny_isSubtype_exc hC (hb.symm▸hq)
theorem zX{M:Model}{n:String}{Q:Bool→Shared→Prop}(hC:h.get? C=some (excClassObj nm q C N bs bm mf sn sub ab col dd k0 k1 k2 k3 k5 newId))(hb:(Value.ref C::bm).contains (.type n)=false)(hq:Q false ⟨h,g,d,t,os⟩):wpAny M A (isSubtype (.ref C) (.type n)) Q E ⟨h,g,d,t,os⟩:=wpAny_isSubtype_exc hC (hb.symm▸hq)
theorem vH{M:Model}(F:ExcBaseFacts B newId fP pD)(T:zp C bm B){rest:List Value}{Q:Unit→Shared→Prop}(hC:h.get? C=some (excClassObj nm q C N bs bm mf sn sub ab col dd k0 k1 k2 k3 k5 newId))
  (hq:Q () ⟨h,g,d,t,os⟩):wpAny M A (checkBuiltinCall newId ⟨.ref C::rest,[]⟩) Q E ⟨h,g,d,t,os⟩:=by
 have V9:=F.noStar;unfold checkBuiltinCall;rw[F.newKind,F.newSplit,F.newRow];refine IA (beq_self_eq_true "__new__") ?_
 repeat (first|refine wpAny_loadPart_at hC ?_|refine kn hC T.b ?_|refine wpAny_staticBase_exc hC ?_|refine wpAny_madeBy_exc hC ?_|refine Hf (bne_self_eq_false _) ?_|refine Hf rfl ?_|wp_step)
 exact hq
theorem B8{R:Result→Shared→Prop}(F:ExcBaseFacts B newId fP pD)(T:zp C bm B){rest:List Value}(hC:h.get? C=some (excClassObj nm q C N bs bm mf sn sub ab col dd k0 k1 k2 k3 k5 newId))
  (hq:R (.ok (.ret (.ref (h.objs.size+1)))) ⟨(h.push {cls:=.type "tuple",data:=.seq rest.toArray}).push {cls:=.ref C,data:=.fields #[.ref h.objs.size,.none,.none,.none,.bool false,.none]},g,d,t,os⟩)(l_:rest.length≤sizeLine):
  codeAny (model prog w) A (.builtin newId ⟨.ref C::rest,[]⟩) R ⟨h,g,d,t,os⟩:=by
 have Wn:=F.ends;have Z5:=T.b;have Z6:=T.a;have Z3:=T.n;refine codeAny_builtinAt F.entry ?_;unfold Builtin.«BaseException.__new__»;refine PySem.wpAt_bind ?_;show PySem.wpAt _ _ _ (stack>>=_) _ _ _;refine PySem.wpAt_bind (PySem.wpAt_stack fun p below=>PySem.wpAt_of_wpAny ?_);wp_walk;refine PySem.wpAt_of_wpAny ?_;rw[F.owner]
 repeat (first|with_reducible refine wpAny_madeHere_exc F.canon hC ?_|with_reducible refine wpAny_loadPart_at hC ?_|with_reducible refine kn hC Z5 ?_|with_reducible refine zX hC Z6 ?_|with_reducible refine zX hC Z3 ?_|wp_step)
 show R _ _;rw[Heap.size_push];exact hq
theorem iV{a:Addr}(F:ExcBaseFacts B newId fP pD){mN mA:Õ→Option Value}{rest:List Value}{fI:Addr}{oI:Obj}{Q:Fin→Shared→Prop}
  (hC:h.get? C=some (excClassObj nm q C N bs (.ref a::pD) mf sn sub ab col dd k0 k1 k2 k3 k5 newId))(hn:h.Ns N mN)(h0:mN "__init__"=none)(T:nr h a mA)(h1:mA "__init__"=some (.ref fI))(NZ:h.get? fI=some oI)(Ti:oI.cls=.type "function")
  (hq:∀h' e,Heap.MadeExcOf h h' e (.ref C) rest→wpAny (model prog w) A (call (.ref fI) (.ref e::rest)) (fun r s'=>r=.none∧Q (.done (.ret (.ref e))) s') E ⟨h',g,d,t,os⟩)(l_:rest.length≤sizeLine):
  wpAny (model prog w) A (Builtin.«type.__call__» ⟨.ref C::rest,[]⟩) Q E ⟨h,g,d,t,os⟩:=by
 have M2:zp C (.ref a::pD) B:=.of F
 repeat (first|with_reducible refine wpAny_loadPart_at hC ?_|with_reducible refine wpAny_madeBy_exc hC ?_|wp_step)
 refine codeAny_call_builtin_code (Code.quiet_builtin _ F.quiet) (vH F M2 hC ?_);refine B8 F M2 hC ?_ l_;show wpAny _ _ _ _ _ _;generalize hh:(h.push {cls:=.type "tuple",data:=.seq rest.toArray}).push {cls:=.ref C,data:=.fields #[.ref h.objs.size,.none,.none,.none,.bool false,.none]}=cR;have hk:∀b o,h.get? b=some o→cR.get? b=some o:=fun b o e=>hh▸ō _ (ō _ e)
 have NW:cR.get? (h.objs.size+1)=some {cls:=.ref C,data:=.fields #[.ref h.objs.size,.none,.none,.none,.bool false,.none]}:=by rw[←hh];heap_get
 have vr:cR.get? h.objs.size=some {cls:=.type "tuple",data:=.seq rest.toArray}:=by rw[←hh];exact ō _ (Heap.get?_push_at rfl rfl)
 have HO:=hk _ _ hC;have Z4:(Value.ref C::.ref a::pD).contains (.ref C)=true:=by simp
 unfold isInstance
 repeat (first|with_reducible refine wpAny_loadPart_at NW ?_|(with_reducible refine wpAny_isSubtype_exc HO ?_;rw[Z4])|wp_step)
 show wpAny _ _ (typeLookup (.ref C) _) _ _ _;refine mY HO (hn.keeps hk) h0 (T.keeps hk) h1 ?_;refine wpAny_holding (wpAny_bind ?_);unfold bindSpecial;refine wpAny_bind (wpAny_typeOf (T:="function") ⟨_,hk _ _ NZ,Ti⟩ ?_);rw[if_pos (by decide)];refine wpAny_pure (wpAny_bind (wpAny_mono (hq _ (h.objs.size+1) ⟨hk,Heap.get?_none_of_le (Nat.le_succ _),h.objs.size,NW,Heap.get?_none_of_le (Ų _),vr⟩) (fun r s' hr=>?_) fun À À x=>x));obtain⟨rfl,hQ⟩:=hr;wp_walk;exact hQ
theorem tL{a:Addr}(F:ExcBaseFacts B newId fP pD){mN mA:Õ→Option Value}{rest:List Value}{fI:Addr}{oI:Obj}{Q:Value→Shared→Prop}
  (hC:h.get? C=some (excClassObj nm q C N bs (.ref a::pD) mf sn sub ab col dd k0 k1 k2 k3 k5 newId))(hn:h.Ns N mN)(h0:mN "__init__"=none)(T:nr h a mA)(h1:mA "__init__"=some (.ref fI))(NZ:h.get? fI=some oI)(Ti:oI.cls=.type "function")
  (hq:∀h' e,Heap.MadeExcOf h h' e (.ref C) rest→wpAny (model prog w) (A.under (.builtin "type.__call__" ⟨.ref C::rest,[]⟩)) (call (.ref fI) (.ref e::rest)) (fun r s'=>r=.none∧Q (.ref e) s') E ⟨h',g,d,t,os⟩)(l_:rest.length≤sizeLine):
  wpAny (model prog w) A (call (.ref C) rest) Q E ⟨h,g,d,t,os⟩:=by
 have f1:=tc_lookup;have f2:=tc_bind (.ref C);have hT:(⟨h,g,d,t,os⟩:Shared).TypeIs (.ref C) "type":=⟨_,hC,rfl⟩;refine wpAny_call (codeAny_of_tree ?_);show wpAny _ _ (callAny (.ref C) _) _ _ _
 repeat (any_goals (first|assumption|with_reducible refine wpAny_loadPart_at hC ?_|wp_step))
 refine⟨rfl,?_⟩;exact codeAny_call_builtin_at (Code.quiet_builtin _ (by decide+kernel)) entry_typeCall (wpAny_check_type_call_sub hC (iV F hC hn h0 T h1 NZ Ti (fun h' e hm=>hq h' e hm) l_))
end
end
section
set_option maxRecDepth 100000
open Builtin Builtin.ObjectAttr
section
variable{E:Value→Shared→Prop}{h:Heap}{g:Array GenState}{d:Drawn}{t:Nat}{os:OsState}
variable{nm q:Õ}{C N a x:Addr}{bs pD:List Value}{sn:List Õ}{sub:List Value}{ab:Bool}{col:Option Bool}{dd:Option Addr}{k0 k1 k2 k3 k5:Option Value}{B newId sa owner:String}
 {mN mA mX:Õ→Option Value}{name:Õ}{v:Value}
theorem tS(SF:StoreFacts B pD sa owner){n:Õ}{y:Option Value}(h:typeLookup (.type B) n=pure y):lookupAlong pD n=pure y:=by rw[typeLookup_eq,SF.mro]at h;exact h
theorem pZ{tk:Tok}{Q:Fin→Shared→Prop}{ns:List Õ}(SF:StoreFacts B pD sa owner)(hC:h.get? C=some (excClassObj nm q C N bs (.ref a::pD) true sn sub ab col dd k0 k1 k2 k3 k5 newId))(hn:h.Ns N mN)(h0:mN name=none)(T:nr h a mA)(h1:mA name=none)
  (hB:typeLookup (.type B) name=pure none)(I:h.Inst x C mX)
  (hq:∀h' kW o Ň dx,h.get? x=some o→h'.get? x=some Ň→Ň.cls=o.cls→Ň.data=o.data→Ň.dict=some dx→dx≠x→h'.Ns1 dx (fun y=>if y=name then some v else mX y)→(o.dict=some dx∨h.get? dx=none)→
   (∀b o,b≠x→b≠dx→h.get? b=some o→h'.get? b=some o)→Q (.done (.ret .none)) ⟨h',g,d,kW,os⟩)(hw:Within mX ns)(o_:ns.length≤1000):
  wpAny (model prog w) A (Builtin.«object.__setattr__» ⟨[.ref x,.str name tk,v],[]⟩) Q E ⟨h,g,d,t,os⟩:=by
 (obtain⟨o,uk⟩:=I;have hx:=uk.1;have hc:=uk.2.1;have Te:=uk.2.2.1;have hd:=uk.2.2.2;try clear uk;try clear I)
 have NP:=SF.passes (.ref x);have N4:=tS SF hB;unfold Builtin.«object.__setattr__»
 repeat (first|rw[refuse_eq]|(rw[refuseLoop_ref,refuseLoop_ref,NP])|(with_reducible refine wpAny_loadPart_at hx ?_;rw[hc])|with_reducible refine wpAny_mroOf_exc hC ?_|with_reducible refine ie hC hn h0 T h1 N4 ?_|wp_step)
 rcases hd with⟨HI,ZO⟩|⟨dx,Tj,dX,xh⟩
 ·rw[HI,if_neg (by simp[typeHasDict])]
  split
  ·rename_i KL;cases KL
  split
  ·rename_i c KL;exact absurd KL (Te c)
  ·have NG:x≠h.objs.size:=eV (eX hx);refine wpAny_bind (wpAny_alloc' ?_);refine wpAny_bind (wpAny_update' (ō _ hx) (wpAny_pure ?_));have ZU:=(Heap.get?_update_ne (h.push {cls:=.type "dict",data:=.dict #[]}) _ x (fun o:Obj=>{cls:=o.cls,dict:=some h.objs.size,data:=o.data,slots:=o.slots}) NG.symm).trans (Heap.get?_push_at (h:=h) rfl rfl);show wpAny _ _ (storeInDict h.objs.size (.str name tk) name v) _ _ _;unfold storeInDict newKeyGuard;refine wpAny_bind (wpAny_pure (wpAny_bind (wpAny_nsSet1 (Heap.Ns1.of_empty ⟨_,#[],_,ZU,rfl,fun e he=>absurd he (by simp),fun À=>rfl⟩) fun h' LV hs=>?_)))
   (obtain⟨oD,uk⟩:=LV.count (Within.cons name v Within.nil);obtain⟨esD,L3⟩:=uk;obtain⟨epD,ug⟩:=L3;have Tc:=ug.1;have To:=ug.2.1;have Ts:=ug.2.2;try clear ug)
   refine wpAny_bind (wpAny_lookBehind Tc (by rw[To];exact pastItsLine_dict (ă Ts (by rw[Ă,cB,sizeLine_eq];exact Ĭ _))) ?_);wp_walk;refine hq h' _ o _ h.objs.size hx ((hs.2 x NG).trans (Heap.get?_update_self _ (ō _ hx) ?_)) rfl rfl rfl NG.symm ?_ (.inr (Heap.get?_none_of_le (Ų _))) fun b ob Wu Tt hb=>?_
   ·have ZV:=(Heap.get?_some_iff.mp hx).2;obtain⟨oc,od,Y8,osl⟩:=o
    induction Y8 using PySem.Data.casesOn<;>first|rfl|exact ZV
   ·(obtain⟨o',uk⟩:=LV;obtain⟨es,L3⟩:=uk;obtain⟨ep,ug⟩:=L3;have e1:=ug.1;have e2:=ug.2.1;have e3:=ug.2.2.1;have eu:=ug.2.2.2.1;have e4:=ug.2.2.2.2;try clear ug;try clear LV)
    exact⟨o',es,ep,e1,e2,e3,eu,fun y=>by rw[e4 y];by_cases hy:y=name<;>simp[hy,ZO]⟩
   ·exact(hs.2 b Tt).trans ((Heap.get?_update_ne _ _ _ _ Wu).trans (ō _ hb))
 ·rw[Tj];refine wpAny_pure ?_;show wpAny _ _ (storeInDict dx (.str name tk) name v) _ _ _;unfold storeInDict newKeyGuard;refine wpAny_bind (wpAny_pure (wpAny_bind (wpAny_nsSet1 xh fun h' LV hs=>?_)))
  (obtain⟨oD,uk⟩:=LV.count (Within.cons name v hw);obtain⟨esD,L3⟩:=uk;obtain⟨epD,ug⟩:=L3;have Tc:=ug.1;have To:=ug.2.1;have Ts:=ug.2.2;try clear ug)
  refine wpAny_bind (wpAny_lookBehind Tc (by rw[To];exact pastItsLine_dict (ă Ts (by rw[Ă,sizeLine_eq];exact Ń ‹_› (by decide)))) ?_);wp_walk;exact hq h' _ o o dx hx ((hs.2 x dX.symm).trans hx) rfl rfl Tj dX LV (.inl Tj) fun b ob Wu Tt hb=>(hs.2 b Tt).trans hb
theorem I9{Q:Unit→Shared→Prop}{ns:List Õ}(SF:StoreFacts B pD sa owner)(Tb:(Value.ref C::.ref a::pD).contains (.type owner)=true)(hC:h.get? C=some (excClassObj nm q C N bs (.ref a::pD) true sn sub ab col dd k0 k1 k2 k3 k5 newId))(hn:h.Ns N mN)(s0:mN "__setattr__"=none)(h0:mN name=none)
  (T:nr h a mA)(s1:mA "__setattr__"=none)(h1:mA name=none)(hB:typeLookup (.type B) name=pure none)(I:h.Inst x C mX)
  (hq:∀h' kW o Ň dx,h.get? x=some o→h'.get? x=some Ň→Ň.cls=o.cls→Ň.data=o.data→Ň.dict=some dx→dx≠x→h'.Ns1 dx (fun y=>if y=name then some v else mX y)→(o.dict=some dx∨h.get? dx=none)→
   (∀b o,b≠x→b≠dx→h.get? b=some o→h'.get? b=some o)→Q () ⟨h',g,d,kW,os⟩)(hw:Within mX ns)(o_:ns.length≤1000):
  wpAny (model prog w) A (setAttr (.ref x) name v) Q E ⟨h,g,d,t,os⟩:=by
 (obtain⟨o,uk⟩:=id I;have hx:=uk.1;have hc:=uk.2.1;try clear uk)
 have f3:=SF.slot.bind (.ref x);unfold setAttr callSpecial? specialOf
 repeat (any_goals (first|assumption|(with_reducible refine wpAny_loadPart_at hx ?_;rw[hc])|with_reducible refine ie hC hn s0 T s1 (tS SF SF.slot.lookup) ?_|wp_step))
 refine codeAny_call_builtin SF.slot.plain SF.entry ?_;have ha:=SF.args (.ref x) (.str name t) v;unfold checkBuiltinCall;rw[SF.kind,SF.split];refine wpAny_bind ?_;unfold isInstance
 repeat (first|(with_reducible refine wpAny_loadPart_at hx ?_;rw[hc])|with_reducible refine kn hC Tb ?_|wp_step)
 refine wpAny_of_eq (a:=()) ?_ (pZ SF hC hn h0 T h1 hB I (fun h' kW o Ň dx a1 a2 a3 a4 a5 a6 a7 a8 a9=>?_) hw o_)
 ·induction S7:Manifest.signature? sa using ş with
  |none=>rfl
  |some sig=>simp only[argsOk,S7]at ha;exact ha
 exact wpAny_pure (wpAny_pure (hq h' kW o Ň dx a1 a2 a3 a4 a5 a6 a7 a8 a9))
end
end
section
variable{st:St}{H H':List Cell}{l:List Env}{e:Addr}{h h':Heap}
noncomputable def isFree:Role→Bool
 |.free=>true
 |_=>false
theorem yK{x:Role}(h:isFree x=true):x=.free:=by induction x using Role.casesOn<;>first|rfl|(exact â h;done)
def fa(g:Gh)(l:List Env)(a:Addr):Bool:=isFree (g.r a)||(l.filterMap (·.frame)).contains a
def d6(g:Gh)(l:List Env)(h:Heap):Heap:=⟨h.objs.mapIdx fun a o=>match fa g l a with|true=>{o with data:=.freed}|false=>o,h.life⟩
theorem fV{a:Addr}(k:fa g l a=true):(d6 g l h).get? a=none:=by
 unfold d6 Heap.get?;rw[Array.getElem?_mapIdx,k]
 induction h.objs[a]? using ş<;>rfl
theorem qQ{a:Addr}(k:fa g l a=false):(d6 g l h).get? a=h.get? a:=by
 unfold d6 Heap.get?;rw[Array.getElem?_mapIdx,k]
 induction h.objs[a]? using ş<;>rfl
theorem zc{a:Addr}{o:Obj}(q:(d6 g l h).get? a=some o):fa g l a=false∧h.get? a=some o:=by
 induction k:fa g l a using ñ with
 |true=>rw[fV k]at q;exact nS q
 |false=>exact⟨rfl,(qQ k).symm.trans q⟩
theorem h_{a:Addr}(k:g.r a=.free):fa g l a=true:=by unfold fa;rw[k];rfl
theorem uR{a:Addr}(k:fa g l a=true):g.r a=.free∨a∈l.filterMap (·.frame):=by
 rcases lU.mp k with q|q
 ·exact .inl (yK q)
 ·exact .inr (List.contains_iff_mem.mp q)
theorem mh(B:Base Z g s H)(L:cG g s):∀{l:List Env},aL g l→(∀b,b∈l.filterMap (·.frame)→fa g l b=true)→∀m,(∀b∈m,b∈l)→Heap.FunFrames s.heap (d6 g l s.heap) m
 |l,F,k,[],_=>trivial
 |l,F,k,e::r,hm=>by
  obtain⟨h1,L',h2,h3⟩:=F e (hm e (.head _));have hb:L'∈l.filterMap (·.frame):=List.mem_filterMap.mpr ⟨e,hm e (.head _),h2⟩;have ho:∃o,s.heap.get? L'=some o∧∀vs,o.data≠.fields vs:=by
   rcases h3 with⟨q1,q2⟩|⟨o,es,n,q1,q2⟩
   ·obtain⟨o,es,n,a,b⟩:=L;exact⟨o,q2▸a,fun vs x=>by rw[b]at x;cases x⟩
   ·obtain⟨sl,a⟩:=B.kept _ _ q1;exact⟨_,a,fun vs x=>by rw[show _=_ from q2]at x;cases x⟩
  obtain⟨o,a,b⟩:=ho;exact⟨(by rw[h1];exact(fun q=>neT PySem.ScopeKind.ctorIdx q rfl)),⟨L',o,h2,fV (k _ hb),a,b⟩,mh B L F k r fun b hb=>hm b (.tail _ hb)⟩
theorem Fc{b:Addr}(hb:b∈l.filterMap (·.frame)):fa g l b=true:=by unfold fa;rw[List.contains_iff_mem.mpr hb,Bool.or_true]
theorem jj(B:Base Z g s H)(L:cG g s)(F:aL g l):Heap.FunFrames s.heap (d6 g l s.heap) l:=mh B L F (fun À=>Fc) l fun À h=>h
theorem gU:Heap.StaysIn (d6 g l h) h:=fun À À q=>(zc q).2
theorem vv(F:aL g l){b:Addr}(hb:b∈l.filterMap (·.frame)):g.r b=.loc∨∃o,g.r b=.kept o:=by
 obtain⟨e,he,q⟩:=List.mem_filterMap.mp hb;obtain⟨_,L',h2,h3⟩:=F e he;obtain rfl:=ì (q.symm.trans h2);rcases h3 with⟨q1,_⟩|⟨o,_,_,q1,_⟩
 ·exact .inl q1
 ·exact .inr ⟨o,q1⟩
inductive zo:Role→Prop
 |free:zo .free
 |loc:zo .loc
 |kept (o:Obj):zo (.kept o)
structure Vn(x:Role):Prop where
 f:∀o,x≠.Ô o
 t:x≠.tab
 h:∀o,x≠.held o
 c:∀i,x≠.cell i∧x≠.cV i
theorem zo.ne{x:Role}(h:zo x):Vn x:=by
 cases h<;>exact⟨(fun À q=>neT Role.ctorIdx q rfl),(fun q=>neT Role.ctorIdx q rfl),(fun À q=>neT Role.ctorIdx q rfl),fun À=>⟨(fun q=>neT Role.ctorIdx q rfl),(fun q=>neT Role.ctorIdx q rfl)⟩⟩
theorem fE(F:aL g l){a:Addr}(k:fa g l a=true):zo (g.r a):=by
 rcases uR k with q|q
 ·rw[q];exact .free
 ·rcases vv F q with q|⟨o,q⟩<;>rw[q]
  ·exact .loc
  ·exact .kept o
structure ud(Z:Ě)(g:Gh)(s:Shared)(H:List Cell)(h':Heap):Prop where
 base:Base Z g {s with heap:=h'} H
 keep:cH g s {s with heap:=h'}
theorem tn(B:Base Z g s H)(L:cG g s)(F:aL g l)(k1:Heap.StaysIn (d6 g l s.heap) h')(k4:s.heap.UpToSlots h'):ud Z g s H h':=by
 have FF:=jj B L F;have fr:∀b∈l.filterMap (·.frame),∀o,s.heap.get? b=some o→∃sl,h'.get? b=some {o with slots:=sl}:=fun b hb o ho=>by
  obtain⟨_,o',s6,hd⟩:=FF.mem hb;obtain rfl:=ì (s6.symm.trans ho);exact k4 b _ ho hd
 have on:∀b o,fa g l b=false→s.heap.get? b=some o→h'.get? b=some o:=fun b o k e=>k1 b o ((qQ k).trans e)
 have al:∀a,fa g l a=true→g.r a≠.free→a∈l.filterMap (·.frame):=fun a k n=>(uR k).resolve_left n
 refine⟨B.gen (fun b=>fa g l b=true) (fun a k=>⟨(fE F k).ne.f,(fE F k).ne.t⟩) (fun b o nd e=>on b o (oJ.mpr nd) e) (fun À À=>rfl)
  (fun a k=>⟨fun o q=>absurd q ((fE F k).ne.f o),fun o q=>?_,fun o q=>absurd q ((fE F k).ne.h o),fun n=>?_⟩) B.len (fun À À q=>q) (fun i c q=>.inl ⟨q,fun b k=>(fE F k).ne.c i⟩),fun a o r ho=>?_⟩
 ·obtain⟨sl',ho⟩:=B.kept a o q;obtain⟨sl,h⟩:=fr a (al a k fun x=>by rw[x]at q;exact neT Role.ctorIdx q rfl) _ ho;exact⟨sl,h⟩
 ·obtain⟨o',ho⟩:=B.alive a n;obtain⟨sl,h⟩:=fr a (al a k n) _ ho;exact⟨_,h⟩
 ·induction k:fa g l a using ñ with
  |false=>exact⟨o.slots,on a o k ho⟩
  |true=>exact fr a (al a k fun q=>by rcases r with r|⟨i,r⟩<;>rw[q]at r<;>exact neT Role.ctorIdx r rfl) o ho
theorem mj{a0:Value}(k2:h'.FunFrames (d6 g l h) l)(hB:∀a,g.r a≠.free→∃o,h.get? a=some o)(he:g.r e=.free)(k3:h'.TracedW (d6 g l h) e (.ref (fi 7)) a0):Exc Z g h' (.ref e):=by
 obtain⟨oe,vs,T,oT,ts,q1,⟨q2,q3⟩,q4,q5,q6,q7,q8,q9,YT⟩:=k3;refine⟨e,oe,vs,a0,_,rfl,he,q1,q2,q4,q3,q5,.inr ⟨T,oT,ts,rfl,?_,q7,q8,q9,YT⟩⟩;have kT:fa g l T=true:=by
  induction k:fa g l T using ñ with
  |true=>rfl
  |false=>
   have nf:g.r T≠.free:=fun q=>by rw[h_ q]at k;exact ĕ k
   obtain⟨o,ho⟩:=hB T nf;rw[qQ k,ho]at q6;exact sN q6
 rcases uR kT with q|q
 ·exact q
 ·obtain⟨_,o,ho,hd⟩:=k2.mem q;obtain rfl:=ì (ho.symm.trans q8);exact absurd q9 (hd ts)
theorem wJ(C:Ok Z d cx A env g s st){x:Value}(X:Exc Z g s.heap x){Q:Unit→Shared→Prop}{E:Value→Shared→Prop}(hq:∀h',ud Z g s st.H h'→Exc Z g h' x→Q () {s with heap:=h'}):
  õ prog w A (noteFrame x env) (fun À Ğ=>õ prog w A (setFlight x none) Q E Ğ) E s:=by
 obtain⟨a,o,vs,a0,t,rfl,r,q,c,dd,h0,h1,tb⟩:=X;obtain⟨e,l,hA,hf⟩:=C.f;obtain⟨l',hl,F⟩:=C.r.frames;obtain rfl:e::l=l':=ì (hA.symm.trans hl);obtain⟨_,L,hL,_⟩:=F e (.head _);have FF:=jj C.base C.i.gD F;have he:(d6 g (e::l) s.heap).get? a=none:=fV (h_ r);have key:∀bx,Heap.NotedW (d6 g (e::l) s.heap) (e::l) a (.ref (fi 7)) a0 (rawInt L) s.heap bx→õ prog w A (setFlight (.ref a) none) Q E {s with heap:=bx}:=by
  rintro bx ⟨k1,k2,k3,k4⟩
  refine wpAny_setFlight_noneW k1 k2 k3 fun cR j1 j2 j3 j4=>?_;exact hq cR (tn C.base C.i.gD F j1 (Heap.UpToSlots.trans k4 fun b o hb hn=>⟨o.slots,j4 b o hb hn⟩)) (mj j2 C.base.alive r j3)
 rw[show noteFrame (.ref a) env=noteFrame (.ref a) e by unfold noteFrame PySem.frameOf;rw[hf]];rcases tb with rfl|⟨T,oT,ts,rfl,t1,t2,t3,t4,t5⟩
 ·unfold noteFrame;simp only[hL];refine wpAny_bind (wpAny_field q dd h1 ?_);rw[if_neg (by decide)];exact wpAny_entryW hA FF hL q gU he dd (Array.getElem?_eq_some_iff.mp h1).1 h0 (c▸key)
 ·exact wpAny_noteFrame_onW hA FF hL ⟨o,vs,T,oT,ts,q,⟨c,h0⟩,dd,h1,fV (h_ t1),t2,t3,t4,t5⟩ gU he key
theorem yS(C:Ok Z d cx A env g s st){A':Around}{x:Value}(X:Exc Z g s.heap x){Q:Unit→Shared→Prop}{E:Value→Shared→Prop}(hq:∀h',ud Z g s st.H h'→Exc Z g h' x→Q () {s with heap:=h'}):õ prog w A' (setFlight x none) Q E s:=by
 obtain⟨a,o,vs,a0,t,rfl,r,q,c,dd,h0,h1,tb⟩:=X;obtain⟨l,hl,F⟩:=C.r.frames;have FF:=jj C.base C.i.gD F;rcases tb with rfl|⟨T,oT,ts,rfl,t1,t2,t3,t4,t5⟩
 ·unfold setFlight;refine wpAny_bind (wpAny_field q dd h1 (wpAny_pure (hq _ ⟨C.base,fun b o À e=>⟨o.slots,e⟩⟩ ⟨a,o,vs,a0,_,rfl,r,q,c,dd,h0,h1,.inl rfl⟩)))
 ·refine wpAny_setFlight_noneW gU FF ⟨o,vs,T,oT,ts,q,⟨c,h0⟩,dd,h1,fV (h_ t1),t2,t3,t4,t5⟩ fun cR j1 j2 j3 j4=>?_;exact hq cR (tn C.base C.i.gD F j1 fun b o hb hn=>⟨o.slots,j4 b o hb hn⟩) (mj j2 C.base.alive r j3)
theorem Be(C:Ok Z d cx A env g s st){x:Value}(X:Exc Z g s.heap x){Q:Unit→Shared→Prop}{E:Value→Shared→Prop}(hq:∀h',ud Z g s st.H h'→Exc Z g h' x→Q () {s with heap:=h'}):õ prog w A (leaving env x) Q E s:=by
 unfold leaving;exact wpAny_bind (wJ C X hq)
theorem Ok.tn(C:Ok Z d cx A env g s st){h':Heap}(F:ud Z g s st.H h'):Ok Z d cx A env g {s with heap:=h'} st:=C.fG (.refl g) F.keep F.base
end
section
variable{g g' gE:Gh}{s s' sE:Shared}{st S Å:St}{H H' H₁ Ö HE:List Cell}{ρ κ:List (Option V)}{v:V}{LI:List PS}
theorem Exc.to{h:Heap}{x:Value}(k:∀a,g.r a=.free→g'.r a=.free)(X:Exc Z g h x):Exc Z g' h x:=by
 obtain⟨a,o,vs,a0,t,e,r,q,c,dd,h0,h1,tb⟩:=X;exact⟨a,o,vs,a0,t,e,k a r,q,c,dd,h0,h1,tb.imp (fun x=>x) fun ⟨T,oT,ts,t1,t2,t3,t4,t5,t6⟩=>⟨T,oT,ts,t1,k T t2,t3,t4,t5,t6⟩⟩
theorem Em{h:Heap}{L:Addr}{cs:List Addr}(B:Base Z g s H)(N:č s h L cs)(e:Gst (g.down s.heap L cs) gE){a:Addr}(r:gE.r a=.free):(g.up gE).r a=.free:=by
 induction ho:Ů (g.r a)using ñ with
 |true=>
  obtain⟨o,h⟩:=B.own a ho;have:=e.kept a o (cE B N ho h);rw[r]at this;exact neT Role.ctorIdx this rfl
 |false=>exact(iR ho (by rw[r];rfl)).trans r
section
variable(hF:DU Z K P)(aO:Z.sh.heap.NoLimit)(cK:cStatics≠Z.tab)
include hF aO cK
theorem EP{j:Nat}{f:Fn}{vs:List V}(h1:P.fn j=some f)(h2:Ď ⟨H,Ħ f.nl none,Ħ f.nc none⟩ f.ps (padded vs f.mq f.ps.length)=some S)(h3:fj prog w Z d f.body S ⟨H₁,ρ,κ⟩ .exc)(h6:H₁.take H.length=Ö):vR prog w Z K (d+1) j vs H ⟨Ö,[],[]⟩:=by
 intro A g s xs Q E hr hL B hv hq;obtain⟨ob,fd,body,names,dv,F⟩:=hF j f h1;refine mv F aO cK h2 hr hL B hv fun env ĉ cs N C À=>?_;refine h3 _ _ _ _ _ _ _ _ F.eb.symm C ⟨fun gE sE fl GE CE OE=>OE.elim,fun À gE sE x GE CE XE=>?_⟩;refine Be CE XE fun h' FL X'=>?_;subst h6;exact hq _ _ _ ((ur B N GE).take B) (pP B N GE FL.base) ((B.up N GE FL.base).take H.length) (X'.to fun a r=>Em B N GE r)
end
inductive Hb(h:Heap)(fI:Addr):Prop
 |mk (nm q:Õ) (N:Addr) (bs:List Value) (sn:List Õ) (sub:List Value) (ab:Bool) (col:Option Bool) (dd:Option Addr) (k0 k1 k2 k3 k5:Option Value) (mN mA mg mb:Õ→Option Value)
   (hC:h.get? 59=some (excClassObj nm q 59 N bs (.ref 46::[.type "Exception",.type "BaseException",.type "object"]) true sn sub ab col dd k0 k1 k2 k3 k5 "Exception.__new__")) (hn:h.Ns N mN)
   (i0:mN "__init__"=none) (s0:mN "__setattr__"=none) (w0:mN "what"=none) (a0:mN "at"=none) (T:nr h 46 mA) (i1:mA "__init__"=some (.ref fI)) (s1:mA "__setattr__"=none) (w1:mA "what"=none) (a1:mA "at"=none)
   (hg:h.Ns mainGlobals mg) (g1:mg "Exception"=none) (hb:h.Ns builtinsNs mb) (b1:mb "Exception"=some (.type "Exception"))
def ue(Z:Ě)(fI:Addr):Prop:=∀h:Heap,(∀b o,b≠Z.tab→Z.sh.heap.get? b=some o→h.get? b=some o)→Hb h fI
def Sm(g:Gh)(s:Shared)(h:Heap):Prop:=∀b o,g.r b≠.free→s.heap.get? b=some o→h.get? b=some o
theorem ue.at{fI:Addr}{h:Heap}(X:ue Z fI)(B:Base Z g s H)(k:Sm g s h):Hb h fI:=
 X h fun b o n q=>k b o (by rw[B.top b o q n];exact fun x=>nomatch x) (B.Ô b o (B.top b o q n))
theorem Sm.base{h:Heap}(k:Sm g s h)(B:Base Z g s H)(t:Nat):Base Z g {s with heap:=h,toks:=t} H:=by
 refine B.gen (fun a=>g.r a=.free) (fun a q=>⟨fun o x=>(by rw[q]at x;exact neT Role.ctorIdx x rfl),fun x=>(by rw[q]at x;exact neT Role.ctorIdx x rfl)⟩) (fun b o n e=>k b o n e) (fun À À=>rfl) (fun a q=>?_) B.len (fun À À q=>q) fun i c q=>.inl ⟨q,fun b r=>⟨fun x=>(by rw[r]at x;exact neT Role.ctorIdx x rfl),fun x=>(by rw[r]at x;exact neT Role.ctorIdx x rfl)⟩⟩
 rw[q];exact⟨(fun À x=>nomatch x),(fun À x=>nomatch x),(fun À x=>nomatch x),fun x=>absurd rfl x⟩
end
section
set_option maxRecDepth 100000
section
variable{E:Value→Shared→Prop}{h:Heap}{g:Array GenState}{d:Drawn}{t:Nat}{os:OsState}
variable{nm q:Õ}{C N a e:Addr}{bs bm pD:List Value}{mf:Bool}{sn:List Õ}{sub:List Value}{ab:Bool}{col:Option Bool}{dd:Option Addr}{k0 k1 k2 k3 k5:Option Value}{B newId fP:String}
theorem B9(F:ExcBaseFacts B newId fP pD)(T:zp C bm B){rest:List Value}{t0:Addr}{Q:Value→Shared→Prop}(hC:h.get? C=some (excClassObj nm q C N bs bm mf sn sub ab col dd k0 k1 k2 k3 k5 newId))
  (he:h.get? e=some {cls:=.ref C,data:=.fields #[.ref t0,.none,.none,.none,.bool false,.none]})(l_:rest.length≤sizeLine)
  (hq:∀h',(∀b o,b≠e→h.get? b=some o→h'.get? b=some o)→h'.get? e=some {cls:=.ref C,data:=.fields #[.ref h.objs.size,.none,.none,.none,.bool false,.none]}→Q .none ⟨h',g,d,t,os⟩):
  wpAny (model prog w) A (call (.builtin fP) (.ref e::rest)) Q E ⟨h,g,d,t,os⟩:=by
 have S8:=F.noStar;refine wpAny_call (codeAny_call_builtin F.init.plain F.initEntry ?_);unfold checkBuiltinCall;rw[F.initKind,F.initSplit,F.initRow]
 repeat (first|with_reducible refine wpAny_loadPart_at he ?_|with_reducible refine wpAny_loadPart_at hC ?_|with_reducible refine kn hC T.b ?_|wp_step)
 refine wpAny_onRaise ?_;rw[show ∀(a b:String) (n:Nat),Bind.check ⟨.positional,"*",B,.self,[⟨"args",.varPos,false⟩]⟩ a b n (List.map (fun x=>x.fst) ({pos:=Value.ref e::rest}:Args).kw)=pure ()from
  fun a b n=>check_star_args _ _ _ _ _ _]
 refine wpAny_pure ?_;wp_walk;refine hq _ (fun b o Z8 hb=>?_) ?_
 ·rw[Heap.get?_update_other _ _ (Ne.symm Z8)];exact ō _ hb
 ·rw[Heap.get?_update_self _ (ō _ he) rfl];rfl
end
theorem Bv:findCls [] (.type "Exception") (.type "type") "__init__"=some (.val (.builtin "Exception.__init__")):=by kernel_rfl
theorem Bu:typeOf (.type "Exception")=pure (.type "type"):=by first|rfl|kernel_rfl
theorem yM{prog:Program}{w:World}{A:Around}{E:Value→Shared→Prop}{s:Shared}{pl:Sem Bool}{L:Addr}{m:Õ→Option Value}{Q:Value×List Value→Shared→Prop}(hn:s.heap.Ns L m)(h:Q (.builtin "Exception.__init__",[]) {s with toks:=s.toks+1}):
  wpAny (model prog w) A (getMethod (.type "Exception") "__init__" pl) Q E s:=
 method_type (K:=[]) (h₀:={}) ⟨hn,fun b o e=>by simp[Heap.get?]at e,Nat.zero_le _⟩ (fun a o e=>by exact nS e) Bu (by decide+kernel) Bv rfl h
noncomputable def qu:List Stmt:=[.Expr (.Call (.Attribute (.Name "Exception" ⟨8,8,8,17⟩) "__init__" ⟨8,8,8,26⟩) [.Name "self" ⟨8,27,8,31⟩,.Name "what" ⟨8,33,8,37⟩] [] ⟨8,8,8,38⟩) ⟨8,8,8,38⟩,
 .Assign [.Attribute (.Name "self" ⟨9,8,9,12⟩) "what" ⟨9,8,9,17⟩] (.Name "what" ⟨9,20,9,24⟩) ⟨9,8,9,24⟩,.Assign [.Attribute (.Name "self" ⟨10,8,10,12⟩) "at" ⟨10,8,10,15⟩] (.Name "at" ⟨10,18,10,20⟩) ⟨10,8,10,20⟩]
noncomputable def xd:List (Õ×NameKind):=[("self",.local),("what",.local),("at",.local),("Exception",.globalImplicit)]
structure g6(env:Env)(L:Addr)(h:Heap)(e:Addr)(y1 y2:Value):Prop where
 k:env.scope.kind=.function
 sn:env.scope.names=xd
 l:env.locals=L
 g:env.globals=mainGlobals
 b:env.builtins=builtinsNs
 n:∃m,A4 (h.Ns L m) (m "self"=some (.ref e)) (m "what"=some y1) (m "at"=some y2)
section
variable{E:Value→Shared→Prop}{g:Gh}{s:Shared}{H:List Cell}{L e:Addr}{y1 y2:Value}
theorem g6.keep{h h':Heap}(I:g6 env L h e y1 y2)(k:∀o,h.get? L=some o→h'.get? L=some o):g6 env L h' e y1 y2:=by
 obtain⟨m,⟨o,es,ep,q,r⟩,n1,n2,n3⟩:=I.n;exact⟨I.k,I.sn,I.l,I.g,I.b,m,⟨o,es,ep,k o q,r⟩,n1,n2,n3⟩
theorem g6.load(I:g6 env L s.heap e y1 y2){x:Õ}{v:Value}{p:Pos}{Q:Value→Shared→Prop}(hx:(x="self"∧v=.ref e)∨(x="what"∧v=y1)∨(x="at"∧v=y2))(hq:Q v s):õ prog w A (eval (.Name x p) env) Q E s:=by
 obtain⟨m,hm,n1,n2,n3⟩:=I.n;have kd:∀x,xd.lookup x=some .local→env.kindOf x=some .local:=fun x q=>by unfold Env.kindOf;rw[I.sn];exact q
 rcases hx with⟨rfl,rfl⟩|⟨rfl,rfl⟩|⟨rfl,rfl⟩
 ·exact wpAny_Name (wpAny_loadName_local I.k (kd _ (by rfl)) (I.l▸hm) n1 hq) (by decide)
 ·exact wpAny_Name (wpAny_loadName_local I.k (kd _ (by rfl)) (I.l▸hm) n2 hq) (by decide)
 ·exact wpAny_Name (wpAny_loadName_local I.k (kd _ (by rfl)) (I.l▸hm) n3 hq) (by decide)
theorem oZ{fI a0:Addr}{h:Heap}{x:Õ}{v:Value}{tk:Tok}{mX:Õ→Option Value}{ns:List Õ}{p1 p2 p3 p4:Pos}{Q:Flow→Shared→Prop}(X:Hb h fI)(hx:x="what"∨x="at")(I:g6 env L h e y1 y2)(ho:h.Inst e 59 mX)
  (hd:∃o,h.get? e=some o∧o.data=.fields #[.ref a0,.none,.none,.none,.bool false,.none])(hw:Within mX ns)(o_:ns.length≤1000)(hv:(x="what"∧v=y1)∨(x="at"∧v=y2))
  (hq:∀h' kW dx,(∀b o,b≠e→b≠dx→h.get? b=some o→h'.get? b=some o)→((∃o,h.get? e=some o∧o.dict=some dx)∨h.get? dx=none)→h'.Inst e 59 (fun y=>if y=x then some v else mX y)→(∃o,A3 (h'.get? e=some o) (o.data=.fields #[.ref a0,.none,.none,.none,.bool false,.none]) (o.dict=some dx))→
   Q .next ⟨h',s.gens,s.drawn,kW,s.os⟩):õ prog w A (exec (.Assign [.Attribute (.Name "self" p1) x p2] (.Name x p3) p4) env) Q E ⟨h,s.gens,s.drawn,tk,s.os⟩:=by
 obtain⟨nm,q,N,bs,sn,sub,ab,col,dd,k0,k1,k2,k3,k5,mN,mA,mg,mb,hC,hn,i0,s0,w0,Yd,T,i1,s1,w1,a1,hg,g1,hb,b1⟩:=X;refine eQ (aZ rfl) (d_ (.inl rfl)) rfl (I.load (.inr hv) ?_);rw[assign_Attribute];refine wpAny_bind (wpAny_holding (I.load (.inl ⟨rfl,rfl⟩) ?_));refine wpAny_bind (wpAny_standAt (wpAny_bind (wpAny_holding ?_)));have n0:A3 (mN x=none) (mA x=none) (typeLookup (.type "Exception") x=pure none):=by
  rcases hx with rfl|rfl
  ·exact⟨w0,w1,by rw[typeLookup_type,builtinLookup_eq_fast];kernel_rfl⟩
  ·exact⟨Yd,a1,by rw[typeLookup_type,builtinLookup_eq_fast];kernel_rfl⟩
 obtain⟨n1,n2,n3⟩:=n0;refine I9 PySem.F.store_Exception rfl hC hn s0 n1 T s1 n2 n3 ho (fun h' kW o Ň dx j1 j2 j3 j4 j5 j6 j7 j8 j9=>?_) hw o_;obtain⟨o',e1,e2⟩:=hd;obtain rfl:=ì (e1.symm.trans j1);obtain⟨o'',f1,f2,f3,_⟩:=ho;obtain rfl:=ì (f1.symm.trans j1);refine dD (hq h' kW dx j9 ?_ ⟨Ň,j2,j3.trans f2,fun c x=>f3 c (j4.symm.trans x),.inr ⟨dx,j5,j6,j7⟩⟩ ⟨Ň,j2,j4.trans e2,j5⟩);exact j8.imp (fun q=>⟨_,j1,q⟩) fun q=>q
theorem F4{fI t0:Addr}{h:Heap}{tk:Tok}{Q:Flow→Shared→Prop}(X:ue Z fI)(B:Base Z g s H)(k:Sm g s h)(fe:g.r e=.free)(he:h.get? e=some {cls:=.ref 59,data:=.fields #[.ref t0,.none,.none,.none,.bool false,.none]})(fL:g.r L=.free)(Ww:L≠e)(I:g6 env L h e y1 y2)
  (hq:∀h' kW a0,Sm g s h'→(∃o,A3 (h'.get? e=some o) (o.cls=.ref 59) (o.data=.fields #[.ref a0,.none,.none,.none,.bool false,.none]))→Q .next ⟨h',s.gens,s.drawn,kW,s.os⟩):õ prog w A (execs qu env) Q E ⟨h,s.gens,s.drawn,tk,s.os⟩:=by
 obtain⟨oL,PW⟩:∃o,h.get? L=some o:=let ⟨m,⟨o,_,_,q,_⟩,_,_,_⟩:=I.n;⟨o,q⟩;refine wpAny_execs_cons ?_;refine wpAny_Expr_any ?_ (by unfold interactive;rw[I.k];rfl) (aZ rfl);rw[arm_eval_Call,eM rfl];obtain⟨nm,q,N,bs,sn,sub,ab,col,dd,k0,k1,k2,k3,k5,mN,mA,mg,mb,hC,hn,i0,s0,w0,Yd,T,i1,s1,w1,a1,hg,g1,hb,b1⟩:=X.at B k;refine wpAny_bind (Calls.Name_function_global I.k (by unfold Env.kindOf;rw[I.sn];rfl) (Calls.loadGlobal_builtin (I.g▸hg) g1 (I.b▸hb) b1 (wpAny_bind (wpAny_standAt ?_))) (by decide));obtain⟨m,hm,_⟩:=id I.n;refine method_call (first:=[]) (f:=.builtin "Exception.__init__") rfl rfl (by decide) (fun Q hQ pl=>yM hm hQ) fun p=>?_;refine Calls.callWith_builtin rfl (ı rfl (Calls.spliced_cons (I.load (.inl ⟨rfl,rfl⟩) (Calls.spliced_cons (I.load (.inr (.inl ⟨rfl,rfl⟩)) (Calls.spliced_nil ?_))))));refine B9 PySem.F.excBase_Exception (.of PySem.F.excBase_Exception) hC he (show 1≤sizeLine by decide) fun bx k1 N1=>?_;have kL:∀o,h.get? L=some o→bx.get? L=some o:=fun o q=>k1 L o Ww q
 have QC:Sm g s bx:=fun b o n q=>k1 b o (fun x=>n (x▸fe)) (k b o n q)
 have I1:=I.keep kL;refine wpAny_execs_cons (oZ (e:=e) (mX:=fun À=>none) (ns:=[]) (X.at B QC) (.inl rfl) I1 ⟨_,N1,rfl,(fun À q=>neT PySem.Data.ctorIdx q rfl),.inl ⟨rfl,fun À=>rfl⟩⟩ ⟨_,N1,rfl⟩ Within.nil (by decide) (.inl ⟨rfl,rfl⟩) fun cR Hg dx k2 d2 In2 e2=>?_);have P5:bx.get? dx=none:=d2.resolve_left fun ⟨o,q,r⟩=>by rw[N1]at q;(replace q:=ì q;subst q);exact nS r
 have nL:L≠dx:=fun q=>by rw[←q,kL _ PW]at P5;exact sN P5
 have nk:∀b,g.r b≠.free→∀o,bx.get? b=some o→cR.get? b=some o:=fun b n o q=>k2 b o (fun x=>n (x▸fe)) (fun x=>by rw[x,P5]at q;exact nS q) q
 have Jc:Sm g s cR:=fun b o n q=>nk b n o (QC b o n q)
 have I2:=I1.keep fun o q=>k2 L o Ww nL q
 refine wpAny_execs_cons (oZ (s:=s) (X.at B Jc) (.inr rfl) I2 In2 (let ⟨o,q,r,_⟩:=e2;⟨o,q,r⟩) (Within.cons "what" y1 Within.nil) (by decide) (.inr ⟨rfl,rfl⟩) fun ņ Mg Ud k3 d3 In3 e3=>?_);obtain⟨o2,q2,r2,t2⟩:=e2;obtain⟨o3,q3,r3,t3⟩:=e3;obtain⟨o4,q4,c4,_⟩:=In3;obtain rfl:=ì (q3.symm.trans q4);refine wpAny_execs_nil (hq ņ Mg _ (fun b o n q=>?_) ⟨o3,q3,c4,r3⟩);refine k3 b o (fun x=>n (x▸fe)) (fun x=>?_) (Jc b o n q);rcases d3 with⟨o',u1,u2⟩|u
 ·obtain rfl:=ì (q2.symm.trans u1);obtain rfl:=ì (t2.symm.trans u2);have:=QC b o n q;rw[x,P5]at this;exact nS this
 ·have:=Jc b o n q;rw[x,u]at this;exact nS this
end
section
inductive G_(Z:Ě)(fI:Addr):Prop
 |mk (K:dn Z) (j:Nat) (f:Fn) (o:Obj) (fd:FuncData) (dv:List Value) (F:g8 Z K j f o fd qu ["self","what","at"] dv) (hj:K.fn j=fI) (sn:fd.scope.names=xd) (oc:o.cls=.type "function")
variable{st S Å:St}{H H':List Cell}{es:List PE}{vs:List V}{v:V}{fI e:Addr}{LI:List PS}
theorem Bw(I:G_ Z fI)(X:ue Z fI)(aO:Z.sh.heap.NoLimit)(cK:cStatics≠Z.tab)(B:Base Z g s H)(NM:A.depth<recursionLimit){y1 y2:Value}{t0:Addr}{Q:Value→Shared→Prop}{E:Value→Shared→Prop}
  (fe:g.r e=.free)(he:s.heap.get? e=some {cls:=.ref 59,data:=.fields #[.ref t0,.none,.none,.none,.bool false,.none]})
  (hq:∀h' kW a0,Sm g s h'→(∃o,A3 (h'.get? e=some o) (o.cls=.ref 59) (o.data=.fields #[.ref a0,.none,.none,.none,.bool false,.none]))→Q .none ⟨h',s.gens,s.drawn,kW,s.os⟩):õ prog w A (call (.ref fI) [.ref e,y1,y2]) Q E s:=by
 obtain⟨K,j,f,o,fd,dv,F,rfl,sn,_⟩:=I;have KL:s.heap.CodeRec fd.code fd.qualname:=by
  obtain⟨c,oc,vs,t,e1,e2,e3,e4,e5⟩:=F.cd;exact⟨c,oc,vs,t,e1,B.Ô _ _ (B.top _ _ e3 e2),e4,e5⟩
 have s7:s.heap.NoLimit:=let ⟨mc,a,b⟩:=aO;⟨mc,B.du a cK,b⟩;have xk:BindsTo s fd ⟨[.ref e,y1,y2],[]⟩ [("self",.ref e),("what",y1),("at",y2)]:=by
  have:BindsTo s fd ⟨[.ref e,y1,y2],[]⟩ ((["self","what","at"]:List Õ).zip ([.ref e,y1,y2]++dv.drop dv.length)):=F.bd s [.ref e,y1,y2] (fun a o q n=>B.Ô _ _ (B.top _ _ q n)) (Ų _) (ź _ _)
  rwa [List.drop_length]at this
 refine wpAny_call (codeAny_call_function NM (B.Ô _ _ (B.top _ _ F.ho F.tab)) F.hd F.co F.gen F.hb KL (xk _ _ _ _ ?_));rw[F.g9];refine wpAny_newFunctionEnv (by rw[sn];decide) (by rw[sn];intro x hx;simp only[Ą,List.mem_nil_iff,or_false]at hx;rcases hx with rfl|rfl|rfl<;>rfl) (fun h₀ xh xe=>⟨s7.fresh _ xe,codeAny_func ?_⟩) F.kind;have kp:∀b o,s.heap.get? b=some o→h₀.get? b=some o:=fun b o q=>xe.extBut b o (eV (eX q)) (ō _ q)
 refine F4 (H:=H) X B (fun b o À q=>kp b o q) fe (kp _ _ he) (B.fresh _ (Ų _)) (Nat.ne_of_gt (eX he)) ⟨F.kind,sn,rfl,F.xn,F.H5,_,xh,rfl,rfl,rfl⟩ fun h' kW a0 k o=>?_;exact hq h' kW a0 k o
theorem uK{x:Sem Value}{Q:Flow→Shared→Prop}{E:Value→Shared→Prop}(hh:A.handled=none)(h:õ prog w A x (fun v ĉ=>T3 fun e a0 o=>A6 (v=.ref e) (Hb ĉ.heap fI) (ĉ.heap.get? e=some o) (o.cls=.ref 59) (o.data=.fields #[.ref a0,.none,.none,.none,.bool false,.none]) (E (.ref e) ĉ)) E s):
  õ prog w A (raiseStmt env (some x) none) Q E s:=by
 unfold raiseStmt;refine wpAny_bind (wpAny_mono h (fun v ĉ bx=>?_) fun À À x=>x);obtain⟨e,a0,⟨cls,aX,dta,slt⟩,rfl,X,he,hc,hd,hE⟩:=bx;obtain⟨nm,q,N,bs,sn,sub,ab,col,dd,k0,k1,k2,k3,k5,mN,mA,mg,mb,hC,_⟩:=X;subst hc;subst hd;have hB:(Value.ref 59::.ref 46::[.type "Exception",.type "BaseException",.type "object"]).contains (.type "BaseException")=true:=rfl;obtain⟨hp,g,d,tk,os⟩:=ĉ
 repeat (first|with_reducible refine wpAny_loadPart_at he ?_|with_reducible refine wpAny_loadPart_at hC ?_|(with_reducible refine wpAny_isSubtype_exc hC ?_;rw[hB])|wp_step)
 exact wpAny_raiseNew_none hh hE
theorem IF{xs:List Value}{vs:List V}(h:Ł Z g vs xs)(h2:Þ vs.length 2=true):T2 fun y1 y2=>xs=[y1,y2]:=by
 have e:=h.len.trans (Ģ h2)
 induction xs using Ū with
 |nil=>exact absurd e (show(0:Nat)≠2 by decide)
 |cons a r=>induction r using Ū with
  |nil=>exact absurd e (show(1:Nat)≠2 by decide)
  |cons b r=>induction r using Ū with
   |nil=>exact⟨a,b,rfl⟩
   |cons c r=>exact absurd (Nat.succ.inj (Nat.succ.inj e)) (Nat.succ_ne_zero _)
theorem QN(hg:cf Z K)(aO:Z.sh.heap.NoLimit)(cK:cStatics≠Z.tab)(I:G_ Z fI)(X:ue Z fI)(h1:ĺ prog w Z d es S Å vs)(h2:Þ vs.length 2=true):vQ prog w Z d (.ra es) S Å .exc:=by
 intro cx x env A g s Q E hx C hq;obtain⟨f,np,ys,q,p,rfl,hp,hf,e1⟩:=sv hx;rw[arm_exec_Raise];refine wpAny_bind (wpAny_standAt (uK (fI:=fI) C.r.hd (wpAny_bind (wpAny_mono (wpAny_Call_ofName (ŋ hg C.e C.base hf fun z hz=>?_)) (fun v aM ņ=>wpAny_bind (wpAny_standAt (wpAny_pure ņ))) fun À À x=>x))));obtain rfl:z=.ref 59:=hz;refine d5 (plain_any hp) (h1 _ _ _ _ _ _ _ _ _ e1 hp C fun Ü ò xs Ñ Ï ô=>?_);obtain⟨y1,y2,rfl⟩:=IF ô h2;have YA:Sm Ü ò ò.heap:=fun À À À q=>q
 have X1:=X.at Ï.base YA;obtain⟨nm,q,N,bs,sn,sub,ab,col,dd,k0,k1,k2,k3,k5,mN,mA,mg,mb,hC,hn,i0,s0,w0,a0,T,i1,s1,w1,a1,hg',g1,hb,b1⟩:=X1;obtain⟨xg,gn,dr,tk,os⟩:=ò;refine⟨fun Q hQ=>wpAny_keeperOf_exc hC hQ,?_⟩;obtain⟨K',j,ff,o,fd,dv,F,hj,hsn,oc⟩:=id I;have NZ:xg.get? fI=some o:=hj▸Ï.base.Ô _ _ (Ï.base.top _ _ F.ho F.tab);refine tL PySem.F.excBase_Exception hC hn i0 T i1 NZ oc (fun h' e M=>?_) (show 2≤sizeLine by decide);obtain⟨t0,m1,m2,m3⟩:=M.there;have nf:∀b,xg.get? b=none→Ü.r b=.free:=fun b q=>Classical.byContradiction fun n=>by
  obtain⟨o,q'⟩:=Ï.base.alive b n;rw[q]at q';exact nS q'
 have fe:=nf e M.new;have VO:Sm Ü ⟨xg,gn,dr,tk,os⟩ h':=fun b o À q=>M.keeps b o q
 refine Bw I X aO cK (VO.base Ï.base tk) ?_ fe m1 fun cR Hg a0 k₂ aF=>⟨rfl,?_⟩
 ·show A.depth+1<recursionLimit;have:=C.r.depth;exact ä [_,_,_] (.c (.a (.a (.a Â (.m 4 ã)) Ĵ) Á) È .z) (.a (.a Â Á) Á) È rfl this
 obtain⟨aF,q1,q2,q3⟩:=aF;have Jc:Sm Ü ⟨xg,gn,dr,tk,os⟩ cR:=fun b o n q=>k₂ b o n (VO b o n q)
 have aA:=Jc.base Ï.base Hg;refine⟨e,a0,aF,rfl,X.at Ï.base Jc,q1,q2,q3,hq.x rfl Ü _ _ Ñ (Ï.fG (.refl Ü) (fun b o r q=>⟨o.slots,Jc b o ?_ q⟩) aA) ⟨e,aF,_,_,_,rfl,fe,q1,q2,q3,rfl,rfl,.inl rfl⟩⟩;rcases r with r|⟨i,r⟩<;>rw[r]<;>exact fun x=>nomatch x
theorem AW{u:Expr}{A':Around}(hg:cf Z K)(C:Ok Z d cx A env g s st)(h:er cx u=.c v)(h2:ip v=true){Q:Value→Shared→Prop}{E:Value→Shared→Prop}(hq:Q .none s):õ prog w A' (eval u env) Q E s:=by
 induction v using V.casesOn<;>first|cases h2|skip
 rcases iv h with⟨c,k,p,rfl,h'⟩|⟨n,p,rfl,h'⟩
 ·induction c using PySem.Const.casesOn<;>cases h'
  exact wpAny_pure hq
 ·exact ŋ hg C.e C.base h' fun z hz=>by obtain rfl:z=.none:=hz;exact hq
theorem QG(hg:cf Z K)(X:ue Z fI)(h1:fj prog w Z d LI S Å .exc)(h2:ip v=true):vQ prog w Z d (.tr LI 7 [.re (.c v)]) S Å (.ret v):=by
 intro cx x env A g s Q E hx C hq;obtain⟨y,z,np,k,ep,p,rfl,hz,e1,e2⟩:=sv hx;obtain⟨kx,kr,rfl,e3,e4⟩:=jk e2;obtain rfl:=tA e4;obtain⟨u,rp,rfl,e5⟩:=sv e3;refine wpAny_Try_except (h1 _ _ _ _ _ _ _ _ e1 C ⟨fun Ü ò f Ñ Ï nj=>nj.elim,fun À Ü ò x Ñ Ï Vg=>?_⟩);refine wJ Ï Vg fun h' F X'=>?_;have è:=Ï.tn F;obtain⟨nm,q,N,bs,sn,sub,ab,col,dd,k0,k1,k2,k3,k5,mN,mA,mg,mb,hC,_⟩:=X.at è.base (fun À À À q=>q);obtain⟨a,o,vs,a0,tt,rfl,r,q1,c,_⟩:=id X';refine wpAny_handleBy_cons (codeAny_handlers_test (ŋ hg è.e è.base hz fun zz ZA=>?_)) (by intro q;exact neT PySem.Value.ctorIdx q rfl);obtain rfl:zz=.ref 59:=ZA;refine wpAny_excMatches_sub_self hC q1 c rfl ?_;refine codeAny_handlers_suite (yS è X' fun cR Vx O5=>?_);have ĸ:=è.tn Vx;refine wpAny_execs_cons (wpAny_Return_some (AW hg ĸ e5 h2 ?_));have hv:v=.none:=by induction v using V.casesOn<;>first|rfl|exact â h2
 exact hq.q Ü _ _ Ñ ĸ ⟨.none,rfl,hv▸rfl⟩
end
end
section
section
variable(prog:Program)(w:World)(Z:Ě)(K:dn Z)(P:Č)
structure Facts:Prop where
 hg:cf Z K
 hc:∀c j,P.init c=some j→ae Z K P c
 cS:cg Z
 eY:vV Z
 hh:Z.hash=hashStr w
 sV:mB Z
 LZ:kl Z P
 aO:Z.sh.heap.NoLimit
 cK:cStatics≠Z.tab
 hF:DU Z K P
 I:G_ Z 36
 X:ue Z 36
structure Yg(d:Nat)(e:PE)(S Å:St)(v:V):Prop where
 co:Vk prog w Z d e S Å v
 src:ni prog w Z d e S Å v
 no:e≠.no
structure Ye(d:Nat)(e:PE)(S Å:St):Prop where
 x:Pc prog w Z d e S Å
 f:T2 fun j as=>e=.fn j as
structure LOk(d:Nat)(es:List PE)(S Å:St)(vs:List V):Prop where
 a:ĺ prog w Z d es S Å vs
 p:mD prog w Z d es S Å vs
 z:es=[]→S=Å∧vs=[]
def EvR(d:Nat)(e:PE)(S Å:St):Out→Prop
 |.val v=>Yg prog w Z d e S Å v
 |.exc=>Ye prog w Z d e S Å
 |_=>True
def Pz(d j:Nat)(vs:List V)(H:L)(Å:St):Out→Prop
 |.val v=>cF prog w Z K d j vs H Å v
 |.exc=>vR prog w Z K d j vs H Å
 |_=>True
end
def Ef(R:V→Prop):Out→Prop
 |.val v=>R v
 |_=>True
def CI(R:Bool→Prop):V→Prop
 |.bool b=>R b
 |_=>True
def v9(R:List V→Prop):Out→Prop
 |.vals v=>R v
 |_=>True
def Y5(R:Option V→Prop):Out→Prop
 |.ov v=>R v
 |_=>True
def M5(R:Prop):Out→Prop
 |.next=>R
 |_=>True
theorem ny{R R':List V→Prop}{o:Out}(f:∀v,R v→R' v)(h:v9 R o):v9 R' o:=by
 induction o using Out.casesOn with
 |vals v=>exact f v h
 |_=>trivial
def CU(prog:Program)(w:World)(Z:Ě)(K:dn Z):Task→Res→Prop
 |.ev d e S,r=>EvR prog w Z d e S r.1 r.2
 |.bY d es S,r=>v9 (LOk prog w Z d es S r.1) r.2
 |.gr d e S,r=>Ef (CI (gy prog w Z d e S r.1)) r.2
 |.hK d q es S,r=>Ef (CI (jY prog w Z d q es S r.1)) r.2
 |.yZ d v ops es S,r=>Ef (CI (zm prog w Z d v ops es S r.1)) r.2
 |.CG d q es S,r=>Ef (CW prog w Z d q es S r.1) r.2
 |.ex d X S,r=>vQ prog w Z d X S r.1 r.2
 |.dj d X S,r=>fj prog w Z d X S r.1 r.2
 |.pH d t B S,r=>zj prog w Z d t B S r.1 r.2
 |.qG d t l B S,r=>zl prog w Z d t l B S r.1 r.2
 |.fh d elt tg ifs l acc S,r=>v9 (mE prog w Z d elt tg ifs l acc S r.1) r.2
 |.call d j vs H,r=>Pz prog w Z K d j vs H r.1 r.2
 |.asg d t v S,r=>M5 (uj prog w Z d t v S r.1) r.2
 |.opt d e S,r=>Y5 (zk prog w Z d e S r.1) r.2
noncomputable def AH:PE→Bool
 |.no=>false
 |.co .. =>false
 |.bl b _=> !aj 11 b
 |_=>true
variable{e:PE}{S Å:St}{v:V}{t:Tg}
theorem iP(h:Ű prog w Z d e S Å v)(p:AH e=true):Yg prog w Z d e S Å v:=by
 refine⟨⟨h,fun À À À À À q=>?_⟩,wj h ?_,fun q=>?_⟩
 ·rw[q]at p;exact â p
 ·induction e using PE.casesOn with
  |bl b as=>exact nn p
  |_=>rfl
 ·rw[q]at p;exact â p
noncomputable def Ey:Tg→Bool
 |.no=>false
 |.t _=>false
 |_=>true
theorem PD(h:vS prog w Z d t v S Å)(p:Ey t=true):uj prog w Z d t v S Å:=
 ⟨h,fun À q=>(by rw[q]at p;exact â p),fun q=>(by rw[q]at p;exact â p)⟩
theorem Jk(h:Ye prog w Z d e S Å):vQ prog w Z d (.as t e) S Å .exc:=by
 intro cx x env A g s Q E hx C hq;obtain⟨j,as,rfl⟩:=h.f;obtain⟨y,z,p,rfl,cK,LR,e1,e2⟩:=sv hx;have hc:jf z=false:=by
  obtain⟨f,np,ys,q,rfl,_⟩:=iv e2;rfl
 exact eQ (aZ hc) (d_ LR) cK (h.x _ _ _ _ _ _ _ _ e2 C (hq.x rfl))
theorem CK{n:Nat}{vs:List V}{as:List PE}(h:blt n vs=some v):AH (.bl n as)=true:=by
 have hb:=CJ h;show(!aj 11 n)=true
 induction q:aj 11 n using ñ with
 |false=>rfl
 |true=>exact absurd (jc q) (by omega)
variable(F:Facts w Z K P)
include F
theorem RB:Yq P (CU prog w Z K) where
 gW h:=PD (Jy h) rfl
 CM h h2:=⟨Jx h h2,fun À q=>(by(injection q with q;subst q);exact⟨_,h,h2⟩),nofun⟩
 dA h1 h2 h3 h4 h5 h6:=PD (Jz F.hc F.cS h1.co.s h2 h3 h4 h5 h6) rfl
 tP h1 h2 h3 h4 h5 h6 h7:=PD (ES h2.no h1.co.s h2.co.s h3 h4 h5 h6 h7) rfl
 xE h1 h2 h3 h4 h5 h7:=PD (ET F.hh h2.no h1.co.s h2.co.s h3 h4 h5 h7) rfl
 nY:=iP (Q8 F.hg) rfl
 aQ h:=iP (YB h) rfl
 As h:=iP (YC h) rfl
theorem RA:Yp P (CU prog w Z K) where
 Av h1 h2 h3 h4 h5:=iP (Rb F.hc F.cS h1.co.s h2 h3 h4 h5) rfl
 ll h1 h2:=iP (Q1 F.hg h1.a h2) rfl
 E1 h1 h2:=⟨QZ F.hg h1.a h2,_,_,rfl⟩
 uM h1 h2 h3 h4 h5:=iP (Q7 F.hc F.hg h1.a h2 h3 h5) rfl
 E2 h1 h2 h3 h4:=iP (Q4 F.hc F.hg h1.a h2 h3) rfl
 ke h1 h2 h3 h4:=iP (Q_ F.hg h1.a h2 h3 h4) (CK h3)
 lu h1 h2 h3:=iP (Jw F.hg h1.a h2 h3) rfl
 Ŏ h1 h2 h3:=⟨⟨qr rfl,nofun⟩,Jv F.hg h1.a h2 h3,(fun q=>neT PE.ctorIdx q rfl)⟩
theorem Rz:Yo P (CU prog w Z K) where
 kq h1 h2 h3:=⟨⟨qr rfl,nofun⟩,ER F.hg h1.a h2 h3,(fun q=>neT PE.ctorIdx q rfl)⟩
 lr h1 h2:=⟨⟨qr rfl,nofun⟩,Ju F.hg h1.a h2,(fun q=>neT PE.ctorIdx q rfl)⟩
 Aq h1 h2 h3:=iP (QU F.LZ F.hg F.aO F.cK h1.co.s h2.a h3) rfl
 rG h1 h2 h3 h4 h5 h6 h7:=iP (QT F.hc F.cS h1.co.s h2 h3 h4 h5 h6.a h7) rfl
 rJ h1 h3 h4 h5 h6 h7 h8:=iP (Rc F.eY h1.co.s h3 h4.a h5 h6 h7 h8) rfl
 rD h1 h3 h4 h6 h7 h8 h9:=iP (QO F.eY h1.co.s h3 h4.a h6 h7 h8 h9) rfl
 rH h1 h3 h4 h5 h6 h7 h8:=iP (QE F.eY h1.co.s h3 h4.a h5 h6 h7 h8) rfl
 rF h1 h3 hk h4 h5 h6 h7 h8:=iP (QS F.eY F.hh F.sV h1.co.s h3 hk h4.a h5 h6 h7 h8) rfl
theorem Ry:Yn P (CU prog w Z K) where
 yr h1 h2 h3 h4:=iP (QX F.hh h1.co.s h2.co.s h3 h4) rfl
 Am h1 h2 h3 h4 h5 h6 h7:=iP (QL h1.co.s h2 h3 h4 h5 h6 h7) rfl
 rI h1 h2 h3 h4 h5 h6:=iP (Ra h1.co.s h2.co.s h3 h4 h5 h6) rfl
 yu h1 h2:=iP (Q6 h1.co.s h2) rfl
 Au h1:=iP (Q9 h1) rfl
 Ao h1 h2 h3:=iP (QQ h1.co.s h2 h3) rfl
 Ap h1:=iP (QR h1.co.s) rfl
 nX h1 h2 h3:=iP (QJ h1 (fun q=>(h2 q).co.s) fun q=>(h3 q).co.s) rfl
theorem Rx:Ym P (CU prog w Z K) where
 uL h1 h2 h3:=iP (QH h1.a h2 h3) rfl
 i7 h1 h2 h3:=iP (QV h1.a h2 h3) rfl
 yt h1 h2 h3 h4:=iP (Q3 F.hh h1.a h1.p h1.z h2 h3 h4) rfl
 lq h1 h2 h3 h4:=have h:=Q5 h1.src h2 h3 h4;⟨h,wj h.s rfl,(fun q=>neT PE.ctorIdx q rfl)⟩
 Ar h1 h2 h3:=iP (QW F.LZ h1 h2 h3) rfl
 JU:=MD
 LL h:=MC h.co.s
 ű:=⟨Js,MA,fun À=>⟨rfl,rfl⟩⟩
theorem Rw:Yl P (CU prog w Z K) where
 Ŗ h1 h2:=⟨Jt h1.co.s h2.a,MB h1.co.s h2.p,(fun q=>nC q)⟩
 zU h1:=Jp h1
 yd h1:=Jr h1
 yc h1 h2 h3:=Jo h1 h2 h3
 j0 h1 h2:=Jq h1.co.s h2
 Mk hp h1 h2 h3:=Mz hp h1.co.s h2 h3
 gO:=Jm
 ri h1 h2 h3:=Jn h1 h2 h3
theorem Rv:Yk P (CU prog w Z K) where
 y_ h1 h2 h3 h4:=ML h1.co.s h2 h3 h4
 y7 h1 h2 h3 h4 h5 h6:=MK h1.co.s h2 h3 h4 h5 h6
 OU h1:=MN h1.co.s
 zd h1 h2 h3 h4 h5:=MM h1.co.s h2 h3 h4 h5
 ũ h1 h2:=Jl h1.no h1.co h2
 D_ h1:=Jk h1
 zI h1:=Q2 h1.co.s
 g_ h1 h2 h3:=QY h1 h2 h3
theorem Rt:Yj P (CU prog w Z K) where
 zE h1:=QF h1
 bR h1 h2 h3 h4:=Q0 h1.src h2 h3 h4
 qY h1:=QM h1.co.s
 D9 h1 h2:=QN F.hg F.aO F.cK F.I F.X h1.a h2
 zF h1 h2:=QI h1 h2
 D8 h1 h2:=QG F.hg F.X h1 h2
 zH:=QP
 zG h1 h2:=QK h1.a h2
theorem Rr:Yi P (CU prog w Z K) where
 gp:=Jj
 Ò h1 h2:=yo h1 h2
 gK h1 h2:=Ae h1 h2
 L8 h1 h2 h3:=Mw h1 h2 h3
 PB h1 h2:=Mx h1 h2
 L9 h1:=My h1
 ui:=MI
 mQ h0 h1 h2 h3:=MJ h0 h1 h2 h3
theorem Rq:Yh P (CU prog w Z K) where
 zD h0 h1 h2:=MH h0 h1 h2
 i9:=MF
 kh h0 h1 h2 h3 h4 h5:=ny (fun À h=>ME h0 h1 h2 h3.co.s h4 h) h5
 Hq h0 h1 h2 h5:=ny (fun À h=>MG h0 h1 h2 h) h5
 É h1 h2 h3 h4 h5 h6:=EN F.hF F.aO F.cK h1 h2 h3 h5 h6
 lV h1 h2 h3 h4:=Af F.hF F.aO F.cK h1 h2 h3
 eD h1 h2 h3 h6:=Ag F.hF F.aO F.cK h1 h2 h3 h6
 w8 h1 h2 h3 h6:=EP F.hF F.aO F.cK h1 h2 h3 h6
theorem sound{t:Task}{r:Res}(h:Ev P t r):CU prog w Z K t r:=
 h _ ⟨RB F,RA F,Rz F,Ry F,Rx F,Rw F,Rv F,Rt F,Rr F,Rq F,⟨fun h1 h2 h3 h4=>EO h1 h2 h3 h4⟩⟩
end
end
section
set_option maxRecDepth 100000
open Internal.H
def Z0(w:World)(s:Shared):Ě:={hash:=hashStr w,Ŷ:=Ŷ,LM:=Pj wV,OC:=Ph wV,zC:=Of,sh:=s,tab:=cO,qn:=1198,lR:=wV,mZ:=mZ,m7:=m7}
def K0(w:World)(s:Shared):dn (Z0 w s):=⟨fW⟩
theorem ib{α β:Type}{f:α→β}:∀{l:List α} {j:Nat} {y:β},é (l.map f) j=some y→∃x,é l j=some x∧f x=y
 |[],_,_,h=>nS h
 |x::l,j,y,h=>match j,h with
  |0,h=>⟨x,rfl,ì h⟩
  |j+1,h=>ib (l:=l) h
theorem JD{j:Nat}{f:Fn}(h:pf P2 j=some f):∃p,A3 (pf Ah j=some p) (p∈Ah.flatten) (p.2=f):=by
 rw[RC]at h;unfold pf at h ⊢
 induction q:é (Ah.map fun c=>c.map (·.2)) (j / 16)using ş with
 |none=>rw[q]at h;exact nS h
 |some l=>
  rw[q]at h;obtain⟨c,e1,e2⟩:=ib q;rw[e1];dsimp only at h ⊢;rw[←e2]at h;obtain⟨p,e3,e4⟩:=ib h;exact⟨p,e3,List.mem_flatten.mpr ⟨c,aG e1,aG e3⟩,e4⟩
theorem KZ(s:Stmt)(q:Õ):(Internal.H.fdOf s q).builtins=builtinsNs:=by induction s using PySem.Stmt.casesOn<;>rfl
theorem Oj(r:Row):(B7 r).builtins=builtinsNs:=by
 unfold B7
 induction r.m using ş<;>exact KZ _ _
theorem p1{α β:Type}{a c:α}{b d:β}(h:(a,b)=(c,d)):a=c:=congrArg Prod.fst h
theorem p2{α β:Type}{a c:α}{b d:β}(h:(a,b)=(c,d)):b=d:=congrArg Prod.snd h
theorem Cu{t:BT}{c:Nat}{q:Õ}(h:HZ t c=some q):A3 (c<1311) (c≠cO) (T3 fun oc vs u=>A4 (t.get c=some oc) (oc.isFreed=false) (oc.data=.fields vs) (vs[1]? =some (.str q u))):=by
 (have h0:=cy (x:=(t.get c).bind fun o=>(Gn o.data).bind fun vs=>(vs[1]? :Option Value).bind zY) h;have h:=cn (x:=(t.get c).bind fun o=>(Gn o.data).bind fun vs=>(vs[1]? :Option Value).bind zY) h)
 refine ï h fun o h1 h=>?_;refine ï h fun vs h2 h=>?_;refine ï h fun x h3 h=>?_;obtain⟨u,rfl⟩:=wi h;have h2:=Gm h2;exact⟨(fD h0).1,(fD h0).2,o,vs,u,h1,by obtain⟨a,b,c,d⟩:=o;cases h2;rfl,h2,h3⟩
section
variable{w:World}{s:Shared}
theorem Ľ(Y:YP w s.heap){a:Addr}{o:Obj}(h:(az w.params).get a=some o)(h1:a<1311)(h2:o.isFreed=false):s.heap.get? a=some o:=Y a o h h1 h2
theorem uQ(Y:YP w s.heap):Old (az w.params) (oldK (Z0 w s)):=fun a o h h1 h2 h3=>by
 show(if a=cO then none else s.heap.get? a)=some o;rw[if_neg h2];exact Y a o h h1 h3
structure Ir(s:Shared)(P:Params)(Z:Ě)(q:Row)(l:List V)(dv:List Value):Prop where
 r:ß Z.toSta (oldK Z) l dv
 e:K_ P q=dv
 k:∀h:Heap,(∀a o,s.heap.get? a=some o→a≠cO→h.get? a=some o)→(OH P q).In h
theorem K8(Y:YP w s.heap){r:Row}{l:List V}(h:K9 (az w.params) r.d=some l)(h2:((p_ r.d).isSome||Ho r.d)=true):∃dv,Ir s w.params (Z0 w s) r l dv:=by
 unfold K9 at h
 induction q:p_ r.d using ş with
 |none=>
  rw[q]at h;obtain rfl:=ì h;refine⟨[],rfl,by unfold K_;rw[q],fun h À=>?_⟩;unfold OH;rw[q];exact fun a o e=>nS e
 |some T=>
  rw[q]at h;refine ï h fun vs h1 h=>?_;obtain⟨o,e1,_,⟨n,e2⟩,e3,e4,e5⟩:=rg (uQ Y) h1;refine⟨vs,ql (fun x v=>lE (uQ Y) 2) h,by unfold K_;rw[q];show(rh _ _).getD _=_;rw[h1];rfl,fun h' k=>?_⟩;unfold OH;rw[q];dsimp only;rw[e1];intro a o' e;rw[oN]at e
  induction b:a==T using ñ with
  |true=>
   rw[b]at e;obtain rfl:=ì e;rw[eq_of_beq b];exact k _ _ (Ľ Y e1 e3 e5) e4
  |false=>rw[b]at e;exact nS e
theorem yq(xs:List Value):(bP xs.length).map (fun i=>xs.getD i .none)=xs:=by
 refine List.ext_getElem (by rw[Ė,List.length_range]) fun i h1 h2=>?_;rw[List.getElem_map,List.getElem_range,List.getD_eq_getElem?_getD,List.getElem?_eq_getElem h2];rfl
theorem GS{r:Row}{f:Fn}{l:List V}{dv:List Value}(D:Ir s w.params (Z0 w s) r l dv)(bk:(GP (r,f)).map (Qa w.params)=(GP (r,f)).map (P_ w.params))(hl:f.mq=l){s':Shared}{xs:List Value}(k:∀a o,s.heap.get? a=some o→a≠cO→s'.heap.get? a=some o)
  (h1:xs.length≤(DW r).length)(h2:(DW r).length≤xs.length+dv.length):BindsTo s' (B6 r) ⟨xs,[]⟩ ((DW r).zip (xs++dv.drop (dv.length - ((DW r).length - xs.length)))):=by
 have hm:(r,xs.length)∈GP (r,f):=dT.mpr ⟨(DW r).length - xs.length,List.mem_range.mpr (Nat.lt_succ_of_le (by rw[hl,←D.r.len];exact Nat.sub_le_iff_le_add'.mpr h2)),by show(r,_)=_;rw[Nat.sub_sub_self h1]⟩;have e:=bp bk hm;refine kp_binds (D.k _ k) fun S=>?_;have e:=congrFun (congrFun e fun i=>xs.getD i .none) S;have e:peek (OH w.params r) S (bindArgs (B6 r) ⟨(bP xs.length).map (fun i=>xs.getD i .none),[]⟩)=some ((DW r).zip ((bP xs.length).map (fun i=>xs.getD i .none)++(K_ w.params r).drop ((K_ w.params r).length - ((DW r).length - xs.length)))):=e
 rwa [yq,D.e]at e
theorem wt(Y:YP w s.heap){K:dn (Z0 w s)}{j:Nat}{p:Row×Fn}(ka:K.fn j=p.1.a)(ck:JF (az w.params) p=JE p)(body:p.2.body=bF (P7 (B7 p.1).scope) (L1 (B7 p.1)))(bk:(GP p).map (Qa w.params)=(GP p).map (P_ w.params)):
  ∃dv,g8 (Z0 w s) K j p.2 (ro p.1) (B6 p.1) (L1 (B7 p.1)) ((B6 p.1).params.args.map (·.arg)) dv:=by
 have A:=p1 ck;have A1:=p2 A;have A2:=p2 A1;have A3:=p2 A2;have A4:=p2 A3;have C:=p1 (p2 (p2 ck));have D:=p2 (p2 (p2 ck));have D1:=p2 D;have D2:=p2 D1;have D3:=p2 D2;obtain⟨a1,a2⟩:=fD (p1 A)
 (have n2:=aC (p1 C);have n:=aB (p1 C))
 (have n3:=aC n;have n4:=aB n)
 obtain⟨c1,c2,oc,vs,u,c3,c4,c5,c6⟩:=Cu (p1 D1);obtain⟨dv,DO⟩:=K8 Y (p1 D2) (p1 D3);exact⟨dv,{
  tab:=ka▸a2
  ho:=ka▸Ľ Y (p2 D3) a1 rfl
  hd:=rfl
  cd:=⟨p.1.c,oc,vs,u,rfl,c2,Ľ Y c3 c1 c4,c5,c6⟩
  hb:=p1 A1
  eb:=body
  g9:=p1 A2
  kind:=p1 A3
  co:=p1 A4
  gen:=p2 A4
  xn:=rfl
  H5:=Oj p.1
  bd:=fun s' xs k=>GS (f:=p.2) DO bk rfl k
  dl:=DO.r.len▸jc n4
  rd:=DO.r
  ps:=p1 (p2 ck)
  keys:=of_decide_eq_true n2
  AV:=fun q hq e=>by
   have:=gG.mp n3 q hq;rw[e]at this;exact â this
  nl:=(p1 (p2 C)).symm
  nc:=(p2 (p2 C)).symm
  lam:=fun hl=>by
   rcases lU.mp (p1 D)with m|m
   ·rw[show(B6 p.1).scope.names.lookup ("seen":Õ)=_ from hl]at m;exact absurd m (by decide)
   ·(have m1:=aC m;have m2:=aB m)
    exact⟨congrArg Value.ref (Ģ m1),eq_of_beq m2⟩}⟩
theorem KX(Y:YP w s.heap){j:Nat}{f:Fn}(h:pf P2 j=some f):T5 fun o fd body names dv=>g8 (Z0 w s) (K0 w s) j f o fd body names dv:=by
 obtain⟨p,h1,h2,rfl⟩:=JD h;have B:=bp (GR w.params) h2;obtain⟨dv,F⟩:=wt Y (K:=K0 w s) (j:=j) (p:=p) (by show fW j=_;unfold fW;rw[h1]) (bp (JB w.params) h2) (bp Lk h2) B;exact⟨_,_,_,_,dv,F⟩
def fQ:Row×Fn:=(⟨36,2,some 0,"PostError.__init__",.ref 29,.str "postkeep.errors" 194,35⟩,⟨[(false,0),(false,1),(false,2)],3,0,[.int (-1)],bF (P7 (dm 2 0 "PostError.__init__").scope) (L1 (dm 2 0 "PostError.__init__"))⟩)
theorem KH(P:Params):JF (az P) fQ=JE fQ:=by kernel_rfl
theorem ND(P:Params):(GP fQ).map (Qa P)=(GP fQ).map (P_ P):=by kernel_rfl
theorem Bx:(L1 (B7 fQ.1),(B6 fQ.1).params.args.map (·.arg),(B6 fQ.1).scope.names)=(qu,(["self","what","at"]:List Õ),xd):=by kernel_rfl
theorem S0(Y:YP w s.heap):G_ (Z0 w s) 36:=by
 obtain⟨dv,F⟩:=wt Y (K:=⟨fun À=>36⟩) (j:=0) (p:=fQ) rfl (KH w.params) rfl (ND w.params);rw[p1 Bx,p1 (p2 Bx)]at F;exact⟨_,0,_,_,_,dv,F,rfl,p2 (p2 Bx),rfl⟩
end
noncomputable def Ŋ(x:Õ):List DictEntry→Option Value
 |[]=>none
 |e::r=>match e.key.isStr x with
  |true=>some e.val
  |false=>Ŋ x r
theorem eB(x:Õ):∀l:List DictEntry,nsFind ⟨l⟩ x=Ŋ x l
 |[]=>rfl
 |e::r=>by
  have ih:=eB x r;unfold nsFind findBy at ih ⊢;rw[List.find?_toArray]at ih ⊢;rw[List.find?_cons];unfold Ŋ;dsimp only at ih ⊢
  induction h:e.key.isStr x using ñ with
  |true=>rfl
  |false=>exact ih
noncomputable def KW:Data→Option FuncData
 |.func f=>some f
 |_=>none
theorem Gf{x:Data}{f:FuncData}(h:KW x=some f):x=.func f:=mO (f:=Data.func) h (by induction x using PySem.Data.casesOn<;>first|exact trivial|exact rfl)
def TO(o:Obj):Bool:=(KW o.data).isSome&&(En o.cls).any fun T=>T=="function"
def xa(t:BT)(a:Nat):Bool:=Hn a&&(t.get a).any TO
def Oe(P:Params)(p:Õ×Gl):Option Value×Option V×Bool:=match p.2 with
 |.fn j=>(Ŋ p.1 ((bU P).take 204),none,xa (az P) (fW j))
 |.cls c=>(Ŋ p.1 ((bU P).take 204),none,true)
 |.con v=>(none,(Ŋ p.1 ((bU P).take 204)).bind (rV (az P) 3),true)
 |.blt b=>(bootBuiltins p.1,none,(Ŋ p.1 ((bU P).take 204)).isNone&&p.1 !="__name__")
def KR(p:Õ×Gl):Option Value×Option V×Bool:=match p.2 with
 |.fn j=>(some (.ref (fW j)),none,true)
 |.cls c=>(some (.ref (fi c)),none,true)
 |.con v=>(none,some v,true)
 |.blt b=>(some (nh b),none,true)
theorem Od(P:Params):Of.map (Oe P)=Of.map KR:=by kernel_rfl
theorem B0{x:Õ}{G:Gl}:∀{l:List (Õ×Gl)},gl x l=some G→(x,G)∈l
 |[],h=>nS h
 |p::r,h=>by
  unfold gl at h
  by_cases e:p.1=x
  ·rw[if_pos e]at h;obtain rfl:=ì h;subst e;exact ŭ
  ·rw[if_neg e]at h;exact ŧ _ (B0 h)
section
variable{w:World}{s:Shared}
theorem sd(Y:YP w s.heap):s.heap.get? 3=some (oM w.params 204 204 []):=Ľ Y (show(az w.params).get 3=some (oM w.params 204 204 [])by kernel_rfl) (by decide) rfl
theorem fZ(Y:YP w s.heap){mg:Õ→Option Value}(G:s.heap.Ns mainGlobals mg)(x:Õ):mg x=Ŋ x ((bU w.params).take 204):=by
 obtain⟨o,es,ep,h1,h2,h3,h4⟩:=G;have e:s.heap.get? mainGlobals=some (oM w.params 204 204 []):=sd Y;rw[h1]at e;cases e;injection h2 with e1 e2
 subst e1;rw[←h4 x];exact eB _ _
theorem l0(Y:YP w s.heap){a:Addr}(h:xa (az w.params) a=true):DQ s.heap cO a:=by
 (have h1:=aC h;have h2:=aB h)
 obtain⟨b1,b2⟩:=fD h1;obtain⟨o,h3,h4⟩:=anyI h2
 (have h5:=aC h4;have h6:=aB h4)
 obtain⟨T,h7,h8⟩:=anyI h6;obtain⟨fd,h9⟩:=Hv.mp h5;have hd:=Gf h9;exact⟨o,fd,Ľ Y h3 b1 (by obtain⟨a,b,c,d⟩:=o;cases hd;rfl),hd,(pQ h7).trans (congrArg _ (eq_of_beq h8)),b2⟩
theorem TC(Y:YP w s.heap){mg mb:Õ→Option Value}(G:s.heap.Ns mainGlobals mg)(B:s.heap.Ns builtinsNs mb)(hb:∀x:Õ,x≠"__name__"→mb x=bootBuiltins x):cf (Z0 w s) (K0 w s) where
 tm:=by show(3:Nat)≠1194;decide
 tb:=by show(0:Nat)≠1194;decide
 all x Gv h:=by
  have ck:=bp (Od w.params) (B0 h);have hm:=fZ Y G x
  induction Gv using Gl.casesOn with
  |fn j=>
   obtain⟨o,fd,e1,e2,e3,e4⟩:=l0 Y (p2 (p2 ck));exact⟨mg,mb,_,G,B,.inl (hm.trans (p1 ck)),rfl,o,fd,e1,e2,e4⟩
  |cls c=>exact⟨mg,mb,_,G,B,.inl (hm.trans (p1 ck)),rfl⟩
  |con v=>
   refine ï (p1 (p2 ck)) fun u h1 h2=>?_;exact⟨mg,mb,u,G,B,.inl (hm.trans h1),lE (uQ Y) 3 h2⟩
  |blt b=>
   (have h1:=aC (p2 (p2 ck));have h2:=aB (p2 (p2 ck)))
   exact⟨mg,mb,_,G,B,.inr ⟨hm.trans (oU.mp h1),(hb x (bne_iff_ne.mp h2)).trans (p1 ck)⟩,rfl⟩
end
def Ul(r:DT):Obj:=excClassObj r.n r.n (fi r.c) r.N [.type "object"] [.type "object"] true [] [] false none none none none (some r.k2) (some r.k3) (some (.bool true)) "object.__new__"
noncomputable def Zr(r:DT):Obj:=⟨.type "dict",none,.dict ⟨r.es⟩ r.e,#[]⟩
theorem Lf(P:Params):(gj P).map (fun r=>((az P).get (fi r.c),(az P).get r.N))=(gj P).map fun r=>(some (Ul r),some (Zr r)):=by kernel_rfl
def Np(e:DictEntry):Bool:=(zY e.key).isSome
def CL:List (Õ×Nat):=Ŷ.zip (bP Ŷ.length)
def Le(r:DT):=(Hn (fi r.c)&&(Hn r.N&&r.es.all Np),(Ŋ "__getattribute__" r.es,Ŋ "__getattr__" r.es,Ŋ "__setattr__" r.es),CL.map (fun p=>Ŋ p.1 r.es),Ŋ "__init__" r.es)
def GJ(r:DT):=(true,((none:Option Value),(none:Option Value),(none:Option Value)),CL.map (fun p=>(eC (r.c*64+p.2) r8).map fun j=>Value.ref (fW j)),(l7 r.c).map fun j=>Value.ref (fW j))
theorem OO(P:Params):(gj P).map Le=(gj P).map GJ:=by kernel_rfl
theorem HT(P:Params):((r8.all fun p=>xa (az P) (fW p.2))&&(xc.all fun j=>j.all fun j=>xa (az P) (fW j)))=true:=by kernel_rfl
theorem MQ(P:Params):(gj P).map (·.c)=bP 7:=by kernel_rfl
theorem wM{k j:Nat}:∀{l:List (Nat×Nat)},eC k l=some j→∃p∈l,p.2=j
 |[],h=>nS h
 |p::r,h=>by
  unfold eC at h
  induction q:Þ p.1 k using ñ with
  |true=>rw[q]at h;exact⟨p,.head _,ì h⟩
  |false=>rw[q]at h;obtain⟨p',m,e⟩:=wM h;exact⟨p',.tail _ m,e⟩
theorem sR{c j:Nat}(h:l7 c=some j):é xc c=some (some j):=by
 unfold l7 at h
 induction q:é xc c using ş with
 |none=>rw[q]at h;exact nS h
 |some x=>rw[q]at h;exact congrArg some h
theorem vj{h:Heap}{a n:Nat}{l:List DictEntry}{o:Obj}(ho:h.get? a=some o)(hd:o.data=.dict ⟨l⟩ n)(hk:l.all Np=true):h.Ns a fun x=>Ŋ x l:=by
 refine⟨o,⟨l⟩,n,ho,hd,fun en HG=>?_,fun x=>eB x l⟩;obtain⟨s,q⟩:=Hv.mp (gG.mp hk en (Array.mem_def.mp HG));obtain⟨t,e⟩:=wi q;exact⟨s,t,e⟩
def Uk:Obj:=oC [.str "matches" 1922,.str "matches" 1923,.str "/claim/cut.py" 1924,.int 1009 0,.int 3 0,.int 0 0,.int 0 0,.int 3 0,.ref 1193,.bool true,.int 181 0,.ref 1194,.none,.ref 1195,.ref 1196,.ref 1197,.int 1930 0,.int 1009 0,.str "/claim/cut.py" 1931]
theorem GH(P:Params):(az P).get 1198=some Uk:=by kernel_rfl
noncomputable def qb(x:Õ):Bool:=match builtinLookup "object" x with
 |some none=>true
 |_=>false
theorem uT{x:Õ}(h:qb x=true):builtinLookup "object" x=some none:=by
 unfold qb at h
 induction q:builtinLookup "object" x using ş with
 |none=>rw[q]at h;exact â h
 |some y=>induction y using ş with
  |none=>rfl
  |some z=>rw[q]at h;exact â h
theorem GV:Ŷ.all qb=true:=by kernel_rfl
theorem OV:Ŷ.Nodup:=by decide+kernel
noncomputable def HW:Data→Option (Array DictEntry×Nat)
 |.dict es n=>some (es,n)
 |_=>none
theorem Co{x:Data}{p:Array DictEntry×Nat}(h:HW x=some p):x=.dict p.1 p.2:=mO (f:=fun p:Array DictEntry×Nat=>Data.dict p.1 p.2) h (by induction x using PySem.Data.casesOn<;>first|exact trivial|exact rfl)
noncomputable def Wr:List DictEntry→Option (DictEntry×List DictEntry)
 |[]=>none
 |e::r=>some (e,r)
theorem KJ{l:List DictEntry}{p:DictEntry×List DictEntry}(h:Wr l=some p):l=p.1::p.2:=by
 induction l using Ū with
 |nil=>exact nS h
 |cons e r=>rw[←ì h]
def I6(t:BT):Option Bool:=(t.get 1).bind fun o=>(HW o.data).bind fun p=>(Wr p.1.toList).bind fun q=>(p_ q.1.val).bind fun m=>(t.get m).bind fun om=>(En om.cls).bind fun T=>some (Hn m&&(T=="module"&&((KW om.data).isNone&&(!o.isFreed&& !om.isFreed))))
theorem I7(P:Params):I6 (az P)=some true:=by kernel_rfl
theorem zT(P:Params):(az P).get cO=some (oR []):=by kernel_rfl
theorem Nc:gl ("leaf_holds":Õ) Of=some (.fn 73):=by kernel_rfl
theorem OS(P:Params):Ŋ "__builtins__" ((bU P).take 204)=some (.ref 4):=by kernel_rfl
noncomputable def X8(n:Õ)(c N:Addr)(bs tl:List Value)(sub:List Value)(k0 k2 k3:Value):Obj:=excClassObj n n c N bs tl true [] sub false none none (some k0) none (some k2) (some k3) (some (.bool true)) "Exception.__new__"
noncomputable def X9(es:List DictEntry)(n:Nat):Obj:=⟨.type "dict",none,.dict ⟨es⟩ n,#[]⟩
def B_(P:Params):List DictEntry:=[en P "__module__" 243 (.str "postkeep.errors" 194),en P "__firstlineno__" 247 (.int 14 246),en P "__static_attributes__" 248 (.ref 57),en P "__doc__" 249 .none]
def Ca(P:Params):List DictEntry:=[en P "__module__" 203 (.str "postkeep.errors" 194),en P "__firstlineno__" 207 (.int 5 206),en P "__init__" 218 (.ref 36),en P "told" 225 (.ref 43),en P "__static_attributes__" 228 (.ref 44),en P "__weakref__" 230 (.ref 47),en P "__doc__" 231 .none]
theorem TX(P:Params):(az P).get 59=some (X8 "WordFault" 59 58 [.ref 46] [.ref 46,.type "Exception",.type "BaseException",.type "object"] [] (.ref 50) (.str "WordFault" 236) (.str "WordFault" 244)):=by kernel_rfl
theorem TZ(P:Params):(az P).get 46=some (X8 "PostError" 46 45 [.type "Exception"] [.type "Exception",.type "BaseException",.type "object"] [.ref 59,.ref 71,.ref 83] (.ref 22) (.str "PostError" 196) (.str "PostError" 204)):=by kernel_rfl
theorem TY(P:Params):(az P).get 58=some (X9 (B_ P) 2):=by kernel_rfl
theorem T1(P:Params):(az P).get 45=some (X9 (Ca P) 3):=by kernel_rfl
theorem TV(P:Params):(Ŋ "__init__" (B_ P),Ŋ "__setattr__" (B_ P),Ŋ "what" (B_ P),Ŋ "at" (B_ P),Ŋ "__init__" (Ca P),Ŋ "__setattr__" (Ca P),Ŋ "what" (Ca P),Ŋ "at" (Ca P))=((none:Option Value),(none:Option Value),(none:Option Value),(none:Option Value),some (.ref 36),(none:Option Value),(none:Option Value),(none:Option Value)):=by kernel_rfl
theorem K1(P:Params):Ŋ "Exception" ((bU P).take 204)=none:=by kernel_rfl
theorem Oz:bootBuiltins "Exception"=some (.type "Exception"):=by kernel_rfl
section
variable{w:World}{s:Shared}{P:Č}
theorem uU{α:Type}:∀(l:List α) (i:Nat),é l i=l[i]?
 |[],_=>rfl
 |x::r,i=>match i with
  |0=>rfl
  |i+1=>(uU r i).trans (List.getElem?_cons_succ).symm
theorem GU{a:Nat}{x:Õ}(h:é Ŷ a=some x):(x,a)∈CL:=by
 rw[uU]at h;obtain⟨h1,h2⟩:=List.getElem?_eq_some_iff.mp h;have:CL[a]? =some (x,a):=by
  unfold CL;rw[List.getElem?_zip_eq_some];exact⟨h,List.getElem?_range h1⟩
 exact List.mem_of_getElem? this
theorem all_some{α:Type}{f:α→Bool}{x:α}(h:(some x).all f=true):f x=true:=h
theorem GK(Y:YP w s.heap)(hi:∀c,P.init c=l7 c)(hm:∀c a,P.gw c a=eC (c*64+a) r8){c j:Nat}(h:P.init c=some j):ae (Z0 w s) (K0 w s) P c:=by
 rw[hi]at h;have hc:=sR h;have hl:c<7:=qe hc;have hr:é ((gj w.params).map (·.c)) c=some c:=by rw[MQ,uU];exact List.getElem?_range hl
 obtain⟨r,hr,rfl⟩:=ib hr;have Wa:=aG hr;have got:=bp (Lf w.params) Wa;have ck:=bp (OO w.params) Wa
 (have k1:=aC (p1 ck);have k:=aB (p1 ck))
 (have k2:=aC k;have k3:=aB k)
 obtain⟨a1,a2⟩:=fD k1;obtain⟨b1,b2⟩:=fD k2;have C:=p1 (p2 ck);have D:=p1 (p2 (p2 ck))
 (have f1:=aC (HT w.params);have f2:=aB (HT w.params))
 have mt:∀a x,é Ŷ a=some x→Ŋ x r.es=(eC (r.c*64+a) r8).map fun j=>Value.ref (fW j):=fun a x q=>bp D (GU q)
 refine⟨a2,r.n,r.n,r.N,_,_,_,_,_,_,_,_,_,_,_,b2,Ľ Y (p1 got) a1 rfl,vj (Ľ Y (p2 got) b1 rfl) rfl k3,p1 C,p1 (p2 C),p2 (p2 C),fun a x q hn=>?_,fun a x j q hn=>?_,fun j' q=>?_⟩
 ·rw[mt a x q,←hm,hn];rfl
 ·rw[hm]at hn;obtain⟨p,m,e⟩:=wM hn;exact⟨by rw[mt a x q,hn];rfl,e▸l0 Y (gG.mp f1 p m)⟩
 ·rw[hi]at q;exact⟨(p2 (p2 (p2 ck))).trans (by rw[q];rfl),l0 Y (a:=fW j') (all_some (gG.mp f2 _ (aG (sR q))))⟩
theorem GW:cg (Z0 w s) where
 nd:=OV
 obj a x h:=by
  rw[typeLookup_type,uT (gG.mp GV _ (aG h))]
 small:=by show Ŷ.length≤sizeLine;decide+kernel
theorem Su:(bP 10).map (é Ŷ)=(bP 10).map (é Sr):=by kernel_rfl
theorem Ss:vV (Z0 w s) where
 all a x h hx:=(bp Su (List.mem_range.mpr h)).symm.trans hx
theorem Mn(Y:YP w s.heap):mB (Z0 w s):=by
 refine ï (I7 w.params) fun o h1 h=>?_;refine ï h fun p h2 h=>?_;refine ï h fun q h3 h=>?_;refine ï h fun m h4 h=>?_;refine ï h fun om h5 h=>?_;refine ï h fun T h6 h=>?_
 (have b1:=aC (ì h);have b:=aB (ì h))
 (have b2:=aC b;have b:=aB b)
 (have b3:=aC b;have b:=aB b)
 (have b4:=aC b;have b5:=aB b)
 obtain⟨c1,c2⟩:=fD b1;refine⟨o,q.1,q.2,p.2,m,om,Ľ Y h1 (by decide) (nn b4),?_,wz h4,Ľ Y h5 c1 (nn b5),c2,by show(1:Nat)≠1194;decide,(pQ h6).trans (congrArg _ (eq_of_beq b2)),fun fd e=>?_⟩
 ·rw[Co h2,←KJ h3]
 ·rw[e]at b3;exact â b3
theorem SR(Y:YP w s.heap){mg:Õ→Option Value}(G:s.heap.Ns mainGlobals mg)(hb:T2 fun bm ob=>A6 (mg "__builtins__"=some (.ref bm)) (bm≠builtinsNs) (s.heap.get? bm=some ob) (ob.cls=.type "module") (ob.dict=some builtinsNs) (ob.data=.plain))(hl:P.lam=73):kl (Z0 w s) P where
 LM:=rfl
 OC:=rfl
 L:=rfl
 C:=rfl
 code:=⟨_,_,_,_,_,_,_,_,_,Ľ Y (GH w.params) (by show(1198:Nat)<1311;decide) rfl,rfl,rfl,rfl,rfl,rfl,rfl,rfl,rfl,by show(1198:Nat)≠1194;decide⟩
 Mj:=Ľ Y (zT w.params) (by show(1194:Nat)<1311;decide) rfl
 bmod:=by
  obtain⟨bm,ob,h1,h2,h3,h4,h5,h6⟩:=hb;have e:=fZ Y G "__builtins__";rw[OS,h1]at e;cases e;exact⟨mg,G,4,ob,h1,h2,by show(4:Nat)≠3;decide,by show(4:Nat)≠1194;decide,h3,h4,h5,h6⟩
 ne:=by show(1194:Nat)≠2;decide
 tm:=by show(3:Nat)≠1194;decide
 lh:=by rw[hl];exact Nc
theorem TU(Y:YP w s.heap){mg mb:Õ→Option Value}(G:s.heap.Ns mainGlobals mg)(B:s.heap.Ns builtinsNs mb)(hb:∀x:Õ,x≠"__name__"→mb x=bootBuiltins x):ue (Z0 w s) 36:=by
 intro h k;have kp:∀{a o},a<1194→s.heap.get? a=some o→h.get? a=some o:=fun l q=>k _ _ (eV l) q
 have go:∀{a o},a<1194→(az w.params).get a=some o→o.isFreed=false→h.get? a=some o:=fun l q f=>kp l (Ľ Y q (oO l (by decide)) f)
 have no:=TV w.params;have gg:h.Ns mainGlobals mg:=let ⟨o,es,ep,e,r⟩:=G;⟨o,es,ep,kp (by decide) e,r⟩;have gb:h.Ns builtinsNs mb:=let ⟨o,es,ep,e,r⟩:=B;⟨o,es,ep,kp (by decide) e,r⟩;exact⟨_,_,58,_,_,_,_,_,_,_,_,_,_,_,_,_,mg,mb,go (by decide) (TX _) rfl,vj (go (by decide) (TY _) rfl) rfl (by kernel_rfl),p1 no,p1 (p2 no),p1 (p2 (p2 no)),p1 (p2 (p2 (p2 no))),⟨_,_,_,_,go (by decide) (TZ _) rfl,vj (go (by decide) (T1 _) rfl) rfl (by kernel_rfl)⟩,p1 (p2 (p2 (p2 (p2 no)))),p1 (p2 (p2 (p2 (p2 (p2 no))))),p1 (p2 (p2 (p2 (p2 (p2 (p2 no)))))),p2 (p2 (p2 (p2 (p2 (p2 (p2 no)))))),
  gg,(fZ Y G _).trans (K1 _),gb,(hb _ (by decide)).trans Oz⟩
theorem facts(Y:YP w s.heap){mg mb:Õ→Option Value}(G:s.heap.Ns mainGlobals mg)(B:s.heap.Ns builtinsNs mb)(hb:∀x:Õ,x≠"__name__"→mb x=bootBuiltins x)
  (Z7:T2 fun bm ob=>A6 (mg "__builtins__"=some (.ref bm)) (bm≠builtinsNs) (s.heap.get? bm=some ob) (ob.cls=.type "module") (ob.dict=some builtinsNs) (ob.data=.plain))(aO:s.heap.NoLimit):Facts w (Z0 w s) (K0 w s) Ê where
 hg:=TC Y G B hb
 hc c j h:=GK Y (fun À=>rfl) (fun À À=>rfl) h
 cS:=GW
 eY:=Ss
 hh:=rfl
 sV:=Mn Y
 LZ:=SR Y G Z7 rfl
 aO:=aO
 cK:=by show(2:Nat)≠1194;decide
 hF j f h:=KX Y h
 I:=S0 Y
 X:=TU Y G B hb
end
end
section
variable{P:Č}{d:Nat}{H H₁ Ö ų ub aaa:List Cell}{ρ á Ŕ VJ VI κ ë Ĺ VM VL:List (Option V)}{S Å Í:St}{e a b t o i elt it:PE}{es as bs:List PE}{v iK v' x y x' y':V}{vs vs' ws:List V}{r:Res}{c j k m n:Nat}{l:List (Nat×V)}
abbrev DR(P:Č)(d:Nat)(t:Tg)(v:V)(s s':St):Prop:=Ev P (.asg d t v s) (s',.next)
abbrev Vz(P:Č)(d:Nat)(e:Option PE)(s s':St)(v:Option V):Prop:=Ev P (.opt d e s) (s',.ov v)
theorem VR{α β:Type}{o:Option α}{f:α→β}{x:α}{y:β}(h:o=some x)(h':f x=y):o.map f=some y:=by rw[h,←h'];rfl
theorem z5{w:Option V}(h:put ρ n (some v)=á)(h2:é ρ n=some w):Ş ⟨H,ρ,κ⟩ false n v=some ⟨H,á,κ⟩:=VR h2 (h▸rfl)
theorem qU{w:Option V}(h:put ρ n (some v)=á)(h2:é ρ n=some w):DR P d (.n false n) v ⟨H,ρ,κ⟩ ⟨H,á,κ⟩:=gW (z5 h h2)
theorem JI(hn:aj 10 n=true)(h1:Ev P (.ev d o S) (⟨H,ρ,κ⟩,.val v))(h2:fields H v=some (c,l))(h3:P.init c=some m)(h4:d7 n l=none)(h5:P.gw c n=some j)(h6:Ev P (.bY d as ⟨H,ρ,κ⟩) (⟨H₁,á,ë⟩,.vals vs))
  (h7:Ev P (.call d j (v::vs) H₁) (⟨Ö,Ŕ,Ĺ⟩,.val x)):Ev P (.ev d (.me o n as) S) (⟨Ö,á,ë⟩,.val x):=rG h1 h2 h3 h4 h5 h6 h7
theorem RH{l:List V}(h1:Ev P (.ev d o S) (⟨H,ρ,κ⟩,.val (.Ó m)))(h2:fields H (.Ó m)=none)(h3:kd 7 (view H (.Ó m))=9)(h4:Ev P (.bY d as ⟨H,ρ,κ⟩) (⟨H₁,á,ë⟩,.vals [x]))(h5:Ô H₁ x=some (Ö,x'))(h6:é Ö m=some (.lst l))(h7:small l=true)(h8:put Ö m (.lst (l++[x']))=ų):
  Ev P (.ev d (.me o 7 as) S) (⟨ų,á,ë⟩,.val .none):=rJ h1 h3 h4 h5 h6 h7 h8
theorem Hj{l r:List V}(h1:Ev P (.ev d o S) (⟨H,ρ,κ⟩,.val (.Ó m)))(h2:fields H (.Ó m)=none)(h3:kd 8 (view H (.Ó m))=10)(h4:Ev P (.bY d as ⟨H,ρ,κ⟩) (⟨H₁,á,ë⟩,.vals []))(h6:é H₁ m=some (.lst l))(h7:small l=true)(h8:l.reverse=x::r)(h9:put H₁ m (.lst r.reverse)=Ö):
  Ev P (.ev d (.me o 8 as) S) (⟨Ö,á,ë⟩,.val x):=rD h1 h3 h4 h6 h7 h8 h9
theorem MR{l q:List V}(h1:Ev P (.ev d o S) (⟨H,ρ,κ⟩,.val (.Ó m)))(h2:fields H (.Ó m)=none)(h3:kd 9 (view H (.Ó m))=11)(h4:Ev P (.bY d as ⟨H,ρ,κ⟩) (⟨H₁,á,ë⟩,.vals [x]))(h5:Ô H₁ x=some (Ö,.lst q))(h6:é Ö m=some (.lst l))(h7:(small l&&small q)=true)(h8:put Ö m (.lst (l++q))=ų):
  Ev P (.ev d (.me o 9 as) S) (⟨ų,á,ë⟩,.val .none):=rH h1 h3 h4 h5 h6 h7 h8
theorem RG(hn:aj n 6=true)(h1:Ev P (.ev d o S) (⟨H,ρ,κ⟩,.val v))(h2:fields H v=none)(h3:kd n (view H v)=k)(hk:PN k=true)(h4:Ev P (.bY d as ⟨H,ρ,κ⟩) (⟨H₁,á,ë⟩,.vals vs))(h5:Ô H₁ v=some (Ö,v'))(h6:ē Ö vs=some (ų,vs'))(h7:oi k v' vs'=some x)(h8:made ų x=(ub,x')):
  Ev P (.ev d (.me o n as) S) (⟨ub,á,ë⟩,.val x'):=rF h1 h3 hk h4 h5 h6 h7 h8
theorem JH{q:Bool}(h1:Ev P (.gr d t S) (Å,.val (.bool q)))(h2:q=true→Ev P (.ev d a Å) (Í,.val v))(h3:q=false→Ev P (.ev d b Å) (Í,.val v)):Ev P (.ev d (.te t a b) S) (Í,.val v):=nX h1 h2 h3
theorem c_2{q p:Bool}{ops:List Nat}(h1:Ev P (.ev d e S) (⟨H,ρ,κ⟩,.val y))(h2:view H x=some x')(h3:view H y=some y')(h4:cmp n x' y'=some q)(h5:q=true→Ev P (.yZ d y (m::ops) (a::es) ⟨H,ρ,κ⟩) (Í,.val (.bool p)))(h6:q=false→(Í,p)=(⟨H,ρ,κ⟩,false)):
  Ev P (.yZ d x (n::m::ops) (e::a::es) S) (Í,.val (.bool p)):=y7 h1 h2 h3 h4 h5 h6
theorem b_2{p q:Bool}(h1:Ev P (.ev d e S) (⟨H,ρ,κ⟩,.val v))(h2:view H v=some v')(h3:truth v'=some p)(h4:p=q→Ev P (.CG d q (a::es) ⟨H,ρ,κ⟩) (Í,.val x))(h5:p=(!q)→(Í,x)=(⟨H,ρ,κ⟩,v)):Ev P (.CG d q (e::a::es) S) (Í,.val x):=zd h1 h2 h3 h4 h5
theorem Qh{X:PS}{Y:List PS}{ou:Out}(h1:Ev P (.ex d X S) (Å,ou))(h2:ou=.next→Ev P (.dj d Y Å) r)(h3:ou≠.next→r=(Å,ou)):Ev P (.dj d (X::Y) S) r:=by
 induction ou using Out.casesOn with
 |next=>exact Ò h1 (h2 rfl)
 |_=>rw[h3 nofun];exact gK h1 rfl
theorem dp{X:PS}{Y:List PS}(h1:Ev P (.ex d X S) (Å,.ret v)):Ev P (.dj d (X::Y) S) (Å,.ret v):=gK h1 rfl
theorem Un(i:Int)(h:(gc 0 i&&Ī i 55296)=true):blt 1 [.int i]=some (.str [i.toNat]):=if_pos h
theorem Lg{c:Nat}(h:c<55296):(gc 0 (c:Int)&&Ī c 55296)=true:=by
 rw[ar];exact⟨decide_eq_true (lS c),decide_eq_true (by exact í [_] (.c (.a Â Á) (.n 55296) .z) (.a Â Á) (.n 55296) rfl (bw.mpr h))⟩
theorem ê{α}{l:List α}(h:l.length<1000000):small l=true:=by
 unfold small;rw[bQ];exact h
theorem MS{q:Int}(h1:Ev P (.bY d as S) (⟨H,ρ,κ⟩,.vals [.int q]))(h3:(gc 0 q&&Ī q 55296)=true):Ev P (.ev d (.bl 1 as) S) (⟨H,ρ,κ⟩,.val (.str [q.toNat])):=
 ke h1 rfl (Un q h3) rfl
theorem Ĕ{α}(l:List α)(x:α):é (l++[x]) l.length=some x:=by
 induction l generalizing x with
 |nil=>
  exact rfl
 |cons _ r IH=>
  exact IH x
theorem ky{α}(l:List α)(x:α)(y:α):put (l++[x]) l.length y=l++[y]:=by
 induction l generalizing x y with
 |nil=>
  exact rfl
 |cons a r IH=>
  exact congrArg (a:: ·) (IH x y)
theorem iy{l:List V}:Ô (H++[.lst l]) (.Ó H.length)=some (H++[.Ô (.lst l)],.lst l):=by
 show(é (H++[.lst l]) H.length).map _=_;rw[Ĕ];exact congrArg some (Prod.ext (ky _ _ _) rfl)
theorem B2{l:List V}:ē (H++[.lst l]) [.Ó H.length]=some (H++[.Ô (.lst l)],[.lst l]):=by
 show(Ô (H++[.lst l]) (.Ó H.length)).bind _=_;rw[iy];rfl
theorem dE{l:List V}:view (H++[.lst l]) (.Ó H.length)=some (.lst l):=by
 show(é (H++[.lst l]) H.length).map _=_;rw[Ĕ];rfl
theorem rk(X:List Cell):(H++X).take H.length=H:=List.take_left
theorem take_all:H.take H.length=H:=List.take_length
theorem A9{l:List V}{q:List (List Nat)}(h:uA l=some q)(h1:small l=true)(h2:small q.flatten=true):oi 3 (.str []) [.lst l]=some (.str q.flatten):=by
 show(uA l).bind _=_;rw[h];show(if small l&&small q.flatten&&_ then _ else _)=_;rw[h1,h2];rfl
theorem pz{α}{x y:α}{r:List α}:put (x::r) 0 y=y::r:=rfl
theorem ps{α}{x y:α}{r q:List α}{n:Nat}(h:put r n y=q):put (x::r) (n+1) y=x::q:=congrArg (x:: ·) h
theorem TN{α:Sort _}{x y:α}(h:x=y):x=y:=h
theorem xT{B:List PS}{q:Bool}(h1:Ev P (.gr d t S) (Å,.val (.bool q)))(hq:q=true)(h2:Ev P (.dj d B Å) (Í,.next))(h3:Ev P (.pH d t B Í) r):Ev P (.pH d t B S) r:=by subst hq;exact L8 h1 h2 h3
theorem Iz{B:List PS}{q:Bool}(h1:Ev P (.gr d t S) (Å,.val (.bool q)))(hq:q=false):Ev P (.pH d t B S) (Å,.next):=by subst hq;exact L9 h1
theorem r6{tg:List Nat}{ifs:List PE}{l acc:List V}{q:Bool}(h0:(Ð v&&small acc)=true)(h1:DR P d (pS tg) v S Å)(h2:Ev P (.hK d true ifs Å) (Í,.val (.bool q)))(hq:q=true)(h3:Ev P (.ev d elt Í) (⟨H,ρ,κ⟩,.val x))(h4:Ô H x=some (H₁,x'))(h5:Ev P (.fh d elt tg ifs l (x'::acc) ⟨H₁,ρ,κ⟩) r):
  Ev P (.fh d elt tg ifs (v::l) acc S) r:=by subst hq;exact kh h0 h1 h2 h3 h4 h5
theorem J1{tg:List Nat}{ifs:List PE}{l acc:List V}{q:Bool}(h0:(Ð v&&small acc)=true)(h1:DR P d (pS tg) v S Å)(h2:Ev P (.hK d true ifs Å) (Í,.val (.bool q)))(hq:q=false)(h5:Ev P (.fh d elt tg ifs l acc Í) r):Ev P (.fh d elt tg ifs (v::l) acc S) r:=by
 subst hq;exact Hq h0 h1 h2 h5
theorem len_bytes{l:List Nat}(h:l.length<1000000):blt 0 [.bytes l]=some (.int l.length):=if_pos (ê h)
theorem len_str{l:List Nat}(h:l.length<1000000):blt 0 [.str l]=some (.int l.length):=if_pos (ê h)
theorem bV{l:List V}(h:l.length<1000000):blt 0 [.lst l]=some (.int l.length):=if_pos (ê h)
theorem vx{l:List V}:fields (H++[.lst l]) (.Ó H.length)=none:=by unfold fields;rw[dE];rfl
theorem FN{l:List V}:kd 7 (view (H++[.lst l]) (.Ó H.length))=9:=by rw[dE];rfl
theorem ļ{a b:Cell}:put (H++[a]) H.length b=H++[b]:=ky _ _ _
theorem OW{w w':Option V}{i j:Nat}(h:view H v=some (.tup [x,y]))(h1:é ρ i=some w)(h2:put ρ i (some x)=á)(h3:é á j=some w')(h4:put á j (some y)=Ŕ):DR P d (.t [(false,i),(false,j)]) v ⟨H,ρ,κ⟩ ⟨H,Ŕ,κ⟩:=CM h (by
 show(Ş _ _ _ _).bind _=_;rw[z5 h2 h1];show(Ş _ _ _ _).bind _=_;rw[z5 h4 h3];rfl)
theorem L6{w w':Option V}{i j:Nat}(h:Ev P (.bY d es S) (⟨H,ρ,κ⟩,.vals [x,y]))(h1:é ρ i=some w)(h2:put ρ i (some x)=á)(h3:é á j=some w')(h4:put á j (some y)=Ŕ):Ev P (.ex d (.sw [(false,i),(false,j)] es) S) (⟨H,Ŕ,κ⟩,.next):=zG h (by
 show(Ş _ _ _ _).bind _=_;rw[z5 h2 h1];show(Ş _ _ _ _).bind _=_;rw[z5 h4 h3];rfl)
theorem qA(h:Ev P (.call d j vs H) r):Ev P (.call d j vs H) r:=h
theorem Hi{P:Č}{S Å Í ĩ:St}{H₁:List Cell}{ρ κ:List (Option V)}{o:PE}{lo hi st:Option PE}{oq pd Ċ:Option V}{v v' x x':V}(h1:Ev P (.ev d o S) (Å,.val v))(h2:Vz P d lo Å Í oq)(h3:Vz P d hi Í ĩ pd)(h4:Vz P d st ĩ ⟨H,ρ,κ⟩ Ċ)(h5:view H v=some v')(h6:slice v' oq pd Ċ=some x)(h7:made H x=(H₁,x')):
  Ev P (.ev d (.sl o lo hi st) S) (⟨H₁,ρ,κ⟩,.val x'):=Am h1 h2 h3 h4 h5 h6 h7
theorem wb(X Y:List Cell):(H++X++Y).take H.length=H:=by rw[ĝ];exact rk _
def pA(S:St):PE→Option V
 |.l n=>(é S.ρ n).bind id
 |.k n=>(é S.κ n).bind id
 |.c v=>some v
 |_=>none
def pB(S:St):PE→Option V
 |.ix o i=>(pA S o).bind fun v=>(pA S i).bind fun x=>(view S.H v).bind fun v'=>item v' x
 |.l n=>pA S (.l n)
 |.k n=>pA S (.k n)
 |.c v=>pA S (.c v)
 |_=>none
def pT(S:St):PE→Option Bool
 |.cm a ops bs=>(q1 ops).bind fun n=>(q1 bs).bind fun b=>(pB S a).bind fun x=>(pB S b).bind fun y=>(view S.H x).bind fun x'=>(view S.H y).bind fun y'=>cmp n x' y'
 |_=>none
theorem rU{S:St}{e:PE}{v:V}(h:pA S e=some v):Ev P (.ev d e S) (S,.val v):=by
 induction e using PE.casesOn with
 |l n=>refine ï h fun x h1 h2=>?_;exact aQ (h1.trans (congrArg some h2))
 |k n=>refine ï h fun x h1 h2=>?_;exact As (h1.trans (congrArg some h2))
 |c u=>obtain rfl:=ì h;exact nY
 |_=>exact nS h
theorem Hm{S:St}{e:PE}{v:V}(h:pB S e=some v):Ev P (.ev d e S) (S,.val v):=by
 induction e using PE.casesOn with
 |ix o i=>
  refine ï h fun x h1 h=>?_;refine ï h fun y h2 h=>?_;refine ï h fun z h3 h=>?_;exact yr (rU h1) (rU h2) h3 h
 |l n=>exact rU h
 |k n=>exact rU h
 |c u=>exact rU h
 |_=>exact nS h
theorem MX{S:St}{e:PE}{q:Bool}(h:pT S e=some q):Ev P (.gr d e S) (S,.val (.bool q)):=by
 induction e using PE.casesOn with
 |cm a ops bs=>
  refine ï h fun n h1 h=>?_;refine ï h fun b h2 h=>?_;refine ï h fun x h3 h=>?_;refine ï h fun y h4 h=>?_;refine ï h fun x' h5 h=>?_;refine ï h fun y' h6 h=>?_;rw[i1 h1,i1 h2];exact j0 (Hm h3) (y_ (Hm h4) h5 h6 h)
 |_=>exact nS h
theorem L5{b Y:List PS}{r:Res}(h:pT S t=some false)(k:Ev P (.dj d Y S) r):Ev P (.dj d (.if t b []::Y) S) r:=Ò (g_ (MX h) (fun q=>â q) fun À=>gp) k
end
set_option compiler.extract_closed false
set_option bootstrap.genMatcherCode false
theorem M4{C:Prop}{α:Sort _}{a:α}(h:a≠a):C:=absurd rfl h
theorem Sq{C:Prop}{b:Bool}(q:b=false)(h:b=true):C:=ĕ (h.symm.trans q)
theorem Sp{C:Prop}{b:Bool}(q:b=true)(h:b=false):C:=ĕ (q.symm.trans h)
open Lean in
def M0(l:List Syntax):Syntax:=mkNode `null l.toArray
open Lean in
def Fd(k:String)(l:List Syntax):Syntax:=mkNode (.str `Lean.Parser.Tactic k) l.toArray
open Lean in
def M1(l:List Syntax):Syntax:=Fd "tacticSeq" [Fd "tacticSeq1Indented" [M0 l]]
open Lean in
def M3(l:List Syntax):Syntax:=mkNode `group #[mkAtom "|",M1 l]
open Lean in
def DX(k a:String)(t:Syntax):Syntax:=Fd k [mkAtom a,t]
open Lean in
def PI(t:Syntax):Syntax:=DX "withReducible" "with_reducible" (M1 [t])
open Lean in
def VU(t:Syntax):Syntax:=DX "focus" "focus" (M1 [t])
open Lean in
def VT:List Syntax→Syntax
 |a::b::c::d::e::r=>Fd "repeat1'" [DX "first" "first" (M0 [a,b,c,d]),VT (e::r)]
 |l=>DX "first" "first" (M0 l)
open Lean in
def PJ(a b c:Syntax):List Syntax→List Syntax→List Syntax
 |[],_=>[]
 |x::r,l=>match x with
  |.missing=>(if a.isMissing then(if b.isMissing then mkNode `Lean.Parser.Term.app #[l.headD c,M0 l.tail]else VT l)else M3 l)::r
  |x=>PJ a b c r (x::l)
open Lean in
def VS(c:Char)(n:Name)(st:List Syntax):List Syntax:=
 let x:=st.headD .missing;let r:=st.tail
 if c= '[' then .missing::st
 else if c= '_' then mkNode `Lean.Parser.Term.hole #[mkAtom "_"]::st
 else if c= '&' then M3 [DX "apply" "apply" x]::r
 else if c= '*' then DX "apply" "apply" x::r
 else if c= '^' then M3 [DX "exact" "exact" x]::r
 else if c= '%' then M3 [PI (DX "exact" "exact" x)]::r
 else if c= '{' then PI x::r
 else if c= '!' then M3 [x]::r
 else if c= ';' then mkAtom ";"::st
 else if c= '+' then VU (Fd "tacticRfl" [mkAtom "rfl"])::st
 else if c= '?' then Fd "assumption" [mkAtom "assumption"]::st
 else if c= '-' then Fd "skip" [mkAtom "skip"]::st
 else if c= '~' then DX "intro" "intro" (M0 [x])::r
 else if c= '#' then VU (PI (DX "show" "show" x))::r
 else if c= '=' then mkNode `«term_=_» #[mkNode `Lean.Parser.Term.hole #[mkAtom "_"],mkAtom "=",mkNode `Lean.Parser.Term.hole #[mkAtom "_"]]::st
 else if c= '>' then mkNode `Lean.Parser.Term.byTactic #[mkAtom "by",M1 [PI (Fd "assumption" [mkAtom "assumption"])]]::st
 else if c= ')' then PJ .missing .missing x st []
 else if c= '@' then PJ .missing (mkAtom "") x st []
 else if c= '$' then PJ (mkAtom "") x x st []
 else mkIdent n::st
open Lean in
def Sn(st:List Syntax):List Char→List Char→Syntax
 |w,[]=>(VS '@' .anonymous st).headD .missing
 |w,c::r=>if c= ' ' then Sn (VS (if w.length=1 then w.headD ' ' else ' ') (String.ofList w.reverse).toName st) [] r else Sn st (c::w) r
open Lean in
def VV(_:Unit):Syntax:=Sn [] [] "[ [ [ Ev _ [ Task.call _ _ _ _ ) _ ) # ; [ ? ! c0 & c1 & c2 & c3 & c4 & c5 & c6 & c7 & @ $ [ = # ; [ ? { ! B2 % iy % dE % [ rk _ ) % [ wb _ _ ) % take_all % [ Ĕ _ _ ) % vx % FN % ļ % Fg % put3 % Gj % HR % v8 % xp % Nu % take3 % wc ^ [ Lg > ) % pz ^ ps & rfl ^ @ $ [ [ Ev _ [ Task.ev _ _ _ ) _ ) # ; [ nY ^ [ aQ rfl ) ^ yr & ll & Av & yu & rI & JH & uL & i7 & Au & Ao & Ap & Hi & RH & Hj & MR & [ RG * ; + $ [ JI * ; + $ MS & lr & ke & lq & Aq & yt & Ar & uM & [ As rfl ) ^ @ $ [ [ Ev _ [ Task.bY _ _ _ ) _ ) # ; [ Ŗ & ű ^ @ $ [ [ Ev _ [ Task.dj _ [ List.cons [ PS.if _ _ _ ) _ ) _ ) _ ) # ; [ [ L5 * ; + $ @ $ [ [ Ev _ [ Task.dj _ _ _ ) _ ) # ; [ [ Ò * ; ũ * $ [ dp * ; qY * $ [ Qh * ; g_ * $ [ Ò * ; zI * $ gp ^ [ Ò * ; L6 * $ [ Ò * ; zH * $ [ Ò * ; zE * $ @ $ [ [ Ev _ [ Task.gr _ _ _ ) _ ) # ; [ j0 & yd & yc & zU & [ Mk * ; + $ @ $ y_ & c_2 & qU & OW & dA & tP & ri & gO ^ OU & b_2 & JU ^ LL & ĕ ^ â ^ M4 ^ [ Sq > ) ^ [ Sp > ) ^ [ hq ~ { ; [ [ Out.noConfusion hq ) ^ + ! - ! @ $ ? ! ".toList
local macro_rules (kind:=Lean.Parser.Tactic.repeat1')|x=>if x.getArgs.size=2 then return x[1]else Lean.Macro.throwUnsupported
local macro_rules (kind:=Lean.Parser.Tactic.repeat1')|x=>if x.getArgs.size=2 then return x[0]else Lean.Macro.throwUnsupported
local macro_rules | `(tactic|walk_at "nz")=>return Internal.VV ()
local macro_rules | `(tactic|walk_at "w")=>return Internal.Fd "tacticRepeat_" [Lean.mkAtom "repeat",Internal.M1 [Internal.VV ()]]
section
set_option maxRecDepth 100000
section
variable{d:Nat}{H:List Cell}
theorem HB{a b:Int}(h:gc a b=false):¬a≤b:=of_decide_eq_false h
theorem HA{a b:Int}(h:gc a b=true):a≤b:=of_decide_eq_true h
theorem mW{c:Nat}:Ev Ê (.call (d+1) 3 [.int c] H) (⟨H,[],[]⟩,.val (.int (dP c))):=by
 induction h1:gc 65 c using ñ with
 |false=>
  have:dP c=c:=by
   have:=HB h1;unfold dP;rw[if_neg];simp only[ar,Nat.ble_eq];omega
  rw[this];apply É (S:=⟨H,[some (.int c)],[]⟩) rfl rfl;walk_at "w"
 |true=>
  induction h2:gc c 90 using ñ with
  |false=>
   have:dP c=c:=by
    have:=HB h2;unfold dP;rw[if_neg];simp only[ar,Nat.ble_eq];omega
   rw[this];apply É (S:=⟨H,[some (.int c)],[]⟩) rfl rfl;walk_at "w"
  |true=>
   have:dP c=c+32:=by
    have a:=HA h1;have b:=HA h2;unfold dP;rw[if_pos];simp only[ar,Nat.ble_eq];omega
   rw[this];apply É (S:=⟨H,[some (.int c)],[]⟩) rfl rfl;walk_at "w"
theorem yy(l:List Nat)(acc:List V)(á:Option V)(h:(∀c∈l,dP c<55296))(hs:acc.length+l.length<1000000):∃fk,
  Ev Ê (.fh (d+1) (.bl 1 [.fn 3 [.bl 3 [.l 1]]]) [1] [] (l.map fun c=>.str [c]) acc ⟨H,[none,á],[]⟩) (⟨H,fk,[]⟩,.vals (acc.reverse++l.map fun c=>.str [dP c])):=by
 induction l generalizing acc á with
 |nil=>
  exact⟨_,by rw[fK,fK,Ŵ];exact i9⟩
 |cons c l IH=>
  have hc:=h c ŭ;obtain⟨fk,ih⟩:=IH (.str [dP c]::acc) (some (.str [c])) (fun c hc=>h c (ŧ _ hc)) (by simp only[Ă]at hs ⊢;exact ä [_,_] (.c (.a (.a Â (.a È Á)) Á) Ù .z) (.a (.a (.a Â Á) È) Á) Ù rfl hs);refine⟨fk,?_⟩;rw[aq,ĝ]at ih;have lc:=mW (d:=d) (H:=H) (c:=c);apply kh
  ·exact ê (by exact Ń (ź _ _) ‹_›)
  ·exact gW rfl
  ·exact gO
  ·walk_at "w"
  ·rfl
  ·exact ih
theorem rq(f:Nat→Nat):∀l:List Nat,uA (l.map fun c=>.str [f c])=some (l.map fun c=>[f c])
 |[]=>rfl
 |c::l=>by
  show(uA (l.map _)).map _=_;rw[rq f l];rfl
theorem mi(f:Nat→Nat):∀l:List Nat,(l.map fun c=>[f c]).flatten=l.map f
 |[]=>rfl
 |c::l=>by
  show f c::(l.map fun c=>[f c]).flatten=_;rw[mi f l];rfl
theorem sM(f:Nat→Nat){l:List Nat}(hl:l.length<1000000):oi 3 (.str []) [.lst (l.map fun c=>V.str [f c])]=some (.str (l.map f)):=by
 have h:=A9 (rq f l) (ê (by simpa using hl)) (by rw[mi];exact ê (by simpa using hl));rw[mi]at h;exact h
theorem mV{l:List Nat}(h:∀c∈l,dP c<55296)(hl:l.length<1000000):Ev Ê (.call (d+4) 4 [.str l] H) (⟨H,[],[]⟩,.val (.str (l.map dP))):=by
 obtain⟨fk,lc⟩:=yy (d:=d+1) (H:=H) l [] none h (by simpa using hl);have hj:=sM dP hl;apply É (S:=⟨H,[some (.str l)],[]⟩) rfl rfl;walk_at "w"
def sP(cs:List Nat):Bool:=Ø cs [117,116,102,45,56]||Ø cs [105,115,111,45,56,56,53,57,45,49]||Ø cs [117,115,45,97,115,99,105,105]
theorem ŏ:∀{a b:List Nat},Ø a b=decide (a=b)
 |[],[]=>rfl
 |[],_::_=>rfl
 |_::_,[]=>rfl
 |a::r,b::t=>by
  unfold Ø;rw[ŏ (a:=r)]
  induction h:Þ a b using ñ with
  |true=>rw[Ģ h];simp
  |false=>rw[wX];symm;rw[decide_eq_false_iff_not];intro e;(injection e with e;subst e);rw[jN]at h;exact ĕ h
theorem l5{cs:List Nat}(h:sP cs=true):cs=[117,116,102,45,56]∨cs=[105,115,111,45,56,56,53,57,45,49]∨cs=[117,115,45,97,115,99,105,105]:=by
 unfold sP at h;rw[ŏ,ŏ,ŏ,Bool.or_eq_true,Bool.or_eq_true,decide_eq_true_eq,decide_eq_true_eq,decide_eq_true_eq,or_assoc]at h;exact h
theorem m8(l:List Nat)(i:Int):item (.bytes l) (.int i)=if Ć i then(at_ l i).map (fun (c:Nat)=>V.int (c:Int))else none:=rfl
theorem item_at{l:List Nat}{k c:Nat}(h:é l k=some c)(hk:k<1000000):item (.bytes l) (.int k)=some (.int c):=by
 have h1:Ć (k:Int)=true:=by
  unfold Ć Ī;rw[ar];exact⟨decide_eq_true (by exact í [_] (.c (.a Â Á) Ù .z) (.a Â Á) Ù rfl (bw.mpr hk)),decide_eq_true (by exact jG _)⟩
 have h2:at_ l (k:Int)=some c:=by
  unfold at_;rw[if_neg (by show ¬Ī (k:Int) 0=true;unfold Ī;rw[decide_eq_true_eq];exact fun eG=>sk [_] (.c (.a Â Á) Ē (.c Ē Â .z)) rfl eG (lS _))];exact h
 rw[m8,if_pos h1,h2];rfl
theorem Fo{cs:List Nat}(h:sP cs=true):Ev Ê (.call (d+1) 7 [.str cs] H) (⟨H,[],[]⟩,.val .none):=by
 rcases l5 h with rfl|rfl|rfl<;>(apply eD (S:=⟨H,[some (.str _)],[]⟩) rfl rfl;walk_at "w")
theorem Ei{l:List Nat}{k c:Nat}(h:é l k=some c)(hk:k<1000000)(hc:c<128):Ev Ê (.call (d+1) 8 [.bytes l,.int k] H) (⟨H,[],[]⟩,.val (.tup [.int c,.int 1])):=by
 have hi:=item_at h hk;have h1:Ī c 128=true:=decide_eq_true (by exact bw.mpr (ik ‹_› (by decide)));apply É (S:=⟨H,[some (.bytes l),some (.int k),none,none,none,none,none,none],[]⟩) rfl rfl;walk_at "w"
theorem EI{cs l:List Nat}{k c:Nat}(hs:sP cs=true)(h:é l k=some c)(hk:k<1000000)(hc:c<128):Ev Ê (.call (d+2) 9 [.str cs,.bytes l,.int k] H) (⟨H,[],[]⟩,.val (.tup [.int c,.int 1])):=by
 have hi:=item_at h hk;have h1:Ī 127 c=false:=decide_eq_false (by exact fun eG=>sk [_] (.c (.a Â Á) (.n 128) (.c (.a (.n 127) Á) Â .z)) rfl (bw.mpr hc) eG);have u:=Ei (d:=d) (H:=H) h hk hc;rcases l5 hs with rfl|rfl|rfl<;>(apply É (S:=⟨H,[some (.str _),some (.bytes l),some (.int k)],[]⟩) rfl rfl;walk_at "w")
theorem Ff{α}(a:List α)(x:α)(b:List α):é (a++x::b) a.length=some x:=by
 induction a generalizing x b with
 |nil=>
  exact rfl
 |cons _ r IH=>
  exact IH x b
theorem yb{cs:List Nat}(hs:sP cs=true)(DV:List Nat)(pre:List Nat)(x:Option V)(y:Option V)(h:(∀c∈DV,c<128))(hl:(pre++DV).length<1000000):T2 fun x' y'=>
  Ev Ê (.pH (d+2) (.cm à [2] [.bl 0 [.l 1]]) [.as (.t [(false,4),(false,5)]) (.fn 9 [.l 0,.l 1,.l 3]),.ex (.me Ë 7 [.te (.cm ā [5] [.c (.int 0)]) (.bl 1 [.l 4]) (.c (.str [65533]))]),.as (.n false 3) (.bi 0 à aR)]
   ⟨H++[.lst (pre.map fun c=>.str [c])],[some (.str cs),some (.bytes (pre++DV)),some (.Ó H.length),some (.int pre.length),x,y],[]⟩)
   (⟨H++[.lst ((pre++DV).map fun c=>.str [c])],[some (.str cs),some (.bytes (pre++DV)),some (.Ó H.length),some (.int (pre++DV).length),x',y'],[]⟩,.next):=by
 induction DV generalizing pre x y with
 |nil=>
  refine⟨x,y,?_⟩;rw[Ŵ]at hl ⊢;have hb:=len_bytes hl;have h1:Ī (pre.length:Int) pre.length=false:=decide_eq_false (Int.lt_irrefl _);apply Iz;walk_at "w"
 |cons c DV IH=>
  have hc:=h c ŭ;have HF:=hl;rw[ċ,Ă]at HF;obtain⟨x',y',ih⟩:=IH (pre++[c]) (some (.int c)) (some (.int 1)) (fun c hc=>h c (ŧ _ hc)) (by rw[ĝ];exact hl);rw[ĝ,dS]at ih;refine⟨x',y',?_⟩;have hb:=len_bytes hl;have h1:Ī (pre.length:Int) (pre++c::DV).length=true:=decide_eq_true (by rw[ċ,Ă];omega);have h2:gc 0 (c:Int)=true:=decide_eq_true (lS c);have h3:c<55296:=by exact ă ‹_› (by decide)
  have h4:small (pre.map fun c=>V.str [c])=true:=ê (by rw[Ė];exact Ń (ź _ _) ‹_›);have sg:=EI (d:=d) (H:=H++[.lst (pre.map fun c=>.str [c])]) hs (Ff pre c DV) (by exact Ń (ź _ _) ‹_›) hc;have e:((pre++[c]).length:Int)=pre.length+1:=by rw[ċ];rfl
  rw[e]at ih;apply xT
  rotate_left 3
  ·exact ih
  rotate_right 3
  walk_at "w"
theorem Ez{cs l:List Nat}(hs:sP cs=true)(h:∀c∈l,c<128)(hl:l.length<1000000):Ev Ê (.call (d+4) 10 [.str cs,.bytes l] H) (⟨H,[],[]⟩,.val (.str l)):=by
 obtain⟨x',y',lp⟩:=yb (d:=d) (H:=H) hs l [] none none h hl;have nd:=Fo (d:=d+2) (H:=H) hs;have hj:oi 3 (.str []) [.lst (l.map fun c=>V.str [c])]=some (.str l):=by
  have:=sM id hl;rw[List.map_id]at this;exact this
 apply É (S:=⟨H,[some (.str cs),some (.bytes l),none,none,none,none],[]⟩) rfl rfl;walk_at "w"
end
noncomputable def lEq{α:Type}(f:α→α→Bool):List α→List α→Bool
 |[],l=>l.isEmpty
 |a::r,l=>match l with
  |[]=>false
  |b::t=>f a b&&lEq f r t
noncomputable def OI:V→Option (List (List Nat×V))
 |.aX l=>some l
 |_=>none
noncomputable def uo:Nat→V→V→Bool
 |0=>fun À À=>false
 |n+1=>fun a b=>match a with
  |.none=>ip b
  |.bool x=>(qO b).any (x== ·)
  |.int x=>(qI b).any (gI x)
  |.str x=>(qS b).any (Ø x)
  |.bytes x=>(qB b).any (Ø x)
  |.tup x=>(qT b).any (lEq (uo n) x)
  |.lst x=>(qL b).any (lEq (uo n) x)
  |.aX x=>(OI b).any (lEq (fun p q=>Ø p.1 q.1&&uo n p.2 q.2) x)
  |.ins c x=>(sQ b).any fun p=>Þ c p.1&&lEq (fun p q=>Þ p.1 q.1&&uo n p.2 q.2) x p.2
  |_=>false
theorem qo{α:Type}{f:α→α→Bool}(hf:∀a b,f a b=true→a=b){l:List α}:∀{m:List α},lEq f l m=true→l=m:=by
 induction l with
 |nil=>exact fun h=>(emp h).symm
 |cons a r ih=>
  intro m h
  induction m using Ū with
  |nil=>exact â h
  |cons b t=>rw[hf _ _ (oa h).1,ih (oa h).2]
theorem Zz{v:V}{b:List (List Nat×V)}(h:OI v=some b):v=.aX b:=mO (f:=V.aX) h (by induction v using V.casesOn<;>first|exact trivial|exact rfl)
theorem NF{v:V}{b:Nat×List (Nat×V)}(h:sQ v=some b):v=.ins b.1 b.2:=mO (f:=fun b=>V.ins b.1 b.2) h (by induction v using V.casesOn<;>first|exact trivial|exact rfl)
theorem NA{v:V}(h:ip v=true):v=.none:=by induction v using V.casesOn<;>first|rfl|exact â h
theorem v_{n:Nat}:∀{a b:V},uo n a b=true→a=b:=by
 induction n with
 |zero=>exact nofun
 |succ n ih=>
  intro a b h
  induction a using V.casesOn with
  |none=>exact(NA h).symm
  |bool x=>obtain⟨y,h1,h2⟩:=anyI h;rw[iO h1,eq_of_beq h2]
  |int x=>obtain⟨y,h1,h2⟩:=anyI h;rw[iI h1,show x=y from of_decide_eq_true h2]
  |str x=>obtain⟨y,h1,h2⟩:=anyI h;rw[iS h1,ý h2]
  |bytes x=>obtain⟨y,h1,h2⟩:=anyI h;rw[iB h1,ý h2]
  |tup x=>obtain⟨y,h1,h2⟩:=anyI h;rw[iT h1,qo (fun À À=>ih) h2]
  |lst x=>obtain⟨y,h1,h2⟩:=anyI h;rw[iL h1,qo (fun À À=>ih) h2]
  |aX x=>obtain⟨y,h1,h2⟩:=anyI h;rw[Zz h1,qo (fun À À h=>Prod.ext (ý (oa h).1) (ih (oa h).2)) h2]
  |ins c x=>obtain⟨y,h1,h2⟩:=anyI h;rw[NF h1,Ģ (oa h2).1,qo (fun À À h=>Prod.ext (Ģ (oa h).1) (ih (oa h).2)) (oa h2).2]
  |_=>exact â h
theorem zM{n:Nat}{a b:V}(h:uo n a b=true):Ð b=true:=by
 rw[←v_ h]
 induction a using V.casesOn<;>first|rfl|(induction n using mM<;>exact â h)
noncomputable def Qk{P:Č}{t:Task}:An P t→Option V
 |none=>none
 |some p=>match p.1.2 with
  |.val v=>some v
  |_=>none
def Nz{P:Č}{t:Task}(r:An P t)(v:V):Bool:=(Qk r).any (uo 20 · v)
structure Told(P:Č)(t:Task)(v:V):Prop where
 c:Ð v=true
 e:∃st,Ev P t (st,.val v)
theorem dw{P:Č}{t:Task}{r:An P t}{v:V}(h:Nz r v=true):Told P t v:=by
 obtain⟨x,h1,h2⟩:=anyI h
 induction r using ş with
 |none=>exact nS h1
 |some p=>
  obtain⟨⟨st,o⟩,e⟩:=p
  induction o using Out.casesOn with
  |val y=>
   have h1:y=x:=ì h1;exact⟨zM h2,st,v_ h2▸h1▸e⟩
  |_=>exact nS h1
def two:List V→Option (List Nat×List Nat):=fun vs=>(q2 vs).bind fun p=>(qS p.1).bind fun cs=>(qB p.2).map fun l=>(cs,l)
noncomputable def Nj(l:List Nat):Bool:=l.all fun c=>Đ c 128
def E9(j:Nat)(vs:List V):Option V:=match Þ j 4 with
 |true=>(q1 vs).bind fun v=>(qS v).bind fun l=>if l.all (fun c=>Đ (dP c) 55296)&&small l then some (.str (l.map dP))else none
 |false=>match Þ j 10 with
  |true=>(two vs).bind fun p=>if sP p.1&&Nj p.2&&small p.2 then some (.str p.2)else none
  |false=>none
theorem wG{j:Nat}{vs:List V}{v:V}(h:E9 j vs=some v):Told Ê (.call 20 j vs []) v:=by
 unfold E9 at h
 induction e:Þ j 4 using ñ with
 |true=>
  rw[e]at h;refine ï h fun u h1 h=>?_;refine ï h fun l h2 h=>?_
  (have hc:=cy h;have h:=cn h)
  have hv:=ì h;rw[Ģ e,i1 h1,iS h2,←hv];exact⟨rfl,_,mV (d:=16) (fun c m=>bQ.mp (gG.mp (oa hc).1 c m)) (ĥ (oa hc).2)⟩
 |false=>
  rw[e]at h;have h:(match Þ j 10 with|true=>(two vs).bind fun p=>if sP p.1&&Nj p.2&&small p.2 then some (.str p.2)else none|false=>none)=some v:=h
  induction e2:Þ j 10 using ñ with
  |false=>rw[e2]at h;exact nS h
  |true=>
   rw[e2]at h;refine ï h fun q h1 h=>?_;refine ï h1 fun p h2 h1=>?_;refine ï h1 fun cs h3 h1=>?_;refine cJ h1 fun l h4 h1=>?_
   (have hc:=cy h;have h:=cn h)
   have hv:=ì h;rw[←h1]at hc hv;rw[Ģ e2,i2 h2,iS h3,iB h4,←hv];exact⟨rfl,_,Ez (d:=16) (oa (oa hc).1).1 (fun c m=>bQ.mp (gG.mp (oa (oa hc).1).2 c m)) (ĥ (oa hc).2)⟩
def oA:L2 Ê:=⟨E9,20,fun h=>let ⟨a,st,b⟩:=wG h;⟨a,20,st,Ų _,b⟩⟩
def Æ{α}(l:List (List α))(n:Nat):List α:=match é l n with
 |some x=>x
 |none=>[]
noncomputable def æ:List (List Nat):=[AB,AE,AA,AD,Az,[]]
noncomputable def Ç:List (List Nat):=[[116,101,97],wD,lA,[120]]
noncomputable def ö:List (List Nat):=[[84,69,65],[110,111,111,110],lA,Aw,[],Ay,[101],[122,122]]
noncomputable def Œ:List (List Nat):=[rP,rR,rO,[107,119]]
def xA(n:Nat):List Nat:=match Đ n 5 with
 |true=>eS++(Æ æ n++[13,10])
 |false=>[]
def xm(s:Nat):List Nat:=bK++(Æ Ç s++fC)
def iG(b:Nat):List Nat:=Æ Ç b++[13,10]
def txt(n s b:Nat):List Nat:=xA n++(xm s++iG b)
def eZ(n:Nat):V:=.ins 3 [(33,.bytes lz),(34,.bytes (32::Æ æ n))]
def cP(s:Nat):V:=.ins 3 [(33,.bytes lC),(34,.bytes (32::Æ Ç s))]
def ě(n s:Nat):List V:=match Đ n 5 with
 |true=>[eZ n,cP s]
 |false=>[cP s]
noncomputable def Bk:V:=.ins 4 [(35,.str aS),(36,.str [112,108,97,105,110]),(37,.aX [(Ax,.str eT)])]
def ġ(n s b:Nat):V:=.ins 5 [(38,.int 0),(39,.int (xA n++xm s).length),(19,.int (txt n s b).length),(40,.lst (ě n s)),(41,Bk),(42,.str wC),(11,.lst []),(43,.none)]
abbrev qR(j:Nat)(vs:List V)(v:V):Bool:=Nz (EV oA 300 (.call 40 j vs [])) v
def wordOf(l:List Nat):Option V:=match Ø l lz with
 |true=>some (.str ň)
 |false=>match Ø l lC with
  |true=>some (.str Ġ)
  |false=>none
noncomputable def Gz(y m d:Int):V:=.tup [.int y,.int m,.int d]
noncomputable def Fs(a b c d e f g:Int):V:=.ins 2 [(20,.int a),(21,.int b),(22,.int c),(23,.int d),(24,.int e),(25,.int f),(26,.int g)]
def SN:List V:=[Fs 1969 12 31 23 0 0 (-300),Fs 1994 2 1 23 59 60 0,Fs 1994 2 2 0 0 0 0,Fs 2000 2 29 12 0 0 840]
theorem G1(r:V):qR 103 [.ins 3 [(33,.bytes lz),(34,r)]] (.str ň)=true:=by kernel_rfl
theorem G0(r:V):qR 103 [.ins 3 [(33,.bytes lC),(34,r)]] (.str Ġ)=true:=by kernel_rfl
theorem G3:qR 37 [.bytes lz] (.bool true)=true:=by kernel_rfl
theorem G2:qR 37 [.bytes lC] (.bool true)=true:=by kernel_rfl
theorem U7:qR 6 [.str eT] (.str eT)=true:=by kernel_rfl
def qh(n:Nat):V:=match é SN n with
 |some v=>v
 |none=>.none
theorem G7:qR 35 [.bytes (Æ æ 0)] (qh 0)=true:=by kernel_rfl
theorem G6:qR 35 [.bytes (Æ æ 1)] (qh 1)=true:=by kernel_rfl
theorem G5:qR 35 [.bytes (Æ æ 2)] (qh 2)=true:=by kernel_rfl
theorem G4:qR 35 [.bytes (Æ æ 3)] (qh 3)=true:=by kernel_rfl
def vD(l:List Nat):Option V:=match Ø l (Æ æ 0)with
 |true=>some (qh 0)
 |false=>match Ø l (Æ æ 1)with
  |true=>some (qh 1)
  |false=>match Ø l (Æ æ 2)with
   |true=>some (qh 2)
   |false=>match Ø l (Æ æ 3)with
    |true=>some (qh 3)
    |false=>none
def rawOf(vs:List V):Option (List Nat×V):=(q1 vs).bind fun v=>(sQ v).bind fun p=>if Þ p.1 3 then(q2 p.2).bind fun q=>if Þ q.1.1 33&&Þ q.2.1 34 then(qB q.1.2).map fun l=>(l,q.2.2)else none else none
def JQ(j:Nat)(vs:List V):Option V:=match Þ j 103 with
 |true=>(rawOf vs).bind fun p=>wordOf p.1
 |false=>match Þ j 6 with
  |true=>(q1 vs).bind fun v=>(qS v).bind fun l=>if Ø l eT then some (.str eT)else none
  |false=>match Þ j 37 with
   |true=>(q1 vs).bind fun v=>(qB v).bind fun l=>(wordOf l).map fun À=>.bool true
   |false=>match Þ j 35 with
    |true=>(q1 vs).bind fun v=>(qB v).bind vD
    |false=>E9 j vs
theorem nv{l:List Nat}{v:V}(h:wordOf l=some v):(l=lz∧v=.str ň)∨(l=lC∧v=.str Ġ):=by
 unfold wordOf at h
 induction e:Ø l lz using ñ with
 |true=>rw[e]at h;exact .inl ⟨ý e,(ì h).symm⟩
 |false=>
  rw[e]at h
  induction e2:Ø l lC using ñ with
  |true=>rw[e2]at h;exact .inr ⟨ý e2,(ì h).symm⟩
  |false=>rw[e2]at h;exact nS h
theorem yY{l:List Nat}{v:V}(h:vD l=some v):∃n,A3 (n<4) (l=Æ æ n) (v=qh n):=by
 unfold vD at h
 induction e:Ø l (Æ æ 0)using ñ with
 |true=>rw[e]at h;exact⟨0,by decide,ý e,(ì h).symm⟩
 |false=>
  rw[e]at h
  induction e1:Ø l (Æ æ 1)using ñ with
  |true=>rw[e1]at h;exact⟨1,by decide,ý e1,(ì h).symm⟩
  |false=>
   rw[e1]at h
   induction e2:Ø l (Æ æ 2)using ñ with
   |true=>rw[e2]at h;exact⟨2,by decide,ý e2,(ì h).symm⟩
   |false=>
    rw[e2]at h
    induction e3:Ø l (Æ æ 3)using ñ with
    |true=>rw[e3]at h;exact⟨3,by decide,ý e3,(ì h).symm⟩
    |false=>rw[e3]at h;exact nS h
theorem Al{vs:List V}{p:List Nat×V}(h:rawOf vs=some p):vs=[.ins 3 [(33,.bytes p.1),(34,p.2)]]:=by
 refine ï h fun v h1 h=>?_;refine ï h fun q h2 h=>?_
 (have h3:=cy h;have h:=cn h)
 refine ï h fun r h4 h=>?_
 (have h5:=cy h;have h:=cn h)
 refine cJ h fun l h6 h=>?_;obtain⟨⟨a,b⟩,c,d⟩:=r;rw[i1 h1,NF h2,Ģ h3,i2 h4,←h];have e1:a=33:=Ģ (oa h5).1;have e2:c=34:=Ģ (oa h5).2;have e3:b=.bytes l:=iB h6;rw[e1,e2,e3]
theorem E8{j:Nat}{vs:List V}{v:V}(h:JQ j vs=some v):Ð v=true∧T2 fun d st=>d≤40∧Ev Ê (.call d j vs []) (st,.val v):=by
 have up:∀{j vs v},Told Ê (.call 40 j vs []) v→Ð v=true∧T2 fun d st=>d≤40∧Ev Ê (.call d j vs []) (st,.val v):=fun t=>let ⟨st,e⟩:=t.e;⟨t.c,40,st,Ų _,e⟩
 unfold JQ at h
 induction e:Þ j 103 using ñ with
 |true=>
  rw[e]at h;refine ï h fun p h1 h=>?_;rw[Ģ e,Al h1];rcases nv h with⟨e1,e2⟩|⟨e1,e2⟩<;>rw[e1,e2]
  ·exact up (dw (G1 _))
  ·exact up (dw (G0 _))
 |false=>
 rw[e]at h
 induction e2:Þ j 6 using ñ with
 |true=>
  rw[e2]at h;refine ï h fun u h1 h=>?_;refine ï h fun l h2 h=>?_
  (have h3:=cy h;have h:=cn h)
  rw[Ģ e2,i1 h1,iS h2,ý h3,←ì h];exact up (dw U7)
 |false=>
 rw[e2]at h
 induction e3:Þ j 37 using ñ with
 |true=>
  rw[e3]at h;refine ï h fun u h1 h=>?_;refine ï h fun l h2 h=>?_;refine cJ h fun x h3 h=>?_;rw[Ģ e3,i1 h1,iB h2,←h];rcases nv h3 with⟨e1,_⟩|⟨e1,_⟩<;>rw[e1]
  ·exact up (dw G3)
  ·exact up (dw G2)
 |false=>
 rw[e3]at h
 induction e4:Þ j 35 using ñ with
 |true=>
  rw[e4]at h;refine ï h fun u h1 h=>?_;refine ï h fun l h2 h=>?_;obtain⟨n,hn,e1,e5⟩:=yY h;rw[Ģ e4,i1 h1,iB h2,e1,e5]
  match n,hn with
  |0,_=>exact up (dw G7)
  |1,_=>exact up (dw G6)
  |2,_=>exact up (dw G5)
  |3,_=>exact up (dw G4)
  |n+4,hn=>exact absurd hn (by exact Ŧ (î _ _))
 |false=>
 rw[e4]at h;obtain⟨a,st,b⟩:=wG h;exact⟨a,20,st,by decide,b⟩
def oB:L2 Ê:=⟨JQ,40,E8⟩
abbrev aa(j:Nat)(vs:List V)(v:V):Bool:=Nz (EV oB 300 (.call 60 j vs [])) v
noncomputable def allB(f:Nat→Bool):Nat→Bool
 |0=>true
 |n+1=>match f n with
  |true=>allB f n
  |false=>false
theorem b_{f:Nat→Bool}:∀{n:Nat},allB f n=true→∀k,k<n→f k=true
 |0,_,k,h=>absurd h (Nat.not_lt_zero k)
 |n+1,h,k,hk=>by
  unfold allB at h
  split at h
  ·rename_i e;rcases Nat.lt_or_ge k n with l|l
   ·exact b_ h k l
   ·have:k=n:=by exact cQ (ä [_,_] (.c (.a Â Á) (.a È Á) .z) Â È rfl hk) (ä [_,_] (.c Â È .z) Â È rfl l)
    rw[this];exact e
  ·exact â h
theorem d8{f:Nat→Nat→Bool}{n m:Nat}(h:allB (fun i=>allB (f i) m) n=true){i j:Nat}(hi:i<n)(hj:j<m):f i j=true:=b_ (b_ h i hi) j hj
theorem CT{f:Nat→Nat→Nat→Bool}{n m q:Nat}(h:allB (fun i=>allB (fun j=>allB (f i j) q) m) n=true){i j k:Nat}(hi:i<n)(hj:j<m)(hk:k<q):f i j k=true:=b_ (d8 (f:=fun i j=>allB (f i j) q) h hi hj) k hk
def Ĝ(l:List Nat):List Nat:=l.map dP
def bB(n:Nat):List Nat:=eS++Æ æ n
def aD(s:Nat):List Nat:=bK++Æ Ç s
def bW(o:Nat)(l:List Nat):Bool:=ř (Ĝ (Æ ö o)) (Ĝ l)
def Mv:List V:=[Gz 1969 12 31,Gz 1994 2 1,Gz 1994 2 2,Gz 2000 2 29]
def å(n:Nat):V:=match é Mv n with
 |some v=>v
 |none=>.none
noncomputable def OJ:List Int:=[-1,8797,8798,11016]
noncomputable def IZ:List Int:=[0,86399,40000]
def GA(n:Nat):Int:=match é OJ n with
 |some v=>v
 |none=>0
def Hh(n:Nat):Int:=match é IZ n with
 |some v=>v
 |none=>0
def dW(a b:Nat):Int:=86400*GA a+Hh b
theorem Kw:allB (fun s=>allB (fun b=>aa 49 [.bytes (txt 0 s b)] (ġ 0 s b)) 4) 4=true:=by kernel_rfl
theorem Ku:allB (fun s=>allB (fun b=>aa 49 [.bytes (txt 1 s b)] (ġ 1 s b)) 4) 4=true:=by kernel_rfl
theorem Kt:allB (fun s=>allB (fun b=>aa 49 [.bytes (txt 2 s b)] (ġ 2 s b)) 4) 4=true:=by kernel_rfl
theorem Ks:allB (fun s=>allB (fun b=>aa 49 [.bytes (txt 3 s b)] (ġ 3 s b)) 4) 4=true:=by kernel_rfl
theorem Kr:allB (fun s=>allB (fun b=>aa 49 [.bytes (txt 4 s b)] (ġ 4 s b)) 4) 4=true:=by kernel_rfl
theorem Kq:allB (fun s=>allB (fun b=>aa 49 [.bytes (txt 5 s b)] (ġ 5 s b)) 4) 4=true:=by kernel_rfl
theorem FX:allB (fun n=>aa 63 [eZ n] (.str (bB n))) 5=true:=by kernel_rfl
theorem FV:allB (fun s=>aa 63 [cP s] (.str (aD s))) 4=true:=by kernel_rfl
theorem FU:allB (fun s=>aa 62 [cP s] (.str (Æ Ç s))) 4=true:=by kernel_rfl
theorem FR:allB (fun o=>allB (fun n=>aa 61 [.bytes (Æ ö o),.str (bB n)] (.bool (bW o (bB n)))) 5) 8=true:=by kernel_rfl
theorem Ko:allB (fun o=>allB (fun s=>aa 61 [.bytes (Æ ö o),.str (aD s)] (.bool (bW o (aD s)))) 4) 8=true:=by kernel_rfl
theorem FQ:allB (fun o=>allB (fun s=>aa 61 [.bytes (Æ ö o),.str (Æ Ç s)] (.bool (bW o (Æ Ç s)))) 4) 8=true:=by kernel_rfl
theorem FT:allB (fun o=>allB (fun b=>aa 61 [.bytes (Æ ö o),.str (iG b)] (.bool (bW o (Æ Ç b)))) 4) 8=true:=by kernel_rfl
theorem Kz:allB (fun n=>allB (fun s=>allB (fun b=>aa 52 [.bytes (txt n s b),ġ n s b] (.str (iG b))) 4) 4) 6=true:=by kernel_rfl
theorem Kp:allB (fun n=>allB (fun s=>aa 69 [.lst (ě n s)] (å n)) 4) 6=true:=by kernel_rfl
theorem Nw:allB (fun a=>allB (fun b=>aa 26 [.int (dW a b),.int 0] (å a)) 3) 4=true:=by kernel_rfl
theorem Ky:allB (fun f=>aa 2 [.str (Æ Œ f)] (.str (Æ Œ f))) 4=true:=by kernel_rfl
theorem FW:allB (fun o=>aa 89 [.bytes (Æ ö o)] (.str (Ĝ (Æ ö o)))) 8=true:=by kernel_rfl
section
theorem eI{H:List Cell}{vs:List V}(h:(vs.all Ð)=true):ē H vs=some (H,vs):=by
 induction vs with
 |nil=>rfl
 |cons v r ih=>
  have h:=oa h;have e:Ô H v=some (H,v):=by induction v using V.casesOn<;>first|rfl|cases h.1
  show(Ô H v).bind _=_;rw[e];show(ē H r).bind _=_;rw[ih h.2];rfl
variable{d:Nat}{H:List Cell}
theorem IC{D j:Nat}{vs:List V}{v:V}{st:St}(hd:D≤d)(h:Ev Ê (.call D j vs []) (st,.val v))(hv:vs.all Ð=true)(hn:Ð v=true):Ev Ê (.call d j vs H) (⟨H,[],[]⟩,.val v):=oX hd (eI hv) h hn
theorem use1{j:Nat}{vs:List V}{v:V}(h:aa j vs v=true)(hS:true=true)(hv:vs.all Ð=true):Ev Ê (.call (d+61) j vs H) (⟨H,[],[]⟩,.val v):=
 let ⟨c,_,e⟩:=dw h
 IC (ă (by decide) (î 61 d)) e hv c
theorem J0{n s b:Nat}(hn:n<6)(hs:s<4)(hb:b<4):Ev Ê (.call (d+61) 49 [.bytes (txt n s b)] H) (⟨H,[],[]⟩,.val (ġ n s b)):=by
 refine use1 ?_ rfl rfl
 match n,hn with
 |0,_=>exact d8 (f:=fun s b=>aa 49 [.bytes (txt 0 s b)] (ġ 0 s b)) Kw hs hb
 |1,_=>exact d8 (f:=fun s b=>aa 49 [.bytes (txt 1 s b)] (ġ 1 s b)) Ku hs hb
 |2,_=>exact d8 (f:=fun s b=>aa 49 [.bytes (txt 2 s b)] (ġ 2 s b)) Kt hs hb
 |3,_=>exact d8 (f:=fun s b=>aa 49 [.bytes (txt 3 s b)] (ġ 3 s b)) Ks hs hb
 |4,_=>exact d8 (f:=fun s b=>aa 49 [.bytes (txt 4 s b)] (ġ 4 s b)) Kr hs hb
 |5,_=>exact d8 (f:=fun s b=>aa 49 [.bytes (txt 5 s b)] (ġ 5 s b)) Kq hs hb
 |n+6,h=>exact absurd ‹_› (Ŧ (î _ _))
theorem Ka{n:Nat}(hn:n<5):Ev Ê (.call (d+61) 63 [eZ n] H) (⟨H,[],[]⟩,.val (.str (bB n))):=use1 (b_ FX n hn) rfl rfl
theorem J_{s:Nat}(hs:s<4):Ev Ê (.call (d+61) 63 [cP s] H) (⟨H,[],[]⟩,.val (.str (aD s))):=use1 (b_ FV s hs) rfl rfl
theorem I0{s:Nat}(hs:s<4):Ev Ê (.call (d+61) 62 [cP s] H) (⟨H,[],[]⟩,.val (.str (Æ Ç s))):=use1 (b_ FU s hs) rfl rfl
theorem S3{o n:Nat}(ho:o<8)(hn:n<5):Ev Ê (.call (d+61) 61 [.bytes (Æ ö o),.str (bB n)] H) (⟨H,[],[]⟩,.val (.bool (bW o (bB n)))):=
 use1 (d8 (f:=fun o n=>aa 61 [.bytes (Æ ö o),.str (bB n)] (.bool (bW o (bB n)))) FR ho hn) rfl rfl
theorem S2{o s:Nat}(ho:o<8)(hs:s<4):Ev Ê (.call (d+61) 61 [.bytes (Æ ö o),.str (aD s)] H) (⟨H,[],[]⟩,.val (.bool (bW o (aD s)))):=
 use1 (d8 (f:=fun o s=>aa 61 [.bytes (Æ ö o),.str (aD s)] (.bool (bW o (aD s)))) Ko ho hs) rfl rfl
theorem S1{o s:Nat}(ho:o<8)(hs:s<4):Ev Ê (.call (d+61) 61 [.bytes (Æ ö o),.str (Æ Ç s)] H) (⟨H,[],[]⟩,.val (.bool (bW o (Æ Ç s)))):=
 use1 (d8 (f:=fun o s=>aa 61 [.bytes (Æ ö o),.str (Æ Ç s)] (.bool (bW o (Æ Ç s)))) FQ ho hs) rfl rfl
theorem S4{o b:Nat}(ho:o<8)(hb:b<4):Ev Ê (.call (d+61) 61 [.bytes (Æ ö o),.str (iG b)] H) (⟨H,[],[]⟩,.val (.bool (bW o (Æ Ç b)))):=
 use1 (d8 (f:=fun o b=>aa 61 [.bytes (Æ ö o),.str (iG b)] (.bool (bW o (Æ Ç b)))) FT ho hb) rfl rfl
theorem GO{n s b:Nat}(hn:n<6)(hs:s<4)(hb:b<4):Ev Ê (.call (d+61) 52 [.bytes (txt n s b),ġ n s b] H) (⟨H,[],[]⟩,.val (.str (iG b))):=
 use1 (CT (f:=fun n s b=>aa 52 [.bytes (txt n s b),ġ n s b] (.str (iG b))) Kz hn hs hb) rfl rfl
theorem EK{n s:Nat}(hn:n<6)(hs:s<4):Ev Ê (.call (d+61) 69 [.lst (ě n s)] H) (⟨H,[],[]⟩,.val (å n)):=
 use1 (d8 (f:=fun n s=>aa 69 [.lst (ě n s)] (å n)) Kp hn hs) rfl rfl
theorem La{a b:Nat}(ha:a<4)(hb:b<3):Ev Ê (.call (d+61) 26 [.int (dW a b),.int 0] H) (⟨H,[],[]⟩,.val (å a)):=
 use1 (d8 (f:=fun a b=>aa 26 [.int (dW a b),.int 0] (å a)) Nw ha hb) rfl rfl
theorem Gp{f:Nat}(hf:f<4):Ev Ê (.call (d+61) 2 [.str (Æ Œ f)] H) (⟨H,[],[]⟩,.val (.str (Æ Œ f))):=use1 (b_ Ky f hf) rfl rfl
theorem lN{o:Nat}(ho:o<8):Ev Ê (.call (d+61) 89 [.bytes (Æ ö o)] H) (⟨H,[],[]⟩,.val (.str (Ĝ (Æ ö o)))):=use1 (b_ FW o ho) rfl rfl
theorem Ed(r:V):Nz (EV oB 300 (.call 60 103 [.ins 3 [(33,.bytes lz),(34,r)]] [])) (.str ň)=true:=by kernel_rfl
theorem Ec(r:V):Nz (EV oB 300 (.call 60 103 [.ins 3 [(33,.bytes lC),(34,r)]] [])) (.str Ġ)=true:=by kernel_rfl
theorem zK{n:Nat}:Ev Ê (.call (d+61) 103 [eZ n] H) (⟨H,[],[]⟩,.val (.str ň)):=use1 (Ed _) rfl rfl
theorem zJ{s:Nat}:Ev Ê (.call (d+61) 103 [cP s] H) (⟨H,[],[]⟩,.val (.str Ġ)):=use1 (Ec _) rfl rfl
end
section
variable{d:Nat}{H:List Cell}
noncomputable def Į:List (List Nat):=[jA,[111,110],n7]
theorem ŝ{a:Nat}(ha:a<4):T3 fun x y z=>å a=.tup [.int x,.int y,.int z]:=by
 match a,ha with
 |0,_=>exact⟨_,_,_,rfl⟩
 |1,_=>exact⟨_,_,_,rfl⟩
 |2,_=>exact⟨_,_,_,rfl⟩
 |3,_=>exact⟨_,_,_,rfl⟩
 |a+4,h=>exact absurd ‹_› (Ŧ (î _ _))
def ON(op:Nat)(a b:V):Bool:=match cmp op a b with
 |some x=>x
 |none=>false
noncomputable def OK:Nat→Nat
 |0=>2
 |1=>0
 |_=>5
def m9(w:Nat)(a b:V):Bool:=ON (OK w) a b
theorem Cp{x y z x' y' z':Int}:cmp 2 (.tup [.int x,.int y,.int z]) (.tup [.int x',.int y',.int z'])=some (m9 0 (.tup [.int x,.int y,.int z]) (.tup [.int x',.int y',.int z'])):=rfl
theorem Cr{x y z x' y' z':Int}:cmp 0 (.tup [.int x,.int y,.int z]) (.tup [.int x',.int y',.int z'])=some (m9 1 (.tup [.int x,.int y,.int z]) (.tup [.int x',.int y',.int z'])):=rfl
theorem Cq{x y z x' y' z':Int}:cmp 5 (.tup [.int x,.int y,.int z]) (.tup [.int x',.int y',.int z'])=some (m9 2 (.tup [.int x,.int y,.int z]) (.tup [.int x',.int y',.int z'])):=rfl
theorem xx{P:Č}(hf:P.fn 68=some TR)(ho:P.open_ 68=false){w a b:Nat}(hw:w<3)(ha:a<4)(hb:b<4):Ev P (.call (d+1) 68 [.str (Æ Į w),å a,å b] H) (⟨H,[],[]⟩,.val (.bool (m9 w (å a) (å b)))):=by
 obtain⟨x,y,z,e⟩:=ŝ ha;obtain⟨x',y',z',e'⟩:=ŝ hb;rw[e,e'];have h0:=@Cp x y z x' y' z';have h1:=@Cr x y z x' y' z';have h2:=@Cq x y z x' y' z'
 match w,hw with
 |0,_=>
  apply É (S:=⟨H,[some (.str (Æ Į 0)),some (.tup [.int x,.int y,.int z]),some (.tup [.int x',.int y',.int z'])],[]⟩) hf rfl;walk_at "w"
 |1,_=>
  apply É (S:=⟨H,[some (.str (Æ Į 1)),some (.tup [.int x,.int y,.int z]),some (.tup [.int x',.int y',.int z'])],[]⟩) hf rfl;walk_at "w"
 |2,_=>
  apply É (S:=⟨H,[some (.str (Æ Į 2)),some (.tup [.int x,.int y,.int z]),some (.tup [.int x',.int y',.int z'])],[]⟩) hf rfl;walk_at "w"
 |w+3,h=>exact absurd ‹_› (Ŧ (î _ _))
noncomputable def ķ(p g:Nat):Nat:=if p=0 then g else p
def D0(a b:Int):Int:=if Ī b a then b else a
def DY(a b:Int):Int:=if Ī a b then b else a
theorem o9{a b:Nat}(h:a≠b):gI (a:Int) (b:Int)=false:=decide_eq_false (by omega)
theorem sU{a b:Nat}(h:a=b):gI (a:Int) (b:Int)=true:=decide_eq_true (by omega)
theorem Gs{p q g:Nat}(hg:g≠0):Ev Ê (.call (d+1) 57 [.tup [.int p,.int q],.int g] H) (⟨H,[],[]⟩,.val (.tup [.int (D0 (ķ p g) (ķ q g)),.int (DY (ķ p g) (ķ q g))])):=by
 have h0:gI (g:Int) 0=false:=o9 (b:=0) hg
 by_cases hp:p=0<;>by_cases hq:q=0
 ·have h1:gI (p:Int) 0=true:=sU (b:=0) hp;have h2:gI (q:Int) 0=true:=sU (b:=0) hq;have e1:ķ p g=g:=if_pos hp;have e2:ķ q g=g:=if_pos hq;rw[e1,e2];apply É (S:=⟨H,[some (.tup [.int p,.int q]),some (.int g),none,none],[]⟩) rfl rfl;walk_at "w"
 ·have h1:gI (p:Int) 0=true:=sU (b:=0) hp;have h2:gI (q:Int) 0=false:=o9 (b:=0) hq;have e1:ķ p g=g:=if_pos hp;have e2:ķ q g=q:=if_neg hq;rw[e1,e2];apply É (S:=⟨H,[some (.tup [.int p,.int q]),some (.int g),none,none],[]⟩) rfl rfl;walk_at "w"
 ·have h1:gI (p:Int) 0=false:=o9 (b:=0) hp;have h2:gI (q:Int) 0=true:=sU (b:=0) hq;have e1:ķ p g=p:=if_neg hp;have e2:ķ q g=g:=if_pos hq;rw[e1,e2];apply É (S:=⟨H,[some (.tup [.int p,.int q]),some (.int g),none,none],[]⟩) rfl rfl;walk_at "w"
 ·have h1:gI (p:Int) 0=false:=o9 (b:=0) hp;have h2:gI (q:Int) 0=false:=o9 (b:=0) hq;have e1:ķ p g=p:=if_neg hp;have e2:ķ q g=q:=if_neg hq;rw[e1,e2];apply É (S:=⟨H,[some (.tup [.int p,.int q]),some (.int g),none,none],[]⟩) rfl rfl;walk_at "w"
noncomputable def n_(p:Nat×Nat):V:=.tup [.int p.1,.int p.2]
def gA(n g:Nat)(p:Nat×Nat):Bool:=gc (D0 (ķ p.1 g) (ķ p.2 g)) n&&gc n (DY (ķ p.1 g) (ķ p.2 g))
def k_(ps:List (Nat×Nat)):V:=.tup (ps.map n_)
def setB(ps:List (Nat×Nat))(n g:Nat):Bool:=ps.any (gA n g)
theorem BW{n g:Nat}(hg:g≠0){u:V}(ps:List (Nat×Nat))(x:Option V)(y:Option V):∃fk,Ev Ê (.qG (d+2) (.n false 3) (ps.map n_) [.as (.n false 4) (.fn 57 [.l 3,.l 2]),.if (.bo true [.cm ā [7] [.c .none],.cm (.ix ā ç) [3,3] [.l 1,.ix ā Ì]]) [.re (.c (.bool true))] []]
  ⟨H,[some u,some (.int n),some (.int g),x,y],[]⟩) (⟨H,fk,[]⟩,if setB ps n g then .ret (.bool true)else .next):=by
 induction ps generalizing x y with
 |nil=>
  exact⟨_,ui⟩
 |cons p ps IH=>
  have e:=Gs (d:=d+1) (H:=H) (p:=p.1) (q:=p.2) hg;have hs:setB (p::ps) n g=(gA n g p||setB ps n g):=rfl
  induction h1:gc (D0 (ķ p.1 g) (ķ p.2 g)) n using ñ with
  |false=>
   have hp:gA n g p=false:=by unfold gA;rw[h1];rfl
   rw[hs,hp,jJ];obtain⟨fk,ih⟩:=IH (some (n_ p)) (some (.tup [.int (D0 (ķ p.1 g) (ķ p.2 g)),.int (DY (ķ p.1 g) (ķ p.2 g))]));refine⟨fk,?_⟩;apply mQ rfl
   rotate_left 2
   ·exact ih
   rotate_right 2
   walk_at "w"
  |true=>
   induction h2:gc n (DY (ķ p.1 g) (ķ p.2 g))using ñ with
   |false=>
    have hp:gA n g p=false:=by unfold gA;rw[h1,h2];rfl
    rw[hs,hp,jJ];obtain⟨fk,ih⟩:=IH (some (n_ p)) (some (.tup [.int (D0 (ķ p.1 g) (ķ p.2 g)),.int (DY (ķ p.1 g) (ķ p.2 g))]));refine⟨fk,?_⟩;apply mQ rfl
    rotate_left 2
    ·exact ih
    rotate_right 2
    walk_at "w"
   |true=>
    have hp:gA n g p=true:=by unfold gA;rw[h1,h2];rfl
    rw[hs,hp,oK];refine⟨[some u,some (.int n),some (.int g),some (n_ p),some (.tup [.int (D0 (ķ p.1 g) (ķ p.2 g)),.int (DY (ķ p.1 g) (ķ p.2 g))])],?_⟩;apply zD rfl;walk_at "w"
theorem BV{n g:Nat}(hg:g≠0)(ps:List (Nat×Nat)):Ev Ê (.call (d+4) 58 [k_ ps,.int n,.int g] H) (⟨H,[],[]⟩,.val (.bool (setB ps n g))):=by
 obtain⟨fk,lp⟩:=BW (d:=d) (H:=H) (n:=n) hg (u:=k_ ps) ps none none
 induction hb:setB ps n g using ñ with
 |true=>
  rw[hb,if_pos rfl]at lp;apply É (S:=⟨H,[some (k_ ps),some (.int n),some (.int g),none,none],[]⟩) rfl rfl;apply dp;apply bR;walk_at "w"
 |false=>
  rw[hb,if_neg (by decide)]at lp;apply É (S:=⟨H,[some (k_ ps),some (.int n),some (.int g),none,none],[]⟩) rfl rfl;apply Ò;apply bR;walk_at "w"
structure LP where
 uid:Nat
 n:Nat
 s:Nat
 b:Nat
 f0:Bool
 f1:Bool
 f2:Bool
 f3:Bool
 sp:Nat
 ti:Nat
 mo:Nat
structure LP.Ok(p:LP):Prop where
 n:p.n<6
 s:p.s<4
 b:p.b<4
 sp:p.sp<4
 ti:p.ti<3
def Ĩ(p:LP):List V:=(if p.f0 then[V.str (Æ Œ 0)]else[])++((if p.f1 then[V.str (Æ Œ 1)]else[])++((if p.f2 then[V.str (Æ Œ 2)]else[])++(if p.f3 then[V.str (Æ Œ 3)]else[])))
def ģ(p:LP)(o:V):V:=.ins 0 [(13,.int p.uid),(14,o),(15,.tup (Ĩ p)),(16,.int (dW p.sp p.ti)),(17,.int p.mo)]
def Ý(p:LP):V:=ģ p (.bytes (txt p.n p.s p.b))
def dH(p:LP)(k:Nat)(r:Bool):V:=.ins 6 [(46,Ý p),(32,.int k),(47,if r then ġ p.n p.s p.b else .none)]
inductive Ś where
 |flag (f:Nat)|aJ (k:Nat)|Ţ (k:Nat)|aH (k:Nat)|seq (ps:List (Nat×Nat))|uid (ps:List (Nat×Nat))|day (w i:Nat)|gP (w i:Nat)|header (o:Nat)|text (o:Nat)|body (o:Nat)|all
noncomputable def Ś.ctorIdx:Ś→Nat:=fun v=>v.casesOn (fun À=>0) (fun À=>1) (fun À=>2) (fun À=>3) (fun À=>4) (fun À=>5) (fun À À=>6) (fun À À=>7) (fun À=>8) (fun À=>9) (fun À=>10) 11
noncomputable def bf:List (List Nat):=[Hl,[115,101,110,116,111,110],[115,101,110,116,115,105,110,99,101]]
def Û:Ś→V
 |.flag f=>.tup [.str hV,.str (Æ Œ f)]
 |.aJ k=>.tup [.str lB,.int k]
 |.Ţ k=>.tup [.str n8,.int k]
 |.aH k=>.tup [.str aT,.int k]
 |.seq ps=>.tup [.str [115,101,113],k_ ps]
 |.uid ps=>.tup [.str [117,105,100],k_ ps]
 |.day w i=>.tup [.str (Æ Į w),å i]
 |.gP w i=>.tup [.str (Æ bf w),å i]
 |.header o=>.tup [.str cw,.str Ġ,.bytes (Æ ö o)]
 |.text o=>.tup [.str aS,.bytes (Æ ö o)]
 |.body o=>.tup [.str ŗ,.bytes (Æ ö o)]
 |.all=>.tup [.str [97,108,108]]
def Ś.ok:Ś→Prop
 |.flag f=>f<4
 |.day w i=>w<3∧i<4
 |.gP w i=>w<3∧i<4
 |.header o=>o<8
 |.text o=>o<8
 |.body o=>o<8
 |_=>True
noncomputable def Ś.reads:Ś→Bool
 |.gP .. =>true
 |.header .. =>true
 |.text .. =>true
 |.body .. =>true
 |_=>false
def Ga(f:Nat)(p:LP):Bool:=ON 8 (.str (Æ Œ f)) (.tup (Ĩ p))
def Mh(o:Nat)(p:LP):Bool:=bW o (Æ Ç p.b)||(bW o (aD p.s)||(Đ p.n 5&&bW o (bB p.n)))
def ÿ(p:LP)(k count last:Nat):Ś→Bool
 |.flag f=>Ga f p
 |.aJ j=>Ī j (txt p.n p.s p.b).length
 |.Ţ j=>Ī (txt p.n p.s p.b).length j
 |.aH j=>gc j p.mo
 |.seq ps=>setB ps k count
 |.uid ps=>setB ps p.uid last
 |.day w i=>m9 w (å p.sp) (å i)
 |.gP w i=>Đ p.n 4&&m9 w (å p.n) (å i)
 |.header o=>bW o (Æ Ç p.s)
 |.text o=>Mh o p
 |.body o=>bW o (Æ Ç p.b)
 |.all=>true
theorem zN:allB (fun n=>allB (fun s=>allB (fun b=>Đ (txt n s b).length 1000) 4) 4) 6=true:=by kernel_rfl
theorem Eo{n s b:Nat}(hn:n<6)(hs:s<4)(hb:b<4):(txt n s b).length<1000:=by
 have:=CT (f:=fun n s b=>Đ (txt n s b).length 1000) zN hn hs hb
 rwa [bQ]at this
theorem lF{p:LP}(hp:p.Ok){k count last j:Nat}:A3 (Ev Ê (.call (d+5) 71 [Û (.aJ j),Ý p,.int k,.tup [.int count,.int last]] H) (⟨H,[],[]⟩,.val (.bool (ÿ p k count last (.aJ j))))) (Ev Ê (.call (d+5) 71 [Û (.Ţ j),Ý p,.int k,.tup [.int count,.int last]] H) (⟨H,[],[]⟩,.val (.bool (ÿ p k count last (.Ţ j))))) (Ev Ê (.call (d+5) 71 [Û (.aH j),Ý p,.int k,.tup [.int count,.int last]] H) (⟨H,[],[]⟩,.val (.bool (ÿ p k count last (.aH j))))):=by
 have hl:=len_bytes (l:=txt p.n p.s p.b) (by have:=Eo hp.n hp.s hp.b;exact ă ‹_› (by decide));refine⟨?_,?_,?_⟩
 ·apply É (S:=⟨H,[some (Û (.aJ j)),some (Ý p),some (.int k),some (.tup [.int count,.int last]),none,none],[]⟩) rfl rfl;walk_at "w"
 ·apply É (S:=⟨H,[some (Û (.Ţ j)),some (Ý p),some (.int k),some (.tup [.int count,.int last]),none,none],[]⟩) rfl rfl;walk_at "w"
 ·apply É (S:=⟨H,[some (Û (.aH j)),some (Ý p),some (.int k),some (.tup [.int count,.int last]),none,none],[]⟩) rfl rfl;walk_at "w"
theorem qc{p:LP}{o:V}{k count last:Nat}(hc:count≠0)(hl:last≠0)(ps:List (Nat×Nat)):Ev Ê (.call (d+5) 71 [Û (.seq ps),ģ p o,.int k,.tup [.int count,.int last]] H) (⟨H,[],[]⟩,.val (.bool (ÿ p k count last (.seq ps))))∧
  Ev Ê (.call (d+5) 71 [Û (.uid ps),ģ p o,.int k,.tup [.int count,.int last]] H) (⟨H,[],[]⟩,.val (.bool (ÿ p k count last (.uid ps)))):=by
 have h1:=BV (d:=d) (H:=H) (n:=k) hc ps;have h2:=BV (d:=d) (H:=H) (n:=p.uid) hl ps;refine⟨?_,?_⟩
 ·apply É (S:=⟨H,[some (Û (.seq ps)),some (ģ p o),some (.int k),some (.tup [.int count,.int last]),none,none],[]⟩) rfl rfl;walk_at "w"
 ·apply É (S:=⟨H,[some (Û (.uid ps)),some (ģ p o),some (.int k),some (.tup [.int count,.int last]),none,none],[]⟩) rfl rfl;walk_at "w"
theorem xl(f:Nat)(hf:f<4)(p:LP):cmp 8 (.str (Æ Œ f)) (.tup (Ĩ p))=some (Ga f p)∧cmp 8 (.str (Æ Œ f)) (.lst (Ĩ p))=some (Ga f p):=by
 obtain⟨uid,n,s,b,f0,f1,f2,f3,sp,ti,mo⟩:=p
 match f,hf with
 |0,_|1,_|2,_|3,_=>induction f0 using ñ<;>induction f1 using ñ<;>induction f2 using ñ<;>induction f3 using ñ<;>exact⟨rfl,rfl⟩
 |f+4,h=>exact absurd ‹_› (Ŧ (î _ _))
theorem BX{f:Nat}(hf:f<4)(p:LP){o:V}:Ev Ê (.call (d+1) 93 [ģ p o,.str (Æ Œ f)] H) (⟨H,[],[]⟩,.val (.bool (Ga f p))):=by
 have h:=(xl f hf p).1;apply É (S:=⟨H,[some (ģ p o),some (.str (Æ Œ f))],[]⟩) rfl rfl;walk_at "w"
theorem Ug:∀w,w<3→cmp 0 (.str (Æ Į w)) (.str hV)=some false∧cmp 8 (.str (Æ Į w)) (.tup [.str jA,.str [111,110],.str n7])=some true
 |0,_=>⟨rfl,rfl⟩
 |1,_=>⟨rfl,rfl⟩
 |2,_=>⟨rfl,rfl⟩
 |w+3,h=>by exact absurd ‹_› (Ŧ (î _ _))
theorem jw{p:LP}{o:V}{k count last f:Nat}(hf:f<4):Ev Ê (.call (d+70) 72 [Û (.flag f),ģ p o,.int k,.tup [.int count,.int last]] H) (⟨H,[],[]⟩,.val (.bool (ÿ p k count last (.flag f)))):=by
 have h1:=Gp (d:=d+8) (H:=H) hf;have h2:=BX (d:=d+68) (H:=H) hf p (o:=o);apply É (S:=⟨H,[some (Û (.flag f)),some (ģ p o),some (.int k),some (.tup [.int count,.int last])],[]⟩) rfl rfl;walk_at "w"
theorem uC{p:LP}(hp:p.Ok){k count last w i:Nat}(hw:w<3)(hi:i<4):Ev Ê (.call (d+70) 72 [Û (.day w i),Ý p,.int k,.tup [.int count,.int last]] H) (⟨H,[],[]⟩,.val (.bool (ÿ p k count last (.day w i)))):=by
 have h1:=La (d:=d+8) (H:=H) hp.sp hp.ti;have h2:=xx (d:=d+68) (H:=H) (P:=Ê) rfl rfl hw hp.sp hi;obtain⟨h3,h4⟩:=Ug w hw;obtain⟨x,y,z,e⟩:=ŝ hi;show Ev Ê (.call (d+70) 72 [.tup [.str (Æ Į w),å i],Ý p,.int k,.tup [.int count,.int last]] H) (⟨H,[],[]⟩,.val (.bool (m9 w (å p.sp) (å i))));rw[e]at h2 ⊢;apply É (S:=⟨H,[some (.tup [.str (Æ Į w),.tup [.int x,.int y,.int z]]),some (Ý p),some (.int k),some (.tup [.int count,.int last])],[]⟩) rfl rfl;walk_at "w"
theorem a_{p:LP}{o:V}{k count last:Nat}{l:Ś}{ks:List Nat}{u:V}(e:Û l=.tup [.str ks,u])(hk:ks∈[lB,n8,aT,[115,101,113],[117,105,100]])(h:Ev Ê (.call (d+69) 71 [Û l,ģ p o,.int k,.tup [.int count,.int last]] H) (⟨H,[],[]⟩,.val (.bool (ÿ p k count last l)))):
  Ev Ê (.call (d+70) 72 [Û l,ģ p o,.int k,.tup [.int count,.int last]] H) (⟨H,[],[]⟩,.val (.bool (ÿ p k count last l))):=by
 rw[e]at h ⊢;simp only[Ą,jL,or_false]at hk;rcases hk with rfl|rfl|rfl|rfl|rfl
 all_goals
  apply É (S:=⟨H,[some (.tup [.str _,u]),some (ģ p o),some (.int k),some (.tup [.int count,.int last])],[]⟩) rfl rfl;walk_at "w"
theorem z7:∀w,w<3→A3 (slice (.str (Æ bf w)) (some (.int 4)) none none=some (.str (Æ Į w))) (slice (.str (Æ bf w)) none (some (.int 4)) none=some (.str Ť)) (cmp 8 (.str (Æ bf w)) (.tup [.str cw,.str aS,.str ŗ])=some false)
 |0,_=>⟨rfl,rfl,rfl⟩
 |1,_=>⟨rfl,rfl,rfl⟩
 |2,_=>⟨rfl,rfl,rfl⟩
 |w+3,h=>by exact absurd ‹_› (Ŧ (î _ _))
theorem nT{n:Nat}(h:¬n<4):å n=.none:=by
 obtain⟨m,rfl⟩:∃m,n=m+4:=⟨n - 4,by omega⟩;rfl
theorem uH{n s w i:Nat}(hn:n<6)(hs:s<4)(hw:w<3)(hi:i<4):Ev Ê (.call (d+69) 70 [.tup [.str (Æ bf w),å i],.lst (ě n s)] H) (⟨H,[],[]⟩,.val (.bool (Đ n 4&&m9 w (å n) (å i)))):=by
 have h1:=EK (d:=d+7) (H:=H) hn hs;obtain⟨h3,_⟩:=z7 w hw
 by_cases NS:n<4
 ·have h2:=xx (d:=d+67) (H:=H) (P:=Ê) rfl rfl hw NS hi;obtain⟨x,y,z,e⟩:=ŝ hi;obtain⟨x',y',z',e'⟩:=ŝ NS;rw[show Đ n 4=true from by rw[bQ];exact NS,sI];rw[e,e']at h2 ⊢;rw[e']at h1;apply É (S:=⟨H,[some (.tup [.str (Æ bf w),.tup [.int x,.int y,.int z]]),some (.lst (ě n s)),none],[]⟩) rfl rfl;walk_at "w"
 ·have e':=nT NS;rw[show Đ n 4=false from by rw[←w3,bQ];exact NS,wX];rw[e']at h1;apply É (S:=⟨H,[some (.tup [.str (Æ bf w),å i]),some (.lst (ě n s)),none],[]⟩) rfl rfl;walk_at "w"
theorem jg{o:Nat}(h:Ø (Æ ö o) []=true)(l:List Nat):bW o l=true:=by
 rw[ŏ,decide_eq_true_eq]at h;unfold bW;rw[h];show ř [] (Ĝ l)=true
 induction Ĝ l using Ū<;>rfl
theorem HH{o s:Nat}(ho:o<8)(hs:s<4){u:V}(x:Option V):∃fk,Ev Ê (.qG (d+65) (.n false 3) [cP s] [.if (.bo true [.cm (.me à 57 []) [0] [.l 1],.bo false [.cm Ë [0] [.c (.bytes [])],.fn 61 [.l 2,.fn 62 [.l 3]]]]) [.re (.c (.bool true))] []]
  ⟨H,[some u,some (.str Ġ),some (.bytes (Æ ö o)),x],[]⟩) (⟨H,fk,[]⟩,if bW o (Æ Ç s)then .ret (.bool true)else .next):=by
 refine⟨[some u,some (.str Ġ),some (.bytes (Æ ö o)),some (cP s)],?_⟩;have c1:=zJ (d:=d+4) (H:=H) (s:=s);have c2:=I0 (d:=d+4) (H:=H) hs;have c3:=S1 (d:=d+4) (H:=H) ho hs
 induction he:Ø (Æ ö o) []using ñ with
 |true=>
  rw[jg he,if_pos rfl];apply zD rfl;walk_at "w"
 |false=>
  induction hi:bW o (Æ Ç s)using ñ with
  |true=>
   rw[hi]at c3;rw[if_pos rfl];apply zD rfl;walk_at "w"
  |false=>
   rw[hi]at c3;rw[if_neg (by decide)];apply mQ rfl
   rotate_left 2
   ·exact ui
   rotate_right 2
   walk_at "w"
theorem yQ{n o s:Nat}(ho:o<8)(hs:s<4):Ev Ê (.call (d+67) 64 [.lst (ě n s),.str Ġ,.bytes (Æ ö o)] H) (⟨H,[],[]⟩,.val (.bool (bW o (Æ Ç s)))):=by
 have c0:=zK (d:=d+4) (H:=H) (n:=n);have lp:∃fk,Ev Ê (.qG (d+65) (.n false 3) (ě n s) [.if (.bo true [.cm (.me à 57 []) [0] [.l 1],.bo false [.cm Ë [0] [.c (.bytes [])],.fn 61 [.l 2,.fn 62 [.l 3]]]]) [.re (.c (.bool true))] []]
   ⟨H,[some (.lst (ě n s)),some (.str Ġ),some (.bytes (Æ ö o)),none],[]⟩) (⟨H,fk,[]⟩,if bW o (Æ Ç s)then .ret (.bool true)else .next):=by
  have hu:ě n s=match Đ n 5 with
   |true=>[eZ n,cP s]
   |false=>[cP s]:=rfl
  generalize hF:ě n s=F at hu ⊢
  induction hb:Đ n 5 using ñ with
  |false=>
   rw[hb]at hu;dsimp only at hu;rw[hu];exact HH ho hs none
  |true=>
   rw[hb]at hu;dsimp only at hu;rw[hu];obtain⟨fk,lp⟩:=HH (d:=d) (H:=H) ho hs (u:=.lst [eZ n,cP s]) (some (eZ n));refine⟨fk,?_⟩;apply mQ rfl
   rotate_left 2
   ·exact lp
   rotate_right 2
   walk_at "w"
 obtain⟨fk,lp⟩:=lp
 induction hi:bW o (Æ Ç s)using ñ with
 |true=>
  rw[hi,if_pos rfl]at lp;apply É (S:=⟨H,[some (.lst (ě n s)),some (.str Ġ),some (.bytes (Æ ö o)),none],[]⟩) rfl rfl;apply dp;apply bR;walk_at "w"
 |false=>
  rw[hi,if_neg (by decide)]at lp;apply É (S:=⟨H,[some (.lst (ě n s)),some (.str Ġ),some (.bytes (Æ ö o)),none],[]⟩) rfl rfl;apply Ò;apply bR;walk_at "w"
def iu(o n s:Nat):Bool:=(Đ n 5&&bW o (bB n))||bW o (aD s)
theorem BR{o s:Nat}(ho:o<8)(hs:s<4){u:V}(x:Option V):Ev Ê (.qG (d+65) (.n false 2) [cP s] [.if (.fn 61 [.l 1,.fn 63 [.l 2]]) [.re (.c (.bool true))] []] ⟨H,[some u,some (.bytes (Æ ö o)),x],[]⟩)
  (⟨H,[some u,some (.bytes (Æ ö o)),some (cP s)],[]⟩,if bW o (aD s)then .ret (.bool true)else .next):=by
 have c2:=J_ (d:=d+4) (H:=H) hs;have c3:=S2 (d:=d+4) (H:=H) ho hs
 induction hi:bW o (aD s)using ñ with
 |true=>
  rw[hi]at c3;rw[if_pos rfl];apply zD rfl;walk_at "w"
 |false=>
  rw[hi]at c3;rw[if_neg (by decide)];apply mQ rfl
  rotate_left 2
  ·exact ui
  rotate_right 2
  walk_at "w"
theorem F9{n o s:Nat}(hn:n<6)(ho:o<8)(hs:s<4){u:V}:∃x,Ev Ê (.qG (d+65) (.n false 2) (ě n s) [.if (.fn 61 [.l 1,.fn 63 [.l 2]]) [.re (.c (.bool true))] []] ⟨H,[some u,some (.bytes (Æ ö o)),none],[]⟩)
  (⟨H,[some u,some (.bytes (Æ ö o)),x],[]⟩,if iu o n s then .ret (.bool true)else .next):=by
 unfold iu;have hu:ě n s=match Đ n 5 with
  |true=>[eZ n,cP s]
  |false=>[cP s]:=rfl
 rw[hu]
 induction hb:Đ n 5 using ñ with
 |false=>exact⟨_,BR ho hs none⟩
 |true=>
  have We:n<5:=by rwa [bQ]at hb
  have c2:=Ka (d:=d+4) (H:=H) We;have c3:=S3 (d:=d+4) (H:=H) ho We;dsimp only
  induction hi:bW o (bB n)using ñ with
  |true=>
   rw[hi]at c3;refine⟨some (eZ n),?_⟩;show Ev Ê _ (_,.ret (.bool true));apply zD rfl;walk_at "w"
  |false=>
   rw[hi]at c3;refine⟨some (cP s),?_⟩;have lp:=BR (d:=d) (H:=H) ho hs (u:=u) (some (eZ n));apply mQ rfl
   rotate_left 2
   ·exact lp
   rotate_right 2
   walk_at "w"
theorem F8{n o s:Nat}(hn:n<6)(ho:o<8)(hs:s<4):Ev Ê (.call (d+67) 65 [.lst (ě n s),.bytes (Æ ö o)] H) (⟨H,[],[]⟩,.val (.bool (iu o n s))):=by
 obtain⟨x,lp⟩:=F9 (d:=d) (H:=H) hn ho hs (u:=.lst (ě n s))
 induction hi:iu o n s using ñ with
 |true=>
  rw[hi,if_pos rfl]at lp;apply É (S:=⟨H,[some (.lst (ě n s)),some (.bytes (Æ ö o)),none],[]⟩) rfl rfl;apply dp;apply bR;walk_at "w"
 |false=>
  have he:Ø (Æ ö o) []=false:=by
   induction he:Ø (Æ ö o) []using ñ with
   |false=>rfl
   |true=>
    unfold iu at hi;rw[jg he (aD s),Bool.or_true]at hi;cases hi
  have hc:cmp 0 (.bytes (Æ ö o)) (.bytes [])=some false:=by
   show some (Ø (Æ ö o) [])=_;rw[he]
  rw[hi,if_neg (by decide)]at lp;apply É (S:=⟨H,[some (.lst (ě n s)),some (.bytes (Æ ö o)),none],[]⟩) rfl rfl;apply Ò;apply bR;walk_at "w"
theorem F2:Ev Ê (.call (d+1) 107 [Bk] H) (⟨H,[],[]⟩,.val (.bool true)):=by
 apply É (S:=⟨H,[some Bk],[]⟩) rfl rfl;walk_at "w"
theorem rj{n s b o:Nat}(hn:n<6)(hs:s<4)(hb:b<4)(ho:o<8):Ev Ê (.call (d+67) 66 [.bytes (txt n s b),ġ n s b,.bytes (Æ ö o)] H) (⟨H,[],[]⟩,.val (.bool (bW o (Æ Ç b)))):=by
 induction he:Ø (Æ ö o) []using ñ with
 |true=>
  rw[jg he];apply É (S:=⟨H,[some (.bytes (txt n s b)),some (ġ n s b),some (.bytes (Æ ö o)),some (.int 0),none],[]⟩) rfl rfl;walk_at "w"
 |false=>
  apply É (S:=⟨H,[some (.bytes (txt n s b)),some (ġ n s b),some (.bytes (Æ ö o)),some (.int 0),none],[]⟩) rfl rfl
  repeat (first|(apply Ò;apply bR)|exact ui|exact F2|exact GO hn hs hb|exact S4 ho hb|walk_at "nz")
theorem yz{n s b o:Nat}(hn:n<6)(hs:s<4)(hb:b<4)(ho:o<8):Ev Ê (.call (d+69) 67 [Û (.text o),.bytes (txt n s b),ġ n s b] H) (⟨H,[],[]⟩,.val (.bool (iu o n s||bW o (Æ Ç b)))):=by
 have c1:=F8 (d:=d+1) (H:=H) hn ho hs;have c2:=rj (d:=d+1) (H:=H) hn hs hb ho
 induction hi:iu o n s using ñ with
 |true=>
  rw[hi]at c1;rw[oK];apply É (S:=⟨H,[some (Û (.text o)),some (.bytes (txt n s b)),some (ġ n s b)],[]⟩) rfl rfl;walk_at "w"
 |false=>
  rw[hi]at c1;rw[jJ];apply É (S:=⟨H,[some (Û (.text o)),some (.bytes (txt n s b)),some (ġ n s b)],[]⟩) rfl rfl;walk_at "w"
theorem yB{n s b o:Nat}(hn:n<6)(hs:s<4)(hb:b<4)(ho:o<8):Ev Ê (.call (d+69) 67 [Û (.body o),.bytes (txt n s b),ġ n s b] H) (⟨H,[],[]⟩,.val (.bool (bW o (Æ Ç b)))):=by
 have c2:=rj (d:=d+1) (H:=H) hn hs hb ho;apply É (S:=⟨H,[some (Û (.body o)),some (.bytes (txt n s b)),some (ġ n s b)],[]⟩) rfl rfl;walk_at "w"
theorem si{n s b o:Nat}(hn:n<6)(hs:s<4)(hb:b<4)(ho:o<8):Ev Ê (.call (d+69) 67 [Û (.header o),.bytes (txt n s b),ġ n s b] H) (⟨H,[],[]⟩,.val (.bool (bW o (Æ Ç s)))):=by
 have c2:=yQ (d:=d+1) (H:=H) (n:=n) ho hs;apply É (S:=⟨H,[some (Û (.header o)),some (.bytes (txt n s b)),some (ġ n s b)],[]⟩) rfl rfl;walk_at "w"
theorem FG{p:LP}(hp:p.Ok){k count last:Nat}(hc:count≠0)(hl:last≠0){r:Bool}:∀(l:Ś),l.ok→(l.reads=true→r=true)→l≠.all→
  Ev Ê (.call (d+72) 73 [Û l,dH p k r,.tup [.int count,.int last]] H) (⟨H,[],[]⟩,.val (.bool (ÿ p k count last l)))
 |.flag f,ho,_,_=>by
  have c:=jw (d:=d+1) (H:=H) (p:=p) (o:=.bytes (txt p.n p.s p.b)) (k:=k) (count:=count) (last:=last) ho;apply É (S:=⟨H,[some (Û (.flag f)),some (dH p k r),some (.tup [.int count,.int last])],[]⟩) rfl rfl;walk_at "w"
 |.aJ j,_,_,_=>by
  have c:=a_ (d:=d+1) (l:=.aJ j) rfl (by simp) (lF (d:=d+65) (H:=H) hp (k:=k) (count:=count) (last:=last) (j:=j)).1;apply É (S:=⟨H,[some (Û (.aJ j)),some (dH p k r),some (.tup [.int count,.int last])],[]⟩) rfl rfl;walk_at "w"
 |.Ţ j,_,_,_=>by
  have c:=a_ (d:=d+1) (l:=.Ţ j) rfl (by simp) (lF (d:=d+65) (H:=H) hp (k:=k) (count:=count) (last:=last) (j:=j)).2;apply É (S:=⟨H,[some (Û (.Ţ j)),some (dH p k r),some (.tup [.int count,.int last])],[]⟩) rfl rfl;walk_at "w"
 |.aH j,_,_,_=>by
  have c:=a_ (d:=d+1) (l:=.aH j) rfl (by simp) (lF (d:=d+65) (H:=H) hp (k:=k) (count:=count) (last:=last) (j:=j)).3;apply É (S:=⟨H,[some (Û (.aH j)),some (dH p k r),some (.tup [.int count,.int last])],[]⟩) rfl rfl;walk_at "w"
 |.seq ps,_,_,_=>by
  have c:=a_ (d:=d+1) (l:=.seq ps) rfl (by simp) (qc (d:=d+65) (H:=H) (p:=p) (o:=.bytes (txt p.n p.s p.b)) (k:=k) hc hl ps).1;apply É (S:=⟨H,[some (Û (.seq ps)),some (dH p k r),some (.tup [.int count,.int last])],[]⟩) rfl rfl;walk_at "w"
 |.uid ps,_,_,_=>by
  have c:=a_ (d:=d+1) (l:=.uid ps) rfl (by simp) (qc (d:=d+65) (H:=H) (p:=p) (o:=.bytes (txt p.n p.s p.b)) (k:=k) hc hl ps).2;apply É (S:=⟨H,[some (Û (.uid ps)),some (dH p k r),some (.tup [.int count,.int last])],[]⟩) rfl rfl;walk_at "w"
 |.day w i,ho,_,_=>by
  have c:=uC (d:=d+1) (H:=H) hp (k:=k) (count:=count) (last:=last) ho.1 ho.2;have h1:A3 (cmp 8 (.str (Æ Į w)) (.tup [.str cw,.str aS,.str ŗ])=some false) (slice (.str (Æ Į w)) none (some (.int 4)) none=some (.str ((Æ Į w).take 4))) (cmp 0 (.str ((Æ Į w).take 4)) (.str Ť)=some false):=by
   match w,ho.1 with
   |0,_|1,_|2,_=>exact⟨rfl,rfl,rfl⟩
   |w+3,h=>exact absurd ‹_› (Ŧ (î _ _))
  obtain⟨h1,h2,h3⟩:=h1;apply É (S:=⟨H,[some (.tup [.str (Æ Į w),å i]),some (dH p k r),some (.tup [.int count,.int last])],[]⟩) rfl rfl;walk_at "w"
 |.gP w i,ho,hr,_=>by
  obtain rfl:=hr rfl;have c:=uH (d:=d+2) (H:=H) hp.n hp.s ho.1 ho.2;obtain⟨h1,h2,h3⟩:=z7 w ho.1;apply É (S:=⟨H,[some (.tup [.str (Æ bf w),å i]),some (dH p k true),some (.tup [.int count,.int last])],[]⟩) rfl rfl;walk_at "w"
 |.header o,ho,hr,_=>by
  obtain rfl:=hr rfl;have c:=si (d:=d+2) (H:=H) hp.n hp.s hp.b ho;apply É (S:=⟨H,[some (Û (.header o)),some (dH p k true),some (.tup [.int count,.int last])],[]⟩) rfl rfl;walk_at "w"
 |.text o,ho,hr,_=>by
  obtain rfl:=hr rfl;have c:=yz (d:=d+2) (H:=H) hp.n hp.s hp.b ho;have e:(iu o p.n p.s||bW o (Æ Ç p.b))=ÿ p k count last (.text o):=by
   show _=(bW o (Æ Ç p.b)||(bW o (aD p.s)||(Đ p.n 5&&bW o (bB p.n))));unfold iu
   induction bW o (Æ Ç p.b)using ñ<;>induction bW o (aD p.s)using ñ<;>induction Đ p.n 5&&bW o (bB p.n)using ñ<;>rfl
  rw[e]at c;apply É (S:=⟨H,[some (Û (.text o)),some (dH p k true),some (.tup [.int count,.int last])],[]⟩) rfl rfl;walk_at "w"
 |.body o,ho,hr,_=>by
  obtain rfl:=hr rfl;have c:=yB (d:=d+2) (H:=H) hp.n hp.s hp.b ho;apply É (S:=⟨H,[some (Û (.body o)),some (dH p k true),some (.tup [.int count,.int last])],[]⟩) rfl rfl;walk_at "w"
 |.all,_,_,h=>absurd rfl h
def wq(p:LP)(k:Nat)(o:V):V:=.ins 6 [(46,ģ p o),(32,.int k),(47,.none)]
theorem vf{p:LP}{o:V}{k count last f:Nat}(hf:f<4):Ev Ê (.call (d+72) 73 [Û (.flag f),wq p k o,.tup [.int count,.int last]] H) (⟨H,[],[]⟩,.val (.bool (ÿ p k count last (.flag f)))):=by
 have c:=jw (d:=d+1) (H:=H) (p:=p) (o:=o) (k:=k) (count:=count) (last:=last) hf;apply É (S:=⟨H,[some (Û (.flag f)),some (wq p k o),some (.tup [.int count,.int last])],[]⟩) rfl rfl;walk_at "w"
theorem yF{p:LP}{o:V}{k count last:Nat}(hc:count≠0)(hl:last≠0)(ps:List (Nat×Nat)):Ev Ê (.call (d+72) 73 [Û (.uid ps),wq p k o,.tup [.int count,.int last]] H) (⟨H,[],[]⟩,.val (.bool (ÿ p k count last (.uid ps)))):=by
 have c:=a_ (d:=d+1) (l:=.uid ps) rfl (by simp) (qc (d:=d+65) (H:=H) (p:=p) (o:=o) (k:=k) hc hl ps).2;apply É (S:=⟨H,[some (Û (.uid ps)),some (wq p k o),some (.tup [.int count,.int last])],[]⟩) rfl rfl;walk_at "w"
theorem yk(a b:Int):blt 9 [.lst [.int a,.int b]]=some (.lst [.int (D0 a b),.int (DY a b)]):=by
 show some (V.lst (if Ī b a=true then[.int b,.int a]else[.int a,.int b]))=_;unfold D0 DY Ī
 by_cases h:b<a
 ·rw[decide_eq_true h,decide_eq_false (show ¬a<b by exact fun eG=>sk [_,_] (.c (.a Â Á) È (.c (.a È Á) Â .z)) rfl h eG)];rfl
 ·rw[decide_eq_false h]
  by_cases h':a<b
  ·rw[decide_eq_true h'];rfl
  ·rw[decide_eq_false h',show a=b by exact Int.le_antisymm (í [_,_] (.c Â È .z) Â È rfl (bO.mp h)) (í [_,_] (.c Â È .z) Â È rfl (bO.mp h'))];rfl
theorem Cf{ρ κ:List (Option V)}{i p g:Nat}(h1:é ρ i=some (some (.int p)))(h2:é ρ 2=some (some (.int g))):Ev Ê (.ev d (.te (.cm (.l i) [0] [.c (.int 0)]) Ë (.l i)) ⟨H,ρ,κ⟩) (⟨H,ρ,κ⟩,.val (.int (ķ p g))):=by
 have r1:Ev Ê (.ev d (.l i) ⟨H,ρ,κ⟩) (⟨H,ρ,κ⟩,.val (.int p)):=aQ h1;have r2:Ev Ê (.ev d Ë ⟨H,ρ,κ⟩) (⟨H,ρ,κ⟩,.val (.int g)):=aQ h2
 by_cases h:p=0
 ·have i1:gI (p:Int) 0=true:=sU (b:=0) h;rw[show ķ p g=g from if_pos h];walk_at "w"
 ·have i1:gI (p:Int) 0=false:=o9 (b:=0) h;rw[show ķ p g=p from if_neg h];walk_at "w"
theorem yD{n g:Nat}{u:V}(ps:List (Nat×Nat))(H:List Cell)(x:Option V)(y:Option V)(z:Option V):T2 fun fk X=>Ev Ê (.qG (d+2) (.t [(false,3),(false,4)]) (ps.map n_) [.as (.n false 5) (.bl 9 [.li [.te (.cm à [0] [.c (.int 0)]) Ë à,.te (.cm ā [0] [.c (.int 0)]) Ë ā]]),.if (.cm (.ix aR ç) [3,3] [.l 1,.ix aR Ì]) [.re (.c (.bool true))] []]
  ⟨H,[some u,some (.int n),some (.int g),x,y,z],[]⟩) (⟨H++X,fk,[]⟩,if setB ps n g then .ret (.bool true)else .next):=by
 induction ps generalizing H x y z with
 |nil=>
  exact⟨_,[],by rw[Ŵ];exact ui⟩
 |cons p ps IH=>
  have hs:setB (p::ps) n g=(gA n g p||setB ps n g):=rfl;have h3:=yk (ķ p.1 g) (ķ p.2 g);have hp:gA n g p=(gc (D0 (ķ p.1 g) (ķ p.2 g)) n&&gc n (DY (ķ p.1 g) (ķ p.2 g))):=rfl;generalize D0 (ķ p.1 g) (ķ p.2 g)=mn at h3 hp;generalize DY (ķ p.1 g) (ķ p.2 g)=mx at h3 hp;have t1:=Cf (d:=d+2) (H:=H) (ρ:=[some u,some (.int n),some (.int g),some (.int p.1),some (.int p.2),z]) (κ:=[]) (i:=3) (p:=p.1) (g:=g) rfl rfl;have t2:=Cf (d:=d+2) (H:=H) (ρ:=[some u,some (.int n),some (.int g),some (.int p.1),some (.int p.2),z]) (κ:=[]) (i:=4) (p:=p.2) (g:=g) rfl rfl;generalize ķ p.1 g=e1 at h3 t1;generalize ķ p.2 g=e2 at h3 t2
  induction c1:gc mn n using ñ with
  |true=>
   induction c2:gc n mx using ñ with
   |true=>
    rw[c1,c2]at hp;rw[hs,hp,Bool.and_self,oK,if_pos rfl];refine⟨[some u,some (.int n),some (.int g),some (.int p.1),some (.int p.2),some (.Ó (H++[Cell.Ô (.lst [.int e1,.int e2])]).length)],[.Ô (.lst [.int e1,.int e2]),.lst [.int mn,.int mx]],?_⟩;rw[show H++[Cell.Ô (.lst [.int e1,.int e2]),.lst [.int mn,.int mx]]=(H++[.Ô (.lst [.int e1,.int e2])])++[.lst [.int mn,.int mx]]by simp];apply zD rfl
    repeat (first|exact t1|exact t2|walk_at "nz")
   |false=>
    obtain⟨fk,X,ih⟩:=IH ((H++[.Ô (.lst [.int e1,.int e2])])++[.lst [.int mn,.int mx]]) (some (.int p.1)) (some (.int p.2)) (some (.Ó (H++[Cell.Ô (.lst [.int e1,.int e2])]).length));rw[c1,c2]at hp;rw[hs,hp,sI,jJ];refine⟨fk,.Ô (.lst [.int e1,.int e2])::.lst [.int mn,.int mx]::X,?_⟩;rw[show H++Cell.Ô (.lst [.int e1,.int e2])::.lst [.int mn,.int mx]::X=((H++[.Ô (.lst [.int e1,.int e2])])++[.lst [.int mn,.int mx]])++X by simp];apply mQ rfl
    rotate_left 2
    ·exact ih
    rotate_right 2
    repeat (first|exact t1|exact t2|walk_at "nz")
  |false=>
   obtain⟨fk,X,ih⟩:=IH ((H++[.Ô (.lst [.int e1,.int e2])])++[.lst [.int mn,.int mx]]) (some (.int p.1)) (some (.int p.2)) (some (.Ó (H++[Cell.Ô (.lst [.int e1,.int e2])]).length));rw[c1]at hp;rw[hs,hp,wX,jJ];refine⟨fk,.Ô (.lst [.int e1,.int e2])::.lst [.int mn,.int mx]::X,?_⟩;rw[show H++Cell.Ô (.lst [.int e1,.int e2])::.lst [.int mn,.int mx]::X=((H++[.Ô (.lst [.int e1,.int e2])])++[.lst [.int mn,.int mx]])++X by simp];apply mQ rfl
   rotate_left 2
   ·exact ih
   rotate_right 2
   repeat (first|exact t1|exact t2|walk_at "nz")
theorem wR{n g:Nat}(ps:List (Nat×Nat)):Ev Ê (.call (d+4) 84 [k_ ps,.int n,.int g] H) (⟨H,[],[]⟩,.val (.bool (setB ps n g))):=by
 obtain⟨fk,X,lp⟩:=yD (d:=d) (n:=n) (g:=g) (u:=k_ ps) ps H none none none
 induction hb:setB ps n g using ñ with
 |true=>
  rw[hb,if_pos rfl]at lp;apply É (S:=⟨H,[some (k_ ps),some (.int n),some (.int g),none,none,none],[]⟩) rfl rfl;apply dp;apply bR;walk_at "w"
 |false=>
  rw[hb,if_neg (by decide)]at lp;apply É (S:=⟨H,[some (k_ ps),some (.int n),some (.int g),none,none,none],[]⟩) rfl rfl;apply Ò;apply bR;walk_at "w"
theorem su{w a b:Nat}(hw:w<3)(ha:a<4)(hb:b<4):Ev Ê (.call (d+1) 87 [.str (Æ Į w),å a,å b] H) (⟨H,[],[]⟩,.val (.bool (m9 w (å a) (å b)))):=by
 obtain⟨x,y,z,e⟩:=ŝ ha;obtain⟨x',y',z',e'⟩:=ŝ hb;rw[e,e'];have h0:=@Cp x y z x' y' z';have h1:=@Cr x y z x' y' z';have h2:=@Cq x y z x' y' z'
 match w,hw with
 |0,_|1,_|2,_=>
  apply É (S:=⟨H,[some (.str _),some (.tup [.int x,.int y,.int z]),some (.tup [.int x',.int y',.int z'])],[]⟩) rfl rfl;walk_at "w"
 |w+3,h=>exact absurd ‹_› (Ŧ (î _ _))
def Ķ(p:LP):V:=.aX [([117,105,100],.int p.uid),(eR,.lst (Ĩ p)),(dK,.int (txt p.n p.s p.b).length),([100,97,121],å p.sp),(aT,.int p.mo),(Ť,å p.n),(Ġ,.str (Æ Ç p.s)),(ŗ,.str (Æ Ç p.b)),(ň,.str (Æ æ p.n))]
theorem ic{s:Nat}(hs:s<4):oi 2 (.str (Æ Ç s)) []=some (.str (Ĝ (Æ Ç s)))∧bin 0 (.str cY) (.str (Ĝ (Æ Ç s)))=some (.str (cY++Ĝ (Æ Ç s))):=by
 match s,hs with
 |0,_|1,_|2,_|3,_=>exact⟨rfl,rfl⟩
 |s+4,h=>exact absurd ‹_› (Ŧ (î _ _))
theorem Bd{n:Nat}(hn:n<5):A3 (oi 2 (.str (Æ æ n)) []=some (.str (Ĝ (Æ æ n)))) (bin 0 (.str jz) (.str (Ĝ (Æ æ n)))=some (.str (jz++Ĝ (Æ æ n)))) (cmp 1 (.str (Æ æ n)) (.str [])=some true):=by
 match n,hn with
 |0,_|1,_|2,_|3,_|4,_=>exact⟨rfl,rfl,rfl⟩
 |n+5,h=>exact absurd ‹_› (Ŧ (î _ _))
theorem ot{lo:List Nat}{leaf:V}(ht:∀x,Ev Ê (.ev (d+2) (.fn 89 [.ix ğ Ì]) ⟨H,[none,x],[some leaf]⟩) (⟨H,[none,x],[some leaf]⟩,.val (.str lo)))(ls:List (List Nat))(acc:List V)(x:Option V)(hl:acc.length+ls.length<1000000):∃x',
  Ev Ê (.fh (d+2) Ã [1] [.cm (.fn 89 [.ix ğ Ì]) [8] [.l 1]] (ls.map .str) acc ⟨H,[none,x],[some leaf]⟩) (⟨H,[none,x'],[some leaf]⟩,.vals (acc.reverse++(ls.filter (ř lo)).map .str)):=by
 induction ls generalizing acc x with
 |nil=>
  exact⟨x,by rw[List.filter_nil,fK,Ŵ];exact i9⟩
 |cons l ls IH=>
  rw[Ă]at hl;have t1:=ht (some (.str l))
  induction hb:ř lo l using ñ with
  |true=>
   obtain⟨x',ih⟩:=IH (.str l::acc) (some (.str l)) (by rw[Ă];exact ä [_,_] (.c (.a (.a Â (.a È Á)) Á) Ù .z) (.a (.a (.a Â Á) È) Á) Ù rfl hl);refine⟨x',?_⟩;rw[sD hb,Ō];rw[aq,ĝ]at ih;apply r6
   ·exact ê (by exact Ń (ź _ _) ‹_›)
   ·exact gW rfl
   rotate_left 4
   ·exact ih
   rotate_right 4
   repeat (first|exact t1|walk_at "nz")
  |false=>
   obtain⟨x',ih⟩:=IH acc (some (.str l)) (by exact aV ‹_›);refine⟨x',?_⟩;rw[sC (by rw[hb];decide)];apply J1
   ·exact ê (by exact Ń (ź _ _) ‹_›)
   ·exact gW rfl
   rotate_left 2
   ·exact ih
   rotate_right 2
   repeat (first|exact t1|walk_at "nz")
theorem kQ(f:List Nat→Bool):∀ls:List (List Nat),Ī 0 (((ls.filter f).map V.str).length:Int)=ls.any f
 |[]=>rfl
 |l::ls=>by
  induction h:f l using ñ with
  |true=>
   rw[sD h,ij,h,oK];exact decide_eq_true (by simp only[Ō,Ă];exact í [_] (.c Ē Â .z) (.a Ē Á) (.a Â Á) rfl (lS _))
  |false=>
   rw[sC (by rw[h];decide),ij,h,jJ];exact kQ f ls
theorem J7{p:LP}{k count last f:Nat}(hf:f<4):Ev Ê (.call (d+72) 88 [Û (.flag f),Ķ p,.int k,.int count,.int last] H) (⟨H,[],[]⟩,.val (.bool (ÿ p k count last (.flag f)))):=by
 have h:=(xl f hf p).2;apply É (S:=⟨H,[some (Ķ p),some (.int k),some (.int count),some (.int last),none,none],[some (Û (.flag f))]⟩) rfl rfl;walk_at "w"
theorem uY{p:LP}{k count last j:Nat}:A3 (Ev Ê (.call (d+72) 88 [Û (.aJ j),Ķ p,.int k,.int count,.int last] H) (⟨H,[],[]⟩,.val (.bool (ÿ p k count last (.aJ j))))) (Ev Ê (.call (d+72) 88 [Û (.Ţ j),Ķ p,.int k,.int count,.int last] H) (⟨H,[],[]⟩,.val (.bool (ÿ p k count last (.Ţ j))))) (Ev Ê (.call (d+72) 88 [Û (.aH j),Ķ p,.int k,.int count,.int last] H) (⟨H,[],[]⟩,.val (.bool (ÿ p k count last (.aH j))))):=by
 refine⟨?_,?_,?_⟩
 ·apply É (S:=⟨H,[some (Ķ p),some (.int k),some (.int count),some (.int last),none,none],[some (Û (.aJ j))]⟩) rfl rfl;walk_at "w"
 ·apply É (S:=⟨H,[some (Ķ p),some (.int k),some (.int count),some (.int last),none,none],[some (Û (.Ţ j))]⟩) rfl rfl;walk_at "w"
 ·apply É (S:=⟨H,[some (Ķ p),some (.int k),some (.int count),some (.int last),none,none],[some (Û (.aH j))]⟩) rfl rfl;walk_at "w"
theorem sf{p:LP}{k count last:Nat}{ps:List (Nat×Nat)}:Ev Ê (.call (d+72) 88 [Û (.seq ps),Ķ p,.int k,.int count,.int last] H) (⟨H,[],[]⟩,.val (.bool (ÿ p k count last (.seq ps))))∧
  Ev Ê (.call (d+72) 88 [Û (.uid ps),Ķ p,.int k,.int count,.int last] H) (⟨H,[],[]⟩,.val (.bool (ÿ p k count last (.uid ps)))):=by
 have h1:=wR (d:=d+67) (H:=H) (n:=k) (g:=count) ps;have h2:=wR (d:=d+67) (H:=H) (n:=p.uid) (g:=last) ps;refine⟨?_,?_⟩
 ·apply É (S:=⟨H,[some (Ķ p),some (.int k),some (.int count),some (.int last),none,none],[some (Û (.seq ps))]⟩) rfl rfl;walk_at "w"
 ·apply É (S:=⟨H,[some (Ķ p),some (.int k),some (.int count),some (.int last),none,none],[some (Û (.uid ps))]⟩) rfl rfl;walk_at "w"
theorem xo{k:Nat}{v x:V}{vs:List V}(h:oi k v vs=some x):oi k v vs=some x:=h
theorem J8{p:LP}(hp:p.Ok){k count last w i:Nat}(hw:w<3)(hi:i<4):Ev Ê (.call (d+72) 88 [Û (.day w i),Ķ p,.int k,.int count,.int last] H) (⟨H,[],[]⟩,.val (.bool (ÿ p k count last (.day w i)))):=by
 have c:=su (d:=d+70) (H:=H) hw hp.sp hi;have q:A6 (cmp 0 (.str (Æ Į w)) (.str cw)=some false) (cmp 0 (.str (Æ Į w)) (.str ŗ)=some false) (cmp 0 (.str (Æ Į w)) (.str aS)=some false) (slice (.str (Æ Į w)) none (some (.int 4)) none=some (.str ((Æ Į w).take 4))) (cmp 0 (.str ((Æ Į w).take 4)) (.str Ť)=some false) (cmp 8 (.str (Æ Į w)) (.tup [.str jA,.str [111,110],.str n7])=some true):=by
  match w,hw with
  |0,_|1,_|2,_=>exact⟨rfl,rfl,rfl,rfl,rfl,rfl⟩
  |w+3,h=>exact absurd ‹_› (Ŧ (î _ _))
 obtain⟨q1,q2,q3,q4,q5,q6⟩:=q;obtain⟨x,y,z,e⟩:=ŝ hp.sp;have e':look [100,97,121] [([117,105,100],.int p.uid),(eR,.lst (Ĩ p)),(dK,.int (txt p.n p.s p.b).length),([100,97,121],å p.sp),(aT,.int p.mo),(Ť,å p.n),(Ġ,.str (Æ Ç p.s)),(ŗ,.str (Æ Ç p.b)),(ň,.str (Æ æ p.n))]=some (å p.sp):=rfl;have e2:item (Ķ p) (.str [100,97,121])=some (å p.sp):=e';apply É (S:=⟨H,[some (Ķ p),some (.int k),some (.int count),some (.int last),none,none],[some (.tup [.str (Æ Į w),å i])]⟩) rfl rfl;walk_at "w"
theorem J5{p:LP}(hp:p.Ok){k count last w i:Nat}(hw:w<3)(hi:i<4):Ev Ê (.call (d+72) 88 [Û (.gP w i),Ķ p,.int k,.int count,.int last] H) (⟨H,[],[]⟩,.val (.bool (ÿ p k count last (.gP w i)))):=by
 have q:A3 (cmp 0 (.str (Æ bf w)) (.str cw)=some false) (cmp 0 (.str (Æ bf w)) (.str ŗ)=some false) (cmp 0 (.str (Æ bf w)) (.str aS)=some false):=by
  match w,hw with
  |0,_|1,_|2,_=>exact⟨rfl,rfl,rfl⟩
  |w+3,h=>exact absurd ‹_› (Ŧ (î _ _))
 obtain⟨q1,q2,q3⟩:=q;obtain⟨q4,q5,_⟩:=z7 w hw;show Ev Ê _ (⟨H,[],[]⟩,.val (.bool (Đ p.n 4&&m9 w (å p.n) (å i))))
 by_cases hn:p.n<4
 ·have c:=su (d:=d+70) (H:=H) hw hn hi;obtain⟨x,y,z,e⟩:=ŝ hn;rw[show Đ p.n 4=true from by rw[bQ];exact hn,sI];have hv:cmp 7 (å p.n) .none=some true:=by rw[e];rfl
  have ZE:view H (å p.n)=some (å p.n):=by rw[e];rfl
  apply É (S:=⟨H,[some (Ķ p),some (.int k),some (.int count),some (.int last),none,none],[some (.tup [.str (Æ bf w),å i])]⟩) rfl rfl;walk_at "w"
 ·have e:=nT hn;rw[show Đ p.n 4=false from by rw[←w3,bQ];exact hn,wX];have hv:cmp 7 (å p.n) .none=some false:=by rw[e];rfl
  have ZE:view H (å p.n)=some (å p.n):=by rw[e];rfl
  apply É (S:=⟨H,[some (Ķ p),some (.int k),some (.int count),some (.int last),none,none],[some (.tup [.str (Æ bf w),å i])]⟩) rfl rfl;walk_at "w"
theorem J6{p:LP}(hp:p.Ok){k count last o:Nat}(ho:o<8):Ev Ê (.call (d+72) 88 [Û (.header o),Ķ p,.int k,.int count,.int last] H) (⟨H,[],[]⟩,.val (.bool (ÿ p k count last (.header o)))):=by
 have c:=lN (d:=d+10) (H:=H) ho;obtain⟨m1,m2⟩:=ic hp.s;apply É (S:=⟨H,[some (Ķ p),some (.int k),some (.int count),some (.int last),none,none],[some (Û (.header o))]⟩) rfl rfl
 repeat (first|((with_reducible apply xo);exact m1)|walk_at "nz")
theorem J9{p:LP}(hp:p.Ok){k count last o:Nat}(ho:o<8):Ev Ê (.call (d+72) 88 [Û (.body o),Ķ p,.int k,.int count,.int last] []) (⟨[],[],[]⟩,.val (.bool (ÿ p k count last (.body o)))):=by
 obtain⟨m1,m2⟩:=ic hp.b;have ht:∀x:Option V,Ev Ê (.ev (d+70) (.fn 89 [.ix ğ Ì]) ⟨[.Ô (.lst [.str (Ĝ (Æ Ç p.b))])],[none,x],[some (Û (.body o))]⟩) (⟨[.Ô (.lst [.str (Ĝ (Æ Ç p.b))])],[none,x],[some (Û (.body o))]⟩,.val (.str (Ĝ (Æ ö o)))):=fun x=>by
  repeat (first|exact lN ho|walk_at "nz")
 obtain⟨x',lc⟩:=ot (d:=d+68) ht [Ĝ (Æ Ç p.b)] [] none (by simp);have hn:=bV (l:=(([Ĝ (Æ Ç p.b)].filter (ř (Ĝ (Æ ö o)))).map V.str)) (by
  rw[Ė];exact Ń (List.length_filter_le _ _) (by simp))
 have he:ÿ p k count last (.body o)=Ī 0 ((([Ĝ (Æ Ç p.b)].filter (ř (Ĝ (Æ ö o)))).map V.str).length:Int):=by
  rw[kQ];show bW o (Æ Ç p.b)=(ř _ _||false);rw[Bool.or_false];rfl
 rw[he];apply É (S:=⟨[],[some (Ķ p),some (.int k),some (.int count),some (.int last),none,none],[some (Û (.body o))]⟩) rfl rfl
 repeat (first|((with_reducible apply xo);exact m1)|walk_at "nz")
theorem yX(n:Nat):Ĝ (bB n)=jz++Ĝ (Æ æ n):=by unfold Ĝ bB;rw[dS];rfl
theorem nQ(s:Nat):Ĝ (aD s)=cY++Ĝ (Æ Ç s):=by unfold Ĝ aD;rw[dS];rfl
theorem J4{p:LP}(hp:p.Ok){k count last o:Nat}(ho:o<8):Ev Ê (.call (d+72) 88 [Û (.text o),Ķ p,.int k,.int count,.int last] []) (⟨[],[],[]⟩,.val (.bool (ÿ p k count last (.text o)))):=by
 obtain⟨m1,_⟩:=ic hp.b;obtain⟨m2,m3⟩:=ic hp.s;have g:∀(ls:List (List Nat)) (H:List Cell),ls.length<1000→(∃x',Ev Ê (.fh (d+70) Ã [1] [.cm (.fn 89 [.ix ğ Ì]) [8] [.l 1]] (ls.map .str) [] ⟨H,[none,none],[some (Û (.text o))]⟩)
   (⟨H,[none,x'],[some (Û (.text o))]⟩,.vals ((ls.filter (ř (Ĝ (Æ ö o)))).map .str)))∧blt 0 [.lst ((ls.filter (ř (Ĝ (Æ ö o)))).map V.str)]=some (.int ((ls.filter (ř (Ĝ (Æ ö o)))).map V.str).length):=fun ls H hl=>by
  have ht:∀x:Option V,Ev Ê (.ev (d+70) (.fn 89 [.ix ğ Ì]) ⟨H,[none,x],[some (Û (.text o))]⟩) (⟨H,[none,x],[some (Û (.text o))]⟩,.val (.str (Ĝ (Æ ö o)))):=fun x=>by
   repeat (first|exact lN ho|walk_at "nz")
  exact⟨ot (d:=d+68) ht ls [] none (by simp;exact ă ‹_› (by decide)),bV (by rw[Ė];exact Ń (List.length_filter_le _ _) (by exact ă ‹_› (by decide)))⟩
 by_cases hn:p.n<5
 ·obtain⟨m4,m5,m6⟩:=Bd hn;obtain⟨⟨x',lc⟩,hl⟩:=g [Ĝ (Æ Ç p.b),cY++Ĝ (Æ Ç p.s),jz++Ĝ (Æ æ p.n)]
   [.Ô (.lst [.str (Ĝ (Æ Ç p.b))]),.Ô (.lst [.str (cY++Ĝ (Æ Ç p.s))]),.Ô (.lst [.str (Ĝ (Æ Ç p.b)),.str (cY++Ĝ (Æ Ç p.s))]),.Ô (.lst [.str (jz++Ĝ (Æ æ p.n))]),
    .Ô (.lst [.str (Ĝ (Æ Ç p.b)),.str (cY++Ĝ (Æ Ç p.s)),.str (jz++Ĝ (Æ æ p.n))])] (by simp)
  have he:ÿ p k count last (.text o)=Ī 0 ((([Ĝ (Æ Ç p.b),cY++Ĝ (Æ Ç p.s),jz++Ĝ (Æ æ p.n)].filter (ř (Ĝ (Æ ö o)))).map V.str).length:Int):=by
   rw[kQ];show(bW o (Æ Ç p.b)||(bW o (aD p.s)||(Đ p.n 5&&bW o (bB p.n))))=_;rw[show Đ p.n 5=true from by rw[bQ];exact hn,sI];unfold bW;rw[yX,nQ];show _=(ř _ _||(ř _ _||(ř _ _||false)));rw[Bool.or_false]
  rw[he];apply É (S:=⟨[],[some (Ķ p),some (.int k),some (.int count),some (.int last),none,none],[some (Û (.text o))]⟩) rfl rfl
  repeat (first|((with_reducible apply xo);first|exact m1|exact m2|exact m4)|walk_at "nz")
 ·have e5:p.n=5:=by have:=hp.n;exact cQ (ä [_] (.c (.a Â Á) (.n 6) .z) Â jB rfl this) (ä [_] (.c jB Â .z) jB Â rfl (Nat.le_of_not_lt hn))
  have m6:cmp 1 (.str (Æ æ p.n)) (.str [])=some false:=by rw[e5];rfl
  obtain⟨⟨x',lc⟩,hl⟩:=g [Ĝ (Æ Ç p.b),cY++Ĝ (Æ Ç p.s)]
   [.Ô (.lst [.str (Ĝ (Æ Ç p.b))]),.Ô (.lst [.str (cY++Ĝ (Æ Ç p.s))]),.Ô (.lst [.str (Ĝ (Æ Ç p.b)),.str (cY++Ĝ (Æ Ç p.s))]),.Ô (.lst []),
    .Ô (.lst [.str (Ĝ (Æ Ç p.b)),.str (cY++Ĝ (Æ Ç p.s))])] (by simp)
  have he:ÿ p k count last (.text o)=Ī 0 ((([Ĝ (Æ Ç p.b),cY++Ĝ (Æ Ç p.s)].filter (ř (Ĝ (Æ ö o)))).map V.str).length:Int):=by
   rw[kQ];show(bW o (Æ Ç p.b)||(bW o (aD p.s)||(Đ p.n 5&&bW o (bB p.n))))=_;rw[e5];unfold bW;rw[nQ];show(ř _ _||(ř _ _||false))=(ř _ _||(ř _ _||false));rfl
  rw[he];apply É (S:=⟨[],[some (Ķ p),some (.int k),some (.int count),some (.int last),none,none],[some (Û (.text o))]⟩) rfl rfl
  repeat (first|((with_reducible apply xo);first|exact m1|exact m2)|walk_at "nz")
theorem Fy{p:LP}(hp:p.Ok){k count last:Nat}:∀(l:Ś),l.ok→l≠.all→Ev Ê (.call (d+72) 88 [Û l,Ķ p,.int k,.int count,.int last] []) (⟨[],[],[]⟩,.val (.bool (ÿ p k count last l)))
 |.flag f,h,_=>J7 h
 |.aJ j,_,_=>uY.1
 |.Ţ j,_,_=>uY.2
 |.aH j,_,_=>uY.3
 |.seq ps,_,_=>sf.1
 |.uid ps,_,_=>sf.2
 |.day w i,h,_=>J8 hp h.1 h.2
 |.gP w i,h,_=>J5 hp h.1 h.2
 |.header o,h,_=>J6 hp h
 |.text o,h,_=>J4 hp h
 |.body o,h,_=>J9 hp h
 |.all,_,h=>absurd rfl h
theorem use2{j:Nat}{vs:List V}{v:V}{st:St}(h:Ev Ê (.call 80 j vs []) (st,.val v))(hS:true=true)(hv:vs.all Ð=true)(hn:Ð v=true):Ev Ê (.call (d+81) j vs H) (⟨H,[],[]⟩,.val v):=IC (ă (by decide) (î _ d)) h hv hn
inductive Tr where
 |leaf (l:Ś)|nt (t:Tr)|an (a b:Tr)|or (a b:Tr)
noncomputable def Tr.ctorIdx:Tr→Nat:=fun v=>v.casesOn (fun À=>0) (fun À=>1) (fun À À=>2) (fun À À=>3)
noncomputable def Î:Tr→V
 |.leaf l=>Û l
 |.nt t=>.tup [.str [110,111,116],Î t]
 |.an a b=>.tup [.str [97,110,100],Î a,Î b]
 |.or a b=>.tup [.str [111,114],Î a,Î b]
noncomputable def Tr.NC:Tr→Bool
 |.an .. =>true
 |_=>false
noncomputable def Tr.ok:Tr→Prop
 |.leaf l=>l.ok
 |.nt t=>t.ok
 |.an a b=>A3 a.ok b.ok (a.NC=false)
 |.or a b=>a.ok∧b.ok
noncomputable def Tr.reads:Tr→Bool
 |.leaf l=>l.reads
 |.nt t=>t.reads
 |.an a b=>a.reads||b.reads
 |.or a b=>a.reads||b.reads
noncomputable def Tr.ĭ:Tr→Nat
 |.leaf _=>0
 |.nt t=>t.ĭ+1
 |.an a b=>a.ĭ+b.ĭ+1
 |.or a b=>a.ĭ+b.ĭ+1
noncomputable def Ĉ(tr:Ś→Bool):Tr→Bool
 |.leaf l=>tr l
 |.nt t=> !Ĉ tr t
 |.an a b=>Ĉ tr a&&Ĉ tr b
 |.or a b=>Ĉ tr a||Ĉ tr b
def ď(p:LP)(k count last:Nat)(t:Tr):Bool:=Ĉ (ÿ p k count last) t
noncomputable def Tr.Ā:Tr→List Ś
 |.leaf l=>[l]
 |.nt t=>t.Ā
 |.an a b=>a.Ā++b.Ā
 |.or a b=>a.Ā++b.Ā
theorem dQ(l:Ś)(ho:l.ok):T2 fun ks r=>A6 (Û l=.tup (.str ks::r)) (Ø ks [110,111,116]=false) (Ø ks [97,110,100]=false) (Ø ks [111,114]=false) (l≠.all→Ø ks [97,108,108]=false) (∃b,A3 (cmp 8 (.str ks) (.tup [.str cw,.str aS,.str ŗ])=some b) (slice (.str ks) none (some (.int 4)) none=some (.str (ks.take 4))) (l.reads=(b||Ø (ks.take 4) Ť))):=by
 match l,ho with
 |.flag f,_=>exact⟨_,_,rfl,rfl,rfl,rfl,fun À=>rfl,_,rfl,rfl,rfl⟩
 |.aJ f,_=>exact⟨_,_,rfl,rfl,rfl,rfl,fun À=>rfl,_,rfl,rfl,rfl⟩
 |.Ţ f,_=>exact⟨_,_,rfl,rfl,rfl,rfl,fun À=>rfl,_,rfl,rfl,rfl⟩
 |.aH f,_=>exact⟨_,_,rfl,rfl,rfl,rfl,fun À=>rfl,_,rfl,rfl,rfl⟩
 |.seq f,_=>exact⟨_,_,rfl,rfl,rfl,rfl,fun À=>rfl,_,rfl,rfl,rfl⟩
 |.uid f,_=>exact⟨_,_,rfl,rfl,rfl,rfl,fun À=>rfl,_,rfl,rfl,rfl⟩
 |.day 0 i,_=>exact⟨_,_,rfl,rfl,rfl,rfl,fun À=>rfl,_,rfl,rfl,rfl⟩
 |.day 1 i,_=>exact⟨_,_,rfl,rfl,rfl,rfl,fun À=>rfl,_,rfl,rfl,rfl⟩
 |.day 2 i,_=>exact⟨_,_,rfl,rfl,rfl,rfl,fun À=>rfl,_,rfl,rfl,rfl⟩
 |.day (w+3) i,h=>exact absurd h.1 (by exact Ŧ (î _ _))
 |.gP 0 i,_=>exact⟨_,_,rfl,rfl,rfl,rfl,fun À=>rfl,_,rfl,rfl,rfl⟩
 |.gP 1 i,_=>exact⟨_,_,rfl,rfl,rfl,rfl,fun À=>rfl,_,rfl,rfl,rfl⟩
 |.gP 2 i,_=>exact⟨_,_,rfl,rfl,rfl,rfl,fun À=>rfl,_,rfl,rfl,rfl⟩
 |.gP (w+3) i,h=>exact absurd h.1 (by exact Ŧ (î _ _))
 |.header f,_=>exact⟨_,_,rfl,rfl,rfl,rfl,fun À=>rfl,_,rfl,rfl,rfl⟩
 |.text f,_=>exact⟨_,_,rfl,rfl,rfl,rfl,fun À=>rfl,_,rfl,rfl,rfl⟩
 |.body f,_=>exact⟨_,_,rfl,rfl,rfl,rfl,fun À=>rfl,_,rfl,rfl,rfl⟩
 |.all,_=>exact⟨_,_,rfl,rfl,rfl,rfl,fun h=>absurd rfl h,_,rfl,rfl,rfl⟩
theorem Ú(l:Ś):Ð (Û l)=true:=by induction l using Ś.casesOn<;>rfl
theorem ī(t:Tr):Ð (Î t)=true:=by
 induction t using Tr.casesOn with
 |leaf l=>exact Ú l
 |_=>rfl
theorem Nf{p:LP}(hp:p.Ok){k count last:Nat}(hc:count≠0)(hl:last≠0){r:Bool}(l:Ś)(ho:l.ok)(hr:l.reads=true→r=true)(hn:l≠.all):
  Ev Ê (.call (d+81) 73 [Û l,dH p k r,.tup [.int count,.int last]] H) (⟨H,[],[]⟩,.val (.bool (ÿ p k count last l))):=
 use2 (FG (d:=8) (H:=[]) hp hc hl l ho hr hn) rfl (by simp only[gH,Ú];rfl) rfl
theorem Na{p:LP}(hp:p.Ok){k count last:Nat}(l:Ś)(ho:l.ok)(hn:l≠.all):
  Ev Ê (.call (d+81) 88 [Û l,Ķ p,.int k,.int count,.int last] H) (⟨H,[],[]⟩,.val (.bool (ÿ p k count last l))):=
 use2 (Fy (d:=8) hp l ho hn) rfl (by simp only[gH,Ú];rfl) rfl
theorem VY{P:Č}{S:St}{elt:PE}{tg:List Nat}{ifs:List PE}{x y:V}:Ev P (.fh d elt tg ifs [] [y,x] S) (S,.vals [x,y]):=i9
theorem Lu(x y:Bool):cmp 9 (.bool false) (.lst [.bool x,.bool y])=some (x&&y):=by induction x using ñ<;>induction y using ñ<;>rfl
theorem MY(x y:Bool):cmp 8 (.bool true) (.lst [.bool x,.bool y])=some (x||y):=by induction x using ñ<;>induction y using ñ<;>rfl
theorem i8{p:LP}(hp:p.Ok){k count last:Nat}:∀(t:Tr) (d:Nat) (H:List Cell),t.ok→Ev Ê (.call (d+84+4*t.ĭ) 90 [Î t,Ķ p,.int k,.int count,.int last] H) (⟨H,[],[]⟩,.val (.bool (ď p k count last t)))
 |.leaf l,d,H,ho=>by
  obtain⟨ks,r,e,e1,e2,e3,e4,_⟩:=dQ l ho;show Ev Ê (.call (d+84) 90 [Û l,Ķ p,.int k,.int count,.int last] H) (⟨H,[],[]⟩,.val (.bool (ÿ p k count last l)))
  by_cases hn:l=.all
  ·subst hn;apply É (S:=⟨H,[some (Û .all),none,none],[some (Ķ p),some (.int k),some (.int count),some (.int last)]⟩) rfl rfl;walk_at "w"
  ·have c:=Na (d:=d+2) (H:=H) hp (k:=k) (count:=count) (last:=last) l ho hn;have e4:=e4 hn;rw[e]at c ⊢;have c8:cmp 8 (.str ks) (.tup [.str [97,110,100],.str [111,114]])=some false:=by
    show some (Ø [97,110,100] ks||(Ø [111,114] ks||false))=_;rw[ŏ]at e2 e3 ⊢;rw[ŏ];have q1:¬([97,110,100]:List Nat)=ks:=fun q=>of_decide_eq_false e2 q.symm
    have q2:¬([111,114]:List Nat)=ks:=fun q=>of_decide_eq_false e3 q.symm
    rw[decide_eq_false q1,decide_eq_false q2];rfl
   apply É (S:=⟨H,[some (.tup (.str ks::r)),none,none],[some (Ķ p),some (.int k),some (.int count),some (.int last)]⟩) rfl rfl
   repeat (first|((with_reducible apply qA);exact c)|walk_at "nz")
 |.nt t,d,H,ho=>by
  have c:=i8 hp (k:=k) (count:=count) (last:=last) t (d+3) H ho;rw[show d+84+4*(Tr.nt t).ĭ=(d+3+84+4*t.ĭ)+1 by show d+84+4*(t.ĭ+1)=_;exact cQ (ä [_,_] .z (.a (.a Â ŷ) (.m 4 (.a È Á))) (.a (.a (.a (.a Â hW) ŷ) (.m 4 È)) Á) rfl) (ä [_,_] .z (.a (.a (.a (.a Â hW) ŷ) (.m 4 È)) Á) (.a (.a Â ŷ) (.m 4 (.a È Á))) rfl)];apply É (S:=⟨H,[some (Î (.nt t)),none,none],[some (Ķ p),some (.int k),some (.int count),some (.int last)]⟩) rfl rfl
  repeat (first|((with_reducible apply qA);exact c)|walk_at "nz")
 |.an a b,d,H,ho=>by
  have ca:=i8 hp (k:=k) (count:=count) (last:=last) a (d+2+4*b.ĭ) H ho.1;have cb:=i8 hp (k:=k) (count:=count) (last:=last) b (d+2+4*a.ĭ) H ho.2;rw[show d+2+4*b.ĭ+84+4*a.ĭ=d+86+4*a.ĭ+4*b.ĭ by exact cQ (ä [_,_,_] .z (.a (.a (.a (.a Â Ĵ) (.m 4 È)) ŷ) (.m 4 ã)) (.a (.a (.a Â ak) (.m 4 ã)) (.m 4 È)) rfl) (ä [_,_,_] .z (.a (.a (.a Â ak) (.m 4 È)) (.m 4 ã)) (.a (.a (.a (.a Â Ĵ) (.m 4 ã)) ŷ) (.m 4 È)) rfl)]at ca;rw[show d+2+4*a.ĭ+84+4*b.ĭ=d+86+4*a.ĭ+4*b.ĭ by exact cQ (ä [_,_,_] .z (.a (.a (.a (.a Â Ĵ) (.m 4 È)) ŷ) (.m 4 ã)) (.a (.a (.a Â ak) (.m 4 È)) (.m 4 ã)) rfl) (ä [_,_,_] .z (.a (.a (.a Â ak) (.m 4 È)) (.m 4 ã)) (.a (.a (.a (.a Â Ĵ) (.m 4 È)) ŷ) (.m 4 ã)) rfl)]at cb;show Ev Ê _ (⟨H,[],[]⟩,.val (.bool (ď p k count last a&&ď p k count last b)));generalize ď p k count last a=x at ca ⊢;generalize ď p k count last b=y at cb ⊢;have hc:=Lu x y;have na:(Ð (Î a)&&small ([]:List V))=true:=by rw[ī];rfl
  have nb:(Ð (Î b)&&small [V.bool x])=true:=by rw[ī];rfl
  rw[show d+84+4*(Tr.an a b).ĭ=(d+86+4*a.ĭ+4*b.ĭ)+2 by show d+84+4*(a.ĭ+b.ĭ+1)=_;exact cQ (ä [_,_,_] .z (.a (.a Â ŷ) (.m 4 (.a (.a È ã) Á))) (.a (.a (.a (.a Â ak) (.m 4 È)) (.m 4 ã)) Ĵ) rfl) (ä [_,_,_] .z (.a (.a (.a (.a Â ak) (.m 4 È)) (.m 4 ã)) Ĵ) (.a (.a Â ŷ) (.m 4 (.a (.a È ã) Á))) rfl)];apply É (S:=⟨H,[some (Î (.an a b)),none,none],[some (Ķ p),some (.int k),some (.int count),some (.int last)]⟩) rfl rfl
  repeat (first|((with_reducible apply qA);first|exact ca|exact cb)|exact VY|(apply r6 na)|(apply r6 nb)|walk_at "nz")
 |.or a b,d,H,ho=>by
  have ca:=i8 hp (k:=k) (count:=count) (last:=last) a (d+2+4*b.ĭ) H ho.1;have cb:=i8 hp (k:=k) (count:=count) (last:=last) b (d+2+4*a.ĭ) H ho.2;rw[show d+2+4*b.ĭ+84+4*a.ĭ=d+86+4*a.ĭ+4*b.ĭ by exact cQ (ä [_,_,_] .z (.a (.a (.a (.a Â Ĵ) (.m 4 È)) ŷ) (.m 4 ã)) (.a (.a (.a Â ak) (.m 4 ã)) (.m 4 È)) rfl) (ä [_,_,_] .z (.a (.a (.a Â ak) (.m 4 È)) (.m 4 ã)) (.a (.a (.a (.a Â Ĵ) (.m 4 ã)) ŷ) (.m 4 È)) rfl)]at ca;rw[show d+2+4*a.ĭ+84+4*b.ĭ=d+86+4*a.ĭ+4*b.ĭ by exact cQ (ä [_,_,_] .z (.a (.a (.a (.a Â Ĵ) (.m 4 È)) ŷ) (.m 4 ã)) (.a (.a (.a Â ak) (.m 4 È)) (.m 4 ã)) rfl) (ä [_,_,_] .z (.a (.a (.a Â ak) (.m 4 È)) (.m 4 ã)) (.a (.a (.a (.a Â Ĵ) (.m 4 È)) ŷ) (.m 4 ã)) rfl)]at cb;show Ev Ê _ (⟨H,[],[]⟩,.val (.bool (ď p k count last a||ď p k count last b)));generalize ď p k count last a=x at ca ⊢;generalize ď p k count last b=y at cb ⊢;have hc:=MY x y;have na:(Ð (Î a)&&small ([]:List V))=true:=by rw[ī];rfl
  have nb:(Ð (Î b)&&small [V.bool x])=true:=by rw[ī];rfl
  rw[show d+84+4*(Tr.or a b).ĭ=(d+86+4*a.ĭ+4*b.ĭ)+2 by show d+84+4*(a.ĭ+b.ĭ+1)=_;exact cQ (ä [_,_,_] .z (.a (.a Â ŷ) (.m 4 (.a (.a È ã) Á))) (.a (.a (.a (.a Â ak) (.m 4 È)) (.m 4 ã)) Ĵ) rfl) (ä [_,_,_] .z (.a (.a (.a (.a Â ak) (.m 4 È)) (.m 4 ã)) Ĵ) (.a (.a Â ŷ) (.m 4 (.a (.a È ã) Á))) rfl)];apply É (S:=⟨H,[some (Î (.or a b)),none,none],[some (Ķ p),some (.int k),some (.int count),some (.int last)]⟩) rfl rfl
  repeat (first|exact VY|(apply r6 na)|(apply r6 nb)|walk_at "nz")
theorem ő{v:V}(h:Ð v=true)(H:List Cell):Ô H v=some (H,v):=by induction v using V.casesOn<;>first|rfl|exact â h
theorem x_(t:Tr)(ho:t.ok):T2 fun ks r=>Î t=.tup (.str ks::r)∧(t.NC=false→Ø ks [97,110,100]=false):=by
 induction t using Tr.casesOn with
 |leaf l=>
  obtain⟨ks,r,e,e1,e2,_⟩:=dQ l ho;exact⟨ks,r,e,fun À=>e2⟩
 |nt t=>exact⟨_,_,rfl,fun À=>rfl⟩
 |an a b=>exact⟨_,_,rfl,fun h=>by cases h⟩
 |or a b=>exact⟨_,_,rfl,fun À=>rfl⟩
theorem JC{ka:List Nat}{ra:List V}{b:V}(ha:Ø ka [97,110,100]=false)(hb:Ð b=true):Ev Ê (.call (d+4) 53 [.tup [.str [97,110,100],.tup (.str ka::ra),b]] H) (⟨H,[],[]⟩,.val (.lst [.tup (.str ka::ra),b])):=by
 have h1:=ő hb (H++[.lst []]);apply É (S:=⟨H,[some (.tup [.str [97,110,100],.tup (.str ka::ra),b]),none],[]⟩) rfl rfl;walk_at "w";apply xT;walk_at "w";apply Iz;walk_at "w"
 ·exact iy
 ·exact wb _ _
theorem jo{SV CV:V}{tr:Ś→Bool}(s_:tr .all=true):∀(t:Tr) (d:Nat) (H:List Cell),t.ok→(∀l∈t.Ā,l≠.all→∀d H,Ev Ê (.call (d+81) 73 [Û l,SV,CV] H) (⟨H,[],[]⟩,.val (.bool (tr l))))→
  Ev Ê (.call (d+84+4*t.ĭ) 56 [Î t,.g9 [SV,CV]] H) (⟨H,[],[]⟩,.val (.bool (Ĉ tr t)))
 |.leaf l,d,H,ho,hr=>by
  obtain⟨ks,u,e,e1,e2,e3,e4,_⟩:=dQ l ho;show Ev Ê (.call (d+84) 56 [Û l,.g9 [SV,CV]] H) (⟨H,[],[]⟩,.val (.bool (tr l)))
  by_cases hn:l=.all
  ·subst hn;rw[s_];apply É (S:=⟨H,[some (Û .all),some (.g9 [SV,CV]),none,none],[]⟩) rfl rfl;walk_at "w"
  ·have c:=hr l (ė.mpr rfl) hn (d+1) H;have e4:=e4 hn;have e2':(!Ø ks [97,110,100])=true:=by rw[e2];rfl
   rw[e]at c ⊢;apply É (S:=⟨H,[some (.tup (.str ks::u)),some (.g9 [SV,CV]),none,none],[]⟩) rfl rfl;walk_at "w"
 |.nt t,d,H,ho,hr=>by
  have c:=jo s_ t (d+3) H ho hr;rw[show d+84+4*(Tr.nt t).ĭ=(d+3+84+4*t.ĭ)+1 by show d+84+4*(t.ĭ+1)=_;exact cQ (ä [_,_] .z (.a (.a Â ŷ) (.m 4 (.a È Á))) (.a (.a (.a (.a Â hW) ŷ) (.m 4 È)) Á) rfl) (ä [_,_] .z (.a (.a (.a (.a Â hW) ŷ) (.m 4 È)) Á) (.a (.a Â ŷ) (.m 4 (.a È Á))) rfl)];apply É (S:=⟨H,[some (Î (.nt t)),some (.g9 [SV,CV]),none,none],[]⟩) rfl rfl;walk_at "w"
 |.or a b,d,H,ho,hr=>by
  have ca:=jo s_ a (d+3+4*b.ĭ) H ho.1 (fun l h=>hr l (List.mem_append_left _ h));have cb:=jo s_ b (d+3+4*a.ĭ) H ho.2 (fun l h=>hr l (List.mem_append_right _ h));rw[show d+3+4*b.ĭ+84+4*a.ĭ=d+87+4*a.ĭ+4*b.ĭ by exact cQ (ä [_,_,_] .z (.a (.a (.a (.a Â hW) (.m 4 È)) ŷ) (.m 4 ã)) (.a (.a (.a Â (.n 87)) (.m 4 ã)) (.m 4 È)) rfl) (ä [_,_,_] .z (.a (.a (.a Â (.n 87)) (.m 4 È)) (.m 4 ã)) (.a (.a (.a (.a Â hW) (.m 4 ã)) ŷ) (.m 4 È)) rfl)]at ca;rw[show d+3+4*a.ĭ+84+4*b.ĭ=d+87+4*a.ĭ+4*b.ĭ by exact cQ (ä [_,_,_] .z (.a (.a (.a (.a Â hW) (.m 4 È)) ŷ) (.m 4 ã)) (.a (.a (.a Â (.n 87)) (.m 4 È)) (.m 4 ã)) rfl) (ä [_,_,_] .z (.a (.a (.a Â (.n 87)) (.m 4 È)) (.m 4 ã)) (.a (.a (.a (.a Â hW) (.m 4 È)) ŷ) (.m 4 ã)) rfl)]at cb;show Ev Ê _ (⟨H,[],[]⟩,.val (.bool (Ĉ tr a||Ĉ tr b)));generalize Ĉ tr a=x at ca ⊢;generalize Ĉ tr b=y at cb ⊢;rw[show d+84+4*(Tr.or a b).ĭ=(d+87+4*a.ĭ+4*b.ĭ)+1 by show d+84+4*(a.ĭ+b.ĭ+1)=_;exact cQ (ä [_,_,_] .z (.a (.a Â ŷ) (.m 4 (.a (.a È ã) Á))) (.a (.a (.a (.a Â (.n 87)) (.m 4 È)) (.m 4 ã)) Á) rfl) (ä [_,_,_] .z (.a (.a (.a (.a Â (.n 87)) (.m 4 È)) (.m 4 ã)) Á) (.a (.a Â ŷ) (.m 4 (.a (.a È ã) Á))) rfl)]
  induction x using ñ with
  |true=>
   rw[oK];apply É (S:=⟨H,[some (Î (.or a b)),some (.g9 [SV,CV]),none,none],[]⟩) rfl rfl;walk_at "w"
  |false=>
   rw[jJ];apply É (S:=⟨H,[some (Î (.or a b)),some (.g9 [SV,CV]),none,none],[]⟩) rfl rfl;walk_at "w"
 |.an a b,d,H,ho,hr=>by
  have ca:=jo s_ a (d+2+4*b.ĭ) H ho.1 (fun l h=>hr l (List.mem_append_left _ h));have cb:=jo s_ b (d+2+4*a.ĭ) H ho.2 (fun l h=>hr l (List.mem_append_right _ h));rw[show d+2+4*b.ĭ+84+4*a.ĭ=d+86+4*a.ĭ+4*b.ĭ by exact cQ (ä [_,_,_] .z (.a (.a (.a (.a Â Ĵ) (.m 4 È)) ŷ) (.m 4 ã)) (.a (.a (.a Â ak) (.m 4 ã)) (.m 4 È)) rfl) (ä [_,_,_] .z (.a (.a (.a Â ak) (.m 4 È)) (.m 4 ã)) (.a (.a (.a (.a Â Ĵ) (.m 4 ã)) ŷ) (.m 4 È)) rfl)]at ca;rw[show d+2+4*a.ĭ+84+4*b.ĭ=d+86+4*a.ĭ+4*b.ĭ by exact cQ (ä [_,_,_] .z (.a (.a (.a (.a Â Ĵ) (.m 4 È)) ŷ) (.m 4 ã)) (.a (.a (.a Â ak) (.m 4 È)) (.m 4 ã)) rfl) (ä [_,_,_] .z (.a (.a (.a Â ak) (.m 4 È)) (.m 4 ã)) (.a (.a (.a (.a Â Ĵ) (.m 4 È)) ŷ) (.m 4 ã)) rfl)]at cb;show Ev Ê _ (⟨H,[],[]⟩,.val (.bool (Ĉ tr a&&Ĉ tr b)));generalize Ĉ tr a=x at ca ⊢;generalize Ĉ tr b=y at cb ⊢;rw[show d+84+4*(Tr.an a b).ĭ=(d+86+4*a.ĭ+4*b.ĭ)+2 by show d+84+4*(a.ĭ+b.ĭ+1)=_;exact cQ (ä [_,_,_] .z (.a (.a Â ŷ) (.m 4 (.a (.a È ã) Á))) (.a (.a (.a (.a Â ak) (.m 4 È)) (.m 4 ã)) Ĵ) rfl) (ä [_,_,_] .z (.a (.a (.a (.a Â ak) (.m 4 È)) (.m 4 ã)) Ĵ) (.a (.a Â ŷ) (.m 4 (.a (.a È ã) Á))) rfl)];obtain⟨ka,ra,ea,na⟩:=x_ a ho.1;have hb:=ī b;show Ev Ê (.call _ 56 [.tup [.str [97,110,100],Î a,Î b],.g9 [SV,CV]] H) _;generalize Î b=tb at cb hb ⊢;rw[ea]at ca ⊢;have cr:=JC (d:=d+83+4*a.ĭ+4*b.ĭ) (H:=H) (ra:=ra) (na ho.3) hb;rw[show d+83+4*a.ĭ+4*b.ĭ+4=d+86+4*a.ĭ+4*b.ĭ+1 by exact cQ (ä [_,_,_] .z (.a (.a (.a (.a Â (.n 83)) (.m 4 È)) (.m 4 ã)) dM) (.a (.a (.a (.a Â ak) (.m 4 È)) (.m 4 ã)) Á) rfl) (ä [_,_,_] .z (.a (.a (.a (.a Â ak) (.m 4 È)) (.m 4 ã)) Á) (.a (.a (.a (.a Â (.n 83)) (.m 4 È)) (.m 4 ã)) dM) rfl)]at cr
  induction x using ñ with
  |false=>
   rw[wX];apply É (S:=⟨H,[some (.tup [.str [97,110,100],.tup (.str ka::ra),tb]),some (.g9 [SV,CV]),none,none],[]⟩) rfl rfl
   repeat (first|(apply dp;apply bR)|(apply zD rfl)|walk_at "nz")
  |true=>
   induction y using ñ with
   |false=>
    apply É (S:=⟨H,[some (.tup [.str [97,110,100],.tup (.str ka::ra),tb]),some (.g9 [SV,CV]),none,none],[]⟩) rfl rfl
    repeat (first|(apply dp;apply bR)|(apply zD hb)|(apply mQ rfl)|walk_at "nz")
   |true=>
    apply É (S:=⟨H,[some (.tup [.str [97,110,100],.tup (.str ka::ra),tb]),some (.g9 [SV,CV]),none,none],[]⟩) rfl rfl
    repeat (first|(apply Ò;apply bR)|(apply mQ hb)|(apply mQ rfl)|exact ui|walk_at "nz")
noncomputable def Tr.size:Tr→Nat
 |.leaf _=>1
 |.nt t=>t.size+1
 |.an a b=>a.size+b.size+1
 |.or a b=>a.size+b.size+1
theorem Tr.size_pos(t:Tr):0<t.size:=by induction t using Tr.casesOn<;>simp[Tr.size]
noncomputable def cX:List Tr→Nat
 |[]=>0
 |t::r=>t.size+cX r
theorem qa{P:Č}{H H₁ Ö:List Cell}{ρ á κ ë:List (Option V)}{S:St}{o:PE}{as:List PE}{m:Nat}{l:List V}{x:V}(h1:Ev P (.ev d o S) (⟨H,ρ,κ⟩,.val (.Ó m)))(h2:fields H (.Ó m)=none)(h3:kd 8 (view H (.Ó m))=10)(h4:Ev P (.bY d as ⟨H,ρ,κ⟩) (⟨H₁,á,ë⟩,.vals []))
  (h6:é H₁ m=some (.lst (l++[x])))(h7:small (l++[x])=true)(h9:put H₁ m (.lst l)=Ö):Ev P (.ev d (.me o 8 as) S) (⟨Ö,á,ë⟩,.val x):=
 Hj (r:=l.reverse) h1 h2 h3 h4 h6 h7 (by rw[List.reverse_append];rfl) (by rw[List.reverse_reverse];exact h9)
theorem ne_nil{l:List V}{x:V}:cmp 1 (.lst (l++[x])) (.lst [])=some true:=by induction l using Ū<;>rfl
theorem AX{ks:List Nat}(e2:Ø ks [97,110,100]=false)(e3:Ø ks [111,114]=false):cmp 8 (.str ks) (.tup [.str [97,110,100],.str [111,114]])=some false:=by
 show some (Ø [97,110,100] ks||(Ø [111,114] ks||false))=_;rw[ŏ]at e2 e3 ⊢;rw[ŏ];have q1:¬([97,110,100]:List Nat)=ks:=fun q=>of_decide_eq_false e2 q.symm
 have q2:¬([111,114]:List Nat)=ks:=fun q=>of_decide_eq_false e3 q.symm
 rw[decide_eq_false q1,decide_eq_false q2];rfl
theorem nR:∀ts:List Tr,ts.length≤cX ts
 |[]=>Ų _
 |t::r=>by
  have:=t.size_pos;have:=nR r;simp only[cX,Ă];omega
theorem bt{u:V}:∀(n:Nat) (ts:List Tr) (X:List Cell) (fd:List V) (x:Option V),cX ts≤n→(∀t∈ts,t.ok)→fd.length+n<1000→cX ts<1000→T2 fun X' x'=>
  Ev Ê (.pH (d+2) (.cm Ë [1] [.li []]) [.as (.n false 3) (.me Ë 8 []),.if (.cm (.ix à ç) [0] [.c (.str [110,111,116])]) [.ex (.me Ë 7 [.ix à Ì])] [.if (.cm (.ix à ç) [8] [.tu [.c (.str [97,110,100]),.c (.str [111,114])]]) [.ex (.me Ë 9 [.li [.ix à Ÿ,.ix à Ì]])] [.ex (.me Ã 7 [.l 3])]]] ⟨.lst fd::.lst (ts.reverse.map Î)::X,[some u,some (.Ó 0),some (.Ó 1),x],[]⟩)
   (⟨.lst (fd++(ts.flatMap Tr.Ā).map Û)::.lst []::X',[some u,some (.Ó 0),some (.Ó 1),x'],[]⟩,.next)
 |n,[],X,fd,x,_,_,_,_=>by
  refine⟨X++[.lst []],x,?_⟩;rw[List.flatMap_nil,fK,Ŵ];show Ev Ê _ (⟨(.lst fd::.lst []::X)++[.lst []],_,_⟩,.next);apply Iz;walk_at "w"
 |0,t::ts,X,fd,x,h,_,_,_=>by
  have:=t.size_pos;simp only[cX]at h;omega
 |n+1,t::ts,X,fd,x,h,ho,hl,hz=>by
  have V7:=nR ts;have o_:cX (t::ts)=t.size+cX ts:=rfl;have sY:=t.size_pos;rw[aq,dS];show T2 fun X' x'=>Ev Ê (.pH _ _ _ ⟨.lst fd::.lst (ts.reverse.map Î++[Î t])::X,_,_⟩) _
  have dX:cmp 1 (aw (.lst (ts.reverse.map Î++[Î t]))) (.lst [])=some true:=ne_nil (l:=ts.reverse.map Î) (x:=Î t);have V_:small (ts.reverse.map Î)=true:=ê (by rw[Ė,oH];exact ä [_,_,_,_] (.c (.a È Á) aU (.c Â ã (.c (.a kg ã) È .z))) (.a Â Á) Ù rfl hz V7 (Ņ o_.symm));have zv:small (ts.reverse.map Î++[Î t])=true:=ê (by rw[ċ,Ė,oH,sA];exact ä [_,_,_,_] (.c (.a È Á) aU (.c Â ã (.c (.a kg ã) È .z))) (.a (.a Â Á) Á) Ù rfl hz V7 (Ņ o_.symm));have Wm:small fd=true:=ê (by exact ä [_,_] (.c (.a (.a Â (.a È Á)) Á) aU .z) (.a Â Á) Ù rfl hl)
  induction t using Tr.casesOn with
  |leaf l=>
   obtain⟨ks,u1,e,e1,e2,e3,e4,_⟩:=dQ l (ho _ ŭ);have hc:=AX e2 e3;obtain⟨X',x',ih⟩:=bt (u:=u) n ts (X++[.lst []]) (fd++[Î (.leaf l)]) (some (Î (.leaf l))) (by simp only[Tr.size]at o_;exact ä [_,_,_] (.c ã (.a È Á) (.c (.a Á Â) ã .z)) Â È rfl h (Ņ o_.symm)) (fun q hq=>ho q (ŧ _ hq)) (by rw[ċ,sA];exact ä [_,_] (.c (.a (.a Â (.a È Á)) Á) aU .z) (.a (.a (.a Â Á) È) Á) aU rfl hl) (by exact Ń (î _ _) ‹_›);refine⟨X',x',?_⟩;rw[ĝ]at ih;have ef:(Tr.leaf l::ts).flatMap Tr.Ā=l::ts.flatMap Tr.Ā:=by simp[List.flatMap_cons,Tr.Ā]
   rw[ef,Ō];have e':Î (.leaf l)=.tup (.str ks::u1):=e;rw[e']at ih zv dX ⊢;rw[e];apply xT
   rotate_left 3
   ·exact ih
   rotate_right 3
   repeat (first|apply qa|walk_at "nz")
  |nt t=>
   obtain⟨X',x',ih⟩:=bt (u:=u) n (t::ts) (X++[.lst []]) fd (some (Î (.nt t))) (by simp only[cX,Tr.size]at h ⊢;exact ä [_,_,_] (.c (.a (.a Â Á) È) (.a ã Á) .z) (.a Â È) ã rfl h) (fun q hq=>by
     rcases Ą.mp hq with rfl|hq
     ·exact ho (.nt q) ŭ
     ·exact ho _ (ŧ _ hq)) (by exact aV ‹_›) (by simp only[cX,Tr.size]at hz ⊢;exact ä [_,_] (.c (.a (.a (.a Â Á) È) Á) aU .z) (.a (.a Â È) Á) aU rfl hz)
   refine⟨X',x',?_⟩;rw[aq,dS]at ih;have na:=ī t;have ef:(t::ts).flatMap Tr.Ā=(Tr.nt t::ts).flatMap Tr.Ā:=by simp[List.flatMap_cons,Tr.Ā]
   rw[ef]at ih;generalize (Tr.nt t::ts).flatMap Tr.Ā=FF at ih ⊢;have e0:Î (.nt t)=.tup [.str [110,111,116],Î t]:=rfl;rw[e0]at ih zv dX ⊢;have ih:Ev Ê (.pH (d+2) (.cm Ë [1] [.li []]) [.as (.n false 3) (.me Ë 8 []),.if (.cm (.ix à ç) [0] [.c (.str [110,111,116])]) [.ex (.me Ë 7 [.ix à Ì])] [.if (.cm (.ix à ç) [8] [.tu [.c (.str [97,110,100]),.c (.str [111,114])]]) [.ex (.me Ë 9 [.li [.ix à Ÿ,.ix à Ì]])] [.ex (.me Ã 7 [.l 3])]]] ⟨.lst fd::.lst (ts.reverse.map Î++[Î t])::(X++[.lst []]),[some u,some (.Ó 0),some (.Ó 1),some (.tup [.str [110,111,116],Î t])],[]⟩) _:=ih;generalize Î t=va at ih na zv dX ⊢;apply xT
   rotate_left 3
   ·exact ih
   rotate_right 3
   repeat (first|with_reducible exact ő na _|apply qa|walk_at "nz")
  |an a b=>
   have hc:=(show cmp 8 (.str [97,110,100]) (.tup [.str [97,110,100],.str [111,114]])=some true from rfl);obtain⟨X',x',ih⟩:=bt (u:=u) n (a::b::ts) (X++[.lst []]++[.Ô (.lst [Î b,Î a])]) fd (some (Î (.an a b))) (by simp only[cX,Tr.size]at h ⊢;exact ä [_,_,_,_] (.c (.a (.a (.a Â È) Á) ã) (.a kg Á) .z) (.a Â (.a È ã)) kg rfl h) (fun q hq=>by
     rcases Ą.mp hq with rfl|hq
     ·exact(ho _ ŭ).1
     ·rcases Ą.mp hq with rfl|hq
      ·exact(ho _ ŭ).2
      ·exact ho _ (ŧ _ hq)) (by exact aV ‹_›) (by simp only[cX,Tr.size]at hz ⊢;exact ä [_,_,_] (.c (.a (.a (.a (.a Â È) Á) ã) Á) aU .z) (.a (.a Â (.a È ã)) Á) aU rfl hz)
   refine⟨X',x',?_⟩;rw[aq,aq,dS,dS,ĝ]at ih;have na:=ī a;have nb:=ī b;have ef:(a::b::ts).flatMap Tr.Ā=(Tr.an a b::ts).flatMap Tr.Ā:=by simp[List.flatMap_cons,Tr.Ā]
   rw[ef]at ih;have HC:(small (ts.reverse.map Î)&&small [Î b,Î a])=true:=by rw[V_];rfl
   generalize (Tr.an a b::ts).flatMap Tr.Ā=FF at ih ⊢;have e0:Î (.an a b)=.tup [.str [97,110,100],Î a,Î b]:=rfl;rw[e0]at ih zv dX ⊢;have ih:Ev Ê (.pH (d+2) (.cm Ë [1] [.li []]) [.as (.n false 3) (.me Ë 8 []),.if (.cm (.ix à ç) [0] [.c (.str [110,111,116])]) [.ex (.me Ë 7 [.ix à Ì])] [.if (.cm (.ix à ç) [8] [.tu [.c (.str [97,110,100]),.c (.str [111,114])]]) [.ex (.me Ë 9 [.li [.ix à Ÿ,.ix à Ì]])] [.ex (.me Ã 7 [.l 3])]]] ⟨.lst fd::.lst (ts.reverse.map Î++[Î b,Î a])::(X++[.lst []]++[.Ô (.lst [Î b,Î a])]),[some u,some (.Ó 0),some (.Ó 1),some (.tup [.str [97,110,100],Î a,Î b])],[]⟩) _:=ih;generalize Î a=va at ih na zv HC dX ⊢;generalize Î b=vb at ih nb zv HC dX ⊢;have Gb:[vb,va].all Ð=true:=by simp only[gH,na,nb];rfl
   apply xT
   rotate_left 3
   ·exact ih
   rotate_right 3
   repeat (first|with_reducible exact eI Gb|apply qa|walk_at "nz")
  |or a b=>
   have hc:=(show cmp 8 (.str [111,114]) (.tup [.str [97,110,100],.str [111,114]])=some true from rfl);obtain⟨X',x',ih⟩:=bt (u:=u) n (a::b::ts) (X++[.lst []]++[.Ô (.lst [Î b,Î a])]) fd (some (Î (.or a b))) (by simp only[cX,Tr.size]at h ⊢;exact ä [_,_,_,_] (.c (.a (.a (.a Â È) Á) ã) (.a kg Á) .z) (.a Â (.a È ã)) kg rfl h) (fun q hq=>by
     rcases Ą.mp hq with rfl|hq
     ·exact(ho _ ŭ).1
     ·rcases Ą.mp hq with rfl|hq
      ·exact(ho _ ŭ).2
      ·exact ho _ (ŧ _ hq)) (by exact aV ‹_›) (by simp only[cX,Tr.size]at hz ⊢;exact ä [_,_,_] (.c (.a (.a (.a (.a Â È) Á) ã) Á) aU .z) (.a (.a Â (.a È ã)) Á) aU rfl hz)
   refine⟨X',x',?_⟩;rw[aq,aq,dS,dS,ĝ]at ih;have na:=ī a;have nb:=ī b;have ef:(a::b::ts).flatMap Tr.Ā=(Tr.or a b::ts).flatMap Tr.Ā:=by simp[List.flatMap_cons,Tr.Ā]
   rw[ef]at ih;have HC:(small (ts.reverse.map Î)&&small [Î b,Î a])=true:=by rw[V_];rfl
   generalize (Tr.or a b::ts).flatMap Tr.Ā=FF at ih ⊢;have e0:Î (.or a b)=.tup [.str [111,114],Î a,Î b]:=rfl;rw[e0]at ih zv dX ⊢;have ih:Ev Ê (.pH (d+2) (.cm Ë [1] [.li []]) [.as (.n false 3) (.me Ë 8 []),.if (.cm (.ix à ç) [0] [.c (.str [110,111,116])]) [.ex (.me Ë 7 [.ix à Ì])] [.if (.cm (.ix à ç) [8] [.tu [.c (.str [97,110,100]),.c (.str [111,114])]]) [.ex (.me Ë 9 [.li [.ix à Ÿ,.ix à Ì]])] [.ex (.me Ã 7 [.l 3])]]] ⟨.lst fd::.lst (ts.reverse.map Î++[Î b,Î a])::(X++[.lst []]++[.Ô (.lst [Î b,Î a])]),[some u,some (.Ó 0),some (.Ó 1),some (.tup [.str [111,114],Î a,Î b])],[]⟩) _:=ih;generalize Î a=va at ih na zv HC dX ⊢;generalize Î b=vb at ih nb zv HC dX ⊢;have Gb:[vb,va].all Ð=true:=by simp only[gH,na,nb];rfl
   apply xT
   rotate_left 3
   ·exact ih
   rotate_right 3
   repeat (first|with_reducible exact eI Gb|apply qa|walk_at "nz")
theorem ao:∀t:Tr,t.Ā.length≤t.size
 |.leaf l=>Ų _
 |.nt t=>Nat.le_succ_of_le (ao t)
 |.an a b=>by have:=ao a;have:=ao b;simp only[Tr.Ā,Tr.size,ċ];omega
 |.or a b=>by have:=ao a;have:=ao b;simp only[Tr.Ā,Tr.size,ċ];omega
theorem ai:∀t:Tr,t.ok→∀l∈t.Ā,l.ok
 |.leaf l,h,x,hx=>by rw[ė.mp hx];exact h
 |.nt t,h,x,hx=>ai t h x hx
 |.an a b,h,x,hx=>(sz.mp hx).elim (ai a h.1 x) (ai b h.2 x)
 |.or a b,h,x,hx=>(sz.mp hx).elim (ai a h.1 x) (ai b h.2 x)
theorem Ő:∀t:Tr,t.Ā.any Ś.reads=t.reads
 |.leaf l=>by simp[Tr.Ā,Tr.reads]
 |.nt t=>Ő t
 |.an a b=>by simp only[Tr.Ā,Tr.reads,List.any_append,Ő a,Ő b]
 |.or a b=>by simp only[Tr.Ā,Tr.reads,List.any_append,Ő a,Ő b]
theorem yE{t:Tr}(ho:t.ok)(hz:t.size<500):Ev Ê (.call (d+4) 54 [Î t] []) (⟨[],[],[]⟩,.val (.lst (t.Ā.map Û))):=by
 obtain⟨X',x',lp⟩:=bt (d:=d) (u:=Î t) t.size [t] [] [] none (Ų _) (fun q hq=>by rw[ė.mp hq];exact ho) (by simp;exact ă ‹_› (by decide)) (by show t.size+0<_;exact ă ‹_› (by decide));rw[jF,List.flatMap_singleton]at lp;have e1:ē ([]++[Cell.lst []]) [Î t]=some ([]++[Cell.lst []],[Î t]):=eI (by simp only[gH,ī];rfl);apply É (S:=⟨[],[some (Î t),none,none,none],[]⟩) rfl rfl;walk_at "w"
def Ś.kind(l:Ś):List Nat:=match Û l with
 |.tup (.str ks::_)=>ks
 |_=>[]
theorem oW(l:Ś)(ho:l.ok):T2 fun r b=>A4 (Û l=.tup (.str l.kind::r)) (cmp 8 (.str l.kind) (.tup [.str cw,.str aS,.str ŗ])=some b) (slice (.str l.kind) none (some (.int 4)) none=some (.str (l.kind.take 4))) (l.reads=(b||Ø (l.kind.take 4) Ť)):=by
 obtain⟨ks,r,e,_,_,_,_,b,h1,h2,h3⟩:=dQ l ho;have:l.kind=ks:=by unfold Ś.kind;rw[e]
 rw[this];exact⟨r,b,e,h1,h2,h3⟩
theorem yH(ls:List Ś)(acc:List V)(x:Option V)(ho:(∀l∈ls,l.ok))(hl:acc.length+ls.length<1000000):∃x',Ev Ê (.fh d (.ix Ã ç) [1] [] (ls.map Û) acc ⟨H,[none,x],[]⟩) (⟨H,[none,x'],[]⟩,.vals (acc.reverse++ls.map fun l=>.str l.kind)):=by
 induction ls generalizing acc x with
 |nil=>
  exact⟨x,by rw[fK,fK,Ŵ];exact i9⟩
 |cons l ls IH=>
  obtain⟨r,b,e,h1,h2,h3⟩:=oW l (ho l ŭ);rw[Ă]at hl;obtain⟨x',ih⟩:=IH (.str l.kind::acc) (some (Û l)) (fun q hq=>ho q (ŧ _ hq)) (by rw[Ă];exact ä [_,_] (.c (.a (.a Â (.a È Á)) Á) Ù .z) (.a (.a (.a Â Á) È) Á) Ù rfl hl);refine⟨x',?_⟩;rw[aq,ĝ]at ih;rw[Ō,Ō];rw[e]at ih ⊢;apply kh
  ·exact ê (by exact Ń (ź _ _) ‹_›)
  ·exact gW rfl
  ·exact gO
  ·walk_at "w"
  ·rfl
  ·exact ih
theorem yp(ls:List Ś)(acc:List V)(x:Option V)(ho:(∀l∈ls,l.ok))(hl:acc.length+ls.length<1000000):∃x',Ev Ê (.fh d Ã [1] [.bo false [.cm Ã [8] [.tu [.c (.str cw),.c (.str aS),.c (.str ŗ)]],.cm (.sl Ã none (some hU) none) [0] [.c (.str Ť)]]] (ls.map fun l=>.str l.kind) acc ⟨H,[none,x],[]⟩) (⟨H,[none,x'],[]⟩,.vals (acc.reverse++(ls.filter Ś.reads).map fun l=>.str l.kind)):=by
 induction ls generalizing acc x with
 |nil=>
  exact⟨x,by simp only[List.filter_nil,fK,Ŵ];exact i9⟩
 |cons l ls IH=>
  obtain⟨r,b,e,h1,h2,h3⟩:=oW l (ho l ŭ);rw[Ă]at hl
  induction hb:l.reads using ñ with
  |true=>
   obtain⟨x',ih⟩:=IH (.str l.kind::acc) (some (.str l.kind)) (fun q hq=>ho q (ŧ _ hq)) (by rw[Ă];exact ä [_,_] (.c (.a (.a Â (.a È Á)) Á) Ù .z) (.a (.a (.a Â Á) È) Á) Ù rfl hl);refine⟨x',?_⟩;rw[aq,ĝ]at ih;rw[sD hb,Ō,Ō];rw[hb]at h3
   induction b using ñ with
   |true=>
    apply r6
    ·exact ê (by exact Ń (ź _ _) ‹_›)
    ·exact gW rfl
    rotate_left 4
    ·exact ih
    rotate_right 4
    walk_at "w"
   |false=>
    have h4:Ø (l.kind.take 4) Ť=true:=h3.symm;apply r6
    ·exact ê (by exact Ń (ź _ _) ‹_›)
    ·exact gW rfl
    rotate_left 4
    ·exact ih
    rotate_right 4
    walk_at "w"
  |false=>
   obtain⟨x',ih⟩:=IH acc (some (.str l.kind)) (fun q hq=>ho q (ŧ _ hq)) (by exact aV ‹_›);refine⟨x',?_⟩;rw[sC (by rw[hb];decide),Ō];rw[hb]at h3
   induction b using ñ with
   |true=>cases h3
   |false=>
    have h4:Ø (l.kind.take 4) Ť=false:=h3.symm;apply J1
    ·exact ê (by exact Ń (ź _ _) ‹_›)
    ·exact gW rfl
    rotate_left 2
    ·exact ih
    rotate_right 2
    walk_at "w"
theorem A0:∀ls:List Ś,cmp 1 (.lst ((ls.filter Ś.reads).map fun l=>.str l.kind)) (.lst [])=some (ls.any Ś.reads)
 |[]=>rfl
 |l::ls=>by
  induction h:l.reads using ñ with
  |true=>
   rw[sD h,ij,h,oK];rfl
  |false=>
   rw[sC (by rw[h];decide),ij,h,jJ];exact A0 ls
theorem AZ{t:Tr}(ho:t.ok)(hz:t.size<500):Ev Ê (.call (d+8) 55 [Î t] []) (⟨[],[],[]⟩,.val (.bool t.reads)):=by
 have Wi:=ao t;have Wh:=ai t ho;have c:=yE (d:=d+3) ho hz;obtain⟨x1,k1⟩:=yH (d:=d+6) (H:=[]) t.Ā [] none Wh (by simp;exact ä [_,_] (.c (.a È Á) (.n 500) (.c Â È .z)) (.a Â Á) Ù rfl hz Wi);obtain⟨x2,k2⟩:=yp (d:=d+6) (H:=[.Ô (.lst (t.Ā.map fun l=>.str l.kind))]) t.Ā [] none Wh (by simp;exact ä [_,_] (.c (.a È Á) (.n 500) (.c Â È .z)) (.a Â Á) Ù rfl hz Wi);have dX:=A0 t.Ā;rw[Ő]at dX;apply É (S:=⟨[],[some (Î t),none],[]⟩) rfl rfl;walk_at "w"
theorem vK{P:Č}{v:V}{n:Nat}{ρ κ ë:List (Option V)}{w:Option V}(h:put κ n (some v)=ë)(h2:é κ n=some w):DR P d (.n true n) v ⟨H,ρ,κ⟩ ⟨H,ρ,ë⟩:=gW (VR h2 (h▸rfl))
structure Ent where
 L:V
 uid:Nat
 k:Nat
 pt:V
 tr:Ś→Bool
noncomputable def cU(e:Ent):V:=.ins 6 [(46,e.L),(32,.int e.k),(47,e.pt)]
def Ent.ok(e:Ent):Prop:=(∃lt,e.L=.ins 0 ((13,.int e.uid)::lt))∧e.tr .all=true
noncomputable def kj(es:List Ent):V:=match es.getLast? with
 |some e=>.tup [.int e.k,.int e.uid]
 |none=>.tup [.int 0,.int 0]
theorem fO(l:List V)(i:Int):item (.lst l) (.int i)=if Ć i then at_ l i else none:=rfl
theorem item_last{l:List V}{x:V}:item (.lst (l++[x])) (.int (-1))=some x:=by
 have h1:Ć (-1)=true:=rfl;have h2:at_ (l++[x]) (-1)=some x:=by
  unfold at_;rw[if_pos (show Ī (-1) 0=true from rfl),if_neg]
  ·rw[show((-1:Int)+((l++[x]).length:Nat)).toNat=l.length by rw[ċ,sA];omega];exact Ĕ l x
  ·unfold Ī;rw[decide_eq_true_eq,ċ,sA];omega
 rw[fO,if_pos h1];exact h2
theorem vF(es:List Ent)(ho:∀e∈es,e.ok):Ev Ê (.call (d+3) 75 [.Ó 0] [.lst (es.map cU)]) (⟨[.lst (es.map cU)],[],[]⟩,.val (kj es)):=by
 rcases List.eq_nil_or_concat es with rfl|⟨l,e,rfl⟩
 ·apply É (S:=⟨[.lst []],[some (.Ó 0)],[]⟩) rfl rfl;walk_at "w"
 ·rw[List.concat_eq_append]at ho ⊢;obtain⟨⟨lt,e1⟩,_⟩:=ho e (by simp);have hx:kj (l++[e])=.tup [.int e.k,.int e.uid]:=by unfold kj;simp
  rw[hx,dS];show Ev Ê (.call _ 75 [.Ó 0] [.lst (l.map cU++[.ins 6 [(46,e.L),(32,.int e.k),(47,e.pt)]])]) (⟨[.lst (l.map cU++[.ins 6 [(46,e.L),(32,.int e.k),(47,e.pt)]])],_,_⟩,_);rw[e1];have h1:cmp 1 (aw (.lst (l.map cU++[.ins 6 [(46,.ins 0 ((13,.int e.uid)::lt)),(32,.int e.k),(47,e.pt)]]))) (.lst [])=some true:=ne_nil (l:=l.map cU) (x:=.ins 6 [(46,.ins 0 ((13,.int e.uid)::lt)),(32,.int e.k),(47,e.pt)]);have h2:=item_last (l:=l.map cU) (x:=.ins 6 [(46,.ins 0 ((13,.int e.uid)::lt)),(32,.int e.k),(47,e.pt)]);generalize l.map cU=lv at h1 h2 ⊢;apply É (S:=⟨[.lst (lv++[.ins 6 [(46,.ins 0 ((13,.int e.uid)::lt)),(32,.int e.k),(47,e.pt)]])],[some (.Ó 0)],[]⟩) rfl rfl
  repeat (first|exact h2|walk_at "nz")
theorem lL{SV CV:V}{tr:Ś→Bool}(s_:tr .all=true)(hs:Ð SV=true)(hc:Ð CV=true){t:Tr}(ho:t.ok)(NU:∀l∈t.Ā,l≠.all→∀d H,Ev Ê (.call (d+81) 73 [Û l,SV,CV] H) (⟨H,[],[]⟩,.val (.bool (tr l)))):
  Ev Ê (.call (d+85+4*t.ĭ) 74 [Î t,SV,CV] H) (⟨H,[],[]⟩,.val (.bool (Ĉ tr t))):=by
 have c:=jo s_ t d H ho NU;have hz:ē H [SV,CV]=some (H,[SV,CV]):=eI (by simp only[gH,hs,hc];rfl);rw[show d+85+4*t.ĭ=(d+84+4*t.ĭ)+1 by exact wY _ _];apply É (S:=⟨H,[some (Î t)],[some SV,some CV]⟩) rfl rfl;walk_at "w"
theorem P8(es:List Ent):Ð (kj es)=true:=by unfold kj;split<;>rfl
theorem Jb{t:Tr}{CV:V}{D:Nat}(es:List Ent)(acc:List V)(x:Option V)(hm:(∀e∈es,Ev Ê (.call D 74 [Î t,cU e,CV] H) (⟨H,[],[]⟩,.val (.bool (Ĉ e.tr t)))))(hl:acc.length+es.length<1000000):∃x',
  Ev Ê (.fh D (.at Ã 32) [1] [.fn 74 [.k 0,.l 1,.k 1]] (es.map cU) acc ⟨H,[none,x],[some (Î t),some CV]⟩) (⟨H,[none,x'],[some (Î t),some CV]⟩,.vals (acc.reverse++(es.filter fun e=>Ĉ e.tr t).map fun e=>.int e.k)):=by
 induction es generalizing acc x with
 |nil=>
  exact⟨x,by simp only[List.filter_nil,fK,Ŵ];exact i9⟩
 |cons e es IH=>
  have c:=hm e ŭ;rw[Ă]at hl
  induction hb:Ĉ e.tr t using ñ with
  |true=>
   obtain⟨x',ih⟩:=IH (.int e.k::acc) (some (cU e)) (fun q hq=>hm q (ŧ _ hq)) (by rw[Ă];exact ä [_,_] (.c (.a (.a Â (.a È Á)) Á) Ù .z) (.a (.a (.a Â Á) È) Á) Ù rfl hl);refine⟨x',?_⟩;rw[aq,ĝ]at ih;rw[sD (p:=fun e:Ent=>Ĉ e.tr t) hb,Ō];rw[hb]at c;apply r6
   ·exact ê (by exact Ń (ź _ _) ‹_›)
   ·exact gW rfl
   rotate_left 4
   ·exact ih
   rotate_right 4
   walk_at "w"
  |false=>
   obtain⟨x',ih⟩:=IH acc (some (cU e)) (fun q hq=>hm q (ŧ _ hq)) (by exact aV ‹_›);refine⟨x',?_⟩;rw[sC (p:=fun e:Ent=>Ĉ e.tr t) (by rw[hb];decide),Ō];rw[hb]at c;apply J1
   ·exact ê (by exact Ń (ź _ _) ‹_›)
   ·exact gW rfl
   rotate_left 2
   ·exact ih
   rotate_right 2
   walk_at "w"
theorem EM{t:Tr}{D:Nat}(es:List Ent)(ho:∀e∈es,e.ok)(hD:90≤D)(hl:es.length<1000)(hm:∀e∈es,∀H,Ev Ê (.call D 74 [Î t,cU e,kj es] H) (⟨H,[],[]⟩,.val (.bool (Ĉ e.tr t)))):
  Ev Ê (.call (D+2) 76 [Î t,.Ó 0] [.lst (es.map cU)]) (⟨[.Ô (.lst (es.map cU))],[],[]⟩,.val (.lst ((es.filter fun e=>Ĉ e.tr t).map fun e=>.int e.k))):=by
 obtain⟨D',rfl⟩:∃D',D=D'+3:=⟨D - 3,by omega⟩;have c:=vF (d:=D'+1) es ho;obtain⟨x',k⟩:=Jb (H:=[.Ô (.lst (es.map cU))]) (CV:=kj es) es [] none (fun e he=>hm e he _) (by simp;exact ă ‹_› (by decide));rw[oE,jF]at k;apply É (S:=⟨[.lst (es.map cU)],[some (.Ó 0)],[some (Î t),none]⟩) rfl rfl
 repeat (first|apply vK|walk_at "nz")
theorem pU{a b:Cell}:(H++[a]).take (H++[b]).length=H++[a]:=by
 rw[ċ,sA];exact sG (by simp)
theorem gh{c:Nat}{l:List (Nat×V)}:Ô (H++[.ins c l]) (.Ó H.length)=some (H++[.Ô (.ins c l)],.ins c l):=by simp only[Ô,Ĕ,ky,bN,bu,fb,aw]
theorem oY{L pt:V}{k:Nat}(hL:Ð L=true)(hp:Ð pt=true):Ev Ê (.call (d+1) 109 [.Ó H.length,L,.int k,pt] (H++[.ins 6 []])) (⟨H++[.ins 6 [(46,L),(32,.int k),(47,pt)]],[],[]⟩,.val .none):=by
 have e1:=ő hL (H++[.ins 6 []]);have e2:=ő hp (H++[.ins 6 [(46,L),(32,.int k)]]);apply eD (S:=⟨H++[.ins 6 []],[some (.Ó H.length),some L,some (.int k),some pt],[]⟩) rfl rfl
 ·apply Ò
  ·apply ũ
   ·exact aQ rfl
   ·exact dA (aQ rfl) e1 (Ĕ _ _) rfl rfl ļ
  apply Ò
  ·apply ũ
   ·exact aQ rfl
   ·exact dA (aQ rfl) rfl (Ĕ _ _) rfl rfl ļ
  apply Ò
  ·apply ũ
   ·exact aQ rfl
   ·exact dA (aQ rfl) e2 (Ĕ _ _) rfl rfl ļ
  exact gp
 ·exact pU
theorem wo{L:V}{k:Nat}(hL:Ð L=true):Ev Ê (.call (d+4) 77 [L,.int k,.bool false] H) (⟨H,[],[]⟩,.val (.ins 6 [(46,L),(32,.int k),(47,.none)])):=by
 have c:=oY (d:=d+1) (H:=H) (k:=k) hL (pt:=.none) rfl;have hz:=gh (H:=H) (c:=6) (l:=[(46,L),(32,.int k),(47,.none)]);apply É (S:=⟨H,[some L,some (.int k),some (.bool false)],[]⟩) rfl rfl;walk_at "w"
theorem M7{n s b:Nat}(hn:n<6)(hs:s<4)(hb:b<4):Ev Ê (.call (d+81) 49 [.bytes (txt n s b)] H) (⟨H,[],[]⟩,.val (ġ n s b)):=
 use2 (J0 (d:=19) (H:=[]) hn hs hb) rfl rfl rfl
theorem z8{p:LP}(hp:p.Ok){k:Nat}:Ev Ê (.call (d+84) 77 [Ý p,.int k,.bool true] H) (⟨H,[],[]⟩,.val (.ins 6 [(46,Ý p),(32,.int k),(47,ġ p.n p.s p.b)])):=by
 have c:=oY (d:=d+81) (H:=H) (k:=k) (L:=Ý p) (pt:=ġ p.n p.s p.b) rfl rfl;have c2:=M7 (d:=d+2) (H:=H) hp.n hp.s hp.b;have hz:=gh (H:=H) (c:=6) (l:=[(46,Ý p),(32,.int k),(47,ġ p.n p.s p.b)]);apply É (S:=⟨H,[some (Ý p),some (.int k),some (.bool true)],[]⟩) rfl rfl;walk_at "w"
noncomputable def Idx:Nat→List Ent→Prop
 |_,[]=>True
 |n,e::es=>e.k=n+1∧Idx (n+1) es
theorem Ji{D:Nat}{r:Bool}{u w:V}(es:List Ent)(n:Nat)(acc:List V)(x:Option V)(y:Option V)(z:Option V)(hi:Idx n es)(hs:(∀e∈es,Ev Ê (.call D 77 [e.L,.int e.k,.bool r] H) (⟨H,[],[]⟩,.val (cU e))))(hc:(∀e∈es,Ð e.L=true))(hl:acc.length+es.length<1000000):T3 fun x' y' z'=>
  Ev Ê (.fh D (.fn 77 [.l 2,.bi 0 Ã Ì,.k 0]) [1,2] [] (bA n (es.map fun e=>e.L)) acc ⟨H,[x,y,z],[some (.bool r)]⟩) (⟨H,[x',y',z'],[some (.bool r)]⟩,.vals (acc.reverse++es.map cU)):=by
 induction es generalizing n acc x y z with
 |nil=>
  exact⟨x,y,z,by simp only[fK,Ŵ];exact i9⟩
 |cons e es IH=>
  have c:=hs e ŭ;rw[Ă]at hl;obtain⟨x',y',z',ih⟩:=IH (n+1) (cU e::acc) x (some (.int n)) (some e.L) hi.2 (fun q hq=>hs q (ŧ _ hq)) (fun q hq=>hc q (ŧ _ hq)) (by rw[Ă];exact ä [_,_] (.c (.a (.a Â (.a È Á)) Á) Ù .z) (.a (.a (.a Â Á) È) Á) Ù rfl hl);refine⟨x',y',z',?_⟩;rw[aq,ĝ]at ih;have ek:(e.k:Int)=(n:Int)+1:=by rw[hi.1];rfl
  rw[ek]at c;rw[Ō,Ō];show Ev Ê (.fh D _ _ _ (.tup [.int n,e.L]::bA (n+1) (es.map fun e=>e.L)) _ _) _;apply kh
  ·exact ê (by exact Ń (ź _ _) ‹_›)
  ·walk_at "w"
  ·exact gO
  ·walk_at "w"
  ·rfl
  ·exact ih
theorem nV{t:Tr}(ho:t.ok)(hz:t.size<500){D:Nat}(hD:100≤D)(es:List Ent)(hi:Idx 0 es)(he:∀e∈es,e.ok)(hl:es.length<1000)(hs:∀e∈es,∀H,Ev Ê (.call (D+1) 77 [e.L,.int e.k,.bool t.reads] H) (⟨H,[],[]⟩,.val (cU e)))
  (hm:∀e∈es,∀H,Ev Ê (.call D 74 [Î t,cU e,kj es] H) (⟨H,[],[]⟩,.val (.bool (Ĉ e.tr t)))):
  Ev Ê (.call (D+3) 78 [Î t,.lst (es.map fun e=>e.L)] []) (⟨[],[],[]⟩,.val (.lst ((es.filter fun e=>Ĉ e.tr t).map fun e=>.int e.k))):=by
 obtain⟨D',rfl⟩:∃D',D=D'+8:=⟨D - 8,by omega⟩;have c1:=AZ (d:=D'+2) ho hz;have hc:∀e∈es,Ð e.L=true:=fun e h=>by obtain⟨⟨lt,q⟩,_⟩:=he e h;rw[q];rfl
 obtain⟨x',y',z',c2⟩:=Ji (D:=D'+8+1) (H:=[]) (r:=t.reads) (u:=.none) (w:=.none) es 0 [] none none none hi (fun e h=>hs e h []) hc (by simp;exact ă ‹_› (by decide));have c3:=EM (t:=t) (D:=D'+8) es he (by exact Ń (î _ _) ‹_›) hl (fun e h H=>hm e h H);rw[oE,jF]at c2;apply É (S:=⟨[],[some (Î t),some (.lst (es.map fun e=>e.L))],[none]⟩) rfl rfl
 repeat (first|apply vK|walk_at "nz")
theorem Ej{j:Nat}{vs:List V}{v:V}{st:St}(h:Ev Ê (.call 120 j vs []) (st,.val v))(hS:true=true)(hv:vs.all Ð=true)(hn:Ð v=true):Ev Ê (.call (d+121) j vs H) (⟨H,[],[]⟩,.val v):=IC (ă (by decide) (î _ d)) h hv hn
noncomputable def bZ(f:Nat→LP→Bool):Nat→List LP→List V
 |_,[]=>[]
 |n,p::r=>match f (n+1) p with
  |true=>.int (n+1:Nat)::bZ f (n+1) r
  |false=>bZ f (n+1) r
noncomputable def jm(o pt:LP→V)(f:Nat→LP→Ś→Bool):Nat→List LP→List Ent
 |_,[]=>[]
 |n,p::r=>⟨ģ p (o p),p.uid,n+1,pt p,f (n+1) p⟩::jm o pt f (n+1) r
section
variable{o pt:LP→V}{f:Nat→LP→Ś→Bool}
theorem xt(ps:List LP)(n:Nat):Idx n (jm o pt f n ps):=by
 induction ps generalizing n with
 |nil=>
  exact trivial
 |cons _ r IH=>
  exact⟨rfl,IH (n+1)⟩
theorem HU(ps:List LP)(n:Nat):(jm o pt f n ps).map (fun e=>e.L)=ps.map fun p=>ģ p (o p):=by
 induction ps generalizing n with
 |nil=>
  exact rfl
 |cons _ r IH=>
  exact congrArg (_:: ·) (IH (n+1))
theorem xr(ps:List LP)(n:Nat):(jm o pt f n ps).length=ps.length:=by
 induction ps generalizing n with
 |nil=>
  exact rfl
 |cons _ r IH=>
  exact congrArg (· +1) (IH (n+1))
theorem eJ:∀(ps:List LP) (n:Nat),∀e∈jm o pt f n ps,∃p∈ps,∃k,e=⟨ģ p (o p),p.uid,k,pt p,f k p⟩
 |[],_,e,h=>by cases h
 |p::r,n,e,h=>by
  rcases Ą.mp h with rfl|h
  ·exact⟨p,ŭ,n+1,rfl⟩
  ·obtain⟨q,hq,k,he⟩:=eJ r (n+1) e h;exact⟨q,ŧ _ hq,k,he⟩
theorem xu{t:Tr}(ps:List LP)(n:Nat):((jm o pt f n ps).filter fun e=>Ĉ e.tr t).map (fun e=>V.int e.k)=bZ (fun k p=>Ĉ (f k p) t) n ps:=by
 induction ps generalizing n with
 |nil=>
  exact rfl
 |cons p r IH=>
  have ih:=IH (n+1);show((_::jm o pt f (n+1) r).filter fun e=>Ĉ e.tr t).map _=match Ĉ (f (n+1) p) t with
   |true=>_
   |false=>_
  induction h:Ĉ (f (n+1) p) t using ñ with
  |true=>rw[sD (p:=fun e:Ent=>Ĉ e.tr t) h,Ō,ih]
  |false=>rw[sC (p:=fun e:Ent=>Ĉ e.tr t) (by rw[h];decide),ih]
noncomputable def cA:List LP→Nat
 |[]=>0
 |[p]=>p.uid
 |_::p::r=>cA (p::r)
theorem qK:∀(ps:List LP) (n:Nat),ps≠[]→kj (jm o pt f n ps)=.tup [.int (n+ps.length:Nat),.int (cA ps)]
 |[],_,h=>absurd rfl h
 |[p],n,_=>rfl
 |p::q::r,n,_=>by
  have ih:=qK (q::r) (n+1) (by simp);have e:kj (jm o pt f n (p::q::r))=kj (jm o pt f (n+1) (q::r)):=by
   unfold kj;show(match(_::_::jm o pt f (n+1+1) r).getLast? with|some (e:Ent)=>V.tup [.int e.k,.int e.uid]|none=>.tup [.int 0,.int 0])=_;rw[List.getLast?_cons_cons];rfl
  rw[e,ih];have h2:n+1+(q::r).length=n+(p::q::r).length:=by simp only[Ă];exact wY _ _
  rw[h2];rfl
end
theorem jb:∀(ps:List LP),ps≠[]→(∀p∈ps,p.uid≠0)→cA ps≠0
 |[],h,_=>absurd rfl h
 |[p],_,h=>h p ŭ
 |_::p::r,_,h=>jb (p::r) (by simp) fun q hq=>h q (ŧ _ hq)
theorem ym{t:Tr}(ho:t.ok)(hz:t.size<500)(hh:t.ĭ≤5)(ps:List LP)(hp:∀p∈ps,p.Ok∧p.uid≠0)(hl:ps.length<900):
  Ev Ê (.call 120 78 [Î t,.lst (ps.map Ý)] []) (⟨[],[],[]⟩,.val (.lst (bZ (fun k p=>ď p k ps.length (cA ps) t) 0 ps))):=by
 have BK:=Ő t;have h:=nV (D:=117) ho hz (by exact î _ _) (jm (fun p=>.bytes (txt p.n p.s p.b)) (fun p=>if t.reads then ġ p.n p.s p.b else .none) (fun k p=>ÿ p k ps.length (cA ps)) 0 ps) (xt ps 0) ?_ (by rw[xr];exact ă ‹_› (by decide)) ?_ ?_
 ·rw[HU,xu]at h;exact h
 ·intro e he;obtain⟨p,mP,k,rfl⟩:=eJ ps 0 e he;exact⟨⟨_,rfl⟩,rfl⟩
 ·intro e he H;obtain⟨p,mP,k,rfl⟩:=eJ ps 0 e he;have:=(hp p mP).1
  induction hr:t.reads using ñ with
  |true=>
   have c:=z8 (d:=34) (H:=H) this (k:=k);exact c
  |false=>
   have c:=wo (d:=114) (H:=H) (L:=Ý p) (k:=k) rfl;exact c
 ·intro e he H;obtain⟨p,mP,k,rfl⟩:=eJ ps 0 e he;have dX:ps≠[]:=fun q=>by rw[q]at mP;cases mP
  rw[qK ps 0 dX,ki];obtain⟨d',hd⟩:∃d',117=d'+85+4*t.ĭ:=⟨32 - 4*t.ĭ,by omega⟩;rw[hd];refine lL (tr:=ÿ p k ps.length (cA ps)) rfl rfl rfl ho fun l HF hn d H=>?_;have ZQ:l.reads=true→t.reads=true:=fun q=>by
   rw[←BK,List.any_eq_true];exact⟨l,HF,q⟩
  exact Nf (d:=d) (H:=H) (hp p mP).1 (k:=k) (by induction ps using Ū<;>simp_all) (jb ps dX fun p h=>(hp p h).2) (r:=t.reads) l (ai t ho l HF) ZQ hn
noncomputable def plainT:Tr:=.or (.leaf (.flag 3)) (.leaf (.uid [(2,0)]))
theorem yn(ps:List LP)(hp:∀p∈ps,p.Ok∧p.uid≠0)(hl:ps.length<900):
  Ev Ê (.call 120 78 [Î plainT,.lst (ps.map fun p=>ģ p .none)] []) (⟨[],[],[]⟩,.val (.lst (bZ (fun k p=>ď p k ps.length (cA ps) plainT) 0 ps))):=by
 have ho:plainT.ok:=⟨by show 3<4;exact Ų _,trivial⟩;have h:=nV (D:=117) ho (by decide) (by exact î _ _) (jm (fun p=>.none) (fun p=>.none) (fun k p=>ÿ p k ps.length (cA ps)) 0 ps) (xt ps 0) ?_ (by rw[xr];exact ă ‹_› (by decide)) ?_ ?_
 ·rw[HU,xu]at h;exact h
 ·intro e he;obtain⟨p,mP,k,rfl⟩:=eJ ps 0 e he;exact⟨⟨_,rfl⟩,rfl⟩
 ·intro e he H;obtain⟨p,mP,k,rfl⟩:=eJ ps 0 e he;exact wo (d:=114) (H:=H) (L:=ģ p .none) (k:=k) rfl
 ·intro e he H;obtain⟨p,mP,k,rfl⟩:=eJ ps 0 e he;have dX:ps≠[]:=fun q=>by rw[q]at mP;cases mP
  rw[qK ps 0 dX,ki];refine lL (d:=28) (tr:=ÿ p k ps.length (cA ps)) (t:=plainT) rfl rfl rfl ho fun l HF hn d H=>?_;have hc:ps.length≠0:=by induction ps using Ū<;>simp_all
  have NV:=jb ps dX fun p h=>(hp p h).2
  have ZS:l=.flag 3∨l=.uid [(2,0)]:=by
   have:l∈[Ś.flag 3,Ś.uid [(2,0)]]:=HF
   simpa using this
  rcases ZS with rfl|rfl
  ·exact use2 (vf (d:=8) (H:=[]) (o:=.none) (k:=k) (by exact Ų _)) rfl rfl rfl
  ·exact use2 (yF (d:=8) (H:=[]) (o:=.none) (k:=k) hc NV _) rfl rfl rfl
theorem M9{p:LP}(hp:p.Ok){k count last:Nat}{t:Tr}(ho:t.ok)(hh:t.ĭ≤5):Ev Ê (.call (d+121) 90 [Î t,Ķ p,.int k,.int count,.int last] H) (⟨H,[],[]⟩,.val (.bool (ď p k count last t))):=by
 obtain⟨d',hd⟩:∃d',120=d'+84+4*t.ĭ:=⟨36 - 4*t.ĭ,by omega⟩;have:=i8 hp (k:=k) (count:=count) (last:=last) t d' [] ho;rw[←hd]at this;exact Ej this rfl (by simp only[gH,ī];rfl) rfl
end
structure bI where
 cs:List Int
 g:Int
 st:Int
 pl:Int
structure bI.Ok(p:bI)(B:Int):Prop where
 g:0≤p.g
 s0:0≤p.st
 s1:p.st<2147483647
 p0:0≤p.pl
 p1:p.pl≤B
 l:p.cs.length≤40
theorem bI.Ok.up{p:bI}{B C:Int}(h:p.Ok B)(hl:B≤C):p.Ok C:=⟨h.g,h.s0,h.s1,h.p0,oV h.p1 hl,h.l⟩
noncomputable def ð(p:bI):List V:=[.lst (p.cs.map .int),.int p.g,.int p.st,.int p.pl]
theorem ta{n:Nat}{a b v:V}(h:bin n a b=some v):bin n a b=some v:=h
theorem eL{x y:Int}(h:(Ī 0 y&&Ī y j_)=true):bin 4 (.int x) (.int y)=some (.int (x % y)):=if_pos h
theorem qP{x y:Int}(h:(Ī 0 y&&Ī y j_)=true):bin 3 (.int x) (.int y)=some (.int (x / y)):=if_pos h
theorem Uy(a b:V):bin 2 a b=(pI a b).bind fun p=>if Ī p.1.natAbs big&&Ī p.2.natAbs big then some (V.int (p.1*p.2))else none:=rfl
theorem JO(x y:Int):pI (.int x) (.int y)=some (x,y):=rfl
theorem kP{x y:Int}(h:(Ī x.natAbs big&&Ī y.natAbs big)=true):bin 2 (.int x) (.int y)=some (.int (x*y)):=by
 rw[Uy,JO,bu,if_pos h]
theorem Ad:(10:Int)^300≤j_:=by decide+kernel
theorem sb{m:Int}(h0:0<m)(h1:m≤10000000000):(Ī 0 m&&Ī m j_)=true:=by
 rw[ar];have:=Ad;have h2:(10000000000:Int)<(10:Int)^300:=by decide+kernel
 exact⟨decide_eq_true h0,decide_eq_true (by exact Int.lt_of_le_of_lt ‹_› (by decide))⟩
theorem mb{x y:Int}(h0:0≤x)(h1:x<10000000000)(h2:0≤y)(h3:y<10000000000):(Ī x.natAbs big&&Ī y.natAbs big)=true:=by
 rw[ar];unfold Ī big;exact⟨decide_eq_true (by omega),decide_eq_true (by omega)⟩
theorem wc{a b x y a' b':Cell}{T:List Cell}:(a::b::x::T).take (a'::b'::y::T).length=a::b::x::T:=sG (Ų _)
theorem rY{α β}(f:α→β):∀{l:List α} {i:Nat} {x:α},é l i=some x→é (l.map f) i=some (f x)
 |_::_,0,_,h=>by cases h;rfl
 |_::r,i+1,_,h=>rY f (l:=r) h
theorem F1{cs:List Int}{k:Int}{c:Int}(h0:0≤k)(h1:k<1000)(h:é cs k.toNat=some c):item (.lst (cs.map .int)) (.int k)=some (.int c):=by
 have e1:Ć k=true:=by
  unfold Ć Ī;rw[ar];exact⟨decide_eq_true (by exact wZ ‹_› (by decide)),decide_eq_true (by omega)⟩
 rw[fO,if_pos e1];unfold at_;rw[if_neg (by unfold Ī;rw[decide_eq_true_eq];exact bO.mpr ‹_›)];exact rY _ h
theorem rW{α}:∀{l:List α} {k:Nat},k<l.length→∃c,é l k=some c
 |_::_,0,_=>⟨_,rfl⟩
 |_::r,k+1,h=>rW (l:=r) (Bj h)
theorem ü{p:bI}{B:Int}(hp:p.Ok B)(hB:B<1000000){m:Nat}(h0:0<m)(h1:m≤100):∃(r:Nat) (p':bI),A3 (r<m) (p'.Ok (B+1)) (∀(d:Nat) (a b:Cell) (T:List Cell),Ev Ê (.call (d+2) 80 [.Ó 2,.int m] (a::b::.lst (ð p)::T)) (⟨a::b::.lst (ð p')::T,[],[]⟩,.val (.int r))):=by
 obtain⟨cs,g,st,pl⟩:=p;obtain⟨q1,q2,q3,q4,q5,q6⟩:=hp;dsimp only at q1 q2 q3 q4 q5 q6;have hm:=sb (m:=m) (by exact í [_] (.c (.a Ē Á) Â .z) (.a Ē Á) Â rfl (bw.mpr h0)) (by exact í [_] (.c Â bM .z) Â (.n 10000000000) rfl (vh.mpr h1));have hr:∀x:Int,((x % m).toNat:Int)=x % m∧(x % m).toNat<m:=fun x=>by
  have a1:=Int.emod_nonneg x (show(m:Int)≠0 by exact fun eG=>sk [_] (.c (.a Ē Á) Â (.c Â Ē .z)) rfl (bw.mpr h0) (Int.le_of_eq eG));have a2:=Int.emod_lt_of_pos x (show(0:Int)<m by exact í [_] (.c (.a Ē Á) Â .z) (.a Ē Á) Â rfl (bw.mpr h0));constructor<;>omega
 have h5:gc 0 pl=true:=decide_eq_true q4
 induction hg:Ī 0 g using ñ with
 |true=>
  refine⟨(g % m).toNat,⟨cs,g / m,st,pl+1⟩,(hr g).2,⟨Int.ediv_nonneg q1 (by exact jG _),q2,q3,by show 0≤pl+1;exact í [_] (.c Ē Â .z) Ē (.a Â Á) rfl q4,by show pl+1≤B+1;exact í [_,_] (.c Â È .z) (.a Â Á) (.a È Á) rfl q5,q6⟩,fun d a b T=>?_⟩;rw[(hr g).1];apply É (S:=⟨a::b::.lst (ð ⟨cs,g,st,pl⟩)::T,[some (.Ó 2),some (.int m),none,none],[]⟩) rfl rfl
  repeat (first|((with_reducible apply ta);first|with_reducible exact eL hm|with_reducible exact qP hm)|walk_at "nz")
 |false=>
  have m1:=kP (mb q2 (by exact wZ ‹_› (by decide)) (show(0:Int)≤16807 by decide) (by decide));have m2:=kP (mb q4 (by exact í [_,_] (.c (.a È Á) Ù (.c Â È .z)) (.a Â Á) (.n 10000000000) rfl hB q5) q4 (by exact í [_,_] (.c (.a È Á) Ù (.c Â È .z)) (.a Â Á) (.n 10000000000) rfl hB q5));have m3:=sb (m:=2147483647) (by decide) (by decide);have m4:=sb (m:=5) (by decide) (by decide);have hl:=bV (l:=cs.map V.int) (by rw[Ė];exact Ń ‹_› (by decide));rw[Ė]at hl;have s1:=Int.emod_nonneg (st*16807+pl*pl+5) (show(2147483647:Int)≠0 by decide);have s2:=Int.emod_lt_of_pos (st*16807+pl*pl+5) (show(0:Int)<2147483647 by decide);generalize cK:(st*16807+pl*pl+5) % 2147483647=Ċ at s1 s2
  induction hc:Ī pl cs.length using ñ with
  |true=>
   have F_:pl<cs.length:=of_decide_eq_true hc;obtain⟨c,hn⟩:=rW (show pl.toNat<cs.length by omega);have hi:=F1 q4 (by exact í [_,_] (.c È (.n 40) (.c (.a Â Á) È .z)) (.a Â Á) aU rfl (vh.mpr q6) F_) hn;refine⟨(c % m).toNat,⟨cs,g,Ċ,pl+1⟩,(hr c).2,⟨q1,s1,s2,by show 0≤pl+1;exact í [_] (.c Ē Â .z) Ē (.a Â Á) rfl q4,by show pl+1≤B+1;exact í [_,_] (.c Â È .z) (.a Â Á) (.a È Á) rfl q5,q6⟩,fun d a b T=>?_⟩;rw[(hr c).1,←cK];apply É (S:=⟨a::b::.lst (ð ⟨cs,g,st,pl⟩)::T,[some (.Ó 2),some (.int m),none,none],[]⟩) rfl rfl
   repeat (first|((with_reducible apply ta);first|with_reducible exact eL hm|with_reducible exact eL m3|with_reducible exact m1|with_reducible exact m2)|walk_at "nz")
  |false=>
   refine⟨(Ċ / 5 % m).toNat,⟨cs,g,Ċ,pl+1⟩,(hr _).2,⟨q1,s1,s2,by show 0≤pl+1;exact í [_] (.c Ē Â .z) Ē (.a Â Á) rfl q4,by show pl+1≤B+1;exact í [_,_] (.c Â È .z) (.a Â Á) (.a È Á) rfl q5,q6⟩,fun d a b T=>?_⟩;rw[(hr _).1,←cK];apply É (S:=⟨a::b::.lst (ð ⟨cs,g,st,pl⟩)::T,[some (.Ó 2),some (.int m),none,none],[]⟩) rfl rfl
   repeat (first|((with_reducible apply ta);first|with_reducible exact eL hm|with_reducible exact eL m3|with_reducible exact qP m4|with_reducible exact m1|with_reducible exact m2)|walk_at "nz")
section
variable{P:Č}{d:Nat}{S:St}{a b x y z a' b' x':Cell}{T T' X:List Cell}{ρ κ á ë:List (Option V)}{es:List PE}{vs vs' l:List V}
theorem VZ(h1:Ev P (.bY d es S) (⟨a::b::x::T,ρ,κ⟩,.vals vs))(h2:ē (a::b::x::T) vs=some (a'::b'::x'::T',vs'))(h3:small vs'=true):Ev P (.ev d (.li es) S) (⟨a'::b'::x'::(T'++[.lst vs']),ρ,κ⟩,.val (.Ó (T'.length+3))):=i7 h1 h2 h3
theorem Fg:é (a::b::x::(T++[y])) (T.length+3)=some y:=Ĕ T y
theorem put3:put (a::b::x::(T++[y])) (T.length+3) z=a::b::x::(T++[z]):=by
 show a::b::x::put (T++[y]) T.length z=_;rw[ky]
theorem Gj:Ô (a::b::x::(T++[.lst l])) (.Ó (T.length+3))=some (a::b::x::(T++[.Ô (.lst l)]),.lst l):=by
 simp only[Ô,Fg,put3,bN,bu,fb,aw]
theorem HR:ē (a::b::x::(T++[.lst l])) [.Ó (T.length+3)]=some (a::b::x::(T++[.Ô (.lst l)]),[.lst l]):=by simp only[ē,Gj,bN,bu,fb,aw]
theorem v8:view (a::b::x::(T++[.lst l])) (.Ó (T.length+3))=some (.lst l):=by simp only[view,Fg,bN,bu,fb,aw]
theorem xp:fields (a::b::x::(T++[.lst l])) (.Ó (T.length+3))=none:=by unfold fields;rw[v8];rfl
theorem Nu:kd 7 (view (a::b::x::(T++[.lst l])) (.Ó (T.length+3)))=9:=by rw[v8];rfl
theorem take3:(a::b::x::(T++X)).take (a'::b'::x'::T).length=a::b::x::T:=by
 show a::b::x::(T++X).take T.length=_;rw[List.take_left]
end
theorem z6{p:bI}{B:Int}(hp:p.Ok B)(hB:B+10<1000000){m:Nat}(hm:m≤50):∃(ps:List (Nat×Nat)) (p':bI),p'.Ok (B+5)∧
  ∀(d:Nat) (a b:Cell) (T:List Cell),Ev Ê (.call (d+5) 83 [.Ó 2,.int m] (a::b::.lst (ð p)::T)) (⟨a::b::.lst (ð p')::T,[],[]⟩,.val (k_ ps)):=by
 obtain⟨r0,p0,h0,o0,c0⟩:=ü hp (by exact í [_] (.c (.a (.a Â lD) Á) Ù .z) (.a Â Á) Ù rfl hB) (m:=2) (by exact Ĭ _) (by exact î _ _);obtain⟨r1,p1,h1,o1,c1⟩:=ü o0 (by exact í [_] (.c (.a (.a Â lD) Á) Ù .z) (.a (.a Â Á) Á) Ù rfl hB) (m:=m+2) (by exact Ĭ _) (by exact ä [_] (.c Â br .z) (.a Â Ĵ) bM rfl hm);obtain⟨r2,p2,h2,o2,c2⟩:=ü o1 (by exact í [_] (.c (.a (.a Â lD) Á) Ù .z) (.a (.a (.a Â Á) Á) Á) Ù rfl hB) (m:=m+2) (by exact Ĭ _) (by exact ä [_] (.c Â br .z) (.a Â Ĵ) bM rfl hm);obtain⟨r3,p3,h3,o3,c3⟩:=ü o2 (by exact í [_] (.c (.a (.a Â lD) Á) Ù .z) (.a (.a (.a (.a Â Á) Á) Á) Á) Ù rfl hB) (m:=m+2) (by exact Ĭ _) (by exact ä [_] (.c Â br .z) (.a Â Ĵ) bM rfl hm);obtain⟨r4,p4,h4,o4,c4⟩:=ü o3 (by exact í [_] (.c (.a (.a Â lD) Á) Ù .z) (.a (.a (.a (.a (.a Â Á) Á) Á) Á) Á) Ù rfl hB) (m:=m+2) (by exact Ĭ _) (by exact ä [_] (.c Â br .z) (.a Â Ĵ) bM rfl hm);have e2:((m+2:Nat):Int)=(m:Int)+2:=rfl;rw[e2]at c1 c2 c3 c4
 match r0,h0 with
 |0,_=>
  refine⟨[(r1,r2)],p2,o2.up (by exact í [_] .z (.a (.a (.a Â Á) Á) Á) (.a Â jB) rfl),fun d a b T=>?_⟩;replace c0:=fun d=>c0 d a b (T++[.lst []])
  replace c1:=fun d=>c1 d a b (T++[.lst []])
  replace c2:=fun d=>c2 d a b (T++[.lst []])
  apply É (S:=⟨a::b::.lst (ð p)::T,[some (.Ó 2),some (.int m),none,none],[]⟩) rfl rfl
  repeat (first|apply VZ|apply mQ|exact ui|apply bR|(apply Ò;apply bR)|apply Ŏ|walk_at "nz")
 |1,_=>
  refine⟨[(r1,r2),(r3,r4)],p4,o4.up (by exact í [_] .z (.a (.a (.a (.a (.a Â Á) Á) Á) Á) Á) (.a Â jB) rfl),fun d a b T=>?_⟩;replace c0:=fun d=>c0 d a b (T++[.lst []])
  replace c1:=fun d=>c1 d a b (T++[.lst []])
  replace c2:=fun d=>c2 d a b (T++[.lst []])
  replace c3:=fun d=>c3 d a b (T++[.lst [.tup [.int r1,.int r2]]])
  replace c4:=fun d=>c4 d a b (T++[.lst [.tup [.int r1,.int r2]]])
  apply É (S:=⟨a::b::.lst (ð p)::T,[some (.Ó 2),some (.int m),none,none],[]⟩) rfl rfl
  repeat (first|apply VZ|apply mQ|exact ui|apply bR|(apply Ò;apply bR)|apply Ŏ|walk_at "nz")
 |r+2,h=>exact absurd h (by exact Ŧ (î _ _))
end
section
set_option maxRecDepth 100000
set_option maxHeartbeats 1000000
theorem Gq{r:Nat}(h:r<4):item (.tup [.str rP,.str rR,.str rO,.str [107,119]]) (.int r)=some (.str (Æ Œ r)):=by
 match r,h with
 |0,_=>rfl
 |1,_=>rfl
 |2,_=>rfl
 |3,_=>rfl
 |r+4,h=>exact absurd h (by exact Ŧ (î _ _))
theorem fT{r:Nat}(h:r<4):item (.tup [.tup [.tup [.int 1969,.int 12,.int 31],.int (-1)],.tup [.tup [.int 1994,.int 2,.int 1],.int 8797],.tup [.tup [.int 1994,.int 2,.int 2],.int 8798],.tup [.tup [.int 2000,.int 2,.int 29],.int 11016]]) (.int r)=some (.tup [å r,.int (GA r)]):=by
 match r,h with
 |0,_=>rfl
 |1,_=>rfl
 |2,_=>rfl
 |3,_=>rfl
 |r+4,h=>exact absurd h (by exact Ŧ (î _ _))
theorem uS{r:Nat}(h:r<8):item (.tup [.bytes [84,69,65],.bytes [110,111,111,110],.bytes lA,.bytes Aw,.bytes [],.bytes Ay,.bytes [101],.bytes [122,122]]) (.int r)=some (.bytes (Æ ö r)):=by
 match r,h with
 |0,_=>rfl
 |1,_=>rfl
 |2,_=>rfl
 |3,_=>rfl
 |4,_=>rfl
 |5,_=>rfl
 |6,_=>rfl
 |7,_=>rfl
 |r+8,h=>exact absurd h (by exact Ŧ (î _ _))
theorem ą{H:List Cell}{w:List Nat}{i:Nat}(h:i<4):ē H [.str w,å i]=some (H,[.str w,å i]):=by
 obtain⟨x,y,z,e⟩:=ŝ h;rw[e];rfl
theorem lP{p:bI}{B:Int}(hp:p.Ok B)(hB:B+20<1000000):∃(l:Ś) (p':bI),A3 l.ok (p'.Ok (B+7)) (∀(d:Nat) (a b:Cell) (T:List Cell),Ev Ê (.call (d+9) 85 [.Ó 2] (a::b::.lst (ð p)::T)) (⟨a::b::.lst (ð p')::T,[],[]⟩,.val (Û l))):=by
 obtain⟨r0,p0,h0,o0,c0⟩:=ü hp (by exact í [_] (.c (.a (.a Â ť) Á) Ù .z) (.a Â Á) Ù rfl hB) (m:=16) (by exact Ĭ _) (by exact î _ _)
 match r0,h0 with
 |0,_=>
  obtain⟨r1,p1,h1,o1,c1⟩:=ü o0 (by exact í [_] (.c (.a (.a Â ť) Á) Ù .z) (.a (.a Â Á) Á) Ù rfl hB) (m:=4) (by exact Ĭ _) (by exact î _ _);refine⟨.flag r1,p1,h1,o1.up (by exact í [_] .z (.a (.a Â Á) Á) (.a Â ĵ) rfl),fun d a b T=>?_⟩;have q1:=Gq h1;apply É (S:=⟨a::b::.lst (ð p)::T,[some (.Ó 2),none,none],[]⟩) rfl rfl
  repeat (first|with_reducible exact ą h1|walk_at "nz")
 |1,_=>
  obtain⟨r1,p1,h1,o1,c1⟩:=ü o0 (by exact í [_] (.c (.a (.a Â ť) Á) Ù .z) (.a (.a Â Á) Á) Ù rfl hB) (m:=50) (by exact Ĭ _) (by exact î _ _);refine⟨.aJ (20+r1),p1,trivial,o1.up (by exact í [_] .z (.a (.a Â Á) Á) (.a Â ĵ) rfl),fun d a b T=>?_⟩;apply É (S:=⟨a::b::.lst (ð p)::T,[some (.Ó 2),none,none],[]⟩) rfl rfl
  repeat (first|with_reducible exact ą h1|walk_at "nz")
 |2,_=>
  obtain⟨r1,p1,h1,o1,c1⟩:=ü o0 (by exact í [_] (.c (.a (.a Â ť) Á) Ù .z) (.a (.a Â Á) Á) Ù rfl hB) (m:=50) (by exact Ĭ _) (by exact î _ _);refine⟨.Ţ (20+r1),p1,trivial,o1.up (by exact í [_] .z (.a (.a Â Á) Á) (.a Â ĵ) rfl),fun d a b T=>?_⟩;apply É (S:=⟨a::b::.lst (ð p)::T,[some (.Ó 2),none,none],[]⟩) rfl rfl
  repeat (first|with_reducible exact ą h1|walk_at "nz")
 |3,_=>
  obtain⟨r1,p1,h1,o1,c1⟩:=ü o0 (by exact í [_] (.c (.a (.a Â ť) Á) Ù .z) (.a (.a Â Á) Á) Ù rfl hB) (m:=10) (by exact Ĭ _) (by exact î _ _);refine⟨.aH r1,p1,trivial,o1.up (by exact í [_] .z (.a (.a Â Á) Á) (.a Â ĵ) rfl),fun d a b T=>?_⟩;apply É (S:=⟨a::b::.lst (ð p)::T,[some (.Ó 2),none,none],[]⟩) rfl rfl
  repeat (first|with_reducible exact ą h1|walk_at "nz")
 |4,_=>
  obtain⟨ps,p1,o1,c1⟩:=z6 o0 (by exact í [_] (.c (.a (.a Â ť) Á) Ù .z) (.a (.a (.a Â Á) lD) Á) Ù rfl hB) (m:=5) (by exact î _ _);refine⟨.seq ps,p1,trivial,o1.up (by exact í [_] .z (.a (.a Â Á) jB) (.a Â ĵ) rfl),fun d a b T=>?_⟩;apply É (S:=⟨a::b::.lst (ð p)::T,[some (.Ó 2),none,none],[]⟩) rfl rfl
  repeat (first|with_reducible exact ą h1|walk_at "nz")
 |5,_=>
  obtain⟨ps,p1,o1,c1⟩:=z6 o0 (by exact í [_] (.c (.a (.a Â ť) Á) Ù .z) (.a (.a (.a Â Á) lD) Á) Ù rfl hB) (m:=14) (by exact î _ _);refine⟨.uid ps,p1,trivial,o1.up (by exact í [_] .z (.a (.a Â Á) jB) (.a Â ĵ) rfl),fun d a b T=>?_⟩;apply É (S:=⟨a::b::.lst (ð p)::T,[some (.Ó 2),none,none],[]⟩) rfl rfl
  repeat (first|with_reducible exact ą h1|walk_at "nz")
 |6,_=>
  obtain⟨r1,p1,h1,o1,c1⟩:=ü o0 (by exact í [_] (.c (.a (.a Â ť) Á) Ù .z) (.a (.a Â Á) Á) Ù rfl hB) (m:=4) (by exact Ĭ _) (by exact î _ _);refine⟨.day 0 r1,p1,⟨by exact Ĭ _,h1⟩,o1.up (by exact í [_] .z (.a (.a Â Á) Á) (.a Â ĵ) rfl),fun d a b T=>?_⟩;have q1:=fT h1;apply É (S:=⟨a::b::.lst (ð p)::T,[some (.Ó 2),none,none],[]⟩) rfl rfl
  repeat (first|with_reducible exact ą h1|walk_at "nz")
 |7,_=>
  obtain⟨r1,p1,h1,o1,c1⟩:=ü o0 (by exact í [_] (.c (.a (.a Â ť) Á) Ù .z) (.a (.a Â Á) Á) Ù rfl hB) (m:=4) (by exact Ĭ _) (by exact î _ _);refine⟨.day 1 r1,p1,⟨by exact Nat.le_succ _,h1⟩,o1.up (by exact í [_] .z (.a (.a Â Á) Á) (.a Â ĵ) rfl),fun d a b T=>?_⟩;have q1:=fT h1;apply É (S:=⟨a::b::.lst (ð p)::T,[some (.Ó 2),none,none],[]⟩) rfl rfl
  repeat (first|with_reducible exact ą h1|walk_at "nz")
 |8,_=>
  obtain⟨r1,p1,h1,o1,c1⟩:=ü o0 (by exact í [_] (.c (.a (.a Â ť) Á) Ù .z) (.a (.a Â Á) Á) Ù rfl hB) (m:=4) (by exact Ĭ _) (by exact î _ _);refine⟨.day 2 r1,p1,⟨by exact Ų _,h1⟩,o1.up (by exact í [_] .z (.a (.a Â Á) Á) (.a Â ĵ) rfl),fun d a b T=>?_⟩;have q1:=fT h1;apply É (S:=⟨a::b::.lst (ð p)::T,[some (.Ó 2),none,none],[]⟩) rfl rfl
  repeat (first|with_reducible exact ą h1|walk_at "nz")
 |9,_=>
  obtain⟨r1,p1,h1,o1,c1⟩:=ü o0 (by exact í [_] (.c (.a (.a Â ť) Á) Ù .z) (.a (.a Â Á) Á) Ù rfl hB) (m:=4) (by exact Ĭ _) (by exact î _ _);refine⟨.gP 0 r1,p1,⟨by exact Ĭ _,h1⟩,o1.up (by exact í [_] .z (.a (.a Â Á) Á) (.a Â ĵ) rfl),fun d a b T=>?_⟩;have q1:=fT h1;apply É (S:=⟨a::b::.lst (ð p)::T,[some (.Ó 2),none,none],[]⟩) rfl rfl
  repeat (first|with_reducible exact ą h1|walk_at "nz")
 |10,_=>
  obtain⟨r1,p1,h1,o1,c1⟩:=ü o0 (by exact í [_] (.c (.a (.a Â ť) Á) Ù .z) (.a (.a Â Á) Á) Ù rfl hB) (m:=4) (by exact Ĭ _) (by exact î _ _);refine⟨.gP 1 r1,p1,⟨by exact Nat.le_succ _,h1⟩,o1.up (by exact í [_] .z (.a (.a Â Á) Á) (.a Â ĵ) rfl),fun d a b T=>?_⟩;have q1:=fT h1;apply É (S:=⟨a::b::.lst (ð p)::T,[some (.Ó 2),none,none],[]⟩) rfl rfl
  repeat (first|with_reducible exact ą h1|walk_at "nz")
 |11,_=>
  obtain⟨r1,p1,h1,o1,c1⟩:=ü o0 (by exact í [_] (.c (.a (.a Â ť) Á) Ù .z) (.a (.a Â Á) Á) Ù rfl hB) (m:=4) (by exact Ĭ _) (by exact î _ _);refine⟨.gP 2 r1,p1,⟨by exact Ų _,h1⟩,o1.up (by exact í [_] .z (.a (.a Â Á) Á) (.a Â ĵ) rfl),fun d a b T=>?_⟩;have q1:=fT h1;apply É (S:=⟨a::b::.lst (ð p)::T,[some (.Ó 2),none,none],[]⟩) rfl rfl
  repeat (first|with_reducible exact ą h1|walk_at "nz")
 |12,_=>
  obtain⟨r1,p1,h1,o1,c1⟩:=ü o0 (by exact í [_] (.c (.a (.a Â ť) Á) Ù .z) (.a (.a Â Á) Á) Ù rfl hB) (m:=8) (by exact Ĭ _) (by exact î _ _);refine⟨.header r1,p1,h1,o1.up (by exact í [_] .z (.a (.a Â Á) Á) (.a Â ĵ) rfl),fun d a b T=>?_⟩;have q1:=uS h1;apply É (S:=⟨a::b::.lst (ð p)::T,[some (.Ó 2),none,none],[]⟩) rfl rfl
  repeat (first|with_reducible exact ą h1|walk_at "nz")
 |13,_=>
  obtain⟨r1,p1,h1,o1,c1⟩:=ü o0 (by exact í [_] (.c (.a (.a Â ť) Á) Ù .z) (.a (.a Â Á) Á) Ù rfl hB) (m:=8) (by exact Ĭ _) (by exact î _ _);refine⟨.text r1,p1,h1,o1.up (by exact í [_] .z (.a (.a Â Á) Á) (.a Â ĵ) rfl),fun d a b T=>?_⟩;have q1:=uS h1;apply É (S:=⟨a::b::.lst (ð p)::T,[some (.Ó 2),none,none],[]⟩) rfl rfl
  repeat (first|with_reducible exact ą h1|walk_at "nz")
 |14,_=>
  obtain⟨r1,p1,h1,o1,c1⟩:=ü o0 (by exact í [_] (.c (.a (.a Â ť) Á) Ù .z) (.a (.a Â Á) Á) Ù rfl hB) (m:=8) (by exact Ĭ _) (by exact î _ _);refine⟨.body r1,p1,h1,o1.up (by exact í [_] .z (.a (.a Â Á) Á) (.a Â ĵ) rfl),fun d a b T=>?_⟩;have q1:=uS h1;apply É (S:=⟨a::b::.lst (ð p)::T,[some (.Ó 2),none,none],[]⟩) rfl rfl
  repeat (first|with_reducible exact ą h1|walk_at "nz")
 |15,_=>
  refine⟨.all,p0,trivial,o0.up (by exact Int.add_le_add_left (by decide) _),fun d a b T=>?_⟩;apply É (S:=⟨a::b::.lst (ð p)::T,[some (.Ó 2),none,none],[]⟩) rfl rfl
  repeat (first|with_reducible exact ą h1|walk_at "nz")
 |r+16,h=>exact absurd h (by exact Ŧ (î _ _))
end
section
set_option maxRecDepth 100000
set_option maxHeartbeats 4000000
set_option maxHeartbeats 1000000
theorem kB{l:List V}:Ð (.tup l)=true:=rfl
theorem dh{H:List Cell}{w:List Nat}{x:V}(h:Ð x=true):ē H [.str w,x]=some (H,[.str w,x]):=eI (by simp only[gH,h];rfl)
theorem dg{H:List Cell}{w:List Nat}{x y:V}(h:Ð x=true)(h2:Ð y=true):ē H [.str w,x,y]=some (H,[.str w,x,y]):=eI (by simp only[gH,h,h2];rfl)
section
variable{P:Č}{d:Nat}{S:St}{a b x a' b' x' a2 b2 x2:Cell}{T T' T2:List Cell}{ρ κ Ŕ Ĺ:List (Option V)}{elt it:PE}{ifs:List PE}{tg:List Nat}{v v':V}{vs l:List V}{n:Nat}
theorem GI(h1:Ev P (.ev (d+1) it S) (⟨a::b::x::T,ρ,κ⟩,.val v))(h2:Ô (a::b::x::T) v=some (a'::b'::x'::T',v'))(h3:items v'=some l)(h4:Ev P (.fh d elt tg ifs l [] ⟨a'::b'::x'::T',Ħ n none,κ⟩) (⟨a2::b2::x2::T2,Ŕ,Ĺ⟩,.vals vs)):
  Ev P (.ev (d+1) (.co elt tg it ifs n) S) (⟨a2::b2::x2::(T2++[.lst vs]),ρ,Ĺ⟩,.val (.Ó (T2.length+3))):=lq h1 h2 h3 h4
end
theorem zQ{p:bI}{B:Int}(hp:p.Ok B)(hB:B+50<1000000):∃(t:Tr) (p':bI),A3 (A3 t.ok (t.size<500) (t.ĭ≤5)) (p'.Ok (B+25)) (∀(d:Nat) (a b:Cell) (T:List Cell),Ev Ê (.call (d+13) 86 [.Ó 2] (a::b::.lst (ð p)::T)) (⟨a::b::.lst (ð p')::T,[],[]⟩,.val (Î t))):=by
 obtain⟨l1,p1,k1,o1,c1⟩:=lP hp (by exact í [_] (.c (.a (.a Â br) Á) Ù .z) (.a (.a Â ť) Á) Ù rfl hB);obtain⟨l2,p2,k2,o2,c2⟩:=lP o1 (by exact í [_] (.c (.a (.a Â br) Á) Ù .z) (.a (.a (.a Â ĵ) ť) Á) Ù rfl hB);obtain⟨l3,p3,k3,o3,c3⟩:=lP o2 (by exact í [_] (.c (.a (.a Â br) Á) Ù .z) (.a (.a (.a (.a Â ĵ) ĵ) ť) Á) Ù rfl hB);obtain⟨r4,p4,h4,o4,c4⟩:=ü o3 (by exact í [_] (.c (.a (.a Â br) Á) Ù .z) (.a (.a (.a (.a Â ĵ) ĵ) ĵ) Á) Ù rfl hB) (m:=2) (by exact Ĭ _) (by exact î _ _);obtain⟨r5,p5,h5,o5,c5⟩:=ü o4 (by exact í [_] (.c (.a (.a Â br) Á) Ù .z) (.a (.a (.a (.a (.a Â ĵ) ĵ) ĵ) Á) Á) Ù rfl hB) (m:=4) (by exact Ĭ _) (by exact î _ _)
 match r4,h4 with
 |0,_=>
  match r5,h5 with
  |0,_=>
   refine⟨.leaf l1,p5,⟨k1,by simp only[Tr.size];decide,by simp only[Tr.ĭ];decide⟩,o5.up (by exact í [_] .z (.a (.a (.a (.a (.a Â ĵ) ĵ) ĵ) Á) Á) (.a Â jD) rfl),fun d a b T=>?_⟩;apply É (S:=⟨a::b::.lst (ð p)::T,[none,none],[some (.Ó 2)]⟩) rfl rfl
   repeat (first|apply GI|apply kh|exact i9|apply Ŏ|exact ő (Ú _) _|with_reducible exact dh (by first|exact Ú _|exact kB)|with_reducible exact dg (by first|exact Ú _|exact kB) (by first|exact Ú _|exact kB)|walk_at "nz")
  |1,_=>
   refine⟨.an (.leaf l1) (.leaf l2),p5,⟨⟨k1,k2,rfl⟩,by simp only[Tr.size];decide,by simp only[Tr.ĭ];decide⟩,o5.up (by exact í [_] .z (.a (.a (.a (.a (.a Â ĵ) ĵ) ĵ) Á) Á) (.a Â jD) rfl),fun d a b T=>?_⟩;apply É (S:=⟨a::b::.lst (ð p)::T,[none,none],[some (.Ó 2)]⟩) rfl rfl
   repeat (first|apply GI|apply kh|exact i9|apply Ŏ|exact ő (Ú _) _|with_reducible exact dh (by first|exact Ú _|exact kB)|with_reducible exact dg (by first|exact Ú _|exact kB) (by first|exact Ú _|exact kB)|walk_at "nz")
  |2,_=>
   refine⟨.or (.an (.leaf l1) (.leaf l2)) (.leaf l3),p5,⟨⟨⟨k1,k2,rfl⟩,k3⟩,by simp only[Tr.size];decide,by simp only[Tr.ĭ];decide⟩,o5.up (by exact í [_] .z (.a (.a (.a (.a (.a Â ĵ) ĵ) ĵ) Á) Á) (.a Â jD) rfl),fun d a b T=>?_⟩;apply É (S:=⟨a::b::.lst (ð p)::T,[none,none],[some (.Ó 2)]⟩) rfl rfl
   repeat (first|apply GI|apply kh|exact i9|apply Ŏ|exact ő (Ú _) _|with_reducible exact dh (by first|exact Ú _|exact kB)|with_reducible exact dg (by first|exact Ú _|exact kB) (by first|exact Ú _|exact kB)|walk_at "nz")
  |3,_=>
   refine⟨.nt (.or (.leaf l1) (.nt (.leaf l2))),p5,⟨⟨k1,k2⟩,by simp only[Tr.size];decide,by simp only[Tr.ĭ];decide⟩,o5.up (by exact í [_] .z (.a (.a (.a (.a (.a Â ĵ) ĵ) ĵ) Á) Á) (.a Â jD) rfl),fun d a b T=>?_⟩;apply É (S:=⟨a::b::.lst (ð p)::T,[none,none],[some (.Ó 2)]⟩) rfl rfl
   repeat (first|apply GI|apply kh|exact i9|apply Ŏ|exact ő (Ú _) _|with_reducible exact dh (by first|exact Ú _|exact kB)|with_reducible exact dg (by first|exact Ú _|exact kB) (by first|exact Ú _|exact kB)|walk_at "nz")
  |r+4,h=>exact absurd h (by exact Ŧ (î _ _))
 |1,_=>
  match r5,h5 with
  |0,_=>
   refine⟨.nt (.leaf l1),p5,⟨k1,by simp only[Tr.size];decide,by simp only[Tr.ĭ];decide⟩,o5.up (by exact í [_] .z (.a (.a (.a (.a (.a Â ĵ) ĵ) ĵ) Á) Á) (.a Â jD) rfl),fun d a b T=>?_⟩;apply É (S:=⟨a::b::.lst (ð p)::T,[none,none],[some (.Ó 2)]⟩) rfl rfl
   repeat (first|apply GI|apply kh|exact i9|apply Ŏ|exact ő (Ú _) _|with_reducible exact dh (by first|exact Ú _|exact kB)|with_reducible exact dg (by first|exact Ú _|exact kB) (by first|exact Ú _|exact kB)|walk_at "nz")
  |1,_=>
   refine⟨.an (.nt (.leaf l1)) (.leaf l2),p5,⟨⟨k1,k2,rfl⟩,by simp only[Tr.size];decide,by simp only[Tr.ĭ];decide⟩,o5.up (by exact í [_] .z (.a (.a (.a (.a (.a Â ĵ) ĵ) ĵ) Á) Á) (.a Â jD) rfl),fun d a b T=>?_⟩;apply É (S:=⟨a::b::.lst (ð p)::T,[none,none],[some (.Ó 2)]⟩) rfl rfl
   repeat (first|apply GI|apply kh|exact i9|apply Ŏ|exact ő (Ú _) _|with_reducible exact dh (by first|exact Ú _|exact kB)|with_reducible exact dg (by first|exact Ú _|exact kB) (by first|exact Ú _|exact kB)|walk_at "nz")
  |2,_=>
   refine⟨.or (.an (.nt (.leaf l1)) (.leaf l2)) (.leaf l3),p5,⟨⟨⟨k1,k2,rfl⟩,k3⟩,by simp only[Tr.size];decide,by simp only[Tr.ĭ];decide⟩,o5.up (by exact í [_] .z (.a (.a (.a (.a (.a Â ĵ) ĵ) ĵ) Á) Á) (.a Â jD) rfl),fun d a b T=>?_⟩;apply É (S:=⟨a::b::.lst (ð p)::T,[none,none],[some (.Ó 2)]⟩) rfl rfl
   repeat (first|apply GI|apply kh|exact i9|apply Ŏ|exact ő (Ú _) _|with_reducible exact dh (by first|exact Ú _|exact kB)|with_reducible exact dg (by first|exact Ú _|exact kB) (by first|exact Ú _|exact kB)|walk_at "nz")
  |3,_=>
   refine⟨.nt (.or (.nt (.leaf l1)) (.nt (.leaf l2))),p5,⟨⟨k1,k2⟩,by simp only[Tr.size];decide,by simp only[Tr.ĭ];decide⟩,o5.up (by exact í [_] .z (.a (.a (.a (.a (.a Â ĵ) ĵ) ĵ) Á) Á) (.a Â jD) rfl),fun d a b T=>?_⟩;apply É (S:=⟨a::b::.lst (ð p)::T,[none,none],[some (.Ó 2)]⟩) rfl rfl
   repeat (first|apply GI|apply kh|exact i9|apply Ŏ|exact ő (Ú _) _|with_reducible exact dh (by first|exact Ú _|exact kB)|with_reducible exact dg (by first|exact Ú _|exact kB) (by first|exact Ú _|exact kB)|walk_at "nz")
  |r+4,h=>exact absurd h (by exact Ŧ (î _ _))
 |r+2,h=>exact absurd h (by exact Ŧ (î _ _))
end
section
set_option maxRecDepth 100000
set_option maxHeartbeats 4000000
section
variable{d:Nat}{H:List Cell}
theorem uv{l:List Nat}(h:(∀c∈l,c<256)):iX (l.map fun (c:Nat)=>V.int c)=some l:=by
 induction l with
 |nil=>
  exact rfl
 |cons c l IH=>
  have h1:=h c ŭ;have e:(gc 0 (c:Int)&&Ī (c:Int) 256)=true:=by
   rw[ar];exact⟨decide_eq_true (by exact jG _),decide_eq_true (by exact bw.mpr (ik ‹_› (by decide)))⟩
  show(if gc 0 (c:Int)&&Ī (c:Int) 256 then(iX (l.map fun (c:Nat)=>V.int c)).map ((c:Int).toNat:: ·)else none)=_;rw[if_pos e,IH fun x hx=>h x (ŧ _ hx)];rfl
theorem JS{κ:List (Option V)}(l:List Nat)(acc:List V)(x:Option V)(y:Option V)(hl:acc.length+l.length<1000000):T2 fun x' y'=>Ev Ê (.fh d (.bl 3 [.l 1]) [1] [] (l.map fun c=>.str [c]) acc ⟨H,[x,y],κ⟩) (⟨H,[x',y'],κ⟩,.vals (acc.reverse++l.map fun (c:Nat)=>.int c)):=by
 induction l generalizing acc x y with
 |nil=>
  exact⟨x,y,by simp only[fK,Ŵ];exact i9⟩
 |cons c l IH=>
  rw[Ă]at hl;obtain⟨x',y',ih⟩:=IH (.int c::acc) x (some (.str [c])) (by rw[Ă];exact ä [_,_] (.c (.a (.a Â (.a È Á)) Á) Ù .z) (.a (.a (.a Â Á) È) Á) Ù rfl hl);refine⟨x',y',?_⟩;rw[aq,ĝ]at ih;rw[Ō,Ō];apply kh
  ·exact ê (by exact Ń (ź _ _) ‹_›)
  ·walk_at "w"
  ·exact gO
  ·walk_at "w"
  ·rfl
  ·exact ih
theorem yw{l:List Nat}(h:∀c∈l,c<256)(hl:l.length<1000000):Ev Ê (.call (d+4) 81 [.str l] H) (⟨H,[],[]⟩,.val (.bytes l)):=by
 obtain⟨x',y',c⟩:=JS (d:=d+2) (H:=H) (κ:=[]) l [] none none (by rw[cB];exact ä [_] (.c (.a Â Á) Ù .z) (.a (.a Ē Â) Á) Ù rfl hl);have hb:blt 8 [.lst (l.map fun (c:Nat)=>.int c)]=some (.bytes l):=by
  show(if small _ then(iX _).map V.bytes else none)=_;rw[if_pos (ê (by rw[Ė];assumption)),uv h];rfl
 rw[oE,jF]at c;apply É (S:=⟨H,[some (.str l)],[]⟩) rfl rfl;walk_at "w"
theorem Ep:allB (fun n=>allB (fun s=>allB (fun b=>(txt n s b).all (fun c=>Đ c 256)&&Đ (txt n s b).length 1000) 4) 4) 6=true:=by kernel_rfl
theorem zO{n s b:Nat}(hn:n<6)(hs:s<4)(hb:b<4):(∀c∈txt n s b,c<256)∧(txt n s b).length<1000:=by
 have h:=CT (f:=fun n s b=>(txt n s b).all (fun c=>Đ c 256)&&Đ (txt n s b).length 1000) Ep hn hs hb;rw[ar,gG]at h;exact⟨fun c hc=>by rw[←bQ];exact h.1 c hc,by rw[←bQ];exact h.2⟩
theorem bs{x y:List Nat}(hx:x.length<1000000)(hy:y.length<1000000):bin 0 (.str x) (.str y)=some (.str (x++y)):=by
 show(if small x&&small y then some (V.str (x++y))else none)=_;rw[if_pos];rw[ê hx,ê hy];rfl
theorem q_{s:Nat}(h:s<4):(Æ Ç s).length<30:=by
 match s,h with
 |0,_|1,_|2,_|3,_=>decide+kernel
theorem xy{n:Nat}(h:n<6):(Æ æ n).length<60∧cmp 1 (.str (Æ æ n)) (.str [])=some (Đ n 5):=by
 match n,h with
 |0,_|1,_|2,_|3,_|4,_|5,_=>exact⟨by decide+kernel,rfl⟩
theorem GC{n:Nat}(h:n<6):item (.tup [.str AB,.str AE,.str AA,.str AD,.str Az,.str []]) (.int n)=some (.str (Æ æ n)):=by
 match n,h with
 |0,_|1,_|2,_|3,_|4,_|5,_=>rfl
theorem v5{n:Nat}(h:n<4):item (.tup [.str [116,101,97],.str wD,.str lA,.str [120]]) (.int n)=some (.str (Æ Ç n)):=by
 match n,h with
 |0,_|1,_|2,_|3,_=>rfl
theorem Ex{n:Nat}(h:n<3):item (.tup [.int 0,.int 86399,.int 40000]) (.int n)=some (.int (Hh n)):=by
 match n,h with
 |0,_|1,_|2,_=>rfl
theorem Gy{n:Nat}(h:n<4):bin 2 (.int 86400) (.int (GA n))=some (.int (86400*GA n)):=by
 apply kP
 match n,h with
 |0,_|1,_|2,_|3,_=>decide+kernel
noncomputable def ID:PE:=(.bi 0 (.bi 0 (.bi 0 (.bi 0 (.bi 0 (.te (.cm Ë [1] [.c (.str [])]) (.bi 0 (.bi 0 (.c (.str eS)) Ë) wB) fB) (.c (.str bK))) à) (.c (.str fC))) ā) wB)
theorem EB{n s b:Nat}(hn:n<6)(hs:s<4)(hb:b<4){x0 x1:Option V}{ρ κ:List (Option V)}:
  Ev Ê (.ev d ID ⟨H,x0::x1::some (.str (Æ æ n))::some (.str (Æ Ç s))::some (.str (Æ Ç b))::ρ,κ⟩) (⟨H,x0::x1::some (.str (Æ æ n))::some (.str (Æ Ç s))::some (.str (Æ Ç b))::ρ,κ⟩,.val (.str (txt n s b))):=by
 obtain⟨l1,l2⟩:=xy hn;have l3:=q_ hs;have l4:=q_ hb;have e0:=bs (x:=eS) (y:=Æ æ n) (by decide+kernel) (by exact ă ‹_› (by decide))
 induction hq:Đ n 5 using ñ with
 |true=>
  rw[hq]at l2;have e:txt n s b=((((eS++Æ æ n++[13,10])++bK++Æ Ç s)++fC)++Æ Ç b)++[13,10]:=by
   unfold txt xA xm iG;rw[hq];simp only[ĝ]
  rw[e];have e1:=bs (x:=eS++Æ æ n) (y:=[13,10]) (by simp only[ċ,Ă,cB];exact ä [_] (.c (.a Â Á) hZ .z) (.a (.a (.a (.a (.a (.a (.a (.a Ē Á) Á) Á) Á) Á) Á) Â) Á) Ù rfl l1) (by decide+kernel);have e2:=bs (x:=eS++Æ æ n++[13,10]) (y:=bK) (by simp only[ċ,Ă,cB];exact ä [_] (.c (.a Â Á) hZ .z) (.a (.a (.a (.a (.a (.a (.a (.a (.a Ē Á) Á) Á) Á) Á) Á) Â) (.a (.a Ē Á) Á)) Á) Ù rfl l1) (by decide+kernel);have e3:=bs (x:=eS++Æ æ n++[13,10]++bK) (y:=Æ Ç s) (by simp only[ċ,Ă,cB];exact ä [_] (.c (.a Â Á) hZ .z) (.a (.a (.a (.a (.a (.a (.a (.a (.a (.a Ē Á) Á) Á) Á) Á) Á) Â) (.a (.a Ē Á) Á)) (.a (.a (.a (.a (.a (.a (.a (.a (.a Ē Á) Á) Á) Á) Á) Á) Á) Á) Á)) Á) Ù rfl l1) (by exact ă ‹_› (by decide));have e4:=bs (x:=eS++Æ æ n++[13,10]++bK++Æ Ç s) (y:=fC) (by simp only[ċ,Ă,cB];exact ä [_,_] (.c (.a Â Á) hZ (.c (.a È Á) bL .z)) (.a (.a (.a (.a (.a (.a (.a (.a (.a (.a (.a Ē Á) Á) Á) Á) Á) Á) Â) (.a (.a Ē Á) Á)) (.a (.a (.a (.a (.a (.a (.a (.a (.a Ē Á) Á) Á) Á) Á) Á) Á) Á) Á)) È) Á) Ù rfl l1 l3) (by decide+kernel);have e5:=bs (x:=eS++Æ æ n++[13,10]++bK++Æ Ç s++fC) (y:=Æ Ç b) (by simp only[ċ,Ă,cB];exact ä [_,_] (.c (.a Â Á) hZ (.c (.a È Á) bL .z)) (.a (.a (.a (.a (.a (.a (.a (.a (.a (.a (.a (.a Ē Á) Á) Á) Á) Á) Á) Â) (.a (.a Ē Á) Á)) (.a (.a (.a (.a (.a (.a (.a (.a (.a Ē Á) Á) Á) Á) Á) Á) Á) Á) Á)) È) (.a (.a (.a (.a Ē Á) Á) Á) Á)) Á) Ù rfl l1 l3) (by exact ă ‹_› (by decide));have e6:=bs (x:=eS++Æ æ n++[13,10]++bK++Æ Ç s++fC++Æ Ç b) (y:=[13,10]) (by simp only[ċ,Ă,cB];exact ä [_,_,_] (.c (.a Â Á) hZ (.c (.a È Á) bL (.c (.a ã Á) bL .z))) (.a (.a (.a (.a (.a (.a (.a (.a (.a (.a (.a (.a (.a Ē Á) Á) Á) Á) Á) Á) Â) (.a (.a Ē Á) Á)) (.a (.a (.a (.a (.a (.a (.a (.a (.a Ē Á) Á) Á) Á) Á) Á) Á) Á) Á)) È) (.a (.a (.a (.a Ē Á) Á) Á) Á)) ã) Á) Ù rfl l1 l3 l4) (by decide+kernel);unfold ID;walk_at "w"
 |false=>
  rw[hq]at l2;have e:txt n s b=((([]++bK++Æ Ç s)++fC)++Æ Ç b)++[13,10]:=by
   unfold txt xA xm iG;rw[hq];simp only[ĝ,jF]
  rw[e];have e2:=bs (x:=[]) (y:=bK) (by decide+kernel) (by decide+kernel);have e3:=bs (x:=[]++bK) (y:=Æ Ç s) (by decide+kernel) (by exact ă ‹_› (by decide));have e4:=bs (x:=[]++bK++Æ Ç s) (y:=fC) (by simp only[ċ,Ă,cB];exact ä [_] (.c (.a Â Á) bL .z) (.a (.a (.a Ē (.a (.a (.a (.a (.a (.a (.a (.a (.a Ē Á) Á) Á) Á) Á) Á) Á) Á) Á)) Â) Á) Ù rfl l3) (by decide+kernel);have e5:=bs (x:=[]++bK++Æ Ç s++fC) (y:=Æ Ç b) (by simp only[ċ,Ă,cB];exact ä [_] (.c (.a Â Á) bL .z) (.a (.a (.a (.a Ē (.a (.a (.a (.a (.a (.a (.a (.a (.a Ē Á) Á) Á) Á) Á) Á) Á) Á) Á)) Â) (.a (.a (.a (.a Ē Á) Á) Á) Á)) Á) Ù rfl l3) (by exact ă ‹_› (by decide));have e6:=bs (x:=[]++bK++Æ Ç s++fC++Æ Ç b) (y:=[13,10]) (by simp only[ċ,Ă,cB];exact ä [_,_] (.c (.a Â Á) bL (.c (.a È Á) bL .z)) (.a (.a (.a (.a (.a Ē (.a (.a (.a (.a (.a (.a (.a (.a (.a Ē Á) Á) Á) Á) Á) Á) Á) Á) Á)) Â) (.a (.a (.a (.a Ē Á) Á) Á) Á)) È) Á) Ù rfl l3 l4) (by decide+kernel);unfold ID;walk_at "w"
theorem kM{p:bI}{B:Int}(hp:p.Ok B)(hB:B<1000000):∃(f:Bool) (p':bI),p'.Ok (B+1)∧
  ∀(d:Nat) (a b:Cell) (T:List Cell) (v:List Nat) (l acc:List V) (x y:Option V) (r:Res),acc.length<100→
   Ev Ê (.fh (d+2) Ã [1] [.cm (.fn 80 [.k 0,.c (.int 2)]) [0] [.c (.int 1)]] l (if f then .str v::acc else acc) ⟨a::b::.lst (ð p')::T,[x,some (.str v)],[some (.Ó 2)]⟩) r→
   Ev Ê (.fh (d+2) Ã [1] [.cm (.fn 80 [.k 0,.c (.int 2)]) [0] [.c (.int 1)]] (.str v::l) acc ⟨a::b::.lst (ð p)::T,[x,y],[some (.Ó 2)]⟩) r:=by
 obtain⟨r1,p1,h1,o1,c1⟩:=ü hp ‹_› (m:=2) (by exact Ĭ _) (by exact î _ _)
 match r1,h1 with
 |0,_=>
  refine⟨false,p1,o1,fun d a b T v l acc x y r ha h=>?_⟩;have hm:(Ð (.str v)&&small acc)=true:=ê (by exact ă ‹_› (by decide));apply Hq hm
  ·walk_at "w"
  ·walk_at "w"
  ·exact h
 |1,_=>
  refine⟨true,p1,o1,fun d a b T v l acc x y r ha h=>?_⟩;have hm:(Ð (.str v)&&small acc)=true:=ê (by exact ă ‹_› (by decide));apply kh hm
  ·walk_at "w"
  ·walk_at "w"
  ·exact aQ rfl
  ·rfl
  ·exact h
 |r+2,h=>exact absurd h (by exact Ŧ (î _ _))
def P4(f0 f1 f2 f3:Bool):List V:=(if f0 then[V.str (Æ Œ 0)]else[])++((if f1 then[V.str (Æ Œ 1)]else[])++((if f2 then[V.str (Æ Œ 2)]else[])++(if f3 then[V.str (Æ Œ 3)]else[])))
theorem yU{p:bI}{B:Int}(hp:p.Ok B)(hB:B+4<1000000):∃(f0 f1 f2 f3:Bool) (p':bI),p'.Ok (B+4)∧
  ∀(d:Nat) (a b:Cell) (T:List Cell) (x y:Option V),∃y',
   Ev Ê (.fh (d+2) Ã [1] [.cm (.fn 80 [.k 0,.c (.int 2)]) [0] [.c (.int 1)]] [.str rP,.str rR,.str rO,.str [107,119]] [] ⟨a::b::.lst (ð p)::T,[x,y],[some (.Ó 2)]⟩)
    (⟨a::b::.lst (ð p')::T,[x,y'],[some (.Ó 2)]⟩,.vals (P4 f0 f1 f2 f3)):=by
 obtain⟨f0,p0,o0,c0⟩:=kM hp (by exact í [_] (.c (.a (.a Â dM) Á) Ù .z) (.a Â Á) Ù rfl hB);obtain⟨f1,p1,o1,c1⟩:=kM o0 (by exact í [_] (.c (.a (.a Â dM) Á) Ù .z) (.a (.a Â Á) Á) Ù rfl hB);obtain⟨f2,p2,o2,c2⟩:=kM o1 (by exact í [_] (.c (.a (.a Â dM) Á) Ù .z) (.a (.a (.a Â Á) Á) Á) Ù rfl hB);obtain⟨f3,p3,o3,c3⟩:=kM o2 (by exact í [_] (.c (.a (.a Â dM) Á) Ù .z) (.a (.a (.a (.a Â Á) Á) Á) Á) Ù rfl hB);refine⟨f0,f1,f2,f3,p3,o3.up (by exact í [_] .z (.a (.a (.a (.a Â Á) Á) Á) Á) (.a Â dM) rfl),fun d a b T x y=>⟨some (.str [107,119]),?_⟩⟩;apply c0 _ _ _ _ _ _ _ _ _ _ (by decide);apply c1 _ _ _ _ _ _ _ _ _ _ (by induction f0 using ñ<;>decide);apply c2 _ _ _ _ _ _ _ _ _ _ (by induction f0 using ñ<;>induction f1 using ñ<;>decide);apply c3 _ _ _ _ _ _ _ _ _ _ (by induction f0 using ñ<;>induction f1 using ñ<;>induction f2 using ñ<;>decide)
 induction f0 using ñ<;>induction f1 using ñ<;>induction f2 using ñ<;>induction f3 using ñ<;>exact i9
theorem wm:∀n,Ð (å n)=true
 |0|1|2|3|_+4=>rfl
theorem EL{n:Nat}(hn:n<6){x0:Option V}{ρ κ:List (Option V)}:Ev Ê (.ev d (.te (.cm Ã [2] [.c (.int 4)]) (.ix (.ix (.c (.tup [.tup [.tup [.int 1969,.int 12,.int 31],.int (-1)],.tup [.tup [.int 1994,.int 2,.int 1],.int 8797],.tup [.tup [.int 1994,.int 2,.int 2],.int 8798],.tup [.tup [.int 2000,.int 2,.int 29],.int 11016]])) Ã) ç) (.c .none)) ⟨H,x0::some (.int n)::ρ,κ⟩) (⟨H,x0::some (.int n)::ρ,κ⟩,.val (å n)):=by
 match n,hn with
 |0,_|1,_|2,_|3,_|4,_|5,_=>walk_at "w"
theorem wI{α}{x:α}{Y:List α}(X:List α):é (X++[x]++Y) X.length=some x:=by
 induction X with
 |nil=>
  exact rfl
 |cons a X IH=>
  exact IH
theorem E4{α}{x y:α}{Y:List α}(X:List α):put (X++[x]++Y) X.length y=X++[y]++Y:=by
 induction X with
 |nil=>
  exact rfl
 |cons a X IH=>
  exact congrArg (a:: ·) IH
theorem Gg{H Ö:List Cell}{x y y':V}(h1:Ô H x=some (H,x))(h2:Ô H y=some (Ö,y')):ē H [x,y]=some (Ö,[x,y']):=by simp only[ē,h1,h2,bN,bu,fb,aw]
theorem Gi{H Y:List Cell}{L:List (List Nat×V)}:Ô (H++[.aX L]++Y) (.Ó H.length)=some (H++[.Ô (.aX L)]++Y,.aX L):=by simp only[Ô,wI,E4,bN,bu,fb,aw]
theorem sS{u i mo:Int}{o:List Nat}{fv:V}{fs:List V}(hs:small fs=true)(hf:∀l,Ô (H++[.ins 0 l]) fv=some (H++[.ins 0 l],.lst fs)):
  Ev Ê (.call (d+2) 92 [.Ó H.length,.int u,.bytes o,fv,.int i,.int mo] (H++[.ins 0 []])) (⟨H++[.ins 0 [(13,.int u),(14,.bytes o),(15,.tup fs),(16,.int i),(17,.int mo)]],[],[]⟩,.val .none):=by
 have hb:blt 5 [.lst fs]=some (.tup fs):=if_pos hs;have hz:∀l,ē (H++[.ins 0 l]) [fv]=some (H++[.ins 0 l],[.lst fs]):=fun l=>by simp only[ē,hf l,bN,bu,fb,aw]
 apply eD (S:=⟨H++[.ins 0 []],[some (.Ó H.length),some (.int u),some (.bytes o),some fv,some (.int i),some (.int mo)],[]⟩) rfl rfl
 ·apply Ò
  ·apply ũ
   ·exact aQ rfl
   ·exact dA (aQ rfl) rfl (Ĕ _ _) rfl rfl ļ
  apply Ò
  ·apply ũ
   ·exact aQ rfl
   ·exact dA (aQ rfl) rfl (Ĕ _ _) rfl rfl ļ
  apply Ò
  ·apply ũ
   ·apply ke
    ·exact Ŗ (aQ rfl) ű
    ·exact hz _
    ·exact hb
    ·rfl
   ·exact dA (aQ rfl) rfl (Ĕ _ _) rfl rfl ļ
  apply Ò
  ·apply ũ
   ·exact aQ rfl
   ·exact dA (aQ rfl) rfl (Ĕ _ _) rfl rfl ļ
  apply Ò
  ·apply ũ
   ·exact aQ rfl
   ·exact dA (aQ rfl) rfl (Ĕ _ _) rfl rfl ļ
  exact gp
 ·exact pU
theorem so{H₁:List Cell}{q:LP}(hq:q.Ok){fv:V}{κ:List (Option V)}{w:Option V}(hs:small (Ĩ q)=true)(h1:Ô H fv=some (H₁,.lst (Ĩ q)))(h2:∀Y,Ô (H₁++Y) fv=some (H₁++Y,.lst (Ĩ q))):
  T2 fun Y fk=>Ev Ê (.dj (d+6) [.as (.n false 11) (.di [.c (.str [117,105,100]),.c (.str eR),.c (.str dK),.c (.str [100,97,121]),.c (.str aT),.c (.str Ť),.c (.str Ġ),.c (.str ŗ),.c (.str ň)] [.l 0,.l 6,.bl 0 [.l 5],.ix (.ix (.c (.tup [.tup [.tup [.int 1969,.int 12,.int 31],.int (-1)],.tup [.tup [.int 1994,.int 2,.int 1],.int 8797],.tup [.tup [.int 1994,.int 2,.int 2],.int 8798],.tup [.tup [.int 2000,.int 2,.int 29],.int 11016]])) dI) ç,.l 9,.l 10,.l 3,.l 4,.l 2]),.re (.tu [.cl 0 [.l 0,.fn 81 [.l 5],.l 6,.l 8,.l 9],.l 11])] ⟨H,[some (.int q.uid),some (.int q.n),some (.str (Æ æ q.n)),some (.str (Æ Ç q.s)),some (.str (Æ Ç q.b)),some (.str (txt q.n q.s q.b)),some fv,some (.int q.sp),some (.int (dW q.sp q.ti)),some (.int q.mo),some (å q.n),w],κ⟩) (⟨H₁++Y,fk,κ⟩,.ret (.tup [Ý q,Ķ q])):=by
 obtain⟨t1,t2⟩:=zO hq.n hq.s hq.b;have c1:=yw (d:=d+2) (H:=H₁++[.aX [([117,105,100],.int q.uid),(eR,.lst (Ĩ q)),(dK,.int (txt q.n q.s q.b).length),([100,97,121],å q.sp),(aT,.int q.mo),(Ť,å q.n),(Ġ,.str (Æ Ç q.s)),(ŗ,.str (Æ Ç q.b)),(ň,.str (Æ æ q.n))]]) t1 (by exact ă ‹_› (by decide));have hl:=len_str (l:=txt q.n q.s q.b) (by exact ă ‹_› (by decide));have d1:=fT hq.sp;have z1:ē H [.int q.uid,fv,.int (txt q.n q.s q.b).length,å q.sp,.int q.mo,å q.n,.str (Æ Ç q.s),.str (Æ Ç q.b),.str (Æ æ q.n)]=some (H₁,[.int q.uid,.lst (Ĩ q),.int (txt q.n q.s q.b).length,å q.sp,.int q.mo,å q.n,.str (Æ Ç q.s),.str (Æ Ç q.b),.str (Æ æ q.n)]):=by
  have e1:=ő (wm q.sp) H₁;have e2:=ő (wm q.n) H₁;have e0:∀(X:List Cell) (i:Int),Ô X (.int i)=some (X,.int i):=fun À À=>rfl
  have e3:∀(X:List Cell) (i:List Nat),Ô X (.str i)=some (X,.str i):=fun À À=>rfl
  simp only[ē,e0,h1,e1,e2,e3,bN,bu,fb,aw]
 have c2:=sS (d:=d+3) (H:=H₁++[.aX [([117,105,100],.int q.uid),(eR,.lst (Ĩ q)),(dK,.int (txt q.n q.s q.b).length),([100,97,121],å q.sp),(aT,.int q.mo),(Ť,å q.n),(Ġ,.str (Æ Ç q.s)),(ŗ,.str (Æ Ç q.b)),(ň,.str (Æ æ q.n))]]) (u:=q.uid) (i:=dW q.sp q.ti) (mo:=q.mo) (o:=txt q.n q.s q.b) (fv:=fv) hs (fun l=>by rw[ĝ];exact h2 _);have z2:=gh (H:=H₁++[.aX [([117,105,100],.int q.uid),(eR,.lst (Ĩ q)),(dK,.int (txt q.n q.s q.b).length),([100,97,121],å q.sp),(aT,.int q.mo),(Ť,å q.n),(Ġ,.str (Æ Ç q.s)),(ŗ,.str (Æ Ç q.b)),(ň,.str (Æ æ q.n))]]) (c:=0) (l:=[(13,.int q.uid),(14,.bytes (txt q.n q.s q.b)),(15,.tup (Ĩ q)),(16,.int (dW q.sp q.ti)),(17,.int q.mo)]);have z3:ē (H₁++[.aX [([117,105,100],.int q.uid),(eR,.lst (Ĩ q)),(dK,.int (txt q.n q.s q.b).length),([100,97,121],å q.sp),(aT,.int q.mo),(Ť,å q.n),(Ġ,.str (Æ Ç q.s)),(ŗ,.str (Æ Ç q.b)),(ň,.str (Æ æ q.n))]]++[.Ô (Ý q)]) [Ý q,.Ó H₁.length]=some (H₁++[.Ô (.aX [([117,105,100],.int q.uid),(eR,.lst (Ĩ q)),(dK,.int (txt q.n q.s q.b).length),([100,97,121],å q.sp),(aT,.int q.mo),(Ť,å q.n),(Ġ,.str (Æ Ç q.s)),(ŗ,.str (Æ Ç q.b)),(ň,.str (Æ æ q.n))])]++[.Ô (Ý q)],[Ý q,.aX [([117,105,100],.int q.uid),(eR,.lst (Ĩ q)),(dK,.int (txt q.n q.s q.b).length),([100,97,121],å q.sp),(aT,.int q.mo),(Ť,å q.n),(Ġ,.str (Æ Ç q.s)),(ŗ,.str (Æ Ç q.b)),(ň,.str (Æ æ q.n))]]):=by
  exact Gg (ő (show Ð (Ý q)=true from rfl) _) Gi
 refine⟨[.Ô (.aX [([117,105,100],.int q.uid),(eR,.lst (Ĩ q)),(dK,.int (txt q.n q.s q.b).length),([100,97,121],å q.sp),(aT,.int q.mo),(Ť,å q.n),(Ġ,.str (Æ Ç q.s)),(ŗ,.str (Æ Ç q.b)),(ň,.str (Æ æ q.n))])]++[.Ô (Ý q)],[some (.int q.uid),some (.int q.n),some (.str (Æ æ q.n)),some (.str (Æ Ç q.s)),some (.str (Æ Ç q.b)),some (.str (txt q.n q.s q.b)),some fv,some (.int q.sp),some (.int (dW q.sp q.ti)),some (.int q.mo),some (å q.n),some (.Ó H₁.length)],?_⟩;rw[←ĝ];apply Ò
 ·apply ũ
  ·apply yt
   ·walk_at "w"
   ·exact z1
   ·rfl
   ·rfl
  ·walk_at "w"
 apply dp;apply qY;apply uL
 ·apply Ŗ
  ·apply uM
   ·walk_at "w"
   ·rfl
   ·exact c2
   ·rfl
   ·exact z2
  ·apply Ŗ
   ·exact aQ rfl
   ·exact ű
 ·exact z3
 ·rfl
end
theorem I3{a b x a' b' x' u:Cell}{T Y:List Cell}:(a::b::x::(T++[u])++Y).take (a'::b'::x'::T).length=a::b::x::T:=by
 show a::b::x::(T++[u]++Y).take T.length=_;rw[ĝ,List.take_left]
theorem Oh{a b x u:Cell}{T Y:List Cell}{v:V}:Ô (a::b::x::(T++[.Ô v])++Y) (.Ó (T.length+3))=some (a::b::x::(T++[.Ô v])++Y,v):=by
 have e:é (a::b::x::(T++[.Ô v])++Y) (T.length+3)=some (.Ô v):=wI T;simp only[Ô,e,bN,bu,fb,aw]
theorem ve{p:bI}{B:Int}(hp:p.Ok B)(hB:B+50<1000000)(u:Nat):∃(q:LP) (p':bI),A3 (q.Ok∧q.uid=u) (p'.Ok (B+12)) (∀(d:Nat) (a b:Cell) (T:List Cell),Ev Ê (.call (d+10) 82 [.Ó 2,.int u] (a::b::.lst (ð p)::T)) (⟨a::b::.lst (ð p')::T,[],[]⟩,.val (.tup [Ý q,Ķ q]))):=by
 obtain⟨n,p1,h1,o1,c1⟩:=ü hp (by exact í [_] (.c (.a (.a Â br) Á) Ù .z) (.a Â Á) Ù rfl hB) (m:=6) (by exact Ĭ _) (by exact î _ _);obtain⟨sj,p2,h2,o2,c2⟩:=ü o1 (by exact í [_] (.c (.a (.a Â br) Á) Ù .z) (.a (.a Â Á) Á) Ù rfl hB) (m:=4) (by exact Ĭ _) (by exact î _ _);obtain⟨bd,p3,h3,o3,c3⟩:=ü o2 (by exact í [_] (.c (.a (.a Â br) Á) Ù .z) (.a (.a (.a Â Á) Á) Á) Ù rfl hB) (m:=4) (by exact Ĭ _) (by exact î _ _);obtain⟨f0,f1,f2,f3,p4,o4,c4⟩:=yU o3 (by exact í [_] (.c (.a (.a Â br) Á) Ù .z) (.a (.a (.a (.a (.a Â Á) Á) Á) dM) Á) Ù rfl hB);obtain⟨sp,p5,h5,o5,c5⟩:=ü o4 (by exact í [_] (.c (.a (.a Â br) Á) Ù .z) (.a (.a (.a (.a (.a Â Á) Á) Á) dM) Á) Ù rfl hB) (m:=4) (by exact Ĭ _) (by exact î _ _);obtain⟨ti,p6,h6,o6,c6⟩:=ü o5 (by exact í [_] (.c (.a (.a Â br) Á) Ù .z) (.a (.a (.a (.a (.a (.a Â Á) Á) Á) dM) Á) Á) Ù rfl hB) (m:=3) (by exact Ĭ _) (by exact î _ _);obtain⟨mo,p7,h7,o7,c7⟩:=ü o6 (by exact í [_] (.c (.a (.a Â br) Á) Ù .z) (.a (.a (.a (.a (.a (.a (.a Â Á) Á) Á) dM) Á) Á) Á) Ù rfl hB) (m:=9) (by exact Ĭ _) (by exact î _ _);have hq:(LP.mk u n sj bd f0 f1 f2 f3 sp ti (1+mo)).Ok:=⟨h1,h2,h3,h5,h6⟩;refine⟨⟨u,n,sj,bd,f0,f1,f2,f3,sp,ti,1+mo⟩,p7,⟨hq,rfl⟩,o7.up (by exact í [_] .z (.a (.a (.a (.a (.a (.a (.a Â Á) Á) Á) dM) Á) Á) Á) (.a Â (.n 12)) rfl),fun d a b T=>?_⟩;have hs:small (P4 f0 f1 f2 f3)=true:=by induction f0 using ñ<;>induction f1 using ñ<;>induction f2 using ñ<;>induction f3 using ñ<;>rfl
 obtain⟨x',c4⟩:=c4 (d+6) a b T none none;have e1:=GC h1;have e2:=v5 h2;have e3:=v5 h3;have e5:=fT h5;have e6:=Ex h6;have e7:=Gy h5;obtain⟨Y,fk,ht⟩:=so (d:=d+3) (H:=a::b::.lst (ð p7)::(T++[.lst (P4 f0 f1 f2 f3)])) (H₁:=a::b::.lst (ð p7)::(T++[.Ô (.lst (P4 f0 f1 f2 f3))])) hq (fv:=.Ó (T.length+3)) (κ:=[some (.Ó 2)]) (w:=none) hs Gj (fun Y=>Oh (u:=a));apply É (S:=⟨a::b::.lst (ð p)::T,[some (.int u),none,none,none,none,none,none,none,none,none,none,none],[some (.Ó 2)]⟩) rfl rfl
 ·repeat (first|((with_reducible apply qA);first|exact c1 _ _ _ _|exact c2 _ _ _ _|exact c3 _ _ _ _|exact c5 _ _ _ _|exact c6 _ _ _ _|exact c7 _ _ _ _)|exact ht|exact EB h1 h2 h3|exact EL h1|apply GI|exact c4|((with_reducible apply TN);first|with_reducible assumption|with_reducible exact Fg|with_reducible exact put3|with_reducible exact Gj|with_reducible exact HR|with_reducible exact v8|with_reducible exact xp|with_reducible exact Nu|with_reducible exact take3|exact wc)|walk_at "nz")
 ·rfl
 ·rfl
 ·exact I3
section
variable{d:Nat}{H:List Cell}
theorem F3{κ:List (Option V)}(l:List Int)(acc:List V)(x:Option V)(y:Option V)(hl:acc.length+l.length<1000000):T2 fun x' y'=>Ev Ê (.fh d (.bl 2 [.l 1]) [1] [] (l.map V.int) acc ⟨H,[x,y],κ⟩) (⟨H,[x',y'],κ⟩,.vals (acc.reverse++l.map V.int)):=by
 induction l generalizing acc x y with
 |nil=>
  exact⟨x,y,by simp only[fK,Ŵ];exact i9⟩
 |cons c l IH=>
  rw[Ă]at hl;obtain⟨x',y',ih⟩:=IH (.int c::acc) x (some (.int c)) (by rw[Ă];exact ä [_,_] (.c (.a (.a Â (.a È Á)) Á) Ù .z) (.a (.a (.a Â Á) È) Á) Ù rfl hl);refine⟨x',y',?_⟩;rw[aq,ĝ]at ih;rw[Ō];apply kh
  ·exact ê (by exact Ń (ź _ _) ‹_›)
  ·walk_at "w"
  ·exact gO
  ·walk_at "w"
  ·rfl
  ·exact ih
theorem CF{x0 x2 x3:Option V}(l:List Int)(st:Int)(x:Option V)(h0:0≤st)(h1:st<2147483647):T2 fun x' Ċ=>A3 (0≤Ċ) (Ċ<2147483647) (Ev Ê (.qG d (.n false 1) (l.map V.int) [.as (.n false 4) (.bi 4 (.bi 0 (.bi 0 (.bi 2 ā (.c (.int 48271))) (.bi 4 Ã ly)) (.c (.int 11))) ly)] ⟨H,[x0,x,x2,x3,some (.int st)],[]⟩) (⟨H,[x0,x',x2,x3,some (.int Ċ)],[]⟩,.next)):=by
 induction l generalizing st x with
 |nil=>
  exact⟨x,st,h0,h1,ui⟩
 |cons c l IH=>
  have s1:=Int.emod_nonneg (st*48271+c % 2147483647+11) (show(2147483647:Int)≠0 by decide);have s2:=Int.emod_lt_of_pos (st*48271+c % 2147483647+11) (show(0:Int)<2147483647 by decide);obtain⟨x',Ċ,a1,a2,ih⟩:=IH ((st*48271+c % 2147483647+11) % 2147483647) (some (.int c)) s1 s2;refine⟨x',Ċ,a1,a2,?_⟩;have m1:=kP (mb h0 (by exact wZ ‹_› (by decide)) (show(0:Int)≤48271 by decide) (by decide));have m3:=sb (m:=2147483647) (by decide) (by decide);rw[Ō];apply mQ
  ·rfl
  ·walk_at "w"
  ·repeat (first|((with_reducible apply ta);first|with_reducible exact m1|with_reducible exact eL m3)|walk_at "nz")
  ·exact ih
theorem Lb{xs:List Int}(h:xs.length<1000000):∃cs:List Int,cs.length≤40∧slice (.lst (xs.map .int)) none (some (.int 40)) none=some (.lst (cs.map .int)):=by
 refine⟨xs.take 40,by rw[oP];omega,?_⟩;have hs:small (xs.map V.int)=true:=ê (by rw[Ė];assumption);show(if small (xs.map V.int)then some (V.lst (part (xs.map V.int) 0 (clamp (xs.map V.int).length 40)))else none)=_;rw[hs,if_pos rfl];show some (V.lst (part (xs.map V.int) 0 (clamp (xs.map V.int).length 40)))=_;have hc:clamp (xs.map V.int).length 40=min 40 xs.length:=by
  rw[Ė];rfl
 rw[hc];show some (V.lst (((xs.map V.int).drop 0).take (min 40 xs.length - 0)))=_;rw[List.drop_zero,Nat.sub_zero,←List.map_take]
 congr 3
 by_cases hx:xs.length≤40
 ·rw[sG (Nat.le_min.mpr ⟨hx,Ų _⟩),sG hx]
 ·rw[Nat.min_eq_left (by exact ä [_] (.c (.a (.n 40) Á) Â .z) (.n 40) Â rfl (Nat.lt_of_not_le hx))]
theorem MW:∃t,bin 5 (.int 10) (.int 15)=some (.int t):=⟨_,rfl⟩
theorem JL:∃t:Int,bin 5 (.int 10) (.int 200)=some (.int t)∧(Ī 0 t&&Ī t j_)=true:=⟨_,rfl,by decide+kernel⟩
theorem Lj{xs:List Int}(h:xs.length<1000000)(d:Nat):∃(g0 g1:Cell) (p:bI) (fk:List (Option V)),p.Ok 0∧
  Ev Ê (.call (d+8) 79 [.lst (xs.map .int)] []) (⟨[g0,g1,.lst (ð p)],fk,[]⟩,.val (.Ó 2)):=by
 obtain⟨cs,hc,h1⟩:=Lb h;obtain⟨x1,y1,i1⟩:=F3 (d:=d+6) (H:=[.Ô (.lst (cs.map .int))]) (κ:=[]) cs [] none none (by rw[cB];exact ä [_] (.c Â (.n 40) .z) (.a (.a Ē Â) Á) Ù rfl hc);rw[oE,jF]at i1;obtain⟨Qy,Yc⟩:=MW;obtain⟨t2,b2,z2⟩:=JL;have fin:∀(g:Int) (x:Option V),0≤g→∃(g0 g1:Cell) (p:bI) (fk:List (Option V)),p.Ok 0∧Ev Ê (.dj (d+7) [.as (.n false 4) ţ,.fo (.n false 1) Ë [.as (.n false 4) (.bi 4 (.bi 0 (.bi 0 (.bi 2 ā (.c (.int 48271))) (.bi 4 Ã ly)) (.c (.int 11))) ly)],.re (.li [.l 2,.l 3,.l 4,.c (.int 0)])] ⟨[.Ô (.lst (cs.map .int)),.lst (cs.map .int)],[some (.lst (xs.map .int)),x,some (.Ó 1),some (.int g),none],[]⟩) (⟨[g0,g1,.lst (ð p)],fk,[]⟩,.ret (.Ó 2)):=fun g x hg=>by
  obtain⟨x',Ċ,a1,a2,lp⟩:=CF (d:=d+6) (H:=[.Ô (.lst (cs.map .int)),.Ô (.lst (cs.map .int))]) (x0:=some (.lst (xs.map .int))) (x2:=some (.Ó 1)) (x3:=some (.int g)) cs 7 x (by decide) (by decide);refine⟨.Ô (.lst (cs.map .int)),.Ô (.lst (cs.map .int)),⟨cs,g,Ċ,0⟩,[some (.lst (xs.map .int)),x',some (.Ó 1),some (.int g),some (.int Ċ)],⟨hg,a1,a2,Int.le_refl _,Int.le_refl _,hc⟩,?_⟩;apply Ò
  ·repeat (first|apply ũ|walk_at "nz")
  apply Ò
  ·repeat (first|apply bR|walk_at "nz")
  apply dp;apply qY;exact i7 (H₁:=[.Ô (.lst (cs.map .int)),.Ô (.lst (cs.map .int))]) (vs':=ð ⟨cs,g,Ċ,0⟩) (Ŗ (aQ rfl) (Ŗ (aQ rfl) (Ŗ (aQ rfl) (Ŗ nY ű)))) rfl rfl
 have ht:truth (.lst (cs.map .int))=some (!(cs.map V.int).isEmpty):=if_pos (ê (by rw[Ė];exact Ń ‹_› (by decide)));have Th:∃(g:Int) (x:Option V),0≤g∧Ev Ê (.ex (d+7) (.if (.bo true [.l 2,.cm (.bl 4 [.ix Ë ç]) [5] [.bi 5 wA (.c (.int 15))]]) [.as (.n false 3) (.bi 4 (.bi 3 (.bl 4 [.ix Ë ç]) Ÿ) (.bi 5 wA (.c (.int 200))))] []) ⟨[.Ô (.lst (cs.map .int)),.lst (cs.map .int)],[some (.lst (xs.map .int)),none,some (.Ó 1),some (.int 0),none],[]⟩)
   (⟨[.Ô (.lst (cs.map .int)),.lst (cs.map .int)],[some (.lst (xs.map .int)),x,some (.Ó 1),some (.int g),none],[]⟩,.next):=by
  induction cs using Ū with
  |nil=>
   refine⟨0,none,Int.le_refl _,?_⟩;apply g_;walk_at "w"
  |cons c cs=>
   have hi:item (.lst ((c::cs).map .int)) (.int 0)=some (.int c):=rfl;have ha:blt 4 [.int c]=some (.int c.natAbs):=rfl;have hn:0≤(c.natAbs:Int):=lS _;generalize (c.natAbs:Int)=q at ha hn;have Wt:cmp 5 (.int q) (.int Qy)=some (gc Qy q):=rfl;have m2:=sb (m:=2) (by decide) (by decide);have ht:truth (.lst ((c::cs).map .int))=some true:=ht
   induction hq:gc Qy q using ñ with
   |true=>
    rw[hq]at Wt;have hz:0<t2:=by
     rw[ar]at z2;exact of_decide_eq_true z2.1
    refine⟨q / 2 % t2,none,Int.emod_nonneg _ (by exact fun eG=>sk [_] (.c (.a Ē Á) Â (.c Â Ē .z)) rfl hz (Int.le_of_eq eG)),?_⟩;apply g_
    repeat (first|((with_reducible apply ta);first|with_reducible exact eL z2|with_reducible exact qP m2)|walk_at "nz")
   |false=>
    rw[hq]at Wt;refine⟨0,none,Int.le_refl _,?_⟩;apply g_;walk_at "w"
 obtain⟨g,x,hg,Th⟩:=Th;obtain⟨g0,g1,p,fk,hp,fin⟩:=fin g x hg;refine⟨g0,g1,p,fk,hp,?_⟩;apply lV (S:=⟨[],[some (.lst (xs.map .int)),none,none,none,none],[]⟩) rfl rfl
 ·apply Ò
  ·apply ũ
   ·apply lq
    ·apply Hi
     ·exact aQ rfl
     ·exact JU
     ·exact LL nY
     ·exact JU
     ·rfl
     ·exact h1
     ·rfl
    ·rfl
    ·rfl
    ·exact i1
   ·walk_at "w"
  apply Ò
  ·apply ũ
   ·exact nY
   ·walk_at "w"
  apply Ò
  ·exact Th
  exact fin
 ·rfl
theorem BG(i:Int):gI i i=true:=decide_eq_true rfl
theorem p8{α}(l:List α):ej l l=true:=by
 induction l with
 |nil=>
  exact rfl
 |cons _ r IH=>
  exact IH
theorem nB{f:V→V→Option Bool}{l:List V}(h:(∀x∈l,f x x=some true)):pM f l l=some true:=by
 induction l with
 |nil=>
  exact rfl
 |cons a r IH=>
  show((f a a).bind fun p=>(pM f r r).bind fun q=>some (p&&q))=_;rw[h a ŭ,IH fun x hx=>h x (ŧ _ hx)];rfl
theorem Eh{n:Nat}{l:List V}(h:∀x∈l,gq n x x=some true):gq (n+1) (.lst l) (.lst l)=some true:=by
 show(if ej l l then pM (gq n) l l else some false)=_;rw[if_pos (p8 l)];exact nB h
theorem pL{n:Nat}{l:List V}(h:∀x∈l,gq n x x=some true):gq (n+1) (.tup l) (.tup l)=some true:=nB h
theorem d9{n:Nat}{i:Int}:gq (n+1) (.int i) (.int i)=some true:=congrArg some (BG i)
theorem Eg{n:Nat}{i:List Nat}:gq (n+1) (.str i) (.str i)=some true:=congrArg some (Ŭ i)
theorem xV{n:Nat}{i:List Nat}:gq (n+1) (.bytes i) (.bytes i)=some true:=congrArg some (Ŭ i)
def AllInt(l:List V):Prop:=∀x∈l,∃i,x=.int i
theorem AllInt.eq{l:List V}(h:AllInt l):gN (.lst l) (.lst l)=some true:=Eh fun x hx=>by obtain⟨i,rfl⟩:=h x hx;exact d9
theorem AllInt.ne{l:List V}(h:AllInt l):cmp 1 (.lst l) (.lst l)=some false:=by
 show(gN (.lst l) (.lst l)).map not=_;rw[h.eq];rfl
theorem xw{f:Nat→LP→Bool}(ps:List LP)(n:Nat):AllInt (bZ f n ps):=by
 induction ps generalizing n with
 |nil=>
  exact fun x hx=>by cases hx
 |cons p r IH=>
  have ih:=IH (n+1);show AllInt (match f (n+1) p with
   |true=>.int (n+1:Nat)::bZ f (n+1) r
   |false=>bZ f (n+1) r)
  induction f (n+1) p using ñ with
  |true=>
   intro x hx;rcases Ą.mp hx with rfl|hx
   ·exact⟨_,rfl⟩
   ·exact ih x hx
  |false=>exact ih
theorem rX{α}{x:α}{Y:List α}(X:List α):é (X++x::Y) X.length=some x:=by
 induction X with
 |nil=>
  exact rfl
 |cons a X IH=>
  exact IH
theorem sO{l:List V}{n:Nat}{v:V}(hn:n<1000)(h:é l n=some v):item (.lst l) (.int n)=some v:=by
 have e1:Ć n=true:=by
  unfold Ć Ī;rw[ar];exact⟨decide_eq_true (by exact í [_] (.c (.a Â Á) aU .z) (.a Â Á) Ù rfl (bw.mpr hn)),decide_eq_true (by exact jG _)⟩
 rw[fO,if_pos e1];unfold at_;rw[if_neg (by unfold Ī;rw[decide_eq_true_eq];exact fun eG=>sk [_] (.c (.a Â Á) Ē (.c Ē Â .z)) rfl eG (lS _))];exact h
theorem fq{i:Nat}{v:V}(h:é H i=some (.Ô v)):view H (.Ó i)=some v:=by simp only[view,h,bN,bu,fb,aw]
theorem qD{i:Nat}{v:V}(h:é H i=some (.Ô v)):Ô H (.Ó i)=some (H,v):=by simp only[Ô,h,bN,bu,fb,aw]
theorem fS{i:Nat}{v:V}(h:é H i=some (.Ô v)):ē H [.Ó i]=some (H,[v]):=by simp only[ē,qD h,bN,bu,fb,aw]
def RS(ps:List LP):List V:=ps.map Ķ
def LS(ps:List LP):List V:=ps.map Ý
theorem qq{qs pre:List LP}{q:LP}(h:pre.length<1000):item (.lst (RS (pre++q::qs))) (.int pre.length)=some (Ķ q):=by
 apply sO h;unfold RS;rw[dS,Ō];have:=rX (x:=Ķ q) (Y:=qs.map Ķ) (pre.map Ķ)
 rwa [Ė]at this
theorem F0{qs pre:List LP}{q:LP}(h:pre.length<1000):item (.lst (LS (pre++q::qs))) (.int pre.length)=some (Ý q):=by
 apply sO h;unfold LS;rw[dS,Ō];have:=rX (x:=Ý q) (Y:=qs.map Ý) (pre.map Ý)
 rwa [Ė]at this
theorem Cg{f:Nat→LP→Bool}{n:Nat}{q:LP}{qs:List LP}(h:f (n+1) q=true):bZ f n (q::qs)=.int (n+1:Nat)::bZ f (n+1) qs:=by
 show(match f (n+1) q with
  |true=>_
  |false=>_)=_
 rw[h]
theorem HV{f:Nat→LP→Bool}{n:Nat}{q:LP}{qs:List LP}(h:f (n+1) q=false):bZ f n (q::qs)=bZ f (n+1) qs:=by
 show(match f (n+1) q with
  |true=>_
  |false=>_)=_
 rw[h]
theorem fz(i:Int)(n:Nat):mL i (n+1)=.int i::mL (i+1) n:=rfl
theorem lK{t:Tr}(ho:t.ok)(hh:t.ĭ≤5){ps:List LP}(hp:∀p∈ps,p.Ok)(hl:ps.length<900){last:Nat}{k3:Option V}(h4:é H 4=some (.Ô (.lst (RS ps)))):∀(qs pre:List LP) (acc:List V) (x y:Option V),ps=pre++qs→acc.length≤pre.length→
  ∃x',Ev Ê (.fh (d+124) (.bi 0 Ã Ì) [1] [.fn 90 [.k 2,.ix ğ Ã,.bi 0 Ã Ì,.bl 0 [.k 0],.k 1]] (mL pre.length qs.length) acc ⟨H,[x,y],[some (.Ó 4),some (.int last),some (Î t),k3]⟩) (⟨H,[x,x'],[some (.Ó 4),some (.int last),some (Î t),k3]⟩,.vals (acc.reverse++bZ (fun k p=>ď p k ps.length last t) pre.length qs))
 |[],pre,acc,x,y,_,_=>⟨y,by simp only[bZ,Ŵ];exact i9⟩
 |q::qs,pre,acc,x,y,e,ha=>by
  have PU:pre.length<900:=by
   have:=congrArg oQ e;rw[ċ,Ă]at this;exact ä [_,_,_] (.c (.a È Á) n9 (.c (.a Â (.a ã Á)) È .z)) (.a Â Á) n9 rfl hl (Ņ this.symm)
  have c:=M9 (d:=d+3) (H:=H) (hp q (by rw[e];simp)) (k:=pre.length+1) (count:=ps.length) (last:=last) ho hh;have ek:((pre.length+1:Nat):Int)=(pre.length:Int)+1:=rfl;rw[ek]at c;have hi:item (.lst (RS ps)) (.int pre.length)=some (Ķ q):=by rw[e];exact qq (by exact ă ‹_› (by decide))
  have hv:=fq h4;have hz:=fS h4;have F5:blt 0 [.lst (RS ps)]=some (.int ps.length):=by
   have:=bV (l:=RS ps) (by unfold RS;rw[Ė];exact ă ‹_› (by decide));rw[this];unfold RS;rw[Ė]
  have hm:(Ð (.int pre.length)&&small acc)=true:=ê (by exact ä [_,_] (.c Â È (.c (.a È Á) n9 .z)) (.a Â Á) Ù rfl ha PU);rw[Ă,fz]
  induction hb:ď q (pre.length+1) ps.length last t using ñ with
  |true=>
   rw[hb]at c;rw[Cg (f:=fun k p=>ď p k ps.length last t) hb];obtain⟨x',ih⟩:=lK ho hh hp hl h4 qs (pre++[q]) (.int ((pre.length:Int)+1)::acc) x (some (.int pre.length)) (by rw[e,ĝ];rfl) (by rw[ċ,Ă];simp;assumption);refine⟨x',?_⟩;rw[aq,ĝ,ċ]at ih;apply kh hm
   ·walk_at "w"
   ·walk_at "w"
   ·walk_at "w"
   ·rfl
   ·exact ih
  |false=>
   rw[hb]at c;rw[HV (f:=fun k p=>ď p k ps.length last t) hb];obtain⟨x',ih⟩:=lK ho hh hp hl h4 qs (pre++[q]) acc x (some (.int pre.length)) (by rw[e,ĝ];rfl) (by rw[ċ,Ă];exact ă ‹_› (ź _ _));refine⟨x',?_⟩;rw[ċ]at ih;apply Hq hm
   ·walk_at "w"
   ·walk_at "w"
   ·exact ih
theorem lJ{t:Tr}(ho:t.ok)(hh:t.ĭ≤5){ps:List LP}(hp:∀p∈ps,p.Ok)(hl:ps.length<900){last:Nat}{k2:Option V}(h4:é H 4=some (.Ô (.lst (RS ps)))):∀(qs pre:List LP) (acc:List V) (x y:Option V),ps=pre++qs→acc.length≤pre.length→
  ∃x',Ev Ê (.fh (d+124) (.bi 0 Ã Ì) [1] [.fn 90 [.k 3,.ix ğ Ã,.bi 0 Ã Ì,.bl 0 [.k 0],.k 1]] (mL pre.length qs.length) acc ⟨H,[x,y],[some (.Ó 4),some (.int last),k2,some (Î t)]⟩) (⟨H,[x,x'],[some (.Ó 4),some (.int last),k2,some (Î t)]⟩,.vals (acc.reverse++bZ (fun k p=>ď p k ps.length last t) pre.length qs))
 |[],pre,acc,x,y,_,_=>⟨y,by simp only[bZ,Ŵ];exact i9⟩
 |q::qs,pre,acc,x,y,e,ha=>by
  have PU:pre.length<900:=by
   have:=congrArg oQ e;rw[ċ,Ă]at this;exact ä [_,_,_] (.c (.a È Á) n9 (.c (.a Â (.a ã Á)) È .z)) (.a Â Á) n9 rfl hl (Ņ this.symm)
  have c:=M9 (d:=d+3) (H:=H) (hp q (by rw[e];simp)) (k:=pre.length+1) (count:=ps.length) (last:=last) ho hh;have ek:((pre.length+1:Nat):Int)=(pre.length:Int)+1:=rfl;rw[ek]at c;have hi:item (.lst (RS ps)) (.int pre.length)=some (Ķ q):=by rw[e];exact qq (by exact ă ‹_› (by decide))
  have hv:=fq h4;have hz:=fS h4;have F5:blt 0 [.lst (RS ps)]=some (.int ps.length):=by
   have:=bV (l:=RS ps) (by unfold RS;rw[Ė];exact ă ‹_› (by decide));rw[this];unfold RS;rw[Ė]
  have hm:(Ð (.int pre.length)&&small acc)=true:=ê (by exact ä [_,_] (.c Â È (.c (.a È Á) n9 .z)) (.a Â Á) Ù rfl ha PU);rw[Ă,fz]
  induction hb:ď q (pre.length+1) ps.length last t using ñ with
  |true=>
   rw[hb]at c;rw[Cg (f:=fun k p=>ď p k ps.length last t) hb];obtain⟨x',ih⟩:=lJ ho hh hp hl h4 qs (pre++[q]) (.int ((pre.length:Int)+1)::acc) x (some (.int pre.length)) (by rw[e,ĝ];rfl) (by rw[ċ,Ă];simp;assumption);refine⟨x',?_⟩;rw[aq,ĝ,ċ]at ih;apply kh hm
   ·walk_at "w"
   ·walk_at "w"
   ·walk_at "w"
   ·rfl
   ·exact ih
  |false=>
   rw[hb]at c;rw[HV (f:=fun k p=>ď p k ps.length last t) hb];obtain⟨x',ih⟩:=lJ ho hh hp hl h4 qs (pre++[q]) acc x (some (.int pre.length)) (by rw[e,ĝ];rfl) (by rw[ċ,Ă];exact ă ‹_› (ź _ _));refine⟨x',?_⟩;rw[ċ]at ih;apply Hq hm
   ·walk_at "w"
   ·walk_at "w"
   ·exact ih
theorem Mt{t:Tr}(ho:t.ok)(hz:t.size<500)(hh:t.ĭ≤5){ps:List LP}(hp:∀p∈ps,p.Ok∧p.uid≠0)(hl:ps.length<900){H₁:List Cell}{c:V}(hc:Ô H c=some (H₁,.lst (LS ps))):
  Ev Ê (.call (d+121) 78 [Î t,c] H) (⟨H₁,[],[]⟩,.val (.lst (bZ (fun k p=>ď p k ps.length (cA ps) t) 0 ps))):=by
 refine oX (D:=120) (vs':=[Î t,.lst (LS ps)]) (by exact î _ _) ?_ (ym ho hz hh ps hp hl) rfl;have e:=ő (ī t) H;simp only[ē,e,hc,bN,bu,fb,aw]
theorem Ms{ps:List LP}(hp:∀p∈ps,p.Ok∧p.uid≠0)(hl:ps.length<900){H₁:List Cell}{c:V}(hc:Ô H c=some (H₁,.lst (ps.map fun p=>ģ p .none))):
  Ev Ê (.call (d+121) 78 [Î plainT,c] H) (⟨H₁,[],[]⟩,.val (.lst (bZ (fun k p=>ď p k ps.length (cA ps) plainT) 0 ps))):=by
 refine oX (D:=120) (vs':=[Î plainT,.lst (ps.map fun p=>ģ p .none)]) (by exact î _ _) ?_ (yn ps hp hl) rfl;have e:=ő (ī plainT) H;simp only[ē,e,hc,bN,bu,fb,aw]
structure Ls(ps:List LP)(u:Nat):Prop where
 ok:∀q∈ps,q.Ok∧q.uid≠0
 last:ps≠[]→cA ps=u
theorem lQ:∀(ps:List LP) (q:LP),cA (ps++[q])=q.uid
 |[],q=>rfl
 |[p],q=>rfl
 |p::p'::r,q=>lQ (p'::r) q
theorem Ls.snoc{ps:List LP}{u:Nat}(h:Ls ps u){q:LP}(hq:q.Ok)(h0:q.uid≠0):Ls (ps++[q]) q.uid:=⟨fun x hx=>by
 rcases sz.mp hx with hx|hx
 ·exact h.ok x hx
 ·rw[ė]at hx;subst hx;exact⟨hq,h0⟩,fun À=>lQ ps q⟩
theorem G9(ps:List LP)(q:LP):LS ps++[Ý q]=LS (ps++[q]):=by unfold LS;rw[dS];rfl
theorem G8(ps:List LP)(q:LP):RS ps++[Ķ q]=RS (ps++[q]):=by unfold RS;rw[dS];rfl
theorem sq{g0 g1:Cell}{arg:V}{t6:List (Option V)}{kt:List (Option V)}:∀(n:Nat) (i:Int) (ps:List LP) (p:bI) (B:Int) (u:Nat) (x3 x4 x5:Option V),p.Ok B→B+20*n+60<1000000→Ls ps u→ps.length+n<100→
  ∃(LK:List LP) (p':bI) (u':Nat) (y3 y4 y5:Option V),A4 (p'.Ok (B+20*n)) (Ls LK u') (LK.length<100) (Ev Ê (.qG (d+12) (.n false 3) (mL i n) [.as (.n true 1) (.bi 0 (.bi 0 (.k 1) Ì) (.fn 80 [.l 1,.c (.int 3)])),.as (.t [(false,4),(false,5)]) (.fn 82 [.l 1,.k 1]),.ex (.me Ë 7 [.l 4]),.ex (.me ğ 7 [.l 5])]
    ⟨[g0,g1,.lst (ð p),.lst (LS ps),.lst (RS ps)],some arg::some (.Ó 2)::some (.Ó 3)::x3::x4::x5::t6,some (.Ó 4)::some (.int u)::kt⟩)
    (⟨[g0,g1,.lst (ð p'),.lst (LS LK),.lst (RS LK)],some arg::some (.Ó 2)::some (.Ó 3)::y3::y4::y5::t6,some (.Ó 4)::some (.int u')::kt⟩,.next))
 |0,i,ps,p,B,u,x3,x4,x5,hp,hB,hl,hn=>⟨ps,p,u,x3,x4,x5,hp.up (by exact í [_] .z Â (.a Â (.m 20 Ē)) rfl),hl,by assumption,ui⟩
 |n+1,i,ps,p,B,u,x3,x4,x5,hp,hB,hl,hn=>by
  obtain⟨r,p1,h1,o1,c1⟩:=ü hp (by omega) (m:=3) (by exact Ĭ _) (by exact î _ _);obtain⟨q,p2,⟨hq,hu⟩,o2,c2⟩:=ve o1 (by omega) (u+1+r);obtain⟨LK,p',u',y3,y4,y5,o3,l3,n3,ih⟩:=sq n (i+1) (ps++[q]) p2 (B+1+12) q.uid (some (.int i)) (some (Ý q)) (some (Ķ q)) o2 (by exact í [_,_] (.c (.a (.a (.a Â (.m 20 (.a È Á))) hZ) Á) Ù .z) (.a (.a (.a (.a (.a Â Á) (.n 12)) (.m 20 È)) hZ) Á) Ù rfl hB) (hl.snoc hq (by exact fun eG=>Nb [_,_,_] (.c (.a (.a ã Á) Â) È (.c È Ē .z)) rfl (Ņ hu.symm) (Ņ eG))) (by rw[ċ,sA];exact ä [_,_] (.c (.a (.a Â (.a È Á)) Á) bM .z) (.a (.a (.a Â Á) È) Á) bM rfl hn);refine⟨LK,p',u',y3,y4,y5,o3.up (by exact í [_,_] .z (.a (.a (.a Â Á) (.n 12)) (.m 20 È)) (.a Â (.m 20 (.a È Á))) rfl),l3,n3,?_⟩;have zv:small (LS ps)=true:=ê (by unfold LS;rw[Ė];exact ä [_,_] (.c (.a (.a Â (.a È Á)) Á) bM .z) (.a Â Á) Ù rfl hn);have HC:small (RS ps)=true:=ê (by unfold RS;rw[Ė];exact ä [_,_] (.c (.a (.a Â (.a È Á)) Á) bM .z) (.a Â Á) Ù rfl hn);have a1:=G9 ps q;have a2:=G8 ps q;rw[hu]at ih;rw[←a1,←a2]at ih;have eu:((u+1+r:Nat):Int)=(u:Int)+1+(r:Int):=rfl;rw[eu]at c2 ih;rw[fz];apply mQ
  ·rfl
  ·walk_at "w"
  ·repeat (first|apply vK|walk_at "nz")
  ·exact ih
noncomputable def KV(b:Bool)(v:V):Cell:=match b,v with
 |true,v=>.Ô v
 |false,.lst l=>.lst l
 |false,v=>.Ô v
section
variable{P:Č}{S:St}{a b x y z:Cell}{a2 b2 x2 y2 z2:Cell}{T T2:List Cell}{ρ κ Ŕ Ĺ:List (Option V)}{elt it:PE}{ifs:List PE}{tg:List Nat}{v v':V}{vs l:List V}{n:Nat}
theorem co5{H₁:List Cell}(h1:Ev P (.ev (d+1) it S) (⟨H,ρ,κ⟩,.val v))(h2:Ô H v=some (H₁,v'))(h3:items v'=some l)(h4:Ev P (.fh d elt tg ifs l [] ⟨H₁,Ħ n none,κ⟩) (⟨a2::b2::x2::y2::z2::T2,Ŕ,Ĺ⟩,.vals vs)):
  Ev P (.ev (d+1) (.co elt tg it ifs n) S) (⟨a2::b2::x2::y2::z2::(T2++[.lst vs]),ρ,Ĺ⟩,.val (.Ó (T2.length+5))):=lq h1 h2 h3 h4
end
theorem fz3{b:Bool}{a c x z:Cell}{l:List V}{T:List Cell}:Ô (a::c::x::KV b (.lst l)::z::T) (.Ó 3)=some (a::c::x::.Ô (.lst l)::z::T,.lst l):=by induction b using ñ<;>rfl
theorem fz4{b:Bool}{a c x y:Cell}{l:List V}{T:List Cell}:ē (a::c::x::y::KV b (.lst l)::T) [.Ó 4]=some (a::c::x::y::.Ô (.lst l)::T,[.lst l]):=by induction b using ñ<;>rfl
theorem L_{a c x y z:Cell}{l:List V}{T:List Cell}:view (a::c::x::y::z::(T++[.lst l])) (.Ó (T.length+5))=some (.lst l):=by
 have:é (a::c::x::y::z::(T++[Cell.lst l])) (T.length+5)=some (.lst l):=Ĕ T _;simp only[view,this,bN,bu,fb,aw]
theorem Ci{ps:List LP}{u:Nat}(h:Ls ps u){t:Tr}:bZ (fun k p=>ď p k ps.length (cA ps) t) 0 ps=bZ (fun k p=>ď p k ps.length u t) 0 ps:=by
 induction ps using Ū with
 |nil=>rfl
 |cons p r=>rw[h.last (by simp)]
theorem turn{g0 g1:Cell}{p:bI}{B:Int}(hp:p.Ok B)(hB:B+60<1000000){ps:List LP}{u:Nat}(hl:Ls ps u)(hn:ps.length<100){b:Bool}{T:List Cell}{x0 x3 x4 x5 x6 x7 k2 k3:Option V}{t8:List (Option V)}:
  ∃(t:Tr) (X:List V) (p':bI),p'.Ok (B+25)∧
   Ev Ê (.dj (d+125) [.as (.n true 2) (.fn 86 [.l 1]),.as (.n false 7) (.co (.bi 0 Ã Ì) [1] (.bl 11 [.bl 0 [.k 0]]) [.fn 90 [.k 2,.ix ğ Ã,.bi 0 Ã Ì,.bl 0 [.k 0],.k 1]] 2),.if (.cm (.fn 78 [.k 2,.l 2]) [1] [.l 7]) [.re (.c (.bool false))] []]
    ⟨g0::g1::.lst (ð p)::KV b (.lst (LS ps))::KV b (.lst (RS ps))::T,x0::some (.Ó 2)::some (.Ó 3)::x3::x4::x5::x6::x7::t8,[some (.Ó 4),some (.int u),k2,k3]⟩)
    (⟨g0::g1::.lst (ð p')::.Ô (.lst (LS ps))::.Ô (.lst (RS ps))::(T++[.lst X]),x0::some (.Ó 2)::some (.Ó 3)::x3::x4::x5::x6::some (.Ó (T.length+5))::t8,[some (.Ó 4),some (.int u),some (Î t),k3]⟩,.next):=by
 obtain⟨t,p',⟨ho,hz,hh⟩,o1,c1⟩:=zQ hp (by exact í [_] (.c (.a (.a Â hZ) Á) Ù .z) (.a (.a Â br) Á) Ù rfl hB);obtain⟨x',c2⟩:=lK (d:=d) (H:=g0::g1::.lst (ð p')::KV b (.lst (LS ps))::.Ô (.lst (RS ps))::T) ho hh (fun q hq=>(hl.ok q hq).1) (by exact ă ‹_› (by decide)) (last:=u) (k3:=k3) rfl ps [] [] none none rfl (Ų _);have c3:=Mt (d:=d+4) (H:=g0::g1::.lst (ð p')::KV b (.lst (LS ps))::.Ô (.lst (RS ps))::(T++[.lst (bZ (fun k p=>ď p k ps.length u t) 0 ps)])) ho hz hh hl.ok (by exact ă ‹_› (by decide)) fz3;rw[Ci hl]at c3;have dX:=(xw (f:=fun k p=>ď p k ps.length u t) ps 0).ne;rw[oE,jF]at c2;rw[cB]at c2;generalize bZ (fun k p=>ď p k ps.length u t) 0 ps=X at c2 c3 dX;refine⟨t,X,p',o1,?_⟩;have F5:blt 0 [.lst (RS ps)]=some (.int ps.length):=by
  have:=bV (l:=RS ps) (by unfold RS;rw[Ė];exact ă ‹_› (by decide));rw[this];unfold RS;rw[Ė]
 have KI:Ć (ps.length:Int)=true:=by
  unfold Ć Ī;rw[ar];exact⟨decide_eq_true (by exact í [_] (.c (.a Â Á) bM .z) (.a Â Á) Ù rfl (bw.mpr hn)),decide_eq_true (by exact jG _)⟩
 have f4:=fz4 (b:=b) (a:=g0) (c:=g1) (x:=.lst (ð p')) (y:=KV b (.lst (LS ps))) (l:=RS ps) (T:=T);apply Ò
 ·apply ũ
  ·apply ll
   ·exact Ŗ (aQ rfl) ű
   ·exact c1 _ _ _ _
  ·exact vK rfl rfl
 apply Ò
 ·apply ũ
  ·apply co5
   ·apply Ŏ
    ·apply Ŗ
     ·apply ke
      ·exact Ŗ (As rfl) ű
      ·exact f4
      ·exact F5
      ·rfl
     ·exact ű
    ·rfl
    ·exact KI
   ·rfl
   ·rfl
   ·exact c2
  ·exact qU rfl rfl
 apply Ò
 ·apply g_ (q:=false)
  ·apply j0
   ·apply ll
    ·exact Ŗ (As rfl) (Ŗ (aQ rfl) ű)
    ·exact c3
   ·apply y_
    ·exact aQ rfl
    ·rfl
    ·exact L_
    ·exact dX
  ·intro h;exact â h
  ·intro _;exact gp
 exact gp
theorem c_{α}{x:α}{Y:List α}:∀{l:List α} {i:Nat},é l i=some x→é (l++Y) i=some x
 |[],_,h=>by exact nS h
 |a::r,0,h=>h
 |a::r,i+1,h=>c_ (l:=r) h
def sr(q:LP):V:=ģ q .none
theorem sT{q:LP}(hs:small (Ĩ q)=true):
  Ev Ê (.call (d+2) 92 [.Ó H.length,.int q.uid,.none,.tup (Ĩ q),.int (dW q.sp q.ti),.int q.mo] (H++[.ins 0 []])) (⟨H++[.ins 0 [(13,.int q.uid),(14,.none),(15,.tup (Ĩ q)),(16,.int (dW q.sp q.ti)),(17,.int q.mo)]],[],[]⟩,.val .none):=by
 apply eD (S:=⟨H++[.ins 0 []],[some (.Ó H.length),some (.int q.uid),some .none,some (.tup (Ĩ q)),some (.int (dW q.sp q.ti)),some (.int q.mo)],[]⟩) rfl rfl
 ·apply Ò
  ·apply ũ
   ·exact aQ rfl
   ·exact dA (aQ rfl) rfl (Ĕ _ _) rfl rfl ļ
  apply Ò
  ·apply ũ
   ·exact aQ rfl
   ·exact dA (aQ rfl) rfl (Ĕ _ _) rfl rfl ļ
  apply Ò
  ·apply ũ
   ·apply ke
    ·exact Ŗ (aQ rfl) ű
    ·rfl
    ·rfl
    ·rfl
   ·exact dA (aQ rfl) rfl (Ĕ _ _) rfl rfl ļ
  apply Ò
  ·apply ũ
   ·exact aQ rfl
   ·exact dA (aQ rfl) rfl (Ĕ _ _) rfl rfl ļ
  apply Ò
  ·apply ũ
   ·exact aQ rfl
   ·exact dA (aQ rfl) rfl (Ĕ _ _) rfl rfl ļ
  exact gp
 ·exact pU
theorem tq(q:LP):small (Ĩ q)=true:=by
 obtain⟨_,_,_,_,f0,f1,f2,f3,_,_,_⟩:=q
 induction f0 using ñ<;>induction f1 using ñ<;>induction f2 using ñ<;>induction f3 using ñ<;>rfl
theorem Li{κ:List (Option V)}(qs:List LP)(H:List Cell)(acc:List V)(x:Option V)(y:Option V)(hl:acc.length+qs.length<1000):∃(Y:List Cell) (x':Option V),
  Ev Ê (.fh (d+4) (.cl 0 [.at Ã 13,.c .none,.at Ã 15,.at Ã 16,.at Ã 17]) [1] [] (LS qs) acc ⟨H,[x,y],κ⟩) (⟨H++Y,[x,x'],κ⟩,.vals (acc.reverse++qs.map sr)):=by
 induction qs generalizing H acc x y with
 |nil=>
  exact⟨[],y,by
   have e:=i9 (P:=Ê) (d:=d+4) (elt:=(.cl 0 [.at Ã 13,.c .none,.at Ã 15,.at Ã 16,.at Ã 17])) (tg:=[1]) (ifs:=[]) (acc:=acc) (S:=⟨H,[x,y],κ⟩);rw[Ŵ,fK,Ŵ];exact e⟩
 |cons q qs IH=>
  rw[Ă]at hl;have c:=sT (d:=d+1) (H:=H) (tq q);have hz:=gh (H:=H) (c:=0) (l:=[(13,.int q.uid),(14,.none),(15,.tup (Ĩ q)),(16,.int (dW q.sp q.ti)),(17,.int q.mo)]);obtain⟨Y,x',ih⟩:=IH (H++[.Ô (sr q)]) (sr q::acc) x (some (Ý q)) (by rw[Ă];exact ä [_,_] (.c (.a (.a Â (.a È Á)) Á) aU .z) (.a (.a (.a Â Á) È) Á) aU rfl hl);refine⟨[.Ô (sr q)]++Y,x',?_⟩;rw[aq,ĝ,ĝ]at ih;have hm:(Ð (Ý q)&&small acc)=true:=ê (by exact ä [_,_] (.c (.a (.a Â (.a È Á)) Á) aU .z) (.a Â Á) Ù rfl hl);show Ev Ê (.fh (d+4) _ _ _ (Ý q::LS qs) acc _) _;apply kh hm
  ·walk_at "w"
  ·exact gO
  ·apply uM
   ·walk_at "w"
   ·rfl
   ·exact c
   ·rfl
   ·exact hz
  ·rfl
  ·exact ih
theorem Lh{ps:List LP}{u:Nat}(hl:Ls ps u)(hn:ps.length<100)(h3:é H 3=some (.Ô (.lst (LS ps))))(h4:é H 4=some (.Ô (.lst (RS ps)))){x0 x1 x3 x4 x5 x6 x7 x8 k2 k3:Option V}{t9:List (Option V)}{R:List PS}{v:V}
  (k:∀(Z:List Cell) (y8 PO:Option V),∃S',Ev Ê (.dj (d+125) R ⟨H++Z,x0::x1::some (.Ó 3)::x3::x4::x5::x6::x7::y8::t9,[some (.Ó 4),some (.int u),k2,PO]⟩) (S',.ret v)):
  ∃S',Ev Ê (.dj (d+125) (.as (.n false 8) (.co (.cl 0 [.at Ã 13,.c .none,.at Ã 15,.at Ã 16,.at Ã 17]) [1] Ë [] 2)::.as (.n true 3) (.tu [.c (.str [111,114]),.tu [.c (.str hV),.c (.str [107,119])],.tu [.c (.str [117,105,100]),.tu [.tu [.c (.int 2),.c (.int 0)]]]])::.if (.cm (.fn 78 [.k 3,.l 8]) [1] [.co (.bi 0 Ã Ì) [1] (.bl 11 [.bl 0 [.k 0]]) [.fn 90 [.k 3,.ix ğ Ã,.bi 0 Ã Ì,.bl 0 [.k 0],.k 1]] 2]) [.re (.c (.bool false))] []::R)
    ⟨H,x0::x1::some (.Ó 3)::x3::x4::x5::x6::x7::x8::t9,[some (.Ó 4),some (.int u),k2,k3]⟩) (S',.ret v):=by
 obtain⟨Y,x',c1⟩:=Li (d:=d+120) (κ:=[some (.Ó 4),some (.int u),k2,k3]) ps H [] none none (by rw[cB];exact ä [_] (.c (.a Â Á) bM .z) (.a (.a Ē Â) Á) aU rfl hn);rw[oE,jF]at c1;have c2:=Ms (d:=d+4) (H:=H++Y++[.lst (ps.map sr)]) hl.ok (by exact ă ‹_› (by decide)) iy;have h5:é (H++Y++[.Ô (.lst (ps.map sr))]) 4=some (.Ô (.lst (RS ps))):=c_ (c_ h4);have ho:plainT.ok:=⟨by show 3<4;exact Ų _,trivial⟩;obtain⟨x2,c3⟩:=lJ (d:=d) (H:=H++Y++[.Ô (.lst (ps.map sr))]) ho (by decide) (fun q hq=>(hl.ok q hq).1) (by exact ă ‹_› (by decide)) (last:=u) (k2:=k2) h5 ps [] [] none none rfl (Ų _);rw[Ci hl]at c2;have dX:=(xw (f:=fun k p=>ď p k ps.length u plainT) ps 0).ne;rw[oE,jF,cB]at c3;generalize bZ (fun k p=>ď p k ps.length u plainT) 0 ps=X at c2 c3 dX;have F5:blt 0 [.lst (RS ps)]=some (.int ps.length):=by
  have:=bV (l:=RS ps) (by unfold RS;rw[Ė];exact ă ‹_› (by decide));rw[this];unfold RS;rw[Ė]
 have KI:Ć (ps.length:Int)=true:=by
  unfold Ć Ī;rw[ar];exact⟨decide_eq_true (by exact í [_] (.c (.a Â Á) bM .z) (.a Â Á) Ù rfl (bw.mpr hn)),decide_eq_true (by exact jG _)⟩
 obtain⟨S',k⟩:=k (Y++([.Ô (.lst (ps.map sr))]++[.lst X])) (some (.Ó (H++Y).length)) (some (Î plainT));rw[←ĝ,←ĝ]at k;refine⟨S',?_⟩;apply Ò
 ·apply ũ
  ·apply lq
   ·exact aQ rfl
   ·exact qD h3
   ·rfl
   ·exact c1
  ·exact qU rfl rfl
 apply Ò
 ·apply ũ (v:=Î plainT)
  ·walk_at "w"
  ·exact vK rfl rfl
 apply Ò
 ·apply g_ (q:=false)
  ·apply j0
   ·apply ll
    ·exact Ŗ (As rfl) (Ŗ (aQ rfl) ű)
    ·exact c2
   ·apply y_
    ·apply lq
     ·apply Ŏ
      ·apply Ŗ
       ·apply ke
        ·exact Ŗ (As rfl) ű
        ·exact fS h5
        ·exact F5
        ·rfl
       ·exact ű
      ·rfl
      ·exact KI
     ·rfl
     ·rfl
     ·exact c3
    ·rfl
    ·exact dE
    ·exact dX
  ·intro h;exact â h
  ·intro _;exact gp
 exact k
theorem l6{L pt:V}{k:Nat}(hL:Ð L=true)(hp:Ð pt=true):Ev Ê (.call (d+1) 109 [.Ó H.length,L,.int k,pt] (H++[.ins 6 []])) (⟨H++[.ins 6 [(46,L),(32,.int k),(47,pt)]],[],[]⟩,.val .none):=by
 have e1:=ő hL (H++[.ins 6 []]);have e2:=ő hp (H++[.ins 6 [(46,L),(32,.int k)]]);apply eD (S:=⟨H++[.ins 6 []],[some (.Ó H.length),some L,some (.int k),some pt],[]⟩) rfl rfl
 ·apply Ò
  ·apply ũ
   ·exact aQ rfl
   ·exact dA (aQ rfl) e1 (Ĕ _ _) rfl rfl ļ
  apply Ò
  ·apply ũ
   ·exact aQ rfl
   ·exact dA (aQ rfl) rfl (Ĕ _ _) rfl rfl ļ
  apply Ò
  ·apply ũ
   ·exact aQ rfl
   ·exact dA (aQ rfl) e2 (Ĕ _ _) rfl rfl ļ
  exact gp
 ·exact pU
def jx(q:LP)(k:Nat):V:=.ins 6 [(46,Ý q),(32,.int k),(47,.none)]
def nU(q:LP)(k:Nat):V:=.ins 6 [(46,Ý q),(32,.int k),(47,ġ q.n q.s q.b)]
theorem z_{q:LP}{k:Nat}:Ev Ê (.call (d+4) 77 [Ý q,.int k,.bool false] H) (⟨H,[],[]⟩,.val (jx q k)):=by
 have c:=l6 (d:=d+1) (H:=H) (k:=k) (show Ð (Ý q)=true from rfl) (pt:=.none) rfl;have hz:=gh (H:=H) (c:=6) (l:=[(46,Ý q),(32,.int k),(47,.none)]);apply É (S:=⟨H,[some (Ý q),some (.int k),some (.bool false)],[]⟩) rfl rfl;walk_at "w"
theorem SM{n s b:Nat}(hn:n<6)(hs:s<4)(hb:b<4):Ev Ê (.call (d+121) 49 [.bytes (txt n s b)] H) (⟨H,[],[]⟩,.val (ġ n s b)):=
 Ej (M7 (d:=39) (H:=[]) hn hs hb) rfl rfl rfl
theorem yl{q:LP}(hq:q.Ok){k:Nat}:Ev Ê (.call (d+124) 77 [Ý q,.int k,.bool true] H) (⟨H,[],[]⟩,.val (nU q k)):=by
 have c:=l6 (d:=d+121) (H:=H) (k:=k) (L:=Ý q) (pt:=ġ q.n q.s q.b) rfl rfl;have c2:=SM (d:=d+2) (H:=H) hq.n hq.s hq.b;have hz:=gh (H:=H) (c:=6) (l:=[(46,Ý q),(32,.int k),(47,ġ q.n q.s q.b)]);apply É (S:=⟨H,[some (Ý q),some (.int k),some (.bool true)],[]⟩) rfl rfl;walk_at "w"
theorem Eb{n:Nat}:Ev Ê (.call (d+121) 103 [eZ n] H) (⟨H,[],[]⟩,.val (.str ň)):=Ej (use2 (d:=39) (H:=[]) (zK (d:=19) (H:=[]) (n:=n)) rfl rfl rfl) rfl rfl rfl
theorem Ea{s:Nat}:Ev Ê (.call (d+121) 103 [cP s] H) (⟨H,[],[]⟩,.val (.str Ġ)):=Ej (use2 (d:=39) (H:=[]) (zJ (d:=19) (H:=[]) (s:=s)) rfl rfl rfl) rfl rfl rfl
def kU(q:LP):V:=.tup [.int q.uid,.bytes (txt q.n q.s q.b),.tup (Ĩ q),.int (dW q.sp q.ti),.int q.mo]
theorem Mf{q:LP}:Ev Ê (.call (d+3) 94 [Ý q] H) (⟨H,[],[]⟩,.val (kU q)):=by
 apply É (S:=⟨H,[some (Ý q)],[]⟩) rfl rfl;walk_at "w"
theorem qj{b:Bool}{x:List Nat}{y:V}(h:y∈(if b then[V.str x]else[])):∃i,y=.str i:=by
 induction b using ñ with
 |true=>exact⟨_,ė.mp h⟩
 |false=>cases h
theorem yT{q:LP}{y:V}(h:y∈Ĩ q):∃i,y=.str i:=by
 rcases sz.mp h with h|h
 ·exact qj h
 rcases sz.mp h with h|h
 ·exact qj h
 rcases sz.mp h with h|h
 ·exact qj h
 exact qj h
theorem Ew{q:LP}:cmp 1 (kU q) (kU q)=some false:=by
 have e:gN (kU q) (kU q)=some true:=pL fun x hx=>by
  rcases Ą.mp hx with rfl|hx
  ·exact d9
  rcases Ą.mp hx with rfl|hx
  ·exact xV
  rcases Ą.mp hx with rfl|hx
  ·refine pL fun y hy=>?_;have:∃i,y=.str i:=yT hy;obtain⟨i,rfl⟩:=this;exact Eg
  rcases Ą.mp hx with rfl|hx
  ·exact d9
  rcases Ą.mp hx with rfl|hx
  ·exact d9
  ·cases hx
 show(gN (kU q) (kU q)).map not=_;rw[e];rfl
theorem E7{i j:Int}:cmp 1 (.tup [.int i,.int j]) (.tup [.int i,.int j])=some false:=by
 have e:gN (.tup [.int i,.int j]) (.tup [.int i,.int j])=some true:=pL fun x hx=>by
  rcases Ą.mp hx with rfl|hx
  ·exact d9
  rcases Ą.mp hx with rfl|hx
  ·exact d9
  ·cases hx
 show(gN (.tup [.int i,.int j]) (.tup [.int i,.int j])).map not=_;rw[e];rfl
theorem KG{i:Int}:cmp 1 (.int i) (.int i)=some false:=by
 show(gN (.int i) (.int i)).map not=_;rw[show gN (.int i) (.int i)=some true from d9];rfl
noncomputable def ag(n:Nat):List V:=match Đ n 5 with
 |true=>[.str ň,.str Ġ]
 |false=>[.str Ġ]
theorem yx{n s:Nat}{κ:List (Option V)}{x y:Option V}:∃x',Ev Ê (.fh (d+122) (.me Ã 57 []) [1] [] (ě n s) [] ⟨H,[x,y],κ⟩) (⟨H,[x,x'],κ⟩,.vals (ag n)):=by
 have c1:=Eb (d:=d+1) (H:=H) (n:=n);have c2:=Ea (d:=d+1) (H:=H) (s:=s);unfold ě ag
 induction Đ n 5 using ñ with
 |true=>
  refine⟨some (cP s),?_⟩;apply kh (v:=eZ n)
  ·rfl
  ·walk_at "w"
  ·exact gO
  ·walk_at "w"
  ·rfl
  apply kh (v:=cP s)
  ·rfl
  ·walk_at "w"
  ·exact gO
  ·walk_at "w"
  ·rfl
  exact i9
 |false=>
  refine⟨some (cP s),?_⟩;apply kh (v:=cP s)
  ·rfl
  ·walk_at "w"
  ·exact gO
  ·walk_at "w"
  ·rfl
  exact i9
theorem Lm{q:LP}:cmp 1 (.lst (ag q.n)) (.lst (ag q.n))=some false:=by
 unfold ag
 induction Đ q.n 5 using ñ<;>rfl
theorem AS{α}{x y:α}(X:List α):é (X++[x]++[y]) X.length=some x:=by
 induction X with
 |nil=>
  exact rfl
 |cons a X IH=>
  exact IH
theorem JK{α}{x y z:α}(X:List α):put (X++[x]++[y]) X.length z=X++[z]++[y]:=by
 induction X with
 |nil=>
  exact rfl
 |cons a X IH=>
  exact congrArg (a:: ·) IH
theorem B4{l:List V}{y:Cell}:Ô (H++[.lst l]++[y]) (.Ó H.length)=some (H++[.Ô (.lst l)]++[y],.lst l):=by simp only[Ô,AS,JK,bN,bu,fb,aw]
theorem B3{l:List V}{x y:Cell}:Ô (H++[x]++[.lst l]) (.Ó (H++[y]).length)=some (H++[x]++[.Ô (.lst l)],.lst l):=by
 have e:(H++[y]).length=(H++[x]).length:=by rw[ċ,ċ];rfl
 rw[e];exact iy
theorem Ee{l:List V}{y:Cell}:view (H++[.lst l]++[y]) (.Ó H.length)=some (.lst l):=by simp only[view,AS,bN,bu,fb,aw]
theorem A7{q:LP}(hq:q.Ok){S:St}{ρ κ:List (Option V)}(c:Ev Ê (.ev d (.ix (.ix ğ û) jy) ⟨H,ρ,κ⟩) (⟨H,ρ,κ⟩,.val (.str (Æ æ q.n)))):
  ∃X,Ev Ê (.ev d (.bi 0 (.te (.cm (.ix (.ix ğ û) jy) [1] [.c (.str [])]) (.li [.c (.str ň)]) (.li [])) (.li [.c (.str Ġ)])) ⟨H,ρ,κ⟩) (⟨H++X++[.lst (ag q.n)],ρ,κ⟩,.val (.Ó (H++X).length)):=by
 obtain⟨_,hc⟩:=xy hq.n;unfold ag
 induction hb:Đ q.n 5 using ñ with
 |true=>
  rw[hb]at hc;refine⟨[.Ô (.lst [.str ň])]++[.Ô (.lst [.str Ġ])],?_⟩;rw[←ĝ];apply rI
  ·apply JH (q:=true)
   ·apply j0
    ·exact c
    ·exact y_ nY rfl rfl hc
   ·intro _;exact i7 (Ŗ nY ű) rfl rfl
   ·intro h;exact ĕ h
  ·exact i7 (Ŗ nY ű) rfl rfl
  ·exact B4
  ·exact B3
  ·rfl
  ·rfl
 |false=>
  rw[hb]at hc;refine⟨[.Ô (.lst [])]++[.Ô (.lst [.str Ġ])],?_⟩;rw[←ĝ];apply rI
  ·apply JH (q:=false)
   ·apply j0
    ·exact c
    ·exact y_ nY rfl rfl hc
   ·intro h;exact â h
   ·intro _;exact i7 ű rfl rfl
  ·exact i7 (Ŗ nY ű) rfl rfl
  ·exact B4
  ·exact B3
  ·rfl
  ·rfl
theorem yG{ps pre qs:List LP}{q:LP}(e:ps=pre++q::qs)(hn:ps.length<100)(hq:q.Ok)(h3:é H 3=some (.Ô (.lst (LS ps))))(h4:é H 4=some (.Ô (.lst (RS ps)))){x0 x1 x3 x4 x5 x7 x8 x9 x10 x11:Option V}{κ:List (Option V)}:
  ∃(Z:List Cell) (y9 Iy Iw:Option V),
   Ev Ê (.dj (d+128) [.as (.n false 9) (.fn 77 [.ix Ë û,.bi 0 ţ û,.c (.bool false)]),.as (.n false 10) (.fn 77 [.ix Ë û,.bi 0 ţ û,.c (.bool true)]),.if (.bo false [.cm (.at cv 47) [7] [.c .none],.cm (.tu [.at cv 32,.at (.at cv 46) 13]) [1] [.tu [.bi 0 ţ û,.ix (.ix ğ û) nZ]],.cm (.at dJ 32) [1] [.bi 0 ţ û]]) [.re (.c (.bool false))] [],.as (.n false 11) (.bi 0 (.te (.cm (.ix (.ix ğ û) jy) [1] [.c (.str [])]) (.li [.c (.str ň)]) (.li [])) (.li [.c (.str Ġ)])),.if (.bo false [.cm (.co (.me Ã 57 []) [1] (.at (.at dJ 47) 40) [] 2) [1] [.l 11],.cm (.me (.at dJ 46) 58 []) [1] [.me (.ix Ë û) 58 []]]) [.re (.c (.bool false))] []]
    ⟨H,[x0,x1,some (.Ó 3),x3,x4,x5,some (.int pre.length),x7,x8,x9,x10,x11],some (.Ó 4)::κ⟩)
    (⟨H++Z,[x0,x1,some (.Ó 3),x3,x4,x5,some (.int pre.length),x7,x8,y9,Iy,Iw],some (.Ó 4)::κ⟩,.next):=by
 have PU:pre.length<100:=by
  have:=congrArg oQ e;rw[ċ,Ă]at this;exact ä [_,_,_] (.c (.a È Á) bM (.c (.a Â (.a ã Á)) È .z)) (.a Â Á) bM rfl hn (Ņ this.symm)
 have c1:=z_ (d:=d+124) (H:=H) (q:=q) (k:=7+pre.length);have c2:=yl (d:=d+4) (H:=H) hq (k:=7+pre.length);have ek:((7+pre.length:Nat):Int)=7+(pre.length:Int):=rfl;rw[ek]at c1 c2;have hv3:=fq h3;have hv4:=fq h4;have i3:item (.lst (LS ps)) (.int pre.length)=some (Ý q):=by rw[e];exact F0 (by exact ă ‹_› (by decide))
 have i4:item (.lst (RS ps)) (.int pre.length)=some (Ķ q):=by rw[e];exact qq (by exact ă ‹_› (by decide))
 have n1:cmp 1 (.tup [.int ((7+pre.length:Nat):Int),.int q.uid]) (.tup [.int (7+(pre.length:Int)),.int q.uid])=some false:=by rw[ek];exact E7
 have n2:cmp 1 (.int ((7+pre.length:Nat):Int)) (.int (7+(pre.length:Int)))=some false:=by rw[ek];exact KG
 obtain⟨X,c3⟩:=A7 (d:=d+128) (H:=H) hq (S:=⟨[],[],[]⟩) (ρ:=[x0,x1,some (.Ó 3),x3,x4,x5,some (.int pre.length),x7,x8,some (jx q (7+pre.length)),some (nU q (7+pre.length)),x11]) (κ:=some (.Ó 4)::κ) (by walk_at "w");have g3:é (H++X++[.lst (ag q.n)]) 3=some (.Ô (.lst (LS ps))):=c_ (c_ h3);have g3':é (H++X++[.lst (ag q.n)]++[.lst (ag q.n)]) 3=some (.Ô (.lst (LS ps))):=c_ g3;have v3:=fq g3';obtain⟨x',c4⟩:=yx (d:=d+5) (H:=H++X++[.lst (ag q.n)]) (n:=q.n) (s:=q.s) (κ:=some (.Ó 4)::κ) (x:=none) (y:=none);have c5:=Mf (d:=d+125) (H:=H++X++[.lst (ag q.n)]++[.lst (ag q.n)]) (q:=q);have n3:=Ew (q:=q);refine⟨X++([.lst (ag q.n)]++[.lst (ag q.n)]),some (jx q (7+pre.length)),some (nU q (7+pre.length)),some (.Ó (H++X).length),?_⟩;rw[←ĝ,←ĝ];have s1:Ev Ê (.ex (d+128) (.as (.n false 9) (.fn 77 [.ix Ë û,.bi 0 ţ û,.c (.bool false)])) ⟨H,[x0,x1,some (.Ó 3),x3,x4,x5,some (.int pre.length),x7,x8,x9,x10,x11],some (.Ó 4)::κ⟩) (⟨H,[x0,x1,some (.Ó 3),x3,x4,x5,some (.int pre.length),x7,x8,some (jx q (7+pre.length)),x10,x11],some (.Ó 4)::κ⟩,.next):=by
  repeat (first|apply ũ|walk_at "nz")
 have s2:Ev Ê (.ex (d+128) (.as (.n false 10) (.fn 77 [.ix Ë û,.bi 0 ţ û,.c (.bool true)])) ⟨H,[x0,x1,some (.Ó 3),x3,x4,x5,some (.int pre.length),x7,x8,some (jx q (7+pre.length)),x10,x11],some (.Ó 4)::κ⟩) (⟨H,[x0,x1,some (.Ó 3),x3,x4,x5,some (.int pre.length),x7,x8,some (jx q (7+pre.length)),some (nU q (7+pre.length)),x11],some (.Ó 4)::κ⟩,.next):=by
  repeat (first|apply ũ|walk_at "nz")
 have s3:Ev Ê (.gr (d+128) (.bo false [.cm (.at cv 47) [7] [.c .none],.cm (.tu [.at cv 32,.at (.at cv 46) 13]) [1] [.tu [.bi 0 ţ û,.ix (.ix ğ û) nZ]],.cm (.at dJ 32) [1] [.bi 0 ţ û]]) ⟨H,[x0,x1,some (.Ó 3),x3,x4,x5,some (.int pre.length),x7,x8,some (jx q (7+pre.length)),some (nU q (7+pre.length)),x11],some (.Ó 4)::κ⟩) (⟨H,[x0,x1,some (.Ó 3),x3,x4,x5,some (.int pre.length),x7,x8,some (jx q (7+pre.length)),some (nU q (7+pre.length)),x11],some (.Ó 4)::κ⟩,.val (.bool false)):=by
  walk_at "w"
 apply Ò s1;apply Ò s2;apply Ò
 ·apply g_ s3
  ·intro h;exact â h
  ·intro _;exact gp
 apply Ò
 ·apply ũ c3;exact qU rfl rfl
 apply Ò
 ·apply g_ (q:=false)
  ·apply yd;apply ri (p:=false)
   ·apply j0
    ·apply lq
     ·walk_at "w"
     ·rfl
     ·rfl
     ·exact c4
    ·exact y_ (aQ rfl) dE Ee Lm
   ·intro _;apply ri (p:=false)
    ·apply j0
     ·apply JI (j:=94) rfl
      ·walk_at "w"
      ·rfl
      ·rfl
      ·rfl
      ·rfl
      ·exact ű
      ·exact c5
     ·apply y_
      ·apply JI (j:=94) rfl
       ·walk_at "w"
       ·rfl
       ·rfl
       ·rfl
       ·rfl
       ·exact ű
       ·exact c5
      ·rfl
      ·rfl
      ·exact n3
    ·intro _;exact gO
    ·intro h;exact â h
   ·intro h;exact â h
  ·intro h;exact â h
  ·intro _;exact gp
 exact gp
theorem oz{ps:List LP}(hp:∀q∈ps,q.Ok)(hn:ps.length<100){x0 x1 x3 x4 x5 x7 x8:Option V}{κ:List (Option V)}:∀(qs pre:List LP) (H:List Cell) (x6 x9 x10 x11:Option V),ps=pre++qs→é H 3=some (.Ô (.lst (LS ps)))→é H 4=some (.Ô (.lst (RS ps)))→
  ∃(Z:List Cell) (y6 y9 Iy Iw:Option V),
   Ev Ê (.qG (d+128) (.n false 6) (mL pre.length qs.length) [.as (.n false 9) (.fn 77 [.ix Ë û,.bi 0 ţ û,.c (.bool false)]),.as (.n false 10) (.fn 77 [.ix Ë û,.bi 0 ţ û,.c (.bool true)]),.if (.bo false [.cm (.at cv 47) [7] [.c .none],.cm (.tu [.at cv 32,.at (.at cv 46) 13]) [1] [.tu [.bi 0 ţ û,.ix (.ix ğ û) nZ]],.cm (.at dJ 32) [1] [.bi 0 ţ û]]) [.re (.c (.bool false))] [],.as (.n false 11) (.bi 0 (.te (.cm (.ix (.ix ğ û) jy) [1] [.c (.str [])]) (.li [.c (.str ň)]) (.li [])) (.li [.c (.str Ġ)])),.if (.bo false [.cm (.co (.me Ã 57 []) [1] (.at (.at dJ 47) 40) [] 2) [1] [.l 11],.cm (.me (.at dJ 46) 58 []) [1] [.me (.ix Ë û) 58 []]]) [.re (.c (.bool false))] []]
    ⟨H,[x0,x1,some (.Ó 3),x3,x4,x5,x6,x7,x8,x9,x10,x11],some (.Ó 4)::κ⟩)
    (⟨H++Z,[x0,x1,some (.Ó 3),x3,x4,x5,y6,x7,x8,y9,Iy,Iw],some (.Ó 4)::κ⟩,.next)
 |[],pre,H,x6,x9,x10,x11,e,h3,h4=>⟨[],x6,x9,x10,x11,by rw[Ŵ];exact ui⟩
 |q::qs,pre,H,x6,x9,x10,x11,e,h3,h4=>by
  obtain⟨Z,y9,Iy,Iw,c⟩:=yG (d:=d) (H:=H) (κ:=κ) (x0:=x0) (x1:=x1) (x3:=x3) (x4:=x4) (x5:=x5) (x7:=x7) (x8:=x8) (x9:=x9) (x10:=x10) (x11:=x11) e hn (hp q (by rw[e];simp)) h3 h4;obtain⟨Z2,y6,z9,Ys,Yr,ih⟩:=oz hp hn qs (pre++[q]) (H++Z) (some (.int pre.length)) y9 Iy Iw (by rw[e,ĝ];rfl) (c_ h3) (c_ h4);refine⟨Z++Z2,y6,z9,Ys,Yr,?_⟩;rw[ċ,ĝ]at ih;rw[Ă,fz];apply mQ
  ·rfl
  ·exact qU rfl rfl
  ·exact c
  ·exact ih
theorem Gw{f:Nat→LP→Bool}(hf:∀k p,f k p=true)(ps:List LP)(n:Nat):bZ f n ps=mL ((n:Int)+1) ps.length:=by
 induction ps generalizing n with
 |nil=>
  exact rfl
 |cons p r IH=>
  rw[Cg (hf _ _),IH (n+1),Ă,fz];rfl
theorem wx:∀(n:Nat) (i:Int),AllInt (mL i n)
 |0,_=>fun x hx=>by cases hx
 |n+1,i=>fun x hx=>by
  rcases Ą.mp hx with rfl|hx
  ·exact⟨_,rfl⟩
  ·exact wx n (i+1) x hx
theorem qw{i:Int}(h0:0≤i)(h1:i<1000):Ć i=true:=by
 unfold Ć Ī;rw[ar];exact⟨decide_eq_true (by exact wZ ‹_› (by decide)),decide_eq_true (by omega)⟩
theorem KY{ps:List LP}{u:Nat}(hl:Ls ps u)(hn:ps.length<100)(h3:é H 3=some (.Ô (.lst (LS ps)))){x0 x1:Option V}{ρ κ:List (Option V)}:
  ∃S',Ev Ê (.dj (d+129) [.re (.cm (.fn 78 [.tu [.c (.str [97,108,108])],.l 2]) [0] [.bl 10 [.c (.int 1),.bi 0 (.bl 0 [.l 2]) Ì]])] ⟨H,x0::x1::some (.Ó 3)::ρ,κ⟩) (S',.ret (.bool true)):=by
 have c:=Mt (d:=d+8) (H:=H) (t:=.leaf .all) trivial (by decide) (by decide) hl.ok (by exact ă ‹_› (by decide)) (qD h3);rw[Gw (f:=fun k p=>ď p k ps.length (cA ps) (.leaf .all)) (fun À À=>rfl)]at c;have F5:blt 0 [.lst (LS ps)]=some (.int ps.length):=by
  have:=bV (l:=LS ps) (by unfold LS;rw[Ė];exact ă ‹_› (by decide));rw[this];unfold LS;rw[Ė]
 have e:((ps.length:Int)+1 - 1).toNat=ps.length:=by omega
 have Ge:=lu (P:=Ê) (d:=d+129) (as:=[.c (.int 1),.bi 0 (.bl 0 [.l 2]) Ì]) (S:=⟨H,x0::x1::some (.Ó 3)::ρ,κ⟩) (H:=H) (H₁:=H) (ρ:=x0::x1::some (.Ó 3)::ρ) (κ:=κ) (vs:=[.int 1,.int ((ps.length:Int)+1)]) (p:=1) (q:=(ps.length:Int)+1) (by
  apply Ŗ nY;apply Ŗ
  ·apply rI
   ·apply ke
    ·exact Ŗ (aQ rfl) ű
    ·exact fS h3
    ·exact F5
    ·rfl
   ·exact nY
   ·rfl
   ·rfl
   ·rfl
   ·rfl
  ·exact ű) rfl (by rw[qw (by decide) (by decide),qw (by exact jG _) (by exact í [_] (.c (.a Â Á) bM .z) (.a (.a Â Á) Á) aU rfl (bw.mpr hn))];rfl)
 rw[e]at Ge;refine⟨⟨H++[.lst (mL 1 ps.length)],x0::x1::some (.Ó 3)::ρ,κ⟩,?_⟩;have heq:cmp 0 (.lst (mL 1 ps.length)) (.lst (mL 1 ps.length))=some true:=(wx ps.length 1).eq;apply dp;apply qY;apply yu
 ·apply ll
  ·apply Ŗ
   ·exact uL (Ŗ nY ű) rfl rfl
   apply Ŗ
   ·exact aQ rfl
   ·exact ű
  ·exact c
 ·apply y_
  ·exact Ge
  ·rfl
  ·exact dE
  ·exact heq
theorem Kf{xs:List Int}(h:xs.length<1000000)(d:Nat):∃S',Ev Ê (.call (d+130) 91 [.lst (xs.map .int)] []) (S',.val (.bool true)):=by
 obtain⟨g0,g1,p,fk,hp,c1⟩:=Lj h (d+121);obtain⟨r,p1,hr,o1,c2⟩:=ü hp (by decide) (m:=5) (by exact Ĭ _) (by exact î _ _);obtain⟨ps,p2,u,y3,y4,y5,o2,hl,hn,c3⟩:=sq (d:=d+116) (g0:=g0) (g1:=g1) (arg:=.lst (xs.map .int)) (t6:=[none,none,none,none,none,none]) (kt:=[none,none]) r 0 [] p1 _ 0 none none none o1 (by omega) ⟨(by intro x hx;cases hx),(fun h=>absurd rfl h)⟩ (by rw[cB];exact ä [_] (.c (.a Â Á) jB .z) (.a (.a Ē Â) Á) bM rfl hr);obtain⟨t1,X1,p3,o3,c4⟩:=turn (d:=d+3) (g0:=g0) (g1:=g1) o2 (by omega) hl hn (b:=false) (T:=[]) (x0:=some (.lst (xs.map .int))) (x3:=some (.int 0)) (x4:=y4) (x5:=y5) (x6:=none) (x7:=none) (k2:=none) (k3:=none) (t8:=[none,none,none,none]);obtain⟨t2,X2,p4,o4,c5⟩:=turn (d:=d+3) (g0:=g0) (g1:=g1) o3 (by omega) hl hn (b:=true) (T:=[.lst X1]) (x0:=some (.lst (xs.map .int))) (x3:=some (.int 1)) (x4:=y4) (x5:=y5) (x6:=none) (x7:=some (.Ó 5)) (k2:=some (Î t1)) (k3:=none) (t8:=[none,none,none,none]);have KI:Ć (r:Int)=true:=qw (by exact jG _) (by exact bw.mpr (ik ‹_› (by decide)));have F5:blt 0 [.lst (RS ps)]=some (.int ps.length):=by
  have:=bV (l:=RS ps) (by unfold RS;rw[Ė];exact ă ‹_› (by decide));rw[this];unfold RS;rw[Ė]
 have Tf:Ć (ps.length:Int)=true:=qw (by exact jG _) (by exact bw.mpr (ik ‹_› (by decide)));have tail:∃S',Ev Ê (.dj (d+129) [.as (.n false 8) (.co (.cl 0 [.at Ã 13,.c .none,.at Ã 15,.at Ã 16,.at Ã 17]) [1] Ë [] 2),.as (.n true 3) (.tu [.c (.str [111,114]),.tu [.c (.str hV),.c (.str [107,119])],.tu [.c (.str [117,105,100]),.tu [.tu [.c (.int 2),.c (.int 0)]]]]),.if (.cm (.fn 78 [.k 3,.l 8]) [1] [.co (.bi 0 Ã Ì) [1] (.bl 11 [.bl 0 [.k 0]]) [.fn 90 [.k 3,.ix ğ Ã,.bi 0 Ã Ì,.bl 0 [.k 0],.k 1]] 2]) [.re (.c (.bool false))] [],.fo (.n false 6) (.bl 11 [.bl 0 [.k 0]]) [.as (.n false 9) (.fn 77 [.ix Ë û,.bi 0 ţ û,.c (.bool false)]),.as (.n false 10) (.fn 77 [.ix Ë û,.bi 0 ţ û,.c (.bool true)]),.if (.bo false [.cm (.at cv 47) [7] [.c .none],.cm (.tu [.at cv 32,.at (.at cv 46) 13]) [1] [.tu [.bi 0 ţ û,.ix (.ix ğ û) nZ]],.cm (.at dJ 32) [1] [.bi 0 ţ û]]) [.re (.c (.bool false))] [],.as (.n false 11) (.bi 0 (.te (.cm (.ix (.ix ğ û) jy) [1] [.c (.str [])]) (.li [.c (.str ň)]) (.li [])) (.li [.c (.str Ġ)])),.if (.bo false [.cm (.co (.me Ã 57 []) [1] (.at (.at dJ 47) 40) [] 2) [1] [.l 11],.cm (.me (.at dJ 46) 58 []) [1] [.me (.ix Ë û) 58 []]]) [.re (.c (.bool false))] []],.re (.cm (.fn 78 [.tu [.c (.str [97,108,108])],.l 2]) [0] [.bl 10 [.c (.int 1),.bi 0 (.bl 0 [.l 2]) Ì]])] ⟨g0::g1::.lst (ð p4)::.Ô (.lst (LS ps))::.Ô (.lst (RS ps))::([.lst X1]++[.lst X2]),some (.lst (xs.map .int))::some (.Ó 2)::some (.Ó 3)::some (.int 1)::y4::y5::none::some (.Ó 6)::[none,none,none,none],[some (.Ó 4),some (.int u),some (Î t2),none]⟩) (S',.ret (.bool true)):=by
  refine Lh (d:=d+4) hl hn rfl rfl fun Z y8 PO=>?_;obtain⟨Z2,y6,y9,Iy,Iw,c6⟩:=oz (d:=d) (fun q hq=>(hl.ok q hq).1) hn ps [] (g0::g1::.lst (ð p4)::.Ô (.lst (LS ps))::.Ô (.lst (RS ps))::([.lst X1]++[.lst X2])++Z) (x0:=some (.lst (xs.map .int))) (x1:=some (.Ó 2)) (x3:=some (.int 1)) (x4:=y4) (x5:=y5) (x7:=some (.Ó 6)) (x8:=y8) (κ:=[some (.int u),some (Î t2),PO]) none none none none rfl rfl rfl;obtain⟨S',c7⟩:=KY (d:=d) (H:=g0::g1::.lst (ð p4)::.Ô (.lst (LS ps))::.Ô (.lst (RS ps))::([.lst X1]++[.lst X2])++Z++Z2) hl hn rfl (x0:=some (.lst (xs.map .int))) (x1:=some (.Ó 2)) (ρ:=[some (.int 1),y4,y5,y6,some (.Ó 6),y8,y9,Iy,Iw]) (κ:=[some (.Ó 4),some (.int u),some (Î t2),PO]);refine⟨S',?_⟩;apply Ò
  ·apply bR
   ·apply Ŏ
    ·apply Ŗ
     ·apply ke
      ·exact Ŗ (As rfl) ű
      ·exact fS rfl
      ·exact F5
      ·rfl
     ·exact ű
    ·rfl
    ·exact Tf
   ·rfl
   ·rfl
   ·exact c6
  exact c7
 obtain⟨S',tail⟩:=tail;have all:Ev Ê (.dj (d+129) Uz ⟨[],[some (.lst (xs.map .int)),none,none,none,none,none,none,none,none,none,none,none],[none,none,none,none]⟩) (S',.ret (.bool true)):=by
  unfold Uz;apply Ò
  ·apply ũ
   ·apply ll
    ·exact Ŗ (aQ rfl) ű
    ·exact c1
   ·exact qU rfl rfl
  apply Ò
  ·apply ũ
   ·exact i7 ű rfl rfl
   ·exact qU rfl rfl
  apply Ò
  ·apply ũ
   ·exact i7 ű rfl rfl
   ·exact vK rfl rfl
  apply Ò
  ·apply ũ
   ·exact nY
   ·exact vK rfl rfl
  apply Ò
  ·apply bR
   ·apply Ŏ
    ·apply Ŗ
     ·apply ll
      ·exact Ŗ (aQ rfl) (Ŗ nY ű)
      ·exact c2 _ _ _ _
     ·exact ű
    ·rfl
    ·exact KI
   ·rfl
   ·rfl
   ·exact c3
  apply Ò
  ·apply bR
   ·apply Ŏ
    ·exact Ŗ nY ű
    ·rfl
    ·rfl
   ·rfl
   ·rfl
   ·apply mQ
    ·rfl
    ·exact qU rfl rfl
    ·exact c4
    apply mQ
    ·rfl
    ·exact qU rfl rfl
    ·exact c5
    exact ui
  exact tail
 refine⟨⟨[],[],[]⟩,?_⟩;apply É (show Ê.fn 91=some TQ from rfl) rfl all
 ·rfl
 ·rfl
 ·rfl
end
end
section
set_option maxRecDepth 100000
open Internal.H
theorem GX{d:WData}(q:WShape.has [] d .int=true):∃i,d=.int i:=by
 induction d using PySem.W.WData.casesOn<;>first|exact⟨_,rfl⟩|exact â q
theorem pe:∀{ds:List WData},WShape.hasItems [] ds .int=true→∃xs:List Int,ds=xs.map .int
 |[],_=>⟨[],rfl⟩
 |d::ds,h=>by
  (have h1:=aC (a:=WShape.has [] d .int) (b:=WShape.hasItems [] ds .int) h;have h2:=aB (a:=WShape.has [] d .int) (b:=WShape.hasItems [] ds .int) h)
  obtain⟨i,rfl⟩:=GX h1;obtain⟨xs,rfl⟩:=pe h2;exact⟨i::xs,rfl⟩
theorem CP{d:WData}(q:WShape.has [] d (.list .int)=true):∃xs:List Int,d=.list (xs.map .int):=by
 induction d using PySem.W.WData.casesOn with
 |list ds=>
  have q:(WShape.hasItems [] ds .int||false)=true:=q;obtain⟨xs,rfl⟩:=pe ((lU.mp q).resolve_right fun h=>â h);exact⟨xs,rfl⟩
 |_=>exact â q
theorem Fb{args:List WData}(h:WShape.hasAll [] args [.list .int]=true):∃xs:List Int,args=[.list (xs.map .int)]:=by
 induction args using Ū with
 |nil=>exact â h
 |cons x r=>
  (have h1:=aC (a:=WShape.has [] x (.list .int)) (b:=WShape.hasAll [] r []) h;have h2:=aB (a:=WShape.has [] x (.list .int)) (b:=WShape.hasAll [] r []) h)
  obtain⟨xs,rfl⟩:=CP h1
  induction r using Ū with
  |nil=>exact⟨xs,rfl⟩
  |cons=>exact â h2
theorem E5(l:List WData):ū.pre.value [] {args:=[.list l]}=some (.bool (!decide ((63:Int)<(l.length:Int)))):=by
 have e:∀q:Bool,(match some (WData.bool (!q))with
     |some (.bool false)=>some (WData.bool false)
     |some (.bool true)=>some (WData.bool true)
     |_=>none)=some (WData.bool (!q)):=fun q=>by induction q using ñ<;>rfl
 exact e _
theorem AG{args:List WData}(h:ū.row.toRowW.claim.pre args=true):∃xs:List Int,args=[.list (xs.map .int)]∧xs.length≤63:=by
 (have h1:=aC (a:=WShape.hasAll [] args [.list .int]) (b:=ū.pre.holds [] {args:=args}) h;have h2:=aB (a:=WShape.hasAll [] args [.list .int]) (b:=ū.pre.holds [] {args:=args}) h)
 obtain⟨xs,rfl⟩:=Fb h1;refine⟨xs,rfl,?_⟩;unfold WTm.holds at h2;rw[E5]at h2;have hd:decide ((63:Int)<((xs.map WData.int).length:Int))=false:=by
  induction hq:decide ((63:Int)<((xs.map WData.int).length:Int))using ñ with
  |false=>rfl
  |true=>rw[hq]at h2;exact â h2
 have:=of_decide_eq_false hd;rw[Ė]at this;exact vh.mp (bO.mp this)
def g0(s:Shared):Gh where
 r a:=if a=cO then .tab else match s.heap.get? a with
  |some o=>.Ô o
  |none=>.free
 as:=[]
 L:=mainGlobals
 cs:=[]
theorem KS{s:Shared}:(g0 s).r cO=.tab:=by
 show(if cO=cO then Role.tab else match s.heap.get? cO with
  |some o=>.Ô o
  |none=>.free)=_
 exact if_pos rfl
theorem KU{s:Shared}{a:Addr}{o:Obj}(h:(g0 s).r a=.Ô o):a≠cO∧s.heap.get? a=some o:=by
 by_cases e:a=cO
 ·have:(g0 s).r a=.tab:=if_pos e;rw[this]at h;cases h
 ·have:(g0 s).r a=match s.heap.get? a with
   |some o=>.Ô o
   |none=>.free:=if_neg e
  rw[this]at h
  induction ho:s.heap.get? a using ş with
  |none=>rw[ho]at h;cases h
  |some o'=>rw[ho]at h;cases h;exact⟨e,rfl⟩
theorem HQ{s:Shared}{a:Addr}{o:Obj}(e:a≠cO)(h:s.heap.get? a=some o):(g0 s).r a=.Ô o:=by
 have:(g0 s).r a=match s.heap.get? a with
   |some o=>.Ô o
   |none=>.free:=if_neg e
 rw[this,h]
theorem B1{s:Shared}{a:Addr}:(∀o,(g0 s).r a≠.kept o)∧(∀o,(g0 s).r a≠.held o)∧((g0 s).r a≠.free→a=cO∨∃o,s.heap.get? a=some o):=by
 by_cases e:a=cO
 ·have:(g0 s).r a=.tab:=if_pos e;rw[this];exact⟨(fun o h=>by cases h),(fun o h=>by cases h),fun À=>.inl e⟩
 ·have:(g0 s).r a=match s.heap.get? a with
   |some o=>.Ô o
   |none=>.free:=if_neg e
  rw[this]
  induction s.heap.get? a using ş with
  |some o=>exact⟨(fun o h=>by cases h),(fun o h=>by cases h),fun À=>.inr ⟨o,rfl⟩⟩
  |none=>exact⟨(fun o h=>by cases h),(fun o h=>by cases h),fun h=>absurd rfl h⟩
theorem pV{w:World}{s:Shared}(Y:YP w s.heap):s.heap.get? cO=some (tabObj #[]):=Ľ Y (zT w.params) (by show(1194:Nat)<1311;decide) rfl
theorem OT{w:World}{s:Shared}(Y:YP w s.heap):Base (Z0 w s) (g0 s) s [] where
 vd:=⟨s.heap,s.toks,rfl⟩
 old:=OldK.refl _
 top a o h n:=HQ n h
 tab:=⟨KS,#[],pV Y,.inl rfl⟩
 Ô a o h:=(KU h).2
 kept a o h:=absurd h (B1.1 o)
 held a o h:=absurd h (B1.2.1 o)
 alive a h:=by
  rcases B1.2.2 h with e|e
  ·subst e;exact⟨_,pV Y⟩
  ·exact e
 len:=rfl
 cells i c h:=by induction i using mM<;>cases h
theorem CQ{w:World}{s:Shared}{xs:List Int}:∀{vs:List Value},WellAll w.params s.heap vs (xs.map .int)→ß (Z0 w s).toSta (g0 s).k (xs.map .int) vs:=by
 induction xs with
 |nil=>intro vs h;cases h;rfl
 |cons x xs ih=>
  intro vs h;cases h with
  |cons h1 h2=>
   cases h1 with
   |int i t=>exact⟨_,_,rfl,⟨t,rfl⟩,ih h2⟩
theorem GY{w:World}{s:Shared}{xs:List Int}{vals:List Value}(Y:YP w s.heap)(h:WellAll w.params s.heap vals [.list (xs.map .int)]):Ł (Z0 w s) (g0 s) [.lst (xs.map .int)] vals:=by
 cases h with
 |cons h1 h2=>
  cases h2;cases h1 with
  |@list a vs _ ho hw=>
   refine⟨_,_,rfl,⟨a,_,vs,rfl,Gh.Ř (HQ (fun e=>?_) ho),⟨_,rfl⟩,CQ hw⟩,rfl⟩;subst e;rw[pV Y]at ho;cases ho
theorem Kg(P:Params):Ŋ "law" ((bU P).take 204)=some (.ref 1310):=by kernel_rfl
theorem E6(as:List WData):ū.row.toRowW.claim.post as (.bool true) as=true:=by kernel_rfl
theorem walk:WalkO qv qm Vh YP ū.row.toRowW dl [] fun f vs=>PySem.call f vs:=by
 intro w Mm ĉ mg mb G Y a o pm cd doc dV kV ZL Wq BS Wo Wf NX args vals as Ta ZR BK NJ has;have F:Facts w (Z0 w ĉ) (K0 w ĉ) Ê:=facts Y G.T.g G.T.b G.T.builtins (G.T.bmain.elim fun bm q=>q.elim fun ob q=>⟨bm,ob,q.1,q.2.1,q.2.2.1,q.2.2.2.1,q.2.2.2.2.1,q.2.2.2.2.2⟩) G.T.nolimit;obtain⟨xs,rfl,hx⟩:=AG Ta;obtain⟨S',hl⟩:=Kf (xs:=xs) (by omega) 0;have eY:dl.name="law":=rfl;rw[eY,fZ Y G.T.g,Kg]at Wf;cases Wf;have B:=OT Y;have R:œ 130 callerA (g0 ĉ):=⟨rfl,by show 1+300+4*130+2<1000;decide,by show 4+20*130+30<9900;decide,[],rfl,fun e he=>by cases he⟩;have hLD:cG (g0 ĉ) ĉ:=⟨_,_,_,sd Y,rfl⟩;refine(sound F hl:cF ū.row.toRowW.prog w (Z0 w ĉ) (K0 w ĉ) 130 91 _ _ _ _) _ _ _ _ _ _ R hLD B (GY Y NJ) fun g' s' x SE KE BE VE=>?_;obtain rfl:x=.bool true:=VE;obtain⟨h',t',e'⟩:=BE.vd;refine⟨.inl ⟨.bool true,.bool true,[],rfl,fun À=>rfl,.bool true,?_,fun À=>⟨lT,fun a ha=>by cases ha⟩⟩,BE.old,?_,?_⟩
 ·exact E6 _
 ·rw[e'];rfl
 ·rw[e'];exact AllBare.of_eq NX
end
end Internal
end
theorem PySem.Challenge.cw_nz0340_01_holds : PySem.Challenge.rw_nz0340_01.Holds :=
 Internal.H.hd Internal.walk
