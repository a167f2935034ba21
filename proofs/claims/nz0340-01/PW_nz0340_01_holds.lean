import PyProof.Rows.All
import Wide.All
import OpenK.AllK
import Wide.FinOn
import PySem.Challenge.RW_nz0340_01
set_option tactic.hygienic false
set_option linter.all false
set_option Elab.async false
set_option genSizeOf false
set_option genInjectivity false
set_option genCtorIdx false
open Option.some renaming inj→ë
open Bool renaming casesOn→ñ
open Option renaming casesOn→š
open List renaming casesOn→Ŭ
open Nat renaming casesOn→mK
open PySem renaming Str→Õ
open Bool renaming and_eq_true_iff→FK,or_eq_false_iff→wY,or_eq_true_iff→lR,eq_iff_iff→oO,and_eq_true→au,not_eq_true→wX,false_eq_true→Bg,true_and→sF,false_or→jJ,true_or→oE,false_ne_true→jH,eq_false_iff→oz,false_and→wU
open Nat renaming beq→ö,beq_refl→qm,ble→ak,zero_add→eZ,le_of_ble_eq_true→dU,le_antisymm→ŵ,le_refl→Ĭ,le_trans→è,add_le_add_left→Bj,le_of_eq→ņ,blt→ď,eq_of_beq_eq_true→ġ,ble_eq_true_of_le→wZ,blt_eq→bR,lt_irrefl→sH,lt_of_lt_of_le→ip,succ_pos→ī,le_of_lt→aW,lt_of_succ_lt_succ→Bi,lt_of_le_of_lt→ń,le_add_right→Ż,lt_trans→oJ,ne_of_lt→eW,succ_add_eq_add_succ→wV,le_add_left→î,not_lt_of_le→Ũ
open List renaming not_mem_nil→qn,all_eq_true→kg,mem_cons→ĸ,filter_cons_of_pos→yF,filter_cons_of_neg→yE,replicate→ĥ,append_nil→Ŵ,append_assoc→Ĝ,mem_singleton→Ė,range→bQ,length_cons→ă,all_cons→gI,mem_map→dT,drop_eq_getElem_cons→Hx,length→oN,length_take→oK,length_drop→sG,mem_cons_self→Ů,mem_cons_of_mem→ũ,any_cons→ik,length_map→ĕ,size_toArray→ź,idxOf?_eq_none_iff→Bh,nodup_cons→eX,nodup_nil→lQ,lookup_cons→oH,length_append→Ċ,map_cons→Ŏ,getElem?_toArray→sD,reverse_cons→ar,length_reverse→ot,take_of_length_le→sC,dropWhile→cE,dropWhile_suffix→Bf,forall_mem_cons→gH,contains_cons→sA,length_nil→cC,map_nil→fN,map_append→dS,length_singleton→sz,mem_append→sx,nil_append→jF,reverse_nil→oq
open Int renaming ofNat→vf,ofNat_le→lS,le_trans→oQ,le_of_lt→jL,not_lt→bP,ofNat_lt→bx,lt_of_lt_of_le→wW,natCast_nonneg→lP,ofNat_nonneg→jG
open PySem.Heap renaming lt_size→eY,get?_push_of_some→ŏ,get?_push_size→fO
open Option renaming isNone_iff_eq_none→oP,isSome_iff_exists→Hw,map_some→bO,bind_some→bw
open PySem PySem.W PyProof.Rows
noncomputable section
namespace Internal
structure A3(a b c:Prop):Prop where mk::(l:a) (m:b) (r:c)
structure A4(a b c d:Prop):Prop where mk::(l:a) (m:b) (n:c) (r:d)
structure A5(a b c d e:Prop):Prop where mk::(l:a) (m:b) (n:c) (o:d) (r:e)
structure A6(a b c d e f:Prop):Prop where mk::(l:a) (m:b) (n:c) (o:d) (p:e) (r:f)
inductive T2{α:Sort _}{β:Sort _}(p:α→β→Prop):Prop|mk (a:α) (b:β) (h:p a b)
inductive T3{α:Sort _}{β:Sort _}{γ:Sort _}(p:α→β→γ→Prop):Prop|mk (a:α) (b:β) (c:γ) (h:p a b c)
inductive T4{α:Sort _}{β:Sort _}{γ:Sort _}{δ:Sort _}(p:α→β→γ→δ→Prop):Prop|mk (a:α) (b:β) (c:γ) (d:δ) (h:p a b c d)
inductive T5{α:Sort _}{β:Sort _}{γ:Sort _}{δ:Sort _}{ε:Sort _}(p:α→β→γ→δ→ε→Prop):Prop|mk (a:α) (b:β) (c:γ) (d:δ) (e:ε) (h:p a b c d e)
inductive T6{α:Sort _}{β:Sort _}{γ:Sort _}{δ:Sort _}{ε:Sort _}{ζ:Sort _}(p:α→β→γ→δ→ε→ζ→Prop):Prop|mk (a:α) (b:β) (c:γ) (d:δ) (e:ε) (f:ζ) (h:p a b c d e f)
end Internal
namespace Internal.H
section
set_option maxRecDepth 100000
set_option maxHeartbeats 0
abbrev pw:Program:=PySem.Challenge.pw_nz0340_01
noncomputable def cu(i:Nat):Stmt:=(pw.main.body.drop i).headD default
noncomputable def xx:Stmt→List Stmt
 |.ClassDef _ _ _ b .. =>b
 |_=>[]
noncomputable def fdOf(st:Stmt)(q:Õ):FuncData:=match st with
 |.FunctionDef n a b _ _ _ sc _ _ _=>{name:=n,qualname:=q,params:=a,body:=.stmts b,scope:=sc,globals:=0,closure:=[],defaults:=.none,kwdefaults:=.none}
 |_=>default
def df(i:Nat)(q:Õ):FuncData:=fdOf (cu i) q
def dm(i j:Nat)(q:Õ):FuncData:=fdOf (((xx (cu i)).drop j).headD default) q
noncomputable def oT(l:List Value):Obj:=⟨.type "tuple",none,.seq ⟨l⟩ 0,#[]⟩
noncomputable def oR(l:List Value):Obj:=⟨.none,none,.fields ⟨l⟩,#[]⟩
noncomputable def oC(l:List Value):Obj:=⟨.type "code",none,.fields ⟨l⟩,#[]⟩
noncomputable def oF(f:FuncData):Obj:=⟨.none,none,.func f,#[]⟩
noncomputable def oG(f:FuncData)(d pm:Value)(c:Addr):Obj:=⟨.type "function",none,.func {f with globals:=3,defaults:=d,pyModule:=pm,code:=.ref c},#[]⟩
noncomputable def en(P:Params)(x:Õ)(t:Nat)(v:Value):DictEntry:=⟨PyData.keyHash P x,.str x t,v⟩
noncomputable def bh:List Obj→Nat→BT→BT
 |[],_,t=>t
 |o::r,n,t=>bh r (n+1) (t.ins n o)
noncomputable def br:List (Nat×Obj)→BT→BT
 |[],t=>t
 |p::r,t=>br r (t.set p.1 fun À=>p.2)
noncomputable def HK:Stmt→Nat
 |.FunctionDef _ _ _ _ _ _ _ _ _ p=>p.line
 |_=>0
noncomputable def jO:Stmt→Õ
 |.FunctionDef n .. =>n
 |_=>""
noncomputable def N9:List Õ→Nat→List Value
 |[],_=>[]
 |n::r,t=>.str n t::N9 r (t+1)
noncomputable def D7(n:Nat):Value:=.int n 0
noncomputable def Ob(t:Nat):Value:=.str "/claim/cut.py" t
def Od(n q:Õ)(l k g a t:Nat)(b:Bool)(x y z:Value)(u:Nat):Obj:=oC [.str n t,.str q (t+1),Ob (t+2),D7 l,D7 k,D7 0,D7 0,D7 g,.ref a,.bool b,D7 181,.ref (a+1),.none,x,y,z,D7 u,D7 l,Ob (u+1)]
def Oc(f:FuncData)(l a t:Nat)(x y z:Value)(u:Nat):Obj:=Od f.name f.qualname l f.params.args.length 3 a t true x y z u
def WA(f:FuncData)(l:Nat)(d pm:Value)(a t:Nat):Nat→List Obj
 |0=>[oT [],oR [],oF f,Oc f l a t .none .none (.ref (a+2)) (t+3),oG f d pm (a+3)]
 |n+1=>[oT [],oR [],oT (N9 ((localNames f.params f.scope f.body).getD ([],[])).1 (t+3)),oT [],oF f,Oc f l a t (.ref (a+2)) (.ref (a+3)) (.ref (a+4)) (t+3+n),oG f d pm (a+5)]
noncomputable def dy(g:Nat→Stmt)(c:Õ)(pm:Value):List Nat→Nat→Nat→Nat→List Obj
 |[],_,_,_=>[]
 |s::r,i,a,t=>WA (fdOf (g i) (c++jO (g i))) (HK (g i)) .none pm a t s++dy g c pm r (i+1) (a+match s with|0=>5|_=>7) (t+6+(s - 1))
def iy(i j:Nat):Stmt:=((xx (cu i)).drop j).headD default
def HO(g:Stmt)(c:Õ)(pm d:Value)(s a t:Nat):List Obj:=WA (fdOf g (c++jO g)) (HK g) d pm a t s
noncomputable def BY(c:Nat):List (Nat×Nat)→List Value
 |[]=>[]
 |p::r=>D7 p.1::D7 c::.ref p.2::BY c r
noncomputable def zw:Obj:=⟨.type "builtin_function_or_method",none,.fields ⟨[.builtin "type.__prepare__",.type "type"]⟩,#[]⟩
noncomputable def zx(a:Nat):Obj:=⟨.type "builtin_function_or_method",none,.fields ⟨[.builtin "object.__init_subclass__",.ref a]⟩,#[]⟩
noncomputable def zv(a:Nat):Obj:=⟨.type "super",none,.fields ⟨[.ref a,.ref a,.ref a]⟩,#[]⟩
noncomputable def zy(c d:Nat)(m:Value):Obj:=⟨.type "frame",none,.plain,⟨[some (.ref c),some (.ref 3),some (.ref d),none,some m,none,some (.ref 0)]⟩⟩
def zA(n:Õ)(l a t:Nat):Obj:=Od n n l 0 0 a t false .none .none .none (t+3)
noncomputable def kG(l:List DictEntry)(n:Nat):Obj:=⟨.type "dict",none,.dict ⟨l⟩ n,⟨[]⟩⟩
noncomputable def Ge(a t:Nat):Obj:=⟨.type "getset_descriptor",none,.fields ⟨[.str "__weakref__" t,.ref a,.builtin "ExceptionGroup.__weakref__",.none]⟩,#[]⟩
noncomputable def HN(a t:Nat):Obj:=⟨.type "getset_descriptor",none,.fields ⟨[.str "__dict__" t,.ref a,.builtin "function.__dict__",.builtin "function.__dict__#set"]⟩,#[]⟩
noncomputable def HM(n:Õ)(bs mro:List Value)(d:Nat)(sub:List Value)(s0:Option Value)(t u:Nat)(nw:String):Obj:=⟨.type "type",none,.cls ⟨n,bs,mro,d,n,true,[],sub,false,none,false⟩,⟨[s0,none,some (.str n t),some (.str n u),some (.builtin nw),some (.bool true)]⟩⟩
def HL(n:Õ)(a t:Nat):Obj:=HM n [.type "object"] [.ref a,.type "object"] (a - 1) [] none t (t+8) "object.__new__"
noncomputable def V0:Value:=.str "__main__" 164
noncomputable def wK:Value:=.str "postkeep.errors" 194
noncomputable def zt:Value:=.str "postkeep.boxes" 284
noncomputable def A9:Value:=.str "postkeep.octets" 366
noncomputable def D0:Value:=.str "postkeep.charsets" 518
noncomputable def Ft:Value:=.str "postkeep.tokens" 613
noncomputable def eV:Value:=.str "postkeep.dates" 721
noncomputable def qf:Value:=.str "postkeep.headers" 1007
noncomputable def Zz:Value:=.str "postkeep.base64" 1139
noncomputable def uT:Value:=.str "postkeep.params" 1169
noncomputable def M9:Value:=.str "postkeep.quoted" 1395
noncomputable def gR:Value:=.str "postkeep.parts" 1460
noncomputable def A_:Value:=.str "postkeep.query" 1604
noncomputable def J4:Value:=.str "postkeep.sets" 1640
noncomputable def J3:Value:=.str "postkeep.words" 1663
noncomputable def ai:Value:=.str "postkeep.search" 1755
noncomputable def gx:Value:=.str "law_nz0340_01" 1961
def MW:List Obj:=[oT [],oR [],oC [.str "<module>" 182,.str "<module>" 183,.str "/claim/cut.py" 184,.int 1 0,.int 0 0,.int 0 0,.int 0 0,.int 0 0,.ref 11,.bool false,.int 181 0,.ref 12,.none,.none,.none,.none,.int 185 0,.int 1 0,.str "/claim/cut.py" 186],⟨.type "frame",none,.plain,⟨[some (.ref 13),some (.ref 3),some (.ref 3),none,some V0,none,some (.ref 0)]⟩⟩]
def bV(P:Params):List DictEntry:=[en P "__name__" 165 gx,en P "__doc__" 166 .none,en P "__package__" 167 .none,en P "__loader__" 168 (.builtin "__main__.__loader__#opaque"),en P "__spec__" 169 .none,en P "__annotations__" 170 (.ref 6),en P "__builtins__" 171 (.ref 4),en P "__file__" 173 (.str "/claim/cut.py" 172),en P "__cached__" 174 .none,en P "_wall" 193 (.ref 21),en P "PostError" 235 (.ref 46),en P "WordFault" 251 (.ref 59),en P "MimeFault" 267 (.ref 71),en P "StoreFault" 283 (.ref 83),en P "SYSTEM" 287 (.str "\\Seen \\Answered \\Flagged \\Deleted \\Draft" 286),en P "NO_KEYWORD" 289 (.str "(){ %*\"\\]" 288),en P "MOST_KEYWORD" 291 (.int 60 290),en P "system_flags" 297 (.ref 92),en P "is_keyword" 305 (.ref 99),en P "flag_name" 313 (.ref 106),en P "Letter" 365 (.ref 137),en P "RETURN_octets" 369 (.int 13 368),en P "MOST_FIGURES" 371 (.int 20 370),en P "Cursor" 481 (.ref 223),en P "lower_code" 488 (.ref 234),en P "lower" 494 (.ref 239),en P "lower_text" 500 (.ref 244),en P "line_spans" 517 (.ref 252),en P "ASCII" 521 (.str "us-ascii" 520),en P "LATIN" 523 (.str "iso-8859-1" 522),en P "UTF8" 525 (.str "utf-8" 524),en P "CHARSETS" 526 (.ref 253),en P "UNKNOWN_SIGN" 529 (.str "�" 528),en P "charset_names" 537 (.ref 260),en P "charset_name" 544 (.ref 267),en P "need_charset" 551 (.ref 274),en P "follower_span" 558 (.ref 281),en P "utf8_sign" 572 (.ref 288),en P "sign_at" 581 (.ref 295),en P "text_in" 593 (.ref 302),en P "strict_text" 605 (.ref 309),en P "guessed_text" 612 (.ref 316),en P "MOST_DEPTH_tokens" 616 (.int 20 615),en P "SIGNS_tokens" 618 (.bytes ⟨[60,62,64,44,59,58,46,92]⟩ 617),en P "ATOM_SIGNS" 620 (.bytes ⟨[33,35,36,37,38,39,42,43,45,47,61,63,94,95,96,123,124,125,126]⟩ 619),en P "NEVER_ESCAPED" 624 (.ref 317),en P "is_atom_code" 631 (.ref 324),en P "line_end" 639 (.ref 331),en P "inside_at" 649 (.ref 338),en P "closed_at" 662 (.ref 345),en P "comment_at" 675 (.ref 352),en P "atom_at" 684 (.ref 359),en P "token_at" 695 (.ref 366),en P "past_white" 704 (.ref 373),en P "tokens_of" 714 (.ref 380),en P "without_comments" 720 (.ref 385),en P "MONTHS" 735 (.ref 386),en P "DAYS" 743 (.ref 387),en P "MOST_YEAR" 745 (.int 9999 744),en P "DAY_SECONDS" 747 (.int 86400 746),en P "FIRST_DAY" 749 (.int 719162 748),en P "Moment" 797 (.ref 411),en P "is_leap" 804 (.ref 422),en P "month_length" 812 (.ref 429),en P "days_before_year" 820 (.ref 436),en P "day_told" 831 (.ref 443),en P "is_day" 840 (.ref 450),en P "is_time" 849 (.ref 457),en P "day_of" 858 (.ref 465),en P "month_number" 864 (.ref 470),en P "is_day_name" 870 (.ref 475),en P "is_figures" 876 (.ref 480),en P "zone_in" 884 (.ref 487),en P "named_zone" 890 (.ref 492),en P "DateReader" 961 (.ref 542),en P "full_year" 969 (.ref 553),en P "read_clock" 979 (.ref 560),en P "read_zone" 988 (.ref 567),en P "read_date" 1006 (.ref 574),en P "WHITE_headers" 1011 (.ref 575),en P "Field" 1055 (.ref 604),en P "line_at" 1065 (.ref 615),en P "is_name" 1073 (.ref 622),en P "colon_in" 1083 (.ref 629),en P "read_spans" 1101 (.ref 637),en P "read_fields" 1110 (.ref 643),en P "rows_of" 1121 (.ref 650),en P "unfolded" 1128 (.ref 657),en P "first_body" 1138 (.ref 664),en P "SIGNS_base64" 1142 (.bytes ⟨[65,66,67,68,69,70,71,72,73,74,75,76,77,78,79,80,81,82,83,84,85,86,87,88,89,90,97,98,99,100,101,102,103,104,105,106,107,108,109,110,111,112,113,114,115,116,117,118,119,120,121,122,48,49,50,51,52,53,54,55,56,57,43,47]⟩ 1141),en P "PAD" 1144 (.int 61 1143),en P "worth_table" 1150 (.ref 669),en P "group_octets" 1156 (.ref 674),en P "decoded" 1168 (.ref 681),en P "WHITE_params" 1175 (.ref 682),en P "SEMICOLON" 1177 (.int 59 1176),en P "EQUALS_params" 1179 (.int 61 1178),en P "QUOTE" 1181 (.int 34 1180),en P "BRACKET" 1183 (.int 40 1182),en P "PER_CENT" 1185 (.int 37 1184),en P "BARRED" 1187 (.bytes ⟨[40,41,60,62,64,44,59,58,92,34,47,91,93,63,61]⟩ 1186),en P "HEX_FIGURES" 1189 (.bytes ⟨[48,49,50,51,52,53,54,55,56,57,65,66,67,68,69,70]⟩ 1188),en P "Kind" 1249 (.ref 725),en P "plain_kind" 1255 (.ref 736),en P "is_token_code" 1262 (.ref 743),en P "skip_between" 1269 (.ref 750),en P "take_token" 1277 (.ref 757),en P "is_worth_code" 1284 (.ref 764),en P "take_worth" 1293 (.ref 771),en P "small_word" 1299 (.ref 776),en P "take_pairs" 1308 (.ref 783),en P "part_number" 1317 (.ref 790),en P "part_of" 1327 (.ref 797),en P "hex_worth" 1333 (.ref 849),en P "hex_worth_params" 1334 (.ref 802),en P "percent_decoded" 1344 (.ref 809),en P "charset_cut" 1350 (.ref 814),en P "joined_worth" 1362 (.ref 821),en P "params_of" 1377 (.ref 828),en P "strict_kind" 1387 (.ref 835),en P "read_kind" 1394 (.ref 842),en P "EQUALS_quoted" 1398 (.int 61 1397),en P "BLANK" 1400 (.int 32 1399),en P "RETURN_quoted" 1402 (.int 13 1401),en P "UNDERLINE" 1404 (.int 95 1403),en P "hex_worth_quoted" 1412 (.ref 849),en P "quoted_at" 1422 (.ref 856),en P "line_parts" 1432 (.ref 863),en P "unquoted" 1442 (.ref 870),en P "quoted_decoded" 1453 (.ref 877),en P "word_q_decoded" 1459 (.ref 882),en P "MOST_DEPTH_parts" 1463 (.int 20 1462),en P "PLAIN_ENCODING" 1465 (.str "7bit" 1464),en P "OPEN_ENCODINGS" 1469 (.ref 883),en P "WORD_ENDS" 1471 (.bytes ⟨[32,9,40,59]⟩ 1470),en P "BLANKS" 1473 (.bytes ⟨[32,9]⟩ 1472),en P "Part" 1519 (.ref 905),en P "encoding_of" 1525 (.ref 914),en P "boundary_way" 1535 (.ref 921),en P "part_spans" 1552 (.ref 928),en P "kid_spans" 1558 (.ref 933),en P "has_inner" 1565 (.ref 940),en P "read_part" 1571 (.ref 945),en P "read_message" 1578 (.ref 952),en P "undone" 1586 (.ref 959),en P "body_octets" 1594 (.ref 966),en P "body_text" 1603 (.ref 973),en P "row_of" 1613 (.ref 980),en P "leaves_of" 1623 (.ref 987),en P "needs_part" 1629 (.ref 992),en P "decide" 1639 (.ref 999),en P "ends_of" 1651 (.ref 1006),en P "has" 1662 (.ref 1013),en P "WHITE_words" 1669 (.ref 1014),en P "OPENING" 1671 (.int 40 1670),en P "CLOSING" 1673 (.int 41 1672),en P "WAYS" 1676 (.ref 1015),en P "is_word_sign" 1683 (.ref 1022),en P "part_end" 1692 (.ref 1029),en P "word_parts" 1698 (.ref 1034),en P "is_apart" 1707 (.ref 1041),en P "plain_text" 1713 (.ref 1046),en P "word_at" 1725 (.ref 1053),en P "pieces_of" 1736 (.ref 1060),en P "all_white" 1742 (.ref 1065),en P "decoded_words" 1754 (.ref 1072),en P "MOST_DEPTH_search" 1758 (.int 20 1757),en P "Seen" 1791 (.ref 1089),en P "is_within" 1799 (.ref 1100),en P "field_text" 1806 (.ref 1107),en P "field_line" 1813 (.ref 1114),en P "header_holds" 1823 (.ref 1121),en P "head_holds" 1832 (.ref 1128),en P "inner_holds" 1842 (.ref 1135),en P "texts_hold" 1854 (.ref 1143),en P "look_holds" 1863 (.ref 1150),en P "day_holds" 1872 (.ref 1157),en P "sent_day" 1881 (.ref 1164),en P "sent_holds" 1890 (.ref 1171),en P "number_holds" 1902 (.ref 1178),en P "simple_holds" 1912 (.ref 1185),en P "leaf_holds" 1921 (.ref 1192),en P "matches" 1932 (.ref 1199),en P "context_of" 1939 (.ref 1206),en P "search_seen" 1945 (.ref 1211),en P "seen_of" 1954 (.ref 1218),en P "search" 1960 (.ref 1223),en P "_law_days" 1980 (.ref 1232),en P "_law_dates" 1987 (.ref 1233),en P "_law_words" 1992 (.ref 1234),en P "_law_flags" 1997 (.ref 1235),en P "_law_box" 2003 (.ref 1240),en P "_law_draw" 2013 (.ref 1247),en P "_law_octets" 2019 (.ref 1252),en P "_law_letter" 2025 (.ref 1257),en P "_law_set" 2035 (.ref 1264),en P "_law_has" 2047 (.ref 1271),en P "_law_leaf" 2056 (.ref 1278),en P "_law_tree" 2062 (.ref 1283),en P "_law_day" 2071 (.ref 1290),en P "_law_look" 2077 (.ref 1295),en P "_law_text" 2083 (.ref 1300),en P "_law_met" 2089 (.ref 1305),en P "law" 2095 (.ref 1310)]
noncomputable def wg:List (Nat×Value)→List DictEntry→List DictEntry
 |[],l=>l
 |p::r,l=>wg r (l.modify p.1 fun x=>{x with val:=p.2})
def oM(P:Params)(n k:Nat)(ds:List (Nat×Value)):Obj:=⟨.type "dict",none,.dict ⟨wg ds ((bV P).take n)⟩ k,#[]⟩
def I5:List Value:=BY 0 [(1,20),(5,27),(14,55),(16,67),(18,79),(24,91),(26,98),(33,105),(40,112),(57,147),(104,233),(106,238),(108,243),(110,251),(129,259),(138,266),(140,273),(143,280),(151,287),(165,294),(171,301),(180,308),(191,315),(201,323),(203,330),(207,337),(220,344),(229,351),(244,358),(249,365),(266,372),(273,379),(281,384),(289,393),(302,421),(304,428),(308,435),(311,442),(324,449),(326,456),(328,464),(330,469),(333,474),(335,479),(337,486),(342,491),(347,498),(379,552),(383,559),(390,566),(397,573),(420,581),(431,614),(438,621),(443,628),(446,636),(462,642),(465,649),(474,656),(476,663),(485,668),(487,673),(495,680),(517,688),(535,735),(537,742),(539,749),(547,756),(554,763),(556,770),(566,775),(568,782),(584,789),(593,796),(602,801),(608,808),(616,813),(621,820),(632,827),(650,834),(660,841),(672,848),(681,855),(687,862),(699,869),(711,876),(720,881),(728,889),(744,913),(753,920),(761,927),(777,932),(784,939),(786,944),(797,951),(799,958),(805,965),(807,972),(811,979),(818,986),(829,991),(832,998),(847,1005),(856,1012),(867,1021),(869,1028),(874,1033),(887,1040),(891,1045),(893,1052),(903,1059),(917,1064),(919,1071),(931,1078),(937,1099),(939,1106),(941,1113),(943,1120),(948,1127),(953,1134),(955,1142),(966,1149),(972,1156),(976,1163),(985,1170),(988,1177),(997,1184),(1003,1191),(1009,1198),(1011,1205),(1013,1210),(1016,1217),(1018,1222),(1026,1239),(1035,1246),(1046,1251),(1048,1256),(1061,1263),(1066,1270),(1072,1277),(1086,1282),(1096,1289),(1100,1294),(1120,1299),(1122,1304),(1130,1309)]
def oB(n:Nat):Obj:=oR (I5.take n)
def Zo(P:Params):List Obj:=dy cu "" V0 [2] 0 15 187++([oT [.type "Exception"],zw,kG [en P "__module__" 203 wK,en P "__qualname__" 205 (.str "PostError" 204),en P "__firstlineno__" 207 (.int 5 206),en P "__init__" 218 (.ref 36),en P "told" 225 (.ref 43),en P "__static_attributes__" 228 (.ref 44)] 6,oT [],oR (BY 4 [(7,35),(12,42)]),zA "PostError" 5 25 198,zy 27 24 wK,oT [.int (-1) 209]]++(HO (iy 2 0) "PostError." wK (.ref 29) 4 30 210++(dy (iy 2) "PostError." wK [2] 1 37 219++([oT [.str "at" 226,.str "what" 227],kG [en P "__module__" 203 wK,en P "__firstlineno__" 207 (.int 5 206),en P "__init__" 218 (.ref 36),en P "told" 225 (.ref 43),en P "__static_attributes__" 228 (.ref 44),en P "__weakref__" 230 (.ref 47),en P "__doc__" 231 .none] 3,HM "PostError" [.type "Exception"] [.ref 46,.type "Exception",.type "BaseException",.type "object"] 45 [] (some (.ref 22)) 196 204 "Exception.__new__",Ge 46 229,zv 46,zx 46]))))
def Zn(P:Params):List Obj:=[oT [.ref 46],zw,kG [en P "__module__" 243 wK,en P "__qualname__" 245 (.str "WordFault" 244),en P "__firstlineno__" 247 (.int 14 246),en P "__static_attributes__" 248 (.ref 57)] 4,oT [],oR [],zA "WordFault" 14 53 238,zy 55 52 wK,oT [],kG [en P "__module__" 243 wK,en P "__firstlineno__" 247 (.int 14 246),en P "__static_attributes__" 248 (.ref 57),en P "__doc__" 249 .none] 2,HM "WordFault" [.ref 46] [.ref 59,.ref 46,.type "Exception",.type "BaseException",.type "object"] 58 [] (some (.ref 50)) 236 244 "Exception.__new__",zv 59,zx 59]
def Zm(P:Params):List Obj:=[oT [.ref 46],zw,kG [en P "__module__" 259 wK,en P "__qualname__" 261 (.str "MimeFault" 260),en P "__firstlineno__" 263 (.int 16 262),en P "__static_attributes__" 264 (.ref 69)] 4,oT [],oR [],zA "MimeFault" 16 65 254,zy 67 64 wK,oT [],kG [en P "__module__" 259 wK,en P "__firstlineno__" 263 (.int 16 262),en P "__static_attributes__" 264 (.ref 69),en P "__doc__" 265 .none] 2,HM "MimeFault" [.ref 46] [.ref 71,.ref 46,.type "Exception",.type "BaseException",.type "object"] 70 [] (some (.ref 62)) 252 260 "Exception.__new__",zv 71,zx 71]
def Zl(P:Params):List Obj:=[oT [.ref 46],zw,kG [en P "__module__" 275 wK,en P "__qualname__" 277 (.str "StoreFault" 276),en P "__firstlineno__" 279 (.int 18 278),en P "__static_attributes__" 280 (.ref 81)] 4,oT [],oR [],zA "StoreFault" 18 77 270,zy 79 76 wK,oT [],kG [en P "__module__" 275 wK,en P "__firstlineno__" 279 (.int 18 278),en P "__static_attributes__" 280 (.ref 81),en P "__doc__" 281 .none] 2,HM "StoreFault" [.ref 46] [.ref 83,.ref 46,.type "Exception",.type "BaseException",.type "object"] 82 [] (some (.ref 74)) 268 276 "Exception.__new__",zv 83,zx 83]++(dy cu "" zt [1,3,3] 10 86 292)
def Zk(P:Params):List Obj:=[oT [],zw,kG [en P "__module__" 321 zt,en P "__qualname__" 323 (.str "Letter" 322),en P "__firstlineno__" 325 (.int 40 324),en P "__init__" 337 (.ref 120),en P "has" 345 (.ref 127),en P "told" 352 (.ref 134),en P "__static_attributes__" 358 (.ref 135)] 7,oT [],oR (BY 4 [(42,119),(49,126),(52,133)]),zA "Letter" 40 110 316,zy 112 109 zt]++(dy (iy 13) "Letter." zt [7,3,2] 0 114 326++([oT [.str "flags" 353,.str "instant" 354,.str "modseq" 355,.str "octets" 356,.str "uid" 357],kG [en P "__module__" 321 zt,en P "__firstlineno__" 325 (.int 40 324),en P "__init__" 337 (.ref 120),en P "has" 345 (.ref 127),en P "told" 352 (.ref 134),en P "__static_attributes__" 358 (.ref 135),en P "__dict__" 360 (.ref 138),en P "__weakref__" 362 (.ref 139),en P "__doc__" 363 .none] 4,HL "Letter" 137 314,HN 137 359,Ge 137 361,zv 137,zx 137]))
def Zj(P:Params):List Obj:=[oT [],zw,kG [en P "__module__" 379 A9,en P "__qualname__" 381 (.str "Cursor" 380),en P "__firstlineno__" 383 (.int 57 382),en P "__init__" 396 (.ref 156),en P "is_done" 403 (.ref 163),en P "peek" 413 (.ref 171),en P "take" 421 (.ref 178),en P "starts" 429 (.ref 185),en P "skip" 437 (.ref 192),en P "take_while" 445 (.ref 199),en P "take_until" 453 (.ref 206),en P "number" 462 (.ref 213),en P "find" 470 (.ref 220),en P "__static_attributes__" 474 (.ref 221)] 14,oT [],oR (BY 4 [(59,155),(64,162),(67,170),(71,177),(77,184),(80,191),(86,198),(89,205),(92,212),(102,219)]),zA "Cursor" 57 145 374,zy 147 144 A9,oT [.int 0 384,.int (-1) 386]]++(HO (iy 17 0) "Cursor." A9 (.ref 149) 5 150 387++(dy (iy 17) "Cursor." A9 [2] 1 157 397++([oT [.int 0 404]]++(HO (iy 17 2) "Cursor." A9 (.ref 164) 4 165 405++(dy (iy 17) "Cursor." A9 [3,3,3,3,3,4,3] 3 172 414++([oT [.str "at" 471,.str "data" 472,.str "end" 473],kG [en P "__module__" 379 A9,en P "__firstlineno__" 383 (.int 57 382),en P "__init__" 396 (.ref 156),en P "is_done" 403 (.ref 163),en P "peek" 413 (.ref 171),en P "take" 421 (.ref 178),en P "starts" 429 (.ref 185),en P "skip" 437 (.ref 192),en P "take_while" 445 (.ref 199),en P "take_until" 453 (.ref 206),en P "number" 462 (.ref 213),en P "find" 470 (.ref 220),en P "__static_attributes__" 474 (.ref 221),en P "__dict__" 476 (.ref 224),en P "__weakref__" 478 (.ref 225),en P "__doc__" 479 .none] 4,HL "Cursor" 223 372,HN 223 475,Ge 223 477,zv 223,zx 223]))))))
def Zi(_:Params):List Obj:=dy cu "" A9 [2,0,0] 18 228 482++([oT [.int 0 501,.int (-1) 503]]++(HO (cu 21) "" A9 (.ref 245) 9 246 504++([oT [.str "us-ascii" 520,.str "iso-8859-1" 522,.str "utf-8" 524]]++(dy cu "" D0 [3,2,2,2,9,4] 28 254 530))))
def Zh(_:Params):List Obj:=dy cu "" D0 [7,7,2] 34 296 582++([oT [.int 0 621,.int 10 622,.int 13 623]]++(dy cu "" Ft [2,3,5,8,8,4,6] 42 318 625))
def Zg(_:Params):List Obj:=dy cu "" Ft [4,5,0] 49 367 696++([oT [.str "Jan" 723,.str "Feb" 724,.str "Mar" 725,.str "Apr" 726,.str "May" 727,.str "Jun" 728,.str "Jul" 729,.str "Aug" 730,.str "Sep" 731,.str "Oct" 732,.str "Nov" 733,.str "Dec" 734],oT [.str "Mon" 736,.str "Tue" 737,.str "Wed" 738,.str "Thu" 739,.str "Fri" 740,.str "Sat" 741,.str "Sun" 742]])
def Zf(P:Params):List Obj:=[oT [],zw,kG [en P "__module__" 757 eV,en P "__qualname__" 759 (.str "Moment" 758),en P "__firstlineno__" 761 (.int 289 760),en P "__init__" 775 (.ref 401),en P "told" 782 (.ref 408),en P "__static_attributes__" 790 (.ref 409)] 6,oT [],oR (BY 4 [(291,400),(300,407)]),zA "Moment" 289 391 752,zy 393 390 eV]++(dy (iy 58) "Moment." eV [9,2] 0 395 762++([oT [.str "day" 783,.str "hour" 784,.str "minute" 785,.str "month" 786,.str "second" 787,.str "year" 788,.str "zone" 789],kG [en P "__module__" 757 eV,en P "__firstlineno__" 761 (.int 289 760),en P "__init__" 775 (.ref 401),en P "told" 782 (.ref 408),en P "__static_attributes__" 790 (.ref 409),en P "__dict__" 792 (.ref 412),en P "__weakref__" 794 (.ref 413),en P "__doc__" 795 .none] 4,HL "Moment" 411 750,HN 411 791,Ge 411 793,zv 411,zx 411]++(dy cu "" eV [2,3,3,6] 59 416 798)))
def Si(_:Params):List Obj:=dy cu "" eV [4,4] 63 444 832++([oT [.int 0 850]]++(HO (cu 65) "" eV (.ref 458) 3 459 851++(dy cu "" eV [0,0,0,3,0] 66 466 859)))
def Sh(P:Params):List Obj:=[oT [],zw,kG [en P "__module__" 898 eV,en P "__qualname__" 900 (.str "DateReader" 899),en P "__firstlineno__" 902 (.int 347 901),en P "__init__" 910 (.ref 506),en P "place" 917 (.ref 513),en P "atom" 923 (.ref 518),en P "skip" 931 (.ref 525),en P "number" 941 (.ref 532),en P "need" 950 (.ref 539),en P "__static_attributes__" 954 (.ref 540)] 10,oT [],oR (BY 4 [(349,505),(354,512),(357,517),(362,524),(368,531),(375,538)]),zA "DateReader" 347 496 893,zy 498 495 eV]++(dy (iy 71) "DateReader." eV [3,2,0,3,5,4] 0 500 903++([oT [.str "at" 951,.str "length" 952,.str "tokens" 953],kG [en P "__module__" 898 eV,en P "__firstlineno__" 902 (.int 347 901),en P "__init__" 910 (.ref 506),en P "place" 917 (.ref 513),en P "atom" 923 (.ref 518),en P "skip" 931 (.ref 525),en P "number" 941 (.ref 532),en P "need" 950 (.ref 539),en P "__static_attributes__" 954 (.ref 540),en P "__dict__" 956 (.ref 543),en P "__weakref__" 958 (.ref 544),en P "__doc__" 959 .none] 4,HL "DateReader" 542 891,HN 542 955,Ge 542 957,zv 542,zx 542]))
def Sg(_:Params):List Obj:=dy cu "" eV [3,5,4,13] 72 547 962++([oT [.int 32 1009,.int 9 1010]])
def Sf(P:Params):List Obj:=[oT [],zw,kG [en P "__module__" 1019 qf,en P "__qualname__" 1021 (.str "Field" 1020),en P "__firstlineno__" 1023 (.int 420 1022),en P "__init__" 1032 (.ref 589),en P "word" 1038 (.ref 594),en P "told" 1045 (.ref 601),en P "__static_attributes__" 1048 (.ref 602)] 7,oT [],oR (BY 4 [(422,588),(426,593),(429,600)]),zA "Field" 420 579 1014,zy 581 578 qf]++(dy (iy 78) "Field." qf [4,0,2] 0 583 1024++([oT [.str "name" 1046,.str "raw" 1047],kG [en P "__module__" 1019 qf,en P "__firstlineno__" 1023 (.int 420 1022),en P "__init__" 1032 (.ref 589),en P "word" 1038 (.ref 594),en P "told" 1045 (.ref 601),en P "__static_attributes__" 1048 (.ref 602),en P "__dict__" 1050 (.ref 605),en P "__weakref__" 1052 (.ref 606),en P "__doc__" 1053 .none] 4,HL "Field" 604 1012,HN 604 1049,Ge 604 1051,zv 604,zx 604]++(dy cu "" qf [5,3,5] 79 609 1056)))
def Se(_:Params):List Obj:=[oT [.int 0 1084,.int (-1) 1086]]++(HO (cu 82) "" qf (.ref 630) 10 631 1087++([oT [.int 0 1102,.int (-1) 1104]]++(HO (cu 83) "" qf (.ref 638) 0 639 1105++(dy cu "" qf [6,2,5] 84 644 1111++(dy cu "" Zz [0,0,7] 90 665 1145++([oT [.int 9 1171,.int 10 1172,.int 13 1173,.int 32 1174]]))))))
def Sd(P:Params):List Obj:=[oT [],zw,kG [en P "__module__" 1197 uT,en P "__qualname__" 1199 (.str "Kind" 1198),en P "__firstlineno__" 1201 (.int 517 1200),en P "__init__" 1211 (.ref 696),en P "told" 1217 (.ref 701),en P "is_multi" 1224 (.ref 708),en P "is_letter" 1231 (.ref 715),en P "is_text" 1238 (.ref 722),en P "__static_attributes__" 1242 (.ref 723)] 9,oT [],oR (BY 4 [(519,695),(524,700),(527,707),(530,714),(533,721)]),zA "Kind" 517 686 1192,zy 688 685 uT]++(dy (iy 102) "Kind." uT [5,0,2,2,2] 0 690 1202++([oT [.str "params" 1239,.str "sub" 1240,.str "top" 1241],kG [en P "__module__" 1197 uT,en P "__firstlineno__" 1201 (.int 517 1200),en P "__init__" 1211 (.ref 696),en P "told" 1217 (.ref 701),en P "is_multi" 1224 (.ref 708),en P "is_letter" 1231 (.ref 715),en P "is_text" 1238 (.ref 722),en P "__static_attributes__" 1242 (.ref 723),en P "__dict__" 1244 (.ref 726),en P "__weakref__" 1246 (.ref 727),en P "__doc__" 1247 .none] 4,HL "Kind" 725 1190,HN 725 1243,Ge 725 1245,zv 725,zx 725]++(dy cu "" uT [1] 103 730 1250)))
def Sb(_:Params):List Obj:=dy cu "" uT [2,2,3,2,4,0,4,4,5,0] 104 737 1256++(dy cu "" uT [5,0,7] 115 803 1335)
def Sa(_:Params):List Obj:=dy cu "" uT [10,5,2] 118 822 1363++(dy cu "" M9 [2] 126 843 1405++(dy cu "" M9 [5,5,5,6,0] 128 850 1413++([oT [.str "7bit" 1466,.str "8bit" 1467,.str "binary" 1468]])))
def R_(P:Params):List Obj:=[oT [],zw,kG [en P "__module__" 1481 gR,en P "__qualname__" 1483 (.str "Part" 1482),en P "__firstlineno__" 1485 (.int 728 1484),en P "__init__" 1497 (.ref 897),en P "told" 1503 (.ref 902),en P "__static_attributes__" 1512 (.ref 903)] 6,oT [],oR (BY 4 [(730,896),(740,901)]),zA "Part" 728 887 1476,zy 889 886 gR]++(dy (iy 139) "Part." gR [7,0] 0 891 1486++([oT [.str "begin" 1504,.str "body" 1505,.str "encoding" 1506,.str "end" 1507,.str "fields" 1508,.str "inner" 1509,.str "kids" 1510,.str "kind" 1511],kG [en P "__module__" 1481 gR,en P "__firstlineno__" 1485 (.int 728 1484),en P "__init__" 1497 (.ref 897),en P "told" 1503 (.ref 902),en P "__static_attributes__" 1512 (.ref 903),en P "__dict__" 1514 (.ref 906),en P "__weakref__" 1516 (.ref 907),en P "__doc__" 1517 .none] 4,HL "Part" 905 1474,HN 905 1513,Ge 905 1515,zv 905,zx 905]++(dy cu "" gR [0,5,12,0] 140 910 1520)))
def R9(_:Params):List Obj:=dy cu "" gR [2,0,2,3,3,4] 144 934 1559++(dy cu "" A_ [3,5,0,5] 151 974 1606++(dy cu "" J4 [5,6] 156 1000 1642))
def R8(_:Params):List Obj:=[oT [.int 9 1665,.int 10 1666,.int 13 1667,.int 32 1668],oT [.str "Q" 1674,.str "B" 1675]]++(dy cu "" J3 [2,4,0,4,0,7,6,0,7] 163 1016 1677)
def R7(P:Params):List Obj:=[oT [],zw,kG [en P "__module__" 1766 ai,en P "__qualname__" 1768 (.str "Seen" 1767),en P "__firstlineno__" 1770 (.int 931 1769),en P "__init__" 1780 (.ref 1086),en P "__static_attributes__" 1784 (.ref 1087)] 5,oT [],oR (BY 4 [(933,1085)]),zA "Seen" 931 1076 1761,zy 1078 1075 ai]++(dy (iy 174) "Seen." ai [5] 0 1080 1771++([oT [.str "letter" 1781,.str "number" 1782,.str "part" 1783],kG [en P "__module__" 1766 ai,en P "__firstlineno__" 1770 (.int 931 1769),en P "__init__" 1780 (.ref 1086),en P "__static_attributes__" 1784 (.ref 1087),en P "__dict__" 1786 (.ref 1090),en P "__weakref__" 1788 (.ref 1091),en P "__doc__" 1789 .none] 4,HL "Seen" 1089 1759,HN 1089 1785,Ge 1089 1787,zv 1089,zx 1089]++(dy cu "" ai [3,2,2,5,4] 175 1094 1792)))
def R6(_:Params):List Obj:=dy cu "" ai [5] 180 1129 1833++([oT [.int 0 1843]]++(HO (cu 181) "" ai (.ref 1136) 6 1137 1844++(dy cu "" ai [4,4,4,4,7,5,4] 182 1144 1855++([oT [],oR [],oT [.str "tree" 1925,.str "seen" 1926,.str "context" 1927],oT [.str "seen" 1928,.str "context" 1929],oF (df 189 "matches"),oC [.str "matches" 1922,.str "matches" 1923,.str "/claim/cut.py" 1924,.int 1009 0,.int 3 0,.int 0 0,.int 0 0,.int 3 0,.ref 1193,.bool true,.int 181 0,.ref 1194,.none,.ref 1195,.ref 1196,.ref 1197,.int 1930 0,.int 1009 0,.str "/claim/cut.py" 1931],oG (df 189 "matches") .none ai 1198]++(dy cu "" ai [2,0] 190 1200 1933)))))
def R5(_:Params):List Obj:=dy cu "" ai [4,0] 192 1212 1946++([oT [.int 1969 1963,.int 12 1964,.int 31 1965],oT [.ref 1224,.int (-1) 1967],oT [.int 1994 1968,.int 2 1969,.int 1 1970],oT [.ref 1226,.int 8797 1971],oT [.int 1994 1972,.int 2 1973,.int 2 1974],oT [.ref 1228,.int 8798 1975],oT [.int 2000 1976,.int 2 1977,.int 29 1978],oT [.ref 1230,.int 11016 1979],oT [.ref 1225,.ref 1227,.ref 1229,.ref 1231],oT [.str "31 Dec 1969 23:00 -0500" 1981,.str "Tue, 1 Feb 1994 23:59:60 +0000" 1982,.str "2 Feb 1994 00:00:00 GMT" 1983,.str "29 Feb 00 12:00:00 +1400" 1984,.str "30 Feb 1994 00:00 GMT" 1985,.str "" 1986],oT [.str "tea" 1988,.str "At noon" 1989,.str "seven" 1990,.str "x" 1991],oT [.str "$Work" 1993,.str "\\Answered" 1994,.str "\\Seen" 1995,.str "kw" 1996]]++(dy cu "" gx [0,5,0,0,5,7,4,0] 199 1236 1998))
def R4(_:Params):List Obj:=dy cu "" gx [4,0,0,0,0] 207 1284 2063
def CH(P:Params):List Obj:=[boot_o_0 P,boot_o_1 P,boot_o_2 P,boot_o_3 P,boot_o_4 P,boot_o_5 P,boot_o_6 P,boot_o_7 P,boot_o_8 P,boot_o_9 P,boot_o_10 P]
def Qy(P:Params):BT:=bh (CH P++MW) 0 .nil
def Qx(P:Params):BT:=br [(3,oM P 11 11 [(0,.str "postkeep.errors" 194)]),(12,oB 6),(2,⟨.none,none,.dict ⟨[en P "type.__subclasses__.Exception.0" 232 (.int 46 0),en P "type.__subclasses__.Exception.n" 233 (.int 1 0)]⟩ 2,⟨[]⟩⟩)] (bh (Zo P) 15 (Qy P))
def Qw(P:Params):BT:=br [(3,oM P 12 12 [(0,.str "postkeep.errors" 194)]),(12,oB 9),(46,HM "PostError" [.type "Exception"] [.ref 46,.type "Exception",.type "BaseException",.type "object"] 45 [.ref 59] (some (.ref 22)) 196 204 "Exception.__new__")] (bh (Zn P) 50 (Qx P))
def Qv(P:Params):BT:=br [(3,oM P 13 13 [(0,.str "postkeep.errors" 194)]),(12,oB 12),(46,HM "PostError" [.type "Exception"] [.ref 46,.type "Exception",.type "BaseException",.type "object"] 45 [.ref 59,.ref 71] (some (.ref 22)) 196 204 "Exception.__new__")] (bh (Zm P) 62 (Qw P))
def Qu(P:Params):BT:=br [(3,oM P 20 20 [(0,.str "postkeep.boxes" 284)]),(12,oB 24),(46,HM "PostError" [.type "Exception"] [.ref 46,.type "Exception",.type "BaseException",.type "object"] 45 [.ref 59,.ref 71,.ref 83] (some (.ref 22)) 196 204 "Exception.__new__")] (bh (Zl P) 74 (Qv P))
def Qt(P:Params):BT:=br [(3,oM P 23 23 [(0,.str "postkeep.octets" 366)]),(12,oB 27)] (bh (Zk P) 107 (Qu P))
def Qs(P:Params):BT:=br [(3,oM P 24 24 [(0,.str "postkeep.octets" 366)]),(12,oB 30)] (bh (Zj P) 142 (Qt P))
def Qr(P:Params):BT:=br [(3,oM P 39 39 [(0,.str "postkeep.charsets" 518)]),(12,oB 60)] (bh (Zi P) 228 (Qs P))
def Qq(P:Params):BT:=br [(3,oM P 53 53 [(0,.str "postkeep.tokens" 613)]),(12,oB 90)] (bh (Zh P) 296 (Qr P))
def Qp(P:Params):BT:=br [(3,oM P 61 61 [(0,.str "postkeep.dates" 721)]),(12,oB 99)] (bh (Zg P) 367 (Qq P))
def IZ(P:Params):BT:=br [(3,oM P 66 66 [(0,.str "postkeep.dates" 721)]),(12,oB 114)] (bh (Zf P) 388 (Qp P))
def IY(P:Params):BT:=br [(3,oM P 74 74 [(0,.str "postkeep.dates" 721)]),(12,oB 138)] (bh (Si P) 444 (IZ P))
def IX(P:Params):BT:=br [(3,oM P 75 75 [(0,.str "postkeep.dates" 721)]),(12,oB 141)] (bh (Sh P) 493 (IY P))
def IW(P:Params):BT:=br [(3,oM P 80 80 [(0,.str "postkeep.headers" 1007)]),(12,oB 153)] (bh (Sg P) 547 (IX P))
def IV(P:Params):BT:=br [(3,oM P 84 84 [(0,.str "postkeep.headers" 1007)]),(12,oB 165)] (bh (Sf P) 576 (IW P))
def IU(P:Params):BT:=br [(3,oM P 102 102 [(0,.str "postkeep.params" 1169)]),(12,oB 189)] (bh (Se P) 630 (IV P))
def IT(P:Params):BT:=br [(3,oM P 104 104 [(0,.str "postkeep.params" 1169)]),(12,oB 195)] (bh (Sd P) 683 (IU P))
def IS(P:Params):BT:=br [(3,oM P 118 118 [(0,.str "postkeep.params" 1169),(113,.ref 802)]),(12,oB 234)] (bh (Sb P) 737 (IT P))
def IQ(P:Params):BT:=br [(3,oM P 136 136 [(0,.str "postkeep.parts" 1460)]),(12,oB 261)] (bh (Sa P) 822 (IS P))
def IP(P:Params):BT:=br [(3,oM P 141 141 [(0,.str "postkeep.parts" 1460)]),(12,oB 276)] (bh (R_ P) 884 (IQ P))
def IM(P:Params):BT:=br [(3,oM P 153 153 [(0,.str "postkeep.words" 1663)]),(12,oB 312)] (bh (R9 P) 934 (IP P))
def IL(P:Params):BT:=br [(3,oM P 167 167 [(0,.str "postkeep.search" 1755)]),(12,oB 339)] (bh (R8 P) 1014 (IM P))
def IK(P:Params):BT:=br [(3,oM P 173 173 [(0,.str "postkeep.search" 1755)]),(12,oB 357)] (bh (R7 P) 1073 (IL P))
def IJ(P:Params):BT:=br [(3,oM P 185 185 [(0,.str "postkeep.search" 1755)]),(12,oB 393)] (bh (R6 P) 1129 (IK P))
def II(P:Params):BT:=br [(3,oM P 199 199 []),(12,oB 423)] (bh (R5 P) 1212 (IJ P))
def aA(P:Params):BT:=br [(3,oM P 204 204 []),(12,oB 438)] (bh (R4 P) 1284 (II P))
noncomputable def env:Env:={scope:=pw.main.scope,locals:=mainNs,globals:=mainNs,cells:=[],code:=.ref 13,frame:=some 14}
abbrev D8:List Stmt:=pw.main.body
def yZ:Code:=.body (behindTheImports pw) env
noncomputable def HT:List Frame:=[topFrame ⟨0,0,0,0⟩]
abbrev rq(t:Params→BT)(n tk:Nat)(w:World)(os:OsState):SharedT:=⟨t w.params,n,{},⟨[]⟩,{},tk,os⟩
noncomputable def PC(k:Nat)(a:Params→BT)(n t j l:Nat)(p:PySem.Pos)(b:Params→BT)(n' t':Nat)(q:PySem.Pos):Prop:=∀(w:World) (os:OsState),PySem.W.Fast.tw10110043849684766642 PySem.W.Fast.tw14364793385576792824 pw w 11 (some (.ref 6)) 1 k (rq a n t w os) (piecesOf ((D8.drop j).take l) env yZ p HT)=some (.next,rq b n' t' w os,yZ,q)
theorem PC.to{k n t j l n' t':Nat}{a b:Params→BT}{p q:PySem.Pos}(h:PC k a n t j l p b n' t' q)(w:World)(os:OsState):segRunT treeTable pw w 11 (some (.ref 6)) 1 k (rq a n t w os) (piecesOf ((D8.drop j).take l) env yZ p HT)=some (.next,rq b n' t' w os,yZ,q):=by
 rewrite[PySem.W.Fast.te10110043849684766642,PySem.W.Fast.te14364793385576792824];exact h w os
theorem Y_:PC 307 Qy 15 187 0 3 ⟨0,0,0,0⟩ Qx 50 236 ⟨5,0,13,35⟩:=fun w os=>by kernel_rfl
theorem Y9:PC 214 Qx 50 236 3 1 ⟨5,0,13,35⟩ Qw 62 252 ⟨14,0,15,8⟩:=fun w os=>by kernel_rfl
theorem Y8:PC 214 Qw 62 252 4 1 ⟨14,0,15,8⟩ Qv 74 268 ⟨16,0,17,8⟩:=fun w os=>by kernel_rfl
theorem Y7:PC 338 Qv 74 268 5 8 ⟨16,0,17,8⟩ Qu 107 314 ⟨33,0,39,15⟩:=fun w os=>by kernel_rfl
theorem Y6:PC 321 Qu 107 314 13 4 ⟨33,0,39,15⟩ Qt 142 372 ⟨56,0,56,12⟩:=fun w os=>by kernel_rfl
theorem Y5:PC 526 Qt 142 372 17 1 ⟨56,0,56,12⟩ Qs 228 482 ⟨57,0,103,54⟩:=fun w os=>by kernel_rfl
theorem Y4:PC 380 Qs 228 482 18 16 ⟨57,0,103,54⟩ Qr 296 582 ⟨165,0,170,26⟩:=fun w os=>by kernel_rfl
theorem Y3:PC 372 Qr 296 582 34 15 ⟨165,0,170,26⟩ Qq 367 696 ⟨249,0,265,40⟩:=fun w os=>by kernel_rfl
theorem Y2:PC 165 Qq 367 696 49 9 ⟨249,0,265,40⟩ Qp 388 750 ⟨288,0,288,9⟩:=fun w os=>by kernel_rfl
theorem Y1:PC 388 Qp 388 750 58 5 ⟨288,0,288,9⟩ IZ 444 832 ⟨311,0,323,34⟩:=fun w os=>by kernel_rfl
theorem R2:PC 229 IZ 444 832 63 8 ⟨311,0,323,34⟩ IY 493 891 ⟨342,0,346,46⟩:=fun w os=>by kernel_rfl
theorem R1:PC 383 IY 493 891 71 1 ⟨342,0,346,46⟩ IX 547 962 ⟨347,0,378,29⟩:=fun w os=>by kernel_rfl
theorem R0:PC 155 IX 547 962 72 6 ⟨347,0,378,29⟩ IW 576 1012 ⟨419,0,419,13⟩:=fun w os=>by kernel_rfl
theorem RZ:PC 378 IW 576 1012 78 4 ⟨419,0,419,13⟩ IV 630 1084 ⟨443,0,445,63⟩:=fun w os=>by kernel_rfl
theorem RY:PC 373 IV 630 1084 82 20 ⟨443,0,445,63⟩ IU 683 1190 ⟨516,0,516,11⟩:=fun w os=>by kernel_rfl
theorem RX:PC 376 IU 683 1190 102 2 ⟨516,0,516,11⟩ IT 737 1256 ⟨535,0,536,57⟩:=fun w os=>by kernel_rfl
theorem RW:PC 397 IT 737 1256 104 14 ⟨535,0,536,57⟩ IS 822 1363 ⟨621,0,631,72⟩:=fun w os=>by kernel_rfl
theorem RV:PC 396 IS 822 1363 118 21 ⟨621,0,631,72⟩ IQ 884 1474 ⟨727,0,727,6⟩:=fun w os=>by kernel_rfl
theorem RU:PC 385 IQ 884 1474 139 5 ⟨727,0,727,6⟩ IP 934 1559 ⟨777,0,783,59⟩:=fun w os=>by kernel_rfl
theorem RT:PC 388 IP 934 1559 144 15 ⟨777,0,783,59⟩ IM 1014 1665 ⟨862,0,862,8⟩:=fun w os=>by kernel_rfl
theorem RQ:PC 333 IM 1014 1665 159 15 ⟨862,0,862,8⟩ IL 1073 1759 ⟨930,0,930,17⟩:=fun w os=>by kernel_rfl
theorem RP:PC 378 IL 1073 1759 174 6 ⟨930,0,930,17⟩ IK 1129 1833 ⟨948,0,952,24⟩:=fun w os=>by kernel_rfl
theorem RO:PC 377 IK 1129 1833 180 12 ⟨948,0,952,24⟩ IJ 1212 1946 ⟨1013,0,1015,73⟩:=fun w os=>by kernel_rfl
theorem RN:PC 391 IJ 1212 1946 192 15 ⟨1013,0,1015,73⟩ II 1284 2063 ⟨1086,0,1095,113⟩:=fun w os=>by kernel_rfl
theorem RL:PC 136 II 1284 2063 207 5 ⟨1086,0,1095,113⟩ aA 1311 2096 ⟨1130,0,1157,72⟩:=fun w os=>by kernel_rfl
def Ha(P:Params):Heap:=⟨⟨CH P++MW⟩,{}⟩
theorem JN(w:World)(os:OsState):topGo treeTable pw w 11 (some (.ref 6)) 12 ⟨boot_heap w.params,⟨[]⟩,boot_drawn,boot_toks,os⟩ (topStub pw)=some (⟨Ha w.params,⟨[]⟩,{},187,os⟩,⟨denote treeTable yZ,yZ,⟨0,0,0,0⟩,HT⟩):=by
 rewrite[PySem.W.Fast.te15667345088766844465,PySem.W.Fast.te14364793385576792824,PySem.W.Fast.te11892475500146522536];kernel_rfl
theorem AJ(w:World)(os:OsState):segRun treeTable pw w 11 (some (.ref 6)) 1 1 ⟨Ha w.params,⟨[]⟩,{},187,os⟩ (blockOf D8 env yZ ⟨0,0,0,0⟩ HT)=some (.next,(rq Qy 15 187 w os).abs,yZ,⟨0,0,0,0⟩):=by
 rewrite[PySem.W.Fast.te14374325043358763698,PySem.W.Fast.te14364793385576792824];kernel_rfl
theorem JO(w:World)(os:OsState):topRun treeTable pw w 11 (some (.ref 6)) 2 (rq aA 1311 2096 w os).abs ⟨doneF .next,yZ,⟨1130,0,1157,72⟩,HT⟩=some (rq aA 1311 2096 w os).abs:=by
 rewrite[PySem.W.Fast.te14082659384304107361,PySem.W.Fast.te14364793385576792824];kernel_rfl
theorem û{w:World}{n N j k:Nat}{S S':SharedT}{r:Shared}{pos p':Pos}(h:segRunT treeTable pw w 11 (some (.ref 6)) 1 n S (piecesOf ((D8.drop j).take k) env yZ pos HT)=some (.next,S',yZ,p'))
  (h':topRun treeTable pw w 11 (some (.ref 6)) N S'.abs (restOf (D8.drop (j+k)) env yZ p' HT)=some r):topRun treeTable pw w 11 (some (.ref 6)) (n+N) S.abs (restOf (D8.drop j) env yZ pos HT)=some r:=by
 have e:D8.drop j=(D8.drop j).take k++D8.drop (j+k):=by rw[←List.drop_drop,List.take_append_drop]
 rw[e];exact piece_app (segRun_of h) h'
theorem Cj:D8.drop 212=[]:=by kernel_rfl
theorem run(w:World)(os:OsState):topRun treeTable pw w 11 (some (.ref 6)) 8315 ⟨boot_heap w.params,⟨[]⟩,boot_drawn,boot_toks,os⟩ (topStub pw)=some (rq aA 1311 2096 w os).abs:=by
 refine go_top (n:=12) (N:=8303) (JN w os) ?_;refine piece_block (n:=1) (N:=8302) (AJ w os) ?_;refine û (n:=307) (N:=7995) (j:=0) (k:=3) (Y_.to w os) ?_;refine û (n:=214) (N:=7781) (j:=3) (k:=1) (Y9.to w os) ?_;refine û (n:=214) (N:=7567) (j:=4) (k:=1) (Y8.to w os) ?_;refine û (n:=338) (N:=7229) (j:=5) (k:=8) (Y7.to w os) ?_;refine û (n:=321) (N:=6908) (j:=13) (k:=4) (Y6.to w os) ?_;refine û (n:=526) (N:=6382) (j:=17) (k:=1) (Y5.to w os) ?_;refine û (n:=380) (N:=6002) (j:=18) (k:=16) (Y4.to w os) ?_;refine û (n:=372) (N:=5630) (j:=34) (k:=15) (Y3.to w os) ?_;refine û (n:=165) (N:=5465) (j:=49) (k:=9) (Y2.to w os) ?_;refine û (n:=388) (N:=5077) (j:=58) (k:=5) (Y1.to w os) ?_;refine û (n:=229) (N:=4848) (j:=63) (k:=8) (R2.to w os) ?_;refine û (n:=383) (N:=4465) (j:=71) (k:=1) (R1.to w os) ?_;refine û (n:=155) (N:=4310) (j:=72) (k:=6) (R0.to w os) ?_;refine û (n:=378) (N:=3932) (j:=78) (k:=4) (RZ.to w os) ?_;refine û (n:=373) (N:=3559) (j:=82) (k:=20) (RY.to w os) ?_;refine û (n:=376) (N:=3183) (j:=102) (k:=2) (RX.to w os) ?_;refine û (n:=397) (N:=2786) (j:=104) (k:=14) (RW.to w os) ?_;refine û (n:=396) (N:=2390) (j:=118) (k:=21) (RV.to w os) ?_;refine û (n:=385) (N:=2005) (j:=139) (k:=5) (RU.to w os) ?_;refine û (n:=388) (N:=1617) (j:=144) (k:=15) (RT.to w os) ?_;refine û (n:=333) (N:=1284) (j:=159) (k:=15) (RQ.to w os) ?_;refine û (n:=378) (N:=906) (j:=174) (k:=6) (RP.to w os) ?_;refine û (n:=377) (N:=529) (j:=180) (k:=12) (RO.to w os) ?_;refine û (n:=391) (N:=138) (j:=192) (k:=15) (RN.to w os) ?_;refine û (n:=136) (N:=2) (j:=207) (k:=5) (RL.to w os) ?_;rw[Cj];exact piece_nil (JO w os)
def qv:Program:={pw with main:={pw.main with body:=[cu 211]}}
noncomputable def qj:List Õ:=
 .ofString "_wall"::.ofString "PostError"::.ofString "WordFault"::.ofString "MimeFault"::.ofString "StoreFault"::.ofString "SYSTEM"::.ofString "NO_KEYWORD"::.ofString "MOST_KEYWORD"::.ofString "system_flags"::.ofString "is_keyword"::.ofString "flag_name"::.ofString "Letter"::
 .ofString "RETURN_octets"::.ofString "MOST_FIGURES"::.ofString "Cursor"::.ofString "lower_code"::.ofString "lower"::.ofString "lower_text"::.ofString "line_spans"::.ofString "ASCII"::.ofString "LATIN"::.ofString "UTF8"::.ofString "CHARSETS"::.ofString "UNKNOWN_SIGN"::
 .ofString "charset_names"::.ofString "charset_name"::.ofString "need_charset"::.ofString "follower_span"::.ofString "utf8_sign"::.ofString "sign_at"::.ofString "text_in"::.ofString "strict_text"::.ofString "guessed_text"::.ofString "MOST_DEPTH_tokens"::.ofString "SIGNS_tokens"::.ofString "ATOM_SIGNS"::
 .ofString "NEVER_ESCAPED"::.ofString "is_atom_code"::.ofString "line_end"::.ofString "inside_at"::.ofString "closed_at"::.ofString "comment_at"::.ofString "atom_at"::.ofString "token_at"::.ofString "past_white"::.ofString "tokens_of"::.ofString "without_comments"::.ofString "MONTHS"::
 .ofString "DAYS"::.ofString "MOST_YEAR"::.ofString "DAY_SECONDS"::.ofString "FIRST_DAY"::.ofString "Moment"::.ofString "is_leap"::.ofString "month_length"::.ofString "days_before_year"::.ofString "day_told"::.ofString "is_day"::.ofString "is_time"::.ofString "day_of"::
 .ofString "month_number"::.ofString "is_day_name"::.ofString "is_figures"::.ofString "zone_in"::.ofString "named_zone"::.ofString "DateReader"::.ofString "full_year"::.ofString "read_clock"::.ofString "read_zone"::.ofString "read_date"::.ofString "WHITE_headers"::.ofString "Field"::
 .ofString "line_at"::.ofString "is_name"::.ofString "colon_in"::.ofString "read_spans"::.ofString "read_fields"::.ofString "rows_of"::.ofString "unfolded"::.ofString "first_body"::.ofString "SIGNS_base64"::.ofString "PAD"::.ofString "worth_table"::.ofString "group_octets"::
 .ofString "decoded"::.ofString "WHITE_params"::.ofString "SEMICOLON"::.ofString "EQUALS_params"::.ofString "QUOTE"::.ofString "BRACKET"::.ofString "PER_CENT"::.ofString "BARRED"::.ofString "HEX_FIGURES"::.ofString "Kind"::.ofString "plain_kind"::.ofString "is_token_code"::
 .ofString "skip_between"::.ofString "take_token"::.ofString "is_worth_code"::.ofString "take_worth"::.ofString "small_word"::.ofString "take_pairs"::.ofString "part_number"::.ofString "part_of"::.ofString "hex_worth"::.ofString "hex_worth_params"::.ofString "percent_decoded"::.ofString "charset_cut"::
 .ofString "joined_worth"::.ofString "params_of"::.ofString "strict_kind"::.ofString "read_kind"::.ofString "EQUALS_quoted"::.ofString "BLANK"::.ofString "RETURN_quoted"::.ofString "UNDERLINE"::.ofString "hex_worth_quoted"::.ofString "quoted_at"::.ofString "line_parts"::.ofString "unquoted"::
 .ofString "quoted_decoded"::.ofString "word_q_decoded"::.ofString "MOST_DEPTH_parts"::.ofString "PLAIN_ENCODING"::.ofString "OPEN_ENCODINGS"::.ofString "WORD_ENDS"::.ofString "BLANKS"::.ofString "Part"::.ofString "encoding_of"::.ofString "boundary_way"::.ofString "part_spans"::.ofString "kid_spans"::
 .ofString "has_inner"::.ofString "read_part"::.ofString "read_message"::.ofString "undone"::.ofString "body_octets"::.ofString "body_text"::.ofString "row_of"::.ofString "leaves_of"::.ofString "needs_part"::.ofString "decide"::.ofString "ends_of"::.ofString "has"::
 .ofString "WHITE_words"::.ofString "OPENING"::.ofString "CLOSING"::.ofString "WAYS"::.ofString "is_word_sign"::.ofString "part_end"::.ofString "word_parts"::.ofString "is_apart"::.ofString "plain_text"::.ofString "word_at"::.ofString "pieces_of"::.ofString "all_white"::
 .ofString "decoded_words"::.ofString "MOST_DEPTH_search"::.ofString "Seen"::.ofString "is_within"::.ofString "field_text"::.ofString "field_line"::.ofString "header_holds"::.ofString "head_holds"::.ofString "inner_holds"::.ofString "texts_hold"::.ofString "look_holds"::.ofString "day_holds"::
 .ofString "sent_day"::.ofString "sent_holds"::.ofString "number_holds"::.ofString "simple_holds"::.ofString "leaf_holds"::.ofString "matches"::.ofString "context_of"::.ofString "search_seen"::.ofString "seen_of"::.ofString "search"::.ofString "_law_days"::.ofString "_law_dates"::
 .ofString "_law_words"::.ofString "_law_flags"::.ofString "_law_box"::.ofString "_law_draw"::.ofString "_law_octets"::.ofString "_law_letter"::.ofString "_law_set"::.ofString "_law_has"::.ofString "_law_leaf"::.ofString "_law_tree"::.ofString "_law_day"::.ofString "_law_look"::
 .ofString "_law_text"::.ofString "_law_met"::[]
def jh(P:Params):Heap:=absHeap (aA P) 1311 {}
abbrev bf(w:World)(os:OsState):Shared:=⟨jh w.params,⟨[]⟩,{},2096,os⟩
theorem KN:∀w:World,(fencedOpening treeTable pw w 20000).map (fun s=>(s.heap,s.gens,s.drawn,s.toks))=some (boot_heap w.params,Array.mk [],boot_drawn,boot_toks):=
 boot_open (by kernel_rfl) (by kernel_rfl) (fun s=>by kernel_rfl)
theorem ZE(w:World):staticsOk (importedModules pw.main.body) (boot_heap w.params) (jh w.params)=true:=by kernel_rfl
theorem ZD(w:World):namesBound pw (jh w.params)=true:=by kernel_rfl
theorem ZC(w:World)(os:OsState):gensDone (bf w os)=true:=by kernel_rfl
theorem ZA(w:World):laidKept (boot_heap w.params) (jh w.params)=true:=by kernel_rfl
theorem Zx(w:World)(os:OsState):seen ((recsOf qv).map (·.name)) (ownsOf qv) [] {bf w os with gens:= #[]}=expectedOf qv:=by kernel_rfl
theorem Zw(w:World)(os:OsState):(bf w os).heap.bltView=bltViewBooted:=by kernel_rfl
theorem Sn(w:World)(os:OsState):(bf w os).heap.keysOk (looseW qv qj) ((recsOf qv).map (·.name)) ((litsOf qv).map (·.1)) ((clssOf qv (looseW qv qj)).map (·.name))=true:=by kernel_rfl
theorem Sl(w:World)(os:OsState):(bf w os).heap.accountedOkI (importedModules pw.main.body)=true:=by kernel_rfl
theorem Sk(w:World)(os:OsState):((bf w os).heap.isNs mainGlobals&&(bf w os).heap.isNs builtinsNs)=true:=by kernel_rfl
theorem Sj(w:World)(os:OsState):tablesOk qv (bf w os).heap=true:=by kernel_rfl
theorem Zu(w:World)(os:OsState):tabsOk qv (bf w os)=true:=by kernel_rfl
theorem Zt(w:World)(os:OsState):pinSeenD qv (drecsOf qv) (bf w os)=pinGoodD (drecsOf qv):=by kernel_rfl
theorem Zs(w:World)(os:OsState):plainSeenE qv (looseW qv qj) (bf w os)=plainGoodE qv (looseW qv qj):=by kernel_rfl
theorem Zr(w:World)(os:OsState):plainSeenD qv qj (bf w os)=plainGoodD qv qj:=by kernel_rfl
theorem Zq(w:World)(os:OsState):wideSeen qv (bf w os)=wideGood qv:=by kernel_rfl
theorem Zp(w:World)(os:OsState):clsSeenW qv qj (bf w os)=clsGoodW qv qj:=by kernel_rfl
end
section
set_option maxRecDepth 100000
set_option maxHeartbeats 400000
noncomputable def Yf(s:Shared):Heap×Nat:=(s.heap,s.toks)
def Ya(w:World):Heap×Nat:=(jh w.params,2096)
noncomputable def XT(_:Shared):Bool:=true
theorem Zv(w:World)(os:OsState):((bf w os).heap.keysOk (looseW qv qj) ((recsOf qv).map (·.name)) ((litsOf qv).map (·.1)) ((clssOf qv (looseW qv qj)).map (·.name))&&(bf w os).heap.accountedOkI (importedModules pw.main.body)&&(bf w os).heap.isNs mainGlobals&&(bf w os).heap.isNs builtinsNs&&tablesOk qv (bf w os).heap&&XT (bf w os)&&(if true then(bf w os).gens.size==0 else !leftWithCleanup (bf w os).gens))=true:=
 have c:=FK.mp (Sk w os)
 look_both (look_both (look_both (look_both (look_both (look_both (Sn w os) (Sl w os)) c.1) c.2) (Sj w os)) rfl) rfl
theorem M0(w:World)(os:OsState):openSeen qv qj (importedModules pw.main.body) XT true (bf w os)=openGood qv qj:=by
 delta openSeen openGood
 exact looks_pair (Zx w os) (looks_pair (Zw w os) (looks_pair (Zv w os) (looks_pair (Zu w os) (looks_pair (Zt w os) (looks_pair (Zs w os) (looks_pair (Zr w os) (looks_pair (Zq w os) (Zp w os))))))))
theorem ZF(w:World)(os:OsState):(staticsOk (importedModules pw.main.body) (boot_heap w.params) (jh w.params)&&namesBound pw (jh w.params)&&gensDone (bf w os)&&laidKept (boot_heap w.params) (jh w.params))=true:=
 look_both (look_both (look_both (ZE w) (ZD w)) (ZC w os)) (ZA w)
theorem Fx(w:World)(os:OsState):((staticsOk (importedModules pw.main.body) (boot_heap w.params) (jh w.params)&&namesBound pw (jh w.params)&&gensDone (bf w os)&&laidKept (boot_heap w.params) (jh w.params)),openSeen qv qj (importedModules pw.main.body) XT true (bf w os),Yf (bf w os))=(true,openGood qv qj,Ya w):=
 looks_pair (ZF w os) (looks_pair (M0 w os) rfl)
theorem left:LeftO pw qv qj XT Yf Ya 20000:=by
 apply LeftO.of_pieces (p:=pw) (q:=qv) (loose:=qj) (Xt:=XT) (Yf:=Yf) (Ya:=Ya) (N:=20000) (g0:=true) (M:=8315) (H₀:=boot_heap) (H₁:=jh) (gs₀:=⟨[]⟩) (gs₁:=⟨[]⟩) (d₀:=boot_drawn) (d₁:={}) (k₀:=boot_toks) (k₁:=2096) (m₀:=11) (ann:=some (.ref 6))
 case open_=>exact KN
 case size=>intro w;kernel_rfl
 case run=>exact fun w os=>(run w os).trans (by kernel_rfl)
 case le=>kernel_rfl
 case looks=>
  intro w
  funext os
  exact Fx w os
abbrev Ŋ:OpenLaw:=PySem.Challenge.rw_nz0340_01
theorem YO:sreFenced Ŋ.row.prog.main=true:=by kernel_rfl
theorem YN:((moduleNames Ŋ.row.prog.main.body).isEmpty||lookedIntoSs (moduleNames Ŋ.row.prog.main.body) Ŋ.row.prog.main.body)=true:=by kernel_rfl
theorem Q9:namesResolve Ŋ.row.prog=true:=by
 rewrite[PySem.W.Fast.te8377067652309620493];kernel_rfl
theorem YM:(Ŋ.row.prog.boundNames.all fun n=> !worldNames.contains n)=true:=by
 rewrite[PySem.W.Fast.te18344453789297297638,PySem.W.Fast.te14412699480532031325,PySem.W.Fast.te3471404346716756564,PySem.W.Fast.sDec_eq];kernel_rfl
theorem YL:noRoadLSs {strict:= !(importedModules Ŋ.row.prog.main.body).all cThrough.contains,foot:=none,bare:=(["vars","dir","locals"]:List Õ).filter (readsOut Ŋ.row.prog Ŋ.row.prog.main.body)} Ŋ.row.prog.main.body=true:=by
 rewrite[PySem.W.Fast.te8326940854005059898,PySem.W.Fast.te13343964577679436407];kernel_rfl
theorem YK:(namesMeet Ŋ.row.prog Ŋ.row.prog.main.body fun À n=>attrL n)=true:=by
 rewrite[PySem.W.Fast.te17119622794617984870,PySem.W.Fast.te17868728402115742887];kernel_rfl
theorem YY:looksOpen Ŋ.row.prog=true:=by
 delta looksOpen
 exact look_both (look_both (look_both (look_both (look_both YO YN) Q9) YM) YL) YK
theorem YX:Ŋ.row.wellSaid=true:=by
 delta OpenRow.wellSaid OpenRow.partSaid
 refine look_both (look_both (look_both (look_both (look_both (look_both (look_both (look_both (look_both (look_both (look_both (look_both (look_both (look_both (look_both YY ?_) ?_) ?_) ?_) ?_) ?_) ?_) ?_) ?_) ?_) ?_) ?_) ?_) ?_) ?_
 all_goals kernel_rfl
theorem YW:decide (Ŋ.foot≤(behindTheImports Ŋ.prog).length)=true:=by kernel_rfl
theorem YV:Ŋ.footing.all footLine=true:=by kernel_rfl
theorem YU:noClassBlock Ŋ.prog Ŋ.footing=true:=by kernel_rfl
theorem YT:(Ŋ.most.all fun n=>decide (63≤n))=true:=by kernel_rfl
theorem YS:(Ŋ.bound.all fun n=>decide (2^63≤n))=true:=by kernel_rfl
theorem YR:noRoadLSs {strict:=true,foot:=some Ŋ.bound',writes:=Ŋ.writes,may:=Ŋ.may} Ŋ.footing=true:=by
 rewrite[PySem.W.Fast.te8326940854005059898];kernel_rfl
theorem YQ:defStands Ŋ.about Ŋ.above=true:=by kernel_rfl
theorem Rp:Ŋ.namesIt=true:=by rewrite[PySem.W.Fast.te16286561074155671207];kernel_rfl
theorem Ro:(["type","isinstance","issubclass","getattr","hasattr"]:List Õ).all (fun n=>Ŋ.about !=[n])=true:=by kernel_rfl
theorem Rn:(Ŋ.bound'.all fun n=> !builtinNamed n||Ŋ.about==[n]|| !Ŋ.reads n)=true:=by
 rewrite[PySem.W.Fast.te797321630700447069,PySem.W.Fast.named_eq,PySem.W.Fast.sDec_eq,PySem.W.Fast.te6984425678791042302];kernel_rfl
theorem Rm:(!Ŋ.writes||(Ŋ.prog.main.body.flatMap importedNames).all fun n=> !Ŋ.reads n)=true:=by kernel_rfl
theorem Rl:((Ŋ.prog.main.body.flatMap importedNames).all fun n=> !Ŋ.reads n||(drawsOf n Ŋ.prog.main.body).all fun mn=>mn.2 !=("attrgetter":Õ)&&mn.2 !=("methodcaller":Õ))=true:=by kernel_rfl
theorem Rk:(namesMeet Ŋ.prog Ŋ.footing (fun sc n=>(!(["type","isinstance","issubclass","getattr","hasattr"]:List Õ).contains n||sc.names.lookup n==some .globalImplicit)&&
  (Ŋ.may !=some n||sc.kind==.module||sc.names.lookup n==some .globalImplicit)))=true:=by
 rewrite[PySem.W.Fast.te17119622794617984870];kernel_rfl
theorem Rj:Ŋ.own.contains Ŋ.name=true:=by kernel_rfl
theorem Ri:(Ŋ.own.eraseDups.length==Ŋ.own.length)=true:=by kernel_rfl
theorem Rh:(Ŋ.own.all fun n=> !builtinNamed n)=true:=by rewrite[PySem.W.Fast.named_eq];kernel_rfl
theorem Rg:namesMeet Ŋ.prog Ŋ.above (fun À n=> !Ŋ.own.contains n)=true:=by
 rewrite[PySem.W.Fast.te17119622794617984870,PySem.W.Fast.te10792542408131684335,PySem.W.Fast.te3471404346716756564,PySem.W.Fast.sDec_eq];kernel_rfl
theorem Rf:(namesMeet Ŋ.prog Ŋ.footing fun sc n=>sc.kind==.module||sc.names.lookup n !=some .globalExplicit)=true:=by
 rewrite[PySem.W.Fast.te17119622794617984870];kernel_rfl
theorem QE:Ŋ.wellSaid=true:=by
 delta OpenLaw.wellSaid
 exact look_both (look_both (look_both (look_both (look_both (look_both (look_both (look_both (look_both (look_both (look_both (look_both (look_both (look_both (look_both (look_both (look_both (look_both YX YW) YV) YU) YT) YS) YR) YQ) Rp) Ro) Rn) Rm) Rl) Rk) Rj) Ri) Rh) Rg) Rf
noncomputable def Jb:FuncBody→List Stmt
 |.stmts b=>b
 |_=>[]
noncomputable def Ms:Stmt→Pos
 |.FunctionDef _ _ _ _ _ _ _ _ _ p=>p
 |_=>⟨0,0,0,0⟩
def dl:PySem.DefRec:=⟨"law",(df 211 "law").params,Jb (df 211 "law").body,(df 211 "law").scope,Ms (cu 211)⟩
def YP(w:World)(h:Heap):Prop:=∀a o,(aA w.params).get a=some o→a<1311→o.isFreed=false→h.get? a=some o
theorem hY(w:World)(s:Shared)(e:Yf s=Ya w):YP w s.heap:=by
 intro a o g l f;have h:s.heap=jh w.params:=congrArg Prod.fst e;rw[h];refine(abs_get l g).trans ?_;obtain⟨c,d,dt,sl⟩:=o;cases dt<;>first|rfl|cases f
theorem hYk(w:World)(h h':Heap)(y:YP w h)(k:∀b o,h.get? b=some o→h'.get? b=some o):YP w h':=fun a o g l f=>k _ _ (y a o g l f)
theorem N8:defOf qv Ŋ.row.name=some (dl,[]):=by kernel_rfl
theorem N7:Ŋ.row.prog.theDef Ŋ.row.name=some (dl.params,dl.body,dl.scope):=by kernel_rfl
theorem Tz:kwWritten? dl.params.kwonlyargs dl.params.kw_defaults=some []:=by kernel_rfl
theorem Tw:(!Ŋ.row.writes||Ŋ.row.records.isEmpty)=true:=by kernel_rfl
theorem Tx:(chainsOk qv&&opensWell Ŋ.row.prog&&(frees Ŋ.row.toRowW&&Ŋ.row.within.isEmpty))=true:=by kernel_rfl
noncomputable def L1(s:Õ):Nat:=s.cps.toList.foldl (fun a c=>a*2097152+c) 1
noncomputable def Uh:List Nat→Bool
 |[]=>true
 |x::r=>(r.all fun y=> !ö x y)&&Uh r
theorem K7{β:Type}{l:List (Õ×β)}:Uh (l.map fun p=>L1 p.1)=true→∀p∈l,l.filter (fun q=>q.1==p.1)=[p]:=by
 induction l with
 |nil=>intro _ p hp;exact absurd hp qn
 |cons a l ih=>
  intro h p hp;obtain⟨h1,h2⟩:=FK.mp h;have hn:∀q∈l,a.1≠q.1:=by
   intro q hq e;have t:(!ö (L1 a.1) (L1 q.1))=true:=kg.mp h1 (L1 q.1) (List.mem_map_of_mem (f:=fun p:Õ×β=>L1 p.1) hq);rw[e,qm]at t;cases t
  rcases ĸ.mp hp with e|hq
  ·subst e;rw[yF (by simp),List.filter_eq_nil_iff.mpr];intro q hq e;exact hn q hq (eq_of_beq e).symm
  ·rw[yE (by simpa using hn p hq)];exact ih h2 p hq
theorem once{sc:Scope}(h:Uh (sc.names.map fun p=>L1 p.1)=true):TablesWhole.noTwice sc=true:=by
 unfold TablesWhole.noTwice;refine kg.mpr fun ⟨n,k⟩ hp=>?_;dsimp only;rw[show sc.names.filter (fun x=>x.1==n)=[(n,k)]from K7 h (n,k) hp]
theorem YC:TablesWhole.noTwice Ŋ.row.prog.main.scope=true:=once (by decide+kernel)
theorem YB:TablesWhole.wSs TablesWhole.gather Ŋ.row.prog.main.scope ⟨Ŋ.row.prog.main.scope,[],[],[],none⟩ Ŋ.row.prog.main.scope Ŋ.row.prog.main.body=[]:=by kernel_rfl
theorem YA:TablesWhole.wSs TablesWhole.holds Ŋ.row.prog.main.scope ⟨Ŋ.row.prog.main.scope,[],[],[],none⟩ Ŋ.row.prog.main.scope Ŋ.row.prog.main.body=true:=by kernel_rfl
theorem Yz{p:Program}(h1:TablesWhole.noTwice p.main.scope=true)(h0:TablesWhole.wSs TablesWhole.gather p.main.scope ⟨p.main.scope,[],[],[],none⟩ p.main.scope p.main.body=[])(h2:TablesWhole.wSs TablesWhole.holds p.main.scope ⟨p.main.scope,[],[],[],none⟩ p.main.scope p.main.body=true)(h3:p.modules=[])(h4:p.parses=[])(h5:p.harvested=[]):p.tablesWhole=true:=by
 show((true&&(TablesWhole.noTwice p.main.scope&&(TablesWhole.wSs TablesWhole.holds p.main.scope ⟨p.main.scope,[],TablesWhole.wSs TablesWhole.gather p.main.scope ⟨p.main.scope,[],[],[],none⟩ p.main.scope p.main.body,[],none⟩ p.main.scope p.main.body&&true)))&&_)=true;rw[h0,h1,h2,h3,h4,h5];rfl
theorem KO:Ŋ.row.prog.bare:=⟨rfl,rfl,rfl,rfl,rfl,Yz YC YB YA rfl rfl rfl⟩
theorem KL:Ŋ.row.toRowW.promised:=⟨[.list []],by decide+kernel,by decide+kernel⟩
abbrev Vj(_:Õ→Option Value)(_:Heap):Prop:=True
theorem hd(call:WalkO qv qj Vj YP Ŋ.row.toRowW dl [] fun f vs=>PySem.call f vs):Ŋ.Holds:=by
 refine holds_law QE fun ok=>?_;apply holds_open (q:=qv) (loose:=qj) (Xt:=XT) (XP:=Vj) (Yf:=Yf) (Ya:=Ya) (YP:=YP) (d:=dl) (kwd:=[]) (N:=20000)
 case left=>exact left
 case hY=>exact hY
 case hYk=>exact hYk
 case hX=>exact fun À À=>trivial
 case hXk=>exact fun À À À À À=>trivial
 case hdef=>exact N8
 case hp=>exact N7
 case hk=>exact Tz
 case hRf=>exact fun À À=>recFacts_nil rfl
 case hwr=>exact Tw
 case k1=>exact ok
 case ok=>exact Tx
 case hb=>exact KO
 case hw=>exact KL
 case call=>exact call
end
end Internal.H
namespace Internal
section
set_option maxRecDepth 100000
inductive Ln|n (k:Nat)|v (i:Nat)|a (x y:Ln)|m (k:Nat) (x:Ln)
noncomputable def Ln.ctorIdx:Ln→Nat:=fun v=>v.casesOn (fun À=>0) (fun À=>1) (fun À À=>2) (fun À À=>3)
inductive Lc|z|c (l r:Ln) (t:Lc)
noncomputable def Lc.ctorIdx:Lc→Nat:=fun v=>v.casesOn 0 (fun À À À=>1)
abbrev Â:Ln:=.v 0
abbrev È:Ln:=.v 1
abbrev á:Ln:=.v 2
abbrev j_:Ln:=.v 3
abbrev Á:Ln:=.n 1
abbrev Ù:Ln:=.n 1000000
abbrev đ:Ln:=.n 0
abbrev ĵ:Ln:=.n 7
abbrev Ÿ:Ln:=.n 84
abbrev Ĵ:Ln:=.n 2
abbrev ŧ:Ln:=.n 20
abbrev aV:Ln:=.n 1000
abbrev ao:Ln:=.n 86
abbrev bN:Ln:=.n 100
abbrev bt:Ln:=.n 50
abbrev bM:Ln:=.n 30
abbrev dM:Ln:=.n 4
abbrev h_:Ln:=.n 60
abbrev jD:Ln:=.n 25
abbrev hZ:Ln:=.n 3
abbrev lA:Ln:=.n 10
abbrev jB:Ln:=.n 5
abbrev n6:Ln:=.n 900
noncomputable def uf:List Nat→List Nat→List Nat
 |[],y=>y
 |x,[]=>x
 |a::x,b::y=>(a+b)::uf x y
noncomputable def PM:Nat→List Nat
 |0=>[1]
 |i+1=>0::PM i
noncomputable def PN(k:Nat):List Nat→List Nat
 |[]=>[]
 |a::x=>(k*a)::PN k x
noncomputable def Ln.p:Ln→List Nat
 |.n k=>[k]
 |.v i=>0::PM i
 |.a x y=>uf x.p y.p
 |.m k x=>PN k x.p
noncomputable def Lc.l:Lc→List Nat
 |.z=>[]
 |.c l _ t=>uf l.p t.l
noncomputable def Lc.r:Lc→List Nat
 |.z=>[]
 |.c _ r t=>uf r.p t.r
noncomputable def V4:List Nat→Nat
 |[]=>0
 |x::_=>x
noncomputable def V5:List Int→Int
 |[]=>0
 |x::_=>x
noncomputable def Ki:Nat→List Nat→Nat
 |0,v=>V4 v
 |i+1,v=>Ki i v.tail
noncomputable def Kj:Nat→List Int→Int
 |0,v=>V5 v
 |i+1,v=>Kj i v.tail
noncomputable def Ln.d(v:List Nat):Ln→Nat
 |.n k=>k
 |.v i=>Ki i v
 |.a x y=>x.d v+y.d v
 |.m k x=>k*x.d v
noncomputable def Ln.i(v:List Int):Ln→Int
 |.n k=>vf k
 |.v i=>Kj i v
 |.a x y=>x.i v+y.i v
 |.m k x=>vf k*x.i v
noncomputable def Lc.H(v:List Nat)(P:Prop):Lc→Prop
 |.z=>P
 |.c l r t=>l.d v≤r.d v→t.H v P
noncomputable def Lc.J(v:List Int)(P:Prop):Lc→Prop
 |.z=>P
 |.c l r t=>l.i v≤r.i v→t.J v P
noncomputable def wO:List Nat→List Nat→Nat
 |[],_=>0
 |a::x,v=>a*V4 v+wO x v.tail
noncomputable def ldI:List Nat→List Int→Int
 |[],_=>0
 |a::x,v=>vf a*V5 v+ldI x v.tail
noncomputable def FA:List Nat→List Nat→Bool
 |[],_=>true
 |a::x,[]=>a==0&&FA x []
 |a::x,b::y=>ak a b&&FA x y
def SR(x y:List Nat):Bool:=FA x y&&FA y x
def SQ(x y:List Nat):Bool:=match x,y with
 |a::x,b::y=>ak a b&&SR x y
 |x,y=>SR x y
theorem ja(x:List Nat):∀(y v:List Nat),wO (uf x y) v=wO x v+wO y v:=by
 induction x with
 |nil=>exact fun y v=>(eZ _).symm
 |cons a x ih=>
  intro y v
  induction y using Ŭ with
  |nil=>rfl
  |cons b y=>exact(congr (congrArg HAdd.hAdd (Nat.add_mul a b _)) (ih y _)).trans (Nat.add_add_add_comm _ _ _ _)
theorem S0(a b c d:Int):a+b+(c+d)=a+c+(b+d):=by omega
theorem jb(x:List Nat):∀(y:List Nat) (v:List Int),ldI (uf x y) v=ldI x v+ldI y v:=by
 induction x with
 |nil=>exact fun y v=>(Int.zero_add _).symm
 |cons a x ih=>
  intro y v
  induction y using Ŭ with
  |nil=>exact(Int.add_zero _).symm
  |cons b y=>exact(congr (congrArg HAdd.hAdd (Int.add_mul (.ofNat a) (.ofNat b) _)) (ih y _)).trans (S0 _ _ _ _)
theorem Kd(k:Nat)(x:List Nat):∀(v:List Nat),wO (PN k x) v=k*wO x v:=by
 induction x with
 |nil=>exact fun v=>rfl
 |cons a x ih=>exact fun v=>(congr (congrArg HAdd.hAdd (Nat.mul_assoc k a _)) (ih _)).trans (Nat.mul_add _ _ _).symm
theorem Kf(k:Nat)(x:List Nat):∀(v:List Int),ldI (PN k x) v=vf k*ldI x v:=by
 induction x with
 |nil=>exact fun v=>(Int.mul_zero _).symm
 |cons a x ih=>exact fun v=>(congr (congrArg HAdd.hAdd (Int.mul_assoc (.ofNat k) (.ofNat a) _)) (ih _)).trans (Int.mul_add _ _ _).symm
theorem Kc(i:Nat):∀v:List Nat,wO (PM i) v=Ki i v:=by
 induction i with
 |zero=>exact fun v=>Nat.one_mul _
 |succ i ih=>exact fun v=>(congr (congrArg HAdd.hAdd (Nat.zero_mul _)) (ih _)).trans (eZ _)
theorem Ke(i:Nat):∀v:List Int,ldI (PM i) v=Kj i v:=by
 induction i with
 |zero=>exact fun v=>(Int.add_zero _).trans (Int.one_mul _)
 |succ i ih=>exact fun v=>(congr (congrArg HAdd.hAdd (Int.zero_mul _)) (ih _)).trans (Int.zero_add _)
theorem Ln.PI(v:List Nat)(e:Ln):wO e.p (1::v)=e.d v:=by
 induction e with
 |n k=>exact Nat.mul_one _
 |v i=>exact(congr (congrArg HAdd.hAdd (Nat.zero_mul _)) (Kc i v)).trans (eZ _)
 |a x y hx hy=>exact(ja _ _ _).trans (congr (congrArg HAdd.hAdd hx) hy)
 |m k x hx=>exact(Kd _ _ _).trans (congrArg _ hx)
theorem Ln.PH(v:List Int)(e:Ln):ldI e.p (1::v)=e.i v:=by
 induction e with
 |n k=>exact(Int.add_zero _).trans (Int.mul_one _)
 |v i=>exact(congr (congrArg HAdd.hAdd (Int.zero_mul _)) (Ke i v)).trans (Int.zero_add _)
 |a x y hx hy=>exact(jb _ _ _).trans (congr (congrArg HAdd.hAdd hx) hy)
 |m k x hx=>exact(Kf _ _ _).trans (congrArg _ hx)
theorem ij{x:List Nat}:∀(y v:List Nat),FA x y=true→wO x v≤wO y v:=by
 induction x with
 |nil=>exact fun À À À=>Nat.zero_le _
 |cons a x ih=>
  intro y v h
  induction y using Ŭ with
  |nil=>
   obtain⟨h1,h2⟩:=ģ.mp h;have:=ih [] v.tail h2;rw[show a=0 from eq_of_beq h1];show 0*_+_≤0;rw[Nat.zero_mul,eZ];exact this
  |cons b y=>
   obtain⟨h1,h2⟩:=ģ.mp h;exact Nat.add_le_add (Nat.mul_le_mul_right _ (dU h1)) (ih _ _ h2)
where ģ {a b:Bool}:(a&&b)=true↔a=true∧b=true:=by induction a using ñ<;>induction b using ñ<;>decide
theorem Hu{x:List Nat}:∀(y:List Nat) (v:List Int),FA x y=true→FA y x=true→ldI x v=ldI y v:=by
 induction x with
 |nil=>
  intro y
  induction y with
  |nil=>exact fun À À À=>rfl
  |cons b y ih=>
   intro v h g;obtain⟨h1,h2⟩:=ij.ģ.mp g;rw[show b=0 from eq_of_beq h1];show 0=vf 0*_+_;rw[←ih _ rfl h2];exact(congrArg (· +(0:Int)) (Int.zero_mul _)).symm
 |cons a x ih=>
  intro y v h g
  induction y using Ŭ with
  |nil=>
   obtain⟨h1,h2⟩:=ij.ģ.mp h;rw[show a=0 from eq_of_beq h1];show vf 0*_+_=0;rw[ih _ _ h2 rfl];exact congrArg (· +(0:Int)) (Int.zero_mul _)
  |cons b y=>
   obtain⟨h1,h2⟩:=ij.ģ.mp h;obtain⟨g1,g2⟩:=ij.ģ.mp g;rw[show a=b from ŵ (dU h1) (dU g1)];exact congrArg _ (ih _ _ h2 g2)
theorem Hs{x y:List Nat}{v:List Int}(h:SQ x y=true):ldI x (1::v)≤ldI y (1::v):=by
 have e:∀x y,SR x y=true→ldI x (1::v)≤ldI y (1::v):=fun x y h=>by
  obtain⟨a,b⟩:=ij.ģ.mp h;rw[Hu _ _ a b];exact Int.le_refl _
 induction x using Ŭ with
 |nil=>exact e _ _ h
 |cons a x=>
  induction y using Ŭ with
  |nil=>exact e _ _ h
  |cons b y=>
   obtain⟨h1,h2⟩:=ij.ģ.mp h;obtain⟨a1,b1⟩:=ij.ģ.mp h2;show vf a*1+ldI x v≤vf b*1+ldI y v;rw[Hu _ _ a1 b1,Int.mul_one,Int.mul_one];exact Int.add_le_add_right (lS.mpr (dU h1)) _
theorem Lc.Pu{v:List Nat}{P:Prop}(t:Lc):(wO t.l (1::v)≤wO t.r (1::v)→P)→t.H v P:=by
 induction t generalizing P with
 |z=>exact fun k=>k (Ĭ _)
 |c l r t ih=>
  intro k h;refine ih fun q=>k ?_;show wO (uf _ _) _≤wO (uf _ _) _;rw[ja,ja,Ln.PI,Ln.PI];exact Nat.add_le_add h q
theorem Lc.Pn{v:List Int}{P:Prop}(t:Lc):(ldI t.l (1::v)≤ldI t.r (1::v)→P)→t.J v P:=by
 induction t generalizing P with
 |z=>exact fun k=>k (Int.le_refl _)
 |c l r t ih=>
  intro k h;refine ih fun q=>k ?_;show ldI (uf _ _) _≤ldI (uf _ _) _;rw[jb,jb,Ln.PH,Ln.PH];exact Int.add_le_add h q
theorem â(v:List Nat)(t:Lc)(l r:Ln)(h:FA (uf l.p t.r) (uf r.p t.l)=true):t.H v (l.d v≤r.d v):=by
 refine t.Pu fun q=>?_;have:=ij _ (1::v) h;rw[ja,ja,Ln.PI,Ln.PI]at this;exact Nat.le_of_add_le_add_right (è this (Bj q _))
theorem ì(v:List Int)(t:Lc)(l r:Ln)(h:SQ (uf l.p t.r) (uf r.p t.l)=true):t.J v (l.i v≤r.i v):=by
 refine t.Pn fun q=>?_;have:=Hs (v:=v) h;rw[jb,jb,Ln.PH,Ln.PH]at this;exact Int.le_of_add_le_add_right (oQ this (Int.add_le_add_left q _))
theorem Nc(v:List Nat)(t:Lc)(h:FA (uf [1] t.r) t.l=true):t.H v False:=by
 refine t.Pu fun q=>?_;have:=ij _ (1::v) h;rw[ja]at this;exact Nat.not_succ_le_zero 0 (Nat.le_of_add_le_add_right (è this (è q (ņ (eZ _).symm))))
theorem si(v:List Int)(t:Lc)(h:SQ (uf [1] t.r) t.l=true):t.J v False:=by
 refine t.Pn fun q=>?_;have:=Hs (v:=v) h;rw[jb]at this;have e:ldI [1] (1::v)=1:=rfl;rw[e]at this;omega
example (a b c:Nat) (h:a+2≤b) (h2:b<c):a+1<c:=â [_,_,_] (.c (.a Â Ĵ) È (.c (.a È Á) á .z)) (.a (.a Â Á) Á) á rfl h h2
example (B:Int) (h:B+20<1000000):B+1+1<1000000:=ì [_] (.c (.a (.a Â ŧ) Á) Ù .z) (.a (.a (.a Â Á) Á) Á) Ù rfl h
end
inductive V where
 |none
 |bool (b:Bool)
 |int (i:Int)
 |str (l:List Nat)
 |bytes (l:List Nat)
 |tup (l:List V)
 |lst (l:List V)
 |aY (l:List (List Nat×V))
 |ins (c:Nat) (l:List (Nat×V))
 |Ó (i:Nat)
 |g_ (l:List V)
noncomputable def V.ctorIdx:V→Nat:=fun v=>v.casesOn 0 (fun À=>1) (fun À=>2) (fun À=>3) (fun À=>4) (fun À=>5) (fun À=>6) (fun À=>7) (fun À À=>8) (fun À=>9) (fun À=>10)
inductive Cell where
 |lst (l:List V)
 |aY (l:List (List Nat×V))
 |ins (c:Nat) (l:List (Nat×V))
 |Ô (v:V)
noncomputable def Cell.ctorIdx:Cell→Nat:=fun v=>v.casesOn (fun À=>0) (fun À=>1) (fun À À=>2) (fun À=>3)
inductive PE where
 |c (v:V)
 |l (i:Nat)
 |k (i:Nat)
 |at(e:PE) (a:Nat)
 |fn (j:Nat) (as:List PE)
 |cl (c:Nat) (as:List PE)
 |bl (b:Nat) (as:List PE)
 |lo (e:PE) (as:List PE)
 |me (o:PE) (a:Nat) (as:List PE)
 |ix (o i:PE)
 |sl (o:PE) (lo hi st:Option PE)
 |bi (op:Nat) (a b:PE)
 |cm (a:PE) (ops:List Nat) (bs:List PE)
 |bo (HA:Bool) (es:List PE)
 |nt (e:PE)
 |ng (e:PE)
 |te (t a b:PE)
 |tu (es:List PE)
 |li (es:List PE)
 |di (ks vs:List PE)
 |co (elt:PE) (tg:List Nat) (iter:PE) (ifs:List PE) (n:Nat)
 |la
 |no
noncomputable def PE.ctorIdx:PE→Nat:=fun v=>v.casesOn (fun À=>0) (fun À=>1) (fun À=>2) (fun À À=>3) (fun À À=>4) (fun À À=>5) (fun À À=>6) (fun À À=>7) (fun À À À=>8) (fun À À=>9) (fun À À À À=>10) (fun À À À=>11) (fun À À À=>12) (fun À À=>13) (fun À=>14) (fun À=>15) (fun À À À=>16) (fun À=>17) (fun À=>18) (fun À À=>19) (fun À À À À À=>20) 21 22
inductive Tg where
 |n (k:Bool) (i:Nat)
 |t (l:List (Bool×Nat))
 |a (o:PE) (at_:Nat)
 |s (o i:PE)
 |no
noncomputable def Tg.ctorIdx:Tg→Nat:=fun v=>v.casesOn (fun À À=>0) (fun À=>1) (fun À À=>2) (fun À À=>3) 4
inductive PS where
 |as (t:Tg) (e:PE)
 |ex (e:PE)
 |if(t:PE) (b o:List PS)
 |wh (t:PE) (b:List PS)
 |fo (t:Tg) (it:PE) (b:List PS)
 |re (e:PE)
 |ra (es:List PE)
 |tr (b:List PS) (c:Nat) (h:List PS)
 |pa
 |sw (l:List (Bool×Nat)) (es:List PE)
 |no
noncomputable def PS.ctorIdx:PS→Nat:=fun v=>v.casesOn (fun À À=>0) (fun À=>1) (fun À À À=>2) (fun À À=>3) (fun À À À=>4) (fun À=>5) (fun À=>6) (fun À À À=>7) 8 (fun À À=>9) 10
structure Fn where
 ps:List (Bool×Nat)
 nl:Nat
 nc:Nat
 ml:List V
 body:List PS
structure St where
 H:List Cell
 ρ:List (Option V)
 κ:List (Option V)
inductive Out where
 |val (v:V)
 |vals (l:List V)
 |next
 |ret (v:V)
 |exc
 |ov (o:Option V)
noncomputable def Out.ctorIdx:Out→Nat:=fun v=>v.casesOn (fun À=>0) (fun À=>1) 2 (fun À=>3) 4 (fun À=>5)
abbrev ğ:List Nat:=[115,117,98,106,101,99,116]
abbrev ŋ:List Nat:=[100,97,116,101]
abbrev bL:List Nat:=[83,117,98,106,101,99,116,58,32]
abbrev cY:List Nat:=[115,117,98,106,101,99,116,58,32]
abbrev aU:List Nat:=[109,111,100,115,101,113]
abbrev Ŧ:List Nat:=[115,101,110,116]
abbrev ř:List Nat:=[98,111,100,121]
abbrev eU:List Nat:=[117,115,45,97,115,99,105,105]
abbrev cy:List Nat:=[104,101,97,100,101,114]
abbrev aT:List Nat:=[116,101,120,116]
abbrev AD:List Nat:=[84,117,101,44,32,49,32,70,101,98,32,49,57,57,52,32,50,51,58,53,57,58,54,48,32,43,48,48,48,48]
abbrev eT:List Nat:=[68,97,116,101,58,32]
abbrev eS:List Nat:=[102,108,97,103,115]
abbrev AB:List Nat:=[50,57,32,70,101,98,32,48,48,32,49,50,58,48,48,58,48,48,32,43,49,52,48,48]
abbrev dK:List Nat:=[115,105,122,101]
abbrev AA:List Nat:=[51,49,32,68,101,99,32,49,57,54,57,32,50,51,58,48,48,32,45,48,53,48,48]
abbrev Az:List Nat:=[50,32,70,101,98,32,49,57,57,52,32,48,48,58,48,48,58,48,48,32,71,77,84]
abbrev Ay:List Nat:=[51,48,32,70,101,98,32,49,57,57,52,32,48,48,58,48,48,32,71,77,84]
abbrev jA:List Nat:=[98,101,102,111,114,101]
abbrev lz:List Nat:=[83,117,98,106,101,99,116]
abbrev jz:List Nat:=[100,97,116,101,58,32]
abbrev rQ:List Nat:=[92,65,110,115,119,101,114,101,100]
abbrev rP:List Nat:=[105,115,111,45,56,56,53,57,45,49]
abbrev ly:List Nat:=[108,97,114,103,101,114]
abbrev nZ:List Nat:=[115,109,97,108,108,101,114]
abbrev lu:List Nat:=[115,101,118,101,110]
abbrev hW:List Nat:=[102,108,97,103]
abbrev fE:List Nat:=[13,10,13,10]
abbrev nY:List Nat:=[115,105,110,99,101]
abbrev nX:List Nat:=[117,116,102,45,56]
abbrev Ax:List Nat:=[115,117,98,106,101,99,116,58,32,120]
abbrev wA:List Nat:=[65,116,32,110,111,111,110]
abbrev lr:List Nat:=[68,97,116,101]
abbrev rO:List Nat:=[36,87,111,114,107]
abbrev rN:List Nat:=[92,83,101,101,110]
abbrev Aw:List Nat:=[99,104,97,114,115,101,116]
abbrev Hm:List Nat:=[115,101,110,116,98,101,102,111,114,101]
abbrev Av:List Nat:=[100,97,116,101,58,32,50]
abbrev wz:List Nat:=[55,98,105,116]
abbrev fD:PE:=.c (.str [])
abbrev nW:PE:=.c (.str [117,105,100])
abbrev jy:PE:=.c (.str ŋ)
abbrev wy:PE:=.c (.str [13,10])
abbrev Ì:PE:=.c (.int 1)
abbrev å:PE:=.c (.int 0)
abbrev ť:PE:=.c (.int 7)
abbrev Ź:PE:=.c (.int 2)
abbrev lq:PE:=.c (.int 2147483647)
abbrev hV:PE:=.c (.int 4)
abbrev rK:PE:=.c (.int 3)
abbrev rJ:PE:=.c (.int 5)
abbrev wx:PE:=.c (.int 10)
abbrev Ã:PE:=.l 1
abbrev Ä:PE:=.l 0
abbrev Ë:PE:=.l 2
abbrev Þ:PE:=.l 3
abbrev ü:PE:=.l 6
abbrev Ă:PE:=.l 4
abbrev Ğ:PE:=.k 0
abbrev aS:PE:=.l 5
abbrev dJ:PE:=.l 10
abbrev cw:PE:=.l 9
abbrev dI:PE:=.l 7
inductive Task where
 |ev (d:Nat) (e:PE) (s:St)
 |bZ (d:Nat) (es:List PE) (s:St)
 |gv (d:Nat) (e:PE) (s:St)
 |hM (d:Nat) (HA:Bool) (es:List PE) (s:St)
 |yY (d:Nat) (v:V) (ops:List Nat) (es:List PE) (s:St)
 |CG (d:Nat) (HA:Bool) (es:List PE) (s:St)
 |ex (d:Nat) (x:PS) (s:St)
 |dj (d:Nat) (x:List PS) (s:St)
 |pE (d:Nat) (t:PE) (b:List PS) (s:St)
 |qF (d:Nat) (t:Tg) (items:List V) (b:List PS) (s:St)
 |fj (d:Nat) (elt:PE) (tg:List Nat) (ifs:List PE) (items:List V) (acc:List V) (s:St)
 |call (d:Nat) (j:Nat) (as:List V) (H:List Cell)
 |asg (d:Nat) (t:Tg) (v:V) (s:St)
 |opt (d:Nat) (e:Option PE) (s:St)
noncomputable def Task.ctorIdx:Task→Nat:=fun v=>v.casesOn (fun À À À=>0) (fun À À À=>1) (fun À À À=>2) (fun À À À À=>3) (fun À À À À À=>4) (fun À À À À=>5) (fun À À À=>6) (fun À À À=>7) (fun À À À À=>8) (fun À À À À À=>9) (fun À À À À À À À=>10) (fun À À À À=>11) (fun À À À À=>12) (fun À À À=>13)
structure ċ where
 fn:Nat→Option Fn
 gy:Nat→Nat→Option Nat
 init:Nat→Option Nat
 open_:Nat→Bool
 Fq:Nat→Bool
 lam:Nat
abbrev Res:=St×Out
theorem nS{C:Prop}{β:Type _}{x:β}(h:none=some x):C:=by cases h
theorem sN{C:Prop}{β:Type _}{x:β}(h:some x=none):C:=nS h.symm
theorem nN{C:Prop}{β:Type _}{x:β}{r:List β}(h:[]=x::r):C:=by cases h
theorem nC{C:Prop}{β:Type _}{x:β}{r:List β}(h:x::r=[]):C:=nN h.symm
theorem neT{C:Prop}{α:Type _}(t:α→Nat){x y:α}(h:x=y)(e:ö (t x) (t y)=false):C:=by
 rw[h,qm]at e;exact Bool.noConfusion e
theorem Ĕ{C:Prop}(h:true=false):C:=Bool.noConfusion h
theorem à{C:Prop}(h:false=true):C:=Bool.noConfusion h
theorem ob{α β:Type}{o:Option α}{f:α→Option β}{y:β}(h:o.bind f=some y):∃x,o=some x∧f x=some y:=by
 induction o using š with
 |none=>exact nS h
 |some x=>exact⟨x,rfl,h⟩
theorem om{α β:Type}{o:Option α}{f:α→β}{y:β}(h:o.map f=some y):∃x,o=some x∧f x=y:=by
 induction o using š with
 |none=>exact nS h
 |some x=>exact⟨x,rfl,ë h⟩
theorem og{α:Type}{b:Bool}{x:Option α}{y:α}(h:(if b then x else none)=some y):b=true∧x=some y:=by
 induction b using ñ with
 |false=>exact nS h
 |true=>exact⟨rfl,h⟩
theorem oa{a b:Bool}(h:(a&&b)=true):a=true∧b=true:=FK.mp h
theorem ï{α β:Type}{o:Option α}{f:α→Option β}{y:β}{C:Prop}(h:o.bind f=some y)(k:∀x,o=some x→f x=some y→C):C:=by
 induction o using š with
 |none=>exact nS h
 |some x=>exact k x rfl h
theorem cK{α β:Type}{o:Option α}{f:α→β}{y:β}{C:Prop}(h:o.map f=some y)(k:∀x,o=some x→f x=y→C):C:=by
 induction o using š with
 |none=>exact nS h
 |some x=>exact k x rfl (ë h)
theorem cz{α:Type}{b:Bool}{x:Option α}{y:α}(h:(if b then x else none)=some y):b=true:=(og h).1
theorem cq{α:Type}{b:Bool}{x:Option α}{y:α}(h:(if b then x else none)=some y):x=some y:=(og h).2
theorem aD{a b:Bool}(h:(a&&b)=true):a=true:=(oa h).1
theorem aC{a b:Bool}(h:(a&&b)=true):b=true:=(oa h).2
noncomputable def qO:V→Option Bool
 |.bool b=>some b
 |_=>none
noncomputable def qI:V→Option Int
 |.int i=>some i
 |_=>none
noncomputable def qS:V→Option (List Nat)
 |.str l=>some l
 |_=>none
noncomputable def qB:V→Option (List Nat)
 |.bytes l=>some l
 |_=>none
noncomputable def qT:V→Option (List V)
 |.tup l=>some l
 |_=>none
noncomputable def qL:V→Option (List V)
 |.lst l=>some l
 |_=>none
def Iv{α β:Type}(f:β→α)(v:α):Option β→Prop
 |none=>True
 |some b=>v=f b
theorem mL{α β:Type}{f:β→α}{v:α}{o:Option β}{b:β}(h:o=some b)(q:Iv f v o):v=f b:=by subst h;exact q
theorem iO{v:V}{b:Bool}(h:qO v=some b):v=.bool b:=mL (f:=V.bool) h (by induction v using V.casesOn<;>first|exact trivial|exact rfl)
theorem iI{v:V}{b:Int}(h:qI v=some b):v=.int b:=mL (f:=V.int) h (by induction v using V.casesOn<;>first|exact trivial|exact rfl)
theorem iS{v:V}{b:List Nat}(h:qS v=some b):v=.str b:=mL (f:=V.str) h (by induction v using V.casesOn<;>first|exact trivial|exact rfl)
theorem iB{v:V}{b:List Nat}(h:qB v=some b):v=.bytes b:=mL (f:=V.bytes) h (by induction v using V.casesOn<;>first|exact trivial|exact rfl)
theorem iT{v:V}{b:List V}(h:qT v=some b):v=.tup b:=mL (f:=V.tup) h (by induction v using V.casesOn<;>first|exact trivial|exact rfl)
theorem iL{v:V}{b:List V}(h:qL v=some b):v=.lst b:=mL (f:=V.lst) h (by induction v using V.casesOn<;>first|exact trivial|exact rfl)
noncomputable def q1{α:Type}:List α→Option α
 |[]=>none
 |x::r=>match r with
  |[]=>some x
  |_::_=>none
def q2{α:Type}:List α→Option (α×α)
 |[]=>none
 |x::r=>(q1 r).map fun y=>(x,y)
def q3{α:Type}:List α→Option (α×α×α)
 |[]=>none
 |x::r=>(q2 r).map fun y=>(x,y)
theorem i1{α:Type}{l:List α}{x:α}(h:q1 l=some x):l=[x]:=by
 induction l using Ŭ with
 |nil=>exact nS h
 |cons y r=>induction r using Ŭ with
  |nil=>(replace h:=ë h;subst h);rfl
  |cons=>exact nS h
theorem i2{α:Type}{l:List α}{x:α×α}(h:q2 l=some x):l=[x.1,x.2]:=by
 induction l using Ŭ with
 |nil=>exact nS h
 |cons y r=>refine cK h fun z h1 h2=>?_;subst h2;rw[i1 h1]
theorem i3{α:Type}{l:List α}{x:α×α×α}(h:q3 l=some x):l=[x.1,x.2.1,x.2.2]:=by
 induction l using Ŭ with
 |nil=>exact nS h
 |cons y r=>refine cK h fun z h1 h2=>?_;subst h2;rw[i2 h1]
noncomputable def ç{α:Type}:List α→Nat→Option α
 |[],_=>none
 |x::r,i=>match i with
  |0=>some x
  |i+1=>ç r i
noncomputable def put{α:Type}:List α→Nat→α→List α
 |[],_,_=>[]
 |y::r,i,x=>match i with
  |0=>x::r
  |i+1=>y::put r i x
noncomputable abbrev az:Cell→V
 |.lst l=>.lst l
 |.aY l=>.aY l
 |.ins c l=>.ins c l
 |.Ô v=>v
def view(H:List Cell):V→Option V
 |.Ó i=>(ç H i).map az
 |v=>some v
def fg(H:List Cell)(i:Nat):Cell→List Cell×V
 |.lst l=>(put H i (.Ô (.lst l)),.lst l)
 |.aY l=>(put H i (.Ô (.aY l)),.aY l)
 |.ins c l=>(put H i (.Ô (.ins c l)),.ins c l)
 |.Ô v=>(H,v)
def Ô(H:List Cell):V→Option (List Cell×V)
 |.Ó i=>(ç H i).map (fg H i)
 |v=>some (H,v)
noncomputable def Ē:List Cell→List V→Option (List Cell×List V)
 |H,[]=>some (H,[])
 |H,v::r=>(Ô H v).bind fun p=>(Ē p.1 r).bind fun q=>some (q.1,p.2::q.2)
noncomputable def Ø:List Nat→List Nat→Bool
 |[],[]=>true
 |a::r,b::t=>ö a b&&Ø r t
 |_,_=>false
noncomputable def qc:List Nat→List Nat→Bool
 |[],[]=>false
 |[],_::_=>true
 |_::_,[]=>false
 |a::r,b::t=>ď a b||(ö a b&&qc r t)
noncomputable def gJ(a b:Int):Bool:=decide (a=b)
noncomputable def ĩ(a b:Int):Bool:=decide (a<b)
noncomputable def gh(a b:Int):Bool:=decide (a≤b)
noncomputable def pJ(f:V→V→Option Bool):List V→List V→Option Bool
 |[],b=>match b with
  |[]=>some true
  |_::_=>none
 |a::r,b=>match b with
  |[]=>none
  |b::t=>(f a b).bind fun p=>(pJ f r t).bind fun q=>some (p&&q)
noncomputable def et{α β:Type}:List α→List β→Bool
 |[],b=>match b with
  |[]=>true
  |_::_=>false
 |_::r,b=>match b with
  |[]=>false
  |_::t=>et r t
noncomputable def gu:Nat→V→V→Option Bool
 |0,_,_=>none
 |n+1,a,b=>match a with
  |.bool a=>(qO b).bind fun b=>some (a==b)
  |.int a=>(qI b).bind fun b=>some (gJ a b)
  |.str a=>(qS b).bind fun b=>some (Ø a b)
  |.bytes a=>(qB b).bind fun b=>some (Ø a b)
  |.tup a=>(qT b).bind fun b=>pJ (gu n) a b
  |.lst a=>(qL b).bind fun b=>if et a b then pJ (gu n) a b else some false
  |_=>none
def gO:V→V→Option Bool:=gu 8
def days(l:List V):Option (Int×Int×Int):=(q3 l).bind fun p=>(qI p.1).bind fun a=>(qI p.2.1).bind fun b=>(qI p.2.2).bind fun c=>some (a,b,c)
def Bt(l m:List V):Option Bool:=(days l).bind fun a=>(days m).bind fun b=>some (ĩ a.1 b.1||(gJ a.1 b.1&&(ĩ a.2.1 b.2.1||(gJ a.2.1 b.2.1&&ĩ a.2.2 b.2.2))))
noncomputable def lW:List Nat→List Nat→Bool
 |[],_=>true
 |_::_,[]=>false
 |a::r,b::t=>ö a b&&lW r t
noncomputable def ś(x:List Nat):List Nat→Bool
 |[]=>lW x []
 |b::t=>lW x (b::t)||ś x t
noncomputable def fb(x:V):List V→Option Bool
 |[]=>some false
 |y::r=>(gO y x).bind fun p=>(fb x r).bind fun q=>some (p||q)
noncomputable def isAtom:V→Bool
 |.bool _=>true
 |.int _=>true
 |.str _=>true
 |.bytes _=>true
 |_=>false
noncomputable def iq:V→Bool
 |.none=>true
 |_=>false
noncomputable def big:Int:=18446744073709551616
def isIn(a b:V):Option Bool:=match b with
 |.str y=>(qS a).bind fun x=>some (ś x y)
 |.bytes y=>match a with
  |.bytes x=>(q1 x).bind fun x=>some (y.any (ö x))
  |.int x=>if gh 0 x&&ĩ x 256 then some (y.any (ö x.toNat))else none
  |_=>none
 |.tup l=>if isAtom a then fb a l else none
 |.lst l=>if isAtom a then fb a l else none
 |_=>none
def cmp(op:Nat)(a b:V):Option Bool:=match op with
 |0=>gO a b
 |1=>(gO a b).map not
 |2=>match a with
  |.int x=>(qI b).bind fun y=>some (ĩ x y)
  |.tup x=>(qT b).bind fun y=>Bt x y
  |_=>none
 |3=>match a with
  |.int x=>(qI b).bind fun y=>some (gh x y)
  |.str x=>(qS b).bind fun y=>some (!qc y x)
  |_=>none
 |4=>(qI a).bind fun x=>(qI b).bind fun y=>some (ĩ y x)
 |5=>match a with
  |.int x=>(qI b).bind fun y=>some (gh y x)
  |.tup x=>(qT b).bind fun y=>(Bt x y).map not
  |_=>none
 |6=>if iq b then some (iq a)else none
 |7=>if iq b then some (!iq a)else none
 |8=>isIn a b
 |9=>(isIn a b).map not
 |_=>none
noncomputable def small{α:Type}(l:List α):Bool:=ď l.length 1000000
noncomputable def jZ:Int:=10715086071862673209484250490600018105614048117055336074437503883703510511249361224931983788156958581275946729175531468251871452856923140435984577574698574803934567774824230985421074605062371141877954182153046474983581941267398767559165543946077062914571196477686542167660429831652624386837205668069376
def pI(a b:V):Option (Int×Int):=(qI a).bind fun x=>(qI b).bind fun y=>some (x,y)
def bin(op:Nat)(a b:V):Option V:=match op with
 |0=>match a with
  |.int x=>(qI b).bind fun y=>some (.int (x+y))
  |.str x=>(qS b).bind fun y=>if small x&&small y then some (.str (x++y))else none
  |.lst x=>(qL b).bind fun y=>if small x&&small y then some (.lst (x++y))else none
  |_=>none
 |1=>(pI a b).bind fun p=>some (.int (p.1 - p.2))
 |2=>(pI a b).bind fun p=>if ĩ p.1.natAbs big&&ĩ p.2.natAbs big then some (.int (p.1*p.2))else none
 |3=>(pI a b).bind fun p=>if ĩ 0 p.2&&ĩ p.2 jZ then some (.int (p.1 / p.2))else none
 |4=>(pI a b).bind fun p=>if ĩ 0 p.2&&ĩ p.2 jZ then some (.int (p.1 % p.2))else none
 |5=>(pI a b).bind fun p=>if gJ p.1 10&&(gJ p.2 15||gJ p.2 200)then some (.int (10^p.2.toNat))else none
 |_=>none
def truth:V→Option Bool
 |.bool b=>some b
 |.none=>some false
 |.int i=>some (!gJ i 0)
 |.str l=>if small l then some (!l.isEmpty)else none
 |.bytes l=>if small l then some (!l.isEmpty)else none
 |.lst l=>if small l then some (!l.isEmpty)else none
 |_=>none
def clamp(n:Nat)(i:Int):Nat:=if ĩ i 0 then(i+n).toNat else min i.toNat n
def bound(n:Nat)(dflt:Nat):Option V→Option Nat
 |none=>some dflt
 |some v=>(qI v).bind fun i=>some (clamp n i)
noncomputable def part{α:Type}(l:List α)(a b:Nat):List α:=(l.drop a).take (b - a)
def cut{α:Type}(l:List α)(lo hi:Option V)(f:List α→V):Option V:=if small l then(bound l.length 0 lo).bind fun a=>(bound l.length l.length hi).bind fun b=>some (f (part l a b))else none
def slice(v:V)(lo hi st:Option V):Option V:=match st with
 |none=>match v with
  |.str l=>cut l lo hi .str
  |.bytes l=>cut l lo hi .bytes
  |.tup l=>cut l lo hi .tup
  |.lst l=>cut l lo hi .lst
  |_=>none
 |some s=>(qI s).bind fun i=>(qL v).bind fun l=>if gJ i (-1)&&(lo.isNone&&hi.isNone)&&small l then some (.lst l.reverse)else none
def at_{α:Type}(l:List α)(i:Int):Option α:=if ĩ i 0 then(if ĩ (i+l.length) 0 then none else ç l (i+l.length).toNat)else ç l i.toNat
noncomputable def look(k:List Nat):List (List Nat×V)→Option V
 |[]=>none
 |p::r=>if Ø p.1 k then some p.2 else look k r
noncomputable def lU:List (List Nat×V)→Bool
 |[]=>true
 |p::r=> !(r.any fun q=>Ø q.1 p.1)&&lU r
noncomputable def dput(k:List Nat)(v:V):List (List Nat×V)→List (List Nat×V)
 |[]=>[(k,v)]
 |p::r=>if Ø p.1 k then(p.1,v)::r else p::dput k v r
noncomputable def d8(k:Nat):List (Nat×V)→Option V
 |[]=>none
 |p::r=>if ö p.1 k then some p.2 else d8 k r
noncomputable def gY(k:Nat)(v:V):List (Nat×V)→List (Nat×V)
 |[]=>[(k,v)]
 |p::r=>if ö p.1 k then(k,v)::r else p::gY k v r
def ą(i:Int):Bool:=ĩ i 1000000&&ĩ (-1000000) i
def item(v i:V):Option V:=match v with
 |.tup l=>(qI i).bind fun i=>if ą i then at_ l i else none
 |.lst l=>(qI i).bind fun i=>if ą i then at_ l i else none
 |.str l=>(qI i).bind fun i=>if ą i then(at_ l i).map fun c=>.str [c]else none
 |.bytes l=>(qI i).bind fun i=>if ą i then(at_ l i).map (fun (c:Nat)=>V.int (c:Int))else none
 |.aY l=>(qS i).bind fun k=>look k l
 |_=>none
noncomputable def dP(c:Nat):Nat:=if ak 65 c&&ak c 90 then c+32 else c
noncomputable def ascii(l:List Nat):Bool:=l.all fun c=>ď c 128
noncomputable def uy:List V→Option (List (List Nat))
 |[]=>some []
 |v::r=>(qS v).bind fun x=>(uy r).map (x:: ·)
noncomputable def iY:List V→Option (List Nat)
 |[]=>some []
 |v::r=>(qI v).bind fun x=>if gh 0 x&&ĩ x 256 then(iY r).map (x.toNat:: ·)else none
noncomputable def mJ(a:Int):Nat→List V
 |0=>[]
 |n+1=>.int a::mJ (a+1) n
noncomputable def digits(acc:Nat):List Nat→Option Nat
 |[]=>some acc
 |c::r=>if ak 48 c&&ak c 57 then digits (acc*10+(c - 48)) r else none
noncomputable def bB(n:Nat):List V→List V
 |[]=>[]
 |v::r=>.tup [.int n,v]::bB (n+1) r
noncomputable def eh:List Nat→List Nat→List V
 |[],acc=>[.str acc.reverse]
 |c::r,acc=>if ö c 32 then .str acc.reverse::eh r []else eh r (c::acc)
noncomputable def iA(x:Nat):List Nat→Nat→Option Nat
 |[],_=>none
 |c::r,n=>if ö c x then some n else iA x r (n+1)
noncomputable def iC(s:List Nat):List Nat→List Nat
 |[]=>[]
 |c::r=>if s.any (ö c)then iC s r else c::r
noncomputable def idxOf(x:V):List V→Nat→Option Nat
 |[],_=>none
 |y::r,n=>(gO y x).bind fun p=>match p with
  |true=>(fb x r).bind fun À=>some n
  |false=>idxOf x r (n+1)
def lenOf:V→Option V
 |.str l=>if small l then some (.int l.length)else none
 |.bytes l=>if small l then some (.int l.length)else none
 |.tup l=>if small l then some (.int l.length)else none
 |.lst l=>if small l then some (.int l.length)else none
 |_=>none
def JQ(l:List V):Option (Int×Int):=(q2 l).bind fun p=>pI p.1 p.2
def blt(b:Nat)(as:List V):Option V:=match b with
 |0=>(q1 as).bind lenOf
 |1=>(q1 as).bind fun v=>(qI v).bind fun i=>if gh 0 i&&ĩ i 55296 then some (.str [i.toNat])else none
 |2=>(q1 as).bind fun v=>match v with
  |.int i=>some (.int i)
  |.str l=>if l.isEmpty||ak 10 l.length then none else(digits 0 l).map fun n=>.int n
  |_=>none
 |3=>(q1 as).bind fun v=>(qS v).bind fun l=>(q1 l).map fun (c:Nat)=>.int (c:Int)
 |4=>(q1 as).bind fun v=>(qI v).map fun i=>.int i.natAbs
 |5=>(q1 as).bind fun v=>match v with
  |.tup l=>some (.tup l)
  |.lst l=>if small l then some (.tup l)else none
  |_=>none
 |6=>(JQ as).map fun p=>.int (if ĩ p.2 p.1 then p.2 else p.1)
 |7=>(JQ as).map fun p=>.int (if ĩ p.1 p.2 then p.2 else p.1)
 |8=>(q1 as).bind fun v=>(qL v).bind fun l=>if small l then(iY l).map .bytes else none
 |9=>(q1 as).bind fun v=>(qL v).bind fun l=>(JQ l).map fun p=>.lst (if ĩ p.2 p.1 then[.int p.2,.int p.1]else[.int p.1,.int p.2])
 |_=>none
noncomputable def uv:List Nat:=[92,83,101,101,110,32,92,65,110,115,119,101,114,101,100,32,92,70,108,97,103,103,101,100,32,92,68,101,108,101,116,101,100,32,92,68,114,97,102,116]
noncomputable def JZ:V→Option V
 |.lst _=>none
 |v=>some v
def Oj(l:List Nat)(x:Nat)(a b:Int):V:=.int (match iA x (part l a.toNat b.toNat) a.toNat with|some n=>n|none=> -1)
def n9(k:Nat)(o:V)(as:List V):Option V:=match k with
 |1=>(qS o).bind fun l=>(q1 as).bind fun v=>(qS v).bind fun s=>if Ø l uv&&Ø s [32]then some (.lst (eh l []))else none
 |2=>(qS o).bind fun l=>if ascii l&&small l&&as.isEmpty then some (.str (l.map dP))else none
 |3=>(qS o).bind fun l=>(q1 as).bind fun v=>(qL v).bind fun m=>(uy m).bind fun x=>if small m&&small x.flatten&&l.isEmpty then some (.str x.flatten)else none
 |4=>(qB o).bind fun l=>(q1 as).bind fun v=>(qL v).bind fun m=>(q1 m).bind fun u=>(qB u).bind fun x=>if l.isEmpty then some (.bytes x)else none
 |5=>(qB o).bind fun l=>(q3 as).bind fun p=>(qB p.1).bind fun s=>(q1 s).bind fun x=>(pI p.2.1 p.2.2).bind fun q=>if small l&&gh 0 q.1&&gh q.1 q.2&&gh q.2 l.length then some (Oj l x q.1 q.2)else none
 |6=>(qB o).bind fun l=>(q1 as).bind fun v=>(qB v).bind fun s=>if small l then some (.bytes (iC s (iC s l).reverse).reverse)else none
 |7=>(qL o).bind fun l=>(q1 as).bind fun v=>(qS v).bind fun x=>if small l then(idxOf (.str x) l 0).map fun (n:Nat)=>.int (n:Int)else none
 |8=>match o with
  |.aY l=>(q2 as).bind fun p=>(qS p.1).bind fun k=>JZ ((look k l).getD p.2)
  |_=>none
 |_=>none
noncomputable def wa:V→Nat
 |.str _=>1
 |.bytes _=>2
 |.lst _=>3
 |.aY _=>4
 |_=>0
noncomputable def V7:List (Nat×Nat×Nat):=[(0,1,1),(1,1,2),(2,1,3),(2,2,4),(3,2,5),(4,2,6),(5,3,7),(6,4,8),(7,3,9),(8,3,10),(9,3,11)]
noncomputable def LN(a t:Nat):List (Nat×Nat×Nat)→Nat
 |[]=>0
 |p::r=>if ö p.1 a&&ö p.2.1 t then p.2.2 else LN a t r
def kd(a:Nat)(v:Option V):Nat:=match v with
 |some v=>LN a (wa v) V7
 |none=>0
noncomputable def sM:V→Option (Nat×List (Nat×V))
 |.ins c l=>some (c,l)
 |_=>none
def fields(H:List Cell)(v:V):Option (Nat×List (Nat×V)):=(view H v).bind sM
noncomputable def items:V→Option (List V)
 |.tup l=>some l
 |.lst l=>some l
 |.str l=>some (l.map fun c=>.str [c])
 |.bytes l=>some (l.map fun (c:Nat)=>V.int (c:Int))
 |_=>none
noncomputable def Ð:V→Bool
 |.Ó _=>false
 |_=>true
def Š(s:St)(k:Bool)(i:Nat)(v:V):Option St:=match k with
 |true=>(ç s.κ i).map fun À=>{s with κ:=put s.κ i (some v)}
 |false=>(ç s.ρ i).map fun À=>{s with ρ:=put s.ρ i (some v)}
noncomputable def č(s:St):List (Bool×Nat)→List V→Option St
 |[],vs=>match vs with
  |[]=>some s
  |_::_=>none
 |p::r,vs=>match vs with
  |[]=>none
  |v::t=>(Š s p.1 p.2 v).bind fun s=>č s r t
noncomputable def pP:List Nat→Tg
 |[]=>.t []
 |i::r=>match r with
  |[]=>.n false i
  |_::_=>.t ((i::r).map fun i=>(false,i))
noncomputable def padded(as ml:List V)(n:Nat):List V:=as++ml.drop (ml.length - (n - as.length))
noncomputable def made(H:List Cell):V→List Cell×V
 |.lst l=>(H++[.lst l],.Ó H.length)
 |v=>(H,v)
def keyOf:PE→Option (List Nat)
 |.c v=>qS v
 |_=>none
noncomputable def dictOf:List PE→List V→Option (List (List Nat×V))
 |[],vs=>match vs with
  |[]=>some []
  |_::_=>none
 |k::ks,vs=>match vs with
  |[]=>none
  |v::vs=>(keyOf k).bind fun k=>(dictOf ks vs).map fun l=>(k,v)::l
noncomputable def pS:PE→Bool
 |.nt _=>false
 |.bo _ _=>false
 |.te _ _ _=>false
 |.cm _ _ _=>false
 |.no=>false
 |_=>true
noncomputable def Bs:Out→Bool
 |.next=>true
 |_=>false
noncomputable def PO(k:Nat):Bool:=ak 1 k&&ak k 8
abbrev L:=List Cell
abbrev Jd:=Task→Res→Prop
abbrev DI(P:ċ)(M:Jd):Prop:=∀{d kk n v S Å} (h:Š S kk n v=some Å),M (.asg d (.n kk n) v S) (Å,.next)
abbrev DH(P:ċ)(M:Jd):Prop:=∀{d q v S Å} {vs:List V} (h:view S.H v=some (.tup vs)) (h2:č S q vs=some Å),M (.asg d (.t q) v S) (Å,.next)
abbrev DJ(P:ċ)(M:Jd):Prop:=∀{d o n v v' S ρ κ m c j l} {H H₁ Ö:L} (h1:M (.ev d o S) (⟨H,ρ,κ⟩,.val (.Ó m))) (h2:Ô H v=some (H₁,v')) (h3:ç H₁ m=some (.ins c l)) (h4:P.init c=some j) (h5:P.gy c n=none) (h6:put H₁ m (.ins c (gY n v' l))=Ö),M (.asg d (.a o n) v S) (⟨Ö,ρ,κ⟩,.next)
abbrev xM(P:ċ)(M:Jd):Prop:=∀{d o i v v' S Å ρ κ m} {H H₁ Ö:L} {l l':List V} {q:Int} (h1:M (.ev d o S) (Å,.val (.Ó m))) (h2:M (.ev d i Å) (⟨H,ρ,κ⟩,.val (.int q))) (h3:Ô H v=some (H₁,v')) (h4:ç H₁ m=some (.lst l)) (h5:(gh 0 q&&ĩ q l.length&&ĩ q 1000000)=true) (h6:put l q.toNat v'=l') (h7:put H₁ m (.lst l')=Ö),M (.asg d (.s o i) v S) (⟨Ö,ρ,κ⟩,.next)
abbrev xN(P:ċ)(M:Jd):Prop:=∀{d o i v v' S Å ρ κ m} {H H₁ Ö:L} {l:List (List Nat×V)} {q:List Nat} (h1:M (.ev d o S) (Å,.val (.Ó m))) (h2:M (.ev d i Å) (⟨H,ρ,κ⟩,.val (.str q))) (h3:Ô H v=some (H₁,v')) (h4:ç H₁ m=some (.aY l)) (h5:small l=true) (h7:put H₁ m (.aY (dput q v' l))=Ö),M (.asg d (.s o i) v S) (⟨Ö,ρ,κ⟩,.next)
abbrev Ie(P:ċ)(M:Jd):Prop:=∀{d v S},M (.ev d (.c v) S) (S,.val v)
abbrev Ib(P:ċ)(M:Jd):Prop:=∀{d n S v} (h:ç S.ρ n=some (some v)),M (.ev d (.l n) S) (S,.val v)
abbrev Ic(P:ċ)(M:Jd):Prop:=∀{d n S v} (h:ç S.κ n=some (some v)),M (.ev d (.k n) S) (S,.val v)
abbrev DE(P:ċ)(M:Jd):Prop:=∀{d e n S v x ρ κ c l j} {H:L} (h1:M (.ev d e S) (⟨H,ρ,κ⟩,.val v)) (h2:fields H v=some (c,l)) (h3:P.init c=some j) (h4:P.gy c n=none) (h5:d8 n l=some x),M (.ev d (.at e n) S) (⟨H,ρ,κ⟩,.val x)
abbrev Du(P:ċ)(M:Jd):Prop:=∀{d as j S ρ κ ß ê vs v} {H H₁:L} (h1:M (.bZ d as S) (⟨H,ρ,κ⟩,.vals vs)) (h2:M (.call d j vs H) (⟨H₁,ß,ê⟩,.val v)),M (.ev d (.fn j as) S) (⟨H₁,ρ,κ⟩,.val v)
abbrev Dt(P:ċ)(M:Jd):Prop:=∀{d as j S ρ κ ß ê vs} {H H₁:L} (h1:M (.bZ d as S) (⟨H,ρ,κ⟩,.vals vs)) (h2:M (.call d j vs H) (⟨H₁,ß,ê⟩,.exc)),M (.ev d (.fn j as) S) (⟨H₁,ρ,κ⟩,.exc)
abbrev DA(P:ċ)(M:Jd):Prop:=∀{d as c j S ρ κ ß ê vs v} {H H₁ Ö:L} (h1:M (.bZ (d+1) as S) (⟨H,ρ,κ⟩,.vals vs)) (h2:P.init c=some j) (h3:M (.call d j (.Ó H.length::vs) (H++[.ins c []])) (⟨H₁,ß,ê⟩,.val .none)) (h4:P.Fq c=false) (h5:Ô H₁ (.Ó H.length)=some (Ö,v)),M (.ev (d+1) (.cl c as) S) (⟨Ö,ρ,κ⟩,.val v)
abbrev Dz(P:ċ)(M:Jd):Prop:=∀{d as c j S ρ κ ß ê vs} {H H₁:L} (h1:M (.bZ (d+1) as S) (⟨H,ρ,κ⟩,.vals vs)) (h2:P.init c=some j) (h3:M (.call d j (.Ó H.length::vs) (H++[.ins c []])) (⟨H₁,ß,ê⟩,.val .none)) (h4:P.Fq c=true),M (.ev (d+1) (.cl c as) S) (⟨H₁,ρ,κ⟩,.val (.Ó H.length))
abbrev DC(P:ċ)(M:Jd):Prop:=∀{d as n S ρ κ vs vs' v v'} {H H₁ Ö:L} (h1:M (.bZ d as S) (⟨H,ρ,κ⟩,.vals vs)) (h2:Ē H vs=some (H₁,vs')) (h3:blt n vs'=some v) (h4:made H₁ v=(Ö,v')),M (.ev d (.bl n as) S) (⟨Ö,ρ,κ⟩,.val v')
abbrev tV(P:ċ)(M:Jd):Prop:=∀{d as S ρ κ vs} {H H₁:L} {p q:Int} (h1:M (.bZ d as S) (⟨H,ρ,κ⟩,.vals vs)) (h2:Ē H vs=some (H₁,[.int p,.int q])) (h3:(ą p&&ą q)=true),M (.ev d (.bl 10 as) S) (⟨H₁++[.lst (mJ p (q - p).toNat)],ρ,κ⟩,.val (.Ó H₁.length))
abbrev tU(P:ċ)(M:Jd):Prop:=∀{d as S ρ κ vs} {H H₁:L} {p:Int} (h1:M (.bZ d as S) (⟨H,ρ,κ⟩,.vals vs)) (h2:Ē H vs=some (H₁,[.int p])) (h3:ą p=true),M (.ev d (.bl 11 as) S) (⟨H₁,ρ,κ⟩,.val (.tup (mJ 0 p.toNat)))
abbrev pD(P:ċ)(M:Jd):Prop:=∀{d as S ρ κ vs} {H H₁:L} {p q:Int} (h1:M (.bZ d as S) (⟨H,ρ,κ⟩,.vals vs)) (h2:Ē H vs=some (H₁,[.int p,.int q])) (h3:(ą p&&ą q)=true),M (.ev d (.bl 11 as) S) (⟨H₁,ρ,κ⟩,.val (.tup (mJ p (q - p).toNat)))
abbrev tT(P:ċ)(M:Jd):Prop:=∀{d as S ρ κ vs l} {H H₁:L} (h1:M (.bZ d as S) (⟨H,ρ,κ⟩,.vals vs)) (h2:Ē H vs=some (H₁,[.lst l])),M (.ev d (.bl 12 as) S) (⟨H₁,ρ,κ⟩,.val (.tup (bB 0 l)))
abbrev Dp(P:ċ)(M:Jd):Prop:=∀{d e as S Å ρ κ ß ê x y v v'} {H H₁:L} (h1:M (.ev (d+1) e S) (Å,.val (.g_ [x,y]))) (h2:M (.bZ (d+1) as Å) (⟨H,ρ,κ⟩,.vals [v])) (h3:M (.call d P.lam [v,x,y] H) (⟨H₁,ß,ê⟩,.val v')),M (.ev (d+1) (.lo e as) S) (⟨H₁,ρ,κ⟩,.val v')
abbrev xF(P:ċ)(M:Jd):Prop:=∀{d o n as S ρ κ ß ê Ŗ ĺ v c l m j vs x} {H H₁ Ö:L} (h1:M (.ev d o S) (⟨H,ρ,κ⟩,.val v)) (h2:fields H v=some (c,l)) (h3:P.init c=some m) (h4:d8 n l=none) (h5:P.gy c n=some j) (h6:M (.bZ d as ⟨H,ρ,κ⟩) (⟨H₁,ß,ê⟩,.vals vs)) (h7:M (.call d j (v::vs) H₁) (⟨Ö,Ŗ,ĺ⟩,.val x)),M (.ev d (.me o n as) S) (⟨Ö,ß,ê⟩,.val x)
abbrev xH(P:ċ)(M:Jd):Prop:=∀{d o n as S ρ κ ß ê m x x'} {H H₁ Ö ų:L} {l:List V} (h1:M (.ev d o S) (⟨H,ρ,κ⟩,.val (.Ó m))) (h3:kd n (view H (.Ó m))=9) (h4:M (.bZ d as ⟨H,ρ,κ⟩) (⟨H₁,ß,ê⟩,.vals [x])) (h5:Ô H₁ x=some (Ö,x')) (h6:ç Ö m=some (.lst l)) (h7:small l=true) (h8:put Ö m (.lst (l++[x']))=ų),M (.ev d (.me o n as) S) (⟨ų,ß,ê⟩,.val .none)
abbrev xD(P:ċ)(M:Jd):Prop:=∀{d o n as S ρ κ ß ê m x} {H H₁ Ö:L} {l r:List V} (h1:M (.ev d o S) (⟨H,ρ,κ⟩,.val (.Ó m))) (h3:kd n (view H (.Ó m))=10) (h4:M (.bZ d as ⟨H,ρ,κ⟩) (⟨H₁,ß,ê⟩,.vals [])) (h6:ç H₁ m=some (.lst l)) (h7:small l=true) (h8:l.reverse=x::r) (h9:put H₁ m (.lst r.reverse)=Ö),M (.ev d (.me o n as) S) (⟨Ö,ß,ê⟩,.val x)
abbrev xG(P:ċ)(M:Jd):Prop:=∀{d o n as S ρ κ ß ê m x} {H H₁ Ö ų:L} {l q:List V} (h1:M (.ev d o S) (⟨H,ρ,κ⟩,.val (.Ó m))) (h3:kd n (view H (.Ó m))=11) (h4:M (.bZ d as ⟨H,ρ,κ⟩) (⟨H₁,ß,ê⟩,.vals [x])) (h5:Ô H₁ x=some (Ö,.lst q)) (h6:ç Ö m=some (.lst l)) (h7:(small l&&small q)=true) (h8:put Ö m (.lst (l++q))=ų),M (.ev d (.me o n as) S) (⟨ų,ß,ê⟩,.val .none)
abbrev xE(P:ċ)(M:Jd):Prop:=∀{d o n as S ρ κ ß ê k v v' vs vs' x x'} {H H₁ Ö ų t7:L} (h1:M (.ev d o S) (⟨H,ρ,κ⟩,.val v)) (h3:kd n (view H v)=k) (hk:PO k=true) (h4:M (.bZ d as ⟨H,ρ,κ⟩) (⟨H₁,ß,ê⟩,.vals vs)) (h5:Ô H₁ v=some (Ö,v')) (h6:Ē Ö vs=some (ų,vs')) (h7:n9 k v' vs'=some x) (h8:made ų x=(t7,x')),M (.ev d (.me o n as) S) (⟨t7,ß,ê⟩,.val x')
abbrev Ds(P:ċ)(M:Jd):Prop:=∀{d o i S Å ρ κ v v' x y} {H:L} (h1:M (.ev d o S) (Å,.val v)) (h2:M (.ev d i Å) (⟨H,ρ,κ⟩,.val x)) (h3:view H v=some v') (h4:item v' x=some y),M (.ev d (.ix o i) S) (⟨H,ρ,κ⟩,.val y)
abbrev Dl(P:ċ)(M:Jd):Prop:=∀{d o lo hi st S Å Í Ĩ ρ κ oh o8 ĉ v v' x x'} {H H₁:L} (h1:M (.ev d o S) (Å,.val v)) (h2:M (.opt d lo Å) (Í,.ov oh)) (h3:M (.opt d hi Í) (Ĩ,.ov o8)) (h4:M (.opt d st Ĩ) (⟨H,ρ,κ⟩,.ov ĉ)) (h5:view H v=some v') (h6:slice v' oh o8 ĉ=some x) (h7:made H x=(H₁,x')),M (.ev d (.sl o lo hi st) S) (⟨H₁,ρ,κ⟩,.val x')
abbrev DD(P:ċ)(M:Jd):Prop:=∀{d n a b S Å ρ κ x y x' y' v v'} {H H₁ Ö ų:L} (h1:M (.ev d a S) (Å,.val x)) (h2:M (.ev d b Å) (⟨H,ρ,κ⟩,.val y)) (h3:Ô H x=some (H₁,x')) (h4:Ô H₁ y=some (Ö,y')) (h5:bin n x' y'=some v) (h6:made Ö v=(ų,v')),M (.ev d (.bi n a b) S) (⟨ų,ρ,κ⟩,.val v')
abbrev Dx(P:ċ)(M:Jd):Prop:=∀{d a ops bs S Å Í x q} (h1:M (.ev d a S) (Å,.val x)) (h2:M (.yY d x ops bs Å) (Í,.val (.bool q))),M (.ev d (.cm a ops bs) S) (Í,.val (.bool q))
abbrev DB(P:ċ)(M:Jd):Prop:=∀{d q es S Å v} (h1:M (.CG d q es S) (Å,.val v)),M (.ev d (.bo q es) S) (Å,.val v)
abbrev Dm(P:ċ)(M:Jd):Prop:=∀{d e S ρ κ v v' q} {H:L} (h1:M (.ev d e S) (⟨H,ρ,κ⟩,.val v)) (h2:view H v=some v') (h3:truth v'=some q),M (.ev d (.nt e) S) (⟨H,ρ,κ⟩,.val (.bool !q))
abbrev Dn(P:ċ)(M:Jd):Prop:=∀{d e S Å q} (h1:M (.ev d e S) (Å,.val (.int q))),M (.ev d (.ng e) S) (Å,.val (.int (-q)))
abbrev xC(P:ċ)(M:Jd):Prop:=∀{d t a b S Å Í q v} (h1:M (.gv d t S) (Å,.val (.bool q))) (h2:q=true→M (.ev d a Å) (Í,.val v)) (h3:q=false→M (.ev d b Å) (Í,.val v)),M (.ev d (.te t a b) S) (Í,.val v)
abbrev Dk(P:ċ)(M:Jd):Prop:=∀{d es S ρ κ vs vs'} {H H₁:L} (h1:M (.bZ d es S) (⟨H,ρ,κ⟩,.vals vs)) (h2:Ē H vs=some (H₁,vs')) (h3:small vs'=true),M (.ev d (.tu es) S) (⟨H₁,ρ,κ⟩,.val (.tup vs'))
abbrev Dq(P:ċ)(M:Jd):Prop:=∀{d es S ρ κ vs vs'} {H H₁:L} (h1:M (.bZ d es S) (⟨H,ρ,κ⟩,.vals vs)) (h2:Ē H vs=some (H₁,vs')) (h3:small vs'=true),M (.ev d (.li es) S) (⟨H₁++[.lst vs'],ρ,κ⟩,.val (.Ó H₁.length))
abbrev Dv(P:ċ)(M:Jd):Prop:=∀{d ks es S ρ κ vs vs' l} {H H₁:L} (h1:M (.bZ d es S) (⟨H,ρ,κ⟩,.vals vs)) (h2:Ē H vs=some (H₁,vs')) (h3:dictOf ks vs'=some l) (h4:lU l=true),M (.ev d (.di ks es) S) (⟨H₁++[.aY l],ρ,κ⟩,.val (.Ó H₁.length))
abbrev Dy(P:ċ)(M:Jd):Prop:=∀{d elt tg it ifs n S ρ κ Ŗ ĺ v v' l vs} {H H₁ Ö:L} (h1:M (.ev (d+1) it S) (⟨H,ρ,κ⟩,.val v)) (h2:Ô H v=some (H₁,v')) (h3:items v'=some l) (h4:M (.fj d elt tg ifs l [] ⟨H₁,ĥ n none,κ⟩) (⟨Ö,Ŗ,ĺ⟩,.vals vs)),M (.ev (d+1) (.co elt tg it ifs n) S) (⟨Ö++[.lst vs],ρ,ĺ⟩,.val (.Ó Ö.length))
abbrev Dr(P:ċ)(M:Jd):Prop:=∀{d ρ κ x y vs} {H H₁:L} (h1:ç κ 0=some (some x)) (h2:ç κ 1=some (some y)) (h3:Ē H [x,y]=some (H₁,vs)),M (.ev d .la ⟨H,ρ,κ⟩) (⟨H₁,ρ,[]⟩,.val (.g_ vs))
abbrev Ih(P:ċ)(M:Jd):Prop:=∀{d S},M (.opt d none S) (S,.ov none)
abbrev Ig(P:ċ)(M:Jd):Prop:=∀{d e S Å v} (h:M (.ev d e S) (Å,.val v)),M (.opt d (some e) S) (Å,.ov (some v))
abbrev Di(P:ċ)(M:Jd):Prop:=∀{d S},M (.bZ d [] S) (S,.vals [])
abbrev Dj(P:ċ)(M:Jd):Prop:=∀{d e es S Å Í v vs} (h1:M (.ev d e S) (Å,.val v)) (h2:M (.bZ d es Å) (Í,.vals vs)),M (.bZ d (e::es) S) (Í,.vals (v::vs))
abbrev De(P:ċ)(M:Jd):Prop:=∀{d e S Å q} (h1:M (.gv d e S) (Å,.val (.bool q))),M (.gv d (.nt e) S) (Å,.val (.bool !q))
abbrev Dh(P:ċ)(M:Jd):Prop:=∀{d q p es S Å} (h1:M (.hM d q es S) (Å,.val (.bool p))),M (.gv d (.bo q es) S) (Å,.val (.bool p))
abbrev Dd(P:ċ)(M:Jd):Prop:=∀{d t a b S Å Í q p} (h1:M (.gv d t S) (Å,.val (.bool q))) (h2:q=true→M (.gv d a Å) (Í,.val (.bool p))) (h3:q=false→M (.gv d b Å) (Í,.val (.bool p))),M (.gv d (.te t a b) S) (Í,.val (.bool p))
abbrev Df(P:ċ)(M:Jd):Prop:=∀{d a ops bs S Å Í x p} (h1:M (.ev d a S) (Å,.val x)) (h2:M (.yY d x ops bs Å) (Í,.val (.bool p))),M (.gv d (.cm a ops bs) S) (Í,.val (.bool p))
abbrev Ia(P:ċ)(M:Jd):Prop:=∀{d e S ρ κ v v' q} {H:L} (hp:pS e=true) (h1:M (.ev d e S) (⟨H,ρ,κ⟩,.val v)) (h2:view H v=some v') (h3:truth v'=some q),M (.gv d e S) (⟨H,ρ,κ⟩,.val (.bool q))
abbrev C_(P:ċ)(M:Jd):Prop:=∀{d q S},M (.hM d q [] S) (S,.val (.bool q))
abbrev Dc(P:ċ)(M:Jd):Prop:=∀{d q p u e es S Å Í} (h1:M (.gv d e S) (Å,.val (.bool p))) (h2:p=q→M (.hM d q es Å) (Í,.val (.bool u))) (h3:p=(!q)→(Í,u)=(Å,p)),M (.hM d q (e::es) S) (Í,.val (.bool u))
abbrev Ip(P:ċ)(M:Jd):Prop:=∀{d x n e S ρ κ y x' y' q} {H:L} (h1:M (.ev d e S) (⟨H,ρ,κ⟩,.val y)) (h2:view H x=some x') (h3:view H y=some y') (h4:cmp n x' y'=some q),M (.yY d x [n] [e] S) (⟨H,ρ,κ⟩,.val (.bool q))
abbrev DF(P:ċ)(M:Jd):Prop:=∀{d x n m ops e a es S ρ κ y x' y' q p Í} {H:L} (h1:M (.ev d e S) (⟨H,ρ,κ⟩,.val y)) (h2:view H x=some x') (h3:view H y=some y') (h4:cmp n x' y'=some q) (h5:q=true→M (.yY d y (m::ops) (a::es) ⟨H,ρ,κ⟩) (Í,.val (.bool p))) (h6:q=false→(Í,p)=(⟨H,ρ,κ⟩,false)),M (.yY d x (n::m::ops) (e::a::es) S) (Í,.val (.bool p))
abbrev Iq(P:ċ)(M:Jd):Prop:=∀{d q e S Å v} (h1:M (.ev d e S) (Å,.val v)),M (.CG d q [e] S) (Å,.val v)
abbrev DG(P:ċ)(M:Jd):Prop:=∀{d q p e a es S ρ κ v v' u Í} {H:L} (h1:M (.ev d e S) (⟨H,ρ,κ⟩,.val v)) (h2:view H v=some v') (h3:truth v'=some p) (h4:p=q→M (.CG d q (a::es) ⟨H,ρ,κ⟩) (Í,.val u)) (h5:p=(!q)→(Í,u)=(⟨H,ρ,κ⟩,v)),M (.CG d q (e::a::es) S) (Í,.val u)
abbrev C9(P:ċ)(M:Jd):Prop:=∀{d t e S Å Í v} (h1:M (.ev d e S) (Å,.val v)) (h2:M (.asg d t v Å) (Í,.next)),M (.ex d (.as t e) S) (Í,.next)
abbrev C8(P:ċ)(M:Jd):Prop:=∀{d t e S Å} (h1:M (.ev d e S) (Å,.exc)),M (.ex d (.as t e) S) (Å,.exc)
abbrev C7(P:ċ)(M:Jd):Prop:=∀{d e S Å v} (h1:M (.ev d e S) (Å,.val v)),M (.ex d (.ex e) S) (Å,.next)
abbrev C5(P:ċ)(M:Jd):Prop:=∀{d t A B S Å q r} (h1:M (.gv d t S) (Å,.val (.bool q))) (h2:q=true→M (.dj d A Å) r) (h3:q=false→M (.dj d B Å) r),M (.ex d (.if t A B) S) r
abbrev CY(P:ċ)(M:Jd):Prop:=∀{d t B S r} (h1:M (.pE d t B S) r),M (.ex (d+1) (.wh t B) S) r
abbrev C6(P:ċ)(M:Jd):Prop:=∀{d t it B S ρ κ v v' l r} {H H₁:L} (h1:M (.ev (d+1) it S) (⟨H,ρ,κ⟩,.val v)) (h2:Ô H v=some (H₁,v')) (h3:items v'=some l) (h4:M (.qF d t l B ⟨H₁,ρ,κ⟩) r),M (.ex (d+1) (.fo t it B) S) r
abbrev C2(P:ċ)(M:Jd):Prop:=∀{d e S Å v} (h1:M (.ev d e S) (Å,.val v)),M (.ex d (.re e) S) (Å,.ret v)
abbrev C3(P:ċ)(M:Jd):Prop:=∀{d es S Å vs} (h1:M (.bZ d es S) (Å,.vals vs)) (h2:ö vs.length 2=true),M (.ex d (.ra es) S) (Å,.exc)
abbrev C0(P:ċ)(M:Jd):Prop:=∀{d B c A S Å o} (h1:M (.dj d B S) (Å,o)) (h2:o≠.exc),M (.ex d (.tr B c A) S) (Å,o)
abbrev CZ(P:ċ)(M:Jd):Prop:=∀{d B v S Å} (h1:M (.dj d B S) (Å,.exc)) (h2:iq v=true),M (.ex d (.tr B 7 [.re (.c v)]) S) (Å,.ret v)
abbrev C4(P:ċ)(M:Jd):Prop:=∀{d S},M (.ex d .pa S) (S,.next)
abbrev C1(P:ċ)(M:Jd):Prop:=∀{d q es S Å Í vs} (h1:M (.bZ d es S) (Å,.vals vs)) (h2:č Å q vs=some Í),M (.ex d (.sw q es) S) (Í,.next)
abbrev CX(P:ċ)(M:Jd):Prop:=∀{d S},M (.dj d [] S) (S,.next)
abbrev pC(P:ċ)(M:Jd):Prop:=∀{d X Y S Å r} (h1:M (.ex d X S) (Å,.next)) (h2:M (.dj d Y Å) r),M (.dj d (X::Y) S) r
abbrev tS(P:ċ)(M:Jd):Prop:=∀{d X Y S Å o} (h1:M (.ex d X S) (Å,o)) (h2:Bs o=false),M (.dj d (X::Y) S) (Å,o)
abbrev H8(P:ċ)(M:Jd):Prop:=∀{d t B S Å Í r} (h1:M (.gv d t S) (Å,.val (.bool true))) (h2:M (.dj d B Å) (Í,.next)) (h3:M (.pE d t B Í) r),M (.pE d t B S) r
abbrev H9(P:ċ)(M:Jd):Prop:=∀{d t B S Å Í v} (h1:M (.gv d t S) (Å,.val (.bool true))) (h2:M (.dj d B Å) (Í,.ret v)),M (.pE d t B S) (Í,.ret v)
abbrev H_(P:ċ)(M:Jd):Prop:=∀{d t B S Å} (h1:M (.gv d t S) (Å,.val (.bool false))),M (.pE d t B S) (Å,.next)
abbrev Im(P:ċ)(M:Jd):Prop:=∀{d t B S},M (.qF d t [] B S) (S,.next)
abbrev Io(P:ċ)(M:Jd):Prop:=∀{d t B S Å Í v l r} (h0:Ð v=true) (h1:M (.asg d t v S) (Å,.next)) (h2:M (.dj d B Å) (Í,.next)) (h3:M (.qF d t l B Í) r),M (.qF d t (v::l) B S) r
abbrev Il(P:ċ)(M:Jd):Prop:=∀{d t B S Å Í v l x} (h0:Ð v=true) (h1:M (.asg d t v S) (Å,.next)) (h2:M (.dj d B Å) (Í,.ret x)),M (.qF d t (v::l) B S) (Í,.ret x)
abbrev Ij(P:ċ)(M:Jd):Prop:=∀{d elt tg ifs acc S},M (.fj d elt tg ifs [] acc S) (S,.vals acc.reverse)
abbrev Ii(P:ċ)(M:Jd):Prop:=∀{d elt tg ifs acc S Å Í ρ κ v l x x' r} {H H₁:L} (h0:(Ð v&&small acc)=true) (h1:M (.asg d (pP tg) v S) (Å,.next)) (h2:M (.hM d true ifs Å) (Í,.val (.bool true))) (h3:M (.ev d elt Í) (⟨H,ρ,κ⟩,.val x)) (h4:Ô H x=some (H₁,x')) (h5:M (.fj d elt tg ifs l (x'::acc) ⟨H₁,ρ,κ⟩) r),M (.fj d elt tg ifs (v::l) acc S) r
abbrev Ik(P:ċ)(M:Jd):Prop:=∀{d elt tg ifs acc S Å Í v l r} (h0:(Ð v&&small acc)=true) (h1:M (.asg d (pP tg) v S) (Å,.next)) (h2:M (.hM d true ifs Å) (Í,.val (.bool false))) (h5:M (.fj d elt tg ifs l acc Í) r),M (.fj d elt tg ifs (v::l) acc S) r
abbrev xI(P:ċ)(M:Jd):Prop:=∀{d j vs f S ρ κ v v'} {H H₁ Ö ų:L} (h1:P.fn j=some f) (h2:č ⟨H,ĥ f.nl none,ĥ f.nc none⟩ f.ps (padded vs f.ml f.ps.length)=some S) (h3:M (.dj d f.body S) (⟨H₁,ρ,κ⟩,.ret v)) (h4:P.open_ j=false) (h5:Ô H₁ v=some (Ö,v')) (h6:Ö.take H.length=ų),M (.call (d+1) j vs H) (⟨ų,[],[]⟩,.val v')
abbrev tW(P:ċ)(M:Jd):Prop:=∀{d j vs f S Å v} {H:L} (h1:P.fn j=some f) (h2:č ⟨H,ĥ f.nl none,ĥ f.nc none⟩ f.ps (padded vs f.ml f.ps.length)=some S) (h3:M (.dj d f.body S) (Å,.ret v)) (h4:P.open_ j=true),M (.call (d+1) j vs H) (Å,.val v)
abbrev tX(P:ċ)(M:Jd):Prop:=∀{d j vs f S ρ κ} {H H₁ Ö:L} (h1:P.fn j=some f) (h2:č ⟨H,ĥ f.nl none,ĥ f.nc none⟩ f.ps (padded vs f.ml f.ps.length)=some S) (h3:M (.dj d f.body S) (⟨H₁,ρ,κ⟩,.next)) (h6:H₁.take H.length=Ö),M (.call (d+1) j vs H) (⟨Ö,[],[]⟩,.val .none)
abbrev xK(P:ċ)(M:Jd):Prop:=∀{d j vs f S ρ κ} {H H₁ Ö:L} (h1:P.fn j=some f) (h2:č ⟨H,ĥ f.nl none,ĥ f.nc none⟩ f.ps (padded vs f.ml f.ps.length)=some S) (h3:M (.dj d f.body S) (⟨H₁,ρ,κ⟩,.exc)) (h6:H₁.take H.length=Ö),M (.call (d+1) j vs H) (⟨Ö,[],[]⟩,.exc)
abbrev xJ(P:ċ)(M:Jd):Prop:=∀{D d j vs vs' v S} {H H₁:L} (h1:D≤d) (h2:Ē H vs=some (H₁,vs')) (h3:M (.call D j vs' []) (S,.val v)) (h4:Ð v=true),M (.call d j vs H) (⟨H₁,[],[]⟩,.val v)
structure Yt(P:ċ)(M:Jd):Prop where
 gX:DI P M
 CM:DH P M
 dA:DJ P M
 tM:xM P M
 xB:xN P M
 nV:Ie P M
 aR:Ib P M
 Ar:Ic P M
structure Ys(P:ċ)(M:Jd):Prop where
 Au:DE P M
 lg:Du P M
 E2:Dt P M
 uK:DA P M
 E3:Dz P M
 j0:DC P M
 ll:tV P M
 Ő:tU P M
structure Yr(P:ċ)(M:Jd):Prop where
 km:pD P M
 lk:tT P M
 Ap:Dp P M
 rF:xF P M
 rI:xH P M
 rC:xD P M
 rG:xG P M
 rD:xE P M
structure Yq(P:ċ)(M:Jd):Prop where
 yo:Ds P M
 Al:Dl P M
 rH:DD P M
 yq:Dx P M
 As:DB P M
 Am:Dm P M
 Ao:Dn P M
 nU:xC P M
structure Yp(P:ċ)(M:Jd):Prop where
 uJ:Dk P M
 i8:Dq P M
 yp:Dv P M
 lj:Dy P M
 Aq:Dr P M
 JV:Ih P M
 LL:Ig P M
 Ų:Di P M
structure Yo(P:ċ)(M:Jd):Prop where
 Ř:Dj P M
 zT:De P M
 ya:Dh P M
 x_:Dd P M
 jY:Df P M
 Ml:Ia P M
 gP:C_ P M
 rh:Dc P M
structure Yn(P:ċ)(M:Jd):Prop where
 y7:Ip P M
 y0:DF P M
 OV:Iq P M
 zc:DG P M
 ū:C9 P M
 Ea:C8 P M
 zH:C7 P M
 hH:C5 P M
structure Ym(P:ċ)(M:Jd):Prop where
 zD:CY P M
 bS:C6 P M
 qX:C2 P M
 D_:C3 P M
 zE:C0 P M
 D9:CZ P M
 zG:C4 P M
 zF:C1 P M
structure Yl(P:ċ)(M:Jd):Prop where
 gr:CX P M
 Ò:pC P M
 gL:tS P M
 L9:H8 P M
 PD:H9 P M
 L_:H_ P M
 ug:Im P M
 mO:Io P M
structure Yk(P:ċ)(M:Jd):Prop where
 zC:Il P M
 i_:Ij P M
 ke:Ii P M
 Hr:Ik P M
 É:xI P M
 lT:tW P M
 eE:tX P M
 w5:xK P M
structure Vn(P:ċ)(M:Jd):Prop where
 oU:xJ P M
structure Ru(P:ċ)(M:Jd):Prop where
 u0:Yt P M
 u1:Ys P M
 u2:Yr P M
 u3:Yq P M
 u4:Yp P M
 u5:Yo P M
 u6:Yn P M
 u7:Ym P M
 u8:Yl P M
 u9:Yk P M
 Yy:Vn P M
def Ev(P:ċ)(t:Task)(r:Res):Prop:=∀M,Ru P M→M t r
section
variable{P:ċ}
theorem gX:DI P (Ev P):=fun h M R=>R.u0.gX h
theorem CM:DH P (Ev P):=fun h h2 M R=>R.u0.CM h h2
theorem dA:DJ P (Ev P):=fun h1 h2 h3 h4 h5 h6 M R=>R.u0.dA (h1 M R) h2 h3 h4 h5 h6
theorem tM:xM P (Ev P):=fun h1 h2 h3 h4 h5 h6 h7 M R=>R.u0.tM (h1 M R) (h2 M R) h3 h4 h5 h6 h7
theorem xB:xN P (Ev P):=fun h1 h2 h3 h4 h5 h7 M R=>R.u0.xB (h1 M R) (h2 M R) h3 h4 h5 h7
theorem nV:Ie P (Ev P):=fun M R=>R.u0.nV
theorem aR:Ib P (Ev P):=fun h M R=>R.u0.aR h
theorem Ar:Ic P (Ev P):=fun h M R=>R.u0.Ar h
theorem Au:DE P (Ev P):=fun h1 h2 h3 h4 h5 M R=>R.u1.Au (h1 M R) h2 h3 h4 h5
theorem lg:Du P (Ev P):=fun h1 h2 M R=>R.u1.lg (h1 M R) (h2 M R)
theorem E2:Dt P (Ev P):=fun h1 h2 M R=>R.u1.E2 (h1 M R) (h2 M R)
theorem uK:DA P (Ev P):=fun h1 h2 h3 h4 h5 M R=>R.u1.uK (h1 M R) h2 (h3 M R) h4 h5
theorem E3:Dz P (Ev P):=fun h1 h2 h3 h4 M R=>R.u1.E3 (h1 M R) h2 (h3 M R) h4
theorem j0:DC P (Ev P):=fun h1 h2 h3 h4 M R=>R.u1.j0 (h1 M R) h2 h3 h4
theorem ll:tV P (Ev P):=fun h1 h2 h3 M R=>R.u1.ll (h1 M R) h2 h3
theorem Ő:tU P (Ev P):=fun h1 h2 h3 M R=>R.u1.Ő (h1 M R) h2 h3
theorem km:pD P (Ev P):=fun h1 h2 h3 M R=>R.u2.km (h1 M R) h2 h3
theorem lk:tT P (Ev P):=fun h1 h2 M R=>R.u2.lk (h1 M R) h2
theorem Ap:Dp P (Ev P):=fun h1 h2 h3 M R=>R.u2.Ap (h1 M R) (h2 M R) (h3 M R)
theorem rF:xF P (Ev P):=fun h1 h2 h3 h4 h5 h6 h7 M R=>R.u2.rF (h1 M R) h2 h3 h4 h5 (h6 M R) (h7 M R)
theorem rI:xH P (Ev P):=fun h1 h3 h4 h5 h6 h7 h8 M R=>R.u2.rI (h1 M R) h3 (h4 M R) h5 h6 h7 h8
theorem rC:xD P (Ev P):=fun h1 h3 h4 h6 h7 h8 h9 M R=>R.u2.rC (h1 M R) h3 (h4 M R) h6 h7 h8 h9
theorem rG:xG P (Ev P):=fun h1 h3 h4 h5 h6 h7 h8 M R=>R.u2.rG (h1 M R) h3 (h4 M R) h5 h6 h7 h8
theorem rD:xE P (Ev P):=fun h1 h3 hk h4 h5 h6 h7 h8 M R=>R.u2.rD (h1 M R) h3 hk (h4 M R) h5 h6 h7 h8
theorem yo:Ds P (Ev P):=fun h1 h2 h3 h4 M R=>R.u3.yo (h1 M R) (h2 M R) h3 h4
theorem Al:Dl P (Ev P):=fun h1 h2 h3 h4 h5 h6 h7 M R=>R.u3.Al (h1 M R) (h2 M R) (h3 M R) (h4 M R) h5 h6 h7
theorem rH:DD P (Ev P):=fun h1 h2 h3 h4 h5 h6 M R=>R.u3.rH (h1 M R) (h2 M R) h3 h4 h5 h6
theorem yq:Dx P (Ev P):=fun h1 h2 M R=>R.u3.yq (h1 M R) (h2 M R)
theorem As:DB P (Ev P):=fun h1 M R=>R.u3.As (h1 M R)
theorem Am:Dm P (Ev P):=fun h1 h2 h3 M R=>R.u3.Am (h1 M R) h2 h3
theorem Ao:Dn P (Ev P):=fun h1 M R=>R.u3.Ao (h1 M R)
theorem nU:xC P (Ev P):=fun h1 h2 h3 M R=>R.u3.nU (h1 M R) (fun q=>h2 q M R) (fun q=>h3 q M R)
theorem uJ:Dk P (Ev P):=fun h1 h2 h3 M R=>R.u4.uJ (h1 M R) h2 h3
theorem i8:Dq P (Ev P):=fun h1 h2 h3 M R=>R.u4.i8 (h1 M R) h2 h3
theorem yp:Dv P (Ev P):=fun h1 h2 h3 h4 M R=>R.u4.yp (h1 M R) h2 h3 h4
theorem lj:Dy P (Ev P):=fun h1 h2 h3 h4 M R=>R.u4.lj (h1 M R) h2 h3 (h4 M R)
theorem Aq:Dr P (Ev P):=fun h1 h2 h3 M R=>R.u4.Aq h1 h2 h3
theorem JV:Ih P (Ev P):=fun M R=>R.u4.JV
theorem LL:Ig P (Ev P):=fun h M R=>R.u4.LL (h M R)
theorem Ų:Di P (Ev P):=fun M R=>R.u4.Ų
theorem Ř:Dj P (Ev P):=fun h1 h2 M R=>R.u5.Ř (h1 M R) (h2 M R)
theorem zT:De P (Ev P):=fun h1 M R=>R.u5.zT (h1 M R)
theorem ya:Dh P (Ev P):=fun h1 M R=>R.u5.ya (h1 M R)
theorem x_:Dd P (Ev P):=fun h1 h2 h3 M R=>R.u5.x_ (h1 M R) (fun q=>h2 q M R) (fun q=>h3 q M R)
theorem jY:Df P (Ev P):=fun h1 h2 M R=>R.u5.jY (h1 M R) (h2 M R)
theorem Ml:Ia P (Ev P):=fun hp h1 h2 h3 M R=>R.u5.Ml hp (h1 M R) h2 h3
theorem gP:C_ P (Ev P):=fun M R=>R.u5.gP
theorem rh:Dc P (Ev P):=fun h1 h2 h3 M R=>R.u5.rh (h1 M R) (fun q=>h2 q M R) h3
theorem y7:Ip P (Ev P):=fun h1 h2 h3 h4 M R=>R.u6.y7 (h1 M R) h2 h3 h4
theorem y0:DF P (Ev P):=fun h1 h2 h3 h4 h5 h6 M R=>R.u6.y0 (h1 M R) h2 h3 h4 (fun q=>h5 q M R) h6
theorem OV:Iq P (Ev P):=fun h1 M R=>R.u6.OV (h1 M R)
theorem zc:DG P (Ev P):=fun h1 h2 h3 h4 h5 M R=>R.u6.zc (h1 M R) h2 h3 (fun q=>h4 q M R) h5
theorem ū:C9 P (Ev P):=fun h1 h2 M R=>R.u6.ū (h1 M R) (h2 M R)
theorem Ea:C8 P (Ev P):=fun h1 M R=>R.u6.Ea (h1 M R)
theorem zH:C7 P (Ev P):=fun h1 M R=>R.u6.zH (h1 M R)
theorem hH:C5 P (Ev P):=fun h1 h2 h3 M R=>R.u6.hH (h1 M R) (fun q=>h2 q M R) (fun q=>h3 q M R)
theorem zD:CY P (Ev P):=fun h1 M R=>R.u7.zD (h1 M R)
theorem bS:C6 P (Ev P):=fun h1 h2 h3 h4 M R=>R.u7.bS (h1 M R) h2 h3 (h4 M R)
theorem qX:C2 P (Ev P):=fun h1 M R=>R.u7.qX (h1 M R)
theorem D_:C3 P (Ev P):=fun h1 h2 M R=>R.u7.D_ (h1 M R) h2
theorem zE:C0 P (Ev P):=fun h1 h2 M R=>R.u7.zE (h1 M R) h2
theorem D9:CZ P (Ev P):=fun h1 h2 M R=>R.u7.D9 (h1 M R) h2
theorem zG:C4 P (Ev P):=fun M R=>R.u7.zG
theorem zF:C1 P (Ev P):=fun h1 h2 M R=>R.u7.zF (h1 M R) h2
theorem gr:CX P (Ev P):=fun M R=>R.u8.gr
theorem Ò:pC P (Ev P):=fun h1 h2 M R=>R.u8.Ò (h1 M R) (h2 M R)
theorem gL:tS P (Ev P):=fun h1 h2 M R=>R.u8.gL (h1 M R) h2
theorem L9:H8 P (Ev P):=fun h1 h2 h3 M R=>R.u8.L9 (h1 M R) (h2 M R) (h3 M R)
theorem PD:H9 P (Ev P):=fun h1 h2 M R=>R.u8.PD (h1 M R) (h2 M R)
theorem L_:H_ P (Ev P):=fun h1 M R=>R.u8.L_ (h1 M R)
theorem ug:Im P (Ev P):=fun M R=>R.u8.ug
theorem mO:Io P (Ev P):=fun h0 h1 h2 h3 M R=>R.u8.mO h0 (h1 M R) (h2 M R) (h3 M R)
theorem zC:Il P (Ev P):=fun h0 h1 h2 M R=>R.u9.zC h0 (h1 M R) (h2 M R)
theorem i_:Ij P (Ev P):=fun M R=>R.u9.i_
theorem ke:Ii P (Ev P):=fun h0 h1 h2 h3 h4 h5 M R=>R.u9.ke h0 (h1 M R) (h2 M R) (h3 M R) h4 (h5 M R)
theorem Hr:Ik P (Ev P):=fun h0 h1 h2 h5 M R=>R.u9.Hr h0 (h1 M R) (h2 M R) (h5 M R)
theorem É:xI P (Ev P):=fun h1 h2 h3 h4 h5 h6 M R=>R.u9.É h1 h2 (h3 M R) h4 h5 h6
theorem lT:tW P (Ev P):=fun h1 h2 h3 h4 M R=>R.u9.lT h1 h2 (h3 M R) h4
theorem eE:tX P (Ev P):=fun h1 h2 h3 h6 M R=>R.u9.eE h1 h2 (h3 M R) h6
theorem w5:xK P (Ev P):=fun h1 h2 h3 h6 M R=>R.u9.w5 h1 h2 (h3 M R) h6
theorem oU:xJ P (Ev P):=fun h1 h2 h3 h4 M R=>R.Yy.oU h1 h2 (h3 M R) h4
end
abbrev An(P:ċ)(t:Task):=Option {r:Res // Ev P t r}
noncomputable def ok{P:ċ}{t:Task}{r:Res}(h:Ev P t r):An P t:=some ⟨r,h⟩
section
variable{P:ċ}{t:Task}{α β:Type}
noncomputable def dV(r:An P t)(f:∀s v,Ev P t (s,.val v)→Option β):Option β:=match r with
 |none=>none
 |some p=>match p with
  |⟨(s,o),h⟩=>match o,h with
   |.val v,h=>f s v h
   |_,_=>none
noncomputable def dL(r:An P t)(f:∀s v,Ev P t (s,.vals v)→Option β):Option β:=match r with
 |none=>none
 |some p=>match p with
  |⟨(s,o),h⟩=>match o,h with
   |.vals v,h=>f s v h
   |_,_=>none
noncomputable def dN(r:An P t)(f:∀s,Ev P t (s,.next)→Option β):Option β:=match r with
 |none=>none
 |some p=>match p with
  |⟨(s,o),h⟩=>match o,h with
   |.next,h=>f s h
   |_,_=>none
noncomputable def dO(r:An P t)(f:∀s v,Ev P t (s,.ov v)→Option β):Option β:=match r with
 |none=>none
 |some p=>match p with
  |⟨(s,o),h⟩=>match o,h with
   |.ov v,h=>f s v h
   |_,_=>none
def dB(r:An P t)(f:∀s b,Ev P t (s,.val (.bool b))→Option β):Option β:=dV r fun s v=>match v with
 |.bool b=>f s b
 |_=>fun À=>none
noncomputable def od(o:Option α)(f:∀x,o=some x→Option β):Option β:=match o,f with
 |none,_=>none
 |some x,f=>f x rfl
noncomputable def gd(b:Bool)(f:b=true→Option β):Option β:=match b,f with
 |false,_=>none
 |true,f=>f rfl
noncomputable def sel(b:Bool)(f:b=true→Option β)(g:b=false→Option β):Option β:=match b,f,g with
 |false,_,g=>g rfl
 |true,f,_=>f rfl
end
theorem tf{q:Bool}{p:Prop}(e:q=true)(e':q=false):p:=Bool.noConfusion (e.symm.trans e')
theorem ft{q:Bool}{p:Prop}(e:q=false)(e':q=true):p:=tf e' e
noncomputable def qC:V→Option Nat
 |.Ó i=>some i
 |_=>none
noncomputable def cL:Cell→Option (List V)
 |.lst l=>some l
 |_=>none
noncomputable def cD:Cell→Option (List (List Nat×V))
 |.aY l=>some l
 |_=>none
noncomputable def cI:Cell→Option (Nat×List (Nat×V))
 |.ins c l=>some (c,l)
 |_=>none
noncomputable def H3:V→Option (List V)
 |.g_ l=>some l
 |_=>none
noncomputable def PR{α:Type}:Option α→Bool
 |none=>true
 |some _=>false
theorem jC{v:V}{i:Nat}(h:qC v=some i):v=.Ó i:=mL (f:=V.Ó) h (by induction v using V.casesOn<;>first|exact trivial|exact rfl)
theorem kL{v:Cell}{l:List V}(h:cL v=some l):v=.lst l:=mL (f:=Cell.lst) h (by induction v using Cell.casesOn<;>first|exact trivial|exact rfl)
theorem kD{v:Cell}{l:List (List Nat×V)}(h:cD v=some l):v=.aY l:=mL (f:=Cell.aY) h (by induction v using Cell.casesOn<;>first|exact trivial|exact rfl)
theorem kI{v:Cell}{l:Nat×List (Nat×V)}(h:cI v=some l):v=.ins l.1 l.2:=mL (f:=fun p=>Cell.ins p.1 p.2) h (by induction v using Cell.casesOn<;>first|exact trivial|exact rfl)
theorem jK{v:V}{l:List V}(h:H3 v=some l):v=.g_ l:=mL (f:=V.g_) h (by induction v using V.casesOn<;>first|exact trivial|exact rfl)
theorem PL{v:V}(h:iq v=true):v=.none:=by induction v using V.casesOn<;>cases h;rfl
theorem iN{α:Type}{o:Option α}(h:PR o=true):o=none:=by induction o using š<;>first|rfl|exact à h
theorem jI{a b:V}{p:Int×Int}(h:pI a b=some p):a=.int p.1∧b=.int p.2:=by
 refine ï h fun x h1 h=>?_;refine ï h fun y h2 h=>?_
 (replace h:=ë h;subst h)
 exact⟨iI h1,iI h2⟩
theorem SX{l:List V}{p:Int×Int}(h:JQ l=some p):l=[.int p.1,.int p.2]:=by
 refine ï h fun x h1 h=>?_;obtain⟨e1,e2⟩:=jI h;rw[i2 h1,e1,e2]
noncomputable def VP{α:Type}:List α→Option (α×List α)
 |[]=>none
 |x::r=>some (x,r)
theorem jU{α:Type}{l:List α}{q:α×List α}(h:VP l=some q):l=q.1::q.2:=mL (f:=fun q=>q.1::q.2) h (by induction l using Ŭ<;>first|exact trivial|exact rfl)
theorem jE{α:Type}{l:List α}(h:l.isEmpty=true):l=[]:=by induction l using Ŭ<;>first|rfl|exact à h
noncomputable def Uo:PE→Option V
 |.c v=>some v
 |_=>none
theorem jV{e:PE}{v:V}(h:Uo e=some v):e=.c v:=mL (f:=PE.c) h (by induction e using PE.casesOn<;>first|exact trivial|exact rfl)
noncomputable def RG:PS→Option PE
 |.re e=>some e
 |_=>none
theorem jX{x:PS}{e:PE}(h:RG x=some e):x=.re e:=mL (f:=PS.re) h (by induction x using PS.casesOn<;>first|exact trivial|exact rfl)
def AS(l:List (Option V))(i:Nat):Option V:=(ç l i).bind id
theorem n2{l:List (Option V)}{i:Nat}{v:V}(h:AS l i=some v):ç l i=some (some v):=let ⟨_,h1,h2⟩:=ob h;h1.trans (congrArg some h2)
theorem e2{α β:Type}{o:Option (α×β)}{q:α×β}{l:β}(h:o=some q)(e:q.2=l):o=some (q.1,l):=h.trans (congrArg (fun l=>some (q.1,l)) e)
theorem Qj{P:ċ}{d c:Nat}{B k:List PS}{x:PS}{e:PE}{v:V}{S Å:St}(h:Ev P (.dj d B S) (Å,.exc))(h1:ö c 7=true)(h2:q1 k=some x)(h3:RG x=some e)(h4:Uo e=some v)(h5:iq v=true):Ev P (.ex d (.tr B c k) S) (Å,.ret v):=by
 rw[ġ h1,i1 h2,jX h3,jV h4];exact D9 h h5
structure L3(P:ċ) where
 f:Nat→List V→Option V
 D:Nat
 ok:∀{j vs v},f j vs=some v→Ð v=true∧T2 fun d st=>d≤D∧Ev P (.call d j vs []) (st,.val v)
theorem Nw{P:ċ}{o:L3 P}{d j:Nat}{vs vs':List V}{v:V}{H H₁:L}(hd:ak o.D d=true)(h1:Ē H vs=some (H₁,vs'))(h2:o.f j vs'=some v):Ev P (.call (d+1) j vs H) (⟨H₁,[],[]⟩,.val v):=
 let ⟨h3,_,_,h4,h5⟩:=o.ok h2
 oU (è h4 (Nat.le_succ_of_le (dU hd))) h1 h5 h3
section
variable{P:ċ}(R:∀t,An P t)
def Vf(d:Nat)(e:PE)(n:Nat)(s:St):An P (.ev d (.at e n) s):=dV (R (.ev d e s)) fun s v h1=>od (fields s.H v) fun q h2=>od (P.init q.1) fun j h3=>gd (PR (P.gy q.1 n)) fun h4=>od (d8 n q.2) fun x h5=>ok (Au h1 h2 h3 (iN h4) h5)
def U5(d j:Nat)(as:List PE)(s:St):An P (.ev d (.fn j as) s):=dL (R (.bZ d as s)) fun s vs h1=>match R (.call d j vs s.H)with
 |none=>none
 |some p=>match p with
  |⟨(t,o),h⟩=>match o,h with
   |.val v,h=>ok (lg h1 h)
   |.exc,h=>ok (E2 h1 h)
   |_,_=>none
def Vb(c:Nat)(as:List PE)(s:St):(d:Nat)→An P (.ev d (.cl c as) s)
 |0=>none
 |d+1=>dL (R (.bZ (d+1) as s)) fun s vs h1=>od (P.init c) fun j h2=>dV (R (.call d j (.Ó s.H.length::vs) (s.H++[.ins c []]))) fun t v h3=>gd (iq v) fun h4=>
  sel (P.Fq c) (fun e=>ok (E3 h1 h2 (PL h4▸h3) e)) fun e=>od (Ô t.H (.Ó s.H.length)) fun q h5=>ok (uK h1 h2 (PL h4▸h3) e h5)
def Ve(d b:Nat)(as:List PE)(s Ĉ:St)(vs:List V)(h1:Ev P (.bZ d as s) (Ĉ,.vals vs)):An P (.ev d (.bl b as) s):=od (Ē Ĉ.H vs) fun q h2=>
 sel (ö b 10) (fun e=>od (JQ q.2) fun p h3=>gd (ą p.1&&ą p.2) fun h4=>ok (ġ e▸ll h1 (e2 h2 (SX h3)) h4)) fun À=>
 sel (ö b 11) (fun e=>match h3:q1 q.2 with
  |some v=>od (qI v) fun p h4=>gd (ą p) fun h5=>ok (ġ e▸Ő h1 (e2 h2 (iI h4▸i1 h3)) h5)
  |none=>od (JQ q.2) fun p h4=>gd (ą p.1&&ą p.2) fun h5=>ok (ġ e▸km h1 (e2 h2 (SX h4)) h5)) fun À=>
 gd (ö b 12) fun e=>od (q1 q.2) fun v h3=>od (qL v) fun l h4=>ok (ġ e▸lk h1 (e2 h2 (iL h4▸i1 h3)))
def Vc(d b:Nat)(as:List PE)(s:St):An P (.ev d (.bl b as) s):=dL (R (.bZ d as s)) fun Ĉ vs h1=>match ak 10 b with
 |false=>od (Ē Ĉ.H vs) fun q h2=>od (blt b q.2) fun v h3=>ok (j0 h1 h2 h3 rfl)
 |true=>Ve d b as s Ĉ vs h1
def U2(e:PE)(as:List PE)(s:St):(d:Nat)→An P (.ev d (.lo e as) s)
 |0=>none
 |d+1=>dV (R (.ev (d+1) e s)) fun s v h1=>od (H3 v) fun l h2=>od (q2 l) fun p h3=>dL (R (.bZ (d+1) as s)) fun s vs h4=>od (q1 vs) fun v h5=>dV (R (.call d P.lam [v,p.1,p.2] s.H)) fun t x h6=>
  ok (Ap (i2 h3▸jK h2▸h1) (i1 h5▸h4) h6)
section
variable(d:Nat)(e:PE)(n:Nat)(as:List PE)(s Ĉ ĝ:St)(i:Nat)(vs:List V)(h1:Ev P (.ev d e s) (Ĉ,.val (.Ó i)))(h2:Ev P (.bZ d as Ĉ) (ĝ,.vals vs))
include h1 h2
def Vh(hk:kd n (view Ĉ.H (.Ó i))=9):An P (.ev d (.me e n as) s):=od (q1 vs) fun x h3=>od (Ô ĝ.H x) fun q h4=>od (ç q.1 i) fun c h5=>od (cL c) fun l h6=>gd (small l) fun h7=>ok (rI h1 hk (i1 h3▸h2) h4 (kL h6▸h5) h7 rfl)
def UZ(hk:kd n (view Ĉ.H (.Ó i))=10):An P (.ev d (.me e n as) s):=od (ç ĝ.H i) fun c h3=>od (cL c) fun l h4=>od (VP l.reverse) fun q h5=>gd (small l) fun h6=>gd vs.isEmpty fun h7=>ok (rC h1 hk (jE h7▸h2) (kL h4▸h3) h6 (jU h5) rfl)
def U6(hk:kd n (view Ĉ.H (.Ó i))=11):An P (.ev d (.me e n as) s):=od (q1 vs) fun x h3=>od (Ô ĝ.H x) fun q h4=>od (qL q.2) fun m h5=>od (ç q.1 i) fun c h6=>od (cL c) fun l h7=>gd (small l&&small m) fun h8=>
 ok (rG h1 hk (i1 h3▸h2) (e2 h4 (iL h5)) (kL h7▸h6) h8 rfl)
end
def U1(d:Nat)(e:PE)(n:Nat)(as:List PE)(s:St):An P (.ev d (.me e n as) s):=dV (R (.ev d e s)) fun s v h1=>match h2:fields s.H v with
 |some q=>od (P.init q.1) fun m h3=>gd (PR (d8 n q.2)) fun h4=>od (P.gy q.1 n) fun j h5=>dL (R (.bZ d as s)) fun t vs h6=>dV (R (.call d j (v::vs) t.H)) fun u x h7=>ok (rF h1 h2 h3 (iN h4) h5 h6 h7)
 |none=>dL (R (.bZ d as s)) fun t vs h6=>sel (PO (kd n (view s.H v))) (fun hk=>od (Ô t.H v) fun q h7=>od (Ē q.1 vs) fun p h8=>od (n9 (kd n (view s.H v)) q.2 p.2) fun x h9=>ok (rD h1 rfl hk h6 h7 h8 h9 rfl)) fun À=>
  match v,h1 with
  |.Ó i,h1=>sel (ö (kd n (view s.H (.Ó i))) 9) (fun hk=>Vh d e n as _ s t i vs h1 h6 (ġ hk)) fun À=>sel (ö (kd n (view s.H (.Ó i))) 10) (fun hk=>UZ d e n as _ s t i vs h1 h6 (ġ hk)) fun À=>
   gd (ö (kd n (view s.H (.Ó i))) 11) fun hk=>U6 d e n as _ s t i vs h1 h6 (ġ hk)
  |_,_=>none
def U4(d:Nat)(a i:PE)(s:St):An P (.ev d (.ix a i) s):=dV (R (.ev d a s)) fun s v h1=>dV (R (.ev d i s)) fun s x h2=>od (view s.H v) fun v h3=>od (item v x) fun y h4=>ok (yo h1 h2 h3 h4)
def UX(d:Nat)(a:PE)(lo hi st:Option PE)(s:St):An P (.ev d (.sl a lo hi st) s):=dV (R (.ev d a s)) fun s v h1=>dO (R (.opt d lo s)) fun s lo h2=>dO (R (.opt d hi s)) fun s hi h3=>dO (R (.opt d st s)) fun s st h4=>
 od (view s.H v) fun v h5=>od (slice v lo hi st) fun x h6=>ok (Al h1 h2 h3 h4 h5 h6 rfl)
def Vd(d n:Nat)(a b:PE)(s:St):An P (.ev d (.bi n a b) s):=dV (R (.ev d a s)) fun s x h1=>dV (R (.ev d b s)) fun s y h2=>od (Ô s.H x) fun p h3=>od (Ô p.1 y) fun q h4=>od (bin n p.2 q.2) fun v h5=>ok (rH h1 h2 h3 h4 h5 rfl)
def Va(d:Nat)(a:PE)(ops:List Nat)(bs:List PE)(s:St):An P (.ev d (.cm a ops bs) s):=dV (R (.ev d a s)) fun s x h1=>dB (R (.yY d x ops bs s)) fun s q h2=>ok (yq h1 h2)
def U0(d:Nat)(e:PE)(s:St):An P (.ev d (.nt e) s):=dV (R (.ev d e s)) fun s v h1=>od (view s.H v) fun v h2=>od (truth v) fun q h3=>ok (Am h1 h2 h3)
def UU(d:Nat)(t a b:PE)(s:St):An P (.ev d (.te t a b) s):=dB (R (.gv d t s)) fun s q h1=>sel q (fun e=>dV (R (.ev d a s)) fun s v h2=>ok (nU h1 (fun À=>h2) (tf e))) fun e=>dV (R (.ev d b s)) fun s v h2=>ok (nU h1 (ft e) fun À=>h2)
def US(d:Nat)(es:List PE)(s:St):An P (.ev d (.tu es) s):=dL (R (.bZ d es s)) fun s vs h1=>od (Ē s.H vs) fun q h2=>gd (small q.2) fun h3=>ok (uJ h1 h2 h3)
def U3(d:Nat)(es:List PE)(s:St):An P (.ev d (.li es) s):=dL (R (.bZ d es s)) fun s vs h1=>od (Ē s.H vs) fun q h2=>gd (small q.2) fun h3=>ok (i8 h1 h2 h3)
def U8(d:Nat)(ks es:List PE)(s:St):An P (.ev d (.di ks es) s):=dL (R (.bZ d es s)) fun s vs h1=>od (Ē s.H vs) fun q h2=>od (dictOf ks q.2) fun l h3=>gd (lU l) fun h4=>ok (yp h1 h2 h3 h4)
def U_(elt:PE)(tg:List Nat)(it:PE)(ifs:List PE)(n:Nat)(s:St):(d:Nat)→An P (.ev d (.co elt tg it ifs n) s)
 |0=>none
 |d+1=>dV (R (.ev (d+1) it s)) fun s v h1=>od (Ô s.H v) fun q h2=>od (items q.2) fun l h3=>dL (R (.fj d elt tg ifs l [] ⟨q.1,ĥ n none,s.κ⟩)) fun t vs h4=>ok (lj h1 h2 h3 h4)
def U7(d:Nat)(s:St):(e:PE)→An P (.ev d e s)
 |.c v=>ok nV
 |.l i=>od (AS s.ρ i) fun v h=>ok (aR (n2 h))
 |.k i=>od (AS s.κ i) fun v h=>ok (Ar (n2 h))
 |.at e n=>Vf R d e n s
 |.fn j as=>U5 R d j as s
 |.cl c as=>Vb R c as s d
 |.bl b as=>Vc R d b as s
 |.lo e as=>U2 R e as s d
 |.me e n as=>U1 R d e n as s
 |.ix a i=>U4 R d a i s
 |.sl a lo hi st=>UX R d a lo hi st s
 |.bi n a b=>Vd R d n a b s
 |.cm a ops bs=>Va R d a ops bs s
 |.bo q es=>dV (R (.CG d q es s)) fun s v h=>ok (As h)
 |.nt e=>U0 R d e s
 |.ng e=>dV (R (.ev d e s)) fun s v h1=>od (qI v) fun q h2=>ok (Ao (iI h2▸h1))
 |.te t a b=>UU R d t a b s
 |.tu es=>US R d es s
 |.li es=>U3 R d es s
 |.di ks es=>U8 R d ks es s
 |.co elt tg it ifs n=>U_ R elt tg it ifs n s d
 |.la=>od (AS s.κ 0) fun x h1=>od (AS s.κ 1) fun y h2=>od (Ē s.H [x,y]) fun q h3=>ok (Aq (n2 h1) (n2 h2) h3)
 |.no=>none
def UR(d:Nat)(s:St)(e:PE):An P (.gv d e s):=gd (pS e) fun hp=>dV (R (.ev d e s)) fun s v h1=>od (view s.H v) fun v h2=>od (truth v) fun q h3=>ok (Ml hp h1 h2 h3)
def O0(d:Nat)(s:St):(e:PE)→An P (.gv d e s)
 |.nt e=>dB (R (.gv d e s)) fun s q h=>ok (zT h)
 |.bo q es=>dB (R (.hM d q es s)) fun s q h=>ok (ya h)
 |.te t a b=>dB (R (.gv d t s)) fun s q h1=>sel q (fun e=>dB (R (.gv d a s)) fun s v h2=>ok (x_ h1 (fun À=>h2) (tf e))) fun e=>dB (R (.gv d b s)) fun s v h2=>ok (x_ h1 (ft e) fun À=>h2)
 |.cm a ops bs=>dV (R (.ev d a s)) fun s x h1=>dB (R (.yY d x ops bs s)) fun s q h2=>ok (jY h1 h2)
 |e=>UR R d s e
theorem bz{p q:Bool}{a:Prop}(h:(p==q)=true)(e:p= !q):a:=by subst e;induction q using ñ<;>exact à h
theorem Yd{p q:Bool}{a:Prop}(h:(p==q)=false)(e:p=q):a:=by subst e;induction p using ñ<;>exact Ĕ h
def Lw(d:Nat)(q:Bool)(s:St):(es:List PE)→An P (.hM d q es s)
 |[]=>ok gP
 |e::es=>dB (R (.gv d e s)) fun s p h1=>sel (p==q) (fun e=>dB (R (.hM d q es s)) fun s p h2=>ok (rh h1 (fun À=>h2) (bz e))) fun e=>ok (rh h1 (Yd e) fun À=>rfl)
def O3(d:Nat)(x:V)(s:St):(ops:List Nat)→(es:List PE)→An P (.yY d x ops es s)
 |[],_=>none
 |n::ops,es=>match es with
  |[]=>none
  |e::es=>dV (R (.ev d e s)) fun s y h1=>od (view s.H x) fun x h2=>od (view s.H y) fun y' h3=>od (cmp n x y') fun q h4=>match ops,es with
   |[],[]=>ok (y7 h1 h2 h3 h4)
   |m::ops,a::es=>sel q (fun e=>dB (R (.yY d y (m::ops) (a::es) s)) fun s q h5=>ok (y0 h1 h2 h3 h4 (fun À=>h5) (tf e))) fun e=>ok (y0 h1 h2 h3 h4 (ft e) fun À=>rfl)
   |_,_=>none
def O4(d:Nat)(q:Bool)(s:St):(es:List PE)→An P (.CG d q es s)
 |[]=>none
 |e::es=>dV (R (.ev d e s)) fun s v h1=>match es with
  |[]=>ok (OV h1)
  |a::es=>od (view s.H v) fun v' h2=>od (truth v') fun p h3=>sel (p==q) (fun e=>dV (R (.CG d q (a::es) s)) fun s u h4=>ok (zc h1 h2 h3 (fun À=>h4) (bz e))) fun e=>ok (zc h1 h2 h3 (Yd e) fun À=>rfl)
def Vg(d:Nat)(t:Tg)(e:PE)(s:St):An P (.ex d (.as t e) s):=match R (.ev d e s)with
 |none=>none
 |some p=>match p with
  |⟨(s,o),h⟩=>match o,h with
   |.val v,h=>dN (R (.asg d t v s)) fun s h2=>ok (ū h h2)
   |.exc,h=>ok (Ea h)
   |_,_=>none
def UT(d:Nat)(b:List PS)(c:Nat)(k:List PS)(s:St):An P (.ex d (.tr b c k) s):=match R (.dj d b s)with
 |none=>none
 |some p=>match p with
  |⟨(s,o),h⟩=>match o,h with
   |.exc,h=>gd (ö c 7) fun h1=>od (q1 k) fun x h2=>od (RG x) fun e h3=>od (Uo e) fun v h4=>gd (iq v) fun h5=>ok (Qj h h1 h2 h3 h4 h5)
   |.next,h=>ok (zE h (fun q=>neT Out.ctorIdx q rfl))
   |.ret v,h=>ok (zE h (fun q=>neT Out.ctorIdx q rfl))
   |_,_=>none
def a_x(s:St):(d:Nat)→(x:PS)→An P (.ex d x s)
 |d,.as t e=>Vg R d t e s
 |d,.ex e=>dV (R (.ev d e s)) fun s À h=>ok (zH h)
 |d,.if t b c=>dB (R (.gv d t s)) fun s q h1=>sel q (fun e=>(R (.dj d b s)).bind fun p=>ok (hH h1 (fun À=>p.2) (tf e))) fun e=>(R (.dj d c s)).bind fun p=>ok (hH h1 (ft e) fun À=>p.2)
 |0,.wh t b=>none
 |d+1,.wh t b=>(R (.pE d t b s)).bind fun p=>ok (zD p.2)
 |0,.fo t it b=>none
 |d+1,.fo t it b=>dV (R (.ev (d+1) it s)) fun s v h1=>od (Ô s.H v) fun q h2=>od (items q.2) fun l h3=>(R (.qF d t l b ⟨q.1,s.ρ,s.κ⟩)).bind fun p=>ok (bS h1 h2 h3 p.2)
 |d,.re e=>dV (R (.ev d e s)) fun s v h=>ok (qX h)
 |d,.ra es=>dL (R (.bZ d es s)) fun s vs h=>gd (ö vs.length 2) fun h2=>ok (D_ h h2)
 |d,.tr b c h=>UT R d b c h s
 |d,.pa=>ok zG
 |d,.sw q es=>dL (R (.bZ d es s)) fun s vs h1=>od (č s q vs) fun s h2=>ok (zF h1 h2)
 |d,.no=>none
def UQ(d:Nat)(s:St):(xs:List PS)→An P (.dj d xs s)
 |[]=>ok gr
 |x::r=>(R (.ex d x s)).bind fun p=>match p with
  |⟨(s,o),h⟩=>match o,h with
   |.next,h=>(R (.dj d r s)).bind fun p=>ok (Ò h p.2)
   |.ret v,h=>ok (gL h rfl)
   |.exc,h=>ok (gL h rfl)
   |_,_=>none
def OZ(d:Nat)(t:PE)(b:List PS)(s:St):An P (.pE d t b s):=dB (R (.gv d t s)) fun s q h1=>match q,h1 with
 |true,h1=>(R (.dj d b s)).bind fun p=>match p with
  |⟨(s,o),h⟩=>match o,h with
   |.next,h=>(R (.pE d t b s)).bind fun p=>ok (L9 h1 h p.2)
   |.ret v,h=>ok (PD h1 h)
   |_,_=>none
 |false,h1=>ok (L_ h1)
def O1(d:Nat)(t:Tg)(b:List PS)(s:St):(l:List V)→An P (.qF d t l b s)
 |[]=>ok ug
 |v::l=>gd (Ð v) fun h0=>dN (R (.asg d t v s)) fun s h1=>(R (.dj d b s)).bind fun p=>match p with
  |⟨(s,o),h⟩=>match o,h with
   |.next,h=>(R (.qF d t l b s)).bind fun p=>ok (mO h0 h1 h p.2)
   |.ret v,h=>ok (zC h0 h1 h)
   |_,_=>none
def O2(d:Nat)(elt:PE)(tg:List Nat)(ifs:List PE)(acc:List V)(s:St):(l:List V)→An P (.fj d elt tg ifs l acc s)
 |[]=>ok i_
 |v::l=>gd (Ð v&&small acc) fun h0=>dN (R (.asg d (pP tg) v s)) fun s h1=>dB (R (.hM d true ifs s)) fun s q h2=>match q,h2 with
  |true,h2=>dV (R (.ev d elt s)) fun s x h3=>od (Ô s.H x) fun q h4=>(R (.fj d elt tg ifs l (q.2::acc) ⟨q.1,s.ρ,s.κ⟩)).bind fun p=>ok (ke h0 h1 h2 h3 h4 p.2)
  |false,h2=>(R (.fj d elt tg ifs l acc s)).bind fun p=>ok (Hr h0 h1 h2 p.2)
def vM(d j:Nat)(vs:List V)(H:L):An P (.call (d+1) j vs H):=od (P.fn j) fun f h1=>od (č ⟨H,ĥ f.nl none,ĥ f.nc none⟩ f.ps (padded vs f.ml f.ps.length)) fun s h2=>(R (.dj d f.body s)).bind fun p=>match p with
 |⟨(s,o),h⟩=>match o,h with
  |.ret v,h=>sel (P.open_ j) (fun e=>ok (lT h1 h2 h e)) fun e=>od (Ô s.H v) fun q h5=>ok (É h1 h2 h e h5 rfl)
  |.next,h=>ok (eE h1 h2 h rfl)
  |.exc,h=>ok (w5 h1 h2 h rfl)
  |_,_=>none
def Lx(o:L3 P)(j:Nat)(vs:List V)(H:L):(d:Nat)→An P (.call d j vs H)
 |0=>none
 |d+1=>sel (ak o.D d) (fun e=>match h1:Ē H vs with
  |none=>vM R d j vs H
  |some q=>match h2:o.f j q.2 with
   |some v=>ok (Nw e h1 h2)
   |none=>vM R d j vs H) fun À=>vM R d j vs H
def UY(d:Nat)(v:V)(s:St)(e:PE)(n:Nat):An P (.asg d (.a e n) v s):=dV (R (.ev d e s)) fun s u h1=>od (qC u) fun m h2=>od (Ô s.H v) fun q h3=>od (ç q.1 m) fun c h4=>od (cI c) fun p h5=>od (P.init p.1) fun À h6=>gd (PR (P.gy p.1 n)) fun h7=>
 ok (dA (jC h2▸h1) h3 (kI h5▸h4) h6 (iN h7) rfl)
def UW(d:Nat)(v:V)(s:St)(e i:PE):An P (.asg d (.s e i) v s):=dV (R (.ev d e s)) fun s u h1=>od (qC u) fun m h2=>dV (R (.ev d i s)) fun s k h3=>od (Ô s.H v) fun q h4=>od (ç q.1 m) fun c h5=>match k,h3 with
 |.int j,h3=>od (cL c) fun l h6=>gd (gh 0 j&&ĩ j l.length&&ĩ j 1000000) fun h7=>ok (tM (jC h2▸h1) h3 h4 (kL h6▸h5) h7 rfl rfl)
 |.str k,h3=>od (cD c) fun l h6=>gd (small l) fun h7=>ok (xB (jC h2▸h1) h3 h4 (kD h6▸h5) h7 rfl)
 |_,_=>none
def O5(d:Nat)(v:V)(s:St):(t:Tg)→An P (.asg d t v s)
 |.n k i=>od (Š s k i v) fun s h=>ok (gX h)
 |.t q=>od (view s.H v) fun v h1=>od (qT v) fun vs h2=>od (č s q vs) fun s h3=>ok (CM (iT h2▸h1) h3)
 |.a e n=>UY R d v s e n
 |.s e i=>UW R d v s e i
 |.no=>none
def Mr(o:L3 P):(t:Task)→An P t
 |.ev d e s=>U7 R d s e
 |.bZ d es s=>match es with
  |[]=>ok Ų
  |e::r=>dV (R (.ev d e s)) fun s v h1=>dL (R (.bZ d r s)) fun s vs h2=>ok (Ř h1 h2)
 |.gv d e s=>O0 R d s e
 |.hM d q es s=>Lw R d q s es
 |.yY d x ops es s=>O3 R d x s ops es
 |.CG d q es s=>O4 R d q s es
 |.ex d x s=>a_x R s d x
 |.dj d xs s=>UQ R d s xs
 |.pE d t b s=>OZ R d t b s
 |.qF d t l b s=>O1 R d t b s l
 |.fj d elt tg ifs l acc s=>O2 R d elt tg ifs acc s l
 |.call d j vs H=>Lx R o j vs H d
 |.asg d t v s=>O5 R d v s t
 |.opt d e s=>match e with
  |none=>ok JV
  |some e=>dV (R (.ev d e s)) fun s v h=>ok (LL h)
end
def EW{P:ċ}(o:L3 P)(n:Nat):(t:Task)→An P t:=Nat.rec (fun À=>none) (fun À ih=>Mr ih o) n
noncomputable def b0:List PS:=[.re (.me (.c (.str [92,83,101,101,110,32,92,65,110,115,119,101,114,101,100,32,92,70,108,97,103,103,101,100,32,92,68,101,108,101,116,101,100,32,92,68,114,97,102,116])) 0 [.c (.str [32])])]
def f0:Fn:=⟨[],0,0,[],b0⟩
noncomputable def b1:List PS:=[.if (.nt (.cm Ì [3,3] [.bl 0 [.l 0],.c (.int 60)])) [.re (.c (.bool false))] [],.fo (.n false 1) Ä [.if (.bo false [.nt (.cm (.c (.int 32)) [2,2] [.bl 3 [.l 1],.c (.int 127)]),.cm Ã [8] [.c (.str [40,41,123,32,37,42,34,92,93])]]) [.re (.c (.bool false))] []],.re (.c (.bool true))]
def f1:Fn:=⟨[(false,0)],2,0,[],b1⟩
noncomputable def b2:List PS:=[.fo (.n false 1) (.fn 0 []) [.if (.cm (.me Ä 1 []) [0] [.me Ã 1 []]) [.re Ã] []],.if (.nt (.fn 1 [.l 0])) [.no] [],.re Ä]
def f2:Fn:=⟨[(false,0)],2,0,[],b2⟩
noncomputable def b3:List PS:=[.re (.te (.cm (.c (.int 65)) [3,3] [.l 0,.c (.int 90)]) (.bi 0 Ä (.c (.int 32))) Ä)]
def f3:Fn:=⟨[(false,0)],1,0,[],b3⟩
noncomputable def b4:List PS:=[.re (.me fD 2 [.co (.bl 1 [.fn 3 [.bl 3 [.l 1]]]) [1] Ä [] 2])]
def f4:Fn:=⟨[(false,0)],1,0,[],b4⟩
noncomputable def b5:List PS:=[.as (.n false 0) (.di [] []),.fo (.n false 1) (.tu [.c (.str eU),.c (.str [97,115,99,105,105]),.c (.str [97,110,115,105,95,120,51,46,52,45,49,57,54,56]),.c (.str [105,115,111,95,54,52,54,46,105,114,118,58,49,57,57,49]),.c (.str [105,115,111,45,105,114,45,54]),.c (.str [105,115,111,54,52,54,45,117,115]),.c (.str [117,115]),.c (.str [99,112,51,54,55]),.c (.str [105,98,109,51,54,55])]) [.as (.s Ä Ã) (.c (.str eU))],.fo (.n false 1) (.tu [.c (.str rP),.c (.str [105,115,111,95,56,56,53,57,45,49]),.c (.str [105,115,111,95,56,56,53,57,45,49,58,49,57,56,55]),.c (.str [105,115,111,45,105,114,45,49,48,48]),.c (.str [108,97,116,105,110,49]),.c (.str [108,49]),.c (.str [99,112,56,49,57]),.c (.str [105,98,109,56,49,57])]) [.as (.s Ä Ã) (.c (.str rP))],.fo (.n false 1) (.tu [.c (.str nX),.c (.str [117,116,102,56])]) [.as (.s Ä Ã) (.c (.str nX))],.re Ä]
def f5:Fn:=⟨[],2,0,[],b5⟩
noncomputable def b6:List PS:=[.re (.me (.fn 5 []) 6 [.fn 4 [.l 0],.c (.str [])])]
def f6:Fn:=⟨[(false,0)],1,0,[],b6⟩
noncomputable def b7:List PS:=[.if (.cm Ä [9] [.c (.tup [.str eU,.str rP,.str nX])]) [.no] []]
def f7:Fn:=⟨[(false,0)],1,0,[],b7⟩
noncomputable def b8:List PS:=[.as (.n false 2) (.ix Ä Ã),.if (.cm Ë [2] [.c (.int 128)]) [.re (.tu [.l 2,.c (.int 1)])] [],.as (.t [(false,3),(false,4),(false,5)]) .no,.if (.cm aS [0] [.c (.int 0)]) [.re (.tu [.ng Ì,.c (.int 1)])] [],.as (.n false 6) (.bi 4 Ë .no),.fo (.n false 7) (.bl 11 [.c (.int 1),.bi 0 aS Ì]) [.if (.bo false [.cm (.bi 0 Ã dI) [5] [.bl 0 [.l 0]],.nt (.cm Þ [3,3] [.ix Ä (.bi 0 Ã dI),.l 4])]) [.re (.tu [.ng Ì,.l 7])] [],.as (.n false 6) (.bi 0 (.bi 2 ü (.c (.int 64))) (.bi 4 (.ix Ä (.bi 0 Ã dI)) (.c (.int 64)))),.sw [(false,3),(false,4)] [.c (.int 128),.c (.int 191)]],.re (.tu [.l 6,.bi 0 aS Ì])]
def f8:Fn:=⟨[(false,0),(false,1)],8,0,[],b8⟩
noncomputable def b9:List PS:=[.if (.cm Ä [0] [.c (.str nX)]) [.re (.fn 8 [.l 1,.l 2])] [],.if (.bo true [.cm Ä [0] [.c (.str eU)],.cm (.ix Ã Ë) [4] [.c (.int 127)]]) [.re (.tu [.ng Ì,.c (.int 1)])] [],.re (.tu [.ix Ã Ë,.c (.int 1)])]
def f9:Fn:=⟨[(false,0),(false,1),(false,2)],3,0,[],b9⟩
noncomputable def b10:List PS:=[.ex (.fn 7 [.l 0]),.as (.n false 2) (.li []),.as (.n false 3) å,.wh (.cm Þ [2] [.bl 0 [.l 1]]) [.as (.t [(false,4),(false,5)]) (.fn 9 [.l 0,.l 1,.l 3]),.ex (.me Ë 7 [.te (.cm Ă [5] [.c (.int 0)]) (.bl 1 [.l 4]) (.c (.str [65533]))]),.as (.n false 3) (.bi 0 Þ aS)],.re (.me fD 2 [.l 2])]
def X_:Fn:=⟨[(false,0),(false,1)],6,0,[],b10⟩
noncomputable def b11:List PS:=[.ex (.fn 7 [.l 0]),.as (.n false 2) (.li []),.as (.n false 3) å,.wh (.cm Þ [2] [.bl 0 [.l 1]]) [.as (.t [(false,4),(false,5)]) (.fn 9 [.l 0,.l 1,.l 3]),.if (.cm Ă [2] [.c (.int 0)]) [.no] [],.ex (.me Ë 7 [.bl 1 [.l 4]]),.as (.n false 3) (.bi 0 Þ aS)],.re (.me fD 2 [.l 2])]
def X9:Fn:=⟨[(false,0),(false,1)],6,0,[],b11⟩
noncomputable def Qc:List PS:=[.tr [.re (.fn 11 [.c (.str nX),.l 0])] 8 [.re (.fn 10 [.c (.str rP),.l 0])]]
def X8:Fn:=⟨[(false,0)],1,0,[],Qc⟩
noncomputable def b13:List PS:=[.re (.bo false [.cm (.c (.int 48)) [3,3] [.l 0,.c (.int 57)],.cm (.c (.int 65)) [3,3] [.l 0,.c (.int 90)],.cm (.c (.int 97)) [3,3] [.l 0,.c (.int 122)],.cm Ä [4] [.c (.int 127)],.cm Ä [8] [.c (.bytes [33,35,36,37,38,39,42,43,45,47,61,63,94,95,96,123,124,125,126])]])]
def X7:Fn:=⟨[(false,0)],1,0,[],b13⟩
noncomputable def b14:List PS:=[.if (.cm (.sl Ä (some Ã) (some (.bi 0 Ã Ì)) none) [0] [.c (.bytes [10])]) [.re (.bi 0 Ã Ì)] [],.re (.te (.cm (.sl Ä (some Ã) (some (.bi 0 Ã Ź)) none) [0] [.c (.bytes [13,10])]) (.bi 0 Ã Ź) (.ng Ì))]
def X6:Fn:=⟨[(false,0),(false,1)],2,0,[],b14⟩
noncomputable def Yg:List PS:=[.as (.n false 2) Ã,.wh (.bo true [.cm Ë [2] [.bl 0 [.l 0]],.fn 13 [.ix Ä Ë]]) [.as (.n false 2) (.bi 0 Ë Ì)],.re (.tu [.sl Ä (some Ã) (some Ë) none,.l 2])]
def X5:Fn:=⟨[(false,0),(false,1)],3,0,[],Yg⟩
noncomputable def b16:List PS:=[.as (.n false 2) (.sl Ä (some Ã) (some (.bi 0 Ã Ì)) none),.if (.cm Ë [0] [.c (.bytes [34])]) [.as (.t [(false,3),(false,4)]) .no,.re (.tu [.tu [.c (.str [113,117,111,116,101,100]),.l 3,.l 1],.l 4])] [],.if (.cm Ë [0] [.c (.bytes [91])]) [.as (.t [(false,3),(false,4)]) .no,.re (.tu [.tu [.c (.str [108,105,116,101,114,97,108]),.l 3,.l 1],.l 4])] [],.if (.cm Ë [0] [.c (.bytes [40])]) [.as (.t [(false,3),(false,4)]) .no,.re (.tu [.tu [.c (.str [99,111,109,109,101,110,116]),.l 3,.l 1],.l 4])] [],.if (.cm Ë [8] [.c (.bytes [60,62,64,44,59,58,46,92])]) [.re (.tu [.tu [.c (.str [115,105,103,110]),.l 2,.l 1],.bi 0 Ã Ì])] [],.if (.nt (.fn 13 [.ix Ä Ã])) [.ra [.c (.str [97,32,115,105,103,110,32,116,104,97,116,32,99,97,110,110,111,116,32,115,116,97,110,100]),.l 1]] [],.as (.t [(false,3),(false,4)]) (.fn 15 [.l 0,.l 1]),.re (.tu [.tu [.c (.str [97,116,111,109]),.l 3,.l 1],.l 4])]
def X4:Fn:=⟨[(false,0),(false,1)],5,0,[],b16⟩
noncomputable def b17:List PS:=[.wh (.cm Ã [2] [.bl 0 [.l 0]]) [.as (.n false 2) (.te (.cm (.ix Ä Ã) [8] [.tu [.c (.int 9),.c (.int 32)]]) (.bi 0 Ã Ì) (.fn 14 [.l 0,.l 1])),.if (.cm Ë [2] [.c (.int 0)]) [.re Ã] [],.as (.n false 1) Ë],.re Ã]
def X3:Fn:=⟨[(false,0),(false,1)],3,0,[],b17⟩
noncomputable def b18:List PS:=[.as (.n false 1) (.li []),.as (.n false 2) (.fn 17 [.l 0,.c (.int 0)]),.wh (.cm Ë [2] [.bl 0 [.l 0]]) [.as (.t [(false,3),(false,2)]) (.fn 16 [.l 0,.l 2]),.ex (.me Ã 7 [.l 3]),.as (.n false 2) (.fn 17 [.l 0,.l 2])],.re Ã]
def X0:Fn:=⟨[(false,0)],4,0,[],b18⟩
noncomputable def b19:List PS:=[.re (.co Ã [1] Ä [.cm (.ix Ã å) [1] [.c (.str [99,111,109,109,101,110,116])]] 2)]
def XZ:Fn:=⟨[(false,0)],1,0,[],b19⟩
noncomputable def b20:List PS:=[.re (.bo true [.cm (.bi 4 Ä hV) [0] [.c (.int 0)],.bo false [.cm (.bi 4 Ä (.c (.int 100))) [1] [.c (.int 0)],.cm (.bi 4 Ä (.c (.int 400))) [0] [.c (.int 0)]]])]
def XY:Fn:=⟨[(false,0)],1,0,[],b20⟩
noncomputable def b21:List PS:=[.if (.cm Ã [0] [.c (.int 2)]) [.re (.te (.fn 20 [.l 0]) (.c (.int 29)) (.c (.int 28)))] [],.re (.te (.cm Ã [8] [.tu [.c (.int 4),.c (.int 6),.c (.int 9),.c (.int 11)]]) (.c (.int 30)) (.c (.int 31)))]
def XX:Fn:=⟨[(false,0),(false,1)],2,0,[],b21⟩
noncomputable def b22:List PS:=[.as (.n false 1) (.bi 1 Ä Ì),.re (.bi 0 (.bi 1 (.bi 0 (.bi 2 Ã (.c (.int 365))) (.bi 3 Ã hV)) (.bi 3 Ã (.c (.int 100)))) (.bi 3 Ã (.c (.int 400))))]
def XW:Fn:=⟨[(false,0)],2,0,[],b22⟩
noncomputable def b23:List PS:=[.as (.n false 1) (.bi 0 Ä (.c (.int 719162))),.as (.n false 2) (.bi 0 (.bi 3 (.bi 2 Ã (.c (.int 400))) (.c (.int 146097))) Ì),.wh (.cm (.fn 22 [.l 2]) [4] [.l 1]) [.as (.n false 2) (.bi 1 Ë Ì)],.wh (.cm (.fn 22 [.bi 0 Ë Ì]) [3] [.l 1]) [.as (.n false 2) (.bi 0 Ë Ì)],.as (.n false 3) (.bi 1 Ã (.fn 22 [.l 2])),.as (.n false 4) Ì,.wh (.cm Þ [5] [.fn 21 [.l 2,.l 4]]) [.as (.n false 3) (.bi 1 Þ (.fn 21 [.l 2,.l 4])),.as (.n false 4) (.bi 0 Ă Ì)],.re (.tu [.l 2,.l 4,.bi 0 Þ Ì])]
def XU:Fn:=⟨[(false,0)],5,0,[],b23⟩
noncomputable def b24:List PS:=[.re (.bo true [.cm Ì [3,3] [.l 0,.c (.int 9999)],.cm Ì [3,3] [.l 1,.c (.int 12)],.cm Ì [3,3] [.l 2,.fn 21 [.l 0,.l 1]]])]
def XS:Fn:=⟨[(false,0),(false,1),(false,2)],3,0,[],b24⟩
noncomputable def b25:List PS:=[.re (.bo true [.cm å [3,3] [.l 0,.c (.int 23)],.cm å [3,3] [.l 1,.c (.int 59)],.cm å [3,3] [.l 2,.c (.int 60)]])]
def XR:Fn:=⟨[(false,0),(false,1),(false,2)],3,0,[],b25⟩
noncomputable def b26:List PS:=[.re (.fn 23 [.bi 3 (.bi 0 Ä (.bi 2 Ã (.c (.int 60)))) (.c (.int 86400))])]
def XQ:Fn:=⟨[(false,0),(false,1)],2,0,[.int 0],b26⟩
noncomputable def b27:List PS:=[.as (.n false 1) (.co (.fn 4 [.l 1]) [1] (.c (.tup [.str [74,97,110],.str [70,101,98],.str [77,97,114],.str [65,112,114],.str [77,97,121],.str [74,117,110],.str [74,117,108],.str [65,117,103],.str [83,101,112],.str [79,99,116],.str [78,111,118],.str [68,101,99]])) [] 2),.re (.te (.cm (.fn 4 [.l 0]) [8] [.l 1]) (.bi 0 (.me Ã 5 [.fn 4 [.l 0]]) Ì) å)]
def XO:Fn:=⟨[(false,0)],2,0,[],b27⟩
noncomputable def b28:List PS:=[.re (.cm (.fn 4 [.l 0]) [8] [.co (.fn 4 [.l 1]) [1] (.c (.tup [.str [77,111,110],.str [84,117,101],.str [87,101,100],.str [84,104,117],.str [70,114,105],.str [83,97,116],.str [83,117,110]])) [] 2])]
def XN:Fn:=⟨[(false,0)],1,0,[],b28⟩
noncomputable def b29:List PS:=[.re (.bo true [.cm Ä [1] [.c (.str [])],.cm (.co Ã [1] Ä [.nt (.cm (.c (.str [48])) [3,3] [.l 1,.c (.str [57])])] 2) [0] [.li []]])]
def XM:Fn:=⟨[(false,0)],1,0,[],b29⟩
noncomputable def b30:List PS:=[.if (.bo false [.cm (.bl 0 [.l 0]) [1] [.c (.int 5)],.cm (.ix Ä å) [9] [.c (.str [43,45])],.nt (.fn 29 [.sl Ä (some Ì) none none]),.cm (.bl 2 [.sl Ä (some rK) none none]) [4] [.c (.int 59)]]) [.re (.c .none)] [],.as (.n false 1) (.bi 0 (.bi 2 (.bl 2 [.sl Ä (some Ì) (some rK) none]) (.c (.int 60))) (.bl 2 [.sl Ä (some rK) none none])),.re (.te (.cm (.ix Ä å) [0] [.c (.str [45])]) (.ng Ã) Ã)]
def XK:Fn:=⟨[(false,0)],2,0,[],b30⟩
noncomputable def b31:List PS:=[.if (.bo false [.cm Ä [0] [.c (.str [])],.cm (.co Ã [1] (.fn 4 [.l 0]) [.nt (.cm (.c (.str [97])) [3,3] [.l 1,.c (.str [122])])] 2) [1] [.li []]]) [.re (.c .none)] [],.as (.n false 1) (.di [.c (.str [101,115,116]),.c (.str [101,100,116]),.c (.str [99,115,116]),.c (.str [99,100,116]),.c (.str [109,115,116]),.c (.str [109,100,116]),.c (.str [112,115,116]),.c (.str [112,100,116])] [.ng rJ,.ng hV,.ng (.c (.int 6)),.ng rJ,.ng ť,.ng (.c (.int 6)),.ng (.c (.int 8)),.ng ť]),.re (.bi 2 (.me Ã 6 [.fn 4 [.l 0],.c (.int 0)]) (.c (.int 60)))]
def XJ:Fn:=⟨[(false,0)],2,0,[],b31⟩
noncomputable def b32:List PS:=[.if (.cm Ã [0] [.c (.int 2)]) [.re (.bi 0 Ä (.te (.cm Ä [2] [.c (.int 50)]) (.c (.int 2000)) (.c (.int 1900))))] [],.re (.te (.cm Ã [0] [.c (.int 3)]) (.bi 0 Ä (.c (.int 1900))) Ä)]
def XI:Fn:=⟨[(false,0),(false,1)],2,0,[],b32⟩
noncomputable def b33:List PS:=[.as (.n false 1) (.ix (.me Ä 32 [.c (.int 2),.c (.int 2)]) å),.if (.nt (.me Ä 49 [.c (.bytes [58])])) [.ra [.c (.str [97,32,99,111,108,111,110,32,105,115,32,109,105,115,115,105,110,103]),.me Ä 31 []]] [],.as (.n false 2) (.ix (.me Ä 32 [.c (.int 2),.c (.int 2)]) å),.as (.n false 3) (.te (.me Ä 49 [.c (.bytes [58])]) (.ix (.me Ä 32 [.c (.int 2),.c (.int 2)]) å) å),.re (.tu [.l 1,.l 2,.l 3])]
def XH:Fn:=⟨[(false,0)],4,0,[],b33⟩
noncomputable def b34:List PS:=[.as (.n false 1) (.me Ä 29 []),.as (.n false 2) (.fn 30 [.l 1]),.if (.cm Ë [6] [.c .none]) [.as (.n false 2) (.fn 31 [.l 1])] [],.ex (.me Ä 30 [.cm Ë [7] [.c .none],.c (.str [97,32,122,111,110,101,32,105,115,32,109,105,115,115,105,110,103])]),.re Ë]
def XG:Fn:=⟨[(false,0)],3,0,[],b34⟩
noncomputable def b35:List PS:=[.as (.n false 1) (.cl 1 [.l 0]),.if (.fn 28 [.me Ã 29 []]) [.as (.a Ã 10) (.bi 0 (.at Ã 10) Ì),.ex (.me Ã 49 [.c (.bytes [44])])] [],.as (.n false 2) (.me Ã 31 []),.as (.n false 3) (.ix (.me Ã 32 [.c (.int 1),.c (.int 2)]) å),.as (.n false 4) (.fn 27 [.me Ã 29 []]),.ex (.me Ã 30 [.cm Ă [4] [.c (.int 0)],.c (.str [97,32,109,111,110,116,104,32,105,115,32,109,105,115,115,105,110,103])]),.as (.t [(false,5),(false,6)]) (.me Ã 32 [.c (.int 2),.c (.int 4)]),.as (.n false 7) (.fn 32 [.l 5,.l 6]),.if (.nt (.fn 24 [.l 7,.l 4,.l 3])) [.ra [.c (.str [116,104,101,114,101,32,105,115,32,110,111,32,115,117,99,104,32,100,97,121]),.l 2]] [],.as (.n false 2) (.me Ã 31 []),.as (.t [(false,8),(false,9),(false,10)]) (.fn 33 [.l 1]),.if (.nt (.fn 25 [.l 8,.l 9,.l 10])) [.ra [.c (.str [116,104,101,114,101,32,105,115,32,110,111,32,115,117,99,104,32,116,105,109,101]),.l 2]] [],.as (.n false 11) (.fn 34 [.l 1]),.if (.cm (.at Ã 10) [2] [.bl 0 [.at Ã 27]]) [.ra [.c (.str [115,111,109,101,116,104,105,110,103,32,115,116,97,110,100,115,32,98,101,104,105,110,100,32,116,104,101,32,100,97,116,101]),.me Ã 31 []]] [],.re (.cl 2 [.l 7,.l 4,.l 3,.l 8,.l 9,.l 10,.l 11])]
def XF:Fn:=⟨[(false,0)],12,0,[],b35⟩
noncomputable def b36:List PS:=[.as (.n false 3) (.me Ä 3 [.c (.bytes [10]),.l 1,.l 2]),.if (.cm Þ [2] [.c (.int 0)]) [.re (.tu [.l 2,.l 2])] [],.if (.bo true [.cm Þ [4] [.l 1],.cm (.ix Ä (.bi 1 Þ Ì)) [0] [.c (.int 13)]]) [.re (.tu [.bi 1 Þ Ì,.bi 0 Þ Ì])] [],.re (.tu [.l 3,.bi 0 Þ Ì])]
def XD:Fn:=⟨[(false,0),(false,1),(false,2)],4,0,[],b36⟩
noncomputable def b37:List PS:=[.fo (.n false 1) Ä [.if (.bo false [.cm Ã [2] [.c (.int 33)],.cm Ã [4] [.c (.int 126)],.cm Ã [0] [.c (.int 58)]]) [.re (.c (.bool false))] []],.re (.cm (.bl 0 [.l 0]) [4] [.c (.int 0)])]
def XC:Fn:=⟨[(false,0)],2,0,[],b37⟩
noncomputable def b38:List PS:=[.as (.n false 3) (.me Ä 3 [.c (.bytes [58]),.l 1,.l 2]),.re (.te (.bo true [.cm Þ [5] [.c (.int 0)],.fn 37 [.sl Ä (some Ã) (some Þ) none]]) Þ (.ng Ì))]
def XB:Fn:=⟨[(false,0),(false,1),(false,2)],4,0,[],b38⟩
noncomputable def b39:List PS:=[.as (.n false 3) (.te (.cm Ë [2] [.c (.int 0)]) (.bl 0 [.l 0]) Ë),.as (.n false 4) (.li []),.as (.n false 5) Ã,.wh (.cm aS [2] [.l 3]) [.as (.t [(false,6),(false,7)]) (.fn 36 [.l 0,.l 5,.l 3]),.if (.cm ü [0] [.l 5]) [.re (.tu [.l 4,.l 7])] [],.as (.n false 8) (.fn 38 [.l 0,.l 5,.l 6]),.if (.cm (.l 8) [2] [.c (.int 0)]) [.re (.tu [.l 4,.l 5])] [],.wh (.bo true [.cm dI [2] [.l 3],.cm (.ix Ä dI) [8] [.c (.tup [.int 32,.int 9])]]) [.as (.t [(false,6),(false,7)]) (.fn 36 [.l 0,.l 7,.l 3])],.ex (.me Ă 7 [.tu [.cl 3 [.sl Ä (some aS) (some (.l 8)) none,.sl Ä (some (.bi 0 (.l 8) Ì)) (some ü) none],.l 5,.l 7]]),.as (.n false 5) dI],.re (.tu [.l 4,.l 3])]
def XA:Fn:=⟨[(false,0),(false,1),(false,2)],9,0,[.int 0,.int (-1)],b39⟩
noncomputable def b40:List PS:=[.as (.t [(false,3),(false,4)]) (.fn 39 [.l 0,.l 1,.l 2]),.re (.tu [.co (.ix Ã å) [1] Þ [] 2,.l 4])]
def Xz:Fn:=⟨[(false,0),(false,1),(false,2)],5,0,[.int 0,.int (-1)],b40⟩
noncomputable def b41:List PS:=[.as (.n false 1) (.li []),.as (.n false 2) å,.wh (.c (.bool true)) [.as (.t [(false,3),(false,4)]) (.fn 36 [.l 0,.l 2,.bl 0 [.l 0]]),.ex (.me Ã 7 [.sl Ä (some Ë) (some Þ) none]),.if (.cm Þ [0] [.bl 0 [.l 0]]) [.re Ã] [],.as (.n false 2) Ă]]
def Xy:Fn:=⟨[(false,0)],5,0,[],b41⟩
noncomputable def b42:List PS:=[.re (.me (.me (.c (.bytes [])) 2 [.fn 41 [.l 0]]) 4 [.c (.bytes [32,9])])]
def Xx:Fn:=⟨[(false,0)],1,0,[],b42⟩
noncomputable def b43:List PS:=[.as (.n false 2) (.fn 4 [.l 1]),.fo (.n false 3) Ä [.if (.cm (.me Þ 57 []) [0] [.l 2]) [.re (.fn 42 [.at Þ 34])] []],.re (.c .none)]
def Xw:Fn:=⟨[(false,0),(false,1)],4,0,[],b43⟩
noncomputable def b44:List PS:=[.re (.cl 4 [.c (.str aT),.c (.str [112,108,97,105,110]),.di [.c (.str Aw)] [.c (.str eU)]])]
def Xv:Fn:=⟨[],0,0,[],b44⟩
noncomputable def b45:List PS:=[.if (.cm Ä [6] [.c .none]) [.re (.fn 44 [])] [],.tr [.re .no] 7 [.re (.fn 44 [])]]
def Xu:Fn:=⟨[(false,0)],1,0,[],b45⟩
noncomputable def b46:List PS:=[.as (.n false 1) (.fn 43 [.l 0,.c (.str [99,111,110,116,101,110,116,45,116,114,97,110,115,102,101,114,45,101,110,99,111,100,105,110,103])]),.if (.cm Ã [6] [.c .none]) [.re (.c (.str wz))] [],.as (.n false 2) å,.wh (.bo true [.cm Ë [2] [.bl 0 [.l 1]],.cm (.ix Ã Ë) [9] [.c (.bytes [32,9,40,59])]]) [.as (.n false 2) (.bi 0 Ë Ì)],.as (.n false 3) (.fn 4 [.me fD 2 [.co (.bl 1 [.l 1]) [1] (.sl Ã none (some Ë) none) [] 2]]),.re (.te (.cm Þ [0] [.c (.str [])]) (.c (.str wz)) Þ)]
def Xs:Fn:=⟨[(false,0)],4,0,[],b46⟩
noncomputable def b47:List PS:=[.re (.bo true [.me (.at Ä 41) 52 [],.cm (.at Ä 42) [8] [.c (.tup [.str wz,.str [56,98,105,116],.str [98,105,110,97,114,121]])]])]
def Xr:Fn:=⟨[(false,0)],1,0,[],b47⟩
noncomputable def b48:List PS:=[.as (.t [(false,3),(false,4)]) (.fn 40 [.k 0,.l 0,.l 1]),.as (.n false 5) (.fn 43 [.l 3,.c (.str [99,111,110,116,101,110,116,45,116,121,112,101])]),.as (.n false 6) (.te (.bo true [.cm aS [6] [.c .none],.l 2]) (.cl 4 [.c (.str [109,101,115,115,97,103,101]),.c (.str [114,102,99,56,50,50]),.di [] []]) (.fn 45 [.l 5])),.as (.n false 7) (.cl 5 [.l 0,.l 4,.l 1,.l 3,.l 6]),.if (.bo true [.cm (.k 1) [2] [.c (.int 20)],.me ü 53 []]) [.as (.n true 2) (.cm (.at ü 36) [0] [.c (.str [100,105,103,101,115,116])]),.as (.a dI 11) (.co (.fn 48 [.k 0,.l 1,.l 2,.bi 0 (.k 1) Ì,.k 2]) [1,2] .no [] 3)] [.if (.bo true [.cm (.k 1) [2] [.c (.int 20)],.fn 47 [.l 7]]) [.as (.a dI 43) (.fn 48 [.k 0,.l 4,.l 1,.bi 0 (.k 1) Ì,.c (.bool false)])] []],.re dI]
def Xq:Fn:=⟨[(true,0),(false,0),(false,1),(true,1),(false,2)],8,3,[],b48⟩
noncomputable def b49:List PS:=[.re (.fn 48 [.l 0,.c (.int 0),.bl 0 [.l 0],.c (.int 0),.c (.bool false)])]
def Xp:Fn:=⟨[(false,0)],1,0,[],b49⟩
noncomputable def b50:List PS:=[.if (.cm Ä [0] [.c (.str [98,97,115,101,54,52])]) [.re .no] [],.if (.cm Ä [0] [.c (.str [113,117,111,116,101,100,45,112,114,105,110,116,97,98,108,101])]) [.re .no] [],.re Ã]
def Xo:Fn:=⟨[(false,0),(false,1)],2,0,[],b50⟩
noncomputable def b51:List PS:=[.re (.fn 50 [.at Ã 42,.sl Ä (some (.at Ã 39)) (some (.at Ã 19)) none])]
def Xn:Fn:=⟨[(false,0),(false,1)],2,0,[],b51⟩
noncomputable def b52:List PS:=[.as (.n false 2) (.fn 6 [.me (.at (.at Ã 41) 37) 6 [.c (.str Aw),.c (.str eU)]]),.re (.fn 10 [.te (.cm Ë [0] [.c (.str [])]) (.c (.str eU)) Ë,.fn 51 [.l 0,.l 1]])]
def Xm:Fn:=⟨[(false,0),(false,1)],3,0,[],b52⟩
noncomputable def b53:List PS:=[.as (.n false 1) (.li []),.wh (.cm (.ix Ä å) [0] [.c (.str [97,110,100])]) [.ex (.me Ã 7 [.ix Ä Ź]),.as (.n false 0) (.ix Ä Ì)],.ex (.me Ã 7 [.l 0]),.re (.sl Ã none none (some (.ng Ì)))]
def Xl:Fn:=⟨[(false,0)],2,0,[],b53⟩
noncomputable def b54:List PS:=[.sw [(false,1),(false,2)] [.li [],.li [.l 0]],.wh (.cm Ë [1] [.li []]) [.as (.n false 3) (.me Ë 8 []),.if (.cm (.ix Þ å) [0] [.c (.str [110,111,116])]) [.ex (.me Ë 7 [.ix Þ Ì])] [.if (.cm (.ix Þ å) [8] [.tu [.c (.str [97,110,100]),.c (.str [111,114])]]) [.ex (.me Ë 9 [.li [.ix Þ Ź,.ix Þ Ì]])] [.ex (.me Ã 7 [.l 3])]]],.re Ã]
def Xk:Fn:=⟨[(false,0)],4,0,[],b54⟩
noncomputable def b55:List PS:=[.as (.n false 1) (.co (.ix Ã å) [1] (.fn 54 [.l 0]) [] 2),.re (.cm (.co Ã [1] Ã [.bo false [.cm Ã [8] [.tu [.c (.str cy),.c (.str aT),.c (.str ř)]],.cm (.sl Ã none (some hV) none) [0] [.c (.str Ŧ)]]] 2) [1] [.li []])]
def Xj:Fn:=⟨[(false,0)],2,0,[],b55⟩
noncomputable def b56:List PS:=[.as (.n false 2) (.ix Ä å),.if (.cm Ë [0] [.c (.str [97,108,108])]) [.re (.c (.bool true))] [],.if (.cm Ë [0] [.c (.str [110,111,116])]) [.re (.nt (.fn 56 [.ix Ä Ì,.l 1]))] [],.if (.cm Ë [0] [.c (.str [111,114])]) [.re (.bo false [.fn 56 [.ix Ä Ì,.l 1],.fn 56 [.ix Ä Ź,.l 1]])] [],.if (.cm Ë [1] [.c (.str [97,110,100])]) [.re (.lo Ã [.l 0])] [],.fo (.n false 3) (.fn 53 [.l 0]) [.if (.nt (.fn 56 [.l 3,.l 1])) [.re (.c (.bool false))] []],.re (.c (.bool true))]
def Xi:Fn:=⟨[(false,0),(false,1)],4,0,[],b56⟩
noncomputable def b57:List PS:=[.as (.t [(false,2),(false,3)]) Ä,.if (.bo true [.cm Ã [0] [.c (.int 0)],.bo false [.cm Ë [0] [.c (.int 0)],.cm Þ [0] [.c (.int 0)]]]) [.re (.c .none)] [],.if (.cm Ë [0] [.c (.int 0)]) [.as (.n false 2) Ã] [],.if (.cm Þ [0] [.c (.int 0)]) [.as (.n false 3) Ã] [],.re (.tu [.bl 6 [.l 2,.l 3],.bl 7 [.l 2,.l 3]])]
def Xh:Fn:=⟨[(false,0),(false,1)],4,0,[],b57⟩
noncomputable def b58:List PS:=[.fo (.n false 3) Ä [.as (.n false 4) (.fn 57 [.l 3,.l 2]),.if (.bo true [.cm Ă [7] [.c .none],.cm (.ix Ă å) [3,3] [.l 1,.ix Ă Ì]]) [.re (.c (.bool true))] []],.re (.c (.bool false))]
def Xg:Fn:=⟨[(false,0),(false,1),(false,2)],5,0,[],b58⟩
noncomputable def b59:List PS:=[.as (.n false 1) (.li []),.as (.n false 2) å,.as (.n false 3) å,.wh (.cm Þ [2] [.bl 0 [.l 0]]) [.as (.n false 4) (.te (.cm (.ix Ä Þ) [0] [.c (.int 61)]) .no (.c .none)),.if (.cm Ă [6] [.c .none]) [.as (.n false 3) (.bi 0 Þ Ì)] [.ex (.me Ã 7 [.tu [.c (.bool false),.sl Ä (some Ë) (some Þ) none]]),.ex (.me Ã 7 [.tu [.c (.bool true),.ix Ă å]]),.as (.n false 3) (.ix Ă Ì),.as (.n false 2) Þ]],.re (.bi 0 Ã (.li [.tu [.c (.bool false),.sl Ä (some Ë) none none]]))]
def Xf:Fn:=⟨[(false,0)],5,0,[],b59⟩
noncomputable def b60:List PS:=[.as (.n false 1) (.fn 59 [.l 0]),.as (.n false 2) (.li []),.fo (.n false 3) (.bl 11 [.bl 0 [.l 1]]) [.as (.t [(false,4),(false,5)]) (.ix Ã Þ),.if Ă [.ex (.me Ë 7 [.l 5])] [.if (.nt (.bo true [.cm å [2,2] [.l 3,.bi 1 (.bl 0 [.l 1]) Ì],.no])) [.ex (.me Ë 7 [.fn 12 [.l 5]])] []]],.re (.me fD 2 [.l 2])]
def Xe:Fn:=⟨[(false,0)],6,0,[],b60⟩
noncomputable def b61:List PS:=[.re (.cm (.fn 4 [.fn 10 [.c (.str nX),.l 0]]) [8] [.fn 4 [.l 1]])]
def Xd:Fn:=⟨[(false,0),(false,1)],2,0,[],b61⟩
noncomputable def b62:List PS:=[.re (.fn 60 [.fn 42 [.at Ä 34]])]
def Xc:Fn:=⟨[(false,0)],1,0,[],b62⟩
noncomputable def b63:List PS:=[.re (.bi 0 (.bi 0 (.fn 10 [.c (.str rP),.at Ä 33]) (.c (.str [58,32]))) (.fn 62 [.l 0]))]
def Xb:Fn:=⟨[(false,0)],1,0,[],b63⟩
noncomputable def b64:List PS:=[.fo (.n false 3) Ä [.if (.bo true [.cm (.me Þ 57 []) [0] [.l 1],.bo false [.cm Ë [0] [.c (.bytes [])],.fn 61 [.l 2,.fn 62 [.l 3]]]]) [.re (.c (.bool true))] []],.re (.c (.bool false))]
def Xa:Fn:=⟨[(false,0),(false,1),(false,2)],4,0,[],b64⟩
noncomputable def b65:List PS:=[.fo (.n false 2) Ä [.if (.fn 61 [.l 1,.fn 63 [.l 2]]) [.re (.c (.bool true))] []],.re (.cm Ã [0] [.c (.bytes [])])]
def W_:Fn:=⟨[(false,0),(false,1)],3,0,[],b65⟩
noncomputable def b66:List PS:=[.if (.cm Ë [0] [.c (.bytes [])]) [.re (.c (.bool true))] [],.if (.cm Þ [4] [.c (.int 20)]) [.re (.c (.bool false))] [],.if (.cm (.at Ã 43) [7] [.c .none]) [.re .no] [],.fo (.n false 4) (.at Ã 11) [.if (.fn 66 [.l 0,.l 4,.l 2,.bi 0 Þ Ì]) [.re (.c (.bool true))] []],.re (.bo true [.cm (.at Ã 11) [0] [.li []],.me (.at Ã 41) 54 [],.fn 61 [.l 2,.fn 52 [.l 0,.l 1]]])]
def W9:Fn:=⟨[(false,0),(false,1),(false,2),(false,3)],5,0,[.int 0],b66⟩
noncomputable def b67:List PS:=[.if (.cm (.ix Ä å) [0] [.c (.str cy)]) [.re (.fn 64 [.at Ë 40,.ix Ä Ì,.ix Ä Ź])] [],.if (.bo true [.cm (.ix Ä å) [0] [.c (.str aT)],.fn 65 [.at Ë 40,.ix Ä Ì]]) [.re (.c (.bool true))] [],.re (.fn 66 [.l 1,.l 2,.ix Ä Ì])]
def W8:Fn:=⟨[(false,0),(false,1),(false,2)],3,0,[],b67⟩
noncomputable def b68:List PS:=[.if (.cm Ä [0] [.c (.str jA)]) [.re (.cm Ã [2] [.l 2])] [],.re (.te (.cm Ä [0] [.c (.str [111,110])]) (.cm Ã [0] [.l 2]) (.cm Ã [5] [.l 2]))]
def TS:Fn:=⟨[(false,0),(false,1),(false,2)],3,0,[],b68⟩
noncomputable def b69:List PS:=[.as (.n false 1) (.fn 43 [.l 0,.c (.str ŋ)]),.if (.cm Ã [6] [.c .none]) [.re (.c .none)] [],.tr [.as (.n false 2) (.fn 35 [.l 1])] 7 [.re (.c .none)],.re (.tu [.at Ë 20,.at Ë 21,.at Ë 22])]
def W7:Fn:=⟨[(false,0)],3,0,[],b69⟩
noncomputable def b70:List PS:=[.as (.n false 2) (.fn 69 [.l 1]),.re (.bo true [.cm Ë [7] [.c .none],.fn 68 [.sl (.ix Ä å) (some hV) none none,.l 2,.ix Ä Ì]])]
def W6:Fn:=⟨[(false,0),(false,1)],3,0,[],b70⟩
noncomputable def b71:List PS:=[.as (.t [(false,4),(false,5)]) Ä,.if (.cm Ă [0] [.c (.str ly)]) [.re (.cm (.bl 0 [.at Ã 14]) [4] [.l 5])] [],.if (.cm Ă [0] [.c (.str nZ)]) [.re (.cm (.bl 0 [.at Ã 14]) [2] [.l 5])] [],.if (.cm Ă [0] [.c (.str aU)]) [.re (.cm (.at Ã 17) [5] [.l 5])] [],.re (.te (.cm Ă [0] [.c (.str [115,101,113])]) (.fn 58 [.l 5,.l 2,.ix Þ å]) (.fn 58 [.l 5,.at Ã 13,.ix Þ Ì]))]
def W5:Fn:=⟨[(false,0),(false,1),(false,2),(false,3)],6,0,[],b71⟩
noncomputable def b72:List PS:=[.if (.cm (.ix Ä å) [0] [.c (.str hW)]) [.re (.me Ã 55 [.fn 2 [.ix Ä Ì]])] [],.if (.cm (.ix Ä å) [8] [.tu [.c (.str jA),.c (.str [111,110]),.c (.str nY)]]) [.re (.fn 68 [.ix Ä å,.fn 26 [.at Ã 16,.c (.int 0)],.ix Ä Ì])] [],.re (.fn 71 [.l 0,.l 1,.l 2,.l 3])]
def W4:Fn:=⟨[(false,0),(false,1),(false,2),(false,3)],4,0,[],b72⟩
noncomputable def b73:List PS:=[.if (.cm (.ix Ä å) [8] [.tu [.c (.str cy),.c (.str aT),.c (.str ř)]]) [.re (.fn 67 [.l 0,.at (.at Ã 46) 14,.at Ã 47])] [],.if (.cm (.sl (.ix Ä å) none (some hV) none) [0] [.c (.str Ŧ)]) [.re (.fn 70 [.l 0,.at (.at Ã 47) 40])] [],.re (.fn 72 [.l 0,.at Ã 46,.at Ã 32,.l 2])]
def W3:Fn:=⟨[(false,0),(false,1),(false,2)],3,0,[],b73⟩
noncomputable def b74:List PS:=[.re (.fn 56 [.l 0,.la])]
def W2:Fn:=⟨[(false,0),(true,0),(true,1)],1,2,[],b74⟩
noncomputable def b75:List PS:=[.re (.te (.cm Ä [1] [.li []]) (.tu [.at (.ix Ä (.ng Ì)) 32,.at (.at (.ix Ä (.ng Ì)) 46) 13]) (.tu [.c (.int 0),.c (.int 0)]))]
def W0:Fn:=⟨[(false,0)],1,0,[],b75⟩
noncomputable def b76:List PS:=[.as (.n true 1) (.fn 75 [.l 0]),.re (.co (.at Ã 32) [1] Ä [.fn 74 [.k 0,.l 1,.k 1]] 2)]
def WZ:Fn:=⟨[(true,0),(false,0)],1,2,[],b76⟩
noncomputable def b77:List PS:=[.re (.cl 6 [.l 0,.l 1,.te Ë (.fn 49 [.at Ä 14]) (.c .none)])]
def WY:Fn:=⟨[(false,0),(false,1),(false,2)],3,0,[],b77⟩
noncomputable def b78:List PS:=[.as (.n true 0) (.fn 55 [.l 0]),.re (.fn 76 [.l 0,.co (.fn 77 [.l 2,.bi 0 Ã Ì,.k 0]) [1,2] (.bl 12 [.l 1]) [] 3])]
def WX:Fn:=⟨[(false,0),(false,1)],2,1,[],b78⟩
noncomputable def b79:List PS:=[.as (.n false 2) (.co (.bl 2 [.l 1]) [1] (.sl Ä none (some (.c (.int 40))) none) [] 2),.as (.n false 3) å,.if (.bo true [.l 2,.cm (.bl 4 [.ix Ë å]) [5] [.bi 5 wx (.c (.int 15))]]) [.as (.n false 3) (.bi 4 (.bi 3 (.bl 4 [.ix Ë å]) Ź) (.bi 5 wx (.c (.int 200))))] [],.as (.n false 4) ť,.fo (.n false 1) Ë [.as (.n false 4) (.bi 4 (.bi 0 (.bi 0 (.bi 2 Ă (.c (.int 48271))) (.bi 4 Ã lq)) (.c (.int 11))) lq)],.re (.li [.l 2,.l 3,.l 4,.c (.int 0)])]
def WW:Fn:=⟨[(false,0)],5,0,[],b79⟩
noncomputable def b80:List PS:=[.as (.n false 2) (.ix Ä rK),.as (.s Ä rK) (.bi 0 Ë Ì),.if (.cm (.ix Ä Ì) [4] [.c (.int 0)]) [.as (.n false 3) (.bi 4 (.ix Ä Ì) Ã),.as (.s Ä Ì) (.bi 3 (.ix Ä Ì) Ã),.re Þ] [],.as (.s Ä Ź) (.bi 4 (.bi 0 (.bi 0 (.bi 2 (.ix Ä Ź) (.c (.int 16807))) (.bi 2 Ë Ë)) rJ) lq),.if (.cm Ë [2] [.bl 0 [.ix Ä å]]) [.re (.bi 4 (.ix (.ix Ä å) Ë) Ã)] [],.re (.bi 4 (.bi 3 (.ix Ä Ź) rJ) Ã)]
def WV:Fn:=⟨[(false,0),(false,1)],4,0,[],b80⟩
noncomputable def b81:List PS:=[.re (.bl 8 [.co (.bl 3 [.l 1]) [1] Ä [] 2])]
def WU:Fn:=⟨[(false,0)],1,0,[],b81⟩
noncomputable def b82:List PS:=[.as (.n false 1) (.fn 80 [.k 0,.c (.int 6)]),.as (.n false 2) (.ix (.c (.tup [.str AA,.str AD,.str Az,.str AB,.str Ay,.str []])) Ã),.as (.n false 3) (.ix (.c (.tup [.str [116,101,97],.str wA,.str lu,.str [120]])) (.fn 80 [.k 0,.c (.int 4)])),.as (.n false 4) (.ix (.c (.tup [.str [116,101,97],.str wA,.str lu,.str [120]])) (.fn 80 [.k 0,.c (.int 4)])),.as (.n false 5) (.bi 0 (.bi 0 (.bi 0 (.bi 0 (.bi 0 (.te (.cm Ë [1] [.c (.str [])]) (.bi 0 (.bi 0 (.c (.str eT)) Ë) wy) fD) (.c (.str bL))) Þ) (.c (.str fE))) Ă) wy),.as (.n false 6) (.co Ã [1] (.c (.tup [.str rO,.str rQ,.str rN,.str [107,119]])) [.cm (.fn 80 [.k 0,.c (.int 2)]) [0] [.c (.int 1)]] 2),.as (.n false 7) (.fn 80 [.k 0,.c (.int 4)]),.as (.n false 8) (.bi 0 (.bi 2 (.c (.int 86400)) (.ix (.ix (.c (.tup [.tup [.tup [.int 1969,.int 12,.int 31],.int (-1)],.tup [.tup [.int 1994,.int 2,.int 1],.int 8797],.tup [.tup [.int 1994,.int 2,.int 2],.int 8798],.tup [.tup [.int 2000,.int 2,.int 29],.int 11016]])) dI) Ì)) (.ix (.tu [.c (.int 0),.c (.int 86399),.c (.int 40000)]) (.fn 80 [.k 0,.c (.int 3)]))),.as (.n false 9) (.bi 0 Ì (.fn 80 [.k 0,.c (.int 9)])),.as (.n false 10) (.te (.cm Ã [2] [.c (.int 4)]) (.ix (.ix (.c (.tup [.tup [.tup [.int 1969,.int 12,.int 31],.int (-1)],.tup [.tup [.int 1994,.int 2,.int 1],.int 8797],.tup [.tup [.int 1994,.int 2,.int 2],.int 8798],.tup [.tup [.int 2000,.int 2,.int 29],.int 11016]])) Ã) å) (.c .none)),.as (.n false 11) (.di [.c (.str [117,105,100]),.c (.str eS),.c (.str dK),.c (.str [100,97,121]),.c (.str aU),.c (.str Ŧ),.c (.str ğ),.c (.str ř),.c (.str ŋ)] [.l 0,.l 6,.bl 0 [.l 5],.ix (.ix (.c (.tup [.tup [.tup [.int 1969,.int 12,.int 31],.int (-1)],.tup [.tup [.int 1994,.int 2,.int 1],.int 8797],.tup [.tup [.int 1994,.int 2,.int 2],.int 8798],.tup [.tup [.int 2000,.int 2,.int 29],.int 11016]])) dI) å,.l 9,.l 10,.l 3,.l 4,.l 2]),.re (.tu [.cl 0 [.l 0,.fn 81 [.l 5],.l 6,.l 8,.l 9],.l 11])]
def WT:Fn:=⟨[(true,0),(false,0)],12,1,[],b82⟩
noncomputable def b83:List PS:=[.as (.n false 2) (.li []),.fo (.n false 3) (.bl 11 [.bi 0 Ì (.fn 80 [.l 0,.c (.int 2)])]) [.ex (.me Ë 7 [.tu [.fn 80 [.l 0,.bi 0 Ã Ź],.fn 80 [.l 0,.bi 0 Ã Ź]]])],.re (.bl 5 [.l 2])]
def WS:Fn:=⟨[(false,0),(false,1)],4,0,[],b83⟩
noncomputable def b84:List PS:=[.fo (.t [(false,3),(false,4)]) Ä [.as (.n false 5) (.bl 9 [.li [.te (.cm Þ [0] [.c (.int 0)]) Ë Þ,.te (.cm Ă [0] [.c (.int 0)]) Ë Ă]]),.if (.cm (.ix aS å) [3,3] [.l 1,.ix aS Ì]) [.re (.c (.bool true))] []],.re (.c (.bool false))]
def WR:Fn:=⟨[(false,0),(false,1),(false,2)],6,0,[],b84⟩
noncomputable def b85:List PS:=[.as (.n false 1) (.ix (.tu [.c (.str hW),.c (.str ly),.c (.str nZ),.c (.str aU),.c (.str [115,101,113]),.c (.str [117,105,100]),.c (.str jA),.c (.str [111,110]),.c (.str nY),.c (.str Hm),.c (.str [115,101,110,116,111,110]),.c (.str [115,101,110,116,115,105,110,99,101]),.c (.str cy),.c (.str aT),.c (.str ř),.c (.str [97,108,108])]) (.fn 80 [.l 0,.c (.int 16)])),.if (.cm Ã [0] [.c (.str hW)]) [.re (.tu [.l 1,.ix (.c (.tup [.str rO,.str rQ,.str rN,.str [107,119]])) (.fn 80 [.l 0,.c (.int 4)])])] [],.if (.cm Ã [8] [.tu [.c (.str ly),.c (.str nZ)]]) [.re (.tu [.l 1,.bi 0 (.c (.int 20)) (.fn 80 [.l 0,.c (.int 50)])])] [],.if (.cm Ã [0] [.c (.str aU)]) [.re (.tu [.l 1,.fn 80 [.l 0,.c (.int 10)]])] [],.if (.cm Ã [8] [.tu [.c (.str [115,101,113]),.c (.str [117,105,100])]]) [.re (.tu [.l 1,.fn 83 [.l 0,.te (.cm Ã [0] [.c (.str [115,101,113])]) rJ (.c (.int 14))]])] [],.if (.cm Ã [8] [.tu [.c (.str cy),.c (.str aT),.c (.str ř)]]) [.as (.n false 2) (.ix (.tu [.c (.bytes [84,69,65]),.c (.bytes [110,111,111,110]),.c (.bytes lu),.c (.bytes Av),.c (.bytes []),.c (.bytes Ax),.c (.bytes [101]),.c (.bytes [122,122])]) (.fn 80 [.l 0,.c (.int 8)])),.re (.te (.cm Ã [0] [.c (.str cy)]) (.tu [.l 1,.c (.str ğ),.l 2]) (.tu [.l 1,.l 2]))] [],.re (.te (.cm Ã [0] [.c (.str [97,108,108])]) (.tu [.l 1]) (.tu [.l 1,.ix (.ix (.c (.tup [.tup [.tup [.int 1969,.int 12,.int 31],.int (-1)],.tup [.tup [.int 1994,.int 2,.int 1],.int 8797],.tup [.tup [.int 1994,.int 2,.int 2],.int 8798],.tup [.tup [.int 2000,.int 2,.int 29],.int 11016]])) (.fn 80 [.l 0,.c (.int 4)])) å]))]
def WQ:Fn:=⟨[(false,0)],3,0,[],b85⟩
noncomputable def b86:List PS:=[.as (.n false 0) (.co (.fn 85 [.k 0]) [1] (.bl 11 [.c (.int 3)]) [] 2),.if (.cm (.fn 80 [.k 0,.c (.int 2)]) [0] [.c (.int 1)]) [.as (.s Ä å) (.tu [.c (.str [110,111,116]),.ix Ä å])] [],.as (.n false 1) (.fn 80 [.k 0,.c (.int 4)]),.if (.cm Ã [0] [.c (.int 0)]) [.re (.ix Ä å)] [],.if (.cm Ã [0] [.c (.int 1)]) [.re (.tu [.c (.str [97,110,100]),.ix Ä å,.ix Ä Ì])] [],.re (.te (.cm Ã [0] [.c (.int 2)]) (.tu [.c (.str [111,114]),.tu [.c (.str [97,110,100]),.ix Ä å,.ix Ä Ì],.ix Ä Ź]) (.tu [.c (.str [110,111,116]),.tu [.c (.str [111,114]),.ix Ä å,.tu [.c (.str [110,111,116]),.ix Ä Ì]]]))]
def WO:Fn:=⟨[(true,0)],2,1,[],b86⟩
noncomputable def b87:List PS:=[.if (.cm Ä [0] [.c (.str jA)]) [.re (.cm Ã [2] [.l 2])] [],.re (.te (.cm Ä [0] [.c (.str [111,110])]) (.cm Ã [0] [.l 2]) (.cm Ã [5] [.l 2]))]
def WN:Fn:=⟨[(false,0),(false,1),(false,2)],3,0,[],b87⟩
noncomputable def b88:List PS:=[.as (.n false 4) (.ix Ğ å),.if (.cm Ă [0] [.c (.str cy)]) [.re (.cm (.fn 89 [.ix Ğ Ź]) [8] [.me (.ix Ä (.c (.str ğ))) 1 []])] [],.if (.bo false [.cm Ă [0] [.c (.str ř)],.cm Ă [0] [.c (.str aT)]]) [.as (.n false 5) (.li [.me (.ix Ä (.c (.str ř))) 1 []]),.if (.cm Ă [0] [.c (.str aT)]) [.as (.n false 5) (.bi 0 (.bi 0 aS (.li [.bi 0 (.c (.str cY)) (.me (.ix Ä (.c (.str ğ))) 1 [])])) (.te (.cm (.ix Ä jy) [1] [.c (.str [])]) (.li [.bi 0 (.c (.str jz)) (.me (.ix Ä jy) 1 [])]) (.li [])))] [],.re (.cm (.bl 0 [.co Ã [1] aS [.cm (.fn 89 [.ix Ğ Ì]) [8] [.l 1]] 2]) [4] [.c (.int 0)])] [],.if (.cm (.sl Ă none (some hV) none) [0] [.c (.str Ŧ)]) [.re (.bo true [.cm (.ix Ä (.c (.str Ŧ))) [7] [.c .none],.fn 87 [.sl Ă (some hV) none none,.ix Ä (.c (.str Ŧ)),.ix Ğ Ì]])] [],.if (.cm Ă [8] [.tu [.c (.str jA),.c (.str [111,110]),.c (.str nY)]]) [.re (.fn 87 [.l 4,.ix Ä (.c (.str [100,97,121])),.ix Ğ Ì])] [],.if (.cm Ă [0] [.c (.str hW)]) [.re (.cm (.ix Ğ Ì) [8] [.ix Ä (.c (.str eS))])] [],.if (.bo false [.cm Ă [0] [.c (.str ly)],.cm Ă [0] [.c (.str nZ)]]) [.re (.te (.cm Ă [0] [.c (.str ly)]) (.cm (.ix Ä (.c (.str dK))) [4] [.ix Ğ Ì]) (.cm (.ix Ä (.c (.str dK))) [2] [.ix Ğ Ì]))] [],.if (.cm Ă [0] [.c (.str aU)]) [.re (.cm (.ix Ä (.c (.str aU))) [5] [.ix Ğ Ì])] [],.re (.te (.cm Ă [0] [.c (.str [115,101,113])]) (.fn 84 [.ix Ğ Ì,.l 1,.l 2]) (.fn 84 [.ix Ğ Ì,.ix Ä nW,.l 3]))]
def WM:Fn:=⟨[(true,0),(false,0),(false,1),(false,2),(false,3)],6,1,[],b88⟩
noncomputable def b89:List PS:=[.re (.me (.me fD 2 [.co (.bl 1 [.l 1]) [1] Ä [] 2]) 1 [])]
def WL:Fn:=⟨[(false,0)],1,0,[],b89⟩
noncomputable def b90:List PS:=[.as (.n false 1) (.ix Ä å),.if (.cm Ã [0] [.c (.str [110,111,116])]) [.re (.nt (.fn 90 [.ix Ä Ì,.k 0,.k 1,.k 2,.k 3]))] [],.if (.cm Ã [8] [.tu [.c (.str [97,110,100]),.c (.str [111,114])]]) [.as (.n false 2) (.co (.fn 90 [.l 1,.k 0,.k 1,.k 2,.k 3]) [1] (.sl Ä (some Ì) none none) [] 2),.re (.te (.cm Ã [0] [.c (.str [97,110,100])]) (.cm (.c (.bool false)) [9] [.l 2]) (.cm (.c (.bool true)) [8] [.l 2]))] [],.re (.bo false [.cm Ã [0] [.c (.str [97,108,108])],.fn 88 [.l 0,.k 0,.k 1,.k 2,.k 3]])]
def WK:Fn:=⟨[(false,0),(true,0),(true,1),(true,2),(true,3)],3,4,[],b90⟩
noncomputable def UB:List PS:=[.as (.n false 1) (.fn 79 [.l 0]),.as (.n false 2) (.li []),.as (.n true 0) (.li []),.as (.n true 1) å,.fo (.n false 3) (.bl 11 [.fn 80 [.l 1,.c (.int 5)]]) [.as (.n true 1) (.bi 0 (.bi 0 (.k 1) Ì) (.fn 80 [.l 1,.c (.int 3)])),.as (.t [(false,4),(false,5)]) (.fn 82 [.l 1,.k 1]),.ex (.me Ë 7 [.l 4]),.ex (.me Ğ 7 [.l 5])],.fo (.n false 3) (.bl 11 [.c (.int 2)]) [.as (.n true 2) (.fn 86 [.l 1]),.as (.n false 7) (.co (.bi 0 Ã Ì) [1] (.bl 11 [.bl 0 [.k 0]]) [.fn 90 [.k 2,.ix Ğ Ã,.bi 0 Ã Ì,.bl 0 [.k 0],.k 1]] 2),.if (.cm (.fn 78 [.k 2,.l 2]) [1] [.l 7]) [.re (.c (.bool false))] []],.as (.n false 8) (.co (.cl 0 [.at Ã 13,.c .none,.at Ã 15,.at Ã 16,.at Ã 17]) [1] Ë [] 2),.as (.n true 3) (.tu [.c (.str [111,114]),.tu [.c (.str hW),.c (.str [107,119])],.tu [.c (.str [117,105,100]),.tu [.tu [.c (.int 2),.c (.int 0)]]]]),.if (.cm (.fn 78 [.k 3,.l 8]) [1] [.co (.bi 0 Ã Ì) [1] (.bl 11 [.bl 0 [.k 0]]) [.fn 90 [.k 3,.ix Ğ Ã,.bi 0 Ã Ì,.bl 0 [.k 0],.k 1]] 2]) [.re (.c (.bool false))] [],.fo (.n false 6) (.bl 11 [.bl 0 [.k 0]]) [.as (.n false 9) (.fn 77 [.ix Ë ü,.bi 0 ť ü,.c (.bool false)]),.as (.n false 10) (.fn 77 [.ix Ë ü,.bi 0 ť ü,.c (.bool true)]),.if (.bo false [.cm (.at cw 47) [7] [.c .none],.cm (.tu [.at cw 32,.at (.at cw 46) 13]) [1] [.tu [.bi 0 ť ü,.ix (.ix Ğ ü) nW]],.cm (.at dJ 32) [1] [.bi 0 ť ü]]) [.re (.c (.bool false))] [],.as (.n false 11) (.bi 0 (.te (.cm (.ix (.ix Ğ ü) jy) [1] [.c (.str [])]) (.li [.c (.str ŋ)]) (.li [])) (.li [.c (.str ğ)])),.if (.bo false [.cm (.co (.me Ã 57 []) [1] (.at (.at dJ 47) 40) [] 2) [1] [.l 11],.cm (.me (.at dJ 46) 58 []) [1] [.me (.ix Ë ü) 58 []]]) [.re (.c (.bool false))] []],.re (.cm (.fn 78 [.tu [.c (.str [97,108,108])],.l 2]) [0] [.bl 10 [.c (.int 1),.bi 0 (.bl 0 [.l 2]) Ì]])]
def TR:Fn:=⟨[(false,0)],12,4,[],UB⟩
noncomputable def b92:List PS:=[.as (.a Ä 13) Ã,.as (.a Ä 14) Ë,.as (.a Ä 15) (.bl 5 [.l 3]),.as (.a Ä 16) Ă,.as (.a Ä 17) aS]
def WJ:Fn:=⟨[(false,0),(false,1),(false,2),(false,3),(false,4),(false,5)],6,0,[],b92⟩
noncomputable def b93:List PS:=[.re (.cm Ã [8] [.at Ä 15])]
def WI:Fn:=⟨[(false,0),(false,1)],2,0,[],b93⟩
noncomputable def b94:List PS:=[.re (.tu [.at Ä 13,.at Ä 14,.at Ä 15,.at Ä 16,.at Ä 17])]
def WH:Fn:=⟨[(false,0)],1,0,[],b94⟩
noncomputable def b95:List PS:=[.as (.a Ä 20) Ã,.as (.a Ä 21) Ë,.as (.a Ä 22) Þ,.as (.a Ä 23) Ă,.as (.a Ä 24) aS,.as (.a Ä 25) ü,.as (.a Ä 26) dI]
def WG:Fn:=⟨[(false,0),(false,1),(false,2),(false,3),(false,4),(false,5),(false,6),(false,7)],8,0,[],b95⟩
noncomputable def b96:List PS:=[.as (.a Ä 27) (.fn 19 [.fn 18 [.l 1]]),.as (.a Ä 10) å,.as (.a Ä 28) (.bl 0 [.l 1])]
def WE:Fn:=⟨[(false,0),(false,1)],2,0,[],b96⟩
noncomputable def b97:List PS:=[.re (.te (.cm (.at Ä 10) [2] [.bl 0 [.at Ä 27]]) (.ix (.ix (.at Ä 27) (.at Ä 10)) Ź) (.at Ä 28))]
def WD:Fn:=⟨[(false,0)],1,0,[],b97⟩
noncomputable def b98:List PS:=[.if (.bo false [.cm (.at Ä 10) [5] [.bl 0 [.at Ä 27]],.cm (.ix (.ix (.at Ä 27) (.at Ä 10)) å) [1] [.c (.str [97,116,111,109])]]) [.re fD] [],.re (.me fD 2 [.co (.bl 1 [.l 1]) [1] (.ix (.ix (.at Ä 27) (.at Ä 10)) Ì) [] 2])]
def WC:Fn:=⟨[(false,0)],1,0,[],b98⟩
noncomputable def b99:List PS:=[.if (.bo false [.cm (.at Ä 10) [5] [.bl 0 [.at Ä 27]],.cm (.sl (.ix (.at Ä 27) (.at Ä 10)) none (some Ź) none) [1] [.tu [.c (.str [115,105,103,110]),.l 1]]]) [.re (.c (.bool false))] [],.as (.a Ä 10) (.bi 0 (.at Ä 10) Ì),.re (.c (.bool true))]
def WB:Fn:=⟨[(false,0),(false,1)],2,0,[],b99⟩
noncomputable def UM:List PS:=[.as (.n false 3) (.me Ä 29 []),.if (.bo false [.nt (.fn 29 [.l 3]),.nt (.cm Ã [3,3] [.bl 0 [.l 3],.l 2])]) [.ra [.c (.str [97,32,110,117,109,98,101,114,32,105,115,32,109,105,115,115,105,110,103]),.me Ä 31 []]] [],.as (.a Ä 10) (.bi 0 (.at Ä 10) Ì),.re (.tu [.bl 2 [.l 3],.bl 0 [.l 3]])]
def Oz:Fn:=⟨[(false,0),(false,1),(false,2)],4,0,[],UM⟩
noncomputable def UL:List PS:=[.if (.nt Ã) [.ra [.l 2,.me Ä 31 []]] [],.as (.a Ä 10) (.bi 0 (.at Ä 10) Ì)]
def Oy:Fn:=⟨[(false,0),(false,1),(false,2)],3,0,[],UL⟩
noncomputable def UK:List PS:=[.as (.a Ä 33) Ã,.as (.a Ä 34) Ë]
def Ox:Fn:=⟨[(false,0),(false,1),(false,2)],3,0,[],UK⟩
noncomputable def UJ:List PS:=[.re (.fn 4 [.me fD 2 [.co (.bl 1 [.l 1]) [1] (.at Ä 33) [] 2]])]
def Ow:Fn:=⟨[(false,0)],1,0,[],UJ⟩
noncomputable def UI:List PS:=[.as (.a Ä 35) Ã,.as (.a Ä 36) Ë,.as (.a Ä 37) Þ]
def Ov:Fn:=⟨[(false,0),(false,1),(false,2),(false,3)],4,0,[],UI⟩
noncomputable def UH:List PS:=[.re (.cm (.at Ä 35) [0] [.c (.str [109,117,108,116,105,112,97,114,116])])]
def Ou:Fn:=⟨[(false,0)],1,0,[],UH⟩
noncomputable def UG:List PS:=[.re (.bo true [.cm (.at Ä 35) [0] [.c (.str [109,101,115,115,97,103,101])],.cm (.at Ä 36) [0] [.c (.str [114,102,99,56,50,50])]])]
def Ot:Fn:=⟨[(false,0)],1,0,[],UG⟩
noncomputable def UE:List PS:=[.re (.cm (.at Ä 35) [0] [.c (.str aT)])]
def Oq:Fn:=⟨[(false,0)],1,0,[],UE⟩
noncomputable def UD:List PS:=[.as (.a Ä 38) Ã,.as (.a Ä 39) Ë,.as (.a Ä 19) Þ,.as (.a Ä 40) Ă,.as (.a Ä 41) aS,.as (.a Ä 42) (.fn 46 [.l 4]),.as (.a Ä 11) (.li []),.as (.a Ä 43) (.c .none)]
def Oo:Fn:=⟨[(false,0),(false,1),(false,2),(false,3),(false,4),(false,5)],6,0,[],UD⟩
noncomputable def UC:List PS:=[.as (.a Ä 46) Ã,.as (.a Ä 32) Ë,.as (.a Ä 47) Þ]
def Om:Fn:=⟨[(false,0),(false,1),(false,2),(false,3)],4,0,[],UC⟩
def P4:List (List Fn):=[[f0,f1,f2,f3,f4,f5,f6,f7,f8,f9,X_,X9,X8,X7,X6,X5],[X4,X3,X0,XZ,XY,XX,XW,XU,XS,XR,XQ,XO,XN,XM,XK,XJ],[XI,XH,XG,XF,XD,XC,XB,XA,Xz,Xy,Xx,Xw,Xv,Xu,Xs,Xr],[Xq,Xp,Xo,Xn,Xm,Xl,Xk,Xj,Xi,Xh,Xg,Xf,Xe,Xd,Xc,Xb],[Xa,W_,W9,W8,TS,W7,W6,W5,W4,W3,W2,W0,WZ,WY,WX,WW],[WV,WU,WT,WS,WR,WQ,WO,WN,WM,WL,WK,TR,WJ,WI,WH,WG],[WE,WD,WC,WB,Oz,Oy,Ox,Ow,Ov,Ou,Ot,Oq,Oo,Om]]
def o_(T:List (List α))(j:Nat):Option α:=match ç T (j / 16)with
 |some l=>ç l (j % 16)
 |none=>none
noncomputable def eD(k:Nat):List (Nat×Nat)→Option Nat
 |[]=>none
 |p::r=>match ö p.1 k with
  |true=>some p.2
  |false=>eD k r
noncomputable def r7:List (Nat×Nat):=[(55,93),(58,94),(95,97),(93,98),(113,99),(96,100),(94,101),(186,110),(249,103),(250,111),(314,112),(309,105),(308,106),(310,107),(378,113)]
noncomputable def w_:List (Option Nat):=[some 92,some 96,some 95,some 102,some 104,some 108,some 109]
def l5(c:Nat):Option Nat:=match ç w_ c with
 |some x=>x
 |none=>none
def Ê:ċ where
 fn j:=o_ P4 j
 gy c a:=eD (c*64+a) r7
 init c:=l5 c
 open_ j:=ö j 79
 Fq c:=ö c 1
 lam:=73
inductive Gl where
 |fn (j:Nat)|cls (c:Nat)|blt (b:Nat)|con (v:V)
noncomputable def Gl.ctorIdx:Gl→Nat:=fun v=>v.casesOn (fun À=>0) (fun À=>1) (fun À=>2) (fun À=>3)
structure Cx where
 sn:List (Õ×NameKind)
 loc:List Õ
 Ó:List Õ
 xk:List (Õ×Gl)
 ŷ:List Õ
noncomputable def idx(x:Õ):List Õ→Nat→Option Nat
 |[],_=>none
 |y::r,n=>if y=x then some n else idx x r (n+1)
noncomputable def gl(x:Õ):List (Õ×Gl)→Option Gl
 |[]=>none
 |p::r=>if p.1=x then some p.2 else gl x r
noncomputable def LY:Const→Option V
 |.none=>some .none
 |.bool b=>some (.bool b)
 |.int i=>some (.int i)
 |.str s=>some (.str s.cps.toList)
 |.bytes b=>some (.bytes (b.map (·.toNat)))
 |_=>none
noncomputable def Cc:Operator→Option Nat
 |.Add=>some 0|.Sub=>some 1|.Mult=>some 2|.FloorDiv=>some 3|.Mod=>some 4|.Pow=>some 5
 |_=>none
noncomputable def tq:CmpOp→Nat
 |.Eq=>0|.NotEq=>1|.Lt=>2|.LtE=>3|.Gt=>4|.GtE=>5|.Is=>6|.IsNot=>7|.In=>8|.NotIn=>9
noncomputable def bU(x:Õ):Bool:=x==("__debug__":Õ)||x==("__classdict__":Õ)
def Mb(cx:Cx)(x:Õ):NameKind→Option (Bool×Nat)
 |.local=>(idx x cx.loc 0).map fun i=>(false,i)
 |.cell=>(idx x cx.Ó 0).map fun i=>(true,i)
 |.free=>(idx x cx.Ó 0).map fun i=>(true,i)
 |_=>none
def ė(cx:Cx)(x:Õ):Option (Bool×Nat):=if bU x then none else(cx.sn.lookup x).bind (Mb cx x)
def dz(cx:Cx)(x:Õ):Option Gl:=if bU x then none else(cx.sn.lookup x).bind fun k=>match k with
 |.globalImplicit=>gl x cx.xk
 |_=>none
def uG(cx:Cx)(sc:PySem.Scope):Bool:=sc.kind==.function&&sc.names.all fun p=>p.2 !=.cell&&(p.2 !=.local||sc.names.lookup p.1==some .local)&&(p.2 !=.free||(cx.sn.lookup p.1==some .cell&&(ė cx p.1).isSome))
noncomputable def aJ:List (Õ×NameKind)→List Õ
 |[]=>[]
 |p::r=>match p.2 with
  |.local=>p.1::aJ r
  |_=>aJ r
noncomputable def ţ:List (Õ×NameKind)→List Õ
 |[]=>[]
 |p::r=>match p.2 with
  |.cell=>p.1::ţ r
  |_=>ţ r
def mQ(cx:Cx)(sc:PySem.Scope):Cx:={cx with sn:=sc.names,loc:=aJ sc.names}
inductive Vw where
 |nm (x:Õ)|tu (es:List Expr)|li|ca (f:Expr) (as:List Expr) (ks:List Keyword)|co (c:Const)|st|se|cp|sl|Zd
noncomputable def Vw.ctorIdx:Vw→Nat:=fun v=>v.casesOn (fun À=>0) (fun À=>1) 2 (fun À À À=>3) (fun À=>4) 5 6 7 8 9
noncomputable def vw:Expr→Vw
 |.Name x _=>.nm x
 |.Tuple es _ _=>.tu es
 |.List _ _=>.li
 |.Call f as ks _=>.ca f as ks
 |.Constant c _ _=>.co c
 |.Starred _ _=>.st
 |.Set _ _ _=>.se
 |.ListComp _ _ _ _=>.cp
 |.SetComp _ _ _ _=>.cp
 |.DictComp _ _ _ _ _=>.cp
 |.Slice _ _ _ _=>.sl
 |_=>.Zd
def VwI(e:Expr):Vw→Prop
 |.nm x=>∃p,e=.Name x p
 |.tu es=>T2 fun k p=>e=.Tuple es k p
 |.ca f as ks=>∃p,e=.Call f as ks p
 |_=>True
theorem Qk(e:Expr):VwI e (vw e):=by induction e using PySem.Expr.casesOn<;>first|trivial|exact⟨_,rfl⟩|exact⟨_,_,rfl⟩
def isStar(e:Expr):Bool:=match vw e with
 |.st=>true
 |_=>false
def plain(es:List Expr):Bool:=es.all fun e=> !isStar e
noncomputable def M7:Vw→Option Õ
 |.nm x=>some x
 |_=>none
noncomputable def Qo:Vw→Option (List Expr)
 |.tu ts=>some ts
 |_=>none
noncomputable def OR:Vw→Option (Expr×List Expr×List Keyword)
 |.ca f as ks=>some (f,as,ks)
 |_=>none
def Uj:Vw→Option (List Nat)
 |.co c=>(LY c).bind qS
 |_=>none
def nameOf(e:Expr):Option Õ:=M7 (vw e)
def pO(e:Expr):Option (List Expr):=Qo (vw e)
def jq(e:Expr):Option (Expr×List Expr×List Keyword):=OR (vw e)
def Uk(e:Expr):Option (List Nat):=Uj (vw e)
theorem gF{e:Expr}{x:Õ}(h:nameOf e=some x):∃p,e=.Name x p:=by
 have q:=Qk e;unfold nameOf at h;generalize vw e=v at h q
 induction v using Vw.casesOn<;>cases h;exact q
theorem tupI{e:Expr}{x:List Expr}(h:pO e=some x):T2 fun k p=>e=.Tuple x k p:=by
 have q:=Qk e;unfold pO at h;generalize vw e=v at h q
 induction v using Vw.casesOn<;>cases h;exact q
theorem H5{e:Expr}{x:Expr×List Expr×List Keyword}(h:jq e=some x):∃p,e=.Call x.1 x.2.1 x.2.2 p:=by
 have q:=Qk e;unfold jq at h;generalize vw e=v at h q
 induction v using Vw.casesOn<;>cases h;exact q
def wM(cx:Cx)(e:Expr):Option Nat:=(nameOf e).bind fun x=>(ė cx x).bind fun p=>if p.1 then none else some p.2
def cW(cx:Cx)(e:Expr):Option (List Nat):=match pO e with
 |some es=>(q2 es).bind fun p=>(wM cx p.1).bind fun i=>(wM cx p.2).map fun j=>[i,j]
 |none=>(wM cx e).map fun i=>[i]
def da(e:Expr):Bool:=match jq e with
 |some p=>p.2.1.isEmpty&&p.2.2.isEmpty&&nameOf p.1==some ("super":Õ)
 |none=>false
def Br(e:Expr):Bool:=(pO e).isSome
def jl(t:Expr):PE→Bool
 |.bl b _=> !ö b 12||Br t
 |_=>true
def isSet(e:Expr):Bool:=match vw e with
 |.se=>true
 |_=>false
def jf(e:Expr):Bool:=match vw e with
 |.cp=>true
 |_=>false
def dW(e:Expr):Bool:=match vw e with
 |.sl=>true
 |_=>false
def Nr(k:Option Expr):Option (List Nat):=k.bind Uk
noncomputable def fW:List (Option Expr)→Option (List (List Nat))
 |[]=>some []
 |k::r=>(Nr k).bind fun x=>(fW r).map (x:: ·)
noncomputable def dR:PySem.Scope:=⟨.function,[("leaf",.local),("context",.free),("seen",.free),("leaf_holds",.globalImplicit)],false,false,[]⟩
noncomputable def mW:Nat:=1010
noncomputable def mY:Nat:=24
noncomputable def OY(a:Arg):Bool:=a.arg==("leaf":Õ)&&a.annotation.isNone
def wR(a:Arguments):Bool:=a.posonlyargs.isEmpty&&((q1 a.args).any OY&&(a.vararg.isNone&&(a.kwonlyargs.isEmpty&&(a.kw_defaults.isEmpty&&(a.kwarg.isNone&&a.defaults.isEmpty)))))
def FJ(e:Expr):Bool:=(jq e).any fun p=>nameOf p.1==some ("leaf_holds":Õ)&&(p.2.2.isEmpty&&(q3 p.2.1).any fun q=>nameOf q.1==some ("leaf":Õ)&&(nameOf q.2.1==some ("seen":Õ)&&nameOf q.2.2==some ("context":Õ)))
def fM(a:Arguments)(e:Expr):Bool:=wR a&&FJ e
def Hv(cx:Cx)(args:Arguments)(body:Expr)(sc:PySem.Scope)(pos:Pos):Bool:=
 fM args body&&(sc==dR&&(cx.sn.lookup ("seen":Õ)==some .cell&&(ė cx "seen"==some (true,0)&&(ė cx "context"==some (true,1)&&(ö pos.line mW&&ö pos.col mY)))))
noncomputable def cst:Option V→PE
 |some v=>.c v
 |none=>.no
noncomputable def HZ:Gl→Option V
 |.con v=>some v
 |_=>none
def OD(cx:Cx)(x:Õ):PE:=match ė cx x with
 |some p=>match p.1 with
  |false=>.l p.2
  |true=>.k p.2
 |none=>cst ((dz cx x).bind HZ)
noncomputable def Lo:PE→Option (List PE)
 |.bl b as=>if ö b 11 then some as else none
 |_=>none
def za(i:Bool)(b:Nat)(as ze:List PE):PE:=match ak 11 b with
 |true=>match i with
  |true=>.bl b as
  |false=>.no
 |false=>match ö b 10 with
  |true=>match(q1 ze).bind Lo with
   |some xs=>.bl 10 xs
   |none=>.no
  |false=>.bl b as
def glE(i:Bool)(as ze:List PE):Gl→PE
 |.fn j=>.fn j as
 |.cls c=>.cl c as
 |.blt b=>za i b as ze
 |.con _=>.no
def pj(i:Bool)(cx:Cx)(f:Õ)(as ze:List PE):PE:=match ė cx f with
 |some p=>match p.1 with
  |false=>.lo (.l p.2) as
  |true=>.no
 |none=>match dz cx f with
  |some G=>glE i as ze G
  |none=>.no
noncomputable def CD(o:Option (PE×Nat×Pos))(n:Nat)(pos:Pos)(as:List PE):PE:=match o with
 |some q=>match(q.2.2.endLine==pos.line)&&ď n 20 with
  |true=>.me q.1 q.2.1 as
  |false=>.no
 |none=>.no
def jS(i:Bool)(cx:Cx)(f:Expr)(o:Option (PE×Nat×Pos))(n:Nat)(pos:Pos)(as ze:List PE):PE:=match nameOf f with
 |some x=>pj i cx x as ze
 |none=>CD o n pos as
noncomputable def atE(a:Option Nat)(e:PE):PE:=match a with
 |some a=>.at e a
 |none=>.no
noncomputable def Mp(v i:PE)(s:Option (Option PE×Option PE×Option PE)):PE:=match s with
 |some q=>.sl v q.1 q.2.1 q.2.2
 |none=>.ix v i
noncomputable def Ye(a b:PE)(o:Option Nat):PE:=match o with
 |some n=>.bi n a b
 |none=>.no
noncomputable def Yx(e:PE):UnaryOp→PE
 |.Not=>.nt e
 |.USub=>.ng e
 |_=>.no
noncomputable def ct(b:Bool)(e:PE):PE:=match b with
 |true=>e
 |false=>.no
noncomputable def diE(vs:List PE)(ks:Option (List (List Nat))):PE:=match ks with
 |some ks=>.di (ks.map fun k=>.c (.str k)) vs
 |none=>.no
noncomputable def P_(n:Nat)(elt:PE)(g:Option (PE×List Nat×List PE)):PE:=match g with
 |some q=>.co elt q.2.1 q.1 q.2.2 n
 |none=>.no
mutual
noncomputable def mP(i:Bool)(cx:Cx):Expr→PE
 |.Constant c _ _=>cst (LY c)
 |.Name x _=>OD cx x
 |.Attribute e a _=>ct (!da e) (atE (idx a cx.ŷ 0) (mP false cx e))
 |.Call f as ks pos=>ct (ks.isEmpty&&plain as) (jS i cx f (K4 cx f) as.length pos (cT false cx as) (cT true cx as))
 |.Subscript v k _=>Mp (mP false cx v) (mP false cx k) (K1 cx k)
 |.BinOp a op b _=>Ye (mP false cx a) (mP false cx b) (Cc op)
 |.Compare a ops bs _=>ct (!bs.any isSet) (.cm (mP false cx a) (ops.map tq) (cT false cx bs))
 |.BoolOp op es _=>.bo (op==.And) (cT false cx es)
 |.UnaryOp op e _=>Yx (mP false cx e) op
 |.IfExp t a b _=>.te (mP false cx t) (mP false cx a) (mP false cx b)
 |.Tuple es _ _=>ct (plain es) (.tu (cT false cx es))
 |.List es _=>ct (plain es) (.li (cT false cx es))
 |.Dict ks vs _=>ct (ö ks.length vs.length&&ak ks.length 15) (diE (cT false cx vs) (fW ks))
 |.ListComp elt gens sc _=>ct (uG cx sc) (P_ (aJ sc.names).length (mP false (mQ cx sc) elt) (LX cx (mQ cx sc) gens))
 |.Lambda args body sc pos=>ct (Hv cx args body sc pos) .la
 |_=>.no
noncomputable def cT(i:Bool)(cx:Cx):List Expr→List PE
 |[]=>[]
 |e::r=>mP i cx e::cT i cx r
noncomputable def K2(cx:Cx):Option Expr→Option PE
 |none=>none
 |some e=>some (mP false cx e)
noncomputable def K4(cx:Cx):Expr→Option (PE×Nat×Pos)
 |.Attribute o a p=>if da o then none else(idx a cx.ŷ 0).map fun k=>(mP false cx o,k,p)
 |_=>none
noncomputable def K1(cx:Cx):Expr→Option (Option PE×Option PE×Option PE)
 |.Slice lo hi st _=>some (K2 cx lo,K2 cx hi,K2 cx st)
 |_=>none
noncomputable def LX(cx HY:Cx):List Comprehension→Option (PE×List Nat×List PE)
 |[]=>none
 |c::r=>if r.isEmpty then K5 cx HY c else none
noncomputable def K5(cx HY:Cx):Comprehension→Option (PE×List Nat×List PE)
 |⟨t,it,ifs,a⟩=>if gJ a 0&&(!isSet it&&jl t (mP true cx it))then(cW HY t).map fun tg=>(mP true cx it,tg,cT false HY ifs)else none
end
abbrev er:=mP false
abbrev fh:=cT false
abbrev xn:=mP true
noncomputable def Ţ(cx:Cx):List Expr→Option (List (Bool×Nat))
 |[]=>some []
 |e::r=>(nameOf e).bind fun x=>(ė cx x).bind fun p=>(Ţ cx r).map (p:: ·)
def fi(cx:Cx):Expr→Tg
 |.Name x _=>match ė cx x with
  |some p=>.n p.1 p.2
  |none=>.no
 |.Tuple ts _ _=>match Ţ cx ts with
  |some l=>.t l
  |none=>.no
 |.Attribute o a _=>match idx a cx.ŷ 0 with
  |some a=>.a (er cx o) a
  |none=>.no
 |.Subscript o i _=>.s (er cx o) (er cx i)
 |_=>.no
def isTup(e:Expr):Bool:=match vw e with
 |.tu _=>true
 |.li=>true
 |_=>false
def QA(ts es:List Expr):Bool:=(q2 ts).any fun p=>(q2 es).any fun q=>(nameOf p.1).any fun x=>(nameOf p.2).any fun y=>x !=y&&(plain es&&(!(es.all (constantsAlone 8))||es.all (foldedForSure 8)))
noncomputable def hK(b:Bool)(e:PS):PS:=match b with
 |true=>e
 |false=>.no
def QB(cx:Cx)(ts es:List Expr):PS:=match Ţ cx ts with
 |some l=>hK (QA ts es) (.sw l (fh cx es))
 |none=>.no
def Qd(cx:Cx)(t e:Expr):PS:=match pO t,pO e with
 |some ts,some es=>QB cx ts es
 |_,_=>hK (!(isStar t||(isTup t&&isTup e))) (.as (fi cx t) (er cx e))
noncomputable def OQ:Gl→Option Nat
 |.cls c=>some c
 |_=>none
def pe(cx:Cx)(e:Expr):Option Nat:=(nameOf e).bind fun x=>(dz cx x).bind OQ
def VS(cx:Cx)(e:Option Expr):PS:=match(e.bind jq).bind fun p=>(pe cx p.1).bind fun c=>if ö c 7&&(p.2.2.isEmpty&&plain p.2.1)then some p.2.1 else none with
 |some es=>.ra (fh cx es)
 |none=>.no
def RF(cx:Cx):Option Expr→PS
 |some e=>.re (er cx e)
 |none=>.no
noncomputable def YD(b:List PS)(h:Option (Nat×List PS)):PS:=match h with
 |some q=>.tr b q.1 q.2
 |none=>.no
mutual
noncomputable def OB(cx:Cx):Stmt→PS
 |.Assign ts e _=>match q1 ts with
  |some t=>Qd cx t e
  |none=>.no
 |.Expr e _=>hK (!jf e) (.ex (er cx e))
 |.If t b o _=>.if (er cx t) (bG cx b) (bG cx o)
 |.While t b o _=>hK o.isEmpty (.wh (er cx t) (bG cx b))
 |.For t it b o _=>hK (o.isEmpty&&(!isSet it&&jl t (xn cx it))) (.fo (fi cx t) (xn cx it) (bG cx b))
 |.Return e _=>RF cx e
 |.Raise e c _=>hK c.isNone (VS cx e)
 |.Try b hs o f _=>hK (o.isEmpty&&f.isEmpty) (YD (bG cx b) (OF cx hs))
 |.Pass _=>.pa
 |_=>.no
noncomputable def bG(cx:Cx):List Stmt→List PS
 |[]=>[]
 |s::r=>OB cx s::bG cx r
noncomputable def OF(cx:Cx):List ExceptHandler→Option (Nat×List PS)
 |[]=>none
 |h::r=>if r.isEmpty then T9 cx h else none
noncomputable def T9(cx:Cx):ExceptHandler→Option (Nat×List PS)
 |.ExceptHandler t n b _=>if n.isNone then(t.bind (pe cx)).map fun c=>(c,bG cx b)else none
end
noncomputable def TM:List (Õ×Gl):=[("system_flags",.fn 0),("is_keyword",.fn 1),("flag_name",.fn 2),("lower_code",.fn 3),("lower_text",.fn 4),("charset_names",.fn 5),("charset_name",.fn 6),("need_charset",.fn 7),("utf8_sign",.fn 8),("sign_at",.fn 9),("text_in",.fn 10),("strict_text",.fn 11),("guessed_text",.fn 12),("is_atom_code",.fn 13),("line_end",.fn 14),("atom_at",.fn 15),("token_at",.fn 16),("past_white",.fn 17),("tokens_of",.fn 18),("without_comments",.fn 19),("is_leap",.fn 20),("month_length",.fn 21),("days_before_year",.fn 22),("day_told",.fn 23),("is_day",.fn 24),("is_time",.fn 25),("day_of",.fn 26),("month_number",.fn 27),("is_day_name",.fn 28),("is_figures",.fn 29)]
noncomputable def TL:List (Õ×Gl):=[("zone_in",.fn 30),("named_zone",.fn 31),("full_year",.fn 32),("read_clock",.fn 33),("read_zone",.fn 34),("read_date",.fn 35),("line_at",.fn 36),("is_name",.fn 37),("colon_in",.fn 38),("read_spans",.fn 39),("read_fields",.fn 40),("rows_of",.fn 41),("unfolded",.fn 42),("first_body",.fn 43),("plain_kind",.fn 44),("read_kind",.fn 45),("encoding_of",.fn 46),("has_inner",.fn 47),("read_part",.fn 48),("read_message",.fn 49),("undone",.fn 50),("body_octets",.fn 51),("body_text",.fn 52),("row_of",.fn 53),("leaves_of",.fn 54),("needs_part",.fn 55),("decide",.fn 56),("ends_of",.fn 57),("has",.fn 58),("pieces_of",.fn 59)]
noncomputable def TK:List (Õ×Gl):=[("decoded_words",.fn 60),("is_within",.fn 61),("field_text",.fn 62),("field_line",.fn 63),("header_holds",.fn 64),("head_holds",.fn 65),("texts_hold",.fn 66),("look_holds",.fn 67),("day_holds",.fn 68),("sent_day",.fn 69),("sent_holds",.fn 70),("number_holds",.fn 71),("simple_holds",.fn 72),("leaf_holds",.fn 73),("matches",.fn 74),("context_of",.fn 75),("search_seen",.fn 76),("seen_of",.fn 77),("search",.fn 78),("_law_box",.fn 79),("_law_draw",.fn 80),("_law_octets",.fn 81),("_law_letter",.fn 82),("_law_set",.fn 83),("_law_has",.fn 84),("_law_leaf",.fn 85),("_law_tree",.fn 86),("_law_day",.fn 87),("_law_look",.fn 88),("_law_text",.fn 89)]
noncomputable def TJ:List (Õ×Gl):=[("_law_met",.fn 90),("law",.fn 91),("Letter",.cls 0),("DateReader",.cls 1),("Moment",.cls 2),("Field",.cls 3),("Kind",.cls 4),("Part",.cls 5),("Seen",.cls 6),("WordFault",.cls 7),("MimeFault",.cls 8),("len",.blt 0),("chr",.blt 1),("int",.blt 2),("ord",.blt 3),("abs",.blt 4),("tuple",.blt 5),("min",.blt 6),("max",.blt 7),("bytes",.blt 8),("sorted",.blt 9),("list",.blt 10),("range",.blt 11),("enumerate",.blt 12),("SYSTEM",.con (.str [92,83,101,101,110,32,92,65,110,115,119,101,114,101,100,32,92,70,108,97,103,103,101,100,32,92,68,101,108,101,116,101,100,32,92,68,114,97,102,116])),("NO_KEYWORD",.con (.str [40,41,123,32,37,42,34,92,93])),("MOST_KEYWORD",.con (.int 60)),("RETURN_octets",.con (.int 13)),("MOST_FIGURES",.con (.int 20)),("ASCII",.con (.str [117,115,45,97,115,99,105,105]))]
noncomputable def TH:List (Õ×Gl):=[("LATIN",.con (.str [105,115,111,45,56,56,53,57,45,49])),("UTF8",.con (.str [117,116,102,45,56])),("CHARSETS",.con (.tup [.str [117,115,45,97,115,99,105,105],.str [105,115,111,45,56,56,53,57,45,49],.str [117,116,102,45,56]])),("UNKNOWN_SIGN",.con (.str [65533])),("MOST_DEPTH_tokens",.con (.int 20)),("SIGNS_tokens",.con (.bytes [60,62,64,44,59,58,46,92])),("ATOM_SIGNS",.con (.bytes [33,35,36,37,38,39,42,43,45,47,61,63,94,95,96,123,124,125,126])),("NEVER_ESCAPED",.con (.tup [.int 0,.int 10,.int 13])),("MONTHS",.con (.tup [.str [74,97,110],.str [70,101,98],.str [77,97,114],.str [65,112,114],.str [77,97,121],.str [74,117,110],.str [74,117,108],.str [65,117,103],.str [83,101,112],.str [79,99,116],.str [78,111,118],.str [68,101,99]])),("DAYS",.con (.tup [.str [77,111,110],.str [84,117,101],.str [87,101,100],.str [84,104,117],.str [70,114,105],.str [83,97,116],.str [83,117,110]])),("MOST_YEAR",.con (.int 9999)),("DAY_SECONDS",.con (.int 86400)),("FIRST_DAY",.con (.int 719162)),("WHITE_headers",.con (.tup [.int 32,.int 9])),("SIGNS_base64",.con (.bytes [65,66,67,68,69,70,71,72,73,74,75,76,77,78,79,80,81,82,83,84,85,86,87,88,89,90,97,98,99,100,101,102,103,104,105,106,107,108,109,110,111,112,113,114,115,116,117,118,119,120,121,122,48,49,50,51,52,53,54,55,56,57,43,47])),("PAD",.con (.int 61)),("WHITE_params",.con (.tup [.int 9,.int 10,.int 13,.int 32])),("SEMICOLON",.con (.int 59)),("EQUALS_params",.con (.int 61)),("QUOTE",.con (.int 34)),("BRACKET",.con (.int 40)),("PER_CENT",.con (.int 37)),("BARRED",.con (.bytes [40,41,60,62,64,44,59,58,92,34,47,91,93,63,61])),("HEX_FIGURES",.con (.bytes [48,49,50,51,52,53,54,55,56,57,65,66,67,68,69,70])),("EQUALS_quoted",.con (.int 61)),("BLANK",.con (.int 32)),("RETURN_quoted",.con (.int 13)),("UNDERLINE",.con (.int 95)),("MOST_DEPTH_parts",.con (.int 20)),("PLAIN_ENCODING",.con (.str [55,98,105,116]))]
noncomputable def TG:List (Õ×Gl):=[("OPEN_ENCODINGS",.con (.tup [.str [55,98,105,116],.str [56,98,105,116],.str [98,105,110,97,114,121]])),("WORD_ENDS",.con (.bytes [32,9,40,59])),("BLANKS",.con (.bytes [32,9])),("WHITE_words",.con (.tup [.int 9,.int 10,.int 13,.int 32])),("OPENING",.con (.int 40)),("CLOSING",.con (.int 41)),("WAYS",.con (.tup [.str [81],.str [66]])),("MOST_DEPTH_search",.con (.int 20)),("_law_days",.con (.tup [.tup [.tup [.int 1969,.int 12,.int 31],.int (-1)],.tup [.tup [.int 1994,.int 2,.int 1],.int 8797],.tup [.tup [.int 1994,.int 2,.int 2],.int 8798],.tup [.tup [.int 2000,.int 2,.int 29],.int 11016]])),("_law_dates",.con (.tup [.str [51,49,32,68,101,99,32,49,57,54,57,32,50,51,58,48,48,32,45,48,53,48,48],.str [84,117,101,44,32,49,32,70,101,98,32,49,57,57,52,32,50,51,58,53,57,58,54,48,32,43,48,48,48,48],.str [50,32,70,101,98,32,49,57,57,52,32,48,48,58,48,48,58,48,48,32,71,77,84],.str [50,57,32,70,101,98,32,48,48,32,49,50,58,48,48,58,48,48,32,43,49,52,48,48],.str [51,48,32,70,101,98,32,49,57,57,52,32,48,48,58,48,48,32,71,77,84],.str []])),("_law_words",.con (.tup [.str [116,101,97],.str [65,116,32,110,111,111,110],.str [115,101,118,101,110],.str [120]])),("_law_flags",.con (.tup [.str [36,87,111,114,107],.str [92,65,110,115,119,101,114,101,100],.str [92,83,101,101,110],.str [107,119]]))]
def Og:List (Õ×Gl):=TM++TL++TK++TJ++TH++TG
noncomputable def UO:List Õ:=["split","lower","join","find","strip","index","get","append","pop","extend","at","kids","what","uid","octets","flags","instant","modseq","data","end","year","month","day","hour","minute","second","zone","tokens","length","atom"]
noncomputable def UN:List Õ:=["need","place","number","name","raw","top","sub","params","begin","body","fields","kind","encoding","inner","rstrip","upper","letter","part","peek","skip","is_done","take","is_letter","is_multi","is_text","has","starts","word","told"]
def ŷ:List Õ:=UO++UN
section
set_option maxRecDepth 100000
open Internal.H
structure Row where
 a:Nat
 i:Nat
 m:Option Nat
 q:Õ
 d:Value
 pm:Value
 c:Nat
structure DT where
 c:Nat
 n:Õ
 N:Nat
 k2:Value
 k3:Value
 es:List DictEntry
 e:Nat
noncomputable def rT(a i:Nat)(pm:Value)(f:Fn):Row×Fn:=(⟨a,i,none,jO (cu i),.none,pm,a - 1⟩,f)
noncomputable def rM(a i j:Nat)(c:Õ)(pm:Value)(f:Fn):Row×Fn:=(⟨a,i,some j,c++jO (iy i j),.none,pm,a - 1⟩,f)
def Ag:List (List (Row×Fn)):=[[rT 92 10 zt f0,rT 99 11 zt f1,rT 106 12 zt f2,rT 234 18 A9 f3,rT 244 20 A9 f4,rT 260 28 D0 f5,rT 267 29 D0 f6,rT 274 30 D0 f7,rT 288 32 D0 f8,rT 295 33 D0 f9,rT 302 34 D0 X_,rT 309 35 D0 X9,rT 316 36 D0 X8,rT 324 42 Ft X7,rT 331 43 Ft X6,rT 359 47 Ft X5],
[rT 366 48 Ft X4,rT 373 49 Ft X3,rT 380 50 Ft X0,rT 385 51 Ft XZ,rT 422 59 eV XY,rT 429 60 eV XX,rT 436 61 eV XW,rT 443 62 eV XU,rT 450 63 eV XS,rT 457 64 eV XR,(⟨465,65,none,jO (cu 65),.ref 458,eV,464⟩,XQ),rT 470 66 eV XO,rT 475 67 eV XN,rT 480 68 eV XM,rT 487 69 eV XK,rT 492 70 eV XJ],
[rT 553 72 eV XI,rT 560 73 eV XH,rT 567 74 eV XG,rT 574 75 eV XF,rT 615 79 qf XD,rT 622 80 qf XC,rT 629 81 qf XB,(⟨637,82,none,jO (cu 82),.ref 630,qf,636⟩,XA),(⟨643,83,none,jO (cu 83),.ref 638,qf,642⟩,Xz),rT 650 84 qf Xy,rT 657 85 qf Xx,rT 664 86 qf Xw,rT 736 103 uT Xv,rT 842 120 uT Xu,rT 914 140 gR Xs,rT 940 144 gR Xr],
[rT 945 145 gR Xq,rT 952 146 gR Xp,rT 959 147 gR Xo,rT 966 148 gR Xn,rT 973 149 gR Xm,rT 980 151 A_ Xl,rT 987 152 A_ Xk,rT 992 153 A_ Xj,rT 999 154 A_ Xi,rT 1006 156 J4 Xh,rT 1013 157 J4 Xg,rT 1060 169 J3 Xf,rT 1072 171 J3 Xe,rT 1100 175 ai Xd,rT 1107 176 ai Xc,rT 1114 177 ai Xb],
[rT 1121 178 ai Xa,rT 1128 179 ai W_,(⟨1143,181,none,jO (cu 181),.ref 1136,ai,1142⟩,W9),rT 1150 182 ai W8,rT 1157 183 ai TS,rT 1164 184 ai W7,rT 1171 185 ai W6,rT 1178 186 ai W5,rT 1185 187 ai W4,rT 1192 188 ai W3,rT 1199 189 ai W2,rT 1206 190 ai W0,rT 1211 191 ai WZ,rT 1218 192 ai WY,rT 1223 193 ai WX,rT 1240 199 gx WW],
[rT 1247 200 gx WV,rT 1252 201 gx WU,rT 1257 202 gx WT,rT 1264 203 gx WS,rT 1271 204 gx WR,rT 1278 205 gx WQ,rT 1283 206 gx WO,rT 1290 207 gx WN,rT 1295 208 gx WM,rT 1300 209 gx WL,rT 1305 210 gx WK,rT 1310 211 gx TR,rM 120 13 0 "Letter." zt WJ,rM 127 13 1 "Letter." zt WI,rM 134 13 2 "Letter." zt WH,rM 401 58 0 "Moment." eV WG],
[rM 506 71 0 "DateReader." eV WE,rM 513 71 1 "DateReader." eV WD,rM 518 71 2 "DateReader." eV WC,rM 525 71 3 "DateReader." eV WB,rM 532 71 4 "DateReader." eV Oz,rM 539 71 5 "DateReader." eV Oy,rM 589 78 0 "Field." qf Ox,rM 594 78 1 "Field." qf Ow,rM 696 102 0 "Kind." uT Ov,rM 708 102 2 "Kind." uT Ou,rM 715 102 3 "Kind." uT Ot,rM 722 102 4 "Kind." uT Oq,rM 897 139 0 "Part." gR Oo,rM 1086 174 0 "Seen." ai Om]]
noncomputable def TU:Nat→Nat
 |110=>408|111=>601|112=>701|113=>902|_=>0
def fY(j:Nat):Nat:=match o_ Ag j with
 |some p=>p.1.a
 |none=>TU j
def gm(P:Params):List DT:=[⟨0,"Letter",136,.str "Letter" 314,.str "Letter" 322,[en P "__module__" 321 zt,en P "__firstlineno__" 325 (.int 40 324),en P "__init__" 337 (.ref 120),en P "has" 345 (.ref 127),en P "told" 352 (.ref 134),en P "__static_attributes__" 358 (.ref 135),en P "__dict__" 360 (.ref 138),en P "__weakref__" 362 (.ref 139),en P "__doc__" 363 .none],4⟩,
⟨1,"DateReader",541,.str "DateReader" 891,.str "DateReader" 899,[en P "__module__" 898 eV,en P "__firstlineno__" 902 (.int 347 901),en P "__init__" 910 (.ref 506),en P "place" 917 (.ref 513),en P "atom" 923 (.ref 518),en P "skip" 931 (.ref 525),en P "number" 941 (.ref 532),en P "need" 950 (.ref 539),en P "__static_attributes__" 954 (.ref 540),en P "__dict__" 956 (.ref 543),en P "__weakref__" 958 (.ref 544),en P "__doc__" 959 .none],4⟩,
⟨2,"Moment",410,.str "Moment" 750,.str "Moment" 758,[en P "__module__" 757 eV,en P "__firstlineno__" 761 (.int 289 760),en P "__init__" 775 (.ref 401),en P "told" 782 (.ref 408),en P "__static_attributes__" 790 (.ref 409),en P "__dict__" 792 (.ref 412),en P "__weakref__" 794 (.ref 413),en P "__doc__" 795 .none],4⟩,
⟨3,"Field",603,.str "Field" 1012,.str "Field" 1020,[en P "__module__" 1019 qf,en P "__firstlineno__" 1023 (.int 420 1022),en P "__init__" 1032 (.ref 589),en P "word" 1038 (.ref 594),en P "told" 1045 (.ref 601),en P "__static_attributes__" 1048 (.ref 602),en P "__dict__" 1050 (.ref 605),en P "__weakref__" 1052 (.ref 606),en P "__doc__" 1053 .none],4⟩,
⟨4,"Kind",724,.str "Kind" 1190,.str "Kind" 1198,[en P "__module__" 1197 uT,en P "__firstlineno__" 1201 (.int 517 1200),en P "__init__" 1211 (.ref 696),en P "told" 1217 (.ref 701),en P "is_multi" 1224 (.ref 708),en P "is_letter" 1231 (.ref 715),en P "is_text" 1238 (.ref 722),en P "__static_attributes__" 1242 (.ref 723),en P "__dict__" 1244 (.ref 726),en P "__weakref__" 1246 (.ref 727),en P "__doc__" 1247 .none],4⟩,
⟨5,"Part",904,.str "Part" 1474,.str "Part" 1482,[en P "__module__" 1481 gR,en P "__firstlineno__" 1485 (.int 728 1484),en P "__init__" 1497 (.ref 897),en P "told" 1503 (.ref 902),en P "__static_attributes__" 1512 (.ref 903),en P "__dict__" 1514 (.ref 906),en P "__weakref__" 1516 (.ref 907),en P "__doc__" 1517 .none],4⟩,
⟨6,"Seen",1088,.str "Seen" 1759,.str "Seen" 1767,[en P "__module__" 1766 ai,en P "__firstlineno__" 1770 (.int 931 1769),en P "__init__" 1780 (.ref 1086),en P "__static_attributes__" 1784 (.ref 1087),en P "__dict__" 1786 (.ref 1090),en P "__weakref__" 1788 (.ref 1091),en P "__doc__" 1789 .none],4⟩]
def B7(r:Row):FuncData:=match r.m with
 |none=>df r.i r.q
 |some j=>dm r.i j r.q
def ro(r:Row):Obj:=oG (B7 r) r.d r.pm r.c
def B6(r:Row):FuncData:={B7 r with globals:=3,defaults:=r.d,pyModule:=r.pm,code:=.ref r.c}
noncomputable def L2(f:FuncData):List Stmt:=match f.body with
 |.stmts b=>b
 |_=>[]
def P8(sc:PySem.Scope):Cx:=⟨sc.names,aJ sc.names,ţ sc.names,Og,ŷ⟩
theorem Lk:Ag.flatten.map (fun p=>p.2.body)=Ag.flatten.map fun p=>bG (P8 (B7 p.1).scope) (L2 (B7 p.1)):=by kernel_rfl
theorem RD:P4=Ag.map fun c=>c.map (·.2):=by kernel_rfl
end
def qW(i:Bool)(cx:Cx)(x:Expr):PE→Prop
 |.c v=>(T3 fun c k p=>x=.Constant c k p∧LY c=some v)∨T2 fun n p=>x=.Name n p∧dz cx n=some (.con v)
 |.l j=>T2 fun n p=>x=.Name n p∧ė cx n=some (false,j)
 |.k j=>T2 fun n p=>x=.Name n p∧ė cx n=some (true,j)
 |.at e a=>T3 fun y n p=>A4 (x=.Attribute y n p) (da y=false) (idx n cx.ŷ 0=some a) (er cx y=e)
 |.fn j as=>T4 fun f np ys p=>A4 (x=.Call (.Name f np) ys [] p) (plain ys=true) (dz cx f=some (.fn j)) (fh cx ys=as)
 |.cl c as=>T4 fun f np ys p=>A4 (x=.Call (.Name f np) ys [] p) (plain ys=true) (dz cx f=some (.cls c)) (fh cx ys=as)
 |.bl b as=>T4 fun f np ys p=>A3 (x=.Call (.Name f np) ys [] p) (plain ys=true) ((A3 (dz cx f=some (.blt b)) (fh cx ys=as) (ak b 9=true∨(i=true∧ak 11 b=true)))∨(A3 (b=10) (dz cx f=some (.blt 10)) (∃y,ys=[y]∧xn cx y=.bl 11 as)))
 |.lo e as=>T5 fun f np ys p j=>A5 (x=.Call (.Name f np) ys [] p) (plain ys=true) (ė cx f=some (false,j)) (e=.l j) (fh cx ys=as)
 |.me e a as=>T5 fun y n ap ys p=>A6 (x=.Call (.Attribute y n ap) ys [] p) (plain ys=true) (da y=false) ((ap.endLine==p.line)=true) (ys.length<20) (A3 (idx n cx.ŷ 0=some a) (er cx y=e) (fh cx ys=as))
 |.ix a b=>T3 fun y z p=>A4 (x=.Subscript y z p) (dW z=false) (er cx y=a) (er cx z=b)
 |.sl a lo hi st=>T6 fun y l h s q p=>A5 (x=.Subscript y (.Slice l h s q) p) (er cx y=a) (K2 cx l=lo) (K2 cx h=hi) (K2 cx s=st)
 |.bi n a b=>T4 fun y o z p=>A4 (x=.BinOp y o z p) (Cc o=some n) (er cx y=a) (er cx z=b)
 |.cm a ops bs=>T4 fun y os zs p=>A5 (x=.Compare y os zs p) (zs.any isSet=false) (er cx y=a) (os.map tq=ops) (fh cx zs=bs)
 |.bo q es=>T3 fun o ys p=>A3 (x=.BoolOp o ys p) ((o==.And)=q) (fh cx ys=es)
 |.nt e=>T2 fun y p=>x=.UnaryOp .Not y p∧er cx y=e
 |.ng e=>T2 fun y p=>x=.UnaryOp .USub y p∧er cx y=e
 |.te t a b=>T4 fun y z u p=>A4 (x=.IfExp y z u p) (er cx y=t) (er cx z=a) (er cx u=b)
 |.tu es=>T3 fun ys k p=>A3 (x=.Tuple ys k p) (plain ys=true) (fh cx ys=es)
 |.li es=>T2 fun ys p=>A3 (x=.List ys p) (plain ys=true) (fh cx ys=es)
 |.di ks vs=>T4 fun ys zs p ns=>A6 (x=.Dict ys zs p) (ys.length=zs.length) (ys.length≤15) (fW ys=some ns) (ks=ns.map (fun k=>.c (.str k))) (fh cx zs=vs)
 |.co elt tg it ifs n=>T6 fun y t z us sc p=>A6 (x=.ListComp y [⟨t,z,us,0⟩] sc p) (uG cx sc=true) (isSet z=false) (jl t (xn cx z)=true) (cW (mQ cx sc) t=some tg) (A4 (er (mQ cx sc) y=elt) (xn cx z=it) (fh (mQ cx sc) us=ifs) (n=(aJ sc.names).length))
 |.la=>T4 fun a b sc p=>x=.Lambda a b sc p∧Hv cx a b sc p=true
 |.no=>True
theorem ju{M:PE→Prop}(h0:M .no){b:Bool}{e:PE}(h:b=true→M e):M (ct b e):=by
 induction b using ñ with
 |true=>exact h rfl
 |false=>exact h0
theorem nn{b:Bool}(h:(!b)=true):b=false:=by induction b using ñ<;>first|rfl|exact à h
theorem emp{α:Type}{l:List α}(h:l.isEmpty=true):l=[]:=by induction l using Ŭ<;>first|rfl|exact à h
theorem SY{e:PE}{as:List PE}(h:Lo e=some as):e=.bl 11 as:=by
 induction e using PE.casesOn<;>first|(exact nS h;done)|skip
 (have h1:=cz h;have h2:=cq h)
 (replace h2:=ë h2;subst h2)
 rw[ġ h1]
theorem Cb{i:Bool}{cx:Cx}{l:List Expr}{e:PE}(h:cT i cx l=[e]):∃y,l=[y]∧mP i cx y=e:=by
 induction l using Ŭ with
 |nil=>cases h
 |cons y r=>induction r using Ŭ with
  |nil=>exact⟨y,rfl,(List.cons.inj h).1⟩
  |cons z r=>cases h
theorem JY{b:Nat}(h:ak 11 b=false)(h':ö b 10=false):ak b 9=true:=by
 refine wZ ?_;have h1:¬11≤b:=fun q=>by rw[wZ q]at h;exact Ĕ h
 have h2:b≠10:=fun q=>by subst q;exact Ĕ h'
 omega
theorem CB(i:Bool)(cx:Cx)(f:Õ)(np:Pos)(ys:List Expr)(p:Pos)(hp:plain ys=true):qW i cx (.Call (.Name f np) ys [] p) (pj i cx f (fh cx ys) (cT true cx ys)):=by
 unfold pj
 induction h1:ė cx f using š with
 |some q=>
  obtain⟨k,j⟩:=q
  induction k using ñ with
  |false=>exact⟨f,np,ys,p,j,rfl,hp,h1,rfl,rfl⟩
  |true=>trivial
 |none=>
  induction h2:dz cx f using š with
  |none=>trivial
  |some G=>
   induction G using Gl.casesOn with
   |fn j=>exact⟨f,np,ys,p,rfl,hp,h2,rfl⟩
   |cls c=>exact⟨f,np,ys,p,rfl,hp,h2,rfl⟩
   |con v=>trivial
   |blt b=>
    show qW i cx _ (za i b (fh cx ys) (cT true cx ys));unfold za
    induction h3:ak 11 b using ñ with
    |true=>
     induction i using ñ with
     |true=>exact⟨f,np,ys,p,rfl,hp,.inl ⟨h2,rfl,.inr ⟨rfl,h3⟩⟩⟩
     |false=>trivial
    |false=>
     induction h4:ö b 10 using ñ with
     |true=>
      dsimp only
      induction h5:(q1 (cT true cx ys)).bind Lo using š with
      |none=>trivial
      |some xs=>
       refine ï h5 fun e h6 h7=>?_;obtain⟨y,h8,h9⟩:=Cb (i1 h6);obtain rfl:=ġ h4;exact⟨f,np,ys,p,rfl,hp,.inr ⟨rfl,h2,y,h8,h9.trans (SY h7)⟩⟩
     |false=>exact⟨f,np,ys,p,rfl,hp,.inl ⟨h2,rfl,.inl (JY h3 h4)⟩⟩
theorem CA(i:Bool)(cx:Cx)(f:Expr)(ys:List Expr)(p:Pos)(hp:plain ys=true):qW i cx (.Call f ys [] p) (jS i cx f (K4 cx f) ys.length p (fh cx ys) (cT true cx ys)):=by
 unfold jS
 induction h1:nameOf f using š with
 |some x=>obtain⟨np,rfl⟩:=gF h1;exact CB i cx x np ys p hp
 |none=>
  show qW i cx _ (CD _ _ _ _);unfold CD
  induction h2:K4 cx f using š with
  |none=>trivial
  |some q=>
   dsimp only
   induction h3:(q.2.2.endLine==p.line)&&ď ys.length 20 using ñ with
   |false=>trivial
   |true=>
    (have h4:=aD h3;have h5:=aC h3)
    induction f using PySem.Expr.casesOn with
    |Attribute y n ap=>
     have h2:(if da y then none else(idx n cx.ŷ 0).map fun k=>(er cx y,k,ap))=some q:=h2
     induction h6:da y using ñ with
     |true=>rw[h6]at h2;exact nS h2
     |false=>
      rw[h6]at h2
      (refine cK h2 fun k h7 zq=>?_;obtain rfl:=zq)
      exact⟨y,n,ap,ys,p,rfl,hp,h6,h4,bR.mp h5,h7,rfl,rfl⟩
    |_=>exact nS h2
theorem erV(i:Bool)(cx:Cx)(x:Expr):qW i cx x (mP i cx x):=by
 induction x using PySem.Expr.casesOn with
 |Constant c k p=>
  show qW i cx _ (cst (LY c))
  induction h:LY c using š with
  |none=>trivial
  |some v=>exact .inl ⟨c,k,p,rfl,h⟩
 |Name n p=>
  show qW i cx _ (OD cx n);unfold OD
  induction h:ė cx n using š with
  |some q=>
   obtain⟨k,j⟩:=q
   induction k using ñ with
   |false=>exact⟨n,p,rfl,h⟩
   |true=>exact⟨n,p,rfl,h⟩
  |none=>
   dsimp only
   induction h2:(dz cx n).bind HZ using š with
   |none=>trivial
   |some v=>
    refine ï h2 fun G h3 h4=>?_
    induction G using Gl.casesOn<;>cases h4
    exact .inr ⟨n,p,rfl,h3⟩
 |Attribute e a p=>
  refine ju (M:=qW i cx _) trivial fun h=>?_
  induction h2:idx a cx.ŷ 0 using š with
  |none=>trivial
  |some k=>exact⟨e,a,p,rfl,nn h,h2,rfl⟩
 |Call f as ks p=>
  refine ju (M:=qW i cx _) trivial fun h=>?_
  (have h1:=aD h;have h2:=aC h)
  obtain rfl:=emp h1;exact CA i cx f as p h2
 |Subscript v k p=>
  show qW i cx _ (Mp (er cx v) (er cx k) (K1 cx k))
  induction h:dW k using ñ with
  |false=>
   have:K1 cx k=none:=by induction k using PySem.Expr.casesOn<;>first|rfl|exact Ĕ h
   rw[this];exact⟨v,k,p,rfl,h,rfl,rfl⟩
  |true=>
   induction k using PySem.Expr.casesOn<;>first|(exact à h;done)|skip
   exact⟨v,_,_,_,_,p,rfl,rfl,rfl,rfl,rfl⟩
 |BinOp a o b p=>
  show qW i cx _ (Ye (er cx a) (er cx b) (Cc o))
  induction h:Cc o using š with
  |none=>trivial
  |some n=>exact⟨a,o,b,p,rfl,h,rfl,rfl⟩
 |Compare a ops bs p=>
  refine ju (M:=qW i cx _) trivial fun h=>?_;exact⟨a,ops,bs,p,rfl,nn h,rfl,rfl,rfl⟩
 |BoolOp o es p=>exact⟨o,es,p,rfl,rfl,rfl⟩
 |UnaryOp o e p=>
  induction o using PySem.UnaryOp.casesOn with
  |Not=>exact⟨e,p,rfl,rfl⟩
  |USub=>exact⟨e,p,rfl,rfl⟩
  |_=>trivial
 |IfExp t a b p=>exact⟨t,a,b,p,rfl,rfl,rfl,rfl⟩
 |Tuple es k p=>exact ju (M:=qW i cx _) trivial fun h=>⟨es,k,p,rfl,h,rfl⟩
 |List es p=>exact ju (M:=qW i cx _) trivial fun h=>⟨es,p,rfl,h,rfl⟩
 |Dict ks vs p=>
  refine ju (M:=qW i cx _) trivial fun h=>?_
  (have h1:=aD h;have h2:=aC h)
  induction h3:fW ks using š with
  |none=>trivial
  |some ns=>exact⟨ks,vs,p,ns,rfl,ġ h1,dU h2,h3,rfl,rfl⟩
 |ListComp elt gens sc p=>
  refine ju (M:=qW i cx _) trivial fun h=>?_;show qW i cx _ (P_ _ _ (LX cx (mQ cx sc) gens))
  induction h2:LX cx (mQ cx sc) gens using š with
  |none=>trivial
  |some q=>
   induction gens using Ŭ with
   |nil=>exact nS h2
   |cons c r=>
    (have h3:=cz (x:=K5 cx (mQ cx sc) c) h2;have h2:=cq (x:=K5 cx (mQ cx sc) c) h2)
    obtain rfl:=emp h3;obtain⟨t,it,ifs,a⟩:=c
    (have h4:=cz (x:=(cW (mQ cx sc) t).map fun tg=>(xn cx it,tg,fh (mQ cx sc) ifs)) h2;have h2:=cq (x:=(cW (mQ cx sc) t).map fun tg=>(xn cx it,tg,fh (mQ cx sc) ifs)) h2)
    (have h5:=aC h4;have h4:=aD h4)
    (have h6:=aC h5;have h5:=aD h5)
    (refine cK h2 fun tg h7 zq=>?_;obtain rfl:=zq)
    obtain rfl:a=0:=of_decide_eq_true h4;exact⟨elt,t,it,ifs,sc,p,rfl,h,nn h5,h6,h7,rfl,rfl,rfl,rfl⟩
 |Lambda a b sc p=>exact ju (M:=qW i cx _) trivial fun h=>⟨a,b,sc,p,rfl,h⟩
 |_=>trivial
def Px(cx:Cx)(x:Expr):Tg→Prop
 |.n k i=>T2 fun n p=>x=.Name n p∧ė cx n=some (k,i)
 |.t l=>T3 fun ts k p=>x=.Tuple ts k p∧Ţ cx ts=some l
 |.a e a=>T3 fun o n p=>A3 (x=.Attribute o n p) (idx n cx.ŷ 0=some a) (er cx o=e)
 |.s a b=>T3 fun o i p=>A3 (x=.Subscript o i p) (er cx o=a) (er cx i=b)
 |.no=>True
theorem erT(cx:Cx)(x:Expr):Px cx x (fi cx x):=by
 induction x using PySem.Expr.casesOn with
 |Name n p=>
  show Px cx _ (match ė cx n with|some p=>.n p.1 p.2|none=>.no)
  induction h:ė cx n using š with
  |none=>trivial
  |some q=>exact⟨n,p,rfl,h⟩
 |Tuple ts k p=>
  show Px cx _ (match Ţ cx ts with|some l=>.t l|none=>.no)
  induction h:Ţ cx ts using š with
  |none=>trivial
  |some q=>exact⟨ts,k,p,rfl,h⟩
 |Attribute o a p=>
  show Px cx _ (match idx a cx.ŷ 0 with|some a=>.a (er cx o) a|none=>.no)
  induction h:idx a cx.ŷ 0 using š with
  |none=>trivial
  |some q=>exact⟨o,a,p,rfl,h,rfl⟩
 |Subscript o i p=>exact⟨o,i,p,rfl,rfl,rfl⟩
 |_=>trivial
def jt(cx:Cx)(x:Stmt):PS→Prop
 |.as t e=>T3 fun y z p=>A5 (x=.Assign [y] z p) (isStar y=false) (isTup y=false∨isTup z=false) (fi cx y=t) (er cx z=e)
 |.ex e=>T2 fun y p=>A3 (x=.Expr y p) (jf y=false) (er cx y=e)
 |.if t b o=>T4 fun y c d p=>A4 (x=.If y c d p) (er cx y=t) (bG cx c=b) (bG cx d=o)
 |.wh t b=>T3 fun y c p=>A3 (x=.While y c [] p) (er cx y=t) (bG cx c=b)
 |.fo t it b=>T4 fun y z c p=>A6 (x=.For y z c [] p) (isSet z=false) (jl y (xn cx z)=true) (fi cx y=t) (xn cx z=it) (bG cx c=b)
 |.re e=>T2 fun y p=>x=.Return (some y) p∧er cx y=e
 |.ra es=>T5 fun f np ys q p=>A4 (x=.Raise (some (.Call (.Name f np) ys [] q)) none p) (plain ys=true) (dz cx f=some (.cls 7)) (fh cx ys=es)
 |.tr b c h=>T6 fun y z np k ep p=>A4 (x=.Try y [.ExceptHandler (some (.Name z np)) none k ep] [] [] p) (dz cx z=some (.cls c)) (bG cx y=b) (bG cx k=h)
 |.pa=>∃p,x=.Pass p
 |.sw l es=>∃y py z pz m mp a b n np p,A6 (x=.Assign [.Tuple [.Name y py,.Name z pz] m mp] (.Tuple [a,b] n np) p) (y≠z) (plain [a,b]=true) ((!([a,b].all (constantsAlone 8))||[a,b].all (foldedForSure 8))=true) (Ţ cx [.Name y py,.Name z pz]=some l) (fh cx [a,b]=es)
 |.no=>True
theorem gN{M:PS→Prop}(h0:M .no){b:Bool}{e:PS}(h:b=true→M e):M (hK b e):=by
 induction b using ñ with
 |true=>exact h rfl
 |false=>exact h0
theorem anyI{α:Type}{o:Option α}{f:α→Bool}(h:o.any f=true):∃x,o=some x∧f x=true:=by
 induction o using š with
 |none=>exact à h
 |some x=>exact⟨x,rfl,h⟩
theorem I9{cx:Cx}{ts es:List Expr}{m n:Nat}{mp np p:Pos}:jt cx (.Assign [.Tuple ts m mp] (.Tuple es n np) p) (QB cx ts es):=by
 unfold QB
 induction h:Ţ cx ts using š with
 |none=>trivial
 |some l=>
  refine gN (M:=jt cx _) trivial fun h2=>?_;obtain⟨q,h3,h2⟩:=anyI h2;obtain⟨r,h4,h2⟩:=anyI h2;obtain⟨y,h5,h2⟩:=anyI h2;obtain⟨z,h6,h2⟩:=anyI h2
  (have dY:=aD h2;have h7:=aC h2)
  (have h8:=aC h7;have h7:=aD h7)
  obtain rfl:=i2 h4;have h3:=i2 h3;obtain⟨py,e1⟩:=gF h5;obtain⟨pz,e2⟩:=gF h6;rw[e1,e2]at h3;subst h3;exact⟨y,py,z,pz,m,mp,_,_,n,np,p,rfl,bne_iff_ne.mp dY,h7,h8,h,rfl⟩
theorem Lq{cx:Cx}{t e:Expr}{p:Pos}:jt cx (.Assign [t] e p) (Qd cx t e):=by
 have gen:jt cx (.Assign [t] e p) (hK (!(isStar t||(isTup t&&isTup e))) (.as (fi cx t) (er cx e))):=by
  refine gN (M:=jt cx _) trivial fun h=>?_;obtain⟨h1,h2⟩:=wY.mp (nn h);exact⟨t,e,p,rfl,h1,Bool.and_eq_false_iff.mp h2,rfl,rfl⟩
 unfold Qd
 induction h1:pO t using š with
 |none=>exact gen
 |some ts=>
  induction h2:pO e using š with
  |none=>exact gen
  |some es=>
   obtain⟨m,mp,rfl⟩:=tupI h1;obtain⟨n,np,rfl⟩:=tupI h2;exact I9
theorem Cy{cx:Cx}{e:Expr}{c:Nat}(h:pe cx e=some c):T2 fun n p=>e=.Name n p∧dz cx n=some (.cls c):=by
 refine ï h fun n h1 h=>?_;refine ï h fun G h2 h=>?_;obtain⟨p,rfl⟩:=gF h1
 induction G using Gl.casesOn<;>cases h
 exact⟨n,p,rfl,h2⟩
theorem T8(cx:Cx)(x:Stmt):jt cx x (OB cx x):=by
 induction x using PySem.Stmt.casesOn with
 |Assign ts e p=>
  show jt cx _ (match q1 ts with|some t=>Qd cx t e|none=>.no)
  induction h:q1 ts using š with
  |none=>trivial
  |some t=>obtain rfl:=i1 h;exact Lq
 |Expr e p=>exact gN (M:=jt cx _) trivial fun h=>⟨e,p,rfl,nn h,rfl⟩
 |If t b o p=>exact⟨t,b,o,p,rfl,rfl,rfl,rfl⟩
 |While t b o p=>exact gN (M:=jt cx _) trivial fun h=>by obtain rfl:=emp h;exact⟨t,b,p,rfl,rfl,rfl⟩
 |For t it b o p=>
  refine gN (M:=jt cx _) trivial fun h=>?_
  (have h1:=aD h;have h2:=aC h)
  (have h3:=aC h2;have h2:=aD h2)
  obtain rfl:=emp h1;exact⟨t,it,b,p,rfl,nn h2,h3,rfl,rfl,rfl⟩
 |Return e p=>induction e using š with
  |none=>trivial
  |some e=>exact⟨e,p,rfl,rfl⟩
 |Raise e c p=>
  refine gN (M:=jt cx _) trivial fun h=>?_
  induction c using š with
  |some=>exact à h
  |none=>
  unfold VS
  induction h1:(e.bind jq).bind fun p=>(pe cx p.1).bind fun c=>if ö c 7&&(p.2.2.isEmpty&&plain p.2.1)then some p.2.1 else none using š with
  |none=>trivial
  |some es=>
   refine ï h1 fun q h2 h1=>?_;refine ï h1 fun c h3 h1=>?_
   (have h4:=cz h1;have h1:=cq h1)
   (have h5:=aC h4;have h4:=aD h4)
   (have h6:=aC h5;have h5:=aD h5)
   refine ï h2 fun y h7 h8=>?_
   (replace h1:=ë h1;subst h1)
   obtain rfl:=h7;obtain⟨cp,rfl⟩:=H5 h8;obtain⟨n,np,e1,h9⟩:=Cy h3;obtain rfl:=ġ h4;rw[e1,emp h5];exact⟨n,np,_,cp,p,rfl,h6,h9,rfl⟩
 |Try b hs o f p=>
  refine gN (M:=jt cx _) trivial fun h=>?_
  (have h1:=aD h;have h2:=aC h)
  obtain rfl:=emp h1;obtain rfl:=emp h2
  induction h3:OF cx hs using š with
  |none=>trivial
  |some q=>
   induction hs using Ŭ with
   |nil=>exact nS h3
   |cons k r=>
    (have h4:=cz (x:=T9 cx k) h3;have h3:=cq (x:=T9 cx k) h3)
    obtain rfl:=emp h4;obtain⟨t,n,k,ep⟩:=k
    (have h5:=cz (x:=(t.bind (pe cx)).map fun c=>(c,bG cx k)) h3;have h3:=cq (x:=(t.bind (pe cx)).map fun c=>(c,bG cx k)) h3)
    (refine cK h3 fun c h6 zq=>?_;obtain rfl:=zq)
    refine ï h6 fun e h7 h6=>?_
    induction n using š with
    |some=>exact à h5
    |none=>
    obtain rfl:=h7;obtain⟨z,np,rfl,h8⟩:=Cy h6;exact⟨b,z,np,k,ep,p,rfl,h8,rfl,rfl⟩
 |Pass p=>exact⟨p,rfl⟩
 |_=>trivial
theorem jk{cx:Cx}{xs:List Stmt}{X:PS}{Y:List PS}(h:bG cx xs=X::Y):T2 fun x r=>A3 (xs=x::r) (OB cx x=X) (bG cx r=Y):=by
 induction xs using Ŭ with
 |nil=>exact nN h
 |cons x r=>
  obtain⟨h1,h2⟩:=List.cons.inj h;exact⟨x,r,rfl,h1,h2⟩
theorem aa{i:Bool}{cx:Cx}{xs:List Expr}{X:PE}{Y:List PE}(h:cT i cx xs=X::Y):T2 fun x r=>A3 (xs=x::r) (mP i cx x=X) (cT i cx r=Y):=by
 induction xs using Ŭ with
 |nil=>exact nN h
 |cons x r=>
  obtain⟨h1,h2⟩:=List.cons.inj h;exact⟨x,r,rfl,h1,h2⟩
theorem gk{i:Bool}{cx:Cx}{xs:List Expr}(h:cT i cx xs=[]):xs=[]:=by
 induction xs using Ŭ with
 |nil=>rfl
 |cons x r=>exact nC h
theorem tn{cx:Cx}{xs:List Stmt}(h:bG cx xs=[]):xs=[]:=by
 induction xs using Ŭ with
 |nil=>rfl
 |cons x r=>exact nC h
abbrev FH:=Addr→Option Obj
def aQ(k k':FH):Prop:=∀a o,k a=some o→k' a=some o
theorem aQ.refl(k:FH):aQ k k:=fun À À e=>e
theorem aQ.trans{a b c:FH}(x:aQ a b)(y:aQ b c):aQ a c:=fun À À e=>y _ _ (x _ _ e)
noncomputable def fk:Nat→Addr
 |0=>137|1=>542|2=>411|3=>604|4=>725|5=>905|6=>1089|7=>59|8=>71|_=>0
def mz(T:String)(vs:List Value)(o:Obj):Prop:=∃n,o={cls:=.type T,data:=.seq vs.toArray n}
def xP(es:List DictEntry)(o:Obj):Prop:=∃n,o={cls:=.type "dict",data:=.dict es.toArray n}
def He(es:List DictEntry)(o:Obj):Prop:=∃n,o.data=.dict es.toArray n
def DN(c:Nat)(a dx:Addr)(o:Obj):Prop:=A4 (o.cls=.ref (fk c)) (o.dict=some dx) (∀k,o.data≠.cls k) (dx≠a)
structure Sta where
 hash:Õ→Int
 ŷ:List Õ
 LM:FuncData→Addr→Addr→Addr→Prop
 OC:Obj→Prop
structure mH(ŷ:List Õ)(l:List (Nat×V))(es:List DictEntry):Prop where
 keys:StrKeys es.toArray
 uniq:UniqKeys es.toArray
 only:∀s v,nsFind es.toArray s=some v→T2 fun x d=>(x,d)∈l∧ç ŷ x=some s
 nd:(l.map (·.1)).Nodup
inductive Ir(A:Value→Prop)(B:List Value→Prop)(vs:List Value):Prop
 |mk (v:Value) (r:List Value) (e:vs=v::r) (h1:A v) (h2:B r)
inductive Pg(l:List Nat)(v:Value):Prop
 |mk (b:Array UInt8) (t:Tok) (e:v=.bytes b t) (h:b.toList.map (·.toNat)=l)
inductive RDc(n:Int)(x:List Nat)(A:Value→Prop)(B:List DictEntry→Prop)(es:List DictEntry):Prop
 |mk (t:Tok) (v:Value) (r:List DictEntry) (e:es=⟨n,.str ⟨⟨x⟩⟩ t,v⟩::r) (h1:A v) (h2:B r)
inductive RAc(ŷ:List Õ)(x:Nat)(A:Value→Prop)(N:Prop)(es:List DictEntry):Prop
 |mk (s:Õ) (v:Value) (h1:ç ŷ x=some s) (h2:nsFind es.toArray s=some v) (h3:A v) (n:N)
inductive qU(T:String)(k:FH)(M:List Value→Prop)(v:Value):Prop
 |mk (a:Addr) (o:Obj) (vs:List Value) (e:v=.ref a) (h:k a=some o) (q:mz T vs o) (r:M vs)
inductive Pf(k:FH)(N:Prop)(M:List DictEntry→Prop)(v:Value):Prop
 |mk (a:Addr) (o:Obj) (es:List DictEntry) (e:v=.ref a) (h:k a=some o) (q:xP es o) (n:N) (r:M es)
inductive Pe(c:Nat)(k:FH)(N M:List DictEntry→Prop)(v:Value):Prop
 |mk (a:Addr) (o:Obj) (dx:Addr) (od:Obj) (es:List DictEntry) (e:v=.ref a) (h:k a=some o) (q:DN c a dx o) (h':k dx=some od) (q':He es od) (n:N es) (r:M es)
inductive Vo(Y:Sta)(k:FH)(M:List Value→Prop)(v:Value):Prop
 |mk (a:Addr) (o:Obj) (fd:FuncData) (c c₁ c₂:Addr) (oc ň aG:Obj) (cO cN:Value) (e:v=.ref a) (h:k a=some o) (q:o.data=.func fd) (h1:Y.LM fd c c₁ c₂) (h2:k c=some oc) (h3:Y.OC oc)
   (h4:k c₁=some ň) (h5:ň.data=.cell (some cO)) (h6:k c₂=some aG) (h7:aG.data=.cell (some cN)) (r:M [cO,cN])
section
variable(Y:Sta)
mutual
noncomputable def Rep(k:FH):V→Value→Prop
 |.none,v=>v=.none
 |.bool b,v=>v=.bool b
 |.int i,v=>∃t,v=.int i t
 |.str l,v=>∃t,v=.str ⟨⟨l⟩⟩ t
 |.bytes l,v=>Pg l v
 |.tup l,v=>qU "tuple" k (Ý k l) v
 |.lst l,v=>qU "list" k (Ý k l) v
 |.aY l,v=>Pf k ((l.map (·.1)).Nodup) (gZ k l) v
 |.ins c l,v=>Pe c k (mH Y.ŷ l) (iJ k l) v
 |.Ó _,_=>False
 |.g_ l,v=>Vo Y k (Ý k l) v
noncomputable def Ý(k:FH):List V→List Value→Prop
 |[],vs=>vs=[]
 |d::l,vs=>Ir (Rep k d) (Ý k l) vs
noncomputable def gZ(k:FH):List (List Nat×V)→List DictEntry→Prop
 |[],es=>es=[]
 |(x,d)::l,es=>RDc (Y.hash ⟨⟨x⟩⟩) x (Rep k d) (gZ k l) es
noncomputable def iJ(k:FH):List (Nat×V)→List DictEntry→Prop
 |[],_=>True
 |(x,d)::l,es=>RAc Y.ŷ x (Rep k d) (iJ k l es) es
end
end
set_option genInjectivity true in
inductive Role where
 |free|Ô (o:Obj)|kept (o:Obj)|tab|cell (i:Nat)|cV (i:Nat)|loc|var (i:Nat)|held (o:Obj)
noncomputable def Role.ctorIdx:Role→Nat:=fun v=>v.casesOn 0 (fun À=>1) (fun À=>2) 3 (fun À=>4) (fun À=>5) 6 (fun À=>7) (fun À=>8)
structure Gh where
 r:Addr→Role
 as:List Addr
 L:Addr
 cs:List Addr
noncomputable def Gh.k(g:Gh):FH:=fun a=>match g.r a with
 |.Ô o=>some o
 |_=>none
theorem Gh.Ś{g:Gh}{a o}(e:g.r a=.Ô o):g.k a=some o:=by unfold Gh.k;rw[e]
theorem Gh.aO{g:Gh}{a o}(e:g.k a=some o):g.r a=.Ô o:=by
 unfold Gh.k at e
 split at e
 ·rename_i h;rw[h];injection e with e;rw[e]
 ·exact nS e
noncomputable def Gh.set(g:Gh)(n:Addr)(x:Role):Gh:={g with r:=fun a=>if a=n then x else g.r a}
theorem Gh.ÿ(g:Gh)(n x):(g.set n x).r n=x:=if_pos rfl
theorem Gh.ù(g:Gh){n a}(x)(h:a≠n):(g.set n x).r a=g.r a:=if_neg h
structure ę extends Sta where
 zB:List (Õ×Gl)
 sh:Shared
 tab:Addr
 qk:Addr
 lO:Õ
 mW:Nat
 mY:Nat
section
variable(Z:ę)
def Ć(g:Gh):V→Value→Prop
 |.Ó i,x=>∃a,ç g.as i=some a∧x=.ref a
 |v,x=>Rep Z.toSta g.k v x
noncomputable def ł(g:Gh):List V→List Value→Prop
 |[],xs=>xs=[]
 |v::r,xs=>Ir (Ć Z g v) (ł g r) xs
inductive VG(g:Gh)(h:Heap)(i:Nat)(a:Addr)(M:List Value→Prop):Prop
 |mk (r:g.r a=.cell i) (o:Obj) (vs:List Value) (e:h.get? a=some o) (q:mz "list" vs o) (m:M vs)
inductive VI(g:Gh)(h:Heap)(i:Nat)(a:Addr)(N:Prop)(M:List DictEntry→Prop):Prop
 |mk (r:g.r a=.cell i) (o:Obj) (es:List DictEntry) (e:h.get? a=some o) (q:xP es o) (n:N) (m:M es)
inductive VH(g:Gh)(h:Heap)(i:Nat)(a:Addr)(c:Nat)(N M:List DictEntry→Prop):Prop
 |mk (r:g.r a=.cell i) (o:Obj) (dx:Addr) (od:Obj) (es:List DictEntry) (e:h.get? a=some o) (q:DN c a dx o) (r':g.r dx=.cV i) (e':h.get? dx=some od) (q':He es od) (n:N es) (m:M es)
def dC(g:Gh)(h:Heap)(i:Nat)(a:Addr):Cell→Prop
 |.lst l=>VG g h i a (Ý Z.toSta g.k l)
 |.aY l=>VI g h i a ((l.map (·.1)).Nodup) (gZ Z.toSta g.k l)
 |.ins c l=>VH g h i a c (mH Z.toSta.ŷ l) (iJ Z.toSta g.k l)
 |.Ô v=>Rep Z.toSta g.k v (.ref a)
def Pb(k:FH)(h:Heap):Prop:=∃ps,h.get? Z.tab=some {cls:=.none,data:=.fields ps}∧(ps= #[]∨T2 fun c oc=>A3 (ps= #[rawInt Z.mW,rawInt Z.mY,.ref c]) (k c=some oc) (Z.OC oc))
structure Base(g:Gh)(s:Shared)(H:List Cell):Prop where
 u_:T2 fun h t=>s={Z.sh with heap:=h,toks:=t}
 old:OldK Z.sh.heap s.heap
 top:∀a o,Z.sh.heap.get? a=some o→a≠Z.tab→g.r a=.Ô o
 tab:g.r Z.tab=.tab∧Pb Z g.k s.heap
 Ô:∀a o,g.r a=.Ô o→s.heap.get? a=some o
 kept:∀a o,g.r a=.kept o→∃sl,s.heap.get? a=some {o with slots:=sl}
 held:∀a o,g.r a=.held o→s.heap.get? a=some o
 alive:∀a,g.r a≠.free→∃o,s.heap.get? a=some o
 len:g.as.length=H.length
 cells:∀i c,ç H i=some c→∃a,ç g.as i=some a∧dC Z g s.heap i a c
inductive LB(cx:Cx)(g:Gh)(h:Heap)(ρ:List (Option V)):Prop
 |mk (m:Õ→Option Value) (n:h.Ns g.L m) (q:∀x i v,idx x cx.loc 0=some i→ç ρ i=some (some v)→∃w,m x=some w∧Ć Z g v w)
inductive O9(g:Gh)(h:Heap)(i:Nat)(ov:Option V):Prop
 |mk (c:Addr) (w:Option Value) (h1:ç g.cs i=some c) (h2:g.r c=.var i) (h3:h.IsCell c w) (h4:∀v,ov=some v→∃x,w=some x∧Ć Z g v x)
structure LH(cx:Cx)(g:Gh)(s:Shared)(ρ κ:List (Option V)):Prop where
 loc:g.r g.L=.loc
 locs:LB Z cx g s.heap ρ
 vars:∀i ov,ç κ i=some ov→O9 Z g s.heap i ov
structure Inv(cx:Cx)(g:Gh)(s:Shared)(st:St):Prop where
 base:Base Z g s st.H
 gK:LH Z cx g s st.ρ st.κ
end
theorem Base.fresh{Z:ę}{g:Gh}{s:Shared}{H:List Cell}(B:Base Z g s H)(a:Addr)(h:s.heap.objs.size≤a):g.r a=.free:=
 Classical.byContradiction fun n=>by
  obtain⟨o,e⟩:=B.alive a n;exact sH _ (ip (eY e) h)
structure Gst(g g':Gh):Prop where
 k:aQ g.k g'.k
 kept:∀a o,g.r a=.kept o→g'.r a=.kept o
 held:∀a o,g.r a=.held o→g'.r a=.held o
 as:∃l,g'.as=g.as++l
 L:g'.L=g.L
 cs:g'.cs=g.cs
 loc:∀a,g.r a=.loc→g'.r a=.loc
theorem Gst.refl(g:Gh):Gst g g:=⟨.refl _,fun À À e=>e,fun À À e=>e,⟨[],(Ŵ _).symm⟩,rfl,rfl,fun À e=>e⟩
theorem Gst.trans{a b c:Gh}(x:Gst a b)(y:Gst b c):Gst a c:=by
 refine⟨x.k.trans y.k,fun p o e=>y.kept p o (x.kept p o e),fun p o e=>y.held p o (x.held p o e),?_,y.L.trans x.L,y.cs.trans x.cs,fun p e=>y.loc p (x.loc p e)⟩
 ·obtain⟨l,hl⟩:=x.as;obtain⟨m,hm⟩:=y.as;exact⟨l++m,by rw[hm,hl,Ĝ]⟩
theorem ag{α:Type}{l m:List α}{i:Nat}{x:α}(h:ç l i=some x):ç (l++m) i=some x:=by
 induction l generalizing i with
 |nil=>exact nS h
 |cons a r ih=>induction i using mK with
  |zero=>exact h
  |succ i=>exact ih h
section
variable{Y:Sta}{k k':FH}
mutual
theorem Rep.mono(e:aQ k k'):∀{v x},Rep Y k v x→Rep Y k' v x
 |.none,_,h=>h
 |.bool _,_,h=>h
 |.int _,_,h=>h
 |.str _,_,h=>h
 |.bytes _,_,h=>h
 |.tup _,_,h=>by obtain⟨a,o,vs,h1,h2,h3,h4⟩:=h;exact⟨a,o,vs,h1,e _ _ h2,h3,Ý.mono e h4⟩
 |.lst _,_,h=>by obtain⟨a,o,vs,h1,h2,h3,h4⟩:=h;exact⟨a,o,vs,h1,e _ _ h2,h3,Ý.mono e h4⟩
 |.aY _,_,h=>by obtain⟨a,o,vs,h1,h2,h3,n,h4⟩:=h;exact⟨a,o,vs,h1,e _ _ h2,h3,n,gZ.mono e h4⟩
 |.ins _ _,_,h=>by obtain⟨a,o,dx,od,es,h1,h2,h3,h4,h5,n,h6⟩:=h;exact⟨a,o,dx,od,es,h1,e _ _ h2,h3,e _ _ h4,h5,n,iJ.mono e h6⟩
 |.Ó _,_,h=>h
 |.g_ _,_,h=>by
  obtain⟨a,o,fd,c,c₁,c₂,oc,ň,aG,cO,cN,h1,h2,h3,h4,h5,h6,h7,h8,h9,Gf,TC⟩:=h;exact⟨a,o,fd,c,c₁,c₂,oc,ň,aG,cO,cN,h1,e _ _ h2,h3,h4,e _ _ h5,h6,e _ _ h7,h8,e _ _ h9,Gf,Ý.mono e TC⟩
theorem Ý.mono(e:aQ k k'):∀{l vs},Ý Y k l vs→Ý Y k' l vs
 |[],_,h=>h
 |_::_,_,h=>let ⟨v,r,h1,h2,h3⟩:=h;⟨v,r,h1,Rep.mono e h2,Ý.mono e h3⟩
theorem gZ.mono(e:aQ k k'):∀{l vs},gZ Y k l vs→gZ Y k' l vs
 |[],_,h=>h
 |(_,_)::_,_,h=>by obtain⟨t,v,r,h1,h2,h3⟩:=h;exact⟨t,v,r,h1,Rep.mono e h2,gZ.mono e h3⟩
theorem iJ.mono(e:aQ k k'):∀{l vs},iJ Y k l vs→iJ Y k' l vs
 |[],_,_=>trivial
 |(_,_)::_,_,h=>by obtain⟨s,v,h1,h2,h3,h4⟩:=h;exact⟨s,v,h1,h2,Rep.mono e h3,iJ.mono e h4⟩
end
end
section
variable{Z:ę}{g g':Gh}
theorem Ć.mono(e:Gst g g'){v x}(h:Ć Z g v x):Ć Z g' v x:=by
 induction v using V.casesOn with
 |Ó i=>
  obtain⟨a,h1,h2⟩:=h;obtain⟨l,hl⟩:=e.as;exact⟨a,by rw[hl];exact ag h1,h2⟩
 |_=>exact Rep.mono e.k h
theorem ł.mono(e:Gst g g'):∀{vs xs},ł Z g vs xs→ł Z g' vs xs
 |[],_,h=>h
 |_::_,_,h=>by obtain⟨x,t,h1,h2,h3⟩:=h;exact⟨x,t,h1,h2.mono e,ł.mono e h3⟩
end
section
theorem OldK.young{h₀ h h':Heap}(K:OldK h₀ h)(hk:∀b o',h₀.get? b=some o'→∀o,h.get? b=some o→h'.get? b=some o):OldK h₀ h':=by
 refine⟨fun b o e=>?_,fun b o e=>let ⟨o',sX⟩:=K.there b o e;⟨o',hk b _ e _ sX⟩⟩;rcases K.old b o e with x|⟨t,hc,vs,more,hv,x⟩|⟨rfl,hc,⟨o',es,n,sX,r⟩,z⟩
 ·exact .inl (hk _ _ e _ x)
 ·exact .inr (.inl ⟨t,hc,vs,more,hv,hk _ _ e _ x⟩)
 ·exact .inr (.inr ⟨rfl,hc,⟨o',es,n,hk _ _ e _ sX,r⟩,fun key=>by rw[OldK.staticOf_congr ((hk _ _ e _ sX).trans sX.symm) key];exact z key⟩)
variable{Z:ę}{g g':Gh}{s:Shared}{H H':List Cell}
theorem dC.to{h h':Heap}{i:Nat}{a:Addr}{c:Cell}(e:aQ g.k g'.k)(r1:∀b,g.r b=.cell i→g'.r b=.cell i)(r2:∀b,g.r b=.cV i→g'.r b=.cV i)
  (hk:∀b o,(g.r b=.cell i∨g.r b=.cV i)→h.get? b=some o→h'.get? b=some o)(x:dC Z g h i a c):dC Z g' h' i a c:=by
 induction c using Cell.casesOn with
 |lst l=>obtain⟨h1,o,vs,h2,h3,h4⟩:=x;exact⟨r1 _ h1,o,vs,hk _ _ (.inl h1) h2,h3,h4.mono e⟩
 |aY l=>obtain⟨h1,o,vs,h2,h3,n,h4⟩:=x;exact⟨r1 _ h1,o,vs,hk _ _ (.inl h1) h2,h3,n,h4.mono e⟩
 |ins c l=>obtain⟨h1,o,dx,od,es,h2,h3,h4,h5,h6,n,h7⟩:=x;exact⟨r1 _ h1,o,dx,od,es,hk _ _ (.inl h1) h2,h3,r2 _ h4,hk _ _ (.inr h4) h5,h6,n,h7.mono e⟩
 |Ô v=>exact Rep.mono e x
theorem Base.gen(B:Base Z g s H)(D:Addr→Prop){h':Heap}{t:Nat}
  (hD:∀a,D a→(∀o,g.r a≠.Ô o)∧g.r a≠.tab)
  (hs:∀b o,¬D b→s.heap.get? b=some o→h'.get? b=some o)
  (hr:∀b,¬D b→g'.r b=g.r b)
  (hn:∀a,D a→A4 (∀o,g'.r a=.Ô o→h'.get? a=some o) (∀o,g'.r a=.kept o→∃sl,h'.get? a=some {o with slots:=sl}) (∀o,g'.r a=.held o→h'.get? a=some o) (g'.r a≠.free→∃o,h'.get? a=some o))
  (hlen:g'.as.length=H'.length)(has:∀i a,ç g.as i=some a→ç g'.as i=some a)
  (hc:∀i c,ç H' i=some c→(ç H i=some c∧∀b,D b→g.r b≠.cell i∧g.r b≠.cV i)∨∃a,ç g'.as i=some a∧dC Z g' h' i a c):
  Base Z g' {s with heap:=h',toks:=t} H':=by
 have hk:aQ g.k g'.k:=fun a o e=>by
  have e:=Gh.aO e;have nd:¬D a:=fun d=>(hD a d).1 o e
  exact Gh.Ś ((hr a nd).trans e)
 obtain⟨bA,ò,hl⟩:=B.u_;have JW:¬D Z.tab:=fun d=>(hD _ d).2 B.tab.1
 have Sp:∀b o,Z.sh.heap.get? b=some o→¬D b:=fun b o e d=>by
  by_cases q:b=Z.tab
  ·subst q;exact JW d
  ·exact(hD b d).1 o (B.top b o e q)
 refine⟨⟨h',t,by rw[hl]⟩,OldK.young B.old fun b o' e' o e=>hs b o (Sp b o' e') e,fun a o e ne=>?_,?_,fun a o e=>?_,fun a o e=>?_,fun a o e=>?_,fun a l=>?_,hlen,fun i c e=>?_⟩
 ·have q:=B.top a o e ne;exact(hr a fun d=>(hD a d).1 o q).trans q
 ·obtain⟨vs,hv,hc⟩:=B.tab.2;exact⟨(hr _ JW).trans B.tab.1,vs,hs _ _ JW hv,hc.imp (fun e=>e) fun ⟨c,oc,e1,e2,e3⟩=>⟨c,oc,e1,hk _ _ e2,e3⟩⟩
 ·by_cases d:D a
  ·exact(hn a d).1 o e
  ·exact hs a o d (B.Ô a o ((hr a d).symm.trans e))
 ·by_cases d:D a
  ·obtain⟨_,q,_⟩:=hn a d;exact q o e
  ·obtain⟨sl,q⟩:=B.kept a o ((hr a d).symm.trans e);exact⟨sl,hs a _ d q⟩
 ·by_cases d:D a
  ·obtain⟨_,_,q,_⟩:=hn a d;exact q o e
  ·exact hs a o d (B.held a o ((hr a d).symm.trans e))
 ·by_cases d:D a
  ·obtain⟨_,_,_,q⟩:=hn a d;exact q l
  ·obtain⟨o,q⟩:=B.alive a (hr a d▸l);exact⟨o,hs a o d q⟩
 ·rcases hc i c e with⟨q,nd⟩|q
  ·obtain⟨a,ha,x⟩:=B.cells i c q;refine⟨a,has i a ha,x.to hk (fun b e=>?_) (fun b e=>?_) fun b o e q=>?_⟩
   ·exact(hr b fun d=>(nd b d).1 e).trans e
   ·exact(hr b fun d=>(nd b d).2 e).trans e
   ·exact hs b o (fun d=>e.elim (nd b d).1 (nd b d).2) q
  ·exact q
theorem Base.other(B:Base Z g s H){a:Addr}{h':Heap}(t:Nat)(hr:g.r a=.free∨g.r a=.loc∨∃i,g.r a=.var i)(hs:Heap.SameBut a s.heap h')(N5:g.r a=.free∨∃o,h'.get? a=some o):
  Base Z g {s with heap:=h',toks:=t} H:=by
 refine B.gen (· =a) ?_ (fun b o nd e=>(hs.2 b nd).trans e) (fun À À=>rfl) ?_ B.len (fun À À e=>e) fun i c e=>.inl ⟨e,?_⟩
 ·rintro _ rfl;rcases hr with e|e|⟨i,e⟩<;>rw[e]<;>simp
 ·rintro _ rfl
  refine⟨fun o e=>?_,fun o e=>?_,fun o e=>?_,fun e=>?_⟩
  ·rcases hr with q|q|⟨i,q⟩<;>rw[q]at e<;>exact neT Role.ctorIdx e rfl
  ·rcases hr with q|q|⟨i,q⟩<;>rw[q]at e<;>exact neT Role.ctorIdx e rfl
  ·rcases hr with q|q|⟨i,q⟩<;>rw[q]at e<;>exact neT Role.ctorIdx e rfl
  ·exact N5.resolve_left e
 ·rintro _ rfl;rcases hr with e|e|⟨i,e⟩<;>rw[e]<;>simp
theorem Base.toks(B:Base Z g s H)(t:Nat):Base Z g {s with toks:=t} H:=
 B.gen (h':=s.heap) (fun À=>False) (fun À d=>d.elim) (fun À À À e=>e) (fun À À=>rfl) (fun À d=>d.elim) B.len (fun À À e=>e) fun À À e=>.inl ⟨e,fun À d=>d.elim⟩
theorem Base.push(B:Base Z g s H)(o:Obj)(t:Nat)(x:Role)(hf:o.isFreed=false)(hx:x=.free∨x=.Ô o∨x=.kept o∨x=.held o∨x=.loc∨∃i,x=.var i):
  Base Z (g.set s.heap.objs.size x) {s with heap:=s.heap.push o,toks:=t} H:=by
 have jN:g.r s.heap.objs.size=.free:=B.fresh _ (Ĭ _);refine B.gen (· =s.heap.objs.size) ?_ (fun b o' À e=>ŏ o e) (fun b nd=>g.ù x nd) ?_ B.len (fun À À e=>e) fun i c e=>.inl ⟨e,?_⟩
 ·rintro _ rfl;rw[jN];simp
 ·rintro _ rfl
  rw[g.ÿ];have q:=fO s.heap hf;refine⟨fun o' e=>?_,fun o' e=>?_,fun o' e=>?_,fun À=>⟨_,fO s.heap hf⟩⟩
  ·rcases hx with y|y|y|y|y|⟨i,y⟩<;>rw[y]at e<;>cases e
   exact q
  ·rcases hx with y|y|y|y|y|⟨i,y⟩<;>rw[y]at e<;>cases e
   exact⟨_,q⟩
  ·rcases hx with y|y|y|y|y|⟨i,y⟩<;>rw[y]at e<;>cases e
   exact q
 ·rintro _ rfl;rw[jN];simp
noncomputable def Gh.snoc(g:Gh)(n:Addr):Gh:={g with as:=g.as++[n]}
theorem qa{α:Type}{l:List α}{i:Nat}{x:α}(h:ç l i=some x):i<l.length:=by
 induction l generalizing i x with
 |nil=>
  exact nS h
 |cons y r IH=>
  exact match i,h with
  |0,_=>ī _
  |i+1,h=>Nat.succ_lt_succ (IH h)
theorem eB{α:Type}(l:List α)(x:α):ç (l++[x]) l.length=some x:=by
 induction l generalizing x with
 |nil=>
  exact rfl
 |cons _ r IH=>
  exact IH x
theorem fH{α:Type}{x:α}{l:List α}{i:Nat}{y:α}(h:ç (l++[x]) i=some y):ç l i=some y∨(i=l.length∧y=x):=by
 induction l generalizing i y with
 |nil=>
  exact match i,h with
  |0,h=>.inr ⟨rfl,(ë h).symm⟩
  |i+1,h=>by exact nS h
 |cons a r IH=>
  exact match i,h with
  |0,h=>.inl h
  |i+1,h=>(IH h).imp (fun x=>x) fun x=>⟨congrArg (· +1) x.1,x.2⟩
theorem kq{α:Type}{y:α}{l:List α}{i:Nat}{j:Nat}{x:α}(h:ç (put l i y) j=some x):(j=i∧x=y)∨(j≠i∧ç l j=some x):=by
 induction l generalizing i j x with
 |nil=>
  exact nS h
 |cons a r IH=>
  exact match i,j,h with
  |0,0,h=>.inl ⟨rfl,(ë h).symm⟩
  |0,j+1,h=>.inr ⟨Nat.succ_ne_zero j,h⟩
  |i+1,0,h=>.inr ⟨(Nat.succ_ne_zero i).symm,h⟩
  |i+1,j+1,h=>(IH h).imp (fun x=>⟨congrArg (· +1) x.1,x.2⟩) fun x=>⟨fun e=>x.1 (Nat.succ.inj e),x.2⟩
theorem ez{α:Type}(l:List α)(i:Nat)(x:α):(put l i x).length=l.length:=by
 induction l generalizing i x with
 |nil=>
  exact rfl
 |cons a r IH=>
  exact match i with
  |0=>rfl
  |i+1=>congrArg (· +1) (IH i x)
theorem Gst.set(g:Gh){n:Addr}{x:Role}(h:g.r n=.free):Gst g (g.set n x):=by
 have ne:∀{a y},g.r a=y→y≠.free→a≠n:=fun e k q=>k (e.symm.trans (q▸h))
 refine⟨fun a o e=>?_,fun a o e=>?_,fun a o e=>?_,⟨[],(Ŵ _).symm⟩,rfl,rfl,fun a e=>?_⟩
 ·have e:=Gh.aO e;exact Gh.Ś ((g.ù x (ne e (by simp))).trans e)
 ·exact(g.ù x (ne e (by simp))).trans e
 ·exact(g.ù x (ne e (by simp))).trans e
 ·exact(g.ù x (ne e (by simp))).trans e
theorem Gst.snoc(g:Gh)(n:Addr):Gst g (g.snoc n):=⟨.refl _,fun À À e=>e,fun À À e=>e,⟨[n],rfl⟩,rfl,rfl,fun À e=>e⟩
theorem Base.Fm(B:Base Z g s H)(o:Obj)(t:Nat)(c:Cell)(hf:o.isFreed=false)
  (hc:((g.set s.heap.objs.size (.cell H.length)).snoc s.heap.objs.size).r s.heap.objs.size=.cell H.length→(s.heap.push o).get? s.heap.objs.size=some o→
   dC Z ((g.set s.heap.objs.size (.cell H.length)).snoc s.heap.objs.size) (s.heap.push o) H.length s.heap.objs.size c):
  Base Z ((g.set s.heap.objs.size (.cell H.length)).snoc s.heap.objs.size) {s with heap:=s.heap.push o,toks:=t} (H++[c]):=by
 have jN:g.r s.heap.objs.size=.free:=B.fresh _ (Ĭ _);refine B.gen (· =s.heap.objs.size) ?_ (fun b o' À e=>ŏ o e) (fun b nd=>g.ù _ nd) ?_ (by simp[Gh.snoc,Gh.set,B.len]) (fun À À e=>ag e) fun i c' e=>?_
 ·rintro _ rfl;rw[jN];simp
 ·rintro _ rfl
  have q:((g.set s.heap.objs.size (.cell H.length)).snoc s.heap.objs.size).r s.heap.objs.size=.cell H.length:=g.ÿ _ _;refine⟨fun o' e=>?_,fun o' e=>?_,fun o' e=>?_,fun À=>⟨_,fO s.heap hf⟩⟩
  ·rw[q]at e;exact neT Role.ctorIdx e rfl
  ·rw[q]at e;exact neT Role.ctorIdx e rfl
  ·rw[q]at e;exact neT Role.ctorIdx e rfl
 ·rcases fH e with e|⟨rfl,rfl⟩
  ·exact .inl ⟨e,by rintro _ rfl;rw[jN];simp⟩
  ·refine .inr ⟨s.heap.objs.size,?_,hc (g.ÿ _ _) (fO s.heap hf)⟩;show ç (g.as++[_]) _=_;rw[←B.len];exact eB _ _
theorem Base.cZ(B:Base Z g s H){i:Nat}{a:Addr}{c c':Cell}{h':Heap}(t:Nat)(D:Addr→Prop)(hi:ç H i=some c)(ha:ç g.as i=some a)
  (hD:∀b,D b→g.r b=.cell i∨g.r b=.cV i)(hs:∀b o,¬D b→s.heap.get? b=some o→h'.get? b=some o)(N5:∀b,D b→∃o,h'.get? b=some o)
  (hc:dC Z g h' i a c'):Base Z g {s with heap:=h',toks:=t} (put H i c'):=by
 refine B.gen D (fun b d=>?_) hs (fun À À=>rfl) (fun b d=>?_) (by rw[ez];exact B.len) (fun À À e=>e) fun j cj e=>?_
 ·rcases hD b d with e|e<;>rw[e]<;>simp
 ·refine⟨fun o e=>?_,fun o e=>?_,fun o e=>?_,fun e=>?_⟩
  ·rcases hD b d with q|q<;>rw[q]at e<;>exact neT Role.ctorIdx e rfl
  ·rcases hD b d with q|q<;>rw[q]at e<;>exact neT Role.ctorIdx e rfl
  ·rcases hD b d with q|q<;>rw[q]at e<;>exact neT Role.ctorIdx e rfl
  ·exact N5 b d
 ·rcases kq e with⟨rfl,rfl⟩|⟨ne,e⟩
  ·exact .inr ⟨a,ha,hc⟩
  ·refine .inl ⟨e,fun b d=>?_⟩;rcases hD b d with q|q<;>rw[q]<;>simp[Ne.symm ne]
end
section
variable{Z:ę}{g g':Gh}{s s':Shared}{H H':List Cell}{cx:Cx}{ρ κ:List (Option V)}
def ŝ(Y:Sta)(h:Heap)(k:FH):V→Value→Prop
 |.tup l,v=>qU "tuple" h.get? (Ý Y k l) v
 |.lst l,v=>qU "list" h.get? (Ý Y k l) v
 |.aY l,v=>Pf h.get? ((l.map (·.1)).Nodup) (gZ Y k l) v
 |.ins c l,v=>Pe c h.get? (mH Y.ŷ l) (iJ Y k l) v
 |w,v=>Rep Y k w v
theorem Base.sub(B:Base Z g s H){a o}(e:g.k a=some o):s.heap.get? a=some o:=B.Ô a o (Gh.aO e)
theorem Rep.sU(B:Base Z g s H){v x}(h:Rep Z.toSta g.k v x):ŝ Z.toSta s.heap g.k v x:=by
 induction v using V.casesOn with
 |tup l=>obtain⟨a,o,vs,h1,h2,h3,h4⟩:=h;exact⟨a,o,vs,h1,B.sub h2,h3,h4⟩
 |lst l=>obtain⟨a,o,vs,h1,h2,h3,h4⟩:=h;exact⟨a,o,vs,h1,B.sub h2,h3,h4⟩
 |aY l=>obtain⟨a,o,vs,h1,h2,h3,h4,h5⟩:=h;exact⟨a,o,vs,h1,B.sub h2,h3,h4,h5⟩
 |ins c l=>obtain⟨a,o,dx,od,es,h1,h2,h3,h4,h5,h6,h7⟩:=h;exact⟨a,o,dx,od,es,h1,B.sub h2,h3,B.sub h4,h5,h6,h7⟩
 |_=>exact h
theorem Base.cell(B:Base Z g s H){i:Nat}{c:Cell}{x:Value}(h:Ć Z g (.Ó i) x)(q:ç H i=some c):∃a,A3 (x=.ref a) (ç g.as i=some a) (dC Z g s.heap i a c):=by
 obtain⟨a,h1,h2⟩:=h;obtain⟨a',h3,h4⟩:=B.cells _ _ q;rw[h1]at h3;(replace h3:=ë h3;subst h3);exact⟨a,h2,h1,h4⟩
theorem xR(B:Base Z g s H){v w x}(h:Ć Z g v x)(e:view H v=some w):ŝ Z.toSta s.heap g.k w x:=by
 induction v using V.casesOn with
 |Ó i=>
  (refine cK e fun c q zq=>?_;obtain rfl:=zq)
  obtain⟨a,rfl,h1,h3⟩:=B.cell h q
  induction c using Cell.casesOn with
  |lst l=>obtain⟨r,o,vs,q1,q2,q3⟩:=h3;exact⟨a,o,vs,rfl,q1,q2,q3⟩
  |aY l=>obtain⟨r,o,vs,q1,q2,q3,q4⟩:=h3;exact⟨a,o,vs,rfl,q1,q2,q3,q4⟩
  |ins c l=>obtain⟨r,o,dx,od,es,q1,q2,q3,q4,q5,q6,q7⟩:=h3;exact⟨a,o,dx,od,es,rfl,q1,q2,q4,q5,q6,q7⟩
  |Ô v=>exact Rep.sU B h3
 |_=>(replace e:=ë e;subst e);exact Rep.sU B h
theorem Gst.i5(g:Gh){n:Addr}{o:Obj}{i:Nat}(h:g.r n=.cell i∨g.r n=.cV i):Gst g (g.set n (.Ô o)):=by
 have ne:∀{a y},g.r a=y→y≠.cell i→y≠.cV i→a≠n:=fun e k k2 q=>h.elim (fun h=>k (e.symm.trans (q▸h))) fun h=>k2 (e.symm.trans (q▸h))
 refine⟨fun a o e=>?_,fun a o e=>?_,fun a o e=>?_,⟨[],(Ŵ _).symm⟩,rfl,rfl,fun a e=>?_⟩
 ·have e:=Gh.aO e;exact Gh.Ś ((g.ù _ (ne e (by simp) (by simp))).trans e)
 ·exact(g.ù _ (ne e (by simp) (by simp))).trans e
 ·exact(g.ù _ (ne e (by simp) (by simp))).trans e
 ·exact(g.ù _ (ne e (by simp) (by simp))).trans e
structure Ę(g g':Gh):Prop extends Gst g g' where
 var:∀a i,g.r a=.var i→g'.r a=.var i
theorem Ę.refl(g:Gh):Ę g g:=⟨.refl g,fun À À e=>e⟩
theorem Ę.trans{a b c:Gh}(x:Ę a b)(y:Ę b c):Ę a c:=⟨x.toGst.trans y.toGst,fun p i e=>y.var p i (x.var p i e)⟩
theorem Ę.i5(g:Gh){n:Addr}{o:Obj}{i:Nat}(h:g.r n=.cell i∨g.r n=.cV i):Ę g (g.set n (.Ô o)):=
 ⟨.i5 g h,fun a j e=>(g.ù _ fun q=>by subst q;rw[e]at h;rcases h with h|h<;>exact neT Role.ctorIdx h rfl).trans e⟩
theorem Ę.set(g:Gh){n:Addr}{x:Role}(h:g.r n=.free):Ę g (g.set n x):=
 ⟨.set g h,fun a j e=>(g.ù _ fun q=>by subst q;rw[e]at h;exact neT Role.ctorIdx h rfl).trans e⟩
theorem Ę.snoc(g:Gh)(n:Addr):Ę g (g.snoc n):=⟨.snoc g n,fun À À e=>e⟩
theorem Base.qD(B:Base Z g s H){i:Nat}{a:Addr}{c:Cell}{v:V}(D:List (Addr×Obj))(hi:ç H i=some c)(ha:ç g.as i=some a)(g':Gh)(has:g'.as=g.as)
  (hD:∀p∈D,A3 (g.r p.1=.cell i∨g.r p.1=.cV i) (s.heap.get? p.1=some p.2) (g'.r p.1=.Ô p.2))(hr:∀b,(∀p∈D,b≠p.1)→g'.r b=g.r b)
  (hc:Rep Z.toSta g'.k v (.ref a)):Base Z g' s (put H i (.Ô v)):=by
 have:=B.gen (g':=g') (h':=s.heap) (t:=s.toks) (H':=put H i (.Ô v)) (fun b=>∃p∈D,b=p.1) ?_ (fun À À À e=>e) (fun b nd=>hr b fun p hp e=>nd ⟨p,hp,e⟩) ?_
  (by rw[ez,has];exact B.len) (fun À À e=>by rw[has];exact e) ?_
 ·exact this
 ·rintro _ ⟨p,hp,rfl⟩
  have:=(hD p hp).1;rcases this with e|e<;>rw[e]<;>simp
 ·rintro _ ⟨p,hp,rfl⟩
  obtain⟨_,q1,q2⟩:=hD p hp;rw[q2];refine⟨fun o e=>?_,fun o e=>?_,fun o e=>?_,fun À=>⟨_,q1⟩⟩
  ·injection e with e;rw[←e];exact q1
  ·exact neT Role.ctorIdx e rfl
  ·exact neT Role.ctorIdx e rfl
 ·intro j cj e;rcases kq e with⟨rfl,rfl⟩|⟨ne,e⟩
  ·exact .inr ⟨a,has▸ha,hc⟩
  ·refine .inl ⟨e,?_⟩
   rintro _ ⟨p,hp,rfl⟩
   rcases(hD p hp).1 with q|q<;>rw[q]<;>simp[Ne.symm ne]
theorem Base.bF(B:Base Z g s H){v v' x}(e:Internal.Ô H v=some (H',v'))(h:Ć Z g v x){C:Prop}(hq:∀g',Ę g g'→Base Z g' s H'→Rep Z.toSta g'.k v' x→C):C:=by
 induction v using V.casesOn with
 |Ó i=>
  refine cK e fun c q e=>?_;obtain⟨a,rfl,h1,h3⟩:=B.cell h q
  induction c using Cell.casesOn with
  |lst l=>
   cases e;obtain⟨r,o,vs,q1,q2,q3⟩:=h3;have S:=Ę.i5 g (o:=o) (.inl r);have R:Rep Z.toSta (g.set a (.Ô o)).k (.lst l) (.ref a):=⟨a,o,vs,rfl,Gh.Ś (g.ÿ ..),q2,q3.mono S.k⟩;exact hq _ S (B.qD [(a,o)] q h1 _ rfl (fun p hp=>by obtain rfl:=Ė.mp hp;exact⟨.inl r,q1,g.ÿ ..⟩) (fun b hb=>g.ù _ (hb _ (.head _))) R) R
  |aY l=>
   cases e;obtain⟨r,o,vs,q1,q2,q3,q4⟩:=h3;have S:=Ę.i5 g (o:=o) (.inl r);have R:Rep Z.toSta (g.set a (.Ô o)).k (.aY l) (.ref a):=⟨a,o,vs,rfl,Gh.Ś (g.ÿ ..),q2,q3,q4.mono S.k⟩;exact hq _ S (B.qD [(a,o)] q h1 _ rfl (fun p hp=>by obtain rfl:=Ė.mp hp;exact⟨.inl r,q1,g.ÿ ..⟩) (fun b hb=>g.ù _ (hb _ (.head _))) R) R
  |ins c l=>
   cases e;obtain⟨r,o,dx,od,es,q1,q2,q3,q4,q5,q6,q7⟩:=h3;have ne:dx≠a:=fun e=>by rw[e,r]at q3;cases q3
   have Å:=Ę.i5 g (o:=o) (.inl r);have r2:(g.set a (.Ô o)).r dx=.cV i:=(g.ù _ ne).trans q3;have Í:=Ę.i5 (g.set a (.Ô o)) (o:=od) (.inr r2);have ra:((g.set a (.Ô o)).set dx (.Ô od)).r a=.Ô o:=((g.set a (.Ô o)).ù _ (Ne.symm ne)).trans (g.ÿ ..);have rd:((g.set a (.Ô o)).set dx (.Ô od)).r dx=.Ô od:=Gh.ÿ ..;have R:Rep Z.toSta ((g.set a (.Ô o)).set dx (.Ô od)).k (.ins c l) (.ref a):=⟨a,o,dx,od,es,rfl,Gh.Ś ra,q2,Gh.Ś rd,q5,q6,q7.mono (Å.trans Í).k⟩;refine hq _ (Å.trans Í) (B.qD [(a,o),(dx,od)] q h1 _ rfl ?_ (fun b hb=>?_) R) R
   ·intro p hp;rcases ĸ.mp hp with rfl|hp
    ·exact⟨.inl r,q1,ra⟩
    ·obtain rfl:=Ė.mp hp;exact⟨.inr q3,q4,rd⟩
   ·exact(Gh.ù _ _ (hb (dx,od) (.tail _ (.head _)))).trans (g.ù _ (hb (a,o) (.head _)))
  |Ô v=>cases e;exact hq g (.refl g) B h3
 |_=>cases e;exact hq g (.refl g) B h
theorem Base.eI{C:Prop}{vs:List V}{vs':List V}{xs:List Value}{g:Gh}{H:List Cell}{H':List Cell}(B:Base Z g s H)(e:Internal.Ē H vs=some (H',vs'))(h:ł Z g vs xs)(hq:(∀g',Ę g g'→Base Z g' s H'→Ý Z.toSta g'.k vs' xs→C)):C:=by
 induction vs generalizing vs' xs g H H' with
 |nil=>
  cases e;exact hq g (.refl g) B h
 |cons v r IH=>
  obtain⟨x,t,rfl,h1,h2⟩:=h;refine ï e fun p e1 e=>?_;refine ï e fun q e2 e=>?_;cases e;refine B.bF e1 h1 fun Û Å vW eP=>?_;refine IH vW e2 (h2.mono Å.toGst) fun ó Í aB f_=>?_;exact hq ó (Å.trans Í) aB ⟨x,t,rfl,eP.mono Í.k,f_⟩
theorem LH.keep(F:LH Z cx g s ρ κ)(e:Ę g g')(hL:∀o,s.heap.get? g.L=some o→s'.heap.get? g.L=some o)
  (hc:∀a i o,g.r a=.var i→s.heap.get? a=some o→s'.heap.get? a=some o):LH Z cx g' s' ρ κ:=by
 refine⟨e.L▸e.loc _ F.loc,?_,fun i ov q=>?_⟩
 ·obtain⟨m,⟨o,es,ep,ho,r⟩,hm⟩:=F.locs;refine⟨m,⟨o,es,ep,e.L▸hL o ho,r⟩,fun x i v h1 h2=>?_⟩;obtain⟨w,q1,q2⟩:=hm x i v h1 h2;exact⟨w,q1,q2.mono e.toGst⟩
 ·obtain⟨c,w,q1,q2,⟨o,ho,hd⟩,q4⟩:=F.vars i ov q;refine⟨c,w,e.cs▸q1,e.var _ _ q2,⟨o,hc _ _ _ q2 ho,hd⟩,fun v hv=>?_⟩;obtain⟨x,y1,y2⟩:=q4 v hv;exact⟨x,y1,y2.mono e.toGst⟩
theorem Rep.iP{v x}(h:Rep Z.toSta g.k v x):Ć Z g v x:=by
 induction v using V.casesOn with
 |Ó i=>exact h.elim
 |_=>exact h
end
def aM(g:Gh)(l:List Env):Prop:=∀e∈l,e.scope.kind=.function∧∃L,e.frame=some L∧((g.r L=.loc∧L=g.L)∨T3 fun o es n=>g.r L=.kept o∧o.data=.dict es n)
structure ŕ(d:Nat)(A:Around)(g:Gh):Prop where
 hd:A.handled=none
 depth:A.depth+4*d+2<recursionLimit
 units:A.units+20*d+30<cLine
 frames:∃l,A.frames=some l∧aM g l
structure aZ(Z:ę)(cx:Cx)(g:Gh)(env:Env):Prop where
 kind:env.scope.kind=.function
 L:env.locals=g.L
 xk:env.globals=mainGlobals
 H6:env.builtins=builtinsNs
 kinds:∀x,env.kindOf x=(cx.sn.lookup x).map fun k=>if k=.free then .cell else k
 Ó:∀x i,ė cx x=some (true,i)→∃c,env.cells.lookup x=some c∧ç g.cs i=some c
 ŷ:cx.ŷ=Z.ŷ
 zB:cx.xk=Z.zB
 code:cx.sn.lookup ("seen":Õ)=some .cell→env.code=.ref Z.qk∧env.qual++("<lambda>":Õ)=Z.lO
theorem pd{cx:Cx}{x:Õ}{p:Bool×Nat}(h:ė cx x=some p):bU x=false∧∃k,cx.sn.lookup x=some k∧Mb cx x k=some p:=by
 unfold ė at h
 induction ho:bU x using ñ with
 |true=>rw[ho]at h;exact nS h
 |false=>rw[ho]at h;exact⟨rfl,ob h⟩
theorem dZ{cx:Cx}{x i}(h:ė cx x=some (false,i)):A3 (bU x=false) (cx.sn.lookup x=some .local) (idx x cx.loc 0=some i):=by
 obtain⟨ho,k,h1,h2⟩:=pd h
 induction k using PySem.NameKind.casesOn with
 |«local»=>refine cK h2 fun j h3 h4=>?_;(injection h4 with _ h4;subst h4);exact⟨ho,h1,h3⟩
 |cell=>refine cK h2 fun j h3 h4=>?_;(injection h4 with h4;exact absurd h4 (by decide))
 |free=>refine cK h2 fun j h3 h4=>?_;(injection h4 with h4;exact absurd h4 (by decide))
 |_=>exact nS h2
theorem bp{cx:Cx}{x i}(h:ė cx x=some (true,i)):A3 (bU x=false) (cx.sn.lookup x=some .cell∨cx.sn.lookup x=some .free) (idx x cx.Ó 0=some i):=by
 obtain⟨ho,k,h1,h2⟩:=pd h
 induction k using PySem.NameKind.casesOn with
 |«local»=>refine cK h2 fun j h3 h4=>?_;(injection h4 with h4;exact absurd h4 (by decide))
 |cell=>refine cK h2 fun j h3 h4=>?_;(injection h4 with _ h4;subst h4);exact⟨ho,.inl h1,h3⟩
 |free=>refine cK h2 fun j h3 h4=>?_;(injection h4 with _ h4;subst h4);exact⟨ho,.inr h1,h3⟩
 |_=>exact nS h2
theorem yV{cx:Cx}{x G}(h:dz cx x=some G):A3 (bU x=false) (cx.sn.lookup x=some .globalImplicit) (gl x cx.xk=some G):=by
 unfold dz at h
 induction ho:bU x using ñ with
 |true=>rw[ho]at h;exact nS h
 |false=>
  rw[ho]at h;refine ï h fun k h1 h2=>?_
  induction k using PySem.NameKind.casesOn with
  |globalImplicit=>exact⟨rfl,h1,h2⟩
  |_=>exact nS h2
theorem dq{x:Õ}(h:bU x=false):(x==("__debug__":Õ))=false:=(wY.mp h).1
theorem aZ.loc{Z cx g env}(he:aZ Z cx g env){x i}(h:ė cx x=some (false,i)):A3 (env.kindOf x=some .local) ((x==("__debug__":Õ))=false) (idx x cx.loc 0=some i):=by
 obtain⟨h1,h2,h3⟩:=dZ h;exact⟨by rw[he.kinds,h2];rfl,dq h1,h3⟩
theorem aZ.cell{Z cx g env}(he:aZ Z cx g env){x i}(h:ė cx x=some (true,i)):A3 (env.kindOf x=some .cell) ((x==("__debug__":Õ))=false) (∃c,env.cells.lookup x=some c∧ç g.cs i=some c):=by
 obtain⟨h1,h2,h3⟩:=bp h;exact⟨by rw[he.kinds];rcases h2 with h2|h2<;>rw[h2]<;>rfl,dq h1,he.Ó x i h⟩
theorem aZ.gl{Z cx g env}(he:aZ Z cx g env){x G}(h:dz cx x=some G):A3 (env.kindOf x=some .globalImplicit) ((x==("__debug__":Õ))=false) (gl x Z.zB=some G):=by
 obtain⟨h1,h2,h3⟩:=yV h;exact⟨by rw[he.kinds,h2];rfl,dq h1,he.zB▸h3⟩
structure dn(Z:ę) where
 fn:Nat→Addr
noncomputable def oldK(Z:ę):FH:=fun a=>if a=Z.tab then none else Z.sh.heap.get? a
noncomputable def m9:Nat→Value
 |0=>.builtin "len"|1=>.builtin "chr"|2=>.type "int"|3=>.builtin "ord"|4=>.builtin "abs"|5=>.type "tuple"|6=>.builtin "min"|7=>.builtin "max"
 |8=>.type "bytes"|9=>.builtin "sorted"|10=>.type "list"|11=>.type "range"|12=>.type "enumerate"|_=>.none
def Vy(Z:ę)(K:dn Z)(j:Nat):Prop:=T2 fun o fd=>A3 (Z.sh.heap.get? (K.fn j)=some o) (o.data=.func fd) (K.fn j≠Z.tab)
def DP(Z:ę)(K:dn Z):Gl→Value→Prop
 |.con v,w=>Rep Z.toSta (oldK Z) v w
 |.fn j,w=>w=.ref (K.fn j)∧Vy Z K j
 |.cls c,w=>w=.ref (fk c)
 |.blt b,w=>w=m9 b
structure cg(Z:ę)(K:dn Z):Prop where
 tm:mainGlobals≠Z.tab
 tb:builtinsNs≠Z.tab
 all:∀x G,gl x Z.zB=some G→T3 fun m mb w=>A4 (Z.sh.heap.Ns mainGlobals m) (Z.sh.heap.Ns builtinsNs mb) (m x=some w∨(m x=none∧mb x=some w)) (DP Z K G w)
section
variable{Z:ę}{g g':Gh}{s s':Shared}{H:List Cell}
theorem aQ.old(B:Base Z g s H):aQ (oldK Z) g.k:=fun a o e=>by
 unfold oldK at e
 split at e
 ·exact nS e
 ·rename_i ne;exact Gh.Ś (B.top a o e ne)
theorem Base.du(B:Base Z g s H){a m}(n:Z.sh.heap.Ns a m)(ne:a≠Z.tab):s.heap.Ns a m:=
 let ⟨o,es,ep,e,r⟩:=n;⟨o,es,ep,B.Ô _ _ (B.top a o e ne),r⟩
theorem aM.mono{l}(h:aM g l)(e:Gst g g'):aM g' l:=fun x hx=>
 let ⟨k,L,h1,h2⟩:=h x hx
 ⟨k,L,h1,h2.imp (fun q=>⟨e.loc _ q.1,q.2.trans e.L.symm⟩) fun ⟨o,es,n,q1,q2⟩=>⟨o,es,n,e.kept _ _ q1,q2⟩⟩
theorem ŕ.mono{d A}(h:ŕ d A g)(e:Gst g g'):ŕ d A g':=⟨h.hd,h.depth,h.units,let ⟨l,a,b⟩:=h.frames;⟨l,a,b.mono e⟩⟩
theorem aZ.mono{cx env}(h:aZ Z cx g env)(e:Gst g g'):aZ Z cx g' env:=
 ⟨h.kind,h.L.trans e.L.symm,h.xk,h.H6,h.kinds,fun x i a=>let ⟨c,r1,r2⟩:=h.Ó x i a;⟨c,r1,e.cs▸r2⟩,h.ŷ,h.zB,h.code⟩
end
def VA(A:Around)(env:Env):Prop:=T2 fun e l=>A.frames=some (e::l)∧e.frame=env.frame
structure Ok(Z:ę)(d:Nat)(cx:Cx)(A:Around)(env:Env)(g:Gh)(s:Shared)(st:St):Prop where
 r:ŕ d A g
 e:aZ Z cx g env
 i:Inv Z cx g s st
 f:VA A env
theorem Ok.to{Z:ę}{d cx A env}{g g':Gh}{s s' st ĉ}(C:Ok Z d cx A env g s st)(G:Gst g g')(I:Inv Z cx g' s' ĉ):Ok Z d cx A env g' s' ĉ:=⟨C.r.mono G,C.e.mono G,I,C.f⟩
section
variable(prog:Program)(w:World)(Z:ę)(K:dn Z)
abbrev õ{α:Type}(A:Around)(t:Sem α)(Q:α→Shared→Prop)(E:Value→Shared→Prop)(s:Shared):Prop:=wpAny (model prog w) A t Q E s
abbrev Iw(d:Nat)(cx:Cx)(A:Around)(env:Env)(g:Gh)(ĉ:St)(v:V)(Q:Value→Shared→Prop):Prop:=∀g' s' x,Gst g g'→Ok Z d cx A env g' s' ĉ→Ć Z g' v x→Q x s'
abbrev mF(d:Nat)(cx:Cx)(A:Around)(env:Env)(g:Gh)(ĉ:St)(Q:Shared→Prop):Prop:=∀g' s',Gst g g'→Ok Z d cx A env g' s' ĉ→Q s'
def ű(d:Nat)(e:PE)(st ĉ:St)(v:V):Prop:=∀cx x env A g s Q E,er cx x=e→Ok Z d cx A env g s st→Iw Z d cx A env g ĉ v Q→õ prog w A (eval x env) Q E s
def gA(d:Nat)(e:PE)(st ĉ:St)(b:Bool):Prop:=∀cx x env A g s Q E,er cx x=e→Ok Z d cx A env g s st→mF Z d cx A env g ĉ (Q b)→õ prog w A (isTrue x env (eval x env)) Q E s
def Ļ(d:Nat)(es:List PE)(st ĉ:St)(vs:List V):Prop:=∀cx xs env A g s Q E pos,fh cx xs=es→plain xs=true→Ok Z d cx A env g s st→(∀g' s' ys,Gst g g'→Ok Z d cx A env g' s' ĉ→ł Z g' vs ys→Q ys s')→õ prog w A (spliced (backTo pos (starEach xs env))) Q E s
end
section
set_option maxRecDepth 100000
open Internal.H
noncomputable def cP:Nat:=1194
noncomputable def wQ:Õ:="matches.<locals>.<lambda>"
theorem bq{α β:Type}{f g:α→β}:∀{l:List α} {x:α},l.map f=l.map g→x∈l→f x=g x
 |y::r,x,h,m=>by
  obtain⟨h1,h2⟩:=List.cons.inj h;rcases ĸ.mp m with e|m
  ·subst e;exact h1
  ·exact bq h2 m
theorem Sy{a b:Nat}(h:ď a b=true):a<b:=bR.mp h
theorem Sz{a b:Nat}(h:ö a b=false):a≠b:=fun e=>by subst e;rw[qm]at h;exact Ĕ h
def Old(t:BT)(k:FH):Prop:=∀a o,t.get a=some o→a<1311→a≠cP→o.isFreed=false→k a=some o
def Ho(a:Nat):Bool:=ď a 1311&& !ö a cP
theorem fF{a:Nat}(h:Ho a=true):a<1311∧a≠cP:=⟨Sy (oa h).1,Sz (nn (oa h).2)⟩
noncomputable def Mv:Data→Option (List Value)
 |.seq vs _=>some vs.toList
 |_=>none
noncomputable def Eo:Value→Option String
 |.type T=>some T
 |_=>none
noncomputable def PG:Value→Option V
 |.none=>some .none
 |.bool b=>some (.bool b)
 |.int i _=>some (.int i)
 |.str s _=>some (.str s.cps.toList)
 |.bytes b _=>some (.bytes (b.toList.map (·.toNat)))
 |_=>none
noncomputable def pZ:Value→Option Addr
 |.ref a=>some a
 |_=>none
theorem wu{x:Value}{a:Addr}(h:pZ x=some a):x=.ref a:=mL (f:=Value.ref) h (by induction x using PySem.Value.casesOn<;>first|exact trivial|exact rfl)
theorem pN{x:Value}{a:String}(h:Eo x=some a):x=.type a:=mL (f:=Value.type) h (by induction x using PySem.Value.casesOn<;>first|exact trivial|exact rfl)
theorem EK{x:Data}{l:List Value}(h:Mv x=some l):∃n,x=.seq l.toArray n:=by
 induction x using PySem.Data.casesOn with
 |seq vs n=>exact⟨n,by rw[←ë h]⟩
 |_=>exact nS h
def Et(o:Obj):Option (List Value):=(Mv o.data).bind fun vs=>(Eo o.cls).bind fun T=>if T=="tuple"&&(o.dict.isNone&&o.slots.isEmpty)then some vs else none
theorem Es{o:Obj}{vs:List Value}(h:Et o=some vs):mz "tuple" vs o∧o.isFreed=false:=by
 obtain⟨c,d,dt,sl⟩:=o;refine ï h fun vs' h1 h=>?_;refine ï h fun T h2 h=>?_
 (have h3:=cz h;have h4:=cq h)
 (have h5:=aD h3;have h6:=aC h3)
 (have h7:=aC h6;have h6:=aD h6)
 obtain rfl:=ë h4;obtain⟨n,e1⟩:=EK h1;have e2:c=.type T:=pN h2;have e1:dt=_:=e1;have e3:sl= #[]:=Array.isEmpty_iff.mp h7;have e4:d=none:=oP.mp h6;rw[e1,e2,e3,e4,eq_of_beq h5];exact⟨⟨n,rfl⟩,rfl⟩
noncomputable def Fv(f:Value→Option V):List Value→Option (List V)
 |[]=>some []
 |x::r=>(f x).bind fun v=>(Fv f r).bind fun l=>some (v::l)
def rg(t:BT)(a:Nat):Option (List Value):=if Ho a then(t.get a).bind Et else none
noncomputable def rU(t:BT):Nat→Value→Option V
 |0,x=>PG x
 |n+1,x=>match PG x with
  |some v=>some v
  |none=>(pZ x).bind fun a=>(rg t a).bind fun vs=>(Fv (rU t n) vs).bind fun l=>some (.tup l)
section
variable{Y:Sta}{t:BT}{k:FH}
theorem z_{x:Value}{v:V}(h:PG x=some v):Rep Y k v x:=by
 induction x using PySem.Value.casesOn<;>first|exact nS h|(replace h:=ë h;subst h;first|rfl|exact⟨_,rfl⟩|exact⟨_,_,rfl,rfl⟩)
theorem qi{f:Value→Option V}(hf:∀x v,f x=some v→Rep Y k v x):∀{xs:List Value} {l:List V},Fv f xs=some l→Ý Y k l xs
 |[],_,h=>by obtain rfl:=ë h;rfl
 |x::r,_,h=>by
  refine ï h fun v h1 h=>?_;refine ï h fun l h2 h=>?_;obtain rfl:=ë h;exact⟨x,r,rfl,hf x v h1,qi hf h2⟩
theorem rf(hk:Old t k){a:Addr}{vs:List Value}(h:rg t a=some vs):∃o,A6 (t.get a=some o) (k a=some o) (mz "tuple" vs o) (a<1311) (a≠cP) (o.isFreed=false):=by
 (have h0:=cz (x:=(t.get a).bind Et) h;have h:=cq (x:=(t.get a).bind Et) h)
 refine ï h fun o h1 h=>?_;obtain⟨b1,b2⟩:=fF h0;obtain⟨c1,c2⟩:=Es h;exact⟨o,h1,hk a o h1 b1 b2 c2,c1,b1,b2,c2⟩
theorem lB(hk:Old t k):∀(n:Nat) {x:Value} {v:V},rU t n x=some v→Rep Y k v x
 |0,_,_,h=>z_ h
 |n+1,x,v,h=>by
  unfold rU at h
  induction q:PG x using š with
  |some u=>rw[q]at h;obtain rfl:=ë h;exact z_ q
  |none=>
   rw[q]at h;refine ï h fun a h1 h=>?_;refine ï h fun vs h2 h=>?_;refine ï h fun l h3 h=>?_;obtain rfl:=ë h;obtain rfl:=wu h1;obtain⟨o,_,h4,h5,_⟩:=rf hk h2;exact⟨a,o,vs,rfl,h4,h5,qi (fun x v=>lB hk n) h3⟩
end
noncomputable def Gp:Data→Option (Array Value)
 |.fields vs=>some vs
 |_=>none
theorem Gn{x:Data}{l:Array Value}(h:Gp x=some l):x=.fields l:=mL (f:=Data.fields) h (by induction x using PySem.Data.casesOn<;>first|exact trivial|exact rfl)
noncomputable def zX:Value→Option Õ
 |.str s _=>some s
 |_=>none
theorem wd{x:Value}{s:Õ}(h:zX x=some s):∃t,x=.str s t:=by
 induction x using PySem.Value.casesOn with
 |str s' t=>exact⟨t,by rw[←ë h]⟩
 |_=>exact nS h
def H0(t:BT)(c:Nat):Option Õ:=if Ho c then(t.get c).bind fun o=>(Gp o.data).bind fun vs=>(vs[1]? :Option Value).bind zX else none
def K9(t:BT)(d:Value):Option (List V):=match pZ d with
 |some T=>(rg t T).bind (Fv (rU t 2))
 |none=>some []
noncomputable def Hp:Value→Bool
 |.none=>true
 |_=>false
def JG(t:BT)(p:Row×Fn):=
 let fd:=B6 p.1;let n:=fd.params.args.map (·.arg)
 ((Ho p.1.a,fd.body,fd.closure,fd.scope.kind,fd.scope.isCoroutine,fd.scope.isGenerator),n.map (ė (P8 fd.scope)),
  (decide (fd.scope.names.map (·.1)).Nodup&&(fd.scope.names.all (fun q=>q.2 !=.free)&&ak p.2.ml.length n.length),(aJ fd.scope.names).length,(ţ fd.scope.names).length),
  ((fd.scope.names.lookup ("seen":Õ)!=some .cell||(ö p.1.c 1198&&(fd.qualname++".<locals>.")++("<lambda>":Õ)==wQ)),H0 t p.1.c,K9 t p.1.d,(pZ p.1.d).isSome||Hp p.1.d,(t.get p.1.a)))
def JF(p:Row×Fn):=
 let fd:=B6 p.1
 ((true,FuncBody.stmts (L2 (B7 p.1)),([]:List (Õ×Addr)),ScopeKind.function,false,false),p.2.ps.map some,(true,p.2.nl,p.2.nc),(true,some fd.qualname,some p.2.ml,true,some (ro p.1)))
theorem JC(P:Params):Ag.flatten.map (JG (aA P))=Ag.flatten.map JF:=by kernel_rfl
def OI(P:Params)(r:Row):Frag:=match pZ r.d with
 |some T=>match(aA P).get T with
  |some o=>[(T,o)]
  |none=>[]
 |none=>[]
def K_(P:Params)(r:Row):List Value:=match pZ r.d with
 |some T=>(rg (aA P) T).getD []
 |none=>[]
def DW(r:Row):List Õ:=(B6 r).params.args.map (·.arg)
def GQ(p:Row×Fn):List (Row×Nat):=(bQ (p.2.ml.length+1)).map fun i=>(p.1,(DW p.1).length - i)
def Qb(P:Params)(q:Row×Nat):(Nat→Value)→Setting→Option (List (Õ×Value)):=fun f S=>peek (OI P q.1) S (bindArgs (B6 q.1) ⟨(bQ q.2).map f,[]⟩)
def Qa(P:Params)(q:Row×Nat):(Nat→Value)→Setting→Option (List (Õ×Value)):=fun f À=>some ((DW q.1).zip ((bQ q.2).map f++(K_ P q.1).drop ((K_ P q.1).length - ((DW q.1).length - q.2))))
theorem GS(P:Params):(Ag.flatten.map fun p=>(GQ p).map (Qb P))=(Ag.flatten.map fun p=>(GQ p).map (Qa P)):=by kernel_rfl
end
section
variable{prog:Program}{w:World}{Z:ę}{K:dn Z}{P:ċ}{env:Env}{cx:Cx}{g g':Gh}{s s':Shared}{A:Around}{d:Nat}
section
variable{st ĉ:St}{H H':List Cell}
def Keeps(s s':Shared):Prop:=∀b o,s.heap.get? b=some o→s'.heap.get? b=some o
theorem Keeps.refl(s:Shared):Keeps s s:=fun À À e=>e
theorem Inv.next(I:Inv Z cx g s st)(e:Ę g g')(k:Keeps s s')(B:Base Z g' s' H'):Inv Z cx g' s' {st with H:=H'}:=
 ⟨B,I.gK.keep e (fun o q=>k _ o q) fun a i o À q=>k a o q⟩
theorem Inv.toks(I:Inv Z cx g s st)(t:Nat):Inv Z cx g {s with toks:=t} st:=I.next (.refl g) (fun À À e=>e) (I.base.toks t)
theorem Ok.next(C:Ok Z d cx A env g s st)(e:Ę g g')(k:Keeps s s')(B:Base Z g' s' H'):Ok Z d cx A env g' s' {st with H:=H'}:=C.to e.toGst (C.i.next e k B)
theorem Ok.toks(C:Ok Z d cx A env g s st)(t:Nat):Ok Z d cx A env g {s with toks:=t} st:=C.to (.refl g) (C.i.toks t)
theorem Ok.base(C:Ok Z d cx A env g s st):Base Z g s st.H:=C.i.base
def Đ(Z:ę)(g:Gh)(s:Shared)(H:List Cell)(v:V)(Q:Value→Shared→Prop):Prop:=
 ∀g' s' z,Ę g g'→Keeps s s'→Base Z g' s' (made H v).1→Ć Z g' (made H v).2 z→Q z s'
theorem tB(C:Ok Z d cx A env g s st){v:V}{x:Value}{Q:Value→Shared→Prop}{E}(hq:Iw Z d cx A env g st v Q)(h:Ć Z g v x):õ prog w A (pure x) Q E s:=wpAny_pure (hq g s _ (.refl g) C h)
theorem iv{i:Bool}{x:Expr}{e:PE}(h:mP i cx x=e):qW i cx x e:=h▸erV i cx x
theorem Cs(C:Ok Z d cx A env g s st){c:Const}{k:Nat}{p:Pos}{v:V}{Q:Value→Shared→Prop}{E}(h:LY c=some v)(hq:Iw Z d cx A env g st v Q):õ prog w A (eval (.Constant c k p) env) Q E s:=by
 induction c using PySem.Const.casesOn with
 |none=>(replace h:=ë h;subst h);exact tB C hq rfl
 |bool b=>(replace h:=ë h;subst h);exact tB C hq rfl
 |int i=>(replace h:=ë h;subst h);exact wpAny_mkInt (hq g _ _ (.refl g) (C.toks _) ⟨_,rfl⟩)
 |str x=>(replace h:=ë h;subst h);exact wpAny_mkText (hq g _ _ (.refl g) (C.toks _) ⟨_,rfl⟩)
 |bytes b=>(replace h:=ë h;subst h);exact wpAny_mkTextBytes (hq g _ _ (.refl g) (C.toks _) ⟨_,_,rfl,rfl⟩)
 |_=>exact nS h
theorem ō(hg:cg Z K){env:Env}(he:aZ Z cx g env)(B:Base Z g s H){x:Õ}{G:Gl}{p:Pos}{Q:Value→Shared→Prop}{E:Value→Shared→Prop}
  (hG:dz cx x=some G)(hq:∀z,DP Z K G z→Q z s):õ prog w A (eval (.Name x p) env) Q E s:=by
 obtain⟨h1,h2,h3⟩:=he.gl hG;obtain⟨m,mb,z,n1,n2,n3,n4⟩:=hg.all x G h3;have m1:s.heap.Ns env.globals m:=he.xk▸B.du n1 hg.tm;have m2:s.heap.Ns env.builtins mb:=he.H6▸B.du n2 hg.tb;refine Calls.Name_function_global he.kind h1 ?_ h2;rcases n3 with n3|⟨n3,n5⟩
 ·exact Calls.loadGlobal_global m1 n3 (hq z n4)
 ·exact Calls.loadGlobal_builtin m1 n3 m2 n5 (hq z n4)
theorem uY{env:Env}(he:aZ Z cx g env)(hi:Inv Z cx g s st){x:Õ}{i:Nat}{v:V}{p:Pos}{Q:Value→Shared→Prop}{E:Value→Shared→Prop}
  (hv:ė cx x=some (false,i))(hn:ç st.ρ i=some (some v))(hq:∀z,Ć Z g v z→Q z s):õ prog w A (eval (.Name x p) env) Q E s:=by
 obtain⟨h1,h2,h3⟩:=he.loc hv;obtain⟨m,hm,PY⟩:=hi.gK.locs;obtain⟨y,q1,q2⟩:=PY x i v h3 hn;exact wpAny_Name (wpAny_loadName_local he.kind h1 (he.L▸hm) q1 (hq _ q2)) h2
theorem yz{env:Env}(he:aZ Z cx g env)(hi:Inv Z cx g s st){x:Õ}{i:Nat}{v:V}{p:Pos}{Q:Value→Shared→Prop}{E:Value→Shared→Prop}
  (hv:ė cx x=some (true,i))(hn:ç st.κ i=some (some v))(hq:∀z,Ć Z g v z→Q z s):õ prog w A (eval (.Name x p) env) Q E s:=by
 obtain⟨h1,h2,c,h3,h4⟩:=he.cell hv;obtain⟨c',y,q1,q2,q3,q4⟩:=hi.gK.vars _ _ hn;obtain rfl:c=c':=ë (h4.symm.trans q1);obtain⟨z,rfl,q5⟩:=q4 _ rfl;exact wpAny_Name (wpAny_loadName_cell he.kind h1 h3 q3 (hq _ q5)) h2
theorem Q9(hg:cg Z K){v:V}:ű prog w Z d (.c v) st st v:=by
 intro cx x env A g s Q E hx C hq;rcases iv hx with⟨c,k,p,rfl,h⟩|⟨n,p,rfl,h⟩
 ·exact Cs C h hq
 ·refine ō hg C.e C.base h fun z hz=>?_;exact hq g s z (.refl g) C (Rep.mono (v:=v) (.old C.base) hz).iP
theorem YI{n:Nat}{v:V}(h:ç st.ρ n=some (some v)):ű prog w Z d (.l n) st st v:=by
 intro cx x env A g s Q E hx C hq;obtain⟨n,p,rfl,hv⟩:=iv hx;exact uY C.e C.i hv h fun z hz=>hq g s z (.refl g) C hz
theorem YJ{n:Nat}{v:V}(h:ç st.κ n=some (some v)):ű prog w Z d (.k n) st st v:=by
 intro cx x env A g s Q E hx C hq;obtain⟨n,p,rfl,hv⟩:=iv hx;exact yz C.e C.i hv h fun z hz=>hq g s z (.refl g) C hz
theorem wc{x y:List Nat}:(⟨⟨x⟩⟩:Õ)++(⟨⟨y⟩⟩:Õ)=⟨⟨x++y⟩⟩:=by
 show PySem.Str.mk (Array.mk x++Array.mk y)=_;simp
theorem Ĥ{α}{l:List α}(h:small l=true):l.length<1000000:=bR.mp h
theorem nB{α β:Type}{l:List α}{m:List β}(h:small l=true)(h':small m=true):l.length+m.length≤2^24:=
 è (Nat.add_le_add (aW (Ĥ h)) (aW (Ĥ h'))) (by decide)
theorem Base.fK(B:Base Z g s H){l:List V}{vs:List Value}{n t:Nat}{Q:Value→Shared→Prop}(hr:Ý Z.toSta g.k l vs)(hq:Đ Z g s H (.lst l) Q):
  Q (.ref s.heap.objs.size) {s with heap:=s.heap.push {cls:=.type "list",data:=.seq vs.toArray n},toks:=t}:=by
 have hf:g.r s.heap.objs.size=.free:=B.fresh _ (Ĭ _);have S:Ę g ((g.set s.heap.objs.size (.cell H.length)).snoc s.heap.objs.size):=(Ę.set g hf).trans (Ę.snoc _ _);refine hq _ _ _ S (fun b o e=>ŏ _ e) (B.Fm {cls:=.type "list",data:=.seq vs.toArray n} t (.lst l) rfl fun r q=>⟨r,_,vs,q,⟨n,rfl⟩,hr.mono S.k⟩) ⟨_,?_,rfl⟩;show ç (g.as++[_]) _=_;rw[←B.len];exact eB _ _
theorem Ý.app{Y:Sta}{k:FH}{a:List V}{b:List V}{x:List Value}{y:List Value}(h:Ý Y k a x)(h':Ý Y k b y):Ý Y k (a++b) (x++y):=by
 induction a generalizing b x y with
 |nil=>
  subst h;exact h'
 |cons _ v8 IH=>
  obtain⟨v,r,rfl,h1,h2⟩:=h;exact⟨v,_,rfl,h1,IH h2 h'⟩
theorem Ý.len{Y:Sta}{k:FH}{a:List V}{x:List Value}(h:Ý Y k a x):x.length=a.length:=by
 induction a generalizing x with
 |nil=>
  subst h;rfl
 |cons _ v8 IH=>
  obtain⟨v,r,rfl,h1,h2⟩:=h;exact congrArg (· +1) (IH h2)
theorem Đ.kB{v:V}{Q:Value→Shared→Prop}(hq:Đ Z g s H v Q)(B:Base Z g s H)(hv:∀l,v≠.lst l)(t:Nat){z:Value}(hz:Ć Z g v z):Q z {s with toks:=t}:=by
 have e:made H v=(H,v):=by induction v using V.casesOn<;>first|rfl|exact absurd rfl (hv _)
 unfold Đ at hq;rw[e]at hq;exact hq g _ z (.refl g) (fun À À e=>e) (B.toks t) hz
theorem Aa{y:Int}(h0:0<y)(h:y<jZ):y.natAbs.log2<9000:=by
 have:y.natAbs≠0:=by omega
 have h1:y.natAbs<2^1000:=by
  have:(jZ:Int)=((2^1000:Nat):Int):=by decide+kernel
  omega
 have:=(Nat.log2_lt this).mpr h1;exact è ‹_› (by decide)
theorem Ab{x y:Int}(h0:0<y)(h:y<jZ):Builtin.divisionGoesByPylong x y=false:=PyProof.noPylong_of_log2 (Aa h0 h)
theorem bE{a b:Int}(h:ĩ a b=true):a<b:=of_decide_eq_true h
theorem gT{a b:Int}(h:gh a b=true):a≤b:=of_decide_eq_true h
theorem A7{x y:Int}(h1:ĩ x.natAbs big=true)(h2:ĩ y.natAbs big=true):IntMulOk x y:=
 have q:=bE h2
 IntMulOk.of_right (PySem.intBits_le_64 (Int.neg_lt_of_neg_lt (Int.lt_of_le_of_lt (Int.natAbs_neg y▸Int.le_natAbs) q)) (Int.lt_of_le_of_lt Int.le_natAbs q))
theorem ib{k:FH}{Y:Sta}{a b:V}{x y:Value}{v:V}{f:Int×Int→Option V}(hx:Rep Y k a x)(hy:Rep Y k b y)(h:(pI a b).bind f=some v){C:Prop}(q:∀i j t u,f (i,j)=some v→x=.int i t→y=.int j u→C):C:=by
 refine ï h fun p h1 h2=>?_;obtain⟨rfl,rfl⟩:=jI h1;obtain⟨t,h3⟩:=hx;obtain⟨u,h4⟩:=hy;exact q _ _ t u h2 h3 h4
theorem AO{j:Int}{r:Option V}{v:V}(h:(if ĩ 0 j&&ĩ j jZ then r else none)=some v):A3 (0<j) (j<jZ) (r=some v):=
 let ⟨h1,h2⟩:=og h;let ⟨h1,h3⟩:=oa h1
 ⟨bE h1,bE h3,h2⟩
theorem Đ.int{i:Int}{v:V}{Q:Value→Shared→Prop}(hq:Đ Z g s H v Q)(B:Base Z g s H)(e:some (V.int i)=some v)(t:Tok):Q (.int i t) {s with toks:=t+1}:=by
 (replace e:=ë e;subst e);exact hq.kB B (fun À q=>neT V.ctorIdx q rfl) _ ⟨t,rfl⟩
theorem vK(B:Base Z g s H){i j:List Nat}{x y:Value}{Q E}(hx:Rep Z.toSta g.k (.str i) x)(hy:Rep Z.toSta g.k (.str j) y)(h3:small i=true)(h4:small j=true)(hq:Đ Z g s H (.str (i++j)) Q):õ prog w A (binaryOp .Add x y) Q E s:=by
 obtain⟨t,rfl⟩:=hx;obtain⟨u,rfl⟩:=hy;exact PyProof.Rows.add_str (fun t' tk=>hq.kB B (fun À q=>neT V.ctorIdx q rfl) _ ⟨_,congrArg (Value.str · _) wc⟩) (nB h3 h4)
theorem vL(B:Base Z g s H){i j:List V}{x y:Value}{Q E}(hx:Rep Z.toSta g.k (.lst i) x)(hy:Rep Z.toSta g.k (.lst j) y)(h3:small i=true)(h4:small j=true)(hq:Đ Z g s H (.lst (i++j)) Q):õ prog w A (binaryOp .Add x y) Q E s:=by
 obtain⟨ax,ox,vs,rfl,k1,⟨n,rfl⟩,r1⟩:=hx;obtain⟨ay,oy,us,rfl,k2,⟨m,rfl⟩,r2⟩:=hy;have:=nB h3 h4;rw[←r1.len,←r2.len]at this;refine PySem.P.add_list (B.sub k1) (B.sub k2) ?_ this;rw[List.append_toArray];exact B.fK (n:=0) (t:=s.toks) (r1.app r2) hq
theorem Lv(B:Base Z g s H){a b v:V}{x y:Value}{Q E}(hx:Rep Z.toSta g.k a x)(hy:Rep Z.toSta g.k b y)(h:bin 0 a b=some v)(hq:Đ Z g s H v Q):õ prog w A (binaryOp .Add x y) Q E s:=by
 induction a using V.casesOn with
 |int i=>
  refine ï h fun j h1 h2=>?_;obtain rfl:=iI h1;obtain⟨t,rfl⟩:=hx;obtain⟨u,rfl⟩:=hy;exact PyProof.Rows.add_int (hq.int B h2 _)
 |str i=>
  refine ï h fun j h1 h2=>?_
  (have h3:=cz h2;have h2:=cq h2)
  (replace h2:=ë h2;subst h2)
  exact vK B hx (iS h1▸hy) (oa h3).1 (oa h3).2 hq
 |lst i=>
  refine ï h fun j h1 h2=>?_
  (have h3:=cz h2;have h2:=cq h2)
  (replace h2:=ë h2;subst h2)
  exact vL B hx (iL h1▸hy) (oa h3).1 (oa h3).2 hq
 |_=>exact nS h
theorem Lp(B:Base Z g s H){o:Operator}{op:Nat}{a b v:V}{x y:Value}{Q E}(hx:Rep Z.toSta g.k a x)(hy:Rep Z.toSta g.k b y)(h:bin op a b=some v)(ho:Cc o=some op)
  (hq:Đ Z g s H v Q):õ prog w A (binaryOp o x y) Q E s:=by
 induction o using PySem.Operator.casesOn with
 |Add=>(replace ho:=ë ho;subst ho);exact Lv B hx hy h hq
 |Sub=>
  (replace ho:=ë ho;subst ho)
  refine ib hx hy h fun i j t u h2 e1 e2=>?_;rw[e1,e2];exact PyProof.Rows.sub_int (hq.int B h2 _)
 |Mult=>
  (replace ho:=ë ho;subst ho)
  refine ib hx hy h fun i j t u h2 e1 e2=>?_;rw[e1,e2]
  (have h3:=cz h2;have h2:=cq h2)
  exact PyProof.Rows.mul_int (hq.int B h2 _) (A7 (oa h3).1 (oa h3).2)
 |FloorDiv=>
  (replace ho:=ë ho;subst ho)
  refine ib hx hy h fun i j t u h2 e1 e2=>?_;rw[e1,e2];obtain⟨h3,h4,h2⟩:=AO h2;refine PyProof.Rows.floordiv_int (Int.ne_of_gt h3) ?_ (.inl (Ab h3 h4));rw[Int.fdiv_eq_ediv_of_nonneg _ (jL h3)];exact hq.int B h2 _
 |Mod=>
  (replace ho:=ë ho;subst ho)
  refine ib hx hy h fun i j t u h2 e1 e2=>?_;rw[e1,e2];obtain⟨h3,h4,h2⟩:=AO h2;refine PyProof.Rows.mod_int' (Int.ne_of_gt h3) ?_;rw[Int.fmod_eq_emod_of_nonneg _ (jL h3)];exact hq.int B h2 _
 |Pow=>
  (replace ho:=ë ho;subst ho)
  refine ib hx hy h fun i j t u h2 e1 e2=>?_;rw[e1,e2]
  (have h3:=cz h2;have h2:=cq h2)
  obtain rfl:i=10:=of_decide_eq_true (oa h3).1;rcases lR.mp (oa h3).2 with h4|h4
  ·obtain rfl:j=15:=of_decide_eq_true h4;exact PyProof.Rows.pow_int (by decide) (by decide+kernel) (hq.int B h2 _)
  ·obtain rfl:j=200:=of_decide_eq_true h4;exact PyProof.Rows.pow_int (by decide) (by decide+kernel) (hq.int B h2 _)
 |_=>exact nS ho
theorem Rb{n:Nat}{a b:PE}{Å:St}{ρ κ:List (Option V)}{x y x' y' v v':V}{H H₁ Ö ų:L}(h1:ű prog w Z d a st Å x)(h2:ű prog w Z d b Å ⟨H,ρ,κ⟩ y)(h3:Ô H x=some (H₁,x'))(h4:Ô H₁ y=some (Ö,y'))(h5:bin n x' y'=some v)(h6:made Ö v=(ų,v')):ű prog w Z d (.bi n a b) st ⟨ų,ρ,κ⟩ v':=by
 intro cx x env A g s Q E hx C hq;obtain⟨y,o,z,p,rfl,ho,e1,e2⟩:=iv hx;refine wpAny_BinOp (h1 _ _ _ _ _ _ _ _ e1 C fun Û ò Ŷ Ñ Ï ô=>?_);refine wpAny_mono (h2 _ _ _ _ _ _ (fun r s'=>õ prog w A (binaryOp o Ŷ r) Q E s') E e2 Ï fun ó ļ xU ú æ Ű=>?_) (fun À À e=>e) fun À À e=>e
 refine æ.base.bF h3 (ô.mono ú) fun İ Ń Ş fZ=>?_;refine Ş.bF h4 (Ű.mono Ń.toGst) fun BZ ni nq vQ=>?_;refine Lp nq (fZ.mono ni.k) vQ h5 ho fun qy EE Yw g8 Kk mG jr=>?_;rw[h6]at mG jr;exact hq _ _ _ (Ñ.trans (ú.trans ((Ń.trans ni).trans g8).toGst)) (æ.next ((Ń.trans ni).trans g8) Kk mG) jr
end
section
open PySem.SeqAt
section
variable{st:St}{H H':List Cell}
theorem cA:∀{a b:List Nat},Ø a b=decide (a=b)
 |[],[]=>rfl
 |[],_::_=>rfl
 |_::_,[]=>rfl
 |a::r,b::t=>by
  rw[Ø,cA (a:=r)]
  induction h:ö a b using ñ with
  |true=>rw[ġ h];exact decide_eq_decide.mpr ⟨fun e=>e▸rfl,fun e=>(List.cons.inj e).2⟩
  |false=>exact(decide_eq_false fun e=>by rw[(List.cons.inj e).1,qm]at h;exact Ĕ h).symm
theorem þ{a b:List Nat}(h:Ø a b=true):a=b:=of_decide_eq_true (cA▸h)
theorem ŭ(a:List Nat):Ø a a=true:=cA.trans (decide_eq_true rfl)
theorem bytes_inj{a b:Array UInt8}(h:a.toList.map (·.toNat)=b.toList.map (·.toNat)):a.toList=b.toList:=by
 exact(List.map_inj_right (fun x y e=>UInt8.toNat_inj.mp e)).mp h
theorem Base.isList{a:Addr}{o:Obj}{vs:List Value}(h:s.heap.get? a=some o)(q:mz "list" vs o):s.heap.IsList a vs.toArray:=let ⟨n,e⟩:=q;by subst e;exact⟨_,h,rfl,n,rfl⟩
theorem Base.eF{a:Addr}{o:Obj}{vs:List Value}(h:s.heap.get? a=some o)(q:mz "tuple" vs o):s.heap.IsTuple a vs.toArray:=let ⟨n,e⟩:=q;by subst e;exact⟨_,h,rfl,n,rfl⟩
theorem EqAt.of_rc{A:Around}{s:Shared}{x y:Value}{r:Bool}(h:RcAt A s x y r)(hf:∀b t,x≠.float b t)(hs:x=y→r=true):EqAt A s x y r:=fun prog w E Q hq=>by
 unfold eqBool;refine wpAny_holding ?_;refine wpAny_ite_split (fun Gd=>?_) (fun À=>?_)
 ·have:=hs (eq_of_beq Gd);subst this;exact wpAny_bind (wpAny_rule (wpAny_pure hq))
 ·have t:wpAny (model prog w) A (richCompare .Eq x y>>=truthOfDropped) Q E s:=wpAny_bind (h prog w E _ (wpAny_truthy_bool hq))
  split
  ·rename_i e;exact absurd (Prod.mk.inj e).1 (hf _ _)
  ·exact t
inductive VK(v:V)(x:Value):Prop
 |none (e:x=.none) (q:v=.none)
 |bool (b:Bool) (e:x=.bool b)
 |int (i:Int) (t:Tok) (e:x=.int i t)
 |str (b:Õ) (t:Tok) (e:x=.str b t)
 |bytes (b:Array UInt8) (t:Tok) (e:x=.bytes b t)
 |ref (a:Addr) (e:x=.ref a)
theorem ŝ.vk{Y:Sta}{h:Heap}{k:FH}{v:V}{x:Value}(q:ŝ Y h k v x):VK v x:=by
 induction v using V.casesOn with
 |none=>exact .none q rfl
 |bool=>exact .bool _ q
 |int=>obtain⟨_,e⟩:=q;exact .int _ _ e
 |str=>obtain⟨_,e⟩:=q;exact .str _ _ e
 |bytes=>obtain⟨_,_,e,_⟩:=q;exact .bytes _ _ e
 |tup=>obtain⟨_,_,_,e⟩:=q;exact .ref _ e
 |lst=>obtain⟨_,_,_,e⟩:=q;exact .ref _ e
 |aY=>obtain⟨_,_,_,e⟩:=q;exact .ref _ e
 |ins=>obtain⟨_,_,_,_,_,e⟩:=q;exact .ref _ e
 |Ó=>exact q.elim
 |g_=>obtain⟨_,_,_,_,_,_,_,_,_,_,_,e⟩:=q;exact .ref _ e
theorem Rep.vk{Y:Sta}{k:FH}{v:V}{x:Value}(q:Rep Y k v x):VK v x:=by
 induction v using V.casesOn with
 |none=>exact .none q rfl
 |bool=>exact .bool _ q
 |int=>obtain⟨_,e⟩:=q;exact .int _ _ e
 |str=>obtain⟨_,e⟩:=q;exact .str _ _ e
 |bytes=>obtain⟨_,_,e,_⟩:=q;exact .bytes _ _ e
 |tup=>obtain⟨_,_,_,e⟩:=q;exact .ref _ e
 |lst=>obtain⟨_,_,_,e⟩:=q;exact .ref _ e
 |aY=>obtain⟨_,_,_,e⟩:=q;exact .ref _ e
 |ins=>obtain⟨_,_,_,_,_,e⟩:=q;exact .ref _ e
 |Ó=>exact q.elim
 |g_=>obtain⟨_,_,_,_,_,_,_,_,_,_,_,e⟩:=q;exact .ref _ e
theorem VK.wI{v:V}{x:Value}(h:VK v x)(b t):x≠.float b t:=by
 induction h using VK.casesOn<;>subst_vars<;>nofun
theorem mz.inj{T:String}{xs ys:List Value}{o:Obj}(h:mz T xs o)(h':mz T ys o):xs=ys:=by
 obtain⟨n,e⟩:=h;obtain⟨m,e'⟩:=h';rw[e]at e';injection e' with _ _ e _
 injection e with e _
 exact List.toArray_inj e
theorem qU.same{T:String}{k:FH}{M N:List Value→Prop}{x:Value}(h:qU T k M x)(h':qU T k N x):∃vs,M vs∧N vs:=by
 obtain⟨a,o,vs,rfl,k1,q1,r1⟩:=h;obtain⟨b,p,us,e,k2,q2,r2⟩:=h'
 (injection e with e;subst e)
 rw[k1]at k2;(replace k2:=ë k2;subst k2);obtain rfl:=q1.inj q2;exact⟨_,r1,r2⟩
theorem q_{f:V→V→Option Bool}{a b:List V}{r:Bool}(h:pJ f a b=some r):a.length=b.length∧∃e:Nat→Bool,(∀i x y,ç a i=some x→ç b i=some y→f x y=some (e i))∧(bQ a.length).all e=r:=by
 induction a generalizing b r with
 |nil=>
  induction b using Ŭ with
  |nil=>(replace h:=ë h;subst h);exact⟨rfl,fun À=>true,fun À À À h=>nS h,rfl⟩
  |cons=>exact nS h
 |cons x a IH=>
  induction b using Ŭ with
  |nil=>exact nS h
  |cons y b=>
   refine ï h fun p h1 h=>?_;refine ï h fun q h2 h=>?_
   (replace h:=ë h;subst h)
   obtain⟨hl,e,he,rfl⟩:=IH h2;refine⟨congrArg (· +1) hl,fun i=>match i with|0=>p|i+1=>e i,fun i u v hu hv=>?_,?_⟩
   ·induction i using mK with
    |zero=>(replace hu:=ë hu;subst hu);(replace hv:=ë hv;subst hv);exact h1
    |succ i=>exact he i u v hu hv
   ·rw[ă,List.range_succ_eq_map,gI,List.all_map];rfl
theorem ky{α:Type}:∀{l:List α} {i:Nat} (h:i<l.length),ç l i=some l[i]
 |[],i,h=>absurd h (Nat.not_lt_zero i)
 |_::r,i,h=>match i,h with
  |0,_=>rfl
  |i+1,h=>ky (l:=r) (Bi h)
theorem Ý.ç{Y:Sta}{k:FH}:∀{l:List V} {xs:List Value},Ý Y k l xs→∀{i x} (h:i<xs.length),Internal.ç l i=some x→Rep Y k x xs[i]
 |[],_,_,_,_,_,hn=>by exact nS hn
 |_::_,_,q,i,x,h,hn=>by
  obtain⟨v,r,rfl,h1,h2⟩:=q
  induction i using mK with
  |zero=>(replace hn:=ë hn;subst hn);exact h1
  |succ i=>exact Ý.ç h2 (Bi h) hn
theorem kY{α β:Type}{a:List α}{b:List β}:et a b=decide (a.length=b.length):=by
 induction a generalizing b with
 |nil=>
  induction b using Ŭ<;>rfl
 |cons _ r IH=>
  induction b using Ŭ with
  |nil=>rfl
  |cons x t=>exact(IH (b:=t)).trans (decide_eq_decide.mpr ⟨congrArg (· +1),Nat.succ.inj⟩)
theorem nz{Y:Sta}{k:FH}{f:V→V→Option Bool}(hf:∀{a b r x},f a b=some r→Rep Y k a x→Rep Y k b x→r=true){a b:List V}{r:Bool}{xs:List Value}(h:pJ f a b=some r)(ha:Ý Y k a xs)(hb:Ý Y k b xs):r=true:=by
 induction a generalizing b r xs with
 |nil=>
  induction b using Ŭ with
  |nil=>exact(ë h).symm
  |cons=>exact nS h
 |cons x a IH=>
  induction b using Ŭ with
  |nil=>exact nS h
  |cons y b=>
   refine ï h fun p h1 h=>?_;refine ï h fun q h2 h=>?_;obtain⟨v,t,rfl,a1,a2⟩:=ha;obtain⟨v',t',e,b1,b2⟩:=hb;injection e with e1 e2;subst e1 e2
   obtain rfl:=hf h1 a1 b1;obtain rfl:=IH h2 a2 b2;exact(ë h).symm
theorem iR{Y:Sta}{k:FH}(n:Nat){a b:V}{r:Bool}{x:Value}(h:gu n a b=some r)(ha:Rep Y k a x)(hb:Rep Y k b x):r=true:=by
 induction n generalizing a b r x with
 |zero=>exact nS h
 |succ n IH=>
  induction a using V.casesOn with
  |bool a=>
   refine ï h fun c h1 h2=>?_;obtain rfl:=iO h1;replace h2:=ë h2;subst h2;subst ha;injection (show Value.bool _=_ from hb)with e;subst e;exact beq_self_eq_true _
  |int a=>
   refine ï h fun c h1 h2=>?_;obtain rfl:=iI h1;replace h2:=ë h2;subst h2;obtain⟨t,rfl⟩:=ha;obtain⟨u,e⟩:=hb;injection e with e;subst e;exact decide_eq_true rfl
  |str a=>
   refine ï h fun c h1 h2=>?_;obtain rfl:=iS h1;replace h2:=ë h2;subst h2;obtain⟨t,rfl⟩:=ha;obtain⟨u,e⟩:=hb;injection e with e;injection e with e;injection e with e;subst e;exact ŭ _
  |bytes a=>
   refine ï h fun c h1 h2=>?_;obtain rfl:=iB h1;replace h2:=ë h2;subst h2;obtain⟨c,t,rfl,rfl⟩:=ha;obtain⟨c',u,e,rfl⟩:=hb;injection e with e;subst e;exact ŭ _
  |tup a=>
   refine ï h fun c h1 h2=>?_;obtain rfl:=iT h1;obtain⟨vs,r1,r2⟩:=qU.same ha hb;exact nz IH h2 r1 r2
  |lst a=>
   refine ï h fun c h1 h2=>?_;obtain rfl:=iL h1;obtain⟨vs,r1,r2⟩:=qU.same ha hb;rw[if_pos (kY.trans (decide_eq_true (r1.len.symm.trans r2.len)))]at h2;exact nz IH h2 r1 r2
  |_=>exact nS h
theorem nv{f:V→V→Option Bool}(hf:∀{a b},f a b=some true→a=b){a b:List V}(h:pJ f a b=some true):a=b:=by
 induction a generalizing b with
 |nil=>
  induction b using Ŭ with
  |nil=>rfl
  |cons=>exact nS h
 |cons x a IH=>
  induction b using Ŭ with
  |nil=>exact nS h
  |cons y b=>
   refine ï h fun p h1 h=>?_;refine ï h fun q h2 h=>?_
   (have e1:=aD (ë h);have e2:=aC (ë h))
   subst e1 e2;obtain rfl:=hf h1;obtain rfl:=IH h2;rfl
theorem xT(n:Nat){a b:V}(h:gu n a b=some true):a=b:=by
 induction n generalizing a b with
 |zero=>exact nS h
 |succ n IH=>
  induction a using V.casesOn with
  |bool a=>refine ï h fun c h1 h2=>?_;rw[iO h1,eq_of_beq (ë h2)]
  |int a=>refine ï h fun c h1 h2=>?_;rw[iI h1,show a=c from of_decide_eq_true (ë h2)]
  |str a=>refine ï h fun c h1 h2=>?_;rw[iS h1,þ (ë h2)]
  |bytes a=>refine ï h fun c h1 h2=>?_;rw[iB h1,þ (ë h2)]
  |tup a=>refine ï h fun c h1 h2=>?_;rw[iT h1,nv IH h2]
  |lst a=>
   refine ï h fun c h1 h2=>?_
   induction hs:et a c using ñ with
   |false=>rw[hs]at h2;(injection h2 with h2;exact absurd h2 (by decide))
   |true=>rw[hs]at h2;rw[iL h1,nv IH h2]
  |_=>exact nS h
theorem in1_units(A:Around):A.in1.units=A.units+1:=rfl
theorem Ba(B:Base Z g s H){A:Around}{n:Nat}(ih:∀{a b:V} {r:Bool} {x y:Value},gu n a b=some r→ŝ Z.toSta s.heap g.k a x→ŝ Z.toSta s.heap g.k b y→RcAt A.in1 s x y r){xs ys:List Value}{l m:List V}{e:Nat→Bool}(r1:Ý Z.toSta g.k l xs)(r2:Ý Z.toSta g.k m ys)
  (he:∀i x y,ç l i=some x→ç m i=some y→gu n x y=some (e i))(j:Nat)(h1:j<xs.toArray.size)(h2:j<ys.toArray.size):EqAt A.in1 s xs.toArray[j] ys.toArray[j] (e j):=by
 have h1:j<xs.length:=h1;have h2:j<ys.length:=h2;have k1:=ky (r1.len▸h1:j<l.length);have k2:=ky (r2.len▸h2:j<m.length);have e0:=he j _ _ k1 k2;have p1:=r1.ç h1 k1;have p2:=r2.ç h2 k2;exact EqAt.of_rc (ih e0 (Rep.sU B p1) (Rep.sU B p2)) p1.vk.wI fun q=>iR n e0 p1 (by have q:xs[j]=ys[j]:=q;rw[q];exact p2)
theorem Aj(B:Base Z g s H)(n:Nat){A:Around}{a b:V}{r:Bool}{x y:Value}(h:gu n a b=some r)(hu:A.units+n<cLine)(ha:ŝ Z.toSta s.heap g.k a x)(hb:ŝ Z.toSta s.heap g.k b y):RcAt A s x y r∧RcNeAt A s x y (!r):=by
 induction n generalizing A a b r x y with
 |zero=>exact nS h
 |succ n IH=>
  have V9:A.in1.units+n<cLine:=by rw[in1_units];exact â [_,_,_] (.c (.a (.a Â (.a È Á)) Á) á .z) (.a (.a (.a Â Á) È) Á) á rfl hu
  have LQ:A.units<cLine:=by exact ń (Ż _ _) ‹_›
  induction a using V.casesOn with
  |bool a=>
   refine ï h fun c h1 h2=>?_
   (replace h2:=ë h2;subst h2);obtain rfl:=iO h1
   subst ha;subst hb;exact⟨fun prog w E Q h=>eq_bool h,RcNeAt.bool_bool _ _⟩
  |int a=>
   refine ï h fun c h1 h2=>?_
   (replace h2:=ë h2;subst h2);obtain rfl:=iI h1
   obtain⟨t,rfl⟩:=ha;obtain⟨u,rfl⟩:=hb;exact⟨fun prog w E Q h=>PyProof.Rows.eq_int h,RcNeAt.int_int _ _ _ _⟩
  |str a=>
   refine ï h fun c h1 h2=>?_
   (replace h2:=ë h2;subst h2);obtain rfl:=iS h1
   obtain⟨t,rfl⟩:=ha;obtain⟨u,rfl⟩:=hb;have e:Ø a c=((⟨⟨a⟩⟩:Õ)==⟨⟨c⟩⟩):=by
    rw[cA,←str_beq];exact oO.mpr ⟨fun h=>beq_iff_eq.mpr (of_decide_eq_true h),fun h=>decide_eq_true (eq_of_beq h)⟩
   rw[e];exact⟨fun prog w E Q h=>PyProof.Rows.eq_str h,RcNeAt.str_str _ _ _ _⟩
  |bytes a=>
   refine ï h fun c h1 h2=>?_
   (replace h2:=ë h2;subst h2);obtain rfl:=iB h1
   obtain⟨p,t,rfl,rfl⟩:=ha;obtain⟨q,u,rfl,rfl⟩:=hb;have e:Ø (p.toList.map (·.toNat)) (q.toList.map (·.toNat))=(p.toList==q.toList):=by
    rw[cA,oO];exact⟨fun h=>beq_iff_eq.mpr (bytes_inj (of_decide_eq_true h)),fun h=>decide_eq_true (by rw[eq_of_beq h])⟩
   rw[e];exact⟨fun prog w E Q h=>eq_bytes h,fun prog w E Q h=>ne_bytes h⟩
  |tup a=>
   refine ï h fun c h1 h2=>?_;obtain rfl:=iT h1;obtain⟨hl,e,he,hr⟩:=q_ h2;obtain⟨ad,o,vs,rfl,k1,q1,r1⟩:=ha;obtain⟨UP,o',us,rfl,k2,q2,r2⟩:=hb;have hs:vs.toArray.size=us.toArray.size:=r1.len.trans (hl.trans r2.len.symm);have hh:((bQ (min vs.toArray.size us.toArray.size)).all e&&vs.toArray.size==us.toArray.size)=r:=by
    rw[←hs,Nat.min_self,show vs.toArray.size=a.length from r1.len,hr,beq_self_eq_true,Bool.and_true]
   have ih:=Ba B (fun h ha hb=>(IH h V9 ha hb).1) r1 r2 he;exact hh▸⟨RcAt.tuples (Base.eF k1 q1) (Base.eF k2 q2) LQ ih,RcNeAt.tuples (Base.eF k1 q1) (Base.eF k2 q2) LQ ih⟩
  |lst a=>
   refine ï h fun c h1 h2=>?_;obtain rfl:=iL h1;obtain⟨ad,o,vs,rfl,k1,q1,r1⟩:=ha;obtain⟨UP,o',us,rfl,k2,q2,r2⟩:=hb
   induction PU:et a c using ñ with
   |true=>
    rw[PU]at h2;obtain⟨hl,e,he,hr⟩:=q_ h2;have hs:vs.toArray.size=us.toArray.size:=r1.len.trans (hl.trans r2.len.symm);have hh:(bQ vs.toArray.size).all e=r:=by rw[show vs.toArray.size=a.length from r1.len,hr]
    have ih:=Ba B (fun h ha hb=>(IH h V9 ha hb).1) r1 r2 he;exact hh▸⟨RcAt.lists (Base.isList k1 q1) (Base.isList k2 q2) hs LQ ih,RcNeAt.lists (Base.isList k1 q1) (Base.isList k2 q2) hs LQ ih⟩
   |false=>
    rw[PU]at h2;(replace h2:=ë h2;subst h2);rw[kY]at PU;have hs:(vs.toArray.size !=us.toArray.size)=true:=bne_iff_ne.mpr fun q=>of_decide_eq_false PU (r1.len.symm.trans (Eq.trans q r2.len))
    exact⟨RcAt.lists_lengths (Base.isList k1 q1) (Base.isList k2 q2) hs LQ,RcNeAt.lists_lengths (Base.isList k1 q1) (Base.isList k2 q2) hs LQ⟩
  |_=>exact nS h
end
end
section
set_option maxHeartbeats 4000000
open PySem.SeqAt open AutoSeq1 (wpAny_loadPart') open MeetsSeq MeetsSeq2 MeetsSeq3 SeqRoads2
theorem i6{prog:Program}{w:World}{A:Around}{E:Value→Shared→Prop}{s:Shared}{a b:Int}{t u:Tok}{Q:Value→Shared→Prop}(h:Q (.bool (decide (a<b))) s):wpAny (model prog w) A (richCompare .Lt (.int a t) (.int b u)) Q E s:=PyProof.Rows.lt_int h
theorem i7{prog:Program}{w:World}{A:Around}{E:Value→Shared→Prop}{s:Shared}{a b:Int}{t u:Tok}{Q:Value→Shared→Prop}(h:Q (.bool (decide (b≤a))) s):wpAny (model prog w) A (richCompare .GtE (.int a t) (.int b u)) Q E s:=PyProof.Rows.ge_int h
theorem g3{a b:Int}:decide (b≤a)= !decide (a<b):=by by_cases h:a<b<;>simp[h]<;>exact bP.mp ‹_›
theorem dF{M:Model}{op:CmpOp}{x y:Value}{b:Bool}{A:Around}{Q:ForInStep (Option PySem.Fin×Unit)→Shared→Prop}{E:Value→Shared→Prop}{s:Shared}(hr:∀{Q:Value→Shared→Prop} {E:Value→Shared→Prop},Q (.bool b) s→wpAny M A (richCompare op x y) Q E s)(hq:Q (.done (some (.done (.ret (.bool b))),())) s):wpAny M A (do
    rule "tuple.compare.by-the-first-pair-that-differs"
    let r ←richCompare op x y;let r ←ret r
    pure (ForInStep.done (some r,()))) Q E s:=
 wpAny_bind (wpAny_rule (wpAny_bind (hr (wpAny_bind (wpAny_pure (wpAny_pure hq))))))
theorem iX{M:Model}{a b:Int}{α:Type}{X Y:Sem α}{A:Around}{Q:α→Shared→Prop}{E:Value→Shared→Prop}{s:Shared}(h1:a=b→wpAny M A Y Q E s)(h2:a≠b→wpAny M A X Q E s):wpAny M A (if(!(a==b))=true then X else Y) Q E s:=by
 by_cases h:a=b
 ·rw[show(a==b)=true from beq_iff_eq.mpr h];exact h1 h
 ·rw[show(a==b)=false from beq_eq_false_iff_ne.mpr h];exact h2 h
theorem FC{a b:Int}{c:Bool}(h:a≠b):(ĩ a b||(gJ a b&&c))=decide (a<b):=by simp[ĩ,gJ,h]
theorem FE{a b:Int}{c:Bool}(h:a=b):(ĩ a b||(gJ a b&&c))=c:=by simp[ĩ,gJ,h]
theorem Eu(l b:Addr)(a1 a2 a3 b1 b2 b3:Int)(t1 t2 t3 u1 u2 u3:Tok)(n n2:Nat):
  Meets (Builtin.«tuple.__lt__» ⟨[.ref l,.ref b],[]⟩)
   (fun A R s=>A3 (s.heap.get? l=some {cls:=.type "tuple",data:=.seq #[.int a1 t1,.int a2 t2,.int a3 t3] n}) (s.heap.get? b=some {cls:=.type "tuple",data:=.seq #[.int b1 u1,.int b2 u2,.int b3 u3] n2}) (R (.ok (.ret (.bool (ĩ a1 b1||(gJ a1 b1&&(ĩ a2 b2||(gJ a2 b2&&ĩ a3 b3))))))) s)):=
 .of_wp fun prog w A R s h=>by
  obtain⟨hp,g,d,tk,os⟩:=s;obtain⟨hl,hb,h⟩:=h;have f2:=AutoSeq1.sub_tuple_tuple;wp_walk using wpAny_loadPart' hl,wpAny_loadPart' hb;refine wpAny_eqBool_int (iX (fun h1=>?_) fun h1=>dF i6 (wpAny_pure (wpAny_pure ⟨_,rfl,FC h1▸h⟩)));rw[FE h1]at h;wp_walk;refine wpAny_eqBool_int (iX (fun h2=>?_) fun h2=>dF i6 (wpAny_pure (wpAny_pure ⟨_,rfl,FC h2▸h⟩)));rw[FE h2]at h;wp_walk;refine wpAny_eqBool_int (iX (fun h3=>?_) fun h3=>dF i6 (wpAny_pure (wpAny_pure ⟨_,rfl,h⟩)));subst h3;wp_walk;refine⟨_,rfl,?_⟩
  simpa [ĩ,Builtin.Tuple.tupleCompareSizes]using h
theorem Ew(l b:Addr)(a1 a2 a3 b1 b2 b3:Int)(t1 t2 t3 u1 u2 u3:Tok)(n n2:Nat):
  Meets (Builtin.«tuple.__ge__» ⟨[.ref l,.ref b],[]⟩)
   (fun A R s=>A3 (s.heap.get? l=some {cls:=.type "tuple",data:=.seq #[.int a1 t1,.int a2 t2,.int a3 t3] n}) (s.heap.get? b=some {cls:=.type "tuple",data:=.seq #[.int b1 u1,.int b2 u2,.int b3 u3] n2}) (R (.ok (.ret (.bool (!(ĩ a1 b1||(gJ a1 b1&&(ĩ a2 b2||(gJ a2 b2&&ĩ a3 b3)))))))) s)):=
 .of_wp fun prog w A R s h=>by
  obtain⟨hp,g,d,tk,os⟩:=s;obtain⟨hl,hb,h⟩:=h;have f2:=AutoSeq1.sub_tuple_tuple;wp_walk using wpAny_loadPart' hl,wpAny_loadPart' hb;refine wpAny_eqBool_int (iX (fun h1=>?_) fun h1=>dF i7 (wpAny_pure (wpAny_pure ⟨_,rfl,by rw[g3,←FC h1];exact h⟩)));rw[FE h1]at h;wp_walk;refine wpAny_eqBool_int (iX (fun h2=>?_) fun h2=>dF i7 (wpAny_pure (wpAny_pure ⟨_,rfl,by rw[g3,←FC h2];exact h⟩)));rw[FE h2]at h;wp_walk;refine wpAny_eqBool_int (iX (fun h3=>?_) fun h3=>dF i7 (wpAny_pure (wpAny_pure ⟨_,rfl,by rw[g3];exact h⟩)));subst h3;wp_walk;refine⟨_,rfl,?_⟩
  simpa [ĩ,Builtin.Tuple.tupleCompareSizes]using h
end
section
set_option maxHeartbeats 1000000
set_option maxRecDepth 100000
open PySem.SeqAt open AutoSeq1 (wpAny_loadPart') open MeetsSeq MeetsSeq2 MeetsSeq3 SeqRoads2
section
theorem bT{M:Model}{A:Around}{E:Value→Shared→Prop}{s:Shared}{b:Array UInt8}{t:Tok}{id:String}{Q:Option (Array UInt8)→Shared→Prop}(h:Q (some b) s):
  wpAny M A (Builtin.Bytes.buffer? id (.bytes b t)) Q E s:=wpAny_of_eq KBy.buffer_eq h
theorem iG(b:Array UInt8)(x:Int)(t u:Tok)(h0:0≤x)(h1:x<256):
  Meets (Builtin.«bytes.__contains__» ⟨[.bytes b t,.int x u],[]⟩)
   (fun A R s=>R (.ok (.ret (.bool (b.contains x.toNat.toUInt8)))) s):=
 .of_wp fun prog w A R s h=>by
  obtain⟨hp,g,d,tk,os⟩:=s;have e0:(decide (x<0)||decide (x≥256))=false:=by simp;exact⟨‹_›,‹_›⟩
  repeat (first|(with_reducible first|refine bT ?_|refine wpAny_pure ?_|refine wpAny_bind ?_|refine wpAny_attempt ?_|refine wpAny_rule ?_)|((with_reducible refine wpAny_ite_false ?_ ?_);focus (rfl;done))|((with_reducible refine wpAny_ite_false ?_ ?_);focus (simp[*];done))|wp_delta)
  exact⟨_,rfl,h⟩
theorem uX:typeLookup (.type "bytes") "__index__"=pure none:=by rw[typeLookup_type,builtinLookup_eq_fast];kernel_rfl
theorem uj{M:Model}{A:Around}{E:Value→Shared→Prop}{s:Shared}{Q:Option Value→Shared→Prop}(h:Q none s):
  wpAny M A (typeLookup (.type "bytes") (Str.ofString "__index__")) Q E s:=wpAny_of_eq uX h
theorem jW{α:Type}{M:Model}{A:Around}{E:Value→Shared→Prop}{s:Shared}{cls msg:String}{Q:α→Shared→Prop}(hp:PlainExc cls)(hh:A.handled=none)(hm:(msg:Õ).length≤sizeLine)
  (h:∀h' tk e,(∀b o,s.heap.get? b=some o→h'.get? b=some o)→s.heap.objs.size≤h'.objs.size→E (.ref e) {s with heap:=h',toks:=tk}):
  wpAny M A (raiseErrorMade cls msg:Sem α) Q E s:=by
 unfold raiseErrorMade;refine wpAny_bind (wpAny_mkStr (wpAny_bind ?_) hm);unfold newExc newTuple;refine wpAny_bind (wpAny_newObj_type ?_);refine wpAny_bind (m:=firstArgMember _ _) (wpAny_of_eq (a:=Value.none) (by simp only[firstArgMember,hp.first];rfl) ?_);rw[hp.own];refine wpAny_newObj_type ?_;unfold raiseNew;refine wpAny_bind (wpAny_handled ?_);rw[hh];refine wpAny_bind (wpAny_pure (wpAny_throw ?_));exact h _ _ _ (fun b o hb=>ŏ _ (ŏ _ hb)) (by simp only[Heap.size_push];exact â [_] .z Â (.a (.a Â Á) Á) rfl)
theorem iF(b c:Array UInt8)(t u:Tok):
  Meets (Builtin.«bytes.__contains__» ⟨[.bytes b t,.bytes c u],[]⟩)
   (fun A R s=>A.handled=none∧∀h' tk,(∀b o,s.heap.get? b=some o→h'.get? b=some o)→R (.ok (.ret (.bool (Builtin.Bytes.find? b c 0 b.size).isSome))) {s with heap:=h',toks:=tk}):=
 .of_wp fun prog w A R s h=>by
  obtain⟨hp,g,d,tk,os⟩:=s
  repeat (first|(with_reducible first|refine uj ?_|refine wpAny_pure ?_|refine wpAny_bind ?_|refine wpAny_attempt ?_|refine wpAny_rule ?_)|((with_reducible refine wpAny_ite_false ?_ ?_);focus (rfl;done))|((with_reducible refine wpAny_ite_false ?_ ?_);focus (simp[*];done))|wp_delta)
  refine jW plainExc_TypeError h.1 (by decide+kernel) fun h' kR e k1 k2=>?_
  repeat (first|(with_reducible first|refine bT ?_|refine wpAny_pure ?_|refine wpAny_bind ?_|refine wpAny_attempt ?_|refine wpAny_rule ?_)|((with_reducible refine wpAny_ite_false ?_ ?_);focus (rfl;done))|((with_reducible refine wpAny_ite_false ?_ ?_);focus (simp[*];done))|wp_delta)
  exact⟨_,rfl,h.2 h' kR k1⟩
variable{st:St}{H H':List Cell}
def LG(s:Shared)(h':Heap):Prop:=∀b o,s.heap.get? b=some o→h'.get? b=some o
theorem LG.refl(s:Shared):LG s s.heap:=fun À À e=>e
theorem Base.KP(B:Base Z g s H){h':Heap}(G:LG s h')(t:Nat):Base Z g {s with heap:=h',toks:=t} H:=
 B.gen (h':=h') (fun À=>False) (fun À d=>d.elim) (fun b o À e=>G b o e) (fun À À=>rfl) (fun À d=>d.elim) B.len (fun À À e=>e) fun À À e=>.inl ⟨e,fun À d=>d.elim⟩
theorem Inv.KP(I:Inv Z cx g s st){h':Heap}(G:LG s h')(t:Nat):Inv Z cx g {s with heap:=h',toks:=t} st:=I.next (.refl g) (fun b o e=>G b o e) (I.base.KP G t)
theorem iD{b:Array UInt8}{l:List Nat}(h:b.toList.map (·.toNat)=l)(x:Nat)(hx:x<256):b.contains x.toUInt8=l.any (ö x):=by
 subst h;rw[oO,Array.contains_iff_mem,List.any_eq_true];constructor
 ·intro m;refine⟨x,dT.mpr ⟨x.toUInt8,Array.mem_toList_iff.mpr m,?_⟩,qm x⟩
  simpa using hx
 ·rintro ⟨y,hy,e⟩
  obtain rfl:=ġ e;obtain⟨c,hc,e⟩:=dT.mp hy;have:x.toUInt8=c:=by rw[←e];exact UInt8.toNat_inj.mp (by simp)
  rw[this];exact Array.mem_toList_iff.mp hc
theorem B5{b c:Array UInt8}{l:List Nat}{x:Nat}(h:b.toList.map (·.toNat)=l)(hc:c.toList.map (·.toNat)=[x]):(Builtin.Bytes.find? b c 0 b.size).isSome=l.any (ö x):=by
 obtain⟨y,rfl,rfl⟩:∃y:UInt8,c= #[y]∧y.toNat=x:=by
  obtain⟨c⟩:=c
  induction c using Ŭ with
  |nil=>exact nN hc
  |cons y r=>induction r using Ŭ with
   |nil=>exact⟨y,rfl,by simpa using hc⟩
   |cons z r=>simp at hc
 subst h;unfold Builtin.Bytes.find?;rw[oO,List.find?_isSome,List.any_eq_true];constructor
 ·rintro ⟨i,hi,e⟩
  have e:b.extract i (i+1)= #[y]:=eq_of_beq e;have hy:y∈b:=by
   have:y∈b.extract i (i+1):=by rw[e];simp
   obtain⟨j,hj,e⟩:=Array.mem_extract_iff_getElem.mp this;exact e▸Array.getElem_mem _
  exact⟨y.toNat,dT.mpr ⟨y,Array.mem_toList_iff.mpr hy,rfl⟩,qm _⟩
 ·rintro ⟨n,hn,e⟩
  obtain⟨z,hz,e'⟩:=dT.mp hn;have:y=z:=UInt8.toNat_inj.mp ((ġ e).trans e'.symm);subst this;obtain⟨i,hi,e⟩:=List.getElem_of_mem hz;have hi:i<b.size:=by simpa using hi
  refine⟨i,?_,?_⟩
  ·simp;assumption
  ·have:b.extract i (i+1)= #[y]:=by
    apply Array.ext';simp[Array.toList_extract];rw[Hx (by simpa using hi)];simp at e;simp[e]
   simp[this]
theorem Ok.KP(C:Ok Z d cx A env g s st){h':Heap}(G:LG s h')(t:Nat):Ok Z d cx A env g {s with heap:=h',toks:=t} st:=C.to (.refl g) (C.i.KP G t)
theorem jd:∀{p l:List Nat},lW p l=true↔l.take p.length=p
 |[],l=>by simp[lW]
 |_::_,[]=>by simp[lW]
 |a::r,b::t=>by
  rw[lW,au,jd,ă,List.take_succ_cons,List.cons.injEq];refine and_congr ⟨fun h=>(ġ h).symm,fun h=>by subst h;exact qm _⟩ Iff.rfl
theorem yI{p:List Nat}{l:List Nat}:ś p l=true↔∃i,i≤l.length∧(l.drop i).take p.length=p:=by
 induction l generalizing p with
 |nil=>
  rw[ś,jd];exact⟨fun h=>⟨0,Ĭ _,h⟩,fun ⟨i,_,h⟩=>by simpa using h⟩
 |cons b t IH=>
  rw[ś,Bool.or_eq_true,jd,IH];constructor
  ·rintro (h|⟨i,hi,h⟩)
   ·exact⟨0,Nat.zero_le _,h⟩
   ·exact⟨i+1,Nat.succ_le_succ hi,h⟩
  ·rintro ⟨i,hi,h⟩
   induction i using mK with
   |zero=>exact .inl h
   |succ i=>exact .inr ⟨i,Nat.le_of_succ_le_succ hi,h⟩
theorem n8(p l:List Nat):(!(Builtin.Str.occurrences ⟨⟨l⟩⟩ ⟨⟨p⟩⟩ 0 (⟨⟨l⟩⟩:Õ).length 1).isEmpty)=ś p l:=by
 rw[oO];refine(PySem.StrLaws.found_iff ⟨⟨l⟩⟩ ⟨⟨p⟩⟩).trans (Iff.trans ?_ yI.symm);have hx:(⟨⟨l⟩⟩:Õ).length=l.length:=rfl;have hy:(⟨⟨p⟩⟩:Õ).length=p.length:=rfl;rw[hx,hy];have key:∀i,(Builtin.Str.subAt ⟨⟨l⟩⟩ ⟨⟨p⟩⟩ i=true)↔(l.drop i).take p.length=p:=fun i=>by
  unfold Builtin.Str.subAt;rw[beq_iff_eq,hy];show(Array.mk l).extract i (i+p.length)=Array.mk p↔_;rw[←Array.toList_inj];simp
 constructor
 ·rintro ⟨i,h1,h2⟩;exact⟨i,by exact è (Ż _ _) ‹_›,(key i).mp h2⟩
 ·rintro ⟨i,h1,h2⟩
  refine⟨i,?_,(key i).mpr h2⟩;have:=congrArg oN h2;rw[oK,sG]at this;exact Nat.add_le_of_le_sub' h1 (è (ņ this.symm) (Nat.min_le_right _ _))
open Classical in
def vt(Y:Sta)(k:FH)(b:V)(y:Value):Bool:=decide (Rep Y k b y)
theorem kJ{Y:Sta}{k:FH}{b v:V}{y:Value}{q:Bool}(hr:Rep Y k v y)(hq:gO v b=some q):vt Y k b y=q:=by
 induction q using ñ with
 |true=>obtain rfl:=xT 8 hq;exact @decide_eq_true _ (_) hr
 |false=>exact @decide_eq_false _ (_) fun h=>by cases iR 8 hq hr h
theorem pq{x:V}:∀{l:List V} {r:Bool},fb x l=some r→∀v∈l,∃q,gO v x=some q
 |[],_,_,v,hv=>by cases hv
 |y::t,r,h,v,hv=>by
  refine ï h fun p h1 h=>?_;refine ï h fun q h2 h=>?_;rcases ĸ.mp hv with rfl|hv
  ·exact⟨_,h1⟩
  ·exact pq h2 v hv
theorem Ý.mem{Y:Sta}{k:FH}:∀{l:List V} {xs:List Value},Ý Y k l xs→∀y∈xs,∃v∈l,Rep Y k v y
 |[],_,h,y,hy=>by subst h;cases hy
 |d::l,_,q,y,hy=>by
  obtain⟨v,r,rfl,h1,h2⟩:=q;rcases ĸ.mp hy with rfl|hy
  ·exact⟨d,Ů,h1⟩
  ·obtain⟨v,hv,h⟩:=Ý.mem h2 y hy;exact⟨v,ũ _ hv,h⟩
theorem Lr{Y:Sta}{k:FH}{b:V}{l:List V}{xs:List Value}{r:Bool}(h:fb b l=some r)(q:Ý Y k l xs):xs.any (vt Y k b)=r:=by
 induction l generalizing xs r with
 |nil=>
  subst q;(replace h:=ë h;subst h);rfl
 |cons y t IH=>
  obtain⟨v,r',rfl,h1,h2⟩:=q;refine ï h fun p e1 h=>?_;refine ï h fun q e2 h=>?_
  (replace h:=ë h;subst h)
  rw[ik,kJ h1 e1,IH e2 h2]
theorem Bz(B:Base Z g s H){l:List V}{xs:List Value}{b:V}{x:Value}{r:Bool}{A:Around}(hu:A.units+20<cLine)(hr:Ý Z.toSta g.k l xs)(hb:Rep Z.toSta g.k b x)(h:fb b l=some r):
  (∀y,y∈xs.toArray→EqAt A.in1 s y x (vt Z.toSta g.k b y))∧xs.toArray.any (vt Z.toSta g.k b)=r:=by
 refine⟨fun y hy=>?_,(List.any_toArray ..).trans (Lr h hr)⟩;obtain⟨v,hv,h1⟩:=hr.mem y (List.mem_toArray.mp hy);obtain⟨q,hq⟩:=pq h v hv;rw[kJ h1 hq];exact EqAt.of_rc (Aj B 8 hq (by rw[in1_units];exact â [_,_] (.c (.a (.a Â ŧ) Á) È .z) (.a (.a (.a Â Á) (.n 8)) Á) È rfl hu) (Rep.sU B h1) (Rep.sU B hb)).1 h1.vk.wI fun e=>iR 8 hq h1 (e▸hb)
theorem tK{h:Heap}{k:FH}{Y:Sta}{v:V}{x:Value}(ha:isAtom v=true)(hx:ŝ Y h k v x):Rep Y k v x:=by
 induction v using V.casesOn<;>first|exact hx|exact à ha
theorem lE:∀{a b:List Nat},qc a b=decide (a<b)
 |[],[]=>rfl
 |[],_::_=>rfl
 |_::_,[]=>rfl
 |a::r,b::t=>by
  rw[qc,lE,oO];simp only[Bool.or_eq_true,au,bR,Nat.beq_eq,decide_eq_true_eq,List.cons_lt_cons_iff]
structure vV(Z:ę)(A:Around)(g:Gh)(s:Shared)(H:List Cell):Prop where
 hd:A.handled=none
 u:A.units+20<cLine
 b:Base Z g s H
abbrev uc(s:Shared)(r:Bool)(Q:Value→Shared→Prop):Prop:=∀h' t,LG s h'→Q (.bool r) {s with heap:=h',toks:=t}
theorem uc.now{r:Bool}{Q:Value→Shared→Prop}(h:uc s r Q):Q (.bool r) s:=h s.heap s.toks (.refl s)
def vT(prog:Program)(w:World)(A:Around)(s:Shared)(x y:Value)(r:Bool)(E:Value→Shared→Prop):Prop:=∀Q:Value→Shared→Prop,(uc s r Q→õ prog w A (compareOp .In x y) Q E s)∧(uc s (!r) Q→õ prog w A (compareOp .NotIn x y) Q E s)
theorem By(M:vV Z A g s H){a:V}{l:List V}{r:Bool}{x y:Value}{E}(hx:ŝ Z.toSta s.heap g.k a x)(h:(if isAtom a then fb a l else none)=some r)(hy:ŝ Z.toSta s.heap g.k (.tup l) y∨ŝ Z.toSta s.heap g.k (.lst l) y):vT prog w A s x y r E:=by
 (have ha:=cz h;have h:=cq h)
 intro Q;rcases hy with⟨ad,o,vs,rfl,k1,q1,r1⟩|⟨ad,o,vs,rfl,k1,q1,r1⟩
 ·have:=Bz M.b M.u r1 (tK ha hx) h;rw[←this.2];exact⟨fun hq=>in_tupleAt _ (Base.eF k1 q1) this.1 hq.now,fun hq=>notIn_tupleAt _ (Base.eF k1 q1) this.1 hq.now⟩
 ·have:=Bz M.b M.u r1 (tK ha hx) h;rw[←this.2];exact⟨fun hq=>in_listAt _ (Base.isList k1 q1) this.1 hq.now,fun hq=>notIn_listAt _ (Base.isList k1 q1) this.1 hq.now⟩
theorem BA(M:vV Z A g s H){a:V}{l:List Nat}{r:Bool}{x y:Value}{E}(hx:ŝ Z.toSta s.heap g.k a x)(hy:Pg l y)(h:isIn a (.bytes l)=some r):vT prog w A s x y r E:=by
 obtain⟨b,u,rfl,e2⟩:=hy;intro Q
 induction a using V.casesOn with
 |bytes q=>
  refine ï h fun c h1 h=>?_
  (replace h:=ë h;subst h);cases i1 h1
  obtain⟨p,t,rfl,e1⟩:=hx;have e:=B5 e2 e1;exact⟨fun hq=>in_meets (typeIs_bytes s b u) FB.slot_bytes_contains FB.entry_bytes_contains (FB.args_bytes_contains_2 _ _) (iF b p u t) ⟨M.hd,fun h' tk k=>⟨_,rfl,by rw[e];exact hq h' tk k⟩⟩,
   fun hq=>notIn_meets (typeIs_bytes s b u) FB.slot_bytes_contains FB.entry_bytes_contains (FB.args_bytes_contains_2 _ _) (iF b p u t) ⟨M.hd,fun h' tk k=>⟨_,rfl,by rw[e];exact hq h' tk k⟩⟩⟩
 |int i=>
  (have h1:=cz h;have h:=cq h)
  (have h2:=aC h1;have h1:=aD h1)
  have h1:=gT h1;have h2:=bE h2
  (replace h:=ë h;subst h);obtain⟨t,rfl⟩:=hx
  have e:=iD e2 i.toNat ((Int.toNat_lt h1).mpr h2);exact⟨fun hq=>in_meets (typeIs_bytes s b u) FB.slot_bytes_contains FB.entry_bytes_contains (FB.args_bytes_contains_2 _ _) (iG b _ u t h1 h2) ⟨_,rfl,by rw[e];exact hq.now⟩,
   fun hq=>notIn_meets (typeIs_bytes s b u) FB.slot_bytes_contains FB.entry_bytes_contains (FB.args_bytes_contains_2 _ _) (iG b _ u t h1 h2) ⟨_,rfl,by rw[e];exact hq.now⟩⟩
 |_=>exact nS h
theorem w7(M:vV Z A g s H){a b:V}{r:Bool}{x y:Value}{E}(hx:ŝ Z.toSta s.heap g.k a x)(hy:ŝ Z.toSta s.heap g.k b y)(h:isIn a b=some r):vT prog w A s x y r E:=by
 induction b using V.casesOn with
 |str m=>
  refine ï h fun l h1 h=>?_
  (replace h:=ë h;subst h);cases iS h1
  obtain⟨t,rfl⟩:=hx;obtain⟨u,rfl⟩:=hy;exact fun Q=>⟨fun hq=>PyProof.Rows.in_str (by rw[n8];exact hq.now),fun hq=>PyProof.Rows.notIn_str (by rw[n8];exact hq.now)⟩
 |bytes m=>exact BA M hx hy h
 |tup l=>exact By M hx h (.inl hy)
 |lst l=>exact By M hx h (.inr hy)
 |_=>exact nS h
inductive VC(h:Heap)(p:Int×Int×Int)(x:Value):Prop
 |mk (l:Addr) (t1 t2 t3:Tok) (n:Nat) (e:x=.ref l) (q:h.get? l=some {cls:=.type "tuple",data:=.seq #[.int p.1 t1,.int p.2.1 t2,.int p.2.2 t3] n})
theorem GC{l:List V}{p:Int×Int×Int}{x:Value}{Y:Sta}{h:Heap}{k:FH}(hx:ŝ Y h k (.tup l) x)(q:days l=some p):VC h p x:=by
 refine ï q fun u h0 q=>?_;refine ï q fun a h1 q=>?_;refine ï q fun b h2 q=>?_;refine ï q fun c h3 q=>?_
 (replace q:=ë q;subst q)
 rw[i3 h0,iI h1,iI h2,iI h3]at hx;obtain⟨ad,o,vs,rfl,k1,⟨n,rfl⟩,r⟩:=hx;obtain⟨_,_,rfl,⟨t1,rfl⟩,r⟩:=r;obtain⟨_,_,rfl,⟨t2,rfl⟩,r⟩:=r;obtain⟨_,_,rfl,⟨t3,rfl⟩,r⟩:=r;subst r;exact⟨ad,t1,t2,t3,n,rfl,k1⟩
theorem Na(M:vV Z A g s H){a b:V}{r:Bool}{x y:Value}{Q E}(hx:ŝ Z.toSta s.heap g.k a x)(hy:ŝ Z.toSta s.heap g.k b y)(h:cmp 2 a b=some r)(hq:Q (.bool r) s):õ prog w A (compareOp .Lt x y) Q E s:=by
 induction a using V.casesOn with
 |int i=>
  refine ï h fun j h1 h=>?_
  (replace h:=ë h;subst h);cases iI h1
  obtain⟨t,rfl⟩:=hx;obtain⟨u,rfl⟩:=hy;exact PyProof.Rows.lt_int hq
 |tup l=>
  refine ï h fun m h1 h=>?_;cases iT h1;refine ï h fun p h2 h=>?_;refine ï h fun q h3 h=>?_
  (replace h:=ë h;subst h)
  obtain⟨la,t1,t2,t3,n,rfl,k1⟩:=GC hx h2;obtain⟨lb,u1,u2,u3,n',rfl,k2⟩:=GC hy h3;exact richCompare_meets_room (op:=.Lt) ⟨_,k1,rfl⟩ ⟨_,k2,rfl⟩ F.slot_tuple_lt F.entry_tuple_lt (F.args_tuple_lt_2 _ _) (Eu la lb p.1 p.2.1 p.2.2 q.1 q.2.1 q.2.2 t1 t2 t3 u1 u2 u3 n n') ⟨k1,k2,(fun q=>neT PySem.Value.ctorIdx q rfl),hq⟩ (by have:=M.u;exact ń (Ż _ _) ‹_›)
 |_=>exact nS h
theorem Oh(M:vV Z A g s H){a b:V}{r:Bool}{x y:Value}{Q E}(hx:ŝ Z.toSta s.heap g.k a x)(hy:ŝ Z.toSta s.heap g.k b y)(h:cmp 5 a b=some r)(hq:Q (.bool r) s):õ prog w A (compareOp .GtE x y) Q E s:=by
 induction a using V.casesOn with
 |int i=>
  refine ï h fun j h1 h=>?_
  (replace h:=ë h;subst h);cases iI h1
  obtain⟨t,rfl⟩:=hx;obtain⟨u,rfl⟩:=hy;exact PyProof.Rows.ge_int hq
 |tup l=>
  refine ï h fun m h1 h=>?_;cases iT h1
  (refine cK h fun À h' zq=>?_;obtain rfl:=zq)
  refine ï h' fun p h2 h'=>?_;refine ï h' fun q h3 h'=>?_
  (replace h':=ë h';subst h')
  obtain⟨la,t1,t2,t3,n,rfl,k1⟩:=GC hx h2;obtain⟨lb,u1,u2,u3,n',rfl,k2⟩:=GC hy h3;exact richCompare_meets_room (op:=.GtE) ⟨_,k1,rfl⟩ ⟨_,k2,rfl⟩ F.slot_tuple_ge F.entry_tuple_ge (F.args_tuple_ge_2 _ _) (Ew la lb p.1 p.2.1 p.2.2 q.1 q.2.1 q.2.2 t1 t2 t3 u1 u2 u3 n n') ⟨k1,k2,(fun q=>neT PySem.Value.ctorIdx q rfl),hq⟩ (by have:=M.u;exact ń (Ż _ _) ‹_›)
 |_=>exact nS h
theorem Nh{a b:V}{r:Bool}{x y:Value}{Q E}(hx:ŝ Z.toSta s.heap g.k a x)(hy:ŝ Z.toSta s.heap g.k b y)(h:cmp 3 a b=some r)(hq:Q (.bool r) s):õ prog w A (compareOp .LtE x y) Q E s:=by
 induction a using V.casesOn with
 |int i=>
  refine ï h fun j h1 h=>?_
  (replace h:=ë h;subst h);cases iI h1
  obtain⟨t,rfl⟩:=hx;obtain⟨u,rfl⟩:=hy;exact PyProof.Rows.le_int hq
 |str l=>
  refine ï h fun m h1 h=>?_
  (replace h:=ë h;subst h);cases iS h1
  obtain⟨t,rfl⟩:=hx;obtain⟨u,rfl⟩:=hy;rw[lE]at hq;exact PySem.P.le_str hq
 |_=>exact nS h
theorem w6{a:V}{x:Value}{h:Heap}{k:FH}{Y:Sta}(hx:ŝ Y h k a x):(x==Value.none)=iq a:=by
 induction hx.vk using VK.casesOn with
 |none e q=>subst e q;rfl
 |bool b e=>subst e;induction a using V.casesOn<;>first|rfl|exact neT PySem.Value.ctorIdx hx rfl
 |int b t e=>subst e;induction a using V.casesOn<;>first|rfl|exact neT PySem.Value.ctorIdx hx rfl
 |str b t e=>subst e;induction a using V.casesOn<;>first|rfl|exact neT PySem.Value.ctorIdx hx rfl
 |bytes b t e=>subst e;induction a using V.casesOn<;>first|rfl|exact neT PySem.Value.ctorIdx hx rfl
 |ref b e=>subst e;induction a using V.casesOn<;>first|rfl|exact neT PySem.Value.ctorIdx hx rfl
theorem Ld(M:vV Z A g s H){o:CmpOp}{a b:V}{r:Bool}{x y:Value}{Q:Value→Shared→Prop}{E}(hx:ŝ Z.toSta s.heap g.k a x)(hy:ŝ Z.toSta s.heap g.k b y)
  (h:cmp (tq o) a b=some r)(hq:uc s r Q):õ prog w A (compareOp o x y) Q E s:=by
 have hu:A.units+8<cLine:=ń (Bj (by decide) _) M.u
 induction o using PySem.CmpOp.casesOn with
 |Eq=>exact(Aj M.b 8 h hu hx hy).1 prog w E Q hq.now
 |NotEq=>(refine cK h fun q h' zq=>?_;obtain rfl:=zq);exact(Aj M.b 8 h' hu hx hy).2 prog w E Q hq.now
 |Lt=>exact Na M hx hy h hq.now
 |LtE=>exact Nh hx hy h hq.now
 |Gt=>
  refine ï h fun i h1 h=>?_;refine ï h fun j h2 h=>?_
  (replace h:=ë h;subst h);cases iI h1;cases iI h2
  obtain⟨t,rfl⟩:=hx;obtain⟨u,rfl⟩:=hy;exact PyProof.Rows.gt_int hq.now
 |GtE=>exact Oh M hx hy h hq.now
 |Is=>
  (have h1:=cz h;have h:=cq h)
  (replace h:=ë h;subst h)
  obtain rfl:=PL h1;subst hy;exact is_none (by rw[w6 hx];exact hq.now)
 |IsNot=>
  (have h1:=cz h;have h:=cq h)
  (replace h:=ë h;subst h)
  obtain rfl:=PL h1;subst hy;exact isNot_none (by rw[w6 hx];exact hq.now)
 |In=>exact(w7 M hx hy h Q).1 hq
 |NotIn=>(refine cK h fun q h' zq=>?_;obtain rfl:=zq);exact(w7 M hx hy h' Q).2 hq
theorem xr(l:List Nat):(((⟨⟨l⟩⟩:Õ).length:Int)!=0)= !l.isEmpty:=by
 induction l using Ŭ with
 |nil=>rfl
 |cons x r=>exact bne_iff_ne.mpr (fun e=>by cases e)
theorem kP{k:FH}{Y:Sta}{a:V}{b:Bool}{x:Value}{Q:Bool→Shared→Prop}{E}(hx:ŝ Y s.heap k a x)
  (h:truth a=some b)(hq:∀t,Q b {s with toks:=t}):õ prog w A (truthy x) Q E s:=by
 induction a using V.casesOn with
 |bool c=>(replace h:=ë h;subst h);subst hx;exact wpAny_truthy_bool (hq s.toks)
 |none=>(replace h:=ë h;subst h);subst hx;exact truthy_none (hq s.toks)
 |int i=>(replace h:=ë h;subst h);obtain⟨t,rfl⟩:=hx;exact PyProof.Rows.truthy_int (hq s.toks)
 |str l=>
  (have h1:=cz h;have h:=cq h)
  (replace h:=ë h;subst h);obtain⟨t,rfl⟩:=hx
  have:=Ĥ h1;exact PySem.P.truthy_str (show ¬((l.length:Nat):Int)≥2^63 from Int.not_le.mpr (bx.mpr (oJ this (show 1000000<2^63 by decide)))) (by rw[xr];exact hq _)
 |bytes l=>
  (have h1:=cz h;have h:=cq h)
  (replace h:=ë h;subst h);obtain⟨c,t,rfl,rfl⟩:=hx
  have:=Ĥ h1;rw[ĕ]at this;have hl:c.size=c.toList.length:=rfl;refine truthy_bytes (by exact aW (ip ‹_› (by decide))) ?_;have e:((c.size:Int)!=0)= !(c.toList.map (·.toNat)).isEmpty:=by rw[←xr,show(⟨⟨c.toList.map (·.toNat)⟩⟩:Õ).length=c.size from ĕ ..]
  rw[e];exact hq _
 |lst l=>
  (have h1:=cz h;have h:=cq h)
  (replace h:=ë h;subst h)
  obtain⟨ad,o,vs,rfl,k1,q1,r1⟩:=hx;have:=Ĥ h1;have hl:=r1.len;refine wpAny_truthy_list (Base.isList k1 q1) (bx.mpr (oJ (ń (ņ (ź.trans hl)) this) (show 1000000<2^63 by decide))) ?_;have e:vs.toArray.isEmpty=l.isEmpty:=by
   induction l using Ŭ with
   |nil=>subst r1;rfl
   |cons=>obtain⟨_,_,rfl,_⟩:=r1;rfl
  rw[e];exact hq _
 |_=>exact nS h
end
end
section
section
variable(prog:Program)(w:World)(Z:ę)
noncomputable abbrev kj(ifs:List Expr)(env:Env)(b:Bool):Sem Bool:=forIn ifs b fun c r=>if r=true then do let ok ←isTrue c env (eval c env);pure (ForInStep.yield ok)else pure (ForInStep.yield r)
structure jT(d:Nat)(q:Bool)(es:List PE)(st ĉ:St)(b:Bool):Prop where
 t:∀cx xs o env A g s Q E,(o==BoolOp.And)=q→fh cx xs=es→Ok Z d cx A env g s st→mF Z d cx A env g ĉ (Q b)→õ prog w A (allTrue o xs env) Q E s
 l:∀cx xs env A g s Q E,q=true→fh cx xs=es→Ok Z d cx A env g s st→mF Z d cx A env g ĉ (Q b)→õ prog w A (kj xs env true) Q E s
def zl(d:Nat)(v:V)(ops:List Nat)(es:List PE)(st ĉ:St)(r:Bool):Prop:=∀cx os xs env A g s x E pos,os.map tq=ops→fh cx xs=es→xs.any isSet=false→Ok Z d cx A env g s st→Ć Z g v x→
 (∀Q,mF Z d cx A env g ĉ (Q (.bool r))→õ prog w A (compareChain pos x os (markedEach os xs (evalEach xs env))) Q E s)∧
  (∀Q,mF Z d cx A env g ĉ (Q r)→õ prog w A (testChain pos x os (markedEach os xs (evalEach xs env))) Q E s)
def CW(d:Nat)(q:Bool)(es:List PE)(st ĉ:St)(v:V):Prop:=∀cx xs o env A g s Q E pos,(o==BoolOp.And)=q→fh cx xs=es→Ok Z d cx A env g s st→Iw Z d cx A env g ĉ v Q→õ prog w A (boolOp pos o (evalEach xs env)) Q E s
end
variable{st ĉ S Å Í:St}{H H':List Cell}{ρ κ:List (Option V)}{v x y x' y' v':V}{vs:List V}{e a b t:PE}{es:List PE}{q p:Bool}
theorem Iw.mono{Q:Value→Shared→Prop}(h:Iw Z d cx A env g st v Q)(G:Gst g g'):Iw Z d cx A env g' st v Q:=fun À À À G'=>h _ _ _ (G.trans G')
theorem mF.mono{Q:Shared→Prop}(h:mF Z d cx A env g st Q)(G:Gst g g'):mF Z d cx A env g' st Q:=fun À À G'=>h _ _ (G.trans G')
theorem Ok.view(C:Ok Z d cx A env g s st){v v':V}{x:Value}(hv:Ć Z g v x)(h:view st.H v=some v'):ŝ Z.toSta s.heap g.k v' x:=xR C.base hv h
theorem Ok.cmp(C:Ok Z d cx A env g s st):vV Z A g s st.H:=⟨C.r.hd,by have:=C.r.units;exact â [_,_,_] (.c (.a (.a (.a Â (.m 20 á)) bM) Á) È .z) (.a (.a Â ŧ) Á) È rfl this,C.base⟩
theorem Jt:Ļ prog w Z d [] S S []:=by
 intro cx xs env A g s Q E pos hx hp C hq;obtain rfl:=gk hx;exact wpAny_items_nil (hq g s [] (.refl g) C rfl)
theorem eA{x:Expr}{r:List Expr}(h:plain (x::r)=true):isStar x=false∧plain r=true:=by
 unfold plain at h;rw[gI]at h;exact⟨nn (oa h).1,(oa h).2⟩
theorem nI{x:Expr}{r:List Expr}(h:isStar x=false):starEach (x::r) env=(false,eval x env)::starEach r env:=by
 induction x using PySem.Expr.casesOn<;>first|rfl|exact Ĕ h
theorem Ju(h1:ű prog w Z d e S Å v)(h2:Ļ prog w Z d es Å Í vs):Ļ prog w Z d (e::es) S Í (v::vs):=by
 intro cx xs env A g s Q E pos hx hp C hq;obtain⟨x,r,rfl,e1,e2⟩:=aa hx;obtain⟨p1,p2⟩:=eA hp;refine wpAny_items_cons ?_ (nI p1);refine h1 _ _ _ _ _ _ _ _ e1 C fun Û ò Ŷ Ñ Ï ô=>?_;refine h2 _ _ _ _ _ _ _ _ _ e2 p2 Ï fun ó ļ xU ú æ Ű=>?_;exact hq _ _ _ (Ñ.trans ú) æ ⟨_,_,rfl,ô.mono ú,Ű⟩
theorem jv{Q:Bool→Shared→Prop}{E:Value→Shared→Prop}:∀(es:List Expr),Q false s→õ prog w A (kj es env false) Q E s
 |[],h=>wpAny_pure h
 |e::r,h=>by
  show wpAny _ A (forIn (e::r) false _) Q E s;rw[List.forIn_cons];exact wpAny_bind (wpAny_pure (jv r h))
theorem Jn:jT prog w Z d q [] S S q where
 t cx xs o env A g s Q E ho hx C hq:=by
  obtain rfl:=gk hx;subst ho
  induction o using PySem.BoolOp.casesOn
  ·exact wpAny_allTrue_And_nil (hq g s (.refl g) C)
  ·exact wpAny_allTrue_Or_nil (hq g s (.refl g) C)
 l cx xs env A g s Q E ho hx C hq:=by
  obtain rfl:=gk hx;subst ho;exact wpAny_pure (hq g s (.refl g) C)
theorem Jo{u:Bool}(h1:gA prog w Z d e S Å p)(h2:p=q→jT prog w Z d q es Å Í u)(h3:p=(!q)→(Í,u)=(Å,p)):jT prog w Z d q (e::es) S Í u where
 t cx xs o env A g s Q E ho hx C hq:=by
  obtain⟨x,r,rfl,e1,e2⟩:=aa hx;subst ho
  induction o using PySem.BoolOp.casesOn
  ·refine wpAny_allTrue_And_cons (h1 _ _ _ _ _ _ _ _ e1 C fun Û ò Ñ Ï=>?_)
   induction p using ñ
   ·cases h3 rfl;exact hq _ _ Ñ Ï
   ·exact(h2 rfl).t _ _ _ _ _ _ _ _ _ rfl e2 Ï (hq.mono Ñ)
  ·refine wpAny_allTrue_Or_cons (h1 _ _ _ _ _ _ _ _ e1 C fun Û ò Ñ Ï=>?_)
   induction p using ñ
   ·exact(h2 rfl).t _ _ _ _ _ _ _ _ _ rfl e2 Ï (hq.mono Ñ)
   ·cases h3 rfl;exact hq _ _ Ñ Ï
 l cx xs env A g s Q E ho hx C hq:=by
  obtain⟨x,r,rfl,e1,e2⟩:=aa hx;subst ho;show wpAny _ A (forIn (x::r) true _) Q E s;rw[List.forIn_cons];refine wpAny_bind (wpAny_bind (h1 _ _ _ _ _ _ _ _ e1 C fun Û ò Ñ Ï=>wpAny_pure ?_))
  induction p using ñ
  ·cases h3 rfl;exact jv r (hq _ _ Ñ Ï)
  ·exact(h2 rfl).l _ _ _ _ _ _ _ _ rfl e2 Ï (hq.mono Ñ)
theorem MO(h1:ű prog w Z d e S Å v):CW prog w Z d q [e] S Å v:=by
 intro cx xs o env A g s Q E pos ho hx C hq;obtain⟨x,r,rfl,e1,e2⟩:=aa hx;obtain rfl:=gk e2;exact h1 _ _ _ _ _ _ _ _ e1 C hq
theorem MN{u:V}(h1:ű prog w Z d e S ⟨H,ρ,κ⟩ v)(h2:view H v=some v')(h3:truth v'=some p)(h4:p=q→CW prog w Z d q (a::es) ⟨H,ρ,κ⟩ Í u)(h5:p=(!q)→(Í,u)=(⟨H,ρ,κ⟩,v)):CW prog w Z d q (e::a::es) S Í u:=by
 intro cx xs o env A g s Q E pos ho hx C hq;obtain⟨x,r,rfl,e1,e2⟩:=aa hx;obtain⟨y,r,rfl,_,_⟩:=aa e2;subst ho;show õ prog w A (do
  let v ←eval x env
  standAt pos
  let t ←holding [v] (truthy v)
  match o,t with
  |.And,false|.Or,true=>pure v
  |_,_=>boolOp pos o (evalEach (y::r) env)) Q E s
 refine wpAny_bind (h1 _ _ _ _ _ _ _ _ e1 C fun Û ò Ŷ Ñ Ï ô=>?_);refine wpAny_bind (wpAny_standAt (wpAny_bind (wpAny_holding ?_)));refine kP (Ï.view ô h2) h3 fun t=>?_
 induction o using PySem.BoolOp.casesOn<;>induction p using ñ
 ·cases h5 rfl;exact wpAny_pure (hq _ _ _ Ñ (Ï.toks t) ô)
 ·exact h4 rfl _ _ _ _ _ _ _ _ _ _ rfl e2 (Ï.toks t) (hq.mono Ñ)
 ·exact h4 rfl _ _ _ _ _ _ _ _ _ _ rfl e2 (Ï.toks t) (hq.mono Ñ)
 ·cases h5 rfl;exact wpAny_pure (hq _ _ _ Ñ (Ï.toks t) ô)
theorem qh{o:CmpOp}{e:Expr}{t:Sem Value}(h:isSet e=false):markedBehindIn o e t=t:=by
 refine markedBehindIn_of_false ?_
 induction e using PySem.Expr.casesOn<;>first|rfl|exact Ĕ h
theorem qY{M:Model}{A:Around}{E:Value→Shared→Prop}{s:Shared}{vs:List Value}{m:Sem Value}{Q:Value→Shared→Prop}(h:wpAny M A m Q E s):wpAny M A (operate vs m) Q E s:=
 fun Γ p V8=>by rw[Sem.wp_operate];exact h Γ p V8
theorem dD{M:Model}{A:Around}{E:Value→Shared→Prop}{s:Shared}{vs ks:List Value}{Q:Unit→Shared→Prop}(h:Q () s):wpAny M A (release vs ks) Q E s:=
 fun Γ p V8=>by rw[Sem.wp_release];exact h
theorem iE{n:Nat}{o:CmpOp}{z:Expr}{u:Value}{E:Value→Shared→Prop}{Q:Value→Value→Shared→Prop}(h1:ű prog w Z d e S ⟨H,ρ,κ⟩ y)(h2:view H x=some x')(h3:view H y=some y')(h4:cmp n x' y'=some q)(ho:tq o=n)(hz:er cx z=e)(C:Ok Z d cx A env g s S)(hx:Ć Z g x u)
  (hq:∀Û ò Ŷ,Gst g Û→Ok Z d cx A env Û ò ⟨H,ρ,κ⟩→Ć Z Û y Ŷ→Q Ŷ (.bool q) ò):õ prog w A (eval z env) (fun Ŷ ò=>õ prog w A (compareOp o u Ŷ) (Q Ŷ) E ò) E s:=by
 refine h1 _ _ _ _ _ _ _ _ hz C fun Û ò Ŷ Ñ Ï ô=>?_;refine Ld Ï.cmp (Ï.view (hx.mono Ñ) h2) (Ï.view ô h3) (ho▸h4) fun h' t k=>?_;exact hq _ _ _ Ñ (Ï.KP k t) ô
theorem MM{n:Nat}(h1:ű prog w Z d e S ⟨H,ρ,κ⟩ y)(h2:view H x=some x')(h3:view H y=some y')(h4:cmp n x' y'=some q):zl prog w Z d x [n] [e] S ⟨H,ρ,κ⟩ q:=by
 intro cx os xs env A g s u E pos ho hx hs C hv;obtain⟨z,r,rfl,e1,e2⟩:=aa hx;obtain rfl:=gk e2
 induction os using Ŭ with
 |nil=>exact nN ho
 |cons o os=>
 obtain⟨eo,e3⟩:=List.cons.inj ho;obtain rfl:=List.map_eq_nil_iff.mp e3;have hm:markedEach [o] [z] (evalEach [z] env)=[eval z env]:=by
  show[markedBehindIn o z _]=_;rw[qh (by simpa using hs)]
 rw[hm];refine⟨fun Q hq=>?_,fun Q hq=>?_⟩
 ·show õ prog w A (do
   let rv ←holding [u] (eval z env)
   standAt pos
   operate [u,rv] (compareOp o u rv)) Q E s
  refine wpAny_bind (wpAny_holding (wpAny_mono (iE (Q:=fun À=>Q) h1 h2 h3 h4 eo e1 C hv fun Û ò Ŷ Ñ Ï À=>hq _ _ Ñ Ï) (fun Ŷ ò h=>?_) fun À À e=>e));exact wpAny_bind (wpAny_standAt (qY h))
 ·show õ prog w A (do
   let rv ←holding [u] (eval z env)
   standAt pos
   let c ←operate [u,rv] (compareOp o u rv)
   holding [c] (truthy c)) Q E s
  refine wpAny_bind (wpAny_holding (wpAny_mono (iE (Q:=fun À c s=>õ prog w A (holding [c] (truthy c)) Q E s) h1 h2 h3 h4 eo e1 C hv fun Û ò Ŷ Ñ Ï À=>wpAny_holding (wpAny_truthy_bool (hq _ _ Ñ Ï))) (fun Ŷ ò h=>?_) fun À À e=>e));exact wpAny_bind (wpAny_standAt (wpAny_bind (qY h)))
theorem uV{o':CmpOp}{os:List CmpOp}{e':Expr}{es:List Expr}{env:Env}:T2 fun t ts=>markedEach (o'::os) (e'::es) (evalEach (e'::es) env)=t::ts:=by
 show T2 fun t ts=>markedEach (o'::os) (e'::es) (eval e' env::evalEach es env)=t::ts
 induction os using Ŭ<;>induction es using Ŭ<;>exact⟨_,_,rfl⟩
theorem ML{n m:Nat}{ops:List Nat}(h1:ű prog w Z d e S ⟨H,ρ,κ⟩ y)(h2:view H x=some x')(h3:view H y=some y')(h4:cmp n x' y'=some q)(h5:q=true→zl prog w Z d y (m::ops) (a::es) ⟨H,ρ,κ⟩ Í p)(h6:q=false→(Í,p)=(⟨H,ρ,κ⟩,false)):
  zl prog w Z d x (n::m::ops) (e::a::es) S Í p:=by
 intro cx os xs env A g s u E pos ho hx hs C hv;obtain⟨z,r,rfl,e1,e2⟩:=aa hx;obtain⟨z',r,rfl,e3,e4⟩:=aa e2
 induction os using Ŭ with
 |nil=>exact nN ho
 |cons o os=>
 obtain⟨eo,e5⟩:=List.cons.inj ho
 induction os using Ŭ with
 |nil=>exact nN e5
 |cons o' os=>
 rw[ik,wY]at hs;obtain⟨t,ts,ht⟩:=uV (o':=o') (os:=os) (e':=z') (es:=r) (env:=env);have hm:markedEach (o::o'::os) (z::z'::r) (evalEach (z::z'::r) env)=eval z env::t::ts:=by rw[←ht];rfl
 rw[hm];refine⟨fun Q hq=>?_,fun Q hq=>?_⟩
 ·show õ prog w A (do
   let rv ←holding [u] (eval z env)
   standAt pos
   let c ←holding [u,rv] (compareOp o u rv)
   release [u,rv] [c]
   if ←holding [c,rv] (truthy c)then compareChain pos rv (o'::os) (t::ts)else pure c) Q E s
  refine wpAny_bind (wpAny_holding (wpAny_mono (iE (Q:=fun rv c s=>õ prog w A (do
   release [u,rv] [c]
   if ←holding [c,rv] (truthy c)then compareChain pos rv (o'::os) (t::ts)else pure c) Q E s) h1 h2 h3 h4 eo e1 C hv fun Û ò Ŷ Ñ Ï ô=>?_) (fun Ŷ ò h=>?_) fun À À e=>e))
  ·refine wpAny_bind (dD (wpAny_bind (wpAny_holding (wpAny_truthy_bool ?_))))
   induction q using ñ with
   |true=>rw[if_pos rfl,←ht];exact(h5 rfl _ _ _ _ _ _ _ _ _ _ e5 e2 hs.2 Ï ô).1 Q (hq.mono Ñ)
   |false=>cases h6 rfl;exact wpAny_pure (hq _ _ Ñ Ï)
  ·exact wpAny_bind (wpAny_standAt (wpAny_bind (wpAny_holding h)))
 ·show õ prog w A (do
   let rv ←holding [u] (eval z env)
   standAt pos
   let c ←holding [u,rv] (compareOp o u rv)
   release [u,rv] [c]
   if ←holding [c,rv] (truthy c)then testChain pos rv (o'::os) (t::ts)else pure false) Q E s
  refine wpAny_bind (wpAny_holding (wpAny_mono (iE (Q:=fun rv c s=>õ prog w A (do
   release [u,rv] [c]
   if ←holding [c,rv] (truthy c)then testChain pos rv (o'::os) (t::ts)else pure false) Q E s) h1 h2 h3 h4 eo e1 C hv fun Û ò Ŷ Ñ Ï ô=>?_) (fun Ŷ ò h=>?_) fun À À e=>e))
  ·refine wpAny_bind (dD (wpAny_bind (wpAny_holding (wpAny_truthy_bool ?_))))
   induction q using ñ with
   |true=>rw[if_pos rfl,←ht];exact(h5 rfl _ _ _ _ _ _ _ _ _ _ e5 e2 hs.2 Ï ô).2 Q (hq.mono Ñ)
   |false=>cases h6 rfl;exact wpAny_pure (hq _ _ Ñ Ï)
  ·exact wpAny_bind (wpAny_standAt (wpAny_bind (wpAny_holding h)))
theorem Q7{ops:List Nat}{bs:List PE}(h1:ű prog w Z d a S Å x)(h2:zl prog w Z d x ops bs Å Í q):ű prog w Z d (.cm a ops bs) S Í (.bool q):=by
 intro cx x env A g s Q E hx C hq;obtain⟨y,os,zs,p,rfl,hs,e1,e2,e3⟩:=iv hx;rw[arm_eval_Compare];refine wpAny_bind (h1 _ _ _ _ _ _ _ _ e1 C fun Û ò Ŷ Ñ Ï ô=>?_);exact(h2 _ _ _ _ _ _ _ _ _ _ e2 e3 hs Ï ô).1 Q fun ó ļ ú æ=>hq _ _ _ (Ñ.trans ú) æ rfl
theorem Jr{ops:List Nat}{bs:List PE}(h1:ű prog w Z d a S Å x)(h2:zl prog w Z d x ops bs Å Í q):gA prog w Z d (.cm a ops bs) S Í q:=by
 intro cx x env A g s Q E hx C hq;obtain⟨y,os,zs,p,rfl,hs,e1,e2,e3⟩:=iv hx;show õ prog w A (do testChain p (←eval y env) os (markedEach os zs (evalEach zs env))) Q E s;refine wpAny_bind (h1 _ _ _ _ _ _ _ _ e1 C fun Û ò Ŷ Ñ Ï ô=>?_);exact(h2 _ _ _ _ _ _ _ _ _ _ e2 e3 hs Ï ô).2 Q (hq.mono Ñ)
theorem Q_(h1:CW prog w Z d q es S Å v):ű prog w Z d (.bo q es) S Å v:=by
 intro cx x env A g s Q E hx C hq;obtain⟨o,ys,p,rfl,ho,e1⟩:=iv hx;rw[arm_eval_BoolOp];exact h1 _ _ _ _ _ _ _ _ _ _ ho e1 C hq
theorem Js(h1:jT prog w Z d q es S Å p):gA prog w Z d (.bo q es) S Å p:=by
 intro cx x env A g s Q E hx C hq;obtain⟨o,ys,p,rfl,ho,e1⟩:=iv hx;exact h1.t _ _ _ _ _ _ _ _ _ ho e1 C hq
theorem JX{x:Value}{Q:Value→Shared→Prop}{E}(h:õ prog w A (truthy x) (fun b s'=>Q (.bool !b) s') E s):õ prog w A (unaryOp .Not x) Q E s:=not_value h
theorem QR(h1:ű prog w Z d e S ⟨H,ρ,κ⟩ v)(h2:view H v=some v')(h3:truth v'=some q):ű prog w Z d (.nt e) S ⟨H,ρ,κ⟩ (.bool !q):=by
 intro cx x env A g s Q E hx C hq;obtain⟨y,p,rfl,e1⟩:=iv hx;rw[arm_eval_UnaryOp];refine wpAny_bind (h1 _ _ _ _ _ _ _ _ e1 C fun Û ò Ŷ Ñ Ï ô=>?_);refine wpAny_bind (wpAny_standAt (wpAny_holding (JX ?_)));exact kP (Ï.view ô h2) h3 fun t=>hq _ _ _ Ñ (Ï.toks t) rfl
theorem QS{i:Int}(h1:ű prog w Z d e S Å (.int i)):ű prog w Z d (.ng e) S Å (.int (-i)):=by
 intro cx x env A g s Q E hx C hq;obtain⟨y,p,rfl,e1⟩:=iv hx;rw[arm_eval_UnaryOp];refine wpAny_bind (h1 _ _ _ _ _ _ _ _ e1 C fun Û ò Ŷ Ñ Ï ô=>?_);refine wpAny_bind (wpAny_standAt (wpAny_holding ?_));obtain⟨t,rfl⟩:=ô;exact PyProof.Rows.neg_int (hq _ _ _ Ñ (Ï.toks _) ⟨_,rfl⟩)
theorem QK(h1:gA prog w Z d t S Å q)(h2:q=true→ű prog w Z d a Å Í v)(h3:q=false→ű prog w Z d b Å Í v):ű prog w Z d (.te t a b) S Í v:=by
 intro cx x env A g s Q E hx C hq;obtain⟨y,z,u,p,rfl,e1,e2,e3⟩:=iv hx;rw[arm_eval_IfExp];refine wpAny_bind (h1 _ _ _ _ _ _ _ _ e1 C fun Û ò Ñ Ï=>?_)
 induction q using ñ with
 |true=>exact h2 rfl _ _ _ _ _ _ _ _ e2 Ï (hq.mono Ñ)
 |false=>exact h3 rfl _ _ _ _ _ _ _ _ e3 Ï (hq.mono Ñ)
theorem Jp(h1:gA prog w Z d t S Å q)(h2:q=true→gA prog w Z d a Å Í p)(h3:q=false→gA prog w Z d b Å Í p):gA prog w Z d (.te t a b) S Í p:=by
 intro cx x env A g s Q E hx C hq;obtain⟨y,z,u,p,rfl,e1,e2,e3⟩:=iv hx;show õ prog w A (do if ←isTrue y env (eval y env)then isTrue z env (eval z env)else isTrue u env (eval u env)) Q E s;refine wpAny_bind (h1 _ _ _ _ _ _ _ _ e1 C fun Û ò Ñ Ï=>?_)
 induction q using ñ with
 |true=>exact h2 rfl _ _ _ _ _ _ _ _ e2 Ï (hq.mono Ñ)
 |false=>exact h3 rfl _ _ _ _ _ _ _ _ e3 Ï (hq.mono Ñ)
theorem Jq(h1:gA prog w Z d e S Å q):gA prog w Z d (.nt e) S Å (!q):=by
 intro cx x env A g s Q E hx C hq;obtain⟨y,p,rfl,e1⟩:=iv hx;show õ prog w A (do return !(←isTrue y env (eval y env))) Q E s;exact wpAny_bind (h1 _ _ _ _ _ _ _ _ e1 C fun Û ò Ñ Ï=>wpAny_pure (hq _ _ Ñ Ï))
theorem isTrue_plain{x:Expr}(h:pS (er cx x)=true):isTrue x env (eval x env)=(do let v ←eval x env;standAt x.pos;holding [v] (truthy v)):=by
 induction x using PySem.Expr.casesOn with
 |Compare a ops bs p=>induction hb: !bs.any isSet using ñ with
  |true=>rw[show er cx (.Compare a ops bs p)=ct (!bs.any isSet) _ from rfl,hb]at h;exact à h
  |false=>rw[show er cx (.Compare a ops bs p)=ct (!bs.any isSet) _ from rfl,hb]at h;exact à h
 |BoolOp=>exact à h
 |IfExp=>exact à h
 |UnaryOp o e p=>induction o using PySem.UnaryOp.casesOn<;>first|rfl|exact à h
 |_=>rfl
theorem MA(hp:pS e=true)(h1:ű prog w Z d e S ⟨H,ρ,κ⟩ v)(h2:view H v=some v')(h3:truth v'=some q):gA prog w Z d e S ⟨H,ρ,κ⟩ q:=by
 intro cx x env A g s Q E hx C hq;rw[isTrue_plain (cx:=cx) (by rw[hx];exact hp)];refine wpAny_bind (h1 _ _ _ _ _ _ _ _ hx C fun Û ò Ŷ Ñ Ï ô=>?_);refine wpAny_bind (wpAny_standAt (wpAny_holding ?_));exact kP (Ï.view ô h2) h3 fun t=>hq _ _ Ñ (Ï.toks t)
end
section
variable{st:St}{H H':List Cell}
def cJ(g:Gh)(s s':Shared):Prop:=∀a o,(g.r a=.loc∨∃i,g.r a=.var i)→s.heap.get? a=some o→∃sl,s'.heap.get? a=some {o with slots:=sl}
theorem LH.Nt{ρ κ:List (Option V)}(F:LH Z cx g s ρ κ)(e:Ę g g')(k:cJ g s s'):LH Z cx g' s' ρ κ:=by
 refine⟨e.L▸e.loc _ F.loc,?_,fun i ov q=>?_⟩
 ·obtain⟨m,⟨o,es,ep,ho,hd,r⟩,hm⟩:=F.locs;obtain⟨sl,sX⟩:=k _ _ (.inl F.loc) ho;refine⟨m,⟨{o with slots:=sl},es,ep,e.L▸sX,hd,r⟩,fun x i v h1 h2=>?_⟩;obtain⟨w,q1,q2⟩:=hm x i v h1 h2;exact⟨w,q1,q2.mono e.toGst⟩
 ·obtain⟨c,w,q1,q2,⟨o,ho,hd⟩,q4⟩:=F.vars i ov q;obtain⟨sl,sX⟩:=k _ _ (.inr ⟨_,q2⟩) ho;refine⟨c,w,e.cs▸q1,e.var _ _ q2,⟨_,sX,hd⟩,fun v hv=>?_⟩;obtain⟨x,y1,y2⟩:=q4 v hv;exact⟨x,y1,y2.mono e.toGst⟩
theorem Inv.fJ(I:Inv Z cx g s st)(e:Ę g g')(k:cJ g s s')(B:Base Z g' s' H'):Inv Z cx g' s' {st with H:=H'}:=⟨B,I.gK.Nt e k⟩
theorem Ok.fJ(C:Ok Z d cx A env g s st)(e:Ę g g')(k:cJ g s s')(B:Base Z g' s' H'):Ok Z d cx A env g' s' {st with H:=H'}:=C.to e.toGst (C.i.fJ e k B)
noncomputable def ů:Role→Bool
 |.loc=>true
 |.var _=>true
 |_=>false
def Gh.down(g:Gh)(h:Heap)(L:Addr)(cs:List Addr):Gh where
 r a:=if a=L then .loc else match cs.idxOf? a with
  |some i=>.var i
  |none=>if ů (g.r a)then(match h.get? a with|some o=>.kept o|none=>.free)else g.r a
 as:=g.as
 L:=L
 cs:=cs
def Gh.up(g gE:Gh):Gh where
 r a:=if ů (g.r a)then g.r a else if ů (gE.r a)then .free else gE.r a
 as:=gE.as
 L:=g.L
 cs:=g.cs
theorem lX{x:Role}(h:ů x=true):x=.loc∨∃i,x=.var i:=by induction x using Role.casesOn<;>first|(exact à h;done)|exact .inl rfl|exact .inr ⟨_,rfl⟩
theorem Base.own(B:Base Z g s H)(a:Addr)(h:ů (g.r a)=true):∃o,s.heap.get? a=some o:=B.alive a fun e=>by rw[e]at h;exact à h
structure Č(s:Shared)(h:Heap)(L:Addr)(cs:List Addr):Prop where
 keep:∀b o,s.heap.get? b=some o→h.get? b=some o
 new:s.heap.objs.size≤L
 above:∀c∈cs,L<c
 there:∃o,h.get? L=some o
 cells:∀c∈cs,∃o,h.get? c=some o
theorem Č.TQ{h:Heap}{L:Addr}{cs:List Addr}(N:Č s h L cs){a:Addr}(ha:a∈cs):s.heap.objs.size≤a:=è N.new (aW (N.above a ha))
theorem Č.idx{h:Heap}{L:Addr}{cs:List Addr}(N:Č s h L cs){a:Addr}(ha:a<s.heap.objs.size):a≠L∧cs.idxOf? a=none:=by
 refine⟨fun e=>?_,?_⟩
 ·subst e;exact sH _ (ip ha N.new)
 ·rw[Bh];exact fun hm=>sH _ (ip ha (N.TQ hm))
theorem Č.size{h:Heap}{L:Addr}{cs:List Addr}(N:Č s h L cs):s.heap.objs.size≤h.objs.size:=by
 obtain⟨o,q⟩:=N.there;exact è N.new (aW (eY q))
theorem vy{h:Heap}{L:Addr}{cs:List Addr}:(g.down h L cs).r L=.loc:=if_pos rfl
theorem Cm{h:Heap}{L:Addr}{cs:List Addr}{a:Addr}{i:Nat}(n:a≠L)(e:cs.idxOf? a=some i):(g.down h L cs).r a=.var i:=by
 show(if a=L then Role.loc else _)=_;rw[if_neg n,e]
theorem qK{h:Heap}{L:Addr}{cs:List Addr}{a:Addr}(n:a≠L)(e:cs.idxOf? a=none):(g.down h L cs).r a=if ů (g.r a)then(match h.get? a with|some o=>.kept o|none=>.free)else g.r a:=by
 show(if a=L then Role.loc else _)=_;rw[if_neg n,e]
theorem d4{h:Heap}{L:Addr}{cs:List Addr}(B:Base Z g s H)(N:Č s h L cs){a:Addr}{x:Role}(e:g.r a=x)(h1:ů x=false)(h2:x≠.free):(g.down s.heap L cs).r a=x:=by
 have ha:a<s.heap.objs.size:=Nat.lt_of_not_le fun l=>h2 (e.symm.trans (B.fresh a l))
 obtain⟨n1,n2⟩:=N.idx ha;rw[qK n1 n2,e,h1];rfl
theorem cF{h:Heap}{L:Addr}{cs:List Addr}(B:Base Z g s H)(N:Č s h L cs){a:Addr}{o:Obj}(e:ů (g.r a)=true)(ho:s.heap.get? a=some o):(g.down s.heap L cs).r a=.kept o:=by
 have ha:a<s.heap.objs.size:=eY ho;obtain⟨n1,n2⟩:=N.idx ha;rw[qK n1 n2,if_pos e,ho]
theorem tA{h:Heap}{L:Addr}{cs:List Addr}(B:Base Z g s H)(N:Č s h L cs):aQ g.k (g.down s.heap L cs).k:=fun a o e=>
 Gh.Ś (d4 B N (Gh.aO e) rfl (by simp))
theorem Base.down(B:Base Z g s H){h:Heap}{L:Addr}{cs:List Addr}(N:Č s h L cs)(t:Nat):Base Z (g.down s.heap L cs) {s with heap:=h,toks:=t} H:=by
 refine B.gen (fun a=>a=L∨a∈cs∨ů (g.r a)=true) ?_ (fun b o À e=>N.keep b o e) (fun b nd=>?_) ?_ B.len (fun À À e=>e) fun i c e=>.inl ⟨e,?_⟩
 ·have fr:∀a,s.heap.objs.size≤a→(∀o,g.r a≠.Ô o)∧g.r a≠.tab:=fun a l=>by
   rw[B.fresh a l];exact⟨(by simp),(by simp)⟩
  rintro a (rfl|hm|ho)
  ·exact fr _ N.new
  ·exact fr _ (N.TQ hm)
  ·refine⟨fun o e=>?_,fun e=>?_⟩<;>rw[e]at ho<;>exact à ho
 ·have n1:b≠L:=fun e=>nd (.inl e)
  have n2:cs.idxOf? b=none:=by rw[Bh];exact fun e=>nd (.inr (.inl e))
  have n3:ů (g.r b)=false:=by rw[←wX];exact fun e=>nd (.inr (.inr e))
  rw[qK n1 n2,n3];rfl
 ·intro a ha
  by_cases e:a=L
  ·subst e;rw[vy];exact⟨(by simp),(by simp),(by simp),fun À=>N.there⟩
  ·induction hc:cs.idxOf? a using š with
   |some i=>
    rw[Cm e hc];refine⟨(by simp),(by simp),(by simp),fun À=>N.cells a ?_⟩;rcases Decidable.em (a∈cs)with m|m
    ·exact m
    ·rw[Bh.mpr m]at hc;exact nS hc
   |none=>
    have own:ů (g.r a)=true:=by
     rcases ha with q|q|q
     ·exact absurd q e
     ·rw[Bh]at hc;exact absurd q hc
     ·exact q
    obtain⟨o,ho⟩:=B.own a own;rw[qK e hc,if_pos own,ho];refine⟨(by simp),fun o' e'=>?_,(by simp),fun À=>⟨o,N.keep a o ho⟩⟩
    (injection e' with e';subst e')
    exact⟨o.slots,N.keep a o ho⟩
 ·rintro b (rfl|hm|ho)
  ·rw[B.fresh _ N.new];exact⟨(by simp),(by simp)⟩
  ·rw[B.fresh b (N.TQ hm)];exact⟨(by simp),(by simp)⟩
  ·rcases lX ho with e|⟨i,e⟩<;>rw[e]<;>exact⟨(by simp),(by simp)⟩
section
variable{gE:Gh}{sE:Shared}{HE:List Cell}{h:Heap}{L:Addr}{cs:List Addr}
theorem um{a:Addr}(e:ů (g.r a)=true):(g.up gE).r a=g.r a:=if_pos e
theorem iU{a:Addr}(e:ů (g.r a)=false)(e':ů (gE.r a)=false):(g.up gE).r a=gE.r a:=by
 show(if ů (g.r a)=true then _ else _)=_;rw[e,e'];rfl
theorem uo(B:Base Z g s H)(N:Č s h L cs)(e:Gst (g.down s.heap L cs) gE):Ę g (g.up gE):=by
 refine⟨⟨fun a o q=>?_,fun a o q=>?_,fun a o q=>?_,e.as,rfl,rfl,fun a q=>?_⟩,fun a i q=>?_⟩
 ·have q:=Gh.aO q;have q':gE.r a=.Ô o:=Gh.aO (e.k a o (Gh.Ś (d4 B N q rfl (by simp))));exact Gh.Ś ((iU (by rw[q];rfl) (by rw[q'];rfl)).trans q')
 ·have q':gE.r a=.kept o:=e.kept a o (d4 B N q rfl (by simp));exact(iU (by rw[q];rfl) (by rw[q'];rfl)).trans q'
 ·have q':gE.r a=.held o:=e.held a o (d4 B N q rfl (by simp));exact(iU (by rw[q];rfl) (by rw[q'];rfl)).trans q'
 ·exact(um (by rw[q];rfl)).trans q
 ·exact(um (by rw[q];rfl)).trans q
theorem pM(B:Base Z g s H)(N:Č s h L cs)(e:Gst (g.down s.heap L cs) gE)(BE:Base Z gE sE HE):cJ g s sE:=fun a o r ho=>by
 have own:ů (g.r a)=true:=by rcases r with q|⟨i,q⟩<;>rw[q]<;>rfl
 exact BE.kept a o (e.kept a o (cF B N own ho))
theorem Md(B:Base Z g s H)(N:Č s h L cs)(e:Gst (g.down s.heap L cs) gE):aQ gE.k (g.up gE).k:=fun a o q=>by
 have q:=Gh.aO q
 induction ho:ů (g.r a)using ñ with
 |true=>
  obtain⟨o',h'⟩:=B.own a ho;have:=e.kept a o' (cF B N ho h');rw[q]at this;exact neT Role.ctorIdx this rfl
 |false=>exact Gh.Ś ((iU ho (by rw[q];rfl)).trans q)
theorem Base.up(B:Base Z g s H)(N:Č s h L cs)(e:Gst (g.down s.heap L cs) gE)(BE:Base Z gE sE HE):Base Z (g.up gE) sE HE:=by
 have:=BE.gen (g':=g.up gE) (h':=sE.heap) (t:=sE.toks) (H':=HE) (fun a=>ů (g.r a)=true∨ů (gE.r a)=true) ?_ (fun À À À e=>e) (fun b nd=>?_) ?_ BE.len (fun À À e=>e) fun i c q=>.inl ⟨q,?_⟩
 ·exact this
 ·rintro a (ho|ho)
  ·obtain⟨o',h'⟩:=B.own a ho;have:=e.kept a o' (cF B N ho h');exact⟨by rw[this];exact(by simp),by rw[this];exact(by simp)⟩
  ·exact⟨fun o q=>(by rw[q]at ho;exact à ho),fun q=>(by rw[q]at ho;exact à ho)⟩
 ·exact iU (by rw[←wX];exact fun q=>nd (.inl q)) (by rw[←wX];exact fun q=>nd (.inr q))
 ·intro a ha
  induction ho:ů (g.r a)using ñ with
  |true=>
   rw[um ho];obtain⟨o',h'⟩:=B.own a ho;have:=BE.kept a _ (e.kept a o' (cF B N ho h'));obtain⟨sl,this⟩:=this;rcases lX ho with q|⟨i,q⟩<;>rw[q]<;>exact⟨(by simp),(by simp),(by simp),fun À=>⟨_,this⟩⟩
  |false=>
   have hE:ů (gE.r a)=true:=by
    rcases ha with q|q
    ·rw[ho]at q;exact à q
    ·exact q
   have:(g.up gE).r a=.free:=by
    show(if ů (g.r a)=true then _ else _)=_;rw[ho,hE];rfl
   rw[this];exact⟨(by simp),(by simp),(by simp),fun q=>absurd rfl q⟩
 ·rintro b (ho|ho)
  ·obtain⟨o',h'⟩:=B.own b ho;have:=e.kept b o' (cF B N ho h');rw[this];exact⟨(by simp),(by simp)⟩
  ·rcases lX ho with q|⟨i,q⟩<;>rw[q]<;>exact⟨(by simp),(by simp)⟩
theorem Ć.up(hk:aQ gE.k (g.up gE).k){v:V}{x:Value}(h:Ć Z gE v x):Ć Z (g.up gE) v x:=by
 induction v using V.casesOn with
 |Ó i=>exact h
 |_=>exact Rep.mono hk h
end
def Gs(Z:ę)(sc:PySem.Scope):Cx:=⟨sc.names,aJ sc.names,ţ sc.names,Z.zB,Z.ŷ⟩
structure g9(Z:ę)(K:dn Z)(j:Nat)(f:Fn)(o:Obj)(fd:FuncData)(body:List Stmt)(names:List Õ)(dv:List Value):Prop where
 tab:K.fn j≠Z.tab
 ho:Z.sh.heap.get? (K.fn j)=some o
 hd:o.data=.func fd
 cd:T4 fun c oc vs t=>A5 (fd.code=.ref c) (c≠Z.tab) (Z.sh.heap.get? c=some oc) (oc.data=.fields vs) (vs[1]? =some (.str fd.qualname t))
 hb:fd.body=.stmts body
 eb:f.body=bG (Gs Z fd.scope) body
 g_:fd.closure=[]
 kind:fd.scope.kind=.function
 co:fd.scope.isCoroutine=false
 gen:fd.scope.isGenerator=false
 xk:fd.globals=mainGlobals
 H6:fd.builtins=builtinsNs
 bd:∀(s:Shared) (xs:List Value),(∀a o,Z.sh.heap.get? a=some o→a≠Z.tab→s.heap.get? a=some o)→xs.length≤names.length→names.length≤xs.length+dv.length→BindsTo s fd ⟨xs,[]⟩ (names.zip (xs++dv.drop (dv.length - (names.length - xs.length))))
 dl:dv.length≤names.length
 rd:Ý Z.toSta (oldK Z) f.ml dv
 ps:names.map (ė (Gs Z fd.scope))=f.ps.map some
 keys:(fd.scope.names.map (·.1)).Nodup
 AU:∀p∈fd.scope.names,p.2≠.free
 nl:f.nl=(aJ fd.scope.names).length
 nc:f.nc=(ţ fd.scope.names).length
 lam:fd.scope.names.lookup ("seen":Õ)=some .cell→fd.code=.ref Z.qk∧(fd.qualname++".<locals>.")++("<lambda>":Õ)=Z.lO
def vR(Z:ę)(g:Gh):Out→Flow→Prop
 |.next,f=>f=.next
 |.ret v,f=>∃x,f=.ret x∧Ć Z g v x
 |_,_=>False
def cH(g:Gh)(s:Shared):Prop:=T3 fun o es n=>s.heap.get? g.L=some o∧o.data=.dict es n
theorem Inv.gG(I:Inv Z cx g s st):cH g s:=by
 obtain⟨m,⟨o,es,ep,ho,hd,_⟩,_⟩:=I.gK.locs;exact⟨o,es,ep,ho,hd⟩
section
variable(prog:Program)(w:World)(Z:ę)(K:dn Z)
inductive Exc(Z:ę)(g:Gh)(h:Heap)(x:Value):Prop
 |mk (a:Addr) (o:Obj) (vs:Array Value) (a0 t:Value) (e:x=.ref a) (r:g.r a=.free) (q:h.get? a=some o) (c:o.cls=.ref (fk 7)) (d:o.data=.fields vs) (h0:vs[0]? =some a0) (h1:vs[1]? =some t)
   (tb:t=.none∨T3 fun T oT ts=>A6 (t=.ref T) (g.r T=.free) (T≠a) (h.get? T=some oT) (oT.data=.fields ts) (ts[3]? =some .none))
abbrev Py(d:Nat)(cx:Cx)(A:Around)(env:Env)(g:Gh)(ĉ:St)(E:Value→Shared→Prop):Prop:=∀g' s' x,Gst g g'→Ok Z d cx A env g' s' ĉ→Exc Z g' s'.heap x→E x s'
structure vU(d:Nat)(cx:Cx)(A:Around)(env:Env)(g:Gh)(ĉ:St)(o:Out)(Q:Flow→Shared→Prop)(E:Value→Shared→Prop):Prop where
 q:∀g' s' f,Gst g g'→Ok Z d cx A env g' s' ĉ→vR Z g' o f→Q f s'
 x:o=.exc→Py Z d cx A env g ĉ E
def Pd(d:Nat)(e:PE)(st ĉ:St):Prop:=∀cx x env A g s Q E,er cx x=e→Ok Z d cx A env g s st→Py Z d cx A env g ĉ E→õ prog w A (eval x env) Q E s
def vN(d:Nat)(x:PS)(st ĉ:St)(o:Out):Prop:=∀cx y env A g s Q E,OB cx y=x→Ok Z d cx A env g s st→vU Z d cx A env g ĉ o Q E→õ prog w A (exec y env) Q E s
def fm(d:Nat)(xs:List PS)(st ĉ:St)(o:Out):Prop:=∀cx ys env A g s Q E,bG cx ys=xs→Ok Z d cx A env g s st→vU Z d cx A env g ĉ o Q E→õ prog w A (execs ys env) Q E s
def cG(d:Nat)(j:Nat)(vs:List V)(H:L)(ĉ:St)(v:V):Prop:=∀A g s xs Q E,ŕ d A g→cH g s→Base Z g s H→ł Z g vs xs→
 (∀g' s' x,Ę g g'→cJ g s s'→Base Z g' s' ĉ.H→Ć Z g' v x→Q x s')→õ prog w A (call (.ref (K.fn j)) xs) Q E s
def vO(d:Nat)(j:Nat)(vs:List V)(H:L)(ĉ:St):Prop:=∀A g s xs Q E,ŕ d A g→cH g s→Base Z g s H→ł Z g vs xs→
 (∀g' s' x,Ę g g'→cJ g s s'→Base Z g' s' ĉ.H→Exc Z g' s'.heap x→E x s')→õ prog w A (call (.ref (K.fn j)) xs) Q E s
end
theorem BC{x:Õ}:∀{l:List Õ} {n i:Nat},idx x l n=some i→n≤i∧ç l (i - n)=some x
 |y::r,n,i,h=>by
  unfold idx at h
  split at h
  ·rename_i e;(replace h:=ë h;subst h);subst e;rw[Nat.sub_self];exact⟨Ĭ _,rfl⟩
  ·obtain⟨h1,h2⟩:=BC h;refine⟨by exact aW ‹_›,?_⟩;have:i - n=(i - (n+1))+1:=by omega
   rw[this];exact h2
theorem dc{x:Õ}{l:List Õ}{i:Nat}(h:idx x l 0=some i):ç l i=some x:=(BC h).2
theorem qw{x y:Õ}{l:List Õ}{i:Nat}(h:idx x l 0=some i)(h':idx y l 0=some i):x=y:=ë ((dc h).symm.trans (dc h'))
theorem aH{α:Type}{l:List α}{i:Nat}{x:α}(h:ç l i=some x):x∈l:=by
 induction l generalizing i x with
 |nil=>
  exact nS h
 |cons _ r IH=>
  exact match i,h with
  |0,h=>by(replace h:=ë h;subst h);exact Ů
  |i+1,h=>ũ _ (IH h)
theorem gS{x:Õ}{l:List Õ}{n:Nat}{i:Nat}(nd:l.Nodup)(h:ç l i=some x):idx x l n=some (n+i):=by
 induction l generalizing n i with
 |nil=>
  exact nS h
 |cons y r IH=>
  obtain⟨nn,nd⟩:=eX.mp nd
  induction i using mK with
  |zero=>(replace h:=ë h;subst h);exact if_pos rfl
  |succ i=>
   have h:ç r i=some x:=h;exact(if_neg (fun e:y=x=>nn (e▸aH h))).trans ((IH nd h).trans (by rw[Nat.succ_add];rfl))
theorem n_{x:Õ}{l:List (Õ×NameKind)}:x∈ţ l↔(x,NameKind.cell)∈l:=by
 induction l with
 |nil=>
  exact⟨nofun,nofun⟩
 |cons fu r IH=>
  obtain⟨y,k⟩:=fu;have ih:=IH
  induction k using PySem.NameKind.casesOn with
  |cell=>rw[show ţ ((y,.cell)::r)=y::ţ r from rfl,ĸ,ĸ,ih,Prod.mk.injEq];exact or_congr (and_iff_left rfl).symm Iff.rfl
  |_=>rw[ĸ];exact ih.trans ⟨.inr,fun h=>h.resolve_left (fun e=>by cases e)⟩
theorem tH{l:List (Õ×NameKind)}(h:(l.map (·.1)).Nodup):(ţ l).Nodup:=by
 induction l with
 |nil=>
  exact lQ
 |cons fu r IH=>
  obtain⟨y,k⟩:=fu;obtain⟨nn,nd⟩:=eX.mp h;have ih:=IH nd
  induction k using PySem.NameKind.casesOn<;>first|exact ih|exact eX.mpr ⟨fun m=>nn (dT.mpr ⟨_,n_.mp m,rfl⟩),ih⟩
theorem m8{x:Õ}{l:List (Õ×NameKind)}{n:Nat}{acc:List (Õ×Addr)}(h:((x,NameKind.cell)∈l∨∃a,(x,a)∈acc)):∃a,(x,a)∈cellsFrom n l acc:=by
 induction l generalizing n acc with
 |nil=>
  rcases h with h|h
  ·cases h
  ·exact h
 |cons fu r IH=>
  obtain⟨y,k⟩:=fu;unfold cellsFrom
  split
  ·rename_i hk;refine IH ?_;rcases h with h|⟨a,h⟩
   ·rcases ĸ.mp h with e|h
    ·cases e;exact .inr ⟨n,Ů⟩
    ·exact .inl h
   ·exact .inr ⟨a,ũ _ h⟩
  ·rename_i hk;refine IH ?_;rcases h with h|h
   ·rcases ĸ.mp h with e|h
    ·cases e;exact absurd rfl hk
    ·exact .inl h
   ·exact .inr h
theorem lookup_isSome{α}{x:Õ}{a:α}:∀{l:List (Õ×α)},(x,a)∈l→(l.lookup x).isSome=true
 |(y,b)::r,h=>by
  rw[oH]
  induction e:x==y using ñ with
  |true=>rfl
  |false=>
   rcases ĸ.mp h with q|h
   ·(injection q with q;subst q);simp at e
   ·exact lookup_isSome h
structure qV(Z:ę)(g:Gh)(cx:Cx)(m cm:Õ→Option Value)(st:St):Prop where
 loc:∀x i v,idx x cx.loc 0=some i→ç st.ρ i=some (some v)→∃y,m x=some y∧Ć Z g v y
 Ó:∀x i v,idx x cx.Ó 0=some i→ç st.κ i=some (some v)→∃y,cm x=some y∧Ć Z g v y
theorem uC{k:Bool}{i:Nat}{v:V}{ĉ:St}(h:Š st k i v=some ĉ):A3 (ĉ.H=st.H) (ĉ.ρ.length=st.ρ.length) (ĉ.κ.length=st.κ.length):=by
 induction k using ñ<;>((refine cK h fun À À zq=>?_;obtain rfl:=zq))
 ·exact⟨rfl,ez ..,rfl⟩
 ·exact⟨rfl,rfl,ez ..⟩
theorem uL{cx:Cx}{l:List (Option V)}{names:List Õ}{x:Õ}{i:Nat}{v:V}{y:Value}{m:Õ→Option Value}(M:∀x i v,idx x names 0=some i→ç l i=some (some v)→∃y,m x=some y∧Ć Z g v y)(h3:idx x names 0=some i)(hv:Ć Z g v y):
  ∀z j v',idx z names 0=some j→ç (put l i (some v)) j=some (some v')→∃u,(if z=x then some y else m z)=some u∧Ć Z g v' u:=fun z j v' hz hn=>by
 rcases kq hn with⟨rfl,e⟩|⟨ne,e⟩
 ·(replace e:=ë e;subst e)
  exact⟨y,if_pos (qw hz h3),hv⟩
 ·obtain⟨u,q1,q2⟩:=M z j v' hz e;exact⟨u,(if_neg fun e':z=x=>ne (ë (hz.symm.trans (e'▸h3)))).trans q1,q2⟩
theorem qV.set{m cm:Õ→Option Value}(M:qV Z g cx m cm st){x:Õ}{k:Bool}{i:Nat}{v:V}{y:Value}{ĉ:St}(he:ė cx x=some (k,i))(hs:Š st k i v=some ĉ)(hv:Ć Z g v y)
  {kindOf:Õ→Option NameKind}(hk:∀x,kindOf x=cx.sn.lookup x)(HF:∀x,cx.sn.lookup x≠some .free):
  (kindOf x=some .local∨(kindOf x=some .cell∧x∈cx.Ó))∧qV Z g cx (if kindOf x=some .local then fun z=>if z=x then some y else m z else m) (if kindOf x=some .local then cm else fun z=>if z=x then some y else cm z) ĉ:=by
 induction k using ñ with
 |false=>
  obtain⟨_,h2,h3⟩:=dZ he
  (refine cK hs fun À À zq=>?_;obtain rfl:=zq)
  have h2:=(hk x).trans h2;rw[if_pos h2,if_pos h2];exact⟨.inl h2,uL (cx:=cx) M.loc h3 hv,M.Ó⟩
 |true=>
  obtain⟨_,h2,h3⟩:=bp he
  (refine cK hs fun À À zq=>?_;obtain rfl:=zq)
  have h2:=(hk x).trans (h2.resolve_right (HF x));have nl:¬kindOf x=some .local:=by rw[h2];nofun
  rw[if_neg nl,if_neg nl];exact⟨.inr ⟨h2,aH (dc h3)⟩,M.loc,uL (cx:=cx) M.Ó h3 hv⟩
theorem qV.sets{kindOf:Õ→Option NameKind}(hk:∀x,kindOf x=cx.sn.lookup x)(HF:∀x,cx.sn.lookup x≠some .free)(ps:List (Bool×Nat)):∀(names:List Õ) (vs:List V) (xs:List Value) (m cm:Õ→Option Value) (st ĉ:St),
  names.map (ė cx)=ps.map some→č st ps vs=some ĉ→ł Z g vs xs→qV Z g cx m cm st→
   (∀x∈names.zip xs,kindOf x.1=some .local∨(kindOf x.1=some .cell∧x.1∈cx.Ó))∧qV Z g cx (PySem.bindL kindOf (names.zip xs) m) (PySem.bindC kindOf (names.zip xs) cm) ĉ:=by
 induction ps with
 |nil=>
  intro names vs xs m cm st ĉ he hs hv M;obtain rfl:=List.map_eq_nil_iff.mp he
  induction vs using Ŭ with
  |cons=>exact nS hs
  |nil=>(replace hs:=ë hs;subst hs);subst hv;exact⟨fun À m=>absurd m qn,M⟩
 |cons p ps ih=>
  intro names vs xs m cm st ĉ he hs hv M
  induction vs using Ŭ with
  |nil=>exact nS hs
  |cons v vs=>
  induction names using Ŭ with
  |nil=>exact nN he
  |cons n r=>
  obtain⟨N2,Z8⟩:=List.cons.inj he;refine ï hs fun Ĉ zu HD=>?_;obtain⟨y,t,rfl,h1,h2⟩:=hv;obtain⟨a,Vr⟩:=M.set (k:=p.1) (i:=p.2) N2 zu h1 hk HF;obtain⟨b,Vq⟩:=ih r vs t _ _ Ĉ ĉ Z8 HD h2 Vr;refine⟨fun x hx=>?_,Vq⟩;rw[List.zip_cons_cons]at hx;rcases ĸ.mp hx with rfl|hx
  ·exact a
  ·exact b x hx
theorem Ć.r6(hk:aQ g.k g'.k)(ha:g'.as=g.as){v:V}{x:Value}(h:Ć Z g v x):Ć Z g' v x:=by
 induction v using V.casesOn with
 |Ó i=>obtain⟨a,h1,h2⟩:=h;exact⟨a,ha▸h1,h2⟩
 |_=>exact Rep.mono hk h
theorem ł.app{a:List V}{b:List V}{x:List Value}{y:List Value}(h:ł Z g a x)(h':ł Z g b y):ł Z g (a++b) (x++y):=by
 induction a generalizing b x y with
 |nil=>
  subst h;exact h'
 |cons _ v8 IH=>
  obtain⟨v,r,rfl,h1,h2⟩:=h;exact⟨v,_,rfl,h1,IH h2 h'⟩
theorem ł.len{a:List V}{x:List Value}(h:ł Z g a x):x.length=a.length:=by
 induction a generalizing x with
 |nil=>
  subst h;rfl
 |cons _ v8 IH=>
  obtain⟨v,r,rfl,h1,h2⟩:=h;exact congrArg (· +1) (IH h2)
theorem Ý.vY{a:List V}{x:List Value}(h:Ý Z.toSta g.k a x):ł Z g a x:=by
 induction a generalizing x with
 |nil=>
  subst h;rfl
 |cons _ v8 IH=>
  obtain⟨v,r,rfl,h1,h2⟩:=h;exact⟨v,r,rfl,h1.iP,IH h2⟩
theorem Ý.drop{Y:Sta}{k:FH}(n:Nat){a:List V}{x:List Value}(h:Ý Y k a x):Ý Y k (a.drop n) (x.drop n):=by
 induction n generalizing a x with
 |zero=>
  exact h
 |succ n IH=>
  induction a using Ŭ with
  |nil=>subst h;rfl
  |cons=>obtain⟨v,r,rfl,h1,h2⟩:=h;exact IH h2
theorem fA{ps:List (Bool×Nat)}{vs:List V}{st:St}{ĉ:St}(h:č st ps vs=some ĉ):A4 (ps.length=vs.length) (ĉ.H=st.H) (ĉ.ρ.length=st.ρ.length) (ĉ.κ.length=st.κ.length):=by
 induction ps generalizing vs st ĉ with
 |nil=>
  induction vs using Ŭ with
  |nil=>(replace h:=ë h;subst h);exact⟨rfl,rfl,rfl,rfl⟩
  |cons=>exact nS h
 |cons p r IH=>
  induction vs using Ŭ with
  |nil=>exact nS h
  |cons v t=>
  refine ï h fun Ĉ h1 h=>?_;obtain⟨a,b,c⟩:=uC h1;obtain⟨e,a',b',c'⟩:=IH h;exact⟨congrArg (· +1) e,a'.trans a,b'.trans b,c'.trans c⟩
theorem wD{α β:Type}(f:α→β){l:List α}{i:Nat}{x:α}(h:ç l i=some x):ç (l.map f) i=some (f x):=by
 induction l generalizing i x with
 |nil=>
  exact nS h
 |cons _ r IH=>
  exact match i,h with
  |0,h=>by(replace h:=ë h;subst h);rfl
  |i+1,h=>IH h
theorem Ł{α:Type}{l:List α}{i:Nat}:ç l i=l[i]? :=by
 induction l generalizing i with
 |nil=>
  exact rfl
 |cons _ r IH=>
  exact match i with
  |0=>rfl
  |i+1=>(IH).trans (List.getElem?_cons_succ).symm
theorem gD{α:Type}{n i:Nat}{x y:α}(h:ç (ĥ n x) i=some y):y=x:=by
 rw[Ł]at h;exact(List.mem_replicate.mp (List.mem_of_getElem? h)).2
noncomputable def Gh.take(g:Gh)(n:Nat):Gh:={g with as:=g.as.take n}
theorem AQ{α:Type}{l:List α}{n i:Nat}{x:α}(h:ç (l.take n) i=some x):ç l i=some x∧i<n:=by
 rw[Ł]at h ⊢;rw[List.getElem?_take]at h
 (have h1:=cz (b:=decide (i<n)) (by simpa using h);have h2:=cq (b:=decide (i<n)) (by simpa using h))
 exact⟨h2,of_decide_eq_true h1⟩
theorem zQ{α:Type}{l:List α}{n i:Nat}{x:α}(h:ç l i=some x)(b:i<n):ç (l.take n) i=some x:=by
 rw[Ł]at h ⊢;rw[List.getElem?_take,if_pos b];exact h
theorem Base.take(B:Base Z g s H)(n:Nat):Base Z (g.take n) s (H.take n):=by
 refine⟨B.u_,B.old,B.top,B.tab,B.Ô,B.kept,B.held,B.alive,?_,fun i c e=>?_⟩
 ·show(g.as.take n).length=_;rw[oK,oK,B.len]
 ·obtain⟨e,l⟩:=AQ e;obtain⟨a,ha,x⟩:=B.cells i c e;exact⟨a,zQ ha l,dC.to (g:=g) (g':=g.take n) (fun À À e=>e) (fun À e=>e) (fun À e=>e) (fun À À À e=>e) x⟩
theorem Ę.take(S:Ę g g')(B:Base Z g s H):Ę g (g'.take H.length):=by
 refine⟨⟨S.k,S.kept,S.held,?_,S.L,S.cs,S.loc⟩,S.var⟩;obtain⟨l,hl⟩:=S.as;refine⟨[],?_⟩;show g'.as.take H.length=_;rw[hl,←B.len,Ŵ];simp
def vB(L:Addr)(names:List (Õ×NameKind)):List Addr:=(ţ names).map fun x=>((cellsFrom (L+1) names []).lookup x).getD 0
theorem d5{L:Addr}{names:List (Õ×NameKind)}{x:Õ}(h:x∈ţ names):(cellsFrom (L+1) names []).lookup x=some (((cellsFrom (L+1) names []).lookup x).getD 0):=by
 obtain⟨a,ha⟩:=m8 (n:=L+1) (acc:=[]) (.inl (n_.mp h));have:=lookup_isSome ha
 induction q:(cellsFrom (L+1) names []).lookup x using š with
 |none=>rw[q]at this;exact à this
 |some b=>rfl
theorem GF{L:Addr}{names:List (Õ×NameKind)}(ap:(cellsFrom (L+1) names []).Pairwise fun x y=>x.2≠y.2)(hk:(names.map (·.1)).Nodup){i:Nat}(hi:i<(ţ names).length):
  T2 fun y c=>A4 (ç (vB L names) i=some c) ((cellsFrom (L+1) names []).lookup y=some c) (idx y (ţ names) 0=some i) ((vB L names).idxOf? c=some i):=by
 have key:∀{j} (hj:j<(ţ names).length),T2 fun y c=>A3 (ç (vB L names) j=some c) ((cellsFrom (L+1) names []).lookup y=some c) (idx y (ţ names) 0=some j):=fun {j} hj=>by
  have hy:=ky hj;generalize (ţ names)[j]=y at hy;exact⟨y,_,wD _ hy,d5 (aH hy),(gS (n:=0) (tH hk) hy).trans (congrArg some (eZ j))⟩
 obtain⟨y,c,hc,NU,n1⟩:=key hi;refine⟨y,c,hc,NU,n1,?_⟩;rw[Ł]at hc;obtain⟨BL,hc⟩:=List.getElem?_eq_some_iff.mp hc;refine List.idxOf?_eq_some_iff.mpr ⟨BL,hc,fun j hj e=>?_⟩;obtain⟨z,c',Ga,Wj,n2⟩:=key (oJ hj hi);rw[Ł,List.getElem?_eq_getElem (oJ hj BL)]at Ga;obtain rfl:=ë Ga;rw[e]at Wj;obtain rfl:=name_of_addr ap (PySem.mem_of_lookup NU) (PySem.mem_of_lookup Wj);exact eW hj (ë (n2.symm.trans n1))
theorem pf(hr:ŕ (d+1) A g)(hL:cH g s)(B:Base Z g s H){h':Heap}{L:Addr}{cs:List Addr}(N:Č s h' L cs)(OG:env.frame=some L)(Gw:env.scope.kind=.function):ŕ d (A.deeper env) (g.down s.heap L cs):=by
 refine⟨hr.hd,by have:=hr.depth;rw[depth_deeper];exact â [_,_,_] (.c (.a (.a (.a Â (.m 4 (.a È Á))) Ĵ) Á) á .z) (.a (.a (.a (.a Â Á) (.m 4 È)) Ĵ) Á) á rfl this,by have:=hr.units;rw[Around.deeper_units];exact â [_,_,_] (.c (.a (.a (.a Â (.m 20 (.a È Á))) bM) Á) á .z) (.a (.a (.a (.a Â hZ) (.m 20 È)) bM) Á) á rfl this,?_⟩;obtain⟨l,hl,Z5⟩:=hr.frames;refine⟨env::l,Around.frames_deeper hl,fun e he=>?_⟩;rcases ĸ.mp he with rfl|he
 ·exact⟨Gw,_,OG,.inl ⟨vy,rfl⟩⟩
 ·obtain⟨k,L',h1,h2⟩:=Z5 e he;refine⟨k,L',h1,.inr ?_⟩;rcases h2 with⟨q1,q2⟩|⟨o,es,n,q1,q2⟩
  ·obtain⟨o,es,n,a,b⟩:=hL;exact⟨o,es,n,cF B N (by rw[q1];rfl) (q2▸a),b⟩
  ·exact⟨o,es,n,d4 B N q1 rfl (by simp),q2⟩
structure xO(Z:ę)(fd:FuncData)(env:Env)(L:Addr):Prop where
 e1:env.locals=L
 e2:env.cells=cellsFrom (L+1) fd.scope.names []
 e3:env.scope=fd.scope
 e4:env.globals=mainGlobals
 e5:env.builtins=builtinsNs
 e6:env.frame=some L
 e7:env.kindOf=fun x=>fd.scope.names.lookup x
 e8:(Gs Z fd.scope).sn.lookup ("seen":Õ)=some .cell→env.code=.ref Z.qk∧env.qual++("<lambda>":Õ)=Z.lO
theorem xO.of{j:Nat}{f:Fn}{o:Obj}{fd:FuncData}{body:List Stmt}{names:List Õ}{dv:List Value}(F:g9 Z K j f o fd body names dv){env:Env}{L a:Addr}(h:env=newEnv fd.scope L fd.globals (cellsFrom (L+1) fd.scope.names []) (fd.qualname++".<locals>.") (some a) fd.code none fd.builtins):xO Z fd env L:=by
 subst h;exact⟨rfl,rfl,rfl,F.xk,F.H6,rfl,rfl,F.lam⟩
theorem Ce{j:Nat}{f:Fn}{o:Obj}{fd:FuncData}{body:List Stmt}{names:List Õ}{dv:List Value}(F:g9 Z K j f o fd body names dv){env:Env}{m cm:Õ→Option Value}{S:St}{s':Shared}(hr:ŕ (d+1) A g)(hL:cH g s)(B:Base Z g s H)(EA:xO Z fd env s.heap.objs.size)
  (x:InCallC s s.heap.objs.size m (cellsFrom (s.heap.objs.size+1) fd.scope.names []) cm s')(M:qV Z g (Gs Z fd.scope) m cm S)(HF:∀x,(Gs Z fd.scope).sn.lookup x≠some .free)(l2:S.H=H)(l4:S.κ.length=f.nc):
  Č s s'.heap s.heap.objs.size (vB s.heap.objs.size fd.scope.names)∧Ok Z d (Gs Z fd.scope) (A.deeper env) env (g.down s.heap s.heap.objs.size (vB s.heap.objs.size fd.scope.names)) s' S:=by
 obtain⟨Ud,P7,OH,Uc,Ub,OG,L0,Gw⟩:=EA;have N:Č s s'.heap s.heap.objs.size (vB s.heap.objs.size fd.scope.names):=by
  refine⟨x.toInCall.keep,Ĭ _,fun c hc=>?_,?_,fun c hc=>?_⟩
  ·obtain⟨y,hy,rfl⟩:=dT.mp hc;exact x.above y _ (PySem.mem_of_lookup (d5 hy))
  ·obtain⟨o,es,ep,q,_⟩:=x.toInCall.ns;exact⟨o,q⟩
  ·obtain⟨y,hy,rfl⟩:=dT.mp hc;obtain⟨o,q,_⟩:=x.cell y _ (d5 hy);exact⟨o,q⟩
 obtain⟨h',tk,D5,_⟩:=x.done;have hh:s'.heap=h':=by rw[D5]
 have BD:Base Z (g.down s.heap s.heap.objs.size (vB s.heap.objs.size fd.scope.names)) s' H:=by
  have:=B.down N tk;rw[hh]at this;rw[D5];exact this
 have HJ:=tA B N;obtain⟨fl,Z6,_⟩:=hr.frames;refine⟨N,⟨pf hr hL B N OG (by rw[OH];exact F.kind),?_,⟨l2▸BD,vy,⟨_,x.toInCall.ns,fun y i u h1 h2=>?_⟩,fun i ov hn=>?_⟩,_,_,Around.frames_deeper Z6,rfl⟩⟩
 ·refine⟨by rw[OH];exact F.kind,Ud,Uc,Ub,fun y=>?_,fun y i hy=>?_,rfl,rfl,Gw⟩
  ·rw[L0];show fd.scope.names.lookup y=(fd.scope.names.lookup y).map _
   induction q:fd.scope.names.lookup y using š with
   |none=>rfl
   |some k=>exact(congrArg some (if_neg fun e=>HF y (by rw[←e];exact q))).symm
  ·obtain⟨_,_,h3⟩:=bp hy;have hy:=dc h3;exact⟨_,by rw[P7];exact d5 (aH hy),wD _ hy⟩
 ·obtain⟨z,q1,q2⟩:=M.loc y i u h1 h2;exact⟨z,q1,q2.r6 HJ rfl⟩
 ·have hi:i<(ţ fd.scope.names).length:=by
   have:=qa hn;rw[l4,F.nc]at this;exact this
  obtain⟨y,c,hc,NU,n1,KH⟩:=GF x.apart F.keys hi;refine⟨c,_,hc,Cm (fun e=>?_) ?_,x.cell y c NU,fun u hu=>?_⟩
  ·have:=x.above y c (PySem.mem_of_lookup NU);rw[e]at this;exact sH _ this
  ·exact KH
  ·subst hu;obtain⟨z,q1,q2⟩:=M.Ó y i u n1 hn;exact⟨z,q1,q2.r6 HJ rfl⟩
theorem mr{j:Nat}{f:Fn}{o:Obj}{fd:FuncData}{body:List Stmt}{names:List Õ}{dv:List Value}(F:g9 Z K j f o fd body names dv)(aP:Z.sh.heap.NoLimit)(cM:cStatics≠Z.tab){vs:List V}{S:St}{xs:List Value}{Q:Value→Shared→Prop}{E:Value→Shared→Prop}
  (BH:č ⟨H,ĥ f.nl none,ĥ f.nc none⟩ f.ps (padded vs f.ml f.ps.length)=some S)(hr:ŕ (d+1) A g)(hL:cH g s)(B:Base Z g s H)(hv:ł Z g vs xs)
  (k:∀env s' cs,Č s s'.heap s.heap.objs.size cs→Ok Z d (Gs Z fd.scope) (A.deeper env) env (g.down s.heap s.heap.objs.size cs) s' S→env.frame=some s.heap.objs.size→wpAny (model prog w) (A.deeper env) (execs body env) (fun f s'=>Q (match f with|.ret v=>v|_=>.none) s')
   (fun e s'=>wpAny (model prog w) (A.deeper env) (leaving env e) (fun À Rq=>E e Rq) (fun e' Rq=>E e' Rq) s') s'):õ prog w A (call (.ref (K.fn j)) xs) Q E s:=by
 obtain⟨l1,l2,l3,l4⟩:=fA BH;have lp:names.length=f.ps.length:=by have:=congrArg oN F.ps;simpa using this
 have lx:xs.length=vs.length:=hv.len;have ld:dv.length=f.ml.length:=F.rd.len;unfold padded at l1 BH;rw[Ċ,sG]at l1;have rd:Ý Z.toSta g.k f.ml dv:=F.rd.mono (.old B);have PT:ł Z g (vs++f.ml.drop (f.ml.length - (f.ps.length - vs.length))) (xs++dv.drop (dv.length - (names.length - xs.length))):=by
  rw[lp,lx,ld];exact hv.app (rd.drop _).vY
 have hdl:=F.dl;have HF:∀x,(Gs Z fd.scope).sn.lookup x≠some .free:=fun x e=>F.AU _ (PySem.mem_of_lookup e) rfl
 have Vs:qV Z g (Gs Z fd.scope) (fun À=>none) (fun À=>none) ⟨H,ĥ f.nl none,ĥ f.nc none⟩:=
  ⟨fun x i v À e=>(by have:=gD e;exact sN this),fun x i v À e=>(by have:=gD e;exact sN this)⟩
 obtain⟨BN,M⟩:=qV.sets (kindOf:=fun x=>fd.scope.names.lookup x) (fun x=>rfl) HF _ _ _ _ _ _ _ _ F.ps BH PT Vs;have xh:BindsTo s fd ⟨xs,[]⟩ (names.zip (xs++dv.drop (dv.length - (names.length - xs.length)))):=F.bd s xs (fun a o q n=>B.Ô _ _ (B.top _ _ q n)) (by exact â [_,_,_,_,_] (.c (.a j_ (.v 4)) á (.c á È (.c Â j_ .z))) Â È rfl (ņ l1.symm) (ņ lp.symm) (ņ lx)) (by omega);generalize names.zip (xs++dv.drop (dv.length - (names.length - xs.length)))=bs at BN M xh;clear PT rd lx ld l1;have KJ:s.heap.CodeRec fd.code fd.qualname:=by
  obtain⟨c,oc,vs,t,e1,e2,e3,e4,e5⟩:=F.cd;exact⟨c,oc,vs,t,e1,B.Ô _ _ (B.top _ _ e3 e2),e4,e5⟩
 have sY:s.heap.NoLimit:=let ⟨mc,a,b⟩:=aP;⟨mc,B.du a cM,b⟩;refine wpAny_call (codeAny_call_function (by have:=hr.depth;exact â [_,_,_] (.c (.a (.a (.a Â (.m 4 (.a á Á))) Ĵ) Á) È .z) (.a Â Á) È rfl this) (B.Ô _ _ (B.top _ _ F.ho F.tab)) F.hd F.co F.gen F.hb KJ (xh _ _ _ _ ?_));rw[F.g_];refine wpAny_newFunctionEnv_cells F.kind (fun x hx=>?_) fun env he s' x=>?_
 ·rcases BN x hx with e|⟨e,m⟩
  ·exact .inl e
  ·exact .inr ⟨e,by rw[d5 m];rfl⟩
 ·refine⟨sY.keeps x.toInCall.keep,codeAny_func ?_⟩;have EA:=xO.of F he;rw[EA.e1,EA.e2,EA.e7]at x;obtain⟨N,C⟩:=Ce F hr hL B EA x M HF l2 (l4.trans List.length_replicate);exact k env s' _ N C EA.e6
abbrev DU(Z:ę)(K:dn Z)(P:ċ):Prop:=∀j f,P.fn j=some f→T5 fun o fd body names dv=>g9 Z K j f o fd body names dv
section
variable(hF:DU Z K P)(aP:Z.sh.heap.NoLimit)(cM:cStatics≠Z.tab)
include hF aP cM
theorem mq{j:Nat}{f:Fn}{vs:List V}{S S':St}{o:Out}(h1:P.fn j=some f)(h2:č ⟨H,ĥ f.nl none,ĥ f.nc none⟩ f.ps (padded vs f.ml f.ps.length)=some S)(h3:fm prog w Z d f.body S S' o)(ho:o≠.exc){xs:List Value}{Q:Value→Shared→Prop}{E:Value→Shared→Prop}
  (hr:ŕ (d+1) A g)(hL:cH g s)(B:Base Z g s H)(hv:ł Z g vs xs)
  (hq:∀g' s' fl,Ę g g'→cJ g s s'→Base Z g' s' S'.H→vR Z g' o fl→Q (match fl with|.ret v=>v|_=>.none) s'):õ prog w A (call (.ref (K.fn j)) xs) Q E s:=by
 obtain⟨ob,fd,body,names,dv,F⟩:=hF j f h1;refine mr F aP cM h2 hr hL B hv fun env Ĉ cs N C À=>?_;refine h3 _ _ _ _ _ _ _ _ F.eb.symm C ⟨fun gE sE fl GE CE OE=>?_,fun e=>absurd e ho⟩;have hk:=Md B N GE;refine hq _ _ _ (uo B N GE) (pM B N GE CE.base) (B.up N GE CE.base) ?_
 induction o using Out.casesOn with
 |ret v=>obtain⟨y,rfl,hy⟩:=OE;exact⟨y,rfl,Ć.up hk hy⟩
 |_=>exact OE
theorem EO{j:Nat}{f:Fn}{vs:List V}{S:St}{v v':V}{ρ κ:List (Option V)}{H₁ Ö ų:L}(h1:P.fn j=some f)(h2:č ⟨H,ĥ f.nl none,ĥ f.nc none⟩ f.ps (padded vs f.ml f.ps.length)=some S)(h3:fm prog w Z d f.body S ⟨H₁,ρ,κ⟩ (.ret v))
  (h5:Ô H₁ v=some (Ö,v'))(h6:Ö.take H.length=ų):cG prog w Z K (d+1) j vs H ⟨ų,[],[]⟩ v':=by
 intro A g s xs Q E hr hL B hv hq;refine mq hF aP cM h1 h2 h3 (fun q=>neT Out.ctorIdx q rfl) hr hL B hv fun g' s' fl S K' B' OE=>?_;obtain⟨y,rfl,hy⟩:=OE;subst h6;exact B'.bF h5 hy fun İ Ĩ Ş fZ=>hq _ _ _ ((S.trans Ĩ).take B) K' (Ş.take H.length) (Rep.iP (g:=İ.take H.length) fZ)
theorem Ae{j:Nat}{f:Fn}{vs:List V}{S Å:St}{v:V}(h1:P.fn j=some f)(h2:č ⟨H,ĥ f.nl none,ĥ f.nc none⟩ f.ps (padded vs f.ml f.ps.length)=some S)(h3:fm prog w Z d f.body S Å (.ret v)):cG prog w Z K (d+1) j vs H Å v:=by
 intro A g s xs Q E hr hL B hv hq;refine mq hF aP cM h1 h2 h3 (fun q=>neT Out.ctorIdx q rfl) hr hL B hv fun g' s' fl S K' B' OE=>?_;obtain⟨y,rfl,hy⟩:=OE;exact hq _ _ _ S K' B' hy
theorem Af{j:Nat}{f:Fn}{vs:List V}{S:St}{ρ κ:List (Option V)}{H₁ Ö:L}(h1:P.fn j=some f)(h2:č ⟨H,ĥ f.nl none,ĥ f.nc none⟩ f.ps (padded vs f.ml f.ps.length)=some S)(h3:fm prog w Z d f.body S ⟨H₁,ρ,κ⟩ .next)(h6:H₁.take H.length=Ö):cG prog w Z K (d+1) j vs H ⟨Ö,[],[]⟩ .none:=by
 intro A g s xs Q E hr hL B hv hq;refine mq hF aP cM h1 h2 h3 (fun q=>neT Out.ctorIdx q rfl) hr hL B hv fun g' s' fl S K' B' OE=>?_;obtain rfl:fl=.next:=OE;subst h6;exact hq _ _ _ (S.take B) K' (B'.take H.length) rfl
end
end
section
variable{st ĉ S Å Í:St}{H H' H₁ Ö:List Cell}{ρ κ ß ê:List (Option V)}{es as:List PE}{vs vs':List V}{v:V}
theorem ı{M:Model}{A:Around}{E:Value→Shared→Prop}{s:Shared}{f:Value}{args:List (Bool×Sem Value)}{Q:Args→Shared→Prop}(hp:args.any (·.1)=false)
  (h:wpAny M A (spliced args) (fun vs s'=>Q ⟨vs,[]⟩ s') E s):wpAny M A (evalArgs f true args []) Q E s:=by
 induction args using Ŭ with
 |nil=>
  unfold evalArgs;show wpAny M A (spliced []>>=_) Q E s;refine wpAny_bind (wpAny_mono h (fun vs s' h'=>?_) fun À À x=>x);refine wpAny_holding ?_;exact wpAny_bind (wpAny_pure (wpAny_bind (wpAny_pure (wpAny_pure h'))))
 |cons a r=>
  obtain⟨b,x⟩:=a
  induction b using ñ with
  |true=>simp at hp
  |false=>exact Calls.evalArgs_plain h
theorem plain_any{es:List Expr}{env:Env}{pos:Pos}(h:plain es=true):(backTo pos (starEach es env)).any (·.1)=false:=by
 induction es with
 |nil=>rfl
 |cons e r ih=>
  obtain⟨h1,h2⟩:=eA h;rw[nI h1];exact ih h2
theorem aw{f:Õ}{np:Pos}{as:List Expr}{p:Pos}{env:Env}{Q:Value→Shared→Prop}{E:Value→Shared→Prop}
  (h:õ prog w A (eval (.Name f np) env) (fun f Ĉ=>õ prog w A (callWith p f [] (backTo p (starEach as env)) []) Q E Ĉ) E s):õ prog w A (eval (.Call (.Name f np) as [] p) env) Q E s:=
 wpAny_Call_ofName h
theorem xy(hg:cg Z K){f:Õ}{np p:Pos}{j:Nat}{ys:List Expr}{Q:Value→Shared→Prop}{E:Value→Shared→Prop}(hf:dz cx f=some (.fn j))(hp:plain ys=true)(he:fh cx ys=as)(h1:Ļ prog w Z d as S Å vs)(C:Ok Z d cx A env g s S)
  (hq:∀g' s' xs,Gst g g'→Ok Z d cx A env g' s' Å→ł Z g' vs xs→õ prog w A (call (.ref (K.fn j)) xs) Q E s'):õ prog w A (eval (.Call (.Name f np) ys [] p) env) Q E s:=by
 refine aw (ō hg C.e C.base hf fun z hz=>?_);obtain⟨rfl,o,fd,k1,k2,k3⟩:=hz;refine Calls.callWith_function (o:=o) (fd:=fd) (ı (plain_any hp) ?_);exact h1 _ _ _ _ _ _ _ _ _ he hp C fun Û ò xs Ñ Ï ô=>⟨⟨Ï.base.Ô _ _ (Ï.base.top _ _ k1 k3),k2⟩,hq _ _ _ Ñ Ï ô⟩
theorem Q2(hg:cg Z K){j:Nat}(h1:Ļ prog w Z d as S ⟨H,ρ,κ⟩ vs)(h2:cG prog w Z K d j vs H ⟨H₁,ß,ê⟩ v):ű prog w Z d (.fn j as) S ⟨H₁,ρ,κ⟩ v:=by
 intro cx x env A g s Q E hx C hq;obtain⟨f,np,ys,p,rfl,hp,hf,e1⟩:=iv hx;refine xy hg hf hp e1 h1 C fun Û ò xs Ñ Ï ô=>?_;exact h2 _ _ _ _ _ _ Ï.r Ï.i.gG Ï.base ô fun ó ļ x Í DM aB Ű=>hq _ _ _ (Ñ.trans Í.toGst) (Ï.fJ Í DM aB) Ű
theorem Q0(hg:cg Z K){j:Nat}(h1:Ļ prog w Z d as S ⟨H,ρ,κ⟩ vs)(h2:vO prog w Z K d j vs H ⟨H₁,ß,ê⟩):Pd prog w Z d (.fn j as) S ⟨H₁,ρ,κ⟩:=by
 intro cx x env A g s Q E hx C hq;obtain⟨f,np,ys,p,rfl,hp,hf,e1⟩:=iv hx;refine xy hg hf hp e1 h1 C fun Û ò xs Ñ Ï ô=>?_;exact h2 _ _ _ _ _ _ Ï.r Ï.i.gG Ï.base ô fun ó ļ x Í DM aB O6=>hq _ _ _ (Ñ.trans Í.toGst) (Ï.fJ Í DM aB) O6
theorem lJ(B:Base Z g s H){l:List V}{vs:List Value}{n t:Nat}(hr:Ý Z.toSta g.k l vs){C:Prop}(hq:∀g',Ę g g'→Base Z g' {s with heap:=s.heap.push {cls:=.type "tuple",data:=.seq vs.toArray n},toks:=t} H→Ć Z g' (.tup l) (.ref s.heap.objs.size)→C):C:=by
 have hf:g.r s.heap.objs.size=.free:=B.fresh _ (Ĭ _);have S:Ę g (g.set s.heap.objs.size (.Ô {cls:=.type "tuple",data:=.seq vs.toArray n})):=Ę.set g hf;exact hq _ S (B.push _ t _ rfl (.inr (.inl rfl))) ⟨_,_,vs,rfl,Gh.Ś (g.ÿ ..),⟨n,rfl⟩,hr.mono S.k⟩
theorem kS{α:Type}{l:List α}(h:small l=true){xs:List Value}(e:xs.length=l.length):xs.length≤2^24:=by
 rw[e];exact è (aW (Ĥ h)) (by decide)
theorem QI(h1:Ļ prog w Z d es S ⟨H,ρ,κ⟩ vs)(h2:Ē H vs=some (H₁,vs'))(h3:small vs'=true):ű prog w Z d (.tu es) S ⟨H₁,ρ,κ⟩ (.tup vs'):=by
 intro cx x env A g s Q E hx C hq;obtain⟨ys,k,p,rfl,hp,e1⟩:=iv hx;refine wpAny_Tuple (h1 _ _ _ _ _ _ _ _ _ e1 hp C fun Û ò xs Ñ Ï ô=>?_);refine Base.eI Ï.base h2 ô fun ó Í aB f_=>?_;refine⟨kS h3 f_.len,lJ (n:=0) (t:=ò.toks) aB f_ fun İ Ĩ Ş bI=>?_⟩;exact hq _ _ _ (Ñ.trans (Í.trans Ĩ).toGst) (Ï.next (Í.trans Ĩ) (fun b o e=>ŏ _ e) Ş) bI
theorem QW(h1:Ļ prog w Z d es S ⟨H,ρ,κ⟩ vs)(h2:Ē H vs=some (H₁,vs'))(h3:small vs'=true):ű prog w Z d (.li es) S ⟨H₁++[.lst vs'],ρ,κ⟩ (.Ó H₁.length):=by
 intro cx x env A g s Q E hx C hq;obtain⟨ys,p,rfl,hp,e1⟩:=iv hx;refine wpAny_List (h1 _ _ _ _ _ _ _ _ _ e1 hp C fun Û ò xs Ñ Ï ô=>?_);refine Base.eI Ï.base h2 ô fun ó Í aB f_=>?_;refine⟨kS h3 f_.len,aB.fK (n:=0) (t:=ò.toks) (Q:=Q) f_ fun İ iV z Ĩ tZ Ş bI=>?_⟩;exact hq _ _ _ (Ñ.trans (Í.trans Ĩ).toGst) (Ï.next (Í.trans Ĩ) tZ Ş) bI
end
section
section
variable(prog:Program)(w:World)(Z:ę)
def vP(d:Nat)(t:Tg)(v:V)(st ĉ:St):Prop:=∀cx x env A g s y Q E,fi cx x=t→Ok Z d cx A env g s st→Ć Z g v y→mF Z d cx A env g ĉ (Q ())→õ prog w A (assign x env y) Q E s
end
variable{st ĉ S Å Í:St}{H H' H₁ Ö:List Cell}{ρ κ ß ê:List (Option V)}{es as:List PE}{vs vs':List V}{v:V}{e t:PE}{q:Bool}{X:PS}{Y B D:List PS}{o:Out}
theorem mE{h':Heap}(k:Heap.ExtBut s.heap.objs.size s.heap h'):LG s h':=fun b o e=>k b o (eW (eY e)) e
theorem hN(C:Ok Z d cx A env g s st){x:Õ}{k:Bool}{i:Nat}{v:V}{y:Value}{Q:Unit→Shared→Prop}{E:Value→Shared→Prop}
  (hv:ė cx x=some (k,i))(hs:Š st k i v=some ĉ)(hx:Ć Z g v y)(hq:∀s',Ok Z d cx A env g s' ĉ→Q () s'):õ prog w A (bindName env x y) Q E s:=by
 refine wpAny_bindName ?_;have hi:=C.i;have he:=C.e;obtain⟨m,hm,PY⟩:=hi.gK.locs
 induction k using ñ with
 |false=>
  (refine cK hs fun À À zq=>?_;obtain rfl:=zq)
  obtain⟨h1,h2,h3⟩:=he.loc hv;refine wpAny_storeName_local h1 (he.L▸hm) (fun h' hn xb=>hq _ (C.to (.refl g) ⟨?_,hi.gK.loc,⟨_,he.L▸hn,uL (cx:=cx) PY h3 hx⟩,fun j ov hj=>?_⟩)) (by rw[he.kind];rfl)
  ·have al:∃o,h'.get? g.L=some o:=by rw[he.L]at hn;obtain⟨o,es,ep,q,_⟩:=hn;exact⟨o,q⟩
   exact hi.base.other (s.toks+1) (.inr (.inl hi.gK.loc)) (he.L▸xb) (.inr al)
  ·obtain⟨c,t,q1,q2,q3,q4⟩:=hi.gK.vars j ov hj;refine⟨c,t,q1,q2,q3.sameBut xb fun e=>?_,q4⟩;rw[he.L]at e;rw[e,hi.gK.loc]at q2;exact neT Role.ctorIdx q2 rfl
 |true=>
  (refine cK hs fun ov ZQ zq=>?_;obtain rfl:=zq)
  obtain⟨h1,h2,c,h3,h4⟩:=he.cell hv;obtain⟨c',t,q1,q2,q3,q4⟩:=hi.gK.vars i ov ZQ;rw[h4]at q1;(replace q1:=ë q1;subst q1);refine wpAny_storeName_cell he.kind h1 h3 q3 (fun h' hc xb=>hq _ (C.to (.refl g) ⟨?_,hi.gK.loc,⟨m,hm.sameBut xb fun e=>?_,PY⟩,fun j Zc hj=>?_⟩))
  ·have al:∃o,h'.get? c=some o:=by obtain⟨o,q,_⟩:=hc;exact⟨o,q⟩
   exact hi.base.other s.toks (.inr (.inr ⟨i,q2⟩)) xb (.inr al)
  ·have:=hi.gK.loc;rw[e,q2]at this;exact neT Role.ctorIdx this rfl
  ·rcases kq hj with⟨rfl,e⟩|⟨ne,e⟩
   ·subst e;exact⟨c,some y,h4,q2,hc,fun u hu=>by(replace hu:=ë hu;subst hu);exact⟨y,rfl,hx⟩⟩
   ·obtain⟨cj,tj,p1,p2,p3,p4⟩:=hi.gK.vars j Zc e;refine⟨cj,tj,p1,p2,p3.sameBut xb fun e=>?_,p4⟩;rw[e,q2]at p2
    (injection p2 with p2;subst p2)
    exact ne rfl
inductive O8(cx:Cx)(t:Expr)(r:List Expr)(l:List (Bool×Nat)):Prop
 |mk (x:Õ) (p:Pos) (k:Bool) (i:Nat) (l':List (Bool×Nat)) (e:t=.Name x p) (h1:ė cx x=some (k,i)) (h2:Ţ cx r=some l') (e':l=(k,i)::l')
theorem dk{t:Expr}{r:List Expr}{l:List (Bool×Nat)}(h:Ţ cx (t::r)=some l):O8 cx t r l:=by
 refine ï h fun x h1 h=>?_;refine ï h fun q h2 h=>?_
 (refine cK h fun l' h3 zq=>?_;obtain rfl:=zq)
 obtain⟨p,rfl⟩:=gF h1;exact⟨x,p,q.1,q.2,l',rfl,h2,h3,rfl⟩
theorem jQ{ts:List Expr}{l:List (Bool×Nat)}(h:Ţ cx ts=some l):(assignEach ts env).findIdx? (·.1)=none∧(assignEach ts env).length=l.length:=by
 induction ts generalizing l with
 |nil=>
  (replace h:=ë h;subst h);exact⟨rfl,rfl⟩
 |cons t r IH=>
  obtain⟨x,p,k,i,l',rfl,h1,h2,rfl⟩:=dk h;obtain⟨a,b⟩:=IH h2;have e:assignEach (.Name x p::r) env=(false,assign (.Name x p) env)::assignEach r env:=rfl;rw[e];exact⟨by rw[List.findIdx?_cons,a];rfl,congrArg (· +1) b⟩
theorem mu:∀{ts:List Expr} {l:List (Bool×Nat)} {vs:List V} {xs:List Value} {s:Shared} {st ĉ:St} {Q:Unit→Shared→Prop} {E:Value→Shared→Prop},Ţ cx ts=some l→Ok Z d cx A env g s st→č st l vs=some ĉ→ł Z g vs xs→
  (∀s',Ok Z d cx A env g s' ĉ→Q () s')→õ prog w A (assignInOrder ((assignEach ts env).map (·.2)) xs) Q E s
 |[],l,vs,xs,s,st,ĉ,Q,E,h,C,hs,hv,hq=>by
  (replace h:=ë h;subst h)
  induction vs using Ŭ with
  |cons=>exact nS hs
  |nil=>(replace hs:=ë hs;subst hs);subst hv;exact wpAny_pure (hq s C)
 |t::r,l,vs,xs,s,st,ĉ,Q,E,h,C,hs,hv,hq=>by
  obtain⟨x,p,k,i,l',rfl,h1,h2,rfl⟩:=dk h
  induction vs using Ŭ with
  |nil=>exact nS hs
  |cons v vs=>
   obtain⟨y,ys,rfl,hy,ZK⟩:=hv;refine ï hs fun Ĉ NM hs=>?_;show õ prog w A (do holding ys (do standAt p;bindName env x y);assignInOrder ((assignEach r env).map (·.2)) ys) Q E s;refine wpAny_bind (wpAny_holding (wpAny_bind (wpAny_standAt ?_)));exact hN C h1 NM hy fun ò Ï=>mu h2 Ï hs ZK hq
theorem tv{x:Expr}{e:Tg}(h:fi cx x=e):Px cx x e:=h▸erT cx x
theorem sv{x:Stmt}{e:PS}(h:OB cx x=e):jt cx x e:=h▸T8 cx x
theorem Jz{k:Bool}{i:Nat}(h:Š S k i v=some Å):vP prog w Z d (.n k i) v S Å:=by
 intro cx x env A g s y Q E hx C hv hq;obtain⟨n,p,rfl,h1⟩:=tv hx;show õ prog w A (do standAt p;bindName env n y) Q E s;exact wpAny_bind (wpAny_standAt (hN C h1 h hv fun t C'=>hq g t (.refl g) C'))
theorem gW{ts:List Expr}{k:Nat}{p:Pos}{l:List (Bool×Nat)}{vs:List V}{ys:List Value}{a:Addr}{Q:Unit→Shared→Prop}{E:Value→Shared→Prop}(h1:Ţ cx ts=some l)(h2:č S l vs=some Å)(C:Ok Z d cx A env g s S)(ht:s.heap.IsTuple a ys.toArray)(hv:ł Z g vs ys)
  (hq:mF Z d cx A env g Å (Q ())):õ prog w A (assign (.Tuple ts k p) env (.ref a)) Q E s:=by
 obtain⟨e1,e2⟩:=jQ (env:=env) h1;refine wpAny_assign_Tuple C.r.hd ht (by rw[e2,(fA h2).1,←hv.len];rfl) e1 fun h' k=>?_;exact mu h1 (C.KP (mE k) s.toks) h2 hv fun t C'=>hq g t (.refl g) C'
theorem Jy{l:List (Bool×Nat)}(h:view S.H v=some (.tup vs))(h2:č S l vs=some Å):vP prog w Z d (.t l) v S Å:=by
 intro cx x env A g s y Q E hx C hv hq;obtain⟨ts,k,p,rfl,h1⟩:=tv hx;obtain⟨a,o,ys,rfl,k,q,r⟩:=C.view hv h;exact gW h1 h2 C (Base.eF k q) r.vY hq
theorem vU.mono{Q:Flow→Shared→Prop}{E:Value→Shared→Prop}(h:vU Z d cx A env g st o Q E)(G:Gst g g'):vU Z d cx A env g' st o Q E:=⟨fun À À À G'=>h.q _ _ _ (G.trans G'),fun e À À À G'=>h.x e _ _ _ (G.trans G')⟩
theorem Jk:fm prog w Z d [] S S .next:=by
 intro cx ys env A g s Q E hx C hq;obtain rfl:=tn hx;exact wpAny_execs_nil (hq.q g s .next (.refl g) C rfl)
theorem yl(h1:vN prog w Z d X S Å .next)(h2:fm prog w Z d Y Å Í o):fm prog w Z d (X::Y) S Í o:=by
 intro cx ys env A g s Q E hx C hq;obtain⟨x,r,rfl,e1,e2⟩:=jk hx;refine wpAny_execs_cons (h1 _ _ _ _ _ _ _ _ e1 C ⟨fun Û ò f Ñ Ï nh=>?_,(fun q=>neT Out.ctorIdx q rfl)⟩);obtain rfl:f=.next:=nh;exact h2 _ _ _ _ _ _ _ _ e2 Ï (hq.mono Ñ)
theorem Ad(h1:vN prog w Z d X S Å o)(ho:Bs o=false):fm prog w Z d (X::Y) S Å o:=by
 intro cx ys env A g s Q E hx C hq;obtain⟨x,r,rfl,e1,e2⟩:=jk hx;refine wpAny_execs_cons (h1 _ _ _ _ _ _ _ _ e1 C ⟨fun Û ò f Ñ Ï nh=>?_,hq.x⟩)
 induction o using Out.casesOn with
 |next=>exact Ĕ ho
 |ret v=>obtain⟨y,rfl,hy⟩:=nh;exact hq.q _ _ _ Ñ Ï ⟨y,rfl,hy⟩
 |_=>exact nh.elim
theorem QQ:vN prog w Z d .pa S S .next:=by
 intro cx x env A g s Q E hx C hq;obtain⟨p,rfl⟩:=sv hx;exact wpAny_Pass (hq.q g s .next (.refl g) C rfl)
theorem QN(h1:ű prog w Z d e S Å v):vN prog w Z d (.re e) S Å (.ret v):=by
 intro cx x env A g s Q E hx C hq;obtain⟨y,p,rfl,e1⟩:=sv hx;exact wpAny_Return_some (h1 _ _ _ _ _ _ _ _ e1 C fun Û ò x Ñ Ï ô=>hq.q _ _ _ Ñ Ï ⟨x,rfl,ô⟩)
theorem QZ(h1:gA prog w Z d t S Å q)(h2:q=true→fm prog w Z d B Å Í o)(h3:q=false→fm prog w Z d D Å Í o):vN prog w Z d (.if t B D) S Í o:=by
 intro cx x env A g s Q E hx C hq;obtain⟨y,c,e,p,rfl,e1,e2,e3⟩:=sv hx;refine wpAny_If (h1 _ _ _ _ _ _ _ _ e1 C fun Û ò Ñ Ï=>?_)
 induction q using ñ with
 |true=>exact h2 rfl _ _ _ _ _ _ _ _ e2 Ï (hq.mono Ñ)
 |false=>exact h3 rfl _ _ _ _ _ _ _ _ e3 Ï (hq.mono Ñ)
theorem a_{e:Expr}{t:Option Expr}{n:Nat}{env:Env}(h:jf e=false):swapsWith e t n env=pure false:=by
 induction e using PySem.Expr.casesOn<;>first|rfl|exact Ĕ h
theorem aZ.quiet{env:Env}(he:aZ Z cx g env):interactive env=false:=by
 unfold interactive;rw[he.kind];rfl
theorem Q3(h1:ű prog w Z d e S Å v):vN prog w Z d (.ex e) S Å .next:=by
 intro cx x env A g s Q E hx C hq;obtain⟨y,p,rfl,hc,e1⟩:=sv hx;exact wpAny_Expr_any (h1 _ _ _ _ _ _ _ _ e1 C fun Û ò x Ñ Ï ô=>hq.q _ _ _ Ñ Ï rfl) C.e.quiet (a_ hc)
theorem QJ{c:Nat}(h1:fm prog w Z d B S Å o)(ho:o≠.exc):vN prog w Z d (.tr B c D) S Å o:=by
 intro cx x env A g s Q E hx C hq;obtain⟨y,z,np,k,ep,p,rfl,_,e1,_⟩:=sv hx;refine wpAny_Try_except (h1 _ _ _ _ _ _ _ _ e1 C ⟨fun Û ò f Ñ Ï nh=>?_,fun e=>absurd e ho⟩)
 induction o using Out.casesOn with
 |next=>obtain rfl:f=.next:=nh;exact wpAny_execs_nil (hq.q _ _ _ Ñ Ï rfl)
 |ret v=>obtain⟨y,rfl,hy⟩:=nh;exact hq.q _ _ _ Ñ Ï ⟨y,rfl,hy⟩
 |_=>exact nh.elim
def LoopAt(prog:Program)(w:World)(Z:ę)(d:Nat)(cx:Cx)(A:Around)(env:Env)(g:Gh)(s:Shared)(c:Code)(ĉ:St)(o:Out):Prop:=
 ∀RR:Result→Shared→Prop,(∀g' s' f,Gst g g'→Ok Z d cx A env g' s' ĉ→vR Z g' o f→RR (.ok f) s')→codeAny (model prog w) A c RR s
theorem LoopAt.mono(h:LoopAt prog w Z d cx A env g' s (c:Code) ĉ o)(G:Gst g g'):LoopAt prog w Z d cx A env g s c ĉ o:=fun RR hq=>h RR fun ó ĝ f ú C O=>hq ó ĝ f (G.trans ú) C O
def zi(prog:Program)(w:World)(Z:ę)(d:Nat)(t:PE)(b:List PS)(st ĉ:St)(o:Out):Prop:=o≠.exc∧∀cx x ys env A g s,er cx x=t→bG cx ys=b→Ok Z d cx A env g s st→LoopAt prog w Z d cx A env g s (.whileLoop x ys [] env) ĉ o
theorem gM{t:Expr}{b:List Stmt}{env:Env}{RR:Result→Shared→Prop}
  (h:∀E,õ prog w A (isTrue t env (eval t env)) (fun c ĝ=>if c then ∀E,õ prog w A (execs b env) (fun f aN=>match f with
    |.next|.cont=>codeAny (model prog w) A (.whileLoop t b [] env) RR aN
    |.brk=>RR (.ok .next) aN
    |.ret v=>RR (.ok (.ret v)) aN) E ĝ else RR (.ok .next) ĝ) E s):codeAny (model prog w) A (.whileLoop t b [] env) RR s:=by
 refine codeAny_of_tree ?_;show wpAny _ A ((whileTurn t b [] env).onRaise (fun x=>do noteFrame x env;theTreesLotGoes x)) _ _ s;refine wpAny_noted ?_;simp only[whileTurn];refine wpAny_bind (wpAny_mono (h _) (fun c ĝ cR=>?_) fun À À h'=>h')
 induction c using ñ with
 |false=>
  simp only[Bg,if_false]at cR ⊢;exact wpAny_bind (wpAny_execs_nil (wpAny_pure cR))
 |true=>
  simp only[if_true]at cR ⊢;refine wpAny_bind (wpAny_mono (cR _) (fun f aN Ň=>?_) fun À À h'=>h')
  induction f using PySem.Flow.casesOn with
  |next=>exact wpAny_pure ⟨rfl,Ň⟩
  |cont=>exact wpAny_pure ⟨rfl,Ň⟩
  |brk=>exact wpAny_pure Ň
  |ret v=>exact wpAny_pure Ň
theorem Mx(h1:gA prog w Z d t S Å true)(h2:fm prog w Z d B Å Í .next)(h3:zi prog w Z d t B Í S' o):zi prog w Z d t B S S' o:=by
 refine⟨h3.1,fun cx x ys env A g s hx hy C RR hq=>gM fun E=>?_⟩;refine h1 _ _ _ _ _ _ _ _ hx C fun Û ò Ñ Ï=>?_;rw[if_pos rfl];intro E;refine h2 _ _ _ _ _ _ _ _ hy Ï ⟨fun ó ļ f ú æ Lz=>?_,(fun q=>neT Out.ctorIdx q rfl)⟩;obtain rfl:f=.next:=Lz;exact(h3.2 _ _ _ _ _ _ _ hx hy æ).mono (Ñ.trans ú) RR hq
theorem My(h1:gA prog w Z d t S Å true)(h2:fm prog w Z d B Å Í (.ret v)):zi prog w Z d t B S Í (.ret v):=by
 refine⟨(fun q=>neT Out.ctorIdx q rfl),fun cx x ys env A g s hx hy C RR hq=>gM fun E=>?_⟩;refine h1 _ _ _ _ _ _ _ _ hx C fun Û ò Ñ Ï=>?_;rw[if_pos rfl];intro E;refine h2 _ _ _ _ _ _ _ _ hy Ï ⟨fun ó ļ f ú æ Lz=>?_,(fun q=>neT Out.ctorIdx q rfl)⟩;obtain⟨y,rfl,hy⟩:=Lz;exact hq _ _ _ (Ñ.trans ú) æ ⟨y,rfl,hy⟩
theorem Mz(h1:gA prog w Z d t S Å false):zi prog w Z d t B S Å .next:=by
 refine⟨(fun q=>neT Out.ctorIdx q rfl),fun cx x ys env A g s hx hy C RR hq=>gM fun E=>?_⟩;exact h1 _ _ _ _ _ _ _ _ hx C fun Û ò Ñ Ï=>hq _ _ _ Ñ Ï rfl
theorem ŕ.down(h:ŕ (d+1) A g):ŕ d A g:=⟨h.hd,by have:=h.depth;exact â [_,_,_] (.c (.a (.a (.a Â (.m 4 (.a È Á))) Ĵ) Á) á .z) (.a (.a (.a Â (.m 4 È)) Ĵ) Á) á rfl this,by have:=h.units;exact â [_,_,_] (.c (.a (.a (.a Â (.m 20 (.a È Á))) bM) Á) á .z) (.a (.a (.a Â (.m 20 È)) bM) Á) á rfl this,h.frames⟩
theorem Ok.down(C:Ok Z (d+1) cx A env g s st):Ok Z d cx A env g s st:=⟨C.r.down,C.e,C.i,C.f⟩
theorem Ok.lift(C:Ok Z (d+1) cx A env g s st){g' s' ĉ}(G:Gst g g')(C':Ok Z d cx A env g' s' ĉ):Ok Z (d+1) cx A env g' s' ĉ:=⟨C.r.mono G,C'.e,C'.i,C'.f⟩
theorem QG(h1:zi prog w Z d t B S Å o):vN prog w Z (d+1) (.wh t B) S Å o:=by
 intro cx x env A g s Q E hx C hq;obtain⟨y,c,p,rfl,e1,e2⟩:=sv hx;exact wpAny_While (h1.2 _ _ _ _ _ _ _ e1 e2 C.down _ fun g' s' f G C' O=>hq.q g' s' f G (C.lift G C') O)
end
section
variable{st ĉ S Å Í:St}{H H' H₁ Ö:List Cell}{ρ κ ß ê:List (Option V)}{es as:List PE}{vs vs':List V}{v x:V}{e t:PE}{c n j:Nat}{l:List (Nat×V)}
inductive DQ(h:Heap)(tab a:Addr):Prop
 |mk (o:Obj) (fd:FuncData) (e:h.get? a=some o) (q:o.data=.func fd) (c:o.cls=.type "function") (n:a≠tab)
inductive ClsAt(h h₀:Heap)(tab:Addr)(ŷ:List Õ)(fn:Nat→Addr)(P:ċ)(c:Nat):Prop
 |mk (nm q:Õ) (N:Addr) (bs:List Value) (sn:List Õ) (sub:List Value) (col:Option Bool) (dd:Option Addr) (k0 k1 k2 k3 k5:Option Value) (mN:Õ→Option Value) (c1:N≠tab)
   (c2:h.get? (fk c)=some (excClassObj nm q (fk c) N bs [.type "object"] true sn sub false col dd k0 k1 k2 k3 k5 "object.__new__")) (c3:h.Ns N mN)
   (c4:mN "__getattribute__"=none) (c5:mN "__getattr__"=none) (c6:mN "__setattr__"=none)
   (c7:∀a x,ç ŷ a=some x→P.gy c a=none→mN x=none) (c8:∀a x j,ç ŷ a=some x→P.gy c a=some j→mN x=some (.ref (fn j))∧DQ h₀ tab (fn j)) (c9:∀j,P.init c=some j→mN "__init__"=some (.ref (fn j))∧DQ h₀ tab (fn j))
structure af(Z:ę)(K:dn Z)(P:ċ)(c:Nat):Prop where
 tab:fk c≠Z.tab
 all:ClsAt Z.sh.heap Z.sh.heap Z.tab Z.ŷ K.fn P c
theorem Base.ľ(B:Base Z g s H){a:Addr}{o:Obj}(e:Z.sh.heap.get? a=some o)(n:a≠Z.tab):s.heap.get? a=some o:=B.Ô _ _ (B.top _ _ e n)
theorem af.now(F:af Z K P c)(B:Base Z g s H):ClsAt s.heap Z.sh.heap Z.tab Z.ŷ K.fn P c:=by
 obtain⟨nm,q,N,bs,sn,sub,col,dd,k0,k1,k2,k3,k5,mN,c1,c2,c3,c4,c5,c6,c7,c8,c9⟩:=F.all;exact⟨nm,q,N,bs,sn,sub,col,dd,k0,k1,k2,k3,k5,mN,c1,B.Ô _ _ (B.top _ _ c2 F.tab),B.du c3 c1,c4,c5,c6,c7,c8,c9⟩
structure cn(Z:ę):Prop where
 nd:Z.ŷ.Nodup
 obj:∀a x,ç Z.ŷ a=some x→typeLookup (.type "object") x=pure none
 small:Z.ŷ.length≤sizeLine
theorem xA(cS:cn Z){a b:Nat}{x:Õ}(h:ç Z.ŷ a=some x)(h':ç Z.ŷ b=some x):a=b:=by
 have n1:=gS (n:=0) cS.nd h;have n2:=gS (n:=0) cS.nd h';have:=ë (n1.symm.trans n2);exact ŵ (â [_,_] (.c (.a đ Â) (.a đ È) .z) Â È rfl (ņ this)) (â [_,_] (.c (.a đ Â) (.a đ È) .z) Â È rfl (ņ this.symm))
theorem zh{x:Nat}{v:V}{l:List (Nat×V)}(h:d8 x l=some v):(x,v)∈l:=by
 induction l with
 |nil=>
  exact nS h
 |cons fu l IH=>
  obtain⟨y,d⟩:=fu;have h:(if ö y x then some d else d8 x l)=some v:=h
  induction e:ö y x using ñ with
  |true=>rw[e]at h;(replace h:=ë h;subst h);rw[ġ e];exact Ů
  |false=>rw[e]at h;exact ũ _ (IH h)
theorem rB{k:FH}{Y:Sta}{es:List DictEntry}{x:Nat}{v:V}{l:List (Nat×V)}(q:iJ Y k l es)(h:(x,v)∈l):T2 fun s z=>A3 (ç Y.ŷ x=some s) (nsFind es.toArray s=some z) (Rep Y k v z):=by
 induction l with
 |nil=>
  cases h
 |cons fu l IH=>
  obtain⟨y,d⟩:=fu;obtain⟨s,z,h1,h2,h3,h4⟩:=q;rcases ĸ.mp h with e|h
  ·cases e;exact⟨s,z,h1,h2,h3⟩
  ·exact IH h4 h
theorem mv{x:Nat}:∀{l:List (Nat×V)},d8 x l=none→∀d,(x,d)∉l
 |[],_,_,hm=>by cases hm
 |(y,d)::l,h,d',hm=>by
  have h:(if ö y x then some d else d8 x l)=none:=h
  induction e:ö y x using ñ with
  |true=>rw[e]at h;exact sN h
  |false=>
   rw[e]at h;rcases ĸ.mp hm with q|hm
   ·(injection q with q;subst q);rw[qm]at e;exact Ĕ e
   ·exact mv h d' hm
inductive InstAt(Y:Sta)(h:Heap)(k:FH)(c:Nat)(l:List (Nat×V))(x:Value):Prop
 |mk (a:Addr) (es:List DictEntry) (e:x=.ref a) (i:h.Inst a (fk c) (nsFind es.toArray)) (w:mH Y.ŷ l es) (r:iJ Y k l es)
theorem w9{x:Value}(hx:ŝ Z.toSta s.heap g.k (.ins c l) x):InstAt Z.toSta s.heap g.k c l x:=by
 obtain⟨a,o,dx,od,es,rfl,h1,⟨i1,i2,i3,i4⟩,h2,⟨n,h3⟩,h4,h5⟩:=hx;exact⟨a,es,rfl,⟨_,h1,i1,i3,.inr ⟨dx,i2,i4,⟨od,_,n,h2,h3,h4.keys,h4.uniq,fun À=>rfl⟩⟩⟩,h4,h5⟩
theorem handed{Y:Sta}{k:FH}{v:V}{z:Value}(h:Rep Y k v z):handedOut z=pure z:=by
 induction h.vk using VK.casesOn<;>subst_vars<;>rfl
theorem yc{id:Õ}{p pos:Pos}(h:da (.Call (.Name id p) [] [] pos)=false):(id !="super")=true:=by
 have h:(true&&true&&(some id==some ("super":Õ)))=false:=h;rw[sF,sF]at h;exact bne_iff_ne.mpr fun e=>by rw[e,beq_self_eq_true]at h;exact Ĕ h
theorem eN{e:Expr}{a:Õ}{env:Env}{t:Sem Value}(h:da e=false):attributeBase e a env t=t:=by
 induction e using PySem.Expr.casesOn with
 |Call f as ks pos=>induction f using PySem.Expr.casesOn with
  |Name id p=>induction as using Ŭ with
   |nil=>induction ks using Ŭ with
    |nil=>exact if_pos (lR.mpr (.inl (lR.mpr (.inl (lR.mpr (.inl (yc h)))))))
    |cons=>rfl
   |cons=>rfl
  |_=>rfl
 |_=>rfl
theorem Fz(Tq:af Z K P c)(cS:cn Z)(B:Base Z g s H){x:Value}{a:Nat}{name:Õ}{v:V}{ex:Bool}{Q:Value→Shared→Prop}{E:Value→Shared→Prop}
  (hx:ŝ Z.toSta s.heap g.k (.ins c l) x)(hm:P.gy c a=none)(hl:d8 a l=some v)(hn:ç Z.ŷ a=some name)
  (hq:∀t z,Rep Z.toSta g.k v z→Q z {s with toks:=t}):õ prog w A (getAttr x name ex) Q E s:=by
 obtain⟨ad,es,rfl,hI,h4,h5⟩:=w9 hx;obtain⟨nm,q,N,bs,sn,sub,col,dd,k0,k1,k2,k3,k5,mN,c1,c2,c3,c4,c5,c6,c7,c8,c9⟩:=Tq.now B;obtain⟨s',z,e1,e2,e3⟩:=rB h5 (zh hl);rw[hn]at e1;(replace e1:=ë e1;subst e1);exact load_attr c2 c3 c4 (c7 a _ hn hm) (cS.obj a _ hn) hI e2 (handed e3) (hq _ z e3)
theorem insI{v:V}{p:Nat×List (Nat×V)}(h:sM v=some p):v=.ins p.1 p.2:=mL (f:=fun p=>V.ins p.1 p.2) h (by induction v using V.casesOn<;>first|exact trivial|exact rfl)
theorem jP{H:L}{v:V}(h:fields H v=some (c,l)):view H v=some (.ins c l):=by
 refine ï h fun x h1 h2=>?_;rw[h1,insI h2]
theorem Rc(hc:∀c j,P.init c=some j→af Z K P c)(cS:cn Z)(h1:ű prog w Z d e S ⟨H,ρ,κ⟩ v)(h2:fields H v=some (c,l))(h3:P.init c=some j)(h4:P.gy c n=none)(h5:d8 n l=some x):ű prog w Z d (.at e n) S ⟨H,ρ,κ⟩ x:=by
 intro cx x env A g s Q E hx C hq;obtain⟨y,a,p,rfl,BJ,vo,e1⟩:=iv hx;rw[arm_eval_Attribute,eN BJ];refine wpAny_bind (h1 _ _ _ _ _ _ _ _ e1 C fun Û ò Ŷ Ñ Ï ô=>?_);refine wpAny_bind (wpAny_standAt (wpAny_bind (wpAny_holding ?_)));refine Fz (hc c j h3) cS Ï.base (Ï.view ô (jP h2)) h4 h5 (Ï.e.ŷ▸dc vo) fun t z hz=>?_;exact wpAny_bind (wpAny_letTemporaryGo (wpAny_pure (hq _ _ _ Ñ (Ï.toks t) hz.iP)))
end
section
variable{st ĉ S Å Í:St}{H H' H₁ Ö:List Cell}{ρ κ ß ê Ŗ ĺ:List (Option V)}{es as:List PE}{vs vs':List V}{v x:V}{e t:PE}{c n j m:Nat}{l:List (Nat×V)}
theorem d6{M:Model}{A:Around}{E:Value→Shared→Prop}{s:Shared}{pos:Pos}{f:Value}{first:List Value}{args:List (Bool×Sem Value)}{Q:Value→Shared→Prop}(hp:args.any (·.1)=false)
  (h:wpAny M A (spliced args) (fun vs Ĉ=>(∀Q:Keeper→Shared→Prop,Q .machine Ĉ→wpAny M A (keeperOf f) Q E Ĉ)∧wpAny M A (call f (first++vs)) Q E Ĉ) E s):wpAny M A (callWith pos f first args []) Q E s:=by
 unfold callWith;refine wpAny_bind (wpAny_holding (ı hp (wpAny_mono h (fun vs Ĉ bA=>wpAny_bind (wpAny_standAt ?_)) fun À À x=>x)));simp only[hp,List.any_nil,Bool.or_false];refine wpAny_bind (bA.1 _ ?_);exact wpAny_bind (wpAny_mono bA.2 (fun r ĝ hr=>wpAny_bind (wpAny_holding (wpAny_point (wpAny_pure hr)))) fun À À x=>x)
theorem Gm{ys:List Expr}{pos:Pos}(hp:plain ys=true)(hn:ys.length<20):methodCallForm (ys.length+0) (backTo pos (starEach ys env)) []=true:=by
 have:=plain_any (env:=env) (pos:=pos) hp;unfold methodCallForm;simp only[List.all_nil,List.isEmpty_nil,Bool.and_true,if_true,Nat.add_zero,au,decide_eq_true_eq];refine⟨kg.mpr fun x hx=>?_,by exact è ‹_› (by decide)⟩;rw[List.any_eq_false]at this
 simpa using this x hx
theorem method_call{o:Expr}{ys:List Expr}{a:Õ}{apos pos:Pos}{u f:Value}{first:List Value}{Q:Value→Shared→Prop}{E:Value→Shared→Prop}(hp:plain ys=true)(sV:(apos.endLine==pos.line)=true)(hn:ys.length<20)
  (key:∀(Q:Value×List Value→Shared→Prop),Q (f,first) s'→∀pl,õ prog w A (getMethod u a pl) Q E s)(h:∀p,õ prog w A (callWith p f first (backTo pos (starEach ys env)) []) Q E s'):
  õ prog w A (methodCall o a apos pos env u (ys.length+0) (backTo pos (starEach ys env)) []) Q E s:=by
 unfold methodCall;rw[Gm hp hn];refine wpAny_bind (wpAny_holding (key _ ?_ _));refine wpAny_bind ?_;unfold methodCallPos;rw[sV];exact wpAny_pure (h _)
theorem QU(hc:∀c j,P.init c=some j→af Z K P c)(cS:cn Z)(h1:ű prog w Z d e S ⟨H,ρ,κ⟩ v)(h2:fields H v=some (c,l))(h3:P.init c=some m)(h4:d8 n l=none)(h5:P.gy c n=some j)(h6:Ļ prog w Z d as ⟨H,ρ,κ⟩ ⟨H₁,ß,ê⟩ vs)
  (h7:cG prog w Z K d j (v::vs) H₁ ⟨Ö,Ŗ,ĺ⟩ x):ű prog w Z d (.me e n as) S ⟨Ö,ß,ê⟩ x:=by
 intro cx x env A g s Q E hx C hq;obtain⟨y,a,ap,ys,p,rfl,hp,BJ,sV,hlen,vo,e1,e2⟩:=iv hx;rw[arm_eval_Call,eN BJ];refine wpAny_bind (h1 _ _ _ _ _ _ _ _ e1 C fun Û ò Ŷ Ñ Ï ô=>wpAny_bind (wpAny_standAt ?_));have e_:ç Z.ŷ n=some a:=C.e.ŷ▸dc vo;obtain⟨ad,es,rfl,hI,q4,q5⟩:=w9 (Ï.view ô (jP h2));obtain⟨nm,q,N,bs,sn,sub,col,dd,k0,k1,k2,k3,k5,mN,c1,c2,c3,c4,c5,c6,c7,c8,c9⟩:=(hc c m h3).now Ï.base;obtain⟨m1,of,fd,f1,f2,f3,f4⟩:=c8 n a j e_ h5;have ZU:nsFind es.toArray a=none:=by
  induction q:nsFind es.toArray a using š with
  |none=>rfl
  |some z=>
   obtain⟨x,dv,ZW,LO⟩:=q4.only a z q;rw[xA cS e_ LO]at h4;exact absurd ZW (mv h4 dv)
 refine method_call hp sV hlen (fun Q hQ pl=>method_of c2 c3 c4 c5 m1 (Ï.base.ľ f1 f4) f3 (cS.obj n a e_) hI ZU hQ) fun À=>?_;refine Calls.callWith_function (o:=of) (fd:=fd) (ı (plain_any hp) ?_);refine h6 _ _ _ _ _ _ _ _ _ e2 hp Ï fun ó ļ xs ú æ Ű=>⟨⟨æ.base.ľ f1 f4,f2⟩,?_⟩;exact h7 _ _ _ _ _ _ æ.r æ.i.gG æ.base ⟨_,_,rfl,ô.mono ú,Ű⟩ fun İ iV x Ĩ tZ Ş bI=>hq _ _ _ (Ñ.trans (ú.trans Ĩ.toGst)) (æ.fJ Ĩ tZ Ş) bI
theorem pY{r:Role}(h:r=.free):(∀o,r≠.Ô o)∧r≠.tab:=by subst h;exact⟨by simp,by simp⟩
theorem kZ{r:Role}{i:Nat}(h:r=.free):r≠.cell i∧r≠.cV i:=by subst h;exact⟨by simp,by simp⟩
theorem hU{r:Role}{h:Heap}{a:Addr}{o:Obj}{i:Nat}(e:r=.cell i∨r=.cV i)(ho:h.get? a=some o):A4 (∀o,r=.Ô o→h.get? a=some o) (∀o,r=.kept o→∃sl,h.get? a=some {o with slots:=sl}) (∀o,r=.held o→h.get? a=some o) (r≠.free→∃o,h.get? a=some o):=by
 rcases e with rfl|rfl<;>exact⟨by simp,by simp,by simp,fun À=>⟨o,ho⟩⟩
theorem Base.Fj(B:Base Z g s H){h':Heap}{x dx:Addr}{c:Nat}(M:Heap.MadeObj s.heap h' x dx (fk c))(t:Nat){C:Prop}
  (hq:∀g',Ę g g'→Base Z g' {s with heap:=h',toks:=t} (H++[.ins c []])→Ć Z g' (.Ó H.length) (.ref x)→C):C:=by
 have fr:∀a,s.heap.get? a=none→g.r a=.free:=fun a e=>Classical.byContradiction fun n=>by
  obtain⟨o,q⟩:=B.alive a n;rw[e]at q;cases q
 have fx:=fr x M.newX;have fd:=fr dx M.newD;obtain⟨o,ho,D6,Tf,N3⟩:=M.inst;rcases N3 with⟨q,_⟩|⟨Ue,N4,dY,od,es,ep,PW,To,hk,hu,NS⟩
 ·rw[M.dict o ho]at q;cases q
 have e:=M.dict o ho;rw[N4]at e;cases e;have last:ç (g.as++[x]) H.length=some x:=B.len▸eB _ _;generalize s6:(g.set x (.cell H.length)).set dx (.cV H.length)=Û;have r1:Û.r x=.cell H.length:=s6▸((g.set x _).ù _ (Ne.symm dY)).trans (g.ÿ ..);have r2:Û.r dx=.cV H.length:=s6▸Gh.ÿ ..;have r3:∀b,b≠x→b≠dx→Û.r b=g.r b:=fun b n1 n2=>s6▸((g.set x _).ù _ n2).trans (g.ù _ n1)
 have as:Û.as=g.as:=s6▸rfl;have fd':(g.set x (.cell H.length)).r dx=.free:=(g.ù _ dY).trans fd;have S:Ę g (Û.snoc x):=s6▸((Ę.set g fx).trans (Ę.set _ fd')).trans (Ę.snoc _ _);have last:ç (Û.snoc x).as H.length=some x:=by show ç (Û.as++[x]) _=_;rw[as];exact last
 refine hq (Û.snoc x) S ?_ ⟨x,last,rfl⟩;refine B.gen (g':=Û.snoc x) (fun b=>b=x∨b=dx) ?_ (fun b o À q=>M.keeps b o q) (fun b nd=>r3 b (fun q=>nd (.inl q)) fun q=>nd (.inr q)) ?_ ?_ (fun À À q=>by show ç (Û.as++[x]) _=_;rw[as];exact ag q) fun i c' q=>?_
 ·rintro _ (rfl|rfl)
  ·exact pY fx
  ·exact pY fd
 ·rintro _ (rfl|rfl)
  ·exact hU (.inl r1) ho
  ·exact hU (.inr r2) PW
 ·show(Û.as++[x]).length=_;rw[Ċ,Ċ,as,B.len];rfl
 ·rcases fH q with q|⟨rfl,rfl⟩
  ·refine .inl ⟨q,?_⟩
   rintro _ (rfl|rfl)
   ·exact kZ fx
   ·exact kZ fd
  ·have ee:es.toList.toArray=es:=Array.toArray_toList;refine .inr ⟨x,last,r1,o,dx,od,es.toList,ho,⟨D6,N4,Tf,dY⟩,r2,PW,⟨ep,ee.symm▸To⟩,⟨ee.symm▸hk,ee.symm▸hu,fun s v q=>?_,lQ⟩,trivial⟩;rw[ee,NS]at q;cases q
theorem ŕ.under{c:Code}(h:ŕ (d+1) A g)(h1:c.weight≤4)(h2:c.cUnits≤20)(h3:c.envs=[]):ŕ d (A.under c) g:=by
 refine⟨h.hd,?_,?_,?_⟩
 ·have:=h.depth;show A.depth+c.weight+4*d+2<_;exact â [_,_,_,_] (.c È dM (.c (.a (.a (.a Â (.m 4 (.a á Á))) Ĵ) Á) j_ .z)) (.a (.a (.a (.a Â È) (.m 4 á)) Ĵ) Á) j_ rfl h1 this
 ·have:=h.units;show A.units+c.cUnits+20*d+30<_;exact â [_,_,_,_] (.c È ŧ (.c (.a (.a (.a Â (.m 20 (.a á Á))) bM) Á) j_ .z)) (.a (.a (.a (.a Â È) (.m 20 á)) bM) Á) j_ rfl h2 this
 ·obtain⟨l,a,b⟩:=h.frames;refine⟨l,?_,b⟩;show pushEnvs c.envs A.frames=_;rw[h3];exact a
theorem YE(C:Addr)(xs:List Value):(Code.builtin "type.__call__" ⟨.ref C::xs,[]⟩).weight=1:=rfl
theorem YF(C:Addr)(xs:List Value):(Code.builtin "type.__call__" ⟨.ref C::xs,[]⟩).cUnits=1:=by kernel_rfl
theorem YG(C:Addr)(xs:List Value):(Code.builtin "type.__call__" ⟨.ref C::xs,[]⟩).envs=[]:=by kernel_rfl
theorem rY(hc:∀c j,P.init c=some j→af Z K P c)(hg:cg Z K){cx:Cx}{f:Õ}{np p:Pos}{ys:List Expr}{Q:Value→Shared→Prop}{E:Value→Shared→Prop}(hf:dz cx f=some (.cls c))(hp:plain ys=true)(e1:fh cx ys=as)(h1:Ļ prog w Z (d+1) as S ⟨H,ρ,κ⟩ vs)(h2:P.init c=some j)
  (h3:cG prog w Z K d j (.Ó H.length::vs) (H++[.ins c []]) ⟨H₁,ß,ê⟩ .none)(C:Ok Z (d+1) cx A env g s S)(hq:∀g' s' x,Gst g g'→Ok Z (d+1) cx A env g' s' ⟨H₁,ρ,κ⟩→Ć Z g' (.Ó H.length) x→Q x s'):õ prog w A (eval (.Call (.Name f np) ys [] p) env) Q E s:=by
 refine aw (ō hg C.e C.base hf fun z hz=>?_);obtain rfl:z=.ref (fk c):=hz;refine d6 (plain_any hp) ?_;refine h1 _ _ _ _ _ _ _ _ _ e1 hp C fun Û ò xs Ñ Ï ô=>?_;obtain⟨nm,q,N,bs,sn,sub,col,dd,k0,k1,k2,k3,k5,mN,c1,c2,c3,c4,c5,c6,c7,c8,c9⟩:=(hc c j h2).now Ï.base;obtain⟨m1,of,fd,f1,f2,f3,f4⟩:=c9 j h2;refine⟨fun Q hQ=>wpAny_keeperOf_exc c2 hQ,wpAny_call_obj_init PySem.F.objNew c2 c3 m1 (Ï.base.ľ f1 f4) f3 fun h' x dx M=>?_⟩;refine Ï.base.Fj M ò.toks fun ó Í aB Ű=>?_;have æ:Ok Z (d+1) cx A env ó {ò with heap:=h'} ⟨H++[.ins c []],ρ,κ⟩:=Ï.next Í (fun b o q=>M.keeps b o q) aB;have RM:ŕ d (A.under (.builtin "type.__call__" ⟨.ref (fk c)::xs,[]⟩)) ó:=æ.r.under (by rw[YE];decide) (by rw[YF];decide) (YG _ _);refine h3 _ _ _ _ _ _ RM æ.i.gG æ.base ⟨_,_,rfl,Ű,ô.mono Í.toGst⟩ fun İ iV y Ĩ tZ Ş bI=>?_;exact⟨bI,hq _ _ _ (Ñ.trans (Í.trans Ĩ).toGst) (æ.fJ Ĩ tZ Ş) (Ű.mono Ĩ.toGst)⟩
theorem Q8(hc:∀c j,P.init c=some j→af Z K P c)(hg:cg Z K)(h1:Ļ prog w Z (d+1) as S ⟨H,ρ,κ⟩ vs)(h2:P.init c=some j)(h3:cG prog w Z K d j (.Ó H.length::vs) (H++[.ins c []]) ⟨H₁,ß,ê⟩ .none)(h5:Ô H₁ (.Ó H.length)=some (Ö,v)):ű prog w Z (d+1) (.cl c as) S ⟨Ö,ρ,κ⟩ v:=by
 intro cx x env A g s Q E hx C hq;obtain⟨f,np,ys,p,rfl,hp,hf,e1⟩:=iv hx;refine rY hc hg hf hp e1 h1 h2 h3 C fun İ iV y Ń Ĺ bI=>?_;exact Ĺ.base.bF h5 bI fun BZ eO nq vQ=>hq _ _ _ (Ń.trans eO.toGst) (Ĺ.next eO (Keeps.refl _) nq) vQ.iP
theorem Q5(hc:∀c j,P.init c=some j→af Z K P c)(hg:cg Z K)(h1:Ļ prog w Z (d+1) as S ⟨H,ρ,κ⟩ vs)(h2:P.init c=some j)(h3:cG prog w Z K d j (.Ó H.length::vs) (H++[.ins c []]) ⟨H₁,ß,ê⟩ .none):ű prog w Z (d+1) (.cl c as) S ⟨H₁,ρ,κ⟩ (.Ó H.length):=by
 intro cx x env A g s Q E hx C hq;obtain⟨f,np,ys,p,rfl,hp,hf,e1⟩:=iv hx;exact rY hc hg hf hp e1 h1 h2 h3 C hq
end
section
variable{st S:St}{H H₁ Ö:List Cell}{ρ κ:List (Option V)}{e:PE}{c n j m:Nat}{l:List (Nat×V)}{v v':V}
theorem gq(x z:Nat)(v u:V)(r:List (Nat×V)):(z=x∧gY x v ((z,u)::r)=(x,v)::r)∨(z≠x∧gY x v ((z,u)::r)=(z,u)::gY x v r):=by
 show(_∧(if ö z x then(x,v)::r else(z,u)::gY x v r)=_)∨(_∧(if ö z x then(x,v)::r else(z,u)::gY x v r)=_)
 induction e:ö z x using ñ with
 |true=>exact .inl ⟨ġ e,rfl⟩
 |false=>exact .inr ⟨Nat.ne_of_beq_eq_false e,rfl⟩
theorem CR{x y:Nat}{v d:V}(n:y≠x):∀{l:List (Nat×V)},(y,d)∈l→(y,d)∈gY x v l:=fun {l}=>by
 induction l with
 |nil=>exact nofun
 |cons p r ih=>
  intro h;rcases gq x p.1 v p.2 r with⟨e,q⟩|⟨e,q⟩<;>(refine q▸?_;rcases ĸ.mp h with h|h)
  ·exact absurd ((congrArg (·.1) h).trans e) n
  ·exact .tail _ h
  ·exact h▸.head _
  ·exact .tail _ (ih h)
theorem CS{x:Nat}{v:V}:∀{l:List (Nat×V)},(x,v)∈gY x v l:=fun {l}=>by
 induction l with
 |nil=>exact .head _
 |cons p r ih=>
  rcases gq x p.1 v p.2 r with⟨e,q⟩|⟨e,q⟩<;>refine q▸?_
  ·exact e▸.head _
  ·exact .tail _ ih
theorem tN{x y:Nat}{v d:V}:∀{l:List (Nat×V)},(l.map (·.1)).Nodup→(y,d)∈gY x v l→(y=x∧d=v)∨(y≠x∧(y,d)∈l):=fun {l}=>by
 induction l with
 |nil=>exact fun À h=>.inl (Prod.mk.inj (Ė.mp h))
 |cons p r ih=>
  intro nd;obtain⟨nn,nd⟩:=eX.mp nd;rcases gq x p.1 v p.2 r with⟨e,q⟩|⟨e,q⟩<;>(refine fun h=>?_;rcases ĸ.mp (q▸h)with h|h)
  ·exact .inl (Prod.mk.inj h)
  ·exact .inr ⟨fun e'=>nn (dT.mpr ⟨_,h,e'.trans e.symm⟩),.tail _ h⟩
  ·exact .inr ⟨fun e'=>e ((congrArg (·.1) h).symm.trans e'),h▸.head _⟩
  ·exact(ih nd h).imp id fun k=>⟨k.1,.tail _ k.2⟩
theorem G0{x:Nat}{v:V}:∀{l:List (Nat×V)},(l.map (·.1)).Nodup→((gY x v l).map (·.1)).Nodup:=fun {l}=>by
 induction l with
 |nil=>exact fun À=>eX.mpr ⟨nofun,lQ⟩
 |cons p r ih=>
  intro nd;obtain⟨nn,Sx⟩:=eX.mp nd;rcases gq x p.1 v p.2 r with⟨e,q⟩|⟨e,q⟩<;>refine q▸?_
  ·exact eX.mpr ⟨e▸nn,Sx⟩
  ·refine eX.mpr ⟨fun k=>?_,ih Sx⟩;obtain⟨u,k,ku⟩:=dT.mp k;rcases tN (y:=u.1) (d:=u.2) Sx k with⟨k,_⟩|⟨_,k⟩
   ·exact e (ku.symm.trans k)
   ·exact nn (dT.mpr ⟨_,k,ku⟩)
theorem E1{k:FH}{Y:Sta}{es:List DictEntry}:∀{l:List (Nat×V)},(∀x v,(x,v)∈l→T2 fun s z=>A3 (ç Y.ŷ x=some s) (nsFind es.toArray s=some z) (Rep Y k v z))→iJ Y k l es:=fun {l}=>by
 induction l with
 |nil=>exact fun À=>trivial
 |cons p r ih=>
  intro h;obtain⟨s,z,a,b,c⟩:=h p.1 p.2 (.head _);exact⟨s,z,a,b,c,ih fun x v m=>h x v (.tail _ m)⟩
theorem zd{es:List DictEntry}{mi:Array DictEntry}{a:Õ}{x:Value}{i:Nat}(k4:mH Z.ŷ l es)(hk:StrKeys mi)(hu:UniqKeys mi)(e_:ç Z.ŷ i=some a)(kf:∀y,nsFind mi y=if y=a then some x else nsFind es.toArray y):mH Z.ŷ (gY i v l) mi.toList:=by
 have ee:mi.toList.toArray=mi:=Array.toArray_toList;refine⟨ee.symm▸hk,ee.symm▸hu,fun y z q=>?_,G0 k4.nd⟩;rw[ee,kf]at q
 by_cases e:y=a
 ·exact⟨i,v,CS,e▸e_⟩
 ·obtain⟨x',d',m,LO⟩:=k4.only y z ((if_neg e).symm.trans q);exact⟨x',d',CR (fun e':x'=i=>e (ë (LO.symm.trans (e'▸e_)))) m,LO⟩
theorem Ai{k:FH}{es:List DictEntry}{mi:Array DictEntry}{a:Õ}{x:Value}{i:Nat}(cS:cn Z)(nd:(l.map (·.1)).Nodup)(h:iJ Z.toSta k l es)(e_:ç Z.ŷ i=some a)(kf:∀y,nsFind mi y=if y=a then some x else nsFind es.toArray y)(R:Rep Z.toSta k v x):iJ Z.toSta k (gY i v l) mi.toList:=by
 refine E1 fun y dv m=>?_;rcases tN nd m with⟨e1,e2⟩|⟨ne,m⟩
 ·exact⟨a,x,e1▸e_,(kf a).trans (if_pos rfl),e2▸R⟩
 ·obtain⟨sy,z,b1,b2,b3⟩:=rB h m;exact⟨sy,z,b1,((kf sy).trans (if_neg fun e:sy=a=>ne (xA cS b1 (e.symm▸e_)))).trans b2,b3⟩
theorem JU{o o':Obj}(h1:o'.cls=o.cls)(h2:o'.data=o.data)(h3:o'.slots=o.slots)(h4:o'.dict=o.dict):o'=o:=by
 induction o using PySem.Obj.casesOn;induction o' using PySem.Obj.casesOn;simp_all
structure Ly(h h':Heap)(ad dx:Addr)(ob:Obj)(a:Õ)(x:Value)(es:Array DictEntry):Prop where
 kp:∀b o,b≠ad→b≠dx→h.get? b=some o→h'.get? b=some o
 ho:h'.get? ad=some ob
 ds:T2 fun od mi=>A5 (h'.get? dx=some od) (He mi.toList od) (StrKeys mi) (UniqKeys mi) (∀y,nsFind mi y=if y=a then some x else nsFind es y)
theorem uD(hc:af Z K P c)(cS:cn Z)(B:Base Z g s H){ad dx:Addr}{ob od:Obj}{es:List DictEntry}{a:Õ}{x:Value}{i:Nat}{Q:Unit→Shared→Prop}{E:Value→Shared→Prop}(e_:ç Z.ŷ i=some a)(hm:P.gy c i=none)(r1:g.r ad=.cell m)(k1:s.heap.get? ad=some ob)
  (q:DN c ad dx ob)(k2:s.heap.get? dx=some od)(q':He es od)(k4:mH Z.ŷ l es)(hQ:∀h' kR,Ly s.heap h' ad dx ob a x es.toArray→Q () {s with heap:=h',toks:=kR}):õ prog w A (setAttr (.ref ad) a x) Q E s:=by
 obtain⟨i1,i2,i3,i4⟩:=q;obtain⟨n',k3⟩:=q';obtain⟨nm,q,N,bs,sn,sub,col,dd,kk0,kk1,kk2,kk3,kk5,mN,c1,c2,c3,c4,c5,c6,c7,c8,c9⟩:=hc.all;have top:=B.top _ _ c2 hc.tab;have dY:ad≠fk c:=fun q=>by rw[←q,r1]at top;exact neT Role.ctorIdx top rfl
 have hI:s.heap.Inst ad (fk c) (nsFind es.toArray):=⟨_,k1,i1,i3,.inr ⟨dx,i2,i4,⟨od,_,n',k2,k3,k4.keys,k4.uniq,fun À=>rfl⟩⟩⟩;have hw:Within (nsFind es.toArray) Z.ŷ:=fun y hy=>by
  induction q:nsFind es.toArray y using š with
  |none=>exact absurd q hy
  |some z=>obtain⟨x,dv,_,LO⟩:=k4.only y z q;exact aH LO
 obtain⟨mM,gn,dr,tk,os⟩:=s;refine store_attr PySem.F.store_object (B.Ô _ _ top) (B.du c3 c1) c6 (c7 i a e_ hm) (cS.obj i a e_) dY hI (fun h' kR I' kp sm=>?_) hw cS.small;obtain⟨ň,p1,p2,p3,p4,p5⟩:=sm ob k1;have ho:h'.get? ad=some ob:=p1.trans (congrArg some (JU p2 p3 p4 ((p5 dx i2).trans i2.symm)));refine hQ h' kR ⟨fun b o n1 n2 e=>kp b o n1 (fun Za Ue q1 q2=>?_) e,ho,?_⟩
 ·have e:=ë (k1.symm.trans q1);exact fun e'=>n2 (e'.trans (ë (q2.symm.trans (e▸i2))))
 ·obtain⟨aG,q1,q2,q3,q4⟩:=I';have e:=ë (ho.symm.trans q1);rcases q4 with⟨q,_⟩|⟨Ue,qd,_,R3,mi,ep',kd,Kl,kk,ku,kf⟩
  ·rw[←e,i2]at q;exact sN q
  ·have e':=ë ((e▸i2).symm.trans qd);exact⟨R3,mi,e'▸kd,⟨ep',(Array.toArray_toList (xs:=mi)).symm▸Kl⟩,kk,ku,kf⟩
theorem JA(hc:∀c j,P.init c=some j→af Z K P c)(cS:cn Z)(h1:ű prog w Z d e S ⟨H,ρ,κ⟩ (.Ó m))(h2:Ô H v=some (H₁,v'))(h3:ç H₁ m=some (.ins c l))(h4:P.init c=some j)(h5:P.gy c n=none)(h6:put H₁ m (.ins c (gY n v' l))=Ö):
  vP prog w Z d (.a e n) v S ⟨Ö,ρ,κ⟩:=by
 intro cx x env A g s y Q E hx C hv hq;obtain⟨o,a,p,rfl,vo,e1⟩:=tv hx;rw[assign_Attribute];refine wpAny_bind (wpAny_holding ?_);refine h1 _ _ _ _ _ _ _ _ e1 C fun Û ò Ŷ Ñ Ï ô=>?_;have e_:ç Z.ŷ n=some a:=C.e.ŷ▸dc vo;refine Ï.base.bF h2 (hv.mono Ñ) fun ó Í aB f_=>?_;have æ:=Ï.next Í (Keeps.refl _) aB;obtain⟨ad,ha,rfl⟩:=ô.mono Í.toGst;obtain⟨UP,N6,r1,ob,dx,od,es,k1,q,r2,k2,q',k4,k5⟩:=aB.cells _ _ h3;obtain rfl:ad=UP:=ë (ha.symm.trans N6);refine wpAny_bind (wpAny_standAt (wpAny_bind (wpAny_holding ?_)));refine uD (hc c j h4) cS aB e_ h5 r1 k1 q k2 q' k4 fun h' kR M=>?_;obtain⟨kp,ho,R3,mi,kd,Kl,kk,ku,kf⟩:=M;refine dD (hq ó _ (Ñ.trans Í.toGst) (æ.fJ (.refl ó) (fun b o r e=>⟨o.slots,kp b o (fun q=>?_) (fun q=>?_) e⟩) ?_))
 ·subst q;rw[r1]at r;rcases r with r|⟨_,r⟩<;>exact neT Role.ctorIdx r rfl
 ·subst q;rw[r2]at r;rcases r with r|⟨_,r⟩<;>exact neT Role.ctorIdx r rfl
 ·refine h6▸aB.cZ (h':=h') (c':=.ins c (gY n v' l)) kR (fun b=>b=ad∨b=dx) h3 ha ?_ (fun b o nd e=>kp b o (fun q=>nd (.inl q)) (fun q=>nd (.inr q)) e) ?_ ⟨r1,ob,dx,R3,mi.toList,ho,q,r2,kd,Kl,zd k4 kk ku e_ kf,Ai cS k4.nd k5 e_ kf f_⟩
  ·rintro _ (rfl|rfl)
   ·exact .inl r1
   ·exact .inr r2
  ·rintro _ (rfl|rfl)
   ·exact⟨_,ho⟩
   ·exact⟨_,kd⟩
end
section
variable{h:Heap}{k:FH}{Y:Sta}{l:List (List Nat×V)}{es:List DictEntry}{fP:List (Õ×Value)}{x:List Nat}{u:V}{v:Value}
inductive Kv(Y:Sta)(k:FH):List (List Nat×V)→List (Õ×Value)→Prop
 |nil:Kv Y k [] []
 |cons {x d l v r} (h1:Rep Y k d v) (h2:Kv Y k l r):Kv Y k ((x,d)::l) ((⟨⟨x⟩⟩,v)::r)
theorem kA{x y:List Nat}(h:(⟨⟨x⟩⟩:Õ)=⟨⟨y⟩⟩):x=y:=congrArg (fun s:Õ=>s.cps.toList) h
theorem Kv.keys(h:Kv Y k l fP):fP.map (·.1)=l.map fun p=>(⟨⟨p.1⟩⟩:Õ):=by
 induction h with
 |nil=>rfl
 |cons _ _ ih=>exact congrArg (List.cons _) ih
theorem Kv.nodup(h:Kv Y k l fP)(nd:(l.map (·.1)).Nodup):(fP.map (·.1)).Nodup:=by
 rw[h.keys];exact List.pairwise_map.mpr ((List.pairwise_map.mp nd).imp fun n e=>n (kA e))
theorem nH(prog:Program)(w:World)(x:List Nat)(t:Tok):(strKind prog w).is ⟨⟨x⟩⟩ (.str ⟨⟨x⟩⟩ t)=true:=decide_eq_true rfl
structure DK(prog:Program)(w:World)(Y:Sta)(k:FH)(l:List (List Nat×V))(es:List DictEntry)(fP:List (Õ×Value)):Prop where
 v:Kv Y k l fP
 p:Pairs (strKind prog w) es fP
 h:∀e∈es,∃k,(strKind prog w).is k e.key=true∧e.hash=(strKind prog w).hash k
theorem E0(hh:Z.hash=hashStr w)(h:gZ Z.toSta k l es):∃fP,DK prog w Z.toSta k l es fP:=by
 induction l generalizing es with
 |nil=>exact h▸⟨[],.nil,.nil,fun À m=>absurd m qn⟩
 |cons p l ih=>
  obtain⟨t,v,r,e,h1,h2⟩:=h;obtain⟨fP,a,b,c⟩:=ih h2;refine e▸⟨(⟨⟨p.1⟩⟩,v)::fP,.cons h1 a,.cons (nH ..) rfl b,fun e he=>?_⟩;rcases ĸ.mp he with he|he
  ·exact he▸⟨⟨⟨p.1⟩⟩,nH ..,congrFun hh _⟩
  ·exact c e he
theorem eL(hh:Z.hash=hashStr w){a:Addr}{o:Obj}(ho:h.get? a=some o)(hd:xP es o)(nd:(l.map (·.1)).Nodup)(hr:gZ Z.toSta k l es):
  ∃fP,Kv Z.toSta k l fP∧h.DictOf (strKind prog w) a fP:=by
 obtain⟨fP,h1,h2,h3⟩:=E0 (prog:=prog) hh hr;obtain⟨n,rfl⟩:=hd;have e:es.toArray.toList=es:=rfl;exact⟨fP,h1,_,es.toArray,n,ho,⟨rfl,rfl,rfl⟩,rfl,fun e he=>h3 e (Array.mem_toList_iff.mpr he),h2,h1.nodup nd⟩
set_option tactic.hygienic true in
theorem FN(hh:Z.hash=hashStr w)(h:Kv Z.toSta k l fP)(hp:Pairs (strKind prog w) es fP)(hk:∀e∈es,∃k,(strKind prog w).is k e.key=true∧e.hash=(strKind prog w).hash k):gZ Z.toSta k l es:=by
 induction h generalizing es with
 |nil=>cases hp;rfl
 |@cons x d l v r h1 h2 ih=>
  cases hp with
  |cons a b c=>
  rename_i e es;obtain⟨t,ht⟩:=Value.isStrOf_shape a;obtain⟨k',q1,q2⟩:=hk e (.head _);have q3:e.hash=Z.hash ⟨⟨x⟩⟩:=q2.trans ((congrArg (hashStr w) (Value.isStrOf_inj _ _ _ q1 a)).trans (congrFun hh _).symm);refine⟨t,v,es,?_,h1,ih c fun e he=>hk e (.tail _ he)⟩;have b:e.val=v:=b;rw[←q3,←ht,←b]
theorem k_(hh:Z.hash=hashStr w){a:Addr}(hd:h.DictOf (strKind prog w) a fP)(hk:Kv Z.toSta k l fP):
  T2 fun o es=>A3 (h.get? a=some o) (xP es o) (gZ Z.toSta k l es):=by
 obtain⟨o,es,ep,h1,⟨e1,e2,e3⟩,h3,h4,h5,h6⟩:=hd;refine⟨o,es.toList,h1,⟨ep,?_⟩,FN hh hk h5 fun e he=>h4 e (Array.mem_toList_iff.mp he)⟩
 induction o using PySem.Obj.casesOn;subst e1;subst e2;subst e3;subst h3;rfl
theorem jn(x:List Nat)(p:List Nat×V)(u:V)(r:List (List Nat×V)):(p.1=x∧dput x u (p::r)=(p.1,u)::r)∨(p.1≠x∧dput x u (p::r)=p::dput x u r):=by
 show(_∧(if Ø p.1 x then(p.1,u)::r else p::dput x u r)=_)∨(_∧(if Ø p.1 x then(p.1,u)::r else p::dput x u r)=_)
 induction e:Ø p.1 x using ñ with
 |true=>exact .inl ⟨þ e,rfl⟩
 |false=>exact .inr ⟨fun q=>(by rw[q,ŭ]at e;exact Ĕ e),rfl⟩
theorem yx(x:List Nat)(p:List Nat×V)(r:List (List Nat×V)):(p.1=x∧look x (p::r)=some p.2)∨(p.1≠x∧look x (p::r)=look x r):=by
 show(_∧(if Ø p.1 x then some p.2 else look x r)=_)∨(_∧(if Ø p.1 x then some p.2 else look x r)=_)
 induction e:Ø p.1 x using ñ with
 |true=>exact .inl ⟨þ e,rfl⟩
 |false=>exact .inr ⟨fun q=>(by rw[q,ŭ]at e;exact Ĕ e),rfl⟩
theorem pG{α:Type}[DecidableEq α](k:α)(p:α×Value)(r:List (α×Value)):(p.1=k→valueAt (p::r) k=some p.2)∧(p.1≠k→valueAt (p::r) k=valueAt r k):=by
 unfold valueAt;rw[List.find?_cons];exact⟨fun e=>by rw[decide_eq_true e];rfl,fun e=>by rw[decide_eq_false e]⟩
theorem Kv.look(h:Kv Y k l fP):(∀d,look x l=some d→∃v,valueAt fP ⟨⟨x⟩⟩=some v∧Rep Y k d v)∧(look x l=none→valueAt fP (⟨⟨x⟩⟩:Õ)=none):=by
 induction h with
 |nil=>exact⟨(fun À q=>nS q),fun À=>rfl⟩
 |@cons y d l v r h1 h2 ih=>
  obtain⟨v1,v2⟩:=pG (⟨⟨x⟩⟩:Õ) (⟨⟨y⟩⟩,v) r;rcases yx x (y,d) l with⟨e,q⟩|⟨e,q⟩<;>rw[q]
  ·exact⟨fun d e'=>⟨v,v1 (congrArg (fun x=>(⟨⟨x⟩⟩:Õ)) e),ë e'▸h1⟩,(fun q=>sN q)⟩
  ·rw[v2 fun e'=>e (kA e')];exact ih
theorem yf{k:Õ}{p:Õ×Value}{r:List (Õ×Value)}(n:p.1≠k):PySem.stored (p::r) k v=p::PySem.stored r k v:=by
 unfold PySem.stored;rw[ik,decide_eq_false n,jJ,Ŏ,if_neg n]
 induction r.any fun kv=>decide (kv.1=k)using ñ<;>rfl
theorem yg{k:Õ}{p:Õ×Value}{r:List (Õ×Value)}(e:p.1=k)(n:k∉r.map (·.1)):PySem.stored (p::r) k v=(p.1,v)::r:=by
 unfold PySem.stored;rw[ik,decide_eq_true e,oE,if_pos rfl,Ŏ,if_pos e,map_store_of_not_mem _ _ _ n]
theorem Kv.stored(hv:Rep Y k u v)(h:Kv Y k l fP)(nd:(l.map (·.1)).Nodup):Kv Y k (dput x u l) (PySem.stored fP ⟨⟨x⟩⟩ v):=by
 induction h with
 |nil=>exact .cons hv .nil
 |@cons y d l v' r h1 h2 ih=>
  obtain⟨nn,nd⟩:=eX.mp nd;rcases jn x (y,d) u l with⟨e,q⟩|⟨e,q⟩<;>rw[q]
  ·have e:y=x:=e;subst e;rw[yg rfl fun m=>?_]
   ·exact .cons hv h2
   ·rw[h2.keys]at m;obtain⟨p,hp,e⟩:=dT.mp m;exact nn (dT.mpr ⟨p,hp,kA e⟩)
  ·rw[yf fun e'=>e (kA e')];exact .cons h1 (ih nd)
theorem Ck{y:List Nat}(h:y∈(dput x u l).map (·.1)):y=x∨y∈l.map (·.1):=by
 induction l with
 |nil=>exact .inl (Ė.mp h)
 |cons p r ih=>
  rcases jn x p u r with⟨e,q⟩|⟨e,q⟩<;>rw[q]at h
  ·exact .inr h
  ·rcases ĸ.mp h with h|h
   ·exact .inr (h▸.head _)
   ·exact(ih h).imp id (.tail _)
theorem Gy(h:(l.map (·.1)).Nodup):((dput x u l).map (·.1)).Nodup:=by
 induction l with
 |nil=>exact eX.mpr ⟨nofun,lQ⟩
 |cons p r ih=>
  obtain⟨nn,nd⟩:=eX.mp h;rcases jn x p u r with⟨e,q⟩|⟨e,q⟩<;>rw[q]
  ·exact h
  ·exact eX.mpr ⟨fun m=>(Ck m).elim e nn,ih nd⟩
end
section
variable{S Å:St}{H:List Cell}{ρ κ:List (Option V)}{v v' x y k:V}{e t:PE}
theorem Ž{i:Int}(h:ą i=true):i<1000000∧ -1000000<i:=⟨bE (oa h).1,bE (oa h).2⟩
inductive LJ{α:Type}(l:List α)(i:Int)(x:α):Prop
 |pos (h:0≤i) (e:l[i.toNat]? =some x) (q:i<l.length)
 |neg (h:i<0) (h':0≤i+l.length) (e:l[(i+l.length).toNat]? =some x)
theorem H7{α}{l:List α}{i:Int}{x:α}(h:at_ l i=some x):LJ l i x:=by
 have h:(if ĩ i 0 then(if ĩ (i+l.length) 0 then none else ç l (i+l.length).toNat)else ç l i.toNat)=some x:=h
 induction e0:ĩ i 0 using ñ with
 |true=>
  rw[e0]at h
  induction e1:ĩ (i+l.length) 0 using ñ with
  |true=>rw[e1]at h;exact nS h
  |false=>rw[e1]at h;exact .neg (bE e0) (bP.mp (of_decide_eq_false e1)) (Ł.symm.trans h)
 |false=>
  rw[e0]at h;have hl:i.toNat<l.length:=qa h;exact .pos (bP.mp (of_decide_eq_false e0)) (Ł.symm.trans h) ((Int.toNat_lt (bP.mp (of_decide_eq_false e0))).mp hl)
theorem oX{n:Int}(h:ą n=true): -2^63≤n∧n<2^63:=⟨oQ (show(-2^63:Int)≤ -1000000 by decide) (jL (Ž h).2),Int.lt_trans (Ž h).1 (show(1000000:Int)<2^63 by decide)⟩
theorem vG{α}{l:List α}{i:Int}{x:α}(h:at_ l i=some x):∃j,seqIndex? i l.length=some j∧l[j]? =some x:=by
 induction H7 h using LJ.casesOn with
 |pos a b c=>exact⟨_,by simp[seqIndex?,bP.mpr a,a,c],b⟩
 |neg a b c=>
  have:i+(l.length:Int)<l.length:=by exact ì [_,_] (.c (.a Â Á) đ .z) (.a (.a Â È) Á) È rfl a
  exact⟨_,by simp[seqIndex?,a,b,this],c⟩
theorem Ý.get{Y:Sta}{k:FH}:∀{l:List V} {xs:List Value} {j:Nat} {x:V},Ý Y k l xs→l[j]? =some x→∃z,xs[j]? =some z∧Rep Y k x z:=fun {l xs j x} q h=>by
 rw[←Ł]at h;have hl:j<xs.length:=q.len▸qa h;exact⟨_,List.getElem?_eq_getElem hl,q.ç hl h⟩
theorem uE{T:String}{vs:List Value}{o:Obj}{a:Addr}{h:Heap}(e:h.get? a=some o)(q:mz T vs o):∃n,h.get? a=some {cls:=.type T,dict:=none,data:=.seq vs.toArray n,slots:= #[]}:=by
 obtain⟨n,rfl⟩:=q;exact⟨n,e⟩
structure bK(prog:Program)(w:World)(A:Around)(s:Shared)(o i:Value)(Q:Value→Shared→Prop)(E:Value→Shared→Prop):Prop where
 t:T2 fun T id=>s.TypeIs o T∧typeLookup (.type T) "__getitem__"=pure (some (.builtin id))
 w:õ prog w A (getItem o i) Q E s
section
variable{o i:Value}{Q:Value→Shared→Prop}{E:Value→Shared→Prop}{n:Int}
theorem item_tup{l:List V}(hv:ŝ Z.toSta s.heap g.k (.tup l) o)(hk:Rep Z.toSta g.k (.int n) i)(hi:ą n=true)(h:at_ l n=some x)(hq:∀t z,Rep Z.toSta g.k x z→Q z {s with toks:=t}):bK prog w A s o i Q E:=by
 have b:=Ž hi;obtain⟨j,j1,j2⟩:=vG h;obtain⟨a,ob,vs,rfl,k1,q1,r1⟩:=hv;obtain⟨t,rfl⟩:=hk;obtain⟨z,z1,z2⟩:=r1.get j2;obtain⟨n,ex⟩:=uE k1 q1;refine⟨⟨"tuple",_,⟨_,ex,rfl⟩,F.slot_tuple_getitem.lookup⟩,?_⟩;exact PySem.P.getItem_tuple ex (oX hi).1 (oX hi).2 (k:=j) (by rw[ź,r1.len];exact j1) (by rw[sD];exact z1) (hq _ z z2)
theorem Bo{l:List V}(hv:ŝ Z.toSta s.heap g.k (.lst l) o)(hk:Rep Z.toSta g.k (.int n) i)(hi:ą n=true)(h:at_ l n=some x)(hq:∀t z,Rep Z.toSta g.k x z→Q z {s with toks:=t}):bK prog w A s o i Q E:=by
 have b:=Ž hi;obtain⟨a,ob,vs,rfl,k1,q1,r1⟩:=hv;obtain⟨t,rfl⟩:=hk;have il:=Base.isList k1 q1;refine⟨⟨"list",_,il.typeIs,slot_list_getitem.lookup⟩,?_⟩;have hl:(vs.toArray.size:Int)=l.length:=congrArg Nat.cast (ź.trans r1.len)
 induction H7 h using LJ.casesOn with
 |pos a c q=>
  obtain⟨z,z1,z2⟩:=r1.get c;exact wpAny_getItem_list il a (oX hi).2 (by rw[sD];exact z1) (hq _ z z2)
 |neg a a' c=>
  obtain⟨z,z1,z2⟩:=r1.get c;exact wpAny_getItem_list_neg il a (Int.le_of_sub_nonneg ((Int.sub_neg n _).symm▸hl.symm▸a')) (oX hi).1 (by rw[hl,sD];exact z1) (hq _ z z2)
theorem item_str{l:List Nat}{c:Nat}(hv:Rep Z.toSta g.k (.str l) o)(hk:Rep Z.toSta g.k (.int n) i)(hi:ą n=true)(h:at_ l n=some c)(hq:∀t z,Rep Z.toSta g.k (.str [c]) z→Q z {s with toks:=t}):bK prog w A s o i Q E:=by
 have b:=Ž hi;obtain⟨j,j1,j2⟩:=vG h;obtain⟨t,rfl⟩:=hv;obtain⟨u,rfl⟩:=hk;refine⟨⟨"str",_,typeIs_str _ _ _,F.slot_str_getitem.lookup⟩,?_⟩;have e:(⟨⟨l⟩⟩:Õ).length=l.length:=rfl;exact PySem.P.getItem_str (c:=c) (by simp;exact oX hi) (by rw[e,j1];simpa using j2) (hq _ _ ⟨_,rfl⟩)
theorem vi{l:List Nat}{c:Nat}(hv:Rep Z.toSta g.k (.bytes l) o)(hk:Rep Z.toSta g.k (.int n) i)(hi:ą n=true)(h:at_ l n=some c)(hq:∀t z,Rep Z.toSta g.k (.int c) z→Q z {s with toks:=t}):bK prog w A s o i Q E:=by
 have b:=Ž hi;obtain⟨j,j1,j2⟩:=vG h;obtain⟨b,t,rfl,rfl⟩:=hv;obtain⟨u,rfl⟩:=hk;refine⟨⟨"bytes",_,typeIs_bytes _ _ _,FB.slot_bytes_getitem.lookup⟩,?_⟩;rw[List.getElem?_map]at j2;obtain⟨c',Ga,rfl⟩:=Option.map_eq_some_iff.mp j2;refine getItem_gives (typeIs_bytes s _ t) (by decide) FB.slot_bytes_getitem FB.entry_bytes_getitem (FB.args_bytes_getitem_2 _ _) (gives_bytes_getitem b _ t u c' ?_ ?_) (hq _ _ ⟨_,rfl⟩)
 ·simp only[Builtin.Bytes.fitsIndex,au,decide_eq_true_eq];exact oX hi
 ·rw[ĕ]at j1;have:b.toList.length=b.size:=Array.length_toList;rw[←this,j1];exact(Array.getElem?_toList (xs:=b)).symm.trans Ga
theorem Bp{l:List (List Nat×V)}{c:List Nat}(hh:Z.hash=hashStr w)(hv:ŝ Z.toSta s.heap g.k (.aY l) o)(hk:Rep Z.toSta g.k (.str c) i)(h:look c l=some x)(hq:∀t z,Rep Z.toSta g.k x z→Q z {s with toks:=t}):bK prog w A s o i Q E:=by
 obtain⟨a,ob,es,rfl,k1,q1,nd,r1⟩:=hv;obtain⟨u,rfl⟩:=hk;obtain⟨fP,kv,K6⟩:=eL (prog:=prog) hh k1 q1 nd r1;obtain⟨z,z1,z2⟩:=kv.look.1 x h;exact⟨⟨"dict",_,K6.typeIs,slot_dict_getitem.lookup⟩,wpAny_getItem_of (knd:=strKind prog w) (nH ..) K6.mapOf z1 (hq _ z z2)⟩
theorem EZ(h:qI k=some n)(hk:Ć Z g k i):Rep Z.toSta g.k (.int n) i:=by
 have e:=iI h;subst e;exact hk
theorem RE{c:List Nat}(h:qS k=some c)(hk:Ć Z g k i):Rep Z.toSta g.k (.str c) i:=by
 have e:=iS h;subst e;exact hk
theorem F0(hh:Z.hash=hashStr w)(hv:ŝ Z.toSta s.heap g.k v o)(hk:Ć Z g k i)(h:item v k=some x)(hq:∀t z,Rep Z.toSta g.k x z→Q z {s with toks:=t}):bK prog w A s o i Q E:=by
 induction v using V.casesOn with
 |tup l=>refine ï h fun n h1 h2=>?_;(have h3:=cq h2;have h2:=cz h2);exact item_tup hv (EZ h1 hk) h2 h3 hq
 |lst l=>refine ï h fun n h1 h2=>?_;(have h3:=cq h2;have h2:=cz h2);exact Bo hv (EZ h1 hk) h2 h3 hq
 |str l=>refine ï h fun n h1 h2=>?_;(have h3:=cq h2;have h2:=cz h2);refine cK h3 fun c h4 h5=>?_;exact item_str hv (EZ h1 hk) h2 h4 (h5▸hq)
 |bytes l=>refine ï h fun n h1 h2=>?_;(have h3:=cq h2;have h2:=cz h2);refine cK h3 fun c h4 h5=>?_;exact vi hv (EZ h1 hk) h2 h4 (h5▸hq)
 |aY l=>refine ï h fun n h1 h2=>?_;exact Bp hh hv (RE h1 hk) h2 hq
 |_=>exact nS h
end
theorem ye{i:Expr}{o k:Value}(h:dW i=false):subscripted i false o k=operate [o,k] (getItem o k):=by
 induction i using PySem.Expr.casesOn<;>first|rfl|exact Ĕ h
theorem QY(hh:Z.hash=hashStr w)(h1:ű prog w Z d e S Å v)(h2:ű prog w Z d t Å ⟨H,ρ,κ⟩ x)(h3:view H v=some v')(h4:item v' x=some y):ű prog w Z d (.ix e t) S ⟨H,ρ,κ⟩ y:=by
 intro cx z env A g s Q E hx C hq;obtain⟨o,i,p,rfl,hs,e1,e2⟩:=iv hx;refine Subscript_ (h1 _ _ _ _ _ _ _ _ e1 C fun Û ò Ŷ Ñ Ï ô=>h2 _ _ _ _ _ _ _ _ e2 Ï fun ó ļ xU ú æ Ű=>?_);have hit:=F0 (prog:=prog) (w:=w) (A:=A) (E:=E) (Q:=Q) hh (æ.view (ô.mono ú) h3) Ű h4 fun t z hz=>hq _ _ _ (Ñ.trans ú) (æ.toks t) hz.iP
 obtain⟨⟨T,id,hT,hl⟩,hw⟩:=hit;exact tail_any hT hl hw (ye hs)
end
section
variable{S Å:St}{H H₁ Ö:List Cell}{ρ κ:List (Option V)}{d m:Nat}{v v' x y k:V}{a b:PE}
theorem mS{E:Value→Shared→Prop}{l:Addr}{items:Array Value}{n:Nat}{k:Int}{t:Tok}{v:Value}{Q:Unit→Shared→Prop}(hl:IsL s.heap l items n)(h0:0≤k)(NZ:k<2^63)(hn:k<items.size)
  (hQ:Q () {s with heap:=s.heap.update l (Obj.mapSeq (·.setIfInBounds k.toNat v))}):wpAny (model prog w) A (setItem (.ref l) (.int k t) v) Q E s:=by
 have hT:=hl.isList.typeIs;unfold setItem;refine wpAny_holding ?_;refine wpAny_bind (wpAny_sequenceKey hT (by decide) ?_);refine wpAny_bind (wpAny_callSpecial?_slot (name:=Str.ofString "__setitem__") hT slot_list_setitem
  (wpAny_call_entry slot_list_setitem hT entry_list_setitem ?_ (args_list_setitem _ _ _)))
 show wpAny _ _ (Builtin.List.listSubscript? (.int k t)>>=_) _ _ s;have hf:Builtin.List.listFitsIndex k=true:=by simp only[Builtin.List.listFitsIndex,au,decide_eq_true_eq];exact⟨oQ (show(-2^63:Int)≤0 by decide) h0,NZ⟩
 refine wpAny_bind (wpAny_listSubscript_int hf ?_);clear NZ hf;obtain⟨j,rfl⟩:=Int.eq_ofNat_of_zero_le h0;have hj:j<items.size:=bx.mp hn;show wpAny _ _ ((seqItemAt l j>>=fun r=>pure (r.map (j, ·)))>>=_) _ _ s;refine wpAny_bind (wpAny_bind (wpAny_seqItemAt hl rfl (wpAny_pure ?_)));rw[Array.getElem?_eq_getElem hj];show wpAny _ _ (setSeqItemAt l j v>>=_) _ _ s;exact wpAny_bind (wpAny_setSeqItemAt hl rfl (wpAny_pure ⟨.none,rfl,wpAny_pure hQ⟩))
theorem Ý.put{Y:Sta}{k:FH}{v:V}{z:Value}(hz:Rep Y k v z){l:List V}{vs:List Value}{j:Nat}(h:Ý Y k l vs):Ý Y k (Internal.put l j v) (vs.set j z):=by
 induction l generalizing vs j with
 |nil=>exact h▸rfl
 |cons p l ih=>
  obtain⟨x,r,rfl,h1,h2⟩:=h
  induction j using mK with
  |zero=>exact⟨z,r,rfl,hz,h2⟩
  |succ j=>exact⟨x,_,rfl,h1,ih h2⟩
theorem assign_Subscript(o i:Expr)(p:Pos)(env:Env)(v:Value)(hs:dW i=false):assign (.Subscript o i p) env v=(do
  let ov ←holding [v] (eval o env);let iv ←holding [v,ov] (eval i env)
  standAt p
  holding [v,ov,iv] (setItem ov iv v)
  release [v,ov,iv] []):=by induction i using PySem.Expr.casesOn<;>first|rfl|exact Ĕ hs
theorem cJ.cell{h':Heap}{t:Nat}{a:Addr}{n:Nat}(hr:g.r a=.cell n)(hk:∀b o,b≠a→s.heap.get? b=some o→h'.get? b=some o):cJ g s {s with heap:=h',toks:=t}:=fun b o r e=>by
 refine⟨o.slots,hk b o (fun q=>?_) e⟩;subst q;rw[hr]at r;rcases r with r|⟨_,r⟩<;>exact neT Role.ctorIdx r rfl
theorem Ok.cZ(C:Ok Z d cx A env g s ⟨H,ρ,κ⟩){n:Nat}{a:Addr}{c c':Cell}{o':Obj}{h':Heap}(t:Nat)(hc:ç H n=some c)(ha:ç g.as n=some a)(hr:g.r a=.cell n)(hk:∀b o,b≠a→s.heap.get? b=some o→h'.get? b=some o)(ho:h'.get? a=some o')(hl:dC Z g h' n a c'):
  Ok Z d cx A env g {s with heap:=h',toks:=t} ⟨put H n c',ρ,κ⟩:=by
 refine C.fJ (.refl g) (cJ.cell hr hk) (C.base.cZ t (fun b=>b=a) hc ha (fun b e=>.inl (e▸hr)) hk (fun b e=>⟨_,e▸ho⟩) hl)
theorem Fh{i:Expr}(h:er cx i=b)(hb:b≠.no):dW i=false:=by
 induction e:dW i using ñ with
 |false=>rfl
 |true=>induction i using PySem.Expr.casesOn<;>first|exact absurd h.symm hb|(exact à e;done)
theorem CN(hb:b≠.no)(h1:ű prog w Z d a S Å (.Ó m))(h2:ű prog w Z d b Å ⟨H,ρ,κ⟩ x)(h3:Ô H v=some (H₁,v')){X:Expr}{y:Value}{Q:Unit→Shared→Prop}{E:Value→Shared→Prop}(hx:fi cx X=.s a b)(C:Ok Z d cx A env g s S)(hv:Ć Z g v y)
  (hq:∀g' s' q z,Gst g g'→Ok Z d cx A env g' s' ⟨H₁,ρ,κ⟩→ç g'.as m=some q→Ć Z g' x z→Rep Z.toSta g'.k v' y→õ prog w A (setItem (.ref q) z y) Q E s'):õ prog w A (assign X env y) Q E s:=by
 obtain⟨o,i,p,rfl,e1,e2⟩:=tv hx;rw[assign_Subscript _ _ _ _ _ (Fh e2 hb)];refine wpAny_bind (wpAny_holding (h1 _ _ _ _ _ _ _ _ e1 C fun Û ò Ŷ Ñ Ï ô=>?_));refine wpAny_bind (wpAny_holding (h2 _ _ _ _ _ _ _ _ e2 Ï fun ó ļ xU ú æ Ű=>?_));refine æ.base.bF h3 ((hv.mono Ñ).mono ú) fun İ Ĩ Ş fZ=>?_;have Ĺ:=æ.next Ĩ (Keeps.refl _) Ş;obtain⟨a,ha,rfl⟩:=(ô.mono ú).mono Ĩ.toGst;refine wpAny_bind (wpAny_standAt (wpAny_bind (wpAny_holding ?_)));exact wpAny_mono (hq İ ļ a xU (Ñ.trans (ú.trans Ĩ.toGst)) Ĺ ha (Ű.mono Ĩ.toGst) fZ) (fun À À h=>dD h) fun À À h=>h
theorem ET{l l':List V}{q:Int}(hb:b≠.no)(h1:ű prog w Z d a S Å (.Ó m))(h2:ű prog w Z d b Å ⟨H,ρ,κ⟩ (.int q))(h3:Ô H v=some (H₁,v'))(h4:ç H₁ m=some (.lst l))(h5:(gh 0 q&&ĩ q l.length&&ĩ q 1000000)=true)(h6:put l q.toNat v'=l')(h7:put H₁ m (.lst l')=Ö):
  vP prog w Z d (.s a b) v S ⟨Ö,ρ,κ⟩:=by
 intro cx X env A g s y Q E hx C hv hq;refine CN hb h1 h2 h3 hx C hv fun İ iV c z Ń Ĺ ha bI fZ=>?_
 (have Qc:=aD h5;have b3:=aC h5)
 have b1:=gT (oa Qc).1;have b2:=bE (oa Qc).2;have b3:=bE b3;obtain⟨u,rfl⟩:=bI;obtain⟨a',N6,r1,ob,vs,k1,⟨n,rfl⟩,k3⟩:=Ĺ.base.cells _ _ h4;obtain rfl:c=a':=ë (ha.symm.trans N6);refine mS k1 b1 (by exact wW ‹_› (by decide)) (by rw[ź,k3.len];exact b2) (hq İ _ Ń ?_);have hu:=IsL.update k1 (·.setIfInBounds q.toNat y);rw[List.setIfInBounds_toArray]at hu;exact h7▸h6▸Ĺ.cZ iV.toks h4 ha r1 (fun b o n e=>by rw[Heap.get?_update_other _ _ (Ne.symm n)];exact e) hu ⟨r1,_,_,hu,⟨_,rfl⟩,k3.put fZ⟩
theorem EU{l:List (List Nat×V)}{q:List Nat}(hh:Z.hash=hashStr w)(hb:b≠.no)(h1:ű prog w Z d a S Å (.Ó m))(h2:ű prog w Z d b Å ⟨H,ρ,κ⟩ (.str q))(h3:Ô H v=some (H₁,v'))(h4:ç H₁ m=some (.aY l))(h5:small l=true)(h7:put H₁ m (.aY (dput q v' l))=Ö):
  vP prog w Z d (.s a b) v S ⟨Ö,ρ,κ⟩:=by
 intro cx X env A g s y Q E hx C hv hq;refine CN hb h1 h2 h3 hx C hv fun İ iV c z Ń Ĺ ha bI fZ=>?_;obtain⟨u,rfl⟩:=bI;obtain⟨a',N6,r1,ob,es,k1,k2,nd,k3⟩:=Ĺ.base.cells _ _ h4;obtain rfl:c=a':=ë (ha.symm.trans N6);obtain⟨fP,kv,K6⟩:=eL (prog:=prog) hh k1 k2 nd k3;have hl:=(ĕ _).symm.trans ((congrArg oN kv.keys).trans (ĕ _));refine wpAny_setItem_pairs (knd:=strKind prog w) (nH ..) K6 (fun h' Ug sb=>?_) (by rw[hl];exact aW (oJ (Ĥ h5) (by decide)));obtain⟨o',mi,q1,q2,q3⟩:=k_ hh Ug (kv.stored fZ nd);exact hq İ _ Ń (h7▸Ĺ.cZ _ h4 ha r1 (fun b o n e=>(sb.2 b n).trans e) q1 ⟨r1,o',mi,q1,q2,Gy nd,q3⟩)
theorem eR{t e:Expr}{p:Pos}{Q:Flow→Shared→Prop}{E:Value→Shared→Prop}(hs:swapsWith e (some t) p.line env=pure false)(hw:swappedStores [t] e env=pure none)(cM:isStar t=false)
  (h:õ prog w A (eval e env) (fun v Ĉ=>õ prog w A (assign t env v) (fun À=>Q .next) E Ĉ) E s):õ prog w A (exec (.Assign [t] e p) env) Q E s:=by
 rw[PyProof.Rows.exec_Assign];refine wpAny_bind (wpAny_standAt ?_);have D5:swapsWithSole [t] e p.line env=pure false:=hs;rw[D5];refine wpAny_bind (wpAny_pure ?_);rw[if_neg (by decide)];refine wpAny_bind (wpAny_mono h (fun v Ĉ bA=>?_) fun À À x=>x);rw[hw];refine wpAny_bind (wpAny_pure ?_);have e1:(assignEach [t] env).map (·.2)=[assign t env]:=by induction t using PySem.Expr.casesOn<;>first|rfl|exact Ĕ cM
 rw[e1];show wpAny (model prog w) A (do assignAll v [assign t env];pure .next) Q E Ĉ;exact wpAny_bind (wpAny_mono bA (fun À À x=>wpAny_pure x) fun À À x=>x)
theorem eg{t e:Expr}(h:isTup t=false∨isTup e=false):swappedStores [t] e env=pure none:=by
 rcases h with h|h
 ·induction t using PySem.Expr.casesOn<;>first|rfl|exact Ĕ h
 ·induction t using PySem.Expr.casesOn<;>first|rfl|(induction e using PySem.Expr.casesOn<;>first|rfl|exact Ĕ h)
end
section
variable{g Ħ g':Gh}{st S S' Å Í:St}{H H':List Cell}{wr fp:List Addr}{I:Addr}{mI:Expr}{h':Heap}{t:Tg}{v:V}{l:List V}{B:List PS}{o:Out}
structure t_(wr:List Addr)(g g':Gh):Prop where
 k:aQ g.k g'.k
 held:∀a∈wr,∀o,g.r a=.held o→g'.r a=.held o
theorem Gst.yQ(G:Gst g g'):t_ wr g g':=⟨G.k,fun a À=>G.held a⟩
theorem t_.refl(wr:List Addr)(g:Gh):t_ wr g g:=⟨.refl _,fun À À À e=>e⟩
theorem t_.trans{a b c:Gh}(x:t_ wr a b)(y:t_ wr b c):t_ wr a c:=⟨x.k.trans y.k,fun p m o e=>y.held p m o (x.held p m o e)⟩
noncomputable def aX:Option Obj→Role
 |some o=>.held o
 |none=>.free
def Gh.hold(g:Gh)(wr:List Addr)(h:Heap):Gh:={g with r:=fun b=>if b∈wr then aX (h.get? b)else g.r b}
theorem ž{h:Heap}{b:Addr}(n:b∉wr):(g.hold wr h).r b=g.r b:=if_neg n
theorem de{h:Heap}{b:Addr}(n:b∈wr):(g.hold wr h).r b=aX (h.get? b):=if_pos n
noncomputable def vm:Role→Bool
 |.free=>true
 |.held _=>true
 |_=>false
def g6(g:Gh)(wr:List Addr):Prop:=∀b∈wr,vm (g.r b)=true
theorem g6.not(O:g6 g wr){b:Addr}{x:Role}(e:g.r b=x)(h:vm x=false):b∉wr:=fun m=>by
 have:=O b m;rw[e,h]at this;exact à this
theorem bj(O:g6 g wr){h:Heap}{b:Addr}{x:Role}(e:g.r b=x)(n:vm x=false):(g.hold wr h).r b=x:=(ž (O.not e n)).trans e
theorem fT{h:Heap}(O:g6 g wr):aQ g.k (g.hold wr h).k:=fun a o e=>Gh.Ś (bj O (Gh.aO e) rfl)
structure Nil(g:Gh)(b:Addr):Prop where
 Ô:∀o,g.r b≠.Ô o
 kept:∀o,g.r b≠.kept o
 held:∀o,g.r b≠.held o
 loc:g.r b≠.loc
theorem Nil.free{b:Addr}(h:g.r b=.free):Nil g b:=⟨by rw[h];simp,by rw[h];simp,by rw[h];simp,by rw[h];simp⟩
theorem Nil.back{b:Addr}(h:Nil g' b)(G:Gst g g'):Nil g b:=
 ⟨fun o e=>h.Ô o (Gh.aO (G.k b o (Gh.Ś e))),fun o e=>h.kept o (G.kept b o e),fun o e=>h.held o (G.held b o e),fun e=>h.loc (G.loc b e)⟩
theorem aL{h:Heap}(G:Gst Ħ g)(O:g6 g wr)(F:∀b∈wr,Nil Ħ b):Gst Ħ (g.hold wr h):=by
 refine⟨fun a o e=>fT O a o (G.k a o e),fun a o e=>?_,fun a o e=>?_,G.as,G.L,G.cs,fun a e=>?_⟩
 ·exact bj O (G.kept a o e) rfl
 ·exact(ž fun m=>(F a m).held o e).trans (G.held a o e)
 ·exact bj O (G.loc a e) rfl
def Off(wr:List Addr)(s:Shared)(h':Heap):Prop:=∀b o,b∉wr→s.heap.get? b=some o→h'.get? b=some o
theorem gf{r:Role}(h:vm r=true):((∀o,r≠.Ô o)∧r≠.tab)∧∀i,r≠.cell i∧r≠.cV i:=by
 induction r using Role.casesOn with
 |free=>simp
 |held o=>simp
 |_=>exact à h
theorem sW{h:Heap}{a:Addr}:A4 (∀o,aX (h.get? a)=.Ô o→h.get? a=some o) (∀o,aX (h.get? a)=.kept o→∃sl,h.get? a=some {o with slots:=sl}) (∀o,aX (h.get? a)=.held o→h.get? a=some o) (aX (h.get? a)≠.free→∃o,h.get? a=some o):=by
 induction h.get? a using š with
 |none=>exact⟨fun À q=>neT Role.ctorIdx q rfl,fun À q=>neT Role.ctorIdx q rfl,fun À q=>neT Role.ctorIdx q rfl,fun q=>absurd rfl q⟩
 |some o=>exact⟨fun À q=>neT Role.ctorIdx q rfl,fun À q=>neT Role.ctorIdx q rfl,fun À q=>by injection q with q;exact congrArg some q,fun À=>⟨o,rfl⟩⟩
theorem Base.hold(B:Base Z g s H)(O:g6 g wr)(kp:Off wr s h')(t:Nat):Base Z (g.hold wr h') {s with heap:=h',toks:=t} H:=
 B.gen (fun b=>b∈wr) (fun a m=>(gf (O a m)).1) kp (fun b n=>ž n) (fun a m=>de (g:=g) m▸sW) B.len (fun À À e=>e) fun i c e=>.inl ⟨e,fun b m=>(gf (O b m)).2 i⟩
theorem Inv.hold(V:Inv Z cx g s st)(O:g6 g wr)(kp:Off wr s h')(t:Nat):Inv Z cx (g.hold wr h') {s with heap:=h',toks:=t} st:=by
 have hk:=fT (h:=h') O;refine⟨V.base.hold O kp t,bj O V.gK.loc rfl,?_,fun i ov q=>?_⟩
 ·obtain⟨m,⟨o,es,ep,ho,r⟩,hm⟩:=V.gK.locs;refine⟨m,⟨o,es,ep,kp _ _ (O.not V.gK.loc rfl) ho,r⟩,fun x i v h1 h2=>?_⟩;obtain⟨y,q1,q2⟩:=hm x i v h1 h2;exact⟨y,q1,q2.r6 hk rfl⟩
 ·obtain⟨c,y,q1,q2,⟨o,ho,hd⟩,q4⟩:=V.gK.vars i ov q;refine⟨c,y,q1,bj O q2 rfl,⟨o,kp _ _ (O.not q2 rfl) ho,hd⟩,fun v hv=>?_⟩;obtain⟨x,y1,y2⟩:=q4 v hv;exact⟨x,y1,y2.r6 hk rfl⟩
theorem ŕ.hold(R:ŕ d A g)(O:g6 g wr):ŕ d A (g.hold wr h'):=by
 refine⟨R.hd,R.depth,R.units,?_⟩;obtain⟨l,a,b⟩:=R.frames;refine⟨l,a,fun e he=>?_⟩;obtain⟨k,L,h1,h2⟩:=b e he;exact⟨k,L,h1,h2.imp (fun q=>⟨bj O q.1 rfl,q.2⟩) fun ⟨o,es,n,q1,q2⟩=>⟨o,es,n,bj O q1 rfl,q2⟩⟩
theorem Ok.hold(C:Ok Z d cx A env g s st)(O:g6 g wr)(kp:Off wr s h')(t:Nat):Ok Z d cx A env (g.hold wr h') {s with heap:=h',toks:=t} st:=
 ⟨C.r.hold O,⟨C.e.kind,C.e.L,C.e.xk,C.e.H6,C.e.kinds,C.e.Ó,C.e.ŷ,C.e.zB,C.e.code⟩,C.i.hold O kp t,C.f⟩
inductive Pq(Y:Sta)(k:FH)(h:Heap)(x:V)(z:Value):Prop
 |mk (T:Addr) (xs:List Value) (vs:List V) (e:z=.ref T) (e':x=.tup vs) (i:h.IsTuple T xs.toArray) (r:Ý Y k vs xs)
def eQ(Y:Sta)(mI:Expr)(k:FH)(h:Heap)(x:V)(z:Value):Prop:=Rep Y k x z∨(isTup mI=true∧Pq Y k h x z)
theorem eQ.mono{Y:Sta}{k k':FH}{h:Heap}{x:V}{z:Value}(q:eQ Y mI k h x z)(e:aQ k k'):eQ Y mI k' h x z:=
 q.imp (Rep.mono e) fun ⟨a,⟨T,xs,vs,e1,e2,i,r⟩⟩=>⟨a,T,xs,vs,e1,e2,i,Ý.mono e r⟩
def iK(g:Gh)(wr:List Addr):Prop:=∀b∈wr,∃o,g.r b=.held o
theorem iK.gw(h:iK g wr):g6 g wr:=fun b m=>let ⟨o,q⟩:=h b m;q▸rfl
theorem iK.mono(h:iK g wr)(G:t_ wr g g'):iK g' wr:=fun b m=>let ⟨o,q⟩:=h b m;⟨o,G.held b m o q⟩
abbrev AX(prog:Program)(w:World)(A:Around)(mI:Expr)(I:Addr)(Q:Value→Shared→Prop)(E:Value→Shared→Prop)(s:Shared):Prop:=
 õ prog w A (pyNext (.ref I)) (fun r Ĉ=>match r with|none=>False|some z=>∀mD,õ prog w A (letOwnedTupleGo mI (.ref I) z) (fun À ĝ=>Q z ĝ) mD Ĉ) E s
noncomputable def Nx(prog:Program)(w:World)(Z:ę)(A:Around)(mI:Expr)(wr:List Addr)(I:Addr):List V→Gh→Prop
 |[],g=>∀g' s' H',t_ wr g g'→Base Z g' s' H'→∀(Q:Option Value→Shared→Prop) E,(∀h' t,Off wr s' h'→Q none {s' with heap:=h',toks:=t})→õ prog w A (pyNext (.ref I)) Q E s'
 |x::l,g=>∀g' s' H',t_ wr g g'→Base Z g' s' H'→(isTup mI=true→∃vs,x=V.tup vs)→∀(Q:Value→Shared→Prop) E,
   (∀h' t z,Off wr s' h'→iK (g'.hold wr h') wr→eQ Z.toSta mI (g'.hold wr h').k h' x z→Nx prog w Z A mI wr I l (g'.hold wr h')→Q z {s' with heap:=h',toks:=t})→AX prog w A mI I Q E s'
theorem Nx.mono(h:Nx prog w Z A mI wr I l g)(G:t_ wr g g'):Nx prog w Z A mI wr I l g':=by
 induction l using Ŭ with
 |nil=>exact fun ó ĝ Ö ú aB=>h ó ĝ Ö (G.trans ú) aB
 |cons x l=>exact fun ó ĝ Ö ú aB=>h ó ĝ Ö (G.trans ú) aB
theorem uN{t:Expr}{it v:Value}(h:isTup t=false):letOwnedTupleGo t it v=pure ():=by
 induction t using PySem.Expr.casesOn<;>first|rfl|exact Ĕ h
structure Wk(prog:Program)(w:World)(A:Around)(mI:Expr)(I:Addr)(fp wr:List Addr)(n:Nat)(It:Nat→Value→Heap→Prop)(Sv:Nat→Heap→Prop):Prop where
 frame:∀i h h',Sv i h→(∀b∈fp,∀o,h.get? b=some o→h'.get? b=some o)→Sv i h'
 item:∀i (s:Shared) (Q:Value→Shared→Prop) (E:Value→Shared→Prop),i<n→Sv i s.heap→(∀v h' t,It i v h'→Sv (i+1) h'→Off wr s h'→Q v {s with heap:=h',toks:=t})→AX prog w A mI I Q E s
 done:∀(s:Shared) (Q:Option Value→Shared→Prop) (E:Value→Shared→Prop),Sv n s.heap→(∀h' t,Off wr s h'→Q none {s with heap:=h',toks:=t})→õ prog w A (pyNext (.ref I)) Q E s
 al:∀i h,Sv i h→∀b∈wr,∃o,h.get? b=some o
theorem Wk.of{n:Nat}{Pv:Nat→Value→Prop}{Sv:Nat→Heap→Prop}(W:Walks prog w A I fp wr n Pv Sv)(al:∀i h,Sv i h→∀b∈wr,∃o,h.get? b=some o)
  (ow:∀(i:Nat) (s:Shared) (v:Value) (Q:Unit→Shared→Prop) (E:Value→Shared→Prop),Sv i s.heap→Q () s→wpAny (model prog w) A (letOwnedTupleGo mI (.ref I) v) Q E s):Wk prog w A mI I fp wr n (fun i v À=>Pv i v) Sv:=
 ⟨W.frame,fun i s Q E hi st hQ=>W.item i s _ E hi st fun v h' tk p ĉ kp mD=>ow (i+1) _ v _ mD ĉ (hQ v h' tk p ĉ kp),W.done,al⟩
theorem Wk.ofT{n:Nat}{elts:List Expr}{k:Nat}{p:Pos}{Pt:Nat→Array Value→Prop}{Sv:Nat→Heap→Prop}{Mid:Nat→Addr→Heap→Prop}(W:WalksT prog w A I fp wr n Pt Sv Mid)(al:∀i h,Sv i h→∀b∈wr,∃o,h.get? b=some o):
  Wk prog w A (.Tuple elts k p) I fp wr n (fun i v h=>T2 fun T vals=>A3 (v=.ref T) (Pt i vals) (h.IsTuple T vals)) Sv:=by
 refine⟨W.frame,fun i s Q E hi st hQ=>W.item i s _ E hi st fun T vals bA tk pt oZ vn mid Nn mD=>?_,W.done,al⟩;refine W.go elts k p i T {s with heap:=bA,toks:=tk} _ mD mid fun h' ĉ Hy=>?_;obtain⟨oT,e1,e2⟩:=vn;exact hQ (.ref T) h' tk ⟨T,vals,rfl,pt,oT,Hy T oT (W.apart i T bA mid) e1,e2⟩ ĉ fun b o nb e=>Hy b o nb (Nn b o nb e)
structure Fp(g:Gh)(h:Heap)(fp wr:List Addr):Prop where
 f:∀b∈fp,∀o,h.get? b=some o→g.r b=.Ô o∨(b∈wr∧g.r b=.held o)
 w:iK g wr
 z:∀b∈fp,b∉wr→∃o,g.r b=.Ô o
theorem Fp.Ja{h:Heap}(F:Fp g h fp wr)(G:t_ wr g g')(B:Base Z g' s' H'):∀b∈fp,∀o,h.get? b=some o→s'.heap.get? b=some o:=fun b m o e=>by
 rcases F.f b m o e with q|⟨mw,q⟩
 ·exact B.Ô b o (Gh.aO (G.k b o (Gh.Ś q)))
 ·exact B.held b o (G.held b mw o q)
theorem Fp.step{h:Heap}(F:Fp g h fp wr)(G:t_ wr g g')(B:Base Z g' s' H')(kp:Off wr s' h')(al:∀b∈wr,∃o,h'.get? b=some o):Fp (g'.hold wr h') h' fp wr:=by
 have zz:∀b∈fp,b∉wr→∃o,g'.r b=.Ô o:=fun b m n=>let ⟨o,q⟩:=F.z b m n;⟨o,Gh.aO (G.k b o (Gh.Ś q))⟩
 refine⟨fun b m o e=>?_,fun b m=>?_,fun b m n=>let ⟨o,q⟩:=zz b m n;⟨o,(ž n).trans q⟩⟩
 ·by_cases q:b∈wr
  ·exact .inr ⟨q,(de q).trans (congrArg aX e)⟩
  ·obtain⟨o',q'⟩:=zz b m q;have e':=kp b o' q (B.Ô b o' q');rw[e]at e';exact .inl ((ž q).trans (ë e'▸q'))
 ·obtain⟨o,q⟩:=al b m;exact⟨o,(de m).trans (congrArg aX q)⟩
theorem Nx.walks{n:Nat}{It:Nat→Value→Heap→Prop}{Sv:Nat→Heap→Prop}(W:Wk prog w A mI I fp wr n It Sv){l:List V}:
  ∀{i:Nat} {g:Gh} {h:Heap},n=i+l.length→Sv i h→(∀j v h' x,It (i+j) v h'→l[j]? =some x→eQ Z.toSta mI g.k h' x v)→Fp g h fp wr→Nx prog w Z A mI wr I l g:=by
 induction l with
 |nil=>
  intro i g h hn hs hp F g' s' H' G B Q E hq;obtain rfl:n=i:=hn;exact W.done s' Q E (W.frame n _ _ hs (F.Ja G B)) hq
 |cons x l ih=>
  intro i g h hn hs hp F g' s' H' G B ht Q E hq;rw[ă]at hn;refine W.item i s' Q E (by exact â [_,_,_] (.c (.a Â (.a á Á)) È .z) (.a Â Á) È rfl (ņ hn.symm)) (W.frame i _ _ hs (F.Ja G B)) fun v h' tk p ĉ kp=>?_;have F':=F.step G B kp (W.al _ _ ĉ);have hk:aQ g.k (g'.hold wr h').k:=fun a o q=>fT (F.w.mono G).gw a o (G.k a o q)
  refine hq h' tk v kp F'.w ((hp 0 v h' x p rfl).mono hk) (ih (i:=i+1) (by exact ŵ (â [_,_,_] (.c Â (.a È (.a á Á)) .z) Â (.a (.a È Á) á) rfl (ņ hn)) (â [_,_,_] (.c (.a Â (.a È Á)) á .z) (.a (.a Â Á) È) á rfl (ņ hn.symm))) ĉ (fun j u HQ y p q=>(hp (j+1) u HQ y ?_ q).mono hk) F');have e:i+1+j=i+(j+1):=by exact wV _ _
  exact e▸p
abbrev qE(prog:Program)(w:World)(A:Around)(t:Expr)(I:Addr)(b:List Stmt)(env:Env)(RR:Result→Shared→Prop):Flow→Shared→Prop:=fun f fy=>match f with
 |.next|.cont=>codeAny (model prog w) A (.forLoop t (.ref I) b [] env) RR fy
 |.brk=>RR (.ok .next) fy
 |.ret v=>RR (.ok (.ret v)) fy
theorem s9{t:Expr}{I:Addr}{b:List Stmt}{RR:Result→Shared→Prop}
  (h:∀E,õ prog w A (pyNext (.ref I)) (fun r Ĉ=>match r with
   |none=>RR (.ok .next) Ĉ
   |some v=>∀E,õ prog w A (letOwnedTupleGo t (.ref I) v) (fun À ĝ=>∀E,õ prog w A (assign t env v) (fun À aN=>∀E,õ prog w A (execs b env) (qE prog w A t I b env RR) E aN) E ĝ) E Ĉ) E s):codeAny (model prog w) A (.forLoop t (.ref I) b [] env) RR s:=by
 refine codeAny_of_tree ?_;show wpAny _ A ((forTurn t (.ref I) b [] env).onRaise (fun x=>do noteFrame x env;theTreesLotGoes x)) _ _ s;refine wpAny_noted ?_;simp only[forTurn];refine wpAny_bind (wpAny_standAt (wpAny_bind (wpAny_onRaise (wpAny_mono (h _) (fun r Ĉ bA=>?_) fun À À h'=>wpAny_standAt h'))))
 induction r using š with
 |none=>exact wpAny_pure ⟨rfl,codeAny_block (wpAny_execs_nil bA)⟩
 |some v=>
  refine wpAny_bind (wpAny_mono (bA _) (fun À ĝ cR=>wpAny_bind (wpAny_mono (cR _) (fun À aN Ň=>wpAny_bind (wpAny_mono (Ň _) (fun f fy l6=>?_) fun À À h'=>h')) fun À À h'=>h')) fun À À h'=>h')
  induction f using PySem.Flow.casesOn with
  |next=>exact wpAny_pure ⟨rfl,l6⟩
  |cont=>exact wpAny_pure ⟨rfl,l6⟩
  |brk=>exact wpAny_pure l6
  |ret v=>exact wpAny_pure l6
structure uh(prog:Program)(w:World)(Z:ę)(d:Nat)(t:Tg)(v:V)(S Å:St):Prop where
 s:vP prog w Z d t v S Å
 tp:∀l,t=.t l→∃vs,view S.H v=some (.tup vs)∧č S l vs=some Å
 n:t≠.no
theorem jM{x:Expr}(ht:isTup x=true):(T3 fun ts k p=>x=.Tuple ts k p)∨T2 fun ts p=>x=.List ts p:=by
 induction x using PySem.Expr.casesOn with
 |Tuple ts k p=>exact .inl ⟨ts,k,p,rfl⟩
 |List ts p=>exact .inr ⟨ts,p,rfl⟩
 |_=>exact à ht
theorem uh.shape(h:uh prog w Z d t v S Å){x:Expr}(hx:fi cx x=t)(ht:isTup x=true):T4 fun ts k p l=>A3 (x=.Tuple ts k p) (Ţ cx ts=some l) (t=.t l):=by
 rcases jM ht with⟨ts,k,p,e⟩|⟨ts,p,e⟩<;>rw[e]at hx
 ·have e':(match Ţ cx ts with|some l=>Tg.t l|none=>.no)=t:=hx
  induction hl:Ţ cx ts using š with
  |none=>rw[hl]at e';exact absurd e'.symm h.n
  |some l=>rw[hl]at e';exact⟨ts,k,p,l,e,hl,e'.symm⟩
 ·exact absurd hx.symm h.n
theorem uh.tup(h:uh prog w Z d t v S Å){x:Expr}(hx:fi cx x=t)(hv:Ð v=true)(ht:isTup x=true):∃vs,v=.tup vs:=by
 obtain⟨ts,k,p,l,_,hl,e⟩:=h.shape hx ht;obtain⟨vs,h1,_⟩:=h.tp l e
 induction v using V.casesOn with
 |Ó i=>exact à hv
 |_=>exact⟨vs,ë h1⟩
theorem tL(h:uh prog w Z d t v S Å){x:Expr}(hx:fi cx x=t){z:Value}{Q:Unit→Shared→Prop}{E:Value→Shared→Prop}(C:Ok Z d cx A env g s S)(hz:eQ Z.toSta x g.k s.heap v z)(hq:mF Z d cx A env g Å (Q ())):õ prog w A (assign x env z) Q E s:=by
 rcases hz with hz|⟨ht,T,xs,vs,rfl,rfl,vn,NH⟩
 ·exact h.s _ _ _ _ _ _ _ _ _ hx C hz.iP hq
 ·obtain⟨ts,k,p,l,rfl,hl,e⟩:=h.shape hx ht;obtain⟨vs',h1,h2⟩:=h.tp l e;obtain rfl:=ë (congrArg (fun o=>o.bind qT) h1);exact gW hl h2 C vn NH.vY hq
def zk(prog:Program)(w:World)(Z:ę)(d:Nat)(t:Tg)(l:List V)(b:List PS)(st ĉ:St)(o:Out):Prop:=o≠.exc∧∀cx x ys env A Ħ g s I wr,fi cx x=t→bG cx ys=b→Ok Z d cx A env g s st→Gst Ħ g→
 iK g wr→Nx prog w Z A x wr I l g→(∀b∈wr,Nil Ħ b)→LoopAt prog w Z d cx A env Ħ s (.forLoop x (.ref I) ys [] env) ĉ o
theorem MJ:zk prog w Z d t [] B S S .next:=
 ⟨(fun q=>neT Out.ctorIdx q rfl),fun cx x ys env A Ħ g s I wr hx hy C G T N F RR hq=>s9 fun E=>N g s _ (.refl _ g) C.base _ E fun h' tk kp=>hq _ _ _ (aL G T.gw F) (C.hold T.gw kp tk) rfl⟩
theorem s_(h0:Ð v=true)(h1:uh prog w Z d t v S Å){x:Expr}{ys:List Stmt}(hx:fi cx x=t)(C:Ok Z d cx A env g s S)(G:Gst Ħ g)(T:iK g wr)(N:Nx prog w Z A x wr I (v::l) g)(F:∀b∈wr,Nil Ħ b){RR:Result→Shared→Prop}
  (hq:∀ó ĝ,Gst Ħ ó→Ok Z d cx A env ó ĝ Å→iK ó wr→Nx prog w Z A x wr I l ó→∀E,õ prog w A (execs ys env) (qE prog w A x I ys env RR) E ĝ):codeAny (model prog w) A (.forLoop x (.ref I) ys [] env) RR s:=by
 refine s9 fun E=>wpAny_mono (N g s _ (.refl _ g) C.base (h1.tup hx h0) (fun z ĝ=>∀E,õ prog w A (assign x env z) (fun À aN=>∀E,õ prog w A (execs ys env) (qE prog w A x I ys env RR) E aN) E ĝ) E fun h' tk z kp hh ir N' E=>?_) (fun r Ĉ sT=>?_) fun À À e=>e
 ·exact tL h1 hx (C.hold T.gw kp tk) ir fun Û ĝ Ñ Ï=>hq Û ĝ ((aL (h:=h') G T.gw F).trans Ñ) Ï (hh.mono Ñ.yQ) (N'.mono Ñ.yQ)
 ·induction r using š with
  |none=>exact sT.elim
  |some z=>exact sT
theorem MK(h0:Ð v=true)(h1:uh prog w Z d t v S Å)(h2:fm prog w Z d B Å Í .next)(h3:zk prog w Z d t l B Í S' o):zk prog w Z d t (v::l) B S S' o:=by
 refine⟨h3.1,fun cx x ys env A Ħ g s I wr hx hy C G T N F RR hq=>s_ h0 h1 hx C G T N F fun ó ĝ ú æ O_ Ph E=>?_⟩;refine h2 _ _ _ _ _ _ _ _ hy æ ⟨fun İ iV f Ń Ĺ DL=>?_,(fun q=>neT Out.ctorIdx q rfl)⟩;obtain rfl:f=.next:=DL;exact h3.2 _ _ _ _ _ _ _ _ _ _ hx hy Ĺ (ú.trans Ń) (O_.mono Ń.yQ) (Ph.mono Ń.yQ) F RR hq
theorem MI{y:V}(h0:Ð v=true)(h1:uh prog w Z d t v S Å)(h2:fm prog w Z d B Å Í (.ret y)):zk prog w Z d t (v::l) B S Í (.ret y):=by
 refine⟨(fun q=>neT Out.ctorIdx q rfl),fun cx x ys env A Ħ g s I wr hx hy C G T N F RR hq=>s_ h0 h1 hx C G T N F fun ó ĝ ú æ O_ Ph E=>?_⟩;refine h2 _ _ _ _ _ _ _ _ hy æ ⟨fun İ iV f Ń Ĺ DL=>?_,(fun q=>neT Out.ctorIdx q rfl)⟩;obtain⟨u,rfl,hu⟩:=DL;exact hq _ _ _ (ú.trans Ń) Ĺ ⟨u,rfl,hu⟩
end
section
variable{g Ħ g':Gh}{st S Å:St}{H H₁:List Cell}{ρ κ:List (Option V)}{wr fp:List Addr}{I:Addr}{t:Expr}{h':Heap}{v v':V}{l:List V}{Q:Value→Shared→Prop}{E:Value→Shared→Prop}{e it:PE}{B:List PS}{o:Out}{x:Value}{tg:Tg}
noncomputable def AM:List String:=["enumerate","zip","dict_itemiterator","dict_reverseitemiterator","odict_iterator","itertools.zip_longest","itertools.pairwise"]
theorem AL{v:Value}{o:Obj}{C:String}{Q:Unit→Shared→Prop}(ho:s.heap.get? I=some o)(hc:o.cls=.type C)(hn:AM.contains C=false)(h:Q () s):wpAny (model prog w) A (letOwnedTupleGo t (.ref I) v) Q E s:=by
 unfold AM at hn
 induction ht:isTup t using ñ with
 |false=>rw[uN ht];exact wpAny_pure h
 |true=>
  rcases jM ht with⟨ts,k,p,rfl⟩|⟨ts,p,rfl⟩<;>unfold letOwnedTupleGo<;>induction v using PySem.Value.casesOn<;>first
   |exact wpAny_pure h
   |(refine wpAny_bind (wpAny_load ho ?_)
     rw[hc]
     induction o.data using PySem.Data.casesOn<;>first|exact wpAny_pure h|(dsimp only;rw[hn];exact wpAny_pure h))
structure Src(prog:Program)(w:World)(Z:ę)(mI:Expr)(l:List V)(I:Addr)(wr:List Addr)(g:Gh):Prop where
 nx:∀A:Around,A.handled=none→Nx prog w Z A mI wr I l g
 held:iK g wr
 self:∀(A:Around) g' s' H' (Q:Value→Shared→Prop) E,t_ wr g g'→Base Z g' s' H'→Q (.ref I) s'→õ prog w A (pyIter (.ref I)) Q E s'
theorem Src.mono(h:Src prog w Z t l I wr g)(G:t_ wr g g'):Src prog w Z t l I wr g':=
 ⟨fun A hA=>(h.nx A hA).mono G,h.held.mono G,fun A ó ĝ Ö Q E ú B hq=>h.self A ó ĝ Ö Q E (G.trans ú) B hq⟩
def js(prog:Program)(w:World)(Z:ę)(d:Nat)(cx:Cx)(A:Around)(env:Env)(t:Expr)(l:List V)(g:Gh)(st:St)(Q:Value→Shared→Prop):Prop:=
 ∀Û g' s' I wr,Gst g Û→Û.r Û.L=.loc→Gst Û g'→Ok Z d cx A env g' s' st→Src prog w Z t l I wr g'→(∀b∈wr,Nil Û b)→Q (.ref I) s'
theorem js.mono(h:js prog w Z d cx A env t l g st Q)(G:Gst g g'):js prog w Z d cx A env t l g' st Q:=fun Û ó ĝ I wr Ñ tY ú Vx S F=>h Û ó ĝ I wr (G.trans Ñ) tY ú Vx S F
theorem rt(C:Ok Z d cx A env g s st){n:Nat}{It:Nat→Value→Heap→Prop}{Sv:Nat→Heap→Prop}(O:∀b∈wr,g.r b=.free)(kp:∀b o,s.heap.get? b=some o→h'.get? b=some o)(W:∀A:Around,A.handled=none→Wk prog w A t I fp wr n It Sv)
  (self:∀(A:Around) (s':Shared) (Q:Value→Shared→Prop) (E:Value→Shared→Prop),Sv 0 s'.heap→Q (.ref I) s'→wpAny (model prog w) A (pyIter (.ref I)) Q E s')
  (cM:Sv 0 h')(P0:∀b∈fp,b∈wr∨∃o,g.r b=.Ô o)(hn:n=l.length)(hp:∀j v HQ x,It j v HQ→l[j]? =some x→eQ Z.toSta t g.k HQ x v)(tk:Nat)(hq:js prog w Z d cx A env t l g st Q):Q (.ref I) {s with heap:=h',toks:=tk}:=by
 have O':g6 g wr:=fun b m=>by rw[O b m];rfl
 have F:∀b∈wr,Nil g b:=fun b m=>.free (O b m)
 have G:=aL (h:=h') (Gst.refl g) O' F;have FP:Fp (g.hold wr h') h' fp wr:=by
  refine⟨fun b m o e=>?_,fun b m=>?_,fun b m n=>?_⟩
  ·by_cases q:b∈wr
   ·exact .inr ⟨q,(de q).trans (congrArg aX e)⟩
   ·obtain⟨o',q'⟩:=(P0 b m).resolve_left q;have e':=kp b o' (C.base.Ô b o' q');rw[e]at e';exact .inl ((ž q).trans (ë e'▸q'))
  ·obtain⟨o,q⟩:=(W A C.r.hd).al 0 _ cM b m;exact⟨o,(de m).trans (congrArg aX q)⟩
  ·obtain⟨o',q'⟩:=(P0 b m).resolve_left n;exact⟨o',(ž n).trans q'⟩
 refine hq g _ _ I wr (.refl g) C.i.gK.loc G (C.hold O' (fun b o À e=>kp b o e) tk) ⟨fun A hA=>?_,FP.w,fun VJ ó ĝ Ö Q E ú aB NO=>?_⟩ F
 ·exact Nx.walks (W A hA) (i:=0) (hn.trans (eZ _).symm) cM (fun j v HQ x p e=>(hp j v HQ x (eZ j▸p) e).mono G.k) FP
 ·exact self VJ ĝ Q E ((W A C.r.hd).frame 0 _ _ cM (FP.Ja ú aB)) NO
theorem dG(C:Ok Z d cx A env g s st){o:Obj}(hf:o.isFreed=false){n:Nat}{Pv:Nat→Value→Prop}{Sv:Nat→Heap→Prop}(W:∀A:Around,A.handled=none→Walks prog w A s.heap.objs.size fp [s.heap.objs.size] n Pv Sv)
  (al:∀i h,Sv i h→T2 fun o C=>A3 (h.get? s.heap.objs.size=some o) (o.cls=.type C) (AM.contains C=false))
  (self:∀(A:Around) (s':Shared) (Q:Value→Shared→Prop) (E:Value→Shared→Prop),Sv 0 s'.heap→Q (.ref s.heap.objs.size) s'→wpAny (model prog w) A (pyIter (.ref s.heap.objs.size)) Q E s')
  (cM:Sv 0 (s.heap.push o))(P0:∀b∈fp,b=s.heap.objs.size∨∃o,g.r b=.Ô o)(hn:n=l.length)(hp:∀j v x,Pv j v→l[j]? =some x→Rep Z.toSta g.k x v)(tk:Nat)(hq:js prog w Z d cx A env t l g st Q):Q (.ref s.heap.objs.size) {s with heap:=s.heap.push o,toks:=tk}:=by
 refine rt C (fun b m=>Ė.mp m▸C.base.fresh _ (Ĭ _)) (fun b o' e=>ŏ _ e) (fun A hA=>Wk.of (W A hA) (fun i h hs b m=>?_) fun i s' v Q E hs ZP=>?_) self cM (fun b m=>(P0 b m).imp Ė.mpr id) hn (fun j v HQ x p e=>.inl (hp j v x p e)) tk hq
 ·obtain⟨o',C,e,_⟩:=al i h hs;exact⟨o',Ė.mp m▸e⟩
 ·obtain⟨o',C,e,e1,e2⟩:=al i _ hs;exact AL e e1 e2 ZP
theorem Ý.TN{Y:Sta}{k:FH}{l:List V}{vs:List Value}{j:Nat}{x:V}{v:Value}(h:Ý Y k l vs)(hx:l[j]? =some x)(hv:vs[j]? =some v):Rep Y k x v:=by
 obtain⟨z,z1,z2⟩:=h.get hx;exact ë (z1.symm.trans hv)▸z2
theorem Kz{m:List V}(C:Ok Z d cx A env g s st)(hx:Rep Z.toSta g.k (.tup m) x)(hq:js prog w Z d cx A env t m g st Q):õ prog w A (pyIter x) Q E s:=by
 obtain⟨a,o,vs,rfl,k,⟨n,rfl⟩,r⟩:=hx;have ho:=C.base.sub k;have dY:a≠s.heap.objs.size:=eW (eY ho);refine wpAny_pyIter_tuple ⟨_,ho,rfl,_,rfl⟩ ?_;refine dG C rfl (fun A hA=>Walks.tuple hA s.heap.objs.size a dY vs.toArray) (fun i h hs=>?_) (fun A s' Q E hs hq=>wpAny_pyIter_tupleiter hs.1 hq) ⟨⟨_,fO _ rfl,rfl,rfl⟩,⟨_,ŏ _ ho,rfl,_,rfl⟩⟩ (fun b m=>?_) (ź.trans r.len) (fun j v x p e=>r.TN e (sD▸p)) s.toks hq
 ·obtain⟨⟨o,e,ec,ed⟩,_⟩:=hs;exact⟨o,_,e,ec,by decide⟩
 ·exact(ĸ.mp m).imp id fun q=>⟨_,Ė.mp q▸Gh.aO k⟩
theorem KC{m:List V}(C:Ok Z d cx A env g s st)(hx:Rep Z.toSta g.k (.lst m) x)(hq:js prog w Z d cx A env t m g st Q):õ prog w A (pyIter x) Q E s:=by
 obtain⟨a,o,vs,rfl,k,⟨n,rfl⟩,r⟩:=hx;have ho:=C.base.sub k;have dY:a≠s.heap.objs.size:=eW (eY ho);refine wpAny_pyIter_list ⟨_,ho,rfl,_,rfl⟩ ?_;refine dG C rfl (fun A hA=>Walks.list hA s.heap.objs.size a dY vs.toArray) (fun i h hs=>?_) (fun A s' Q E hs hq=>wpAny_pyIter_listiter hs.1 hq) ⟨⟨_,fO _ rfl,rfl,rfl⟩,⟨_,ŏ _ ho,rfl,_,rfl⟩⟩ (fun b m=>?_) (ź.trans r.len) (fun j v x p e=>r.TN e (sD▸p)) s.toks hq
 ·obtain⟨⟨o,e,ec,ed⟩,_⟩:=hs;exact⟨o,_,e,ec,by decide⟩
 ·exact(ĸ.mp m).imp id fun q=>⟨_,Ė.mp q▸Gh.aO k⟩
theorem KA{m:List Nat}(C:Ok Z d cx A env g s st)(hx:Rep Z.toSta g.k (.str m) x)(hq:js prog w Z d cx A env t (m.map fun c=>.str [c]) g st Q):õ prog w A (pyIter x) Q E s:=by
 obtain⟨tk,rfl⟩:=hx;have sign:∀j (v:Value) x,SignAt ⟨⟨m⟩⟩ j v→(m.map fun c=>V.str [c])[j]? =some x→Rep Z.toSta g.k x v:=fun j v x p e=>by
  obtain⟨c,u,hc,rfl⟩:=p;have hc:m[j]? =some c:=by simpa using hc
  rw[List.getElem?_map,hc]at e;exact ë e▸⟨u,rfl⟩
 have hl:m.toArray.size=(m.map fun c=>V.str [c]).length:=ź.trans (ĕ _).symm
 induction ha:(⟨⟨m⟩⟩:Õ).cps.all (· <128)using ñ with
 |false=>
  refine wpAny_pyIter_wide ha ?_;refine dG C rfl (fun A hA=>Walks.strWide hA s.heap.objs.size ⟨⟨m⟩⟩ tk) (fun i h hs=>?_) (fun A s' Q E hs hq=>wpAny_pyIter_striter_wide hs hq) ⟨_,fO _ rfl,rfl,rfl⟩ (fun b m=>.inl (Ė.mp m)) hl sign s.toks hq;obtain⟨o,e,ec,ed⟩:=hs;exact⟨o,_,e,ec,by decide⟩
 |true=>
  refine wpAny_pyIter_ascii ha ?_;refine dG C rfl (fun A hA=>Walks.strAscii hA s.heap.objs.size ⟨⟨m⟩⟩ tk) (fun i h hs=>?_) (fun A s' Q E hs hq=>wpAny_pyIter_striter_ascii hs hq) ⟨_,fO _ rfl,rfl,rfl⟩ (fun b m=>.inl (Ė.mp m)) hl sign s.toks hq;obtain⟨o,e,ec,ed⟩:=hs;exact⟨o,_,e,ec,by decide⟩
theorem Bq{m:List Nat}(C:Ok Z d cx A env g s st)(hx:Rep Z.toSta g.k (.bytes m) x)(hq:js prog w Z d cx A env t (m.map fun (c:Nat)=>V.int (c:Int)) g st Q):õ prog w A (pyIter x) Q E s:=by
 obtain⟨b,tk,rfl,rfl⟩:=hx;refine KBw.pyIter_bytes ?_;refine dG C rfl (fun A hA=>KBw.walks hA s.heap.objs.size b tk) (fun i h hs=>?_) (fun A s' Q E hs hq=>KBw.pyIter_self hs hq) ⟨_,fO _ rfl,rfl,rfl⟩ (fun b m=>.inl (Ė.mp m)) (by simp) (fun j v x p e=>?_) s.toks hq
 ·obtain⟨o,e,ec,ed⟩:=hs;exact⟨o,_,e,ec,by decide⟩
 ·obtain⟨c,u,hc,rfl⟩:=p;have hc:b.toList[j]? =some c:=by simpa using hc
  rw[List.getElem?_map,List.getElem?_map,hc]at e;exact ë e▸⟨u,rfl⟩
theorem FZ(C:Ok Z d cx A env g s st)(hx:Rep Z.toSta g.k v x)(hl:items v=some l)(hq:js prog w Z d cx A env t l g st Q):õ prog w A (pyIter x) Q E s:=by
 induction v using V.casesOn with
 |tup m=>exact Kz C hx (ë hl▸hq)
 |lst m=>exact KC C hx (ë hl▸hq)
 |str m=>exact KA C hx (ë hl▸hq)
 |bytes m=>exact Bq C hx (ë hl▸hq)
 |_=>exact nS hl
end
section
variable{g Ħ g':Gh}{st S Å:St}{H H₁:List Cell}{ρ κ:List (Option V)}{d b:Nat}{t:Expr}{v v':V}{l vs vs':List V}{Q:Value→Shared→Prop}{E:Value→Shared→Prop}{e it:PE}{es as:List PE}{B:List PS}{o:Out}{x:Value}{tg:Tg}
theorem y_(b:Nat)(hb:b<13):(∃id,m9 b=.builtin id)∨∃T,m9 b=.type T:=by
 match b with
 |0|1|3|4|6|7|9=>exact .inl ⟨_,rfl⟩
 |2|5|8|10|11|12=>exact .inr ⟨_,rfl⟩
 |n+13=>exact absurd hb (Nat.not_lt.mpr (î ..))
theorem gU(hg:cg Z K){ys:List Expr}{f:Õ}{np p:Pos}(hf:dz cx f=some (.blt b))(hb:b<13)(hp:plain ys=true)(e1:fh cx ys=as)(h1:Ļ prog w Z d as S ⟨H,ρ,κ⟩ vs)(h2:Ē H vs=some (H₁,vs'))(C:Ok Z d cx A env g s S)
  (hq:∀g' s' xs,Gst g g'→Ok Z d cx A env g' s' ⟨H₁,ρ,κ⟩→Ý Z.toSta g'.k vs' xs→õ prog w A (call (m9 b) xs) Q E s'):õ prog w A (eval (.Call (.Name f np) ys [] p) env) Q E s:=by
 refine aw (ō hg C.e C.base hf fun z hz=>?_);obtain rfl:z=m9 b:=hz;have go:õ prog w A (evalArgs (m9 b) true (backTo p (starEach ys env)) []) (fun a Ĉ=>õ prog w A (call (m9 b) ([]++a.pos) a.kw) Q E Ĉ) E s:=by
  refine ı (plain_any hp) ?_;refine h1 _ _ _ _ _ _ _ _ _ e1 hp C fun Û ò xs Ñ Ï ô=>?_;exact Base.eI Ï.base h2 ô fun ó Í aB f_=>hq _ _ _ (Ñ.trans Í.toGst) (Ï.next Í (.refl _) aB) f_
 rcases y_ b hb with⟨id,e⟩|⟨T,e⟩<;>rw[e]at go ⊢
 ·exact Calls.callWith_builtin (plain_any hp) go
 ·exact PySem.callWith_type (plain_any hp) go
noncomputable def isIt:PE→Bool
 |.bl b _=>ak 11 b
 |_=>false
theorem GR{ze:List PE}(h:za true b as ze=e)(n:isIt e=false):za false b as ze=e:=by
 unfold za at h ⊢
 induction q:ak 11 b using ñ with
 |true=>
  rw[q]at h;rw[←h]at n;have n:ak 11 b=false:=n;rw[q]at n;exact Ĕ n
 |false=>rw[q]at h;exact h
theorem CC{f:Õ}{ze:List PE}(h:pj true cx f as ze=e)(n:isIt e=false):pj false cx f as ze=e:=by
 unfold pj at h ⊢
 induction q:ė cx f using š with
 |some p=>rw[q]at h;exact h
 |none=>
  rw[q]at h
  induction q2:dz cx f using š with
  |none=>rw[q2]at h;exact h
  |some G=>
   rw[q2]at h
   induction G using Gl.casesOn with
   |blt b=>exact GR h n
   |_=>exact h
theorem K3{x:Expr}(h:xn cx x=e)(n:isIt e=false):er cx x=e:=by
 induction x using PySem.Expr.casesOn with
 |Call f as ks pos=>
  have h:ct (ks.isEmpty&&plain as) (jS true cx f (K4 cx f) as.length pos (fh cx as) (cT true cx as))=e:=h;show ct (ks.isEmpty&&plain as) (jS false cx f (K4 cx f) as.length pos (fh cx as) (cT true cx as))=e
  induction q:(ks.isEmpty&&plain as)using ñ with
  |false=>rw[q]at h;exact h
  |true=>
   rw[q]at h;have h:jS true cx f (K4 cx f) as.length pos (fh cx as) (cT true cx as)=e:=h;show jS false cx f (K4 cx f) as.length pos (fh cx as) (cT true cx as)=e;unfold jS at h ⊢
   induction q2:nameOf f using š with
   |none=>rw[q2]at h;exact h
   |some y=>rw[q2]at h;exact CC h n
 |_=>exact h
def m_(prog:Program)(w:World)(Z:ę)(d:Nat)(e:PE)(S Å:St)(v:V):Prop:=∀H' v' l,Ô Å.H v=some (H',v')→items v'=some l→∀cx x t env A g s Q E,xn cx x=e→jl t e=true→Ok Z d cx A env g s S→
 js prog w Z d cx A env t l g {Å with H:=H'} Q→õ prog w A (eval x env) (fun z Ĉ=>∀mD,õ prog w A (pyIter z) Q mD Ĉ) E s
theorem we(h:ű prog w Z d e S Å v)(n:isIt e=false):m_ prog w Z d e S Å v:=fun H' v' l hf hl cx x t env A g s Q E hx ho C hq=>
 h _ _ _ _ _ _ _ _ (K3 hx n) C fun Û Ĉ z Ñ Ï ô mD=>Ï.base.bF hf ô fun ó Í aB f_=>FZ (Ï.next Í (.refl _) aB) f_ hl (hq.mono (Ñ.trans Í.toGst))
theorem wt{x:V}{n:Nat}:∀{a:Int} {j:Nat},(mJ a n)[j]? =some x→x=.int (a+j):=by
 induction n with
 |zero=>exact fun h=>nomatch h
 |succ n ih=>
  intro a j h
  induction j using mK with
  |zero=>exact(ë h).symm.trans (congrArg V.int (Int.add_zero a).symm)
  |succ j=>
   refine(ih (a:=a+1) (j:=j) h).trans (congrArg V.int ?_);exact Int.le_antisymm (ì [_,_] .z (.a (.a Â Á) È) (.a Â (.a È Á)) rfl) (ì [_,_] .z (.a Â (.a È Á)) (.a (.a Â Á) È) rfl)
theorem wo(n:Nat):∀(a:Int),(mJ a n).length=n:=by
 induction n with
 |zero=>exact fun À=>rfl
 |succ n ih=>exact fun a=>congrArg (· +1) (ih (a+1))
theorem qH{l:List V}{x:V}:∀{n j:Nat},(bB n l)[j]? =some x→∃y,l[j]? =some y∧x=.tup [.int (n+j:Nat),y]:=by
 induction l with
 |nil=>exact fun h=>nomatch h
 |cons v r ih=>
  intro n j h
  induction j using mK with
  |zero=>exact⟨v,rfl,(ë h).symm⟩
  |succ j=>
   obtain⟨y,h1,h2⟩:=ih (n:=n+1) (j:=j) h;have e:n+1+j=n+(j+1):=by exact wV _ _
   exact⟨y,h1,e▸h2⟩
theorem qG(l:List V):∀(n:Nat),(bB n l).length=l.length:=by
 induction l with
 |nil=>exact fun À=>rfl
 |cons v r ih=>exact fun n=>congrArg (· +1) (ih (n+1))
theorem rA(a b:Int):Builtin.Range.rangeSize a b 1=((b - a).toNat:Int):=by
 rw[rangeSize_one]
 by_cases h:a<b
 ·rw[if_pos h,Int.toNat_of_nonneg (Int.sub_nonneg_of_le (jL h))]
 ·rw[if_neg h,Int.toNat_eq_zero.mpr (Int.sub_nonpos_of_le (bP.mp h))];rfl
theorem nT{a b:Int}(h:a<1000000∧ -1000000<a)(h2:b<1000000∧ -1000000<b):Builtin.Range.small a b 1=true:=
 have m:(-2^62:Int)≤ -1000000:=by decide
 have l:(1000000:Int)<2^62:=by decide
 small_one (oQ m (jL h.2)) (Int.lt_trans h.1 l) (oQ m (jL h2.2)) (Int.lt_trans h2.1 l)
theorem JH{a b:Int}(h:a<1000000∧ -1000000<a)(h2:b<1000000∧ -1000000<b):(b - a).toNat≤2^24:=
 Int.toNat_le.mpr (oQ (Int.sub_le_sub (jL h2.1) (jL h.2)) (by decide))
theorem lV{r:Addr}{a b:Int}{u v x:Tok}(C:Ok Z d cx A env g s st)(ha:ą a=true)(hb:ą b=true)(hr:IsRange s.heap r a b 1 u v x)(hq:js prog w Z d cx A env t (mJ a (b - a).toNat) g st Q):õ prog w A (pyIter (.ref r)) Q E s:=by
 have h1:=Ž ha;have h2:=Ž hb;refine wpAny_pyIter_range hr (nT h1 h2) ?_;have oZ:Builtin.Range.rangeSize a b 1=((b - a).toNat:Int):=rA a b;refine dG C rfl (fun A hA=>Walks.range hA s.heap.objs.size a 1 (b - a).toNat) (fun i h hs=>⟨_,_,hs,rfl,by decide⟩) (fun A s' Q E hs hq=>wpAny_pyIter_rangeiter hs hq) ?_ (fun b m=>.inl (Ė.mp m)) (wo _ _).symm (fun j v x p e=>?_) s.toks hq
 ·rw[oZ];have e1:a+((0:Nat):Int)*1=a:=by exact Int.le_antisymm (ì [_] .z (.a Â (.m 0 Á)) Â rfl) (ì [_] .z Â (.a Â (.m 0 Á)) rfl)
  have e2:(((b - a).toNat:Int) - ((0:Nat):Int))=((b - a).toNat:Int):=by rfl
  show IsRangeIter _ _ _ _ _;rw[e1,e2];exact fO _ rfl
 ·obtain⟨tk,rfl⟩:=p;rw[wt e];exact⟨tk,by rw[Int.mul_one]⟩
theorem cv(C:Ok Z d cx A env g s st){o:Obj}(hf:o.isFreed=false)(tk:Nat){G:Prop}(hq:∀g',Ę g g'→Ok Z d cx A env g' {s with heap:=s.heap.push o,toks:=tk} st→G):G:=
 have S:=Ę.set (x:=.free) g (C.base.fresh _ (Ĭ _))
 hq _ S (C.next S (fun b o' e=>ŏ _ e) (C.base.push o tk .free hf (.inl rfl)))
theorem qr(hb:ak 11 b=true)(hb':b<13)(hg:cg Z K)(h1:Ļ prog w Z d as S ⟨H,ρ,κ⟩ vs)(h2:Ē H vs=some (H₁,vs')){X:Expr}(hx:xn cx X=.bl b as)(C:Ok Z d cx A env g s S)
  (hq:∀g' s' xs,Gst g g'→Ok Z d cx A env g' s' ⟨H₁,ρ,κ⟩→Ý Z.toSta g'.k vs' xs→õ prog w A (call (m9 b) xs) Q E s'):õ prog w A (eval X env) Q E s:=by
 obtain⟨f,np,ys,p,rfl,hp,⟨hf,e1,_⟩|⟨e,_⟩⟩:=iv hx
 ·exact gU hg hf hb' hp e1 h1 h2 C hq
 ·subst e;exact à hb
theorem qq(hb:ak 11 b=true):ű prog w Z d (.bl b as) S Å v:=by
 intro cx x env A g s Q E hx;obtain⟨f,np,ys,p,rfl,hp,⟨hf,e1,h|⟨h,_⟩⟩|⟨e,_⟩⟩:=iv hx
 ·have h1:=dU hb;have h2:=dU h;exact absurd (è h1 h2) (by decide)
 ·exact à h
 ·subst e;exact à hb
theorem Jw{p:Int}(hg:cg Z K)(h1:Ļ prog w Z d as S ⟨H,ρ,κ⟩ vs)(h2:Ē H vs=some (H₁,[.int p]))(h3:ą p=true):m_ prog w Z d (.bl 11 as) S ⟨H₁,ρ,κ⟩ (.tup (mJ 0 p.toNat)):=by
 intro H' v' l hf hl cx x t env A g s Q E hx ho C hq;cases hf;(replace hl:=ë hl;subst hl);refine qr rfl (by decide) hg h1 h2 hx C fun Û ò xs Ñ Ï eP=>?_;obtain⟨x,r,rfl,⟨tx,rfl⟩,hr⟩:=eP;obtain rfl:r=[]:=hr;refine call_range_1 fun mD=>cv Ï (o:={cls:=.type "range",data:=.fields #[.int 0 ò.toks,.int p tx,.int 1 (ò.toks+1)]}) rfl (ò.toks+1+1) fun ó Í æ=>?_;exact lV æ (a:=0) (b:=p) (by decide) h3 (IsRange.new _ _ _ _ _ _ _) ((Int.sub_zero p).symm▸hq.mono (Ñ.trans Í.toGst))
theorem ES{p q:Int}(hg:cg Z K)(h1:Ļ prog w Z d as S ⟨H,ρ,κ⟩ vs)(h2:Ē H vs=some (H₁,[.int p,.int q]))(h3:(ą p&&ą q)=true):m_ prog w Z d (.bl 11 as) S ⟨H₁,ρ,κ⟩ (.tup (mJ p (q - p).toNat)):=by
 intro H' v' l hf hl cx x t env A g s Q E hx ho C hq;cases hf;(replace hl:=ë hl;subst hl);refine qr rfl (by decide) hg h1 h2 hx C fun Û ò xs Ñ Ï eP=>?_;obtain⟨x,r,rfl,⟨tx,rfl⟩,y,r',rfl,⟨ty,rfl⟩,hr⟩:=eP;obtain rfl:r'=[]:=hr;refine call_range_2 fun mD=>cv Ï (o:={cls:=.type "range",data:=.fields #[.int p tx,.int q ty,.int 1 ò.toks]}) rfl (ò.toks+1) fun ó Í æ=>?_;exact lV æ (oa h3).1 (oa h3).2 (IsRange.new _ _ _ _ _ _ _) (hq.mono (Ñ.trans Í.toGst))
theorem Cd(C:Ok Z d cx A env g s st){h':Heap}{al I J:Addr}{ol:Obj}{ws:List Value}{m:List V}{elts:List Expr}{k':Nat}{p':Pos}(k:g.k al=some ol)(q:mz "list" ws ol)(rm:Ý Z.toSta g.k m ws)(hI:I=s.heap.objs.size+1)(hJ:J=s.heap.objs.size)
  (HH:IsEnum h' I J 0 .none)(hit:h'.IsListIter J al 0)(PZ:∀b o,s.heap.get? b=some o→h'.get? b=some o)(hq:js prog w Z d cx A env (.Tuple elts k' p') (bB 0 m) g st Q):õ prog w A (pyIter (.ref I)) Q E {s with heap:=h',toks:=s.toks}:=by
 obtain⟨nl,rfl⟩:=q;have We:=C.base.sub k;have BL:al<s.heap.objs.size:=eY We;refine wpAny_pyIter_enum HH ?_;have O:∀b∈[I,J],g.r b=.free:=fun b n=>by
  rcases ĸ.mp n with n|n
  ·exact C.base.fresh _ (n▸hI▸Nat.le_succ _)
  ·exact C.base.fresh _ (Ė.mp n▸hJ▸Ĭ _)
 have n1:I≠J:=hI▸hJ▸Nat.succ_ne_self _;have n2:al≠I:=hI▸eW (Nat.lt_succ_of_lt BL);have n3:al≠J:=hJ▸eW BL;refine rt C O PZ (fun A hA=>Wk.ofT (WalksT.enumerate hA I J al n1 n2 n3 ws.toArray) fun i h hs b m=>?_) (fun A s' Q E hs hq=>?_) ⟨⟨_,HH⟩,hit,⟨_,PZ _ _ We,rfl,_,rfl⟩⟩ (fun b m=>?_) (by rw[qG,←rm.len];exact ź) (fun j v HQ x pv e=>?_) s.toks hq
 ·obtain⟨⟨old,e1⟩,⟨o,e2,_⟩,_⟩:=hs;rcases ĸ.mp m with rfl|m
  ·exact⟨_,e1⟩
  ·exact⟨_,Ė.mp m▸e2⟩
 ·obtain⟨⟨old,e1⟩,_⟩:=hs;exact wpAny_pyIter_enum e1 hq
 ·rcases ĸ.mp m with rfl|m
  ·exact .inl (.head _)
  ·rcases ĸ.mp m with rfl|m
   ·exact .inl (.tail _ (.head _))
   ·exact .inr ⟨_,Ė.mp m▸Gh.aO k⟩
 ·obtain⟨T,vals,rfl,⟨tk,y,q1,rfl⟩,oT,f1,f2,n,f3⟩:=pv;obtain⟨z,q2,rfl⟩:=qH e;exact .inr ⟨rfl,T,_,_,rfl,rfl,⟨oT,f1,f2,n,f3⟩,_,_,rfl,⟨tk,by rw[eZ]⟩,y,[],rfl,rm.TN q2 (sD▸q1),rfl⟩
theorem Jv{m:List V}(hg:cg Z K)(h1:Ļ prog w Z d as S ⟨H,ρ,κ⟩ vs)(h2:Ē H vs=some (H₁,[.lst m])):m_ prog w Z d (.bl 12 as) S ⟨H₁,ρ,κ⟩ (.tup (bB 0 m)):=by
 intro H' v' l hf hl cx x t env A g s Q E hx ho C hq;cases hf;(replace hl:=ë hl;subst hl);refine qr rfl (by decide) hg h1 h2 hx C fun Û ò xs Ñ Ï eP=>?_;obtain⟨x,r,rfl,⟨al,ol,ws,rfl,k,q,rm⟩,hr⟩:=eP;obtain rfl:r=[]:=hr;have hL:=Base.isList (Ï.base.sub k) q;refine call_enumerate_list hL fun h' HH hit oZ PZ mD=>?_;have ZM:Br t=true:=ho
 induction t using PySem.Expr.casesOn with
 |Tuple elts k' p'=>exact Cd Ï k q rm rfl rfl HH hit PZ (hq.mono Ñ)
 |_=>exact à ZM
theorem Q1(h1:m_ prog w Z (d+1) it S ⟨H,ρ,κ⟩ v)(h2:Ô H v=some (H₁,v'))(h3:items v'=some l)(h4:zk prog w Z d tg l B ⟨H₁,ρ,κ⟩ Å o):vN prog w Z (d+1) (.fo tg it B) S Å o:=by
 intro cx x env A g s Q E hx C hq;obtain⟨y,z,c,p,rfl,hs,ho,e1,e2,e3⟩:=sv hx;refine wpAny_For ?_ (fun x=>?_)
 ·refine wpAny_mono (h1 _ _ _ h2 h3 _ _ _ _ _ _ _ (fun it ĝ=>codeAny (model prog w) A (.forLoop y it c [] env) (fun r s'=>match r with|.ok f=>Q f s'|.error e=>cameBackBy (model prog w) A env E e s') ĝ) E e2 (e2▸ho) C ?_) (fun x Ĉ h'=>h' E) fun À À e=>e
  intro Û ó ĝ I wr Ñ tY ú æ S F;exact h4.2 _ _ _ _ _ _ _ _ _ _ e1 e3 æ.down ú S.held (S.nx A C.r.hd) F _ fun İ aN f Ń Ĺ DL=>hq.q _ _ _ (Ñ.trans Ń) (C.lift (Ñ.trans Ń) Ĺ) DL
 ·induction z using PySem.Expr.casesOn<;>first|rfl|exact Ĕ hs
end
section
variable{cx HY:Cx}{g Ħ Û ó g' gE:Gh}{s s' sE:Shared}{st ĉ:St}{H H' HE:List Cell}{h:Heap}{L a:Addr}{x:Role}{o:Obj}
noncomputable def av:Role→Bool
 |.loc=>true
 |_=>false
theorem ż(h:av x=true):x=.loc:=by induction x using Role.casesOn<;>first|(exact à h;done)|rfl
noncomputable def NC:Role→Bool
 |.kept _=>true
 |.free=>true
 |_=>false
noncomputable def w4:Option Obj→Role
 |some o=>.kept o
 |none=>.free
theorem Bm(o:Option Obj):NC (w4 o)=true:=by induction o using š<;>rfl
theorem Bl(o:Option Obj):av (w4 o)=false:=by induction o using š<;>rfl
def Gh.sub(g:Gh)(h:Heap)(L:Addr):Gh where
 r a:=if a=L then .loc else if av (g.r a)then w4 (h.get? a)else g.r a
 as:=g.as
 L:=L
 cs:=g.cs
def Gh.nA(g gE:Gh)(h:Heap):Gh where
 r a:=if av (g.r a)then .loc else if av (gE.r a)then aX (h.get? a)else gE.r a
 as:=gE.as
 L:=g.L
 cs:=g.cs
theorem nG:(g.sub h L).r L=.loc:=if_pos rfl
theorem nF(n:a≠L):(g.sub h L).r a=if av (g.r a)then w4 (h.get? a)else g.r a:=if_neg n
theorem Ņ(n:a≠L)(e:g.r a=x)(h1:av x=false):(g.sub h L).r a=x:=by
 rw[nF n,e,h1];rfl
theorem pU(n:a≠L)(e:g.r a=.loc)(ho:h.get? a=some o):(g.sub h L).r a=.kept o:=by
 rw[nF n,e,ho];rfl
theorem EF(q:(g.sub h L).r a=.loc):a=L:=Classical.byContradiction fun n=>by
 rw[nF n]at q
 induction l:av (g.r a)using ñ with
 |true=>
  rw[l,if_pos rfl]at q;have:=Bl (h.get? a);rw[q]at this;exact Ĕ this
 |false=>
  rw[l,if_neg jH]at q;rw[q]at l;exact Ĕ l
theorem zV(e:(g.sub h L).r a=x)(h1:av x=false)(h2:NC x=false):g.r a=x:=by
 by_cases n:a=L
 ·rw[n,nG]at e;rw[←e]at h1;exact Ĕ h1
 ·rw[nF n]at e
  induction q:av (g.r a)using ñ with
  |true=>
   rw[q,if_pos rfl]at e;rw[←e,Bm]at h2;exact Ĕ h2
  |false=>rw[q]at e;exact e
theorem EH(e:Gst g ó)(hn:Nil g L):Gst (g.sub h L) (ó.sub h L):=by
 refine⟨fun a o q=>?_,fun a o q=>?_,fun a o q=>?_,e.as,rfl,e.cs,fun a q=>EF q▸nG⟩
 ·have q1:=zV (Gh.aO q) rfl rfl;exact Gh.Ś (Ņ (fun p=>hn.Ô o (p▸q1)) (Gh.aO (e.k a o (Gh.Ś q1))) rfl)
 ·by_cases n:a=L
  ·rw[n,nG]at q;exact neT Role.ctorIdx q rfl
  ·rw[nF n]at q
   induction l:av (g.r a)using ñ with
   |true=>
    rw[l]at q;rw[nF n,e.loc a (ż l)];exact q
   |false=>
    rw[l]at q;exact Ņ n (e.kept a o q) rfl
 ·have q1:=zV q rfl rfl;exact Ņ (fun p=>hn.held o (p▸q1)) (e.held a o q1) rfl
theorem wb(n:a≠L)(h':Nil g a):Nil (g.sub h L) a:=by
 have e:(g.sub h L).r a=g.r a:=Ņ n rfl (oz.mpr fun q=>h'.loc (ż q));exact⟨fun o q=>h'.Ô o (e▸q),fun o q=>h'.kept o (e▸q),fun o q=>h'.held o (e▸q),fun q=>h'.loc (e▸q)⟩
theorem Base.qb(B:Base Z g s H)(hL:s.heap.objs.size≤L)(e:g.r a=x)(n:vm x=false):a≠L:=fun p=>by
 have:=B.fresh _ hL;rw[←p,e]at this;rw[this]at n;exact Ĕ n
theorem pV{wr:List Addr}(B:Base Z g s H)(hL:s.heap.objs.size≤L):t_ wr g (g.sub h L):=by
 refine⟨fun a o q=>?_,fun a À o q=>?_⟩
 ·have q:=Gh.aO q;exact Gh.Ś (Ņ (B.qb hL q rfl) q rfl)
 ·refine Ņ (fun p=>?_) q rfl;have:=B.fresh _ hL;rw[←p,q]at this;exact neT Role.ctorIdx this rfl
theorem iu{r:Role}(h:av r=true):((∀o,r≠.Ô o)∧r≠.tab)∧∀i,r≠.cell i∧r≠.cV i:=by
 rw[ż h];simp
theorem w3{r:Role}(h:r=.kept o):((∀o,r≠.Ô o)∧r≠.tab)∧∀i,r≠.cell i∧r≠.cV i:=by
 rw[h];simp
theorem Base.QC(B:Base Z g s H)(hL:s.heap.objs.size≤L)(kp:∀b o,s.heap.get? b=some o→h.get? b=some o)(th:∃o,h.get? L=some o)(t:Nat):Base Z (g.sub s.heap L) {s with heap:=h,toks:=t} H:=by
 refine B.gen (fun a=>a=L∨av (g.r a)=true) (fun a q=>?_) (fun b o À e=>kp b o e) (fun b nd=>?_) (fun a ha=>?_) B.len (fun À À e=>e) fun i c e=>.inl ⟨e,fun b q=>?_⟩
 ·rcases q with q|q
  ·exact(gf (q▸B.fresh _ hL▸rfl)).1
  ·exact(iu q).1
 ·exact Ņ (fun e=>nd (.inl e)) rfl (oz.mpr fun e=>nd (.inr e))
 ·by_cases e:a=L
  ·rw[e,nG];exact⟨(by simp),(by simp),(by simp),fun À=>th⟩
  ·have lo:g.r a=.loc:=ż (ha.resolve_left e);obtain⟨o,ho⟩:=B.alive a (by rw[lo];simp);rw[pU e lo ho];refine⟨(by simp),fun o' e'=>⟨o.slots,?_⟩,(by simp),fun À=>⟨o,kp a o ho⟩⟩;exact Role.kept.inj e'▸kp a o ho
 ·rcases q with q|q
  ·exact(gf (q▸B.fresh _ hL▸rfl)).2 i
  ·exact(iu q).2 i
theorem pL(e:g.r a=.loc):(g.nA gE h).r a=.loc:=if_pos (by rw[e];rfl)
theorem kO(n:av (g.r a)=false):(g.nA gE h).r a=if av (gE.r a)then aX (h.get? a)else gE.r a:=if_neg (by rw[n];exact jH)
noncomputable def eG:Role→Bool
 |.kept _=>true
 |_=>false
theorem Hq{y:Role}(e:gE.r a=y)(hk:g.r a=.loc→eG (gE.r a)=true)(nk:eG y=false):av (g.r a)=false:=oz.mpr fun q=>by
 have:=hk (ż q);rw[e,nk]at this;exact à this
theorem pK{y:Role}(e:gE.r a=y)(l:av y=false)(hk:g.r a=.loc→eG (gE.r a)=true)(nk:eG y=false):(g.nA gE h).r a=y:=by
 rw[kO (Hq e hk nk),e,l];rfl
theorem El(e:gE.r a=.loc)(hk:g.r a=.loc→eG (gE.r a)=true)(ho:h.get? a=some o):(g.nA gE h).r a=.held o:=by
 rw[kO (Hq e hk rfl),e,ho];rfl
theorem Hz(e:Gst (g.sub h L) gE)(hn:Nil g L)(al:∀a,g.r a=.loc→∃o,h.get? a=some o)(q:g.r a=.loc):∃o,h.get? a=some o∧gE.r a=.kept o:=by
 obtain⟨o,ho⟩:=al a q;exact⟨o,ho,e.kept a o (pU (fun p=>hn.loc (p▸q)) q ho)⟩
theorem Em(e:Gst (g.sub h L) gE)(hn:Nil g L){hE:Heap}:Gst g (g.nA gE hE):=by
 have go:∀{a x},g.r a=x→av x=false→gE.r a=x→(g.nA gE hE).r a=x:=fun {a x} q l q'=>by
  rw[kO (by rw[q];exact l),q',l];rfl
 refine⟨fun a o q=>?_,fun a o q=>?_,fun a o q=>?_,e.as,rfl,rfl,fun a q=>pL q⟩
 ·have q:=Gh.aO q;exact Gh.Ś (go q rfl (Gh.aO (e.k a o (Gh.Ś (Ņ (fun p=>hn.Ô o (p▸q)) q rfl)))))
 ·exact go q rfl (e.kept a o (Ņ (fun p=>hn.kept o (p▸q)) q rfl))
 ·exact go q rfl (e.held a o (Ņ (fun p=>hn.held o (p▸q)) q rfl))
theorem Mc(hk:∀{a},g.r a=.loc→eG (gE.r a)=true){hE:Heap}:aQ gE.k (g.nA gE hE).k:=fun a o q=>Gh.Ś (pK (Gh.aO q) rfl hk rfl)
theorem je{r:Role}(h:eG r=true):∃o,r=.kept o:=by induction r using Role.casesOn<;>first|(exact à h;done)|exact⟨_,rfl⟩
theorem Base.nA(B:Base Z gE sE HE)(hk:∀{a},g.r a=.loc→eG (gE.r a)=true):Base Z (g.nA gE sE.heap) sE HE:=by
 refine B.gen (g':=g.nA gE sE.heap) (h':=sE.heap) (t:=sE.toks) (H':=HE) (fun a=>av (g.r a)=true∨av (gE.r a)=true) (fun a q=>?_) (fun À À À e=>e) (fun b nd=>?_) (fun a ha=>?_) B.len (fun À À e=>e) fun i c q=>.inl ⟨q,fun b q=>?_⟩
 ·rcases q with q|q
  ·obtain⟨o,q⟩:=je (hk (ż q));exact(w3 q).1
  ·exact(iu q).1
 ·rw[kO (oz.mpr fun q=>nd (.inl q)),oz.mpr fun q=>nd (.inr q)];rfl
 ·by_cases ho:g.r a=.loc
  ·rw[pL ho];obtain⟨o,q⟩:=je (hk ho);obtain⟨sl,q⟩:=B.kept a o q;exact⟨(by simp),(by simp),(by simp),fun À=>⟨_,q⟩⟩
  ·have q:gE.r a=.loc:=ż (ha.resolve_left fun p=>ho (ż p));have e:(g.nA gE sE.heap).r a=aX (sE.heap.get? a):=by
    rw[kO (oz.mpr fun p=>ho (ż p)),q];rfl
   rw[e];exact sW
 ·rcases q with q|q
  ·obtain⟨o,q⟩:=je (hk (ż q));exact(w3 q).2 i
  ·exact(iu q).2 i
structure Kx(g g':Gh):Prop where
 k:aQ g.k g'.k
 as:∃l,g'.as=g.as++l
theorem Gst.kx(G:Gst g g'):Kx g g':=⟨G.k,G.as⟩
theorem Kx.trans{a b c:Gh}(x:Kx a b)(y:Kx b c):Kx a c:=⟨x.k.trans y.k,let ⟨l,hl⟩:=x.as;let ⟨m,hm⟩:=y.as;⟨l++m,by rw[hm,hl,Ĝ]⟩⟩
theorem Kx.same(k:aQ g.k g'.k)(e:g'.as=g.as):Kx g g':=⟨k,[],e.trans (Ŵ _).symm⟩
theorem kC{wr:List Addr}(O:g6 g wr):Kx g (g.hold wr h):=.same (fT O) rfl
theorem Ć.kx(K:Kx g g'){v:V}{x:Value}(h:Ć Z g v x):Ć Z g' v x:=by
 induction v using V.casesOn with
 |Ó i=>
  obtain⟨a,h1,h2⟩:=h;obtain⟨l,hl⟩:=K.as;exact⟨a,hl▸ag h1,h2⟩
 |_=>exact Rep.mono K.k h
theorem Inv.nA(Pp:Inv Z cx ó s st)(G:Gst g ó)(IE:Inv Z HY gE sE ĉ)(e:Gst (g.sub s.heap L) gE)(hn:Nil g L)(hx:Kx ó gE)(hl:g.r g.L=.loc):A3 (Gst g (g.nA gE sE.heap)) (Kx gE (g.nA gE sE.heap)) (Inv Z cx (g.nA gE sE.heap) sE {ĉ with ρ:=st.ρ}):=by
 have al:∀a,g.r a=.loc→∃o,s.heap.get? a=some o:=fun a q=>Pp.base.alive a (by rw[G.loc a q];simp)
 have hk:∀{a},g.r a=.loc→eG (gE.r a)=true:=fun q=>let ⟨o,_,q⟩:=Hz e hn al q;q▸rfl
 have kE:Kx gE (g.nA gE sE.heap):=.same (Mc hk) rfl;refine⟨Em e hn,kE,IE.base.nA hk,pL hl,?_,fun i ov q=>?_⟩
 ·obtain⟨m,⟨o,es,ep,ho,hd,r⟩,hm⟩:=Pp.gK.locs;rw[G.L]at ho;obtain⟨o',sX,q⟩:=Hz e hn al hl;obtain rfl:=ë (ho.symm.trans sX);obtain⟨sl,q⟩:=IE.base.kept _ _ q;refine⟨m,⟨{o with slots:=sl},es,ep,q,hd,r⟩,fun x i v h1 h2=>?_⟩;obtain⟨y,q1,q2⟩:=hm x i v h1 h2;exact⟨y,q1,q2.kx (hx.trans kE)⟩
 ·obtain⟨c,y,q1,q2,q3,q4⟩:=IE.gK.vars i ov q;have ec:gE.cs=g.cs:=e.cs;refine⟨c,y,ec▸q1,pK q2 rfl hk rfl,q3,fun v hv=>?_⟩;obtain⟨x,y1,y2⟩:=q4 v hv;exact⟨x,y1,y2.kx kE⟩
theorem ŕ.sub(R:ŕ d A g)(I:Inv Z cx g s st)(hL:s.heap.objs.size≤L):ŕ d A (g.sub s.heap L):=by
 refine⟨R.hd,R.depth,R.units,?_⟩;obtain⟨l,a,b⟩:=R.frames;refine⟨l,a,fun e he=>?_⟩;obtain⟨k,L',h1,h2⟩:=b e he;refine⟨k,L',h1,.inr ?_⟩;rcases h2 with⟨q1,q2⟩|⟨o,es,n,q1,q2⟩
 ·obtain⟨o,es,n,ho,hd⟩:=I.gG;rw[←q2]at ho;exact⟨o,es,n,pU (I.base.qb hL q1 rfl) q1 ho,hd⟩
 ·exact⟨o,es,n,Ņ (I.base.qb hL q1 rfl) q1 rfl,q2⟩
end
section
variable{g Ħ Û ó g':Gh}{S S' Å Í:St}{H H₁:List Cell}{ρ κ:List (Option V)}{wr:List Addr}{I D:Addr}{elt t:PE}{ifs:List PE}{l acc vs out:List V}{v x x':V}{tg:List Nat}{n:Nat}{ws:List Value}
abbrev kK(prog:Program)(w:World)(A:Around)(t elt iter:Expr)(ifs:List Expr)(scope:PySem.Scope)(pos:Pos)(it acc:Value)(env:Env)(RR:Result→Shared→Prop):Bool→Shared→Prop:=fun ok fy=>
 if ok=true then ∀E,õ prog w A (eval elt env) (fun x EE=>∀E,õ prog w A (call (.builtin "list.append") [acc,x]) (fun À Mm=>codeAny (model prog w) A (.compLoop (.ListComp elt [⟨t,iter,ifs,0⟩] scope pos) 0 it acc env) RR Mm) E EE) E fy
 else codeAny (model prog w) A (.compLoop (.ListComp elt [⟨t,iter,ifs,0⟩] scope pos) 0 it acc env) RR fy
theorem ph{elt t iter:Expr}{ifs:List Expr}{scope:PySem.Scope}{pos:Pos}{it acc:Value}{RR:Result→Shared→Prop}
  (h:∀E,õ prog w A (pyNext it) (fun r Ĉ=>match r with
   |none=>RR (.ok .next) Ĉ
   |some v=>∀E,õ prog w A (letOwnedTupleGo t it v) (fun À ĝ=>∀E,õ prog w A (assign t env v) (fun À aN=>∀E,õ prog w A (kj ifs env true) (kK prog w A t elt iter ifs scope pos it acc env RR) E aN) E ĝ) E Ĉ) E s):codeAny (model prog w) A (.compLoop (.ListComp elt [⟨t,iter,ifs,0⟩] scope pos) 0 it acc env) RR s:=by
 refine codeAny_of_tree ?_;show wpAny _ A ((compTurn (.ListComp elt [⟨t,iter,ifs,0⟩] scope pos) 0 it acc env).onRaise (fun x=>do noteFrame x env;theTreesLotGoes x)) _ _ s;refine wpAny_noted ?_;rw[compTurn_list];refine wpAny_bind (wpAny_standAt (wpAny_bind (wpAny_mono (h _) (fun r Ĉ bA=>?_) fun À À h'=>h')))
 induction r using š with
 |none=>exact wpAny_pure bA
 |some v=>
  refine wpAny_bind (wpAny_mono (bA _) (fun À ĝ cR=>wpAny_bind (wpAny_mono (cR _) (fun À aN Ň=>wpAny_bind (wpAny_mono (Ň _) (fun ok fy l6=>?_) fun À À h'=>h')) fun À À h'=>h')) fun À À h'=>h')
  induction ok using ñ with
  |false=>exact wpAny_pure ⟨rfl,l6⟩
  |true=>
   exact wpAny_bind (wpAny_bind (wpAny_mono (l6 _) (fun x EE yN=>wpAny_bind (wpAny_mono (yN _) (fun À Mm S7=>wpAny_pure (wpAny_pure ⟨rfl,S7⟩)) fun À À h'=>h')) fun À À h'=>h'))
noncomputable def tQ(vs:List Value)(n:Nat):Obj:={cls:=.type "list",data:=.seq vs.toArray n}
structure zr(prog:Program)(w:World)(Z:ę)(d:Nat)(cx:Cx)(A:Around)(env:Env)(Ħ g:Gh)(s:Shared)(st:St)(t:Expr)(tg:List Nat)(wr:List Addr)(I D:Addr)(l acc:List V)(ws:List Value)(n:Nat):Prop where
 tg:cW cx t=some tg
 ok:Ok Z d cx A env g s st
 G:Gst Ħ g
 T:iK g wr
 N:Nx prog w Z A t wr I l g
 F:∀b∈wr,Nil Ħ b
 Dw:D∉wr
 Hd:Nil Ħ D
 Dg:g.r D=.held (tQ ws n)
 a:Ý Z.toSta g.k acc.reverse ws
def Hf(Z:ę)(d:Nat)(cx:Cx)(A:Around)(env:Env)(Ħ g:Gh)(ĉ:St)(D:Addr)(out:List V)(RR:Result→Shared→Prop):Prop:=
 ∀g' s' ws n,Gst Ħ g'→Kx g g'→Ok Z d cx A env g' s' ĉ→g'.r D=.held (tQ ws n)→Ý Z.toSta g'.k out ws→RR (.ok .next) s'
theorem Hf.mono{env:Env}{RR:Result→Shared→Prop}(h:Hf Z d cx A env Ħ g S' D out RR)(k:Kx g g'):Hf Z d cx A env Ħ g' S' D out RR:=fun g' s' ws n q1 q2=>h g' s' ws n q1 (k.trans q2)
def mC(prog:Program)(w:World)(Z:ę)(d:Nat)(elt:PE)(tg:List Nat)(ifs:List PE)(l acc:List V)(st ĉ:St)(out:List V):Prop:=∀cx x t us env A Ħ g s I wr D ws n sc iter pos,er cx x=elt→fh cx us=ifs→zr prog w Z d cx A env Ħ g s st t tg wr I D l acc ws n→
 ∀RR:Result→Shared→Prop,Hf Z d cx A env Ħ g ĉ D out RR→codeAny (model prog w) A (.compLoop (.ListComp x [⟨t,iter,us,0⟩] sc pos) 0 (.ref I) (.ref D) env) RR s
theorem lL{e:Expr}{i:Nat}(h:wM cx e=some i):T2 fun x p=>e=.Name x p∧ė cx x=some (false,i):=by
 refine ï h fun x h1 h2=>?_;obtain⟨p,rfl⟩:=gF h1;refine ï h2 fun q h3 h4=>?_;obtain⟨k,j⟩:=q
 induction k using ñ with
 |true=>exact nS h4
 |false=>exact⟨x,p,rfl,h3.trans (congrArg (fun j=>some (false,j)) (ë h4))⟩
theorem yU{x:Õ}{p:Pos}{q:Bool×Nat}(h:ė cx x=some q):fi cx (.Name x p)=.n q.1 q.2:=by
 show(match ė cx x with|some p=>Tg.n p.1 p.2|none=>.no)=_;rw[h]
theorem uu{t:Expr}(h:cW cx t=some tg):fi cx t=pP tg:=by
 unfold cW at h
 induction q:pO t using š with
 |none=>
  rw[q]at h
  (refine cK h fun i h1 zq=>?_;obtain rfl:=zq)
  obtain⟨x,p,rfl,h2⟩:=lL h1;exact yU h2
 |some es=>
  rw[q]at h;obtain⟨k,p,rfl⟩:=tupI q;refine ï h fun y h1 h2=>?_;refine ï h2 fun i h3 h4=>?_
  (refine cK h4 fun j h5 zq=>?_;obtain rfl:=zq)
  obtain⟨a,pa,e1,h6⟩:=lL h3;obtain⟨b,pb,e2,h7⟩:=lL h5;have e:=i2 h1;rw[e1,e2]at e;subst e;show(match Ţ cx [.Name a pa,.Name b pb]with|some l=>Tg.t l|none=>.no)=_;have:Ţ cx [.Name a pa,.Name b pb]=some [(false,i),(false,j)]:=by
   show(ė cx a).bind (fun p=>((ė cx b).bind fun p=>(some []).map (p:: ·)).map (p:: ·))=_;rw[h6,h7];rfl
  rw[this];rfl
theorem MG:mC prog w Z d elt tg ifs [] acc S S acc.reverse:=by
 intro cx x t us env A Ħ g s I wr D ws n sc iter pos hx hy C RR hq;refine ph fun E=>C.N g s _ (.refl _ g) C.ok.base _ E fun h' tk kp=>?_;exact hq _ _ ws n (aL C.G C.T.gw C.F) (kC C.T.gw) (C.ok.hold C.T.gw kp tk) ((ž C.Dw).trans C.Dg) (C.a.mono (fT C.T.gw))
theorem tE{b:Bool}(h0:Ð v=true)(h1:uh prog w Z d (pP tg) v S Å)(h2:jT prog w Z d true ifs Å Í b){x t iter:Expr}{us:List Expr}{sc:PySem.Scope}{pos:Pos}(hy:fh cx us=ifs)(C:zr prog w Z d cx A env Ħ g s S t tg wr I D (v::l) acc ws n){RR:Result→Shared→Prop}
  (hq:∀ó ĝ,Kx g ó→zr prog w Z d cx A env Ħ ó ĝ Í t tg wr I D l acc ws n→kK prog w A t x iter us sc pos (.ref I) (.ref D) env RR b ĝ):codeAny (model prog w) A (.compLoop (.ListComp x [⟨t,iter,us,0⟩] sc pos) 0 (.ref I) (.ref D) env) RR s:=by
 have hx:=uu C.tg;refine ph fun E=>wpAny_mono (C.N g s _ (.refl _ g) C.ok.base (h1.tup hx h0) (fun z ĝ=>∀E,õ prog w A (assign t env z) (fun À aN=>∀E,õ prog w A (kj us env true) (kK prog w A t x iter us sc pos (.ref I) (.ref D) env RR) E aN) E ĝ) E fun h' tk z kp hh ir N' E=>?_) (fun r Ĉ sT=>?_) fun À À e=>e
 ·have G':=aL (h:=h') C.G C.T.gw C.F;refine tL h1 hx (C.ok.hold C.T.gw kp tk) ir fun Û ĝ Ñ Ï E=>?_;refine h2.l _ _ _ _ _ _ _ _ rfl hy Ï fun ó fy ú æ=>?_;have GG:=Ñ.trans ú;exact hq ó fy ((kC C.T.gw).trans GG.kx) ⟨C.tg,æ,G'.trans GG,hh.mono GG.yQ,N'.mono GG.yQ,C.F,C.Dw,C.Hd,GG.held _ _ ((ž C.Dw).trans C.Dg),(C.a.mono (fT C.T.gw)).mono GG.k⟩
 ·induction r using š with
  |none=>exact sT.elim
  |some z=>exact sT
theorem MH(h0:(Ð v&&small acc)=true)(h1:uh prog w Z d (pP tg) v S Å)(h2:jT prog w Z d true ifs Å Í false)(h5:mC prog w Z d elt tg ifs l acc Í S' out):mC prog w Z d elt tg ifs (v::l) acc S S' out:=by
 intro cx x t us env A Ħ g s I wr D ws n sc iter pos hx hy C RR hq;exact tE (oa h0).1 h1 h2 hy C fun ó ĝ k æ=>h5 _ _ _ _ _ _ _ _ _ _ _ _ _ _ _ _ _ hx hy æ RR (hq.mono k)
theorem Ct(h2:small acc=true){x t:Expr}(C:zr prog w Z d cx A env Ħ g s S t tg wr I D l acc ws n){y:Value}{x:V}(hy:Rep Z.toSta g.k x y){Q:Value→Shared→Prop}{E:Value→Shared→Prop}
  (hq:∀g' s' n' z,Kx g g'→zr prog w Z d cx A env Ħ g' s' S t tg wr I D l (x::acc) (ws++[y]) n'→Q z s'):õ prog w A (call (.builtin "list.append") [.ref D,y]) Q E s:=by
 have hO:=C.ok.base.held _ _ C.Dg;have hF:g6 g [D]:=fun b m=>by rw[Ė.mp m,C.Dg];rfl
 refine wpAny_list_append_plain (items:=ws.toArray) ⟨n,hO⟩ (fun yN xc NL=>?_) ?_
 ·obtain⟨AP,xc⟩:=xc;rw[List.push_toArray]at xc;have BM:=fT (g:=g) (h:=yN) hF;have yQ:t_ wr g (g.hold [D] yN):=⟨BM,fun a m o q=>(ž fun p:a∈[D]=>C.Dw (Ė.mp p▸m)).trans q⟩;refine hq (g.hold [D] yN) _ AP _ (kC hF) ⟨C.tg,C.ok.hold hF (h':=yN) (fun b o nb e=>(NL.2 b fun q=>nb (Ė.mpr q)).trans e) s.toks,aL C.G hF fun b m=>Ė.mp m▸C.Hd,C.T.mono yQ,C.N.mono yQ,C.F,C.Dw,C.Hd,(de (Ė.mpr rfl)).trans (congrArg aX xc),?_⟩;rw[ar];exact Ý.app (C.a.mono BM) ⟨y,[],rfl,hy.mono BM,rfl⟩
 ·have e:=C.a.len;have h3:=Ĥ h2;rw[ot]at e;show ws.toArray.size≤2^24;rw[ź];omega
theorem MF(h0:(Ð v&&small acc)=true)(h1:uh prog w Z d (pP tg) v S Å)(h2:jT prog w Z d true ifs Å Í true)(h3:ű prog w Z d elt Í ⟨H,ρ,κ⟩ x)(h4:Ô H x=some (H₁,x'))(h5:mC prog w Z d elt tg ifs l (x'::acc) ⟨H₁,ρ,κ⟩ S' out):mC prog w Z d elt tg ifs (v::l) acc S S' out:=by
 intro cx z t us env A Ħ g s I wr D ws n sc iter pos hx hy C RR hq;refine tE (oa h0).1 h1 h2 hy C fun ó ĝ k æ=>?_;unfold kK;rw[if_pos rfl];intro E;refine h3 _ _ _ _ _ _ _ _ hx æ.ok fun İ Me y Ń Ĺ bI E=>Ĺ.base.bF h4 bI fun BZ eO nq vQ=>?_;have G:=Ń.trans eO.toGst;have DS:zr prog w Z d cx A env Ħ BZ Me ⟨H₁,ρ,κ⟩ t tg wr I D l acc ws n:=⟨C.tg,Ĺ.next eO (.refl _) nq,æ.G.trans G,æ.T.mono G.yQ,æ.N.mono G.yQ,C.F,C.Dw,C.Hd,G.held _ _ æ.Dg,æ.a.mono G.k⟩;exact Ct (oa h0).2 DS vQ (x:=z) fun qy EE AP À Kk zp=>h5 _ _ _ _ _ _ _ _ _ _ _ _ _ _ _ _ _ hx hy zp RR (hq.mono (k.trans (G.kx.trans Kk)))
end
section
variable{g Ħ Û ó g' gE:Gh}{s s' sE:Shared}{st ĉ:St}{H H' HE:List Cell}
noncomputable def bH(env:Env):List (Õ×NameKind)→List (Õ×Addr)→List (Õ×Addr)
 |[],acc=>acc
 |(n,k)::r,acc=>bH env r (if k=.free then(n,(env.cells.lookup n).getD 0)::acc else acc)
theorem tF{env:Env}:∀(l:List (Õ×NameKind)) (acc:List (Õ×Addr)),(∀p∈l,p.2=.free→∃c,env.cells.lookup p.1=some c)→
  (forIn (m:=Sem) l acc fun x r=>match x with|(name,kind)=>if(kind==.free)=true then do let a ←cellOf env name;pure (ForInStep.yield ((name,a)::r))else pure (ForInStep.yield r))=pure (bH env l acc)
 |[],acc,_=>rfl
 |(n,k)::r,acc,h=>by
  rw[List.forIn_cons];have ih:=fun acc=>tF r acc fun p hp=>h p (ũ _ hp)
  by_cases hk:k=.free
  ·obtain⟨c,hc⟩:=h (n,k) Ů hk;have e:cellOf env n=pure c:=by unfold cellOf;rw[hc]
   have hb:(k==NameKind.free)=true:=by rw[hk];rfl
   simp only[hb,if_true,e,pure_bind];rw[ih];have e2:bH env ((n,k)::r) acc=bH env r ((n,c)::acc):=by
    rw[bH,if_pos hk,hc];rfl
   rw[e2]
  ·have hb:(k==NameKind.free)=false:=by simpa using hk
   simp only[hb,Bg,if_false,pure_bind];rw[ih];have e2:bH env ((n,k)::r) acc=bH env r acc:=by
    rw[bH,if_neg hk]
   rw[e2]
theorem GN{env:Env}{x:Õ}{c:Addr}(hc:env.cells.lookup x=some c)(l:List (Õ×NameKind))(acc:List (Õ×Addr))(h:(acc.lookup x=some c∨(x,NameKind.free)∈l∧∀b,acc.lookup x=some b→b=c)):(bH env l acc).lookup x=some c:=by
 induction l generalizing acc with
 |nil=>
  rcases h with h|⟨h,_⟩
  ·exact h
  ·cases h
 |cons fu r IH=>
  obtain⟨n,k⟩:=fu;unfold bH;refine IH _ ?_
  by_cases hk:k=.free
  ·rw[if_pos hk]
   by_cases hn:x=n
   ·subst hn;refine .inl ?_;rw[oH,hc];simp
   ·have hb:(x==n)=false:=by simpa using hn
    have e:List.lookup x ((n,(env.cells.lookup n).getD 0)::acc)=acc.lookup x:=by rw[oH,hb]
    rw[e];refine h.imp id fun ⟨h1,h2⟩=>⟨?_,h2⟩
    rcases ĸ.mp h1 with q|q
    ·cases q;exact absurd rfl hn
    ·exact q
  ·rw[if_neg hk];refine h.imp id fun ⟨h1,h2⟩=>⟨?_,h2⟩
   rcases ĸ.mp h1 with q|q
   ·cases q;exact absurd rfl hk
   ·exact q
structure Pc(cx:Cx)(sc:PySem.Scope):Prop where
 kind:sc.kind=.function
 cell:∀p∈sc.names,p.2≠.cell
 loc:∀p∈sc.names,p.2=.local→sc.names.lookup p.1=some .local
 free:∀p∈sc.names,p.2=.free→cx.sn.lookup p.1=some .cell∧(ė cx p.1).isSome=true
theorem ej{sc:PySem.Scope}(h:uG cx sc=true):Pc cx sc:=by
 (have h1:=aD h;have h2:=aC h)
 have h2:=kg.mp h2;refine⟨eq_of_beq h1,fun p hp hk=>?_,fun p hp hk=>?_,fun p hp hk=>?_⟩
 ·have:=(oa (oa (h2 p hp)).1).1;rw[hk]at this;exact à this
 ·have:=(oa (oa (h2 p hp)).1).2;rw[hk]at this;exact eq_of_beq this
 ·have:=(oa (h2 p hp)).2;rw[hk]at this
  (have a:=aD this;have b:=aC this)
  exact⟨eq_of_beq a,b⟩
theorem mem_of_lookup{α}{x:Õ}{k:α}:∀{l:List (Õ×α)},l.lookup x=some k→(x,k)∈l
 |(y,k')::r,h=>by
  rw[oH]at h
  induction e:x==y using ñ with
  |true=>rw[e]at h;(replace h:=ë h;subst h);rw[show x=y by simpa using e];exact Ů
  |false=>rw[e]at h;exact ũ _ (mem_of_lookup h)
theorem fC{env:Env}{x:Õ}(hk:env.scope.kind=.function):∀(l:List (Õ×NameKind)),(∀p∈l,p.2=.free→env.kindOf p.1=some .cell)→
  (l.map fun (n,k)=>if(k==NameKind.free&&env.scope.kind==.function&&env.kindOf n==some .cell)then(n,NameKind.cell)else(n,k)).lookup x=(l.lookup x).map fun k=>if k=.free then .cell else k
 |[],_=>rfl
 |(n,k)::r,h=>by
  have ih:=fC (x:=x) hk r fun p hp=>h p (ũ _ hp)
  rw[Ŏ]
  by_cases hf:k=.free
  ·have hc:=h (n,k) Ů hf;have e:(k==NameKind.free&&env.scope.kind==.function&&env.kindOf n==some .cell)=true:=by rw[hf,hk,hc];rfl
   simp only[e,if_true,oH]
   induction q:x==n using ñ with
   |true=>simp[hf]
   |false=>exact ih
  ·have e:(k==NameKind.free&&env.scope.kind==.function&&env.kindOf n==some .cell)=false:=by
    have:(k==NameKind.free)=false:=by simpa using hf
    rw[this];rfl
   simp only[e,Bg,if_false,oH]
   induction q:x==n using ñ with
   |true=>simp[hf]
   |false=>exact ih
theorem tD{sc:PySem.Scope}{env:Env}(ho:Pc cx sc)(he:aZ Z cx g env):∃cl,closureFor sc env=pure cl∧∀(L:Addr) (as:List Addr) (r:Addr→Role),
  aZ Z (mQ cx sc) ⟨r,as,L,g.cs⟩ {newEnv sc L env.globals cl env.qual none .none (some env) env.builtins with scope:=relabel sc env}:=by
 have kc:∀p∈sc.names,p.2=.free→env.kindOf p.1=some .cell:=fun p hp hk=>by rw[he.kinds,(ho.free p hp hk).1];rfl
 have cc:∀p∈sc.names,p.2=.free→T2 fun i c=>A3 (ė cx p.1=some (true,i)) (env.cells.lookup p.1=some c) (ç g.cs i=some c):=fun p hp hk=>by
  obtain⟨h1,h2⟩:=ho.free p hp hk;obtain⟨⟨b,i⟩,hv⟩:=Hw.mp h2
  induction b using ñ with
  |true=>obtain⟨c,q1,q2⟩:=he.Ó _ _ hv;exact⟨i,c,hv,q1,q2⟩
  |false=>obtain⟨_,z,_⟩:=dZ hv;rw[z]at h1;(injection h1 with h1;exact absurd h1 (by decide))
 have D6:=tF (env:=env) sc.names [] fun p hp hk=>let ⟨i,c,_,q,_⟩:=cc p hp hk;⟨c,q⟩
 have Ts:closureFor sc env=pure (bH env sc.names []):=by
  unfold closureFor;exact(bind_congr (fun À=>rfl)).trans ((congrArg (· >>=pure) D6).trans (pure_bind _ _))
 refine⟨bH env sc.names [],Ts,fun L as r=>⟨?_,rfl,he.xk,he.H6,fun x=>?_,fun x i hv=>?_,he.ŷ,he.zB,fun q=>(ho.cell _ (mem_of_lookup q) rfl).elim⟩⟩
 ·exact ho.kind
 ·exact fC he.kind sc.names kc
 ·obtain⟨h1,h2,h3⟩:=bp hv;have hf:sc.names.lookup x=some .free:=h2.resolve_left fun q=>ho.cell _ (mem_of_lookup q) rfl
  have hm:=mem_of_lookup hf;obtain⟨i',c,q1,q2,q3⟩:=cc _ hm rfl;have e:i'=i:=by
   obtain⟨_,_,q4⟩:=bp q1;have:idx x cx.Ó 0=some i:=h3;exact ë (q4.symm.trans this)
  subst e;exact⟨c,GN q2 sc.names [] (.inr ⟨hm,by simp⟩),q3⟩
theorem Fe{i n:Nat}{v:V}(h:ç (ĥ n (none:Option V)) i=some (some v)):False:=by
 cases(List.mem_replicate.mp (aH h)).2
theorem EG{sc:PySem.Scope}{h:Heap}{L:Addr}{m:Õ→Option Value}(hi:Inv Z cx g s st)(hL:s.heap.objs.size≤L)(kp:∀b o,s.heap.get? b=some o→h.get? b=some o)(hm:h.Ns L m)(n t:Nat):
  Inv Z (mQ cx sc) (g.sub s.heap L) {s with heap:=h,toks:=t} {st with ρ:=ĥ n none}:=by
 have hx:Kx g (g.sub s.heap L):=.same (pV (wr:=[]) hi.base hL).k rfl;obtain⟨o,es,ep,ho,r⟩:=hm;refine⟨hi.base.QC hL kp ⟨o,ho⟩ t,nG,⟨m,⟨o,es,ep,ho,r⟩,fun x i v À q=>(Fe q).elim⟩,fun i ov q=>?_⟩;obtain⟨c,y,q1,q2,⟨oc,hc,hd⟩,q4⟩:=hi.gK.vars i ov q;refine⟨c,y,q1,Ņ (hi.base.qb hL q2 rfl) q2 rfl,⟨oc,kp _ _ hc,hd⟩,fun v hv=>?_⟩;obtain⟨x,y1,y2⟩:=q4 v hv;exact⟨x,y1,y2.kx hx⟩
theorem kF{r:Role}{o:Obj}(h:r=.held o):((∀o,r≠.Ô o)∧r≠.tab)∧∀i,r≠.cell i∧r≠.cV i:=by
 rw[h];simp
abbrev Gh.Ó(g:Gh)(D:Addr)(n:Nat):Gh:=(g.set D (.cell n)).snoc D
theorem qx{D:Addr}{o:Obj}(hD:g.r D=.held o){a:Addr}{x:Role}(e:g.r a=x)(n:x≠.held o):a≠D:=fun p=>n (e.symm.trans (p▸hD))
theorem vF{D:Addr}{o:Obj}{n:Nat}(hD:g.r D=.held o):Kx g (g.Ó D n):=⟨fun a o e=>by
  have e:=Gh.aO e;exact Gh.Ś ((g.ù _ (qx hD e (by simp))).trans e),[D],rfl⟩
theorem Base.l_(B:Base Z g s H){D:Addr}{vs:List Value}{n:Nat}{l:List V}(hD:g.r D=.held (tQ vs n))(hr:Ý Z.toSta g.k l vs):Base Z (g.Ó D H.length) s (H++[.lst l]):=by
 have hO:=B.held _ _ hD;have q:(g.Ó D H.length).r D=.cell H.length:=g.ÿ _ _;refine B.gen (g':=g.Ó D H.length) (h':=s.heap) (t:=s.toks) (H':=H++[.lst l]) (· =D) (fun b e=>(kF (e▸hD)).1) (fun À À À e=>e) (fun b nd=>g.ù _ nd) (fun a ha=>?_) ?_ (fun À À e=>ag e) fun i c' e=>?_
 ·rw[show a=D from ha];exact hU (.inl q) hO
 ·show(g.as++[D]).length=_;rw[Ċ,Ċ,B.len];rfl
 ·rcases fH e with e|⟨rfl,rfl⟩
  ·exact .inl ⟨e,fun b e=>(kF (e▸hD)).2 i⟩
  ·exact .inr ⟨D,B.len▸eB _ _,q,_,vs,hO,⟨n,rfl⟩,hr.mono (vF hD).k⟩
theorem Inv.H4(hi:Inv Z cx g s st){D:Addr}{o:Obj}{c:Cell}(hD:g.r D=.held o)(B:Base Z (g.Ó D st.H.length) s (st.H++[c]))(G:Gst Ħ g)(hn:Nil Ħ D):
  A3 (Gst Ħ (g.Ó D st.H.length)) (Inv Z cx (g.Ó D st.H.length) s {st with H:=st.H++[c]}) (Ć Z (g.Ó D st.H.length) (.Ó st.H.length) (.ref D)):=by
 have hx:=vF (n:=st.H.length) hD;refine⟨⟨fun a o e=>hx.k a o (G.k a o e),fun a o e=>?_,fun a o e=>?_,?_,G.L,G.cs,fun a e=>?_⟩,⟨B,?_,?_,fun i ov q=>?_⟩,D,hi.base.len▸eB _ _,rfl⟩
 ·exact(g.ù _ fun p:a=D=>hn.kept o (p▸e)).trans (G.kept a o e)
 ·exact(g.ù _ fun p:a=D=>hn.held o (p▸e)).trans (G.held a o e)
 ·obtain⟨l',HG⟩:=G.as;exact⟨l'++[D],(congrArg (· ++[D]) HG).trans (Ĝ ..)⟩
 ·exact(g.ù _ fun p:a=D=>hn.loc (p▸e)).trans (G.loc a e)
 ·exact(g.ù _ (qx hD hi.gK.loc (by simp))).trans hi.gK.loc
 ·obtain⟨m,h1,h2⟩:=hi.gK.locs;exact⟨m,h1,fun x i v q1 q2=>let ⟨y,q3,q4⟩:=h2 x i v q1 q2;⟨y,q3,q4.kx hx⟩⟩
 ·obtain⟨c,y,q1,q2,q3,q4⟩:=hi.gK.vars i ov q;exact⟨c,y,q1,(g.ù _ (qx hD q2 (by simp))).trans q2,q3,fun v hv=>let ⟨x,y1,y2⟩:=q4 v hv;⟨x,y1,y2.kx hx⟩⟩
theorem Inv.l_(hi:Inv Z cx g s st){D:Addr}{vs:List Value}{n:Nat}{l:List V}(hD:g.r D=.held (tQ vs n))(hr:Ý Z.toSta g.k l vs)(G:Gst Ħ g)(hn:Nil Ħ D):
  A3 (Gst Ħ (g.Ó D st.H.length)) (Inv Z cx (g.Ó D st.H.length) s {st with H:=st.H++[.lst l]}) (Ć Z (g.Ó D st.H.length) (.Ó st.H.length) (.ref D)):=hi.H4 hD (hi.base.l_ hD hr) G hn
end
section
variable{g Ħ Û ó İ g' gE:Gh}{s s' sE ļ:Shared}{S Å st:St}{H H₁ Ö:List Cell}{ρ κ Ŗ ĺ:List (Option V)}{d n:Nat}{wr:List Addr}{I D:Addr}{elt it e:PE}{ifs:List PE}{l vs:List V}{v v':V}{tg:List Nat}{tt:Tg}{Q:Value→Shared→Prop}{E:Value→Shared→Prop}
structure Qe(cx:Cx)(X:Expr)(elt:PE)(tg:List Nat)(it:PE)(ifs:List PE)(n:Nat)(y t z:Expr)(us:List Expr)(sc:PySem.Scope)(p:Pos):Prop where
 e:X=.ListComp y [⟨t,z,us,0⟩] sc p
 ho:uG cx sc=true
 hs:isSet z=false
 HH:jl t (xn cx z)=true
 ZN:cW (mQ cx sc) t=some tg
 e1:er (mQ cx sc) y=elt
 e2:xn cx z=it
 e3:fh (mQ cx sc) us=ifs
 hn:n=(aJ sc.names).length
theorem Cw{X:Expr}(hx:er cx X=.co elt tg it ifs n):T6 fun y t z us sc p=>Qe cx X elt tg it ifs n y t z us sc p:=by
 obtain⟨y,t,z,us,sc,p,a,b,c,d,e,f,g,h,i⟩:=iv hx;exact⟨y,t,z,us,sc,p,a,b,c,d,e,f,g,h,i⟩
noncomputable abbrev H2(sc:PySem.Scope)(env:Env)(cl:List (Õ×Addr))(L:Addr):Env:={newEnv sc L env.globals cl env.qual none .none (some env) env.builtins with scope:=relabel sc env}
structure Pz(Z:ę)(cx:Cx)(g:Gh)(sc:PySem.Scope)(env:Env)(cl:List (Õ×Addr)):Prop where
 c:closureFor sc env=pure cl
 e:∀(L:Addr) (as:List Addr) (r:Addr→Role),aZ Z (mQ cx sc) ⟨r,as,L,g.cs⟩ (H2 sc env cl L)
def VF(Z:ę)(d:Nat)(cx:Cx)(A:Around)(env:Env)(g:Gh)(ĉ:St)(m:Nat)(RR:Value→Addr→Result→Shared→Prop):Prop:=
 ∀g' s' D C,Gst g g'→Ok Z d cx A env g' s' ĉ→Ć Z g' (.Ó m) (.ref D)→iK g' [C]→(∃m,s'.heap.Ns C m)→Nil g C→RR (.ref D) C (.ok .next) s'
theorem comp_back{HY:Cx}{Ua:Env}{L:Addr}{ws:List Value}{AP:Nat}{RR:Value→Addr→Result→Shared→Prop}(C:Ok Z (d+1) cx A env g s st)(Ñ:Gst g Û)(tY:Û.r Û.L=.loc)(ú:Gst Û İ)(Ĺ:Inv Z cx İ ļ ⟨H₁,ρ,κ⟩)(hL:ļ.heap.objs.size≤L)(nL:Nil Û L)(nD:Nil Û D)(Oa:D≠L)
  (GE:Gst (Û.sub ļ.heap L) gE)(KE:Kx (İ.sub ļ.heap L) gE)(IE:Ok Z d HY A Ua gE sE ⟨Ö,Ŗ,ĺ⟩)(rE:gE.r D=.held (tQ ws AP))(aE:Ý Z.toSta gE.k vs ws)(hq:VF Z (d+1) cx A env g ⟨Ö++[.lst vs],ρ,ĺ⟩ Ö.length RR):RR (.ref D) L (.ok .next) sE:=by
 obtain⟨g8,LC,LF⟩:=Ĺ.nA ú IE.i GE nL ((Kx.same (pV (wr:=[]) Ĺ.base hL).k rfl).trans KE) tY;have MV:(Û.nA gE sE.heap).r D=.held (tQ ws AP):=pK rE rfl (fun q=>(nD.loc q).elim) rfl;obtain⟨Pw,Vv,Vk⟩:=LF.l_ MV (aE.mono LC.k) g8 nD;obtain⟨m,hm,_⟩:=IE.i.gK.locs;rw[GE.L]at hm;obtain⟨oL,esL,epL,PX,rL⟩:=hm;have MU:(Û.nA gE sE.heap).r L=.held oL:=El (GE.loc _ nG) (fun q=>(nL.loc q).elim) PX;exact hq _ _ _ _ (Ñ.trans Pw) (C.to (Ñ.trans Pw) Vv) Vk (fun b mb=>⟨oL,Ė.mp mb▸(Gh.ù _ _ (Ne.symm Oa)).trans MU⟩) ⟨m,oL,esL,epL,PX,rL⟩ (nL.back Ñ)
theorem GH{y t z:Expr}{us:List Expr}{sc:PySem.Scope}{pos:Pos}{cl:List (Õ×Addr)}{RR:Value→Addr→Result→Shared→Prop}(h4:mC prog w Z d elt tg ifs l [] ⟨H₁,ĥ n none,κ⟩ ⟨Ö,Ŗ,ĺ⟩ vs){X:Expr}(hX:Qe cx X elt tg it ifs n y t z us sc pos)(Ul:Pz Z cx g sc env cl)
  (C:Ok Z (d+1) cx A env g s st)(Ñ:Gst g Û)(tY:Û.r Û.L=.loc)(ú:Gst Û ó)(æ:Ok Z (d+1) cx A env ó ļ ⟨H₁,ρ,κ⟩)(S:Src prog w Z t l I wr ó)(F:∀b∈wr,Nil Û b)(hq:VF Z (d+1) cx A env g ⟨Ö++[.lst vs],ρ,ĺ⟩ Ö.length RR):
  õ prog w A (newList []) (fun acc aN=>õ prog w A (newFunctionEnv sc env.globals cl [] env.qual none .none (some env)) (fun tG fy=>
    codeAny (model prog w) A (.compStart (.ListComp y [⟨t,z,us,0⟩] sc pos) 0 (.ref I) acc {tG with scope:=relabel sc env}) (RR acc tG.locals) fy) E aN) E ļ:=by
 have ho:=ej hX.ho;refine wpAny_newObj_type ?_;generalize hD:ļ.heap.objs.size=D;have TB:ó.r D=.free:=æ.base.fresh _ (hD▸Ĭ _);have O:g6 ó [D]:=fun b m=>by rw[Ė.mp m,TB];rfl
 have FD:∀b∈[D],Nil ó b:=fun b m=>Ė.mp m▸.free TB
 generalize BP:ļ.heap.push {cls:=.type "list",dict:=none,data:=.seq ([]:List Value).toArray}=Ň;have N_:Ň.get? D=some (tQ [] 0):=by rw[←BP,←hD];exact fO _ rfl
 have Nm:∀b o,ļ.heap.get? b=some o→Ň.get? b=some o:=fun b o e=>by rw[←BP];exact ŏ _ e
 have BI:Ň.objs.size=D+1:=by rw[←BP,Heap.size_push,hD]
 have Ĺ:=æ.hold O (h':=Ň) (fun b o À e=>Nm b o e) ļ.toks;have Ń:=aL (h:=Ň) (Gst.refl ó) O FD;have Hl:(ó.hold [D] Ň).r D=.held (tQ [] 0):=(de (Ė.mpr rfl)).trans (congrArg aX N_);generalize Wn:ó.hold [D] Ň=İ at Ĺ Ń Hl;refine wpAny_newFunctionEnv ho.cell (fun y hy=>absurd hy qn) (fun l6 xe xb=>?_) ho.kind;dsimp only at xe xb ⊢;have Nl:∀b o,Ň.get? b=some o→l6.get? b=some o:=fun b o e=>(xb.2 b (eW (eY e))).trans (ŏ _ e)
 have hL:Ň.objs.size≤Ň.objs.size:=Ĭ _;have Po:=EG (sc:=sc) Ĺ.i (h:=l6) (L:=Ň.objs.size) hL Nl xe (aJ sc.names).length (ļ.toks+0);have JB:=Ĺ.r.down.sub Ĺ.i (L:=Ň.objs.size) hL;have nL:Nil Û Ň.objs.size:=((Nil.free (Ĺ.base.fresh _ hL)).back Ń).back ú;have ecs:İ.cs=g.cs:=(Ñ.trans (ú.trans Ń)).cs;have N1:=ecs▸Ul.e Ň.objs.size İ.as (İ.sub Ň Ň.objs.size).r;have gs:Gst (Û.sub Ň Ň.objs.size) (İ.sub Ň Ň.objs.size):=EH (ú.trans Ń) nL;have eO:=S.mono (Ń.yQ.trans (pV (h:=Ň) Ĺ.base hL));have L8:∀b∈wr,b<D:=fun b m=>by
  obtain⟨o,q⟩:=S.held b m;exact hD▸eY (æ.base.held b o q)
 have Oa:D≠Ň.objs.size:=BI▸eW (Nat.lt_succ_self _);have nD:=(Nil.free TB).back ú;have loop:codeAny (model prog w) A (.compLoop (.ListComp y [⟨t,z,us,0⟩] sc pos) 0 (.ref I) (.ref D) (H2 sc env cl Ň.objs.size)) (RR (.ref D) Ň.objs.size) {ļ with heap:=l6,toks:=ļ.toks+0}:=by
  refine h4 _ _ _ _ _ _ (Û.sub Ň Ň.objs.size) (İ.sub Ň Ň.objs.size) _ _ _ _ [] 0 _ _ _ hX.e1 hX.e3 ⟨hX.ZN,⟨JB,N1,hX.hn▸Po,C.f⟩,gs,eO.held,eO.nx A C.r.hd,fun b m=>wb (BI▸eW (Nat.lt_succ_of_lt (L8 b m))) (F b m),fun m=>sH _ (L8 _ m),wb Oa nD,Ņ Oa Hl rfl,rfl⟩ _ ?_;intro gE sE ws n' GE KE CE rE aE;exact comp_back C Ñ tY (ú.trans Ń) Ĺ.i hL nL nD Oa GE KE CE rE aE hq
 exact codeAny_compStart_list loop (eO.self A _ _ _ _ _ (.refl _ _) Po.base loop)
theorem tC{y t z:Expr}{us:List Expr}{sc:PySem.Scope}{pos:Pos}{cl:List (Õ×Addr)}{RR:Value→Addr→Result→Shared→Prop}(h1:m_ prog w Z (d+1) it S ⟨H,ρ,κ⟩ v)(h2:Ô H v=some (H₁,v'))(h3:items v'=some l)(h4:mC prog w Z d elt tg ifs l [] ⟨H₁,ĥ n none,κ⟩ ⟨Ö,Ŗ,ĺ⟩ vs)
  {X:Expr}(hX:Qe cx X elt tg it ifs n y t z us sc pos)(Ul:Pz Z cx g sc env cl)(C:Ok Z (d+1) cx A env g s S)(hq:VF Z (d+1) cx A env g ⟨Ö++[.lst vs],ρ,ĺ⟩ Ö.length RR):
  õ prog w A (eval z env) (fun x Ĉ=>õ prog w A (pyIter x) (fun it ĝ=>õ prog w A (newList []) (fun acc aN=>õ prog w A (newFunctionEnv sc env.globals cl [] env.qual none .none (some env)) (fun tG fy=>
    codeAny (model prog w) A (.compStart (.ListComp y [⟨t,z,us,0⟩] sc pos) 0 it acc {tG with scope:=relabel sc env}) (RR acc tG.locals) fy) E aN) E ĝ) E Ĉ) E s:=by
 refine wpAny_mono (h1 _ _ _ h2 h3 _ _ _ _ _ _ _ (fun it ĝ=>õ prog w A (newList []) (fun acc aN=>õ prog w A (newFunctionEnv sc env.globals cl [] env.qual none .none (some env)) (fun tG fy=>
    codeAny (model prog w) A (.compStart (.ListComp y [⟨t,z,us,0⟩] sc pos) 0 it acc {tG with scope:=relabel sc env}) (RR acc tG.locals) fy) E aN) E ĝ) E hX.e2 (hX.e2▸hX.HH) C ?_) (fun x Ĉ h'=>h' E) fun À À e=>e
 intro Û ó ļ I wr Ñ tY ú æ S F;exact GH h4 hX Ul C Ñ tY ú æ S F hq
theorem ru{iter:Expr}(h:isSet iter=false)(x:Value):foldedSetIterable iter env x=pure x:=by
 induction iter using PySem.Expr.casesOn<;>first|rfl|exact Ĕ h
theorem Ok.Ht(C:Ok Z d cx A env g s st){c:Addr}{h':Heap}(hC:iK g [c])(hs:Heap.SameBut c s.heap h')(G:Gst Ħ g)(n:Nil Ħ c){G':Prop}(hq:∀g',Gst Ħ g'→Kx g g'→Ok Z d cx A env g' {s with heap:=h'} st→G'):G':=
 hq (g.hold [c] h') (aL G hC.gw (fun b m=>Ė.mp m▸n)) (kC hC.gw) (C.hold hC.gw (fun b o nb e=>(hs.2 b fun q=>nb (Ė.mpr q)).trans e) s.toks)
structure Vm(prog:Program)(w:World)(Z:ę)(d:Nat)(e:PE)(S S':St)(v:V):Prop where
 s:ű prog w Z d e S S' v
 c:∀elt tg it ifs n,e=.co elt tg it ifs n→∃d' H ρ κ iM v' H₁ l Ö Ŗ ĺ vs,A6 (d=d'+1) (m_ prog w Z (d'+1) it S ⟨H,ρ,κ⟩ iM) (Ô H iM=some (H₁,v')) (items v'=some l) (mC prog w Z d' elt tg ifs l [] ⟨H₁,ĥ n none,κ⟩ ⟨Ö,Ŗ,ĺ⟩ vs) (S'=⟨Ö++[.lst vs],ρ,ĺ⟩∧v=.Ó Ö.length)
theorem Q6(h1:m_ prog w Z (d+1) it S ⟨H,ρ,κ⟩ v)(h2:Ô H v=some (H₁,v'))(h3:items v'=some l)(h4:mC prog w Z d elt tg ifs l [] ⟨H₁,ĥ n none,κ⟩ ⟨Ö,Ŗ,ĺ⟩ vs):Vm prog w Z (d+1) (.co elt tg it ifs n) S ⟨Ö++[.lst vs],ρ,ĺ⟩ (.Ó Ö.length):=by
 refine⟨fun cx x env A g s Q E hx C hq=>?_,fun À À À À À e=>by cases e;exact⟨d,H,ρ,κ,v,v',H₁,l,Ö,Ŗ,ĺ,vs,rfl,h1,h2,h3,h4,rfl,rfl⟩⟩;obtain⟨y,t,z,us,sc,p,hX⟩:=Cw hx;obtain⟨cl,BU,D6⟩:=tD (ej hX.ho) C.e;rw[hX.e,eval_ListComp];refine wpAny_comprehension_free (use:=none) rfl (ru hX.hs) BU (ej hX.ho).kind (ej hX.ho).loc ?_;refine tC h1 h2 h3 h4 hX ⟨BU,D6⟩ C fun g' s' D c G C' V hh hm hn=>?_;obtain⟨m,hm⟩:=hm;exact⟨m,hm,fun h' hs=>C'.Ht hh hs G hn fun ó ú DM æ=>hq _ _ _ ú æ (V.kx DM)⟩
theorem uw{elt:Expr}{gens:List Comprehension}{sc:PySem.Scope}{pos:Pos}{t:Expr}{n:Nat}:∃b,swapsWith (.ListComp elt gens sc pos) (some t) n env=pure b∧(b=true→T2 fun x p=>t=.Name x p):=by
 induction t using PySem.Expr.casesOn with
 |Name x p=>exact⟨_,rfl,fun À=>⟨x,p,rfl⟩⟩
 |_=>exact⟨false,rfl,fun h=>à h⟩
theorem vD{y t z:Expr}{us:List Expr}{sc:PySem.Scope}{pos p px:Pos}{x:Õ}{X:Expr}{Í:St}{Q:Flow→Shared→Prop}(LU:swapsWith (.ListComp y [⟨t,z,us,0⟩] sc pos) (some (.Name x px)) p.line env=pure true)(h1:m_ prog w Z (d+1) it S ⟨H,ρ,κ⟩ v)(h2:Ô H v=some (H₁,v'))(h3:items v'=some l)(h4:mC prog w Z d elt tg ifs l [] ⟨H₁,ĥ n none,κ⟩ ⟨Ö,Ŗ,ĺ⟩ vs)
  (hX:Qe cx X elt tg it ifs n y t z us sc pos)(h5:uh prog w Z (d+1) tt (.Ó Ö.length) ⟨Ö++[.lst vs],ρ,ĺ⟩ Í)(ht:fi cx (.Name x px)=tt)(C:Ok Z (d+1) cx A env g s S)(hq:vU Z (d+1) cx A env g Í .next Q E):õ prog w A (exec (.Assign [.Name x px] (.ListComp y [⟨t,z,us,0⟩] sc pos) p) env) Q E s:=by
 obtain⟨cl,BU,D6⟩:=tD (ej hX.ho) C.e;rw[exec_Assign_Name_used _ _ _ _ LU];refine wpAny_bind (wpAny_standAt (wpAny_bind ?_));show wpAny _ A (do let _ ←comprehension (.ListComp y [⟨t,z,us,0⟩] sc pos) sc env _ (newList []) false (eval z env) (some (assign (.Name x px) env))) _ _ s;refine wpAny_bind (wpAny_mono (wpAny_comprehension_free (use:=some (assign (.Name x px) env)) (Q:=fun À s'=>Q .next s') rfl (ru hX.hs) BU (ej hX.ho).kind (ej hX.ho).loc ?_) (fun À s' hq=>wpAny_pure (wpAny_pure hq)) fun À À e=>e);refine tC h1 h2 h3 h4 hX ⟨BU,D6⟩ C fun g' s' D c G C' V hh hm hn=>?_;refine h5.s _ _ _ _ _ _ _ _ _ ht C' V fun ó ļ ú æ=>?_;obtain⟨m,o,es,ep,sX,r⟩:=hm;obtain⟨oC,qC⟩:=hh c (.head _);have RK:=ë (sX.symm.trans (C'.base.held _ _ qC));have RJ:=æ.base.held _ _ (ú.held _ _ qC);exact⟨m,⟨o,es,ep,RK▸RJ,r⟩,fun h' hs=>æ.Ht (hh.mono ú.yQ) hs (G.trans ú) hn fun İ Ń tZ Ĺ=>hq.q _ _ _ Ń Ĺ rfl⟩
theorem CO(h1:ű prog w Z d e S Å v)(h2:uh prog w Z d tt v Å st){y z:Expr}{p:Pos}{Q:Flow→Shared→Prop}(LU:swapsWith z (some y) p.line env=pure false)(cM:isStar y=false)(LR:isTup y=false∨isTup z=false)(e1:fi cx y=tt)(e2:er cx z=e)(C:Ok Z d cx A env g s S)(hq:vU Z d cx A env g st .next Q E):
  õ prog w A (exec (.Assign [y] z p) env) Q E s:=
 eR LU (eg LR) cM (h1 _ _ _ _ _ _ _ _ e2 C fun Û ò Ŷ Ñ Ï ô=>h2.s _ _ _ _ _ _ _ _ _ e1 Ï ô fun ó ļ ú æ=>hq.q _ _ _ (Ñ.trans ú) æ rfl)
theorem yK{z:Expr}(h:jf z=true):(T4 fun y gs sc p=>z=.ListComp y gs sc p)∨er cx z=.no:=by
 induction z using PySem.Expr.casesOn with
 |ListComp y gs sc p=>exact .inl ⟨y,gs,sc,p,rfl⟩
 |SetComp=>exact .inr rfl
 |DictComp=>exact .inr rfl
 |_=>exact à h
theorem T_{y:Expr}{gs:List Comprehension}{sc:PySem.Scope}{p:Pos}:er cx (.ListComp y gs sc p)=.no∨T5 fun elt tg it ifs n=>er cx (.ListComp y gs sc p)=.co elt tg it ifs n:=by
 show ct (uG cx sc) (P_ _ _ (LX cx (mQ cx sc) gs))=_∨T5 fun elt tg it ifs n=>ct (uG cx sc) (P_ _ _ (LX cx (mQ cx sc) gs))=_
 induction uG cx sc using ñ with
 |false=>exact .inl rfl
 |true=>
  induction LX cx (mQ cx sc) gs using š with
  |none=>exact .inl rfl
  |some q=>exact .inr ⟨_,_,_,_,_,rfl⟩
theorem Jm(hn:e≠.no)(h1:Vm prog w Z d e S Å v)(h2:uh prog w Z d tt v Å st):vN prog w Z d (.as tt e) S st .next:=by
 intro cx x env A g s Q E hx C hq;obtain⟨y,z,p,rfl,cM,LR,e1,e2⟩:=sv hx
 induction hc:jf z using ñ with
 |false=>exact CO h1.s h2 (a_ hc) cM LR e1 e2 C hq
 |true=>
  rcases yK (cx:=cx) hc with⟨y',gs,sc,p',rfl⟩|h
  ·obtain⟨b,LU,e_⟩:=uw (elt:=y') (gens:=gs) (sc:=sc) (pos:=p') (t:=y) (n:=p.line) (env:=env)
   induction b using ñ with
   |false=>exact CO h1.s h2 LU cM LR e1 e2 C hq
   |true=>
    obtain⟨x,px,rfl⟩:=e_ rfl;rcases T_ (cx:=cx) (y:=y') (gs:=gs) (sc:=sc) (p:=p')with h|⟨elt,tg,it,ifs,n,h⟩
    ·exact absurd (e2.symm.trans h) hn
    ·obtain⟨d',H,ρ,κ,iM,v',H₁,l,Ö,Ŗ,ĺ,vs,rfl,a1,a2,a3,a4,rfl,rfl⟩:=h1.c _ _ _ _ _ (e2.symm.trans h);obtain⟨L5,t,z,us,VR,E4,hX⟩:=Cw h;cases hX.e;exact vD LU a1 a2 a3 a4 hX h2 e1 C hq
  ·exact absurd (e2.symm.trans h) hn
end
section
variable{S Å Í st:St}{es:List PE}{vs:List V}{q:List (Bool×Nat)}
theorem AE{α}{x y:α}:∀{l:List α} {i j:Nat},i≠j→put (put l i x) j y=put (put l j y) i x:=fun {l}=>by
 induction l with
 |nil=>exact fun {i j} _=>by induction i using mK<;>induction j using mK<;>rfl
 |cons a r ih=>
  intro i j h
  induction i using mK with
  |zero=>induction j using mK with
   |zero=>exact absurd rfl h
   |succ j=>rfl
  |succ i=>induction j using mK with
   |zero=>rfl
   |succ j=>exact congrArg (a:: ·) (ih fun e=>h (congrArg (· +1) e))
theorem lD{α}{x:α}:∀{l:List α} {i j:Nat},i≠j→ç (put l i x) j=ç l j:=fun {l}=>by
 induction l with
 |nil=>exact fun {i j} _=>by induction i using mK<;>rfl
 |cons a r ih=>
  intro i j h
  induction i using mK with
  |zero=>induction j using mK with
   |zero=>exact absurd rfl h
   |succ j=>rfl
  |succ i=>induction j using mK with
   |zero=>rfl
   |succ j=>exact ih fun e=>h (congrArg (· +1) e)
theorem wB{l:List (Option V)}{i j:Nat}{v u:V}{a b:Option V}{f:List (Option V)→St}(h1:ç l i=some a)(h2:ç (put l i (some v)) j=some b)(n:i≠j):
  ((ç l j).map fun À=>f (put l j (some u)))=some (f (put l j (some u)))∧((ç (put l j (some u)) i).map fun À=>f (put (put l j (some u)) i (some v)))=some (f (put (put l i (some v)) j (some u))):=by
 rw[lD n]at h2;rw[h2,lD (Ne.symm n),h1,AE n];exact⟨rfl,rfl⟩
theorem ry{k₁ k₂:Bool}{Bn qo:Nat}{iM mR:V}(h1:Š S k₁ Bn iM=some Å)(h2:Š Å k₂ qo mR=some Í)(n:k₁=k₂→Bn≠qo):∃t,Š S k₂ qo mR=some t∧Š t k₁ Bn iM=some Í:=by
 induction k₁ using ñ with
 |false=>
  (refine cK h1 fun a e1 zq=>?_;obtain rfl:=zq)
  induction k₂ using ñ with
  |false=>
   (refine cK h2 fun b e2 zq=>?_;obtain rfl:=zq)
   exact⟨_,wB (f:=fun ρ=>{S with ρ:=ρ}) e1 e2 (n rfl)⟩
  |true=>
   (refine cK h2 fun b e2 zq=>?_;obtain rfl:=zq)
   have e2:ç S.κ qo=some b:=e2;exact⟨{S with κ:=put S.κ qo (some mR)},congrArg (Option.map _) e2,congrArg (Option.map _) e1⟩
 |true=>
  (refine cK h1 fun a e1 zq=>?_;obtain rfl:=zq)
  induction k₂ using ñ with
  |false=>
   (refine cK h2 fun b e2 zq=>?_;obtain rfl:=zq)
   have e2:ç S.ρ qo=some b:=e2;exact⟨{S with ρ:=put S.ρ qo (some mR)},congrArg (Option.map _) e2,congrArg (Option.map _) e1⟩
  |true=>
   (refine cK h2 fun b e2 zq=>?_;obtain rfl:=zq)
   exact⟨_,wB (f:=fun κ=>{S with κ:=κ}) e1 e2 (n rfl)⟩
theorem fm2{α β:Type}{f:α→Option β}{a b:α}{x y:β}(ha:f a=some x∨f a=none)(hb:f b=some y∨f b=none):List.filterMap f [a,b]=[x,y]∨(List.filterMap f [a,b]).length≠2:=by
 rcases ha with ha|ha<;>rcases hb with hb|hb<;>simp[ha,hb]
theorem wH{e:Expr}:isStar e=false→(match e with|.Starred .. =>true|_=>false:Bool)=false:=by
 intro h
 induction e using PySem.Expr.casesOn<;>first|rfl|exact Ĕ h
theorem rk{x y:Õ}{px py tp vp:Pos}{kt kv:Nat}{a b:Expr}(hp:plain [a,b]=true)(h:(!([a,b].all (constantsAlone 8))||[a,b].all (foldedForSure 8))=true):
  swappedStores [.Tuple [.Name x px,.Name y py] kt tp] (.Tuple [a,b] kv vp) env=pure none∨swappedStores [.Tuple [.Name x px,.Name y py] kt tp] (.Tuple [a,b] kv vp) env=pure (some [x,y]):=by
 obtain⟨h1,h2⟩:=eA hp;have cM:([a,b].any fun|.Starred .. =>true|_=>false)=false:=by
  rw[ik,ik,wH h1,wH (eA h2).1];rfl
 unfold swappedStores;dsimp only
 split
 ·exact .inl rfl
 split
 ·rename_i c;exact absurd (c.symm.trans cM) (by simp)
 generalize xe:List.filterMap _ [Expr.Name x px,Expr.Name y py]=ns;have Te:ns=[x,y]∨ns.length≠2:=by
  rw[←xe];refine fm2 ?_ ?_
  ·show(if _ then some x else none)=some x∨(if _ then some x else none)=none
   split<;>simp
  ·show(if _ then some y else none)=some y∨(if _ then some y else none)=none
   split<;>simp
 split
 ·exact .inl rfl
 rename_i c2;have e2:ns=[x,y]:=Te.resolve_right fun q=>c2 (by
  have:(ns.length !=2)=true:=by simpa using q
  show(ns.length !=2||_)=true;rw[this];rfl)
 split
 ·exact .inl rfl
 rename_i c3
 split
 ·rename_i c4;rw[c4]at h;rcases lR.mp h with q|q
  ·exact à q
  ·exact absurd q c3
 ·exact .inr (by rw[e2])
theorem rx{E4 JK:Bool×Nat}(h:č S [E4,JK] vs=some st):T3 fun iM mR aN=>A3 (vs=[iM,mR]) (Š S E4.1 E4.2 iM=some aN) (Š aN JK.1 JK.2 mR=some st):=by
 induction vs using Ŭ with
 |nil=>exact nS h
 |cons iM r=>
  refine ï h fun aN h1 h=>?_
  induction r using Ŭ with
  |nil=>exact nS h
  |cons mR r=>
   refine ï h fun fy h2 h=>?_
   induction r using Ŭ with
   |nil=>exact⟨iM,mR,aN,rfl,h1,h2.trans h⟩
   |cons=>exact nS h
theorem zU{a b:Expr}{kv:Nat}{vp:Pos}{Q:Value→Shared→Prop}{E:Value→Shared→Prop}(h1:Ļ prog w Z d es S Å vs)(hl:vs.length=2)(hp:plain [a,b]=true)(he:fh cx [a,b]=es)(C:Ok Z d cx A env g s S)
  (hq:∀g' ò xs c,Gst g g'→Ok Z d cx A env g' ò Å→ò.heap.IsTuple c xs.toArray→ł Z g' vs xs→Q (.ref c) ò):õ prog w A (eval (.Tuple [a,b] kv vp) env) Q E s:=by
 refine wpAny_Tuple (h1 _ _ _ _ _ _ _ _ _ he hp C fun Û ò xs Ñ Ï ô=>?_);refine⟨by rw[ô.len,hl];decide,cv Ï (o:={cls:=.type "tuple",data:=.seq xs.toArray}) rfl ò.toks fun ó Í æ=>?_⟩;exact hq _ _ _ _ (Ñ.trans Í.toGst) æ ⟨_,fO _ rfl,rfl,_,rfl⟩ (ô.mono Í.toGst)
theorem QL(h1:Ļ prog w Z d es S Å vs)(h2:č Å q vs=some Í):vN prog w Z d (.sw q es) S Í .next:=by
 intro cx X env A g s Q E hx C hq;obtain⟨x,px,y,py,kt,tp,a,b,kv,vp,p,rfl,dY,hp,ZT,hl,he⟩:=sv hx;have hv:vs.length=2:=by rw[←(fA h2).1,←(jQ (env:=env) hl).2];rfl
 rcases rk (x:=x) (y:=y) (px:=px) (py:=py) (tp:=tp) (vp:=vp) (kt:=kt) (kv:=kv) (env:=env) hp ZT with hw|hw
 ·refine eR (a_ rfl) hw rfl (zU h1 hv hp he C fun Û ò xs c Ñ Ï T ô=>?_);exact gW hl h2 Ï T ô fun ó ļ ú æ=>hq.q _ _ _ (Ñ.trans ú) æ rfl
 ·refine Assign_Tuple_swapped (zU h1 hv hp he C fun Û ò xs c Ñ Ï T ô=>?_) rfl hw;obtain⟨x',p',k₁,Bn,l',ex,f1,f2,rfl⟩:=dk hl
  (injection ex with ex;subst ex)
  obtain⟨y',p'',k₂,qo,ZG,ey,f3,f4,rfl⟩:=dk f2
  (injection ey with ey;subst ey)
  obtain rfl:[]=ZG:=ë f4;obtain⟨iM,mR,aN,rfl,e3,e4⟩:=rx h2;obtain⟨Qg,EV,rfl,w1,Qf,MQ,rfl,w2,rz⟩:=ô;obtain rfl:MQ=[]:=rz;obtain⟨t,c1,c2⟩:=ry e3 e4 fun ek ei=>by
   have ek:k₁=k₂:=ek;have ei:Bn=qo:=ei;subst ek ei
   induction k₁ using ñ
   ·obtain⟨_,_,z1⟩:=dZ f1;obtain⟨_,_,z2⟩:=dZ f3;exact dY (qw z1 z2)
   ·obtain⟨_,_,z1⟩:=bp f1;obtain⟨_,_,z2⟩:=bp f3;exact dY (qw z1 z2)
  refine wpAny_unpackItems_tuple (items:=[Qg,Qf].toArray) C.r.hd T fun h' k=>?_;refine assignInOrder_cons (hN (Ï.KP (mE k) _) f3 c1 w2 fun ļ æ=>?_);exact assignInOrder_cons (hN æ f1 c2 w1 fun iV Ĺ=>assignInOrder_nil (hq.q Û iV _ Ñ Ĺ rfl))
end
section
variable{H H':List Cell}
theorem SP(x:Int):(max 0 x).toNat=x.toNat:=by induction x using Int.casesOn<;>rfl
theorem Fu(k n:Nat):(min (k:Int) n).toNat=min k n:=(Nat.le_total k n).elim (fun h=>by rw[Int.min_eq_left (lS.mpr h),Nat.min_eq_left h];rfl) fun h=>by rw[Int.min_eq_right (lS.mpr h),Nat.min_eq_right h];rfl
theorem Cz(n:Nat)(i:Int):clamp n i=clipAt n i:=by
 unfold clamp clipAt;rw[SP]
 induction h:ĩ i 0 using ñ with
 |true=>
  have h:=bE h;rw[if_pos rfl,if_pos h,Int.min_eq_left (jL (by exact ì [_,_] (.c (.a Â Á) đ .z) (.a (.a Â È) Á) È rfl h))]
 |false=>
  have h:¬i<0:=of_decide_eq_false h;obtain⟨k,rfl⟩:=Int.eq_ofNat_of_zero_le (bP.mp h);rw[if_neg jH,if_neg h,Fu];rfl
def Fb:Option V→Option (Option Int)
 |none=>some none
 |some v=>(qI v).map some
theorem tJ{n dflt:Nat}{v:Option V}{r:Nat}(h:bound n dflt v=some r):∃i,Fb v=some i∧r=i.elim dflt (clipAt n):=by
 induction v using š with
 |none=>exact⟨none,rfl,(ë h).symm⟩
 |some v=>
  refine ï h fun i h1 h2=>?_;exact⟨some i,congrArg (Option.map some) h1,(ë h2).symm.trans (Cz n i)⟩
def bD(Z:ę)(g:Gh):Option V→Value→Prop
 |none,x=>x=.none
 |some v,x=>Ć Z g v x
theorem bD.is{v:Option V}{x:Value}{i:Option Int}(h:bD Z g v x)(e:Fb v=some i):IsPart x i:=by
 induction v using š with
 |none=>(replace e:=ë e;subst e);exact h▸.none
 |some v=>
  (refine cK e fun n h1 zq=>?_;obtain rfl:=zq)
  have e:=iI h1;subst e;obtain⟨t,rfl⟩:=h;exact .int _ _
theorem Ý.tk{Y:Sta}{k:FH}{l:List V}:∀{vs:List Value} {n:Nat},Ý Y k l vs→Ý Y k (l.take n) (vs.take n):=by
 induction l with
 |nil=>exact fun {vs n} h=>by rw[show vs=[]from h,List.take_nil,List.take_nil];rfl
 |cons v l ih=>
  intro vs n h;obtain⟨x,r,rfl,h1,h2⟩:=h
  induction n using mK with
  |zero=>rfl
  |succ n=>exact⟨x,_,rfl,h1,ih h2⟩
theorem Ý.dr{Y:Sta}{k:FH}{l:List V}:∀{vs:List Value} {n:Nat},Ý Y k l vs→Ý Y k (l.drop n) (vs.drop n):=by
 induction l with
 |nil=>exact fun {vs n} h=>by rw[show vs=[]from h,List.drop_nil,List.drop_nil];rfl
 |cons v l ih=>
  intro vs n h
  induction n using mK with
  |zero=>exact h
  |succ n=>
   obtain⟨x,r,rfl,h1,h2⟩:=h;exact ih h2
theorem Ý.part{Y:Sta}{k:FH}{l:List V}{vs:List Value}(a n:Nat)(h:Ý Y k l vs):Ý Y k ((l.drop a).take n) ((vs.drop a).take n):=h.dr.tk
theorem Ý.rev{Y:Sta}{k:FH}{l:List V}:∀{vs:List Value},Ý Y k l vs→Ý Y k l.reverse vs.reverse:=by
 induction l with
 |nil=>exact fun h=>h▸rfl
 |cons v l ih=>
  intro vs h;obtain⟨x,r,rfl,h1,h2⟩:=h;rw[ar,ar];exact Ý.app (ih h2) ⟨x,[],rfl,h1,rfl⟩
theorem pF(B:Base Z g s H){v:V}{l:List V}{x:Value}(h:Ć Z g v x)(e:view H v=some (.tup l)):Rep Z.toSta g.k (.tup l) x:=by
 induction v using V.casesOn with
 |Ó i=>
  obtain⟨a,h1,rfl⟩:=h;refine cK e fun c q e=>?_;obtain⟨a',h2,h3⟩:=B.cells _ _ q;have ea:=ë (h1.symm.trans h2)
  induction c using Cell.casesOn with
  |Ô v=>exact(show v=.tup l from e)▸ea▸h3
  |_=>exact neT V.ctorIdx e rfl
 |_=>exact ë e▸h
theorem vJ(lo hi:Option Int)(n:Nat):Builtin.Slice.sliceAdjust lo hi 1 (n:Int)=(((lo.elim 0 (clipAt n):Nat):Int),((hi.elim n (clipAt n):Nat):Int)):=by
 have e:∀i:Int,(if i<0 then max (i+(n:Int)) 0 else min i (n:Int))=(clipAt n i:Int):=fun i=>by
  rw[clipAt_cast]
  by_cases h:i<0
  ·rw[if_pos h,if_pos h,Int.min_eq_left (a:=i+(n:Int)) (b:=n) (ì [_,_] (.c (.a Â Á) đ .z) (.a Â È) È rfl h),Int.max_comm]
  ·rw[if_neg h,if_neg h,Int.max_eq_right (Int.le_min.mpr ⟨bP.mp h,lP n⟩)]
 refine Prod.ext ?_ ?_
 ·induction lo using š with
  |none=>rfl
  |some v=>exact e v
 ·induction hi using š with
  |none=>rfl
  |some v=>exact e v
theorem uM(a b:Nat):Builtin.Slice.slicePlaces (a:Int) (b:Int) 1=b - a:=by
 show(if(a:Int)<b then((b:Int) - a - 1) / 1+1 else 0).toNat=_
 by_cases h:(a:Int)<b
 ·rw[if_pos h,Int.ediv_one,Int.sub_add_cancel];exact Int.toNat_sub b a
 ·rw[if_neg h];exact(Nat.sub_eq_zero_of_le (lS.mp (bP.mp h))).symm
theorem gB{E:Value→Shared→Prop}{x:Value}{i:Option Int}{Q:Option Int→Shared→Prop}(h:IsPart x i)(hq:Q i s):wpAny (model prog w) A (Builtin.Slice.slicePartIndex x) Q E s:=by
 cases h with
 |none=>exact slicePart_none hq
 |int i t=>exact slicePart_int hq
theorem tO{E:Value→Shared→Prop}{sl:Addr}{vl vu:Value}{lo hi:Option Int}{n:Nat}{Q:Int×Int×Nat→Shared→Prop}(hs:s.heap.IsSliceOf sl vl vu .none)(pl:IsPart vl lo)(pu:IsPart vu hi)
  (h:Q (((lo.elim 0 (clipAt n):Nat):Int),1,(hi.elim n (clipAt n)) - (lo.elim 0 (clipAt n))) s):wpAny (model prog w) A (Builtin.Slice.sliceApplied (.ref sl) (pure (n:Int))) Q E s:=by
 obtain⟨os,NR,Wv,P1⟩:=id hs;unfold Builtin.Slice.sliceApplied Builtin.Slice.sliceFields;refine wpAny_bind (wpAny_bind (wpAny_field NR P1 (x:=vl) rfl (wpAny_bind (wpAny_field NR P1 (x:=vu) rfl (wpAny_bind (wpAny_field NR P1 (x:=.none) rfl (wpAny_pure ?_)))))));refine wpAny_bind (slicePart_none ?_);show wpAny _ _ (if((1:Int)==0)=true then _ else _) _ _ s;rw[if_neg (by decide)];refine wpAny_bind (gB pl (wpAny_bind (gB pu (wpAny_bind (wpAny_pure ?_)))));show wpAny _ _ (match Builtin.Slice.sliceAdjust lo hi 1 (n:Int)with|(lo,hi)=>pure (lo,(1:Int),Builtin.Slice.slicePlaces lo hi 1)) _ _ s;rw[vJ];dsimp only;rw[uM];exact wpAny_pure h
theorem AH(xs:Array Value)(a n:Nat):((bQ n).filterMap fun (k:Nat)=>xs[((a:Int)+(k:Int)*1).toNat]?).toArray=((xs.toList.drop a).take n).toArray:=by
 have e:(fun (k:Nat)=>xs[((a:Int)+(k:Int)*1).toNat]?)=fun k=>xs[a+k]? :=by
  funext k
  have:((a:Int)+(k:Int)*1).toNat=a+k:=by exact(Nat.add_assoc _ _ _).symm
  rw[this]
 rw[e];have:=pick_run xs a n;rw[List.filterMap_map]at this;have e2:((fun x=>xs[x]?)∘fun x=>a+x)=fun k=>xs[a+k]? :=rfl
 rw[e2]at this;rw[this]
theorem gz{E:Value→Shared→Prop}{t sl:Addr}{items:Array Value}{o:Obj}{vl vu:Value}{lo hi:Option Int}{Q:Value→Shared→Prop}(ho:s.heap.get? t=some o)(ZR:o.cls=.type "tuple")(PW:∃n,o.data=.seq items n)(hs:s.heap.IsSliceOf sl vl vu .none)(pl:IsPart vl lo)(pu:IsPart vu hi)
  (h0:((items.toList.drop (lo.elim 0 (clipAt items.size))).take (hi.elim items.size (clipAt items.size) - lo.elim 0 (clipAt items.size)))=items.toList→Q (.ref t) s)
  (h:Q (.ref s.heap.objs.size) {s with heap:=s.heap.push {cls:=.type "tuple",data:=.seq ((items.toList.drop (lo.elim 0 (clipAt items.size))).take (hi.elim items.size (clipAt items.size) - lo.elim 0 (clipAt items.size))).toArray}})
  (oZ:items.size≤sizeLine):wpAny (model prog w) A (getItem (.ref t) (.ref sl)) Q E s:=by
 have ht:IsTup s.heap t items:=⟨o,ho,ZR,PW⟩;have xg:sizeOk (.seq ((items.toList.drop (lo.elim 0 (clipAt items.size))).take (hi.elim items.size (clipAt items.size) - lo.elim 0 (clipAt items.size))).toArray):=by
  show _≤sizeLine;rw[ź,oK,sG,Array.length_toList];omega
 obtain⟨os,NR,Wv,P1⟩:=id hs;have hTs:s.TypeIs (.ref sl) "slice":=⟨os,NR,Wv⟩;unfold getItem;try with_reducible refine wpAny_holding ?_
 first|refine wpAny_bind (wpAny_pure ?_)|skip
 refine wpAny_bind (wpAny_sequenceKey ht.typeIs (by decide) ?_);refine wpAny_bind (wpAny_callSpecial?_slot (name:=PySem.Str.ofString "__getitem__") ht.typeIs slot_tuple_getitem
  (wpAny_call_entry slot_tuple_getitem ht.typeIs entry_tuple_getitem ?_ (args_tuple_getitem _ _)))
 show wpAny _ _ (Builtin.Tuple.tupleItemsOf (.ref t)>>=_) _ _ s;refine wpAny_bind (tupleItemsOf_ ht ?_);refine wpAny_bind (wpAny_typeOf hTs ?_);rw[if_pos (by decide)];refine wpAny_bind (tO hs pl pu ?_)
 by_cases hw:((((lo.elim 0 (clipAt items.size):Nat):Int)==0&&(1:Int)==1&&(hi.elim items.size (clipAt items.size) - lo.elim 0 (clipAt items.size))==items.size)=true)
 ·show wpAny _ _ (if _=true then _ else _) _ _ s;rw[if_pos hw];simp only[au,beq_iff_eq]at hw;have h1:(lo.elim 0 (clipAt items.size):Nat)=0:=by omega
  have:=h0 (by rw[hw.2,h1,List.drop_zero,sC (by simp)]);refine wpAny_bind (m:=Builtin.Tuple.tupleIsExact _) ?_;refine wpAny_bind (wpAny_typeOf ht.typeIs (wpAny_pure ?_));rw[if_pos (by decide)];exact wpAny_bind (wpAny_rule (wpAny_bind (wpAny_pure (wpAny_pure ⟨_,rfl,wpAny_pure this⟩))))
 ·show wpAny _ _ (if _=true then _ else _) _ _ s;rw[if_neg hw,AH]
  first
   |exact wpAny_bind (m:=Builtin.Tuple.tupleExact _) (wpAny_newObj_type (wpAny_pure ⟨_,rfl,wpAny_pure h⟩) xg)
   |exact wpAny_bind (m:=Builtin.Tuple.tupleExact _) (wpAny_newObj_type (wpAny_bind (wpAny_pure (wpAny_pure ⟨_,rfl,wpAny_pure h⟩))) xg)
   |exact wpAny_bind (wpAny_bind (m:=Builtin.Tuple.tupleExact _) (wpAny_newObj_type (wpAny_pure (wpAny_pure ⟨_,rfl,wpAny_pure h⟩)) xg))
   |exact wpAny_bind (wpAny_bind (m:=Builtin.Tuple.tupleExact _) (wpAny_newObj_type (wpAny_pure ⟨_,rfl,wpAny_pure h⟩) xg))
end
section
variable{S Å Í Ĩ:St}{H H₁:List Cell}{ρ κ:List (Option V)}{e:PE}{lo hi st:Option PE}{oh o8 ĉ:Option V}{v v' y y':V}
theorem ux(lo hi:Option Int)(n:Nat):Builtin.Str.strSliceIndices lo hi 1 n=(bQ ((hi.elim n (clipAt n)) - (lo.elim 0 (clipAt n)))).map ((lo.elim 0 (clipAt n))+ ·):=by
 have e:Builtin.Str.strSliceIndices lo hi 1 n=sliceRange (((lo.elim 0 (clipAt n):Nat):Int)) (((hi.elim n (clipAt n):Nat):Int)) 1:=by
  unfold Builtin.Str.strSliceIndices;have h1:(1:Int)>0:=by decide
  induction lo using š<;>induction hi using š<;>simp[clipAt_cast,h1]
 rw[e,sliceRange_one]
theorem rR{α}(l:List α)(a n:Nat)(h:((l.drop a).take n).length=l.length):(l.drop a).take n=l:=by
 rw[oK,sG]at h;have h1:l.length≤n:=h▸Nat.min_le_left _ _;have h2:l.length≤l.length - a:=è (ņ h.symm) (Nat.min_le_right _ _)
 induction a using mK with
 |zero=>exact sC h1
 |succ a=>induction l using Ŭ with
  |nil=>exact List.take_nil
  |cons x t=>exact absurd (è h2 (è (ņ (Nat.succ_sub_succ _ _)) (Nat.sub_le _ _))) (Nat.not_succ_le_self _)
theorem GO(n:Nat)(i:Option Int):i.elim n (clipAt n)≤n:=by
 induction i using š with
 |none=>exact Ĭ _
 |some u=>exact lS.mp ((clipAt_cast n u).symm▸Int.max_le.mpr ⟨lP n,Int.min_le_right _ _⟩)
theorem yr{α}(l:List α)(a n:Nat):((l.drop a).take n).length≤l.length:=
 è (List.length_take_le' _ _) (è (ņ sG) (Nat.sub_le _ _))
theorem Ū{E:Value→Shared→Prop}{l:List Nat}{t:Tok}{sl:Addr}{l' u':Option (Int×Tok)}{Q:Value→Shared→Prop}(hs:s.heap.IsSliceOf sl (partValue l') (partValue u') .none)(hz:l.length≤sizeLine)
  (h:∀t' k,Q (.str ⟨⟨(l.drop ((l'.map (·.1)).elim 0 (clipAt l.length))).take ((u'.map (·.1)).elim l.length (clipAt l.length) - (l'.map (·.1)).elim 0 (clipAt l.length))⟩⟩ t') {s with toks:=k}):wpAny (model prog w) A (getItem (.str ⟨⟨l⟩⟩ t) (.ref sl)) Q E s:=by
 refine wpAny_getItem_str_slice (l:=l') (u:=u') (st:=none) hs rfl ?_;have ep:slicePicked ⟨⟨l⟩⟩ l' u' none=(bQ (((u'.map (·.1)).elim l.length (clipAt l.length)) - ((l'.map (·.1)).elim 0 (clipAt l.length)))).map (((l'.map (·.1)).elim 0 (clipAt l.length))+ ·):=ux _ _ l.length;have ef:(slicePicked ⟨⟨l⟩⟩ l' u' none).filterMap ((⟨l⟩:Array Nat)[·]?)=(l.drop ((l'.map (·.1)).elim 0 (clipAt l.length))).take ((u'.map (·.1)).elim l.length (clipAt l.length) - (l'.map (·.1)).elim 0 (clipAt l.length)):=by
  rw[ep];exact pick_run ⟨l⟩ _ _
 have h2:=GO l.length (u'.map (·.1));revert h ef ep;generalize (l'.map (·.1)).elim 0 (clipAt l.length)=a;generalize (u'.map (·.1)).elim l.length (clipAt l.length)=b at h2 ⊢;intro h ep ef;unfold sliceMade
 split
 ·rename_i hc;have h1:b - a=l.length:=by
   have:=eq_of_beq (FK.mp hc).2;rw[ep,ĕ,List.length_range]at this;exact this
  have:=h t s.toks;rw[rR _ _ _ (by rw[oK,sG];omega)]at this;exact this
 ·have:=h s.toks (s.toks+1);rw[←ef]at this;exact⟨è (ef▸yr l a (b - a)) hz,this⟩
theorem ji{E:Value→Shared→Prop}{l:List Nat}{t:Tok}{sl:Addr}{vl vu:Value}{lo hi:Option Int}{Q:Value→Shared→Prop}(hs:s.heap.IsSliceOf sl vl vu .none)(pl:IsPart vl lo)(pu:IsPart vu hi)(hz:l.length≤sizeLine)
  (h:∀t' k,Q (.str ⟨⟨(l.drop (lo.elim 0 (clipAt l.length))).take (hi.elim l.length (clipAt l.length) - lo.elim 0 (clipAt l.length))⟩⟩ t') {s with toks:=k}):wpAny (model prog w) A (getItem (.str ⟨⟨l⟩⟩ t) (.ref sl)) Q E s:=by
 cases pl<;>cases pu
 ·exact Ū (l':=none) (u':=none) hs hz h
 ·exact Ū (l':=none) (u':=some (_,_)) hs hz h
 ·exact Ū (l':=some (_,_)) (u':=none) hs hz h
 ·exact Ū (l':=some (_,_)) (u':=some (_,_)) hs hz h
theorem ŗ{α}{l:List α}(h:small l=true):l.length≤2^24:=è (aW (Ĥ h)) (by decide)
structure Cut(l:List α)(lo hi:Option V)(f:List α→V)(y:V):Prop where
 z:small l=true
 e:T2 fun i j=>A3 (Fb lo=some i) (Fb hi=some j) (y=f ((l.drop (i.elim 0 (clipAt l.length))).take (j.elim l.length (clipAt l.length) - i.elim 0 (clipAt l.length))))
theorem qM{α}{l:List α}{f:List α→V}(h:cut l oh o8 f=some y):Cut l oh o8 f y:=by
 (have hz:=cz h;have h:=cq h)
 refine ï h fun a h1 h=>?_;refine ï h fun b h2 h=>?_;obtain⟨i,F8,rfl⟩:=tJ h1;obtain⟨j,F7,rfl⟩:=tJ h2;exact⟨hz,i,j,F8,F7,(ë h).symm⟩
section
variable{E:Value→Shared→Prop}{x vl vu vs:Value}{sl:Addr}{Q:Value→Shared→Prop}
theorem Jg{l:List Nat}(B:Base Z g s H)(hv:Rep Z.toSta g.k (.str l) x)(hs:s.heap.IsSliceOf sl vl vu .none)(pl:bD Z g oh vl)(pu:bD Z g o8 vu)(h:Cut l oh o8 .str y)(hq:Đ Z g s H y Q):bK prog w A s x (.ref sl) Q E:=by
 obtain⟨hz,i,j,F8,F7,rfl⟩:=h;obtain⟨t,rfl⟩:=hv;exact⟨⟨_,_,typeIs_str _ _ _,F.slot_str_getitem.lookup⟩,ji hs (pl.is F8) (pu.is F7) (ŗ hz) fun t' k=>hq.kB B (fun À q=>neT V.ctorIdx q rfl) k ⟨t',rfl⟩⟩
theorem zZ{l:List Nat}(B:Base Z g s H)(hv:Rep Z.toSta g.k (.bytes l) x)(hs:s.heap.IsSliceOf sl vl vu .none)(pl:bD Z g oh vl)(pu:bD Z g o8 vu)(h:Cut l oh o8 .bytes y)(hq:Đ Z g s H y Q):bK prog w A s x (.ref sl) Q E:=by
 obtain⟨hz,i,j,F8,F7,rfl⟩:=h;obtain⟨bs,t,rfl,Wy⟩:=hv;have hlen:bs.size=l.length:=by rw[←Wy,ĕ,Array.length_toList]
 refine⟨⟨_,_,typeIs_bytes _ _ _,FB.slot_bytes_getitem.lookup⟩,?_⟩;refine getItem_meets (typeIs_bytes _ _ _) (by decide) FB.slot_bytes_getitem FB.entry_bytes_getitem (FB.args_bytes_getitem_2 _ _) (KBc.meets_slice2 bs t _ (pl.is F8) (pu.is F7)) ⟨hs,è (KBc.size_picked_le bs i j) (hlen▸ŗ hz),fun t' k=>hq.kB B (fun À q=>neT V.ctorIdx q rfl) k ⟨_,t',rfl,?_⟩⟩;rw[KBc.picked_eq,hlen];show List.map _ ((bs.toList.drop _).take _)=_;rw[List.map_take,List.map_drop,Wy]
theorem Jf{l:List V}(B:Base Z g s H)(hv:ŝ Z.toSta s.heap g.k (.tup l) x)(sU:Rep Z.toSta g.k (.tup l) x)(hs:s.heap.IsSliceOf sl vl vu .none)(pl:bD Z g oh vl)(pu:bD Z g o8 vu)(h:Cut l oh o8 .tup y)(hq:Đ Z g s H y Q):bK prog w A s x (.ref sl) Q E:=by
 obtain⟨hz,i,j,F8,F7,rfl⟩:=h;obtain⟨t,o,ws,rfl,ho,⟨n,rfl⟩,r⟩:=hv;have hlen:ws.toArray.size=l.length:=ź.trans r.len;refine⟨⟨_,_,⟨_,ho,rfl⟩,slot_tuple_getitem.lookup⟩,?_⟩;refine gz (items:=ws.toArray) ho rfl ⟨n,rfl⟩ hs (pl.is F8) (pu.is F7) (fun e=>?_) ?_ (hlen▸ŗ hz)<;>rw[hlen]at*
 ·refine hq.kB B (fun À q=>neT V.ctorIdx q rfl) s.toks ?_;rw[rR _ _ _ ((Ý.part _ _ r).len.symm.trans ((congrArg oN e).trans r.len))];exact sU
 ·exact lJ (n:=0) (t:=s.toks) B (Ý.part (i.elim 0 (clipAt l.length)) (j.elim l.length (clipAt l.length) - i.elim 0 (clipAt l.length)) r) fun İ Ĩ Ş bI=>hq _ _ _ Ĩ (fun b o e=>ŏ _ e) Ş bI
theorem Ji{l:List V}(B:Base Z g s H)(hv:ŝ Z.toSta s.heap g.k (.lst l) x)(hs:s.heap.IsSliceOf sl vl vu .none)(pl:bD Z g oh vl)(pu:bD Z g o8 vu)(h:Cut l oh o8 .lst y)(hq:Đ Z g s H y Q):bK prog w A s x (.ref sl) Q E:=by
 obtain⟨hz,i,j,F8,F7,rfl⟩:=h;obtain⟨t,o,ws,rfl,ho,q,r⟩:=hv;have hlen:ws.toArray.size=l.length:=ź.trans r.len;have hL:=Base.isList ho q;refine⟨⟨_,_,hL.typeIs,list_getitem_lookup⟩,?_⟩;refine wpAny_getItem_list_slice hL hs (pl.is F8) (pu.is F7) .none (by simp) ?_ (hlen▸ŗ hz);rw[slicePick_plain,hlen];exact B.fK (n:=0) (t:=s.toks) (Ý.part _ _ r) hq
theorem Jh{l:List V}(B:Base Z g s H)(hv:ŝ Z.toSta s.heap g.k (.lst l) x){t:Tok}(hs:s.heap.IsSliceOf sl .none .none (.int (-1) t))(hz:small l=true)(hq:Đ Z g s H (.lst l.reverse) Q):bK prog w A s x (.ref sl) Q E:=by
 obtain⟨a,o,ws,rfl,ho,q,r⟩:=hv;have hlen:ws.toArray.size=l.length:=ź.trans r.len;have hL:=Base.isList ho q;refine⟨⟨_,_,hL.typeIs,list_getitem_lookup⟩,?_⟩;refine wpAny_getItem_list_slice (st:=some (-1)) hL hs .none .none (.int _ _) (by simp) ?_ (hlen▸ŗ hz);rw[krv_pick];exact B.fK (n:=0) (t:=s.toks) r.rev hq
theorem zY(B:Base Z g s H)(hv:ŝ Z.toSta s.heap g.k v x)(vn:∀l,v=.tup l→Rep Z.toSta g.k (.tup l) x)(hs:s.heap.IsSliceOf sl vl vu vs)(pl:bD Z g oh vl)(pu:bD Z g o8 vu)(ps:bD Z g ĉ vs)(h:slice v oh o8 ĉ=some y)(hq:Đ Z g s H y Q):bK prog w A s x (.ref sl) Q E:=by
 induction ĉ using š with
 |none=>
  have ps:vs=.none:=ps;subst ps
  induction v using V.casesOn with
  |str l=>exact Jg B hv hs pl pu (qM h) hq
  |bytes l=>exact zZ B hv hs pl pu (qM h) hq
  |tup l=>exact Jf B hv (vn l rfl) hs pl pu (qM h) hq
  |lst l=>exact Ji B hv hs pl pu (qM h) hq
  |_=>exact nS h
 |some s=>
  refine ï h fun i h1 h=>?_;refine ï h fun l h2 h=>?_
  (have h3:=cz h;have h:=cq h)
  (have hz:=aC h3;have h3:=aD h3)
  (have h4:=aC h3;have h3:=aD h3)
  (have h5:=aC h4;have h4:=aD h4)
  have e1:=iI h1;have e2:=iL h2;have e3:i= -1:=of_decide_eq_true h3;have e4:=oP.mp h4;have e5:=oP.mp h5;have e6:=ë h;subst e1 e2 e3 e4 e5 e6;have pl:vl=.none:=pl;have pu:vu=.none:=pu;subst pl pu;obtain⟨t,rfl⟩:=ps;exact Jh B hv hs hz hq
end
def zj(prog:Program)(w:World)(Z:ę)(d:Nat)(e:Option PE)(st ĉ:St)(o:Option V):Prop:=∀cx x env A g s Q E,K2 cx x=e→Ok Z d cx A env g s st→(∀g' s' x,Gst g g'→Ok Z d cx A env g' s' ĉ→bD Z g' o x→Q x s')→õ prog w A (evalPart x env) Q E s
theorem ME:zj prog w Z d none S S none:=by
 intro cx x env A g s Q E hx C hq
 induction x using š with
 |none=>exact wpAny_pure (hq g s _ (.refl g) C rfl)
 |some x=>exact sN hx
theorem MD(h:ű prog w Z d e S Å v):zj prog w Z d (some e) S Å (some v):=by
 intro cx x env A g s Q E hx C hq
 induction x using š with
 |none=>exact nS hx
 |some x=>exact h _ _ _ _ _ _ _ _ (ë hx) C hq
theorem bD.mono{v:Option V}{x:Value}(h:bD Z g v x)(G:Gst g g'):bD Z g' v x:=by
 induction v using š with
 |none=>exact h
 |some v=>exact Ć.mono G h
theorem yd{lo hi stp:Option Expr}{p:Pos}{o i:Value}:∃ops,subscripted (.Slice lo hi stp p) false o i=operate ops (getItem o i):=by
 induction stp using š<;>exact⟨_,rfl⟩
theorem QM(h1:ű prog w Z d e S Å v)(h2:zj prog w Z d lo Å Í oh)(h3:zj prog w Z d hi Í Ĩ o8)(h4:zj prog w Z d st Ĩ ⟨H,ρ,κ⟩ ĉ)(h5:view H v=some v')(h6:slice v' oh o8 ĉ=some y)(h7:made H y=(H₁,y')):ű prog w Z d (.sl e lo hi st) S ⟨H₁,ρ,κ⟩ y':=by
 intro cx X env A g s Q E hx C hq;obtain⟨o,l,h,t,q,p,rfl,e1,e2,e3,e4⟩:=iv hx;refine Subscript_ (h1 _ _ _ _ _ _ _ _ e1 C fun Û ò Ŷ Ñ Ï ô=>wpAny_Slice ?_);refine h2 _ _ _ _ _ _ _ _ e2 Ï fun ó ļ xU ú æ Ű=>?_;refine h3 _ _ _ _ _ _ _ _ e3 æ fun İ iV Qn Ń Ĺ bI=>?_;refine h4 _ _ _ _ _ _ _ _ e4 Ĺ fun BZ Mf Qm ni DS Vl=>?_;refine cv DS (o:={cls:=.type "slice",data:=.fields #[xU,Qn,Qm]}) rfl Mf.toks fun qy tR zp=>?_;have V1:=ô.mono ((ú.trans Ń).trans (ni.trans tR.toGst));have hit:=zY (prog:=prog) (w:=w) (A:=A) (E:=E) (Q:=Q) zp.base (zp.view V1 h5) (fun l e=>pF zp.base V1 (h5.trans (congrArg some e))) (Heap.IsSliceOf.new _ _ _ _)
  (Ű.mono (Ń.trans (ni.trans tR.toGst))) (bI.mono (ni.trans tR.toGst)) (Vl.mono tR.toGst) h6
  fun g' t z S K B V=>hq _ _ _ (((Ñ.trans ú).trans Ń).trans (ni.trans (tR.trans S).toGst)) (by rw[h7]at B;exact zp.next S K B) (by rw[h7]at V;exact V)
 obtain⟨⟨T,id,hT,hl⟩,hw⟩:=hit;obtain⟨ops,hs⟩:=yd (lo:=l) (hi:=h) (stp:=t) (p:=q) (o:=Ŷ) (i:=.ref Mf.heap.objs.size);exact tail_any hT hl hw hs
end
section
variable{g:Gh}{s:Shared}{H:List Cell}{d b:Nat}{vs:List V}{xs:List Value}{v u:V}{Q:Value→Shared→Prop}{E:Value→Shared→Prop}{h':Heap}{Y:Sta}{k:FH}
theorem Base.grow(B:Base Z g s H)(kp:∀b o,s.heap.get? b=some o→h'.get? b=some o)(t:Nat):Base Z g {s with heap:=h',toks:=t} H:=
 B.gen (fun À=>False) (fun À d=>d.elim) (fun b o À e=>kp b o e) (fun À À=>rfl) (fun À d=>d.elim) B.len (fun À À e=>e) fun À À e=>.inl ⟨e,fun À d=>d.elim⟩
theorem Base.wL(B:Base Z g s H){a:Addr}{vs:List Value}{n:Nat}{l:List V}(fr:s.heap.objs.size≤a)(kp:∀b o,s.heap.get? b=some o→h'.get? b=some o)(ho:h'.get? a=some {cls:=.type "list",data:=.seq vs.toArray n})
  (hr:Ý Z.toSta g.k l vs)(t:Nat)(hq:Đ Z g s H (.lst l) Q):Q (.ref a) {s with heap:=h',toks:=t}:=by
 have hf:g.r a=.free:=B.fresh _ fr;have S:Ę g (g.Ó a H.length):=(Ę.set g hf).trans (Ę.snoc _ _);have q:(g.Ó a H.length).r a=.cell H.length:=g.ÿ _ _;have last:ç (g.Ó a H.length).as H.length=some a:=B.len▸eB _ _;refine hq _ _ _ S (fun b o e=>kp b o e) (B.gen (g':=g.Ó a H.length) (· =a) (fun b e=>by rw[show b=a from e];exact pY hf) (fun b o' À e=>kp b o' e) (fun b nd=>g.ù _ nd) (fun b e=>by rw[show b=a from e];exact hU (.inl q) ho) ?_ (fun À À e=>ag e) fun i c' e=>?_) ⟨a,last,rfl⟩
 ·show(g.as++[a]).length=(H++[Cell.lst l]).length;rw[Ċ,Ċ,B.len];rfl
 ·rcases fH e with e|⟨rfl,rfl⟩
  ·exact .inl ⟨e,fun b e=>by rw[show b=a from e];exact kZ hf⟩
  ·exact .inr ⟨a,last,q,_,vs,ho,⟨n,rfl⟩,hr.mono S.k⟩
theorem Đ.BB(hq:Đ Z g s H v Q)(B:Base Z g s H)(hv:∀l,v≠.lst l)(kp:∀b o,s.heap.get? b=some o→h'.get? b=some o)(t:Nat){z:Value}(hz:Ć Z g v z):Q z {s with heap:=h',toks:=t}:=
 Đ.kB (s:={s with heap:=h',toks:=t}) (Q:=Q) (fun g' s' z S K B' V=>hq g' s' z S (fun b o e=>K b o (kp b o e)) B' V) (B.grow kp t) hv t hz
theorem rep1(h:q1 vs=some v)(r:Ý Y k vs xs):∃x,xs=[x]∧Rep Y k v x:=by
 rw[i1 h]at r;obtain⟨x,t,e,hx,ht⟩:=r;exact⟨x,e.trans (congrArg _ (show t=[]from ht)),hx⟩
theorem rep2{p:V×V}(h:q2 vs=some p)(r:Ý Y k vs xs):T2 fun x y=>A3 (xs=[x,y]) (Rep Y k p.1 x) (Rep Y k p.2 y):=by
 rw[i2 h]at r;obtain⟨x,t,e,hx,y,t',e',hy,ht⟩:=r;exact⟨x,y,e.trans (congrArg _ (e'.trans (congrArg _ (show t'=[]from ht)))),hx,hy⟩
theorem rint{n:Int}{x:Value}(h:qI v=some n)(r:Rep Y k v x):∃t,x=.int n t:=by
 rw[iI h]at r;exact r
theorem uH{l:List Nat}{x:Value}(h:qS v=some l)(r:Rep Y k v x):∃t,x=.str ⟨⟨l⟩⟩ t:=by
 rw[iS h]at r;exact r
theorem Ah{p:Int×Int}(h:JQ vs=some p)(r:Ý Y k vs xs):T2 fun t u=>xs=[.int p.1 t,.int p.2 u]:=by
 rw[SX h]at r;obtain⟨x,r',e,⟨t,ex⟩,y,YZ,e',⟨u,ey⟩,e''⟩:=r;exact⟨t,u,by rw[e,e',show YZ=[]from e'',ex,ey]⟩
theorem vz{l:List Nat}:∀{acc n:Nat},digits acc l=some n→NumText.AllDigits l∧n=l.foldl (fun a c=>a*10+(c - 48)) acc:=by
 induction l with
 |nil=>exact fun h=>⟨fun c m=>absurd m qn,(ë h).symm⟩
 |cons c r ih=>
  intro acc n h
  (have hc:=cz h;have h:=cq h)
  obtain⟨q1,q2⟩:=ih h;refine⟨fun x m=>?_,q2⟩;rcases ĸ.mp m with e|m
  ·exact e▸⟨dU (oa hc).1,dU (oa hc).2⟩
  ·exact q1 x m
structure LA(xs:List Value)(ns:List Nat)(is:List Int):Prop where
 a:IntsAre xs is
 b:∀n∈is,0≤n∧n<256
 c:is.map Int.toNat=ns
theorem xY{l:List V}:∀{ns:List Nat} {xs:List Value},iY l=some ns→Ý Y k l xs→∃is:List Int,LA xs ns is:=by
 induction l with
 |nil=>exact fun {ns xs} h r=>⟨[],(show xs=[]from r)▸.nil,fun À m=>absurd m qn,ë h⟩
 |cons v t ih=>
  intro ns xs h r;obtain⟨x,r',e,hx,hr⟩:=r;refine ï h fun i h1 h=>?_
  (have hc:=cz h;have h:=cq h)
  refine cK h fun VZ h2 h3=>?_;obtain⟨tk,e'⟩:=rint h1 hx;obtain⟨is,i1,i2,i3⟩:=ih h2 hr;refine⟨i::is,e▸e'▸.cons i tk i1,fun n m=>?_,h3▸i3▸rfl⟩;rcases ĸ.mp m with q|m
  ·exact q▸⟨gT (oa hc).1,bE (oa hc).2⟩
  ·exact i2 n m
theorem I6{α}{n:Nat}{l:List α}(h:small l=true)(e:n=l.length):(n:Int)<2^63:=
 bx.mpr (ip (e▸Ĥ h) (show 1000000≤2^63 by decide))
theorem Nf{l:List Nat}(h:small l=true):¬((l.length:Nat):Int)≥2^63:=Int.not_le.mpr (I6 h rfl)
theorem Uz(B:Base Z g s H)(r:Ý Z.toSta g.k vs xs)(h:blt 0 vs=some v)(hq:Đ Z g s H v Q):õ prog w A (call (.builtin "len") xs) Q E s:=by
 refine ï h fun u h1 h=>?_;obtain⟨x,rfl,hx⟩:=rep1 h1 r
 induction u using V.casesOn with
 |str l=>
  (have hz:=cz h;have h:=cq h)
  have h:=ë h;subst h;obtain⟨t,rfl⟩:=hx;exact PySem.P.len_str (Nf hz) (hq.kB B (fun À q=>neT V.ctorIdx q rfl) _ ⟨_,rfl⟩)
 |bytes l=>
  (have hz:=cz h;have h:=cq h)
  have h:=ë h;subst h;obtain⟨bs,t,rfl,hb⟩:=hx;have hl:bs.size=l.length:=by rw[←hb,ĕ,Array.length_toList]
  exact len_bytes (è (hl▸ŗ hz) (by decide)) (hq.kB B (fun À q=>neT V.ctorIdx q rfl) _ ⟨_,by rw[hl]⟩)
 |tup l=>
  (have hz:=cz h;have h:=cq h)
  have h:=ë h;subst h;obtain⟨a,o,ws,rfl,k,⟨n,rfl⟩,rl⟩:=hx;have hl:ws.toArray.size=l.length:=ź.trans rl.len;exact PyProof.Rows.len_tuple ⟨_,B.sub k,rfl,_,rfl⟩ (I6 hz hl) (hq.kB B (fun À q=>neT V.ctorIdx q rfl) _ ⟨_,by rw[hl]⟩)
 |lst l=>
  (have hz:=cz h;have h:=cq h)
  have h:=ë h;subst h;obtain⟨a,o,ws,rfl,k,q,rl⟩:=hx;have hl:ws.toArray.size=l.length:=ź.trans rl.len;exact PyProof.Rows.len_list (Base.isList (B.sub k) q) (I6 hz hl) (hq.kB B (fun À q=>neT V.ctorIdx q rfl) _ ⟨_,by rw[hl]⟩)
 |_=>exact nS h
theorem Uy(B:Base Z g s H)(r:Ý Z.toSta g.k vs xs)(h:blt 1 vs=some v)(hq:Đ Z g s H v Q):õ prog w A (call (.builtin "chr") xs) Q E s:=by
 refine ï h fun u h1 h=>?_;obtain⟨x,rfl,hx⟩:=rep1 h1 r;refine ï h fun i h2 h=>?_
 (have hc:=cz h;have h:=cq h)
 have h:=ë h;subst h;obtain⟨t,rfl⟩:=rint h2 hx;have a1:=gT (oa hc).1;have a2:=bE (oa hc).2;exact PySem.P.chr_of_int (wY.mpr ⟨decide_eq_false (by exact bP.mpr ‹_›),decide_eq_false (by exact fun eH=>si [_] (.c (.a Â Á) (.n 55296) (.c (.a (.n 1114111) Á) Â .z)) rfl a2 eH)⟩) (hq.kB B (fun À q=>neT V.ctorIdx q rfl) _ ⟨_,rfl⟩)
theorem Ux(B:Base Z g s H)(r:Ý Z.toSta g.k vs xs)(h:blt 2 vs=some v)(hq:Đ Z g s H v Q):õ prog w A (call (.type "int") xs) Q E s:=by
 refine ï h fun u h1 h=>?_;obtain⟨x,rfl,hx⟩:=rep1 h1 r
 induction u using V.casesOn with
 |int i=>
  have h:=ë h;subst h;obtain⟨t,rfl⟩:=hx;exact call_int_int (hq.kB B (fun À q=>neT V.ctorIdx q rfl) s.toks ⟨_,rfl⟩)
 |str l=>
  have h:(if(l.isEmpty||ak 10 l.length)=true then none else((digits 0 l).bind fun a=>some (a:Int)).map fun n=>V.int n)=some v:=h
  induction hc:(l.isEmpty||ak 10 l.length)using ñ with
  |true=>rw[hc]at h;exact nS h
  |false=>
   rw[hc]at h
   (refine cK h fun i h2 zq=>?_;obtain rfl:=zq)
   refine ï h2 fun n h2 h3=>?_;obtain⟨q1,q2⟩:=vz h2;obtain⟨t,rfl⟩:=hx;obtain⟨c1,c2⟩:=wY.mp hc;have hlen:l.length<10:=Nat.not_le.mp fun h'=>by rw[wZ h']at c2;exact Ĕ c2
   have e:=PySem.intText_digits (x:=⟨⟨l⟩⟩) q1 (by intro e;rw[show l=[]from e]at c1;exact Ĕ c1) (è (aW hlen) (by decide));exact PySem.W.KIN.call_text e (è (aW hlen) (by decide)) (hq.kB B (fun À q=>neT V.ctorIdx q rfl) _ ⟨s.toks,by rw[←ë h3,q2];rfl⟩)
 |_=>exact nS h
theorem Uw(B:Base Z g s H)(r:Ý Z.toSta g.k vs xs)(h:blt 3 vs=some v)(hq:Đ Z g s H v Q):õ prog w A (call (.builtin "ord") xs) Q E s:=by
 refine ï h fun u h1 h=>?_;obtain⟨x,rfl,hx⟩:=rep1 h1 r;refine ï h fun l h2 h=>?_
 (refine cK h fun c h3 zq=>?_;obtain rfl:=zq)
 obtain⟨t,rfl⟩:=uH h2 hx;rw[i1 h3];exact PySem.P.ord_of_char (hq.kB B (fun À q=>neT V.ctorIdx q rfl) _ ⟨_,rfl⟩)
theorem Uv(B:Base Z g s H)(r:Ý Z.toSta g.k vs xs)(h:blt 4 vs=some v)(hq:Đ Z g s H v Q):õ prog w A (call (.builtin "abs") xs) Q E s:=by
 refine ï h fun u h1 h=>?_;obtain⟨x,rfl,hx⟩:=rep1 h1 r
 (refine cK h fun i h2 zq=>?_;obtain rfl:=zq)
 obtain⟨t,rfl⟩:=rint h2 hx;refine call_abs_int fun u tk=>?_;have e:(if i<0 then -i else i)=(i.natAbs:Int):=by
  induction i using Int.casesOn with
  |ofNat n=>rfl
  |negSucc n=>exact if_pos (Int.negSucc_lt_zero n)
 rw[e];exact hq.kB B (fun À q=>neT V.ctorIdx q rfl) _ ⟨_,rfl⟩
theorem Uu(B:Base Z g s H)(r:Ý Z.toSta g.k vs xs)(h:blt 5 vs=some v)(hq:Đ Z g s H v Q):õ prog w A (call (.type "tuple") xs) Q E s:=by
 refine ï h fun u h1 h=>?_;obtain⟨x,rfl,hx⟩:=rep1 h1 r
 induction u using V.casesOn with
 |tup l=>
  have h:=ë h;subst h;obtain⟨a,o,ws,rfl,k,⟨n,rfl⟩,rl⟩:=id hx;exact call_tuple_tup ⟨_,B.sub k,rfl,_,rfl⟩ (hq.kB B (fun À q=>neT V.ctorIdx q rfl) s.toks hx)
 |lst l=>
  (have hz:=cz h;have h:=cq h)
  have h:=ë h;subst h;obtain⟨a,o,ws,rfl,k,q,rl⟩:=hx;have hl:ws.toArray.size=l.length:=ź.trans rl.len;refine call_tuple_list (Base.isList (B.sub k) q) (fun h' kp=>?_) (hl▸ŗ hz);exact lJ (n:=0) (t:=s.toks) (B.grow kp s.toks) rl fun İ Ĩ Ş bI=>hq _ _ _ Ĩ (fun b o e=>ŏ _ (kp b o e)) Ş bI
 |_=>exact nS h
theorem Ut(hr:ŕ d A g)(B:Base Z g s H)(r:Ý Z.toSta g.k vs xs)(h:blt 6 vs=some v)(hq:Đ Z g s H v Q):õ prog w A (call (.builtin "min") xs) Q E s:=by
 obtain⟨⟨a,b⟩,h1,rfl⟩:=om h;obtain⟨t,u,rfl⟩:=Ah h1 r;refine min_two_ints hr.hd fun h' tk kp=>?_
 by_cases q:b<a
 ·have e:ĩ b a=true:=decide_eq_true q;rw[if_pos q];exact hq.BB B (fun À q=>neT V.ctorIdx q rfl) kp _ ⟨u,by rw[e];rfl⟩
 ·have e:ĩ b a=false:=decide_eq_false q;rw[if_neg q];exact hq.BB B (fun À q=>neT V.ctorIdx q rfl) kp _ ⟨t,by rw[e];rfl⟩
theorem Us(hr:ŕ d A g)(B:Base Z g s H)(r:Ý Z.toSta g.k vs xs)(h:blt 7 vs=some v)(hq:Đ Z g s H v Q):õ prog w A (call (.builtin "max") xs) Q E s:=by
 obtain⟨⟨a,b⟩,h1,rfl⟩:=om h;obtain⟨t,u,rfl⟩:=Ah h1 r;refine max_two_ints hr.hd fun h' tk kp=>?_
 by_cases q:a<b
 ·have e:ĩ a b=true:=decide_eq_true q;rw[if_pos (show b>a from q)];exact hq.BB B (fun À q=>neT V.ctorIdx q rfl) kp _ ⟨u,by rw[e];rfl⟩
 ·have e:ĩ a b=false:=decide_eq_false q;rw[if_neg (show ¬b>a from q)];exact hq.BB B (fun À q=>neT V.ctorIdx q rfl) kp _ ⟨t,by rw[e];rfl⟩
theorem Ur(hr:ŕ d A g)(B:Base Z g s H)(r:Ý Z.toSta g.k vs xs)(h:blt 8 vs=some v)(hq:Đ Z g s H v Q):õ prog w A (call (.type "bytes") xs) Q E s:=by
 refine ï h fun u h1 h=>?_;obtain⟨x,rfl,hx⟩:=rep1 h1 r;refine ï h fun l h2 h=>?_
 (have hz:=cz h;have h:=cq h)
 (refine cK h fun ns h3 zq=>?_;obtain rfl:=zq)
 rw[iL h2]at hx;obtain⟨a,o,ws,rfl,k,q,rl⟩:=hx;obtain⟨is,i1,i2,i3⟩:=xY h3 rl;refine call_bytes_ints (Base.isList (B.sub k) q) i1 i2 (rl.len▸ŗ hz) hr.hd fun h' t k' kp=>?_;refine hq.BB B (fun À q=>neT V.ctorIdx q rfl) kp _ ⟨_,t,rfl,?_⟩;rw[←i3];unfold byteArr;rw[List.map_map];refine List.map_congr_left fun n m=>?_;have:=i2 n m;show(n.toNat.toUInt8).toNat=n.toNat;rw[Nat.toUInt8,UInt8.toNat_ofNat'];exact Nat.mod_eq_of_lt ((Int.toNat_lt this.1).mpr this.2)
theorem AI{α:Type}{p q a b:α}(h:[p,q].Perm [a,b]):(p=a∧q=b)∨(p=b∧q=a):=by
 have one:∀{c d:α},[p,q].Perm [c,d]→p=c→p=c∧q=d:=fun h e=>by
  subst e;exact⟨rfl,Ė.mp ((List.perm_cons _).mp h |>.subset (.head _))⟩
 rcases ĸ.mp (h.subset (.head _))with e|e
 ·exact .inl (one h e)
 ·exact .inr (one (h.trans (List.Perm.swap _ _ _)) (Ė.mp e))
theorem uz{a b:Int}{ol:List Value}{ns:List Int}(i1:IntsAre ol ns)(i2:ns.Perm [a,b])(i3:ns.Pairwise (· ≤ ·)):Ý Y k (if ĩ b a then[.int b,.int a]else[.int a,.int b]) ol:=by
 have len:=i2.length_eq;cases i1 with
 |nil=>exact absurd len (show(0:Nat)≠2 by decide)
 |cons p t1 i1=>cases i1 with
  |nil=>exact absurd len (show(1:Nat)≠2 by decide)
  |cons q t2 i1=>cases i1 with
   |cons=>exact absurd (Nat.succ.inj (Nat.succ.inj len)) (Nat.succ_ne_zero _)
   |nil=>
    have hle:p≤q:=(List.pairwise_cons.mp i3).1 q (.head _);have fin:∀{x y:Int},p=x→q=y→Ý Y k [.int x,.int y] [.int p t1,.int q t2]:=fun e e'=>e▸e'▸⟨_,_,rfl,⟨t1,rfl⟩,_,_,rfl,⟨t2,rfl⟩,rfl⟩
    have two:=AI i2
    by_cases P2:b<a
    ·rw[show ĩ b a=true from decide_eq_true P2,if_pos rfl];exact two.elim (fun h=>absurd P2 (bP.mpr (h.1▸h.2▸hle))) fun h=>fin h.1 h.2
    ·rw[show ĩ b a=false from decide_eq_false P2,if_neg jH];exact two.elim (fun h=>fin h.1 h.2) fun h=>have e:=Int.le_antisymm (h.1▸h.2▸hle) (bP.mp P2);fin (h.1.trans e) (h.2.trans e.symm)
theorem Uq(B:Base Z g s H)(r:Ý Z.toSta g.k vs xs)(h:blt 9 vs=some v)(hq:Đ Z g s H v Q):õ prog w A (call (.builtin "sorted") xs) Q E s:=by
 refine ï h fun u h1 h=>?_;obtain⟨x,rfl,hx⟩:=rep1 h1 r;refine ï h fun l h2 h=>?_;obtain⟨⟨a,b⟩,h3,rfl⟩:=om h;rw[iL h2]at hx;obtain⟨al,o,ws,rfl,k,q,rl⟩:=hx;obtain⟨t,u,rfl⟩:=Ah h3 rl;refine sorted_ints (Base.isList (B.sub k) q) (.cons a t (.cons b u .nil)) (by show 2<64;decide) fun out VZ i1 i2 i3=>?_;obtain⟨e,he⟩:=sortedAll_at s.heap [Value.int a t,Value.int b u] out;exact B.wL (h':=sortedAll s.heap [Value.int a t,Value.int b u] out) (vs:=out.toList) (n:=e) (Nat.le_succ _) (fun À À=>sortedAll_old) he (uz i1 i2 i3) s.toks hq
theorem Ll(hr:ŕ d A g)(B:Base Z g s H)(r:Ý Z.toSta g.k vs xs)(h:blt b vs=some v)(hq:Đ Z g s H v Q):õ prog w A (call (m9 b) xs) Q E s:=by
 revert h
 match b with
 |0=>exact fun h=>Uz B r h hq
 |1=>exact fun h=>Uy B r h hq
 |2=>exact fun h=>Ux B r h hq
 |3=>exact fun h=>Uw B r h hq
 |4=>exact fun h=>Uv B r h hq
 |5=>exact fun h=>Uu B r h hq
 |6=>exact fun h=>Ut hr B r h hq
 |7=>exact fun h=>Us hr B r h hq
 |8=>exact fun h=>Ur hr B r h hq
 |9=>exact fun h=>Uq B r h hq
 |n+10=>exact(fun q=>nS q)
end
section
variable{S:St}{H H₁ Ö:List Cell}{ρ κ:List (Option V)}{d n:Nat}{as:List PE}{vs vs':List V}{v v':V}
theorem CJ{b:Nat}(h:blt b vs=some v):b<10:=by
 refine Nat.lt_of_not_le fun q=>?_;obtain⟨m,rfl⟩:=Nat.exists_eq_add_of_le' q;exact nS h
theorem Ra(hg:cg Z K)(h1:Ļ prog w Z d as S ⟨H,ρ,κ⟩ vs)(h2:Ē H vs=some (H₁,vs'))(h3:blt n vs'=some v)(h4:made H₁ v=(Ö,v')):ű prog w Z d (.bl n as) S ⟨Ö,ρ,κ⟩ v':=by
 intro cx x env A g s Q E hx C hq;have hb:=CJ h3;obtain⟨f,np,ys,p,rfl,hp,⟨hf,e1,_⟩|⟨e,_⟩⟩:=iv hx
 ·refine gU hg hf (oJ hb (by decide)) hp e1 h1 h2 C fun Û ò xs Ñ Ï eP=>?_;exact Ll Ï.r Ï.base eP h3 fun ó ļ z S K B V=>by
   rw[h4]at B V;exact hq _ _ _ (Ñ.trans S.toGst) (Ï.next S K B) V
 ·subst e;exact absurd hb (by decide)
theorem EX{Y:Sta}{k:FH}{l:List V}:∀{vs:List Value},vs.length=l.length→(∀(j:Nat) v x,vs[j]? =some v→l[j]? =some x→Rep Y k x v)→Ý Y k l vs:=by
 induction l with
 |nil=>exact fun h À=>List.length_eq_zero_iff.mp h
 |cons x l ih=>
  intro vs h hh
  induction vs using Ŭ with
  |nil=>cases h
  |cons v vs=>exact⟨v,vs,rfl,hh 0 v x rfl rfl,ih (Nat.succ.inj h) fun j v x h1 h2=>hh (j+1) v x h1 h2⟩
theorem Jx{p q:Int}(hg:cg Z K)(h1:Ļ prog w Z d as S ⟨H,ρ,κ⟩ vs)(h2:Ē H vs=some (H₁,[.int p,.int q]))(h3:(ą p&&ą q)=true):ű prog w Z d (.bl 10 as) S ⟨H₁++[.lst (mJ p (q - p).toNat)],ρ,κ⟩ (.Ó H₁.length):=by
 intro cx x env A g s Q E hx C hq;obtain⟨f,np,ys,pos,rfl,hp,⟨hf,e1,h|⟨h,_⟩⟩|⟨_,hf,y,rfl,hy⟩⟩:=iv hx
 ·exact à h
 ·exact à h
 have b1:=Ž (oa h3).1;have b2:=Ž (oa h3).2;obtain⟨r,np',ys,p',rfl,mM,⟨Ta,e1,_⟩|⟨h,_⟩⟩:=iv hy
 case inr=>(injection h with h;exact absurd h (by decide))
 refine aw (ō hg C.e C.base hf fun z hz=>?_);obtain rfl:z=.type "list":=hz;refine PySem.callWith_type rfl (ı rfl (spliced_more ?_));refine gU hg Ta (by decide) mM e1 h1 h2 C fun Û ò xs Ñ Ï eP=>?_;obtain⟨x,r,rfl,⟨tx,rfl⟩,y,r',rfl,⟨ty,rfl⟩,hr⟩:=eP;obtain rfl:r'=[]:=hr;refine call_range_2 (cv Ï (o:={cls:=.type "range",data:=.fields #[.int p tx,.int q ty,.int 1 ò.toks]}) rfl (ò.toks+1) fun ó Í æ=>spliced_none ?_);have oZ:Builtin.Range.rangeSize p q 1=((q - p).toNat:Int):=rA p q;show õ prog w A (call (.type "list") [.ref ò.heap.objs.size]) Q E _;refine call_list_range (n:=(q - p).toNat) C.r.hd (IsRange.new _ _ _ _ _ _ _) (nT b1 b2) oZ (JH b1 b2) fun h' tk acc c kp ho hit=>?_;have hl:acc.toList.length=(q - p).toNat:=Array.length_toList.trans hit.1;refine æ.base.wL (h':=h') (vs:=acc.toList) (n:=c) (l:=mJ p (q - p).toNat) (Q:=Q) (ņ rfl) kp ho (EX (hl.trans (wo _ _).symm) fun j v x h1 h2=>?_) tk fun İ iV z S K B V=>hq _ _ _ (Ñ.trans (Í.trans S).toGst) (æ.next S K B) V
 obtain⟨t,rfl⟩:=hit.2 j v (by simpa using h1);rw[wt h2];exact⟨t,by rw[Int.mul_one]⟩
end
section
set_option maxRecDepth 100000
theorem nK:Slot "bytes" "find" "bytes.find":=
 .of (owner:="bytes") (n:="find") (by rw[typeLookup_type,builtinLookup_eq_fast];kernel_rfl) (by decide+kernel) (by decide+kernel) (by decide+kernel)
  (by first|exact .inl (by decide+kernel)|exact .inr (by decide+kernel)) (by rw[isSubtype_type];kernel_rfl)
theorem xW:typeOf (.builtin "bytes.find")=pure (.type "method_descriptor"):=by show builtinType _=_;rw[builtinType_eq_fast];kernel_rfl
theorem vx:entryFor table "bytes.find"=some Builtin.«bytes.find»:=entryFor_of_tree (by kernel_rfl)
theorem zg(a b c d:Value):argsOk "bytes.find" ⟨[a,b,c,d],[]⟩:=by unfold argsOk;kernel_rfl
theorem nJ:Slot "bytes" "join" "bytes.join":=
 .of (owner:="bytes") (n:="join") (by rw[typeLookup_type,builtinLookup_eq_fast];kernel_rfl) (by decide+kernel) (by decide+kernel) (by decide+kernel)
  (by first|exact .inl (by decide+kernel)|exact .inr (by decide+kernel)) (by rw[isSubtype_type];kernel_rfl)
theorem xV:typeOf (.builtin "bytes.join")=pure (.type "method_descriptor"):=by show builtinType _=_;rw[builtinType_eq_fast];kernel_rfl
theorem vv:entryFor table "bytes.join"=some Builtin.«bytes.join»:=entryFor_of_tree (by kernel_rfl)
theorem zf(a b:Value):argsOk "bytes.join" ⟨[a,b],[]⟩:=by unfold argsOk;kernel_rfl
theorem kU:Slot "bytes" "strip" "bytes.strip":=
 .of (owner:="bytes") (n:="strip") (by rw[typeLookup_type,builtinLookup_eq_fast];kernel_rfl) (by decide+kernel) (by decide+kernel) (by decide+kernel)
  (by first|exact .inl (by decide+kernel)|exact .inr (by decide+kernel)) (by rw[isSubtype_type];kernel_rfl)
theorem uq:typeOf (.builtin "bytes.strip")=pure (.type "method_descriptor"):=by show builtinType _=_;rw[builtinType_eq_fast];kernel_rfl
theorem tw:entryFor table "bytes.strip"=some Builtin.«bytes.strip»:=entryFor_of_tree (by kernel_rfl)
theorem vI(a b:Value):argsOk "bytes.strip" ⟨[a,b],[]⟩:=by unfold argsOk;kernel_rfl
noncomputable def kT:Nat→String
 |1=>"str"|2=>"str"|3=>"str"|4=>"bytes"|5=>"bytes"|6=>"bytes"|7=>"list"|8=>"dict"|9=>"list"|10=>"list"|11=>"list"|_=>""
noncomputable def Nz:Nat→String
 |1=>"str.split"|2=>"str.lower"|3=>"str.join"|4=>"bytes.join"|5=>"bytes.find"|6=>"bytes.strip"|7=>"list.index"|8=>"dict.get"|9=>"list.append"|10=>"list.pop"|11=>"list.extend"|_=>""
noncomputable def SW:Nat→Õ
 |1=>"split"|2=>"lower"|3=>"join"|4=>"join"|5=>"find"|6=>"strip"|7=>"index"|8=>"get"|9=>"append"|10=>"pop"|11=>"extend"|_=>""
structure Pm(k:Nat):Prop where
 pa:PlainAttrs (kT k)
 slot:Slot (kT k) (SW k) (Nz k)
 ty:typeOf (.builtin (Nz k))=pure (.type "method_descriptor")
theorem Np:∀k,1≤k→k≤11→Pm k
 |1,_,_=>⟨PySem.F.plainAttrs_str,PySem.F.slot_str_split,PySem.F.type_str_split⟩
 |2,_,_=>⟨PySem.F.plainAttrs_str,PySem.F.slot_str_lower,PySem.F.type_str_lower⟩
 |3,_,_=>⟨PySem.F.plainAttrs_str,PySem.F.slot_str_join,PySem.F.type_str_join⟩
 |4,_,_=>⟨FB.plainAttrs_bytes,nJ,xV⟩
 |5,_,_=>⟨FB.plainAttrs_bytes,nK,xW⟩
 |6,_,_=>⟨FB.plainAttrs_bytes,kU,uq⟩
 |7,_,_=>⟨PySem.F.plainAttrs_list,PySem.F.slot_list_index,PySem.F.type_list_index⟩
 |8,_,_=>⟨PySem.F.plainAttrs_dict,PySem.F.slot_dict_get,PySem.F.type_dict_get⟩
 |9,_,_=>⟨PySem.F.plainAttrs_list,PySem.F.slot_list_append,PySem.F.type_list_append⟩
 |10,_,_=>⟨PySem.F.plainAttrs_list,PySem.F.slot_list_pop,PySem.F.type_list_pop⟩
 |11,_,_=>⟨PySem.F.plainAttrs_list,PySem.F.slot_list_extend,PySem.F.type_list_extend⟩
 |0,h,_=>by exact absurd ‹_› (sH _)
 |n+12,_,h=>by exact absurd ‹_› (Ũ (î _ _))
theorem pk{M:Model}{A:Around}{E:Value→Shared→Prop}{s:Shared}{x:Int}{v:Tok}{Q:Option Int→Shared→Prop}(h:Q (some x) s):wpAny M A (Builtin.Bytes.bound? (some (.int x v))) Q E s:=by
 show wpAny M A (specialOf (.int x v) "__index__">>=fun r=>_) Q E s;refine wpAny_bind (wpAny_specialOf (T:="int") (typeIs_int s x v) PySem.F.slot_int_index.lookup ?_);simp only[Option.isNone_some,Bg,if_false];exact wpAny_bind (wpAny_of_eq (a:=x) rfl (wpAny_pure h))
theorem uU(b c:Array UInt8)(t u v1 v2:Tok)(x y:Int):
  Meets (Builtin.«bytes.find» ⟨[.bytes b t,.bytes c u,.int x v1,.int y v2],[]⟩)
   (fun A R s=>∃r:Option Nat,((if(Builtin.Bytes.window b.size (some x) (some y)).2 - (Builtin.Bytes.window b.size (some x) (some y)).1<c.size then(none:Option (Nat×Nat))else some ((Builtin.Bytes.window b.size (some x) (some y)).1.toNat,(Builtin.Bytes.window b.size (some x) (some y)).2.toNat)).bind fun p=>Builtin.Bytes.find? b c p.1 p.2)=r∧
    ∀t' k,R (.ok (.ret (.int (match r with|some i=>(i:Int)|none=> -1) t'))) {s with toks:=k}):=
 .of_wp fun prog w A R s h=>by
  obtain⟨hp,g,d,tk,os⟩:=s;obtain⟨r,hr,h⟩:=h;show wpAny _ _ (Builtin.Bytes.searchArgs .bytes "find" ⟨[.bytes b t,.bytes c u,.int x v1,.int y v2],[]⟩>>=fun r=>_) _ _ _;refine wpAny_bind ?_;unfold Builtin.Bytes.searchArgs;refine wpAny_bind (wpAny_of_eq (a:=(Value.bytes b t,[Value.bytes c u,Value.int x v1,Value.int y v2])) rfl ?_);refine wpAny_bind (pk ?_);refine wpAny_bind (pk ?_);refine wpAny_bind (wpAny_of_eq (a:=some c) KBy.buffer_eq ?_);refine wpAny_bind (wpAny_pure ?_);refine wpAny_bind (wpAny_of_eq (a:=b) rfl ?_);refine wpAny_pure ?_;have Ta:((if(Builtin.Bytes.window b.size (some x) (some y)).2 - (Builtin.Bytes.window b.size (some x) (some y)).1<c.size then(none:Option (Nat×Nat))else some ((Builtin.Bytes.window b.size (some x) (some y)).1.toNat,(Builtin.Bytes.window b.size (some x) (some y)).2.toNat)).bind fun (lo,hi)=>if false=true then Builtin.Bytes.rfind? b c lo hi else Builtin.Bytes.find? b c lo hi)=r:=by
   rw[←hr];rfl
  show wpAny _ _ (match((if(Builtin.Bytes.window b.size (some x) (some y)).2 - (Builtin.Bytes.window b.size (some x) (some y)).1<c.size then(none:Option (Nat×Nat))else some ((Builtin.Bytes.window b.size (some x) (some y)).1.toNat,(Builtin.Bytes.window b.size (some x) (some y)).2.toNat)).bind fun (lo,hi)=>if false=true then Builtin.Bytes.rfind? b c lo hi else Builtin.Bytes.find? b c lo hi)with|some i=>_|none=>_) _ _ _;rw[Ta]
  induction r using š with
  |some i=>
   refine wpAny_bind (wpAny_mkInt (wpAny_pure ⟨_,rfl,h _ _⟩))
  |none=>
   refine wpAny_bind (wpAny_rule (wpAny_bind (wpAny_mkInt (wpAny_pure ⟨_,rfl,h _ _⟩))))
theorem r8(b c:Array UInt8)(t u:Tok):
  Meets (Builtin.«bytes.strip» ⟨[.bytes b t,.bytes c u],[]⟩)
   (fun A R s=>b.size≤sizeLine∧∀t' k,R (.ok (.ret (.bytes (cE c.contains (cE c.contains b.toList).reverse).reverse.toArray t'))) {s with toks:=k}):=
 .of_wp fun prog w A R s h=>by
  obtain⟨hp,g,d,tk,os⟩:=s;obtain⟨hz,h⟩:=h;have hle:(cE c.contains (cE c.contains b.toList).reverse).reverse.length≤b.size:=by
   have h1:=(Bf c.contains (l:=(cE c.contains b.toList).reverse)).length_le;have h2:=(Bf c.contains (l:=b.toList)).length_le;simp only[ot,Array.length_toList]at h1 h2 ⊢;exact è ‹_› ‹_›
  repeat (first|(with_reducible first|refine bT ?_|refine wpAny_pure ?_|refine wpAny_bind ?_|refine wpAny_rule ?_)|((with_reducible refine wpAny_ite_false ?_ ?_);focus (rfl;done))|((with_reducible refine wpAny_ite_true ?_ ?_);focus (rfl;done))|wp_delta|wp_step)
  simp only[if_true]
  split
  ·rename_i hc
   repeat (first|(with_reducible first|refine wpAny_pure ?_|refine wpAny_bind ?_|refine wpAny_rule ?_)|((with_reducible refine wpAny_ite_false ?_ ?_);focus (rfl;done))|((with_reducible refine wpAny_ite_true ?_ ?_);focus (rfl;done))|wp_delta|wp_step)
   refine⟨_,rfl,?_⟩;have e:(cE c.contains (cE c.contains b.toList).reverse).reverse.toArray=b:=by
    have h2:=Bf c.contains (l:=b.toList);have h1:=Bf c.contains (l:=(cE c.contains b.toList).reverse);have Ga:(cE c.contains (cE c.contains b.toList).reverse).length=b.toList.length:=by
     have:=eq_of_beq hc
     rwa [ot,←Array.length_toList]at this
    have l1:(cE c.contains (cE c.contains b.toList).reverse).length≤(cE c.contains b.toList).length:=by
     have:=h1.length_le
     rwa [ot]at this
    have l2:=h2.length_le;have q2:cE c.contains b.toList=b.toList:=h2.eq_of_length (by exact ŵ (â [_,_] (.c Â È .z) Â È rfl l2) (â [_,_,_] (.c Â á (.c á È .z)) Â È rfl (ņ Ga.symm) l1));have q1:=h1.eq_of_length (by rw[ot];exact ŵ (â [_,_] (.c Â È .z) Â È rfl l1) (â [_,_,_] (.c á È (.c Â á .z)) Â È rfl (ņ Ga.symm) l2));rw[q1,List.reverse_reverse,q2,Array.toArray_toList]
   have:=h t tk;rw[e]at this;exact this
  ·repeat (first|(with_reducible first|refine wpAny_pure ?_|refine wpAny_bind ?_|refine wpAny_rule ?_)|((with_reducible refine wpAny_ite_false ?_ ?_);focus (rfl;done))|((with_reducible refine wpAny_ite_true ?_ ?_);focus (rfl;done))|wp_delta|wp_step)
   refine wpAny_ite ?_;rw[if_neg (by rw[ź];exact fun eH=>Nc [_,_,_] (.c Â È (.c á Â (.c (.a È Á) á .z))) rfl hz hle eH)];refine wpAny_bind (wpAny_fresh (wpAny_pure ?_))
   repeat (first|(with_reducible first|refine wpAny_pure ?_|refine wpAny_bind ?_|refine wpAny_rule ?_)|((with_reducible refine wpAny_ite_false ?_ ?_);focus (rfl;done))|((with_reducible refine wpAny_ite_true ?_ ?_);focus (rfl;done))|wp_delta|wp_step)
   exact⟨_,rfl,h _ _⟩
theorem r9(b c:Array UInt8)(t u:Tok)(l:Addr)(n:Nat):
  Meets (Builtin.«bytes.join» ⟨[.bytes b t,.ref l],[]⟩)
   (fun A R s=>(s.heap.get? l=some {cls:=.type "list",data:=.seq #[.bytes c u] n})∧R (.ok (.ret (.bytes c u))) s):=
 .of_wp fun prog w A R s h=>by
  obtain⟨hp,g,d,tk,os⟩:=s;obtain⟨h,hr⟩:=h
  repeat (first|(with_reducible first|refine bT ?_|refine wpAny_loadPart' h ?_|refine wpAny_pure ?_|refine wpAny_bind ?_|refine wpAny_rule ?_)|((with_reducible refine wpAny_ite_false ?_ ?_);focus (rfl;done))|((with_reducible refine wpAny_ite_true ?_ ?_);focus (rfl;done))|wp_delta|wp_step)
  exact⟨_,rfl,hr⟩
section
variable{g:Gh}{s:Shared}{H:List Cell}{d k:Nat}{vs:List V}{xs:List Value}{v o:V}{u:Value}{Q:Value→Shared→Prop}{E:Value→Shared→Prop}
inductive my(Z:ę):Prop
 |mk (o:Obj) (e:DictEntry) (r:List DictEntry) (n:Nat) (m:Addr) (om:Obj) (h1:Z.sh.heap.get? sysModules=some o) (h2:o.data=.dict (e::r).toArray n) (h3:e.val=.ref m) (h4:Z.sh.heap.get? m=some om) (h5:m≠Z.tab) (h6:sysModules≠Z.tab) (h7:om.cls=.type "module") (h8:∀fd,om.data≠.func fd)
theorem EY{Y:Sta}{k:FH}{m:Addr}(h:Rep Y k v (.ref m)):∃o,k m=some o∧(o.cls≠.type "module"∨∃fd,o.data=.func fd):=by
 induction v using V.casesOn with
 |none=>exact neT PySem.Value.ctorIdx h rfl
 |bool=>exact neT PySem.Value.ctorIdx h rfl
 |int=>obtain⟨t,h⟩:=h;exact neT PySem.Value.ctorIdx h rfl
 |str=>obtain⟨t,h⟩:=h;exact neT PySem.Value.ctorIdx h rfl
 |bytes=>obtain⟨b,t,h,_⟩:=h;exact neT PySem.Value.ctorIdx h rfl
 |tup=>obtain⟨a,o,vs,ea,k,⟨n,rfl⟩,_⟩:=h;(injection ea with ea;subst ea);exact⟨_,k,.inl (by simp)⟩
 |lst=>obtain⟨a,o,vs,ea,k,⟨n,rfl⟩,_⟩:=h;(injection ea with ea;subst ea);exact⟨_,k,.inl (by simp)⟩
 |aY=>obtain⟨a,o,vs,ea,k,⟨n,rfl⟩,_⟩:=h;(injection ea with ea;subst ea);exact⟨_,k,.inl (by simp)⟩
 |ins=>obtain⟨a,o,dx,od,es,ea,k,hI,_⟩:=h;(injection ea with ea;subst ea);exact⟨_,k,.inl (by rw[hI.1];simp)⟩
 |Ó=>exact h.elim
 |g_=>obtain⟨a,o,fd,c,c₁,c₂,oc,ň,aG,cO,cN,ea,k,Wq,_⟩:=h;(injection ea with ea;subst ea);exact⟨_,k,.inr ⟨_,Wq⟩⟩
theorem my.ne(hs:my Z)(B:Base Z g s H){l:List (List Nat×V)}{a:Addr}(h:Rep Z.toSta g.k (.aY l) (.ref a)):(a==sysModules)=false:=by
 rw[beq_eq_false_iff_ne];intro ea';obtain⟨o,e,r,n,m,om,h1,h2,h3,h4,h5,h6,h7,h8⟩:=hs;obtain⟨a',o',es,ea,k,⟨n',rfl⟩,nd,rd⟩:=h;have ea:=Value.ref.inj ea;have k1:g.k sysModules=some o:=Gh.Ś (B.top _ _ h1 h6);rw[←ea,ea',k1]at k;rw[ë k]at h2;have Z7:es=e::r:=by
  injection h2 with h2 _
  simpa using congrArg Array.toList h2
 subst Z7
 induction l using Ŭ with
 |nil=>exact nC rd
 |cons p l=>
  obtain⟨t,v,r',he,hv,_⟩:=rd;injection he with he _
  rw[he]at h3;have h3:v=.ref m:=h3;subst h3;obtain⟨aG,k2,q⟩:=EY hv;rw[show g.k m=some om from Gh.Ś (B.top _ _ h4 h5)]at k2;obtain rfl:=ë k2;exact q.elim (fun q=>q h7) fun ⟨fd,q⟩=>h8 fd q
theorem EI{k:FH}{Y:Sta}{l:List V}:∀{x:List (List Nat)} {xs:List Value},uy l=some x→Ý Y k l xs→∃tl:List (Õ×Tok),xs=strValues tl∧tl.map (·.1)=x.map fun y=>(⟨⟨y⟩⟩:Õ):=by
 induction l with
 |nil=>exact fun {x xs} h r=>⟨[],r,(ë h)▸rfl⟩
 |cons v t ih=>
  intro x xs h r;obtain⟨z,r',e,hz,hr⟩:=r;refine ï h fun y h1 h=>?_;refine cK h fun x' h2 h3=>?_;obtain⟨tk,e'⟩:=uH h1 hz;obtain⟨tl,e1,e2⟩:=ih h2 hr;exact⟨(⟨⟨y⟩⟩,tk)::tl,by rw[e,e',e1];rfl,by rw[←h3,Ŏ,Ŏ,e2]⟩
theorem vh(l:List (List Nat)):Txt.join ⟨⟨[]⟩⟩ (l.map fun y=>(⟨⟨y⟩⟩:Õ))=⟨⟨l.flatten⟩⟩:=by
 have e:Txt.join ⟨⟨[]⟩⟩ (l.map fun y=>(⟨⟨y⟩⟩:Õ))=PySem.Str.join ⟨#[]⟩ (l.map fun y=>(⟨⟨y⟩⟩:Õ)):=eq_of_beq (PyProof.Rows.join_closes rfl);rw[e]
 induction l with
 |nil=>rfl
 |cons x r ih=>
  rw[Ŏ,PyProof.Rows.join_nil_cons,ih ?_,List.flatten_cons,wc];exact eq_of_beq (PyProof.Rows.join_closes rfl)
theorem JS{b:Array UInt8}{y:UInt8}{a:Nat}(h:a<b.size):(b.extract (0+a) (0+a+1)== #[y])=ö b[a].toNat y.toNat:=by
 have e2:b.extract (0+a) (0+a+1)= #[b[a]]:=by
  apply Array.ext';rw[Array.toList_extract];simp[Hx (show a<b.toList.length by simpa using h)]
 rw[e2,oO];constructor
 ·intro h;have h: #[b[a]]= #[y]:=eq_of_beq h;have:b[a]=y:=by simpa using h
  rw[this];exact qm _
 ·intro h;have:b[a]=y:=UInt8.toNat_inj.mp (ġ h);rw[this];simp
theorem td{b:Array UInt8}{y:UInt8}(n:Nat):∀(a:Nat),a+n≤b.size→(((bQ n).map (· +a)).find? fun i=>b.extract i (i+1)== #[y])=iA y.toNat (((b.toList.map (·.toNat)).drop a).take n) a:=by
 induction n with
 |zero=>exact fun a À=>rfl
 |succ n ih=>
  intro a h;have BL:a<b.size:=by exact ń (Ż _ _) ‹_›
  have e:(b.toList.map (·.toNat)).drop a=b[a].toNat::(b.toList.map (·.toNat)).drop (a+1):=by
   rw[Hx (by simpa using BL)];simp
  rw[e,List.take_succ_cons,List.range_succ_eq_map,Ŏ,List.find?_cons,JS BL];show _=if ö b[a].toNat y.toNat then _ else _
  induction q:ö b[a].toNat y.toNat using ñ with
  |true=>exact congrArg some (eZ a)
  |false=>
   refine Eq.trans (congrArg (List.find? _) ?_) (ih (a+1) (by exact â [_,_,_] (.c (.a Â (.a È Á)) á .z) (.a (.a Â Á) È) á rfl h));rw[List.map_map];exact List.map_congr_left fun i À=>by show i+1+a=i+(a+1);exact wV _ _
theorem mj{c:Array UInt8}{s:List Nat}(hc:c.toList.map (·.toNat)=s)(l:List UInt8):(l.dropWhile c.contains).map (·.toNat)=iC s (l.map (·.toNat)):=by
 induction l with
 |nil=>rfl
 |cons x r ih=>
  have e:s.any (ö x.toNat)=c.contains x:=by
   rw[←iD hc x.toNat x.toNat_lt];congr 1;simp
  rw[List.dropWhile_cons,Ŏ];show _=if s.any (ö x.toNat)then iC s (r.map (·.toNat))else x.toNat::r.map (·.toNat)
  rw[e]
  induction c.contains x using ñ with
  |true=>exact ih
  |false=>rfl
theorem Fw(c:Nat):dP c=lo1 c:=by
 unfold dP lo1
 by_cases h:65≤c∧c≤90
 ·rw[if_pos h,if_pos (by rw[wZ h.1,wZ h.2];rfl)]
 ·rw[if_neg h,if_neg];intro h';exact h ⟨dU (oa h').1,dU (oa h').2⟩
structure Pr(Y:Sta)(k:FH)(x:V)(xs:List Value)(j:Nat):Prop where
 lt:j<xs.length
 is:∀y,xs[j]? =some y→vt Y k x y=true
 no:∀i y,i<j→xs[i]? =some y→vt Y k x y=false
theorem BF{Y:Sta}{k:FH}{x:V}{l:List V}:∀{xs:List Value} {m n:Nat},Ý Y k l xs→idxOf x l m=some n→∃j,n=m+j∧Pr Y k x xs j:=by
 induction l with
 |nil=>exact(fun À q=>nS q)
 |cons v t ih=>
  intro xs m n r h;obtain⟨y,r',rfl,h1,h2⟩:=r;refine ï h fun p q h=>?_
  induction p using ñ with
  |true=>
   refine ï h fun À À h=>?_;exact⟨0,(ë h).symm,ī _,fun z hz=>ë hz▸kJ h1 q,fun i À hi=>absurd hi (Nat.not_lt_zero i)⟩
  |false=>
   obtain⟨j,e,a,b,c⟩:=ih h2 h;refine⟨j+1,by exact ŵ (â [_,_,_] (.c Â (.a (.a È Á) á) .z) Â (.a È (.a á Á)) rfl (ņ e)) (â [_,_,_] (.c (.a (.a Â Á) È) á .z) (.a Â (.a È Á)) á rfl (ņ e.symm)),Nat.succ_lt_succ a,b,fun i z hi hz=>?_⟩
   induction i using mK with
   |zero=>exact ë hz▸kJ h1 q
   |succ i=>exact c i z (Bi hi) hz
theorem yM{x:V}{l:List V}:∀{m n:Nat},idxOf x l m=some n→∃r,fb x l=some r:=by
 induction l with
 |nil=>exact(fun q=>nS q)
 |cons v t ih=>
  intro m n h;refine ï h fun p q h=>?_;have e:∀{r},fb x t=some r→∃r,fb x (v::t)=some r:=fun {r} h=>⟨_,by show(gO v x).bind (fun p=>(fb x t).bind _)=_;rw[q,h];rfl⟩
  induction p using ñ with
  |true=>refine ï h fun r h2 À=>?_;exact e h2
  |false=>obtain⟨r,h2⟩:=ih h;exact e h2
theorem nE:Builtin.Str.partsBetween ⟨⟨uv⟩⟩ (Builtin.Str.occurrences ⟨⟨uv⟩⟩ ⟨⟨[32]⟩⟩ 0 (PySem.Str.length ⟨⟨uv⟩⟩) (PySem.Str.length ⟨⟨uv⟩⟩+1)) (PySem.Str.length ⟨⟨[32]⟩⟩)=
  [⟨⟨[92,83,101,101,110]⟩⟩,⟨⟨[92,65,110,115,119,101,114,101,100]⟩⟩,⟨⟨[92,70,108,97,103,103,101,100]⟩⟩,⟨⟨[92,68,101,108,101,116,101,100]⟩⟩,⟨⟨[92,68,114,97,102,116]⟩⟩]:=by decide+kernel
theorem yb:eh uv []=[.str [92,83,101,101,110],.str [92,65,110,115,119,101,114,101,100],.str [92,70,108,97,103,103,101,100],.str [92,68,101,108,101,116,101,100],.str [92,68,114,97,102,116]]:=by kernel_rfl
theorem SM(B:Base Z g s H)(ho:Rep Z.toSta g.k o u)(r:Ý Z.toSta g.k vs xs)(h:n9 1 o vs=some v)(hq:Đ Z g s H v Q):õ prog w A (call (.builtin "str.split") (u::xs)) Q E s:=by
 refine ï h fun l h1 h=>?_;refine ï h fun a h2 h=>?_;refine ï h fun b h3 h=>?_
 (have h4:=cz h;have h:=cq h)
 obtain⟨x,rfl,hx⟩:=rep1 h2 r;obtain⟨t,rfl⟩:=uH h1 ho;obtain⟨t',rfl⟩:=uH h3 hx;have e1:=þ (oa h4).1;have e2:=þ (oa h4).2;have e3:=ë h;subst e1 e2 e3;refine call_meets PySem.F.slot_str_split (typeIs_str _ _ _) PySem.F.entry_str_split (PySem.F.args_str_split_2 _ _) (meets_str_split_sep ⟨⟨uv⟩⟩ ⟨⟨[32]⟩⟩ t t' (by decide+kernel) (by decide+kernel) (by decide+kernel) (by decide+kernel) (by rw[nE];decide+kernel)) ?_;rw[nE];rw[yb]at hq;refine B.fK (n:=0) (t:=s.toks+5) (Q:=Q) ?_ hq;exact⟨_,_,rfl,⟨_,rfl⟩,_,_,rfl,⟨_,rfl⟩,_,_,rfl,⟨_,rfl⟩,_,_,rfl,⟨_,rfl⟩,_,_,rfl,⟨_,rfl⟩,rfl⟩
theorem Bb{l:List Nat}(h:ascii l=true):Txt.lower ⟨⟨l⟩⟩=⟨⟨l.map dP⟩⟩:=by
 have hA:∀c∈l,c<128:=fun c hc=>bR.mp (kg.mp h c hc)
 rw[lower_ascii (x:=⟨⟨l⟩⟩) (by simpa using hA)]
 congr 1
 apply Array.ext';simp only[Array.toList_map];exact List.map_congr_left fun c À=>(Fw c).symm
theorem SK(B:Base Z g s H)(ho:Rep Z.toSta g.k o u)(r:Ý Z.toSta g.k vs xs)(h:n9 2 o vs=some v)(hq:Đ Z g s H v Q):õ prog w A (call (.builtin "str.lower") (u::xs)) Q E s:=by
 refine ï h fun l h1 h=>?_
 (have h4:=cz h;have h:=cq h)
 (have h6:=aD h4;have h5:=aC h4)
 obtain⟨t,rfl⟩:=uH h1 ho;have e3:=ë h;have e4:vs=[]:=emp h5;subst e3 e4;have e5:xs=[]:=r;subst e5;refine PySem.SC.lower (fit_lower (è (aW (Ĥ (oa h6).2)) (by decide))) ?_;rw[Bb (oa h6).1];exact hq.kB B (fun À q=>neT V.ctorIdx q rfl) _ ⟨_,rfl⟩
theorem SJ(B:Base Z g s H)(ho:Rep Z.toSta g.k o u)(r:Ý Z.toSta g.k vs xs)(h:n9 3 o vs=some v)(hq:Đ Z g s H v Q):õ prog w A (call (.builtin "str.join") (u::xs)) Q E s:=by
 refine ï h fun l h1 h=>?_;refine ï h fun a h2 h=>?_;refine ï h fun m h3 h=>?_;refine ï h fun x h4 h=>?_
 (have h5:=cz h;have h:=cq h)
 (have h7:=aD h5;have h6:=aC h5)
 obtain⟨y,rfl,hy⟩:=rep1 h2 r;obtain⟨t,rfl⟩:=uH h1 ho;have e1:=emp h6;have e2:=ë h;have e3:=iL h3;subst e1 e2 e3;obtain⟨c,oo,ws,rfl,k,q,rl⟩:=hy;obtain⟨tl,rfl,e2⟩:=EI h4 rl;have z2:=Ĥ (oa h7).2;refine SC.join (Base.isList (B.sub k) q) e2 (joinOk_of ?_) fun t' k=>?_
 ·have e3:((x.map fun y=>(⟨⟨y⟩⟩:Õ)).map (·.length)).sum=x.flatten.length:=by
   rw[List.length_flatten,List.map_map]
   congr 1
  rw[e3];show _+_*0≤_;exact aW (ip ‹_› (by decide))
 ·rw[vh];exact hq.kB B (fun À q=>neT V.ctorIdx q rfl) k ⟨t',rfl⟩
theorem SI(B:Base Z g s H)(ho:Rep Z.toSta g.k o u)(r:Ý Z.toSta g.k vs xs)(h:n9 4 o vs=some v)(hq:Đ Z g s H v Q):õ prog w A (call (.builtin "bytes.join") (u::xs)) Q E s:=by
 refine ï h fun l h1 h=>?_;refine ï h fun a h2 h=>?_;refine ï h fun m h3 h=>?_;refine ï h fun x h4 h=>?_;refine ï h fun c h5 h=>?_;have h:=cq h;obtain⟨y,rfl,hy⟩:=rep1 h2 r;have e1:=iB h1;have e2:=ë h;have e3:=iL h3;have e4:=iB h5;subst e1 e2 e3 e4;obtain⟨bb,t,rfl,hb⟩:=ho;obtain⟨ad,oo,ws,rfl,k,⟨n,rfl⟩,rl⟩:=hy;obtain⟨z,rfl,cc,u,rfl,LW⟩:=rep1 h4 rl;exact call_meets nJ (typeIs_bytes _ _ _) vv (zf _ _) (r9 bb cc t u ad n) ⟨B.sub k,hq.kB B (fun À q=>neT V.ctorIdx q rfl) s.toks ⟨cc,u,rfl,LW⟩⟩
theorem find_eq{bb:Array UInt8}{c0:UInt8}{l:List Nat}{a b:Int}(hb:bb.toList.map (·.toNat)=l)(h2:0≤a)(h3:a≤b)(h4:b≤l.length):
  ((if(Builtin.Bytes.window bb.size (some a) (some b)).2 - (Builtin.Bytes.window bb.size (some a) (some b)).1<(#[c0]:Array UInt8).size then(none:Option (Nat×Nat))else some ((Builtin.Bytes.window bb.size (some a) (some b)).1.toNat,(Builtin.Bytes.window bb.size (some a) (some b)).2.toNat)).bind fun p=>Builtin.Bytes.find? bb #[c0] p.1 p.2)=iA c0.toNat (part l a.toNat b.toNat) a.toNat:=by
 have hlen:bb.size=l.length:=by rw[←hb,ĕ,Array.length_toList]
 have ew:Builtin.Bytes.window bb.size (some a) (some b)=(a,b):=by
  unfold Builtin.Bytes.window;have e1:¬a<0:=by exact bP.mpr ‹_›
  have e2:¬b<0:=by exact fun eH=>si [_,_] (.c đ Â (.c Â È (.c (.a È Á) đ .z))) rfl h2 h3 eH
  simp only[Option.getD_some,e1,e2,if_false];exact congrArg (Prod.mk a) (Int.min_eq_right (hlen.symm▸h4))
 rw[ew];show(if b - a<((1:Nat):Int)then none else some (a.toNat,b.toNat)).bind _=_;unfold part
 by_cases Gd:b - a<((1:Nat):Int)
 ·rw[if_pos Gd,show b.toNat - a.toNat=0 from Nat.sub_eq_zero_of_le (Int.toNat_le_toNat (Int.le_of_sub_nonpos (Int.lt_add_one_iff.mp Gd))),List.take_zero];rfl
 ·rw[if_neg Gd];show Builtin.Bytes.find? bb #[c0] a.toNat b.toNat=_;unfold Builtin.Bytes.find?;have e3:b.toNat+1 - (a.toNat+ #[c0].size)=b.toNat - a.toNat:=Nat.add_sub_add_right ..;rw[e3,←hb];exact td _ _ (è (ņ (Nat.add_sub_cancel' (Int.toNat_le_toNat h3))) (Int.toNat_le.mpr (hlen.symm▸h4)))
theorem AN{cc:Array UInt8}{x:Nat}(h:cc.toList.map (·.toNat)=[x]):∃y:UInt8,cc= #[y]∧y.toNat=x:=by
 obtain⟨c⟩:=cc
 induction c using Ŭ with
 |nil=>cases h
 |cons y r=>induction r using Ŭ with
  |nil=>exact⟨y,rfl,(List.cons.inj h).1⟩
  |cons z r=>cases h
theorem SH(B:Base Z g s H)(ho:Rep Z.toSta g.k o u)(r:Ý Z.toSta g.k vs xs)(h:n9 5 o vs=some v)(hq:Đ Z g s H v Q):õ prog w A (call (.builtin "bytes.find") (u::xs)) Q E s:=by
 refine ï h fun l h1 h=>?_;refine ï h fun p h2 h=>?_;refine ï h fun c h3 h=>?_;refine ï h fun x h4 h=>?_;obtain⟨⟨a,b⟩,h5,h⟩:=ob h
 (have hc:=cz h;have h:=cq h)
 (have g4:=aC hc;have hc:=aD hc)
 (have g3:=aC hc;have hc:=aD hc)
 refine ï h5 fun i h6 h5=>?_;refine ï h5 fun j h7 h5=>?_;have e1:=iB h1;have e2:=ë h;have e3:=ë h5;rw[i3 h2]at r;obtain⟨y,_,rfl,hy,z,_,rfl,hz,z',t,rfl,ZJ,e⟩:=r;have e:t=[]:=e;subst e1 e2 e;rw[iB h3,i1 h4]at hy;obtain⟨bb,t,rfl,hb⟩:=ho;obtain⟨cc,u,rfl,LW⟩:=hy;obtain⟨t1,rfl⟩:=rint h6 hz;obtain⟨t2,rfl⟩:=rint h7 ZJ;cases e3;obtain⟨c0,rfl,rfl⟩:=AN LW;have g2:=gT (oa hc).2;have g3:=gT g3;have g4:=gT g4;refine call_meets nK (typeIs_bytes _ _ _) vx (zg _ _ _ _) (uU bb #[c0] t u t1 t2 a b) ⟨_,find_eq hb g2 g3 g4,fun t' k=>?_⟩;exact hq.kB B (fun À q=>neT V.ctorIdx q rfl) k ⟨t',rfl⟩
theorem SG(B:Base Z g s H)(ho:Rep Z.toSta g.k o u)(r:Ý Z.toSta g.k vs xs)(h:n9 6 o vs=some v)(hq:Đ Z g s H v Q):õ prog w A (call (.builtin "bytes.strip") (u::xs)) Q E s:=by
 refine ï h fun l h1 h=>?_;refine ï h fun a h2 h=>?_;refine ï h fun c h3 h=>?_
 (have hz:=cz h;have h:=cq h)
 obtain⟨y,rfl,hy⟩:=rep1 h2 r;have e1:=iB h1;have e2:=ë h;have e3:=iB h3;subst e1 e2 e3;obtain⟨bb,t,rfl,hb⟩:=ho;obtain⟨cc,u,rfl,LW⟩:=hy;have hlen:bb.size=l.length:=by rw[←hb,ĕ,Array.length_toList]
 refine call_meets kU (typeIs_bytes _ _ _) tw (vI _ _) (r8 bb cc t u) ⟨hlen▸ŗ hz,fun t' k=>hq.kB B (fun À q=>neT V.ctorIdx q rfl) k ⟨_,t',rfl,?_⟩⟩;show((cE cc.contains (cE cc.contains bb.toList).reverse).reverse).map _=_;rw[List.map_reverse,mj LW,List.map_reverse,mj LW,hb]
theorem SD(hr:ŕ d A g)(B:Base Z g s H)(ho:Rep Z.toSta g.k o u)(r:Ý Z.toSta g.k vs xs)(h:n9 7 o vs=some v)(hq:Đ Z g s H v Q):õ prog w A (call (.builtin "list.index") (u::xs)) Q E s:=by
 refine ï h fun l h1 h=>?_;refine ï h fun a h2 h=>?_;refine ï h fun x h3 h=>?_
 (have hz:=cz h;have h:=cq h)
 (refine cK h fun n h4 zq=>?_;obtain rfl:=zq)
 obtain⟨y,rfl,hy⟩:=rep1 h2 r;have e1:=iL h1;have e2:=iS h3;subst e1 e2;obtain⟨ad,oo,ws,rfl,k,⟨m,rfl⟩,rl⟩:=ho;have hx:=hy;obtain⟨t,rfl⟩:=hy;obtain⟨rr,Tv⟩:=yM h4;obtain⟨j,e,p2,p3,p4⟩:=BF rl h4;obtain rfl:n=j:=e.trans (eZ j);have oZ:ws.toArray.size=l.length:=ź.trans rl.len;have hO:=B.sub k;refine call_meets PySem.F.slot_list_index ⟨_,hO,rfl⟩ PySem.F.entry_list_index (PySem.F.args_list_index_2 _ _)
  (PySem.SeqAt.list_indexAt ad ws.toArray m none #[] (.str ⟨⟨x⟩⟩ t) (vt Z.toSta g.k (.str x)) n (by simpa using p2) (by have:=Ĥ hz;have:=rl.len;omega) ?_ ?_) ⟨hO,(Bz B (A:=A) (by have:=hr.units;exact â [_,_,_] (.c (.a (.a (.a Â (.m 20 á)) bM) Á) È .z) (.a (.a Â ŧ) Á) È rfl this) rl hx Tv).1,hq.kB B (fun À q=>neT V.ctorIdx q rfl) _ ⟨_,rfl⟩⟩
 ·exact p3 _ (by simp)
 ·exact fun j hj BL=>p4 j _ BL (by simp)
theorem SA(hh:Z.hash=hashStr w)(sS:my Z)(B:Base Z g s H)(ho:Rep Z.toSta g.k o u)(r:Ý Z.toSta g.k vs xs)(h:n9 8 o vs=some v)(hq:Đ Z g s H v Q):õ prog w A (call (.builtin "dict.get") (u::xs)) Q E s:=by
 induction o using V.casesOn with
 |aY l=>
  refine ï h fun p h1 h=>?_;refine ï h fun x h2 h=>?_;obtain⟨y,z,rfl,hy,hz⟩:=rep2 h1 r;obtain⟨t,rfl⟩:=uH h2 hy;have sX:=ho;obtain⟨a,oo,es,rfl,k,q1,nd,rd⟩:=ho;obtain⟨fP,kv,K6⟩:=eL (prog:=prog) hh (B.sub k) q1 nd rd;have nl:(look x l).getD p.2=v∧∀m,v≠.lst m:=by
   revert h;generalize (look x l).getD p.2=c
   induction c using V.casesOn<;>intro h<;>first|(cases h;done)|exact⟨ë h,by rw[←ë h];exact(fun À q=>neT V.ctorIdx q rfl)⟩
  refine call_meetsIn PySem.F.slot_dict_get K6.typeIs PySem.F.entry_dict_get (PySem.F.args_dict_get_3 _ _ _) (meets_dict_get_default (strKind prog w) a (nH prog w x t) (sS.ne B sX) z) ⟨_,K6.mapOf,?_⟩
  induction hl:look x l using š with
  |some e=>
   obtain⟨v',e1,e2⟩:=kv.look.1 e hl;rw[e1];exact hq.kB B nl.2 _ (show Rep Z.toSta g.k v v' from(by have:=nl.1;rw[hl]at this;exact this▸e2)).iP
  |none=>
   rw[kv.look.2 hl];exact hq.kB B nl.2 _ (show Rep Z.toSta g.k v z from(by have:=nl.1;rw[hl]at this;exact this▸hz)).iP
 |_=>exact nS h
theorem J0(hh:Z.hash=hashStr w)(sS:my Z)(hr:ŕ d A g)(B:Base Z g s H)(ho:Rep Z.toSta g.k o u)(r:Ý Z.toSta g.k vs xs)(h:n9 k o vs=some v)(hq:Đ Z g s H v Q):õ prog w A (call (.builtin (Nz k)) (u::xs)) Q E s:=by
 revert h
 match k with
 |0=>exact(fun q=>nS q)
 |1=>exact fun h=>SM B ho r h hq
 |2=>exact fun h=>SK B ho r h hq
 |3=>exact fun h=>SJ B ho r h hq
 |4=>exact fun h=>SI B ho r h hq
 |5=>exact fun h=>SH B ho r h hq
 |6=>exact fun h=>SG B ho r h hq
 |7=>exact fun h=>SD hr B ho r h hq
 |8=>exact fun h=>SA hh sS B ho r h hq
 |n+9=>exact(fun q=>nS q)
end
end
section
variable{S:St}{H H₁ Ö ų t7:List Cell}{ρ κ ß ê:List (Option V)}{d n k m:Nat}{e:PE}{as:List PE}{vs vs':List V}{v v' x x':V}{u:Value}{Q:Value→Shared→Prop}{E:Value→Shared→Prop}
noncomputable def Ss:List Õ:=["split","lower","join","find","strip","index","get","append","pop","extend"]
structure vS(Z:ę):Prop where
 all:∀a x,a<10→ç Z.ŷ a=some x→ç Ss a=some x
noncomputable def Mj:Nat→String
 |1=>"str"|2=>"bytes"|3=>"list"|4=>"dict"|_=>""
structure Pl(p:Nat×Nat×Nat):Prop where
 a:p.1<10
 n:ç Ss p.1=some (SW p.2.2)
 t:kT p.2.2=Mj p.2.1
 k1:1≤p.2.2
 k2:p.2.2≤11
 t0:p.2.1≠0
theorem Km:∀p∈V7,Pl p:=by
 refine gH.mpr ⟨⟨by decide,rfl,rfl,by decide,by decide,by decide⟩,?_⟩;refine gH.mpr ⟨⟨by decide,rfl,rfl,by decide,by decide,by decide⟩,?_⟩;refine gH.mpr ⟨⟨by decide,rfl,rfl,by decide,by decide,by decide⟩,?_⟩;refine gH.mpr ⟨⟨by decide,rfl,rfl,by decide,by decide,by decide⟩,?_⟩;refine gH.mpr ⟨⟨by decide,rfl,rfl,by decide,by decide,by decide⟩,?_⟩;refine gH.mpr ⟨⟨by decide,rfl,rfl,by decide,by decide,by decide⟩,?_⟩;refine gH.mpr ⟨⟨by decide,rfl,rfl,by decide,by decide,by decide⟩,?_⟩;refine gH.mpr ⟨⟨by decide,rfl,rfl,by decide,by decide,by decide⟩,?_⟩;refine gH.mpr ⟨⟨by decide,rfl,rfl,by decide,by decide,by decide⟩,?_⟩;refine gH.mpr ⟨⟨by decide,rfl,rfl,by decide,by decide,by decide⟩,?_⟩;exact gH.mpr ⟨⟨by decide,rfl,rfl,by decide,by decide,by decide⟩,fun À m=>absurd m qn⟩
theorem FQ{a t:Nat}{L:List (Nat×Nat×Nat)}(h0:LN a t L≠0):(a,t,LN a t L)∈L:=by
 induction L with
 |nil=>exact absurd rfl h0
 |cons p r ih=>
  have e:LN a t (p::r)=if ö p.1 a&&ö p.2.1 t then p.2.2 else LN a t r:=rfl
  induction q:(ö p.1 a&&ö p.2.1 t)using ñ with
  |true=>
   rw[q,if_pos rfl]at e;rw[e,←ġ (oa q).1,←ġ (oa q).2];exact .head _
  |false=>
   rw[q,if_neg jH]at e;rw[e]at h0 ⊢;exact .tail _ (ih h0)
theorem Nu{a:Nat}{o:Option V}(h:kd a o=k)(h0:k≠0):∃v,o=some v∧Pl (a,wa v,k):=by
 induction o using š with
 |none=>exact absurd h.symm h0
 |some v=>exact⟨v,rfl,h▸Km _ (FQ (h.symm▸h0:kd a (some v)≠0))⟩
structure Pa(s:Shared)(u:Value)(T:String):Prop where
 t:s.TypeIs u T
 d:∀b,u=.ref b→∃o,s.heap.get? b=some o∧o.dict=none
theorem zR{h:FH}(hv:ŝ Z.toSta s.heap h v u)(h0:wa v≠0):Pa s u (Mj (wa v)):=by
 induction v using V.casesOn with
 |str l=>obtain⟨t,rfl⟩:=hv;exact⟨typeIs_str _ _ _,(fun À q=>neT PySem.Value.ctorIdx q rfl)⟩
 |bytes l=>obtain⟨b,t,rfl,_⟩:=hv;exact⟨typeIs_bytes _ _ _,(fun À q=>neT PySem.Value.ctorIdx q rfl)⟩
 |lst l=>obtain⟨a,o,vs,rfl,ho,⟨n,rfl⟩,_⟩:=hv;exact⟨⟨_,ho,rfl⟩,fun b e=>⟨_,Value.ref.inj e▸ho,rfl⟩⟩
 |aY l=>obtain⟨a,o,vs,rfl,ho,⟨n,rfl⟩,_⟩:=hv;exact⟨⟨_,ho,rfl⟩,fun b e=>⟨_,Value.ref.inj e▸ho,rfl⟩⟩
 |_=>exact absurd rfl h0
theorem lF{o:Expr}{ys:List Expr}{a:Õ}{apos pos:Pos}(h1:1≤k)(h2:k≤11)(e_:SW k=a)(hT:Pa s u (kT k))(hp:plain ys=true)(sV:(apos.endLine==pos.line)=true)(hn:ys.length<20)
  (h:õ prog w A (spliced (backTo pos (starEach ys env))) (fun xs Ĉ=>õ prog w A (call (.builtin (Nz k)) (u::xs)) Q E Ĉ) E s):õ prog w A (methodCall o a apos pos env u (ys.length+0) (backTo pos (starEach ys env)) []) Q E s:=
 have F:=Np k h1 h2
 method_call hp sV hn (fun Q hQ pl=>getMethod_builtin hT.t F.pa (e_▸F.slot) F.ty hT.d hQ) fun À=>Calls.callWith_builtin (plain_any hp) (ı (plain_any hp) h)
theorem kz(e_:vS Z)(h1:ű prog w Z d e S ⟨H,ρ,κ⟩ v)(h3:kd n (view H v)=k)(h0:k≠0)(h4:Ļ prog w Z d as ⟨H,ρ,κ⟩ ⟨H₁,ß,ê⟩ vs){X:Expr}(hx:er cx X=.me e n as)(C:Ok Z d cx A env g s S)
  (hq:∀g' s' u xs,Gst g g'→Ok Z d cx A env g' s' ⟨H₁,ß,ê⟩→Ć Z g' v u→ł Z g' vs xs→õ prog w A (call (.builtin (Nz k)) (u::xs)) Q E s'):õ prog w A (eval X env) Q E s:=by
 obtain⟨y,a,ap,ys,p,rfl,hp,BJ,sV,hlen,vo,e1,e2⟩:=iv hx;rw[arm_eval_Call,eN BJ];refine wpAny_bind (h1 _ _ _ _ _ _ _ _ e1 C fun Û ò Ŷ Ñ Ï ô=>wpAny_bind (wpAny_standAt ?_));have hn:ç Z.ŷ n=some a:=C.e.ŷ▸dc vo;obtain⟨v',PT,F⟩:=Nu h3 h0;have T:=zR (Ï.view ô PT) F.t0;rw[←show kT k=_ from F.t]at T;refine lF F.k1 F.k2 (ë (F.n.symm.trans (e_.all _ _ F.a hn))) T hp sV hlen ?_;exact h4 _ _ _ _ _ _ _ _ _ e2 hp Ï fun ó ļ xs ú æ Ű=>hq _ _ _ _ (Ñ.trans ú) æ (ô.mono ú) Ű
theorem QT(e_:vS Z)(hh:Z.hash=hashStr w)(sS:my Z)(h1:ű prog w Z d e S ⟨H,ρ,κ⟩ v)(h3:kd n (view H v)=k)(hk:PO k=true)(h4:Ļ prog w Z d as ⟨H,ρ,κ⟩ ⟨H₁,ß,ê⟩ vs)(h5:Ô H₁ v=some (Ö,v'))(h6:Ē Ö vs=some (ų,vs'))(h7:n9 k v' vs'=some x)(h8:made ų x=(t7,x')):
  ű prog w Z d (.me e n as) S ⟨t7,ß,ê⟩ x':=by
 intro cx X env A g s Q E hx C hq;refine kz e_ h1 h3 (fun e=>by rw[e]at hk;exact à hk) h4 hx C fun ó ļ u xs G æ ô Ű=>?_;refine æ.base.bF h5 ô fun İ Ĩ Ş fZ=>Base.eI Ş h6 (Ű.mono Ĩ.toGst) fun BZ eO nq vQ=>?_;exact J0 hh sS (æ.r.mono (Ĩ.trans eO).toGst) nq (fZ.mono eO.k) vQ h7 fun qy Me z tR LC mG jr=>by
  rw[h8]at mG jr;exact hq _ _ _ (G.trans ((Ĩ.trans eO).trans tR).toGst) ((æ.next (Ĩ.trans eO) (.refl _) nq).next tR LC mG) jr
theorem mm(B:Base Z g s H){l:List V}(hv:Ć Z g (.Ó m) u)(h:ç H m=some (.lst l)):T3 fun a vs n=>A5 (u=.ref a) (ç g.as m=some a) (g.r a=.cell m) (s.heap.get? a=some {cls:=.type "list",data:=.seq vs.toArray n}) (Ý Z.toSta g.k l vs):=by
 obtain⟨a,h1,rfl⟩:=hv;obtain⟨a',h2,r,o,vs,q1,⟨n,rfl⟩,q3⟩:=B.cells _ _ h;obtain rfl:a=a':=ë (h1.symm.trans h2);exact⟨a,vs,n,rfl,h1,r,q1,q3⟩
theorem IC{y:V}{xs:List Value}(h:ł Z g [y] xs):∃z,xs=[z]∧Ć Z g y z:=by
 obtain⟨z,r,e,hz,hr⟩:=h;exact⟨z,e.trans (congrArg _ (show r=[]from hr)),hz⟩
theorem Rd{l:List V}(e_:vS Z)(h1:ű prog w Z d e S ⟨H,ρ,κ⟩ (.Ó m))(h3:kd n (view H (.Ó m))=9)(h4:Ļ prog w Z d as ⟨H,ρ,κ⟩ ⟨H₁,ß,ê⟩ [x])(h5:Ô H₁ x=some (Ö,x'))(h6:ç Ö m=some (.lst l))(h7:small l=true)(h8:put Ö m (.lst (l++[x']))=ų):
  ű prog w Z d (.me e n as) S ⟨ų,ß,ê⟩ .none:=by
 intro cx X env A g s Q E hx C hq;refine kz e_ h1 h3 (by decide) h4 hx C fun ó ļ u xs G æ ô Ű=>?_;obtain⟨y,rfl,hy⟩:=IC Ű;refine æ.base.bF h5 hy fun İ Ĩ Ş fZ=>?_;have Ĺ:=æ.next Ĩ (.refl _) Ş;obtain⟨ca,ws,n,rfl,q1,q2,q3,q4⟩:=mm Ş (ô.mono Ĩ.toGst) h6;refine wpAny_list_append_plain (items:=ws.toArray) ⟨n,q3⟩ (fun h' ⟨n',mM⟩ D5=>?_) ((ź.trans q4.len)▸ŗ h7);rw[List.push_toArray]at mM;exact hq _ _ _ (G.trans Ĩ.toGst) (h8▸Ĺ.cZ ļ.toks h6 q1 q2 (fun b o n e=>(D5.2 b n).trans e) mM ⟨q2,_,ws++[y],mM,⟨n',rfl⟩,q4.app ⟨y,[],rfl,fZ,rfl⟩⟩) rfl
theorem Ý.snoc_inv{Y:Sta}{k:FH}{l:List V}{x:V}:∀{vs:List Value},Ý Y k (l++[x]) vs→T2 fun ws y=>A3 (vs=ws++[y]) (Ý Y k l ws) (Rep Y k x y):=by
 induction l with
 |nil=>
  intro vs h;obtain⟨v,r,e,h1,h2⟩:=h;exact⟨[],v,e.trans (congrArg _ (show r=[]from h2)),rfl,h1⟩
 |cons d l ih=>
  intro vs h;obtain⟨v,r,e,h1,h2⟩:=h;obtain⟨ws,y,e',h3,h4⟩:=ih h2;exact⟨v::ws,y,e.trans (congrArg _ e'),⟨v,ws,rfl,h1,h3⟩,h4⟩
theorem QP{l r:List V}(e_:vS Z)(h1:ű prog w Z d e S ⟨H,ρ,κ⟩ (.Ó m))(h3:kd n (view H (.Ó m))=10)(h4:Ļ prog w Z d as ⟨H,ρ,κ⟩ ⟨H₁,ß,ê⟩ [])(h6:ç H₁ m=some (.lst l))(h7:small l=true)(h8:l.reverse=x::r)(h9:put H₁ m (.lst r.reverse)=Ö):
  ű prog w Z d (.me e n as) S ⟨Ö,ß,ê⟩ x:=by
 intro cx X env A g s Q E hx C hq;refine kz e_ h1 h3 (by decide) h4 hx C fun ó ļ u xs G æ ô Ű=>?_;have Ű:xs=[]:=Ű;subst Ű;obtain⟨ca,ws,n,rfl,q1,q2,q3,q4⟩:=mm æ.base ô h6;have el:l=r.reverse++[x]:=List.reverse_reverse l▸h8▸ar;have oZ:=(ź.trans q4.len)▸ŗ h7;rw[el]at q4;obtain⟨PB,y,rfl,p1,p2⟩:=q4.snoc_inv;refine Copied.pop_at (its:=(PB++[y]).toArray) (y:=y) q3 (by simp) (fun h' D5 mM=>?_) oZ;have e5:(PB++[y]).toArray.pop=PB.toArray:=by simp
 rw[e5]at mM;exact hq _ _ _ G (h9▸æ.cZ ļ.toks h6 q1 q2 (fun b o n e=>(D5.2 b n).trans e) mM ⟨q2,_,PB,mM,⟨n+1,rfl⟩,p1⟩) p2.iP
theorem QF{l q:List V}(e_:vS Z)(h1:ű prog w Z d e S ⟨H,ρ,κ⟩ (.Ó m))(h3:kd n (view H (.Ó m))=11)(h4:Ļ prog w Z d as ⟨H,ρ,κ⟩ ⟨H₁,ß,ê⟩ [x])(h5:Ô H₁ x=some (Ö,.lst q))(h6:ç Ö m=some (.lst l))(h7:(small l&&small q)=true)(h8:put Ö m (.lst (l++q))=ų):
  ű prog w Z d (.me e n as) S ⟨ų,ß,ê⟩ .none:=by
 intro cx X env A g s Q E hx C hq;refine kz e_ h1 h3 (by decide) h4 hx C fun ó ļ u xs G æ ô Ű=>?_;obtain⟨y,rfl,hy⟩:=IC Ű;refine æ.base.bF h5 hy fun İ Ĩ Ş fZ=>?_;have Ĺ:=æ.next Ĩ (.refl _) Ş;obtain⟨ca,ws,n,rfl,q1,q2,q3,q4⟩:=mm Ş (ô.mono Ĩ.toGst) h6;obtain⟨ba,ob,us,rfl,kb,⟨nb,rfl⟩,rb⟩:=fZ;have z1:=Ĥ (oa h7).1;have z2:=Ĥ (oa h7).2;have e1:ws.toArray.size=l.length:=ź.trans q4.len;have e2:us.toArray.size=q.length:=ź.trans rb.len;have hs:ws.toArray.size+us.toArray.size≤2^24:=by omega
 refine call_meets PySem.F.slot_list_extend ⟨_,q3,rfl⟩ PySem.F.entry_list_extend (PySem.F.args_list_extend_2 _ _) (AutoSeq1.list_extend_list_list_0 ca ws.toArray n ba us.toArray nb (fun h'=>?_) (e1▸ŗ (oa h7).1) (by show _≤2^24+1;exact è ‹_› (by decide))) ⟨q3,Ş.sub kb,?_⟩
 ·exact absurd (of_decide_eq_true (oa h').2) (Nat.not_lt.mpr hs)
 ·have hu:=IsL.update (h:=ļ.heap) (l:=ca) (items:=ws.toArray) (n:=n) q3 (fun x=>x++us.toArray);rw[List.append_toArray]at hu;exact hq _ _ _ (G.trans Ĩ.toGst) (h8▸Ĺ.cZ ļ.toks h6 q1 q2 (fun b o n e=>((Heap.SameBut.update ..).2 b n).trans e) hu ⟨q2,_,ws++us,hu,⟨_,rfl⟩,q4.app rb⟩) rfl
end
section
variable{g Ħ Û g':Gh}{S Å Í:St}{H H₁:List Cell}{ρ κ:List (Option V)}{d n:Nat}{e:PE}{es:List PE}{vs vs':List V}{v:V}{Q:Value→Shared→Prop}{E:Value→Shared→Prop}{ks:List (List Nat)}{l:List (List Nat×V)}{D:Addr}{ps:List (Value×Value)}{Mn:Shared}{Mq:St}
inductive g5(Z:ę)(g:Gh):List (List Nat)→List V→List (Value×Value)→Prop
 |nil:g5 Z g [] [] []
 |cons {k ks v vs t x r} (h1:Ć Z g v x) (h2:g5 Z g ks vs r):g5 Z g (k::ks) (v::vs) ((.str ⟨⟨k⟩⟩ t,x)::r)
theorem g5.vals(h:g5 Z g ks vs ps):ł Z g vs (ps.map (·.2)):=by
 induction h with
 |nil=>rfl
 |cons h1 h2 ih=>exact⟨_,_,rfl,h1,ih⟩
def mB(prog:Program)(w:World)(Z:ę)(d:Nat)(es:List PE)(st ĉ:St)(vs:List V):Prop:=∀cx keys xs ns env A g s Q E pos,fh cx xs=es→fW keys=some ns→keys.length=xs.length→Ok Z d cx A env g s st→
 (∀g' s' ps,Gst g g'→Ok Z d cx A env g' s' ĉ→g5 Z g' ns vs ps→Q ps s')→õ prog w A (evalPairs (pairTrees keys xs env pos)) Q E s
theorem MB:mB prog w Z d [] S S []:=by
 intro cx keys xs ns env A g s Q E pos hx hk hl C hq;obtain rfl:=gk hx;obtain rfl:keys=[]:=List.length_eq_zero_iff.mp hl;obtain rfl:[]=ns:=ë hk;exact pairTrees_nil_walk (hq g s [] (.refl g) C .nil)
theorem SU{k:Option Expr}{x:List Nat}(h:Nr k=some x):T2 fun kk p=>k=some (.Constant (.str ⟨⟨x⟩⟩) kk p):=by
 refine ï h fun e h1 h2=>?_
 induction e using PySem.Expr.casesOn with
 |Constant c kk p=>
  induction c using PySem.Const.casesOn with
  |str y=>
   have h2:some y.cps.toList=some x:=h2;obtain⟨⟨y⟩⟩:=y;exact⟨kk,p,h1.trans (by rw[show y=x from ë h2])⟩
  |_=>exact nS h2
 |_=>exact nS h2
theorem jR{k:Option Expr}{r:List (Option Expr)}(h:fW (k::r)=some ks):T4 fun x kk p ns=>A3 (k=some (.Constant (.str ⟨⟨x⟩⟩) kk p)) (fW r=some ns) (ks=x::ns):=by
 refine ï h fun x h1 h=>?_;refine cK h fun ns h2 h3=>?_;obtain⟨kk,p,e⟩:=SU h1;exact⟨x,kk,p,ns,e,h2,h3.symm⟩
theorem MC(h1:ű prog w Z d e S Å v)(h2:mB prog w Z d es Å Í vs):mB prog w Z d (e::es) S Í (v::vs):=by
 intro cx keys xs ns env A g s Q E pos hx hk hl C hq;obtain⟨x,r,rfl,e1,e2⟩:=aa hx
 induction keys using Ŭ with
 |nil=>cases hl
 |cons k keys=>
  obtain⟨y,kk,p,VZ,rfl,Z1,rfl⟩:=jR hk;refine pairTrees_cons_walk (wpAny_mkText ?_);refine h1 _ _ _ _ _ _ _ _ e1 (C.toks _) fun Û ò y Ñ Ï ô=>?_;exact h2 _ _ _ _ _ _ _ _ _ _ _ e2 Z1 (Nat.succ.inj hl) Ï fun ó ļ ps ú æ Ű=>hq _ _ _ (Ñ.trans ú) æ (.cons (ô.mono ú) Ű)
noncomputable def Cn(es:List DictEntry)(n:Nat):Obj:={cls:=.type "dict",data:=.dict es.toArray n}
theorem Base.BQ(B:Base Z g s H){es:List DictEntry}{n:Nat}(hD:g.r D=.held (Cn es n))(nd:(l.map (·.1)).Nodup)(hr:gZ Z.toSta g.k l es):Base Z (g.Ó D H.length) s (H++[.aY l]):=by
 have hO:=B.held _ _ hD;have q:(g.Ó D H.length).r D=.cell H.length:=g.ÿ _ _;refine B.gen (g':=g.Ó D H.length) (h':=s.heap) (t:=s.toks) (H':=H++[.aY l]) (· =D) (fun b e=>(kF (e▸hD)).1) (fun À À À e=>e) (fun b nd=>g.ù _ nd) (fun a ha=>?_) ?_ (fun À À e=>ag e) fun i c' e=>?_
 ·rw[show a=D from ha];exact hU (.inl q) hO
 ·show(g.as++[D]).length=_;rw[Ċ,Ċ,B.len];rfl
 ·rcases fH e with e|⟨rfl,rfl⟩
  ·exact .inl ⟨e,fun b e=>(kF (e▸hD)).2 i⟩
  ·exact .inr ⟨D,B.len▸eB _ _,q,_,es,hO,⟨n,rfl⟩,nd,hr.mono (vF hD).k⟩
theorem Ok.Fl(C:Ok Z d cx A env g s S){o:Obj}(hf:o.isFreed=false)(t:Nat){G:Prop}(hq:∀g',Gst g g'→Ok Z d cx A env g' {s with heap:=s.heap.push o,toks:=t} S→g'.r s.heap.objs.size=.held o→Nil g s.heap.objs.size→G):G:=by
 have jN:=C.base.fresh _ (Ĭ _);have S:=Ę.set g (x:=.held o) jN;exact hq _ S.toGst (C.next S (fun b o' e=>ŏ _ e) (C.base.push o t (.held o) hf (by simp))) (g.ÿ _ _) (.free jN)
theorem yH(h:lU l=true):(l.map (·.1)).Nodup:=by
 induction l with
 |nil=>exact lQ
 |cons p r ih=>
  (have h1:=aD h;have h2:=aC h)
  refine eX.mpr ⟨fun m=>?_,ih h2⟩;obtain⟨q,hq,e⟩:=dT.mp m;have:(r.any fun q=>Ø q.1 p.1)=true:=List.any_eq_true.mpr ⟨q,hq,(show q.1=p.1 from e)▸ŭ _⟩;rw[this]at h1;exact à h1
theorem AK{k:FH}(h:g5 Z g ks vs ps):∀{vs':List V} {l:List (List Nat×V)},Ý Z.toSta k vs' (ps.map (·.2))→dictOf (ks.map fun k=>.c (.str k)) vs'=some l→∃fP,Carries (strKind prog w) ps fP∧Kv Z.toSta k l fP:=by
 induction h with
 |nil=>
  intro vs' l hr hd
  induction vs' using Ŭ with
  |nil=>exact⟨[],trivial,(ë hd)▸.nil⟩
  |cons=>exact nS hd
 |@cons x ks v vs t y r h1 h2 ih=>
  intro vs' l hr hd
  induction vs' using Ŭ with
  |nil=>exact nS hd
  |cons v' vs'=>
   obtain⟨y',r',e,q1,q2⟩:=hr;obtain⟨e1,e2⟩:=List.cons.inj e;have hd:(keyOf (.c (.str x))).bind (fun k=>(dictOf (ks.map fun k=>.c (.str k)) vs').map fun l=>(k,v')::l)=some l:=hd;refine ï hd fun k h3 hd=>?_;refine cK hd fun l' h4 hd=>?_;obtain⟨fP,c1,c2⟩:=ih (e2▸q2) h4;have e3:x=k:=ë h3;have e1:y=y':=e1;refine⟨(⟨⟨x⟩⟩,y)::fP,⟨nH ..,rfl,c1⟩,?_⟩;rw[←hd,←e3,e1];exact .cons q1 c2
theorem vj{keys:List (Option Expr)}:∀{ks},fW keys=some ks→keys.all (·.isSome)=true:=by
 induction keys with
 |nil=>exact fun À=>rfl
 |cons k r ih=>
  intro ks h;obtain⟨x,kk,p,ns,rfl,h2,_⟩:=jR h;exact FK.mpr ⟨rfl,ih h2⟩
theorem pg(C:Ok Z d cx A env g s ⟨H,ρ,κ⟩){es:List DictEntry}{n:Nat}(hD:g.r D=.held (Cn es n))(nd:(l.map (·.1)).Nodup)(hr:gZ Z.toSta g.k l es)(G:Gst Ħ g)(hn:Nil Ħ D)(VD:Ok Z d cx A env Ħ Mn Mq)(hq:Iw Z d cx A env Ħ ⟨H++[.aY l],ρ,κ⟩ (.Ó H.length) Q):Q (.ref D) s:=by
 obtain⟨g8,LF,jr⟩:=C.i.H4 hD (C.base.BQ hD nd hr) G hn;exact hq _ _ _ g8 (VD.to g8 LF) jr
theorem Q4{V6:List PE}(hh:Z.hash=hashStr w)(h1:Ļ prog w Z d es S ⟨H,ρ,κ⟩ vs)(hp:mB prog w Z d es S ⟨H,ρ,κ⟩ vs)(h0:es=[]→S=⟨H,ρ,κ⟩∧vs=[])(h2:Ē H vs=some (H₁,vs'))(h3:dictOf V6 vs'=some l)(h4:lU l=true):ű prog w Z d (.di V6 es) S ⟨H₁++[.aY l],ρ,κ⟩ (.Ó H₁.length):=by
 intro cx X env A g s Q E hx C hq;obtain⟨keys,zs,p,ns,rfl,heq,hlen,hk,rfl,e1⟩:=iv hx;have Wg:=yH h4;refine C.Fl (o:={cls:=.type "dict",data:=.dict #[]}) rfl s.toks fun Û Ñ Ï EV n₁=>?_
 by_cases hz:keys=[]
 ·subst hz;obtain rfl:zs=[]:=List.length_eq_zero_iff.mp heq.symm;obtain rfl:[]=es:=e1;obtain⟨rfl,rfl⟩:=h0 rfl;obtain rfl:[]=ns:=ë hk;cases h2;obtain rfl:[]=l:=ë h3;exact wpAny_Dict_empty (pg (l:=[]) (es:=[]) (n:=0) Ï EV lQ rfl Ñ n₁ C hq)
 refine wpAny_Dict_walk (knd:=strKind prog w) (vj hk) heq hz hlen ?_;refine hp _ _ _ _ _ _ _ _ _ _ _ e1 hk heq Ï fun ó ļ ps ú æ Ű=>Base.eI æ.base h2 Ű.vals fun İ Ĩ Ş fZ=>?_;have Ĺ:=æ.next Ĩ (.refl _) Ş;have Ń:=ú.trans Ĩ.toGst;obtain⟨fP,c1,c2⟩:=AK (prog:=prog) (w:=w) Ű fZ h3;have MP:=Ń.held _ _ EV;obtain⟨kv0,k0,d0⟩:=eL (prog:=prog) (w:=w) hh (Ĺ.base.held _ _ MP) ⟨0,rfl⟩ (l:=[]) (k:=İ.k) (es:=[]) lQ rfl;cases k0;refine⟨fP,c1,d0,fun h' N4 D5=>?_⟩;rw[merged_nil_of_nodup _ (c2.nodup Wg)]at N4;obtain⟨o,mi,ho,⟨n,rfl⟩,rd⟩:=k_ hh N4 c2;have hO:g6 İ [s.heap.objs.size]:=fun b m=>by rw[Ė.mp m,MP];rfl
 have DS:=Ĺ.hold hO (h':=h') (fun b o nb e=>(D5.2 b fun q=>nb (Ė.mpr q)).trans e) (ļ.toks+ps.length);have ni:=aL (h:=h') (Ñ.trans Ń) hO (fun b m=>Ė.mp m▸n₁);have JB:(İ.hold [s.heap.objs.size] h').r s.heap.objs.size=.held (Cn mi n):=(de (Ė.mpr rfl)).trans (congrArg aX ho);exact pg DS JB Wg (rd.mono (fT hO)) ni n₁ C hq
end
section
variable{g Ħ g':Gh}{st:St}{H H' H₁:List Cell}{ρ κ:List (Option V)}{vs:List V}
def Pk(q:Õ)(fd:FuncData)(c c₁ c₂:Addr):Prop:=
 T4 fun params body pm ctv=>fd=kla_fn "<lambda>" q params body dR [("seen",c₁),("context",c₂)] pm (.ref c) ctv∧fM params body=true
def Pj(q:Õ)(oc:Obj):Prop:=T2 fun vs t=>oc.data=.fields vs∧vs[1]? =some (.str q t)
structure ki(Z:ę)(P:ċ):Prop where
 LM:Z.LM=Pk Z.lO
 OC:Z.OC=Pj Z.lO
 L:Z.mW=mW
 C:Z.mY=mY
 code:CodeHd Z.sh.heap Z.qk Z.tab
 Mk:Z.sh.heap.get? Z.tab=some (tabObj #[])
 bmod:∃mg,Z.sh.heap.Ns mainGlobals mg∧Z.sh.heap.BuiltinsAt mg Z.tab
 ne:Z.tab≠cStatics
 tm:mainGlobals≠Z.tab
 lh:gl ("leaf_holds":Õ) Z.zB=some (.fn P.lam)
theorem ki.Cv(LZ:ki Z P)(B:Base Z g s H):CodeHd s.heap Z.qk Z.tab:=by
 obtain⟨o,vs,file,tf,flags,tg,S6,text,tt,e,r⟩:=LZ.code;exact⟨o,vs,file,tf,flags,tg,S6,text,tt,B.Ô _ _ (B.top _ _ e r.2.2.2.2.2.2.2.2),r⟩
theorem ki.OS(LZ:ki Z P)(B:Base Z g s H):∃mg,s.heap.Ns mainGlobals mg∧s.heap.BuiltinsAt mg Z.tab:=by
 obtain⟨mg,h1,bm,o,b1,b2,b3,b4,b5,b6⟩:=LZ.bmod;exact⟨mg,B.du h1 LZ.tm,bm,o,b1,b2,b3,b4,B.Ô _ _ (B.top _ _ b5 b4),b6⟩
theorem Base.ED(LZ:ki Z P)(B:Base Z g s H){h':Heap}(t:Nat){c:Addr}{oc:Obj}(hx:Heap.ExtBut Z.tab s.heap h')(h0:s.heap.get? Z.tab=some (tabObj #[]))(hc:s.heap.objs.size≤c)
  (ho:h'.get? c=some oc)(hO:Z.OC oc)(hP:h'.get? Z.tab=some (tabObj #[rawInt Z.mW,rawInt Z.mY,.ref c])):Base Z (g.set c (.Ô oc)) {s with heap:=h',toks:=t} H:=by
 have fr:=B.fresh c hc;have S:=Ę.set g (x:=.Ô oc) fr;have ne:∀b,b≠c→(g.set c (.Ô oc)).r b=g.r b:=fun b q=>g.ù _ q
 have nf:∀{a x},g.r a=x→vm x=false→a≠c:=fun e n q=>by rw[q,fr]at e;rw[←e]at n;exact Ĕ n
 have keep:∀b o x,g.r b=x→x≠.tab→s.heap.get? b=some o→h'.get? b=some o:=fun b o x q n e=>hx b o (fun e'=>n (q.symm.trans (e'▸B.tab.1))) e
 have C:=LZ.Cv B;have C':CodeHd h' Z.qk Z.tab:=by
  obtain⟨o,vs,file,tf,flags,tg,S6,text,tt,e,r⟩:=C;exact⟨o,vs,file,tf,flags,tg,S6,text,tt,hx _ _ r.2.2.2.2.2.2.2.2 e,r⟩
 have back:∀b x,(g.set c (.Ô oc)).r b=x→(∀o,x≠.Ô o)→g.r b=x:=fun b x q n=>by
  by_cases e:b=c
  ·rw[e,g.ÿ]at q;exact absurd q.symm (n oc)
  ·exact(ne b e).symm.trans q
 obtain⟨bA,ò,hl⟩:=B.u_;refine⟨⟨h',t,by rw[hl]⟩,?_,fun a o e n=>?_,?_,fun a o e=>?_,fun a o e=>?_,fun a o e=>?_,fun a l=>?_,B.len,fun i cc e=>?_⟩
 ·exact B.old.step_table (c₀:=Z.qk) (c:=Z.qk) (ps₀:= #[]) (ps:= #[]) (more:= #[rawInt Z.mW,rawInt Z.mY,.ref c]) (LZ.code.tab LZ.Mk) (C.tab h0) (C'.tab hP) hx LZ.ne
 ·have q:=B.top a o e n;exact(ne a (nf q rfl)).trans q
 ·exact⟨(ne _ (nf B.tab.1 rfl)).trans B.tab.1,_,hP,.inr ⟨c,oc,rfl,Gh.Ś (g.ÿ _ _),hO⟩⟩
 ·by_cases q:a=c
  ·rw[q,g.ÿ]at e;exact q▸Role.Ô.inj e▸ho
  ·rw[ne a q]at e;exact keep a o _ e (by simp) (B.Ô a o e)
 ·have e:=back a _ e (by simp);obtain⟨sl,q⟩:=B.kept a o e;exact⟨sl,keep a _ _ e (by simp) q⟩
 ·have e:=back a _ e (by simp);exact keep a _ _ e (by simp) (B.held a o e)
 ·by_cases q:a=c
  ·exact⟨_,q▸ho⟩
  ·by_cases q2:a=Z.tab
   ·exact⟨_,q2▸hP⟩
   ·rw[ne a q]at l;obtain⟨o,e⟩:=B.alive a l;exact⟨o,hx a o q2 e⟩
 ·obtain⟨a,ha,x⟩:=B.cells i cc e;refine⟨a,ha,x.to S.k (fun b e=>(ne b (nf e rfl)).trans e) (fun b e=>(ne b (nf e rfl)).trans e) fun b o e q=>?_⟩;rcases e with e|e<;>exact keep b o _ e (by simp) q
theorem zK{r:Role}{i:Nat}(h:r=.var i):((∀o,r≠.Ô o)∧r≠.tab)∧∀i,r≠.cell i∧r≠.cV i:=by
 rw[h];simp
theorem Base.z0(B:Base Z g s H){c:Addr}{i:Nat}{o:Obj}(hr:g.r c=.var i)(ho:s.heap.get? c=some o):Base Z (g.set c (.Ô o)) s H:=by
 refine B.gen (h':=s.heap) (t:=s.toks) (· =c) (fun a e=>(zK (e▸hr)).1) (fun À À À e=>e) (fun b nd=>g.ù _ nd) (fun a ha=>?_) B.len (fun À À e=>e) fun i c' e=>.inl ⟨e,fun b e=>(zK (e▸hr)).2 i⟩
 rw[show a=c from ha,g.ÿ];exact⟨fun o' e=>Role.Ô.inj e▸ho,by simp,by simp,fun À=>⟨_,ho⟩⟩
theorem Gst.z0(g:Gh){c:Addr}{i:Nat}{o:Obj}(hr:g.r c=.var i):Gst g (g.set c (.Ô o)):=by
 have ne:∀{a y},g.r a=y→y≠.var i→a≠c:=fun e n q=>n (e.symm.trans (q▸hr))
 refine⟨fun a o' e=>?_,fun a o' e=>?_,fun a o' e=>?_,⟨[],(Ŵ _).symm⟩,rfl,rfl,fun a e=>?_⟩
 ·have e:=Gh.aO e;exact Gh.Ś ((g.ù _ (ne e (by simp))).trans e)
 ·exact(g.ù _ (ne e (by simp))).trans e
 ·exact(g.ù _ (ne e (by simp))).trans e
 ·exact(g.ù _ (ne e (by simp))).trans e
theorem Inv.Fi(hi:Inv Z cx g s st)(G:Gst g g')(B:Base Z g' s' H')(hL:∀o,s.heap.get? g.L=some o→s'.heap.get? g.L=some o):Inv Z cx g' s' {st with H:=H',κ:=[]}:=by
 refine⟨B,G.L▸G.loc _ hi.gK.loc,?_,fun i ov q=>?_⟩
 ·obtain⟨m,⟨o,es,ep,ho,r⟩,hm⟩:=hi.gK.locs;refine⟨m,⟨o,es,ep,G.L▸hL o ho,r⟩,fun x i v h1 h2=>?_⟩;obtain⟨y,q1,q2⟩:=hm x i v h1 h2;exact⟨y,q1,q2.mono G⟩
 ·exact nS q
theorem su(LZ:ki Z P)(B:Base Z g s H){params:Arguments}{body:Expr}{pm ctv:Value}{c c₁ c₂:Addr}{oc ň aG:Obj}{cO cN:Value}{t:Nat}(hs:fM params body=true)(hc:g.k c=some oc)(hO:Z.OC oc)
  (h1:g.k c₁=some ň)(d1:ň.data=.cell (some cO))(h2:g.k c₂=some aG)(d2:aG.data=.cell (some cN))(hv:Ý Z.toSta g.k vs [cO,cN]){C:Prop}
  (hq:∀g',Gst g g'→Base Z g' {s with heap:=s.heap.push {cls:=.type "function",data:=.func (kla_fn "<lambda>" Z.lO params body dR [("seen",c₁),("context",c₂)] pm (.ref c) ctv)},toks:=t} H→Ć Z g' (.g_ vs) (.ref s.heap.objs.size)→C):C:=by
 have hf:g.r s.heap.objs.size=.free:=B.fresh _ (Ĭ _);have S:Ę g (g.set s.heap.objs.size (.Ô {cls:=.type "function",data:=.func (kla_fn "<lambda>" Z.lO params body dR [("seen",c₁),("context",c₂)] pm (.ref c) ctv)})):=Ę.set g hf;refine hq _ S.toGst (B.push _ t _ rfl (.inr (.inl rfl))) ⟨_,_,kla_fn "<lambda>" Z.lO params body dR [("seen",c₁),("context",c₂)] pm (.ref c) ctv,c,c₁,c₂,oc,ň,aG,cO,cN,rfl,Gh.Ś (g.ÿ ..),rfl,?_,S.k _ _ hc,hO,S.k _ _ h1,d1,S.k _ _ h2,d2,hv.mono S.k⟩;rw[LZ.LM];exact⟨params,body,pm,ctv,rfl,hs⟩
structure Vu(a:Arguments):Prop where
 e:∃p,a=⟨[],[⟨"leaf",none,p⟩],none,[],[],none,[]⟩
theorem Nj{a:Arguments}(h:wR a=true):Vu a:=by
 obtain⟨po,as,va,ko,kd,kw,df⟩:=a
 (have h1:=aD h;have h:=aC h)
 (have h2:=aD h;have h:=aC h)
 (have h3:=aD h;have h:=aC h)
 (have h4:=aD h;have h:=aC h)
 (have h5:=aD h;have h:=aC h)
 (have h6:=aD h;have h7:=aC h)
 obtain⟨⟨n,an,p⟩,h8,h9⟩:=anyI h2
 (have Gf:=aC h9;have h9:=aD h9)
 have e1:po=[]:=emp h1;have e2:=i1 h8;have e3:va=none:=oP.mp h3;have e4:ko=[]:=emp h4;have e5:kd=[]:=emp h5;have e6:kw=none:=oP.mp h6;have e7:df=[]:=emp h7;have e8:an=none:=oP.mp Gf;have e9:=eq_of_beq h9;have e2:as=[⟨n,an,p⟩]:=e2;have e9:n=("leaf":Õ):=e9;rw[e1,e2,e3,e4,e5,e6,e7,e8,e9];exact⟨p,rfl⟩
structure Vt(env:Env)(args:Arguments)(body:Expr)(c₁ c₂:Addr):Prop where
 d:defaultsOf args env=([],[])
 c:closureFor dR env=pure [(("seen":Õ),c₁),(("context":Õ),c₂)]
theorem Ni{args:Arguments}{body:Expr}{c₁ c₂:Addr}(h:fM args body=true)(e1:env.cells.lookup ("seen":Õ)=some c₁)(e3:env.cells.lookup ("context":Õ)=some c₂):Vt env args body c₁ c₂:=by
 obtain⟨p,rfl⟩:=(Nj (oa h).1).e;refine⟨rfl,?_⟩;have q1:cellOf env "seen"=pure c₁:=by unfold cellOf;rw[e1]
 have q2:cellOf env "context"=pure c₂:=by unfold cellOf;rw[e3]
 unfold closureFor dR;simp[q1,q2]
theorem zO(C:Ok Z d cx A env g s ⟨H,ρ,κ⟩){x y:V}{c₁ c₂:Addr}(ha:ç κ 0=some (some x))(hb:ç κ 1=some (some y))(hf:Ē H [x,y]=some (H₁,vs))(e2:ç g.cs 0=some c₁)(e4:ç g.cs 1=some c₂){G':Prop}
  (hq:∀İ ň aG cO cN,Gst g İ→Base Z İ s H₁→İ.k c₁=some ň→ň.data=.cell (some cO)→İ.k c₂=some aG→aG.data=.cell (some cN)→Ý Z.toSta İ.k vs [cO,cN]→G'):G':=by
 obtain⟨ON,L5,p1,p2,⟨ň,p3,p4⟩,p5⟩:=C.i.gK.vars _ _ ha;obtain rfl:c₁=ON:=ë (e2.symm.trans p1);obtain⟨cO,rfl,NJ⟩:=p5 _ rfl;obtain⟨OM,Qh,r1,r2,⟨aG,r3,r4⟩,r5⟩:=C.i.gK.vars _ _ hb;obtain rfl:c₂=OM:=ë (e4.symm.trans r1);obtain⟨cN,rfl,NI⟩:=r5 _ rfl;refine Base.eI (vs:=[x,y]) (xs:=[cO,cN]) C.base hf ⟨_,_,rfl,NJ,_,_,rfl,NI,rfl⟩ fun Û Å vW eP=>?_;have v1:=Å.var _ _ p2;have v2:=Å.var _ _ r2;have ne:c₂≠c₁:=fun q=>by rw[q,v1]at v2;(injection v2 with v2;exact absurd v2 (by decide))
 have aB:=vW.z0 v1 p3;have ú:=Gst.z0 Û (o:=ň) v1;have v3:=(Û.ù (.Ô ň) ne).trans v2;have Ń:=Gst.z0 (Û.set c₁ (.Ô ň)) (o:=aG) v3;exact hq _ ň aG cO cN (Å.toGst.trans (ú.trans Ń)) (aB.z0 v3 r3) (Ń.k _ _ (Gh.Ś (Gh.ÿ ..))) p4 (Gh.Ś (Gh.ÿ ..)) r4 (eP.mono (ú.trans Ń).k)
theorem QX(LZ:ki Z P){x y:V}(ha:ç κ 0=some (some x))(hb:ç κ 1=some (some y))(hf:Ē H [x,y]=some (H₁,vs)):ű prog w Z d .la ⟨H,ρ,κ⟩ ⟨H₁,ρ,[]⟩ (.g_ vs):=by
 intro cx X env A g s Q E hx C hq;obtain⟨args,body,sc,pos,rfl,Wf⟩:=iv hx
 (have l7:=aD Wf;have k1:=aC Wf)
 (have ZO:=aD k1;have k2:=aC k1)
 (have Z9:=aD k2;have k3:=aC k2)
 (have hs:=aD k3;have k4:=aC k3)
 (have hc:=aD k4;have k5:=aC k4)
 have hL:=ġ (oa k5).1;have hC:=ġ (oa k5).2;obtain rfl:sc=dR:=eq_of_beq ZO;obtain⟨BS,NP⟩:=C.e.code (eq_of_beq Z9);obtain⟨c₁,e1,e2⟩:=C.e.Ó _ _ (eq_of_beq hs);obtain⟨c₂,e3,e4⟩:=C.e.Ó _ _ (eq_of_beq hc);refine zO C ha hb hf e2 e4 fun İ ň aG cO cN G Ş k1 p4 k2 r4 RR=>?_;obtain⟨Ws,D6⟩:=Ni l7 e1 e3;have nL:g.L≠Z.tab:=fun q=>by have:=C.i.gK.loc;rw[q,C.base.tab.1]at this;exact neT Role.ctorIdx this rfl
 have fin:∀{qy:Gh} {s':Shared} {v:Value},Gst İ qy→Base Z qy s' H₁→Ć Z qy (.g_ vs) v→(∀o,s.heap.get? g.L=some o→s'.heap.get? g.L=some o)→Q v s':=fun g8 mG jr k=>hq _ _ _ (G.trans g8) (C.to (G.trans g8) (C.i.Fi (G.trans g8) mG k)) jr
 refine kla_eval Ws ?_;rw[NP];obtain⟨mg,n1,n2⟩:=LZ.OS Ş;obtain⟨ps,t1,t2⟩:=Ş.tab.2;rcases t2 with rfl|⟨c,oc,rfl,t3,t4⟩
 ·refine kla_makeFunction D6 C.e.xk n1 BS (LZ.Cv Ş) t1 trivial rfl LZ.tm n2 fun c' ctv h' tk hx Wo BL S_ Wa=>?_;obtain⟨c,oc,vs',t,q0,q1,q2,q3⟩:=S_
  (injection q0 with q0;subst q0)
  rw[hL,hC,←LZ.L,←LZ.C]at Wa;have hO:Z.OC oc:=by rw[LZ.OC];exact⟨vs',t,q2,q3⟩
  have nq:=Ş.ED LZ tk hx t1 Wo q1 hO Wa;have eO:=Ę.set İ (x:=.Ô oc) (Ş.fresh _ Wo);exact su (pm:=(mg "__name__").getD .none) (ctv:=ctv) (t:=tk) LZ nq l7 (Gh.Ś (Gh.ÿ ..)) hO (eO.k _ _ k1) p4 (eO.k _ _ k2) r4 (RR.mono eO.k) fun qy g8 mG jr=>
   fin (eO.toGst.trans g8) mG jr fun o e=>ŏ _ (hx _ _ nL e)
 ·have hf:codeAmong pos (#[rawInt Z.mW,rawInt Z.mY,.ref c]:Array Value).toList=some (.ref c):=by
   show(if _ then _ else _)=_;rw[hL,hC,LZ.L,LZ.C];rfl
  refine kla_makeFunctionHit D6 C.e.xk n1 BS (LZ.Cv Ş) t1 trivial hf n2 fun ctv h' tk hk oZ=>?_;exact su (pm:=(mg "__name__").getD .none) (ctv:=ctv) (t:=tk) LZ (Ş.grow hk tk) l7 t3 t4 k1 p4 k2 r4 RR fun qy g8 mG jr=>
   fin g8 mG jr fun o e=>ŏ _ (hk _ _ e)
end
section
variable{S Å Ĩ:St}{H H₁:List Cell}{ρ κ ß ê:List (Option V)}{d n:Nat}{as:List PE}{e:PE}{v x y:V}
theorem uZ(hg:cg Z K)(B:Base Z g s H){env:Env}{x:Õ}{G:Gl}{p:Pos}{Q:Value→Shared→Prop}{E:Value→Shared→Prop}(hG:gl x Z.zB=some G)
  (hk:env.scope.kind=.function)(h1:env.kindOf x=some .globalImplicit)(h2:(x==("__debug__":Õ))=false)(e1:env.globals=mainGlobals)(e2:env.builtins=builtinsNs)
  (hq:∀z,DP Z K G z→Q z s):õ prog w A (eval (.Name x p) env) Q E s:=by
 obtain⟨m,mb,z,n1,n2,n3,n4⟩:=hg.all x G hG;have m1:s.heap.Ns env.globals m:=e1▸B.du n1 hg.tm;have m2:s.heap.Ns env.builtins mb:=e2▸B.du n2 hg.tb;refine Calls.Name_function_global hk h1 ?_ h2;rcases n3 with n3|⟨n3,n5⟩
 ·exact Calls.loadGlobal_global m1 n3 (hq z n4)
 ·exact Calls.loadGlobal_builtin m1 n3 m2 n5 (hq z n4)
theorem uB{params:Arguments}{body:Expr}(h:fM params body=true):T6 fun p1 p2 p3 p4 p5 p6=>params=⟨[],[⟨"leaf",none,p1⟩],none,[],[],none,[]⟩∧
  body=.Call (.Name "leaf_holds" p2) [.Name "leaf" p3,.Name "seen" p4,.Name "context" p5] [] p6:=by
 (have ha:=aD h;have hb:=aC h)
 obtain⟨p1,e1⟩:=(Nj ha).e;obtain⟨⟨f,as,ks⟩,h1,h2⟩:=anyI hb;obtain⟨p6,e2⟩:=H5 h1
 (have h3:=aD h2;have h4:=aC h2)
 (have h5:=aD h4;have h6:=aC h4)
 obtain⟨⟨a,b,c⟩,h7,h8⟩:=anyI h6
 (have h9:=aD h8;have Gf:=aC h8)
 (have TC:=aD Gf;have h12:=aC Gf)
 obtain⟨p2,e3⟩:=gF (eq_of_beq h3);obtain⟨p3,e4⟩:=gF (eq_of_beq h9);obtain⟨p4,e5⟩:=gF (eq_of_beq TC);obtain⟨p5,e6⟩:=gF (eq_of_beq h12);have e7:=i3 h7;have e8:ks=[]:=emp h5;have e3:f=_:=e3;have e4:a=_:=e4;have e5:b=_:=e5;have e6:c=_:=e6;have e7:as=[a,b,c]:=e7;have e2:body=.Call f as ks p6:=e2;refine⟨p1,p2,p3,p4,p5,p6,e1,?_⟩;rw[e2,e8,e7,e3,e4,e5,e6]
theorem ve:∀x∈dR.names,x.2≠.cell:=by decide
theorem FI(LZ:ki Z P)(hg:cg Z K){c₁ c₂:Addr}{leaf x y v:V}{z:Value}{ň aG:Obj}{cO cN:Value}{h':Heap}{t':Nat}{m:Õ→Option Value}{p2 p3 p4 p5 p6:Pos}{Q:Value→Shared→Prop}{E:Value→Shared→Prop}(h:cG prog w Z K d P.lam [leaf,x,y] H Ĩ v)(hr:ŕ (d+1) A g)(hL:cH g s)(B:Base Z g s H)
  (Ud:env.locals=s.heap.objs.size)(P7:env.cells=[(("seen":Õ),c₁),(("context":Õ),c₂)])(OH:env.scope=dR)(Uc:env.globals=mainGlobals)(Ub:env.builtins=builtinsNs)(OG:env.frame=some s.heap.objs.size)
  (hk:∀b o,s.heap.get? b=some o→h'.get? b=some o)(xe:h'.Ns s.heap.objs.size m)(hm:m "leaf"=some z)(ht:t'=s.toks+1)
  (k6:g.k c₁=some ň)(k7:ň.data=.cell (some cO))(k8:g.k c₂=some aG)(k9:aG.data=.cell (some cN))(eP:Rep Z.toSta g.k x cO)(f_:Rep Z.toSta g.k y cN)(hx:Ć Z g leaf z)
  (hq:∀g' s' y,Ę g g'→cJ g s s'→Base Z g' s' Ĩ.H→Ć Z g' v y→Q y s'):õ prog w (A.deeper env) (eval (.Call (.Name "leaf_holds" p2) [.Name "leaf" p3,.Name "seen" p4,.Name "context" p5] [] p6) env) Q E {s with heap:=h',toks:=t'}:=by
 subst ht;have N:Č s h' s.heap.objs.size []:=⟨hk,Ĭ _,(fun À m=>absurd m qn),let ⟨o,es,ep,e,_⟩:=xe;⟨o,e⟩,(fun À m=>absurd m qn)⟩;have BD:=B.down N (s.toks+1);have HJ:=tA B N;have L0:env.kindOf=fun x=>dR.names.lookup x:=by funext y;unfold Env.kindOf;rw[OH]
 have Gw:env.scope.kind=.function:=by rw[OH];rfl
 have LD:cH (g.down s.heap s.heap.objs.size []) {s with heap:=h',toks:=s.toks+1}:=let ⟨o,es,ep,e,e2,_⟩:=xe;⟨o,es,ep,e,e2⟩;refine aw (uZ hg BD LZ.lh Gw (by rw[L0];rfl) (by decide) Uc Ub fun z hz=>?_);obtain⟨rfl,oF,fdF,f1,f2,f3⟩:=hz;refine Calls.callWith_function (o:=oF) (fd:=fdF) (ı (plain_any (by rfl)) ?_);refine wpAny_items_cons (wpAny_Name (wpAny_loadName_local Gw (by rw[L0];rfl) (Ud▸xe) (v:=z) hm ?_) (by decide)) rfl;refine wpAny_items_cons (wpAny_Name (wpAny_loadName_free Gw (by rw[L0];rfl) (by rw[P7];rfl) ⟨ň,hk _ _ (B.sub k6),k7⟩ ?_ (by decide)) (by decide)) rfl;refine wpAny_items_cons (wpAny_Name (wpAny_loadName_free Gw (by rw[L0];rfl) (by rw[P7];rfl) ⟨aG,hk _ _ (B.sub k8),k9⟩ ?_ (by decide)) (by decide)) rfl;refine wpAny_items_nil ⟨⟨hk _ _ (B.Ô _ _ (B.top _ _ f1 f3)),f2⟩,?_⟩;refine h _ _ _ _ _ _ (pf hr hL B N OG Gw) LD BD ⟨z,_,rfl,hx.r6 HJ rfl,cO,_,rfl,(eP.mono HJ).iP,cN,_,rfl,(f_.mono HJ).iP,rfl⟩ fun gE sE y GE KE BE VE=>?_;exact hq _ _ _ (uo B N GE.toGst) (pM B N GE.toGst BE) (B.up N GE.toGst BE) (Ć.up (Md B N GE.toGst) VE)
theorem Be(LZ:ki Z P)(hg:cg Z K)(aP:Z.sh.heap.NoLimit)(cM:cStatics≠Z.tab){a:Addr}{leaf:V}{z:Value}{Q:Value→Shared→Prop}{E:Value→Shared→Prop}(h:cG prog w Z K d P.lam [leaf,x,y] H Ĩ v)(hr:ŕ (d+1) A g)(hL:cH g s)(B:Base Z g s H)(hf:Rep Z.toSta g.k (.g_ [x,y]) (.ref a))(hx:Ć Z g leaf z)
  (hq:∀g' s' y,Ę g g'→cJ g s s'→Base Z g' s' Ĩ.H→Ć Z g' v y→Q y s'):õ prog w A (call (.ref a) [z]) Q E s:=by
 obtain⟨a',o,fd,c,c₁,c₂,oc,ň,aG,cO,cN,e0,k1,k2,k3,k4,k5,k6,k7,k8,k9,L5,EV,e1,eP,Qh,MQ,e2,f_,e3⟩:=hf;cases e0;cases e3;cases e2;cases e1;rw[LZ.LM]at k3;rw[LZ.OC]at k5;obtain⟨params,body,pm,ctv,rfl,l7⟩:=k3;obtain⟨vs,t,q1,q2⟩:=k5;obtain⟨p1,p2,p3,p4,p5,p6,rfl,rfl⟩:=uB l7;have sY:s.heap.NoLimit:=let ⟨mc,a,b⟩:=aP;⟨mc,B.du a cM,b⟩;refine wpAny_call (kla_callFunE (o:=o) (fd:=kla_fn "<lambda>" Z.lO ⟨[],[⟨"leaf",none,p1⟩],none,[],[],none,[]⟩ (.Call (.Name "leaf_holds" p2) [.Name "leaf" p3,.Name "seen" p4,.Name "context" p5] [] p6) dR [("seen",c₁),("context",c₂)] pm (.ref c) ctv)
  (by have:=hr.depth;exact â [_,_,_] (.c (.a (.a (.a Â (.m 4 (.a á Á))) Ĵ) Á) È .z) (.a Â Á) È rfl this) (B.sub k1) k2 rfl rfl rfl ⟨c,oc,vs,t,rfl,B.sub k4,q1,q2⟩ ?_)
 refine BindsTo.of_eq (binds:=[("leaf",z)]) rfl _ _ _ _ ?_;refine wpAny_newFunctionEnv ve (by intro y hy;rw[Ė.mp hy];rfl) (fun h' xe xb=>?_) rfl;have hk:∀b o,s.heap.get? b=some o→h'.get? b=some o:=fun b o e=>(xb.2 b (eW (eY e))).trans (ŏ _ e)
 refine⟨sY.keeps hk,kla_codeExpr ?_⟩;exact FI (env:=newEnv dR s.heap.objs.size mainGlobals [(("seen":Õ),c₁),(("context":Õ),c₂)] (Z.lO++".<locals>.") (some a) (.ref c) none builtinsNs) LZ hg h hr hL B rfl rfl rfl rfl rfl rfl hk xe (by simp) rfl k6 k7 k8 k9 eP f_ hx hq
theorem QV(LZ:ki Z P)(hg:cg Z K)(aP:Z.sh.heap.NoLimit)(cM:cStatics≠Z.tab){leaf:V}(h1:ű prog w Z (d+1) e S Å (.g_ [x,y]))(h2:Ļ prog w Z (d+1) as Å ⟨H,ρ,κ⟩ [leaf])(h3:cG prog w Z K d P.lam [leaf,x,y] H ⟨H₁,ß,ê⟩ v):ű prog w Z (d+1) (.lo e as) S ⟨H₁,ρ,κ⟩ v:=by
 intro cx X env A g s Q E hx C hq;obtain⟨f,np,ys,p,j,rfl,hp,hf,rfl,e1⟩:=iv hx;have hu:er cx (.Name f np)=.l j:=by
  show OD cx f=_;unfold OD;rw[hf]
 refine aw (h1 _ _ _ _ _ _ _ _ hu C fun Û ò Ŷ Ñ Ï ô=>?_);have O7:=ô;obtain⟨a,o,fd,c,c₁,c₂,oc,ň,aG,cO,cN,rfl,k1,k2,k3⟩:=ô;refine Calls.callWith_function (o:=o) (fd:=fd) (ı (plain_any hp) ?_);refine h2 _ _ _ _ _ _ _ _ _ e1 hp Ï fun ó ļ xs ú æ Ű=>⟨⟨æ.base.sub (ú.k _ _ k1),k2⟩,?_⟩;obtain⟨z,rfl,bI⟩:=IC Ű;refine Be LZ hg aP cM h3 æ.r æ.i.gG æ.base (Rep.mono ú.k O7) bI fun İ iV y Ń tZ Ş bI=>?_;exact hq _ _ _ (Ñ.trans (ú.trans Ń.toGst)) (æ.fJ Ń tZ Ş) bI
end
section
variable{g g' gE:Gh}{s s' sE:Shared}{S:St}{H H' H₁ HE:List Cell}{d D j:Nat}{vs vs':List V}{v:V}{h:Heap}{a:Addr}{o:Obj}{x:Role}
noncomputable def į:Role→Bool
 |.cell _=>true
 |.cV _=>true
 |_=>false
def Gh.hide(g:Gh)(h:Heap):Gh where
 r a:=if į (g.r a)then aX (h.get? a)else g.r a
 as:=[]
 L:=g.L
 cs:=g.cs
def Gh.hR(g gE:Gh):Gh where
 r a:=if į (g.r a)then g.r a else if į (gE.r a)then .free else gE.r a
 as:=g.as
 L:=g.L
 cs:=g.cs
theorem l9(e:į (g.r a)=false):(g.hide h).r a=g.r a:=if_neg (e▸jH)
theorem bY(e:g.r a=x)(n:į x=false):(g.hide h).r a=x:=(l9 (e▸n)).trans e
theorem gi(e:į (g.r a)=true)(ho:h.get? a=some o):(g.hide h).r a=.held o:=(if_pos e).trans (congrArg aX ho)
theorem iZ(e:į (g.r a)=true):(g.hR gE).r a=g.r a:=if_pos e
theorem fz(e:į (g.r a)=false)(e':į (gE.r a)=false):(g.hR gE).r a=gE.r a:=(if_neg (e▸jH)).trans (if_neg (e'▸jH))
theorem BO(g:Gh):aQ g.k (g.hide h).k:=fun a o e=>Gh.Ś (bY (Gh.aO e) rfl)
theorem Base.gp(B:Base Z g s H)(q:į (g.r a)=true):∃o,s.heap.get? a=some o:=B.alive a fun e=>by rw[e]at q;exact à q
theorem Base.hide(B:Base Z g s H):Base Z (g.hide s.heap) s []:=by
 have inv:∀{a x},(g.hide s.heap).r a=x→vm x=false→g.r a=x:=fun {a x} e n=>by
  induction q:į (g.r a)using ñ with
  |false=>rw[l9 q]at e;exact e
  |true=>
   obtain⟨o,ho⟩:=B.gp q;rw[gi q ho]at e;rw[←e]at n;exact Ĕ n
 refine⟨B.u_,B.old,fun a o e n=>bY (B.top a o e n) rfl,⟨bY B.tab.1 rfl,?_⟩,fun a o e=>B.Ô a o (inv e rfl),fun a o e=>B.kept a o (inv e rfl),fun a o e=>?_,fun a l=>B.alive a fun e=>l (bY e rfl),rfl,fun i c e=>nomatch e⟩
 ·obtain⟨ps,h1,h2⟩:=B.tab.2;exact⟨ps,h1,h2.imp id fun ⟨c,oc,e1,e2,e3⟩=>⟨c,oc,e1,BO g _ _ e2,e3⟩⟩
 ·induction q:į (g.r a)using ñ with
  |false=>rw[l9 q]at e;exact B.held a o e
  |true=>
   obtain⟨o',ho⟩:=B.gp q;rw[gi q ho]at e;exact Role.held.inj e▸ho
theorem sZ(e:Ę (g.hide s.heap) gE):Ę g (g.hR gE):=by
 have go:∀{a x},g.r a=x→į x=false→((g.hide s.heap).r a=x→gE.r a=x)→(g.hR gE).r a=x:=fun {a x} h1 h2 h4=>by
  have q:=h4 (bY h1 h2);exact(fz (h1▸h2) (q▸h2)).trans q
 exact⟨⟨fun a o q=>Gh.Ś (go (Gh.aO q) rfl fun h=>Gh.aO (e.k a o (Gh.Ś h))),fun a o q=>go q rfl (e.kept a o),fun a o q=>go q rfl (e.held a o),⟨[],(Ŵ _).symm⟩,rfl,rfl,fun a q=>go q rfl (e.loc a)⟩,fun a i q=>go q rfl (e.var a i)⟩
theorem xf(B:Base Z g s H)(e:Ę (g.hide s.heap) gE):aQ gE.k (g.hR gE).k:=fun a o q=>by
 have q:=Gh.aO q
 induction c:į (g.r a)using ñ with
 |false=>exact Gh.Ś ((fz c (q▸rfl)).trans q)
 |true=>
  obtain⟨o',ho⟩:=B.gp c;have:=e.held a o' (gi c ho);rw[q]at this;exact neT Role.ctorIdx this rfl
theorem yO(k:cJ (g.hide h) s sE):cJ g s sE:=fun a o r ho=>k a o (r.imp (fun q=>bY q rfl) fun ⟨i,q⟩=>⟨i,bY q rfl⟩) ho
theorem kW(q:(g.hR gE).r a=x)(h1:į x=false)(h2:x≠.free):gE.r a=x:=by
 induction c:į (g.r a)using ñ with
 |true=>rw[iZ c]at q;rw[q,h1]at c;exact à c
 |false=>
  induction c':į (gE.r a)using ñ with
  |true=>exact absurd (q.symm.trans ((if_neg (c▸jH)).trans (if_pos c'))) h2
  |false=>rw[fz c c']at q;exact q
theorem Base.hR(B:Base Z g s H)(e:Ę (g.hide s.heap) gE)(BE:Base Z gE sE HE):Base Z (g.hR gE) sE H:=by
 have S:=sZ e;have hE:∀{a o},į (g.r a)=true→s.heap.get? a=some o→sE.heap.get? a=some o:=fun c ho=>BE.held _ _ (e.held _ _ (gi c ho))
 refine⟨BE.u_,BE.old,fun a o h1 h2=>Gh.aO (S.k a o (Gh.Ś (B.top a o h1 h2))),⟨(fz (B.tab.1▸rfl) (BE.tab.1▸rfl)).trans BE.tab.1,?_⟩,fun a o q=>BE.Ô a o (kW q rfl (by simp)),fun a o q=>BE.kept a o (kW q rfl (by simp)),fun a o q=>BE.held a o (kW q rfl (by simp)),fun a l=>?_,B.len,fun i c q=>?_⟩
 ·obtain⟨ps,h1,h2⟩:=BE.tab.2;exact⟨ps,h1,h2.imp id fun ⟨c,oc,e1,e2,e3⟩=>⟨c,oc,e1,xf B e _ _ e2,e3⟩⟩
 ·induction c:į (g.r a)using ñ with
  |true=>
   obtain⟨o,ho⟩:=B.gp c;exact⟨o,hE c ho⟩
  |false=>exact BE.alive a fun e'=>l ((fz c (e'▸rfl)).trans e')
 ·obtain⟨a,ha,x⟩:=B.cells i c q;refine⟨a,ha,x.to S.k (fun b e=>(iZ (e▸rfl)).trans e) (fun b e=>(iZ (e▸rfl)).trans e) fun b o e q=>?_⟩;rcases e with e|e<;>exact hE (e▸rfl) q
theorem ŕ.hide(R:ŕ d A g)(h:Heap):ŕ d A (g.hide h):=by
 refine⟨R.hd,R.depth,R.units,?_⟩;obtain⟨l,a,b⟩:=R.frames;refine⟨l,a,fun e he=>?_⟩;obtain⟨k,L,h1,h2⟩:=b e he;exact⟨k,L,h1,h2.imp (fun q=>⟨bY q.1 rfl,q.2⟩) fun ⟨o,es,n,q1,q2⟩=>⟨o,es,n,bY q1 rfl,q2⟩⟩
theorem ŕ.le(R:ŕ d A g)(h:D≤d):ŕ D A g:=⟨R.hd,ń (Nat.add_le_add_right (Bj (Nat.mul_le_mul_left 4 h) _) 2) R.depth,ń (Nat.add_le_add_right (Bj (Nat.mul_le_mul_left 20 h) _) 30) R.units,R.frames⟩
theorem EP(h1:D≤d)(h2:Ē H vs=some (H₁,vs'))(h3:cG prog w Z K D j vs' [] S v)(h4:Ð v=true):cG prog w Z K d j vs H ⟨H₁,[],[]⟩ v:=by
 intro A g s xs Q E hr hL B hx hq;refine Base.eI B h2 hx fun Û Å vW eP=>?_;refine h3 _ _ _ _ _ _ ((hr.mono Å.toGst).le h1 |>.hide s.heap) (by unfold cH;rw[show(Û.hide s.heap).L=g.L from Å.L];exact hL) vW.hide (Ý.vY (eP.mono (BO Û))) fun gE sE y SE KE BE VE=>?_;have R:Rep Z.toSta gE.k v y:=by
  induction v using V.casesOn with
  |Ó i=>exact à h4
  |_=>exact VE
 refine hq _ _ _ (Å.trans (sZ SE)) (fun a o r e=>yO KE a o (r.imp (Å.loc a) fun ⟨i,q⟩=>⟨i,Å.var a i q⟩) e) (vW.hR SE BE) (R.mono (xf vW SE)).iP
end
section
set_option maxRecDepth 100000
section
variable{M:Model}{E:Value→Shared→Prop}{h:Heap}{g:Array GenState}{d:Drawn}{t:Nat}{os:OsState}
variable{nm q:Õ}{C N:Addr}{bs bm tl:List Value}{ma:Bool}{sn:List Õ}{sub:List Value}{ab:Bool}{col:Option Bool}{dd:Option Addr}{k0 k1 k2 k3 k5:Option Value}{newId:String}
inductive nj(h:Heap)(a:Addr)(mA:Õ→Option Value):Prop
 |mk (c0:Value) (dd:Option Addr) (cd:ClassData) (sl:Array (Option Value)) (hA:h.get? a=some {cls:=c0,dict:=dd,data:=.cls cd,slots:=sl}) (hn:h.Ns cd.ns mA)
theorem nj.keeps{h':Heap}{a:Addr}{mA:Õ→Option Value}(T:nj h a mA)(hk:∀b o,h.get? b=some o→h'.get? b=some o):nj h' a mA:=by
 obtain⟨c0,dd,cd,sl,hA,hn⟩:=T;exact⟨c0,dd,cd,sl,hk _ _ hA,hn.keeps hk⟩
theorem mV{a:Addr}{mN mA:Õ→Option Value}{name:Õ}{v:Value}{Q:Option Value→Shared→Prop}(hC:h.get? C=some (excClassObj nm q C N bs (.ref a::tl) ma sn sub ab col dd k0 k1 k2 k3 k5 newId))(hn:h.Ns N mN)(h0:mN name=none)(T:nj h a mA)(h1:mA name=some v)
  (hq:Q (some v) ⟨h,g,d,t,os⟩):wpAny M A (typeLookup (.ref C) name) Q E ⟨h,g,d,t,os⟩:=by
 obtain⟨c0,dd',cd,sl,hA,TA⟩:=T;rw[typeLookup_eq];refine wpAny_bind (wpAny_mroOf_exc hC ?_);rw[lookupAlong_cons];refine wpAny_bind (wpAny_classOwn_exc hC hn ?_);rw[h0,lookupAlong_cons];refine wpAny_bind (wpAny_classOwn_cls hA TA ?_);rw[h1];exact wpAny_pure hq
theorem ig{a:Addr}{mN mA:Õ→Option Value}{name:Õ}{y:Option Value}{Q:Option Value→Shared→Prop}(hC:h.get? C=some (excClassObj nm q C N bs (.ref a::tl) ma sn sub ab col dd k0 k1 k2 k3 k5 newId))(hn:h.Ns N mN)(h0:mN name=none)(T:nj h a mA)(h1:mA name=none)
  (l8:lookupAlong tl name=pure y)(hq:Q y ⟨h,g,d,t,os⟩):wpAny M A (typeLookup (.ref C) name) Q E ⟨h,g,d,t,os⟩:=by
 obtain⟨c0,dd',cd,sl,hA,TA⟩:=T;rw[typeLookup_eq];refine wpAny_bind (wpAny_mroOf_exc hC ?_);rw[lookupAlong_cons];refine wpAny_bind (wpAny_classOwn_exc hC hn ?_);rw[h0,lookupAlong_cons];refine wpAny_bind (wpAny_classOwn_cls hA TA ?_);rw[h1,l8];exact wpAny_pure hq
end
section
variable{E:Value→Shared→Prop}{h:Heap}{g:Array GenState}{d:Drawn}{t:Nat}{os:OsState}
variable{nm q:Õ}{C N:Addr}{bs bm pn:List Value}{ma:Bool}{sn:List Õ}{sub:List Value}{ab:Bool}{col:Option Bool}{dd:Option Addr}{k0 k1 k2 k3 k5:Option Value}{B newId fR:String}
structure zo(C:Addr)(bm:List Value)(B:String):Prop where
 b:(Value.ref C::bm).contains (.type B)=true
 a:(Value.ref C::bm).contains (.type "AttributeError")=false
 n:(Value.ref C::bm).contains (.type "NameError")=false
theorem zo.of{a:Addr}(F:ExcBaseFacts B newId fR pn):zo C (.ref a::pn) B:=
 ⟨by rw[sA,sA,F.hasB,Bool.or_true,Bool.or_true],by rw[sA,sA,F.noAttr];rfl,by rw[sA,sA,F.noName];rfl⟩
theorem IB{M:Model}{α:Type}{c:Bool}{X Y:Sem α}{Q:α→Shared→Prop}{s:Shared}(h:c=true)(k:wpAny M A X Q E s):wpAny M A (if c=true then X else Y) Q E s:=by rw[h];exact k
theorem Hg{M:Model}{α:Type}{c:Bool}{X Y:Sem α}{Q:α→Shared→Prop}{s:Shared}(h:c=false)(k:wpAny M A Y Q E s):wpAny M A (if c=true then X else Y) Q E s:=by rw[h];exact k
theorem kl{M:Model}{n:String}{Q:Bool→Shared→Prop}(hC:h.get? C=some (excClassObj nm q C N bs bm ma sn sub ab col dd k0 k1 k2 k3 k5 newId))(hb:(Value.ref C::bm).contains (.type n)=true)(hq:Q true ⟨h,g,d,t,os⟩):wpAny M A (isSubtype (.ref C) (.type n)) Q E ⟨h,g,d,t,os⟩:=wpAny_isSubtype_exc hC (hb.symm▸hq)
theorem zW{M:Model}{n:String}{Q:Bool→Shared→Prop}(hC:h.get? C=some (excClassObj nm q C N bs bm ma sn sub ab col dd k0 k1 k2 k3 k5 newId))(hb:(Value.ref C::bm).contains (.type n)=false)(hq:Q false ⟨h,g,d,t,os⟩):wpAny M A (isSubtype (.ref C) (.type n)) Q E ⟨h,g,d,t,os⟩:=wpAny_isSubtype_exc hC (hb.symm▸hq)
theorem vE{M:Model}(F:ExcBaseFacts B newId fR pn)(T:zo C bm B){rest:List Value}{Q:Unit→Shared→Prop}(hC:h.get? C=some (excClassObj nm q C N bs bm ma sn sub ab col dd k0 k1 k2 k3 k5 newId))
  (hq:Q () ⟨h,g,d,t,os⟩):wpAny M A (checkBuiltinCall newId ⟨.ref C::rest,[]⟩) Q E ⟨h,g,d,t,os⟩:=by
 have Wb:=F.noStar;unfold checkBuiltinCall;rw[F.newKind,F.newSplit,F.newRow];refine IB (beq_self_eq_true "__new__") ?_
 repeat (first|refine wpAny_loadPart_at hC ?_|refine kl hC T.b ?_|refine wpAny_staticBase_exc hC ?_|refine wpAny_madeBy_exc hC ?_|refine Hg (bne_self_eq_false _) ?_|refine Hg rfl ?_|wp_step)
 exact hq
theorem B8{R:Result→Shared→Prop}(F:ExcBaseFacts B newId fR pn)(T:zo C bm B){rest:List Value}(hC:h.get? C=some (excClassObj nm q C N bs bm ma sn sub ab col dd k0 k1 k2 k3 k5 newId))
  (hq:R (.ok (.ret (.ref (h.objs.size+1)))) ⟨(h.push {cls:=.type "tuple",data:=.seq rest.toArray}).push {cls:=.ref C,data:=.fields #[.ref h.objs.size,.none,.none,.none,.bool false,.none]},g,d,t,os⟩)(l8:rest.length≤sizeLine):
  codeAny (model prog w) A (.builtin newId ⟨.ref C::rest,[]⟩) R ⟨h,g,d,t,os⟩:=by
 have Wr:=F.ends;have hcB:=T.b;have hcA:=T.a;have Z_:=T.n;refine codeAny_builtinAt F.entry ?_;unfold Builtin.«BaseException.__new__»;refine PySem.wpAt_bind ?_;show PySem.wpAt _ _ _ (stack>>=_) _ _ _;refine PySem.wpAt_bind (PySem.wpAt_stack fun p below=>PySem.wpAt_of_wpAny ?_);wp_walk;refine PySem.wpAt_of_wpAny ?_;rw[F.owner]
 repeat (first|with_reducible refine wpAny_madeHere_exc F.canon hC ?_|with_reducible refine wpAny_loadPart_at hC ?_|with_reducible refine kl hC hcB ?_|with_reducible refine zW hC hcA ?_|with_reducible refine zW hC Z_ ?_|wp_step)
 show R _ _;rw[Heap.size_push];exact hq
theorem iW{a:Addr}(F:ExcBaseFacts B newId fR pn){mN mA:Õ→Option Value}{rest:List Value}{fI:Addr}{oI:Obj}{Q:Fin→Shared→Prop}
  (hC:h.get? C=some (excClassObj nm q C N bs (.ref a::pn) ma sn sub ab col dd k0 k1 k2 k3 k5 newId))(hn:h.Ns N mN)(h0:mN "__init__"=none)(T:nj h a mA)(h1:mA "__init__"=some (.ref fI))(N0:h.get? fI=some oI)(Tj:oI.cls=.type "function")
  (hq:∀h' e,Heap.MadeExcOf h h' e (.ref C) rest→wpAny (model prog w) A (call (.ref fI) (.ref e::rest)) (fun r s'=>r=.none∧Q (.done (.ret (.ref e))) s') E ⟨h',g,d,t,os⟩)(l8:rest.length≤sizeLine):
  wpAny (model prog w) A (Builtin.«type.__call__» ⟨.ref C::rest,[]⟩) Q E ⟨h,g,d,t,os⟩:=by
 have M2:zo C (.ref a::pn) B:=.of F
 repeat (first|with_reducible refine wpAny_loadPart_at hC ?_|with_reducible refine wpAny_madeBy_exc hC ?_|wp_step)
 refine codeAny_call_builtin_code (Code.quiet_builtin _ F.quiet) (vE F M2 hC ?_);refine B8 F M2 hC ?_ l8;show wpAny _ _ _ _ _ _;generalize hh:(h.push {cls:=.type "tuple",data:=.seq rest.toArray}).push {cls:=.ref C,data:=.fields #[.ref h.objs.size,.none,.none,.none,.bool false,.none]}=cR;have hk:∀b o,h.get? b=some o→cR.get? b=some o:=fun b o e=>hh▸ŏ _ (ŏ _ e)
 have NX:cR.get? (h.objs.size+1)=some {cls:=.ref C,data:=.fields #[.ref h.objs.size,.none,.none,.none,.bool false,.none]}:=by rw[←hh];heap_get
 have vn:cR.get? h.objs.size=some {cls:=.type "tuple",data:=.seq rest.toArray}:=by rw[←hh];exact ŏ _ (Heap.get?_push_at rfl rfl)
 have HP:=hk _ _ hC;have hcC:(Value.ref C::.ref a::pn).contains (.ref C)=true:=by simp
 unfold isInstance
 repeat (first|with_reducible refine wpAny_loadPart_at NX ?_|(with_reducible refine wpAny_isSubtype_exc HP ?_;rw[hcC])|wp_step)
 show wpAny _ _ (typeLookup (.ref C) _) _ _ _;refine mV HP (hn.keeps hk) h0 (T.keeps hk) h1 ?_;refine wpAny_holding (wpAny_bind ?_);unfold bindSpecial;refine wpAny_bind (wpAny_typeOf (T:="function") ⟨_,hk _ _ N0,Tj⟩ ?_);rw[if_pos (by decide)];refine wpAny_pure (wpAny_bind (wpAny_mono (hq _ (h.objs.size+1) ⟨hk,Heap.get?_none_of_le (Nat.le_succ _),h.objs.size,NX,Heap.get?_none_of_le (Ĭ _),vn⟩) (fun r s' hr=>?_) fun À À x=>x));obtain⟨rfl,hQ⟩:=hr;wp_walk;exact hQ
theorem tI{a:Addr}(F:ExcBaseFacts B newId fR pn){mN mA:Õ→Option Value}{rest:List Value}{fI:Addr}{oI:Obj}{Q:Value→Shared→Prop}
  (hC:h.get? C=some (excClassObj nm q C N bs (.ref a::pn) ma sn sub ab col dd k0 k1 k2 k3 k5 newId))(hn:h.Ns N mN)(h0:mN "__init__"=none)(T:nj h a mA)(h1:mA "__init__"=some (.ref fI))(N0:h.get? fI=some oI)(Tj:oI.cls=.type "function")
  (hq:∀h' e,Heap.MadeExcOf h h' e (.ref C) rest→wpAny (model prog w) (A.under (.builtin "type.__call__" ⟨.ref C::rest,[]⟩)) (call (.ref fI) (.ref e::rest)) (fun r s'=>r=.none∧Q (.ref e) s') E ⟨h',g,d,t,os⟩)(l8:rest.length≤sizeLine):
  wpAny (model prog w) A (call (.ref C) rest) Q E ⟨h,g,d,t,os⟩:=by
 have f1:=tc_lookup;have f2:=tc_bind (.ref C);have hT:(⟨h,g,d,t,os⟩:Shared).TypeIs (.ref C) "type":=⟨_,hC,rfl⟩;refine wpAny_call (codeAny_of_tree ?_);show wpAny _ _ (callAny (.ref C) _) _ _ _
 repeat (any_goals (first|assumption|with_reducible refine wpAny_loadPart_at hC ?_|wp_step))
 refine⟨rfl,?_⟩;exact codeAny_call_builtin_at (Code.quiet_builtin _ (by decide+kernel)) entry_typeCall (wpAny_check_type_call_sub hC (iW F hC hn h0 T h1 N0 Tj (fun h' e hm=>hq h' e hm) l8))
end
end
section
set_option maxRecDepth 100000
open Builtin Builtin.ObjectAttr
section
variable{E:Value→Shared→Prop}{h:Heap}{g:Array GenState}{d:Drawn}{t:Nat}{os:OsState}
variable{nm q:Õ}{C N a x:Addr}{bs pn:List Value}{sn:List Õ}{sub:List Value}{ab:Bool}{col:Option Bool}{dd:Option Addr}{k0 k1 k2 k3 k5:Option Value}{B newId sa owner:String}
 {mN mA mX:Õ→Option Value}{name:Õ}{v:Value}
theorem tP(SF:StoreFacts B pn sa owner){n:Õ}{y:Option Value}(h:typeLookup (.type B) n=pure y):lookupAlong pn n=pure y:=by rw[typeLookup_eq,SF.mro]at h;exact h
theorem pW{tk:Tok}{Q:Fin→Shared→Prop}{ns:List Õ}(SF:StoreFacts B pn sa owner)(hC:h.get? C=some (excClassObj nm q C N bs (.ref a::pn) true sn sub ab col dd k0 k1 k2 k3 k5 newId))(hn:h.Ns N mN)(h0:mN name=none)(T:nj h a mA)(h1:mA name=none)
  (hB:typeLookup (.type B) name=pure none)(I:h.Inst x C mX)
  (hq:∀h' kR o ň dx,h.get? x=some o→h'.get? x=some ň→ň.cls=o.cls→ň.data=o.data→ň.dict=some dx→dx≠x→h'.Ns1 dx (fun y=>if y=name then some v else mX y)→(o.dict=some dx∨h.get? dx=none)→
   (∀b o,b≠x→b≠dx→h.get? b=some o→h'.get? b=some o)→Q (.done (.ret .none)) ⟨h',g,d,kR,os⟩)(hw:Within mX ns)(oZ:ns.length≤1000):
  wpAny (model prog w) A (Builtin.«object.__setattr__» ⟨[.ref x,.str name tk,v],[]⟩) Q E ⟨h,g,d,t,os⟩:=by
 (obtain⟨o,ui⟩:=I;have hx:=ui.1;have hc:=ui.2.1;have Tf:=ui.2.2.1;have hd:=ui.2.2.2;try clear ui;try clear I)
 have NQ:=SF.passes (.ref x);have N5:=tP SF hB;unfold Builtin.«object.__setattr__»
 repeat (first|rw[refuse_eq]|(rw[refuseLoop_ref,refuseLoop_ref,NQ])|(with_reducible refine wpAny_loadPart_at hx ?_;rw[hc])|with_reducible refine wpAny_mroOf_exc hC ?_|with_reducible refine ig hC hn h0 T h1 N5 ?_|wp_step)
 rcases hd with⟨HJ,ZV⟩|⟨dx,Tn,dY,xe⟩
 ·rw[HJ,if_neg (by simp[typeHasDict])]
  split
  ·rename_i KJ;cases KJ
  split
  ·rename_i c KJ;exact absurd KJ (Tf c)
  ·have NH:x≠h.objs.size:=eW (eY hx);refine wpAny_bind (wpAny_alloc' ?_);refine wpAny_bind (wpAny_update' (ŏ _ hx) (wpAny_pure ?_));have Z3:=(Heap.get?_update_ne (h.push {cls:=.type "dict",data:=.dict #[]}) _ x (fun o:Obj=>{cls:=o.cls,dict:=some h.objs.size,data:=o.data,slots:=o.slots}) NH.symm).trans (Heap.get?_push_at (h:=h) rfl rfl);show wpAny _ _ (storeInDict h.objs.size (.str name tk) name v) _ _ _;unfold storeInDict newKeyGuard;refine wpAny_bind (wpAny_pure (wpAny_bind (wpAny_nsSet1 (Heap.Ns1.of_empty ⟨_,#[],_,Z3,rfl,fun e he=>absurd he (by simp),fun À=>rfl⟩) fun h' LV hs=>?_)))
   (obtain⟨oD,ui⟩:=LV.count (Within.cons name v Within.nil);obtain⟨esD,L4⟩:=ui;obtain⟨epD,ud⟩:=L4;have Td:=ud.1;have Tp:=ud.2.1;have Tt:=ud.2.2;try clear ud)
   refine wpAny_bind (wpAny_lookBehind Td (by rw[Tp];exact pastItsLine_dict (è Tt (by rw[ă,cC,sizeLine_eq];exact ī _))) ?_);wp_walk;refine hq h' _ o _ h.objs.size hx ((hs.2 x NH).trans (Heap.get?_update_self _ (ŏ _ hx) ?_)) rfl rfl rfl NH.symm ?_ (.inr (Heap.get?_none_of_le (Ĭ _))) fun b ob Wx Tu hb=>?_
   ·have Z4:=(Heap.get?_some_iff.mp hx).2;obtain⟨oc,od,Ze,osl⟩:=o
    induction Ze using PySem.Data.casesOn<;>first|rfl|exact Z4
   ·(obtain⟨o',ui⟩:=LV;obtain⟨es,L4⟩:=ui;obtain⟨ep,ud⟩:=L4;have e1:=ud.1;have e2:=ud.2.1;have e3:=ud.2.2.1;have eu:=ud.2.2.2.1;have e4:=ud.2.2.2.2;try clear ud;try clear LV)
    exact⟨o',es,ep,e1,e2,e3,eu,fun y=>by rw[e4 y];by_cases hy:y=name<;>simp[hy,ZV]⟩
   ·exact(hs.2 b Tu).trans ((Heap.get?_update_ne _ _ _ _ Wx).trans (ŏ _ hb))
 ·rw[Tn];refine wpAny_pure ?_;show wpAny _ _ (storeInDict dx (.str name tk) name v) _ _ _;unfold storeInDict newKeyGuard;refine wpAny_bind (wpAny_pure (wpAny_bind (wpAny_nsSet1 xe fun h' LV hs=>?_)))
  (obtain⟨oD,ui⟩:=LV.count (Within.cons name v hw);obtain⟨esD,L4⟩:=ui;obtain⟨epD,ud⟩:=L4;have Td:=ud.1;have Tp:=ud.2.1;have Tt:=ud.2.2;try clear ud)
  refine wpAny_bind (wpAny_lookBehind Td (by rw[Tp];exact pastItsLine_dict (è Tt (by rw[ă,sizeLine_eq];exact ń ‹_› (by decide)))) ?_);wp_walk;exact hq h' _ o o dx hx ((hs.2 x dY.symm).trans hx) rfl rfl Tn dY LV (.inl Tn) fun b ob Wx Tu hb=>(hs.2 b Tu).trans hb
theorem I_{Q:Unit→Shared→Prop}{ns:List Õ}(SF:StoreFacts B pn sa owner)(Tc:(Value.ref C::.ref a::pn).contains (.type owner)=true)(hC:h.get? C=some (excClassObj nm q C N bs (.ref a::pn) true sn sub ab col dd k0 k1 k2 k3 k5 newId))(hn:h.Ns N mN)(s0:mN "__setattr__"=none)(h0:mN name=none)
  (T:nj h a mA)(s1:mA "__setattr__"=none)(h1:mA name=none)(hB:typeLookup (.type B) name=pure none)(I:h.Inst x C mX)
  (hq:∀h' kR o ň dx,h.get? x=some o→h'.get? x=some ň→ň.cls=o.cls→ň.data=o.data→ň.dict=some dx→dx≠x→h'.Ns1 dx (fun y=>if y=name then some v else mX y)→(o.dict=some dx∨h.get? dx=none)→
   (∀b o,b≠x→b≠dx→h.get? b=some o→h'.get? b=some o)→Q () ⟨h',g,d,kR,os⟩)(hw:Within mX ns)(oZ:ns.length≤1000):
  wpAny (model prog w) A (setAttr (.ref x) name v) Q E ⟨h,g,d,t,os⟩:=by
 (obtain⟨o,ui⟩:=id I;have hx:=ui.1;have hc:=ui.2.1;try clear ui)
 have f3:=SF.slot.bind (.ref x);unfold setAttr callSpecial? specialOf
 repeat (any_goals (first|assumption|(with_reducible refine wpAny_loadPart_at hx ?_;rw[hc])|with_reducible refine ig hC hn s0 T s1 (tP SF SF.slot.lookup) ?_|wp_step))
 refine codeAny_call_builtin SF.slot.plain SF.entry ?_;have ha:=SF.args (.ref x) (.str name t) v;unfold checkBuiltinCall;rw[SF.kind,SF.split];refine wpAny_bind ?_;unfold isInstance
 repeat (first|(with_reducible refine wpAny_loadPart_at hx ?_;rw[hc])|with_reducible refine kl hC Tc ?_|wp_step)
 refine wpAny_of_eq (a:=()) ?_ (pW SF hC hn h0 T h1 hB I (fun h' kR o ň dx a1 a2 a3 a4 a5 a6 a7 a8 a9=>?_) hw oZ)
 ·induction S8:Manifest.signature? sa using š with
  |none=>rfl
  |some sig=>simp only[argsOk,S8]at ha;exact ha
 exact wpAny_pure (wpAny_pure (hq h' kR o ň dx a1 a2 a3 a4 a5 a6 a7 a8 a9))
end
end
section
variable{st:St}{H H':List Cell}{l:List Env}{e:Addr}{h h':Heap}
noncomputable def isFree:Role→Bool
 |.free=>true
 |_=>false
theorem yJ{x:Role}(h:isFree x=true):x=.free:=by induction x using Role.casesOn<;>first|rfl|(exact à h;done)
def fc(g:Gh)(l:List Env)(a:Addr):Bool:=isFree (g.r a)||(l.filterMap (·.frame)).contains a
def d7(g:Gh)(l:List Env)(h:Heap):Heap:=⟨h.objs.mapIdx fun a o=>match fc g l a with|true=>{o with data:=.freed}|false=>o,h.life⟩
theorem fX{a:Addr}(k:fc g l a=true):(d7 g l h).get? a=none:=by
 unfold d7 Heap.get?;rw[Array.getElem?_mapIdx,k]
 induction h.objs[a]? using š<;>rfl
theorem qP{a:Addr}(k:fc g l a=false):(d7 g l h).get? a=h.get? a:=by
 unfold d7 Heap.get?;rw[Array.getElem?_mapIdx,k]
 induction h.objs[a]? using š<;>rfl
theorem zb{a:Addr}{o:Obj}(q:(d7 g l h).get? a=some o):fc g l a=false∧h.get? a=some o:=by
 induction k:fc g l a using ñ with
 |true=>rw[fX k]at q;exact nS q
 |false=>exact⟨rfl,(qP k).symm.trans q⟩
theorem ia{a:Addr}(k:g.r a=.free):fc g l a=true:=by unfold fc;rw[k];rfl
theorem uP{a:Addr}(k:fc g l a=true):g.r a=.free∨a∈l.filterMap (·.frame):=by
 rcases lR.mp k with q|q
 ·exact .inl (yJ q)
 ·exact .inr (List.contains_iff_mem.mp q)
theorem md(B:Base Z g s H)(L:cH g s):∀{l:List Env},aM g l→(∀b,b∈l.filterMap (·.frame)→fc g l b=true)→∀m,(∀b∈m,b∈l)→Heap.FunFrames s.heap (d7 g l s.heap) m
 |l,F,k,[],_=>trivial
 |l,F,k,e::r,hm=>by
  obtain⟨h1,L',h2,h3⟩:=F e (hm e (.head _));have hb:L'∈l.filterMap (·.frame):=List.mem_filterMap.mpr ⟨e,hm e (.head _),h2⟩;have ho:∃o,s.heap.get? L'=some o∧∀vs,o.data≠.fields vs:=by
   rcases h3 with⟨q1,q2⟩|⟨o,es,n,q1,q2⟩
   ·obtain⟨o,es,n,a,b⟩:=L;exact⟨o,q2▸a,fun vs x=>by rw[b]at x;cases x⟩
   ·obtain⟨sl,a⟩:=B.kept _ _ q1;exact⟨_,a,fun vs x=>by rw[show _=_ from q2]at x;cases x⟩
  obtain⟨o,a,b⟩:=ho;exact⟨(by rw[h1];exact(fun q=>neT PySem.ScopeKind.ctorIdx q rfl)),⟨L',o,h2,fX (k _ hb),a,b⟩,md B L F k r fun b hb=>hm b (.tail _ hb)⟩
theorem Fd{b:Addr}(hb:b∈l.filterMap (·.frame)):fc g l b=true:=by unfold fc;rw[List.contains_iff_mem.mpr hb,Bool.or_true]
theorem jj(B:Base Z g s H)(L:cH g s)(F:aM g l):Heap.FunFrames s.heap (d7 g l s.heap) l:=md B L F (fun À=>Fd) l fun À h=>h
theorem gV:Heap.StaysIn (d7 g l h) h:=fun À À q=>(zb q).2
theorem vq(F:aM g l){b:Addr}(hb:b∈l.filterMap (·.frame)):g.r b=.loc∨∃o,g.r b=.kept o:=by
 obtain⟨e,he,q⟩:=List.mem_filterMap.mp hb;obtain⟨_,L',h2,h3⟩:=F e he;obtain rfl:=ë (q.symm.trans h2);rcases h3 with⟨q1,_⟩|⟨o,_,_,q1,_⟩
 ·exact .inl q1
 ·exact .inr ⟨o,q1⟩
inductive zm:Role→Prop
 |free:zm .free
 |loc:zm .loc
 |kept (o:Obj):zm (.kept o)
structure Vp(x:Role):Prop where
 f:∀o,x≠.Ô o
 t:x≠.tab
 h:∀o,x≠.held o
 c:∀i,x≠.cell i∧x≠.cV i
theorem zm.ne{x:Role}(h:zm x):Vp x:=by
 cases h<;>exact⟨(fun À q=>neT Role.ctorIdx q rfl),(fun q=>neT Role.ctorIdx q rfl),(fun À q=>neT Role.ctorIdx q rfl),fun À=>⟨(fun q=>neT Role.ctorIdx q rfl),(fun q=>neT Role.ctorIdx q rfl)⟩⟩
theorem fG(F:aM g l){a:Addr}(k:fc g l a=true):zm (g.r a):=by
 rcases uP k with q|q
 ·rw[q];exact .free
 ·rcases vq F q with q|⟨o,q⟩<;>rw[q]
  ·exact .loc
  ·exact .kept o
structure ua(Z:ę)(g:Gh)(s:Shared)(H:List Cell)(h':Heap):Prop where
 base:Base Z g {s with heap:=h'} H
 keep:cJ g s {s with heap:=h'}
theorem ta(B:Base Z g s H)(L:cH g s)(F:aM g l)(k1:Heap.StaysIn (d7 g l s.heap) h')(k4:s.heap.UpToSlots h'):ua Z g s H h':=by
 have FF:=jj B L F;have fr:∀b∈l.filterMap (·.frame),∀o,s.heap.get? b=some o→∃sl,h'.get? b=some {o with slots:=sl}:=fun b hb o ho=>by
  obtain⟨_,o',sX,hd⟩:=FF.mem hb;obtain rfl:=ë (sX.symm.trans ho);exact k4 b _ ho hd
 have on:∀b o,fc g l b=false→s.heap.get? b=some o→h'.get? b=some o:=fun b o k e=>k1 b o ((qP k).trans e)
 have al:∀a,fc g l a=true→g.r a≠.free→a∈l.filterMap (·.frame):=fun a k n=>(uP k).resolve_left n
 refine⟨B.gen (fun b=>fc g l b=true) (fun a k=>⟨(fG F k).ne.f,(fG F k).ne.t⟩) (fun b o nd e=>on b o (oz.mpr nd) e) (fun À À=>rfl)
  (fun a k=>⟨fun o q=>absurd q ((fG F k).ne.f o),fun o q=>?_,fun o q=>absurd q ((fG F k).ne.h o),fun n=>?_⟩) B.len (fun À À q=>q) (fun i c q=>.inl ⟨q,fun b k=>(fG F k).ne.c i⟩),fun a o r ho=>?_⟩
 ·obtain⟨sl',ho⟩:=B.kept a o q;obtain⟨sl,h⟩:=fr a (al a k fun x=>by rw[x]at q;exact neT Role.ctorIdx q rfl) _ ho;exact⟨sl,h⟩
 ·obtain⟨o',ho⟩:=B.alive a n;obtain⟨sl,h⟩:=fr a (al a k n) _ ho;exact⟨_,h⟩
 ·induction k:fc g l a using ñ with
  |false=>exact⟨o.slots,on a o k ho⟩
  |true=>exact fr a (al a k fun q=>by rcases r with r|⟨i,r⟩<;>rw[q]at r<;>exact neT Role.ctorIdx r rfl) o ho
theorem mh{a0:Value}(k2:h'.FunFrames (d7 g l h) l)(hB:∀a,g.r a≠.free→∃o,h.get? a=some o)(he:g.r e=.free)(k3:h'.TracedW (d7 g l h) e (.ref (fk 7)) a0):Exc Z g h' (.ref e):=by
 obtain⟨oe,vs,T,oT,ts,q1,⟨q2,q3⟩,q4,q5,q6,q7,q8,q9,Y0⟩:=k3;refine⟨e,oe,vs,a0,_,rfl,he,q1,q2,q4,q3,q5,.inr ⟨T,oT,ts,rfl,?_,q7,q8,q9,Y0⟩⟩;have kT:fc g l T=true:=by
  induction k:fc g l T using ñ with
  |true=>rfl
  |false=>
   have nf:g.r T≠.free:=fun q=>by rw[ia q]at k;exact Ĕ k
   obtain⟨o,ho⟩:=hB T nf;rw[qP k,ho]at q6;exact sN q6
 rcases uP kT with q|q
 ·exact q
 ·obtain⟨_,o,ho,hd⟩:=k2.mem q;obtain rfl:=ë (ho.symm.trans q8);exact absurd q9 (hd ts)
theorem wG(C:Ok Z d cx A env g s st){x:Value}(X:Exc Z g s.heap x){Q:Unit→Shared→Prop}{E:Value→Shared→Prop}(hq:∀h',ua Z g s st.H h'→Exc Z g h' x→Q () {s with heap:=h'}):
  õ prog w A (noteFrame x env) (fun À ĝ=>õ prog w A (setFlight x none) Q E ĝ) E s:=by
 obtain⟨a,o,vs,a0,t,rfl,r,q,c,dd,h0,h1,tb⟩:=X;obtain⟨e,l,hA,hf⟩:=C.f;obtain⟨l',hl,F⟩:=C.r.frames;obtain rfl:e::l=l':=ë (hA.symm.trans hl);obtain⟨_,L,hL,_⟩:=F e (.head _);have FF:=jj C.base C.i.gG F;have he:(d7 g (e::l) s.heap).get? a=none:=fX (ia r);have key:∀bA,Heap.NotedW (d7 g (e::l) s.heap) (e::l) a (.ref (fk 7)) a0 (rawInt L) s.heap bA→õ prog w A (setFlight (.ref a) none) Q E {s with heap:=bA}:=by
  rintro bA ⟨k1,k2,k3,k4⟩
  refine wpAny_setFlight_noneW k1 k2 k3 fun cR j1 j2 j3 j4=>?_;exact hq cR (ta C.base C.i.gG F j1 (Heap.UpToSlots.trans k4 fun b o hb hn=>⟨o.slots,j4 b o hb hn⟩)) (mh j2 C.base.alive r j3)
 rw[show noteFrame (.ref a) env=noteFrame (.ref a) e by unfold noteFrame PySem.frameOf;rw[hf]];rcases tb with rfl|⟨T,oT,ts,rfl,t1,t2,t3,t4,t5⟩
 ·unfold noteFrame;simp only[hL];refine wpAny_bind (wpAny_field q dd h1 ?_);rw[if_neg (by decide)];exact wpAny_entryW hA FF hL q gV he dd (Array.getElem?_eq_some_iff.mp h1).1 h0 (c▸key)
 ·exact wpAny_noteFrame_onW hA FF hL ⟨o,vs,T,oT,ts,q,⟨c,h0⟩,dd,h1,fX (ia t1),t2,t3,t4,t5⟩ gV he key
theorem yR(C:Ok Z d cx A env g s st){A':Around}{x:Value}(X:Exc Z g s.heap x){Q:Unit→Shared→Prop}{E:Value→Shared→Prop}(hq:∀h',ua Z g s st.H h'→Exc Z g h' x→Q () {s with heap:=h'}):õ prog w A' (setFlight x none) Q E s:=by
 obtain⟨a,o,vs,a0,t,rfl,r,q,c,dd,h0,h1,tb⟩:=X;obtain⟨l,hl,F⟩:=C.r.frames;have FF:=jj C.base C.i.gG F;rcases tb with rfl|⟨T,oT,ts,rfl,t1,t2,t3,t4,t5⟩
 ·unfold setFlight;refine wpAny_bind (wpAny_field q dd h1 (wpAny_pure (hq _ ⟨C.base,fun b o À e=>⟨o.slots,e⟩⟩ ⟨a,o,vs,a0,_,rfl,r,q,c,dd,h0,h1,.inl rfl⟩)))
 ·refine wpAny_setFlight_noneW gV FF ⟨o,vs,T,oT,ts,q,⟨c,h0⟩,dd,h1,fX (ia t1),t2,t3,t4,t5⟩ fun cR j1 j2 j3 j4=>?_;exact hq cR (ta C.base C.i.gG F j1 fun b o hb hn=>⟨o.slots,j4 b o hb hn⟩) (mh j2 C.base.alive r j3)
theorem Bd(C:Ok Z d cx A env g s st){x:Value}(X:Exc Z g s.heap x){Q:Unit→Shared→Prop}{E:Value→Shared→Prop}(hq:∀h',ua Z g s st.H h'→Exc Z g h' x→Q () {s with heap:=h'}):õ prog w A (leaving env x) Q E s:=by
 unfold leaving;exact wpAny_bind (wG C X hq)
theorem Ok.ta(C:Ok Z d cx A env g s st){h':Heap}(F:ua Z g s st.H h'):Ok Z d cx A env g {s with heap:=h'} st:=C.fJ (.refl g) F.keep F.base
end
section
variable{g g' gE:Gh}{s s' sE:Shared}{st S Å:St}{H H' H₁ Ö HE:List Cell}{ρ κ:List (Option V)}{v:V}{LI:List PS}
theorem Exc.to{h:Heap}{x:Value}(k:∀a,g.r a=.free→g'.r a=.free)(X:Exc Z g h x):Exc Z g' h x:=by
 obtain⟨a,o,vs,a0,t,e,r,q,c,dd,h0,h1,tb⟩:=X;exact⟨a,o,vs,a0,t,e,k a r,q,c,dd,h0,h1,tb.imp (fun x=>x) fun ⟨T,oT,ts,t1,t2,t3,t4,t5,t6⟩=>⟨T,oT,ts,t1,k T t2,t3,t4,t5,t6⟩⟩
theorem En{h:Heap}{L:Addr}{cs:List Addr}(B:Base Z g s H)(N:Č s h L cs)(e:Gst (g.down s.heap L cs) gE){a:Addr}(r:gE.r a=.free):(g.up gE).r a=.free:=by
 induction ho:ů (g.r a)using ñ with
 |true=>
  obtain⟨o,h⟩:=B.own a ho;have:=e.kept a o (cF B N ho h);rw[r]at this;exact neT Role.ctorIdx this rfl
 |false=>exact(iU ho (by rw[r];rfl)).trans r
section
variable(hF:DU Z K P)(aP:Z.sh.heap.NoLimit)(cM:cStatics≠Z.tab)
include hF aP cM
theorem ER{j:Nat}{f:Fn}{vs:List V}(h1:P.fn j=some f)(h2:č ⟨H,ĥ f.nl none,ĥ f.nc none⟩ f.ps (padded vs f.ml f.ps.length)=some S)(h3:fm prog w Z d f.body S ⟨H₁,ρ,κ⟩ .exc)(h6:H₁.take H.length=Ö):vO prog w Z K (d+1) j vs H ⟨Ö,[],[]⟩:=by
 intro A g s xs Q E hr hL B hv hq;obtain⟨ob,fd,body,names,dv,F⟩:=hF j f h1;refine mr F aP cM h2 hr hL B hv fun env Ĉ cs N C À=>?_;refine h3 _ _ _ _ _ _ _ _ F.eb.symm C ⟨fun gE sE fl GE CE OE=>OE.elim,fun À gE sE x GE CE XE=>?_⟩;refine Bd CE XE fun h' FL X'=>?_;subst h6;exact hq _ _ _ ((uo B N GE).take B) (pM B N GE FL.base) ((B.up N GE FL.base).take H.length) (X'.to fun a r=>En B N GE r)
end
inductive Hc(h:Heap)(fI:Addr):Prop
 |mk (nm q:Õ) (N:Addr) (bs:List Value) (sn:List Õ) (sub:List Value) (ab:Bool) (col:Option Bool) (dd:Option Addr) (k0 k1 k2 k3 k5:Option Value) (mN mA mg mb:Õ→Option Value)
   (hC:h.get? 59=some (excClassObj nm q 59 N bs (.ref 46::[.type "Exception",.type "BaseException",.type "object"]) true sn sub ab col dd k0 k1 k2 k3 k5 "Exception.__new__")) (hn:h.Ns N mN)
   (i0:mN "__init__"=none) (s0:mN "__setattr__"=none) (w0:mN "what"=none) (a0:mN "at"=none) (T:nj h 46 mA) (i1:mA "__init__"=some (.ref fI)) (s1:mA "__setattr__"=none) (w1:mA "what"=none) (a1:mA "at"=none)
   (hg:h.Ns mainGlobals mg) (g1:mg "Exception"=none) (hb:h.Ns builtinsNs mb) (b1:mb "Exception"=some (.type "Exception"))
def ub(Z:ę)(fI:Addr):Prop:=∀h:Heap,(∀b o,b≠Z.tab→Z.sh.heap.get? b=some o→h.get? b=some o)→Hc h fI
def Sm(g:Gh)(s:Shared)(h:Heap):Prop:=∀b o,g.r b≠.free→s.heap.get? b=some o→h.get? b=some o
theorem ub.at{fI:Addr}{h:Heap}(X:ub Z fI)(B:Base Z g s H)(k:Sm g s h):Hc h fI:=
 X h fun b o n q=>k b o (by rw[B.top b o q n];exact fun x=>nomatch x) (B.Ô b o (B.top b o q n))
theorem Sm.base{h:Heap}(k:Sm g s h)(B:Base Z g s H)(t:Nat):Base Z g {s with heap:=h,toks:=t} H:=by
 refine B.gen (fun a=>g.r a=.free) (fun a q=>⟨fun o x=>(by rw[q]at x;exact neT Role.ctorIdx x rfl),fun x=>(by rw[q]at x;exact neT Role.ctorIdx x rfl)⟩) (fun b o n e=>k b o n e) (fun À À=>rfl) (fun a q=>?_) B.len (fun À À q=>q) fun i c q=>.inl ⟨q,fun b r=>⟨fun x=>(by rw[r]at x;exact neT Role.ctorIdx x rfl),fun x=>(by rw[r]at x;exact neT Role.ctorIdx x rfl)⟩⟩
 rw[q];exact⟨(fun À x=>nomatch x),(fun À x=>nomatch x),(fun À x=>nomatch x),fun x=>absurd rfl x⟩
end
section
set_option maxRecDepth 100000
section
variable{E:Value→Shared→Prop}{h:Heap}{g:Array GenState}{d:Drawn}{t:Nat}{os:OsState}
variable{nm q:Õ}{C N a e:Addr}{bs bm pn:List Value}{ma:Bool}{sn:List Õ}{sub:List Value}{ab:Bool}{col:Option Bool}{dd:Option Addr}{k0 k1 k2 k3 k5:Option Value}{B newId fR:String}
theorem B9(F:ExcBaseFacts B newId fR pn)(T:zo C bm B){rest:List Value}{t0:Addr}{Q:Value→Shared→Prop}(hC:h.get? C=some (excClassObj nm q C N bs bm ma sn sub ab col dd k0 k1 k2 k3 k5 newId))
  (he:h.get? e=some {cls:=.ref C,data:=.fields #[.ref t0,.none,.none,.none,.bool false,.none]})(l8:rest.length≤sizeLine)
  (hq:∀h',(∀b o,b≠e→h.get? b=some o→h'.get? b=some o)→h'.get? e=some {cls:=.ref C,data:=.fields #[.ref h.objs.size,.none,.none,.none,.bool false,.none]}→Q .none ⟨h',g,d,t,os⟩):
  wpAny (model prog w) A (call (.builtin fR) (.ref e::rest)) Q E ⟨h,g,d,t,os⟩:=by
 have S9:=F.noStar;refine wpAny_call (codeAny_call_builtin F.init.plain F.initEntry ?_);unfold checkBuiltinCall;rw[F.initKind,F.initSplit,F.initRow]
 repeat (first|with_reducible refine wpAny_loadPart_at he ?_|with_reducible refine wpAny_loadPart_at hC ?_|with_reducible refine kl hC T.b ?_|wp_step)
 refine wpAny_onRaise ?_;rw[show ∀(a b:String) (n:Nat),Bind.check ⟨.positional,"*",B,.self,[⟨"args",.varPos,false⟩]⟩ a b n (List.map (fun x=>x.fst) ({pos:=Value.ref e::rest}:Args).kw)=pure ()from
  fun a b n=>check_star_args _ _ _ _ _ _]
 refine wpAny_pure ?_;wp_walk;refine hq _ (fun b o hbe hb=>?_) ?_
 ·rw[Heap.get?_update_other _ _ (Ne.symm hbe)];exact ŏ _ hb
 ·rw[Heap.get?_update_self _ (ŏ _ he) rfl];rfl
end
theorem Bv:findCls [] (.type "Exception") (.type "type") "__init__"=some (.val (.builtin "Exception.__init__")):=by kernel_rfl
theorem Bu:typeOf (.type "Exception")=pure (.type "type"):=by first|rfl|kernel_rfl
theorem yL{prog:Program}{w:World}{A:Around}{E:Value→Shared→Prop}{s:Shared}{pl:Sem Bool}{L:Addr}{m:Õ→Option Value}{Q:Value×List Value→Shared→Prop}(hn:s.heap.Ns L m)(h:Q (.builtin "Exception.__init__",[]) {s with toks:=s.toks+1}):
  wpAny (model prog w) A (getMethod (.type "Exception") "__init__" pl) Q E s:=
 method_type (K:=[]) (h₀:={}) ⟨hn,fun b o e=>by simp[Heap.get?]at e,Nat.zero_le _⟩ (fun a o e=>by exact nS e) Bu (by decide+kernel) Bv rfl h
noncomputable def qt:List Stmt:=[.Expr (.Call (.Attribute (.Name "Exception" ⟨8,8,8,17⟩) "__init__" ⟨8,8,8,26⟩) [.Name "self" ⟨8,27,8,31⟩,.Name "what" ⟨8,33,8,37⟩] [] ⟨8,8,8,38⟩) ⟨8,8,8,38⟩,
 .Assign [.Attribute (.Name "self" ⟨9,8,9,12⟩) "what" ⟨9,8,9,17⟩] (.Name "what" ⟨9,20,9,24⟩) ⟨9,8,9,24⟩,.Assign [.Attribute (.Name "self" ⟨10,8,10,12⟩) "at" ⟨10,8,10,15⟩] (.Name "at" ⟨10,18,10,20⟩) ⟨10,8,10,20⟩]
noncomputable def xa:List (Õ×NameKind):=[("self",.local),("what",.local),("at",.local),("Exception",.globalImplicit)]
structure g7(env:Env)(L:Addr)(h:Heap)(e:Addr)(y1 y2:Value):Prop where
 k:env.scope.kind=.function
 sn:env.scope.names=xa
 l:env.locals=L
 g:env.globals=mainGlobals
 b:env.builtins=builtinsNs
 n:∃m,A4 (h.Ns L m) (m "self"=some (.ref e)) (m "what"=some y1) (m "at"=some y2)
section
variable{E:Value→Shared→Prop}{g:Gh}{s:Shared}{H:List Cell}{L e:Addr}{y1 y2:Value}
theorem g7.keep{h h':Heap}(I:g7 env L h e y1 y2)(k:∀o,h.get? L=some o→h'.get? L=some o):g7 env L h' e y1 y2:=by
 obtain⟨m,⟨o,es,ep,q,r⟩,n1,n2,n3⟩:=I.n;exact⟨I.k,I.sn,I.l,I.g,I.b,m,⟨o,es,ep,k o q,r⟩,n1,n2,n3⟩
theorem g7.load(I:g7 env L s.heap e y1 y2){x:Õ}{v:Value}{p:Pos}{Q:Value→Shared→Prop}(hx:(x="self"∧v=.ref e)∨(x="what"∧v=y1)∨(x="at"∧v=y2))(hq:Q v s):õ prog w A (eval (.Name x p) env) Q E s:=by
 obtain⟨m,hm,n1,n2,n3⟩:=I.n;have kd:∀x,xa.lookup x=some .local→env.kindOf x=some .local:=fun x q=>by unfold Env.kindOf;rw[I.sn];exact q
 rcases hx with⟨rfl,rfl⟩|⟨rfl,rfl⟩|⟨rfl,rfl⟩
 ·exact wpAny_Name (wpAny_loadName_local I.k (kd _ (by rfl)) (I.l▸hm) n1 hq) (by decide)
 ·exact wpAny_Name (wpAny_loadName_local I.k (kd _ (by rfl)) (I.l▸hm) n2 hq) (by decide)
 ·exact wpAny_Name (wpAny_loadName_local I.k (kd _ (by rfl)) (I.l▸hm) n3 hq) (by decide)
theorem oW{fI a0:Addr}{h:Heap}{x:Õ}{v:Value}{tk:Tok}{mX:Õ→Option Value}{ns:List Õ}{p1 p2 p3 p4:Pos}{Q:Flow→Shared→Prop}(X:Hc h fI)(hx:x="what"∨x="at")(I:g7 env L h e y1 y2)(ho:h.Inst e 59 mX)
  (hd:∃o,h.get? e=some o∧o.data=.fields #[.ref a0,.none,.none,.none,.bool false,.none])(hw:Within mX ns)(oZ:ns.length≤1000)(hv:(x="what"∧v=y1)∨(x="at"∧v=y2))
  (hq:∀h' kR dx,(∀b o,b≠e→b≠dx→h.get? b=some o→h'.get? b=some o)→((∃o,h.get? e=some o∧o.dict=some dx)∨h.get? dx=none)→h'.Inst e 59 (fun y=>if y=x then some v else mX y)→(∃o,A3 (h'.get? e=some o) (o.data=.fields #[.ref a0,.none,.none,.none,.bool false,.none]) (o.dict=some dx))→
   Q .next ⟨h',s.gens,s.drawn,kR,s.os⟩):õ prog w A (exec (.Assign [.Attribute (.Name "self" p1) x p2] (.Name x p3) p4) env) Q E ⟨h,s.gens,s.drawn,tk,s.os⟩:=by
 obtain⟨nm,q,N,bs,sn,sub,ab,col,dd,k0,k1,k2,k3,k5,mN,mA,mg,mb,hC,hn,i0,s0,w0,Yh,T,i1,s1,w1,a1,hg,g1,hb,b1⟩:=X;refine eR (a_ rfl) (eg (.inl rfl)) rfl (I.load (.inr hv) ?_);rw[assign_Attribute];refine wpAny_bind (wpAny_holding (I.load (.inl ⟨rfl,rfl⟩) ?_));refine wpAny_bind (wpAny_standAt (wpAny_bind (wpAny_holding ?_)));have n0:A3 (mN x=none) (mA x=none) (typeLookup (.type "Exception") x=pure none):=by
  rcases hx with rfl|rfl
  ·exact⟨w0,w1,by rw[typeLookup_type,builtinLookup_eq_fast];kernel_rfl⟩
  ·exact⟨Yh,a1,by rw[typeLookup_type,builtinLookup_eq_fast];kernel_rfl⟩
 obtain⟨n1,n2,n3⟩:=n0;refine I_ PySem.F.store_Exception rfl hC hn s0 n1 T s1 n2 n3 ho (fun h' kR o ň dx j1 j2 j3 j4 j5 j6 j7 j8 j9=>?_) hw oZ;obtain⟨o',e1,e2⟩:=hd;obtain rfl:=ë (e1.symm.trans j1);obtain⟨o'',f1,f2,f3,_⟩:=ho;obtain rfl:=ë (f1.symm.trans j1);refine dD (hq h' kR dx j9 ?_ ⟨ň,j2,j3.trans f2,fun c x=>f3 c (j4.symm.trans x),.inr ⟨dx,j5,j6,j7⟩⟩ ⟨ň,j2,j4.trans e2,j5⟩);exact j8.imp (fun q=>⟨_,j1,q⟩) fun q=>q
theorem F5{fI t0:Addr}{h:Heap}{tk:Tok}{Q:Flow→Shared→Prop}(X:ub Z fI)(B:Base Z g s H)(k:Sm g s h)(fe:g.r e=.free)(he:h.get? e=some {cls:=.ref 59,data:=.fields #[.ref t0,.none,.none,.none,.bool false,.none]})(fL:g.r L=.free)(Wz:L≠e)(I:g7 env L h e y1 y2)
  (hq:∀h' kR a0,Sm g s h'→(∃o,A3 (h'.get? e=some o) (o.cls=.ref 59) (o.data=.fields #[.ref a0,.none,.none,.none,.bool false,.none]))→Q .next ⟨h',s.gens,s.drawn,kR,s.os⟩):õ prog w A (execs qt env) Q E ⟨h,s.gens,s.drawn,tk,s.os⟩:=by
 obtain⟨oL,PX⟩:∃o,h.get? L=some o:=let ⟨m,⟨o,_,_,q,_⟩,_,_,_⟩:=I.n;⟨o,q⟩;refine wpAny_execs_cons ?_;refine wpAny_Expr_any ?_ (by unfold interactive;rw[I.k];rfl) (a_ rfl);rw[arm_eval_Call,eN rfl];obtain⟨nm,q,N,bs,sn,sub,ab,col,dd,k0,k1,k2,k3,k5,mN,mA,mg,mb,hC,hn,i0,s0,w0,Yh,T,i1,s1,w1,a1,hg,g1,hb,b1⟩:=X.at B k;refine wpAny_bind (Calls.Name_function_global I.k (by unfold Env.kindOf;rw[I.sn];rfl) (Calls.loadGlobal_builtin (I.g▸hg) g1 (I.b▸hb) b1 (wpAny_bind (wpAny_standAt ?_))) (by decide));obtain⟨m,hm,_⟩:=id I.n;refine method_call (first:=[]) (f:=.builtin "Exception.__init__") rfl rfl (by decide) (fun Q hQ pl=>yL hm hQ) fun p=>?_;refine Calls.callWith_builtin rfl (ı rfl (Calls.spliced_cons (I.load (.inl ⟨rfl,rfl⟩) (Calls.spliced_cons (I.load (.inr (.inl ⟨rfl,rfl⟩)) (Calls.spliced_nil ?_))))));refine B9 PySem.F.excBase_Exception (.of PySem.F.excBase_Exception) hC he (show 1≤sizeLine by decide) fun bA k1 N2=>?_;have kL:∀o,h.get? L=some o→bA.get? L=some o:=fun o q=>k1 L o Wz q
 have QD:Sm g s bA:=fun b o n q=>k1 b o (fun x=>n (x▸fe)) (k b o n q)
 have I1:=I.keep kL;refine wpAny_execs_cons (oW (e:=e) (mX:=fun À=>none) (ns:=[]) (X.at B QD) (.inl rfl) I1 ⟨_,N2,rfl,(fun À q=>neT PySem.Data.ctorIdx q rfl),.inl ⟨rfl,fun À=>rfl⟩⟩ ⟨_,N2,rfl⟩ Within.nil (by decide) (.inl ⟨rfl,rfl⟩) fun cR Hh dx k2 d2 In2 e2=>?_);have P6:bA.get? dx=none:=d2.resolve_left fun ⟨o,q,r⟩=>by rw[N2]at q;(replace q:=ë q;subst q);exact nS r
 have nL:L≠dx:=fun q=>by rw[←q,kL _ PX]at P6;exact sN P6
 have nk:∀b,g.r b≠.free→∀o,bA.get? b=some o→cR.get? b=some o:=fun b n o q=>k2 b o (fun x=>n (x▸fe)) (fun x=>by rw[x,P6]at q;exact nS q) q
 have Je:Sm g s cR:=fun b o n q=>nk b n o (QD b o n q)
 have I2:=I1.keep fun o q=>k2 L o Wz nL q
 refine wpAny_execs_cons (oW (s:=s) (X.at B Je) (.inr rfl) I2 In2 (let ⟨o,q,r,_⟩:=e2;⟨o,q,r⟩) (Within.cons "what" y1 Within.nil) (by decide) (.inr ⟨rfl,rfl⟩) fun Ň Mh Ue k3 d3 In3 e3=>?_);obtain⟨o2,q2,r2,t2⟩:=e2;obtain⟨o3,q3,r3,t3⟩:=e3;obtain⟨o4,q4,c4,_⟩:=In3;obtain rfl:=ë (q3.symm.trans q4);refine wpAny_execs_nil (hq Ň Mh _ (fun b o n q=>?_) ⟨o3,q3,c4,r3⟩);refine k3 b o (fun x=>n (x▸fe)) (fun x=>?_) (Je b o n q);rcases d3 with⟨o',u1,u2⟩|u
 ·obtain rfl:=ë (q2.symm.trans u1);obtain rfl:=ë (t2.symm.trans u2);have:=QD b o n q;rw[x,P6]at this;exact nS this
 ·have:=Je b o n q;rw[x,u]at this;exact nS this
end
section
inductive Hb(Z:ę)(fI:Addr):Prop
 |mk (K:dn Z) (j:Nat) (f:Fn) (o:Obj) (fd:FuncData) (dv:List Value) (F:g9 Z K j f o fd qt ["self","what","at"] dv) (hj:K.fn j=fI) (sn:fd.scope.names=xa) (oc:o.cls=.type "function")
variable{st S Å:St}{H H':List Cell}{es:List PE}{vs:List V}{v:V}{fI e:Addr}{LI:List PS}
theorem Bw(I:Hb Z fI)(X:ub Z fI)(aP:Z.sh.heap.NoLimit)(cM:cStatics≠Z.tab)(B:Base Z g s H)(NN:A.depth<recursionLimit){y1 y2:Value}{t0:Addr}{Q:Value→Shared→Prop}{E:Value→Shared→Prop}
  (fe:g.r e=.free)(he:s.heap.get? e=some {cls:=.ref 59,data:=.fields #[.ref t0,.none,.none,.none,.bool false,.none]})
  (hq:∀h' kR a0,Sm g s h'→(∃o,A3 (h'.get? e=some o) (o.cls=.ref 59) (o.data=.fields #[.ref a0,.none,.none,.none,.bool false,.none]))→Q .none ⟨h',s.gens,s.drawn,kR,s.os⟩):õ prog w A (call (.ref fI) [.ref e,y1,y2]) Q E s:=by
 obtain⟨K,j,f,o,fd,dv,F,rfl,sn,_⟩:=I;have KJ:s.heap.CodeRec fd.code fd.qualname:=by
  obtain⟨c,oc,vs,t,e1,e2,e3,e4,e5⟩:=F.cd;exact⟨c,oc,vs,t,e1,B.Ô _ _ (B.top _ _ e3 e2),e4,e5⟩
 have sY:s.heap.NoLimit:=let ⟨mc,a,b⟩:=aP;⟨mc,B.du a cM,b⟩;have xh:BindsTo s fd ⟨[.ref e,y1,y2],[]⟩ [("self",.ref e),("what",y1),("at",y2)]:=by
  have:BindsTo s fd ⟨[.ref e,y1,y2],[]⟩ ((["self","what","at"]:List Õ).zip ([.ref e,y1,y2]++dv.drop dv.length)):=F.bd s [.ref e,y1,y2] (fun a o q n=>B.Ô _ _ (B.top _ _ q n)) (Ĭ _) (Ż _ _)
  rwa [List.drop_length]at this
 refine wpAny_call (codeAny_call_function NN (B.Ô _ _ (B.top _ _ F.ho F.tab)) F.hd F.co F.gen F.hb KJ (xh _ _ _ _ ?_));rw[F.g_];refine wpAny_newFunctionEnv (by rw[sn];decide) (by rw[sn];intro x hx;simp only[ĸ,List.mem_nil_iff,or_false]at hx;rcases hx with rfl|rfl|rfl<;>rfl) (fun h₀ xe xb=>⟨sY.fresh _ xb,codeAny_func ?_⟩) F.kind;have kp:∀b o,s.heap.get? b=some o→h₀.get? b=some o:=fun b o q=>xb.extBut b o (eW (eY q)) (ŏ _ q)
 refine F5 (H:=H) X B (fun b o À q=>kp b o q) fe (kp _ _ he) (B.fresh _ (Ĭ _)) (Nat.ne_of_gt (eY he)) ⟨F.kind,sn,rfl,F.xk,F.H6,_,xe,rfl,rfl,rfl⟩ fun h' kR a0 k o=>?_;exact hq h' kR a0 k o
theorem uI{x:Sem Value}{Q:Flow→Shared→Prop}{E:Value→Shared→Prop}(hh:A.handled=none)(h:õ prog w A x (fun v Ĉ=>T3 fun e a0 o=>A6 (v=.ref e) (Hc Ĉ.heap fI) (Ĉ.heap.get? e=some o) (o.cls=.ref 59) (o.data=.fields #[.ref a0,.none,.none,.none,.bool false,.none]) (E (.ref e) Ĉ)) E s):
  õ prog w A (raiseStmt env (some x) none) Q E s:=by
 unfold raiseStmt;refine wpAny_bind (wpAny_mono h (fun v Ĉ bA=>?_) fun À À x=>x);obtain⟨e,a0,⟨cls,aY,dta,slt⟩,rfl,X,he,hc,hd,hE⟩:=bA;obtain⟨nm,q,N,bs,sn,sub,ab,col,dd,k0,k1,k2,k3,k5,mN,mA,mg,mb,hC,_⟩:=X;subst hc;subst hd;have hB:(Value.ref 59::.ref 46::[.type "Exception",.type "BaseException",.type "object"]).contains (.type "BaseException")=true:=rfl;obtain⟨hp,g,d,tk,os⟩:=Ĉ
 repeat (first|with_reducible refine wpAny_loadPart_at he ?_|with_reducible refine wpAny_loadPart_at hC ?_|(with_reducible refine wpAny_isSubtype_exc hC ?_;rw[hB])|wp_step)
 exact wpAny_raiseNew_none hh hE
theorem IG{xs:List Value}{vs:List V}(h:ł Z g vs xs)(h2:ö vs.length 2=true):T2 fun y1 y2=>xs=[y1,y2]:=by
 have e:=h.len.trans (ġ h2)
 induction xs using Ŭ with
 |nil=>exact absurd e (show(0:Nat)≠2 by decide)
 |cons a r=>induction r using Ŭ with
  |nil=>exact absurd e (show(1:Nat)≠2 by decide)
  |cons b r=>induction r using Ŭ with
   |nil=>exact⟨a,b,rfl⟩
   |cons c r=>exact absurd (Nat.succ.inj (Nat.succ.inj e)) (Nat.succ_ne_zero _)
theorem QO(hg:cg Z K)(aP:Z.sh.heap.NoLimit)(cM:cStatics≠Z.tab)(I:Hb Z fI)(X:ub Z fI)(h1:Ļ prog w Z d es S Å vs)(h2:ö vs.length 2=true):vN prog w Z d (.ra es) S Å .exc:=by
 intro cx x env A g s Q E hx C hq;obtain⟨f,np,ys,q,p,rfl,hp,hf,e1⟩:=sv hx;rw[arm_exec_Raise];refine wpAny_bind (wpAny_standAt (uI (fI:=fI) C.r.hd (wpAny_bind (wpAny_mono (wpAny_Call_ofName (ō hg C.e C.base hf fun z hz=>?_)) (fun v aN Ň=>wpAny_bind (wpAny_standAt (wpAny_pure Ň))) fun À À x=>x))));obtain rfl:z=.ref 59:=hz;refine d6 (plain_any hp) (h1 _ _ _ _ _ _ _ _ _ e1 hp C fun Û ò xs Ñ Ï ô=>?_);obtain⟨y1,y2,rfl⟩:=IG ô h2;have YH:Sm Û ò ò.heap:=fun À À À q=>q
 have X1:=X.at Ï.base YH;obtain⟨nm,q,N,bs,sn,sub,ab,col,dd,k0,k1,k2,k3,k5,mN,mA,mg,mb,hC,hn,i0,s0,w0,a0,T,i1,s1,w1,a1,hg',g1,hb,b1⟩:=X1;obtain⟨xd,gn,dr,tk,os⟩:=ò;refine⟨fun Q hQ=>wpAny_keeperOf_exc hC hQ,?_⟩;obtain⟨K',j,ff,o,fd,dv,F,hj,hsn,oc⟩:=id I;have N0:xd.get? fI=some o:=hj▸Ï.base.Ô _ _ (Ï.base.top _ _ F.ho F.tab);refine tI PySem.F.excBase_Exception hC hn i0 T i1 N0 oc (fun h' e M=>?_) (show 2≤sizeLine by decide);obtain⟨t0,m1,m2,m3⟩:=M.there;have nf:∀b,xd.get? b=none→Û.r b=.free:=fun b q=>Classical.byContradiction fun n=>by
  obtain⟨o,q'⟩:=Ï.base.alive b n;rw[q]at q';exact nS q'
 have fe:=nf e M.new;have VQ:Sm Û ⟨xd,gn,dr,tk,os⟩ h':=fun b o À q=>M.keeps b o q
 refine Bw I X aP cM (VQ.base Ï.base tk) ?_ fe m1 fun cR Hh a0 k₂ aG=>⟨rfl,?_⟩
 ·show A.depth+1<recursionLimit;have:=C.r.depth;exact â [_,_,_] (.c (.a (.a (.a Â (.m 4 á)) Ĵ) Á) È .z) (.a (.a Â Á) Á) È rfl this
 obtain⟨aG,q1,q2,q3⟩:=aG;have Je:Sm Û ⟨xd,gn,dr,tk,os⟩ cR:=fun b o n q=>k₂ b o n (VQ b o n q)
 have aB:=Je.base Ï.base Hh;refine⟨e,a0,aG,rfl,X.at Ï.base Je,q1,q2,q3,hq.x rfl Û _ _ Ñ (Ï.fJ (.refl Û) (fun b o r q=>⟨o.slots,Je b o ?_ q⟩) aB) ⟨e,aG,_,_,_,rfl,fe,q1,q2,q3,rfl,rfl,.inl rfl⟩⟩;rcases r with r|⟨i,r⟩<;>rw[r]<;>exact fun x=>nomatch x
theorem AV{u:Expr}{A':Around}(hg:cg Z K)(C:Ok Z d cx A env g s st)(h:er cx u=.c v)(h2:iq v=true){Q:Value→Shared→Prop}{E:Value→Shared→Prop}(hq:Q .none s):õ prog w A' (eval u env) Q E s:=by
 induction v using V.casesOn<;>first|cases h2|skip
 rcases iv h with⟨c,k,p,rfl,h'⟩|⟨n,p,rfl,h'⟩
 ·induction c using PySem.Const.casesOn<;>cases h'
  exact wpAny_pure hq
 ·exact ō hg C.e C.base h' fun z hz=>by obtain rfl:z=.none:=hz;exact hq
theorem QH(hg:cg Z K)(X:ub Z fI)(h1:fm prog w Z d LI S Å .exc)(h2:iq v=true):vN prog w Z d (.tr LI 7 [.re (.c v)]) S Å (.ret v):=by
 intro cx x env A g s Q E hx C hq;obtain⟨y,z,np,k,ep,p,rfl,hz,e1,e2⟩:=sv hx;obtain⟨kx,kr,rfl,e3,e4⟩:=jk e2;obtain rfl:=tn e4;obtain⟨u,rp,rfl,e5⟩:=sv e3;refine wpAny_Try_except (h1 _ _ _ _ _ _ _ _ e1 C ⟨fun Û ò f Ñ Ï nh=>nh.elim,fun À Û ò x Ñ Ï Vi=>?_⟩);refine wG Ï Vi fun h' F X'=>?_;have æ:=Ï.ta F;obtain⟨nm,q,N,bs,sn,sub,ab,col,dd,k0,k1,k2,k3,k5,mN,mA,mg,mb,hC,_⟩:=X.at æ.base (fun À À À q=>q);obtain⟨a,o,vs,a0,tt,rfl,r,q1,c,_⟩:=id X';refine wpAny_handleBy_cons (codeAny_handlers_test (ō hg æ.e æ.base hz fun zz ZI=>?_)) (by intro q;exact neT PySem.Value.ctorIdx q rfl);obtain rfl:zz=.ref 59:=ZI;refine wpAny_excMatches_sub_self hC q1 c rfl ?_;refine codeAny_handlers_suite (yR æ X' fun cR Vz O6=>?_);have Ĺ:=æ.ta Vz;refine wpAny_execs_cons (wpAny_Return_some (AV hg Ĺ e5 h2 ?_));have hv:v=.none:=by induction v using V.casesOn<;>first|rfl|exact à h2
 exact hq.q Û _ _ Ñ Ĺ ⟨.none,rfl,hv▸rfl⟩
end
end
section
section
variable(prog:Program)(w:World)(Z:ę)(K:dn Z)(P:ċ)
structure Facts:Prop where
 hg:cg Z K
 hc:∀c j,P.init c=some j→af Z K P c
 cS:cn Z
 e_:vS Z
 hh:Z.hash=hashStr w
 sS:my Z
 LZ:ki Z P
 aP:Z.sh.heap.NoLimit
 cM:cStatics≠Z.tab
 hF:DU Z K P
 I:Hb Z 36
 X:ub Z 36
structure Yj(d:Nat)(e:PE)(S Å:St)(v:V):Prop where
 co:Vm prog w Z d e S Å v
 src:m_ prog w Z d e S Å v
 no:e≠.no
structure Yi(d:Nat)(e:PE)(S Å:St):Prop where
 x:Pd prog w Z d e S Å
 f:T2 fun j as=>e=.fn j as
structure LOk(d:Nat)(es:List PE)(S Å:St)(vs:List V):Prop where
 a:Ļ prog w Z d es S Å vs
 p:mB prog w Z d es S Å vs
 z:es=[]→S=Å∧vs=[]
def EvR(d:Nat)(e:PE)(S Å:St):Out→Prop
 |.val v=>Yj prog w Z d e S Å v
 |.exc=>Yi prog w Z d e S Å
 |_=>True
def PA(d j:Nat)(vs:List V)(H:L)(Å:St):Out→Prop
 |.val v=>cG prog w Z K d j vs H Å v
 |.exc=>vO prog w Z K d j vs H Å
 |_=>True
end
def Eg(R:V→Prop):Out→Prop
 |.val v=>R v
 |_=>True
def CI(R:Bool→Prop):V→Prop
 |.bool b=>R b
 |_=>True
def v5(R:List V→Prop):Out→Prop
 |.vals v=>R v
 |_=>True
def Zb(R:Option V→Prop):Out→Prop
 |.ov v=>R v
 |_=>True
def M6(R:Prop):Out→Prop
 |.next=>R
 |_=>True
theorem nu{R R':List V→Prop}{o:Out}(f:∀v,R v→R' v)(h:v5 R o):v5 R' o:=by
 induction o using Out.casesOn with
 |vals v=>exact f v h
 |_=>trivial
def CU(prog:Program)(w:World)(Z:ę)(K:dn Z):Task→Res→Prop
 |.ev d e S,r=>EvR prog w Z d e S r.1 r.2
 |.bZ d es S,r=>v5 (LOk prog w Z d es S r.1) r.2
 |.gv d e S,r=>Eg (CI (gA prog w Z d e S r.1)) r.2
 |.hM d q es S,r=>Eg (CI (jT prog w Z d q es S r.1)) r.2
 |.yY d v ops es S,r=>Eg (CI (zl prog w Z d v ops es S r.1)) r.2
 |.CG d q es S,r=>Eg (CW prog w Z d q es S r.1) r.2
 |.ex d X S,r=>vN prog w Z d X S r.1 r.2
 |.dj d X S,r=>fm prog w Z d X S r.1 r.2
 |.pE d t B S,r=>zi prog w Z d t B S r.1 r.2
 |.qF d t l B S,r=>zk prog w Z d t l B S r.1 r.2
 |.fj d elt tg ifs l acc S,r=>v5 (mC prog w Z d elt tg ifs l acc S r.1) r.2
 |.call d j vs H,r=>PA prog w Z K d j vs H r.1 r.2
 |.asg d t v S,r=>M6 (uh prog w Z d t v S r.1) r.2
 |.opt d e S,r=>Zb (zj prog w Z d e S r.1) r.2
noncomputable def AG:PE→Bool
 |.no=>false
 |.co .. =>false
 |.bl b _=> !ak 11 b
 |_=>true
variable{e:PE}{S Å:St}{v:V}{t:Tg}
theorem iQ(h:ű prog w Z d e S Å v)(p:AG e=true):Yj prog w Z d e S Å v:=by
 refine⟨⟨h,fun À À À À À q=>?_⟩,we h ?_,fun q=>?_⟩
 ·rw[q]at p;exact à p
 ·induction e using PE.casesOn with
  |bl b as=>exact nn p
  |_=>rfl
 ·rw[q]at p;exact à p
noncomputable def Ez:Tg→Bool
 |.no=>false
 |.t _=>false
 |_=>true
theorem PF(h:vP prog w Z d t v S Å)(p:Ez t=true):uh prog w Z d t v S Å:=
 ⟨h,fun À q=>(by rw[q]at p;exact à p),fun q=>(by rw[q]at p;exact à p)⟩
theorem Jl(h:Yi prog w Z d e S Å):vN prog w Z d (.as t e) S Å .exc:=by
 intro cx x env A g s Q E hx C hq;obtain⟨j,as,rfl⟩:=h.f;obtain⟨y,z,p,rfl,cM,LR,e1,e2⟩:=sv hx;have hc:jf z=false:=by
  obtain⟨f,np,ys,q,rfl,_⟩:=iv e2;rfl
 exact eR (a_ hc) (eg LR) cM (h.x _ _ _ _ _ _ _ _ e2 C (hq.x rfl))
theorem CK{n:Nat}{vs:List V}{as:List PE}(h:blt n vs=some v):AG (.bl n as)=true:=by
 have hb:=CJ h;show(!ak 11 n)=true
 induction q:ak 11 n using ñ with
 |false=>rfl
 |true=>exact absurd (dU q) (by omega)
variable(F:Facts w Z K P)
include F
theorem RC:Yt P (CU prog w Z K) where
 gX h:=PF (Jz h) rfl
 CM h h2:=⟨Jy h h2,fun À q=>(by(injection q with q;subst q);exact⟨_,h,h2⟩),nofun⟩
 dA h1 h2 h3 h4 h5 h6:=PF (JA F.hc F.cS h1.co.s h2 h3 h4 h5 h6) rfl
 tM h1 h2 h3 h4 h5 h6 h7:=PF (ET h2.no h1.co.s h2.co.s h3 h4 h5 h6 h7) rfl
 xB h1 h2 h3 h4 h5 h7:=PF (EU F.hh h2.no h1.co.s h2.co.s h3 h4 h5 h7) rfl
 nV:=iQ (Q9 F.hg) rfl
 aR h:=iQ (YI h) rfl
 Ar h:=iQ (YJ h) rfl
theorem RB:Ys P (CU prog w Z K) where
 Au h1 h2 h3 h4 h5:=iQ (Rc F.hc F.cS h1.co.s h2 h3 h4 h5) rfl
 lg h1 h2:=iQ (Q2 F.hg h1.a h2) rfl
 E2 h1 h2:=⟨Q0 F.hg h1.a h2,_,_,rfl⟩
 uK h1 h2 h3 h4 h5:=iQ (Q8 F.hc F.hg h1.a h2 h3 h5) rfl
 E3 h1 h2 h3 h4:=iQ (Q5 F.hc F.hg h1.a h2 h3) rfl
 j0 h1 h2 h3 h4:=iQ (Ra F.hg h1.a h2 h3 h4) (CK h3)
 ll h1 h2 h3:=iQ (Jx F.hg h1.a h2 h3) rfl
 Ő h1 h2 h3:=⟨⟨qq rfl,nofun⟩,Jw F.hg h1.a h2 h3,(fun q=>neT PE.ctorIdx q rfl)⟩
theorem RA:Yr P (CU prog w Z K) where
 km h1 h2 h3:=⟨⟨qq rfl,nofun⟩,ES F.hg h1.a h2 h3,(fun q=>neT PE.ctorIdx q rfl)⟩
 lk h1 h2:=⟨⟨qq rfl,nofun⟩,Jv F.hg h1.a h2,(fun q=>neT PE.ctorIdx q rfl)⟩
 Ap h1 h2 h3:=iQ (QV F.LZ F.hg F.aP F.cM h1.co.s h2.a h3) rfl
 rF h1 h2 h3 h4 h5 h6 h7:=iQ (QU F.hc F.cS h1.co.s h2 h3 h4 h5 h6.a h7) rfl
 rI h1 h3 h4 h5 h6 h7 h8:=iQ (Rd F.e_ h1.co.s h3 h4.a h5 h6 h7 h8) rfl
 rC h1 h3 h4 h6 h7 h8 h9:=iQ (QP F.e_ h1.co.s h3 h4.a h6 h7 h8 h9) rfl
 rG h1 h3 h4 h5 h6 h7 h8:=iQ (QF F.e_ h1.co.s h3 h4.a h5 h6 h7 h8) rfl
 rD h1 h3 hk h4 h5 h6 h7 h8:=iQ (QT F.e_ F.hh F.sS h1.co.s h3 hk h4.a h5 h6 h7 h8) rfl
theorem Rz:Yq P (CU prog w Z K) where
 yo h1 h2 h3 h4:=iQ (QY F.hh h1.co.s h2.co.s h3 h4) rfl
 Al h1 h2 h3 h4 h5 h6 h7:=iQ (QM h1.co.s h2 h3 h4 h5 h6 h7) rfl
 rH h1 h2 h3 h4 h5 h6:=iQ (Rb h1.co.s h2.co.s h3 h4 h5 h6) rfl
 yq h1 h2:=iQ (Q7 h1.co.s h2) rfl
 As h1:=iQ (Q_ h1) rfl
 Am h1 h2 h3:=iQ (QR h1.co.s h2 h3) rfl
 Ao h1:=iQ (QS h1.co.s) rfl
 nU h1 h2 h3:=iQ (QK h1 (fun q=>(h2 q).co.s) fun q=>(h3 q).co.s) rfl
theorem Ry:Yp P (CU prog w Z K) where
 uJ h1 h2 h3:=iQ (QI h1.a h2 h3) rfl
 i8 h1 h2 h3:=iQ (QW h1.a h2 h3) rfl
 yp h1 h2 h3 h4:=iQ (Q4 F.hh h1.a h1.p h1.z h2 h3 h4) rfl
 lj h1 h2 h3 h4:=have h:=Q6 h1.src h2 h3 h4;⟨h,we h.s rfl,(fun q=>neT PE.ctorIdx q rfl)⟩
 Aq h1 h2 h3:=iQ (QX F.LZ h1 h2 h3) rfl
 JV:=ME
 LL h:=MD h.co.s
 Ų:=⟨Jt,MB,fun À=>⟨rfl,rfl⟩⟩
theorem Rx:Yo P (CU prog w Z K) where
 Ř h1 h2:=⟨Ju h1.co.s h2.a,MC h1.co.s h2.p,(fun q=>nC q)⟩
 zT h1:=Jq h1
 ya h1:=Js h1
 x_ h1 h2 h3:=Jp h1 h2 h3
 jY h1 h2:=Jr h1.co.s h2
 Ml hp h1 h2 h3:=MA hp h1.co.s h2 h3
 gP:=Jn
 rh h1 h2 h3:=Jo h1 h2 h3
theorem Rw:Yn P (CU prog w Z K) where
 y7 h1 h2 h3 h4:=MM h1.co.s h2 h3 h4
 y0 h1 h2 h3 h4 h5 h6:=ML h1.co.s h2 h3 h4 h5 h6
 OV h1:=MO h1.co.s
 zc h1 h2 h3 h4 h5:=MN h1.co.s h2 h3 h4 h5
 ū h1 h2:=Jm h1.no h1.co h2
 Ea h1:=Jl h1
 zH h1:=Q3 h1.co.s
 hH h1 h2 h3:=QZ h1 h2 h3
theorem Rv:Ym P (CU prog w Z K) where
 zD h1:=QG h1
 bS h1 h2 h3 h4:=Q1 h1.src h2 h3 h4
 qX h1:=QN h1.co.s
 D_ h1 h2:=QO F.hg F.aP F.cM F.I F.X h1.a h2
 zE h1 h2:=QJ h1 h2
 D9 h1 h2:=QH F.hg F.X h1 h2
 zG:=QQ
 zF h1 h2:=QL h1.a h2
theorem Rt:Yl P (CU prog w Z K) where
 gr:=Jk
 Ò h1 h2:=yl h1 h2
 gL h1 h2:=Ad h1 h2
 L9 h1 h2 h3:=Mx h1 h2 h3
 PD h1 h2:=My h1 h2
 L_ h1:=Mz h1
 ug:=MJ
 mO h0 h1 h2 h3:=MK h0 h1 h2 h3
theorem Rr:Yk P (CU prog w Z K) where
 zC h0 h1 h2:=MI h0 h1 h2
 i_:=MG
 ke h0 h1 h2 h3 h4 h5:=nu (fun À h=>MF h0 h1 h2 h3.co.s h4 h) h5
 Hr h0 h1 h2 h5:=nu (fun À h=>MH h0 h1 h2 h) h5
 É h1 h2 h3 h4 h5 h6:=EO F.hF F.aP F.cM h1 h2 h3 h5 h6
 lT h1 h2 h3 h4:=Ae F.hF F.aP F.cM h1 h2 h3
 eE h1 h2 h3 h6:=Af F.hF F.aP F.cM h1 h2 h3 h6
 w5 h1 h2 h3 h6:=ER F.hF F.aP F.cM h1 h2 h3 h6
theorem sound{t:Task}{r:Res}(h:Ev P t r):CU prog w Z K t r:=
 h _ ⟨RC F,RB F,RA F,Rz F,Ry F,Rx F,Rw F,Rv F,Rt F,Rr F,⟨fun h1 h2 h3 h4=>EP h1 h2 h3 h4⟩⟩
end
end
section
set_option maxRecDepth 100000
open Internal.H
def Z0(w:World)(s:Shared):ę:={hash:=hashStr w,ŷ:=ŷ,LM:=Pk wQ,OC:=Pj wQ,zB:=Og,sh:=s,tab:=cP,qk:=1198,lO:=wQ,mW:=mW,mY:=mY}
def K0(w:World)(s:Shared):dn (Z0 w s):=⟨fY⟩
theorem ic{α β:Type}{f:α→β}:∀{l:List α} {j:Nat} {y:β},ç (l.map f) j=some y→∃x,ç l j=some x∧f x=y
 |[],_,_,h=>nS h
 |x::l,j,y,h=>match j,h with
  |0,h=>⟨x,rfl,ë h⟩
  |j+1,h=>ic (l:=l) h
theorem JE{j:Nat}{f:Fn}(h:o_ P4 j=some f):∃p,A3 (o_ Ag j=some p) (p∈Ag.flatten) (p.2=f):=by
 rw[RD]at h;unfold o_ at h ⊢
 induction q:ç (Ag.map fun c=>c.map (·.2)) (j / 16)using š with
 |none=>rw[q]at h;exact nS h
 |some l=>
  rw[q]at h;obtain⟨c,e1,e2⟩:=ic q;rw[e1];dsimp only at h ⊢;rw[←e2]at h;obtain⟨p,e3,e4⟩:=ic h;exact⟨p,e3,List.mem_flatten.mpr ⟨c,aH e1,aH e3⟩,e4⟩
theorem KY(s:Stmt)(q:Õ):(Internal.H.fdOf s q).builtins=builtinsNs:=by induction s using PySem.Stmt.casesOn<;>rfl
theorem Ol(r:Row):(B7 r).builtins=builtinsNs:=by
 unfold B7
 induction r.m using š<;>exact KY _ _
theorem p1{α β:Type}{a c:α}{b d:β}(h:(a,b)=(c,d)):a=c:=congrArg Prod.fst h
theorem p2{α β:Type}{a c:α}{b d:β}(h:(a,b)=(c,d)):b=d:=congrArg Prod.snd h
theorem Cu{t:BT}{c:Nat}{q:Õ}(h:H0 t c=some q):A3 (c<1311) (c≠cP) (T3 fun oc vs u=>A4 (t.get c=some oc) (oc.isFreed=false) (oc.data=.fields vs) (vs[1]? =some (.str q u))):=by
 (have h0:=cz (x:=(t.get c).bind fun o=>(Gp o.data).bind fun vs=>(vs[1]? :Option Value).bind zX) h;have h:=cq (x:=(t.get c).bind fun o=>(Gp o.data).bind fun vs=>(vs[1]? :Option Value).bind zX) h)
 refine ï h fun o h1 h=>?_;refine ï h fun vs h2 h=>?_;refine ï h fun x h3 h=>?_;obtain⟨u,rfl⟩:=wd h;have h2:=Gn h2;exact⟨(fF h0).1,(fF h0).2,o,vs,u,h1,by obtain⟨a,b,c,d⟩:=o;cases h2;rfl,h2,h3⟩
section
variable{w:World}{s:Shared}
theorem ľ(Y:YP w s.heap){a:Addr}{o:Obj}(h:(aA w.params).get a=some o)(h1:a<1311)(h2:o.isFreed=false):s.heap.get? a=some o:=Y a o h h1 h2
theorem uO(Y:YP w s.heap):Old (aA w.params) (oldK (Z0 w s)):=fun a o h h1 h2 h3=>by
 show(if a=cP then none else s.heap.get? a)=some o;rw[if_neg h2];exact Y a o h h1 h3
structure Iu(s:Shared)(P:Params)(Z:ę)(q:Row)(l:List V)(dv:List Value):Prop where
 r:Ý Z.toSta (oldK Z) l dv
 e:K_ P q=dv
 k:∀h:Heap,(∀a o,s.heap.get? a=some o→a≠cP→h.get? a=some o)→(OI P q).In h
theorem K8(Y:YP w s.heap){r:Row}{l:List V}(h:K9 (aA w.params) r.d=some l)(h2:((pZ r.d).isSome||Hp r.d)=true):∃dv,Iu s w.params (Z0 w s) r l dv:=by
 unfold K9 at h
 induction q:pZ r.d using š with
 |none=>
  rw[q]at h;obtain rfl:=ë h;refine⟨[],rfl,by unfold K_;rw[q],fun h À=>?_⟩;unfold OI;rw[q];exact fun a o e=>nS e
 |some T=>
  rw[q]at h;refine ï h fun vs h1 h=>?_;obtain⟨o,e1,_,⟨n,e2⟩,e3,e4,e5⟩:=rf (uO Y) h1;refine⟨vs,qi (fun x v=>lB (uO Y) 2) h,by unfold K_;rw[q];show(rg _ _).getD _=_;rw[h1];rfl,fun h' k=>?_⟩;unfold OI;rw[q];dsimp only;rw[e1];intro a o' e;rw[oH]at e
  induction b:a==T using ñ with
  |true=>
   rw[b]at e;obtain rfl:=ë e;rw[eq_of_beq b];exact k _ _ (ľ Y e1 e3 e5) e4
  |false=>rw[b]at e;exact nS e
theorem yn(xs:List Value):(bQ xs.length).map (fun i=>xs.getD i .none)=xs:=by
 refine List.ext_getElem (by rw[ĕ,List.length_range]) fun i h1 h2=>?_;rw[List.getElem_map,List.getElem_range,List.getD_eq_getElem?_getD,List.getElem?_eq_getElem h2];rfl
theorem GU{r:Row}{f:Fn}{l:List V}{dv:List Value}(D:Iu s w.params (Z0 w s) r l dv)(bk:(GQ (r,f)).map (Qb w.params)=(GQ (r,f)).map (Qa w.params))(hl:f.ml=l){s':Shared}{xs:List Value}(k:∀a o,s.heap.get? a=some o→a≠cP→s'.heap.get? a=some o)
  (h1:xs.length≤(DW r).length)(h2:(DW r).length≤xs.length+dv.length):BindsTo s' (B6 r) ⟨xs,[]⟩ ((DW r).zip (xs++dv.drop (dv.length - ((DW r).length - xs.length)))):=by
 have hm:(r,xs.length)∈GQ (r,f):=dT.mpr ⟨(DW r).length - xs.length,List.mem_range.mpr (Nat.lt_succ_of_le (by rw[hl,←D.r.len];exact Nat.sub_le_iff_le_add'.mpr h2)),by show(r,_)=_;rw[Nat.sub_sub_self h1]⟩;have e:=bq bk hm;refine kp_binds (D.k _ k) fun S=>?_;have e:=congrFun (congrFun e fun i=>xs.getD i .none) S;have e:peek (OI w.params r) S (bindArgs (B6 r) ⟨(bQ xs.length).map (fun i=>xs.getD i .none),[]⟩)=some ((DW r).zip ((bQ xs.length).map (fun i=>xs.getD i .none)++(K_ w.params r).drop ((K_ w.params r).length - ((DW r).length - xs.length)))):=e
 rwa [yn,D.e]at e
theorem wm(Y:YP w s.heap){K:dn (Z0 w s)}{j:Nat}{p:Row×Fn}(ka:K.fn j=p.1.a)(ck:JG (aA w.params) p=JF p)(body:p.2.body=bG (P8 (B7 p.1).scope) (L2 (B7 p.1)))(bk:(GQ p).map (Qb w.params)=(GQ p).map (Qa w.params)):
  ∃dv,g9 (Z0 w s) K j p.2 (ro p.1) (B6 p.1) (L2 (B7 p.1)) ((B6 p.1).params.args.map (·.arg)) dv:=by
 have A:=p1 ck;have A1:=p2 A;have A2:=p2 A1;have A3:=p2 A2;have A4:=p2 A3;have C:=p1 (p2 (p2 ck));have D:=p2 (p2 (p2 ck));have D1:=p2 D;have D2:=p2 D1;have D3:=p2 D2;obtain⟨a1,a2⟩:=fF (p1 A)
 (have n2:=aD (p1 C);have n:=aC (p1 C))
 (have n3:=aD n;have n4:=aC n)
 obtain⟨c1,c2,oc,vs,u,c3,c4,c5,c6⟩:=Cu (p1 D1);obtain⟨dv,DO⟩:=K8 Y (p1 D2) (p1 D3);exact⟨dv,{
  tab:=ka▸a2
  ho:=ka▸ľ Y (p2 D3) a1 rfl
  hd:=rfl
  cd:=⟨p.1.c,oc,vs,u,rfl,c2,ľ Y c3 c1 c4,c5,c6⟩
  hb:=p1 A1
  eb:=body
  g_:=p1 A2
  kind:=p1 A3
  co:=p1 A4
  gen:=p2 A4
  xk:=rfl
  H6:=Ol p.1
  bd:=fun s' xs k=>GU (f:=p.2) DO bk rfl k
  dl:=DO.r.len▸dU n4
  rd:=DO.r
  ps:=p1 (p2 ck)
  keys:=of_decide_eq_true n2
  AU:=fun q hq e=>by
   have:=kg.mp n3 q hq;rw[e]at this;exact à this
  nl:=(p1 (p2 C)).symm
  nc:=(p2 (p2 C)).symm
  lam:=fun hl=>by
   rcases lR.mp (p1 D)with m|m
   ·rw[show(B6 p.1).scope.names.lookup ("seen":Õ)=_ from hl]at m;exact absurd m (by decide)
   ·(have m1:=aD m;have m2:=aC m)
    exact⟨congrArg Value.ref (ġ m1),eq_of_beq m2⟩}⟩
theorem KW(Y:YP w s.heap){j:Nat}{f:Fn}(h:o_ P4 j=some f):T5 fun o fd body names dv=>g9 (Z0 w s) (K0 w s) j f o fd body names dv:=by
 obtain⟨p,h1,h2,rfl⟩:=JE h;have B:=bq (GS w.params) h2;obtain⟨dv,F⟩:=wm Y (K:=K0 w s) (j:=j) (p:=p) (by show fY j=_;unfold fY;rw[h1]) (bq (JC w.params) h2) (bq Lk h2) B;exact⟨_,_,_,_,dv,F⟩
def fS:Row×Fn:=(⟨36,2,some 0,"PostError.__init__",.ref 29,.str "postkeep.errors" 194,35⟩,⟨[(false,0),(false,1),(false,2)],3,0,[.int (-1)],bG (P8 (dm 2 0 "PostError.__init__").scope) (L2 (dm 2 0 "PostError.__init__"))⟩)
theorem KG(P:Params):JG (aA P) fS=JF fS:=by kernel_rfl
theorem NF(P:Params):(GQ fS).map (Qb P)=(GQ fS).map (Qa P):=by kernel_rfl
theorem Bx:(L2 (B7 fS.1),(B6 fS.1).params.args.map (·.arg),(B6 fS.1).scope.names)=(qt,(["self","what","at"]:List Õ),xa):=by kernel_rfl
theorem S1(Y:YP w s.heap):Hb (Z0 w s) 36:=by
 obtain⟨dv,F⟩:=wm Y (K:=⟨fun À=>36⟩) (j:=0) (p:=fS) rfl (KG w.params) rfl (NF w.params);rw[p1 Bx,p1 (p2 Bx)]at F;exact⟨_,0,_,_,_,dv,F,rfl,p2 (p2 Bx),rfl⟩
end
noncomputable def Ō(x:Õ):List DictEntry→Option Value
 |[]=>none
 |e::r=>match e.key.isStr x with
  |true=>some e.val
  |false=>Ō x r
theorem eC(x:Õ):∀l:List DictEntry,nsFind ⟨l⟩ x=Ō x l
 |[]=>rfl
 |e::r=>by
  have ih:=eC x r;unfold nsFind findBy at ih ⊢;rw[List.find?_toArray]at ih ⊢;rw[List.find?_cons];unfold Ō;dsimp only at ih ⊢
  induction h:e.key.isStr x using ñ with
  |true=>rfl
  |false=>exact ih
noncomputable def KV:Data→Option FuncData
 |.func f=>some f
 |_=>none
theorem Gg{x:Data}{f:FuncData}(h:KV x=some f):x=.func f:=mL (f:=Data.func) h (by induction x using PySem.Data.casesOn<;>first|exact trivial|exact rfl)
def TP(o:Obj):Bool:=(KV o.data).isSome&&(Eo o.cls).any fun T=>T=="function"
def w8(t:BT)(a:Nat):Bool:=Ho a&&(t.get a).any TP
def Of(P:Params)(p:Õ×Gl):Option Value×Option V×Bool:=match p.2 with
 |.fn j=>(Ō p.1 ((bV P).take 204),none,w8 (aA P) (fY j))
 |.cls c=>(Ō p.1 ((bV P).take 204),none,true)
 |.con v=>(none,(Ō p.1 ((bV P).take 204)).bind (rU (aA P) 3),true)
 |.blt b=>(bootBuiltins p.1,none,(Ō p.1 ((bV P).take 204)).isNone&&p.1 !="__name__")
def KQ(p:Õ×Gl):Option Value×Option V×Bool:=match p.2 with
 |.fn j=>(some (.ref (fY j)),none,true)
 |.cls c=>(some (.ref (fk c)),none,true)
 |.con v=>(none,some v,true)
 |.blt b=>(some (m9 b),none,true)
theorem Oe(P:Params):Og.map (Of P)=Og.map KQ:=by kernel_rfl
theorem B0{x:Õ}{G:Gl}:∀{l:List (Õ×Gl)},gl x l=some G→(x,G)∈l
 |[],h=>nS h
 |p::r,h=>by
  unfold gl at h
  by_cases e:p.1=x
  ·rw[if_pos e]at h;obtain rfl:=ë h;subst e;exact Ů
  ·rw[if_neg e]at h;exact ũ _ (B0 h)
section
variable{w:World}{s:Shared}
theorem r_(Y:YP w s.heap):s.heap.get? 3=some (oM w.params 204 204 []):=ľ Y (show(aA w.params).get 3=some (oM w.params 204 204 [])by kernel_rfl) (by decide) rfl
theorem gc(Y:YP w s.heap){mg:Õ→Option Value}(G:s.heap.Ns mainGlobals mg)(x:Õ):mg x=Ō x ((bV w.params).take 204):=by
 obtain⟨o,es,ep,h1,h2,h3,h4⟩:=G;have e:s.heap.get? mainGlobals=some (oM w.params 204 204 []):=r_ Y;rw[h1]at e;cases e;injection h2 with e1 e2
 subst e1;rw[←h4 x];exact eC _ _
theorem lY(Y:YP w s.heap){a:Addr}(h:w8 (aA w.params) a=true):DQ s.heap cP a:=by
 (have h1:=aD h;have h2:=aC h)
 obtain⟨b1,b2⟩:=fF h1;obtain⟨o,h3,h4⟩:=anyI h2
 (have h5:=aD h4;have h6:=aC h4)
 obtain⟨T,h7,h8⟩:=anyI h6;obtain⟨fd,h9⟩:=Hw.mp h5;have hd:=Gg h9;exact⟨o,fd,ľ Y h3 b1 (by obtain⟨a,b,c,d⟩:=o;cases hd;rfl),hd,(pN h7).trans (congrArg _ (eq_of_beq h8)),b2⟩
theorem TF(Y:YP w s.heap){mg mb:Õ→Option Value}(G:s.heap.Ns mainGlobals mg)(B:s.heap.Ns builtinsNs mb)(hb:∀x:Õ,x≠"__name__"→mb x=bootBuiltins x):cg (Z0 w s) (K0 w s) where
 tm:=by show(3:Nat)≠1194;decide
 tb:=by show(0:Nat)≠1194;decide
 all x Gv h:=by
  have ck:=bq (Oe w.params) (B0 h);have hm:=gc Y G x
  induction Gv using Gl.casesOn with
  |fn j=>
   obtain⟨o,fd,e1,e2,e3,e4⟩:=lY Y (p2 (p2 ck));exact⟨mg,mb,_,G,B,.inl (hm.trans (p1 ck)),rfl,o,fd,e1,e2,e4⟩
  |cls c=>exact⟨mg,mb,_,G,B,.inl (hm.trans (p1 ck)),rfl⟩
  |con v=>
   refine ï (p1 (p2 ck)) fun u h1 h2=>?_;exact⟨mg,mb,u,G,B,.inl (hm.trans h1),lB (uO Y) 3 h2⟩
  |blt b=>
   (have h1:=aD (p2 (p2 ck));have h2:=aC (p2 (p2 ck)))
   exact⟨mg,mb,_,G,B,.inr ⟨hm.trans (oP.mp h1),(hb x (bne_iff_ne.mp h2)).trans (p1 ck)⟩,rfl⟩
end
def Un(r:DT):Obj:=excClassObj r.n r.n (fk r.c) r.N [.type "object"] [.type "object"] true [] [] false none none none none (some r.k2) (some r.k3) (some (.bool true)) "object.__new__"
noncomputable def Zy(r:DT):Obj:=⟨.type "dict",none,.dict ⟨r.es⟩ r.e,#[]⟩
theorem Lf(P:Params):(gm P).map (fun r=>((aA P).get (fk r.c),(aA P).get r.N))=(gm P).map fun r=>(some (Un r),some (Zy r)):=by kernel_rfl
def Nq(e:DictEntry):Bool:=(zX e.key).isSome
def CL:List (Õ×Nat):=ŷ.zip (bQ ŷ.length)
def Le(r:DT):=(Ho (fk r.c)&&(Ho r.N&&r.es.all Nq),(Ō "__getattribute__" r.es,Ō "__getattr__" r.es,Ō "__setattr__" r.es),CL.map (fun p=>Ō p.1 r.es),Ō "__init__" r.es)
def GK(r:DT):=(true,((none:Option Value),(none:Option Value),(none:Option Value)),CL.map (fun p=>(eD (r.c*64+p.2) r7).map fun j=>Value.ref (fY j)),(l5 r.c).map fun j=>Value.ref (fY j))
theorem OP(P:Params):(gm P).map Le=(gm P).map GK:=by kernel_rfl
theorem HU(P:Params):((r7.all fun p=>w8 (aA P) (fY p.2))&&(w_.all fun j=>j.all fun j=>w8 (aA P) (fY j)))=true:=by kernel_rfl
theorem MR(P:Params):(gm P).map (·.c)=bQ 7:=by kernel_rfl
theorem wJ{k j:Nat}:∀{l:List (Nat×Nat)},eD k l=some j→∃p∈l,p.2=j
 |[],h=>nS h
 |p::r,h=>by
  unfold eD at h
  induction q:ö p.1 k using ñ with
  |true=>rw[q]at h;exact⟨p,.head _,ë h⟩
  |false=>rw[q]at h;obtain⟨p',m,e⟩:=wJ h;exact⟨p',.tail _ m,e⟩
theorem sO{c j:Nat}(h:l5 c=some j):ç w_ c=some (some j):=by
 unfold l5 at h
 induction q:ç w_ c using š with
 |none=>rw[q]at h;exact nS h
 |some x=>rw[q]at h;exact congrArg some h
theorem vg{h:Heap}{a n:Nat}{l:List DictEntry}{o:Obj}(ho:h.get? a=some o)(hd:o.data=.dict ⟨l⟩ n)(hk:l.all Nq=true):h.Ns a fun x=>Ō x l:=by
 refine⟨o,⟨l⟩,n,ho,hd,fun en HH=>?_,fun x=>eC x l⟩;obtain⟨s,q⟩:=Hw.mp (kg.mp hk en (Array.mem_def.mp HH));obtain⟨t,e⟩:=wd q;exact⟨s,t,e⟩
def Um:Obj:=oC [.str "matches" 1922,.str "matches" 1923,.str "/claim/cut.py" 1924,.int 1009 0,.int 3 0,.int 0 0,.int 0 0,.int 3 0,.ref 1193,.bool true,.int 181 0,.ref 1194,.none,.ref 1195,.ref 1196,.ref 1197,.int 1930 0,.int 1009 0,.str "/claim/cut.py" 1931]
theorem GI(P:Params):(aA P).get 1198=some Um:=by kernel_rfl
noncomputable def p9(x:Õ):Bool:=match builtinLookup "object" x with
 |some none=>true
 |_=>false
theorem uR{x:Õ}(h:p9 x=true):builtinLookup "object" x=some none:=by
 unfold p9 at h
 induction q:builtinLookup "object" x using š with
 |none=>rw[q]at h;exact à h
 |some y=>induction y using š with
  |none=>rfl
  |some z=>rw[q]at h;exact à h
theorem GW:ŷ.all p9=true:=by kernel_rfl
theorem OW:ŷ.Nodup:=by decide+kernel
noncomputable def HX:Data→Option (Array DictEntry×Nat)
 |.dict es n=>some (es,n)
 |_=>none
theorem Co{x:Data}{p:Array DictEntry×Nat}(h:HX x=some p):x=.dict p.1 p.2:=mL (f:=fun p:Array DictEntry×Nat=>Data.dict p.1 p.2) h (by induction x using PySem.Data.casesOn<;>first|exact trivial|exact rfl)
noncomputable def Wu:List DictEntry→Option (DictEntry×List DictEntry)
 |[]=>none
 |e::r=>some (e,r)
theorem KI{l:List DictEntry}{p:DictEntry×List DictEntry}(h:Wu l=some p):l=p.1::p.2:=by
 induction l using Ŭ with
 |nil=>exact nS h
 |cons e r=>rw[←ë h]
def I7(t:BT):Option Bool:=(t.get 1).bind fun o=>(HX o.data).bind fun p=>(Wu p.1.toList).bind fun q=>(pZ q.1.val).bind fun m=>(t.get m).bind fun om=>(Eo om.cls).bind fun T=>some (Ho m&&(T=="module"&&((KV om.data).isNone&&(!o.isFreed&& !om.isFreed))))
theorem I8(P:Params):I7 (aA P)=some true:=by kernel_rfl
theorem zS(P:Params):(aA P).get cP=some (oR []):=by kernel_rfl
theorem Nd:gl ("leaf_holds":Õ) Og=some (.fn 73):=by kernel_rfl
theorem OT(P:Params):Ō "__builtins__" ((bV P).take 204)=some (.ref 4):=by kernel_rfl
noncomputable def Yb(n:Õ)(c N:Addr)(bs tl:List Value)(sub:List Value)(k0 k2 k3:Value):Obj:=excClassObj n n c N bs tl true [] sub false none none (some k0) none (some k2) (some k3) (some (.bool true)) "Exception.__new__"
noncomputable def Yc(es:List DictEntry)(n:Nat):Obj:=⟨.type "dict",none,.dict ⟨es⟩ n,#[]⟩
def B_(P:Params):List DictEntry:=[en P "__module__" 243 (.str "postkeep.errors" 194),en P "__firstlineno__" 247 (.int 14 246),en P "__static_attributes__" 248 (.ref 57),en P "__doc__" 249 .none]
def Ca(P:Params):List DictEntry:=[en P "__module__" 203 (.str "postkeep.errors" 194),en P "__firstlineno__" 207 (.int 5 206),en P "__init__" 218 (.ref 36),en P "told" 225 (.ref 43),en P "__static_attributes__" 228 (.ref 44),en P "__weakref__" 230 (.ref 47),en P "__doc__" 231 .none]
theorem TY(P:Params):(aA P).get 59=some (Yb "WordFault" 59 58 [.ref 46] [.ref 46,.type "Exception",.type "BaseException",.type "object"] [] (.ref 50) (.str "WordFault" 236) (.str "WordFault" 244)):=by kernel_rfl
theorem T1(P:Params):(aA P).get 46=some (Yb "PostError" 46 45 [.type "Exception"] [.type "Exception",.type "BaseException",.type "object"] [.ref 59,.ref 71,.ref 83] (.ref 22) (.str "PostError" 196) (.str "PostError" 204)):=by kernel_rfl
theorem TZ(P:Params):(aA P).get 58=some (Yc (B_ P) 2):=by kernel_rfl
theorem T7(P:Params):(aA P).get 45=some (Yc (Ca P) 3):=by kernel_rfl
theorem TX(P:Params):(Ō "__init__" (B_ P),Ō "__setattr__" (B_ P),Ō "what" (B_ P),Ō "at" (B_ P),Ō "__init__" (Ca P),Ō "__setattr__" (Ca P),Ō "what" (Ca P),Ō "at" (Ca P))=((none:Option Value),(none:Option Value),(none:Option Value),(none:Option Value),some (.ref 36),(none:Option Value),(none:Option Value),(none:Option Value)):=by kernel_rfl
theorem KZ(P:Params):Ō "Exception" ((bV P).take 204)=none:=by kernel_rfl
theorem OA:bootBuiltins "Exception"=some (.type "Exception"):=by kernel_rfl
section
variable{w:World}{s:Shared}{P:ċ}
theorem uS{α:Type}:∀(l:List α) (i:Nat),ç l i=l[i]?
 |[],_=>rfl
 |x::r,i=>match i with
  |0=>rfl
  |i+1=>(uS r i).trans (List.getElem?_cons_succ).symm
theorem GV{a:Nat}{x:Õ}(h:ç ŷ a=some x):(x,a)∈CL:=by
 rw[uS]at h;obtain⟨h1,h2⟩:=List.getElem?_eq_some_iff.mp h;have:CL[a]? =some (x,a):=by
  unfold CL;rw[List.getElem?_zip_eq_some];exact⟨h,List.getElem?_range h1⟩
 exact List.mem_of_getElem? this
theorem all_some{α:Type}{f:α→Bool}{x:α}(h:(some x).all f=true):f x=true:=h
theorem GL(Y:YP w s.heap)(hi:∀c,P.init c=l5 c)(hm:∀c a,P.gy c a=eD (c*64+a) r7){c j:Nat}(h:P.init c=some j):af (Z0 w s) (K0 w s) P c:=by
 rw[hi]at h;have hc:=sO h;have hl:c<7:=qa hc;have hr:ç ((gm w.params).map (·.c)) c=some c:=by rw[MR,uS];exact List.getElem?_range hl
 obtain⟨r,hr,rfl⟩:=ic hr;have Wd:=aH hr;have got:=bq (Lf w.params) Wd;have ck:=bq (OP w.params) Wd
 (have k1:=aD (p1 ck);have k:=aC (p1 ck))
 (have k2:=aD k;have k3:=aC k)
 obtain⟨a1,a2⟩:=fF k1;obtain⟨b1,b2⟩:=fF k2;have C:=p1 (p2 ck);have D:=p1 (p2 (p2 ck))
 (have f1:=aD (HU w.params);have f2:=aC (HU w.params))
 have mt:∀a x,ç ŷ a=some x→Ō x r.es=(eD (r.c*64+a) r7).map fun j=>Value.ref (fY j):=fun a x q=>bq D (GV q)
 refine⟨a2,r.n,r.n,r.N,_,_,_,_,_,_,_,_,_,_,_,b2,ľ Y (p1 got) a1 rfl,vg (ľ Y (p2 got) b1 rfl) rfl k3,p1 C,p1 (p2 C),p2 (p2 C),fun a x q hn=>?_,fun a x j q hn=>?_,fun j' q=>?_⟩
 ·rw[mt a x q,←hm,hn];rfl
 ·rw[hm]at hn;obtain⟨p,m,e⟩:=wJ hn;exact⟨by rw[mt a x q,hn];rfl,e▸lY Y (kg.mp f1 p m)⟩
 ·rw[hi]at q;exact⟨(p2 (p2 (p2 ck))).trans (by rw[q];rfl),lY Y (a:=fY j') (all_some (kg.mp f2 _ (aH (sO q))))⟩
theorem GX:cn (Z0 w s) where
 nd:=OW
 obj a x h:=by
  rw[typeLookup_type,uR (kg.mp GW _ (aH h))]
 small:=by show ŷ.length≤sizeLine;decide+kernel
theorem Sw:(bQ 10).map (ç ŷ)=(bQ 10).map (ç Ss):=by kernel_rfl
theorem Su:vS (Z0 w s) where
 all a x h hx:=(bq Sw (List.mem_range.mpr h)).symm.trans hx
theorem Mo(Y:YP w s.heap):my (Z0 w s):=by
 refine ï (I8 w.params) fun o h1 h=>?_;refine ï h fun p h2 h=>?_;refine ï h fun q h3 h=>?_;refine ï h fun m h4 h=>?_;refine ï h fun om h5 h=>?_;refine ï h fun T h6 h=>?_
 (have b1:=aD (ë h);have b:=aC (ë h))
 (have b2:=aD b;have b:=aC b)
 (have b3:=aD b;have b:=aC b)
 (have b4:=aD b;have b5:=aC b)
 obtain⟨c1,c2⟩:=fF b1;refine⟨o,q.1,q.2,p.2,m,om,ľ Y h1 (by decide) (nn b4),?_,wu h4,ľ Y h5 c1 (nn b5),c2,by show(1:Nat)≠1194;decide,(pN h6).trans (congrArg _ (eq_of_beq b2)),fun fd e=>?_⟩
 ·rw[Co h2,←KI h3]
 ·rw[e]at b3;exact à b3
theorem SS(Y:YP w s.heap){mg:Õ→Option Value}(G:s.heap.Ns mainGlobals mg)(hb:T2 fun bm ob=>A6 (mg "__builtins__"=some (.ref bm)) (bm≠builtinsNs) (s.heap.get? bm=some ob) (ob.cls=.type "module") (ob.dict=some builtinsNs) (ob.data=.plain))(hl:P.lam=73):ki (Z0 w s) P where
 LM:=rfl
 OC:=rfl
 L:=rfl
 C:=rfl
 code:=⟨_,_,_,_,_,_,_,_,_,ľ Y (GI w.params) (by show(1198:Nat)<1311;decide) rfl,rfl,rfl,rfl,rfl,rfl,rfl,rfl,rfl,by show(1198:Nat)≠1194;decide⟩
 Mk:=ľ Y (zS w.params) (by show(1194:Nat)<1311;decide) rfl
 bmod:=by
  obtain⟨bm,ob,h1,h2,h3,h4,h5,h6⟩:=hb;have e:=gc Y G "__builtins__";rw[OT,h1]at e;cases e;exact⟨mg,G,4,ob,h1,h2,by show(4:Nat)≠3;decide,by show(4:Nat)≠1194;decide,h3,h4,h5,h6⟩
 ne:=by show(1194:Nat)≠2;decide
 tm:=by show(3:Nat)≠1194;decide
 lh:=by rw[hl];exact Nd
theorem TV(Y:YP w s.heap){mg mb:Õ→Option Value}(G:s.heap.Ns mainGlobals mg)(B:s.heap.Ns builtinsNs mb)(hb:∀x:Õ,x≠"__name__"→mb x=bootBuiltins x):ub (Z0 w s) 36:=by
 intro h k;have kp:∀{a o},a<1194→s.heap.get? a=some o→h.get? a=some o:=fun l q=>k _ _ (eW l) q
 have go:∀{a o},a<1194→(aA w.params).get a=some o→o.isFreed=false→h.get? a=some o:=fun l q f=>kp l (ľ Y q (oJ l (by decide)) f)
 have no:=TX w.params;have gg:h.Ns mainGlobals mg:=let ⟨o,es,ep,e,r⟩:=G;⟨o,es,ep,kp (by decide) e,r⟩;have gb:h.Ns builtinsNs mb:=let ⟨o,es,ep,e,r⟩:=B;⟨o,es,ep,kp (by decide) e,r⟩;exact⟨_,_,58,_,_,_,_,_,_,_,_,_,_,_,_,_,mg,mb,go (by decide) (TY _) rfl,vg (go (by decide) (TZ _) rfl) rfl (by kernel_rfl),p1 no,p1 (p2 no),p1 (p2 (p2 no)),p1 (p2 (p2 (p2 no))),⟨_,_,_,_,go (by decide) (T1 _) rfl,vg (go (by decide) (T7 _) rfl) rfl (by kernel_rfl)⟩,p1 (p2 (p2 (p2 (p2 no)))),p1 (p2 (p2 (p2 (p2 (p2 no))))),p1 (p2 (p2 (p2 (p2 (p2 (p2 no)))))),p2 (p2 (p2 (p2 (p2 (p2 (p2 no)))))),
  gg,(gc Y G _).trans (KZ _),gb,(hb _ (by decide)).trans OA⟩
theorem facts(Y:YP w s.heap){mg mb:Õ→Option Value}(G:s.heap.Ns mainGlobals mg)(B:s.heap.Ns builtinsNs mb)(hb:∀x:Õ,x≠"__name__"→mb x=bootBuiltins x)
  (hbm:T2 fun bm ob=>A6 (mg "__builtins__"=some (.ref bm)) (bm≠builtinsNs) (s.heap.get? bm=some ob) (ob.cls=.type "module") (ob.dict=some builtinsNs) (ob.data=.plain))(aP:s.heap.NoLimit):Facts w (Z0 w s) (K0 w s) Ê where
 hg:=TF Y G B hb
 hc c j h:=GL Y (fun À=>rfl) (fun À À=>rfl) h
 cS:=GX
 e_:=Su
 hh:=rfl
 sS:=Mo Y
 LZ:=SS Y G hbm rfl
 aP:=aP
 cM:=by show(2:Nat)≠1194;decide
 hF j f h:=KW Y h
 I:=S1 Y
 X:=TV Y G B hb
end
end
section
variable{P:ċ}{d:Nat}{H H₁ Ö ų t7 aaa:List Cell}{ρ ß Ŗ VM VL κ ê ĺ VO VN:List (Option V)}{S Å Í:St}{e a b t o i elt it:PE}{es as bs:List PE}{v iM v' x y x' y':V}{vs vs' ws:List V}{r:Res}{c j k m n:Nat}{l:List (Nat×V)}
abbrev DR(P:ċ)(d:Nat)(t:Tg)(v:V)(s s':St):Prop:=Ev P (.asg d t v s) (s',.next)
abbrev VB(P:ċ)(d:Nat)(e:Option PE)(s s':St)(v:Option V):Prop:=Ev P (.opt d e s) (s',.ov v)
theorem VT{α β:Type}{o:Option α}{f:α→β}{x:α}{y:β}(h:o=some x)(h':f x=y):o.map f=some y:=by rw[h,←h'];rfl
theorem z4{w:Option V}(h:put ρ n (some v)=ß)(h2:ç ρ n=some w):Š ⟨H,ρ,κ⟩ false n v=some ⟨H,ß,κ⟩:=VT h2 (h▸rfl)
theorem qR{w:Option V}(h:put ρ n (some v)=ß)(h2:ç ρ n=some w):DR P d (.n false n) v ⟨H,ρ,κ⟩ ⟨H,ß,κ⟩:=gX (z4 h h2)
theorem JJ(hn:ak 10 n=true)(h1:Ev P (.ev d o S) (⟨H,ρ,κ⟩,.val v))(h2:fields H v=some (c,l))(h3:P.init c=some m)(h4:d8 n l=none)(h5:P.gy c n=some j)(h6:Ev P (.bZ d as ⟨H,ρ,κ⟩) (⟨H₁,ß,ê⟩,.vals vs))
  (h7:Ev P (.call d j (v::vs) H₁) (⟨Ö,Ŗ,ĺ⟩,.val x)):Ev P (.ev d (.me o n as) S) (⟨Ö,ß,ê⟩,.val x):=rF h1 h2 h3 h4 h5 h6 h7
theorem RI{l:List V}(h1:Ev P (.ev d o S) (⟨H,ρ,κ⟩,.val (.Ó m)))(h2:fields H (.Ó m)=none)(h3:kd 7 (view H (.Ó m))=9)(h4:Ev P (.bZ d as ⟨H,ρ,κ⟩) (⟨H₁,ß,ê⟩,.vals [x]))(h5:Ô H₁ x=some (Ö,x'))(h6:ç Ö m=some (.lst l))(h7:small l=true)(h8:put Ö m (.lst (l++[x']))=ų):
  Ev P (.ev d (.me o 7 as) S) (⟨ų,ß,ê⟩,.val .none):=rI h1 h3 h4 h5 h6 h7 h8
theorem Hk{l r:List V}(h1:Ev P (.ev d o S) (⟨H,ρ,κ⟩,.val (.Ó m)))(h2:fields H (.Ó m)=none)(h3:kd 8 (view H (.Ó m))=10)(h4:Ev P (.bZ d as ⟨H,ρ,κ⟩) (⟨H₁,ß,ê⟩,.vals []))(h6:ç H₁ m=some (.lst l))(h7:small l=true)(h8:l.reverse=x::r)(h9:put H₁ m (.lst r.reverse)=Ö):
  Ev P (.ev d (.me o 8 as) S) (⟨Ö,ß,ê⟩,.val x):=rC h1 h3 h4 h6 h7 h8 h9
theorem MS{l q:List V}(h1:Ev P (.ev d o S) (⟨H,ρ,κ⟩,.val (.Ó m)))(h2:fields H (.Ó m)=none)(h3:kd 9 (view H (.Ó m))=11)(h4:Ev P (.bZ d as ⟨H,ρ,κ⟩) (⟨H₁,ß,ê⟩,.vals [x]))(h5:Ô H₁ x=some (Ö,.lst q))(h6:ç Ö m=some (.lst l))(h7:(small l&&small q)=true)(h8:put Ö m (.lst (l++q))=ų):
  Ev P (.ev d (.me o 9 as) S) (⟨ų,ß,ê⟩,.val .none):=rG h1 h3 h4 h5 h6 h7 h8
theorem RH(hn:ak n 6=true)(h1:Ev P (.ev d o S) (⟨H,ρ,κ⟩,.val v))(h2:fields H v=none)(h3:kd n (view H v)=k)(hk:PO k=true)(h4:Ev P (.bZ d as ⟨H,ρ,κ⟩) (⟨H₁,ß,ê⟩,.vals vs))(h5:Ô H₁ v=some (Ö,v'))(h6:Ē Ö vs=some (ų,vs'))(h7:n9 k v' vs'=some x)(h8:made ų x=(t7,x')):
  Ev P (.ev d (.me o n as) S) (⟨t7,ß,ê⟩,.val x'):=rD h1 h3 hk h4 h5 h6 h7 h8
theorem JI{q:Bool}(h1:Ev P (.gv d t S) (Å,.val (.bool q)))(h2:q=true→Ev P (.ev d a Å) (Í,.val v))(h3:q=false→Ev P (.ev d b Å) (Í,.val v)):Ev P (.ev d (.te t a b) S) (Í,.val v):=nU h1 h2 h3
theorem c_2{q p:Bool}{ops:List Nat}(h1:Ev P (.ev d e S) (⟨H,ρ,κ⟩,.val y))(h2:view H x=some x')(h3:view H y=some y')(h4:cmp n x' y'=some q)(h5:q=true→Ev P (.yY d y (m::ops) (a::es) ⟨H,ρ,κ⟩) (Í,.val (.bool p)))(h6:q=false→(Í,p)=(⟨H,ρ,κ⟩,false)):
  Ev P (.yY d x (n::m::ops) (e::a::es) S) (Í,.val (.bool p)):=y0 h1 h2 h3 h4 h5 h6
theorem b_2{p q:Bool}(h1:Ev P (.ev d e S) (⟨H,ρ,κ⟩,.val v))(h2:view H v=some v')(h3:truth v'=some p)(h4:p=q→Ev P (.CG d q (a::es) ⟨H,ρ,κ⟩) (Í,.val x))(h5:p=(!q)→(Í,x)=(⟨H,ρ,κ⟩,v)):Ev P (.CG d q (e::a::es) S) (Í,.val x):=zc h1 h2 h3 h4 h5
theorem Qi{X:PS}{Y:List PS}{ou:Out}(h1:Ev P (.ex d X S) (Å,ou))(h2:ou=.next→Ev P (.dj d Y Å) r)(h3:ou≠.next→r=(Å,ou)):Ev P (.dj d (X::Y) S) r:=by
 induction ou using Out.casesOn with
 |next=>exact Ò h1 (h2 rfl)
 |_=>rw[h3 nofun];exact gL h1 rfl
theorem dp{X:PS}{Y:List PS}(h1:Ev P (.ex d X S) (Å,.ret v)):Ev P (.dj d (X::Y) S) (Å,.ret v):=gL h1 rfl
theorem Up(i:Int)(h:(gh 0 i&&ĩ i 55296)=true):blt 1 [.int i]=some (.str [i.toNat]):=if_pos h
theorem Lg{c:Nat}(h:c<55296):(gh 0 (c:Int)&&ĩ c 55296)=true:=by
 rw[au];exact⟨decide_eq_true (lP c),decide_eq_true (by exact ì [_] (.c (.a Â Á) (.n 55296) .z) (.a Â Á) (.n 55296) rfl (bx.mpr h))⟩
theorem é{α}{l:List α}(h:l.length<1000000):small l=true:=by
 unfold small;rw[bR];exact h
theorem MT{q:Int}(h1:Ev P (.bZ d as S) (⟨H,ρ,κ⟩,.vals [.int q]))(h3:(gh 0 q&&ĩ q 55296)=true):Ev P (.ev d (.bl 1 as) S) (⟨H,ρ,κ⟩,.val (.str [q.toNat])):=
 j0 h1 rfl (Up q h3) rfl
theorem ē{α}(l:List α)(x:α):ç (l++[x]) l.length=some x:=by
 induction l generalizing x with
 |nil=>
  exact rfl
 |cons _ r IH=>
  exact IH x
theorem kn{α}(l:List α)(x:α)(y:α):put (l++[x]) l.length y=l++[y]:=by
 induction l generalizing x y with
 |nil=>
  exact rfl
 |cons a r IH=>
  exact congrArg (a:: ·) (IH x y)
theorem iz{l:List V}:Ô (H++[.lst l]) (.Ó H.length)=some (H++[.Ô (.lst l)],.lst l):=by
 show(ç (H++[.lst l]) H.length).map _=_;rw[ē];exact congrArg some (Prod.ext (kn _ _ _) rfl)
theorem B2{l:List V}:Ē (H++[.lst l]) [.Ó H.length]=some (H++[.Ô (.lst l)],[.lst l]):=by
 show(Ô (H++[.lst l]) (.Ó H.length)).bind _=_;rw[iz];rfl
theorem dE{l:List V}:view (H++[.lst l]) (.Ó H.length)=some (.lst l):=by
 show(ç (H++[.lst l]) H.length).map _=_;rw[ē];rfl
theorem rj(X:List Cell):(H++X).take H.length=H:=List.take_left
theorem take_all:H.take H.length=H:=List.take_length
theorem A8{l:List V}{q:List (List Nat)}(h:uy l=some q)(h1:small l=true)(h2:small q.flatten=true):n9 3 (.str []) [.lst l]=some (.str q.flatten):=by
 show(uy l).bind _=_;rw[h];show(if small l&&small q.flatten&&_ then _ else _)=_;rw[h1,h2];rfl
theorem pz{α}{x y:α}{r:List α}:put (x::r) 0 y=y::r:=rfl
theorem ps{α}{x y:α}{r q:List α}{n:Nat}(h:put r n y=q):put (x::r) (n+1) y=x::q:=congrArg (x:: ·) h
theorem TO{α:Sort _}{x y:α}(h:x=y):x=y:=h
theorem xQ{B:List PS}{q:Bool}(h1:Ev P (.gv d t S) (Å,.val (.bool q)))(hq:q=true)(h2:Ev P (.dj d B Å) (Í,.next))(h3:Ev P (.pE d t B Í) r):Ev P (.pE d t B S) r:=by subst hq;exact L9 h1 h2 h3
theorem IA{B:List PS}{q:Bool}(h1:Ev P (.gv d t S) (Å,.val (.bool q)))(hq:q=false):Ev P (.pE d t B S) (Å,.next):=by subst hq;exact L_ h1
theorem rZ{tg:List Nat}{ifs:List PE}{l acc:List V}{q:Bool}(h0:(Ð v&&small acc)=true)(h1:DR P d (pP tg) v S Å)(h2:Ev P (.hM d true ifs Å) (Í,.val (.bool q)))(hq:q=true)(h3:Ev P (.ev d elt Í) (⟨H,ρ,κ⟩,.val x))(h4:Ô H x=some (H₁,x'))(h5:Ev P (.fj d elt tg ifs l (x'::acc) ⟨H₁,ρ,κ⟩) r):
  Ev P (.fj d elt tg ifs (v::l) acc S) r:=by subst hq;exact ke h0 h1 h2 h3 h4 h5
theorem J2{tg:List Nat}{ifs:List PE}{l acc:List V}{q:Bool}(h0:(Ð v&&small acc)=true)(h1:DR P d (pP tg) v S Å)(h2:Ev P (.hM d true ifs Å) (Í,.val (.bool q)))(hq:q=false)(h5:Ev P (.fj d elt tg ifs l acc Í) r):Ev P (.fj d elt tg ifs (v::l) acc S) r:=by
 subst hq;exact Hr h0 h1 h2 h5
theorem len_bytes{l:List Nat}(h:l.length<1000000):blt 0 [.bytes l]=some (.int l.length):=if_pos (é h)
theorem len_str{l:List Nat}(h:l.length<1000000):blt 0 [.str l]=some (.int l.length):=if_pos (é h)
theorem bW{l:List V}(h:l.length<1000000):blt 0 [.lst l]=some (.int l.length):=if_pos (é h)
theorem vr{l:List V}:fields (H++[.lst l]) (.Ó H.length)=none:=by unfold fields;rw[dE];rfl
theorem FO{l:List V}:kd 7 (view (H++[.lst l]) (.Ó H.length))=9:=by rw[dE];rfl
theorem Ľ{a b:Cell}:put (H++[a]) H.length b=H++[b]:=kn _ _ _
theorem OX{w w':Option V}{i j:Nat}(h:view H v=some (.tup [x,y]))(h1:ç ρ i=some w)(h2:put ρ i (some x)=ß)(h3:ç ß j=some w')(h4:put ß j (some y)=Ŗ):DR P d (.t [(false,i),(false,j)]) v ⟨H,ρ,κ⟩ ⟨H,Ŗ,κ⟩:=CM h (by
 show(Š _ _ _ _).bind _=_;rw[z4 h2 h1];show(Š _ _ _ _).bind _=_;rw[z4 h4 h3];rfl)
theorem L7{w w':Option V}{i j:Nat}(h:Ev P (.bZ d es S) (⟨H,ρ,κ⟩,.vals [x,y]))(h1:ç ρ i=some w)(h2:put ρ i (some x)=ß)(h3:ç ß j=some w')(h4:put ß j (some y)=Ŗ):Ev P (.ex d (.sw [(false,i),(false,j)] es) S) (⟨H,Ŗ,κ⟩,.next):=zF h (by
 show(Š _ _ _ _).bind _=_;rw[z4 h2 h1];show(Š _ _ _ _).bind _=_;rw[z4 h4 h3];rfl)
theorem qz(h:Ev P (.call d j vs H) r):Ev P (.call d j vs H) r:=h
theorem Hj{P:ċ}{S Å Í Ĩ:St}{H₁:List Cell}{ρ κ:List (Option V)}{o:PE}{lo hi st:Option PE}{oh o8 ĉ:Option V}{v v' x x':V}(h1:Ev P (.ev d o S) (Å,.val v))(h2:VB P d lo Å Í oh)(h3:VB P d hi Í Ĩ o8)(h4:VB P d st Ĩ ⟨H,ρ,κ⟩ ĉ)(h5:view H v=some v')(h6:slice v' oh o8 ĉ=some x)(h7:made H x=(H₁,x')):
  Ev P (.ev d (.sl o lo hi st) S) (⟨H₁,ρ,κ⟩,.val x'):=Al h1 h2 h3 h4 h5 h6 h7
theorem v9(X Y:List Cell):(H++X++Y).take H.length=H:=by rw[Ĝ];exact rj _
def pA(S:St):PE→Option V
 |.l n=>(ç S.ρ n).bind id
 |.k n=>(ç S.κ n).bind id
 |.c v=>some v
 |_=>none
def pB(S:St):PE→Option V
 |.ix o i=>(pA S o).bind fun v=>(pA S i).bind fun x=>(view S.H v).bind fun v'=>item v' x
 |.l n=>pA S (.l n)
 |.k n=>pA S (.k n)
 |.c v=>pA S (.c v)
 |_=>none
def pT(S:St):PE→Option Bool
 |.cm a ops bs=>(q1 ops).bind fun n=>(q1 bs).bind fun b=>(pB S a).bind fun x=>(pB S b).bind fun y=>(view S.H x).bind fun x'=>(view S.H y).bind fun y'=>cmp n x' y'
 |_=>none
theorem rS{S:St}{e:PE}{v:V}(h:pA S e=some v):Ev P (.ev d e S) (S,.val v):=by
 induction e using PE.casesOn with
 |l n=>refine ï h fun x h1 h2=>?_;exact aR (h1.trans (congrArg some h2))
 |k n=>refine ï h fun x h1 h2=>?_;exact Ar (h1.trans (congrArg some h2))
 |c u=>obtain rfl:=ë h;exact nV
 |_=>exact nS h
theorem Hn{S:St}{e:PE}{v:V}(h:pB S e=some v):Ev P (.ev d e S) (S,.val v):=by
 induction e using PE.casesOn with
 |ix o i=>
  refine ï h fun x h1 h=>?_;refine ï h fun y h2 h=>?_;refine ï h fun z h3 h=>?_;exact yo (rS h1) (rS h2) h3 h
 |l n=>exact rS h
 |k n=>exact rS h
 |c u=>exact rS h
 |_=>exact nS h
theorem MY{S:St}{e:PE}{q:Bool}(h:pT S e=some q):Ev P (.gv d e S) (S,.val (.bool q)):=by
 induction e using PE.casesOn with
 |cm a ops bs=>
  refine ï h fun n h1 h=>?_;refine ï h fun b h2 h=>?_;refine ï h fun x h3 h=>?_;refine ï h fun y h4 h=>?_;refine ï h fun x' h5 h=>?_;refine ï h fun y' h6 h=>?_;rw[i1 h1,i1 h2];exact jY (Hn h3) (y7 (Hn h4) h5 h6 h)
 |_=>exact nS h
theorem L6{b Y:List PS}{r:Res}(h:pT S t=some false)(k:Ev P (.dj d Y S) r):Ev P (.dj d (.if t b []::Y) S) r:=Ò (hH (MY h) (fun q=>à q) fun À=>gr) k
end
set_option compiler.extract_closed false
set_option bootstrap.genMatcherCode false
theorem M5{C:Prop}{α:Sort _}{a:α}(h:a≠a):C:=absurd rfl h
theorem Sr{C:Prop}{b:Bool}(q:b=false)(h:b=true):C:=Ĕ (h.symm.trans q)
theorem Sq{C:Prop}{b:Bool}(q:b=true)(h:b=false):C:=Ĕ (q.symm.trans h)
open Lean in
def M1(l:List Syntax):Syntax:=mkNode `null l.toArray
open Lean in
def DY(k:String)(l:List Syntax):Syntax:=mkNode (.str `Lean.Parser.Tactic k) l.toArray
open Lean in
def M3(l:List Syntax):Syntax:=DY "tacticSeq" [DY "tacticSeq1Indented" [M1 l]]
open Lean in
def M4(l:List Syntax):Syntax:=mkNode `group #[mkAtom "|",M3 l]
open Lean in
def DX(k a:String)(t:Syntax):Syntax:=DY k [mkAtom a,t]
open Lean in
def PJ(t:Syntax):Syntax:=DX "withReducible" "with_reducible" (M3 [t])
open Lean in
def VX(t:Syntax):Syntax:=DX "focus" "focus" (M3 [t])
open Lean in
def VW:List Syntax→Syntax
 |a::b::c::d::e::r=>DY "repeat1'" [DX "first" "first" (M1 [a,b,c,d]),VW (e::r)]
 |l=>DX "first" "first" (M1 l)
open Lean in
def PK(a b c:Syntax):List Syntax→List Syntax→List Syntax
 |[],_=>[]
 |x::r,l=>match x with
  |.missing=>(if a.isMissing then(if b.isMissing then mkNode `Lean.Parser.Term.app #[l.headD c,M1 l.tail]else VW l)else M4 l)::r
  |x=>PK a b c r (x::l)
open Lean in
def VV(c:Char)(n:Name)(st:List Syntax):List Syntax:=
 let x:=st.headD .missing;let r:=st.tail
 if c= '[' then .missing::st
 else if c= '_' then mkNode `Lean.Parser.Term.hole #[mkAtom "_"]::st
 else if c= '&' then M4 [DX "apply" "apply" x]::r
 else if c= '*' then DX "apply" "apply" x::r
 else if c= '^' then M4 [DX "exact" "exact" x]::r
 else if c= '%' then M4 [PJ (DX "exact" "exact" x)]::r
 else if c= '{' then PJ x::r
 else if c= '!' then M4 [x]::r
 else if c= ';' then mkAtom ";"::st
 else if c= '+' then VX (DY "tacticRfl" [mkAtom "rfl"])::st
 else if c= '?' then DY "assumption" [mkAtom "assumption"]::st
 else if c= '-' then DY "skip" [mkAtom "skip"]::st
 else if c= '~' then DX "intro" "intro" (M1 [x])::r
 else if c= '#' then VX (PJ (DX "show" "show" x))::r
 else if c= '=' then mkNode `«term_=_» #[mkNode `Lean.Parser.Term.hole #[mkAtom "_"],mkAtom "=",mkNode `Lean.Parser.Term.hole #[mkAtom "_"]]::st
 else if c= '>' then mkNode `Lean.Parser.Term.byTactic #[mkAtom "by",M3 [PJ (DY "assumption" [mkAtom "assumption"])]]::st
 else if c= ')' then PK .missing .missing x st []
 else if c= '@' then PK .missing (mkAtom "") x st []
 else if c= '$' then PK (mkAtom "") x x st []
 else mkIdent n::st
open Lean in
def So(st:List Syntax):List Char→List Char→Syntax
 |w,[]=>(VV '@' .anonymous st).headD .missing
 |w,c::r=>if c= ' ' then So (VV (if w.length=1 then w.headD ' ' else ' ') (String.ofList w.reverse).toName st) [] r else So st (c::w) r
open Lean in
def VU(t:Syntax):Syntax:=DY "tacticRepeat_" [mkAtom "repeat",M3 [t]]
open Lean in
def VY(_:Unit):Syntax:=So [] [] "[ [ [ Ev _ [ Task.call _ _ _ _ ) _ ) # ; [ ? ! c0 & c1 & c2 & c3 & c4 & c5 & c6 & c7 & @ $ [ = # ; [ ? { ! B2 % iz % dE % [ rj _ ) % [ v9 _ _ ) % take_all % [ ē _ _ ) % vr % FO % Ľ % Fg % put3 % Gk % HS % vZ % xm % Nv % take3 % v_ ^ [ Lg > ) % pz ^ ps & rfl ^ @ $ [ [ Ev _ [ Task.ev _ _ _ ) _ ) # ; [ nV ^ [ aR rfl ) ^ yo & lg & Au & yq & rH & JI & uJ & i8 & As & Am & Ao & Hj & RI & Hk & MS & [ RH * ; + $ [ JJ * ; + $ MT & lk & j0 & lj & Ap & yp & Aq & uK & [ Ar rfl ) ^ @ $ [ [ Ev _ [ Task.bZ _ _ _ ) _ ) # ; [ Ř & Ų ^ @ $ [ [ Ev _ [ Task.dj _ [ List.cons [ PS.if _ _ _ ) _ ) _ ) _ ) # ; [ [ L6 * ; + $ @ $ [ [ Ev _ [ Task.dj _ _ _ ) _ ) # ; [ [ Ò * ; ū * $ [ dp * ; qX * $ [ Qi * ; hH * $ [ Ò * ; zH * $ gr ^ [ Ò * ; L7 * $ [ Ò * ; zG * $ [ Ò * ; zD * $ @ $ [ [ Ev _ [ Task.gv _ _ _ ) _ ) # ; [ jY & ya & x_ & zT & [ Ml * ; + $ @ $ y7 & c_2 & qR & OX & dA & tM & rh & gP ^ OV & b_2 & JV ^ LL & Ĕ ^ à ^ M5 ^ [ Sr > ) ^ [ Sq > ) ^ [ hq ~ { ; [ [ Out.noConfusion hq ) ^ + ! - ! @ $ ? ! ".toList
local macro_rules (kind:=Lean.Parser.Tactic.repeat1')|x=>return if x[0].isAtom then Internal.VU (Internal.DY "repeat1'" [x[1],Internal.VY ()])else x[1]
local macro_rules (kind:=Lean.Parser.Tactic.repeat1')|x=>if x[0].isAtom then Lean.Macro.throwUnsupported else return x[0]
local macro_rules | `(tactic|walk_at "w")=>return Internal.VU (Internal.VY ())
section
set_option maxRecDepth 100000
section
variable{d:Nat}{H:List Cell}
theorem HC{a b:Int}(h:gh a b=false):¬a≤b:=of_decide_eq_false h
theorem HB{a b:Int}(h:gh a b=true):a≤b:=of_decide_eq_true h
theorem mU{c:Nat}:Ev Ê (.call (d+1) 3 [.int c] H) (⟨H,[],[]⟩,.val (.int (dP c))):=by
 induction h1:gh 65 c using ñ with
 |false=>
  have:dP c=c:=by
   have:=HC h1;unfold dP;rw[if_neg];simp only[au,Nat.ble_eq];omega
  rw[this];apply É (S:=⟨H,[some (.int c)],[]⟩) rfl rfl;walk_at "w"
 |true=>
  induction h2:gh c 90 using ñ with
  |false=>
   have:dP c=c:=by
    have:=HC h2;unfold dP;rw[if_neg];simp only[au,Nat.ble_eq];omega
   rw[this];apply É (S:=⟨H,[some (.int c)],[]⟩) rfl rfl;walk_at "w"
  |true=>
   have:dP c=c+32:=by
    have a:=HB h1;have b:=HB h2;unfold dP;rw[if_pos];simp only[au,Nat.ble_eq];omega
   rw[this];apply É (S:=⟨H,[some (.int c)],[]⟩) rfl rfl;walk_at "w"
theorem yv(l:List Nat)(acc:List V)(ß:Option V)(h:(∀c∈l,dP c<55296))(hs:acc.length+l.length<1000000):∃fq,
  Ev Ê (.fj (d+1) (.bl 1 [.fn 3 [.bl 3 [.l 1]]]) [1] [] (l.map fun c=>.str [c]) acc ⟨H,[none,ß],[]⟩) (⟨H,fq,[]⟩,.vals (acc.reverse++l.map fun c=>.str [dP c])):=by
 induction l generalizing acc ß with
 |nil=>
  exact⟨_,by rw[fN,fN,Ŵ];exact i_⟩
 |cons c l IH=>
  have hc:=h c Ů;obtain⟨fq,ih⟩:=IH (.str [dP c]::acc) (some (.str [c])) (fun c hc=>h c (ũ _ hc)) (by simp only[ă]at hs ⊢;exact â [_,_] (.c (.a (.a Â (.a È Á)) Á) Ù .z) (.a (.a (.a Â Á) È) Á) Ù rfl hs);refine⟨fq,?_⟩;rw[ar,Ĝ]at ih;have lc:=mU (d:=d) (H:=H) (c:=c);apply ke
  ·exact é (by exact ń (Ż _ _) ‹_›)
  ·exact gX rfl
  ·exact gP
  ·walk_at "w"
  ·rfl
  ·exact ih
theorem rn(f:Nat→Nat):∀l:List Nat,uy (l.map fun c=>.str [f c])=some (l.map fun c=>[f c])
 |[]=>rfl
 |c::l=>by
  show(uy (l.map _)).map _=_;rw[rn f l];rfl
theorem mf(f:Nat→Nat):∀l:List Nat,(l.map fun c=>[f c]).flatten=l.map f
 |[]=>rfl
 |c::l=>by
  show f c::(l.map fun c=>[f c]).flatten=_;rw[mf f l];rfl
theorem sI(f:Nat→Nat){l:List Nat}(hl:l.length<1000000):n9 3 (.str []) [.lst (l.map fun c=>V.str [f c])]=some (.str (l.map f)):=by
 have h:=A8 (rn f l) (é (by simpa using hl)) (by rw[mf];exact é (by simpa using hl));rw[mf]at h;exact h
theorem mT{l:List Nat}(h:∀c∈l,dP c<55296)(hl:l.length<1000000):Ev Ê (.call (d+4) 4 [.str l] H) (⟨H,[],[]⟩,.val (.str (l.map dP))):=by
 obtain⟨fq,lc⟩:=yv (d:=d+1) (H:=H) l [] none h (by simpa using hl);have hj:=sI dP hl;apply É (S:=⟨H,[some (.str l)],[]⟩) rfl rfl;walk_at "w"
def sL(cs:List Nat):Bool:=Ø cs [117,116,102,45,56]||Ø cs [105,115,111,45,56,56,53,57,45,49]||Ø cs [117,115,45,97,115,99,105,105]
theorem ő:∀{a b:List Nat},Ø a b=decide (a=b)
 |[],[]=>rfl
 |[],_::_=>rfl
 |_::_,[]=>rfl
 |a::r,b::t=>by
  unfold Ø;rw[ő (a:=r)]
  induction h:ö a b using ñ with
  |true=>rw[ġ h];simp
  |false=>rw[wU];symm;rw[decide_eq_false_iff_not];intro e;(injection e with e;subst e);rw[qm]at h;exact Ĕ h
theorem lZ{cs:List Nat}(h:sL cs=true):cs=[117,116,102,45,56]∨cs=[105,115,111,45,56,56,53,57,45,49]∨cs=[117,115,45,97,115,99,105,105]:=by
 unfold sL at h;rw[ő,ő,ő,Bool.or_eq_true,Bool.or_eq_true,decide_eq_true_eq,decide_eq_true_eq,decide_eq_true_eq,or_assoc]at h;exact h
theorem mZ(l:List Nat)(i:Int):item (.bytes l) (.int i)=if ą i then(at_ l i).map (fun (c:Nat)=>V.int (c:Int))else none:=rfl
theorem item_at{l:List Nat}{k c:Nat}(h:ç l k=some c)(hk:k<1000000):item (.bytes l) (.int k)=some (.int c):=by
 have h1:ą (k:Int)=true:=by
  unfold ą ĩ;rw[au];exact⟨decide_eq_true (by exact ì [_] (.c (.a Â Á) Ù .z) (.a Â Á) Ù rfl (bx.mpr hk)),decide_eq_true (by exact jG _)⟩
 have h2:at_ l (k:Int)=some c:=by
  unfold at_;rw[if_neg (by show ¬ĩ (k:Int) 0=true;unfold ĩ;rw[decide_eq_true_eq];exact fun eH=>si [_] (.c (.a Â Á) đ (.c đ Â .z)) rfl eH (lP _))];exact h
 rw[mZ,if_pos h1,h2];rfl
theorem Fo{cs:List Nat}(h:sL cs=true):Ev Ê (.call (d+1) 7 [.str cs] H) (⟨H,[],[]⟩,.val .none):=by
 rcases lZ h with rfl|rfl|rfl<;>(apply eE (S:=⟨H,[some (.str _)],[]⟩) rfl rfl;walk_at "w")
theorem Ej{l:List Nat}{k c:Nat}(h:ç l k=some c)(hk:k<1000000)(hc:c<128):Ev Ê (.call (d+1) 8 [.bytes l,.int k] H) (⟨H,[],[]⟩,.val (.tup [.int c,.int 1])):=by
 have hi:=item_at h hk;have h1:ĩ c 128=true:=decide_eq_true (by exact bx.mpr (ip ‹_› (by decide)));apply É (S:=⟨H,[some (.bytes l),some (.int k),none,none,none,none,none,none],[]⟩) rfl rfl;walk_at "w"
theorem EJ{cs l:List Nat}{k c:Nat}(hs:sL cs=true)(h:ç l k=some c)(hk:k<1000000)(hc:c<128):Ev Ê (.call (d+2) 9 [.str cs,.bytes l,.int k] H) (⟨H,[],[]⟩,.val (.tup [.int c,.int 1])):=by
 have hi:=item_at h hk;have h1:ĩ 127 c=false:=decide_eq_false (by exact fun eH=>si [_] (.c (.a Â Á) (.n 128) (.c (.a (.n 127) Á) Â .z)) rfl (bx.mpr hc) eH);have u:=Ej (d:=d) (H:=H) h hk hc;rcases lZ hs with rfl|rfl|rfl<;>(apply É (S:=⟨H,[some (.str _),some (.bytes l),some (.int k)],[]⟩) rfl rfl;walk_at "w")
theorem Ff{α}(a:List α)(x:α)(b:List α):ç (a++x::b) a.length=some x:=by
 induction a generalizing x b with
 |nil=>
  exact rfl
 |cons _ r IH=>
  exact IH x b
theorem xZ{cs:List Nat}(hs:sL cs=true)(DV:List Nat)(pre:List Nat)(x:Option V)(y:Option V)(h:(∀c∈DV,c<128))(hl:(pre++DV).length<1000000):T2 fun x' y'=>
  Ev Ê (.pE (d+2) (.cm Þ [2] [.bl 0 [.l 1]]) [.as (.t [(false,4),(false,5)]) (.fn 9 [.l 0,.l 1,.l 3]),.ex (.me Ë 7 [.te (.cm Ă [5] [.c (.int 0)]) (.bl 1 [.l 4]) (.c (.str [65533]))]),.as (.n false 3) (.bi 0 Þ aS)]
   ⟨H++[.lst (pre.map fun c=>.str [c])],[some (.str cs),some (.bytes (pre++DV)),some (.Ó H.length),some (.int pre.length),x,y],[]⟩)
   (⟨H++[.lst ((pre++DV).map fun c=>.str [c])],[some (.str cs),some (.bytes (pre++DV)),some (.Ó H.length),some (.int (pre++DV).length),x',y'],[]⟩,.next):=by
 induction DV generalizing pre x y with
 |nil=>
  refine⟨x,y,?_⟩;rw[Ŵ]at hl ⊢;have hb:=len_bytes hl;have h1:ĩ (pre.length:Int) pre.length=false:=decide_eq_false (Int.lt_irrefl _);apply IA;walk_at "w"
 |cons c DV IH=>
  have hc:=h c Ů;have HG:=hl;rw[Ċ,ă]at HG;obtain⟨x',y',ih⟩:=IH (pre++[c]) (some (.int c)) (some (.int 1)) (fun c hc=>h c (ũ _ hc)) (by rw[Ĝ];exact hl);rw[Ĝ,dS]at ih;refine⟨x',y',?_⟩;have hb:=len_bytes hl;have h1:ĩ (pre.length:Int) (pre++c::DV).length=true:=decide_eq_true (by rw[Ċ,ă];omega);have h2:gh 0 (c:Int)=true:=decide_eq_true (lP c);have h3:c<55296:=by exact è ‹_› (by decide)
  have h4:small (pre.map fun c=>V.str [c])=true:=é (by rw[ĕ];exact ń (Ż _ _) ‹_›);have sg:=EJ (d:=d) (H:=H++[.lst (pre.map fun c=>.str [c])]) hs (Ff pre c DV) (by exact ń (Ż _ _) ‹_›) hc;have e:((pre++[c]).length:Int)=pre.length+1:=by rw[Ċ];rfl
  rw[e]at ih;apply xQ
  rotate_left 3
  ·exact ih
  rotate_right 3
  walk_at "w"
theorem EB{cs l:List Nat}(hs:sL cs=true)(h:∀c∈l,c<128)(hl:l.length<1000000):Ev Ê (.call (d+4) 10 [.str cs,.bytes l] H) (⟨H,[],[]⟩,.val (.str l)):=by
 obtain⟨x',y',lp⟩:=xZ (d:=d) (H:=H) hs l [] none none h hl;have nd:=Fo (d:=d+2) (H:=H) hs;have hj:n9 3 (.str []) [.lst (l.map fun c=>V.str [c])]=some (.str l):=by
  have:=sI id hl;rw[List.map_id]at this;exact this
 apply É (S:=⟨H,[some (.str cs),some (.bytes l),none,none,none,none],[]⟩) rfl rfl;walk_at "w"
end
noncomputable def lEq{α:Type}(f:α→α→Bool):List α→List α→Bool
 |[],l=>l.isEmpty
 |a::r,l=>match l with
  |[]=>false
  |b::t=>f a b&&lEq f r t
noncomputable def OJ:V→Option (List (List Nat×V))
 |.aY l=>some l
 |_=>none
noncomputable def uk:Nat→V→V→Bool
 |0=>fun À À=>false
 |n+1=>fun a b=>match a with
  |.none=>iq b
  |.bool x=>(qO b).any (x== ·)
  |.int x=>(qI b).any (gJ x)
  |.str x=>(qS b).any (Ø x)
  |.bytes x=>(qB b).any (Ø x)
  |.tup x=>(qT b).any (lEq (uk n) x)
  |.lst x=>(qL b).any (lEq (uk n) x)
  |.aY x=>(OJ b).any (lEq (fun p q=>Ø p.1 q.1&&uk n p.2 q.2) x)
  |.ins c x=>(sM b).any fun p=>ö c p.1&&lEq (fun p q=>ö p.1 q.1&&uk n p.2 q.2) x p.2
  |_=>false
theorem ql{α:Type}{f:α→α→Bool}(hf:∀a b,f a b=true→a=b){l:List α}:∀{m:List α},lEq f l m=true→l=m:=by
 induction l with
 |nil=>exact fun h=>(emp h).symm
 |cons a r ih=>
  intro m h
  induction m using Ŭ with
  |nil=>exact à h
  |cons b t=>rw[hf _ _ (oa h).1,ih (oa h).2]
theorem ZH{v:V}{b:List (List Nat×V)}(h:OJ v=some b):v=.aY b:=mL (f:=V.aY) h (by induction v using V.casesOn<;>first|exact trivial|exact rfl)
theorem NG{v:V}{b:Nat×List (Nat×V)}(h:sM v=some b):v=.ins b.1 b.2:=mL (f:=fun b=>V.ins b.1 b.2) h (by induction v using V.casesOn<;>first|exact trivial|exact rfl)
theorem NB{v:V}(h:iq v=true):v=.none:=by induction v using V.casesOn<;>first|rfl|exact à h
theorem v7{n:Nat}:∀{a b:V},uk n a b=true→a=b:=by
 induction n with
 |zero=>exact nofun
 |succ n ih=>
  intro a b h
  induction a using V.casesOn with
  |none=>exact(NB h).symm
  |bool x=>obtain⟨y,h1,h2⟩:=anyI h;rw[iO h1,eq_of_beq h2]
  |int x=>obtain⟨y,h1,h2⟩:=anyI h;rw[iI h1,show x=y from of_decide_eq_true h2]
  |str x=>obtain⟨y,h1,h2⟩:=anyI h;rw[iS h1,þ h2]
  |bytes x=>obtain⟨y,h1,h2⟩:=anyI h;rw[iB h1,þ h2]
  |tup x=>obtain⟨y,h1,h2⟩:=anyI h;rw[iT h1,ql (fun À À=>ih) h2]
  |lst x=>obtain⟨y,h1,h2⟩:=anyI h;rw[iL h1,ql (fun À À=>ih) h2]
  |aY x=>obtain⟨y,h1,h2⟩:=anyI h;rw[ZH h1,ql (fun À À h=>Prod.ext (þ (oa h).1) (ih (oa h).2)) h2]
  |ins c x=>obtain⟨y,h1,h2⟩:=anyI h;rw[NG h1,ġ (oa h2).1,ql (fun À À h=>Prod.ext (ġ (oa h).1) (ih (oa h).2)) (oa h2).2]
  |_=>exact à h
theorem zL{n:Nat}{a b:V}(h:uk n a b=true):Ð b=true:=by
 rw[←v7 h]
 induction a using V.casesOn<;>first|rfl|(induction n using mK<;>exact à h)
noncomputable def Ql{P:ċ}{t:Task}:An P t→Option V
 |none=>none
 |some p=>match p.1.2 with
  |.val v=>some v
  |_=>none
def NA{P:ċ}{t:Task}(r:An P t)(v:V):Bool:=(Ql r).any (uk 20 · v)
structure Told(P:ċ)(t:Task)(v:V):Prop where
 c:Ð v=true
 e:∃st,Ev P t (st,.val v)
theorem dw{P:ċ}{t:Task}{r:An P t}{v:V}(h:NA r v=true):Told P t v:=by
 obtain⟨x,h1,h2⟩:=anyI h
 induction r using š with
 |none=>exact nS h1
 |some p=>
  obtain⟨⟨st,o⟩,e⟩:=p
  induction o using Out.casesOn with
  |val y=>
   have h1:y=x:=ë h1;exact⟨zL h2,st,v7 h2▸h1▸e⟩
  |_=>exact nS h1
def two:List V→Option (List Nat×List Nat):=fun vs=>(q2 vs).bind fun p=>(qS p.1).bind fun cs=>(qB p.2).map fun l=>(cs,l)
noncomputable def Nk(l:List Nat):Bool:=l.all fun c=>ď c 128
def E_(j:Nat)(vs:List V):Option V:=match ö j 4 with
 |true=>(q1 vs).bind fun v=>(qS v).bind fun l=>if l.all (fun c=>ď (dP c) 55296)&&small l then some (.str (l.map dP))else none
 |false=>match ö j 10 with
  |true=>(two vs).bind fun p=>if sL p.1&&Nk p.2&&small p.2 then some (.str p.2)else none
  |false=>none
theorem wC{j:Nat}{vs:List V}{v:V}(h:E_ j vs=some v):Told Ê (.call 20 j vs []) v:=by
 unfold E_ at h
 induction e:ö j 4 using ñ with
 |true=>
  rw[e]at h;refine ï h fun u h1 h=>?_;refine ï h fun l h2 h=>?_
  (have hc:=cz h;have h:=cq h)
  have hv:=ë h;rw[ġ e,i1 h1,iS h2,←hv];exact⟨rfl,_,mT (d:=16) (fun c m=>bR.mp (kg.mp (oa hc).1 c m)) (Ĥ (oa hc).2)⟩
 |false=>
  rw[e]at h;have h:(match ö j 10 with|true=>(two vs).bind fun p=>if sL p.1&&Nk p.2&&small p.2 then some (.str p.2)else none|false=>none)=some v:=h
  induction e2:ö j 10 using ñ with
  |false=>rw[e2]at h;exact nS h
  |true=>
   rw[e2]at h;refine ï h fun q h1 h=>?_;refine ï h1 fun p h2 h1=>?_;refine ï h1 fun cs h3 h1=>?_;refine cK h1 fun l h4 h1=>?_
   (have hc:=cz h;have h:=cq h)
   have hv:=ë h;rw[←h1]at hc hv;rw[ġ e2,i2 h2,iS h3,iB h4,←hv];exact⟨rfl,_,EB (d:=16) (oa (oa hc).1).1 (fun c m=>bR.mp (kg.mp (oa (oa hc).1).2 c m)) (Ĥ (oa hc).2)⟩
def oA:L3 Ê:=⟨E_,20,fun h=>let ⟨a,st,b⟩:=wC h;⟨a,20,st,Ĭ _,b⟩⟩
def Æ{α}(l:List (List α))(n:Nat):List α:=match ç l n with
 |some x=>x
 |none=>[]
noncomputable def ä:List (List Nat):=[AA,AD,Az,AB,Ay,[]]
noncomputable def Ç:List (List Nat):=[[116,101,97],wA,lu,[120]]
noncomputable def ø:List (List Nat):=[[84,69,65],[110,111,111,110],lu,Av,[],Ax,[101],[122,122]]
noncomputable def Ŕ:List (List Nat):=[rO,rQ,rN,[107,119]]
def xw(n:Nat):List Nat:=match ď n 5 with
 |true=>eT++(Æ ä n++[13,10])
 |false=>[]
def xj(s:Nat):List Nat:=bL++(Æ Ç s++fE)
def iH(b:Nat):List Nat:=Æ Ç b++[13,10]
def txt(n s b:Nat):List Nat:=xw n++(xj s++iH b)
def fa(n:Nat):V:=.ins 3 [(33,.bytes lr),(34,.bytes (32::Æ ä n))]
def cQ(s:Nat):V:=.ins 3 [(33,.bytes lz),(34,.bytes (32::Æ Ç s))]
def Ě(n s:Nat):List V:=match ď n 5 with
 |true=>[fa n,cQ s]
 |false=>[cQ s]
noncomputable def Bk:V:=.ins 4 [(35,.str aT),(36,.str [112,108,97,105,110]),(37,.aY [(Aw,.str eU)])]
def Ġ(n s b:Nat):V:=.ins 5 [(38,.int 0),(39,.int (xw n++xj s).length),(19,.int (txt n s b).length),(40,.lst (Ě n s)),(41,Bk),(42,.str wz),(11,.lst []),(43,.none)]
abbrev qQ(j:Nat)(vs:List V)(v:V):Bool:=NA (EW oA 300 (.call 40 j vs [])) v
def wordOf(l:List Nat):Option V:=match Ø l lr with
 |true=>some (.str ŋ)
 |false=>match Ø l lz with
  |true=>some (.str ğ)
  |false=>none
noncomputable def GA(y m d:Int):V:=.tup [.int y,.int m,.int d]
noncomputable def Fs(a b c d e f g:Int):V:=.ins 2 [(20,.int a),(21,.int b),(22,.int c),(23,.int d),(24,.int e),(25,.int f),(26,.int g)]
def SO:List V:=[Fs 1969 12 31 23 0 0 (-300),Fs 1994 2 1 23 59 60 0,Fs 1994 2 2 0 0 0 0,Fs 2000 2 29 12 0 0 840]
theorem G2(r:V):qQ 103 [.ins 3 [(33,.bytes lr),(34,r)]] (.str ŋ)=true:=by kernel_rfl
theorem G1(r:V):qQ 103 [.ins 3 [(33,.bytes lz),(34,r)]] (.str ğ)=true:=by kernel_rfl
theorem G4:qQ 37 [.bytes lr] (.bool true)=true:=by kernel_rfl
theorem G3:qQ 37 [.bytes lz] (.bool true)=true:=by kernel_rfl
theorem U9:qQ 6 [.str eU] (.str eU)=true:=by kernel_rfl
def qe(n:Nat):V:=match ç SO n with
 |some v=>v
 |none=>.none
theorem G8:qQ 35 [.bytes (Æ ä 0)] (qe 0)=true:=by kernel_rfl
theorem G7:qQ 35 [.bytes (Æ ä 1)] (qe 1)=true:=by kernel_rfl
theorem G6:qQ 35 [.bytes (Æ ä 2)] (qe 2)=true:=by kernel_rfl
theorem G5:qQ 35 [.bytes (Æ ä 3)] (qe 3)=true:=by kernel_rfl
def vA(l:List Nat):Option V:=match Ø l (Æ ä 0)with
 |true=>some (qe 0)
 |false=>match Ø l (Æ ä 1)with
  |true=>some (qe 1)
  |false=>match Ø l (Æ ä 2)with
   |true=>some (qe 2)
   |false=>match Ø l (Æ ä 3)with
    |true=>some (qe 3)
    |false=>none
def rawOf(vs:List V):Option (List Nat×V):=(q1 vs).bind fun v=>(sM v).bind fun p=>if ö p.1 3 then(q2 p.2).bind fun q=>if ö q.1.1 33&&ö q.2.1 34 then(qB q.1.2).map fun l=>(l,q.2.2)else none else none
def JR(j:Nat)(vs:List V):Option V:=match ö j 103 with
 |true=>(rawOf vs).bind fun p=>wordOf p.1
 |false=>match ö j 6 with
  |true=>(q1 vs).bind fun v=>(qS v).bind fun l=>if Ø l eU then some (.str eU)else none
  |false=>match ö j 37 with
   |true=>(q1 vs).bind fun v=>(qB v).bind fun l=>(wordOf l).map fun À=>.bool true
   |false=>match ö j 35 with
    |true=>(q1 vs).bind fun v=>(qB v).bind vA
    |false=>E_ j vs
theorem nr{l:List Nat}{v:V}(h:wordOf l=some v):(l=lr∧v=.str ŋ)∨(l=lz∧v=.str ğ):=by
 unfold wordOf at h
 induction e:Ø l lr using ñ with
 |true=>rw[e]at h;exact .inl ⟨þ e,(ë h).symm⟩
 |false=>
  rw[e]at h
  induction e2:Ø l lz using ñ with
  |true=>rw[e2]at h;exact .inr ⟨þ e2,(ë h).symm⟩
  |false=>rw[e2]at h;exact nS h
theorem yX{l:List Nat}{v:V}(h:vA l=some v):∃n,A3 (n<4) (l=Æ ä n) (v=qe n):=by
 unfold vA at h
 induction e:Ø l (Æ ä 0)using ñ with
 |true=>rw[e]at h;exact⟨0,by decide,þ e,(ë h).symm⟩
 |false=>
  rw[e]at h
  induction e1:Ø l (Æ ä 1)using ñ with
  |true=>rw[e1]at h;exact⟨1,by decide,þ e1,(ë h).symm⟩
  |false=>
   rw[e1]at h
   induction e2:Ø l (Æ ä 2)using ñ with
   |true=>rw[e2]at h;exact⟨2,by decide,þ e2,(ë h).symm⟩
   |false=>
    rw[e2]at h
    induction e3:Ø l (Æ ä 3)using ñ with
    |true=>rw[e3]at h;exact⟨3,by decide,þ e3,(ë h).symm⟩
    |false=>rw[e3]at h;exact nS h
theorem Ak{vs:List V}{p:List Nat×V}(h:rawOf vs=some p):vs=[.ins 3 [(33,.bytes p.1),(34,p.2)]]:=by
 refine ï h fun v h1 h=>?_;refine ï h fun q h2 h=>?_
 (have h3:=cz h;have h:=cq h)
 refine ï h fun r h4 h=>?_
 (have h5:=cz h;have h:=cq h)
 refine cK h fun l h6 h=>?_;obtain⟨⟨a,b⟩,c,d⟩:=r;rw[i1 h1,NG h2,ġ h3,i2 h4,←h];have e1:a=33:=ġ (oa h5).1;have e2:c=34:=ġ (oa h5).2;have e3:b=.bytes l:=iB h6;rw[e1,e2,e3]
theorem E9{j:Nat}{vs:List V}{v:V}(h:JR j vs=some v):Ð v=true∧T2 fun d st=>d≤40∧Ev Ê (.call d j vs []) (st,.val v):=by
 have up:∀{j vs v},Told Ê (.call 40 j vs []) v→Ð v=true∧T2 fun d st=>d≤40∧Ev Ê (.call d j vs []) (st,.val v):=fun t=>let ⟨st,e⟩:=t.e;⟨t.c,40,st,Ĭ _,e⟩
 unfold JR at h
 induction e:ö j 103 using ñ with
 |true=>
  rw[e]at h;refine ï h fun p h1 h=>?_;rw[ġ e,Ak h1];rcases nr h with⟨e1,e2⟩|⟨e1,e2⟩<;>rw[e1,e2]
  ·exact up (dw (G2 _))
  ·exact up (dw (G1 _))
 |false=>
 rw[e]at h
 induction e2:ö j 6 using ñ with
 |true=>
  rw[e2]at h;refine ï h fun u h1 h=>?_;refine ï h fun l h2 h=>?_
  (have h3:=cz h;have h:=cq h)
  rw[ġ e2,i1 h1,iS h2,þ h3,←ë h];exact up (dw U9)
 |false=>
 rw[e2]at h
 induction e3:ö j 37 using ñ with
 |true=>
  rw[e3]at h;refine ï h fun u h1 h=>?_;refine ï h fun l h2 h=>?_;refine cK h fun x h3 h=>?_;rw[ġ e3,i1 h1,iB h2,←h];rcases nr h3 with⟨e1,_⟩|⟨e1,_⟩<;>rw[e1]
  ·exact up (dw G4)
  ·exact up (dw G3)
 |false=>
 rw[e3]at h
 induction e4:ö j 35 using ñ with
 |true=>
  rw[e4]at h;refine ï h fun u h1 h=>?_;refine ï h fun l h2 h=>?_;obtain⟨n,hn,e1,e5⟩:=yX h;rw[ġ e4,i1 h1,iB h2,e1,e5]
  match n,hn with
  |0,_=>exact up (dw G8)
  |1,_=>exact up (dw G7)
  |2,_=>exact up (dw G6)
  |3,_=>exact up (dw G5)
  |n+4,hn=>exact absurd hn (by exact Ũ (î _ _))
 |false=>
 rw[e4]at h;obtain⟨a,st,b⟩:=wC h;exact⟨a,20,st,by decide,b⟩
def oB:L3 Ê:=⟨JR,40,E9⟩
abbrev ae(j:Nat)(vs:List V)(v:V):Bool:=NA (EW oB 300 (.call 60 j vs [])) v
noncomputable def allB(f:Nat→Bool):Nat→Bool
 |0=>true
 |n+1=>match f n with
  |true=>allB f n
  |false=>false
theorem cf{f:Nat→Bool}:∀{n:Nat},allB f n=true→∀k,k<n→f k=true
 |0,_,k,h=>absurd h (Nat.not_lt_zero k)
 |n+1,h,k,hk=>by
  unfold allB at h
  split at h
  ·rename_i e;rcases Nat.lt_or_ge k n with l|l
   ·exact cf h k l
   ·have:k=n:=by exact ŵ (â [_,_] (.c (.a Â Á) (.a È Á) .z) Â È rfl hk) (â [_,_] (.c Â È .z) Â È rfl l)
    rw[this];exact e
  ·exact à h
theorem d9{f:Nat→Nat→Bool}{n m:Nat}(h:allB (fun i=>allB (f i) m) n=true){i j:Nat}(hi:i<n)(hj:j<m):f i j=true:=cf (cf h i hi) j hj
theorem CT{f:Nat→Nat→Nat→Bool}{n m q:Nat}(h:allB (fun i=>allB (fun j=>allB (f i j) q) m) n=true){i j k:Nat}(hi:i<n)(hj:j<m)(hk:k<q):f i j k=true:=cf (d9 (f:=fun i j=>allB (f i j) q) h hi hj) k hk
def ě(l:List Nat):List Nat:=l.map dP
def bC(n:Nat):List Nat:=eT++Æ ä n
def aF(s:Nat):List Nat:=bL++Æ Ç s
def bX(o:Nat)(l:List Nat):Bool:=ś (ě (Æ ø o)) (ě l)
def Mw:List V:=[GA 1969 12 31,GA 1994 2 1,GA 1994 2 2,GA 2000 2 29]
def ã(n:Nat):V:=match ç Mw n with
 |some v=>v
 |none=>.none
noncomputable def OK:List Int:=[-1,8797,8798,11016]
noncomputable def I0:List Int:=[0,86399,40000]
def GB(n:Nat):Int:=match ç OK n with
 |some v=>v
 |none=>0
def Hi(n:Nat):Int:=match ç I0 n with
 |some v=>v
 |none=>0
def dX(a b:Nat):Int:=86400*GB a+Hi b
theorem Ku:allB (fun s=>allB (fun b=>ae 49 [.bytes (txt 0 s b)] (Ġ 0 s b)) 4) 4=true:=by kernel_rfl
theorem Kt:allB (fun s=>allB (fun b=>ae 49 [.bytes (txt 1 s b)] (Ġ 1 s b)) 4) 4=true:=by kernel_rfl
theorem Ks:allB (fun s=>allB (fun b=>ae 49 [.bytes (txt 2 s b)] (Ġ 2 s b)) 4) 4=true:=by kernel_rfl
theorem Kr:allB (fun s=>allB (fun b=>ae 49 [.bytes (txt 3 s b)] (Ġ 3 s b)) 4) 4=true:=by kernel_rfl
theorem Kq:allB (fun s=>allB (fun b=>ae 49 [.bytes (txt 4 s b)] (Ġ 4 s b)) 4) 4=true:=by kernel_rfl
theorem Kp:allB (fun s=>allB (fun b=>ae 49 [.bytes (txt 5 s b)] (Ġ 5 s b)) 4) 4=true:=by kernel_rfl
theorem FY:allB (fun n=>ae 63 [fa n] (.str (bC n))) 5=true:=by kernel_rfl
theorem FW:allB (fun s=>ae 63 [cQ s] (.str (aF s))) 4=true:=by kernel_rfl
theorem FV:allB (fun s=>ae 62 [cQ s] (.str (Æ Ç s))) 4=true:=by kernel_rfl
theorem FT:allB (fun o=>allB (fun n=>ae 61 [.bytes (Æ ø o),.str (bC n)] (.bool (bX o (bC n)))) 5) 8=true:=by kernel_rfl
theorem Kn:allB (fun o=>allB (fun s=>ae 61 [.bytes (Æ ø o),.str (aF s)] (.bool (bX o (aF s)))) 4) 8=true:=by kernel_rfl
theorem FR:allB (fun o=>allB (fun s=>ae 61 [.bytes (Æ ø o),.str (Æ Ç s)] (.bool (bX o (Æ Ç s)))) 4) 8=true:=by kernel_rfl
theorem FU:allB (fun o=>allB (fun b=>ae 61 [.bytes (Æ ø o),.str (iH b)] (.bool (bX o (Æ Ç b)))) 4) 8=true:=by kernel_rfl
theorem Ky:allB (fun n=>allB (fun s=>allB (fun b=>ae 52 [.bytes (txt n s b),Ġ n s b] (.str (iH b))) 4) 4) 6=true:=by kernel_rfl
theorem Ko:allB (fun n=>allB (fun s=>ae 69 [.lst (Ě n s)] (ã n)) 4) 6=true:=by kernel_rfl
theorem Ny:allB (fun a=>allB (fun b=>ae 26 [.int (dX a b),.int 0] (ã a)) 3) 4=true:=by kernel_rfl
theorem Kw:allB (fun f=>ae 2 [.str (Æ Ŕ f)] (.str (Æ Ŕ f))) 4=true:=by kernel_rfl
theorem FX:allB (fun o=>ae 89 [.bytes (Æ ø o)] (.str (ě (Æ ø o)))) 8=true:=by kernel_rfl
section
theorem eJ{H:List Cell}{vs:List V}(h:(vs.all Ð)=true):Ē H vs=some (H,vs):=by
 induction vs with
 |nil=>rfl
 |cons v r ih=>
  have h:=oa h;have e:Ô H v=some (H,v):=by induction v using V.casesOn<;>first|rfl|cases h.1
  show(Ô H v).bind _=_;rw[e];show(Ē H r).bind _=_;rw[ih h.2];rfl
variable{d:Nat}{H:List Cell}
theorem ID{D j:Nat}{vs:List V}{v:V}{st:St}(hd:D≤d)(h:Ev Ê (.call D j vs []) (st,.val v))(hv:vs.all Ð=true)(hn:Ð v=true):Ev Ê (.call d j vs H) (⟨H,[],[]⟩,.val v):=oU hd (eJ hv) h hn
theorem use1{j:Nat}{vs:List V}{v:V}(h:ae j vs v=true)(hS:true=true)(hv:vs.all Ð=true):Ev Ê (.call (d+61) j vs H) (⟨H,[],[]⟩,.val v):=
 let ⟨c,_,e⟩:=dw h
 ID (è (by decide) (î 61 d)) e hv c
theorem J1{n s b:Nat}(hn:n<6)(hs:s<4)(hb:b<4):Ev Ê (.call (d+61) 49 [.bytes (txt n s b)] H) (⟨H,[],[]⟩,.val (Ġ n s b)):=by
 refine use1 ?_ rfl rfl
 match n,hn with
 |0,_=>exact d9 (f:=fun s b=>ae 49 [.bytes (txt 0 s b)] (Ġ 0 s b)) Ku hs hb
 |1,_=>exact d9 (f:=fun s b=>ae 49 [.bytes (txt 1 s b)] (Ġ 1 s b)) Kt hs hb
 |2,_=>exact d9 (f:=fun s b=>ae 49 [.bytes (txt 2 s b)] (Ġ 2 s b)) Ks hs hb
 |3,_=>exact d9 (f:=fun s b=>ae 49 [.bytes (txt 3 s b)] (Ġ 3 s b)) Kr hs hb
 |4,_=>exact d9 (f:=fun s b=>ae 49 [.bytes (txt 4 s b)] (Ġ 4 s b)) Kq hs hb
 |5,_=>exact d9 (f:=fun s b=>ae 49 [.bytes (txt 5 s b)] (Ġ 5 s b)) Kp hs hb
 |n+6,h=>exact absurd ‹_› (Ũ (î _ _))
theorem Kb{n:Nat}(hn:n<5):Ev Ê (.call (d+61) 63 [fa n] H) (⟨H,[],[]⟩,.val (.str (bC n))):=use1 (cf FY n hn) rfl rfl
theorem Ka{s:Nat}(hs:s<4):Ev Ê (.call (d+61) 63 [cQ s] H) (⟨H,[],[]⟩,.val (.str (aF s))):=use1 (cf FW s hs) rfl rfl
theorem I3{s:Nat}(hs:s<4):Ev Ê (.call (d+61) 62 [cQ s] H) (⟨H,[],[]⟩,.val (.str (Æ Ç s))):=use1 (cf FV s hs) rfl rfl
theorem S4{o n:Nat}(ho:o<8)(hn:n<5):Ev Ê (.call (d+61) 61 [.bytes (Æ ø o),.str (bC n)] H) (⟨H,[],[]⟩,.val (.bool (bX o (bC n)))):=
 use1 (d9 (f:=fun o n=>ae 61 [.bytes (Æ ø o),.str (bC n)] (.bool (bX o (bC n)))) FT ho hn) rfl rfl
theorem S3{o s:Nat}(ho:o<8)(hs:s<4):Ev Ê (.call (d+61) 61 [.bytes (Æ ø o),.str (aF s)] H) (⟨H,[],[]⟩,.val (.bool (bX o (aF s)))):=
 use1 (d9 (f:=fun o s=>ae 61 [.bytes (Æ ø o),.str (aF s)] (.bool (bX o (aF s)))) Kn ho hs) rfl rfl
theorem S2{o s:Nat}(ho:o<8)(hs:s<4):Ev Ê (.call (d+61) 61 [.bytes (Æ ø o),.str (Æ Ç s)] H) (⟨H,[],[]⟩,.val (.bool (bX o (Æ Ç s)))):=
 use1 (d9 (f:=fun o s=>ae 61 [.bytes (Æ ø o),.str (Æ Ç s)] (.bool (bX o (Æ Ç s)))) FR ho hs) rfl rfl
theorem S5{o b:Nat}(ho:o<8)(hb:b<4):Ev Ê (.call (d+61) 61 [.bytes (Æ ø o),.str (iH b)] H) (⟨H,[],[]⟩,.val (.bool (bX o (Æ Ç b)))):=
 use1 (d9 (f:=fun o b=>ae 61 [.bytes (Æ ø o),.str (iH b)] (.bool (bX o (Æ Ç b)))) FU ho hb) rfl rfl
theorem GP{n s b:Nat}(hn:n<6)(hs:s<4)(hb:b<4):Ev Ê (.call (d+61) 52 [.bytes (txt n s b),Ġ n s b] H) (⟨H,[],[]⟩,.val (.str (iH b))):=
 use1 (CT (f:=fun n s b=>ae 52 [.bytes (txt n s b),Ġ n s b] (.str (iH b))) Ky hn hs hb) rfl rfl
theorem EL{n s:Nat}(hn:n<6)(hs:s<4):Ev Ê (.call (d+61) 69 [.lst (Ě n s)] H) (⟨H,[],[]⟩,.val (ã n)):=
 use1 (d9 (f:=fun n s=>ae 69 [.lst (Ě n s)] (ã n)) Ko hn hs) rfl rfl
theorem La{a b:Nat}(ha:a<4)(hb:b<3):Ev Ê (.call (d+61) 26 [.int (dX a b),.int 0] H) (⟨H,[],[]⟩,.val (ã a)):=
 use1 (d9 (f:=fun a b=>ae 26 [.int (dX a b),.int 0] (ã a)) Ny ha hb) rfl rfl
theorem Gq{f:Nat}(hf:f<4):Ev Ê (.call (d+61) 2 [.str (Æ Ŕ f)] H) (⟨H,[],[]⟩,.val (.str (Æ Ŕ f))):=use1 (cf Kw f hf) rfl rfl
theorem lK{o:Nat}(ho:o<8):Ev Ê (.call (d+61) 89 [.bytes (Æ ø o)] H) (⟨H,[],[]⟩,.val (.str (ě (Æ ø o)))):=use1 (cf FX o ho) rfl rfl
theorem Ee(r:V):NA (EW oB 300 (.call 60 103 [.ins 3 [(33,.bytes lr),(34,r)]] [])) (.str ŋ)=true:=by kernel_rfl
theorem Ed(r:V):NA (EW oB 300 (.call 60 103 [.ins 3 [(33,.bytes lz),(34,r)]] [])) (.str ğ)=true:=by kernel_rfl
theorem zJ{n:Nat}:Ev Ê (.call (d+61) 103 [fa n] H) (⟨H,[],[]⟩,.val (.str ŋ)):=use1 (Ee _) rfl rfl
theorem zI{s:Nat}:Ev Ê (.call (d+61) 103 [cQ s] H) (⟨H,[],[]⟩,.val (.str ğ)):=use1 (Ed _) rfl rfl
end
section
variable{d:Nat}{H:List Cell}
noncomputable def Į:List (List Nat):=[jA,[111,110],nY]
theorem ş{a:Nat}(ha:a<4):T3 fun x y z=>ã a=.tup [.int x,.int y,.int z]:=by
 match a,ha with
 |0,_=>exact⟨_,_,_,rfl⟩
 |1,_=>exact⟨_,_,_,rfl⟩
 |2,_=>exact⟨_,_,_,rfl⟩
 |3,_=>exact⟨_,_,_,rfl⟩
 |a+4,h=>exact absurd ‹_› (Ũ (î _ _))
def OO(op:Nat)(a b:V):Bool:=match cmp op a b with
 |some x=>x
 |none=>false
noncomputable def OL:Nat→Nat
 |0=>2
 |1=>0
 |_=>5
def m7(w:Nat)(a b:V):Bool:=OO (OL w) a b
theorem Cp{x y z x' y' z':Int}:cmp 2 (.tup [.int x,.int y,.int z]) (.tup [.int x',.int y',.int z'])=some (m7 0 (.tup [.int x,.int y,.int z]) (.tup [.int x',.int y',.int z'])):=rfl
theorem Cr{x y z x' y' z':Int}:cmp 0 (.tup [.int x,.int y,.int z]) (.tup [.int x',.int y',.int z'])=some (m7 1 (.tup [.int x,.int y,.int z]) (.tup [.int x',.int y',.int z'])):=rfl
theorem Cq{x y z x' y' z':Int}:cmp 5 (.tup [.int x,.int y,.int z]) (.tup [.int x',.int y',.int z'])=some (m7 2 (.tup [.int x,.int y,.int z]) (.tup [.int x',.int y',.int z'])):=rfl
theorem xu{P:ċ}(hf:P.fn 68=some TS)(ho:P.open_ 68=false){w a b:Nat}(hw:w<3)(ha:a<4)(hb:b<4):Ev P (.call (d+1) 68 [.str (Æ Į w),ã a,ã b] H) (⟨H,[],[]⟩,.val (.bool (m7 w (ã a) (ã b)))):=by
 obtain⟨x,y,z,e⟩:=ş ha;obtain⟨x',y',z',e'⟩:=ş hb;rw[e,e'];have h0:=@Cp x y z x' y' z';have h1:=@Cr x y z x' y' z';have h2:=@Cq x y z x' y' z'
 match w,hw with
 |0,_=>
  apply É (S:=⟨H,[some (.str (Æ Į 0)),some (.tup [.int x,.int y,.int z]),some (.tup [.int x',.int y',.int z'])],[]⟩) hf rfl;walk_at "w"
 |1,_=>
  apply É (S:=⟨H,[some (.str (Æ Į 1)),some (.tup [.int x,.int y,.int z]),some (.tup [.int x',.int y',.int z'])],[]⟩) hf rfl;walk_at "w"
 |2,_=>
  apply É (S:=⟨H,[some (.str (Æ Į 2)),some (.tup [.int x,.int y,.int z]),some (.tup [.int x',.int y',.int z'])],[]⟩) hf rfl;walk_at "w"
 |w+3,h=>exact absurd ‹_› (Ũ (î _ _))
noncomputable def ķ(p g:Nat):Nat:=if p=0 then g else p
def D4(a b:Int):Int:=if ĩ b a then b else a
def DZ(a b:Int):Int:=if ĩ a b then b else a
theorem oY{a b:Nat}(h:a≠b):gJ (a:Int) (b:Int)=false:=decide_eq_false (by omega)
theorem sR{a b:Nat}(h:a=b):gJ (a:Int) (b:Int)=true:=decide_eq_true (by omega)
theorem Gu{p q g:Nat}(hg:g≠0):Ev Ê (.call (d+1) 57 [.tup [.int p,.int q],.int g] H) (⟨H,[],[]⟩,.val (.tup [.int (D4 (ķ p g) (ķ q g)),.int (DZ (ķ p g) (ķ q g))])):=by
 have h0:gJ (g:Int) 0=false:=oY (b:=0) hg
 by_cases hp:p=0<;>by_cases hq:q=0
 ·have h1:gJ (p:Int) 0=true:=sR (b:=0) hp;have h2:gJ (q:Int) 0=true:=sR (b:=0) hq;have e1:ķ p g=g:=if_pos hp;have e2:ķ q g=g:=if_pos hq;rw[e1,e2];apply É (S:=⟨H,[some (.tup [.int p,.int q]),some (.int g),none,none],[]⟩) rfl rfl;walk_at "w"
 ·have h1:gJ (p:Int) 0=true:=sR (b:=0) hp;have h2:gJ (q:Int) 0=false:=oY (b:=0) hq;have e1:ķ p g=g:=if_pos hp;have e2:ķ q g=q:=if_neg hq;rw[e1,e2];apply É (S:=⟨H,[some (.tup [.int p,.int q]),some (.int g),none,none],[]⟩) rfl rfl;walk_at "w"
 ·have h1:gJ (p:Int) 0=false:=oY (b:=0) hp;have h2:gJ (q:Int) 0=true:=sR (b:=0) hq;have e1:ķ p g=p:=if_neg hp;have e2:ķ q g=g:=if_pos hq;rw[e1,e2];apply É (S:=⟨H,[some (.tup [.int p,.int q]),some (.int g),none,none],[]⟩) rfl rfl;walk_at "w"
 ·have h1:gJ (p:Int) 0=false:=oY (b:=0) hp;have h2:gJ (q:Int) 0=false:=oY (b:=0) hq;have e1:ķ p g=p:=if_neg hp;have e2:ķ q g=q:=if_neg hq;rw[e1,e2];apply É (S:=⟨H,[some (.tup [.int p,.int q]),some (.int g),none,none],[]⟩) rfl rfl;walk_at "w"
noncomputable def n7(p:Nat×Nat):V:=.tup [.int p.1,.int p.2]
def gC(n g:Nat)(p:Nat×Nat):Bool:=gh (D4 (ķ p.1 g) (ķ p.2 g)) n&&gh n (DZ (ķ p.1 g) (ķ p.2 g))
def kX(ps:List (Nat×Nat)):V:=.tup (ps.map n7)
def setB(ps:List (Nat×Nat))(n g:Nat):Bool:=ps.any (gC n g)
theorem BW{n g:Nat}(hg:g≠0){u:V}(ps:List (Nat×Nat))(x:Option V)(y:Option V):∃fq,Ev Ê (.qF (d+2) (.n false 3) (ps.map n7) [.as (.n false 4) (.fn 57 [.l 3,.l 2]),.if (.bo true [.cm Ă [7] [.c .none],.cm (.ix Ă å) [3,3] [.l 1,.ix Ă Ì]]) [.re (.c (.bool true))] []]
  ⟨H,[some u,some (.int n),some (.int g),x,y],[]⟩) (⟨H,fq,[]⟩,if setB ps n g then .ret (.bool true)else .next):=by
 induction ps generalizing x y with
 |nil=>
  exact⟨_,ug⟩
 |cons p ps IH=>
  have e:=Gu (d:=d+1) (H:=H) (p:=p.1) (q:=p.2) hg;have hs:setB (p::ps) n g=(gC n g p||setB ps n g):=rfl
  induction h1:gh (D4 (ķ p.1 g) (ķ p.2 g)) n using ñ with
  |false=>
   have hp:gC n g p=false:=by unfold gC;rw[h1];rfl
   rw[hs,hp,jJ];obtain⟨fq,ih⟩:=IH (some (n7 p)) (some (.tup [.int (D4 (ķ p.1 g) (ķ p.2 g)),.int (DZ (ķ p.1 g) (ķ p.2 g))]));refine⟨fq,?_⟩;apply mO rfl
   rotate_left 2
   ·exact ih
   rotate_right 2
   walk_at "w"
  |true=>
   induction h2:gh n (DZ (ķ p.1 g) (ķ p.2 g))using ñ with
   |false=>
    have hp:gC n g p=false:=by unfold gC;rw[h1,h2];rfl
    rw[hs,hp,jJ];obtain⟨fq,ih⟩:=IH (some (n7 p)) (some (.tup [.int (D4 (ķ p.1 g) (ķ p.2 g)),.int (DZ (ķ p.1 g) (ķ p.2 g))]));refine⟨fq,?_⟩;apply mO rfl
    rotate_left 2
    ·exact ih
    rotate_right 2
    walk_at "w"
   |true=>
    have hp:gC n g p=true:=by unfold gC;rw[h1,h2];rfl
    rw[hs,hp,oE];refine⟨[some u,some (.int n),some (.int g),some (n7 p),some (.tup [.int (D4 (ķ p.1 g) (ķ p.2 g)),.int (DZ (ķ p.1 g) (ķ p.2 g))])],?_⟩;apply zC rfl;walk_at "w"
theorem BV{n g:Nat}(hg:g≠0)(ps:List (Nat×Nat)):Ev Ê (.call (d+4) 58 [kX ps,.int n,.int g] H) (⟨H,[],[]⟩,.val (.bool (setB ps n g))):=by
 obtain⟨fq,lp⟩:=BW (d:=d) (H:=H) (n:=n) hg (u:=kX ps) ps none none
 induction hb:setB ps n g using ñ with
 |true=>
  rw[hb,if_pos rfl]at lp;apply É (S:=⟨H,[some (kX ps),some (.int n),some (.int g),none,none],[]⟩) rfl rfl;apply dp;apply bS;walk_at "w"
 |false=>
  rw[hb,if_neg (by decide)]at lp;apply É (S:=⟨H,[some (kX ps),some (.int n),some (.int g),none,none],[]⟩) rfl rfl;apply Ò;apply bS;walk_at "w"
structure LP where
 uid:Nat
 n:Nat
 s:Nat
 b:Nat
 f0:Bool
 f1:Bool
 f2:Bool
 f3:Bool
 sp:Nat
 ti:Nat
 mo:Nat
structure LP.Ok(p:LP):Prop where
 n:p.n<6
 s:p.s<4
 b:p.b<4
 sp:p.sp<4
 ti:p.ti<3
def ħ(p:LP):List V:=(if p.f0 then[V.str (Æ Ŕ 0)]else[])++((if p.f1 then[V.str (Æ Ŕ 1)]else[])++((if p.f2 then[V.str (Æ Ŕ 2)]else[])++(if p.f3 then[V.str (Æ Ŕ 3)]else[])))
def Ģ(p:LP)(o:V):V:=.ins 0 [(13,.int p.uid),(14,o),(15,.tup (ħ p)),(16,.int (dX p.sp p.ti)),(17,.int p.mo)]
def Ü(p:LP):V:=Ģ p (.bytes (txt p.n p.s p.b))
def dH(p:LP)(k:Nat)(r:Bool):V:=.ins 6 [(46,Ü p),(32,.int k),(47,if r then Ġ p.n p.s p.b else .none)]
inductive Ŝ where
 |flag (f:Nat)|aK (k:Nat)|Ť (k:Nat)|aI (k:Nat)|seq (ps:List (Nat×Nat))|uid (ps:List (Nat×Nat))|day (w i:Nat)|gQ (w i:Nat)|header (o:Nat)|text (o:Nat)|body (o:Nat)|all
noncomputable def Ŝ.ctorIdx:Ŝ→Nat:=fun v=>v.casesOn (fun À=>0) (fun À=>1) (fun À=>2) (fun À=>3) (fun À=>4) (fun À=>5) (fun À À=>6) (fun À À=>7) (fun À=>8) (fun À=>9) (fun À=>10) 11
noncomputable def bg:List (List Nat):=[Hm,[115,101,110,116,111,110],[115,101,110,116,115,105,110,99,101]]
def Ú:Ŝ→V
 |.flag f=>.tup [.str hW,.str (Æ Ŕ f)]
 |.aK k=>.tup [.str ly,.int k]
 |.Ť k=>.tup [.str nZ,.int k]
 |.aI k=>.tup [.str aU,.int k]
 |.seq ps=>.tup [.str [115,101,113],kX ps]
 |.uid ps=>.tup [.str [117,105,100],kX ps]
 |.day w i=>.tup [.str (Æ Į w),ã i]
 |.gQ w i=>.tup [.str (Æ bg w),ã i]
 |.header o=>.tup [.str cy,.str ğ,.bytes (Æ ø o)]
 |.text o=>.tup [.str aT,.bytes (Æ ø o)]
 |.body o=>.tup [.str ř,.bytes (Æ ø o)]
 |.all=>.tup [.str [97,108,108]]
def Ŝ.ok:Ŝ→Prop
 |.flag f=>f<4
 |.day w i=>w<3∧i<4
 |.gQ w i=>w<3∧i<4
 |.header o=>o<8
 |.text o=>o<8
 |.body o=>o<8
 |_=>True
noncomputable def Ŝ.reads:Ŝ→Bool
 |.gQ .. =>true
 |.header .. =>true
 |.text .. =>true
 |.body .. =>true
 |_=>false
def Gb(f:Nat)(p:LP):Bool:=OO 8 (.str (Æ Ŕ f)) (.tup (ħ p))
def Mi(o:Nat)(p:LP):Bool:=bX o (Æ Ç p.b)||(bX o (aF p.s)||(ď p.n 5&&bX o (bC p.n)))
def Ā(p:LP)(k count last:Nat):Ŝ→Bool
 |.flag f=>Gb f p
 |.aK j=>ĩ j (txt p.n p.s p.b).length
 |.Ť j=>ĩ (txt p.n p.s p.b).length j
 |.aI j=>gh j p.mo
 |.seq ps=>setB ps k count
 |.uid ps=>setB ps p.uid last
 |.day w i=>m7 w (ã p.sp) (ã i)
 |.gQ w i=>ď p.n 4&&m7 w (ã p.n) (ã i)
 |.header o=>bX o (Æ Ç p.s)
 |.text o=>Mi o p
 |.body o=>bX o (Æ Ç p.b)
 |.all=>true
theorem zM:allB (fun n=>allB (fun s=>allB (fun b=>ď (txt n s b).length 1000) 4) 4) 6=true:=by kernel_rfl
theorem Ep{n s b:Nat}(hn:n<6)(hs:s<4)(hb:b<4):(txt n s b).length<1000:=by
 have:=CT (f:=fun n s b=>ď (txt n s b).length 1000) zM hn hs hb
 rwa [bR]at this
theorem lC{p:LP}(hp:p.Ok){k count last j:Nat}:A3 (Ev Ê (.call (d+5) 71 [Ú (.aK j),Ü p,.int k,.tup [.int count,.int last]] H) (⟨H,[],[]⟩,.val (.bool (Ā p k count last (.aK j))))) (Ev Ê (.call (d+5) 71 [Ú (.Ť j),Ü p,.int k,.tup [.int count,.int last]] H) (⟨H,[],[]⟩,.val (.bool (Ā p k count last (.Ť j))))) (Ev Ê (.call (d+5) 71 [Ú (.aI j),Ü p,.int k,.tup [.int count,.int last]] H) (⟨H,[],[]⟩,.val (.bool (Ā p k count last (.aI j))))):=by
 have hl:=len_bytes (l:=txt p.n p.s p.b) (by have:=Ep hp.n hp.s hp.b;exact è ‹_› (by decide));refine⟨?_,?_,?_⟩
 ·apply É (S:=⟨H,[some (Ú (.aK j)),some (Ü p),some (.int k),some (.tup [.int count,.int last]),none,none],[]⟩) rfl rfl;walk_at "w"
 ·apply É (S:=⟨H,[some (Ú (.Ť j)),some (Ü p),some (.int k),some (.tup [.int count,.int last]),none,none],[]⟩) rfl rfl;walk_at "w"
 ·apply É (S:=⟨H,[some (Ú (.aI j)),some (Ü p),some (.int k),some (.tup [.int count,.int last]),none,none],[]⟩) rfl rfl;walk_at "w"
theorem p_{p:LP}{o:V}{k count last:Nat}(hc:count≠0)(hl:last≠0)(ps:List (Nat×Nat)):Ev Ê (.call (d+5) 71 [Ú (.seq ps),Ģ p o,.int k,.tup [.int count,.int last]] H) (⟨H,[],[]⟩,.val (.bool (Ā p k count last (.seq ps))))∧
  Ev Ê (.call (d+5) 71 [Ú (.uid ps),Ģ p o,.int k,.tup [.int count,.int last]] H) (⟨H,[],[]⟩,.val (.bool (Ā p k count last (.uid ps)))):=by
 have h1:=BV (d:=d) (H:=H) (n:=k) hc ps;have h2:=BV (d:=d) (H:=H) (n:=p.uid) hl ps;refine⟨?_,?_⟩
 ·apply É (S:=⟨H,[some (Ú (.seq ps)),some (Ģ p o),some (.int k),some (.tup [.int count,.int last]),none,none],[]⟩) rfl rfl;walk_at "w"
 ·apply É (S:=⟨H,[some (Ú (.uid ps)),some (Ģ p o),some (.int k),some (.tup [.int count,.int last]),none,none],[]⟩) rfl rfl;walk_at "w"
theorem xi(f:Nat)(hf:f<4)(p:LP):cmp 8 (.str (Æ Ŕ f)) (.tup (ħ p))=some (Gb f p)∧cmp 8 (.str (Æ Ŕ f)) (.lst (ħ p))=some (Gb f p):=by
 obtain⟨uid,n,s,b,f0,f1,f2,f3,sp,ti,mo⟩:=p
 match f,hf with
 |0,_|1,_|2,_|3,_=>induction f0 using ñ<;>induction f1 using ñ<;>induction f2 using ñ<;>induction f3 using ñ<;>exact⟨rfl,rfl⟩
 |f+4,h=>exact absurd ‹_› (Ũ (î _ _))
theorem BX{f:Nat}(hf:f<4)(p:LP){o:V}:Ev Ê (.call (d+1) 93 [Ģ p o,.str (Æ Ŕ f)] H) (⟨H,[],[]⟩,.val (.bool (Gb f p))):=by
 have h:=(xi f hf p).1;apply É (S:=⟨H,[some (Ģ p o),some (.str (Æ Ŕ f))],[]⟩) rfl rfl;walk_at "w"
theorem Ui:∀w,w<3→cmp 0 (.str (Æ Į w)) (.str hW)=some false∧cmp 8 (.str (Æ Į w)) (.tup [.str jA,.str [111,110],.str nY])=some true
 |0,_=>⟨rfl,rfl⟩
 |1,_=>⟨rfl,rfl⟩
 |2,_=>⟨rfl,rfl⟩
 |w+3,h=>by exact absurd ‹_› (Ũ (î _ _))
theorem jw{p:LP}{o:V}{k count last f:Nat}(hf:f<4):Ev Ê (.call (d+70) 72 [Ú (.flag f),Ģ p o,.int k,.tup [.int count,.int last]] H) (⟨H,[],[]⟩,.val (.bool (Ā p k count last (.flag f)))):=by
 have h1:=Gq (d:=d+8) (H:=H) hf;have h2:=BX (d:=d+68) (H:=H) hf p (o:=o);apply É (S:=⟨H,[some (Ú (.flag f)),some (Ģ p o),some (.int k),some (.tup [.int count,.int last])],[]⟩) rfl rfl;walk_at "w"
theorem uA{p:LP}(hp:p.Ok){k count last w i:Nat}(hw:w<3)(hi:i<4):Ev Ê (.call (d+70) 72 [Ú (.day w i),Ü p,.int k,.tup [.int count,.int last]] H) (⟨H,[],[]⟩,.val (.bool (Ā p k count last (.day w i)))):=by
 have h1:=La (d:=d+8) (H:=H) hp.sp hp.ti;have h2:=xu (d:=d+68) (H:=H) (P:=Ê) rfl rfl hw hp.sp hi;obtain⟨h3,h4⟩:=Ui w hw;obtain⟨x,y,z,e⟩:=ş hi;show Ev Ê (.call (d+70) 72 [.tup [.str (Æ Į w),ã i],Ü p,.int k,.tup [.int count,.int last]] H) (⟨H,[],[]⟩,.val (.bool (m7 w (ã p.sp) (ã i))));rw[e]at h2 ⊢;apply É (S:=⟨H,[some (.tup [.str (Æ Į w),.tup [.int x,.int y,.int z]]),some (Ü p),some (.int k),some (.tup [.int count,.int last])],[]⟩) rfl rfl;walk_at "w"
theorem bc{p:LP}{o:V}{k count last:Nat}{l:Ŝ}{ks:List Nat}{u:V}(e:Ú l=.tup [.str ks,u])(hk:ks∈[ly,nZ,aU,[115,101,113],[117,105,100]])(h:Ev Ê (.call (d+69) 71 [Ú l,Ģ p o,.int k,.tup [.int count,.int last]] H) (⟨H,[],[]⟩,.val (.bool (Ā p k count last l)))):
  Ev Ê (.call (d+70) 72 [Ú l,Ģ p o,.int k,.tup [.int count,.int last]] H) (⟨H,[],[]⟩,.val (.bool (Ā p k count last l))):=by
 rw[e]at h ⊢;simp only[ĸ,qn,or_false]at hk;rcases hk with rfl|rfl|rfl|rfl|rfl
 all_goals
  apply É (S:=⟨H,[some (.tup [.str _,u]),some (Ģ p o),some (.int k),some (.tup [.int count,.int last])],[]⟩) rfl rfl;walk_at "w"
theorem z6:∀w,w<3→A3 (slice (.str (Æ bg w)) (some (.int 4)) none none=some (.str (Æ Į w))) (slice (.str (Æ bg w)) none (some (.int 4)) none=some (.str Ŧ)) (cmp 8 (.str (Æ bg w)) (.tup [.str cy,.str aT,.str ř])=some false)
 |0,_=>⟨rfl,rfl,rfl⟩
 |1,_=>⟨rfl,rfl,rfl⟩
 |2,_=>⟨rfl,rfl,rfl⟩
 |w+3,h=>by exact absurd ‹_› (Ũ (î _ _))
theorem nP{n:Nat}(h:¬n<4):ã n=.none:=by
 obtain⟨m,rfl⟩:∃m,n=m+4:=⟨n - 4,by omega⟩;rfl
theorem uF{n s w i:Nat}(hn:n<6)(hs:s<4)(hw:w<3)(hi:i<4):Ev Ê (.call (d+69) 70 [.tup [.str (Æ bg w),ã i],.lst (Ě n s)] H) (⟨H,[],[]⟩,.val (.bool (ď n 4&&m7 w (ã n) (ã i)))):=by
 have h1:=EL (d:=d+7) (H:=H) hn hs;obtain⟨h3,_⟩:=z6 w hw
 by_cases NT:n<4
 ·have h2:=xu (d:=d+67) (H:=H) (P:=Ê) rfl rfl hw NT hi;obtain⟨x,y,z,e⟩:=ş hi;obtain⟨x',y',z',e'⟩:=ş NT;rw[show ď n 4=true from by rw[bR];exact NT,sF];rw[e,e']at h2 ⊢;rw[e']at h1;apply É (S:=⟨H,[some (.tup [.str (Æ bg w),.tup [.int x,.int y,.int z]]),some (.lst (Ě n s)),none],[]⟩) rfl rfl;walk_at "w"
 ·have e':=nP NT;rw[show ď n 4=false from by rw[←wX,bR];exact NT,wU];rw[e']at h1;apply É (S:=⟨H,[some (.tup [.str (Æ bg w),ã i]),some (.lst (Ě n s)),none],[]⟩) rfl rfl;walk_at "w"
theorem jg{o:Nat}(h:Ø (Æ ø o) []=true)(l:List Nat):bX o l=true:=by
 rw[ő,decide_eq_true_eq]at h;unfold bX;rw[h];show ś [] (ě l)=true
 induction ě l using Ŭ<;>rfl
theorem HI{o s:Nat}(ho:o<8)(hs:s<4){u:V}(x:Option V):∃fq,Ev Ê (.qF (d+65) (.n false 3) [cQ s] [.if (.bo true [.cm (.me Þ 57 []) [0] [.l 1],.bo false [.cm Ë [0] [.c (.bytes [])],.fn 61 [.l 2,.fn 62 [.l 3]]]]) [.re (.c (.bool true))] []]
  ⟨H,[some u,some (.str ğ),some (.bytes (Æ ø o)),x],[]⟩) (⟨H,fq,[]⟩,if bX o (Æ Ç s)then .ret (.bool true)else .next):=by
 refine⟨[some u,some (.str ğ),some (.bytes (Æ ø o)),some (cQ s)],?_⟩;have c1:=zI (d:=d+4) (H:=H) (s:=s);have c2:=I3 (d:=d+4) (H:=H) hs;have c3:=S2 (d:=d+4) (H:=H) ho hs
 induction he:Ø (Æ ø o) []using ñ with
 |true=>
  rw[jg he,if_pos rfl];apply zC rfl;walk_at "w"
 |false=>
  induction hi:bX o (Æ Ç s)using ñ with
  |true=>
   rw[hi]at c3;rw[if_pos rfl];apply zC rfl;walk_at "w"
  |false=>
   rw[hi]at c3;rw[if_neg (by decide)];apply mO rfl
   rotate_left 2
   ·exact ug
   rotate_right 2
   walk_at "w"
theorem yP{n o s:Nat}(ho:o<8)(hs:s<4):Ev Ê (.call (d+67) 64 [.lst (Ě n s),.str ğ,.bytes (Æ ø o)] H) (⟨H,[],[]⟩,.val (.bool (bX o (Æ Ç s)))):=by
 have c0:=zJ (d:=d+4) (H:=H) (n:=n);have lp:∃fq,Ev Ê (.qF (d+65) (.n false 3) (Ě n s) [.if (.bo true [.cm (.me Þ 57 []) [0] [.l 1],.bo false [.cm Ë [0] [.c (.bytes [])],.fn 61 [.l 2,.fn 62 [.l 3]]]]) [.re (.c (.bool true))] []]
   ⟨H,[some (.lst (Ě n s)),some (.str ğ),some (.bytes (Æ ø o)),none],[]⟩) (⟨H,fq,[]⟩,if bX o (Æ Ç s)then .ret (.bool true)else .next):=by
  have hu:Ě n s=match ď n 5 with
   |true=>[fa n,cQ s]
   |false=>[cQ s]:=rfl
  generalize hF:Ě n s=F at hu ⊢
  induction hb:ď n 5 using ñ with
  |false=>
   rw[hb]at hu;dsimp only at hu;rw[hu];exact HI ho hs none
  |true=>
   rw[hb]at hu;dsimp only at hu;rw[hu];obtain⟨fq,lp⟩:=HI (d:=d) (H:=H) ho hs (u:=.lst [fa n,cQ s]) (some (fa n));refine⟨fq,?_⟩;apply mO rfl
   rotate_left 2
   ·exact lp
   rotate_right 2
   walk_at "w"
 obtain⟨fq,lp⟩:=lp
 induction hi:bX o (Æ Ç s)using ñ with
 |true=>
  rw[hi,if_pos rfl]at lp;apply É (S:=⟨H,[some (.lst (Ě n s)),some (.str ğ),some (.bytes (Æ ø o)),none],[]⟩) rfl rfl;apply dp;apply bS;walk_at "w"
 |false=>
  rw[hi,if_neg (by decide)]at lp;apply É (S:=⟨H,[some (.lst (Ě n s)),some (.str ğ),some (.bytes (Æ ø o)),none],[]⟩) rfl rfl;apply Ò;apply bS;walk_at "w"
def iw(o n s:Nat):Bool:=(ď n 5&&bX o (bC n))||bX o (aF s)
theorem BR{o s:Nat}(ho:o<8)(hs:s<4){u:V}(x:Option V):Ev Ê (.qF (d+65) (.n false 2) [cQ s] [.if (.fn 61 [.l 1,.fn 63 [.l 2]]) [.re (.c (.bool true))] []] ⟨H,[some u,some (.bytes (Æ ø o)),x],[]⟩)
  (⟨H,[some u,some (.bytes (Æ ø o)),some (cQ s)],[]⟩,if bX o (aF s)then .ret (.bool true)else .next):=by
 have c2:=Ka (d:=d+4) (H:=H) hs;have c3:=S3 (d:=d+4) (H:=H) ho hs
 induction hi:bX o (aF s)using ñ with
 |true=>
  rw[hi]at c3;rw[if_pos rfl];apply zC rfl;walk_at "w"
 |false=>
  rw[hi]at c3;rw[if_neg (by decide)];apply mO rfl
  rotate_left 2
  ·exact ug
  rotate_right 2
  walk_at "w"
theorem F_{n o s:Nat}(hn:n<6)(ho:o<8)(hs:s<4){u:V}:∃x,Ev Ê (.qF (d+65) (.n false 2) (Ě n s) [.if (.fn 61 [.l 1,.fn 63 [.l 2]]) [.re (.c (.bool true))] []] ⟨H,[some u,some (.bytes (Æ ø o)),none],[]⟩)
  (⟨H,[some u,some (.bytes (Æ ø o)),x],[]⟩,if iw o n s then .ret (.bool true)else .next):=by
 unfold iw;have hu:Ě n s=match ď n 5 with
  |true=>[fa n,cQ s]
  |false=>[cQ s]:=rfl
 rw[hu]
 induction hb:ď n 5 using ñ with
 |false=>exact⟨_,BR ho hs none⟩
 |true=>
  have Wh:n<5:=by rwa [bR]at hb
  have c2:=Kb (d:=d+4) (H:=H) Wh;have c3:=S4 (d:=d+4) (H:=H) ho Wh;dsimp only
  induction hi:bX o (bC n)using ñ with
  |true=>
   rw[hi]at c3;refine⟨some (fa n),?_⟩;show Ev Ê _ (_,.ret (.bool true));apply zC rfl;walk_at "w"
  |false=>
   rw[hi]at c3;refine⟨some (cQ s),?_⟩;have lp:=BR (d:=d) (H:=H) ho hs (u:=u) (some (fa n));apply mO rfl
   rotate_left 2
   ·exact lp
   rotate_right 2
   walk_at "w"
theorem F9{n o s:Nat}(hn:n<6)(ho:o<8)(hs:s<4):Ev Ê (.call (d+67) 65 [.lst (Ě n s),.bytes (Æ ø o)] H) (⟨H,[],[]⟩,.val (.bool (iw o n s))):=by
 obtain⟨x,lp⟩:=F_ (d:=d) (H:=H) hn ho hs (u:=.lst (Ě n s))
 induction hi:iw o n s using ñ with
 |true=>
  rw[hi,if_pos rfl]at lp;apply É (S:=⟨H,[some (.lst (Ě n s)),some (.bytes (Æ ø o)),none],[]⟩) rfl rfl;apply dp;apply bS;walk_at "w"
 |false=>
  have he:Ø (Æ ø o) []=false:=by
   induction he:Ø (Æ ø o) []using ñ with
   |false=>rfl
   |true=>
    unfold iw at hi;rw[jg he (aF s),Bool.or_true]at hi;cases hi
  have hc:cmp 0 (.bytes (Æ ø o)) (.bytes [])=some false:=by
   show some (Ø (Æ ø o) [])=_;rw[he]
  rw[hi,if_neg (by decide)]at lp;apply É (S:=⟨H,[some (.lst (Ě n s)),some (.bytes (Æ ø o)),none],[]⟩) rfl rfl;apply Ò;apply bS;walk_at "w"
theorem F3:Ev Ê (.call (d+1) 107 [Bk] H) (⟨H,[],[]⟩,.val (.bool true)):=by
 apply É (S:=⟨H,[some Bk],[]⟩) rfl rfl;walk_at "w"
theorem ri{n s b o:Nat}(hn:n<6)(hs:s<4)(hb:b<4)(ho:o<8):Ev Ê (.call (d+67) 66 [.bytes (txt n s b),Ġ n s b,.bytes (Æ ø o)] H) (⟨H,[],[]⟩,.val (.bool (bX o (Æ Ç b)))):=by
 induction he:Ø (Æ ø o) []using ñ with
 |true=>
  rw[jg he];apply É (S:=⟨H,[some (.bytes (txt n s b)),some (Ġ n s b),some (.bytes (Æ ø o)),some (.int 0),none],[]⟩) rfl rfl;walk_at "w"
 |false=>
  apply É (S:=⟨H,[some (.bytes (txt n s b)),some (Ġ n s b),some (.bytes (Æ ø o)),some (.int 0),none],[]⟩) rfl rfl
  repeat1' first|(apply Ò;apply bS)|exact ug|exact F3|exact GP hn hs hb|exact S5 ho hb
theorem yw{n s b o:Nat}(hn:n<6)(hs:s<4)(hb:b<4)(ho:o<8):Ev Ê (.call (d+69) 67 [Ú (.text o),.bytes (txt n s b),Ġ n s b] H) (⟨H,[],[]⟩,.val (.bool (iw o n s||bX o (Æ Ç b)))):=by
 have c1:=F9 (d:=d+1) (H:=H) hn ho hs;have c2:=ri (d:=d+1) (H:=H) hn hs hb ho
 induction hi:iw o n s using ñ with
 |true=>
  rw[hi]at c1;rw[oE];apply É (S:=⟨H,[some (Ú (.text o)),some (.bytes (txt n s b)),some (Ġ n s b)],[]⟩) rfl rfl;walk_at "w"
 |false=>
  rw[hi]at c1;rw[jJ];apply É (S:=⟨H,[some (Ú (.text o)),some (.bytes (txt n s b)),some (Ġ n s b)],[]⟩) rfl rfl;walk_at "w"
theorem yy{n s b o:Nat}(hn:n<6)(hs:s<4)(hb:b<4)(ho:o<8):Ev Ê (.call (d+69) 67 [Ú (.body o),.bytes (txt n s b),Ġ n s b] H) (⟨H,[],[]⟩,.val (.bool (bX o (Æ Ç b)))):=by
 have c2:=ri (d:=d+1) (H:=H) hn hs hb ho;apply É (S:=⟨H,[some (Ú (.body o)),some (.bytes (txt n s b)),some (Ġ n s b)],[]⟩) rfl rfl;walk_at "w"
theorem sf{n s b o:Nat}(hn:n<6)(hs:s<4)(hb:b<4)(ho:o<8):Ev Ê (.call (d+69) 67 [Ú (.header o),.bytes (txt n s b),Ġ n s b] H) (⟨H,[],[]⟩,.val (.bool (bX o (Æ Ç s)))):=by
 have c2:=yP (d:=d+1) (H:=H) (n:=n) ho hs;apply É (S:=⟨H,[some (Ú (.header o)),some (.bytes (txt n s b)),some (Ġ n s b)],[]⟩) rfl rfl;walk_at "w"
theorem FG{p:LP}(hp:p.Ok){k count last:Nat}(hc:count≠0)(hl:last≠0){r:Bool}:∀(l:Ŝ),l.ok→(l.reads=true→r=true)→l≠.all→
  Ev Ê (.call (d+72) 73 [Ú l,dH p k r,.tup [.int count,.int last]] H) (⟨H,[],[]⟩,.val (.bool (Ā p k count last l)))
 |.flag f,ho,_,_=>by
  have c:=jw (d:=d+1) (H:=H) (p:=p) (o:=.bytes (txt p.n p.s p.b)) (k:=k) (count:=count) (last:=last) ho;apply É (S:=⟨H,[some (Ú (.flag f)),some (dH p k r),some (.tup [.int count,.int last])],[]⟩) rfl rfl;walk_at "w"
 |.aK j,_,_,_=>by
  have c:=bc (d:=d+1) (l:=.aK j) rfl (by simp) (lC (d:=d+65) (H:=H) hp (k:=k) (count:=count) (last:=last) (j:=j)).1;apply É (S:=⟨H,[some (Ú (.aK j)),some (dH p k r),some (.tup [.int count,.int last])],[]⟩) rfl rfl;walk_at "w"
 |.Ť j,_,_,_=>by
  have c:=bc (d:=d+1) (l:=.Ť j) rfl (by simp) (lC (d:=d+65) (H:=H) hp (k:=k) (count:=count) (last:=last) (j:=j)).2;apply É (S:=⟨H,[some (Ú (.Ť j)),some (dH p k r),some (.tup [.int count,.int last])],[]⟩) rfl rfl;walk_at "w"
 |.aI j,_,_,_=>by
  have c:=bc (d:=d+1) (l:=.aI j) rfl (by simp) (lC (d:=d+65) (H:=H) hp (k:=k) (count:=count) (last:=last) (j:=j)).3;apply É (S:=⟨H,[some (Ú (.aI j)),some (dH p k r),some (.tup [.int count,.int last])],[]⟩) rfl rfl;walk_at "w"
 |.seq ps,_,_,_=>by
  have c:=bc (d:=d+1) (l:=.seq ps) rfl (by simp) (p_ (d:=d+65) (H:=H) (p:=p) (o:=.bytes (txt p.n p.s p.b)) (k:=k) hc hl ps).1;apply É (S:=⟨H,[some (Ú (.seq ps)),some (dH p k r),some (.tup [.int count,.int last])],[]⟩) rfl rfl;walk_at "w"
 |.uid ps,_,_,_=>by
  have c:=bc (d:=d+1) (l:=.uid ps) rfl (by simp) (p_ (d:=d+65) (H:=H) (p:=p) (o:=.bytes (txt p.n p.s p.b)) (k:=k) hc hl ps).2;apply É (S:=⟨H,[some (Ú (.uid ps)),some (dH p k r),some (.tup [.int count,.int last])],[]⟩) rfl rfl;walk_at "w"
 |.day w i,ho,_,_=>by
  have c:=uA (d:=d+1) (H:=H) hp (k:=k) (count:=count) (last:=last) ho.1 ho.2;have h1:A3 (cmp 8 (.str (Æ Į w)) (.tup [.str cy,.str aT,.str ř])=some false) (slice (.str (Æ Į w)) none (some (.int 4)) none=some (.str ((Æ Į w).take 4))) (cmp 0 (.str ((Æ Į w).take 4)) (.str Ŧ)=some false):=by
   match w,ho.1 with
   |0,_|1,_|2,_=>exact⟨rfl,rfl,rfl⟩
   |w+3,h=>exact absurd ‹_› (Ũ (î _ _))
  obtain⟨h1,h2,h3⟩:=h1;apply É (S:=⟨H,[some (.tup [.str (Æ Į w),ã i]),some (dH p k r),some (.tup [.int count,.int last])],[]⟩) rfl rfl;walk_at "w"
 |.gQ w i,ho,hr,_=>by
  obtain rfl:=hr rfl;have c:=uF (d:=d+2) (H:=H) hp.n hp.s ho.1 ho.2;obtain⟨h1,h2,h3⟩:=z6 w ho.1;apply É (S:=⟨H,[some (.tup [.str (Æ bg w),ã i]),some (dH p k true),some (.tup [.int count,.int last])],[]⟩) rfl rfl;walk_at "w"
 |.header o,ho,hr,_=>by
  obtain rfl:=hr rfl;have c:=sf (d:=d+2) (H:=H) hp.n hp.s hp.b ho;apply É (S:=⟨H,[some (Ú (.header o)),some (dH p k true),some (.tup [.int count,.int last])],[]⟩) rfl rfl;walk_at "w"
 |.text o,ho,hr,_=>by
  obtain rfl:=hr rfl;have c:=yw (d:=d+2) (H:=H) hp.n hp.s hp.b ho;have e:(iw o p.n p.s||bX o (Æ Ç p.b))=Ā p k count last (.text o):=by
   show _=(bX o (Æ Ç p.b)||(bX o (aF p.s)||(ď p.n 5&&bX o (bC p.n))));unfold iw
   induction bX o (Æ Ç p.b)using ñ<;>induction bX o (aF p.s)using ñ<;>induction ď p.n 5&&bX o (bC p.n)using ñ<;>rfl
  rw[e]at c;apply É (S:=⟨H,[some (Ú (.text o)),some (dH p k true),some (.tup [.int count,.int last])],[]⟩) rfl rfl;walk_at "w"
 |.body o,ho,hr,_=>by
  obtain rfl:=hr rfl;have c:=yy (d:=d+2) (H:=H) hp.n hp.s hp.b ho;apply É (S:=⟨H,[some (Ú (.body o)),some (dH p k true),some (.tup [.int count,.int last])],[]⟩) rfl rfl;walk_at "w"
 |.all,_,_,h=>absurd rfl h
def wk(p:LP)(k:Nat)(o:V):V:=.ins 6 [(46,Ģ p o),(32,.int k),(47,.none)]
theorem vd{p:LP}{o:V}{k count last f:Nat}(hf:f<4):Ev Ê (.call (d+72) 73 [Ú (.flag f),wk p k o,.tup [.int count,.int last]] H) (⟨H,[],[]⟩,.val (.bool (Ā p k count last (.flag f)))):=by
 have c:=jw (d:=d+1) (H:=H) (p:=p) (o:=o) (k:=k) (count:=count) (last:=last) hf;apply É (S:=⟨H,[some (Ú (.flag f)),some (wk p k o),some (.tup [.int count,.int last])],[]⟩) rfl rfl;walk_at "w"
theorem yC{p:LP}{o:V}{k count last:Nat}(hc:count≠0)(hl:last≠0)(ps:List (Nat×Nat)):Ev Ê (.call (d+72) 73 [Ú (.uid ps),wk p k o,.tup [.int count,.int last]] H) (⟨H,[],[]⟩,.val (.bool (Ā p k count last (.uid ps)))):=by
 have c:=bc (d:=d+1) (l:=.uid ps) rfl (by simp) (p_ (d:=d+65) (H:=H) (p:=p) (o:=o) (k:=k) hc hl ps).2;apply É (S:=⟨H,[some (Ú (.uid ps)),some (wk p k o),some (.tup [.int count,.int last])],[]⟩) rfl rfl;walk_at "w"
theorem yh(a b:Int):blt 9 [.lst [.int a,.int b]]=some (.lst [.int (D4 a b),.int (DZ a b)]):=by
 show some (V.lst (if ĩ b a=true then[.int b,.int a]else[.int a,.int b]))=_;unfold D4 DZ ĩ
 by_cases h:b<a
 ·rw[decide_eq_true h,decide_eq_false (show ¬a<b by exact fun eH=>si [_,_] (.c (.a Â Á) È (.c (.a È Á) Â .z)) rfl h eH)];rfl
 ·rw[decide_eq_false h]
  by_cases h':a<b
  ·rw[decide_eq_true h'];rfl
  ·rw[decide_eq_false h',show a=b by exact Int.le_antisymm (ì [_,_] (.c Â È .z) Â È rfl (bP.mp h)) (ì [_,_] (.c Â È .z) Â È rfl (bP.mp h'))];rfl
theorem Cf{ρ κ:List (Option V)}{i p g:Nat}(h1:ç ρ i=some (some (.int p)))(h2:ç ρ 2=some (some (.int g))):Ev Ê (.ev d (.te (.cm (.l i) [0] [.c (.int 0)]) Ë (.l i)) ⟨H,ρ,κ⟩) (⟨H,ρ,κ⟩,.val (.int (ķ p g))):=by
 have r1:Ev Ê (.ev d (.l i) ⟨H,ρ,κ⟩) (⟨H,ρ,κ⟩,.val (.int p)):=aR h1;have r2:Ev Ê (.ev d Ë ⟨H,ρ,κ⟩) (⟨H,ρ,κ⟩,.val (.int g)):=aR h2
 by_cases h:p=0
 ·have i1:gJ (p:Int) 0=true:=sR (b:=0) h;rw[show ķ p g=g from if_pos h];walk_at "w"
 ·have i1:gJ (p:Int) 0=false:=oY (b:=0) h;rw[show ķ p g=p from if_neg h];walk_at "w"
theorem yA{n g:Nat}{u:V}(ps:List (Nat×Nat))(H:List Cell)(x:Option V)(y:Option V)(z:Option V):T2 fun fq X=>Ev Ê (.qF (d+2) (.t [(false,3),(false,4)]) (ps.map n7) [.as (.n false 5) (.bl 9 [.li [.te (.cm Þ [0] [.c (.int 0)]) Ë Þ,.te (.cm Ă [0] [.c (.int 0)]) Ë Ă]]),.if (.cm (.ix aS å) [3,3] [.l 1,.ix aS Ì]) [.re (.c (.bool true))] []]
  ⟨H,[some u,some (.int n),some (.int g),x,y,z],[]⟩) (⟨H++X,fq,[]⟩,if setB ps n g then .ret (.bool true)else .next):=by
 induction ps generalizing H x y z with
 |nil=>
  exact⟨_,[],by rw[Ŵ];exact ug⟩
 |cons p ps IH=>
  have hs:setB (p::ps) n g=(gC n g p||setB ps n g):=rfl;have h3:=yh (ķ p.1 g) (ķ p.2 g);have hp:gC n g p=(gh (D4 (ķ p.1 g) (ķ p.2 g)) n&&gh n (DZ (ķ p.1 g) (ķ p.2 g))):=rfl;generalize D4 (ķ p.1 g) (ķ p.2 g)=mn at h3 hp;generalize DZ (ķ p.1 g) (ķ p.2 g)=mx at h3 hp;have t1:=Cf (d:=d+2) (H:=H) (ρ:=[some u,some (.int n),some (.int g),some (.int p.1),some (.int p.2),z]) (κ:=[]) (i:=3) (p:=p.1) (g:=g) rfl rfl;have t2:=Cf (d:=d+2) (H:=H) (ρ:=[some u,some (.int n),some (.int g),some (.int p.1),some (.int p.2),z]) (κ:=[]) (i:=4) (p:=p.2) (g:=g) rfl rfl;generalize ķ p.1 g=e1 at h3 t1;generalize ķ p.2 g=e2 at h3 t2
  induction c1:gh mn n using ñ with
  |true=>
   induction c2:gh n mx using ñ with
   |true=>
    rw[c1,c2]at hp;rw[hs,hp,Bool.and_self,oE,if_pos rfl];refine⟨[some u,some (.int n),some (.int g),some (.int p.1),some (.int p.2),some (.Ó (H++[Cell.Ô (.lst [.int e1,.int e2])]).length)],[.Ô (.lst [.int e1,.int e2]),.lst [.int mn,.int mx]],?_⟩;rw[show H++[Cell.Ô (.lst [.int e1,.int e2]),.lst [.int mn,.int mx]]=(H++[.Ô (.lst [.int e1,.int e2])])++[.lst [.int mn,.int mx]]by simp];apply zC rfl
    repeat1' first|exact t1|exact t2
   |false=>
    obtain⟨fq,X,ih⟩:=IH ((H++[.Ô (.lst [.int e1,.int e2])])++[.lst [.int mn,.int mx]]) (some (.int p.1)) (some (.int p.2)) (some (.Ó (H++[Cell.Ô (.lst [.int e1,.int e2])]).length));rw[c1,c2]at hp;rw[hs,hp,sF,jJ];refine⟨fq,.Ô (.lst [.int e1,.int e2])::.lst [.int mn,.int mx]::X,?_⟩;rw[show H++Cell.Ô (.lst [.int e1,.int e2])::.lst [.int mn,.int mx]::X=((H++[.Ô (.lst [.int e1,.int e2])])++[.lst [.int mn,.int mx]])++X by simp];apply mO rfl
    rotate_left 2
    ·exact ih
    rotate_right 2
    repeat1' first|exact t1|exact t2
  |false=>
   obtain⟨fq,X,ih⟩:=IH ((H++[.Ô (.lst [.int e1,.int e2])])++[.lst [.int mn,.int mx]]) (some (.int p.1)) (some (.int p.2)) (some (.Ó (H++[Cell.Ô (.lst [.int e1,.int e2])]).length));rw[c1]at hp;rw[hs,hp,wU,jJ];refine⟨fq,.Ô (.lst [.int e1,.int e2])::.lst [.int mn,.int mx]::X,?_⟩;rw[show H++Cell.Ô (.lst [.int e1,.int e2])::.lst [.int mn,.int mx]::X=((H++[.Ô (.lst [.int e1,.int e2])])++[.lst [.int mn,.int mx]])++X by simp];apply mO rfl
   rotate_left 2
   ·exact ih
   rotate_right 2
   repeat1' first|exact t1|exact t2
theorem wN{n g:Nat}(ps:List (Nat×Nat)):Ev Ê (.call (d+4) 84 [kX ps,.int n,.int g] H) (⟨H,[],[]⟩,.val (.bool (setB ps n g))):=by
 obtain⟨fq,X,lp⟩:=yA (d:=d) (n:=n) (g:=g) (u:=kX ps) ps H none none none
 induction hb:setB ps n g using ñ with
 |true=>
  rw[hb,if_pos rfl]at lp;apply É (S:=⟨H,[some (kX ps),some (.int n),some (.int g),none,none,none],[]⟩) rfl rfl;apply dp;apply bS;walk_at "w"
 |false=>
  rw[hb,if_neg (by decide)]at lp;apply É (S:=⟨H,[some (kX ps),some (.int n),some (.int g),none,none,none],[]⟩) rfl rfl;apply Ò;apply bS;walk_at "w"
theorem sr{w a b:Nat}(hw:w<3)(ha:a<4)(hb:b<4):Ev Ê (.call (d+1) 87 [.str (Æ Į w),ã a,ã b] H) (⟨H,[],[]⟩,.val (.bool (m7 w (ã a) (ã b)))):=by
 obtain⟨x,y,z,e⟩:=ş ha;obtain⟨x',y',z',e'⟩:=ş hb;rw[e,e'];have h0:=@Cp x y z x' y' z';have h1:=@Cr x y z x' y' z';have h2:=@Cq x y z x' y' z'
 match w,hw with
 |0,_|1,_|2,_=>
  apply É (S:=⟨H,[some (.str _),some (.tup [.int x,.int y,.int z]),some (.tup [.int x',.int y',.int z'])],[]⟩) rfl rfl;walk_at "w"
 |w+3,h=>exact absurd ‹_› (Ũ (î _ _))
def Ķ(p:LP):V:=.aY [([117,105,100],.int p.uid),(eS,.lst (ħ p)),(dK,.int (txt p.n p.s p.b).length),([100,97,121],ã p.sp),(aU,.int p.mo),(Ŧ,ã p.n),(ğ,.str (Æ Ç p.s)),(ř,.str (Æ Ç p.b)),(ŋ,.str (Æ ä p.n))]
theorem ie{s:Nat}(hs:s<4):n9 2 (.str (Æ Ç s)) []=some (.str (ě (Æ Ç s)))∧bin 0 (.str cY) (.str (ě (Æ Ç s)))=some (.str (cY++ě (Æ Ç s))):=by
 match s,hs with
 |0,_|1,_|2,_|3,_=>exact⟨rfl,rfl⟩
 |s+4,h=>exact absurd ‹_› (Ũ (î _ _))
theorem Bc{n:Nat}(hn:n<5):A3 (n9 2 (.str (Æ ä n)) []=some (.str (ě (Æ ä n)))) (bin 0 (.str jz) (.str (ě (Æ ä n)))=some (.str (jz++ě (Æ ä n)))) (cmp 1 (.str (Æ ä n)) (.str [])=some true):=by
 match n,hn with
 |0,_|1,_|2,_|3,_|4,_=>exact⟨rfl,rfl,rfl⟩
 |n+5,h=>exact absurd ‹_› (Ũ (î _ _))
theorem oi{lo:List Nat}{leaf:V}(ht:∀x,Ev Ê (.ev (d+2) (.fn 89 [.ix Ğ Ì]) ⟨H,[none,x],[some leaf]⟩) (⟨H,[none,x],[some leaf]⟩,.val (.str lo)))(ls:List (List Nat))(acc:List V)(x:Option V)(hl:acc.length+ls.length<1000000):∃x',
  Ev Ê (.fj (d+2) Ã [1] [.cm (.fn 89 [.ix Ğ Ì]) [8] [.l 1]] (ls.map .str) acc ⟨H,[none,x],[some leaf]⟩) (⟨H,[none,x'],[some leaf]⟩,.vals (acc.reverse++(ls.filter (ś lo)).map .str)):=by
 induction ls generalizing acc x with
 |nil=>
  exact⟨x,by rw[List.filter_nil,fN,Ŵ];exact i_⟩
 |cons l ls IH=>
  rw[ă]at hl;have t1:=ht (some (.str l))
  induction hb:ś lo l using ñ with
  |true=>
   obtain⟨x',ih⟩:=IH (.str l::acc) (some (.str l)) (by rw[ă];exact â [_,_] (.c (.a (.a Â (.a È Á)) Á) Ù .z) (.a (.a (.a Â Á) È) Á) Ù rfl hl);refine⟨x',?_⟩;rw[yF hb,Ŏ];rw[ar,Ĝ]at ih;apply rZ
   ·exact é (by exact ń (Ż _ _) ‹_›)
   ·exact gX rfl
   rotate_left 4
   ·exact ih
   rotate_right 4
   repeat1' exact t1
  |false=>
   obtain⟨x',ih⟩:=IH acc (some (.str l)) (by exact aW ‹_›);refine⟨x',?_⟩;rw[yE (by rw[hb];decide)];apply J2
   ·exact é (by exact ń (Ż _ _) ‹_›)
   ·exact gX rfl
   rotate_left 2
   ·exact ih
   rotate_right 2
   repeat1' exact t1
theorem kN(f:List Nat→Bool):∀ls:List (List Nat),ĩ 0 (((ls.filter f).map V.str).length:Int)=ls.any f
 |[]=>rfl
 |l::ls=>by
  induction h:f l using ñ with
  |true=>
   rw[yF h,ik,h,oE];exact decide_eq_true (by simp only[Ŏ,ă];exact ì [_] (.c đ Â .z) (.a đ Á) (.a Â Á) rfl (lP _))
  |false=>
   rw[yE (by rw[h];decide),ik,h,jJ];exact kN f ls
theorem J8{p:LP}{k count last f:Nat}(hf:f<4):Ev Ê (.call (d+72) 88 [Ú (.flag f),Ķ p,.int k,.int count,.int last] H) (⟨H,[],[]⟩,.val (.bool (Ā p k count last (.flag f)))):=by
 have h:=(xi f hf p).2;apply É (S:=⟨H,[some (Ķ p),some (.int k),some (.int count),some (.int last),none,none],[some (Ú (.flag f))]⟩) rfl rfl;walk_at "w"
theorem uW{p:LP}{k count last j:Nat}:A3 (Ev Ê (.call (d+72) 88 [Ú (.aK j),Ķ p,.int k,.int count,.int last] H) (⟨H,[],[]⟩,.val (.bool (Ā p k count last (.aK j))))) (Ev Ê (.call (d+72) 88 [Ú (.Ť j),Ķ p,.int k,.int count,.int last] H) (⟨H,[],[]⟩,.val (.bool (Ā p k count last (.Ť j))))) (Ev Ê (.call (d+72) 88 [Ú (.aI j),Ķ p,.int k,.int count,.int last] H) (⟨H,[],[]⟩,.val (.bool (Ā p k count last (.aI j))))):=by
 refine⟨?_,?_,?_⟩
 ·apply É (S:=⟨H,[some (Ķ p),some (.int k),some (.int count),some (.int last),none,none],[some (Ú (.aK j))]⟩) rfl rfl;walk_at "w"
 ·apply É (S:=⟨H,[some (Ķ p),some (.int k),some (.int count),some (.int last),none,none],[some (Ú (.Ť j))]⟩) rfl rfl;walk_at "w"
 ·apply É (S:=⟨H,[some (Ķ p),some (.int k),some (.int count),some (.int last),none,none],[some (Ú (.aI j))]⟩) rfl rfl;walk_at "w"
theorem sd{p:LP}{k count last:Nat}{ps:List (Nat×Nat)}:Ev Ê (.call (d+72) 88 [Ú (.seq ps),Ķ p,.int k,.int count,.int last] H) (⟨H,[],[]⟩,.val (.bool (Ā p k count last (.seq ps))))∧
  Ev Ê (.call (d+72) 88 [Ú (.uid ps),Ķ p,.int k,.int count,.int last] H) (⟨H,[],[]⟩,.val (.bool (Ā p k count last (.uid ps)))):=by
 have h1:=wN (d:=d+67) (H:=H) (n:=k) (g:=count) ps;have h2:=wN (d:=d+67) (H:=H) (n:=p.uid) (g:=last) ps;refine⟨?_,?_⟩
 ·apply É (S:=⟨H,[some (Ķ p),some (.int k),some (.int count),some (.int last),none,none],[some (Ú (.seq ps))]⟩) rfl rfl;walk_at "w"
 ·apply É (S:=⟨H,[some (Ķ p),some (.int k),some (.int count),some (.int last),none,none],[some (Ú (.uid ps))]⟩) rfl rfl;walk_at "w"
theorem xl{k:Nat}{v x:V}{vs:List V}(h:n9 k v vs=some x):n9 k v vs=some x:=h
theorem J9{p:LP}(hp:p.Ok){k count last w i:Nat}(hw:w<3)(hi:i<4):Ev Ê (.call (d+72) 88 [Ú (.day w i),Ķ p,.int k,.int count,.int last] H) (⟨H,[],[]⟩,.val (.bool (Ā p k count last (.day w i)))):=by
 have c:=sr (d:=d+70) (H:=H) hw hp.sp hi;have q:A6 (cmp 0 (.str (Æ Į w)) (.str cy)=some false) (cmp 0 (.str (Æ Į w)) (.str ř)=some false) (cmp 0 (.str (Æ Į w)) (.str aT)=some false) (slice (.str (Æ Į w)) none (some (.int 4)) none=some (.str ((Æ Į w).take 4))) (cmp 0 (.str ((Æ Į w).take 4)) (.str Ŧ)=some false) (cmp 8 (.str (Æ Į w)) (.tup [.str jA,.str [111,110],.str nY])=some true):=by
  match w,hw with
  |0,_|1,_|2,_=>exact⟨rfl,rfl,rfl,rfl,rfl,rfl⟩
  |w+3,h=>exact absurd ‹_› (Ũ (î _ _))
 obtain⟨q1,q2,q3,q4,q5,q6⟩:=q;obtain⟨x,y,z,e⟩:=ş hp.sp;have e':look [100,97,121] [([117,105,100],.int p.uid),(eS,.lst (ħ p)),(dK,.int (txt p.n p.s p.b).length),([100,97,121],ã p.sp),(aU,.int p.mo),(Ŧ,ã p.n),(ğ,.str (Æ Ç p.s)),(ř,.str (Æ Ç p.b)),(ŋ,.str (Æ ä p.n))]=some (ã p.sp):=rfl;have e2:item (Ķ p) (.str [100,97,121])=some (ã p.sp):=e';apply É (S:=⟨H,[some (Ķ p),some (.int k),some (.int count),some (.int last),none,none],[some (.tup [.str (Æ Į w),ã i])]⟩) rfl rfl;walk_at "w"
theorem J6{p:LP}(hp:p.Ok){k count last w i:Nat}(hw:w<3)(hi:i<4):Ev Ê (.call (d+72) 88 [Ú (.gQ w i),Ķ p,.int k,.int count,.int last] H) (⟨H,[],[]⟩,.val (.bool (Ā p k count last (.gQ w i)))):=by
 have q:A3 (cmp 0 (.str (Æ bg w)) (.str cy)=some false) (cmp 0 (.str (Æ bg w)) (.str ř)=some false) (cmp 0 (.str (Æ bg w)) (.str aT)=some false):=by
  match w,hw with
  |0,_|1,_|2,_=>exact⟨rfl,rfl,rfl⟩
  |w+3,h=>exact absurd ‹_› (Ũ (î _ _))
 obtain⟨q1,q2,q3⟩:=q;obtain⟨q4,q5,_⟩:=z6 w hw;show Ev Ê _ (⟨H,[],[]⟩,.val (.bool (ď p.n 4&&m7 w (ã p.n) (ã i))))
 by_cases hn:p.n<4
 ·have c:=sr (d:=d+70) (H:=H) hw hn hi;obtain⟨x,y,z,e⟩:=ş hn;rw[show ď p.n 4=true from by rw[bR];exact hn,sF];have hv:cmp 7 (ã p.n) .none=some true:=by rw[e];rfl
  have ZL:view H (ã p.n)=some (ã p.n):=by rw[e];rfl
  apply É (S:=⟨H,[some (Ķ p),some (.int k),some (.int count),some (.int last),none,none],[some (.tup [.str (Æ bg w),ã i])]⟩) rfl rfl;walk_at "w"
 ·have e:=nP hn;rw[show ď p.n 4=false from by rw[←wX,bR];exact hn,wU];have hv:cmp 7 (ã p.n) .none=some false:=by rw[e];rfl
  have ZL:view H (ã p.n)=some (ã p.n):=by rw[e];rfl
  apply É (S:=⟨H,[some (Ķ p),some (.int k),some (.int count),some (.int last),none,none],[some (.tup [.str (Æ bg w),ã i])]⟩) rfl rfl;walk_at "w"
theorem J7{p:LP}(hp:p.Ok){k count last o:Nat}(ho:o<8):Ev Ê (.call (d+72) 88 [Ú (.header o),Ķ p,.int k,.int count,.int last] H) (⟨H,[],[]⟩,.val (.bool (Ā p k count last (.header o)))):=by
 have c:=lK (d:=d+10) (H:=H) ho;obtain⟨m1,m2⟩:=ie hp.s;apply É (S:=⟨H,[some (Ķ p),some (.int k),some (.int count),some (.int last),none,none],[some (Ú (.header o))]⟩) rfl rfl
 repeat1' ((with_reducible apply xl);exact m1)
theorem J_{p:LP}(hp:p.Ok){k count last o:Nat}(ho:o<8):Ev Ê (.call (d+72) 88 [Ú (.body o),Ķ p,.int k,.int count,.int last] []) (⟨[],[],[]⟩,.val (.bool (Ā p k count last (.body o)))):=by
 obtain⟨m1,m2⟩:=ie hp.b;have ht:∀x:Option V,Ev Ê (.ev (d+70) (.fn 89 [.ix Ğ Ì]) ⟨[.Ô (.lst [.str (ě (Æ Ç p.b))])],[none,x],[some (Ú (.body o))]⟩) (⟨[.Ô (.lst [.str (ě (Æ Ç p.b))])],[none,x],[some (Ú (.body o))]⟩,.val (.str (ě (Æ ø o)))):=fun x=>by
  repeat1' exact lK ho
 obtain⟨x',lc⟩:=oi (d:=d+68) ht [ě (Æ Ç p.b)] [] none (by simp);have hn:=bW (l:=(([ě (Æ Ç p.b)].filter (ś (ě (Æ ø o)))).map V.str)) (by
  rw[ĕ];exact ń (List.length_filter_le _ _) (by simp))
 have he:Ā p k count last (.body o)=ĩ 0 ((([ě (Æ Ç p.b)].filter (ś (ě (Æ ø o)))).map V.str).length:Int):=by
  rw[kN];show bX o (Æ Ç p.b)=(ś _ _||false);rw[Bool.or_false];rfl
 rw[he];apply É (S:=⟨[],[some (Ķ p),some (.int k),some (.int count),some (.int last),none,none],[some (Ú (.body o))]⟩) rfl rfl
 repeat1' ((with_reducible apply xl);exact m1)
theorem yW(n:Nat):ě (bC n)=jz++ě (Æ ä n):=by unfold ě bC;rw[dS];rfl
theorem nM(s:Nat):ě (aF s)=cY++ě (Æ Ç s):=by unfold ě aF;rw[dS];rfl
theorem J5{p:LP}(hp:p.Ok){k count last o:Nat}(ho:o<8):Ev Ê (.call (d+72) 88 [Ú (.text o),Ķ p,.int k,.int count,.int last] []) (⟨[],[],[]⟩,.val (.bool (Ā p k count last (.text o)))):=by
 obtain⟨m1,_⟩:=ie hp.b;obtain⟨m2,m3⟩:=ie hp.s;have g:∀(ls:List (List Nat)) (H:List Cell),ls.length<1000→(∃x',Ev Ê (.fj (d+70) Ã [1] [.cm (.fn 89 [.ix Ğ Ì]) [8] [.l 1]] (ls.map .str) [] ⟨H,[none,none],[some (Ú (.text o))]⟩)
   (⟨H,[none,x'],[some (Ú (.text o))]⟩,.vals ((ls.filter (ś (ě (Æ ø o)))).map .str)))∧blt 0 [.lst ((ls.filter (ś (ě (Æ ø o)))).map V.str)]=some (.int ((ls.filter (ś (ě (Æ ø o)))).map V.str).length):=fun ls H hl=>by
  have ht:∀x:Option V,Ev Ê (.ev (d+70) (.fn 89 [.ix Ğ Ì]) ⟨H,[none,x],[some (Ú (.text o))]⟩) (⟨H,[none,x],[some (Ú (.text o))]⟩,.val (.str (ě (Æ ø o)))):=fun x=>by
   repeat1' exact lK ho
  exact⟨oi (d:=d+68) ht ls [] none (by simp;exact è ‹_› (by decide)),bW (by rw[ĕ];exact ń (List.length_filter_le _ _) (by exact è ‹_› (by decide)))⟩
 by_cases hn:p.n<5
 ·obtain⟨m4,m5,m6⟩:=Bc hn;obtain⟨⟨x',lc⟩,hl⟩:=g [ě (Æ Ç p.b),cY++ě (Æ Ç p.s),jz++ě (Æ ä p.n)]
   [.Ô (.lst [.str (ě (Æ Ç p.b))]),.Ô (.lst [.str (cY++ě (Æ Ç p.s))]),.Ô (.lst [.str (ě (Æ Ç p.b)),.str (cY++ě (Æ Ç p.s))]),.Ô (.lst [.str (jz++ě (Æ ä p.n))]),
    .Ô (.lst [.str (ě (Æ Ç p.b)),.str (cY++ě (Æ Ç p.s)),.str (jz++ě (Æ ä p.n))])] (by simp)
  have he:Ā p k count last (.text o)=ĩ 0 ((([ě (Æ Ç p.b),cY++ě (Æ Ç p.s),jz++ě (Æ ä p.n)].filter (ś (ě (Æ ø o)))).map V.str).length:Int):=by
   rw[kN];show(bX o (Æ Ç p.b)||(bX o (aF p.s)||(ď p.n 5&&bX o (bC p.n))))=_;rw[show ď p.n 5=true from by rw[bR];exact hn,sF];unfold bX;rw[yW,nM];show _=(ś _ _||(ś _ _||(ś _ _||false)));rw[Bool.or_false]
  rw[he];apply É (S:=⟨[],[some (Ķ p),some (.int k),some (.int count),some (.int last),none,none],[some (Ú (.text o))]⟩) rfl rfl
  repeat1' ((with_reducible apply xl);first|exact m1|exact m2|exact m4)
 ·have e5:p.n=5:=by have:=hp.n;exact ŵ (â [_] (.c (.a Â Á) (.n 6) .z) Â jB rfl this) (â [_] (.c jB Â .z) jB Â rfl (Nat.le_of_not_lt hn))
  have m6:cmp 1 (.str (Æ ä p.n)) (.str [])=some false:=by rw[e5];rfl
  obtain⟨⟨x',lc⟩,hl⟩:=g [ě (Æ Ç p.b),cY++ě (Æ Ç p.s)]
   [.Ô (.lst [.str (ě (Æ Ç p.b))]),.Ô (.lst [.str (cY++ě (Æ Ç p.s))]),.Ô (.lst [.str (ě (Æ Ç p.b)),.str (cY++ě (Æ Ç p.s))]),.Ô (.lst []),
    .Ô (.lst [.str (ě (Æ Ç p.b)),.str (cY++ě (Æ Ç p.s))])] (by simp)
  have he:Ā p k count last (.text o)=ĩ 0 ((([ě (Æ Ç p.b),cY++ě (Æ Ç p.s)].filter (ś (ě (Æ ø o)))).map V.str).length:Int):=by
   rw[kN];show(bX o (Æ Ç p.b)||(bX o (aF p.s)||(ď p.n 5&&bX o (bC p.n))))=_;rw[e5];unfold bX;rw[nM];show(ś _ _||(ś _ _||false))=(ś _ _||(ś _ _||false));rfl
  rw[he];apply É (S:=⟨[],[some (Ķ p),some (.int k),some (.int count),some (.int last),none,none],[some (Ú (.text o))]⟩) rfl rfl
  repeat1' ((with_reducible apply xl);first|exact m1|exact m2)
theorem Fy{p:LP}(hp:p.Ok){k count last:Nat}:∀(l:Ŝ),l.ok→l≠.all→Ev Ê (.call (d+72) 88 [Ú l,Ķ p,.int k,.int count,.int last] []) (⟨[],[],[]⟩,.val (.bool (Ā p k count last l)))
 |.flag f,h,_=>J8 h
 |.aK j,_,_=>uW.1
 |.Ť j,_,_=>uW.2
 |.aI j,_,_=>uW.3
 |.seq ps,_,_=>sd.1
 |.uid ps,_,_=>sd.2
 |.day w i,h,_=>J9 hp h.1 h.2
 |.gQ w i,h,_=>J6 hp h.1 h.2
 |.header o,h,_=>J7 hp h
 |.text o,h,_=>J5 hp h
 |.body o,h,_=>J_ hp h
 |.all,_,h=>absurd rfl h
theorem use2{j:Nat}{vs:List V}{v:V}{st:St}(h:Ev Ê (.call 80 j vs []) (st,.val v))(hS:true=true)(hv:vs.all Ð=true)(hn:Ð v=true):Ev Ê (.call (d+81) j vs H) (⟨H,[],[]⟩,.val v):=ID (è (by decide) (î _ d)) h hv hn
inductive Tr where
 |leaf (l:Ŝ)|nt (t:Tr)|an (a b:Tr)|or (a b:Tr)
noncomputable def Tr.ctorIdx:Tr→Nat:=fun v=>v.casesOn (fun À=>0) (fun À=>1) (fun À À=>2) (fun À À=>3)
noncomputable def Î:Tr→V
 |.leaf l=>Ú l
 |.nt t=>.tup [.str [110,111,116],Î t]
 |.an a b=>.tup [.str [97,110,100],Î a,Î b]
 |.or a b=>.tup [.str [111,114],Î a,Î b]
noncomputable def Tr.ND:Tr→Bool
 |.an .. =>true
 |_=>false
noncomputable def Tr.ok:Tr→Prop
 |.leaf l=>l.ok
 |.nt t=>t.ok
 |.an a b=>A3 a.ok b.ok (a.ND=false)
 |.or a b=>a.ok∧b.ok
noncomputable def Tr.reads:Tr→Bool
 |.leaf l=>l.reads
 |.nt t=>t.reads
 |.an a b=>a.reads||b.reads
 |.or a b=>a.reads||b.reads
noncomputable def Tr.ĭ:Tr→Nat
 |.leaf _=>0
 |.nt t=>t.ĭ+1
 |.an a b=>a.ĭ+b.ĭ+1
 |.or a b=>a.ĭ+b.ĭ+1
noncomputable def ć(tr:Ŝ→Bool):Tr→Bool
 |.leaf l=>tr l
 |.nt t=> !ć tr t
 |.an a b=>ć tr a&&ć tr b
 |.or a b=>ć tr a||ć tr b
def Ď(p:LP)(k count last:Nat)(t:Tr):Bool:=ć (Ā p k count last) t
noncomputable def Tr.ā:Tr→List Ŝ
 |.leaf l=>[l]
 |.nt t=>t.ā
 |.an a b=>a.ā++b.ā
 |.or a b=>a.ā++b.ā
theorem dQ(l:Ŝ)(ho:l.ok):T2 fun ks r=>A6 (Ú l=.tup (.str ks::r)) (Ø ks [110,111,116]=false) (Ø ks [97,110,100]=false) (Ø ks [111,114]=false) (l≠.all→Ø ks [97,108,108]=false) (∃b,A3 (cmp 8 (.str ks) (.tup [.str cy,.str aT,.str ř])=some b) (slice (.str ks) none (some (.int 4)) none=some (.str (ks.take 4))) (l.reads=(b||Ø (ks.take 4) Ŧ))):=by
 match l,ho with
 |.flag f,_=>exact⟨_,_,rfl,rfl,rfl,rfl,fun À=>rfl,_,rfl,rfl,rfl⟩
 |.aK f,_=>exact⟨_,_,rfl,rfl,rfl,rfl,fun À=>rfl,_,rfl,rfl,rfl⟩
 |.Ť f,_=>exact⟨_,_,rfl,rfl,rfl,rfl,fun À=>rfl,_,rfl,rfl,rfl⟩
 |.aI f,_=>exact⟨_,_,rfl,rfl,rfl,rfl,fun À=>rfl,_,rfl,rfl,rfl⟩
 |.seq f,_=>exact⟨_,_,rfl,rfl,rfl,rfl,fun À=>rfl,_,rfl,rfl,rfl⟩
 |.uid f,_=>exact⟨_,_,rfl,rfl,rfl,rfl,fun À=>rfl,_,rfl,rfl,rfl⟩
 |.day 0 i,_=>exact⟨_,_,rfl,rfl,rfl,rfl,fun À=>rfl,_,rfl,rfl,rfl⟩
 |.day 1 i,_=>exact⟨_,_,rfl,rfl,rfl,rfl,fun À=>rfl,_,rfl,rfl,rfl⟩
 |.day 2 i,_=>exact⟨_,_,rfl,rfl,rfl,rfl,fun À=>rfl,_,rfl,rfl,rfl⟩
 |.day (w+3) i,h=>exact absurd h.1 (by exact Ũ (î _ _))
 |.gQ 0 i,_=>exact⟨_,_,rfl,rfl,rfl,rfl,fun À=>rfl,_,rfl,rfl,rfl⟩
 |.gQ 1 i,_=>exact⟨_,_,rfl,rfl,rfl,rfl,fun À=>rfl,_,rfl,rfl,rfl⟩
 |.gQ 2 i,_=>exact⟨_,_,rfl,rfl,rfl,rfl,fun À=>rfl,_,rfl,rfl,rfl⟩
 |.gQ (w+3) i,h=>exact absurd h.1 (by exact Ũ (î _ _))
 |.header f,_=>exact⟨_,_,rfl,rfl,rfl,rfl,fun À=>rfl,_,rfl,rfl,rfl⟩
 |.text f,_=>exact⟨_,_,rfl,rfl,rfl,rfl,fun À=>rfl,_,rfl,rfl,rfl⟩
 |.body f,_=>exact⟨_,_,rfl,rfl,rfl,rfl,fun À=>rfl,_,rfl,rfl,rfl⟩
 |.all,_=>exact⟨_,_,rfl,rfl,rfl,rfl,fun h=>absurd rfl h,_,rfl,rfl,rfl⟩
theorem í(l:Ŝ):Ð (Ú l)=true:=by induction l using Ŝ.casesOn<;>rfl
theorem Ī(t:Tr):Ð (Î t)=true:=by
 induction t using Tr.casesOn with
 |leaf l=>exact í l
 |_=>rfl
theorem Ng{p:LP}(hp:p.Ok){k count last:Nat}(hc:count≠0)(hl:last≠0){r:Bool}(l:Ŝ)(ho:l.ok)(hr:l.reads=true→r=true)(hn:l≠.all):
  Ev Ê (.call (d+81) 73 [Ú l,dH p k r,.tup [.int count,.int last]] H) (⟨H,[],[]⟩,.val (.bool (Ā p k count last l))):=
 use2 (FG (d:=8) (H:=[]) hp hc hl l ho hr hn) rfl (by simp only[gI,í];rfl) rfl
theorem Nb{p:LP}(hp:p.Ok){k count last:Nat}(l:Ŝ)(ho:l.ok)(hn:l≠.all):
  Ev Ê (.call (d+81) 88 [Ú l,Ķ p,.int k,.int count,.int last] H) (⟨H,[],[]⟩,.val (.bool (Ā p k count last l))):=
 use2 (Fy (d:=8) hp l ho hn) rfl (by simp only[gI,í];rfl) rfl
theorem V2{P:ċ}{S:St}{elt:PE}{tg:List Nat}{ifs:List PE}{x y:V}:Ev P (.fj d elt tg ifs [] [y,x] S) (S,.vals [x,y]):=i_
theorem Lu(x y:Bool):cmp 9 (.bool false) (.lst [.bool x,.bool y])=some (x&&y):=by induction x using ñ<;>induction y using ñ<;>rfl
theorem MZ(x y:Bool):cmp 8 (.bool true) (.lst [.bool x,.bool y])=some (x||y):=by induction x using ñ<;>induction y using ñ<;>rfl
theorem i9{p:LP}(hp:p.Ok){k count last:Nat}:∀(t:Tr) (d:Nat) (H:List Cell),t.ok→Ev Ê (.call (d+84+4*t.ĭ) 90 [Î t,Ķ p,.int k,.int count,.int last] H) (⟨H,[],[]⟩,.val (.bool (Ď p k count last t)))
 |.leaf l,d,H,ho=>by
  obtain⟨ks,r,e,e1,e2,e3,e4,_⟩:=dQ l ho;show Ev Ê (.call (d+84) 90 [Ú l,Ķ p,.int k,.int count,.int last] H) (⟨H,[],[]⟩,.val (.bool (Ā p k count last l)))
  by_cases hn:l=.all
  ·subst hn;apply É (S:=⟨H,[some (Ú .all),none,none],[some (Ķ p),some (.int k),some (.int count),some (.int last)]⟩) rfl rfl;walk_at "w"
  ·have c:=Nb (d:=d+2) (H:=H) hp (k:=k) (count:=count) (last:=last) l ho hn;have e4:=e4 hn;rw[e]at c ⊢;have c8:cmp 8 (.str ks) (.tup [.str [97,110,100],.str [111,114]])=some false:=by
    show some (Ø [97,110,100] ks||(Ø [111,114] ks||false))=_;rw[ő]at e2 e3 ⊢;rw[ő];have q1:¬([97,110,100]:List Nat)=ks:=fun q=>of_decide_eq_false e2 q.symm
    have q2:¬([111,114]:List Nat)=ks:=fun q=>of_decide_eq_false e3 q.symm
    rw[decide_eq_false q1,decide_eq_false q2];rfl
   apply É (S:=⟨H,[some (.tup (.str ks::r)),none,none],[some (Ķ p),some (.int k),some (.int count),some (.int last)]⟩) rfl rfl
   repeat1' ((with_reducible apply qz);exact c)
 |.nt t,d,H,ho=>by
  have c:=i9 hp (k:=k) (count:=count) (last:=last) t (d+3) H ho;rw[show d+84+4*(Tr.nt t).ĭ=(d+3+84+4*t.ĭ)+1 by show d+84+4*(t.ĭ+1)=_;exact ŵ (â [_,_] .z (.a (.a Â Ÿ) (.m 4 (.a È Á))) (.a (.a (.a (.a Â hZ) Ÿ) (.m 4 È)) Á) rfl) (â [_,_] .z (.a (.a (.a (.a Â hZ) Ÿ) (.m 4 È)) Á) (.a (.a Â Ÿ) (.m 4 (.a È Á))) rfl)];apply É (S:=⟨H,[some (Î (.nt t)),none,none],[some (Ķ p),some (.int k),some (.int count),some (.int last)]⟩) rfl rfl
  repeat1' ((with_reducible apply qz);exact c)
 |.an a b,d,H,ho=>by
  have ca:=i9 hp (k:=k) (count:=count) (last:=last) a (d+2+4*b.ĭ) H ho.1;have cb:=i9 hp (k:=k) (count:=count) (last:=last) b (d+2+4*a.ĭ) H ho.2;rw[show d+2+4*b.ĭ+84+4*a.ĭ=d+86+4*a.ĭ+4*b.ĭ by exact ŵ (â [_,_,_] .z (.a (.a (.a (.a Â Ĵ) (.m 4 È)) Ÿ) (.m 4 á)) (.a (.a (.a Â ao) (.m 4 á)) (.m 4 È)) rfl) (â [_,_,_] .z (.a (.a (.a Â ao) (.m 4 È)) (.m 4 á)) (.a (.a (.a (.a Â Ĵ) (.m 4 á)) Ÿ) (.m 4 È)) rfl)]at ca;rw[show d+2+4*a.ĭ+84+4*b.ĭ=d+86+4*a.ĭ+4*b.ĭ by exact ŵ (â [_,_,_] .z (.a (.a (.a (.a Â Ĵ) (.m 4 È)) Ÿ) (.m 4 á)) (.a (.a (.a Â ao) (.m 4 È)) (.m 4 á)) rfl) (â [_,_,_] .z (.a (.a (.a Â ao) (.m 4 È)) (.m 4 á)) (.a (.a (.a (.a Â Ĵ) (.m 4 È)) Ÿ) (.m 4 á)) rfl)]at cb;show Ev Ê _ (⟨H,[],[]⟩,.val (.bool (Ď p k count last a&&Ď p k count last b)));generalize Ď p k count last a=x at ca ⊢;generalize Ď p k count last b=y at cb ⊢;have hc:=Lu x y;have na:(Ð (Î a)&&small ([]:List V))=true:=by rw[Ī];rfl
  have nb:(Ð (Î b)&&small [V.bool x])=true:=by rw[Ī];rfl
  rw[show d+84+4*(Tr.an a b).ĭ=(d+86+4*a.ĭ+4*b.ĭ)+2 by show d+84+4*(a.ĭ+b.ĭ+1)=_;exact ŵ (â [_,_,_] .z (.a (.a Â Ÿ) (.m 4 (.a (.a È á) Á))) (.a (.a (.a (.a Â ao) (.m 4 È)) (.m 4 á)) Ĵ) rfl) (â [_,_,_] .z (.a (.a (.a (.a Â ao) (.m 4 È)) (.m 4 á)) Ĵ) (.a (.a Â Ÿ) (.m 4 (.a (.a È á) Á))) rfl)];apply É (S:=⟨H,[some (Î (.an a b)),none,none],[some (Ķ p),some (.int k),some (.int count),some (.int last)]⟩) rfl rfl
  repeat1' first|((with_reducible apply qz);first|exact ca|exact cb)|exact V2|(apply rZ na)|(apply rZ nb)
 |.or a b,d,H,ho=>by
  have ca:=i9 hp (k:=k) (count:=count) (last:=last) a (d+2+4*b.ĭ) H ho.1;have cb:=i9 hp (k:=k) (count:=count) (last:=last) b (d+2+4*a.ĭ) H ho.2;rw[show d+2+4*b.ĭ+84+4*a.ĭ=d+86+4*a.ĭ+4*b.ĭ by exact ŵ (â [_,_,_] .z (.a (.a (.a (.a Â Ĵ) (.m 4 È)) Ÿ) (.m 4 á)) (.a (.a (.a Â ao) (.m 4 á)) (.m 4 È)) rfl) (â [_,_,_] .z (.a (.a (.a Â ao) (.m 4 È)) (.m 4 á)) (.a (.a (.a (.a Â Ĵ) (.m 4 á)) Ÿ) (.m 4 È)) rfl)]at ca;rw[show d+2+4*a.ĭ+84+4*b.ĭ=d+86+4*a.ĭ+4*b.ĭ by exact ŵ (â [_,_,_] .z (.a (.a (.a (.a Â Ĵ) (.m 4 È)) Ÿ) (.m 4 á)) (.a (.a (.a Â ao) (.m 4 È)) (.m 4 á)) rfl) (â [_,_,_] .z (.a (.a (.a Â ao) (.m 4 È)) (.m 4 á)) (.a (.a (.a (.a Â Ĵ) (.m 4 È)) Ÿ) (.m 4 á)) rfl)]at cb;show Ev Ê _ (⟨H,[],[]⟩,.val (.bool (Ď p k count last a||Ď p k count last b)));generalize Ď p k count last a=x at ca ⊢;generalize Ď p k count last b=y at cb ⊢;have hc:=MZ x y;have na:(Ð (Î a)&&small ([]:List V))=true:=by rw[Ī];rfl
  have nb:(Ð (Î b)&&small [V.bool x])=true:=by rw[Ī];rfl
  rw[show d+84+4*(Tr.or a b).ĭ=(d+86+4*a.ĭ+4*b.ĭ)+2 by show d+84+4*(a.ĭ+b.ĭ+1)=_;exact ŵ (â [_,_,_] .z (.a (.a Â Ÿ) (.m 4 (.a (.a È á) Á))) (.a (.a (.a (.a Â ao) (.m 4 È)) (.m 4 á)) Ĵ) rfl) (â [_,_,_] .z (.a (.a (.a (.a Â ao) (.m 4 È)) (.m 4 á)) Ĵ) (.a (.a Â Ÿ) (.m 4 (.a (.a È á) Á))) rfl)];apply É (S:=⟨H,[some (Î (.or a b)),none,none],[some (Ķ p),some (.int k),some (.int count),some (.int last)]⟩) rfl rfl
  repeat1' first|exact V2|(apply rZ na)|(apply rZ nb)
theorem œ{v:V}(h:Ð v=true)(H:List Cell):Ô H v=some (H,v):=by induction v using V.casesOn<;>first|rfl|exact à h
theorem xX(t:Tr)(ho:t.ok):T2 fun ks r=>Î t=.tup (.str ks::r)∧(t.ND=false→Ø ks [97,110,100]=false):=by
 induction t using Tr.casesOn with
 |leaf l=>
  obtain⟨ks,r,e,e1,e2,_⟩:=dQ l ho;exact⟨ks,r,e,fun À=>e2⟩
 |nt t=>exact⟨_,_,rfl,fun À=>rfl⟩
 |an a b=>exact⟨_,_,rfl,fun h=>by cases h⟩
 |or a b=>exact⟨_,_,rfl,fun À=>rfl⟩
theorem JD{ka:List Nat}{ra:List V}{b:V}(ha:Ø ka [97,110,100]=false)(hb:Ð b=true):Ev Ê (.call (d+4) 53 [.tup [.str [97,110,100],.tup (.str ka::ra),b]] H) (⟨H,[],[]⟩,.val (.lst [.tup (.str ka::ra),b])):=by
 have h1:=œ hb (H++[.lst []]);apply É (S:=⟨H,[some (.tup [.str [97,110,100],.tup (.str ka::ra),b]),none],[]⟩) rfl rfl;walk_at "w";apply xQ;walk_at "w";apply IA;walk_at "w"
 ·exact iz
 ·exact v9 _ _
theorem jo{SV CV:V}{tr:Ŝ→Bool}(s7:tr .all=true):∀(t:Tr) (d:Nat) (H:List Cell),t.ok→(∀l∈t.ā,l≠.all→∀d H,Ev Ê (.call (d+81) 73 [Ú l,SV,CV] H) (⟨H,[],[]⟩,.val (.bool (tr l))))→
  Ev Ê (.call (d+84+4*t.ĭ) 56 [Î t,.g_ [SV,CV]] H) (⟨H,[],[]⟩,.val (.bool (ć tr t)))
 |.leaf l,d,H,ho,hr=>by
  obtain⟨ks,u,e,e1,e2,e3,e4,_⟩:=dQ l ho;show Ev Ê (.call (d+84) 56 [Ú l,.g_ [SV,CV]] H) (⟨H,[],[]⟩,.val (.bool (tr l)))
  by_cases hn:l=.all
  ·subst hn;rw[s7];apply É (S:=⟨H,[some (Ú .all),some (.g_ [SV,CV]),none,none],[]⟩) rfl rfl;walk_at "w"
  ·have c:=hr l (Ė.mpr rfl) hn (d+1) H;have e4:=e4 hn;have e2':(!Ø ks [97,110,100])=true:=by rw[e2];rfl
   rw[e]at c ⊢;apply É (S:=⟨H,[some (.tup (.str ks::u)),some (.g_ [SV,CV]),none,none],[]⟩) rfl rfl;walk_at "w"
 |.nt t,d,H,ho,hr=>by
  have c:=jo s7 t (d+3) H ho hr;rw[show d+84+4*(Tr.nt t).ĭ=(d+3+84+4*t.ĭ)+1 by show d+84+4*(t.ĭ+1)=_;exact ŵ (â [_,_] .z (.a (.a Â Ÿ) (.m 4 (.a È Á))) (.a (.a (.a (.a Â hZ) Ÿ) (.m 4 È)) Á) rfl) (â [_,_] .z (.a (.a (.a (.a Â hZ) Ÿ) (.m 4 È)) Á) (.a (.a Â Ÿ) (.m 4 (.a È Á))) rfl)];apply É (S:=⟨H,[some (Î (.nt t)),some (.g_ [SV,CV]),none,none],[]⟩) rfl rfl;walk_at "w"
 |.or a b,d,H,ho,hr=>by
  have ca:=jo s7 a (d+3+4*b.ĭ) H ho.1 (fun l h=>hr l (List.mem_append_left _ h));have cb:=jo s7 b (d+3+4*a.ĭ) H ho.2 (fun l h=>hr l (List.mem_append_right _ h));rw[show d+3+4*b.ĭ+84+4*a.ĭ=d+87+4*a.ĭ+4*b.ĭ by exact ŵ (â [_,_,_] .z (.a (.a (.a (.a Â hZ) (.m 4 È)) Ÿ) (.m 4 á)) (.a (.a (.a Â (.n 87)) (.m 4 á)) (.m 4 È)) rfl) (â [_,_,_] .z (.a (.a (.a Â (.n 87)) (.m 4 È)) (.m 4 á)) (.a (.a (.a (.a Â hZ) (.m 4 á)) Ÿ) (.m 4 È)) rfl)]at ca;rw[show d+3+4*a.ĭ+84+4*b.ĭ=d+87+4*a.ĭ+4*b.ĭ by exact ŵ (â [_,_,_] .z (.a (.a (.a (.a Â hZ) (.m 4 È)) Ÿ) (.m 4 á)) (.a (.a (.a Â (.n 87)) (.m 4 È)) (.m 4 á)) rfl) (â [_,_,_] .z (.a (.a (.a Â (.n 87)) (.m 4 È)) (.m 4 á)) (.a (.a (.a (.a Â hZ) (.m 4 È)) Ÿ) (.m 4 á)) rfl)]at cb;show Ev Ê _ (⟨H,[],[]⟩,.val (.bool (ć tr a||ć tr b)));generalize ć tr a=x at ca ⊢;generalize ć tr b=y at cb ⊢;rw[show d+84+4*(Tr.or a b).ĭ=(d+87+4*a.ĭ+4*b.ĭ)+1 by show d+84+4*(a.ĭ+b.ĭ+1)=_;exact ŵ (â [_,_,_] .z (.a (.a Â Ÿ) (.m 4 (.a (.a È á) Á))) (.a (.a (.a (.a Â (.n 87)) (.m 4 È)) (.m 4 á)) Á) rfl) (â [_,_,_] .z (.a (.a (.a (.a Â (.n 87)) (.m 4 È)) (.m 4 á)) Á) (.a (.a Â Ÿ) (.m 4 (.a (.a È á) Á))) rfl)]
  induction x using ñ with
  |true=>
   rw[oE];apply É (S:=⟨H,[some (Î (.or a b)),some (.g_ [SV,CV]),none,none],[]⟩) rfl rfl;walk_at "w"
  |false=>
   rw[jJ];apply É (S:=⟨H,[some (Î (.or a b)),some (.g_ [SV,CV]),none,none],[]⟩) rfl rfl;walk_at "w"
 |.an a b,d,H,ho,hr=>by
  have ca:=jo s7 a (d+2+4*b.ĭ) H ho.1 (fun l h=>hr l (List.mem_append_left _ h));have cb:=jo s7 b (d+2+4*a.ĭ) H ho.2 (fun l h=>hr l (List.mem_append_right _ h));rw[show d+2+4*b.ĭ+84+4*a.ĭ=d+86+4*a.ĭ+4*b.ĭ by exact ŵ (â [_,_,_] .z (.a (.a (.a (.a Â Ĵ) (.m 4 È)) Ÿ) (.m 4 á)) (.a (.a (.a Â ao) (.m 4 á)) (.m 4 È)) rfl) (â [_,_,_] .z (.a (.a (.a Â ao) (.m 4 È)) (.m 4 á)) (.a (.a (.a (.a Â Ĵ) (.m 4 á)) Ÿ) (.m 4 È)) rfl)]at ca;rw[show d+2+4*a.ĭ+84+4*b.ĭ=d+86+4*a.ĭ+4*b.ĭ by exact ŵ (â [_,_,_] .z (.a (.a (.a (.a Â Ĵ) (.m 4 È)) Ÿ) (.m 4 á)) (.a (.a (.a Â ao) (.m 4 È)) (.m 4 á)) rfl) (â [_,_,_] .z (.a (.a (.a Â ao) (.m 4 È)) (.m 4 á)) (.a (.a (.a (.a Â Ĵ) (.m 4 È)) Ÿ) (.m 4 á)) rfl)]at cb;show Ev Ê _ (⟨H,[],[]⟩,.val (.bool (ć tr a&&ć tr b)));generalize ć tr a=x at ca ⊢;generalize ć tr b=y at cb ⊢;rw[show d+84+4*(Tr.an a b).ĭ=(d+86+4*a.ĭ+4*b.ĭ)+2 by show d+84+4*(a.ĭ+b.ĭ+1)=_;exact ŵ (â [_,_,_] .z (.a (.a Â Ÿ) (.m 4 (.a (.a È á) Á))) (.a (.a (.a (.a Â ao) (.m 4 È)) (.m 4 á)) Ĵ) rfl) (â [_,_,_] .z (.a (.a (.a (.a Â ao) (.m 4 È)) (.m 4 á)) Ĵ) (.a (.a Â Ÿ) (.m 4 (.a (.a È á) Á))) rfl)];obtain⟨ka,ra,ea,na⟩:=xX a ho.1;have hb:=Ī b;show Ev Ê (.call _ 56 [.tup [.str [97,110,100],Î a,Î b],.g_ [SV,CV]] H) _;generalize Î b=tb at cb hb ⊢;rw[ea]at ca ⊢;have cr:=JD (d:=d+83+4*a.ĭ+4*b.ĭ) (H:=H) (ra:=ra) (na ho.3) hb;rw[show d+83+4*a.ĭ+4*b.ĭ+4=d+86+4*a.ĭ+4*b.ĭ+1 by exact ŵ (â [_,_,_] .z (.a (.a (.a (.a Â (.n 83)) (.m 4 È)) (.m 4 á)) dM) (.a (.a (.a (.a Â ao) (.m 4 È)) (.m 4 á)) Á) rfl) (â [_,_,_] .z (.a (.a (.a (.a Â ao) (.m 4 È)) (.m 4 á)) Á) (.a (.a (.a (.a Â (.n 83)) (.m 4 È)) (.m 4 á)) dM) rfl)]at cr
  induction x using ñ with
  |false=>
   rw[wU];apply É (S:=⟨H,[some (.tup [.str [97,110,100],.tup (.str ka::ra),tb]),some (.g_ [SV,CV]),none,none],[]⟩) rfl rfl
   repeat1' first|(apply dp;apply bS)|(apply zC rfl)
  |true=>
   induction y using ñ with
   |false=>
    apply É (S:=⟨H,[some (.tup [.str [97,110,100],.tup (.str ka::ra),tb]),some (.g_ [SV,CV]),none,none],[]⟩) rfl rfl
    repeat1' first|(apply dp;apply bS)|(apply zC hb)|(apply mO rfl)
   |true=>
    apply É (S:=⟨H,[some (.tup [.str [97,110,100],.tup (.str ka::ra),tb]),some (.g_ [SV,CV]),none,none],[]⟩) rfl rfl
    repeat1' first|(apply Ò;apply bS)|(apply mO hb)|(apply mO rfl)|exact ug
noncomputable def Tr.size:Tr→Nat
 |.leaf _=>1
 |.nt t=>t.size+1
 |.an a b=>a.size+b.size+1
 |.or a b=>a.size+b.size+1
theorem Tr.size_pos(t:Tr):0<t.size:=by induction t using Tr.casesOn<;>simp[Tr.size]
noncomputable def cX:List Tr→Nat
 |[]=>0
 |t::r=>t.size+cX r
theorem p8{P:ċ}{H H₁ Ö:List Cell}{ρ ß κ ê:List (Option V)}{S:St}{o:PE}{as:List PE}{m:Nat}{l:List V}{x:V}(h1:Ev P (.ev d o S) (⟨H,ρ,κ⟩,.val (.Ó m)))(h2:fields H (.Ó m)=none)(h3:kd 8 (view H (.Ó m))=10)(h4:Ev P (.bZ d as ⟨H,ρ,κ⟩) (⟨H₁,ß,ê⟩,.vals []))
  (h6:ç H₁ m=some (.lst (l++[x])))(h7:small (l++[x])=true)(h9:put H₁ m (.lst l)=Ö):Ev P (.ev d (.me o 8 as) S) (⟨Ö,ß,ê⟩,.val x):=
 Hk (r:=l.reverse) h1 h2 h3 h4 h6 h7 (by rw[List.reverse_append];rfl) (by rw[List.reverse_reverse];exact h9)
theorem ne_nil{l:List V}{x:V}:cmp 1 (.lst (l++[x])) (.lst [])=some true:=by induction l using Ŭ<;>rfl
theorem AW{ks:List Nat}(e2:Ø ks [97,110,100]=false)(e3:Ø ks [111,114]=false):cmp 8 (.str ks) (.tup [.str [97,110,100],.str [111,114]])=some false:=by
 show some (Ø [97,110,100] ks||(Ø [111,114] ks||false))=_;rw[ő]at e2 e3 ⊢;rw[ő];have q1:¬([97,110,100]:List Nat)=ks:=fun q=>of_decide_eq_false e2 q.symm
 have q2:¬([111,114]:List Nat)=ks:=fun q=>of_decide_eq_false e3 q.symm
 rw[decide_eq_false q1,decide_eq_false q2];rfl
theorem nO:∀ts:List Tr,ts.length≤cX ts
 |[]=>Ĭ _
 |t::r=>by
  have:=t.size_pos;have:=nO r;simp only[cX,ă];omega
theorem bu{u:V}:∀(n:Nat) (ts:List Tr) (X:List Cell) (fd:List V) (x:Option V),cX ts≤n→(∀t∈ts,t.ok)→fd.length+n<1000→cX ts<1000→T2 fun X' x'=>
  Ev Ê (.pE (d+2) (.cm Ë [1] [.li []]) [.as (.n false 3) (.me Ë 8 []),.if (.cm (.ix Þ å) [0] [.c (.str [110,111,116])]) [.ex (.me Ë 7 [.ix Þ Ì])] [.if (.cm (.ix Þ å) [8] [.tu [.c (.str [97,110,100]),.c (.str [111,114])]]) [.ex (.me Ë 9 [.li [.ix Þ Ź,.ix Þ Ì]])] [.ex (.me Ã 7 [.l 3])]]] ⟨.lst fd::.lst (ts.reverse.map Î)::X,[some u,some (.Ó 0),some (.Ó 1),x],[]⟩)
   (⟨.lst (fd++(ts.flatMap Tr.ā).map Ú)::.lst []::X',[some u,some (.Ó 0),some (.Ó 1),x'],[]⟩,.next)
 |n,[],X,fd,x,_,_,_,_=>by
  refine⟨X++[.lst []],x,?_⟩;rw[List.flatMap_nil,fN,Ŵ];show Ev Ê _ (⟨(.lst fd::.lst []::X)++[.lst []],_,_⟩,.next);apply IA;walk_at "w"
 |0,t::ts,X,fd,x,h,_,_,_=>by
  have:=t.size_pos;simp only[cX]at h;omega
 |n+1,t::ts,X,fd,x,h,ho,hl,hz=>by
  have V_:=nO ts;have oZ:cX (t::ts)=t.size+cX ts:=rfl;have sV:=t.size_pos;rw[ar,dS];show T2 fun X' x'=>Ev Ê (.pE _ _ _ ⟨.lst fd::.lst (ts.reverse.map Î++[Î t])::X,_,_⟩) _
  have dY:cmp 1 (az (.lst (ts.reverse.map Î++[Î t]))) (.lst [])=some true:=ne_nil (l:=ts.reverse.map Î) (x:=Î t);have Wc:small (ts.reverse.map Î)=true:=é (by rw[ĕ,ot];exact â [_,_,_,_] (.c (.a È Á) aV (.c Â á (.c (.a j_ á) È .z))) (.a Â Á) Ù rfl hz V_ (ņ oZ.symm));have zu:small (ts.reverse.map Î++[Î t])=true:=é (by rw[Ċ,ĕ,ot,sz];exact â [_,_,_,_] (.c (.a È Á) aV (.c Â á (.c (.a j_ á) È .z))) (.a (.a Â Á) Á) Ù rfl hz V_ (ņ oZ.symm));have Wq:small fd=true:=é (by exact â [_,_] (.c (.a (.a Â (.a È Á)) Á) aV .z) (.a Â Á) Ù rfl hl)
  induction t using Tr.casesOn with
  |leaf l=>
   obtain⟨ks,u1,e,e1,e2,e3,e4,_⟩:=dQ l (ho _ Ů);have hc:=AW e2 e3;obtain⟨X',x',ih⟩:=bu (u:=u) n ts (X++[.lst []]) (fd++[Î (.leaf l)]) (some (Î (.leaf l))) (by simp only[Tr.size]at oZ;exact â [_,_,_] (.c á (.a È Á) (.c (.a Á Â) á .z)) Â È rfl h (ņ oZ.symm)) (fun q hq=>ho q (ũ _ hq)) (by rw[Ċ,sz];exact â [_,_] (.c (.a (.a Â (.a È Á)) Á) aV .z) (.a (.a (.a Â Á) È) Á) aV rfl hl) (by exact ń (î _ _) ‹_›);refine⟨X',x',?_⟩;rw[Ĝ]at ih;have ef:(Tr.leaf l::ts).flatMap Tr.ā=l::ts.flatMap Tr.ā:=by simp[List.flatMap_cons,Tr.ā]
   rw[ef,Ŏ];have e':Î (.leaf l)=.tup (.str ks::u1):=e;rw[e']at ih zu dY ⊢;rw[e];apply xQ
   rotate_left 3
   ·exact ih
   rotate_right 3
   repeat1' apply p8
  |nt t=>
   obtain⟨X',x',ih⟩:=bu (u:=u) n (t::ts) (X++[.lst []]) fd (some (Î (.nt t))) (by simp only[cX,Tr.size]at h ⊢;exact â [_,_,_] (.c (.a (.a Â Á) È) (.a á Á) .z) (.a Â È) á rfl h) (fun q hq=>by
     rcases ĸ.mp hq with rfl|hq
     ·exact ho (.nt q) Ů
     ·exact ho _ (ũ _ hq)) (by exact aW ‹_›) (by simp only[cX,Tr.size]at hz ⊢;exact â [_,_] (.c (.a (.a (.a Â Á) È) Á) aV .z) (.a (.a Â È) Á) aV rfl hz)
   refine⟨X',x',?_⟩;rw[ar,dS]at ih;have na:=Ī t;have ef:(t::ts).flatMap Tr.ā=(Tr.nt t::ts).flatMap Tr.ā:=by simp[List.flatMap_cons,Tr.ā]
   rw[ef]at ih;generalize (Tr.nt t::ts).flatMap Tr.ā=FF at ih ⊢;have e0:Î (.nt t)=.tup [.str [110,111,116],Î t]:=rfl;rw[e0]at ih zu dY ⊢;have ih:Ev Ê (.pE (d+2) (.cm Ë [1] [.li []]) [.as (.n false 3) (.me Ë 8 []),.if (.cm (.ix Þ å) [0] [.c (.str [110,111,116])]) [.ex (.me Ë 7 [.ix Þ Ì])] [.if (.cm (.ix Þ å) [8] [.tu [.c (.str [97,110,100]),.c (.str [111,114])]]) [.ex (.me Ë 9 [.li [.ix Þ Ź,.ix Þ Ì]])] [.ex (.me Ã 7 [.l 3])]]] ⟨.lst fd::.lst (ts.reverse.map Î++[Î t])::(X++[.lst []]),[some u,some (.Ó 0),some (.Ó 1),some (.tup [.str [110,111,116],Î t])],[]⟩) _:=ih;generalize Î t=va at ih na zu dY ⊢;apply xQ
   rotate_left 3
   ·exact ih
   rotate_right 3
   repeat1' first|with_reducible exact œ na _|apply p8
  |an a b=>
   have hc:=(show cmp 8 (.str [97,110,100]) (.tup [.str [97,110,100],.str [111,114]])=some true from rfl);obtain⟨X',x',ih⟩:=bu (u:=u) n (a::b::ts) (X++[.lst []]++[.Ô (.lst [Î b,Î a])]) fd (some (Î (.an a b))) (by simp only[cX,Tr.size]at h ⊢;exact â [_,_,_,_] (.c (.a (.a (.a Â È) Á) á) (.a j_ Á) .z) (.a Â (.a È á)) j_ rfl h) (fun q hq=>by
     rcases ĸ.mp hq with rfl|hq
     ·exact(ho _ Ů).1
     ·rcases ĸ.mp hq with rfl|hq
      ·exact(ho _ Ů).2
      ·exact ho _ (ũ _ hq)) (by exact aW ‹_›) (by simp only[cX,Tr.size]at hz ⊢;exact â [_,_,_] (.c (.a (.a (.a (.a Â È) Á) á) Á) aV .z) (.a (.a Â (.a È á)) Á) aV rfl hz)
   refine⟨X',x',?_⟩;rw[ar,ar,dS,dS,Ĝ]at ih;have na:=Ī a;have nb:=Ī b;have ef:(a::b::ts).flatMap Tr.ā=(Tr.an a b::ts).flatMap Tr.ā:=by simp[List.flatMap_cons,Tr.ā]
   rw[ef]at ih;have HD:(small (ts.reverse.map Î)&&small [Î b,Î a])=true:=by rw[Wc];rfl
   generalize (Tr.an a b::ts).flatMap Tr.ā=FF at ih ⊢;have e0:Î (.an a b)=.tup [.str [97,110,100],Î a,Î b]:=rfl;rw[e0]at ih zu dY ⊢;have ih:Ev Ê (.pE (d+2) (.cm Ë [1] [.li []]) [.as (.n false 3) (.me Ë 8 []),.if (.cm (.ix Þ å) [0] [.c (.str [110,111,116])]) [.ex (.me Ë 7 [.ix Þ Ì])] [.if (.cm (.ix Þ å) [8] [.tu [.c (.str [97,110,100]),.c (.str [111,114])]]) [.ex (.me Ë 9 [.li [.ix Þ Ź,.ix Þ Ì]])] [.ex (.me Ã 7 [.l 3])]]] ⟨.lst fd::.lst (ts.reverse.map Î++[Î b,Î a])::(X++[.lst []]++[.Ô (.lst [Î b,Î a])]),[some u,some (.Ó 0),some (.Ó 1),some (.tup [.str [97,110,100],Î a,Î b])],[]⟩) _:=ih;generalize Î a=va at ih na zu HD dY ⊢;generalize Î b=vb at ih nb zu HD dY ⊢;have Gd:[vb,va].all Ð=true:=by simp only[gI,na,nb];rfl
   apply xQ
   rotate_left 3
   ·exact ih
   rotate_right 3
   repeat1' first|with_reducible exact eJ Gd|apply p8
  |or a b=>
   have hc:=(show cmp 8 (.str [111,114]) (.tup [.str [97,110,100],.str [111,114]])=some true from rfl);obtain⟨X',x',ih⟩:=bu (u:=u) n (a::b::ts) (X++[.lst []]++[.Ô (.lst [Î b,Î a])]) fd (some (Î (.or a b))) (by simp only[cX,Tr.size]at h ⊢;exact â [_,_,_,_] (.c (.a (.a (.a Â È) Á) á) (.a j_ Á) .z) (.a Â (.a È á)) j_ rfl h) (fun q hq=>by
     rcases ĸ.mp hq with rfl|hq
     ·exact(ho _ Ů).1
     ·rcases ĸ.mp hq with rfl|hq
      ·exact(ho _ Ů).2
      ·exact ho _ (ũ _ hq)) (by exact aW ‹_›) (by simp only[cX,Tr.size]at hz ⊢;exact â [_,_,_] (.c (.a (.a (.a (.a Â È) Á) á) Á) aV .z) (.a (.a Â (.a È á)) Á) aV rfl hz)
   refine⟨X',x',?_⟩;rw[ar,ar,dS,dS,Ĝ]at ih;have na:=Ī a;have nb:=Ī b;have ef:(a::b::ts).flatMap Tr.ā=(Tr.or a b::ts).flatMap Tr.ā:=by simp[List.flatMap_cons,Tr.ā]
   rw[ef]at ih;have HD:(small (ts.reverse.map Î)&&small [Î b,Î a])=true:=by rw[Wc];rfl
   generalize (Tr.or a b::ts).flatMap Tr.ā=FF at ih ⊢;have e0:Î (.or a b)=.tup [.str [111,114],Î a,Î b]:=rfl;rw[e0]at ih zu dY ⊢;have ih:Ev Ê (.pE (d+2) (.cm Ë [1] [.li []]) [.as (.n false 3) (.me Ë 8 []),.if (.cm (.ix Þ å) [0] [.c (.str [110,111,116])]) [.ex (.me Ë 7 [.ix Þ Ì])] [.if (.cm (.ix Þ å) [8] [.tu [.c (.str [97,110,100]),.c (.str [111,114])]]) [.ex (.me Ë 9 [.li [.ix Þ Ź,.ix Þ Ì]])] [.ex (.me Ã 7 [.l 3])]]] ⟨.lst fd::.lst (ts.reverse.map Î++[Î b,Î a])::(X++[.lst []]++[.Ô (.lst [Î b,Î a])]),[some u,some (.Ó 0),some (.Ó 1),some (.tup [.str [111,114],Î a,Î b])],[]⟩) _:=ih;generalize Î a=va at ih na zu HD dY ⊢;generalize Î b=vb at ih nb zu HD dY ⊢;have Gd:[vb,va].all Ð=true:=by simp only[gI,na,nb];rfl
   apply xQ
   rotate_left 3
   ·exact ih
   rotate_right 3
   repeat1' first|with_reducible exact eJ Gd|apply p8
theorem aq:∀t:Tr,t.ā.length≤t.size
 |.leaf l=>Ĭ _
 |.nt t=>Nat.le_succ_of_le (aq t)
 |.an a b=>by have:=aq a;have:=aq b;simp only[Tr.ā,Tr.size,Ċ];omega
 |.or a b=>by have:=aq a;have:=aq b;simp only[Tr.ā,Tr.size,Ċ];omega
theorem aj:∀t:Tr,t.ok→∀l∈t.ā,l.ok
 |.leaf l,h,x,hx=>by rw[Ė.mp hx];exact h
 |.nt t,h,x,hx=>aj t h x hx
 |.an a b,h,x,hx=>(sx.mp hx).elim (aj a h.1 x) (aj b h.2 x)
 |.or a b,h,x,hx=>(sx.mp hx).elim (aj a h.1 x) (aj b h.2 x)
theorem Œ:∀t:Tr,t.ā.any Ŝ.reads=t.reads
 |.leaf l=>by simp[Tr.ā,Tr.reads]
 |.nt t=>Œ t
 |.an a b=>by simp only[Tr.ā,Tr.reads,List.any_append,Œ a,Œ b]
 |.or a b=>by simp only[Tr.ā,Tr.reads,List.any_append,Œ a,Œ b]
theorem yB{t:Tr}(ho:t.ok)(hz:t.size<500):Ev Ê (.call (d+4) 54 [Î t] []) (⟨[],[],[]⟩,.val (.lst (t.ā.map Ú))):=by
 obtain⟨X',x',lp⟩:=bu (d:=d) (u:=Î t) t.size [t] [] [] none (Ĭ _) (fun q hq=>by rw[Ė.mp hq];exact ho) (by simp;exact è ‹_› (by decide)) (by show t.size+0<_;exact è ‹_› (by decide));rw[jF,List.flatMap_singleton]at lp;have e1:Ē ([]++[Cell.lst []]) [Î t]=some ([]++[Cell.lst []],[Î t]):=eJ (by simp only[gI,Ī];rfl);apply É (S:=⟨[],[some (Î t),none,none,none],[]⟩) rfl rfl;walk_at "w"
def Ŝ.kind(l:Ŝ):List Nat:=match Ú l with
 |.tup (.str ks::_)=>ks
 |_=>[]
theorem oS(l:Ŝ)(ho:l.ok):T2 fun r b=>A4 (Ú l=.tup (.str l.kind::r)) (cmp 8 (.str l.kind) (.tup [.str cy,.str aT,.str ř])=some b) (slice (.str l.kind) none (some (.int 4)) none=some (.str (l.kind.take 4))) (l.reads=(b||Ø (l.kind.take 4) Ŧ)):=by
 obtain⟨ks,r,e,_,_,_,_,b,h1,h2,h3⟩:=dQ l ho;have:l.kind=ks:=by unfold Ŝ.kind;rw[e]
 rw[this];exact⟨r,b,e,h1,h2,h3⟩
theorem yG(ls:List Ŝ)(acc:List V)(x:Option V)(ho:(∀l∈ls,l.ok))(hl:acc.length+ls.length<1000000):∃x',Ev Ê (.fj d (.ix Ã å) [1] [] (ls.map Ú) acc ⟨H,[none,x],[]⟩) (⟨H,[none,x'],[]⟩,.vals (acc.reverse++ls.map fun l=>.str l.kind)):=by
 induction ls generalizing acc x with
 |nil=>
  exact⟨x,by rw[fN,fN,Ŵ];exact i_⟩
 |cons l ls IH=>
  obtain⟨r,b,e,h1,h2,h3⟩:=oS l (ho l Ů);rw[ă]at hl;obtain⟨x',ih⟩:=IH (.str l.kind::acc) (some (Ú l)) (fun q hq=>ho q (ũ _ hq)) (by rw[ă];exact â [_,_] (.c (.a (.a Â (.a È Á)) Á) Ù .z) (.a (.a (.a Â Á) È) Á) Ù rfl hl);refine⟨x',?_⟩;rw[ar,Ĝ]at ih;rw[Ŏ,Ŏ];rw[e]at ih ⊢;apply ke
  ·exact é (by exact ń (Ż _ _) ‹_›)
  ·exact gX rfl
  ·exact gP
  ·walk_at "w"
  ·rfl
  ·exact ih
theorem ym(ls:List Ŝ)(acc:List V)(x:Option V)(ho:(∀l∈ls,l.ok))(hl:acc.length+ls.length<1000000):∃x',Ev Ê (.fj d Ã [1] [.bo false [.cm Ã [8] [.tu [.c (.str cy),.c (.str aT),.c (.str ř)]],.cm (.sl Ã none (some hV) none) [0] [.c (.str Ŧ)]]] (ls.map fun l=>.str l.kind) acc ⟨H,[none,x],[]⟩) (⟨H,[none,x'],[]⟩,.vals (acc.reverse++(ls.filter Ŝ.reads).map fun l=>.str l.kind)):=by
 induction ls generalizing acc x with
 |nil=>
  exact⟨x,by simp only[List.filter_nil,fN,Ŵ];exact i_⟩
 |cons l ls IH=>
  obtain⟨r,b,e,h1,h2,h3⟩:=oS l (ho l Ů);rw[ă]at hl
  induction hb:l.reads using ñ with
  |true=>
   obtain⟨x',ih⟩:=IH (.str l.kind::acc) (some (.str l.kind)) (fun q hq=>ho q (ũ _ hq)) (by rw[ă];exact â [_,_] (.c (.a (.a Â (.a È Á)) Á) Ù .z) (.a (.a (.a Â Á) È) Á) Ù rfl hl);refine⟨x',?_⟩;rw[ar,Ĝ]at ih;rw[yF hb,Ŏ,Ŏ];rw[hb]at h3
   induction b using ñ with
   |true=>
    apply rZ
    ·exact é (by exact ń (Ż _ _) ‹_›)
    ·exact gX rfl
    rotate_left 4
    ·exact ih
    rotate_right 4
    walk_at "w"
   |false=>
    have h4:Ø (l.kind.take 4) Ŧ=true:=h3.symm;apply rZ
    ·exact é (by exact ń (Ż _ _) ‹_›)
    ·exact gX rfl
    rotate_left 4
    ·exact ih
    rotate_right 4
    walk_at "w"
  |false=>
   obtain⟨x',ih⟩:=IH acc (some (.str l.kind)) (fun q hq=>ho q (ũ _ hq)) (by exact aW ‹_›);refine⟨x',?_⟩;rw[yE (by rw[hb];decide),Ŏ];rw[hb]at h3
   induction b using ñ with
   |true=>cases h3
   |false=>
    have h4:Ø (l.kind.take 4) Ŧ=false:=h3.symm;apply J2
    ·exact é (by exact ń (Ż _ _) ‹_›)
    ·exact gX rfl
    rotate_left 2
    ·exact ih
    rotate_right 2
    walk_at "w"
theorem AZ:∀ls:List Ŝ,cmp 1 (.lst ((ls.filter Ŝ.reads).map fun l=>.str l.kind)) (.lst [])=some (ls.any Ŝ.reads)
 |[]=>rfl
 |l::ls=>by
  induction h:l.reads using ñ with
  |true=>
   rw[yF h,ik,h,oE];rfl
  |false=>
   rw[yE (by rw[h];decide),ik,h,jJ];exact AZ ls
theorem AY{t:Tr}(ho:t.ok)(hz:t.size<500):Ev Ê (.call (d+8) 55 [Î t] []) (⟨[],[],[]⟩,.val (.bool t.reads)):=by
 have Wm:=aq t;have Wl:=aj t ho;have c:=yB (d:=d+3) ho hz;obtain⟨x1,k1⟩:=yG (d:=d+6) (H:=[]) t.ā [] none Wl (by simp;exact â [_,_] (.c (.a È Á) (.n 500) (.c Â È .z)) (.a Â Á) Ù rfl hz Wm);obtain⟨x2,k2⟩:=ym (d:=d+6) (H:=[.Ô (.lst (t.ā.map fun l=>.str l.kind))]) t.ā [] none Wl (by simp;exact â [_,_] (.c (.a È Á) (.n 500) (.c Â È .z)) (.a Â Á) Ù rfl hz Wm);have dY:=AZ t.ā;rw[Œ]at dY;apply É (S:=⟨[],[some (Î t),none],[]⟩) rfl rfl;walk_at "w"
theorem vH{P:ċ}{v:V}{n:Nat}{ρ κ ê:List (Option V)}{w:Option V}(h:put κ n (some v)=ê)(h2:ç κ n=some w):DR P d (.n true n) v ⟨H,ρ,κ⟩ ⟨H,ρ,ê⟩:=gX (VT h2 (h▸rfl))
structure Ent where
 L:V
 uid:Nat
 k:Nat
 pt:V
 tr:Ŝ→Bool
noncomputable def cU(e:Ent):V:=.ins 6 [(46,e.L),(32,.int e.k),(47,e.pt)]
def Ent.ok(e:Ent):Prop:=(∃lt,e.L=.ins 0 ((13,.int e.uid)::lt))∧e.tr .all=true
noncomputable def kh(es:List Ent):V:=match es.getLast? with
 |some e=>.tup [.int e.k,.int e.uid]
 |none=>.tup [.int 0,.int 0]
theorem fQ(l:List V)(i:Int):item (.lst l) (.int i)=if ą i then at_ l i else none:=rfl
theorem item_last{l:List V}{x:V}:item (.lst (l++[x])) (.int (-1))=some x:=by
 have h1:ą (-1)=true:=rfl;have h2:at_ (l++[x]) (-1)=some x:=by
  unfold at_;rw[if_pos (show ĩ (-1) 0=true from rfl),if_neg]
  ·rw[show((-1:Int)+((l++[x]).length:Nat)).toNat=l.length by rw[Ċ,sz];omega];exact ē l x
  ·unfold ĩ;rw[decide_eq_true_eq,Ċ,sz];omega
 rw[fQ,if_pos h1];exact h2
theorem vC(es:List Ent)(ho:∀e∈es,e.ok):Ev Ê (.call (d+3) 75 [.Ó 0] [.lst (es.map cU)]) (⟨[.lst (es.map cU)],[],[]⟩,.val (kh es)):=by
 rcases List.eq_nil_or_concat es with rfl|⟨l,e,rfl⟩
 ·apply É (S:=⟨[.lst []],[some (.Ó 0)],[]⟩) rfl rfl;walk_at "w"
 ·rw[List.concat_eq_append]at ho ⊢;obtain⟨⟨lt,e1⟩,_⟩:=ho e (by simp);have hx:kh (l++[e])=.tup [.int e.k,.int e.uid]:=by unfold kh;simp
  rw[hx,dS];show Ev Ê (.call _ 75 [.Ó 0] [.lst (l.map cU++[.ins 6 [(46,e.L),(32,.int e.k),(47,e.pt)]])]) (⟨[.lst (l.map cU++[.ins 6 [(46,e.L),(32,.int e.k),(47,e.pt)]])],_,_⟩,_);rw[e1];have h1:cmp 1 (az (.lst (l.map cU++[.ins 6 [(46,.ins 0 ((13,.int e.uid)::lt)),(32,.int e.k),(47,e.pt)]]))) (.lst [])=some true:=ne_nil (l:=l.map cU) (x:=.ins 6 [(46,.ins 0 ((13,.int e.uid)::lt)),(32,.int e.k),(47,e.pt)]);have h2:=item_last (l:=l.map cU) (x:=.ins 6 [(46,.ins 0 ((13,.int e.uid)::lt)),(32,.int e.k),(47,e.pt)]);generalize l.map cU=lv at h1 h2 ⊢;apply É (S:=⟨[.lst (lv++[.ins 6 [(46,.ins 0 ((13,.int e.uid)::lt)),(32,.int e.k),(47,e.pt)]])],[some (.Ó 0)],[]⟩) rfl rfl
  repeat1' exact h2
theorem lI{SV CV:V}{tr:Ŝ→Bool}(s7:tr .all=true)(hs:Ð SV=true)(hc:Ð CV=true){t:Tr}(ho:t.ok)(NV:∀l∈t.ā,l≠.all→∀d H,Ev Ê (.call (d+81) 73 [Ú l,SV,CV] H) (⟨H,[],[]⟩,.val (.bool (tr l)))):
  Ev Ê (.call (d+85+4*t.ĭ) 74 [Î t,SV,CV] H) (⟨H,[],[]⟩,.val (.bool (ć tr t))):=by
 have c:=jo s7 t d H ho NV;have hz:Ē H [SV,CV]=some (H,[SV,CV]):=eJ (by simp only[gI,hs,hc];rfl);rw[show d+85+4*t.ĭ=(d+84+4*t.ĭ)+1 by exact wV _ _];apply É (S:=⟨H,[some (Î t)],[some SV,some CV]⟩) rfl rfl;walk_at "w"
theorem P9(es:List Ent):Ð (kh es)=true:=by unfold kh;split<;>rfl
theorem Jc{t:Tr}{CV:V}{D:Nat}(es:List Ent)(acc:List V)(x:Option V)(hm:(∀e∈es,Ev Ê (.call D 74 [Î t,cU e,CV] H) (⟨H,[],[]⟩,.val (.bool (ć e.tr t)))))(hl:acc.length+es.length<1000000):∃x',
  Ev Ê (.fj D (.at Ã 32) [1] [.fn 74 [.k 0,.l 1,.k 1]] (es.map cU) acc ⟨H,[none,x],[some (Î t),some CV]⟩) (⟨H,[none,x'],[some (Î t),some CV]⟩,.vals (acc.reverse++(es.filter fun e=>ć e.tr t).map fun e=>.int e.k)):=by
 induction es generalizing acc x with
 |nil=>
  exact⟨x,by simp only[List.filter_nil,fN,Ŵ];exact i_⟩
 |cons e es IH=>
  have c:=hm e Ů;rw[ă]at hl
  induction hb:ć e.tr t using ñ with
  |true=>
   obtain⟨x',ih⟩:=IH (.int e.k::acc) (some (cU e)) (fun q hq=>hm q (ũ _ hq)) (by rw[ă];exact â [_,_] (.c (.a (.a Â (.a È Á)) Á) Ù .z) (.a (.a (.a Â Á) È) Á) Ù rfl hl);refine⟨x',?_⟩;rw[ar,Ĝ]at ih;rw[yF (p:=fun e:Ent=>ć e.tr t) hb,Ŏ];rw[hb]at c;apply rZ
   ·exact é (by exact ń (Ż _ _) ‹_›)
   ·exact gX rfl
   rotate_left 4
   ·exact ih
   rotate_right 4
   walk_at "w"
  |false=>
   obtain⟨x',ih⟩:=IH acc (some (cU e)) (fun q hq=>hm q (ũ _ hq)) (by exact aW ‹_›);refine⟨x',?_⟩;rw[yE (p:=fun e:Ent=>ć e.tr t) (by rw[hb];decide),Ŏ];rw[hb]at c;apply J2
   ·exact é (by exact ń (Ż _ _) ‹_›)
   ·exact gX rfl
   rotate_left 2
   ·exact ih
   rotate_right 2
   walk_at "w"
theorem EN{t:Tr}{D:Nat}(es:List Ent)(ho:∀e∈es,e.ok)(hD:90≤D)(hl:es.length<1000)(hm:∀e∈es,∀H,Ev Ê (.call D 74 [Î t,cU e,kh es] H) (⟨H,[],[]⟩,.val (.bool (ć e.tr t)))):
  Ev Ê (.call (D+2) 76 [Î t,.Ó 0] [.lst (es.map cU)]) (⟨[.Ô (.lst (es.map cU))],[],[]⟩,.val (.lst ((es.filter fun e=>ć e.tr t).map fun e=>.int e.k))):=by
 obtain⟨D',rfl⟩:∃D',D=D'+3:=⟨D - 3,by omega⟩;have c:=vC (d:=D'+1) es ho;obtain⟨x',k⟩:=Jc (H:=[.Ô (.lst (es.map cU))]) (CV:=kh es) es [] none (fun e he=>hm e he _) (by simp;exact è ‹_› (by decide));rw[oq,jF]at k;apply É (S:=⟨[.lst (es.map cU)],[some (.Ó 0)],[some (Î t),none]⟩) rfl rfl
 repeat1' apply vH
theorem pQ{a b:Cell}:(H++[a]).take (H++[b]).length=H++[a]:=by
 rw[Ċ,sz];exact sC (by simp)
theorem gj{c:Nat}{l:List (Nat×V)}:Ô (H++[.ins c l]) (.Ó H.length)=some (H++[.Ô (.ins c l)],.ins c l):=by simp only[Ô,ē,kn,bO,bw,fg,az]
theorem oV{L pt:V}{k:Nat}(hL:Ð L=true)(hp:Ð pt=true):Ev Ê (.call (d+1) 109 [.Ó H.length,L,.int k,pt] (H++[.ins 6 []])) (⟨H++[.ins 6 [(46,L),(32,.int k),(47,pt)]],[],[]⟩,.val .none):=by
 have e1:=œ hL (H++[.ins 6 []]);have e2:=œ hp (H++[.ins 6 [(46,L),(32,.int k)]]);apply eE (S:=⟨H++[.ins 6 []],[some (.Ó H.length),some L,some (.int k),some pt],[]⟩) rfl rfl
 ·apply Ò
  ·apply ū
   ·exact aR rfl
   ·exact dA (aR rfl) e1 (ē _ _) rfl rfl Ľ
  apply Ò
  ·apply ū
   ·exact aR rfl
   ·exact dA (aR rfl) rfl (ē _ _) rfl rfl Ľ
  apply Ò
  ·apply ū
   ·exact aR rfl
   ·exact dA (aR rfl) e2 (ē _ _) rfl rfl Ľ
  exact gr
 ·exact pQ
theorem wj{L:V}{k:Nat}(hL:Ð L=true):Ev Ê (.call (d+4) 77 [L,.int k,.bool false] H) (⟨H,[],[]⟩,.val (.ins 6 [(46,L),(32,.int k),(47,.none)])):=by
 have c:=oV (d:=d+1) (H:=H) (k:=k) hL (pt:=.none) rfl;have hz:=gj (H:=H) (c:=6) (l:=[(46,L),(32,.int k),(47,.none)]);apply É (S:=⟨H,[some L,some (.int k),some (.bool false)],[]⟩) rfl rfl;walk_at "w"
theorem M8{n s b:Nat}(hn:n<6)(hs:s<4)(hb:b<4):Ev Ê (.call (d+81) 49 [.bytes (txt n s b)] H) (⟨H,[],[]⟩,.val (Ġ n s b)):=
 use2 (J1 (d:=19) (H:=[]) hn hs hb) rfl rfl rfl
theorem z7{p:LP}(hp:p.Ok){k:Nat}:Ev Ê (.call (d+84) 77 [Ü p,.int k,.bool true] H) (⟨H,[],[]⟩,.val (.ins 6 [(46,Ü p),(32,.int k),(47,Ġ p.n p.s p.b)])):=by
 have c:=oV (d:=d+81) (H:=H) (k:=k) (L:=Ü p) (pt:=Ġ p.n p.s p.b) rfl rfl;have c2:=M8 (d:=d+2) (H:=H) hp.n hp.s hp.b;have hz:=gj (H:=H) (c:=6) (l:=[(46,Ü p),(32,.int k),(47,Ġ p.n p.s p.b)]);apply É (S:=⟨H,[some (Ü p),some (.int k),some (.bool true)],[]⟩) rfl rfl;walk_at "w"
noncomputable def Idx:Nat→List Ent→Prop
 |_,[]=>True
 |n,e::es=>e.k=n+1∧Idx (n+1) es
theorem Jj{D:Nat}{r:Bool}{u w:V}(es:List Ent)(n:Nat)(acc:List V)(x:Option V)(y:Option V)(z:Option V)(hi:Idx n es)(hs:(∀e∈es,Ev Ê (.call D 77 [e.L,.int e.k,.bool r] H) (⟨H,[],[]⟩,.val (cU e))))(hc:(∀e∈es,Ð e.L=true))(hl:acc.length+es.length<1000000):T3 fun x' y' z'=>
  Ev Ê (.fj D (.fn 77 [.l 2,.bi 0 Ã Ì,.k 0]) [1,2] [] (bB n (es.map fun e=>e.L)) acc ⟨H,[x,y,z],[some (.bool r)]⟩) (⟨H,[x',y',z'],[some (.bool r)]⟩,.vals (acc.reverse++es.map cU)):=by
 induction es generalizing n acc x y z with
 |nil=>
  exact⟨x,y,z,by simp only[fN,Ŵ];exact i_⟩
 |cons e es IH=>
  have c:=hs e Ů;rw[ă]at hl;obtain⟨x',y',z',ih⟩:=IH (n+1) (cU e::acc) x (some (.int n)) (some e.L) hi.2 (fun q hq=>hs q (ũ _ hq)) (fun q hq=>hc q (ũ _ hq)) (by rw[ă];exact â [_,_] (.c (.a (.a Â (.a È Á)) Á) Ù .z) (.a (.a (.a Â Á) È) Á) Ù rfl hl);refine⟨x',y',z',?_⟩;rw[ar,Ĝ]at ih;have ek:(e.k:Int)=(n:Int)+1:=by rw[hi.1];rfl
  rw[ek]at c;rw[Ŏ,Ŏ];show Ev Ê (.fj D _ _ _ (.tup [.int n,e.L]::bB (n+1) (es.map fun e=>e.L)) _ _) _;apply ke
  ·exact é (by exact ń (Ż _ _) ‹_›)
  ·walk_at "w"
  ·exact gP
  ·walk_at "w"
  ·rfl
  ·exact ih
theorem nR{t:Tr}(ho:t.ok)(hz:t.size<500){D:Nat}(hD:100≤D)(es:List Ent)(hi:Idx 0 es)(he:∀e∈es,e.ok)(hl:es.length<1000)(hs:∀e∈es,∀H,Ev Ê (.call (D+1) 77 [e.L,.int e.k,.bool t.reads] H) (⟨H,[],[]⟩,.val (cU e)))
  (hm:∀e∈es,∀H,Ev Ê (.call D 74 [Î t,cU e,kh es] H) (⟨H,[],[]⟩,.val (.bool (ć e.tr t)))):
  Ev Ê (.call (D+3) 78 [Î t,.lst (es.map fun e=>e.L)] []) (⟨[],[],[]⟩,.val (.lst ((es.filter fun e=>ć e.tr t).map fun e=>.int e.k))):=by
 obtain⟨D',rfl⟩:∃D',D=D'+8:=⟨D - 8,by omega⟩;have c1:=AY (d:=D'+2) ho hz;have hc:∀e∈es,Ð e.L=true:=fun e h=>by obtain⟨⟨lt,q⟩,_⟩:=he e h;rw[q];rfl
 obtain⟨x',y',z',c2⟩:=Jj (D:=D'+8+1) (H:=[]) (r:=t.reads) (u:=.none) (w:=.none) es 0 [] none none none hi (fun e h=>hs e h []) hc (by simp;exact è ‹_› (by decide));have c3:=EN (t:=t) (D:=D'+8) es he (by exact ń (î _ _) ‹_›) hl (fun e h H=>hm e h H);rw[oq,jF]at c2;apply É (S:=⟨[],[some (Î t),some (.lst (es.map fun e=>e.L))],[none]⟩) rfl rfl
 repeat1' apply vH
theorem Ek{j:Nat}{vs:List V}{v:V}{st:St}(h:Ev Ê (.call 120 j vs []) (st,.val v))(hS:true=true)(hv:vs.all Ð=true)(hn:Ð v=true):Ev Ê (.call (d+121) j vs H) (⟨H,[],[]⟩,.val v):=ID (è (by decide) (î _ d)) h hv hn
noncomputable def b_(f:Nat→LP→Bool):Nat→List LP→List V
 |_,[]=>[]
 |n,p::r=>match f (n+1) p with
  |true=>.int (n+1:Nat)::b_ f (n+1) r
  |false=>b_ f (n+1) r
noncomputable def jm(o pt:LP→V)(f:Nat→LP→Ŝ→Bool):Nat→List LP→List Ent
 |_,[]=>[]
 |n,p::r=>⟨Ģ p (o p),p.uid,n+1,pt p,f (n+1) p⟩::jm o pt f (n+1) r
section
variable{o pt:LP→V}{f:Nat→LP→Ŝ→Bool}
theorem xp(ps:List LP)(n:Nat):Idx n (jm o pt f n ps):=by
 induction ps generalizing n with
 |nil=>
  exact trivial
 |cons _ r IH=>
  exact⟨rfl,IH (n+1)⟩
theorem HV(ps:List LP)(n:Nat):(jm o pt f n ps).map (fun e=>e.L)=ps.map fun p=>Ģ p (o p):=by
 induction ps generalizing n with
 |nil=>
  exact rfl
 |cons _ r IH=>
  exact congrArg (_:: ·) (IH (n+1))
theorem xo(ps:List LP)(n:Nat):(jm o pt f n ps).length=ps.length:=by
 induction ps generalizing n with
 |nil=>
  exact rfl
 |cons _ r IH=>
  exact congrArg (· +1) (IH (n+1))
theorem eK:∀(ps:List LP) (n:Nat),∀e∈jm o pt f n ps,∃p∈ps,∃k,e=⟨Ģ p (o p),p.uid,k,pt p,f k p⟩
 |[],_,e,h=>by cases h
 |p::r,n,e,h=>by
  rcases ĸ.mp h with rfl|h
  ·exact⟨p,Ů,n+1,rfl⟩
  ·obtain⟨q,hq,k,he⟩:=eK r (n+1) e h;exact⟨q,ũ _ hq,k,he⟩
theorem xq{t:Tr}(ps:List LP)(n:Nat):((jm o pt f n ps).filter fun e=>ć e.tr t).map (fun e=>V.int e.k)=b_ (fun k p=>ć (f k p) t) n ps:=by
 induction ps generalizing n with
 |nil=>
  exact rfl
 |cons p r IH=>
  have ih:=IH (n+1);show((_::jm o pt f (n+1) r).filter fun e=>ć e.tr t).map _=match ć (f (n+1) p) t with
   |true=>_
   |false=>_
  induction h:ć (f (n+1) p) t using ñ with
  |true=>rw[yF (p:=fun e:Ent=>ć e.tr t) h,Ŏ,ih]
  |false=>rw[yE (p:=fun e:Ent=>ć e.tr t) (by rw[h];decide),ih]
noncomputable def cB:List LP→Nat
 |[]=>0
 |[p]=>p.uid
 |_::p::r=>cB (p::r)
theorem qJ:∀(ps:List LP) (n:Nat),ps≠[]→kh (jm o pt f n ps)=.tup [.int (n+ps.length:Nat),.int (cB ps)]
 |[],_,h=>absurd rfl h
 |[p],n,_=>rfl
 |p::q::r,n,_=>by
  have ih:=qJ (q::r) (n+1) (by simp);have e:kh (jm o pt f n (p::q::r))=kh (jm o pt f (n+1) (q::r)):=by
   unfold kh;show(match(_::_::jm o pt f (n+1+1) r).getLast? with|some (e:Ent)=>V.tup [.int e.k,.int e.uid]|none=>.tup [.int 0,.int 0])=_;rw[List.getLast?_cons_cons];rfl
  rw[e,ih];have h2:n+1+(q::r).length=n+(p::q::r).length:=by simp only[ă];exact wV _ _
  rw[h2];rfl
end
theorem jc:∀(ps:List LP),ps≠[]→(∀p∈ps,p.uid≠0)→cB ps≠0
 |[],h,_=>absurd rfl h
 |[p],_,h=>h p Ů
 |_::p::r,_,h=>jc (p::r) (by simp) fun q hq=>h q (ũ _ hq)
theorem yj{t:Tr}(ho:t.ok)(hz:t.size<500)(hh:t.ĭ≤5)(ps:List LP)(hp:∀p∈ps,p.Ok∧p.uid≠0)(hl:ps.length<900):
  Ev Ê (.call 120 78 [Î t,.lst (ps.map Ü)] []) (⟨[],[],[]⟩,.val (.lst (b_ (fun k p=>Ď p k ps.length (cB ps) t) 0 ps))):=by
 have BK:=Œ t;have h:=nR (D:=117) ho hz (by exact î _ _) (jm (fun p=>.bytes (txt p.n p.s p.b)) (fun p=>if t.reads then Ġ p.n p.s p.b else .none) (fun k p=>Ā p k ps.length (cB ps)) 0 ps) (xp ps 0) ?_ (by rw[xo];exact è ‹_› (by decide)) ?_ ?_
 ·rw[HV,xq]at h;exact h
 ·intro e he;obtain⟨p,mM,k,rfl⟩:=eK ps 0 e he;exact⟨⟨_,rfl⟩,rfl⟩
 ·intro e he H;obtain⟨p,mM,k,rfl⟩:=eK ps 0 e he;have:=(hp p mM).1
  induction hr:t.reads using ñ with
  |true=>
   have c:=z7 (d:=34) (H:=H) this (k:=k);exact c
  |false=>
   have c:=wj (d:=114) (H:=H) (L:=Ü p) (k:=k) rfl;exact c
 ·intro e he H;obtain⟨p,mM,k,rfl⟩:=eK ps 0 e he;have dY:ps≠[]:=fun q=>by rw[q]at mM;cases mM
  rw[qJ ps 0 dY,eZ];obtain⟨d',hd⟩:∃d',117=d'+85+4*t.ĭ:=⟨32 - 4*t.ĭ,by omega⟩;rw[hd];refine lI (tr:=Ā p k ps.length (cB ps)) rfl rfl rfl ho fun l HG hn d H=>?_;have ZX:l.reads=true→t.reads=true:=fun q=>by
   rw[←BK,List.any_eq_true];exact⟨l,HG,q⟩
  exact Ng (d:=d) (H:=H) (hp p mM).1 (k:=k) (by induction ps using Ŭ<;>simp_all) (jc ps dY fun p h=>(hp p h).2) (r:=t.reads) l (aj t ho l HG) ZX hn
noncomputable def plainT:Tr:=.or (.leaf (.flag 3)) (.leaf (.uid [(2,0)]))
theorem yk(ps:List LP)(hp:∀p∈ps,p.Ok∧p.uid≠0)(hl:ps.length<900):
  Ev Ê (.call 120 78 [Î plainT,.lst (ps.map fun p=>Ģ p .none)] []) (⟨[],[],[]⟩,.val (.lst (b_ (fun k p=>Ď p k ps.length (cB ps) plainT) 0 ps))):=by
 have ho:plainT.ok:=⟨by show 3<4;exact Ĭ _,trivial⟩;have h:=nR (D:=117) ho (by decide) (by exact î _ _) (jm (fun p=>.none) (fun p=>.none) (fun k p=>Ā p k ps.length (cB ps)) 0 ps) (xp ps 0) ?_ (by rw[xo];exact è ‹_› (by decide)) ?_ ?_
 ·rw[HV,xq]at h;exact h
 ·intro e he;obtain⟨p,mM,k,rfl⟩:=eK ps 0 e he;exact⟨⟨_,rfl⟩,rfl⟩
 ·intro e he H;obtain⟨p,mM,k,rfl⟩:=eK ps 0 e he;exact wj (d:=114) (H:=H) (L:=Ģ p .none) (k:=k) rfl
 ·intro e he H;obtain⟨p,mM,k,rfl⟩:=eK ps 0 e he;have dY:ps≠[]:=fun q=>by rw[q]at mM;cases mM
  rw[qJ ps 0 dY,eZ];refine lI (d:=28) (tr:=Ā p k ps.length (cB ps)) (t:=plainT) rfl rfl rfl ho fun l HG hn d H=>?_;have hc:ps.length≠0:=by induction ps using Ŭ<;>simp_all
  have NW:=jc ps dY fun p h=>(hp p h).2
  have ZZ:l=.flag 3∨l=.uid [(2,0)]:=by
   have:l∈[Ŝ.flag 3,Ŝ.uid [(2,0)]]:=HG
   simpa using this
  rcases ZZ with rfl|rfl
  ·exact use2 (vd (d:=8) (H:=[]) (o:=.none) (k:=k) (by exact Ĭ _)) rfl rfl rfl
  ·exact use2 (yC (d:=8) (H:=[]) (o:=.none) (k:=k) hc NW _) rfl rfl rfl
theorem M_{p:LP}(hp:p.Ok){k count last:Nat}{t:Tr}(ho:t.ok)(hh:t.ĭ≤5):Ev Ê (.call (d+121) 90 [Î t,Ķ p,.int k,.int count,.int last] H) (⟨H,[],[]⟩,.val (.bool (Ď p k count last t))):=by
 obtain⟨d',hd⟩:∃d',120=d'+84+4*t.ĭ:=⟨36 - 4*t.ĭ,by omega⟩;have:=i9 hp (k:=k) (count:=count) (last:=last) t d' [] ho;rw[←hd]at this;exact Ek this rfl (by simp only[gI,Ī];rfl) rfl
end
structure bJ where
 cs:List Int
 g:Int
 st:Int
 pl:Int
structure bJ.Ok(p:bJ)(B:Int):Prop where
 g:0≤p.g
 s0:0≤p.st
 s1:p.st<2147483647
 p0:0≤p.pl
 p1:p.pl≤B
 l:p.cs.length≤40
theorem bJ.Ok.up{p:bJ}{B C:Int}(h:p.Ok B)(hl:B≤C):p.Ok C:=⟨h.g,h.s0,h.s1,h.p0,oQ h.p1 hl,h.l⟩
noncomputable def ð(p:bJ):List V:=[.lst (p.cs.map .int),.int p.g,.int p.st,.int p.pl]
theorem s8{n:Nat}{a b v:V}(h:bin n a b=some v):bin n a b=some v:=h
theorem eM{x y:Int}(h:(ĩ 0 y&&ĩ y jZ)=true):bin 4 (.int x) (.int y)=some (.int (x % y)):=if_pos h
theorem qN{x y:Int}(h:(ĩ 0 y&&ĩ y jZ)=true):bin 3 (.int x) (.int y)=some (.int (x / y)):=if_pos h
theorem UA(a b:V):bin 2 a b=(pI a b).bind fun p=>if ĩ p.1.natAbs big&&ĩ p.2.natAbs big then some (V.int (p.1*p.2))else none:=rfl
theorem JP(x y:Int):pI (.int x) (.int y)=some (x,y):=rfl
theorem kM{x y:Int}(h:(ĩ x.natAbs big&&ĩ y.natAbs big)=true):bin 2 (.int x) (.int y)=some (.int (x*y)):=by
 rw[UA,JP,bw,if_pos h]
theorem Ac:(10:Int)^300≤jZ:=by decide+kernel
theorem sb{m:Int}(h0:0<m)(h1:m≤10000000000):(ĩ 0 m&&ĩ m jZ)=true:=by
 rw[au];have:=Ac;have h2:(10000000000:Int)<(10:Int)^300:=by decide+kernel
 exact⟨decide_eq_true h0,decide_eq_true (by exact Int.lt_of_le_of_lt ‹_› (by decide))⟩
theorem mb{x y:Int}(h0:0≤x)(h1:x<10000000000)(h2:0≤y)(h3:y<10000000000):(ĩ x.natAbs big&&ĩ y.natAbs big)=true:=by
 rw[au];unfold ĩ big;exact⟨decide_eq_true (by omega),decide_eq_true (by omega)⟩
theorem v_{a b x y a' b':Cell}{T:List Cell}:(a::b::x::T).take (a'::b'::y::T).length=a::b::x::T:=sC (Ĭ _)
theorem rX{α β}(f:α→β):∀{l:List α} {i:Nat} {x:α},ç l i=some x→ç (l.map f) i=some (f x)
 |_::_,0,_,h=>by cases h;rfl
 |_::r,i+1,_,h=>rX f (l:=r) h
theorem F2{cs:List Int}{k:Int}{c:Int}(h0:0≤k)(h1:k<1000)(h:ç cs k.toNat=some c):item (.lst (cs.map .int)) (.int k)=some (.int c):=by
 have e1:ą k=true:=by
  unfold ą ĩ;rw[au];exact⟨decide_eq_true (by exact wW ‹_› (by decide)),decide_eq_true (by omega)⟩
 rw[fQ,if_pos e1];unfold at_;rw[if_neg (by unfold ĩ;rw[decide_eq_true_eq];exact bP.mpr ‹_›)];exact rX _ h
theorem rV{α}:∀{l:List α} {k:Nat},k<l.length→∃c,ç l k=some c
 |_::_,0,_=>⟨_,rfl⟩
 |_::r,k+1,h=>rV (l:=r) (Bi h)
theorem ý{p:bJ}{B:Int}(hp:p.Ok B)(hB:B<1000000){m:Nat}(h0:0<m)(h1:m≤100):∃(r:Nat) (p':bJ),A3 (r<m) (p'.Ok (B+1)) (∀(d:Nat) (a b:Cell) (T:List Cell),Ev Ê (.call (d+2) 80 [.Ó 2,.int m] (a::b::.lst (ð p)::T)) (⟨a::b::.lst (ð p')::T,[],[]⟩,.val (.int r))):=by
 obtain⟨cs,g,st,pl⟩:=p;obtain⟨q1,q2,q3,q4,q5,q6⟩:=hp;dsimp only at q1 q2 q3 q4 q5 q6;have hm:=sb (m:=m) (by exact ì [_] (.c (.a đ Á) Â .z) (.a đ Á) Â rfl (bx.mpr h0)) (by exact ì [_] (.c Â bN .z) Â (.n 10000000000) rfl (lS.mpr h1));have hr:∀x:Int,((x % m).toNat:Int)=x % m∧(x % m).toNat<m:=fun x=>by
  have a1:=Int.emod_nonneg x (show(m:Int)≠0 by exact fun eH=>si [_] (.c (.a đ Á) Â (.c Â đ .z)) rfl (bx.mpr h0) (Int.le_of_eq eH));have a2:=Int.emod_lt_of_pos x (show(0:Int)<m by exact ì [_] (.c (.a đ Á) Â .z) (.a đ Á) Â rfl (bx.mpr h0));constructor<;>omega
 have h5:gh 0 pl=true:=decide_eq_true q4
 induction hg:ĩ 0 g using ñ with
 |true=>
  refine⟨(g % m).toNat,⟨cs,g / m,st,pl+1⟩,(hr g).2,⟨Int.ediv_nonneg q1 (by exact jG _),q2,q3,by show 0≤pl+1;exact ì [_] (.c đ Â .z) đ (.a Â Á) rfl q4,by show pl+1≤B+1;exact ì [_,_] (.c Â È .z) (.a Â Á) (.a È Á) rfl q5,q6⟩,fun d a b T=>?_⟩;rw[(hr g).1];apply É (S:=⟨a::b::.lst (ð ⟨cs,g,st,pl⟩)::T,[some (.Ó 2),some (.int m),none,none],[]⟩) rfl rfl
  repeat1' ((with_reducible apply s8);first|with_reducible exact eM hm|with_reducible exact qN hm)
 |false=>
  have m1:=kM (mb q2 (by exact wW ‹_› (by decide)) (show(0:Int)≤16807 by decide) (by decide));have m2:=kM (mb q4 (by exact ì [_,_] (.c (.a È Á) Ù (.c Â È .z)) (.a Â Á) (.n 10000000000) rfl hB q5) q4 (by exact ì [_,_] (.c (.a È Á) Ù (.c Â È .z)) (.a Â Á) (.n 10000000000) rfl hB q5));have m3:=sb (m:=2147483647) (by decide) (by decide);have m4:=sb (m:=5) (by decide) (by decide);have hl:=bW (l:=cs.map V.int) (by rw[ĕ];exact ń ‹_› (by decide));rw[ĕ]at hl;have s1:=Int.emod_nonneg (st*16807+pl*pl+5) (show(2147483647:Int)≠0 by decide);have s2:=Int.emod_lt_of_pos (st*16807+pl*pl+5) (show(0:Int)<2147483647 by decide);generalize cM:(st*16807+pl*pl+5) % 2147483647=ĉ at s1 s2
  induction hc:ĩ pl cs.length using ñ with
  |true=>
   have Ga:pl<cs.length:=of_decide_eq_true hc;obtain⟨c,hn⟩:=rV (show pl.toNat<cs.length by omega);have hi:=F2 q4 (by exact ì [_,_] (.c È (.n 40) (.c (.a Â Á) È .z)) (.a Â Á) aV rfl (lS.mpr q6) Ga) hn;refine⟨(c % m).toNat,⟨cs,g,ĉ,pl+1⟩,(hr c).2,⟨q1,s1,s2,by show 0≤pl+1;exact ì [_] (.c đ Â .z) đ (.a Â Á) rfl q4,by show pl+1≤B+1;exact ì [_,_] (.c Â È .z) (.a Â Á) (.a È Á) rfl q5,q6⟩,fun d a b T=>?_⟩;rw[(hr c).1,←cM];apply É (S:=⟨a::b::.lst (ð ⟨cs,g,st,pl⟩)::T,[some (.Ó 2),some (.int m),none,none],[]⟩) rfl rfl
   repeat1' ((with_reducible apply s8);first|with_reducible exact eM hm|with_reducible exact eM m3|with_reducible exact m1|with_reducible exact m2)
  |false=>
   refine⟨(ĉ / 5 % m).toNat,⟨cs,g,ĉ,pl+1⟩,(hr _).2,⟨q1,s1,s2,by show 0≤pl+1;exact ì [_] (.c đ Â .z) đ (.a Â Á) rfl q4,by show pl+1≤B+1;exact ì [_,_] (.c Â È .z) (.a Â Á) (.a È Á) rfl q5,q6⟩,fun d a b T=>?_⟩;rw[(hr _).1,←cM];apply É (S:=⟨a::b::.lst (ð ⟨cs,g,st,pl⟩)::T,[some (.Ó 2),some (.int m),none,none],[]⟩) rfl rfl
   repeat1' ((with_reducible apply s8);first|with_reducible exact eM hm|with_reducible exact eM m3|with_reducible exact qN m4|with_reducible exact m1|with_reducible exact m2)
section
variable{P:ċ}{d:Nat}{S:St}{a b x y z a' b' x':Cell}{T T' X:List Cell}{ρ κ ß ê:List (Option V)}{es:List PE}{vs vs' l:List V}
theorem V3(h1:Ev P (.bZ d es S) (⟨a::b::x::T,ρ,κ⟩,.vals vs))(h2:Ē (a::b::x::T) vs=some (a'::b'::x'::T',vs'))(h3:small vs'=true):Ev P (.ev d (.li es) S) (⟨a'::b'::x'::(T'++[.lst vs']),ρ,κ⟩,.val (.Ó (T'.length+3))):=i8 h1 h2 h3
theorem Fg:ç (a::b::x::(T++[y])) (T.length+3)=some y:=ē T y
theorem put3:put (a::b::x::(T++[y])) (T.length+3) z=a::b::x::(T++[z]):=by
 show a::b::x::put (T++[y]) T.length z=_;rw[kn]
theorem Gk:Ô (a::b::x::(T++[.lst l])) (.Ó (T.length+3))=some (a::b::x::(T++[.Ô (.lst l)]),.lst l):=by
 simp only[Ô,Fg,put3,bO,bw,fg,az]
theorem HS:Ē (a::b::x::(T++[.lst l])) [.Ó (T.length+3)]=some (a::b::x::(T++[.Ô (.lst l)]),[.lst l]):=by simp only[Ē,Gk,bO,bw,fg,az]
theorem vZ:view (a::b::x::(T++[.lst l])) (.Ó (T.length+3))=some (.lst l):=by simp only[view,Fg,bO,bw,fg,az]
theorem xm:fields (a::b::x::(T++[.lst l])) (.Ó (T.length+3))=none:=by unfold fields;rw[vZ];rfl
theorem Nv:kd 7 (view (a::b::x::(T++[.lst l])) (.Ó (T.length+3)))=9:=by rw[vZ];rfl
theorem take3:(a::b::x::(T++X)).take (a'::b'::x'::T).length=a::b::x::T:=by
 show a::b::x::(T++X).take T.length=_;rw[List.take_left]
end
theorem z5{p:bJ}{B:Int}(hp:p.Ok B)(hB:B+10<1000000){m:Nat}(hm:m≤50):∃(ps:List (Nat×Nat)) (p':bJ),p'.Ok (B+5)∧
  ∀(d:Nat) (a b:Cell) (T:List Cell),Ev Ê (.call (d+5) 83 [.Ó 2,.int m] (a::b::.lst (ð p)::T)) (⟨a::b::.lst (ð p')::T,[],[]⟩,.val (kX ps)):=by
 obtain⟨r0,p0,h0,o0,c0⟩:=ý hp (by exact ì [_] (.c (.a (.a Â lA) Á) Ù .z) (.a Â Á) Ù rfl hB) (m:=2) (by exact ī _) (by exact î _ _);obtain⟨r1,p1,h1,o1,c1⟩:=ý o0 (by exact ì [_] (.c (.a (.a Â lA) Á) Ù .z) (.a (.a Â Á) Á) Ù rfl hB) (m:=m+2) (by exact ī _) (by exact â [_] (.c Â bt .z) (.a Â Ĵ) bN rfl hm);obtain⟨r2,p2,h2,o2,c2⟩:=ý o1 (by exact ì [_] (.c (.a (.a Â lA) Á) Ù .z) (.a (.a (.a Â Á) Á) Á) Ù rfl hB) (m:=m+2) (by exact ī _) (by exact â [_] (.c Â bt .z) (.a Â Ĵ) bN rfl hm);obtain⟨r3,p3,h3,o3,c3⟩:=ý o2 (by exact ì [_] (.c (.a (.a Â lA) Á) Ù .z) (.a (.a (.a (.a Â Á) Á) Á) Á) Ù rfl hB) (m:=m+2) (by exact ī _) (by exact â [_] (.c Â bt .z) (.a Â Ĵ) bN rfl hm);obtain⟨r4,p4,h4,o4,c4⟩:=ý o3 (by exact ì [_] (.c (.a (.a Â lA) Á) Ù .z) (.a (.a (.a (.a (.a Â Á) Á) Á) Á) Á) Ù rfl hB) (m:=m+2) (by exact ī _) (by exact â [_] (.c Â bt .z) (.a Â Ĵ) bN rfl hm);have e2:((m+2:Nat):Int)=(m:Int)+2:=rfl;rw[e2]at c1 c2 c3 c4
 match r0,h0 with
 |0,_=>
  refine⟨[(r1,r2)],p2,o2.up (by exact ì [_] .z (.a (.a (.a Â Á) Á) Á) (.a Â jB) rfl),fun d a b T=>?_⟩;replace c0:=fun d=>c0 d a b (T++[.lst []])
  replace c1:=fun d=>c1 d a b (T++[.lst []])
  replace c2:=fun d=>c2 d a b (T++[.lst []])
  apply É (S:=⟨a::b::.lst (ð p)::T,[some (.Ó 2),some (.int m),none,none],[]⟩) rfl rfl
  repeat1' first|apply V3|apply mO|exact ug|apply bS|(apply Ò;apply bS)|apply Ő
 |1,_=>
  refine⟨[(r1,r2),(r3,r4)],p4,o4.up (by exact ì [_] .z (.a (.a (.a (.a (.a Â Á) Á) Á) Á) Á) (.a Â jB) rfl),fun d a b T=>?_⟩;replace c0:=fun d=>c0 d a b (T++[.lst []])
  replace c1:=fun d=>c1 d a b (T++[.lst []])
  replace c2:=fun d=>c2 d a b (T++[.lst []])
  replace c3:=fun d=>c3 d a b (T++[.lst [.tup [.int r1,.int r2]]])
  replace c4:=fun d=>c4 d a b (T++[.lst [.tup [.int r1,.int r2]]])
  apply É (S:=⟨a::b::.lst (ð p)::T,[some (.Ó 2),some (.int m),none,none],[]⟩) rfl rfl
  repeat1' first|apply V3|apply mO|exact ug|apply bS|(apply Ò;apply bS)|apply Ő
 |r+2,h=>exact absurd h (by exact Ũ (î _ _))
end
section
set_option maxRecDepth 100000
set_option maxHeartbeats 1000000
theorem Gr{r:Nat}(h:r<4):item (.tup [.str rO,.str rQ,.str rN,.str [107,119]]) (.int r)=some (.str (Æ Ŕ r)):=by
 match r,h with
 |0,_=>rfl
 |1,_=>rfl
 |2,_=>rfl
 |3,_=>rfl
 |r+4,h=>exact absurd h (by exact Ũ (î _ _))
theorem fV{r:Nat}(h:r<4):item (.tup [.tup [.tup [.int 1969,.int 12,.int 31],.int (-1)],.tup [.tup [.int 1994,.int 2,.int 1],.int 8797],.tup [.tup [.int 1994,.int 2,.int 2],.int 8798],.tup [.tup [.int 2000,.int 2,.int 29],.int 11016]]) (.int r)=some (.tup [ã r,.int (GB r)]):=by
 match r,h with
 |0,_=>rfl
 |1,_=>rfl
 |2,_=>rfl
 |3,_=>rfl
 |r+4,h=>exact absurd h (by exact Ũ (î _ _))
theorem uQ{r:Nat}(h:r<8):item (.tup [.bytes [84,69,65],.bytes [110,111,111,110],.bytes lu,.bytes Av,.bytes [],.bytes Ax,.bytes [101],.bytes [122,122]]) (.int r)=some (.bytes (Æ ø r)):=by
 match r,h with
 |0,_=>rfl
 |1,_=>rfl
 |2,_=>rfl
 |3,_=>rfl
 |4,_=>rfl
 |5,_=>rfl
 |6,_=>rfl
 |7,_=>rfl
 |r+8,h=>exact absurd h (by exact Ũ (î _ _))
theorem Ą{H:List Cell}{w:List Nat}{i:Nat}(h:i<4):Ē H [.str w,ã i]=some (H,[.str w,ã i]):=by
 obtain⟨x,y,z,e⟩:=ş h;rw[e];rfl
theorem lM{p:bJ}{B:Int}(hp:p.Ok B)(hB:B+20<1000000):∃(l:Ŝ) (p':bJ),A3 l.ok (p'.Ok (B+7)) (∀(d:Nat) (a b:Cell) (T:List Cell),Ev Ê (.call (d+9) 85 [.Ó 2] (a::b::.lst (ð p)::T)) (⟨a::b::.lst (ð p')::T,[],[]⟩,.val (Ú l))):=by
 obtain⟨r0,p0,h0,o0,c0⟩:=ý hp (by exact ì [_] (.c (.a (.a Â ŧ) Á) Ù .z) (.a Â Á) Ù rfl hB) (m:=16) (by exact ī _) (by exact î _ _)
 match r0,h0 with
 |0,_=>
  obtain⟨r1,p1,h1,o1,c1⟩:=ý o0 (by exact ì [_] (.c (.a (.a Â ŧ) Á) Ù .z) (.a (.a Â Á) Á) Ù rfl hB) (m:=4) (by exact ī _) (by exact î _ _);refine⟨.flag r1,p1,h1,o1.up (by exact ì [_] .z (.a (.a Â Á) Á) (.a Â ĵ) rfl),fun d a b T=>?_⟩;have q1:=Gr h1;apply É (S:=⟨a::b::.lst (ð p)::T,[some (.Ó 2),none,none],[]⟩) rfl rfl
  repeat1' with_reducible exact Ą h1
 |1,_=>
  obtain⟨r1,p1,h1,o1,c1⟩:=ý o0 (by exact ì [_] (.c (.a (.a Â ŧ) Á) Ù .z) (.a (.a Â Á) Á) Ù rfl hB) (m:=50) (by exact ī _) (by exact î _ _);refine⟨.aK (20+r1),p1,trivial,o1.up (by exact ì [_] .z (.a (.a Â Á) Á) (.a Â ĵ) rfl),fun d a b T=>?_⟩;apply É (S:=⟨a::b::.lst (ð p)::T,[some (.Ó 2),none,none],[]⟩) rfl rfl
  repeat1' with_reducible exact Ą h1
 |2,_=>
  obtain⟨r1,p1,h1,o1,c1⟩:=ý o0 (by exact ì [_] (.c (.a (.a Â ŧ) Á) Ù .z) (.a (.a Â Á) Á) Ù rfl hB) (m:=50) (by exact ī _) (by exact î _ _);refine⟨.Ť (20+r1),p1,trivial,o1.up (by exact ì [_] .z (.a (.a Â Á) Á) (.a Â ĵ) rfl),fun d a b T=>?_⟩;apply É (S:=⟨a::b::.lst (ð p)::T,[some (.Ó 2),none,none],[]⟩) rfl rfl
  repeat1' with_reducible exact Ą h1
 |3,_=>
  obtain⟨r1,p1,h1,o1,c1⟩:=ý o0 (by exact ì [_] (.c (.a (.a Â ŧ) Á) Ù .z) (.a (.a Â Á) Á) Ù rfl hB) (m:=10) (by exact ī _) (by exact î _ _);refine⟨.aI r1,p1,trivial,o1.up (by exact ì [_] .z (.a (.a Â Á) Á) (.a Â ĵ) rfl),fun d a b T=>?_⟩;apply É (S:=⟨a::b::.lst (ð p)::T,[some (.Ó 2),none,none],[]⟩) rfl rfl
  repeat1' with_reducible exact Ą h1
 |4,_=>
  obtain⟨ps,p1,o1,c1⟩:=z5 o0 (by exact ì [_] (.c (.a (.a Â ŧ) Á) Ù .z) (.a (.a (.a Â Á) lA) Á) Ù rfl hB) (m:=5) (by exact î _ _);refine⟨.seq ps,p1,trivial,o1.up (by exact ì [_] .z (.a (.a Â Á) jB) (.a Â ĵ) rfl),fun d a b T=>?_⟩;apply É (S:=⟨a::b::.lst (ð p)::T,[some (.Ó 2),none,none],[]⟩) rfl rfl
  repeat1' with_reducible exact Ą h1
 |5,_=>
  obtain⟨ps,p1,o1,c1⟩:=z5 o0 (by exact ì [_] (.c (.a (.a Â ŧ) Á) Ù .z) (.a (.a (.a Â Á) lA) Á) Ù rfl hB) (m:=14) (by exact î _ _);refine⟨.uid ps,p1,trivial,o1.up (by exact ì [_] .z (.a (.a Â Á) jB) (.a Â ĵ) rfl),fun d a b T=>?_⟩;apply É (S:=⟨a::b::.lst (ð p)::T,[some (.Ó 2),none,none],[]⟩) rfl rfl
  repeat1' with_reducible exact Ą h1
 |6,_=>
  obtain⟨r1,p1,h1,o1,c1⟩:=ý o0 (by exact ì [_] (.c (.a (.a Â ŧ) Á) Ù .z) (.a (.a Â Á) Á) Ù rfl hB) (m:=4) (by exact ī _) (by exact î _ _);refine⟨.day 0 r1,p1,⟨by exact ī _,h1⟩,o1.up (by exact ì [_] .z (.a (.a Â Á) Á) (.a Â ĵ) rfl),fun d a b T=>?_⟩;have q1:=fV h1;apply É (S:=⟨a::b::.lst (ð p)::T,[some (.Ó 2),none,none],[]⟩) rfl rfl
  repeat1' with_reducible exact Ą h1
 |7,_=>
  obtain⟨r1,p1,h1,o1,c1⟩:=ý o0 (by exact ì [_] (.c (.a (.a Â ŧ) Á) Ù .z) (.a (.a Â Á) Á) Ù rfl hB) (m:=4) (by exact ī _) (by exact î _ _);refine⟨.day 1 r1,p1,⟨by exact Nat.le_succ _,h1⟩,o1.up (by exact ì [_] .z (.a (.a Â Á) Á) (.a Â ĵ) rfl),fun d a b T=>?_⟩;have q1:=fV h1;apply É (S:=⟨a::b::.lst (ð p)::T,[some (.Ó 2),none,none],[]⟩) rfl rfl
  repeat1' with_reducible exact Ą h1
 |8,_=>
  obtain⟨r1,p1,h1,o1,c1⟩:=ý o0 (by exact ì [_] (.c (.a (.a Â ŧ) Á) Ù .z) (.a (.a Â Á) Á) Ù rfl hB) (m:=4) (by exact ī _) (by exact î _ _);refine⟨.day 2 r1,p1,⟨by exact Ĭ _,h1⟩,o1.up (by exact ì [_] .z (.a (.a Â Á) Á) (.a Â ĵ) rfl),fun d a b T=>?_⟩;have q1:=fV h1;apply É (S:=⟨a::b::.lst (ð p)::T,[some (.Ó 2),none,none],[]⟩) rfl rfl
  repeat1' with_reducible exact Ą h1
 |9,_=>
  obtain⟨r1,p1,h1,o1,c1⟩:=ý o0 (by exact ì [_] (.c (.a (.a Â ŧ) Á) Ù .z) (.a (.a Â Á) Á) Ù rfl hB) (m:=4) (by exact ī _) (by exact î _ _);refine⟨.gQ 0 r1,p1,⟨by exact ī _,h1⟩,o1.up (by exact ì [_] .z (.a (.a Â Á) Á) (.a Â ĵ) rfl),fun d a b T=>?_⟩;have q1:=fV h1;apply É (S:=⟨a::b::.lst (ð p)::T,[some (.Ó 2),none,none],[]⟩) rfl rfl
  repeat1' with_reducible exact Ą h1
 |10,_=>
  obtain⟨r1,p1,h1,o1,c1⟩:=ý o0 (by exact ì [_] (.c (.a (.a Â ŧ) Á) Ù .z) (.a (.a Â Á) Á) Ù rfl hB) (m:=4) (by exact ī _) (by exact î _ _);refine⟨.gQ 1 r1,p1,⟨by exact Nat.le_succ _,h1⟩,o1.up (by exact ì [_] .z (.a (.a Â Á) Á) (.a Â ĵ) rfl),fun d a b T=>?_⟩;have q1:=fV h1;apply É (S:=⟨a::b::.lst (ð p)::T,[some (.Ó 2),none,none],[]⟩) rfl rfl
  repeat1' with_reducible exact Ą h1
 |11,_=>
  obtain⟨r1,p1,h1,o1,c1⟩:=ý o0 (by exact ì [_] (.c (.a (.a Â ŧ) Á) Ù .z) (.a (.a Â Á) Á) Ù rfl hB) (m:=4) (by exact ī _) (by exact î _ _);refine⟨.gQ 2 r1,p1,⟨by exact Ĭ _,h1⟩,o1.up (by exact ì [_] .z (.a (.a Â Á) Á) (.a Â ĵ) rfl),fun d a b T=>?_⟩;have q1:=fV h1;apply É (S:=⟨a::b::.lst (ð p)::T,[some (.Ó 2),none,none],[]⟩) rfl rfl
  repeat1' with_reducible exact Ą h1
 |12,_=>
  obtain⟨r1,p1,h1,o1,c1⟩:=ý o0 (by exact ì [_] (.c (.a (.a Â ŧ) Á) Ù .z) (.a (.a Â Á) Á) Ù rfl hB) (m:=8) (by exact ī _) (by exact î _ _);refine⟨.header r1,p1,h1,o1.up (by exact ì [_] .z (.a (.a Â Á) Á) (.a Â ĵ) rfl),fun d a b T=>?_⟩;have q1:=uQ h1;apply É (S:=⟨a::b::.lst (ð p)::T,[some (.Ó 2),none,none],[]⟩) rfl rfl
  repeat1' with_reducible exact Ą h1
 |13,_=>
  obtain⟨r1,p1,h1,o1,c1⟩:=ý o0 (by exact ì [_] (.c (.a (.a Â ŧ) Á) Ù .z) (.a (.a Â Á) Á) Ù rfl hB) (m:=8) (by exact ī _) (by exact î _ _);refine⟨.text r1,p1,h1,o1.up (by exact ì [_] .z (.a (.a Â Á) Á) (.a Â ĵ) rfl),fun d a b T=>?_⟩;have q1:=uQ h1;apply É (S:=⟨a::b::.lst (ð p)::T,[some (.Ó 2),none,none],[]⟩) rfl rfl
  repeat1' with_reducible exact Ą h1
 |14,_=>
  obtain⟨r1,p1,h1,o1,c1⟩:=ý o0 (by exact ì [_] (.c (.a (.a Â ŧ) Á) Ù .z) (.a (.a Â Á) Á) Ù rfl hB) (m:=8) (by exact ī _) (by exact î _ _);refine⟨.body r1,p1,h1,o1.up (by exact ì [_] .z (.a (.a Â Á) Á) (.a Â ĵ) rfl),fun d a b T=>?_⟩;have q1:=uQ h1;apply É (S:=⟨a::b::.lst (ð p)::T,[some (.Ó 2),none,none],[]⟩) rfl rfl
  repeat1' with_reducible exact Ą h1
 |15,_=>
  refine⟨.all,p0,trivial,o0.up (by exact Int.add_le_add_left (by decide) _),fun d a b T=>?_⟩;apply É (S:=⟨a::b::.lst (ð p)::T,[some (.Ó 2),none,none],[]⟩) rfl rfl
  repeat1' with_reducible exact Ą h1
 |r+16,h=>exact absurd h (by exact Ũ (î _ _))
end
section
set_option maxRecDepth 100000
set_option maxHeartbeats 4000000
set_option maxHeartbeats 1000000
theorem ue{l:List V}:Ð (.tup l)=true:=rfl
theorem dh{H:List Cell}{w:List Nat}{x:V}(h:Ð x=true):Ē H [.str w,x]=some (H,[.str w,x]):=eJ (by simp only[gI,h];rfl)
theorem dg{H:List Cell}{w:List Nat}{x y:V}(h:Ð x=true)(h2:Ð y=true):Ē H [.str w,x,y]=some (H,[.str w,x,y]):=eJ (by simp only[gI,h,h2];rfl)
section
variable{P:ċ}{d:Nat}{S:St}{a b x a' b' x' a2 b2 x2:Cell}{T T' T2:List Cell}{ρ κ Ŗ ĺ:List (Option V)}{elt it:PE}{ifs:List PE}{tg:List Nat}{v v':V}{vs l:List V}{n:Nat}
theorem GJ(h1:Ev P (.ev (d+1) it S) (⟨a::b::x::T,ρ,κ⟩,.val v))(h2:Ô (a::b::x::T) v=some (a'::b'::x'::T',v'))(h3:items v'=some l)(h4:Ev P (.fj d elt tg ifs l [] ⟨a'::b'::x'::T',ĥ n none,κ⟩) (⟨a2::b2::x2::T2,Ŗ,ĺ⟩,.vals vs)):
  Ev P (.ev (d+1) (.co elt tg it ifs n) S) (⟨a2::b2::x2::(T2++[.lst vs]),ρ,ĺ⟩,.val (.Ó (T2.length+3))):=lj h1 h2 h3 h4
end
theorem zP{p:bJ}{B:Int}(hp:p.Ok B)(hB:B+50<1000000):∃(t:Tr) (p':bJ),A3 (A3 t.ok (t.size<500) (t.ĭ≤5)) (p'.Ok (B+25)) (∀(d:Nat) (a b:Cell) (T:List Cell),Ev Ê (.call (d+13) 86 [.Ó 2] (a::b::.lst (ð p)::T)) (⟨a::b::.lst (ð p')::T,[],[]⟩,.val (Î t))):=by
 obtain⟨l1,p1,k1,o1,c1⟩:=lM hp (by exact ì [_] (.c (.a (.a Â bt) Á) Ù .z) (.a (.a Â ŧ) Á) Ù rfl hB);obtain⟨l2,p2,k2,o2,c2⟩:=lM o1 (by exact ì [_] (.c (.a (.a Â bt) Á) Ù .z) (.a (.a (.a Â ĵ) ŧ) Á) Ù rfl hB);obtain⟨l3,p3,k3,o3,c3⟩:=lM o2 (by exact ì [_] (.c (.a (.a Â bt) Á) Ù .z) (.a (.a (.a (.a Â ĵ) ĵ) ŧ) Á) Ù rfl hB);obtain⟨r4,p4,h4,o4,c4⟩:=ý o3 (by exact ì [_] (.c (.a (.a Â bt) Á) Ù .z) (.a (.a (.a (.a Â ĵ) ĵ) ĵ) Á) Ù rfl hB) (m:=2) (by exact ī _) (by exact î _ _);obtain⟨r5,p5,h5,o5,c5⟩:=ý o4 (by exact ì [_] (.c (.a (.a Â bt) Á) Ù .z) (.a (.a (.a (.a (.a Â ĵ) ĵ) ĵ) Á) Á) Ù rfl hB) (m:=4) (by exact ī _) (by exact î _ _)
 match r4,h4 with
 |0,_=>
  match r5,h5 with
  |0,_=>
   refine⟨.leaf l1,p5,⟨k1,by simp only[Tr.size];decide,by simp only[Tr.ĭ];decide⟩,o5.up (by exact ì [_] .z (.a (.a (.a (.a (.a Â ĵ) ĵ) ĵ) Á) Á) (.a Â jD) rfl),fun d a b T=>?_⟩;apply É (S:=⟨a::b::.lst (ð p)::T,[none,none],[some (.Ó 2)]⟩) rfl rfl
   repeat1' first|apply GJ|apply ke|exact i_|apply Ő|exact œ (í _) _|((with_reducible apply dh);first|exact í _|exact ue)|((with_reducible apply dg)<;>first|exact í _|exact ue)
  |1,_=>
   refine⟨.an (.leaf l1) (.leaf l2),p5,⟨⟨k1,k2,rfl⟩,by simp only[Tr.size];decide,by simp only[Tr.ĭ];decide⟩,o5.up (by exact ì [_] .z (.a (.a (.a (.a (.a Â ĵ) ĵ) ĵ) Á) Á) (.a Â jD) rfl),fun d a b T=>?_⟩;apply É (S:=⟨a::b::.lst (ð p)::T,[none,none],[some (.Ó 2)]⟩) rfl rfl
   repeat1' first|apply GJ|apply ke|exact i_|apply Ő|exact œ (í _) _|((with_reducible apply dh);first|exact í _|exact ue)|((with_reducible apply dg)<;>first|exact í _|exact ue)
  |2,_=>
   refine⟨.or (.an (.leaf l1) (.leaf l2)) (.leaf l3),p5,⟨⟨⟨k1,k2,rfl⟩,k3⟩,by simp only[Tr.size];decide,by simp only[Tr.ĭ];decide⟩,o5.up (by exact ì [_] .z (.a (.a (.a (.a (.a Â ĵ) ĵ) ĵ) Á) Á) (.a Â jD) rfl),fun d a b T=>?_⟩;apply É (S:=⟨a::b::.lst (ð p)::T,[none,none],[some (.Ó 2)]⟩) rfl rfl
   repeat1' first|apply GJ|apply ke|exact i_|apply Ő|exact œ (í _) _|((with_reducible apply dh);first|exact í _|exact ue)|((with_reducible apply dg)<;>first|exact í _|exact ue)
  |3,_=>
   refine⟨.nt (.or (.leaf l1) (.nt (.leaf l2))),p5,⟨⟨k1,k2⟩,by simp only[Tr.size];decide,by simp only[Tr.ĭ];decide⟩,o5.up (by exact ì [_] .z (.a (.a (.a (.a (.a Â ĵ) ĵ) ĵ) Á) Á) (.a Â jD) rfl),fun d a b T=>?_⟩;apply É (S:=⟨a::b::.lst (ð p)::T,[none,none],[some (.Ó 2)]⟩) rfl rfl
   repeat1' first|apply GJ|apply ke|exact i_|apply Ő|exact œ (í _) _|((with_reducible apply dh);first|exact í _|exact ue)|((with_reducible apply dg)<;>first|exact í _|exact ue)
  |r+4,h=>exact absurd h (by exact Ũ (î _ _))
 |1,_=>
  match r5,h5 with
  |0,_=>
   refine⟨.nt (.leaf l1),p5,⟨k1,by simp only[Tr.size];decide,by simp only[Tr.ĭ];decide⟩,o5.up (by exact ì [_] .z (.a (.a (.a (.a (.a Â ĵ) ĵ) ĵ) Á) Á) (.a Â jD) rfl),fun d a b T=>?_⟩;apply É (S:=⟨a::b::.lst (ð p)::T,[none,none],[some (.Ó 2)]⟩) rfl rfl
   repeat1' first|apply GJ|apply ke|exact i_|apply Ő|exact œ (í _) _|((with_reducible apply dh);first|exact í _|exact ue)|((with_reducible apply dg)<;>first|exact í _|exact ue)
  |1,_=>
   refine⟨.an (.nt (.leaf l1)) (.leaf l2),p5,⟨⟨k1,k2,rfl⟩,by simp only[Tr.size];decide,by simp only[Tr.ĭ];decide⟩,o5.up (by exact ì [_] .z (.a (.a (.a (.a (.a Â ĵ) ĵ) ĵ) Á) Á) (.a Â jD) rfl),fun d a b T=>?_⟩;apply É (S:=⟨a::b::.lst (ð p)::T,[none,none],[some (.Ó 2)]⟩) rfl rfl
   repeat1' first|apply GJ|apply ke|exact i_|apply Ő|exact œ (í _) _|((with_reducible apply dh);first|exact í _|exact ue)|((with_reducible apply dg)<;>first|exact í _|exact ue)
  |2,_=>
   refine⟨.or (.an (.nt (.leaf l1)) (.leaf l2)) (.leaf l3),p5,⟨⟨⟨k1,k2,rfl⟩,k3⟩,by simp only[Tr.size];decide,by simp only[Tr.ĭ];decide⟩,o5.up (by exact ì [_] .z (.a (.a (.a (.a (.a Â ĵ) ĵ) ĵ) Á) Á) (.a Â jD) rfl),fun d a b T=>?_⟩;apply É (S:=⟨a::b::.lst (ð p)::T,[none,none],[some (.Ó 2)]⟩) rfl rfl
   repeat1' first|apply GJ|apply ke|exact i_|apply Ő|exact œ (í _) _|((with_reducible apply dh);first|exact í _|exact ue)|((with_reducible apply dg)<;>first|exact í _|exact ue)
  |3,_=>
   refine⟨.nt (.or (.nt (.leaf l1)) (.nt (.leaf l2))),p5,⟨⟨k1,k2⟩,by simp only[Tr.size];decide,by simp only[Tr.ĭ];decide⟩,o5.up (by exact ì [_] .z (.a (.a (.a (.a (.a Â ĵ) ĵ) ĵ) Á) Á) (.a Â jD) rfl),fun d a b T=>?_⟩;apply É (S:=⟨a::b::.lst (ð p)::T,[none,none],[some (.Ó 2)]⟩) rfl rfl
   repeat1' first|apply GJ|apply ke|exact i_|apply Ő|exact œ (í _) _|((with_reducible apply dh);first|exact í _|exact ue)|((with_reducible apply dg)<;>first|exact í _|exact ue)
  |r+4,h=>exact absurd h (by exact Ũ (î _ _))
 |r+2,h=>exact absurd h (by exact Ũ (î _ _))
end
section
set_option maxRecDepth 100000
set_option maxHeartbeats 4000000
section
variable{d:Nat}{H:List Cell}
theorem ur{l:List Nat}(h:(∀c∈l,c<256)):iY (l.map fun (c:Nat)=>V.int c)=some l:=by
 induction l with
 |nil=>
  exact rfl
 |cons c l IH=>
  have h1:=h c Ů;have e:(gh 0 (c:Int)&&ĩ (c:Int) 256)=true:=by
   rw[au];exact⟨decide_eq_true (by exact jG _),decide_eq_true (by exact bx.mpr (ip ‹_› (by decide)))⟩
  show(if gh 0 (c:Int)&&ĩ (c:Int) 256 then(iY (l.map fun (c:Nat)=>V.int c)).map ((c:Int).toNat:: ·)else none)=_;rw[if_pos e,IH fun x hx=>h x (ũ _ hx)];rfl
theorem JT{κ:List (Option V)}(l:List Nat)(acc:List V)(x:Option V)(y:Option V)(hl:acc.length+l.length<1000000):T2 fun x' y'=>Ev Ê (.fj d (.bl 3 [.l 1]) [1] [] (l.map fun c=>.str [c]) acc ⟨H,[x,y],κ⟩) (⟨H,[x',y'],κ⟩,.vals (acc.reverse++l.map fun (c:Nat)=>.int c)):=by
 induction l generalizing acc x y with
 |nil=>
  exact⟨x,y,by simp only[fN,Ŵ];exact i_⟩
 |cons c l IH=>
  rw[ă]at hl;obtain⟨x',y',ih⟩:=IH (.int c::acc) x (some (.str [c])) (by rw[ă];exact â [_,_] (.c (.a (.a Â (.a È Á)) Á) Ù .z) (.a (.a (.a Â Á) È) Á) Ù rfl hl);refine⟨x',y',?_⟩;rw[ar,Ĝ]at ih;rw[Ŏ,Ŏ];apply ke
  ·exact é (by exact ń (Ż _ _) ‹_›)
  ·walk_at "w"
  ·exact gP
  ·walk_at "w"
  ·rfl
  ·exact ih
theorem yt{l:List Nat}(h:∀c∈l,c<256)(hl:l.length<1000000):Ev Ê (.call (d+4) 81 [.str l] H) (⟨H,[],[]⟩,.val (.bytes l)):=by
 obtain⟨x',y',c⟩:=JT (d:=d+2) (H:=H) (κ:=[]) l [] none none (by rw[cC];exact â [_] (.c (.a Â Á) Ù .z) (.a (.a đ Â) Á) Ù rfl hl);have hb:blt 8 [.lst (l.map fun (c:Nat)=>.int c)]=some (.bytes l):=by
  show(if small _ then(iY _).map V.bytes else none)=_;rw[if_pos (é (by rw[ĕ];assumption)),ur h];rfl
 rw[oq,jF]at c;apply É (S:=⟨H,[some (.str l)],[]⟩) rfl rfl;walk_at "w"
theorem Er:allB (fun n=>allB (fun s=>allB (fun b=>(txt n s b).all (fun c=>ď c 256)&&ď (txt n s b).length 1000) 4) 4) 6=true:=by kernel_rfl
theorem zN{n s b:Nat}(hn:n<6)(hs:s<4)(hb:b<4):(∀c∈txt n s b,c<256)∧(txt n s b).length<1000:=by
 have h:=CT (f:=fun n s b=>(txt n s b).all (fun c=>ď c 256)&&ď (txt n s b).length 1000) Er hn hs hb;rw[au,kg]at h;exact⟨fun c hc=>by rw[←bR];exact h.1 c hc,by rw[←bR];exact h.2⟩
theorem bs{x y:List Nat}(hx:x.length<1000000)(hy:y.length<1000000):bin 0 (.str x) (.str y)=some (.str (x++y)):=by
 show(if small x&&small y then some (V.str (x++y))else none)=_;rw[if_pos];rw[é hx,é hy];rfl
theorem qZ{s:Nat}(h:s<4):(Æ Ç s).length<30:=by
 match s,h with
 |0,_|1,_|2,_|3,_=>decide+kernel
theorem xv{n:Nat}(h:n<6):(Æ ä n).length<60∧cmp 1 (.str (Æ ä n)) (.str [])=some (ď n 5):=by
 match n,h with
 |0,_|1,_|2,_|3,_|4,_|5,_=>exact⟨by decide+kernel,rfl⟩
theorem GD{n:Nat}(h:n<6):item (.tup [.str AA,.str AD,.str Az,.str AB,.str Ay,.str []]) (.int n)=some (.str (Æ ä n)):=by
 match n,h with
 |0,_|1,_|2,_|3,_|4,_|5,_=>rfl
theorem vX{n:Nat}(h:n<4):item (.tup [.str [116,101,97],.str wA,.str lu,.str [120]]) (.int n)=some (.str (Æ Ç n)):=by
 match n,h with
 |0,_|1,_|2,_|3,_=>rfl
theorem Ey{n:Nat}(h:n<3):item (.tup [.int 0,.int 86399,.int 40000]) (.int n)=some (.int (Hi n)):=by
 match n,h with
 |0,_|1,_|2,_=>rfl
theorem Gz{n:Nat}(h:n<4):bin 2 (.int 86400) (.int (GB n))=some (.int (86400*GB n)):=by
 apply kM
 match n,h with
 |0,_|1,_|2,_|3,_=>decide+kernel
noncomputable def IF:PE:=(.bi 0 (.bi 0 (.bi 0 (.bi 0 (.bi 0 (.te (.cm Ë [1] [.c (.str [])]) (.bi 0 (.bi 0 (.c (.str eT)) Ë) wy) fD) (.c (.str bL))) Þ) (.c (.str fE))) Ă) wy)
theorem EC{n s b:Nat}(hn:n<6)(hs:s<4)(hb:b<4){x0 x1:Option V}{ρ κ:List (Option V)}:
  Ev Ê (.ev d IF ⟨H,x0::x1::some (.str (Æ ä n))::some (.str (Æ Ç s))::some (.str (Æ Ç b))::ρ,κ⟩) (⟨H,x0::x1::some (.str (Æ ä n))::some (.str (Æ Ç s))::some (.str (Æ Ç b))::ρ,κ⟩,.val (.str (txt n s b))):=by
 obtain⟨l1,l2⟩:=xv hn;have l3:=qZ hs;have l4:=qZ hb;have e0:=bs (x:=eT) (y:=Æ ä n) (by decide+kernel) (by exact è ‹_› (by decide))
 induction hq:ď n 5 using ñ with
 |true=>
  rw[hq]at l2;have e:txt n s b=((((eT++Æ ä n++[13,10])++bL++Æ Ç s)++fE)++Æ Ç b)++[13,10]:=by
   unfold txt xw xj iH;rw[hq];simp only[Ĝ]
  rw[e];have e1:=bs (x:=eT++Æ ä n) (y:=[13,10]) (by simp only[Ċ,ă,cC];exact â [_] (.c (.a Â Á) h_ .z) (.a (.a (.a (.a (.a (.a (.a (.a đ Á) Á) Á) Á) Á) Á) Â) Á) Ù rfl l1) (by decide+kernel);have e2:=bs (x:=eT++Æ ä n++[13,10]) (y:=bL) (by simp only[Ċ,ă,cC];exact â [_] (.c (.a Â Á) h_ .z) (.a (.a (.a (.a (.a (.a (.a (.a (.a đ Á) Á) Á) Á) Á) Á) Â) (.a (.a đ Á) Á)) Á) Ù rfl l1) (by decide+kernel);have e3:=bs (x:=eT++Æ ä n++[13,10]++bL) (y:=Æ Ç s) (by simp only[Ċ,ă,cC];exact â [_] (.c (.a Â Á) h_ .z) (.a (.a (.a (.a (.a (.a (.a (.a (.a (.a đ Á) Á) Á) Á) Á) Á) Â) (.a (.a đ Á) Á)) (.a (.a (.a (.a (.a (.a (.a (.a (.a đ Á) Á) Á) Á) Á) Á) Á) Á) Á)) Á) Ù rfl l1) (by exact è ‹_› (by decide));have e4:=bs (x:=eT++Æ ä n++[13,10]++bL++Æ Ç s) (y:=fE) (by simp only[Ċ,ă,cC];exact â [_,_] (.c (.a Â Á) h_ (.c (.a È Á) bM .z)) (.a (.a (.a (.a (.a (.a (.a (.a (.a (.a (.a đ Á) Á) Á) Á) Á) Á) Â) (.a (.a đ Á) Á)) (.a (.a (.a (.a (.a (.a (.a (.a (.a đ Á) Á) Á) Á) Á) Á) Á) Á) Á)) È) Á) Ù rfl l1 l3) (by decide+kernel);have e5:=bs (x:=eT++Æ ä n++[13,10]++bL++Æ Ç s++fE) (y:=Æ Ç b) (by simp only[Ċ,ă,cC];exact â [_,_] (.c (.a Â Á) h_ (.c (.a È Á) bM .z)) (.a (.a (.a (.a (.a (.a (.a (.a (.a (.a (.a (.a đ Á) Á) Á) Á) Á) Á) Â) (.a (.a đ Á) Á)) (.a (.a (.a (.a (.a (.a (.a (.a (.a đ Á) Á) Á) Á) Á) Á) Á) Á) Á)) È) (.a (.a (.a (.a đ Á) Á) Á) Á)) Á) Ù rfl l1 l3) (by exact è ‹_› (by decide));have e6:=bs (x:=eT++Æ ä n++[13,10]++bL++Æ Ç s++fE++Æ Ç b) (y:=[13,10]) (by simp only[Ċ,ă,cC];exact â [_,_,_] (.c (.a Â Á) h_ (.c (.a È Á) bM (.c (.a á Á) bM .z))) (.a (.a (.a (.a (.a (.a (.a (.a (.a (.a (.a (.a (.a đ Á) Á) Á) Á) Á) Á) Â) (.a (.a đ Á) Á)) (.a (.a (.a (.a (.a (.a (.a (.a (.a đ Á) Á) Á) Á) Á) Á) Á) Á) Á)) È) (.a (.a (.a (.a đ Á) Á) Á) Á)) á) Á) Ù rfl l1 l3 l4) (by decide+kernel);unfold IF;walk_at "w"
 |false=>
  rw[hq]at l2;have e:txt n s b=((([]++bL++Æ Ç s)++fE)++Æ Ç b)++[13,10]:=by
   unfold txt xw xj iH;rw[hq];simp only[Ĝ,jF]
  rw[e];have e2:=bs (x:=[]) (y:=bL) (by decide+kernel) (by decide+kernel);have e3:=bs (x:=[]++bL) (y:=Æ Ç s) (by decide+kernel) (by exact è ‹_› (by decide));have e4:=bs (x:=[]++bL++Æ Ç s) (y:=fE) (by simp only[Ċ,ă,cC];exact â [_] (.c (.a Â Á) bM .z) (.a (.a (.a đ (.a (.a (.a (.a (.a (.a (.a (.a (.a đ Á) Á) Á) Á) Á) Á) Á) Á) Á)) Â) Á) Ù rfl l3) (by decide+kernel);have e5:=bs (x:=[]++bL++Æ Ç s++fE) (y:=Æ Ç b) (by simp only[Ċ,ă,cC];exact â [_] (.c (.a Â Á) bM .z) (.a (.a (.a (.a đ (.a (.a (.a (.a (.a (.a (.a (.a (.a đ Á) Á) Á) Á) Á) Á) Á) Á) Á)) Â) (.a (.a (.a (.a đ Á) Á) Á) Á)) Á) Ù rfl l3) (by exact è ‹_› (by decide));have e6:=bs (x:=[]++bL++Æ Ç s++fE++Æ Ç b) (y:=[13,10]) (by simp only[Ċ,ă,cC];exact â [_,_] (.c (.a Â Á) bM (.c (.a È Á) bM .z)) (.a (.a (.a (.a (.a đ (.a (.a (.a (.a (.a (.a (.a (.a (.a đ Á) Á) Á) Á) Á) Á) Á) Á) Á)) Â) (.a (.a (.a (.a đ Á) Á) Á) Á)) È) Á) Ù rfl l3 l4) (by decide+kernel);unfold IF;walk_at "w"
theorem kH{p:bJ}{B:Int}(hp:p.Ok B)(hB:B<1000000):∃(f:Bool) (p':bJ),p'.Ok (B+1)∧
  ∀(d:Nat) (a b:Cell) (T:List Cell) (v:List Nat) (l acc:List V) (x y:Option V) (r:Res),acc.length<100→
   Ev Ê (.fj (d+2) Ã [1] [.cm (.fn 80 [.k 0,.c (.int 2)]) [0] [.c (.int 1)]] l (if f then .str v::acc else acc) ⟨a::b::.lst (ð p')::T,[x,some (.str v)],[some (.Ó 2)]⟩) r→
   Ev Ê (.fj (d+2) Ã [1] [.cm (.fn 80 [.k 0,.c (.int 2)]) [0] [.c (.int 1)]] (.str v::l) acc ⟨a::b::.lst (ð p)::T,[x,y],[some (.Ó 2)]⟩) r:=by
 obtain⟨r1,p1,h1,o1,c1⟩:=ý hp ‹_› (m:=2) (by exact ī _) (by exact î _ _)
 match r1,h1 with
 |0,_=>
  refine⟨false,p1,o1,fun d a b T v l acc x y r ha h=>?_⟩;have hm:(Ð (.str v)&&small acc)=true:=é (by exact è ‹_› (by decide));apply Hr hm
  ·walk_at "w"
  ·walk_at "w"
  ·exact h
 |1,_=>
  refine⟨true,p1,o1,fun d a b T v l acc x y r ha h=>?_⟩;have hm:(Ð (.str v)&&small acc)=true:=é (by exact è ‹_› (by decide));apply ke hm
  ·walk_at "w"
  ·walk_at "w"
  ·exact aR rfl
  ·rfl
  ·exact h
 |r+2,h=>exact absurd h (by exact Ũ (î _ _))
def P5(f0 f1 f2 f3:Bool):List V:=(if f0 then[V.str (Æ Ŕ 0)]else[])++((if f1 then[V.str (Æ Ŕ 1)]else[])++((if f2 then[V.str (Æ Ŕ 2)]else[])++(if f3 then[V.str (Æ Ŕ 3)]else[])))
theorem yT{p:bJ}{B:Int}(hp:p.Ok B)(hB:B+4<1000000):∃(f0 f1 f2 f3:Bool) (p':bJ),p'.Ok (B+4)∧
  ∀(d:Nat) (a b:Cell) (T:List Cell) (x y:Option V),∃y',
   Ev Ê (.fj (d+2) Ã [1] [.cm (.fn 80 [.k 0,.c (.int 2)]) [0] [.c (.int 1)]] [.str rO,.str rQ,.str rN,.str [107,119]] [] ⟨a::b::.lst (ð p)::T,[x,y],[some (.Ó 2)]⟩)
    (⟨a::b::.lst (ð p')::T,[x,y'],[some (.Ó 2)]⟩,.vals (P5 f0 f1 f2 f3)):=by
 obtain⟨f0,p0,o0,c0⟩:=kH hp (by exact ì [_] (.c (.a (.a Â dM) Á) Ù .z) (.a Â Á) Ù rfl hB);obtain⟨f1,p1,o1,c1⟩:=kH o0 (by exact ì [_] (.c (.a (.a Â dM) Á) Ù .z) (.a (.a Â Á) Á) Ù rfl hB);obtain⟨f2,p2,o2,c2⟩:=kH o1 (by exact ì [_] (.c (.a (.a Â dM) Á) Ù .z) (.a (.a (.a Â Á) Á) Á) Ù rfl hB);obtain⟨f3,p3,o3,c3⟩:=kH o2 (by exact ì [_] (.c (.a (.a Â dM) Á) Ù .z) (.a (.a (.a (.a Â Á) Á) Á) Á) Ù rfl hB);refine⟨f0,f1,f2,f3,p3,o3.up (by exact ì [_] .z (.a (.a (.a (.a Â Á) Á) Á) Á) (.a Â dM) rfl),fun d a b T x y=>⟨some (.str [107,119]),?_⟩⟩;apply c0 _ _ _ _ _ _ _ _ _ _ (by decide);apply c1 _ _ _ _ _ _ _ _ _ _ (by induction f0 using ñ<;>decide);apply c2 _ _ _ _ _ _ _ _ _ _ (by induction f0 using ñ<;>induction f1 using ñ<;>decide);apply c3 _ _ _ _ _ _ _ _ _ _ (by induction f0 using ñ<;>induction f1 using ñ<;>induction f2 using ñ<;>decide)
 induction f0 using ñ<;>induction f1 using ñ<;>induction f2 using ñ<;>induction f3 using ñ<;>exact i_
theorem wi:∀n,Ð (ã n)=true
 |0|1|2|3|_+4=>rfl
theorem EM{n:Nat}(hn:n<6){x0:Option V}{ρ κ:List (Option V)}:Ev Ê (.ev d (.te (.cm Ã [2] [.c (.int 4)]) (.ix (.ix (.c (.tup [.tup [.tup [.int 1969,.int 12,.int 31],.int (-1)],.tup [.tup [.int 1994,.int 2,.int 1],.int 8797],.tup [.tup [.int 1994,.int 2,.int 2],.int 8798],.tup [.tup [.int 2000,.int 2,.int 29],.int 11016]])) Ã) å) (.c .none)) ⟨H,x0::some (.int n)::ρ,κ⟩) (⟨H,x0::some (.int n)::ρ,κ⟩,.val (ã n)):=by
 match n,hn with
 |0,_|1,_|2,_|3,_|4,_|5,_=>walk_at "w"
theorem wF{α}{x:α}{Y:List α}(X:List α):ç (X++[x]++Y) X.length=some x:=by
 induction X with
 |nil=>
  exact rfl
 |cons a X IH=>
  exact IH
theorem E5{α}{x y:α}{Y:List α}(X:List α):put (X++[x]++Y) X.length y=X++[y]++Y:=by
 induction X with
 |nil=>
  exact rfl
 |cons a X IH=>
  exact congrArg (a:: ·) IH
theorem Gi{H Ö:List Cell}{x y y':V}(h1:Ô H x=some (H,x))(h2:Ô H y=some (Ö,y')):Ē H [x,y]=some (Ö,[x,y']):=by simp only[Ē,h1,h2,bO,bw,fg,az]
theorem Gj{H Y:List Cell}{L:List (List Nat×V)}:Ô (H++[.aY L]++Y) (.Ó H.length)=some (H++[.Ô (.aY L)]++Y,.aY L):=by simp only[Ô,wF,E5,bO,bw,fg,az]
theorem sP{u i mo:Int}{o:List Nat}{fv:V}{fs:List V}(hs:small fs=true)(hf:∀l,Ô (H++[.ins 0 l]) fv=some (H++[.ins 0 l],.lst fs)):
  Ev Ê (.call (d+2) 92 [.Ó H.length,.int u,.bytes o,fv,.int i,.int mo] (H++[.ins 0 []])) (⟨H++[.ins 0 [(13,.int u),(14,.bytes o),(15,.tup fs),(16,.int i),(17,.int mo)]],[],[]⟩,.val .none):=by
 have hb:blt 5 [.lst fs]=some (.tup fs):=if_pos hs;have hz:∀l,Ē (H++[.ins 0 l]) [fv]=some (H++[.ins 0 l],[.lst fs]):=fun l=>by simp only[Ē,hf l,bO,bw,fg,az]
 apply eE (S:=⟨H++[.ins 0 []],[some (.Ó H.length),some (.int u),some (.bytes o),some fv,some (.int i),some (.int mo)],[]⟩) rfl rfl
 ·apply Ò
  ·apply ū
   ·exact aR rfl
   ·exact dA (aR rfl) rfl (ē _ _) rfl rfl Ľ
  apply Ò
  ·apply ū
   ·exact aR rfl
   ·exact dA (aR rfl) rfl (ē _ _) rfl rfl Ľ
  apply Ò
  ·apply ū
   ·apply j0
    ·exact Ř (aR rfl) Ų
    ·exact hz _
    ·exact hb
    ·rfl
   ·exact dA (aR rfl) rfl (ē _ _) rfl rfl Ľ
  apply Ò
  ·apply ū
   ·exact aR rfl
   ·exact dA (aR rfl) rfl (ē _ _) rfl rfl Ľ
  apply Ò
  ·apply ū
   ·exact aR rfl
   ·exact dA (aR rfl) rfl (ē _ _) rfl rfl Ľ
  exact gr
 ·exact pQ
theorem sk{H₁:List Cell}{q:LP}(hq:q.Ok){fv:V}{κ:List (Option V)}{w:Option V}(hs:small (ħ q)=true)(h1:Ô H fv=some (H₁,.lst (ħ q)))(h2:∀Y,Ô (H₁++Y) fv=some (H₁++Y,.lst (ħ q))):
  T2 fun Y fq=>Ev Ê (.dj (d+6) [.as (.n false 11) (.di [.c (.str [117,105,100]),.c (.str eS),.c (.str dK),.c (.str [100,97,121]),.c (.str aU),.c (.str Ŧ),.c (.str ğ),.c (.str ř),.c (.str ŋ)] [.l 0,.l 6,.bl 0 [.l 5],.ix (.ix (.c (.tup [.tup [.tup [.int 1969,.int 12,.int 31],.int (-1)],.tup [.tup [.int 1994,.int 2,.int 1],.int 8797],.tup [.tup [.int 1994,.int 2,.int 2],.int 8798],.tup [.tup [.int 2000,.int 2,.int 29],.int 11016]])) dI) å,.l 9,.l 10,.l 3,.l 4,.l 2]),.re (.tu [.cl 0 [.l 0,.fn 81 [.l 5],.l 6,.l 8,.l 9],.l 11])] ⟨H,[some (.int q.uid),some (.int q.n),some (.str (Æ ä q.n)),some (.str (Æ Ç q.s)),some (.str (Æ Ç q.b)),some (.str (txt q.n q.s q.b)),some fv,some (.int q.sp),some (.int (dX q.sp q.ti)),some (.int q.mo),some (ã q.n),w],κ⟩) (⟨H₁++Y,fq,κ⟩,.ret (.tup [Ü q,Ķ q])):=by
 obtain⟨t1,t2⟩:=zN hq.n hq.s hq.b;have c1:=yt (d:=d+2) (H:=H₁++[.aY [([117,105,100],.int q.uid),(eS,.lst (ħ q)),(dK,.int (txt q.n q.s q.b).length),([100,97,121],ã q.sp),(aU,.int q.mo),(Ŧ,ã q.n),(ğ,.str (Æ Ç q.s)),(ř,.str (Æ Ç q.b)),(ŋ,.str (Æ ä q.n))]]) t1 (by exact è ‹_› (by decide));have hl:=len_str (l:=txt q.n q.s q.b) (by exact è ‹_› (by decide));have d1:=fV hq.sp;have z1:Ē H [.int q.uid,fv,.int (txt q.n q.s q.b).length,ã q.sp,.int q.mo,ã q.n,.str (Æ Ç q.s),.str (Æ Ç q.b),.str (Æ ä q.n)]=some (H₁,[.int q.uid,.lst (ħ q),.int (txt q.n q.s q.b).length,ã q.sp,.int q.mo,ã q.n,.str (Æ Ç q.s),.str (Æ Ç q.b),.str (Æ ä q.n)]):=by
  have e1:=œ (wi q.sp) H₁;have e2:=œ (wi q.n) H₁;have e0:∀(X:List Cell) (i:Int),Ô X (.int i)=some (X,.int i):=fun À À=>rfl
  have e3:∀(X:List Cell) (i:List Nat),Ô X (.str i)=some (X,.str i):=fun À À=>rfl
  simp only[Ē,e0,h1,e1,e2,e3,bO,bw,fg,az]
 have c2:=sP (d:=d+3) (H:=H₁++[.aY [([117,105,100],.int q.uid),(eS,.lst (ħ q)),(dK,.int (txt q.n q.s q.b).length),([100,97,121],ã q.sp),(aU,.int q.mo),(Ŧ,ã q.n),(ğ,.str (Æ Ç q.s)),(ř,.str (Æ Ç q.b)),(ŋ,.str (Æ ä q.n))]]) (u:=q.uid) (i:=dX q.sp q.ti) (mo:=q.mo) (o:=txt q.n q.s q.b) (fv:=fv) hs (fun l=>by rw[Ĝ];exact h2 _);have z2:=gj (H:=H₁++[.aY [([117,105,100],.int q.uid),(eS,.lst (ħ q)),(dK,.int (txt q.n q.s q.b).length),([100,97,121],ã q.sp),(aU,.int q.mo),(Ŧ,ã q.n),(ğ,.str (Æ Ç q.s)),(ř,.str (Æ Ç q.b)),(ŋ,.str (Æ ä q.n))]]) (c:=0) (l:=[(13,.int q.uid),(14,.bytes (txt q.n q.s q.b)),(15,.tup (ħ q)),(16,.int (dX q.sp q.ti)),(17,.int q.mo)]);have z3:Ē (H₁++[.aY [([117,105,100],.int q.uid),(eS,.lst (ħ q)),(dK,.int (txt q.n q.s q.b).length),([100,97,121],ã q.sp),(aU,.int q.mo),(Ŧ,ã q.n),(ğ,.str (Æ Ç q.s)),(ř,.str (Æ Ç q.b)),(ŋ,.str (Æ ä q.n))]]++[.Ô (Ü q)]) [Ü q,.Ó H₁.length]=some (H₁++[.Ô (.aY [([117,105,100],.int q.uid),(eS,.lst (ħ q)),(dK,.int (txt q.n q.s q.b).length),([100,97,121],ã q.sp),(aU,.int q.mo),(Ŧ,ã q.n),(ğ,.str (Æ Ç q.s)),(ř,.str (Æ Ç q.b)),(ŋ,.str (Æ ä q.n))])]++[.Ô (Ü q)],[Ü q,.aY [([117,105,100],.int q.uid),(eS,.lst (ħ q)),(dK,.int (txt q.n q.s q.b).length),([100,97,121],ã q.sp),(aU,.int q.mo),(Ŧ,ã q.n),(ğ,.str (Æ Ç q.s)),(ř,.str (Æ Ç q.b)),(ŋ,.str (Æ ä q.n))]]):=by
  exact Gi (œ (show Ð (Ü q)=true from rfl) _) Gj
 refine⟨[.Ô (.aY [([117,105,100],.int q.uid),(eS,.lst (ħ q)),(dK,.int (txt q.n q.s q.b).length),([100,97,121],ã q.sp),(aU,.int q.mo),(Ŧ,ã q.n),(ğ,.str (Æ Ç q.s)),(ř,.str (Æ Ç q.b)),(ŋ,.str (Æ ä q.n))])]++[.Ô (Ü q)],[some (.int q.uid),some (.int q.n),some (.str (Æ ä q.n)),some (.str (Æ Ç q.s)),some (.str (Æ Ç q.b)),some (.str (txt q.n q.s q.b)),some fv,some (.int q.sp),some (.int (dX q.sp q.ti)),some (.int q.mo),some (ã q.n),some (.Ó H₁.length)],?_⟩;rw[←Ĝ];apply Ò
 ·apply ū
  ·apply yp
   ·walk_at "w"
   ·exact z1
   ·rfl
   ·rfl
  ·walk_at "w"
 apply dp;apply qX;apply uJ
 ·apply Ř
  ·apply uK
   ·walk_at "w"
   ·rfl
   ·exact c2
   ·rfl
   ·exact z2
  ·apply Ř
   ·exact aR rfl
   ·exact Ų
 ·exact z3
 ·rfl
end
theorem I4{a b x a' b' x' u:Cell}{T Y:List Cell}:(a::b::x::(T++[u])++Y).take (a'::b'::x'::T).length=a::b::x::T:=by
 show a::b::x::(T++[u]++Y).take T.length=_;rw[Ĝ,List.take_left]
theorem Oi{a b x u:Cell}{T Y:List Cell}{v:V}:Ô (a::b::x::(T++[.Ô v])++Y) (.Ó (T.length+3))=some (a::b::x::(T++[.Ô v])++Y,v):=by
 have e:ç (a::b::x::(T++[.Ô v])++Y) (T.length+3)=some (.Ô v):=wF T;simp only[Ô,e,bO,bw,fg,az]
theorem vc{p:bJ}{B:Int}(hp:p.Ok B)(hB:B+50<1000000)(u:Nat):∃(q:LP) (p':bJ),A3 (q.Ok∧q.uid=u) (p'.Ok (B+12)) (∀(d:Nat) (a b:Cell) (T:List Cell),Ev Ê (.call (d+10) 82 [.Ó 2,.int u] (a::b::.lst (ð p)::T)) (⟨a::b::.lst (ð p')::T,[],[]⟩,.val (.tup [Ü q,Ķ q]))):=by
 obtain⟨n,p1,h1,o1,c1⟩:=ý hp (by exact ì [_] (.c (.a (.a Â bt) Á) Ù .z) (.a Â Á) Ù rfl hB) (m:=6) (by exact ī _) (by exact î _ _);obtain⟨sj,p2,h2,o2,c2⟩:=ý o1 (by exact ì [_] (.c (.a (.a Â bt) Á) Ù .z) (.a (.a Â Á) Á) Ù rfl hB) (m:=4) (by exact ī _) (by exact î _ _);obtain⟨bd,p3,h3,o3,c3⟩:=ý o2 (by exact ì [_] (.c (.a (.a Â bt) Á) Ù .z) (.a (.a (.a Â Á) Á) Á) Ù rfl hB) (m:=4) (by exact ī _) (by exact î _ _);obtain⟨f0,f1,f2,f3,p4,o4,c4⟩:=yT o3 (by exact ì [_] (.c (.a (.a Â bt) Á) Ù .z) (.a (.a (.a (.a (.a Â Á) Á) Á) dM) Á) Ù rfl hB);obtain⟨sp,p5,h5,o5,c5⟩:=ý o4 (by exact ì [_] (.c (.a (.a Â bt) Á) Ù .z) (.a (.a (.a (.a (.a Â Á) Á) Á) dM) Á) Ù rfl hB) (m:=4) (by exact ī _) (by exact î _ _);obtain⟨ti,p6,h6,o6,c6⟩:=ý o5 (by exact ì [_] (.c (.a (.a Â bt) Á) Ù .z) (.a (.a (.a (.a (.a (.a Â Á) Á) Á) dM) Á) Á) Ù rfl hB) (m:=3) (by exact ī _) (by exact î _ _);obtain⟨mo,p7,h7,o7,c7⟩:=ý o6 (by exact ì [_] (.c (.a (.a Â bt) Á) Ù .z) (.a (.a (.a (.a (.a (.a (.a Â Á) Á) Á) dM) Á) Á) Á) Ù rfl hB) (m:=9) (by exact ī _) (by exact î _ _);have hq:(LP.mk u n sj bd f0 f1 f2 f3 sp ti (1+mo)).Ok:=⟨h1,h2,h3,h5,h6⟩;refine⟨⟨u,n,sj,bd,f0,f1,f2,f3,sp,ti,1+mo⟩,p7,⟨hq,rfl⟩,o7.up (by exact ì [_] .z (.a (.a (.a (.a (.a (.a (.a Â Á) Á) Á) dM) Á) Á) Á) (.a Â (.n 12)) rfl),fun d a b T=>?_⟩;have hs:small (P5 f0 f1 f2 f3)=true:=by induction f0 using ñ<;>induction f1 using ñ<;>induction f2 using ñ<;>induction f3 using ñ<;>rfl
 obtain⟨x',c4⟩:=c4 (d+6) a b T none none;have e1:=GD h1;have e2:=vX h2;have e3:=vX h3;have e5:=fV h5;have e6:=Ey h6;have e7:=Gz h5;obtain⟨Y,fq,ht⟩:=sk (d:=d+3) (H:=a::b::.lst (ð p7)::(T++[.lst (P5 f0 f1 f2 f3)])) (H₁:=a::b::.lst (ð p7)::(T++[.Ô (.lst (P5 f0 f1 f2 f3))])) hq (fv:=.Ó (T.length+3)) (κ:=[some (.Ó 2)]) (w:=none) hs Gk (fun Y=>Oi (u:=a));apply É (S:=⟨a::b::.lst (ð p)::T,[some (.int u),none,none,none,none,none,none,none,none,none,none,none],[some (.Ó 2)]⟩) rfl rfl
 ·repeat1' first|((with_reducible apply qz);first|exact c1 _ _ _ _|exact c2 _ _ _ _|exact c3 _ _ _ _|exact c5 _ _ _ _|exact c6 _ _ _ _|exact c7 _ _ _ _)|exact ht|exact EC h1 h2 h3|exact EM h1|apply GJ|exact c4|((with_reducible apply TO);first|with_reducible assumption|with_reducible exact Fg|with_reducible exact put3|with_reducible exact Gk|with_reducible exact HS|with_reducible exact vZ|with_reducible exact xm|with_reducible exact Nv|with_reducible exact take3|exact v_)
 ·rfl
 ·rfl
 ·exact I4
section
variable{d:Nat}{H:List Cell}
theorem F4{κ:List (Option V)}(l:List Int)(acc:List V)(x:Option V)(y:Option V)(hl:acc.length+l.length<1000000):T2 fun x' y'=>Ev Ê (.fj d (.bl 2 [.l 1]) [1] [] (l.map V.int) acc ⟨H,[x,y],κ⟩) (⟨H,[x',y'],κ⟩,.vals (acc.reverse++l.map V.int)):=by
 induction l generalizing acc x y with
 |nil=>
  exact⟨x,y,by simp only[fN,Ŵ];exact i_⟩
 |cons c l IH=>
  rw[ă]at hl;obtain⟨x',y',ih⟩:=IH (.int c::acc) x (some (.int c)) (by rw[ă];exact â [_,_] (.c (.a (.a Â (.a È Á)) Á) Ù .z) (.a (.a (.a Â Á) È) Á) Ù rfl hl);refine⟨x',y',?_⟩;rw[ar,Ĝ]at ih;rw[Ŏ];apply ke
  ·exact é (by exact ń (Ż _ _) ‹_›)
  ·walk_at "w"
  ·exact gP
  ·walk_at "w"
  ·rfl
  ·exact ih
theorem CF{x0 x2 x3:Option V}(l:List Int)(st:Int)(x:Option V)(h0:0≤st)(h1:st<2147483647):T2 fun x' ĉ=>A3 (0≤ĉ) (ĉ<2147483647) (Ev Ê (.qF d (.n false 1) (l.map V.int) [.as (.n false 4) (.bi 4 (.bi 0 (.bi 0 (.bi 2 Ă (.c (.int 48271))) (.bi 4 Ã lq)) (.c (.int 11))) lq)] ⟨H,[x0,x,x2,x3,some (.int st)],[]⟩) (⟨H,[x0,x',x2,x3,some (.int ĉ)],[]⟩,.next)):=by
 induction l generalizing st x with
 |nil=>
  exact⟨x,st,h0,h1,ug⟩
 |cons c l IH=>
  have s1:=Int.emod_nonneg (st*48271+c % 2147483647+11) (show(2147483647:Int)≠0 by decide);have s2:=Int.emod_lt_of_pos (st*48271+c % 2147483647+11) (show(0:Int)<2147483647 by decide);obtain⟨x',ĉ,a1,a2,ih⟩:=IH ((st*48271+c % 2147483647+11) % 2147483647) (some (.int c)) s1 s2;refine⟨x',ĉ,a1,a2,?_⟩;have m1:=kM (mb h0 (by exact wW ‹_› (by decide)) (show(0:Int)≤48271 by decide) (by decide));have m3:=sb (m:=2147483647) (by decide) (by decide);rw[Ŏ];apply mO
  ·rfl
  ·walk_at "w"
  ·repeat1' ((with_reducible apply s8);first|with_reducible exact m1|with_reducible exact eM m3)
  ·exact ih
theorem Lb{xs:List Int}(h:xs.length<1000000):∃cs:List Int,cs.length≤40∧slice (.lst (xs.map .int)) none (some (.int 40)) none=some (.lst (cs.map .int)):=by
 refine⟨xs.take 40,by rw[oK];omega,?_⟩;have hs:small (xs.map V.int)=true:=é (by rw[ĕ];assumption);show(if small (xs.map V.int)then some (V.lst (part (xs.map V.int) 0 (clamp (xs.map V.int).length 40)))else none)=_;rw[hs,if_pos rfl];show some (V.lst (part (xs.map V.int) 0 (clamp (xs.map V.int).length 40)))=_;have hc:clamp (xs.map V.int).length 40=min 40 xs.length:=by
  rw[ĕ];rfl
 rw[hc];show some (V.lst (((xs.map V.int).drop 0).take (min 40 xs.length - 0)))=_;rw[List.drop_zero,Nat.sub_zero,←List.map_take]
 congr 3
 by_cases hx:xs.length≤40
 ·rw[sC (Nat.le_min.mpr ⟨hx,Ĭ _⟩),sC hx]
 ·rw[Nat.min_eq_left (by exact â [_] (.c (.a (.n 40) Á) Â .z) (.n 40) Â rfl (Nat.lt_of_not_le hx))]
theorem MX:∃t,bin 5 (.int 10) (.int 15)=some (.int t):=⟨_,rfl⟩
theorem JM:∃t:Int,bin 5 (.int 10) (.int 200)=some (.int t)∧(ĩ 0 t&&ĩ t jZ)=true:=⟨_,rfl,by decide+kernel⟩
theorem Lj{xs:List Int}(h:xs.length<1000000)(d:Nat):∃(g0 g1:Cell) (p:bJ) (fq:List (Option V)),p.Ok 0∧
  Ev Ê (.call (d+8) 79 [.lst (xs.map .int)] []) (⟨[g0,g1,.lst (ð p)],fq,[]⟩,.val (.Ó 2)):=by
 obtain⟨cs,hc,h1⟩:=Lb h;obtain⟨x1,y1,i1⟩:=F4 (d:=d+6) (H:=[.Ô (.lst (cs.map .int))]) (κ:=[]) cs [] none none (by rw[cC];exact â [_] (.c Â (.n 40) .z) (.a (.a đ Â) Á) Ù rfl hc);rw[oq,jF]at i1;obtain⟨Qz,Yg⟩:=MX;obtain⟨t2,b2,z2⟩:=JM;have fin:∀(g:Int) (x:Option V),0≤g→∃(g0 g1:Cell) (p:bJ) (fq:List (Option V)),p.Ok 0∧Ev Ê (.dj (d+7) [.as (.n false 4) ť,.fo (.n false 1) Ë [.as (.n false 4) (.bi 4 (.bi 0 (.bi 0 (.bi 2 Ă (.c (.int 48271))) (.bi 4 Ã lq)) (.c (.int 11))) lq)],.re (.li [.l 2,.l 3,.l 4,.c (.int 0)])] ⟨[.Ô (.lst (cs.map .int)),.lst (cs.map .int)],[some (.lst (xs.map .int)),x,some (.Ó 1),some (.int g),none],[]⟩) (⟨[g0,g1,.lst (ð p)],fq,[]⟩,.ret (.Ó 2)):=fun g x hg=>by
  obtain⟨x',ĉ,a1,a2,lp⟩:=CF (d:=d+6) (H:=[.Ô (.lst (cs.map .int)),.Ô (.lst (cs.map .int))]) (x0:=some (.lst (xs.map .int))) (x2:=some (.Ó 1)) (x3:=some (.int g)) cs 7 x (by decide) (by decide);refine⟨.Ô (.lst (cs.map .int)),.Ô (.lst (cs.map .int)),⟨cs,g,ĉ,0⟩,[some (.lst (xs.map .int)),x',some (.Ó 1),some (.int g),some (.int ĉ)],⟨hg,a1,a2,Int.le_refl _,Int.le_refl _,hc⟩,?_⟩;apply Ò
  ·repeat1' apply ū
  apply Ò
  ·repeat1' apply bS
  apply dp;apply qX;exact i8 (H₁:=[.Ô (.lst (cs.map .int)),.Ô (.lst (cs.map .int))]) (vs':=ð ⟨cs,g,ĉ,0⟩) (Ř (aR rfl) (Ř (aR rfl) (Ř (aR rfl) (Ř nV Ų)))) rfl rfl
 have ht:truth (.lst (cs.map .int))=some (!(cs.map V.int).isEmpty):=if_pos (é (by rw[ĕ];exact ń ‹_› (by decide)));have Ti:∃(g:Int) (x:Option V),0≤g∧Ev Ê (.ex (d+7) (.if (.bo true [.l 2,.cm (.bl 4 [.ix Ë å]) [5] [.bi 5 wx (.c (.int 15))]]) [.as (.n false 3) (.bi 4 (.bi 3 (.bl 4 [.ix Ë å]) Ź) (.bi 5 wx (.c (.int 200))))] []) ⟨[.Ô (.lst (cs.map .int)),.lst (cs.map .int)],[some (.lst (xs.map .int)),none,some (.Ó 1),some (.int 0),none],[]⟩)
   (⟨[.Ô (.lst (cs.map .int)),.lst (cs.map .int)],[some (.lst (xs.map .int)),x,some (.Ó 1),some (.int g),none],[]⟩,.next):=by
  induction cs using Ŭ with
  |nil=>
   refine⟨0,none,Int.le_refl _,?_⟩;apply hH;walk_at "w"
  |cons c cs=>
   have hi:item (.lst ((c::cs).map .int)) (.int 0)=some (.int c):=rfl;have ha:blt 4 [.int c]=some (.int c.natAbs):=rfl;have hn:0≤(c.natAbs:Int):=lP _;generalize (c.natAbs:Int)=q at ha hn;have Ww:cmp 5 (.int q) (.int Qz)=some (gh Qz q):=rfl;have m2:=sb (m:=2) (by decide) (by decide);have ht:truth (.lst ((c::cs).map .int))=some true:=ht
   induction hq:gh Qz q using ñ with
   |true=>
    rw[hq]at Ww;have hz:0<t2:=by
     rw[au]at z2;exact of_decide_eq_true z2.1
    refine⟨q / 2 % t2,none,Int.emod_nonneg _ (by exact fun eH=>si [_] (.c (.a đ Á) Â (.c Â đ .z)) rfl hz (Int.le_of_eq eH)),?_⟩;apply hH
    repeat1' ((with_reducible apply s8);first|with_reducible exact eM z2|with_reducible exact qN m2)
   |false=>
    rw[hq]at Ww;refine⟨0,none,Int.le_refl _,?_⟩;apply hH;walk_at "w"
 obtain⟨g,x,hg,Ti⟩:=Ti;obtain⟨g0,g1,p,fq,hp,fin⟩:=fin g x hg;refine⟨g0,g1,p,fq,hp,?_⟩;apply lT (S:=⟨[],[some (.lst (xs.map .int)),none,none,none,none],[]⟩) rfl rfl
 ·apply Ò
  ·apply ū
   ·apply lj
    ·apply Hj
     ·exact aR rfl
     ·exact JV
     ·exact LL nV
     ·exact JV
     ·rfl
     ·exact h1
     ·rfl
    ·rfl
    ·rfl
    ·exact i1
   ·walk_at "w"
  apply Ò
  ·apply ū
   ·exact nV
   ·walk_at "w"
  apply Ò
  ·exact Ti
  exact fin
 ·rfl
theorem BG(i:Int):gJ i i=true:=decide_eq_true rfl
theorem pX{α}(l:List α):et l l=true:=by
 induction l with
 |nil=>
  exact rfl
 |cons _ r IH=>
  exact IH
theorem ny{f:V→V→Option Bool}{l:List V}(h:(∀x∈l,f x x=some true)):pJ f l l=some true:=by
 induction l with
 |nil=>
  exact rfl
 |cons a r IH=>
  show((f a a).bind fun p=>(pJ f r r).bind fun q=>some (p&&q))=_;rw[h a Ů,IH fun x hx=>h x (ũ _ hx)];rfl
theorem Ei{n:Nat}{l:List V}(h:∀x∈l,gu n x x=some true):gu (n+1) (.lst l) (.lst l)=some true:=by
 show(if et l l then pJ (gu n) l l else some false)=_;rw[if_pos (pX l)];exact ny h
theorem pH{n:Nat}{l:List V}(h:∀x∈l,gu n x x=some true):gu (n+1) (.tup l) (.tup l)=some true:=ny h
theorem d_{n:Nat}{i:Int}:gu (n+1) (.int i) (.int i)=some true:=congrArg some (BG i)
theorem Eh{n:Nat}{i:List Nat}:gu (n+1) (.str i) (.str i)=some true:=congrArg some (ŭ i)
theorem xS{n:Nat}{i:List Nat}:gu (n+1) (.bytes i) (.bytes i)=some true:=congrArg some (ŭ i)
def AllInt(l:List V):Prop:=∀x∈l,∃i,x=.int i
theorem AllInt.eq{l:List V}(h:AllInt l):gO (.lst l) (.lst l)=some true:=Ei fun x hx=>by obtain⟨i,rfl⟩:=h x hx;exact d_
theorem AllInt.ne{l:List V}(h:AllInt l):cmp 1 (.lst l) (.lst l)=some false:=by
 show(gO (.lst l) (.lst l)).map not=_;rw[h.eq];rfl
theorem xt{f:Nat→LP→Bool}(ps:List LP)(n:Nat):AllInt (b_ f n ps):=by
 induction ps generalizing n with
 |nil=>
  exact fun x hx=>by cases hx
 |cons p r IH=>
  have ih:=IH (n+1);show AllInt (match f (n+1) p with
   |true=>.int (n+1:Nat)::b_ f (n+1) r
   |false=>b_ f (n+1) r)
  induction f (n+1) p using ñ with
  |true=>
   intro x hx;rcases ĸ.mp hx with rfl|hx
   ·exact⟨_,rfl⟩
   ·exact ih x hx
  |false=>exact ih
theorem rW{α}{x:α}{Y:List α}(X:List α):ç (X++x::Y) X.length=some x:=by
 induction X with
 |nil=>
  exact rfl
 |cons a X IH=>
  exact IH
theorem sJ{l:List V}{n:Nat}{v:V}(hn:n<1000)(h:ç l n=some v):item (.lst l) (.int n)=some v:=by
 have e1:ą n=true:=by
  unfold ą ĩ;rw[au];exact⟨decide_eq_true (by exact ì [_] (.c (.a Â Á) aV .z) (.a Â Á) Ù rfl (bx.mpr hn)),decide_eq_true (by exact jG _)⟩
 rw[fQ,if_pos e1];unfold at_;rw[if_neg (by unfold ĩ;rw[decide_eq_true_eq];exact fun eH=>si [_] (.c (.a Â Á) đ (.c đ Â .z)) rfl eH (lP _))];exact h
theorem fw{i:Nat}{v:V}(h:ç H i=some (.Ô v)):view H (.Ó i)=some v:=by simp only[view,h,bO,bw,fg,az]
theorem qA{i:Nat}{v:V}(h:ç H i=some (.Ô v)):Ô H (.Ó i)=some (H,v):=by simp only[Ô,h,bO,bw,fg,az]
theorem fU{i:Nat}{v:V}(h:ç H i=some (.Ô v)):Ē H [.Ó i]=some (H,[v]):=by simp only[Ē,qA h,bO,bw,fg,az]
def RS(ps:List LP):List V:=ps.map Ķ
def LS(ps:List LP):List V:=ps.map Ü
theorem qp{qs pre:List LP}{q:LP}(h:pre.length<1000):item (.lst (RS (pre++q::qs))) (.int pre.length)=some (Ķ q):=by
 apply sJ h;unfold RS;rw[dS,Ŏ];have:=rW (x:=Ķ q) (Y:=qs.map Ķ) (pre.map Ķ)
 rwa [ĕ]at this
theorem F1{qs pre:List LP}{q:LP}(h:pre.length<1000):item (.lst (LS (pre++q::qs))) (.int pre.length)=some (Ü q):=by
 apply sJ h;unfold LS;rw[dS,Ŏ];have:=rW (x:=Ü q) (Y:=qs.map Ü) (pre.map Ü)
 rwa [ĕ]at this
theorem Cg{f:Nat→LP→Bool}{n:Nat}{q:LP}{qs:List LP}(h:f (n+1) q=true):b_ f n (q::qs)=.int (n+1:Nat)::b_ f (n+1) qs:=by
 show(match f (n+1) q with
  |true=>_
  |false=>_)=_
 rw[h]
theorem HW{f:Nat→LP→Bool}{n:Nat}{q:LP}{qs:List LP}(h:f (n+1) q=false):b_ f n (q::qs)=b_ f (n+1) qs:=by
 show(match f (n+1) q with
  |true=>_
  |false=>_)=_
 rw[h]
theorem fB(i:Int)(n:Nat):mJ i (n+1)=.int i::mJ (i+1) n:=rfl
theorem lH{t:Tr}(ho:t.ok)(hh:t.ĭ≤5){ps:List LP}(hp:∀p∈ps,p.Ok)(hl:ps.length<900){last:Nat}{k3:Option V}(h4:ç H 4=some (.Ô (.lst (RS ps)))):∀(qs pre:List LP) (acc:List V) (x y:Option V),ps=pre++qs→acc.length≤pre.length→
  ∃x',Ev Ê (.fj (d+124) (.bi 0 Ã Ì) [1] [.fn 90 [.k 2,.ix Ğ Ã,.bi 0 Ã Ì,.bl 0 [.k 0],.k 1]] (mJ pre.length qs.length) acc ⟨H,[x,y],[some (.Ó 4),some (.int last),some (Î t),k3]⟩) (⟨H,[x,x'],[some (.Ó 4),some (.int last),some (Î t),k3]⟩,.vals (acc.reverse++b_ (fun k p=>Ď p k ps.length last t) pre.length qs))
 |[],pre,acc,x,y,_,_=>⟨y,by simp only[b_,Ŵ];exact i_⟩
 |q::qs,pre,acc,x,y,e,ha=>by
  have PV:pre.length<900:=by
   have:=congrArg oN e;rw[Ċ,ă]at this;exact â [_,_,_] (.c (.a È Á) n6 (.c (.a Â (.a á Á)) È .z)) (.a Â Á) n6 rfl hl (ņ this.symm)
  have c:=M_ (d:=d+3) (H:=H) (hp q (by rw[e];simp)) (k:=pre.length+1) (count:=ps.length) (last:=last) ho hh;have ek:((pre.length+1:Nat):Int)=(pre.length:Int)+1:=rfl;rw[ek]at c;have hi:item (.lst (RS ps)) (.int pre.length)=some (Ķ q):=by rw[e];exact qp (by exact è ‹_› (by decide))
  have hv:=fw h4;have hz:=fU h4;have F6:blt 0 [.lst (RS ps)]=some (.int ps.length):=by
   have:=bW (l:=RS ps) (by unfold RS;rw[ĕ];exact è ‹_› (by decide));rw[this];unfold RS;rw[ĕ]
  have hm:(Ð (.int pre.length)&&small acc)=true:=é (by exact â [_,_] (.c Â È (.c (.a È Á) n6 .z)) (.a Â Á) Ù rfl ha PV);rw[ă,fB]
  induction hb:Ď q (pre.length+1) ps.length last t using ñ with
  |true=>
   rw[hb]at c;rw[Cg (f:=fun k p=>Ď p k ps.length last t) hb];obtain⟨x',ih⟩:=lH ho hh hp hl h4 qs (pre++[q]) (.int ((pre.length:Int)+1)::acc) x (some (.int pre.length)) (by rw[e,Ĝ];rfl) (by rw[Ċ,ă];simp;assumption);refine⟨x',?_⟩;rw[ar,Ĝ,Ċ]at ih;apply ke hm
   ·walk_at "w"
   ·walk_at "w"
   ·walk_at "w"
   ·rfl
   ·exact ih
  |false=>
   rw[hb]at c;rw[HW (f:=fun k p=>Ď p k ps.length last t) hb];obtain⟨x',ih⟩:=lH ho hh hp hl h4 qs (pre++[q]) acc x (some (.int pre.length)) (by rw[e,Ĝ];rfl) (by rw[Ċ,ă];exact è ‹_› (Ż _ _));refine⟨x',?_⟩;rw[Ċ]at ih;apply Hr hm
   ·walk_at "w"
   ·walk_at "w"
   ·exact ih
theorem lG{t:Tr}(ho:t.ok)(hh:t.ĭ≤5){ps:List LP}(hp:∀p∈ps,p.Ok)(hl:ps.length<900){last:Nat}{k2:Option V}(h4:ç H 4=some (.Ô (.lst (RS ps)))):∀(qs pre:List LP) (acc:List V) (x y:Option V),ps=pre++qs→acc.length≤pre.length→
  ∃x',Ev Ê (.fj (d+124) (.bi 0 Ã Ì) [1] [.fn 90 [.k 3,.ix Ğ Ã,.bi 0 Ã Ì,.bl 0 [.k 0],.k 1]] (mJ pre.length qs.length) acc ⟨H,[x,y],[some (.Ó 4),some (.int last),k2,some (Î t)]⟩) (⟨H,[x,x'],[some (.Ó 4),some (.int last),k2,some (Î t)]⟩,.vals (acc.reverse++b_ (fun k p=>Ď p k ps.length last t) pre.length qs))
 |[],pre,acc,x,y,_,_=>⟨y,by simp only[b_,Ŵ];exact i_⟩
 |q::qs,pre,acc,x,y,e,ha=>by
  have PV:pre.length<900:=by
   have:=congrArg oN e;rw[Ċ,ă]at this;exact â [_,_,_] (.c (.a È Á) n6 (.c (.a Â (.a á Á)) È .z)) (.a Â Á) n6 rfl hl (ņ this.symm)
  have c:=M_ (d:=d+3) (H:=H) (hp q (by rw[e];simp)) (k:=pre.length+1) (count:=ps.length) (last:=last) ho hh;have ek:((pre.length+1:Nat):Int)=(pre.length:Int)+1:=rfl;rw[ek]at c;have hi:item (.lst (RS ps)) (.int pre.length)=some (Ķ q):=by rw[e];exact qp (by exact è ‹_› (by decide))
  have hv:=fw h4;have hz:=fU h4;have F6:blt 0 [.lst (RS ps)]=some (.int ps.length):=by
   have:=bW (l:=RS ps) (by unfold RS;rw[ĕ];exact è ‹_› (by decide));rw[this];unfold RS;rw[ĕ]
  have hm:(Ð (.int pre.length)&&small acc)=true:=é (by exact â [_,_] (.c Â È (.c (.a È Á) n6 .z)) (.a Â Á) Ù rfl ha PV);rw[ă,fB]
  induction hb:Ď q (pre.length+1) ps.length last t using ñ with
  |true=>
   rw[hb]at c;rw[Cg (f:=fun k p=>Ď p k ps.length last t) hb];obtain⟨x',ih⟩:=lG ho hh hp hl h4 qs (pre++[q]) (.int ((pre.length:Int)+1)::acc) x (some (.int pre.length)) (by rw[e,Ĝ];rfl) (by rw[Ċ,ă];simp;assumption);refine⟨x',?_⟩;rw[ar,Ĝ,Ċ]at ih;apply ke hm
   ·walk_at "w"
   ·walk_at "w"
   ·walk_at "w"
   ·rfl
   ·exact ih
  |false=>
   rw[hb]at c;rw[HW (f:=fun k p=>Ď p k ps.length last t) hb];obtain⟨x',ih⟩:=lG ho hh hp hl h4 qs (pre++[q]) acc x (some (.int pre.length)) (by rw[e,Ĝ];rfl) (by rw[Ċ,ă];exact è ‹_› (Ż _ _));refine⟨x',?_⟩;rw[Ċ]at ih;apply Hr hm
   ·walk_at "w"
   ·walk_at "w"
   ·exact ih
theorem Mu{t:Tr}(ho:t.ok)(hz:t.size<500)(hh:t.ĭ≤5){ps:List LP}(hp:∀p∈ps,p.Ok∧p.uid≠0)(hl:ps.length<900){H₁:List Cell}{c:V}(hc:Ô H c=some (H₁,.lst (LS ps))):
  Ev Ê (.call (d+121) 78 [Î t,c] H) (⟨H₁,[],[]⟩,.val (.lst (b_ (fun k p=>Ď p k ps.length (cB ps) t) 0 ps))):=by
 refine oU (D:=120) (vs':=[Î t,.lst (LS ps)]) (by exact î _ _) ?_ (yj ho hz hh ps hp hl) rfl;have e:=œ (Ī t) H;simp only[Ē,e,hc,bO,bw,fg,az]
theorem Mt{ps:List LP}(hp:∀p∈ps,p.Ok∧p.uid≠0)(hl:ps.length<900){H₁:List Cell}{c:V}(hc:Ô H c=some (H₁,.lst (ps.map fun p=>Ģ p .none))):
  Ev Ê (.call (d+121) 78 [Î plainT,c] H) (⟨H₁,[],[]⟩,.val (.lst (b_ (fun k p=>Ď p k ps.length (cB ps) plainT) 0 ps))):=by
 refine oU (D:=120) (vs':=[Î plainT,.lst (ps.map fun p=>Ģ p .none)]) (by exact î _ _) ?_ (yk ps hp hl) rfl;have e:=œ (Ī plainT) H;simp only[Ē,e,hc,bO,bw,fg,az]
structure Ls(ps:List LP)(u:Nat):Prop where
 ok:∀q∈ps,q.Ok∧q.uid≠0
 last:ps≠[]→cB ps=u
theorem lN:∀(ps:List LP) (q:LP),cB (ps++[q])=q.uid
 |[],q=>rfl
 |[p],q=>rfl
 |p::p'::r,q=>lN (p'::r) q
theorem Ls.snoc{ps:List LP}{u:Nat}(h:Ls ps u){q:LP}(hq:q.Ok)(h0:q.uid≠0):Ls (ps++[q]) q.uid:=⟨fun x hx=>by
 rcases sx.mp hx with hx|hx
 ·exact h.ok x hx
 ·rw[Ė]at hx;subst hx;exact⟨hq,h0⟩,fun À=>lN ps q⟩
theorem G_(ps:List LP)(q:LP):LS ps++[Ü q]=LS (ps++[q]):=by unfold LS;rw[dS];rfl
theorem G9(ps:List LP)(q:LP):RS ps++[Ķ q]=RS (ps++[q]):=by unfold RS;rw[dS];rfl
theorem so{g0 g1:Cell}{arg:V}{t6:List (Option V)}{kt:List (Option V)}:∀(n:Nat) (i:Int) (ps:List LP) (p:bJ) (B:Int) (u:Nat) (x3 x4 x5:Option V),p.Ok B→B+20*n+60<1000000→Ls ps u→ps.length+n<100→
  ∃(LK:List LP) (p':bJ) (u':Nat) (y3 y4 y5:Option V),A4 (p'.Ok (B+20*n)) (Ls LK u') (LK.length<100) (Ev Ê (.qF (d+12) (.n false 3) (mJ i n) [.as (.n true 1) (.bi 0 (.bi 0 (.k 1) Ì) (.fn 80 [.l 1,.c (.int 3)])),.as (.t [(false,4),(false,5)]) (.fn 82 [.l 1,.k 1]),.ex (.me Ë 7 [.l 4]),.ex (.me Ğ 7 [.l 5])]
    ⟨[g0,g1,.lst (ð p),.lst (LS ps),.lst (RS ps)],some arg::some (.Ó 2)::some (.Ó 3)::x3::x4::x5::t6,some (.Ó 4)::some (.int u)::kt⟩)
    (⟨[g0,g1,.lst (ð p'),.lst (LS LK),.lst (RS LK)],some arg::some (.Ó 2)::some (.Ó 3)::y3::y4::y5::t6,some (.Ó 4)::some (.int u')::kt⟩,.next))
 |0,i,ps,p,B,u,x3,x4,x5,hp,hB,hl,hn=>⟨ps,p,u,x3,x4,x5,hp.up (by exact ì [_] .z Â (.a Â (.m 20 đ)) rfl),hl,by assumption,ug⟩
 |n+1,i,ps,p,B,u,x3,x4,x5,hp,hB,hl,hn=>by
  obtain⟨r,p1,h1,o1,c1⟩:=ý hp (by omega) (m:=3) (by exact ī _) (by exact î _ _);obtain⟨q,p2,⟨hq,hu⟩,o2,c2⟩:=vc o1 (by omega) (u+1+r);obtain⟨LK,p',u',y3,y4,y5,o3,l3,n3,ih⟩:=so n (i+1) (ps++[q]) p2 (B+1+12) q.uid (some (.int i)) (some (Ü q)) (some (Ķ q)) o2 (by exact ì [_,_] (.c (.a (.a (.a Â (.m 20 (.a È Á))) h_) Á) Ù .z) (.a (.a (.a (.a (.a Â Á) (.n 12)) (.m 20 È)) h_) Á) Ù rfl hB) (hl.snoc hq (by exact fun eH=>Nc [_,_,_] (.c (.a (.a á Á) Â) È (.c È đ .z)) rfl (ņ hu.symm) (ņ eH))) (by rw[Ċ,sz];exact â [_,_] (.c (.a (.a Â (.a È Á)) Á) bN .z) (.a (.a (.a Â Á) È) Á) bN rfl hn);refine⟨LK,p',u',y3,y4,y5,o3.up (by exact ì [_,_] .z (.a (.a (.a Â Á) (.n 12)) (.m 20 È)) (.a Â (.m 20 (.a È Á))) rfl),l3,n3,?_⟩;have zu:small (LS ps)=true:=é (by unfold LS;rw[ĕ];exact â [_,_] (.c (.a (.a Â (.a È Á)) Á) bN .z) (.a Â Á) Ù rfl hn);have HD:small (RS ps)=true:=é (by unfold RS;rw[ĕ];exact â [_,_] (.c (.a (.a Â (.a È Á)) Á) bN .z) (.a Â Á) Ù rfl hn);have a1:=G_ ps q;have a2:=G9 ps q;rw[hu]at ih;rw[←a1,←a2]at ih;have eu:((u+1+r:Nat):Int)=(u:Int)+1+(r:Int):=rfl;rw[eu]at c2 ih;rw[fB];apply mO
  ·rfl
  ·walk_at "w"
  ·repeat1' apply vH
  ·exact ih
noncomputable def KU(b:Bool)(v:V):Cell:=match b,v with
 |true,v=>.Ô v
 |false,.lst l=>.lst l
 |false,v=>.Ô v
section
variable{P:ċ}{S:St}{a b x y z:Cell}{a2 b2 x2 y2 z2:Cell}{T T2:List Cell}{ρ κ Ŗ ĺ:List (Option V)}{elt it:PE}{ifs:List PE}{tg:List Nat}{v v':V}{vs l:List V}{n:Nat}
theorem co5{H₁:List Cell}(h1:Ev P (.ev (d+1) it S) (⟨H,ρ,κ⟩,.val v))(h2:Ô H v=some (H₁,v'))(h3:items v'=some l)(h4:Ev P (.fj d elt tg ifs l [] ⟨H₁,ĥ n none,κ⟩) (⟨a2::b2::x2::y2::z2::T2,Ŗ,ĺ⟩,.vals vs)):
  Ev P (.ev (d+1) (.co elt tg it ifs n) S) (⟨a2::b2::x2::y2::z2::(T2++[.lst vs]),ρ,ĺ⟩,.val (.Ó (T2.length+5))):=lj h1 h2 h3 h4
end
theorem fz3{b:Bool}{a c x z:Cell}{l:List V}{T:List Cell}:Ô (a::c::x::KU b (.lst l)::z::T) (.Ó 3)=some (a::c::x::.Ô (.lst l)::z::T,.lst l):=by induction b using ñ<;>rfl
theorem fz4{b:Bool}{a c x y:Cell}{l:List V}{T:List Cell}:Ē (a::c::x::y::KU b (.lst l)::T) [.Ó 4]=some (a::c::x::y::.Ô (.lst l)::T,[.lst l]):=by induction b using ñ<;>rfl
theorem Ma{a c x y z:Cell}{l:List V}{T:List Cell}:view (a::c::x::y::z::(T++[.lst l])) (.Ó (T.length+5))=some (.lst l):=by
 have:ç (a::c::x::y::z::(T++[Cell.lst l])) (T.length+5)=some (.lst l):=ē T _;simp only[view,this,bO,bw,fg,az]
theorem Ci{ps:List LP}{u:Nat}(h:Ls ps u){t:Tr}:b_ (fun k p=>Ď p k ps.length (cB ps) t) 0 ps=b_ (fun k p=>Ď p k ps.length u t) 0 ps:=by
 induction ps using Ŭ with
 |nil=>rfl
 |cons p r=>rw[h.last (by simp)]
theorem turn{g0 g1:Cell}{p:bJ}{B:Int}(hp:p.Ok B)(hB:B+60<1000000){ps:List LP}{u:Nat}(hl:Ls ps u)(hn:ps.length<100){b:Bool}{T:List Cell}{x0 x3 x4 x5 x6 x7 k2 k3:Option V}{t8:List (Option V)}:
  ∃(t:Tr) (X:List V) (p':bJ),p'.Ok (B+25)∧
   Ev Ê (.dj (d+125) [.as (.n true 2) (.fn 86 [.l 1]),.as (.n false 7) (.co (.bi 0 Ã Ì) [1] (.bl 11 [.bl 0 [.k 0]]) [.fn 90 [.k 2,.ix Ğ Ã,.bi 0 Ã Ì,.bl 0 [.k 0],.k 1]] 2),.if (.cm (.fn 78 [.k 2,.l 2]) [1] [.l 7]) [.re (.c (.bool false))] []]
    ⟨g0::g1::.lst (ð p)::KU b (.lst (LS ps))::KU b (.lst (RS ps))::T,x0::some (.Ó 2)::some (.Ó 3)::x3::x4::x5::x6::x7::t8,[some (.Ó 4),some (.int u),k2,k3]⟩)
    (⟨g0::g1::.lst (ð p')::.Ô (.lst (LS ps))::.Ô (.lst (RS ps))::(T++[.lst X]),x0::some (.Ó 2)::some (.Ó 3)::x3::x4::x5::x6::some (.Ó (T.length+5))::t8,[some (.Ó 4),some (.int u),some (Î t),k3]⟩,.next):=by
 obtain⟨t,p',⟨ho,hz,hh⟩,o1,c1⟩:=zP hp (by exact ì [_] (.c (.a (.a Â h_) Á) Ù .z) (.a (.a Â bt) Á) Ù rfl hB);obtain⟨x',c2⟩:=lH (d:=d) (H:=g0::g1::.lst (ð p')::KU b (.lst (LS ps))::.Ô (.lst (RS ps))::T) ho hh (fun q hq=>(hl.ok q hq).1) (by exact è ‹_› (by decide)) (last:=u) (k3:=k3) rfl ps [] [] none none rfl (Ĭ _);have c3:=Mu (d:=d+4) (H:=g0::g1::.lst (ð p')::KU b (.lst (LS ps))::.Ô (.lst (RS ps))::(T++[.lst (b_ (fun k p=>Ď p k ps.length u t) 0 ps)])) ho hz hh hl.ok (by exact è ‹_› (by decide)) fz3;rw[Ci hl]at c3;have dY:=(xt (f:=fun k p=>Ď p k ps.length u t) ps 0).ne;rw[oq,jF]at c2;rw[cC]at c2;generalize b_ (fun k p=>Ď p k ps.length u t) 0 ps=X at c2 c3 dY;refine⟨t,X,p',o1,?_⟩;have F6:blt 0 [.lst (RS ps)]=some (.int ps.length):=by
  have:=bW (l:=RS ps) (by unfold RS;rw[ĕ];exact è ‹_› (by decide));rw[this];unfold RS;rw[ĕ]
 have KH:ą (ps.length:Int)=true:=by
  unfold ą ĩ;rw[au];exact⟨decide_eq_true (by exact ì [_] (.c (.a Â Á) bN .z) (.a Â Á) Ù rfl (bx.mpr hn)),decide_eq_true (by exact jG _)⟩
 have f4:=fz4 (b:=b) (a:=g0) (c:=g1) (x:=.lst (ð p')) (y:=KU b (.lst (LS ps))) (l:=RS ps) (T:=T);apply Ò
 ·apply ū
  ·apply lg
   ·exact Ř (aR rfl) Ų
   ·exact c1 _ _ _ _
  ·exact vH rfl rfl
 apply Ò
 ·apply ū
  ·apply co5
   ·apply Ő
    ·apply Ř
     ·apply j0
      ·exact Ř (Ar rfl) Ų
      ·exact f4
      ·exact F6
      ·rfl
     ·exact Ų
    ·rfl
    ·exact KH
   ·rfl
   ·rfl
   ·exact c2
  ·exact qR rfl rfl
 apply Ò
 ·apply hH (q:=false)
  ·apply jY
   ·apply lg
    ·exact Ř (Ar rfl) (Ř (aR rfl) Ų)
    ·exact c3
   ·apply y7
    ·exact aR rfl
    ·rfl
    ·exact Ma
    ·exact dY
  ·intro h;exact à h
  ·intro _;exact gr
 exact gr
theorem c_{α}{x:α}{Y:List α}:∀{l:List α} {i:Nat},ç l i=some x→ç (l++Y) i=some x
 |[],_,h=>by exact nS h
 |a::r,0,h=>h
 |a::r,i+1,h=>c_ (l:=r) h
def sq(q:LP):V:=Ģ q .none
theorem sQ{q:LP}(hs:small (ħ q)=true):
  Ev Ê (.call (d+2) 92 [.Ó H.length,.int q.uid,.none,.tup (ħ q),.int (dX q.sp q.ti),.int q.mo] (H++[.ins 0 []])) (⟨H++[.ins 0 [(13,.int q.uid),(14,.none),(15,.tup (ħ q)),(16,.int (dX q.sp q.ti)),(17,.int q.mo)]],[],[]⟩,.val .none):=by
 apply eE (S:=⟨H++[.ins 0 []],[some (.Ó H.length),some (.int q.uid),some .none,some (.tup (ħ q)),some (.int (dX q.sp q.ti)),some (.int q.mo)],[]⟩) rfl rfl
 ·apply Ò
  ·apply ū
   ·exact aR rfl
   ·exact dA (aR rfl) rfl (ē _ _) rfl rfl Ľ
  apply Ò
  ·apply ū
   ·exact aR rfl
   ·exact dA (aR rfl) rfl (ē _ _) rfl rfl Ľ
  apply Ò
  ·apply ū
   ·apply j0
    ·exact Ř (aR rfl) Ų
    ·rfl
    ·rfl
    ·rfl
   ·exact dA (aR rfl) rfl (ē _ _) rfl rfl Ľ
  apply Ò
  ·apply ū
   ·exact aR rfl
   ·exact dA (aR rfl) rfl (ē _ _) rfl rfl Ľ
  apply Ò
  ·apply ū
   ·exact aR rfl
   ·exact dA (aR rfl) rfl (ē _ _) rfl rfl Ľ
  exact gr
 ·exact pQ
theorem tc(q:LP):small (ħ q)=true:=by
 obtain⟨_,_,_,_,f0,f1,f2,f3,_,_,_⟩:=q
 induction f0 using ñ<;>induction f1 using ñ<;>induction f2 using ñ<;>induction f3 using ñ<;>rfl
theorem Li{κ:List (Option V)}(qs:List LP)(H:List Cell)(acc:List V)(x:Option V)(y:Option V)(hl:acc.length+qs.length<1000):∃(Y:List Cell) (x':Option V),
  Ev Ê (.fj (d+4) (.cl 0 [.at Ã 13,.c .none,.at Ã 15,.at Ã 16,.at Ã 17]) [1] [] (LS qs) acc ⟨H,[x,y],κ⟩) (⟨H++Y,[x,x'],κ⟩,.vals (acc.reverse++qs.map sq)):=by
 induction qs generalizing H acc x y with
 |nil=>
  exact⟨[],y,by
   have e:=i_ (P:=Ê) (d:=d+4) (elt:=(.cl 0 [.at Ã 13,.c .none,.at Ã 15,.at Ã 16,.at Ã 17])) (tg:=[1]) (ifs:=[]) (acc:=acc) (S:=⟨H,[x,y],κ⟩);rw[Ŵ,fN,Ŵ];exact e⟩
 |cons q qs IH=>
  rw[ă]at hl;have c:=sQ (d:=d+1) (H:=H) (tc q);have hz:=gj (H:=H) (c:=0) (l:=[(13,.int q.uid),(14,.none),(15,.tup (ħ q)),(16,.int (dX q.sp q.ti)),(17,.int q.mo)]);obtain⟨Y,x',ih⟩:=IH (H++[.Ô (sq q)]) (sq q::acc) x (some (Ü q)) (by rw[ă];exact â [_,_] (.c (.a (.a Â (.a È Á)) Á) aV .z) (.a (.a (.a Â Á) È) Á) aV rfl hl);refine⟨[.Ô (sq q)]++Y,x',?_⟩;rw[ar,Ĝ,Ĝ]at ih;have hm:(Ð (Ü q)&&small acc)=true:=é (by exact â [_,_] (.c (.a (.a Â (.a È Á)) Á) aV .z) (.a Â Á) Ù rfl hl);show Ev Ê (.fj (d+4) _ _ _ (Ü q::LS qs) acc _) _;apply ke hm
  ·walk_at "w"
  ·exact gP
  ·apply uK
   ·walk_at "w"
   ·rfl
   ·exact c
   ·rfl
   ·exact hz
  ·rfl
  ·exact ih
theorem Lh{ps:List LP}{u:Nat}(hl:Ls ps u)(hn:ps.length<100)(h3:ç H 3=some (.Ô (.lst (LS ps))))(h4:ç H 4=some (.Ô (.lst (RS ps)))){x0 x1 x3 x4 x5 x6 x7 x8 k2 k3:Option V}{t9:List (Option V)}{R:List PS}{v:V}
  (k:∀(Z:List Cell) (y8 PQ:Option V),∃S',Ev Ê (.dj (d+125) R ⟨H++Z,x0::x1::some (.Ó 3)::x3::x4::x5::x6::x7::y8::t9,[some (.Ó 4),some (.int u),k2,PQ]⟩) (S',.ret v)):
  ∃S',Ev Ê (.dj (d+125) (.as (.n false 8) (.co (.cl 0 [.at Ã 13,.c .none,.at Ã 15,.at Ã 16,.at Ã 17]) [1] Ë [] 2)::.as (.n true 3) (.tu [.c (.str [111,114]),.tu [.c (.str hW),.c (.str [107,119])],.tu [.c (.str [117,105,100]),.tu [.tu [.c (.int 2),.c (.int 0)]]]])::.if (.cm (.fn 78 [.k 3,.l 8]) [1] [.co (.bi 0 Ã Ì) [1] (.bl 11 [.bl 0 [.k 0]]) [.fn 90 [.k 3,.ix Ğ Ã,.bi 0 Ã Ì,.bl 0 [.k 0],.k 1]] 2]) [.re (.c (.bool false))] []::R)
    ⟨H,x0::x1::some (.Ó 3)::x3::x4::x5::x6::x7::x8::t9,[some (.Ó 4),some (.int u),k2,k3]⟩) (S',.ret v):=by
 obtain⟨Y,x',c1⟩:=Li (d:=d+120) (κ:=[some (.Ó 4),some (.int u),k2,k3]) ps H [] none none (by rw[cC];exact â [_] (.c (.a Â Á) bN .z) (.a (.a đ Â) Á) aV rfl hn);rw[oq,jF]at c1;have c2:=Mt (d:=d+4) (H:=H++Y++[.lst (ps.map sq)]) hl.ok (by exact è ‹_› (by decide)) iz;have h5:ç (H++Y++[.Ô (.lst (ps.map sq))]) 4=some (.Ô (.lst (RS ps))):=c_ (c_ h4);have ho:plainT.ok:=⟨by show 3<4;exact Ĭ _,trivial⟩;obtain⟨x2,c3⟩:=lG (d:=d) (H:=H++Y++[.Ô (.lst (ps.map sq))]) ho (by decide) (fun q hq=>(hl.ok q hq).1) (by exact è ‹_› (by decide)) (last:=u) (k2:=k2) h5 ps [] [] none none rfl (Ĭ _);rw[Ci hl]at c2;have dY:=(xt (f:=fun k p=>Ď p k ps.length u plainT) ps 0).ne;rw[oq,jF,cC]at c3;generalize b_ (fun k p=>Ď p k ps.length u plainT) 0 ps=X at c2 c3 dY;have F6:blt 0 [.lst (RS ps)]=some (.int ps.length):=by
  have:=bW (l:=RS ps) (by unfold RS;rw[ĕ];exact è ‹_› (by decide));rw[this];unfold RS;rw[ĕ]
 have KH:ą (ps.length:Int)=true:=by
  unfold ą ĩ;rw[au];exact⟨decide_eq_true (by exact ì [_] (.c (.a Â Á) bN .z) (.a Â Á) Ù rfl (bx.mpr hn)),decide_eq_true (by exact jG _)⟩
 obtain⟨S',k⟩:=k (Y++([.Ô (.lst (ps.map sq))]++[.lst X])) (some (.Ó (H++Y).length)) (some (Î plainT));rw[←Ĝ,←Ĝ]at k;refine⟨S',?_⟩;apply Ò
 ·apply ū
  ·apply lj
   ·exact aR rfl
   ·exact qA h3
   ·rfl
   ·exact c1
  ·exact qR rfl rfl
 apply Ò
 ·apply ū (v:=Î plainT)
  ·walk_at "w"
  ·exact vH rfl rfl
 apply Ò
 ·apply hH (q:=false)
  ·apply jY
   ·apply lg
    ·exact Ř (Ar rfl) (Ř (aR rfl) Ų)
    ·exact c2
   ·apply y7
    ·apply lj
     ·apply Ő
      ·apply Ř
       ·apply j0
        ·exact Ř (Ar rfl) Ų
        ·exact fU h5
        ·exact F6
        ·rfl
       ·exact Ų
      ·rfl
      ·exact KH
     ·rfl
     ·rfl
     ·exact c3
    ·rfl
    ·exact dE
    ·exact dY
  ·intro h;exact à h
  ·intro _;exact gr
 exact k
theorem l0{L pt:V}{k:Nat}(hL:Ð L=true)(hp:Ð pt=true):Ev Ê (.call (d+1) 109 [.Ó H.length,L,.int k,pt] (H++[.ins 6 []])) (⟨H++[.ins 6 [(46,L),(32,.int k),(47,pt)]],[],[]⟩,.val .none):=by
 have e1:=œ hL (H++[.ins 6 []]);have e2:=œ hp (H++[.ins 6 [(46,L),(32,.int k)]]);apply eE (S:=⟨H++[.ins 6 []],[some (.Ó H.length),some L,some (.int k),some pt],[]⟩) rfl rfl
 ·apply Ò
  ·apply ū
   ·exact aR rfl
   ·exact dA (aR rfl) e1 (ē _ _) rfl rfl Ľ
  apply Ò
  ·apply ū
   ·exact aR rfl
   ·exact dA (aR rfl) rfl (ē _ _) rfl rfl Ľ
  apply Ò
  ·apply ū
   ·exact aR rfl
   ·exact dA (aR rfl) e2 (ē _ _) rfl rfl Ľ
  exact gr
 ·exact pQ
def jx(q:LP)(k:Nat):V:=.ins 6 [(46,Ü q),(32,.int k),(47,.none)]
def nQ(q:LP)(k:Nat):V:=.ins 6 [(46,Ü q),(32,.int k),(47,Ġ q.n q.s q.b)]
theorem z8{q:LP}{k:Nat}:Ev Ê (.call (d+4) 77 [Ü q,.int k,.bool false] H) (⟨H,[],[]⟩,.val (jx q k)):=by
 have c:=l0 (d:=d+1) (H:=H) (k:=k) (show Ð (Ü q)=true from rfl) (pt:=.none) rfl;have hz:=gj (H:=H) (c:=6) (l:=[(46,Ü q),(32,.int k),(47,.none)]);apply É (S:=⟨H,[some (Ü q),some (.int k),some (.bool false)],[]⟩) rfl rfl;walk_at "w"
theorem SN{n s b:Nat}(hn:n<6)(hs:s<4)(hb:b<4):Ev Ê (.call (d+121) 49 [.bytes (txt n s b)] H) (⟨H,[],[]⟩,.val (Ġ n s b)):=
 Ek (M8 (d:=39) (H:=[]) hn hs hb) rfl rfl rfl
theorem yi{q:LP}(hq:q.Ok){k:Nat}:Ev Ê (.call (d+124) 77 [Ü q,.int k,.bool true] H) (⟨H,[],[]⟩,.val (nQ q k)):=by
 have c:=l0 (d:=d+121) (H:=H) (k:=k) (L:=Ü q) (pt:=Ġ q.n q.s q.b) rfl rfl;have c2:=SN (d:=d+2) (H:=H) hq.n hq.s hq.b;have hz:=gj (H:=H) (c:=6) (l:=[(46,Ü q),(32,.int k),(47,Ġ q.n q.s q.b)]);apply É (S:=⟨H,[some (Ü q),some (.int k),some (.bool true)],[]⟩) rfl rfl;walk_at "w"
theorem Ec{n:Nat}:Ev Ê (.call (d+121) 103 [fa n] H) (⟨H,[],[]⟩,.val (.str ŋ)):=Ek (use2 (d:=39) (H:=[]) (zJ (d:=19) (H:=[]) (n:=n)) rfl rfl rfl) rfl rfl rfl
theorem Eb{s:Nat}:Ev Ê (.call (d+121) 103 [cQ s] H) (⟨H,[],[]⟩,.val (.str ğ)):=Ek (use2 (d:=39) (H:=[]) (zI (d:=19) (H:=[]) (s:=s)) rfl rfl rfl) rfl rfl rfl
def kQ(q:LP):V:=.tup [.int q.uid,.bytes (txt q.n q.s q.b),.tup (ħ q),.int (dX q.sp q.ti),.int q.mo]
theorem Mg{q:LP}:Ev Ê (.call (d+3) 94 [Ü q] H) (⟨H,[],[]⟩,.val (kQ q)):=by
 apply É (S:=⟨H,[some (Ü q)],[]⟩) rfl rfl;walk_at "w"
theorem qg{b:Bool}{x:List Nat}{y:V}(h:y∈(if b then[V.str x]else[])):∃i,y=.str i:=by
 induction b using ñ with
 |true=>exact⟨_,Ė.mp h⟩
 |false=>cases h
theorem yS{q:LP}{y:V}(h:y∈ħ q):∃i,y=.str i:=by
 rcases sx.mp h with h|h
 ·exact qg h
 rcases sx.mp h with h|h
 ·exact qg h
 rcases sx.mp h with h|h
 ·exact qg h
 exact qg h
theorem Ex{q:LP}:cmp 1 (kQ q) (kQ q)=some false:=by
 have e:gO (kQ q) (kQ q)=some true:=pH fun x hx=>by
  rcases ĸ.mp hx with rfl|hx
  ·exact d_
  rcases ĸ.mp hx with rfl|hx
  ·exact xS
  rcases ĸ.mp hx with rfl|hx
  ·refine pH fun y hy=>?_;have:∃i,y=.str i:=yS hy;obtain⟨i,rfl⟩:=this;exact Eh
  rcases ĸ.mp hx with rfl|hx
  ·exact d_
  rcases ĸ.mp hx with rfl|hx
  ·exact d_
  ·cases hx
 show(gO (kQ q) (kQ q)).map not=_;rw[e];rfl
theorem E8{i j:Int}:cmp 1 (.tup [.int i,.int j]) (.tup [.int i,.int j])=some false:=by
 have e:gO (.tup [.int i,.int j]) (.tup [.int i,.int j])=some true:=pH fun x hx=>by
  rcases ĸ.mp hx with rfl|hx
  ·exact d_
  rcases ĸ.mp hx with rfl|hx
  ·exact d_
  ·cases hx
 show(gO (.tup [.int i,.int j]) (.tup [.int i,.int j])).map not=_;rw[e];rfl
theorem KD{i:Int}:cmp 1 (.int i) (.int i)=some false:=by
 show(gO (.int i) (.int i)).map not=_;rw[show gO (.int i) (.int i)=some true from d_];rfl
noncomputable def ah(n:Nat):List V:=match ď n 5 with
 |true=>[.str ŋ,.str ğ]
 |false=>[.str ğ]
theorem yu{n s:Nat}{κ:List (Option V)}{x y:Option V}:∃x',Ev Ê (.fj (d+122) (.me Ã 57 []) [1] [] (Ě n s) [] ⟨H,[x,y],κ⟩) (⟨H,[x,x'],κ⟩,.vals (ah n)):=by
 have c1:=Ec (d:=d+1) (H:=H) (n:=n);have c2:=Eb (d:=d+1) (H:=H) (s:=s);unfold Ě ah
 induction ď n 5 using ñ with
 |true=>
  refine⟨some (cQ s),?_⟩;apply ke (v:=fa n)
  ·rfl
  ·walk_at "w"
  ·exact gP
  ·walk_at "w"
  ·rfl
  apply ke (v:=cQ s)
  ·rfl
  ·walk_at "w"
  ·exact gP
  ·walk_at "w"
  ·rfl
  exact i_
 |false=>
  refine⟨some (cQ s),?_⟩;apply ke (v:=cQ s)
  ·rfl
  ·walk_at "w"
  ·exact gP
  ·walk_at "w"
  ·rfl
  exact i_
theorem Lm{q:LP}:cmp 1 (.lst (ah q.n)) (.lst (ah q.n))=some false:=by
 unfold ah
 induction ď q.n 5 using ñ<;>rfl
theorem AR{α}{x y:α}(X:List α):ç (X++[x]++[y]) X.length=some x:=by
 induction X with
 |nil=>
  exact rfl
 |cons a X IH=>
  exact IH
theorem JL{α}{x y z:α}(X:List α):put (X++[x]++[y]) X.length z=X++[z]++[y]:=by
 induction X with
 |nil=>
  exact rfl
 |cons a X IH=>
  exact congrArg (a:: ·) IH
theorem B4{l:List V}{y:Cell}:Ô (H++[.lst l]++[y]) (.Ó H.length)=some (H++[.Ô (.lst l)]++[y],.lst l):=by simp only[Ô,AR,JL,bO,bw,fg,az]
theorem B3{l:List V}{x y:Cell}:Ô (H++[x]++[.lst l]) (.Ó (H++[y]).length)=some (H++[x]++[.Ô (.lst l)],.lst l):=by
 have e:(H++[y]).length=(H++[x]).length:=by rw[Ċ,Ċ];rfl
 rw[e];exact iz
theorem Ef{l:List V}{y:Cell}:view (H++[.lst l]++[y]) (.Ó H.length)=some (.lst l):=by simp only[view,AR,bO,bw,fg,az]
theorem A0{q:LP}(hq:q.Ok){S:St}{ρ κ:List (Option V)}(c:Ev Ê (.ev d (.ix (.ix Ğ ü) jy) ⟨H,ρ,κ⟩) (⟨H,ρ,κ⟩,.val (.str (Æ ä q.n)))):
  ∃X,Ev Ê (.ev d (.bi 0 (.te (.cm (.ix (.ix Ğ ü) jy) [1] [.c (.str [])]) (.li [.c (.str ŋ)]) (.li [])) (.li [.c (.str ğ)])) ⟨H,ρ,κ⟩) (⟨H++X++[.lst (ah q.n)],ρ,κ⟩,.val (.Ó (H++X).length)):=by
 obtain⟨_,hc⟩:=xv hq.n;unfold ah
 induction hb:ď q.n 5 using ñ with
 |true=>
  rw[hb]at hc;refine⟨[.Ô (.lst [.str ŋ])]++[.Ô (.lst [.str ğ])],?_⟩;rw[←Ĝ];apply rH
  ·apply JI (q:=true)
   ·apply jY
    ·exact c
    ·exact y7 nV rfl rfl hc
   ·intro _;exact i8 (Ř nV Ų) rfl rfl
   ·intro h;exact Ĕ h
  ·exact i8 (Ř nV Ų) rfl rfl
  ·exact B4
  ·exact B3
  ·rfl
  ·rfl
 |false=>
  rw[hb]at hc;refine⟨[.Ô (.lst [])]++[.Ô (.lst [.str ğ])],?_⟩;rw[←Ĝ];apply rH
  ·apply JI (q:=false)
   ·apply jY
    ·exact c
    ·exact y7 nV rfl rfl hc
   ·intro h;exact à h
   ·intro _;exact i8 Ų rfl rfl
  ·exact i8 (Ř nV Ų) rfl rfl
  ·exact B4
  ·exact B3
  ·rfl
  ·rfl
theorem yD{ps pre qs:List LP}{q:LP}(e:ps=pre++q::qs)(hn:ps.length<100)(hq:q.Ok)(h3:ç H 3=some (.Ô (.lst (LS ps))))(h4:ç H 4=some (.Ô (.lst (RS ps)))){x0 x1 x3 x4 x5 x7 x8 x9 x10 x11:Option V}{κ:List (Option V)}:
  ∃(Z:List Cell) (y9 Iz Iy:Option V),
   Ev Ê (.dj (d+128) [.as (.n false 9) (.fn 77 [.ix Ë ü,.bi 0 ť ü,.c (.bool false)]),.as (.n false 10) (.fn 77 [.ix Ë ü,.bi 0 ť ü,.c (.bool true)]),.if (.bo false [.cm (.at cw 47) [7] [.c .none],.cm (.tu [.at cw 32,.at (.at cw 46) 13]) [1] [.tu [.bi 0 ť ü,.ix (.ix Ğ ü) nW]],.cm (.at dJ 32) [1] [.bi 0 ť ü]]) [.re (.c (.bool false))] [],.as (.n false 11) (.bi 0 (.te (.cm (.ix (.ix Ğ ü) jy) [1] [.c (.str [])]) (.li [.c (.str ŋ)]) (.li [])) (.li [.c (.str ğ)])),.if (.bo false [.cm (.co (.me Ã 57 []) [1] (.at (.at dJ 47) 40) [] 2) [1] [.l 11],.cm (.me (.at dJ 46) 58 []) [1] [.me (.ix Ë ü) 58 []]]) [.re (.c (.bool false))] []]
    ⟨H,[x0,x1,some (.Ó 3),x3,x4,x5,some (.int pre.length),x7,x8,x9,x10,x11],some (.Ó 4)::κ⟩)
    (⟨H++Z,[x0,x1,some (.Ó 3),x3,x4,x5,some (.int pre.length),x7,x8,y9,Iz,Iy],some (.Ó 4)::κ⟩,.next):=by
 have PV:pre.length<100:=by
  have:=congrArg oN e;rw[Ċ,ă]at this;exact â [_,_,_] (.c (.a È Á) bN (.c (.a Â (.a á Á)) È .z)) (.a Â Á) bN rfl hn (ņ this.symm)
 have c1:=z8 (d:=d+124) (H:=H) (q:=q) (k:=7+pre.length);have c2:=yi (d:=d+4) (H:=H) hq (k:=7+pre.length);have ek:((7+pre.length:Nat):Int)=7+(pre.length:Int):=rfl;rw[ek]at c1 c2;have hv3:=fw h3;have hv4:=fw h4;have i3:item (.lst (LS ps)) (.int pre.length)=some (Ü q):=by rw[e];exact F1 (by exact è ‹_› (by decide))
 have i4:item (.lst (RS ps)) (.int pre.length)=some (Ķ q):=by rw[e];exact qp (by exact è ‹_› (by decide))
 have n1:cmp 1 (.tup [.int ((7+pre.length:Nat):Int),.int q.uid]) (.tup [.int (7+(pre.length:Int)),.int q.uid])=some false:=by rw[ek];exact E8
 have n2:cmp 1 (.int ((7+pre.length:Nat):Int)) (.int (7+(pre.length:Int)))=some false:=by rw[ek];exact KD
 obtain⟨X,c3⟩:=A0 (d:=d+128) (H:=H) hq (S:=⟨[],[],[]⟩) (ρ:=[x0,x1,some (.Ó 3),x3,x4,x5,some (.int pre.length),x7,x8,some (jx q (7+pre.length)),some (nQ q (7+pre.length)),x11]) (κ:=some (.Ó 4)::κ) (by walk_at "w");have g3:ç (H++X++[.lst (ah q.n)]) 3=some (.Ô (.lst (LS ps))):=c_ (c_ h3);have g3':ç (H++X++[.lst (ah q.n)]++[.lst (ah q.n)]) 3=some (.Ô (.lst (LS ps))):=c_ g3;have v3:=fw g3';obtain⟨x',c4⟩:=yu (d:=d+5) (H:=H++X++[.lst (ah q.n)]) (n:=q.n) (s:=q.s) (κ:=some (.Ó 4)::κ) (x:=none) (y:=none);have c5:=Mg (d:=d+125) (H:=H++X++[.lst (ah q.n)]++[.lst (ah q.n)]) (q:=q);have n3:=Ex (q:=q);refine⟨X++([.lst (ah q.n)]++[.lst (ah q.n)]),some (jx q (7+pre.length)),some (nQ q (7+pre.length)),some (.Ó (H++X).length),?_⟩;rw[←Ĝ,←Ĝ];have s1:Ev Ê (.ex (d+128) (.as (.n false 9) (.fn 77 [.ix Ë ü,.bi 0 ť ü,.c (.bool false)])) ⟨H,[x0,x1,some (.Ó 3),x3,x4,x5,some (.int pre.length),x7,x8,x9,x10,x11],some (.Ó 4)::κ⟩) (⟨H,[x0,x1,some (.Ó 3),x3,x4,x5,some (.int pre.length),x7,x8,some (jx q (7+pre.length)),x10,x11],some (.Ó 4)::κ⟩,.next):=by
  repeat1' apply ū
 have s2:Ev Ê (.ex (d+128) (.as (.n false 10) (.fn 77 [.ix Ë ü,.bi 0 ť ü,.c (.bool true)])) ⟨H,[x0,x1,some (.Ó 3),x3,x4,x5,some (.int pre.length),x7,x8,some (jx q (7+pre.length)),x10,x11],some (.Ó 4)::κ⟩) (⟨H,[x0,x1,some (.Ó 3),x3,x4,x5,some (.int pre.length),x7,x8,some (jx q (7+pre.length)),some (nQ q (7+pre.length)),x11],some (.Ó 4)::κ⟩,.next):=by
  repeat1' apply ū
 have s3:Ev Ê (.gv (d+128) (.bo false [.cm (.at cw 47) [7] [.c .none],.cm (.tu [.at cw 32,.at (.at cw 46) 13]) [1] [.tu [.bi 0 ť ü,.ix (.ix Ğ ü) nW]],.cm (.at dJ 32) [1] [.bi 0 ť ü]]) ⟨H,[x0,x1,some (.Ó 3),x3,x4,x5,some (.int pre.length),x7,x8,some (jx q (7+pre.length)),some (nQ q (7+pre.length)),x11],some (.Ó 4)::κ⟩) (⟨H,[x0,x1,some (.Ó 3),x3,x4,x5,some (.int pre.length),x7,x8,some (jx q (7+pre.length)),some (nQ q (7+pre.length)),x11],some (.Ó 4)::κ⟩,.val (.bool false)):=by
  walk_at "w"
 apply Ò s1;apply Ò s2;apply Ò
 ·apply hH s3
  ·intro h;exact à h
  ·intro _;exact gr
 apply Ò
 ·apply ū c3;exact qR rfl rfl
 apply Ò
 ·apply hH (q:=false)
  ·apply ya;apply rh (p:=false)
   ·apply jY
    ·apply lj
     ·walk_at "w"
     ·rfl
     ·rfl
     ·exact c4
    ·exact y7 (aR rfl) dE Ef Lm
   ·intro _;apply rh (p:=false)
    ·apply jY
     ·apply JJ (j:=94) rfl
      ·walk_at "w"
      ·rfl
      ·rfl
      ·rfl
      ·rfl
      ·exact Ų
      ·exact c5
     ·apply y7
      ·apply JJ (j:=94) rfl
       ·walk_at "w"
       ·rfl
       ·rfl
       ·rfl
       ·rfl
       ·exact Ų
       ·exact c5
      ·rfl
      ·rfl
      ·exact n3
    ·intro _;exact gP
    ·intro h;exact à h
   ·intro h;exact à h
  ·intro h;exact à h
  ·intro _;exact gr
 exact gr
theorem oj{ps:List LP}(hp:∀q∈ps,q.Ok)(hn:ps.length<100){x0 x1 x3 x4 x5 x7 x8:Option V}{κ:List (Option V)}:∀(qs pre:List LP) (H:List Cell) (x6 x9 x10 x11:Option V),ps=pre++qs→ç H 3=some (.Ô (.lst (LS ps)))→ç H 4=some (.Ô (.lst (RS ps)))→
  ∃(Z:List Cell) (y6 y9 Iz Iy:Option V),
   Ev Ê (.qF (d+128) (.n false 6) (mJ pre.length qs.length) [.as (.n false 9) (.fn 77 [.ix Ë ü,.bi 0 ť ü,.c (.bool false)]),.as (.n false 10) (.fn 77 [.ix Ë ü,.bi 0 ť ü,.c (.bool true)]),.if (.bo false [.cm (.at cw 47) [7] [.c .none],.cm (.tu [.at cw 32,.at (.at cw 46) 13]) [1] [.tu [.bi 0 ť ü,.ix (.ix Ğ ü) nW]],.cm (.at dJ 32) [1] [.bi 0 ť ü]]) [.re (.c (.bool false))] [],.as (.n false 11) (.bi 0 (.te (.cm (.ix (.ix Ğ ü) jy) [1] [.c (.str [])]) (.li [.c (.str ŋ)]) (.li [])) (.li [.c (.str ğ)])),.if (.bo false [.cm (.co (.me Ã 57 []) [1] (.at (.at dJ 47) 40) [] 2) [1] [.l 11],.cm (.me (.at dJ 46) 58 []) [1] [.me (.ix Ë ü) 58 []]]) [.re (.c (.bool false))] []]
    ⟨H,[x0,x1,some (.Ó 3),x3,x4,x5,x6,x7,x8,x9,x10,x11],some (.Ó 4)::κ⟩)
    (⟨H++Z,[x0,x1,some (.Ó 3),x3,x4,x5,y6,x7,x8,y9,Iz,Iy],some (.Ó 4)::κ⟩,.next)
 |[],pre,H,x6,x9,x10,x11,e,h3,h4=>⟨[],x6,x9,x10,x11,by rw[Ŵ];exact ug⟩
 |q::qs,pre,H,x6,x9,x10,x11,e,h3,h4=>by
  obtain⟨Z,y9,Iz,Iy,c⟩:=yD (d:=d) (H:=H) (κ:=κ) (x0:=x0) (x1:=x1) (x3:=x3) (x4:=x4) (x5:=x5) (x7:=x7) (x8:=x8) (x9:=x9) (x10:=x10) (x11:=x11) e hn (hp q (by rw[e];simp)) h3 h4;obtain⟨Z2,y6,z9,Yv,Yu,ih⟩:=oj hp hn qs (pre++[q]) (H++Z) (some (.int pre.length)) y9 Iz Iy (by rw[e,Ĝ];rfl) (c_ h3) (c_ h4);refine⟨Z++Z2,y6,z9,Yv,Yu,?_⟩;rw[Ċ,Ĝ]at ih;rw[ă,fB];apply mO
  ·rfl
  ·exact qR rfl rfl
  ·exact c
  ·exact ih
theorem Gx{f:Nat→LP→Bool}(hf:∀k p,f k p=true)(ps:List LP)(n:Nat):b_ f n ps=mJ ((n:Int)+1) ps.length:=by
 induction ps generalizing n with
 |nil=>
  exact rfl
 |cons p r IH=>
  rw[Cg (hf _ _),IH (n+1),ă,fB];rfl
theorem wq:∀(n:Nat) (i:Int),AllInt (mJ i n)
 |0,_=>fun x hx=>by cases hx
 |n+1,i=>fun x hx=>by
  rcases ĸ.mp hx with rfl|hx
  ·exact⟨_,rfl⟩
  ·exact wq n (i+1) x hx
theorem qu{i:Int}(h0:0≤i)(h1:i<1000):ą i=true:=by
 unfold ą ĩ;rw[au];exact⟨decide_eq_true (by exact wW ‹_› (by decide)),decide_eq_true (by omega)⟩
theorem KX{ps:List LP}{u:Nat}(hl:Ls ps u)(hn:ps.length<100)(h3:ç H 3=some (.Ô (.lst (LS ps)))){x0 x1:Option V}{ρ κ:List (Option V)}:
  ∃S',Ev Ê (.dj (d+129) [.re (.cm (.fn 78 [.tu [.c (.str [97,108,108])],.l 2]) [0] [.bl 10 [.c (.int 1),.bi 0 (.bl 0 [.l 2]) Ì]])] ⟨H,x0::x1::some (.Ó 3)::ρ,κ⟩) (S',.ret (.bool true)):=by
 have c:=Mu (d:=d+8) (H:=H) (t:=.leaf .all) trivial (by decide) (by decide) hl.ok (by exact è ‹_› (by decide)) (qA h3);rw[Gx (f:=fun k p=>Ď p k ps.length (cB ps) (.leaf .all)) (fun À À=>rfl)]at c;have F6:blt 0 [.lst (LS ps)]=some (.int ps.length):=by
  have:=bW (l:=LS ps) (by unfold LS;rw[ĕ];exact è ‹_› (by decide));rw[this];unfold LS;rw[ĕ]
 have e:((ps.length:Int)+1 - 1).toNat=ps.length:=by omega
 have Gf:=ll (P:=Ê) (d:=d+129) (as:=[.c (.int 1),.bi 0 (.bl 0 [.l 2]) Ì]) (S:=⟨H,x0::x1::some (.Ó 3)::ρ,κ⟩) (H:=H) (H₁:=H) (ρ:=x0::x1::some (.Ó 3)::ρ) (κ:=κ) (vs:=[.int 1,.int ((ps.length:Int)+1)]) (p:=1) (q:=(ps.length:Int)+1) (by
  apply Ř nV;apply Ř
  ·apply rH
   ·apply j0
    ·exact Ř (aR rfl) Ų
    ·exact fU h3
    ·exact F6
    ·rfl
   ·exact nV
   ·rfl
   ·rfl
   ·rfl
   ·rfl
  ·exact Ų) rfl (by rw[qu (by decide) (by decide),qu (by exact jG _) (by exact ì [_] (.c (.a Â Á) bN .z) (.a (.a Â Á) Á) aV rfl (bx.mpr hn))];rfl)
 rw[e]at Gf;refine⟨⟨H++[.lst (mJ 1 ps.length)],x0::x1::some (.Ó 3)::ρ,κ⟩,?_⟩;have heq:cmp 0 (.lst (mJ 1 ps.length)) (.lst (mJ 1 ps.length))=some true:=(wq ps.length 1).eq;apply dp;apply qX;apply yq
 ·apply lg
  ·apply Ř
   ·exact uJ (Ř nV Ų) rfl rfl
   apply Ř
   ·exact aR rfl
   ·exact Ų
  ·exact c
 ·apply y7
  ·exact Gf
  ·rfl
  ·exact dE
  ·exact heq
theorem Kg{xs:List Int}(h:xs.length<1000000)(d:Nat):∃S',Ev Ê (.call (d+130) 91 [.lst (xs.map .int)] []) (S',.val (.bool true)):=by
 obtain⟨g0,g1,p,fq,hp,c1⟩:=Lj h (d+121);obtain⟨r,p1,hr,o1,c2⟩:=ý hp (by decide) (m:=5) (by exact ī _) (by exact î _ _);obtain⟨ps,p2,u,y3,y4,y5,o2,hl,hn,c3⟩:=so (d:=d+116) (g0:=g0) (g1:=g1) (arg:=.lst (xs.map .int)) (t6:=[none,none,none,none,none,none]) (kt:=[none,none]) r 0 [] p1 _ 0 none none none o1 (by omega) ⟨(by intro x hx;cases hx),(fun h=>absurd rfl h)⟩ (by rw[cC];exact â [_] (.c (.a Â Á) jB .z) (.a (.a đ Â) Á) bN rfl hr);obtain⟨t1,X1,p3,o3,c4⟩:=turn (d:=d+3) (g0:=g0) (g1:=g1) o2 (by omega) hl hn (b:=false) (T:=[]) (x0:=some (.lst (xs.map .int))) (x3:=some (.int 0)) (x4:=y4) (x5:=y5) (x6:=none) (x7:=none) (k2:=none) (k3:=none) (t8:=[none,none,none,none]);obtain⟨t2,X2,p4,o4,c5⟩:=turn (d:=d+3) (g0:=g0) (g1:=g1) o3 (by omega) hl hn (b:=true) (T:=[.lst X1]) (x0:=some (.lst (xs.map .int))) (x3:=some (.int 1)) (x4:=y4) (x5:=y5) (x6:=none) (x7:=some (.Ó 5)) (k2:=some (Î t1)) (k3:=none) (t8:=[none,none,none,none]);have KH:ą (r:Int)=true:=qu (by exact jG _) (by exact bx.mpr (ip ‹_› (by decide)));have F6:blt 0 [.lst (RS ps)]=some (.int ps.length):=by
  have:=bW (l:=RS ps) (by unfold RS;rw[ĕ];exact è ‹_› (by decide));rw[this];unfold RS;rw[ĕ]
 have Th:ą (ps.length:Int)=true:=qu (by exact jG _) (by exact bx.mpr (ip ‹_› (by decide)));have tail:∃S',Ev Ê (.dj (d+129) [.as (.n false 8) (.co (.cl 0 [.at Ã 13,.c .none,.at Ã 15,.at Ã 16,.at Ã 17]) [1] Ë [] 2),.as (.n true 3) (.tu [.c (.str [111,114]),.tu [.c (.str hW),.c (.str [107,119])],.tu [.c (.str [117,105,100]),.tu [.tu [.c (.int 2),.c (.int 0)]]]]),.if (.cm (.fn 78 [.k 3,.l 8]) [1] [.co (.bi 0 Ã Ì) [1] (.bl 11 [.bl 0 [.k 0]]) [.fn 90 [.k 3,.ix Ğ Ã,.bi 0 Ã Ì,.bl 0 [.k 0],.k 1]] 2]) [.re (.c (.bool false))] [],.fo (.n false 6) (.bl 11 [.bl 0 [.k 0]]) [.as (.n false 9) (.fn 77 [.ix Ë ü,.bi 0 ť ü,.c (.bool false)]),.as (.n false 10) (.fn 77 [.ix Ë ü,.bi 0 ť ü,.c (.bool true)]),.if (.bo false [.cm (.at cw 47) [7] [.c .none],.cm (.tu [.at cw 32,.at (.at cw 46) 13]) [1] [.tu [.bi 0 ť ü,.ix (.ix Ğ ü) nW]],.cm (.at dJ 32) [1] [.bi 0 ť ü]]) [.re (.c (.bool false))] [],.as (.n false 11) (.bi 0 (.te (.cm (.ix (.ix Ğ ü) jy) [1] [.c (.str [])]) (.li [.c (.str ŋ)]) (.li [])) (.li [.c (.str ğ)])),.if (.bo false [.cm (.co (.me Ã 57 []) [1] (.at (.at dJ 47) 40) [] 2) [1] [.l 11],.cm (.me (.at dJ 46) 58 []) [1] [.me (.ix Ë ü) 58 []]]) [.re (.c (.bool false))] []],.re (.cm (.fn 78 [.tu [.c (.str [97,108,108])],.l 2]) [0] [.bl 10 [.c (.int 1),.bi 0 (.bl 0 [.l 2]) Ì]])] ⟨g0::g1::.lst (ð p4)::.Ô (.lst (LS ps))::.Ô (.lst (RS ps))::([.lst X1]++[.lst X2]),some (.lst (xs.map .int))::some (.Ó 2)::some (.Ó 3)::some (.int 1)::y4::y5::none::some (.Ó 6)::[none,none,none,none],[some (.Ó 4),some (.int u),some (Î t2),none]⟩) (S',.ret (.bool true)):=by
  refine Lh (d:=d+4) hl hn rfl rfl fun Z y8 PQ=>?_;obtain⟨Z2,y6,y9,Iz,Iy,c6⟩:=oj (d:=d) (fun q hq=>(hl.ok q hq).1) hn ps [] (g0::g1::.lst (ð p4)::.Ô (.lst (LS ps))::.Ô (.lst (RS ps))::([.lst X1]++[.lst X2])++Z) (x0:=some (.lst (xs.map .int))) (x1:=some (.Ó 2)) (x3:=some (.int 1)) (x4:=y4) (x5:=y5) (x7:=some (.Ó 6)) (x8:=y8) (κ:=[some (.int u),some (Î t2),PQ]) none none none none rfl rfl rfl;obtain⟨S',c7⟩:=KX (d:=d) (H:=g0::g1::.lst (ð p4)::.Ô (.lst (LS ps))::.Ô (.lst (RS ps))::([.lst X1]++[.lst X2])++Z++Z2) hl hn rfl (x0:=some (.lst (xs.map .int))) (x1:=some (.Ó 2)) (ρ:=[some (.int 1),y4,y5,y6,some (.Ó 6),y8,y9,Iz,Iy]) (κ:=[some (.Ó 4),some (.int u),some (Î t2),PQ]);refine⟨S',?_⟩;apply Ò
  ·apply bS
   ·apply Ő
    ·apply Ř
     ·apply j0
      ·exact Ř (Ar rfl) Ų
      ·exact fU rfl
      ·exact F6
      ·rfl
     ·exact Ų
    ·rfl
    ·exact Th
   ·rfl
   ·rfl
   ·exact c6
  exact c7
 obtain⟨S',tail⟩:=tail;have all:Ev Ê (.dj (d+129) UB ⟨[],[some (.lst (xs.map .int)),none,none,none,none,none,none,none,none,none,none,none],[none,none,none,none]⟩) (S',.ret (.bool true)):=by
  unfold UB;apply Ò
  ·apply ū
   ·apply lg
    ·exact Ř (aR rfl) Ų
    ·exact c1
   ·exact qR rfl rfl
  apply Ò
  ·apply ū
   ·exact i8 Ų rfl rfl
   ·exact qR rfl rfl
  apply Ò
  ·apply ū
   ·exact i8 Ų rfl rfl
   ·exact vH rfl rfl
  apply Ò
  ·apply ū
   ·exact nV
   ·exact vH rfl rfl
  apply Ò
  ·apply bS
   ·apply Ő
    ·apply Ř
     ·apply lg
      ·exact Ř (aR rfl) (Ř nV Ų)
      ·exact c2 _ _ _ _
     ·exact Ų
    ·rfl
    ·exact KH
   ·rfl
   ·rfl
   ·exact c3
  apply Ò
  ·apply bS
   ·apply Ő
    ·exact Ř nV Ų
    ·rfl
    ·rfl
   ·rfl
   ·rfl
   ·apply mO
    ·rfl
    ·exact qR rfl rfl
    ·exact c4
    apply mO
    ·rfl
    ·exact qR rfl rfl
    ·exact c5
    exact ug
  exact tail
 refine⟨⟨[],[],[]⟩,?_⟩;apply É (show Ê.fn 91=some TR from rfl) rfl all
 ·rfl
 ·rfl
 ·rfl
end
end
section
set_option maxRecDepth 100000
open Internal.H
theorem GY{d:WData}(q:WShape.has [] d .int=true):∃i,d=.int i:=by
 induction d using PySem.W.WData.casesOn<;>first|exact⟨_,rfl⟩|exact à q
theorem o9:∀{ds:List WData},WShape.hasItems [] ds .int=true→∃xs:List Int,ds=xs.map .int
 |[],_=>⟨[],rfl⟩
 |d::ds,h=>by
  (have h1:=aD (a:=WShape.has [] d .int) (b:=WShape.hasItems [] ds .int) h;have h2:=aC (a:=WShape.has [] d .int) (b:=WShape.hasItems [] ds .int) h)
  obtain⟨i,rfl⟩:=GY h1;obtain⟨xs,rfl⟩:=o9 h2;exact⟨i::xs,rfl⟩
theorem CP{d:WData}(q:WShape.has [] d (.list .int)=true):∃xs:List Int,d=.list (xs.map .int):=by
 induction d using PySem.W.WData.casesOn with
 |list ds=>
  have q:(WShape.hasItems [] ds .int||false)=true:=q;obtain⟨xs,rfl⟩:=o9 ((lR.mp q).resolve_right fun h=>à h);exact⟨xs,rfl⟩
 |_=>exact à q
theorem Fc{args:List WData}(h:WShape.hasAll [] args [.list .int]=true):∃xs:List Int,args=[.list (xs.map .int)]:=by
 induction args using Ŭ with
 |nil=>exact à h
 |cons x r=>
  (have h1:=aD (a:=WShape.has [] x (.list .int)) (b:=WShape.hasAll [] r []) h;have h2:=aC (a:=WShape.has [] x (.list .int)) (b:=WShape.hasAll [] r []) h)
  obtain⟨xs,rfl⟩:=CP h1
  induction r using Ŭ with
  |nil=>exact⟨xs,rfl⟩
  |cons=>exact à h2
theorem E6(l:List WData):Ŋ.pre.value [] {args:=[.list l]}=some (.bool (!decide ((63:Int)<(l.length:Int)))):=by
 have e:∀q:Bool,(match some (WData.bool (!q))with
     |some (.bool false)=>some (WData.bool false)
     |some (.bool true)=>some (WData.bool true)
     |_=>none)=some (WData.bool (!q)):=fun q=>by induction q using ñ<;>rfl
 exact e _
theorem AF{args:List WData}(h:Ŋ.row.toRowW.claim.pre args=true):∃xs:List Int,args=[.list (xs.map .int)]∧xs.length≤63:=by
 (have h1:=aD (a:=WShape.hasAll [] args [.list .int]) (b:=Ŋ.pre.holds [] {args:=args}) h;have h2:=aC (a:=WShape.hasAll [] args [.list .int]) (b:=Ŋ.pre.holds [] {args:=args}) h)
 obtain⟨xs,rfl⟩:=Fc h1;refine⟨xs,rfl,?_⟩;unfold WTm.holds at h2;rw[E6]at h2;have hd:decide ((63:Int)<((xs.map WData.int).length:Int))=false:=by
  induction hq:decide ((63:Int)<((xs.map WData.int).length:Int))using ñ with
  |false=>rfl
  |true=>rw[hq]at h2;exact à h2
 have:=of_decide_eq_false hd;rw[ĕ]at this;exact lS.mp (bP.mp this)
def g0(s:Shared):Gh where
 r a:=if a=cP then .tab else match s.heap.get? a with
  |some o=>.Ô o
  |none=>.free
 as:=[]
 L:=mainGlobals
 cs:=[]
theorem KR{s:Shared}:(g0 s).r cP=.tab:=by
 show(if cP=cP then Role.tab else match s.heap.get? cP with
  |some o=>.Ô o
  |none=>.free)=_
 exact if_pos rfl
theorem KS{s:Shared}{a:Addr}{o:Obj}(h:(g0 s).r a=.Ô o):a≠cP∧s.heap.get? a=some o:=by
 by_cases e:a=cP
 ·have:(g0 s).r a=.tab:=if_pos e;rw[this]at h;cases h
 ·have:(g0 s).r a=match s.heap.get? a with
   |some o=>.Ô o
   |none=>.free:=if_neg e
  rw[this]at h
  induction ho:s.heap.get? a using š with
  |none=>rw[ho]at h;cases h
  |some o'=>rw[ho]at h;cases h;exact⟨e,rfl⟩
theorem HR{s:Shared}{a:Addr}{o:Obj}(e:a≠cP)(h:s.heap.get? a=some o):(g0 s).r a=.Ô o:=by
 have:(g0 s).r a=match s.heap.get? a with
   |some o=>.Ô o
   |none=>.free:=if_neg e
 rw[this,h]
theorem B1{s:Shared}{a:Addr}:(∀o,(g0 s).r a≠.kept o)∧(∀o,(g0 s).r a≠.held o)∧((g0 s).r a≠.free→a=cP∨∃o,s.heap.get? a=some o):=by
 by_cases e:a=cP
 ·have:(g0 s).r a=.tab:=if_pos e;rw[this];exact⟨(fun o h=>by cases h),(fun o h=>by cases h),fun À=>.inl e⟩
 ·have:(g0 s).r a=match s.heap.get? a with
   |some o=>.Ô o
   |none=>.free:=if_neg e
  rw[this]
  induction s.heap.get? a using š with
  |some o=>exact⟨(fun o h=>by cases h),(fun o h=>by cases h),fun À=>.inr ⟨o,rfl⟩⟩
  |none=>exact⟨(fun o h=>by cases h),(fun o h=>by cases h),fun h=>absurd rfl h⟩
theorem pR{w:World}{s:Shared}(Y:YP w s.heap):s.heap.get? cP=some (tabObj #[]):=ľ Y (zS w.params) (by show(1194:Nat)<1311;decide) rfl
theorem OU{w:World}{s:Shared}(Y:YP w s.heap):Base (Z0 w s) (g0 s) s [] where
 u_:=⟨s.heap,s.toks,rfl⟩
 old:=OldK.refl _
 top a o h n:=HR n h
 tab:=⟨KR,#[],pR Y,.inl rfl⟩
 Ô a o h:=(KS h).2
 kept a o h:=absurd h (B1.1 o)
 held a o h:=absurd h (B1.2.1 o)
 alive a h:=by
  rcases B1.2.2 h with e|e
  ·subst e;exact⟨_,pR Y⟩
  ·exact e
 len:=rfl
 cells i c h:=by induction i using mK<;>cases h
theorem CQ{w:World}{s:Shared}{xs:List Int}:∀{vs:List Value},WellAll w.params s.heap vs (xs.map .int)→Ý (Z0 w s).toSta (g0 s).k (xs.map .int) vs:=by
 induction xs with
 |nil=>intro vs h;cases h;rfl
 |cons x xs ih=>
  intro vs h;cases h with
  |cons h1 h2=>
   cases h1 with
   |int i t=>exact⟨_,_,rfl,⟨t,rfl⟩,ih h2⟩
theorem GZ{w:World}{s:Shared}{xs:List Int}{vals:List Value}(Y:YP w s.heap)(h:WellAll w.params s.heap vals [.list (xs.map .int)]):ł (Z0 w s) (g0 s) [.lst (xs.map .int)] vals:=by
 cases h with
 |cons h1 h2=>
  cases h2;cases h1 with
  |@list a vs _ ho hw=>
   refine⟨_,_,rfl,⟨a,_,vs,rfl,Gh.Ś (HR (fun e=>?_) ho),⟨_,rfl⟩,CQ hw⟩,rfl⟩;subst e;rw[pR Y]at ho;cases ho
theorem Kh(P:Params):Ō "law" ((bV P).take 204)=some (.ref 1310):=by kernel_rfl
theorem E7(as:List WData):Ŋ.row.toRowW.claim.post as (.bool true) as=true:=by kernel_rfl
theorem walk:WalkO qv qj Vj YP Ŋ.row.toRowW dl [] fun f vs=>PySem.call f vs:=by
 intro w Mn Ĉ mg mb G Y a o pm cd doc dV kV ZS Wt BS Ws Wi NY args vals as Tb ZY BK NK has;have F:Facts w (Z0 w Ĉ) (K0 w Ĉ) Ê:=facts Y G.T.g G.T.b G.T.builtins (G.T.bmain.elim fun bm q=>q.elim fun ob q=>⟨bm,ob,q.1,q.2.1,q.2.2.1,q.2.2.2.1,q.2.2.2.2.1,q.2.2.2.2.2⟩) G.T.nolimit;obtain⟨xs,rfl,hx⟩:=AF Tb;obtain⟨S',hl⟩:=Kg (xs:=xs) (by omega) 0;have e_:dl.name="law":=rfl;rw[e_,gc Y G.T.g,Kh]at Wi;cases Wi;have B:=OU Y;have R:ŕ 130 callerA (g0 Ĉ):=⟨rfl,by show 1+300+4*130+2<1000;decide,by show 4+20*130+30<9900;decide,[],rfl,fun e he=>by cases he⟩;have hLD:cH (g0 Ĉ) Ĉ:=⟨_,_,_,r_ Y,rfl⟩;refine(sound F hl:cG Ŋ.row.toRowW.prog w (Z0 w Ĉ) (K0 w Ĉ) 130 91 _ _ _ _) _ _ _ _ _ _ R hLD B (GZ Y NK) fun g' s' x SE KE BE VE=>?_;obtain rfl:x=.bool true:=VE;obtain⟨h',t',e'⟩:=BE.u_;refine⟨.inl ⟨.bool true,.bool true,[],rfl,fun À=>rfl,.bool true,?_,fun À=>⟨lQ,fun a ha=>by cases ha⟩⟩,BE.old,?_,?_⟩
 ·exact E7 _
 ·rw[e'];rfl
 ·rw[e'];exact AllBare.of_eq NY
end
end Internal
end
theorem PySem.Challenge.cw_nz0340_01_holds : PySem.Challenge.rw_nz0340_01.Holds :=
 Internal.H.hd Internal.walk
