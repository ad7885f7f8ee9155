import PyProof.Rows.All
import Wide.All
import OpenK.AllK
import Wide.FinOn
import Lean
import PySem.Challenge.RW_sa0555_01
set_option Elab.async false
set_option maxRecDepth 100000
set_option maxHeartbeats 0
set_option linter.all false
set_option tactic.hygienic false
set_option genSizeOf false
set_option genInjectivity false
section
open PySem PySem.W PyProof.Rows
namespace Mine
noncomputable abbrev PW:Program:=PySem.Challenge.pw_sa0555_01
noncomputable def Se:List Stmt→Nat→Stmt
 |[],_=>default
 |x::_,0=>x
 |_::l,n+1=>Se l n
noncomputable def MJ {α:Type} (z:α) (f:Str→Arguments→List Stmt→Scope→Pos→α) (s:Stmt):α:=if h:s.ctorIdx=0 then Stmt.FunctionDef.elim (motive_2:=λ_=>α) s h λn a b _ _ _ c _ _ p=>f n a b c p else z
noncomputable def SV {α:Type} (z:α) (f:Str→List Stmt→α) (s:Stmt):α:=if h:s.ctorIdx=2 then Stmt.ClassDef.elim (motive_2:=λ_=>α) s h λn _ _ b _ _ _ _ _ _ _=>f n b else z
noncomputable def ic (e:Expr):Option Str:=if h:e.ctorIdx=23 then Expr.Name.elim (motive_1:=λ_=>Option Str) e h λx _=>some x else none
noncomputable def nm:Stmt→Str:=MJ Str.empty λn _ _ _ _=>n
noncomputable def ag:Stmt→Arguments:=MJ default λ_ a _ _ _=>a
noncomputable def bd (s:Stmt):List Stmt:=SV (MJ [] (λ_ _ b _ _=>b) s) (λ_ b=>b) s
noncomputable def sc:Stmt→Scope:=MJ default λ_ _ _ c _=>c
noncomputable def st (k:Nat):Stmt:=Se PW.main.body k
noncomputable def mt (k j:Nat):Stmt:=Se (bd (st k)) j
noncomputable def sl (k n:Nat):List Stmt:=(PW.main.body.drop k).take n
noncomputable abbrev s (x:Str) (t:Nat):Value:= .str x t
noncomputable abbrev i (n:Nat):Value:= .int (n:Int) 0
noncomputable abbrev r (a:Nat):Value:= .ref a
noncomputable abbrev E (P:Params) (x:Str) (t:Nat) (v:Value):DictEntry:=⟨PyData.keyHash P x,.str x t,v⟩
noncomputable abbrev T (l:List Value):Obj:=⟨.type "tuple",none,.seq l.toArray 0,#[]⟩
noncomputable abbrev F (l:List Value):Obj:=⟨.none,none,.fields l.toArray,#[]⟩
noncomputable abbrev C (l:List Value):Obj:=⟨.type "code",none,.fields l.toArray,#[]⟩
noncomputable abbrev FC (d:Stmt) (q:Str):Obj:=⟨.none,none,.func {name:=nm d,qualname:=q,params:=ag d,body:= .stmts (bd d),scope:=sc d,globals:=0,closure:=[],defaults:= .none,kwdefaults:= .none},#[]⟩
noncomputable abbrev FN (d:Stmt) (q:Str) (df m c:Value):Obj:=⟨.type "function",none,.func {name:=nm d,qualname:=q,params:=ag d,body:= .stmts (bd d),scope:=sc d,globals:=3,closure:=[],defaults:=df,kwdefaults:= .none,pyModule:=m,code:=c},#[]⟩
noncomputable def nd (n i:Nat) (o:Obj) (l r:BT):BT:=match Nat.blt i n with
 |true=> .node o l r
 |false=> .nil
noncomputable def upd (i:Nat) (v:Value):List DictEntry→List DictEntry
 |[]=>[]
 |e::l=>match i with
  |0=>⟨e.hash,e.key,v⟩::l
  |i+1=>e::upd i v l
noncomputable def MX:List (Nat×Value)→List DictEntry→List DictEntry
 |[],l=>l
 |(i,v)::u,l=>MX u (upd i v l)
noncomputable def yb (l:List UInt8) (t:Nat):Value:= .bytes l.toArray t
noncomputable def oZ:Obj:=⟨.none,none,.plain,#[]⟩
noncomputable abbrev S7:Value:=s "__main__" 164
noncomputable abbrev Ja:Value:=s "postkeep.base64" 194
noncomputable abbrev Ca:Value:=s "postkeep.errors" 264
noncomputable abbrev vf:Value:=s "postkeep.octets" 338
noncomputable abbrev wq:Value:=s "postkeep.headers" 493
noncomputable abbrev Ay:Value:=s "postkeep.charsets" 645
noncomputable abbrev PE:Value:=s "postkeep.tokens" 776
noncomputable abbrev iM:Value:=s "postkeep.params" 838
noncomputable abbrev A8:Value:=s "postkeep.quoted" 1140
noncomputable abbrev w8:Value:=s "postkeep.parts" 1269
noncomputable abbrev bU:Value:=s "postkeep.build" 1415
noncomputable abbrev sy:Value:=s "law_sa0555_01" 1705
noncomputable def Tq (l:List (Str×NameKind)):Nat→List Value:=List.rec (λ_=>[]) (λx _ ih t=>s x.1 t::ih (t+1)) l
noncomputable abbrev cO (d:Stmt) (q:Str) (a t ln ac n b:Nat) (x y:Value):Obj:=C [s (nm d) t,s q (t+1),s "/claim/cut.py" (t+2),i ln,i ac,i 0,i 0,i 3,r a,.bool true,i 181,r (a+1),.none,x,y,r b,i (t+3+n),i ln,s "/claim/cut.py" (t+4+n)]
noncomputable abbrev wf (d:Stmt) (q:Str) (a t ln ac n:Nat) (df m:Value) (z:List Obj):List Obj:=T []::F []::T (Tq ((sc d).names.take n) (t+3))::T []::FC d q::cO d q a t ln ac n (a+4) (r (a+2)) (r (a+3))::FN d q df m (r (a+5))::z
noncomputable abbrev wh (d:Stmt) (q:Str) (a t ln ac:Nat) (df m:Value) (z:List Obj):List Obj:=T []::F []::FC d q::cO d q a t ln ac 0 (a+2) .none .none::FN d q df m (r (a+3))::z
noncomputable def gf (k a t ln ac n:Nat) (df m:Value) (z:List Obj):List Obj:=wf (st k) (nm (st k)) a t ln ac n df m z
noncomputable def gh (k a t ln ac:Nat) (df m:Value) (z:List Obj):List Obj:=wh (st k) (nm (st k)) a t ln ac df m z
noncomputable def kf (k j:Nat) (q:Str) (a t ln ac n:Nat) (df m:Value) (z:List Obj):List Obj:=wf (mt k j) q a t ln ac n df m z
noncomputable def kh (k j:Nat) (q:Str) (a t ln ac:Nat) (df m:Value) (z:List Obj):List Obj:=wh (mt k j) q a t ln ac df m z
noncomputable def oP:Obj:=⟨.type "builtin_function_or_method",none,.fields #[.builtin "type.__prepare__",.type "type"],#[]⟩
noncomputable def oQ (k:Nat):Obj:=⟨.type "builtin_function_or_method",none,.fields #[.builtin "object.__init_subclass__",r k],#[]⟩
noncomputable def oS (k:Nat):Obj:=⟨.type "super",none,.fields #[r k,r k,r k],#[]⟩
noncomputable def oD (t k:Nat):Obj:=⟨.type "getset_descriptor",none,.fields #[s "__dict__" t,r k,.builtin "function.__dict__",.builtin "function.__dict__#set"],#[]⟩
noncomputable def oW (t k:Nat):Obj:=⟨.type "getset_descriptor",none,.fields #[s "__weakref__" t,r k,.builtin "ExceptionGroup.__weakref__",.none],#[]⟩
noncomputable def oF (a b:Nat) (m:Value):Obj:=⟨.type "frame",none,.plain,#[some (r a),some (r 3),some (r b),none,some m,none,some (r 0)]⟩
noncomputable def oM (n:Nat) (l:List DictEntry):Obj:=⟨.type "dict",none,.dict l.toArray n,#[]⟩
noncomputable def oC (x:Str) (b m:List Value) (n:Nat) (u:List Value) (w:Option Value) (t t':Nat) (e:String):Obj:=⟨.type "type",none,.cls {name:=x,bases:=b,mro:=m,ns:=n,qualname:=x,hasDict:=true,slotNames:=[],subclasses:=u,abstract:=false,collection:=none,hasDel:=false},#[w,none,some (s x t),some (s x t'),some (.builtin e),some (.bool true)]⟩
noncomputable def oK (x:Str) (t ln a b:Nat):Obj:=C [s x t,s x (t+1),s "/claim/cut.py" (t+2),i ln,i 0,i 0,i 0,i 0,r a,.bool false,i 181,r b,.none,.none,.none,.none,i (t+3),i ln,s "/claim/cut.py" (t+4)]
noncomputable def PF:List Value:=[i 1,i 0,r 20,i 8,i 0,r 25,i 10,i 0,r 30,i 17,i 0,r 35,i 25,i 0,r 42,i 30,i 0,r 49,i 32,i 0,r 54,i 36,i 0,r 62,i 38,i 0,r 69,i 52,i 0,r 76,i 61,i 0,r 104,i 63,i 0,r 116,i 69,i 0,r 128,i 117,i 0,r 214,i 119,i 0,r 219,i 121,i 0,r 224,i 123,i 0,r 232,i 138,i 0,r 240,i 149,i 0,r 273,i 156,i 0,r 280,i 161,i 0,r 287,i 164,i 0,r 295,i 180,i 0,r 301,i 183,i 0,r 308,i 192,i 0,r 315,i 194,i 0,r 322,i 200,i 0,r 327,i 203,i 0,r 334,i 210,i 0,r 339,i 221,i 0,r 347,i 230,i 0,r 354,i 232,i 0,r 361,i 235,i 0,r 366,i 239,i 0,r 373,i 249,i 0,r 380,i 257,i 0,r 387,i 271,i 0,r 394,i 277,i 0,r 401,i 286,i 0,r 408,i 297,i 0,r 415,i 302,i 0,r 422,i 306,i 0,r 429,i 321,i 0,r 437,i 325,i 0,r 444,i 338,i 0,r 451,i 347,i 0,r 458,i 362,i 0,r 465,i 384,i 0,r 473,i 402,i 0,r 520,i 404,i 0,r 527,i 406,i 0,r 534,i 414,i 0,r 541,i 421,i 0,r 548,i 423,i 0,r 555,i 433,i 0,r 560,i 435,i 0,r 567,i 451,i 0,r 574,i 460,i 0,r 581,i 469,i 0,r 586,i 475,i 0,r 593,i 483,i 0,r 598,i 488,i 0,r 605,i 499,i 0,r 612,i 517,i 0,r 619,i 527,i 0,r 626,i 534,i 0,r 631,i 536,i 0,r 636,i 539,i 0,r 643,i 547,i 0,r 650,i 554,i 0,r 655,i 562,i 0,r 660,i 569,i 0,r 665,i 571,i 0,r 670,i 585,i 0,r 675,i 590,i 0,r 680,i 605,i 0,r 687,i 607,i 0,r 694,i 616,i 0,r 701,i 622,i 0,r 708,i 625,i 0,r 715,i 634,i 0,r 722,i 644,i 0,r 729,i 646,i 0,r 737,i 654,i 0,r 744,i 661,i 0,r 751,i 673,i 0,r 758,i 685,i 0,r 765,i 700,i 0,r 773,i 716,i 0,r 797,i 725,i 0,r 804,i 733,i 0,r 811,i 749,i 0,r 816,i 759,i 0,r 823,i 766,i 0,r 830,i 768,i 0,r 835,i 779,i 0,r 842,i 781,i 0,r 849,i 787,i 0,r 856,i 794,i 0,r 862,i 796,i 0,r 869,i 798,i 0,r 876,i 810,i 0,r 913,i 822,i 0,r 946,i 834,i 0,r 981,i 842,i 0,r 988,i 846,i 0,r 995,i 850,i 0,r 1002,i 860,i 0,r 1007,i 870,i 0,r 1014,i 873,i 0,r 1019,i 879,i 0,r 1026,i 885,i 0,r 1031,i 888,i 0,r 1036,i 895,i 0,r 1043,i 897,i 0,r 1050,i 901,i 0,r 1057,i 904,i 0,r 1064,i 908,i 0,r 1069,i 915,i 0,r 1076,i 918,i 0,r 1083,i 924,i 0,r 1090,i 927,i 0,r 1097,i 937,i 0,r 1102,i 945,i 0,r 1107,i 950,i 0,r 1114,i 952,i 0,r 1121,i 958,i 0,r 1128,i 967,i 0,r 1133,i 980,i 0,r 1138]
noncomputable def qh (P:Params) (n:Nat):Obj:=F (PF.take n)
noncomputable def gl (P:Params):List DictEntry:=[E P "__name__" 165 (s "law_sa0555_01" 1705),
 E P "__doc__" 166 (.none),
 E P "__package__" 167 (.none),
 E P "__loader__" 168 (.builtin "__main__.__loader__#opaque"),
 E P "__spec__" 169 (.none),
 E P "__annotations__" 170 (r 6),
 E P "__builtins__" 171 (r 4),
 E P "__file__" 173 (s "/claim/cut.py" 172),
 E P "__cached__" 174 (.none),
 E P "_wall" 193 (r 21),
 E P "SIGNS" 197 (.bytes [65,66,67,68,69,70,71,72,73,74,75,76,77,78,79,80,81,82,83,84,85,86,87,88,89,90,97,98,99,100,101,102,103,104,105,106,107,108,109,110,111,112,113,114,115,116,117,118,119,120,121,122,48,49,50,51,52,53,54,55,56,57,43,47].toArray 196),
 E P "PAD" 199 (.int (61) 198),
 E P "LINE_END" 201 (.bytes [13,10].toArray 200),
 E P "worth_table" 207 (r 26),
 E P "group_codes" 213 (r 31),
 E P "group_octets" 219 (r 36),
 E P "part_encoded" 229 (r 43),
 E P "one_line" 236 (r 50),
 E P "in_lines" 242 (r 55),
 E P "encoded" 251 (r 63),
 E P "decoded" 263 (r 70),
 E P "PostError" 305 (r 95),
 E P "WordFault" 321 (r 108),
 E P "MimeFault" 337 (r 120),
 E P "CRLF" 341 (.bytes [13,10].toArray 340),
 E P "RETURN_octets" 343 (.int (13) 342),
 E P "MOST_FIGURES_octets" 345 (.int (20) 344),
 E P "Cursor" 456 (r 204),
 E P "lower_code" 463 (r 215),
 E P "lower" 469 (r 220),
 E P "lower_text" 475 (r 225),
 E P "line_spans" 492 (r 233),
 E P "WHITE_headers" 497 (r 234),
 E P "Field" 541 (r 263),
 E P "line_at" 551 (r 274),
 E P "is_name" 559 (r 281),
 E P "colon_in" 569 (r 288),
 E P "read_spans" 587 (r 296),
 E P "read_fields" 596 (r 302),
 E P "rows_of" 607 (r 309),
 E P "unfolded" 614 (r 316),
 E P "first_body" 624 (r 323),
 E P "without_words" 630 (r 328),
 E P "is_sound" 638 (r 335),
 E P "write_fields" 644 (r 340),
 E P "ASCII" 648 (s "us-ascii" 647),
 E P "LATIN" 650 (s "iso-8859-1" 649),
 E P "UTF8" 652 (s "utf-8" 651),
 E P "CHARSETS" 653 (r 341),
 E P "UNKNOWN_SIGN" 656 (s "�" 655),
 E P "charset_names" 664 (r 348),
 E P "charset_name" 671 (r 355),
 E P "need_charset" 678 (r 362),
 E P "utf8_length" 684 (r 367),
 E P "utf8_octets" 695 (r 374),
 E P "follower_span" 702 (r 381),
 E P "utf8_sign" 716 (r 388),
 E P "sign_at" 725 (r 395),
 E P "text_in" 737 (r 402),
 E P "strict_text" 749 (r 409),
 E P "guessed_text" 756 (r 416),
 E P "has_sign" 764 (r 423),
 E P "octets_in" 775 (r 430),
 E P "MOST_DEPTH_tokens" 779 (.int (20) 778),
 E P "NEVER_ESCAPED" 783 (r 431),
 E P "line_end" 791 (r 438),
 E P "inside_at" 801 (r 445),
 E P "closed_at" 814 (r 452),
 E P "comment_at" 827 (r 459),
 E P "escaped_octets" 837 (r 466),
 E P "WHITE_params" 844 (r 467),
 E P "SEMICOLON" 846 (.int (59) 845),
 E P "QUOTE" 848 (.int (34) 847),
 E P "BRACKET" 850 (.int (40) 849),
 E P "PER_CENT" 852 (.int (37) 851),
 E P "BARRED" 854 (.bytes [40,41,60,62,64,44,59,58,92,34,47,91,93,63,61].toArray 853),
 E P "BARRED_IN_NAMES" 856 (.bytes [42,39,37].toArray 855),
 E P "HEX_FIGURES" 858 (.bytes [48,49,50,51,52,53,54,55,56,57,65,66,67,68,69,70].toArray 857),
 E P "WIDTH" 860 (.int (78) 859),
 E P "MOST_NAME" 862 (.int (40) 861),
 E P "MOST_PARTS" 864 (.int (1000) 863),
 E P "ROOM" 866 (.int (66) 865),
 E P "Kind" 926 (r 510),
 E P "plain_kind" 932 (r 521),
 E P "is_token_code" 939 (r 528),
 E P "skip_between" 946 (r 535),
 E P "take_token" 954 (r 542),
 E P "is_worth_code" 961 (r 549),
 E P "take_worth" 970 (r 556),
 E P "small_word" 976 (r 561),
 E P "take_pairs" 985 (r 568),
 E P "part_number" 994 (r 575),
 E P "part_of" 1004 (r 582),
 E P "hex_worth" 1010 (r 695),
 E P "hex_worth_params" 1011 (r 587),
 E P "percent_decoded" 1021 (r 594),
 E P "charset_cut" 1027 (r 599),
 E P "joined_worth" 1039 (r 606),
 E P "params_of" 1054 (r 613),
 E P "strict_kind" 1064 (r 620),
 E P "read_kind" 1071 (r 627),
 E P "is_token" 1077 (r 632),
 E P "is_plain" 1083 (r 709),
 E P "is_plain_params" 1084 (r 637),
 E P "percent_encoded" 1093 (r 644),
 E P "in_rows" 1103 (r 651),
 E P "encoded_rows" 1109 (r 656),
 E P "quoted_rows" 1115 (r 661),
 E P "number_octets" 1121 (r 666),
 E P "param_rows" 1127 (r 671),
 E P "write_params" 1133 (r 676),
 E P "write_kind" 1139 (r 681),
 E P "EQUALS" 1143 (.int (61) 1142),
 E P "BLANK" 1145 (.int (32) 1144),
 E P "TAB" 1147 (.int (9) 1146),
 E P "RETURN_quoted" 1149 (.int (13) 1148),
 E P "LEAST_WIDTH" 1151 (.int (4) 1150),
 E P "HEX" 1153 (.bytes [48,49,50,51,52,53,54,55,56,57,65,66,67,68,69,70].toArray 1152),
 E P "quoted_code" 1160 (r 688),
 E P "hex_worth_quoted" 1168 (r 695),
 E P "quoted_at" 1178 (r 702),
 E P "is_plain_quoted" 1186 (r 709),
 E P "line_pieces" 1196 (r 716),
 E P "soft_lines" 1208 (r 723),
 E P "text_lines" 1216 (r 730),
 E P "quoted_encoded" 1228 (r 738),
 E P "joined_lines" 1237 (r 745),
 E P "line_parts" 1247 (r 752),
 E P "unquoted" 1257 (r 759),
 E P "quoted_decoded" 1268 (r 766),
 E P "MOST_DEPTH_parts" 1272 (.int (20) 1271),
 E P "PLAIN_ENCODING" 1274 (s "7bit" 1273),
 E P "OPEN_ENCODINGS" 1278 (r 767),
 E P "WORD_ENDS" 1280 (.bytes [32,9,40,59].toArray 1279),
 E P "BLANKS" 1282 (.bytes [32,9].toArray 1281),
 E P "Part" 1328 (r 789),
 E P "encoding_of" 1334 (r 798),
 E P "boundary_way" 1344 (r 805),
 E P "part_spans" 1361 (r 812),
 E P "boundary_octets" 1367 (r 817),
 E P "kid_spans" 1378 (r 824),
 E P "has_inner" 1385 (r 831),
 E P "read_part" 1391 (r 836),
 E P "read_message" 1398 (r 843),
 E P "undone" 1406 (r 850),
 E P "body_octets" 1414 (r 857),
 E P "MOST_LINE" 1418 (.int (998) 1417),
 E P "OWN_WORDS" 1422 (r 858),
 E P "BOUNDARY_LEAD" 1424 (s "=_part" 1423),
 E P "MOST_FIGURES_build" 1426 (.int (20) 1425),
 E P "fields_told" 1432 (r 863),
 E P "bare_piece" 1439 (r 870),
 E P "Leaf" 1486 (r 903),
 E P "Many" 1531 (r 936),
 E P "Letter822" 1577 (r 973),
 E P "is_seven_bit" 1583 (r 982),
 E P "choose_encoding" 1591 (r 989),
 E P "in_encoding" 1600 (r 996),
 E P "barred_figures" 1614 (r 1003),
 E P "boundary_for" 1620 (r 1008),
 E P "check_fields" 1627 (r 1015),
 E P "head_octets" 1633 (r 1020),
 E P "leaf_octets" 1642 (r 1027),
 E P "joined_bodies" 1648 (r 1032),
 E P "many_octets" 1654 (r 1037),
 E P "letter_octets" 1661 (r 1044),
 E P "built" 1668 (r 1051),
 E P "letter_whole" 1676 (r 1058),
 E P "pieces_within" 1683 (r 1065),
 E P "check_depth" 1689 (r 1070),
 E P "build" 1696 (r 1077),
 E P "message" 1704 (r 1084),
 E P "_law_leads" 1715 (r 1085),
 E P "_law_figures" 1725 (r 1086),
 E P "_law_shelf" 1731 (r 1091),
 E P "_law_card" 1740 (r 1098),
 E P "_law_body" 1746 (r 1103),
 E P "_law_least" 1752 (r 1108),
 E P "_law_leaf" 1759 (r 1115),
 E P "_law_around" 1767 (r 1122),
 E P "_law_is_refused" 1775 (r 1129),
 E P "_law_is_the_row" 1781 (r 1134),
 E P "law" 1787 (r 1139)]
noncomputable def g3 (P:Params) (k:Nat) (u:List (Nat×Value)) (n:Nat):Obj:=⟨.type "dict",none,.dict (MX u ((gl P).take k)).toArray n,#[]⟩
noncomputable def TU (P:Params):List Obj:=
 PySem.W.boot_o_0 P::PySem.W.boot_o_1 P::⟨.none,none,.dict #[E P "type.__subclasses__.Exception.0" 302 (i 95),E P "type.__subclasses__.Exception.n" 303 (i 1)] 2,#[]⟩::oZ::PySem.W.boot_o_4 P::PySem.W.boot_o_5 P::PySem.W.boot_o_6 P::PySem.W.boot_o_7 P::PySem.W.boot_o_8 P::PySem.W.boot_o_9 P::PySem.W.boot_o_10 P::T []::F PF::oK "<module>" 182 1 11 12::oF 13 3 S7::gf 0 15 187 1 1 1 .none S7 (gh 5 22 202 8 1 .none Ja (gh 6 27 208 10 2 .none Ja ([])))
noncomputable def To (P:Params):List Obj:=
 gh 7 32 214 17 1 .none Ja (gf 8 37 220 25 2 4 .none Ja (gf 9 44 230 30 1 1 .none Ja (gh 10 51 237 32 2 .none Ja (T [.int 76 243]::gf 11 57 244 36 2 2 (r 56) Ja ([])))))
noncomputable def TB (P:Params):List Obj:=
 gf 12 64 252 38 1 6 .none Ja (T [.type "Exception"]::oP::oM 6 [E P "__module__" 273 Ca,E P "__qualname__" 275 (s "PostError" 274),E P "__firstlineno__" 277 (.int 52 276),E P "__init__" 288 (r 85),E P "told" 295 (r 92),E P "__static_attributes__" 298 (r 93)]::T []::F [i 54,i 4,r 84,i 59,i 4,r 91]::oK "PostError" 268 52 74 75::oF 76 73 Ca::T [.int (-1) 279]::kf 14 0 "PostError.__init__" 79 280 54 3 3 (r 78) Ca (kf 14 1 "PostError.told" 86 289 59 1 1 .none Ca (T [s "at" 296,s "what" 297]::[])))
noncomputable def Tf (P:Params):List Obj:=
 oM 3 [E P "__module__" 273 Ca,E P "__firstlineno__" 277 (.int 52 276),E P "__init__" 288 (r 85),E P "told" 295 (r 92),E P "__static_attributes__" 298 (r 93),E P "__weakref__" 300 (r 96),E P "__doc__" 301 .none]::oC "PostError" [.type "Exception"] [r 95,.type "Exception",.type "BaseException",.type "object"] 94 [r 108,r 120] (some (r 71)) 266 274 "Exception.__new__"::oW 299 95::oS 95::oQ 95::T [r 95]::oP::oM 4 [E P "__module__" 313 Ca,E P "__qualname__" 315 (s "WordFault" 314),E P "__firstlineno__" 317 (.int 61 316),E P "__static_attributes__" 318 (r 106)]::T []::F []::oK "WordFault" 308 61 102 103::oF 104 101 Ca::T []::oM 2 [E P "__module__" 313 Ca,E P "__firstlineno__" 317 (.int 61 316),E P "__static_attributes__" 318 (r 106),E P "__doc__" 319 .none]::oC "WordFault" [r 95] [r 108,r 95,.type "Exception",.type "BaseException",.type "object"] 107 [] (some (r 99)) 306 314 "Exception.__new__"::oS 108::oQ 108::T [r 95]::oP::oM 4 [E P "__module__" 329 Ca,E P "__qualname__" 331 (s "MimeFault" 330),E P "__firstlineno__" 333 (.int 63 332),E P "__static_attributes__" 334 (r 118)]::T []::F []::oK "MimeFault" 324 63 114 115::oF 116 113 Ca::T []::oM 2 [E P "__module__" 329 Ca,E P "__firstlineno__" 333 (.int 63 332),E P "__static_attributes__" 334 (r 118),E P "__doc__" 335 .none]::oC "MimeFault" [r 95] [r 120,r 95,.type "Exception",.type "BaseException",.type "object"] 119 [] (some (r 111)) 322 330 "Exception.__new__"::oS 120::oQ 120::T []::[]
noncomputable def Tw (P:Params):List Obj:=
 oP::oM 14 [E P "__module__" 353 vf,E P "__qualname__" 355 (s "Cursor" 354),E P "__firstlineno__" 357 (.int 69 356),E P "__init__" 370 (r 137),E P "is_done" 377 (r 144),E P "peek" 387 (r 152),E P "take" 395 (r 159),E P "starts" 403 (r 166),E P "skip" 411 (r 173),E P "take_while" 419 (r 180),E P "take_until" 427 (r 187),E P "number" 437 (r 194),E P "find" 445 (r 201),E P "__static_attributes__" 449 (r 202)]::T []::F [i 71,i 4,r 136,i 76,i 4,r 143,i 79,i 4,r 151,i 83,i 4,r 158,i 89,i 4,r 165,i 92,i 4,r 172,i 98,i 4,r 179,i 101,i 4,r 186,i 104,i 4,r 193,i 115,i 4,r 200]::oK "Cursor" 348 69 126 127::oF 128 125 vf::T [.int 0 358,.int (-1) 360]::kf 21 0 "Cursor.__init__" 131 361 71 4 4 (r 130) vf (kf 21 1 "Cursor.is_done" 138 371 76 1 1 .none vf (T [.int 0 378]::kf 21 2 "Cursor.peek" 146 379 79 2 3 (r 145) vf (kf 21 3 "Cursor.take" 153 388 83 1 2 .none vf ([]))))
noncomputable def Tp (P:Params):List Obj:=
 kf 21 4 "Cursor.starts" 160 396 89 2 2 .none vf (kf 21 5 "Cursor.skip" 167 404 92 2 2 .none vf (kf 21 6 "Cursor.take_while" 174 412 98 2 2 .none vf (kf 21 7 "Cursor.take_until" 181 420 101 2 2 .none vf (kf 21 8 "Cursor.number" 188 428 104 1 4 .none vf ([])))))
noncomputable def TJ (P:Params):List Obj:=
 kf 21 9 "Cursor.find" 195 438 115 2 2 .none vf (T [s "at" 446,s "data" 447,s "end" 448]::oM 4 [E P "__module__" 353 vf,E P "__firstlineno__" 357 (.int 69 356),E P "__init__" 370 (r 137),E P "is_done" 377 (r 144),E P "peek" 387 (r 152),E P "take" 395 (r 159),E P "starts" 403 (r 166),E P "skip" 411 (r 173),E P "take_while" 419 (r 180),E P "take_until" 427 (r 187),E P "number" 437 (r 194),E P "find" 445 (r 201),E P "__static_attributes__" 449 (r 202),E P "__dict__" 451 (r 205),E P "__weakref__" 453 (r 206),E P "__doc__" 454 .none]::oC "Cursor" [.type "object"] [r 204,.type "object"] 203 [] none 346 354 "object.__new__"::oD 450 204::oW 452 204::oS 204::oQ 204::gf 22 209 457 117 1 1 .none vf (gh 23 216 464 119 1 .none vf (gh 24 221 470 121 1 .none vf ([]))))
noncomputable def TO (P:Params):List Obj:=
 T [.int 0 476,.int (-1) 478]::gf 25 227 479 123 3 8 (r 226) vf (T [.int 32 495,.int 9 496]::T []::oP::oM 7 [E P "__module__" 505 wq,E P "__qualname__" 507 (s "Field" 506),E P "__firstlineno__" 509 (.int 138 508),E P "__init__" 518 (r 248),E P "word" 524 (r 253),E P "told" 531 (r 260),E P "__static_attributes__" 534 (r 261)]::T []::F [i 140,i 4,r 247,i 144,i 4,r 252,i 147,i 4,r 259]::oK "Field" 500 138 238 239::oF 240 237 wq::kf 28 0 "Field.__init__" 242 510 140 3 3 .none wq (kh 28 1 "Field.word" 249 519 144 1 .none wq (kf 28 2 "Field.told" 254 525 147 1 1 .none wq ([]))))
noncomputable def T2 (P:Params):List Obj:=
 T [s "name" 532,s "raw" 533]::oM 4 [E P "__module__" 505 wq,E P "__firstlineno__" 509 (.int 138 508),E P "__init__" 518 (r 248),E P "word" 524 (r 253),E P "told" 531 (r 260),E P "__static_attributes__" 534 (r 261),E P "__dict__" 536 (r 264),E P "__weakref__" 538 (r 265),E P "__doc__" 539 .none]::oC "Field" [.type "object"] [r 263,.type "object"] 262 [] none 498 506 "object.__new__"::oD 535 263::oW 537 263::oS 263::oQ 263::gf 29 268 542 149 3 4 .none wq (gf 30 275 552 156 1 2 .none wq (gf 31 282 560 161 3 4 .none wq (T [.int 0 570,.int (-1) 572]::gf 32 290 573 164 3 9 (r 289) wq ([]))))
noncomputable def Tc (P:Params):List Obj:=
 T [.int 0 588,.int (-1) 590]::gh 33 298 591 180 3 (r 297) wq (gf 34 303 597 183 1 5 .none wq (gf 35 310 608 192 1 1 .none wq (gf 36 317 615 194 2 4 .none wq (gh 37 324 625 200 2 .none wq ([])))))
noncomputable def Rh (P:Params):List Obj:=
 gf 38 329 631 203 1 2 .none wq (gh 39 336 639 210 1 .none wq (T [s "us-ascii" 647,s "iso-8859-1" 649,s "utf-8" 651]::gf 46 342 657 221 0 2 .none Ay (gf 47 349 665 230 1 1 .none Ay (gf 48 356 672 232 1 1 .none Ay ([])))))
noncomputable def RZ (P:Params):List Obj:=
 gh 49 363 679 235 1 .none Ay (gf 50 368 685 239 1 5 .none Ay (gf 51 375 696 249 1 1 .none Ay (gf 52 382 703 257 2 8 .none Ay (gf 53 389 717 271 3 3 .none Ay ([])))))
noncomputable def QA (P:Params):List Obj:=
 gf 54 396 726 277 2 6 .none Ay (gf 55 403 738 286 2 6 .none Ay (gf 56 410 750 297 1 1 .none Ay (gf 57 417 757 302 2 2 .none Ay (gf 58 424 765 306 2 5 .none Ay ([])))))
noncomputable def RE (P:Params):List Obj:=
 T [.int 0 780,.int 10 781,.int 13 782]::gf 62 432 784 321 2 2 .none PE (gf 63 439 792 325 3 4 .none PE (gf 64 446 802 338 4 7 .none PE (gf 65 453 815 347 2 7 .none PE (gf 66 460 828 362 2 4 .none PE ([])))))
noncomputable def Qf (P:Params):List Obj:=
 T [.int 9 840,.int 10 841,.int 13 842,.int 32 843]::T []::oP::oM 9 [E P "__module__" 874 iM,E P "__qualname__" 876 (s "Kind" 875),E P "__firstlineno__" 878 (.int 384 877),E P "__init__" 888 (r 481),E P "told" 894 (r 486),E P "is_multi" 901 (r 493),E P "is_letter" 908 (r 500),E P "is_text" 915 (r 507),E P "__static_attributes__" 919 (r 508)]::T []::F [i 386,i 4,r 480,i 391,i 4,r 485,i 394,i 4,r 492,i 397,i 4,r 499,i 400,i 4,r 506]::oK "Kind" 869 384 471 472::oF 473 470 iM::kf 80 0 "Kind.__init__" 475 879 386 4 4 .none iM (kh 80 1 "Kind.told" 482 889 391 1 .none iM (kf 80 2 "Kind.is_multi" 487 895 394 1 1 .none iM (kf 80 3 "Kind.is_letter" 494 902 397 1 1 .none iM ([]))))
noncomputable def R5 (P:Params):List Obj:=
 kf 80 4 "Kind.is_text" 501 909 400 1 1 .none iM (T [s "params" 916,s "sub" 917,s "top" 918]::oM 4 [E P "__module__" 874 iM,E P "__firstlineno__" 878 (.int 384 877),E P "__init__" 888 (r 481),E P "told" 894 (r 486),E P "is_multi" 901 (r 493),E P "is_letter" 908 (r 500),E P "is_text" 915 (r 507),E P "__static_attributes__" 919 (r 508),E P "__dict__" 921 (r 511),E P "__weakref__" 923 (r 512),E P "__doc__" 924 .none]::oC "Kind" [.type "object"] [r 510,.type "object"] 509 [] none 867 875 "object.__new__"::oD 920 510::oW 922 510::oS 510::oQ 510::gf 81 515 927 402 0 0 .none iM (gf 82 522 933 404 1 1 .none iM (gf 83 529 940 406 1 1 .none iM ([]))))
noncomputable def Q7 (P:Params):List Obj:=
 gf 84 536 947 414 1 2 .none iM (gf 85 543 955 421 1 1 .none iM (gf 86 550 962 423 1 3 .none iM (gh 87 557 971 433 1 .none iM (gf 88 562 977 435 1 3 .none iM ([])))))
noncomputable def Ru (P:Params):List Obj:=
 gf 89 569 986 451 1 3 .none iM (gf 90 576 995 460 1 4 .none iM (gh 91 583 1005 469 1 .none iM (gf 93 588 1012 475 1 4 .none iM (gh 94 595 1022 483 1 .none iM ([])))))
noncomputable def RK (P:Params):List Obj:=
 gf 95 600 1028 488 1 6 .none iM (gf 96 607 1040 499 1 9 .none iM (gf 97 614 1055 517 1 4 .none iM (gf 98 621 1065 527 1 1 .none iM (gh 99 628 1072 534 1 .none iM ([])))))
noncomputable def Qt (P:Params):List Obj:=
 gh 100 633 1078 536 1 .none iM (gf 102 638 1085 539 1 3 .none iM (gf 103 645 1094 547 2 4 .none iM (gh 104 652 1104 554 2 .none iM (gh 105 657 1110 562 2 .none iM (gh 106 662 1116 569 1 .none iM ([]))))))
noncomputable def Qh (P:Params):List Obj:=
 gh 107 667 1122 571 2 .none iM (gh 108 672 1128 585 2 .none iM (gh 109 677 1134 590 1 .none iM (gf 117 682 1154 605 1 1 .none A8 (gf 118 689 1161 607 1 1 .none A8 (gf 120 696 1169 616 2 4 .none A8 ([]))))))
noncomputable def Qw (P:Params):List Obj:=
 gf 121 703 1179 622 1 1 .none A8 (gf 123 710 1187 625 1 4 .none A8 (gf 124 717 1197 634 2 6 .none A8 (gf 125 724 1209 644 2 2 .none A8 (T [.bool true,.int 76 1217]::gf 126 732 1218 646 3 5 (r 731) A8 ([])))))
noncomputable def Q5 (P:Params):List Obj:=
 gf 127 739 1229 654 1 3 .none A8 (gf 128 746 1238 661 1 4 .none A8 (gf 129 753 1248 673 1 4 .none A8 (gf 130 760 1258 685 1 5 .none A8 (T [s "7bit" 1275,s "8bit" 1276,s "binary" 1277]::T []::[]))))
noncomputable def Qb (P:Params):List Obj:=
 oP::oM 6 [E P "__module__" 1290 w8,E P "__qualname__" 1292 (s "Part" 1291),E P "__firstlineno__" 1294 (.int 700 1293),E P "__init__" 1306 (r 781),E P "told" 1312 (r 786),E P "__static_attributes__" 1321 (r 787)]::T []::F [i 702,i 4,r 780,i 712,i 4,r 785]::oK "Part" 1285 700 771 772::oF 773 770 w8::kf 137 0 "Part.__init__" 775 1295 702 6 6 .none w8 (kh 137 1 "Part.told" 782 1307 712 1 .none w8 (T [s "begin" 1313,s "body" 1314,s "encoding" 1315,s "end" 1316,s "fields" 1317,s "inner" 1318,s "kids" 1319,s "kind" 1320]::oM 4 [E P "__module__" 1290 w8,E P "__firstlineno__" 1294 (.int 700 1293),E P "__init__" 1306 (r 781),E P "told" 1312 (r 786),E P "__static_attributes__" 1321 (r 787),E P "__dict__" 1323 (r 790),E P "__weakref__" 1325 (r 791),E P "__doc__" 1326 .none]::oC "Part" [.type "object"] [r 789,.type "object"] 788 [] none 1283 1291 "object.__new__"::oD 1322 789::oW 1324 789::oS 789::oQ 789::gh 138 794 1329 716 1 .none w8 ([])))
noncomputable def RN (P:Params):List Obj:=
 gf 139 799 1335 725 2 4 .none w8 (gf 140 806 1345 733 4 11 .none w8 (gh 141 813 1362 749 1 .none w8 (gf 142 818 1368 759 2 5 .none w8 (gf 143 825 1379 766 1 1 .none w8 ([])))))
noncomputable def Qq (P:Params):List Obj:=
 gh 144 832 1386 768 5 .none w8 (gf 145 837 1392 779 1 1 .none w8 (gf 146 844 1399 781 2 2 .none w8 (gf 147 851 1407 787 2 2 .none w8 (T [s "content-type" 1419,s "content-transfer-encoding" 1420,s "mime-version" 1421]::gh 153 859 1427 794 1 .none bU ([])))))
noncomputable def QB (P:Params):List Obj:=
 gf 154 864 1433 796 1 1 .none bU (T []::oP::oM 7 [E P "__module__" 1447 bU,E P "__qualname__" 1449 (s "Leaf" 1448),E P "__firstlineno__" 1451 (.int 798 1450),E P "__init__" 1461 (r 886),E P "told" 1468 (r 893),E P "depth" 1475 (r 900),E P "__static_attributes__" 1479 (r 901)]::T []::F [i 800,i 4,r 885,i 805,i 4,r 892,i 808,i 4,r 899]::oK "Leaf" 1442 798 874 875::oF 876 873 bU::T []::T [r 878]::kf 155 0 "Leaf.__init__" 880 1452 800 4 4 (r 879) bU (kf 155 1 "Leaf.told" 887 1462 805 1 1 .none bU ([])))
noncomputable def R7 (P:Params):List Obj:=
 kf 155 2 "Leaf.depth" 894 1469 808 1 1 .none bU (T [s "fields" 1476,s "kind" 1477,s "octets" 1478]::oM 4 [E P "__module__" 1447 bU,E P "__firstlineno__" 1451 (.int 798 1450),E P "__init__" 1461 (r 886),E P "told" 1468 (r 893),E P "depth" 1475 (r 900),E P "__static_attributes__" 1479 (r 901),E P "__dict__" 1481 (r 904),E P "__weakref__" 1483 (r 905),E P "__doc__" 1484 .none]::oC "Leaf" [.type "object"] [r 903,.type "object"] 902 [] none 1440 1448 "object.__new__"::oD 1480 903::oW 1482 903::oS 903::oQ 903::T []::oP::oM 7 [E P "__module__" 1494 bU,E P "__qualname__" 1496 (s "Many" 1495),E P "__firstlineno__" 1498 (.int 810 1497),E P "__init__" 1508 (r 923),E P "told" 1514 (r 928),E P "depth" 1520 (r 933),E P "__static_attributes__" 1524 (r 934)]::T []::F [i 812,i 4,r 922,i 817,i 4,r 927,i 820,i 4,r 932]::oK "Many" 1489 810 911 912::oF 913 910 bU::T []::T [r 915]::kf 156 0 "Many.__init__" 917 1499 812 4 4 (r 916) bU ([]))
noncomputable def QH (P:Params):List Obj:=
 kh 156 1 "Many.told" 924 1509 817 1 .none bU (kh 156 2 "Many.depth" 929 1515 820 1 .none bU (T [s "fields" 1521,s "pieces" 1522,s "sub" 1523]::oM 4 [E P "__module__" 1494 bU,E P "__firstlineno__" 1498 (.int 810 1497),E P "__init__" 1508 (r 923),E P "told" 1514 (r 928),E P "depth" 1520 (r 933),E P "__static_attributes__" 1524 (r 934),E P "__dict__" 1526 (r 937),E P "__weakref__" 1528 (r 938),E P "__doc__" 1529 .none]::oC "Many" [.type "object"] [r 936,.type "object"] 935 [] none 1487 1495 "object.__new__"::oD 1525 936::oW 1527 936::oS 936::oQ 936::T []::oP::oM 7 [E P "__module__" 1539 bU,E P "__qualname__" 1541 (s "Letter822" 1540),E P "__firstlineno__" 1543 (.int 822 1542),E P "__init__" 1552 (r 956),E P "told" 1560 (r 963),E P "depth" 1567 (r 970),E P "__static_attributes__" 1570 (r 971)]::T []::F [i 824,i 4,r 955,i 828,i 4,r 962,i 832,i 4,r 969]::oK "Letter822" 1534 822 944 945::oF 946 943 bU::T []::T [r 948]::kf 157 0 "Letter822.__init__" 950 1544 824 3 3 (r 949) bU ([])))
noncomputable def QV (P:Params):List Obj:=
 kf 157 1 "Letter822.told" 957 1553 828 1 2 .none bU (kf 157 2 "Letter822.depth" 964 1561 832 1 1 .none bU (T [s "fields" 1568,s "piece" 1569]::oM 4 [E P "__module__" 1539 bU,E P "__firstlineno__" 1543 (.int 822 1542),E P "__init__" 1552 (r 956),E P "told" 1560 (r 963),E P "depth" 1567 (r 970),E P "__static_attributes__" 1570 (r 971),E P "__dict__" 1572 (r 974),E P "__weakref__" 1574 (r 975),E P "__doc__" 1575 .none]::oC "Letter822" [.type "object"] [r 973,.type "object"] 972 [] none 1532 1540 "object.__new__"::oD 1571 973::oW 1573 973::oS 973::oQ 973::gh 158 978 1578 834 1 .none bU (gf 159 983 1584 842 2 2 .none bU ([]))))
noncomputable def P9 (P:Params):List Obj:=
 gf 160 990 1592 846 3 3 .none bU (gf 161 997 1601 850 2 8 .none bU (gh 162 1004 1615 860 1 .none bU (gf 163 1009 1621 870 1 1 .none bU (gh 164 1016 1628 873 3 .none bU ([])))))
noncomputable def QU (P:Params):List Obj:=
 gf 165 1021 1634 879 1 3 .none bU (gh 166 1028 1643 885 2 .none bU (gh 167 1033 1649 888 1 .none bU (gf 168 1038 1655 895 1 1 .none bU (gf 169 1045 1662 897 1 1 .none bU ([])))))
noncomputable def QO (P:Params):List Obj:=
 gf 170 1052 1669 901 2 2 .none bU (gf 171 1059 1677 904 1 1 .none bU (gh 172 1066 1684 908 2 .none bU (gf 173 1071 1690 915 1 1 .none bU (gf 174 1078 1697 918 2 2 .none bU ([])))))
noncomputable def RA (P:Params):List Obj:=
 T [yb [45,45,61,95,112,97,114,116] 1707,yb [45,45,61,95,112,97,114,116] 1708,yb [45,45,61,95,112,97,114,116] 1709,yb [45,45,61,95,112,97,114,116] 1710,yb [32,45,45,61,95,112,97,114,116] 1711,yb [45,45,61,95,80,65,82,84] 1712,yb [120,45,45,61,95,112,97,114,116] 1713,yb [45,61,95,112,97,114,116] 1714]::T [yb [48] 1716,yb [48,55] 1717,yb [49,48] 1718,yb [49] 1719,yb [] 1720,yb [49,49,49,49,49,49,49,49,49,49,49,49,49,49,49,49,49,49,49,49,49,49,49,49,49,49,49,49,49,49,50] 1721,yb [57,57,57,57,57,57,57,57,57,57,57,57,57,57,57,57,57,57,57,57] 1722,yb [50,120] 1723,yb [45,49] 1724]::gh 178 1087 1726 924 1 .none sy (gf 179 1092 1732 927 2 3 .none sy (gh 180 1099 1741 937 1 .none sy (gh 181 1104 1747 945 1 .none sy (gf 182 1109 1753 950 1 1 .none sy ([])))))
noncomputable def QI (P:Params):List Obj:=
 gf 183 1116 1760 952 2 2 .none sy (gf 184 1123 1768 958 2 2 .none sy (gh 185 1130 1776 967 3 .none sy (gh 186 1135 1782 980 1 .none sy ([]))))
noncomputable def gN (l:List Obj):Nat→Obj:=List.rec (λ_=>oZ) (λx _ ih i=>Nat.rec x (λk _=>ih k) i) l
noncomputable def pk (P:Params) (l:List (Nat×(Params→List Obj))):Nat→Obj:=List.rec (λ_=>oZ) (λx _ ih i=>cond (Nat.blt i x.1) (gN (x.2 P) i) (ih (i -x.1))) l
noncomputable def oJ (P:Params) (i:Nat):Obj:=pk P [(32,TU),(32,To),(30,TB),(30,Tf),(36,Tw),(35,Tp),(31,TJ),(35,TO),(36,T2),(32,Tc),(34,Rh),(33,RZ),(35,QA),(36,RE),(34,Qf),(35,R5),(33,Q7),(31,Ru),(33,RK),(34,Qt),(36,Qh),(36,Qw),(30,Q5),(30,Qb),(33,RN),(32,Qq),(30,QB),(30,R7),(33,QH),(33,QV),(31,P9),(31,QU),(33,QO),(31,RA),(24,QI)] i
noncomputable def bt (g:Nat→Obj) (n f:Nat):Nat→Nat→BT:=Nat.rec (λ_ _=> .nil) (λ_ ih p i=>nd n i (g i) (ih (2*p) (i+p)) (ih (2*p) (i+2*p))) f
noncomputable def tree (P:Params) (n:Nat) (v2 v3 v12 v95:Obj):BT:=nd n 0 (oJ P 0) (nd n 1 (oJ P 1) (nd n 3 v3 (nd n 7 (oJ P 7) (nd n 15 (oJ P 15) (nd n 31 (oJ P 31) (bt (oJ P) n 6 64 63) (nd n 95 v95 (bt (oJ P) n 5 128 159) (bt (oJ P) n 5 128 223))) (bt (oJ P) n 7 32 47)) (bt (oJ P) n 8 16 23)) (bt (oJ P) n 9 8 11)) (bt (oJ P) n 10 4 5)) (nd n 2 v2 (nd n 4 (oJ P 4) (bt (oJ P) n 9 8 8) (nd n 12 v12 (bt (oJ P) n 8 16 20) (bt (oJ P) n 8 16 28))) (bt (oJ P) n 10 4 6))
noncomputable def P0 (P:Params):BT:=tree P 15 (⟨.none,none,.dict #[] 0,#[]⟩) (g3 P 9 [(0,s "__main__" 164)] 9) (qh P 0) (oJ P 95)
noncomputable def SH (P:Params):BT:=tree P 71 (⟨.none,none,.dict #[] 0,#[]⟩) (g3 P 21 [(0,s "postkeep.errors" 264)] 21) (qh P 27) (oJ P 95)
noncomputable def SS (P:Params):BT:=tree P 99 (oJ P 2) (g3 P 22 [(0,s "postkeep.errors" 264)] 22) (qh P 30) (⟨.type "type",none,.cls {name:="PostError",bases:=[.type "Exception"],mro:=[r 95,.type "Exception",.type "BaseException",.type "object"],ns:=94,qualname:="PostError",hasDict:=true,slotNames:=[],subclasses:=[],abstract:=false,collection:=none,hasDel:=false},#[some (r 71),none,some (s "PostError" 266),some (s "PostError" 274),some (.builtin "Exception.__new__"),some (.bool true)]⟩)
noncomputable def SD (P:Params):BT:=tree P 111 (oJ P 2) (g3 P 23 [(0,s "postkeep.errors" 264)] 23) (qh P 33) (⟨.type "type",none,.cls {name:="PostError",bases:=[.type "Exception"],mro:=[r 95,.type "Exception",.type "BaseException",.type "object"],ns:=94,qualname:="PostError",hasDict:=true,slotNames:=[],subclasses:=[r 108],abstract:=false,collection:=none,hasDel:=false},#[some (r 71),none,some (s "PostError" 266),some (s "PostError" 274),some (.builtin "Exception.__new__"),some (.bool true)]⟩)
noncomputable def Sg (P:Params):BT:=tree P 123 (oJ P 2) (g3 P 27 [(0,s "postkeep.octets" 338)] 27) (qh P 36) (oJ P 95)
noncomputable def SA (P:Params):BT:=tree P 209 (oJ P 2) (g3 P 28 [(0,s "postkeep.octets" 338)] 28) (qh P 39) (oJ P 95)
noncomputable def Sr (P:Params):BT:=tree P 235 (oJ P 2) (g3 P 33 [(0,s "postkeep.headers" 493)] 33) (qh P 51) (oJ P 95)
noncomputable def S6 (P:Params):BT:=tree P 289 (oJ P 2) (g3 P 37 [(0,s "postkeep.headers" 493)] 37) (qh P 63) (oJ P 95)
noncomputable def Sp (P:Params):BT:=tree P 356 (oJ P 2) (g3 P 52 [(0,s "postkeep.charsets" 645)] 52) (qh P 93) (oJ P 95)
noncomputable def Sf (P:Params):BT:=tree P 432 (oJ P 2) (g3 P 65 [(0,s "postkeep.tokens" 776)] 65) (qh P 126) (oJ P 95)
noncomputable def Oa (P:Params):BT:=tree P 468 (oJ P 2) (g3 P 82 [(0,s "postkeep.params" 838)] 82) (qh P 141) (oJ P 95)
noncomputable def Na (P:Params):BT:=tree P 522 (oJ P 2) (g3 P 84 [(0,s "postkeep.params" 838)] 84) (qh P 147) (oJ P 95)
noncomputable def M7 (P:Params):BT:=tree P 607 (oJ P 2) (g3 P 98 [(0,s "postkeep.params" 838),(93,r 587)] 98) (qh P 186) (oJ P 95)
noncomputable def Ng (P:Params):BT:=tree P 682 (oJ P 2) (g3 P 113 [(0,s "postkeep.quoted" 1140),(93,r 587),(102,r 637)] 113) (qh P 225) (oJ P 95)
noncomputable def Nm (P:Params):BT:=tree P 753 (oJ P 2) (g3 P 128 [(0,s "postkeep.quoted" 1140)] 128) (qh P 255) (oJ P 95)
noncomputable def Pl (P:Params):BT:=tree P 794 (oJ P 2) (g3 P 136 [(0,s "postkeep.parts" 1269)] 136) (qh P 264) (oJ P 95)
noncomputable def NV (P:Params):BT:=tree P 864 (oJ P 2) (g3 P 151 [(0,s "postkeep.build" 1415)] 151) (qh P 297) (oJ P 95)
noncomputable def N3 (P:Params):BT:=tree P 908 (oJ P 2) (g3 P 153 [(0,s "postkeep.build" 1415)] 153) (qh P 303) (oJ P 95)
noncomputable def OC (P:Params):BT:=tree P 941 (oJ P 2) (g3 P 154 [(0,s "postkeep.build" 1415)] 154) (qh P 306) (oJ P 95)
noncomputable def O1 (P:Params):BT:=tree P 997 (oJ P 2) (g3 P 158 [(0,s "postkeep.build" 1415)] 158) (qh P 318) (oJ P 95)
noncomputable def N9 (P:Params):BT:=tree P 1078 (oJ P 2) (g3 P 171 [(0,s "postkeep.build" 1415)] 171) (qh P 357) (oJ P 95)
noncomputable def AK (P:Params):BT:=tree P 1140 (oJ P 2) (g3 P 183 [] 183) (qh P 387) (oJ P 95)
noncomputable abbrev ann:Option Value:=some (.ref 6)
noncomputable abbrev p0:Pos:=⟨0,0,0,0⟩
noncomputable def env:Env:={scope:=PW.main.scope,locals:=mainNs,globals:=mainNs,cells:=[],code:= .ref 13,frame:=some 14}
noncomputable abbrev bc:Code:= .body (behindTheImports PW) env
set_option tactic.hygienic false
theorem zA {α:Type _} {a:α} {G:Prop} (h:none=some a):G:=nomatch h
theorem zB {α:Type _} {a:α} {G:Prop} (h:some a=none):G:=nomatch h
theorem zC {G:Prop} (h:false=true):G:=nomatch h
theorem zD {G:Prop} (h:true=false):G:=nomatch h
theorem zE {α:Type _} {a:α} {G:Prop} (h:a∈([]:List α)):G:=nomatch h
theorem zF {α:Type _} {a:α} {l:List α} {G:Prop} (h:[]=a::l):G:=nomatch h
theorem zG {α:Type _} {a:α} {l:List α} {G:Prop} (h:a::l=[]):G:=nomatch h
theorem zH {n:Nat} {G:Prop} (h:0=n+1):G:=nomatch h
theorem zI {n:Nat} {G:Prop} (h:n+1=0):G:=nomatch h
theorem cps {P:Prop} (h:∀G:Prop,(P→G)→G):P:=h P id
inductive AV where
 |none|bool (b:Bool)|int (i:Int)|str (s:Str)|bytes (b:List UInt8)
 |tup (l:List AV)|lst (l:List AV)|dct (k v:List AV)|inst (c:Nat) (n:List Str) (v:List AV)
 |rng (a b c:Int)|fn (k:Nat)|cls (k:Nat)|ty (n:String)|bi (n:String)|ref (i:Nat)
inductive Callee where
 |fn (k:Nat)|mt (k j:Nat)
inductive mH where
 |ret (v:AV) (fresh:Bool) (o:Option AV)|exc
inductive Res (α:Type) where
 |ok (a:α) (S:List AV)|exc
inductive LK where
 |loc|cell|free|glob
structure LV where
 k:LK
 v:Option AV
noncomputable def LK.EH:LK→Bool
 | .loc=>true
 | .cell=>true
 |_=>false
noncomputable abbrev Loc:=List (Str×LV)
inductive ar where
 |aY (r:Loc) (S:List AV)|brk (r:Loc) (S:List AV)|ret (v:AV) (fresh:Bool) (S:List AV)|exc
noncomputable abbrev K6:=Callee→List AV→Option AV→Option mH
noncomputable def lN:List Nat→List Nat→Bool
 |[],[]=>true
 |a::l,b::m=>match Nat.beq a b with
  |true=>lN l m
  |false=>false
 |_,_=>false
noncomputable def S8:List Nat→Nat
 |[]=>1
 |c::r=>Nat.add c (Nat.mul 1114112 (S8 r))
noncomputable def sk (x:Str):Nat:=S8 x.cps.toList
noncomputable def seq (x y:Str):Bool:=match Nat.beq (sk x) (sk y) with
 |true=>lN x.cps.toList y.cps.toList
 |false=>false
theorem Ab {a b:Nat} {l m:List Nat}:lN (a::l) (b::m)=cond (Nat.beq a b) (lN l m) false:=by
 show(match Nat.beq a b with|true=>lN l m|false=>false)=_;cases Nat.beq a b<;>rfl
theorem wm {l:List Nat}:∀{m:List Nat},lN l m=true↔l=m:=by
 induction l with
 |nil=>
  intro m;cases m with
  |nil=>exact⟨λ_=>rfl,λ_=>rfl⟩
  |cons=>exact⟨λh=>zC h,λh=>zF h⟩
 |cons a l ih=>
  intro m;cases m with
  |nil=>exact⟨λh=>zC h,λh=>zG h⟩
  |cons b m=>
   rw[Ab];cases h:Nat.beq a b with
   |true=>exact⟨λq=>congr (congrArg List.cons (Nat.eq_of_beq_eq_true h)) (ih.mp q),λq=>ih.mpr (List.cons.inj q).2⟩
   |false=>exact⟨λq=>zC q,λq=>absurd (List.cons.inj q).1 (Nat.ne_of_beq_eq_false h)⟩
theorem bw {x y:Str}:seq x y=true↔x=y:=by
 unfold seq;cases h:Nat.beq (sk x) (sk y) with
 |true=>
  simp only[wm];constructor
  ·intro e;cases x;cases y;simp only[Str.mk.injEq];exact Array.toList_inj.mp e
  ·rintro rfl;rfl
 |false=>
  have:=Nat.ne_of_beq_eq_false h;constructor
  ·intro e;exact zC e
  ·rintro rfl;exact absurd rfl this
theorem seq_eq (x y:Str):seq x y=(x==y):=by
 by_cases h:x=y
 ·subst h;rw[bw.mpr rfl,beq_self_eq_true]
 ·cases q:seq x y with
  |true=>exact absurd (bw.mp q) h
  |false=>exact(beq_eq_false_iff_ne.mpr h).symm
noncomputable def dm:Loc→Str→Option LV
 |[],_=>Option.none
 |(y,v)::r,x=>match seq x y with
  |true=>some v
  |false=>dm r x
noncomputable def dF:Loc→Str→AV→Option Loc
 |[],_,_=>Option.none
 |(y,w)::r,x,v=>match seq x y with
  |true=>if w.k.EH=true then some ((y,⟨w.k,some v⟩)::r) else Option.none
  |false=>(dF r x v).map ((y,w)::·)
noncomputable def ao:Nat:=1000000
noncomputable def flat:AV→Bool
 | .ref _=>false
 |_=>true
noncomputable def fG (l:List AV):Bool:=l.all flat
noncomputable def pJ:List Str→List AV→Str→Option AV
 |n::ns,v::vs,x=>match seq x n with
  |true=>some v
  |false=>pJ ns vs x
 |_,_,_=>Option.none
noncomputable def ia:List Str→List AV→Str→AV→List Str×List AV
 |n::ns,v::vs,x,w=>match seq x n with
  |true=>(n::ns,w::vs)
  |false=>(n::(ia ns vs x w).1,v::(ia ns vs x w).2)
 |_,_,x,w=>([x],[w])
noncomputable def JB:AV→Bool
 | .none=>true
 |_=>false
noncomputable def AV.cs {α:Type} (x:AV) (fI:Int→α) (fS:Str→α) (fB:List UInt8→α) (fT fL:List AV→α) (fD:List AV→List AV→α) (d:α):α:=match x with
 | .int i=>fI i
 | .str s=>fS s
 | .bytes b=>fB b
 | .tup l=>fT l
 | .lst l=>fL l
 | .dct k v=>fD k v
 | .none=>d
 | .bool _=>d
 | .inst _ _ _=>d
 | .rng _ _ _=>d
 | .fn _=>d
 | .cls _=>d
 | .ty _=>d
 | .bi _=>d
 | .ref _=>d
noncomputable def no {α β:Type}:α→Option β:=λ_=>Option.none
noncomputable def ym {α β γ:Type}:α→β→Option γ:=λ_ _=>Option.none
noncomputable def cy (x:AV):Option Int:=x.cs some no no no no ym Option.none
noncomputable def fQ (x:AV):Option Str:=x.cs no some no no no ym Option.none
noncomputable def b7 (x:AV):Option (List UInt8):=x.cs no no some no no ym Option.none
noncomputable def sW (x:AV):Option (List AV):=x.cs no no no some no ym Option.none
noncomputable def mC (x:AV):Option (List AV):=x.cs no no no no some ym Option.none
noncomputable def DD (x:AV):Option (List AV×List AV):=x.cs no no no no no (λk v=>some (k,v)) Option.none
noncomputable def A6 (x:AV):Bool:=(cy x).isSome
noncomputable def wx (x:AV):Bool:=(fQ x).isSome
noncomputable def NF (x:AV):Bool:=(b7 x).isSome
noncomputable def A9 (x:AV):Int:=(cy x).getD 0
noncomputable def Di (x:AV):UInt8:=(A9 x).toNat.toUInt8
noncomputable def hV (x:AV):List UInt8:=(b7 x).getD []
noncomputable def i5 (x:AV):Str:=(fQ x).getD Str.empty
noncomputable def iL (x:AV):Bool:=(cy x).any λi=>decide (0≤i∧i<256)
noncomputable def xS (x:AV):Bool:=(fQ x).any λs=>decide (s.length≤ao)
noncomputable def yG (x y:AV):Bool:=x.cs (λa=>(cy y).any λb=>a==b) (λa=>(fQ y).any λb=>seq a b) (λ_=>false) (λ_=>false) (λ_=>false) (λ_ _=>false) false
noncomputable def cW (x:AV) (k:List AV):Bool:=x.cs (λ_=>k.all A6) (λ_=>k.all wx) (λ_=>false) (λ_=>false) (λ_=>false) (λ_ _=>false) false
noncomputable def same (x y:AV):Bool:=x.cs (λa=>(cy y).any λb=>a==b) (λa=>(fQ y).any λb=>seq a b) (λa=>(b7 y).any λb=>a==b) (λ_=>false) (λ_=>false) (λ_ _=>false) false
noncomputable def DR (x y:AV):Bool:=x.cs (λ_=>A6 y) (λ_=>wx y) (λ_=>NF y) (λ_=>false) (λ_=>false) (λ_ _=>false) false
noncomputable def dU:List AV→List AV→AV→Option AV
 |k::ks,v::vs,x=>match yG x k with
  |true=>some v
  |false=>dU ks vs x
 |_,_,_=>Option.none
noncomputable def hZ:List AV→List AV→AV→AV→List AV×List AV
 |k::ks,v::vs,x,w=>match yG x k with
  |true=>(k::ks,w::vs)
  |false=>(k::(hZ ks vs x w).1,v::(hZ ks vs x w).2)
 |_,_,x,w=>([x],[w])
noncomputable def fU {K:Type} (f:K→AV):List (K×AV)→List AV×List AV→List AV×List AV
 |[],a=>a
 |p::r,a=>fU f r (hZ a.1 a.2 (f p.1) p.2)
noncomputable def bK (S:List AV):AV→Option AV
 | .ref i=>S[i]?
 |v=>some v
noncomputable def bInts (b:List UInt8):List AV:=b.map λc=> .int (c.toNat:Int)
noncomputable def cX (s:Str):List AV:=s.cps.toList.map λc=> .str ⟨#[c]⟩
noncomputable def jw (a b:Int):Nat→List AV
 |0=>[]
 |n+1=> .int a::jw (a+b) b n
noncomputable def kR (a b c:Int):Nat:=(PySem.Builtin.Range.rangeSize a b c).toNat
noncomputable def I0:AV→Option (Int×Int×Int)
 | .rng a b c=>some (a,b,c)
 |_=>Option.none
noncomputable def items (x:AV):Option (List AV):=match I0 x with
 |some p=>some (jw p.1 p.2.2 (kR p.1 p.2.1 p.2.2))
 |Option.none=>x.cs no (λs=>some (cX s)) (λb=>some (bInts b)) some some (λk _=>if k.isEmpty=true then some [] else Option.none) Option.none
noncomputable def cut {α:Type} (l:List α) (lo hi:Int):List α:=(l.take (clipAt l.length hi)).drop (clipAt l.length lo)
noncomputable def jd (b p:List UInt8):Nat→Nat→Int
 |_,0=> -1
 |i,n+1=>if(b.drop i).take p.length==p then(i:Int) else jd b p (i+1) n
noncomputable def findB (b p:List UInt8) (lo hi:Nat):Int:=jd b p lo (min hi b.length+1 -(lo+p.length))
noncomputable def dq (p:List UInt8):Nat→List UInt8→Nat
 |0,_=>0
 |n+1,b=>match b with
  |[]=>0
  |c::r=>if(c::r).take p.length==p then 1+dq p n ((c::r).drop p.length) else dq p n r
noncomputable def cL (p:List UInt8):Nat→List UInt8→List UInt8→List (List UInt8)
 |0,acc,b=>[acc.reverse++b]
 |n+1,acc,b=>match b with
  |[]=>[acc.reverse]
  |c::r=>if(c::r).take p.length==p then acc.reverse::cL p n [] ((c::r).drop p.length) else cL p n (c::acc) r
noncomputable def dH (p:List UInt8):List UInt8→List UInt8
 |[]=>[]
 |c::r=>if p.contains c then dH p r else c::r
noncomputable def dG (p b:List UInt8):List UInt8:=(dH p b.reverse).reverse
noncomputable def aL (sep:List UInt8):List (List UInt8)→List UInt8
 |[]=>[]
 |[x]=>x
 |x::r=>x++sep++aL sep r
noncomputable def one {α:Type}:List α→Option α
 |[]=>Option.none
 |x::r=>match r with
  |[]=>some x
  |_::_=>Option.none
noncomputable def N4:List AV→Option (AV×AV)
 |[]=>Option.none
 |x::r=>(one r).map λy=>(x,y)
noncomputable def nH (x:AV):Bool:=(sW x).any λl=>(N4 l).any λp=>A6 p.1
noncomputable def tb (x:AV):Int×AV:=(((sW x).bind N4).map λp=>(A9 p.1,p.2)).getD (0,.none)
noncomputable def ta (l:List Str):Str:=⟨(l.map λx=>x.cps.toList).flatten.toArray⟩
noncomputable abbrev GV:=Option (List Bool×AV)
noncomputable def Ro:GV→Option AV:=λg=>g.bind λp=>if p.1.all id=true then some p.2 else Option.none
noncomputable def kZ (v:AV):GV:=some ([],v)
noncomputable def ji (b:Bool) (v:AV):GV:=some ([b],v)
noncomputable def SJ (b:List UInt8):GV:=ji (decide (b.length≤ao)) (.bytes b)
noncomputable def SY (s:Str):GV:=ji (decide (s.length≤ao)) (.str s)
noncomputable def OZ (l:List AV):GV:=ji (decide (l.length≤ao)) (.lst l)
noncomputable def small (i:Int):Bool:=decide (-(2^62)<i)&&decide (i<2^62)
noncomputable def vQ:AV→Option Nat
 | .cls k=>some k
 |_=>Option.none
noncomputable def fY:AV→Option (Nat×List Str×List AV)
 | .inst c n v=>some (c,n,v)
 |_=>Option.none
noncomputable def two {α β γ:Type} (f:AV→Option α) (g:AV→Option β) (a b:AV) (k:α→β→Option γ):Option γ:=(f a).bind λx=>(g b).bind λy=>k x y
noncomputable def PB (a b:AV):GV:=a.cs (λx=>(cy b).bind λy=>kZ (.int (x+y))) (λx=>(fQ b).bind λy=>SY (x++y)) (λx=>(b7 b).bind λy=>SJ (x++y))
 (λx=>(sW b).bind λy=>ji (decide (x.length+y.length≤ao)) (.tup (x++y))) (λx=>(mC b).bind λy=>OZ (x++y)) ym Option.none
noncomputable def O0 (a b:AV):GV:=a.cs (λx=>(cy b).bind λy=>ji (small x||small y) (.int (x*y))) no no no (λx=>(cy b).bind λn=>ji (decide (x.length=1∧n≤1000)&&small n) (.lst ((List.replicate n.toNat x).flatten))) ym Option.none
noncomputable def binop:Operator→AV→AV→GV
 | .Add=>PB
 | .Mult=>O0
 | .Sub=>λx y=>two cy cy x y λa b=>kZ (.int (a -b))
 | .Mod=>λx y=>two cy cy x y λa b=>ji (decide (b≠0)) (.int (Int.fmod a b))
 | .FloorDiv=>λx y=>two cy cy x y λa b=>ji (decide (b≠0∧small b)) (.int (Int.fdiv a b))
 | .LShift=>λx y=>two cy cy x y λa b=>ji (decide (0≤b∧b≤64∧0≤a∧small a)) (.int (a*2^b.toNat))
 | .RShift=>λx y=>two cy cy x y λa b=>ji (decide (0≤b∧b≤64∧0≤a)) (.int (Int.fdiv a (2^b.toNat)))
 | .BitAnd=>λx y=>two cy cy x y λa b=>ji (decide (0≤a∧0≤b∧small a∧small b)) (.int ((a.toNat&&&b.toNat:Nat):Int))
 | .Pow=>λx y=>two cy cy x y λa b=>ji (decide (0≤b∧b≤64∧0≤a∧a≤10)) (.int (a^b.toNat))
 |_=>λ_ _=>Option.none
noncomputable def eqv (x y:AV):Option Bool:=x.cs (λa=>(cy y).bind λb=>some (a==b)) (λa=>(fQ y).bind λb=>some (seq a b)) (λa=>(b7 y).bind λb=>some (a==b)) no
 (λa=>(mC y).bind λb=>if(b.isEmpty||a.isEmpty)=true then some (b.isEmpty&&a.isEmpty) else Option.none) ym Option.none
noncomputable abbrev GB:=Option (List Bool×Bool)
noncomputable def I9 (x:AV) (l:List AV):GB:=some ([l.all (DR x)],l.any (same x))
noncomputable def inv (x y:AV):GB:=y.cs no no (λb=>x.cs (λi=>some ([iL (.int i)],b.contains (Di (.int i)))) no (λa=>some ([],decide (0≤findB b a 0 b.length))) no no ym Option.none)
 (I9 x) (I9 x) (λk v=>some ([cW x k],(dU k v x).isSome)) Option.none
noncomputable def Jm (b:Bool):GB:=some ([],b)
noncomputable def cmp:CmpOp→AV→AV→GB
 | .Eq=>λa b=>(eqv a b).bind Jm
 | .NotEq=>λa b=>(eqv a b).bind λc=>Jm (!c)
 | .Lt=>λx y=>two cy cy x y λa b=>Jm (decide (a<b))
 | .LtE=>λx y=>two cy cy x y λa b=>Jm (decide (a≤b))
 | .Gt=>λx y=>two cy cy x y λa b=>Jm (decide (b<a))
 | .GtE=>λx y=>two cy cy x y λa b=>Jm (decide (b≤a))
 | .In=>inv
 | .NotIn=>λa b=>(inv a b).map λp=>(p.1,!p.2)
 | .Is=>λa b=>if JB b=true then Jm (JB a) else Option.none
 | .IsNot=>λa b=>if JB b=true then Jm (!JB a) else Option.none
noncomputable def truth (x:AV):Option Bool:=x.cs no no no no (λl=>some (!l.isEmpty)) ym (match x with
 | .bool b=>some b
 |_=>Option.none)
noncomputable def inR (n:Nat) (i:Int):Bool:=decide (0≤i∧i<n)
noncomputable def item (o k:AV):GV:=o.cs no (λs=>(cy k).bind λi=>ji (inR s.length i) (.str ⟨#[s.cps.toList.getD i.toNat 0]⟩)) (λb=>(cy k).bind λi=>ji (inR b.length i) (.int ((b.getD i.toNat 0).toNat:Int)))
 (λl=>(cy k).bind λi=>ji (inR l.length i) (l.getD i.toNat .none)) (λl=>(cy k).bind λi=>ji (inR l.length i) (l.getD i.toNat .none)) (λks vs=>ji (cW k ks&&(dU ks vs k).isSome) ((dU ks vs k).getD .none)) Option.none
noncomputable def bound (d:Int) (x:AV):Option Int:=if JB x=true then some d else cy x
noncomputable def slice (o lo hi:AV):GV:=o.cs no no (λb=>(bound 0 lo).bind λl=>(bound b.length hi).bind λh=>kZ (.bytes (cut b l h))) no (λb=>(bound 0 lo).bind λl=>(bound b.length hi).bind λh=>kZ (.lst (cut b l h))) ym Option.none
noncomputable def Ai:List AV→Int
 |[]=>0
 |x::r=>A9 x+Ai r
noncomputable def digits (i:Int):Str:=Str.ofString (toString i)
noncomputable def bk:List Nat:=[21,28,80,137,155,156,157]
noncomputable abbrev Fn:=List AV→GV
noncomputable def a1 (f:AV→GV):Fn:=λas=>match as with
 |[]=>Option.none
 |x::r=>match r with
  |[]=>f x
  |_::_=>Option.none
noncomputable def a2 (f:AV→AV→GV):Fn:=λas=>match as with
 |[]=>Option.none
 |x::r=>a1 (f x) r
noncomputable def Pd (x:AV):GV:=x.cs no (λs=>kZ (.int s.length)) (λb=>kZ (.int b.length)) (λl=>kZ (.int l.length)) (λl=>kZ (.int l.length)) ym Option.none
noncomputable def OP (x y:AV):GV:=(fY x).bind λp=>y.cs no no no (λl=>(N4 l).bind λq=>(vQ q.1).bind λk=>(vQ q.2).bind λj=>ji (bk.contains k&&bk.contains j) (.bool (p.1==k||p.1==j))) no ym
 ((vQ y).bind λk=>ji (bk.contains k) (.bool (p.1==k)))
noncomputable def O6:List (String×Fn):=[
 ("len",a1 Pd),
 ("abs",a1 λx=>(cy x).bind λi=>kZ (.int i.natAbs)),
 ("ord",a1 λx=>(fQ x).bind λs=>(one s.cps.toList).bind λc=>kZ (.int c)),
 ("chr",a1 λx=>(cy x).bind λi=>ji (decide (0≤i∧i<55296)) (.str ⟨#[i.toNat]⟩)),
 ("max",a2 λx y=>two cy cy x y λa b=>kZ (.int (if a<b then b else a))),
 ("min",a2 λx y=>two cy cy x y λa b=>kZ (.int (if b<a then b else a))),
 ("sum",a1 λx=>(mC x).bind λl=>ji (l.all A6) (.int (Ai l))),
 ("sorted",a1 λx=>(DD x).bind λp=>ji (decide (p.1.length≤1)&&p.1.all xS) (.lst p.1)),
 ("isinstance",a2 OP)]
noncomputable def cA {α:Type}:List (String×α)→String→Option α
 |[],_=>Option.none
 |p::l,n=>if p.1=n then some p.2 else cA l n
noncomputable def SK (n:String) (as:List AV):GV:=(cA O6 n).bind λf=>f as
noncomputable def RB (x:AV):GV:=(cy x).bind λi=>kZ (.int i)
noncomputable def Ol (x:AV):GV:=(cy x).bind λi=>some ([small i,decide ((digits i).length≤ao)],.str (digits i))
noncomputable def M0 (as:List AV):GV:=match as with
 |[]=>Option.none
 |x::r=>(cy x).bind λa=>match r with
  |[]=>ji (small a) (.rng 0 a 1)
  |y::r=>(cy y).bind λb=>match r with
   |[]=>ji (small a&&small b) (.rng a b 1)
   |z::r=>(cy z).bind λc=>match r with
    |[]=>ji (small a&&small b&&small c&&decide (c≠0)) (.rng a b c)
    |_::_=>Option.none
noncomputable def JH (x:AV):GV:=x.cs no no no (λl=>kZ (.lst l)) (λl=>kZ (.lst l)) ym Option.none
noncomputable def OK:List (String×Fn):=[
 ("int",a1 RB),("str",a1 Ol),("range",M0),
 ("bytes",a1 λx=>(mC x).bind λl=>some ([l.all iL,decide (l.length≤ao)],.bytes (l.map Di))),
 ("list",a1 JH),
 ("dict",a1 λx=>(mC x).bind λl=>ji (decide (l.length≤500)&&l.all nH) (.dct (fU .int (l.map tb) ([],[])).1 (fU .int (l.map tb) ([],[])).2))]
noncomputable def Sv (n:String) (as:List AV):GV:=(cA OK n).bind λf=>f as
noncomputable def Jx (b:List UInt8) (as:List AV):GV:=match as with
 |[]=>Option.none
 |x::r=>(b7 x).bind λp=>match r with
  |[]=>kZ (.int (findB b p 0 b.length))
  |y::r=>(cy y).bind λl=>match r with
   |[]=>ji (decide (0≤l)&&small l) (.int (findB b p l.toNat b.length))
   |z::r=>(cy z).bind λh=>match r with
    |[]=>ji (decide (0≤l)&&decide (0≤h)&&small l&&small h) (.int (findB b p l.toNat h.toNat))
    |_::_=>Option.none
noncomputable def Nk:List (String×String×(List UInt8→Fn)):=[
 ("find","bytes.find",Jx),
 ("count","bytes.count",λb=>a1 λx=>(b7 x).bind λp=>if p.isEmpty=true then Option.none else kZ (.int (dq p b.length b))),
 ("split","bytes.split",λb=>a1 λx=>(b7 x).bind λp=>if p.isEmpty=true then Option.none else OZ ((cL p b.length [] b).map .bytes)),
 ("rstrip","bytes.rstrip",λb=>a1 λx=>(b7 x).bind λp=>kZ (.bytes (dG p b))),
 ("strip","bytes.strip",λb=>a1 λx=>(b7 x).bind λp=>kZ (.bytes (dG p (dH p b)))),
 ("join","bytes.join",λb=>a1 λx=>(mC x).bind λl=>some ([l.all NF,decide ((aL b (l.map hV)).length≤ao)],.bytes (aL b (l.map hV))))]
noncomputable def Po:List (String×String×(Str→Fn)):=[
 ("join","str.join",λs=>a1 λx=>(mC x).bind λl=>if s.cps.size=0 then some ([l.all wx,decide ((ta (l.map i5)).length≤ao)],.str (ta (l.map i5))) else Option.none),
 ("find","str.find",λs=>a1 λx=>(fQ x).bind λp=>kZ (.int (match PySem.Builtin.Str.occurrences s p 0 s.length 1 with|i::_=>(i:Int)|[]=> -1)))]
noncomputable def PN:List (String×String×(List AV×List AV→Fn)):=[
 ("get","dict.get",λd=>a2 λx y=>ji (flat x&&flat y&&cW x d.1) ((dU d.1 d.2 x).getD y))]
noncomputable abbrev MV:=Option (List Bool×AV×AV)
noncomputable def Mw:List (String×String×(List AV→List AV→MV)):=[
 ("append","list.append",λl as=>(one as).bind λx=>some ([decide (l.length<ao)],.none,.lst (l++[x]))),
 ("extend","list.extend",λl as=>(one as).bind λx=>(mC x).bind λx=>some ([decide (l.length+x.length≤ao)],.none,.lst (l++x))),
 ("pop","list.pop",λl as=>if as.isEmpty=true then some ([!l.isEmpty],l.getLastD .none,.lst l.dropLast) else Option.none)]
noncomputable def JA (o:AV) (m:String) (as:List AV):GV:=o.cs no (λs=>(cA Po m).bind λf=>f.2 s as) (λb=>(cA Nk m).bind λf=>f.2 b as) no no (λk v=>(cA PN m).bind λf=>f.2 (k,v) as) Option.none
noncomputable def Oe (o:AV) (m:String) (as:List AV):MV:=(mC o).bind λl=>(cA Mw m).bind λf=>f.2 l as
noncomputable def cf (o:AV) (m:String):Option (String×String):=o.cs no (λ_=>(cA Po m).map λf=>("str",f.1)) (λ_=>(cA Nk m).map λf=>("bytes",f.1)) no (λ_=>(cA Mw m).map λf=>("list",f.1)) (λ_ _=>(cA PN m).map λf=>("dict",f.1)) Option.none
set_option tactic.hygienic false
open PySem.Builtin
theorem yR (b p:List UInt8) (i:Nat):(b.toArray.extract i (i+p.toArray.size)==p.toArray)=((b.drop i).take p.length==p):=by
 simp
theorem EV (b p:List UInt8):∀(n i:Nat),jd b p i n=match((List.range n).map (·+i)).find? (λj=>b.toArray.extract j (j+p.toArray.size)==p.toArray) with|some j=>(j:Int)|none=> -1:=by
 intro n
 induction n with
 |zero=>
  intro i;exact rfl
 |succ n ih=>
  intro i;have e:((List.range (n+1)).map (·+i))=i::((List.range n).map (·+(i+1))):=by
   rw[List.range_succ_eq_map,List.map_cons,List.map_map];simp only[Nat.zero_add,List.cons.injEq,true_and];apply List.map_congr_left;intro a _;simp only[Function.comp];omega
  rw[e,List.find?_cons,yR];show(if((b.drop i).take p.length==p)=true then(i:Int) else jd b p (i+1) n)=_;cases h:((b.drop i).take p.length==p) with
  |true=>simp
  |false=>simp only[Bool.false_eq_true,if_false];exact ih (i+1)
theorem pG (b p:List UInt8) (lo hi:Nat):(match Bytes.find? b.toArray p.toArray lo hi with|some j=>(j:Int)|none=> -1)=jd b p lo (hi+1 -(lo+p.length)):=by
 rw[EV];rfl
section
variable {b p:Array UInt8} {t u:Tok} {id name short:String}
theorem qQ {i:Int}:Bytes.bound? (some (.int i t))=pure (some i):=by
 unfold Bytes.bound?;have e:specialOf (.int i t) "__index__"=typeLookup (.type "int") "__index__":=rfl;dsimp only[e,F.slot_int_index.lookup];rfl
noncomputable def C8 (n:Nat) (lo hi:Option Int) (m:Nat):Option (Nat×Nat):=if(Bytes.window n lo hi).2 -(Bytes.window n lo hi).1<m then none else some ((Bytes.window n lo hi).1.toNat,(Bytes.window n lo hi).2.toNat)
theorem B7 {nm:String}:Bytes.searchArgs .bytes nm ⟨[.bytes b t,.bytes p u],[]⟩=pure (b,p,C8 b.size none none p.size):=by
 unfold Bytes.searchArgs;simp only[show∀i,selfAndSome i nm 1 3 ⟨[.bytes b t,.bytes p u],[]⟩=pure (.bytes b t,[.bytes p u]) fromλ_=>rfl,pure_bind,List.headD_cons,KBy.buffer_eq];rfl
theorem LP {nm:String} {i:Int} {ti:Tok}:Bytes.searchArgs .bytes nm ⟨[.bytes b t,.bytes p u,.int i ti],[]⟩=pure (b,p,C8 b.size (some i) none p.size):=by
 unfold Bytes.searchArgs;simp only[show∀k,selfAndSome k nm 1 3 ⟨[.bytes b t,.bytes p u,.int i ti],[]⟩=pure (.bytes b t,[.bytes p u,.int i ti]) fromλ_=>rfl,pure_bind,List.headD_cons,KBy.buffer_eq,
  List.getElem?_cons_succ,List.getElem?_cons_zero,qQ]
 rfl
theorem Mk {nm:String} {i j:Int} {ti tj:Tok}:Bytes.searchArgs .bytes nm ⟨[.bytes b t,.bytes p u,.int i ti,.int j tj],[]⟩=pure (b,p,C8 b.size (some i) (some j) p.size):=by
 unfold Bytes.searchArgs;simp only[show∀k,selfAndSome k nm 1 3 ⟨[.bytes b t,.bytes p u,.int i ti,.int j tj],[]⟩=pure (.bytes b t,[.bytes p u,.int i ti,.int j tj]) fromλ_=>rfl,pure_bind,List.headD_cons,KBy.buffer_eq,
  List.getElem?_cons_succ,List.getElem?_cons_zero,qQ]
 rfl
theorem gG {args:Args} {r:Option (Nat×Nat)} (e:Bytes.searchArgs .bytes "find" args=pure (b,p,r)):
 Gives («bytes.find» args) (.int (match r.bind λx=>Bytes.find? b p x.1 x.2 with|some i=>(i:Int)|none=> -1)):=by
 refine .of_wp λM A E s Q hq=> ?_
 unfold «bytes.find» Bytes.searchM;refine wpAny_bind (wpAny_of_eq e ?_);dsimp only at hq⊢;simp only[Bool.false_eq_true,if_false];cases h:r.bind λx=>Bytes.find? b p x.1 x.2 with
 |some i=>
  rw[h] at hq;exact wpAny_bind (wpAny_mkInt (wpAny_pure ⟨_,rfl,hq⟩))
 |none=>
  rw[h] at hq;exact wpAny_bind (wpAny_rule (wpAny_bind (wpAny_mkInt (wpAny_pure ⟨_,rfl,hq⟩))))
theorem wj (hp:p.isEmpty=false):Gives («bytes.count» ⟨[.bytes b t,.bytes p u],[]⟩) (.int (match C8 b.size none none p.size with|some x=>((Bytes.occurrences b p x.1 x.2).length:Int)|none=>0)):=by
 refine .of_wp λM A E s Q hq=> ?_
 unfold «bytes.count» Bytes.countM;refine wpAny_bind (wpAny_of_eq B7 ?_);cases h:C8 b.size none none p.size with
 |none=>
  rw[h] at hq;exact wpAny_bind (wpAny_mkInt (wpAny_pure ⟨_,rfl,hq⟩))
 |some x=>
  rw[h] at hq;dsimp only;refine hp.symm▸?_;exact wpAny_bind (wpAny_mkInt (wpAny_pure ⟨_,rfl,hq⟩))
theorem kB:Bytes.bytesLike id (.bytes p u)=pure p:=by
 unfold Bytes.bytesLike;refine KBy.buffer_eq.symm▸?_;rfl
theorem mQ {nm:String} {l r:Bool}:Gives (Bytes.stripM .bytes nm l r ⟨[.bytes b t,.bytes p u],[]⟩)
 (let k:=if l then b.toList.dropWhile p.contains else b.toList;let k:=if r then(k.reverse.dropWhile p.contains).reverse else k;if k.length==b.size then .val (.bytes b t) else .bytes k.toArray):=by
 refine .of_wp λM A E s Q hq=> ?_
 unfold Bytes.stripM;refine wpAny_bind (wpAny_of_eq (show selfAndSome _ nm 0 1 ⟨[.bytes b t,.bytes p u],[]⟩=pure (.bytes b t,[.bytes p u]) from rfl) ?_);dsimp only at hq⊢;simp only[kB,pure_bind];refine wpAny_bind (wpAny_of_eq (a:=b) rfl ?_);generalize (if r=true then _ else _:List UInt8)=k at hq⊢;cases h:(k.length==b.size) with
 |true=>
  rw[h] at hq;exact wpAny_bind (wpAny_rule (wpAny_bind (wpAny_bind (wpAny_typeOf (typeIs_bytes s b t) (wpAny_pure (wpAny_pure ⟨_,rfl,hq⟩))))))
 |false=>
  rw[h] at hq;exact wpAny_bind (wpAny_mkBytes (wpAny_pure ⟨_,rfl,hq.2⟩) hq.1)
end
open PySem.W.FB
theorem cD:Slot "bytes" "find" "bytes.find":=
 .of (owner:="bytes") (n:="find") (by rw[typeLookup_type,builtinLookup_eq_fast];kernel_rfl) (by decide+kernel) (by decide+kernel) (by decide+kernel)
  (by first|exact .inl (by decide+kernel)|exact .inr (by decide+kernel)) (by rw[isSubtype_type];kernel_rfl)
theorem nh:typeOf (.builtin "bytes.find")=pure (.type "method_descriptor"):=by show builtinType _=_;rw[builtinType_eq_fast];kernel_rfl
theorem dz:entryFor table "bytes.find"=some Builtin.«bytes.find»:=entryFor_of_tree (by kernel_rfl)
theorem kz (a b:Value):argsOk "bytes.find" ⟨[a,b],[]⟩:=by
 unfold argsOk;rw[signature?_of (id:="bytes.find") (n:=['d','n','i','f']) (o:=['s','e','t','y','b']) (by kernel_rfl) owner_bytes];kernel_rfl
theorem kG (a b c:Value):argsOk "bytes.find" ⟨[a,b,c],[]⟩:=by
 unfold argsOk;rw[signature?_of (id:="bytes.find") (n:=['d','n','i','f']) (o:=['s','e','t','y','b']) (by kernel_rfl) owner_bytes];kernel_rfl
theorem kK (a b c d:Value):argsOk "bytes.find" ⟨[a,b,c,d],[]⟩:=by
 unfold argsOk;rw[signature?_of (id:="bytes.find") (n:=['d','n','i','f']) (o:=['s','e','t','y','b']) (by kernel_rfl) owner_bytes];kernel_rfl
theorem fW:Slot "bytes" "count" "bytes.count":=
 .of (owner:="bytes") (n:="count") (by rw[typeLookup_type,builtinLookup_eq_fast];kernel_rfl) (by decide+kernel) (by decide+kernel) (by decide+kernel)
  (by first|exact .inl (by decide+kernel)|exact .inr (by decide+kernel)) (by rw[isSubtype_type];kernel_rfl)
theorem lJ:typeOf (.builtin "bytes.count")=pure (.type "method_descriptor"):=by show builtinType _=_;rw[builtinType_eq_fast];kernel_rfl
theorem jR:entryFor table "bytes.count"=some Builtin.«bytes.count»:=entryFor_of_tree (by kernel_rfl)
theorem jG (a b:Value):argsOk "bytes.count" ⟨[a,b],[]⟩:=by
 unfold argsOk;rw[signature?_of (id:="bytes.count") (n:=['t','n','u','o','c']) (o:=['s','e','t','y','b']) (by kernel_rfl) owner_bytes];kernel_rfl
theorem fP:Slot "bytes" "strip" "bytes.strip":=
 .of (owner:="bytes") (n:="strip") (by rw[typeLookup_type,builtinLookup_eq_fast];kernel_rfl) (by decide+kernel) (by decide+kernel) (by decide+kernel)
  (by first|exact .inl (by decide+kernel)|exact .inr (by decide+kernel)) (by rw[isSubtype_type];kernel_rfl)
theorem lI:typeOf (.builtin "bytes.strip")=pure (.type "method_descriptor"):=by show builtinType _=_;rw[builtinType_eq_fast];kernel_rfl
theorem ka:entryFor table "bytes.strip"=some Builtin.«bytes.strip»:=entryFor_of_tree (by kernel_rfl)
theorem jE (a b:Value):argsOk "bytes.strip" ⟨[a,b],[]⟩:=by
 unfold argsOk;rw[signature?_of (id:="bytes.strip") (n:=['p','i','r','t','s']) (o:=['s','e','t','y','b']) (by kernel_rfl) owner_bytes];kernel_rfl
theorem fH:Slot "bytes" "rstrip" "bytes.rstrip":=
 .of (owner:="bytes") (n:="rstrip") (by rw[typeLookup_type,builtinLookup_eq_fast];kernel_rfl) (by decide+kernel) (by decide+kernel) (by decide+kernel)
  (by first|exact .inl (by decide+kernel)|exact .inr (by decide+kernel)) (by rw[isSubtype_type];kernel_rfl)
theorem jV:typeOf (.builtin "bytes.rstrip")=pure (.type "method_descriptor"):=by show builtinType _=_;rw[builtinType_eq_fast];kernel_rfl
theorem jr:entryFor table "bytes.rstrip"=some Builtin.«bytes.rstrip»:=entryFor_of_tree (by kernel_rfl)
theorem i6 (a b:Value):argsOk "bytes.rstrip" ⟨[a,b],[]⟩:=by
 unfold argsOk;rw[signature?_of (id:="bytes.rstrip") (n:=['p','i','r','t','s','r']) (o:=['s','e','t','y','b']) (by kernel_rfl) owner_bytes];kernel_rfl
theorem gi:Slot "bytes" "split" "bytes.split":=
 .of (owner:="bytes") (n:="split") (by rw[typeLookup_type,builtinLookup_eq_fast];kernel_rfl) (by decide+kernel) (by decide+kernel) (by decide+kernel)
  (by first|exact .inl (by decide+kernel)|exact .inr (by decide+kernel)) (by rw[isSubtype_type];kernel_rfl)
theorem mj:typeOf (.builtin "bytes.split")=pure (.type "method_descriptor"):=by show builtinType _=_;rw[builtinType_eq_fast];kernel_rfl
theorem jW:entryFor table "bytes.split"=some Builtin.«bytes.split»:=entryFor_of_tree (by kernel_rfl)
theorem jy (a b:Value):argsOk "bytes.split" ⟨[a,b],[]⟩:=by
 unfold argsOk;rw[signature?_of (id:="bytes.split") (n:=['t','i','l','p','s']) (o:=['s','e','t','y','b']) (by kernel_rfl) owner_bytes];kernel_rfl
theorem hO:Slot "bytes" "join" "bytes.join":=
 .of (owner:="bytes") (n:="join") (by rw[typeLookup_type,builtinLookup_eq_fast];kernel_rfl) (by decide+kernel) (by decide+kernel) (by decide+kernel)
  (by first|exact .inl (by decide+kernel)|exact .inr (by decide+kernel)) (by rw[isSubtype_type];kernel_rfl)
theorem nE:typeOf (.builtin "bytes.join")=pure (.type "method_descriptor"):=by show builtinType _=_;rw[builtinType_eq_fast];kernel_rfl
theorem lV:entryFor table "bytes.join"=some Builtin.«bytes.join»:=entryFor_of_tree (by kernel_rfl)
theorem ku (a b:Value):argsOk "bytes.join" ⟨[a,b],[]⟩:=by
 unfold argsOk;rw[signature?_of (id:="bytes.join") (n:=['n','i','o','j']) (o:=['s','e','t','y','b']) (by kernel_rfl) owner_bytes];kernel_rfl
set_option tactic.hygienic false
open PySem.Builtin
noncomputable def fN (p s:List UInt8):Nat→Nat→List Nat:=List.rec (λ_ _=>[]) (λc s ih i k=>Nat.rec (cond ((c::s).take p.length==p) (i::ih (i+1) (p.length -1)) (ih (i+1) 0)) (λk _=>ih (i+1) k) k) s
theorem DA (p s:List UInt8) (c:UInt8) (i:Nat):fN p (c::s) i 0=cond ((c::s).take p.length==p) (i::fN p s (i+1) (p.length -1)) (fN p s (i+1) 0):=rfl
theorem se {p s:List UInt8} {c:UInt8} (i:Nat) (h:((c::s).take p.length==p)=true):fN p (c::s) i 0=i::fN p s (i+1) (p.length -1):=by rw[DA,h];rfl
theorem pV {p s:List UInt8} {c:UInt8} (i:Nat) (h:((c::s).take p.length==p)=false):fN p (c::s) i 0=fN p s (i+1) 0:=by rw[DA,h];rfl
theorem pP (p s:List UInt8):∀i k,s.length<p.length→fN p s i k=[]:=by
 induction s with
 |nil=>exactλ_ _ _=>rfl
 |cons c s ih=>
  intro i k h;have h':=Nat.lt_of_succ_lt h;cases k with
  |succ k=>exact ih (i+1) k h'
  |zero=>
   cases q:(c::s).take p.length==p with
   |false=>exact(pV i q).trans (ih (i+1) 0 h')
   |true=>exact absurd (congrArg List.length (beq_iff_eq.mp q)) (Nat.ne_of_lt (Nat.lt_of_le_of_lt (List.length_take_le' _ _) h))
theorem qN (p:List UInt8) (k:Nat):∀s i,fN p s i k=fN p (s.drop k) (i+k) 0:=by
 induction k with
 |zero=>exactλ_ _=>rfl
 |succ k ih=>
  intro s i;cases s with
  |nil=>rfl
  |cons c s=>exact(ih s (i+1)).trans (congrArg (fN p (s.drop k) · 0) (Nat.succ_add i k))
theorem E8 (p s:List UInt8):∀i k,(fN p s i k).length≤s.length:=by
 induction s with
 |nil=>exactλ_ _=>Nat.le_refl _
 |cons c s ih=>
  intro i k;cases k with
  |succ k=>exact Nat.le_succ_of_le (ih (i+1) k)
  |zero=>
   cases q:(c::s).take p.length==p with
   |false=>rw[pV i q];exact Nat.le_succ_of_le (ih (i+1) 0)
   |true=>rw[se i q];exact Nat.succ_le_succ (ih (i+1) _)
noncomputable abbrev HU (b p:List UInt8) (acc:List Nat×Nat) (i:Nat):List Nat×Nat:=if(decide (i≥acc.2)&&b.toArray.extract i (i+p.toArray.size)==p.toArray)=true then(i::acc.1,i+p.toArray.size) else acc
theorem Bo {b s:List UInt8} (p:List UInt8) (c:UInt8) {i nx:Nat} {acc:List Nat} (e:b.drop i=c::s) {R:List Nat×Nat→List Nat} (ih:∀nx acc,R (acc,nx)=acc.reverse++fN p s (i+1) (nx -(i+1))):R (HU b p (acc,nx) i)=acc.reverse++fN p (c::s) i (nx -i):=by
 unfold HU;rw[yR,e];by_cases h:nx≤i
 ·rw[Nat.sub_eq_zero_of_le h,decide_eq_true h,Bool.true_and];cases q:(c::s).take p.length==p with
  |false=>rw[if_neg Bool.false_ne_true,pV i q,ih,Nat.sub_eq_zero_of_le (Nat.le_succ_of_le h)]
  |true=>
   rw[if_pos rfl,se i q,ih,List.reverse_cons,List.append_assoc,Nat.add_comm i 1,List.size_toArray,Nat.add_comm i,←Nat.sub_sub,Nat.sub_right_comm,Nat.add_sub_cancel];rfl
 ·rw[decide_eq_false h,Bool.false_and,if_neg Bool.false_ne_true,ih,←Nat.succ_pred_eq_of_pos (Nat.sub_pos_of_lt (Nat.lt_of_not_le h))];rfl
theorem Cf (b:List UInt8) (a:UInt8) (p s:List UInt8):∀i nx acc,b.drop i=s→(((List.range' i (s.length -p.length)).foldl (HU b (a::p)) (acc,nx)).1).reverse=acc.reverse++fN (a::p) s i (nx -i):=by
 induction s with
 |nil=>exactλi nx acc _=>by rw[List.length_nil,Nat.zero_sub];exact(List.append_nil _).symm
 |cons c s ih=>
  intro i nx acc e;by_cases h:p.length≤s.length
  ·rw[List.length_cons,Nat.succ_sub h,List.range'_succ,List.foldl_cons];exact Bo (a::p) c e (R:=λx=>(((List.range' (i+1) (s.length -p.length)).foldl (HU b (a::p)) x).1).reverse) (λnx acc=>ih (i+1) nx acc (by rw[←List.tail_drop,e];rfl))
  ·have h:=Nat.lt_of_not_le h;rw[pP (a::p) (c::s) _ _ (Nat.succ_lt_succ h),List.length_cons,Nat.sub_eq_zero_of_le h];exact(List.append_nil _).symm
theorem EF (b:List UInt8) (a:UInt8) (p:List UInt8):Bytes.occurrences b.toArray (a::p).toArray 0 b.length=fN (a::p) b 0 0:=by
 refine Eq.trans ?_ (Cf b a p b 0 0 [] rfl);rw[List.range'_eq_map_range,←Nat.add_sub_add_right b.length 1,←Nat.zero_add (p.length+1)];rw[show(λx=>0+x)=λx=>x+0 from funext λx=>Nat.zero_add x];rfl
theorem zM (a:UInt8) (p:List UInt8) (f:Nat):∀s i,s.length≤f→dq (a::p) f s=(fN (a::p) s i 0).length:=by
 induction f with
 |zero=>exactλs i h=>by rw[List.eq_nil_of_length_eq_zero (Nat.eq_zero_of_le_zero h)];rfl
 |succ f ih=>
  intro s i h;cases s with
  |nil=>rfl
  |cons c s=>
   have h:=Nat.le_of_succ_le_succ h;show(if((c::s).take (a::p).length==a::p)=true then 1+dq (a::p) f ((c::s).drop (a::p).length) else dq (a::p) f s)=_;cases q:(c::s).take (a::p).length==a::p with
   |false=>rw[if_neg Bool.false_ne_true,pV i q];exact ih s _ h
   |true=>
    rw[if_pos rfl,se i q,qN,List.length_cons,Nat.add_comm];exact congrArg (·+1) (ih (s.drop p.length) _ (Nat.le_trans (List.drop_sublist p.length s).length_le h))
noncomputable def uu (b p:List UInt8) (qs:List Nat):Nat→List (List UInt8):=List.rec (λl=>[b.drop l]) (λq _ ih l=>(b.drop l).take (q -l)::ih (q+p.length)) qs
noncomputable abbrev RL (b p:List UInt8) (x:Array (Array UInt8)×Nat) (q:Nat):Array (Array UInt8)×Nat:=(x.1.push (b.toArray.extract x.2 q),q+p.toArray.size)
theorem zR (b p:List UInt8) (qs:List Nat):∀(l:Nat) (acc:Array (Array UInt8)),
 (let r:=qs.foldl (RL b p) (acc,l);(r.1.push (b.toArray.extract r.2 b.toArray.size)).toList)=acc.toList++(uu b p qs l).map (·.toArray):=by
 have X:∀l q,b.toArray.extract l q=((b.drop l).take (q -l)).toArray:=λl q=>by rw[List.extract_toArray]
 induction qs with
 |nil=>intro l acc;show(acc.push (b.toArray.extract l b.length)).toList=_;rw[X,Array.toList_push,List.take_of_length_le (Nat.le_of_eq List.length_drop)];rfl
 |cons q qs ih=>
  intro l acc;refine(ih (q+p.toArray.size) (acc.push (b.toArray.extract l q))).trans ?_;rw[X,Array.toList_push,List.append_assoc];rfl
theorem xX (b p:List UInt8) (qs:List Nat):Bytes.between b.toArray p.toArray.size qs=(uu b p qs 0).map (·.toArray):=zR b p qs 0 #[]
theorem LY {b p u m s:List UInt8} (hb:b=u++(m++s)) (qs:List Nat):uu b p ((u.length+m.length)::qs) u.length=m::uu b p qs (u.length+m.length+p.length):=by
 show(b.drop u.length).take (u.length+m.length -u.length)::_=_;rw[hb,List.drop_left,Nat.add_sub_cancel_left,List.take_left];rfl
theorem zo (b:List UInt8) (a:UInt8) (p:List UInt8) (f:Nat):∀u m s,b=u++(m++s)→s.length≤f→cL (a::p) f m.reverse s=uu b (a::p) (fN (a::p) s (u.length+m.length) 0) u.length:=by
 have z:∀u m,b=u++(m++[])→[m]=uu b (a::p) [] u.length:=λu m e=>by show _=[b.drop _];rw[e,List.drop_left,List.append_nil]
 induction f with
 |zero=>
  intro u m s e h;obtain rfl:=List.eq_nil_of_length_eq_zero (Nat.eq_zero_of_le_zero h);refine Eq.trans ?_ (z u m e);show [m.reverse.reverse++[]]=_;rw[List.reverse_reverse,List.append_nil]
 |succ f ih=>
  intro u m s e h;cases s with
  |nil=>exact(congrArg (λx=>[x]) (List.reverse_reverse m)).trans (z u m e)
  |cons c s=>
   have h:=Nat.le_of_succ_le_succ h;show(if((c::s).take (a::p).length==a::p)=true then m.reverse.reverse::cL (a::p) f [] ((c::s).drop (a::p).length) else cL (a::p) f (c::m.reverse) s)=_;cases q:(c::s).take (a::p).length==a::p with
   |false=>
    rw[if_neg Bool.false_ne_true,pV _ q];have:=ih u (m++[c]) s (by rw[e,List.append_assoc];rfl) h;rw[List.reverse_concat,List.length_append] at this;exact this
   |true=>
    rw[if_pos rfl,se _ q,qN,LY e,List.reverse_reverse];have w:=ih (u++(m++a::p)) [] ((c::s).drop (a::p).length) (by
     have:=List.take_append_drop (a::p).length (c::s);rw[beq_iff_eq.mp q] at this;rw[e,List.nil_append,List.append_assoc,List.append_assoc,this]) (Nat.le_trans (List.drop_sublist p.length s).length_le h)
    rw[List.length_append,List.length_append,←Nat.add_assoc] at w;refine congrArg (m::·) (w.trans ?_);rw[List.length_nil,Nat.add_zero,Nat.add_assoc _ 1,Nat.add_comm 1];rfl
theorem lS (p b:List UInt8):b.dropWhile p.toArray.contains=dH p b:=by
 induction b with
 |nil=>rfl
 |cons c r ih=>
  rw[List.dropWhile_cons,ih];show _=if p.contains c=true then _ else _
  simp
set_option tactic.hygienic false
structure ay where
 K:K6
 glob:Str→Option AV
 meth:Nat→Str→Option (Nat×Nat)
 mu:List Str
inductive An where
 |b (x:Bool)|c (r:mH)|s (r:ar)|l (r:Res (List AV))|v (x:AV)|k|w (a b:AV)
noncomputable abbrev Sc:=List An×List Prop
noncomputable def rM {α:Type} (p:Option α) (g:Sc→Option (α×Sc)):Prop:=∀sc a sc',g sc=some (a,sc')→∃L,sc'.2=L++sc.2∧((∀P∈L,P)→p=some a)
structure X (α:Type) where
 p:Option α
 g:Sc→Option (α×Sc)
 h:rM p g
theorem rM.pure {α:Type} {a:α}:rM (some a) λsc=>some (a,sc):=λsc _ _ e=>by cases e;exact⟨[],rfl,λ_=>rfl⟩
theorem rM.fail {α:Type} {p:Option α}:rM p λ_=>none:=λ_ _ _ e=>by exact zA e
theorem bind_some {α β:Type} {m:Option α} {f:α→Option β} {b:β} (h:m.bind f=some b):∃a,m=some a∧f a=some b:=by
 cases m with
 |none=>exact zA h
 |some a=>exact⟨a,rfl,h⟩
theorem rM.bind {α β:Type} {p:Option α} {g:Sc→Option (α×Sc)} (H:rM p g) {q:α→Option β} {k:α→Sc→Option (β×Sc)} (K:∀a,rM (q a) (k a)):rM (p.bind q) λsc=>(g sc).bind λx=>k x.1 x.2:=λsc b sc' e=>by
 refine cps λG kf=> ?_
 obtain⟨⟨a,s1⟩,e1,e2⟩:=bind_some e;obtain⟨L1,l1,h1⟩:=H _ _ _ e1;obtain⟨L2,l2,h2⟩:=K _ _ _ _ e2;refine kf ?_;refine⟨L2++L1,by rw[l2,l1,List.append_assoc],λh=> ?_⟩;rw[h1 λP m=>h P (List.mem_append_right _ m)];exact h2 λP m=>h P (List.mem_append_left _ m)
theorem rM.gd {α:Type} {b:Bool} {p:Option α} {g:Sc→Option (α×Sc)} (H:rM p g):rM (if b=true then p else none) λsc=>g (sc.1,(b=true)::sc.2):=λsc a sc' e=>by
 obtain⟨L,l,h⟩:=H _ _ _ e;refine⟨L++[b=true],by rw[l,List.append_assoc];rfl,λk=> ?_⟩;rw[if_pos (k _ (List.mem_append_right _ (List.mem_singleton.mpr rfl)))];exact h λP m=>k P (List.mem_append_left _ m)
theorem rM.Ba {α:Type} {m:Option α} {t:An→Option α}:rM m λsc=>match sc.1 with
 |[]=>none
 |a::r=>(t a).map λv=>(v,r,(m=some v)::sc.2):=λsc a sc' e=>by
 obtain⟨s,o⟩:=sc;cases s with
 |nil=>exact zA e
 |cons x r=>
  dsimp only at e;cases q:t x with
  |none=>rw[q] at e;exact zA e
  |some v=>
   rw[q] at e;cases e;exact⟨[m=some a],rfl,λh=>h _ (List.mem_singleton.mpr rfl)⟩
theorem rM.br {α:Type} {b:Bool} {p q:Option α} {g k:Sc→Option (α×Sc)} (H:rM p g) (K:rM q k):rM (if b=true then p else q) λsc=>match sc.1 with
 |[]=>none
 |a::r=>match a with
  | .b x=>if x=true then g (r,(b=x)::sc.2) else k (r,(b=x)::sc.2)
  | .c _=>none
  | .s _=>none
  | .l _=>none
  | .v _=>none
  | .k=>none
  | .w _ _=>none:=λsc a sc' e=>by
 obtain⟨s,o⟩:=sc;cases s with
 |nil=>exact zA e
 |cons y r=>
  cases y with
  |b x=>
   cases x with
   |true=>
    obtain⟨L,l,h⟩:=H _ _ _ e;refine⟨L++[b=true],by rw[l,List.append_assoc];rfl,λk=> ?_⟩;rw[if_pos (k _ (List.mem_append_right _ (List.mem_singleton.mpr rfl)))];exact h λP m=>k P (List.mem_append_left _ m)
   |false=>
    obtain⟨L,l,h⟩:=K _ _ _ e;refine⟨L++[b=false],by rw[l,List.append_assoc];rfl,λk=> ?_⟩;rw[k _ (List.mem_append_right _ (List.mem_singleton.mpr rfl))];exact h λP m=>k P (List.mem_append_left _ m)
  |c _=>exact zA e
  |s _=>exact zA e
  |l _=>exact zA e
  |v _=>exact zA e
  |k=>exact zA e
  |w _ _=>exact zA e
noncomputable def X.pure {α:Type} (a:α):X α:=⟨some a,λsc=>some (a,sc),.pure⟩
noncomputable def X.fail {α:Type}:X α:=⟨none,λ_=>none,.fail⟩
noncomputable def X.bind {α β:Type} (m:X α) (f:α→X β):X β:=⟨m.p.bind λa=>(f a).p,λsc=>(m.g sc).bind λx=>(f x.1).g x.2,m.h.bind λa=>(f a).h⟩
noncomputable def X.gd {α:Type} (b:Bool) (m:X α):X α:=⟨if b=true then m.p else none,λsc=>m.g (sc.1,(b=true)::sc.2),m.h.gd⟩
noncomputable def X.NQ {α:Type}:List Bool→X α→X α
 |[],m=>m
 |b::l,m=>X.gd b (X.NQ l m)
noncomputable def X.Ba {α:Type} (t:An→Option α) (m:Option α):X α:=⟨m,_,rM.Ba (t:=t)⟩
noncomputable def X.br {α:Type} (b:Bool) (m k:X α):X α:=⟨if b=true then m.p else k.p,_,rM.br m.h k.h⟩
noncomputable def X.lift {α β:Type} (m:Option α) (f:α→X β):X β:=⟨m.bind λa=>(f a).p,λsc=>m.bind λa=>(f a).g sc,λsc b sc' e=>by
 cases m with
 |none=>exact zA e
 |some a=>exact(f a).h _ _ _ e⟩
noncomputable def bD {α β:Type} (m:Option (Res α)) (f:α→List AV→Option (Res β)):Option (Res β):=m.bind λx=>match x with
 | .ok a S=>f a S
 | .exc=>some .exc
noncomputable def X.bD {α β:Type} (m:X (Res α)) (f:α→List AV→X (Res β)):X (Res β):=⟨Mine.bD m.p λa S=>(f a S).p,λsc=>(m.g sc).bind λx=>match x.1 with
 | .ok a S=>(f a S).g x.2
 | .exc=>some (.exc,x.2),m.h.bind (q:=λx=>match x with
 | .ok a S=>(f a S).p
 | .exc=>some .exc) (k:=λx sc=>match x with
 | .ok a S=>(f a S).g sc
 | .exc=>some (.exc,sc)) λx=>by
  cases x with
  |ok a S=>exact(f a S).h
  |exc=>exact .pure⟩
noncomputable def i3 {α:Type} (a:α) (S:List AV):X (Res α):= .pure (.ok a S)
noncomputable def pR {α:Type} (m:Option α) (S:List AV):X (Res α):=X.lift m λa=>i3 a S
noncomputable def gR {α:Type} (m:Option (List Bool×α)) (S:List AV):X (Res α):=X.lift m λa=>X.NQ a.1 (i3 a.2 S)
noncomputable def SW {α:Type} (w:α):Res α→Res α
 | .ok _ S=> .ok w S
 | .exc=> .exc
noncomputable def Sl {α:Type} (w:α):Res α→Prop
 | .ok a _=>a=w
 | .exc=>True
theorem N6 {α:Type} {w:α} {x:Res α} (h:Sl w x):x=SW w x:=by
 cases x with
 |ok a S=>subst h;rfl
 |exc=>rfl
noncomputable def tV:An→Option (Option AV)
 | .v w=>some (some w)
 | .k=>some none
 |_=>none
noncomputable def Tg:An→Option (Option (AV×AV))
 | .w a b=>some (some (a,b))
 |_=>none
noncomputable def BP {α:Type} (d:An→Option (Option α)) (x:Res α×Sc):Option (Res α×Sc):=match x.2.1 with
 |[]=>some x
 |t::r=>match d t with
  |none=>some x
  |some q=>match q with
   |some w=>some (SW w x.1,r,Sl w x.1::x.2.2)
   |none=>some (x.1,r,(true=true)::x.2.2)
theorem Ct {α:Type} {d:An→Option (Option α)} {b a:Res α} {l l':List An} {o o':List Prop} (h:BP d (b,l,o)=some (a,l',o')):(b=a∧o=o')∨∃P,P::o=o'∧(P→b=a):=by
 have z:∀{x:Res α} {m:List An} {q:List Prop},some (x,m,q)=some (a,l',o')→x=a∧q=o':=λh=>have h:=Prod.mk.inj (Option.some.inj h);⟨h.1,(Prod.mk.inj h.2).2⟩
 cases l with
 |nil=>exact .inl (z h)
 |cons t r=>
  unfold BP at h;dsimp only at h;generalize d t=u at h;cases u with
  |none=>exact .inl (z h)
  |some q=>
   cases q with
   |none=>exact .inr ⟨_,(z h).2,λ_=>(z h).1⟩
   |some w=>exact .inr ⟨_,(z h).2,λk=>(N6 k).trans (z h).1⟩
noncomputable def Sj {α:Type} (d:An→Option (Option α)) (m:X (Res α)):X (Res α):=⟨m.p,λsc=>(m.g sc).bind (BP d),λsc a sc' e=>by
 obtain⟨⟨b,l,o⟩,e1,e2⟩:=bind_some e;obtain⟨L,h1,h2⟩:=m.h _ _ _ e1;rcases Ct e2 with⟨rfl,q⟩|⟨P,q,k⟩
 ·exact⟨L,q▸h1,h2⟩
 ·exact⟨P::L,q▸congrArg (P::·) h1,λh=>(h2 λP m=>h P (List.mem_cons_of_mem _ m)).trans (congrArg some (k (h _ List.mem_cons_self)))⟩⟩
noncomputable def hk (m:X (Res AV)):X (Res AV):=Sj tV m
noncomputable def tC:An→Option mH
 | .c r=>some r
 |_=>none
noncomputable def tS:An→Option ar
 | .s r=>some r
 |_=>none
noncomputable def tL:An→Option (Res (List AV))
 | .l r=>some r
 |_=>none
noncomputable def Rv:Const→GV
 | .none=>kZ .none
 | .bool b=>kZ (.bool b)
 | .int i=>kZ (.int i)
 | .str s=>SY s
 | .bytes b=>SJ b
 |_=>Option.none
noncomputable def Pw (m:X (Res (AV×Bool))):X (Res AV):=m.bD λa S=>i3 a.1 S
noncomputable def qO:List String:=["find","count","split","rstrip","strip","join","get","append","extend","pop"]
noncomputable def jf (m:Str):String:=(qO.find? λs=>seq (Str.ofString s) m).getD ""
noncomputable def rf:AV→Option Nat
 | .ref i=>some i
 |_=>none
noncomputable def t9:List AV→Option (List AV×Option Nat)
 |[]=>some ([],Option.none)
 |v::r=>match rf v with
  |some i=>if fG r=true then some (.ref 0::r,some i) else Option.none
  |none=>(t9 r).map λp=>(v::p.1,p.2)
noncomputable def Qx (c:mH) (S:List AV):X (Res (AV×Bool)):=match c with
 | .ret v fr o=>if o.isNone=true then if flat v=true then i3 (v,fr) S else X.fail else X.fail
 | .exc=> .pure .exc
noncomputable def Pu (c:mH) (i:Nat) (S:List AV):X (Res (AV×Bool)):=match c with
 | .ret v fr o=>X.lift o λo=>if(flat v&&flat o)=true then i3 (v,fr) (S.set i o) else X.fail
 | .exc=>X.fail
noncomputable def N1 (c:mH) (S:List AV):X (Res (AV×Bool)):=match c with
 | .ret v _ o=>if JB v=true then X.lift o λo=>(if flat o=true then i3 (o,true) S else X.fail) else X.fail
 | .exc=>X.fail
noncomputable def DY (C:ay) (f:Callee) (vs:List AV) (S:List AV):X (Res (AV×Bool)):=X.lift (t9 vs) λq=>match q.2 with
 |none=>(X.Ba tC (C.K f q.1 none)).bind λc=>Qx c S
 |some i=>X.lift S[i]? λo=>(X.Ba tC (C.K f q.1 (some o))).bind λc=>Pu c i S
noncomputable def rE (S:List AV):List AV→Option (List AV)
 |[]=>some []
 |v::l=>(bK S v).bind λv=>(rE S l).bind λl=>some (v::l)
noncomputable def fnOf:AV→Option Nat
 | .fn k=>some k
 |_=>none
noncomputable def Q1:AV→Option String
 | .bi n=>some n
 |_=>none
noncomputable def RF:AV→Option String
 | .ty n=>some n
 |_=>none
noncomputable def DZ (C:ay) (f:AV) (vs:List AV) (S:List AV):X (Res (AV×Bool)):=match fnOf f with
 |some k=>DY C (.fn k) vs S
 |none=>match vQ f with
  |some k=>if(fG vs&&bk.contains k)=true then X.lift (C.meth k "__init__") λp=>(X.Ba tC (C.K (.mt p.1 p.2) (.ref 0::vs) (some (.inst k [] [])))).bind λc=>N1 c S else X.fail
  |none=>match Q1 f with
   |some n=>X.lift (rE S vs) λvs=>(hk (gR (SK n vs) S)).bD λv S=>i3 (v,false) S
   |none=>X.lift (RF f) λn=>X.lift (rE S vs) λvs=>(hk (gR (Sv n vs) S)).bD λv S=>i3 (v,true) S
noncomputable def fq (x:AV):Nat:=x.cs (λ_=>0) (λ_=>0) (λ_=>0) (λ_=>0) (λ_=>1) (λ_ _=>2) (match fY x with
 |some p=>3+p.1
 |none=>0)
noncomputable def stays (x:AV) (S S':List AV):Bool:=match rf x with
 |some i=>match S[i]? with
  |some a=>match S'[i]? with
   |some b=>fq a==fq b
   |none=>false
  |none=>false
 |none=>true
noncomputable def Mg (C:ay) (x:AV) (m:Str) (S:List AV):Bool:=match bK S x with
 |some d=>match fY d with
  |some p=>(C.meth p.1 m).isSome&&(pJ p.2.1 p.2.2 m).isNone
  |none=>(cf d (jf m)).isSome
 |none=>false
noncomputable def PA (o:AV) (m:String):Bool:=(mC o).isSome&&(cA Mw m).isSome
noncomputable def ES (C:ay) (o:AV) (m:Str) (vs:List AV) (S:List AV):X (Res (AV×Bool)):=X.lift (bK S o) λd=>match fY d with
 |some p=>X.lift (C.meth p.1 m) λq=>if fG vs=true then DY C (.mt q.1 q.2) (o::vs) S else X.fail
 |none=>if PA d (jf m)=true then X.lift (rf o) λi=>(if fG vs=true then(Sj Tg (gR (Oe d (jf m) vs) S)).bD λp S=>i3 (p.1,false) (S.set i p.2) else X.fail) else
  if((DD d).isNone||fG vs)=true then X.lift (rE S vs) λds=>(hk (gR (JA d (jf m) ds) S)).bD λv S=>i3 (v,false) S else X.fail
noncomputable def c7 (r:Loc):List (Str×NameKind)→Option Loc
 |[]=>some []
 |(n,k)::l=>(c7 r l).bind λl=>match k with
  | .local=>some ((n,⟨.loc,none⟩)::l)
  | .free=>(dm r n).bind λw=>match w.k with
   | .cell=>w.v.map λv=>(n,⟨.free,some v⟩)::l
   | .free=>w.v.map λv=>(n,⟨.free,some v⟩)::l
   |_=>Option.none
  | .globalImplicit=>some ((n,⟨.glob,none⟩)::l)
  |_=>Option.none
noncomputable def FX (sc:Scope) (r:Loc):Option Loc:=c7 r sc.names
noncomputable def itemsOf (S:List AV) (v:AV):Option (List AV):=match rf v with
 |some i=>((S[i]?).bind items).bind λl=>if l.isEmpty=true then some [] else none
 |none=>items v
noncomputable def fV (e:Expr):Option (List Expr):=if h:e.ctorIdx=25 then Expr.Tuple.elim (motive_1:=λ_=>Option (List Expr)) e h λts _ _=>some ts else none
noncomputable def bindNames:List Expr→List AV→Loc→Option Loc
 |[],vs,r=>match vs with
  |[]=>some r
  |_::_=>none
 |t::ts,vs,r=>match vs with
  |[]=>none
  |v::vs=>(ic t).bind λx=>(dF r x v).bind (bindNames ts vs)
noncomputable def bindTo (t:Expr) (v:AV) (r:Loc):Option Loc:=match ic t with
 |some x=>dF r x v
 |none=>(fV t).bind λts=>(sW v).bind λvs=>bindNames ts vs r
noncomputable def gX (bind:AV→Loc→Option Loc) (cond:Loc→List AV→Option (Res Bool)) (elt:Loc→List AV→Option (Res AV)):List AV→Loc→List AV→Option (Res (List AV))
 |[],_,S=>some (.ok [] S)
 |x::xs,r,S=>(bind x r).bind λr=>bD (cond r S) λb S=>if b=true then bD (elt r S) λv S=>if flat v=true then bD (gX bind cond elt xs r S) λvs S=>some (.ok (v::vs) S) else none
  else gX bind cond elt xs r S
noncomputable def Rq (f:Loc→List AV→Option ar) (m:Option ar):Option ar:=m.bind λx=>match x with
 | .aY r S=>f r S
 | .brk r S=>some (.brk r S)
 | .ret v b S=>some (.ret v b S)
 | .exc=>some .exc
noncomputable def gY (f:Loc→List AV→Option ar) (m:Option ar):Option ar:=m.bind λx=>match x with
 | .aY r S=>f r S
 | .brk r S=>some (.aY r S)
 | .ret v b S=>some (.ret v b S)
 | .exc=>some .exc
noncomputable def forL (bind:AV→Loc→Option Loc) (body:Loc→List AV→Option ar):List AV→Loc→List AV→Option ar
 |[],r,S=>some (.aY r S)
 |x::xs,r,S=>(bind x r).bind λr=>gY (forL bind body xs) (body r S)
noncomputable def wu {α:Type} (m:Option (Res α)) (f:α→List AV→Option ar):Option ar:=m.bind λx=>match x with
 | .ok a S=>f a S
 | .exc=>some .exc
noncomputable def jn (t:Loc→List AV→Option (Res Bool)) (body:Loc→List AV→Option ar):Nat→Loc→List AV→Option ar
 |0,_,_=>Option.none
 |n+1,r,S=>wu (t r S) λb S=>if b=true then gY (jn t body n) (body r S) else some (.aY r S)
noncomputable def WF:Nat:=100000
noncomputable def jz (e:Expr):Bool:= !(Nat.beq e.ctorIdx 7)
noncomputable def oE:List CmpOp→List Expr→Bool
 |[],_=>false
 |_::os,es=>match es with
  |[]=>false
  |e::es=>match os with
   |[]=>es.isEmpty&&jz e
   |_::_=>oE os es
noncomputable def Fg (C:ay) (x:Str) (w:LV):Option AV:=match w.k with
 | .glob=>C.glob x
 |_=>w.v
noncomputable def Gz (e:Expr):Bool:=Nat.beq e.ctorIdx 26
noncomputable def isAt (e:Expr):Bool:=Nat.beq e.ctorIdx 20
noncomputable def KR (e:Expr):Str:=if h:e.ctorIdx=20 then Expr.Attribute.elim (motive_1:=λ_=>Str) e h λ_ a _=>a else Str.empty
noncomputable def N2 (a:Str) (d:Option AV):Option AV:=d.bind λd=>(fY d).bind λp=>pJ p.2.1 p.2.2 a
noncomputable def Dd (C:ay) (nk isA:Bool) (o:Loc→List AV→X (Res AV)) (m:Str) (f:Loc→List AV→X (Res AV)) (as:Loc→List AV→X (Res (List AV))) (r:Loc) (S:List AV):X (Res (AV×Bool)):=
 if nk=true then(if isA=true then(o r S).bD λx S1=>if Mg C x m S1=true then(as r S1).bD λvs S=>if stays x S1 S=true then ES C x m vs S else X.fail else X.fail
  else(f r S).bD λg S=>(as r S).bD λvs S=>DZ C g vs S) else X.fail
noncomputable def Qi (kv:List (AV×AV)):GV:=if kv.length≤15∧kv.all (λp=>wx p.1)=true then kZ (.dct (fU .str (kv.map λp=>(i5 p.1,p.2)) ([],[])).1 (fU .str (kv.map λp=>(i5 p.1,p.2)) ([],[])).2) else none
mutual
noncomputable def dE (C:ay):Expr→Loc→List AV→X (Res AV)
 | .Constant c _ _=>λ_ S=>gR (Rv c) S
 | .Name x _=>λr S=>pR ((dm r x).bind (Fg C x)) S
 | .BinOp a o b _=>λr S=>(dE C a r S).bD λx S=>(dE C b r S).bD λy S=>hk (gR ((bK S x).bind λx=>(bK S y).bind λy=>binop o x y) S)
 | .UnaryOp o a _=>match o with
  | .Not=>λr S=>(dE C a r S).bD λx S=>pR (((bK S x).bind truth).map λb=> .bool (!b)) S
  | .USub=>λr S=>(dE C a r S).bD λx S=>pR ((cy x).map λi=> .int (-i)) S
  |_=>λ_ _=>X.fail
 | .BoolOp o vs _=>λr S=>yg C o vs r S
 | .IfExp t a b _=>λr S=>(dT C t r S).bD λc S=>X.br c (dE C a r S) (dE C b r S)
 | .Compare l ops cs _=>λr S=>(dE C l r S).bD λx S=>if oE ops cs=true then(tc C cs ops x r S).bD λb S=>i3 (.bool b) S else X.fail
 | .List es _=>λr S=>(Fl C es r S).bD λvs S=>if fG vs=true then gR (OZ vs) S else X.fail
 | .Tuple es _ _=>λr S=>(Fl C es r S).bD λvs S=>if fG vs=true then gR (ji (decide (vs.length≤ao)) (.tup vs)) S else X.fail
 | .Dict ks vs _=>λr S=>(QF C vs (Qk C ks) r S).bD λkv S=>gR (Qi kv) S
 | .ListComp e gs sc _=>λr S=>(OM C gs (dE C e) sc r S).bD λvs S=>gR (OZ vs) S
 | .Attribute o a _=>λr S=>(dE C o r S).bD λx S=>pR (N2 a (bK S x)) S
 | .Subscript o i _=>λr S=>(dE C o r S).bD λx S=>if Gz i=true then(T5 C i r S).bD λp S=>hk (gR ((bK S x).bind λx=>slice x p.1 p.2) S)
  else(dE C i r S).bD λk S=>hk (gR ((bK S x).bind λx=>item x k) S)
 | .Call f as ks _=>λr S=>Pw (Dd C ks.isEmpty (isAt f) (dO C f) (KR f) (dE C f) (Fl C as) r S)
 |_=>λ_ _=>X.fail
noncomputable def dO (C:ay):Expr→Loc→List AV→X (Res AV)
 | .Attribute o _ _=>dE C o
 |_=>λ_ _=>X.fail
noncomputable def T5 (C:ay):Expr→Loc→List AV→X (Res (AV×AV))
 | .Slice lo hi st _=>λr S=>if st.isNone=true then(Hl C lo r S).bD λl S=>(Hl C hi r S).bD λh S=>i3 (l,h) S else X.fail
 |_=>λ_ _=>X.fail
noncomputable def dT (C:ay):Expr→Loc→List AV→X (Res Bool)
 | .UnaryOp o a _=>match o with
  | .Not=>λr S=>(dT C a r S).bD λb S=>i3 (!b) S
  |_=>λ_ _=>X.fail
 | .BoolOp o vs _=>λr S=>kJ C o vs r S
 | .IfExp t a b _=>λr S=>(dT C t r S).bD λc S=>X.br c (dT C a r S) (dT C b r S)
 | .Compare l ops cs _=>λr S=>(dE C l r S).bD λx S=>if oE ops cs=true then tc C cs ops x r S else X.fail
 | .Name x _=>λr S=>(pR ((dm r x).bind (Fg C x)) S).bD λv S=>pR ((bK S v).bind truth) S
 | .Call f as ks _=>λr S=>(Dd C ks.isEmpty (isAt f) (dO C f) (KR f) (dE C f) (Fl C as) r S).bD λv S=>pR (truth v.1) S
 | .Constant c _ _=>λ_ S=>(gR (Rv c) S).bD λv S=>pR (truth v) S
 |_=>λ_ _=>X.fail
noncomputable def kJ (C:ay) (o:BoolOp):List Expr→Loc→List AV→X (Res Bool)
 |[]=>λ_ S=>i3 (match o with| .And=>true| .Or=>false) S
 |e::es=>λr S=>(dT C e r S).bD λb S=>match o with
  | .And=>X.br b (kJ C o es r S) (i3 false S)
  | .Or=>X.br b (i3 true S) (kJ C o es r S)
noncomputable def yg (C:ay) (o:BoolOp):List Expr→Loc→List AV→X (Res AV)
 |[]=>λ_ _=>X.fail
 |e::es=>λr S=>(dE C e r S).bD λv S=>if es.isEmpty=true then i3 v S else(pR ((bK S v).bind truth) S).bD λb S=>match o with
  | .And=>X.br b (yg C o es r S) (i3 v S)
  | .Or=>X.br b (i3 v S) (yg C o es r S)
noncomputable def tc (C:ay):List Expr→List CmpOp→AV→Loc→List AV→X (Res Bool)
 |[]=>λ_ _ _ _=>X.fail
 |e::es=>λops x r S=>match ops with
  |[]=>X.fail
  |o::os=>(dE C e r S).bD λy S=>(gR ((bK S x).bind λx=>(bK S y).bind λy=>cmp o x y) S).bD λb S=>match os with
   |[]=>if es.isEmpty=true then i3 b S else X.fail
   |_::_=>X.br b (tc C es os y r S) (i3 false S)
noncomputable def Fl (C:ay):List Expr→Loc→List AV→X (Res (List AV))
 |[]=>λ_ S=>i3 [] S
 |e::es=>λr S=>(dE C e r S).bD λv S=>(Fl C es r S).bD λvs S=>i3 (v::vs) S
noncomputable def Qk (C:ay):List (Option Expr)→List (Loc→List AV→X (Res AV))
 |[]=>[]
 |k::ks=>Hl C k::Qk C ks
noncomputable def QF (C:ay):List Expr→List (Loc→List AV→X (Res AV))→Loc→List AV→X (Res (List (AV×AV)))
 |[]=>λks _ S=>if ks.isEmpty=true then i3 [] S else X.fail
 |e::es=>λks r S=>match ks with
  |[]=>X.fail
  |k::ks=>(k r S).bD λk S=>(dE C e r S).bD λv S=>if(flat k&&flat v)=true then(QF C es ks r S).bD λkv S=>i3 ((k,v)::kv) S else X.fail
noncomputable def Hl (C:ay):Option Expr→Loc→List AV→X (Res AV)
 |Option.none=>λ_ S=>i3 .none S
 |some e=>dE C e
noncomputable def OM (C:ay):List Comprehension→(Loc→List AV→X (Res AV))→Scope→Loc→List AV→X (Res (List AV))
 |[]=>λ_ _ _ _=>X.fail
 |g::gs=>λelt sc r S=>if gs.isEmpty=true then Oy C g elt sc r S else X.fail
noncomputable def Oy (C:ay):Comprehension→(Loc→List AV→X (Res AV))→Scope→Loc→List AV→X (Res (List AV))
 |⟨t,it,ifs,_⟩=>λelt sc r S=>X.lift (FX sc r) λrc=>(dE C it r S).bD λx S=>X.lift (itemsOf S x) λxs=>X.gd (decide (xs.length≤ao)) (X.Ba tL (gX (bindTo t) (λr S=>(kJ C .And ifs r S).p) (λr S=>(elt r S).p) xs rc S))
end
noncomputable def dC (C:ay) (e:Expr):Loc→List AV→X (Res (AV×Bool)):=if h:e.ctorIdx=16 then Expr.Call.elim (motive_1:=λ_=>Loc→List AV→X (Res (AV×Bool))) e h λf as ks _=>Dd C ks.isEmpty (isAt f) (dO C f) (KR f) (dE C f) (Fl C as) elseλ_ _=>X.fail
noncomputable def setAt (a:Str) (v:AV) (r:Loc) (S:List AV) (x:AV):X (Res Loc):=X.lift (rf x) λi=>X.lift S[i]? λo=>X.lift (fY o) λp=>if(flat v&&decide (p.2.1.length<100))=true then i3 r (S.set i (.inst p.1 (ia p.2.1 p.2.2 a v).1 (ia p.2.1 p.2.2 a v).2)) else X.fail
noncomputable def Jr (v:AV) (r:Loc) (S:List AV) (x k:AV):X (Res Loc):=X.lift (rf x) λi=>X.lift S[i]? λo=>X.lift (DD o) λp=>if flat v=true then X.gd (cW k p.1&&decide (p.1.length<ao)) (i3 r (S.set i (.dct (hZ p.1 p.2 k v).1 (hZ p.1 p.2 k v).2))) else X.fail
noncomputable def dA (C:ay):Expr→AV→Loc→List AV→X (Res Loc)
 | .Name x _,v,r,S=>pR (dF r x v) S
 | .Attribute o a _,v,r,S=>(dE C o r S).bD λx S=>setAt a v r S x
 | .Subscript o k _,v,r,S=>(dE C o r S).bD λx S=>(dE C k r S).bD λk S=>Jr v r S x k
 |_,_,_,_=>X.fail
noncomputable def MA (C:ay):List Expr→List AV→Loc→List AV→X (Res Loc)
 |[],vs,r,S=>if vs.isEmpty=true then i3 r S else X.fail
 |t::ts,vs,r,S=>match vs with
  |[]=>X.fail
  |v::vs=>(dA C t v r S).bD λr S=>MA C ts vs r S
noncomputable def RY (C:ay) (t:Expr) (v:AV) (r:Loc) (S:List AV):X (Res Loc):=match fV t with
 |some ts=>X.lift (sW v) λvs=>if ts.length=vs.length then MA C ts vs r S else X.fail
 |none=>if flat v=true then dA C t v r S else X.fail
noncomputable def X.toS {α:Type} (m:X (Res α)) (f:α→List AV→X ar):X ar:=⟨wu m.p λa S=>(f a S).p,λsc=>(m.g sc).bind λx=>match x.1 with
 | .ok a S=>(f a S).g x.2
 | .exc=>some (.exc,x.2),m.h.bind (q:=λx=>match x with
 | .ok a S=>(f a S).p
 | .exc=>some .exc) (k:=λx sc=>match x with
 | .ok a S=>(f a S).g sc
 | .exc=>some (.exc,sc)) λx=>by
  cases x with
  |ok a S=>exact(f a S).h
  |exc=>exact .pure⟩
noncomputable def X.aY (m:X ar) (f:Loc→List AV→X ar):X ar:=⟨Rq (λr S=>(f r S).p) m.p,λsc=>(m.g sc).bind λx=>match x.1 with
 | .aY r S=>(f r S).g x.2
 | .brk r S=>some (.brk r S,x.2)
 | .ret v b S=>some (.ret v b S,x.2)
 | .exc=>some (.exc,x.2),m.h.bind (q:=λx=>match x with
 | .aY r S=>(f r S).p
 | .brk r S=>some (.brk r S)
 | .ret v b S=>some (.ret v b S)
 | .exc=>some .exc) (k:=λx sc=>match x with
 | .aY r S=>(f r S).g sc
 | .brk r S=>some (.brk r S,sc)
 | .ret v b S=>some (.ret v b S,sc)
 | .exc=>some (.exc,sc)) λx=>by
  cases x with
  |aY a S=>exact(f a S).h
  |brk _ _=>exact .pure
  |ret _ _ _=>exact .pure
  |exc=>exact .pure⟩
noncomputable def R6 (m:Option ar) (c:Option ar):Option ar:=m.bind λx=>match x with
 | .aY r S=>some (.aY r S)
 | .brk r S=>some (.brk r S)
 | .ret v b S=>some (.ret v b S)
 | .exc=>c
noncomputable def X.try (m c:X ar):X ar:=⟨R6 m.p c.p,λsc=>(m.g sc).bind λx=>match x.1 with
 | .aY r S=>some (.aY r S,x.2)
 | .brk r S=>some (.brk r S,x.2)
 | .ret v b S=>some (.ret v b S,x.2)
 | .exc=>c.g x.2,m.h.bind (q:=λx=>match x with
 | .aY r S=>some (.aY r S)
 | .brk r S=>some (.brk r S)
 | .ret v b S=>some (.ret v b S)
 | .exc=>c.p) (k:=λx sc=>match x with
 | .aY r S=>some (.aY r S,sc)
 | .brk r S=>some (.brk r S,sc)
 | .ret v b S=>some (.ret v b S,sc)
 | .exc=>c.g sc) λx=>by
  cases x with
  |exc=>exact c.h
  |brk _ _=>exact .pure
  |ret _ _ _=>exact .pure
  |aY _ _=>exact .pure⟩
noncomputable def dN (m:X (Res Loc)):X ar:=m.toS λr S=> .pure (.aY r S)
noncomputable def iJ:AV→Bool
 | .lst _=>true
 | .dct _ _=>true
 | .inst _ _ _=>true
 |_=>false
noncomputable def Pa:AV→Bool
 | .dct _ _=>true
 | .inst c _ _=>Nat.beq c 21
 |_=>false
noncomputable def CO (mu:List Str) (x:Str) (v:AV):Bool:=mu.contains x||Pa v
noncomputable def putN (C:ay) (x:Str) (v:AV) (fr:Bool) (r:Loc) (S:List AV):X (Res Loc):=
 if(fr&&CO C.mu x v&&iJ v)=true then X.lift (dF r x (.ref S.length)) λr=>i3 r (S++[v]) else if flat v=true then pR (dF r x v) S else X.fail
noncomputable def eH (e:Expr):Bool:=Nat.beq e.ctorIdx 24||Nat.beq e.ctorIdx 6
noncomputable def Dx (k:Nat) (S:List AV) (v:AV):Option (AV×Bool):=match rf v with
 |some i=>if k≤i then(S[i]?).map λv=>(v,true) else Option.none
 |none=>some (v,false)
noncomputable def Fj (k:Nat) (S:List AV):List AV→Option (List AV)
 |[]=>some []
 |v::l=>(Dx k S v).bind λp=>(Fj k S l).bind λl=>some (p.1::l)
noncomputable def Cm:Expr→Bool
 | .Call _ _ _ _=>true
 |_=>false
noncomputable def EC (C:ay) (k:Nat) (r:Loc) (S:List AV) (e:Expr):X ar:=match fV e with
 |some es=>(Fl C es r S).toS λvs S=>X.lift (Fj k S vs) λws=> .pure (.ret (.tup ws) false S)
 |none=>(dE C e r S).toS λv S=>X.lift (Dx k S v) λp=> .pure (.ret p.1 (p.2||eH e) S)
noncomputable def Bg (C:ay) (t e:Expr) (r:Loc) (S:List AV):X ar:=match ic t with
 |some x=>if Cm e=true then dN ((dC C e r S).bD λv S=>putN C x v.1 v.2 r S) else dN ((dE C e r S).bD λv S=>putN C x v (eH e) r S)
 |none=>dN ((dE C e r S).bD λv S=>RY C t v r S)
noncomputable def uf (e:Expr):Option (Expr×List Expr×Bool):=if h:e.ctorIdx=16 then Expr.Call.elim (motive_1:=λ_=>Option (Expr×List Expr×Bool)) e h λf as ks _=>some (f,as,ks.isEmpty) else none
noncomputable def Hn (e:Expr):Option Bool:=if h:e.ctorIdx=19 then Expr.Constant.elim (motive_1:=λ_=>Option Bool) e h λc _ _=>match c with
 | .bool v=>some v
 |_=>none else none
noncomputable def Hx (s:Stmt):Option Bool:=if h:s.ctorIdx=3 then Stmt.Return.elim (motive_2:=λ_=>Option Bool) s h λe _=>e.bind Hn else none
noncomputable def K5:List Stmt→Option Bool
 |[]=>none
 |s::l=>if l.isEmpty=true then Hx s else none
noncomputable def CQ (C:ay) (h:Option Expr) (hb:List Stmt) (r:Loc) (S:List AV):X ar:=X.lift (h.bind ic) λx=>X.lift (K5 hb) λv=>X.lift (dm r x) λw=>X.lift (C.glob x) λg=>
 if(match w.k with| .glob=>true|_=>false)=true∧vQ g=some 16∧S.isEmpty=true then .pure (.ret (.bool v) false []) else X.fail
noncomputable def NX:List ExceptHandler→Option (Option Expr×List Stmt)
 |[]=>none
 |h::l=>match h with
  | .ExceptHandler t n b _=>if l.isEmpty=true∧n.isNone=true then some (t,b) else none
mutual
noncomputable def dS (C:ay) (k:Nat):Stmt→Loc→List AV→X ar
 | .Expr e _=>λr S=>(dC C e r S).toS λ_ S=> .pure (.aY r S)
 | .Return oe _=>λr S=>match oe with
  |none=> .pure (.ret .none false S)
  |some e=>EC C k r S e
 | .Assign ts e _=>λr S=>X.lift (one ts) λt=>Bg C t e r S
 | .If t a b _=>λr S=>(dT C t r S).toS λc S=>X.br c (qu C k a r S) (qu C k b r S)
 | .For t it b el _=>λr S=>if el.isEmpty=true then(dE C it r S).toS λx S=>X.lift (itemsOf S x) λxs=>X.Ba tS (forL (bindTo t) (λr S=>(qu C k b r S).p) xs r S) else X.fail
 | .While t b el _=>λr S=>if el.isEmpty=true then X.Ba tS (jn (λr S=>(dT C t r S).p) (λr S=>(qu C k b r S).p) WF r S) else X.fail
 | .Break _=>λr S=> .pure (.brk r S)
 | .Raise e c _=>λr S=>if c.isNone=true then X.lift (e.bind uf) λq=>if q.2.2=true then(dE C q.1 r S).toS λg S=>if vQ g=some 16 then(Fl C q.2.1 r S).toS λvs _=>if(one vs).any wx=true then .pure .exc else X.fail else X.fail else X.fail else X.fail
 | .Try b hs el fi _=>λr S=>if el.isEmpty=true∧fi.isEmpty=true then X.lift (NX hs) λq=>(qu C k b r S).try (CQ C q.1 q.2 r S) else X.fail
 |_=>λ_ _=>X.fail
noncomputable def qu (C:ay) (k:Nat):List Stmt→Loc→List AV→X ar
 |[]=>λr S=> .pure (.aY r S)
 |s::ss=>λr S=>(dS C k s r S).aY λr S=>qu C k ss r S
end
set_option tactic.hygienic false
noncomputable abbrev G (n:Nat) (x:Str) (v:AV):Nat×Str×AV:=(n,x,v)
noncomputable abbrev GM (k:Nat) (l:List Str):Nat×List Str:=(k,l)
noncomputable abbrev G4 (k n:Nat) (x:Str) (a j:Nat):Nat×Nat×Str×Nat×Nat:=(k,n,x,a,j)
noncomputable def Pp:List (Nat×Str×AV):=[
 G 1716668182185192676964054794335 "_wall" (.fn 0),
 G 1716629664880911540487722696787 "SIGNS" (.bytes [65,66,67,68,69,70,71,72,73,74,75,76,77,78,79,80,81,82,83,84,85,86,87,88,89,90,97,98,99,100,101,102,103,104,105,106,107,108,109,110,111,112,113,114,115,116,117,118,119,120,121,122,48,49,50,51,52,53,54,55,56,57,43,47]),
 G 1382970965349171280 "PAD" (.int (61)),
 G 2373872134052781353314900221977004273493199093836 "LINE_END" (.bytes [13,10]),
 G 3282893101281744558036598515118572914818928862559165938906716635255 "worth_table" (.fn 5),
 G 3282934350560641351237518476329560084317418546166632488645801672807 "group_codes" (.fn 6),
 G 3657556555216012935549873972727445652239916432133109055873596584799371367 "group_octets" (.fn 7),
 G 3657507316239065570522161298462469725272427373663590881319321357241090160 "part_encoded" (.fn 8),
 G 2373942443920668280017266578469514747226318831727 "one_line" (.fn 9),
 G 2373972272306295456943396722493921144866467610729 "in_lines" (.fn 10),
 G 2130791440450559854870953250576965378637925 "encoded" (.fn 11),
 G 2130791440450559854870953250576965368610916 "decoded" (.fn 12),
 G 2644868622537764363974425306663924095787966240042975312 "PostError" (.cls 14),
 G 2644873369985878748760752510232857436029540675866263639 "WordFault" (.cls 15),
 G 2644873369985878748760752510232857437412421030211289165 "MimeFault" (.cls 16),
 G 1540787313933870775271491 "CRLF" (.bytes [13,10]),
 G 4074927648844822603651341191503319930508317775978321281759581240658076888268882 "RETURN_octets" (.int (13)),
 G 7792790738124715399346451997580512573732462796586646696557949116605091566093795837870081385967474646087356712419405 "MOST_FIGURES_octets" (.int (20)),
 G 1912570920806056243556286450356256835 "Cursor" (.cls 21),
 G 2946645490992456597501778765674137930773016409398798666629228 "lower_code" (.fn 22),
 G 1716677426318583180120154898540 "lower" (.fn 23),
 G 2946685160010192037486850536743505634721730659835815242170476 "lower_text" (.fn 24),
 G 2946682515388437362018260807923891491124633987199827629899884 "line_spans" (.fn 25),
 G 4074927648838257412617740666227242645650405865191171685038468741526264467685463 "WHITE_headers" (.tup [(.int (32)),(.int (9))]),
 G 1716655856661098439565337231430 "Field" (.cls 28),
 G 2130822038447524740320571044055985113596012 "line_at" (.fn 29),
 G 2130793352839531295817497784094495504269417 "is_name" (.fn 30),
 G 2373961619312931165904135815069695706996380991587 "colon_in" (.fn 31),
 G 2946682515388437362018260807923891491124632604297130853859442 "read_spans" (.fn 32),
 G 3282934350557996772209920779774655889023064110851293410684728311922 "read_fields" (.fn 33),
 G 2130795265218203727579977715529774710849650 "rows_of" (.fn 34),
 G 2373940313303254141029982845851863339835673411701 "unfolded" (.fn 35),
 G 2946698382952804485807436471057087122786831502193965871464550 "first_body" (.fn 36),
 G 4074927648792301113685781297555543878975617295801764295257422037029388881035383 "without_words" (.fn 37),
 G 2373940313320465547365399275154726481660947398761 "is_sound" (.fn 38),
 G 3657556555168870899880339259796301421831264002670296921151413940504363127 "write_fields" (.fn 39),
 G 1716614257968879299765249179713 "ASCII" (.str "us-ascii"),
 G 1716621961421438222343706050636 "LATIN" (.str "iso-8859-1"),
 G 1540767953514575191867477 "UTF8" (.str "utf-8"),
 G 2373904093067296903499869971418317638613382725699 "CHARSETS" (.tup [(.str "us-ascii"),(.str "iso-8859-1"),(.str "utf-8")]),
 G 3657435099049305007198554993966662600687379048760081170664169611769806933 "UNKNOWN_SIGN" (.str ⟨#[65533]⟩),
 G 4074927648795583694470631447236828562322442023358700956538940537362073378095203 "charset_names" (.fn 46),
 G 3657510598858153368785059012690668230960154896416201642147154785059995747 "charset_name" (.fn 47),
 G 3657559837767334075884763092543406785535932426372880548849030605741293678 "need_charset" (.fn 48),
 G 3282901940438060420024817057814485586109205966491518437516717064309 "utf8_length" (.fn 49),
 G 3282934350600310323872172611665115941880095028190011746099681034357 "utf8_octets" (.fn 50),
 G 4074909362887171372226805510347946246611650075886005966384355435421273685950566 "follower_span" (.fn 51),
 G 2644859127611707185826043038209154453684318991585378421 "utf8_sign" (.fn 52),
 G 2130822038447524740320583490026341609832563 "sign_at" (.fn 53),
 G 2130810564209820167006678914889357945274484 "text_in" (.fn 54),
 G 3282937296989275071268550025192380553144097282411752894591319408755 "strict_text" (.fn 55),
 G 3657559837823315228201146805667133452226476113621001742081290274920005735 "guessed_text" (.fn 56),
 G 2373961619309106432590298855240006871189449408616 "has_sign" (.fn 57),
 G 2644859127615968367107797143715569569234534332707831919 "octets_in" (.fn 58),
 G 6278202364736061060664404935523275035704730871665406216777782252883024385698407829384026434665722085453 "MOST_DEPTH_tokens" (.int (20)),
 G 4074755761274890231739254840836711152682610518425464970712545095646802949242958 "NEVER_ESCAPED" (.tup [(.int (0)),(.int (10)),(.int (13))]),
 G 2373940313320465519901346024718081025931547836524 "line_end" (.fn 62),
 G 2644873369962442104458218359971187127853985801586999401 "inside_at" (.fn 63),
 G 2644873369962442104458216643470940371626090627070689379 "closed_at" (.fn 64),
 G 2946685159955596297882183259109975714133488722212852904951907 "comment_at" (.fn 65),
 G 4539925792709803000599203037548146774418482934072831767744794052128525317977233621093 "escaped_octets" (.fn 66),
 G 3657556555195388276266989868092750321231879108085913716514278154781065303 "WHITE_params" (.tup [(.int (9)),(.int (10)),(.int (13)),(.int (32))]),
 G 2644783168288473850981174655408308525353488277623341139 "SEMICOLON" (.int (59)),
 G 1716608095222043945644729892945 "QUOTE" (.int (34)),
 G 2130760842391800858851964960486273523515458 "BRACKET" (.int (40)),
 G 2373906223656025405313151081731489697485429211216 "PER_CENT" (.int (37)),
 G 1912491961659124010273556725777891394 "BARRED" (.bytes [40,41,60,62,64,44,59,58,92,34,47,91,93,63,61]),
 G 5057840541944835010340359429556346745220111402958951308402107849326200359913826203601010754 "BARRED_IN_NAMES" (.bytes [42,39,37]),
 G 3282840066367650801496159159102738464464239968899033096105644851272 "HEX_FIGURES" (.bytes [48,49,50,51,52,53,54,55,56,57,65,66,67,68,69,70]),
 G 1716612717293579272877397049431 "WIDTH" (.int (78)),
 G 2644761804738934821080831935740513407281953686427729997 "MOST_NAME" (.int (40)),
 G 2946597888190163800189776949140309172709547994521983661310029 "MOST_PARTS" (.int (1000)),
 G 1540796994143518564745298 "ROOM" (.int (66)),
 G 1540828800572890533134411 "Kind" (.cls 80),
 G 2946642846418176462833808154720722003989637028297740999458928 "plain_kind" (.fn 81),
 G 4074876448285511647602116032479477866507919110045744423096381537159374432305257 "is_token_code" (.fn 82),
 G 3657540142194233364225293563203136011833519987204039004433017662103814259 "skip_between" (.fn 83),
 G 2946669292376986865970037559936450661903369287826451454820468 "take_token" (.fn 84),
 G 4074876448285511647602116032479477853724346579166852044392958394906396290383977 "is_worth_code" (.fn 85),
 G 2946653424824488423188888525065008965561371501105375788204148 "take_worth" (.fn 86),
 G 2946642846427671384629791634723925504580150261514178750382195 "small_word" (.fn 87),
 G 2946682515397932288075393059296980631922835603783703361290356 "take_pairs" (.fn 88),
 G 3282931404182254991163259956580929315457922970169328876040634826864 "part_number" (.fn 89),
 G 2130795265218203727579979098410129046962288 "part_of" (.fn 90),
 G 2644844885275886466700734329281983288539570326809673832 "hex_worth" (.fn 118),
 G 5635162680889357244819094002294069428562083551237640264164027309613380359010086181195189914501224 "hex_worth_params" (.fn 91),
 G 5057917712848026848009977534618954876967107603758950793795019137802117058197594901358903408 "percent_decoded" (.fn 93),
 G 3282937296981341272468867530599682435033113767670589098118932332643 "charset_cut" (.fn 94),
 G 3657520446665328399765269547019984146718500857275479286915007799321624682 "joined_worth" (.fn 95),
 G 2644840137810727249694354981128644274055097999950938224 "params_of" (.fn 96),
 G 3282890154908647415360699670872213043607903969502256455213257064563 "strict_kind" (.fn 97),
 G 2644835390354090488957849978027991789499368867229925490 "read_kind" (.fn 98),
 G 2373961619305281685544433729562330493064923250793 "is_token" (.fn 99),
 G 2373961619312931169337136308611192089051425603689 "is_plain" (.fn 121),
 G 5057985804738982476464748609021417441479926211414904968482460956721279491163579926333030505 "is_plain_params" (.fn 100),
 G 5057917712848026848009977534618954900768492134035941430451755530423256427234126248390492272 "percent_encoded" (.fn 102),
 G 2130820126110048373026836814380762881982569 "in_rows" (.fn 103),
 G 3657556555224852097154915379607827089515830781098459301820962795705729125 "encoded_rows" (.fn 104),
 G 3282934350608244141661624127204291031346786302564832216159120326769 "quoted_rows" (.fn 105),
 G 4074927648844822603651341191503319930508317776040115375381299409339997692952686 "number_octets" (.fn 106),
 G 2946682515409800937124475929892408525170984808479880056471664 "param_rows" (.fn 107),
 G 3657556555195388276266989868092750321231879108135215857143657267964543095 "write_params" (.fn 108),
 G 2946642846418176462833808154720721990123437634037178199834743 "write_kind" (.fn 109),
 G 1912517709196720728874992649709355077 "EQUALS" (.int (61)),
 G 1716617339356817290676568588354 "BLANK" (.int (32)),
 G 1382968482858074196 "TAB" (.int (9)),
 G 4074872791109737868047640350280574963548568506351986241619855475553771799773266 "RETURN_quoted" (.int (13)),
 G 3282807656245069829930071001485118280776187049590082524531419054156 "LEAST_WIDTH" (.int (4)),
 G 1382995790264598600 "HEX" (.bytes [48,49,50,51,52,53,54,55,56,57,65,66,67,68,69,70]),
 G 3282893101260587804755901744182745134298361833456006214842877018225 "quoted_code" (.fn 117),
 G 5635086818896540952882205257069382190624830078886864675076053692522247097570774421044705956790376 "hex_worth_quoted" (.fn 118),
 G 2644873369962442104458216643470940373008977187660169329 "quoted_at" (.fn 120),
 G 5057917712848026906524842436908840574937555720521013161296133534441353180847102085549981801 "is_plain_quoted" (.fn 121),
 G 3282934350560641348863769917249178087227834556662243281325801406572 "line_pieces" (.fn 123),
 G 2946682515367073844438241598370578895165267376426566528467059 "soft_lines" (.fn 124),
 G 2946682515367073844438241598370578895165267376448908937199732 "text_lines" (.fn 125),
 G 4539864675048852223124764417418495537942767095261465094939948812175056663902077386865 "quoted_encoded" (.fn 126),
 G 3657556555171817283555900116300288537320214310158881244170347398926631018 "joined_lines" (.fn 127),
 G 2946682515402679761756974541566645156394828059661037871890540 "line_parts" (.fn 128),
 G 2373940313303254168494016067300792591511823712373 "unquoted" (.fn 129),
 G 4539864675048852223124764417418495516579219686852803634820376998370753892693678817393 "quoted_decoded" (.fn 130),
 G 5635162680921133514653457396014515943953261014723788990762424110135607646826307309810966975152205 "MOST_DEPTH_parts" (.int (20)),
 G 4539746514259623712062029404309876233415589404311580016507581900137685589411278618704 "PLAIN_ENCODING" (.str "7bit"),
 G 4539795408318897945757078156844491548351094489511987138487210390141577814735399682127 "OPEN_ENCODINGS" (.tup [(.str "7bit"),(.str "8bit"),(.str "binary")]),
 G 2644795036901302701719348259179230577104076216299618391 "WORD_ENDS" (.bytes [32,9,40,59]),
 G 1912517709195180056340712816865181762 "BLANKS" (.bytes [32,9]),
 G 1540850926762824777662544 "Part" (.cls 137),
 G 3282896047668064700294412537690762180153268283908781659910185025637 "encoding_of" (.fn 138),
 G 3657576250733132468446946382901387072098354118989280949887721308248014946 "boundary_way" (.fn 139),
 G 2946682515388437362018260807923891491124654730503201294975088 "part_spans" (.fn 140),
 G 5057985804767504040603579294568840899140924858690493375544358603850195661905333754166968418 "boundary_octets" (.fn 141),
 G 2644870996262886821090034761248322871600550576878321771 "kid_spans" (.fn 142),
 G 2644868622516458354297384984053413943245814985043017832 "has_inner" (.fn 143),
 G 2644873369998662311729792968533057594105428779547820146 "read_part" (.fn 144),
 G 3657510598840475098466938920571031237530019064579258825590125535782305906 "read_message" (.fn 145),
 G 1912548606281278560121973094902268021 "undone" (.fn 146),
 G 3282934350600310323872172611665115941880095028279899370054848807010 "body_octets" (.fn 147),
 G 2644761804741065436582583668080464890176333456313614413 "MOST_LINE" (.int (998)),
 G 2644795036901302709368866381909855427646971354227867727 "OWN_WORDS" (.tup [(.str "content-type"),(.str "content-transfer-encoding"),(.str "mime-version")]),
 G 4074755761261759817262005258166669073041992208404346661673179369168697466748994 "BOUNDARY_LEAD" (.str "=_part"),
 G 6994526429653742971716788812169759655948043036108403437740345459210711845156413134105894761865184797385490509 "MOST_FIGURES_build" (.int (20)),
 G 3282890154903358233568293534247048516568034369644486990961026072678 "fields_told" (.fn 153),
 G 2946645490990082848942698383677048343702153122810892028805218 "bare_piece" (.fn 154),
 G 1540831566329875495452748 "Leaf" (.cls 155),
 G 1540857841190662692733005 "Many" (.cls 156),
 G 2644716703863599891649019880712635887630564944090824780 "Letter822" (.cls 157),
 G 3657559837779119544471973003247245676975586168762814464849376167485177961 "is_seven_bit" (.fn 158),
 G 5057931331256369346520353304561672031488926493609232636003032574363190497348696928676216931 "choose_encoding" (.fn 159),
 G 3282898994043806481341084013910363401513501777257062216681690890345 "in_encoding" (.fn 160),
 G 4539925792654945357427100654388661745006403374140485904199223852881534682241558446178 "barred_figures" (.fn 161),
 G 3657553272605764267156793982148456634190613610636043799770560482634563682 "boundary_for" (.fn 162),
 G 3657556555168870899880339259796301421831264002679541040713019218423447651 "check_fields" (.fn 163),
 G 3282934350600310323872172611665115941880095028250858748558932508776 "head_octets" (.fn 164),
 G 3282934350600310323872172611665115941880095028253624521680091414636 "leaf_octets" (.fn 165),
 G 4074927648795583682685125835611947280203529280937636138979798738711858374443114 "joined_bodies" (.fn 166),
 G 3282934350600310323872172611665115941880095028279899382467288694893 "many_octets" (.fn 167),
 G 4074927648844822603651341191503319930508317776040115375381324301306776824119404 "letter_octets" (.fn 168),
 G 1716680507709286929257701113954 "built" (.fn 169),
 G 3657510598855207027423061687100345615435782664395878769937960977005084780 "letter_whole" (.fn 170),
 G 4074909362913432112790013910939292519796475931174006467035381875475584443285616 "pieces_within" (.fn 171),
 G 3282901940438060441388343160219207116175908013313094627185125752931 "check_depth" (.fn 172),
 G 1716655856661098444530332794978 "build" (.fn 173),
 G 2130793352829232285092741287335458575286381 "message" (.fn 174),
 G 2946682515364700089487341484332164814166546851308878382760031 "_law_leads" (.tup [(.bytes [45,45,61,95,112,97,114,116]),(.bytes [45,45,61,95,112,97,114,116]),(.bytes [45,45,61,95,112,97,114,116]),(.bytes [45,45,61,95,112,97,114,116]),(.bytes [32,45,45,61,95,112,97,114,116]),(.bytes [45,45,61,95,80,65,82,84]),(.bytes [120,45,45,61,95,112,97,114,116]),(.bytes [45,61,95,112,97,114,116])]),
 G 3657556555171817294134320670594333765298698018627652080552968009550659679 "_law_figures" (.tup [(.bytes [48]),(.bytes [48,55]),(.bytes [49,48]),(.bytes [49]),(.bytes []),(.bytes [49,49,49,49,49,49,49,49,49,49,49,49,49,49,49,49,49,49,49,49,49,49,49,49,49,49,49,49,49,49,50]),(.bytes [57,57,57,57,57,57,57,57,57,57,57,57,57,57,57,57,57,57,57,57]),(.bytes [50,120]),(.bytes [45,49])]),
 G 2946648135609463788635787910901737527244557696517320479604831 "_law_shelf" (.fn 178),
 G 2644835390362612874469847330137040431213290367079940191 "_law_card" (.fn 179),
 G 2644885238605099384808202829748792874871537283118137439 "_law_body" (.fn 180),
 G 2946685159998323392698971896398190375908053396936149693104223 "_law_least" (.fn 181),
 G 2644840137780898858330048903674926839501981019741618271 "_law_leaf" (.fn 182),
 G 3282890154908647443845435230387304096036036039648480363131691597919 "_law_around" (.fn 183),
 G 5057917712848026902867683076047942363587148371682931966159773189522267232228577916050210911 "_law_is_refused" (.fn 184),
 G 5058003962576027441540693429702861372819950707886424378134351591402256010075353731042115679 "_law_is_the_row" (.fn 185),
 G 1383034268907798636 "law" (.fn 186),
 G 1383023097702318188 "len" (.bi "len"),
 G 2946645490990082868118084909461247971888822084712580128112745 "isinstance" (.bi "isinstance"),
 G 1912546889765624891861864505306710131 "sorted" (.bi "sorted"),
 G 1383021856474595443 "sum" (.bi "sum"),
 G 1383035510153347181 "max" (.bi "max"),
 G 1383023097706774637 "min" (.bi "min"),
 G 1383029303926718561 "abs" (.bi "abs"),
 G 1383010685261316207 "ord" (.bi "ord"),
 G 1383028062687854691 "chr" (.bi "chr"),
 G 1716678967009094956691889913954 "bytes" (.ty "bytes"),
 G 1540850926764066032124012 "list" (.ty "list"),
 G 1540850926744206103347300 "dict" (.ty "dict"),
 G 1383030545185636457 "int" (.ty "int"),
 G 1383028062701224051 "str" (.ty "str"),
 G 1716657397344695798229101510770 "range" (.ty "range")]
noncomputable def Nh:List (Nat×Nat×Str×Nat×Nat):=[
 G4 14 2373929660290766150807952334846602109823828820063 "__init__" 14 0,
 G4 14 1540828800570408048722036 "told" 14 1,
 G4 15 2373929660290766150807952334846602109823828820063 "__init__" 14 0,
 G4 15 1540828800570408048722036 "told" 14 1,
 G4 16 2373929660290766150807952334846602109823828820063 "__init__" 14 0,
 G4 16 1540828800570408048722036 "told" 14 1,
 G4 21 2373929660290766150807952334846602109823828820063 "__init__" 21 0,
 G4 21 2130793352841247819174611688689136943956073 "is_done" 21 1,
 G4 21 1540838480767643374911600 "peek" 21 2,
 G4 21 1540830183455727367028852 "take" 21 3,
 G4 21 1912572637315547155300816376690901107 "starts" 21 4,
 G4 21 1540845395205411261055091 "skip" 21 5,
 G4 21 2946645491011446402742905741033693676884070913155767402037364 "take_while" 21 6,
 G4 21 2946664003190447005327230825547188878971279869547821128548468 "take_until" 21 7,
 G4 21 1912570920790649314929405759672615022 "number" 21 8,
 G4 21 1540828800572890533134438 "find" 21 9,
 G4 28 2373929660290766150807952334846602109823828820063 "__init__" 28 0,
 G4 28 1540828800577855522013303 "word" 28 1,
 G4 28 1540828800570408048722036 "told" 28 2,
 G4 80 2373929660290766150807952334846602109823828820063 "__init__" 80 0,
 G4 80 1540828800570408048722036 "told" 80 1,
 G4 80 2373950966332953549602946920445822603134345871465 "is_multi" 80 2,
 G4 80 2644868622516458365771646719645589560008177265171169385 "is_letter" 80 3,
 G4 80 2130822038487004290676327934348095995969641 "is_text" 80 4,
 G4 137 2373929660290766150807952334846602109823828820063 "__init__" 137 0,
 G4 137 1540828800570408048722036 "told" 137 1,
 G4 155 2373929660290766150807952334846602109823828820063 "__init__" 155 0,
 G4 155 1540828800570408048722036 "told" 155 1,
 G4 155 1716662019434208666885511512164 "depth" 155 2,
 G4 156 2373929660290766150807952334846602109823828820063 "__init__" 156 0,
 G4 156 1540828800570408048722036 "told" 156 1,
 G4 156 1716662019434208666885511512164 "depth" 156 2,
 G4 157 2373929660290766150807952334846602109823828820063 "__init__" 157 0,
 G4 157 1540828800570408048722036 "told" 157 1,
 G4 157 1716662019434208666885511512164 "depth" 157 2]
noncomputable def NT:List (Nat×List Str):=[GM 8 ["codes"],GM 12 ["found","worth_row"],GM 25 ["found"],GM 32 ["rows"],GM 34 ["rows"],GM 46 ["found"],GM 50 ["found"],GM 54 ["signs"],GM 55 ["signs"],GM 58 ["row"],GM 64 ["parts"],GM 65 ["parts"],GM 66 ["parts"],GM 88 ["pairs"],GM 93 ["found"],GM 96 ["parted","plain"],GM 102 ["found"],GM 103 ["rows"],GM 108 ["rows"],GM 109 ["words"],GM 123 ["pieces"],GM 124 ["lines"],GM 126 ["lines"],GM 127 ["parts"],GM 128 ["found"],GM 129 ["codes"],GM 130 ["parts"],GM 140 ["found"],GM 141 ["found"],GM 144 ["part"],GM 161 ["found"],GM 162 ["barred"],GM 164 ["own"],GM 172 ["line"]]
noncomputable def sJ:List (Nat×Str×AV)→Nat→Str→Option AV
 |[],_,_=>Option.none
 |(n,y,v)::r,k,x=>match Nat.beq k n with
  |true=>(match lN x.cps.toList y.cps.toList with
   |true=>some v
   |false=>Option.none)
  |false=>sJ r k x
noncomputable def sa:List (Nat×Nat×Str×Nat×Nat)→Nat→Nat→Str→Option (Nat×Nat)
 |[],_,_,_=>Option.none
 |(k,n,y,a,j)::r,c,m,x=>match Nat.beq c k&&Nat.beq m n with
  |true=>(match lN x.cps.toList y.cps.toList with
   |true=>some (a,j)
   |false=>Option.none)
  |false=>sa r c m x
noncomputable def Eg:List (Nat×List Str)→Nat→List Str
 |[],_=>[]
 |(k,l)::r,c=>match Nat.beq c k with
  |true=>l
  |false=>Eg r c
noncomputable def dI (x:Str):Option AV:=sJ Pp (sk x) x
noncomputable def gK (c:Nat) (x:Str):Option (Nat×Nat):=sa Nh c (sk x) x
noncomputable def bp:Callee→Stmt
 | .fn k=>st k
 | .mt k j=>mt k j
noncomputable def Kz:Callee→List Str
 | .fn k=>Eg NT k
 | .mt _ _=>[]
noncomputable def zw (s:Scope):Loc:=s.names.filterMap λ(n,k)=>match k with
 | .local=>some (n,⟨.loc,none⟩)
 | .cell=>some (n,⟨.cell,none⟩)
 | .globalImplicit=>some (n,⟨.glob,none⟩)
 |_=>Option.none
noncomputable def cInt (e:Expr):Option Int:=if h:e.ctorIdx=19 then Expr.Constant.elim (motive_1:=λ_=>Option Int) e h λc _ _=>match c with
 | .int i=>some i
 |_=>none else none
noncomputable def Hb (e:Expr):Option AV:=if h:e.ctorIdx=19 then Expr.Constant.elim (motive_1:=λ_=>Option AV) e h λc _ _=>Ro (Rv c) else
 if h:e.ctorIdx=3 then Expr.UnaryOp.elim (motive_1:=λ_=>Option AV) e h λo a _=>match o with
  | .USub=>(cInt a).map λi=> .int (-i)
  |_=>none
 else if(fV e).any List.isEmpty=true then some (.tup []) else none
noncomputable def dZ:List Expr→Option (List AV)
 |[]=>some []
 |e::es=>(Hb e).bind λv=>(dZ es).bind λl=>some (v::l)
noncomputable def CP:List (Str×AV)→Loc→Option Loc
 |[],r=>some r
 |p::l,r=>(dF r p.1 p.2).bind (CP l)
noncomputable def Dw (names:List Str) (ds:List Expr) (vs:List AV) (r:Loc):Option Loc:=
 if vs.length≤names.length∧names.length≤vs.length+ds.length then
  (dZ (ds.drop (ds.length -(names.length -vs.length)))).bind λdv=>CP (names.zip (vs++dv)) r
 else Option.none
noncomputable def finish (o:Option AV):ar→Option mH
 | .aY _ S=>match o with
  |Option.none=>some (.ret .none false Option.none)
  |some _=>(S[0]?).map λw=> .ret .none false (some w)
 | .ret v fr S=>match o with
  |Option.none=>some (.ret v fr Option.none)
  |some _=>(S[0]?).map λw=> .ret v fr (some w)
 | .exc=>match o with
  |Option.none=>some .exc
  |some _=>Option.none
 | .brk _ _=>Option.none
noncomputable def Jy:List (Nat×Nat):=[(0,21),(5,26),(6,31),(7,36),(8,43),(9,50),(10,55),(11,63),(12,70),(22,215),(23,220),(24,225),(25,233),(29,274),(30,281),(31,288),(32,296),(33,302),(34,309),(35,316),(36,323),(37,328),(38,335),(39,340),(46,348),(47,355),(48,362),(49,367),(50,374),(51,381),(52,388),(53,395),(54,402),(55,409),(56,416),(57,423),(58,430),(62,438),(63,445),(64,452),(65,459),(66,466),(81,521),(82,528),(83,535),(84,542),(85,549),(86,556),(87,561),(88,568),(89,575),(90,582),(91,587),(93,594),(94,599),(95,606),(96,613),(97,620),(98,627),(99,632),(100,637),(102,644),(103,651),(104,656),(105,661),(106,666),(107,671),(108,676),(109,681),(117,688),(118,695),(120,702),(121,709),(123,716),(124,723),(125,730),(126,738),(127,745),(128,752),(129,759),(130,766),(138,798),(139,805),(140,812),(141,817),(142,824),(143,831),(144,836),(145,843),(146,850),(147,857),(153,863),(154,870),(158,982),(159,989),(160,996),(161,1003),(162,1008),(163,1015),(164,1020),(165,1027),(166,1032),(167,1037),(168,1044),(169,1051),(170,1058),(171,1065),(172,1070),(173,1077),(174,1084),(178,1091),(179,1098),(180,1103),(181,1108),(182,1115),(183,1122),(184,1129),(185,1134),(186,1139)]
noncomputable def KY:List (Nat×Nat):=[(14,95),(15,108),(16,120),(21,204),(28,263),(80,510),(137,789),(155,903),(156,936),(157,973)]
noncomputable def Js:List (Nat×Nat×Nat):=[(14,0,85),(14,1,92),(21,0,137),(21,1,144),(21,2,152),(21,3,159),(21,4,166),(21,5,173),(21,6,180),(21,7,187),(21,8,194),(21,9,201),(28,0,248),(28,1,253),(28,2,260),(80,0,481),(80,1,486),(80,2,493),(80,3,500),(80,4,507),(137,0,781),(137,1,786),(155,0,886),(155,1,893),(155,2,900),(156,0,923),(156,1,928),(156,2,933),(157,0,956),(157,1,963),(157,2,970)]
noncomputable def pO:List (Nat×Nat)→Nat→Nat
 |[],_=>0
 |(k,v)::r,x=>match Nat.beq x k with
  |true=>v
  |false=>pO r x
noncomputable def nF:List (Nat×Nat×Nat)→Nat→Nat→Nat
 |[],_,_=>0
 |(k,j,v)::r,x,y=>match Nat.beq x k&&Nat.beq y j with
  |true=>v
  |false=>nF r x y
noncomputable def nT (k:Nat):Addr:=pO Jy k
noncomputable def ae (k:Nat):Addr:=pO KY k
noncomputable def gw (k j:Nat):Addr:=nF Js k j
noncomputable def A5:Callee→Addr
 | .fn k=>nT k
 | .mt k j=>gw k j
noncomputable def cU (f:Callee):Bool:=Nat.blt 0 (A5 f)&&(match f with
 | .mt 14 _=>false
 |_=>true)
noncomputable def wg (K:K6) (f:Callee) (o:Option AV) (r:Loc):X ar:=qu ⟨K,dI,gK,Kz f⟩ (if o.isSome then 1 else 0) (bd (bp f)) r o.toList
noncomputable def bindC (f:Callee) (vs:List AV):Option Loc:=if cU f=true then Dw ((ag (bp f)).args.map (·.arg)) (ag (bp f)).defaults vs (zw (sc (bp f))) else none
noncomputable def runC (K:K6):K6:=λf vs o=>(bindC f vs).bind λr=>(wg K f o r).p.bind (finish o)
noncomputable def run:Nat→K6
 |0=>λ_ _ _=>Option.none
 |n+1=>runC (run n)
noncomputable def cj:List Prop→Prop→Prop
 |[],Q=>Q
 |P::l,Q=>cj l (P∧Q)
noncomputable def gx {α:Type} (m:X α) (sc:List An):Option (Prop×α):=(m.g (sc,[])).bind λx=>if x.2.1.isEmpty=true then some (cj x.2.2 True,x.1) else none
theorem Bw:∀{l:List Prop} {Q:Prop},cj l Q→(∀P∈l,P)∧Q
 |[],_,h=>⟨λ_ m=>(zE m),h⟩
 |p::l,_,h=>by
  obtain⟨h1,h2,h3⟩:=Bw (l:=l) h;refine⟨λP m=> ?_,h3⟩;rcases List.mem_cons.mp m with e|m
  ·rw[e];exact h2
  ·exact h1 P m
theorem B6 {α:Type} {m:X α} {sc:List An} {P:Prop} {a:α} (e:gx m sc=some (P,a)) (h:P):m.p=some a:=by
 obtain⟨⟨b,s1⟩,e1,e2⟩:=bind_some e;dsimp only at e2;split at e2
 ·cases e2;obtain⟨L,l,k⟩:=m.h _ _ _ e1;exact k λP x=>(Bw h).1 P (by rw[l];exact List.mem_append_left _ x)
 ·exact zA e2
structure Ev where
 a:List An
 P:Prop
 h:P
noncomputable def Pq:List Ev→List An
 |[]=>[]
 |e::l=>e.a++Pq l
noncomputable def MC:List Ev→Prop
 |[]=>True
 |e::l=>e.P∧MC l
theorem RI:∀l:List Ev,MC l
 |[]=>trivial
 |e::l=>⟨e.h,RI l⟩
noncomputable def eT:Ev:=⟨[],true=true,rfl⟩
noncomputable def eY:Ev:=⟨[.b true],true=true,rfl⟩
noncomputable def eN:Ev:=⟨[.b false],false=false,rfl⟩
noncomputable def eG {b:Bool} (h:b=true):Ev:=⟨[],b=true,h⟩
noncomputable def eB {b x:Bool} (h:b=x):Ev:=⟨[.b x],b=x,h⟩
noncomputable def gT {p:Prop} [Decidable p] (h:p):Ev:=⟨[],decide p=true,decide_eq_true h⟩
noncomputable def bT {p:Prop} [Decidable p] (h:p):Ev:=⟨[.b true],decide p=true,decide_eq_true h⟩
noncomputable def bF {p:Prop} [Decidable p] (h:¬p):Ev:=⟨[.b false],decide p=false,decide_eq_false h⟩
noncomputable def eC {m:Option mH} {c:mH} (h:m=some c):Ev:=⟨[.c c],m=some c,h⟩
noncomputable def eS {m:Option ar} {c:ar} (h:m=some c):Ev:=⟨[.s c],m=some c,h⟩
noncomputable def eK:Ev:=⟨[.k],true=true,rfl⟩
noncomputable def eV {x y:AV} (h:x=y):Ev:=⟨[.v y],x=y,h⟩
noncomputable def eW {x:AV×AV} {a b:AV} (h:x=(a,b)):Ev:=⟨[.w a b],x=(a,b),h⟩
noncomputable def eL {m:Option (Res (List AV))} {c:Res (List AV)} (h:m=some c):Ev:=⟨[.l c],m=some c,h⟩
theorem aj {α:Type} {m:X α} {a:α} (L:List Ev) (e:gx m (Pq L)=some (MC L,a)):m.p=some a:=B6 e (RI L)
noncomputable def Sy (K:K6) (f:Callee) (vs:List AV) (o:Option AV) (sc:List An):Option (Prop×Option mH):=(bindC f vs).bind λr=>(gx (wg K f o r) sc).map λx=>(x.1,finish o x.2)
theorem aa {n:Nat} {f:Callee} {vs:List AV} {o:Option AV} {out:mH} (L:List Ev) (e:Sy (run n) f vs o (Pq L)=some (MC L,some out)):run (n+1) f vs o=some out:=by
 obtain⟨r,e1,e3⟩:=bind_some e;show((bindC f vs).bind λr=>(wg (run n) f o r).p.bind (finish o))=_;refine e1.symm▸?_;show(wg (run n) f o r).p.bind (finish o)=_;cases q:gx (wg (run n) f o r) (Pq L) with
 |none=>rw[q] at e3;exact zA e3
 |some x=>
  rw[q] at e3;obtain⟨P,res⟩:=x;have e4:=Option.some.inj e3;have e5:P=MC L:=congrArg Prod.fst e4;refine(B6 q (by rw[e5];exact RI L)).symm▸?_;exact congrArg Prod.snd e4
end Mine
end
section
open PySem PySem.W PyProof.Rows PySem.Calls
namespace Mine
set_option tactic.hygienic false
noncomputable def qv:Program:={PW with main:={PW.main with body:=PW.main.body.drop 186}}
noncomputable def TM (s:Stmt):Option Str:=if h:s.ctorIdx=5 then Stmt.Assign.elim (motive_2:=λ_=>Option Str) s h λts _ _=>match ts with
 |[e]=>ic e
 |_=>none else none
noncomputable def cY:List Str:=((PW.main.body.take 186).filterMap λs=>MJ (SV (TM s) (λn _=>some n) s) (λn _ _ _ _=>some n) s).filter (λn=>n !=Str.ofString "__name__")
noncomputable def H1 (P:Params):Heap:=absHeap (AK P) 1140 {}
noncomputable def S1 (w:World) (os:OsState):Shared:=⟨H1 w.params,#[],{},1788,os⟩
theorem TL (w:World) (os:OsState):staticsOk (importedModules PW.main.body) (boot_heap w.params) (S1 w os).heap=true:=by
 rw[PySem.W.Fast.te5923862056798008813];kernel_rfl
theorem TF (w:World) (os:OsState):namesBound PW (S1 w os).heap=true:=by
 unfold namesBound;rw[PySem.W.Fast.te12749700546528644094,PySem.W.Fast.te18344453789297297638];kernel_rfl
theorem TN (w:World) (os:OsState):gensDone (S1 w os)=true:=by kernel_rfl
theorem Tn (w:World) (os:OsState):laidKept (boot_heap w.params) (S1 w os).heap=true:=by kernel_rfl
theorem Te (w:World) (os:OsState):seen ((recsOf qv).map (·.name)) (ownsOf qv) [] {S1 w os with gens:= #[]}=expectedOf qv:=by
 rw[PySem.W.Fast.te5160383126252970620,PySem.W.Fast.te3399658132070893891,PySem.W.Fast.te5991557255702980513];kernel_rfl
theorem T1 (w:World) (os:OsState):(S1 w os).heap.bltView=bltViewBooted:=by kernel_rfl
theorem TC (w:World) (os:OsState):(S1 w os).heap.keysOk (looseW qv cY) ((recsOf qv).map (·.name)) ((litsOf qv).map (·.1)) ((clssOf qv (looseW qv cY)).map (·.name))=true:=by
 rw[PySem.W.Fast.te10880121769531294198,PySem.W.Fast.te821141287760084731,PySem.W.Fast.te3399658132070893891,PySem.W.Fast.te7409074990110511671,PySem.W.Fast.te13664370479719496447];kernel_rfl
theorem Tj (w:World) (os:OsState):(S1 w os).heap.accountedOkI (importedModules PW.main.body)=true:=by
 rw[PySem.W.Fast.te14722251495701143533,PySem.W.Fast.te5923862056798008813];kernel_rfl
theorem TR (w:World) (os:OsState):(S1 w os).heap.isNs mainGlobals=true:=by kernel_rfl
theorem Qn (w:World) (os:OsState):(S1 w os).heap.isNs builtinsNs=true:=by kernel_rfl
theorem RQ (w:World) (os:OsState):tablesOk qv (S1 w os).heap=true:=by
 rw[PySem.W.Fast.te10994771534591457954];kernel_rfl
theorem RD (w:World) (os:OsState):tabsOk qv (S1 w os)=true:=by
 rw[PySem.W.Fast.te479339242167458305];kernel_rfl
theorem Qo (w:World) (os:OsState):pinSeenD qv (drecsOf qv) (S1 w os)=pinGoodD (drecsOf qv):=by
 rw[PySem.W.Fast.te16090120013241838585,PySem.W.Fast.te3247288618530077131];kernel_rfl
theorem RT (w:World) (os:OsState):plainSeenE qv (looseW qv cY) (S1 w os)=plainGoodE qv (looseW qv cY):=by
 rw[PySem.W.Fast.te2386780881361962483,PySem.W.Fast.te821141287760084731];kernel_rfl
theorem Sd (w:World) (os:OsState):plainSeenD qv cY (S1 w os)=plainGoodD qv cY:=by
 rw[PySem.W.Fast.te11698064438423848299];kernel_rfl
theorem Qm (w:World) (os:OsState):wideSeen qv (S1 w os)=wideGood qv:=by
 rw[PySem.W.Fast.te7317090234206586261];kernel_rfl
theorem R8 (w:World) (os:OsState):clsSeenW qv cY (S1 w os)=clsGoodW qv cY:=by
 rw[PySem.W.Fast.te7369524293546568484];kernel_rfl
theorem FH {q:Program} {loose mods:List Str} {s:Shared} (h5:seen ((recsOf q).map (·.name)) (ownsOf q) [] {s with gens:= #[]}=expectedOf q) (h6:s.heap.bltView=bltViewBooted)
 (h7:s.heap.keysOk (looseW q loose) ((recsOf q).map (·.name)) ((litsOf q).map (·.1)) ((clssOf q (looseW q loose)).map (·.name))=true) (h8:s.heap.accountedOkI mods=true)
 (h9:s.heap.isNs mainGlobals=true) (h10:s.heap.isNs builtinsNs=true) (h11:tablesOk q s.heap=true) (hg:(s.gens.size==0)=true) (h12:tabsOk q s=true) (h13:pinSeenD q (drecsOf q) s=pinGoodD (drecsOf q))
 (h14:plainSeenE q (looseW q loose) s=plainGoodE q (looseW q loose)) (h15:plainSeenD q loose s=plainGoodD q loose) (h16:wideSeen q s=wideGood q) (h17:clsSeenW q loose s=clsGoodW q loose):
 openSeen q loose mods (λ_=>true) true s=openGood q loose:=by
 unfold openSeen openGood;simp only[h5,h6,h7,h8,h9,h10,h11,hg,h12,h13,h14,h15,h16,h17,Bool.and_self,if_true]
theorem Gs (w:World) (os:OsState):openSeen qv cY (importedModules PW.main.body) (λ_=>true) true (S1 w os)=openGood qv cY:=
 FH (Te w os) (T1 w os) (TC w os) (Tj w os) (TR w os) (Qn w os) (RQ w os) rfl (RD w os) (Qo w os) (RT w os) (Sd w os) (Qm w os) (R8 w os)
theorem CX {A B C D:OsState→Bool} {α β:Type} {S:OsState→α} {s:α} {H:OsState→β} {h:β} (hA:∀os,A os=true) (hB:∀os,B os=true) (hC:∀os,C os=true) (hD:∀os,D os=true) (hS:∀os,S os=s) (hH:∀os,H os=h):
 (λos=>((A os&&B os&&C os&&D os),S os,H os))=λ_=>(true,s,h):=by
 funext os
 rw[hA,hB,hC,hD,hS,hH];rfl
theorem Be (w:World):(λos=>((staticsOk (importedModules PW.main.body) (boot_heap w.params) (S1 w os).heap&&namesBound PW (S1 w os).heap&&gensDone (S1 w os)&&laidKept (boot_heap w.params) (S1 w os).heap),
 openSeen qv cY (importedModules PW.main.body) (λ_=>true) true (S1 w os),(S1 w os).heap))=λ_=>(true,openGood qv cY,H1 w.params):=
 CX (TL w) (TF w) (TN w) (Tn w) (Gs w) (λ_=>rfl)
theorem Ts (w:World):(fencedOpening treeTable PW w 20000).map (λs=>(s.heap,s.gens,s.drawn,s.toks))=some (boot_heap w.params,#[],boot_drawn,boot_toks):=
 boot_open (p:=PW) (by kernel_rfl) (by decide) (λ_=>by kernel_rfl) w
theorem TP (w:World):((boot_heap w.params).isNs mainGlobals&&(#[]:Array GenState).size==0,(boot_heap w.params).objs.size,(boot_heap w.params).nsMap mainGlobals "__annotations__")=(true,11,ann):=by kernel_rfl
end Mine
end
section
open PySem PySem.W PyProof.Rows
namespace Mine
set_option tactic.hygienic false
inductive F2 {α β:Type} (R:α→β→Prop):List α→List β→Prop
 |nil:F2 R [] []
 |cons {a:α} {b:β} {l:List α} {m:List β}:R a b→F2 R l m→F2 R (a::l) (b::m)
inductive F3 {α β γ:Type} (K:α→γ→Prop) (R:β→γ→Prop):List α→List β→List γ→Prop
 |nil:F3 K R [] [] []
 |cons {k:α} {a:β} {e:γ} {l:List α} {m:List β} {n:List γ}:K k e→R a e→F3 K R l m n→F3 K R (k::l) (a::m) (e::n)
section
variable {α β γ:Type} {R R':α→β→Prop}
theorem F2.mono (h:∀a b,R a b→R' a b) {l:List α} {m:List β} (t:F2 R l m):F2 R' l m:=by
 induction t with
 |nil=>exact .nil
 |cons a _ ih=>exact .cons (h _ _ a) ih
theorem F3.mono {K:α→γ→Prop} {Q Q':β→γ→Prop} (h:∀a b,Q a b→Q' a b) {k:List α} {l:List β} {m:List γ} (t:F3 K Q k l m):F3 K Q' k l m:=by
 induction t with
 |nil=>exact .nil
 |cons k a _ ih=>exact .cons k (h _ _ a) ih
theorem F2.length {l:List α} {m:List β} (t:F2 R l m):l.length=m.length:=by
 induction t with
 |nil=>rfl
 |cons _ _ ih=>exact congrArg (·+1) ih
theorem F2.append {l l':List α} {m m':List β} (t:F2 R l m) (k:F2 R l' m'):F2 R (l++l') (m++m'):=by
 induction t with
 |nil=>exact k
 |cons a _ ih=>exact .cons a ih
theorem F2.get {l:List α} {m:List β} (t:F2 R l m):∀{i:Nat} {x:α},l[i]? =some x→∃y,m[i]? =some y∧R x y:=by
 induction t with
 |nil=>exactλe=>zA e
 |cons a _ ih=>
  intro i x e;cases i with
  |zero=>exact⟨_,rfl,Option.some.inj e▸a⟩
  |succ i=>exact ih (i:=i) e
theorem F2.take {l:List α} {m:List β} (t:F2 R l m):∀n,F2 R (l.take n) (m.take n):=by
 induction t with
 |nil=>intro n;cases n<;>exact .nil
 |cons a r ih=>
  intro n;cases n with
  |zero=>exact .nil
  |succ n=>exact .cons a (ih n)
theorem F2.drop {l:List α} {m:List β} (t:F2 R l m):∀n,F2 R (l.drop n) (m.drop n):=by
 induction t with
 |nil=>intro n;cases n<;>exact .nil
 |cons a r ih=>
  intro n;cases n with
  |zero=>exact .cons a r
  |succ n=>exact ih n
theorem F2.tZ {a:α} {l:List α} {m:List β} (t:F2 R (a::l) m):∃b r,m=b::r∧R a b∧F2 R l r:=by
 cases t with|cons a r=>exact⟨_,_,rfl,a,r⟩
theorem F2.rV {m:List β} (t:F2 R [] m):m=[]:=by cases t;rfl
theorem F2.one {a:α} {m:List β} (t:F2 R [a] m):∃b,m=[b]∧R a b:=by
 refine cps λG kf=> ?_
 obtain⟨b,r,e,h,k⟩:=t.tZ;refine kf ?_;exact⟨b,by rw[e,k.rV],h⟩
theorem F2.two {a a':α} {m:List β} (t:F2 R [a,a'] m):∃b b',m=[b,b']∧R a b∧R a' b':=by
 refine cps λG kf=> ?_
 obtain⟨b,r,e,h,k⟩:=t.tZ;obtain⟨b',e',h'⟩:=k.one;refine kf ?_;exact⟨b,b',by rw[e,e'],h,h'⟩
end
noncomputable abbrev bC (vs:Array Value) (n:Nat):Obj:=⟨.type "tuple",none,.seq vs n,#[]⟩
noncomputable abbrev aV (vs:Array Value) (n:Nat):Obj:=⟨.type "list",none,.seq vs n,#[]⟩
noncomputable abbrev aU (es:Array DictEntry) (n:Nat):Obj:=⟨.type "dict",none,.dict es n,#[]⟩
noncomputable abbrev jN (a b c:Int) (t u v:Tok):Obj:=⟨.type "range",none,.fields #[.int a t,.int b u,.int c v],#[]⟩
noncomputable def u6 (pr:Params) (k:AV) (e:DictEntry):Prop:=k.cs (λi=>e.hash=hashInt i∧∃t,e.key= .int i t) (λs=>e.hash=PyData.keyHash pr s∧∃t,e.key= .str s t) (λ_=>False) (λ_=>False) (λ_=>False) (λ_ _=>False) False
noncomputable def lP (k:List AV):Prop:=(k.all wx=true∨k.all A6=true)∧k.Nodup
inductive aD (pr:Params) (P:Heap):AV→Value→Prop
 |none:aD pr P .none .none
 |bool (b:Bool):aD pr P (.bool b) (.bool b)
 |int (i:Int) (t:Tok):aD pr P (.int i) (.int i t)
 |str (s:Str) (t:Tok):s.length≤ao→aD pr P (.str s) (.str s t)
 |bytes (l:List UInt8) (t:Tok):l.length≤ao→aD pr P (.bytes l) (.bytes l.toArray t)
 |tup {a:Addr} {vs:Array Value} {n:Nat} {l:List AV}:P.get? a=some (bC vs n)→F2 (aD pr P) l vs.toList→l.length≤ao→aD pr P (.tup l) (.ref a)
 |lst {a:Addr} {vs:Array Value} {n:Nat} {l:List AV}:P.get? a=some (aV vs n)→F2 (aD pr P) l vs.toList→l.length≤ao→aD pr P (.lst l) (.ref a)
 |dct {a:Addr} {es:Array DictEntry} {n:Nat} {k vs:List AV}:a≠sysModules→P.get? a=some (aU es n)→F3 (u6 pr) (λd e=>aD pr P d e.val) k vs es.toList→lP k→aD pr P (.dct k vs) (.ref a)
 |inst {x a:Addr} {es:Array DictEntry} {n:Nat} {c:Nat} {ns:List Str} {vs:List AV}:P.get? x=some (PySem.W.instObj (ae c) a)→P.get? a=some (aU es n)→F3 (u6 pr) (λd e=>aD pr P d e.val) (ns.map .str) vs es.toList→ns.Nodup→bk.contains c=true→aD pr P (.inst c ns vs) (.ref x)
 |rng {p:Addr} {a b c:Int} {t u v:Tok}:P.get? p=some (jN a b c t u v)→small a=true→small b=true→small c=true→c≠0→aD pr P (.rng a b c) (.ref p)
 |fn (k:Nat):aD pr P (.fn k) (.ref (nT k))
 |cls (k:Nat):aD pr P (.cls k) (.ref (ae k))
 |ty (n:String):aD pr P (.ty n) (.type n)
 |bi (n:String):handedIn (.builtin n)=true→aD pr P (.bi n) (.builtin n)
noncomputable abbrev aP (pr:Params) (P:Heap):List AV→List Value→Prop:=F2 (aD pr P)
noncomputable abbrev fz (pr:Params) (P:Heap):List AV→List AV→List DictEntry→Prop:=F3 (u6 pr) λd e=>aD pr P d e.val
noncomputable def Ge (P P':Heap):Prop:=∀b o,P.get? b=some o→P'.get? b=some o
theorem Ge.refl (P:Heap):Ge P P:=λ_ _ e=>e
theorem Ge.trans {P P' P'':Heap} (h:Ge P P') (k:Ge P' P''):Ge P P'':=λb o e=>k b o (h b o e)
theorem aD.mono {pr:Params} {P P':Heap} (g:Ge P P') {d:AV} {v:Value} (h:aD pr P d v):aD pr P' d v:=
 @aD.rec pr P (λd v _=>aD pr P' d v) (λd v _=>F2 (aD pr P') d v) (λk d v _=>F3 (u6 pr) (λd e=>aD pr P' d e.val) k d v) .none .bool .int .str .bytes (λe _ b h=> .tup (g _ _ e) h b) (λe _ b h=> .lst (g _ _ e) h b) (λz e _ k h=> .dct z (g _ _ e) h k) (λe e' _ n k h=> .inst (g _ _ e) (g _ _ e') h n k) (λe a b c d=> .rng (g _ _ e) a b c d) .fn .cls .ty .bi .nil (λ_ _ h r=> .cons h r) .nil (λk _ _ h r=> .cons k h r) d v h
theorem aP.mono {pr:Params} {P P':Heap} (g:Ge P P') {d:List AV} {v:List Value} (h:aP pr P d v):aP pr P' d v:=F2.mono (λ_ _=>aD.mono g) h
theorem fz.mono {pr:Params} {P P':Heap} (g:Ge P P') {k d:List AV} {v:List DictEntry} (h:fz pr P k d v):fz pr P' k d v:=F3.mono (λ_ _=>aD.mono g) h
section
variable {pr:Params} {P:Heap}
noncomputable def Ob (pr:Params) (g1 g2:Addr→Option Obj) (P:Heap) (d:AV) (p:Addr×Addr):Prop:=match d with
 | .lst l=>p.1=p.2∧∃vs n,g2 p.2=some (aV vs n)∧aP pr P l vs.toList∧l.length≤ao
 | .dct k v=>p.1=p.2∧p.2≠sysModules∧∃es n,g2 p.2=some (aU es n)∧fz pr P k v es.toList∧lP k
 | .inst c ns vs=>g1 p.1=some (instObj (ae c) p.2)∧∃es n,g2 p.2=some (aU es n)∧fz pr P (ns.map .str) vs es.toList∧ns.Nodup∧bk.contains c=true
 |_=>False
theorem Ob.cases {g1 g2:Addr→Option Obj} {d:AV} {p:Addr×Addr} (t:Ob pr g1 g2 P d p) {Φ:AV→Addr→Addr→Prop}
 (l:∀l a vs n,g2 a=some (aV vs n)→aP pr P l vs.toList→l.length≤ao→Φ (.lst l) a a)
 (k:∀k v a es n,a≠sysModules→g2 a=some (aU es n)→fz pr P k v es.toList→lP k→Φ (.dct k v) a a)
 (i:∀c ns vs x a es n,g1 x=some (instObj (ae c) a)→g2 a=some (aU es n)→fz pr P (ns.map .str) vs es.toList→ns.Nodup→bk.contains c=true→Φ (.inst c ns vs) x a):Φ d p.1 p.2:=by
 obtain⟨x,a⟩:=p;cases d with
 |lst y=>obtain⟨e,vs,n,e1,e2,e3⟩:=t;dsimp only at e;rw[e];exact l _ _ _ _ e1 e2 e3
 |dct y z=>obtain⟨e,e0,es,n,e1,e2,e3⟩:=t;dsimp only at e;rw[e];exact k _ _ _ _ _ e0 e1 e2 e3
 |inst c ns vs=>obtain⟨e,es,n,e1,e2,e3,e4⟩:=t;exact i _ _ _ _ _ _ _ e e1 e2 e3 e4
 |_=>exact t.elim
theorem Ob.mono {pr:Params} {P P':Heap} {g1 g2 g1' g2':Addr→Option Obj} {d:AV} {p:Addr×Addr} (t:Ob pr g1 g2 P d p) (h1:∀o,g1 p.1=some o→g1' p.1=some o) (h2:∀o,g2 p.2=some o→g2' p.2=some o) (g:Ge P P'):Ob pr g1' g2' P' d p:=by
 have x:=p.1;have a:=p.2;exact t.cases (Φ:=λd x a=>(∀o,g1 x=some o→g1' x=some o)→(∀o,g2 a=some o→g2' a=some o)→Ob pr g1' g2' P' d (x,a)) (λ_ _ vs n e r b _ h2=>⟨rfl,vs,n,h2 _ e,aP.mono g r,b⟩) (λ_ _ _ es n z e r k _ h2=>⟨rfl,z,es,n,h2 _ e,fz.mono g r,k⟩)
  (λ_ _ _ _ _ es n e e' r nd o h1 h2=>⟨h1 _ e,es,n,h2 _ e',fz.mono g r,nd,o⟩) h1 h2
noncomputable def BA (pr:Params) (g:Addr→Option Obj) (P:Heap) (d:AV) (v:Value):Prop:=match d with
 | .none=>v= .none
 | .bool b=>v= .bool b
 | .int i=>∃t,v= .int i t
 | .str s=>s.length≤ao∧∃t,v= .str s t
 | .bytes l=>l.length≤ao∧∃t,v= .bytes l.toArray t
 | .tup l=>∃a vs n,v= .ref a∧P.get? a=some (bC vs n)∧aP pr P l vs.toList∧l.length≤ao
 | .lst l=>∃p,v= .ref p.1∧Ob pr g g P (.lst l) p
 | .dct k w=>∃p,v= .ref p.1∧Ob pr g g P (.dct k w) p
 | .inst c ns vs=>∃p,v= .ref p.1∧Ob pr g g P (.inst c ns vs) p
 | .rng a b c=>∃p t u w,v= .ref p∧P.get? p=some (jN a b c t u w)∧small a=true∧small b=true∧small c=true∧c≠0
 | .fn k=>v= .ref (nT k)
 | .cls k=>v= .ref (ae k)
 | .ty n=>v= .type n
 | .bi n=>v= .builtin n∧handedIn (.builtin n)=true
 | .ref _=>False
theorem BA.ob {g:Addr→Option Obj} {d:AV} {p:Addr×Addr} (t:Ob pr g g P d p):BA pr g P d (.ref p.1):=by
 cases d with
 |lst _=>exact⟨p,rfl,t⟩
 |dct _ _=>exact⟨p,rfl,t⟩
 |inst _ _ _=>exact⟨p,rfl,t⟩
 |_=>exact t.elim
theorem aD.out {d:AV} {v:Value} (h:aD pr P d v) {g:Addr→Option Obj} (hg:∀a o,P.get? a=some o→g a=some o):BA pr g P d v:=by
 cases h with
 |none=>exact rfl
 |bool b=>exact rfl
 |int i t=>exact⟨t,rfl⟩
 |str s t b=>exact⟨b,t,rfl⟩
 |bytes l t b=>exact⟨b,t,rfl⟩
 |tup e r b=>exact⟨_,_,_,rfl,e,r,b⟩
 |lst e r b=>exact⟨(_,_),rfl,rfl,_,_,hg _ _ e,r,b⟩
 |dct z e r k=>exact⟨(_,_),rfl,rfl,z,_,_,hg _ _ e,r,k⟩
 |inst e e' r n o=>exact⟨(_,_),rfl,hg _ _ e,_,_,hg _ _ e',r,n,o⟩
 |rng e a b c z=>exact⟨_,_,_,_,rfl,e,a,b,c,z⟩
 |fn k=>exact rfl
 |cls k=>exact rfl
 |ty k=>exact rfl
 |bi k o=>exact⟨rfl,o⟩
theorem aD.QS {d:AV} {p:Addr×Addr} (t:Ob pr P.get? P.get? P d p):aD pr P d (.ref p.1):=t.cases (Φ:=λd x _=>aD pr P d (.ref x)) (λ_ _ _ _ e r b=> .lst e r b) (λ_ _ _ _ _ z e r k=> .dct z e r k) λ_ _ _ _ _ _ _ e e' r n o=> .inst e e' r n o
end
noncomputable abbrev aG (M:List Addr) (h:Heap):Heap:=PySem.W.hideAll h M
noncomputable abbrev Rep (pr:Params) (M:List Addr) (h:Heap):AV→Value→Prop:=aD pr (aG M h)
noncomputable def aF (W:List Addr) (h h':Heap):Prop:=∀b o,b∉W→h.get? b=some o→h'.get? b=some o
theorem af {M:List Addr} {h:Heap} {b:Addr} {o:Obj}:(aG M h).get? b=some o↔b∉M∧h.get? b=some o:=
 ⟨λe=>⟨λm=>(nomatch (show none=some o from(PySem.W.hideAll_none M m).symm.trans e)),PySem.W.of_hideAll M e⟩,λx=>PySem.W.hideAll_get M x.2 x.1⟩
theorem aF.refl (W:List Addr) (h:Heap):aF W h h:=λ_ _ _ e=>e
theorem aF.trans {W:List Addr} {h h' h'':Heap} (a:aF W h h') (b:aF W h' h''):aF W h h'':=λc o n e=>b c o n (a c o n e)
theorem aF.aG {M W:List Addr} {h h':Heap} (a:aF W h h') (s:∀b∈W,b∈M):Ge (aG M h) (aG M h'):=λb o e=>af.mpr ⟨(af.mp e).1,a b o (λm=>(af.mp e).1 (s b m)) (af.mp e).2⟩
theorem fc {M:List Addr} {h h':Heap} {a:Addr} (g:Ge (aG M h) (aG M h')) (f:h.get? a=none):Ge (aG M h) (aG (a::M) h'):=λb o e=>
 af.mpr ⟨λm=>(List.mem_cons.mp m).elim (λq=>(nomatch (show none=some o from(f.symm.trans (q▸(af.mp e).2))))) (af.mp e).1,(af.mp (g b o e)).2⟩
theorem qa {M M':List Addr} {h:Heap} (s:∀b∈M,b∈M'):Ge (aG M' h) (aG M h):=λb _ e=>af.mpr ⟨λm=>(af.mp e).1 (s b m),(af.mp e).2⟩
noncomputable abbrev Mu:=List (Addr×Addr)
noncomputable abbrev b9 (mu:Mu):List Addr:=mu.map (·.2)
noncomputable def ak (pr:Params) (M:List Addr) (h:Heap):AV→Addr×Addr→Prop:=Ob pr (aG M h).get? h.get? (aG M h)
noncomputable def aq (pr:Params) (M:List Addr) (h:Heap):AV→Value→Prop:=BA pr h.get? (aG M h)
theorem aq.t8 {pr:Params} {M:List Addr} {h:Heap} {d:AV} {v:Value} (t:Rep pr M h d v):aq pr M h d v:=t.out λ_ _ e=>(af.mp e).2
theorem aq.BC {pr:Params} {M:List Addr} {h:Heap} {d:AV} {p:Addr×Addr} (t:ak pr M h d p):aq pr M h d (.ref p.1):=BA.ob (Ob.mono t (λ_ e=>(af.mp e).2) (λ_ e=>e) (.refl _))
noncomputable abbrev ai (pr:Params) (M:List Addr) (h:Heap):List AV→Mu→Prop:=F2 (ak pr M h)
noncomputable def ax (pr:Params) (M:List Addr) (mu:Mu) (h:Heap) (d:AV) (v:Value):Prop:=match rf d with
 |some i=>∃p,mu[i]? =some p∧v= .ref p.1
 |none=>Rep pr M h d v
theorem HH {d:AV} (f:flat d=true):rf d=none:=by
 cases d<;>first|rfl|exact zC f
theorem ax.bo {pr:Params} {M:List Addr} {mu:Mu} {h:Heap} {d:AV} {v:Value} (f:flat d=true):ax pr M mu h d v↔Rep pr M h d v:=by
 unfold ax;rw[HH f]
noncomputable def dJ (pr:Params) (M:List Addr) (mu:Mu) (h:Heap) (x:Option Value) (b:Option AV):Prop:=match b with
 |none=>x=none
 |some d=>∃v,x=some v∧ax pr M mu h d v
noncomputable def gz (k:NameKind) (pr:Params) (M:List Addr) (mu:Mu) (env:Env) (h:Heap) (x:Str) (b:Option AV):Prop:=
 env.kindOf x=some k∧∃c cv,env.cells.lookup x=some c∧c∈M∧h.IsCell c cv∧dJ pr M mu h cv b
noncomputable def aX (pr:Params) (M:List Addr) (mu:Mu) (env:Env) (h:Heap) (m:Str→Option Value) (x:Str) (w:LV):Prop:=match w.k with
 | .glob=>env.kindOf x=some .globalImplicit
 | .loc=>env.kindOf x=some .local∧dJ pr M mu h (m x) w.v
 | .cell=>gz .cell pr M mu env h x w.v
 | .free=>gz .cell pr M mu env h x w.v
noncomputable def fu (o:Obj):Prop:=o.cls= .type "frame"∧∃es n,o.data= .dict es n
noncomputable def mq (M:List Addr) (FL:List Env) (h:Heap):Prop:=∀e∈FL,e.scope.kind≠.module∧∃L,e.frame=some L∧L∈M∧∃o,h.get? L=some o∧fu o
noncomputable def bG (M:List Addr) (h:Heap):Prop:=∀a∈M,∃o,h.get? a=some o
structure FS (pr:Params) (M:List Addr) (FL:List Env) (env:Env) (mu:Mu) (r:Loc) (S:List AV) (h:Heap):Prop where
 kind:env.scope.kind= .function
 glo:env.globals=mainGlobals
 blt:env.builtins=builtinsNs
 names:∃m,h.Ns env.locals m∧∀x b,dm r x=some b→((x==("__debug__":Str))=false∧(x==("__classdict__":Str))=false)∧aX pr M mu env h m x b
 store:ai pr M h S mu
 locM:env.locals∈M
 muM:∀a∈b9 mu,a∈M
 cellM:∀a∈env.cells.map (·.2),a∈M
 apart:(env.locals::(env.cells.map (·.2)++b9 mu)).Nodup
 ground:Ge (H1 pr) (aG M h)
 live:bG M h
 frm:mq M FL h
 own:∃e outer L,FL=e::outer∧e.frame=some L∧env.frame=some L
set_option tactic.hygienic false
variable {pr:Params} {M:List Addr} {mu:Mu} {env:Env} {r:Loc} {S S':List AV} {h h':Heap} {FL:List Env}
theorem ax.lift {M':List Addr} {mu':Mu} {d:AV} {v:Value} (t:ax pr M mu h d v) (e:∀(i:Nat) (p:Addr×Addr),mu[i]? =some p→mu'[i]? =some p) (g:Ge (aG M h) (aG M' h')):ax pr M' mu' h' d v:=by
 unfold ax at*;cases q:rf d with
 |none=>rw[q] at t;exact aD.mono g t
 |some i=>rw[q] at t;exact t.elim λp t=>⟨p,e _ _ t.1,t.2⟩
theorem ax.mono {d:AV} {v:Value} (g:Ge (aG M h) (aG M h')) (t:ax pr M mu h d v):ax pr M mu h' d v:=ax.lift t (λ_ _ e=>e) g
theorem dJ.lift {M':List Addr} {mu':Mu} {x:Option Value} {b:Option AV} (t:dJ pr M mu h x b) (e:∀(i:Nat) (p:Addr×Addr),mu[i]? =some p→mu'[i]? =some p) (g:Ge (aG M h) (aG M' h')):dJ pr M' mu' h' x b:=by
 cases b with
 |none=>exact t
 |some d=>exact t.elim λv t=>⟨v,t.1,ax.lift t.2 e g⟩
theorem aX.lift {M':List Addr} {mu':Mu} {x:Str} {b:LV} {m:Str→Option Value} (t:aX pr M mu env h m x b) (e:∀(i:Nat) (p:Addr×Addr),mu[i]? =some p→mu'[i]? =some p) (g:Ge (aG M h) (aG M' h')) (s:∀a∈M,a∈M') (k:∀{c v},env.cells.lookup x=some c→h.IsCell c v→h'.IsCell c v):aX pr M' mu' env h' m x b:=by
 have key:∀q,gz q pr M mu env h x b.v→gz q pr M' mu' env h' x b.v:=λq ⟨a,c,cv,e1,e2,e3,e4⟩=>⟨a,c,cv,e1,s _ e2,k e1 e3,dJ.lift e4 e g⟩
 unfold aX at*;obtain⟨q,w⟩:=b;cases q with
 |loc=>exact⟨t.1,dJ.lift t.2 e g⟩
 |cell=>exact key _ t
 |free=>exact key _ t
 |glob=>exact t
theorem FS.jm (F:FS pr M FL env mu r S h):env.locals∉b9 mu:=λm=>(List.nodup_cons.mp F.apart).1 (List.mem_append_right _ m)
theorem FS.gn (F:FS pr M FL env mu r S h) {x:Str} {c:Addr} (e:env.cells.lookup x=some c):c∉b9 mu:=λm=>
 (List.nodup_append.mp (List.nodup_cons.mp F.apart).2).2.2 c (List.mem_map.mpr ⟨(x,c),mem_of_lookup e,rfl⟩) c m rfl
noncomputable def ah (M W:List Addr) (h h':Heap):Prop:=∀b o,h.get? b=some o→∃o',h'.get? b=some o'∧(fu o→fu o')∧(b∉W→o'=o∨(b∈M∧fu o∧∃sl,o'={o with slots:=sl}))
theorem ah.refl (M W:List Addr) (h:Heap):ah M W h h:=λ_ o e=>⟨o,e,id,λ_=> .inl rfl⟩
theorem aF.m0 {W:List Addr} (k:aF [] h h'):ah M W h h':=λb o e=>⟨o,k b o (λm=>zE m) e,id,λ_=> .inl rfl⟩
theorem aF.m1 {a:Addr} {o':Obj} (k:aF [a] h h') (e':h'.get? a=some o') (f:∀o,h.get? a=some o→fu o→fu o'):ah M [a] h h':=λb o e=>
 (Nat.decEq b a).byCases (λq=>⟨o',q▸e',f o (q▸e),λn=>absurd (List.mem_singleton.mpr q) n⟩) λq=>⟨o,k b o (λm=>q (List.mem_singleton.mp m)) e,id,λ_=> .inl rfl⟩
theorem ah.trans {W:List Addr} {h'':Heap} (a:ah M W h h') (b:ah M W h' h''):ah M W h h'':=λc o e=>by
 obtain⟨o1,e1,f1,g1⟩:=a c o e;obtain⟨o2,e2,f2,g2⟩:=b c o1 e1;refine⟨o2,e2,λq=>f2 (f1 q),λn=> ?_⟩;rcases g1 n with rfl|⟨m,f,sl,rfl⟩
 ·exact g2 n
 ·exact .inr ⟨m,f,(g2 n).elim (λq=>⟨sl,q⟩) λq=>q.2.2⟩
theorem ah.eO {W W':List Addr} (a:ah M W h h') (s:∀b∈W,b∈W'):ah M W' h h':=λb o e=>(a b o e).elim λo1 x=>⟨o1,x.1,x.2.1,λn=>x.2.2 λm=>n (s b m)⟩
theorem ah.out {W:List Addr} (a:ah M W h h') {b:Addr} {o:Obj} (n:b∉W) (e:h.get? b=some o) {Q:Prop} (h1:h'.get? b=some o→Q) (h2:b∈M→fu o→∀sl,h'.get? b=some {o with slots:=sl}→Q):Q:=by
 obtain⟨o1,e1,_,g1⟩:=a b o e;exact(g1 n).elim (λq=>h1 (q▸e1)) λ⟨m,f,sl,q⟩=>h2 m f sl (q▸e1)
theorem ah.aG {W:List Addr} (a:ah M W h h') (s:∀b∈W,b∈M):Ge (aG M h) (aG M h'):=λb _ e=>
 a.out (λm=>(af.mp e).1 (s b m)) (af.mp e).2 (λq=>af.mpr ⟨(af.mp e).1,q⟩) λm=>absurd m (af.mp e).1
theorem ah.get {W:List Addr} (a:ah M W h h') {b:Addr} {o:Obj} (n:b∉W) (e:h.get? b=some o) (f:¬fu o):h'.get? b=some o:=a.out n e id λ_ q=>absurd q f
theorem ah.live {W:List Addr} (a:ah M W h h') {b:Addr} {o:Obj} (e:h.get? b=some o):∃o',h'.get? b=some o':=(a b o e).elim λo1 x=>⟨o1,x.1⟩
theorem ah.old {W:List Addr} (a:ah M W h h') {b:Addr} (e:h'.get? b=none):h.get? b=none:=by
 cases q:h.get? b with
 |none=>rfl
 |some o=>exact(a.live q).elim λo' e'=>nomatch e.symm.trans e'
theorem ah.fr {W:List Addr} {FL:List Env} (a:ah M W h h') (f:mq M FL h):mq M FL h':=λe m=>
 have⟨k,L,e1,e2,o,e3,e4⟩:=f e m
 (a L o e3).elim λo1 x=>⟨k,L,e1,e2,o1,x.1,x.2.1 e4⟩
theorem ah.ns {W:List Addr} (a:ah M W h h') {b:Addr} (n:b∉W) {m:Str→Option Value} (hn:h.Ns b m):h'.Ns b m:=by
 obtain⟨o,es,ep,ho,hd,rest⟩:=hn;exact a.out n ho (λe=>⟨_,es,ep,e,hd,rest⟩) λ_ _ _ e=>⟨_,es,ep,e,hd,rest⟩
theorem ah.cell {W:List Addr} (a:ah M W h h') {b:Addr} (n:b∉W) {v:Option Value} (hc:h.IsCell b v):h'.IsCell b v:=
 hc.elim λo x=>⟨o,a.get n x.1 (λ⟨_,es,n,q⟩=>nomatch x.2.symm.trans q),x.2⟩
theorem FS.bL (F:FS pr M FL env mu r S h) (k:ah M (b9 mu) h h'):Ge (Mine.aG M h) (Mine.aG M h'):=ah.aG k F.muM
theorem ak.at2 {o:AV} {p:Addr×Addr} (t:ak pr M h o p):∃ob,h.get? p.2=some ob:=Ob.cases t (Φ:=λ_ _ a=>∃ob,h.get? a=some ob) (λ_ _ _ _ e _ _=>⟨_,e⟩) (λ_ _ _ _ _ _ e _ _=>⟨_,e⟩) λ_ _ _ _ _ _ _ _ e _ _ _=>⟨_,e⟩
theorem bG.keep {W:List Addr} (l:bG M h) (k:ah M W h h'):bG M h':=λa m=>(l a m).elim λ_ e=>k.live e
theorem bG.vY (l:bG M h) (k:aF [] h h'):bG M h':=l.keep (W:=[]) k.m0
theorem bG.new (l:bG M h):h.objs.size∉M:=λm=>(l _ m).elim λ_ e=>absurd (Heap.lt_size e) (Nat.lt_irrefl _)
theorem aH (W:List Addr) (h:Heap) (o:Obj):aF W h (h.push o):=λ_ _ _ e=>Heap.get?_push_of_some _ e
theorem oL (l:bG M h) {o:Obj} (f:o.isFreed=false):(aG M (h.push o)).get? h.objs.size=some o:=af.mpr ⟨l.new,Heap.get?_push_size _ f⟩
theorem FS.go (F:FS pr M FL env mu r S h) (k:ah M (b9 mu) h h') (st:ai pr M h' S' mu):FS pr M FL env mu r S' h':=
 have g:=F.bL k
 ⟨F.kind,F.glo,F.blt,F.names.elim λm x=>⟨m,k.ns F.jm x.1,λy b e=>⟨(x.2 y b e).1,aX.lift (x.2 y b e).2 (λ_ _ e=>e) g (λ_ m=>m) λq=>k.cell (F.gn q)⟩⟩,st,F.locM,F.muM,F.cellM,F.apart,F.ground.trans g,F.live.keep k,k.fr F.frm,F.own⟩
theorem ak.keep {o:AV} {p:Addr×Addr} (k:aF [] h h') (t:ak pr M h o p):ak pr M h' o p:=
 have g:Ge (aG M h) (aG M h'):=aF.aG k λ_ m=>zE m
 Ob.mono t (g _) (λ_=>k _ _ λm=>zE m) g
theorem ai.keep (k:aF [] h h') {S:List AV} {mu:Mu} (t:ai pr M h S mu):ai pr M h' S mu:=F2.mono (λ_ _=>ak.keep k) t
theorem ai.get {S:List AV} {mu:Mu} (t:ai pr M h S mu) {i:Nat} {o:AV} (e:S[i]? =some o):∃p,mu[i]? =some p∧ak pr M h o p:=F2.get t e
theorem aq.of {d x:AV} {v:Value} (st:ai pr M h S mu) (t:ax pr M mu h d v) (e:bK S d=some x):aq pr M h x v:=by
 cases d with
 |ref i=>
  obtain⟨p,hp,rfl⟩:=t;obtain⟨p',hp',m⟩:=st.get e;exact Option.some.inj (hp.symm.trans hp')▸.BC m
 |_=>exact Option.some.inj e▸.t8 t
structure cq (n:Nat) (FL:List Env) (A:Around):Prop where
 depth:A.depth+5*n+8≤recursionLimit
 units:A.units+30*n+60≤cLine
 handled:A.handled=none
 frames:A.frames=some FL
structure qR (n:Nat) (FL:List Env) (A:Around):Prop where
 depth:A.depth+5*n+5≤recursionLimit
 units:A.units+30*n+45≤cLine
 handled:A.handled=none
 frames:A.frames=some FL
theorem cq.call {n:Nat} {A:Around} (R:cq n FL A):qR n FL A:=⟨Nat.le_trans (Nat.add_le_add_left (by decide) _) R.depth,Nat.le_trans (Nat.add_le_add_left (by decide) _) R.units,R.handled,R.frames⟩
theorem cq.J4 {n:Nat} {A:Around} (R:cq n FL A) (c:Code) (h1:c.weight≤3) (h2:c.cUnits≤15) (h3:c.envs=[]):qR n FL (A.under c):=
 ⟨by have:=R.depth;show A.depth+c.weight+5*n+5≤_;omega,by have:=R.units;show A.units+c.cUnits+30*n+45≤_;omega,R.handled,by show pushEnvs c.envs A.frames=_;rw[h3,R.frames];rfl⟩
theorem qR.frame {n:Nat} {A:Around} (R:qR (n+1) FL A) (env:Env):cq n (env::FL) (A.deeper env):=
 ⟨by have:=R.depth;show A.depth+1+5*n+8≤_;omega,by have:=R.units;show A.units+3+30*n+60≤_;omega,R.handled,by show A.frames.map _=_;rw[R.frames];rfl⟩
noncomputable abbrev up (s:Shared) (h:Heap) (tk:Nat):Shared:={s with heap:=h,toks:=tk}
set_option tactic.hygienic false
structure i7 where
 X:List Addr→List Addr→Heap→Heap→Value→Prop
 pre:∀{M W:List Addr} {h h1 h':Heap} {x:Value},ah M W h h1→X M W h1 h' x→X M W h h' x
noncomputable def mn (w:World):Prop:=∀x d,dI x=some d→flat d=true∧∀(M:List Addr) (s:Shared) (env:Env) (A:Around) (Q:Value→Shared→Prop) (E:Value→Shared→Prop),Ge (H1 w.params) (aG M s.heap)→env.globals=mainGlobals→env.builtins=builtinsNs→
 (∀v,Rep w.params M s.heap d v→Q v s)→wpAny (model PW w) A (loadGlobal env x) Q E s
noncomputable abbrev VT (pr:Params) (M:List Addr) (mu:Mu):Heap→List AV→AV→Value→Prop:=λh _ d v=>ax pr M mu h d v
noncomputable abbrev VB:Heap→List AV→Bool→Bool→Prop:=λ_ _ b b'=>b'=b
noncomputable abbrev TY:Heap→List AV→Bool→Value→Prop:=λ_ _ b v=>v= .bool b
section
variable (w:World) (XR:i7) (n:Nat)
noncomputable def aO (M:List Addr) (mu:Mu) (s:Shared) {α β:Type} (V:Heap→List AV→α→β→Prop) (res:Res α) (Q:β→Shared→Prop) (E:Value→Shared→Prop):Prop:=match res with
 | .ok d S'=>∀v h' tk,ah M (b9 mu) s.heap h'→ai w.params M h' S' mu→V h' S' d v→Q v (up s h' tk)
 | .exc=>∀x h' tk,XR.X M (b9 mu) s.heap h' x→E x (up s h' tk)
noncomputable def Tr (M:List Addr) (mu:Mu) (env:Env) (r:Loc) (S:List AV) {α β:Type} (V:Heap→List AV→α→β→Prop) (m:Option (Res α)) (t:Sem β):Prop:=∀res,m=some res→
 ∀⦃A:Around⦄ ⦃s:Shared⦄ ⦃Q:β→Shared→Prop⦄ ⦃E:Value→Shared→Prop⦄ ⦃FL:List Env⦄,cq n FL A→FS w.params M FL env mu r S s.heap→aO w XR M mu s V res Q E→wpAny (model PW w) A t Q E s
noncomputable def bf (C:ay) (e:Expr):Prop:=∀r S M mu env,Tr w XR n M mu env r S (VT w.params M mu) (dE C e r S).p (eval e env)
end
section
variable {w:World} {XR:i7} {n:Nat} {C:ay} {M:List Addr} {mu:Mu} {env:Env} {r:Loc} {S:List AV} {A:Around} {s:Shared} {E:Value→Shared→Prop} {α β γ:Type} {V:Heap→List AV→α→β→Prop} {t:Sem β} {Q:β→Shared→Prop} {FL:List Env}
theorem aO.up {h:Heap} {tk:Nat} {res:Res α} (k:ah M (b9 mu) s.heap h) (p:aO w XR M mu s V res Q E):aO w XR M mu (up s h tk) V res Q E:=by
 cases res with
 |ok d S'=>exactλv h' tk' k'=>p v h' tk' (k.trans k')
 |exc=>exactλx h' tk' x'=>p x h' tk' (XR.pre k x')
theorem aO.exc {δ:Type} {V':Heap→List AV→γ→δ→Prop} {Q':δ→Shared→Prop} (P:aO w XR M mu s V (.exc:Res α) Q E):aO w XR M mu s V' (.exc:Res γ) Q' E:=P
noncomputable def bZ (Φ:α→Prop) (g:Option (List Bool×α)):Prop:=∀a,g=some a→(∀b∈a.1,b=true)→Φ a.2
theorem bZ.none {Φ:α→Prop}:bZ Φ Option.none:=λ_ e=>zA e
theorem bZ.nil {Φ:α→Prop} {a:α} (h:Φ a):bZ Φ (some ([],a)):=λ_ e _=>Option.some.inj e▸h
theorem bZ.one {Φ:α→Prop} {b:Bool} {a:α} (h:b=true→Φ a):bZ Φ (some ([b],a)):=λx e k=>by
 obtain rfl:=Option.some.inj e;exact h (k _ List.mem_cons_self)
theorem bZ.two {Φ:α→Prop} {b c:Bool} {a:α} (h:b=true→c=true→Φ a):bZ Φ (some ([b,c],a)):=λx e k=>by
 obtain rfl:=Option.some.inj e;exact h (k _ List.mem_cons_self) (k _ (List.mem_cons_of_mem _ List.mem_cons_self))
theorem bZ.bind {Φ:α→Prop} {m:Option γ} {f:γ→Option (List Bool×α)} (h:∀a,m=some a→bZ Φ (f a)):bZ Φ (m.bind f):=λ_ e k=>by
 obtain⟨a,e1,e2⟩:=bind_some e;exact h a e1 _ e2 k
theorem bZ.ite {Φ:α→Prop} {c:Prop} [Decidable c] {g k:Option (List Bool×α)} (h1:c→bZ Φ g) (h2:¬c→bZ Φ k):bZ Φ (if c then g else k):=by
 by_cases q:c
 ·rw[if_pos q];exact h1 q
 ·rw[if_neg q];exact h2 q
theorem uE {l:List Bool} {a:α} {b:α} (h:(X.NQ l (X.pure a)).p=some b):(∀c∈l,c=true)∧a=b:=by
 induction l with
 |nil=>exact⟨λ_ m=>(zE m),Option.some.inj h⟩
 |cons c l ih=>
  change (if c=true then(X.NQ l (X.pure a)).p else none)=some b at h;cases c with
  |false=>exact zA h
  |true=>exact⟨λx m=>(List.mem_cons.mp m).elim id ((ih h).1 x),(ih h).2⟩
theorem gV {g:Option (List Bool×α)} {res:Res α} (h:(gR g S).p=some res) (P:aO w XR M mu s V res Q E) {Φ:α→Prop} {G:Prop} (k:bZ Φ g) (l:∀a,Φ a→aO w XR M mu s V (.ok a S) Q E→G):G:=by
 obtain⟨a,e1,e2⟩:=bind_some h;obtain⟨h1,h2⟩:=uE e2;exact l _ (k _ e1 h1) (h2▸P)
theorem lR {m:Option α} {res:Res α} (h:(pR m S).p=some res) (P:aO w XR M mu s V res Q E) {G:Prop} (l:∀a,m=some a→aO w XR M mu s V (.ok a S) Q E→G):G:=by
 obtain⟨a,e1,e2⟩:=bind_some h;exact l _ e1 (Option.some.inj e2▸P)
theorem aZ {a:α} {res:Res α} (h:(i3 a S).p=some res) (P:aO w XR M mu s V res Q E):aO w XR M mu s V (.ok a S) Q E:=Option.some.inj h▸P
theorem aT {m:Option γ} {f:γ→X α} {a:α} (h:(X.lift m f).p=some a) {G:Prop} (l:∀c,m=some c→(f c).p=some a→G):G:=by
 obtain⟨c,e1,e2⟩:=bind_some h;exact l c e1 e2
theorem j3 {c:Prop} [Decidable c] {f g:X α} {a:α} (h:(if c then f else g).p=some a) {G:Prop} (k:c→f.p=some a→G) (l:¬c→g.p=some a→G):G:=by
 by_cases q:c
 ·rw[if_pos q] at h;exact k q h
 ·rw[if_neg q] at h;exact l q h
theorem aQ {c:Prop} [Decidable c] {f:X α} {a:α} (h:(if c then f else X.fail).p=some a) {G:Prop} (k:c→f.p=some a→G):G:=j3 h k λ_ e=>zA e
theorem aw {m:Option (Res α)} {β' γ:Type} {f:α→List AV→Option (Res β')} {res:Res β'} (e:bD m f=some res) (T:Tr w XR n M mu env r S V m t) (R:cq n FL A) (F:FS w.params M FL env mu r S s.heap)
 {V':Heap→List AV→β'→γ→Prop} {Q':γ→Shared→Prop} (P:aO w XR M mu s V' res Q' E)
 (k:∀d S1 v h' tk,f d S1=some res→ah M (b9 mu) s.heap h'→FS w.params M FL env mu r S1 h'→V h' S1 d v→aO w XR M mu (Mine.up s h' tk) V' res Q' E→Q v (Mine.up s h' tk)):wpAny (model PW w) A t Q E s:=by
 obtain⟨ra,e1,e2⟩:=bind_some e;refine T ra e1 R F ?_;cases ra with
 |exc=>exact aO.exc (Option.some.inj e2▸P)
 |ok d S1=>exactλv h' tk k1 st tv=>k d S1 v h' tk e2 k1 (F.go k1 st) tv (P.up k1)
noncomputable abbrev Er (w:World) (M:List Addr) (s:Shared) (Q:Value→Shared→Prop) (z:AV):Prop:=∀v' h' tk,aF [] s.heap h'→Rep w.params M h' z v'→Q v' (Mine.up s h' tk)
noncomputable abbrev uT (w:World) (M:List Addr) (A:Around) (s:Shared) (Q:Value→Shared→Prop) (E:Value→Shared→Prop) (o:Operator) (u v:Value) (z:AV):Prop:=Er w M s Q z→wpAny (model PW w) A (binaryOp o u v) Q E s
theorem rg {m:Option (Res α)} {g:α→List AV→Option (Res β)} {f:β→List AV→Option (Res γ)}:bD (bD m g) f=bD m λa S=>bD (g a S) f:=by
 cases m with
 |none=>rfl
 |some x=>cases x<;>rfl
noncomputable def hU (w:World) (o:Operator):Prop:=∀{x y:AV} {M:List Addr} {A:Around} {s:Shared} {u v:Value} {Q:Value→Shared→Prop} {E:Value→Shared→Prop},aq w.params M s.heap x u→aq w.params M s.heap y v→bG M s.heap→A.handled=none→bZ (uT w M A s Q E o u v) (binop o x y)
theorem cR {α:Type} {Ψ:AV→α→Prop} (x:AV) {fI:Int→α} {fS:Str→α} {fB:List UInt8→α} {fT fL:List AV→α} {fD:List AV→List AV→α} {d:α} (I:∀i,Ψ (.int i) (fI i)) (S:∀i,Ψ (.str i) (fS i)) (B:∀i,Ψ (.bytes i) (fB i)) (T:∀i,Ψ (.tup i) (fT i)) (L:∀i,Ψ (.lst i) (fL i)) (D:∀k v,Ψ (.dct k v) (fD k v)) (N:∀x,Ψ x d):Ψ x (x.cs fI fS fB fT fL fD d):=by
 cases x with
 |int i=>exact I i
 |str i=>exact S i
 |bytes i=>exact B i
 |tup i=>exact T i
 |lst i=>exact L i
 |dct k v=>exact D k v
 |_=>exact N _
theorem gQ {x:AV} {i:Int}:cy x=some i→x= .int i:=cR (Ψ:=λx m=>m=some i→x= .int i) x (λ_ e=>Option.some.inj e▸rfl) (λ_ e=>zA e) (λ_ e=>zA e) (λ_ e=>zA e) (λ_ e=>zA e) (λ_ _ e=>zA e) λ_ e=>zA e
theorem eR {x:AV} {i:Str}:fQ x=some i→x= .str i:=cR (Ψ:=λx m=>m=some i→x= .str i) x (λ_ e=>zA e) (λ_ e=>Option.some.inj e▸rfl) (λ_ e=>zA e) (λ_ e=>zA e) (λ_ e=>zA e) (λ_ _ e=>zA e) λ_ e=>zA e
theorem iI {x:AV} {i:List UInt8}:b7 x=some i→x= .bytes i:=cR (Ψ:=λx m=>m=some i→x= .bytes i) x (λ_ e=>zA e) (λ_ e=>zA e) (λ_ e=>Option.some.inj e▸rfl) (λ_ e=>zA e) (λ_ e=>zA e) (λ_ _ e=>zA e) λ_ e=>zA e
theorem fR {x:AV} {i:List AV}:sW x=some i→x= .tup i:=cR (Ψ:=λx m=>m=some i→x= .tup i) x (λ_ e=>zA e) (λ_ e=>zA e) (λ_ e=>zA e) (λ_ e=>Option.some.inj e▸rfl) (λ_ e=>zA e) (λ_ _ e=>zA e) λ_ e=>zA e
theorem ff {x:AV} {i:List AV}:mC x=some i→x= .lst i:=cR (Ψ:=λx m=>m=some i→x= .lst i) x (λ_ e=>zA e) (λ_ e=>zA e) (λ_ e=>zA e) (λ_ e=>zA e) (λ_ e=>Option.some.inj e▸rfl) (λ_ _ e=>zA e) λ_ e=>zA e
theorem iD {x:AV} {p:Nat×List Str×List AV} (h:fY x=some p):x= .inst p.1 p.2.1 p.2.2:=by
 cases x<;>first|exact Option.some.inj h▸rfl|exact zA h
theorem wk {x:AV} {i:List AV×List AV}:DD x=some i→x= .dct i.1 i.2:=cR (Ψ:=λx m=>m=some i→x= .dct i.1 i.2) x (λ_ e=>zA e) (λ_ e=>zA e) (λ_ e=>zA e) (λ_ e=>zA e) (λ_ e=>zA e) (λ_ _ e=>Option.some.inj e▸rfl) λ_ e=>zA e
theorem Eu {P:Heap} {d:AV} {v:Value} (t:aD w.params P d v):rf d=none:=by
 cases d with
 |ref _=>exact(t.out (g:=P.get?) λ_ _ e=>e).elim
 |_=>rfl
theorem ax.rep {h:Heap} {d:AV} {v:Value} (t:Rep w.params M h d v):ax w.params M mu h d v:=by
 unfold ax;rw[Eu t];exact t
theorem aO.ok {z:AV} {S':List AV} {h':Heap} {tk:Nat} {v':Value} {Q:Value→Shared→Prop} (P:aO w XR M mu s (VT w.params M mu) (.ok z S') Q E) (k:aF [] s.heap h') (st:ai w.params M s.heap S' mu) (rz:Rep w.params M h' z v'):Q v' (Mine.up s h' tk):=
 P v' h' tk k.m0 (st.keep k) (.rep rz)
theorem mX (c:Const) (k:Nat) (p:Pos):bf w XR n C (.Constant c k p):=by
 intro r S M mu env res h A s Q E FL R F P;refine gV h P (Φ:=λa=>Er w M s Q a→wpAny _ A (constValue env c) Q E s) ?_ λa h P=>h λv h' tk k=>P.ok k F.store
 cases c with
 |none=>exact .nil λP=>wpAny_pure (P _ s.heap s.toks (.refl _ _) .none)
 |bool b=>exact .nil λP=>wpAny_pure (P _ s.heap s.toks (.refl _ _) (.bool _))
 |int i=>exact .nil λP=>wpAny_mkInt (P _ s.heap _ (.refl _ _) (.int _ _))
 |str x=>exact .one λhl P=>wpAny_mkText (P _ s.heap _ (.refl _ _) (.str _ _ (of_decide_eq_true hl)))
 |bytes b=>exact .one λhl P=>wpAny_mkTextBytes (P _ s.heap _ (.refl _ _) (.bytes _ _ (of_decide_eq_true hl)))
 |_=>exact .none
theorem IA (G:mn w) (hC:C.glob=dI) {x:Str} {p:Pos} {a:AV} {Q:Value→Shared→Prop} (F:FS w.params M FL env mu r S s.heap) (h:((dm r x).bind (Fg C x))=some a) (P:∀v,ax w.params M mu s.heap a v→Q v s):wpAny (model PW w) A (eval (.Name x p) env) Q E s:=by
 obtain⟨m,hn,hx⟩:=F.names;obtain⟨b,hl,h⟩:=bind_some h;obtain⟨⟨hd,hcd⟩,q⟩:=hx x b hl;obtain⟨kd,v⟩:=b;have key:v=some a→gz .cell w.params M mu env s.heap x v→wpAny (model PW w) A (eval (.Name x p) env) Q E s:=by
  intro h ⟨kc,c,cv,e1,e2,e3,e4⟩;rw[h] at e4;obtain⟨v,rfl,t⟩:=e4;exact wpAny_Name (wpAny_loadName_cell F.kind kc e1 e3 (P _ t)) hd
 cases kd with
 |loc=>
  replace h:v=some a:=h;subst h;obtain⟨kl,v,e,t⟩:=q;exact wpAny_Name (wpAny_loadName_local F.kind kl hn e (P _ t)) hd
 |cell=>exact key h q
 |free=>exact key h q
 |glob=>
  replace h:C.glob x=some a:=h;rw[hC] at h;exact Calls.Name_function_global F.kind q ((G x a h).2 M s env A Q E F.ground F.glo F.blt λv hv=>P v (.rep hv)) hd
theorem yZ (G:mn w) (hC:C.glob=dI) (x:Str) (p:Pos):bf w XR n C (.Name x p):=λr S M mu env res h A s Q E FL R F P=>
 lR h P λa h P=>IA G hC F h λv t=>P v s.heap s.toks (.refl _ _ _) F.store t
theorem ET {a b:Expr} {o:Operator} {p:Pos} (ha:bf w XR n C a) (hb:bf w XR n C b) (ho:hU w o):bf w XR n C (.BinOp a o b p):=λr S M mu env res h A s Q E FL R F P=>
 wpAny_BinOp (aw h (ha _ _ _ _ _) R F P λx S1 u h1 tk1 h k1 F1 tx P=>aw h (hb _ _ _ _ _) R F1 P λy S2 v h2 tk2 h k2 F2 ty P=>
  gV h P (.bind λx' hx=> .bind λy' hy=>ho (s:=Mine.up s h2 tk2) (M:=M) (.of F2.store (ax.mono (F1.bL k2) tx) hx) (.of F2.store ty hy) F2.live R.handled) λa h P=>h λv' h3 tk3 k3 rz=>P.ok k3 F2.store rz)
end
set_option tactic.hygienic false
theorem iz:sizeLine=16777216:=by decide
theorem lq:ao=1000000:=rfl
theorem E4 {n:Nat} (h:n≤ao):n<sizeLine:=Nat.lt_of_le_of_lt h (by decide)
theorem jo {n:Nat} (h:n≤ao):(n:Int)<2^63:=Int.lt_of_le_of_lt (Int.ofNat_le.mpr h) (by decide)
theorem bO {n:Nat} (h:n≤ao):n≤sizeLine:=Nat.le_of_lt (E4 h)
section
variable {w:World} {M:List Addr} {h:Heap} {x y:AV} {u v:Value} {A:Around} {s:Shared} {Q:Value→Shared→Prop} {E:Value→Shared→Prop} {α:Type}
theorem ee {i:Int} (h:small i=true): -(2^62)<i∧i<2^62:=by
 unfold small at h;exact⟨of_decide_eq_true (Bool.and_eq_true_iff.mp h).1,of_decide_eq_true (Bool.and_eq_true_iff.mp h).2⟩
theorem kN {i:Int} (h:small i=true):i.natAbs<2^64:=by have:=ee h;omega
theorem ou {i:Int} (h:small i=true):Builtin.Int.intBits i≤64:=by have:=ee h;exact intBits_le_64 (by omega) (by omega)
theorem lC {i:Int} (h:small i=true):i.natAbs.log2<64:=by
 by_cases z:i.natAbs=0
 ·rw[z];decide
 ·exact(Nat.log2_lt z).mpr (kN h)
@[elab_as_elim] theorem rI {i:Int} {P:Value→Prop} (hx:aq w.params M h x u) (e:cy x=some i) (k:∀t,P (.int i t)):P u:=by
 obtain rfl:=gQ e;obtain⟨t,rfl⟩:=hx;exact k t
@[elab_as_elim] theorem rS {i:Str} {P:Value→Prop} (hx:aq w.params M h x u) (e:fQ x=some i) (k:∀t,i.length≤ao→P (.str i t)):P u:=by
 obtain rfl:=eR e;obtain⟨b,t,rfl⟩:=hx;exact k t b
@[elab_as_elim] theorem rB {i:List UInt8} {P:Value→Prop} (hx:aq w.params M h x u) (e:b7 x=some i) (k:∀t,i.length≤ao→P (.bytes i.toArray t)):P u:=by
 obtain rfl:=iI e;obtain⟨b,t,rfl⟩:=hx;exact k t b
@[elab_as_elim] theorem rT {i:List AV} {P:Value→Prop} (hx:aq w.params M h x u) (e:sW x=some i) (k:∀a vs n,(aG M h).get? a=some (bC vs n)→h.get? a=some (bC vs n)→aP w.params (aG M h) i vs.toList→i.length=vs.size→i.length≤ao→P (.ref a)):P u:=by
 obtain rfl:=fR e;obtain⟨a,vs,n,rfl,e1,r,b⟩:=hx;exact k a vs n e1 (af.mp e1).2 r (r.length.trans Array.length_toList) b
@[elab_as_elim] theorem rL {i:List AV} {P:Value→Prop} (hx:aq w.params M h x u) (e:mC x=some i) (k:∀a vs n,h.get? a=some (aV vs n)→aP w.params (aG M h) i vs.toList→i.length=vs.size→i.length≤ao→P (.ref a)):P u:=by
 obtain rfl:=ff e;obtain⟨⟨a,b⟩,rfl,e0,vs,n,e1,r,l⟩:=hx;obtain rfl:a=b:=e0;exact k a vs n e1 r (r.length.trans Array.length_toList) l
theorem wI {k:Int→Int→Option (List Bool×α)} {Φ:Value→Value→α→Prop} (hx:aq w.params M h x u) (hy:aq w.params M h y v) (H:∀a b t t',bZ (Φ (.int a t) (.int b t')) (k a b)):bZ (Φ u v) (two cy cy x y k):= .bind λa e=> .bind λb e'=>rI (P:=λu=>bZ (Φ u v) (k a b)) hx e λt=>rI (P:=λv=>bZ (Φ _ v) (k a b)) hy e' λt'=>H _ _ _ _
theorem gJ {o:Operator} {k:Int→Int→GV} (e:binop o=λx y=>two cy cy x y k) (H:∀{M A s Q E} a b t t',bZ (uT w M A s Q E o (.int a t) (.int b t')) (k a b)):hU w o:=λ{x y M A s u v Q E} hx hy lv hh=>by
 refine e.symm▸?_;exact wI (Φ:=λu v=>uT w M A s Q E o u v) hx hy H
theorem Ip:hU w .Sub:=gJ rfl λa b t t'=> .nil λK=>PyProof.Rows.sub_int (K _ _ _ (.refl _ _) (.int _ _))
theorem H4:hU w .Mod:=gJ rfl λa b t t'=> .one λc K=>PyProof.Rows.mod_int' (of_decide_eq_true c) (K _ _ _ (.refl _ _) (.int _ _))
theorem r7:hU w .FloorDiv:=gJ rfl λa b t t'=> .one λc K=>have c:=of_decide_eq_true c
 PyProof.Rows.floordiv_int c.1 (K _ _ _ (.refl _ _) (.int _ _)) (.inl (PyProof.noPylong_of_log2 (Nat.lt_trans (lC c.2) (by decide))))
theorem wM:hU w .LShift:=gJ rfl λa b t t'=> .one λc K=>have c:=of_decide_eq_true c
 PyProof.Rows.lshift_int_small c.1 (Int.le_trans c.2.1 (by decide)) (kN c.2.2.2) (K _ _ _ (.refl _ _) (.int _ _))
theorem xh:hU w .RShift:=gJ rfl λa b t t'=> .one λc K=>PyProof.Rows.rshift_int (of_decide_eq_true c).1 (K _ _ _ (.refl _ _) (.int _ _))
theorem GJ:hU w .Pow:=gJ rfl λa b t t'=> .one λc K=>have c:=of_decide_eq_true c
 PyProof.Rows.pow_int_small c.1 (by omega) (by omega) (K _ _ _ (.refl _ _) (.int _ _))
theorem wU:hU w .BitAnd:=gJ rfl λa b t t'=> .one λc K=>by
 have c:=of_decide_eq_true c;refine PyProof.Rows.and_int ?_;have e:Builtin.bitAnd a b=((a.toNat&&&b.toNat:Nat):Int):=by
  unfold Builtin.bitAnd;rw[decide_eq_true c.1,decide_eq_true c.2.1]
 refine e.symm▸?_;exact K _ _ _ (.refl _ _) (.int _ _)
theorem qJ {pr:Params} {P:Heap} {d:List AV} {v:List Value} (r:aP pr P d v):∀n,aP pr P (List.replicate n d).flatten (List.replicate n v).flatten:=by
 intro n
 induction n with
 |zero=>
  exact .nil
 |succ n ih=>
  exact r.append (ih)
theorem xw:∀(l:List (Array Value)) (a:Array Value),(List.foldl (λx1 x2=>x1++x2) a l).toList=a.toList++(l.map (·.toList)).flatten:=by
 intro l
 induction l with
 |nil=>
  intro a;exact(List.append_nil _).symm
 |cons b l ih=>
  intro a;exact by rw[List.foldl_cons,ih,Array.toList_append,List.append_assoc];rfl
theorem dY {pr:Params} {M:List Addr} {h:Heap} (l:bG M h) {ds:List AV} {vs:Array Value} (r:aP pr (aG M h) ds vs.toList) (b:ds.length≤ao):Rep pr M (h.push (aV vs 0)) (.lst ds) (.ref h.objs.size):=
 .lst (oL l rfl) (aP.mono ((aH [] h _).aG λ_ m=>zE m) r) b
theorem ig {pr:Params} {M:List Addr} {h:Heap} (l:bG M h) {ds:List AV} {vs:Array Value} (r:aP pr (aG M h) ds vs.toList) (b:ds.length≤ao):Rep pr M (h.push (bC vs 0)) (.tup ds) (.ref h.objs.size):=
 .tup (oL l rfl) (aP.mono ((aH [] h _).aG λ_ m=>zE m) r) b
theorem GO {a b:List AV} {p q:Addr} {vs ws:Array Value} {n k:Nat} (e1':(aG M s.heap).get? p=some (bC vs n)) (r1:aP w.params (aG M s.heap) a vs.toList) (b1:a.length≤ao) (e2':(aG M s.heap).get? q=some (bC ws k)) (r2:aP w.params (aG M s.heap) b ws.toList) (b2:b.length≤ao) (lv:bG M s.heap) (c:a.length+b.length≤ao):
 uT w M A s Q E .Add (.ref p) (.ref q) (.tup (a++b)):=λK=>by
 have e1:=(af.mp e1').2;have e2:=(af.mp e2').2;have l1:a.length=vs.size:=r1.length.trans Array.length_toList;have l2:b.length=ws.size:=r2.length.trans Array.length_toList;by_cases hv:vs.isEmpty=true
 ·refine concat_meets ⟨_,e1,rfl⟩ ⟨_,e2,rfl⟩ noFill_tuple_add seq_tuple_add PySem.F.slot_tuple_add PySem.F.entry_tuple_add (PySem.F.args_tuple_add_2 _ _) (tuple_addW0 p q vs ws n k none none #[] #[] hv) ⟨e1,e2,?_⟩;have:a=[]:=List.eq_nil_of_length_eq_zero (l1.trans (Array.isEmpty_iff_size_eq_zero.mp hv));rw[this] at K;exact K _ s.heap s.toks (.refl _ _) (.tup e2' r2 b2)
 ·by_cases hw:ws.isEmpty=true
  ·refine concat_meets ⟨_,e1,rfl⟩ ⟨_,e2,rfl⟩ noFill_tuple_add seq_tuple_add PySem.F.slot_tuple_add PySem.F.entry_tuple_add (PySem.F.args_tuple_add_2 _ _) (tuple_addW1 p q vs ws n k none none #[] #[] hv hw) ⟨e1,e2,?_⟩;have:b=[]:=List.eq_nil_of_length_eq_zero (l2.trans (Array.isEmpty_iff_size_eq_zero.mp hw));rw[this,List.append_nil] at K;exact K _ s.heap s.toks (.refl _ _) (.tup e1' r1 b1)
  ·refine concat_meets ⟨_,e1,rfl⟩ ⟨_,e2,rfl⟩ noFill_tuple_add seq_tuple_add PySem.F.slot_tuple_add PySem.F.entry_tuple_add (PySem.F.args_tuple_add_2 _ _) (tuple_addW2 p q vs ws n k none none #[] #[] hv hw (bO (l1▸l2▸c))) ⟨e1,e2,?_⟩;refine K _ (s.heap.push (bC (vs++ws) 0)) s.toks (aH _ _ _) (ig lv ?_ (by rw[List.length_append];exact c));rw[Array.toList_append];exact r1.append r2
theorem Iy {a b:List AV} {p q:Addr} {vs ws:Array Value} {n k:Nat} (e1:s.heap.get? p=some (aV vs n)) (r1:aP w.params (aG M s.heap) a vs.toList) (l1:a.length=vs.size) (e2:s.heap.get? q=some (aV ws k)) (r2:aP w.params (aG M s.heap) b ws.toList) (l2:b.length=ws.size) (lv:bG M s.heap) (c:(a++b).length≤ao):uT w M A s Q E .Add (.ref p) (.ref q) (.lst (a++b)):=λK=>
 concat_meets ⟨_,e1,rfl⟩ ⟨_,e2,rfl⟩ noFill_list_add seq_list_add PySem.F.slot_list_add PySem.F.entry_list_add (PySem.F.args_list_add_2 _ _) (list_addW p q vs ws n k none none #[] #[] (bO (l1▸l2▸List.length_append (as:=a)▸c))) ⟨e1,e2,
  K _ (s.heap.push (aV (vs++ws) 0)) s.toks (aH _ _ _) (dY lv (by rw[Array.toList_append];exact r1.append r2) c)⟩
theorem Gv:hU w .Add:=λ{x y M A s u v Q E} hx hy lv hh=>by
 refine cR (Ψ:=λx g=>aq w.params M s.heap x u→bZ (uT w M A s Q E .Add u v) g) x ?_ ?_ ?_ ?_ ?_ (λ_ _ _=> .none) (λ_ _=> .none) hx
 ·exactλa hx=> .bind λb e=> .nil λK=>rI hx rfl λt=>rI hy e λt'=>PyProof.Rows.add_int (K _ _ _ (.refl _ _) (.int _ _))
 ·exactλa hx=> .bind λb e=> .one λc K=>rS hx rfl λt _=>rS hy e λt' _=>PyProof.Rows.add_str (λt' tk=>K _ s.heap _ (.refl _ _) (.str _ _ (of_decide_eq_true c))) (bO (Str.length_append a b▸of_decide_eq_true c))
 ·exactλa hx=> .bind λb e=> .one λc K=>rB hx rfl λt _=>rB hy e λt' _=>PySem.W.KBy.add_bytes (bO (List.length_append (as:=a)▸of_decide_eq_true c)) λt' k=>by
   rw[List.append_toArray];exact K _ s.heap _ (.refl _ _) (.bytes _ _ (of_decide_eq_true c))
 ·exactλa hx=> .bind λb e=> .one λc=>rT hx rfl λp vs n e1 _ r1 _ b1=>rT hy e λq ws k e2 _ r2 _ b2=>GO e1 r1 b1 e2 r2 b2 lv (of_decide_eq_true c)
 ·exactλa hx=> .bind λb e=> .one λc K=>rL hx rfl λp vs n e1 r1 l1 _=>rL hy e λq ws k e2 r2 l2 _=>Iy e1 r1 l1 e2 r2 l2 lv (of_decide_eq_true c) K
theorem Gj {a:List AV} {n:Int} {p:Addr} {vs:Array Value} {k:Nat} {t:Tok} (e1:s.heap.get? p=some (aV vs k)) (r1:aP w.params (aG M s.heap) a vs.toList) (l1:a.length=vs.size) (lv:bG M s.heap) (c1:a.length=1) (c2:n≤1000) (c3:small n=true):
 uT w M A s Q E .Mult (.ref p) (.int n t) (.lst ((List.replicate n.toNat a).flatten)):=λK=>by
 have hz:vs.size=1:=l1.symm.trans c1;have hn:vs.isEmpty=false:=by rw[Array.isEmpty,hz];rfl
 have c4:=ee c3;refine wpAny_binaryOp_repeat_ref (T:="list") (U:="int") (by decide) ⟨_,e1,rfl⟩ (λs'=>typeIs_int s' n t) noFill_list_mul PySem.F.fills_int_mul PySem.F.slot_int_rmul repeat_list PySem.F.slot_int_index.lookup
  (call_meets PySem.F.slot_int_rmul (typeIs_int s n t) PySem.F.entry_int_rmul (PySem.F.args_int_rmul_2 _ _) (int___rmul___int_list n t p vs k)
   ⟨e1,rfl,⟨_,e1,rfl⟩,call_meets PySem.F.slot_list_mul ⟨_,e1,rfl⟩ PySem.F.entry_list_mul (PySem.F.args_list_mul_2 _ _)
    (AutoListH.list___mul___list_int_3 p vs k n t (by simp [Builtin.List.listFitsIndex];omega) (by rw[hz];omega) (by rw[hz];simp [Builtin.List.listTooLong,sizeLine];lia))
    ⟨e1,?_⟩⟩)
 refine K _ (s.heap.push _) s.toks (aH _ _ _) (dY lv ?_ ?_)
 ·rw[xw,hn,List.map_replicate];exact qJ r1 _
 ·rw[List.length_flatten,List.map_replicate,List.sum_replicate_nat,c1,lq];omega
theorem DJ:hU w .Mult:=λ{x y M A s u v Q E} hx hy lv hh=>by
 refine cR (Ψ:=λx g=>aq w.params M s.heap x u→bZ (uT w M A s Q E .Mult u v) g) x ?_ (λ_ _=> .none) (λ_ _=> .none) (λ_ _=> .none) ?_ (λ_ _ _=> .none) (λ_ _=> .none) hx
 ·exactλa hx=> .bind λb e=> .one λc K=>rI hx rfl λt=>rI hy e λt'=>PyProof.Rows.mul_int (K _ _ _ (.refl _ _) (.int _ _)) ((Bool.or_eq_true_iff.mp c).elim (λc=> .of_left (ou c)) λc=> .of_right (ou c))
 ·exactλa hx=> .bind λn e=> .one λc=>have c:=Bool.and_eq_true_iff.mp c
   rL hx rfl λp vs k e1 r1 l1 _=>rI hy e λt'=>Gj e1 r1 l1 lv (of_decide_eq_true c.1).1 (of_decide_eq_true c.1).2 c.2
theorem H9 (o:Operator):hU w o:=by
 cases o with
 |Add=>exact Gv
 |Sub=>exact Ip
 |Mult=>exact DJ
 |Mod=>exact H4
 |FloorDiv=>exact r7
 |LShift=>exact wM
 |RShift=>exact xh
 |Pow=>exact GJ
 |BitAnd=>exact wU
 |_=>exactλ_ _ _ _=> .none
end
set_option tactic.hygienic false
noncomputable abbrev cw (pr:Params) (M:List Addr) (mu:Mu) (h:Heap):List AV→List Value→Prop:=F2 (ax pr M mu h)
noncomputable abbrev VL (pr:Params) (M:List Addr) (mu:Mu):Heap→List AV→List AV→List Value→Prop:=λh _ d v=>cw pr M mu h d v
section
variable (w:World) (XR:i7) (n:Nat) (C:ay)
noncomputable def nG (e:Expr):Prop:=∀r S M mu env,Tr w XR n M mu env r S VB (dT C e r S).p (isTrue e env (eval e env))
noncomputable def qc (o:BoolOp) (es:List Expr):Prop:=∀r S M mu env,Tr w XR n M mu env r S VB (kJ C o es r S).p (allTrue o es env)
noncomputable def kP (o:BoolOp) (es:List Expr):Prop:=∀r S M mu env pos,Tr w XR n M mu env r S (VT w.params M mu) (yg C o es r S).p (boolOp pos o (evalEach es env))
noncomputable def g7 (es:List Expr):Prop:=∀r S M mu env pos,Tr w XR n M mu env r S (VL w.params M mu) (Fl C es r S).p (spliced (backTo pos (starEach es env)))
noncomputable def iY (es:List Expr):Prop:=∀⦃ops x r S res⦄,(tc C es ops x r S).p=some res→oE ops es=true→∀{M mu env A s E u pos FL},cq n FL A→FS w.params M FL env mu r S s.heap→ax w.params M mu s.heap x u→
 (∀{Q},aO w XR M mu s VB res Q E→wpAny (model PW w) A (testChain pos u ops (evalEach es env)) Q E s)∧
 (∀{Q},aO w XR M mu s TY res Q E→wpAny (model PW w) A (compareChain pos u ops (evalEach es env)) Q E s)
noncomputable def Ey:Prop:=∀{o:CmpOp} {x y:AV} {M:List Addr} {A:Around} {s:Shared} {u v:Value} {Q:Value→Shared→Prop} {E:Value→Shared→Prop} {FL:List Env},aq w.params M s.heap x u→aq w.params M s.heap y v→bG M s.heap→cq n FL A→
 bZ (λb=>(∀h' tk,aF [] s.heap h'→Q (.bool b) (up s h' tk))→wpAny (model PW w) A (compareOp o u v) Q E s) (cmp o x y)
end
section
variable {w:World} {XR:i7} {n:Nat} {C:ay} {M:List Addr} {mu:Mu} {h h':Heap} {s:Shared} {S':List AV} {E:Value→Shared→Prop} {A:Around} {FL:List Env} {env:Env} {r:Loc} {S:List AV}
theorem cw.mono (g:Ge (aG M h) (aG M h')) {ds:List AV} {vs:List Value} (t:cw w.params M mu h ds vs):cw w.params M mu h' ds vs:=F2.mono (λ_ _=>ax.mono g) t
theorem cK {d:AV} {ds:List AV} (f:fG (d::ds)=true):flat d=true∧fG ds=true:=Bool.and_eq_true_iff.mp f
theorem cw.rep {ds:List AV} {vs:List Value} (t:cw w.params M mu h ds vs) (f:fG ds=true):aP w.params (aG M h) ds vs:=by
 induction t with
 |nil=>exact .nil
 |cons a _ ih=>exact .cons ((ax.bo (cK f).1).mp a) (ih (cK f).2)
theorem xt {α β:Type} {l:List α} {m:Array β} (e:l.length=m.size):m.isEmpty=l.isEmpty:=by
 rw[Bool.eq_iff_iff,Array.isEmpty_iff_size_eq_zero,List.isEmpty_iff_length_eq_zero,e]
theorem vM {x:AV} {b:Bool} (e:truth x=some b) {v:Value} (t:aq w.params M s.heap x v) {Q:Bool→Shared→Prop} (h:∀tk,Q b (up s s.heap tk)):wpAny (model PW w) A (truthy v) Q E s:=by
 cases x with
 |bool b'=>obtain rfl:=Option.some.inj e;obtain rfl:v=_:=t;exact wpAny_truthy_bool (h s.toks)
 |lst l=>
  obtain rfl:=Option.some.inj e;exact rL t rfl λa vs n e1 r1 hl c=>wpAny_truthy_list (items:=vs) ⟨_,e1,rfl,n,rfl⟩ (jo (hl▸c)) (xt hl▸h _)
 |_=>exact zA e
theorem aO.bool {b:Bool} {Q:Bool→Shared→Prop} (P:aO w XR M mu s VB (.ok b S') Q E) (st:ai w.params M s.heap S' mu) (tk:Nat):Q b (Mine.up s s.heap tk):=
 P b s.heap tk (ah.refl _ _ _) st rfl
theorem aO.here {α β:Type} {V:Heap→List AV→α→β→Prop} {Q:β→Shared→Prop} {a:α} {b:β} (P:aO w XR M mu s V (.ok a S') Q E) (st:ai w.params M s.heap S' mu) (v:V s.heap S' a b):Q b s:=P b s.heap s.toks (ah.refl _ _ _) st v
theorem iC {α:Type} {b:Bool} {m k:X α} {a:α} (h:(X.br b m k).p=some a) {G:Prop} (h1:b=true→m.p=some a→G) (h2:b=false→k.p=some a→G):G:=by
 cases b with
 |true=>exact h1 rfl h
 |false=>exact h2 rfl h
theorem L9 {α β:Type} {m:Option α} {f:α→List AV→Option (Res β)} {res:Res β} (h:bD (pR m S).p f=some res):∃a,m=some a∧f a S=some res:=by
 refine cps λG kf=> ?_
 obtain⟨ra,e1,e2⟩:=bind_some h;obtain⟨a,e3,e4⟩:=bind_some e1;obtain rfl:=Option.some.inj e4;refine kf ?_;exact⟨a,e3,e2⟩
theorem J9 {α β:Type} {m:Option (List Bool×α)} {f:α→List AV→Option (Res β)} {res:Res β} (h:bD (gR m S).p f=some res) {Φ:α→Prop} (k:bZ Φ m) {G:Prop} (l:∀a,Φ a→f a S=some res→G):G:=by
 obtain⟨ra,e1,e2⟩:=bind_some h;obtain⟨a,e3,e4⟩:=bind_some e1;obtain⟨h1,rfl⟩:=uE e4;exact l _ (k _ e3 h1) e2
theorem tY {x:AV} {b:Bool} {u:Value} {Q:Bool→Shared→Prop} (F:FS w.params M FL env mu r S s.heap) (tx:ax w.params M mu s.heap x u) (e:(bK S x).bind truth=some b) (k:∀tk,Q b (up s s.heap tk)):wpAny (model PW w) A (truthy u) Q E s:=by
 obtain⟨x',hx,hb⟩:=bind_some e;exact vM hb (aq.of F.store tx hx) k
theorem rY {e:Expr} {m:Option (Res AV)} (hm:∀M mu env,Tr w XR n M mu env r S (VT w.params M mu) m (eval e env)) (he:∀env whole,isTrue e env whole=(do let v←whole;standAt e.pos;holding [v] (truthy v))) (M mu env):Tr w XR n M mu env r S VB (bD m λv S=>(pR ((bK S v).bind truth) S).p) (isTrue e env (eval e env)):=λres h A s Q E FL R F P=>
 wpAny_isTrue_value (aw h (hm _ _ _) R F P λx S1 u h1 tk1 h k1 F1 tx P=>lR h P λb h P=>tY F1 tx h λtk=>P.bool F1.store tk) (he _ _)
theorem Lq {a:Expr} {p:Pos} (ha:bf w XR n C a):bf w XR n C (.UnaryOp .Not a p):=λr S M mu env res h A s Q E FL R F P=>
 wpAny_UnaryOp (aw h (ha _ _ _ _ _) R F P λx S1 u h1 tk1 h k1 F1 tx P=>not_value (lR h P λz h P=>by
  obtain⟨b,hb,rfl⟩:=Option.map_eq_some_iff.mp h;exact tY F1 tx hb λtk=>P.ok (.refl _ _) F1.store (.bool _)))
@[elab_as_elim] theorem top_int {x:AV} {i:Int} {u:Value} {P:Value→Prop} (tx:ax w.params M mu h x u) (e:cy x=some i) (k:∀t,P (.int i t)):P u:=by
 obtain rfl:=gQ e;obtain⟨t,rfl⟩:=aD.out tx (g:=h.get?) λ_ _ e=>(af.mp e).2
 exact k t
theorem HG {a:Expr} {p:Pos} (ha:bf w XR n C a):bf w XR n C (.UnaryOp .USub a p):=λr S M mu env res h A s Q E FL R F P=>
 wpAny_UnaryOp (aw h (ha _ _ _ _ _) R F P λx S1 u h1 tk1 h k1 F1 tx P=>lR h P λz h P=>by
  obtain⟨i,hi,rfl⟩:=Option.map_eq_some_iff.mp h;exact top_int tx hi λt=>PyProof.Rows.neg_int (P.ok (.refl _ _) F1.store (.int _ _)))
theorem N0 {a:Expr} {p:Pos} (ha:nG w XR n C a):nG w XR n C (.UnaryOp .Not a p):=λr S M mu env res h A s Q E FL R F P=>
 wpAny_isTrue_Not (aw h (ha _ _ _ _ _) R F P λx S1 u h1 tk1 h k1 F1 tx P=>by
  obtain rfl:u=x:=tx;exact(aZ h P).bool F1.store _)
theorem D3 {o:BoolOp} {es:List Expr} {p:Pos} (ha:qc w XR n C o es):nG w XR n C (.BoolOp o es p):=λr S M mu env res h A s Q E FL R F P=>
 wpAny_isTrue_BoolOp (ha _ _ _ _ _ _ h R F P)
theorem C9 {o:BoolOp}:qc w XR n C o []:=λr S M mu env res h A s Q E FL R F P=>by
 cases o
 ·exact wpAny_allTrue_And_nil ((aZ h P).bool F.store s.toks)
 ·exact wpAny_allTrue_Or_nil ((aZ h P).bool F.store s.toks)
theorem zX {o:BoolOp} {e:Expr} {es:List Expr} (he:nG w XR n C e) (hes:qc w XR n C o es):qc w XR n C o (e::es):=λr S M mu env res h A s Q E FL R F P=>by
 cases o with
 |And=>exact wpAny_allTrue_And_cons (aw h (he _ _ _ _ _) R F P λx S1 u h1 tk1 h k1 F1 tx P=>by
  obtain rfl:u=x:=tx;exact iC h (λe h=>by subst e;exact hes _ _ _ _ _ _ h R F1 P) λe h=>by subst e;exact(aZ h P).bool F1.store _)
 |Or=>exact wpAny_allTrue_Or_cons (aw h (he _ _ _ _ _) R F P λx S1 u h1 tk1 h k1 F1 tx P=>by
  obtain rfl:u=x:=tx;exact iC h (λe h=>by subst e;exact(aZ h P).bool F1.store _) λe h=>by subst e;exact hes _ _ _ _ _ _ h R F1 P)
theorem w6 {o:BoolOp} {e:Expr} {es:List Expr} (he:bf w XR n C e) (hes:kP w XR n C o es):kP w XR n C o (e::es):=λr S M mu env pos res h A s Q E FL R F P=>by
 cases es with
 |nil=>exact aw h (he _ _ _ _ _) R F P λx S1 u h1 tk1 h k1 F1 tx P=>(aZ h P).here F1.store tx
 |cons e' es=>
  show wpAny _ A (do
   let v←eval e env
   standAt pos
   let t←holding [v] (truthy v)
   match o,t with
   | .And,false| .Or,true=>pure v
   |_,_=>boolOp pos o (evalEach (e'::es) env)) Q E s
  refine wpAny_bind (aw h (he _ _ _ _ _) R F P λx S1 u h1 tk1 h k1 F1 tx P=>wpAny_bind (wpAny_standAt (wpAny_bind (wpAny_holding ?_))));obtain⟨b,hb,h⟩:=L9 h;refine tY F1 tx hb λtk=> ?_
  have hP:=P.up (h:=h1) (tk:=tk) (.refl _ _ _);cases o with
  |And=>exact iC h (λe h=>by subst e;exact hes _ _ _ _ _ _ _ h R F1 hP) λe h=>by subst e;exact wpAny_pure ((aZ h hP).here F1.store tx)
  |Or=>exact iC h (λe h=>by subst e;exact wpAny_pure ((aZ h hP).here F1.store tx)) λe h=>by subst e;exact hes _ _ _ _ _ _ _ h R F1 hP
theorem zU {o:BoolOp}:kP w XR n C o []:=λr S M mu env pos res h=>zA h
theorem zZ {o:BoolOp} {es:List Expr} {p:Pos} (ha:kP w XR n C o es):bf w XR n C (.BoolOp o es p):=λr S M mu env res h A s Q E FL R F P=>ha _ _ _ _ _ _ _ h R F P
theorem CD {t a b:Expr} {p:Pos} (ht:nG w XR n C t) (ha:bf w XR n C a) (hb:bf w XR n C b):bf w XR n C (.IfExp t a b p):=λr S M mu env res h A s Q E FL R F P=>
 wpAny_IfExp (aw h (ht _ _ _ _ _) R F P λx S1 u h1 tk1 h k1 F1 tx P=>by
  obtain rfl:u=x:=tx;exact iC h (λe h=>by subst e;exact ha _ _ _ _ _ _ h R F1 P) λe h=>by subst e;exact hb _ _ _ _ _ _ h R F1 P)
theorem GA {t a b:Expr} {p:Pos} (ht:nG w XR n C t) (ha:nG w XR n C a) (hb:nG w XR n C b):nG w XR n C (.IfExp t a b p):=λr S M mu env res h A s Q E FL R F P=>by
 show wpAny _ A (do if←isTrue t env (eval t env) then isTrue a env (eval a env) else isTrue b env (eval b env)) Q E s;exact wpAny_bind (aw h (ht _ _ _ _ _) R F P λx S1 u h1 tk1 h k1 F1 tx P=>by
  obtain rfl:u=x:=tx;exact iC h (λe h=>by subst e;exact ha _ _ _ _ _ _ h R F1 P) λe h=>by subst e;exact hb _ _ _ _ _ _ h R F1 P)
theorem Ac:iY w XR n C []:=λops x r S res h=>zA h
theorem gW:∀{ops:List CmpOp} {es:List Expr},oE ops es=true→lastMarks ops es=false
 |[],_,h=>zC h
 |_::_,[],h=>zC h
 |[o],e::es,h=>by
  have h:=Bool.and_eq_true_iff.mp h;obtain rfl:=List.isEmpty_iff.mp h.1;show behindInMarks o e=false;cases e<;>first|rfl|exact zC h.2
 |_::o::os,e::es,h=>by
  cases es with
  |nil=>exact zC h
  |cons e' es=>exact gW (ops:=o::os) (es:=e'::es) h
theorem sS (K:Ey w n) {o:CmpOp} {x y:AV} {β:Type} {f:Bool→List AV→Option (Res β)} {res:Res β} (h:bD (gR ((bK S x).bind λx=>(bK S y).bind λy=>cmp o x y) S).p f=some res) (R:cq n FL A) (F:FS w.params M FL env mu r S s.heap) {u v:Value} (tx:ax w.params M mu s.heap x u) (ty:ax w.params M mu s.heap y v) {Q:Value→Shared→Prop}
 (k:∀b h' tk,f b S=some res→ah M (b9 mu) s.heap h'→FS w.params M FL env mu r S h'→Q (.bool b) (up s h' tk)):wpAny (model PW w) A (compareOp o u v) Q E s:=
 J9 h (.bind λx' hx=> .bind λy' hy=>K (M:=M) (.of F.store tx hx) (.of F.store ty hy) F.live R) λb h e=>h λh' tk k'=>k b h' tk e k'.m0 (F.go k'.m0 (F.store.keep k'))
theorem wA (K:Ey w n) {e:Expr} {es:List Expr} (he:bf w XR n C e) (hes:iY w XR n C es):iY w XR n C (e::es):=by
 intro ops x r S res h hn M mu env A s E u pos FL R F tu;cases ops with
 |nil=>exact zC hn
 |cons o os=>
 cases os with
 |nil=>
  obtain rfl:=List.isEmpty_iff.mp (Bool.and_eq_true_iff.mp hn).1;exact⟨λP=>test_last (aw h (he _ _ _ _ _) R F P λy S1 v h1 tk1 h k1 F1 ty P=>sS K h R F1 (ax.mono (F.bL k1) tu) ty λb h' tk h k F2=>wpAny_truthy_bool (((aZ h P).up k).here F2.store rfl)),
   λP=>chain_last (aw h (he _ _ _ _ _) R F P λy S1 v h1 tk1 h k1 F1 ty P=>sS K h R F1 (ax.mono (F.bL k1) tu) ty λb h' tk h k F2=>((aZ h P).up k).here F2.store rfl)⟩
 |cons o' os=>
  cases es with
  |nil=>exact zC hn
  |cons e' es=>
   exact⟨λP=>test_link (aw h (he _ _ _ _ _) R F P λy S1 v h1 tk1 h k1 F1 ty P=>sS K h R F1 (ax.mono (F.bL k1) tu) ty λb h' tk h k F2=>wpAny_truthy_bool (iC h (λe h=>by subst e;exact(hes h hn (s:=up s h' tk) R F2 (ax.mono (F1.bL k) ty)).1 (P.up (s:=up s h1 tk1) k)) λe h=>by subst e;exact((aZ h P).up k).here F2.store rfl)),
    λP=>chain_link (aw h (he _ _ _ _ _) R F P λy S1 v h1 tk1 h k1 F1 ty P=>sS K h R F1 (ax.mono (F.bL k1) tu) ty λb h' tk h k F2=>wpAny_truthy_bool (iC h (λe h=>by subst e;exact(hes h hn (s:=up s h' tk) R F2 (ax.mono (F1.bL k) ty)).2 (P.up (s:=up s h1 tk1) k)) λe h=>by subst e;exact((aZ h P).up k).here F2.store rfl))⟩
theorem xT {l:Expr} {ops:List CmpOp} {cs:List Expr} {p:Pos} (hl:bf w XR n C l) (hc:iY w XR n C cs):bf w XR n C (.Compare l ops cs p):=λr S M mu env res h A s Q E FL R F P=>by
 rw[arm_eval_Compare];refine wpAny_bind (aw h (hl _ _ _ _ _) R F P λx S1 u h1 tk1 h k1 F1 tx P=>aQ h λhn h=> ?_);rw[markedEach_of_false _ _ _ (gW hn)];refine cps λG kf=> ?_
 obtain⟨ra,e1,e2⟩:=bind_some h;refine kf ?_;refine(hc e1 hn (s:=up s h1 tk1) R F1 tx).2 ?_;cases ra with
 |exc=>exact aO.exc (Option.some.inj e2▸P)
 |ok b S2=>exactλv h' tk k st t=>aZ e2 P v h' tk k st (.rep (by rw[show v= .bool b from t];exact .bool _))
theorem zf {l:Expr} {ops:List CmpOp} {cs:List Expr} {p:Pos} (hl:bf w XR n C l) (hc:iY w XR n C cs):nG w XR n C (.Compare l ops cs p):=λr S M mu env res h A s Q E FL R F P=>by
 rw[arm_isTrue_Compare];refine wpAny_bind (aw h (hl _ _ _ _ _) R F P λx S1 u h1 tk1 h k1 F1 tx P=>aQ h λhn h=> ?_);refine(markedEach_of_false _ _ _ (gW hn)).symm▸?_;exact(hc h hn (s:=up s h1 tk1) R F1 tx).1 P
theorem yq:g7 w XR n C []:=λr S M mu env pos res h A s Q E FL R F P=>wpAny_items_nil ((aZ h P).here F.store .nil)
theorem xB {e:Expr} {ra:Res AV} (h:(dE C e r S).p=some ra) (es:List Expr) (env:Env):starEach (e::es) env=(false,eval e env)::starEach es env:=by
 cases e<;>first|rfl|exact zA h
theorem oG {e:Expr} {es:List Expr} (he:bf w XR n C e) (hes:g7 w XR n C es):g7 w XR n C (e::es):=λr S M mu env pos res h A s Q E FL R F P=>by
 obtain⟨ra,hq,_⟩:=bind_some h;refine wpAny_items_cons (aw h (he _ _ _ _ _) R F P λx S1 u h1 tk1 h k1 F1 tx P=> ?_) (xB hq es env);obtain⟨rb,e1,e2⟩:=bind_some h;refine hes _ _ _ _ _ _ _ e1 (s:=up s h1 tk1) R F1 ?_;cases rb with
 |exc=>exact aO.exc (Option.some.inj e2▸P)
 |ok ds S2=>exactλv h' tk k st t=>aZ e2 P _ h' tk k st (.cons (ax.mono (F1.bL k) tx) t)
theorem Gb {es:List Expr} {p:Pos} (hes:g7 w XR n C es):bf w XR n C (.List es p):=λr S M mu env res h A s Q E FL R F P=>
 wpAny_List (aw h (hes _ _ _ _ _ _) R F P λds S1 vs h1 tk1 h k1 F1 tx P=>aQ h λf h=>have rl:=cw.rep tx f
  gV h P (Φ:=λz=>ds.length≤ao∧Rep w.params M (h1.push (aV vs.toArray 0)) z (.ref h1.objs.size)) (.one λc=>⟨of_decide_eq_true c,dY F1.live rl (of_decide_eq_true c)⟩) λz hz P=>⟨rl.length▸bO hz.1,P.ok (s:=up s h1 tk1) (aH _ _ _) F1.store hz.2⟩)
theorem u3 {es:List Expr} {k:Nat} {p:Pos} (hes:g7 w XR n C es):bf w XR n C (.Tuple es k p):=λr S M mu env res h A s Q E FL R F P=>
 wpAny_Tuple (aw h (hes _ _ _ _ _ _) R F P λds S1 vs h1 tk1 h k1 F1 tx P=>aQ h λf h=>have rl:=cw.rep tx f
  gV h P (Φ:=λz=>ds.length≤ao∧Rep w.params M (h1.push (bC vs.toArray 0)) z (.ref h1.objs.size)) (.one λc=>⟨of_decide_eq_true c,ig F1.live rl (of_decide_eq_true c)⟩) λz hz P=>⟨rl.length▸bO hz.1,P.ok (s:=up s h1 tk1) (aH _ _ _) F1.store hz.2⟩)
end
set_option tactic.hygienic false
open PySem.Builtin
section
variable {b p:Array UInt8} {t u:Tok} {w:World} {A:Around} {E:Value→Shared→Prop} {s:Shared}
theorem p9:typeLookup (.type "bytes") "__index__"=pure none:=by rw[typeLookup_type,builtinLookup_eq_fast];kernel_rfl
theorem zV {n:Nat} {Q:String→Shared→Prop} (h:Q "bytes" s):wpAny (model PW w) A (typeNameOfCut n (.bytes b t)) Q E s:=by
 unfold typeNameOfCut shownTypeOf;refine wpAny_bind (wpAny_bind (wpAny_typeOf (typeIs_bytes _ b t) ?_));dsimp only[show(Value.type "bytes"==Value.type "builtin_function_or_method")=false by decide,Bool.false_eq_true,if_false];refine wpAny_pure ?_;rw[show typeNameCut n (.type "bytes")=typeName (.type "bytes") from rfl,show typeName (.type "bytes")=pure "bytes" from by kernel_rfl];exact wpAny_pure h
theorem qn {Q:Int→Shared→Prop} (hh:A.handled=none) (h:∀h' tk e,Heap.NewExc s.heap h' e "TypeError"→E (.ref e) {s with heap:=h',toks:=tk}):wpAny (model PW w) A (asIndex (.bytes b t)) Q E s:=by
 unfold asIndex;refine wpAny_bind (wpAny_of_eq (a:=none) rfl ?_);refine wpAny_bind (wpAny_callSpecial?_none (typeIs_bytes _ b t) p9 ?_);refine wpAny_bind (zV ?_)
 exact_raiseError plainExc_TypeError hh h
theorem pN {i:Int} {Q:Bool→Shared→Prop} (h0:0≤i) (h1:i<256) (h:Q (b.contains i.toNat.toUInt8) s):wpAny (model PW w) A (Bytes.containsIn "bytes.__contains__" (.bytes b t) (.int i u)) Q E s:=by
 unfold Bytes.containsIn;refine wpAny_bind (wpAny_attempt (wpAny_of_eq (a:=i) rfl ?_));refine wpAny_bind (wpAny_of_eq KBy.buffer_eq ?_);dsimp only;rw[if_neg (by simp;omega)];exact wpAny_pure h
theorem lQ {Q:Bool→Shared→Prop} (hh:A.handled=none) (h:∀h' tk,aF [] s.heap h'→Q (Bytes.find? b p 0 b.size).isSome (up s h' tk)):wpAny (model PW w) A (Bytes.containsIn "bytes.__contains__" (.bytes b t) (.bytes p u)) Q E s:=by
 unfold Bytes.containsIn;refine wpAny_bind (wpAny_attempt (qn hh λh' tk e ne=> ?_));refine wpAny_bind (wpAny_of_eq KBy.buffer_eq ?_);refine wpAny_bind (wpAny_of_eq KBy.buffer_eq ?_);exact wpAny_bind (wpAny_rule (wpAny_pure (h h' tk λb o _ e=>ne.keeps b o e)))
theorem je {x:Value} {r:Bool} (H:∀{A:Around} {s:Shared} {Q:Bool→Shared→Prop} {E:Value→Shared→Prop},A.handled=none→(∀h' tk,aF [] s.heap h'→Q r (up s h' tk))→wpAny (model PW w) A (Bytes.containsIn "bytes.__contains__" (.bytes b t) x) Q E s)
 {Q:Value→Shared→Prop} (hh:A.handled=none):((∀h' tk,aF [] s.heap h'→Q (.bool r) (up s h' tk))→wpAny (model PW w) A (compareOp .In x (.bytes b t)) Q E s)∧((∀h' tk,aF [] s.heap h'→Q (.bool (!r)) (up s h' tk))→wpAny (model PW w) A (compareOp .NotIn x (.bytes b t)) Q E s):=by
 constructor
 ·intro K;refine In_slot (typeIs_bytes _ _ _) FB.slot_bytes_contains (wpAny_call_entry FB.slot_bytes_contains (typeIs_bytes _ _ _) FB.entry_bytes_contains ?_ (FB.args_bytes_contains_2 _ _));show wpAny _ _ (Bytes.containsIn "bytes.__contains__" (.bytes b t) x>>=λr=>ret (.bool r)) _ _ s;exact wpAny_bind (H (A:=A.in1) hh λh' tk k=>wpAny_pure ⟨_,rfl,wpAny_truthy_bool (K h' tk k)⟩)
 ·intro K;refine NotIn_slot (typeIs_bytes _ _ _) FB.slot_bytes_contains (wpAny_call_entry FB.slot_bytes_contains (typeIs_bytes _ _ _) FB.entry_bytes_contains ?_ (FB.args_bytes_contains_2 _ _));show wpAny _ _ (Bytes.containsIn "bytes.__contains__" (.bytes b t) x>>=λr=>ret (.bool r)) _ _ s;exact wpAny_bind (H (A:=A.in1) hh λh' tk k=>wpAny_pure ⟨_,rfl,wpAny_truthy_bool (K h' tk k)⟩)
end
set_option tactic.hygienic false
section
variable {w:World} {n:Nat} {FL:List Env}
structure fO (w:World) (K:Type) [DecidableEq K] where
 knd:KeyKind PW w K
 inj:K→AV
 val:K→Tok→Value
 good:∀k t,knd.is k (val k t)=true
 yG:∀a b,yG (inj a) (inj b)=decide (a=b)
 rep:∀{P:Heap} {k:K} {v:Value},aD w.params P (inj k) v→∃t,v=val k t
 key:∀{k:K} {e:DictEntry},u6 w.params (inj k) e↔knd.is k e.key=true∧e.hash=knd.hash k
 one:∀{a b:K},inj a=inj b→a=b
 all:∀ks:List K,(ks.map inj).all wx=true∨(ks.map inj).all A6=true
theorem all_map {α β:Type} {f:α→β} {p:β→Bool} (h:∀a,p (f a)=true) (l:List α):(l.map f).all p=true:=List.all_eq_true.mpr λx m=>(List.mem_map.mp m).elim λa e=>e.2▸h a
noncomputable def jh (w:World):fO w Str where
 knd:=strKind PW w
 inj:= .str
 val:= .str
 good:=strKind_is PW w
 yG:=λa b=>by show seq a b=_;rw[seq_eq];by_cases q:a=b<;>simp [q]
 rep:=λr=>(r.out (g:=Heap.get? _) λ_ _ e=>e).2
 key:=λ{k e}=>⟨λh=>h.2.elim λt q=>⟨by rw[q];exact strKind_is PW w _ _,h.1⟩,λh=>⟨h.2,Value.isStrOf_shape h.1⟩⟩
 one:=λe=>by cases e;rfl
 all:=λks=> .inl (all_map (λ_=>rfl) ks)
noncomputable def iE (w:World):fO w Int where
 knd:=intKind PW w
 inj:= .int
 val:= .int
 good:=intKind_is PW w
 yG:=λa b=>by show(a==b)=_;by_cases q:a=b<;>simp [q]
 rep:=λr=>r.out (g:=Heap.get? _) λ_ _ e=>e
 key:=λ{k e}=>⟨λh=>h.2.elim λt q=>⟨by rw[q];exact intKind_is PW w _ _,h.1⟩,λh=>⟨h.2,Value.isInt_shape h.1⟩⟩
 one:=λe=>by cases e;rfl
 all:=λks=> .inr (all_map (λ_=>rfl) ks)
theorem eu {α β:Type}:∀{ks:List α} {vs:List β},ks.length=vs.length→(ks.zip vs).map (·.1)=ks:=λ{ks vs} h=>by
 rw[List.map_fst_zip (Nat.le_of_eq h)]
theorem pX {α β:Type}:∀{ks:List α} {vs:List β},ks.length=vs.length→(ks.zip vs).map (·.2)=vs:=λ{ks vs} h=>by
 rw[List.map_snd_zip (Nat.le_of_eq h.symm)]
theorem Hy {K:Type} [DecidableEq K] (T:fO w K) {P:Heap}:∀{ks:List K} {d:List AV} {es:List DictEntry},fz w.params P (ks.map T.inj) d es→∃vs,Pairs T.knd es (ks.zip vs)∧aP w.params P d vs∧ks.length=vs.length∧∀e∈es,∃k,T.knd.is k e.key=true∧e.hash=T.knd.hash k:=λ{ks}=>by
 induction ks with
 |nil=>intro d es t;cases t;exact⟨[],.nil,.nil,rfl,λ_ m=>zE m⟩
 |cons k ks ih=>
  intro d es t;cases t with|cons a b t=>
  refine cps λG kf=> ?_
  obtain⟨vs,h1,h2,h3,h4⟩:=ih t;refine kf ?_;have a:=T.key.mp a;exact⟨_::vs,.cons a.1 rfl h1,.cons b h2,congrArg (·+1) h3,λe m=>(List.mem_cons.mp m).elim (λq=>⟨k,q▸a⟩) (h4 e)⟩
theorem Ao {K:Type} [DecidableEq K] (T:fO w K) {P:Heap} {kvs:List (K×Value)}:∀{es:List DictEntry} {d:List AV},Pairs T.knd es kvs→(∀e∈es,∃k,T.knd.is k e.key=true∧e.hash=T.knd.hash k)→aP w.params P d (kvs.map (·.2))→fz w.params P (kvs.map λp=>T.inj p.1) d es:=by
 induction kvs with
 |nil=>intro es d p _ r;cases p;cases r;exact .nil
 |cons kv kvs ih=>
  intro es d p hq r;cases p with|cons hk hv hp=>
  cases r with|cons a b=>
  refine .cons ?_ (hv▸a) (ih hp (λx hx=>hq x (List.mem_cons_of_mem _ hx)) b);obtain⟨k',h1,h2⟩:=hq _ List.mem_cons_self;have:=T.knd.inj _ _ _ h1 hk;exact T.key.mpr ⟨hk,this▸h2⟩
theorem lT {α β:Type} {f:α→β} (h:∀{a b},f a=f b→a=b) {l:List α}:(l.map f).Nodup↔l.Nodup:=by
 rw[List.Nodup,List.Nodup,List.pairwise_map];exact⟨λp=>p.imp λq e=>q (congrArg f e),λp=>p.imp λq e=>q (h e)⟩
theorem tT {K:Type} [DecidableEq K] (T:fO w K) {h P:Heap} {a:Addr} {es:Array DictEntry} {m:Nat} {ks:List K} {d:List AV} (e:h.get? a=some (aU es m)) (r:fz w.params P (ks.map T.inj) d es.toList) (nd:(ks.map T.inj).Nodup):
 ∃vs,h.DictOf T.knd a (ks.zip vs)∧aP w.params P d vs∧ks.length=vs.length:=by
 refine cps λG kf=> ?_
 obtain⟨vs,p,rl,hl,hk⟩:=Hy T r;refine kf ?_;exact⟨vs,⟨_,es,m,e,⟨rfl,rfl,rfl⟩,rfl,λx hx=>hk x (Array.mem_toList_iff.mpr hx),p,by rw[eu hl];exact(lT T.one).mp nd⟩,rl,hl⟩
theorem lG {K:Type} [DecidableEq K] (T:fO w K) {h P:Heap} {a:Addr} {kvs:List (K×Value)} {d:List AV} (D:h.DictOf T.knd a kvs) (r:aP w.params P d (kvs.map (·.2))):
 ∃es m,h.get? a=some (aU es m)∧fz w.params P (kvs.map λp=>T.inj p.1) d es.toList∧lP (kvs.map λp=>T.inj p.1):=by
 refine cps λG kf=> ?_
 obtain⟨⟨c,dd,dt,sl⟩,es,ep,ho,⟨c1,c2,c3⟩,hd,hk,hp,hn⟩:=D;refine kf ?_;dsimp only at c1 c2 c3 hd;subst c1 c2 c3 hd;have e:(kvs.map λp=>T.inj p.1)=(kvs.map (·.1)).map T.inj:=by rw[List.map_map];rfl
 refine⟨es,ep,ho,Ao T hp (λe he=>hk e (Array.mem_toList_iff.mp he)) r,?_⟩;rw[e];exact⟨T.all _,(lT T.one).mpr hn⟩
inductive pE (w:World) (P h:Heap) (k d:List AV) (x:AV) (v:Value):Prop
 |mk {K:Type} [DecidableEq K] (T:fO w K) (y:K) (ks:List K) (a:Addr) (vs:List Value):x=T.inj y→k=ks.map T.inj→v= .ref a→a≠sysModules→h.DictOf T.knd a (ks.zip vs)→aP w.params P d vs→ks.length=vs.length→pE w P h k d x v
theorem Dt {α:Type} {f:α→AV} {g:AV→Option α} (h:∀{x a},g x=some a→x=f a):∀{l:List AV},(l.all λx=>(g x).isSome)=true→∃m:List α,l=m.map f:=by
 intro l
 induction l with
 |nil=>
  intro _;exact⟨[],rfl⟩
 |cons x l ih=>
  intro e;have e:=Bool.and_eq_true_iff.mp e;obtain⟨a,q⟩:=Option.isSome_iff_exists.mp e.1;obtain⟨m,rfl⟩:=ih e.2;exact⟨a::m,by rw[h q];rfl⟩
theorem PS {M:List Addr} {h:Heap} {k d:List AV} {v:Value} (t:aq w.params M h (.dct k d) v):∃a es m,v= .ref a∧a≠sysModules∧h.get? a=some (aU es m)∧fz w.params (aG M h) k d es.toList∧lP k:=by
 refine cps λG kf=> ?_
 obtain⟨⟨x,a⟩,e,e0,z,es,m,e1,r,ko⟩:=t;obtain rfl:x=a:=e0;refine kf ?_;exact⟨x,es,m,e,z,e1,r,ko⟩
theorem pq {K:Type} [DecidableEq K] (T:fO w K) (y:K) {M:List Addr} {h:Heap} {ks:List K} {d:List AV} {v:Value} (t:aq w.params M h (.dct (ks.map T.inj) d) v):pE w (aG M h) h (ks.map T.inj) d (T.inj y) v:=by
 refine cps λG kf=> ?_
 obtain⟨a,es,m,rfl,hs,e,r,ko⟩:=PS t;obtain⟨vs,D,rl,hl⟩:=tT T e r ko.2;refine kf ?_;exact .mk T y ks a vs rfl rfl rfl hs D rl hl
theorem iQ {M:List Addr} {h:Heap} {k d:List AV} {x:AV} {v:Value} (t:aq w.params M h (.dct k d) v) (f:cW x k=true):pE w (aG M h) h k d x v:=by
 cases x with
 |int y=>obtain⟨ks,rfl⟩:=Dt gQ f;exact pq (iE w) y t
 |str y=>obtain⟨ks,rfl⟩:=Dt eR f;exact pq (jh w) y t
 |_=>exact zC f
theorem tR {K:Type} [DecidableEq K] (T:fO w K) {P:Heap} (y:K) {ks:List K}:∀{d:List AV} {vs:List Value},aP w.params P d vs→ks.length=vs.length→
 (∃z v,dU (ks.map T.inj) d (T.inj y)=some z∧valueAt (ks.zip vs) y=some v∧aD w.params P z v)∨(dU (ks.map T.inj) d (T.inj y)=Option.none∧valueAt (ks.zip vs) y=Option.none):=by
 induction ks with
 |nil=>intro d vs r _;cases r<;>exact .inr ⟨rfl,rfl⟩
 |cons k ks ih=>
  intro d vs r hl;cases r with
  |nil=>exact zI hl
  |cons a r=>
   have e1:∀z d,dU ((k::ks).map T.inj) (z::d) (T.inj y)=if y=k then some z else dU (ks.map T.inj) d (T.inj y):=λz d=>by
    show(match yG (T.inj y) (T.inj k) with|true=>some z|false=>_)=_;rw[T.yG];by_cases q:y=k<;>simp [q]
   have e2:∀v vs,valueAt ((k::ks).zip (v::vs)) y=if k=y then some v else valueAt (ks.zip vs) y:=λv vs=>by
    rw[valueAt,List.zip_cons_cons,List.find?_cons];by_cases q:k=y<;>simp [q,valueAt]
   rw[e1,e2];by_cases q:y=k
   ·rw[if_pos q,if_pos q.symm];exact .inl ⟨_,_,rfl,rfl,a⟩
   ·rw[if_neg q,if_neg λz=>q z.symm];exact ih r (Nat.succ.inj hl)
theorem pF (a b:Str):(a.cps.toList==b.cps.toList)=seq a b:=by
 rw[seq_eq,Bool.eq_iff_iff,beq_iff_eq,beq_iff_eq];exact⟨λe=>by cases a;cases b;exact congrArg Str.mk (Array.toList_inj.mp e),λe=>e▸rfl⟩
section
variable {M:List Addr} {A:Around} {s:Shared} {u v:Value} {Q:Value→Shared→Prop} {E:Value→Shared→Prop} {x y:AV}
noncomputable abbrev PQ (A:Around) (s:Shared) (w:World) (Q:Value→Shared→Prop) (E:Value→Shared→Prop) (u v:Value) (b:Bool):Prop:=(Q (.bool b) s→wpAny (model PW w) A (compareOp .Eq u v) Q E s)∧(Q (.bool (!b)) s→wpAny (model PW w) A (compareOp .NotEq u v) Q E s)
theorem B9 {a c:List AV} {p q:Addr} {vs ws:Array Value} {i j:Nat} (e1:s.heap.get? p=some (aV vs i)) (l1:a.length=vs.size) (e2:s.heap.get? q=some (aV ws j)) (l2:c.length=ws.size) (hu:A.units<cLine) (hc:(c.isEmpty||a.isEmpty)=true):PQ A s w Q E (.ref p) (.ref q) (c.isEmpty&&a.isEmpty):=by
 by_cases hs:vs.size=ws.size
 ·have hz:vs.size=0:=(Bool.or_eq_true_iff.mp hc).elim (λh=>hs.trans (l2.symm.trans (List.isEmpty_iff_length_eq_zero.mp h))) λh=>l1.symm.trans (List.isEmpty_iff_length_eq_zero.mp h)
  have ec:c.isEmpty=true:=List.isEmpty_iff_length_eq_zero.mpr (l2.trans (hs.symm.trans hz));have ea:a.isEmpty=true:=List.isEmpty_iff_length_eq_zero.mpr (l1.trans hz);rw[ec,ea];have he:∀j (h1:j<vs.size) (h2:j<ws.size),SeqAt.EqAt A.in1 s vs[j] ws[j] true:=λj h1=>absurd (hz▸h1) (Nat.not_lt_zero j)
  have er:((List.range vs.size).all λ_=>true)=true:=by rw[hz];rfl
  exact⟨λk=>PySem.SeqAt.eq_listAt (e:=λ_=>true) ⟨_,e1,rfl,i,rfl⟩ ⟨_,e2,rfl,j,rfl⟩ hs hu he (by rw[er];exact k),
   λk=>PySem.EqBoolInt.of_rcne (SeqAt.RcNeAt.lists (e:=λ_=>true) ⟨_,e1,rfl,i,rfl⟩ ⟨_,e2,rfl,j,rfl⟩ hs hu he) (by rw[er];exact k)⟩
 ·have:(c.isEmpty&&a.isEmpty)=false:=Bool.eq_false_iff.mpr λq=>by
   have q:=Bool.and_eq_true_iff.mp q;exact hs (l1.symm.trans ((List.isEmpty_iff_length_eq_zero.mp q.2).trans ((List.isEmpty_iff_length_eq_zero.mp q.1).symm.trans l2)))
  refine this.symm▸?_;have hs':(vs.size !=ws.size)=true:=bne_iff_ne.mpr hs;exact⟨λk=>PySem.SeqAt.eq_list_lengthsAt ⟨_,e1,rfl,i,rfl⟩ ⟨_,e2,rfl,j,rfl⟩ hs' hu k,
   λk=>PySem.EqBoolInt.of_rcne (SeqAt.RcNeAt.lists_lengths ⟨_,e1,rfl,i,rfl⟩ ⟨_,e2,rfl,j,rfl⟩ hs' hu) k⟩
theorem DU {b:Bool} (h:eqv x y=some b) (hx:aq w.params M s.heap x u) (hy:aq w.params M s.heap y v) (R:cq n FL A):PQ A s w Q E u v b:=by
 refine(cR (Ψ:=λx m=>m=some b→aq w.params M s.heap x u→PQ A s w Q E u v b) x ?_ ?_ ?_ (λ_ e=>zA e) ?_ (λ_ _ e=>zA e) (λ_ e=>zA e):eqv x y=some b→aq w.params M s.heap x u→PQ A s w Q E u v b) h hx
 ·exactλa h hx=>(bind_some h).elim λc y=>rI hx rfl λt=>rI hy y.1 λt'=>Option.some.inj y.2▸⟨PyProof.Rows.eq_int,PyProof.Rows.ne_int⟩
 ·exactλa h hx=>(bind_some h).elim λc y=>rS hx rfl λt _=>rS hy y.1 λt' _=>Option.some.inj y.2▸⟨λk=>PySem.P.eq_str (pF a c▸k),λk=>PySem.P.ne_str (by rw[bne,pF];exact k)⟩
 ·exactλa h hx=>(bind_some h).elim λc y=>rB hx rfl λt _=>rB hy y.1 λt' _=>Option.some.inj y.2▸⟨PySem.W.eq_bytes,PySem.W.ne_bytes⟩
 ·exactλa h hx=>(bind_some h).elim λc y=>rL hx rfl λp vs i e1 _ l1 _=>rL hy y.1 λq ws j e2 _ l2 _=>by
   have h:=y.2;by_cases hc:(c.isEmpty||a.isEmpty)=true
   ·rw[if_pos hc] at h;exact Option.some.inj h▸B9 e1 l1 e2 l2 (by have:=R.units;omega) hc
   ·rw[if_neg hc] at h;exact zA h
theorem rR {pr:Params} {h:Heap} (t:aq pr M h x v):(v== .none)=JB x:=by
 cases x with
 |ref _=>exact t.elim
 |none=>subst t;rfl
 |bool _=>subst t;rfl
 |int _=>obtain⟨_,rfl⟩:=t;rfl
 |str _=>obtain⟨_,_,rfl⟩:=t;rfl
 |bytes _=>obtain⟨_,_,rfl⟩:=t;rfl
 |fn _=>subst t;rfl
 |cls _=>subst t;rfl
 |ty _=>subst t;rfl
 |bi _=>obtain⟨rfl,_⟩:=t;rfl
 |_=>obtain⟨_,t⟩:=t;first|(obtain⟨rfl,_⟩:=t;rfl)|(obtain⟨_,_,rfl,_⟩:=t;rfl)|(obtain⟨_,_,_,rfl,_⟩:=t;rfl)
theorem su {x:AV} (h:JB x=true):x= .none:=by
 cases x<;>first|rfl|exact zC h
theorem nV (a b:List UInt8) (t u:Tok):MeetsSeq.EqGives (.bytes a.toArray t) (.bytes b.toArray u) (a==b):=by
 intro prog w A E s Q h;unfold eqBool;refine wpAny_holding ?_;refine wpAny_ite_split (λhab=> ?_) (λhab=> ?_)
 ·have e:a=b:=by have:=eq_of_beq hab;injection this with q;simpa using q
  subst e;exact wpAny_bind (wpAny_rule (wpAny_pure (by simpa using h)))
 ·exact wpAny_bind (richCompare_gives (typeIs_bytes s a.toArray t) (typeIs_bytes s b.toArray u) FB.slot_bytes_eq FB.entry_bytes_eq (FB.args_bytes_eq_2 _ _) (gives_bytes_eq a.toArray b.toArray t u) (by simp [Made.takes]) (wpAny_truthy_bool h))
noncomputable def gD (x:AV) (v:Value):Bool:=x.cs (λa=>match v with| .int b _=>a==b|_=>false) (λa=>match v with| .str b _=>seq a b|_=>false) (λa=>match v with| .bytes b _=>a==b.toList|_=>false) (λ_=>false) (λ_=>false) (λ_ _=>false) false
theorem BI (k:DR x y=true) {P:Heap} (hx:aq w.params M s.heap x u) (hy:aD w.params P y v):gD x v=same x y∧MeetsSeq.EqGives v u (same x y):=by
 have hy:=hy.out (g:=P.get?) λ_ _ e=>e
 cases x with
 |int a=>
  obtain⟨t,rfl⟩:=hx;obtain⟨b,e⟩:=Option.isSome_iff_exists.mp k;obtain rfl:=gQ e;obtain⟨t',rfl⟩:=hy;refine⟨rfl,?_⟩;show MeetsSeq.EqGives _ _ (a==b);rw[BEq.comm];exact MeetsSeq.EqGives.int b a _ _
 |str a=>
  obtain⟨_,t,rfl⟩:=hx;obtain⟨b,e⟩:=Option.isSome_iff_exists.mp k;obtain rfl:=eR e;obtain⟨_,t',rfl⟩:=hy;refine⟨rfl,?_⟩;show MeetsSeq.EqGives _ _ (seq a b);rw[←pF,BEq.comm];exact SeqRoads2.EqGives.str _ _ _ _
 |bytes a=>
  obtain⟨_,t,rfl⟩:=hx;obtain⟨b,e⟩:=Option.isSome_iff_exists.mp k;obtain rfl:=iI e;obtain⟨_,t',rfl⟩:=hy;refine⟨rfl,?_⟩;show MeetsSeq.EqGives _ _ (a==b);rw[BEq.comm];exact nV _ _ _ _
 |_=>exact zC k
theorem vJ (hx:aq w.params M s.heap x u) {P:Heap} {l:List AV} {vs:List Value} (r:aP w.params P l vs):l.all (DR x)=true→(∀y,y∈vs→MeetsSeq.EqGives y u (gD x y))∧vs.any (gD x)=l.any (same x):=by
 induction r with
 |nil=>exactλ_=>⟨λ_ m=>(zE m),rfl⟩
 |cons a r ih=>
  intro h;have h:=Bool.and_eq_true_iff.mp h;obtain⟨h1,h2⟩:=ih h.2;obtain⟨g1,g2⟩:=BI h.1 hx a;exact⟨λy m=>(List.mem_cons.mp m).elim (λe=>by rw[e,g1];exact g2) (h1 y),by rw[List.any_cons,List.any_cons,h2,g1]⟩
noncomputable abbrev Rr (A:Around) (s:Shared) (w:World) (Q:Value→Shared→Prop) (E:Value→Shared→Prop) (u v:Value) (b:Bool):Prop:=((∀h' tk,aF [] s.heap h'→Q (.bool b) (up s h' tk))→wpAny (model PW w) A (compareOp .In u v) Q E s)∧((∀h' tk,aF [] s.heap h'→Q (.bool (!b)) (up s h' tk))→wpAny (model PW w) A (compareOp .NotIn u v) Q E s)
theorem DC (hx:aq w.params M s.heap x u) (hy:aq w.params M s.heap y v) (R:cq n FL A):bZ (Rr A s w Q E u v) (inv x y):=by
 refine cR (Ψ:=λy g=>aq w.params M s.heap y v→bZ (Rr A s w Q E u v) g) y (λ_ _=> .none) (λ_ _=> .none) ?_ ?_ ?_ ?_ (λ_ _=> .none) hy
 ·refineλbs hy=>rB hy rfl λt _=> ?_
  refine cR (Ψ:=λx g=>aq w.params M s.heap x u→bZ (Rr A s w Q E u _) g) x ?_ (λ_ _=> .none) ?_ (λ_ _=> .none) (λ_ _=> .none) (λ_ _ _=> .none) (λ_ _=> .none) hx
  ·refineλi hx=> .one λhc=>rI hx rfl λt'=> ?_
   have hr:=of_decide_eq_true hc;refine je (w:=w) (A:=A) (λ{A s Q E} _ K=>pN hr.1 hr.2 ?_) R.handled;have:=K s.heap s.toks (.refl _ _);rw[List.contains_toArray];exact this
  ·refineλa hx=>rB hx rfl λt' _=> .nil (je (w:=w) (A:=A) (λhh K=>lQ hh λh' tk k=> ?_) R.handled)
   have e:(PySem.Builtin.Bytes.find? bs.toArray a.toArray 0 bs.toArray.size).isSome=decide (0≤findB bs a 0 bs.length):=by
    have:=pG bs a 0 bs.length;unfold findB;rw[Nat.min_self,←this,List.size_toArray];cases PySem.Builtin.Bytes.find? bs.toArray a.toArray 0 bs.length<;>simp
   refine e.symm▸?_;exact K h' tk k
 ·refineλl hy=> .one λhc=>rT hy rfl λa vs m _ e r _ _=> ?_
  obtain⟨h1,h2⟩:=vJ hx r hc;rw[Array.any_toList] at h2;exact⟨λK=>SeqRoads2.in_tuple (gD x) (λy m=>h1 y (Array.mem_toList_iff.mpr m)) e (by rw[h2];exact K s.heap s.toks (.refl _ _)),λK=>SeqRoads2.notIn_tuple (gD x) (λy m=>h1 y (Array.mem_toList_iff.mpr m)) e (by rw[h2];exact K s.heap s.toks (.refl _ _))⟩
 ·refineλl hy=> .one λhc=>rL hy rfl λa vs m e r _ _=> ?_
  obtain⟨h1,h2⟩:=vJ hx r hc;rw[Array.any_toList] at h2;exact⟨λK=>SeqRoads2.in_list (gD x) (λy m=>h1 y (Array.mem_toList_iff.mpr m)) e (by rw[h2];exact K s.heap s.toks (.refl _ _)),λK=>SeqRoads2.notIn_list (gD x) (λy m=>h1 y (Array.mem_toList_iff.mpr m)) e (by rw[h2];exact K s.heap s.toks (.refl _ _))⟩
 ·intro k d hy;refine .one λhf=> ?_
  obtain⟨T,y,ks,a,vs,e1,rfl,rfl,hs,D,rl,hl⟩:=iQ hy hf;subst e1;obtain⟨t,rfl⟩:∃t,u=T.val y t:=T.rep (P:=aG M s.heap) (by cases hq:T.inj y<;>rw[hq] at hx hf<;>first|(obtain⟨t,rfl⟩:=hx;exact .int _ t)|(obtain⟨b,t,rfl⟩:=hx;exact .str _ t b)|exact zC hf);have e:(dU (ks.map T.inj) d (T.inj y)).isSome=(valueAt (ks.zip vs) y).isSome:=by
   rcases tR T y rl hl with⟨z,v,h1,h2,_⟩|⟨h1,h2⟩<;>rw[h1,h2]<;>rfl
  refine e.symm▸?_;have hd:(a==sysModules)=false:=beq_eq_false_iff_ne.mpr hs;exact⟨λK=>wpAny_in_of (T.good _ _) hd D.mapOf (K s.heap _ (.refl _ _)),λK=>wpAny_notIn_of (T.good _ _) hd D.mapOf (K s.heap _ (.refl _ _))⟩
theorem IE:Ey w n:=λ{o x y M A s u v Q E FL} hx hy lv R=>by
 have here:∀{b},(∀h' tk,aF [] s.heap h'→Q (.bool b) (up s h' tk))→Q (.bool b) s:=λK=>K s.heap s.toks (.refl _ _)
 cases o with
 |Eq=>exact .bind λb e=> .nil λK=>(DU e hx hy R).1 (here K)
 |NotEq=>exact .bind λb e=> .nil λK=>(DU e hx hy R).2 (here K)
 |Lt=>exact wI (Φ:=λu v b=>(∀h' tk,aF [] s.heap h'→Q (.bool b) (up s h' tk))→wpAny (model PW w) A (compareOp .Lt u v) Q E s) hx hy λa b t t'=> .nil λK=>PyProof.Rows.lt_int (here K)
 |LtE=>exact wI (Φ:=λu v b=>(∀h' tk,aF [] s.heap h'→Q (.bool b) (up s h' tk))→wpAny (model PW w) A (compareOp .LtE u v) Q E s) hx hy λa b t t'=> .nil λK=>PyProof.Rows.le_int (here K)
 |Gt=>exact wI (Φ:=λu v b=>(∀h' tk,aF [] s.heap h'→Q (.bool b) (up s h' tk))→wpAny (model PW w) A (compareOp .Gt u v) Q E s) hx hy λa b t t'=> .nil λK=>PyProof.Rows.gt_int (here K)
 |GtE=>exact wI (Φ:=λu v b=>(∀h' tk,aF [] s.heap h'→Q (.bool b) (up s h' tk))→wpAny (model PW w) A (compareOp .GtE u v) Q E s) hx hy λa b t t'=> .nil λK=>PyProof.Rows.ge_int (here K)
 |In=>exactλa e k=>(DC (n:=n) hx hy R a e k).1
 |NotIn=>
  exactλa e k=>by
   obtain⟨c,e1,rfl⟩:=Option.map_eq_some_iff.mp e;exact(DC (n:=n) hx hy R c e1 k).2
 |Is=>
  exact .ite (λq=> .nil λK=>by
   obtain rfl:=su q;obtain rfl:v=_:=hy;exact is_none (by rw[rR hx];exact here K)) λ_=> .none
 |IsNot=>
  exact .ite (λq=> .nil λK=>by
   obtain rfl:=su q;obtain rfl:v=_:=hy;exact isNot_none (by rw[rR hx];exact here K)) λ_=> .none
end
end
set_option tactic.hygienic false
noncomputable def dQ:List Str:=["data","at","end","name","raw","top","sub","params","begin","body","fields","kind","encoding","kids","inner","octets","pieces","piece"]
structure dW (K:Frag):Prop where
 get:∀c,bk.contains c=true→findIn K (.ref (ae c)) "__getattribute__"=some (some (.builtin "object.__getattribute__"))
 noGet:∀c,bk.contains c=true→findIn K (.ref (ae c)) "__getattr__"=some Option.none
 set:∀c,bk.contains c=true→findIn K (.ref (ae c)) "__setattr__"=some (some (.builtin "object.__setattr__"))
 over:∀c,bk.contains c=true→plainOver K (ae c)=true
 hasD:∀c,bk.contains c=true→hasDictIn K (ae c)=true
 makes:∀c,bk.contains c=true→makesIn K (ae c)=true
 fld:∀c a,bk.contains c=true→dQ.contains a=true→findIn K (.ref (ae c)) a=some Option.none
section
variable {w:World} {XR:i7} {n:Nat} {C:ay} {K:Frag} {FL:List Env}
set_option tactic.hygienic true in
theorem pd (slice:Expr) (o i:Value):subscripted slice false o i=operate [i,o] (getItem o i)∨subscripted slice false o i=operate [o,i] (getItem o i):=by
 cases slice<;>first|exact .inr rfl|(rename_i st _;cases st<;>first|exact .inl rfl|exact .inr rfl)
theorem Du {env:Env} {A:Around} {E:Value→Shared→Prop} {s:Shared} {value slice:Expr} {pos:Pos} {Q:Value→Shared→Prop}
 (h:wpAny (model PW w) A (eval value env) (λo s₁=>wpAny (model PW w) A (eval slice env) (λi s₂=>∃T id,s₂.TypeIs o T∧typeLookup (.type T) "__getitem__"=pure (some (.builtin id))∧wpAny (model PW w) A (getItem o i) Q E s₂) E s₁) E s):
 wpAny (model PW w) A (eval (.Subscript value slice pos) env) Q E s:=by
 rw[arm_eval_Subscript];refine wpAny_bind (wpAny_mono h (λo s₁ h₁=>wpAny_bind (wpAny_holding (wpAny_mono h₁ (λi s₂ h₂=> ?_) λ_ _ x=>x))) λ_ _ x=>x);refine cps λG kf=> ?_
 obtain⟨T,id,hT,hl,hg⟩:=h₂;refine kf ?_;refine wpAny_bind (wpAny_standAt ?_);refine(getitemInPython_of_ne hT.not_modules).symm▸?_;refine wpAny_bind (wpAny_bind (wpAny_specialOf hT hl (wpAny_pure ?_)));have fin:wpAny (model PW w) A (subscripted slice false o i) (λr s₃=>wpAny (model PW w) A (letTemporaryGo value o r>>=λ_=>pure r) Q E s₃) E s₂:=by
  have hg':wpAny (model PW w) A (getItem o i) (λr s₃=>wpAny (model PW w) A (letTemporaryGo value o r>>=λ_=>pure r) Q E s₃) E s₂:=
   wpAny_mono hg (λr s₃ h₃=>wpAny_bind (wpAny_letTemporaryGo (wpAny_pure h₃))) λ_ _ x=>x
  rcases pd slice o i with q|q<;>rw[q]<;>exact wpAny_operating hg'
 exact wpAny_bind fin
theorem mY {n:Nat} {i:Int} (h0:0≤i) (h1:i<n):seqIndex? i n=some i.toNat:=by
 unfold seqIndex?;simp only[show¬i<0 by lia,if_false,h0,h1,decide_true,Bool.and_self,if_true]
theorem te {n:Nat} {i:Int} (h:inR n i=true):0≤i∧i<n:=of_decide_eq_true h
theorem getD_some {α:Type} {l:List α} {i:Nat} (h:i<l.length) (d:α):l[i]? =some (l.getD i d):=by rw[List.getD_eq_getElem?_getD,List.getElem?_eq_getElem h];rfl
section
variable {M:List Addr} {A:Around} {s:Shared} {u v:Value} {Q:Value→Shared→Prop} {E:Value→Shared→Prop} {x k lo hi:AV}
noncomputable abbrev JE (w:World) (M:List Addr) (A:Around) (s:Shared) (Q:Value→Shared→Prop) (E:Value→Shared→Prop) (u v:Value) (z:AV):Prop:=(∀v' tk,Rep w.params M s.heap z v'→Q v' (up s s.heap tk))→∃T id,s.TypeIs u T∧typeLookup (.type T) "__getitem__"=pure (some (.builtin id))∧wpAny (model PW w) A (getItem u v) Q E s
theorem Ia {mu:Mu} {h:Heap} (t:ax w.params M mu h x u) (f:rf x=none):aq w.params M h x u:=by
 unfold ax at t;rw[f] at t;exact .t8 t
theorem Hd {mu:Mu} (hx:aq w.params M s.heap x u) (hk:ax w.params M mu s.heap k v):bZ (JE w M A s Q E u v) (item x k):=by
 refine cR (Ψ:=λx g=>aq w.params M s.heap x u→bZ (JE w M A s Q E u v) g) x (λ_ _=> .none) ?_ ?_ ?_ ?_ ?_ (λ_ _=> .none) hx
 ·refineλx hx=> .bind λi e=> .one λc K=>rS hx rfl λt hb=>top_int hk e λt'=> ?_
  have⟨h0,h1⟩:=te c;refine⟨_,_,typeIs_str s _ _,F.slot_str_getitem.lookup,PyProof.Rows.getItem_str (c:=x.cps.toList.getD i.toNat 0) (by have:=jo hb;simp;lia) (by rw[mY h0 h1,Option.bind_some,←Array.getElem?_toList];exact getD_some (by show i.toNat<x.length;omega) 0) (K _ _ (.str _ _ (by decide:1≤ao)))⟩
 ·exactλb hx=> .bind λi e=> .one λc K=>rB hx rfl λt hb=>top_int hk e λt'=>have⟨h0,h1⟩:=te c
   ⟨_,_,typeIs_bytes s _ _,FB.slot_bytes_getitem.lookup,PySem.W.getItem_bytes (Nat.le_trans hb (by decide)) h0 h1 (K _ _ (.int _ _))⟩
 ·refineλl hx=> .bind λi e=> .one λc K=>top_int hk e λt'=>rT hx rfl λa vs m _ e r hl hb=> ?_
  have⟨h0,h1⟩:=te c;obtain⟨y,hy,ry⟩:=r.get (getD_some ((Int.toNat_lt h0).mpr h1) AV.none);have T:IsTup s.heap a vs:=⟨_,e,rfl,m,rfl⟩;exact⟨_,_,T.typeIs,PyProof.Rows.slot_tuple_getitem.lookup,PyProof.Rows.getItem_tuple T (Int.le_trans (by decide) h0) (Int.lt_trans h1 (jo hb)) (mY h0 (hl▸h1)) (by rw[←Array.getElem?_toList];exact hy) (K y s.toks ry)⟩
 ·refineλl hx=> .bind λi e=> .one λc K=>top_int hk e λt'=>rL hx rfl λa vs m e r hl hb=> ?_
  have⟨h0,h1⟩:=te c;obtain⟨y,hy,ry⟩:=r.get (getD_some ((Int.toNat_lt h0).mpr h1) AV.none);have T:s.heap.IsList a vs:=⟨_,e,rfl,m,rfl⟩;exact⟨_,_,T.typeIs,list_getitem_lookup,wpAny_getItem_list T h0 (Int.lt_trans h1 (jo hb)) (by rw[←Array.getElem?_toList];exact hy) (K y s.toks ry)⟩
 ·intro ks d hx;refine .one λc K=> ?_
  have c:=Bool.and_eq_true_iff.mp c;obtain⟨T,y,ks,a,vs,e1,rfl,rfl,hs,D,rl,hl⟩:=iQ hx c.1;subst e1;have f:rf (T.inj y)=none:=by cases hq:T.inj y<;>rw[hq] at c<;>first|rfl|exact zC c.1
  obtain⟨t,rfl⟩:∃t,v=T.val y t:=T.rep (P:=aG M s.heap) (by unfold ax at hk;rw[f] at hk;exact hk);rcases tR T y rl hl with⟨z',v',h1,h2,h3⟩|⟨h1,h2⟩
  ·rw[h1] at K;exact⟨_,_,D.typeIs,slot_dict_getitem.lookup,wpAny_getItem_of (T.good _ _) D.mapOf h2 (K v' _ h3)⟩
  ·rw[h1] at c;exact zC c.2
end
theorem uc {a b:Expr} {p:Pos} (hb:Gz b=false) (ha:bf w XR n C a) (hb':bf w XR n C b):bf w XR n C (.Subscript a b p):=λr S M mu env res h A s Q E FL R F P=>
 Du (aw h (ha _ _ _ _ _) R F P λx S1 u h1 tk1 h k1 F1 tx P=>by
  dsimp only at h;rw[hb,if_neg Bool.false_ne_true] at h;exact aw h (hb' _ _ _ _ _) R F1 P λy S2 v h2 tk2 h k2 F2 ty P=>gV h P (.bind λx' hx=>Hd (s:=up s h2 tk2) (M:=M) (.of F2.store (ax.mono (F1.bL k2) tx) hx) ty) λz h P=>h λv' tk rz=>P.ok (.refl _ _) F2.store rz)
noncomputable def uv (w:World) (XR:i7) (n:Nat) (C:ay) (e:Option Expr):Prop:=∀r S M mu env,Tr w XR n M mu env r S (VT w.params M mu) (Hl C e r S).p (evalPart e env)
theorem CE:uv w XR n C Option.none:=λr S M mu env res h A s Q E FL R F P=>by
 rw[evalPart_none];exact wpAny_pure ((aZ h P).here F.store (.rep .none))
theorem Bq {e:Expr} (h:bf w XR n C e):uv w XR n C (some e):=h
set_option tactic.hygienic true in
theorem kH {M:List Addr} {mu:Mu} {h:Heap} {d z:Int} {x:AV} {v:Value} (t:ax w.params M mu h x v) (e:bound d x=some z):∃o,IsPart v o∧z=o.elim d id:=by
 unfold bound at e;split at e
 ·rename_i q
  obtain rfl:=su q;obtain rfl:v= .none:=Ia t rfl;exact⟨none,.none,(Option.some.inj e).symm⟩
 ·exact top_int t e λt=>⟨some z,.int _ _,rfl⟩
theorem EJ {α:Type} (l:List α) (lo hi:Option Int):cut l (lo.elim 0 id) (hi.elim (l.length:Int) id)=(l.drop (lo.elim 0 (clipAt l.length))).take (hi.elim l.length (clipAt l.length) -lo.elim 0 (clipAt l.length)):=by
 unfold cut;have h1:clipAt l.length (lo.elim 0 id)=lo.elim 0 (clipAt l.length):=by
  cases lo with
  |none=>exact(clipAt_nat _ 0).trans (Nat.zero_min _)
  |some i=>rfl
 have h2:clipAt l.length (hi.elim (l.length:Int) id)=hi.elim l.length (clipAt l.length):=by
  cases hi with
  |none=>exact(clipAt_nat _ _).trans (Nat.min_self _)
  |some i=>rfl
 rw[h1,h2,List.drop_take]
theorem za {α:Type} (l:List α) (lo hi:Int):(cut l lo hi).length≤l.length:=((List.drop_sublist _ _).trans (List.take_sublist _ _)).length_le
section
variable {M:List Addr} {A:Around} {s:Shared} {u a b:Value} {Q:Value→Shared→Prop} {E:Value→Shared→Prop} {x lo hi:AV} {mu:Mu}
noncomputable abbrev Co (w:World) (M:List Addr) (A:Around) (s:Shared) (Q:Value→Shared→Prop) (E:Value→Shared→Prop) (u a b:Value) (z:AV):Prop:=Er w M s Q z→wpAny (model PW w) A (newFields "slice" [a,b,.none]) (λi s₂=>∃T id,s₂.TypeIs u T∧typeLookup (.type T) "__getitem__"=pure (some (.builtin id))∧wpAny (model PW w) A (getItem u i) Q E s₂) E s
theorem CY (hx:aq w.params M s.heap x u) (ha:ax w.params M mu s.heap lo a) (hb:ax w.params M mu s.heap hi b) (lv:bG M s.heap):bZ (Co w M A s Q E u a b) (slice x lo hi):=by
 refine cR (Ψ:=λx g=>aq w.params M s.heap x u→bZ (Co w M A s Q E u a b) g) x (λ_ _=> .none) (λ_ _=> .none) ?_ (λ_ _=> .none) ?_ (λ_ _ _=> .none) (λ_ _=> .none) hx
 ·refineλbs hx=>rB hx rfl λt hlen=> .bind λl hl=> .bind λm hm=> .nil λK=>wpAny_newObj_type ?_
  refine cps λG kf=> ?_
  obtain⟨ol,pl,rfl⟩:=kH ha hl;obtain⟨om,pm,rfl⟩:=kH hb hm;refine kf ?_;refine⟨_,_,typeIs_bytes _ _ _,FB.slot_bytes_getitem.lookup,?_⟩;have hz:=KBc.size_picked_le bs.toArray ol om;refine getItem_meets (typeIs_bytes _ _ _) (by decide) FB.slot_bytes_getitem FB.entry_bytes_getitem (FB.args_bytes_getitem_2 _ _) (KBc.meets_slice2 bs.toArray t _ pl pm) ⟨Heap.IsSliceOf.new ..,Nat.le_trans hz (bO hlen),λt' k=> ?_⟩;have e:KBy.picked bs.toArray ol om=(cut bs (ol.elim 0 id) (om.elim (bs.length:Int) id)).toArray:=by
   rw[KBc.picked_eq,EJ];rfl
  refine e.symm▸?_;exact K _ (s.heap.push _) k (aH _ _ _) (.bytes _ _ (Nat.le_trans (za _ _ _) hlen))
 ·refineλls hx=>rL hx rfl λp vs j e r hlv hlen=> .bind λl hl=> .bind λm hm=> .nil λK=>wpAny_newObj_type ?_
  refine cps λG kf=> ?_
  obtain⟨ol,pl,rfl⟩:=kH ha hl;obtain⟨om,pm,rfl⟩:=kH hb hm;refine kf ?_;have T:s.heap.IsList p vs:=⟨_,e,rfl,j,rfl⟩;have k1:aF [] s.heap (s.heap.push {cls:= .type "slice",data:= .fields #[a,b,.none]}):=aH _ _ _;refine⟨_,_,(T.push _).typeIs,list_getitem_lookup,wpAny_getItem_list_slice (T.push _) (Heap.IsSliceOf.new ..) pl pm .none (by simp) ?_ (hlv▸bO hlen)⟩;refine K _ ((s.heap.push {cls:= .type "slice",data:= .fields #[a,b,.none]}).push (aV (slicePick vs ol om Option.none) 0)) s.toks (k1.trans (aH _ _ _)) (dY (bG.vY lv k1) (aP.mono (k1.aG λ_ m=>zE m) ?_) (Nat.le_trans (za _ _ _) hlen));rw[slicePick_plain,EJ,hlv];exact(r.drop _).take _
end
theorem vy {a:Expr} {lo hi:Option Expr} {p q:Pos} (ha:bf w XR n C a) (hl:uv w XR n C lo) (hh:uv w XR n C hi):bf w XR n C (.Subscript a (.Slice lo hi Option.none q) p):=λr S M mu env res h A s Q E FL R F P=>
 Du (aw h (ha _ _ _ _ _) R F P λx S1 u h1 tk1 h k1 F1 tx P=>by
  rw[arm_eval_Slice];refine wpAny_bind (aw (rg.symm.trans h) (hl _ _ _ _ _) R F1 P λy S2 v h2 tk2 h k2 F2 ty P=>wpAny_bind (wpAny_holding (aw (rg.symm.trans h) (hh _ _ _ _ _) R F2 P λz S3 v3 h3 tk3 h k3 F3 tz P=>wpAny_bind (wpAny_holding (wpAny_pure ?_)))));exact gV h P (.bind λx' hx=>CY (A:=A) (s:=up s h3 tk3) (M:=M) (Q:=Q) (E:=E) (.of F3.store (ax.mono (F2.bL k3) (ax.mono (F1.bL k2) tx)) hx) (ax.mono (F2.bL k3) ty) tz F3.live) λz h P=>h λv' h4 tk4 k4 rz=>P.ok k4 F3.store rz)
theorem zO {P:Heap} {a:Str} {ns:List Str}:∀{d:List AV} {es:List DictEntry},fz w.params P (ns.map .str) d es→
 (∃z e,pJ ns d a=some z∧(es.find? (·.key.isStr a))=some e∧aD w.params P z e.val)∨(pJ ns d a=none∧es.find? (·.key.isStr a)=none):=by
 induction ns with
 |nil=>intro d es r;cases r;exact .inr ⟨rfl,rfl⟩
 |cons x ns ih=>
  intro d es r;cases r with| @cons _ z e _ d es hk h r=>
  obtain⟨_,t,hk⟩:=hk;have e:e.key.isStr a=seq a x:=by
   rw[hk,seq_eq];exact BEq.comm
  rw[List.find?_cons,e];show(∃z' e',(match seq a x with|true=>some z|false=>pJ ns d a)=some z'∧_)∨(match seq a x with|true=>some z|false=>pJ ns d a)=none∧_;cases q:seq a x with
  |true=>exact .inl ⟨z,_,rfl,rfl,h⟩
  |false=>exact ih r
theorem noRefKey {P:Heap} {ns:List Str}:∀{d:List AV} {es:List DictEntry},fz w.params P (ns.map .str) d es→es.any (·.refKey)=false:=by
 induction ns with
 |nil=>intro d es r;cases r;rfl
 |cons x ns ih=>
  intro d es r;cases r with|cons hk h r=>
  obtain⟨_,t,hk⟩:=hk;rw[List.any_cons,ih r,DictEntry.refKey,hk];rfl
theorem z6 {pr:Params} {P:Heap} {z:AV} {v:Value} (r:aD pr P z v):handedIn v=true:=by cases r<;>first|rfl|assumption
theorem QY {M:List Addr} {h:Heap} {c:Nat} {ns:List Str} {d:List AV} {u:Value} (t:aq w.params M h (.inst c ns d) u):
 ∃x a es m,u= .ref x∧h.get? x=some (PySem.W.instObj (ae c) a)∧h.get? a=some (aU es m)∧InstAt h x (PySem.W.instObj (ae c) a) (ae c) (some (aU es m))∧fz w.params (aG M h) (ns.map .str) d es.toList∧ns.Nodup∧bk.contains c=true:=by
 refine cps λG kf=> ?_
 obtain⟨⟨x,a⟩,e,e1,es,m,e2,r,nd,o⟩:=t;refine kf ?_;exact⟨x,a,es,m,e,e1,e2,⟨e1,rfl,rfl,e2⟩,r,nd,o⟩
theorem rH {P:Heap} {a:Str} {ns:List Str} {d:List AV} {es:Array DictEntry} {m:Nat} (r:fz w.params P (ns.map .str) d es.toList):
 (∃z v,pJ ns d a=some z∧lookIn a (aU es m)=some (some v)∧aD w.params P z v)∨(pJ ns d a=none∧lookIn a (aU es m)=some none):=by
 unfold lookIn;rcases zO (a:=a) r with⟨z,e,h1,h2,h3⟩|⟨h1,h2⟩
 ·exact .inl ⟨z,e.val,h1,by dsimp only;rw[h2],h3⟩
 ·exact .inr ⟨h1,by dsimp only;rw[h2,noRefKey r];rfl⟩
theorem th (KF:dW K) (X:K.In (H1 w.params)) {o:Expr} {a:Str} {p:Pos} (hb:∀env,attributeBase o a env (eval o env)=eval o env) (ha:dQ.contains a=true) (ho:bf w XR n C o):bf w XR n C (.Attribute o a p):=λr S M mu env res h A s Q E FL R F P=>by
 rw[arm_eval_Attribute,hb];refine wpAny_bind (aw h (ho _ _ _ _ _) R F P λx S1 u h1 tk1 h k1 F1 tx P=>wpAny_bind (wpAny_standAt (wpAny_bind (wpAny_holding (lR h P λz hz P=> ?_)))));refine cps λG kf=> ?_
 obtain⟨d',hd,hz⟩:=bind_some hz;obtain⟨⟨c,ns,d⟩,hp,hz⟩:=bind_some hz;obtain rfl:=iD hp;obtain⟨x,p,es,m,rfl,e1,e2,I,r,nd,o⟩:=QY (aq.of F1.store tx hd);refine kf ?_;rcases rH (a:=a) (m:=m) r with⟨z',v,g1,g2,g3⟩|⟨g1,_⟩
 ·refine cps λG kf=> ?_
  obtain rfl:=Option.some.inj (hz.symm.trans g1);refine kf ?_;exact get_value (s:=up s h1 tk1) (λb o e=>(af.mp (F1.ground b o (X b o e))).2) I (KF.get c o) (findObj_own (KF.hasD c o) (KF.fld c a o ha) rfl g2) (z6 g3) (wpAny_bind (wpAny_letTemporaryGo (wpAny_pure (P.ok (.refl _ _) F1.store g3))))
 ·cases hz.symm.trans g1
theorem Bl {P:Heap} {a:Str} {z:AV} {v:Value} {t:Tok} (rz:aD w.params P z v) {ns:List Str}:∀{d:List AV} {es:List DictEntry},fz w.params P (ns.map .str) d es→
 fz w.params P ((ia ns d a z).1.map .str) (ia ns d a z).2 (putL a (PyData.keyHash w.params a) (.str a t) v es):=by
 induction ns with
 |nil=>intro d es r;cases r;exact .cons ⟨rfl,t,rfl⟩ rz .nil
 |cons x ns ih=>
  intro d es r;cases r with| @cons _ y e _ d es hk h r=>
  refine cps λG kf=> ?_
  obtain⟨hh,t',hk⟩:=hk;refine kf ?_;have e1:e.key.isStr a=seq a x:=by
   rw[hk,seq_eq];exact BEq.comm
  unfold putL;refine e1.symm▸?_;show fz _ _ ((match seq a x with|true=>(x::ns,z::d)|false=>(x::(ia ns d a z).1,y::(ia ns d a z).2)).1.map .str) (match seq a x with|true=>(x::ns,z::d)|false=>(x::(ia ns d a z).1,y::(ia ns d a z).2)).2 _;cases q:seq a x with
  |true=>exact .cons ⟨hh,t',hk⟩ rz r
  |false=>exact .cons ⟨hh,t',hk⟩ h (ih r)
theorem Ik {a x:Str} {z y:AV} {ns:List Str} {d:List AV}:(ia (x::ns) (y::d) a z).1=if a=x then x::ns else x::(ia ns d a z).1:=by
 show(match seq a x with|true=>(x::ns,z::d)|false=>(x::(ia ns d a z).1,y::(ia ns d a z).2)).1=_;by_cases q:a=x
 ·rw[bw.mpr q,if_pos q]
 ·rw[if_neg q,Bool.eq_false_iff.mpr λe=>q (bw.mp e)]
theorem xm {a:Str} {z:AV} {ns:List Str}:∀{d:List AV},ns.Nodup→((ia ns d a z).1).Nodup∧∀b∈(ia ns d a z).1,b=a∨b∈ns:=by
 induction ns with
 |nil=>exactλ_=>⟨List.nodup_cons.mpr ⟨λm=>(zE m),List.nodup_nil⟩,λb m=> .inl (List.mem_singleton.mp m)⟩
 |cons x ns ih=>
  intro d h;cases d with
  |nil=>exact⟨List.nodup_cons.mpr ⟨λm=>(zE m),List.nodup_nil⟩,λb m=> .inl (List.mem_singleton.mp m)⟩
  |cons y d=>
   obtain⟨h1,h2⟩:=List.nodup_cons.mp h;obtain⟨i1,i2⟩:=ih (d:=d) h2;rw[Ik];by_cases q:a=x
   ·rw[if_pos q];exact⟨h,λb m=> .inr m⟩
   ·rw[if_neg q];exact⟨List.nodup_cons.mpr ⟨λm=>(i2 _ m).elim (λe=>q e.symm) h1,i1⟩,λb m=>(List.mem_cons.mp m).elim (λe=> .inr (e▸List.mem_cons_self)) λm=>(i2 b m).imp id (List.mem_cons_of_mem _)⟩
theorem pe {a:Str} {hs:Int} {k v:Value}:∀(es:List DictEntry),(putL a hs k v es).length≤es.length+1:=by
 intro es
 induction es with
 |nil=>
  exact by simp [putL]
 |cons e r ih=>
  unfold putL;split
  ·simp
  ·have:=ih;simp only[List.length_cons];lia
theorem F3.len {α β γ:Type} {K:α→γ→Prop} {R:β→γ→Prop} {k:List α} {d:List β} {e:List γ} (t:F3 K R k d e):k.length=e.length∧d.length=e.length:=by
 induction t with
 |nil=>exact⟨rfl,rfl⟩
 |cons _ _ _ ih=>exact⟨congrArg (·+1) ih.1,congrArg (·+1) ih.2⟩
theorem uM {A:Around} {E:Value→Shared→Prop} {s:Shared} {q:Addr} {es:Array DictEntry} {m:Nat} {a:Str} {v:Value} {Q:Unit→Shared→Prop} (D:s.heap.get? q=some (aU es m)) (hk:es.toList.any (·.refKey)=false)
 (h:∀h',h'.get? q=some (dictOf (putL a (PyData.keyHash w.params a) (.str a s.toks) v es.toList) (PySem.W.putN a es.toList m))→aF [q] s.heap h'→Q () {s with heap:=h',toks:=s.toks+1}):wpAny (model PW w) A (nsSet q a v) Q E s:=by
 have e0:Obj.putName a (PyData.keyHash w.params a) (.str a s.toks) v (aU es m)=dictOf (putL a (PyData.keyHash w.params a) (.str a s.toks) v es.toList) (PySem.W.putN a es.toList m):=by
  have:=putName_dict a (PyData.keyHash w.params a) (.str a s.toks) v es.toList m;rwa [show dictOf es.toList m=aU es m from rfl] at this
 have D':(s.heap.update q (Obj.putName a (PyData.keyHash w.params a) (.str a s.toks) v)).get? q=some (dictOf (putL a (PyData.keyHash w.params a) (.str a s.toks) v es.toList) (PySem.W.putN a es.toList m)):=by
  rw[←e0];exact Heap.get?_update_self _ D (by rw[e0];rfl)
 unfold nsSet;refine wpAny_bind (wpAny_bind (wpAny_askSetting (wpAny_pure ?_)));refine wpAny_bind (wpAny_mkText (wpAny_bind (wpAny_loadPart D ?_)));dsimp only;have c:(!es.any (·.key.isStr a)&&es.any (·.refKey))=false:=by
  rw[show es.any (·.refKey)=false by rw[←Array.any_toList];exact hk,Bool.and_false]
 rw[aRefKeyMayBeTheName_at,c];refine wpAny_updatePart D ?_;exact h _ D' λb o hb e=>(Heap.get?_update_ne _ _ _ _ (λz=>hb (by rw[z];exact List.mem_singleton.mpr rfl))).trans e
theorem xy (KF:dW K) {c:Nat} {ns:List Str} {d:List AV} {a:Str} {z:AV} (hl:ns.length<100) (ha:dQ.contains a=true) {M:List Addr} {A:Around} {s:Shared} {p:Addr×Addr} {v:Value} {Q:Unit→Shared→Prop} {E:Value→Shared→Prop}
 (X:K.In s.heap) (hM:p.2∈M) (hx:ak w.params M s.heap (.inst c ns d) p) (rz:Rep w.params M s.heap z v)
 (k:∀h' tk,aF [p.2] s.heap h'→ak w.params M h' (.inst c (ia ns d a z).1 (ia ns d a z).2) p→Q () (up s h' tk)):wpAny (model PW w) A (setAttr (.ref p.1) a v) Q E s:=by
 refine cps λG kf=> ?_
 obtain⟨x,q⟩:=p;obtain⟨e1,es,m,e2,r,nd,o⟩:=hx;have e1':=(af.mp e1).2;have I:InstAt s.heap x (PySem.W.instObj (ae c) q) (ae c) (some (aU es m)):=⟨e1',rfl,rfl,e2⟩;obtain⟨cd,hc,hd⟩:=any_some (KF.hasD c o);refine kf ?_;refine set_plain X I (KF.set c o) (osa_open (s:={s with toks:=s.toks+1}) X I (KF.over c o) (by unfold takerIn;rw[KF.fld c a o ha];rfl) λb=> ?_);refine wpAny_bind (wpAny_pure (wpAny_bind (wpAny_bind (wpAny_loadPart e1' (wpAny_bind (looks_clsIn (h:=s.heap) X hc _ _ _ _ (λ_ _ e=>e) ?_))))));refine hd.symm▸?_;refine wpAny_pure (a:=some q) (wpAny_bind (wpAny_pure (wpAny_bind ?_)));refine uM (w:=w) (s:={s with toks:=s.toks+1}) e2 (noRefKey r) λh' D' kp=> ?_
 have hlen:=pe (a:=a) (hs:=PyData.keyHash w.params a) (k:= .str a (s.toks+1)) (v:=v) es.toList;have hrl:=r.len.1;rw[List.length_map] at hrl;have g:Ge (aG M s.heap) (aG M h'):=kp.aG λb m=>by rw[List.mem_singleton.mp m];exact hM
 refine wpAny_bind (wpAny_lookBehind D' (pastItsLine_dict (by rw[List.size_toArray,sizeLine_eq];dsimp only;lia)) (wpAny_pure ?_));exact k h' _ kp ⟨g _ _ e1,_,_,D',fz.mono g (Bl rz r),(xm nd).1,o⟩
end
set_option tactic.hygienic false
noncomputable def ownsTuple (T:String):Bool:=T=="frame"||["enumerate","zip","dict_itemiterator","dict_reverseitemiterator","odict_iterator","itertools.zip_longest","itertools.pairwise"].contains T
structure xA (w:World) (A:Around) (M:List Addr) (h0:Heap) (I:Addr) (fp:List Addr) (xs:List AV) (P:Nat→Value→Prop) (St:Nat→Heap→Prop):Prop where
 walk:Walks PW w A I fp [I] xs.length P St
 item:∀i v,P i v→i<xs.length→∃d,xs[i]? =some d∧aD w.params (aG M h0) d v
 fp:∀b∈fp,b=I∨xs=[]∨∃o,(aG M h0).get? b=some o
 new:h0.get? I=none
 plain:∀i h,St i h→∃o T,h.get? I=some o∧o.cls= .type T∧ownsTuple T=false
section
variable {w:World} {A:Around} {M:List Addr} {s:Shared} {Q:Value→Shared→Prop} {E:Value→Shared→Prop} {FL:List Env}
theorem D9 (n:Nat):∀(a b:Int) (i:Nat),i<n→(jw a b n)[i]? =some (.int (a+i*b)):=by
 induction n with
 |zero=>exactλ_ _ _ h=>absurd h (Nat.not_lt_zero _)
 |succ n ih=>
  intro a b i h;show(AV.int a::jw (a+b) b n)[i]? =_;cases i with
  |zero=>rw[List.getElem?_cons_zero,Int.natCast_zero,Int.zero_mul,Int.add_zero]
  |succ i=>rw[List.getElem?_cons_succ,ih (a+b) b i (Nat.lt_of_succ_lt_succ h),Int.natCast_add,Int.add_mul,Int.add_assoc,Int.add_comm b,Int.natCast_one,Int.one_mul]
theorem vV:∀(n:Nat) (a b:Int),(jw a b n).length=n:=by
 intro n
 induction n with
 |zero=>
  intro _ _;exact rfl
 |succ n ih=>
  intro a b;exact congrArg (·+1) (ih _ _)
theorem kO {a b c N:Int} (hN:0≤N) (h1:b -a≤N) (h2:a -b≤N):0≤PySem.Builtin.Range.rangeSize a b c∧PySem.Builtin.Range.rangeSize a b c≤N:=by
 have d:∀x y c:Int,x<y→0≤c→y -x≤N→0≤(y -x -1)/c+1∧(y -x -1)/c+1≤N:=λx y c l hc h=>
  have h0:0≤y -x -1:=Int.le_sub_one_of_lt (Int.sub_pos_of_lt l)
  ⟨Int.le_add_one (Int.ediv_nonneg h0 hc),Int.le_trans (Int.add_le_add_right (Int.ediv_le_self c h0) 1) (Int.le_trans (Int.le_of_eq (Int.sub_add_cancel (y -x) 1)) h)⟩
 unfold PySem.Builtin.Range.rangeSize;by_cases hc:c>0
 ·rw[if_pos hc];by_cases l:a<b
  ·rw[if_pos l];exact d a b c l (Int.le_of_lt hc) h1
  ·rw[if_neg l];exact⟨Int.le_refl 0,hN⟩
 ·rw[if_neg hc];by_cases l:a>b
  ·rw[if_pos l];exact d b a (-c) l (Int.neg_nonneg_of_nonpos (Int.not_lt.mp hc)) h2
  ·rw[if_neg l];exact⟨Int.le_refl 0,hN⟩
theorem lW (a b c:Int):0≤PySem.Builtin.Range.rangeSize a b c:=(kO (N:=(b -a).natAbs) (Int.natCast_nonneg _) Int.le_natAbs (by rw[←Int.neg_sub b a,←Int.natAbs_neg];exact Int.le_natAbs)).1
theorem fits {i:Int} (h: -(2^63)≤i) (h':i<2^63):PySem.Builtin.Range.rangeFitsLong i=true:=Bool.and_eq_true_iff.mpr ⟨decide_eq_true h,decide_eq_true h'⟩
theorem oU {b d:Int} (hb:small b=true) (h1: -(2^62)≤d) (h2:d≤2^62):PySem.Builtin.Range.rangeFitsLong (b+d)=true:=
 fits (Int.le_trans (by decide:(-(2^63):Int)≤-(2^62)+ -(2^62)) (Int.add_le_add (Int.le_of_lt (ee hb).1) h1)) (Int.lt_of_lt_of_le (Int.add_lt_add_of_lt_of_le (ee hb).2 h2) (by decide))
theorem v8 {a b c:Int} (ha:small a=true) (hb:small b=true) (hc:small c=true):PySem.Builtin.Range.small a b c=true:=by
 have s:∀{i:Int},small i=true→PySem.Builtin.Range.rangeFitsLong i=true:=λ{i} h=>by rw[←Int.add_zero i];exact oU h (by decide) (by decide)
 have d:∀{a b:Int},small a=true→small b=true→b -a≤2^62 - -(2^62) -1:=λha hb=>Int.le_sub_one_of_lt (Int.sub_lt_sub (ee hb).2 (ee ha).1)
 have n:=kO (c:=c) (by decide) (d ha hb) (d hb ha);have hc':=ee hc;refine Bool.and_eq_true_iff.mpr ⟨Bool.and_eq_true_iff.mpr ⟨Bool.and_eq_true_iff.mpr ⟨Bool.and_eq_true_iff.mpr ⟨s ha,s hb⟩,s hc⟩,fits (Int.le_trans (by decide) n.1) (Int.lt_of_le_of_lt n.2 (by decide))⟩,Bool.or_eq_true_iff.mpr (.inr ?_)⟩;by_cases h:c>0
 ·exact(if_pos h).trans (oU hb (Int.le_sub_one_of_lt hc'.1) (Int.le_of_lt (Int.sub_one_lt_of_le (Int.le_of_lt hc'.2))))
 ·exact(if_neg h).trans (oU hb (Int.le_add_one (Int.le_of_lt hc'.1)) hc'.2)
theorem lU {h:Heap} {a I:Addr} {o:Obj} (e:h.get? a=some o) (hn:h.get? I=none):a≠I:=λq=>by rw[q,hn] at e;exact zA e
theorem aN (h:Heap):h.get? h.objs.size=none:=by
 cases e:h.get? h.objs.size with
 |none=>rfl
 |some o=>exact absurd (Heap.lt_size e) (Nat.lt_irrefl _)
noncomputable abbrev pa (w:World) (A:Around) (M:List Addr) (s:Shared) (Q:Value→Shared→Prop) (E:Value→Shared→Prop) (xs:List AV) (u:Value):Prop:=(∀I fp P St o,I=s.heap.objs.size→o.isFreed=false→(s.heap.push o).get? I=some o→xA w A M s.heap I fp xs P St→St 0 (s.heap.push o)→Q (.ref I) (up s (s.heap.push o) s.toks))→wpAny (model PW w) A (pyIter u) Q E s
theorem vj {P:Heap} {l:List AV} {vs:Array Value} (r:aP w.params P l vs.toList) (i:Nat) (v:Value) (hv:vs[i]? =some v) (hi:i<l.length):∃d,l[i]? =some d∧aD w.params P d v:=
 (r.get (List.getElem?_eq_getElem hi)).elim λy x=>⟨_,List.getElem?_eq_getElem hi,Option.some.inj (((Array.getElem?_toList).trans hv).symm.trans x.1)▸x.2⟩
theorem Fh {l:List AV} {a:Addr} {vs:Array Value} {m:Nat} (e0:(aG M s.heap).get? a=some (bC vs m)) (e:s.heap.get? a=some (bC vs m)) (r:aP w.params (aG M s.heap) l vs.toList) (hl:l.length=vs.size) (hh:A.handled=none):pa w A M s Q E l (.ref a):=λK=>
 wpAny_pyIter_tuple ⟨_,e,rfl,m,rfl⟩ (K _ [s.heap.objs.size,a] (λi v=>vs[i]? =some v) (λi h=>h.IsTupleIter s.heap.objs.size a i∧h.IsTuple a vs) _ rfl rfl (Heap.get?_push_size _ rfl) ⟨by rw[hl];exact Walks.tuple hh _ a (lU e (aN s.heap)) vs,vj r,λb hb=>(List.mem_cons.mp hb).elim .inl λhb=> .inr (.inr ⟨bC vs m,by rw[List.mem_singleton.mp hb];exact e0⟩),aN _,λi h ⟨⟨o,ho,hc,_⟩,_⟩=>⟨o,_,ho,hc,by decide⟩⟩ ⟨⟨_,Heap.get?_push_size _ rfl,rfl,rfl⟩,⟨_,Heap.get?_push_of_some _ e,rfl,m,rfl⟩⟩)
theorem Dz {l:List AV} {a:Addr} {vs:Array Value} {m:Nat} (e:s.heap.get? a=some (aV vs m)) (r:aP w.params (aG M s.heap) l vs.toList) (hl:l.length=vs.size) (hv:l=[]∨∃o,(aG M s.heap).get? a=some o) (hh:A.handled=none):pa w A M s Q E l (.ref a):=λK=>
 wpAny_pyIter_list ⟨_,e,rfl,m,rfl⟩ (K _ [s.heap.objs.size,a] (λi v=>vs[i]? =some v) (λi h=>h.IsListIter s.heap.objs.size a i∧h.IsList a vs) _ rfl rfl (Heap.get?_push_size _ rfl) ⟨by rw[hl];exact Walks.list hh _ a (lU e (aN s.heap)) vs,vj r,λb hb=>(List.mem_cons.mp hb).elim .inl λhb=> .inr (by rw[List.mem_singleton.mp hb];exact hv),aN _,λi h ⟨⟨o,ho,hc,_⟩,_⟩=>⟨o,_,ho,hc,by decide⟩⟩ ⟨⟨_,Heap.get?_push_size _ rfl,rfl,rfl⟩,⟨_,Heap.get?_push_of_some _ e,rfl,m,rfl⟩⟩)
theorem wz (b:List UInt8) (t:Tok) (hh:A.handled=none):pa w A M s Q E (bInts b) (.bytes b.toArray t):=λK=>by
 refine KBw.pyIter_bytes (K _ [s.heap.objs.size] (λi v=>∃c u,b.toArray[i]? =some c∧v= .int (c.toNat:Int) u) (λi h=>KBw.IsBytesIter h s.heap.objs.size b.toArray t i) _ rfl rfl (Heap.get?_push_size _ rfl) ⟨?_,?_,λb hb=> .inl (List.mem_singleton.mp hb),aN _,λi h ⟨o,ho,hc,_⟩=>⟨o,_,ho,hc,by decide⟩⟩ ⟨_,Heap.get?_push_size _ rfl,rfl,rfl⟩)
 ·rw[show(bInts b).length=b.toArray.size from List.length_map _];exact KBw.walks (prog:=PW) (w:=w) hh s.heap.objs.size b.toArray t
 ·rintro i v ⟨c,u,hc,rfl⟩ hi
  refine⟨.int c.toNat,?_,.int _ _⟩;rw[List.getElem?_toArray] at hc;rw[bInts,List.getElem?_map,hc];rfl
theorem Dl (x:Str) (t:Tok) (hh:A.handled=none):pa w A M s Q E (cX x) (.str x t):=λK=>by
 refine wpAny_pyIter_strU (K _ [s.heap.objs.size] (SignAt x) (λi h=>h.IsStrIter s.heap.objs.size (strIterType x) x t i) _ rfl rfl (Heap.get?_push_size _ rfl) ⟨?_,?_,λb hb=> .inl (List.mem_singleton.mp hb),aN _,λi h ⟨o,ho,hc,_⟩=>⟨o,_,ho,hc,by unfold strIterType;split<;>decide⟩⟩ ⟨_,Heap.get?_push_size _ rfl,rfl,rfl⟩)
 ·refine(show(cX x).length=x.cps.size from(List.length_map _).trans Array.length_toList).symm▸?_;unfold strIterType;cases ha:x.cps.all (·<128)
  ·exact Walks.strWide (prog:=PW) (w:=w) hh s.heap.objs.size x t
  ·exact Walks.strAscii (prog:=PW) (w:=w) hh s.heap.objs.size x t
 ·rintro i v ⟨c,u,hc,rfl⟩ hi
  refine⟨.str ⟨#[c]⟩,?_,.str _ _ (by decide:1≤ao)⟩;rw[←Array.getElem?_toList] at hc;rw[cX,List.getElem?_map,hc];rfl
theorem B3 {a b c:Int} {p:Addr} {t u v:Tok} (e:(aG M s.heap).get? p=some (jN a b c t u v)) (ha:small a=true) (hb:small b=true) (hc:small c=true) (hh:A.handled=none):pa w A M s Q E (jw a c (kR a b c)) (.ref p):=by
 have q:((kR a b c:Nat):Int)=PySem.Builtin.Range.rangeSize a b c:=Int.toNat_of_nonneg (lW a b c);refineλK=>wpAny_pyIter_range (af.mp e).2 (v8 ha hb hc) (K _ [s.heap.objs.size] (λi v=>∃t,v= .int (a+i*c) t) (λi h=>IsRangeIter h s.heap.objs.size (a+(i:Nat)*c) (((kR a b c:Nat):Int) -(i:Nat)) c) _ rfl rfl (Heap.get?_push_size _ rfl) ⟨by rw[vV];exact Walks.range (prog:=PW) (w:=w) hh s.heap.objs.size a c (kR a b c),λi v ⟨t,e⟩ hi=>⟨_,D9 (kR a b c) a c i (by rw[vV] at hi;exact hi),e▸.int _ _⟩,λb hb=> .inl (List.mem_singleton.mp hb),aN _,λi h hr=>⟨_,_,hr,rfl,by decide⟩⟩ ?_)
 rw[q,Int.natCast_zero,Int.zero_mul,Int.add_zero,Int.sub_zero];exact Heap.get?_push_size s.heap (o:={cls:= .type "range_iterator",data:= .fields #[rawInt a,rawInt (PySem.Builtin.Range.rangeSize a b c),rawInt c]}) rfl
set_option tactic.hygienic true in
theorem yk {x:AV} {xs:List AV} (h:items x=some xs) {u:Value} (hx:aq w.params M s.heap x u) (hv:xs=[]∨aD w.params (aG M s.heap) x u) (hh:A.handled=none):pa w A M s Q E xs u:=by
 cases q:I0 x with
 |some p=>
  unfold items at h;rw[q] at h;obtain rfl:=Option.some.inj h;have:x= .rng p.1 p.2.1 p.2.2:=by cases x<;>first|exact Option.some.inj q▸rfl|exact zA q
  subst this;obtain⟨p,t,u,v,rfl,e,ha,hb,hc,h0⟩:=hx;exact B3 e ha hb hc hh
 |none=>
 unfold items at h;rw[q] at h;revert hx hv;refine(cR (Ψ:=λx m=>m=some xs→aq w.params M s.heap x u→(xs=[]∨aD w.params (aG M s.heap) x u)→pa w A M s Q E xs u) x (fI:=no) (fS:=λs=>some (cX s)) (fB:=λb=>some (bInts b)) (fT:=some) (fL:=some) (fD:=λk _=>if k.isEmpty=true then some [] else none) (d:=none) (λ_ e=>zA e) ?_ ?_ ?_ ?_ ?_ λ_ e=>zA e) h
 ·exactλx e hx _=>Option.some.inj e▸rS hx rfl λt _=>Dl x t hh
 ·exactλb e hx _=>Option.some.inj e▸rB hx rfl λt _=>wz b t hh
 ·exactλl e hx _=>Option.some.inj e▸rT hx rfl λa vs m e0 e r hl _=>Fh e0 e r hl hh
 ·intro l e hx hv;obtain rfl:=Option.some.inj e;obtain⟨⟨a,b⟩,rfl,e0,vs,m,e,r,_⟩:=hx;obtain rfl:a=b:=e0;refine Dz e r (r.length.trans Array.length_toList) (hv.imp id λhv=> ?_) hh;obtain⟨⟨p,q⟩,e1,e2,vs',n,e3,_⟩:=hv.out (g:=(aG M s.heap).get?) λ_ _ e=>e
  cases e1;obtain rfl:a=q:=e2;exact⟨_,e3⟩
 ·intro k d e hx _ K;cases k with
  |cons=>exact zA e
  |nil=>
  obtain rfl:=Option.some.inj e;obtain⟨a,es,m,rfl,hs,e,r,_⟩:=PS hx;obtain⟨vs,D,rl,hl⟩:=tT (iE w) (ks:=[]) e r List.nodup_nil;obtain⟨ep,D⟩:=D.dictAt;exact wpAny_pyIter_dict (beq_eq_false_iff_ne.mpr hs) D (K _ [s.heap.objs.size,a] _ _ _ rfl rfl (Heap.get?_push_size _ rfl) ⟨Walks.dictKeys (knd:=(iE w).knd) hh _ a (Nat.ne_of_lt D.lt_size) [] ep,λi v _ hi=>absurd hi (Nat.not_lt_zero _),λb _=> .inr (.inl rfl),aN _,λi h ⟨⟨o,ho,hc,_⟩,_⟩=>⟨o,_,ho,hc,by decide⟩⟩ ⟨⟨_,Heap.get?_push_size _ rfl,rfl,rfl⟩,D.push _⟩)
end
set_option tactic.hygienic false
open PySem.Builtin
theorem qb (sep:List UInt8) (r:List (List UInt8)):∀x:List UInt8,aL sep (x::r)=x++(r.map (sep++·)).flatten:=by
 induction r with
 |nil=>exactλx=>(List.append_nil x).symm
 |cons y r ih=>
  intro x;show x++sep++aL sep (y::r)=_;rw[ih,List.append_assoc,←List.append_assoc sep];rfl
theorem uo (sep:Array UInt8) (ps:List (Array UInt8)):∀(k:Nat) (out:Array UInt8),0<k→
 ((ps.zipIdx k).foldl (λout (x:Array UInt8×Nat)=>(if x.2>0 then out++sep else out)++x.1) out).toList=out.toList++((ps.map (·.toList)).map (sep.toList++·)).flatten:=by
 induction ps with
 |nil=>exactλ_ _ _=>(List.append_nil _).symm
 |cons p ps ih=>
  intro k out hk;rw[List.zipIdx_cons,List.foldl_cons,ih (k+1) _ (Nat.succ_pos k),if_pos hk,Array.toList_append,Array.toList_append,List.append_assoc,List.append_assoc,←List.append_assoc sep.toList];rfl
theorem A2 (sep:Array UInt8) (ps:List (Array UInt8)):(Bytes.joined sep ps).toList=aL sep.toList (ps.map (·.toList)):=by
 unfold Bytes.joined;cases ps with
 |nil=>rfl
 |cons p ps=>
  rw[List.map_cons,qb,List.zipIdx_cons,List.foldl_cons,uo sep ps 1 _ Nat.one_pos];exact congrArg (·++_) (congrArg Array.toList (Array.empty_append (xs:=p)))
theorem zv (n:Nat) (ps:List (Array UInt8)):∀c:Nat,ps.foldl (λn p=>n+p.size) (n*ps.length+c)=c+(ps.map λp=>n+p.size).sum:=by
 induction ps with
 |nil=>exactλc=>(Nat.zero_add c)
 |cons p ps ih=>
  intro c;rw[List.foldl_cons,List.map_cons,List.sum_cons,List.length_cons,Nat.mul_succ,show n*ps.length+n+c+p.size=n*ps.length+(c+(n+p.size)) by ac_rfl,ih,Nat.add_assoc]
theorem Ae (sep:Array UInt8) (ps:List (Array UInt8)):ps.foldl (λn p=>n+p.size) (sep.size*(ps.length -1))=(aL sep.toList (ps.map (·.toList))).length:=by
 cases ps with
 |nil=>rfl
 |cons x r=>
  rw[List.foldl_cons,List.length_cons,Nat.add_sub_cancel,zv,List.map_cons,qb,List.length_append,List.length_flatten,List.map_map,List.map_map];rw[show(List.length∘(sep.toList++·))∘(λp:Array UInt8=>p.toList)=λp=>sep.size+p.size from funext λp=>List.length_append];rfl
theorem zY {sep:Array UInt8} {parts:Array (Array UInt8)} {bs:List (List UInt8)} (hp:parts.toList.map (·.toList)=bs) (hz:(aL sep.toList bs).length≤1000000):
 Bytes.tooLong (parts.foldl (·+·.size) (sep.size*(parts.size -1)))=false∧Bytes.joined sep parts.toList=(aL sep.toList bs).toArray:=by
 subst hp;refine⟨KBy.tooLong_not ?_,Array.toList_inj.mp (A2 _ _)⟩;rw[←Array.foldl_toList];exact Nat.le_trans (Nat.le_of_eq (Ae sep parts.toList)) (Nat.le_trans hz (by decide))
set_option tactic.hygienic false
section
variable {w:World} {A:Around} {M:List Addr} {s:Shared} {Q:Value→Shared→Prop} {E:Value→Shared→Prop} {K:Frag} {FL:List Env}
theorem HY {id:String} {b:Array UInt8} {t:Tok}:PySem.Builtin.Bytes.takeBuffer? id (.bytes b t) 0=pure (some (b,none)):=by
 unfold PySem.Builtin.Bytes.takeBuffer?;rw[KBy.special_eq KBy.look_buffer,KBy.own_buffer];refine(pure_bind _ _).trans ?_;dsimp only;refine(pure_bind _ _).trans ?_;refine(if_neg (by decide)).trans ?_;refine(pure_bind _ _).trans ?_;show(PySem.Builtin.Bytes.buffer? id (.bytes b t) _>>=λr=>pure (r.map λx=>(x,none)))=_;rw[show((0:Int)==PySem.Builtin.Bytes.fullReadOnly)=false from by decide,KBy.buffer_eq];rfl
theorem E0 {id:String} {b:Array UInt8} {v:Value} (h:∃t,v= .bytes b t):PySem.Builtin.Bytes.takeBufferQuiet? id v 0=pure (some (b,none)):=by
 obtain⟨t,rfl⟩:=h;unfold PySem.Builtin.Bytes.takeBufferQuiet?;refine HY.symm▸?_;rfl
theorem ur:∀(taken:List (Value×Option Value)) (keep:List Value) {s:Shared} {Q:Unit→Shared→Prop},(∀p∈taken,p.2=none)→Q () s→wpAny (model PW w) A (PySem.Builtin.Bytes.joinLetGo taken keep) Q E s
 |[],_,_,_,_,q=>wpAny_pure q
 |(x,w')::r,keep,s,Q,h,q=>by
  have:w'=none:=h (x,w') List.mem_cons_self;subst this;show wpAny _ _ (letGo _ _>>=_) _ _ _;exact wpAny_bind (wpAny_letGo (ur r keep (λp m=>h p (List.mem_cons_of_mem _ m)) q))
theorem zQ {bs:List (List UInt8)} {vs:List Value} (h:∀(i:Nat) (v:Value),vs[i]? =some v→∃b t,v= .bytes b t∧bs[i]? =some b.toList) (hl:bs.length=vs.length):∃g:Nat→Array UInt8,(∀i,i<vs.length→∃t,vs.toArray.getD i .none= .bytes (g i) t)∧∀i,i<vs.length→bs[i]? =some (g i).toList:=by
 refine⟨λi=>(bs.getD i []).toArray,λi hi=> ?_,λi hi=> ?_⟩
 ·obtain⟨b,t,e,hb⟩:=h i vs[i] (List.getElem?_eq_getElem hi);refine⟨t,?_⟩;show vs.toArray.getD i .none= .bytes (bs.getD i []).toArray t;rw[List.getD_eq_getElem?_getD,hb,Array.getD_eq_getD_getElem?,List.getElem?_toArray,List.getElem?_eq_getElem hi];exact e
 ·show _=some (bs.getD i []);rw[List.getD_eq_getElem?_getD,List.getElem?_eq_getElem (hl.symm▸hi)];rfl
structure JI (bs:List (List UInt8)) (i:Nat) (st:Array (Array UInt8)×List (Value×Option Value)):Prop where
 p:st.1.toList.map (·.toList)=bs.take i
 t:∀p∈st.2,p.2=none∧p.1.onHeap=false
theorem JI.push {bs:List (List UInt8)} {i:Nat} {ps:Array (Array UInt8)} {tk:List (Value×Option Value)} {b:Array UInt8} {v:Value} (J:JI bs i (ps,tk)) (hv:∃t,v= .bytes b t) (e:bs[i]? =some b.toList):JI bs (i+1) (ps.push b,tk++[(v,none)]):=
 ⟨by rw[Array.toList_push,List.map_append,J.p,List.take_add_one,e];rfl,λp m=>(List.mem_append.mp m).elim (J.t p) λm=>List.mem_singleton.mp m▸⟨rfl,hv.elim λt e=>e▸rfl⟩⟩
theorem JI.any {bs:List (List UInt8)} {i:Nat} {st:Array (Array UInt8)×List (Value×Option Value)} (J:JI bs i st):st.2.any (λx=>x.1.onHeap)=false:=List.any_eq_false.mpr λp m=>by rw[(J.t p m).2];exact Bool.false_ne_true
theorem xk {β:Type} (F:Nat→β→Sem (ForInStep β)) (I:Nat→β→Prop) {Q:β→Shared→Prop} {n:Nat} (turn:∀i b (Q:ForInStep β→Shared→Prop),i<n→I i b→(∀b',I (i+1) b'→Q (.yield b') s)→wpAny (model PW w) A (F i b) Q E s) (fin:∀b,I n b→Q b s) (m:Nat):∀i b,i+m=n→I i b→wpAny (model PW w) A (forIn (List.range' i m) b F) Q E s:=by
 induction m with
 |zero=>intro i b e h;rw[List.range'_zero,List.forIn_nil];exact wpAny_pure (fin b (e▸h))
 |succ m ih=>
  intro i b e h;rw[List.range'_succ,List.forIn_cons];exact wpAny_bind (turn i b _ (e▸Nat.lt_add_of_pos_right (Nat.succ_pos m)) h λb' h'=>ih (i+1) b' ((Nat.succ_add_eq_add_succ i m).trans e) h')
theorem Gm {α:Type} {vs:List Value} (h:vs.length≠1) (f:Value→α) (g:Array Value→α):PySem.Builtin.Bytes.joinM.match_1 (λ_=>α) vs.toArray f g=g vs.toArray:=by
 cases vs with
 |nil=>rfl
 |cons x r=>cases r with
  |nil=>exact absurd rfl h
  |cons y r=>rfl
theorem uH {P:Heap} {l:List AV} {vs:List Value} (r:aP w.params P l vs):l.all NF=true→(l.map hV).length=vs.length∧∀(i:Nat) (v:Value),vs[i]? =some v→∃(b:Array UInt8) (t:Tok),v= .bytes b t∧(l.map hV)[i]? =some b.toList:=by
 induction r with
 |nil=>exactλ_=>⟨rfl,λi v e=>zA e⟩
 |cons a r ih=>
  intro h;have h:=Bool.and_eq_true_iff.mp h;have h1:=(ih h.2).1;have h2:=(ih h.2).2;obtain⟨b,hb⟩:=Option.isSome_iff_exists.mp h.1;obtain rfl:=iI hb;obtain⟨_,t,rfl⟩:=a.out (g:=P.get?) λ_ _ e=>e
  refine⟨congrArg (·+1) h1,λi v e=> ?_⟩;cases i with
  |zero=>obtain rfl:=Option.some.inj e;exact⟨_,_,rfl,rfl⟩
  |succ i=>exact h2 i v e
theorem xY {a:Addr} {vs:Array Value} {n:Nat} (e:s.heap.get? a=some (aV vs n)) (k:Q (.ref a) s):wpAny (model PW w) A (PySem.Builtin.Bytes.joinItems (.ref a)) Q E s:=by
 unfold PySem.Builtin.Bytes.joinItems;exact wpAny_bind (wpAny_typeOf ⟨_,e,rfl⟩ (wpAny_ite_true rfl (wpAny_pure k)))
theorem wF (n:Nat):Std.Legacy.Range.size [:n]=n:=by
 show(n -0+1 -1)/1=n;rw[Nat.div_one];rfl
theorem Et (n:Nat):¬(n !=n)=true:=by rw[bne_self_eq_false];exact Bool.false_ne_true
theorem Dv {bs:List (List UInt8)} {vs:List Value} {sep:List UInt8} (h1:bs.length=vs.length) (h2:∀(i:Nat) (v:Value),vs[i]? =some v→∃(b:Array UInt8) (t:Tok),v= .bytes b t∧bs[i]? =some b.toList) (q:vs.length=1):∃(b:Array UInt8) (t:Tok),vs=[.bytes b t]∧(aL sep bs).toArray=b:=by
 obtain⟨x,rfl⟩:=List.length_eq_one_iff.mp q;obtain⟨y,rfl⟩:=List.length_eq_one_iff.mp h1;obtain⟨b,t',rfl,hb⟩:=h2 0 x rfl;obtain rfl:=Option.some.inj hb;exact⟨b,t',rfl,rfl⟩
theorem Lw {α:Type} {vs:List Value} {x:Value} (h:vs=[x]) (f:Value→α) (g:Array Value→α):PySem.Builtin.Bytes.joinM.match_1 (λ_=>α) vs.toArray f g=f x:=by rw[h];rfl
theorem xQ {sep:List UInt8} {t:Tok} {l:List AV} {u:Value} (hx:aq w.params M s.heap (.lst l) u) (h:l.all NF=true) (hz:(aL sep (l.map hV)).length≤ao)
 (k:∀t' tk,Q (.bytes (aL sep (l.map hV)).toArray t') (up s s.heap tk)):wpAny (model PW w) A (call (.builtin "bytes.join") [.bytes sep.toArray t,u]) Q E s:=by
 refine rL hx rfl λa vs n e r hl _=> ?_
 obtain⟨h1,h2⟩:=uH r h;clear r hl hx h;generalize l.map hV=bs at*;obtain⟨vs⟩:=vs;obtain⟨g,g1,g2⟩:=zQ h2 h1;refine wpAny_call_entry hO (typeIs_bytes _ _ _) lV ?_ (ku _ _);unfold PySem.Builtin.«bytes.join» PySem.Builtin.Bytes.joinM;refine wpAny_bind (wpAny_of_eq (show selfAndOne _ ⟨[.bytes sep.toArray t,.ref a],[]⟩=pure (.bytes sep.toArray t,.ref a) from rfl) ?_);dsimp only;refine wpAny_bind (xY e (wpAny_bind (wpAny_seqItems e rfl ?_)));refine wpAny_ite_true rfl ?_;refine cps λG kf=> ?_
 by_cases q:vs.length=1
 ·obtain⟨b,t',e1,e2⟩:=Dv h1 h2 q;refine kf ((Lw e1 _ _).symm▸?_);refine wpAny_bind (m:=typeOf (.bytes b t')) (wpAny_typeOf (typeIs_bytes _ _ _) ?_);exact wpAny_ite_true rfl (wpAny_bind (wpAny_rule (wpAny_pure ⟨_,rfl,e2▸k t' s.toks⟩)))
 ·refine kf ((Gm q _ _).symm▸?_);refine wpAny_bind (m:=forIn _ _ _) ?_;rw[Std.Legacy.Range.forIn_eq_forIn_range',wF];refine xk _ (JI bs) ?_ ?_ _ 0 _ (Nat.zero_add _) ⟨rfl,λ_ m=>zE m⟩
  ·intro i st Q hi J K;refine wpAny_bind (wpAny_seqItems e rfl (wpAny_ite_false (by rw[J.any];rfl) ?_));refine wpAny_bind (wpAny_holding (wpAny_of_eq (E0 (g1 i hi)) ?_));refine wpAny_bind (wpAny_seqItems e rfl ?_);exact wpAny_ite_false (decide_eq_false (Et _)) (wpAny_pure (K _ (J.push (g1 i hi) (g2 i hi))))
  ·intro st J;have f:=zY (sep:=sep.toArray) (J.p.trans (List.take_of_length_le (Nat.le_of_eq h1))) (lq▸hz);refine wpAny_bind (wpAny_of_eq (a:=sep.toArray) rfl ?_);refine wpAny_ite_false (by rw[f.1];rfl) ?_;refine f.2.symm▸?_;refine wpAny_bind (wpAny_mkBytes ?_ (Nat.le_of_lt (E4 (n:=(aL sep bs).length) hz)));refine wpAny_bind (wpAny_holding (wpAny_point ?_));exact wpAny_bind (ur _ _ (λp m=>(J.t p m).1) (wpAny_pure ⟨_,rfl,k _ _⟩))
theorem Lm {P:Heap} {pr:Params}:∀{bs:List (List UInt8)} {s:Shared} {Q:List Value→Shared→Prop},(∀b∈bs,b.length≤ao)→(∀vs tk,aP pr P (bs.map .bytes) vs→Q vs (up s s.heap tk))→wpAny (model PW w) A ((bs.map (·.toArray)).mapM PySem.Builtin.Bytes.Kind.bytes.new) Q E s:=by
 intro bs
 induction bs with
 |nil=>
  intro s Q _ k;exact by rw[List.map_nil,List.mapM_nil];exact wpAny_pure (k [] s.toks .nil)
 |cons b bs ih=>
  intro s Q h k;rw[List.map_cons,List.mapM_cons];have hb:=h b List.mem_cons_self;refine wpAny_bind (wpAny_mkBytes ?_ (by simp only[List.size_toArray];rw[iz];rw[lq] at hb;omega));refine wpAny_bind (ih (λb m=>h b (List.mem_cons_of_mem _ m)) λvs tk r=>wpAny_pure (k _ tk (.cons (.bytes _ _ hb) r)))
theorem xv (b p:List UInt8) (qs:List Nat):∀l,∀x∈uu b p qs l,x.length≤b.length:=by
 induction qs with
 |nil=>exactλl x m=>List.mem_singleton.mp m▸(List.drop_sublist l b).length_le
 |cons q qs ih=>exactλl x m=>(List.mem_cons.mp m).elim (λe=>e▸((List.take_sublist _ _).trans (List.drop_sublist l b)).length_le) (ih _ x)
theorem Gg {P:Heap} {pr:Params} {bs:List (List UInt8)} {L:List (Array UInt8)} {s:Shared} {Q:List Value→Shared→Prop} (e:L=bs.map (·.toArray)) (h:∀b∈bs,b.length≤ao) (k:∀vs tk,aP pr P (bs.map .bytes) vs→Q vs (up s s.heap tk)):wpAny (model PW w) A (L.mapM PySem.Builtin.Bytes.Kind.bytes.new) Q E s:=e.symm▸Lm h k
theorem jS (b:List UInt8) (a:UInt8) (p:List UInt8):(PySem.Builtin.Bytes.occurrences b.toArray (a::p).toArray 0 b.length).take (b.length+1)=fN (a::p) b 0 0:=by
 rw[EF];exact List.take_of_length_le (Nat.le_succ_of_le (E8 (a::p) b 0 0))
theorem r5 {L:List (List UInt8)} {vs:List Value} {tk:Nat} (lv:bG M s.heap) (hL:L.length≤ao) (r:aP w.params (aG M s.heap) (L.map .bytes) vs) (k:∀v' h' tk,aF [] s.heap h'→Rep w.params M h' (.lst (L.map .bytes)) v'→Q v' (up s h' tk)):
 wpAny (model PW w) A (newList vs) (λv s'=>wpAny (model PW w) A (ret v) (λfin s'=>∃v,fin= .done (.ret v)∧Q v s') E s') E (up s s.heap tk):=by
 have hl:(L.map AV.bytes).length≤ao:=List.length_map (as:=L) AV.bytes▸hL;refine wpAny_newList ?_ (bO (r.length▸hl));exact wpAny_pure ⟨_,rfl,k _ (s.heap.push (aV vs.toArray 0)) tk (aH _ _ _) (dY lv r hl)⟩
theorem uz {b p:List UInt8} {t u:Tok} (hp:p.isEmpty=false) (hb:b.length≤ao) (hl:(cL p b.length [] b).length≤ao) (lv:bG M s.heap)
 (k:∀v' h' tk,aF [] s.heap h'→Rep w.params M h' (.lst ((cL p b.length [] b).map .bytes)) v'→Q v' (up s h' tk)):wpAny (model PW w) A (call (.builtin "bytes.split") [.bytes b.toArray t,.bytes p.toArray u]) Q E s:=by
 cases p with
 |nil=>exact zD hp
 |cons a p=>
 rw[show cL (a::p) b.length [] b=uu b (a::p) (fN (a::p) b 0 0) 0 from zo b a p b.length [] [] b rfl (Nat.le_refl _)] at hl k;refine wpAny_call_entry gi (typeIs_bytes _ _ _) jW ?_ (jy _ _);unfold PySem.Builtin.«bytes.split» PySem.Builtin.Bytes.splitM;dsimp only;refine wpAny_bind (wpAny_of_eq (a:=[some (.bytes (a::p).toArray u),none]) (by kernel_rfl) ?_);dsimp only;refine wpAny_bind (wpAny_pure (wpAny_bind (wpAny_of_eq (a:=b.toArray) rfl ?_)));refine wpAny_bind (wpAny_of_eq kB (wpAny_ite_false rfl ?_));refine wpAny_ite_split (λq=> ?_) λq=> ?_
 ·have e:fN (a::p) b 0 0=[]:=List.isEmpty_iff.mp ((congrArg List.isEmpty (jS b a p)).symm.trans q);rw[e] at k;exact wpAny_bind (wpAny_rule (wpAny_bind (wpAny_bind (wpAny_typeOf (typeIs_bytes _ _ _) (wpAny_pure (wpAny_bind (r5 (L:=[b]) lv (show 1≤ao by decide) (.cons (.bytes _ _ hb) .nil) k)))))))
 ·exact wpAny_bind (Gg ((congrArg (PySem.Builtin.Bytes.between _ _) (jS b a p)).trans (xX _ _ _)) (λx m=>Nat.le_trans (xv _ _ _ _ x m) hb) λvs tk r=>wpAny_bind (r5 lv hl r k))
theorem zp (g:Str) (hg:g.cps= #[]):∀(ps:List Str) (acc:Array Nat),(ps.foldl (λacc p=>acc++g.cps++p.cps) acc).toList=acc.toList++(ps.map λx=>x.cps.toList).flatten:=by
 intro ps
 induction ps with
 |nil=>
  intro acc;exact by simp
 |cons p ps ih=>
  intro acc;rw[List.foldl_cons,ih,hg];simp
theorem DS (g:Str) (hg:g.cps= #[]) (ps:List Str):PySem.Builtin.Str.glued g ps=ta ps:=by
 unfold PySem.Builtin.Str.glued ta;congr 1
 apply Array.toList_inj.mp;rw[zp g hg];cases ps with
 |nil=>rfl
 |cons p ps=>simp
theorem Ed (g:Str) (hg:g.cps= #[]):∀(ps:List Str) (c:Nat),ps.foldl (λn p=>n+p.length+g.length) c=c+(ps.map λx=>x.cps.toList).flatten.length:=by
 intro ps
 induction ps with
 |nil=>
  intro c;exact by simp
 |cons p ps ih=>
  intro c;have h0:g.length=0:=by show g.cps.size=0;rw[hg];rfl
  rw[List.foldl_cons,ih,h0];have:p.length=p.cps.toList.length:=by show p.cps.size=_;simp
  simp only[List.map_cons,List.flatten_cons,List.length_append,this];lia
theorem wR {P:Heap} {l:List AV} {vs:List Value} (r:aP w.params P l vs):l.all wx=true→∃ps:List (Str×Tok),vs=PySem.strValues ps∧ps.map (·.1)=l.map i5:=by
 induction r with
 |nil=>exactλ_=>⟨[],rfl,rfl⟩
 |cons a r ih=>
  intro h;have h:=Bool.and_eq_true_iff.mp h;obtain⟨ps,h1,h2⟩:=ih h.2;obtain⟨b,hb⟩:=Option.isSome_iff_exists.mp h.1;obtain rfl:=eR hb;obtain⟨_,t,rfl⟩:=a.out (g:=P.get?) λ_ _ e=>e
  exact⟨(_,t)::ps,by rw[h1];rfl,by rw[List.map_cons,h2];rfl⟩
theorem xJ {x:Str} {t:Tok} {l:List AV} {u:Value} (hx:aq w.params M s.heap (.lst l) u) (h0:x.cps.size=0) (h:l.all wx=true) (hz:(ta (l.map i5)).length≤ao)
 (k:∀t' tk,Q (.str (ta (l.map i5)) t') (up s s.heap tk)):wpAny (model PW w) A (call (.builtin "str.join") [.str x t,u]) Q E s:=by
 refine rL hx rfl λa vs n e r hl _=> ?_
 obtain⟨ps,h1,h2⟩:=wR r h;generalize l.map i5=ts at*;have hg:x.cps= #[]:=Array.eq_empty_of_size_eq_zero h0;have hvs:vs=(PySem.strValues ps).toArray:=by rw[←h1]
 refine SC.join (l:=ps) (texts:=ts) ⟨_,e,rfl,n,by rw[hvs]⟩ h2 ?_ λt' tk=> ?_
 ·unfold JoinOk;rw[Bool.not_eq_true',←Array.foldl_toList,List.toList_toArray,Ed x hg];have:(ta ts).length=(ts.map λx=>x.cps.toList).flatten.length:=by show(ta ts).cps.size=_;simp [ta]
  rw[this,lq] at hz;refine decide_eq_false ?_;rw[iz];lia
 ·show Q (.str (PySem.Builtin.Str.glued x ts) t') _;rw[DS x hg];exact k t' tk
theorem o9 {a:Addr} {vs:Array Value} {n:Nat} {f:Array Value→Array Value} {h:Heap} (e:h.get? a=some (aV vs n)):∃n',(h.update a (Obj.mapSeq f)).get? a=some (aV (f vs) n'):=by
 refine⟨_,Heap.get?_update_self _ e ?_⟩;rfl
theorem d0 {a:Addr} {f:Obj→Obj} {h:Heap}:aF [a] h (h.update a f):=λb o hb e=>(Heap.get?_update_ne _ _ _ _ (λq=>hb (by rw[q];exact List.mem_singleton.mpr rfl))).trans e
theorem ak.Kt {l:List AV} {p:Addr×Addr} {G:Prop} (hx:ak w.params M s.heap (.lst l) p) (k:∀vs n,p.1=p.2→s.heap.get? p.2=some (aV vs n)→aP w.params (aG M s.heap) l vs.toList→l.length=vs.size→l.length≤ao→G):G:=by
 obtain⟨e0,vs,n,e,r,hb⟩:=hx;exact k vs n e0 e r (r.length.trans Array.length_toList) hb
theorem td {l:List AV} {p:Addr×Addr} {h h':Heap} {vs:Array Value} {n:Nat} (kp:aF [p.2] h h') (e0:p.1=p.2) (e':h'.get? p.2=some (aV vs n)) (hM:p.2∈M) (r:aP w.params (aG M h) l vs.toList) (hb:l.length≤ao):ak w.params M h' (.lst l) p:=
 ⟨e0,_,n,e',aP.mono (kp.aG λb m=>List.mem_singleton.mp m▸hM) r,hb⟩
theorem mZ {l:List AV} {p:Addr×Addr} {x:AV} {v:Value} (hx:ak w.params M s.heap (.lst l) p) (hM:p.2∈M) (hv:Rep w.params M s.heap x v) (hl:l.length<ao)
 (k:∀h',aF [p.2] s.heap h'→ak w.params M h' (.lst (l++[x])) p→Q .none (up s h' s.toks)):wpAny (model PW w) A (call (.builtin "list.append") [.ref p.1,v]) Q E s:=by
 refine hx.Kt λvs n e0 e r hlen _=>e0.symm▸?_
 refine wpAny_list_append_plain ⟨n,e⟩ (λh' q sb=>q.elim λn' e'=> ?_) (hlen▸bO (Nat.le_of_lt hl));have kp:aF [p.2] s.heap h':=λb o hb e=>sb.extBut b o (λq=>hb (q▸List.mem_singleton.mpr rfl)) e
 exact k h' kp (td kp e0 e' hM (by rw[Array.toList_push];exact F2.append r (.cons hv .nil)) (by rw[List.length_append];exact hl))
theorem Bh {vs ws:Array Value} (h:vs.size+ws.size≤ao):decide ((!vs.isEmpty&&Builtin.List.listTooLong (vs.size+ws.size))=true)=false:=decide_eq_false λq=>absurd (of_decide_eq_true (Bool.and_eq_true_iff.mp q).2) (Nat.not_lt.mpr (bO h))
theorem vp {l l2:List AV} {p:Addr×Addr} {v:Value} (hx:ak w.params M s.heap (.lst l) p) (hM:p.2∈M) (hv:Rep w.params M s.heap (.lst l2) v) (hl:l.length+l2.length≤ao)
 (k:∀h' tk,aF [p.2] s.heap h'→ak w.params M h' (.lst (l++l2)) p→Q .none (up s h' tk)):wpAny (model PW w) A (call (.builtin "list.extend") [.ref p.1,v]) Q E s:=by
 refine hx.Kt λvs n e0 e r hlen hb=>e0.symm▸?_
 refine rL (aq.t8 hv) rfl λa2 ws n2 e2 r2 hlen2 _=> ?_
 have fits:vs.size+ws.size≤ao:=hlen▸hlen2▸hl;have m:∀n',(s.heap.update p.2 (Obj.mapSeq (·++ws))).get? p.2=some (aV (vs++ws) n')→ak w.params M (s.heap.update p.2 (Obj.mapSeq (·++ws))) (.lst (l++l2)) p:=λn' e'=>td d0 e0 e' hM (by rw[Array.toList_append];exact F2.append r r2) (by rw[List.length_append];exact hl)
 refine wpAny_call_entry F.slot_list_extend ⟨_,e,rfl⟩ F.entry_list_extend ?_ (F.args_list_extend_2 _ _);show wpAny _ A.in1 (Builtin.List.listExtendWith (.ref p.2) (.ref a2) .none) _ _ _;unfold Builtin.List.listExtendWith;refine wpAny_bind (wpAny_typeOf ⟨_,e2,rfl⟩ ?_);refine wpAny_ite_true (decide_eq_true (Bool.or_eq_true_iff.mpr (.inl (Bool.or_eq_true_iff.mpr (.inr (by decide)))))) ?_;refine wpAny_bind (listItems_at e2 rfl (wpAny_bind (listItems_at e rfl (wpAny_ite_false (Bh fits) ?_))));exact wpAny_bind (listUpdate_at e rfl (wpAny_pure ⟨_,rfl,k _ _ d0 ((o9 e).elim m)⟩) (hlen▸bO hb) (by rw[Array.size_append];exact Nat.le_succ_of_le (bO fits)))
theorem pop_at {vs:Array Value} {l:Nat} {v:Value} (h:l+1=vs.size) (hv:vs.toList[l]? =some v):((seqIndex? (-1) vs.size).bind λk=>vs[k]?.map (k,·))=some (l,v):=by
 have e: -1+((l+1:Nat):Int)=(l:Int):=by rw[Int.natCast_succ,Int.add_comm];exact Int.add_neg_cancel_right _ 1
 have hi:seqIndex? (-1) (l+1)=some l:=by
  show(if(decide (0≤-1+((l+1:Nat):Int))&&decide (-1+((l+1:Nat):Int)<((l+1:Nat):Int)))=true then some (-1+((l+1:Nat):Int)).toNat else none)=_;rw[e];exact if_pos (Bool.and_eq_true_iff.mpr ⟨decide_eq_true (Int.natCast_nonneg l),decide_eq_true (Int.ofNat_lt.mpr (Nat.lt_succ_self l))⟩)
 rw[←h,hi,Option.bind_some,←Array.getElem?_toList,hv];rfl
theorem yj {vs:Array Value} {l:Nat} (h:l+1=vs.size):(vs.eraseIdxIfInBounds l).toList=vs.toList.take l:=by
 unfold Array.eraseIdxIfInBounds;rw[dif_pos (h▸Nat.lt_succ_self l),Array.toList_eraseIdx,List.eraseIdx_eq_take_drop_succ,List.drop_eq_nil_of_le (by rw[Array.length_toList];exact Nat.le_of_eq h.symm),List.append_nil]
theorem Ff {l:List AV} {x:AV} {p:Addr×Addr} (hx:ak w.params M s.heap (.lst (l++[x])) p) (hM:p.2∈M)
 (k:∀v h' tk,aF [p.2] s.heap h'→Rep w.params M h' x v→ak w.params M h' (.lst l) p→Q v (up s h' tk)):wpAny (model PW w) A (call (.builtin "list.pop") [.ref p.1]) Q E s:=by
 refine hx.Kt λvs n e0 e r hlen hb=>e0.symm▸?_
 have h1:l.length+1=vs.size:=List.length_append.symm.trans hlen;have hl:l.length≤ao:=Nat.le_of_lt (Nat.lt_of_lt_of_le (Nat.lt_succ_self _) (Nat.le_trans (Nat.le_of_eq (List.length_append (as:=l) (bs:=[x])).symm) hb));obtain⟨v,hv,rv⟩:=r.get (i:=l.length) (x:=x) List.getElem?_concat_length;have m:∀n',(s.heap.update p.2 (Obj.mapSeq (·.eraseIdxIfInBounds l.length))).get? p.2=some (aV (vs.eraseIdxIfInBounds l.length) n')→ak w.params M (s.heap.update p.2 (Obj.mapSeq (·.eraseIdxIfInBounds l.length))) (.lst l) p:=λn' e'=>td d0 e0 e' hM (by have q:=r.take l.length;rw[List.take_left] at q;rw[yj h1];exact q) hl
 refine wpAny_call_entry F.slot_list_pop ⟨_,e,rfl⟩ F.entry_list_pop ?_ (F.args_list_pop_1 _);unfold Builtin.«list.pop»;refine wpAny_bind (wpAny_of_eq (a:=(.ref p.2,[])) rfl (wpAny_bind (wpAny_pure (wpAny_ite_false rfl (wpAny_bind (listItems_at e rfl (wpAny_ite_false ?_ ?_)))))))
 ·exact decide_eq_false λq=>nomatch h1.trans (Array.isEmpty_iff_size_eq_zero.mp q)
 ·rw[pop_at h1 hv];exact wpAny_bind (listUpdate_at e rfl (wpAny_pure ⟨_,rfl,k _ _ _ d0 (aD.mono (d0.aG λb m=>List.mem_singleton.mp m▸hM) rv) ((o9 e).elim m)⟩) (hlen▸bO hb) (by rw[←Array.length_toList,yj h1,List.length_take];exact Nat.le_succ_of_le (Nat.le_trans (Nat.min_le_left _ _) (bO hl))))
end
set_option tactic.hygienic false
section
variable {w:World} {A:Around} {s:Shared} {E:Value→Shared→Prop}
open PySem PySem.W in
theorem sY {d:Addr} {kvs:List (Str×Value)} {ep:Nat} {Q:List Value→Shared→Prop} (hd:(d==sysModules)=false) (hm:s.heap.DictAt (PySem.strKind PW w) d kvs ep) (hh:A.handled=none) (hn:kvs.length≤1000)
 (hQ:∀h' tk vs,aF [] s.heap h'→ItemsOf (λi v=>∃k x,kvs[i]? =some (k,x)∧(PySem.strKind PW w).is k v=true) (List.toArray vs) kvs.length→Q vs (up s h' tk)):
 wpAny (model PW w) A (collect (.ref d)) Q E s:=by
 unfold collect;refine wpAny_bind (wpAny_runValue (codeAny_builtin F.entry_proto_collect ?_));refine(Around.under_plainId F.plain_proto_collect _).symm▸?_;show wpAny _ A.in1 (newList []>>=λl=>again (.builtin "list.__iadd__" ⟨[l,.ref d],[]⟩)) _ _ s;refine wpAny_bind (wpAny_newObj_type ?_);refine wpAny_pure ⟨plainId_quiet F.plain_list_iadd _,codeAny_builtin F.entry_list_iadd ?_⟩;refine(Around.under_plainId F.plain_list_iadd _).symm▸?_;show wpAny _ A.in1 (Builtin.List.listExtendWith (.ref s.heap.objs.size) (.ref d) (.ref s.heap.objs.size)) _ _ _;have hS:(s.heap.push {cls:= .type "list",data:= .seq ([]:List Value).toArray}).get? s.heap.objs.size=some {cls:= .type "list",data:= .seq #[] 0}:=Heap.get?_push_size _ rfl;have ne:s.heap.objs.size≠d:=Ne.symm (Nat.ne_of_lt hm.lt_size);have fin':∀s',(∃h' tk acc c,s'=up s h' tk∧aF [] s.heap h'∧h'.get? s.heap.objs.size=some {cls:= .type "list",dict:=none,data:= .seq acc c,slots:= #[]}∧ItemsOf (λi v=>∃k x,kvs[i]? =some (k,x)∧(PySem.strKind PW w).is k v=true) acc kvs.length)→
  wpAny (model PW w) A (load s.heap.objs.size>>=λo=>match o.data with| .seq xs _=>pure xs.toList|_=>unsupported "internal:collect") Q E s':=by
  rintro s' ⟨h',tk,acc,c,rfl,kp,e,it⟩
  exact wpAny_bind (wpAny_load e (wpAny_pure (hQ h' tk acc.toList kp (by simpa using it))))
 refine wpAny_mono (kdl_extend (s:={s with heap:=s.heap.push {cls:= .type "list",data:= .seq ([]:List Value).toArray}})
  (R:=λr s'=>r= .ok (.ret (.ref s.heap.objs.size))∧∃h' tk acc c,s'=up s h' tk∧aF [] s.heap h'∧h'.get? s.heap.objs.size=some {cls:= .type "list",dict:=none,data:= .seq acc c,slots:= #[]}∧ItemsOf (λi v=>∃k x,kvs[i]? =some (k,x)∧(PySem.strKind PW w).is k v=true) acc kvs.length)
  (kdl_dict (kvs:=kvs) (ep:=ep) (knd:=PySem.strKind PW w) hd) hh (hm.push _) s.heap.objs.size ne ne (.ref s.heap.objs.size) 0 hS (λh' tk acc c kp e it=>⟨rfl,h',tk,acc,c,rfl,λb o _ he=>kp b o (Nat.ne_of_lt (Heap.lt_size he)) (Heap.get?_push_of_some _ he),e,it⟩) (by rw[sizeLine_eq];omega)) (λfin s' h=> ?_) (λe s' h=>absurd h.1 (by simp))
 cases fin with
 |done f=>obtain⟨e,h⟩:=h;cases e;exact fin' _ h
 |again c'=>exact⟨h.1,codeAny_mono h.2 λr s'' hr=>by obtain⟨rfl,hr⟩:=hr;exact fin' _ hr⟩
open PyProof.Rows in
theorem um {d:Addr} {kvs:List (Str×Value)} {ep:Nat} {Q:Value→Shared→Prop} (hd:(d==sysModules)=false) (hm:s.heap.DictAt (PySem.strKind PW w) d kvs ep) (hh:A.handled=none) (hn:kvs.length≤1)
 (hQ:∀h' tk vs a e,aF [] s.heap h'→h'.get? a=some (seqObj "list" (List.toArray vs) e)→s.heap.get? a=none→vs.length=kvs.length→(∀(i:Nat) (v:Value),vs[i]? =some v→∃k x,kvs[i]? =some (k,x)∧(PySem.strKind PW w).is k v=true)→Q (.ref a) (up s h' tk)):
 wpAny (model PW w) A (call (.builtin "sorted") [.ref d]) Q E s:=by
 refine Calls.call_function_entry kind_sorted plain_sorted entry_sorted (args_sorted1 _) ?_;unfold Builtin.«sorted»;refine wpAny_bind (m:=checkCount "sorted" 1 1 _) (wpAny_pure ?_);refine wpAny_bind (sY hd hm hh (by omega) λh1 tk1 vs k1 it=> ?_);have hlen:vs.length=kvs.length:=by have:=it.1;simpa using this
 refine wpAny_bind (wpAny_newList (hsz:=by rw[sizeLine_eq];omega) ?_);have hoL:(h1.push (seqObj "list" vs.toArray 0)).get? h1.objs.size=some (seqObj "list" vs.toArray 0):=Heap.get?_push_size _ rfl;have hv:∀i v,vs[i]? =some v→∃k x,kvs[i]? =some (k,x)∧(PySem.strKind PW w).is k v=true:=λi v e=>it.2 i v (by simpa using e)
 have hS:∃ss,StrsAre vs ss:=by
  cases vs with
  |nil=>exact⟨[],.nil⟩
  |cons v r=>
   cases r with
   |cons=>simp at hlen;omega
   |nil=>
    obtain⟨k,x,_,hk⟩:=hv 0 v rfl;obtain⟨t,rfl⟩:=Value.isStrOf_shape hk;exact⟨[k],.cons _ _ .nil⟩
 obtain⟨ss,hS⟩:=hS;have fresh:∀b,h1.get? b=none→s.heap.get? b=none:=λb e=>by
  cases q:s.heap.get? b with
  |none=>rfl
  |some o=>rw[k1 b o (λm=>zE m) q] at e;exact zB e
 refine wpAny_bind (wpAny_holding (wpAny_call_entry slot_list_sort ⟨_,hoL,rfl⟩ entry_list_sort (list_sort_treeK strKind_oneLt hoL hS.keysOf (λv₁ v₂ rest e=>by rw[e] at hlen;simp at hlen;omega) (by omega) λst' a1 a2=>⟨_,rfl,?_⟩) (args_list_sort _)));refine wpAny_pure ⟨_,rfl,?_⟩;obtain⟨e,he⟩:=sortedHeap_at (out:=(arrOf st').map (·.2)) hoL;have hout:(arrOf st').map (·.2)=vs.toArray:=by
  have hl:(arrOf st').toList.Perm (vs.zip vs):=by
   have:=Array.perm_iff_toList_perm.mp a1;rwa [pairsOf_toList] at this
  apply Array.toList_inj.mp;rw[Array.toList_map];cases vs with
  |nil=>have:=hl.length_eq;simp at this;simp [this]
  |cons v r=>
   cases r with
   |cons=>simp at hlen;omega
   |nil=>
    have:(arrOf st').toList=[(v,v)]:=List.perm_singleton.mp hl;rw[this];rfl
 rw[hout] at he;rw[hout];refine hQ _ tk1 vs _ e (λb o m eb=> ?_) he (fresh _ (by
  cases q:h1.get? h1.objs.size with
  |none=>rfl
  |some o=>exact absurd (Heap.lt_size q) (Nat.lt_irrefl _))) hlen hv
 have h1b:=k1 b o m eb;have hlt:=Heap.lt_size h1b;rw[sortedHeap_old (Nat.ne_of_lt hlt) (by rw[Heap.size_push];exact Nat.lt_succ_of_lt hlt)];exact Heap.get?_push_of_some _ h1b
end
noncomputable def cg (pr:Params) (M:List Addr) (h0 h:Heap) (d:AV) (v:Value):Prop:=match iJ d with
 |true=>∃p,v= .ref p.1∧h0.get? p.2=none∧ak pr (p.2::M) h d p
 |false=>Rep pr M h d v
theorem nR {pr:Params} {M:List Addr} {h:Heap} {d:AV} {p:Addr×Addr} (m:ak pr (p.2::M) h d p) (hM:p.2∉M):Rep pr M h d (.ref p.1):=
 have g:Ge (aG (p.2::M) h) (aG M h):=qa λ_ m=>List.mem_cons_of_mem _ m
 aD.QS (Ob.mono m (g _) (λ_ e=>af.mpr ⟨hM,e⟩) g)
theorem bG.fresh {M:List Addr} {h:Heap} {a:Addr} (l:bG M h) (e:h.get? a=none):a∉M:=λq=>(l _ q).elim λo e'=>nomatch e.symm.trans e'
theorem tP {pr:Params} {M:List Addr} {h0 h:Heap} {d:AV} {v:Value} (l:bG M h0) (m:cg pr M h0 h d v):Rep pr M h d v:=by
 unfold cg at m;cases q:iJ d with
 |true=>rw[q] at m;exact m.elim λp x=>x.1▸nR x.2.2 (l.fresh x.2.1)
 |false=>rw[q] at m;exact m
noncomputable abbrev g8 (pr:Params) (M:List Addr) (h:Heap):List AV→List Value→Prop:=F2 (aq pr M h)
structure ip (K:Frag):Prop where
 pget:∀c,bk.contains c=true→plainGet K (ae c) "__class__"=true
 cls:∀c,bk.contains c=true→findIn K (.ref (ae c)) "__class__"=some (some (.builtin "object.__class__"))
 obj:∀c,bk.contains c=true→mroIn K (ae c) (.type "object")=some true
 bind:specialIn K (.builtin "object.__class__") "__get__"=some (some (.builtin "getset_descriptor.__get__"))
 takes:takesIn K (.builtin "object.__class__")=some true
 isi:∀c k,bk.contains c=true→bk.contains k=true→kitOne K (.ref (ae c)) (.ref (ae k))=some (c==k)
section
variable {w:World} {A:Around} {M:List Addr} {s:Shared} {Q:Value→Shared→Prop} {E:Value→Shared→Prop} {K:Frag} {FL:List Env} {α:Type} {h:Heap}
theorem jk {f:AV→Option (List Bool×α)} {g:List AV→Option (List Bool×α)} {as:List AV} {us:List Value} {Φ:List Value→α→Prop} (r:g8 w.params M h as us) (hg:∀x l,g (x::l)=match l with|[]=>f x|_::_=>none) (h0:g []=none) (H:∀x u,aq w.params M h x u→bZ (Φ [u]) (f x)):bZ (Φ us) (g as):=by
 cases r with
 |nil=>rw[h0];exact .none
 |cons a r=>
  rw[hg];cases r with
  |nil=>exact H _ _ a
  |cons=>exact .none
theorem Nb {f:AV→AV→GV} {as:List AV} {us:List Value} {Φ:List Value→AV→Prop} (r:g8 w.params M h as us) (H:∀x u y v,aq w.params M h x u→aq w.params M h y v→bZ (Φ [u,v]) (f x y)):bZ (Φ us) (a2 f as):=by
 cases r with
 |nil=>exact .none
 |cons a r=>
  cases r with
  |nil=>exact .none
  |cons b r=>
   cases r with
   |nil=>exact H _ _ _ _ a b
   |cons=>exact .none
theorem dB {β:Type} {n:String} {v:β}:∀{l:List (String×β)},cA l n=some v→(n,v)∈l:=by
 intro l
 induction l with
 |nil=>
  intro e;exact zA e
 |cons p l ih=>
  intro e;have e:(if p.1=n then some p.2 else cA l n)=some v:=e;by_cases q:p.1=n
  ·rw[if_pos q] at e;obtain rfl:=Option.some.inj e;obtain rfl:=q;exact List.mem_cons_self
  ·rw[if_neg q] at e;exact List.mem_cons_of_mem _ (ih e)
theorem tf (f:Nat→Int):∀n,preSum f (n+1)=f 0+preSum (λi=>f (i+1)) n:=by
 intro n
 induction n with
 |zero=>
  exact by simp [preSum]
 |succ n ih=>
  show preSum f (n+1)+f (n+1)=f 0+(preSum (λi=>f (i+1)) n+f (n+1));rw[ih];lia
theorem Mf {P:Heap} {l:List AV} {vs:List Value} (r:aP w.params P l vs):l.all A6=true→(∀(i:Nat) (v:Value),vs[i]? =some v→∃t,v= .int (A9 (l.getD i .none)) t)∧preSum (λi=>A9 (l.getD i .none)) l.length=Ai l:=by
 induction r with
 |nil=>exactλ_=>⟨λi v e=>(zA e),rfl⟩
 | @cons d v l vs a r ih=>
  intro h;have h:=Bool.and_eq_true_iff.mp h;have h1:=(ih h.2).1;have h2:=(ih h.2).2;obtain⟨b,hb⟩:=Option.isSome_iff_exists.mp h.1;refine⟨λi v e=> ?_,?_⟩
  ·cases i with
   |zero=>
    obtain rfl:=gQ hb;obtain⟨t,rfl⟩:=a.out (g:=P.get?) λ_ _ e=>e
    obtain rfl:=Option.some.inj e;exact⟨_,rfl⟩
   |succ i=>exact h1 i v e
  ·rw[List.length_cons,tf];exact congrArg (A9 d+·) h2
noncomputable abbrev bA (w:World) (M:List Addr) (A:Around) (s:Shared) (Q:Value→Shared→Prop) (E:Value→Shared→Prop) (f:Value) (us:List Value) (z:AV):Prop:=Er w M s Q z→wpAny (model PW w) A (call f us) Q E s
theorem KP {x:AV} {u:Value} (hx:aq w.params M s.heap x u):bZ (bA w M A s Q E (.builtin "len") [u]) (Pd x):=by
 refine cR (Ψ:=λx g=>aq w.params M s.heap x u→bZ (bA w M A s Q E (.builtin "len") [u]) g) x (λ_ _=> .none) ?_ ?_ ?_ ?_ (λ_ _ _=> .none) (λ_ _=> .none) hx
 ·exactλx hx=>rS hx rfl λt hb=> .nil λK=>PyProof.Rows.len_str (Int.not_le.mpr (jo hb)) (K _ s.heap _ (.refl _ _) (.int _ _))
 ·exactλb hx=>rB hx rfl λt hb=> .nil λK=>PySem.W.len_bytes (by rw[List.size_toArray];exact Nat.le_trans hb (by decide)) (by rw[List.size_toArray];exact K _ s.heap _ (.refl _ _) (.int _ _))
 ·exactλl hx=>rT hx rfl λp vs m _ e r hl hb=> .nil λK=>PyProof.Rows.len_tuple ⟨_,e,rfl,m,rfl⟩ (hl▸jo hb) (hl▸K _ s.heap _ (.refl _ _) (.int _ _))
 ·exactλl hx=>rL hx rfl λp vs m e r hl hb=> .nil λK=>PyProof.Rows.len_list ⟨_,e,rfl,m,rfl⟩ (hl▸jo hb) (hl▸K _ s.heap _ (.refl _ _) (.int _ _))
theorem L6 {l:List AV} {u:Value} (hx:aq w.params M s.heap (.lst l) u) (hh:A.handled=none) (hl:l.all A6=true):bA w M A s Q E (.builtin "sum") [u] (.int (Ai l)):=rL hx rfl λp vs m e r hlen hb K=>by
 obtain⟨h1,h2⟩:=Mf r hl;refine call_sum_walkG (wpAny_pyIter_list ⟨_,e,rfl,m,rfl⟩ ⟨_,_,_,_,_,_,λi=>A9 (l.getD i .none),rfl,Walks.list (A:=A.in1) hh _ p (lU e (aN s.heap)) vs,⟨⟨_,Heap.get?_push_size _ rfl,rfl,rfl⟩,⟨_,Heap.get?_push_of_some _ e,rfl,m,rfl⟩⟩,?_,?_,?_⟩)
 ·intro b hb;rw[Heap.size_push];exact(List.mem_cons.mp hb).elim (λe=>e▸Nat.lt_succ_self _) λhb=>by rw[List.mem_singleton.mp hb];exact Nat.lt_succ_of_lt (Heap.lt_size e)
 ·exactλi v hv=>h1 i v (by rw[Array.getElem?_toList];exact hv)
 ·intro h' tk t' kp;rw[←hlen,h2];exact K _ h' tk (λb o _ e=>kp b o (λq=>by rw[List.mem_singleton.mp q,aN] at e;exact zA e) (Heap.get?_push_of_some _ e)) (.int _ _)
theorem rQ {pr:Params} {P:Heap}:∀{ks:List Str} {ws:List Value},ks.length=ws.length→(∀(i:Nat) (x:Str),ks[i]? =some x→∃t,ws[i]? =some (Value.str x t)∧x.length≤ao)→aP pr P (ks.map .str) ws
 |[],[],_,_=> .nil
 |[],_::_,h,_=>zH h
 |_::_,[],h,_=>zI h
 |k::ks,v::ws,h,hv=>by
  obtain⟨t,e,b⟩:=hv 0 k rfl;obtain rfl:=Option.some.inj e;exact .cons (.str _ _ b) (rQ (Nat.succ.inj h) λi x e=>hv (i+1) x e)
theorem Af {k d:List AV} {u:Value} (hx:aq w.params M s.heap (.dct k d) u) (hh:A.handled=none) (lv:bG M s.heap) (hk:k.length≤1) (hs:k.all xS=true):bA w M A s Q E (.builtin "sorted") [u] (.lst k):=λK=>by
 have ha:k.all wx=true:=List.all_eq_true.mpr λx m=>by
  have:=List.all_eq_true.mp hs x m;unfold xS at this;unfold wx;cases q:fQ x with
  |none=>rw[q] at this;exact zC this
  |some _=>rfl
 refine cps λG kf=> ?_
 obtain⟨ks,rfl⟩:=Dt eR ha;obtain⟨p,es,m,rfl,hsys,e,r,ko⟩:=PS hx;obtain⟨vs,D,rl,hl⟩:=tT (jh w) e r ko.2;obtain⟨ep,D⟩:=D.dictAt;refine kf ?_;have hlz:(ks.zip vs).length=ks.length:=by rw[List.length_zip,←hl,Nat.min_self]
 rw[List.length_map] at hk;refine um (beq_eq_false_iff_ne.mpr hsys) D hh (hlz▸hk) λh' tk ws q e kp e1 fr hw hv=>K _ h' tk kp (.lst (vs:=ws.toArray) (n:=e) (af.mpr ⟨lv.fresh fr,e1⟩) (rQ (hlz▸hw.symm) λi x hx=> ?_) (by rw[List.length_map];exact Nat.le_trans hk (by decide)))
 have hi:i<ws.length:=by rw[hw,hlz];exact(List.getElem?_eq_some_iff.mp hx).1
 refine cps λG kf=> ?_
 obtain⟨k',v',g1,g2⟩:=hv i ws[i] (List.getElem?_eq_getElem hi);obtain⟨t,g3⟩:=Value.isStrOf_shape g2;refine kf ?_;have e3:k'=x:=by
  have:=congrArg (Option.map (·.1)) g1;rw[←List.getElem?_map,eu hl,hx] at this;exact(Option.some.inj this).symm
 refine⟨t,by rw[List.getElem?_eq_getElem hi,g3,e3],?_⟩;have:=List.all_eq_true.mp hs (.str x) (List.mem_map.mpr ⟨x,List.mem_of_getElem? hx,rfl⟩);exact of_decide_eq_true this
theorem y7 {l:List AV} {q:AV×AV} (e:N4 l=some q):l=[q.1,q.2]:=by
 cases l with
 |nil=>exact zA e
 |cons x l=>
  obtain⟨y,e1,e2⟩:=Option.map_eq_some_iff.mp e;cases l with
  |nil=>exact zA e1
  |cons z l=>
   cases l with
   |nil=>cases e1;cases e2;rfl
   |cons=>exact zA e1
theorem iG {x:AV} {k:Nat} (e:vQ x=some k):x= .cls k:=by
 cases x<;>first|exact Option.some.inj e▸rfl|exact zA e
theorem Gw {K:Frag} {t a b:Value} {x y:Bool} (h1:kitOne K t a=some x) (h2:kitOne K t b=some y):kitAny K t [a,b]=some (x||y):=by
 show(match kitOne K t a with|some true=>some true|some false=>(match kitOne K t b with|some true=>some true|some false=>some false|none=>none)|none=>none)=_;rw[h1,h2];cases x<;>cases y<;>rfl
theorem Kv (KF:ip K) (CF:dW K) (X:K.In s.heap) {x y:AV} {u v:Value} (hx:aq w.params M s.heap x u) (hy:aq w.params M s.heap y v):bZ (bA w M A s Q E (.builtin "isinstance") [u,v]) (OP x y):= .bind λp e=>by
 obtain rfl:=iD e;obtain⟨a,q,es,m,rfl,e1,e2,I,r,nd,o⟩:=QY hx;refine cR (Ψ:=λy' g=>(∀k,vQ y=some k→y'=y→True)→aq w.params M s.heap y' v→y'=y→bZ (bA w M A s Q E (.builtin "isinstance") [.ref a,v]) g) y (λ_ _ _ _=> .none) (λ_ _ _ _=> .none) (λ_ _ _ _=> .none) ?_ (λ_ _ _ _=> .none) (λ_ _ _ _ _=> .none) ?_ (λ_ _ _=>trivial) hy rfl
 ·intro l _ hl _;refine .bind λq2 e2=> .bind λj1 e3=> .bind λj2 e4=> .one λc=> ?_
  have hj:=Bool.and_eq_true_iff.mp c;refine rT hl rfl λtp vs m' _ e3' r3 _ _ K=> ?_
  obtain rfl:=y7 e2;obtain⟨b1,b2,hq,r31,r32⟩:=F2.two r3;rw[iG e3] at r31;rw[iG e4] at r32;obtain rfl:b1=_:=r31.out (g:=(aG M s.heap).get?) λ_ _ e=>e
  obtain rfl:b2=_:=r32.out (g:=(aG M s.heap).get?) λ_ _ e=>e
  have hvs:vs=[Value.ref (ae j1),Value.ref (ae j2)].toArray:=by rw[←hq]
  rw[hvs] at e3';refine kia_tup (kitx_own (ox:=PySem.W.instObj (ae p.1) q) (KF.pget p.1 o) (CF.hasD p.1 o) (KF.cls p.1 o) KF.bind KF.takes (KF.obj p.1 o)) X I e3' (b:=p.1==j1||p.1==j2) ?_ (by intro q;cases q) λtk=>K _ s.heap tk (.refl _ _) (.bool _)
  exact Gw (KF.isi p.1 j1 o hj.1) (KF.isi p.1 j2 o hj.2)
 ·intro y' _ hy' ey;subst ey;refine .bind λj e=> .one λc K=> ?_
  obtain rfl:=iG e;obtain rfl:v=_:=hy';exact kia_one (kitx_own (ox:=PySem.W.instObj (ae p.1) q) (KF.pget p.1 o) (CF.hasD p.1 o) (KF.cls p.1 o) KF.bind KF.takes (KF.obj p.1 o)) X I (KF.isi _ j o c) (by intro q;cases q) λtk=>K _ s.heap tk (.refl _ _) (.bool _)
noncomputable abbrev iy (w:World) (M:List Addr) (A:Around) (s:Shared) (Q:Value→Shared→Prop) (E:Value→Shared→Prop) (f:Value) (g:Fn):Prop:=∀as us,g8 w.params M s.heap as us→bZ (bA w M A s Q E f us) (g as)
theorem rO {f:Value} {g:AV→GV} (H:∀x u,aq w.params M s.heap x u→bZ (bA w M A s Q E f [u]) (g x)):iy w M A s Q E f (a1 g):=λas us r=>jk r (λ_ _=>rfl) rfl H
theorem Em {f:Value} {g:AV→AV→GV} (H:∀x u y v,aq w.params M s.heap x u→aq w.params M s.heap y v→bZ (bA w M A s Q E f [u,v]) (g x y)):iy w M A s Q E f (a2 g):=λas us r=>Nb r H
theorem Lg:iy w M A s Q E (.builtin "abs") (a1 λx=>(cy x).bind λi=>kZ (.int i.natAbs)):=rO λx u hx=> .bind λi e=> .nil λK=>rI hx e λt=>PyProof.Rows.call_abs_int λu tk=>by
 have:(if i<0 then -i else i)=(i.natAbs:Int):=by split<;>omega
 refine this.symm▸?_;exact K _ s.heap _ (.refl _ _) (.int _ _)
theorem iS {α:Type} {l:List α} {c:α} (e:one l=some c):l=[c]:=by
 cases l with
 |nil=>exact zA e
 |cons x r=>cases r with
  |nil=>obtain rfl:=Option.some.inj e;rfl
  |cons=>exact zA e
theorem JZ:iy w M A s Q E (.builtin "ord") (a1 λx=>(fQ x).bind λs=>(one s.cps.toList).bind λc=>kZ (.int c)):=rO λx u hx=> .bind λy e=> .bind λc e1=> .nil λK=>rS hx e λt hb=>by
 obtain⟨l⟩:=y;have:l= #[c]:=Array.toList_inj.mp (iS e1);subst this;exact P.ord_of_char (K _ s.heap _ (.refl _ _) (.int _ _))
theorem Kw:iy w M A s Q E (.builtin "chr") (a1 λx=>(cy x).bind λi=>ji (decide (0≤i∧i<55296)) (.str ⟨#[i.toNat]⟩)):=rO λx u hx=> .bind λi e=> .one λc K=>rI hx e λt=>P.chr_of_int (by have:=of_decide_eq_true c;simp;omega) (K _ s.heap _ (.refl _ _) (.str _ _ (by decide:1≤ao)))
theorem J6 (hh:A.handled=none):iy w M A s Q E (.builtin "max") (a2 λx y=>two cy cy x y λa b=>kZ (.int (if a<b then b else a))):=Em λx u y v hx hy=>wI (Φ:=λu v z=>bA w M A s Q E (.builtin "max") [u,v] z) hx hy λa b t t'=> .nil λK=>PySem.max_two_ints hh λh' tk kp=>by
 by_cases c:a<b
 ·rw[if_pos c] at K⊢;exact K _ h' tk (λc o _ e=>kp c o e) (.int _ _)
 ·rw[if_neg c] at K⊢;exact K _ h' tk (λc o _ e=>kp c o e) (.int _ _)
theorem LI (hh:A.handled=none):iy w M A s Q E (.builtin "min") (a2 λx y=>two cy cy x y λa b=>kZ (.int (if b<a then b else a))):=Em λx u y v hx hy=>wI (Φ:=λu v z=>bA w M A s Q E (.builtin "min") [u,v] z) hx hy λa b t t'=> .nil λK=>PySem.min_two_ints hh λh' tk kp=>by
 by_cases c:b<a
 ·rw[if_pos c] at K⊢;exact K _ h' tk (λc o _ e=>kp c o e) (.int _ _)
 ·rw[if_neg c] at K⊢;exact K _ h' tk (λc o _ e=>kp c o e) (.int _ _)
theorem K3 (KF:ip K) (CF:dW K) (X:K.In s.heap) (hh:A.handled=none) (lv:bG M s.heap) {nm:String} {as:List AV} {us:List Value} (ha:g8 w.params M s.heap as us):bZ (bA w M A s Q E (.builtin nm) us) (SK nm as):=by
 have all:∀p∈O6,iy w M A s Q E (.builtin p.1) p.2:=List.forall_mem_cons.mpr ⟨rO λx u hx=>KP hx,List.forall_mem_cons.mpr ⟨Lg,List.forall_mem_cons.mpr ⟨JZ,List.forall_mem_cons.mpr ⟨Kw,List.forall_mem_cons.mpr ⟨J6 hh,List.forall_mem_cons.mpr ⟨LI hh,
  List.forall_mem_cons.mpr ⟨rO λx u hx=> .bind λl e=> .one λc=>by obtain rfl:=ff e;exact L6 hx hh c,List.forall_mem_cons.mpr ⟨rO λx u hx=> .bind λp e=> .one λc=>by
   obtain rfl:=wk e;have c:=Bool.and_eq_true_iff.mp c;exact Af hx hh lv (of_decide_eq_true c.1) c.2,List.forall_mem_cons.mpr ⟨Em λx u y v hx hy=>Kv KF CF X hx hy,λ_ m=>zE m⟩⟩⟩⟩⟩⟩⟩⟩⟩
 exact .bind λf e=>all _ (dB e) as us ha
end
end Mine
end
section
open PySem PySem.W
namespace Mine
set_option tactic.hygienic false
section
variable {w:World} {A:Around} {s:Shared} {E:Value→Shared→Prop}
theorem tE:typeLookup (.type "list") "keys"=pure none:=by rw[typeLookup_type,builtinLookup_eq_fast];kernel_rfl
theorem rj:entryFor table "dict.update.loop"=some Builtin.«dict.update.loop»:=entryFor_of_tree (by kernel_rfl)
theorem iU:plainId "dict.update.loop"=true:=by decide+kernel
theorem Gy {a:Addr} {xs:Array Value} {k:Nat} {Q:Option Value→Shared→Prop} (hx:s.heap.get? a=some (aV xs k)) (hA:A.handled=none)
 (hQ:∀h' tk,aF [] s.heap h'→Q none (up s h' tk)):wpAny (model PW w) A (getAttr? (.ref a) "keys") Q E s:=by
 obtain⟨hp,g,d,tk,os⟩:=s;have hT:∀tk',(⟨hp,g,d,tk',os⟩:Shared).TypeIs (.ref a) "list":=λ_=>⟨_,hx,rfl⟩
 have f1:=sub_AttributeError;have f3:=F.slot_list_getattribute.lookup;have f4:=F.slot_list_getattribute.bind (.ref a);have f5:=am_list_getattr_none;unfold getAttr? getAttrBy? getAttrBy;refine wpAny_bind (wpAny_mkText ?_);refine wpAny_bind (wpAny_attempt ?_);repeat (any_goals (first|assumption|exact hT _|((with_reducible show wpAny _ _ (call (Value.builtin "list.__getattribute__") _ _) _ _ _);refine call_meets F.slot_list_getattribute (hT _) am_entry_list_getattribute (F.args_list_getattribute_2 _ _) (meets_getattribute_miss_list a xs k #[] "keys" tk tE (by decide+kernel) (by decide+kernel)) ⟨hx,hA,λh' tk' e hx'=> ?_⟩)|wp_step))
 obtain⟨t',u',he⟩:=hx'.there;show wpAny _ _ (getattributeRaised _ _ _ _ _ _ _) _ _ _;unfold getattributeRaised;repeat (any_goals (first|assumption|wp_step))
 exact hQ _ _ λb o _ q=>hx'.of.keeps b o q
end
section
variable {w:World} {A:Around} {s:Shared} {E:Value→Shared→Prop}
theorem uD {K:Type} [DecidableEq K] {k y:K} {v0 v:Value} {r:List (K×Value)} (h:y≠k):stored ((k,v0)::r) y v=(k,v0)::stored r y v:=by
 have h':¬k=y:=λe=>h e.symm
 unfold stored;simp only[List.any_cons,h',decide_false,Bool.false_or,List.map_cons,if_false];split<;>simp
theorem m8 {K:Type} [DecidableEq K] (T:fO w K) {P:Heap} {y:K} {z:AV} {v:Value} (rz:aD w.params P z v) {ks:List K}:∀{d:List AV} {vs:List Value},aP w.params P d vs→ks.length=vs.length→ks.Nodup→
 ∃(ks':List K) (vs':List Value) (d':List AV),hZ (ks.map T.inj) d (T.inj y) z=(ks'.map T.inj,d')∧stored (ks.zip vs) y v=ks'.zip vs'∧aP w.params P d' vs'∧ks'.length=vs'.length:=by
 induction ks with
 |nil=>
  intro d vs r hl _;cases r with
  |nil=>exact⟨[y],[v],[z],rfl,rfl,.cons rz .nil,rfl⟩
  |cons=>exact zH hl
 |cons k ks ih=>
  intro d vs r hl nd;cases r with
  |nil=>exact zI hl
  | @cons z0 v0 d vs a r=>
  have⟨nd1,nd2⟩:=List.nodup_cons.mp nd;have hl':ks.length=vs.length:=Nat.succ.inj hl;have e:hZ ((k::ks).map T.inj) (z0::d) (T.inj y) z=if y=k then(T.inj k::ks.map T.inj,z::d) else(T.inj k::(hZ (ks.map T.inj) d (T.inj y) z).1,z0::(hZ (ks.map T.inj) d (T.inj y) z).2):=by
   show(match yG (T.inj y) (T.inj k) with|true=>_|false=>_)=_;rw[T.yG];by_cases q:y=k<;>simp [q]
  rw[e];by_cases q:y=k
  ·subst q;refine⟨y::ks,v::vs,z::d,if_pos rfl,?_,.cons rz r,hl⟩;unfold stored;simp only[List.any_cons,decide_true,Bool.true_or,if_true,List.map_cons,List.zip_cons_cons,List.cons.injEq,true_and];exact map_store_of_not_mem _ _ _ (by rw[eu hl'];exact nd1)
  ·refine cps λG kf=> ?_
   obtain⟨ks',vs',d',h1,h2,h3,h4⟩:=ih r hl' nd2;refine kf ?_;exact⟨k::ks',v0::vs',z0::d',by rw[if_neg q,h1];rfl,by rw[List.zip_cons_cons,uD q,h2];rfl,.cons a h3,congrArg (·+1) h4⟩
open PyProof.Rows in
inductive xN {K:Type} [DecidableEq K] (T:fO w K) (g:Addr→Option Obj):Value→K×Value→Prop
 |mk {a:Addr} {ws:Array Value} {q:Nat} {k:K} {x:Value} {t:Tok}:g a=some (bC ws q)→ws.toList=[T.val k t,x]→xN T g (.ref a) (k,x)
theorem D0 {K:Type} [DecidableEq K] (T:fO w K) {R:Result→Shared→Prop} {I l dd:Addr} {vs:List Value} {n:Nat} {g:Addr→Option Obj} (hh:A.handled=none) (nI:I≠dd) (gI:g I=none) (gd:g dd=none) (gl:g l=some (aV vs.toArray n)) (res:Value) {rest:List Value} {kvs:List (K×Value)} (P:F2 (xN T g) rest kvs):∀{pre:List Value} {acc:List (K×Value)} {s:Shared},vs=pre++rest→(∀b o,g b=some o→s.heap.get? b=some o)→s.heap.IsListIter I l pre.length→s.heap.DictOf T.knd dd acc→acc.length+rest.length≤1000→(∀h' tk,h'.DictOf T.knd dd (kvs.foldl (λa p=>stored a p.1 p.2) acc)→(∀b o,g b=some o→h'.get? b=some o)→R (.ok (.ret res)) (up s h' tk))→codeAny (model PW w) A (.builtin "dict.update.loop" ⟨[.ref dd,.ref I,rawInt pre.length,res],[]⟩) R s:=by
 have gN:∀{z b o},g z=none→g b=some o→b≠z:=λe h q=>zA (e.symm.trans (q▸h))
 induction P with
 |nil=>
  intro pre acc s e kp it D hz hR;refine codeAny_builtin rj ?_;refine(Around.under_plainId iU _).symm▸?_;unfold Builtin.«dict.update.loop»;refine wpAny_bind (wpAny_pyNext_list_end hh it ⟨_,kp _ _ gl,rfl,_,rfl⟩ (by rw[e,List.append_nil,List.getElem?_toArray];exact List.getElem?_eq_none (Nat.le_refl _)) λh' e=> ?_);refine wpAny_bind (wpAny_of_eq (a:=⟨⟩) rfl (wpAny_pure ?_));exact hR h' s.toks (D.extBut e (Ne.symm nI)) λb o h=>e b o (gN gI h) (kp b o h)
 | @cons v p rest kvs p0 P ih=>
  intro pre acc s e kp it D hz hR;refine codeAny_builtin rj ?_;refine(Around.under_plainId iU _).symm▸?_;unfold Builtin.«dict.update.loop»;refine wpAny_bind (wpAny_pyNext_list_item it ⟨_,kp _ _ gl,rfl,_,rfl⟩ (x:=v) (by rw[e,List.getElem?_toArray,List.getElem?_append_right (Nat.le_refl _),Nat.sub_self];rfl) λh' it' sb=> ?_);obtain@⟨a,ws,q,k,x,t,ga,hw⟩:=p0;dsimp only;refine wpAny_bind (wpAny_holding ?_);have ha':h'.get? a=some (bC ws q):=sb.extBut a _ (gN gI ga) (kp _ _ ga);refine wpAny_bind (wpAny_tryCatch ?_);unfold Builtin.Dict.pairItems;refine wpAny_bind (wpAny_typeOf ⟨_,ha',rfl⟩ ?_);rw[if_pos (by decide)];refine wpAny_bind (wpAny_bind (wpAny_load ha' (wpAny_pure (wpAny_pure ?_))));dsimp only[Option.getD];refine hw.symm▸?_;have z1:acc.length+1≤1000:=Nat.le_trans (Nat.add_le_add_left (Nat.succ_pos _) _) hz;refine wpAny_holding (wpAny_dictSet_pairs (T.good _ _) (D.extBut sb.extBut (Ne.symm nI)) (λh'' D' sb'=> ?_) (Nat.le_trans (Nat.le_of_succ_le z1) (by decide)));refine wpAny_pure ⟨plainId_quiet iU _,?_⟩;have hc:((pre.length:Int)+1)=((pre++[Value.ref a]).length:Nat):=by rw[List.length_append];rfl
  obtain⟨o,ho,r⟩:=it';exact hc.symm▸ih (e.trans (List.append_assoc pre [_] rest).symm) (λb o h=>sb'.extBut b o (gN gd h) (sb.extBut b o (gN gI h) (kp b o h))) ⟨o,sb'.extBut _ _ nI ho,(List.length_append (as:=pre) (bs:=[_])).symm▸r⟩ D' (Nat.le_trans (Nat.add_le_add_right (stored_length_le acc k x) _) (Nat.le_trans (Nat.le_of_eq (Nat.succ_add_eq_add_succ _ _)) hz)) hR
theorem sC {K:Type} [DecidableEq K] (kvs:List (K×Value)) (y:K) (v:Value) (h:(kvs.map (·.1)).Nodup):((stored kvs y v).map (·.1)).Nodup:=by
 unfold stored;split
 ·rw[keys_map_store];exact h
 ·rename_i q
  rw[List.map_append,List.nodup_append];refine⟨h,by simp,λa ha b hb e=> ?_⟩;rw[List.map_cons,List.map_nil,List.mem_singleton] at hb;subst hb e;obtain⟨p,hp,rfl⟩:=List.mem_map.mp ha;exact q (List.any_eq_true.mpr ⟨p,hp,by simp⟩)
theorem kC {K:Type} [DecidableEq K] (T:fO w K) {P:Heap} {ps:List (K×AV)}:∀{kvs:List (K×Value)} {ks:List K} {vs:List Value} {d:List AV},ps.map (·.1)=kvs.map (·.1)→aP w.params P (ps.map (·.2)) (kvs.map (·.2))→aP w.params P d vs→ks.length=vs.length→ks.Nodup→
 ∃(ks':List K) (vs':List Value) (d':List AV),fU T.inj ps (ks.map T.inj,d)=(ks'.map T.inj,d')∧kvs.foldl (λa p=>stored a p.1 p.2) (ks.zip vs)=ks'.zip vs'∧aP w.params P d' vs'∧ks'.length=vs'.length∧ks'.Nodup:=by
 induction ps with
 |nil=>
  intro kvs ks vs d h1 _ rd hl nd;cases kvs with
  |nil=>exact⟨ks,vs,d,rfl,rfl,rd,hl,nd⟩
  |cons=>exact zF h1
 |cons p ps ih=>
  intro kvs ks vs d h1 h2 rd hl nd;cases kvs with
  |nil=>exact zG h1
  |cons kv kvs=>
  refine cps λG kf=> ?_
  obtain⟨e0,h1⟩:=List.cons.inj h1;refine kf ?_;cases h2 with|cons rz h2=>
  refine cps λG kf=> ?_
  obtain⟨ks',vs',d',e1,e2,e3,e4⟩:=m8 T rz rd hl nd (y:=p.1);have nd':ks'.Nodup:=by
   have:=sC (ks.zip vs) p.1 kv.2 (by rw[eu hl];exact nd);rwa [e2,eu e4] at this
  obtain⟨ks2,vs2,d2,f1,f2,f3⟩:=ih h1 h2 e3 e4 nd';refine kf ?_;refine⟨ks2,vs2,d2,?_,?_,f3⟩
  ·show fU T.inj ps (hZ (ks.map T.inj) d (T.inj p.1) p.2)=_;rw[e1];exact f1
  ·rw[List.foldl_cons,←show p.1=kv.1 from e0,e2];exact f2
theorem DK {P:Heap} {l:List AV} {vs:List Value} (r:aP w.params P l vs):l.all nH=true→
 ∃kvs:List (Int×Value),(l.map tb).map (·.1)=kvs.map (·.1)∧aP w.params P ((l.map tb).map (·.2)) (kvs.map (·.2))∧F2 (xN (iE w) P.get?) vs kvs:=by
 induction r with
 |nil=>exactλ_=>⟨[],rfl,.nil,.nil⟩
 | @cons d v l vs a r ih=>
  intro h;have h:=Bool.and_eq_true_iff.mp h;obtain⟨kvs,h1,h2,h3⟩:=ih h.2;have hd:=h.1;unfold nH at hd;cases q1:sW d with
  |none=>rw[q1] at hd;exact zC hd
  |some tl=>
  rw[q1] at hd;cases q2:N4 tl with
  |none=>rw[Option.any_some,q2] at hd;exact zC hd
  |some q=>
  rw[Option.any_some,q2] at hd;obtain⟨k,hk⟩:=Option.isSome_iff_exists.mp (show(cy q.1).isSome=true from hd);have e:tb d=(k,q.2):=by unfold tb;rw[q1,Option.bind_some,q2];unfold A9;rw[Option.map_some,hk];rfl
  obtain rfl:=fR q1;obtain rfl:=y7 q2;obtain⟨a',ws,n,rfl,e1,rr,_⟩:=a.out (g:=P.get?) λ_ _ e=>e
  obtain⟨b1,b2,hw,r1,r2⟩:=F2.two rr;rw[gQ hk] at r1;obtain⟨t,rfl⟩:=r1.out (g:=P.get?) λ_ _ e=>e
  refine⟨(k,b2)::kvs,?_,?_,.cons (.mk e1 hw) h3⟩
  ·rw[List.map_cons,List.map_cons,e,h1];rfl
  ·rw[List.map_cons,List.map_cons,e];exact .cons r2 h2
open PyProof.Rows in
theorem nY {M:List Addr} {l:List AV} {u:Value} {Q:Value→Shared→Prop} (hx:aq w.params M s.heap (.lst l) u) (h:l.all nH=true) (hz:l.length≤500) (hh:A.handled=none) (lv:bG M s.heap) (hS:sysModules<s.heap.objs.size)
 (k:∀v' h' tk,aF [] s.heap h'→cg w.params M s.heap h' (.dct (fU .int (l.map tb) ([],[])).1 (fU .int (l.map tb) ([],[])).2) v'→Q v' (up s h' tk)):wpAny (model PW w) A (call (.type "dict") [u]) Q E s:=by
 refine rL hx rfl λa vs m e r hlv hb=> ?_
 refine cps λG kf=> ?_
 obtain⟨kvs,h1,hr2,h3⟩:=DK r h;refine kf ?_;have hl:=r.length;generalize l.map tb=ps at*;have hT:s.TypeIs (.ref a) "list":=⟨_,e,rfl⟩;refine callType_codes (Q₁:=λobj s₁=>obj= .ref s.heap.objs.size∧s₁={s with heap:=s.heap.push {cls:= .type "dict",data:= .dict #[]}}) F.kt_called_dict (F.kt_typeCall_dict_1 _) F.entry_dict_init (kt_code_dict_new _ ⟨rfl,rfl⟩) ?_;rintro obj s₁ ⟨rfl,rfl⟩
 have hnew:(s.heap.push {cls:= .type "dict",data:= .dict #[]}).DictOf (iE w).knd s.heap.objs.size []:=Heap.DictOf.new s.heap;have e':(s.heap.push {cls:= .type "dict",data:= .dict #[]}).get? a=some (aV vs m):=Heap.get?_push_of_some _ e;have hT':({s with heap:=s.heap.push {cls:= .type "dict",data:= .dict #[]}}:Shared).TypeIs (.ref a) "list":=⟨_,e',rfl⟩;have fr:=aN s.heap;refine⟨hnew.typeIs,F.args_dict_init_2 _ _,?_⟩;unfold Builtin.«dict.__init__»;refine wpAny_bind ?_;unfold Builtin.Dict.selfAndRest;refine wpAny_bind (wpAny_notOrdered_dict hnew.typeIs ?_);show wpAny _ _ (pure (s.heap.objs.size,[Value.ref a])) _ _ _;refine wpAny_pure ?_;show wpAny _ _ (Builtin.Dict.updateFrom "dict.__init__" s.heap.objs.size (.ref a) [] .none) _ _ _;unfold Builtin.Dict.updateFrom;refine wpAny_bind (wpAny_typeOf hT' ?_);rw[if_pos (by decide)];refine wpAny_bind (Gy e' hh λh2 tk2 k2=> ?_);rw[if_pos (by decide)];refine wpAny_bind (wpAny_rule (wpAny_bind ?_));have e2:h2.get? a=some (aV vs m):=k2 _ _ (λm=>zE m) e';refine wpAny_pyIter_list ⟨_,e2,rfl,m,rfl⟩ ?_;refine wpAny_pure ⟨plainId_quiet iU _,?_⟩;have D2:h2.DictOf (iE w).knd s.heap.objs.size []:=by obtain⟨o,es,ep,ho,r⟩:=hnew;exact⟨o,es,ep,k2 _ _ (λm=>zE m) ho,r⟩
 have sz:s.heap.objs.size<h2.objs.size:=by obtain⟨o,es,ep,ho,_⟩:=D2;exact Heap.lt_size ho
 have ha:a<s.heap.objs.size:=Heap.lt_size e
 have k3:∀b o,s.heap.get? b=some o→(h2.push {cls:= .type "list_iterator",data:= .fields #[.ref a,.int 0 0]}).get? b=some o:=λb o q=>Heap.get?_push_of_some _ (k2 _ _ (λm=>zE m) (Heap.get?_push_of_some _ q))
 show codeAny _ A.in1 (.builtin "dict.update.loop" ⟨[.ref s.heap.objs.size,.ref h2.objs.size,rawInt ((0:Nat):Int),.none],[]⟩) _ _;refine D0 (A:=A.in1) (I:=h2.objs.size) (l:=a) (dd:=s.heap.objs.size) (vs:=vs.toList) (pre:=[]) (acc:=[]) (iE w) hh (Nat.ne_of_gt sz) (Heap.get?_none_of_le (Nat.le_of_lt sz)) fr e .none (F2.mono (λv p m=> ?_) h3) rfl k3 ⟨_,Heap.get?_push_size _ rfl,rfl,rfl⟩ (D2.push _) ?_ (λh' tk D kp=> ?_)
 ·cases m with
  |mk e1 e2=>exact .mk (af.mp e1).2 e2
 ·rw[List.length_nil,Nat.zero_add,←hl];exact Nat.le_trans hz (by decide)
 ·refine cps λG kf=> ?_
  obtain⟨ks',vs',d',f1,f2,f3,f4,f5⟩:=kC (iE w) h1 hr2 (.nil (R:=aD w.params (aG M s.heap))) (ks:=[]) (vs:=[]) rfl List.nodup_nil;refine kf ?_;rw[show([]:List Int).zip ([]:List Value)=[] from rfl] at f2;rw[f2] at D;have kk:aF [] s.heap h':=λb o _ q=>kp b o q
  have g:Ge (aG M s.heap) (aG (s.heap.objs.size::M) h'):=fc (kk.aG λ_ m=>zE m) fr;refine cps λG kf=> ?_
  obtain⟨es,m',g1,g2,g3⟩:=lG (iE w) (P:=aG (s.heap.objs.size::M) h') (d:=d') D (by rw[pX f4];exact aP.mono g f3);refine kf ?_;have e5:((ks'.zip vs').map λp=>(iE w).inj p.1)=ks'.map .int:=(List.map_map (l:=ks'.zip vs') (f:=Prod.fst) (g:=(iE w).inj)).symm.trans (congrArg (List.map AV.int) (eu f4));rw[e5] at g2 g3;have f1':fU AV.int ps ([],[])=(ks'.map .int,d'):=f1;refine⟨rfl,k _ h' tk kk ?_⟩;refine f1'.symm▸?_;exact⟨(s.heap.objs.size,s.heap.objs.size),rfl,fr,rfl,Nat.ne_of_gt hS,es,m',g1,g2,g3⟩
end
open PyProof.Rows
section
variable {w:World} {A:Around} {M:List Addr} {s:Shared} {Q:Value→Shared→Prop} {E:Value→Shared→Prop} {K:Frag} {FL:List Env}
noncomputable abbrev iu (w:World) (M:List Addr) (A:Around) (s:Shared) (Q:Value→Shared→Prop) (E:Value→Shared→Prop) (f:Value) (us:List Value) (z:AV):Prop:=(∀v' h' tk,aF [] s.heap h'→cg w.params M s.heap h' z v'→Q v' (up s h' tk))→wpAny (model PW w) A (call f us) Q E s
theorem nK {f:Value} {us:List Value} {z:AV} (o:iJ z=false) (h:bA w M A s Q E f us z):iu w M A s Q E f us z:=λk=>h λv' h' tk kp r=>k v' h' tk kp (by unfold cg;rw[o];exact r)
theorem yU {l:List AV} {vs:Array Value} {p:Addr} {o:Obj} (e:s.heap.get? p=some o) (ho:(∃n,o=aV vs n)∨∃n,o=bC vs n) (r:aP w.params (aG M s.heap) l vs.toList) (hl:l.length=vs.size) (hb:l.length≤ao) (lv:bG M s.heap):iu w M A s Q E (.type "list") [.ref p] (.lst l):=λk=>by
 have fin:∀h' c,(∀b o,s.heap.get? b=some o→h'.get? b=some o)→h'.get? s.heap.objs.size=some (aV vs c)→Q (.ref s.heap.objs.size) (up s h' s.toks):=λh' c kp e'=>k _ h' s.toks (λb o _ e=>kp b o e) ⟨(_,_),rfl,aN _,rfl,vs,c,e',aP.mono (fc (aF.aG (W:=[]) (λb o _ e=>kp b o e) λ_ m=>zE m) (aN _)) r,hb⟩
 rcases ho with⟨n,rfl⟩|⟨n,rfl⟩
 ·exact call_list_seq p (.inl rfl) e rfl rfl (λh' c kp e'=>fin h' c kp e') (hl▸bO hb)
 ·exact call_list_seq p (.inr rfl) e rfl rfl (λh' c kp e'=>fin h' c kp e') (hl▸bO hb)
end
end Mine
end
section
open PySem PySem.W PyProof.Rows
namespace Mine
set_option tactic.hygienic false
section
variable {w:World} {A:Around} {M:List Addr} {s:Shared} {Q:Value→Shared→Prop} {E:Value→Shared→Prop} {K:Frag} {FL:List Env}
theorem II {P:Heap} {l:List AV} {vs:List Value} (r:aP w.params P l vs):l.all iL=true→∃ns:List Int,IntsAre vs ns∧(∀n∈ns,0≤n∧n<256)∧(byteArr ns).toList=l.map Di:=by
 induction r with
 |nil=>exactλ_=>⟨[],.nil,(λ_ m=>zE m),rfl⟩
 | @cons d v l vs a r ih=>
  intro h;have h:=Bool.and_eq_true_iff.mp h;obtain⟨ns,h1,h2,h3⟩:=ih h.2;have hd:=h.1;unfold iL at hd;cases q:cy d with
  |none=>rw[q] at hd;exact zC hd
  |some i=>
  rw[q] at hd;have hr:=of_decide_eq_true (show decide (0≤i∧i<256)=true from hd);have et:Di d=i.toNat.toUInt8:=by unfold Di A9;rw[q];rfl
  obtain rfl:=gQ q;obtain⟨t,rfl⟩:=a.out (g:=P.get?) λ_ _ e=>e
  refine⟨i::ns,.cons _ _ h1,λn m=>(List.mem_cons.mp m).elim (λe=>e▸hr) (h2 n),?_⟩;rw[List.map_cons,et,←h3];rfl
theorem Kj {x:AV} {u:Value} (hx:aq w.params M s.heap x u):bZ (bA w M A s Q E (.type "str") [u]) (Ol x):= .bind λi e=> .two λc1 c2=>rI hx e λt K=>P.str_of_int (Nat.lt_of_lt_of_le (lC c1) (by decide)) (K _ s.heap _ (.refl _ _) (.str _ _ (of_decide_eq_true c2)))
theorem tQ {a b c:Int} {h:Heap} {t u v:Tok} (lv:bG M h) (ha:small a=true) (hb:small b=true) (hc:small c=true) (h0:c≠0):Rep w.params M (h.push (jN a b c t u v)) (.rng a b c) (.ref h.objs.size):=aD.rng (oL lv rfl) ha hb hc h0
theorem Kr (lv:bG M s.heap) {as:List AV} {us:List Value} (r:g8 w.params M s.heap as us):bZ (iu w M A s Q E (.type "range") us) (M0 as):=by
 cases r with
 |nil=>exact .none
 | @cons x u as us ha r=>
  refine .bind λa e=> ?_
  refine rI (P:=λu=>bZ (iu w M A s Q E (.type "range") (u::us)) _) ha e λt=> ?_
  cases r with
  |nil=>exact .one λc=>nK rfl λK=>call_range_1 (K _ (s.heap.push (jN 0 a 1 _ _ _)) _ (aH _ _ _) (tQ lv (by decide) c (by decide) (by decide)))
  | @cons y v as us hb r=>
   refine .bind λb e2=> ?_
   refine rI (P:=λv=>bZ (iu w M A s Q E (.type "range") (_::v::us)) _) hb e2 λt2=> ?_
   cases r with
   |nil=>exact .one λc=>have c:=Bool.and_eq_true_iff.mp c;nK rfl λK=>call_range_2 (K _ (s.heap.push (jN a b 1 _ _ _)) _ (aH _ _ _) (tQ lv c.1 c.2 (by decide) (by decide)))
   | @cons z v3 as us hc r=>
    refine .bind λc e3=> ?_
    refine rI (P:=λv=>bZ (iu w M A s Q E (.type "range") (_::_::v::us)) _) hc e3 λt3=> ?_
    cases r with
    |nil=>exact .one λq=>have q:=Bool.and_eq_true_iff.mp q;have q1:=Bool.and_eq_true_iff.mp q.1;have q2:=Bool.and_eq_true_iff.mp q1.1;nK rfl λK=>call_range_3 (of_decide_eq_true q.2) (K _ (s.heap.push (jN a b c _ _ _)) _ (aH _ _ _) (tQ lv q2.1 q2.2 q1.2 (of_decide_eq_true q.2))) (.inl (PyProof.noPylong_of_log2 (Nat.lt_of_lt_of_le (lC q1.2) (by decide))))
    |cons=>exact .none
theorem Fi {x:AV} {u:Value} (hx:aq w.params M s.heap x u) (hh:A.handled=none):bZ (bA w M A s Q E (.type "bytes") [u]) ((mC x).bind λl=>some ([l.all iL,decide (l.length≤ao)],.bytes (l.map Di))):= .bind λl e=> .two λc1 c2=>rL hx e λp vs m e r hl hb K=>by
 obtain⟨ns,h1,h2,h3⟩:=II r c1;refine call_bytes_ints (vs:=vs.toList) ⟨_,e,rfl,m,rfl⟩ h1 h2 (r.length▸bO hb) hh λh' t tk kp=> ?_
 have:byteArr ns=(l.map Di).toArray:=by rw[←h3]
 refine this.symm▸?_;exact K _ h' tk (λb o _ e=>kp b o e) (.bytes _ _ (by rw[List.length_map];exact hb))
theorem DB {x:AV} {u:Value} (hx:aq w.params M s.heap x u) (lv:bG M s.heap):bZ (iu w M A s Q E (.type "list") [u]) (JH x):=by
 refine cR (Ψ:=λx g=>aq w.params M s.heap x u→bZ (iu w M A s Q E (.type "list") [u]) g) x (λ_ _=> .none) (λ_ _=> .none) (λ_ _=> .none) ?_ ?_ (λ_ _ _=> .none) (λ_ _=> .none) hx
 ·exactλl hx=> .nil (rT hx rfl λp vs m _ e r hl hb=>yU e (.inr ⟨m,rfl⟩) r hl hb lv)
 ·exactλl hx=> .nil (rL hx rfl λp vs m e r hl hb=>yU e (.inl ⟨m,rfl⟩) r hl hb lv)
theorem NR {α:Type} {Φ Ψ:α→Prop} {g:Option (List Bool×α)} (k:bZ Φ g) (h:∀a∈g,Φ a.2→Ψ a.2):bZ Ψ g:=λa e c=>h a e (k a e c)
theorem L4 (hh:A.handled=none) (lv:bG M s.heap) (hS:sysModules<s.heap.objs.size) {nm:String} {as:List AV} {us:List Value} (ha:g8 w.params M s.heap as us):bZ (iu w M A s Q E (.type nm) us) (Sv nm as):=by
 have toN:∀{f us z},iJ z=false→bA w M A s Q E f us z→iu w M A s Q E f us z:=λo h=>nK o h
 have all:∀p∈OK,∀as us,g8 w.params M s.heap as us→bZ (iu w M A s Q E (.type p.1) us) (p.2 as):=List.forall_mem_cons.mpr ⟨λas us r=>jk r (λ_ _=>rfl) rfl λx u hx=> .bind λi e=> .nil (rI hx e λt=>toN rfl λK=>call_int_int (K _ s.heap _ (.refl _ _) (.int _ _))),
  List.forall_mem_cons.mpr ⟨λas us r=>jk r (λ_ _=>rfl) rfl λx u hx=>NR (Kj hx) λa e h=>toN (by obtain⟨i,_,e⟩:=bind_some e;obtain rfl:=Option.some.inj e;rfl) h,
  List.forall_mem_cons.mpr ⟨λas us r=>Kr lv r,
  List.forall_mem_cons.mpr ⟨λas us r=>jk r (λ_ _=>rfl) rfl λx u hx=>NR (Fi hx hh) λa e h=>toN (by obtain⟨i,_,e⟩:=bind_some e;obtain rfl:=Option.some.inj e;rfl) h,
  List.forall_mem_cons.mpr ⟨λas us r=>jk r (λ_ _=>rfl) rfl λx u hx=>DB hx lv,
  List.forall_mem_cons.mpr ⟨λas us r=>jk r (λ_ _=>rfl) rfl λx u hx=> .bind λl e=> .one λc=>by
   obtain rfl:=ff e;have c:=Bool.and_eq_true_iff.mp c;exact nY hx c.2 (of_decide_eq_true c.1) hh lv hS,λ_ m=>zE m⟩⟩⟩⟩⟩⟩
 exact .bind λf e=>all _ (dB e) as us ha
theorem zb (n m i j:Nat):C8 n (some (i:Int)) (some (j:Int)) m=if min j n<i+m then Option.none else some (i,min j n):=by
 unfold C8 PySem.Builtin.Bytes.window;simp only[Option.getD];rw[if_neg (Int.not_lt.mpr (Int.natCast_nonneg i)),if_neg (Int.not_lt.mpr (Int.natCast_nonneg j)),show min (n:Int) j=((min j n:Nat):Int) from Nat.min_comm j n▸(Lean.Omega.Int.ofNat_min n j).symm];generalize min j n=k;by_cases h:k<i+m
 ·rw[if_pos h,if_pos (Int.sub_left_lt_of_lt_add (Int.natCast_add i m▸Int.ofNat_lt.mpr h))]
 ·rw[if_neg h,if_neg λq=>h (Int.ofNat_lt.mp (Int.natCast_add i m▸Int.lt_add_of_sub_left_lt q))];rfl
theorem HJ (n m:Nat):C8 n Option.none Option.none m=if n<m then Option.none else some (0,n):=(zb n m 0 n).trans (by rw[Nat.min_self,Nat.zero_add])
theorem Ci (b p:List UInt8) (lo hi:Nat):
 (match(C8 b.length (some (lo:Int)) (some (hi:Int)) p.length).bind λ(x:Nat×Nat)=>PySem.Builtin.Bytes.find? b.toArray p.toArray x.1 x.2 with|some j=>(j:Int)|Option.none=> -1)=findB b p lo hi:=by
 unfold findB;rw[zb];generalize min hi b.length=k;by_cases q:k<lo+p.length
 ·rw[if_pos q,Nat.sub_eq_zero_of_le q];rfl
 ·rw[if_neg q];exact pG b p lo k
theorem ow {b0 kl:List UInt8} {t:Tok} (hb:b0.length≤ao) (hk:kl.length≤b0.length) (he:kl.length=b0.length→kl=b0)
 (k:∀v' h' tk,aF [] s.heap h'→Rep w.params M h' (.bytes kl) v'→Q v' (up s h' tk)):(if(kl.length==b0.toArray.size)=true then Made.val (.bytes b0.toArray t) else Made.bytes kl.toArray).post Q s:=by
 have hk':kl.length≤ao:=Nat.le_trans hk hb;by_cases c:kl.length=b0.length
 ·rw[if_pos (by simpa using c)];rw[he c] at k;exact k _ s.heap s.toks (aF.refl _ _) (.bytes _ _ hb)
 ·rw[if_neg (by simpa using c)];refine⟨by simp only[List.size_toArray];rw[iz];rw[lq] at hk';lia,k _ s.heap _ (aF.refl _ _) (.bytes _ _ hk')⟩
theorem qK (p:List UInt8):∀b:List UInt8,∃c,b=c++dH p b:=by
 intro b
 induction b with
 |nil=>
  exact⟨[],rfl⟩
 |cons x r ih=>
  show∃d,x::r=d++(if p.contains x=true then dH p r else x::r);split
  ·obtain⟨c,h⟩:=ih;exact⟨x::c,by rw[List.cons_append,←h]⟩
  ·exact⟨[],rfl⟩
theorem oh (p b:List UInt8):(dH p b).length≤b.length∧((dH p b).length=b.length→dH p b=b):=by
 obtain⟨c,h⟩:=qK p b;have hl:=congrArg List.length h;rw[List.length_append] at hl;refine⟨by omega,λe=> ?_⟩;have:c=[]:=List.eq_nil_of_length_eq_zero (by lia);rw[this] at h;exact h.symm
theorem oq (p b:List UInt8):(dG p b).length≤b.length∧((dG p b).length=b.length→dG p b=b):=by
 unfold dG;have h:=oh p b.reverse;rw[List.length_reverse] at h;refine List.length_reverse.symm▸?_;refine⟨h.1,λe=> ?_⟩;rw[h.2 e,List.reverse_reverse]
end
set_option tactic.hygienic false
section
variable {w:World} {A:Around} {M:List Addr} {s:Shared} {Q:Value→Shared→Prop} {E:Value→Shared→Prop} {K:Frag} {FL:List Env}
noncomputable def At (T:String) (p:String×String):Prop:=Slot T (Str.ofString p.1) p.2∧typeOf (.builtin p.2)=pure (.type "method_descriptor")
theorem CK:∀p∈Nk,At "bytes" (p.1,p.2.1):=List.forall_mem_cons.mpr ⟨⟨cD,nh⟩,List.forall_mem_cons.mpr ⟨⟨fW,lJ⟩,List.forall_mem_cons.mpr ⟨⟨gi,mj⟩,List.forall_mem_cons.mpr ⟨⟨fH,jV⟩,List.forall_mem_cons.mpr ⟨⟨fP,lI⟩,List.forall_mem_cons.mpr ⟨⟨hO,nE⟩,λ_ m=>zE m⟩⟩⟩⟩⟩⟩
theorem Me:∀p∈Po,At "str" (p.1,p.2.1):=List.forall_mem_cons.mpr ⟨⟨F.slot_str_join,F.type_str_join⟩,List.forall_mem_cons.mpr ⟨⟨F.slot_str_find,F.type_str_find⟩,λ_ m=>zE m⟩⟩
theorem IC:∀p∈PN,At "dict" (p.1,p.2.1):=List.forall_mem_cons.mpr ⟨⟨F.slot_dict_get,F.type_dict_get⟩,λ_ m=>zE m⟩
theorem Hu:∀p∈Mw,At "list" (p.1,p.2.1):=List.forall_mem_cons.mpr ⟨⟨F.slot_list_append,F.type_list_append⟩,List.forall_mem_cons.mpr ⟨⟨F.slot_list_extend,F.type_list_extend⟩,List.forall_mem_cons.mpr ⟨⟨F.slot_list_pop,F.type_list_pop⟩,λ_ m=>zE m⟩⟩⟩
structure JG (s:Shared) (T m id:String) (u:Value):Prop where
 plain:PlainAttrs T
 slot:Slot T (Str.ofString m) id
 ty:typeOf (.builtin id)=pure (.type "method_descriptor")
 is:s.TypeIs u T
 nod:∀a,u= .ref a→∃ob,s.heap.get? a=some ob∧ob.dict=none
theorem idOf {α:Type} {l:List (String×String×α)} {T T' m id:String} (e:(cA l m).map (λf=>(T,f.1))=some (T',id)) (h:∀p∈l,At T (p.1,p.2.1)):T'=T∧At T (m,id):=by
 obtain⟨f,e1,e2⟩:=Option.map_eq_some_iff.mp e;cases e2;exact⟨rfl,h _ (dB e1)⟩
theorem AI {o:AV} {m T id:String} (h:cf o m=some (T,id)) {u:Value} (ho:aq w.params M s.heap o u):JG s T m id u:=by
 revert h ho;refine cR (Ψ:=λo r=>r=some (T,id)→aq w.params M s.heap o u→JG s T m id u) o (λ_ e=>zA e) ?_ ?_ (λ_ e=>zA e) ?_ ?_ λ_ e=>zA e
 ·intro x e ho;obtain⟨rfl,a⟩:=idOf e Me;exact rS ho rfl λt _=>⟨F.plainAttrs_str,a.1,a.2,typeIs_str _ _ _,λ_ e=>nomatch e⟩
 ·intro x e ho;obtain⟨rfl,a⟩:=idOf e CK;exact rB ho rfl λt _=>⟨FB.plainAttrs_bytes,a.1,a.2,typeIs_bytes _ _ _,λ_ e=>nomatch e⟩
 ·intro x e ho;obtain⟨rfl,a⟩:=idOf e Hu;exact rL ho rfl λp vs n e _ _ _=>⟨F.plainAttrs_list,a.1,a.2,⟨_,e,rfl⟩,λb q=>by cases q;exact⟨_,e,rfl⟩⟩
 ·intro k v e ho;obtain⟨rfl,a⟩:=idOf e IC;obtain⟨p,es,n,rfl,_,e,_⟩:=PS ho;exact⟨F.plainAttrs_dict,a.1,a.2,⟨_,e,rfl⟩,λb q=>by cases q;exact⟨_,e,rfl⟩⟩
theorem oj {b p:List UInt8} (lo hi:Nat) (K:Er w M s Q (.int (findB b p lo hi))):Q (.int (match(C8 b.length (some (lo:Int)) (some (hi:Int)) p.length).bind λ(x:Nat×Nat)=>PySem.Builtin.Bytes.find? b.toArray p.toArray x.1 x.2 with|some j=>(j:Int)|none=> -1) s.toks) (up s s.heap (s.toks+1)):=by
 have kk:=K _ s.heap (s.toks+1) (.refl _ _) (.int (findB b p lo hi) s.toks);rw[←Ci b p lo hi] at kk;exact kk
theorem Cb {b:List UInt8} {t:Tok} {as:List AV} {us:List Value} (r:g8 w.params M s.heap as us):bZ (bA w M A s Q E (.builtin "bytes.find") (.bytes b.toArray t::us)) (Jx b as):=by
 cases r with
 |nil=>exact .none
 | @cons x u as us ha r=>
  refine .bind λp e=> ?_
  refine rB (P:=λu=>bZ (bA w M A s Q E (.builtin "bytes.find") (_::u::us)) _) ha e λt1 _=> ?_
  cases r with
  |nil=>exact .nil λK=>call_gives cD (typeIs_bytes _ _ _) dz (kz _ _) (gG B7) (oj 0 b.length K)
  | @cons y v as us hb r=>
   refine .bind λl e2=> ?_
   refine rI (P:=λv=>bZ (bA w M A s Q E (.builtin "bytes.find") (_::_::v::us)) _) hb e2 λt2=> ?_
   cases r with
   |nil=>
    refine .one λc=> ?_
    obtain⟨l,rfl⟩:=Int.eq_ofNat_of_zero_le (of_decide_eq_true (Bool.and_eq_true_iff.mp c).1);exactλK=>call_gives cD (typeIs_bytes _ _ _) dz (kG _ _ _) (gG LP) (oj l b.length K)
   | @cons z v3 as us hc r=>
    refine .bind λj e3=> ?_
    refine rI (P:=λv=>bZ (bA w M A s Q E (.builtin "bytes.find") (_::_::_::v::us)) _) hc e3 λt3=> ?_
    cases r with
    |nil=>
     refine .one λc=> ?_
     have c:=Bool.and_eq_true_iff.mp (Bool.and_eq_true_iff.mp (Bool.and_eq_true_iff.mp c).1).1;obtain⟨l,rfl⟩:=Int.eq_ofNat_of_zero_le (of_decide_eq_true c.1);obtain⟨j,rfl⟩:=Int.eq_ofNat_of_zero_le (of_decide_eq_true c.2);exactλK=>call_gives cD (typeIs_bytes _ _ _) dz (kK _ _ _ _) (gG Mk) (oj l j K)
    |cons=>exact .none
theorem A0 {b p:List UInt8} (hp:¬p.isEmpty=true):(match C8 b.toArray.size none none p.toArray.size with|some x=>((PySem.Builtin.Bytes.occurrences b.toArray p.toArray x.1 x.2).length:Int)|none=>0:Int)=(dq p b.length b:Nat):=by
 cases p with
 |nil=>exact absurd rfl hp
 |cons a p=>
 rw[zM a p b.length b 0 (Nat.le_refl _),HJ];by_cases q:b.toArray.size<(a::p).toArray.size
 ·rw[if_pos q,pP _ _ _ _ q];rfl
 ·rw[if_neg q];exact congrArg (λl=>((List.length l:Nat):Int)) (EF b a p)
noncomputable abbrev BY (w:World) (M:List Addr) (A:Around) (s:Shared) (Q:Value→Shared→Prop) (E:Value→Shared→Prop) (b:List UInt8) (t:Tok) (p:String×String×(List UInt8→Fn)):Prop:=∀as us,g8 w.params M s.heap as us→bZ (bA w M A s Q E (.builtin p.2.1) (.bytes b.toArray t::us)) (p.2.2 b as)
theorem P4 {b:List UInt8} {t:Tok} {n id:String} {f:List UInt8→List UInt8→GV} (H:∀p u,bZ (bA w M A s Q E (.builtin id) [.bytes b.toArray t,.bytes p.toArray u]) (f b p)):BY w M A s Q E b t (n,id,λb=>a1 λx=>(b7 x).bind λp=>f b p):=λas us r=>
 jk (Φ:=λus z=>bA w M A s Q E (.builtin id) (.bytes b.toArray t::us) z) r (λ_ _=>rfl) rfl λx u hx=> .bind λp e=>rB (P:=λu=>bZ (bA w M A s Q E (.builtin id) [_,u]) _) hx e λt1 _=>H p t1
theorem LC {b:List UInt8} {t:Tok} (hb:b.length≤ao) (lv:bG M s.heap):∀p∈Nk,BY w M A s Q E b t p:=by
 refine List.forall_mem_cons.mpr ⟨λas us r=>Cb r,List.forall_mem_cons.mpr ⟨P4 λp u=> .ite (λ_=> .none) λhp=> .nil λK=> ?_,List.forall_mem_cons.mpr ⟨P4 λp u=> .ite (λ_=> .none) λhp=> .one λc K=> ?_,List.forall_mem_cons.mpr ⟨P4 λp u=> .nil λK=> ?_,List.forall_mem_cons.mpr ⟨P4 λp u=> .nil λK=> ?_,List.forall_mem_cons.mpr ⟨λas us r=>jk (Φ:=λus z=>bA w M A s Q E (.builtin "bytes.join") (.bytes b.toArray t::us) z) r (λ_ _=>rfl) rfl λx u hx=> .bind λl e=> .two λc1 c2 K=> ?_,λ_ m=>zE m⟩⟩⟩⟩⟩⟩
 ·refine call_gives fW (typeIs_bytes _ _ _) jR (jG _ _) (wj (by rw[List.isEmpty_toArray];exact Bool.eq_false_iff.mpr hp)) ?_;have kk:=K _ s.heap (s.toks+1) (.refl _ _) (.int ((dq p b.length b:Nat):Int) s.toks);rw[←A0 hp] at kk;exact kk
 ·have hl:=of_decide_eq_true c;rw[List.length_map] at hl;exact uz (Bool.eq_false_iff.mpr hp) hb hl lv K
 ·refine call_gives fH (typeIs_bytes _ _ _) jr (i6 _ _) (mQ (nm:="rstrip") (l:=false) (r:=true)) ?_;have e:(b.reverse.dropWhile p.toArray.contains).reverse=dG p b:=by unfold dG;rw[lS]
  have hs:=oq p b;have:=ow (t:=t) hb hs.1 hs.2 K;simpa [e] using this
 ·refine call_gives fP (typeIs_bytes _ _ _) ka (jE _ _) (mQ (nm:="strip") (l:=true) (r:=true)) ?_;have e:((b.dropWhile p.toArray.contains).reverse.dropWhile p.toArray.contains).reverse=dG p (dH p b):=by unfold dG;rw[lS,lS]
  have hs1:=oh p b;have hs:=oq p (dH p b);have:=ow (t:=t) hb (Nat.le_trans hs.1 hs1.1) (λq=>by rw[hs.2 (by omega),hs1.2 (by omega)]) K;simpa [e] using this
 ·obtain rfl:=ff e;exact xQ hx c1 (of_decide_eq_true c2) λt' tk=>K _ s.heap tk (.refl _ _) (.bytes _ _ (of_decide_eq_true c2))
theorem Ie {x y:AV} {k d:List AV} {u u1 u2:Value} (ho:aq w.params M s.heap (.dct k d) u) (hf:aP w.params (aG M s.heap) [x,y] [u1,u2]) (c:cW x k=true):bA w M A s Q E (.builtin "dict.get") [u,u1,u2] ((dU k d x).getD y):=λK=>by
 cases hf with|cons r1 hf=>
 cases hf with|cons r3 _=>
 obtain⟨T,y',ks,a,vs,e1,e2,rfl,hs,D,rl,hl⟩:=iQ ho c;rw[e1] at r1 K;rw[e2] at K;obtain⟨t,rfl⟩:=T.rep r1;refine call_meetsIn F.slot_dict_get D.typeIs F.entry_dict_get (F.args_dict_get_3 _ _ _) (meets_dict_get_default T.knd a (T.good _ _) (beq_eq_false_iff_ne.mpr hs) _) ⟨_,D.mapOf,?_⟩;rcases tR T y' rl hl with⟨z',v',h1,h2,h3⟩|⟨h1,h2⟩
 ·rw[h1] at K;rw[h2];exact K _ s.heap _ (.refl _ _) h3
 ·rw[h1] at K;rw[h2];exact K _ s.heap _ (.refl _ _) r3
theorem JO {x:Str} {t:Tok}:∀p∈Po,∀as us,g8 w.params M s.heap as us→bZ (bA w M A s Q E (.builtin p.2.1) (.str x t::us)) (p.2.2 x as):=
 List.forall_mem_cons.mpr ⟨λas us r=>jk (Φ:=λus z=>bA w M A s Q E (.builtin "str.join") (.str x t::us) z) r (λ_ _=>rfl) rfl λy u hx=> .bind λl e=> .ite (λh0=> .two λc1 c2 K=>by
  obtain rfl:=ff e;exact xJ hx h0 c1 (of_decide_eq_true c2) λt' tk=>K _ s.heap tk (.refl _ _) (.str _ _ (of_decide_eq_true c2))) λ_=> .none,
  List.forall_mem_cons.mpr ⟨λas us r=>jk (Φ:=λus z=>bA w M A s Q E (.builtin "str.find") (.str x t::us) z) r (λ_ _=>rfl) rfl λy u hx=> .bind λp e=> .nil λK=>rS (P:=λu=>wpAny _ A (call _ [_,u]) Q E s) hx e λt1 _=>call_gives F.slot_str_find (typeIs_str _ _ _) F.entry_str_find (F.args_str_find_2 _ _) (gives_str_find _ _ _ _) (K _ s.heap _ (.refl _ _) (.int _ _)),λ_ m=>zE m⟩⟩
theorem nS {α:Type} {l:List (String×String×α)} {m T T' id:String} {f:String×α} (e:cA l m=some f) (h:(cA l m).map (λf=>(T',f.1))=some (T,id)):f.1=id:=by
 rw[e] at h;cases h;rfl
theorem Fd {o:AV} {m:String} {as:List AV} {u:Value} {us:List Value} (ho:aq w.params M s.heap o u) (ha:g8 w.params M s.heap as us) (hf:(DD o).isNone=true∨aP w.params (aG M s.heap) as us) (lv:bG M s.heap) {T id:String}:
 cf o m=some (T,id)→bZ (bA w M A s Q E (.builtin id) (u::us)) (JA o m as):=by
 cases o with
 |str x=>exactλh=> .bind λf e=>nS e h▸rS (P:=λu=>bZ (bA w M A s Q E (.builtin f.1) (u::us)) (f.2 x as)) ho rfl λt _=>JO _ (dB e) as us ha
 |bytes x=>exactλh=> .bind λf e=>nS e h▸rB (P:=λu=>bZ (bA w M A s Q E (.builtin f.1) (u::us)) (f.2 x as)) ho rfl λt hb=>LC hb lv _ (dB e) as us ha
 |dct k d=>
  refineλh=> .bind λf e=>nS e h▸?_
  obtain⟨e1,e2⟩:f.1="dict.get"∧f.2=λd=>a2 λx y=>ji (flat x&&flat y&&cW x d.1) ((dU d.1 d.2 x).getD y):=by
   rcases List.mem_cons.mp (dB e) with q|q
   ·cases q;exact⟨rfl,rfl⟩
   ·exact zE q
  rw[e1,e2];cases ha with
  |nil=>exact .none
  |cons a1 ha=>
  cases ha with
  |nil=>exact .none
  |cons a2 ha=>
  cases ha with
  |nil=>exact .one λc=>have c:=Bool.and_eq_true_iff.mp c;Ie ho (hf.resolve_left λq=>zC q) c.2
  |cons=>exact .none
 |_=>exactλ_=> .none
end
set_option tactic.hygienic false
noncomputable def aS (pr:Params) (M:List Addr) (mu:Mu) (h0 h:Heap) (S:List AV) (d:AV) (v:Value):Prop:=match iJ d with
 |true=>∃p,v= .ref p.1∧h0.get? p.2=none∧ak pr (p.2::M) h d p∧ai pr (p.2::M) h S mu
 |false=>Rep pr M h d v
theorem aS.map {pr:Params} {M:List Addr} {mu mu':Mu} {h0 h1 h:Heap} {S S':List AV} {d:AV} {v:Value} (t:aS pr M mu h0 h S d v) (o:∀a,h0.get? a=none→h1.get? a=none) (st:∀a,h0.get? a=none→ai pr (a::M) h S mu→ai pr (a::M) h S' mu'):aS pr M mu' h1 h S' d v:=by
 unfold aS at*;cases q:iJ d with
 |true=>rw[q] at t;exact t.elim λp x=>⟨p,x.1,o _ x.2.1,x.2.2.1,st _ x.2.1 x.2.2.2⟩
 |false=>rw[q] at t;exact t
theorem aS.rep {pr:Params} {M:List Addr} {mu:Mu} {h0 h:Heap} {S:List AV} {d:AV} {v:Value} (t:aS pr M mu h0 h S d v):cg pr M h0 h d v:=by
 unfold aS at t;unfold cg;cases q:iJ d with
 |true=>rw[q] at t;exact t.elim λp x=>⟨p,x.1,x.2.1,x.2.2.1⟩
 |false=>rw[q] at t;exact t
theorem cg.store {pr:Params} {M:List Addr} {mu:Mu} {h0 h:Heap} {S:List AV} {d:AV} {v:Value} (t:cg pr M h0 h d v) (st:∀a:Addr,h0.get? a=none→ai pr (a::M) h S mu):aS pr M mu h0 h S d v:=by
 unfold cg at t;unfold aS;cases q:iJ d with
 |true=>rw[q] at t;exact t.elim λp x=>⟨p,x.1,x.2.1,x.2.2,st _ x.2.1⟩
 |false=>rw[q] at t;exact t
noncomputable def mT (w:World) (XR:i7) (n:Nat) (K:K6):Prop:=∀⦃f vs o res⦄,K f vs o=some res→∀⦃M:List Addr⦄ ⦃mu:Mu⦄ ⦃us:List Value⦄ ⦃A:Around⦄ ⦃s:Shared⦄ ⦃R:Result→Shared→Prop⦄ ⦃FL:List Env⦄,qR n FL A→Ge (H1 w.params) (aG M s.heap)→bG M s.heap→mq M FL s.heap→
 (∀a∈b9 mu,a∈M)→(b9 mu).Nodup→cw w.params M mu s.heap vs us→ai w.params M s.heap o.toList mu→
 (∀v fr o' u h' tk,res= .ret v fr o'→flat v=true→ah M (b9 mu) s.heap h'→ai w.params M h' o'.toList mu→(if fr=true then aS w.params M mu s.heap h' o'.toList v u else Rep w.params M h' v u)→R (.ok (.ret u)) (up s h' tk))→
 (∀x h' tk,res= .exc→XR.X M (b9 mu) s.heap h' x→R (.error x) (up s h' tk))→
 codeAny (model PW w) A (.call (.ref (A5 f)) ⟨us,[]⟩) R s
noncomputable def fF (pr:Params) (M:List Addr) (mu:Mu) (h0:Heap):Heap→List AV→(AV×Bool)→Value→Prop:=λh S d v=>flat d.1=true∧(if d.2=true then aS pr M mu h0 h S d.1 v else Rep pr M h d.1 v)
section
variable {w:World} {XR:i7} {n:Nat} {C:ay} {M:List Addr} {mu:Mu} {env:Env} {r:Loc} {S:List AV} {A:Around} {s:Shared} {E:Value→Shared→Prop} {FL:List Env} {h h':Heap} {d:AV} {p:Addr×Addr} {W:List Addr}
theorem EM {c:Bool} {P Q P':Prop} (t:if c=true then P else Q) (f:P→P'):if c=true then P' else Q:=by
 cases c with
 |true=>exact f t
 |false=>exact t
theorem fF.old {h0 h1 h:Heap} (o:∀a,h1.get? a=none→h0.get? a=none) {S:List AV} {d:AV×Bool} {v:Value} (t:fF w.params M mu h1 h S d v):fF w.params M mu h0 h S d v:=⟨t.1,EM t.2 λt=>t.map o λ_ _ s=>s⟩
theorem EB {vs:Array Value} {n:Nat}:¬fu (aV vs n):=λh=>by have:=h.1;simp at this
theorem pQ {es:Array DictEntry} {n:Nat}:¬fu (aU es n):=λh=>by have:=h.1;simp at this
theorem ak.Lc (t:ak w.params M h d p) {o:Obj} (e:h.get? p.2=some o):¬fu o:=Ob.cases t (Φ:=λ_ _ a=>h.get? a=some o→¬fu o) (λ_ _ _ _ e1 _ _ e=>by cases e1.symm.trans e;exact EB) (λ_ _ _ _ _ _ e1 _ _ e=>by cases e1.symm.trans e;exact pQ) (λ_ _ _ _ _ _ _ _ e1 _ _ _ e=>by cases e1.symm.trans e;exact pQ) e
theorem aF.EH {d':AV} (k:aF [p.2] h h') (t:ak w.params M h d p) (t':ak w.params M h' d' p):ah M [p.2] h h':=t'.at2.elim λ_ e'=>k.m1 e' λ_ e f=>absurd f (t.Lc e)
theorem ak.jY {M':List Addr} (g:Ge (aG M h) (aG M' h')) (k:∀o,h.get? p.2=some o→h'.get? p.2=some o) (t:ak w.params M h d p):ak w.params M' h' d p:=Ob.mono t (g _) k g
theorem ak.iF (k:ah M W h h') (hW:∀b∈W,b∈M) (hp:p.2∉W) (t:ak w.params M h d p):ak w.params M h' d p:=t.jY (k.aG hW) λ_ e=>k.get hp e (t.Lc e)
theorem ak.less {M':List Addr} (sub:∀a∈M',a∈M) (t:ak w.params M h d p):ak w.params M' h d p:=t.jY (qa sub) λ_ e=>e
theorem ak.pj {a:Addr} (k:ah M W h h') (hW:∀b∈W,b∈M) (hp:p.2∉W) (hn:h.get? a=none) (t:ak w.params M h d p):ak w.params (a::M) h' d p:=t.jY (fc (k.aG hW) hn) λ_ e=>k.get hp e (t.Lc e)
theorem F2.walk {α β:Type} {R R':α→β→Prop} {l:List α} {m:List β} (t:F2 R l m):(∀a,∀b∈m,R a b→R' a b)→F2 R' l m:=by
 induction t with
 |nil=>exactλ_=> .nil
 |cons a _ ih=>exactλk=> .cons (k _ _ List.mem_cons_self a) (ih λa b m=>k a b (List.mem_cons_of_mem _ m))
theorem ai.iF (k:ah M W h h') (hW:∀b∈W,b∈M) {S:List AV} {mu:Mu} (hp:∀p∈mu,p.2∉W) (t:ai w.params M h S mu):ai w.params M h' S mu:=F2.walk t λ_ p m=>ak.iF k hW (hp p m)
theorem ai.pj {a:Addr} (k:ah M W h h') (hW:∀b∈W,b∈M) (hn:h.get? a=none) {S:List AV} {mu:Mu} (hp:∀p∈mu,p.2∉W) (t:ai w.params M h S mu):ai w.params (a::M) h' S mu:=F2.walk t λ_ p m=>ak.pj k hW (hp p m) hn
theorem F2.PG {R R':AV→Addr×Addr→Prop} {o':AV} (t:R' o' p) {S:List AV} {mu:Mu} (r:F2 R S mu):∀{i:Nat},(b9 mu).Nodup→mu[i]? =some p→(∀a q,R a q→q.2≠p.2→R' a q)→F2 R' (S.set i o') mu:=by
 induction r with
 |nil=>exactλ_ e=>zA e
 |cons a r ih=>
  intro i nd e k;have⟨nd1,nd2⟩:=List.nodup_cons.mp nd;cases i with
  |zero=>
   obtain rfl:=Option.some.inj e;exact .cons t (F2.walk r λa q m ra=>k a q ra λz=>nd1 (List.mem_map.mpr ⟨q,m,z⟩))
  |succ i=>exact .cons (k _ _ a λz=>nd1 (List.mem_map.mpr ⟨p,List.mem_of_getElem? (show _=some p from e),z.symm⟩)) (ih nd2 e k)
theorem ai.set {o':AV} (k:ah M [p.2] h h') (hM:p.2∈M) (t:ak w.params M h' o' p) {S:List AV} {mu:Mu} {i:Nat} (nd:(b9 mu).Nodup) (e:mu[i]? =some p) (r:ai w.params M h S mu):ai w.params M h' (S.set i o') mu:=
 F2.PG t r nd e λ_ q a z=>ak.iF k (λb m=>by rw[List.mem_singleton.mp m];exact hM) (λm=>z (List.mem_singleton.mp m)) a
theorem ai.Ry {a:Addr} {o':AV} (k:ah M [p.2] h h') (hM:p.2∈M) (hn:h.get? a=none) (t:ak w.params (a::M) h' o' p) {S:List AV} {mu:Mu} {i:Nat} (nd:(b9 mu).Nodup) (e:mu[i]? =some p) (r:ai w.params M h S mu):ai w.params (a::M) h' (S.set i o') mu:=
 F2.PG t r nd e λ_ q a z=>ak.pj k (λb m=>by rw[List.mem_singleton.mp m];exact hM) (λm=>z (List.mem_singleton.mp m)) hn a
theorem cg.Dk {h0:Heap} {d:AV} {v:Value} (k:ah M W h0 h') (hW:∀b∈W,b∈M) (hp:∀p∈mu,p.2∉W) (st:ai w.params M h0 S mu) (t:cg w.params M h0 h' d v):aS w.params M mu h0 h' S d v:=t.store λa hn=>st.pj k hW hn hp
theorem cw.uw {mu':Mu} {vs:List AV} {us:List Value} (t:cw w.params M mu h vs us) (f:fG vs=true):cw w.params M mu' h vs us:=by
 induction t with
 |nil=>exact .nil
 |cons a _ ih=>exact .cons ((ax.bo (cK f).1).mpr ((ax.bo (cK f).1).mp a)) (ih (cK f).2)
theorem jv {v:AV} {i:Nat} (e:rf v=some i):v= .ref i:=by
 cases v<;>first|exact Option.some.inj e▸rfl|exact zA e
theorem Ag {vs:List AV} {us:List Value} (t:cw w.params M mu h vs us):∀{q:List AV×Option Nat},t9 vs=some q→
 (q.2=none∧cw w.params M [] h q.1 us)∨(∃i p,q.2=some i∧mu[i]? =some p∧cw w.params M [p] h q.1 us):=by
 induction t with
 |nil=>intro q e;obtain rfl:=Option.some.inj e;exact .inl ⟨rfl,.nil⟩
 | @cons v u vs us a b ih=>
  intro q e;have e:(match rf v with|some i=>if fG vs=true then some (.ref 0::vs,some i) else none|none=>(t9 vs).map λp=>(v::p.1,p.2))=some q:=e;unfold ax at a;cases c:rf v with
  |none=>
   rw[c] at e a;have a':∀mu',ax w.params M mu' h v u:=λmu'=>by unfold ax;rw[c];exact a
   obtain⟨q',e1,rfl⟩:=Option.map_eq_some_iff.mp e;exact(ih e1).imp (λx=>⟨x.1,.cons (a' _) x.2⟩) λ⟨i,p,x,hp,t⟩=>⟨i,p,x,hp,.cons (a' _) t⟩
  |some i=>
   rw[c] at e a;dsimp only at e;split at e
   ·rename_i f
    obtain rfl:=Option.some.inj e;obtain⟨p,hp,rfl⟩:=a;exact .inr ⟨i,p,rfl,hp,.cons ⟨p,rfl,rfl⟩ (cw.uw b f)⟩
   ·exact zA e
theorem gM {i:Nat} (e:mu[i]? =some p):p.2∈b9 mu:=List.mem_map.mpr ⟨p,List.mem_of_getElem? e,rfl⟩
theorem kq (m:p.2∈b9 mu) (k:ah M [p.2] h h'):ah M (b9 mu) h h':=k.eO λb hb=>by rw[List.mem_singleton.mp hb];exact m
noncomputable def Dr (XR:i7):Prop:=∀{M W W':List Addr} {h h':Heap} {x:Value},(∀a∈W,a∈W')→XR.X M W h h' x→XR.X M W' h h' x
theorem FS.nd (F:FS w.params M FL env mu r S h):(b9 mu).Nodup:=(List.nodup_append.mp (List.nodup_cons.mp F.apart).2).2.1
theorem uP (O:mT w XR n C.K) (XW:Dr XR) {f:Callee} {vs:List AV} {res:Res (AV×Bool)} (h:(DY C f vs S).p=some res) {us:List Value} {Q:Value→Shared→Prop} (R:qR n FL A) (F:FS w.params M FL env mu r S s.heap) (tv:cw w.params M mu s.heap vs us)
 (P:aO w XR M mu s (fF w.params M mu s.heap) res Q E):(∃a o c,C.K f a o=some c)∧wpAny (model PW w) A (call (.ref (A5 f)) us) Q E s:=by
 obtain⟨⟨vs',oi⟩,e,h⟩:=bind_some h;rcases Ag tv e with⟨q,t⟩|⟨i,p,q,hp,t⟩
 ·obtain rfl:oi=none:=q;obtain⟨c,hk,h⟩:=bind_some h;refine⟨⟨_,_,_,hk⟩,wpAny_call ?_⟩;cases c with
  |exc=>
   obtain rfl:=Option.some.inj h;exact O hk R F.ground F.live F.frm (mu:=[]) (λ_ m=>zE m) List.nodup_nil t .nil (λ_ _ _ _ _ _ e=>nomatch e) λx h' tk _ k=>P x h' tk (XW (W:=b9 []) (λa m=>zE m) k)
  |ret v fr o=>
   refine aQ h λho h=>aQ h λfv h=> ?_
   obtain rfl:=Option.some.inj h;obtain rfl:=Option.isNone_iff_eq_none.mp ho;refine O hk R F.ground F.live F.frm (mu:=[]) (λ_ m=>zE m) List.nodup_nil t .nil (λv' fr' o' u h' tk e fv kp st nr=> ?_) λ_ _ _ e=>nomatch e
   cases e;exact P _ h' tk (kp.eO λa m=>zE m) (F.store.iF kp (λa m=>zE m) λp _ m=>zE m) ⟨fv,EM nr λnr=>nr.map (λ_ e=>e) λa hn _=>F.store.pj kp (λa m=>zE m) hn λp _ m=>zE m⟩
 ·obtain rfl:oi=some i:=q;obtain⟨o,ho,h⟩:=bind_some h;obtain⟨c,hk,h⟩:=bind_some h;refine⟨⟨_,_,_,hk⟩,wpAny_call ?_⟩;obtain⟨p',hp',mr⟩:=F.store.get ho;obtain rfl:=Option.some.inj (hp.symm.trans hp');have hM:=F.muM _ (gM hp);cases c with
  |exc=>exact zA h
  |ret v fr oo=>
   obtain⟨o',e,h⟩:=bind_some h;subst e;refine aQ h λfv h=> ?_
   obtain rfl:=Option.some.inj h;refine O hk R F.ground F.live F.frm (mu:=[p]) (λa m=>by rw[List.mem_singleton.mp m];exact hM) (List.nodup_cons.mpr ⟨λm=>(zE m),List.nodup_nil⟩) t (.cons mr .nil) (λv' fr' o'' u h' tk e fv kp st nr=> ?_) λ_ _ _ e=>nomatch e
   cases e;cases st with
   |cons m1 _=>exact P _ h' tk (kq (gM hp) kp) (ai.set kp hM m1 F.nd hp F.store) ⟨fv,EM nr λnr=>nr.map (λ_ e=>e) λa hn s1=>by cases s1 with|cons m2 _=>exact ai.Ry kp hM hn m2 F.nd hp F.store⟩
end
set_option tactic.hygienic false
noncomputable def noStar (e:Expr):Bool:= !(Nat.beq e.ctorIdx 22)
noncomputable def bN (es:List Expr):Bool:=es.all noStar
noncomputable def ib (o:Expr):Bool:=((uf o).bind λq=>ic q.1).all λx=> !(x==Str.ofString "super")
set_option tactic.hygienic true in
theorem tM {o:Expr} {a:Str} (h:ib o=true) (env:Env) (t:Sem Value):attributeBase o a env t=t:=by
 cases o<;>first|rfl|skip
 rename_i f as ks p
 cases f<;>first|rfl|skip
 rename_i x q
 cases as<;>first|rfl|skip
 cases ks<;>first|rfl|skip
 have hx:(x !=Str.ofString "super")=true:=h;unfold attributeBase;dsimp only;rw[if_pos (by rw[hx];rfl)]
theorem ky {env:Env} {pos:Pos} {es:List Expr} (h:bN es=true):∀x∈backTo pos (starEach es env),x.1=false:=by
 have k:∀x∈starEach es env,x.1=false:=by
  induction es with
  |nil=>exactλ_ m=>zE m
  |cons e es ih=>
   have h:=Bool.and_eq_true_iff.mp h;have ih:=ih h.2;cases e<;>first|exact zC h.1|exact List.forall_mem_cons.mpr ⟨rfl,ih⟩
 intro x m;obtain⟨y,my,e⟩:=List.mem_map.mp m;rw[←e];exact k y my
section
variable {w:World} {XR:i7} {n:Nat} {C:ay} {K:Frag} {M:List Addr} {mu:Mu} {env:Env} {r:Loc} {S:List AV} {A:Around} {s:Shared} {E:Value→Shared→Prop} {FL:List Env} {h h' h0:Heap}
theorem s9 {M:Model} {f:Value} {trees:List (Bool×Sem Value)} {Q:Args→Shared→Prop} (hp:∀x∈trees,x.1=false) (h:wpAny M A (spliced trees) (λvs s'=>Q ⟨vs,[]⟩ s') E s):wpAny M A (evalArgs f true trees []) Q E s:=by
 cases trees with
 |nil=>
  refine wpAny_bind (wpAny_mono h (λvs s' h'=> ?_) λ_ _ x=>x);refine wpAny_holding ?_;exact wpAny_bind (wpAny_pure (wpAny_bind (wpAny_pure (wpAny_pure h'))))
 |cons t r=>
  obtain⟨b,x⟩:=t;obtain rfl:b=false:=hp _ List.mem_cons_self;exact Calls.evalArgs_plain h
theorem call_meth {o:Expr} {name:Str} {apos pos:Pos} {as:List Expr} {Q:Value→Shared→Prop} (hbase:ib o=true) (hst:bN as=true) (hlen:as.length<30) (hline:(apos.endLine==pos.line)=true)
 (h:wpAny (model PW w) A (eval o env) (λov s₁=>∃f first,(∀{pl:Sem Bool} {Q:Value×List Value→Shared→Prop} {E:Value→Shared→Prop},Q (f,first) s₁→wpAny (model PW w) A (getMethod ov name pl) Q E s₁)∧wpAny (model PW w) A (callWith pos f first (backTo pos (starEach as env)) []) Q E s₁) E s):
 wpAny (model PW w) A (eval (.Call (.Attribute o name apos) as [] pos) env) Q E s:=by
 rw[arm_eval_Call,tM hbase];refine wpAny_bind (wpAny_mono h (λov s₁ h₁=>wpAny_bind (wpAny_standAt ?_)) λ_ _ e=>e);refine cps λG kf=> ?_
 obtain⟨f,first,hg,hc⟩:=h₁;refine kf ?_;have hform:methodCallForm (as.length+([]:List Keyword).length) (backTo pos (starEach as env)) (backToKw pos (keywordEach [] env))=true:=by
  unfold methodCallForm;rw[List.all_eq_true.mpr λx m=>by rw[ky hst x m];rfl];exact(decide_eq_true hlen:decide (as.length<30)=true)
 have hpos:methodCallPos true o env apos pos=pure pos:=by unfold methodCallPos;rw[hline];rfl
 unfold methodCall;refine hform.symm▸?_;refine wpAny_bind (wpAny_holding (hg ?_));exact wpAny_bind (wpAny_of_eq hpos hc)
theorem kQ {P:Heap→Prop} {f:Value} {first:List Value} {as:List Expr} {pos:Pos} {Q:Value→Shared→Prop} (hst:bN as=true)
 (hk:∀h,P h→∃k,(k=Keeper.frame∨k=Keeper.machine∨k=Keeper.boundFrame)∧Looks (model PW w) h (keeperOf f) k)
 (h:wpAny (model PW w) A (spliced (backTo pos (starEach as env))) (λvs s₁=>P s₁.heap∧wpAny (model PW w) A (call f (first++vs)) Q E s₁) E s):wpAny (model PW w) A (callWith pos f first (backTo pos (starEach as env)) []) Q E s:=by
 refine callWith_of (P:=P) (by rw[List.any_eq_false.mpr λx m q=>by cases (ky hst x m).symm.trans q];rfl) hk (s9 (ky hst) ?_);exact h
theorem fk {d:AV} (e:rf d=none):flat d=true:=by
 cases d<;>first|rfl|exact zB e
theorem cT {pr:Params} {P:Heap} {d:AV} {v:Value} (t:aD pr P d v):flat d=true:=by
 cases d<;>first|rfl|exact(t.out (g:=P.get?) λ_ _ e=>e).elim
structure k7 (K:Frag):Prop where
 fnKeep:∀f,cU f=true→keepIn K (.ref (A5 f))=true
 clsKeep:∀k,bk.contains k=true→keepIn K (.ref (ae k))=true
 meth:∀c m a j,bk.contains c=true→gK c m=some (a,j)→findIn K (.ref (ae c)) m=some (some (.ref (gw a j)))∧typeIn K (.ref (gw a j))=some (.type "function")
noncomputable def pC (K:Frag) (f:Value):Prop:=(∃i,f= .builtin i)∨(∃n,f= .type n)∨keepIn K f=true
theorem tg {f:Value} (k:pC K f) {h:Heap} (X:K.In h):∃k,(k=Keeper.frame∨k=Keeper.machine∨k=Keeper.boundFrame)∧Looks (model PW w) h (keeperOf f) k:=by
 rcases k with⟨i,rfl⟩|⟨n,rfl⟩|k
 ·exact⟨.machine,.inr (.inl rfl),Looks.of_pure rfl⟩
 ·exact⟨.machine,.inr (.inl rfl),Looks.of_pure rfl⟩
 ·exact keeps_K k h X
theorem pA (st:ai w.params M h S mu) {vs:List AV} {us:List Value} (t:cw w.params M mu h vs us):∀{ds:List AV},rE S vs=some ds→g8 w.params M h ds us:=by
 induction t with
 |nil=>exactλe=>Option.some.inj e▸.nil
 |cons a b ih=>
  intro ds e;refine cps λG kf=> ?_
  obtain⟨c,hc,e⟩:=bind_some e;obtain⟨cs,hcs,e⟩:=bind_some e;refine kf ?_;exact Option.some.inj e▸.cons (aq.of st a hc) (ih hcs)
theorem gv {v:AV} (f:flat v=true):bK S v=some v:=by
 cases v<;>first|rfl|exact zC f
theorem vP {vs:List AV}:∀{ds:List AV},fG vs=true→rE S vs=some ds→ds=vs:=by
 induction vs with
 |nil=>exactλ_ e=>(Option.some.inj e).symm
 |cons v vs ih=>
  intro ds f e;obtain⟨c,hc,e⟩:=bind_some e;obtain⟨cs,hcs,e⟩:=bind_some e;obtain rfl:=Option.some.inj e;rw[ih (cK f).2 hcs,Option.some.inj (hc.symm.trans (gv (cK f).1))]
theorem xe (hS:∃a o,(H1 w.params).get? a=some o∧sysModules≤a) (F:FS w.params M FL env mu r S s.heap):sysModules<s.heap.objs.size:=by
 obtain⟨a,o,e,l⟩:=hS;exact Nat.lt_of_le_of_lt l (Heap.lt_size (af.mp (F.ground a o e)).2)
theorem gF (X:K.In (H1 w.params)) (F:FS w.params M FL env mu r S h):K.In h:=λb o e=>(af.mp (F.ground b o (X b o e))).2
theorem cw.lift {M':List Addr} {mu':Mu} (e:∀(i:Nat) (p:Addr×Addr),mu[i]? =some p→mu'[i]? =some p) (g:Ge (aG M h) (aG M' h')) {ds:List AV} {vs:List Value} (t:cw w.params M mu h ds vs):cw w.params M' mu' h' ds vs:=F2.mono (λ_ _ t=>ax.lift t e g) t
theorem rt (c:Addr) (us:List Value):(Code.builtin "type.__call__" ⟨.ref c::us,[]⟩).weight≤3:=by
 have e:(Code.builtin "type.__call__" ⟨.ref c::us,[]⟩).weight=1:=by kernel_rfl
 rw[e];decide
theorem CZ (c:Addr) (us:List Value):(Code.builtin "type.__call__" ⟨.ref c::us,[]⟩).cUnits≤15:=by
 have e:(Code.builtin "type.__call__" ⟨.ref c::us,[]⟩).cUnits=1:=by kernel_rfl
 rw[e];decide
structure Base (w:World) (XR:i7) (n:Nat) (C:ay) (K:Frag):Prop where
 Ba:mT w XR n C.K
 dom:∀f vs o res,C.K f vs o=some res→cU f=true
 wide:Dr XR
 glob:C.glob=dI
 meth:C.meth=gK
 cls:dW K
 isi:ip K
 call:k7 K
 inn:K.In (H1 w.params)
 big:∃a o,(H1 w.params).get? a=some o∧sysModules≤a
 globs:mn w
theorem fF.top {d:AV×Bool} {v:Value} (l:bG M h0) (t:fF w.params M mu h0 h S d v):ax w.params M mu h d.1 v:=by
 refine(ax.bo t.1).mpr ?_;have t:=t.2;cases q:d.2 with
 |true=>rw[q,if_pos rfl] at t;exact tP l t.rep
 |false=>rw[q,if_neg (λq=>zC q)] at t;exact t
theorem aO.old {h1:Heap} {res:Res (AV×Bool)} {Q:Value→Shared→Prop} (o:∀a,h1.get? a=none→h0.get? a=none) (p:aO w XR M mu s (fF w.params M mu h0) res Q E):aO w XR M mu s (fF w.params M mu h1) res Q E:=by
 cases res with
 |ok d S'=>exactλv h' tk k st t=>p v h' tk k st (t.old o)
 |exc=>exact p
theorem tJ {α β:Type} {g:Option (List Bool×α)} {f:α→List AV→X (Res β)} {res:Res β} (h:((gR g S).bD f).p=some res) {Φ:α→Prop} (k:bZ Φ g) {G:Prop} (l:∀a,Φ a→(f a S).p=some res→G):G:=by
 obtain⟨ra,e1,e2⟩:=bind_some h;obtain⟨a,e3,e4⟩:=bind_some e1;obtain⟨h1,rfl⟩:=uE e4;exact l _ (k _ e3 h1) e2
theorem fF.rep {z:AV} {u:Value} (rz:Rep w.params M h z u):fF w.params M mu h0 h S (z,false) u:=⟨cT rz,rz⟩
theorem si (B:Base w XR n C K) {k a j:Nat} {vs:List AV} {fr:Bool} {o:AV} (hf:fG vs=true) (hk:bk.contains k=true) (hm:C.meth k "__init__"=some (a,j)) (h:C.K (.mt a j) (.ref 0::vs) (some (.inst k [] []))=some (.ret .none fr (some o)))
 {us:List Value} {Q:Value→Shared→Prop} (R:cq n FL A) (F:FS w.params M FL env mu r S s.heap) (tv:cw w.params M mu s.heap vs us)
 (q:∀u h' tk p,ah M [] s.heap h'→u= .ref p.1→s.heap.get? p.2=none→ak w.params (p.2::M) h' o p→Q u (up s h' tk)):wpAny (model PW w) A (call (.ref (ae k)) us) Q E s:=by
 have X:=gF B.inn F;obtain⟨hh,g,d,t,os⟩:=s;refine wpAny_call ?_;obtain⟨f1,f2⟩:=B.call.meth k _ a j hk (B.meth▸hm);have f0:=aN hh;have f00:hh.get? (hh.objs.size+1)=none:=Heap.get?_none_of_le (Nat.le_succ _);let h1:=(hh.push W.emptyDict).push (PySem.W.instObj (ae k) hh.objs.size)
 have k1:aF [] hh h1:=λb o _ e=>Heap.get?_push_of_some _ (Heap.get?_push_of_some _ e)
 have ex:h1.get? (hh.objs.size+1)=some (PySem.W.instObj (ae k) hh.objs.size):=by
  have:=Heap.get?_push_size (hh.push W.emptyDict) (o:=PySem.W.instObj (ae k) hh.objs.size) rfl;rwa [Heap.size_push] at this
 have ed:h1.get? hh.objs.size=some (aU #[] 0):=Heap.get?_push_of_some _ (Heap.get?_push_size _ rfl);have g1:Ge (aG M hh) (aG (hh.objs.size::M) h1):=fc (k1.aG λ_ m=>zE m) f0;have xM:hh.objs.size+1∉hh.objs.size::M:=λm=>(List.mem_cons.mp m).elim (Nat.succ_ne_self _) λm=>(F.live _ m).elim λo e=>nomatch f00.symm.trans e
 refine make_core (makes_of X (B.cls.makes k hk)) (looks_findIn X f1) (λself=>bind_fn X self f2) (.inl rfl) ?_;refine B.Ba h (M:=hh.objs.size::M) (mu:=[(hh.objs.size+1,hh.objs.size)]) (R.J4 _ (rt _ _) (CZ _ _) rfl) (F.ground.trans g1)
  (List.forall_mem_cons.mpr ⟨⟨_,ed⟩,λb m=>(F.live _ m).elim λo e=>⟨o,k1 _ _ (λm=>zE m) e⟩⟩)
  (λe m=>have⟨k,L,g1,g2,o,g3,g4⟩:=F.frm e m;⟨k,L,g1,List.mem_cons_of_mem _ g2,o,k1 _ _ (λm=>zE m) g3,g4⟩)
  (λb m=>by rw[List.mem_singleton.mp m];exact List.mem_cons_self) (List.nodup_cons.mpr ⟨λm=>(zE m),List.nodup_nil⟩) (.cons ⟨_,rfl,rfl⟩ (cw.lift (λ_ _ e=>e) g1 (tv.uw hf))) (.cons ⟨af.mpr ⟨xM,ex⟩,#[],0,ed,.nil,List.nodup_nil,hk⟩ .nil) ?_ λ_ _ _ e=>nomatch e
 intro v fr' o' u h' tk e _ kp st nr;cases e;cases st with
 |cons m1 _=>
 obtain rfl:u= .none:=by
  split at nr<;>exact nr.out (g:=Heap.get? _) λ_ _ e=>e
 refine⟨rfl,q _ h' tk _ (λb o e=> ?_) rfl f0 m1⟩;have nb:b≠hh.objs.size:=λz=>by rw[z,f0] at e;exact zA e
 obtain⟨o1,e1,g1,g2⟩:=kp b o (k1 b o (λm=>zE m) e);exact⟨o1,e1,g1,λ_=>(g2 λz=>nb (List.mem_singleton.mp z)).imp id λ⟨m1,f⟩=>⟨(List.mem_cons.mp m1).resolve_left nb,f⟩⟩
theorem yy {g1 g2:Addr→Option Obj} {P:Heap} {d:AV} {p:Addr×Addr} (t:Ob w.params g1 g2 P d p):iJ d=true:=Ob.cases t (Φ:=λd _ _=>iJ d=true) (λ_ _ _ _ _ _ _=>rfl) (λ_ _ _ _ _ _ _ _ _=>rfl) λ_ _ _ _ _ _ _ _ _ _ _ _=>rfl
theorem y0 {d:AV} (o:iJ d=true):flat d=true:=by
 cases d<;>first|rfl|exact zC o
theorem we {d:AV} {v:Value} (t:cg w.params M h0 h d v):flat d=true:=by
 unfold cg at t;cases q:iJ d with
 |true=>exact y0 q
 |false=>rw[q] at t;exact cT t
theorem AH (B:Base w XR n C K) {f:AV} {fv:Value} {vs:List AV} {res:Res (AV×Bool)} (h:(DZ C f vs S).p=some res) (hd:Rep w.params M s.heap f fv) {us:List Value} {Q:Value→Shared→Prop} (R:cq n FL A) (F:FS w.params M FL env mu r S s.heap) (tv:cw w.params M mu s.heap vs us)
 (P:aO w XR M mu s (fF w.params M mu s.heap) res Q E):pC K fv∧wpAny (model PW w) A (call fv us) Q E s:=by
 have hd:=hd.out (g:=Heap.get? _) λ_ _ e=>e
 cases f with
 |fn k=>
  obtain rfl:fv= .ref (nT k):=hd;have c:=uP (f:= .fn k) B.Ba B.wide h R.call F tv P;exact⟨.inr (.inr (c.1.elim λ_ x=>x.elim λ_ x=>x.elim λ_ e=>B.call.fnKeep _ (B.dom _ _ _ _ e))),c.2⟩
 |cls k=>
  obtain rfl:fv= .ref (ae k):=hd;refine aQ h λhc h=>aT h λp hm h=> ?_
  have hc:=Bool.and_eq_true_iff.mp hc;refine⟨.inr (.inr (B.call.clsKeep k hc.2)),?_⟩;obtain⟨c,hk,h⟩:=bind_some h;cases c with
  |exc=>exact zA h
  |ret v fr o=>
   refine aQ h λhn h=>aT h λo' ho h=>aQ h λfo h9=> ?_
   subst ho;obtain rfl:v= .none:=by cases v<;>first|rfl|exact zC hn
   obtain rfl:=Option.some.inj h9;exact si B hc.1 hc.2 hm hk R F tv λu h' tk p kp e hn m=>P _ h' tk (kp.eO λa m=>zE m) (F.store.iF kp (λa m=>zE m) λp _ m=>zE m) ⟨fo,(if_pos rfl).mpr (cg.Dk kp (λa m=>zE m) (λp _ m=>zE m) F.store (by unfold cg;rw[yy m];exact⟨p,e,hn,m⟩))⟩
 |bi nm=>
  obtain rfl:=hd.1;exact⟨.inl ⟨_,rfl⟩,aT h λds hds h=>tJ h (K3 B.isi B.cls (gF B.inn F) R.handled F.live (pA F.store tv hds)) λz k h=>k λv' h' tk kp rz=>(aZ h P) _ h' tk kp.m0 (F.store.keep kp) (.rep rz)⟩
 |ty nm=>
  obtain rfl:fv= .type nm:=hd;obtain⟨ds,hds,h⟩:=bind_some h;exact⟨.inr (.inl ⟨_,rfl⟩),tJ h (L4 R.handled F.live (xe B.big F) (pA F.store tv hds)) λz k h=>k λv' h' tk kp rz=>(aZ h P) _ h' tk kp.m0 (F.store.keep kp) ⟨we rz,(if_pos rfl).mpr (rz.Dk (W:=[]) kp.m0 (λa m=>zE m) (λp _ m=>zE m) F.store)⟩⟩
 |_=>exact zA h
end
set_option tactic.hygienic false
theorem EX {m:Str} (hs:jf m≠""):Str.ofString (jf m)=m:=by
 unfold jf at*;cases q:qO.find? λs=>seq (Str.ofString s) m with
 |none=>rw[q] at hs;exact absurd rfl hs
 |some t=>
  have:=List.find?_some q;exact bw.mp this
theorem zJ {d:AV} {q:String×String}:cf d ""=some q→False:=
 cR (Ψ:=λ_ r=>r=some q→False) d (λ_ e=>zA e) (λ_ e=>by rw[show cA Po ""=none by decide+kernel] at e;exact zA e) (λ_ e=>by rw[show cA Nk ""=none by decide+kernel] at e;exact zA e) (λ_ e=>zA e) (λ_ e=>by rw[show cA Mw ""=none by decide+kernel] at e;exact zA e) (λ_ _ e=>by rw[show cA PN ""=none by decide+kernel] at e;exact zA e) λ_ e=>zA e
theorem C4 {C:ay} {x:AV} {m:Str} {S:List AV} (h:Mg C x m S=true):∃d,bK S x=some d∧((∃p,fY d=some p∧(C.meth p.1 m).isSome=true∧(pJ p.2.1 p.2.2 m).isNone=true)∨(fY d=none∧∃q,cf d (jf m)=some q)):=by
 unfold Mg at h;cases hd:bK S x with
 |none=>rw[hd] at h;exact zC h
 |some d=>
  rw[hd] at h;dsimp only at h;refine⟨d,rfl,?_⟩;cases ha:fY d with
  |none=>rw[ha] at h;exact .inr ⟨rfl,Option.isSome_iff_exists.mp h⟩
  |some p=>rw[ha] at h;exact .inl ⟨p,rfl,Bool.and_eq_true_iff.mp h⟩
theorem qY {x d:AV} {S S':List AV} (h:stays x S S'=true) (hd:bK S x=some d):∃d2,bK S' x=some d2∧fq d=fq d2∧(rf x=none→d2=d):=by
 unfold stays at h;cases q:rf x with
 |none=>exact⟨d,by rw[gv (fk q)] at hd⊢;exact hd,rfl,λ_=>rfl⟩
 |some i=>
  obtain rfl:=jv q;rw[q] at h;dsimp only at h;rw[show S[i]? =some d from hd] at h;dsimp only at h;cases e:S'[i]? with
  |none=>rw[e] at h;exact zC h
  |some b=>rw[e] at h;exact⟨b,e,eq_of_beq h,λq=>zB q⟩
theorem AU {x:AV} {c:Nat} (e:3+c=fq x):∃q,fY x=some q∧q.1=c:=by
 cases q:fY x with
 |some p=>obtain rfl:=iD q;exact⟨p,rfl,(Nat.add_left_cancel e).symm⟩
 |none=>
  have k:fq x<3:=by
   unfold fq;rw[q];exact cR (Ψ:=λ_ k=>k<3) x (λ_=>by decide) (λ_=>by decide) (λ_=>by decide) (λ_=>by decide) (λ_=>by decide) (λ_ _=>by decide) λ_=>by decide
  exact absurd (e▸k) (Nat.not_lt.mpr (Nat.le_add_right 3 c))
section
variable {w:World} {XR:i7} {n:Nat} {C:ay} {K:Frag} {M:List Addr} {mu:Mu} {env:Env} {r:Loc} {S:List AV} {A:Around} {s:Shared} {Q:Value→Shared→Prop} {E:Value→Shared→Prop} {FL:List Env} {h h' h0:Heap} {p:Addr×Addr}
theorem AJ {h h':Heap} {d d2:AV} {p p2:Addr×Addr} (t:ak w.params M h d p) (t2:ak w.params M h' d2 p2):fY d=none→fq d=fq d2→fY d2=none∧∀m,cf d m=cf d2 m:=
 have no:∀{c k:Nat},k=3+c→k<3→False:=λe l=>by omega
 Ob.cases t (Φ:=λd _ _=>fY d=none→fq d=fq d2→fY d2=none∧∀m,cf d m=cf d2 m)
  (λl _ _ _ _ _ _ _=>Ob.cases t2 (Φ:=λd2 _ _=>fq (.lst l)=fq d2→fY d2=none∧∀m,cf (.lst l) m=cf d2 m) (λ_ _ _ _ _ _ _ _=>⟨rfl,λ_=>rfl⟩) (λ_ _ _ _ _ _ _ _ _ e=>nomatch (show 1=2 from e)) λ_ _ _ _ _ _ _ _ _ _ _ _ e=>(no (k:=1) e (by decide)).elim)
  (λk v _ _ _ _ _ _ _ _=>Ob.cases t2 (Φ:=λd2 _ _=>fq (.dct k v)=fq d2→fY d2=none∧∀m,cf (.dct k v) m=cf d2 m) (λ_ _ _ _ _ _ _ e=>nomatch (show 2=1 from e)) (λ_ _ _ _ _ _ _ _ _ _=>⟨rfl,λ_=>rfl⟩) λ_ _ _ _ _ _ _ _ _ _ _ _ e=>(no (k:=2) e (by decide)).elim)
  λ_ _ _ _ _ _ _ _ _ _ _ _ e=>zB e
noncomputable abbrev ON (w:World) (M:List Addr) (A:Around) (s:Shared) (Q:Value→Shared→Prop) (E:Value→Shared→Prop) (p:Addr×Addr) (id:String) (us:List Value) (z:AV×AV):Prop:=(∀u h' tk,aF [p.2] s.heap h'→Rep w.params M h' z.1 u→ak w.params M h' z.2 p→Q u (up s h' tk))→wpAny (model PW w) A (call (.builtin id) (.ref p.1::us)) Q E s
theorem JV {l:List AV} (hM:p.2∈M) (hx:ak w.params M s.heap (.lst l) p):∀q∈Mw,∀as us,aP w.params (aG M s.heap) as us→bZ (ON w M A s Q E p q.2.1 us) (q.2.2 l as):=by
 refine List.forall_mem_cons.mpr ⟨λas us rl=> .bind λx e=> .one λc K=> ?_,List.forall_mem_cons.mpr ⟨λas us rl=> .bind λx e=> .bind λy e2=> .one λc K=> ?_,List.forall_mem_cons.mpr ⟨λas us rl=> .ite (λe=> .one λc K=> ?_) λ_=> .none,λ_ m=>zE m⟩⟩⟩
 ·obtain rfl:=iS e;obtain⟨u,rfl,t⟩:=rl.one;exact mZ hx hM t (of_decide_eq_true c) λh' kp m=>K _ h' _ kp .none m
 ·obtain rfl:=iS e;obtain⟨u,rfl,t⟩:=rl.one;obtain rfl:=ff e2;exact vp hx hM t (of_decide_eq_true c) λh' tk kp m=>K _ h' tk kp .none m
 ·obtain rfl:=List.isEmpty_iff.mp e;obtain rfl:=rl.rV;rcases List.eq_nil_or_concat l with rfl|⟨l,x,rfl⟩
  ·exact zC c
  ·rw[List.concat_eq_append] at hx K;rw[List.dropLast_concat,List.getLastD_concat] at K;exact Ff hx hM λu h' tk kp r m=>K _ h' tk kp r m
theorem Gh {d:AV} {m T id:String} {vs:List AV} {us:List Value} (hM:p.2∈M) (hx:ak w.params M s.heap d p) (rl:aP w.params (aG M s.heap) vs us) (hi:cf d m=some (T,id)):bZ (ON w M A s Q E p id us) (Oe d m vs):= .bind λl e=>by
 obtain rfl:=ff e;exact .bind λf e=>nS e hi▸JV hM hx _ (dB e) vs us rl
theorem zy {x d:AV} {m:Str} {vs:List AV} {res:Res (AV×Bool)} {T id:String} (hd:bK S x=some d) (ha:fY d=none) (hid:cf d (jf m)=some (T,id)) (h:(ES C x m vs S).p=some res) {u:Value} {us:List Value} (R:cq n FL A) (F:FS w.params M FL env mu r S s.heap)
 (tx:ax w.params M mu s.heap x u) (tv:cw w.params M mu s.heap vs us) (P:aO w XR M mu s (fF w.params M mu s.heap) res Q E):wpAny (model PW w) A (call (.builtin id) (u::us)) Q E s:=by
 obtain⟨d',e,h⟩:=bind_some h;obtain rfl:=Option.some.inj (hd.symm.trans e);dsimp only at h;rw[ha] at h;refine j3 h (λ_ h=> ?_) λ_ h=> ?_
 ·obtain⟨i,hi,h⟩:=bind_some h;obtain rfl:=jv hi;obtain⟨p,hp,rfl⟩:=tx;obtain⟨p',hp',mr⟩:=F.store.get hd;obtain rfl:=Option.some.inj (hp.symm.trans hp');have hM:=F.muM _ (gM hp);exact aQ h λf h=>tJ h (Gh (Q:=Q) (E:=E) (A:=A) hM mr (tv.rep f) hid) λz k h=>k λu h' tk kp rz m1=>
   (aZ h P) u h' tk (kq (gM hp) (kp.EH mr m1)) (ai.set (kp.EH mr m1) hM m1 F.nd hp F.store) (.rep rz)
 ·refine aQ h λhf h=> ?_
  have hf:=Bool.or_eq_true_iff.mp hf;exact aT h λds hds h=>tJ h (Fd (Q:=Q) (E:=E) (A:=A) (aq.of F.store tx hd) (pA F.store tv hds) (hf.imp (λx=>x) λf=>vP f hds▸tv.rep f) F.live hid) λz k h=>k λv' h' tk kp rz=>(aZ h P) v' h' tk kp.m0 (F.store.keep kp) (.rep rz)
noncomputable def kF (w:World) (XR:i7) (n:Nat) (C:ay) (e:Expr):Prop:=∀r S M mu env res,(dC C e r S).p=some res→∀⦃A:Around⦄ ⦃s:Shared⦄ ⦃Q:Value→Shared→Prop⦄ ⦃E:Value→Shared→Prop⦄ ⦃FL:List Env⦄,cq n FL A→FS w.params M FL env mu r S s.heap→aO w XR M mu s (fF w.params M mu s.heap) res Q E→wpAny (model PW w) A (eval e env) Q E s
theorem EU (B:Base w XR n C K) {o:Expr} {m:Str} {ap p:Pos} {as:List Expr} (hbase:ib o=true) (hst:bN as=true) (hlen:as.length<30) (hline:(ap.endLine==p.line)=true) (ho:bf w XR n C o) (has:g7 w XR n C as):kF w XR n C (.Call (.Attribute o m ap) as [] p):=by
 intro r S M mu env res h A s Q E FL R F P;refine call_meth hbase hst hlen hline (aw h (ho _ _ _ _ _) R F P λx S1 u h1 tk1 h k1 F1 tx P=>aQ h λhm h=> ?_);refine cps λG kf=> ?_
 obtain⟨d,hd,hm⟩:=C4 (m:=m) hm;refine kf ?_;have X:=gF B.inn F1;have rx:=aq.of F1.store tx hd;rcases hm with⟨⟨c,ns,ds⟩,ha,hmj,nf⟩|⟨ha,⟨T,id⟩,hid⟩
 ·refine cps λG kf=> ?_
  obtain⟨⟨a,j⟩,hmj⟩:=Option.isSome_iff_exists.mp hmj;obtain rfl:=iD ha;obtain⟨xa,q,es,m',rfl,e1,e2,I,rr,nd,own⟩:=QY rx;obtain⟨f1,f2⟩:=B.call.meth c m a j own (B.meth▸hmj);refine kf ?_;have sh:shadowIn (some (aU es m')) m=some false:=by
   rcases rH (a:=m) (m:=m') rr with⟨z,v,g1,_⟩|⟨_,g2⟩
   ·have nf:(pJ ns ds m).isNone=true:=nf;rw[g1] at nf;exact zC nf
   ·show(lookIn m (aU es m')).map _=_;rw[g2];rfl
  refine⟨.ref (gw a j),[.ref xa],λq=>method_fn X I (B.cls.get c own) (B.cls.noGet c own) f1 f2 sh q,?_⟩;refine kQ (P:=λh=>K.In h∧keepIn K (.ref (gw a j))=true) hst (λh X=>tg (.inr (.inr X.2)) X.1) ?_;refine aw h (has _ _ _ _ _ _) R F1 P λvs S2 us h2 tk2 h k2 F2 tv P=>aQ h λhs h=> ?_
  refine cps λG kf=> ?_
  obtain⟨d2,hd2,hk,_⟩:=qY hs hd;obtain⟨⟨c2,p2⟩,ha2,rfl⟩:=AU hk;obtain⟨d',e,h⟩:=bind_some h;obtain rfl:=Option.some.inj (hd2.symm.trans e);refine kf ?_;dsimp only at h;rw[ha2] at h;refine aT h λq hq h=>aQ h λ_ h=> ?_
  refine cps λG kf=> ?_
  obtain rfl:=Option.some.inj (hmj.symm.trans hq);refine kf ?_;have c:=uP (f:= .mt a j) B.Ba B.wide h R.call F2 (.cons (ax.mono (F1.bL k2) tx) tv) (P.old λ_ e=>k1.old (k2.old e));exact⟨⟨gF B.inn F2,c.1.elim λ_ x=>x.elim λ_ x=>x.elim λ_ e=>B.call.fnKeep _ (B.dom _ _ _ _ e)⟩,c.2⟩
 ·have sl:=AI (s:=up s h1 tk1) hid rx;have slot:=sl.slot;rw[EX λq=>zJ (q▸hid)] at slot;refine⟨.builtin id,[u],λq=>getMethod_builtin sl.is sl.plain slot sl.ty sl.nod q,?_⟩;refine kQ (P:=λ_=>True) hst (λh _=>⟨.machine,.inr (.inl rfl),Looks.of_pure rfl⟩) ?_;refine aw h (has _ _ _ _ _ _) R F1 P λvs S2 us h2 tk2 h k2 F2 tv P=>⟨trivial,aQ h λhs h=> ?_⟩
  refine cps λG kf=> ?_
  obtain⟨d2,hd2,hk,hf⟩:=qY hs hd;refine kf ?_;have key:fY d2=none∧cf d2 (jf m)=some (T,id):=by
   cases q:rf x with
   |none=>exact(hf q)▸⟨ha,hid⟩
   |some i=>
    refine cps λG kf=> ?_
    obtain rfl:=jv q;obtain⟨pp,hpp,mr⟩:=F1.store.get hd;obtain⟨pp2,hpp2,mr2⟩:=F2.store.get hd2;refine kf ?_;have z:=AJ mr mr2 ha hk;exact⟨z.1,(z.2 _)▸hid⟩
  exact zy hd2 key.1 key.2 h R F2 (ax.mono (F1.bL k2) tx) tv (P.old λ_ e=>k1.old (k2.old e))
theorem HT (B:Base w XR n C K) {f:Expr} {as:List Expr} {p:Pos} (hf:isAt f=false) (hst:bN as=true) (ho:bf w XR n C f) (has:g7 w XR n C as):kF w XR n C (.Call f as [] p):=by
 intro r S M mu env res h A s Q E FL R F P;have e2:eval (.Call f as [] p) env=(do callWith p (←eval f env) [] (backTo p (starEach as env)) (backToKw p (keywordEach [] env))):=by
  cases f<;>first|rfl|exact zD hf
 have h:(if isAt f=true then _ else _:X _).p=some res:=h;rw[hf,if_neg (λq=>zC q)] at h;rw[e2];refine wpAny_bind (aw h (ho _ _ _ _ _) R F P λx S1 u h1 tk1 h k1 F1 tx P=> ?_);refine kQ (P:=λh=>K.In h∧pC K u) hst (λh X=>tg X.2 X.1) ?_;refine aw h (has _ _ _ _ _ _) R F1 P λvs S2 us h2 tk2 h k2 F2 tv P=> ?_
 have fx:flat x=true:=by
  cases x<;>first|rfl|exact zA h
 obtain⟨kp,hc⟩:=AH B h ((ax.bo fx).mp (ax.mono (F1.bL k2) tx)) R F2 tv (P.old λ_ e=>k1.old (k2.old e));exact⟨⟨gF B.inn F2,kp⟩,hc⟩
theorem z7 {f:Expr} {as:List Expr} {ks:List Keyword} {p:Pos} (H:kF w XR n C (.Call f as ks p)):bf w XR n C (.Call f as ks p):=by
 intro r S M mu env res h A s Q E FL R F P;obtain⟨ra,e1,e2⟩:=bind_some h;refine H _ _ _ _ _ ra e1 R F ?_;cases ra with
 |exc=>exact aO.exc (Option.some.inj e2▸P)
 |ok d S1=>exactλv h' tk k st t=>(aZ e2 P) v h' tk k st (t.top F.live)
theorem Bu {f:Expr} {as:List Expr} {ks:List Keyword} {p:Pos} (H:kF w XR n C (.Call f as ks p)):nG w XR n C (.Call f as ks p):=by
 intro r S M mu env res h A s Q E FL R F P;obtain⟨ra,e1,e2⟩:=bind_some h;refine wpAny_isTrue_value (H _ _ _ _ _ ra e1 R F ?_) rfl;cases ra with
 |exc=>exact aO.exc (Option.some.inj e2▸P)
 |ok d S1=>exactλv h' tk k st t=>lR e2 P λb hb P=>vM (s:=up s h' tk) hb (aq.t8 ((ax.bo t.1).mp (t.top F.live))) λtk2=>P _ h' tk2 k st rfl
end
set_option tactic.hygienic false
noncomputable abbrev aE (env:Env) (mu:Mu):List Addr:=env.locals::(env.cells.map (·.2)++b9 mu)
theorem Bd {x y:Str} (q:seq y x=false):y≠x:=λe=>nomatch (q.symm.trans (bw.mpr e))
theorem b6 {y x:Str} {w:LV} {r:Loc}:dm ((y,w)::r) x=if seq x y=true then some w else dm r x:=by
 show(match seq x y with|true=>some w|false=>dm r x)=_;cases seq x y<;>rfl
theorem vH {x:Str} {v:AV} {r:Loc}:∀{r':Loc},dF r x v=some r'→∃w,dm r x=some w∧w.k.EH=true∧dm r' x=some ⟨w.k,some v⟩∧∀y,seq y x=false→dm r' y=dm r y:=by
 induction r with
 |nil=>exactλe=>zA e
 |cons p r ih=>
  obtain⟨z,b⟩:=p;intro r' h;have h:(match seq x z with|true=>if b.k.EH=true then some ((z,⟨b.k,some v⟩)::r) else none|false=>(dF r x v).map ((z,b)::·))=some r':=h;cases q:seq x z with
  |true=>
   rw[q] at h;dsimp only at h;obtain rfl:=bw.mp q;cases k:b.k.EH with
   |false=>rw[k] at h;exact zA h
   |true=>
    rw[k] at h;obtain rfl:=Option.some.inj h;exact⟨b,by rw[b6,if_pos q],k,by rw[b6,if_pos q],λy hy=>by rw[b6,b6,hy];rfl⟩
  |false=>
   rw[q] at h;obtain⟨r1,h1,rfl⟩:=Option.map_eq_some_iff.mp h;obtain⟨b1,g1,g2,g3,g4⟩:=ih h1;have e1:∀r,dm ((z,b)::r) x=dm r x:=λr=>by rw[b6,q];rfl
   exact⟨b1,(e1 _).trans g1,g2,(e1 _).trans g3,λy hy=>by rw[b6,b6,g4 y hy]⟩
section
variable {w:World} {XR:i7} {n:Nat} {C:ay} {K:Frag} {M:List Addr} {mu:Mu} {env:Env} {r r':Loc} {S:List AV} {A:Around} {s:Shared} {E:Value→Shared→Prop} {FL:List Env} {h h':Heap} {a:Addr} {m m':Str→Option Value}
theorem L5 {x:Str} {p:Pos} (hn:bf w XR n C (.Name x p)):nG w XR n C (.Name x p):=λr S M mu env=>rY (λ_ _ _=>hn _ _ _ _ _) (λ_ _=>rfl) M mu env
theorem wY {c:Const} {k:Nat} {p:Pos} (hn:bf w XR n C (.Constant c k p)):nG w XR n C (.Constant c k p):=λr S M mu env res h=>by
 refine rY (r:=r) (S:=S) (λ_ _ _=>hn _ _ _ _ _) (λ_ _=>rfl) M mu env res ?_;obtain⟨ra,e1,e2⟩:=bind_some h;refine(show(dE C (.Constant c k p) r S).p=some ra from e1).symm▸?_;cases ra with
 |exc=>exact e2
 |ok d S1=>
  have f:bK S1 d=some d:=by
   obtain⟨a,e3,e4⟩:=bind_some e1;obtain⟨_,e5⟩:=uE e4;cases e5;refine gv ?_;cases c<;>first|(obtain rfl:=Option.some.inj e3;rfl)|exact zA e3
  show(pR ((bK S1 d).bind truth) S1).p=_;rw[f];exact e2
theorem FS.fj (F:FS w.params M FL env mu r S h):∀a∈aE env mu,a∈M:=List.forall_mem_cons.mpr ⟨F.locM,λa m=>(List.mem_append.mp m).elim (F.cellM a) (F.muM a)⟩
theorem b5 (sb:Heap.SameBut a h h'):aF [a] h h':=λb o n e=>sb.extBut b o (λq=>n (q▸List.mem_singleton.mpr rfl)) e
section
open Sem
theorem AR {Mo:Model} {Γ:Ctx} {E:Value→Pos→Shared→Prop} {p:Pos} {s:Shared} {a:Addr} {m:Str→Option Value} (hn:s.heap.Ns a m) (name:Str) (v:Value) (Q:Unit→Pos→Shared→Prop)
 (hQ:∀h',h'.Ns a (λx=>if x=name then some v else m x)→Heap.SameBut a s.heap h'→(∀o,s.heap.get? a=some o→∃o',h'.get? a=some o'∧(fu o→fu o'))→Q () p {s with heap:=h',toks:=s.toks+1}):wp Mo Γ (nsSet a name v) Q E p s:=by
 have h1:=wp_nsSet Mo Γ E p s hn name v (λ_ _ s'=>s'.heap.Ns a (λx=>if x=name then some v else m x)) (λh' q _=>q);obtain⟨o,es,ep,ho,hd,hk,hm⟩:=hn;simp only[nsSet,strHash,wp_bind',wp_cmd_ask,wp_pure',wp_cmd_mkText] at h1⊢;rw[wp_loadPart_of Mo Γ E p {s with toks:=s.toks+1} (o:=o) _ ho] at h1⊢;have hany:es.any (·.refKey)=false:=by
  rw[Array.any_eq_false'];intro e he;obtain⟨n,t,h⟩:=hk e he;simp [DictEntry.refKey,h]
 simp only[hd,aRefKeyMayBeTheName_eq,aRefKeyMayBeTheNameByArray,hany,Bool.and_false,Bool.false_eq_true,if_false,wp_cmd_updatePart] at h1⊢;refine⟨h1.1,hQ _ h1.2 (Heap.SameBut.update ..) λo2 e2=> ?_⟩;obtain rfl:=Option.some.inj (ho.symm.trans e2);obtain⟨c,d,dt,sl⟩:=o;obtain rfl:dt= .dict es ep:=hd;cases hi:es.findIdx? (·.key.isStr name) with
 |some i=>exact⟨_,Heap.get?_update_self _ ho (by simp only[Obj.putName_eq,Obj.putNameByArray,hi];rfl),by simp only[Obj.putName_eq,Obj.putNameByArray,hi];exactλf=>⟨f.1,_,_,rfl⟩⟩
 |none=>exact⟨_,Heap.get?_update_self _ ho (by simp only[Obj.putName_eq,Obj.putNameByArray,hi];rfl),by simp only[Obj.putName_eq,Obj.putNameByArray,hi];exactλf=>⟨f.1,_,_,rfl⟩⟩
end
theorem mJ {Mo:Model} {name:Str} {v:Value} {Q:Unit→Shared→Prop} (hl:env.kindOf name=some .local) (hn:s.heap.Ns env.locals m)
 (h:∀h',h'.Ns env.locals (λx=>if x=name then some v else m x)→Heap.SameBut env.locals s.heap h'→(∀o,s.heap.get? env.locals=some o→∃o',h'.get? env.locals=some o'∧(fu o→fu o'))→Q () {s with heap:=h',toks:=s.toks+1})
 (hp:(env.scope.kind== .class||(env.scope.kind== .module&&env.locals !=env.globals))=false):wpAny Mo A (storeName env name v) Q E s:=by
 rw[storeName_local hl hp];exactλΓ p _=>AR hn name v _ h
theorem FS.stored (F:FS w.params M FL env mu r S h) (ha:a∈aE env mu) (hmu:a∉b9 mu) (sb:Heap.SameBut a h h') (la:∀o,h.get? a=some o→∃o',h'.get? a=some o'∧(fu o→fu o')) (hn:h'.Ns env.locals m')
 (nm:∀y b,dm r' y=some b→((y==("__debug__":Str))=false∧(y==("__classdict__":Str))=false)∧aX w.params M mu env h' m' y b):ah M [a] h h'∧FS w.params M FL env mu r' S h':=by
 have aM:=F.fj a ha;obtain⟨o,e⟩:=F.live a aM;obtain⟨o',e',f⟩:=la o e;have k1:ah M [a] h h':=(b5 sb).m1 e' λo2 e2=>Option.some.inj (e.symm.trans e2)▸f
 have aM:∀b∈[a],b∈M:=λb m=>List.mem_singleton.mp m▸aM
 exact⟨k1,F.kind,F.glo,F.blt,⟨m',hn,nm⟩,F.store.iF k1 aM λp m q=>hmu (List.mem_singleton.mp q▸List.mem_map.mpr ⟨p,m,rfl⟩),F.locM,F.muM,F.cellM,F.apart,F.ground.trans (k1.aG aM),F.live.keep k1,k1.fr F.frm,F.own⟩
theorem aX.Sb {y:Str} {b:LV} (e:m' y=m y) (t:aX w.params M mu env h m y b):aX w.params M mu env h m' y b:=by
 unfold aX at*;rw[e];exact t
theorem FS.D5 (F:FS w.params M FL env mu r S h) {y:Str} {c:Addr} (e:env.cells.lookup y=some c):c≠env.locals:=λz=>
 (List.nodup_cons.mp F.apart).1 (List.mem_append_left _ (List.mem_map.mpr ⟨(y,c),mem_of_lookup e,z⟩))
theorem FS.Hh (F:FS w.params M FL env mu r S h) {x y:Str} {c c':Addr} (e:env.cells.lookup x=some c) (e':env.cells.lookup y=some c') (n:y≠x):c'≠c:=λz=>by
 subst z;have pw:env.cells.Pairwise λx y=>x.2≠y.2:=List.pairwise_map.mp (List.nodup_append.mp (List.nodup_cons.mp F.apart).2).1
 exact n (name_of_addr pw (mem_of_lookup e') (mem_of_lookup e))
theorem FS.O4 (F:FS w.params M FL env mu r S h) (a:Addr) (ha:a∈aE env mu) (sb:Heap.SameBut a h h'):Ge (aG M h) (aG M h'):=(b5 sb).aG λb m=>List.mem_singleton.mp m▸F.fj a ha
noncomputable def B5 (b:LV):Bool:=match b.k with
 | .cell=>true
 |_=>false
theorem ik (F:FS w.params M FL env mu r S s.heap) {x:Str} {v:AV} {u:Value} (hl:dF r x v=some r') (t:ax w.params M mu s.heap v u) {Q:Unit→Shared→Prop}
 (k:∀a h' tk,a∈aE env mu→((a=env.locals∨∃b,dm r x=some b∧B5 b=true)∧a∉b9 mu)→ah M [a] s.heap h'→FS w.params M FL env mu r' S h'→Q () (up s h' tk)):wpAny (model PW w) A (storeName env x u) Q E s:=by
 obtain⟨b,g1,gk,g2,g3⟩:=vH hl;obtain⟨m,hn,hx⟩:=F.names;obtain⟨dbg,nr⟩:=hx x b g1;obtain⟨kd,bv⟩:=b;cases kd with
 |loc=>
  have hk:env.kindOf x=some .local:=nr.1;refine mJ hk hn (λh' hn' sb la=> ?_) (by rw[F.kind];rfl);have g:=F.O4 _ List.mem_cons_self sb;have z:=F.stored (r':=r') List.mem_cons_self F.jm sb la hn' λy c hy=>by
   cases q:seq y x with
   |true=>
    obtain rfl:=bw.mp q;obtain rfl:=Option.some.inj (g2.symm.trans hy);exact⟨dbg,hk,u,if_pos rfl,ax.mono g t⟩
   |false=>exact⟨(hx y c (g3 y q▸hy)).1,aX.Sb (m:=m) (if_neg (Bd q)) (aX.lift (hx y c (g3 y q▸hy)).2 (λ_ _ e=>e) g (λ_ m=>m) λe1 e3=>e3.sameBut sb (F.D5 e1))⟩
  exact k env.locals h' _ List.mem_cons_self ⟨.inl rfl,F.jm⟩ z.1 z.2
 |cell=>
  obtain⟨hk,c,cv,e1,e2,e3,e4⟩:gz .cell w.params M mu env s.heap x bv:=nr;have cm:c∈aE env mu:=List.mem_cons_of_mem _ (List.mem_append_left _ (List.mem_map.mpr ⟨(x,c),mem_of_lookup e1,rfl⟩));refine wpAny_storeName_cell F.kind hk e1 e3 λh' hc' sb=> ?_
  have g:=F.O4 _ cm sb;have z:=F.stored (r':=r') cm (F.gn e1) sb (λo e=>hc'.elim λo' x=>⟨o',x.1,λ⟨_,es,n,z⟩=>e3.elim λo3 y=>by cases e.symm.trans y.1;cases z.symm.trans y.2⟩) (hn.sameBut sb (F.D5 e1).symm) λy b' hy=>by
   cases q:seq y x with
   |true=>
    obtain rfl:=bw.mp q;obtain rfl:=Option.some.inj (g2.symm.trans hy);exact⟨dbg,hk,c,_,e1,e2,hc',u,rfl,ax.mono g t⟩
   |false=>exact⟨(hx y b' (g3 y q▸hy)).1,aX.lift (hx y b' (g3 y q▸hy)).2 (λ_ _ e=>e) g (λ_ m=>m) λf1 f3=>f3.sameBut sb (F.Hh e1 f1 (Bd q))⟩
  exact k c h' _ cm ⟨.inr ⟨_,g1,rfl⟩,F.gn e1⟩ z.1 z.2
 |free=>exact zC gk
 |glob=>exact zC gk
theorem cG (F:FS w.params M FL env mu r S s.heap) {x:Str} {v:AV} {u:Value} (hl:dF r x v=some r') (t:ax w.params M mu s.heap v u) {Q:Unit→Shared→Prop}
 (k:∀h' tk,ah M (aE env mu) s.heap h'→FS w.params M FL env mu r' S h'→Q () (up s h' tk)):wpAny (model PW w) A (storeName env x u) Q E s:=
 ik F hl t λa h' tk ha _ kp F'=>k h' tk (kp.eO λb m=>List.mem_singleton.mp m▸ha) F'
end
set_option tactic.hygienic false
noncomputable def Flying (h0 h:Heap) (x:Value) (tr:Bool):Prop:=∃e oe vs,x= .ref e∧h0.get? e=none∧h.get? e=some oe∧oe.cls= .ref (ae 16)∧oe.data= .fields vs∧
 (match tr with
 |true=>∃T oT ts fl,vs[1]? =some (.ref T)∧h0.get? T=none∧T≠e∧h.get? T=some oT∧oT.data= .fields ts∧ts[3]? =some fl
 |false=>vs[1]? =some .none)
theorem Flying.pre {h0 h1 h:Heap} {x:Value} {tr:Bool} (o:∀a,h1.get? a=none→h0.get? a=none) (f:Flying h1 h x tr):Flying h0 h x tr:=by
 obtain⟨e,oe,vs,rfl,e1,e2,e3,e4,e5⟩:=f;refine⟨e,oe,vs,rfl,o _ e1,e2,e3,e4,?_⟩;cases tr with
 |false=>exact e5
 |true=>obtain⟨T,oT,ts,fl,g1,g2,g3⟩:=e5;exact⟨T,oT,ts,fl,g1,o _ g2,g3⟩
noncomputable def aA:i7 where
 X:=λM W h h' x=>ah M W h h'∧∃tr,Flying h h' x tr
 pre:=λk ⟨k1,tr,f⟩=>⟨k.trans k1,tr,f.pre λ_ e=>k.old e⟩
noncomputable def XN (M W:List Addr) (h h':Heap) (x:Value):Prop:=ah M W h h'∧Flying h h' x true
theorem du:Dr aA:=λs ⟨k,f⟩=>⟨k.eO s,f⟩
theorem XN.x {M W:List Addr} {h h':Heap} {x:Value} (a:XN M W h h' x):aA.X M W h h' x:=⟨a.1,true,a.2⟩
noncomputable def Bv (M:List Addr) (h0 h h':Heap):Prop:=∀b o,h.get? b=some o→h0.get? b≠none→h'.get? b=some o∨(b∈M∧fu o∧∃sl,h'.get? b=some {o with slots:=sl})
theorem ah.step {M W:List Addr} {h0 h h':Heap} (a:ah M W h0 h) (st:Bv M h0 h h'):ah M W h0 h':=λb o e=>by
 obtain⟨o1,e1,f1,g1⟩:=a b o e;rcases st b o1 e1 (by rw[e];simp) with e2|⟨m,f,sl,e2⟩
 ·exact⟨o1,e2,f1,g1⟩
 ·refine⟨_,e2,λq=>f1 q,λn=> ?_⟩;rcases g1 n with rfl|⟨_,q,sl2,rfl⟩
  ·exact .inr ⟨m,f,sl,rfl⟩
  ·exact .inr ⟨m,q,sl,rfl⟩
section
variable {Mo:Model} {A:Around} {s:Shared} {E:Value→Shared→Prop} {M W:List Addr} {h0:Heap} {FL:List Env} {env:Env}
theorem mq.fun (f:mq M FL s.heap):s.heap.FunFrames {} FL:=by
 induction FL with
 |nil=>trivial
 |cons e r ih=>
  refine cps λG kf=> ?_
  obtain⟨k,L,e1,e2,o,e3,e4⟩:=f e List.mem_cons_self;refine kf ?_;exact⟨k,⟨L,o,e1,rfl,e3,λvs q=>by obtain⟨_,es,n,z⟩:=e4;rw[z] at q;cases q⟩,ih λe m=>f e (List.mem_cons_of_mem _ m)⟩
theorem mq.at (f:mq M FL s.heap) {b:Addr} (m:b∈FL.filterMap (·.frame)):b∈M∧∃o,s.heap.get? b=some o∧fu o:=by
 refine cps λG kf=> ?_
 obtain⟨e,me,q⟩:=List.mem_filterMap.mp m;obtain⟨k,L,e1,e2,e3⟩:=f e me;refine kf ?_;rw[e1] at q;obtain rfl:=Option.some.inj q;exact⟨e2,e3⟩
theorem tm {e0:Env} (h:env.frame=e0.frame):PySem.frameOf env=PySem.frameOf e0:=by unfold PySem.frameOf;rw[h]
theorem uK {e L:Addr} {oe:Obj} {vs:Array Value} {head:Value} {b:Bool} {Q:Unit→Shared→Prop} {outer:List Env} {e0:Env} (hfr:A.frames=some (e0::outer)) (fr:mq M (e0::outer) s.heap) (f0:e0.frame=some L) (f1:env.frame=some L)
 (he:s.heap.get? e=some oe) (hn:h0.get? e=none) (hg:∀b,h0.get? b≠none→s.heap.get? b≠none) (hd:oe.data= .fields vs) (hsz:1<vs.size) (hc:oe.cls= .ref (ae 16))
 (h:∀h',Bv M h0 s.heap h'→Flying h0 h' (.ref e) true→Q () {s with heap:=h'}):
 wpAny Mo A (do let a←PySem.frameOf env;let pl←entryPlaceOf L b;let c←EntryCells.newEntry head a .none (rawInt L) .none pl;setField (.ref e) 1 c) Q E s:=by
 have nf:∀{o:Obj},fu o→∀vs,o.data≠.fields vs:=λf vs q=>by obtain⟨_,es,n,z⟩:=f;rw[z] at q;cases q
 have hene:e∉(e0::outer).filterMap (·.frame):=λhm=>by
  obtain⟨_,o,ho,f⟩:=fr.at hm;rw[he] at ho;obtain rfl:=Option.some.inj ho;exact nf f vs hd
 refine(tm (f1.trans f0.symm)).symm▸?_;refine wpAny_bind (wpAny_frameOf_fun hfr fr.fun f0 λh₁ hs₁=> ?_);refine wpAny_bind (wpAny_entryPlaceOf λpl hpl=> ?_);unfold EntryCells.newEntry newFields;refine wpAny_bind (wpAny_newObj_type ?_ (hpl.sizeOk5 _ _ _ _ _));have he₁:h₁.get? e=some oe:=(hs₁.2.1 e hene).trans he;have he₂:=Heap.get?_push_of_some (h:=h₁) {cls:= .type "traceback",dict:=none,data:= .fields ([head,.ref L,.none,rawInt L,.none]++(if pl.isEmpty then List.replicate 6 Value.none else pl)).toArray} he₁;refine wpAny_setField he₂ hd hsz (h _ (λc o hc hz=> ?_) ?_)
 ·have hce:c≠e:=λq=>by subst q;exact hz hn
  refine(Heap.get?_update_other _ _ (Ne.symm hce)).symm▸?_;by_cases m:c∈(e0::outer).filterMap (·.frame)
  ·obtain⟨cm,o',q,f⟩:=fr.at m;rw[hc] at q;obtain rfl:=Option.some.inj q;obtain⟨sl,q⟩:=hs₁.2.2 c o hc;exact .inr ⟨cm,f,sl,Heap.get?_push_of_some _ q⟩
  ·exact .inl (Heap.get?_push_of_some _ ((hs₁.2.1 c m).trans hc))
 ·have hTe:h₁.objs.size≠e:=Nat.ne_of_gt (Heap.lt_size he₁);have hd₃:=Obj.data_mapFields hd (·.setIfInBounds 1 (Value.ref h₁.objs.size));refine⟨e,_,_,rfl,hn,Heap.get?_update_self (Obj.mapFields (·.setIfInBounds 1 (Value.ref h₁.objs.size))) he₂ (Obj.isFreed_of_fields hd₃),(Obj.cls_mapFields _ _).trans hc,hd₃,h₁.objs.size,_,_,rawInt L,by simp [hsz],?_,hTe,
   (Heap.get?_update_other (h₁.push {cls:= .type "traceback",dict:=none,data:= .fields ([head,.ref L,.none,rawInt L,.none]++(if pl.isEmpty then List.replicate 6 Value.none else pl)).toArray}) (Obj.mapFields (·.setIfInBounds 1 (Value.ref h₁.objs.size))) (Ne.symm hTe)).trans (Heap.get?_push_size h₁ rfl),rfl,by simp⟩
  have z:s.heap.get? h₁.objs.size=none:=Heap.get?_none_of_le (by rw[hs₁.1];exact Nat.le_refl _);exact Classical.byContradiction λq=>hg _ q z
theorem nP {v:Value} {L:Addr} {Q:Unit→Shared→Prop} {outer:List Env} {e0:Env} (hfr:A.frames=some (e0::outer)) (fr:mq M (e0::outer) h0) (f0:e0.frame=some L) (f1:env.frame=some L) (x:aA.X M W h0 s.heap v)
 (h:∀h',XN M W h0 h' v→Q () {s with heap:=h'}):wpAny Mo A (noteFrame v env) Q E s:=by
 refine cps λG kf=> ?_
 obtain⟨k,tr,e,oe,vs,rfl,e1,e2,e3,e4,e5⟩:=x;refine kf ?_;have frs:=k.fr fr;have hg:∀b,h0.get? b≠none→s.heap.get? b≠none:=λb q z=>q (k.old z)
 unfold noteFrame;rw[f1];cases tr with
 |false=>
  refine wpAny_bind (wpAny_field e2 e4 e5 ?_);rw[if_neg (by decide)];exact uK hfr frs f0 f1 e2 e1 hg e4 (Array.getElem?_eq_some_iff.mp e5).1 e3 λh' st f=>h h' ⟨k.step st,f⟩
 |true=>
  refine cps λG kf=> ?_
  obtain⟨T,oT,ts,fl,g1,g2,g3,g4,g5,g6⟩:=e5;refine kf ?_;refine wpAny_bind (wpAny_field e2 e4 g1 ?_);refine(if_pos (show(Value.ref T !=Value.none)=true from by simp)).symm▸?_;refine wpAny_bind (wpAny_field g4 g5 g6 ?_);by_cases q:(fl==rawInt L)=true
  ·refine(if_pos q).symm▸?_;exact wpAny_pure (h _ ⟨k,e,oe,vs,rfl,e1,e2,e3,e4,T,oT,ts,fl,g1,g2,g3,g4,g5,g6⟩)
  ·refine(if_neg q).symm▸?_;refine wpAny_bind (wpAny_setField g4 g5 (Array.getElem?_eq_some_iff.mp g6).1 ?_);have other:∀b,b≠T→(s.heap.update T (Obj.mapFields (·.setIfInBounds 3 Value.none))).get? b=s.heap.get? b:=λb hb=>Heap.get?_update_other _ _ (Ne.symm hb)
   have st1:Bv M h0 s.heap (s.heap.update T (Obj.mapFields (·.setIfInBounds 3 Value.none))):=λb o hb hz=> .inl ((other b λz=>hz (by rw[z];exact g2)).trans hb)
   have k1:=k.step st1;refine uK (s:={s with heap:=s.heap.update T (Obj.mapFields (·.setIfInBounds 3 Value.none))}) hfr (k1.fr fr) f0 f1 ((other e (Ne.symm g3)).trans e2) e1 (λb q z=>q (k1.old z)) e4 (Array.getElem?_eq_some_iff.mp g1).1 e3 λh' st f=>h h' ⟨k1.step st,f⟩
theorem fZ {v:Value} {fo:Option Addr} {Q:Unit→Shared→Prop} (x:XN M W h0 s.heap v) (h:∀h',XN M W h0 h' v→Q () {s with heap:=h'}):wpAny Mo A (setFlight v fo) Q E s:=by
 refine cps λG kf=> ?_
 obtain⟨k,e,oe,vs,rfl,e1,e2,e3,e4,T,oT,ts,fl,g1,g2,g3,g4,g5,g6⟩:=x;refine kf ?_;have hsz3:3<ts.size:=(Array.getElem?_eq_some_iff.mp g6).1
 unfold setFlight;refine wpAny_bind (wpAny_field e2 e4 g1 ?_);refine(if_pos (show(Value.ref T !=Value.none)=true from by simp)).symm▸?_;have other:∀b,b≠T→(s.heap.update T (Obj.mapFields (·.setIfInBounds 3 (fo.elim Value.none λf=>rawInt f)))).get? b=s.heap.get? b:=λb hb=>Heap.get?_update_other _ _ (Ne.symm hb)
 refine wpAny_setField g4 g5 hsz3 (h _ ⟨k.step λb o hb hz=> .inl ((other b λz=>hz (by rw[z];exact g2)).trans hb),?_⟩);exact⟨e,oe,vs,rfl,e1,(other e (Ne.symm g3)).trans e2,e3,e4,T,_,_,_,g1,g2,g3,Heap.get?_update_self _ g4 (Obj.isFreed_of_fields (Obj.data_mapFields g5 _)),Obj.data_mapFields g5 _,by simp [hsz3];rfl⟩
theorem yO {v:Value} {Q:Value→Shared→Prop} (x:XN M W h0 s.heap v) (h:∀T,Q (.ref T) s):wpAny Mo A (field v 1) Q E s:=by
 refine cps λG kf=> ?_
 obtain⟨k,e,oe,vs,rfl,e1,e2,e3,e4,T,oT,ts,fl,g1,_⟩:=x;refine kf ?_;exact wpAny_field e2 e4 g1 (h T)
theorem Ad {α:Type} {what:String} {v:Value} {Q:α→Shared→Prop} (x:XN M W h0 s.heap v) (h:∀h',XN M W h0 h' v→E v {s with heap:=h'}):wpAny Mo A (PySem.passOn what v env:Sem α) Q E s:=by
 unfold PySem.passOn;refine wpAny_bind (yO x λT=> ?_);rw[if_neg (by simp)];exact wpAny_bind (fZ x λh1 x1=>wpAny_throw (h h1 x1))
theorem wQ {v:Value} {L:Addr} {Q:Unit→Shared→Prop} {outer:List Env} {e0:Env} (hfr:A.frames=some (e0::outer)) (fr:mq M (e0::outer) h0) (f0:e0.frame=some L) (f1:env.frame=some L) (x:aA.X M W h0 s.heap v)
 (h:∀h',XN M W h0 h' v→Q () {s with heap:=h'}):wpAny Mo A (leaving env v) Q E s:=by
 unfold leaving;exact wpAny_bind (nP hfr fr f0 f1 x λh1 x1=>fZ (s:={s with heap:=h1}) x1 λh2 x2=>h h2 x2)
end
set_option tactic.hygienic false
structure bJ (M:List Addr) (mu:Mu) (env:Env) (h:Heap) (M':List Addr) (mu':Mu) (h':Heap):Prop where
 sub:∀a∈M,a∈M'
 more:∃l,mu'=mu++l∧∀p∈l,h.get? p.2=none
 fresh:∀a∈M',a∈M∨h.get? a=none
 keep:ah M (aE env mu) h h'
section
variable {pr:Params} {M M1 M2 Mc W:List Addr} {mu mu1 mu2:Mu} {env:Env} {h h1 h2:Heap} {r r':Loc} {S S':List AV} {FL:List Env} {n:Nat}
theorem bx {a:Addr}:a∈aE env mu↔a=env.locals∨a∈env.cells.map (·.2)∨a∈b9 mu:=List.mem_cons.trans (or_congr Iff.rfl List.mem_append)
theorem aC:∀a∈b9 mu,a∈aE env mu:=λa m=>bx.mpr (.inr (.inr m))
theorem bJ.of_keep (k:ah M (aE env mu) h h1):bJ M mu env h M mu h1:=⟨λ_ m=>m,⟨[],(List.append_nil _).symm,λ_ m=>zE m⟩,λ_ m=> .inl m,k⟩
theorem bJ.fM (k:ah M (b9 mu) h h1):bJ M mu env h M mu h1:= .of_keep (k.eO aC)
theorem bJ.refl:bJ M mu env h M mu h:= .of_keep (.refl _ _ _)
theorem bJ.back (g:bJ M mu env h M1 mu1 h1) (k:ah M1 (aE env mu1) h1 h2):ah M (aE env mu) h h2:=by
 intro b o e;refine cps λG kf=> ?_
 obtain⟨o1,e1,f1,g1⟩:=g.keep b o e;obtain⟨o2,e2,f2,g2⟩:=k b o1 e1;refine kf ?_;refine⟨o2,e2,λq=>f2 (f1 q),λnb=> ?_⟩;have nb1:b∉aE env mu1:=λm=>by
  refine cps λG kf=> ?_
  obtain⟨l,q,fr⟩:=g.more;refine kf ?_;subst q;refine(bx.mp m).elim (λm=>nb (bx.mpr (.inl m))) λm=>m.elim (λm=>nb (bx.mpr (.inr (.inl m)))) λm=> ?_
  refine cps λG kf=> ?_
  obtain⟨p,mp,q⟩:=List.mem_map.mp m;refine kf ?_;exact(List.mem_append.mp mp).elim (λmp=>nb (aC _ (List.mem_map.mpr ⟨p,mp,q⟩))) λmp=>by have z:=fr p mp;rw[q,e] at z;exact zB z
 have bM:b∈M1→b∈M:=λm=>(g.fresh b m).elim id λz=>nomatch e.symm.trans z
 rcases g1 nb with rfl|⟨m,f,sl,rfl⟩
 ·exact(g2 nb1).imp id λx=>⟨bM x.1,x.2⟩
 ·exact .inr ⟨m,f,(g2 nb1).elim (λq=>⟨sl,q⟩) λx=>x.2.2⟩
theorem bJ.trans (g:bJ M mu env h M1 mu1 h1) (k:bJ M1 mu1 env h1 M2 mu2 h2):bJ M mu env h M2 mu2 h2:=by
 refine⟨λa m=>k.sub a (g.sub a m),?_,λa m=>(k.fresh a m).elim (g.fresh a) λe=> .inr (g.keep.old e),g.back k.keep⟩;obtain⟨l,rfl,f⟩:=g.more;obtain⟨l',rfl,f'⟩:=k.more;exact⟨l++l',List.append_assoc _ _ _,λp m=>(List.mem_append.mp m).elim (f p) λm=>g.keep.old (f' p m)⟩
theorem bJ.x (g:bJ M mu env h M1 mu1 h1) {x:Value} (k:aA.X M1 (aE env mu1) h1 h2 x):aA.X M (aE env mu) h h2 x:=
 ⟨g.back k.1,k.2.elim λtr f=>⟨tr,f.pre λ_ e=>g.keep.old e⟩⟩
structure Ctx (Mc:List Addr) (N:Addr→Prop) (k:Nat) (M:List Addr) (mu:Mu) (h:Heap):Prop where
 sub:∀a∈Mc,a∈M
 new:∀a,h.get? a=none→N a
 own:∀i p,k≤i→mu[i]? =some p→N p.2
 apart:∀a,N a→a∉Mc
 len:k≤mu.length
theorem Ctx.xf {N:Addr→Prop} {k:Nat} (c:Ctx Mc N k M mu h) (g:bJ M mu env h M1 mu1 h1):Ctx Mc N k M1 mu1 h1:=by
 obtain⟨l,rfl,f⟩:=g.more;refine⟨λa m=>g.sub a (c.sub a m),λa e=>c.new a (g.keep.old e),λi p q e=> ?_,c.apart,by rw[List.length_append];exact Nat.le_trans c.len (Nat.le_add_right _ _)⟩;by_cases hi:i<mu.length
 ·rw[List.getElem?_append_left hi] at e;exact c.own i p q e
 ·rw[List.getElem?_append_right (Nat.le_of_not_lt hi)] at e;exact c.new _ (f p (List.mem_of_getElem? e))
noncomputable def sU (pr:Params) (Mc:List Addr) (N:Addr→Prop) (h:Heap) (S:List AV) (mu:Mu) (v:AV) (u:Value):Prop:=match iJ v with
 |true=>∃p,u= .ref p.1∧N p.2∧ak pr (p.2::Mc) h v p∧ai pr (p.2::Mc) h S mu
 |false=>Rep pr Mc h v u
noncomputable def y2 (pr:Params) (Mc:List Addr) (N:Addr→Prop) (h:Heap) (S:List AV) (mu:Mu) (v:AV) (fr:Bool) (u:Value):Prop:=flat v=true∧if fr=true then sU pr Mc N h S mu v u else Rep pr Mc h v u
noncomputable def eJ (w:World) (Mc:List Addr) (N:Addr→Prop) (M:List Addr) (mu:Mu) (FL:List Env) (env:Env) (s:Shared) (res:ar) (Q:Flow→Shared→Prop) (E:Value→Shared→Prop):Prop:=match res with
 | .aY r' S'=>∀M' mu' h' tk,bJ M mu env s.heap M' mu' h'→FS w.params M' FL env mu' r' S' h'→Q .next (up s h' tk)
 | .brk r' S'=>∀M' mu' h' tk,bJ M mu env s.heap M' mu' h'→FS w.params M' FL env mu' r' S' h'→Q .brk (up s h' tk)
 | .ret v fr S'=>∀M' mu' u h' tk,bJ M mu env s.heap M' mu' h'→ai w.params M' h' S' mu'→y2 w.params Mc N h' S' mu' v fr u→Q (.ret u) (up s h' tk)
 | .exc=>∀x h' tk,aA.X M (aE env mu) s.heap h' x→E x (up s h' tk)
noncomputable def Km (w:World) (n k:Nat) (m:Loc→List AV→Option ar) (t:Env→Sem Flow):Prop:=∀r S res,m r S=some res→∀⦃Mc:List Addr⦄ ⦃N:Addr→Prop⦄ ⦃M:List Addr⦄ ⦃mu:Mu⦄ ⦃env:Env⦄ ⦃FL:List Env⦄ ⦃A:Around⦄ ⦃s:Shared⦄ ⦃Q:Flow→Shared→Prop⦄ ⦃E:Value→Shared→Prop⦄,cq n FL A→Ctx Mc N k M mu s.heap→FS w.params M FL env mu r S s.heap→eJ w Mc N M mu FL env s res Q E→wpAny (model PW w) A (t env) Q E s
noncomputable abbrev dg (w:World) (n:Nat) (C:ay) (k:Nat) (st:Stmt):Prop:=Km w n k (λr S=>(dS C k st r S).p) (PySem.exec st)
noncomputable abbrev g9 (w:World) (n:Nat) (C:ay) (k:Nat) (st:List Stmt):Prop:=Km w n k (λr S=>(qu C k st r S).p) (PySem.execs st)
theorem eJ.go {w:World} {N:Addr→Prop} {s:Shared} {tk:Nat} {res:ar} {Q:Flow→Shared→Prop} {E:Value→Shared→Prop} (g:bJ M mu env s.heap M1 mu1 h1) (p:eJ w Mc N M mu FL env s res Q E):eJ w Mc N M1 mu1 FL env (up s h1 tk) res Q E:=by
 cases res with
 |aY r S=>exactλM' mu' h' tk' g'=>p M' mu' h' tk' (g.trans g')
 |brk r S=>exactλM' mu' h' tk' g'=>p M' mu' h' tk' (g.trans g')
 |ret v fr S=>exactλM' mu' u h' tk' g'=>p M' mu' u h' tk' (g.trans g')
 |exc=>exactλx h' tk' x'=>p x h' tk' (g.x x')
end
section
variable {w:World} {n:Nat} {C:ay} {k:Nat} {M M' Mc:List Addr} {N:Addr→Prop} {mu:Mu} {env:Env} {r r':Loc} {S S':List AV} {A:Around} {s:Shared} {E:Value→Shared→Prop} {FL:List Env} {h h':Heap} {α β:Type}
theorem IJ:g9 w n C k []:=λr S res h Mc N M mu env FL A s Q E R c F P=>wpAny_execs_nil (by obtain rfl:=Option.some.inj h;exact P M mu s.heap s.toks .refl F)
theorem Bt {st:Stmt} {ss:List Stmt} (h1:dg w n C k st) (h2:g9 w n C k ss):g9 w n C k (st::ss):=λr S res h Mc N M mu env FL A s Q E R c F P=>wpAny_execs_cons (by
 obtain⟨ra,e1,e2⟩:=bind_some h;refine h1 _ _ ra e1 R c F ?_;cases ra with
 |aY r' S'=>exactλM' mu' h' tk g F'=>h2 _ _ _ e2 R (c.xf g) F' (P.go g)
 |_=>obtain rfl:=Option.some.inj e2;exact P)
theorem qL {V:Heap→List AV→α→β→Prop} {t:Sem β} {m:Option (Res α)} {f:α→List AV→Option ar} {res:ar}
 (e:wu m f=some res) (T:Tr w aA n M mu env r S V m t) (R:cq n FL A) (F:FS w.params M FL env mu r S s.heap)
 {Q:β→Shared→Prop} {Q':Flow→Shared→Prop} (P:eJ w Mc N M mu FL env s res Q' E)
 (k:∀d S1 v h' tk,f d S1=some res→ah M (b9 mu) s.heap h'→FS w.params M FL env mu r S1 h'→V h' S1 d v→eJ w Mc N M mu FL env (up s h' tk) res Q' E→Q v (up s h' tk)):wpAny (model PW w) A t Q E s:=by
 obtain⟨ra,e1,e2⟩:=bind_some e;refine T ra e1 R F ?_;cases ra with
 |exc=>obtain rfl:=Option.some.inj e2;exactλx h' tk x'=>P x h' tk (du aC x')
 |ok d S1=>exactλv h' tk k1 st tv=>k d S1 v h' tk e2 k1 (F.go k1 st) tv (P.go (.fM k1))
theorem JC {e:Expr} {f:(AV×Bool)→List AV→Option ar} {res:ar} (h:wu (dC C e r S).p f=some res) (T:kF w aA n C e) (R:cq n FL A) (F:FS w.params M FL env mu r S s.heap)
 {Q:Value→Shared→Prop} {Q':Flow→Shared→Prop} (P:eJ w Mc N M mu FL env s res Q' E)
 (k:∀d S1 v h' tk,f d S1=some res→ah M (b9 mu) s.heap h'→ai w.params M h' S1 mu→fF w.params M mu s.heap h' S1 d v→Q v (up s h' tk)):wpAny (model PW w) A (eval e env) Q E s:=by
 obtain⟨ra,e1,e2⟩:=bind_some h;refine T _ _ _ _ _ ra e1 R F ?_;cases ra with
 |exc=>obtain rfl:=Option.some.inj e2;exactλx h' tk x'=>P x h' tk (du aC x')
 |ok d S1=>exactλv h' tk k1 st tv=>k d S1 v h' tk e2 k1 st tv
theorem M8 {t:Expr} {a b:List Stmt} {p:Pos} (ht:nG w aA n C t) (ha:g9 w n C k a) (hb:g9 w n C k b):dg w n C k (.If t a b p):=λr S res h Mc N M mu env FL A s Q E R c F P=>
 wpAny_If (qL h (ht _ _ _ _ _) R F P λv S1 v' h1 tk1 h k1 F1 e P=>by
  subst e;have c1:=c.xf (bJ.fM (env:=env) k1);cases v' with
  |true=>exact ha _ _ _ h R c1 F1 P
  |false=>exact hb _ _ _ h R c1 F1 P)
theorem Dj {p:Pos}:dg w n C k (.Break p):=λr S res h Mc N M mu env FL A s Q E R c F P=>by
 obtain rfl:=Option.some.inj h;exact wpAny_Break (P _ _ s.heap s.toks .refl F)
theorem aD.less {d:AV} {v:Value} (sub:∀a∈M',a∈M) (t:Rep w.params M h d v):Rep w.params M' h d v:=aD.mono (qa sub) t
theorem ai.less {S:List AV} {mu:Mu} (sub:∀a∈M',a∈M) (t:ai w.params M h S mu):ai w.params M' h S mu:=F2.mono (λ_ _=>ak.less sub) t
theorem FS.grow (F:FS w.params M FL env mu r S h) (kp:ah M (b9 mu) h h') {p:Addr×Addr} {o:AV} (hn:h.get? p.2=none) (t:ak w.params (p.2::M) h' o p) (st2:ai w.params (p.2::M) h' S' mu):
 FS w.params (p.2::M) FL env (mu++[p]) r (S'++[o]) h':=by
 have F1:=F.go kp (ai.less (λa m=>List.mem_cons_of_mem _ m) st2);have g:Ge (aG M h) (aG (p.2::M) h'):=fc (F.bL kp) hn;have sub:∀a∈M,a∈p.2::M:=λa m=>List.mem_cons_of_mem _ m
 have hnM:p.2∉M:=F.live.fresh hn;refine cps λG kf=> ?_
 obtain⟨m,hm,hx⟩:=F.names;refine kf ?_;have e:b9 (mu++[p])=b9 mu++[p.2]:=List.map_append;refine⟨F.kind,F.glo,F.blt,⟨m,kp.ns F.jm hm,λx b e=>⟨(hx x b e).1,aX.lift (hx x b e).2 (λi q e=>by rw[List.getElem?_append_left (List.getElem?_eq_some_iff.mp e).1];exact e) g sub λe1 e2=>kp.cell (F.gn e1) e2⟩⟩,F2.append st2 (.cons t .nil),sub _ F.locM,
  λa m=>(List.mem_append.mp (e▸m)).elim (λm=>sub a (F.muM a m)) λm=>List.mem_singleton.mp m▸List.mem_cons_self,λa m=>sub a (F.cellM a m),?_,F.ground.trans g,List.forall_mem_cons.mpr ⟨t.at2,F1.live⟩,λe m=> ?_,F.own⟩
 ·have fm:∀{a},a∈aE env mu→a≠p.2:=λm e=>hnM (e▸F.fj _ m)
  rw[e,←List.append_assoc];show(aE env mu++[p.2]).Nodup;refine List.nodup_append.mpr ⟨F.apart,List.nodup_cons.mpr ⟨λm=>(zE m),List.nodup_nil⟩,λa ha b hb=>List.mem_singleton.mp hb▸fm ha⟩
 ·refine cps λG kf=> ?_
  obtain⟨kk,L,e1,e2,e3⟩:=F1.frm e m;refine kf ?_;exact⟨kk,L,e1,sub _ e2,e3⟩
theorem bJ.one (kp:ah M (b9 mu) h h') {p:Addr×Addr} (hn:h.get? p.2=none):bJ M mu env h (p.2::M) (mu++[p]) h':=
 ⟨λa m=>List.mem_cons_of_mem _ m,⟨[p],rfl,λq m=>by rw[List.mem_singleton.mp m];exact hn⟩,λa m=>(List.mem_cons.mp m).elim (λe=> .inr (by rw[e];exact hn)) .inl,kp.eO aC⟩
theorem Ee {x:Str} {v:AV} {fr:Bool} {res:Res Loc} (hp:(putN C x v fr r S').p=some res) (F:FS w.params M FL env mu r S s.heap) {tk:Nat} (kp:ah M (b9 mu) s.heap h') (st:ai w.params M h' S' mu) {u:Value}
 (cv:if fr=true then aS w.params M mu s.heap h' S' v u else ax w.params M mu h' v u) {Q:Unit→Shared→Prop}
 (k:∀r' S2,res= .ok r' S2→∀M' mu' h2 tk2,bJ M mu env s.heap M' mu' h2→FS w.params M' FL env mu' r' S2 h2→Q () (up s h2 tk2)):wpAny (model PW w) A (storeName env x u) Q E (up s h' tk):=by
 refine j3 hp (λc hp=> ?_) λc hp=>aQ hp λf hp=> ?_
 ·have c:=Bool.and_eq_true_iff.mp c;rw[if_pos (Bool.and_eq_true_iff.mp c.1).1] at cv;unfold aS at cv;rw[c.2] at cv;refine cps λG kf=> ?_
  obtain⟨p,rfl,hn,m,st2⟩:=cv;obtain⟨r1,hr,hp⟩:=bind_some hp;refine kf ?_;exact cG (s:=up s h' tk) (F.grow kp hn m st2) hr ⟨p,by rw[F2.length st,List.getElem?_append_right (Nat.le_refl _),Nat.sub_self];rfl,rfl⟩ λh2 tk2 k2 F2=>k _ _ (Option.some.inj hp).symm _ _ h2 tk2 ((bJ.one kp hn).trans (.of_keep k2)) F2
 ·refine cps λG kf=> ?_
  obtain⟨r1,hr,hp⟩:=bind_some hp;refine kf ?_;have tv:ax w.params M mu h' v u:=by
   cases fr with
   |true=>exact(ax.bo f).mpr (tP F.live (aS.rep ((if_pos rfl).mp cv)))
   |false=>exact cv
  exact cG (s:=up s h' tk) (F.go kp st) hr tv λh2 tk2 k2 F2=>k _ _ (Option.some.inj hp).symm _ _ h2 tk2 ((bJ.fM kp).trans (.of_keep k2)) F2
theorem fK {γ:Type} {m:Option (Res γ)} {f:γ→List AV→Option (Res α)} {g:α→List AV→Option ar}:wu (bD m f) g=wu m λd S=>wu (f d S) g:=by
 cases m with
 |none=>rfl
 |some a=>cases a<;>rfl
theorem lY {m:Option (Res Loc)} {res:ar} (h:wu m (λr S=>some (.aY r S))=some res) {G:Prop} (l:∀ra,m=some ra→(∀r' S',ra= .ok r' S'→res= .aY r' S')→(ra= .exc→res= .exc)→G):G:=by
 obtain⟨ra,e1,e2⟩:=bind_some h;refine l ra e1 (λ_ _ e=> ?_) λe=> ?_
 ·subst e;exact(Option.some.inj e2).symm
 ·subst e;exact(Option.some.inj e2).symm
theorem xi {f:Expr} {as:List Expr} {ks:List Keyword} {p:Pos} {t:Option Expr} {l:Nat}:swapsWith (.Call f as ks p) t l env=pure false:=rfl
theorem vz {f:Expr} {as:List Expr} {ks:List Keyword} {p q:Pos} (hc:kF w aA n C (.Call f as ks p)):dg w n C k (.Expr (.Call f as ks p) q):=λr S res h Mc N M mu env FL A s Q E R c F P=>
 wpAny_Expr_any (JC h hc R F P λd S1 v h1 tk1 h k1 st1 cv=>by obtain rfl:=Option.some.inj h;exact P _ _ h1 tk1 (.fM k1) (F.go k1 st1)) (by unfold interactive;rw[F.kind];rfl) xi
theorem ql {x:Str} {f:Expr} {as:List Expr} {ks:List Keyword} {p q pn:Pos} (hc:kF w aA n C (.Call f as ks p)):dg w n C k (.Assign [.Name x pn] (.Call f as ks p) q):=λr S res h Mc N M mu env FL A s Q E R c F P=>
 wpAny_Assign_Name (JC (fK.symm.trans h) hc R F P λd S1 v h1 tk1 h k1 st1 cv=>lY h λra e1 o _=>Ee e1 F k1 st1 (by
  have t:=cv.2;cases q:d.2 with
  |true=>rw[q] at t;exact t
  |false=>rw[q] at t;exact(ax.bo cv.1).mpr t) λr' S2 e=>by
   cases o _ _ e;exactλM' mu' h2 tk2 g F2=>P _ _ h2 tk2 g F2) xi
end
set_option tactic.hygienic false
noncomputable def jg (w:World) (M:List Addr) (mu:Mu) (FL:List Env) (env:Env) (s:Shared) (res:Res Loc) (Q:Unit→Shared→Prop) (E:Value→Shared→Prop):Prop:=match res with
 | .ok r' S'=>∀h' tk,ah M (aE env mu) s.heap h'→FS w.params M FL env mu r' S' h'→Q () (up s h' tk)
 | .exc=>∀x h' tk,aA.X M (aE env mu) s.heap h' x→E x (up s h' tk)
noncomputable def jc (w:World) (n:Nat) (C:ay) (t:Expr):Prop:=∀v r S res,(dA C t v r S).p=some res→∀⦃M:List Addr⦄ ⦃mu:Mu⦄ ⦃env:Env⦄ ⦃FL:List Env⦄ ⦃A:Around⦄ ⦃s:Shared⦄ ⦃u:Value⦄ ⦃Q:Unit→Shared→Prop⦄ ⦃E:Value→Shared→Prop⦄,cq n FL A→FS w.params M FL env mu r S s.heap→Rep w.params M s.heap v u→jg w M mu FL env s res Q E→wpAny (model PW w) A (assign t env u) Q E s
noncomputable def Dp (w:World) (n:Nat) (C:ay) (t:Expr):Prop:=∀v r S res,(RY C t v r S).p=some res→∀⦃M:List Addr⦄ ⦃mu:Mu⦄ ⦃env:Env⦄ ⦃FL:List Env⦄ ⦃A:Around⦄ ⦃s:Shared⦄ ⦃u:Value⦄ ⦃Q:Unit→Shared→Prop⦄ ⦃E:Value→Shared→Prop⦄,cq n FL A→FS w.params M FL env mu r S s.heap→ax w.params M mu s.heap v u→jg w M mu FL env s res Q E→wpAny (model PW w) A (assign t env u) Q E s
theorem E9 {α:Type} {b:Bool} {m:X α} {a:α} (h:(X.gd b m).p=some a) {G:Prop} (k:b=true→m.p=some a→G):G:=by
 cases b with
 |true=>exact k rfl h
 |false=>exact zA h
section
variable {w:World} {n:Nat} {C:ay} {k:Nat} {M M' Mc:List Addr} {N:Addr→Prop} {mu:Mu} {env:Env} {r r':Loc} {S S':List AV} {A:Around} {s:Shared} {E:Value→Shared→Prop} {FL:List Env} {h h':Heap} {α β:Type}
theorem jg.up {h:Heap} {tk:Nat} {res:Res Loc} {Q:Unit→Shared→Prop} (k:ah M (aE env mu) s.heap h) (p:jg w M mu FL env s res Q E):jg w M mu FL env (Mine.up s h tk) res Q E:=by
 cases res with
 |ok d S'=>exactλh' tk' k'=>p h' tk' (k.trans k')
 |exc=>exactλx h' tk' x'=>p x h' tk' (aA.pre k x')
theorem xP {x z:AV} {kk d:List AV} {p:Addr×Addr} {u v:Value} {Q:Unit→Shared→Prop} (hM:p.2∈M) (hx:ak w.params M s.heap (.dct kk d) p) (f:cW x kk=true) (hl:kk.length<ao) (rx:Rep w.params M s.heap x u) (rz:Rep w.params M s.heap z v)
 (q:∀h' tk,aF [p.2] s.heap h'→ak w.params M h' (.dct (hZ kk d x z).1 (hZ kk d x z).2) p→Q () (up s h' tk)):wpAny (model PW w) A (setItem (.ref p.1) u v) Q E s:=by
 obtain⟨a0,a⟩:=p;obtain rfl:a0=a:=hx.1;have ko:lP kk:=hx.2.2.elim λ_ x=>x.elim λ_ x=>x.2.2
 cases iQ (aq.BC hx) f with
 |mk T y ks b vs ex ek ev hs D rl hlen=>
 subst ex ek;cases ev;obtain⟨t,rfl⟩:=T.rep rx;have nd:=(lT T.one).mp ko.2;obtain⟨ks',vs',d',h1,h2,h3,h4⟩:=m8 (w:=w) T rz rl hlen nd (y:=y);refine wpAny_setItem_pairs (T.good y t) D (λh' D' sb=> ?_) (by rw[List.length_zip,←hlen,Nat.min_self];exact bO (Nat.le_of_lt (List.length_map (as:=ks) T.inj▸hl)));have kp:aF [a0] s.heap h':=b5 sb;refine q h' _ kp ?_;rw[h2] at D';obtain⟨es',m',e',r',ko'⟩:=lG (P:=aG M h') (d:=d') T D' (by rw[pX h4];exact aP.mono (kp.aG λb m=>List.mem_singleton.mp m▸hM) h3);have e5:((ks'.zip vs').map λp=>T.inj p.1)=ks'.map T.inj:=(List.map_map (l:=ks'.zip vs') (f:=Prod.fst) (g:=T.inj)).symm.trans (congrArg (List.map T.inj) (eu h4));rw[e5] at r' ko';refine h1.symm▸?_;exact⟨rfl,hs,es',m',e',r',ko'⟩
theorem jX {x:Str} {p:Pos}:jc w n C (.Name x p):=λv r S res h M mu env FL A s u Q E R F rv P=>by
 obtain⟨r1,h1,h⟩:=bind_some h;obtain rfl:=Option.some.inj h;exact wpAny_assign_Name (cG F h1 ((ax.bo (cT rv)).mpr rv) λh' tk kp F'=>P h' tk kp F')
theorem J0 {V:Heap→List AV→α→β→Prop} {t:Sem β} {m:Option (Res α)} {f:α→List AV→Option (Res Loc)} {res:Res Loc}
 (e:bD m f=some res) (T:Tr w aA n M mu env r S V m t) (R:cq n FL A) (F:FS w.params M FL env mu r S s.heap)
 {Q:β→Shared→Prop} {Q':Unit→Shared→Prop} (P:jg w M mu FL env s res Q' E)
 (k:∀d S1 v h' tk,f d S1=some res→ah M (b9 mu) s.heap h'→FS w.params M FL env mu r S1 h'→V h' S1 d v→jg w M mu FL env (up s h' tk) res Q' E→Q v (up s h' tk)):wpAny (model PW w) A t Q E s:=by
 obtain⟨ra,e1,e2⟩:=bind_some e;refine T ra e1 R F ?_;cases ra with
 |exc=>obtain rfl:=Option.some.inj e2;exactλx h' tk x'=>P x h' tk (du aC x')
 |ok d S1=>exactλv h' tk k1 st tv=>k d S1 v h' tk e2 k1 (F.go k1 st) tv (P.up (k1.eO aC))
theorem qr {K:Frag} (KF:dW K) (inn:K.In (H1 w.params)) {o:Expr} {a:Str} {p:Pos} (ha:dQ.contains a=true) (ho:bf w aA n C o):jc w n C (.Attribute o a p):=λv r S res h M mu env FL A s u Q E R F rv P=>by
 rw[arm_assign_Attribute];refine wpAny_bind (wpAny_holding (J0 h (ho _ _ _ _ _) R F P λx S1 ov h1 tk1 h k1 F1 tx P=>aT h λi hi h=>aT h λo' ho h=>aT h λp hp h=>aQ h λhc h9=> ?_));obtain rfl:=jv hi;obtain rfl:=iD hp;have hc:=Bool.and_eq_true_iff.mp hc;obtain rfl:=Option.some.inj h9;obtain⟨p',hp,rfl⟩:=tx;obtain⟨p2,hp2,mr⟩:=F1.store.get ho;obtain rfl:=Option.some.inj (hp.symm.trans hp2);have hM:=F1.muM _ (gM hp);refine wpAny_bind (wpAny_standAt (wpAny_bind (wpAny_holding (xy KF (of_decide_eq_true hc.2) ha (s:=up s h1 tk1) (gF inn F1) hM mr (aD.mono (F.bL k1) rv) λh2 tk2 k2 mr2=>wpAny_release' ?_))));have k2':=k2.EH mr mr2;have k3:=kq (gM hp) k2';exact P h2 tk2 (k3.eO aC) (F1.go k3 (ai.set k2' hM mr2 F1.nd hp F1.store))
theorem E1 {x y v:AV} {ov iv u:Value} {res:Res Loc} {Q:Unit→Shared→Prop} (h:(Jr v r S x y).p=some res) (F:FS w.params M FL env mu r S s.heap) (tx:ax w.params M mu s.heap x ov) (ty:ax w.params M mu s.heap y iv) (rv:Rep w.params M s.heap v u)
 (k:∀h' tk S',res= .ok r S'→ah M (b9 mu) s.heap h'→FS w.params M FL env mu r S' h'→Q () (up s h' tk)):wpAny (model PW w) A (setItem ov iv u) Q E s:=
 aT h λi hi h=>aT h λo' ho h=>aT h λp hp h=>aQ h λ_ h=>E9 h λhc h9=>by
  refine cps λG kf=> ?_
  obtain rfl:=jv hi;obtain rfl:=wk hp;have hc:=Bool.and_eq_true_iff.mp hc;obtain⟨p',hp,rfl⟩:=tx;obtain⟨p2,hp2,mr⟩:=F.store.get ho;obtain rfl:=Option.some.inj (hp.symm.trans hp2);refine kf ?_;have hM:=F.muM _ (gM hp);have fy:flat y=true:=by cases y<;>first|rfl|exact zC hc.1
  exact xP hM mr hc.1 (of_decide_eq_true hc.2) ((ax.bo fy).mp ty) rv λh3 tk3 k3 mr3=>have k3':=k3.EH mr mr3;have k4:=kq (gM hp) k3';k h3 tk3 _ (Option.some.inj h9).symm k4 (F.go k4 (ai.set k3' hM mr3 F.nd hp F.store))
theorem qo {o i:Expr} {p:Pos} (ho:bf w aA n C o) (hk:bf w aA n C i):jc w n C (.Subscript o i p):=λv r S res h M mu env FL A s u Q E R F rv P=>by
 rw[arm_assign_Subscript];refine wpAny_bind (wpAny_holding (J0 h (ho _ _ _ _ _) R F P λx S1 ov h1 tk1 h k1 F1 tx P=> ?_));refine wpAny_bind (wpAny_holding (J0 (s:=up s h1 tk1) h (hk _ _ _ _ _) R F1 P λy S2 iv h2 tk2 h k2 F2 ty P=> ?_));exact wpAny_bind (wpAny_standAt (wpAny_bind (wpAny_holding (E1 (s:=up s h2 tk2) h F2 (ax.mono (F1.bL k2) tx) ty (aD.mono (F.bL (k1.trans k2)) rv) λh3 tk3 S' e k4 F3=>wpAny_release' (by subst e;exact P h3 tk3 (k4.eO aC) F3)))))
theorem i0 {t:Expr} {ts:List Expr} (hs:noStar t=true):assignEach (t::ts) env=(false,assign t env)::assignEach ts env:=by
 cases t<;>first|rfl|exact zC hs
theorem vn {ts:List Expr} (hs:bN ts=true):(assignEach ts env).length=ts.length∧(assignEach ts env).findIdx? (·.1)=none:=by
 induction ts with
 |nil=>exact⟨rfl,rfl⟩
 |cons t ts ih=>
  have hs:=Bool.and_eq_true_iff.mp hs;refine(i0 hs.1).symm▸?_;exact⟨congrArg (·+1) (ih hs.2).1,by rw[List.findIdx?_cons,(ih hs.2).2];rfl⟩
theorem HR {ts:List Expr}:(∀t∈ts,jc w n C t)→bN ts=true→∀{vs:List AV} {r:Loc} {S:List AV} {res:Res Loc},(MA C ts vs r S).p=some res→∀{us:List Value} {s:Shared} {Q:Unit→Shared→Prop},cq n FL A→FS w.params M FL env mu r S s.heap→aP w.params (aG M s.heap) vs us→jg w M mu FL env s res Q E→
 wpAny (model PW w) A (assignInOrder ((assignEach ts env).map (·.2)) us) Q E s:=by
 induction ts with
 |nil=>
  intro _ _ vs r S res h us s Q R F rl P;refine aQ h λe h=> ?_
  obtain rfl:=List.isEmpty_iff.mp e;obtain rfl:=rl.rV;obtain rfl:=Option.some.inj h;exact wpAny_pure (P s.heap s.toks (.refl _ _ _) F)
 |cons t ts ih=>
  intro hok hst vs r S res h us s Q R F rl P;have hst:=Bool.and_eq_true_iff.mp hst;refine(i0 hst.1).symm▸?_;cases vs with
  |nil=>exact zA h
  |cons v vs=>
  obtain⟨u,us,rfl,a,b⟩:=rl.tZ;refine wpAny_bind (wpAny_holding ?_);obtain⟨ra,e1,e2⟩:=bind_some h;refine hok t List.mem_cons_self _ _ _ _ e1 R F a ?_;cases ra with
  |exc=>obtain rfl:=Option.some.inj e2;exact P
  |ok r1 S1=>exactλh1 tk1 kp F1=>ih (λt m=>hok t (List.mem_cons_of_mem _ m)) hst.2 e2 (s:=up s h1 tk1) R F1 (aP.mono (kp.aG F.fj) b) (P.up kp)
theorem qS {ts:List Expr} {c:Nat} {p:Pos} {vs:List AV} {u:Value} {res:Res Loc} (hok:∀t∈ts,jc w n C t) (hst:bN ts=true) (hlen:ts.length=vs.length) (h:(MA C ts vs r S).p=some res) (R:cq n FL A) (F:FS w.params M FL env mu r S s.heap) (rv:Rep w.params M s.heap (.tup vs) u) {Q:Unit→Shared→Prop}
 (P:jg w M mu FL env s res Q E):wpAny (model PW w) A (assign (.Tuple ts c p) env u) Q E s:=by
 refine cps λG kf=> ?_
 obtain⟨a,us,m,rfl,eo,rl,_⟩:=rv.out λ_ _ e=>e
 refine kf ?_;have l:=vn (env:=env) hst;refine wpAny_assign_Tuple R.handled ⟨_,(af.mp eo).2,rfl,_,rfl⟩ (by rw[l.1,hlen,rl.length,Array.length_toList]) l.2 λh1 eb=> ?_
 have kp:aF [] s.heap h1:=λb o _ e=>eb b o (Nat.ne_of_lt (Heap.lt_size e)) e
 have k1:ah M (b9 mu) s.heap h1:=kp.m0;exact HR (s:=up s h1 s.toks) hok hst h R (F.go k1 (F.store.keep kp)) (aP.mono (F.bL k1) rl) (P.up (k1.eO aC))
theorem Ga {t:Expr} (ht:fV t=none) (ha:jc w n C t):Dp w n C t:=λv r S res h M mu env FL A s u Q E R F tv P=>by
 unfold RY at h;rw[ht] at h;exact aQ h λf h=>ha _ _ _ _ h R F ((ax.bo f).mp tv) P
theorem qV {ts:List Expr} {c:Nat} {p:Pos} (hok:∀t∈ts,jc w n C t) (hst:bN ts=true):Dp w n C (.Tuple ts c p):=λv r S res h M mu env FL A s u Q E R F tv P=>by
 refine aT h λvs hv h=>aQ h λhl h9=> ?_
 obtain rfl:=fR hv;exact qS hok hst hl h9 R F tv P
theorem DN {value t:Expr} {l:Nat} (ht:ic t=none):swapsWith value (some t) l env=pure false:=by
 cases value<;>first|rfl|(cases t<;>first|rfl|exact zB ht)
theorem uY {value t:Expr} (ht:fV t=none∨fV value=none) (hl:eH t=false):swappedStores [t] value env=pure none:=by
 cases t<;>first|rfl|cases hl|skip
 rcases ht with ht|ht
 ·exact zB ht
 ·cases value<;>first|rfl|exact zB ht
theorem yw {m:Option (Res Loc)} {res:ar} {f:Sem Unit} (h:wu m (λr S=>some (.aY r S))=some res) {Q:Flow→Shared→Prop} (P:eJ w Mc N M mu FL env s res Q E) {W:Prop} (k:∀ra,m=some ra→jg w M mu FL env s ra (λ_=>Q .next) E→W):W:=
 lY h λra e1 o x=>k ra e1 (by
  cases ra with
  |ok r' S'=>cases o _ _ rfl;exactλh' tk kp F'=>P _ _ h' tk (.of_keep kp) F'
  |exc=>cases x rfl;exactλy h' tk z=>P y h' tk z)
theorem o6 {t e:Expr} {p:Pos} (h1:ic t=none) (h2:fV t=none∨fV e=none) (h3:eH t=false) (h4:noStar t=true) (he:bf w aA n C e) (ht:Dp w n C t):dg w n C k (.Assign [t] e p):=λr S res h Mc N M mu env FL A s Q E R c F P=>by
 have h:(Bg C t e r S).p=some res:=h;unfold Bg at h;rw[h1] at h;refine wpAny_Assign_stores (qL (fK.symm.trans h) (he _ _ _ _ _) R F P λv S1 u h1 tk1 h k1 F1 tv P=> ?_) (DN h1) (uY h2 h3);refine(i0 h4).symm▸?_;exact yw (f:=pure ()) h P λra e P=>ht _ _ _ _ e R F1 tv P
theorem sH {x:Str} {v:AV} {fr:Bool} {res:ar} {h':Heap} {S':List AV} {tk:Nat} {u:Value} {Q:Flow→Shared→Prop} (h:wu (putN C x v fr r S').p (λr S=>some (.aY r S))=some res) (P:eJ w Mc N M mu FL env s res Q E) (F:FS w.params M FL env mu r S s.heap) (kp:ah M (b9 mu) s.heap h') (st:ai w.params M h' S' mu)
 (cv:if fr=true then aS w.params M mu s.heap h' S' v u else ax w.params M mu h' v u):wpAny (model PW w) A (storeName env x u) (λ_=>Q .next) E (up s h' tk):=lY h λra e1 o _=>Ee e1 F kp st cv λr' S2 e=>by
 cases o _ _ e;exactλM' mu' h2 tk2 g F2=>P _ _ h2 tk2 g F2
theorem qC {x:Str} {pn p:Pos} {e:Expr} (hnc:Cm e=false) (hd:eH e=false) (hs:∀env:Env,swapsWith e (some (.Name x pn)) p.line env=pure false) (he:bf w aA n C e):dg w n C k (.Assign [.Name x pn] e p):=λr S res h Mc N M mu env FL A s Q E R c F P=>by
 replace h:(Bg C (.Name x pn) e r S).p=some res:=h;replace h:=j3 h (λq _=>nomatch hnc.symm.trans q) λ_ h=>h
 refine wpAny_Assign_Name (qL (fK.symm.trans h) (he _ _ _ _ _) R F P λv S1 u h1 tk1 h k1 F1 tv P=>sH (s:=up s h1 tk1) (h':=h1) h P F1 (.refl _ _ _) F1.store ?_) (hs env);refine hd.symm▸?_;exact tv
noncomputable def gL (w:World) (n:Nat) (C:ay) (e:Expr):Prop:=∀r S M mu env res,(dE C e r S).p=some res→∀⦃A:Around⦄ ⦃s:Shared⦄ ⦃Q:Value→Shared→Prop⦄ ⦃E:Value→Shared→Prop⦄ ⦃FL:List Env⦄,cq n FL A→FS w.params M FL env mu r S s.heap→aO w aA M mu s (aS w.params M mu s.heap) res Q E→wpAny (model PW w) A (eval e env) Q E s
theorem Jo {e:Expr} {f:AV→List AV→Option ar} {res:ar} (h:wu (dE C e r S).p f=some res) (T:gL w n C e) (R:cq n FL A) (F:FS w.params M FL env mu r S s.heap)
 {Q:Value→Shared→Prop} {Q':Flow→Shared→Prop} (P:eJ w Mc N M mu FL env s res Q' E)
 (k:∀d S1 v h' tk,f d S1=some res→ah M (b9 mu) s.heap h'→ai w.params M h' S1 mu→aS w.params M mu s.heap h' S1 d v→Q v (up s h' tk)):wpAny (model PW w) A (eval e env) Q E s:=by
 obtain⟨ra,e1,e2⟩:=bind_some h;refine T _ _ _ _ _ ra e1 R F ?_;cases ra with
 |exc=>obtain rfl:=Option.some.inj e2;exactλx h' tk x'=>P x h' tk (du aC x')
 |ok d S1=>exactλv h' tk k1 st tv=>k d S1 v h' tk e2 k1 st tv
theorem jb {x:Str} {pn p:Pos} {e:Expr} (hd:eH e=true) (he:gL w n C e):dg w n C k (.Assign [.Name x pn] e p):=λr S res h Mc N M mu env FL A s Q E R c F P=>by
 have hn:Cm e=false:=by cases e<;>first|rfl|exact zC hd
 have hs:swapsWith e (some (.Name x pn)) p.line env=pure false:=by cases e<;>first|rfl|exact zC hd
 replace h:(Bg C (.Name x pn) e r S).p=some res:=h;replace h:=j3 h (λq _=>nomatch hn.symm.trans q) λ_ h=>h
 refine wpAny_Assign_Name (Jo (fK.symm.trans h) he R F P λv S1 u h1 tk1 h k1 st1 nv=>sH h P F k1 st1 ?_) hs;refine hd.symm▸?_;exact nv
end
set_option tactic.hygienic false
section
variable {w:World} {n:Nat} {C:ay} {k:Nat} {M M' Mc:List Addr} {N:Addr→Prop} {mu:Mu} {env:Env} {r r':Loc} {S S':List AV} {A:Around} {s:Shared} {E:Value→Shared→Prop} {FL:List Env} {h h':Heap} {α β:Type}
theorem qq {p:Pos}:dg w n C k (.Return none p):=λr S res h Mc N M mu env FL A s Q E R c F P=>by
 obtain rfl:=Option.some.inj h;exact wpAny_Return_none (P M mu _ s.heap s.toks .refl F.store ⟨rfl,.none⟩)
theorem nU {v:AV} {q:AV×Bool} (h:Dx k S v=some q):(∃i,v= .ref i∧k≤i∧S[i]? =some q.1∧q.2=true)∨(rf v=none∧q=(v,false)):=by
 unfold Dx at h;cases e:rf v with
 |none=>rw[e] at h;exact .inr ⟨rfl,(Option.some.inj h).symm⟩
 |some i=>
  rw[e] at h;dsimp only at h;split at h
  ·rename_i c
   obtain⟨o,ho,rfl⟩:=Option.map_eq_some_iff.mp h;exact .inl ⟨i,jv e,c,ho,rfl⟩
  ·exact zA h
theorem zd {i:Nat} {o:AV} {u:Value} {h:Heap} (c:Ctx Mc N k M mu h) (F:FS w.params M FL env mu r S h) (hi:k≤i) (ho:S[i]? =some o) (tv:ax w.params M mu h (.ref i) u):∃p,u= .ref p.1∧N p.2∧ak w.params (p.2::Mc) h o p∧ai w.params (p.2::Mc) h S mu:=by
 refine cps λG kf=> ?_
 obtain⟨p,hp,rfl⟩:=tv;obtain⟨p',hp',mr⟩:=F.store.get ho;obtain rfl:=Option.some.inj (hp.symm.trans hp');refine kf ?_;have sub:∀a∈p.2::Mc,a∈M:=List.forall_mem_cons.mpr ⟨F.muM _ (gM hp),c.sub⟩;exact⟨p,rfl,c.own i p hi hp,mr.less sub,F.store.less sub⟩
theorem yx {v:AV} {u:Value} {h:Heap} (c:Ctx Mc N k M mu h) (e:rf v=none) (tv:ax w.params M mu h v u):Rep w.params Mc h v u:=aD.less c.sub ((ax.bo (fk e)).mp tv)
theorem El {v:AV} {q:AV×Bool} {u:Value} {h:Heap} (c:Ctx Mc N k M mu h) (F:FS w.params M FL env mu r S h) (hv:Dx k S v=some q) (tv:ax w.params M mu h v u):y2 w.params Mc N h S mu q.1 q.2 u:=by
 rcases nU hv with⟨i,rfl,hi,ho,e⟩|⟨e,rfl⟩
 ·refine cps λG kf=> ?_
  obtain⟨p,e1,np,mr,sr⟩:=zd c F hi ho tv;refine kf ?_;have io:=yy mr;refine⟨y0 io,?_⟩;rw[e,if_pos rfl];unfold sU;refine io.symm▸?_;exact⟨p,e1,np,mr,sr⟩
 ·exact⟨fk e,yx c e tv⟩
theorem AE {p:Pos} {e:Expr} (hnt:fV e=none) (hd:eH e=false) (he:bf w aA n C e):dg w n C k (.Return (some e) p):=λr S res h Mc N M mu env FL A s Q E R c F P=>by
 replace h:(EC C k r S e).p=some res:=h;unfold EC at h;rw[hnt,hd] at h;refine wpAny_Return_some (qL h (he _ _ _ _ _) R F P λv S1 u h1 tk1 h k1 F1 tv P=>aT h λq hv h9=> ?_);obtain rfl:=Option.some.inj h9;rw[Bool.or_false] at P;exact P M mu u h1 tk1 .refl F1.store (El (c.xf (.fM (env:=env) k1)) F1 hv tv)
theorem AP {h0:Heap} {d:AV} {v:Value} (t:aS w.params M mu h0 h S d v):flat d=true:=we t.rep
theorem qA {p:Pos} {e:Expr} (hd:eH e=true) (he:gL w n C e):dg w n C k (.Return (some e) p):=λr S res h Mc N M mu env FL A s Q E R c F P=>by
 have hnt:fV e=none:=by cases e<;>first|rfl|exact zC hd
 replace h:(EC C k r S e).p=some res:=h;unfold EC at h;rw[hnt,hd] at h;refine wpAny_Return_some (Jo h he R F P λv S1 u h1 tk1 h k1 st1 nv=>aT h λq hv h9=> ?_);have fv:=AP nv;obtain rfl:=Option.some.inj h9;rcases nU hv with⟨i,rfl,_⟩|⟨e,rfl⟩
 ·exact zC fv
 rw[Bool.or_true] at P;refine P M mu u h1 tk1 (.fM k1) st1 ⟨fv,?_⟩;rw[if_pos rfl];have sub:∀{x:Addr},∀a∈x::Mc,a∈x::M:=λa q=>(List.mem_cons.mp q).elim (λe=>e▸List.mem_cons_self) λz=>List.mem_cons_of_mem _ (c.sub a z)
 unfold aS at nv;unfold sU;cases io:iJ v with
 |true=>rw[io] at nv;exact nv.elim λp x=>⟨p,x.1,c.new _ x.2.1,x.2.2.1.less sub,x.2.2.2.less sub⟩
 |false=>rw[io] at nv;exact aD.less c.sub nv
theorem Ho {h:Heap} (c:Ctx Mc N k M mu h) (F:FS w.params M FL env mu r S h) {vs:List AV} {us:List Value} (t:cw w.params M mu h vs us):∀{ws:List AV},Fj k S vs=some ws→aP w.params (aG Mc h) ws us:=by
 induction t with
 |nil=>exactλe=>Option.some.inj e▸.nil
 |cons a b ih=>
  intro ws e;obtain⟨q,hq,e⟩:=bind_some e;obtain⟨l,hl,e⟩:=bind_some e;refine Option.some.inj e▸.cons ?_ (ih hl);rcases nU hq with⟨i,rfl,hi,ho,_⟩|⟨e9,rfl⟩
  ·obtain⟨p,rfl,np,mr,_⟩:=zd c F hi ho a;exact nR mr (c.apart _ np)
  ·exact yx c e9 a
theorem GQ {es:List Expr}:∀{r:Loc} {S S':List AV} {vs:List AV},(Fl C es r S).p=some (.ok vs S')→vs.length=es.length:=by
 induction es with
 |nil=>intro r S S' vs h;cases h;rfl
 |cons e es ih=>
  intro r S S' vs h;obtain⟨ra,_,h⟩:=bind_some h;cases ra with
  |exc=>cases h
  |ok v S1=>
   obtain⟨rb,e2,h⟩:=bind_some h;cases rb with
   |exc=>cases h
   |ok vs S2=>cases h;exact congrArg (·+1) (ih e2)
theorem Tr.self {XR:i7} {V:Heap→List AV→α→β→Prop} {m:Option (Res α)} {t:Sem β} (T:Tr w XR n M mu env r S V m t):Tr w XR n M mu env r S (λh S d v=>V h S d v∧m=some (.ok d S)) m t:=λres e A s Q E FL R F P=>by
 refine T res e R F ?_;cases res with
 |ok d S'=>exactλv h' tk k st tv=>P v h' tk k st ⟨tv,e⟩
 |exc=>exact P
theorem p8 {p q:Pos} {es:List Expr} {cc:Nat} (hes:es.length<30) (he:g7 w aA n C es):dg w n C k (.Return (some (.Tuple es cc p)) q):=λr S res h Mc N M mu env FL A s Q E R c F P=>
 wpAny_Return_some (wpAny_Tuple (qL h (Tr.self (he _ _ _ _ _ _)) R F P λvs S1 us h1 tk1 h k1 F1 tv P=>aT h λws hw h9=>by
  obtain rfl:=Option.some.inj h9;have c1:=c.xf (.fM (env:=env) k1);have rl:=Ho c1 F1 tv.1 hw;have hus:us.length<30:=by rw[←F2.length tv.1,GQ tv.2];exact hes
  refine⟨Nat.le_trans (Nat.le_of_lt hus) (by decide),?_⟩;have kp:aF [] h1 (h1.push (bC us.toArray 0)):=aH _ _ _;exact P M mu _ (h1.push (bC us.toArray 0)) tk1 (.fM kp.m0) (F1.store.keep kp) ⟨rfl,ig (λa m=>F1.live a (c1.sub a m)) rl (by rw[rl.length];exact Nat.le_trans (Nat.le_of_lt hus) (by decide))⟩))
theorem uJ (F:FS w.params M FL env mu r S h) {d:AV} {o:Obj} {h0:Heap} (old:∀a,h.get? a=none→h0.get? a=none) (io:iJ d=true) (m:ak w.params (h.objs.size::M) (h.push o) d (h.objs.size,h.objs.size)):aS w.params M mu h0 (h.push o) S d (.ref h.objs.size):=by
 have hn:=aN h;unfold aS;refine io.symm▸?_;exact⟨(h.objs.size,h.objs.size),rfl,old _ hn,m,F.store.pj (W:=[]) (aH [] h o).m0 (λa m=>zE m) hn λp _ m=>zE m⟩
theorem Au {es:List Expr} {p:Pos} (hes:g7 w aA n C es):gL w n C (.List es p):=λr S M mu env res h A s Q E FL R F P=>
 wpAny_List (aw h (hes _ _ _ _ _ _) R F P λds S1 vs h1 tk1 h k1 F1 tx P=>aQ h λf h=>gV (Φ:=λd=>d= .lst ds∧ds.length≤ao) h P (.one λc=>⟨rfl,of_decide_eq_true c⟩) λd hd P=>by
  obtain⟨rfl,hl⟩:=hd;have rl:=cw.rep tx f;refine⟨Nat.le_trans (rl.length▸hl) (by decide),?_⟩;have kp:aF [] h1 (h1.push (aV vs.toArray 0)):=aH _ _ _;exact P _ (h1.push (aV vs.toArray 0)) tk1 kp.m0 (F1.store.keep kp) (uJ F1 (λ_ e=>k1.old e) rfl ⟨rfl,vs.toArray,0,Heap.get?_push_size _ rfl,aP.mono (fc (kp.aG (M:=M) λ_ m=>zE m) (aN _)) rl,hl⟩))
theorem xR {e:Expr} (hd:gL w n C e):bf w aA n C e:=λr S M mu env res h A s Q E FL R F P=>by
 refine hd _ _ _ _ _ _ h R F ?_;cases res with
 |exc=>exact P
 |ok d S'=>exactλv h' tk k st nv=>P v h' tk k st (.rep (tP F.live nv.rep))
theorem FS.hide (F:FS w.params M FL env mu r S h) {o:Obj} (fo:o.isFreed=false):FS w.params (h.objs.size::M) FL env mu r S (h.push o):=by
 have kp:aF [] h (h.push o):=aH _ _ _;have hn:=aN h;have g:Ge (aG M h) (aG (h.objs.size::M) (h.push o)):=fc (kp.aG λ_ m=>zE m) hn;have sub:∀a∈M,a∈h.objs.size::M:=λa m=>List.mem_cons_of_mem _ m
 have km:ah M (b9 mu) h (h.push o):=kp.m0;have F1:=F.go km (F.store.keep kp);obtain⟨m,hm,hx⟩:=F.names;exact⟨F.kind,F.glo,F.blt,⟨m,km.ns F.jm hm,λx b e=>⟨(hx x b e).1,aX.lift (hx x b e).2 (λ_ _ e=>e) g sub λe1 e2=>km.cell (F.gn e1) e2⟩⟩,F.store.pj (W:=[]) kp.m0 (λa m=>zE m) hn (λp _ m=>zE m),sub _ F.locM,λa m=>sub a (F.muM a m),λa m=>sub a (F.cellM a m),F.apart,F.ground.trans g,List.forall_mem_cons.mpr ⟨⟨o,Heap.get?_push_size _ fo⟩,F1.live⟩,
  λe m=>have⟨kk,L,e1,e2,e3⟩:=F1.frm e m;⟨kk,L,e1,sub _ e2,e3⟩,F.own⟩
theorem ah.hide {W:List Addr} {a:Addr} {h0 h1 h2:Heap} (k0:aF [] h0 h1) (hn:h0.get? a=none) (k:ah (a::M) W h1 h2):ah M W h0 h2:=λb o e=>by
 obtain⟨o1,e1,f1,g1⟩:=k b o (k0 b o (λm=>zE m) e);exact⟨o1,e1,f1,λnb=>(g1 nb).imp (λx=>x) λx=>⟨(List.mem_cons.mp x.1).resolve_left λq=>(nomatch (e.symm.trans (q▸hn):some o=none)),x.2⟩⟩
theorem ah.trans' {W:List Addr} {a:Addr} {h0 h1 h2:Heap} (k:ah M W h0 h1) (kp:aF [a] h1 h2) (hn:h0.get? a=none):ah M W h0 h2:=λb o e=>by
 obtain⟨o1,e1,f1,g1⟩:=k b o e;exact⟨o1,kp b o1 (λz=>by rw[List.mem_singleton.mp z,hn] at e;exact zA e) e1,f1,g1⟩
theorem FS.Rb (F:FS w.params M FL env mu r S h) {a:Addr} (kp:ah M [a] h h') (ha:a∈M) (hf:a∉aE env mu):FS w.params M FL env mu r S h':=by
 have aM:∀b∈[a],b∈M:=λb m=>List.mem_singleton.mp m▸ha
 have g:=kp.aG aM;have nf:∀{b},b∈aE env mu→b∉[a]:=λm z=>hf (List.mem_singleton.mp z▸m)
 obtain⟨m,hm,hx⟩:=F.names;exact⟨F.kind,F.glo,F.blt,⟨m,kp.ns (nf List.mem_cons_self) hm,λx b e=>⟨(hx x b e).1,aX.lift (hx x b e).2 (λ_ _ e=>e) g (λ_ m=>m) λ{c v} e1 e2=>kp.cell (nf (bx.mpr (.inr (.inl (List.mem_map.mpr ⟨(x,c),mem_of_lookup e1,rfl⟩))))) e2⟩⟩,F.store.iF kp aM λp m=>nf (aC _ (List.mem_map.mpr ⟨p,m,rfl⟩)),F.locM,F.muM,F.cellM,F.apart,F.ground.trans g,F.live.keep kp,kp.fr F.frm,F.own⟩
theorem vD {t:Expr} {I:Addr} {v:Value} {Q:Unit→Shared→Prop} {o:Obj} {T:String} (e1:s.heap.get? I=some o) (e2:o.cls= .type T) (e3:ownsTuple T=false) (q:Q () s):wpAny (model PW w) A (letOwnedTupleGo t (.ref I) v) Q E s:=by
 unfold ownsTuple at e3;rw[Bool.or_eq_false_iff] at e3;have body:∀a:Addr,wpAny (model PW w) A (do
  let o←load I
  match o.cls,o.data with
  | .type n,.fields vs=>
   if ["enumerate","zip","dict_itemiterator","dict_reverseitemiterator","odict_iterator","itertools.zip_longest","itertools.pairwise"].contains n&&vs[0]? ==some (rawInt a) then
    rule "for.unpacks-the-owned-tuple"
    updateField I 0 .none
  |_,_=>pure ()) Q E s:=by
  intro a;refine wpAny_bind (wpAny_load e1 ?_);refine e2.symm▸?_;cases hd:o.data<;>first|exact wpAny_pure q|skip
  dsimp only;rw[if_neg (by rw[e3.2,Bool.false_and];exactλq=>zC q)];exact wpAny_pure q
 unfold letOwnedTupleGo;cases t<;>first|exact wpAny_pure q|(cases v<;>first|exact wpAny_pure q|exact body _)
theorem ez {t:Expr} {x:Str} (h:ic t=some x):∃p,t= .Name x p:=by
 by_cases q:t.ctorIdx=23
 ·exact Expr.Name.elim (motive_1:=λt=>ic t=some x→∃p,t= .Name x p) t q (λ_ p h=>⟨p,Option.some.inj h▸rfl⟩) h
 ·exact zA ((show ic t=none from dif_neg q).symm.trans h)
theorem iN {t:Expr} {ts:List Expr} (h:fV t=some ts):∃c p,t= .Tuple ts c p:=by
 by_cases q:t.ctorIdx=25
 ·exact Expr.Tuple.elim (motive_1:=λt=>fV t=some ts→∃c p,t= .Tuple ts c p) t q (λ_ c p h=>⟨c,p,Option.some.inj h▸rfl⟩) h
 ·exact zA ((show fV t=none from dif_neg q).symm.trans h)
noncomputable def C0:ay:=⟨λ_ _ _=>none,λ_=>none,λ_ _=>none,[]⟩
theorem oO {ts:List Expr}:∀{vs:List AV} {r r':Loc},bindNames ts vs r=some r'→ts.length=vs.length∧(MA C0 ts vs r S).p=some (.ok r' S)∧(∀t∈ts,jc w n C0 t)∧bN ts=true:=by
 induction ts with
 |nil=>
  intro vs r r' h;cases vs with
  |nil=>obtain rfl:=Option.some.inj h;exact⟨rfl,rfl,λ_ m=>(zE m),rfl⟩
  |cons=>exact zA h
 |cons t ts ih=>
  intro vs r r' h;cases vs with
  |nil=>exact zA h
  |cons v vs=>
  refine cps λG kf=> ?_
  obtain⟨x,hx,h⟩:=bind_some h;obtain⟨p,rfl⟩:=ez hx;obtain⟨r1,h1,h2⟩:=bind_some h;obtain⟨a,b,c,d⟩:=ih h2;refine kf ?_;refine⟨congrArg (·+1) a,?_,List.forall_mem_cons.mpr ⟨jX,c⟩,d⟩;show bD (((dF r x v).bind λa=>some (.ok a S))) _=_;refine h1.symm▸?_;exact b
theorem FO {t:Expr} {v:AV} {u:Value} {Q:Unit→Shared→Prop} (hb:bindTo t v r=some r') (R:cq n FL A) (F:FS w.params M FL env mu r S s.heap) (rv:Rep w.params M s.heap v u)
 (q:∀h' tk,ah M (aE env mu) s.heap h'→FS w.params M FL env mu r' S h'→Q () (up s h' tk)):wpAny (model PW w) A (assign t env u) Q E s:=by
 unfold bindTo at hb;cases e:ic t with
 |some x=>
  rw[e] at hb;refine cps λG kf=> ?_
  obtain⟨p,rfl⟩:=ez e;refine kf ?_;exact wpAny_assign_Name (cG F hb ((ax.bo (cT rv)).mpr rv) q)
 |none=>
  rw[e] at hb;refine cps λG kf=> ?_
  obtain⟨ts,e1,hb⟩:=bind_some hb;obtain⟨vs,e2,hb9⟩:=bind_some hb;obtain⟨c,p,rfl⟩:=iN e1;obtain rfl:=fR e2;obtain⟨a,b,c,d⟩:=oO (w:=w) (n:=n) (S:=S) hb9;refine kf ?_;exact qS c d a b R F rv q
theorem tG {x:Value} {W:List Addr} (R:cq n FL A) (F:FS w.params M FL env mu r S h) {tk:Nat} (x1:aA.X M W h h' x) (q:∀h2,aA.X M W h h2 x→E x (up s h2 tk)):notedBy (model PW w) A env (λe s'=>cameBackBy (model PW w) A env E e s') x (up s h' tk):=by
 refine cps λG kf=> ?_
 obtain⟨e0,outer,L,rfl,f0,f1⟩:=F.own;refine kf ?_;refine nP (s:=up s h' tk) R.frames F.frm f0 f1 x1 λh2 x2=> ?_
 unfold cameBackBy;refine wpAny_bind (yO (s:=up s h2 tk) x2 λT=> ?_);rw[if_neg (by simp)];exact fZ (s:=up s h2 tk) x2 λh3 x3=>q h3 x3.x
end
set_option tactic.hygienic false
noncomputable abbrev Ju (pr:Params) (P:Heap):List (AV×AV)→List (Value×Value)→Prop:=F2 λp q=>aD pr P p.1 q.1∧aD pr P p.2 q.2
noncomputable def nN (env:Env) (pos:Pos):List Expr→List Expr→List (Sem Value×Sem Value)
 |[],_=>[]
 |k::ks,es=>match es with
  |[]=>[]
  |e::es=>(eval k env,do let x←eval e env;standAt pos;pure x)::nN env pos ks es
section
variable {w:World} {n:Nat} {C:ay} {M M' Mc:List Addr} {mu:Mu} {env:Env} {r r':Loc} {S S':List AV} {A:Around} {s:Shared} {E:Value→Shared→Prop} {FL:List Env} {h h':Heap}
theorem OO {pos:Pos} {es:List Expr}:∀{ks:List Expr},(∀k∈ks,bf w aA n C k)→(∀e∈es,bf w aA n C e)→∀r S M mu env,Tr w aA n M mu env r S (λh _ d v=>Ju w.params (aG M h) d v) (QF C es (Qk C (ks.map some)) r S).p (evalPairs (nN env pos ks es)):=by
 induction es with
 |nil=>
  intro ks _ _ r S M mu env res h A s Q E FL R F P;cases ks with
  |cons=>exact zA h
  |nil=>obtain rfl:=Option.some.inj h;exact wpAny_pure (P.here F.store .nil)
 |cons e es ih=>
  intro ks hk he r S M mu env res h A s Q E FL R F P;cases ks with
  |nil=>exact zA h
  |cons k ks=>
  refine wpAny_bind (aw h (hk k List.mem_cons_self _ _ _ _ _) R F P λx S1 u h1 tk1 h k1 F1 tx P=> ?_);refine wpAny_bind (wpAny_holding (wpAny_bind (aw (s:=up s h1 tk1) h (he e List.mem_cons_self _ _ _ _ _) R F1 P λy S2 v h2 tk2 h k2 F2 ty P=>wpAny_bind (wpAny_standAt (wpAny_pure (aQ h λf h=> ?_))))));have f:=Bool.and_eq_true_iff.mp f;refine wpAny_bind (wpAny_holding (aw (s:=up s h2 tk2) h (ih (λz m=>hk z (List.mem_cons_of_mem _ m)) (λz m=>he z (List.mem_cons_of_mem _ m)) _ _ _ _ _) R F2 P λl S3 vs h3 tk3 h k3 F3 tl P=> ?_));exact wpAny_pure ((aZ h P).here F3.store (.cons ⟨aD.mono ((F1.bL k2).trans (F2.bL k3)) ((ax.bo f.1).mp tx),aD.mono (F2.bL k3) ((ax.bo f.2).mp ty)⟩ tl))
theorem HQ {x:AV} (h:wx x=true):x= .str (i5 x):=by
 obtain⟨y,e⟩:=Option.isSome_iff_exists.mp h;obtain rfl:=eR e;rfl
theorem HZ {P:Heap} {kv:List (AV×AV)} {vs:List (Value×Value)} (t:Ju w.params P kv vs):kv.all (λp=>wx p.1)=true→∃kvs:List (Str×Value),Carries (jh w).knd vs kvs∧(kv.map λp=>(i5 p.1,p.2)).map (·.1)=kvs.map (·.1)∧aP w.params P ((kv.map λp=>(i5 p.1,p.2)).map (·.2)) (kvs.map (·.2)):=by
 induction t with
 |nil=>exactλ_=>⟨[],trivial,rfl,.nil⟩
 | @cons p q l m a b ih=>
  intro e;have e:=Bool.and_eq_true_iff.mp e;obtain⟨kvs,h1,h2,h3⟩:=ih e.2;obtain⟨k,v⟩:=p;obtain⟨u,z⟩:=q;have a1:aD w.params P k u:=a.1;rw[HQ (show wx k=true from e.1)] at a1;obtain⟨t,rfl⟩:=(jh w).rep a1;exact⟨(i5 k,z)::kvs,⟨(jh w).good _ t,rfl,h1⟩,congrArg (i5 k::·) h2,.cons a.2 h3⟩
theorem xI (hS:∃a o,(H1 w.params).get? a=some o∧sysModules≤a) {p:Pos}:gL w n C (.Dict [] [] p):=λr S M mu env res h A s Q E FL R F P=>by
 obtain rfl:=Option.some.inj h;refine wpAny_Dict_empty ?_;have kp:aF [] s.heap (s.heap.push (aU #[] 0)):=aH _ _ _;exact P _ (s.heap.push (aU #[] 0)) s.toks kp.m0 (F.store.keep kp) (uJ F (λ_ e=>e) rfl ⟨rfl,Nat.ne_of_gt (xe hS F),#[],0,Heap.get?_push_size _ rfl,.nil,.inl rfl,List.nodup_nil⟩)
theorem K9 {pos:Pos} {ks:List Expr}:∀{es:List Expr},ks.length=es.length→(evalEachOpt (ks.map some) env).zip ((evalEach es env).map λv=>do let x←v;standAt pos;pure x)=(nN env pos ks es).map (λp=>(some p.1,p.2))∧(nN env pos ks es).length=ks.length:=by
 induction ks with
 |nil=>
  intro es h;cases es with
  |nil=>exact⟨rfl,rfl⟩
  |cons=>exact zH h
 |cons k ks ih=>
  intro es h;cases es with
  |nil=>exact zI h
  |cons e es=>
   obtain⟨a,b⟩:=ih (Nat.succ.inj h);exact⟨congrArg (List.cons (some (eval k env),(do let x←eval e env;standAt pos;pure x:Sem Value))) a,congrArg (·+1) b⟩
theorem zT (hS:∃a o,(H1 w.params).get? a=some o∧sysModules≤a) {p:Pos} {ks es:List Expr} (hl:ks.length=es.length) (h0:ks.isEmpty=false) (h15:ks.length≤15)
 (hk:∀k∈ks,bf w aA n C k) (he:∀e∈es,bf w aA n C e):gL w n C (.Dict (ks.map some) es p):=λr S M mu env res h A s Q E FL R F P=>by
 refine cps λG kf=> ?_
 obtain⟨l1,l2⟩:=K9 (env:=env) (pos:=p) hl;refine kf ?_;have kp0:aF [] s.heap (s.heap.push (aU #[] 0)):=aH _ _ _;have hn:=aN s.heap;have F0:=F.hide (o:=aU #[] 0) rfl;refine wpAny_Dict_pairs (knd:=(jh w).knd) l1 (λq=>by
  rw[q] at l2;rw[List.eq_nil_of_length_eq_zero l2.symm] at h0;exact zD h0) (l2▸h15) ?_
 refine cps λG kf=> ?_
 obtain⟨ra,e1,h⟩:=bind_some h;refine kf ?_;refine OO (pos:=p) hk he _ _ (s.heap.objs.size::M) mu env ra e1 (s:=up s (s.heap.push (aU #[] 0)) s.toks) R F0 ?_;cases ra with
 |exc=>
  obtain rfl:=Option.some.inj h;exactλx h' tk x'=>P x h' tk ⟨ah.hide kp0 hn x'.1,x'.2.elim λtr f=>⟨tr,f.pre λa e=>ah.old (M:=M) (W:=[]) kp0.m0 e⟩⟩
 |ok kv S1=>
  intro vs h1 tk1 k1 st1 tv;refine gV (Φ:=λd=>d= .dct (fU .str (kv.map λp=>(i5 p.1,p.2)) ([],[])).1 (fU .str (kv.map λp=>(i5 p.1,p.2)) ([],[])).2∧kv.all (λp=>wx p.1)=true) h P (.ite (λc=> .nil ⟨rfl,c.2⟩) λ_=> .none) λd hd P=> ?_
  refine cps λG kf=> ?_
  obtain⟨rfl,hs⟩:=hd;obtain⟨kvs,c1,c2,c3⟩:=HZ tv hs;obtain⟨ks',vs',d',f1,f2,f3,f4,f5⟩:=kC (jh w) c2 c3 (.nil (R:=aD w.params (aG (s.heap.objs.size::M) h1))) (ks:=[]) (vs:=[]) rfl List.nodup_nil;refine kf ?_;have e0:(s.heap.push (aU #[] 0)).get? s.heap.objs.size=some (aU #[] 0):=Heap.get?_push_size _ rfl;have nw:s.heap.objs.size∉b9 mu:=λm=>F.live.new (F.muM _ m)
  have e1:=k1.get nw e0 pQ;refine⟨kvs,c1,⟨_,#[],0,e1,⟨rfl,rfl,rfl⟩,rfl,λx hx=>absurd hx (by simp),.nil,List.nodup_nil⟩,λh2 D sb=> ?_⟩;have kp2:=b5 sb;rw[show merged [] kvs=ks'.zip vs' from f2] at D;have g2:Ge (aG (s.heap.objs.size::M) h1) (aG (s.heap.objs.size::M) h2):=kp2.aG λb m=>List.mem_singleton.mp m▸List.mem_cons_self
  refine cps λG kf=> ?_
  obtain⟨es',m',e',r',ko⟩:=lG (jh w) (P:=aG (s.heap.objs.size::M) h2) (d:=d') D (by rw[pX f4];exact aP.mono g2 f3);refine kf ?_;have e5:((ks'.zip vs').map λp=>(jh w).inj p.1)=ks'.map .str:=(List.map_map (l:=ks'.zip vs') (f:=Prod.fst) (g:=(jh w).inj)).symm.trans (congrArg (List.map AV.str) (eu f4));rw[e5] at r' ko;have st2:ai w.params (s.heap.objs.size::M) h2 S1 mu:=F2.walk st1 λ_ p m t=>t.jY g2 λo e=>kp2 _ _ (λz=>nw (List.mem_singleton.mp z▸List.mem_map.mpr ⟨p,m,rfl⟩)) e
  have hf:fU AV.str (kv.map λp=>(i5 p.1,p.2)) ([],[])=(ks'.map .str,d'):=f1;rw[hf] at P;exact P _ h2 _ ((ah.hide kp0 hn k1).trans' kp2 hn) (st2.less λa m=>List.mem_cons_of_mem _ m) ⟨(s.heap.objs.size,s.heap.objs.size),rfl,hn,⟨rfl,Nat.ne_of_gt (xe hS F),es',m',e',r',ko⟩,st2⟩
end
set_option tactic.hygienic false
section
variable {w:World} {n:Nat} {C:ay} {k:Nat} {M M' Mc:List Addr} {N:Addr→Prop} {mu mu':Mu} {env:Env} {r r':Loc} {S S':List AV} {A:Around} {s:Shared} {E:Value→Shared→Prop} {FL:List Env} {h h':Heap} {I:Addr}
theorem bJ.ge (g:bJ M mu env h M' mu' h') (fw:∀a∈aE env mu,a∈M):Ge (aG M h) (aG M' h'):=λb o e=>by
 obtain⟨nb,e⟩:=af.mp e;obtain⟨o1,e1,_,g1⟩:=g.keep b o e;rcases g1 (λm=>nb (fw b m)) with rfl|⟨m,_⟩
 ·exact af.mpr ⟨λm=>(g.fresh b m).elim nb λz=>(zB (e.symm.trans z)),e1⟩
 ·exact absurd m nb
theorem FS.sI (F:FS w.params M FL env mu r S h) (hn:h.get? I=none):∀e∈FL,e.frame≠some I:=λe m q=>by
 obtain⟨_,L,e1,_,o,e3,_⟩:=F.frm e m;obtain rfl:=Option.some.inj (q.symm.trans e1);cases hn.symm.trans e3
theorem aX.MP {M':List Addr} {x:Str} {b:LV} {m:Str→Option Value} (t:aX w.params M mu env h m x b) (g:Ge (aG M h) (aG M' h')) (k:∀{c v},env.cells.lookup x=some c→c∈M→h.IsCell c v→c∈M'∧h'.IsCell c v):aX w.params M' mu env h' m x b:=by
 have key:∀q,gz q w.params M mu env h x b.v→gz q w.params M' mu env h' x b.v:=λq ⟨a,c,cv,e1,e2,e3,e4⟩=>⟨a,c,cv,e1,(k e1 e2 e3).1,(k e1 e2 e3).2,dJ.lift e4 (λ_ _ e=>e) g⟩
 unfold aX at*;obtain⟨q,w⟩:=b;cases q with
 |loc=>exact⟨t.1,dJ.lift t.2 (λ_ _ e=>e) g⟩
 |cell=>exact key _ t
 |free=>exact key _ t
 |glob=>exact t
theorem FS.drop (F:FS w.params M FL env mu r S h) (kp:aF [I] h h') (hI:I∈M) (hf:I∉aE env mu) (nfl:∀e∈FL,e.frame≠some I):FS w.params (M.filter (· !=I)) FL env mu r S h':=by
 have ne:∀{a},a∈aE env mu→a≠I:=λm z=>hf (z▸m)
 have sub:∀{a},a∈M→a≠I→a∈M.filter (· !=I):=λm z=>List.mem_filter.mpr ⟨m,bne_iff_ne.mpr z⟩
 have k:∀{a o},a≠I→h.get? a=some o→h'.get? a=some o:=λz e=>kp _ _ (λm=>z (List.mem_singleton.mp m)) e
 have g:Ge (aG M h) (aG (M.filter (· !=I)) h'):=λb o e=>af.mpr ⟨λm=>(af.mp e).1 (List.mem_filter.mp m).1,k (λz=>(af.mp e).1 (z▸hI)) (af.mp e).2⟩
 have I9:env.locals∈aE env mu:=List.mem_cons_self;have inC:∀{a},a∈env.cells.map (·.2)→a∈aE env mu:=λm=>bx.mpr (.inr (.inl m))
 have inW:∀{a},a∈b9 mu→a∈aE env mu:=aC _;refine cps λG kf=> ?_
 obtain⟨m,⟨o,es,ep,ho,hd,rest⟩,hx⟩:=F.names;refine kf ?_;exact⟨F.kind,F.glo,F.blt,⟨m,⟨o,es,ep,k (ne I9) ho,hd,rest⟩,λx b e=>⟨(hx x b e).1,aX.MP (hx x b e).2 g λ{c v} e1 e2 e3=>have nc:=ne (inC (List.mem_map.mpr ⟨(x,c),mem_of_lookup e1,rfl⟩));⟨sub e2 nc,e3.elim λo y=>⟨o,k nc y.1,y.2⟩⟩⟩⟩,F2.walk F.store λ_ p m t=>t.jY g λo e=>k (ne (inW (List.mem_map.mpr ⟨p,m,rfl⟩))) e,
  sub F.locM (ne I9),λa m=>sub (F.muM a m) (ne (inW m)),λa m=>sub (F.cellM a m) (ne (inC m)),F.apart,F.ground.trans g,λa m=>have m:=List.mem_filter.mp m;(F.live a m.1).elim λo e=>⟨o,k (bne_iff_ne.mp m.2) e⟩,
  λe m=>have⟨kk,L,e1,e2,o,e3,e4⟩:=F.frm e m;have z:L≠I:=λz=>nfl e m (e1.trans (congrArg some z));⟨kk,L,e1,sub e2 z,o,k z e3,e4⟩,F.own⟩
theorem tH {a b:Addr} {o:Obj} (hI:h.get? a=none) (e:h.get? b=some o):b∉[a]:=λm=>by rw[List.mem_singleton.mp m,hI] at e;exact zA e
theorem bJ.drop {h1 h2:Heap} (g:bJ M mu env h M' mu' h1) (kp:aF [I] h1 h2) (hI:h.get? I=none) (lv:bG M h):bJ M mu env h (M'.filter (· !=I)) mu' h2:=
 ⟨λa m=>List.mem_filter.mpr ⟨g.sub a m,bne_iff_ne.mpr λz=>lv.fresh hI (z▸m)⟩,g.more,λa m=>g.fresh a (List.mem_filter.mp m).1,λb o e=>have⟨o1,e1,x⟩:=g.keep b o e;⟨o1,kp b o1 (tH hI e) e1,x⟩⟩
theorem bJ.Rj {h1 h2:Heap} (g:bJ M mu env h M' mu' h1) (k:ah M' [I] h1 h2) (hI:h.get? I=none):bJ M mu env h M' mu' h2:=by
 refine⟨g.sub,g.more,g.fresh,λb o e=> ?_⟩;refine cps λG kf=> ?_
 obtain⟨o1,e1,f1,g1⟩:=g.keep b o e;obtain⟨o2,e2,f2,g2⟩:=k b o1 e1;refine kf ?_;refine⟨o2,e2,λq=>f2 (f1 q),λnb=> ?_⟩;rcases g2 (tH hI e) with rfl|⟨m,f,sl,rfl⟩
 ·exact g1 nb
 ·rcases g1 nb with rfl|⟨m1,f1',sl1,rfl⟩
  ·exact .inr ⟨(g.fresh b m).elim id λz=>(zB (e.symm.trans z)),f,sl,rfl⟩
  ·exact .inr ⟨m1,f1',sl,rfl⟩
theorem y9 {o:Obj} {T:String} (e:o.cls= .type T) (h:ownsTuple T=false):¬fu o:=λf=>by
 have:=f.1;rw[e] at this;cases this;exact absurd h (by decide)
theorem bJ.Ri {o:Obj} (g:bJ M mu env h M' mu' h') (n:I∉aE env mu) (e:h.get? I=some o):I∉aE env mu':=λm=>by
 obtain⟨l,rfl,fr⟩:=g.more;refine(bx.mp m).elim (λm=>n (bx.mpr (.inl m))) λm=>m.elim (λm=>n (bx.mpr (.inr (.inl m)))) λm=> ?_
 obtain⟨p,mp,q⟩:=List.mem_map.mp m;exact(List.mem_append.mp mp).elim (λmp=>n (aC _ (List.mem_map.mpr ⟨p,mp,q⟩))) λmp=>by have z:=fr p mp;rw[q,e] at z;exact zB z
theorem yE {α:Type} {xs:List α} {i:Nat} {d:α} (h:xs[i]? =some d):xs.drop i=d::xs.drop (i+1):=by
 obtain⟨hh,e⟩:=List.getElem?_eq_some_iff.mp h;rw[List.drop_eq_getElem_cons hh,e]
inductive Pe (w:World) (FL:List Env) (M:List Addr) (mu:Mu) (env:Env) (s:Shared) (I:Addr) (len:Nat) (St:Nat→Heap→Prop) (f:Nat→Loc→List AV→Option ar) (res:ar):Nat→Shared→Prop
 |mk (i:Nat) {r:Loc} {S:List AV} {M':List Addr} {mu':Mu} {h':Heap} {tk:Nat}:i≤len→bJ M mu env s.heap M' mu' h'→FS w.params M' FL env mu' r S h'→I∈M'→I∉aE env mu'→St i h'→f i r S=some res→Pe w FL M mu env s I len St f res (len -i) (up s h' tk)
theorem FW {t:Expr} {b:List Stmt} {xs:List AV} {fp:List Addr} {Pit:Nat→Value→Prop} {St:Nat→Heap→Prop} {res:ar} {o:Obj} {Q:Flow→Shared→Prop} {body:Loc→List AV→Option ar}
 (hb:Km w n k body (PySem.execs b)) (h:forL (bindTo t) body xs r S=some res) (R:cq n FL A) (c:Ctx Mc N k M mu s.heap) (F:FS w.params M FL env mu r S s.heap) (P:eJ w Mc N M mu FL env s res Q E)
 (hI:I=s.heap.objs.size) (fo:o.isFreed=false) (IT:xA w A M s.heap I fp xs Pit St) (st0:St 0 (s.heap.push o)):
 codeAny (model PW w) A (.forLoop t (.ref I) b [] env) (λr s'=>match r with| .ok f=>Q f s'| .error e=>cameBackBy (model PW w) A env E e s') (up s (s.heap.push o) s.toks):=by
 have hn:s.heap.get? I=none:=IT.new;have F0:FS w.params (I::M) FL env mu r S (s.heap.push o):=hI▸F.hide fo;have g0:bJ M mu env s.heap (I::M) mu (s.heap.push o):=⟨λa m=>List.mem_cons_of_mem _ m,⟨[],(List.append_nil _).symm,λ_ m=>zE m⟩,λa m=>(List.mem_cons.mp m).elim (λe=> .inr (e▸hn)) .inl,(aH [] _ _).m0⟩;refine codeAny_forLoop_any (Pe w FL M mu env s I xs.length St (λi=>forL (bindTo t) body (xs.drop i)) res) ?_ xs.length (.mk 0 (Nat.zero_le _) g0 F0 List.mem_cons_self (λm=>F.live.fresh hn (F.fj I m)) st0 h);intro m s' iv;cases iv with
 | @mk i r S M' mu' h1 tk1 hi g1 F1 IM If st hr=>
 obtain⟨oI,TI,eI,cI,pI⟩:=IT.plain i h1 st;by_cases hlt:i<xs.length
 ·refine IT.walk.item i (up s h1 tk1) _ _ hlt st λv h2 tk2 pv st2 kp=> ?_
  dsimp only;obtain⟨oI2,TI2,eI2,cI2,pI2⟩:=IT.plain (i+1) h2 st2;have nf2:=y9 cI2 pI2;obtain⟨d,hd,rd⟩:=IT.item i v pv hlt;rw[yE hd] at hr;obtain⟨r1,b1,hr⟩:=bind_some hr;obtain⟨rb,b2,b3⟩:=bind_some hr;have kI:ah M' [I] h1 h2:=aF.m1 kp eI2 λo e f=>absurd f (Option.some.inj (eI.symm.trans e)▸y9 cI pI)
  have F2:=F1.Rb kI IM If;have g2:=g1.Rj kI hn;refine vD (s:=up s h2 tk2) eI2 cI2 pI2 ?_;refine FO (s:=up s h2 tk2) b1 R F2 (aD.mono (g2.ge F.fj) rd) λh3 tk3 k3 F3=> ?_
  have g3:=g2.trans (.of_keep k3);have eI3:h3.get? I=some oI2:=k3.get If eI2 nf2;refine hb _ _ rb b2 (s:=up s h3 tk3) R (c.xf g3) F3 ?_;cases rb with
  |aY r4 S4=>
   intro M4 mu4 h4 tk4 g4 F4;have gg:bJ M' mu' env h2 M4 mu4 h4:=(bJ.of_keep k3).trans g4;refine⟨xs.length -(i+1),Nat.sub_succ_lt_self _ _ hlt,.mk (i+1) hlt (g3.trans g4) F4 (g4.sub _ IM) (g4.Ri If eI3) ?_ b3⟩;refine IT.walk.frame (i+1) h2 h4 st2 λa ma o ea=> ?_
   rcases IT.fp a ma with rfl|e|⟨o',e'⟩
   ·obtain rfl:=Option.some.inj (eI2.symm.trans ea);exact g4.keep.get If eI3 nf2
   ·rw[e] at hlt;exact absurd hlt (Nat.not_lt_zero _)
   ·have v2:=af.mp (g2.ge F.fj _ _ e');obtain rfl:=Option.some.inj (ea.symm.trans v2.2);exact(af.mp (gg.ge F2.fj _ _ (af.mpr v2))).2
  |brk r4 S4=>
   obtain rfl:=Option.some.inj b3;exactλM4 mu4 h4 tk4 g4 F4=>P _ _ h4 tk4 (g3.trans g4) F4
  |ret v4 fr4 S4=>
   obtain rfl:=Option.some.inj b3;exactλM4 mu4 u4 h4 tk4 g4 st4 rp=>P _ _ _ h4 tk4 (g3.trans g4) st4 rp
  |exc=>
   obtain rfl:=Option.some.inj b3;exactλx h4 tk4 x4=>tG R F (g3.x x4) λh5 x5=>P x h5 tk4 x5
 ·obtain rfl:=Nat.le_antisymm hi (Nat.le_of_not_lt hlt);refine IT.walk.done (up s h1 tk1) _ _ st λh2 tk2 kp=> ?_
  refine wpAny_execs_nil ?_;rw[List.drop_length] at hr;obtain rfl:=Option.some.inj hr;exact P _ mu' h2 tk2 (g1.drop kp hn F.live) (F1.drop kp IM If (F.sI hn))
theorem mU {x:AV} {xs:List AV} {u:Value} {s:Shared} (hx:itemsOf S x=some xs) (st:ai w.params M s.heap S mu) (tv:ax w.params M mu s.heap x u):∃o,items o=some xs∧aq w.params M s.heap o u∧(xs=[]∨aD w.params (aG M s.heap) o u):=by
 unfold itemsOf at hx;cases e:rf x with
 |none=>rw[e] at hx;exact⟨x,hx,aq.of st tv (gv (fk e)),.inr ((ax.bo (fk e)).mp tv)⟩
 |some i=>
  rw[e] at hx;refine cps λG kf=> ?_
  obtain rfl:=jv e;obtain⟨l,h1,h2⟩:=bind_some hx;obtain⟨o,q1,q2⟩:=bind_some h1;refine kf ?_;cases l with
  |nil=>obtain rfl:=Option.some.inj h2;exact⟨o,q2,aq.of st tv q1,.inl rfl⟩
  |cons=>exact zA h2
theorem Kl {t it:Expr} {b:List Stmt} {p:Pos} (hset:∀env x,foldedSetIterable it env x=pure x) (hit:bf w aA n C it) (hb:g9 w n C k b):dg w n C k (.For t it b [] p):=λr S res h Mc N M mu env FL A s Q E R c F P=>
 wpAny_For (qL h (hit _ _ _ _ _) R F P λx S1 u h1 tk1 h k1 F1 tv P=>aT h λxs hx h=>by
  refine cps λG kf=> ?_
  obtain⟨o,hi,rd,hv⟩:=mU (s:=up s h1 tk1) hx F1.store tv;refine kf ?_;exact yk (s:=up s h1 tk1) hi rd hv R.handled λI fp Pit St o hI fo eo IT st0=>FW (s:=up s h1 tk1) hb h R (c.xf (.fM (env:=env) k1)) F1 P hI fo IT st0) (hset env)
inductive Np (w:World) (FL:List Env) (M:List Addr) (mu:Mu) (env:Env) (s:Shared) (f:Nat→Loc→List AV→Option ar) (res:ar) (m:Nat):Shared→Prop
 |mk {r:Loc} {S:List AV} {M':List Addr} {mu':Mu} {h':Heap} {tk:Nat}:bJ M mu env s.heap M' mu' h'→FS w.params M' FL env mu' r S h'→f m r S=some res→Np w FL M mu env s f res m (up s h' tk)
theorem E3 {t:Expr} {b:List Stmt} {p:Pos} (ht:nG w aA n C t) (hb:g9 w n C k b):dg w n C k (.While t b [] p):=λr S res h Mc N M mu env FL A s Q E R c F P=>by
 replace h:jn (λr S=>(dT C t r S).p) (λr S=>(qu C k b r S).p) WF r S=some res:=h;refine wpAny_While (codeAny_whileLoop (Np w FL M mu env s (jn (λr S=>(dT C t r S).p) (λr S=>(qu C k b r S).p)) res) ?_ WF (.mk .refl F h));intro m s' iv;cases iv with
 | @mk r S M' mu' h1 tk1 g1 F1 hr=>
 cases m with
 |zero=>exact zA hr
 |succ m=>
 obtain⟨ra,e1,e2⟩:=bind_some hr;refine ht _ _ M' mu' env ra e1 (s:=up s h1 tk1) R F1 ?_;cases ra with
 |exc=>exactλx h2 tk2 x2=>tG R F (g1.x (du aC x2)) λh5 x5=>(Option.some.inj e2▸P:eJ w Mc N M mu FL env s .exc Q E) x h5 tk2 x5
 |ok d S1=>
  intro v h2 tk2 k2 st2 tv;obtain rfl:v=d:=tv;have F2:=F1.go k2 st2;have g2:=g1.trans (.fM k2);cases v with
  |false=>exact wpAny_execs_nil ((Option.some.inj e2▸P:eJ w Mc N M mu FL env s (.aY r S1) Q E) _ _ h2 tk2 g2 F2)
  |true=>
   obtain⟨rb,b1,b2⟩:=bind_some e2;refine hb _ _ rb b1 (s:=up s h2 tk2) R (c.xf g2) F2 ?_;cases rb with
   |aY r4 S4=>exactλM4 mu4 h4 tk4 g4 F4=>⟨m,Nat.lt_succ_self m,.mk (g2.trans g4) F4 b2⟩
   |brk r4 S4=>exactλM4 mu4 h4 tk4 g4 F4=>(Option.some.inj b2▸P:eJ w Mc N M mu FL env s (.aY r4 S4) Q E) _ _ h4 tk4 (g2.trans g4) F4
   |ret v4 fr4 S4=>exactλM4 mu4 u4 h4 tk4 g4 st4 rp=>(Option.some.inj b2▸P:eJ w Mc N M mu FL env s (.ret v4 fr4 S4) Q E) _ _ _ h4 tk4 (g2.trans g4) st4 rp
   |exc=>exactλx h4 tk4 x4=>tG R F (g2.x x4) λh5 x5=>(Option.some.inj b2▸P:eJ w Mc N M mu FL env s .exc Q E) x h5 tk4 x5
end
set_option tactic.hygienic false
noncomputable def cC (r:Loc):Prop:=∀x b,dm r x=some b→B5 b=false
noncomputable def NK (l:List AV):Res (List AV)→Res (List AV)
 | .ok m S=> .ok (l++m) S
 | .exc=> .exc
noncomputable def NO (ifs:List Expr) (env:Env):Sem Bool:=forIn ifs true λc r=>if r=true then do let ok←isTrue c env (eval c env);pure (ForInStep.yield ok) else pure (ForInStep.yield r)
section
variable {w:World} {n:Nat} {C:ay} {k:Nat} {M M1 M' Mc:List Addr} {N:Addr→Prop} {mu mu':Mu} {env cenv:Env} {r r' rc:Loc} {S S':List AV} {A:Around} {s:Shared} {E:Value→Shared→Prop} {FL:List Env} {h h' hb:Heap}
theorem cC.dF {x:Str} {v:AV} (nc:cC r) (h:Mine.dF r x v=some r'):cC r':=by
 obtain⟨b,g1,_,g2,g3⟩:=vH h;intro y c hy;cases q:seq y x with
 |true=>
  obtain rfl:=bw.mp q;obtain rfl:=Option.some.inj (g2.symm.trans hy);exact nc y b g1
 |false=>exact nc y c (g3 y q▸hy)
theorem rA (nc:cC r) (F:FS w.params M FL env mu r S s.heap) {x:Str} {v:AV} {u:Value} (hl:dF r x v=some r') (t:ax w.params M mu s.heap v u) {Q:Unit→Shared→Prop}
 (k:∀h' tk,ah M [env.locals] s.heap h'→FS w.params M FL env mu r' S h'→Q () (up s h' tk)):wpAny (model PW w) A (storeName env x u) Q E s:=
 ik F hl t λa h' tk ha hb kp F'=>hb.1.elim (λe=>k h' tk (e▸kp) F') λ⟨b,e1,e2⟩=>nomatch (nc x b e1).symm.trans e2
theorem As {ts:List Expr}:∀{vs:List AV} {r r':Loc},bindNames ts vs r=some r'→cC r→∀{us:List Value} {s:Shared} {Q:Unit→Shared→Prop},FS w.params M FL env mu r S s.heap→aP w.params (aG M s.heap) vs us→
 (∀h' tk,ah M [env.locals] s.heap h'→FS w.params M FL env mu r' S h'→cC r'→Q () (up s h' tk))→wpAny (model PW w) A (assignInOrder ((assignEach ts env).map (·.2)) us) Q E s:=by
 induction ts with
 |nil=>
  intro vs r r' hb nc us s Q F rl q;cases vs with
  |nil=>obtain rfl:=Option.some.inj hb;obtain rfl:=rl.rV;exact wpAny_pure (q s.heap s.toks (.refl _ _ _) F nc)
  |cons=>exact zA hb
 |cons t ts ih=>
  intro vs r r' hb nc us s Q F rl q;cases vs with
  |nil=>exact zA hb
  |cons v vs=>
  refine cps λG kf=> ?_
  obtain⟨x,hx,hb⟩:=bind_some hb;obtain⟨r1,h1,h2⟩:=bind_some hb;obtain⟨p,rfl⟩:=ez hx;obtain⟨u,us,rfl,a,b⟩:=rl.tZ;refine kf ?_;refine wpAny_bind (wpAny_holding (wpAny_assign_Name (rA nc F h1 ((ax.bo (cT a)).mpr a) λh3 tk3 k3 F3=> ?_)));have g3:Ge (aG M s.heap) (aG M h3):=k3.aG λb m=>List.mem_singleton.mp m▸F.locM
  exact ih (s:=up s h3 tk3) h2 (nc.dF h1) F3 (aP.mono g3 b) λh4 tk4 k4 F4 nc4=>q h4 tk4 (k3.trans k4) F4 nc4
theorem Es {t:Expr} {v:AV} {u:Value} {Q:Unit→Shared→Prop} (hb:bindTo t v r=some r') (nc:cC r) (R:cq n FL A) (F:FS w.params M FL env mu r S s.heap) (rv:Rep w.params M s.heap v u)
 (q:∀h' tk,ah M [env.locals] s.heap h'→FS w.params M FL env mu r' S h'→cC r'→Q () (up s h' tk)):wpAny (model PW w) A (assign t env u) Q E s:=by
 unfold bindTo at hb;cases e:ic t with
 |some x=>
  rw[e] at hb;refine cps λG kf=> ?_
  obtain⟨p,rfl⟩:=ez e;refine kf ?_;exact wpAny_assign_Name (rA nc F hb ((ax.bo (cT rv)).mpr rv) λh' tk kp F'=>q h' tk kp F' (nc.dF hb))
 |none=>
  rw[e] at hb;refine cps λG kf=> ?_
  obtain⟨ts,e1,hb⟩:=bind_some hb;obtain⟨vs,e2,hb9⟩:=bind_some hb;obtain⟨c,p,rfl⟩:=iN e1;obtain rfl:=fR e2;obtain⟨l0,_,_,hst⟩:=oO (w:=w) (n:=n) (S:=S) hb9;have l:=vn (env:=env) hst;obtain⟨a,us,m,rfl,eo,rl,_⟩:=rv.out λ_ _ e=>e
  refine kf ?_;refine wpAny_assign_Tuple R.handled ⟨_,(af.mp eo).2,rfl,_,rfl⟩ (by rw[l.1,l0,rl.length,Array.length_toList]) l.2 λh1 eb=> ?_
  have kp:aF [] s.heap h1:=λb o _ e=>eb b o (Nat.ne_of_lt (Heap.lt_size e)) e
  have k1:ah M (b9 mu) s.heap h1:=kp.m0;exact As (s:=up s h1 s.toks) hb9 nc (F.go k1 (F.store.keep kp)) (aP.mono (F.bL k1) rl) λh2 tk2 k2 F2 nc2=>q h2 tk2 (kp.m0.trans k2) F2 nc2
theorem uF {env:Env} {ifs:List Expr}:(forIn ifs false λc r=>if r=true then do let ok←isTrue c env (eval c env);pure (ForInStep.yield ok) else pure (ForInStep.yield r):Sem Bool)=pure false:=by
 induction ifs with
 |nil=>rfl
 |cons c ifs ih=>rw[List.forIn_cons,if_neg (λq=>zC q),pure_bind];exact ih
theorem Dq {ifs:List Expr}:(∀c∈ifs,nG w aA n C c)→∀r S M mu env,Tr w aA n M mu env r S VB (kJ C .And ifs r S).p (NO ifs env):=by
 induction ifs with
 |nil=>exactλ_ r S M mu env res h A s Q E FL R F P=>wpAny_pure ((aZ h P).here F.store rfl)
 |cons c ifs ih=>
  intro hc r S M mu env res h A s Q E FL R F P;unfold NO;rw[List.forIn_cons,if_pos rfl];refine wpAny_bind (wpAny_bind (aw h (hc c List.mem_cons_self _ _ _ _ _) R F P λb S1 v h1 tk1 h k1 F1 tv P=>wpAny_pure ?_));obtain rfl:v=b:=tv;cases v with
  |false=>dsimp only;rw[uF];exact wpAny_pure ((aZ h P).here F1.store rfl)
  |true=>exact ih (λc m=>hc c (List.mem_cons_of_mem _ m)) _ _ _ _ _ _ h (s:=up s h1 tk1) R F1 P
theorem ah.back {W W1:List Addr} {h1 h2:Heap} (a:ah M W hb h1) (kk:ah M1 W1 h1 h2) (hM:∀b,hb.get? b≠none→b∈M1→b∈M) (hW:∀b,hb.get? b≠none→b∈W1→b∈W):ah M W hb h2:=λb o e=>by
 have ne:hb.get? b≠none:=λq=>nomatch e.symm.trans q
 refine cps λG kf=> ?_
 obtain⟨o1,e1,f1,g1⟩:=a b o e;obtain⟨o2,e2,f2,g2⟩:=kk b o1 e1;refine kf ?_;refine⟨o2,e2,λq=>f2 (f1 q),λnb=> ?_⟩;rcases g1 nb with rfl|⟨m,f,sl,rfl⟩
 ·exact(g2 λm=>nb (hW b ne m)).imp (λx=>x) λx=>⟨hM b ne x.1,x.2⟩
 ·exact .inr ⟨m,f,(g2 λm=>nb (hW b ne m)).elim (λq=>⟨sl,q⟩) λx=>x.2.2⟩
theorem XN.back {W W1:List Addr} {h1 h2:Heap} {x:Value} (a:ah M W hb h1) (kk:XN M1 W1 h1 h2 x) (hM:∀b,hb.get? b≠none→b∈M1→b∈M) (hW:∀b,hb.get? b≠none→b∈W1→b∈W):XN M W hb h2 x:=
 ⟨a.back kk.1 hM hW,kk.2.pre λ_ e=>a.old e⟩
theorem ah.sees {W:List Addr} (a:ah M W hb h) (hW:∀b∈W,b∈M) {b:Addr} {o:Obj} (v:(Mine.aG M hb).get? b=some o):h.get? b=some o:=(af.mp (a.aG hW _ _ v)).2
theorem ah.Cp {W:List Addr} {h1 h2:Heap} {a:Addr} (k:ah M W hb h1) (kk:ah M1 [a] h1 h2) (hM:∀b,hb.get? b≠none→b∈M1→b∈M) (hn:hb.get? a=none):ah M W hb h2:=k.back kk hM λb z m=>absurd (List.mem_singleton.mp m▸hn) z
inductive Le (w:World) (FL:List Env) (M M1:List Addr) (cenv:Env) (mu:Mu) (hb:Heap) (D:Addr) (len:Nat) (St:Nat→Heap→Prop) (f:Nat→Loc→List AV→Option (Res (List AV))) (res:Res (List AV)) (s:Shared):Nat→Shared→Prop
 |mk (i:Nat) {rc:Loc} {S:List AV} {hx:Heap} {tk:Nat} {done:List AV} {rest:Res (List AV)}:i≤len→done.length≤i→ah M (b9 mu) hb hx→FS w.params M1 FL cenv mu rc S hx→ak w.params M1 hx (.lst done) (D,D)→St i hx→cC rc→f i rc S=some rest→res=NK done rest→Le w FL M M1 cenv mu hb D len St f res s (len -i) (up s hx tk)
theorem zj {t elt iter:Expr} {ifs:List Expr} {sc:Scope} {pos:Pos} {xs:List AV} {I D:Addr} {fp:List Addr} {Pit:Nat→Value→Prop} {St:Nat→Heap→Prop} {res:Res (List AV)} {RR:Result→Shared→Prop}
 (he:bf w aA n C elt) (hifs:∀c∈ifs,nG w aA n C c) (h:gX (bindTo t) (λr S=>(kJ C .And ifs r S).p) (λr S=>(dE C elt r S).p) xs rc S=some res) (R:cq n FL A)
 (fr1:∀a∈M1,a∈M∨hb.get? a=none) (muM:∀a∈b9 mu,a∈M) (F:FS w.params M1 FL cenv mu rc S s.heap) (k0:ah M (b9 mu) hb s.heap)
 (IM:I∈M1) (DM:D∈M1) (If:I∉aE cenv mu) (Df:D∉aE cenv mu) (DI:D≠I) (Cn:hb.get? cenv.locals=none) (Dn:hb.get? D=none)
 (IT:xA w A M hb I fp xs Pit St) (st0:St 0 s.heap) (md:ak w.params M1 s.heap (.lst []) (D,D)) (nc:cC rc) (hlen:xs.length≤ao) (nfl:∀e∈FL,e.frame≠some I)
 (hok:∀l S' M2 hx tk,res= .ok l S'→ah M (b9 mu) hb hx→(∀a∈M1,a≠I→a∈M2)→(∀a∈M2,a∈M1)→ai w.params M2 hx S' mu→ak w.params M2 hx (.lst l) (D,D)→bG M2 hx→(∃m,hx.Ns cenv.locals m)→RR (.ok .next) (up s hx tk))
 (hex:∀x hx tk,res= .exc→XN M (b9 mu) hb hx x→(∃m,hx.Ns cenv.locals m)→RR (.error x) (up s hx tk)):
 codeAny (model PW w) A (.compLoop (.ListComp elt [⟨t,iter,ifs,0⟩] sc pos) 0 (.ref I) (.ref D) cenv) RR s:=by
 have hM:∀b,hb.get? b≠none→b∈M1→b∈M:=λb z m=>(fr1 b m).elim id λe=>absurd e z
 have I9:cenv.locals∈aE cenv mu:=List.mem_cons_self;have inW:∀{a},a∈b9 mu→a∈aE cenv mu:=aC _;have hn:hb.get? I=none:=IT.new;have DL:D∉[cenv.locals]:=λz=>Df (List.mem_singleton.mp z▸I9)
 have IL:I∉[cenv.locals]:=λz=>If (List.mem_singleton.mp z▸I9)
 refine codeAny_loop rfl (Le w FL M M1 cenv mu hb D xs.length St (λi=>gX (bindTo t) (λr S=>(kJ C .And ifs r S).p) (λr S=>(dE C elt r S).p) (xs.drop i)) res s) ?_ xs.length (.mk 0 (Nat.zero_le _) (Nat.le_refl _) k0 F md st0 nc h (by cases res<;>rfl));intro m s' iv;cases iv with
 | @mk i rc S h1 tk1 done rest hi NX k1 F1 m1 st nc1 hr hres=>
 obtain⟨oI,TI,eI,cI,pI⟩:=IT.plain i h1 st;show wpAny _ A ((compTurn (.ListComp elt [⟨t,iter,ifs,0⟩] sc pos) 0 (.ref I) (.ref D) cenv).onRaise (λx=>do noteFrame x cenv;theTreesLotGoes x)) _ _ _;refine wpAny_noted ?_;rw[compTurn_list];refine wpAny_bind (wpAny_standAt (wpAny_bind ?_));have gone:∀{x:Value} {hp hx:Heap} {tk:Nat} {r S},res= .exc→ah M (b9 mu) hb hp→FS w.params M1 FL cenv mu r S hp→aA.X M1 (b9 mu) hp hx x→notedBy (model PW w) A cenv (λe s'=>RR (.error e) s') x (up s hx tk):=by
  intro x hp hx tk r S e kp Fp x1;obtain⟨e0,outer,L,rfl,f0,f1⟩:=Fp.own;exact nP (s:=up s hx tk) R.frames Fp.frm f0 f1 x1 λh2 x2=>hex x h2 tk e (x2.back kp hM λ_ _ m=>m) (Fp.names.elim λmm z=>⟨mm,x2.1.ns Fp.jm z.1⟩)
 by_cases hlt:i<xs.length
 ·refine IT.walk.item i (up s h1 tk1) _ _ hlt st λv h2 tk2 pv st2 kp=> ?_
  obtain⟨oI2,TI2,eI2,cI2,pI2⟩:=IT.plain (i+1) h2 st2;have nf2:=y9 cI2 pI2;obtain⟨d,hd,rd⟩:=IT.item i v pv hlt;rw[yE hd] at hr;obtain⟨r1,b1,hr⟩:=bind_some hr;obtain⟨rb,b2,b3⟩:=bind_some hr;have kI:ah M1 [I] h1 h2:=aF.m1 kp eI2 λo e f=>absurd f (Option.some.inj (eI.symm.trans e)▸y9 cI pI)
  have F2:=F1.Rb kI IM If;have k2:=k1.Cp kI hM hn;have m2:=m1.iF kI (λb m=>List.mem_singleton.mp m▸IM) λz=>DI (List.mem_singleton.mp z)
  have rd2:Rep w.params M1 h2 d v:=aD.mono (λb o e=>af.mpr ⟨λm=>(af.mp e).1 (hM b (λq=>nomatch (af.mp e).2.symm.trans q) m),k2.sees muM e⟩) rd;refine wpAny_bind (vD (s:=up s h2 tk2) eI2 cI2 pI2 ?_);refine wpAny_bind (Es (s:=up s h2 tk2) b1 nc1 R F2 rd2 λh3 tk3 kL F3 nc3=> ?_);have k3:=k2.Cp kL hM Cn;have m3:=m2.iF kL (λb m=>List.mem_singleton.mp m▸F1.locM) DL;have eI3:h3.get? I=some oI2:=kL.get IL eI2 nf2;have next:∀{hx:Heap} {tk:Nat} {S2:List AV} {l:List AV} {rest2:Res (List AV)},ah M (b9 mu) hb hx→FS w.params M1 FL cenv mu r1 S2 hx→ak w.params M1 hx (.lst l) (D,D)→hx.get? I=some oI2→l.length≤i+1→gX (bindTo t) (λr S=>(kJ C .And ifs r S).p) (λr S=>(dE C elt r S).p) (xs.drop (i+1)) r1 S2=some rest2→res=NK l rest2→
   ∃m,m<xs.length -i∧Le w FL M M1 cenv mu hb D xs.length St (λi=>gX (bindTo t) (λr S=>(kJ C .And ifs r S).p) (λr S=>(dE C elt r S).p) (xs.drop i)) res s m (up s hx tk):=by
   intro hx tk S2 l rest2 kx Fx mx eIx hll hr2 hres2;refine⟨xs.length -(i+1),Nat.sub_succ_lt_self _ _ hlt,.mk (i+1) hlt hll kx Fx mx ?_ nc3 hr2 hres2⟩;refine IT.walk.frame (i+1) h2 hx st2 λa ma o ea=> ?_
   rcases IT.fp a ma with rfl|e|⟨o',e'⟩
   ·obtain rfl:=Option.some.inj (eI2.symm.trans ea);exact eIx
   ·rw[e] at hlt;exact absurd hlt (Nat.not_lt_zero _)
   ·obtain rfl:=Option.some.inj (ea.symm.trans (k2.sees muM e'));exact kx.sees muM e'
  refine wpAny_bind (Dq hifs _ _ _ _ _ rb b2 (s:=up s h3 tk3) R F3 ?_);cases rb with
  |exc=>obtain rfl:=Option.some.inj b3;exactλx h4 tk4 x4=>gone hres k3 F3 x4
  |ok b S4=>
   intro bv h4 tk4 k4 st4 tv;obtain rfl:bv=b:=tv;have F4:=F3.go k4 st4;have k4':=k3.back k4 hM λ_ _ m=>m
   have m4:=m3.iF k4 F3.muM (λz=>Df (inW z));have eI4:h4.get? I=some oI2:=k4.get (λz=>If (inW z)) eI3 nf2;cases bv with
   |false=>exact wpAny_pure ⟨rfl,next k4' F4 m4 eI4 (Nat.le_succ_of_le NX) b3 hres⟩
   |true=>
    obtain⟨rv,c1,c2⟩:=bind_some b3;refine wpAny_bind (wpAny_bind (he _ _ M1 mu cenv rv c1 (s:=up s h4 tk4) R F4 ?_));cases rv with
    |exc=>obtain rfl:=Option.some.inj c2;exactλx h5 tk5 x5=>gone hres k4' F4 x5
    |ok v5 S5=>
     intro u5 h5 tk5 k5 st5 tv5;have F5:=F4.go k5 st5;have k5':=k4'.back k5 hM λ_ _ m=>m
     have m5:=m4.iF k5 F3.muM (λz=>Df (inW z));have eI5:h5.get? I=some oI2:=k5.get (λz=>If (inW z)) eI4 nf2;cases fv:flat v5 with
     |false=>dsimp only at c2;rw[fv] at c2;exact zA c2
     |true=>
     dsimp only at c2;rw[fv,if_pos rfl] at c2;obtain⟨rest2,hc,c3⟩:=bind_some c2;refine wpAny_bind (mZ (p:=(D,D)) (s:=up s h5 tk5) m5 DM ((ax.bo fv).mp tv5) (Nat.lt_of_le_of_lt NX (Nat.lt_of_lt_of_le hlt hlen)) λh6 kp6 m6=>wpAny_pure (wpAny_pure ⟨rfl,?_⟩));have kD:=aF.EH (M:=M1) kp6 m5 m6;refine next (k5'.Cp kD hM Dn) (F5.Rb (a:=D) kD DM Df) m6 (kD.get (λz=>DI (List.mem_singleton.mp z).symm) eI5 nf2) (by rw[List.length_append];exact Nat.succ_le_succ NX) hc ?_;refine hres.symm▸?_;cases rest2 with
     |exc=>obtain rfl:=Option.some.inj c3;rfl
     |ok l S=>obtain rfl:=Option.some.inj c3;exact congrArg (Res.ok · S) (List.append_assoc done [v5] l).symm
 ·obtain rfl:=Nat.le_antisymm hi (Nat.le_of_not_lt hlt);refine IT.walk.done (up s h1 tk1) _ _ st λh2 tk2 kp=>wpAny_pure ?_
  rw[List.drop_length] at hr;obtain rfl:=Option.some.inj hr;have F2:=F1.drop kp IM If nfl;have kx:ah M (b9 mu) hb h2:=λb o e=>have⟨o1,e1,x⟩:=k1 b o e;⟨o1,kp b o1 (tH hn e) e1,x⟩
  refine hok _ _ _ h2 tk2 hres kx (λa m z=>List.mem_filter.mpr ⟨m,bne_iff_ne.mpr z⟩) (λa m=>(List.mem_filter.mp m).1) F2.store ?_ F2.live (F2.names.elim λmm z=>⟨mm,z.1⟩);rw[List.append_nil];exact m1.jY (λb o e=>af.mpr ⟨λm=>(af.mp e).1 (List.mem_filter.mp m).1,kp _ _ (λz=>(af.mp e).1 (List.mem_singleton.mp z▸IM)) (af.mp e).2⟩) λo e=>kp _ _ (λz=>DI (List.mem_singleton.mp z)) e
end
set_option tactic.hygienic false
noncomputable def J1 (p:Str×NameKind):Bool:= !(p.1==("__debug__":Str))&& !(p.1==("__classdict__":Str))
noncomputable def j5 (sc:Scope):Bool:=(sc.kind== .function)&&decide (sc.names.map (·.1)).Nodup&&sc.names.all J1
inductive AD (r:Loc) (x:Str):NameKind→LV→Prop
 |loc:AD r x .local ⟨.loc,none⟩
 |glob:AD r x .globalImplicit ⟨.glob,none⟩
 |free {v:AV} {q:LV}:dm r x=some q→(q.k= .cell∨q.k= .free)→q.v=some v→AD r x .free ⟨.free,some v⟩
noncomputable def cz (env:Env):List (Str×NameKind)→List (Str×Addr)→List (Str×Addr)
 |[],acc=>acc
 |p::l,acc=>cz env l (if p.2== .free then(env.cells.lookup p.1).elim acc λc=>(p.1,c)::acc else acc)
theorem js {env:Env} {p:Str×NameKind} {l:List (Str×NameKind)} {acc:List (Str×Addr)}:cz env (p::l) acc=cz env l (if(p.2== .free)=true then(env.cells.lookup p.1).elim acc λc=>(p.1,c)::acc else acc):=rfl
section
variable {w:World} {n:Nat} {C:ay} {k:Nat} {M M1 Mc:List Addr} {mu mu':Mu} {env cenv:Env} {r r' rc:Loc} {S S':List AV} {A:Around} {s:Shared} {E:Value→Shared→Prop} {FL:List Env} {h h' hb:Heap}
theorem j0 {x:Str} {kd:NameKind} {names:List (Str×NameKind)} {l:Loc} (h:c7 r ((x,kd)::names)=some l):∃l1 c,c7 r names=some l1∧l=(x,c)::l1∧AD r x kd c:=by
 obtain⟨l1,h1,h2⟩:=bind_some h;cases kd with
 |«local»=>obtain rfl:=Option.some.inj h2;exact⟨l1,_,h1,rfl,.loc⟩
 |globalImplicit=>obtain rfl:=Option.some.inj h2;exact⟨l1,_,h1,rfl,.glob⟩
 |free=>
  obtain⟨q,hq,h2⟩:=bind_some h2;cases e:q.k with
  |cell=>rw[e] at h2;obtain⟨v,hv,rfl⟩:=Option.map_eq_some_iff.mp h2;exact⟨l1,_,h1,rfl,.free hq (.inl e) hv⟩
  |free=>rw[e] at h2;obtain⟨v,hv,rfl⟩:=Option.map_eq_some_iff.mp h2;exact⟨l1,_,h1,rfl,.free hq (.inr e) hv⟩
  |_=>rw[e] at h2;exact zA h2
 |_=>exact zA h2
theorem mV {names:List (Str×NameKind)}:∀{l:Loc},c7 r names=some l→∀{x:Str} {b:LV},dm l x=some b→∃kd,names.lookup x=some kd∧AD r x kd b:=by
 induction names with
 |nil=>intro l h x b hb;obtain rfl:=Option.some.inj h;exact zA hb
 |cons p names ih=>
  obtain⟨m,kd⟩:=p;intro l h x b hb;obtain⟨l1,c,h1,rfl,o⟩:=j0 h;rw[b6] at hb;cases e:seq x m with
  |true=>
   rw[e,if_pos rfl] at hb;obtain rfl:=Option.some.inj hb;obtain rfl:=bw.mp e;exact⟨kd,by rw[List.lookup_cons,beq_self_eq_true],o⟩
  |false=>
   rw[e,if_neg (λq=>zC q)] at hb;obtain⟨kd',g1,g2⟩:=ih h1 hb;exact⟨kd',by rw[List.lookup_cons,←seq_eq,e];exact g1,g2⟩
theorem gU {names:List (Str×NameKind)}:∀{l:Loc},c7 r names=some l→∀p∈names,∃c,AD r p.1 p.2 c:=by
 induction names with
 |nil=>exactλ_ _ m=>zE m
 |cons p names ih=>
  intro l h;refine cps λG kf=> ?_
  obtain⟨l1,c,h1,rfl,o⟩:=j0 h;refine kf ?_;exact List.forall_mem_cons.mpr ⟨⟨c,o⟩,ih h1⟩
theorem rF {names:List (Str×NameKind)} {x:Str} {c:Addr}:∀{acc:List (Str×Addr)},(x,c)∈cz env names acc→(x,c)∈acc∨env.cells.lookup x=some c:=by
 induction names with
 |nil=>exactλm=> .inl m
 |cons p names ih=>
  intro acc m0;rcases ih (acc:=_) m0 with m|e
  ·split at m
   ·cases hc:env.cells.lookup p.1 with
    |none=>rw[hc] at m;exact .inl m
    |some c'=>
     rw[hc] at m;exact(List.mem_cons.mp m).elim (λz=>by cases z;exact .inr hc) .inl
   ·exact .inl m
  ·exact .inr e
theorem AA {names:List (Str×NameKind)} {p:Str×Addr}:∀{acc:List (Str×Addr)},p∈acc→p∈cz env names acc:=by
 induction names with
 |nil=>exactλm=>m
 |cons q names ih=>
  intro acc m;refine ih ?_;split
  ·cases env.cells.lookup q.1 with
   |none=>exact m
   |some c=>exact List.mem_cons_of_mem _ m
  ·exact m
theorem zP {names:List (Str×NameKind)} {x:Str} {c:Addr} (e:env.cells.lookup x=some c):∀{acc:List (Str×Addr)},(x,NameKind.free)∈names→(x,c)∈cz env names acc:=by
 induction names with
 |nil=>exactλm=>zE m
 |cons q names ih=>
  intro acc m;rcases List.mem_cons.mp m with z|m
  ·subst z;show(x,c)∈cz env names (if(NameKind.free== .free)=true then(env.cells.lookup x).elim acc λc=>(x,c)::acc else acc);rw[if_pos (show(NameKind.free==NameKind.free)=true from rfl),e];exact AA List.mem_cons_self
  ·exact ih m
theorem vc {names:List (Str×NameKind)}:∀{acc:List (Str×Addr)},(names.map (·.1)).Nodup→(acc.map (·.1)).Nodup→(∀x∈names.map (·.1),x∉acc.map (·.1))→((cz env names acc).map (·.1)).Nodup:=by
 induction names with
 |nil=>exactλ_ n2 _=>n2
 |cons q names ih=>
  intro acc n1 n2 n3;obtain⟨a,b⟩:=List.nodup_cons.mp n1;have keep:((cz env names acc).map (·.1)).Nodup:=ih b n2 λx m=>n3 x (List.mem_cons_of_mem _ m)
  rw[js];split
  ·cases env.cells.lookup q.1 with
   |none=>exact keep
   |some c=>exact ih b (List.nodup_cons.mpr ⟨n3 _ List.mem_cons_self,n2⟩) λx m z=>(List.mem_cons.mp z).elim (λe=>a (e▸m)) (n3 x (List.mem_cons_of_mem _ m))
  ·exact keep
theorem n4 {sc:Scope} (h:∀x,(x,NameKind.free)∈sc.names→∃c,env.cells.lookup x=some c):closureFor sc env=pure (cz env sc.names []):=by
 have gen:∀(names:List (Str×NameKind)) (acc:List (Str×Addr)),(∀x,(x,NameKind.free)∈names→∃c,env.cells.lookup x=some c)→
  (forIn names acc λ(p:Str×NameKind) (cs:List (Str×Addr))=>match p with
   |(name,kind)=>if(kind== .free)=true then do let c←cellOf env name;pure (ForInStep.yield ((name,c)::cs)) else pure (ForInStep.yield cs):Sem (List (Str×Addr)))=pure (cz env names acc):=by
  intro names
  induction names with
  |nil=>intro acc _;rfl
  |cons p names ih=>
   intro acc hh;obtain⟨x,kd⟩:=p;rw[List.forIn_cons];by_cases e:(kd==NameKind.free)=true
   ·obtain rfl:kd= .free:=eq_of_beq e;obtain⟨c,hc⟩:=hh x List.mem_cons_self;rw[js];rw[if_pos (by rfl),hc,←ih _ λy m=>hh y (List.mem_cons_of_mem _ m)];have e:cellOf env x=pure c:=by unfold cellOf;rw[hc]
    show((cellOf env x>>=λc=>pure (ForInStep.yield ((x,c)::acc)))>>=_)=_;rw[e];rfl
   ·rw[js];dsimp only;rw[if_neg e,if_neg e,←ih _ λy m=>hh y (List.mem_cons_of_mem _ m),pure_bind]
 have:=gen sc.names [] h;unfold closureFor;simpa using this
theorem ja {l:List (Str×Addr)} {x:Str} {c:Addr} (m:(x,c)∈l):∃c',l.lookup x=some c':=by
 cases q:l.lookup x with
 |some c'=>exact⟨c',rfl⟩
 |none=>exact absurd (List.lookup_eq_none_iff.mp q _ m) (by simp)
theorem nZ {names:List (Str×NameKind)} {x:Str} {kd:NameKind} (h:names.lookup x=some kd):
 (names.map λ(n,k)=>if(k==NameKind.free&&env.scope.kind== .function&&env.kindOf n==some .cell) then(n,NameKind.cell) else(n,k)).lookup x=some (if(kd==NameKind.free&&env.scope.kind== .function&&env.kindOf x==some .cell) then .cell else kd):=by
 induction names with
 |nil=>exact zA h
 |cons p names ih=>
  obtain⟨m,k⟩:=p;refine List.map_cons.symm▸?_;rw[List.lookup_cons] at h;cases e:x==m with
  |true=>
   rw[e] at h;obtain rfl:=Option.some.inj h;obtain rfl:x=m:=eq_of_beq e;dsimp only;split<;>rw[List.lookup_cons,beq_self_eq_true]
  |false=>
   rw[e] at h;dsimp only;split<;>rw[List.lookup_cons,e]<;>exact ih h
theorem lZ {M M':List Addr} {h h':Heap} {a:Addr} (g:Ge (aG M h) (aG M' h')) (f:h.get? a=none):Ge (aG M h) (aG (a::M') h'):=λb o e=>
 af.mpr ⟨λm=>(List.mem_cons.mp m).elim (λq=>(nomatch (show none=some o from(f.symm.trans (q▸(af.mp e).2))))) (af.mp (g b o e)).1,(af.mp (g b o e)).2⟩
theorem wZ {sc:Scope} {Cc D I:Addr} {h1 h4:Heap} (F:FS w.params M FL env mu r S h1) (hsc:j5 sc=true) (hl:c7 r sc.names=some rc) (kp:aF [] h1 h4) (c1:h1.get? Cc=none) (d1:h1.get? D=none) (i1:h1.get? I=none)
 (hC:h4.Ns Cc (λ_=>none)) (d4:∃o,h4.get? D=some o) (i4:∃o,h4.get? I=some o):FS w.params (Cc::D::I::M) FL (compEnvC sc (cz env sc.names []) Cc env) mu rc S h4∧cC rc∧closureFor sc env=pure (cz env sc.names []):=by
 have hsc:=Bool.and_eq_true_iff.mp hsc;have hsc1:=Bool.and_eq_true_iff.mp hsc.1;have hnd:=of_decide_eq_true hsc1.2;have sub:∀a∈M,a∈Cc::D::I::M:=λa m=>List.mem_cons_of_mem _ (List.mem_cons_of_mem _ (List.mem_cons_of_mem _ m))
 have g0:Ge (aG M h1) (aG M h4):=kp.aG λ_ m=>zE m
 have g:Ge (aG M h1) (aG (Cc::D::I::M) h4):=lZ (lZ (lZ g0 i1) d1) c1;obtain⟨m,hm,hx⟩:=F.names;have cellOfFree:∀{x:Str} {v:AV} {q:LV},dm r x=some q→(q.k= .cell∨q.k= .free)→q.v=some v→gz .cell w.params M mu env h1 x (some v):=by
  intro x v q e o ev;have t:=(hx x q e).2;unfold aX at t;rcases o with o|o<;>rw[o,ev] at t<;>exact t
 have hclose:∀x,(x,NameKind.free)∈sc.names→∃c,env.cells.lookup x=some c:=λx m=>(gU hl _ m).elim λc o=>by
  dsimp only at o;cases o with|free e o ev=>obtain⟨_,c,_,e,_⟩:=cellOfFree e o ev;exact⟨c,e⟩
 have clMem:∀{x c},(x,c)∈cz env sc.names []→env.cells.lookup x=some c:=λm=>(rF m).elim (λz=>zE z) id
 have clM:∀{a},a∈(cz env sc.names []).map (·.2)→a∈env.cells.map (·.2):=λm=>(List.mem_map.mp m).elim λp z=>z.2▸List.mem_map.mpr ⟨p,mem_of_lookup (clMem (x:=p.1) (c:=p.2) z.1),rfl⟩
 have nc:cC rc:=λx b e=>(mV hl e).elim λkd q=>by cases q.2<;>rfl
 have F1:=F.go (S':=S) (h':=h4) kp.m0 (F.store.keep kp);refine⟨⟨eq_of_beq hsc1.1,F.glo,F.blt,⟨λ_=>none,hC,λx b e=> ?_⟩,F2.walk F.store λ_ p m t=>t.jY g λo e=>kp _ _ (λm=>zE m) e,List.mem_cons_self,λa m=>sub a (F.muM a m),λa m=>sub a (F.cellM a (clM m)),?_,F.ground.trans g,
  List.forall_mem_cons.mpr ⟨hC.elim λo x=>x.elim λ_ x=>x.elim λ_ x=>⟨o,x.1⟩,List.forall_mem_cons.mpr ⟨d4,List.forall_mem_cons.mpr ⟨i4,F1.live⟩⟩⟩,λe m=>have⟨kk,L,e1,e2,e3⟩:=F1.frm e m;⟨kk,L,e1,sub _ e2,e3⟩,F.own⟩,nc,n4 hclose⟩
 ·obtain⟨kd,hkd,q⟩:=mV hl e;have memN:(x,kd)∈sc.names:=mem_of_lookup hkd;have hdu:=Bool.and_eq_true_iff.mp (List.all_eq_true.mp hsc.2 _ memN);refine⟨⟨Bool.not_eq_true' _|>.mp hdu.1,Bool.not_eq_true' _|>.mp hdu.2⟩,?_⟩;have kof:(compEnvC sc (cz env sc.names []) Cc env).kindOf x=some (if(kd==NameKind.free&&env.scope.kind== .function&&env.kindOf x==some .cell) then .cell else kd):=nZ (env:=env) hkd;cases q with
  |loc=>exact⟨kof,rfl⟩
  |glob=>exact kof
  |free e9 o ev=>
   obtain⟨ke,c,cv,e1,e2,⟨o,e3,e3'⟩,e4⟩:=cellOfFree e9 o ev;obtain⟨c',hc'⟩:=ja (zP (acc:=[]) e1 memN);obtain rfl:=Option.some.inj (e1.symm.trans (clMem (mem_of_lookup hc')));exact⟨by rw[kof,ke,F.kind];rfl,c,cv,hc',sub _ e2,⟨o,kp _ _ (λm=>zE m) e3,e3'⟩,dJ.lift e4 (λ_ _ e=>e) g⟩
 ·obtain⟨n1,n2,n3⟩:=List.nodup_append.mp (List.nodup_cons.mp F.apart).2;have pw:env.cells.Pairwise λx y=>x.2≠y.2:=List.pairwise_map.mp n1
  show(Cc::((cz env sc.names []).map (·.2)++b9 mu)).Nodup;refine List.nodup_cons.mpr ⟨λz=>F.live.fresh c1 ((List.mem_append.mp z).elim (λz=>F.cellM _ (clM z)) (F.muM _)),List.nodup_append.mpr ⟨?_,n2,λa ha=>n3 a (clM ha)⟩⟩;have kp2:(cz env sc.names []).Pairwise λa b=>a.1≠b.1:=List.pairwise_map.mp (vc (env:=env) (acc:=[]) hnd List.nodup_nil (λ_ _ z=>zE z))
  refine List.pairwise_map.mpr (List.Pairwise.imp_of_mem (λ{a b} ma mb ne e=>ne ?_) kp2);obtain⟨xa,ca⟩:=a;obtain⟨xb,cb⟩:=b;obtain rfl:ca=cb:=e;exact name_of_addr pw (mem_of_lookup (clMem ma)) (mem_of_lookup (clMem mb))
theorem XN.same {W:List Addr} {h1 h2:Heap} {x:Value} {Cc:Addr} {m:Str→Option Value} (a:XN M W hb h1 x) (hn:hb.get? Cc=none) (hC:h1.Ns Cc m) (sb:Heap.SameBut Cc h1 h2):XN M W hb h2 x:=by
 refine cps λG kf=> ?_
 obtain⟨k,e,oe,vs,rfl,e1,e2,e3,e4,T,oT,ts,fl,g1,g2,g3,g4,g5,g6⟩:=a;obtain⟨o,es,ep,ho,hd,_⟩:=hC;refine kf ?_;have ne:∀{a oa vs},h1.get? a=some oa→oa.data= .fields vs→a≠Cc:=λe2 e4 z=>by subst z;cases e2.symm.trans ho;cases hd.symm.trans e4
 refine⟨λb o e=> ?_,e,oe,vs,rfl,e1,sb.extBut _ _ (ne e2 e4) e2,e3,e4,T,oT,ts,fl,g1,g2,g3,sb.extBut _ _ (ne g4 g5) g4,g5,g6⟩;refine cps λG kf=> ?_
 obtain⟨o1,q1,x⟩:=k b o e;refine kf ?_;exact⟨o1,sb.extBut _ _ (λz=>by subst z;cases hn.symm.trans e) q1,x⟩
end
set_option tactic.hygienic false
structure CompEnd (w:World) (M:List Addr) (mu:Mu) (h0:Heap) (l S':List AV) (M3:List Addr) (hx:Heap) (Cc D:Addr):Prop where
 k:ah M (b9 mu) h0 hx
 s1:∀a∈M,a∈M3
 s2:∀a∈M3,a∈M∨h0.get? a=none
 cM:Cc∈M3
 cn:h0.get? Cc=none
 dM:D∉M3
 st:ai w.params M3 hx S' mu
 md:ak w.params (D::M3) hx (.lst l) (D,D)
 ns:∃m,hx.Ns Cc m
 lv:bG M3 hx
section
variable {w:World} {n:Nat} {C:ay} {k:Nat} {M M1 Mc:List Addr} {N:Addr→Prop} {mu mu':Mu} {env cenv:Env} {r r' rc:Loc} {S S':List AV} {A:Around} {s:Shared} {E:Value→Shared→Prop} {FL:List Env} {h h' hb:Heap}
theorem qX {e:Expr} (h:jz e=true) (env:Env) (x:Value):foldedSetIterable e env x=pure x:=by
 cases e<;>first|rfl|exact zC h
theorem Al {l:List (Str×NameKind)} (hnd:(l.map (·.1)).Nodup):∀x∈l,l.lookup x.1=some x.2:=by
 induction l with
 |nil=>exactλ_ m=>zE m
 |cons y l ih=>
  obtain⟨a,b⟩:=List.nodup_cons.mp hnd;intro x m;rw[List.lookup_cons];rcases List.mem_cons.mp m with rfl|m
  ·rw[beq_self_eq_true]
  ·refine(beq_eq_false_iff_ne.mpr λz=>a (List.mem_map.mpr ⟨x,m,z⟩)).symm▸?_;exact ih b x m
theorem FS.Md (F:FS w.params M FL env mu r S h) {names:List (Str×NameKind)} (hl:c7 r names=some rc):(∀x,(x,NameKind.free)∈names→∃c,env.cells.lookup x=some c)∧∀y∈names,y.2≠.cell:=by
 refine⟨λx m=>(gU hl _ m).elim λc o=> ?_,λy m e=>(gU hl _ m).elim λc o=>by rw[e] at o;cases o⟩;dsimp only at o;obtain⟨mm,_,hx⟩:=F.names;cases o with
 | @free v q e o ev=>
  have t:=(hx x q e).2;unfold aX at t;rcases o with o|o<;>rw[o] at t<;>exact t.2.elim λc z=>z.elim λ_ z=>⟨c,z.1⟩
theorem yN {e t it:Expr} {ifs:List Expr} {sc:Scope} {p pos:Pos} {res:Res (List AV)} {use:Option (Value→Sem Unit)} {Q:Value→Shared→Prop} (hsc:j5 sc=true) (hset:jz it=true) (hit:bf w aA n C it) (he:bf w aA n C e) (hifs:∀c∈ifs,nG w aA n C c)
 (h:(Oy C ⟨t,it,ifs,0⟩ (dE C e) sc r S).p=some res) (R:cq n FL A) (F:FS w.params M FL env mu r S s.heap)
 (hOk:∀l S' M3 hx tk Cc D,res= .ok l S'→CompEnd w M mu s.heap l S' M3 hx Cc D→compPost (model PW w) A E use Q (.ref D) Cc (.ok .next) (up s hx tk))
 (hEx:∀x h' tk,res= .exc→aA.X M (b9 mu) s.heap h' x→E x (up s h' tk)):
 wpAny (model PW w) A (comprehension (.ListComp e [⟨t,it,ifs,0⟩] sc p) sc env pos (newList []) false (eval it env) use) Q E s:=by
 obtain⟨rc,hrc,h⟩:=bind_some h;have hs:=Bool.and_eq_true_iff.mp (Bool.and_eq_true_iff.mp hsc).1;have hk':sc.kind= .function:=eq_of_beq hs.1;have hnames:∀x∈sc.names,x.2= .local→sc.names.lookup x.1=some .local:=λx m e=>(Al (of_decide_eq_true hs.2) x m).trans (congrArg some e)
 obtain⟨hfree,hcell⟩:=F.Md (names:=sc.names) hrc;refine wpAny_comprehension_free (cl:=cz env sc.names []) rfl (qX hset env) (n4 hfree) hk' hnames ?_;obtain⟨ra,e1,h⟩:=bind_some h;refine hit _ _ M mu env ra e1 R F ?_;cases ra with
 |exc=>obtain rfl:=Option.some.inj h;exactλx h' tk x'=>hEx x h' tk rfl x'
 |ok x S1=>
 intro u h1 tk1 k1 st1 tv;have F1:=F.go k1 st1;obtain⟨xs,hx,h⟩:=bind_some h;refine E9 h λhlen h=> ?_
 replace hlen:=of_decide_eq_true hlen;obtain⟨o,hi,rd,hv⟩:=mU (s:=up s h1 tk1) hx F1.store tv;refine yk (s:=up s h1 tk1) hi rd hv R.handled λI fp Pit St oI hI fo eo IT st0=> ?_
 refine wpAny_newList ?_ (by decide);dsimp only;have hI':I=h1.objs.size:=hI;have i1:h1.get? I=none:=IT.new;generalize hD:(h1.push oI).objs.size=D;have hDe:D=h1.objs.size+1:=by rw[←hD,Heap.size_push]
 have d1:h1.get? D=none:=Heap.get?_none_of_le (hDe▸Nat.le_succ _);refine wpAny_newFunctionEnv hcell (by intro y hy;simp at hy) (λh4 hns hsb=> ?_) hk';dsimp only at hns hsb⊢;generalize hH2:(h1.push oI).push (aV ([]:List Value).toArray 0)=H2 at hns hsb⊢;generalize hC:H2.objs.size=Cc at hns hsb⊢;have hCe:Cc=h1.objs.size+2:=by rw[←hC,←hH2,Heap.size_push,Heap.size_push]
 have c1:h1.get? Cc=none:=Heap.get?_none_of_le (hCe▸Nat.le_add_right _ 2);have nDI:D≠I:=λz=>absurd (hDe.symm.trans (z.trans hI')) (Nat.succ_ne_self _)
 have nCI:Cc≠I:=λz=>absurd (hCe.symm.trans (z.trans hI')) (by omega)
 have nCD:Cc≠D:=λz=>absurd (hCe.symm.trans (z.trans hDe)) (by omega)
 have kp2:aF [] (h1.push oI) h4:=λb oo _ e=>hsb.extBut b oo (λz=>by have h9:=Heap.lt_size e;rw[Heap.size_push,z,hCe] at h9;exact absurd h9 (Nat.not_lt.mpr (Nat.le_succ _))) (Heap.get?_push_of_some _ (by rw[←hH2];exact Heap.get?_push_of_some _ e))
 have kp:aF [] h1 h4:=(aH _ _ _).trans kp2;have eD:h4.get? D=some (aV ([]:List Value).toArray 0):=hsb.extBut _ _ nCD.symm (Heap.get?_push_of_some _ (by rw[←hH2,←hD];exact Heap.get?_push_size _ rfl));have eI:h4.get? I=some oI:=kp2 _ _ (λm=>zE m) eo;obtain⟨F4,nc,_⟩:=wZ (Cc:=Cc) (D:=D) (I:=I) F1 hsc (show c7 r sc.names=some rc from hrc) kp c1 d1 i1 hns ⟨_,eD⟩ ⟨_,eI⟩;have notM:∀{a},h1.get? a=none→a∉M:=λe=>F1.live.fresh e
 have inF:∀{a},a∈aE (compEnvC sc (cz env sc.names []) Cc env) mu→a=Cc∨a∈M:=λm=>(bx.mp m).imp id λm=>m.elim (λm=>by
  obtain⟨⟨x,c⟩,mp,rfl⟩:=List.mem_map.mp m;exact F1.cellM c (List.mem_map.mpr ⟨(x,c),mem_of_lookup ((rF mp).elim (λz=>zE z) id),rfl⟩)) (F1.muM _)
 have k4:ah M (b9 mu) s.heap h4:=k1.trans kp.m0;have hb0:∀{a},h1.get? a=none→s.heap.get? a=none:=λe=>k1.old e
 have loop:codeAny (model PW w) A (.compLoop (.ListComp e [⟨t,it,ifs,0⟩] sc p) 0 (.ref I) (.ref D) (compEnvC sc (cz env sc.names []) Cc env)) (compPost (model PW w) A E use Q (.ref D) Cc) (up s h4 tk1):=by
  have m1:∀{a},a∈M→a∈Cc::D::I::M:=λm=>List.mem_cons_of_mem _ (List.mem_cons_of_mem _ (List.mem_cons_of_mem _ m))
  have m3:∀{a},a∈Cc::D::I::M→a∈M∨h1.get? a=none:=λm=>(List.mem_cons.mp m).elim (λe=> .inr (e▸c1)) λm=>(List.mem_cons.mp m).elim (λe=> .inr (e▸d1)) λm=>(List.mem_cons.mp m).elim (λe=> .inr (e▸i1)) .inl
  have mD:D∈Cc::D::I::M:=List.mem_cons_of_mem _ List.mem_cons_self;have st4:St 0 h4:=IT.walk.frame 0 _ _ st0 λb _ oo e=>kp2 _ _ (λm=>zE m) e
  refine zj (s:=up s h4 tk1) (M:=M) (hb:=h1) he hifs h R (λa m=>m3 m) F1.muM F4 kp.m0 (List.mem_cons_of_mem _ (List.mem_cons_of_mem _ List.mem_cons_self)) mD (λm=>(inF m).elim nCI.symm (notM i1)) (λm=>(inF m).elim nCD.symm (notM d1)) nDI c1 d1 IT st4 ⟨rfl,_,_,eD,.nil,Nat.zero_le _⟩ nc hlen (F1.sI i1) ?_ ?_
  ·intro l S' M2 hx2 tk2 e kx s1 s2 st2 m2 lv2 hm;have sub3:∀a∈M2.filter (· !=D),a∈M2:=λa m=>(List.mem_filter.mp m).1
   have mem3:∀{a},a∈M2→a≠D→a∈M2.filter (· !=D):=λm z=>List.mem_filter.mpr ⟨m,bne_iff_ne.mpr z⟩
   exact hOk l S' (M2.filter (· !=D)) hx2 tk2 Cc D e ⟨k1.trans kx,λa m=>mem3 (s1 a (m1 m) (λz=>notM i1 (z▸m))) (λz=>notM d1 (z▸m)),λa m=>(m3 (s2 a (sub3 a m))).imp id hb0,mem3 (s1 _ List.mem_cons_self nCI) nCD,hb0 c1,λm=>bne_iff_ne.mp (List.mem_filter.mp m).2 rfl,st2.less sub3,
    m2.less λa m=>(List.mem_cons.mp m).elim (λz=>z▸s1 D mD nDI) (sub3 a),hm,λa m=>lv2 a (sub3 a m)⟩
  ·intro x hx2 tk2 e x2 ⟨mm,hm⟩;have gen:∀h',Heap.SameBut Cc hx2 h'→∀cenv:Env,cenv.locals=Cc→wpAny (model PW w) A (PySem.passOn "comprehension.variables-let-go" x cenv:Sem Value) (λ_ _=>False) E {up s hx2 tk2 with heap:=h'}:=λh' sb cenv _=>
    Ad (s:=up s h' tk2) (x2.same c1 hm sb) λh5 x5=>hEx x h5 tk2 e (aA.pre k1 x5.x)
   cases use<;>exact⟨mm,hm,gen⟩
 exact codeAny_compStart_list loop (IT.walk.self 0 _ _ _ (IT.walk.frame 0 _ _ st0 λb _ oo e=>kp2 _ _ (λm=>zE m) e) loop)
theorem yt {e t it:Expr} {ifs:List Expr} {sc:Scope} {p:Pos} (hsc:j5 sc=true) (hset:jz it=true) (hit:bf w aA n C it) (he:bf w aA n C e) (hifs:∀c∈ifs,nG w aA n C c):bf w aA n C (.ListComp e [⟨t,it,ifs,0⟩] sc p):=by
 intro r S M mu env res h A s Q E FL R F P;rw[eval_ListComp];obtain⟨ra,e1,h⟩:=bind_some h;refine yN hsc hset hit he hifs e1 R F (λl S' M3 hx tk Cc D e' c=> ?_) λx h' tk e' x'=> ?_
 ·subst e';refine gV (Φ:=λd=>d= .lst l) h P (.one λ_=>rfl) λd hd P=> ?_
  subst hd;obtain⟨m,hC⟩:=c.ns;refine⟨m,hC,λh' sb=> ?_⟩;have g:Ge (aG M3 hx) (aG M h'):=λb o e=>af.mpr ⟨λm=>(af.mp e).1 (c.s1 b m),sb.extBut _ _ (λz=>(af.mp e).1 (z▸c.cM)) (af.mp e).2⟩
  exact P _ h' tk (c.k.trans' (b5 sb) c.cn) (F2.walk c.st λ_ p m t=>t.jY g λo e=>sb.extBut _ _ (λz=>F.live.fresh c.cn (z▸F.muM _ (List.mem_map.mpr ⟨p,m,rfl⟩))) e) (.rep (aD.mono g (nR (p:=(D,D)) c.md c.dM)))
 ·subst e';obtain rfl:=Option.some.inj h;exact P x h' tk x'
theorem FS.spread {M3:List Addr} (F:FS w.params M FL env mu r S h) (kp:ah M (b9 mu) h h') (s1:∀a∈M,a∈M3) (s2:∀a∈M3,a∈M∨h.get? a=none) (st:ai w.params M3 h' S' mu) (lv:bG M3 h'):FS w.params M3 FL env mu r S' h':=by
 have g:Ge (aG M h) (aG M3 h'):=λb o e=>af.mpr ⟨λm=>(s2 b m).elim (af.mp e).1 λz=>(nomatch ((af.mp e).2.symm.trans z)),(af.mp (kp.aG F.muM _ _ e)).2⟩
 obtain⟨m,hm,hx⟩:=F.names;exact⟨F.kind,F.glo,F.blt,⟨m,kp.ns F.jm hm,λx b e=>⟨(hx x b e).1,aX.lift (hx x b e).2 (λ_ _ e=>e) g s1 λe1 e2=>kp.cell (F.gn e1) e2⟩⟩,st,s1 _ F.locM,λa m=>s1 a (F.muM a m),λa m=>s1 a (F.cellM a m),F.apart,F.ground.trans g,lv,
  λe m=>have⟨kk,L,e1,e2,e3⟩:=kp.fr F.frm e m;⟨kk,L,e1,s1 _ e2,e3⟩,F.own⟩
theorem qD {x:Str} {pn q:Pos} {e t it:Expr} {ifs:List Expr} {sc:Scope} {p:Pos} (hsc:j5 sc=true) (hset:jz it=true) (hit:bf w aA n C it) (he:bf w aA n C e) (hifs:∀c∈ifs,nG w aA n C c):dg w n C k (.Assign [.Name x pn] (.ListComp e [⟨t,it,ifs,0⟩] sc p) q):=by
 intro r S res h Mc N M mu env FL A s Q E R c F P;have hs:swapsWith (.ListComp e [⟨t,it,ifs,0⟩] sc p) (some (.Name x pn)) q.line env=pure (env.blockKind== .function&&env.kindOf x==some .local&&pn.line==(Expr.ListComp e [⟨t,it,ifs,0⟩] sc p).pos.line
  && !(sc.names.any λ(n,k)=>n==x&&(k== .local||k== .cell))):=rfl
 generalize (env.blockKind== .function&&env.kindOf x==some .local&&pn.line==(Expr.ListComp e [⟨t,it,ifs,0⟩] sc p).pos.line&& !(sc.names.any λ(n,k)=>n==x&&(k== .local||k== .cell)))=b at hs;cases b with
 |false=>exact wpAny_Assign_Name (qL (fK.symm.trans h) (yt hsc hset hit he hifs _ _ _ _ _) R F P λv S1 u h1 tk1 h k1 F1 tv P=>sH (s:=up s h1 tk1) (h':=h1) h P F1 (.refl _ _ _) F1.store tv) hs
 |true=>
  rw[exec_Assign_Name_used _ _ _ _ hs];refine wpAny_bind (wpAny_standAt (wpAny_bind ?_));show wpAny _ A (do let _←comprehension (.ListComp e [⟨t,it,ifs,0⟩] sc p) sc env _ (newList []) false (eval it env) (some (assign (.Name x pn) env))) _ _ s;replace h:=fK.symm.trans (fK.symm.trans h);obtain⟨ra,e1,h⟩:=bind_some h;refine wpAny_bind (yN (use:=some (assign (.Name x pn) env)) (Q:=λ_ s'=>wpAny (model PW w) A (pure PUnit.unit) (λ_ s''=>wpAny (model PW w) A (pure Flow.next) Q E s'') E s') hsc hset hit he hifs e1 R F (λl S' M3 hx tk Cc D e' ce=> ?_) λx h2 tk e' x'=> ?_)
  ·subst e';obtain⟨rb,e2,h⟩:=bind_some h;refine aT (m:=OZ l) (f:=λa=>X.NQ a.1 (i3 a.2 S')) e2 λg e3 e4=> ?_
   obtain⟨_,rfl⟩:=uE e4;have hl:g.2= .lst l:=by obtain rfl:=Option.some.inj e3;rfl
   refine lY (show wu (putN C x g.2 false r S').p _=_ from h) λrc e5 o _=> ?_
   rw[hl] at e5;obtain⟨r1,hl,e5⟩:=bind_some (show(dF r x (.lst l)).bind _=_ from e5);obtain rfl:=Option.some.inj e5;cases o _ _ rfl;have F3:=F.spread ce.k ce.s1 ce.s2 ce.st ce.lv;have cF:Cc∉aE env mu:=λm=>F.live.fresh ce.cn (F.fj _ m)
   show wpAny _ A (assign (.Name x pn) env (.ref D)) _ E (up s hx tk);refine wpAny_assign_Name (cG (s:=up s hx tk) F3 hl ((ax.bo rfl).mpr (nR (p:=(D,D)) ce.md ce.dM)) λh2 tk2 k2 F4=> ?_);obtain⟨m,hC⟩:=ce.ns;refine⟨m,k2.ns cF hC,λh3 sb=>wpAny_pure (wpAny_pure ?_)⟩;have kp3:=b5 sb;have g2:bJ M mu env s.heap M3 mu h2:=⟨ce.s1,⟨[],(List.append_nil _).symm,λ_ m=>zE m⟩,ce.s2,(ce.k.eO aC).back k2 (λb z m=>(ce.s2 b m).elim id λe=>absurd e z) λ_ _ m=>m⟩;exact P _ _ h3 tk2 (g2.drop kp3 ce.cn F.live) (F4.drop kp3 ce.cM cF (F.sI ce.cn))
  ·subst e';obtain rfl:=Option.some.inj h;exact P x h2 tk (du aC x')
end
set_option tactic.hygienic false
section
variable {w:World} {n:Nat} {C:ay} {k:Nat} {M M1 Mc:List Addr} {N:Addr→Prop} {mu mu':Mu} {env cenv:Env} {r r' rc:Loc} {S S':List AV} {A:Around} {s:Shared} {E:Value→Shared→Prop} {FL:List Env} {h h' hb:Heap}
theorem iV {x z:Str} {b:LV} {t:Loc} {v:AV} (e:seq x z=true):dF ((z,b)::t) x v=if b.k.EH=true then some ((z,⟨b.k,some v⟩)::t) else none:=by
 show(match seq x z with|true=>_|false=>_)=_;rw[e]
theorem cJ {x z:Str} {b:LV} {t:Loc} {v:AV} (e:seq x z=false):dF ((z,b)::t) x v=(dF t x v).map ((z,b)::·):=by
 show(match seq x z with|true=>_|false=>_)=_;rw[e]
theorem vv {α:Type} {c:Prop} [Decidable c] {a b:α} (h:(if c then some a else none)=some b):c∧a=b:=by
 by_cases q:c
 ·rw[if_pos q] at h;exact⟨q,Option.some.inj h⟩
 ·rw[if_neg q] at h;exact zA h
theorem Ap {x y:Str} {v1 v2:AV} (ne:seq x y=false) {r:Loc}:∀{r1 r2:Loc},dF r x v1=some r1→dF r1 y v2=some r2→∃r1',dF r y v2=some r1'∧dF r1' x v1=some r2:=by
 induction r with
 |nil=>exactλh1 _=>zA h1
 |cons p t ih=>
  obtain⟨z,b⟩:=p;intro r1 r2 h1 h2;cases qx:seq x z with
  |true=>
   obtain rfl:=bw.mp qx;have qy:seq y x=false:=by rw[seq_eq] at ne⊢;exact beq_false_of_ne λe=>ne_of_beq_false ne e.symm
   rw[iV qx] at h1;obtain⟨c,rfl⟩:=vv h1;rw[cJ qy] at h2;obtain⟨t2,e2,rfl⟩:=Option.map_eq_some_iff.mp h2;exact⟨(x,b)::t2,by rw[cJ qy,e2];rfl,by rw[iV qx,if_pos c]⟩
  |false=>
   rw[cJ qx] at h1;obtain⟨t1,e1,rfl⟩:=Option.map_eq_some_iff.mp h1;cases qy:seq y z with
   |true=>
    rw[iV qy] at h2;obtain⟨c,rfl⟩:=vv h2;exact⟨(z,⟨b.k,some v2⟩)::t,by rw[iV qy,if_pos c],by rw[cJ qx,e1];rfl⟩
   |false=>
    rw[cJ qy] at h2;obtain⟨t2,e2,rfl⟩:=Option.map_eq_some_iff.mp h2;obtain⟨t1',g1,g2⟩:=ih e1 e2;exact⟨(z,b)::t1',by rw[cJ qy,g1];rfl,by rw[cJ qx,g2];rfl⟩
theorem LU {α:Type}:∀{l:List α},2=l.length→∃a b,l=[a,b]
 |[a,b],_=>⟨a,b,rfl⟩
noncomputable def xx (x y:Str) (a b:Expr):Bool:= !(seq x y)&&([a,b].all (foldedForSure 8)|| !([a,b].all (constantsAlone 8)))
theorem xl {x y:Str} {px py p p2:Pos} {c c2:Nat} {a b:Expr} (hf:xx x y a b=true):
 swappedStores [.Tuple [.Name x px,.Name y py] c p] (.Tuple [a,b] c2 p2) env=pure none∨(swappedStores [.Tuple [.Name x px,.Name y py] c p] (.Tuple [a,b] c2 p2) env=pure (some [x,y])):=by
 have hf:=Bool.and_eq_true_iff.mp hf;unfold swappedStores;dsimp only;split
 ·exact .inl rfl
 split
 ·exact .inl rfl
 split
 ·exact .inl rfl
 rename_i hn
 split
 ·exact .inl rfl
 rename_i hfold
 split
 ·rename_i hc
  exfalso
  rcases Bool.or_eq_true_iff.mp hf.2 with hf|hf
  ·exact hfold hf
  ·rw[hc] at hf;exact zC hf
 ·right
  have e1:(Option.map (λx=>x.pos.line) [Expr.Name x px,Expr.Name y py].head?).getD 0=px.line:=rfl;rw[e1] at hn⊢;by_cases hx:env.kindOf x=some NameKind.local
  ·by_cases hy:env.kindOf y=some NameKind.local∧py.line=px.line
   ·simp [List.filterMap_cons,hx,hy.1,hy.2]
   ·exfalso;apply hn;simp [List.filterMap_cons,hx,hy]
  ·exfalso
   apply hn;by_cases hy:env.kindOf y=some NameKind.local∧py.line=px.line
   ·simp [List.filterMap_cons,hx,hy.1,hy.2]
   ·simp [List.filterMap_cons,hx,hy]
theorem H8 {ad:Addr} {u1 u2:Value} {mm:Nat} {v1 v2:AV} {x y:Str} {r1 r2:Loc} {Q:Flow→Shared→Prop} (hxy:seq x y=false) (l1:dF r x v1=some r1) (l2:dF r1 y v2=some r2) (R:cq n FL A) (F:FS w.params M FL env mu r S s.heap) (eo:s.heap.get? ad=some (bC #[u1,u2] mm)) (a1:Rep w.params M s.heap v1 u1) (a2:Rep w.params M s.heap v2 u2)
 (q:∀h' tk,ah M (aE env mu) s.heap h'→FS w.params M FL env mu r2 S h'→Q .next (up s h' tk)):wpAny (model PW w) A (do
  rule "assign.swapped-stores"
  let items←unpackItems (.ref ad) 2 none
  assignInOrder ([x,y].reverse.map λn=>bindName env n) items.reverse
  pure Flow.next) Q E s:=by
 obtain⟨r1',g1,g2⟩:=Ap hxy l1 l2;refine wpAny_bind (wpAny_rule (wpAny_bind (wpAny_unpackItems_tuple (items:= #[u1,u2]) R.handled ⟨_,eo,rfl,_,rfl⟩ λh2 eb=> ?_)));have kp:aF [] s.heap h2:=λb o _ e=>eb b o (Nat.ne_of_lt (Heap.lt_size e)) e
 have k2:ah M (b9 mu) s.heap h2:=kp.m0;have F2:=F.go k2 (F.store.keep kp);have ge:=F.bL k2;refine wpAny_bind ?_;show wpAny _ A (do holding [u1] (bindName env y u2);do holding [] (bindName env x u1);pure ()) _ E _;refine wpAny_bind (wpAny_holding (wpAny_bindName (cG (s:=up s h2 s.toks) F2 g1 ((ax.bo (cT a2)).mpr (aD.mono ge a2)) λh3 tk3 k3 F3=> ?_)));exact wpAny_bind (wpAny_holding (wpAny_bindName (cG (s:=up s h3 tk3) F3 g2 ((ax.bo (cT a1)).mpr (aD.mono (k3.aG F2.fj) (aD.mono ge a1))) λh4 tk4 k4 F4=>wpAny_pure (wpAny_pure (q h4 tk4 ((k2.eO aC).trans (k3.trans k4)) F4)))))
theorem qI {x y:Str} {px py p p2 q:Pos} {c c2:Nat} {a b:Expr} (hf:xx x y a b=true) (he:bf w aA n C (.Tuple [a,b] c2 p2)):dg w n C k (.Assign [.Tuple [.Name x px,.Name y py] c p] (.Tuple [a,b] c2 p2) q):=by
 intro r S res h Mc N M mu env FL A s Q E R cc F P;have hok:∀t∈[Expr.Name x px,Expr.Name y py],jc w n C t:=List.forall_mem_cons.mpr ⟨jX,List.forall_mem_cons.mpr ⟨jX,λ_ m=>zE m⟩⟩;rw[exec_Assign_arm];refine wpAny_bind (wpAny_standAt ?_);refine(show swapsWithSole [Expr.Tuple [.Name x px,.Name y py] c p] (.Tuple [a,b] c2 p2) q.line env=pure false from rfl).symm▸?_;refine wpAny_bind (wpAny_pure ?_);rw[if_neg (by decide)];refine wpAny_bind (qL (fK.symm.trans h) (he _ _ _ _ _) R F P λv S1 u h1 tk1 h k1 F1 tv P=> ?_);rcases xl (env:=env) (c:=c) (c2:=c2) (p:=p) (p2:=p2) (px:=px) (py:=py) hf with hw|hw
 ·refine hw.symm▸?_;refine wpAny_bind (wpAny_pure ?_);show wpAny _ A (do assignAll u ((assignEach [Expr.Tuple [.Name x px,.Name y py] c p] env).map (·.2));pure Flow.next) Q E _;refine wpAny_bind (yw (Mc:=Mc) (N:=N) (f:=pure ()) (Q:=λf s=>wpAny (model PW w) A (pure Flow.next) Q E s) h ?_ λra e P=>qV hok rfl _ _ _ _ e R F1 tv P);cases res with
  |aY r' S'=>exactλM' mu' h2 tk2 g F2=>wpAny_pure (P M' mu' h2 tk2 g F2)
  |exc=>exact P
  |_=>exact lY h λra e1 o x=>by cases ra with|ok r S=>cases o _ _ rfl|exc=>cases x rfl
 ·refine hw.symm▸?_;refine wpAny_bind (wpAny_pure ?_);refine lY h λra e1 o _=> ?_
  refine cps λG kf=> ?_
  obtain⟨vs,hv,e1⟩:=bind_some (show(X.lift (sW v) λvs=>if 2=vs.length then MA C [Expr.Name x px,Expr.Name y py] vs r S1 else X.fail).p=some ra from e1);refine kf ?_;refine aQ e1 λhl e9=> ?_
  refine cps λG kf=> ?_
  obtain rfl:=fR hv;obtain⟨v1,v2,rfl⟩:∃v1 v2,vs=[v1,v2]:=LU hl;obtain⟨rb,e2,e3⟩:=bind_some e9;obtain⟨r1,l1,e2⟩:=bind_some e2;refine kf ?_;obtain rfl:=Option.some.inj e2;refine cps λG kf=> ?_
  obtain⟨rd,e4,e5⟩:=bind_some e3;obtain⟨r2,l2,e4⟩:=bind_some e4;refine kf ?_;obtain rfl:=Option.some.inj e4;obtain rfl:=Option.some.inj e5;cases o _ _ rfl;refine cps λG kf=> ?_
  obtain⟨ad,⟨uus⟩,mm,rfl,eo,rl,_⟩:=aD.out (g:=Heap.get? _) tv λ_ _ e=>e
  obtain⟨u1,u2,rfl,a1,a2⟩:=F2.two rl;refine kf ?_;exact H8 (s:=up s h1 tk1) (Bool.not_eq_true' _|>.mp (Bool.and_eq_true_iff.mp hf).1) l1 l2 R F1 (af.mp eo).2 a1 a2 λh4 tk4 k4 F4=>P _ _ h4 tk4 (.of_keep k4) F4
end
set_option tactic.hygienic false
noncomputable def QR (f:Expr→Bool) (g:Comprehension):Bool:=f g.iter&&g.ifs.all f&&jz g.iter&&(g.is_async==0)
noncomputable def Nv (f:Expr→Bool) (e:Expr):Bool:=if h:e.ctorIdx=26 then Expr.Slice.elim (motive_1:=λ_=>Bool) e h λlo hi st _=>lo.all f&&hi.all f&&st.isNone else false
noncomputable def Ny (f:Expr→Bool) (n l:Nat) (e:Expr):Bool:=if h:e.ctorIdx=20 then Expr.Attribute.elim (motive_1:=λ_=>Bool) e h λo _ ap=>f o&&ib o&&decide (n<30)&&(ap.endLine==l) else false
noncomputable def Nf (f:Expr→Bool):Expr→Bool
 | .BinOp a _ b _=>f a&&f b
 | .UnaryOp _ a _=>f a
 | .BoolOp _ es _=>es.all f
 | .IfExp t a b _=>f t&&f a&&f b
 | .Compare l _ cs _=>f l&&cs.all f
 | .List es _=>es.all f
 | .Tuple es _ _=>es.all f
 | .Dict ks vs _=>ks.all (·.any f)&&vs.all f&&(ks.length==vs.length)&&decide (ks.length≤15)
 | .ListComp e gs sc _=>f e&&gs.all (QR f)&&j5 sc
 | .Attribute o a _=>f o&&ib o&&dQ.contains a
 | .Subscript o i _=>f o&&(if Gz i=true then Nv f i else f i)
 | .Call g as ks p=> !ks.isEmpty||(as.all f&&bN as&&(if isAt g=true then Ny f as.length p.line g else f g))
 |_=>true
noncomputable def Qg:Nat→Expr→Bool
 |0,_=>false
 |n+1,e=>Nf (Qg n) e
noncomputable def OS (e:Expr):Bool:=Nat.beq e.ctorIdx 8
structure Ok (w:World) (n:Nat) (C:ay) (e:Expr):Prop where
 ev:bf w aA n C e
 t:nG w aA n C e
 evc:Cm e=true→kF w aA n C e
 disp:eH e=true→gL w n C e
 lc:OS e=true→∀k x pn q,dg w n C k (.Assign [.Name x pn] e q)
section
variable {w:World} {n:Nat} {C:ay} {K:Frag} {e:Expr} {f:Expr→Bool}
theorem fe (h:∀r S,(dE C e r S).p=none):bf w aA n C e:=λr S M mu env res q=>nomatch (h r S).symm.trans q
theorem bB (h:∀r S,(dT C e r S).p=none):nG w aA n C e:=λr S M mu env res q=>nomatch (h r S).symm.trans q
theorem aW {k:Nat} {st:Stmt} (h:∀r S,(dS C k st r S).p=none):dg w n C k st:=λr S res q=>nomatch (h r S).symm.trans q
theorem Ok.of (h1:bf w aA n C e) (h2:nG w aA n C e) (c1:Cm e=false) (c2:eH e=false) (c3:OS e=false):Ok w n C e:=⟨h1,h2,λq=>(zC (c1.symm.trans q)),λq=>(zC (c2.symm.trans q)),λq=>(zC (c3.symm.trans q))⟩
theorem gy {es:List Expr} (h:∀e∈es,Ok w n C e):g7 w aA n C es:=by
 induction es with
 |nil=>exact yq
 |cons e es ih=>exact oG (h _ List.mem_cons_self).ev (ih λe m=>h e (List.mem_cons_of_mem _ m))
theorem zx {o:BoolOp} {es:List Expr} (h:∀e∈es,Ok w n C e):kP w aA n C o es:=by
 induction es with
 |nil=>exact zU
 |cons e es ih=>exact w6 (h _ List.mem_cons_self).ev (ih λe m=>h e (List.mem_cons_of_mem _ m))
theorem DW {o:BoolOp} {es:List Expr} (h:∀e∈es,Ok w n C e):qc w aA n C o es:=by
 induction es with
 |nil=>exact C9
 |cons e es ih=>exact zX (h _ List.mem_cons_self).t (ih λe m=>h e (List.mem_cons_of_mem _ m))
theorem rZ {es:List Expr} (h:∀e∈es,Ok w n C e):iY w aA n C es:=by
 induction es with
 |nil=>exact Ac
 |cons e es ih=>exact wA IE (h _ List.mem_cons_self).ev (ih λe m=>h e (List.mem_cons_of_mem _ m))
theorem AM {ks:List (Option Expr)}:ks.all (·.any f)=true→∃l:List Expr,ks=l.map some∧∀k∈l,f k=true:=by
 induction ks with
 |nil=>exactλ_=>⟨[],rfl,λ_ m=>zE m⟩
 |cons k ks ih=>
  intro h;have h:=Bool.and_eq_true_iff.mp h;obtain⟨l,rfl,hl⟩:=ih h.2;cases k with
  |none=>exact zC h.1
  |some k=>exact⟨k::l,rfl,List.forall_mem_cons.mpr ⟨h.1,hl⟩⟩
theorem yY (H:∀e,f e=true→Ok w n C e) {o:Option Expr} (h:o.all f=true):uv w aA n C o:=by
 cases o with
 |none=>exact CE
 |some x=>exact Bq (H x h).ev
set_option tactic.hygienic true in
theorem Hs (B:Base w aA n C K) (H:∀e,f e=true→Ok w n C e) (e:Expr) (h:Nf f e=true):Ok w n C e:=by
 have all:∀{es:List Expr},es.all f=true→∀e∈es,Ok w n C e:=λh e m=>H e (List.all_eq_true.mp h e m)
 cases e with
 |Constant c k p=>exact .of (mX c k p) (wY (mX c k p)) rfl rfl rfl
 |Name x p=>exact .of (yZ B.globs B.glob x p) (L5 (yZ B.globs B.glob x p)) rfl rfl rfl
 |BinOp a o b p=>
  have h:=Bool.and_eq_true_iff.mp h;exact .of (ET (H a h.1).ev (H b h.2).ev (H9 o)) (bB λ_ _=>rfl) rfl rfl rfl
 |UnaryOp o a p=>
  cases o with
  |Not=>exact .of (Lq (H a h).ev) (N0 (H a h).t) rfl rfl rfl
  |USub=>exact .of (HG (H a h).ev) (bB λ_ _=>rfl) rfl rfl rfl
  |_=>exact .of (fe λ_ _=>rfl) (bB λ_ _=>rfl) rfl rfl rfl
 |BoolOp o es p=>exact .of (zZ (zx (all h))) (D3 (DW (all h))) rfl rfl rfl
 |IfExp t a b p=>
  have h:=Bool.and_eq_true_iff.mp h;have h1:=Bool.and_eq_true_iff.mp h.1;exact .of (CD (H t h1.1).t (H a h1.2).ev (H b h.2).ev) (GA (H t h1.1).t (H a h1.2).t (H b h.2).t) rfl rfl rfl
 |Compare l ops cs p=>
  have h:=Bool.and_eq_true_iff.mp h;exact .of (xT (H l h.1).ev (rZ (all h.2))) (zf (H l h.1).ev (rZ (all h.2))) rfl rfl rfl
 |List es p=>exact⟨Gb (gy (all h)),bB λ_ _=>rfl,λq=>(zC q),λ_=>Au (gy (all h)),λq=>(zC q)⟩
 |Tuple es k p=>exact .of (u3 (gy (all h))) (bB λ_ _=>rfl) rfl rfl rfl
 |Dict ks vs p=>
  have h:=Bool.and_eq_true_iff.mp h;have h1:=Bool.and_eq_true_iff.mp h.1;have h2:=Bool.and_eq_true_iff.mp h1.1;obtain⟨l,rfl,hl⟩:=AM h2.1;have d:gL w n C (.Dict (l.map some) vs p):=by
   have hlen:l.length=vs.length:=(List.length_map (as:=l) some).symm.trans (eq_of_beq h1.2);cases l with
   |nil=>obtain rfl:=List.eq_nil_of_length_eq_zero hlen.symm;exact xI B.big
   |cons k l=>exact zT B.big hlen rfl (List.length_map (as:=k::l) some▸of_decide_eq_true h.2) (λe m=>(H e (hl e m)).ev) λe m=>(all h2.2 e m).ev
  exact⟨xR d,bB λ_ _=>rfl,λq=>(zC q),λ_=>d,λq=>(zC q)⟩
 |ListComp e gs sc p=>
  have h:=Bool.and_eq_true_iff.mp h;have h1:=Bool.and_eq_true_iff.mp h.1;cases gs with
  |nil=>exact⟨fe λ_ _=>rfl,bB λ_ _=>rfl,λq=>(zC q),λq=>(zC q),λ_ k x pn q=>aW λ_ _=>rfl⟩
  |cons g gs=>
   cases gs with
   |cons g' gs'=>exact⟨fe λ_ _=>rfl,bB λ_ _=>rfl,λq=>(zC q),λq=>(zC q),λ_ k x pn q=>aW λ_ _=>rfl⟩
   |nil=>
    obtain⟨t,it,ifs,a⟩:=g;have g1:=Bool.and_eq_true_iff.mp (Bool.and_eq_true_iff.mp h1.2).1;have g2:=Bool.and_eq_true_iff.mp g1.1;have g3:=Bool.and_eq_true_iff.mp g2.1;obtain rfl:a=0:=eq_of_beq g1.2;have hi:=(H it g3.1).ev;have he:=(H e h1.1).ev;have hf:∀c∈ifs,nG w aA n C c:=λc m=>(all g3.2 c m).t
    exact⟨yt h.2 g2.2 hi he hf,bB λ_ _=>rfl,λq=>(zC q),λq=>(zC q),λ_ k x pn q=>qD h.2 g2.2 hi he hf⟩
 |Attribute o a p=>
  have h:=Bool.and_eq_true_iff.mp h;have h1:=Bool.and_eq_true_iff.mp h.1;exact .of (th B.cls B.inn (λenv=>tM h1.2 env _) h.2 (H o h1.1).ev) (bB λ_ _=>rfl) rfl rfl rfl
 |Subscript o i p=>
  have h:=Bool.and_eq_true_iff.mp h;refine .of ?_ (bB λ_ _=>rfl) rfl rfl rfl;cases q:Gz i with
  |false=>rw[q] at h;exact uc q (H o h.1).ev (H i h.2).ev
  |true=>
   rw[q] at h;cases i<;>first|exact zC q|skip
   rename_i lo hi st q
   have h2:=Bool.and_eq_true_iff.mp h.2;obtain rfl:=Option.isNone_iff_eq_none.mp h2.2;have h3:=Bool.and_eq_true_iff.mp h2.1;exact vy (H o h.1).ev (yY H h3.1) (yY H h3.2)
 |Call g as ks p=>
  cases ks with
  |cons k ks=>exact⟨fe λ_ _=>rfl,bB λ_ _=>rfl,λ_ r S M mu env res q=>(zA q),λq=>(zC q),λq=>(zC q)⟩
  |nil=>
   have h:=Bool.and_eq_true_iff.mp h;have h1:=Bool.and_eq_true_iff.mp h.1;have c:kF w aA n C (.Call g as [] p):=by
    have h2:=h.2;cases q:isAt g with
    |false=>rw[q] at h2;exact HT B q h1.2 (H g h2).ev (gy (all h1.1))
    |true=>
     rw[q] at h2;cases g with
     |Attribute o m ap=>
      have a1:=Bool.and_eq_true_iff.mp h2;have a2:=Bool.and_eq_true_iff.mp a1.1;have a3:=Bool.and_eq_true_iff.mp a2.1;exact EU B a3.2 h1.2 (of_decide_eq_true a2.2) a1.2 (H o a3.1).ev (gy (all h1.1))
     |_=>exact zC q
   exact⟨z7 c,Bu c,λ_=>c,λq=>(zC q),λq=>(zC q)⟩
 |_=>exact .of (fe λ_ _=>rfl) (bB λ_ _=>rfl) rfl rfl rfl
theorem L7 (B:Base w aA n C K) (k:Nat):∀e,Qg k e=true→Ok w n C e:=by
 induction k with
 |zero=>exactλ_ h=>zC h
 |succ k ih=>exact Hs B ih
end
set_option tactic.hygienic false
noncomputable def Qr {α:Type}:List α→Option (α×α)
 |[]=>none
 |x::r=>(one r).map λy=>(x,y)
noncomputable def LR (f:Expr→Bool):Expr→Bool
 | .Name _ _=>true
 | .Attribute o a _=>f o&&dQ.contains a
 | .Subscript o i _=>f o&&f i
 |_=>false
noncomputable def RJ (f:Expr→Bool) (ts es:List Expr):Bool:=(Qr ts).any λp=>(Qr es).any λq=>(ic p.1).any λx=>(ic p.2).any λy=>f q.1&&f q.2&&xx x y q.1 q.2
noncomputable def EE (f:Expr→Bool) (t e:Expr):Bool:=match fV t with
 |none=>f e&&LR f t
 |some ts=>match fV e with
  |none=>f e&&ts.all (LR f)
  |some es=>RJ f ts es
noncomputable def B2 (f:Expr→Bool) (e:Expr):Bool:=match fV e with
 |some es=>es.all f&&decide (es.length<30)
 |none=>f e
noncomputable def y5 (f:Expr→Bool) (e:Expr):Bool:=(uf e).all λq=>f q.1&&q.2.1.all f&&bN q.2.1&& !isAt q.1
noncomputable def Nl (f:Expr→Bool) (g:List Stmt→Bool):Stmt→Bool
 | .Expr e _=>f e
 | .Return oe _=>oe.all (B2 f)
 | .Assign ts e _=>(one ts).all λt=>EE f t e
 | .If t a b _=>f t&&g a&&g b
 | .For _ it b _ _=>f it&&g b&&jz it
 | .While t b _ _=>f t&&g b
 | .Raise e _ _=>e.all (y5 f)
 | .Try b _ _ _ _=>g b
 |_=>true
noncomputable def FI:Nat→List Stmt→Bool
 |0,_=>false
 |n+1,l=>l.all (Nl (Qg 40) (FI n))
structure Later (w:World) (n:Nat) (C:ay) (k:Nat):Prop where
 raise:∀{f:Expr} {as:List Expr} {cp p:Pos},bf w aA n C f→g7 w aA n C as→bN as=true→isAt f=false→dg w n C k (.Raise (some (.Call f as [] cp)) none p)
 tr:∀{b:List Stmt} {h:Option Expr} {hb:List Stmt} {hp p:Pos},g9 w n C k b→dg w n C k (.Try b [.ExceptHandler h none hb hp] [] [] p)
section
variable {w:World} {n:Nat} {C:ay} {K:Frag} {k:Nat} {f:Expr→Bool} {g:List Stmt→Bool}
theorem CS (B:Base w aA n C K) (H:∀e,f e=true→Ok w n C e) {t:Expr} (h:LR f t=true):jc w n C t∧noStar t=true∧eH t=false:=by
 cases t with
 |Name x p=>exact⟨jX,rfl,rfl⟩
 |Attribute o a p=>
  have h:=Bool.and_eq_true_iff.mp h;exact⟨qr B.cls B.inn h.2 (H o h.1).ev,rfl,rfl⟩
 |Subscript o i p=>
  have h:=Bool.and_eq_true_iff.mp h;exact⟨qo (H o h.1).ev (H i h.2).ev,rfl,rfl⟩
 |_=>exact zC h
theorem Ic {x:Str} {pn p:Pos} {e:Expr} (h:Ok w n C e):dg w n C k (.Assign [.Name x pn] e p):=by
 cases e with
 |Call g as ks q=>exact ql (h.evc rfl)
 |List es q=>exact jb rfl (h.disp rfl)
 |Dict ks vs q=>exact jb rfl (h.disp rfl)
 |ListComp e gs sc q=>exact h.lc rfl _ _ _ _
 |SetComp=>exact aW λ_ _=>rfl
 |DictComp=>exact aW λ_ _=>rfl
 |_=>exact qC rfl rfl (λ_=>rfl) h.ev
theorem yH {α:Type} {l:List α} {q:α×α} (e:Qr l=some q):l=[q.1,q.2]:=by
 cases l with
 |nil=>exact zA e
 |cons x r=>
  obtain⟨y,h,rfl⟩:=Option.map_eq_some_iff.mp e;rw[iS h]
theorem aI {α:Type} {o:Option α} {p:α→Bool} (h:o.any p=true):∃a,o=some a∧p a=true:=by
 cases o with
 |none=>exact zC h
 |some a=>exact⟨a,rfl,h⟩
theorem Ah (B:Base w aA n C K) (H:∀e,f e=true→Ok w n C e) {t e:Expr} {p:Pos} (h:EE f t e=true):dg w n C k (.Assign [t] e p):=by
 unfold EE at h;cases q:fV t with
 |none=>
  rw[q] at h;have h:=Bool.and_eq_true_iff.mp h;cases r:ic t with
  |some x=>obtain⟨pn,rfl⟩:=ez r;exact Ic (H e h.1)
  |none=>
   have a:=CS B H h.2;exact o6 r (.inl q) a.2.2 a.2.1 (H e h.1).ev (Ga q a.1)
 |some ts=>
  obtain⟨c,pt,rfl⟩:=iN q;rw[q] at h;dsimp only at h;cases r:fV e with
  |none=>
   rw[r] at h;have h:=Bool.and_eq_true_iff.mp h;have a:∀t∈ts,_:=λt m=>CS B H (List.all_eq_true.mp h.2 t m)
   exact o6 rfl (.inr r) rfl rfl (H e h.1).ev (qV (λt m=>(a t m).1) (List.all_eq_true.mpr λt m=>(a t m).2.1))
  |some es=>
   obtain⟨c2,p2,rfl⟩:=iN r;rw[r] at h;obtain⟨⟨t1,t2⟩,e1,h⟩:=aI h;obtain⟨⟨a,b⟩,e2,h⟩:=aI h;obtain⟨x,e3,h⟩:=aI h;obtain⟨y,e4,h⟩:=aI h;obtain⟨px,rfl⟩:=ez e3;obtain⟨py,rfl⟩:=ez e4;obtain rfl:=yH e1;obtain rfl:=yH e2;have h:=Bool.and_eq_true_iff.mp h;have h1:=Bool.and_eq_true_iff.mp h.1;exact qI h.2 (u3 (oG (H a h1.1).ev (oG (H b h1.2).ev yq)))
theorem Ku (H:∀e,f e=true→Ok w n C e) {e:Expr} {p:Pos} (h:B2 f e=true):dg w n C k (.Return (some e) p):=by
 unfold B2 at h;cases q:fV e with
 |some es=>
  obtain⟨c,pt,rfl⟩:=iN q;rw[q] at h;have h:=Bool.and_eq_true_iff.mp h;exact p8 (of_decide_eq_true h.2) (gy λe m=>H e (List.all_eq_true.mp h.1 e m))
 |none=>
  rw[q] at h;cases d:eH e with
  |true=>exact qA d ((H e h).disp d)
  |false=>exact AE q d (H e h).ev
theorem CU {e:Expr} {q:Expr×List Expr×Bool} (h:uf e=some q):∃ks p,e= .Call q.1 q.2.1 ks p∧q.2.2=ks.isEmpty:=by
 by_cases k:e.ctorIdx=16
 ·exact Expr.Call.elim (motive_1:=λe=>uf e=some q→∃ks p,e= .Call q.1 q.2.1 ks p∧q.2.2=ks.isEmpty) e k (λf as ks p h=>Option.some.inj h▸⟨ks,p,rfl,rfl⟩) h
 ·exact zA ((show uf e=none from dif_neg k).symm.trans h)
theorem Ex (H:∀e,f e=true→Ok w n C e) (L:Later w n C k) {e c:Option Expr} {p:Pos} (h:e.all (y5 f)=true):dg w n C k (.Raise e c p):=by
 cases c with
 |some c=>exact aW λ_ _=>rfl
 |none=>
  cases e with
  |none=>exact aW λ_ _=>rfl
  |some e=>
   have h:(uf e).all _=true:=h;cases q:uf e with
   |none=>exactλr S res h=>aT h λq' e' _=>nomatch q.symm.trans e'
   |some q'=>
    obtain⟨ks,pc,rfl,_⟩:=CU q;cases ks with
    |cons=>exact aW λ_ _=>rfl
    |nil=>
     rw[q] at h;have h:=Bool.and_eq_true_iff.mp h;have h1:=Bool.and_eq_true_iff.mp h.1;have h2:=Bool.and_eq_true_iff.mp h1.1;exact L.raise (H _ h2.1).ev (gy λe m=>H e (List.all_eq_true.mp h2.2 e m)) h1.2 (Bool.not_eq_true' _|>.mp h.2)
theorem JQ (L:Later w n C k) {b:List Stmt} {hs:List ExceptHandler} {o fi:List Stmt} {p:Pos} (hb:g9 w n C k b):dg w n C k (.Try b hs o fi p):=by
 cases o with
 |cons=>exact aW λ_ _=>rfl
 |nil=>
  cases fi with
  |cons=>exact aW λ_ _=>rfl
  |nil=>
   cases hs with
   |nil=>exact aW λ_ _=>rfl
   |cons x hs=>
    obtain⟨h',nm,hb',hp⟩:=x;cases hs with
    |cons=>exact aW λ_ _=>rfl
    |nil=>
     cases nm with
     |some _=>exact aW λ_ _=>rfl
     |none=>exact L.tr hb
theorem GD (B:Base w aA n C K) (L:Later w n C k) (H:∀e,f e=true→Ok w n C e) (G:∀l,g l=true→g9 w n C k l) (st:Stmt) (h:Nl f g st=true):dg w n C k st:=by
 cases st with
 |Assign ts e p=>
  cases q:one ts with
  |none=>exactλr S res h=>aT h λq' e' _=>nomatch q.symm.trans e'
  |some t=>
   obtain rfl:=iS q;exact Ah B H h
 |If t a b p=>
  have h:=Bool.and_eq_true_iff.mp h;have h1:=Bool.and_eq_true_iff.mp h.1;exact M8 (H t h1.1).t (G a h1.2) (G b h.2)
 |Break p=>exact Dj
 |While t b o p=>
  have h9:=Bool.and_eq_true_iff.mp h;cases o with
  |nil=>exact E3 (H t h9.1).t (G b h9.2)
  |cons=>exact aW λ_ _=>rfl
 |For t it b o p=>
  have h9:=Bool.and_eq_true_iff.mp h;have h1:=Bool.and_eq_true_iff.mp h9.1;cases o with
  |nil=>exact Kl (qX h9.2) (H it h1.1).ev (G b h1.2)
  |cons=>exact aW λ_ _=>rfl
 |Return oe p=>
  cases oe with
  |none=>exact qq
  |some e=>exact Ku H h
 |Expr e p=>
  cases e with
  |Call f as ks pp=>exact vz ((H _ h).evc rfl)
  |_=>exact aW λ_ _=>rfl
 |Raise e c p=>exact Ex H L h
 |Try b hs o fi p=>exact JQ L (G b h)
 |_=>exact aW λ_ _=>rfl
theorem Hg (B:Base w aA n C K) (L:Later w n C k) (m:Nat):∀l,FI m l=true→g9 w n C k l:=by
 induction m with
 |zero=>exactλ_ h=>zC h
 |succ m ih=>
  intro l
  induction l with
  |nil=>exactλ_=>IJ
  |cons s ss ih2=>
   intro h;have h:=Bool.and_eq_true_iff.mp h;exact Bt (GD B L (L7 B 40) ih s h.1) (ih2 h.2)
end
set_option tactic.hygienic false
noncomputable abbrev sQ:Obj:=excClassObj "MimeFault" "MimeFault" (ae 16) 119 [.ref (ae 14)] [.ref (ae 14),.type "Exception",.type "BaseException",.type "object"] true [] [] false none none (some (.ref 111)) none (some (.str "MimeFault" 322)) (some (.str "MimeFault" 330)) (some (.bool true)) "Exception.__new__"
noncomputable def BQ (w:World):Prop:=(H1 w.params).get? (ae 16)=some sQ
theorem D1 {e:Expr} {v:Bool} (h:Hn e=some v):∃q1 q2,e= .Constant (.bool v) q1 q2:=by
 by_cases k:e.ctorIdx=19
 ·refine Expr.Constant.elim (motive_1:=λe=>Hn e=some v→∃q1 q2,e= .Constant (.bool v) q1 q2) e k (λc a b h=> ?_) h;cases c with
  |bool b=>obtain rfl:=Option.some.inj h;exact⟨_,_,rfl⟩
  |_=>exact zA h
 ·exact zA ((show Hn e=none from dif_neg k).symm.trans h)
theorem BM {s:Stmt} {v:Bool} (h:Hx s=some v):∃q1 q2 q3,s= .Return (some (.Constant (.bool v) q1 q2)) q3:=by
 by_cases k:s.ctorIdx=3
 ·refine Stmt.Return.elim (motive_2:=λs=>Hx s=some v→∃q1 q2 q3,s= .Return (some (.Constant (.bool v) q1 q2)) q3) s k (λe p h=> ?_) h;cases e with
  |none=>exact zA h
  |some e=>
   obtain⟨q1,q2,e⟩:=D1 h;exact⟨q1,q2,p,e▸rfl⟩
 ·exact zA ((show Hx s=none from dif_neg k).symm.trans h)
theorem BZ {l:List Stmt} {v:Bool} (h:K5 l=some v):∃q1 q2 q3,l=[.Return (some (.Constant (.bool v) q1 q2)) q3]:=by
 cases l with
 |nil=>exact zA h
 |cons s l=>
  cases l with
  |cons=>exact zA h
  |nil=>
   obtain⟨q1,q2,q3,e⟩:=BM h;exact⟨q1,q2,q3,e▸rfl⟩
structure Mj (C:ay) (h:Option Expr) (hb:List Stmt) (r:Loc) (S:List AV) (res:ar) (x:Str) (v:Bool):Prop where
 nm:∃pn,h=some (.Name x pn)
 ret:∃q1 q2 q3,hb=[.Return (some (.Constant (.bool v) q1 q2)) q3]
 get:∃w,dm r x=some w∧w.k= .glob
 glob:C.glob x=some (.cls 16)
 em:S=[]
 res:res= .ret (.bool v) false []
theorem Ax {C:ay} {h:Option Expr} {hb:List Stmt} {r:Loc} {S:List AV} {res:ar} (e:(CQ C h hb r S).p=some res):∃x v,Mj C h hb r S res x v:=by
 refine aT (m:=h.bind ic) e λx e1 e=>aT (m:=K5 hb) e λv e2 e=>aT (m:=dm r x) e λw e3 e=>aT (m:=C.glob x) e λg e4 e=>aQ e λc e9=> ?_
 obtain⟨y,rfl,e1⟩:=Option.bind_eq_some_iff.mp e1;refine⟨x,v,(ez e1).elim λp q=>⟨p,q▸rfl⟩,BZ e2,⟨w,e3,?_⟩,iG c.2.1▸e4,List.isEmpty_iff.mp c.2.2,(Option.some.inj e9).symm⟩;have c:=c.1;cases q:w.k<;>first|rfl|(rw[q] at c;exact zC c)
theorem JX {w:World} {n:Nat} {C:ay} {k:Nat} (G:mn w) (hC:C.glob=dI) (O:BQ w) {b:List Stmt} {h:Option Expr} {hb:List Stmt} {hp p:Pos} (hbk:g9 w n C k b):dg w n C k (.Try b [.ExceptHandler h none hb hp] [] [] p):=by
 intro r S res hex Mc N M mu env FL A s Q E R c F P;refine wpAny_Try_except ?_;obtain⟨ra,e1,hex⟩:=bind_some (show(qu C k b r S).p.bind _=some res from hex);refine hbk _ _ ra e1 R c F ?_;cases ra with
 |aY r' S'=>obtain rfl:=Option.some.inj hex;exactλM' mu' h' tk g F'=>wpAny_execs_nil (P M' mu' h' tk g F')
 |brk r' S'=>obtain rfl:=Option.some.inj hex;exact P
 |ret v fr S'=>obtain rfl:=Option.some.inj hex;exact P
 |exc=>
  intro x h' tk x';obtain⟨nmx,v,ct⟩:=Ax hex;obtain⟨pn,rfl⟩:=ct.nm;obtain⟨q1,q2,q3,rfl⟩:=ct.ret;obtain⟨wv,hg,hgk⟩:=ct.get;obtain rfl:=ct.em;obtain rfl:=ct.res;obtain⟨e0,outer,L,rfl,f0,f1⟩:=F.own;obtain⟨m,hn,hx⟩:=F.names;obtain⟨⟨hd,_⟩,kx⟩:=hx nmx _ hg;unfold aX at kx;rw[hgk] at kx;refine nP (s:=up s h' tk) R.frames F.frm f0 f1 x' λh1 x1=> ?_
  refine fZ (s:=up s h1 tk) x1 λh2 x2=> ?_
  obtain rfl:mu=[]:=F.store.rV;have gr:Ge (H1 w.params) (aG M h2):=F.ground.trans (x2.1.aG F.fj);obtain⟨ea,oe,vs,rfl,e1,e2,e3,e4⟩:=x2.2;refine wpAny_handleBy_cons (codeAny_handlers_test ?_) (by intro z;cases z);refine Calls.Name_function_global F.kind kx ((G nmx (.cls 16) (hC▸ct.glob)).2 M (up s h2 tk) env _ _ _ gr F.glo F.blt λu ru=> ?_) hd;obtain rfl:u= .ref (ae 16):=ru.out (g:=Heap.get? _) λ_ _ e=>e
  have hC2:h2.get? (ae 16)=some sQ:=(af.mp (gr _ _ O)).2;obtain⟨hh,g,d,t,os⟩:=s;refine wpAny_excMatches_sub_self hC2 e2 e3 (by decide+kernel) ?_;refine codeAny_handlers_suite (fZ (s:=⟨h2,g,d,tk,os⟩) x2 λh3 x3=> ?_);refine wpAny_execs_cons (wpAny_Return_some ?_);exact wpAny_pure (P M [] _ h3 tk (.of_keep x3.1) .nil ⟨rfl,aD.bool v⟩)
section
variable {α:Type}
theorem rW {P:List (Str×α)} {n:Str} (h:n∉P.map (·.1)):P.lookup n=none:=List.lookup_eq_none_iff.mpr λp m=>bne_iff_ne.mpr λe=>h (e▸List.mem_map.mpr ⟨p,m,rfl⟩)
theorem uB {P R:List (Str×α)} {n:Str} (h:n∉P.map (·.1)):(P++R).lookup n=R.lookup n:=by rw[List.lookup_append,rW h];rfl
theorem zk {P R:List (Str×α)} {n:Str} (h:n∈P.map (·.1)):(P++R).lookup n≠none:=λq=>by
 obtain⟨p,m,e⟩:=List.mem_map.mp h;have:=List.lookup_eq_none_iff.mp q p (List.mem_append_left _ m);rw[e,bne_self_eq_false] at this;exact zC this
theorem pM {c b:Str} {P:List (Str×α)} {x:α} (h1:c∉P.map (·.1)) (h2:c≠b):c∉(P++[(b,x)]).map (·.1):=λz=>by
 rw[List.map_append] at z;exact(List.mem_append.mp z).elim h1 λz=>h2 (List.mem_singleton.mp z)
theorem Am {B:List Str}:∀{vb dfl:List α} {P:List (Str×α)},(∀b∈B,b∉P.map (·.1))→B.Nodup→dfl.length=B.length→vb.length≤B.length→
 (B.zip dfl).foldl (λsl p=>if(sl.lookup p.1).isNone then sl++[p] else sl) (P++B.zip vb)=P++B.zip (vb++dfl.drop vb.length):=by
 induction B with
 |nil=>intro vb dfl P _ _ _ _;rfl
 |cons b B ih=>
  intro vb dfl P hp nd hl hv;have nb:=(List.nodup_cons.mp nd).1;have nd:=(List.nodup_cons.mp nd).2;have hb:=hp b List.mem_cons_self;have hp':∀(x:α),∀c∈B,c∉(P++[(b,x)]).map (·.1):=λx c m=>pM (hp c (List.mem_cons_of_mem _ m)) λe=>nb (e▸m)
  cases dfl with
  |nil=>exact zH hl
  |cons d dfl=>
  have hl':=Nat.succ.inj hl;rw[List.zip_cons_cons,List.foldl_cons];cases vb with
  |nil=>
   rw[List.zip_nil_right,List.append_nil,rW hb];have:=ih (vb:=[]) (hp' d) nd hl' (Nat.zero_le _);rw[List.zip_nil_right,List.append_nil,List.nil_append] at this;exact this.trans (List.append_assoc _ _ _)
  |cons v vb=>
   have e:(P++(b::B).zip (v::vb))=P++[(b,v)]++B.zip vb:=(List.append_assoc P [(b,v)] _).symm;rw[e,List.append_assoc,uB hb,if_neg (by rw[List.singleton_append,List.lookup_cons,beq_self_eq_true];exactλq=>zC q),←List.append_assoc,ih (hp' v) nd hl' (Nat.le_of_succ_le_succ hv)];exact List.append_assoc _ _ _
theorem Bk {B:List Str}:∀{ws:List α} {P:List (Str×α)},(∀b∈B,b∉P.map (·.1))→B.Nodup→ws.length=B.length→B.filterMap (λn=>((P++B.zip ws).lookup n).map λv=>(n,v))=B.zip ws:=by
 induction B with
 |nil=>intro ws P _ _ _;rfl
 |cons b B ih=>
  intro ws P hp nd hl;have nb:=(List.nodup_cons.mp nd).1;have nd:=(List.nodup_cons.mp nd).2;cases ws with
  |nil=>exact zH hl
  |cons w ws=>
  have e:(P++(b::B).zip (w::ws))=P++[(b,w)]++B.zip ws:=(List.append_assoc P [(b,w)] _).symm;have:=ih (P:=P++[(b,w)]) (λc m=>pM (hp c (List.mem_cons_of_mem _ m)) λe=>nb (e▸m)) nd (ws:=ws) (Nat.succ.inj hl);rw[List.filterMap_cons,e,this,List.append_assoc,uB (hp b List.mem_cons_self),List.singleton_append,List.lookup_cons,beq_self_eq_true];rfl
end
theorem xU {β γ:Type} (f:γ→β→Sem (ForInStep β)) (g:β→γ→β) (hf:∀x b,f x b=pure (.yield (g b x))) (l:List γ):∀b:β,forIn l b f=(pure (l.foldl g b):Sem β):=by
 induction l with
 |nil=>exactλ_=>rfl
 |cons x l ih=>intro b;rw[List.forIn_cons,hf,pure_bind];exact ih _
theorem Ar {ns:List Str} {vals dfl:List Value} (nd:ns.Nodup) (l1:vals.length≤ns.length) (l2:ns.length≤vals.length+dfl.length) (l3:dfl.length≤ns.length):
 (!((ns.take (ns.length -(dfl.drop (dfl.length -ns.length)).length)).filter (λn=>((ns.zip vals).lookup n).isNone)).isEmpty)=false∧ns.filterMap (λn=>((((ns.drop (ns.length -(dfl.drop (dfl.length -ns.length)).length)).zip (dfl.drop (dfl.length -ns.length))).foldl (λsl p=>if(sl.lookup p.1).isNone then sl++[p] else sl) (ns.zip vals)).lookup n).map λv=>(n,v))=ns.zip (vals++dfl.drop (dfl.length -(ns.length -vals.length))):=by
 rw[Nat.sub_eq_zero_of_le l3,List.drop_zero];have split:=(List.take_append_drop (ns.length -dfl.length) ns).symm;generalize hk:ns.length -dfl.length=k at*;have lk:k≤vals.length:=hk▸Nat.sub_le_iff_le_add.mpr l2;have lA:(ns.take k).length=k:=List.length_take_of_le (hk▸Nat.sub_le _ _);have lB:(ns.drop k).length=dfl.length:=by rw[List.length_drop,←hk];exact Nat.sub_sub_self l3
 generalize ns.take k=A1 at*;generalize ns.drop k=B1 at*;obtain⟨va,vb,rfl,lva⟩:∃va vb,vals=va++vb∧va.length=k:=⟨vals.take k,vals.drop k,(List.take_append_drop _ _).symm,List.length_take_of_le lk⟩;subst split;have lz:=lA.trans lva.symm;obtain⟨nA,nB,dis⟩:=List.nodup_append.mp nd;have keys:(A1.zip va).map (·.1)=A1:=List.map_fst_zip (Nat.le_of_eq lz);have hdis:∀b∈B1,b∉(A1.zip va).map (·.1):=λb m z=>dis b (keys▸z) b m rfl
 rw[List.length_append,List.length_append,lA,lB,lva,Nat.add_le_add_iff_left] at l1;have e1:dfl.length -((A1++B1).length -(va++vb).length)=vb.length:=by rw[List.length_append,List.length_append,lA,lB,lva,Nat.add_sub_add_left];exact Nat.sub_sub_self l1
 rw[e1,List.zip_append lz];refine⟨congrArg (λl=> !(List.isEmpty l)) (List.filter_eq_nil_iff.mpr λn m q=>zk (R:=B1.zip vb) (keys.symm▸m:n∈(A1.zip va).map (·.1)) (Option.isNone_iff_eq_none.mp q)),?_⟩;rw[Am hdis nB lB.symm (lB▸l1),←List.zip_append lz,←List.append_assoc];exact Bk (P:=[]) (λ_ _ m=>zE m) nd (by rw[List.length_append,List.length_append,List.length_append,List.length_drop,lA,lB,lva,Nat.add_assoc,Nat.add_sub_cancel' l1])
theorem Rt {α:Type} {M:Model} {A:Around} {b:Bool} {x y:Sem α} {Q:α→Shared→Prop} {E:Value→Shared→Prop} {s:Shared} (h:b=false) (k:wpAny M A y Q E s):wpAny M A (if b=true then x else y) Q E s:=by subst h;exact k
theorem uU {sh:Shared} {fd:FuncData} {vals dfl:List Value} (h1:fd.params.posonlyargs=[]) (h2:fd.params.kwonlyargs=[]) (h3:fd.params.vararg=none) (h4:fd.params.kwarg=none)
 (nd:(fd.params.args.map (·.arg)).Nodup) (l1:vals.length≤(fd.params.args.map (·.arg)).length) (l2:(fd.params.args.map (·.arg)).length≤vals.length+dfl.length) (l3:dfl.length≤(fd.params.args.map (·.arg)).length)
 (hd:(dfl=[]∧fd.defaults= .none)∨∃T o n,fd.defaults= .ref T∧sh.heap.get? T=some o∧o.data= .seq dfl.toArray n):
 BindsTo sh fd ⟨vals,[]⟩ ((fd.params.args.map (·.arg)).zip (vals++dfl.drop (dfl.length -((fd.params.args.map (·.arg)).length -vals.length)))):=by
 intro M A E Q hq;have hs:∃x:Option (Array Value),(x.getD #[]).toList=dfl∧∀Q':Option (Array Value)→Shared→Prop,Q' x sh→wpAny M A (seqItems? fd.defaults) Q' E sh:=by
  rcases hd with⟨rfl,e⟩|⟨T,o,n,e,ho,hd⟩
  ·exact⟨none,rfl,λQ' q=>by rw[e];exact wpAny_pure q⟩
  ·exact⟨some dfl.toArray,List.toList_toArray,λQ' q=>by rw[e];exact wpAny_seqItems ho hd q⟩
 have bm:=Ar nd l1 l2 l3;clear hd nd l2;obtain⟨x,rfl,hs⟩:=hs;obtain⟨a1,a2,⟨p1,p2,p3,p4,p5,p6,p7⟩,a4,a5,a6,a7,a8,a9⟩:=fd;dsimp only at*;subst h1 h2 h3 h4;unfold bindArgs;refine wpAny_bind (wpAny_pure (wpAny_bind (hs _ ?_)));generalize p2.map (λx=>x.arg)=ns at*;generalize (x.getD #[]).toList=dfl at*;refine Rt (b:=decide (vals.length>ns.length)&&true) (by rw[decide_eq_false (Nat.not_lt.mpr l1)];rfl) ?_;refine Rt bm.1 ?_;refine wpAny_bind (wpAny_of_eq (xU _ (λsl p=>if(sl.lookup p.1).isNone then sl++[p] else sl) (λx b=>by show(if _ then _ else _)=_;split<;>rfl) _ _) (wpAny_bind (wpAny_pure (Rt rfl (wpAny_pure ?_)))));exact Eq.mpr (congrArg (Q · _) ((congrArg (λl=>List.filterMap _ l) (List.append_nil ns)).trans bm.2)) hq
set_option tactic.hygienic false
noncomputable def isFun:ScopeKind→Bool
 | .function=>true
 |_=>false
noncomputable def Lv:List (Str×NameKind)→Bool
 |[]=>true
 |p::l=> !(l.any λq=>seq p.1 q.1)&& !(seq p.1 (Str.ofString "__debug__"))&& !(seq p.1 (Str.ofString "__classdict__"))&&Lv l
noncomputable def xE:List Str→Bool
 |[]=>true
 |x::l=> !(l.any λy=>seq x y)&&xE l
noncomputable def O2 (s:Scope):Bool:=isFun s.kind&& !s.isCoroutine&& !s.isGenerator&&Lv s.names
noncomputable def QP (a:Arguments):Bool:=a.posonlyargs.isEmpty&&a.kwonlyargs.isEmpty&&a.vararg.isNone&&a.kwarg.isNone&&xE (a.args.map (·.arg))&&decide (a.defaults.length≤a.args.length)
noncomputable def Nd (d:Stmt):Bool:=QP (ag d)&&O2 (sc d)&&FI 20 (bd d)
theorem z8 {a b c:Bool} (h:(a&&b&&c)=true):a=true∧b=true∧c=true:=have h:=Bool.and_eq_true_iff.mp h;have k:=Bool.and_eq_true_iff.mp h.1;⟨k.1,k.2,h.2⟩
theorem fJ {a:Bool} (h:(!a)=true):a=false:=Bool.not_eq_true' _|>.mp h
theorem Aq {l:List Str}:xE l=true→l.Nodup:=by
 induction l with
 |nil=>exactλ_=>List.nodup_nil
 |cons x l ih=>
  intro h;have h:=Bool.and_eq_true_iff.mp h;exact List.nodup_cons.mpr ⟨λm=>List.any_eq_false.mp (fJ h.1) x m (bw.mpr rfl),ih h.2⟩
theorem AG {l:List (Str×NameKind)}:Lv l=true→∀{x:Str} {k:NameKind},(x,k)∈l→l.lookup x=some k∧(x==("__debug__":Str))=false∧(x==("__classdict__":Str))=false:=by
 induction l with
 |nil=>exactλ_ _ _ m=>zE m
 |cons p l ih=>
  intro h x k m;have h:=Bool.and_eq_true_iff.mp h;have h1:=z8 h.1;rcases List.mem_cons.mp m with e|m
  ·subst e;exact⟨by rw[List.lookup_cons,beq_self_eq_true],seq_eq x _▸fJ h1.2.1,seq_eq x _▸fJ h1.2.2⟩
  ·obtain⟨a,b⟩:=ih h.2 m;refine⟨?_,b⟩;rw[List.lookup_cons,beq_false_of_ne λe=>List.any_eq_false.mp (fJ h1.1) (x,k) m (bw.mpr e.symm)];exact a
inductive HE:NameKind→LV→Prop
 |loc:HE .local ⟨.loc,none⟩
 |cell:HE .cell ⟨.cell,none⟩
 |glob:HE .globalImplicit ⟨.glob,none⟩
theorem Ds {sc:Scope} {x:Str} {b:LV} (h:dm (zw sc) x=some b):∃k,(x,k)∈sc.names∧HE k b:=by
 unfold zw at h;generalize sc.names=l at*
 induction l with
 |nil=>exact zA h
 |cons p l ih=>
  obtain⟨y,k⟩:=p;have skip:(∃k',(x,k')∈l∧HE k' b)→∃k',(x,k')∈(y,k)::l∧HE k' b:=λ⟨k',m,e⟩=>⟨k',List.mem_cons_of_mem _ m,e⟩
  have go:∀{c:LV} {r:Loc},HE k c→(dm r x=some b→∃k',(x,k')∈l∧HE k' b)→dm ((y,c)::r) x=some b→∃k',(x,k')∈(y,k)::l∧HE k' b:=λ{c r} hc ih h=>by
   rw[b6] at h;cases q:seq x y with
   |true=>
    rw[q,if_pos rfl] at h;obtain rfl:=Option.some.inj h;obtain rfl:=bw.mp q;exact⟨k,List.mem_cons_self,hc⟩
   |false=>rw[q,if_neg (λq=>zC q)] at h;exact skip (ih h)
  cases k with
  |«local»=>exact go .loc ih h
  |cell=>exact go .cell ih h
  |globalImplicit=>exact go .glob ih h
  |_=>exact skip (ih h)
theorem qB {l:List (Str×NameKind)}:∀{n:Nat} {acc:List (Str×Addr)} {x:Str},((x,NameKind.cell)∈l∨∃c,(x,c)∈acc)→∃c,(x,c)∈cellsFrom n l acc:=by
 induction l with
 |nil=>exactλh=>h.elim (λm=>zE m) id
 |cons p l ih=>
  have y:=p.1;have k:=p.2;intro n acc x h;unfold cellsFrom;split
  ·refine ih ?_;rcases h with h|⟨c,m⟩
   ·rcases List.mem_cons.mp h with e|m
    ·cases e;exact .inr ⟨n,List.mem_cons_self⟩
    ·exact .inl m
   ·exact .inr ⟨c,List.mem_cons_of_mem _ m⟩
  ·rename_i q
   exact ih (h.imp (λh=>(List.mem_cons.mp h).resolve_left λe=>by cases e;exact q rfl) id)
structure FnAt (w:World) (f:Callee) (q:Str) (df m c:Value) (vals:List Value) (dv:List AV):Prop where
 obj:(H1 w.params).get? (A5 f)=some (FN (bp f) q df m c)
 code:(H1 w.params).CodeRec c q
 dvs:dZ (ag (bp f)).defaults=some dv
 rep:aP w.params (H1 w.params) dv vals
 dfl:(vals=[]∧df= .none)∨∃T,df= .ref T∧(H1 w.params).get? T=some (bC vals.toArray 0)
 ok:Nd (bp f)=true
noncomputable def J2 (w:World) (f:Callee):Prop:=∃q df m c vals dv,FnAt w f q df m c vals dv
noncomputable abbrev jA (env:Env):List Addr:=env.locals::env.cells.map (·.2)
noncomputable abbrev rC (h:Heap) (scope:Scope):Heap:=pushCells (h.push {cls:= .type "frame",data:= .dict #[]}) scope.names
section
variable {w:World} {M:List Addr} {mu:Mu} {S:List AV} {FL:List Env} {h:Heap} {env:Env} {A:Around} {E:Value→Shared→Prop}
theorem vY {scope:Scope}:∀b o,h.get? b=some o→(rC h scope).get? b=some o:=λb o e=>pushCells_keeps _ _ b o (Heap.get?_push_of_some _ e)
theorem ER {h':Heap} {W:List Addr} (new:∀a∈W,h.get? a=none) (keep:∀b o,h.get? b=some o→h'.get? b=some o):Ge (aG M h) (aG (W++M) h'):=λb o e=>
 af.mpr ⟨λm=>(List.mem_append.mp m).elim (λm=>nomatch (af.mp e).2.symm.trans (new b m)) (af.mp e).1,keep b o (af.mp e).2⟩
theorem AS {scope:Scope} {qual:Str} {func:Option Addr} {code:Value} (hs:O2 scope=true) (X:Ge (H1 w.params) (aG M h)) (lv:bG M h) (fr:mq M FL h) (muM:∀a∈b9 mu,a∈M) (nd:(b9 mu).Nodup) (st:ai w.params M h S mu)
 (he:env=newEnv scope h.objs.size mainGlobals (cellsFrom (h.objs.size+1) scope.names []) qual func code none builtinsNs):
 (∀a∈jA env,h.get? a=none)∧env.frame=some env.locals∧FS w.params (jA env++M) (env::FL) env mu (zw scope) S (rC h scope):=by
 have ok:=cellsFrom_ok scope.names (h.push {cls:= .type "frame",data:= .dict #[]}) (h.objs.size+1) [] ⟨λ_ _ hm=>(zE hm),List.Pairwise.nil⟩ (by rw[Heap.size_push];exact Nat.le_refl _);rw[Heap.size_push] at ok;have keep:=vY (h:=h) (scope:=scope);have ec:env.cells=cellsFrom (h.objs.size+1) scope.names []:=he▸rfl;have hcell:∀a∈env.cells.map (·.2),h.objs.size+1≤a∧∃o,(rC h scope).get? a=some o:=λa m=>by
  rw[ec] at m;refine cps λG kf=> ?_
  obtain⟨⟨x,c⟩,mc,rfl⟩:=List.mem_map.mp m;obtain⟨⟨o,e,_⟩,g⟩:=ok.empty x c mc;refine kf ?_;exact⟨g,o,e⟩
 have hloc:env.locals=h.objs.size:=he▸rfl;have new:∀a∈jA env,h.get? a=none:=List.forall_mem_cons.mpr ⟨hloc▸Heap.get?_none_of_le (Nat.le_refl _),λa m=>Heap.get?_none_of_le (Nat.le_of_succ_le (hcell a m).1)⟩;have frO:(rC h scope).get? env.locals=some {cls:= .type "frame",data:= .dict #[]}:=hloc▸pushCells_keeps _ _ _ _ (Heap.get?_push_size _ rfl);have ge:Ge (aG M h) (aG (jA env++M) (rC h scope)):=ER new keep;have hs:=Bool.and_eq_true_iff.mp hs;have kk:env.scope.kind= .function:=by
  have k:=(Bool.and_eq_true_iff.mp (Bool.and_eq_true_iff.mp hs.1).1).1;rw[he];show scope.kind=_;revert k;cases scope.kind<;>first|exactλ_=>rfl|exactλk=>zC k
 have mM:∀a∈M,a∈jA env++M:=λa m=>List.mem_append_right _ m
 have lockM:env.locals∈jA env++M:=List.mem_append_left _ List.mem_cons_self;have cellM:∀a∈env.cells.map (·.2),a∈jA env++M:=λa m=>List.mem_append_left _ (List.mem_cons_of_mem _ m)
 have inOld:∀a∈b9 mu,h.get? a≠none:=λa m q=>lv.fresh q (muM a m)
 refine⟨new,he▸rfl,kk,he▸rfl,he▸rfl,⟨λ_=>none,hloc▸(Heap.Ns.new h (.type "frame")).keeps (pushCells_keeps _ _),λx b hb=> ?_⟩,F2.mono (λ_ p t=>t.jY ge λo e=>keep _ o e) st,lockM,λa m=>mM a (muM a m),cellM,?_,X.trans ge,λa m=> ?_,λe m=> ?_,⟨env,FL,env.locals,rfl,he▸rfl,he▸rfl⟩⟩
 ·refine cps λG kf=> ?_
  obtain⟨k,mk,lk⟩:=Ds hb;obtain⟨lo,d⟩:=AG hs.2 mk;refine kf ?_;have ko:env.kindOf x=some k:=he▸lo;refine⟨d,?_⟩;cases lk with
  |loc=>exact⟨ko,rfl⟩
  |glob=>exact ko
  |cell=>
   refine cps λG kf=> ?_
   obtain⟨c,mc⟩:=qB (n:=h.objs.size+1) (acc:=[]) (.inl mk);obtain⟨c',lc⟩:=ja mc;refine kf ?_;have lc':env.cells.lookup x=some c':=ec▸lc;exact⟨ko,c',none,lc',cellM c' (List.mem_map.mpr ⟨(x,c'),mem_of_lookup lc',rfl⟩),(ok.empty x c' (mem_of_lookup lc)).1,rfl⟩
 ·refine List.nodup_cons.mpr ⟨λm=>(List.mem_append.mp m).elim (λm=>Nat.not_succ_le_self _ (hloc▸(hcell _ m).1)) λm=>inOld _ m (new _ List.mem_cons_self),List.nodup_append.mpr ⟨ec▸List.pairwise_map.mpr ok.apart,nd,λa ma b mb e=>inOld _ mb (e▸new _ (List.mem_cons_of_mem _ ma))⟩⟩
 ·rcases List.mem_append.mp m with m|m
  ·rcases List.mem_cons.mp m with rfl|m
   ·exact⟨_,frO⟩
   ·exact(hcell a m).2
  ·exact(lv a m).elim λo e=>⟨o,keep a o e⟩
 ·rcases List.mem_cons.mp m with rfl|m
  ·exact⟨by rw[kk];exactλq=>(nomatch q),e.locals,he▸rfl,lockM,_,frO,rfl,_,_,rfl⟩
  ·refine cps λG kf=> ?_
   obtain⟨a,L,b,c,o,d,f⟩:=fr e m;refine kf ?_;exact⟨a,L,b,mM L c,o,keep L o d,f⟩
theorem Cr {ds:List AV} {vs:List Value} (t:aP w.params (aG M h) ds vs):cw w.params M mu h ds vs:=F2.mono (λ_ _=>ax.rep) t
theorem qw {l:List Expr}:∀(n:Nat) {r:List AV},dZ l=some r→dZ (l.drop n)=some (r.drop n):=by
 induction l with
 |nil=>intro n r h;obtain rfl:=Option.some.inj h;cases n<;>rfl
 |cons x l ih=>
  intro n r h;cases n with
  |zero=>exact h
  |succ n=>
   obtain⟨y,_,h⟩:=bind_some h;obtain⟨ys,hy,h⟩:=bind_some h;obtain rfl:=Option.some.inj h;exact ih n hy
theorem sF {l:List Expr}:∀{r:List AV},dZ l=some r→r.length=l.length:=by
 induction l with
 |nil=>intro r h;obtain rfl:=Option.some.inj h;rfl
 |cons x l ih=>
  intro r h;obtain⟨y,_,h⟩:=bind_some h;obtain⟨ys,hy,h⟩:=bind_some h;obtain rfl:=Option.some.inj h;exact congrArg (·+1) (ih hy)
theorem vo {f:Str×Value→PUnit→Sem (ForInStep PUnit)} (hf:∀n v u,f (n,v) u=(do storeName env n v;pure (.yield ⟨⟩))) {ns:List Str}:∀{vs:List AV} {us:List Value} {r r':Loc} {s:Shared} {Q:PUnit→Shared→Prop},
 CP (ns.zip vs) r=some r'→cw w.params M mu s.heap vs us→FS w.params M FL env mu r S s.heap→(∀h' tk,ah M (jA env) s.heap h'→FS w.params M FL env mu r' S h'→Q ⟨⟩ (up s h' tk))→wpAny (model PW w) A (forIn (ns.zip us) ⟨⟩ f) Q E s:=by
 induction ns with
 |nil=>intro vs us r r' s Q h t F q;obtain rfl:=Option.some.inj h;exact wpAny_pure (q s.heap s.toks (.refl _ _ _) F)
 |cons n ns ih=>
  intro vs us r r' s Q h t F q;cases t with
  |nil=>obtain rfl:=Option.some.inj h;exact wpAny_pure (q s.heap s.toks (.refl _ _ _) F)
  |cons a b=>
   obtain⟨r1,h1,h2⟩:=bind_some h;rw[List.zip_cons_cons,List.forIn_cons,hf];refine wpAny_bind (wpAny_bind (ik F h1 a λx h' tk hx hx' kp F'=>wpAny_pure ?_));have xo:x∈jA env:=(bx.mp hx).elim (λe=>e▸List.mem_cons_self) λm=>m.elim (List.mem_cons_of_mem _) λm=>absurd m hx'.2
   have kp':ah M (jA env) s.heap h':=kp.eO λb m=>List.mem_singleton.mp m▸xo
   have oM:∀a∈jA env,a∈M:=List.forall_mem_cons.mpr ⟨F.locM,F.cellM⟩;exact ih (s:=up s h' tk) h2 (cw.mono (kp'.aG oM) b) F' λh'' tk' k2 F2=>q h'' tk' (kp'.trans k2) F2
theorem Ck {f:Callee} (Fn:J2 w f) (nl:(H1 w.params).NoLimit) {s:Shared} {R:Result→Shared→Prop} {vs:List AV} {us:List Value} {r0:Loc} (hroom:A.depth<recursionLimit)
 (X:Ge (H1 w.params) (aG M s.heap)) (lv:bG M s.heap) (fr:mq M FL s.heap) (muM:∀a∈b9 mu,a∈M) (nd:(b9 mu).Nodup) (tv:cw w.params M mu s.heap vs us) (st:ai w.params M s.heap S mu)
 (hb:Dw ((ag (bp f)).args.map (·.arg)) (ag (bp f)).defaults vs (zw (sc (bp f)))=some r0)
 (k:∀env h1 tk,env.frame=some env.locals→(∀a∈jA env,s.heap.get? a=none)→ah M [] s.heap h1→FS w.params (jA env++M) (env::FL) env mu r0 S h1→
  wpAny (model PW w) (A.deeper env) (PySem.execs (bd (bp f)) env) (λf s'=>R (.ok (.ret (match f with| .ret v=>v|_=> .none))) s')
   (λe s'=>wpAny (model PW w) (A.deeper env) (leaving env e) (λ_ s''=>R (.error e) s'') (λe' s''=>R (.error e') s'') s') (up s h1 tk)):
 codeAny (model PW w) A (.call (.ref (A5 f)) ⟨us,[]⟩) R s:=by
 refine cps λG kf=> ?_
 obtain⟨q,df,m,c,vals,dv,Fn⟩:=Fn;refine kf ?_;have ok:=z8 Fn.ok;have o:=Bool.and_eq_true_iff.mp ok.1;have o':=z8 o.1;have o'':=z8 o'.1;have osc:=z8 (Bool.and_eq_true_iff.mp ok.2.1).1;have at':∀b o,(H1 w.params).get? b=some o→s.heap.get? b=some o:=λb o e=>(af.mp (X b o e)).2
 have hcd:s.heap.CodeRec c q:=by
  refine cps λG kf=> ?_
  obtain⟨c,oc,vs,tq,e1,e2,e3⟩:=Fn.code;refine kf ?_;exact⟨c,oc,vs,tq,e1,at' _ _ e2,e3⟩
 refine codeAny_call_function hroom (at' _ _ Fn.obj) rfl (fJ osc.2.1) (fJ osc.2.2) rfl hcd ?_;unfold Dw at hb;split at hb
 ·rename_i hl
  have lu:=F2.length tv;have ld:=Fn.rep.length;have ldd:(ag (bp f)).defaults.length=dv.length:=(sF Fn.dvs).symm;rw[qw _ Fn.dvs] at hb;refine uU (dfl:=vals) (List.isEmpty_iff.mp o''.1) (List.isEmpty_iff.mp o''.2.1) (Option.isNone_iff_eq_none.mp o''.2.2) (Option.isNone_iff_eq_none.mp o'.2.1) (Aq o'.2.2) (lu▸hl.1) (lu▸ld▸ldd▸hl.2) (by rw[←ld,←ldd,List.length_map];exact of_decide_eq_true o.2) ?_ _ _ _ _ ?_
  ·exact Fn.dfl.imp id λ⟨T,e1,e2⟩=>⟨T,_,0,e1,at' _ _ e2,rfl⟩
  ·dsimp only[newFunctionEnv,Option.isSome_none,Bool.false_eq_true,if_false];refine wpAny_bind (wpAny_alloc ?_);refine wpAny_bind (wpAny_layCells _ (λname kind cells=>by cases hkc:kind==NameKind.cell<;>simp [hkc]) _ _ _ _ ?_);refine(show({s with heap:=s.heap.push {cls:= .type "frame",data:= .dict #[]}}:Shared).heap.objs.size=s.heap.objs.size+1 from Heap.size_push ..).symm▸?_;refine cps λG kf=> ?_
   obtain⟨new,hfr,F0⟩:=AS (w:=w) (scope:=sc (bp f)) (qual:=q++".<locals>.") (func:=some (A5 f)) (code:=c) ok.2.1 X lv fr muM nd st rfl;refine kf ?_;have l3:vals.length -(((ag (bp f)).args.map (·.arg)).length -us.length)=(ag (bp f)).defaults.length -(((ag (bp f)).args.map (·.arg)).length -vs.length):=by rw[lu,ldd,ld]
   refine l3.symm▸?_;have kn:ah M [] s.heap (rC s.heap (sc (bp f))):=aF.m0 λb o _ e=>vY b o e
   have tv':cw w.params M mu s.heap _ _:=F2.append tv (Cr (F2.drop (aP.mono X Fn.rep) ((ag (bp f)).defaults.length -(((ag (bp f)).args.map (·.arg)).length -vs.length))));refine wpAny_bind (vo (env:=newEnv (sc (bp f)) s.heap.objs.size mainGlobals (cellsFrom (s.heap.objs.size+1) (sc (bp f)).names []) (q++Str.ofString ".<locals>.") (some (A5 f)) c none builtinsNs) (λ_ _ _=>rfl) hb (cw.lift (λ_ _ e=>e) (ER new vY) tv') F0 λh' tk kp F1=>wpAny_pure ⟨nl.keeps λb o e=>(af.mp (F1.ground b o e)).2,codeAny_func (k _ h' tk hfr new ?_ F1)⟩);exact kn.back kp (λb hb m=>(List.mem_append.mp m).elim (λm=>absurd (new b m) hb) id) (λb hb m=>absurd (new b m) hb)
 ·exact zA hb
end
set_option tactic.hygienic false
noncomputable def HF (o:Option AV) (S:List AV) (o':Option AV):Prop:=(o=none∧o'=none)∨∃x y,o=some x∧S[0]? =some y∧o'=some y
theorem w5 {o:Option AV} {r:Loc} {S:List AV} {res:mH} (h:finish o (.aY r S)=some res):∃o',res= .ret .none false o'∧HF o S o':=by
 cases o with
 |none=>exact⟨none,(Option.some.inj h).symm,.inl ⟨rfl,rfl⟩⟩
 |some x=>obtain⟨y,hy,rfl⟩:=Option.map_eq_some_iff.mp h;exact⟨some y,rfl,.inr ⟨x,y,rfl,hy,rfl⟩⟩
theorem wB {o:Option AV} {v:AV} {fr:Bool} {S:List AV} {res:mH} (h:finish o (.ret v fr S)=some res):∃o',res= .ret v fr o'∧HF o S o':=by
 cases o with
 |none=>exact⟨none,(Option.some.inj h).symm,.inl ⟨rfl,rfl⟩⟩
 |some x=>obtain⟨y,hy,rfl⟩:=Option.map_eq_some_iff.mp h;exact⟨some y,rfl,.inr ⟨x,y,rfl,hy,rfl⟩⟩
section
variable {w:World} {M M':List Addr} {mu mu':Mu} {S S':List AV} {FL:List Env} {env:Env} {A:Around} {h h':Heap} {K:Frag}
theorem jC {o o':Option AV} (st0:ai w.params M h o.toList mu) (g:∃l,mu'=mu++l) {M2:List Addr} (st:ai w.params M' h' S' mu') (sub:∀a∈M2,a∈M') (hf:HF o S' o'):ai w.params M2 h' o'.toList mu:=by
 obtain⟨l,rfl⟩:=g;rcases hf with⟨rfl,rfl⟩|⟨x,y,rfl,e,rfl⟩
 ·obtain rfl:=F2.rV st0;exact .nil
 ·obtain⟨p,rfl,_⟩:=F2.one st0;obtain⟨q,hq,mr⟩:=F2.get st e;obtain rfl:=Option.some.inj (show some p=some q from hq);exact .cons (mr.less sub) .nil
theorem yl (n:Nat):∀f vs o res,run n f vs o=some res→cU f=true:=by
 cases n with
 |zero=>exactλ_ _ _ _ h=>zA h
 |succ n=>
  intro f vs o res h;obtain⟨r,e,_⟩:=bind_some h;unfold bindC at e;cases q:cU f with
  |true=>rfl
  |false=>rw[q] at e;exact zA e
structure O5 (w:World) (K:Frag):Prop where
 glob:mn w
 cls:dW K
 isi:ip K
 call:k7 K
 inn:K.In (H1 w.params)
 big:∃a o,(H1 w.params).get? a=some o∧sysModules≤a
 nolim:(H1 w.params).NoLimit
 fns:∀f,cU f=true→J2 w f
theorem O5.base (G:O5 w K) {n:Nat} (O:mT w aA n (run n)) (l:List Str):Base w aA n ⟨run n,dI,gK,l⟩ K:=
 ⟨O,yl n,du,rfl,rfl,G.cls,G.isi,G.call,G.inn,G.big,G.glob⟩
theorem Cu (G:O5 w K) {n:Nat} (O:mT w aA n (run n)) (L:∀l k,Later w n ⟨run n,dI,gK,l⟩ k):mT w aA (n+1) (run (n+1)):=by
 intro f vs o res h M mu us A s R FL RC X lv fr muM nd tv st hret hexc;have okf:=yl _ _ _ _ _ h;obtain⟨r0,hb,h⟩:=bind_some h;obtain⟨sr,he,hf⟩:=bind_some h;unfold bindC at hb;rw[okf,if_pos rfl] at hb;have Fn:=G.fns f okf;have okb:FI 20 (bd (bp f))=true:=by
  refine cps λG kf=> ?_
  obtain⟨_,_,_,_,_,_,F⟩:=Fn;refine kf ?_;exact(z8 F.ok).2.2
 refine Ck Fn G.nolim (by have:=RC.depth;omega) X lv fr muM nd tv st hb λenv h1 tk hfr new k1 F=> ?_
 have hlen:(if o.isSome then 1 else 0)=mu.length:=by
  refine F2.length st▸?_;cases o<;>rfl
 have c:Ctx M (λa=>s.heap.get? a=none) (if o.isSome then 1 else 0) (jA env++M) mu h1:=
  ⟨λa m=>List.mem_append_right _ m,λa e=>k1.old e,λi p hi e=>(by
   rw[hlen] at hi;rw[List.getElem?_eq_none hi] at e;exact zA e),λa e m=>lv.fresh e m,Nat.le_of_eq hlen⟩
 have back:∀{h'},ah (jA env++M) (aE env mu) h1 h'→ah M (b9 mu) s.heap h':=λkp=>
  (k1.eO (W':=b9 mu) λ_ m=>zE m).back kp (λb hb m=>(List.mem_append.mp m).elim (λm=>absurd (new b m) hb) id) λb hb m=>
   (bx.mp m).elim (λe=>absurd (new _ (e▸List.mem_cons_self)) hb) λm=>m.elim (λm=>absurd (new _ (List.mem_cons_of_mem _ m)) hb) id
 refine Hg (G.base O (Kz f)) (L _ _) 20 _ okb _ _ sr he (RC.frame env) c (s:=up s h1 tk) F ?_;cases sr with
 |aY r' S'=>
  intro M' mu' h' tk' g F';refine cps λG kf=> ?_
  obtain⟨o',rfl,hf9⟩:=w5 hf;refine kf ?_;have gl:∃l,mu'=mu++l:=g.more.elim λl e=>⟨l,e.1⟩
  exact hret .none false o' .none h' tk' rfl rfl (back g.keep) (jC st gl F'.store (λa m=>g.sub a (List.mem_append_right _ m)) hf9) aD.none
 |brk r' S'=>exact zA hf
 |ret v fr S'=>
  intro M' mu' u h' tk' g st' rp;refine cps λG kf=> ?_
  obtain⟨o',rfl,hf9⟩:=wB hf;refine kf ?_;have gl:∃l,mu'=mu++l:=g.more.elim λl e=>⟨l,e.1⟩
  refine hret v fr o' u h' tk' rfl rp.1 (back g.keep) (jC st gl st' (λa m=>g.sub a (List.mem_append_right _ m)) hf9) ?_;have rp:=rp.2;cases fr with
  |false=>exact rp
  |true=>
   rw[if_pos rfl] at rp⊢;unfold sU at rp;unfold aS;cases io:iJ v with
   |false=>rw[io] at rp;exact rp
   |true=>rw[io] at rp;exact rp.elim λp x=>⟨p,x.1,x.2.1,x.2.2.1,jC st gl x.2.2.2 (λ_ m=>m) hf9⟩
 |exc=>
  intro x h' tk' x';have rf:(A.deeper env).frames=some (env::FL):=(RC.frame env).frames;refine wQ (s:=up s h' tk') rf F.frm hfr hfr x' λh'' x2=> ?_
  exact hexc x h'' tk' (by cases o with|none=>obtain rfl:=Option.some.inj hf;rfl|some x=>exact zA hf) ⟨back x2.1,true,x2.2.pre λ_ e=>k1.old e⟩
theorem LF (G:O5 w K) (L:∀n,mT w aA n (run n)→∀l k,Later w n ⟨run n,dI,gK,l⟩ k) (n:Nat):mT w aA n (run n):=by
 induction n with
 |zero=>exactλ_ _ _ _ h=>zA h
 |succ n ih=>exact Cu G ih (L n ih)
end
end Mine
end
section
open PySem PySem.W
namespace Mine
set_option tactic.hygienic false
section
variable {A:Around} {E:Value→Shared→Prop} {h:Heap} {g:Array GenState} {d:Drawn} {t:Nat} {os:OsState}
variable {nm q:Str} {C N:Addr} {bs bm:List Value} {hdct:Bool} {sn:List Str} {sub:List Value} {ab:Bool} {col:Option Bool} {dd:Option Addr} {k0 k1 k2 k3 k5:Option Value}
theorem zr {M:Model} (hb:bm.contains (.type "Exception")=true) {rest:List Value} {Q:Unit→Shared→Prop} (hC:h.get? C=some (excClassObj nm q C N bs bm hdct sn sub ab col dd k0 k1 k2 k3 k5 "Exception.__new__")) (hq:Q () ⟨h,g,d,t,os⟩):
 wpAny M A (checkBuiltinCall "Exception.__new__" ⟨.ref C::rest,[]⟩) Q E ⟨h,g,d,t,os⟩:=by
 have F:=PySem.F.excBase_Exception;have hcont:(Value.ref C::bm).contains (.type "Exception")=true:=by rw[List.contains_cons,hb,Bool.or_true]
 have hstar:=F.noStar;unfold checkBuiltinCall;rw[F.newKind,F.newSplit,F.newRow];dsimp only;repeat (first|refine wpAny_loadPart_at hC ?_|(refine wpAny_isSubtype_exc hC ?_;rw[hcont])|refine wpAny_staticBase_exc hC ?_|refine wpAny_madeBy_exc hC ?_|simp only[bne_self_eq_false,Bool.false_eq_true,if_false]|wp_step)
 exact hq
theorem BN {w:World} {R:Result→Shared→Prop} (hb:bm.contains (.type "Exception")=true) (hA:bm.contains (.type "AttributeError")=false) (hN:bm.contains (.type "NameError")=false) {rest:List Value}
 (hC:h.get? C=some (excClassObj nm q C N bs bm hdct sn sub ab col dd k0 k1 k2 k3 k5 "Exception.__new__"))
 (hq:R (.ok (.ret (.ref (h.objs.size+1)))) ⟨(h.push {cls:= .type "tuple",data:= .seq rest.toArray}).push {cls:= .ref C,data:= .fields #[.ref h.objs.size,.none,.none,.none,.bool false,.none]},g,d,t,os⟩) (hrest:rest.length≤sizeLine):
 codeAny (model PW w) A (.builtin "Exception.__new__" ⟨.ref C::rest,[]⟩) R ⟨h,g,d,t,os⟩:=by
 have F:=PySem.F.excBase_Exception;have hends:=F.ends;have hcB:(Value.ref C::bm).contains (.type "Exception")=true:=by rw[List.contains_cons,hb,Bool.or_true]
 have hcA:(Value.ref C::bm).contains (.type "AttributeError")=false:=by rw[List.contains_cons,hA];rfl
 have hcN:(Value.ref C::bm).contains (.type "NameError")=false:=by rw[List.contains_cons,hN];rfl
 refine codeAny_builtinAt F.entry ?_;unfold Builtin.«BaseException.__new__»;refine wpAt_bind ?_;show wpAt _ _ _ (stack>>=_) _ _ _;refine wpAt_bind (wpAt_stack λp below=>wpAt_of_wpAny ?_);wp_walk
 refine wpAt_of_wpAny ?_;refine F.owner.symm▸?_;repeat (first|with_reducible refine wpAny_madeHere_exc F.canon hC ?_|with_reducible refine wpAny_loadPart_at hC ?_|(with_reducible refine wpAny_isSubtype_exc hC ?_;first|rw[hcB]|rw[hcA]|rw[hcN])|wp_step)
 show R _ _;rw[Heap.size_push];exact hq
theorem wD {w:World} (hb:bm.contains (.type "Exception")=true) (hA:bm.contains (.type "AttributeError")=false) (hN:bm.contains (.type "NameError")=false) {rest:List Value} {fI:Addr} {oI:Obj} {Q:Fin→Shared→Prop} {K:Frag} (X:K.In h)
 (hC:h.get? C=some (excClassObj nm q C N bs bm hdct sn sub ab col dd k0 k1 k2 k3 k5 "Exception.__new__")) (hi:findIn K (.ref C) "__init__"=some (some (.ref fI))) (hfI:h.get? fI=some oI) (hfc:oI.cls= .type "function")
 (hq:∀h' e,Heap.MadeExcOf h h' e (.ref C) rest→wpAny (model PW w) A (call (.ref fI) (.ref e::rest)) (λr s'=>r= .none∧Q (.done (.ret (.ref e))) s') E ⟨h',g,d,t,os⟩) (hrest:rest.length≤sizeLine):
 wpAny (model PW w) A (Builtin.«type.__call__» ⟨.ref C::rest,[]⟩) Q E ⟨h,g,d,t,os⟩:=by
 have F:=PySem.F.excBase_Exception;repeat (first|with_reducible refine wpAny_loadPart_at hC ?_|with_reducible refine wpAny_madeBy_exc hC ?_|wp_step)
 refine codeAny_call_builtin_code (Code.quiet_builtin _ F.quiet) (zr hb hC ?_);refine BN hb hA hN hC ?_ hrest;show wpAny _ _ _ _ _ _;have kp:∀b o,h.get? b=some o→((h.push {cls:= .type "tuple",data:= .seq rest.toArray}).push {cls:= .ref C,data:= .fields #[.ref h.objs.size,.none,.none,.none,.bool false,.none]}).get? b=some o:=
  λb o e=>Heap.get?_push_of_some _ (Heap.get?_push_of_some _ e)
 have hC₁:=kp _ _ hC;have hfI₁:=kp _ _ hfI;have X₁:K.In ((h.push {cls:= .type "tuple",data:= .seq rest.toArray}).push {cls:= .ref C,data:= .fields #[.ref h.objs.size,.none,.none,.none,.bool false,.none]}):=X.keeps kp;have hget:((h.push {cls:= .type "tuple",data:= .seq rest.toArray}).push {cls:= .ref C,data:= .fields #[.ref h.objs.size,.none,.none,.none,.bool false,.none]}).get? (h.objs.size+1)=some
  {cls:= .ref C,data:= .fields #[.ref h.objs.size,.none,.none,.none,.bool false,.none]}:=by heap_get
 have hcC:(Value.ref C::bm).contains (.ref C)=true:=by simp
 unfold isInstance;repeat (first|with_reducible refine wpAny_loadPart_at hget ?_|(with_reducible refine wpAny_isSubtype_exc hC₁ ?_;rw[hcC])|wp_step)
 show wpAny _ _ (typeLookup (.ref C) _) _ _ _;refine(looks_findIn X₁ hi).at ?_;refine wpAny_holding (wpAny_bind ?_);unfold bindSpecial;refine wpAny_bind (wpAny_typeOf (T:="function") ⟨_,hfI₁,hfc⟩ ?_);rw[if_pos (by decide)];refine wpAny_pure (wpAny_bind (wpAny_mono (hq _ (h.objs.size+1) ⟨kp,Heap.get?_none_of_le (Nat.le_succ _),h.objs.size,hget,Heap.get?_none_of_le (Nat.le_refl _),?_⟩) (λr s' hr=> ?_) λ_ _ x=>x))
 ·exact Heap.get?_push_of_some _ (Heap.get?_push_at rfl rfl)
 ·obtain⟨rfl,hQ⟩:=hr;wp_walk
  exact hQ
theorem zN {w:World} (hb:bm.contains (.type "Exception")=true) (hA:bm.contains (.type "AttributeError")=false) (hN:bm.contains (.type "NameError")=false) {rest:List Value} {fI:Addr} {oI:Obj} {Q:Value→Shared→Prop} {K:Frag} (X:K.In h)
 (hC:h.get? C=some (excClassObj nm q C N bs bm hdct sn sub ab col dd k0 k1 k2 k3 k5 "Exception.__new__")) (hi:findIn K (.ref C) "__init__"=some (some (.ref fI))) (hfI:h.get? fI=some oI) (hfc:oI.cls= .type "function")
 (hq:∀h' e,Heap.MadeExcOf h h' e (.ref C) rest→wpAny (model PW w) (A.under (.builtin "type.__call__" ⟨.ref C::rest,[]⟩)) (call (.ref fI) (.ref e::rest)) (λr s'=>r= .none∧Q (.ref e) s') E ⟨h',g,d,t,os⟩) (hrest:rest.length≤sizeLine):
 wpAny (model PW w) A (call (.ref C) rest) Q E ⟨h,g,d,t,os⟩:=by
 have f1:=tc_lookup;have f2:=tc_bind (.ref C);have hT:(⟨h,g,d,t,os⟩:Shared).TypeIs (.ref C) "type":=⟨_,hC,rfl⟩;refine wpAny_call (codeAny_of_tree ?_);show wpAny _ _ (callAny (.ref C) _) _ _ _;repeat (any_goals (first|assumption|with_reducible refine wpAny_loadPart_at hC ?_|wp_step))
 refine⟨rfl,?_⟩;refine codeAny_call_builtin_at (Code.quiet_builtin _ (by decide+kernel)) entry_typeCall (wpAny_check_type_call_sub hC (wD hb hA hN X hC hi hfI hfc (λh' e hm=> ?_) hrest));exact hq h' e hm
end
end Mine
end
section
open PySem PySem.W Builtin Builtin.ObjectAttr
namespace Mine
set_option tactic.hygienic false
theorem wV (self:Value) {C P:Addr}:refuseLoop self "__setattr__" [.ref C,.ref P,.type "Exception",.type "BaseException",.type "object"]=pure ():=by
 rw[refuseLoop_ref,refuseLoop_ref];kernel_rfl
theorem qM {name:Str} {hs:Int} {tk:Tok} {v:Value}:∀{es:List DictEntry},es.any (·.refKey)=false→(putL name hs (.str name tk) v es).any (·.refKey)=false
 |[],_=>rfl
 |e::r,h=>by
  rw[List.any_cons,Bool.or_eq_false_iff] at h;unfold putL;split
  ·rw[List.any_cons,Bool.or_eq_false_iff];exact⟨h.1,h.2⟩
  ·rw[List.any_cons,Bool.or_eq_false_iff];exact⟨h.1,qM h.2⟩
section
variable {w:World} {A:Around} {s:Shared} {E:Value→Shared→Prop} {K:Frag}
structure Jp (n:Nat) (h h':Heap) (e:Addr) (oe:Obj) (dx:Addr):Prop where
 old:∀b o,b≠e→oe.dict≠some b→h.get? b=some o→h'.get? b=some o
 exc:h'.get? e=some {oe with dict:=some dx}
 dct:∃es m,h'.get? dx=some (aU es m)∧es.toList.any (·.refKey)=false∧es.size≤n+1
 ne:dx≠e
 new:oe.dict=some dx∨h.get? dx=none
theorem uk {n:Nat} (hn:n≤49) (X:K.In s.heap) {e C P:Addr} {oe:Obj} {vs:Array Value} {name:Str} {v:Value} {cd:ClassData} {Q:Unit→Shared→Prop} (he:s.heap.get? e=some oe) (hcls:oe.cls= .ref C) (hdat:oe.data= .fields vs)
 (hs:findIn K (.ref C) "__setattr__"=some (some (.builtin "object.__setattr__"))) (hc:clsIn K C=some cd) (hm:cd.mro=[.ref C,.ref P,.type "Exception",.type "BaseException",.type "object"]) (hdct:cd.hasDict=true) (ht:takerIn K C name=some none)
 (hd:oe.dict=none∨∃dx es m,oe.dict=some dx∧s.heap.get? dx=some (aU es m)∧es.toList.any (·.refKey)=false∧es.size≤n∧dx≠e)
 (k:∀h' tk dx,Jp n s.heap h' e oe dx→Q () (up s h' tk)):
 wpAny (model PW w) A (setAttr (.ref e) name v) Q E s:=by
 have hno:notCls oe=true:=by unfold notCls;rw[hdat]
 have I:∃od,InstAt s.heap e oe C od:=by
  rcases hd with hd|⟨dx,es,m,hd,h2,_⟩
  ·exact⟨none,he,hcls,hno,by rw[hd];trivial⟩
  ·exact⟨some (aU es m),he,hcls,hno,by rw[hd];exact h2⟩
 obtain⟨od,I⟩:=I;have SF:=PySem.F.store_object;have fin:∀{A:Around} {R:PySem.Fin→Shared→Prop} {E:Value→Shared→Prop} (tk0:Tok) (h1:Heap) (dx:Addr) (es:Array DictEntry) (m:Nat),(∀b o,b≠e→s.heap.get? b=some o→h1.get? b=some o)→h1.get? e=some {oe with dict:=some dx}→h1.get? dx=some (aU es m)→
  es.toList.any (·.refKey)=false→es.size≤n→dx≠e→(oe.dict=some dx∨s.heap.get? dx=none)→(∀h' tk,Q () (up s h' tk)→R (.done (.ret .none)) (up s h' tk))→
  wpAny (model PW w) A (storeInDict dx (.str name tk0) name v) R E (up s h1 (s.toks+1)):=by
  intro A R E tk0 h1 dx es m ko e1 e2 hk hsz hne ho hR;refine wpAny_bind (wpAny_pure (wpAny_bind (uM (s:=up s h1 (s.toks+1)) e2 hk λh2 D' kp=> ?_)));have hlen:=pe (a:=name) (hs:=PyData.keyHash w.params name) (k:= .str name (up s h1 (s.toks+1)).toks) (v:=v) es.toList;have hlen2:=pe (a:=name) (hs:=PyData.keyHash w.params name) (k:= .str name (s.toks+1)) (v:=v) es.toList;have hl0:=Array.length_toList (xs:=es);refine wpAny_bind (wpAny_lookBehind D' (pastItsLine_dict (by rw[List.size_toArray,sizeLine_eq];dsimp only;omega)) (wpAny_pure ?_));refine hR h2 _ (k h2 _ dx ⟨λb o hb hb' e=> ?_,kp e _ (λz=>hne (List.mem_singleton.mp z).symm) e1,⟨_,_,D',qM hk,by rw[List.size_toArray];omega⟩,hne,ho⟩);refine kp b o (λz=> ?_) (ko b o hb e);rw[List.mem_singleton] at z;subst z;rcases ho with q|q
  ·exact hb' q
  ·rw[q] at e;exact zA e
 refine set_plain X I hs ?_;have ne:cd.mro.isEmpty=false:=by rw[hm];rfl
 have sub:Looks (model PW w) s.heap (isInstance (.ref e) (.type "object")) true:=I.type.andThen (looks_mroIn X (by unfold mroIn;rw[hc,Option.bind_some,if_neg (by rw[ne];decide),hm];rfl));refine codeAny_call_builtin SF.slot.plain SF.entry (@check_slot (model PW w) _ _ {s with toks:=s.toks+1} "object.__setattr__" "object" "__setattr__" (.ref e) [.str name s.toks,v] [] _ SF.kind SF.split sub (SF.args (.ref e) (.str name s.toks) v) ?_);obtain⟨attr,ha,hr⟩:=Option.bind_eq_some_iff.mp ht;have hmr:Looks (model PW w) s.heap (mroOf (.ref C)) cd.mro:=(looks_clsIn X hc).andThen .now;have L3:Looks (model PW w) s.heap (storeTaker? attr) none:=by
  cases attr with
  |none=>exact .now
  |some a=>
   obtain⟨b,hb,q⟩:=Option.map_eq_some_iff.mp hr;refine(looks_takesIn X hb).andThen ?_;cases b with
   |true=>exact zB q
   |false=>exact .now
 rw[osa_eq,refuse_eq];refine wpAny_bind (wpAny_bind (I.type _ _ _ _ (λ_ _ e=>e) (wpAny_bind (hmr _ _ _ _ (λ_ _ e=>e) ?_))));rw[hm,wV];refine wpAny_pure (wpAny_bind (I.type _ _ _ _ (λ_ _ e=>e) (wpAny_bind (looks_findIn (h:=s.heap) X ha _ _ _ _ (λ_ _ e=>e) (wpAny_bind (L3 _ _ _ _ (λ_ _ e=>e) ?_))))));dsimp only;refine wpAny_bind (wpAny_pure (wpAny_bind (wpAny_bind (wpAny_loadPart he ?_))));dsimp only;refine hcls.symm▸?_;refine wpAny_bind (looks_clsIn (h:=s.heap) X hc _ _ _ _ (λ_ _ e=>e) ?_);refine hdct.symm▸?_;rcases hd with hd|⟨dx,es,m,hd,h2,h3,h4,h5⟩
 ·rw[hd,hdat,if_neg (by decide)];have hne:s.heap.objs.size≠e:=Nat.ne_of_gt (Heap.lt_size he);have hfz:({oe with dict:=some s.heap.objs.size}:Obj).isFreed=false:=Obj.isFreed_of_fields (vs:=vs) hdat;refine wpAny_bind (wpAny_alloc (wpAny_bind (wpAny_update (Heap.get?_push_of_some _ he) ?_)));refine wpAny_pure (a:=some s.heap.objs.size) ?_;refine fin s.toks _ s.heap.objs.size #[] 0 (λb o hb e=> ?_) ?_ ?_ rfl (Nat.zero_le _) hne (.inr (Heap.get?_none_of_le (Nat.le_refl _))) λh' tk q=>q
  ·rw[Heap.get?_update_other _ _ (Ne.symm hb)];exact Heap.get?_push_of_some _ e
  ·exact Heap.get?_update_self _ (Heap.get?_push_of_some _ he) hfz
  ·rw[Heap.get?_update_other _ _ (Ne.symm hne)];exact Heap.get?_push_size _ rfl
 ·rw[hd,if_neg (by decide)];have e1:s.heap.get? e=some {oe with dict:=some dx}:=by rw[he,←hd]
  exact wpAny_pure (a:=some dx) (fin s.toks s.heap dx es m (λb o _ e=>e) e1 h2 h3 h4 h5 (.inl hd) λh' tk q=>q)
end
end Mine
end
section
open PySem PySem.W
namespace Mine
set_option tactic.hygienic false
section
variable {A:Around} {E:Value→Shared→Prop} {h:Heap} {g:Array GenState} {d:Drawn} {t:Nat} {os:OsState}
variable {nm q:Str} {C N:Addr} {bs bm:List Value} {hdct:Bool} {sn:List Str} {sub:List Value} {ab:Bool} {col:Option Bool} {dd:Option Addr} {k0 k1 k2 k3 k5:Option Value}
noncomputable abbrev mO (C t:Addr):Obj:={cls:= .ref C,data:= .fields #[.ref t,.none,.none,.none,.bool false,.none]}
theorem wJ {M:Model} (hb:bm.contains (.type "Exception")=true) {e t0:Addr} {rest:List Value} {Q:Unit→Shared→Prop} (hC:h.get? C=some (excClassObj nm q C N bs bm hdct sn sub ab col dd k0 k1 k2 k3 k5 "Exception.__new__")) (he:h.get? e=some (mO C t0)) (hq:Q () ⟨h,g,d,t,os⟩):
 wpAny M A (checkBuiltinCall "Exception.__init__" ⟨.ref e::rest,[]⟩) Q E ⟨h,g,d,t,os⟩:=by
 have F:=PySem.F.excBase_Exception;have hcB:(Value.ref C::bm).contains (.type "Exception")=true:=by rw[List.contains_cons,hb,Bool.or_true]
 have hshort:=F.noStar;simp only[checkBuiltinCall,F.initKind,F.initSplit,F.initRow];repeat (first|(with_reducible refine wpAny_loadPart_at he ?_)|with_reducible refine wpAny_loadPart_at hC ?_|(with_reducible refine wpAny_isSubtype_exc hC ?_;rw[hcB])|wp_step)
 refine wpAny_onRaise ?_;rw[show∀(a b:String) (n:Nat),Bind.check ⟨.positional,"*","Exception",.self,[⟨"args",.varPos,false⟩]⟩ a b n (List.map (λx=>x.fst) ({pos:=Value.ref e::rest}:Args).kw)=pure () fromλa b n=>check_star_args _ _ _ _ _ _];exact wpAny_pure hq
theorem Eh {w:World} (hb:bm.contains (.type "Exception")=true) {e t0:Addr} {v:Value} {Q:Value→Shared→Prop} (hC:h.get? C=some (excClassObj nm q C N bs bm hdct sn sub ab col dd k0 k1 k2 k3 k5 "Exception.__new__")) (he:h.get? e=some (mO C t0))
 (hq:∀h' t',(∀b o,b≠e→h.get? b=some o→h'.get? b=some o)→h'.get? e=some (mO C t')→Q .none ⟨h',g,d,t,os⟩):wpAny (model PW w) A (call (.builtin "Exception.__init__") [.ref e,v]) Q E ⟨h,g,d,t,os⟩:=by
 have F:=PySem.F.excBase_Exception;refine wpAny_call (codeAny_call_builtin F.init.plain F.initEntry (wJ hb hC he ?_));wp_walk
 have he₁:=Heap.get?_push_of_some {cls:= .type "tuple",data:= .seq #[v]} he;refine hq _ h.objs.size (λb o hb e=> ?_) ?_
 ·rw[Heap.get?_update_other _ _ (Ne.symm hb)];exact Heap.get?_push_of_some _ e
 ·rw[Heap.get?_update_self _ he₁ rfl];rfl
end
section
variable {w:World} {A:Around} {s:Shared} {E:Value→Shared→Prop} {K:Frag}
theorem Bx {pl:Sem Bool} {Q:Value×List Value→Shared→Prop} (h:Q (.builtin "Exception.__init__",[]) {s with toks:=s.toks+1}):wpAny (model PW w) A (getMethod (.type "Exception") "__init__" pl) Q E s:=by
 have X:Frag.In [] s.heap:=λ_ _ e=>by exact zA e
 have hstub:opaqueClassAbove (.type "Exception")=pure none:=by unfold opaqueClassAbove;dsimp only;rw[show Manifest.isStub "Exception"=false by decide+kernel];rfl
 have L0:Looks (model PW w) s.heap (typeOf (.type "Exception")) (.type "type"):=Looks.of_pure (by kernel_rfl);have hg:findIn [] (.type "type") "__getattribute__"=some (some (.builtin "type.__getattribute__")):=type_tga;have hf:findCls [] (.type "Exception") (.type "type") "__init__"=some (.val (.builtin "Exception.__init__")):=by kernel_rfl
 unfold getMethod specialOf;refine wpAny_bind (wpAny_bind (L0.here ((looks_findIn X hg).here ?_)));dsimp only;rw[if_pos canon_tga];refine wpAny_bind (wpAny_mono (Q:=λv=>Q (v,[])) (E:=E) ?_ (λ_ _ z=>wpAny_pure z) λ_ _ z=>z);have LO:Looks (model PW w) s.heap (opaqueClassAbove (.type "Exception")) none:=Looks.of_pure hstub;refine cls_open X LO L0 hg (looks_hook X (r:=none) (by rfl)) (by show subIn [] _ _=_;rfl) hf (wpAny_pure (by show wpAny _ _ (handedOut _) _ _ _;rw[handedOut_of (by rfl)];exact wpAny_pure h))
theorem lF {M:Model} (X:K.In s.heap) {env:Env} {x:Str} {v:Value} {Q:Value→Shared→Prop} (hg:env.globals=mainGlobals) (hb:env.builtins=builtinsNs)
 (e:nsIn K mainGlobals x=some (some v)∨(nsIn K mainGlobals x=some none∧nsIn K builtinsNs x=some (some v))) (q:Q v s):wpAny M A (loadGlobal env x) Q E s:=by
 unfold loadGlobal;rw[hg,hb];rcases e with e|⟨e1,e2⟩
 ·exact wpAny_bind ((looks_nsIn X e).here (wpAny_pure q))
 ·refine wpAny_bind ((looks_nsIn X e1).here ?_);dsimp only;exact wpAny_bind ((looks_nsIn X e2).here (wpAny_pure q))
end
end Mine
end
section
open PySem PySem.W PyProof.Rows
namespace Mine
set_option tactic.hygienic false
noncomputable def BE:List Stmt:=[.Expr (.Call (.Attribute (.Name "Exception" ⟨55,8,55,17⟩) "__init__" ⟨55,8,55,26⟩) [.Name "self" ⟨55,27,55,31⟩,.Name "what" ⟨55,33,55,37⟩] [] ⟨55,8,55,38⟩) ⟨55,8,55,38⟩,
 .Assign [.Attribute (.Name "self" ⟨56,8,56,12⟩) "what" ⟨56,8,56,17⟩] (.Name "what" ⟨56,20,56,24⟩) ⟨56,8,56,24⟩,
 .Assign [.Attribute (.Name "self" ⟨57,8,57,12⟩) "at" ⟨57,8,57,15⟩] (.Name "at" ⟨57,18,57,20⟩) ⟨57,8,57,20⟩]
theorem LH:bd (mt 14 0)=BE:=by kernel_rfl
theorem Dy:(sc (mt 14 0)).kind= .function:=by kernel_rfl
theorem RX:(sc (mt 14 0)).isCoroutine=false:=by kernel_rfl
theorem PC:(sc (mt 14 0)).isGenerator=false:=by kernel_rfl
theorem iP:(sc (mt 14 0)).names=([(Str.ofString "self",.local),(Str.ofString "what",.local),(Str.ofString "at",.local),(Str.ofString "Exception",.globalImplicit)]:List (Str×NameKind)):=by kernel_rfl
theorem o5:(ag (mt 14 0)).args.map (·.arg)=([Str.ofString "self",Str.ofString "what",Str.ofString "at"]:List Str):=by kernel_rfl
theorem ua:(ag (mt 14 0)).posonlyargs=[]∧(ag (mt 14 0)).kwonlyargs=[]∧(ag (mt 14 0)).vararg=none∧(ag (mt 14 0)).kwarg=none:=⟨by kernel_rfl,by kernel_rfl,by kernel_rfl,by kernel_rfl⟩
structure oy (w:World) (K:Frag):Prop where
 inn:K.In (H1 w.params)
 nolim:(H1 w.params).NoLimit
 fn:∃m c T tk,(H1 w.params).get? (gw 14 0)=some (FN (mt 14 0) "PostError.__init__" (.ref T) m c)∧(H1 w.params).CodeRec c "PostError.__init__"∧(H1 w.params).get? T=some (bC #[.int (-1) tk] 0)
 cls:BQ w
 find:findIn K (.ref (ae 16)) "__init__"=some (some (.ref (gw 14 0)))
 set:findIn K (.ref (ae 16)) "__setattr__"=some (some (.builtin "object.__setattr__"))
 what:takerIn K (ae 16) "what"=some none
 at_:takerIn K (ae 16) "at"=some none
 cd:∃cd,clsIn K (ae 16)=some cd∧cd.mro=[.ref (ae 16),.ref (ae 14),.type "Exception",.type "BaseException",.type "object"]∧cd.hasDict=true
 keep:keepIn K (.ref (ae 16))=true
 exc1:nsIn K mainGlobals "Exception"=some none
 exc2:nsIn K builtinsNs "Exception"=some (some (.type "Exception"))
section
variable {w:World} {A:Around} {s:Shared} {E:Value→Shared→Prop} {K:Frag}
theorem uZ {n:Nat} (hn:n≤49) (I:oy w K) {env:Env} {m:Str→Option Value} {e t0:Addr} {a x:Str} {v:Value} {p1 p2 p3 p4:Pos} {dd:Option Addr} {Q:Flow→Shared→Prop} (kind:env.scope.kind= .function) (G:∀b o,(H1 w.params).get? b=some o→s.heap.get? b=some o) (ns:s.heap.Ns env.locals m)
 (k1:env.kindOf "self"=some .local) (k2:env.kindOf x=some .local) (d2:(x==("__debug__":Str))=false) (m1:m "self"=some (.ref e)) (m2:m x=some v) (ht:takerIn K (ae 16) a=some none)
 (he:s.heap.get? e=some {mO (ae 16) t0 with dict:=dd}) (hd:dd=none∨∃dx es n',dd=some dx∧s.heap.get? dx=some (aU es n')∧es.toList.any (·.refKey)=false∧es.size≤n∧dx≠e)
 (q:∀h' tk dx,Jp n s.heap h' e {mO (ae 16) t0 with dict:=dd} dx→Q .next (up s h' tk)):wpAny (model PW w) A (PySem.exec (.Assign [.Attribute (.Name "self" p1) a p2] (.Name x p3) p4) env) Q E s:=by
 refine wpAny_Assign_stores (wpAny_Name (wpAny_loadName_local kind k2 ns m2 ?_) d2) (by rfl) (uY (t:= .Attribute (.Name "self" p1) a p2) (.inl rfl) rfl);rw[i0 rfl];show wpAny _ A (assign _ env v) _ E _;rw[arm_assign_Attribute];refine wpAny_bind (wpAny_holding (wpAny_Name (wpAny_loadName_local kind k1 ns m1 ?_) (by decide)));obtain⟨cd,c1,c2,c3⟩:=I.cd;refine wpAny_bind (wpAny_standAt (wpAny_bind (wpAny_holding (uk hn (I.inn.keeps G) he rfl rfl I.set c1 c2 c3 ht hd λh' tk dx z=>wpAny_release' ?_))));exact q h' tk dx z
theorem zi (I:oy w K) {e t0:Addr} {v:Value} {Q:Value→Shared→Prop} (hroom:A.depth<recursionLimit) (G:∀b o,(H1 w.params).get? b=some o→s.heap.get? b=some o) (he:s.heap.get? e=some (mO (ae 16) t0)) (hne:(H1 w.params).get? e=none)
 (q:∀h' tk,(∀b o,b≠e→s.heap.get? b=some o→h'.get? b=some o)→(∃dx t',h'.get? e=some {mO (ae 16) t' with dict:=some dx})→Q .none (up s h' tk)):wpAny (model PW w) A (call (.ref (gw 14 0)) [.ref e,v]) Q E s:=by
 obtain⟨mo,c,T,tk,f1,f2,f3⟩:=I.fn;have hcd:s.heap.CodeRec c "PostError.__init__":=by
  obtain⟨c,oc,vs,tq,e1,e2,e3⟩:=f2;exact⟨c,oc,vs,tq,e1,G _ _ e2,e3⟩
 have hb:=uU (sh:=s) (fd:={name:=nm (mt 14 0),qualname:="PostError.__init__",params:=ag (mt 14 0),body:= .stmts (bd (mt 14 0)),scope:=sc (mt 14 0),globals:=3,closure:=[],defaults:= .ref T,kwdefaults:= .none,pyModule:=mo,code:=c})
  (vals:=[.ref e,v]) (dfl:=[.int (-1) tk]) ua.1 ua.2.1 ua.2.2.1 ua.2.2.2 (by rw[o5];decide) (by rw[o5];exact(by decide:2≤3)) (by rw[o5];exact(by decide:3≤3)) (by rw[o5];exact(by decide:1≤3)) (.inr ⟨T,_,0,rfl,G _ _ f3,rfl⟩)
 rw[o5] at hb;have hb:BindsTo s _ _ [(Str.ofString "self",.ref e),(Str.ofString "what",v),(Str.ofString "at",.int (-1) tk)]:=hb;have hcell:∀x∈(sc (mt 14 0)).names,x.2≠.cell:=by rw[iP];decide
 have hloc:∀x∈([(Str.ofString "self",.ref e),(Str.ofString "what",v),(Str.ofString "at",.int (-1) tk)]:List (Str×Value)),(sc (mt 14 0)).names.lookup x.1=some .local:=by
  refine iP.symm▸?_;intro x m;simp only[List.mem_cons,List.not_mem_nil,or_false] at m;rcases m with rfl|rfl|rfl<;>(dsimp only;decide)
 refine wpAny_call (codeAny_call_def hroom (G _ _ f1) rfl (I.nolim.keeps G) hcd rfl hb hcell hloc (λh₀ ns kp=> ?_) RX PC Dy);generalize henv:callEnv _ _ _=env at ns⊢;have hs:env.scope=sc (mt 14 0):=by rw[←henv];rfl
 have hl:env.locals=s.heap.objs.size:=by rw[←henv];rfl
 have hg:env.globals=mainGlobals:=by rw[←henv];rfl
 have hbl:env.builtins=builtinsNs:=by rw[←henv];rfl
 have kind:env.scope.kind= .function:=by rw[hs];exact Dy
 have kS:env.kindOf "self"=some .local:=by unfold Env.kindOf;rw[hs,iP];decide
 have kW:env.kindOf "what"=some .local:=by unfold Env.kindOf;rw[hs,iP];decide
 have kA:env.kindOf "at"=some .local:=by unfold Env.kindOf;rw[hs,iP];decide
 have kE:env.kindOf "Exception"=some .globalImplicit:=by unfold Env.kindOf;rw[hs,iP];decide
 obtain⟨m,nsE,mS,mW,mA⟩:∃m:Str→Option Value,h₀.Ns env.locals m∧m "self"=some (.ref e)∧m "what"=some v∧m "at"=some (.int (-1) tk):=⟨_,by rw[hl];exact ns,by rfl,by rfl,by rfl⟩;refine LH.symm▸?_;have G0:∀b o,(H1 w.params).get? b=some o→h₀.get? b=some o:=λb o e=>kp b o (G b o e)
 refine wpAny_execs_cons (wpAny_Expr_any ?_ (by unfold interactive;rw[kind];rfl) xi);rw[arm_eval_Call,tM (by rfl)];refine wpAny_bind (Calls.Name_function_global kind kE (lF (s:={s with heap:=h₀,toks:=_}) (I.inn.keeps G0) hg hbl (.inr ⟨I.exc1,I.exc2⟩) ?_) (by decide));refine wpAny_bind (wpAny_standAt ?_);have hst:bN [.Name "self" ⟨55,27,55,31⟩,.Name "what" ⟨55,33,55,37⟩]=true:=by rfl
 have hform:methodCallForm (([.Name "self" ⟨55,27,55,31⟩,.Name "what" ⟨55,33,55,37⟩]:List Expr).length+([]:List Keyword).length) (backTo ⟨55,8,55,38⟩ (starEach [.Name "self" ⟨55,27,55,31⟩,.Name "what" ⟨55,33,55,37⟩] env)) (backToKw ⟨55,8,55,38⟩ (keywordEach [] env))=true:=by
  unfold methodCallForm;rw[List.all_eq_true.mpr λx m=>by rw[ky hst x m];rfl];rfl
 unfold methodCall;refine hform.symm▸?_;refine wpAny_bind (wpAny_holding (Bx ?_));refine wpAny_bind (wpAny_of_eq (by rfl) ?_);refine kQ (P:=λ_=>True) hst (λ_ _=>⟨.machine,.inr (.inl rfl),Looks.of_pure rfl⟩) ?_;refine Calls.spliced_cons (wpAny_Name (wpAny_loadName_local kind kS nsE mS ?_) (by decide));refine Calls.spliced_cons (wpAny_Name (wpAny_loadName_local kind kW nsE mW ?_) (by decide));refine Calls.spliced_nil ⟨trivial,?_⟩;have hC:h₀.get? (ae 16)=some sQ:=G0 _ _ I.cls;obtain⟨hh,g,dr,tt,os⟩:=s;refine Eh (by decide+kernel) hC (kp _ _ he) λh1 t1 o1 e1=> ?_
 have G1:∀b o,(H1 w.params).get? b=some o→h1.get? b=some o:=λb o q=>o1 b o (λz=>by rw[z,hne] at q;exact zA q) (G0 b o q)
 have hle:env.locals≠e:=λz=>by
  have:=Heap.lt_size he;rw[←z,hl] at this;exact Nat.lt_irrefl _ this
 have ns1:h1.Ns env.locals m:=by
  obtain⟨o,es,ep,a,r⟩:=nsE;exact⟨o,es,ep,o1 _ _ hle a,r⟩
 refine wpAny_execs_cons (uZ (n:=0) (by decide) I (dd:=none) kind G1 ns1 kS kW (by decide) mS mW I.what e1 (.inl rfl) λh2 tk2 dx z=> ?_);have hn0:h1.get? dx=none:=z.new.resolve_left (λq=>by exact zA q);have o2:∀b o,b≠e→h1.get? b=some o→h2.get? b=some o:=λb o hb q=>z.old b o hb (λq=>by exact zA q) q
 have G2:∀b o,(H1 w.params).get? b=some o→h2.get? b=some o:=λb o q=>o2 b o (λz=>by rw[z,hne] at q;exact zA q) (G1 b o q)
 have ns2:h2.Ns env.locals m:=by
  obtain⟨o,es,ep,a,r⟩:=ns1;exact⟨o,es,ep,o2 _ _ hle a,r⟩
 obtain⟨es2,n2,d1,d2,d3⟩:=z.dct;refine wpAny_execs_cons (uZ (n:=1) (by decide) I (dd:=some dx) kind G2 ns2 kS kA (by decide) mS mA I.at_ z.exc (.inr ⟨dx,es2,n2,rfl,d1,d2,d3,z.ne⟩) λh3 tk3 dy z3=> ?_);refine wpAny_execs_nil ?_;refine q h3 tk3 (λb o hb e=> ?_) ⟨dy,t1,z3.exc⟩;have hbx:b≠dx:=λq=>by
  subst q;rw[o1 b o hb (kp b o e)] at hn0;exact zB hn0
 exact z3.old b o hb (λq=>hbx (by obtain rfl:=Option.some.inj q;rfl)) (o2 b o hb (o1 b o hb (kp b o e)))
end
section
variable {M:Model} {A:Around} {E:Value→Shared→Prop} {env:Env}
variable {nm q:Str} {C N:Addr} {bs bm:List Value} {hdct:Bool} {sn:List Str} {sub:List Value} {ab:Bool} {col:Option Bool} {dd:Option Addr} {k0 k1 k2 k3 k5:Option Value} {newId:String}
theorem xj {s:Shared} {x:Sem Value} {Q:Flow→Shared→Prop} (hbase:bm.contains (.type "BaseException")=true) (hh:A.handled=none)
 (h:wpAny M A x (λv s₁=>∃e t dx,v= .ref e∧s₁.heap.get? C=some (excClassObj nm q C N bs bm hdct sn sub ab col dd k0 k1 k2 k3 k5 newId)∧s₁.heap.get? e=some {mO C t with dict:=dx}∧E (.ref e) s₁) E s):
 wpAny M A (raiseStmt env (some x) none) Q E s:=by
 have hcB:(Value.ref C::bm).contains (.type "BaseException")=true:=by rw[List.contains_cons,hbase,Bool.or_true]
 unfold raiseStmt;refine wpAny_bind (wpAny_mono h (λv s₁ h₁=> ?_) λ_ _ x=>x);refine cps λG kf=> ?_
 obtain⟨e,t,dx,rfl,hC,he,hE⟩:=h₁;obtain⟨hp,g,d,tk,os⟩:=s₁;refine kf ?_;repeat (first|with_reducible refine wpAny_loadPart_at he ?_|with_reducible refine wpAny_loadPart_at hC ?_|(with_reducible refine wpAny_isSubtype_exc hC ?_;rw[hcB])|wp_step)
 exact wpAny_raiseNew_none hh hE
end
section
variable {w:World} {n:Nat} {C:ay} {K:Frag} {k:Nat}
theorem x6 {α:Type} {m:X (Res α)} {f:α→List AV→X ar} {res:ar} (h:(m.toS f).p=some res):wu m.p (λa S=>(f a S).p)=some res:=h
theorem DE (B:Base w aA n C K) (I:oy w K) {f:Expr} {as:List Expr} {cp p:Pos} (ho:bf w aA n C f) (has:g7 w aA n C as) (hst:bN as=true) (hf:isAt f=false):dg w n C k (.Raise (some (.Call f as [] cp)) none p):=by
 intro r S res h Mc N M mu env FL A s Q E R c F P;replace h:=x6 h;have e3:eval (.Call f as [] cp) env=(do callWith cp (←eval f env) [] (backTo cp (starEach as env)) (backToKw cp (keywordEach [] env))):=by
  cases f<;>first|rfl|exact zD hf
 rw[arm_exec_Raise];refine wpAny_bind (wpAny_standAt (xj (C:=ae 16) (nm:="MimeFault") (q:="MimeFault") (N:=119) (bs:=[.ref (ae 14)]) (bm:=[.ref (ae 14),.type "Exception",.type "BaseException",.type "object"]) (hdct:=true) (sn:=[]) (sub:=[]) (ab:=false) (col:=none) (dd:=none) (k0:=some (.ref 111)) (k1:=none) (k2:=some (.str "MimeFault" 322)) (k3:=some (.str "MimeFault" 330)) (k5:=some (.bool true)) (newId:="Exception.__new__") (by decide+kernel) R.handled (wpAny_bind ?_)));refine e3.symm▸?_;refine wpAny_bind (qL h (ho _ _ _ _ _) R F P λg S1 u h1 tk1 h k1 F1 tu P=>aQ h λhg h=> ?_);obtain rfl:=iG hg;obtain rfl:u= .ref (ae 16):=aD.out (g:=Heap.get? _) tu λ_ _ e=>e
 refine kQ (P:=λh=>K.In h) hst (λh X=>tg (.inr (.inr I.keep)) X) ?_;refine qL (x6 h) (has _ _ _ _ _ _) R F1 P λvs S2 us h2 tk2 h k2 F2 tv P=>aQ h λhv h9=> ?_
 have X2:K.In h2:=gF B.inn F2;refine⟨X2,?_⟩;obtain rfl:=Option.some.inj h9;obtain⟨x,hx,_⟩:=aI hv;obtain rfl:=iS hx;obtain⟨v,rfl,_⟩:=Mine.F2.one tv;have G2:∀b o,(H1 w.params).get? b=some o→h2.get? b=some o:=λb o q=>(af.mp (F2.ground b o q)).2
 obtain⟨mo,c0,T,tk,f1,_⟩:=I.fn;obtain⟨hh,g,dr,tt,os⟩:=s;refine zN (by decide+kernel) (by decide+kernel) (by decide+kernel) X2 (G2 _ _ I.cls) I.find (G2 _ _ f1) rfl (λh3 e he=> ?_) (by rw[sizeLine_eq];exact Nat.le_of_ble_eq_true rfl);have G3:∀b o,(H1 w.params).get? b=some o→h3.get? b=some o:=λb o q=>he.keeps _ _ (G2 b o q)
 have hne:(H1 w.params).get? e=none:=by
  cases q:(H1 w.params).get? e with
  |none=>rfl
  |some o=>have:=G2 _ _ q;rw[he.new] at this;exact zA this
 obtain⟨t3,he3,_⟩:=he.there;have hw:=rt (ae 16) ([]++[v]);refine zi I (by show A.depth+_<_;have:=R.depth;omega) G3 he3 hne λh4 tk4 o4 z4=>⟨rfl,?_⟩
 obtain⟨dx,t4,e4⟩:=z4;refine wpAny_bind (wpAny_standAt (wpAny_pure ⟨e,t4,some dx,rfl,o4 _ _ (λz=>by rw[←z,I.cls] at hne;exact zB hne) (G3 _ _ I.cls),e4,?_⟩));have k3:ah M (b9 mu) h2 h4:=aF.m0 λb o _ q=>o4 b o (λz=>by rw[z,he.new] at q;exact zA q) (he.keeps b o q)
 exact P (.ref e) h4 _ ⟨k3.eO aC,false,e,_,_,rfl,he.new,e4,rfl,rfl,rfl⟩
theorem Cz (B:Base w aA n C K) (I:oy w K):Later w n C k:=⟨λa b c d=>DE B I a b c d,λh=>JX B.globs B.glob I.cls h⟩
end
set_option tactic.hygienic false
noncomputable def SX:Value→Option Bool
 | .bool b=>some b
 |_=>none
noncomputable def vI:Value→Option Int
 | .int i _=>some i
 |_=>none
noncomputable def vS:Value→Option Str
 | .str s _=>some s
 |_=>none
noncomputable def vB:Value→Option (Array UInt8)
 | .bytes b _=>some b
 |_=>none
noncomputable def vR:Value→Option Addr
 | .ref a=>some a
 |_=>none
noncomputable def vT:Value→Option String
 | .type n=>some n
 |_=>none
noncomputable def vU:Value→Option String
 | .builtin n=>some n
 |_=>none
noncomputable def vN:Value→Bool
 | .none=>true
 |_=>false
noncomputable def SN:Data→Option (Array Value×Nat)
 | .seq vs n=>some (vs,n)
 |_=>none
noncomputable def Sz:Data→Option (Array Value)
 | .fields vs=>some vs
 |_=>none
theorem Hj {v:Value} {b:Bool} (h:SX v=some b):v= .bool b:=by
 cases v<;>first|(obtain rfl:=Option.some.inj h;rfl)|exact zA h
theorem KU {v:Value} {b:Int} (h:vI v=some b):∃t,v= .int b t:=by
 cases v<;>first|(obtain rfl:=Option.some.inj h;exact⟨_,rfl⟩)|exact zA h
theorem EY {v:Value} {b:Str} (h:vS v=some b):∃t,v= .str b t:=by
 cases v<;>first|(obtain rfl:=Option.some.inj h;exact⟨_,rfl⟩)|exact zA h
theorem Lj {v:Value} {b:Array UInt8} (h:vB v=some b):∃t,v= .bytes b t:=by
 cases v<;>first|(obtain rfl:=Option.some.inj h;exact⟨_,rfl⟩)|exact zA h
theorem mK {v:Value} {b:Addr} (h:vR v=some b):v= .ref b:=by
 cases v<;>first|(obtain rfl:=Option.some.inj h;rfl)|exact zA h
theorem DV {v:Value} {b:String} (h:vT v=some b):v= .type b:=by
 cases v<;>first|(obtain rfl:=Option.some.inj h;rfl)|exact zA h
theorem B8 {v:Value} {b:String} (h:vU v=some b):v= .builtin b:=by
 cases v<;>first|(obtain rfl:=Option.some.inj h;rfl)|exact zA h
theorem Fc {v:Value} (h:vN v=true):v= .none:=by
 cases v<;>first|rfl|exact zC h
theorem Hw {d:Data} {q:Array Value×Nat} (h:SN d=some q):d= .seq q.1 q.2:=by
 cases d<;>first|(obtain rfl:=Option.some.inj h;rfl)|exact zA h
theorem Iz {d:Data} {q:Array Value} (h:Sz d=some q):d= .fields q:=by
 cases d<;>first|(obtain rfl:=Option.some.inj h;rfl)|exact zA h
noncomputable def He (o:Obj) (t:String):Bool:=(vT o.cls).any (·==t)
noncomputable def Gq (o:Obj):Option (Array Value×Nat):=if(He o "tuple"&&o.dict.isNone&&o.slots.isEmpty)=true then SN o.data else none
theorem ug {o:Obj} {t:String} (h:He o t=true):o.cls= .type t:=by
 obtain⟨n,e,q⟩:=aI h;rw[DV e,eq_of_beq q]
theorem u9 {o:Obj} {q:Array Value×Nat} (h:Gq o=some q):o=bC q.1 q.2:=by
 unfold Gq at h;cases c:(He o "tuple"&&o.dict.isNone&&o.slots.isEmpty) with
 |false=>rw[c] at h;exact zA h
 |true=>
  rw[c] at h;have c:=Bool.and_eq_true_iff.mp c;have c1:=Bool.and_eq_true_iff.mp c.1;obtain⟨cl,d,da,sl⟩:=o;have e1:=ug c1.1;have e2:=Option.isNone_iff_eq_none.mp c1.2;have e3:=Array.isEmpty_iff.mp c.2;have e4:=Hw h;dsimp only at e1 e2 e3 e4;rw[e1,e2,e3,e4]
noncomputable def all2 {α β:Type} (f:α→β→Bool):List α→List β→Bool
 |[],m=>m.isEmpty
 |a::l,m=>match m with
  |[]=>false
  |b::m=>f a b&&all2 f l m
theorem vX {α β:Type} {f:α→β→Bool} {R:α→β→Prop} (H:∀a b,f a b=true→R a b) {l:List α}:∀{m:List β},all2 f l m=true→F2 R l m:=by
 induction l with
 |nil=>intro m h;obtain rfl:=List.isEmpty_iff.mp h;exact .nil
 |cons a l ih=>
  intro m h;cases m with
  |nil=>exact zC h
  |cons b m=>
   have h:=Bool.and_eq_true_iff.mp h;exact .cons (H a b h.1) (ih h.2)
noncomputable def Nn (K:Frag) (f:AV→Value→Bool) (v:Value):AV→Bool
 | .none=>vN v
 | .bool b=>(SX v).any (b==·)
 | .int i=>(vI v).any (i==·)
 | .str x=>(vS v).any (seq x)&&decide (x.length≤ao)
 | .bytes l=>(vB v).any (λm=>l.map (·.toNat)==m.toList.map (·.toNat))&&decide (l.length≤ao)
 | .tup l=>((vR v).bind λa=>K.lookup a).any λo=>(Gq o).any λq=>all2 f l q.1.toList&&decide (l.length≤ao)
 | .fn k=>(vR v).any (·==nT k)
 | .cls k=>(vR v).any (·==ae k)
 | .ty n=>(vT v).any (n==·)
 | .bi n=>(vU v).any (n==·)&&handedIn (.builtin n)
 |_=>false
noncomputable def Bz (K:Frag):Nat→AV→Value→Bool
 |0,_,_=>false
 |n+1,d,v=>Nn K (Bz K n) v d
theorem sT {pr:Params} {K:Frag} {h:Heap} (X:K.In h) (n:Nat):∀d v,Bz K n d v=true→aD pr h d v:=by
 induction n with
 |zero=>exactλ_ _ h=>zC h
 |succ n ih=>
  intro d v e;cases d with
  |none=>obtain rfl:=Fc e;exact .none
  |bool b=>obtain⟨c,q,e⟩:=aI e;obtain rfl:=Hj q;obtain rfl:=eq_of_beq e;exact .bool _
  |int i=>obtain⟨c,q,e⟩:=aI e;obtain⟨t,rfl⟩:=KU q;obtain rfl:=eq_of_beq e;exact .int _ _
  |str x=>
   have e:=Bool.and_eq_true_iff.mp e;obtain⟨c,q,e1⟩:=aI e.1;obtain⟨t,rfl⟩:=EY q;obtain rfl:=bw.mp e1;exact .str _ _ (of_decide_eq_true e.2)
  |bytes l=>
   have e:=Bool.and_eq_true_iff.mp e;obtain⟨m,q,e1⟩:=aI e.1;obtain⟨t,rfl⟩:=Lj q;have e3:l=m.toList:=List.map_inj_right (λ_ _ q=>UInt8.toNat_inj.mp q)|>.mp (eq_of_beq e1)
   obtain rfl:m=l.toArray:=by rw[e3]
   exact .bytes _ _ (of_decide_eq_true e.2)
  |tup l=>
   obtain⟨o,q,e⟩:=aI e;obtain⟨a,q1,q9⟩:=bind_some q;obtain⟨p,q2,e9⟩:=aI e;have e9:=Bool.and_eq_true_iff.mp e9;obtain rfl:=mK q1;obtain rfl:=u9 q2;exact .tup (X _ _ q9) (vX ih e9.1) (of_decide_eq_true e9.2)
  |fn k=>obtain⟨c,q,e⟩:=aI e;obtain rfl:=mK q;rw[eq_of_beq e];exact .fn _
  |cls k=>obtain⟨c,q,e⟩:=aI e;obtain rfl:=mK q;rw[eq_of_beq e];exact .cls _
  |ty n=>obtain⟨c,q,e⟩:=aI e;obtain rfl:=DV q;obtain rfl:=eq_of_beq e;exact .ty _
  |bi n=>
   have e:=Bool.and_eq_true_iff.mp e;obtain⟨c,q,e1⟩:=aI e.1;obtain rfl:=B8 q;obtain rfl:=eq_of_beq e1;exact .bi _ e.2
  |_=>exact zC e
noncomputable def ND (K:Frag) (ds:List Expr) (df:Value):Bool:=(dZ ds).any λdv=>match ds with
 |[]=>vN df
 |_::_=>((vR df).bind λa=>K.lookup a).any λo=>(Gq o).any λq=>(q.2==0)&&all2 (Bz K 9) dv q.1.toList
theorem ID {pr:Params} {K:Frag} {h:Heap} (X:K.In h) {ds:List Expr} {df:Value} (e:ND K ds df=true):∃vals dv,dZ ds=some dv∧aP pr h dv vals∧((vals=[]∧df= .none)∨∃T,df= .ref T∧h.get? T=some (bC vals.toArray 0)):=by
 obtain⟨dv,hd,e⟩:=aI e;cases ds with
 |nil=>obtain rfl:=Option.some.inj hd;exact⟨[],[],rfl,.nil,.inl ⟨rfl,Fc e⟩⟩
 |cons x ds=>
  obtain⟨o,q,e⟩:=aI e;obtain⟨a,q1,q9⟩:=bind_some q;obtain⟨p,q2,e9⟩:=aI e;have e9:=Bool.and_eq_true_iff.mp e9;obtain rfl:=mK q1;obtain rfl:=u9 q2;exact⟨p.1.toList,dv,hd,vX (sT X 9) e9.2,.inr ⟨a,rfl,by rw[X _ _ q9,eq_of_beq e9.1]⟩⟩
noncomputable def codeB (K:Frag) (c:Value) (q:Str):Bool:=((vR c).bind λa=>K.lookup a).any λo=>(Sz o.data).any λvs=>((vs[1]?).bind vS).any λx=>seq x q
theorem vd {K:Frag} {h:Heap} (X:K.In h) {c:Value} {q:Str} (e:codeB K c q=true):h.CodeRec c q:=by
 obtain⟨o,z,e⟩:=aI e;obtain⟨a,q1,z9⟩:=bind_some z;obtain⟨vs,q2,e1⟩:=aI e;obtain⟨x,q3,e2⟩:=aI e1;obtain⟨y,q4,q5⟩:=bind_some q3;obtain rfl:=bw.mp e2;obtain⟨t,rfl⟩:=EY q5;obtain rfl:=mK q1;exact⟨_,_,_,t,rfl,X _ _ z9,Iz q2,q4⟩
theorem C1 {K:Frag} {a:Addr} {o:Obj}:K.lookup a=some o→(a,o)∈K:=by
 induction K with
 |nil=>exactλe=>zA e
 |cons p K ih=>
  intro e;rw[List.lookup_cons] at e;cases q:a==p.1 with
  |true=>
   rw[q] at e;obtain rfl:=Option.some.inj e;rw[eq_of_beq q];exact List.mem_cons_self
  |false=>rw[q] at e;exact List.mem_cons_of_mem _ (ih e)
theorem AN {t:BT} {n:Nat} {life:Life} {K:Frag} (e1:K.map (λp=>t.get p.1)=K.map (λp=>some p.2)) (e2:K.all (λp=>Nat.blt p.1 n&& !p.2.isFreed)=true):K.In (absHeap t n life):=by
 intro a o e;have m:(a,o)∈K:=C1 e;have g:=List.map_inj_left.mp e1 _ m;have q:=Bool.and_eq_true_iff.mp (List.all_eq_true.mp e2 _ m);rw[abs_get (Nat.le_of_ble_eq_true q.1) g];have f:=fJ q.2;obtain⟨c,d,da,sl⟩:=o;cases da<;>first|rfl|exact zD f
set_option tactic.hygienic false
noncomputable abbrev GF (k:Nat) (q:Str) (df m:Value) (c:Nat):Callee×Str×Value×Value×Value:=(.fn k,q,df,m,.ref c)
noncomputable abbrev GN (k j:Nat) (q:Str) (df m:Value) (c:Nat):Callee×Str×Value×Value×Value:=(.mt k j,q,df,m,.ref c)
noncomputable def I2:List (Callee×Str×Value×Value×Value):=[
 GF 0 "_wall" .none (s "__main__" 164) 20,
 GF 5 "worth_table" .none (s "postkeep.base64" 194) 25,
 GF 6 "group_codes" .none (s "postkeep.base64" 194) 30,
 GF 7 "group_octets" .none (s "postkeep.base64" 194) 35,
 GF 8 "part_encoded" .none (s "postkeep.base64" 194) 42,
 GF 9 "one_line" .none (s "postkeep.base64" 194) 49,
 GF 10 "in_lines" .none (s "postkeep.base64" 194) 54,
 GF 11 "encoded" (.ref 56) (s "postkeep.base64" 194) 62,
 GF 12 "decoded" .none (s "postkeep.base64" 194) 69,
 GN 21 0 "Cursor.__init__" (.ref 130) (s "postkeep.octets" 338) 136,
 GN 21 1 "Cursor.is_done" .none (s "postkeep.octets" 338) 143,
 GN 21 2 "Cursor.peek" (.ref 145) (s "postkeep.octets" 338) 151,
 GN 21 3 "Cursor.take" .none (s "postkeep.octets" 338) 158,
 GN 21 4 "Cursor.starts" .none (s "postkeep.octets" 338) 165,
 GN 21 5 "Cursor.skip" .none (s "postkeep.octets" 338) 172,
 GN 21 6 "Cursor.take_while" .none (s "postkeep.octets" 338) 179,
 GN 21 7 "Cursor.take_until" .none (s "postkeep.octets" 338) 186,
 GN 21 8 "Cursor.number" .none (s "postkeep.octets" 338) 193,
 GN 21 9 "Cursor.find" .none (s "postkeep.octets" 338) 200,
 GF 22 "lower_code" .none (s "postkeep.octets" 338) 214,
 GF 23 "lower" .none (s "postkeep.octets" 338) 219,
 GF 24 "lower_text" .none (s "postkeep.octets" 338) 224,
 GF 25 "line_spans" (.ref 226) (s "postkeep.octets" 338) 232,
 GN 28 0 "Field.__init__" .none (s "postkeep.headers" 493) 247,
 GN 28 1 "Field.word" .none (s "postkeep.headers" 493) 252,
 GN 28 2 "Field.told" .none (s "postkeep.headers" 493) 259,
 GF 29 "line_at" .none (s "postkeep.headers" 493) 273,
 GF 30 "is_name" .none (s "postkeep.headers" 493) 280,
 GF 31 "colon_in" .none (s "postkeep.headers" 493) 287,
 GF 32 "read_spans" (.ref 289) (s "postkeep.headers" 493) 295,
 GF 33 "read_fields" (.ref 297) (s "postkeep.headers" 493) 301,
 GF 34 "rows_of" .none (s "postkeep.headers" 493) 308,
 GF 35 "unfolded" .none (s "postkeep.headers" 493) 315,
 GF 36 "first_body" .none (s "postkeep.headers" 493) 322,
 GF 37 "without_words" .none (s "postkeep.headers" 493) 327,
 GF 38 "is_sound" .none (s "postkeep.headers" 493) 334,
 GF 39 "write_fields" .none (s "postkeep.headers" 493) 339,
 GF 46 "charset_names" .none (s "postkeep.charsets" 645) 347,
 GF 47 "charset_name" .none (s "postkeep.charsets" 645) 354,
 GF 48 "need_charset" .none (s "postkeep.charsets" 645) 361,
 GF 49 "utf8_length" .none (s "postkeep.charsets" 645) 366,
 GF 50 "utf8_octets" .none (s "postkeep.charsets" 645) 373,
 GF 51 "follower_span" .none (s "postkeep.charsets" 645) 380,
 GF 52 "utf8_sign" .none (s "postkeep.charsets" 645) 387,
 GF 53 "sign_at" .none (s "postkeep.charsets" 645) 394,
 GF 54 "text_in" .none (s "postkeep.charsets" 645) 401,
 GF 55 "strict_text" .none (s "postkeep.charsets" 645) 408,
 GF 56 "guessed_text" .none (s "postkeep.charsets" 645) 415,
 GF 57 "has_sign" .none (s "postkeep.charsets" 645) 422,
 GF 58 "octets_in" .none (s "postkeep.charsets" 645) 429,
 GF 62 "line_end" .none (s "postkeep.tokens" 776) 437,
 GF 63 "inside_at" .none (s "postkeep.tokens" 776) 444,
 GF 64 "closed_at" .none (s "postkeep.tokens" 776) 451,
 GF 65 "comment_at" .none (s "postkeep.tokens" 776) 458,
 GF 66 "escaped_octets" .none (s "postkeep.tokens" 776) 465,
 GN 80 0 "Kind.__init__" .none (s "postkeep.params" 838) 480,
 GN 80 1 "Kind.told" .none (s "postkeep.params" 838) 485,
 GN 80 2 "Kind.is_multi" .none (s "postkeep.params" 838) 492,
 GN 80 3 "Kind.is_letter" .none (s "postkeep.params" 838) 499,
 GN 80 4 "Kind.is_text" .none (s "postkeep.params" 838) 506,
 GF 81 "plain_kind" .none (s "postkeep.params" 838) 520,
 GF 82 "is_token_code" .none (s "postkeep.params" 838) 527,
 GF 83 "skip_between" .none (s "postkeep.params" 838) 534,
 GF 84 "take_token" .none (s "postkeep.params" 838) 541,
 GF 85 "is_worth_code" .none (s "postkeep.params" 838) 548,
 GF 86 "take_worth" .none (s "postkeep.params" 838) 555,
 GF 87 "small_word" .none (s "postkeep.params" 838) 560,
 GF 88 "take_pairs" .none (s "postkeep.params" 838) 567,
 GF 89 "part_number" .none (s "postkeep.params" 838) 574,
 GF 90 "part_of" .none (s "postkeep.params" 838) 581,
 GF 91 "hex_worth" .none (s "postkeep.params" 838) 586,
 GF 93 "percent_decoded" .none (s "postkeep.params" 838) 593,
 GF 94 "charset_cut" .none (s "postkeep.params" 838) 598,
 GF 95 "joined_worth" .none (s "postkeep.params" 838) 605,
 GF 96 "params_of" .none (s "postkeep.params" 838) 612,
 GF 97 "strict_kind" .none (s "postkeep.params" 838) 619,
 GF 98 "read_kind" .none (s "postkeep.params" 838) 626,
 GF 99 "is_token" .none (s "postkeep.params" 838) 631,
 GF 100 "is_plain" .none (s "postkeep.params" 838) 636,
 GF 102 "percent_encoded" .none (s "postkeep.params" 838) 643,
 GF 103 "in_rows" .none (s "postkeep.params" 838) 650,
 GF 104 "encoded_rows" .none (s "postkeep.params" 838) 655,
 GF 105 "quoted_rows" .none (s "postkeep.params" 838) 660,
 GF 106 "number_octets" .none (s "postkeep.params" 838) 665,
 GF 107 "param_rows" .none (s "postkeep.params" 838) 670,
 GF 108 "write_params" .none (s "postkeep.params" 838) 675,
 GF 109 "write_kind" .none (s "postkeep.params" 838) 680,
 GF 117 "quoted_code" .none (s "postkeep.quoted" 1140) 687,
 GF 118 "hex_worth" .none (s "postkeep.quoted" 1140) 694,
 GF 120 "quoted_at" .none (s "postkeep.quoted" 1140) 701,
 GF 121 "is_plain" .none (s "postkeep.quoted" 1140) 708,
 GF 123 "line_pieces" .none (s "postkeep.quoted" 1140) 715,
 GF 124 "soft_lines" .none (s "postkeep.quoted" 1140) 722,
 GF 125 "text_lines" .none (s "postkeep.quoted" 1140) 729,
 GF 126 "quoted_encoded" (.ref 731) (s "postkeep.quoted" 1140) 737,
 GF 127 "joined_lines" .none (s "postkeep.quoted" 1140) 744,
 GF 128 "line_parts" .none (s "postkeep.quoted" 1140) 751,
 GF 129 "unquoted" .none (s "postkeep.quoted" 1140) 758,
 GF 130 "quoted_decoded" .none (s "postkeep.quoted" 1140) 765,
 GN 137 0 "Part.__init__" .none (s "postkeep.parts" 1269) 780,
 GN 137 1 "Part.told" .none (s "postkeep.parts" 1269) 785,
 GF 138 "encoding_of" .none (s "postkeep.parts" 1269) 797,
 GF 139 "boundary_way" .none (s "postkeep.parts" 1269) 804,
 GF 140 "part_spans" .none (s "postkeep.parts" 1269) 811,
 GF 141 "boundary_octets" .none (s "postkeep.parts" 1269) 816,
 GF 142 "kid_spans" .none (s "postkeep.parts" 1269) 823,
 GF 143 "has_inner" .none (s "postkeep.parts" 1269) 830,
 GF 144 "read_part" .none (s "postkeep.parts" 1269) 835,
 GF 145 "read_message" .none (s "postkeep.parts" 1269) 842,
 GF 146 "undone" .none (s "postkeep.parts" 1269) 849,
 GF 147 "body_octets" .none (s "postkeep.parts" 1269) 856,
 GF 153 "fields_told" .none (s "postkeep.build" 1415) 862,
 GF 154 "bare_piece" .none (s "postkeep.build" 1415) 869,
 GN 155 0 "Leaf.__init__" (.ref 879) (s "postkeep.build" 1415) 885,
 GN 155 1 "Leaf.told" .none (s "postkeep.build" 1415) 892,
 GN 155 2 "Leaf.depth" .none (s "postkeep.build" 1415) 899,
 GN 156 0 "Many.__init__" (.ref 916) (s "postkeep.build" 1415) 922,
 GN 156 1 "Many.told" .none (s "postkeep.build" 1415) 927,
 GN 156 2 "Many.depth" .none (s "postkeep.build" 1415) 932,
 GN 157 0 "Letter822.__init__" (.ref 949) (s "postkeep.build" 1415) 955,
 GN 157 1 "Letter822.told" .none (s "postkeep.build" 1415) 962,
 GN 157 2 "Letter822.depth" .none (s "postkeep.build" 1415) 969,
 GF 158 "is_seven_bit" .none (s "postkeep.build" 1415) 981,
 GF 159 "choose_encoding" .none (s "postkeep.build" 1415) 988,
 GF 160 "in_encoding" .none (s "postkeep.build" 1415) 995,
 GF 161 "barred_figures" .none (s "postkeep.build" 1415) 1002,
 GF 162 "boundary_for" .none (s "postkeep.build" 1415) 1007,
 GF 163 "check_fields" .none (s "postkeep.build" 1415) 1014,
 GF 164 "head_octets" .none (s "postkeep.build" 1415) 1019,
 GF 165 "leaf_octets" .none (s "postkeep.build" 1415) 1026,
 GF 166 "joined_bodies" .none (s "postkeep.build" 1415) 1031,
 GF 167 "many_octets" .none (s "postkeep.build" 1415) 1036,
 GF 168 "letter_octets" .none (s "postkeep.build" 1415) 1043,
 GF 169 "built" .none (s "postkeep.build" 1415) 1050,
 GF 170 "letter_whole" .none (s "postkeep.build" 1415) 1057,
 GF 171 "pieces_within" .none (s "postkeep.build" 1415) 1064,
 GF 172 "check_depth" .none (s "postkeep.build" 1415) 1069,
 GF 173 "build" .none (s "postkeep.build" 1415) 1076,
 GF 174 "message" .none (s "postkeep.build" 1415) 1083,
 GF 178 "_law_shelf" .none (s "law_sa0555_01" 1705) 1090,
 GF 179 "_law_card" .none (s "law_sa0555_01" 1705) 1097,
 GF 180 "_law_body" .none (s "law_sa0555_01" 1705) 1102,
 GF 181 "_law_least" .none (s "law_sa0555_01" 1705) 1107,
 GF 182 "_law_leaf" .none (s "law_sa0555_01" 1705) 1114,
 GF 183 "_law_around" .none (s "law_sa0555_01" 1705) 1121,
 GF 184 "_law_is_refused" .none (s "law_sa0555_01" 1705) 1128,
 GF 185 "_law_is_the_row" .none (s "law_sa0555_01" 1705) 1133,
 GF 186 "law" .none (s "law_sa0555_01" 1705) 1138]
noncomputable def I1 (f g:Callee):Bool:=match f with
 | .fn a=>(match g with
  | .fn b=>Nat.beq a b
  | .mt _ _=>false)
 | .mt a b=>(match g with
  | .fn _=>false
  | .mt c d=>Nat.beq a c&&Nat.beq b d)
noncomputable def Lu (f:Callee):Bool:=I2.any λx=>I1 x.1 f
noncomputable abbrev EK (a:Nat) (o:Obj):Addr×Obj:=(a,o)
noncomputable def KG (P:Params):Frag:=EK 3 (g3 P 183 [] 183)::[0,2,95,108,120,204,263,510,789,903,936,973,94,107,119,203,262,509,788,902,935,972,21,26,31,36,43,50,55,63,70,85,92,137,144,152,159,166,173,180,187,194,201,215,220,225,233,248,253,260,274,281,288,296,302,309,316,323,328,335,340,348,355,362,367,374,381,388,395,402,409,416,423,430,438,445,452,459,466,481,486,493,500,507,521,528,535,542,549,556,561,568,575,582,587,594,599,606,613,620,627,632,637,644,651,656,661,666,671,676,681,688,695,702,709,716,723,730,738,745,752,759,766,781,786,798,805,812,817,824,831,836,843,850,857,863,870,886,893,900,923,928,933,956,963,970,982,989,996,1003,1008,1015,1020,1027,1032,1037,1044,1051,1058,1065,1070,1077,1084,1091,1098,1103,1108,1115,1122,1129,1134,1139,56,78,130,145,226,289,297,731,879,916,949,20,25,30,35,42,49,54,62,69,84,91,136,143,151,158,165,172,179,186,193,200,214,219,224,232,247,252,259,273,280,287,295,301,308,315,322,327,334,339,347,354,361,366,373,380,387,394,401,408,415,422,429,437,444,451,458,465,480,485,492,499,506,520,527,534,541,548,555,560,567,574,581,586,593,598,605,612,619,626,631,636,643,650,655,660,665,670,675,680,687,694,701,708,715,722,729,737,744,751,758,765,780,785,797,804,811,816,823,830,835,842,849,856,862,869,885,892,899,922,927,932,955,962,969,981,988,995,1002,1007,1014,1019,1026,1031,1036,1043,1050,1057,1064,1069,1076,1083,1090,1097,1102,1107,1114,1121,1128,1133,1138,11,878,915,948,93,106,118,202,261,508,787,901,934,971,234,341,431,467,767,858,1085,1086].map λa=>EK a (oJ P a)
theorem GI (P:Params):(KG P).map (λp=>(AK P).get p.1)=(KG P).map (λp=>some p.2):=by kernel_rfl
theorem GL (P:Params):(KG P).all (λp=>Nat.blt p.1 1140&& !p.2.isFreed)=true:=by kernel_rfl
theorem eP (P:Params):(KG P).In (H1 P):=AN (GI P) (GL P)
theorem KI (P:Params):I2.map (λx=>(KG P).lookup (A5 x.1))=I2.map (λx=>some (FN (bp x.1) x.2.1 x.2.2.1 x.2.2.2.1 x.2.2.2.2)):=by kernel_rfl
theorem K7:I2.all (λx=>Nd (bp x.1))=true:=by kernel_rfl
theorem EO (P:Params):I2.all (λx=>codeB (KG P) x.2.2.2.2 x.2.1)=true:=by kernel_rfl
theorem Gx (P:Params):I2.all (λx=>ND (KG P) (ag (bp x.1)).defaults x.2.2.1)=true:=by kernel_rfl
theorem JW:Jy.all (λp=>Lu (Callee.fn p.1))=true:=by kernel_rfl
theorem Ky:Js.all (λp=>(p.1==14)||Lu (Callee.mt p.1 p.2.1))=true:=by kernel_rfl
set_option tactic.hygienic false
theorem wG {l:List (Nat×Nat)} {k:Nat}:Nat.blt 0 (pO l k)=true→∃v,(k,v)∈l:=by
 induction l with
 |nil=>exactλh=>zC h
 |cons p l ih=>
  obtain⟨k',v⟩:=p;intro h;have h:Nat.blt 0 (match Nat.beq k k' with|true=>v|false=>pO l k)=true:=h;cases q:Nat.beq k k' with
  |true=>rw[Nat.eq_of_beq_eq_true q];exact⟨v,List.mem_cons_self⟩
  |false=>rw[q] at h;exact(ih h).elim λu m=>⟨u,List.mem_cons_of_mem _ m⟩
theorem uL {l:List (Nat×Nat×Nat)} {k j:Nat}:Nat.blt 0 (nF l k j)=true→∃v,(k,j,v)∈l:=by
 induction l with
 |nil=>exactλh=>zC h
 |cons p l ih=>
  obtain⟨k',j',v⟩:=p;intro h;have h:Nat.blt 0 (match Nat.beq k k'&&Nat.beq j j' with|true=>v|false=>nF l k j)=true:=h;cases q:Nat.beq k k'&&Nat.beq j j' with
  |true=>
   have q:=Bool.and_eq_true_iff.mp q;rw[Nat.eq_of_beq_eq_true q.1,Nat.eq_of_beq_eq_true q.2];exact⟨v,List.mem_cons_self⟩
  |false=>rw[q] at h;exact(ih h).elim λu m=>⟨u,List.mem_cons_of_mem _ m⟩
theorem BF {f g:Callee} (h:I1 f g=true):f=g:=by
 cases f with
 |fn a=>
  cases g with
  |fn b=>exact congrArg _ (Nat.eq_of_beq_eq_true h)
  |mt _ _=>exact zC h
 |mt a b=>
  cases g with
  |fn _=>exact zC h
  |mt c d=>
   have h:=Bool.and_eq_true_iff.mp h;rw[Nat.eq_of_beq_eq_true h.1,Nat.eq_of_beq_eq_true h.2]
theorem AF {f:Callee} (h:cU f=true):Lu f=true:=by
 have h9:=Bool.and_eq_true_iff.mp h;cases f with
 |fn k=>exact(wG h9.1).elim λv m=>List.all_eq_true.mp JW _ m
 |mt k j=>
  obtain⟨v,m⟩:=uL h9.1;refine(Bool.or_eq_true_iff.mp (List.all_eq_true.mp Ky _ m)).resolve_left λq=> ?_
  obtain rfl:k=14:=eq_of_beq q;exact zC h9.2
theorem rh {f:Callee} (h:cU f=true):∃x∈I2,x.1=f:=(List.any_eq_true.mp (AF h)).elim λx m=>⟨x,m.1,BF m.2⟩
theorem Lx (w:World):∀f,cU f=true→J2 w f:=by
 intro f h;obtain⟨x,m,rfl⟩:=rh h;obtain⟨vals,dv,d1,d2,d3⟩:=ID (pr:=w.params) (eP w.params) (List.all_eq_true.mp (Gx w.params) x m);exact⟨x.2.1,x.2.2.1,x.2.2.2.1,x.2.2.2.2,vals,dv,eP w.params _ _ (List.map_inj_left.mp (KI w.params) x m),vd (eP w.params) (List.all_eq_true.mp (EO w.params) x m),d1,d2,d3,List.all_eq_true.mp K7 x m⟩
noncomputable def ze (name:Str) (v:Value):Bool:=(vS v).any λy=>seq name y
theorem ED (v:Value) (a:Str):v.isStr a=ze a v:=by
 cases v<;>first|rfl|exact(BEq.comm.trans (seq_eq a _).symm)
noncomputable def T6:Data→Option (Array DictEntry)
 | .dict es _=>some es
 |_=>none
noncomputable def PZ (K:Frag) (ns:Addr) (name:Str):Option (Option Value):=((K.lookup ns).bind λo=>T6 o.data).bind λes=>match es.toList.find? (λe=>ze name e.key) with
 |some e=>some (some e.val)
 |none=>if es.toList.any (·.refKey) then none else some none
set_option tactic.hygienic true in
theorem Ej (K:Frag) (ns:Addr) (name:Str):PZ K ns name=nsIn K ns name:=by
 have e:(λe:DictEntry=>e.key.isStr name)=λe=>ze name e.key:=funext λe=>ED _ _
 unfold PZ nsIn;cases K.lookup ns with
 |none=>rfl
 |some o=>
  obtain⟨c,d,da,sl⟩:=o;cases da<;>first|rfl|skip
  rename_i es n
  dsimp only;refine e.symm▸?_;show(match es.toList.find? _ with|some e=>_|none=>_)=_;cases es.toList.find? (λe=>ze name e.key)<;>rfl
noncomputable def OI (K:Frag) (p:Nat×Str×AV):Bool:=flat p.2.2&&(PZ K mainGlobals p.2.1).any λo=>match o with
 |some v=>Bz K 9 p.2.2 v
 |none=>(PZ K builtinsNs p.2.1).any λo=>o.any (Bz K 9 p.2.2)
theorem G8 (P:Params):Pp.all (OI (KG P))=true:=by kernel_rfl
theorem str_of_list {x y:Str} (h:lN x.cps.toList y.cps.toList=true):x=y:=by
 cases x;cases y;exact congrArg Str.mk (Array.toList_inj.mp (wm.mp h))
theorem xn {k:Nat} {x:Str} {d:AV} {l:List (Nat×Str×AV)}:sJ l k x=some d→∃n,(n,x,d)∈l:=by
 induction l with
 |nil=>exactλh=>zA h
 |cons p l ih=>
  obtain⟨n,y,v⟩:=p;intro h;have h:(match Nat.beq k n with|true=>(match lN x.cps.toList y.cps.toList with|true=>some v|false=>none)|false=>sJ l k x)=some d:=h;cases q:Nat.beq k n with
  |true=>
   rw[q] at h;dsimp only at h;cases q2:lN x.cps.toList y.cps.toList with
   |true=>rw[q2] at h;obtain rfl:=Option.some.inj h;rw[str_of_list q2];exact⟨n,List.mem_cons_self⟩
   |false=>rw[q2] at h;exact zA h
  |false=>rw[q] at h;exact(ih h).elim λu m=>⟨u,List.mem_cons_of_mem _ m⟩
theorem HA (w:World):mn w:=by
 intro x d h;obtain⟨n,m⟩:=xn h;have z:=Bool.and_eq_true_iff.mp (List.all_eq_true.mp (G8 w.params) _ m);refine⟨z.1,λM s env A Q E X g b q=> ?_⟩;have Xs:(KG w.params).In s.heap:=λb o e=>(af.mp (X b o (eP w.params b o e))).2
 obtain⟨o,e,z⟩:=aI z.2;rw[Ej] at e;cases o with
 |some v=>exact lF Xs g b (.inl e) (q v (aD.mono X (sT (eP w.params) 9 _ _ z)))
 |none=>
  obtain⟨o,e2,z⟩:=aI z;obtain⟨v,e3,z⟩:=aI z;rw[Ej,e3] at e2;exact lF Xs g b (.inr ⟨e,e2⟩) (q v (aD.mono X (sT (eP w.params) 9 _ _ z)))
noncomputable def ot (o:Option (Option Value)) (j:String):Bool:=o.any λv=>(v.bind vU).any (·==j)
noncomputable def vg (o:Option (Option Value)):Bool:=o.any (·.isNone)
theorem jZ {o:Option (Option Value)} {j:String} (h:ot o j=true):o=some (some (.builtin j)):=by
 refine cps λG kf=> ?_
 obtain⟨v,ho,h1⟩:=aI h;obtain⟨i,e,h2⟩:=aI h1;obtain⟨y,e1,e2⟩:=Option.bind_eq_some_iff.mp e;refine kf ?_;rw[ho,e1,B8 e2,eq_of_beq h2]
theorem uO {o:Option (Option Value)} (h:vg o=true):o=some none:=by
 obtain⟨v,ho,h1⟩:=aI h;rw[ho,Option.isNone_iff_eq_none.mp h1]
structure Rl (K:Frag) (c:Nat):Prop where
 f0:ot (findIn K (.ref (ae c)) "__getattribute__") "object.__getattribute__"=true
 f1:vg (findIn K (.ref (ae c)) "__getattr__")=true
 f2:ot (findIn K (.ref (ae c)) "__setattr__") "object.__setattr__"=true
 f3:plainOver K (ae c)=true
 f4:hasDictIn K (ae c)=true
 f5:makesIn K (ae c)=true
 f6:dQ.all (λa=>vg (findIn K (.ref (ae c)) a))=true
 f7:plainGet K (ae c) "__class__"=true
 f8:ot (findIn K (.ref (ae c)) "__class__") "object.__class__"=true
 f9:(mroIn K (ae c) (.type "object")==some true)=true
 f10:bk.all (λk=>kitOne K (.ref (ae c)) (.ref (ae k))==some (c==k))=true
noncomputable def Oi (K:Frag) (c:Nat):List Bool:=[ot (findIn K (.ref (ae c)) "__getattribute__") "object.__getattribute__",vg (findIn K (.ref (ae c)) "__getattr__"),ot (findIn K (.ref (ae c)) "__setattr__") "object.__setattr__",plainOver K (ae c),hasDictIn K (ae c),makesIn K (ae c),dQ.all λa=>vg (findIn K (.ref (ae c)) a),
 plainGet K (ae c) "__class__",ot (findIn K (.ref (ae c)) "__class__") "object.__class__",mroIn K (ae c) (.type "object")==some true,bk.all λk=>kitOne K (.ref (ae c)) (.ref (ae k))==some (c==k)]
theorem HB (P:Params):bk.all (λc=>(Oi (KG P) c).all id)=true:=by kernel_rfl
theorem fg (P:Params) {c:Nat} (h:bk.contains c=true):Rl (KG P) c:=by
 have t:=List.all_eq_true.mp (List.all_eq_true.mp (HB P) c (List.contains_iff_mem.mp h));unfold Oi at t;have t:=List.forall_mem_cons.mp t;have u:=List.forall_mem_cons.mp t.2;have v:=List.forall_mem_cons.mp u.2;have w:=List.forall_mem_cons.mp v.2;have x:=List.forall_mem_cons.mp w.2;have y:=List.forall_mem_cons.mp x.2;have z:=List.forall_mem_cons.mp y.2;have a:=List.forall_mem_cons.mp z.2;have b:=List.forall_mem_cons.mp a.2;have c:=List.forall_mem_cons.mp b.2;exact⟨t.1,u.1,v.1,w.1,x.1,y.1,z.1,a.1,b.1,c.1,(List.forall_mem_cons.mp c.2).1⟩
theorem Ks (P:Params):dW (KG P):=⟨λc h=>jZ (fg P h).f0,λc h=>uO (fg P h).f1,λc h=>jZ (fg P h).f2,λc h=>(fg P h).f3,λc h=>(fg P h).f4,λc h=>(fg P h).f5,λc a h ha=>uO (List.all_eq_true.mp (fg P h).f6 a (List.contains_iff_mem.mp ha))⟩
theorem AL (P:Params):ip (KG P):=⟨λc h=>(fg P h).f7,λc h=>jZ (fg P h).f8,λc h=>eq_of_beq (fg P h).f9,jZ (by kernel_rfl),by kernel_rfl,λc k h hk=>eq_of_beq (List.all_eq_true.mp (fg P h).f10 k (List.contains_iff_mem.mp hk))⟩
noncomputable def JM (K:Frag) (o:Option (Option Value)) (a:Addr):Bool:=(o.any λv=>(v.bind vR).any (·==a))&&(K.lookup a).any (He · "function")
theorem Bc {K:Frag} {o:Option (Option Value)} {a:Addr} (h:JM K o a=true):o=some (some (.ref a))∧typeIn K (.ref a)=some (.type "function"):=by
 have h:=Bool.and_eq_true_iff.mp h;refine cps λG kf=> ?_
 obtain⟨v,ho,h1⟩:=aI h.1;obtain⟨i,e,h3⟩:=aI h1;obtain⟨y,e1,e3⟩:=Option.bind_eq_some_iff.mp e;obtain⟨ob,e2,h2⟩:=aI h.2;refine kf ?_;refine⟨by rw[ho,e1,mK e3,eq_of_beq h3],?_⟩;show(K.lookup a).map (·.cls)=_;refine e2.symm▸?_;exact congrArg some (ug h2)
noncomputable def O7 (K:Frag) (p:Nat×Nat×Str×Nat×Nat):Bool:= !(bk.contains p.1)||JM K (findIn K (.ref (ae p.1)) p.2.2.1) (gw p.2.2.2.1 p.2.2.2.2)
theorem Bi (P:Params):Nh.all (O7 (KG P))=true:=by kernel_rfl
theorem Iw (P:Params):I2.all (λx=>keepIn (KG P) (.ref (A5 x.1)))=true:=by kernel_rfl
theorem DO (P:Params):bk.all (λk=>keepIn (KG P) (.ref (ae k)))=true:=by kernel_rfl
theorem w9 {c n:Nat} {x:Str} {a j:Nat} {l:List (Nat×Nat×Str×Nat×Nat)}:sa l c n x=some (a,j)→∃n',(c,n',x,a,j)∈l:=by
 induction l with
 |nil=>exactλh=>zA h
 |cons p l ih=>
  obtain⟨k,n',y,a',j'⟩:=p;intro h;have h:(match Nat.beq c k&&Nat.beq n n' with|true=>(match lN x.cps.toList y.cps.toList with|true=>some (a',j')|false=>none)|false=>sa l c n x)=some (a,j):=h;cases q:Nat.beq c k&&Nat.beq n n' with
  |true=>
   rw[q] at h;dsimp only at h;cases q2:lN x.cps.toList y.cps.toList with
   |true=>
    rw[q2] at h;cases h;rw[str_of_list q2,Nat.eq_of_beq_eq_true (Bool.and_eq_true_iff.mp q).1];exact⟨n',List.mem_cons_self⟩
   |false=>rw[q2] at h;exact zA h
  |false=>rw[q] at h;exact(ih h).elim λu m=>⟨u,List.mem_cons_of_mem _ m⟩
theorem HC (P:Params):k7 (KG P):=by
 refine⟨λf h=> ?_,λk h=>List.all_eq_true.mp (DO P) k (List.contains_iff_mem.mp h),λc m a j h e=> ?_⟩
 ·obtain⟨x,m,rfl⟩:=rh h;exact List.all_eq_true.mp (Iw P) x m
 ·obtain⟨n,mm⟩:=w9 e;exact Bc ((Bool.or_eq_true_iff.mp (List.all_eq_true.mp (Bi P) _ mm)).resolve_left λq=>nomatch h.symm.trans (fJ q))
theorem vt (P:Params):(H1 P).NoLimit:=by
 have e:nsOkIn (KG P) cStatics=true:=by kernel_rfl
 exact⟨_,.of_isNs (isNs_of_in (eP P) e),nsMap_none_of_in (eP P) e (by kernel_rfl)⟩
theorem SM (w:World):O5 w (KG w.params):=⟨HA w,Ks _,AL _,HC _,eP _,⟨973,oJ w.params 973,eP _ _ _ (by kernel_rfl),by decide⟩,vt _,Lx w⟩
theorem Gk (w:World):oy w (KG w.params) where
 inn:=eP _
 nolim:=vt _
 fn:=⟨.str "postkeep.errors" 264,.ref 84,78,279,eP _ _ _ (by kernel_rfl),vd (eP _) (by kernel_rfl),eP _ _ _ (by kernel_rfl)⟩
 cls:=eP _ _ _ (by kernel_rfl)
 find:=by kernel_rfl
 set:=by kernel_rfl
 what:=by kernel_rfl
 at_:=by kernel_rfl
 cd:=⟨{name:="MimeFault",bases:=[.ref 95],mro:=[.ref 120,.ref 95,.type "Exception",.type "BaseException",.type "object"],ns:=119,qualname:="MimeFault",hasDict:=true,slotNames:=[],subclasses:=[],abstract:=false,collection:=none,hasDel:=false},by kernel_rfl,by kernel_rfl,rfl⟩
 keep:=by kernel_rfl
 exc1:=by kernel_rfl
 exc2:=by kernel_rfl
theorem Dm (w:World):∀n,mT w aA n (run n):=LF (SM w) λ_ O l _=>Cz ((SM w).base O l) (Gk w)
theorem J3 (w:World) (os:OsState):segRunT treeTable PW w 11 ann 1 306 ⟨P0 w.params,15,{},#[],{},187,os⟩ (piecesOf (sl 0 14) env bc ⟨0,0,0,0⟩ [topFrame p0])=some (Flow.next,⟨SH w.params,71,{},#[],{},266,os⟩,bc,⟨51,0,51,8⟩):=by
 rw[PySem.W.Fast.te10110043849684766642,PySem.W.Fast.te14364793385576792824];kernel_rfl
theorem Lh (w:World) (os:OsState):segRunT treeTable PW w 11 ann 1 269 ⟨SH w.params,71,{},#[],{},266,os⟩ (piecesOf (sl 14 1) env bc ⟨51,0,51,8⟩ [topFrame p0])=some (Flow.next,⟨SS w.params,99,{},#[],{},306,os⟩,bc,⟨52,0,60,35⟩):=by
 rw[PySem.W.Fast.te10110043849684766642,PySem.W.Fast.te14364793385576792824];kernel_rfl
theorem K8 (w:World) (os:OsState):segRunT treeTable PW w 11 ann 1 214 ⟨SS w.params,99,{},#[],{},306,os⟩ (piecesOf (sl 15 1) env bc ⟨52,0,60,35⟩ [topFrame p0])=some (Flow.next,⟨SD w.params,111,{},#[],{},322,os⟩,bc,⟨61,0,62,8⟩):=by
 rw[PySem.W.Fast.te10110043849684766642,PySem.W.Fast.te14364793385576792824];kernel_rfl
theorem Kh (w:World) (os:OsState):segRunT treeTable PW w 11 ann 1 250 ⟨SD w.params,111,{},#[],{},322,os⟩ (piecesOf (sl 16 5) env bc ⟨61,0,62,8⟩ [topFrame p0])=some (Flow.next,⟨Sg w.params,123,{},#[],{},346,os⟩,bc,⟨68,0,68,19⟩):=by
 rw[PySem.W.Fast.te10110043849684766642,PySem.W.Fast.te14364793385576792824];kernel_rfl
theorem Lk (w:World) (os:OsState):segRunT treeTable PW w 11 ann 1 527 ⟨Sg w.params,123,{},#[],{},346,os⟩ (piecesOf (sl 21 1) env bc ⟨68,0,68,19⟩ [topFrame p0])=some (Flow.next,⟨SA w.params,209,{},#[],{},457,os⟩,bc,⟨69,0,116,54⟩):=by
 rw[PySem.W.Fast.te10110043849684766642,PySem.W.Fast.te14364793385576792824];kernel_rfl
theorem JY (w:World) (os:OsState):segRunT treeTable PW w 11 ann 1 147 ⟨SA w.params,209,{},#[],{},457,os⟩ (piecesOf (sl 22 6) env bc ⟨69,0,116,54⟩ [topFrame p0])=some (Flow.next,⟨Sr w.params,235,{},#[],{},498,os⟩,bc,⟨137,0,137,13⟩):=by
 rw[PySem.W.Fast.te10110043849684766642,PySem.W.Fast.te14364793385576792824];kernel_rfl
theorem Lr (w:World) (os:OsState):segRunT treeTable PW w 11 ann 1 378 ⟨Sr w.params,235,{},#[],{},498,os⟩ (piecesOf (sl 28 4) env bc ⟨137,0,137,13⟩ [topFrame p0])=some (Flow.next,⟨S6 w.params,289,{},#[],{},570,os⟩,bc,⟨161,0,163,63⟩):=by
 rw[PySem.W.Fast.te10110043849684766642,PySem.W.Fast.te14364793385576792824];kernel_rfl
theorem J7 (w:World) (os:OsState):segRunT treeTable PW w 11 ann 1 385 ⟨S6 w.params,289,{},#[],{},570,os⟩ (piecesOf (sl 32 16) env bc ⟨161,0,163,63⟩ [topFrame p0])=some (Flow.next,⟨Sp w.params,356,{},#[],{},672,os⟩,bc,⟨230,0,231,52⟩):=by
 rw[PySem.W.Fast.te10110043849684766642,PySem.W.Fast.te14364793385576792824];kernel_rfl
theorem Kn (w:World) (os:OsState):segRunT treeTable PW w 11 ann 1 376 ⟨Sp w.params,356,{},#[],{},672,os⟩ (piecesOf (sl 48 14) env bc ⟨230,0,231,52⟩ [topFrame p0])=some (Flow.next,⟨Sf w.params,432,{},#[],{},784,os⟩,bc,⟨320,0,320,13⟩):=by
 rw[PySem.W.Fast.te10110043849684766642,PySem.W.Fast.te14364793385576792824];kernel_rfl
theorem HW (w:World) (os:OsState):segRunT treeTable PW w 11 ann 1 287 ⟨Sf w.params,432,{},#[],{},784,os⟩ (piecesOf (sl 62 18) env bc ⟨320,0,320,13⟩ [topFrame p0])=some (Flow.next,⟨Oa w.params,468,{},#[],{},867,os⟩,bc,⟨383,0,383,4⟩):=by
 rw[PySem.W.Fast.te10110043849684766642,PySem.W.Fast.te14364793385576792824];kernel_rfl
theorem FZ (w:World) (os:OsState):segRunT treeTable PW w 11 ann 1 376 ⟨Oa w.params,468,{},#[],{},867,os⟩ (piecesOf (sl 80 2) env bc ⟨383,0,383,4⟩ [topFrame p0])=some (Flow.next,⟨Na w.params,522,{},#[],{},933,os⟩,bc,⟨402,0,403,57⟩):=by
 rw[PySem.W.Fast.te10110043849684766642,PySem.W.Fast.te14364793385576792824];kernel_rfl
theorem FA (w:World) (os:OsState):segRunT treeTable PW w 11 ann 1 397 ⟨Na w.params,522,{},#[],{},933,os⟩ (piecesOf (sl 82 14) env bc ⟨402,0,403,57⟩ [topFrame p0])=some (Flow.next,⟨M7 w.params,607,{},#[],{},1040,os⟩,bc,⟨488,0,498,72⟩):=by
 rw[PySem.W.Fast.te10110043849684766642,PySem.W.Fast.te14364793385576792824];kernel_rfl
theorem HV (w:World) (os:OsState):segRunT treeTable PW w 11 ann 1 398 ⟨M7 w.params,607,{},#[],{},1040,os⟩ (piecesOf (sl 96 16) env bc ⟨488,0,498,72⟩ [topFrame p0])=some (Flow.next,⟨Ng w.params,682,{},#[],{},1144,os⟩,bc,⟨599,0,599,6⟩):=by
 rw[PySem.W.Fast.te10110043849684766642,PySem.W.Fast.te14364793385576792824];kernel_rfl
theorem Hi (w:World) (os:OsState):segRunT treeTable PW w 11 ann 1 379 ⟨Ng w.params,682,{},#[],{},1144,os⟩ (piecesOf (sl 112 17) env bc ⟨599,0,599,6⟩ [topFrame p0])=some (Flow.next,⟨Nm w.params,753,{},#[],{},1248,os⟩,bc,⟨661,0,672,22⟩):=by
 rw[PySem.W.Fast.te10110043849684766642,PySem.W.Fast.te14364793385576792824];kernel_rfl
theorem FP (w:World) (os:OsState):segRunT treeTable PW w 11 ann 1 385 ⟨Nm w.params,753,{},#[],{},1248,os⟩ (piecesOf (sl 129 9) env bc ⟨661,0,672,22⟩ [topFrame p0])=some (Flow.next,⟨Pl w.params,794,{},#[],{},1329,os⟩,bc,⟨700,0,715,95⟩):=by
 rw[PySem.W.Fast.te10110043849684766642,PySem.W.Fast.te14364793385576792824];kernel_rfl
theorem HL (w:World) (os:OsState):segRunT treeTable PW w 11 ann 1 376 ⟨Pl w.params,794,{},#[],{},1329,os⟩ (piecesOf (sl 138 16) env bc ⟨700,0,715,95⟩ [topFrame p0])=some (Flow.next,⟨NV w.params,864,{},#[],{},1433,os⟩,bc,⟨794,0,795,75⟩):=by
 rw[PySem.W.Fast.te10110043849684766642,PySem.W.Fast.te14364793385576792824];kernel_rfl
theorem G6 (w:World) (os:OsState):segRunT treeTable PW w 11 ann 1 321 ⟨NV w.params,864,{},#[],{},1433,os⟩ (piecesOf (sl 154 2) env bc ⟨794,0,795,75⟩ [topFrame p0])=some (Flow.next,⟨N3 w.params,908,{},#[],{},1487,os⟩,bc,⟨798,0,809,16⟩):=by
 rw[PySem.W.Fast.te10110043849684766642,PySem.W.Fast.te14364793385576792824];kernel_rfl
theorem IG (w:World) (os:OsState):segRunT treeTable PW w 11 ann 1 286 ⟨N3 w.params,908,{},#[],{},1487,os⟩ (piecesOf (sl 156 1) env bc ⟨798,0,809,16⟩ [topFrame p0])=some (Flow.next,⟨OC w.params,941,{},#[],{},1532,os⟩,bc,⟨810,0,821,70⟩):=by
 rw[PySem.W.Fast.te10110043849684766642,PySem.W.Fast.te14364793385576792824];kernel_rfl
theorem Gl (w:World) (os:OsState):segRunT treeTable PW w 11 ann 1 378 ⟨OC w.params,941,{},#[],{},1532,os⟩ (piecesOf (sl 157 4) env bc ⟨810,0,821,70⟩ [topFrame p0])=some (Flow.next,⟨O1 w.params,997,{},#[],{},1601,os⟩,bc,⟨846,0,849,88⟩):=by
 rw[PySem.W.Fast.te10110043849684766642,PySem.W.Fast.te14364793385576792824];kernel_rfl
theorem Ha (w:World) (os:OsState):segRunT treeTable PW w 11 ann 1 373 ⟨O1 w.params,997,{},#[],{},1601,os⟩ (piecesOf (sl 161 13) env bc ⟨846,0,849,88⟩ [topFrame p0])=some (Flow.next,⟨N9 w.params,1078,{},#[],{},1697,os⟩,bc,⟨915,0,917,23⟩):=by
 rw[PySem.W.Fast.te10110043849684766642,PySem.W.Fast.te14364793385576792824];kernel_rfl
theorem Hp (w:World) (os:OsState):segRunT treeTable PW w 11 ann 1 327 ⟨N9 w.params,1078,{},#[],{},1697,os⟩ (piecesOf (sl 174 13) env bc ⟨915,0,917,23⟩ [topFrame p0])=some (Flow.next,⟨AK w.params,1140,{},#[],{},1788,os⟩,bc,⟨980,0,1001,59⟩):=by
 rw[PySem.W.Fast.te10110043849684766642,PySem.W.Fast.te14364793385576792824];kernel_rfl
theorem pre (w:World) (os:OsState):topGo treeTable PW w 11 ann 12 ⟨boot_heap w.params,#[],boot_drawn,boot_toks,os⟩ (topStub PW)=some (SharedT.abs ⟨P0 w.params,15,{},#[],{},187,os⟩,⟨denote treeTable bc,bc,⟨0,0,0,0⟩,[topFrame p0]⟩):=by
 rw[PySem.W.Fast.te15667345088766844465,PySem.W.Fast.te14364793385576792824,PySem.W.Fast.te11892475500146522536];kernel_rfl
theorem Tt (w:World) (os:OsState):segRunT treeTable PW w 11 ann 1 1 ⟨P0 w.params,15,{},#[],{},187,os⟩ (blockOf (behindTheImports PW) env bc ⟨0,0,0,0⟩ [topFrame p0])=some (Flow.next,⟨P0 w.params,15,{},#[],{},187,os⟩,bc,⟨0,0,0,0⟩):=by
 rw[PySem.W.Fast.te10110043849684766642,PySem.W.Fast.te14364793385576792824];kernel_rfl
theorem Qa (w:World) (os:OsState):topRun treeTable PW w 11 ann 2 (SharedT.abs ⟨AK w.params,1140,{},#[],{},1788,os⟩) ⟨doneF .next,bc,⟨980,0,1001,59⟩,[topFrame p0]⟩=some (SharedT.abs ⟨AK w.params,1140,{},#[],{},1788,os⟩):=by
 rw[PySem.W.Fast.te14082659384304107361,PySem.W.Fast.te14364793385576792824];kernel_rfl
theorem parts:behindTheImports PW=(sl 0 14++(sl 14 1++(sl 15 1++(sl 16 5++(sl 21 1++(sl 22 6++(sl 28 4++(sl 32 16++(sl 48 14++(sl 62 18++(sl 80 2++(sl 82 14++(sl 96 16++(sl 112 17++(sl 129 9++(sl 138 16++(sl 154 2++(sl 156 1++(sl 157 4++(sl 161 13++(sl 174 13++([]:List Stmt)))))))))))))))))))))):=by kernel_rfl
theorem Iu (w:World) (os:OsState):topRun treeTable PW w 11 ann (12+(1+(306+(269+(214+(250+(527+(147+(378+(385+(376+(287+(376+(397+(398+(379+(385+(376+(321+(286+(378+(373+(327+2))))))))))))))))))))))) ⟨boot_heap w.params,#[],boot_drawn,boot_toks,os⟩ (topStub PW)=some (SharedT.abs ⟨AK w.params,1140,{},#[],{},1788,os⟩):=by
 refine go_top (pre w os) ?_;refine piece_block (segRun_of (Tt w os)) ?_;rw[parts];refine piece_app (segRun_of (J3 w os)) ?_;refine piece_app (segRun_of (Lh w os)) ?_;refine piece_app (segRun_of (K8 w os)) ?_;refine piece_app (segRun_of (Kh w os)) ?_;refine piece_app (segRun_of (Lk w os)) ?_;refine piece_app (segRun_of (JY w os)) ?_;refine piece_app (segRun_of (Lr w os)) ?_;refine piece_app (segRun_of (J7 w os)) ?_;refine piece_app (segRun_of (Kn w os)) ?_;refine piece_app (segRun_of (HW w os)) ?_;refine piece_app (segRun_of (FZ w os)) ?_;refine piece_app (segRun_of (FA w os)) ?_;refine piece_app (segRun_of (HV w os)) ?_;refine piece_app (segRun_of (Hi w os)) ?_;refine piece_app (segRun_of (FP w os)) ?_;refine piece_app (segRun_of (HL w os)) ?_;refine piece_app (segRun_of (G6 w os)) ?_;refine piece_app (segRun_of (IG w os)) ?_;refine piece_app (segRun_of (Gl w os)) ?_;refine piece_app (segRun_of (Ha w os)) ?_;refine piece_app (segRun_of (Hp w os)) ?_;exact piece_nil (Qa w os)
end Mine
end
section
open PySem PySem.W PyProof.Rows PySem.Calls
namespace Mine
noncomputable abbrev RW:OpenLaw:=PySem.Challenge.rw_sa0555_01
theorem T9:readsOut PW PW.main.body "vars"=false:=by unfold readsOut;rw[PySem.W.Fast.te17119622794617984870];kernel_rfl
theorem TK:readsOut PW PW.main.body "dir"=false:=by unfold readsOut;rw[PySem.W.Fast.te17119622794617984870];kernel_rfl
theorem S9:readsOut PW PW.main.body "locals"=false:=by unfold readsOut;rw[PySem.W.Fast.te17119622794617984870];kernel_rfl
theorem PD {α:Type} {p:α→Bool} {a b c:α} (ha:p a=false) (hb:p b=false) (hc:p c=false):[a,b,c].filter p=[]:=by
 rw[List.filter,ha,List.filter,hb,List.filter,hc];rfl
theorem t1:(["vars","dir","locals"]:List Str).filter (readsOut PW PW.main.body)=[]:=PD T9 TK S9
theorem t2:(importedModules PW.main.body).all cThrough.contains=true:=by kernel_rfl
noncomputable abbrev PX:Look:={strict:=false,foot:=none,bare:=[]}
theorem jI (lk:Look):∀a b:List Stmt,noRoadLSs lk a=true→noRoadLSs lk b=true→noRoadLSs lk (a++b)=true
 |[],_,_,h=>h
 |s::a,b,h,k=>by
  have h':(noRoadLS lk s&&noRoadLSs lk a)=true:=h;rw[Bool.and_eq_true] at h';show(noRoadLS lk s&&noRoadLSs lk (a++b))=true;rw[h'.1,jI lk a b h'.2 k];rfl
theorem c1:noRoadLSs PX (sl 0 60)=true:=by rw[PySem.W.Fast.te8326940854005059898];kernel_rfl
theorem c2:noRoadLSs PX (sl 60 60)=true:=by rw[PySem.W.Fast.te8326940854005059898];kernel_rfl
theorem c3:noRoadLSs PX (sl 120 67)=true:=by rw[PySem.W.Fast.te8326940854005059898];kernel_rfl
theorem rU:PW.main.body=sl 0 60++(sl 60 60++sl 120 67):=by kernel_rfl
theorem w1:namesResolve PW=true:=by rw[PySem.W.Fast.te8377067652309620493];kernel_rfl
theorem w2:(PW.boundNames.all λn=> !worldNames.contains n)=true:=by rw[PySem.W.Fast.te18344453789297297638,PySem.W.Fast.te14412699480532031325];kernel_rfl
theorem w3:noRoadLSs {strict:= !(importedModules PW.main.body).all cThrough.contains,foot:=none,bare:=(["vars","dir","locals"]:List Str).filter (readsOut PW PW.main.body)} PW.main.body=true:=by
 rw[t1,t2];show noRoadLSs PX PW.main.body=true;rw[rU];exact jI _ _ _ c1 (jI _ _ _ c2 c3)
theorem w4:(namesMeet PW PW.main.body λ_ n=>attrL n)=true:=by rw[PySem.W.Fast.te17119622794617984870];kernel_rfl
theorem w0:(sreFenced PW.main&&((moduleNames PW.main.body).isEmpty||lookedIntoSs (moduleNames PW.main.body) PW.main.body))=true:=by kernel_rfl
theorem KH:looksOpen PW=true:=by
 unfold looksOpen;exact look_both (look_both (look_both (look_both w0 w1) w2) w3) w4
set_option tactic.hygienic false
theorem y6:RW.row.prog=PW:=by kernel_rfl
theorem K1 {a b c d:Bool} (h:d=(a&&b)) (ha:a=true) (hb:b=true):d=true:=by rw[h,ha,hb];rfl
theorem NW {p q:Program} (h:p=q) (k:looksOpen q=true):looksOpen p=true:=by rw[h];exact k
theorem part:RW.row.partSaid=true:=by
 unfold OpenRow.partSaid;refine look_both (look_both (look_both (look_both (look_both (look_both (look_both (look_both (look_both (look_both (look_both (look_both (look_both (NW y6 KH) ?_) ?_) ?_) ?_) ?_) ?_) ?_) ?_) ?_) ?_) ?_) ?_) ?_;all_goals kernel_rfl
theorem Qu:RW.row.wellSaid=true:=by
 unfold OpenRow.wellSaid;refine look_both (look_both (part) ?_) ?_;all_goals kernel_rfl
theorem ws:RW.wellSaid=true:=by
 unfold OpenLaw.wellSaid;refine look_both (look_both (look_both (look_both (look_both (look_both (look_both (look_both (look_both (look_both (look_both (look_both (look_both (look_both (look_both (look_both (look_both (look_both (Qu) ?_) ?_) ?_) ?_) ?_) ?_) ?_) ?_) ?_) ?_) ?_) ?_) ?_) ?_) ?_) ?_) ?_) ?_;all_goals as_aux_lemma=>first|(rw[PySem.W.Fast.te17119622794617984870];kernel_rfl)|(rw[PySem.W.Fast.te8326940854005059898];kernel_rfl)|(rw[PySem.W.Fast.te8179353310426384613];kernel_rfl)|(rw[PySem.W.Fast.te9558739934217749035];kernel_rfl)|(rw[PySem.W.Fast.te16286561074155671207];kernel_rfl)|kernel_rfl
set_option tactic.hygienic false
noncomputable def ps:Stmt→Pos:=MJ default λ_ _ _ _ p=>p
noncomputable def ij:DefRec:=⟨nm (st 186),ag (st 186),bd (st 186),sc (st 186),ps (st 186)⟩
theorem left:LeftO PW qv cY (λ_=>true) (λs=>s.heap) (λw=>H1 w.params) 20000:=
 LeftO.of_pieces (H₀:=boot_heap) (H₁:=H1) (gs₀:= #[]) (gs₁:= #[]) (d₀:=boot_drawn) (d₁:={}) (k₀:=boot_toks) (k₁:=1788) (m₀:=11) (ann:=ann) Ts TP Iu (by decide) Be
theorem Im {r:OpenRow} {p q:Program} {loose:List Str} {H:Params→Heap} {d:DefRec} {kwd:List (Str×Expr)} {N:Nat} (hp:r.prog=p) (left:LeftO p q loose (λ_=>true) (λs=>s.heap) (λw=>H w.params) N)
 (hdef:defOf q r.name=some (d,kwd)) (hpd:p.theDef r.name=some (d.params,d.body,d.scope)) (hk:kwWritten? d.params.kwonlyargs d.params.kw_defaults=some kwd) (hrec:r.records=[]) (hwr:(!r.writes||r.records.isEmpty)=true)
 (k1:r.wellSaid=true) (ok1:chainsOk q=true) (ok2:opensWell p=true) (ok3:(frees r.toRowW&&r.within.isEmpty)=true) (hb:p.bare) (hw:r.toRowW.promised)
 (call:WalkO q loose (λ_ _=>True) (λw h=>∀b o,(H w.params).get? b=some o→h.get? b=some o) r.toRowW d kwd λf vs=>PySem.call f vs):r.Holds:=by
 subst hp;exact holds_open (XP:=λ_ _=>True) (YP:=λw h=>∀b o,(H w.params).get? b=some o→h.get? b=some o) left (λw s e b o h=>by rw[e];exact h) (λw h h' a k b o e=>k b o (a b o e))
  (λ_ _=>trivial) (λ_ _ _ _ _=>trivial) hdef hpd hk (λs _=>recFacts_nil hrec) hwr k1 (by rw[ok1,ok2,ok3];rfl) hb hw call
theorem d1:defOf qv RW.row.name=some (ij,[]):=by kernel_rfl
theorem d2:PW.theDef RW.row.name=some (ij.params,ij.body,ij.scope):=by kernel_rfl
theorem d3:kwWritten? ij.params.kwonlyargs ij.params.kw_defaults=some []:=by kernel_rfl
theorem d4:RW.row.records=[]:=by kernel_rfl
theorem d5:(!RW.row.writes||RW.row.records.isEmpty)=true:=by kernel_rfl
theorem d6:chainsOk qv=true:=by kernel_rfl
theorem d7:opensWell PW=true:=by kernel_rfl
theorem d8:(frees RW.row.toRowW&&RW.row.within.isEmpty)=true:=by kernel_rfl
section
open TablesWhole
theorem uN (top:Scope) (cx:TablesWhole.Ctx) (sc:Scope) (a b:List Stmt) (h:wSs holds top cx sc a=true) (k:wSs holds top cx sc b=true):wSs holds top cx sc (a++b)=true:=by
 induction a with
 |nil=>exact k
 |cons s a ih=>
  have h:(wS holds top cx sc s&&wSs holds top cx sc a)=true:=h;have h:=Bool.and_eq_true_iff.mp h;exact Bool.and_eq_true_iff.mpr ⟨h.1,ih h.2⟩
theorem vL (top:Scope) (cx:TablesWhole.Ctx) (sc:Scope) (a b:List Stmt) (h:wSs gather top cx sc a=[]) (k:wSs gather top cx sc b=[]):wSs gather top cx sc (a++b)=[]:=by
 induction a with
 |nil=>exact k
 |cons s a ih=>
  have h:wS gather top cx sc s++wSs gather top cx sc a=[]:=h;have h:=List.append_eq_nil_iff.mp h;show wS gather top cx sc s++wSs gather top cx sc (a++b)=[];rw[h.1,ih h.2];rfl
theorem CI {α β:Type} [BEq β] [LawfulBEq β] {f:α→β} {l:List α} (h:(l.map f).Nodup):∀x∈l,l.filter (λy=>f y==f x)=[x]:=by
 induction l with
 |nil=>exactλx m=>nomatch m
 |cons y l ih=>
  intro x m;have h:=List.nodup_cons.mp h;rcases List.mem_cons.mp m with rfl|m
  ·have e:(x::l).filter (λy=>f y==f x)=x::l.filter (λy=>f y==f x):=List.filter_cons_of_pos (beq_self_eq_true (f x));rw[e,List.filter_eq_nil_iff.mpr λz mz q=>absurd (List.mem_map_of_mem (f:=f) mz) (by rw[eq_of_beq (a:=f z) q];exact h.1)]
  ·have e:(y::l).filter (λy=>f y==f x)=l.filter (λy=>f y==f x):=List.filter_cons_of_neg λq=>h.1 (eq_of_beq q▸List.mem_map_of_mem m)
   rw[e];exact ih h.2 x m
noncomputable def code (x:Str):Nat:=List.rec 1 (λc _ n=>Nat.add c (Nat.mul 1114112 n)) x.cps.toList
noncomputable def away (a:Nat):List Nat→Bool:=List.rec true λb _ k=>cond (Nat.beq a b) false k
noncomputable def apart:List Nat→Bool:=List.rec true λa l ih=>cond (away a l) ih false
theorem EG {a:Nat} {l:List Nat}:away a l=true→a∉l:=by
 induction l with
 |nil=>exactλ_ m=>nomatch m
 |cons b l ih=>
  intro q;have q:cond (Nat.beq a b) false (away a l)=true:=q;cases e:Nat.beq a b with
  |true=>rw[e] at q;exact nomatch q
  |false=>rw[e] at q;exactλm=>(List.mem_cons.mp m).elim (Nat.ne_of_beq_eq_false e) (ih q)
theorem ux {l:List Nat}:apart l=true→l.Nodup:=by
 induction l with
 |nil=>exactλ_=>List.nodup_nil
 |cons a l ih=>
  intro h;have h:cond (away a l) (apart l) false=true:=h;cases q:away a l with
  |false=>rw[q] at h;exact nomatch h
  |true=>rw[q] at h;exact List.nodup_cons.mpr ⟨EG q,ih h⟩
theorem xr {sc:Scope} (h:apart (sc.names.map λp=>code p.1)=true):noTwice sc=true:=by
 have n:(sc.names.map (·.1)).Nodup:=List.Pairwise.of_map (S:=(·≠·)) code (λ_ _ q e=>q (congrArg code e)) (by rw[List.map_map];exact ux h);refine List.all_eq_true.mpr λp m=> ?_
 show(match sc.names.filter (·.1==p.1) with
  |[_]=>true
  |[(_,a),(_,b)]=>sc.kind== .class&&a != .free&&b== .free
  |_=>false)=true
 rw[CI n p m]
noncomputable abbrev tI (sc:Scope):TablesWhole.Ctx:=⟨sc,[],[],[],none⟩
theorem Ml {m:Module} {b:List Stmt} (hb:m.body=b) (h1:noTwice m.scope=true) (h2:wSs gather m.scope (tI m.scope) m.scope b=[]) (h3:wSs holds m.scope (tI m.scope) m.scope b=true):wModule holds m=true:=by
 subst hb;show(true&&(noTwice m.scope&&(wSs holds m.scope ⟨m.scope,[],wSs gather m.scope (tI m.scope) m.scope m.body,[],none⟩ m.scope m.body&&true)))=true;rw[h1,h2,h3];rfl
theorem Rk:noTwice PW.main.scope=true:=xr (by kernel_rfl)
theorem Nw:wSs gather PW.main.scope (tI PW.main.scope) PW.main.scope (sl 0 60)=[]:=by kernel_rfl
theorem Nu:wSs gather PW.main.scope (tI PW.main.scope) PW.main.scope (sl 60 60)=[]:=by kernel_rfl
theorem Pc:wSs gather PW.main.scope (tI PW.main.scope) PW.main.scope (sl 120 67)=[]:=by kernel_rfl
theorem Ou:wSs holds PW.main.scope (tI PW.main.scope) PW.main.scope (sl 0 60)=true:=by kernel_rfl
theorem OV:wSs holds PW.main.scope (tI PW.main.scope) PW.main.scope (sl 60 60)=true:=by kernel_rfl
theorem Pb:wSs holds PW.main.scope (tI PW.main.scope) PW.main.scope (sl 120 67)=true:=by kernel_rfl
theorem QD:wModule holds PW.main=true:=Ml rU Rk (vL _ _ _ _ _ Nw (vL _ _ _ _ _ Nu Pc)) (uN _ _ _ _ _ Ou (uN _ _ _ _ _ OV Pb))
noncomputable def zc (p:Program):{X:Bool//p.tablesWhole=(wModule holds p.main&&X)}:=⟨_,rfl⟩
theorem Q8:(zc PW).1=true:=by kernel_rfl
theorem d9:PW.tablesWhole=true:=K1 (c:=true) (zc PW).2 QD Q8
end
theorem Tx:PW.bare:=⟨by kernel_rfl,by kernel_rfl,by kernel_rfl,by kernel_rfl,by kernel_rfl,d9⟩
theorem TV:RW.row.toRowW.promised:=⟨[.list []],by kernel_rfl,by kernel_rfl⟩
theorem wX (call:WalkO qv cY (λ_ _=>True) (λw h=>∀b o,(H1 w.params).get? b=some o→h.get? b=some o) RW.row.toRowW ij [] λf vs=>PySem.call f vs):RW.Holds:=
 holds_law ws λk1=>Im y6 left d1 d2 d3 d4 d5 k1 d6 d7 d8 Tx TV call
end Mine
end
section
open PySem PySem.W PyProof.Rows
namespace Mine
set_option tactic.hygienic false
set_option tactic.hygienic true in
theorem wN {K:Frag} {h:Heap} {N:Addr} {mg:Str→Option Value} {n:Str} {v:Value} (X:K.In h) (G:h.Ns N mg) (e:nsIn K N n=some (some v)):mg n=some v:=by
 obtain⟨o,es,ep,ho,hd,_,hf⟩:=G;unfold nsIn at e;split at e
 ·rename_i c d es' n' sl q
  obtain rfl:=Option.some.inj (ho.symm.trans (X _ _ q));cases hd;split at e
  ·rename_i he
   cases e;rw[←hf];unfold nsFind findBy;rw[←Array.find?_toList,he];rfl
  ·split at e<;>cases e
 ·exact zA e
theorem zW {P:Params} {h h':Heap} {ns:List Int}:∀{vs:List Value},WellAll P h vs (ns.map .int)→aP P h' (ns.map .int) vs:=by
 induction ns with
 |nil=>intro vs t;cases t;exact .nil
 |cons n ns ih=>
  intro vs t;cases t with
  |cons a b=>
  cases a;exact .cons (.int _ _) (ih b)
theorem Hz {ns:List Int} (h:RW.row.toRowW.pre.holds RW.row.toRowW.records {args:=[.list (ns.map .int)]}=true):ns.length≤63:=by
 by_cases q:ns.length≤63
 ·exact q
 ·exfalso
  have e:RW.row.toRowW.pre= .and (.not (.lt (.lit (.int 63)) (.len (.arg 0)))) (.lit (.bool true)):=by kernel_rfl
  rw[e] at h;have e2:decide ((63:Int)<(((ns.map WData.int).length:Nat):Int))=true:=by rw[decide_eq_true_eq,List.length_map];omega
  have v:∀R,WTm.value R (.and (.not (.lt (.lit (.int 63)) (.len (.arg 0)))) (.lit (.bool true))) {args:=[.list (ns.map .int)]}=some (.bool false):=λR=>by
   have:∀b,b=true→(match(match(some (WData.bool b)) with|some (WData.bool b)=>some (WData.bool (!b))|_=>none) with
    |some (WData.bool false)=>some (WData.bool false)
    |some (WData.bool true)=>some (WData.bool true)
    |_=>none)=some (WData.bool false):=λb e=>by subst e;rfl
   exact this _ e2
  unfold WTm.holds at h;rw[v] at h;exact zC h
theorem Ew (P:Params):nsIn (KG P) mainGlobals ij.name=some (some (.ref (A5 (.fn 186)))):=by kernel_rfl
set_option tactic.hygienic true in
theorem law_from (hl:∀ns:List Int,ns.length≤63→∃fr,run 120 (.fn 186) [.lst (ns.map .int)] none=some (.ret (.bool true) fr none)):RW.Holds:=by
 refine wX ?_;intro w s₀ s₁ mg mb Gr Y a o pm cd doc dV kV ho hd hcd hdf hmg hg args vals as hpre hlay hrd hwell hsys;have h1:=(pre_splitW hpre).1;have h2:=(pre_splitW hpre).2;obtain⟨d,r,rfl,hd1,hr⟩:=hasAllW_cons h1;have:=hasAllW_nil hr;subst this;obtain⟨xs,rfl,hi⟩:=hasW_list hd1;obtain⟨ns,rfl⟩:=items_int hi;have hlen:=Hz h2;obtain⟨fr,hrun⟩:=hl ns hlen;have X1:(KG w.params).In s₁.heap:=λb o e=>Y b o (eP w.params b o e)
 have ha:a=A5 (.fn 186):=by
  have:=wN X1 Gr.T.g (Ew w.params);rw[hmg] at this;cases this;rfl
 subst ha;cases hwell with
 |cons hv hn=>
 cases hn;cases hv with
 |list hget hws=>
 rename_i la vs
 refine enter_call (Dm w 120 hrun (M:=[]) (mu:=[]) (FL:=[]) ⟨by decide,by decide,rfl,rfl⟩ (λb o e=>af.mpr ⟨(λm=>zE m),Y b o e⟩) (λ_ m=>zE m) (λ_ m=>zE m) (λ_ m=>zE m) List.nodup_nil (.cons (aD.lst (n:=0) (vs:=vs.toArray) (af.mpr ⟨(λm=>zE m),hget⟩) (zW hws) (by rw[List.length_map,lq];omega)) .nil) .nil ?_ ?_)
 ·intro v fr' o' u h' tk e _ kp st rv;cases e;obtain rfl:u= .bool true:=by
   cases fr<;>exact aD.out (g:=Heap.get? _) rv λ_ _ e=>e
  have kp':∀b o,s₁.heap.get? b=some o→h'.get? b=some o:=λb o e=>by
   obtain⟨o',e',_,g⟩:=kp b o e;rcases g (λm=>(zE m)) with rfl|⟨m,_⟩
   ·exact e'
   ·nomatch m
  refine⟨.inl ⟨.bool true,.bool true,[],rfl,λcls=>rfl,.bool true,?_,λ_=>⟨List.nodup_nil,(λ_ m=>nomatch m)⟩⟩,.of_keep kp',rfl,.of_eq hg⟩;kernel_rfl
 ·exactλ_ _ _ e=>nomatch e
set_option tactic.hygienic false
noncomputable def gE {α:Type} (d:α):List α→Nat→α
 |[],_=>d
 |x::l,i=>match i with
  |0=>x
  |i+1=>gE d l i
noncomputable def sV (s:Stmt):List Expr×List (List Stmt):=match s with
 | .FunctionDef _ _ _ _ _ _ _ _ _ _=>([],[])
 | .AsyncFunctionDef _ _ _ _ _ _ _ _ _ _=>([],[])
 | .ClassDef _ _ _ _ _ _ _ _ _ _ _=>([],[])
 | .Return e _=>(e.toList,[])
 | .Delete _ _=>([],[])
 | .Assign ts e _=>(e::ts,[])
 | .TypeAlias _ _ _ _ _ _ _=>([],[])
 | .AugAssign _ _ _ _=>([],[])
 | .AnnAssign _ _ _ _ _=>([],[])
 | .For t it b _ _=>([it,t],[b])
 | .AsyncFor _ _ _ _ _=>([],[])
 | .While t b _ _=>([t],[b])
 | .If t a b _=>([t],[a,b])
 | .With _ _ _=>([],[])
 | .AsyncWith _ _ _=>([],[])
 | .Match _ _ _=>([],[])
 | .Raise _ _ _=>([],[])
 | .Try b _ _ _ _=>([],[b])
 | .TryStar _ _ _ _ _=>([],[])
 | .Assert _ _ _=>([],[])
 | .Import _ _=>([],[])
 | .ImportFrom _ _ _ _=>([],[])
 | .Global _ _=>([],[])
 | .Nonlocal _ _=>([],[])
 | .Expr e _=>([e],[])
 | .Pass _=>([],[])
 | .Break _=>([],[])
 | .Continue _=>([],[])
noncomputable def cV:List Comprehension→List Expr
 |[]=>[]
 |g::_=>g.target::g.ifs
noncomputable def xV (e:Expr):List Expr×List (Str×NameKind):=match e with
 | .BoolOp _ vs _=>(vs,[])
 | .NamedExpr _ _ _=>([],[])
 | .BinOp a _ b _=>([a,b],[])
 | .UnaryOp _ a _=>([a],[])
 | .Lambda _ _ _ _=>([],[])
 | .IfExp t a b _=>([t,a,b],[])
 | .Dict _ vs _=>(vs,[])
 | .Set _ _ _=>([],[])
 | .ListComp e gs sc _=>(e::cV gs,sc.names)
 | .SetComp _ _ _ _=>([],[])
 | .DictComp _ _ _ _ _=>([],[])
 | .GeneratorExp _ _ _ _=>([],[])
 | .Await _ _=>([],[])
 | .Yield _ _=>([],[])
 | .YieldFrom _ _=>([],[])
 | .Compare l _ cs _=>(l::cs,[])
 | .Call f as _ _=>(f::as,[])
 | .FormattedValue _ _ _ _=>([],[])
 | .JoinedStr _ _=>([],[])
 | .Constant _ _ _=>([],[])
 | .Attribute o _ _=>([o],[])
 | .Subscript o i _=>([o,i],[])
 | .Starred _ _=>([],[])
 | .Name _ _=>([],[])
 | .List es _=>(es,[])
 | .Tuple es _ _=>(es,[])
 | .Slice _ _ _ _=>([],[])
noncomputable def Rz:Stmt:= .Break default
noncomputable def Ea:Expr:= .Constant .none 0 default
noncomputable def Sn:List Nat→List Stmt→Stmt
 |[],_=>Rz
 |i::p,b=>match p with
  |[]=>gE Rz b i
  |j::p=>Sn p (gE [] (sV (gE Rz b i)).2 j)
noncomputable def Si:List Nat→List Expr→Expr
 |[],_=>Ea
 |i::p,b=>match p with
  |[]=>gE Ea b i
  |_::_=>Si p (xV (gE Ea b i)).1
noncomputable def aK (f:Callee) (p:List Nat):Stmt:=Sn p (bd (bp f))
noncomputable def I6 (T:AV→Loc→List AV→Option ar):List AV→Loc→List AV→Option ar
 |[],r,S=>some (.aY r S)
 |x::xs,r,S=>gY (I6 T xs) (T x r S)
noncomputable def Kd (T:Loc→List AV→Option ar):Nat→Loc→List AV→Option ar
 |0,_,_=>none
 |n+1,r,S=>gY (Kd T n) (T r S)
noncomputable def Cs (T:AV→Loc→List AV→Option (Res (Option AV×Loc))):List AV→Loc→List AV→Option (Res (List AV))
 |[],_,S=>some (.ok [] S)
 |x::xs,r,S=>bD (T x r S) λp S=>match p.1 with
  |some v=>bD (Cs T xs p.2 S) λvs S=>some (.ok (v::vs) S)
  |none=>Cs T xs p.2 S
theorem B0 {T:AV→Loc→List AV→Option ar} {x:AV} {xs:List AV} {r:Loc} {S:List AV}:I6 T (x::xs) r S=gY (I6 T xs) (T x r S):=rfl
theorem DQ {T:AV→Loc→List AV→Option (Res (Option AV×Loc))} {x:AV} {xs:List AV} {r:Loc} {S:List AV}:Cs T (x::xs) r S=bD (T x r S) λp S=>match p.1 with
 |some v=>bD (Cs T xs p.2 S) λvs S=>some (.ok (v::vs) S)
 |none=>Cs T xs p.2 S:=rfl
noncomputable def tF (C:ay) (k:Nat) (s:Stmt) (x:AV) (r:Loc) (S:List AV):X ar:=X.lift (bindTo (gE Ea (sV s).1 1) x r) λr=>qu C k (gE [] (sV s).2 0) r S
noncomputable def tW (C:ay) (k:Nat) (s:Stmt) (r:Loc) (S:List AV):X ar:=(dT C (gE Ea (sV s).1 0) r S).toS λc S=>X.br c (qu C k (gE [] (sV s).2 0) r S) (.pure (.brk r S))
noncomputable def tX (C:ay) (t:Expr) (ifs:List Expr) (elt:Expr) (x:AV) (r:Loc) (S:List AV):X (Res (Option AV×Loc)):=X.lift (bindTo t x r) λr=>(kJ C .And ifs r S).bD λb S=>
 X.br b ((dE C elt r S).bD λv S=>if flat v=true then i3 (some v,r) S else X.fail) (i3 (none,r) S)
noncomputable def C5 (C:ay) (e:Expr):AV→Loc→List AV→X (Res (Option AV×Loc)):=tX C (gE Ea (xV e).1 1) ((xV e).1.drop 2) (gE Ea (xV e).1 0)
noncomputable def mF (C:ay) (k:Nat) (s:Stmt):List AV→Loc→List AV→Option ar:=forL (bindTo (gE Ea (sV s).1 1)) λr S=>(qu C k (gE [] (sV s).2 0) r S).p
noncomputable def mW (C:ay) (k:Nat) (s:Stmt):Nat→Loc→List AV→Option ar:=jn (λr S=>(dT C (gE Ea (sV s).1 0) r S).p) λr S=>(qu C k (gE [] (sV s).2 0) r S).p
noncomputable def mL (C:ay) (e:Expr):List AV→Loc→List AV→Option (Res (List AV)):=gX (bindTo (gE Ea (xV e).1 1)) (λr S=>(kJ C .And ((xV e).1.drop 2) r S).p) λr S=>(dE C (gE Ea (xV e).1 0) r S).p
noncomputable def Ei:Loc→List (Option AV)→Loc
 |[],_=>[]
 |p::r,vs=>match vs with
  |[]=>p::r
  |v::vs=>(p.1,⟨p.2.k,v⟩)::Ei r vs
noncomputable def Ti:NameKind→LK
 | .local=> .loc
 | .free=> .free
 |_=> .glob
noncomputable def L (f:Callee) (vs:List (Option AV)):Loc:=Ei (zw (sc (bp f))) vs
noncomputable def LX (e:Expr) (vs:List (Option AV)):Loc:=Ei ((xV e).2.map λp=>(p.1,⟨Ti p.2,none⟩)) vs
theorem vq {α β γ:Type} (m:Option α) (f:α→Option β) (g:β→Option γ):(m.bind f).bind g=m.bind λa=>(f a).bind g:=by cases m<;>rfl
theorem Io {t:Expr} {C:ay} {k:Nat} {b:List Stmt}:∀xs r S,forL (bindTo t) (λr S=>(qu C k b r S).p) xs r S=I6 (λx r S=>(X.lift (bindTo t x r) λr=>qu C k b r S).p) xs r S:=by
 intro xs
 induction xs with
 |nil=>
  intro _ _;exact rfl
 |cons x xs ih=>
  intro r S;exact(congrArg (λf=>(bindTo t x r).bind λr=>gY f (qu C k b r S).p) (funext λr=>funext λS=>ih r S)).trans (vq _ _ _).symm
theorem Hf {f:Loc→List AV→Option ar} {m:Option (Res Bool)} {g:Loc→List AV→Option ar} {r:Loc}:(wu m λb S=>if b=true then gY f (g r S) else some (.aY r S))=gY f (wu m λb S=>if b=true then g r S else some (.brk r S)):=by
 cases m with
 |none=>rfl
 |some x=>cases x with
  |exc=>rfl
  |ok b S=>cases b<;>rfl
theorem AY {C:ay} {k:Nat} {t:Expr} {b:List Stmt}:∀n r S,jn (λr S=>(dT C t r S).p) (λr S=>(qu C k b r S).p) n r S=Kd (λr S=>((dT C t r S).toS λc S=>X.br c (qu C k b r S) (.pure (.brk r S))).p) n r S:=by
 intro n
 induction n with
 |zero=>
  intro _ _;exact rfl
 |succ n ih=>
  intro r S;have e:=funext λr=>funext λS=>ih r S
  show(wu _ λb S=>if b=true then gY (jn _ _ n) (_:Option ar) else _)=gY (Kd _ n) _;rw[←e];exact Hf (g:=λr S=>(qu C k b r S).p)
theorem xD {bind:AV→Loc→Option Loc} {cond:Loc→List AV→Option (Res Bool)} {elt:Loc→List AV→Option (Res AV)} {x:AV} {xs:List AV} {r:Loc} {S:List AV}:gX bind cond elt (x::xs) r S=(bind x r).bind λr=>bD (cond r S) λb S=>if b=true then bD (elt r S) λv S=>if flat v=true then bD (gX bind cond elt xs r S) λvs S=>some (.ok (v::vs) S) else none else gX bind cond elt xs r S:=rfl
theorem Bs {C:ay} {t e:Expr} {ifs:List Expr}:∀xs r S,gX (bindTo t) (λr S=>(kJ C .And ifs r S).p) (λr S=>(dE C e r S).p) xs r S=Cs (λx r S=>(tX C t ifs e x r S).p) xs r S:=by
 intro xs
 induction xs with
 |nil=>
  intro _ _;exact rfl
 |cons x xs ih=>
  intro r S;have ih:=funext λr=>funext λS=>ih r S
  rw[xD,DQ,←ih];show _=bD ((bindTo t x r).bind λr=>_) _;cases bindTo t x r with
  |none=>rfl
  |some r=>
   show bD _ _=bD (bD _ _) _;cases (kJ C .And ifs r S).p with
   |none=>rfl
   |some q=>cases q with
    |exc=>rfl
    |ok b S=>cases b with
     |false=>rfl
     |true=>
      show bD (dE C e r S).p _=bD (bD (dE C e r S).p _) _;cases (dE C e r S).p with
      |none=>rfl
      |some q=>cases q with
       |exc=>rfl
       |ok v S=>
        show(if flat v=true then _ else _)=bD (X.p (if flat v=true then _ else _)) _;cases flat v<;>rfl
theorem n8 (C:ay) (k:Nat) (s:Stmt) (xs:List AV) (r:Loc) (S:List AV):mF C k s xs r S=I6 (λx r S=>(tF C k s x r S).p) xs r S:=Io xs r S
theorem vG (C:ay) (k:Nat) (s:Stmt) (n:Nat) (r:Loc) (S:List AV):mW C k s n r S=Kd (λr S=>(tW C k s r S).p) n r S:=AY n r S
theorem pg (C:ay) (e:Expr) (xs:List AV) (r:Loc) (S:List AV):mL C e xs r S=Cs (λx r S=>(C5 C e x r S).p) xs r S:=Bs xs r S
noncomputable def Nx {σ:Type} (enc:σ→Loc×List AV) (I:σ→Prop) (Q:ar→Prop) (q:ar):Prop:=(∃s,q= .aY (enc s).1 (enc s).2∧I s)∨(∀f,∃q',gY f (some q)=some q'∧Q q')
section
variable {C:ay} {k:Nat} {st:Stmt} {α σ:Type} {enc:σ→Loc×List AV} {Q:ar→Prop}
theorem Nx.brk {I:σ→Prop} {r:Loc} {S:List AV} (h:Q (.aY r S)):Nx enc I Q (.brk r S):= .inr λ_=>⟨_,rfl,h⟩
theorem Nx.ret {I:σ→Prop} {v:AV} {b:Bool} {S:List AV} (h:Q (.ret v b S)):Nx enc I Q (.ret v b S):= .inr λ_=>⟨_,rfl,h⟩
theorem Nx.exc {I:σ→Prop} (h:Q .exc):Nx enc I Q .exc:= .inr λ_=>⟨_,rfl,h⟩
theorem Nx.go {I:σ→Prop} {q:ar} (h:Nx enc I Q q) {f:Loc→List AV→Option ar} (k:∀s,I s→∃q',f (enc s).1 (enc s).2=some q'∧Q q'):∃q',gY f (some q)=some q'∧Q q':=
 h.elim (λ⟨s,e,i⟩=>e▸k s i) λh=>h f
theorem bV (h:α→AV) (I:List α→σ→Prop) (H:∀x xs s,I (x::xs) s→∃q,(tF C k st (h x) (enc s).1 (enc s).2).p=some q∧Nx enc (I xs) Q q) (E:∀s,I [] s→Q (.aY (enc s).1 (enc s).2)):∀xs s,I xs s→∃q,mF C k st (xs.map h) (enc s).1 (enc s).2=some q∧Q q:=by
 intro xs
 induction xs with
 |nil=>
  intro s i;exact⟨_,rfl,E s i⟩
 |cons x xs ih=>
  intro s i;obtain⟨q,e,n⟩:=H x xs s i;rw[n8,List.map_cons,B0,e,←funext λr=>funext λS=>n8 C k st (xs.map h) r S];exact n.go (ih)
theorem jQ (I:σ→Prop) (μ:σ→Nat) (H:∀s,I s→∃q,(tW C k st (enc s).1 (enc s).2).p=some q∧Nx enc (λs'=>I s'∧μ s'<μ s) Q q):∀n s,I s→μ s<n→∃q,mW C k st n (enc s).1 (enc s).2=some q∧Q q:=by
 intro n
 induction n with
 |zero=>
  intro _ _ h;exact absurd h (Nat.not_lt_zero _)
 |succ n ih=>
  intro s i l;obtain⟨q,e,m⟩:=H s i;rw[vG,Kd,e,←funext λr=>funext λS=>vG C k st n r S];exact m.go λs' i'=>ih s' i'.1 (Nat.lt_of_lt_of_le i'.2 (Nat.le_of_lt_succ l))
end
theorem comp_map {C:ay} {e:Expr} {α σ:Type} {S:List AV} {enc:σ→Loc} {h:α→AV} (g:α→Option AV) (nx:σ→α→σ):∀(xs:List α) (s:σ),(∀x∈xs,∀s,(C5 C e (h x) (enc s) S).p=some (.ok (g x,enc (nx s x)) S))→mL C e (xs.map h) (enc s) S=some (.ok (xs.filterMap g) S):=by
 intro xs
 induction xs with
 |nil=>
  intro _ _;exact rfl
 |cons x xs ih=>
  intro s H;have ih:=ih (nx s x) λy m=>H y (List.mem_cons_of_mem _ m)
  rw[pg] at ih;rw[pg,List.map_cons,Cs,H x List.mem_cons_self,List.filterMap_cons];cases q:g x with
  |none=>exact ih
  |some v=>exact congrArg (λm=>bD m λvs S=>some (Res.ok (v::vs) S)) ih
theorem bW {C:ay} {e:Expr} {α σ:Type} {S:List AV} {enc:σ→Loc} {h:α→AV} (g:α→AV) (nx:σ→α→σ) (xs:List α) (s:σ) (H:∀x∈xs,∀s,(C5 C e (h x) (enc s) S).p=some (.ok (some (g x),enc (nx s x)) S)):mL C e (xs.map h) (enc s) S=some (.ok (xs.map g) S):=by
 rw[comp_map (λx=>some (g x)) nx xs s H,←List.filterMap_eq_map];rfl
theorem xG {n:Nat} {f:Callee} {vs:List AV} {o o':Option AV} {v v':AV} {b:Bool} (h:v=v') (L:List Ev) (e:Sy (run n) f vs o (Pq L)=some (MC L,some (.ret v b o'))):run (n+1) f vs o=some (.ret v' b o'):=h▸aa L e
noncomputable abbrev Rn (n:Nat) (f:Callee) (vs:List AV) (v:AV):Prop:=run n f vs none=some (.ret v false none)
noncomputable abbrev En (n:Nat) (f:Callee):ay:=⟨run n,dI,gK,Kz f⟩
noncomputable def ng (f:Callee) (p q:List Nat):Expr:=Si q (sV (aK f p)).1
set_option tactic.hygienic false
theorem bR {n:Nat} (h:n≤ao):small (n:Int)=true:=Bool.and_eq_true_iff.mpr ⟨decide_eq_true (Int.lt_of_lt_of_le (by decide) (Int.natCast_nonneg n)),decide_eq_true (Int.ofNat_lt.mpr (Nat.lt_of_le_of_lt h (show 1000000<2^62 by decide)))⟩
noncomputable def gu {a b:Nat} (h:a<b):Ev:=bT (Int.ofNat_lt.mpr h)
noncomputable def ju {a b:Nat} (h:b≤a):Ev:=bF (Int.not_lt.mpr (Int.ofNat_le.mpr h))
noncomputable def Az {a b:Nat} (h:a≤b):Ev:=bT (Int.ofNat_le.mpr h)
noncomputable def My {a b:Nat} (h:b<a):Ev:=bF (Int.not_le.mpr (Int.ofNat_lt.mpr h))
noncomputable def qT {a b:Int} (h:a=b):Ev:=eB (beq_iff_eq.mpr h:(a==b)=true)
noncomputable def qF {a b:Int} (h:a≠b):Ev:=eB (beq_eq_false_iff_ne.mpr h:(a==b)=false)
theorem OD {i n:Nat} (h:i<n):inR n i=true:=decide_eq_true ⟨Int.natCast_nonneg i,Int.ofNat_lt.mpr h⟩
noncomputable def gI {i n:Nat} (h:i<n):Ev:=eG (OD h)
theorem K0 (n:Nat):decide (0≤(n:Int))=true:=decide_eq_true (Int.natCast_nonneg n)
noncomputable def PL {a:Nat} (h:a≤ao):Ev:=eG (show(decide (0≤(a:Int))&&small a)=true by rw[K0,bR h];rfl)
noncomputable def MB {a b:Nat} (h:a≤ao) (k:b≤ao):Ev:=eG (show(decide (0≤(a:Int))&&decide (0≤(b:Int))&&small a&&small b)=true by rw[K0,K0,bR h,bR k];rfl)
noncomputable def gS {a:Nat} (h:a≤ao):Ev:=eG (bR h)
theorem Eb (c:UInt8):iL (.int (c.toNat:Int))=true:=decide_eq_true ⟨Int.natCast_nonneg _,Int.ofNat_lt.mpr c.toNat_lt⟩
theorem NG (c:UInt8):Di (.int (c.toNat:Int))=c:=UInt8.ofNat_toNat
theorem q7 {α:Type} (f:α→UInt8) (l:List α):(l.map λc=>AV.int ((f c).toNat:Int)).all iL=true:=by
 rw[List.all_map,List.all_eq_true];exactλc _=>Eb (f c)
theorem yX {α:Type} (f:α→UInt8) (l:List α):(l.map λc=>AV.int ((f c).toNat:Int)).map Di=l.map f:=by
 rw[List.map_map];exact List.map_congr_left λc _=>NG (f c)
set_option tactic.hygienic false
noncomputable abbrev By:=List UInt8
noncomputable def nC (a:By):By:=if a.getLast?=some 13 then a.dropLast else a
noncomputable def Pj:By→By→List (By×Nat)
 |u,[]=>if u.isEmpty=true then [] else [(u,u.length)]
 |u,c::r=>if c=10 then(nC u,u.length+1)::Pj [] r else Pj (u++[c]) r
noncomputable def lines (l:By):List (By×Nat):=Pj [] l
theorem Hm:∀{a b:By} (u:By),10∉a→Pj u (a++10::b)=(nC (u++a),(u++a).length+1)::lines b:=by
 intro a
 induction a with
 |nil=>
  intro b u _;exact by rw[List.append_nil];exact if_pos rfl
 |cons c a ih=>
  intro b u h;refine(if_neg λe:c=10=>h (e▸List.mem_cons_self)).trans ?_;rw[List.append_cons u c a];exact ih _ λm=>h (List.mem_cons_of_mem _ m)
theorem EI:∀{a:By} (u:By),10∉a→u++a≠[]→Pj u a=[(u++a,(u++a).length)]:=by
 intro a
 induction a with
 |nil=>
  intro u _ h;rw[List.append_nil] at h⊢;exact if_neg λe=>h (List.isEmpty_iff.mp e)
 |cons c a ih=>
  intro u h k;refine(if_neg λe:c=10=>h (e▸List.mem_cons_self)).trans ?_;rw[List.append_cons u c a] at k⊢;exact ih _ (λm=>h (List.mem_cons_of_mem _ m)) k
theorem cP {a b:By} (h:10∉a):lines (a++10::b)=(nC a,a.length+1)::lines b:=Hm [] h
theorem gH {a:By} (h:10∉a) (ne:a≠[]):lines a=[(a,a.length)]:=EI [] h ne
noncomputable def spans:Nat→List (By×Nat)→List (Nat×Nat×Nat)
 |_,[]=>[]
 |o,p::r=>(o,o+p.1.length,o+p.2)::spans (o+p.2) r
noncomputable def qk (p:Nat×Nat×Nat):AV:= .tup [.int (p.1:Nat),.int (p.2.1:Nat),.int (p.2.2:Nat)]
theorem BB {k:UInt8} {z:By}:∀(m p:By),k∉m→jd (p++(m++z)) [k] p.length m.length= -1:=by
 intro m
 induction m with
 |nil=>
  intro _ _;exact rfl
 |cons c m ih=>
  intro p h;have ih:=ih (p++[c]) λx=>h (List.mem_cons_of_mem _ x)
  rw[List.append_assoc,List.length_append] at ih;refine Eq.trans (if_neg λe=>h ?_) ih;rw[List.drop_left] at e;exact(List.cons.inj (beq_iff_eq.mp e)).1▸List.mem_cons_self
theorem Bj {k:UInt8} {b z:By}:∀(a p:By) (n:Nat),k∉a→jd (p++(a++k::b++z)) [k] p.length (a.length+(n+1))=((p.length+a.length:Nat):Int):=by
 intro a
 induction a with
 |nil=>
  intro p n _;exact by rw[List.length_nil,Nat.zero_add];exact if_pos (by rw[List.drop_left];exact beq_iff_eq.mpr rfl)
 |cons c a ih=>
  intro p n h;have ih:=ih (p++[c]) n λx=>h (List.mem_cons_of_mem _ x)
  rw[List.append_assoc,List.length_append] at ih;rw[List.length_cons,Nat.add_right_comm a.length 1,show p.length+(a.length+1)=p.length+1+a.length from(Nat.add_right_comm p.length 1 a.length).symm];refine Eq.trans (if_neg λe=>h ?_) ih;rw[List.drop_left] at e;exact(List.cons.inj (beq_iff_eq.mp e)).1▸List.mem_cons_self
section
variable {d p m q:By} {k:UInt8} {hi:Nat}
theorem yz (e:d=p++(m++q)) (h:hi=p.length+m.length):findB d [k] p.length hi=jd d [k] p.length m.length:=by
 have l:hi≤d.length:=by rw[e,List.length_append,List.length_append,h];exact Nat.add_le_add_left (Nat.le_add_right _ _) _
 unfold findB;rw[Nat.min_eq_left l,h];exact congrArg _ ((Nat.add_sub_add_right _ 1 _).trans (Nat.add_sub_cancel_left _ _))
theorem yM (e:d=p++(m++q)) (h:hi=p.length+m.length) (n:k∉m):findB d [k] p.length hi= -1:=(yz e h).trans (e▸BB m p n)
theorem nO {a b:By} (e:d=p++(a++k::b++q)) (h:hi=p.length+(a++k::b).length) (n:k∉a):findB d [k] p.length hi=((p.length+a.length:Nat):Int):=
 (yz e h).trans ((List.length_append (as:=a) (bs:=k::b))▸e▸Bj a p b.length n)
end
set_option tactic.hygienic false
theorem gO (a:By):a=[]∨∃b c,a=b++[c]:=by
 rcases List.eq_nil_or_concat a with h|⟨b,c,h⟩
 ·exact .inl h
 ·exact .inr ⟨b,c,by rw[h,List.concat_eq_append]⟩
theorem nM (b:By):nC (b++[13])=b:=by
 unfold nC;rw[List.getLast?_concat,if_pos rfl,List.dropLast_concat]
theorem ub {b:By} {c:UInt8} (h:c≠13):nC (b++[c])=b++[c]:=by
 unfold nC;rw[List.getLast?_concat,if_neg λe=>h (Option.some.inj e)]
theorem bS {d p r:By} {c x:UInt8} (e:d=p++c::r):d.getD p.length x=c:=by
 rw[e,List.getD_eq_getElem?_getD,List.getElem?_append_right (Nat.le_refl _),Nat.sub_self];rfl
theorem dh {d p r:By} {c:UInt8} (e:d=p++c::r):p.length<d.length:=by
 rw[e,List.length_append];exact Nat.lt_add_of_pos_right (Nat.succ_pos _)
theorem jM (a:Nat):((a+1:Nat):Int) -1=a:=Int.add_sub_cancel (a:Int) 1
theorem SQ {c:UInt8} (h:c≠13):((c.toNat:Nat):Int)≠13:=λe=>h (UInt8.toNat_inj.mp (Int.ofNat.inj e))
noncomputable abbrev H7 (d:By) (a e:AV) (hi o:Nat) (f l:Option AV):Loc:=L (.fn 25) [some (.bytes d),some a,some e,some (.int hi),some (.ref 0),some (.int o),f,l]
noncomputable abbrev MM (n:Nat) (d:By) (a e:AV) (hi o:Nat) (f l:Option AV) (acc:List AV):Option ar:=(tW (En n (.fn 25)) 0 (aK (.fn 25) [3]) (H7 d a e hi o f l) [.lst acc]).p
section
variable {n:Nat} {d p q x:By} {a e:AV} {hi o k:Nat} {f l:Option AV} {acc:List AV}
theorem OH (h:hi≤o):MM n d a e hi o f l acc=some (.brk (H7 d a e hi o f l) [.lst acc]):=aj [ju h] (by kernel_rfl)
theorem N7 (h:o<hi) (hH:hi≤ao) (hf:findB d [10] o hi= -1) (ha:acc.length<ao):MM n d a e hi o f l acc=some (.ret (.lst (acc++[qk (o,hi,hi)])) true [.lst (acc++[qk (o,hi,hi)])]):=
 aj [gu h,eT,MB (Nat.le_trans (Nat.le_of_lt h) hH) hH,eV (congrArg AV.int hf),eY,eT,gT ha] (by kernel_rfl)
theorem NA (h:o<hi) (hH:hi≤ao) (hf:findB d [10] o hi=o) (ha:acc.length<ao):MM n d a e hi o f l acc=some (.aY (H7 d a e hi (o+1) (some (.int o)) (some (.int o))) [.lst (acc++[qk (o,o,o+1)])]):=
 aj [gu h,eT,MB (Nat.le_trans (Nat.le_of_lt h) hH) hH,eV (congrArg AV.int hf),ju (Nat.zero_le o),ju (Nat.le_refl o),eN,eT,gT ha] (by kernel_rfl)
theorem Nj (h:o<hi) (hH:hi≤ao) (hf:findB d [10] o hi=(k+1:Nat)) (hk:o≤k) (hI:k<d.length) (hg:d.getD k 0=13) (ha:acc.length<ao):MM n d a e hi o f l acc=some (.aY (H7 d a e hi (k+1+1) (some (.int (k+1:Nat))) (some (.int k))) [.lst (acc++[qk (o,k,k+1+1)])]):=
 aj [gu h,eT,MB (Nat.le_trans (Nat.le_of_lt h) hH) hH,eV (congrArg AV.int hf),ju (Nat.zero_le (k+1)),gu (Nat.lt_succ_of_le hk),eV (congrArg AV.int (jM k)),gI hI,eV (congrArg (λc:UInt8=>AV.int c.toNat) hg),eY,eY,eV (congrArg AV.int (jM k)),eT,gT ha] (by kernel_rfl)
theorem Ov {c:UInt8} (h:o<hi) (hH:hi≤ao) (hf:findB d [10] o hi=(k+1:Nat)) (hk:o≤k) (hI:k<d.length) (hg:d.getD k 0=c) (hc:c≠13) (ha:acc.length<ao):MM n d a e hi o f l acc=some (.aY (H7 d a e hi (k+1+1) (some (.int (k+1:Nat))) (some (.int (k+1:Nat)))) [.lst (acc++[qk (o,k+1,k+1+1)])]):=
 aj [gu h,eT,MB (Nat.le_trans (Nat.le_of_lt h) hH) hH,eV (congrArg AV.int hf),ju (Nat.zero_le (k+1)),gu (Nat.lt_succ_of_le hk),eV (congrArg AV.int (jM k)),gI hI,eV (congrArg (λc:UInt8=>AV.int c.toNat) hg),qF (SQ hc),eN,eT,gT ha] (by kernel_rfl)
theorem OX {r:By} (hd:d=p++(x++10::r)) (h:p.length<hi) (hH:hi≤ao) (hf:findB d [10] p.length hi=(p.length+x.length:Nat)) (ha:acc.length<ao):
 ∃f' l',MM n d a e hi p.length f l acc=some (.aY (H7 d a e hi (p.length+x.length+1) f' l') [.lst (acc++[qk (p.length,p.length+(nC x).length,p.length+x.length+1)])]):=by
 rcases gO x with rfl|⟨y,c,rfl⟩
 ·exact⟨_,_,NA h hH hf ha⟩
 ·have ly:(y++[c]).length=y.length+1:=List.length_append;rw[ly,←Nat.add_assoc] at hf⊢;rw[List.append_assoc,←List.append_assoc] at hd;have hI:=dh hd;have hg:=bS (x:=0) hd;rw[List.length_append] at hI hg;by_cases h13:c=13
  ·rw[h13,nM];exact⟨_,_,Nj h hH hf (Nat.le_add_right _ _) hI (hg.trans h13) ha⟩
  ·rw[ub h13,ly,←Nat.add_assoc];exact⟨_,_,Ov h hH hf (Nat.le_add_right _ _) hI hg h13 ha⟩
end
theorem yD (r:By):r=[]∨(r≠[]∧10∉r)∨∃a b,10∉a∧r=a++10::b:=by
 by_cases m:10∈r
 ·obtain⟨a,b,rfl,na⟩:=List.eq_append_cons_of_mem m;exact .inr (.inr ⟨a,b,na,rfl⟩)
 ·cases r with
  |nil=>exact .inl rfl
  |cons c r=>exact .inr (.inl ⟨(λe=>zG e),m⟩)
structure Q9 where
 o:Nat
 f:Option AV
 l:Option AV
 acc:List AV
structure Sq (d q:By) (hi:Nat) (X:List AV) (r:By) (s:Q9):Prop where
 hd:∃p,d=p++(r++q)∧s.o=p.length
 hh:hi=s.o+r.length
 ha:s.acc.length+r.length<ao
 hx:s.acc++(spans s.o (lines r)).map qk=X
theorem yc {n:Nat} {d q r:By} {a e:AV} {hi:Nat} {X:List AV} (hH:hi≤ao) {s:Q9} (h0:Sq d q hi X r s) {m:Nat} (hm:r.length<m):
 ∃res,mW (En n (.fn 25)) 0 (aK (.fn 25) [3]) m (H7 d a e hi s.o s.f s.l) [.lst s.acc]=some res∧(res= .ret (.lst X) true [.lst X]∨∃o f l,res= .aY (H7 d a e hi o f l) [.lst X]):=by
 refine jQ (enc:=λs:By×Q9=>(H7 d a e hi s.2.o s.2.f s.2.l,[.lst s.2.acc])) (λs=>Sq d q hi X s.1 s.2) (λs=>s.1.length) ?_ m (r,s) h0 hm;intro⟨r,o,f,l,acc⟩ ⟨⟨p,hd,ho⟩,hh,ha,hx⟩;dsimp only at ho hh ha hx⊢;subst ho;rcases yD r with rfl|⟨ne,nr⟩|⟨x,b,nx,rfl⟩
 ·exact⟨_,OH (Nat.le_of_eq hh),.brk (.inr ⟨_,_,_,congrArg (λX=>ar.aY _ [.lst X]) ((List.append_nil acc).symm.trans hx)⟩)⟩
 ·refine⟨_,N7 (hh▸Nat.lt_add_of_pos_right (List.length_pos_iff.mpr ne)) hH (yM hd hh nr) (Nat.lt_of_le_of_lt (Nat.le_add_right _ _) ha),.ret (.inl ?_)⟩;rw[←hx,gH nr ne,hh];rfl
 ·have hl:(x++10::b).length=x.length+1+b.length:=by rw[List.length_append,List.length_cons,Nat.add_right_comm,Nat.add_assoc]
  obtain⟨f',l',ht⟩:=OX (n:=n) (a:=a) (e:=e) (f:=f) (l:=l) (hi:=hi) (acc:=acc) (r:=b++q) (by rw[hd,List.append_assoc];rfl) (by rw[hh,hl];exact Nat.lt_add_of_pos_right (Nat.add_pos_left (Nat.succ_pos _) _)) hH (nO hd hh nx) (Nat.lt_of_le_of_lt (Nat.le_add_right _ _) ha);refine⟨_,ht,.inl ⟨(b,⟨_,f',l',_⟩),rfl,⟨⟨p++(x++[10]),by rw[hd];simp only[List.append_assoc,List.cons_append,List.nil_append],by rw[List.length_append,List.length_append];rfl⟩,by rw[hh,hl,←Nat.add_assoc];rfl,?_,?_⟩,?_⟩⟩
  ·rw[List.length_append];exact Nat.lt_of_le_of_lt (by rw[hl,Nat.add_assoc];exact Nat.add_le_add_left (Nat.add_le_add_right (Nat.le_add_left _ _) _) _) ha
  ·rw[←hx,cP nx,List.append_assoc];rfl
  ·rw[hl];exact Nat.lt_add_of_pos_left (Nat.succ_pos _)
theorem hJ {n:Nat} (h:n<90000):n≤ao:=Nat.le_of_lt (Nat.lt_trans h (by decide))
theorem m9 (n:Nat) {d:By} (hl:d.length<90000):run (n+1) (.fn 25) [.bytes d] none=some (.ret (.lst ((spans 0 (lines d)).map qk)) true none):=by
 obtain⟨res,h,q⟩:=yc (n:=n) (q:=[]) (a:= .int 0) (e:= .int (-1)) (s:=⟨0,none,none,[]⟩) (r:=d) (X:=(spans 0 (lines d)).map qk) (hi:=d.length) (hJ hl) ⟨⟨[],(List.append_nil d).symm,rfl⟩,(Nat.zero_add _).symm,by rw[List.length_nil,Nat.zero_add];exact Nat.lt_trans hl (by decide),rfl⟩ (m:=WF) (Nat.lt_trans hl (by decide));rcases q with rfl|⟨o,f,l,rfl⟩
 ·exact aa [eY,eT,eS h] (by kernel_rfl)
 ·exact aa [eY,eT,eS h] (by kernel_rfl)
theorem ve (n:Nat) {d p r q:By} {hi:Nat} (hd:d=p++(r++q)) (hh:hi=p.length+r.length) (hl:d.length<90000):run (n+1) (.fn 25) [.bytes d,.int p.length,.int hi] none=some (.ret (.lst ((spans p.length (lines r)).map qk)) true none):=by
 have hid:hi≤d.length:=by rw[hd,List.length_append,List.length_append,hh];exact Nat.add_le_add_left (Nat.le_add_right _ _) _
 have hr:=Nat.lt_of_le_of_lt (Nat.le_trans (Nat.le_add_left _ _) (hh▸hid)) hl;obtain⟨res,h,q⟩:=yc (n:=n) (a:= .int p.length) (e:= .int hi) (s:=⟨p.length,none,none,[]⟩) (X:=(spans p.length (lines r)).map qk) (hJ (Nat.lt_of_le_of_lt hid hl)) ⟨⟨p,hd,rfl⟩,hh,by rw[List.length_nil,Nat.zero_add];exact Nat.lt_trans hr (by decide),rfl⟩ (m:=WF) (Nat.lt_trans hr (by decide));have hm:AV.int (if(d.length:Int)<hi then d.length else hi)= .int hi:=by rw[if_neg (Int.not_lt.mpr (Int.ofNat_le.mpr hid))]
 rcases q with rfl|⟨o,f,l,rfl⟩
 ·exact aa [ju (Nat.zero_le hi),eK,eV hm,eT,eS h] (by kernel_rfl)
 ·exact aa [ju (Nat.zero_le hi),eK,eV hm,eT,eS h] (by kernel_rfl)
set_option tactic.hygienic false
theorem nQ {α:Type} (d:List α) (i j:Nat):cut d i j=(d.take j).drop (min i d.length):=by
 unfold cut;rw[clipAt_nat,clipAt_nat,←List.take_eq_take_min]
theorem pz {α:Type} {d p r:List α} (e:d=p++r) (k:Nat):cut d p.length (p.length+k:Nat)=r.take k:=by
 rw[nQ,e,List.take_length_add_append,Nat.min_eq_left (by rw[List.length_append];exact Nat.le_add_right _ _),List.drop_left]
theorem dK {α:Type} {d p m q:List α} (e:d=p++(m++q)):cut d p.length (p.length+m.length:Nat)=m:=(pz e _).trans List.take_left
noncomputable def stop (t:By):Prop:=t=[]∨∃c r,t=c::r∧(c=10∨c=13)
theorem iw {t:By} (h:stop t):∀{L l:By},10∉L→13∉L→L<+:l++t→L<+:l
 |[],l,_,_,_=>List.nil_prefix
 |a::L,[],h1,h2,k=>by
  rcases h with rfl|⟨c,r,rfl,e⟩
  ·exact k
  ·have:=(List.cons_prefix_cons.mp k).1;rcases e with rfl|rfl
   ·exact absurd List.mem_cons_self (this▸h1)
   ·exact absurd List.mem_cons_self (this▸h2)
 |a::L,b::l,h1,h2,k=>by
  have:=List.cons_prefix_cons.mp k;exact List.cons_prefix_cons.mpr ⟨this.1,iw h (λm=>h1 (List.mem_cons_of_mem _ m)) (λm=>h2 (List.mem_cons_of_mem _ m)) this.2⟩
structure Ln (r l e r':By):Prop where
 eq:r=l++(e++r')
 ln:lines r=(l,l.length+e.length)::lines r'
 no:10∉l
 en:(e=[]∧r'=[]∧l≠[])∨e=[10]∨e=[13,10]
theorem rk (r:By):r=[]∨∃l e r',Ln r l e r':=by
 rcases yD r with h|⟨ne,nr⟩|⟨a,b,na,rfl⟩
 ·exact .inl h
 ·exact .inr ⟨r,[],[],(List.append_nil r).symm,gH nr ne,nr,.inl ⟨rfl,rfl,ne⟩⟩
 ·refine .inr ?_;rcases gO a with rfl|⟨y,c,rfl⟩
  ·exact⟨[],[10],b,rfl,cP na,na,.inr (.inl rfl)⟩
  ·by_cases h:c=13
   ·subst h;refine⟨y,[13,10],b,List.append_assoc _ _ _,?_,λm=>na (List.mem_append_left _ m),.inr (.inr rfl)⟩;rw[cP na,nM,List.length_append];rfl
   ·refine⟨y++[c],[10],b,rfl,?_,na,.inr (.inl rfl)⟩;rw[cP na,ub h];rfl
theorem Ln.stop {r l e r':By} (h:Ln r l e r'):stop (e++r'):=by
 rcases h.en with⟨h1,h2,_⟩|h1|h1
 ·exact .inl (by rw[h1,h2];rfl)
 ·exact .inr ⟨10,r',by rw[h1];rfl,.inl rfl⟩
 ·exact .inr ⟨13,10::r',by rw[h1];rfl,.inr rfl⟩
theorem Ln.lt {r l e r':By} (h:Ln r l e r'):r'.length<r.length:=by
 rw[h.eq,List.length_append,List.length_append];rcases h.en with⟨rfl,rfl,ne⟩|rfl|rfl
 ·exact List.length_pos_iff.mpr ne
 ·exact Nat.lt_of_lt_of_le (Nat.lt_add_of_pos_left Nat.one_pos) (Nat.le_add_left _ _)
 ·exact Nat.lt_of_lt_of_le (Nat.lt_add_of_pos_left (Nat.succ_pos 1)) (Nat.le_add_left _ _)
theorem vu {P:By→Prop} (h0:P []) (h1:∀r l e r',Ln r l e r'→P r'→P r) (r:By):P r:=by
 generalize hn:r.length=n
 induction n using Nat.strongRecOn generalizing r with
 |ind n ih=>
  rcases rk r with rfl|⟨l,e,r',h⟩
  ·exact h0
  ·exact h1 r l e r' h (ih _ (hn▸h.lt) r' rfl)
theorem n0 (r:By):(lines r).length≤r.length:=by
 induction r using vu with
 |h0=>exact Nat.le_refl _
 |h1 r l e r' h ih=>rw[h.ln];exact Nat.le_trans (Nat.succ_le_succ ih) h.lt
noncomputable def bj:By:=[45,45,61,95,112,97,114,116]
noncomputable def eM (c:UInt8):Bool:=decide (48≤c.toNat)&&decide (c.toNat≤57)
noncomputable def fX (c:By):By:=if bj.isPrefixOf c then((c.drop 8).takeWhile eM).take 20 else []
noncomputable def c6 (b:By):Str:=⟨(b.map (·.toNat)).toArray⟩
noncomputable def kS (x:By):AV:= .str (c6 x)
noncomputable def JT:By→By→List By
 |_,[]=>[]
 |u,c::v=>(u++[c])::JT (u++[c]) v
theorem Ij:∀u v:By,(JT u v).length=v.length:=by
 intro u v
 induction v generalizing u with
 |nil=>
  exact rfl
 |cons c v ih=>
  exact congrArg (·+1) (ih (u++[c]))
theorem uh (c:By):(fX c).length≤20:=by
 unfold fX;split
 ·rw[List.length_take];exact Nat.min_le_left _ _
 ·exact Nat.zero_le _
theorem qU (b:By) (c:UInt8):c6 b++⟨#[c.toNat]⟩=c6 (b++[c]):=by
 show(⟨_⟩:Str)=⟨_⟩;congr 1
 rw[List.map_append,List.append_toArray];rfl
noncomputable def uj (l:List (By×Nat)):List By:=l.flatMap λq=>JT [] (fX q.1)
theorem wd:∀l,(uj l).length≤20*l.length:=by
 intro l
 induction l with
 |nil=>
  exact Nat.le_refl _
 |cons q l ih=>
  have ih:=ih;unfold uj at ih⊢;rw[List.flatMap_cons,List.length_append,Ij,List.length_cons,Nat.mul_succ,Nat.add_comm];exact Nat.add_le_add ih (uh _)
set_option tactic.hygienic false
theorem Cj {d p l t:By} (e:d=p++(l++t)) (h:stop t):(cut d p.length (p.length+8:Nat)==bj)=bj.isPrefixOf l:=by
 rw[pz e,Bool.eq_iff_iff,beq_iff_eq,List.isPrefixOf_iff_prefix];constructor
 ·exactλq=>iw h (by decide) (by decide) (q▸List.take_prefix _ _)
 ·exactλq=>(List.prefix_iff_eq_take.mp (q.trans (List.prefix_append _ _))).symm
noncomputable abbrev Sh (d:By) (x s b g a:Option AV):Loc:=L (.fn 161) [some (.bytes d),some (.bytes bj),some (.ref 0),x,s,b,g,a]
structure MQ where
 u:By
 v:By
 acc:List AV
noncomputable def ud (d:By) (f s b:Nat) (t:MQ):Loc×List AV:=(Sh d (some (.int f)) (some (.int s)) (some (.int b)) (some (kS t.u)) (some (.int (f+8+t.u.length:Nat))),[.lst t.acc])
noncomputable abbrev MG (n:Nat) (d:By) (f s b:Nat) (t:MQ):Option ar:=(tW (En n (.fn 161)) 0 (aK (.fn 161) [1,0,2]) (ud d f s b t).1 (ud d f s b t).2).p
section
variable {n:Nat} {d:By} {f s b:Nat} {t:MQ} {c:UInt8}
theorem Oz (h:(cut d f (f+8:Nat)==bj)=false):MG n d f s b t=some (.brk (ud d f s b t).1 (ud d f s b t).2):=aj [eB h,eN] (by kernel_rfl)
theorem KW (h:(cut d f (f+8:Nat)==bj)=true) (q:s≤f+8+t.u.length):MG n d f s b t=some (.brk (ud d f s b t).1 (ud d f s b t).2):=aj [eB h,ju q,eN] (by kernel_rfl)
theorem M5 (h:(cut d f (f+8:Nat)==bj)=true) (q:f+8+t.u.length<s) (hi:f+8+t.u.length<d.length) (hc:d.getD (f+8+t.u.length) 0=c) (hd:eM c=true) (hu:20≤t.u.length):MG n d f s b t=some (.brk (ud d f s b t).1 (ud d f s b t).2):=
 have hd:=Bool.and_eq_true_iff.mp hd;aj [eB h,gu q,gI hi,eV (congrArg (λc:UInt8=>AV.int c.toNat) hc),Az (of_decide_eq_true hd.1),Az (of_decide_eq_true hd.2),ju (show 20≤(c6 t.u).length from Nat.le_trans hu (Nat.le_of_eq (List.length_map _).symm)),eN] (by kernel_rfl)
theorem Ox (h:(cut d f (f+8:Nat)==bj)=true) (q:f+8+t.u.length<s) (hi:f+8+t.u.length<d.length) (hc:d.getD (f+8+t.u.length) 0=c) (hd:eM c=false):MG n d f s b t=some (.brk (ud d f s b t).1 (ud d f s b t).2):=by
 by_cases k:48≤c.toNat
 ·have hd:57<c.toNat:=Nat.not_le.mp (of_decide_eq_false ((Bool.and_eq_false_iff.mp hd).resolve_left λe=>absurd (decide_eq_true k) (Bool.eq_false_iff.mp e)))
  exact aj [eB h,gu q,gI hi,eV (congrArg (λc:UInt8=>AV.int c.toNat) hc),Az k,My hd,eN] (by kernel_rfl)
 ·exact aj [eB h,gu q,gI hi,eV (congrArg (λc:UInt8=>AV.int c.toNat) hc),My (Nat.not_le.mp k),eN,eN] (by kernel_rfl)
theorem Ow (h:(cut d f (f+8:Nat)==bj)=true) (q:f+8+t.u.length<s) (hi:f+8+t.u.length<d.length) (hc:d.getD (f+8+t.u.length) 0=c) (hd:eM c=true) (hu:t.u.length<20) (ha:t.acc.length<ao):
 MG n d f s b t=some (.aY (Sh d (some (.int f)) (some (.int s)) (some (.int b)) (some (kS (t.u++[c]))) (some (.int (f+8+t.u.length+1:Nat)))) [.lst (t.acc++[kS (t.u++[c])])]):=
 have hd:=Bool.and_eq_true_iff.mp hd;have e2:AV.str (c6 t.u++⟨#[c.toNat]⟩)=kS (t.u++[c]):=congrArg AV.str (qU _ _);have hl:(c6 t.u++⟨#[c.toNat]⟩).length≤ao:=by rw[qU];exact Nat.le_trans (Nat.le_of_eq (List.length_map _)) (by rw[List.length_append];exact Nat.le_trans hu (by decide))
 have hlu:(c6 t.u).length<20:=Nat.lt_of_le_of_lt (Nat.le_of_eq (List.length_map _)) hu
 aj [eB h,gu q,gI hi,eV (congrArg (λc:UInt8=>AV.int c.toNat) hc),Az (of_decide_eq_true hd.1),Az (of_decide_eq_true hd.2),gu hlu,eY,gI hi,eV (congrArg (λc:UInt8=>AV.int c.toNat) hc),gT (show 0≤(c.toNat:Int)∧(c.toNat:Int)<55296 from⟨Int.natCast_nonneg _,Int.ofNat_lt.mpr (Nat.lt_trans c.toNat_lt (by decide))⟩),eK,gT hl,eV e2,gT ha] (by kernel_rfl)
end
theorem takeWhile_all {α:Type} {p:α→Bool}:∀{l:List α} {x:α},x∈l.takeWhile p→p x=true:=λm=>List.all_eq_true.mp List.all_takeWhile _ m
theorem kr {α:Type} {p:α→Bool}:∀l:List α,l.dropWhile p=[]∨∃c r,l.dropWhile p=c::r∧p c=false
 |[]=> .inl rfl
 |c::r=>by
  refine List.dropWhile_cons.symm▸?_;by_cases h:p c=true
  ·rw[if_pos h];exact kr r
  ·rw[if_neg h];exact .inr ⟨c,r,rfl,Bool.not_eq_true _▸h⟩
structure Dg (l w:By):Prop where
 eq:l=bj++(fX l++w)
 all:∀c∈fX l,eM c=true
 le:(fX l).length≤20
 en:w=[]∨∃c r,w=c::r∧(eM c=true→20≤(fX l).length)
theorem n5 {l:By} (h:bj.isPrefixOf l=true):∃w,Dg l w:=by
 obtain⟨m,rfl⟩:=List.isPrefixOf_iff_prefix.mp h;have e:fX (bj++m)=(m.takeWhile eM).take 20:=by unfold fX;rw[if_pos h];rfl
 refine⟨(m.takeWhile eM).drop 20++m.dropWhile eM,?_,?_,uh _,?_⟩
 ·rw[e,←List.append_assoc (List.take _ _),List.take_append_drop,List.takeWhile_append_dropWhile]
 ·rw[e];exactλc k=>takeWhile_all (List.mem_of_mem_take k)
 ·refine e.symm▸?_;cases q:(m.takeWhile eM).drop 20 with
  |nil=>exact(kr m).elim .inl λ⟨c,r,k,n⟩=> .inr ⟨c,r,k,λy=>absurd y (Bool.eq_false_iff.mp n)⟩
  |cons c r=>
   refine .inr ⟨c,r++m.dropWhile eM,rfl,λ_=> ?_⟩;have:=congrArg List.length q;rw[List.length_drop] at this;refine List.length_take.symm▸?_;exact Nat.le_min.mpr ⟨Nat.le_refl _,Nat.le_of_lt (Nat.lt_of_sub_pos (this▸Nat.succ_pos _))⟩
structure QE (l:By) (X:List AV) (s:MQ):Prop where
 eq:s.u++s.v=fX l
 ac:s.acc++(JT s.u s.v).map kS=X
theorem yr {d p l t u x:By} (hd:d=p++(l++t)) (e:l=bj++(u++x)):d=(p++bj++u)++(x++t)∧(p++bj++u).length=p.length+8+u.length∧p.length+l.length=p.length+8+u.length+x.length:=
 ⟨by rw[hd,e];simp only[List.append_assoc],by rw[List.length_append,List.length_append];rfl,by rw[e,List.length_append,List.length_append,←Nat.add_assoc,←Nat.add_assoc];rfl⟩
theorem Gf {n:Nat} {d p l t w:By} {b:Nat} {X:List AV} (hd:d=p++(l++t)) (hl:X.length≤ao) (D:Dg l w) (hc:(cut d p.length (p.length+8:Nat)==bj)=true) (s:MQ) (i:QE l X s):
 ∃q,MG n d p.length (p.length+l.length) b s=some q∧Nx (ud d p.length (p.length+l.length) b) (λs'=>QE l X s'∧s'.v.length<s.v.length) (λq=>∃u,q= .aY (ud d p.length (p.length+l.length) b ⟨u,[],X⟩).1 [.lst X]) q:=by
 refine cps λG kf=> ?_
 obtain⟨u,v,acc⟩:=s;obtain⟨h1,h2⟩:=i;dsimp only at h1 h2;cases v with
 |nil=>
  rw[List.append_nil] at h1;have hx:acc=X:=(List.append_nil acc).symm.trans h2;have fin:=λh=>kf ⟨_,h,.brk ⟨u,by rw[←hx]⟩⟩
  obtain⟨e1,e2,e3⟩:=yr hd (h1▸D.eq);rcases D.en with rfl|⟨c,r,rfl,k⟩
  ·exact fin (KW hc (Nat.le_of_eq e3))
  ·have hi:=dh e1;have hg:=bS (x:=0) e1;rw[e2] at hi hg;have hs:=e3▸Nat.lt_add_of_pos_right (Nat.succ_pos r.length);cases z:eM c with
   |true=>exact fin (M5 hc hs hi hg z (h1▸k z))
   |false=>exact fin (Ox hc hs hi hg z)
 |cons c v=>
  have hm:c∈fX l:=h1▸List.mem_append_right _ List.mem_cons_self;have hu:u.length<20:=Nat.lt_of_lt_of_le (by rw[←h1,List.length_append];exact Nat.lt_add_of_pos_right (Nat.succ_pos _)) D.le
  have ha:acc.length<ao:=Nat.lt_of_lt_of_le (by rw[←h2,List.length_append];exact Nat.lt_add_of_pos_right (Nat.succ_pos _)) hl
  obtain⟨e1,e2,e3⟩:=yr (u:=u) (x:=c::v++w) hd (by rw[←List.append_assoc u,h1];exact D.eq);have hi:=dh e1;have hg:=bS (x:=0) e1;rw[e2] at hi hg;refine kf ⟨_,Ow hc (e3▸Nat.lt_add_of_pos_right (Nat.succ_pos _)) hi hg (D.all c hm) hu ha,.inl ⟨⟨u++[c],v,acc++[kS (u++[c])]⟩,?_,⟨?_,?_⟩,Nat.lt_succ_self _⟩⟩
  ·unfold ud;dsimp only;rw[List.length_append (as:=u)];rfl
  ·rw[←h1,List.append_assoc];rfl
  ·rw[←h2,List.append_assoc];rfl
theorem IQ {n:Nat} {d p l t:By} {b m:Nat} {X:List AV} {acc:List AV} (hd:d=p++(l++t)) (ht:stop t) (hX:acc++(JT [] (fX l)).map kS=X) (hl:X.length≤ao) (hm:20<m):
 ∃u,mW (En n (.fn 161)) 0 (aK (.fn 161) [1,0,2]) m (ud d p.length (p.length+l.length) b ⟨[],[],acc⟩).1 [.lst acc]=some (.aY (ud d p.length (p.length+l.length) b ⟨u,[],X⟩).1 [.lst X]):=by
 have hc:=Cj hd ht;cases q:bj.isPrefixOf l with
 |false=>
  have e:fX l=[]:=if_neg (Bool.eq_false_iff.mp q);rw[e] at hX;have hx:acc=X:=(List.append_nil acc).symm.trans hX;obtain⟨_,h,rfl⟩:=jQ (C:=En n (.fn 161)) (k:=0) (st:=aK (.fn 161) [1,0,2]) (enc:=ud d p.length (p.length+l.length) b) (Q:=λq=>q= .aY (ud d p.length (p.length+l.length) b ⟨[],[],acc⟩).1 [.lst acc]) (λt=>t=⟨[],[],acc⟩) (λ_=>0) (λt e=>⟨_,Oz (hc.trans q),.brk (by rw[e];rfl)⟩) m _ rfl (Nat.lt_trans (Nat.succ_pos 19) hm);exact⟨[],hx▸h⟩
 |true=>
  obtain⟨w,D⟩:=n5 q;obtain⟨_,h,u,rfl⟩:=jQ (C:=En n (.fn 161)) (k:=0) (st:=aK (.fn 161) [1,0,2]) (enc:=ud d p.length (p.length+l.length) b) (QE l X) (λt=>t.v.length) (λs i=>Gf hd hl D (hc.trans q) s i) m ⟨[],fX l,acc⟩ ⟨rfl,hX⟩ (Nat.lt_of_le_of_lt D.le hm);exact⟨u,h⟩
set_option tactic.hygienic false
structure ME (d:By) (r:By) (xs:List (Nat×Nat×Nat)):Prop where
 ex:∃p,d=p++r∧xs=spans p.length (lines r)
theorem ME.step {d r:By} {x:Nat×Nat×Nat} {xs:List (Nat×Nat×Nat)} (h:ME d r (x::xs)) {G:Prop} (k:∀p l e r',Ln r l e r'→d=p++(l++(e++r'))→x=(p.length,p.length+l.length,p.length+(l.length+e.length))→ME d r' xs→G):G:=by
 obtain⟨p,hd,hx⟩:=h.ex;rcases rk r with rfl|⟨l,e,r',n⟩
 ·exact zG hx
 ·rw[n.ln] at hx;obtain⟨h1,h2⟩:=List.cons.inj hx;have hd':d=p++(l++(e++r')):=by rw[hd,n.eq]
  refine k p l e r' n hd' h1 ⟨p++(l++e),?_,?_⟩
  ·rw[hd'];simp only[List.append_assoc]
  ·rw[h2,List.length_append,List.length_append]
structure PJ where
 x:Option AV
 s:Option AV
 b:Option AV
 g:Option AV
 a:Option AV
 acc:List AV
noncomputable def Mv (d:By) (t:PJ):Loc×List AV:=(L (.fn 161) [some (.bytes d),some (.bytes bj),some (.ref 0),t.x,t.s,t.b,t.g,t.a],[.lst t.acc])
theorem Hc {n:Nat} {d:By} {X:List AV} (hl:X.length≤ao) (x:Nat×Nat×Nat) (xs:List (Nat×Nat×Nat)) (s:PJ) (h:∃r,ME d r (x::xs)∧s.acc++(uj (lines r)).map kS=X):
 ∃q,(tF (En n (.fn 161)) 0 (aK (.fn 161) [1]) (qk x) (Mv d s).1 (Mv d s).2).p=some q∧Nx (Mv d) (λs=>∃r,ME d r xs∧s.acc++(uj (lines r)).map kS=X) (λq=>∃t:PJ,q= .aY (Mv d t).1 [.lst X]) q:=by
 refine cps λG kf=> ?_
 obtain⟨r,h1,h2⟩:=h;refine h1.step λp l e r' n' hd hx h3=> ?_
 rw[n'.ln,uj,List.flatMap_cons,List.map_append,←List.append_assoc] at h2;obtain⟨u,hu⟩:=IQ (n:=n) (b:=p.length+(l.length+e.length)) (m:=WF) hd n'.stop rfl (by rw[←h2,List.length_append] at hl;exact Nat.le_trans (Nat.le_add_right _ _) hl) (by decide);subst hx;exact kf ⟨_,aj [eT,eS hu] (by kernel_rfl),.inl ⟨⟨some (.int p.length),some (.int ↑(p.length+l.length)),some (.int ↑(p.length+(l.length+e.length))),some (kS u),some (.int ↑(p.length+8+u.length)),s.acc++(JT [] (fX l)).map kS⟩,rfl,r',h3,h2⟩⟩
noncomputable def qE (b:By):List By:=uj (lines b)
theorem Aw (n:Nat) {d:By} (hd:d.length<40000):run (n+2) (.fn 161) [.bytes d,.bytes bj] none=some (.ret (.lst ((qE d).map kS)) true none):=by
 have hl:((qE d).map kS).length≤ao:=by
  rw[List.length_map];exact Nat.le_trans (wd _) (Nat.le_trans (Nat.mul_le_mul_left _ (Nat.le_trans (n0 d) (Nat.le_of_lt hd))) (by decide))
 obtain⟨_,h,t,rfl⟩:=bV (C:=En (n+1) (.fn 161)) (k:=0) (st:=aK (.fn 161) [1]) (enc:=Mv d) qk (λxs s=>∃r,ME d r xs∧s.acc++(uj (lines r)).map kS=(qE d).map kS) (Hc hl) (Q:=λq=>∃t:PJ,q= .aY (Mv d t).1 [.lst ((qE d).map kS)]) (λs ⟨r,⟨p,hr,e⟩,h⟩=>⟨s,by
  have:lines r=[]:=by
   cases q:lines r with
   |nil=>rfl
   |cons=>rw[q] at e;exact zF e
  rw[this] at h;rw[←(List.append_nil s.acc).symm.trans h];rfl⟩) (spans 0 (lines d)) ⟨none,none,none,none,none,[]⟩ ⟨d,⟨[],rfl,rfl⟩,rfl⟩
 exact aa [eT,eC (m9 n (Nat.lt_trans hd (by decide))),eS h] (by kernel_rfl)
set_option tactic.hygienic false
noncomputable def aR (n:Nat):By:=(Nat.toDigits 10 n).map λc=>c.toNat.toUInt8
theorem qg {n:Nat} {c:Char} (h:c∈Nat.toDigits 10 n):48≤c.toNat∧c.toNat≤57:=by
 have:=Nat.isDigit_of_mem_toDigits (by decide) (by decide) h;simp only[Char.isDigit,Bool.and_eq_true,decide_eq_true_eq] at this;exact⟨this.1,this.2⟩
theorem yC {n:Nat} {c:Char} (h:c∈Nat.toDigits 10 n):(c.toNat.toUInt8).toNat=c.toNat:=Nat.mod_eq_of_lt (Nat.lt_of_le_of_lt (qg h).2 (by decide))
theorem vh {n:Nat} {c:UInt8} (h:c∈aR n):eM c=true:=by
 obtain⟨d,m,rfl⟩:=List.mem_map.mp h;unfold eM;rw[yC m,decide_eq_true (qg m).1,decide_eq_true (qg m).2];rfl
theorem yP (n:Nat):aR n≠[]:=λh=>Nat.toDigits_ne_nil (List.map_eq_nil_iff.mp h)
theorem iK {n k:Nat} (h:0<k) (hn:n<10^k):(aR n).length≤k:=by
 unfold aR;rw[List.length_map];exact(Nat.length_toDigits_le_iff (by decide) h).mpr hn
theorem pb (n:Nat):(aR n).map (·.toNat)=(Nat.toDigits 10 n).map Char.toNat:=by
 unfold aR;rw[List.map_map];exact List.map_congr_left λc m=>yC m
theorem Ek {n m:Nat} (h:aR n=aR m):n=m:=by
 have e:=congrArg (List.map λx:UInt8=>x.toNat) h;rw[pb,pb] at e;have a:=Nat.ofDigitChars_ten_toDigits (n:=n);rw[(List.map_inj_right λx y q=>Char.toNat_inj.mp q).mp e,Nat.ofDigitChars_ten_toDigits] at a;exact a.symm
theorem dD (n:Nat):digits (n:Int)=c6 (aR n):=by
 have e:(toString (n:Int)).toList=Nat.toDigits 10 n:=Nat.toList_repr;unfold digits c6;rw[Str.ofString_eq_toList,e,pb]
theorem CR {a b:By} (h:c6 a=c6 b):a=b:=
 (List.map_inj_right λx y q=>UInt8.toNat_inj.mp q).mp (congrArg (λs:Str=>s.cps.toList) h)
theorem iB (b:By):(c6 b).length=b.length:=List.length_map _
theorem kU (a b:By):c6 a++c6 b=c6 (a++b):=by
 show(⟨_⟩:Str)=⟨_⟩;congr 1
 rw[List.map_append,List.append_toArray];rfl
noncomputable def l9 (bodies:List By) (n:Nat):Prop:=∃b∈bodies,∃q∈lines b,aR n<+:fX q.1
noncomputable def i9 (P:Nat→Prop) (N:Nat):Prop:=¬P N∧∀m,m<N→P m
theorem i9.eq {P Q:Nat→Prop} (h:∀n,P n↔Q n) {a b:Nat} (x:i9 P a) (y:i9 Q b):a=b:=
 (Nat.lt_trichotomy a b).elim (λk=>absurd ((h a).mpr (y.2 a k)) x.1) λk=>k.elim id λk=>absurd ((h b).mp (x.2 b k)) y.1
theorem sub_len {α:Type} [DecidableEq α]:∀{l m:List α},l.Nodup→(∀x∈l,x∈m)→l.length≤m.length:=by
 intro l
 induction l with
 |nil=>
  intro _ _ _;exact Nat.zero_le _
 |cons x l ih=>
  intro m nd h;obtain⟨h1,h2⟩:=List.nodup_cons.mp nd;have hx:=h x List.mem_cons_self;have ih:=ih h2 λy my=>(List.mem_erase_of_ne λe:y=x=>h1 (e▸my)).mpr (h y (List.mem_cons_of_mem _ my))
  rw[List.length_erase_of_mem hx] at ih;exact Nat.add_le_of_le_sub (List.length_pos_of_mem hx) ih
theorem jJ (ks:List By):∃N,N≤ks.length∧i9 (λn=>aR n∈ks) N:=by
 have ex:∃N,N≤ks.length∧aR N∉ks:=Classical.byContradiction λh=>by
  have:=sub_len (l:=(List.range (ks.length+1)).map aR) (m:=ks) (List.Pairwise.map aR (λa b h e=>h (Ek e)) List.nodup_range) λx m=>by
   obtain⟨n,hn,rfl⟩:=List.mem_map.mp m;exact Classical.byContradiction λq=>h ⟨n,Nat.le_of_lt_succ (List.mem_range.mp hn),q⟩
  rw[List.length_map,List.length_range] at this;exact Nat.not_succ_le_self _ this
 obtain⟨N,h1,h2⟩:=ex
 induction N using Nat.strongRecOn with
 |_ N ih=>
  by_cases q:∃m,m<N∧aR m∉ks
  ·obtain⟨m,m1,m2⟩:=q;exact ih m m1 (Nat.le_trans (Nat.le_of_lt m1) h1) m2
  ·exact⟨N,h1,h2,λm hm=>Classical.byContradiction λz=>q ⟨m,hm,z⟩⟩
theorem FU {x:By}:∀{u v:By},x∈JT u v↔∃y,y≠[]∧y<+:v∧x=u++y:=by
 intro u v
 induction v generalizing u with
 |nil=>
  exact⟨λm=>(zE m),λ⟨y,h1,h2,_⟩=>absurd (List.prefix_nil.mp h2) h1⟩
 |cons c v ih=>
  refine List.mem_cons.trans ((or_congr_right ih).trans ⟨?_,?_⟩)
  ·rintro (rfl|⟨y,_,h2,rfl⟩)
   ·exact⟨[c],List.cons_ne_nil _ _,List.cons_prefix_cons.mpr ⟨rfl,List.nil_prefix⟩,rfl⟩
   ·exact⟨c::y,List.cons_ne_nil _ _,List.cons_prefix_cons.mpr ⟨rfl,h2⟩,List.append_assoc _ _ _⟩
  ·rintro ⟨y,h1,h2,rfl⟩
   cases y with
   |nil=>exact absurd rfl h1
   |cons a y=>
    obtain⟨rfl,h3⟩:=List.cons_prefix_cons.mp h2;cases y with
    |nil=>exact .inl rfl
    |cons b y=>exact .inr ⟨_,List.cons_ne_nil _ _,h3,(List.append_assoc u [a] _).symm⟩
noncomputable def jO (bodies:List By):List By:=bodies.flatMap qE
theorem jT {bodies:List By} {n:Nat}:aR n∈jO bodies↔l9 bodies n:=by
 unfold jO l9 qE uj;simp only[List.mem_flatMap,FU,List.nil_append];exact exists_congr λb=>and_congr_right λ_=>exists_congr λq=>and_congr_right λ_=>⟨λ⟨y,_,h,e⟩=>e▸h,λh=>⟨_,yP n,h,rfl⟩⟩
theorem Dc (b:By):(qE b).length≤20*b.length:=Nat.le_trans (wd _) (Nat.mul_le_mul_left _ (n0 b))
noncomputable def eA (l:List By):Nat:=(l.map List.length).sum
theorem eX (b:By) (l:List By):eA (b::l)=b.length+eA l:=List.sum_cons
theorem nX:∀bodies:List By,(jO bodies).length≤20*eA bodies:=by
 intro bodies
 induction bodies with
 |nil=>
  exact Nat.le_refl _
 |cons b bs ih=>
  show(qE b++jO bs).length≤_;rw[List.length_append,eX,Nat.mul_add];exact Nat.add_le_add (Dc b) (ih)
set_option tactic.hygienic false
noncomputable abbrev kT (_:By):AV:= .bool true
noncomputable def wc (ks:List By) (x:By):List By:=if x∈ks then ks else ks++[x]
theorem C3 (x y:By):yG (kS x) (kS y)=decide (x=y):=by
 by_cases h:x=y
 ·rw[h,decide_eq_true rfl];exact bw.mpr rfl
 ·rw[decide_eq_false h];exact Bool.eq_false_iff.mpr λe=>h (CR (bw.mp e))
theorem KL {k v x w:AV} {ks vs:List AV}:hZ (k::ks) (v::vs) x w=cond (yG x k) (k::ks,w::vs) (k::(hZ ks vs x w).1,v::(hZ ks vs x w).2):=rfl
theorem CA {k v x:AV} {ks vs:List AV}:dU (k::ks) (v::vs) x=cond (yG x k) (some v) (dU ks vs x):=rfl
theorem Cq:∀(ks:List By) (x:By),hZ (ks.map kS) (ks.map kT) (kS x) (.bool true)=((wc ks x).map kS,(wc ks x).map kT):=by
 intro ks
 induction ks with
 |nil=>
  intro x;exact rfl
 |cons k ks ih=>
  intro x;have ih:=ih x;rw[List.map_cons,List.map_cons,KL,C3,ih];unfold wc;by_cases h:x=k
  ·subst h;rw[decide_eq_true rfl,if_pos List.mem_cons_self];rfl
  ·rw[decide_eq_false h];by_cases m:x∈ks
   ·rw[if_pos m,if_pos (List.mem_cons_of_mem _ m)];rfl
   ·rw[if_neg m,if_neg λz=>(List.mem_cons.mp z).elim h m];rfl
theorem yp:∀(ks:List By) (x:By),(dU (ks.map kS) (ks.map kT) (kS x)).isSome=decide (x∈ks):=by
 intro ks
 induction ks with
 |nil=>
  intro x;exact rfl
 |cons k ks ih=>
  intro x;have ih:=ih x;rw[List.map_cons,List.map_cons,CA,C3];by_cases h:x=k
  ·subst h;rw[decide_eq_true rfl,decide_eq_true List.mem_cons_self];rfl
  ·rw[decide_eq_false h];exact ih.trans (decide_eq_decide.mpr ⟨List.mem_cons_of_mem _,λz=>(List.mem_cons.mp z).resolve_left h⟩)
theorem r6 (ks:List By) (s:Str):cW (.str s) (ks.map kS)=true:=by
 show(ks.map kS).all wx=true;rw[List.all_map];exact List.all_eq_true.mpr λ_ _=>rfl
theorem n9 {ks:List By} {x y:By}:y∈wc ks x↔y∈ks∨y=x:=by
 unfold wc;by_cases h:x∈ks
 ·rw[if_pos h];exact⟨.inl,λz=>z.elim id λe=>e▸h⟩
 ·rw[if_neg h,List.mem_append,List.mem_singleton]
theorem Dh (ks:List By) (x:By):(wc ks x).length≤ks.length+1:=by
 unfold wc;by_cases h:x∈ks
 ·rw[if_pos h];exact Nat.le_succ _
 ·rw[if_neg h,List.length_append];exact Nat.le_refl _
noncomputable def gb:By:=[61,95,112,97,114,116]
noncomputable def dP (n:Nat):Str:=c6 (gb++aR n)
structure Ra where
 ks:List By
 b:Option AV
 g:Option AV
noncomputable def wt (bs:AV) (j:Option AV) (s:Ra):Loc×List AV:=(L (.fn 162) [some bs,some (.bytes bj),some (.ref 0),s.b,s.g,j],[.dct (s.ks.map kS) (s.ks.map kT)])
section
variable {n:Nat} {bs:AV} {b:By} {M:Nat}
theorem N5 {xs:List By} (s:Ra) {K:By→Prop} (hK:∀x,(x∈s.ks∨x∈xs)↔K x) (hl:s.ks.length+xs.length≤M) (hM:M≤ao):
 ∃q,mF (En n (.fn 162)) 0 (aK (.fn 162) [2,0,0]) (xs.map kS) (wt bs none s).1 (wt bs none s).2=some q∧∃t,q= .aY (wt bs none t).1 (wt bs none t).2∧(∀x,x∈t.ks↔K x)∧t.ks.length≤M:=by
 refine bV (enc:=wt bs none) kS (λxs s=>(∀x,(x∈s.ks∨x∈xs)↔K x)∧s.ks.length+xs.length≤M) (λx xs s h=> ?_) (λs h=>⟨s,rfl,λx=>⟨λz=>(h.1 x).mp (.inl z),λz=>((h.1 x).mpr z).resolve_right λm=>zE m⟩,h.2⟩) xs s ⟨hK,hl⟩;have hl:s.ks.length<ao:=Nat.lt_of_lt_of_le (Nat.lt_of_lt_of_le (Nat.lt_add_of_pos_right (Nat.succ_pos _)) h.2) hM
 have hg:(cW (kS x) (s.ks.map kS)&&decide ((s.ks.map kS).length<ao))=true:=by
  rw[List.length_map,decide_eq_true hl,Bool.and_true];exact r6 _ _
 refine⟨_,aj (a:= .aY (wt bs none ⟨s.ks,s.b,some (kS x)⟩).1 [.dct (hZ (s.ks.map kS) (s.ks.map kT) (kS x) (.bool true)).1 (hZ (s.ks.map kS) (s.ks.map kT) (kS x) (.bool true)).2]) [eG hg] (by kernel_rfl),.inl ⟨⟨wc s.ks x,s.b,some (kS x)⟩,by rw[Cq];rfl,λy=> ?_,?_⟩⟩
 ·refine Iff.trans ⟨?_,?_⟩ (h.1 y)
  ·exactλz=>z.elim (λz=>(n9.mp z).imp_right λe:y=x=>e▸List.mem_cons_self) λz=> .inr (List.mem_cons_of_mem _ z)
  ·exactλz=>z.elim (λz=> .inl (n9.mpr (.inl z))) λz=>(List.mem_cons.mp z).imp_left λe=>n9.mpr (.inr e)
 ·exact Nat.le_trans (Nat.add_le_add_right (Dh _ _) _) (Nat.le_trans (Nat.le_of_eq (Nat.add_right_comm _ 1 _)) h.2)
theorem Kk {bodies:List By} (hl:eA bodies<4000):∃q,mF (En (n+2) (.fn 162)) 0 (aK (.fn 162) [2]) (bodies.map .bytes) (wt bs none ⟨[],none,none⟩).1 (wt bs none ⟨[],none,none⟩).2=some q∧∃t,q= .aY (wt bs none t).1 (wt bs none t).2∧∀x,x∈t.ks↔x∈jO bodies:=by
 have hM:(jO bodies).length≤ao:=Nat.le_trans (nX bodies) (Nat.le_trans (Nat.mul_le_mul_left _ (Nat.le_of_lt hl)) (by decide));refine bV (enc:=wt bs none) .bytes (λxs s=>(∀x,(x∈s.ks∨x∈jO xs)↔x∈jO bodies)∧s.ks.length+(jO xs).length≤(jO bodies).length∧eA xs<4000) (λb xs s h=> ?_) (λs h=>⟨s,rfl,λx=>⟨λz=>(h.1 x).mp (.inl z),λz=>((h.1 x).mpr z).resolve_right λm=>zE m⟩⟩) bodies ⟨[],none,none⟩ ⟨λx=>⟨λz=>z.resolve_left λm=>(zE m),.inr⟩,Nat.le_of_eq (Nat.zero_add _),hl⟩;have h1:=h.1;have h2:=h.2.1;have h3:=h.2.2;have hb:jO (b::xs)=qE b++jO xs:=List.flatMap_cons;rw[hb,List.length_append,←Nat.add_assoc] at h2;rw[eX] at h3;obtain⟨_,e,t,rfl,t1,t2⟩:=N5 (n:=n+2) (bs:=bs) (xs:=qE b) ⟨s.ks,some (.bytes b),s.g⟩ (λx=>Iff.rfl) (Nat.le_refl _) (Nat.le_trans (Nat.le_add_right _ _) (Nat.le_trans h2 hM));refine⟨_,aj [eC (Aw n (Nat.lt_trans (Nat.lt_of_le_of_lt (Nat.le_add_right _ _) h3) (by decide))),eS e] (by kernel_rfl),.inl ⟨t,rfl,λx=> ?_,Nat.le_trans (Nat.add_le_add_right t2 _) h2,Nat.lt_of_le_of_lt (Nat.le_add_left _ _) h3⟩⟩;rw[t1,←h1,hb,List.mem_append,or_assoc]
theorem LN {N:Nat} {s:Ra} (h:i9 (λn=>aR n∈s.ks) N) (hN:N<90000):∃q,mW (En n (.fn 162)) 0 (aK (.fn 162) [4]) WF (wt bs (some (.int (0:Nat))) s).1 (wt bs (some (.int (0:Nat))) s).2=some q∧q= .aY (wt bs (some (.int N)) s).1 (wt bs (some (.int N)) s).2:=by
 refine jQ (enc:=λj:Nat=>wt bs (some (.int j)) s) (λj=>j≤N) (λj=>N -j) (λj hj=> ?_) WF 0 (Nat.zero_le _) (Nat.lt_trans hN (by decide));have d1:(aR j).length≤5:=iK (by decide) (Nat.lt_trans (Nat.lt_of_le_of_lt hj hN) (by decide));have d2:(digits j).length≤ao:=by rw[dD,iB];exact Nat.le_trans d1 (by decide)
 have d3:AV.str (digits j)=kS (aR j):=congrArg AV.str (dD j);have d4:=hJ (Nat.lt_of_le_of_lt hj hN);rcases Nat.lt_or_eq_of_le hj with q|rfl
 ·have d5:(dU (s.ks.map kS) (s.ks.map kT) (kS (aR j))).isSome=true:=(yp _ _).trans (decide_eq_true (h.2 j q));exact⟨_,aj [gS d4,gT d2,eV d3,eG (r6 s.ks (c6 (aR j))),eB d5] (by kernel_rfl),.inl ⟨j+1,rfl,q,Nat.sub_succ_lt_self _ _ q⟩⟩
 ·have d5:(dU (s.ks.map kS) (s.ks.map kT) (kS (aR j))).isSome=false:=(yp _ _).trans (decide_eq_false h.1);exact⟨_,aj [gS d4,gT d2,eV d3,eG (r6 s.ks (c6 (aR j))),eB d5] (by kernel_rfl),.brk rfl⟩
theorem nz {bodies:List By} (hl:eA bodies<4000):∃N,i9 (l9 bodies) N∧N<90000∧Rn (n+3) (.fn 162) [.lst (bodies.map .bytes)] (.str (dP N)):=by
 obtain⟨_,e,t,rfl,ht⟩:=Kk (n:=n) (bs:= .lst (bodies.map .bytes)) hl;obtain⟨N,h1,h2⟩:=jJ (jO bodies);have hN:N<90000:=Nat.lt_of_le_of_lt (Nat.le_trans h1 (nX bodies)) (Nat.lt_of_le_of_lt (Nat.mul_le_mul_left _ (Nat.le_of_lt hl)) (by decide))
 obtain⟨_,e2,rfl⟩:=LN (n:=n+2) (bs:= .lst (bodies.map .bytes)) (s:=t) (N:=N) ⟨λm=>h2.1 ((ht _).mp m),λm k=>(ht _).mpr (h2.2 m k)⟩ hN;have d1:(aR N).length≤5:=iK (by decide) (Nat.lt_trans hN (by decide));have d2:(digits N).length≤ao:=by rw[dD,iB];exact Nat.le_trans d1 (by decide)
 have d3:AV.str (digits N)=kS (aR N):=congrArg AV.str (dD N);have d4:(c6 gb++c6 (aR N)).length≤ao:=by rw[kU,iB,List.length_append];exact Nat.le_trans (Nat.add_le_add_left d1 _) (by decide)
 refine⟨N,⟨λm=>h2.1 (jT.mpr m),λm k=>jT.mp (h2.2 m k)⟩,hN,?_⟩;have hc:mL (En (n+2) (.fn 162)) (ng (.fn 162) [0] [0,1,1]) (cX (Str.ofString "=_part")) (LX (ng (.fn 162) [0] [0,1,1]) []) []=some (.ok (bInts gb) []):=by kernel_rfl
 exact aa [eT,eT,eL hc,eT,eT,eT,eT,eS e,eS e2,gS (hJ hN),gT d2,eV d3,gT d4,eV (congrArg AV.str (kU gb (aR N)))] (by kernel_rfl)
end
set_option tactic.hygienic false
theorem zh {d p:By} (hp:p≠[]):∀(n i:Nat),d.length<n+(i+p.length)→n+i≤d.length→(0≤jd d p i n↔p<:+:d.drop i):=by
 intro n
 induction n with
 |zero=>
  intro i h h2;exact⟨λk=>absurd k (show¬(0:Int)≤-1 by decide),λk=>by
  have:=Nat.add_le_of_le_sub (Nat.zero_add i▸h2) (List.length_drop▸k.length_le);rw[Nat.zero_add,Nat.add_comm] at h;exact absurd this (Nat.not_le.mpr h)⟩
 |succ n ih=>
  intro i h h2;have hi:i<d.length:=Nat.lt_of_lt_of_le (Nat.lt_add_of_pos_left (Nat.succ_pos n)) h2
  have e:=List.drop_eq_getElem_cons hi;have ih:=ih (i+1) (Nat.lt_of_lt_of_eq h (by rw[Nat.add_right_comm n 1,Nat.add_right_comm i 1];rfl)) (Nat.le_trans (Nat.le_of_eq (Nat.succ_add n i).symm) h2);have hq:((d.drop i).take p.length==p)=true↔p<+:d.drop i:=by rw[beq_iff_eq,List.prefix_iff_eq_take,eq_comm]
  show 0≤(if((d.drop i).take p.length==p)=true then(i:Int) else jd d p (i+1) n)↔_;by_cases q:p<+:d.drop i
  ·rw[if_pos (hq.mpr q)];exact⟨λ_=>q.isInfix,λ_=>Int.natCast_nonneg i⟩
  ·rw[if_neg λk=>q (hq.mp k),ih];rw[e] at q⊢;exact⟨λk=>List.infix_cons k,λk=>(List.infix_cons_iff.mp k).resolve_left q⟩
theorem Cg {d p:By} (hp:p≠[]):0≤findB d p 0 d.length↔p<:+:d:=by
 have hl:=List.length_pos_iff.mpr hp;unfold findB;rw[Nat.min_self,Nat.zero_add];refine(zh hp _ 0 ?_ ?_)
 ·rw[Nat.zero_add];exact Nat.lt_of_lt_of_le (Nat.lt_succ_self _) (Nat.le_add_of_sub_le (Nat.le_refl _))
 ·exact Nat.sub_le_of_le_add (Nat.add_le_add_left hl _)
theorem EL {L z:By}:∀{l:By},10∉l→(10::L<:+:l++z↔10::L<:+:z):=by
 intro l
 induction l with
 |nil=>
  intro _;exact Iff.rfl
 |cons c l ih=>
  intro h;rw[List.cons_append,List.infix_cons_iff,ih λm=>h (List.mem_cons_of_mem _ m)];exact⟨λk=>k.resolve_left λk=>h ((List.cons_prefix_cons.mp k).1▸List.mem_cons_self),.inr⟩
theorem vK {L:By} (ne:L≠[]) (h10:10∉L) (h13:13∉L) (b:By):(∃q∈lines b,L<+:q.1)↔10::L<:+:10::b:=by
 induction b using vu with
 |h0=>
  refine⟨λ⟨q,m,_⟩=>(zE m),λk=> ?_⟩;have:=k.length_le;exact absurd (List.length_pos_iff.mpr ne) (Nat.not_lt.mpr (Nat.le_of_succ_le_succ this))
 |h1 r l e r' n ih=>
  rw[n.ln,n.eq,List.infix_cons_iff,List.cons_prefix_cons,EL n.no];have ps:L<+:l++(e++r')↔L<+:l:=⟨iw n.stop h10 h13,λk=>k.trans (List.prefix_append _ _)⟩
  have tl:10::L<:+:e++r'↔∃q∈lines r',L<+:q.1:=by
   rcases n.en with⟨rfl,rfl,_⟩|rfl|rfl
   ·exact⟨λk=>absurd (List.infix_nil.mp k) (λz=>zG z),λ⟨q,m,_⟩=>zE m⟩
   ·exact ih.symm
   ·rw[ih];exact⟨λk=>(List.infix_cons_iff.mp k).resolve_left λk=>absurd (List.cons_prefix_cons.mp k).1 (by decide),List.infix_cons⟩
  rw[tl,ps];exact⟨λ⟨q,m,k⟩=>(List.mem_cons.mp m).elim (λz=> .inl ⟨rfl,show L<+:(l,l.length+e.length).1 from z▸k⟩) λm=> .inr ⟨q,m,k⟩,λk=>k.elim (λk=>⟨_,List.mem_cons_self,k.2⟩) λ⟨q,m,k⟩=>⟨q,List.mem_cons_of_mem _ m,k⟩⟩
theorem sL (n:Nat) {c:UInt8} (h:eM c=false) (k:c∉bj):c∉bj++aR n:=λm=>(List.mem_append.mp m).elim k λm=>Bool.eq_false_iff.mp h (vh m)
theorem C2 {c:By} {n:Nat} (hn:n<10^20):aR n<+:fX c↔bj++aR n<+:c:=by
 constructor
 ·intro h;by_cases hl:bj.isPrefixOf c=true
  ·obtain⟨w,D⟩:=n5 hl;rw[D.eq];exact(List.prefix_append_right_inj _).mpr (h.trans (List.prefix_append _ _))
  ·exact absurd (List.prefix_nil.mp ((if_neg hl:fX c=[])▸h)) (yP n)
 ·rintro ⟨r,rfl⟩
  have e:fX (bj++aR n++r)=((aR n++r).takeWhile eM).take 20:=by
   unfold fX;rw[if_pos (List.isPrefixOf_iff_prefix.mpr (by rw[List.append_assoc];exact List.prefix_append _ _)),List.append_assoc];rfl
  rw[e,List.takeWhile_append_of_pos λc m=>vh m,List.take_append,List.take_of_length_le (iK (by decide) hn)];exact List.prefix_append _ _
noncomputable def sv (w:Nat) (t:By):Prop:=∃q∈lines t,bj++aR w<+:q.1
theorem vr (w:Nat) (t:By):sv w t↔10::(bj++aR w)<:+:10::t:=vK (List.cons_ne_nil _ _) (sL w (by decide) (by decide)) (sL w (by decide) (by decide)) t
theorem fC {bodies:List By} {w:Nat} (hw:w<10^20):l9 bodies w↔∃b∈bodies,sv w b:=
 exists_congr λ_=>and_congr_right λ_=>exists_congr λ_=>and_congr_right λ_=>C2 hw
theorem oz (b:By) (n:Nat):0≤findB (10::b) (10::(bj++aR n)) 0 (10::b).length↔sv n b:=(Cg (List.cons_ne_nil _ _)).trans (vr n b).symm
set_option tactic.hygienic false
noncomputable def cS (c:UInt8):AV:= .str ⟨#[c.toNat]⟩
theorem fA (x:By):cX (c6 x)=x.map cS:=List.map_map
theorem lh (x:By):(bInts x).length=x.length:=List.length_map _
theorem cH (x:By):(bInts x).all iL=true:=q7 id x
theorem cE (x:By):AV.bytes ((bInts x).map Di)= .bytes x:=congrArg AV.bytes ((yX id x).trans (List.map_id _))
theorem pS {C:ay} {e:Expr} {x:By} {r:Option AV→Loc} {S:List AV} (H:∀(c:UInt8) v,(C5 C e (cS c) (r v) S).p=some (.ok (some (.int c.toNat),r (some (cS c))) S)):mL C e (cX (c6 x)) (r none) S=some (.ok (bInts x) S):=by
 rw[fA];exact bW (enc:=r) (λc:UInt8=> .int c.toNat) (λ_ c=>some (cS c)) x none λc _ v=>H c v
section
variable {n:Nat} {j:Nat} {b:By} {v:Option AV}
noncomputable abbrev MD:Expr:=ng (.fn 181) [1] [0,0]
noncomputable abbrev QZ:Expr:=ng (.fn 181) [1] [0,0,2,0,1,1]
theorem Cd (n:Nat) (x:By):mL (En n (.fn 181)) QZ (cX (c6 x)) (LX QZ [none,none]) []=some (.ok (bInts x) []):=pS (r:=λv=>LX QZ [none,v]) λc v=>aj [eY,eK] (by kernel_rfl)
theorem jq {j:Nat} (h:j<90000):(aR j).length≤5∧(digits j).length≤ao∧AV.str (digits j)=kS (aR j):=
 have d:(aR j).length≤5:=iK (by decide) (Nat.lt_trans h (by decide))
 ⟨d,by rw[dD,iB];exact Nat.le_trans d (by decide),congrArg AV.str (dD j)⟩
theorem mi {x:By} {k:Nat} (h:x.length≤k) (hk:k≤ao) {y:List AV} (e:y.length=x.length):y.length≤ao:=e▸Nat.le_trans h hk
noncomputable def FE (j:Nat) (b:By):Option AV:=if 0≤findB (10::b) (10::(bj++aR j)) 0 (10::b).length then some (.int 1) else none
theorem Hk (hj:j<90000) (hb:b.length<4000):(C5 (En n (.fn 181)) MD (.bytes b) (LX MD [none,v,none,none,some (.int j)]) []).p=some (.ok (FE j b,LX MD [none,some (.bytes b),none,none,some (.int j)]) []):=by
 have d1:=(jq hj).1;have d2:=(jq hj).2.1;have d3:=(jq hj).2.2;have l1:((cX (c6 (aR j))).length)≤ao:=mi d1 (by decide) (by rw[fA,List.length_map]);have l2:=mi d1 (by decide) (lh (aR j));have l3:([10,45,45,61,95,112,97,114,116]++aR j).length≤ao:=by rw[List.length_append];exact Nat.le_trans (Nat.add_le_add_left d1 _) (by decide)
 have l4:([10]++b).length≤ao:=Nat.le_trans hb (by decide);unfold FE;by_cases h:0≤findB (10::b) (10::(bj++aR j)) 0 (10::b).length
 ·refine(if_pos h).symm▸?_;exact aj [eT,gS (hJ hj),gT d2,eV d3,gT l1,eL (Cd n (aR j)),gT l2,eG (cH (aR j)),gT l2,eV (cE (aR j)),gT l3,eT,gT l4,bT h,eY] (by kernel_rfl)
 ·refine(if_neg h).symm▸?_;exact aj [eT,gS (hJ hj),gT d2,eV d3,gT l1,eL (Cd n (aR j)),gT l2,eG (cH (aR j)),gT l2,eV (cE (aR j)),gT l3,eT,gT l4,bF h,eN] (by kernel_rfl)
theorem vk {bodies:List By} {b:By} (m:b∈bodies):b.length≤eA bodies:=by
 obtain⟨p,q,rfl⟩:=List.append_of_mem m;unfold eA;rw[List.map_append,List.sum_append,List.map_cons,List.sum_cons];exact Nat.le_trans (Nat.le_add_right _ _) (Nat.le_add_left _ _)
theorem GG {bodies:List By} (hj:j<90000) (hl:eA bodies<4000):mL (En n (.fn 181)) MD (bodies.map .bytes) (LX MD [none,none,none,none,some (.int j)]) []=some (.ok (bodies.filterMap (FE j)) []):=
 comp_map (enc:=λv=>LX MD [none,v,none,none,some (.int j)]) (FE j) (λ_ b=>some (.bytes b)) bodies none λb m v=>Hk hj (Nat.lt_of_le_of_lt (vk m) hl)
theorem uQ {bodies:List By}:(bodies.filterMap (FE j)).isEmpty=true↔¬∃b∈bodies,sv j b:=by
 rw[List.isEmpty_iff,List.filterMap_eq_nil_iff];refine⟨λh ⟨b,m,k⟩=> ?_,λh b m=>if_neg λk=>h ⟨b,m,(oz b j).mp k⟩⟩;have:=h b m;unfold FE at this;rw[if_pos ((oz b j).mpr k)] at this;exact zB this
theorem wa {bodies:List By} {N:Nat} (h:i9 (λn=>∃b∈bodies,sv n b) N) (hN:N<90000) (hl:eA bodies<4000) (hb:bodies.length≤100):
 ∃q,mW (En n (.fn 181)) 0 (aK (.fn 181) [1]) WF (L (.fn 181) [some (.lst (bodies.map .bytes)),some (.int (0:Nat))]) []=some q∧q= .aY (L (.fn 181) [some (.lst (bodies.map .bytes)),some (.int N)]) []:=by
 refine jQ (enc:=λj:Nat=>(L (.fn 181) [some (.lst (bodies.map .bytes)),some (.int j)],[])) (λj=>j≤N) (λj=>N -j) (λj hj=> ?_) WF 0 (Nat.zero_le _) (Nat.lt_trans hN (by decide));have b1:(bodies.map AV.bytes).length≤ao:=Nat.le_trans (List.length_map (as:=bodies) _▸hb) (by decide);have b2:(bodies.filterMap (FE j)).length≤ao:=Nat.le_trans (Nat.le_trans (List.length_filterMap_le _ _) hb) (by decide);have hc:=GG (n:=n) (Nat.lt_of_le_of_lt hj hN) hl;rcases Nat.lt_or_eq_of_le hj with q|rfl
 ·have e:(!(([]:List AV).isEmpty&&(bodies.filterMap (FE j)).isEmpty))=true:=by rw[Bool.eq_false_iff.mpr λz=>uQ.mp z (h.2 j q)];rfl
  exact⟨_,aj [gT b1,eL hc,gT b2,eT,eB e] (by kernel_rfl),.inl ⟨j+1,rfl,q,Nat.sub_succ_lt_self _ _ q⟩⟩
 ·have e:(!(([]:List AV).isEmpty&&(bodies.filterMap (FE j)).isEmpty))=false:=by rw[uQ.mpr h.1];rfl
  exact⟨_,aj [gT b1,eL hc,gT b2,eT,eB e] (by kernel_rfl),.brk rfl⟩
theorem sP {bodies:List By} {N:Nat} (h:i9 (l9 bodies) N) (hN:N<90000) (hl:eA bodies<4000) (hb:bodies.length≤100):Rn (n+1) (.fn 181) [.lst (bodies.map .bytes)] (.str (dP N)):=by
 obtain⟨_,e,rfl⟩:=wa (n:=n) ⟨λk=>h.1 ((fC (Nat.lt_trans hN (by decide))).mpr k),λm k=>(fC (Nat.lt_trans (Nat.lt_trans k hN) (by decide))).mp (h.2 m k)⟩ hN hl hb;have d1:=(jq hN).1;have d2:=(jq hN).2.1;have d3:=(jq hN).2.2;have d4:(c6 gb++c6 (aR N)).length≤ao:=by rw[kU,iB,List.length_append];exact Nat.le_trans (Nat.add_le_add_left d1 _) (by decide)
 exact aa [eS e,eT,gS (hJ hN),gT d2,eV d3,gT d4,eV (congrArg AV.str (kU gb (aR N)))] (by kernel_rfl)
end
noncomputable def bq (bodies:List By):Nat:=(jJ (jO bodies)).choose
theorem eZ {bodies:List By} (hl:eA bodies<4000):i9 (l9 bodies) (bq bodies)∧bq bodies<90000:=by
 obtain⟨h1,h2⟩:=(jJ (jO bodies)).choose_spec;exact⟨⟨λm=>h2.1 (jT.mpr m),λm k=>jT.mp (h2.2 m k)⟩,Nat.lt_of_le_of_lt (Nat.le_trans h1 (nX bodies)) (Nat.lt_of_le_of_lt (Nat.mul_le_mul_left _ (Nat.le_of_lt hl)) (by decide))⟩
theorem pU (n:Nat) {bodies:List By} (hl:eA bodies<4000):Rn (n+3) (.fn 162) [.lst (bodies.map .bytes)] (.str (dP (bq bodies))):=by
 obtain⟨N,h1,_,h2⟩:=nz (n:=n) hl;exact i9.eq (λ_=>Iff.rfl) h1 (eZ hl).1▸h2
theorem qZ (n:Nat) {bodies:List By} (hl:eA bodies<4000) (hb:bodies.length≤100):Rn (n+1) (.fn 181) [.lst (bodies.map .bytes)] (.str (dP (bq bodies))):=sP (eZ hl).1 (eZ hl).2 hl hb
set_option tactic.hygienic false
noncomputable def tt (n:Nat):List Ev:=List.replicate n eT
structure dj where
 cs:List Int
 sp:Nat
 op:Int
 rn:Int
noncomputable abbrev sN (s:String):AV:= .str (Str.ofString s)
noncomputable def di (s:dj):AV:= .dct [sN "cells",sN "spot",sN "open",sN "run"] [.lst (s.cs.map .int),.int s.sp,.int s.op,.int s.rn]
noncomputable def TG:Int:=10^60
theorem Iq {α β:Type} (f:α→β) (l:List α) (a b:Int):cut (l.map f) a b=(cut l a b).map f:=by
 unfold cut;rw[List.length_map,List.map_drop,List.map_take]
theorem Mi {α:Type} (l:List α) (a b:Int):(cut l a b).length≤l.length:=by
 unfold cut;rw[List.length_drop];exact Nat.le_trans (Nat.sub_le _ _) (List.length_take_le' _ _)
noncomputable def i8 (c:Int):Int:=Int.fmod c.natAbs TG
theorem sE (n:Nat) {ns:List Int} (h:ns.length≤63):∃s:dj,run (n+1) (.fn 178) [.lst (ns.map .int)] none=some (.ret (di s) true none):=by
 have l1:(cut ns 0 40).length≤ao:=Nat.le_trans (Mi _ _ _) (Nat.le_trans h (by decide));have hc:=bW (C:=En n (.fn 178)) (e:=ng (.fn 178) [0] [0]) (S:=[]) (enc:=λv=>LX (ng (.fn 178) [0] [0]) [none,v]) (h:=AV.int) (λc=> .int (i8 c)) (λ_ c=>some (.int c)) (cut ns 0 40) none λc _ v=>aj [eY,eT,eT] (by kernel_rfl)
 have l2:((cut ns 0 40).map AV.int).length≤ao:=(List.length_map AV.int).symm▸l1;have l3:((cut ns 0 40).map λc=>AV.int (i8 c)).length≤ao:=(List.length_map (as:=cut ns 0 40) λc=>AV.int (i8 c)).symm▸l1;have l4:((cut ns 0 40).map λc=>AV.int (i8 c)).all A6=true:=by rw[List.all_map];exact List.all_eq_true.mpr λ_ _=>rfl
 have l5:(cut ns 0 40).map (λc=>AV.int (i8 c))=((cut ns 0 40).map i8).map .int:=List.map_map.symm;refine⟨⟨(cut ns 0 40).map i8,0,-1,11+Int.fmod (Ai ((cut ns 0 40).map λc=>AV.int (i8 c))) 2147483549⟩,?_⟩;refine xG (v:= .dct [sN "cells",sN "spot",sN "open",sN "run"] [.lst ((cut ns 0 40).map λc=>AV.int (i8 c)),.int (0:Nat),.int (-1),.int (11+Int.fmod (Ai ((cut ns 0 40).map λc=>AV.int (i8 c))) 2147483549)]) (by rw[l5];rfl) [eV (congrArg AV.lst (Iq AV.int ns 0 40)),gT l2,eL hc,gT l3,eT,eT,eT,eT,eG l4,eT] (by kernel_rfl)
section
variable {n m:Nat} {s:dj} {z:Int}
noncomputable abbrev Tz (n m:Nat) (s:dj) (z:Int) (s':dj):Prop:=run (n+1) (.fn 179) [.ref 0,.int m] (some (di s))=some (.ret (.int (Int.fmod z m)) false (some (di s')))
noncomputable def Q2 (c1:s.op<0) (c2:s.sp<(s.cs.map AV.int).length) (g:(s.cs.map AV.int).getD s.sp .none= .int z):List Ev:=tt 2++[bT c1]++tt 4++[gu c2,eY]++tt 2++[eK]++tt 2++[eK,gI c2,eV g]++tt 6
noncomputable def T8 (c1:s.op<0) (c2:(s.cs.map AV.int).length≤s.sp):List Ev:=tt 2++[bT c1]++tt 4++[ju c2,eN]
noncomputable def SO (c1:¬s.op<0):List Ev:=tt 2++[bF c1,eN]
noncomputable def Sw {op:Int} (c:op<0) (h:(small s.rn||small 40692)=true) (hm:(m:Int)≠0):List Ev:=tt 2++[bT c]++tt 2++[eG h]++tt 3++tt 3++[gT hm]
noncomputable def SR {op:Int} (c:¬op<0) (h:(m:Int)≤op) (hm:(m:Int)≠0) (hs:(m:Int)≠0∧small m=true):List Ev:=tt 2++[bF c]++tt 2++[gT hm]++tt 2++[bT h]++tt 2++[gT hs]++tt 2
noncomputable def Sm {op:Int} (c:¬op<0) (h:¬(m:Int)≤op) (hm:(m:Int)≠0):List Ev:=tt 2++[bF c]++tt 2++[gT hm]++tt 2++[bF h]++tt 2
theorem CC (hm:0<m) (h2:m≤ao):∃z s',Tz n m s z s':=by
 have h0:(m:Int)≠0:=λe=>Nat.lt_irrefl 0 (Int.ofNat.inj e▸hm)
 have hr:(small s.rn||small 40692)=true:=by rw[show small 40692=true by decide,Bool.or_true]
 by_cases c1:s.op<0
 ·by_cases c2:s.sp<(s.cs.map AV.int).length
  ·obtain⟨z,g⟩:∃z,(s.cs.map AV.int).getD s.sp .none= .int z:=by
    rw[List.getD_eq_getElem?_getD,List.getElem?_eq_getElem c2,List.getElem_map];exact⟨_,rfl⟩
   by_cases c3:z<0
   ·exact⟨Int.fdiv (Int.fmod (s.rn*40692+9) 2147483399) 128,⟨s.cs,s.sp+1,z,Int.fmod (s.rn*40692+9) 2147483399⟩,aa (Q2 c1 c2 g++Sw c3 hr h0) (by kernel_rfl)⟩
   ·by_cases c4:(m:Int)≤z
    ·exact⟨z,⟨s.cs,s.sp+1,Int.fdiv z m,s.rn⟩,aa (Q2 c1 c2 g++SR c3 c4 h0 ⟨h0,bR h2⟩) (by kernel_rfl)⟩
    ·exact⟨z,⟨s.cs,s.sp+1,-1,s.rn⟩,aa (Q2 c1 c2 g++Sm c3 c4 h0) (by kernel_rfl)⟩
  ·exact⟨Int.fdiv (Int.fmod (s.rn*40692+9) 2147483399) 128,⟨s.cs,s.sp,s.op,Int.fmod (s.rn*40692+9) 2147483399⟩,aa (T8 c1 (Nat.not_lt.mp c2)++Sw c1 hr h0) (by kernel_rfl)⟩
 ·by_cases c4:(m:Int)≤s.op
  ·exact⟨s.op,⟨s.cs,s.sp,Int.fdiv s.op m,s.rn⟩,aa (SO c1++SR c1 c4 h0 ⟨h0,bR h2⟩) (by kernel_rfl)⟩
  ·exact⟨s.op,⟨s.cs,s.sp,-1,s.rn⟩,aa (SO c1++Sm c1 c4 h0) (by kernel_rfl)⟩
theorem bH (n:Nat) (s:dj) (m:Nat) (hm:0<m) (h2:m≤ao):∃(c:Nat) (s':dj),c<m∧run (n+1) (.fn 179) [.ref 0,.int m] (some (di s))=some (.ret (.int c) false (some (di s'))):=by
 obtain⟨z,s',h⟩:=CC (n:=n) (s:=s) hm h2;have hp:(0:Int)<m:=Int.ofNat_lt.mpr hm
 have h1:=Int.fmod_nonneg_of_pos z hp;exact⟨(Int.fmod z m).toNat,s',(Int.toNat_lt h1).mpr (Int.fmod_lt_of_pos z hp),by rw[Int.toNat_of_nonneg h1];exact h⟩
end
set_option tactic.hygienic false
theorem EP (a b:Int) (n:Nat):jw a b n=(List.range n).map λi:Nat=>AV.int (a+b*i):=by
 induction n generalizing a with
 |zero=>rfl
 |succ n ih=>
  show AV.int a::jw (a+b) b n=_;rw[ih (a+b),List.range_succ_eq_map,List.map_cons,List.map_map,Int.natCast_zero,Int.mul_zero,Int.add_zero];refine congrArg _ (List.map_congr_left λi _=>congrArg AV.int ?_);show a+b+b*(i:Int)=a+b*((i:Int)+1);rw[Int.mul_add,Int.mul_one,Int.add_assoc,Int.add_comm b]
noncomputable def iA (i:Nat):AV:= .int i
theorem xK (k:Nat):jw 0 1 (kR 0 k 1)=(List.range k).map iA:=by
 have e:kR 0 k 1=k:=by
  unfold kR PySem.Builtin.Range.rangeSize;rw[if_pos (by decide)];split
  ·rw[Int.ediv_one,Int.sub_zero,Int.sub_add_cancel];rfl
  ·rename_i h
   exact(Nat.le_zero.mp (Nat.not_lt.mp λz=>h (Int.ofNat_lt.mpr z))).symm
 rw[e,EP];exact List.map_congr_left λi _=>by rw[Int.one_mul,Int.zero_add];rfl
noncomputable def LD:List By:=[bj,bj,bj,bj,32::bj,[45,45,61,95,80,65,82,84],120::bj,[45,61,95,112,97,114,116]]
noncomputable def FG:List By:=[[48],[48,55],[49,48],[49],[],[49,49,49,49,49,49,49,49,49,49,49,49,49,49,49,49,49,49,49,49,49,49,49,49,49,49,49,49,49,49,50],[57,57,57,57,57,57,57,57,57,57,57,57,57,57,57,57,57,57,57,57],[50,120],[45,49]]
noncomputable def JJ:List By:=[[13,10],[10],[13],[45,45,13,10]]
noncomputable def NU:List By:=[[48],[49],[50],[51],[52],[53],[54],[55],[56],[57],[49,48],[49,49]]
noncomputable def vW:List By:=LD.flatMap λl=>(NU++FG).flatMap λf=>JJ.map λe=>l++f++e
theorem t7:∀c∈vW,c.length≤44:=by decide+kernel
theorem Oq:∀i,i<12→aR i∈NU:=by decide+kernel
theorem y3 {l f e:By} (hl:l∈LD) (hf:f∈NU++FG) (he:e∈JJ):l++f++e∈vW:=
 List.mem_flatMap.mpr ⟨l,hl,List.mem_flatMap.mpr ⟨f,hf,List.mem_map.mpr ⟨e,he,rfl⟩⟩⟩
theorem ll {l:List By} {c n:Nat} (h:c<n) (e:n=l.length):∃x∈l,(l.map AV.bytes).getD c .none= .bytes x:=by
 subst e;exact⟨l[c],List.getElem_mem h,by rw[List.getD_eq_getElem?_getD,List.getElem?_map,List.getElem?_eq_getElem h];rfl⟩
structure BS where
 s:dj
 f:By
 nu:Option AV
 wy:Option AV
 fi:Option AV
 le:Option AV
noncomputable def Fs (t:BS):Loc×List AV:=(L (.fn 180) [some (.ref 0),some (.bytes t.f),t.nu,t.wy,t.fi,t.le],[di t.s])
noncomputable abbrev QL:Expr:=ng (.fn 180) [1,0,1] [0,1,1]
theorem KC (n:Nat) (x:By) (s:dj):mL (En n (.fn 180)) QL (cX (c6 x)) (LX QL [none,none]) [di s]=some (.ok (bInts x) [di s]):=pS (r:=λv=>LX QL [none,v]) λc v=>aj [eY,eK] (by kernel_rfl)
noncomputable abbrev RG (n:Nat) (s s':dj) (m c:Nat):Prop:=run n (.fn 179) [.ref 0,.int m] (some (di s))=some (.ret (.int c) false (some (di s')))
theorem cB {a b:By} {k:Nat} (h:(a++b).length≤k):a.length≤k:=by rw[List.length_append] at h;exact Nat.le_trans (Nat.le_add_right _ _) h
section
variable {n i w:Nat} {s s1 s2 s3 s4:dj} {t:BS} {fx lx ex:By} {c8 c9 c4:Nat}
noncomputable def NM (n:Nat) (s1:dj) (hw:w<8) (hi:i<90000):List Ev:=
 have d:=jq hi;have l1:((cX (c6 (aR i))).length)≤ao:=mi d.1 (by decide) (by rw[fA,List.length_map]);have l2:=mi d.1 (by decide) (lh (aR i))
 [gu hw,gS (hJ hi),gT d.2.1,eV d.2.2,gT l1,eL (KC n (aR i) s1),gT l2,eG (cH (aR i)),gT l2,eV (cE (aR i))]
noncomputable def R3 (hw:8≤w) (h:RG n s1 s2 9 c9) (k:c9<9) (g:(FG.map AV.bytes).getD c9 .none= .bytes fx):List Ev:=[ju hw,eC h,gI k,eV g]
noncomputable def OY (hw:5<w) (h:RG n s2 s3 8 c8) (k:c8<8) (g:(LD.map AV.bytes).getD c8 .none= .bytes lx):List Ev:=[gu hw,eC h,gI k,eV g]
noncomputable def Rf (hw:w≤5):List Ev:=[ju hw,eT]
noncomputable def Sa (f lx fx:By) (hl:(f++lx++fx++ex).length≤ao) (h:RG n s3 s4 4 c4) (k:c4<4) (g:(JJ.map AV.bytes).getD c4 .none= .bytes ex):List Ev:=[gT (cB (cB hl)),gT (cB hl)]++tt 5++[eC h,gI k,eV g,gT hl]
theorem jF {f:By} (hf:f.length≤600) (hl:lx∈LD) (hx:fx∈NU++FG) (he:ex∈JJ):(f++lx++fx++ex).length≤ao:=by
 rw[List.append_assoc f,List.append_assoc f,List.length_append];exact Nat.le_trans (Nat.add_le_add hf (t7 _ (y3 hl hx he))) (by decide)
theorem H0 (hi:i<12) (hf:t.f.length≤600):∃t':BS,∃c∈vW,t'.f=t.f++c∧(tF (En (n+1) (.fn 180)) 1 (aK (.fn 180) [1]) (iA i) (Fs t).1 (Fs t).2).p=some (.aY (Fs t').1 (Fs t').2):=by
 refine cps λG kf=> ?_
 obtain⟨w,s1,_,h1⟩:=bH n t.s 12 (by decide) (by decide);have fin:∀{fx lx ex s4},lx∈LD→fx∈NU++FG→ex∈JJ→(tF (En (n+1) (.fn 180)) 1 (aK (.fn 180) [1]) (iA i) (Fs t).1 (Fs t).2).p=some (.aY (Fs ⟨s4,t.f++lx++fx++ex,some (iA i),some (iA w),some (.bytes fx),some (.bytes lx)⟩).1 [di s4])→G:=
  λa b c e=>kf ⟨_,_,y3 a b c,by rw[List.append_assoc t.f,List.append_assoc t.f],e⟩
 have li:i<90000:=Nat.lt_trans hi (by decide)
 by_cases q8:w<8
 ·have mf:aR i∈NU++FG:=List.mem_append_left _ (Oq i hi);by_cases q5:5<w
  ·obtain⟨c8,s3,k8,h8⟩:=bH n s1 8 (by decide) (by decide);obtain⟨c4,s4,k4,h4⟩:=bH n s3 4 (by decide) (by decide);obtain⟨lx,ml,gl⟩:=ll (l:=LD) k8 rfl;obtain⟨ex,me,ge⟩:=ll (l:=JJ) k4 rfl;exact fin (s4:=s4) ml mf me (aj ([eC h1]++NM (n+1) s1 q8 li++OY q5 h8 k8 gl++Sa t.f lx (aR i) (jF hf ml mf me) h4 k4 ge) (by kernel_rfl))
  ·obtain⟨c4,s4,k4,h4⟩:=bH n s1 4 (by decide) (by decide);obtain⟨ex,me,ge⟩:=ll (l:=JJ) k4 rfl;have ml:bj∈LD:=List.mem_cons_self;exact fin (s4:=s4) ml mf me (aj ([eC h1]++NM (n+1) s1 q8 li++Rf (Nat.not_lt.mp q5)++Sa t.f bj (aR i) (jF hf ml mf me) h4 k4 ge) (by kernel_rfl))
 ·obtain⟨c9,s2,k9,h9⟩:=bH n s1 9 (by decide) (by decide);obtain⟨fx,mf,gf⟩:=ll (l:=FG) k9 rfl;replace mf:fx∈NU++FG:=List.mem_append_right _ mf;have q5:5<w:=Nat.lt_of_lt_of_le (by decide) (Nat.not_lt.mp q8)
  obtain⟨c8,s3,k8,h8⟩:=bH n s2 8 (by decide) (by decide);obtain⟨c4,s4,k4,h4⟩:=bH n s3 4 (by decide) (by decide);obtain⟨lx,ml,gl⟩:=ll (l:=LD) k8 rfl;obtain⟨ex,me,ge⟩:=ll (l:=JJ) k4 rfl;exact fin (s4:=s4) ml mf me (aj ([eC h1]++R3 (Nat.not_lt.mp q8) h9 k9 gf++OY q5 h8 k8 gl++Sa t.f lx fx (jF hf ml mf me) h4 k4 ge) (by kernel_rfl))
end
theorem E6 {cs:List By} (h:∀c∈cs,c∈vW):cs.flatten.length≤44*cs.length:=by
 induction cs with
 |nil=>exact Nat.le_refl _
 |cons c cs ih=>
  rw[List.flatten_cons,List.length_append,List.length_cons,Nat.mul_succ,Nat.add_comm];exact Nat.add_le_add (ih λx m=>h x (List.mem_cons_of_mem _ m)) (t7 c (h c List.mem_cons_self))
structure P1 (f:By) (k:Nat):Prop where
 ex:∃cs:List By,f=cs.flatten∧cs.length≤k∧∀c∈cs,c∈vW
theorem m7 (n:Nat) (s:dj):∃f s',P1 f 12∧run (n+2) (.fn 180) [.ref 0] (some (di s))=some (.ret (.bytes f) false (some (di s'))):=by
 obtain⟨k,s1,hk,h1⟩:=bH n s 13 (by decide) (by decide);have hm:∀i∈List.range k,i<12:=λi m=>Nat.lt_of_lt_of_le (List.mem_range.mp m) (Nat.le_of_lt_succ hk)
 obtain⟨_,e,t,rfl,p⟩:=bV (C:=En (n+1) (.fn 180)) (k:=1) (st:=aK (.fn 180) [1]) (enc:=Fs) (Q:=λq=>∃t:BS,q= .aY (Fs t).1 (Fs t).2∧P1 t.f 12) iA (λxs t=>(∃k,k+xs.length≤12∧P1 t.f k)∧∀i∈xs,i<12) (λi xs t h=>by
  obtain⟨⟨k,hk,⟨cs,e1,e2,e3⟩⟩,h2⟩:=h;have hl:=Nat.le_trans (E6 e3) (Nat.mul_le_mul_left 44 (Nat.le_trans e2 (Nat.le_trans (Nat.le_add_right _ _) hk)));rw[←e1] at hl;obtain⟨t',c,mc,e4,e5⟩:=H0 (n:=n) (t:=t) (h2 i List.mem_cons_self) (Nat.le_trans hl (by decide));refine⟨_,e5,.inl ⟨t',rfl,⟨k+1,Nat.le_trans (Nat.le_of_eq (Nat.add_right_comm k 1 xs.length)) hk,⟨cs++[c],?_,?_,?_⟩⟩,λj m=>h2 j (List.mem_cons_of_mem _ m)⟩⟩
  ·rw[e4,e1,List.flatten_append,List.flatten_singleton]
  ·rw[List.length_append];exact Nat.succ_le_succ e2
  ·exactλx m=>(List.mem_append.mp m).elim (e3 x) λm=>List.mem_singleton.mp m▸mc) (λt h=>⟨t,rfl,⟨h.1.choose_spec.2.ex.choose,h.1.choose_spec.2.ex.choose_spec.1,Nat.le_trans h.1.choose_spec.2.ex.choose_spec.2.1 h.1.choose_spec.1,h.1.choose_spec.2.ex.choose_spec.2.2⟩⟩) (List.range k) ⟨s1,[],none,none,none,none⟩ ⟨⟨0,by rw[Nat.zero_add,List.length_range];exact Nat.le_of_lt_succ hk,⟨[],rfl,Nat.le_refl _,λ_ m=>zE m⟩⟩,hm⟩
 rw[←xK] at e;have hg:decide ((jw 0 1 (kR 0 k 1)).length≤ao)=true:=decide_eq_true (by rw[xK,List.length_map,List.length_range];exact Nat.le_trans (Nat.le_of_lt hk) (by decide));exact⟨t.f,t.s,p,aa [eT,eC h1,gS (Nat.le_trans (Nat.le_of_lt hk) (by decide)),eS e] (by kernel_rfl)⟩
set_option tactic.hygienic false
noncomputable def ck {α:Type} (w:Nat):Nat→List α→List (List α)
 |0,_=>[]
 |n+1,l=>l.take w::ck w n (l.drop w)
structure qj (w m n:Nat):Prop where
 lo:m≤w*n
 hi:w*n<m+w
theorem qj.zero {w m:Nat} (h:qj w m 0):m=0:=Nat.le_zero.mp h.lo
theorem qj.pos {w m n:Nat} (h:qj w m (n+1)):0<m:=Nat.pos_of_lt_add_left (Nat.lt_of_le_of_lt (Nat.le_mul_of_pos_right w (Nat.succ_pos n)) h.hi)
theorem qj.succ {w m n:Nat} (h:qj w m (n+1)):qj w (m -w) n:=by
 have h1:=h.1;have h2:=h.2;rw[Nat.mul_succ] at h1 h2;exact⟨Nat.sub_le_of_le_add h1,Nat.lt_of_lt_of_le (Nat.lt_of_add_lt_add_right h2) (Nat.le_add_of_sub_le (Nat.le_refl _))⟩
theorem qj.uniq {w m n k:Nat} (h:qj w m n) (g:qj w m k):n=k:=by
 have key:∀{n k},qj w m n→qj w m k→n≤k:=λh g=>Nat.le_of_lt_succ (Nat.lt_of_mul_lt_mul_left (a:=w) (Nat.lt_of_lt_of_le h.hi (Nat.add_le_add_right g.lo w)))
 exact Nat.le_antisymm (key h g) (key g h)
theorem gP {α:Type} {w:Nat}:∀{n:Nat} {l:List α},l.length≤w*n→(ck w n l).flatten=l:=by
 intro n
 induction n with
 |zero=>
  intro l h;exact(List.eq_nil_of_length_eq_zero (Nat.le_zero.mp h)).symm
 |succ n ih=>
  intro l h;show l.take w++(ck w n (l.drop w)).flatten=l;rw[ih (by rw[List.length_drop];exact Nat.sub_le_of_le_add h),List.take_append_drop]
noncomputable def lO (m w:Nat):Nat:=kR 0 m w
theorem b8 (m:Nat) {w:Nat} (hw:0<w):qj w m (lO m w):=by
 unfold lO kR PySem.Builtin.Range.rangeSize;refine(if_pos (show(w:Int)>0 from Int.ofNat_lt.mpr hw)).symm▸?_;split
 ·rename_i h
  cases m with
  |zero=>exact absurd h (by decide)
  |succ m=>
   rw[Int.sub_zero,jM,show(((m:Int)/w+1).toNat)=m/w+1 from rfl];exact⟨Nat.lt_mul_div_succ m hw,by rw[Nat.mul_succ];exact Nat.add_lt_add_right (Nat.lt_succ_of_le (Nat.mul_div_le m w)) w⟩
 ·rename_i h
  have:m=0:=Nat.le_zero.mp (Nat.not_lt.mp λz=>h (Int.ofNat_lt.mpr z));refine this.symm▸?_;exact⟨Nat.zero_le _,by rw[Nat.zero_add];exact hw⟩
theorem og {α:Type} (d:List α) {a:Nat} (w:Nat) (h:a≤d.length):cut d a (a+w:Nat)=(d.drop a).take w:=by
 rw[nQ,Nat.min_eq_left h,List.take_drop]
noncomputable def SG:By:=[65,66,67,68,69,70,71,72,73,74,75,76,77,78,79,80,81,82,83,84,85,86,87,88,89,90,97,98,99,100,101,102,103,104,105,106,107,108,109,110,111,112,113,114,115,116,117,118,119,120,121,122,48,49,50,51,52,53,54,55,56,57,43,47]
noncomputable def sg (k:Nat):UInt8:=SG.getD k 0
noncomputable def wo (c:UInt8):Option Nat:=SG.findIdx? (·==c)
theorem Ot:∀k,k<64→wo (sg k)=some k:=by decide+kernel
theorem Jb:∀k,k<64→sg k≠61∧sg k≠45∧sg k≠58:=by decide+kernel
theorem Jj:wo 13=none∧wo 10=none:=by decide+kernel
noncomputable def dn:Nat→List Nat
 |0=>[0]
 |k+1=>(k+1)::dn k
noncomputable def A7 (t:Nat) (o:By):Nat:=o.foldl (λt c=>256*t+c.toNat) t
noncomputable def QQ (T k:Nat):List Nat:=(dn k).map λp=>T/64^p %64
noncomputable def gq (o:By):List Nat:=QQ (A7 0 o*2^(6 -2*o.length)) o.length
noncomputable def o7 (l:List Nat):Nat:=l.foldl (λt k=>64*t+k) 0
noncomputable def Jh (W k:Nat):By:=(dn k).map λp=>(W/256^p %256).toUInt8
noncomputable def gd (l:List Nat):By:=Jh (o7 l/2^(8 -2*l.length)) (l.length -2)
theorem C7:∀k,(dn k).length=k+1:=by
 intro k
 induction k with
 |zero=>
  exact rfl
 |succ k ih=>
  exact congrArg (·+1) (ih)
theorem sM (o:By):(gq o).length=o.length+1:=(List.length_map _).trans (C7 _)
theorem N8 (o:By):∀k∈gq o,k<64:=λk m=>(List.mem_map.mp m).elim λ_ h=>h.2▸Nat.mod_lt _ (by decide)
theorem GU (T:Nat):∀k t,((dn k).map λp=>T/64^p %64).foldl (λt d=>64*t+d) t=t*64^(k+1)+T %64^(k+1):=by
 intro k
 induction k with
 |zero=>
  intro t;show 64*t+T/1 %64=t*64+T %64;rw[Nat.div_one,Nat.mul_comm]
 |succ k ih=>
  intro t;show((dn k).map λp=>T/64^p %64).foldl (λt d=>64*t+d) (64*t+T/64^(k+1)%64)=_;rw[ih,Nat.pow_succ 64 (k+1),Nat.mod_mul,Nat.add_mul,Nat.add_assoc,Nat.add_comm (T %_),Nat.mul_comm (64^(k+1)) (_ %64),Nat.mul_comm (64^(k+1)) 64,←Nat.mul_assoc,Nat.mul_comm t 64]
theorem so:∀(r:By) (t:Nat),A7 t r/256^r.length=t:=by
 intro r
 induction r with
 |nil=>
  intro t;exact Nat.div_one t
 |cons c r ih=>
  intro t;show A7 (256*t+c.toNat) r/256^(r.length+1)=t;rw[Nat.pow_succ,←Nat.div_div_eq_div_mul,ih,Nat.mul_add_div (by decide),Nat.div_eq_of_lt c.toNat_lt,Nat.add_zero]
theorem yK:∀(c:UInt8) (r:By) (t:Nat),Jh (A7 t (c::r)) r.length=c::r
 |c,r,t=>by
  have h1:(A7 (256*t+c.toNat) r/256^r.length %256).toUInt8=c:=by
   rw[so,Nat.mul_add_mod,Nat.mod_eq_of_lt c.toNat_lt];exact UInt8.ofNat_toNat
  cases r with
  |nil=>exact congrArg (·::[]) h1
  |cons d r=>exact(congrArg (·::_) h1).trans (congrArg (c::·) (yK d r _))
theorem u7 (o:By) (h:o.length≤3) (ne:o≠[]):o7 (gq o)=A7 0 o*2^(6 -2*o.length):=by
 refine(GU _ _ 0).trans ?_;rw[Nat.zero_mul,Nat.zero_add,Nat.mod_eq_of_lt];have hp:∀n,n≤3→n≠0→256^n*2^(6 -2*n)=64^(n+1):=by decide
 exact Nat.lt_of_lt_of_eq (Nat.mul_lt_mul_of_pos_right ((Nat.div_eq_zero_iff_lt (Nat.pow_pos (by decide))).mp (so o 0)) (Nat.pow_pos (by decide))) (hp _ h λz=>ne (List.eq_nil_of_length_eq_zero z))
theorem Cx:∀o:By,o≠[]→o.length≤3→gd (gq o)=o:=by
 intro o
 induction o with
 |nil=>
  intro h _;exact absurd rfl h
 |cons c r ih=>
  intro ne h;have e0:(gq (c::r)).length=r.length+2:=sM _;unfold gd;rw[e0,u7 _ h ne,show 8 -2*(r.length+2)=6 -2*(r.length+1) from Nat.add_sub_add_right 6 2 _,List.length_cons,Nat.mul_div_cancel _ (Nat.pow_pos (by decide))];exact yK c r 0
theorem D7 {α:Type} {w:Nat} (hw:0<w):∀{n:Nat} {l:List α},qj w l.length n→∀x∈ck w n l,x≠[]∧x.length≤w:=by
 intro n
 induction n with
 |zero=>
  intro _ _ _ m;exact zE m
 |succ n ih=>
  intro l h x m;exact(List.mem_cons.mp m).elim (λe=>⟨λz=>absurd (Nat.lt_min.mpr ⟨hw,h.pos⟩) (Nat.not_lt.mpr (Nat.le_of_eq (List.length_take▸congrArg List.length (e▸z)))),e▸List.length_take_le _ _⟩) λm=>ih (List.length_drop▸h.succ) x m
theorem JF:∀(n:Nat) (o:By),qj 3 o.length n→qj 4 ((ck 3 n o).flatMap gq).length n∧ck 4 n ((ck 3 n o).flatMap gq)=(ck 3 n o).map gq:=by
 intro n
 induction n with
 |zero=>
  intro o h;exact⟨⟨Nat.le_refl _,Nat.succ_pos _⟩,rfl⟩
 |succ n ih=>
  intro o h;have hs:=h.succ;rw[←List.length_drop] at hs;obtain⟨i1,i2⟩:=ih (o.drop 3) hs;have e:(ck 3 (n+1) o).flatMap gq=gq (o.take 3)++(ck 3 n (o.drop 3)).flatMap gq:=List.flatMap_cons;have gl:=sM (o.take 3);refine e.symm▸?_;show _∧List.take 4 _::ck 4 n (List.drop 4 _)=gq (o.take 3)::(ck 3 n (o.drop 3)).map gq;refine i2▸?_;generalize (ck 3 n (o.drop 3)).flatMap gq=s at*;have key:(gq (o.take 3)).length=4∨n=0:=by
   by_cases q:3≤o.length
   ·exact .inl (by rw[gl,List.length_take,Nat.min_eq_left q])
   ·have hz:(o.drop 3).length=0:=by rw[List.length_drop];exact Nat.sub_eq_zero_of_le (Nat.le_of_lt (Nat.not_le.mp q))
    exact .inr (hs.uniq (k:=0) ⟨Nat.le_of_eq hz,by rw[hz];decide⟩)
  rcases key with k|rfl
  ·have e1:(gq (o.take 3)++s).take 4=gq (o.take 3):=by rw[←k,List.take_left]
   have e2:(gq (o.take 3)++s).drop 4=s:=by rw[←k,List.drop_left]
   rw[e1,e2,List.length_append,k];refine⟨⟨?_,?_⟩,rfl⟩
   ·rw[Nat.mul_succ,Nat.add_comm];exact Nat.add_le_add_right i1.lo 4
   ·rw[Nat.mul_succ,Nat.add_comm 4];exact Nat.add_lt_add_right i1.hi 4
  ·have hz:=List.eq_nil_of_length_eq_zero i1.zero;subst hz;have g5:(gq (o.take 3)).length≤4:=gl▸Nat.succ_le_succ (List.length_take_le _ _);rw[List.append_nil,List.take_of_length_le g5];exact⟨⟨g5,gl▸Nat.lt_add_of_pos_left (Nat.succ_pos _)⟩,rfl⟩
noncomputable def sx (o:By):List Nat:=(ck 3 (lO o.length 3) o).flatMap gq
theorem DX (o:By):∀k∈sx o,k<64:=λk m=>(List.mem_flatMap.mp m).elim λc h=>N8 c k h.2
noncomputable def vA (n:Nat):By:=List.replicate (Int.fmod (-(n:Int)) 3).toNat 61
noncomputable def bQ (o:By):By:=(sx o).map sg++vA o.length
noncomputable def az:By:=[13,10]
noncomputable def xF (o:By):By:=aL az (ck 76 (lO (bQ o).length 76) (bQ o))
noncomputable def rK:By→List Nat
 |[]=>[]
 |c::r=>if c=61 then [] else(wo c).toList++rK r
theorem nL {b:By}:∀{a:By},61∉a→rK (a++b)=rK a++rK b:=by
 intro a
 induction a with
 |nil=>
  intro _;exact rfl
 |cons c a ih=>
  intro h;have hc:¬c=61:=λe=>h (e▸List.mem_cons_self)
  rw[List.cons_append];show(if c=61 then _ else _++rK (a++b))=(if c=61 then _ else _)++_;rw[if_neg hc,if_neg hc,ih λm=>h (List.mem_cons_of_mem _ m),List.append_assoc]
theorem x7 {b:By}:∀{a:By},61∈a→rK (a++b)=rK a:=by
 intro a
 induction a with
 |nil=>
  intro h;exact zE h
 |cons c a ih=>
  intro h;rw[List.cons_append];show(if c=61 then _ else _++rK (a++b))=(if c=61 then _ else _);by_cases q:c=61
  ·rw[if_pos q,if_pos q]
  ·rw[if_neg q,if_neg q,ih ((List.mem_cons.mp h).resolve_left λe=>q e.symm)]
theorem tA (s x y:By) (r:List By):aL s (x::y::r)=x++s++aL s (y::r):=rfl
theorem wi:∀l:List By,rK (aL az l)=rK l.flatten
 |[]=>rfl
 |[x]=>congrArg rK (List.append_nil x).symm
 |x::y::r=>by
  have ih:=wi (y::r);rw[tA,List.append_assoc,List.flatten_cons];by_cases q:61∈x
  ·rw[x7 q,x7 q]
  ·rw[nL q,nL q,←ih];refine congrArg _ (nL (a:=az) (by decide)|>.trans ?_);show((wo 13).toList++((wo 10).toList++[]))++_=_;rw[Jj.1,Jj.2];rfl
theorem J5:∀l:List Nat,(∀k∈l,k<64)→rK (l.map sg)=l:=by
 intro l
 induction l with
 |nil=>
  intro _;exact rfl
 |cons k l ih=>
  intro h;have hk:=h k List.mem_cons_self;rw[List.map_cons];show(if sg k=61 then _ else _++rK (l.map sg))=_;rw[if_neg (Jb k hk).1,Ot k hk,ih λj m=>h j (List.mem_cons_of_mem _ m)];rfl
theorem zq {o:By}:61∉(sx o).map sg:=λm=>(List.mem_map.mp m).elim λk h=>(Jb k (DX o k h.1)).1 h.2
theorem CL (n:Nat):rK (vA n)=[]:=by
 unfold vA;cases (Int.fmod (-(n:Int)) 3).toNat<;>rfl
theorem GR (o:By):rK (xF o)=sx o:=by
 unfold xF;rw[wi,gP (b8 _ (w:=76) (by decide)).lo,bQ,nL zq,J5 _ (DX o),CL,List.append_nil]
set_option tactic.hygienic false
theorem mh {T:Nat} (h:T<2^60):small (T:Int)=true:=Bool.and_eq_true_iff.mpr ⟨decide_eq_true (Int.lt_of_lt_of_le (by decide) (Int.natCast_nonneg T)),decide_eq_true (Int.ofNat_lt.mpr (Nat.lt_trans h (show 2^60<2^62 by decide)))⟩
theorem shr (T k:Nat):Int.fdiv (T:Int) (2^k)=((T/2^k:Nat):Int):=by
 rw[show((2:Int)^k)=((2^k:Nat):Int) from(Int.natCast_pow 2 k).symm,Int.fdiv_eq_ediv_of_nonneg _ (Int.natCast_nonneg _),Int.natCast_ediv]
noncomputable def K2 {T k:Nat} (h:k≤64):Ev:=gT (show 0≤(k:Int)∧(k:Int)≤64∧0≤(T:Int) from⟨Int.natCast_nonneg k,Int.ofNat_le.mpr h,Int.natCast_nonneg T⟩)
noncomputable def Lo {T k:Nat} (h:k≤64) (hT:T<2^60):Ev:=gT (show 0≤(k:Int)∧(k:Int)≤64∧0≤(T:Int)∧small T=true from⟨Int.natCast_nonneg k,Int.ofNat_le.mpr h,Int.natCast_nonneg T,mh hT⟩)
noncomputable def LQ {T k:Nat} (hT:T<2^60) (hk:k<2^60):Ev:=gT (show 0≤(T:Int)∧0≤(k:Int)∧small T=true∧small k=true from⟨Int.natCast_nonneg T,Int.natCast_nonneg k,mh hT,mh hk⟩)
noncomputable def uA (c:UInt8):AV:= .int c.toNat
section
variable {n T k:Nat} {A o:By} {v:Option AV}
noncomputable abbrev Mq:Expr:=ng (.fn 6) [4] [0]
theorem Qp (T p:Nat):AV.int (Int.fdiv (T:Int) (2^(6*p)))= .int ↑(T/64^p):=congrArg AV.int ((shr T _).trans (by rw[Nat.pow_mul]))
theorem G7 (hA:A.length=64) (hT:T<2^60) (hk:k≤3):(C5 (En n (.fn 6)) Mq (iA k) (LX Mq [none,v,some (.bytes A),some (.int T)]) []).p=some (.ok (some (uA (A.getD (T/64^k %64) 0)),LX Mq [none,some (iA k),some (.bytes A),some (.int T)]) []):=
 have h2:T/64^k<2^60:=Nat.lt_of_le_of_lt (Nat.div_le_self _ _) hT
 have e:AV.int ↑(T/64^k&&&63)= .int ↑(T/64^k %64):=by rw[Nat.and_two_pow_sub_one_eq_mod _ 6]
 aj [eY,eT,eK,K2 (T:=T) (Nat.le_trans (Nat.mul_le_mul_left 6 hk) (by decide)),eV (Qp T k),LQ (k:=63) h2 (by decide),eV e,gI (Nat.lt_of_lt_of_eq (Nat.mod_lt (T/64^k) (by decide:0<64)) hA.symm)] (by kernel_rfl)
theorem Jk:∀k,∀p∈dn k,p≤k:=by
 intro k
 induction k with
 |zero=>
  intro p m;exact Nat.le_of_eq (List.mem_singleton.mp m)
 |succ k ih=>
  intro p m;exact(List.mem_cons.mp m).elim Nat.le_of_eq λm=>Nat.le_succ_of_le (ih p m)
theorem tN (hA:A.length=64) (hT:T<2^60) (hk:k≤3):mL (En n (.fn 6)) Mq ((dn k).map iA) (LX Mq [none,none,some (.bytes A),some (.int T)]) []=some (.ok ((dn k).map λp=>uA (A.getD (T/64^p %64) 0)) []):=
 bW (enc:=λv=>LX Mq [none,v,some (.bytes A),some (.int T)]) (λp=>uA (A.getD (T/64^p %64) 0)) (λ_ p=>some (iA p)) (dn k) none λp m v=>G7 hA hT (Nat.le_trans (Jk k p m) hk)
theorem v9 {C:ay} {k:Nat} {st:Stmt} {α σ:Type} {enc:σ→Loc×List AV} {h:α→AV} (f:σ→α→σ) (H:∀x s,(tF C k st (h x) (enc s).1 (enc s).2).p=some (.aY (enc (f s x)).1 (enc (f s x)).2)):∀(xs:List α) (s:σ),mF C k st (xs.map h) (enc s).1 (enc s).2=some (.aY (enc (xs.foldl f s)).1 (enc (xs.foldl f s)).2):=by
 intro xs
 induction xs with
 |nil=>
  intro _;exact rfl
 |cons x xs ih=>
  intro s;have ih:=ih (f s x);rw[n8] at ih;rw[n8,List.map_cons,I6,H];exact ih
theorem r8 (o:By):∃v,mF (En n (.fn 6)) 0 (aK (.fn 6) [1]) (o.map uA) (L (.fn 6) [some (.bytes o),some (.bytes A),some (.int (0:Nat)),none]) []=some (.aY (L (.fn 6) [some (.bytes o),some (.bytes A),some (.int (A7 0 o)),v]) []):=by
 have h:=v9 (C:=En n (.fn 6)) (k:=0) (st:=aK (.fn 6) [1]) (enc:=λs:Nat×Option AV=>(L (.fn 6) [some (.bytes o),some (.bytes A),some (.int s.1),s.2],[])) (h:=uA) (λs c=>(256*s.1+c.toNat,some (uA c))) (λx s=>aj [eT] (by kernel_rfl)) o (0,none);have e:∀(o:By) t v,(o.foldl (λ(s:Nat×Option AV) c=>(256*s.1+c.toNat,some (uA c))) (t,v)).1=A7 t o:=λo=>by
  induction o with
  |nil=>exactλ_ _=>rfl
  |cons c r ih=>exactλt v=>ih _ _
 dsimp only at h;rw[e] at h;exact⟨_,h⟩
theorem sj (o:By) (h:o.length≤3):A7 0 o<2^24:=by
 have:=(Nat.div_eq_zero_iff_lt (Nat.pow_pos (by decide))).mp (so o 0);exact Nat.lt_of_lt_of_le this (Nat.pow_le_pow_right (n:=256) (by decide) h)
theorem EW (hA:A.length=64):∀o:By,o≠[]→o.length≤3→Rn (n+1) (.fn 6) [.bytes o,.bytes A] (.lst ((gq o).map λk=>uA (A.getD k 0)))
 |[],h,_=>absurd rfl h
 |[a],_,h=>by
  obtain⟨v,e⟩:=r8 (n:=n) (A:=A) [a];have hT:=sj [a] h;exact aa [eS e,eT,eT,Lo (k:=4) (by decide) (Nat.lt_trans hT (by decide)),eT,eT,eL (tN (n:=n) hA (T:=A7 0 [a]*2^4) (k:=1) (Nat.lt_trans (Nat.mul_lt_mul_of_pos_right hT (by decide)) (by decide)) (by decide)),eT] (by kernel_rfl)
 |[a,b],_,h=>by
  obtain⟨v,e⟩:=r8 (n:=n) (A:=A) [a,b];have hT:=sj [a,b] h;exact aa [eS e,eT,eT,Lo (k:=2) (by decide) (Nat.lt_trans hT (by decide)),eT,eT,eL (tN (n:=n) hA (T:=A7 0 [a,b]*2^2) (k:=2) (Nat.lt_trans (Nat.mul_lt_mul_of_pos_right hT (by decide)) (by decide)) (by decide)),eT] (by kernel_rfl)
 |[a,b,c],_,h=>by
  obtain⟨v,e⟩:=r8 (n:=n) (A:=A) [a,b,c];have hT:=sj [a,b,c] h;exact aa [eS e,eT,eT,Lo (k:=0) (by decide) (Nat.lt_trans hT (by decide)),eT,eT,eL (tN (n:=n) hA (T:=A7 0 [a,b,c]*2^0) (k:=3) (Nat.lt_trans (Nat.mul_lt_mul_of_pos_right hT (by decide)) (by decide)) (by decide)),eT] (by kernel_rfl)
 |_::_::_::_::_,_,h=>absurd h (Nat.not_le.mpr (Nat.lt_add_of_pos_left (Nat.succ_pos _)))
end
set_option tactic.hygienic false
noncomputable def bg (w:Nat):Nat→Nat→List Nat
 |_,0=>[]
 |a,n+1=>a::bg w (a+w) n
theorem iX (w:Nat):∀n a:Nat,jw a w n=(bg w a n).map iA
 |0,_=>rfl
 |n+1,a=>congrArg (AV.int a::·) (iX w n (a+w))
theorem Fe (w:Nat):∀n a:Nat,(bg w a n).length=n
 |0,_=>rfl
 |n+1,a=>congrArg (·+1) (Fe w n (a+w))
theorem IX {α:Type} {w:Nat} {l:List α}:∀n a:Nat,(bg w a n).map (λa=>(l.drop a).take w)=ck w n (l.drop a)
 |0,_=>rfl
 |n+1,a=>congrArg ((l.drop a).take w::·) ((IX n (a+w)).trans (by rw[List.drop_drop]))
theorem I7 {w m:Nat}:∀{n a:Nat},qj w (m -a) n→∀x∈bg w a n,x<m
 |0,_,_,x,h=>zE h
 |n+1,a,s,x,h=>(List.mem_cons.mp h).elim (λe=>e▸Nat.lt_of_sub_pos s.pos) λh=>I7 (Nat.sub_sub m a w▸s.succ) x h
theorem qj.le {w m n:Nat} (hw:0<w) (h:qj w m n):n≤m:=by
 cases n with
 |zero=>exact Nat.zero_le _
 |succ n=>exact Nat.lt_of_le_of_lt (Nat.le_mul_of_pos_left n hw) (Nat.lt_of_add_lt_add_right (n:=w) h.hi)
theorem xd (o:By):(sx o).length≤4*o.length:=
 Nat.le_trans (JF _ o (b8 o.length (w:=3) (by decide))).1.lo (Nat.mul_le_mul_left 4 ((b8 o.length (w:=3) (by decide)).le (by decide)))
theorem xW {m:Nat} (h:m≤ao) {w:Int} (hw:(small w&&decide (w≠0))=true):(small 0&&small (m:Int)&&small w&&decide (w≠0))=true:=by
 rw[bR h,Bool.and_assoc,hw];rfl
section
variable {n:Nat} {A o:By}
noncomputable def gA (A:By) (k:Nat):UInt8:=A.getD k 0
structure RU where
 acc:List AV
 b:Option AV
noncomputable def IY (o A:By) (s:RU):Loc×List AV:=(L (.fn 8) [some (.bytes o),some (.bytes A),some (.ref 0),s.b],[.lst s.acc])
structure QX (o:By) (X:List AV) (A:By) (xs:List Nat) (s:RU):Prop where
 ex:∃a k,xs=bg 3 a k∧qj 3 (o.length -a) k∧s.acc++((ck 3 k (o.drop a)).flatMap gq).map (λk=>uA (gA A k))=X
theorem FV (hA:A.length=64) {X:List AV} (hX:X.length≤ao) (a:Nat) (xs:List Nat) (s:RU) (h:QX o X A (a::xs) s):
 ∃q,(tF (En (n+1) (.fn 8)) 0 (aK (.fn 8) [1]) (iA a) (IY o A s).1 (IY o A s).2).p=some q∧Nx (IY o A) (QX o X A xs) (λq=>∃t,q= .aY (IY o A ⟨X,t⟩).1 (IY o A ⟨X,t⟩).2) q:=by
 refine cps λG kf=> ?_
 obtain⟨b,k,h1,h2,h3⟩:=h.ex;cases k with
 |zero=>exact zG h1
 |succ k=>
  obtain⟨rfl,h1⟩:=List.cons.inj h1;have ha:=Nat.lt_of_sub_pos h2.pos;have hs:=og o 3 (Nat.le_of_lt ha);have ne:(o.drop a).take 3≠[]:=λz=>by
   have:=congrArg List.length z;rw[List.length_take,List.length_drop] at this;exact absurd this (Nat.pos_iff_ne_zero.mp (Nat.lt_min.mpr ⟨by decide,h2.pos⟩))
  have hg:=EW (n:=n) hA _ ne (List.length_take_le _ _);have e:(ck 3 (k+1) (o.drop a)).flatMap gq=gq ((o.drop a).take 3)++(ck 3 k (o.drop (a+3))).flatMap gq:=by
   rw[←List.drop_drop];exact List.flatMap_cons
  rw[e,List.map_append,←List.append_assoc] at h3;have hl:s.acc.length+((gq ((o.drop a).take 3)).map λk=>uA (A.getD k 0)).length≤ao:=by
   refine List.length_append▸?_;rw[←h3,List.length_append] at hX;exact Nat.le_trans (Nat.le_add_right _ _) hX
  exact kf ⟨_,aj [eK,eV (congrArg AV.bytes hs),eC hg,gT hl] (by kernel_rfl),.inl ⟨⟨_,some (iA a)⟩,rfl,⟨a+3,k,h1,Nat.sub_sub _ _ _▸h2.succ,h3⟩⟩⟩
theorem ny (hA:A.length=64) (ho:o.length<40000):Rn (n+2) (.fn 8) [.bytes o,.bytes A] (.bytes ((sx o).map (gA A))):=by
 have l1:((sx o).map λk=>uA (gA A k)).length≤ao:=by rw[List.length_map];exact Nat.le_trans (xd o) (Nat.le_trans (Nat.mul_le_mul_left 4 (Nat.le_of_lt ho)) (by decide))
 obtain⟨_,e,t,rfl⟩:=bV (C:=En (n+1) (.fn 8)) (k:=0) (st:=aK (.fn 8) [1]) (enc:=IY o A) (Q:=λq=>∃t,q= .aY (IY o A ⟨(sx o).map λk=>uA (gA A k),t⟩).1 (IY o A ⟨(sx o).map λk=>uA (gA A k),t⟩).2) iA (QX o ((sx o).map λk=>uA (gA A k)) A) (FV hA l1) (λs h=>by
  obtain⟨a,k,h1,_,h3⟩:=h.ex;cases k with
  |zero=>exact⟨s.b,by rw[←(List.append_nil s.acc).symm.trans h3]⟩
  |succ k=>exact zF h1) (bg 3 0 (lO o.length 3)) ⟨[],none⟩ ⟨0,lO o.length 3,rfl,b8 o.length (by decide),rfl⟩
 rw[←iX] at e;exact aa [eT,eG (xW (m:=o.length) (Nat.le_trans (Nat.le_of_lt ho) (by decide)) (w:=3) rfl),eS e,eG (q7 (gA A) (sx o)),gT l1,eV (congrArg AV.bytes (yX (gA A) (sx o)))] (by kernel_rfl)
theorem sR (m:Nat):∃k:Nat,Int.fmod (-(m:Int)) 3=k∧k<3:=by
 have h1:=Int.fmod_nonneg_of_pos (-(m:Int)) (show(0:Int)<3 by decide);obtain⟨k,hk⟩:=Int.eq_ofNat_of_zero_le h1;exact⟨k,hk,Int.ofNat_lt.mp (hk▸Int.fmod_lt_of_pos (-(m:Int)) (show(0:Int)<3 by decide))⟩
theorem iO (o:By):(bQ o).length≤4*o.length+2:=by
 obtain⟨k,h1,h2⟩:=sR o.length;unfold bQ vA;rw[List.length_append,List.length_map,List.length_replicate,h1];exact Nat.add_le_add (xd o) (Nat.le_of_lt_succ h2)
theorem vE (ho:o.length<40000):Rn (n+3) (.fn 9) [.bytes o] (.bytes (bQ o)):=by
 obtain⟨k,h1,h2⟩:=sR o.length;have hk:k≤1000:=Nat.le_trans (Nat.le_of_lt h2) (by decide);have hp:vA o.length=List.replicate k 61:=by unfold vA;rw[h1];rfl
 have hg:(decide ([AV.int 61].length=1∧Int.fmod (-(o.length:Int)) 3≤1000)&&small (Int.fmod (-(o.length:Int)) 3))=true:=by
  rw[h1,bR (Nat.le_trans hk (by decide)),Bool.and_true];exact decide_eq_true ⟨rfl,Int.ofNat_le.mpr hk⟩
 have hm:AV.lst ((List.replicate (Int.fmod (-(o.length:Int)) 3).toNat [AV.int 61]).flatten)= .lst ((List.replicate k (61:UInt8)).map uA):=by
  rw[h1,List.flatten_replicate_singleton,List.map_replicate];rfl
 have l1:((List.replicate k (61:UInt8)).map uA).length≤ao:=by rw[List.length_map,List.length_replicate];exact Nat.le_trans hk (by decide)
 have l2:=Nat.le_trans (iO o) (Nat.le_trans (Nat.add_le_add_right (Nat.mul_le_mul_left 4 (Nat.le_of_lt ho)) 2) (show 4*40000+2≤ao by decide));unfold bQ at l2⊢;rw[hp] at l2⊢;exact aa [eC (ny (n:=n) (A:=SG) rfl ho),eT,eK,eT,eK,eG hg,eV hm,eG (cH (List.replicate k 61)),gT l1,eV (cE (List.replicate k 61)),gT l2] (by kernel_rfl)
end
set_option tactic.hygienic false
theorem xZ (s:By):∀l:List By,(aL s l).length≤l.flatten.length+s.length*l.length
 |[]=>Nat.zero_le _
 |[x]=>Nat.le_trans (Nat.le_of_eq (congrArg List.length (List.append_nil x).symm)) (Nat.le_add_right _ _)
 |x::y::r=>by
  have ih:=xZ s (y::r);rw[tA,List.flatten_cons,List.length_append,List.length_append,List.length_append,List.length_cons (a:=x),Nat.mul_succ,Nat.add_assoc,Nat.add_assoc];refine Nat.add_le_add_left ?_ _;rw[←Nat.add_assoc (List.length _),Nat.add_comm s.length];exact Nat.add_le_add_right ih _
theorem fh (l:List By):(l.map AV.bytes).map hV=l:=by
 rw[List.map_map];exact List.map_id _
theorem allB (l:List By):(l.map AV.bytes).all NF=true:=by
 rw[List.all_map];exact List.all_eq_true.mpr λ_ _=>rfl
theorem OT (s:By) (l:List By):AV.bytes (aL s ((l.map AV.bytes).map hV))= .bytes (aL s l):=by rw[fh]
theorem sG {α:Type} {w:Nat}:∀(n:Nat) (l:List α),(ck w n l).length=n:=by
 intro n
 induction n with
 |zero=>
  intro _;exact rfl
 |succ n ih=>
  intro l;exact congrArg (·+1) (ih (l.drop w))
section
variable {n k:Nat} {l o:By}
noncomputable abbrev PK:Expr:=ng (.fn 10) [1] [0,1]
theorem G5 (hk:qj 76 l.length k):mL (En n (.fn 10)) PK ((bg 76 0 k).map iA) (LX PK [none,none,some (.bytes l),some (.int 76)]) []=some (.ok ((ck 76 k l).map .bytes) []):=by
 have h:=bW (C:=En n (.fn 10)) (e:=PK) (S:=[]) (enc:=λv=>LX PK [none,v,some (.bytes l),some (.int 76)]) (h:=iA) (λa=> .bytes ((l.drop a).take 76)) (λ_ a=>some (iA a)) (bg 76 0 k) none λa m v=>aj [eY,eK,eV (congrArg AV.bytes (og l 76 (Nat.le_of_lt (I7 (a:=0) hk a m))))] (by kernel_rfl)
 rw[show((bg 76 0 k).map λa=>AV.bytes ((l.drop a).take 76))=((bg 76 0 k).map λa=>(l.drop a).take 76).map .bytes from List.map_map.symm,IX] at h;exact h
theorem yA (hl:l.length<200000):(aL az (ck 76 (lO l.length 76) l)).length≤3*l.length:=by
 have h:=xZ az (ck 76 (lO l.length 76) l);have s:=b8 l.length (w:=76) (by decide);rw[gP s.lo,sG] at h;exact Nat.le_trans h (Nat.le_trans (Nat.add_le_add_left (Nat.mul_le_mul_left 2 (s.le (by decide))) _) (Nat.le_of_eq (by rw[Nat.add_comm,←Nat.succ_mul])))
theorem uy (hl:l.length<200000):Rn (n+1) (.fn 10) [.bytes l,.int 76] (.bytes (aL az (ck 76 (lO l.length 76) l))):=by
 have s:=b8 l.length (w:=76) (by decide);have hc:=G5 (n:=n) s;rw[←iX] at hc;have hn:lO l.length 76≤ao:=Nat.le_trans (s.le (by decide)) (Nat.le_trans (Nat.le_of_lt hl) (by decide));have l1:(jw (0:Nat) (76:Nat) (lO l.length 76)).length≤ao:=by rw[iX,List.length_map,Fe];exact hn
 have l2:((ck 76 (lO l.length 76) l).map AV.bytes).length≤ao:=by rw[List.length_map,sG];exact hn
 have l3:(aL az (((ck 76 (lO l.length 76) l).map AV.bytes).map hV)).length≤ao:=by rw[fh];exact Nat.le_trans (yA hl) (Nat.le_trans (Nat.mul_le_mul_left 3 (Nat.le_of_lt hl)) (by decide))
 exact aa [eN,eG (xW (m:=l.length) (Nat.le_trans (Nat.le_of_lt hl) (by decide)) (w:=76) rfl),gT l1,eL hc,gT l2,eG (allB (ck 76 (lO l.length 76) l)),gT l3,eV (OT az (ck 76 (lO l.length 76) l))] (by kernel_rfl)
theorem HN (ho:o.length<40000):(xF o).length≤12*o.length+6:=by
 have h:=iO o;refine Nat.le_trans (yA (Nat.lt_of_le_of_lt h (Nat.lt_of_le_of_lt (Nat.add_le_add_right (Nat.mul_le_mul_left 4 (Nat.le_of_lt ho)) 2) (by decide)))) (Nat.le_trans (Nat.mul_le_mul_left 3 h) (Nat.le_of_eq ?_));rw[Nat.mul_add,←Nat.mul_assoc]
theorem oH (ho:o.length<40000):Rn (n+4) (.fn 11) [.bytes o] (.bytes (xF o)):=
 aa [eC (vE (n:=n) ho),eC (uy (n:=n+2) (Nat.lt_of_le_of_lt (iO o) (Nat.lt_of_le_of_lt (Nat.add_le_add_right (Nat.mul_le_mul_left 4 (Nat.le_of_lt ho)) 2) (by decide))))] (by kernel_rfl)
end
set_option tactic.hygienic false
section
variable {n T W k:Nat} {v:Option AV}
noncomputable abbrev Ms:Expr:=ng (.fn 7) [5] [0,0,1]
theorem Qv (T p:Nat):AV.int (Int.fdiv (T:Int) (2^(8*p)))= .int ↑(T/256^p):=congrArg AV.int ((shr T _).trans (by rw[Nat.pow_mul]))
theorem Gd (hW:W<2^60) (hk:k≤2):(C5 (En n (.fn 7)) Ms (iA k) (LX Ms [none,v,some (.int W)]) []).p=some (.ok (some (uA (W/256^k %256).toUInt8),LX Ms [none,some (iA k),some (.int W)]) []):=
 have h2:W/256^k<2^60:=Nat.lt_of_le_of_lt (Nat.div_le_self _ _) hW
 have e:AV.int ↑(W/256^k&&&255)=uA (W/256^k %256).toUInt8:=congrArg (λm:Nat=>AV.int m) ((Nat.and_two_pow_sub_one_eq_mod _ 8).trans (Nat.mod_mod _ 256).symm);aj [eY,eT,eK,K2 (T:=W) (Nat.le_trans (Nat.mul_le_mul_left 8 hk) (by decide)),eV (Qv W k),LQ (k:=255) h2 (by decide),eV e] (by kernel_rfl)
theorem GW (hW:W<2^60) (hk:k≤2):mL (En n (.fn 7)) Ms ((dn k).map iA) (LX Ms [none,none,some (.int W)]) []=some (.ok ((Jh W k).map uA) []):=by
 unfold Jh;rw[List.map_map];exact bW (enc:=λv=>LX Ms [none,v,some (.int W)]) (λp=>uA (W/256^p %256).toUInt8) (λ_ p=>some (iA p)) (dn k) none λp m _=>Gd hW (Nat.le_trans (Jk k p m) hk)
theorem sZ (l:List Nat):∃v,mF (En n (.fn 7)) 0 (aK (.fn 7) [1]) (l.map iA) (L (.fn 7) [some (.lst (l.map iA)),some (.int (0:Nat)),none]) []=some (.aY (L (.fn 7) [some (.lst (l.map iA)),some (.int (o7 l)),v]) []):=by
 have h:=v9 (C:=En n (.fn 7)) (k:=0) (st:=aK (.fn 7) [1]) (enc:=λs:Nat×Option AV=>(L (.fn 7) [some (.lst (l.map iA)),some (.int s.1),s.2],[])) (h:=iA) (λs c=>(64*s.1+c,some (iA c))) (λx s=>aj [eT] (by kernel_rfl)) l (0,none);have e:∀(o:List Nat) t v,(o.foldl (λ(s:Nat×Option AV) c=>(64*s.1+c,some (iA c))) (t,v)).1=o.foldl (λt k=>64*t+k) t:=λo=>by
  induction o with
  |nil=>exactλ_ _=>rfl
  |cons c r ih=>exactλt v=>ih _ _
 dsimp only at h;rw[e] at h;exact⟨_,h⟩
theorem pH {c:By} (ne:c≠[]) (h:c.length≤3):o7 (gq c)<2^60:=by
 rw[u7 _ h ne];exact Nat.lt_of_le_of_lt (Nat.mul_le_mul (Nat.le_of_lt (sj c h)) (Nat.pow_le_pow_right (n:=2) (by decide) (Nat.sub_le 6 (2*c.length)))) (by decide)
noncomputable def Ls {n:Nat} {c:By} {m:Option ar} {q:ar} (h:m=some q) {s T k:Nat} (hs:s≤64) (hT:T<2^60) (hk:k≤2) (hb:Jh (T/2^s) k=c) {j:Nat} (hj:j<2^60):List Ev:=
 have hW:T/2^s<2^60:=Nat.lt_of_le_of_lt (Nat.div_le_self _ _) hT
 have e1:AV.int (Int.fdiv (T:Int) (2^s))= .int ↑(T/2^s):=congrArg AV.int (shr T s);have l1:((Jh (T/2^s) k).map uA).length≤ao:=by rw[List.length_map];exact Nat.le_trans (Nat.le_of_eq ((List.length_map _).trans (C7 k))) (Nat.le_trans (Nat.succ_le_succ hk) (by decide))
 have e2:AV.bytes (((Jh (T/2^s) k).map uA).map Di)= .bytes c:=(cE _).trans (congrArg AV.bytes hb)
 [eS h,eK,eK,eK,eT,eK,eT,eK,eK,K2 (T:=T) (k:=s) hs,eV e1,eT,eT,eL (GW (n:=n) hW hk),gT l1,eG (cH (Jh (T/2^s) k)),gT l1,eV e2,eT,LQ (T:=T) (k:=j) hT hj]
theorem nq:∀c:By,c≠[]→c.length≤3→∃z:Nat,Rn (n+1) (.fn 7) [.lst ((gq c).map iA)] (.tup [.bytes c,.int z])
 |[],h,_=>absurd rfl h
 |[a],ne,h=>by
  obtain⟨v,e⟩:=sZ (n:=n) (gq [a]);have hT:=pH ne h;exact⟨o7 (gq [a])&&&15,aa (Ls (n:=n) e (s:=4) (k:=0) (by decide) hT (by decide) (Cx [a] ne h) (j:=15) (by decide)) (by kernel_rfl)⟩
 |[a,b],ne,h=>by
  obtain⟨v,e⟩:=sZ (n:=n) (gq [a,b]);have hT:=pH ne h;exact⟨o7 (gq [a,b])&&&3,aa (Ls (n:=n) e (s:=2) (k:=1) (by decide) hT (by decide) (Cx [a,b] ne h) (j:=3) (by decide)) (by kernel_rfl)⟩
 |[a,b,c],ne,h=>by
  obtain⟨v,e⟩:=sZ (n:=n) (gq [a,b,c]);have hT:=pH ne h;exact⟨o7 (gq [a,b,c])&&&0,aa (Ls (n:=n) e (s:=0) (k:=2) (by decide) hT (by decide) (Cx [a,b,c] ne h) (j:=0) (by decide)) (by kernel_rfl)⟩
 |_::_::_::_::_,_,h=>absurd h (Nat.not_le.mpr (Nat.lt_add_of_pos_left (Nat.succ_pos _)))
noncomputable def AQ:List AV:=SG.map uA
noncomputable def A4:List AV:=(List.range 64).map iA
theorem pY (n:Nat):run (n+1) (.fn 5) [.bytes SG] none=some (.ret (.dct AQ A4) false none):=by kernel_rfl
theorem Lp:∀k,k<256→(dU AQ A4 (.int (k:Nat))).map A9=(wo k.toUInt8).map λn:Nat=>(n:Int):=by decide+kernel
theorem vC {x:AV}:∀{ks vs:List AV} {v:AV},vs.all A6=true→dU ks vs x=some v→v= .int (A9 v)
 |[],_,_,_,h=>zA h
 |_::_,[],_,_,h=>zA h
 |k::ks,w::vs,v,a,h=>by
  have a:=Bool.and_eq_true_iff.mp a;rw[CA] at h;cases q:yG x k with
  |true=>
   rw[q] at h;obtain rfl:=Option.some.inj h;cases w with
   |int i=>rfl
   |_=>exact nomatch a.1
  |false=>rw[q] at h;exact vC a.2 h
theorem KJ (c:UInt8):dU AQ A4 (uA c)=(wo c).map iA:=by
 have h:=Lp c.toNat c.toNat_lt;rw[show c.toNat.toUInt8=c from UInt8.ofNat_toNat] at h;have hv:A4.all A6=true:=by decide+kernel
 change (dU AQ A4 (uA c)).map A9=_ at h;cases q:dU AQ A4 (uA c) with
 |none=>rw[q] at h;cases e:wo c with
  |none=>rfl
  |some k=>rw[e] at h;exact zA h
 |some v=>
  rw[q] at h;cases e:wo c with
  |none=>rw[e] at h;exact zB h
  |some k=>
   rw[e] at h;exact congrArg some ((vC hv q).trans (congrArg AV.int (Option.some.inj h)))
end
set_option tactic.hygienic false
theorem eU:∀l:List By,aL [] l=l.flatten
 |[]=>rfl
 |[x]=>(List.append_nil x).symm
 |x::y::r=>by
  have ih:=eU (y::r);rw[tA,List.append_nil,ih];rfl
section
variable {n:Nat} {d o:By}
structure NJ where
 acc:List AV
 v:Option AV
noncomputable def Jw (d:By) (s:NJ):Loc×List AV:=(L (.fn 12) [some (.bytes d),some (.dct AQ A4),some (.ref 0),s.v],[.lst s.acc])
theorem HM {X:List AV} (hX:X.length≤ao) (c:UInt8) (xs:By) (s:NJ) (h:s.acc++(rK (c::xs)).map iA=X):∃q,(tF (En n (.fn 12)) 0 (aK (.fn 12) [2]) (uA c) (Jw d s).1 (Jw d s).2).p=some q∧Nx (Jw d) (λs=>s.acc++(rK xs).map iA=X) (λq=>∃v,q= .aY (Jw d ⟨X,v⟩).1 (Jw d ⟨X,v⟩).2) q:=by
 refine cps λG kf=> ?_
 have e:rK (c::xs)=if c=61 then [] else(wo c).toList++rK xs:=rfl
 rw[e] at h;by_cases q:c=61
 ·rw[if_pos q] at h;have hx:s.acc=X:=(List.append_nil _).symm.trans h;subst q;exact kf ⟨_,aj (a:= .brk (Jw d ⟨s.acc,some (uA 61)⟩).1 (Jw d ⟨s.acc,some (uA 61)⟩).2) [eY] (by kernel_rfl),.brk ⟨some (uA 61),by rw[hx]⟩⟩
 ·rw[if_neg q] at h;have q':(c.toNat:Int)≠61:=λe=>q (UInt8.toNat_inj.mp (Int.ofNat.inj e))
  have hg:=KJ c;cases w:wo c with
  |none=>
   rw[w] at h hg;have hb:(dU AQ A4 (uA c)).isSome=false:=by rw[hg];rfl
   exact kf ⟨_,aj [qF q',eT,eB hb] (by kernel_rfl),.inl ⟨⟨s.acc,some (uA c)⟩,rfl,h⟩⟩
  |some k=>
   rw[w] at h hg;have hb:(dU AQ A4 (uA c)).isSome=true:=by rw[hg];rfl
   have hk:(cW (uA c) AQ&&(dU AQ A4 (uA c)).isSome)=true:=by rw[hb,Bool.and_true];exact(rfl:AQ.all A6=true)
   have hv:(dU AQ A4 (uA c)).getD .none=iA k:=by rw[hg];rfl
   have ha:s.acc.length<ao:=Nat.lt_of_lt_of_le (by rw[←h,List.length_append];exact Nat.lt_add_of_pos_right (Nat.succ_pos _)) hX
   exact kf ⟨_,aj [qF q',eT,eB hb,eG hk,eV hv,gT ha] (by kernel_rfl),.inl ⟨⟨s.acc++[iA k],some (uA c)⟩,rfl,(List.append_assoc _ _ _).trans h⟩⟩
noncomputable def Mn (d:By) (W:List AV) (v:Option AV) (s:NJ):Loc×List AV:=(L (.fn 12) [some (.bytes d),some (.dct AQ A4),some (.ref 0),v,some (.ref 1),s.v],[.lst W,.lst s.acc])
structure QJ (R:List Nat) (Y:List AV) (xs:List Nat) (s:NJ):Prop where
 ex:∃a k,∃cs:List By,xs=bg 4 a k∧qj 4 (R.length -a) k∧ck 4 k (R.drop a)=cs.map gq∧(∀c∈cs,c≠[]∧c.length≤3)∧s.acc++cs.map .bytes=Y
theorem H5 {R:List Nat} {Y:List AV} {v:Option AV} (hY:Y.length≤ao) (a:Nat) (xs:List Nat) (s:NJ) (h:QJ R Y (a::xs) s):
 ∃q,(tF (En (n+1) (.fn 12)) 0 (aK (.fn 12) [4]) (iA a) (Mn d (R.map iA) v s).1 (Mn d (R.map iA) v s).2).p=some q∧Nx (Mn d (R.map iA) v) (QJ R Y xs) (λq=>∃t,q= .aY (Mn d (R.map iA) v ⟨Y,t⟩).1 (Mn d (R.map iA) v ⟨Y,t⟩).2) q:=by
 refine cps λG kf=> ?_
 obtain⟨b,k,cs,h1,h2,h3,h4,h5⟩:=h.ex;cases k with
 |zero=>exact zG h1
 |succ k=>
  obtain⟨rfl,h1⟩:=List.cons.inj h1;cases cs with
  |nil=>exact zG h3
  |cons c cs=>
   obtain⟨h3,h6⟩:=List.cons.inj h3;obtain⟨ne,hl⟩:=h4 c List.mem_cons_self;have ha:=Nat.le_of_lt (Nat.lt_of_sub_pos h2.pos);have e1:AV.int ((R.map iA).length -(a:Int))= .int ↑(R.length -a):=by rw[List.length_map,Int.ofNat_sub ha]
   have l1:1<R.length -a:=by
    have:=congrArg List.length h3;rw[sM,List.length_take,List.length_drop] at this;exact Nat.lt_of_lt_of_le (Nat.succ_lt_succ (List.length_pos_iff.mpr ne)) (Nat.le_trans (Nat.le_of_eq this.symm) (Nat.min_le_right _ _))
   have e2:AV.lst (cut (R.map iA) a (a+4:Nat))= .lst ((gq c).map iA):=by
    rw[og _ 4 (by rw[List.length_map];exact ha),←List.map_drop,←List.map_take,h3]
   obtain⟨z,hz⟩:=nq (n:=n) c ne hl;have hs:s.acc.length<ao:=Nat.lt_of_lt_of_le (by rw[←h5,List.length_append];exact Nat.lt_add_of_pos_right (Nat.succ_pos _)) hY
   refine kf ⟨_,aj [eK,eV e1,gu l1,eK,eV e2,eC hz,eT,gT hs] (by kernel_rfl),.inl ⟨⟨s.acc++[.bytes c],some (iA a)⟩,rfl,⟨a+4,k,cs,h1,Nat.sub_sub _ _ _▸h2.succ,?_,λx m=>h4 x (List.mem_cons_of_mem _ m),by rw[←h5,List.append_assoc];rfl⟩⟩⟩;rw[←List.drop_drop];exact h6
theorem xu (ho:o.length<40000):Rn (n+2) (.fn 12) [.bytes (xF o)] (.bytes o):=by
 have s3:=b8 o.length (w:=3) (by decide);have hk:=s3.le (by decide);obtain⟨q1,q2⟩:=JF _ o s3;have l1:((sx o).map iA).length≤ao:=by rw[List.length_map];exact Nat.le_trans (xd o) (Nat.le_trans (Nat.mul_le_mul_left 4 (Nat.le_of_lt ho)) (by decide))
 have l2:((ck 3 (lO o.length 3) o).map AV.bytes).length≤ao:=by rw[List.length_map,sG];exact Nat.le_trans hk (Nat.le_trans (Nat.le_of_lt ho) (by decide))
 obtain⟨_,e,v,rfl⟩:=bV (C:=En (n+1) (.fn 12)) (k:=0) (st:=aK (.fn 12) [2]) (enc:=Jw (xF o)) uA (λxs s=>s.acc++(rK xs).map iA=(sx o).map iA) (HM l1) (λs h=>⟨s.v,by rw[←(List.append_nil _).symm.trans h]⟩) (xF o) ⟨[],none⟩ (by rw[GR];rfl);obtain⟨_,e2,t,rfl⟩:=bV (C:=En (n+1) (.fn 12)) (k:=0) (st:=aK (.fn 12) [4]) (enc:=Mn (xF o) ((sx o).map iA) v) iA (QJ (sx o) ((ck 3 (lO o.length 3) o).map .bytes)) (H5 (n:=n) l2) (λs h=>by
  obtain⟨a,k,cs,h1,_,h3,_,h5⟩:=h.ex;cases k with
  |zero=>
   have:cs=[]:=List.map_eq_nil_iff.mp h3.symm;subst this;exact⟨s.v,by rw[←(List.append_nil _).symm.trans h5]⟩
  |succ k=>exact zF h1) (bg 4 0 (lO (sx o).length 4)) ⟨[],none⟩ ⟨0,lO (sx o).length 4,ck 3 (lO o.length 3) o,rfl,b8 _ (by decide),by rw[(b8 (sx o).length (w:=4) (by decide)).uniq q1];exact q2,D7 (by decide) s3,rfl⟩
 rw[←iX] at e2;have hr:(small 0&&small ((((sx o).map iA).length:Nat):Int)&&small 4&&decide ((4:Int)≠0))=true:=xW l1 rfl;have e3:AV.bytes (aL [] (((ck 3 (lO o.length 3) o).map AV.bytes).map hV))= .bytes o:=by rw[fh,eU,gP s3.lo]
 have l3:(aL [] (((ck 3 (lO o.length 3) o).map AV.bytes).map hV)).length≤ao:=by rw[fh,eU,gP s3.lo];exact Nat.le_trans (Nat.le_of_lt ho) (by decide)
 rw[show(sx o).length=((sx o).map iA).length from(List.length_map _).symm] at e2;exact aa [eC (pY n),eT,eS e,eT,eG hr,eS e2,eT,eG (allB (ck 3 (lO o.length 3) o)),gT l3,eV e3] (by kernel_rfl)
end
set_option tactic.hygienic false
noncomputable def HX:By:=[48,49,50,51,52,53,54,55,56,57,65,66,67,68,69,70]
noncomputable def ix (k:Nat):UInt8:=HX.getD k 0
noncomputable def iq (c:UInt8):By:=[61,ix (c.toNat/16),ix (c.toNat %16)]
noncomputable def jB (c:UInt8):Bool:=c==32||(c==9||(decide (33≤c.toNat)&&(decide (c.toNat≤126)&&c !=61)))
noncomputable def q6 (c:UInt8):Bool:=c==32||c==9
noncomputable def rX (last:Bool) (c:UInt8):By:=if(jB c&& !(q6 c&&last))=true then [c] else iq c
noncomputable def bu:By→List By
 |[]=>[]
 |c::r=>rX r.isEmpty c::bu r
noncomputable def room (r:List By):Nat:=if r.isEmpty=true then 76 else 75
noncomputable def soft:List By→By→List By
 |[],line=>[line]
 |p::r,line=>if room r<line.length+p.length then(line++[61])::soft r p else soft r (line++p)
noncomputable def jl (l:By):By:=if l.getLast?=some 61 then l++az else l
noncomputable def dk (l:By):List By:=soft (bu l) []
noncomputable def bz (ls:List By):List By:=ls.flatMap λl=>dk l++[az]
noncomputable def bl (o:By):List By:=cL az o.length [] o
noncomputable def qp (o:By):By:=(bz (bl o)).dropLast.flatMap jl
noncomputable def yQ (c:UInt8):Option Nat:=if 48≤c.toNat∧c.toNat≤57 then some (c.toNat -48) else if 65≤c.toNat∧c.toNat≤70 then some (c.toNat -55) else if 97≤c.toNat∧c.toNat≤102 then some (c.toNat -87) else none
noncomputable def wK:By→Option Nat
 |[]=>none
 |h::r=>match r with
  |[]=>none
  |l::_=>(yQ h).bind λa=>(yQ l).map λb=>16*a+b
noncomputable def Fv (c:UInt8) (r:By):Option Nat:=if c=61 then wK r else none
noncomputable def unq:Nat→By→By
 |_,[]=>[]
 |k,c::r=>match k with
  |k+1=>unq k r
  |0=>match Fv c r with
   |some v=>v.toUInt8::unq 2 r
   |none=>c::unq 0 r
theorem wb:∀k,k<16→yQ (ix k)=some k:=by decide+kernel
theorem nJ:∀k,k<16→ix k≠61∧ix k≠95∧ix k≠10∧ix k≠13∧ix k≠32∧ix k≠9∧ix k≠58:=by decide+kernel
theorem Jd (c:UInt8):c.toNat/16<16:=Nat.div_lt_of_lt_mul c.toNat_lt
theorem yd (c:UInt8):c.toNat %16<16:=Nat.mod_lt _ (by decide)
theorem kb {c:UInt8} {r:By} {v:Nat} (h:Fv c r=some v):unq 0 (c::r)=v.toUInt8::unq 2 r:=by
 show(match Fv c r with|some v=>_|none=>_)=_;rw[h]
theorem jU {c:UInt8} {r:By} (h:Fv c r=none):unq 0 (c::r)=c::unq 0 r:=by
 show(match Fv c r with|some v=>_|none=>_)=_;rw[h]
theorem zu {c:UInt8} (h:c≠61) (r:By):unq 0 (c::r)=c::unq 0 r:=jU (if_neg h)
theorem DF (c:UInt8) (r:By):unq 0 (iq c++r)=c::unq 0 r:=by
 have e:Fv 61 (ix (c.toNat/16)::ix (c.toNat %16)::r)=some c.toNat:=by
  refine(if_pos rfl).trans ?_;show(yQ _).bind (λa=>(yQ _).map λb=>16*a+b)=_;rw[wb _ (Jd c),wb _ (yd c)];exact congrArg some (Nat.div_add_mod _ 16)
 refine(kb e).trans ?_;rw[show c.toNat.toUInt8=c from UInt8.ofNat_toNat];rfl
theorem gj {c:UInt8} (h:jB c=true):c≠61∧c≠10∧c≠13:=by
 refine⟨?_,?_,?_⟩<;>(rintro rfl;exact absurd h (by decide))
theorem mw (b:Bool) (c:UInt8) {P:By→Prop} (h1:jB c=true→(q6 c&&b)=false→P [c]) (h2:P (iq c)):P (rX b c):=by
 unfold rX;split
 ·rename_i h
  have h:=Bool.and_eq_true_iff.mp h;exact h1 h.1 ((Bool.not_eq_true' _).mp h.2)
 ·exact h2
theorem E7 (b:Bool) (c:UInt8) (r:By):unq 0 (rX b c++r)=c::unq 0 r:=mw b c (P:=λp=>unq 0 (p++r)=c::unq 0 r) (λh _=>zu (gj h).1 r) (DF c r)
theorem ro {P:UInt8→Prop} (h:P 61) (k:∀j,j<16→P (ix j)) (c:UInt8):∀x∈iq c,P x:=λx m=>by
 rcases List.mem_cons.mp m with rfl|m
 ·exact h
 ·rcases List.mem_cons.mp m with rfl|m
  ·exact k _ (Jd c)
  ·exact List.mem_singleton.mp m▸k _ (yd c)
structure Ko (l:By):Prop where
 lf:10∉l
 cr:13∉l
theorem Ko.app {a b:By} (h:Ko a) (k:Ko b):Ko (a++b):=
 ⟨λm=>(List.mem_append.mp m).elim h.1 k.1,λm=>(List.mem_append.mp m).elim h.2 k.2⟩
theorem ye (b:Bool) (c:UInt8):Ko (rX b c):=mw b c (λh _=>⟨λm=>(gj h).2.1 (List.mem_singleton.mp m).symm,λm=>(gj h).2.2 (List.mem_singleton.mp m).symm⟩)
 ⟨λm=>ro (P:=(·≠10)) (by decide) (λj h=>(nJ j h).2.2.1) c _ m rfl,λm=>ro (P:=(·≠13)) (by decide) (λj h=>(nJ j h).2.2.2.1) c _ m rfl⟩
noncomputable def kY (l:By):Prop:=l=[]∨∃u c,l=u++[c]∧q6 c=false∧c≠61
theorem CV {a b:By} (hb:b≠[]) (h:kY b):kY (a++b):= .inr (by
 obtain⟨u,c,rfl,k⟩:=h.resolve_left hb;exact⟨a++u,c,(List.append_assoc _ _ _).symm,k⟩)
theorem DT (c:UInt8):kY (rX true c):=mw true c (λh w=> .inr ⟨[],c,rfl,(Bool.and_true _).symm.trans w,(gj h).1⟩) (.inr ⟨[61,ix (c.toNat/16)],ix (c.toNat %16),rfl,by
 have b:=nJ _ (yd c);exact Bool.or_eq_false_iff.mpr ⟨beq_eq_false_iff_ne.mpr b.2.2.2.2.1,beq_eq_false_iff_ne.mpr b.2.2.2.2.2.1⟩,(nJ _ (yd c)).1⟩)
theorem Ke (b:Bool) (c:UInt8):rX b c≠[]:=mw b c (P:=(·≠[])) (λ_ _=>List.cons_ne_nil _ _) (List.cons_ne_nil _ _)
theorem yv {l:By} (h:kY l):l.getLast?≠some 61:=by
 rcases h with rfl|⟨u,c,rfl,_,k⟩
 ·exactλe=>zA e
 ·rw[List.getLast?_concat];exactλe=>k (Option.some.inj e)
noncomputable def lend (u:By):By×By:=if u.getLast?=some 13 then(u.dropLast,az) else(u,[10])
noncomputable def lM:By→By→List (By×By)
 |u,[]=>[(u,[])]
 |u,c::r=>if c=10 then lend u::lM [] r else lM (u++[c]) r
noncomputable def cu (l:By):By:=dG [32,9] l
noncomputable def c5 (p:By×By):By:=if(cu p.1).getLast?=some 61 then unq 0 (cu p.1).dropLast else unq 0 (cu p.1)++p.2
noncomputable def qd (d:By):By:=(lM [] d).flatMap c5
theorem yh:∀{a b:By} (u:By),10∉a→lM u (a++10::b)=lend (u++a)::lM [] b:=by
 intro a
 induction a with
 |nil=>
  intro b u _;exact by rw[List.append_nil];exact if_pos rfl
 |cons c a ih=>
  intro b u h;refine(if_neg λe:c=10=>h (e▸List.mem_cons_self)).trans ?_;rw[List.append_cons u c a];exact ih _ λm=>h (List.mem_cons_of_mem _ m)
theorem uW:∀{a:By} (u:By),10∉a→lM u a=[(u++a,[])]:=by
 intro a
 induction a with
 |nil=>
  intro u _;exact by rw[List.append_nil];rfl
 |cons c a ih=>
  intro u h;refine(if_neg λe:c=10=>h (e▸List.mem_cons_self)).trans ?_;rw[List.append_cons u c a];exact ih _ λm=>h (List.mem_cons_of_mem _ m)
theorem sD (a:By):lend (a++[13])=(a,az):=by
 unfold lend;rw[List.getLast?_concat,if_pos rfl,List.dropLast_concat]
theorem yo {a:By} {c k:UInt8} (h:k∉a) (n:k≠c):k∉a++[c]:=λm=>(List.mem_append.mp m).elim h λm=>n (List.mem_singleton.mp m)
theorem yi {a:By} (h:10∉a) (b:By):qd (a++(az++b))=c5 (a,az)++qd b:=by
 unfold qd;rw[show a++(az++b)=(a++[13])++10::b from(List.append_assoc a [13] (10::b)).symm,yh [] (yo h (by decide)),List.nil_append,sD,List.flatMap_cons]
theorem Gu {a:By} (h:10∉a):qd a=c5 (a,[]):=by
 unfold qd;rw[uW [] h,List.flatMap_singleton];rfl
theorem mP (u:By) {c:UInt8} (h:q6 c=false):cu (u++[c])=u++[c]:=by
 have w:=Bool.or_eq_false_iff.mp h;have:([32,9]:By).contains c=false:=by rw[List.contains_cons,List.contains_cons,w.1,w.2];rfl
 unfold cu dG;rw[List.reverse_concat];show(if([32,9]:By).contains c=true then _ else c::u.reverse).reverse=_;rw[this,if_neg (by decide),List.reverse_cons,List.reverse_reverse]
theorem xO {x e:By}:c5 (x++[61],e)=unq 0 x:=by
 unfold c5;rw[mP x (by decide),List.getLast?_concat,if_pos rfl,List.dropLast_concat]
theorem pT {x e:By} (h:kY x):c5 (x,e)=unq 0 x++e:=by
 have w:cu x=x:=by
  rcases h with rfl|⟨u,c,rfl,w,_⟩
  ·rfl
  ·exact mP u w
 unfold c5;rw[w,if_neg (yv h)]
set_option tactic.hygienic false
theorem x8:∀(ps:List By) (line:By),soft ps line≠[]:=by
 intro ps
 induction ps with
 |nil=>
  intro _;exact List.cons_ne_nil _ _
 |cons p r ih=>
  intro line;show(if room r<line.length+p.length then _ else soft r (line++p))≠[];split
  ·exact List.cons_ne_nil _ _
  ·exact ih _
theorem oY {P:By→By→List By→Prop} (h0:∀line,kY line→P [] line [line]) (h1:∀b c l line s,s≠[]→P l (rX b c) s→P (c::l) line ((line++[61])::s)) (h2:∀b c l line s,P l (line++rX b c) s→P (c::l) line s):∀l line,(l=[]→kY line)→P l line (soft (bu l) line):=by
 intro l
 induction l with
 |nil=>
  intro line h;exact h0 line (h rfl)
 |cons c l ih=>
  intro line _;have ge:l=[]→kY (rX l.isEmpty c):=λe=>e▸DT c
  show P _ _ (if room (bu l)<line.length+(rX l.isEmpty c).length then(line++[61])::soft (bu l) (rX l.isEmpty c) else soft (bu l) (line++rX l.isEmpty c));split
  ·exact h1 _ c l line _ (x8 _ _) (ih _ ge)
  ·exact h2 _ c l line _ (ih _ λe=>CV (Ke _ _) (ge e))
noncomputable def tl (t:Option By):By:=(t.map λb=>az++b).getD []
noncomputable def tq (t:Option By):By:=(t.map λb=>az++qd b).getD []
theorem FY {x:By} (h:kY x) (n:10∉x) (t:Option By):qd (x++tl t)=unq 0 x++tq t:=by
 cases t with
 |none=>exact(congrArg qd (List.append_nil x)).trans ((Gu n).trans (pT h))
 |some b=>exact(yi n b).trans ((congrArg (·++qd b) (pT h)).trans (List.append_assoc _ _ _))
theorem yI {x xs:By} (h:∀r,unq 0 (x++r)=xs++unq 0 r):unq 0 x=xs:=by
 have:=h [];rw[List.append_nil] at this;exact this.trans (List.append_nil xs)
theorem dR {s x:By} {r:List By} (h:r≠[]):aL s (x::r)=x++(s++aL s r):=by
 cases r with
 |nil=>exact absurd rfl h
 |cons y r=>exact(tA s x y r).trans (List.append_assoc _ _ _)
theorem GX (t:Option By) (l:By) (line:By) (h:l=[]→kY line):∀cs,(∀r,unq 0 (line++r)=cs++unq 0 r)→Ko line→qd (aL az (soft (bu l) line)++tl t)=cs++(l++tq t):=by
 refine oY (P:=λl line s=>∀cs,(∀r,unq 0 (line++r)=cs++unq 0 r)→Ko line→qd (aL az s++tl t)=cs++(l++tq t)) ?_ ?_ ?_ l line h
 ·exactλline g cs e n=>(FY g n.lf t).trans (congrArg (·++tq t) (yI e))
 ·intro b c l line s ne ih cs e n;rw[dR ne,List.append_assoc (line++[61]),List.append_assoc az,yi (yo n.lf (by decide)),xO,yI e,ih [c] (E7 b c) (ye b c)];rfl
 ·intro b c l line s ih cs e n;rw[ih (cs++[c]) (λr=>by rw[List.append_assoc,e,E7,List.append_assoc];rfl) (n.app (ye b c)),List.append_assoc];rfl
theorem Ld {x:By} (h:kY x):jl x=x:=if_neg (yv h)
theorem Ii (x:By):jl (x++[61])=x++[61]++az:=if_pos List.getLast?_concat
theorem yB (l line:By) (h:l=[]→kY line):(soft (bu l) line).flatMap jl=aL az (soft (bu l) line):=by
 refine oY (P:=λl line s=>s.flatMap jl=aL az s) ?_ ?_ ?_ l line h
 ·exactλline g=>by rw[List.flatMap_singleton,Ld g];rfl
 ·exactλb c l line s ne ih=>by rw[List.flatMap_cons,Ii,ih,dR ne,List.append_assoc]
 ·exactλb c l line s ih=>ih
noncomputable def jj (l:By):By:=aL az (dk l)
theorem j9:kY []:= .inl rfl
theorem vx (l:By) (t:Option By):qd (jj l++tl t)=l++tq t:=GX t l [] (λ_=>j9) [] (λ_=>rfl) ⟨(λm=>zE m),(λm=>zE m)⟩
theorem rm:∀ls:List By,ls≠[]→(bz ls).dropLast.flatMap jl=aL az (ls.map jj)
 |[],h=>absurd rfl h
 |[l],_=>by
  show((dk l++[az])++[]).dropLast.flatMap jl=jj l;rw[List.append_nil,List.dropLast_concat];exact yB l [] λ_=>j9
 |l::m::r,_=>by
  have ih:=rm (m::r) (List.cons_ne_nil _ _);have ne:bz (m::r)≠[]:=λz=>List.append_ne_nil_of_right_ne_nil (dk m) (List.cons_ne_nil az []) (List.append_eq_nil_iff.mp z).1
  show((dk l++[az])++bz (m::r)).dropLast.flatMap jl=_;rw[List.dropLast_append_of_ne_nil ne,List.flatMap_append,List.flatMap_append,ih,show(l::m::r).map jj=jj l::(m::r).map jj from rfl,dR (r:=(m::r).map jj) (List.cons_ne_nil _ _),List.append_assoc];exact congrArg (·++_) (yB l [] λ_=>j9)
theorem y1:∀ls:List By,ls≠[]→qd (aL az (ls.map jj))=aL az ls
 |[],h=>absurd rfl h
 |[l],_=>(congrArg qd (List.append_nil _).symm).trans ((vx l none).trans (List.append_nil _))
 |l::m::r,_=>by
  rw[List.map_cons,dR (r:=(m::r).map jj) (List.cons_ne_nil _ _),dR (r:=m::r) (List.cons_ne_nil _ _),←y1 (m::r) (List.cons_ne_nil _ _)];exact vx l (some _)
theorem vZ (p:By) (n:Nat) (acc:By) (c:UInt8) (r:By):cL p (n+1) acc (c::r)=if((c::r).take p.length==p)=true then acc.reverse::cL p n [] ((c::r).drop p.length) else cL p n (c::acc) r:=rfl
theorem mB (p:By):∀(n:Nat) (acc b:By),cL p n acc b≠[]
 |0,_,_=>List.cons_ne_nil _ _
 |n+1,acc,[]=>List.cons_ne_nil _ _
 |n+1,acc,c::r=>by
  rw[vZ];split
  ·exact List.cons_ne_nil _ _
  ·exact mB p n _ _
theorem join_split (p:By):∀(n:Nat) (acc b:By),aL p (cL p n acc b)=acc.reverse++b
 |0,_,_=>rfl
 |n+1,acc,[]=>(List.append_nil _).symm
 |n+1,acc,c::r=>by
  rw[vZ];split
  ·rename_i h
   rw[dR (mB _ _ _ _),join_split p n];refine congrArg (acc.reverse++·) ?_;conv=>lhs;arg 1;rw[←beq_iff_eq.mp h]
   exact List.take_append_drop p.length (c::r)
  ·rw[join_split p n (c::acc) r,List.reverse_cons,List.append_assoc];rfl
theorem ir (o:By):bl o≠[]:=mB _ _ _ _
theorem yV (o:By):qp o=aL az ((bl o).map jj):=rm _ (ir o)
theorem H6 (o:By):qd (qp o)=o:=by
 rw[yV,y1 _ (ir o),bl,join_split];rfl
set_option tactic.hygienic false
theorem pW {β:Type} {f g:Nat→β} (h:(List.range 256).map f=(List.range 256).map g) (c:UInt8):f c.toNat=g c.toNat:=List.map_inj_left.mp h _ (List.mem_range.mpr c.toNat_lt)
theorem vF (n:Nat) (c:UInt8):Rn (n+1) (.fn 121) [uA c] (.bool (jB c)):=by
 have h:=pW (f:=λk=>run (n+1) (.fn 121) [.int (k:Nat)] none) (g:=λk=>some (.ret (.bool (jB k.toUInt8)) false none)) (by kernel_rfl) c;rw[show c.toNat.toUInt8=c from UInt8.ofNat_toNat] at h;exact h
theorem pD (n:Nat) (c:UInt8):Rn (n+1) (.fn 117) [uA c] (.bytes (iq c)):=by
 have h:=pW (f:=λk=>run (n+1) (.fn 117) [.int (k:Nat)] none) (g:=λk=>some (.ret (.bytes (iq k.toUInt8)) false none)) (by kernel_rfl) c;rw[show c.toNat.toUInt8=c from UInt8.ofNat_toNat] at h;exact h
noncomputable def oI (o:Option Nat):AV:=match o with
 |some v=> .int (v:Nat)
 |none=> .int (-1)
theorem kg (n:Nat) (c:UInt8):Rn (n+1) (.fn 118) [uA c] (oI (yQ c)):=by
 have h:=pW (f:=λk=>run (n+1) (.fn 118) [.int (k:Nat)] none) (g:=λk=>some (.ret (oI (yQ k.toUInt8)) false none)) (by kernel_rfl) c;rw[show c.toNat.toUInt8=c from UInt8.ofNat_toNat] at h;exact h
structure Ix {α:Type} (l r:List α) (xs:List Nat):Prop where
 ex:∃u,l=u++r∧xs=bg 1 u.length r.length
theorem Ix.nil {α:Type} {l r:List α} (h:Ix l r []):r=[]:=by
 obtain⟨u,_,h⟩:=h.ex;cases r with
 |nil=>rfl
 |cons c r=>exact zF h
theorem Ix.step {α:Type} {l r:List α} {a:Nat} {xs:List Nat} (h:Ix l r (a::xs)) {G:Prop} (k:∀u c r',r=c::r'→l=u++c::r'→a=u.length→Ix l r' xs→G):G:=by
 obtain⟨u,e,h⟩:=h.ex;cases r with
 |nil=>exact zG h
 |cons c r=>
  obtain⟨h1,h2⟩:=List.cons.inj h;exact k u c r rfl e h1 ⟨u++[c],by rw[e,List.append_assoc];rfl,by rw[h2,List.length_append];rfl⟩
theorem Ix.all {α:Type} (l:List α):Ix l l (bg 1 0 l.length):=⟨[],rfl,rfl⟩
theorem wH (k:Nat):jw 0 1 (kR 0 k 1)=(bg 1 0 k).map iA:=by
 have h:=(b8 k (w:=1) (by decide)).uniq (k:=k) ⟨Nat.le_of_eq (Nat.one_mul k).symm,Nat.lt_of_le_of_lt (Nat.le_of_eq (Nat.one_mul k)) (Nat.lt_succ_self k)⟩;have e:=iX 1 (lO k 1) 0;rw[h] at e;exact(congrArg (jw 0 1) h).trans e
section
variable {n:Nat} {o:By}
structure PV where
 acc:List AV
 a:Option AV
 w:Option AV
noncomputable def Of (o:By) (s:PV):Loc×List AV:=(L (.fn 123) [some (.bytes o),some (.ref 0),s.a,s.w],[.lst s.acc])
noncomputable abbrev T4 (n:Nat) (o:By) (a:Nat) (s:PV):Option ar:=(tF (En n (.fn 123)) 0 (aK (.fn 123) [1]) (iA a) (Of o s).1 (Of o s).2).p
noncomputable def t6 {o:By} {a:Nat} {c:UInt8} (hI:a<o.length) (hg:o.getD a 0=c):List Ev:=[gI hI,eV (congrArg uA hg)]
theorem GK {u r:By} {c:UInt8} {s:PV} (e:o=u++c::r) (ha:s.acc.length<ao):∃w,T4 (n+1) o u.length s=some (.aY (Of o ⟨s.acc++[.bytes (rX r.isEmpty c)],some (iA u.length),w⟩).1 [.lst (s.acc++[.bytes (rX r.isEmpty c)])]):=by
 have hI:=dh e;have hg:=bS (x:=0) e;have hs:AV.bytes (cut o u.length (u.length+1:Nat))= .bytes [c]:=congrArg AV.bytes (pz e 1);have hl:AV.int ((o.length:Int) -1)= .int ↑(u.length+r.length):=by rw[e,List.length_append];exact congrArg AV.int (jM _)
 have hp:=vF n c;have hq:=pD n c;have key:∀d x,c=d→q6 d=true→jB d=true→(r=[]→x=iq d)→(r≠[]→x=[d])→x=rX r.isEmpty c:=by
  rintro d x rfl h1 h2 h3 h4
  unfold rX;rw[h1,h2];cases r with
  |nil=>exact h3 rfl
  |cons=>exact h4 (List.cons_ne_nil _ _)
 have ne:r≠[]→(u.length:Int)≠↑(u.length+r.length):=λh z=>h (List.eq_nil_of_length_eq_zero (Nat.left_eq_add.mp (Int.ofNat.inj z)))
 by_cases c32:c=32
 ·refine⟨some (.bool ((c.toNat:Int)==32)),?_⟩;by_cases hr:r=[]
  ·refine key 32 (iq c) c32 rfl rfl (λ_=>congrArg iq c32) (λh=>absurd hr h)▸?_;subst hr c32;exact aj (t6 hI hg++[eY]++t6 hI hg++[eC hp,eY,eY,eK,eV hl,qT (rfl:(u.length:Int)=u.length),eN,eN]++t6 hI hg++[eC hq,gT ha]) (by kernel_rfl)
  ·refine key 32 [c] c32 rfl rfl (λh=>absurd h hr) (λ_=>congrArg (λc=>[c]) c32)▸?_;subst c32;exact aj (t6 hI hg++[eY]++t6 hI hg++[eC hp,eY,eY,eK,eV hl,qF (ne hr),eY,eY,eK,eV hs,gT ha]) (by kernel_rfl)
 ·refine⟨some (.bool ((c.toNat:Int)==9)),?_⟩;have q32:(c.toNat:Int)≠32:=λe=>c32 (UInt8.toNat_inj.mp (Int.ofNat.inj e))
  by_cases c9:c=9
  ·by_cases hr:r=[]
   ·refine key 9 (iq c) c9 rfl rfl (λ_=>congrArg iq c9) (λh=>absurd hr h)▸?_;subst hr c9;exact aj (t6 hI hg++[eN]++t6 hI hg++t6 hI hg++[eC hp,eY,eY,eK,eV hl,qT (rfl:(u.length:Int)=u.length),eN,eN]++t6 hI hg++[eC hq,gT ha]) (by kernel_rfl)
   ·refine key 9 [c] c9 rfl rfl (λh=>absurd h hr) (λ_=>congrArg (λc=>[c]) c9)▸?_;subst c9;exact aj (t6 hI hg++[eN]++t6 hI hg++t6 hI hg++[eC hp,eY,eY,eK,eV hl,qF (ne hr),eY,eY,eK,eV hs,gT ha]) (by kernel_rfl)
  ·have q9:(c.toNat:Int)≠9:=λe=>c9 (UInt8.toNat_inj.mp (Int.ofNat.inj e))
   have hw:q6 c=false:=Bool.or_eq_false_iff.mpr ⟨beq_eq_false_iff_ne.mpr c32,beq_eq_false_iff_ne.mpr c9⟩;unfold rX;refine hw.symm▸?_;cases z:jB c with
   |true=>exact aj (t6 hI hg++[qF q32]++t6 hI hg++t6 hI hg++[eC hp,eB z,qF q9,eY,eY,eK,eV hs,gT ha]) (by kernel_rfl)
   |false=>exact aj (t6 hI hg++[qF q32]++t6 hI hg++t6 hI hg++[eC hp,eB z,eN]++t6 hI hg++[eC hq,gT ha]) (by kernel_rfl)
theorem o8 (ho:o.length<40000):run (n+2) (.fn 123) [.bytes o] none=some (.ret (.lst ((bu o).map .bytes)) true none):=by
 have pl:∀r:By,(bu r).length=r.length:=λr=>by
  induction r with
  |nil=>rfl
  |cons c r ih=>exact congrArg (·+1) ih
 have hl:((bu o).map AV.bytes).length≤ao:=by rw[List.length_map,pl];exact Nat.le_trans (Nat.le_of_lt ho) (by decide)
 obtain⟨_,e,t,rfl⟩:=bV (C:=En (n+1) (.fn 123)) (k:=0) (st:=aK (.fn 123) [1]) (enc:=Of o) (Q:=λq=>∃t:PV,q= .aY (Of o t).1 [.lst ((bu o).map .bytes)]) iA (λxs s=>∃r,Ix o r xs∧s.acc++(bu r).map .bytes=(bu o).map .bytes) (λa xs s h=>by
  obtain⟨r,h1,h2⟩:=h;refine h1.step λu c r' hr e ea h3=> ?_
  subst hr ea;have ha:s.acc.length<ao:=Nat.lt_of_lt_of_le (by rw[←h2,List.length_append];exact Nat.lt_add_of_pos_right (Nat.succ_pos _)) hl
  obtain⟨w,hw⟩:=GK (n:=n) e ha;exact⟨_,hw,.inl ⟨⟨_,_,w⟩,rfl,r',h3,(List.append_assoc _ _ _).trans h2⟩⟩) (λs h=>by
  obtain⟨r,h1,h2⟩:=h;rw[h1.nil] at h2;exact⟨s,by rw[←(List.append_nil _).symm.trans h2];rfl⟩) (bg 1 0 o.length) ⟨[],none,none⟩ ⟨o,Ix.all o,rfl⟩
 rw[←wH] at e;exact aa [eT,gS (Nat.le_trans (Nat.le_of_lt ho) (by decide)),eS e] (by kernel_rfl)
end
set_option tactic.hygienic false
theorem wC (l:By):(jl l).length≤l.length+2:=by
 unfold jl;split
 ·exact Nat.le_of_eq List.length_append
 ·exact Nat.le_add_right _ _
theorem v7:∀(ps:List By) (line:By),(soft ps line).length≤ps.length+1:=by
 intro ps
 induction ps with
 |nil=>
  intro _;exact Nat.le_refl _
 |cons p r ih=>
  intro line;show(if room r<line.length+p.length then(line++[61])::soft r p else soft r (line++p)).length≤_;split
  ·exact Nat.succ_le_succ (ih p)
  ·exact Nat.le_succ_of_le (ih _)
theorem Lf:∀(ps:List By) (line:By),(∀p∈ps,p.length≤3)→((soft ps line).flatMap jl).length≤line.length+6*ps.length+2:=by
 intro ps
 induction ps with
 |nil=>
  intro line _;show(jl line++[]).length≤_;rw[List.append_nil];exact wC line
 |cons p r ih=>
  intro line h;have hp:=h p List.mem_cons_self;have hr:=λl=>ih l λx m=>h x (List.mem_cons_of_mem _ m)
  show((if room r<line.length+p.length then(line++[61])::soft r p else soft r (line++p)).flatMap jl).length≤_;rw[List.length_cons,Nat.mul_succ];split
  ·rw[List.flatMap_cons,List.length_append];have h1:=wC (line++[61]);rw[List.length_append] at h1;refine Nat.le_trans (Nat.add_le_add h1 (Nat.le_trans (hr p) (Nat.add_le_add_right (Nat.add_le_add_right hp _) 2))) (Nat.le_of_eq ?_);show line.length+1+2+(3+6*r.length+2)=line.length+(6*r.length+6)+2;generalize 6*r.length=x;omega
  ·refine Nat.le_trans (hr _) ?_;rw[List.length_append];exact Nat.add_le_add_right (Nat.le_trans (Nat.le_of_eq (Nat.add_assoc _ _ _)) (Nat.add_le_add_left (Nat.le_trans (Nat.le_of_eq (Nat.add_comm _ _)) (Nat.add_le_add_left (Nat.le_trans hp (by decide)) _)) _)) 2
theorem KO (b:Bool) (c:UInt8):(rX b c).length≤3:=mw b c (P:=λp=>p.length≤3) (λ_ _=>(by decide:1≤3)) (Nat.le_refl _)
theorem Bp:∀r:By,(bu r).length=r.length:=by
 intro r
 induction r with
 |nil=>
  exact rfl
 |cons _ r ih=>
  exact congrArg (·+1) (ih)
theorem Jt:∀l:By,∀p∈bu l,p.length≤3:=by
 intro l
 induction l with
 |nil=>
  intro _ m;exact zE m
 |cons c r ih=>
  intro p m;exact(List.mem_cons.mp m).elim (λe=>e▸KO _ c) (ih p)
theorem B4:∀ls:List By,((bz ls).flatMap jl).length≤6*ls.flatten.length+6*ls.length∧(bz ls).length≤ls.flatten.length+2*ls.length:=by
 intro ls
 induction ls with
 |nil=>
  exact⟨Nat.le_refl _,Nat.le_refl _⟩
 |cons l ls ih=>
  obtain⟨h1,h2⟩:=ih;have s1:=Lf (bu l) [] (Jt l);have s2:=v7 (bu l) [];have s3:=wC az;rw[Bp] at s1 s2;have e:bz (l::ls)=dk l++[az]++bz ls:=List.flatMap_cons;have s4:(([az]:List By).flatMap jl).length≤4:=by rw[List.flatMap_singleton];exact s3
  rw[e,List.flatMap_append,List.flatMap_append,List.flatten_cons,List.length_append,List.length_append,List.length_append,List.length_append,List.length_append,List.length_cons (a:=l)];change (dk l).length≤_ at s2;change ((dk l).flatMap jl).length≤0+_+2 at s1;have s5:([az]:List By).length=1:=rfl;rw[s5];generalize ((dk l).flatMap jl).length=a at*;generalize (dk l).length=b at*;constructor<;>omega
theorem uI (s:By):∀l:List By,l≠[]→(aL s l).length+s.length=l.flatten.length+s.length*l.length
 |[],h=>absurd rfl h
 |[x],_=>by rw[List.flatten_singleton,List.length_singleton,Nat.mul_one];rfl
 |x::y::r,_=>by
  have ih:=uI s (y::r) (List.cons_ne_nil _ _);rw[dR (List.cons_ne_nil _ _),List.flatten_cons,List.length_append,List.length_append,List.length_append,Nat.add_assoc,Nat.add_assoc,ih,List.length_cons (a:=x),Nat.mul_succ];generalize s.length*(y::r).length=m;generalize (y::r).flatten.length=k;omega
theorem sO (o:By):(bl o).flatten.length+2*(bl o).length=o.length+2:=by
 refine(uI az _ (ir o)).symm.trans ?_;rw[bl,join_split];rfl
theorem LL (o:By):((bz (bl o)).flatMap jl).length≤6*o.length+12∧(bz (bl o)).length≤o.length+2:=by
 have h:=sO o;obtain⟨h1,h2⟩:=B4 (bl o);rw[h] at h2;refine⟨Nat.le_trans h1 ?_,h2⟩;rw[←Nat.mul_add];exact Nat.mul_le_mul_left 6 (Nat.le_trans (Nat.add_le_add_left (Nat.le_mul_of_pos_left _ (by decide)) _) (Nat.le_of_eq h))
theorem pL (l:List By):(l.dropLast.flatMap jl).length≤(l.flatMap jl).length:=by
 rcases List.eq_nil_or_concat l with rfl|⟨b,c,rfl⟩
 ·exact Nat.le_refl _
 ·rw[List.concat_eq_append,List.dropLast_concat,List.flatMap_append,List.length_append];exact Nat.le_add_right _ _
theorem Li (o:By):(qp o).length≤6*o.length+12:=Nat.le_trans (pL _) (LL o).1
set_option tactic.hygienic false
section
variable {n:Nat}
structure NB where
 acc:List AV
 l:By
 a:Option AV
 x:Option AV
noncomputable def KA (ps:List By) (s:NB):Loc×List AV:=(L (.fn 124) [some (.lst (ps.map .bytes)),some (.int 76),some (.ref 0),some (.bytes s.l),s.a,s.x],[.lst s.acc])
noncomputable abbrev TZ (n:Nat) (ps:List By) (a:Nat) (s:NB):Option ar:=(tF (En n (.fn 124)) 0 (aK (.fn 124) [2]) (iA a) (KA ps s).1 (KA ps s).2).p
noncomputable def gB {ps:List By} {a:Nat} {p:By} (hI:a<(ps.map AV.bytes).length) (hg:(ps.map AV.bytes).getD a .none= .bytes p):List Ev:=[gI hI,eV hg]
theorem KX {α:Type} {ps u r:List α} {p:α} {f:α→AV} {d:AV} (e:ps=u++p::r):u.length<(ps.map f).length∧(ps.map f).getD u.length d=f p:=by
 rw[e,List.length_map,List.length_append];refine⟨Nat.lt_add_of_pos_right (Nat.succ_pos _),?_⟩;rw[List.getD_eq_getElem?_getD,List.getElem?_map,List.getElem?_append_right (Nat.le_refl _),Nat.sub_self];rfl
theorem IP {ps u r:List By} {p:By} {s:NB} (e:ps=u++p::r) (ha:s.acc.length<ao) (hl:s.l.length≤100) (hp:p.length≤3):
 ∃x,TZ n ps u.length s=some (if room r<s.l.length+p.length then .aY (KA ps ⟨s.acc++[.bytes (s.l++[61])],p,some (iA u.length),x⟩).1 [.lst (s.acc++[.bytes (s.l++[61])])] else .aY (KA ps ⟨s.acc,s.l++p,some (iA u.length),x⟩).1 [.lst s.acc]):=by
 obtain⟨hI,hg⟩:=KX (f:=AV.bytes) (d:= .none) e;have hn:AV.int (((ps.map AV.bytes).length:Int) -1)= .int ↑(u.length+r.length):=by rw[List.length_map,e,List.length_append];exact congrArg AV.int (jM _)
 have l1:(s.l++[61]).length≤ao:=by rw[List.length_append];exact Nat.le_trans (Nat.succ_le_succ hl) (by decide)
 have l2:(s.l++p).length≤ao:=by rw[List.length_append];exact Nat.le_trans (Nat.add_le_add hl hp) (by decide)
 have l3:([]++p).length≤ao:=Nat.le_trans hp (by decide);unfold room;by_cases hr:r=[]
 ·subst hr;refine⟨some (.int 76),?_⟩;rw[if_pos List.isEmpty_nil];by_cases q:76<s.l.length+p.length
  ·rw[if_pos q];exact aj ([eK,eV hn,qT (rfl:(u.length:Int)=u.length),eK]++gB hI hg++[eK,eK,gu q,eT,eT,eT,eK,gT l1,eK,gT ha,eT]++gB hI hg++[gT l3]) (by kernel_rfl)
  ·rw[if_neg q];exact aj ([eK,eV hn,qT (rfl:(u.length:Int)=u.length),eK]++gB hI hg++[eK,eK,ju (Nat.not_lt.mp q)]++gB hI hg++[gT l2]) (by kernel_rfl)
 ·have ne:(u.length:Int)≠↑(u.length+r.length):=λz=>hr (List.eq_nil_of_length_eq_zero (Nat.left_eq_add.mp (Int.ofNat.inj z)))
  refine⟨some (.int 75),?_⟩;rw[if_neg λh=>hr (List.isEmpty_iff.mp h)];by_cases q:75<s.l.length+p.length
  ·rw[if_pos q];exact aj ([eK,eV hn,qF ne,eK,eK]++gB hI hg++[eK,eK,gu q,eT,eT,eT,eK,gT l1,eK,gT ha,eT]++gB hI hg++[gT l3]) (by kernel_rfl)
  ·rw[if_neg q];exact aj ([eK,eV hn,qF ne,eK,eK]++gB hI hg++[eK,eK,ju (Nat.not_lt.mp q)]++gB hI hg++[gT l2]) (by kernel_rfl)
structure TQ (X:List AV) (ps:List By) (xs:List Nat) (s:NB):Prop where
 ex:∃r,Ix ps r xs∧s.acc++(soft r s.l).map .bytes=X
 le:s.l.length≤76
theorem FQ (r:List By):room r≤76:=by
 unfold room;split
 ·exact Nat.le_refl _
 ·decide
theorem qH {ps:List By} (hl:ps.length<40000) (h3:∀p∈ps,p.length≤3):Rn (n+1) (.fn 124) [.lst (ps.map .bytes),.int 76] (.lst ((soft ps []).map .bytes)):=by
 have hX:((soft ps []).map AV.bytes).length≤ao:=by rw[List.length_map];exact Nat.le_trans (v7 ps []) (Nat.le_trans hl (by decide))
 obtain⟨_,e,s,rfl,hs,hn⟩:=bV (C:=En n (.fn 124)) (k:=0) (st:=aK (.fn 124) [2]) (enc:=KA ps) (Q:=λq=>∃s:NB,q= .aY (KA ps s).1 (KA ps s).2∧s.acc++[.bytes s.l]=(soft ps []).map .bytes∧s.l.length≤76) iA (TQ ((soft ps []).map .bytes) ps) (λa xs s h=>by
  obtain⟨⟨r,h1,h2⟩,h4⟩:=h;refine h1.step λu p r' hr e ea h5=> ?_
  subst hr ea;have hp:=h3 p (e▸List.mem_append_right _ List.mem_cons_self);have hc:soft (p::r') s.l=if room r'<s.l.length+p.length then(s.l++[61])::soft r' p else soft r' (s.l++p):=rfl
  rw[hc] at h2;have ha:s.acc.length<ao:=Nat.lt_of_lt_of_le (by rw[←h2,List.length_append,←hc];exact Nat.lt_add_of_pos_right (by rw[List.length_map];exact List.length_pos_iff.mpr (x8 _ _))) hX
  obtain⟨x,hx⟩:=IP (n:=n) e ha (Nat.le_trans h4 (by decide)) hp;refine⟨_,hx,.inl ?_⟩;by_cases q:room r'<s.l.length+p.length
  ·rw[if_pos q] at h2⊢;exact⟨⟨_,p,_,x⟩,rfl,⟨r',h5,(List.append_assoc _ _ _).trans h2⟩,Nat.le_trans hp (by decide)⟩
  ·rw[if_neg q] at h2⊢;exact⟨⟨_,_,_,x⟩,rfl,⟨r',h5,h2⟩,by rw[List.length_append];exact Nat.le_trans (Nat.not_lt.mp q) (FQ _)⟩) (λs h=>by
  obtain⟨⟨r,h1,h2⟩,h4⟩:=h;rw[h1.nil] at h2;exact⟨s,rfl,h2,h4⟩) (bg 1 0 ps.length) ⟨[],[],none,none⟩ ⟨⟨ps,Ix.all ps,rfl⟩,Nat.zero_le _⟩
 rw[←wH] at e;rw[←hs] at hX⊢;have hm:(ps.map AV.bytes).length≤ao:=by rw[List.length_map];exact Nat.le_trans (Nat.le_of_lt hl) (by decide)
 rw[show ps.length=(ps.map AV.bytes).length from(List.length_map _).symm] at e;exact aa [eT,eT,gS hm,eS e,eT,gT hX] (by kernel_rfl)
theorem qz {o:By} (ho:o.length<40000):Rn (n+1) (.fn 125) [.bytes o,.bool true] (.lst ((bl o).map .bytes)):=by
 have l1:((bl o).map AV.bytes).length≤ao:=by
  rw[List.length_map];exact Nat.le_trans (Nat.le_mul_of_pos_left _ (show 0<2 by decide)) (Nat.le_trans (Nat.le_trans (Nat.le_add_left _ _) (Nat.le_of_eq (sO o))) (Nat.le_trans (Nat.add_le_add_right (Nat.le_of_lt ho) 2) (by decide)))
 exact aa [eY,eT,gT l1] (by kernel_rfl)
end
set_option tactic.hygienic false
section
variable {n:Nat}
theorem j6 (l:By):(cut l (-1) l.length==[61])=true↔l.getLast?=some 61:=by
 have e:cut l (-1) l.length=l.drop (l.length -1):=by
  unfold cut;rw[clipAt_nat,Nat.min_self,List.take_length];exact congrArg (l.drop ·) (clipAt_neg l.length 1 (Nat.le_refl 1))
 rw[e,beq_iff_eq];rcases gO l with rfl|⟨u,c,rfl⟩
 ·exact⟨λh=>(zF h),λh=>(zA h)⟩
 ·rw[List.length_append,List.length_singleton,Nat.add_sub_cancel,List.drop_left,List.getLast?_concat];exact⟨λh=>congrArg some (List.cons.inj h).1,λh=>congrArg (λc=>[c]) (Option.some.inj h)⟩
noncomputable def jp (l:By):List By:=if l.getLast?=some 61 then [l,az] else [l]
theorem IB (l:By):(jp l).flatten=jl l:=by
 unfold jp jl;split
 ·exact congrArg (l++·) (List.append_nil _)
 ·exact List.append_nil l
structure PH where
 acc:List AV
 v:Option AV
noncomputable def Mx (ls:AV) (s:PH):Loc×List AV:=(L (.fn 127) [some ls,some (.ref 0),s.v],[.lst s.acc])
theorem Iv {ls:AV} {l:By} {s:PH} (ha:s.acc.length+2≤ao):(tF (En n (.fn 127)) 0 (aK (.fn 127) [1]) (.bytes l) (Mx ls s).1 (Mx ls s).2).p=some (.aY (Mx ls ⟨s.acc++(jp l).map .bytes,some (.bytes l)⟩).1 (Mx ls ⟨s.acc++(jp l).map .bytes,some (.bytes l)⟩).2):=by
 have a1:s.acc.length<ao:=Nat.lt_of_lt_of_le (Nat.lt_add_of_pos_right (by decide)) ha
 unfold jp;by_cases q:l.getLast?=some 61
 ·have a2:(s.acc++[AV.bytes l]).length<ao:=by rw[List.length_append];exact ha
  have e:s.acc++[AV.bytes l,AV.bytes az]=(s.acc++[AV.bytes l])++[AV.bytes az]:=List.append_cons _ _ _;rw[if_pos q,List.map_cons,List.map_cons,List.map_nil,e];exact aj [gT a1,eT,eT,eT,eB ((j6 l).mpr q),eT,gT a2] (by kernel_rfl)
 ·refine(if_neg q).symm▸?_;exact aj [gT a1,eT,eT,eT,eB (Bool.eq_false_iff.mpr λh=>q ((j6 l).mp h))] (by kernel_rfl)
theorem Oj:∀ls:List By,(ls.flatMap jp).length≤2*ls.length:=by
 intro ls
 induction ls with
 |nil=>
  exact Nat.le_refl _
 |cons l ls ih=>
  rw[List.flatMap_cons,List.length_append,List.length_cons,Nat.mul_succ,Nat.add_comm];refine Nat.add_le_add (ih) ?_;unfold jp;split
  ·exact Nat.le_refl _
  ·exact Nat.le_succ _
theorem nj {ls:List By} (h1:ls.length≤100000) (h2:(ls.flatMap jl).length≤ao):Rn (n+1) (.fn 127) [.lst (ls.map .bytes)] (.bytes (ls.flatMap jl)):=by
 obtain⟨_,e,t,rfl⟩:=bV (C:=En n (.fn 127)) (k:=0) (st:=aK (.fn 127) [1]) (enc:=Mx (.lst (ls.map .bytes))) (Q:=λq=>∃v,q= .aY (Mx (.lst (ls.map .bytes)) ⟨(ls.flatMap jp).map .bytes,v⟩).1 [.lst ((ls.flatMap jp).map .bytes)]) AV.bytes (λxs s=>s.acc++(xs.flatMap jp).map .bytes=(ls.flatMap jp).map .bytes∧s.acc.length+2*xs.length≤200000) (λl xs s h=>by
  obtain⟨h3,h4⟩:=h;rw[List.length_cons,Nat.mul_succ] at h4;refine⟨_,Iv (Nat.le_trans (Nat.add_le_add_left (Nat.le_add_left 2 _) _) (Nat.le_trans h4 (by decide))),.inl ⟨_,rfl,?_,?_⟩⟩
  ·rw[←h3,List.flatMap_cons,List.map_append,List.append_assoc]
  ·show(s.acc++(jp l).map AV.bytes).length+_≤_;rw[List.length_append,List.length_map,Nat.add_assoc];have:=Oj [l];rw[List.flatMap_singleton] at this;exact Nat.le_trans (Nat.add_le_add_left (Nat.le_trans (Nat.le_of_eq (Nat.add_comm _ _)) (Nat.add_le_add_left this _)) _) h4) (λs h=>⟨s.v,by rw[←(List.append_nil _).symm.trans h.1];rfl⟩) ls ⟨[],none⟩ ⟨rfl,by rw[List.length_nil,Nat.zero_add];exact Nat.mul_le_mul_left 2 h1⟩
 have ej:aL [] (((ls.flatMap jp).map AV.bytes).map hV)=ls.flatMap jl:=by
  rw[fh,eU,←List.flatMap_id,List.flatMap_assoc];exact congrArg (λf=>ls.flatMap f) (funext λl=>by rw[List.flatMap_id,IB])
 have l3:(aL [] (((ls.flatMap jp).map AV.bytes).map hV)).length≤ao:=by rw[ej];exact h2
 exact aa [eT,eS e,eT,eG (allB (ls.flatMap jp)),gT l3,eV (congrArg AV.bytes ej)] (by kernel_rfl)
noncomputable def Pm (o:By) (s:PH):Loc×List AV:=(L (.fn 126) [some (.bytes o),some (.bool true),some (.int 76),some (.ref 0),s.v],[.lst s.acc])
theorem FK {o l:By} {s:PH} (hl:l.length<40000) (ha:s.acc.length+((dk l++[az]).map AV.bytes).length≤ao):(tF (En (n+2) (.fn 126)) 0 (aK (.fn 126) [2]) (.bytes l) (Pm o s).1 (Pm o s).2).p=some (.aY (Pm o ⟨s.acc++(dk l++[az]).map .bytes,some (.bytes l)⟩).1 [.lst (s.acc++(dk l++[az]).map .bytes)]):=by
 rw[List.length_map,List.length_append,←Nat.add_assoc] at ha;have a1:s.acc.length+((dk l).map AV.bytes).length≤ao:=by rw[List.length_map];exact Nat.le_of_succ_le ha
 have a2:(s.acc++(dk l).map AV.bytes).length<ao:=by rw[List.length_append,List.length_map];exact ha
 rw[List.map_append,←List.append_assoc];exact aj [eC (o8 (n:=n) hl),eC (qH (n:=n+1) (ps:=bu l) (by rw[Bp];exact hl) (Jt l)),gT a1,eT,gT a2] (by kernel_rfl)
theorem D6 {ls:List By} {l:By} (m:l∈ls):l.length≤ls.flatten.length:=by
 obtain⟨p,q,rfl⟩:=List.append_of_mem m;rw[List.flatten_append,List.flatten_cons,List.length_append,List.length_append];exact Nat.le_trans (Nat.le_add_right _ _) (Nat.le_add_left _ _)
theorem fE {o:By} (ho:o.length<40000):Rn (n+3) (.fn 126) [.bytes o,.bool true] (.bytes (qp o)):=by
 have m1:=(LL o).1;have m2:=(LL o).2;have sm:=sO o;have hX:((bz (bl o)).map AV.bytes).length≤50000:=by rw[List.length_map];exact Nat.le_trans m2 (Nat.le_trans (Nat.add_le_add_right (Nat.le_of_lt ho) 2) (by decide))
 obtain⟨_,e,v,rfl⟩:=bV (C:=En (n+2) (.fn 126)) (k:=0) (st:=aK (.fn 126) [2]) (enc:=Pm o) (Q:=λq=>∃v,q= .aY (Pm o ⟨(bz (bl o)).map .bytes,v⟩).1 [.lst ((bz (bl o)).map .bytes)]) AV.bytes (λxs s=>s.acc++(bz xs).map .bytes=(bz (bl o)).map .bytes∧∀x∈xs,x∈bl o) (λl xs s h=>by
  have h1:=h.1;have h2:=h.2;have e:bz (l::xs)=dk l++[az]++bz xs:=List.flatMap_cons;rw[e,List.map_append,←List.append_assoc] at h1;have hl:l.length<40000:=Nat.lt_of_le_of_lt (D6 (h2 l List.mem_cons_self)) (Nat.lt_of_le_of_lt (Nat.le_of_add_le_add_right (Nat.le_trans (Nat.add_le_add_left (Nat.le_trans (List.length_pos_iff.mpr (ir o)) (Nat.le_refl _)|>λk=>Nat.mul_le_mul_left 2 k) _) (Nat.le_of_eq sm))) ho)
  have ha:s.acc.length+((dk l++[az]).map AV.bytes).length≤ao:=by
   have:=hX;rw[←h1,List.length_append,List.length_append] at this;exact Nat.le_trans (Nat.le_trans (Nat.le_add_right _ _) this) (by decide)
  exact⟨_,FK hl ha,.inl ⟨_,rfl,h1,λx m=>h2 x (List.mem_cons_of_mem _ m)⟩⟩) (λs h=>⟨s.v,by rw[←(List.append_nil _).symm.trans h.1];rfl⟩) (bl o) ⟨[],none⟩ ⟨rfl,λ_ m=>m⟩
 have ne:bz (bl o)≠[]:=by
  cases q:bl o with
  |nil=>exact absurd q (ir o)
  |cons l ls=>exactλz=>List.append_ne_nil_of_right_ne_nil (dk l) (List.cons_ne_nil az []) (List.append_eq_nil_iff.mp z).1
 have e1:AV.int ((((bz (bl o)).map AV.bytes).length:Int) -1)= .int ↑((bz (bl o)).length -1):=by
  rw[List.length_map];cases q:(bz (bl o)).length with
  |zero=>exact absurd (List.eq_nil_of_length_eq_zero q) ne
  |succ k=>exact congrArg AV.int (jM k)
 have e2:AV.lst (cut ((bz (bl o)).map AV.bytes) (0:Nat) ((bz (bl o)).length -1:Nat))= .lst ((bz (bl o)).dropLast.map .bytes):=by
  rw[nQ,Nat.zero_min,List.drop_zero,←List.map_take,←List.dropLast_eq_take]
 have j:=nj (n:=n+1) (ls:=(bz (bl o)).dropLast) (Nat.le_trans (Nat.le_trans (Nat.le_of_eq List.length_dropLast) (Nat.sub_le _ _)) (Nat.le_trans m2 (Nat.le_trans (Nat.add_le_add_right (Nat.le_of_lt ho) 2) (by decide)))) (Nat.le_trans (pL _) (Nat.le_trans m1 (Nat.le_trans (Nat.add_le_add_right (Nat.mul_le_mul_left 6 (Nat.le_of_lt ho)) 12) (by decide))));exact aa [eN,eT,eC (qz (n:=n+1) ho),eS e,eK,eV e1,eV e2,eC j] (by kernel_rfl)
end
set_option tactic.hygienic false
section
variable {n:Nat} {d:By}
theorem BU {c:UInt8} {a:Nat} (h:yQ c=some a):a<16:=by
 have:=pW (f:=λk=>(yQ k.toUInt8).all λa=>decide (a<16)) (g:=λ_=>true) (by kernel_rfl) c;rw[show c.toNat.toUInt8=c from UInt8.ofNat_toNat,h] at this;exact of_decide_eq_true this
theorem sd {u r:By} {c:UInt8} (e:d=u++c::r):Rn (n+2) (.fn 120) [.bytes d,.int u.length] (oI (wK r)):=by
 have ld:d.length=u.length+(r.length+1):=by rw[e,List.length_append,List.length_cons]
 have short:d.length≤u.length+2→oI (wK r)= .int (-1)→Rn (n+2) (.fn 120) [.bytes d,.int u.length] (oI (wK r)):=λh k=>k▸aa [Az h] (by kernel_rfl)
 cases r with
 |nil=>exact short (ld▸Nat.le_succ _) rfl
 |cons h r=>cases r with
  |nil=>exact short (Nat.le_of_eq ld) rfl
  |cons l r=>
   have e1:d=(u++[c])++h::l::r:=by rw[e,List.append_assoc];rfl
   have e2:d=(u++[c,h])++l::r:=by rw[e,List.append_assoc];rfl
   have i1:=dh e1;have i2:=dh e2;have g1:=bS (x:=0) e1;have g2:=bS (x:=0) e2;rw[List.length_append] at i1 g1 i2 g2;have w1:=kg n h;have w2:=kg n l;have eq:wK (h::l::r)=(yQ h).bind λa=>(yQ l).map λb=>16*a+b:=rfl
   refine eq.symm▸?_;cases q1:yQ h with
   |none=>
    rw[q1] at w1;cases q2:yQ l with
    |none=>rw[q2] at w2;exact aa [My i2,eK,gI i1,eV (congrArg uA g1),eC w1,eK,gI i2,eV (congrArg uA g2),eC w2,eN,eN] (by kernel_rfl)
    |some b=>rw[q2] at w2;exact aa [My i2,eK,gI i1,eV (congrArg uA g1),eC w1,eK,gI i2,eV (congrArg uA g2),eC w2,eN,eN] (by kernel_rfl)
   |some a=>
    rw[q1] at w1;cases q2:yQ l with
    |none=>
     rw[q2] at w2;exact aa [My i2,eK,gI i1,eV (congrArg uA g1),eC w1,eK,gI i2,eV (congrArg uA g2),eC w2,Az (Nat.zero_le a),eN,eN] (by kernel_rfl)
    |some b=>
     rw[q2] at w2;exact aa [My i2,eK,gI i1,eV (congrArg uA g1),eC w1,eK,gI i2,eV (congrArg uA g2),eC w2,Az (Nat.zero_le a),Az (Nat.zero_le b),eY,eT] (by kernel_rfl)
structure Rp where
 a:Nat
 r:By
 acc:List AV
 v:Option AV
noncomputable def F7 (d:By) (s:Rp):Loc×List AV:=(L (.fn 129) [some (.bytes d),some (.ref 0),some (.int s.a),s.v],[.lst s.acc])
structure P8 (d:By) (X:List AV) (s:Rp):Prop where
 ex:∃u,d=u++s.r∧s.a=u.length
 ac:s.acc++(unq 0 s.r).map uA=X
theorem Fz {X:List AV} (hX:X.length≤ao) (s:Rp) (i:P8 d X s):∃q,(tW (En (n+2) (.fn 129)) 0 (aK (.fn 129) [2]) (F7 d s).1 (F7 d s).2).p=some q∧Nx (F7 d) (λs'=>P8 d X s'∧s'.r.length<s.r.length) (λq=>∃a v,q= .aY (F7 d ⟨a,[],X,v⟩).1 [.lst X]) q:=by
 refine cps λG kf=> ?_
 obtain⟨a,r,acc,v⟩:=s;obtain⟨⟨u,e,ea⟩,h⟩:=i;dsimp only at e ea h;subst ea;cases r with
 |nil=>
  have hx:acc=X:=(List.append_nil acc).symm.trans h;exact kf ⟨_,aj (a:= .brk (F7 d ⟨u.length,[],acc,v⟩).1 [.lst acc]) [ju (Nat.le_of_eq (congrArg List.length (e.trans (List.append_nil u))))] (by kernel_rfl),.brk ⟨_,v,by rw[hx]⟩⟩
 |cons c r=>
  have hI:=dh e;have hg:=congrArg uA (bS (x:=0) e);have plain:Fv c r=none→∀v',(tW (En (n+2) (.fn 129)) 0 (aK (.fn 129) [2]) (F7 d ⟨u.length,c::r,acc,v⟩).1 [.lst acc]).p=some (.aY (F7 d ⟨u.length+1,r,acc++[uA c],v'⟩).1 [.lst (acc++[uA c])])→G:=λz v' ht=>by
   rw[jU z] at h;exact kf ⟨_,ht,.inl ⟨⟨_,r,_,v'⟩,rfl,⟨⟨u++[c],by rw[e,List.append_assoc];rfl,by rw[List.length_append];rfl⟩,(List.append_assoc _ _ _).trans h⟩,Nat.lt_succ_self _⟩⟩
  have ha:acc.length<ao:=by
   refine Nat.lt_of_lt_of_le ?_ hX;rw[←h,List.length_append,List.length_map];refine Nat.lt_add_of_pos_right ?_;cases z:Fv c r with
   |none=>rw[jU z];exact Nat.succ_pos _
   |some v=>rw[kb z];exact Nat.succ_pos _
  by_cases q:c=61
  ·have q0:Fv c r=wK r:=if_pos q;have hq:=sd (n:=n) e;cases z:wK r with
   |none=>
    rw[z] at hq;subst q;exact plain (q0.trans z) (some (.int (-1))) (aj [gu hI,gI hI,eV hg,eY,eC hq,eN,gI hI,eV hg,gT ha] (by kernel_rfl))
   |some w=>
    rw[z] at hq;rw[kb (q0.trans z)] at h;subst q;have hw:w<256∧∃x y r',r=x::y::r':=by
     cases r with
     |nil=>exact zA z
     |cons x r=>cases r with
      |nil=>exact zA z
      |cons y r=>
       obtain⟨p,hp,z⟩:=bind_some z;obtain⟨p',hp',z⟩:=Option.map_eq_some_iff.mp z;exact⟨z▸Nat.lt_of_lt_of_le (Nat.add_lt_add_left (BU hp') _) (Nat.mul_le_mul_left 16 (BU hp)),x,y,r,rfl⟩
    obtain⟨w2,x,y,r',rfl⟩:=hw;have hu:AV.int (w:Nat)=uA w.toUInt8:=congrArg (λm:Nat=>AV.int m) (Nat.mod_eq_of_lt w2).symm;refine kf ⟨_,aj (a:= .aY (F7 d ⟨u.length+3,r',acc++[.int w],some (.int w)⟩).1 [.lst (acc++[.int w])]) [gu hI,gI hI,eV hg,eY,eC hq,Az (Nat.zero_le w),gT ha] (by kernel_rfl),.inl ⟨⟨_,r',_,some (.int w)⟩,rfl,⟨⟨u++[61,x,y],by rw[e,List.append_assoc];rfl,by rw[List.length_append];rfl⟩,?_⟩,Nat.lt_of_lt_of_le (Nat.lt_succ_self _) (Nat.le_add_right _ 2)⟩⟩;refine hu.symm▸?_;exact(List.append_assoc _ _ _).trans h
  ·have q':(c.toNat:Int)≠61:=λe=>q (UInt8.toNat_inj.mp (Int.ofNat.inj e))
   exact plain (if_neg q) (some (.int (-1))) (aj [gu hI,gI hI,eV hg,qF q',eN,gI hI,eV hg,gT ha] (by kernel_rfl))
theorem jx:∀(r:By) (k:Nat),(unq k r).length≤r.length
 |[],_=>Nat.zero_le _
 |c::r,k+1=>Nat.le_succ_of_le (jx r k)
 |c::r,0=>by
  cases z:Fv c r with
  |none=>rw[jU z];exact Nat.succ_le_succ (jx r 0)
  |some v=>rw[kb z];exact Nat.succ_le_succ (jx r 2)
theorem mR (hd:d.length<90000):Rn (n+3) (.fn 129) [.bytes d] (.bytes (unq 0 d)):=by
 have l1:((unq 0 d).map uA).length≤ao:=by rw[List.length_map];exact Nat.le_trans (jx d 0) (hJ hd)
 obtain⟨_,e,a,v,rfl⟩:=jQ (C:=En (n+2) (.fn 129)) (k:=0) (st:=aK (.fn 129) [2]) (enc:=F7 d) (P8 d ((unq 0 d).map uA)) (λs=>s.r.length) (Fz (n:=n) l1) WF ⟨0,d,[],none⟩ ⟨⟨[],rfl,rfl⟩,rfl⟩ (Nat.lt_trans hd (by decide));exact aa [eT,eS e,eG (cH (unq 0 d)),gT l1,eV (cE (unq 0 d))] (by kernel_rfl)
end
set_option tactic.hygienic false
noncomputable def CH (p:By×By):AV:= .tup [.bytes p.1,.bytes p.2]
section
variable {n:Nat} {d p x y r:By} {k:Nat} {v:Option AV} {acc:List AV}
noncomputable abbrev LW (d:By) (b:Nat) (v:Option AV):Loc:=L (.fn 128) [some (.bytes d),some (.ref 0),some (.int b),v]
noncomputable abbrev MZ (n:Nat) (d:By) (b:Nat) (v:Option AV) (acc:List AV):Option ar:=(tW (En n (.fn 128)) 0 (aK (.fn 128) [2]) (LW d b v) [.lst acc]).p
theorem Pr (hp:p.length≤ao) (hf:findB d [10] p.length d.length= -1) (hs:cut d p.length d.length=r) (ha:(acc++[CH (r,[])]).length≤ao):MZ n d p.length v acc=some (.ret (.lst (acc++[CH (r,[])])) false [.lst acc]):=
 aj [eY,eT,PL hp,eV (congrArg AV.int hf),eY,eV (congrArg AV.bytes hs),eT,eT,eT,gT ha] (by kernel_rfl)
theorem Nt (hp:p.length≤ao) (hf:findB d [10] p.length d.length=p.length) (hs:cut d p.length p.length=[]) (ha:acc.length<ao):MZ n d p.length v acc=some (.aY (LW d (p.length+1) (some (.int p.length))) [.lst (acc++[CH ([],[10])])]):=
 aj [eY,eT,PL hp,eV (congrArg AV.int hf),ju (Nat.zero_le p.length),ju (Nat.le_refl p.length),eN,eV (congrArg AV.bytes hs),eT,eT,gT ha] (by kernel_rfl)
theorem O9 (hp:p.length≤ao) (hf:findB d [10] p.length d.length=(k+1:Nat)) (hk:p.length≤k) (hI:k<d.length) (hg:d.getD k 0=13) (hs:cut d p.length k=y) (ha:acc.length<ao):MZ n d p.length v acc=some (.aY (LW d (k+1+1) (some (.int (k+1:Nat)))) [.lst (acc++[CH (y,az)])]):=
 aj [eY,eT,PL hp,eV (congrArg AV.int hf),ju (Nat.zero_le (k+1)),gu (Nat.lt_succ_of_le hk),eV (congrArg AV.int (jM k)),gI hI,eV (congrArg uA hg),eY,eY,eV (congrArg AV.int (jM k)),eV (congrArg AV.bytes hs),eT,eT,gT ha] (by kernel_rfl)
theorem NZ {c:UInt8} (hp:p.length≤ao) (hf:findB d [10] p.length d.length=(k+1:Nat)) (hk:p.length≤k) (hI:k<d.length) (hg:d.getD k 0=c) (hc:c≠13) (hs:cut d p.length (k+1:Nat)=x) (ha:acc.length<ao):MZ n d p.length v acc=some (.aY (LW d (k+1+1) (some (.int (k+1:Nat)))) [.lst (acc++[CH (x,[10])])]):=
 aj [eY,eT,PL hp,eV (congrArg AV.int hf),ju (Nat.zero_le (k+1)),gu (Nat.lt_succ_of_le hk),eV (congrArg AV.int (jM k)),gI hI,eV (congrArg uA hg),qF (SQ hc),eN,eV (congrArg AV.bytes hs),eT,eT,gT ha] (by kernel_rfl)
theorem OG (hd:d=p++(x++10::r)) (hp:p.length≤ao) (hf:findB d [10] p.length d.length=(p.length+x.length:Nat)) (ha:acc.length<ao):∃v',MZ n d p.length v acc=some (.aY (LW d (p.length+x.length+1) v') [.lst (acc++[CH (lend x)])]):=by
 rcases gO x with rfl|⟨y,c,rfl⟩
 ·exact⟨_,Nt hp hf (dK (m:=[]) hd) ha⟩
 ·have ly:(y++[c]).length=y.length+1:=List.length_append;have hs:=dK hd;rw[ly,←Nat.add_assoc] at hf hs⊢;rw[List.append_assoc] at hd;have hs':=dK hd;rw[←List.append_assoc] at hd;have hI:=dh hd;have hg:=bS (x:=0) hd;rw[List.length_append] at hI hg;by_cases h13:c=13
  ·rw[h13,sD];exact⟨_,O9 hp hf (Nat.le_add_right _ _) hI (hg.trans h13) hs' ha⟩
  ·have e:lend (y++[c])=(y++[c],[10]):=if_neg (by rw[List.getLast?_concat];exactλe=>h13 (Option.some.inj e));rw[e];exact⟨_,NZ hp hf (Nat.le_add_right _ _) hI hg h13 hs ha⟩
structure Q3 where
 b:Nat
 v:Option AV
 acc:List AV
structure SI (d:By) (X:List AV) (r:By) (s:Q3):Prop where
 hd:∃p,d=p++r∧s.b=p.length
 hx:s.acc++(lM [] r).map CH=X
theorem GH {X:List AV} (hL:d.length≤ao) (hX:X.length≤ao) {s:Q3} (h0:SI d X r s) {m:Nat} (hm:r.length<m):
 ∃q,mW (En n (.fn 128)) 0 (aK (.fn 128) [2]) m (LW d s.b s.v) [.lst s.acc]=some q∧∃S,q= .ret (.lst X) false S:=by
 refine jQ (enc:=λs:By×Q3=>(LW d s.2.b s.2.v,[.lst s.2.acc])) (λs=>SI d X s.1 s.2) (λs=>s.1.length) ?_ m (r,s) h0 hm;intro s h;obtain⟨⟨p,hd,ho⟩,hx⟩:=h;refine ho.symm▸?_;have hp:p.length≤ao:=by rw[hd,List.length_append] at hL;exact Nat.le_trans (Nat.le_add_right _ _) hL
 have e1:d.length=p.length+s.1.length:=by rw[hd,List.length_append]
 have e2:d=p++(s.1++[]):=by rw[List.append_nil];exact hd
 by_cases m:10∈s.1
 ·obtain⟨a,b,er,na⟩:=List.eq_append_cons_of_mem m;rw[er] at e1 e2 hx hd⊢;rw[yh [] na,List.map_cons] at hx;have ha:s.2.acc.length<ao:=Nat.lt_of_lt_of_le (by rw[←hx,List.length_append];exact Nat.lt_add_of_pos_right (Nat.succ_pos _)) hX
  obtain⟨v',ht⟩:=OG (n:=n) (v:=s.2.v) hd hp (nO e2 e1 na) ha;refine⟨_,ht,.inl ⟨(b,⟨_,v',_⟩),rfl,⟨⟨p++(a++[10]),by rw[hd];simp only[List.append_assoc];rfl,by rw[List.length_append,List.length_append];rfl⟩,(List.append_assoc _ _ _).trans hx⟩,?_⟩⟩;rw[List.length_append];exact Nat.lt_of_lt_of_le (Nat.lt_succ_self _) (Nat.le_add_left _ _)
 ·rw[uW [] m] at hx;have hs:cut d p.length d.length=s.1:=by rw[e1];exact dK e2
  exact⟨_,Pr hp (yM e2 e1 m) hs (hx.symm▸hX),.ret ⟨_,congrArg (λX=>ar.ret (.lst X) false _) hx⟩⟩
theorem uS:∀(r u:By),(lM u r).flatMap (λp=>p.1++p.2)=u++r:=by
 intro r
 induction r with
 |nil=>
  intro u;exact List.append_nil _
 |cons c r ih=>
  intro u;show(if c=10 then lend u::lM [] r else lM (u++[c]) r).flatMap _=_;by_cases h:c=10
  ·rw[if_pos h,List.flatMap_cons,ih [],h];refine Eq.trans (congrArg (·++_) (?_:_=u++[10])) (List.append_assoc _ _ _);rcases gO u with rfl|⟨y,c,rfl⟩
   ·rfl
   ·by_cases h13:c=13
    ·rw[h13,sD,List.append_assoc];rfl
    ·rw[show lend (y++[c])=(y++[c],[10]) from if_neg (by rw[List.getLast?_concat];exactλe=>h13 (Option.some.inj e))]
  ·rw[if_neg h,ih,List.append_assoc];rfl
theorem CJ:∀(r u:By),(lM u r).length≤r.length+1:=by
 intro r
 induction r with
 |nil=>
  intro u;exact Nat.le_refl _
 |cons c r ih=>
  intro u;show(if c=10 then lend u::lM [] r else lM (u++[c]) r).length≤_;split
  ·exact Nat.succ_le_succ (ih _)
  ·exact Nat.le_succ_of_le (ih _)
theorem qm (hd:d.length<90000):Rn (n+1) (.fn 128) [.bytes d] (.lst ((lM [] d).map CH)):=by
 have hX:((lM [] d).map CH).length≤ao:=by rw[List.length_map];exact Nat.le_trans (CJ d []) (Nat.le_trans hd (by decide))
 obtain⟨_,e,S,rfl⟩:=GH (n:=n) (r:=d) (hJ hd) hX (s:=⟨0,none,[]⟩) ⟨⟨[],rfl,rfl⟩,rfl⟩ (m:=WF) (Nat.lt_trans hd (by decide));exact aa [eT,eS e] (by kernel_rfl)
end
set_option tactic.hygienic false
noncomputable def Fm (p:By) (c:UInt8) (n:By):Bool:=c==0||(decide (127<c.toNat)||((c==13&&n !=[10])||(c==10&&p !=[13])))
noncomputable def u0:By→By→Bool
 |_,[]=>false
 |p,c::r=>Fm p c (r.take 1)||u0 [c] r
noncomputable def uR (p:Nat×Nat×Nat):Option AV:=if 998<p.2.1 -p.1 then some (.int 1) else none
noncomputable def OF (o:By):Bool:= !u0 [] o&&((spans 0 (lines o)).filterMap uR).isEmpty
section
variable {n:Nat} {o u r:By} {c:UInt8} {v w:Option AV}
noncomputable abbrev Ni (o:By) (v w:Option AV):Loc:=L (.fn 158) [some (.bytes o),v,w]
noncomputable abbrev LA (n:Nat) (o:By) (a:Nat) (v w:Option AV):Option ar:=(tF (En n (.fn 158)) 0 (aK (.fn 158) [0]) (iA a) (Ni o v w) []).p
noncomputable def P6 (o:By) (a:Nat) (c:UInt8):ar:= .aY (Ni o (some (iA a)) (some (uA c))) []
noncomputable def LB:ar:= .ret (.bool false) false []
noncomputable def MK (hI:u.length<o.length) (hg:o.getD u.length 0=c):List Ev:=[gI hI,eV (congrArg uA hg)]
theorem ui {c d:UInt8} (h:c≠d):(c.toNat:Int)≠d.toNat:=λe=>h (UInt8.toNat_inj.mp (Int.ofNat.inj e))
theorem KQ (e:o=u++c::r) (h:c≠0) (k:c.toNat≤127) (h13:c≠13) (h10:c≠10):LA n o u.length v w=some (P6 o u.length c):=
 aj (MK (dh e) (bS e)++[qF (ui h),ju k,eN,qF (ui h13),eN,qF (ui h10),eN,eN]) (by kernel_rfl)
theorem Og (e:o=u++c::r) (h:c≠0) (k:127<c.toNat):LA n o u.length v w=some LB:=
 aj (MK (dh e) (bS e)++[qF (ui h),gu k,eY]) (by kernel_rfl)
theorem Rw (e:o=u++0::r):LA n o u.length v w=some LB:=aj (MK (dh e) (bS e)++[eY,eY]) (by kernel_rfl)
theorem OJ (e:o=u++13::r) {b:Bool} (h:(r.take 1==[10])=b):LA n o u.length v w=some (if b=true then P6 o u.length 13 else LB):=by
 have hs:AV.bytes (cut o (u.length+1:Nat) (u.length+1+1:Nat))= .bytes (r.take 1):=by
  have:=pz (d:=o) (p:=u++[13]) (r:=r) (by rw[e,List.append_assoc];rfl) 1;rw[List.length_append] at this;exact congrArg AV.bytes this
 cases b with
 |true=>exact aj (MK (dh e) (bS e)++[eN,eN,eN,eY,eK,eK,eV hs,eT,eB (show(!(r.take 1==[10]))=false by rw[h];rfl),eN,eN,eN,eN]) (by kernel_rfl)
 |false=>exact aj (MK (dh e) (bS e)++[eN,eN,eN,eY,eK,eK,eV hs,eT,eB (show(!(r.take 1==[10]))=true by rw[h];rfl),eY,eY]) (by kernel_rfl)
theorem Kg (e:o=10::r):LA n o 0 v w=some LB:=
 aj (MK (u:=[]) (dh e) (bS e)++[eN,eN,eN,eN,eN,eY,eK,eK,eV (congrArg AV.bytes (dK (p:=[]) (m:=[]) (q:=o) rfl)),eT,eY,eY,eY]) (by kernel_rfl)
theorem LS {y:By} {c':UInt8} (e:o=(y++[c'])++10::r) {b:Bool} (h:([c']==[13])=b):LA n o (y.length+1) v w=some (if b=true then P6 o (y.length+1) 10 else LB):=by
 have ly:(y++[c']).length=y.length+1:=List.length_append;have hI:=dh e;have hg:=bS (x:=0) e;rw[ly] at hI hg;have hs:AV.bytes (cut o y.length (y.length+1:Nat))= .bytes [c']:=congrArg AV.bytes (dK (m:=[c']) (q:=10::r) (by rw[e,List.append_assoc]));have hm:AV.int (if(y.length:Int)<0 then 0 else y.length)= .int y.length:=by rw[if_neg (Int.not_lt.mpr (Int.natCast_nonneg _))]
 cases b with
 |true=>exact aj ([gI hI,eV (congrArg uA hg),eN,eN,eN,eN,eN,eY,eV (congrArg AV.int (jM y.length)),eV hm,eV hs,eT,eB (show(!([c']==[13]))=false by rw[h];rfl),eN,eN]) (by kernel_rfl)
 |false=>exact aj ([gI hI,eV (congrArg uA hg),eN,eN,eN,eN,eN,eY,eV (congrArg AV.int (jM y.length)),eV hm,eV hs,eT,eB (show(!([c']==[13]))=true by rw[h];rfl),eY,eY]) (by kernel_rfl)
noncomputable def Pv (u p:By):Prop:=(u=[]∧p=[])∨∃y c,u=y++[c]∧p=[c]
theorem LJ (p m:By):Fm p 13 m=(m !=[10]):=(Bool.or_false _).trans rfl
theorem LZ (p m:By):Fm p 10 m=(p !=[13]):=rfl
theorem KS (p m:By) {c:UInt8} (k:127<c.toNat):Fm p c m=true:=by
 unfold Fm;rw[decide_eq_true k,Bool.true_or,Bool.or_true]
theorem IU (p m:By) {c:UInt8} (h:c≠0) (k:c.toNat≤127) (h13:c≠13) (h10:c≠10):Fm p c m=false:=by
 unfold Fm;rw[beq_eq_false_iff_ne.mpr h,decide_eq_false (Nat.not_lt.mpr k),beq_eq_false_iff_ne.mpr h13,beq_eq_false_iff_ne.mpr h10];rfl
theorem G9 {p:By} (e:o=u++c::r) (hp:Pv u p):LA n o u.length v w=some (if Fm p c (r.take 1)=true then LB else P6 o u.length c):=by
 by_cases h0:c=0
 ·subst h0;exact Rw e
 ·by_cases hk:127<c.toNat
  ·rw[KS _ _ hk];exact Og e h0 hk
  ·by_cases h13:c=13
   ·subst h13;rw[LJ,bne];refine(OJ e rfl).trans ?_;cases r.take 1==[10]<;>rfl
   ·by_cases h10:c=10
    ·subst h10;rw[LZ,bne];rcases hp with⟨rfl,rfl⟩|⟨y,d,rfl,rfl⟩
     ·exact Kg e
     ·refine List.length_append.symm▸?_;refine(LS e rfl).trans ?_;cases [d]==[13]<;>rfl
    ·refine(IU _ _ h0 (Nat.not_lt.mp hk) h13 h10).symm▸?_;exact KQ e h0 (Nat.not_lt.mp hk) h13 h10
structure Td (o:By) (xs:List Nat):Prop where
 ex:∃u p r,o=u++r∧xs=bg 1 u.length r.length∧Pv u p∧u0 [] o=u0 p r
theorem HI (n:Nat) (o:By):∃q,mF (En n (.fn 158)) 0 (aK (.fn 158) [0]) ((bg 1 0 o.length).map iA) (Ni o none none) []=some q∧((u0 [] o=true∧q=LB)∨(u0 [] o=false∧∃v w,q= .aY (Ni o v w) [])):=by
 refine bV (enc:=λs:Option AV×Option AV=>(Ni o s.1 s.2,[])) iA (λxs _=>Td o xs) (λa xs s h=> ?_) (λs h=> ?_) (bg 1 0 o.length) (none,none) ⟨[],[],o,rfl,rfl,.inl ⟨rfl,rfl⟩,rfl⟩
 ·obtain⟨u,p,r,e,h1,h2,h3⟩:=h.ex;cases r with
  |nil=>exact zG h1
  |cons c r=>
   obtain⟨rfl,h4⟩:=List.cons.inj h1;refine⟨_,G9 e h2,?_⟩;have e3:u0 p (c::r)=(Fm p c (r.take 1)||u0 [c] r):=rfl;rw[e3] at h3;cases q:Fm p c (r.take 1) with
   |true=>rw[q,Bool.true_or] at h3;exact .ret (.inl ⟨h3,rfl⟩)
   |false=>
    rw[q,Bool.false_or] at h3;exact .inl ⟨(some (iA u.length),some (uA c)),rfl,⟨u++[c],[c],r,by rw[e,List.append_assoc];rfl,by rw[h4,List.length_append];rfl,.inr ⟨u,c,rfl,rfl⟩,h3⟩⟩
 ·obtain⟨u,p,r,_,h1,_,h3⟩:=h.ex;cases r with
  |nil=>exact .inr ⟨h3,s.1,s.2,rfl⟩
  |cons c r=>exact zF h1
theorem AX:∀(l:List (By×Nat)) (o:Nat),(spans o l).length=l.length:=by
 intro l
 induction l with
 |nil=>
  intro _;exact rfl
 |cons _ r ih=>
  intro _;exact congrArg (·+1) (ih _)
theorem DG:∀(l:List (By×Nat)) (o:Nat),∀p∈spans o l,p.1≤p.2.1:=by
 intro l
 induction l with
 |nil=>
  intro _ _ m;exact zE m
 |cons _ r ih=>
  intro _ p m;exact(List.mem_cons.mp m).elim (λe=>e▸Nat.le_add_right _ _) (ih _ p)
noncomputable abbrev Qe:Expr:=ng (.fn 158) [1] [0,0]
theorem Ir (n:Nat) (l:List (Nat×Nat×Nat)) (h:∀p∈l,p.1≤p.2.1):mL (En n (.fn 158)) Qe (l.map qk) (LX Qe [none,none,none,none]) []=some (.ok (l.filterMap uR) []):=by
 refine comp_map (enc:=λs:Option AV×Option AV×Option AV=>LX Qe [none,s.1,s.2.1,s.2.2]) uR (λ_ p=>(some (.int p.1),some (.int p.2.1),some (.int p.2.2))) l (none,none,none) λp m s=> ?_
 have e:AV.int ((p.2.1:Int) -p.1)= .int ↑(p.2.1 -p.1):=congrArg AV.int (Int.ofNat_sub (h p m)).symm;unfold uR;by_cases q:998<p.2.1 -p.1
 ·rw[if_pos q];exact aj [eV e,gu q,eY] (by kernel_rfl)
 ·rw[if_neg q];exact aj [eV e,ju (Nat.not_lt.mp q),eN] (by kernel_rfl)
theorem uX {o:By} (ho:o.length<40000):Rn (n+2) (.fn 158) [.bytes o] (.bool (OF o)):=by
 have hs:=bR (Nat.le_trans (Nat.le_of_lt ho) (show 40000≤ao by decide));have sl:(spans 0 (lines o)).length≤ao:=by rw[AX];exact Nat.le_trans (n0 o) (Nat.le_trans (Nat.le_of_lt ho) (by decide))
 have l1:((spans 0 (lines o)).map qk).length≤ao:=by rw[List.length_map];exact sl
 have l2:((spans 0 (lines o)).filterMap uR).length≤ao:=Nat.le_trans (List.length_filterMap_le _ _) sl;obtain⟨q,e,h⟩:=HI (n+1) o;rw[←wH] at e;unfold OF;rcases h with⟨hb,rfl⟩|⟨hb,v,w,rfl⟩
 ·rw[hb];exact aa [eG hs,eS e] (by kernel_rfl)
 ·rw[hb];exact aa [eG hs,eS e,eC (m9 n (Nat.lt_trans ho (by decide))),gT l1,eL (Ir (n+1) (spans 0 (lines o)) (DG _ _)),gT l2,eT] (by kernel_rfl)
end
set_option tactic.hygienic false
section
variable {n:Nat} {d o x e:By}
structure P7 where
 acc:List AV
 a:Option AV
 b:Option AV
 c:Option AV
noncomputable def Gn (d:By) (s:P7):Loc×List AV:=(L (.fn 130) [some (.bytes d),some (.ref 0),s.a,s.b,s.c],[.lst s.acc])
theorem Eo (p:By):∀l:By,(dH p l).length≤l.length:=by
 intro l
 induction l with
 |nil=>
  exact Nat.le_refl _
 |cons c r ih=>
  show(if p.contains c=true then dH p r else c::r).length≤_;split
  ·exact Nat.le_succ_of_le (ih)
  ·exact Nat.le_refl _
theorem lg (l:By):(cu l).length≤l.length:=by
 unfold cu dG;rw[List.length_reverse];exact Nat.le_trans (Eo _ _) (Nat.le_of_eq List.length_reverse)
theorem Ef (p:By×By):(c5 p).length≤(p.1++p.2).length:=by
 unfold c5;rw[List.length_append];split
 ·exact Nat.le_trans (jx _ _) (Nat.le_trans (Nat.le_trans (Nat.le_of_eq List.length_dropLast) (Nat.sub_le _ _)) (Nat.le_trans (lg _) (Nat.le_add_right _ _)))
 ·rw[List.length_append];exact Nat.add_le_add_right (Nat.le_trans (jx _ _) (lg _)) _
theorem Ig {s:P7} (hx:x.length<90000) (he:e.length≤2) (ha:s.acc.length<ao):∃s':P7,s'.acc=s.acc++[.bytes (c5 (x,e))]∧(tF (En (n+3) (.fn 130)) 0 (aK (.fn 130) [1]) (CH (x,e)) (Gn d s).1 (Gn d s).2).p=some (.aY (Gn d s').1 (Gn d s').2):=by
 have hw:=Nat.lt_of_le_of_lt (lg x) hx;unfold c5;refine⟨⟨_,some (.bytes x),some (.bytes e),some (.bytes (cu x))⟩,rfl,?_⟩;by_cases q:(cu x).getLast?=some 61
 ·refine(if_pos q).symm▸?_;have hc:=(j6 _).mpr q;rcases gO (cu x) with h|⟨y,c,h⟩
  ·rw[h] at q;exact zA q
  ·have e1:AV.int (((cu x).length:Int) -1)= .int ↑y.length:=by rw[h,List.length_append];exact congrArg AV.int (jM _)
   have e2:AV.bytes (cut (cu x) (0:Nat) y.length)= .bytes (cu x).dropLast:=by rw[h,List.dropLast_concat,nQ,List.take_left,Nat.zero_min,List.drop_zero]
   have l1:(cu x).dropLast.length<90000:=Nat.lt_of_le_of_lt (Nat.le_trans (Nat.le_of_eq List.length_dropLast) (Nat.sub_le _ _)) hw
   exact aj [eT,eK,eK,eT,eT,eT,eB hc,eK,eV e1,eV e2,eC (mR (n:=n) l1),gT ha] (by kernel_rfl)
 ·refine(if_neg q).symm▸?_;have hc:=Bool.eq_false_iff.mpr λh=>q ((j6 _).mp h)
  have l1:(unq 0 (cu x)++e).length≤ao:=by rw[List.length_append];exact Nat.le_trans (Nat.add_le_add (Nat.le_trans (jx _ _) (Nat.le_of_lt hw)) he) (by decide)
  exact aj [eT,eK,eK,eT,eT,eT,eB hc,eC (mR (n:=n) hw),gT l1,gT ha] (by kernel_rfl)
theorem w7 {α β:Type} {f g:α→List β} (h:∀a,(f a).length≤(g a).length):∀l:List α,(l.flatMap f).length≤(l.flatMap g).length:=by
 intro l
 induction l with
 |nil=>
  exact Nat.le_refl _
 |cons a l ih=>
  rw[List.flatMap_cons,List.flatMap_cons,List.length_append,List.length_append];exact Nat.add_le_add (h a) (ih)
theorem OL (d:By):(qd d).length≤d.length:=Nat.le_trans (w7 Ef _) (Nat.le_of_eq (congrArg List.length (uS d [])))
theorem Ly (u:By):(lend u).2.length≤2:=by
 unfold lend;split
 ·exact Nat.le_refl _
 ·exact Nat.le_succ 1
theorem Pf:∀(r u:By),∀p∈lM u r,p.2.length≤2:=by
 intro r
 induction r with
 |nil=>
  intro u p m;exact List.mem_singleton.mp m▸Nat.zero_le _
 |cons c r ih=>
  intro u p m;change p∈(if c=10 then lend u::lM [] r else lM (u++[c]) r) at m;split at m
  ·exact(List.mem_cons.mp m).elim (λe=>e▸Ly u) (ih _ p)
  ·exact ih _ p m
theorem pf {α β:Type} {f:α→List β} {l:List α} {a:α} (m:a∈l):(f a).length≤(l.flatMap f).length:=by
 obtain⟨p,q,rfl⟩:=List.append_of_mem m;rw[List.flatMap_append,List.flatMap_cons,List.length_append,List.length_append];exact Nat.le_trans (Nat.le_add_right _ _) (Nat.le_add_left _ _)
theorem j8 (hd:d.length<80000):Rn (n+4) (.fn 130) [.bytes d] (.bytes (qd d)):=by
 have hd9:=Nat.lt_trans hd (show 80000<90000 by decide);have hX:(((lM [] d).map c5).map AV.bytes).length≤ao:=by rw[List.length_map,List.length_map];exact Nat.le_trans (CJ d []) (hJ (Nat.lt_of_le_of_lt hd (by decide)))
 obtain⟨_,e,s,rfl,hs⟩:=bV (C:=En (n+3) (.fn 130)) (k:=0) (st:=aK (.fn 130) [1]) (enc:=Gn d) (Q:=λq=>∃s:P7,q= .aY (Gn d s).1 (Gn d s).2∧s.acc=((lM [] d).map c5).map .bytes) CH (λxs s=>s.acc++(xs.map c5).map .bytes=((lM [] d).map c5).map .bytes∧∀p∈xs,p∈lM [] d) (λp xs s h=>by
  have h1:=h.1;have h2:=h.2;have hm:=h2 p List.mem_cons_self;have l1:=pf (f:=λp:By×By=>p.1++p.2) hm;rw[uS,List.length_append] at l1;have ha:s.acc.length<ao:=Nat.lt_of_lt_of_le (by rw[←h1,List.length_append];exact Nat.lt_add_of_pos_right (Nat.succ_pos _)) hX
  obtain⟨s',e1,e2⟩:=Ig (n:=n) (d:=d) (x:=p.1) (e:=p.2) (Nat.lt_of_le_of_lt (Nat.le_trans (Nat.le_add_right _ _) l1) hd9) (Pf d [] p hm) ha;exact⟨_,e2,.inl ⟨s',rfl,by rw[e1,List.append_assoc];exact h1,λx m=>h2 x (List.mem_cons_of_mem _ m)⟩⟩) (λs h=>⟨s,rfl,(List.append_nil _).symm.trans h.1⟩) (lM [] d) ⟨[],none,none,none⟩ ⟨rfl,λ_ m=>m⟩
 have ej:aL [] ((((lM [] d).map c5).map AV.bytes).map hV)=qd d:=by rw[fh,eU];exact List.flatMap_def.symm
 have l3:(aL [] ((((lM [] d).map c5).map AV.bytes).map hV)).length≤ao:=by rw[ej];exact Nat.le_trans (OL d) (hJ hd9)
 have e':(Gn d s).2=[.lst (((lM [] d).map c5).map .bytes)]:=by unfold Gn;rw[hs]
 rw[e'] at e;exact aa [eT,eC (qm (n:=n+2) hd9),eS e,eT,eG (allB ((lM [] d).map c5)),gT l3,eV (congrArg AV.bytes ej)] (by kernel_rfl)
noncomputable def dw (o:By):Nat:=if OF o=true then 0 else if(xF o).length<(qp o).length then 1 else 2
noncomputable def encStr:Nat→Str
 |0=>Str.ofString "7bit"
 |1=>Str.ofString "base64"
 |_+2=>Str.ofString "quoted-printable"
noncomputable def cont (o:By):Nat→By
 |0=>o
 |1=>xF o
 |_+2=>qp o
noncomputable def content (o:By):By:=cont o (dw o)
theorem eQ (o:By):dw o<3:=by
 unfold dw;split
 ·exact Nat.succ_pos _
 ·split
  ·exact Nat.lt_succ_self 1|>λh=>Nat.lt_trans h (Nat.lt_succ_self 2)
  ·exact Nat.lt_succ_self 2
theorem ue (ho:o.length<40000):(content o).length≤12*o.length+12:=by
 have h1:=HN ho;have h2:=Li o;unfold content;match dw o,eQ o with
 |0,_=>exact Nat.le_trans (Nat.le_mul_of_pos_left _ (by decide)) (Nat.le_add_right _ _)
 |1,_=>exact Nat.le_trans h1 (Nat.add_le_add_left (by decide) _)
 |2,_=>exact Nat.le_trans h2 (Nat.add_le_add_right (Nat.mul_le_mul_right _ (by decide)) _)
theorem zg (ho:o.length<40000):Rn (n+6) (.fn 159) [.bytes o,.bool true] (.str (encStr (dw o))):=by
 have h7:=uX (n:=n+3) ho;have h64:=oH (n:=n+1) ho;have hq:=fE (n:=n+2) ho;unfold dw;cases q:OF o with
 |true=>rw[q] at h7;exact aa [eC h7,eY] (by kernel_rfl)
 |false=>
  rw[q] at h7;by_cases z:(xF o).length<(qp o).length
  ·rw[if_pos z];exact aa [eC h7,eN,eC h64,eC hq,gu z,eT] (by kernel_rfl)
  ·rw[if_neg z];exact aa [eC h7,eN,eC h64,eC hq,ju (Nat.not_lt.mp z),eT] (by kernel_rfl)
theorem pK (ho:o.length<40000):Rn (n+6) (.fn 160) [.str (encStr (dw o)),.bytes o,.bool true] (.bytes (content o)):=by
 unfold content;match dw o,eQ o with
 |0,_=>exact aa [eT,eN,eT,eN] (by kernel_rfl)
 |1,_=>exact aa [eT,eY,eC (oH (n:=n+1) ho)] (by kernel_rfl)
 |2,_=>exact aa [eT,eN,eT,eY,eC (fE (n:=n+2) ho)] (by kernel_rfl)
theorem AO (ho:o.length<10000) (hc:(content o).length<80000):Rn (n+5) (.fn 146) [.str (encStr (dw o)),.bytes (content o)] (.bytes o):=by
 unfold content at hc⊢;match h:dw o,eQ o with
 |0,_=>exact aa [eT,eN,eT,eN] (by kernel_rfl)
 |1,_=>exact aa [eT,eY,eC (xu (n:=n+2) (Nat.lt_trans ho (by decide)))] (by kernel_rfl)
 |2,_=>
  rw[h] at hc;have hq:=j8 (n:=n) hc;rw[show cont o 2=qp o from rfl,H6] at hq;exact aa [eT,eN,eT,eY,eC hq] (by kernel_rfl)
end
set_option tactic.hygienic false
noncomputable def BH (t s:String) (k v:List AV):AV:= .inst 80 [Str.ofString "top",Str.ofString "sub",Str.ofString "params"] [sN t,sN s,.dct k v]
noncomputable def vl:AV:=BH "text" "plain" [] []
noncomputable def Fo:AV:=BH "message" "rfc822" [] []
noncomputable def qP (N:Nat):AV:=BH "multipart" "mixed" [sN "boundary"] [.str (dP N)]
noncomputable def CT:By:=[67,111,110,116,101,110,116,45,84,121,112,101]
noncomputable def Mp:By:=[67,111,110,116,101,110,116,45,84,114,97,110,115,102,101,114,45,69,110,99,111,100,105,110,103]
noncomputable def Jv:By:=[77,73,77,69,45,86,101,114,115,105,111,110]
noncomputable def Kq:By:=[32,116,101,120,116,47,112,108,97,105,110]
noncomputable def Pg:By:=[32,109,101,115,115,97,103,101,47,114,102,99,56,50,50]
noncomputable def PO:By:=[32,109,117,108,116,105,112,97,114,116,47,109,105,120,101,100,59]
noncomputable def PR (N:Nat):By:=[32,98,111,117,110,100,97,114,121,61,34,61,95,112,97,114,116]++aR N++[34]
noncomputable def Ss:By:=[32,98,97,115,101,54,52]
noncomputable def S0:By:=[32,113,117,111,116,101,100,45,112,114,105,110,116,97,98,108,101]
noncomputable def MI:By:=[32,49,46,48]
noncomputable def fld (a b:By):By:=a++58::b++[13,10]
noncomputable def Fq:Nat→By
 |0=>fld CT Kq++[13,10]
 |1=>fld CT Kq++fld Mp Ss++[13,10]
 |_+2=>fld CT Kq++fld Mp S0++[13,10]
noncomputable def FT:By:=fld CT Pg++[13,10]
noncomputable def Ep (N:Nat):By:=fld CT (PO++13::10::PR N)++[13,10]
noncomputable def jP:By:=fld Jv MI
noncomputable def lL (a b:By):AV:= .inst 28 [Str.ofString "name",Str.ofString "raw"] [.bytes a,.bytes b]
theorem M6 (n:Nat):Rn (n+12) (.fn 164) [.tup [],vl,.str (encStr 0)] (.bytes (Fq 0)):=by kernel_rfl
theorem Nr (n:Nat):Rn (n+12) (.fn 164) [.tup [],vl,.str (encStr 1)] (.bytes (Fq 1)):=by kernel_rfl
theorem NN (n:Nat):Rn (n+12) (.fn 164) [.tup [],vl,.str (encStr 2)] (.bytes (Fq 2)):=by kernel_rfl
theorem Fb (n:Nat):Rn (n+12) (.fn 164) [.tup [],Fo,.str (encStr 0)] (.bytes FT):=by kernel_rfl
theorem BG (n:Nat):Rn (n+12) (.fn 39) [.lst [lL Jv MI]] (.bytes jP):=by kernel_rfl
theorem Lb {β:Type} {k:Nat} {f g:Nat→β} (h:(List.range k).map f=(List.range k).map g) {N:Nat} (hN:N<k):f N=g N:=List.map_inj_left.mp h _ (List.mem_range.mpr hN)
theorem KN (n:Nat) {N:Nat} (hN:N<15):Rn (n+12) (.fn 164) [.tup [],qP N,.str (encStr 0)] (.bytes (Ep N)):=
 Lb (k:=15) (f:=λN=>run (n+12) (.fn 164) [.tup [],qP N,.str (encStr 0)] none) (g:=λN=>some (.ret (.bytes (Ep N)) false none)) (by kernel_rfl) hN
set_option tactic.hygienic false
noncomputable def markB (N:Nat):By:=bj++aR N
noncomputable def eF (N:Nat) (b:By):By:=markB N++az++b++az
noncomputable def au (bodies:List By) (N:Nat):By:=bodies.flatMap (eF N)++markB N++[45,45]++az
noncomputable def encM (bodies:List By):By:=Ep (bq bodies)++au bodies (bq bodies)
noncomputable def gm (ps:List AV):AV:= .inst 156 [Str.ofString "sub",Str.ofString "pieces",Str.ofString "fields"] [sN "mixed",.lst ps,.tup []]
noncomputable def letterA (p:AV):AV:= .inst 157 [Str.ofString "piece",Str.ofString "fields"] [p,.tup []]
noncomputable def bb (o:By):AV:= .inst 155 [Str.ofString "kind",Str.ofString "octets",Str.ofString "fields"] [vl,.bytes o,.tup []]
noncomputable def aB (o:By):By:=Fq (dw o)++content o
structure oV (bodies:List By):Prop where
 sum:eA bodies<4000
 num:bq bodies<15
section
variable {n N:Nat} {bodies:List By}
theorem Ph (h:N<15):(aR N).length≤2:=iK (by decide) (Nat.lt_trans h (by decide))
theorem kj (h:N<15):(markB N).length≤10:=by
 unfold markB;rw[List.length_append];exact Nat.add_le_add_left (Ph h) 8
theorem rq (h:N<15) (b:By):(eF N b).length≤b.length+14:=by
 unfold eF;rw[List.length_append,List.length_append,List.length_append];refine Nat.le_trans (Nat.add_le_add_right (Nat.add_le_add_right (Nat.add_le_add_right (kj h) _) _) _) (Nat.le_of_eq ?_);show 12+b.length+2=_;rw[Nat.add_comm 12]
theorem EZ (h:N<15):∀bodies:List By,(bodies.flatMap (eF N)).length≤eA bodies+14*bodies.length:=by
 intro bodies
 induction bodies with
 |nil=>
  exact Nat.le_refl _
 |cons b r ih=>
  rw[List.flatMap_cons,List.length_append,eX,List.length_cons,Nat.mul_succ];exact Nat.le_trans (Nat.add_le_add (rq h b) (ih)) (Nat.le_of_eq (by rw[Nat.add_add_add_comm,Nat.add_comm 14]))
theorem jL (h:N<15):(au bodies N).length≤eA bodies+14*bodies.length+14:=by
 unfold au;rw[List.length_append,List.length_append,List.length_append,Nat.add_assoc,Nat.add_assoc];exact Nat.add_le_add (EZ h bodies) (Nat.add_le_add_right (kj h) 4)
noncomputable abbrev RV:Expr:=ng (.fn 166) [0] [0,1,1]
noncomputable abbrev QW:Expr:=ng (.fn 166) [1] [0,0,0,0,1]
theorem Mh (n:Nat) (x:By):mL (En n (.fn 166)) RV (cX (c6 x)) (LX RV [none,none]) []=some (.ok (bInts x) []):=pS (r:=λv=>LX RV [none,v]) λc v=>aj [eY,eK] (by kernel_rfl)
theorem It (hN:N<15) (hs:eA bodies<4000):mL (En n (.fn 166)) QW (bodies.map .bytes) (LX QW [none,none,none,some (.bytes (markB N))]) []=some (.ok ((bodies.map (eF N)).map .bytes) []):=by
 rw[List.map_map];refine bW (enc:=λv=>LX QW [none,v,none,some (.bytes (markB N))]) (λb=> .bytes (eF N b)) (λ_ b=>some (.bytes b)) bodies none λb m v=> ?_
 have l3:(markB N++az++b++az).length≤ao:=Nat.le_trans (rq hN b) (Nat.le_trans (Nat.add_le_add_right (Nat.le_trans (vk m) (Nat.le_of_lt hs)) 14) (by decide));exact aj [eY,gT (cB (cB l3)),gT (cB l3),gT l3] (by kernel_rfl)
theorem z5 (hN:N<15) (hs:eA bodies<4000) (hb:bodies.length≤100):Rn (n+1) (.fn 166) [.lst (bodies.map .bytes),.str (dP N)] (.bytes (au bodies N)):=by
 have nl:(gb++aR N).length≤100:=by rw[List.length_append];exact Nat.le_trans (Nat.add_le_add_left (Ph hN) 6) (by decide)
 have l1:(cX (dP N)).length≤ao:=mi nl (by decide) (by unfold dP;rw[fA,List.length_map]);have l2:=mi nl (by decide) (lh (gb++aR N));have l3:([45,45]++(gb++aR N)).length≤ao:=Nat.le_trans (kj hN) (by decide);have l4:(bodies.map AV.bytes).length≤ao:=by rw[List.length_map];exact Nat.le_trans hb (by decide)
 have l5:((bodies.map (eF N)).map AV.bytes).length≤ao:=by rw[List.length_map,List.length_map];exact Nat.le_trans hb (by decide)
 have lj:=Nat.le_trans (jL (bodies:=bodies) hN) (Nat.le_trans (Nat.add_le_add_right (Nat.add_le_add (Nat.le_of_lt hs) (Nat.mul_le_mul_left 14 hb)) 14) (show 4000+14*100+14≤ao by decide));have ej:aL [] (((bodies.map (eF N)).map AV.bytes).map hV)=bodies.flatMap (eF N):=by rw[fh,eU];exact List.flatMap_def.symm
 unfold au at lj⊢;have l6:(aL [] (((bodies.map (eF N)).map AV.bytes).map hV)).length≤ao:=by rw[ej];exact cB (cB (cB lj))
 exact aa [eT,gT l1,eL (Mh n (gb++aR N)),gT l2,eG (cH (gb++aR N)),gT l2,eV (cE (gb++aR N)),gT l3,eT,gT l4,eL (It (n:=n) hN hs),gT l5,eG (allB (bodies.map (eF N))),gT l6,eV (congrArg AV.bytes ej),gT (cB (cB lj)),eT,gT (cB lj),gT lj] (by kernel_rfl)
theorem iR (n:Nat) (a b:Str) (k v:List AV):run (n+1) (.mt 80 0) [.ref 0,.str a,.str b,.dct k v] (some (.inst 80 [] []))=some (.ret .none false (some (.inst 80 [Str.ofString "top",Str.ofString "sub",Str.ofString "params"] [.str a,.str b,.dct k v]))):=by kernel_rfl
theorem jH (n:Nat) (a b:By):run (n+1) (.mt 28 0) [.ref 0,.bytes a,.bytes b] (some (.inst 28 [] []))=some (.ret .none false (some (lL a b))):=by kernel_rfl
theorem ya:∀N,N<15→(Ep N).length≤60:=by decide+kernel
theorem oN:FT.length=32∧jP.length=19∧∀k,k<3→(Fq k).length≤75:=by decide+kernel
structure Inst (a:AV):Prop where
 ex:∃c ns vs,a= .inst c ns vs
theorem GZ {L:List (AV×By)} (h0:L≠[]) (hl:L.length≤100) (hL:∀p∈L,Inst p.1∧Rn (n+12) (.fn 169) [p.1] (.bytes p.2)) (hg:oV (L.map (·.2))):Rn (n+13) (.fn 167) [gm (L.map (·.1))] (.bytes (encM (L.map (·.2)))):=by
 have ne:(((L.map (·.1)).length:Nat):Int)≠0:=λz=>h0 (List.eq_nil_of_length_eq_zero (by rw[List.length_map] at z;exact Int.ofNat.inj z))
 have l1:(L.map (·.1)).length≤ao:=by rw[List.length_map];exact Nat.le_trans hl (by decide)
 have l2:((L.map (·.2)).map AV.bytes).length≤ao:=by rw[List.length_map,List.length_map];exact Nat.le_trans hl (by decide)
 have hb:=pU (n+9) hg.sum;have hj:=z5 (n:=n+11) hg.num hg.sum (by rw[List.length_map];exact hl);have hh:=KN n hg.num;have l3:(Ep (bq (L.map (·.2)))++au (L.map (·.2)) (bq (L.map (·.2)))).length≤ao:=by
  rw[List.length_append];refine Nat.le_trans (Nat.add_le_add (ya _ hg.num) (Nat.le_trans (jL hg.num) (Nat.add_le_add_right (Nat.add_le_add (Nat.le_of_lt hg.sum) (Nat.mul_le_mul_left 14 (by rw[List.length_map];exact hl))) 14))) (by decide)
 have hc:mL (En (n+12) (.fn 167)) (ng (.fn 167) [1] [0]) (L.map (·.1)) (LX (ng (.fn 167) [1] [0]) [none,none]) []=some (.ok ((L.map (·.2)).map .bytes) []):=by
  rw[List.map_map];refine bW (enc:=λv=>LX (ng (.fn 167) [1] [0]) [none,v]) (λp=> .bytes p.2) (λ_ p=>some p.1) L none λp m v=> ?_
  obtain⟨⟨c,ns,vs,e⟩,hr⟩:=hL p m;rw[e] at hr⊢;exact aj [eY,eC hr] (by kernel_rfl)
 unfold encM;generalize bq (L.map (·.2))=M at*;exact aa [qF ne,gT l1,eL hc,gT l2,eC hb,eT,eT,eC (iR (n+11) (Str.ofString "multipart") (Str.ofString "mixed") [sN "boundary"] [.str (dP M)]),eC hh,eC hj,gT l3] (by kernel_rfl)
theorem y8 (n:Nat):Rn (n+1) (.mt 80 2) [vl] (.bool false)∧Rn (n+1) (.mt 80 3) [vl] (.bool false)∧Rn (n+1) (.mt 80 4) [vl] (.bool true):=⟨by kernel_rfl,by kernel_rfl,by kernel_rfl⟩
theorem lH {o:By} (ho:o.length<40000):(aB o).length≤12*o.length+87:=by
 unfold aB;rw[List.length_append,Nat.add_comm];exact Nat.le_trans (Nat.add_le_add (ue ho) (oN.2.2 _ (eQ o))) (Nat.le_of_eq (Nat.add_assoc _ 12 75))
theorem qe {o:By} (ho:o.length<40000):Rn (n+13) (.fn 165) [bb o] (.bytes (aB o)):=by
 obtain⟨k1,k2,k3⟩:=y8 (n+11);have h1:=zg (n:=n+6) ho;have h2:=pK (n:=n+6) ho;have h3:Rn (n+12) (.fn 164) [.tup [],vl,.str (encStr (dw o))] (.bytes (Fq (dw o))):=match dw o,eQ o with
  |0,_=>M6 n
  |1,_=>Nr n
  |2,_=>NN n
 have l1:=Nat.le_trans (lH ho) (Nat.le_trans (Nat.add_le_add_right (Nat.mul_le_mul_left 12 (Nat.le_of_lt ho)) 87) (show 12*40000+87≤ao by decide));unfold aB at l1⊢;exact aa [eC k1,eN,eC k2,eN,eN,eC k3,eC h1,eC h3,eC k3,eC h2,gT l1] (by kernel_rfl)
theorem gZ (n:Nat):Rn (n+4) (.fn 163) [.tup []] .none:=by kernel_rfl
theorem xg {o:By} (ho:o.length<40000):Rn (n+14) (.fn 169) [bb o] (.bytes (aB o)):=aa [eT,eN,eT,eN,eC (qe (n:=n) ho)] (by kernel_rfl)
theorem wO {L:List (AV×By)} (h0:L≠[]) (hl:L.length≤100) (hL:∀p∈L,Inst p.1∧Rn (n+12) (.fn 169) [p.1] (.bytes p.2)) (hg:oV (L.map (·.2))):Rn (n+14) (.fn 169) [gm (L.map (·.1))] (.bytes (encM (L.map (·.2)))):=aa [eT,eY,eC (GZ h0 hl hL hg)] (by kernel_rfl)
theorem nt {a:AV} {b:By} (ha:Inst a) (hb:Rn (n+12) (.fn 169) [a] (.bytes b)) (hl:b.length<90000):Rn (n+13) (.fn 170) [a,.tup []] (.bytes (jP++b)):=by
 obtain⟨c,ns,vs,rfl⟩:=ha.ex;have l1:(jP++b).length≤ao:=by rw[List.length_append,oN.2.1];exact Nat.le_trans (Nat.add_le_add_left (Nat.le_of_lt hl) 19) (by decide)
 exact aa [eC (gZ (n+8)),eT,eT,eC (jH (n+11) Jv MI),eT,eT,eC (BG n),eC hb,gT l1] (by kernel_rfl)
theorem lX {a:AV} {b:By} (ha:Inst a) (hb:Rn (n+12) (.fn 169) [a] (.bytes b)) (hl:b.length<80000):Rn (n+14) (.fn 168) [letterA a] (.bytes (FT++(jP++b))):=by
 have hw:=nt (n:=n) ha hb (Nat.lt_trans hl (by decide));obtain⟨c,ns,vs,rfl⟩:=ha.ex;have l1:(FT++(jP++b)).length≤ao:=by rw[List.length_append,List.length_append,oN.1,oN.2.1];exact Nat.le_trans (Nat.add_le_add_left (Nat.add_le_add_left (Nat.le_of_lt hl) 19) 32) (by decide)
 exact aa [eT,eT,eT,eC (iR (n+12) (Str.ofString "message") (Str.ofString "rfc822") [] []),eC (Fb (n+1)),eC hw,gT l1] (by kernel_rfl)
theorem sf {a:AV} {b:By} (ha:Inst a) (hb:Rn (n+12) (.fn 169) [a] (.bytes b)) (hl:b.length<80000):Rn (n+15) (.fn 169) [letterA a] (.bytes (FT++(jP++b))):=aa [eT,eN,eT,eY,eC (lX (n:=n) ha hb hl)] (by kernel_rfl)
end
set_option tactic.hygienic false
inductive Row where
 |leaf (o:By)
 |bare
 |many (w:Nat) (p:Row)
 |lett (p:Row)
noncomputable def eE {α:Type} (w:Nat) (a x b:α):List α:=match w with
 |0=>[x]
 |k+1=>match k with
  |0=>[a,x]
  |_+1=>[x,b]
theorem gC {α:Type} {P:List α→Prop} {a x b:α} (w:Nat) (h0:P [x]) (h1:P [a,x]) (h2:P [x,b]):P (eE w a x b):=by
 match w with
 |0=>exact h0
 |1=>exact h1
 |_+2=>exact h2
theorem j7 {α β:Type} {a x b:α} (f:α→β) (w:Nat):(eE w a x b).map f=eE w (f a) (f x) (f b):=by
 match w with
 |0=>rfl
 |1=>rfl
 |_+2=>rfl
theorem oX {α:Type} {P:α→Prop} {a x b:α} (w:Nat) (h0:P a) (h1:P x) (h2:P b):∀y∈eE w a x b,P y:=gC (P:=λl=>∀y∈l,P y) w (λy m=>List.mem_singleton.mp m▸h1)
 (λy m=>(List.mem_cons.mp m).elim (λe=>e▸h0) λm=>List.mem_singleton.mp m▸h1) (λy m=>(List.mem_cons.mp m).elim (λe=>e▸h1) λm=>List.mem_singleton.mp m▸h2)
theorem fb {α:Type} {a x b:α} (w:Nat):eE w a x b≠[]∧(eE w a x b).length≤2:=gC (P:=λl=>l≠[]∧l.length≤2) w ⟨List.cons_ne_nil _ _,Nat.le_succ 1⟩ ⟨List.cons_ne_nil _ _,Nat.le_refl _⟩ ⟨List.cons_ne_nil _ _,Nat.le_refl _⟩
noncomputable def oA:By:=[97]
noncomputable def oB:By:=[98,13,10]
noncomputable def bh:Row→AV
 | .leaf o=>bb o
 | .bare=>gm []
 | .many w p=>gm (eE w (bb oA) (bh p) (bb oB))
 | .lett p=>letterA (bh p)
noncomputable def enc:Row→By
 | .leaf o=>aB o
 | .bare=>[]
 | .many w p=>encM (eE w (aB oA) (enc p) (aB oB))
 | .lett p=>FT++(jP++enc p)
noncomputable def Good:Row→Prop
 | .leaf o=>o.length<600
 | .bare=>False
 | .many w p=>Good p∧oV (eE w (aB oA) (enc p) (aB oB))
 | .lett p=>Good p∧(enc p).length<80000
noncomputable def deep:Row→Nat
 | .leaf _=>0
 | .bare=>0
 | .many _ p=>deep p+1
 | .lett p=>deep p+1
noncomputable def dc:Row→Nat
 | .leaf _=>0
 | .bare=>1
 | .many _ p=>dc p+1
 | .lett p=>dc p+1
noncomputable def size:Row→Nat
 | .leaf _=>1
 | .bare=>1
 | .many _ p=>size p+2
 | .lett p=>size p+1
noncomputable def mG:Row→Bool
 | .leaf _=>false
 | .bare=>true
 | .many _ p=>mG p
 | .lett p=>mG p
theorem aJ:∀p:Row,Inst (bh p)
 | .leaf _=>⟨_,_,_,rfl⟩
 | .bare=>⟨_,_,_,rfl⟩
 | .many _ _=>⟨_,_,_,rfl⟩
 | .lett _=>⟨_,_,_,rfl⟩
theorem rP (o:By):Inst (bb o):=⟨_,_,_,rfl⟩
theorem PM {d m k:Nat} (hk:k≤15) (h:14+3*(d+1)≤m+k):14+3*d≤m+12:=Nat.le_of_add_le_add_right (b:=3) (Nat.le_trans h (Nat.add_le_add_left hk m))
theorem Bf {d m:Nat} (h:14+3*d≤m):14≤m:=Nat.le_trans (Nat.le_add_right _ _) h
theorem tO {n:Nat} {o:By} (ho:o.length<40000) (h:14≤n):Rn n (.fn 169) [bb o] (.bytes (aB o)):=by
 obtain⟨m,rfl⟩:=Nat.exists_eq_add_of_le' h;exact xg ho
theorem MO:oA.length<40000∧oB.length<40000:=⟨Nat.lt_trans (Nat.lt_succ_self 1) (by decide),Nat.lt_trans (Nat.lt_succ_self 3) (by decide)⟩
theorem AW {m w:Nat} {a:AV} {b:By} (ha:Inst a) (hb:Rn (m+12) (.fn 169) [a] (.bytes b)) (hl:14≤m+12) (hg:oV (eE w (aB oA) b (aB oB))):Rn (m+14) (.fn 169) [gm (eE w (bb oA) a (bb oB))] (.bytes (encM (eE w (aB oA) b (aB oB)))):=by
 have h1:=j7 (a:=(bb oA,aB oA)) (x:=(a,b)) (b:=(bb oB,aB oB)) (λp=>p.1) w;have h2:=j7 (a:=(bb oA,aB oA)) (x:=(a,b)) (b:=(bb oB,aB oB)) (λp=>p.2) w;have k1:Inst (bb oA,aB oA).1∧Rn (m+12) (.fn 169) [(bb oA,aB oA).1] (.bytes (bb oA,aB oA).2):=⟨rP oA,tO MO.1 hl⟩;have k2:=oX (P:=λp:AV×By=>Inst p.1∧Rn (m+12) (.fn 169) [p.1] (.bytes p.2)) w k1 (x:=(a,b)) (And.intro ha hb) (b:=(bb oB,aB oB)) ⟨rP oB,tO MO.2 hl⟩;have:=wO (n:=m) (fb w).1 (Nat.le_trans (fb w).2 (by decide)) k2 (h2.symm▸hg);rw[h1,h2] at this;exact this
theorem kM (w:Nat) (p:Row):bh (.many w p)=gm (eE w (bb oA) (bh p) (bb oB))∧enc (.many w p)=encM (eE w (aB oA) (enc p) (aB oB)):=⟨rfl,rfl⟩
theorem ki (p:Row):bh (.lett p)=letterA (bh p)∧enc (.lett p)=FT++(jP++enc p):=⟨rfl,rfl⟩
theorem Ak (p:Row):Good p→∀{n},14+3*deep p≤n→Rn n (.fn 169) [bh p] (.bytes (enc p)):=by
 induction p with
 |leaf o=>exactλh n hn=>tO (Nat.lt_trans h (by decide)) hn
 |bare=>exactλh=>h.elim
 |many w p ih=>
  intro h n hn;obtain⟨m,rfl⟩:=Nat.exists_eq_add_of_le' (Bf hn);have hm:14+3*deep p≤m+12:=PM (by decide) hn;rw[(kM w p).1,(kM w p).2];exact AW (aJ p) (ih h.1 hm) (Bf hm) h.2
 |lett p ih=>
  intro h n hn;obtain⟨m,rfl⟩:=Nat.exists_eq_add_of_le' (Nat.le_trans (show 15≤14+3*(deep p+1) from Nat.add_le_add_left (Nat.succ_pos (3*deep p+2)) 14) hn);rw[(ki p).1,(ki p).2];exact sf (aJ p) (ih h.1 (PM (Nat.le_refl _) hn)) h.2
set_option tactic.hygienic false
noncomputable def pr (a:AV) (z:Nat):AV:= .tup [a,.int z]
structure MF where
 st:List AV
 x:Option AV
 y:Option AV
noncomputable def Ih (a:AV) (s:MF):Loc×List AV:=(L (.fn 172) [some a,some (.int 20),some (.ref 0),s.x,s.y],[.lst s.st])
noncomputable abbrev LG (n:Nat) (a:AV) (s:MF):Option ar:=(tW (En n (.fn 172)) 0 (aK (.fn 172) [1]) (Ih a s).1 (Ih a s).2).p
noncomputable abbrev F9:Expr:=ng (.fn 172) [1,0,2] [0,1]
section
variable {n z:Nat} {a b:AV} {l ks:List AV} {x y:Option AV}
theorem Mb (l:List AV) (b:AV):((l++[b]).getLastD .none,AV.lst (l++[b]).dropLast)=(b,.lst l):=by
 rw[List.dropLast_concat,List.getLastD_concat]
theorem ne_is (l:List AV) (b:AV):(l++[b]).isEmpty=false:=by cases l<;>rfl
noncomputable def P2 (l:List AV) (b:AV):List Ev:=
 have e:(!(([]:List AV).isEmpty&&(l++[b]).isEmpty))=true:=by rw[ne_is];rfl
 have e2:(!(l++[b]).isEmpty)=true:=by rw[ne_is];rfl
 [eT,eB e,eG e2,eW (Mb l b)]
theorem y4 (hk:∀k∈ks,Inst k):mL (En n (.fn 172)) F9 ks (LX F9 [none,none,some (.int z)]) [.lst l]=some (.ok (ks.map λk=>pr k (z+1)) [.lst l]):=by
 have:=bW (C:=En n (.fn 172)) (e:=F9) (S:=[.lst l]) (enc:=λv=>LX F9 [none,v,some (.int z)]) (h:=id) (λk=>pr k (z+1)) (λ_ k=>some k) ks none λk m v=>by
  obtain⟨c,ns,vs,rfl⟩:=(hk k m).ex;exact aj [eY,eT] (by kernel_rfl)
 rw[List.map_id] at this;exact this
theorem J8 (ha:Inst a) (hk:∀k∈ks,Inst k) (hp:Rn n (.fn 171) [a] (.lst ks)) (h2:ks.length≤2) (hl:l.length≤100000) (hz:z≠20):LG n b ⟨l++[pr a z],x,y⟩=some (.aY (Ih b ⟨l++ks.map λk=>pr k (z+1),some a,some (.int z)⟩).1 [.lst (l++ks.map λk=>pr k (z+1))]):=by
 have l1:ks.length≤ao:=Nat.le_trans h2 (by decide);have l2:(ks.map λk=>pr k (z+1)).length≤ao:=by rw[List.length_map];exact l1
 have l3:l.length+(ks.map λk=>pr k (z+1)).length≤ao:=by rw[List.length_map];exact Nat.le_trans (Nat.add_le_add hl h2) (by decide)
 have hc:=y4 (n:=n) (z:=z) (l:=l) hk;obtain⟨c,ns,vs,rfl⟩:=ha.ex;exact aj (P2 l (pr (.inst c ns vs) z)++[qF λe=>hz (Int.ofNat.inj e),eN,eC hp,gT l1,eL hc,gT l2,gT l3]) (by kernel_rfl)
theorem GP {o:By} (hp:Rn n (.fn 171) [bb o] (.lst [])) (hl:l.length≤100000):LG n b ⟨l++[pr (bb o) 20],x,y⟩=some (.aY (Ih b ⟨l++[],some (bb o),some (.int 20)⟩).1 [.lst (l++[])]):=
 have hc:=y4 (n:=n) (z:=20) (l:=l) (ks:=[]) λ_ m=>zE m
 aj (P2 l (pr (bb o) 20)++[eY,eT,eT,eN,eN,eC hp,eT,eL hc,eT,gT (show l.length+0≤ao from Nat.le_trans hl (by decide))]) (by kernel_rfl)
theorem yu:LG n b ⟨l++[pr (gm ks) 20],x,y⟩=some .exc:=aj (P2 l (pr (gm ks) 20)++[eY,eT,eT,eY,eY,eT]) (by kernel_rfl)
theorem Gp:LG n b ⟨l++[pr (letterA a) 20],x,y⟩=some .exc:=aj (P2 l (pr (letterA a) 20)++[eY,eT,eT,eY,eY,eT]) (by kernel_rfl)
noncomputable def kids:Row→List Row
 | .leaf _=>[]
 | .bare=>[]
 | .many w p=>eE w (.leaf oA) p (.leaf oB)
 | .lett p=>[p]
theorem Ji (n:Nat) (q:Row):Rn (n+1) (.fn 171) [bh q] (.lst ((kids q).map bh)):=by
 cases q with
 |leaf o=>exact aa [eT,eN,eT,eN,eT] (by kernel_rfl)
 |bare=>exact aa [eT,eY] (by kernel_rfl)
 |many w p=>
  refine(show(kids (.many w p)).map bh=eE w (bb oA) (bh p) (bb oB) from j7 bh w).symm▸?_;exact aa [eT,eY] (by kernel_rfl)
 |lett p=>
  show Rn (n+1) (.fn 171) [letterA (bh p)] (.lst [bh p]);obtain⟨c,ns,vs,e⟩:=(aJ p).ex;refine e.symm▸?_;exact aa [eT,eN,eT,eY,eT] (by kernel_rfl)
theorem K4 (q:Row):(kids q).length≤2:=by
 cases q with
 |leaf o=>exact Nat.zero_le _
 |bare=>exact Nat.zero_le _
 |many w p=>exact(fb w).2
 |lett p=>exact Nat.le_succ 1
noncomputable def hG (st:List (Row×Nat)):Nat:=(st.map λe=>size e.1).sum
theorem iT (a b:List (Row×Nat)):hG (a++b)=hG a+hG b:=by
 unfold hG;rw[List.map_append,List.sum_append]
theorem mI (q:Row) (z:Nat):hG ((kids q).map λk=>(k,z))<size q:=by
 cases q with
 |leaf o=>exact Nat.succ_pos _
 |bare=>exact Nat.succ_pos _
 |many w p=>
  refine gC (P:=λl=>hG (l.map λk=>(k,z))<size p+2) w ?_ ?_ ?_
  ·exact Nat.lt_of_lt_of_le (Nat.lt_succ_self _) (Nat.le_succ _)
  ·exact Nat.lt_of_le_of_lt (Nat.le_of_eq (Nat.add_comm 1 _)) (Nat.lt_succ_self _)
  ·exact Nat.lt_succ_self _
 |lett p=>exact Nat.lt_succ_self _
theorem size_pos (q:Row):0<size q:=Nat.lt_of_le_of_lt (Nat.zero_le _) (mI q 0)
theorem CW:∀st:List (Row×Nat),st.length≤hG st:=by
 intro st
 induction st with
 |nil=>
  exact Nat.le_refl _
 |cons e st ih=>
  exact Nat.le_trans (Nat.succ_le_succ (ih)) (Nat.le_trans (Nat.le_of_eq (Nat.add_comm _ 1)) (Nat.add_le_add_right (size_pos e.1) _))
noncomputable def tU (st:List (Row×Nat)):Prop:=∃e∈st,20<dc e.1+e.2
theorem iH {a b:List (Row×Nat)}:tU (a++b)↔tU a∨tU b:=by
 unfold tU;simp only[List.mem_append,or_and_right,exists_or]
theorem cZ {q:Row} {z:Nat}:tU [(q,z)]↔20<dc q+z:=⟨λ⟨_,m,h⟩=>by rw[List.mem_singleton.mp m] at h;exact h,λh=>⟨_,List.mem_singleton.mpr rfl,h⟩⟩
theorem Aa {q:Row} {z:Nat} (hz:z<20):tU ((kids q).map λk=>(k,z+1))↔20<dc q+z:=by
 have leaf:∀o,¬20<dc (.leaf o)+(z+1):=λo h=>absurd h (Nat.not_lt.mpr ((Nat.zero_add _).symm▸hz))
 have e:∀p:Row,dc p+(z+1)=dc p+1+z:=λp=>(Nat.add_right_comm _ 1 z).symm
 cases q with
 |leaf o=>exact⟨λ⟨_,m,_⟩=>(zE m),λh=>absurd h (Nat.not_lt.mpr ((Nat.zero_add z).symm▸Nat.le_of_lt hz))⟩
 |bare=>exact⟨λ⟨_,m,_⟩=>(zE m),λh=>absurd h (Nat.not_lt.mpr (Nat.add_comm 1 z▸hz))⟩
 |many w p=>
  refine gC (P:=λl=>tU (l.map λk=>(k,z+1))↔20<dc p+1+z) w ?_ ?_ ?_
  ·exact e p▸cZ
  ·exact(iH (a:=[_]) (b:=[_])).trans ((or_congr cZ cZ).trans (e p▸⟨λh=>h.resolve_left (leaf oA),.inr⟩))
  ·exact(iH (a:=[_]) (b:=[_])).trans ((or_congr cZ cZ).trans (e p▸⟨λh=>h.resolve_right (leaf oB),.inl⟩))
 |lett p=>exact(e p)▸cZ
end
noncomputable def Gi (e:Row×Nat):AV:=pr (bh e.1) e.2
structure Qz (B:Prop) (st:List (Row×Nat)) (s:MF):Prop where
 eq:s.st=st.map Gi
 bad:tU st↔B
 le:∀e∈st,e.2≤20
 sz:hG st≤100000
noncomputable def OR (b:AV) (B:Prop) (q:ar):Prop:=(B∧q= .exc)∨(¬B∧∃x y,q= .aY (Ih b ⟨[],x,y⟩).1 [.lst []])
theorem IV {n:Nat} {b:AV} {B:Prop} (st:List (Row×Nat)) (s:MF) (h:Qz B st s):∃q,LG (n+1) b s=some q∧Nx (λp:List (Row×Nat)×MF=>Ih b p.2) (λp=>Qz B p.1 p.2∧hG p.1<hG st) (OR b B) q:=by
 obtain⟨S,x,y⟩:=s;obtain⟨e1,h2,h3,h4⟩:=h;dsimp only at e1;subst e1;refine cps λG kf=> ?_
 rcases List.eq_nil_or_concat st with rfl|⟨l,⟨q,z⟩,e⟩
 ·exact kf ⟨_,aj (a:= .brk (Ih b ⟨[],x,y⟩).1 [.lst []]) [eT,eN] (by kernel_rfl),.brk (.inr ⟨λz=>(h2.mpr z).elim λ_ h=>(nomatch h.1),x,y,rfl⟩)⟩
 ·rw[List.concat_eq_append] at e;subst e;rw[iT] at h4;have hz:=h3 (q,z) (List.mem_append_right _ List.mem_cons_self);have hl:(l.map Gi).length≤100000:=by rw[List.length_map];exact Nat.le_trans (CW l) (Nat.le_trans (Nat.le_add_right _ _) h4)
  have em:(l++[(q,z)]).map Gi=l.map Gi++[pr (bh q) z]:=List.map_append;have hk:((kids q).map bh).map (λk=>pr k (z+1))=((kids q).map λk=>(k,z+1)).map Gi:=by rw[List.map_map,List.map_map];rfl
  have sq:hG [(q,z)]=size q:=Nat.add_zero _;rw[em] at kf;have go:(tU ((kids q).map λk=>(k,z+1))↔20<dc q+z)→(∀k∈kids q,z+1≤20)→LG (n+1) b ⟨l.map Gi++[pr (bh q) z],x,y⟩=some (.aY (Ih b ⟨l.map Gi++((kids q).map bh).map (λk=>pr k (z+1)),some (bh q),some (.int z)⟩).1 [.lst (l.map Gi++((kids q).map bh).map λk=>pr k (z+1))])→G:=λhb hz2 ht=>
   kf ⟨_,ht,.inl ⟨(l++(kids q).map λk=>(k,z+1),⟨_,_,_⟩),rfl,⟨by rw[hk,List.map_append],by rw[←h2,iH,iH,hb,cZ],λe m=>(List.mem_append.mp m).elim (λm=>h3 e (List.mem_append_left _ m)) λm=>(List.mem_map.mp m).elim λk h=>h.2▸hz2 k h.1,
    by rw[iT];exact Nat.le_trans (Nat.add_le_add_left (Nat.le_of_lt (mI q _)) _) (sq▸h4)⟩,by rw[iT,iT,sq];exact Nat.add_lt_add_left (mI q _) _⟩⟩
  have exc:20<dc q+z→LG (n+1) b ⟨l.map Gi++[pr (bh q) z],x,y⟩=some .exc→G:=λhd ht=>kf ⟨_,ht,.exc (.inl ⟨h2.mp (iH.mpr (.inr (cZ.mpr hd))),rfl⟩)⟩
  by_cases q20:z=20
  ·subst q20;cases q with
   |leaf o=>exact go ⟨λ⟨_,m,_⟩=>(zE m),λh=>absurd (show 20<0+20 from h) (by decide)⟩ (λ_ m=>zE m) (GP (Ji n (.leaf o)) hl)
   |bare=>exact exc (by decide) yu
   |many w p=>exact exc (Nat.lt_of_lt_of_le (Nat.lt_succ_self 20) (Nat.add_le_add_right (Nat.succ_pos _) 20|>Nat.le_trans (Nat.le_of_eq (Nat.add_comm 20 1)))) yu
   |lett p=>exact exc (Nat.lt_of_lt_of_le (Nat.lt_succ_self 20) (Nat.add_le_add_right (Nat.succ_pos _) 20|>Nat.le_trans (Nat.le_of_eq (Nat.add_comm 20 1)))) Gp
  ·have zl:=Nat.lt_of_le_of_ne hz q20;exact go (Aa zl) (λ_ _=>zl) (J8 (aJ q) (λk m=>(List.mem_map.mp m).elim λr h=>h.2▸aJ r) (Ji n q) (by rw[List.length_map];exact K4 q) hl q20)
theorem ie (n:Nat) (p:Row) (hs:size p<100000):run (n+2) (.fn 172) [bh p,.int 20] none=some (if 20<dc p then .exc else .ret .none false none):=by
 obtain⟨q,e,h⟩:=jQ (C:=En (n+1) (.fn 172)) (k:=0) (st:=aK (.fn 172) [1]) (enc:=λs:List (Row×Nat)×MF=>Ih (bh p) s.2) (Q:=OR (bh p) (20<dc p)) (λs=>Qz (20<dc p) s.1 s.2) (λs=>hG s.1) (λs i=>IV s.1 s.2 i) WF ([(p,0)],⟨[pr (bh p) 0],none,none⟩) ⟨rfl,cZ,λe m=>by rw[List.mem_singleton.mp m];exact Nat.zero_le _,Nat.le_of_lt (Nat.lt_of_le_of_lt (Nat.le_of_eq (Nat.add_zero _)) hs)⟩ (Nat.lt_of_le_of_lt (Nat.le_of_eq (Nat.add_zero _)) hs);obtain⟨c,ns,vs,er⟩:=(aJ p).ex;dsimp only at e;rw[er] at e⊢;rcases h with⟨hb,rfl⟩|⟨hb,x,y,rfl⟩
 ·rw[if_pos hb];exact aa [eT,eT,eS e] (by kernel_rfl)
 ·rw[if_neg hb];rw[er] at e;exact aa [eT,eT,eS e] (by kernel_rfl)
set_option tactic.hygienic false
section
variable {C:ay} {e:Expr} {x v a:AV} {xs:List AV} {r r':Loc} {S S':List AV} {m n w:Nat} {p:Row}
theorem pB (h:(C5 C e x r S).p=some .exc):mL C e (x::xs) r S=some .exc:=by rw[pg,Cs,h];rfl
theorem HS (h:(C5 C e x r S).p=some (.ok (some v,r') S')) (k:mL C e xs r' S'=some .exc):mL C e (x::xs) r S=some .exc:=by rw[pg] at k;rw[pg,Cs,h];exact congrArg (λm=>bD m λvs S=>some (Res.ok (v::vs) S)) k
noncomputable abbrev Rx (n:Nat) (f:Callee) (vs:List AV):Prop:=run n f vs none=some .exc
noncomputable abbrev bX:Expr:=ng (.fn 167) [1] [0]
theorem CB (ha:Inst a) (he:Rx n (.fn 169) [a]) (hn:14≤n):Rx (n+1) (.fn 167) [gm (eE w (bb oA) a (bb oB))]:=by
 have h0:=(fb (a:=bb oA) (x:=a) (b:=bb oB) w);have l1:=Nat.le_trans h0.2 (show 2≤ao by decide);have t1:∀v,(C5 (En n (.fn 167)) bX a (LX bX [none,v]) []).p=some .exc:=by
  obtain⟨c,ns,vs,rfl⟩:=ha.ex;exactλv=>aj [eY,eC he] (by kernel_rfl)
 have hc:mL (En n (.fn 167)) bX (eE w (bb oA) a (bb oB)) (LX bX [none,none]) []=some .exc:=
  gC (P:=λl=>mL (En n (.fn 167)) bX l (LX bX [none,none]) []=some .exc) w (pB (t1 _)) (HS (v:= .bytes (aB oA)) (r':=LX bX [none,some (bb oA)]) (S':=[]) (aj [eY,eC (tO MO.1 hn)] (by kernel_rfl)) (pB (t1 _))) (pB (t1 _))
 generalize eE w (bb oA) a (bb oB)=L at*;have ne:((L.length:Nat):Int)≠0:=λz=>h0.1 (List.eq_nil_of_length_eq_zero (Int.ofNat.inj z))
 exact aa [qF ne,gT l1,eL hc] (by kernel_rfl)
theorem rG {ps:List AV} (h:Rx n (.fn 167) [gm ps]):Rx (n+1) (.fn 169) [gm ps]:=aa [eT,eY,eC h] (by kernel_rfl)
theorem qW (ha:Inst a) (he:Rx (n+12) (.fn 169) [a]):Rx (n+13) (.fn 170) [a,.tup []]:=by
 obtain⟨c,ns,vs,rfl⟩:=ha.ex;exact aa [eC (gZ (n+8)),eT,eT,eC (jH (n+11) Jv MI),eT,eT,eC (BG n),eC he] (by kernel_rfl)
theorem xH (ha:Inst a) (he:Rx (n+12) (.fn 169) [a]):Rx (n+15) (.fn 169) [letterA a]:=by
 have hw:=qW (n:=n) ha he;obtain⟨c,ns,vs,rfl⟩:=ha.ex;have h1:Rx (n+14) (.fn 168) [letterA (.inst c ns vs)]:=aa [eT,eT,eT,eC (iR (n+12) (Str.ofString "message") (Str.ofString "rfc822") [] []),eC (Fb (n+1)),eC hw] (by kernel_rfl);exact aa [eT,eN,eT,eY,eC h1] (by kernel_rfl)
theorem ph (p:Row):mG p=true→∀{n},14+3*deep p≤n→Rx n (.fn 169) [bh p]:=by
 induction p with
 |leaf o=>exactλh=>zC h
 |bare=>
  intro _ n hn;obtain⟨m,rfl⟩:=Nat.exists_eq_add_of_le' (Bf hn);exact rG (n:=m+13) (by kernel_rfl)
 |many w p ih=>
  intro h n hn;obtain⟨m,rfl⟩:=Nat.exists_eq_add_of_le' (Bf hn);have hm:14+3*deep p≤m+12:=PM (by decide) hn;rw[(kM w p).1];exact rG (CB (aJ p) (ih h hm) (Bf hm))
 |lett p ih=>
  intro h n hn;obtain⟨m,rfl⟩:=Nat.exists_eq_add_of_le' (Nat.le_trans (show 15≤14+3*(deep p+1) from Nat.add_le_add_left (Nat.succ_pos (3*deep p+2)) 14) hn);rw[(ki p).1];exact xH (aJ p) (ih h (PM (Nat.le_refl _) hn))
theorem t5:∀p:Row,deep p≤dc p
 | .leaf _=>Nat.le_refl _
 | .bare=>Nat.zero_le _
 | .many _ p=>Nat.succ_le_succ (t5 p)
 | .lett p=>Nat.succ_le_succ (t5 p)
theorem D8 (h:¬20<dc p) (n:Nat):14+3*deep p≤n+78:=Nat.le_trans (Nat.add_le_add_left (Nat.mul_le_mul_left 3 (Nat.le_trans (t5 p) (Nat.le_of_not_lt h))) 14) (Nat.le_trans (show 14+3*20≤78 by decide) (Nat.le_add_left _ _))
theorem C6 (hs:size p<100000) (hg:Good p) (hd:¬20<dc p):Rn (n+80) (.fn 173) [bh p] (.bytes (enc p)):=by
 have cd:=ie (n+77) p hs;have b:=Ak p hg (n:=n+79) (D8 hd (n+1));rw[if_neg hd] at cd;obtain⟨c,ns,vs,e⟩:=(aJ p).ex;rw[e] at cd b⊢;exact aa [eC cd,eC b] (by kernel_rfl)
noncomputable def Px (p:Row):Prop:=20<dc p∨mG p=true
theorem xc (hs:size p<100000) (w:Bool) (h:Px p):Rn (n+81) (.fn 184) [bh p,.bool w] (.bool true):=by
 have cd:=ie (n+77) p hs;refine cps λG kf=> ?_
 have go:Rx (n+80) (.fn 173) [bh p]→Rx (n+80) (.fn 174) [bh p,.tup []]→G:=by
  obtain⟨c,ns,vs,e⟩:=(aJ p).ex;rw[e] at kf⊢;cases w with
  |true=>exactλ_ h2=>kf (aa [eY,eT,eC h2] (by kernel_rfl))
  |false=>exactλh1 _=>kf (aa [eN,eC h1] (by kernel_rfl))
 by_cases q:20<dc p
 ·rw[if_pos q] at cd;obtain⟨c,ns,vs,e⟩:=(aJ p).ex;rw[e] at cd go;exact go (aa [eC cd] (by kernel_rfl)) (aa [eC cd] (by kernel_rfl))
 ·have b:=ph p (h.resolve_left q) (n:=n+79) (D8 q (n+1));have l:=qW (n:=n+66) (aJ p) (ph p (h.resolve_left q) (n:=n+78) (D8 q n));rw[if_neg q] at cd;obtain⟨c,ns,vs,e⟩:=(aJ p).ex;rw[e] at cd b l go;exact go (aa [eC cd,eC b] (by kernel_rfl)) (aa [eC cd,eC l] (by kernel_rfl))
end
set_option tactic.hygienic false
theorem So {C:ay} {k n:Nat} {st:Stmt} {r r':Loc} {S S':List AV} (h:(tW C k st r S).p=some (.brk r' S')) (hn:0<n):mW C k st n r S=some (.aY r' S'):=by
 obtain⟨m,rfl⟩:=Nat.exists_eq_add_of_le' hn;rw[vG,Kd,h];rfl
theorem T7 {C:ay} {k n:Nat} {st:Stmt} {r r1 r':Loc} {S S1 S':List AV} (h:(tW C k st r S).p=some (.aY r1 S1)) (h':(tW C k st r1 S1).p=some (.brk r' S')) (hn:1<n):mW C k st n r S=some (.aY r' S'):=by
 obtain⟨m,rfl⟩:=Nat.exists_eq_add_of_le' hn;rw[vG,Kd,h];exact(vG ..).symm.trans (So h' (Nat.succ_pos m))
section
variable {n hi:Nat} {d p a m q r:By}
theorem jK {i j:Nat} (e:d=p++(m++q)) (h1:i=p.length) (h2:j=p.length+m.length):cut d i j=m:=by rw[h1,h2,dK e]
theorem IZ (e:d=p++(m++q)) (h:hi=p.length+m.length):hi≤d.length:=by rw[h,e,List.length_append,List.length_append];exact Nat.add_le_add_left (Nat.le_add_right _ _) _
theorem wW (e:d=p++((a++13::10::r)++q)) (h:hi=p.length+(a++13::10::r).length) (ha:10∉a) (hL:d.length≤ao):Rn (n+1) (.fn 29) [.bytes d,.int p.length,.int hi] (.tup [.int (p.length+a.length:Nat),.int (p.length+a.length+2:Nat)]):=by
 have hH:hi≤ao:=Nat.le_trans (IZ e h) hL;have e2:a++13::10::r=(a++[13])++10::r:=by rw[List.append_assoc];rfl
 have hf:=nO (d:=d) (p:=p) (hi:=hi) (k:=10) (a:=a++[13]) (b:=r) (q:=q) (e2▸e) (e2▸h) λm=>(List.mem_append.mp m).elim ha λm=>absurd (List.mem_singleton.mp m) (by decide)
 rw[List.length_append] at hf;have e3:d=(p++a)++13::(10::r++q):=by rw[e,List.append_assoc,List.append_assoc];rfl
 have hI:=dh e3;have hg:=bS (x:=0) e3;rw[List.length_append] at hI hg;generalize hk:p.length+a.length=k at*;have hf':findB d [10] p.length hi=(k+1:Nat):=hf.trans (congrArg (λz:Nat=>(z:Int)) (by rw[←hk];exact(Nat.add_assoc _ _ _).symm));have lp:p.length<k+1:=Nat.lt_succ_of_le (hk▸Nat.le_add_right _ _)
 exact aa [eT,MB (Nat.le_trans (Nat.le_trans (Nat.le_of_lt_succ lp) (Nat.le_of_lt hI)) hL) hH,eV (congrArg AV.int hf'),ju (Nat.zero_le (k+1)),gu lp,eV (congrArg AV.int (jM k)),gI hI,eV (congrArg (λc:UInt8=>AV.int c.toNat) hg),eY,eY,eV (congrArg AV.int (jM k))] (by kernel_rfl)
theorem oR (e:d=p++((a++13::10::r)++q)) (h:hi=p.length+(a++13::10::r).length) (ha:10∉a) (hL:d.length≤ao):Rn (n+1) (.fn 29) [.bytes d,.int p.length,.int hi] (.tup [.int (p++a).length,.int (p++a++[13,10]).length]):=by
 rw[List.length_append (as:=p++a),List.length_append];exact wW e h ha hL
noncomputable def r9 (name:By):Prop:=∀n,Rn (n+1) (.fn 30) [.bytes name] (.bool true)
theorem vm (e:d=p++((a++58::r)++q)) (h:hi=p.length+(a++58::r).length) (ha:58∉a) (hL:d.length≤ao) (hk:r9 a):Rn (n+2) (.fn 31) [.bytes d,.int p.length,.int hi] (.int (p.length+a.length:Nat)):=by
 have l1:p.length≤hi:=h▸Nat.le_add_right _ _;have hH:hi≤ao:=Nat.le_trans (IZ e h) hL;have hf:=nO e h ha;have hc:=dK (d:=d) (p:=p) (m:=a) (q:=58::r++q) (by rw[e,List.append_assoc]);exact aa [eT,MB (Nat.le_trans l1 hH) hH,eV (congrArg AV.int hf),Az (Nat.zero_le (p.length+a.length)),eV (congrArg AV.bytes hc),eC (hk n),eY,eY] (by kernel_rfl)
structure iZ where
 nm:By
 l1:By
 l2:Option By
noncomputable def iZ.raw (h:iZ):By:=h.l2.elim h.l1 λc=>h.l1++13::10::c
noncomputable def iZ.text (h:iZ):By:=fld h.nm h.raw
noncomputable def iZ.av (h:iZ):AV:=lL h.nm h.raw
noncomputable def nW (x:UInt8):Prop:=[AV.int 32,.int 9].any (same (.int x.toNat))=false
structure iZ.Good (h:iZ):Prop where
 ok:r9 h.nm
 no58:58∉h.nm
 no10:10∉h.nm++58::h.l1
 hd:∃x r,h.nm=x::r∧nW x
 n2:∀c,h.l2=some c→10∉c∧∃r,c=32::r
noncomputable def texts (F:List iZ):By:=F.flatMap iZ.text
noncomputable abbrev xq (d:By) (a e:AV) (hi o:Nat) (x y z:Option AV):Loc:=L (.fn 32) [some (.bytes d),some a,some e,some (.int hi),some (.ref 0),some (.int o),x,y,z]
variable {o co la lt la2 lt2:Nat} {A e:AV} {x y z:Option AV} {S:List AV}
noncomputable abbrev SE (n:Nat) (S:List AV) (r:Loc):Option ar:=(tW (En n (.fn 32)) 0 (aK (.fn 32) [3,0,4]) r S).p
theorem BK {x:UInt8} (e1:d=p++x::r) (h:nW x) (hl:p.length<hi):SE n S (xq d A e hi o (some (.int la)) (some (.int p.length)) (some (.int co)))=some (.brk (xq d A e hi o (some (.int la)) (some (.int p.length)) (some (.int co))) S):=
 aj [gu hl,gI (dh e1),eV (congrArg (λc:UInt8=>AV.int c.toNat) (bS (x:=0) e1)),eT,eB h,eN] (by kernel_rfl)
theorem Kf (e1:d=p++32::r) (hl:p.length<hi) (h:Rn n (.fn 29) [.bytes d,.int p.length,.int hi] (.tup [.int la2,.int lt2])):SE n S (xq d A e hi o (some (.int la)) (some (.int p.length)) (some (.int co)))=some (.aY (xq d A e hi o (some (.int la2)) (some (.int lt2)) (some (.int co))) S):=
 aj [gu hl,gI (dh e1),eV (congrArg (λc:UInt8=>AV.int c.toNat) (bS (x:=0) e1)),eT,eY,eY,eC h] (by kernel_rfl)
noncomputable abbrev P5 (n:Nat) (acc:List AV) (r:Loc):Option ar:=(tW (En n (.fn 32)) 0 (aK (.fn 32) [3]) r [.lst acc]).p
theorem La {acc:List AV} (h1:o<hi) (hl:Rn n (.fn 29) [.bytes d,.int o,.int hi] (.tup [.int o,.int lt])):P5 n acc (xq d A e hi o x y z)=some (.ret (.tup [.lst acc,.int lt]) false [.lst acc]):=aj [gu h1,eC hl,qT (Eq.refl (o:Int))] (by kernel_rfl)
theorem IW {acc:List AV} {nm raw:By} (h1:o<hi) (hl:Rn (n+1) (.fn 29) [.bytes d,.int o,.int hi] (.tup [.int la,.int lt])) (h2:la≠o) (hc:Rn (n+1) (.fn 31) [.bytes d,.int o,.int la] (.int co))
 (hw:mW (En (n+1) (.fn 32)) 0 (aK (.fn 32) [3,0,4]) WF (xq d A e hi o (some (.int la)) (some (.int lt)) (some (.int co))) [.lst acc]=some (.aY (xq d A e hi o (some (.int la2)) (some (.int lt2)) (some (.int co))) [.lst acc]))
 (c1:cut d o co=nm) (c2:cut d (co+1:Nat) la2=raw) (ha:acc.length<ao):P5 (n+1) acc (xq d A e hi o x y z)=some (.aY (xq d A e hi lt2 (some (.int la2)) (some (.int lt2)) (some (.int co))) [.lst (acc++[.tup [lL nm raw,.int o,.int lt2]])]):=
 aj [gu h1,eC hl,qF λe=>h2 (Int.ofNat.inj e),eC hc,ju (Nat.zero_le co),eS hw,eV (congrArg AV.bytes c1),eK,eV (congrArg AV.bytes c2),eC (jH n nm raw),eT,gT ha] (by kernel_rfl)
end
set_option tactic.hygienic false
theorem ap {a b c:By}:a++b++c=a++(b++c):=List.append_assoc a b c
section
variable {n hi:Nat} {d p q q2 nm l1 raw rest r c:By} {A e:AV} {x y z:Option AV} {acc:List AV} {w:UInt8}
noncomputable def PY (n hi:Nat) (d p nm raw:By) (A e:AV) (acc:List AV) (x y z:Option AV):Prop:=
 ∃x' y' z',P5 (n+2) acc (xq d A e hi p.length x y z)=some (.aY (xq d A e hi (p++fld nm raw).length x' y' z') [.lst (acc++[.tup [lL nm raw,.int p.length,.int (p++fld nm raw).length]])])
theorem Nz (g1:r9 nm) (g2:58∉nm) (g3:10∉nm++58::l1) (e1:d=p++((nm++58::l1++13::10::rest)++q)) (hh:hi=p.length+(nm++58::l1++13::10::rest).length) (e2:d=(p++nm++[58])++(raw++q2)) (hL:d.length≤ao) (ha:acc.length<ao)
 (hw:mW (En (n+2) (.fn 32)) 0 (aK (.fn 32) [3,0,4]) WF (xq d A e hi p.length (some (.int (p++(nm++58::l1)).length)) (some (.int (p++(nm++58::l1)++[13,10]).length)) (some (.int (p++nm).length))) [.lst acc]=
  some (.aY (xq d A e hi p.length (some (.int (p++(nm++58::raw)).length)) (some (.int (p++fld nm raw).length)) (some (.int (p++nm).length))) [.lst acc])):PY n hi d p nm raw A e acc x y z:=by
 have la:=oR (n:=n+1) e1 hh g3 hL;have e3:d=p++((nm++58::l1)++(13::10::rest++q)):=by rw[e1,ap]
 have co:=vm (n:=n) e3 (List.length_append (as:=p)) g2 hL g1;rw[←List.length_append] at co;have hl:p.length<hi:=hh▸Nat.lt_add_of_pos_right (by rw[ap,List.length_append];exact Nat.lt_of_lt_of_le (Nat.succ_pos _) (Nat.le_add_left _ _))
 have ne:(p++(nm++58::l1)).length≠p.length:=Nat.ne_of_gt (by rw[List.length_append,List.length_append];exact Nat.lt_add_of_pos_right (Nat.lt_of_lt_of_le (Nat.succ_pos _) (Nat.le_add_left _ _)));have c1:=jK (i:=p.length) (j:=(p++nm).length) (d:=d) (p:=p) (m:=nm) (q:=58::(raw++q2)) (by rw[e2,ap,ap];rfl) rfl List.length_append;have c2:=jK (i:=(p++nm).length+1) (j:=(p++(nm++58::raw)).length) e2 (List.length_append (bs:=[58])).symm (by rw[←List.length_append,ap,ap];rfl);exact⟨_,_,_,IW (n:=n+1) hl la ne co hw c1 c2 ha⟩
theorem CG (p nm raw:By):p++fld nm raw=p++(nm++58::raw)++[13,10]:=ap.symm
theorem OU (g1:r9 nm) (g2:58∉nm) (g3:10∉nm++58::l1) (hd:d=p++((fld nm l1++w::r)++q)) (hh:hi=p.length+(fld nm l1++w::r).length) (hx:nW w) (hL:d.length≤ao) (ha:acc.length<ao):PY n hi d p nm l1 A e acc x y z:=by
 have e1:fld nm l1++w::r=nm++58::l1++13::10::(w::r):=ap;have e2:d=(p++fld nm l1)++w::(r++q):=by rw[hd,ap,ap];rfl
 have e3:(p++fld nm l1).length<hi:=by rw[hh,←List.length_append,←ap,List.length_append (as:=p++_)];exact Nat.lt_add_of_pos_right (Nat.succ_pos _)
 rw[e1] at hd hh;refine Nz g1 g2 g3 hd hh (q2:=13::10::w::r++q) (by rw[hd,ap,ap,ap,ap];rfl) hL ha ?_;rw[CG] at e2 e3⊢;exact So (BK e2 hx e3) (by decide)
theorem Om (g1:r9 nm) (g2:58∉nm) (g3:10∉nm++58::l1) (gc:10∉32::c) (hd:d=p++((fld nm (l1++13::10::32::c)++w::r)++q)) (hh:hi=p.length+(fld nm (l1++13::10::32::c)++w::r).length) (hx:nW w) (hL:d.length≤ao) (ha:acc.length<ao):PY n hi d p nm (l1++13::10::32::c) A e acc x y z:=by
 have e1:fld nm (l1++13::10::32::c)++w::r=nm++58::l1++13::10::(32::c++13::10::(w::r)):=by unfold fld;rw[ap,ap,ap];exact congrArg (λl=>nm++58::l) ap
 have e2:d=(p++fld nm (l1++13::10::32::c))++w::(r++q):=by rw[hd,ap,ap];rfl
 have e3:(p++fld nm (l1++13::10::32::c)).length<hi:=by rw[hh,←List.length_append,←ap,List.length_append (as:=p++_)];exact Nat.lt_add_of_pos_right (Nat.succ_pos _)
 have e4:p++(nm++58::(l1++13::10::32::c))=p++(nm++58::l1)++[13,10]++32::c:=by rw[ap,ap,ap];rfl
 rw[e1] at hd hh;have e5:d=(p++(nm++58::l1)++[13,10])++((32::c++13::10::(w::r))++q):=by rw[hd,ap,ap,ap,ap,ap];rfl
 have h5:hi=(p++(nm++58::l1)++[13,10]).length+(32::c++13::10::(w::r)).length:=by rw[hh,←List.length_append,←List.length_append];exact congrArg List.length (by rw[ap (c:=32::c++_),ap (a:=p)];rfl)
 have la:=oR (n:=n+1) e5 h5 gc hL;refine Nz g1 g2 g3 hd hh (q2:=13::10::w::r++q) (by rw[hd];simp only[List.append_assoc,List.cons_append,List.nil_append]) hL ha ?_;rw[CG] at e2 e3⊢;rw[e4] at e2 e3⊢;have l5:(p++(nm++58::l1)++[13,10]).length<hi:=h5▸Nat.lt_add_of_pos_right (Nat.succ_pos _)
 exact T7 (Kf e5 l5 la) (BK e2 hx e3) (by decide)
theorem E5 {h:iZ} (g:h.Good) (hd:d=p++((h.text++w::r)++q)) (hh:hi=p.length+(h.text++w::r).length) (hx:nW w) (hL:d.length≤ao) (ha:acc.length<ao):PY n hi d p h.nm h.raw A e acc x y z:=by
 obtain⟨nm,l1,l2⟩:=h;cases l2 with
 |none=>exact OU g.ok g.no58 g.no10 hd hh hx hL ha
 |some c=>
  obtain⟨n10,c',hc⟩:=g.n2 c rfl;rw[hc] at n10 hd hh⊢;exact Om g.ok g.no58 g.no10 n10 hd hh hx hL ha
end
set_option tactic.hygienic false
noncomputable def Bb (e:AV×Nat×Nat):AV:= .tup [e.1,.int e.2.1,.int e.2.2]
noncomputable def ef (F:List iZ) (body:By):By:=texts F++13::10::body
structure Nc where
 p:By
 acc:List (AV×Nat×Nat)
 x:Option AV
 y:Option AV
 z:Option AV
structure QT (d q body:By) (hi:Nat) (X:List AV) (P:By) (F:List iZ) (s:Nc):Prop where
 hd:d=s.p++(ef F body++q)
 hh:hi=s.p.length+(ef F body).length
 hF:∀h∈F,h.Good
 hx:s.acc.map (·.1)++F.map iZ.av=X
 hl:s.acc.length+F.length≤100
 hp:s.p++texts F=P
noncomputable def Sx (d:By) (a e:AV) (hi:Nat) (s:Nc):Loc×List AV:=(xq d a e hi s.p.length s.x s.y s.z,[.lst (s.acc.map Bb)])
noncomputable def SP (X:List AV) (k:Nat) (q:ar):Prop:=∃R:List (AV×Nat×Nat),R.map (·.1)=X∧R.length≤100∧q= .ret (.tup [.lst (R.map Bb),.int k]) false [.lst (R.map Bb)]
section
variable {n hi:Nat} {d p q body:By} {F:List iZ}
theorem L8 (hF:∀h∈F,h.Good):∃w r,ef F body=w::r∧nW w:=by
 cases F with
 |nil=>exact⟨_,_,rfl,rfl⟩
 |cons h t=>
  obtain⟨x,r,e,hw⟩:=(hF h List.mem_cons_self).hd;refine⟨x,r++58::h.raw++[13,10]++texts t++13::10::body,?_,hw⟩;unfold ef texts iZ.text fld;rw[List.flatMap_cons,e];rfl
theorem vw (h:iZ) (F:List iZ):ef (h::F) body=h.text++ef F body:=ap
theorem FF {A e:AV} {X:List AV} {P:By} (hL:d.length≤ao) (F:List iZ) (s:Nc) (h:QT d q body hi X P F s):∃r,P5 (n+2) (s.acc.map Bb) (xq d A e hi s.p.length s.x s.y s.z)=some r∧Nx (λs:List iZ×Nc=>Sx d A e hi s.2) (λs=>QT d q body hi X P s.1 s.2∧s.1.length<F.length) (SP X (P++[13,10]).length) r:=by
 obtain⟨p,acc,x,y,z⟩:=s;obtain⟨hd,hh,hF,hx,hl,hp⟩:=h;dsimp only at hd hh hx hl hp⊢;refine cps λG kf=> ?_
 have la:(acc.map Bb).length≤100:=by rw[List.length_map];exact Nat.le_trans (Nat.le_add_right _ _) hl
 cases F with
 |nil=>
  have l:=oR (n:=n+1) (a:=[]) (r:=body) hd hh (λm=>zE m) hL;rw[List.append_nil] at l;have e0:p++[]=P:=hp;rw[List.append_nil] at e0;subst e0;exact kf ⟨_,La (hh▸Nat.lt_add_of_pos_right (Nat.succ_pos _)) l,.ret ⟨acc,by rw[←hx];exact(List.append_nil _).symm,Nat.le_trans (Nat.le_add_right _ _) hl,rfl⟩⟩
 |cons h F=>
  obtain⟨w,r,ew,hw⟩:=L8 (body:=body) λk m=>hF k (List.mem_cons_of_mem _ m)
  rw[vw] at hd hh;have hd':=hd;have hh':=hh;rw[ew] at hd' hh';obtain⟨x',y',z',e⟩:=E5 (n:=n) (A:=A) (e:=e) (x:=x) (y:=y) (z:=z) (hF h List.mem_cons_self) hd' hh' hw hL (Nat.lt_of_le_of_lt la (by decide));have em:acc.map Bb++[Bb (h.av,p.length,(p++h.text).length)]=(acc++[(h.av,p.length,(p++h.text).length)]).map Bb:=(List.map_append (l₂:=[_])).symm;refine kf ⟨_,e,.inl ⟨(F,⟨p++h.text,acc++[(h.av,p.length,(p++h.text).length)],x',y',z'⟩),congrArg (λl=>ar.aY _ [AV.lst l]) em,⟨?_,?_,λk m=>hF k (List.mem_cons_of_mem _ m),?_,?_,ap.trans hp⟩,Nat.lt_succ_self _⟩⟩
  ·rw[hd,ap,ap]
  ·rw[hh,List.length_append,List.length_append (as:=p)];exact(Nat.add_assoc _ _ _).symm
  ·rw[←hx,List.map_append,List.append_assoc];rfl
  ·rw[List.length_append];exact Nat.le_trans (Nat.le_of_eq (Nat.add_right_comm _ 1 _)) hl
theorem qG (hF:∀h∈F,h.Good) (hd:d=p++(ef F body++q)) (hh:hi=p.length+(ef F body).length) (hL:d.length≤ao) (h1:F.length≤100):
 ∃R:List (AV×Nat×Nat),R.map (·.1)=F.map iZ.av∧R.length≤100∧Rn (n+3) (.fn 32) [.bytes d,.int p.length,.int hi] (.tup [.lst (R.map Bb),.int (p++texts F++[13,10]).length]):=by
 obtain⟨r,e,R,hR,hl,rfl⟩:=jQ (C:=En (n+2) (.fn 32)) (k:=0) (st:=aK (.fn 32) [3]) (enc:=λs:List iZ×Nc=>Sx d (.int p.length) (.int hi) hi s.2) (Q:=SP (F.map iZ.av) (p++texts F++[13,10]).length) (λs=>QT d q body hi (F.map iZ.av) (p++texts F) s.1 s.2) (λs=>s.1.length) (λs i=>FF hL s.1 s.2 i) WF (F,⟨p,[],none,none,none⟩) ⟨hd,hh,hF,rfl,Nat.le_trans (Nat.le_of_eq (Nat.zero_add _)) h1,rfl⟩ (Nat.lt_of_le_of_lt h1 (by decide));exact⟨R,hR,hl,aa [ju (Nat.zero_le hi),eT,eS e] (by kernel_rfl)⟩
theorem qf (hF:∀h∈F,h.Good) (hd:d=p++(ef F body++q)) (hh:hi=p.length+(ef F body).length) (hL:d.length≤ao) (h1:F.length≤100):Rn (n+4) (.fn 33) [.bytes d,.int p.length,.int hi] (.tup [.lst (F.map iZ.av),.int (p++texts F++[13,10]).length]):=by
 obtain⟨R,hR,hl,h⟩:=qG (n:=n) hF hd hh hL h1;have l1:(R.map Bb).length≤ao:=by rw[List.length_map];exact Nat.le_trans hl (by decide)
 have l2:(F.map iZ.av).length≤ao:=by rw[List.length_map];exact Nat.le_trans h1 (by decide)
 have hm:∀r∈R,∃a b,r.1=lL a b:=λr m=>by
  have:=List.mem_map_of_mem (f:=λr:AV×Nat×Nat=>r.1) m;rw[hR] at this;obtain⟨h,_,e⟩:=List.mem_map.mp this;exact⟨_,_,e.symm⟩
 have hc:mL (En (n+3) (.fn 33)) (ng (.fn 33) [1] [0,0]) (R.map Bb) (LX (ng (.fn 33) [1] [0,0]) [none,none]) []=some (.ok (F.map iZ.av) []):=by
  rw[←hR];refine bW (enc:=λv=>LX (ng (.fn 33) [1] [0,0]) [none,v]) (λr=>r.1) (λ_ r=>some (Bb r)) R none λr m v=> ?_
  obtain⟨a,b,e⟩:=hm r m;obtain⟨r1,r2,r3⟩:=r;dsimp only at e;subst e;exact aj [eY,eT] (by kernel_rfl)
 exact aa [eC h,gT l1,eL hc,gT l2] (by kernel_rfl)
end
set_option tactic.hygienic false
noncomputable def BD (N:Nat):By:=gb++aR N
section
variable {n N:Nat} {d p q a t:By}
theorem Je (a:By) (k:Nat):cut a 0 (k:Nat)=a.take k:=by
 have:=pz (d:=a) (p:=[]) (r:=a) rfl k;rw[List.length_nil,Nat.zero_add] at this;exact this
theorem Cw (hN:N<15):([45,45]++BD N).length≤ao:=Nat.le_trans (kj hN) (by decide)
theorem EN (N:Nat):AV.bytes ([45,45]++BD N)= .bytes (markB N):=rfl
theorem De (hN:N<15) (h:¬markB N<+:a):Rn (n+1) (.fn 139) [.bytes a,.bytes (BD N)] (.str (Str.ofString "")):=
 have h2:(!(a.take (markB N).length==markB N))=true:=by rw[beq_eq_false_iff_ne.mpr λe=>h (List.prefix_iff_eq_take.mpr e.symm)];rfl
 aa [eT,gT (Cw hN),eV (EN N),eK,eV (congrArg AV.bytes (Je a (markB N).length)),eB h2,eT] (by kernel_rfl)
theorem Jc (N:Nat) (t:By):cut (markB N++t) 0 ((markB N).length:Nat)=markB N∧(!(markB N==markB N))=false∧cut (markB N++t) ((markB N).length:Nat) ((markB N++t).length:Nat)=t:=
 ⟨(Je _ _).trans List.take_left,by rw[beq_self_eq_true];rfl,jK (q:=[]) (by rw[List.append_nil]) rfl List.length_append⟩
theorem vO (hN:N<15):Rn (n+1) (.fn 139) [.bytes (markB N++[]),.bytes (BD N)] (.str (Str.ofString "next")):=
 have h:=Jc N [];aa [eT,gT (Cw hN),eV (EN N),eK,eV (congrArg AV.bytes h.1),eB h.2.1,eK,eV (congrArg AV.bytes h.2.2),eK,eT,eY,eT] (by kernel_rfl)
theorem Ez (hN:N<15):Rn (n+1) (.fn 139) [.bytes (markB N++[45,45]),.bytes (BD N)] (.str (Str.ofString "last")):=
 have h:=Jc N [45,45];aa [eT,gT (Cw hN),eV (EN N),eK,eV (congrArg AV.bytes h.1),eB h.2.1,eK,eV (congrArg AV.bytes h.2.2),eK,eT,eN,eT,eY,eT] (by kernel_rfl)
end
structure Fy where
 acc:List AV
 bg:Int
 b4:Int
 f:Option AV
 l:Option AV
 b:Option AV
 w:Option AV
noncomputable def qi (d:By) (a e:AV) (N:Nat) (s:Fy):Loc×List AV:=(L (.fn 140) [some (.bytes d),some a,some e,some (.bytes (BD N)),some (.ref 0),some (.int s.bg),some (.int s.b4),s.f,s.l,s.b,s.w],[.lst s.acc])
noncomputable def MN (n:Nat) (d:By) (a e:AV) (N f l b:Nat) (s:Fy):Option ar:=(tF (En n (.fn 140)) 0 (aK (.fn 140) [3]) (qk (f,l,b)) (qi d a e N s).1 (qi d a e N s).2).p
noncomputable def Fw (acc:List AV) (bg:Int) (f l b:Nat) (w:String):Fy:=⟨acc,bg,(l:Int),some (.int f),some (.int l),some (.int b),some (sN w)⟩
noncomputable def s8 (e:By×By):AV:= .tup [.int e.1.length,.int (e.1.length+e.2.length:Nat)]
section
variable {n N f l b:Nat} {d line:By} {A E:AV} {s:Fy}
theorem JD (c:cut d f l=line) (h:Rn n (.fn 139) [.bytes line,.bytes (BD N)] (.str (Str.ofString ""))):MN n d A E N f l b s=some (.aY (qi d A E N (Fw s.acc s.bg f l b "")).1 (qi d A E N (Fw s.acc s.bg f l b "")).2):=
 aj [eV (congrArg AV.bytes c),eC h,eT,eN] (by kernel_rfl)
theorem Qy (c:cut d f l=line) (h:Rn n (.fn 139) [.bytes line,.bytes (BD N)] (.str (Str.ofString "next"))) (hb:s.bg= -1):MN n d A E N f l b s=some (.aY (qi d A E N (Fw s.acc b f l b "next")).1 (qi d A E N (Fw s.acc b f l b "next")).2):=
 aj [eV (congrArg AV.bytes c),eC h,eT,eY,eB (show decide (0≤s.bg)=false by rw[hb];rfl),eT,eN] (by kernel_rfl)
theorem mx {i j:Nat} (h:i≤j):(if(i:Int)<(j:Int) then(j:Int) else(i:Int))=(j:Int):=by
 by_cases k:(i:Int)<j
 ·exact if_pos k
 ·rw[if_neg k,Nat.le_antisymm h (Nat.le_of_not_lt λz=>k (Int.ofNat_lt.mpr z))]
variable {acc:List AV} {B:By×By} {x y z w:Option AV}
noncomputable def M9 (acc:List AV) (B:By×By) (x y z w:Option AV):Fy:=⟨acc,(B.1.length:Int),((B.1.length+B.2.length:Nat):Int),x,y,z,w⟩
theorem Q6 (c:cut d f l=line) (h:Rn n (.fn 139) [.bytes line,.bytes (BD N)] (.str (Str.ofString "next"))) (ha:acc.length<ao):MN n d A E N f l b (M9 acc B x y z w)=some (.aY (qi d A E N (Fw (acc++[s8 B]) b f l b "next")).1 (qi d A E N (Fw (acc++[s8 B]) b f l b "next")).2):=
 aj [eV (congrArg AV.bytes c),eC h,eT,eY,Az (Nat.zero_le B.1.length),eV (congrArg AV.int (mx (Nat.le_add_right B.1.length B.2.length))),eT,gT ha,eT,eN] (by kernel_rfl)
theorem Ql (c:cut d f l=line) (h:Rn n (.fn 139) [.bytes line,.bytes (BD N)] (.str (Str.ofString "last"))) (ha:acc.length<ao):MN n d A E N f l b (M9 acc B x y z w)=some (.ret (.lst (acc++[s8 B])) true [.lst (acc++[s8 B])]):=
 aj [eV (congrArg AV.bytes c),eC h,eT,eY,Az (Nat.zero_le B.1.length),eV (congrArg AV.int (mx (Nat.le_add_right B.1.length B.2.length))),eT,gT ha,eT,eY] (by kernel_rfl)
end
set_option tactic.hygienic false
noncomputable def IS (d:By) (R:List (By×By)):Prop:=∀e∈R,∃q,d=e.1++(e.2++q)
noncomputable abbrev NL (N:Nat) (t:By):Prop:=¬sv N t
structure Sk (d q:By) (N:Nat) (bodies:List By) (xs:List (Nat×Nat×Nat)) (P B b:By) (rest:List By) (R:List (By×By)) (s:Fy):Prop where
 hd:d=P++(au rest N++q)
 hx:xs=spans P.length (lines (au rest N))
 hs:∃x y z w,s=M9 (R.map s8) (B,b) x y z w
 hB:∃q,d=B++(b++q)
 hR:IS d R
 hb:R.map (·.2)++b::rest=bodies
 hl:∀b∈rest,NL N b
structure Su (d q:By) (N:Nat) (bodies:List By) (xs:List (Nat×Nat×Nat)) (B u t:By) (rest:List By) (R:List (By×By)) (s:Fy):Prop where
 hd:d=B++u++(t++13::10::au rest N++q)
 hx:xs=spans (B++u).length (lines (t++13::10::au rest N))
 ha:s.acc=R.map s8
 hg:s.bg=B.length
 hR:IS d R
 hb:R.map (·.2)++(u++t)::rest=bodies
 ht:NL N t
 hl:∀b∈rest,NL N b
noncomputable def PI (d q:By) (N:Nat) (bodies:List By) (xs:List (Nat×Nat×Nat)) (s:Fy):Prop:=
 (∃P B b rest R,Sk d q N bodies xs P B b rest R s)∨∃B u t rest R,Su d q N bodies xs B u t rest R s
noncomputable def Pz (d:By) (bodies:List By) (r:ar):Prop:=∃R:List (By×By),IS d R∧R.map (·.2)=bodies∧r= .ret (.lst (R.map s8)) true [.lst (R.map s8)]
section
variable {n N:Nat} {d p q:By} {A E:AV} {bodies rest:List By} {x:Nat×Nat×Nat} {xs:List (Nat×Nat×Nat)} {s:Fy}
theorem wL (N:Nat):au [] N=(markB N++[45,45,13])++10::[]:=by unfold au;rw[List.flatMap_nil,List.nil_append,ap,ap];rfl
theorem j4 (b:By) (rest:List By) (N:Nat):au (b::rest) N=(markB N++[13])++10::(b++13::10::au rest N):=by
 unfold au eF;rw[List.flatMap_cons];simp only[List.append_assoc];rfl
theorem R2:10∉markB N:=sL N (by decide) (by decide)
theorem Ki {r:By} (h:10∉p):lines ((p++[13])++10::r)=(p,(p++[13]).length+1)::lines r:=by
 rw[cP λm=>(List.mem_append.mp m).elim h λm=>absurd (List.mem_singleton.mp m) (by decide),nM]
theorem Ib (a:By):∃u,a=nC a++u:=by
 rcases gO a with rfl|⟨y,c,rfl⟩
 ·exact⟨[],rfl⟩
 ·by_cases h:c=13
  ·rw[h,nM];exact⟨_,rfl⟩
  ·rw[ub h];exact⟨[],(List.append_nil _).symm⟩
theorem Kp {a b:By} (h:10∉a) (k:NL N (a++10::b)):¬markB N<+:nC a∧NL N b:=by
 unfold NL sv at*;rw[cP h] at k;exact⟨λm=>k ⟨_,List.mem_cons_self,m⟩,λ⟨x,m,e⟩=>k ⟨x,List.mem_cons_of_mem _ m,e⟩⟩
theorem Ll {a:By} (h:10∉a) (k:NL N a):¬markB N<+:a:=λm=>by
 by_cases e:a=[]
 ·rw[e] at m;exact absurd (List.prefix_nil.mp m) (λz=>zG z)
 ·exact k ⟨(a,a.length),by rw[gH h e];exact List.mem_cons_self,m⟩
theorem yT (P a:By):P.length+((a++[13]).length+1)=(P++(a++[13,10])).length:=by rw[List.length_append (as:=P),List.length_append (bs:=[13]),List.length_append (bs:=[13,10])];rfl
theorem yW {P b:By} {R:List (By×By)} (hd:d=P++(au (b::rest) N++q)) (hR:IS d R) (hb:R.map (·.2)++b::rest=bodies) (hl:∀c∈b::rest,NL N c)
 (H:∀f l k:Nat,cut d f l=markB N++[]→f=P.length→∃w,MN (n+1) d A E N f l k s=some (.aY (qi d A E N (Fw (R.map s8) k f l k w)).1 (qi d A E N (Fw (R.map s8) k f l k w)).2)) (hx:x::xs=spans P.length (lines (au (b::rest) N))):
 ∃r,(tF (En (n+1) (.fn 140)) 0 (aK (.fn 140) [3]) (qk x) (qi d A E N s).1 (qi d A E N s).2).p=some r∧Nx (qi d A E N) (PI d q N bodies xs) (Pz d bodies) r:=by
 rw[j4,Ki R2] at hx;rw[j4] at hd;obtain⟨e1,e2⟩:=List.cons.inj hx;have c:=jK (i:=P.length) (j:=P.length+(markB N).length) (d:=d) (p:=P) (m:=markB N++[]) (q:=13::10::(b++13::10::au rest N)++q) (by rw[hd,ap,ap,ap];rfl) rfl (by rw[List.append_nil]);obtain⟨w,t⟩:=H P.length (P.length+(markB N).length) (P.length+((markB N++[13]).length+1)) c rfl;rw[e1];have el:=yT P (markB N);refine⟨_,t,.inl ⟨_,rfl,.inr ⟨P++(markB N++[13,10]),[],b,rest,R,⟨?_,?_,rfl,congrArg Int.ofNat el,hR,hb,hl b List.mem_cons_self,λc m=>hl c (List.mem_cons_of_mem _ m)⟩⟩⟩⟩
 ·rw[hd,List.append_nil,ap,ap,ap,ap];rfl
 ·rw[e2,List.append_nil,←el]
theorem EA {P B b:By} {R:List (By×By)} (i:Sk d q N bodies (x::xs) P B b rest R s) (hN:N<15) (h9:bodies.length≤100):∃r,(tF (En (n+1) (.fn 140)) 0 (aK (.fn 140) [3]) (qk x) (qi d A E N s).1 (qi d A E N s).2).p=some r∧Nx (qi d A E N) (PI d q N bodies xs) (Pz d bodies) r:=by
 obtain⟨hd,hx,⟨y,z,w,v,rfl⟩,hB,hR,hb,hl⟩:=i;have hR':IS d (R++[(B,b)]):=λe m=>(List.mem_append.mp m).elim (hR e) λm=>List.mem_singleton.mp m▸hB
 have eb:(R++[(B,b)]).map (·.2)++rest=bodies:=by rw[←hb,List.map_append,List.append_assoc];rfl
 have ek:(R++[(B,b)]).map s8=R.map s8++[s8 (B,b)]:=List.map_append;have la:(R.map s8).length<ao:=by
  rw[List.length_map];refine Nat.lt_of_le_of_lt (Nat.le_trans ?_ h9) (show 100<ao by decide);rw[←hb,List.length_append,List.length_map];exact Nat.le_add_right _ _
 cases rest with
 |cons c rest=>exact yW hd hR' eb hl (λf l k hc _=>⟨_,ek▸Q6 hc (vO hN) la⟩) hx
 |nil=>
  rw[wL] at hd hx;rw[show markB N++[45,45,13]=(markB N++[45,45])++[13] from(ap (b:=[45,45]) (c:=[13])).symm,Ki λm=>(List.mem_append.mp m).elim R2 (by decide)] at hx;have e1:=(List.cons.inj hx).1;refine e1.symm▸?_;refine⟨_,Ql (jK (m:=markB N++[45,45]) (q:=13::10::[]++q) (by rw[hd,ap,ap,ap];rfl) rfl rfl) (Ez hN) la,.ret ⟨R++[(B,b)],hR',by rw[List.append_nil] at eb;exact eb,by rw[ek]⟩⟩
theorem DP {acc a2:List AV} {bg:Int} {f l k:Nat} {w:String} {B b:By} (ha:acc=a2) (hg:bg=B.length) (eg:((l:Nat):Int)=((B.length+b.length:Nat):Int)):∃x y z v,Fw acc bg f l k w=M9 a2 (B,b) x y z v:=
 ⟨some (.int f),some (.int l),some (.int k),some (sN w),by unfold Fw M9;rw[ha,hg,eg]⟩
theorem BJ {B u t:By} {R:List (By×By)} (i:Su d q N bodies (x::xs) B u t rest R s) (hN:N<15):∃r,(tF (En (n+1) (.fn 140)) 0 (aK (.fn 140) [3]) (qk x) (qi d A E N s).1 (qi d A E N s).2).p=some r∧Nx (qi d A E N) (PI d q N bodies xs) (Pz d bodies) r:=by
 obtain⟨hd,hx,ha,hg,hR,hb,ht,hl⟩:=i;by_cases m:10∈t
 ·obtain⟨a,t',e,na⟩:=List.eq_append_cons_of_mem m;rw[e] at hd hx hb ht;have k:=Kp na ht;rw[ap,List.cons_append,cP na] at hx;obtain⟨e1,e2⟩:=List.cons.inj hx;obtain⟨v,ev⟩:=Ib a;have el:(B++u).length+(a.length+1)=(B++(u++(a++[10]))).length:=by rw[←ap,List.length_append (as:=B++u),List.length_append (as:=a)];rfl
  have c:=jK (i:=(B++u).length) (j:=(B++u).length+(nC a).length) (d:=d) (p:=B++u) (m:=nC a) (q:=v++(10::t'++13::10::au rest N++q)) (by rw[hd,ap (a:=a),ap (a:=a)];exact congrArg (B++u++·) ((congrArg (·++_) ev).trans ap)) rfl rfl;refine e1.symm▸?_;refine⟨_,JD c (De hN k.1),.inl ⟨_,rfl,.inr ⟨B,u++(a++[10]),t',rest,R,⟨?_,?_,ha,hg,hR,?_,k.2,hl⟩⟩⟩⟩
  ·simp only[hd,List.append_assoc];rfl
  ·rw[e2,←el]
  ·rw[←hb,ap,ap];rfl
 ·have e3:t++13::10::au rest N=(t++[13])++10::au rest N:=(ap (b:=[13])).symm;rw[e3,Ki m] at hx;obtain⟨e1,e2⟩:=List.cons.inj hx;have c:=jK (i:=(B++u).length) (j:=(B++u).length+t.length) (d:=d) (p:=B++u) (m:=t) (q:=13::10::au rest N++q) (by rw[hd,ap (a:=t)]) rfl rfl;refine e1.symm▸?_;have el:=yT (B++u) t;have eg:(((B++u).length+t.length:Nat):Int)=((B.length+(u++t).length:Nat):Int):=congrArg Int.ofNat (by rw[List.length_append,List.length_append,Nat.add_assoc]);refine⟨_,JD c (De hN (Ll m ht)),.inl ⟨_,rfl,.inl ⟨B++u++(t++[13,10]),B,u++t,rest,R,⟨?_,?_,DP ha hg eg,⟨13::10::au rest N++q,?_⟩,hR,hb,hl⟩⟩⟩⟩
  ·rw[hd,ap (a:=B++u),ap (a:=t),ap (a:=t)];rfl
  ·rw[e2,←el]
  ·rw[hd,ap,ap,ap]
end
set_option tactic.hygienic false
noncomputable def NS:List Str:=[Str.ofString "begin",Str.ofString "body",Str.ofString "end",Str.ofString "fields",Str.ofString "kind",Str.ofString "encoding",Str.ofString "kids",Str.ofString "inner"]
noncomputable def bI (b body e:Nat) (fs:List AV) (kind:AV) (en:Str) (kids:List AV) (inner:AV):AV:= .inst 137 NS [.int (b:Int),.int (body:Int),.int (e:Int),.lst fs,kind,.str en,.lst kids,inner]
theorem Th {C:ay} {k:Nat} {st:Stmt} {x:AV} {xs:List AV} {r:Loc} {S S':List AV} {v:AV} {b:Bool} (h:(tF C k st x r S).p=some (.ret v b S')):mF C k st (x::xs) r S=some (.ret v b S'):=by
 rw[n8,I6,h];rfl
section
variable {n N hi:Nat} {d p q:By} {bodies:List By}
theorem yJ {l:By} (h:l≠[]) (o:Nat):∃x xs,spans o (lines l)=x::xs:=by
 by_cases m:10∈l
 ·obtain⟨a,b,e,na⟩:=List.eq_append_cons_of_mem m;rw[e,cP na];exact⟨_,_,rfl⟩
 ·rw[gH m h];exact⟨_,_,rfl⟩
theorem F6 {a b:By} {c:UInt8}:a++c::b≠[]:=λe=>nomatch (List.append_eq_nil_iff.mp e).2
theorem Od {s:Fy}:¬PI d q N bodies [] s:=by
 have h:∀{o:Nat} {l:By},[]=spans o (lines l)→l≠[]→False:=λ{o l} e h=>by
  obtain⟨x,xs,e2⟩:=yJ h o;rw[e2] at e;exact zF e
 rintro (⟨P,B,b,rest,R,i⟩|⟨B,u,t,rest,R,i⟩)
 ·refine h i.hx ?_;cases rest with
  |nil=>rw[wL];exact F6
  |cons b r=>rw[j4];exact F6
 ·exact h i.hx F6
theorem mN {β:Type} {k:Nat} {f g:Nat→β} (h:(List.range k).map f=(List.range k).foldr (λx l=>g x::l) []) {N:Nat} (hN:N<k):f N=g N:=Lb (h.trans List.map_eq_foldr.symm) hN
theorem LM (n:Nat) (hN:N<15):run (n+4) (.fn 141) [.str (dP N)] none=some (.ret (.lst [.bytes (BD N)]) true none):=
 mN (k:=15) (f:=λN=>run (n+4) (.fn 141) [.str (dP N)] none) (g:=λN=>some (.ret (.lst [.bytes (BD N)]) true none)) (by kernel_rfl) hN
theorem MU (hN:N<15):(!seq (dP N) (Str.ofString ""))=true:=Lb (k:=15) (f:=λN=> !seq (dP N) (Str.ofString "")) (g:=λ_=>true) (by kernel_rfl) hN
theorem Oh {C:ay} {k:Nat} {st:Stmt} {α σ:Type} {enc:σ→Loc×List AV} {Q:ar→Prop} {h:α→AV} {x:α} {xs:List α} {s:σ} {r:ar} {I:σ→Prop} (t:(tF C k st (h x) (enc s).1 (enc s).2).p=some r) (m:Nx enc I Q r) (F:∀s,I s→∃q,mF C k st (xs.map h) (enc s).1 (enc s).2=some q∧Q q):∃q,mF C k st ((x::xs).map h) (enc s).1 (enc s).2=some q∧Q q:=by
 rw[n8,List.map_cons,I6,t,←funext λr=>funext λS=>n8 C k st (xs.map h) r S];exact m.go F
theorem qt (hN:N<15) (hd:d=p++(au bodies N++q)) (hh:hi=p.length+(au bodies N).length) (hL:d.length<90000) (hl:∀b∈bodies,NL N b) (h9:bodies.length≤100) (h0:bodies≠[]):
 ∃R:List (By×By),IS d R∧R.map (·.2)=bodies∧run (n+2) (.fn 140) [.bytes d,.int p.length,.int hi,.bytes (BD N)] none=some (.ret (.lst (R.map s8)) true none):=by
 have hs:=ve n hd hh hL;have H:∃r,mF (En (n+1) (.fn 140)) 0 (aK (.fn 140) [3]) ((spans p.length (lines (au bodies N))).map qk) (qi d (.int p.length) (.int hi) N ⟨[],-1,p.length,none,none,none,none⟩).1 (qi d (.int p.length) (.int hi) N ⟨[],-1,p.length,none,none,none,none⟩).2=some r∧Pz d bodies r:=by
  have hF:=bV (C:=En (n+1) (.fn 140)) (k:=0) (st:=aK (.fn 140) [3]) (enc:=qi d (.int p.length) (.int hi) N) (Q:=Pz d bodies) qk (PI d q N bodies) (λx xs s i=>i.elim (λ⟨_,_,_,_,_,i⟩=>EA i hN h9) λ⟨_,_,_,_,_,i⟩=>BJ i hN) λs i=>(Od i).elim
  obtain⟨b,rest,rfl⟩:=List.exists_cons_of_ne_nil h0;obtain⟨x,xs,e⟩:=yJ (l:=au (b::rest) N) (by rw[j4];exact F6) p.length;obtain⟨r,t,hr⟩:=yW (n:=n) (A:= .int p.length) (E:= .int hi) (R:=[]) (s:=⟨[],-1,p.length,none,none,none,none⟩) hd (λ_ m=>zE m) rfl hl (λf l k hc _=>⟨_,Qy hc (vO hN) rfl⟩) e.symm;refine e.symm▸?_;exact Oh t hr (hF xs)
 obtain⟨_,e,R,h1,h2,rfl⟩:=H;exact⟨R,h1,h2,aa [eT,eC hs,eS e] (by kernel_rfl)⟩
theorem sX {b:Nat} {fs kids:List AV} {en:Str} {i:AV} (hN:N<15) (hd:d=p++(au bodies N++q)) (hh:hi=p.length+(au bodies N).length) (hL:d.length<90000) (hl:∀b∈bodies,NL N b) (h9:bodies.length≤100) (h0:bodies≠[]):
 ∃R:List (By×By),IS d R∧R.map (·.2)=bodies∧run (n+5) (.fn 142) [.bytes d,.ref 0] (some (bI b p.length hi fs (qP N) en kids i))=some (.ret (.lst (R.map s8)) false (some (bI b p.length hi fs (qP N) en kids i))):=by
 obtain⟨R,h1,h2,h3⟩:=qt (n:=n+2) hN hd hh hL hl h9 h0;have hR:(!(([]:List AV).isEmpty&&(R.map s8).isEmpty))=true:=by
  cases R with
  |nil=>exact absurd h2.symm h0
  |cons x R=>rfl
 have t:(tF (En (n+4) (.fn 142)) 1 (aK (.fn 142) [1]) (.bytes (BD N)) (L (.fn 142) [some (.bytes d),some (.ref 0),some (.str (dP N))]) [bI b p.length hi fs (qP N) en kids i]).p=some (.ret (.lst (R.map s8)) false [bI b p.length hi fs (qP N) en kids i]):=aj [eC h3,eT,eB hR] (by kernel_rfl);have ht:mF (En (n+4) (.fn 142)) 1 (aK (.fn 142) [1]) [.bytes (BD N)] (L (.fn 142) [some (.bytes d),some (.ref 0),some (.str (dP N))]) [bI b p.length hi fs (qP N) en kids i]=_:=Th t;exact⟨R,h1,h2,aa [eT,eT,eT,eT,eB (MU hN),eC (LM n hN),eS ht] (by kernel_rfl)⟩
end
set_option tactic.hygienic false
noncomputable def MH (mv:Bool):List iZ:=cond mv [⟨Jv,MI,none⟩] []
noncomputable def Ft:Nat→List iZ
 |0=>[⟨CT,Kq,none⟩]
 |1=>[⟨CT,Kq,none⟩,⟨Mp,Ss,none⟩]
 |2=>[⟨CT,Kq,none⟩,⟨Mp,S0,none⟩]
 |3=>[⟨CT,Pg,none⟩]
 |N+4=>[⟨CT,PO,some (PR N)⟩]
noncomputable def Mt:Nat→By
 |3=>Pg.drop 1
 |N+4=>PO.drop 1++PR N
 |_=>Kq.drop 1
noncomputable def Nq:Nat→AV
 |3=>Fo
 |N+4=>qP N
 |_=>vl
noncomputable def Mr:Nat→Nat
 |1=>1
 |2=>2
 |_=>0
noncomputable def Fu (mv:Bool) (i:Nat):List AV:=(MH mv++Ft i).map iZ.av
section
variable {n i:Nat}
theorem NP (mv:Bool) (hi:i<19):Rn (n+5) (.fn 36) [.lst (Fu mv i),.str (Str.ofString "content-type")] (.bytes (Mt i)):=by
 cases mv with
 |false=>exact mN (k:=19) (f:=λi=>run (n+5) (.fn 36) [.lst (Fu false i),.str (Str.ofString "content-type")] none) (g:=λi=>some (.ret (.bytes (Mt i)) false none)) (by kernel_rfl) hi
 |true=>exact mN (k:=19) (f:=λi=>run (n+5) (.fn 36) [.lst (Fu true i),.str (Str.ofString "content-type")] none) (g:=λi=>some (.ret (.bytes (Mt i)) false none)) (by kernel_rfl) hi
noncomputable abbrev KD (n i:Nat):Prop:=Rn (n+12) (.fn 98) [.bytes (Mt i)] (Nq i)
theorem TS (hi:i<4):KD n i:=mN (k:=4) (f:=λi=>run (n+12) (.fn 98) [.bytes (Mt i)] none) (g:=λi=>some (.ret (Nq i) false none)) (by kernel_rfl) hi
theorem TH (n:Nat):KD n 4:=by kernel_rfl
theorem Tb (n:Nat):KD n 5:=by kernel_rfl
theorem TA (n:Nat):KD n 6:=by kernel_rfl
theorem T3 (n:Nat):KD n 7:=by kernel_rfl
theorem Tv (n:Nat):KD n 8:=by kernel_rfl
theorem Tu (n:Nat):KD n 9:=by kernel_rfl
theorem Qd (n:Nat):KD n 10:=by kernel_rfl
theorem Qj (n:Nat):KD n 11:=by kernel_rfl
theorem R4 (n:Nat):KD n 12:=by kernel_rfl
theorem QG (n:Nat):KD n 13:=by kernel_rfl
theorem QN (n:Nat):KD n 14:=by kernel_rfl
theorem RS (n:Nat):KD n 15:=by kernel_rfl
theorem R0 (n:Nat):KD n 16:=by kernel_rfl
theorem RH (n:Nat):KD n 17:=by kernel_rfl
theorem QC (n:Nat):KD n 18:=by kernel_rfl
theorem jD {P:Nat→Prop} {k:Nat} (h:∀i,i<k→P i) (a:P k) (i:Nat) (l:i<k+1):P i:=(Nat.lt_or_eq_of_le (Nat.le_of_lt_succ l)).elim (h i) λe=>e▸a
theorem Oo (hi:i<19):KD n i:=jD (jD (jD (jD (jD (jD (jD (jD (jD (jD (jD (jD (jD (jD (jD (λ_ h=>TS h) (TH n)) (Tb n)) (TA n)) (T3 n)) (Tv n)) (Tu n)) (Qd n)) (Qj n)) (R4 n)) (QG n)) (QN n)) (RS n)) (R0 n)) (RH n)) (QC n) i hi
theorem OA (mv:Bool) (hi:i<19):Rn (n+6) (.fn 138) [.lst (Fu mv i)] (.str (encStr (Mr i))):=by
 cases mv with
 |false=>exact mN (k:=19) (f:=λi=>run (n+6) (.fn 138) [.lst (Fu false i)] none) (g:=λi=>some (.ret (.str (encStr (Mr i))) false none)) (by kernel_rfl) hi
 |true=>exact mN (k:=19) (f:=λi=>run (n+6) (.fn 138) [.lst (Fu true i)] none) (g:=λi=>some (.ret (.str (encStr (Mr i))) false none)) (by kernel_rfl) hi
noncomputable def OE (h:iZ):Bool:= !h.nm.contains 58&& !(h.nm++58::h.l1).contains 10&&(h.l2.elim true λc=> !c.contains 10&&c.head?==some 32)&&(h.nm==CT||h.nm==Mp||h.nm==Jv)
theorem HP (mv:Bool) (hi:i<19):(MH mv++Ft i).all OE=true:=by
 cases mv with
 |false=>exact mN (k:=19) (f:=λi=>(MH false++Ft i).all OE) (g:=λ_=>true) (by kernel_rfl) hi
 |true=>exact mN (k:=19) (f:=λi=>(MH true++Ft i).all OE) (g:=λ_=>true) (by kernel_rfl) hi
theorem DH:(r9 CT∧r9 Mp∧r9 Jv):=⟨λn=>by kernel_rfl,λn=>by kernel_rfl,λn=>by kernel_rfl⟩
theorem Bn {h:iZ} (c:OE h=true):h.Good:=by
 unfold OE at c;simp only[Bool.and_eq_true,Bool.or_eq_true,Bool.not_eq_true',List.contains_eq_mem,decide_eq_false_iff_not,beq_iff_eq] at c;obtain⟨⟨⟨c1,c2⟩,c3⟩,c4⟩:=c;have k:r9 h.nm∧∃x r,h.nm=x::r∧nW x:=by
  rcases c4 with(e|e)|e<;>rw[e]
  ·exact⟨DH.1,_,_,rfl,rfl⟩
  ·exact⟨DH.2.1,_,_,rfl,rfl⟩
  ·exact⟨DH.2.2,_,_,rfl,rfl⟩
 refine⟨k.1,c1,c2,k.2,λc e=> ?_⟩;rw[e] at c3;simp only[Option.elim,Bool.and_eq_true,Bool.not_eq_true',decide_eq_false_iff_not,beq_iff_eq] at c3;refine⟨c3.1,?_⟩;cases c with
 |nil=>exact nomatch c3.2
 |cons a r=>exact⟨r,by rw[Option.some.inj c3.2]⟩
end
set_option tactic.hygienic false
section
variable {n b body e dp N:Nat} {d u:By} {fs:List AV} {k:AV} {en:Str}
theorem l8 {ks:List Str} {kv:List AV} (h:Rn n (.fn 138) [.lst fs] (.str en)):run (n+1) (.mt 137 0) [.ref 0,.int b,.int body,.int e,.lst fs,.inst 80 ks kv] (some (.inst 137 [] []))=some (.ret .none false (some (bI b body e fs (.inst 80 ks kv) en [] .none))):=aa [eC h,eT] (by kernel_rfl)
structure RP (n b body e:Nat) (d u:By) (fs:List AV) (k:AV) (en:Str):Prop where
 h1:Rn (n+12) (.fn 33) [.bytes d,.int b,.int e] (.tup [.lst fs,.int body])
 h2:Rn (n+12) (.fn 36) [.lst fs,.str (Str.ofString "content-type")] (.bytes u)
 h3:Rn (n+12) (.fn 98) [.bytes u] k
 h4:Rn (n+11) (.fn 138) [.lst fs] (.str en)
noncomputable abbrev ri (n b e dp:Nat) (d:By) (v:AV):Prop:=run n (.fn 144) [.bytes d,.int b,.int e,.int dp,.bool false] none=some (.ret v true none)
noncomputable def Rg {v:AV} (h:RP n b body e d u fs k en) (hp:run (n+12) (.mt 137 0) [.ref 0,.int b,.int body,.int e,.lst fs,k] (some (.inst 137 [] []))=some (.ret .none false (some v))) (hd:dp<20):List Ev:=[eC h.h1,eT,eC h.h2,eN,eN,eC h.h3,eC hp,gu hd]
theorem OB:run (n+2) (.fn 143) [.ref 0] (some (bI b body e fs vl en [] .none))=some (.ret (.bool false) false (some (bI b body e fs vl en [] .none))):=by kernel_rfl
theorem Ka:run (n+2) (.fn 143) [.ref 0] (some (bI b body e fs Fo (encStr 0) [] .none))=some (.ret (.bool true) false (some (bI b body e fs Fo (encStr 0) [] .none))):=by kernel_rfl
theorem IF:Rn (n+1) (.mt 80 2) [Fo] (.bool false):=by kernel_rfl
theorem FJ:Rn (n+1) (.mt 80 2) [qP N] (.bool true):=by kernel_rfl
theorem Hq (h:RP n b body e d u fs vl en) (hd:dp<20):ri (n+13) b e dp d (bI b body e fs vl en [] .none):=
 aa (Rg h (l8 h.h4) hd++[eC (y8 (n+11)).1,eN,eN,gu hd,eC (OB (n:=n+10) (b:=b) (body:=body) (e:=e) (fs:=fs) (en:=en)),eN,eN]) (by kernel_rfl)
theorem FR {ci:Nat} {ni:List Str} {vi:List AV} (h:RP n b body e d u fs Fo (encStr 0)) (hd:dp<20) (h5:ri (n+12) body e (dp+1) d (.inst ci ni vi)):ri (n+13) b e dp d (bI b body e fs Fo (encStr 0) [] (.inst ci ni vi)):=
 aa (Rg h (l8 h.h4) hd++[eC (IF (n:=n+11)),eN,eN,gu hd,eC (Ka (n:=n+10) (b:=b) (body:=body) (e:=e) (fs:=fs)),eY,eY,eC h5]) (by kernel_rfl)
noncomputable abbrev kX:Expr:=ng (.fn 144) [4,0,1] [0]
theorem FD {R:List AV} {K:List AV} (h:RP n b body e d u fs (qP N) en) (hd:dp<20) (h6:run (n+12) (.fn 142) [.bytes d,.ref 0] (some (bI b body e fs (qP N) en [] .none))=some (.ret (.lst R) false (some (bI b body e fs (qP N) en [] .none))))
 (hR:R.length≤ao) (hK:K.length≤ao) (hc:mL (En (n+12) (.fn 144)) kX R (LX kX [none,none,none,none,some (.bytes d),some (.int dp),some (.bool false)]) [bI b body e fs (qP N) en [] .none]=some (.ok K [bI b body e fs (qP N) en [] .none])):ri (n+13) b e dp d (bI b body e fs (qP N) en K .none):=
 aa (Rg h (l8 h.h4) hd++[eC (FJ (n:=n+11) (N:=N)),eY,eY,eT,eC h6,gT hR,eL hc,gT hK]) (by kernel_rfl)
end
set_option tactic.hygienic false
noncomputable def yF (b e:Nat) (v:AV):Prop:=∃body fs k en kids i,v=bI b body e fs k en kids i
noncomputable def tB (d o:By) (v:AV):Prop:=∃p q b fs,d=p++(content o++q)∧v=bI b p.length (p.length+(content o).length) fs vl (encStr (dw o)) [] .none
noncomputable def iW:Nat→Nat
 |0=>0
 |k+1=>match k with
  |0=>1
  |_+1=>0
noncomputable def cN (w:Nat) (p:Row):List By:=eE w (aB oA) (enc p) (aB oB)
noncomputable def Ce (d:By) (T:List By) (N i:Nat) (I:AV→Prop) (v:AV):Prop:=∃(R:List (By×By)) (g:By×By→AV) (b body e:Nat) (fs:List AV),v=bI b body e fs (qP N) (encStr 0) (R.map g) .none∧R.map (·.2)=T∧IS d R∧(∀r∈R,yF r.1.length (r.1.length+r.2.length) (g r))∧∃r,R[i]? =some r∧I (g r)
noncomputable def bY (d:By):Row→AV→Prop
 | .leaf o,v=>tB d o v
 | .bare,_=>False
 | .many w p,v=>Ce d (cN w p) (bq (cN w p)) (iW w) (bY d p) v
 | .lett p,v=>∃(X:AV) (b body e:Nat) (fs:List AV),v=bI b body e fs Fo (encStr 0) [] X∧bY d p X
section
variable {n i dp e N:Nat} {d P q body:By} {mv:Bool}
noncomputable abbrev hF (mv:Bool) (i:Nat):List iZ:=MH mv++Ft i
theorem HO (hi:i<19):(hF mv i).length≤100:=by
 have:decide ((hF mv i).length≤100)=true:=by
  cases mv with
  |false=>exact mN (k:=19) (f:=λi=>decide ((hF false i).length≤100)) (g:=λ_=>true) (by kernel_rfl) hi
  |true=>exact mN (k:=19) (f:=λi=>decide ((hF true i).length≤100)) (g:=λ_=>true) (by kernel_rfl) hi
 exact of_decide_eq_true this
noncomputable def bP (P:By) (mv:Bool) (i:Nat):By:=P++texts (hF mv i)++[13,10]
theorem D4 (hi:i<19) (hd:d=P++(ef (hF mv i) body++q)) (he:e=P.length+(ef (hF mv i) body).length) (hL:d.length<90000):RP n P.length (bP P mv i).length e d (Mt i) (Fu mv i) (Nq i) (encStr (Mr i)):=
 ⟨qf (n:=n+8) (λh m=>Bn (List.all_eq_true.mp (HP mv hi) h m)) hd he (Nat.le_of_lt (Nat.lt_trans hL (by decide))) (HO hi),NP (n:=n+7) mv hi,Oo hi,OA (n:=n+5) mv hi⟩
theorem Bm (hd:d=P++(ef (hF mv i) body++q)) (he:e=P.length+(ef (hF mv i) body).length):d=bP P mv i++(body++q)∧e=(bP P mv i).length+body.length:=by
 unfold ef at hd he;unfold bP;refine⟨by rw[hd,ap,ap,ap];rfl,?_⟩;rw[he,←List.length_append,←List.length_append,ap,ap];rfl
theorem xp (mv:Bool) (F:List iZ) (b:By):cond mv jP []++ef F b=ef (MH mv++F) b:=by
 cases mv with
 |false=>rfl
 |true=>exact(vw (body:=b) ⟨Jv,MI,none⟩ F).symm
theorem R1 {P:Nat→Prop} (h0:P 0) (h1:P 1) (h2:P 2):∀{k},k<3→P k
 |0,_=>h0
 |1,_=>h1
 |2,_=>h2
 |_+3,h=>absurd h (Nat.not_lt.mpr (Nat.le_add_left _ _))
theorem Av (o b:By):Fq (dw o)++b=ef (Ft (dw o)) b∧dw o<19∧Nq (dw o)=vl∧Mr (dw o)=dw o:=
 R1 (P:=λk=>Fq k++b=ef (Ft k) b∧k<19∧Nq k=vl∧Mr k=k) ⟨rfl,by decide,rfl,rfl⟩ ⟨rfl,by decide,rfl,rfl⟩ ⟨rfl,by decide,rfl,rfl⟩ (eQ o)
theorem zt (N:Nat) (b:By):Ep N++b=ef (Ft (N+4)) b:=by
 unfold Ep ef texts;rw[ap,show Ft (N+4)=[⟨CT,PO,some (PR N)⟩] from rfl,List.flatMap_cons,List.flatMap_nil,List.append_nil];rfl
noncomputable def Rd (n dp:Nat) (d P t:By) (I:AV→Prop):Prop:=∃v,I v∧yF P.length (P.length+t.length) v∧ri n P.length (P.length+t.length) dp d v
theorem rN {o:By} (hd:d=P++(cond mv jP []++aB o++q)) (hL:d.length<90000) (hp:dp<20):Rd (n+13) dp d P (cond mv jP []++aB o) (tB d o):=by
 obtain⟨h1,h2,h3,h4⟩:=Av o (content o);have et:cond mv jP []++aB o=ef (hF mv (dw o)) (content o):=by unfold aB;rw[h1,xp]
 rw[et] at hd⊢;have r:=D4 (n:=n) h2 hd rfl hL;obtain⟨b1,b2⟩:=Bm hd rfl;rw[h3,h4] at r;exact⟨_,⟨_,q,_,_,b1,congrArg (λz=>bI P.length (bP P mv (dw o)).length z (Fu mv (dw o)) vl (encStr (dw o)) [] .none) b2⟩,⟨_,_,_,_,_,_,rfl⟩,Hq r hp⟩
theorem zL {p:Row} (hd:d=P++(cond mv jP []++enc (.lett p)++q)) (hL:d.length<90000) (hp:dp<20) (ih:∀P q,d=P++(jP++enc p++q)→Rd (n+12) (dp+1) d P (jP++enc p) (bY d p)):Rd (n+13) dp d P (cond mv jP []++enc (.lett p)) (bY d (.lett p)):=by
 have et:cond mv jP []++enc (.lett p)=ef (hF mv 3) (jP++enc p):=(congrArg (cond mv jP []++·) (show enc (.lett p)=ef (Ft 3) (jP++enc p) from rfl)).trans (xp mv _ _);rw[et] at hd⊢;have r:=D4 (n:=n) (by decide) hd rfl hL;obtain⟨b1,b2⟩:=Bm hd rfl;obtain⟨v,h1,h2,h3⟩:=ih _ _ b1;rw[←b2] at h3;obtain⟨b,f,k,en,ks,j,rfl⟩:=h2;exact⟨_,⟨_,_,_,_,_,rfl,h1⟩,⟨_,_,_,_,_,_,rfl⟩,FR r hp h3⟩
theorem OQ {α:Type} (w:Nat) (a x b:α):(eE w a x b)[iW w]? =some x:=by
 match w with
 |0=>rfl
 |1=>rfl
 |_+2=>rfl
theorem Aj {p:Row} {w:Nat} (hd:d=P++(cond mv jP []++enc (.many w p)++q)) (hL:d.length<90000) (hp:dp<20) (hg:oV (cN w p)) (ih:∀P q,d=P++(enc p++q)→Rd (n+12) (dp+1) d P (enc p) (bY d p)) (il:∀o P q,d=P++(aB o++q)→Rd (n+12) (dp+1) d P (aB o) (tB d o)):Rd (n+13) dp d P (cond mv jP []++enc (.many w p)) (bY d (.many w p)):=by
 have et:cond mv jP []++enc (.many w p)=ef (hF mv (bq (cN w p)+4)) (au (cN w p) (bq (cN w p))):=(congrArg (cond mv jP []++·) (zt _ _)).trans (xp mv _ _);have hN:=hg.num;have hl:∀b∈cN w p,NL (bq (cN w p)) b:=λb m l=>(eZ hg.sum).1.1 ((fC (Nat.lt_trans hN (by decide))).mpr ⟨b,m,l⟩)
 have hm:∀b∈cN w p,b=enc p∨∃o,b=aB o:=oX (P:=λb=>b=enc p∨∃o,b=aB o) w (.inr ⟨_,rfl⟩) (.inl rfl) (.inr ⟨_,rfl⟩);have h9:=fb (a:=aB oA) (x:=enc p) (b:=aB oB) w;have hi:=OQ w (aB oA) (enc p) (aB oB);rw[et] at hd⊢;change Rd _ _ _ _ _ (Ce d (cN w p) (bq (cN w p)) (iW w) (bY d p));clear hg;change (cN w p)[iW w]? =_ at hi;change cN w p≠[]∧(cN w p).length≤2 at h9;generalize cN w p=T at*;generalize bq T=N at*;have r:=D4 (n:=n) (i:=N+4) (Nat.add_lt_add_right hN 4) hd rfl hL;obtain⟨b1,b2⟩:=Bm hd rfl;obtain⟨R,r1,r2,r3⟩:=sX (n:=n+7) (b:=P.length) (fs:=Fu mv (N+4)) (kids:=[]) (en:=encStr 0) (i:= .none) hN b1 b2 hL hl (Nat.le_trans h9.2 (by decide)) h9.1;have rl:R.length≤2:=by rw[←List.length_map (f:=λe:By×By=>e.2),r2];exact h9.2
 have H:∀r:By×By,∃v,r∈R→yF r.1.length (r.1.length+r.2.length) v∧ri (n+12) r.1.length (r.1.length+r.2.length) (dp+1) d v∧(r.2=enc p→bY d p v):=by
  intro r;by_cases m:r∈R
  ·obtain⟨q,hq⟩:=r1 r m;by_cases c:r.2=enc p
   ·rw[c] at hq⊢;obtain⟨v,h1,h2,h3⟩:=ih _ _ hq;exact⟨v,λ_=>⟨h2,h3,λ_=>h1⟩⟩
   ·obtain⟨o,ho⟩:=(hm r.2 (r2▸List.mem_map_of_mem m)).resolve_left c;rw[ho] at hq⊢;obtain⟨v,h1,h2,h3⟩:=il _ _ _ hq;exact⟨v,λ_=>⟨h2,h3,λz=>absurd (ho.trans z) c⟩⟩
  ·exact⟨.none,λz=>absurd z m⟩
 obtain⟨g,hg⟩:=Classical.axiomOfChoice H;have hc:=bW (C:=En (n+12) (.fn 144)) (e:=kX) (S:=[bI P.length (bP P mv (N+4)).length (P.length+(ef (hF mv (N+4)) (au T N)).length) (Fu mv (N+4)) (qP N) (encStr 0) [] .none]) (enc:=λs=>LX kX [none,s.1,s.2,none,some (.bytes d),some (.int dp),some (.bool false)]) (h:=s8) g (λ_ r=>(some (.int r.1.length),some (.int (r.1.length+r.2.length:Nat)))) R (none,none) λr m s=>by
  obtain⟨⟨b,f,k,en,ks,j,e⟩,h2,_⟩:=hg r m;rw[e] at h2⊢;exact aj [eY,eC h2] (by kernel_rfl)
 obtain⟨z,z1,z2⟩:∃z,R[iW w]? =some z∧z.2=enc p:=by
  rw[←r2,List.getElem?_map,Option.map_eq_some_iff] at hi;exact hi
 exact⟨_,⟨R,g,_,_,_,_,rfl,r2,r1,λr m=>(hg r m).1,z,z1,(hg z (List.mem_of_getElem? z1)).2.2 z2⟩,⟨_,_,_,_,_,_,rfl⟩,FD r hp r3 (by rw[List.length_map];exact Nat.le_trans rl (by decide)) (by rw[List.length_map];exact Nat.le_trans rl (by decide)) hc⟩
end
set_option tactic.hygienic false
section
variable {n w:Nat} {d:By} {a:AV} {o:By}
theorem Br (hL:d.length<90000) (p:Row):Good p→∀{mv:Bool} {P q:By} {dp n:Nat},d=P++(cond mv jP []++enc p++q)→dp+deep p<20→13+deep p≤n→Rd n dp d P (cond mv jP []++enc p) (bY d p):=by
 induction p with
 |leaf o=>
  intro _ mv P q dp n hd hp hn;obtain⟨m,rfl⟩:=Nat.exists_eq_add_of_le' (Nat.le_trans (Nat.le_add_right 13 _) hn);exact rN hd hL (Nat.lt_of_le_of_lt (Nat.le_add_right _ _) hp)
 |bare=>exactλh=>h.elim
 |many w p ih=>
  intro h mv P q dp n hd hp hn;obtain⟨m,rfl⟩:=Nat.exists_eq_add_of_le' (Nat.le_trans (Nat.le_add_right 13 _) hn);have hm:13+deep p≤m+12:=Nat.le_of_succ_le_succ hn;have hq:dp+1+deep p<20:=Nat.add_right_comm dp 1 _▸hp
  have h2:dp+1<20:=Nat.lt_of_le_of_lt (Nat.le_add_right _ _) hq
  refine Aj hd hL (Nat.lt_of_succ_lt h2) h.2 (λP q e=>ih h.1 (mv:=false) e hq hm) λo P q e=> ?_
  obtain⟨k,hk⟩:=Nat.exists_eq_add_of_le' (Nat.le_trans (Nat.le_add_right 13 _) hm);refine hk.symm▸?_;exact rN (mv:=false) e hL h2
 |lett p ih=>
  intro h mv P q dp n hd hp hn;obtain⟨m,rfl⟩:=Nat.exists_eq_add_of_le' (Nat.le_trans (Nat.le_add_right 13 _) hn);have hq:dp+1+deep p<20:=Nat.add_right_comm dp 1 _▸hp
  exact zL hd hL (Nat.lt_of_succ_lt (Nat.lt_of_le_of_lt (Nat.le_add_right _ _) hq)) λP q e=>ih h.1 (mv:=true) e hq (Nat.le_of_succ_le_succ hn)
theorem nD {p:Row} (hL:(enc p).length<90000) (hg:Good p) (hd:deep p<20):∃v,bY (enc p) p v∧Rn (n+34) (.fn 145) [.bytes (enc p)] v:=by
 obtain⟨v,h1,⟨b,f,k,en,ks,j,rfl⟩,h3⟩:=Br hL p hg (mv:=false) (P:=[]) (q:=[]) (dp:=0) (n:=n+33) (List.append_nil _).symm (Nat.zero_add _▸hd) (Nat.le_trans (Nat.add_le_add_left (Nat.le_of_lt hd) 13) (Nat.le_add_left 33 n));rw[show([]:By).length+(cond false jP []++enc p).length=(enc p).length from Nat.zero_add _] at h1 h3;exact⟨_,h1,aa [eC h3] (by kernel_rfl)⟩
noncomputable def wrap (w:Nat) (p:Row):Row:=if 2<w then .lett p else .many w p
noncomputable def rowOf:List Nat→Row→Row
 |[],B=>B
 |w::ws,B=>wrap w (rowOf ws B)
theorem zm {o:By} {ns:List Str} {vs:List AV}:run (n+1) (.mt 155 0) [.ref 0,.inst 80 ns vs,.bytes o] (some (.inst 155 [] []))=some (.ret .none false (some (.inst 155 [Str.ofString "kind",Str.ofString "octets",Str.ofString "fields"] [.inst 80 ns vs,.bytes o,.tup []]))):=by kernel_rfl
theorem cQ:Rn (n+2) (.fn 182) [.bytes o] (bb o):=aa [eT,eT,eC (iR n (Str.ofString "text") (Str.ofString "plain") [] []),eC (zm (n:=n) (o:=o) (ns:=[Str.ofString "top",Str.ofString "sub",Str.ofString "params"]) (vs:=[sN "text",sN "plain",.dct [] []]))] (by kernel_rfl)
theorem gp {ps:List AV}:run (n+1) (.mt 156 0) [.ref 0,sN "mixed",.lst ps] (some (.inst 156 [] []))=some (.ret .none false (some (gm ps))):=by kernel_rfl
theorem uq {c:Nat} {ns:List Str} {vs:List AV}:run (n+1) (.mt 157 0) [.ref 0,.inst c ns vs] (some (.inst 157 [] []))=some (.ret .none false (some (letterA (.inst c ns vs)))):=by kernel_rfl
theorem lE (w:Nat) (p:Row):Rn (n+3) (.fn 183) [bh p,.int w] (bh (wrap w p)):=by
 unfold wrap;by_cases q:2<w
 ·rw[if_pos q,(ki p).1];obtain⟨c,ns,vs,e⟩:=(aJ p).ex;refine e.symm▸?_;exact aa [gu q,eC (uq (n:=n+1) (c:=c) (ns:=ns) (vs:=vs))] (by kernel_rfl)
 ·rw[if_neg q,(kM w p).1];obtain⟨c,ns,vs,e⟩:=(aJ p).ex;refine e.symm▸?_;match w,q with
  |0,_=>exact aa [eN,eY,eT,eT,eC (gp (n:=n+1) (ps:=[.inst c ns vs]))] (by kernel_rfl)
  |1,_=>exact aa [eN,eN,eT,eY,eT,eC (cQ (n:=n) (o:=oA)),eT,eC (gp (n:=n+1) (ps:=[bb oA,.inst c ns vs]))] (by kernel_rfl)
  |2,_=>exact aa [eN,eN,eT,eN,eT,eC (cQ (n:=n) (o:=oB)),eT,eC (gp (n:=n+1) (ps:=[.inst c ns vs,bb oB]))] (by kernel_rfl)
  |k+3,q=>exact absurd (Nat.le_add_left 3 k) q
end
set_option tactic.hygienic false
noncomputable abbrev dX:Expr:=ng (.fn 185) [1,0,0,1,0] [0]
section
variable {n b body e N c:Nat} {d o:By} {fs ws K B:List AV} {ns:List Str} {vs:List AV} {x y:Option AV} {en:Str} {k0 v:AV}
theorem GC (h:tB d o v) (ho:o.length<10000) (hL:d.length<80000):Rn (n+6) (.fn 147) [.bytes d,v] (.bytes o):=by
 obtain⟨p,q,b,fs,e,rfl⟩:=h;have hc:(content o).length<80000:=Nat.lt_of_le_of_lt (by rw[e,List.length_append,List.length_append];exact Nat.le_trans (Nat.le_add_right _ _) (Nat.le_add_left _ _)) hL
 exact aa [eV (congrArg AV.bytes (dK e)),eC (AO (n:=n) ho hc)] (by kernel_rfl)
theorem lK {p:Row} {v:AV} (h:bY d p v):Inst v:=by
 cases p with
 |leaf o=>obtain⟨p,q,b,fs,_,rfl⟩:=h;exact⟨_,_,_,rfl⟩
 |bare=>exact h.elim
 |many w p=>obtain⟨R,g,b,body,e,fs,rfl,_⟩:=h;exact⟨_,_,_,rfl⟩
 |lett p=>obtain⟨X,b,body,e,fs,rfl,_⟩:=h;exact⟨_,_,_,rfl⟩
noncomputable abbrev F8 (d:By) (ws:List AV) (o:By) (h:AV) (x y:Option AV):Loc:=L (.fn 185) [some (.bytes d),some (.lst ws),some (.bytes o),some h,x,y]
noncomputable abbrev ML (n:Nat) (d:By) (ws:List AV) (o:By) (h:AV) (x y:Option AV) (w:Nat):Option ar:=(tF (En n (.fn 185)) 0 (aK (.fn 185) [1]) (.int w) (F8 d ws o h x y) []).p
theorem H3:Rn (n+1) (.mt 80 3) [Fo] (.bool true):=by kernel_rfl
theorem Qc {w:Nat} (h:2<w):ML (n+1) d ws o (bI b body e fs Fo en [] (.inst c ns vs)) x y w=some (.aY (F8 d ws o (.inst c ns vs) (some (.int w)) y) []):=aj [gu h,eC (H3 (n:=n)),eN,eN,eN] (by kernel_rfl)
noncomputable abbrev O3 (n:Nat) (d:By) (K B:List AV):Prop:=mL (En n (.fn 185)) dX K (LX dX [none,none,some (.bytes d)]) []=some (.ok B [])
theorem MY (N:Nat):(!seq (dP N) (dP N))=false:=by rw[bw.mpr rfl];rfl
noncomputable def mE (hc:O3 n d K B) (hl:Rn n (.fn 181) [.lst B] (.str (dP N))):List Ev:=[eN,eT,eL hc,eT,eT,eT,eN,eT,eT,eT,eC hl,eB (MY N),eN,eT,eT,eT]
variable {b0 b1:AV}
theorem Rc (hc:O3 n d [.inst c ns vs] [b0]) (hl:Rn n (.fn 181) [.lst [b0]] (.str (dP N))):ML n d ws o (bI b body e fs (qP N) en [.inst c ns vs] .none) x y 0=some (.aY (F8 d ws o (.inst c ns vs) (some (.int 0)) (some (.lst [b0]))) []):=aj (mE hc hl) (by kernel_rfl)
theorem QM (hc:O3 n d [k0,.inst c ns vs] [b0,b1]) (hl:Rn n (.fn 181) [.lst [b0,b1]] (.str (dP N))):ML n d ws o (bI b body e fs (qP N) en [k0,.inst c ns vs] .none) x y 1=some (.aY (F8 d ws o (.inst c ns vs) (some (.int 1)) (some (.lst [b0,b1]))) []):=aj (mE hc hl) (by kernel_rfl)
theorem QK (hc:O3 n d [.inst c ns vs,k0] [b0,b1]) (hl:Rn n (.fn 181) [.lst [b0,b1]] (.str (dP N))):ML n d ws o (bI b body e fs (qP N) en [.inst c ns vs,k0] .none) x y 2=some (.aY (F8 d ws o (.inst c ns vs) (some (.int 2)) (some (.lst [b0,b1]))) []):=aj (mE hc hl) (by kernel_rfl)
theorem HD {R:List (By×By)} {g:By×By→AV} (hR:IS d R) (hk:∀r∈R,yF r.1.length (r.1.length+r.2.length) (g r)):O3 n d (R.map g) ((R.map (·.2)).map .bytes):=by
 rw[List.map_map];refine bW (enc:=λv=>LX dX [none,v,some (.bytes d)]) (λr=> .bytes r.2) (λ_ r=>some (g r)) R none λr m v=> ?_
 obtain⟨q,hq⟩:=hR r m;obtain⟨body,fs,k,en,ks,i,e⟩:=hk r m;rw[e];exact aj [eY,eV (congrArg AV.bytes (dK hq))] (by kernel_rfl)
theorem I5 {α β:Type} {f:α→β} {R:List α} {a:β} (h:R.map f=[a]):∃r,R=[r]:=by
 cases R with
 |nil=>exact zF h
 |cons r R=>cases R with
  |nil=>exact⟨r,rfl⟩
  |cons s R=>exact nomatch (List.cons.inj h).2
theorem Jf {α β:Type} {f:α→β} {R:List α} {a b:β} (h:R.map f=[a,b]):∃r s,R=[r,s]:=by
 cases R with
 |nil=>exact zF h
 |cons r R=>
  obtain⟨s,rfl⟩:=I5 (List.cons.inj h).2;exact⟨r,s,rfl⟩
theorem HK {w:Nat} (hw:¬2<w) {p:Row} (h:bY d (.many w p) v) (hg:oV (cN w p)):∃X y',bY d p X∧ML (n+1) d ws o v x y w=some (.aY (F8 d ws o X (some (.int w)) y') []):=by
 obtain⟨R,g,b,body,e,fs,rfl,hT,hR,hk,r,hr,hp⟩:=h;have hl:=qZ n hg.sum (Nat.le_trans (fb w).2 (by decide));have hc:=HD (n:=n+1) hR hk;rw[hT] at hc;generalize bq (cN w p)=N at*;obtain⟨c,ns,vs,ei⟩:=(lK hp).ex;refine⟨g r,some (.lst ((cN w p).map .bytes)),hp,?_⟩;match w,hw with
 |0,_=>
  obtain⟨s,rfl⟩:=I5 hT;rw[←Option.some.inj hr] at ei;rw[←Option.some.inj hr];rw[List.map_cons,List.map_nil,ei] at hc⊢;exact Rc hc hl
 |1,_=>
  obtain⟨s,t,rfl⟩:=Jf hT;rw[←Option.some.inj hr] at ei;rw[←Option.some.inj hr];rw[List.map_cons,List.map_cons,List.map_nil,ei] at hc⊢;exact QM hc hl
 |2,_=>
  obtain⟨s,t,rfl⟩:=Jf hT;rw[←Option.some.inj hr] at ei;rw[←Option.some.inj hr];rw[List.map_cons,List.map_cons,List.map_nil,ei] at hc⊢;exact QK hc hl
 |k+3,q=>exact absurd (Nat.le_add_left 3 k) q
end
set_option tactic.hygienic false
noncomputable def k6 (w:Nat):AV:= .int w
structure R9 where
 h:AV
 x:Option AV
 y:Option AV
theorem AB {w:Nat} {p:Row} (h:Good (wrap w p)):Good p:=by
 unfold wrap at h;by_cases q:2<w
 ·rw[if_pos q] at h;exact h.1
 ·rw[if_neg q] at h;exact h.1
section
variable {n:Nat} {d o:By} {ws:List AV}
theorem GY {w:Nat} {p:Row} {s:R9} (h:bY d (wrap w p) s.h) (hg:Good (wrap w p)):∃X y',bY d p X∧ML (n+1) d ws o s.h s.x s.y w=some (.aY (F8 d ws o X (some (.int w)) y') []):=by
 unfold wrap at h hg;by_cases q:2<w
 ·rw[if_pos q] at h hg;obtain⟨X,b,body,e,fs,e1,hp⟩:=h;obtain⟨c,ns,vs,e2⟩:=(lK hp).ex;rw[e1];rw[e2] at hp⊢;exact⟨_,_,hp,Qc q⟩
 ·rw[if_neg q] at h hg;exact HK q h hg.2
theorem zK {wl:List Nat} (hg:Good (rowOf wl (.leaf o))) (hL:(enc (rowOf wl (.leaf o))).length<80000) (ho:o.length<10000) (hd:deep (rowOf wl (.leaf o))<20):Rn (n+35) (.fn 185) [.bytes (enc (rowOf wl (.leaf o))),.lst (wl.map k6),.bytes o] (.bool true):=by
 obtain⟨v,hv,hr⟩:=nD (n:=n) (Nat.lt_trans hL (by decide)) hg hd;generalize enc (rowOf wl (.leaf o))=d at*;obtain⟨r,e,s,hs,rfl⟩:=bV (C:=En (n+34) (.fn 185)) (k:=0) (st:=aK (.fn 185) [1]) (enc:=λs:R9=>(F8 d (wl.map k6) o s.h s.x s.y,[])) (Q:=λr=>∃s:R9,bY d (.leaf o) s.h∧r= .aY (F8 d (wl.map k6) o s.h s.x s.y) []) k6 (λxs s=>bY d (rowOf xs (.leaf o)) s.h∧Good (rowOf xs (.leaf o)))
  (λw xs s i=>by
   obtain⟨X,y',h1,h2⟩:=GY (n:=n+33) (ws:=wl.map k6) (o:=o) i.1 i.2;exact⟨_,h2,.inl ⟨⟨X,_,y'⟩,rfl,h1,AB i.2⟩⟩) (λs i=>⟨s,i.1,rfl⟩) wl ⟨v,none,none⟩ ⟨hv,hg⟩
 have hb:=GC (n:=n+28) hs ho hL;obtain⟨p,q,b,fs,_,eh⟩:=hs;obtain⟨c,ns,vs,ev⟩:=(lK hv).ex;dsimp only at e;rw[eh] at hb e;rw[ev] at hr e;exact xG (congrArg AV.bool (beq_self_eq_true o)) [eC hr,eS e,eT,eY,eY,eC hb] (by kernel_rfl)
end
set_option tactic.hygienic false
noncomputable def PT:By:=fld CT Pg
noncomputable def ct:Nat→By→Nat
 |_,[]=>0
 |k,c::r=>match k with
  |0=>cond (PT.isPrefixOf (c::r)) (ct 29 r+1) (ct 0 r)
  |k+1=>ct k r
theorem yf:∀(k:Nat) (b:By),ct k b=ct 0 (b.drop k)
 |0,_=>rfl
 |_+1,[]=>rfl
 |k+1,_::r=>yf k r
theorem BV:∀(n:Nat) (b:By),b.length≤n→dq PT n b=ct 0 b
 |_,[],_=>by
  rename_i n _
  cases n<;>rfl
 |0,c::r,h=>absurd h (Nat.not_succ_le_zero _)
 |n+1,c::r,h=>by
  have hl:=Nat.le_of_succ_le_succ h;have e:((c::r).take PT.length==PT)=PT.isPrefixOf (c::r):=by
   rw[Bool.eq_iff_iff,beq_iff_eq,List.isPrefixOf_iff_prefix,List.prefix_iff_eq_take];exact eq_comm
  show(if((c::r).take PT.length==PT)=true then 1+dq PT n (r.drop 29) else dq PT n r)=cond (PT.isPrefixOf (c::r)) (ct 29 r+1) (ct 0 r);rw[Nat.add_comm 1,e,BV n r hl,BV n (r.drop 29) (Nat.le_trans (by rw[List.length_drop];exact Nat.sub_le _ _) hl),yf 29];cases PT.isPrefixOf (c::r)<;>rfl
noncomputable def ft (w:Nat):Bool→By→Bool
 |_,[]=>false
 |s,c::r=>(s&&(markB w).isPrefixOf (c::r))||ft w (c==10) r
theorem tD {w:Nat}:∀(s:Bool) (t:By),ft w s t=true↔(s=true∧markB w<+:t)∨10::markB w<:+:t
 |s,[]=>⟨λh=>(zC h),λh=>h.elim (λh=>absurd (List.prefix_nil.mp h.2) (List.cons_ne_nil _ _)) λh=>absurd (List.infix_nil.mp h) (List.cons_ne_nil _ _)⟩
 |s,c::r=>by
  show((s&&(markB w).isPrefixOf (c::r))||ft w (c==10) r)=true↔_;rw[Bool.or_eq_true,Bool.and_eq_true,List.isPrefixOf_iff_prefix,tD,List.infix_cons_iff,List.cons_prefix_cons,beq_iff_eq,eq_comm (a:=c)]
theorem CM {w:Nat} {t:By}:sv w t↔ft w true t=true:=by
 rw[vr,List.infix_cons_iff,List.cons_prefix_cons,tD];exact or_congr (and_congr_left λ_=>⟨λ_=>rfl,λ_=>rfl⟩) Iff.rfl
theorem BW {w:Nat} {s:Bool} {t:By} (h:ft w s t=true):ft w true t=true:=by
 rw[tD] at h⊢;exact h.imp (λh=>⟨rfl,h.2⟩) id
noncomputable def tw (w:Nat):Prop:=w=12∨w=13∨w=14
theorem JR {w:Nat} (hw:tw w):∀c∈vW,∀t,ft w true (c++t)=true→ft w true t=true:=by
 have k:∀c∈vW,(λt=>ft w true (c++t))=λt=>ft w (c.getLast?==some 10) t:=by
  rcases hw with rfl|rfl|rfl
  ·exact List.map_inj_left.mp (by kernel_rfl:vW.map (λc t=>ft 12 true (c++t))=vW.map λc t=>ft 12 (c.getLast?==some 10) t)
  ·exact List.map_inj_left.mp (by kernel_rfl:vW.map (λc t=>ft 13 true (c++t))=vW.map λc t=>ft 13 (c.getLast?==some 10) t)
  ·exact List.map_inj_left.mp (by kernel_rfl:vW.map (λc t=>ft 14 true (c++t))=vW.map λc t=>ft 14 (c.getLast?==some 10) t)
 exactλc m t h=>BW ((congrFun (k c m) t).symm.trans h)
theorem JS:∀c∈vW,c.contains 58=false:=List.map_inj_left.mp (by kernel_rfl:vW.map (λc=>c.contains 58)=vW.map λ_=>false)
structure BO (o:By):Prop where
 len:o.length≤528
 no58:58∉o
 ld:∀w,tw w→ft w true o=false
theorem Py {cs:List By} (hl:cs.length≤12) (hc:∀c∈cs,c∈vW):BO cs.flatten:=by
 have h1:cs.flatten.length≤44*cs.length:=by
  clear hl
  induction cs with
  |nil=>exact Nat.le_refl _
  |cons c r ih=>
   rw[List.flatten_cons,List.length_append,List.length_cons,Nat.mul_succ,Nat.add_comm];exact Nat.add_le_add (ih λx m=>hc x (List.mem_cons_of_mem _ m)) (t7 c (hc c List.mem_cons_self))
 refine⟨Nat.le_trans h1 (Nat.mul_le_mul_left 44 hl),λm=> ?_,λw hw=>Bool.eq_false_iff.mpr λh=> ?_⟩
 ·obtain⟨c,hm,h⟩:=List.mem_flatten.mp m;exact Bool.eq_false_iff.mp (JS c (hc c hm)) (List.contains_iff_mem.mpr h)
 ·clear hl h1
  induction cs with
  |nil=>exact zC h
  |cons c r ih=>exact ih (λx m=>hc x (List.mem_cons_of_mem _ m)) (JR hw c (hc c List.mem_cons_self) _ h)
set_option tactic.hygienic false
noncomputable def zz:Bool→By→Bool
 |_,[]=>true
 |s,c::r=> !(s&&c==95)&&(c !=58&&zz (c==61) r)
theorem JK:∀(s:Bool) (l:By),zz s l=true→58∉l:=by
 intro s l
 induction l generalizing s with
 |nil=>
  intro _ m;exact zE m
 |cons c r ih=>
  intro h m;have h:=(Bool.and_eq_true_iff.mp (Bool.and_eq_true_iff.mp h).2);rcases List.mem_cons.mp m with e|m
  ·exact absurd e.symm (bne_iff_ne.mp h.1)
  ·exact ih _ h.2 m
theorem Jq {w:Nat}:∀(s b:Bool) (l:By),zz s l=true→ft w b l=false:=by
 intro s b l
 induction l generalizing s b with
 |nil=>
  intro _;exact rfl
 |cons c r ih=>
  intro h;have ih:=ih (c==61) (c==10) (Bool.and_eq_true_iff.mp (Bool.and_eq_true_iff.mp h).2).2;show((b&&(markB w).isPrefixOf (c::r))||ft w (c==10) r)=false;rw[ih,Bool.or_false];cases q:(markB w).isPrefixOf (c::r) with
  |false=>exact Bool.and_false _
  |true=>
   obtain⟨v,e⟩:=List.isPrefixOf_iff_prefix.mp q;rw[←e] at h;have h2:(!(s&&false)&&false)=true:=h;rw[Bool.and_false] at h2;exact zC h2
theorem Kc:∀(s:Bool) (l:By),(∀c∈l,c≠58∧c≠95)→zz s l=true:=by
 intro s l
 induction l generalizing s with
 |nil=>
  intro _;exact rfl
 |cons c r ih=>
  intro h;have hc:=h c List.mem_cons_self;show(!(s&&c==95)&&(c !=58&&zz (c==61) r))=true;rw[ih _ λx m=>h x (List.mem_cons_of_mem _ m),beq_eq_false_iff_ne.mpr hc.2,bne_iff_ne.mpr hc.1,Bool.and_false];rfl
noncomputable def Ta (l:By):Prop:=∀t,zz false (l++t)=zz false t
theorem Ta.app {a b:By} (h:Ta a) (k:Ta b):Ta (a++b):=λt=>by rw[List.append_assoc,h,k]
theorem Jz (b:Bool) {c:UInt8} (h:c≠58):Ta (rX b c):=mw b c (λq _ t=>by
 show(!(false&&c==95)&&(c !=58&&zz (c==61) t))=zz false t;rw[beq_eq_false_iff_ne.mpr (gj q).1,bne_iff_ne.mpr h];rfl) (congrFun (pW (f:=λk t=>zz false ([61,ix (k/16),ix (k %16)]++t)) (g:=λ_ t=>zz false t) (by kernel_rfl) c))
theorem Pt:Ta [61,13,10]:=λ_=>rfl
theorem MR:Ta az:=λ_=>rfl
theorem Hr (l line:By) (g:l=[]→kY line):58∉l→Ta line→Ta (aL az (soft (bu l) line)):=by
 refine oY (P:=λl line s=>58∉l→Ta line→Ta (aL az s)) ?_ ?_ ?_ l line g
 ·exactλline _ _ h=>h
 ·intro b c l line s ne ih n h;rw[dR ne,List.append_assoc];exact h.app (Pt.app (ih (λm=>n (List.mem_cons_of_mem _ m)) (Jz b λe=>n (e▸List.mem_cons_self))))
 ·exactλb c l line s ih n h=>ih (λm=>n (List.mem_cons_of_mem _ m)) (h.app (Jz b λe=>n (e▸List.mem_cons_self)))
theorem yL:∀l:List By,(∀x∈l,Ta x)→Ta (aL az l)
 |[],_=>λ_=>rfl
 |[x],h=>h x List.mem_cons_self
 |x::y::r,h=>((h x List.mem_cons_self).app MR).app (yL (y::r) λz m=>h z (List.mem_cons_of_mem _ m))
theorem mem_join {s x:By} {c:UInt8} (m:c∈x):∀l:List By,x∈l→c∈aL s l
 |[],h=>zE h
 |[_],h=>List.mem_singleton.mp h▸m
 |_::z::r,h=>(List.mem_cons.mp h).elim (λe=>List.mem_append_left _ (List.mem_append_left _ (e▸m))) λh=>List.mem_append_right _ (mem_join m (z::r) h)
theorem uC {s:By} {c:UInt8}:∀l:List By,c∈aL s l→c∈s∨c∈l.flatten
 |[],h=>zE h
 |[_],h=> .inr (List.mem_append_left _ h)
 |_::z::r,h=>(List.mem_append.mp h).elim (λh=>(List.mem_append.mp h).elim (λh=> .inr (List.mem_append_left _ h)) .inl) λh=>(uC (z::r) h).imp_right (List.mem_append_right _)
theorem Jn {o:By} (h:58∉o):zz false (qp o)=true:=by
 have t:Ta (qp o):=by
  rw[yV];refine yL _ λx m=> ?_
  obtain⟨l,hl,rfl⟩:=List.mem_map.mp m;refine Hr l [] (λ_=>j9) (λm=>h ?_) λ_=>rfl
  have:=mem_join (s:=az) m _ hl;unfold bl at this;rw[join_split] at this;exact this
 have:=t [];rw[List.append_nil] at this;exact this
theorem MW:∀k,k<64→sg k≠58∧sg k≠95:=by decide+kernel
theorem Ec (o:By):zz false (xF o)=true:=by
 refine Kc _ _ λc m=> ?_
 unfold xF at m;rcases uC _ m with m|m
 ·exact(show∀c∈az,c≠58∧c≠95 by decide+kernel) c m
 ·rw[gP (b8 (bQ o).length (w:=76) (by decide)).lo] at m;unfold bQ at m;rcases List.mem_append.mp m with m|m
  ·obtain⟨k,hk,rfl⟩:=List.mem_map.mp m;exact MW k (DX o k hk)
  ·rw[List.eq_of_mem_replicate m];decide
theorem x9 {o:By} (h:58∉o) {w:Nat} (hw:ft w true o=false):58∉content o∧ft w true (content o)=false:=by
 unfold content;exact R1 (P:=λk=>58∉cont o k∧ft w true (cont o k)=false) ⟨h,hw⟩ ⟨JK _ _ (Ec o),Jq _ _ _ (Ec o)⟩ ⟨JK _ _ (Jn h),Jq _ _ _ (Jn h)⟩ (eQ o)
set_option tactic.hygienic false
noncomputable def Mm (t:By):Prop:=t=[]∨t=13::10::t.drop 2
theorem BX (t:By):Mm (13::10::t):= .inr rfl
theorem uV {t:By} (h:Mm t):stop t:=h.imp id λe=>⟨_,_,e,.inr rfl⟩
section
variable {b c t:By} {k j N w:Nat} {S S':Nat→Prop}
theorem JU:CT++[58]<+:PT:=⟨Pg++[13,10],rfl⟩
theorem Pn (ht:Mm t):∀c:By,58∉c→ct 0 (c++t)=ct 0 t:=by
 intro c
 induction c with
 |nil=>
  intro _;exact rfl
 |cons x r ih=>
  intro h;have ih:=ih λm=>h (List.mem_cons_of_mem _ m)
  have e:PT.isPrefixOf (x::(r++t))=false:=Bool.eq_false_iff.mpr λq=>h ((iw (uV ht) (L:=CT++[58]) (l:=x::r) (by decide) (by decide) (JU.trans (List.isPrefixOf_iff_prefix.mp q))).subset (by decide))
  show cond (PT.isPrefixOf (x::(r++t))) _ (ct 0 (r++t))=ct 0 t;rw[e,←ih];rfl
theorem I4 (ht:Mm t):∀(s:Bool) (c:By),ft w s (c++t)=(ft w s c||ft w true (t.drop 2))
 |s,[]=>by
  rcases ht with rfl|e
  ·rfl
  ·rw[e];show((s&&false)||ft w true (t.drop 2))=_;rw[Bool.and_false];rfl
 |s,x::r=>by
  have e:(markB w).isPrefixOf (x::(r++t))=(markB w).isPrefixOf (x::r):=by
   rw[Bool.eq_iff_iff,List.isPrefixOf_iff_prefix,List.isPrefixOf_iff_prefix];exact⟨iw (uV ht) (l:=x::r) R2 (sL w (by decide) (by decide)),λq=>q.trans (List.prefix_append _ _)⟩
  show((s&&(markB w).isPrefixOf (x::(r++t)))||ft w (x==10) (r++t))=_;rw[e,I4 ht,←Bool.or_assoc];rfl
structure TX (b:By) (k:Nat) (S:Nat→Prop):Prop where
 c:∀t,Mm t→ct 0 (b++t)=ct 0 t+k
 l:∀w,tw w→∀t,Mm t→ft w true (b++t)=true→S w∨ft w true (t.drop 2)=true
theorem TX.mono (h:TX b k S) (m:∀w,S w→S' w):TX b k S':=⟨h.c,λw hw t ht q=>(h.l w hw t ht q).imp_left (m w)⟩
theorem Oc (h:58∉b) (k:∀w,tw w→ft w true b=false):TX b 0 S:=⟨λt ht=>Pn ht b h,λw hw t ht q=> .inr (by rw[I4 ht,k w hw] at q;exact q)⟩
noncomputable def Q4 (s:By):Nat×Bool×Bool×Bool:=(ct 0 s,ft 12 true s,ft 13 true s,ft 14 true s)
structure uG (H:By) (k:Nat):Prop where
 c:∀t,ct 0 (H++t)=ct 0 t+k
 l:∀w,tw w→∀t,ft w true (H++t)=ft w true t
theorem rJ {H:By} (h:(λt=>Q4 (H++t))=λt=>(ct 0 t+k,(Q4 t).2)):uG H k:=by
 refine⟨λt=>congrArg (·.1) (congrFun h t),?_⟩;rintro w (rfl|rfl|rfl) t
 ·exact congrArg (·.2.1) (congrFun h t)
 ·exact congrArg (·.2.2.1) (congrFun h t)
 ·exact congrArg (·.2.2.2) (congrFun h t)
theorem uG.tx {H:By} (h:uG H j) (x:TX b k S):TX (H++b) (k+j) S:=
 ⟨λt ht=>by rw[ap,h.c,x.c t ht];exact Nat.add_assoc _ _ _,λw hw t ht q=>x.l w hw t ht (by rw[ap,h.l w hw] at q;exact q)⟩
theorem NC (o:By):uG (Fq (dw o)) 0:=R1 (P:=λk=>uG (Fq k) 0) (rJ (by kernel_rfl)) (rJ (by kernel_rfl)) (rJ (by kernel_rfl)) (eQ o)
theorem OW:uG FT 1:=rJ (by kernel_rfl)
theorem NI:uG jP 0:=rJ (by kernel_rfl)
theorem NH (h:N<15):uG (Ep N) 0:=rJ (mN (k:=15) (f:=λN t=>Q4 (Ep N++t)) (g:=λ_ t=>Q4 t) (by kernel_rfl) h)
structure JP (N:Nat) (e:By):Prop where
 c:∀t,ct 0 (markB N++(e++t))=ct 0 t
 l:∀w,tw w→∀t,ft w true (markB N++(e++t))=(w==N||ft w true t)
theorem JL {e:By} (h:(λt=>Q4 (markB N++(e++t)))=λt=>(ct 0 t,(12==N||ft 12 true t),(13==N||ft 13 true t),(14==N||ft 14 true t))):JP N e:=by
 refine⟨λt=>congrArg (·.1) (congrFun h t),?_⟩;rintro w (rfl|rfl|rfl) t
 ·exact congrArg (·.2.1) (congrFun h t)
 ·exact congrArg (·.2.2.1) (congrFun h t)
 ·exact congrArg (·.2.2.2) (congrFun h t)
theorem I3 (h:N<15):JP N [13,10]:=JL (mN (k:=15) (f:=λN t=>Q4 (markB N++([13,10]++t))) (g:=λN t=>(ct 0 t,(12==N||ft 12 true t),(13==N||ft 13 true t),(14==N||ft 14 true t))) (by kernel_rfl) h)
theorem E2 (h:N<15):JP N [45,45,13,10]:=JL (mN (k:=15) (f:=λN t=>Q4 (markB N++([45,45,13,10]++t))) (g:=λN t=>(ct 0 t,(12==N||ft 12 true t),(13==N||ft 13 true t),(14==N||ft 14 true t))) (by kernel_rfl) h)
noncomputable def sumK (l:List (By×Nat)):Nat:=l.foldr (λe n=>n+e.2) 0
theorem rD (h:N<15):∀l:List (By×Nat),(∀e∈l,TX e.1 e.2 S)→TX (au (l.map (·.1)) N) (sumK l) (λw=>w=N∨S w)
 |[],_=>by
  have e:∀t,au [] N++t=markB N++([45,45,13,10]++t):=λt=>by rw[wL,ap,ap];rfl
  refine⟨λt _=>by rw[List.map_nil,e,(E2 h).c];rfl,λw hw t ht q=> ?_⟩;rw[List.map_nil,e,(E2 h).l w hw,Bool.or_eq_true,beq_iff_eq] at q;rcases q with q|q
  ·exact .inl (.inl q)
  ·rcases ht with rfl|ht
   ·exact zC q
   ·rw[ht] at q;exact .inr q
 |(b,k)::l,hl=>by
  have ih:=rD h l λe m=>hl e (List.mem_cons_of_mem _ m)
  have hb:=hl (b,k) List.mem_cons_self;have e:∀t,au (b::l.map (·.1)) N++t=markB N++([13,10]++(b++13::10::(au (l.map (·.1)) N++t))):=λt=>by rw[j4,ap,ap];exact congrArg (λz=>markB N++13::10::z) ap
  refine⟨λt ht=> ?_,λw hw t ht q=> ?_⟩
  ·rw[List.map_cons,e,(I3 h).c,hb.c _ (BX _)];show ct 0 (au (l.map (·.1)) N++t)+k=ct 0 t+(sumK l+k);rw[ih.c t ht,Nat.add_assoc]
  ·rw[List.map_cons,e,(I3 h).l w hw,Bool.or_eq_true,beq_iff_eq] at q;rcases q with q|q
   ·exact .inl (.inl q)
   ·exact(hb.l w hw _ (BX _) q).elim (λz=> .inl (.inr z)) (ih.l w hw t ht)
end
set_option tactic.hygienic false
theorem Kb:∀(n:Nat) (l:By),((ck 3 n l).flatMap gq).length=(ck 3 n l).flatten.length+n:=by
 intro n
 induction n with
 |zero=>
  intro _;exact rfl
 |succ n ih=>
  intro l;show(gq (l.take 3)++(ck 3 n (l.drop 3)).flatMap gq).length=(l.take 3++(ck 3 n (l.drop 3)).flatten).length+(n+1);rw[List.length_append,List.length_append,sM,ih,Nat.add_right_comm,←Nat.add_assoc];rfl
theorem Lz (m:Nat):(vA m).length≤2:=by
 unfold vA;obtain⟨k,e,h⟩:=sR m;rw[List.length_replicate,e];exact Nat.le_of_lt_succ h
theorem Ht {o:By} (h:o.length≤528):(xF o).length≤726:=by
 have s3:=b8 o.length (w:=3) (by decide);have n3:lO o.length 3<177:=Nat.lt_of_mul_lt_mul_left (a:=3) (Nat.lt_of_lt_of_le s3.hi (Nat.add_le_add_right h 3))
 have l1:(bQ o).length≤528+176+2:=by
  unfold bQ sx;rw[List.length_append,List.length_map,Kb,gP s3.lo];exact Nat.add_le_add (Nat.add_le_add h (Nat.le_of_lt_succ n3)) (Lz _)
 have s7:=b8 (bQ o).length (w:=76) (by decide);have n7:lO (bQ o).length 76<11:=Nat.lt_of_mul_lt_mul_left (a:=76) (Nat.lt_of_lt_of_le s7.hi (Nat.le_trans (Nat.add_le_add_right l1 76) (by decide)))
 have:=xZ az (ck 76 (lO (bQ o).length 76) (bQ o));rw[gP s7.lo,sG] at this;exact Nat.le_trans this (Nat.le_trans (Nat.add_le_add l1 (Nat.mul_le_mul_left 2 (Nat.le_of_lt_succ n7))) (by decide))
theorem A3 {o:By} (h:o.length≤528):(aB o).length≤801:=by
 have hb:=Ht h;have hc:(content o).length≤726:=by
  unfold content dw;by_cases q:OF o=true
  ·rw[if_pos q];exact Nat.le_trans h (by decide)
  ·rw[if_neg q];by_cases z:(xF o).length<(qp o).length
   ·rw[if_pos z];exact hb
   ·rw[if_neg z];exact Nat.le_trans (Nat.le_of_not_lt z) hb
 unfold aB;rw[List.length_append];exact Nat.add_le_add (oN.2.2 _ (eQ o)) hc
noncomputable def BR:Row→Prop
 | .leaf o=>BO o
 | .bare=>False
 | .many _ p=>BR p
 | .lett p=>BR p
noncomputable def mc:Row→Nat
 | .leaf _=>0
 | .bare=>0
 | .many _ p=>mc p+1
 | .lett p=>mc p
noncomputable def nl:Row→Nat
 | .leaf _=>0
 | .bare=>0
 | .many _ p=>nl p
 | .lett p=>nl p+1
noncomputable def marks:Row→List Nat
 | .leaf _=>[]
 | .bare=>[]
 | .many w p=>bq (cN w p)::marks p
 | .lett p=>marks p
theorem tK {o:By} (h:BO o) (S:Nat→Prop):TX (aB o) 0 S:=(NC o).tx (Oc (x9 h.no58 (h.ld 12 (.inl rfl))).1 λw hw=>(x9 h.no58 (h.ld w hw)).2)
theorem MS:BO oA:=⟨by decide,by decide,λw hw=>by rcases hw with rfl|rfl|rfl<;>rfl⟩
theorem MT:BO oB:=⟨by decide,by decide,λw hw=>by rcases hw with rfl|rfl|rfl<;>rfl⟩
structure RM (p:Row):Prop where
 num:(marks p).length=mc p
 len:(enc p).length≤801+60*deep p+165*mc p
 good:Good p
 tx:TX (enc p) (nl p) λw=>w∈marks p
theorem three {l:List Nat} (h:l.length≤2) (k:∀w,tw w→w∈l):False:=by
 have:=sub_len (l:=[12,13,14]) (by decide) (m:=l) λx m=>k x (by
  rcases List.mem_cons.mp m with rfl|m
  ·exact .inl rfl
  ·rcases List.mem_cons.mp m with rfl|m
   ·exact .inr (.inl rfl)
   ·exact .inr (.inr (List.mem_singleton.mp m)))
 exact absurd (Nat.le_trans this h) (by decide)
theorem O8 {b:By} {k:Nat} {S:Nat→Prop} (h:TX b k S) {w:Nat} (hw:tw w) (q:sv w b):S w:=by
 rcases h.l w hw [] (.inl rfl) (by rw[List.append_nil];exact CM.mp q) with z|z
 ·exact z
 ·exact zC z
theorem KZ:(aB oA).length≤123∧(aB oB).length≤123:=⟨Nat.le_trans (lH MO.1) (show 12*1+87≤123 by decide),lH MO.2⟩
theorem IH (w:Nat) (b:By):eA (eE w (aB oA) b (aB oB))≤b.length+123:=by
 have h:=KZ;refine gC (P:=λl=>eA l≤b.length+123) w ?_ ?_ ?_
 ·exact Nat.le_add_right _ _
 ·rw[eX,Nat.add_comm];exact Nat.add_le_add_left h.1 _
 ·rw[eX];exact Nat.add_le_add_left h.2 _
theorem Hv {w:Nat} {p:Row} (h:RM p) (hm:mc p+1≤3) (hd:deep p+1≤20):RM (.many w p):=by
 have hl:(enc p).length≤2400:=Nat.le_trans h.len (Nat.le_trans (Nat.add_le_add (Nat.add_le_add_left (Nat.mul_le_mul_left 60 (Nat.le_of_succ_le_succ hd)) 801) (Nat.mul_le_mul_left 165 (Nat.le_of_succ_le_succ hm))) (by decide));have hs:eA (cN w p)≤(enc p).length+123:=IH w (enc p);have h4:eA (cN w p)<4000:=Nat.lt_of_le_of_lt (Nat.le_trans hs (Nat.add_le_add_right hl 123)) (by decide)
 have ha:=tK MS λw=>w∈marks p
 have hb:=tK MT λw=>w∈marks p
 have hk:∀e∈eE w (aB oA,0) (enc p,nl p) (aB oB,0),TX e.1 e.2 λw=>w∈marks p:=oX (P:=λe:By×Nat=>TX e.1 e.2 λw=>w∈marks p) w ha h.tx hb
 have em:(eE w (aB oA,0) (enc p,nl p) (aB oB,0)).map (·.1)=cN w p:=j7 (λe:By×Nat=>e.1) w;have ek:sumK (eE w (aB oA,0) (enc p,nl p) (aB oB,0))=nl p:=gC (P:=λl=>sumK l=nl p) w (Nat.zero_add _) (Nat.zero_add _) (Nat.zero_add _);have h15:bq (cN w p)<15:=Nat.lt_of_not_le λq=>three (Nat.le_trans (Nat.le_of_eq h.num) (Nat.le_of_succ_le_succ hm)) λv hv=>by
  have v15:v<15:=by rcases hv with rfl|rfl|rfl<;>decide
  obtain⟨b,m,l⟩:=(fC (Nat.lt_trans v15 (by decide))).mp ((eZ h4).1.2 v (Nat.lt_of_lt_of_le v15 q));rw[←em] at m;obtain⟨e,me,rfl⟩:=List.mem_map.mp m;exact O8 (hk e me) hv l
 have hT:oV (cN w p):=⟨h4,h15⟩;have hj:=rD h15 _ hk;rw[em,ek] at hj;have lj:=jL (bodies:=cN w p) h15;have l2:=(fb (a:=aB oA) (x:=enc p) (b:=aB oB) w).2;refine⟨congrArg (·+1) h.num,?_,⟨h.good,hT⟩,((NH h15).tx hj).mono λv=>λz=>z.elim (λe=>e▸List.mem_cons_self) (List.mem_cons_of_mem _)⟩;show(Ep (bq (cN w p))++au (cN w p) (bq (cN w p))).length≤801+60*(deep p+1)+165*(mc p+1);refine List.length_append.symm▸?_;have t1:(Ep (bq (cN w p))).length+(au (cN w p) (bq (cN w p))).length≤60+(((enc p).length+123)+14*2+14):=Nat.add_le_add (ya _ h15) (Nat.le_trans lj (Nat.add_le_add_right (Nat.add_le_add hs (Nat.mul_le_mul_left 14 l2)) 14));have:=h.len;omega
theorem CN:∀p:Row,BR p→mc p≤3→deep p≤20→RM p:=by
 intro p
 induction p with
 |leaf o=>exactλh _ _=>⟨rfl,A3 h.len,Nat.lt_of_le_of_lt h.len (by decide),tK h _⟩
 |bare=>exactλh=>h.elim
 |many w p ih=>exactλh hm hd=>Hv (ih h (Nat.le_of_succ_le hm) (Nat.le_of_succ_le hd)) hm hd
 |lett p ih=>
  intro h hm hd;have i:=ih h hm (Nat.le_of_succ_le hd);have l:=i.len;have l2:(enc (.lett p)).length=32+(19+(enc p).length):=by
   show(FT++(jP++enc p)).length=_;rw[List.length_append,List.length_append,oN.1,oN.2.1]
  have hm':mc p≤3:=hm;have hd':deep p≤20:=Nat.le_of_succ_le hd;refine⟨i.num,?_,⟨i.good,?_⟩,OW.tx (NI.tx i.tx)⟩
  ·rw[l2];show _≤801+60*(deep p+1)+165*mc p;omega
  ·omega
set_option tactic.hygienic false
theorem GS {C:ay} {e:Expr} {α β σ:Type} {h:α→AV} {enc:σ→Loc×List AV} (g:β→AV) (Q:β→Prop) (H:∀x s,∃b s',(C5 C e (h x) (enc s).1 (enc s).2).p=some (.ok (some (g b),(enc s').1) (enc s').2)∧Q b):∀(xs:List α) (s:σ),∃(bs:List β) (s':σ),mL C e (xs.map h) (enc s).1 (enc s).2=some (.ok (bs.map g) (enc s').2)∧bs.length=xs.length∧∀b∈bs,Q b:=by
 intro xs
 induction xs with
 |nil=>
  intro s;exact⟨[],s,rfl,rfl,λ_ m=>zE m⟩
 |cons x xs ih=>
  intro s;obtain⟨b,s1,h1,q⟩:=H x s;obtain⟨bs,s2,h2,hl,hq⟩:=ih s1;refine⟨b::bs,s2,?_,congrArg (·+1) hl,λc m=>(List.mem_cons.mp m).elim (λe=>e▸q) (hq c)⟩;rw[pg] at h2;rw[pg,List.map_cons,Cs,h1];exact congrArg (λm=>bD m λvs S=>some (Res.ok (g b::vs) S)) h2
noncomputable def xC (w:Nat):Option AV:=cond (decide (w<3)) (some (k6 w)) none
noncomputable def AZ (w:Nat):Option AV:=cond (decide (2<w)) (some (k6 w)) none
structure RO (B:Row) (ws:List Nat) (p:Row):Prop where
 dc:dc p=ws.length+dc B
 deep:deep p=ws.length+deep B
 bare:mG p=mG B
 br:BR p↔BR B
 mc:mc p=(ws.filterMap xC).length+mc B
 nl:nl p=(ws.filterMap AZ).length+nl B
 size:size p≤2*ws.length+size B
theorem tn (B:Row):∀ws:List Nat,RO B ws (rowOf ws B):=by
 intro ws
 induction ws with
 |nil=>
  exact⟨(Nat.zero_add _).symm,(Nat.zero_add _).symm,rfl,Iff.rfl,(Nat.zero_add _).symm,(Nat.zero_add _).symm,Nat.le_add_left _ _⟩
 |cons w ws ih=>
  obtain⟨a,b,c,d,e,f,g⟩:=ih;have g':size (rowOf ws B)+2≤2*(w::ws).length+size B:=Nat.le_trans (Nat.add_le_add_right g 2) (Nat.le_of_eq (Nat.add_right_comm _ _ 2));have s:∀{k m:Nat},k=ws.length+m→k+1=(w::ws).length+m:=λh=>h▸Nat.add_right_comm _ _ 1
  show RO B (w::ws) (wrap w (rowOf ws B));unfold wrap;by_cases h:2<w
  ·rw[if_pos h];have e3:(w::ws).filterMap xC=ws.filterMap xC:=List.filterMap_cons_none (show cond (decide (w<3)) _ _=_ by rw[decide_eq_false (Nat.not_lt.mpr h)];rfl);have e2:(w::ws).filterMap AZ=k6 w::ws.filterMap AZ:=List.filterMap_cons_some (show cond (decide (2<w)) _ _=_ by rw[decide_eq_true h];rfl);exact⟨s a,s b,c,d,e3▸e,by rw[e2];exact(congrArg (·+1) f).trans (Nat.add_right_comm _ _ 1),Nat.le_trans (Nat.le_succ _) g'⟩
  ·rw[if_neg h];have e3:(w::ws).filterMap xC=k6 w::ws.filterMap xC:=List.filterMap_cons_some (show cond (decide (w<3)) _ _=_ by rw[decide_eq_true (Nat.lt_of_not_le h)];rfl);have e2:(w::ws).filterMap AZ=ws.filterMap AZ:=List.filterMap_cons_none (show cond (decide (2<w)) _ _=_ by rw[decide_eq_false h];rfl);exact⟨s a,s b,c,d,by rw[e3];exact(congrArg (·+1) e).trans (Nat.add_right_comm _ _ 1),e2▸f,g'⟩
noncomputable abbrev KV (sc:List AV) (fa ba:Bool) (o:By) (B:List AV) (d st:Nat) (p:AV) (ws:List AV) (x y z:Option AV):Loc:=L (.fn 186) [some (.lst sc),some (.ref 0),some (.bool fa),some (.bool ba),some (.bytes o),some (.lst B),some (.int d),some (.int st),some p,some (.lst ws),x,y,z]
noncomputable abbrev X3:Expr:=ng (.fn 186) [8,0,0] [0,0,0,1]
section
variable {n i d st w:Nat} {sc B S:List AV} {fa ba:Bool} {o:By} {x y z v:Option AV} {p:Row} {ws:List Nat}
theorem yS (ws:List Nat):mL (En n (.fn 186)) X3 (ws.map k6) (LX X3 [none,none]) S=some (.ok (ws.filterMap xC) S):=
 comp_map (enc:=λv=>LX X3 [none,v]) xC (λ_ w=>some (k6 w)) ws none λw _ v=>by
  unfold xC;by_cases h:w<3
  ·rw[decide_eq_true h];exact aj [gu h,eY] (by kernel_rfl)
  ·rw[decide_eq_false h];exact aj [ju (Nat.le_of_not_lt h),eN] (by kernel_rfl)
theorem NY (i s m:Nat):Int.fmod ((i:Int)*s) (m:Int)=((i*s %m:Nat):Int):=by rw[Int.fmod_eq_emod_of_nonneg _ (Int.natCast_nonneg m)];rfl
theorem Pk (h:st≤ao):(small (i:Int)||small (st:Int))=true:=by rw[bR h,Bool.or_true]
theorem jt (h:ws.length≤100):(ws.map k6).length≤ao∧(ws.filterMap xC).length≤ao∧((ws.map k6).length+1)≤ao:=by
 rw[List.length_map];exact⟨Nat.le_trans h (by decide),Nat.le_trans (List.length_filterMap_le _ _) (Nat.le_trans h (by decide)),Nat.le_trans (Nat.succ_le_succ h) (by decide)⟩
theorem Qs (h:ws.length≤100) (c:2<(ws.filterMap xC).length):(tF (En (n+3) (.fn 186)) 0 (aK (.fn 186) [8]) (.int i) (KV sc fa ba o B d st (bh p) (ws.map k6) x y z) S).p=some (.aY (KV sc fa ba o B d st (bh (wrap 3 p)) ((3::ws).map k6) (some (.int i)) (some (.int 3)) z) S):=by
 have l1:=(jt h).1;have l2:=(jt h).2.1;have l3:=(jt h).2.2;have a:=lE (n:=n) 3 p;obtain⟨c1,n1,v1,e1⟩:=(aJ p).ex;obtain⟨c2,n2,v2,e2⟩:=(aJ (wrap 3 p)).ex;rw[e1,e2] at a;rw[e1,e2];exact aj [gT l1,eL (yS (n:=n+3) (S:=S) ws),gT l2,eK,gu c,eT,gT l3,eC a] (by kernel_rfl)
theorem Q0 (h:ws.length≤100) (c:¬2<(ws.filterMap xC).length) (hs:st≤ao):(tF (En (n+3) (.fn 186)) 0 (aK (.fn 186) [8]) (.int i) (KV sc fa ba o B d st (bh p) (ws.map k6) x y z) S).p=some (.aY (KV sc fa ba o B d st (bh (wrap (i*st %5) p)) ((i*st %5::ws).map k6) (some (.int i)) (some (.int (i*st %5:Nat))) z) S):=by
 have l1:=(jt h).1;have l2:=(jt h).2.1;have l3:=(jt h).2.2;have a:=lE (n:=n) (i*st %5) p;have f:=NY i st 5;generalize i*st %5=w at*;obtain⟨c1,n1,v1,e1⟩:=(aJ p).ex;obtain⟨c2,n2,v2,e2⟩:=(aJ (wrap w p)).ex;rw[e1,e2] at a;rw[e1,e2];exact aj [gT l1,eL (yS (n:=n+3) (S:=S) ws),gT l2,eK,ju (Nat.le_of_not_lt c),eG (Pk (i:=i) hs),eK,eT,eV (congrArg AV.int f),eT,gT l3,eC a] (by kernel_rfl)
theorem Rm (hs:st≤ao) {W:List AV}:(tF (En (n+3) (.fn 186)) 0 (aK (.fn 186) [9]) (.int i) (KV sc fa ba o B d st (bh p) W x y z) S).p=some (.aY (KV sc fa ba o B d st (bh (wrap (3*(i*st %2)) p)) W (some (.int i)) y z) S):=by
 have a:=lE (n:=n) (3*(i*st %2)) p;have f:=NY i st 2;generalize i*st %2=w at*;have m:AV.int (3*(w:Int))= .int (3*w:Nat):=rfl;generalize 3*w=u at*;obtain⟨c1,n1,v1,e1⟩:=(aJ p).ex;obtain⟨c2,n2,v2,e2⟩:=(aJ (wrap u p)).ex;rw[e1,e2] at a;rw[e1,e2];exact aj [eG (Pk (i:=i) hs),eK,eT,eV (congrArg AV.int f),eT,eV m,eC a] (by kernel_rfl)
end
set_option tactic.hygienic false
noncomputable abbrev XB:Expr:=ng (.fn 186) [3] [0,1]
noncomputable abbrev X2:Expr:=ng (.fn 186) [12] [0,1,1]
noncomputable abbrev yn (k:Nat):List AV:=jw 0 1 (kR 0 k 1)
theorem pZ (k:Nat):yn k=(List.range k).map iA:=xK k
structure SU (n c1 c2 c3 d st N:Nat) (sc:List AV) (o:By) (bs:List By) (s0 s1 s2 s3 s4 s5 s6 s7:dj):Prop where
 h0:run n (.fn 178) [.lst sc] none=some (.ret (di s0) true none)
 h1:run n (.fn 179) [.ref 0,.int (3:Nat)] (some (di s0))=some (.ret (.int c1) false (some (di s1)))
 h2:run n (.fn 179) [.ref 0,.int (4:Nat)] (some (di s1))=some (.ret (.int c2) false (some (di s2)))
 h3:run n (.fn 180) [.ref 0] (some (di s2))=some (.ret (.bytes o) false (some (di s3)))
 h4:run n (.fn 179) [.ref 0,.int (3:Nat)] (some (di s3))=some (.ret (.int c3) false (some (di s4)))
 lc:c3≤ao
 lr:(yn c3).length≤ao
 h5:mL (En n (.fn 186)) XB (yn c3) (LX XB [none,none,none,some (.ref 0)]) [di s4]=some (.ok (bs.map .bytes) [di s5])
 lb:(bs.map AV.bytes).length≤ao
 lo:(AV.bytes o::bs.map AV.bytes).length≤ao
 h6:Rn n (.fn 162) [.lst (.bytes o::bs.map .bytes)] (.str (dP N))
 h7:Rn n (.fn 181) [.lst (.bytes o::bs.map .bytes)] (.str (dP N))
 h8:Rn n (.fn 162) [.lst []] (.str (dP 0))
 h9:run n (.fn 179) [.ref 0,.int (23:Nat)] (some (di s5))=some (.ret (.int d) false (some (di s6)))
 h10:run n (.fn 179) [.ref 0,.int (9:Nat)] (some (di s6))=some (.ret (.int st) false (some (di s7)))
 ld:d≤ao
section
variable {n c1 c2 c3 d st N:Nat} {sc:List AV} {o D:By} {bs:List By} {s0 s1 s2 s3 s4 s5 s6 s7:dj} {p:AV} {W K:List AV} {x y:Option AV} {c':Nat} {ns':List Str} {vs':List AV}
noncomputable def Mz (h:SU n c1 c2 c3 d st N sc o bs s0 s1 s2 s3 s4 s5 s6 s7):List Ev:=[eC h.h0,eC h.h1,eC h.h2,eT,eC h.h3,eT,eC h.h4,gS h.lc,gT h.lr,eL h.h5,gT h.lb,gT h.lo,eC h.h6,eC h.h7,eB (MY N),eT,eC h.h8,eT,eN,eN,eC h.h9,eC h.h10,eT]
noncomputable abbrev n6 (sc:List AV) (c1 c2:Nat) (o:By) (bs:List By) (d st:Nat) (p:AV) (W:List AV) (x y:Option AV):Loc:=KV sc ((c1:Int)==0) ((c2:Int)==1) o (.bytes o::bs.map .bytes) d st p W x y none
structure PU where
 ws:List Nat
 x:Option AV
 y:Option AV
theorem Jg (hd:d≤22) (hs:st≤ao) (q:Row):∃ws x y,ws.length=d∧(ws.filterMap xC).length≤3∧mF (En (n+3) (.fn 186)) 0 (aK (.fn 186) [8]) (yn d) (n6 sc c1 c2 o bs d st (bh q) [] none none) [di s7]=some (.aY (n6 sc c1 c2 o bs d st (bh (rowOf ws q)) (ws.map k6) x y) [di s7]):=by
 rw[pZ];obtain⟨r,e,s,h1,h2,rfl⟩:=bV (C:=En (n+3) (.fn 186)) (k:=0) (st:=aK (.fn 186) [8]) (enc:=λs:PU=>(n6 sc c1 c2 o bs d st (bh (rowOf s.ws q)) (s.ws.map k6) s.x s.y,[di s7])) (Q:=λr=>∃s:PU,s.ws.length=d∧(s.ws.filterMap xC).length≤3∧r= .aY (n6 sc c1 c2 o bs d st (bh (rowOf s.ws q)) (s.ws.map k6) s.x s.y) [di s7]) iA (λxs s=>s.ws.length+xs.length=d∧(s.ws.filterMap xC).length≤3)
  (λi xs s h=>by
   have l:s.ws.length≤100:=Nat.le_trans (Nat.le_add_right _ _) (Nat.le_trans (Nat.le_of_eq h.1) (Nat.le_trans hd (by decide)));have g:∀w,(w::s.ws).length+xs.length=d:=λw=>(Nat.add_right_comm s.ws.length 1 xs.length).trans h.1
   by_cases c:2<(s.ws.filterMap xC).length
   ·exact⟨_,Qs l c,.inl ⟨⟨3::s.ws,_,_⟩,rfl,g 3,h.2⟩⟩
   ·refine⟨_,Q0 l c hs,.inl ⟨⟨i*st %5::s.ws,_,_⟩,rfl,g _,?_⟩⟩;rw[List.filterMap_cons];split
    ·exact h.2
    ·exact Nat.succ_le_succ (Nat.le_of_not_lt c))
  (λs h=>⟨s,h.1,h.2,rfl⟩) (List.range d) ⟨[],none,none⟩ ⟨(Nat.zero_add _).trans List.length_range,Nat.zero_le _⟩
 exact⟨s.ws,s.x,s.y,h1,h2,e⟩
theorem JN (hs:st≤ao) (q:Row) (ws:List Nat) (M:Nat):∃V x',V.length=ws.length+M∧mF (En (n+3) (.fn 186)) 0 (aK (.fn 186) [9]) (yn M) (n6 sc c1 c2 o bs d st (bh (rowOf ws q)) W x y) [di s7]=some (.aY (n6 sc c1 c2 o bs d st (bh (rowOf V q)) W x' y) [di s7]):=by
 rw[pZ];obtain⟨r,e,s,h1,rfl⟩:=bV (C:=En (n+3) (.fn 186)) (k:=0) (st:=aK (.fn 186) [9]) (enc:=λs:PU=>(n6 sc c1 c2 o bs d st (bh (rowOf s.ws q)) W s.x y,[di s7])) (Q:=λr=>∃s:PU,s.ws.length=ws.length+M∧r= .aY (n6 sc c1 c2 o bs d st (bh (rowOf s.ws q)) W s.x y) [di s7]) iA (λxs s=>s.ws.length+xs.length=ws.length+M)
  (λi xs s h=>⟨_,Rm hs,.inl ⟨⟨3*(i*st %2)::s.ws,_,none⟩,rfl,(Nat.add_right_comm s.ws.length 1 xs.length).trans h⟩⟩)
  (λs h=>⟨s,h,rfl⟩) (List.range M) ⟨ws,x,none⟩ (congrArg (ws.length+·) List.length_range)
 exact⟨s.ws,s.x,h1,e⟩
theorem I8 (q:Row):mF (En n (.fn 186)) 0 (aK (.fn 186) [9]) (yn 0) (n6 sc c1 c2 o bs d st (bh q) W x y) [di s7]=some (.aY (n6 sc c1 c2 o bs d st (bh q) W x y) [di s7]):=by rw[pZ];rfl
theorem IK {S:List AV} (ws:List Nat):mL (En n (.fn 186)) X2 (ws.map k6) (LX X2 [none,none]) S=some (.ok (ws.filterMap AZ) S):=
 comp_map (enc:=λv=>LX X2 [none,v]) AZ (λ_ w=>some (k6 w)) ws none λw _ v=>by
  unfold AZ;by_cases h:2<w
  ·rw[decide_eq_true h];exact aj [gu h,eY] (by kernel_rfl)
  ·rw[decide_eq_false h];exact aj [ju (Nat.le_of_not_lt h),eN] (by kernel_rfl)
noncomputable def bE {f:Bool} {q:AV} {l l2:Loc} (hb:((c2:Int)==1)=f) (he:List Ev) (hd:d≤ao) (e8:mF (En n (.fn 186)) 0 (aK (.fn 186) [8]) (yn d) (n6 sc c1 c2 o bs d st q [] none none) [di s7]=some (.aY l [di s7])) {g:Bool} {M:Nat} (hf:((c1:Int)==0)=g) (e9:mF (En n (.fn 186)) 0 (aK (.fn 186) [9]) (yn M) l [di s7]=some (.aY l2 [di s7])):List Ev:=eB hb::(he++[eT,gS hd,eS e8,eB hf,eT,eS e9])
end
set_option tactic.hygienic false
section
variable {n c1 c2 c3 d st N M:Nat} {sc:List AV} {o D:By} {bs:List By} {s0 s1 s2 s3 s4 s5 s6 s7:dj} {p:Row} {W V:List AV} {x y x' y':Option AV} {u:AV} {ws:List Nat}
theorem Cv (h:SU (n+2) c1 c2 c3 d st N sc o bs s0 s1 s2 s3 s4 s5 s6 s7) (hb:((c2:Int)==1)=true) {f:Bool} (hf:((c1:Int)==0)=f)
 (e8:mF (En (n+2) (.fn 186)) 0 (aK (.fn 186) [8]) (yn d) (n6 sc c1 c2 o bs d st (gm []) [] none none) [di s7]=some (.aY (n6 sc c1 c2 o bs d st u W x y) [di s7]))
 (e9:mF (En (n+2) (.fn 186)) 0 (aK (.fn 186) [9]) (yn (cond f 1100 0)) (n6 sc c1 c2 o bs d st u W x y) [di s7]=some (.aY (n6 sc c1 c2 o bs d st (bh p) V x' y') [di s7]))
 (r1:∀w,Rn (n+2) (.fn 184) [bh p,.bool w] (.bool true)):Rn (n+3) (.fn 186) [.lst sc] (.bool true):=by
 have r2:=r1 true;have r1:=r1 false;obtain⟨c,ns,vs,e⟩:=(aJ p).ex;rw[e] at e9 r1 r2;cases f with
 |true=>exact aa (Mz h++(bE hb [eT,eT,eC (gp (n:=n+1) (ps:=[]))] h.ld e8 hf e9++[eB hb,eY,eC r1,eY,eC r2])) (by kernel_rfl)
 |false=>exact aa (Mz h++(bE hb [eT,eT,eC (gp (n:=n+1) (ps:=[]))] h.ld e8 hf e9++[eB hb,eY,eC r1,eY,eC r2])) (by kernel_rfl)
theorem Il (h:SU (n+2) c1 c2 c3 d st N sc o bs s0 s1 s2 s3 s4 s5 s6 s7) (hb:((c2:Int)==1)=false) (hf:((c1:Int)==0)=true)
 (e8:mF (En (n+2) (.fn 186)) 0 (aK (.fn 186) [8]) (yn d) (n6 sc c1 c2 o bs d st (bb o) [] none none) [di s7]=some (.aY (n6 sc c1 c2 o bs d st u W x y) [di s7]))
 (e9:mF (En (n+2) (.fn 186)) 0 (aK (.fn 186) [9]) (yn 1100) (n6 sc c1 c2 o bs d st u W x y) [di s7]=some (.aY (n6 sc c1 c2 o bs d st (bh p) V x' y') [di s7]))
 (r1:∀w,Rn (n+2) (.fn 184) [bh p,.bool w] (.bool true)):Rn (n+3) (.fn 186) [.lst sc] (.bool true):=by
 have r2:=r1 true;have r1:=r1 false;obtain⟨c,ns,vs,e⟩:=(aJ p).ex;rw[e] at e9 r1 r2;exact aa (Mz h++(bE hb [eC (cQ (n:=n) (o:=o))] h.ld e8 hf e9++[eB hb,eB hf,eY,eC r1,eY,eC r2])) (by kernel_rfl)
theorem Cy (h:SU (n+2) c1 c2 c3 d st N sc o bs s0 s1 s2 s3 s4 s5 s6 s7) (hb:((c2:Int)==1)=false) (hf:((c1:Int)==0)=false) (hd:20<d)
 (e8:mF (En (n+2) (.fn 186)) 0 (aK (.fn 186) [8]) (yn d) (n6 sc c1 c2 o bs d st (bb o) [] none none) [di s7]=some (.aY (n6 sc c1 c2 o bs d st (bh p) V x' y') [di s7]))
 (r1:∀w,Rn (n+2) (.fn 184) [bh p,.bool w] (.bool true)):Rn (n+3) (.fn 186) [.lst sc] (.bool true):=by
 have r2:=r1 true;have r1:=r1 false;have e9:=I8 (n:=n+2) (sc:=sc) (c1:=c1) (c2:=c2) (o:=o) (bs:=bs) (d:=d) (st:=st) (s7:=s7) (W:=V) (x:=x') (y:=y') p;obtain⟨c,ns,vs,e⟩:=(aJ p).ex;rw[e] at e8 e9 r1 r2;exact aa (Mz h++(bE hb [eC (cQ (n:=n) (o:=o))] h.ld e8 hf e9++[eB hb,eB hf,gu hd,eY,eC r1,eY,eC r2])) (by kernel_rfl)
theorem Kx (h:SU (n+2) c1 c2 c3 d st N sc o bs s0 s1 s2 s3 s4 s5 s6 s7) (hb:((c2:Int)==1)=false) (hf:((c1:Int)==0)=false) (hd:d≤20)
 (e8:mF (En (n+2) (.fn 186)) 0 (aK (.fn 186) [8]) (yn d) (n6 sc c1 c2 o bs d st (bb o) [] none none) [di s7]=some (.aY (n6 sc c1 c2 o bs d st (bh p) (ws.map k6) x' y') [di s7]))
 (hw:ws.length≤100) (hu:Rn (n+2) (.fn 173) [bh p] (.bytes D)) (hc:dq PT D.length D=(ws.filterMap AZ).length)
 (hr:d≤7→Rn (n+2) (.fn 185) [.bytes D,.lst (ws.map k6),.bytes o] (.bool true)):Rn (n+3) (.fn 186) [.lst sc] (.bool true):=by
 have e9:=I8 (n:=n+2) (sc:=sc) (c1:=c1) (c2:=c2) (o:=o) (bs:=bs) (d:=d) (st:=st) (s7:=s7) (W:=ws.map k6) (x:=x') (y:=y') p;obtain⟨c,ns,vs,e⟩:=(aJ p).ex;have l1:(ws.map k6).length≤ao:=(jt hw).1;have l2:(ws.filterMap AZ).length≤ao:=Nat.le_trans (List.length_filterMap_le _ _) (Nat.le_trans hw (by decide));have hx:=IK (n:=n+2) (S:=[di s7]) ws;have hc':AV.int (dq PT D.length D:Nat)= .int ((ws.filterMap AZ).length:Nat):=congrArg (λk:Nat=>AV.int k) hc;have kk:(!(((ws.filterMap AZ).length:Nat):Int)==(((ws.filterMap AZ).length:Nat):Int))=false:=by rw[beq_self_eq_true];rfl
 rw[e] at e8 e9 hu;by_cases q:7<d
 ·exact xG (congrArg AV.bool (decide_eq_true (Int.ofNat_lt.mpr q))) (Mz h++(bE hb [eC (cQ (n:=n) (o:=o))] h.ld e8 hf e9++[eB hb,eB hf,ju hd,eN,eC hu,eT,eV hc',gT l1,eL hx,gT l2,eK,eB kk,gu q])) (by kernel_rfl)
 ·exact aa (Mz h++(bE hb [eC (cQ (n:=n) (o:=o))] h.ld e8 hf e9++[eB hb,eB hf,ju hd,eN,eC hu,eT,eV hc',gT l1,eL hx,gT l2,eK,eB kk,ju (Nat.le_of_not_lt q),eC (hr (Nat.le_of_not_lt q))])) (by kernel_rfl)
end
set_option tactic.hygienic false
theorem zS:bq []=0:=Nat.eq_zero_of_not_pos λh=>((eZ (bodies:=[]) (by decide)).1.2 0 h).elim λ_ h=>nomatch h.1
theorem Jl {o:By} (h:P1 o 12):BO o:=by
 obtain⟨cs,rfl,h2,h3⟩:=h;exact Py h2 h3
theorem BL:∀l:List By,(∀b∈l,BO b)→eA l≤528*l.length
 |[],_=>Nat.le_refl _
 |b::l,h=>by
  rw[eX,List.length_cons,Nat.mul_succ,Nat.add_comm];exact Nat.add_le_add (BL l λc m=>h c (List.mem_cons_of_mem _ m)) (h b List.mem_cons_self).len
theorem Ma (n:Nat) {ns:List Int} (hn:ns.length≤63):∃(c1 c2 c3 d st N:Nat) (o:By) (bs:List By) (s0 s1 s2 s3 s4 s5 s6 s7:dj),SU (n+89) c1 c2 c3 d st N (ns.map .int) o bs s0 s1 s2 s3 s4 s5 s6 s7∧BO o∧d≤22∧st≤ao:=by
 obtain⟨s0,e0⟩:=sE (n+88) hn;obtain⟨c1,s1,_,e1⟩:=bH (n+88) s0 3 (by decide) (by decide);obtain⟨c2,s2,_,e2⟩:=bH (n+88) s1 4 (by decide) (by decide);obtain⟨o,s3,ho,e3⟩:=m7 (n+87) s2;obtain⟨c3,s4,l4,e4⟩:=bH (n+88) s3 3 (by decide) (by decide);obtain⟨bs,s5,e5,lb,hb⟩:=GS (C:=En (n+89) (.fn 186)) (e:=XB) (h:=iA) (enc:=λs:dj×Option AV=>(LX XB [none,s.2,none,some (.ref 0)],[di s.1])) AV.bytes BO (λi s=>by
  obtain⟨f,s',hf,e⟩:=m7 (n+87) s.1;exact⟨f,(s',some (iA i)),aj [eY,eC e] (by kernel_rfl),Jl hf⟩) (List.range c3) (s4,none)
 rw[List.length_range] at lb;obtain⟨d,s6,l6,e6⟩:=bH (n+88) s5.1 23 (by decide) (by decide);obtain⟨st,s7,l7,e7⟩:=bH (n+88) s6 9 (by decide) (by decide);have ob:=Jl ho;have l3:bs.length≤2:=lb▸Nat.le_of_lt_succ l4;have hs:eA (o::bs)<4000:=by
  have a:=BL (o::bs) λb m=>(List.mem_cons.mp m).elim (λe=>e▸ob) (hb b)
  have b:528*(o::bs).length≤528*3:=Nat.mul_le_mul_left 528 (Nat.succ_le_succ l3);exact Nat.lt_of_le_of_lt (Nat.le_trans a b) (by decide)
 have b0:=pU (n+86) (bodies:=[]) (by decide);rw[zS] at b0;have f6:Rn (n+89) (.fn 162) [.lst (.bytes o::bs.map .bytes)] (.str (dP (bq (o::bs)))):=pU (n+86) (bodies:=o::bs) hs;have f7:Rn (n+89) (.fn 181) [.lst (.bytes o::bs.map .bytes)] (.str (dP (bq (o::bs)))):=qZ (n+88) (bodies:=o::bs) hs (Nat.le_trans (show(o::bs).length≤3 from Nat.succ_le_succ l3) (by decide));generalize bq (o::bs)=N at*;have H:SU (n+89) c1 c2 c3 d st N (ns.map .int) o bs s0 s1 s2 s3 s4 s5.1 s6 s7:=by
  constructor
  ·exact e0
  ·exact e1
  ·exact e2
  ·exact e3
  ·exact e4
  ·exact Nat.le_trans (Nat.le_of_lt l4) (by decide)
  ·rw[pZ,List.length_map,List.length_range];exact Nat.le_trans (Nat.le_of_lt l4) (by decide)
  ·rw[pZ];exact e5
  ·rw[List.length_map];exact Nat.le_trans l3 (by decide)
  ·rw[List.length_cons,List.length_map];exact Nat.le_trans (Nat.succ_le_succ l3) (by decide)
  ·exact f6
  ·exact f7
  ·exact b0
  ·exact e6
  ·exact e7
  ·exact Nat.le_trans (Nat.le_of_lt l6) (by decide)
 exact⟨c1,c2,c3,d,st,_,o,bs,s0,s1,s2,s3,s4,s5.1,s6,s7,H,ob,Nat.le_of_lt_succ l6,Nat.le_trans (Nat.le_of_lt l7) (by decide)⟩
theorem sA {B:Row} {V:List Nat} (hB:size B≤1) (h:V.length≤1122):size (rowOf V B)<100000:=Nat.lt_of_le_of_lt (Nat.le_trans (tn B V).size (Nat.add_le_add (Nat.mul_le_mul_left 2 h) hB)) (by decide)
theorem law_ok (n:Nat) (ns:List Int) (hn:ns.length≤63):Rn (n+90) (.fn 186) [.lst (ns.map .int)] (.bool true):=by
 obtain⟨c1,c2,c3,d,st,N,o,bs,s0,s1,s2,s3,s4,s5,s6,s7,h,ob,hd,hs⟩:=Ma n hn;have ref:∀{p:Row},size p<100000→Px p→∀w,Rn (n+89) (.fn 184) [bh p,.bool w] (.bool true):=λhz hr w=>xc (n:=n+8) hz w hr
 cases hb:((c2:Int)==1) with
 |true=>
  obtain⟨ws,x,y,w1,_,e8⟩:=Jg (n:=n+86) (sc:=ns.map .int) (c1:=c1) (c2:=c2) (o:=o) (bs:=bs) (s7:=s7) hd hs .bare;obtain⟨V,x',v1,e9⟩:=JN (n:=n+86) (sc:=ns.map .int) (c1:=c1) (c2:=c2) (o:=o) (bs:=bs) (d:=d) (s7:=s7) (W:=ws.map k6) (x:=x) (y:=y) hs .bare ws (cond ((c1:Int)==0) 1100 0);have m:cond ((c1:Int)==0) 1100 0≤1100:=by cases ((c1:Int)==0)<;>decide
  exact Cv (n:=n+87) h hb rfl e8 e9 (ref (sA (Nat.le_refl 1) (v1▸Nat.add_le_add (w1▸hd) m)) (.inr (tn .bare V).bare))
 |false=>
  obtain⟨ws,x,y,w1,w3,e8⟩:=Jg (n:=n+86) (sc:=ns.map .int) (c1:=c1) (c2:=c2) (o:=o) (bs:=bs) (s7:=s7) hd hs (.leaf o);cases hf:((c1:Int)==0) with
  |true=>
   obtain⟨V,x',v1,e9⟩:=JN (n:=n+86) (sc:=ns.map .int) (c1:=c1) (c2:=c2) (o:=o) (bs:=bs) (d:=d) (s7:=s7) (W:=ws.map k6) (x:=x) (y:=y) hs (.leaf o) ws 1100;refine Il (n:=n+87) h hb hf e8 e9 (ref (sA (Nat.le_refl 1) (v1▸Nat.add_le_add_right (w1▸hd) 1100)) (.inl ?_));rw[(tn (.leaf o) V).dc,v1];exact Nat.lt_of_lt_of_le (by decide:20<1100) (Nat.le_add_left _ _)
  |false=>
   have R:=tn (.leaf o) ws;have z:=sA (B:= .leaf o) (V:=ws) (Nat.le_refl 1) (w1▸Nat.le_trans hd (by decide));have dd:dc (rowOf ws (.leaf o))=d:=R.dc.trans w1;have de:deep (rowOf ws (.leaf o))=d:=R.deep.trans w1;by_cases q:20<d
   ·exact Cy (n:=n+87) h hb hf q e8 (ref z (.inl (dd▸q)))
   ·have q':=Nat.le_of_not_lt q;have M:=CN _ (R.br.mpr ob) (Nat.le_trans (Nat.le_of_eq R.mc) w3) (de▸q');have c:=M.tx.c [] (.inl rfl);rw[List.append_nil] at c;have lD:(enc (rowOf ws (.leaf o))).length<80000:=Nat.lt_of_le_of_lt M.len (Nat.lt_of_le_of_lt (Nat.add_le_add (Nat.add_le_add_left (Nat.mul_le_mul_left 60 (de▸q')) 801) (Nat.mul_le_mul_left 165 (Nat.le_trans (Nat.le_of_eq R.mc) w3))) (by decide))
    exact Kx (n:=n+87) h hb hf q' e8 (w1▸Nat.le_trans hd (by decide)) (C6 (n:=n+9) z M.good (dd▸q)) (((BV _ _ (Nat.le_refl _)).trans c).trans ((Nat.zero_add _).trans R.nl)) λl7=>zK (n:=n+54) M.good lD (Nat.lt_of_le_of_lt ob.len (by decide)) (de▸Nat.lt_of_le_of_lt l7 (by decide))
end Mine
end
theorem PySem.Challenge.cw_sa0555_01_holds : PySem.Challenge.rw_sa0555_01.Holds :=
 Mine.law_from λns h=>⟨false,Mine.law_ok 30 ns h⟩
