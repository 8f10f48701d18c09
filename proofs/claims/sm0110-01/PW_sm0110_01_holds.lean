import PyProof.Rows.All
import Wide.All
import OpenK.AllK
import KE.KDictList
import KE.KNest
import PySem.Challenge.RW_sm0110_01
set_option maxRecDepth 100000
set_option autoImplicit false
set_option linter.all false
set_option Elab.async false
set_option bootstrap.genMatcherCode false
set_option genInjectivity false
set_option genSizeOf false
set_option compiler.extract_closed false
namespace Mine.Internal
open PySem PySem.W PySem.Calls PyProof.Rows PySem.Spec
noncomputable section
local macro_rules
  | `(tactic| rfl') => `(tactic| kernel_rfl)
theorem box {p : Prop} (h : (p → False) → False) : p := Classical.byContradiction h
section
noncomputable abbrev pw:Program:=PySem.Challenge.pw_sm0110_01
noncomputable def zE(i:Nat):Stmt:=pw.main.body.getD i (.Pass ⟨0,0,0,0⟩)
noncomputable def wQ(i:Nat)(g:Addr)(dv kv doc pm:Value)(an:Option Addr)(cd ct:Value)(bt:Addr):FuncData:=match zE i with
 |.FunctionDef n a b _ _ _ sc _ _ _=>⟨n,n,a,.stmts b,sc,g,[],dv,kv,doc,pm,an,cd,ct,bt⟩
 |_=>default
noncomputable def FG(f:Str):Stmt→Bool
 |.FunctionDef n ..=>n == f
 |_=>false
noncomputable def Ca(i:Nat)(f:Str):Stmt:=match zE i with
 |.ClassDef _ _ _ b ..=>(b.find? (FG f)).getD (.Pass ⟨0,0,0,0⟩)
 |_=>.Pass ⟨0,0,0,0⟩
noncomputable def wu(i:Nat)(f q:String)(g:Addr)(dv kv doc pm:Value)(an:Option Addr)(cd ct:Value)(bt:Addr):FuncData:=match Ca i (Str.ofString f)with
 |.FunctionDef n a b _ _ _ sc _ _ _=>⟨n,Str.ofString q,a,.stmts b,sc,g,[],dv,kv,doc,pm,an,cd,ct,bt⟩
 |_=>default
noncomputable abbrev vn:Value:=.none
noncomputable abbrev vr(a:Nat):Value:=.ref a
noncomputable abbrev vs(x:String)(t:Nat):Value:=.str (Str.ofString x) t
noncomputable abbrev vi(i:Int)(t:Nat):Value:=.int i t
noncomputable abbrev sq(l:List Value)(n:Nat):Data:=.seq l.toArray n
noncomputable abbrev fl(l:List Value):Data:=.fields l.toArray
noncomputable abbrev dc(l:List DictEntry)(n:Nat):Data:=.dict l.toArray n
noncomputable abbrev en(P:Params)(k:String)(t:Nat)(v:Value):DictEntry:=⟨PyData.keyHash P (Str.ofString k),.str (Str.ofString k) t,v⟩
noncomputable abbrev ob(c:Value)(d:Option Addr)(x:Data)(s:List (Option Value)):Obj:=⟨c,d,x,s.toArray⟩
noncomputable abbrev hq(l:List Obj):Heap:=⟨⟨l⟩,{}⟩
noncomputable abbrev N(o:Obj)(l r:BT):BT:=.node o l r
noncomputable abbrev L:BT:=.nil
noncomputable abbrev F(o:Obj):BT:=.node o .nil .nil
noncomputable def evs:List Obj→List Obj
 |a::l=>a::(match l with|_::m=>evs m|[]=>[])
 |[]=>[]
noncomputable def bt:Nat→List Obj→BT
 |n+1,o::l=>N o (bt n (evs l)) (bt n (evs l.tail))
 |_,_=>.nil
noncomputable def zc(a:String)(t:Nat)(b:String)(u v:Nat)(l i j k f:Int)(x:Nat)(o:Bool)(y:Nat)(p q r s:Value)(m n:Int)(w:Nat):Obj:=ob (.type "code") none (fl [vs a t,vs b u,vs "/claim/cut.py" v,vi l 0,vi i 0,vi j 0,vi k 0,vi f 0,vr x,.bool o,vi 181 0,vr y,p,q,r,s,vi m 0,vi n 0,vs "/claim/cut.py" w]) []
noncomputable def zt(l:List Value):Obj:=ob (.type "tuple") none (sq l 0) []
noncomputable def zv(l:List Value):Obj:=ob vn none (fl l) []
noncomputable def zf(i g:Nat)(a:Value)(m:String)(t c:Nat):Obj:=ob (.type "function") none (.func (wQ i g a vn vn (vs m t) none (vr c) vn 0)) []
noncomputable def zg(i:Nat):Obj:=ob vn none (.func (wQ i 0 vn vn vn vn none vn vn 0)) []
noncomputable def zd(l:List DictEntry)(n:Nat):Obj:=ob (.type "dict") none (dc l n) []
noncomputable def ctl:List Nat→List Value
 |a::b::c::l=>vi a 0::vi b 0::vr c::ctl l
 |_=>[]
noncomputable def ct(l:List Nat):Obj:=zv (ctl l)
noncomputable def o4:Obj:=zt []
noncomputable def o5:Obj:=zv []
def o6:Obj:=zc "<module>" 182 "<module>" 183 184 1 0 0 0 0 11 false 12 vn vn vn vn 185 1 186
noncomputable def y195:Value:=.type "frame"
def y196:Option Value:=some (vr 3)
def o7:Obj:=ob y195 none .plain [(some (vr 13)),y196,y196,none,(some (vs "__main__" 164)),none,(some (vr 0))]
def o10(P:Params):Obj:=ob vn none (dc [(en P "type.__subclasses__.Exception.0" 212 (vi 31 0)),(en P "type.__subclasses__.Exception.n" 213 (vi 1 0))] 2) []
def y60:Value:=vs "vectorcove.errors" 194
def y50(P:Params):DictEntry:=en P "__doc__" 166 vn
def y17(P:Params):DictEntry:=en P "__package__" 167 vn
def y2(P:Params):DictEntry:=en P "__loader__" 168 (.builtin "__main__.__loader__#opaque")
def y42(P:Params):DictEntry:=en P "__spec__" 169 vn
def y7(P:Params):DictEntry:=en P "__annotations__" 170 (vr 6)
def y9(P:Params):DictEntry:=en P "__builtins__" 171 (vr 4)
def y4(P:Params):DictEntry:=en P "__file__" 173 (vs "/claim/cut.py" 172)
def y24(P:Params):DictEntry:=en P "__cached__" 174 vn
def y23(P:Params):DictEntry:=en P "_wall" 193 (vr 21)
def y11(P:Params):DictEntry:=en P "CoveError" 215 (vr 31)
noncomputable def y132:Value:=.type "Exception"
noncomputable def y82:Value:=.type "builtin_function_or_method"
noncomputable def y165:Value:=.type "type"
def o21:Obj:=ob y82 none (fl [(.builtin "type.__prepare__"),y165]) []
def y201(P:Params):DictEntry:=en P "__firstlineno__" 207 (vi 5 206)
def y189(P:Params):DictEntry:=en P "__static_attributes__" 208 (vr 29)
def o28(P:Params):Obj:=zd [(en P "__module__" 203 y60),(y201 P),(y189 P),(en P "__weakref__" 210 (vr 32)),(en P "__doc__" 211 vn)] 3
noncomputable def y199:Value:=.type "BaseException"
noncomputable def y137:Value:=.type "object"
noncomputable def y133:Option Value:=some (.builtin "Exception.__new__")
noncomputable def y143:Option Value:=some (.bool true)
noncomputable def y117:Value:=.type "getset_descriptor"
noncomputable def y131:Value:=.builtin "ExceptionGroup.__weakref__"
def o30:Obj:=ob y117 none (fl [(vs "__weakref__" 209),(vr 31),y131,vn]) []
def o31:Obj:=ob (.type "super") none (fl [(vr 31),(vr 31),(vr 31)]) []
noncomputable def y98:Value:=.builtin "object.__init_subclass__"
def o32:Obj:=ob y82 none (fl [y98,(vr 31)]) []
def y25(P:Params):DictEntry:=en P "Refusal" 240 (vr 51)
def y53(P:Params):DictEntry:=en P "NAN" 245 (vr 54)
def y54(P:Params):DictEntry:=en P "INF" 248 (vr 55)
def y49(P:Params):DictEntry:=en P "ZERO" 251 (vr 56)
def y6(P:Params):DictEntry:=en P "MOST_FIGURES" 253 (vi 5000 252)
def y1(P:Params):DictEntry:=en P "MOST_PART" 256 (vi (Int.ofNat (10^5000)) 255)
def y52(P:Params):DictEntry:=en P "gcd" 264 (vr 63)
def y22(P:Params):DictEntry:=en P "bounded" 272 (vr 70)
def o35:Obj:=ob y165 none (.cls (ClassData.mk "CoveError" [y132] [(vr 31),y132,y199,y137] 30 "CoveError" true [] [(vr 51)] false none false)) [(some (vr 22)),none,(some (vs "CoveError" 196)),(some (vs "CoveError" 204)),y133,y143]
def y200(P:Params):DictEntry:=en P "__firstlineno__" 227 (vi 7 226)
def y188(P:Params):DictEntry:=en P "__static_attributes__" 237 (vr 49)
noncomputable def y194:Value:=.type "function"
def o51(P:Params):Obj:=zd [(en P "__module__" 223 y60),(y200 P),(en P "__init__" 235 (vr 48)),(y188 P),(en P "__doc__" 238 vn)] 2
def o52:Obj:=ob y165 none (.cls (ClassData.mk "Refusal" [(vr 31)] [(vr 51),(vr 31),y132,y199,y137] 50 "Refusal" true [] [] false none false)) [(some (vr 35)),none,(some (vs "Refusal" 216)),(some (vs "Refusal" 224)),y133,y143]
def y148(P:Params):DictEntry:=en P "__name__" 165 (vs "vectorcove.numtext" 348)
def y58(P:Params):DictEntry:=en P "make" 281 (vr 77)
def y36(P:Params):DictEntry:=en P "from_int" 288 (vr 84)
def y51(P:Params):DictEntry:=en P "is_na" 295 (vr 91)
def y30(P:Params):DictEntry:=en P "is_finite" 302 (vr 98)
def y57(P:Params):DictEntry:=en P "neg" 309 (vr 105)
def y27(P:Params):DictEntry:=en P "to_whole" 317 (vr 112)
def y12(P:Params):DictEntry:=en P "nearest_whole" 327 (vr 119)
def y31(P:Params):DictEntry:=en P "exponent" 337 (vr 126)
def y37(P:Params):DictEntry:=en P "compare" 347 (vr 133)
def y8(P:Params):DictEntry:=en P "MOST_EXPONENT" 351 (vi 4096 350)
def y10(P:Params):DictEntry:=en P "MOST_SIGNS" 353 (vi 5000 352)
def y16(P:Params):DictEntry:=en P "whole_text" 363 (vr 140)
def y13(P:Params):DictEntry:=en P "special_text" 370 (vr 147)
def y41(P:Params):DictEntry:=en P "scaled" 380 (vr 154)
def y28(P:Params):DictEntry:=en P "significant" 390 (vr 161)
def y18(P:Params):DictEntry:=en P "without_tail" 398 (vr 168)
def y14(P:Params):DictEntry:=en P "scientific_text" 410 (vr 175)
def y34(P:Params):DictEntry:=en P "fixed_text" 420 (vr 182)
def y47(P:Params):DictEntry:=en P "measures" 433 (vr 189)
def y32(P:Params):DictEntry:=en P "chosen_form" 450 (vr 196)
def y55(P:Params):DictEntry:=en P "formed" 459 (vr 203)
def y20(P:Params):DictEntry:=en P "common_texts" 465 (vr 208)
def y29(P:Params):DictEntry:=en P "number_text" 474 (vr 216)
def y15(P:Params):DictEntry:=en P "decimal_places" 483 (vr 223)
def y35(P:Params):DictEntry:=en P "exact_text" 493 (vr 230)
def y19(P:Params):DictEntry:=en P "digits_value" 503 (vr 237)
def y21:Value:=vs "vectorcove.values" 562
def y56(P:Params):DictEntry:=en P "digit_run" 512 (vr 244)
def y33(P:Params):DictEntry:=en P "exponent_value" 521 (vr 251)
def y59(P:Params):DictEntry:=en P "powered" 530 (vr 258)
def y26(P:Params):DictEntry:=en P "unsigned_number" 549 (vr 265)
def y45(P:Params):DictEntry:=en P "parse_number" 561 (vr 272)
def y63(P:Params):DictEntry:=en P "Null" 592 (vr 289)
def y198(P:Params):DictEntry:=en P "__firstlineno__" 575 (vi 288 574)
def y187(P:Params):DictEntry:=en P "__static_attributes__" 585 (vr 287)
def y70(P:Params):DictEntry:=en P "Vector" 634 (vr 318)
def y64(P:Params):DictEntry:=en P "integer" 641 (vr 329)
def y62(P:Params):DictEntry:=en P "character" 648 (vr 336)
def y68(P:Params):DictEntry:=en P "length" 656 (vr 343)
def y61(P:Params):DictEntry:=en P "is_vector" 663 (vr 350)
def y197(P:Params):DictEntry:=en P "__firstlineno__" 604 (vi 293 603)
def y186(P:Params):DictEntry:=en P "__static_attributes__" 627 (vr 316)
def o310:Obj:=zt [vn]
def o317:Obj:=ob y194 none (.func (wu 46 "__init__" "Vector.__init__" 3 (vr 301) vn vn y21 none (vr 307) vn 0)) []
def o327:Obj:=ob y165 none (.cls (ClassData.mk "Vector" [y137] [(vr 318),y137] 317 "Vector" true [] [] false none false)) [none,none,(some (vs "Vector" 593)),(some (vs "Vector" 601)),(some (.builtin "object.__new__")),y143]
def y151(P:Params):DictEntry:=en P "__name__" 165 (vs "vectorcove.coerce" 738)
def y74(P:Params):DictEntry:=en P "is_atomic" 670 (vr 357)
def y86(P:Params):DictEntry:=en P "share" 677 (vr 364)
def y80(P:Params):DictEntry:=en P "get_attr" 687 (vr 371)
def y71(P:Params):DictEntry:=en P "label_text" 695 (vr 378)
def y78(P:Params):DictEntry:=en P "level_at" 703 (vr 385)
def y65(P:Params):DictEntry:=en P "label_texts" 709 (vr 390)
def y77(P:Params):DictEntry:=en P "names_of" 715 (vr 395)
def y84(P:Params):DictEntry:=en P "dim_of" 723 (vr 402)
def y66(P:Params):DictEntry:=en P "dimnames_of" 729 (vr 407)
def y73(P:Params):DictEntry:=en P "class_attr" 737 (vr 414)
def y46(P:Params):DictEntry:=en P "MOST_INTEGER" 741 (vi 2147483647 740)
def y72(P:Params):DictEntry:=en P "kind_order" 749 (vr 421)
def y67(P:Params):DictEntry:=en P "common_kind" 759 (vr 428)
def y119(P:Params):DictEntry:=en P "note" 767 (vr 435)
def y75(P:Params):DictEntry:=en P "as_logical_text" 774 (vr 442)
def y69(P:Params):DictEntry:=en P "double_to_integer" 783 (vr 449)
def y76(P:Params):DictEntry:=en P "text_to_double" 793 (vr 456)
def y87(P:Params):DictEntry:=en P "to_logical" 801 (vr 463)
def y88(P:Params):DictEntry:=en P "to_integer" 810 (vr 470)
def y89(P:Params):DictEntry:=en P "to_double" 819 (vr 477)
def y99(P:Params):DictEntry:=en P "to_text" 827 (vr 484)
def y100(P:Params):DictEntry:=en P "item_as" 837 (vr 491)
def y79(P:Params):DictEntry:=en P "is_atomic_kind" 844 (vr 498)
def y83(P:Params):DictEntry:=en P "list_item_as" 854 (vr 505)
def y85(P:Params):DictEntry:=en P "refuse_type" 862 (vr 512)
def y81(P:Params):DictEntry:=en P "as_vector_kind" 868 (vr 517)
def y122(P:Params):DictEntry:=en P "with_names" 876 (vr 524)
def y130(P:Params):DictEntry:=en P "as_kind" 882 (vr 529)
def y129(P:Params):DictEntry:=en P "as_list" 889 (vr 536)
def y125(P:Params):DictEntry:=en P "is_lacking" 899 (vr 543)
def y112(P:Params):DictEntry:=en P "compare_items" 908 (vr 550)
def y108(P:Params):DictEntry:=en P "check_sortable" 915 (vr 557)
def y107(P:Params):DictEntry:=en P "compare_places" 931 (vr 564)
def y115(P:Params):DictEntry:=en P "compare_keys" 944 (vr 571)
def y124(P:Params):DictEntry:=en P "merge_runs" 958 (vr 578)
def y123(P:Params):DictEntry:=en P "merge_sort" 964 (vr 583)
def y128(P:Params):DictEntry:=en P "each_key" 970 (vr 588)
def y118(P:Params):DictEntry:=en P "kept_places" 982 (vr 595)
def y146(P:Params):DictEntry:=en P "order_by" 993 (vr 603)
def y145(P:Params):DictEntry:=en P "is_factor" 1002 (vr 610)
def y138(P:Params):DictEntry:=en P "single_texts" 1011 (vr 617)
def y136(P:Params):DictEntry:=en P "factor_levels" 1018 (vr 624)
def y144(P:Params):DictEntry:=en P "new_frame" 1024 (vr 629)
def y140(P:Params):DictEntry:=en P "plain_rows" 1031 (vr 636)
def y142(P:Params):DictEntry:=en P "kept_attrs" 1040 (vr 643)
def y147(P:Params):DictEntry:=en P "lacking" 1047 (vr 650)
def y141(P:Params):DictEntry:=en P "pick_items" 1058 (vr 657)
def y134(P:Params):DictEntry:=en P "joined_factor" 1074 (vr 664)
def y135(P:Params):DictEntry:=en P "joined_column" 1080 (vr 669)
def y139(P:Params):DictEntry:=en P "column_keys" 1088 (vr 674)
def y157(P:Params):DictEntry:=en P "__name__" 165 (vs "law_sm0110_01" 1163)
def y221(P:Params):DictEntry:=en P "grouped_places" 1116 (vr 698)
def y220(P:Params):DictEntry:=en P "joined_results" 1125 (vr 705)
def y222(P:Params):DictEntry:=en P "attribute_free" 1148 (vr 725)
def t900(P:Params):List Obj:=[boot_o_4 P,boot_o_5 P,boot_o_6 P,boot_o_7 P,boot_o_8 P,boot_o_9 P,boot_o_10 P,o4]
def t8(P:Params):BT:=bt 11 ([boot_o_0 P,boot_o_1 P,boot_o_2 P,boot_o_3 P]++(t900 P++([o5,o6,o7])))
def t901(P:Params):List Obj:=[o4,o5,zt [(vs "k" 190)],o4,zg 0,zc "_wall" 187 "_wall" 188 189 1 1 0 0 3 15 true 16 vn (vr 17) (vr 18) (vr 19) 191 1 192,zf 0 3 vn "__main__" 164 20,zt [y132],o21,zd [(en P "__module__" 203 y60),(en P "__qualname__" 205 (vs "CoveError" 204)),(y201 P),(y189 P)] 4,o4,o5,zc "CoveError" 198 "CoveError" 199 200 5 0 0 0 0 25 false 26 vn vn vn vn 201 5 202,ob y195 none .plain [(some (vr 27)),y196,(some (vr 24)),none,(some y60),none,(some (vr 0))],o4,o28 P]
def t32(P:Params):BT:=bt 11 ([boot_o_0 P,boot_o_1 P,o10 P,zd [(en P "__name__" 165 y60),(y50 P),(y17 P),(y2 P),(y42 P),(y7 P),(y9 P),(y4 P),(y24 P),(y23 P),(y11 P)] 11]++(t900 P++([ct [1,0,20,5,0,27],o6,o7]++(t901 P++([ob y165 none (.cls (ClassData.mk "CoveError" [y132] [(vr 31),y132,y199,y137] 30 "CoveError" true [] [] false none false)) [(some (vr 22)),none,(some (vs "CoveError" 196)),(some (vs "CoveError" 204)),y133,y143],o30,o31,o32])))))
def t902(P:Params):List Obj:=[zt [(vr 31)],o21,zd [(en P "__module__" 223 y60),(en P "__qualname__" 225 (vs "Refusal" 224)),(y200 P),(en P "__init__" 235 (vr 48)),(y188 P)] 5,o4,ct [9,4,47],zc "Refusal" 218 "Refusal" 219 220 7 0 0 0 0 38 false 39 vn vn vn vn 221 7 222,ob y195 none .plain [(some (vr 40)),y196,(some (vr 37)),none,(some y60),none,(some (vr 0))],o4,o5,zt [(vs "self" 231),(vs "message" 232)],o4,ob vn none (.func (wu 3 "__init__" "Refusal.__init__" 0 vn vn vn vn none vn vn 0)) [],zc "__init__" 228 "Refusal.__init__" 229 230 9 2 0 0 3 42 true 43 vn (vr 44) (vr 45) (vr 46) 233 9 234,ob y194 none (.func (wu 3 "__init__" "Refusal.__init__" 3 vn vn vn y60 none (vr 47) vn 0)) [],zt [(vs "message" 236)],o51 P,o52,ob (.type "super") none (fl [(vr 51),(vr 51),(vr 51)]) [],ob y82 none (fl [y98,(vr 51)]) [],zt [(vi 0 243),(vi 0 244)],zt [(vi 1 246),(vi 0 247)],zt [(vi 0 249),(vi 1 250)],o4,o5,zt [(vs "a" 260),(vs "b" 261)],o4,zg 10,zc "gcd" 257 "gcd" 258 259 17 2 0 0 3 57 true 58 vn (vr 59) (vr 60) (vr 61) 262 17 263,zf 10 3 vn "vectorcove.rational" 241 62,o4,o5,zt [(vs "n" 268),(vs "d" 269)],o4,zg 11,zc "bounded" 265 "bounded" 266 267 21 2 0 0 3 64 true 65 vn (vr 66) (vr 67) (vr 68) 270 21 271,zf 11 3 vn "vectorcove.rational" 241 69]
def t71(P:Params):BT:=bt 11 ([boot_o_0 P,boot_o_1 P,o10 P,zd [(en P "__name__" 165 (vs "vectorcove.rational" 241)),(y50 P),(y17 P),(y2 P),(y42 P),(y7 P),(y9 P),(y4 P),(y24 P),(y23 P),(y11 P),(y25 P),(y53 P),(y54 P),(y49 P),(y6 P),(y1 P),(y52 P),(y22 P)] 19]++(t900 P++([ct [1,0,20,5,0,27,7,0,40,17,0,62,21,0,69],o6,o7]++(t901 P++([o35,o30,o31,o32]++(t902 P))))))
def t903:List Obj:=[o4,o5,zt [(vs "n" 276),(vs "d" 277),(vs "common" 278)],o4,zg 12,zc "make" 273 "make" 274 275 25 2 0 0 3 71 true 72 vn (vr 73) (vr 74) (vr 75) 279 25 280,zf 12 3 vn "vectorcove.rational" 241 76,o4,o5,zt [(vs "n" 285)],o4,zg 13,zc "from_int" 282 "from_int" 283 284 35 1 0 0 3 78 true 79 vn (vr 80) (vr 81) (vr 82) 286 35 287,zf 13 3 vn "vectorcove.rational" 241 83,o4,o5,zt [(vs "x" 292)],o4,zg 14,zc "is_na" 289 "is_na" 290 291 39 1 0 0 3 85 true 86 vn (vr 87) (vr 88) (vr 89) 293 39 294,zf 14 3 vn "vectorcove.rational" 241 90,o4,o5,zt [(vs "x" 299)],o4,zg 15,zc "is_finite" 296 "is_finite" 297 298 41 1 0 0 3 92 true 93 vn (vr 94) (vr 95) (vr 96) 300 41 301,zf 15 3 vn "vectorcove.rational" 241 97,o4,o5,zt [(vs "x" 306)],o4,zg 16,zc "neg" 303 "neg" 304 305 43 1 0 0 3 99 true 100 vn (vr 101) (vr 102) (vr 103) 307 43 308,zf 16 3 vn "vectorcove.rational" 241 104,o4,o5,zt [(vs "x" 313),(vs "found" 314)],o4,zg 17,zc "to_whole" 310 "to_whole" 311 312 47 1 0 0 3 106 true 107 vn (vr 108) (vr 109) (vr 110) 315 47 316,zf 17 3 vn "vectorcove.rational" 241 111,o4,o5,zt [(vs "n" 321),(vs "d" 322),(vs "low" 323),(vs "rest" 324)],o4,zg 18,zc "nearest_whole" 318 "nearest_whole" 319 320 52 2 0 0 3 113 true 114 vn (vr 115) (vr 116) (vr 117) 325 52 326,zf 18 3 vn "vectorcove.rational" 241 118,o4,o5,zt [(vs "x" 331),(vs "n" 332),(vs "d" 333),(vs "e" 334)],o4,zg 19,zc "exponent" 328 "exponent" 329 330 58 1 0 0 3 120 true 121 vn (vr 122) (vr 123) (vr 124) 335 58 336,zf 19 3 vn "vectorcove.rational" 241 125,o4,o5,zt [(vs "x" 341),(vs "y" 342),(vs "left" 343),(vs "right" 344)],o4,zg 20,zc "compare" 338 "compare" 339 340 69 2 0 0 3 127 true 128 vn (vr 129) (vr 130) (vr 131) 345 69 346,zf 20 3 vn "vectorcove.rational" 241 132,o4,o5,zt [(vs "n" 357),(vs "rest" 358),(vs "row" 359),(vs "part" 360)],o4,zg 24,zc "whole_text" 354 "whole_text" 355 356 90 1 0 0 3 134 true 135 vn (vr 136) (vr 137) (vr 138) 361 90 362,zf 24 3 vn "vectorcove.numtext" 348 139,o4,o5,zt [(vs "x" 367)],o4,zg 25,zc "special_text" 364 "special_text" 365 366 101 1 0 0 3 141 true 142 vn (vr 143) (vr 144) (vr 145) 368 101 369,zf 25 3 vn "vectorcove.numtext" 348 146,o4,o5,zt [(vs "x" 374),(vs "e" 375),(vs "digits" 376),(vs "shift" 377)],o4,zg 26,zc "scaled" 371 "scaled" 372 373 109 3 0 0 3 148 true 149 vn (vr 150) (vr 151) (vr 152) 378 109 379,zf 26 3 vn "vectorcove.numtext" 348 153]
def t157(P:Params):BT:=bt 11 ([boot_o_0 P,boot_o_1 P,o10 P,zd [(y148 P),(y50 P),(y17 P),(y2 P),(y42 P),(y7 P),(y9 P),(y4 P),(y24 P),(y23 P),(y11 P),(y25 P),(y53 P),(y54 P),(y49 P),(y6 P),(y1 P),(y52 P),(y22 P),(y58 P),(y36 P),(y51 P),(y30 P),(y57 P),(y27 P),(y12 P),(y31 P),(y37 P),(y8 P),(y10 P),(y16 P),(y13 P),(y41 P)] 33]++(t900 P++([ct [1,0,20,5,0,27,7,0,40,17,0,62,21,0,69,25,0,76,35,0,83,39,0,90,41,0,97,43,0,104,47,0,111,52,0,118,58,0,125,69,0,132,90,0,139,101,0,146,109,0,153],o6,o7]++(t901 P++([o35,o30,o31,o32]++(t902 P++(t903)))))))
def t904:List Obj:=[o4,o5,zt [(vs "x" 384),(vs "digits" 385),(vs "e" 386),(vs "n" 387)],o4,zg 27,zc "significant" 381 "significant" 382 383 114 2 0 0 3 155 true 156 vn (vr 157) (vr 158) (vr 159) 388 114 389,zf 27 3 vn "vectorcove.numtext" 348 160,o4,o5,zt [(vs "text" 394),(vs "end" 395)],o4,zg 28,zc "without_tail" 391 "without_tail" 392 393 123 1 0 0 3 162 true 163 vn (vr 164) (vr 165) (vr 166) 396 123 397,zf 28 3 vn "vectorcove.numtext" 348 167,o4,o5,zt [(vs "x" 402),(vs "digits" 403),(vs "side" 404),(vs "text" 405),(vs "e" 406),(vs "row" 407)],o4,zg 29,zc "scientific_text" 399 "scientific_text" 400 401 128 2 0 0 3 169 true 170 vn (vr 171) (vr 172) (vr 173) 408 128 409,zf 29 3 vn "vectorcove.numtext" 348 174,o4,o5,zt [(vs "x" 414),(vs "places" 415),(vs "n" 416),(vs "text" 417)],o4,zg 30,zc "fixed_text" 411 "fixed_text" 412 413 135 2 0 0 3 176 true 177 vn (vr 178) (vr 179) (vr 180) 418 135 419,zf 30 3 vn "vectorcove.numtext" 348 181,o4,o5,zt [(vs "x" 424),(vs "digits" 425),(vs "side" 426),(vs "text" 427),(vs "e" 428),(vs "count" 429),(vs "left" 430)],o4,zg 31,zc "measures" 421 "measures" 422 423 143 2 0 0 3 183 true 184 vn (vr 185) (vr 186) (vr 187) 431 143 432,zf 31 3 vn "vectorcove.numtext" 348 188,o4,o5,zt [(vs "xs" 437),(vs "digits" 438),(vs "count" 439),(vs "left" 440),(vs "places" 441),(vs "wide" 442),(vs "minus" 443),(vs "x" 444),(vs "row" 445),(vs "fixed_width" 446),(vs "scientific_width" 447)],o4,zg 32,zc "chosen_form" 434 "chosen_form" 435 436 150 2 0 0 3 190 true 191 vn (vr 192) (vr 193) (vr 194) 448 150 449,zf 32 3 vn "vectorcove.numtext" 348 195,o4,o5,zt [(vs "x" 454),(vs "form" 455),(vs "text" 456)],o4,zg 33,zc "formed" 451 "formed" 452 453 170 2 0 0 3 197 true 198 vn (vr 199) (vr 200) (vr 201) 457 170 458,zf 33 3 vn "vectorcove.numtext" 348 202,o4,o5,zg 34,zc "common_texts" 460 "common_texts" 461 462 177 2 0 0 3 204 true 205 vn vn vn (vr 206) 463 177 464,zf 34 3 vn "vectorcove.numtext" 348 207,zt [(vi 7 466)],o4,o5,zt [(vs "x" 470),(vs "digits" 471)],o4,zg 35,zc "number_text" 467 "number_text" 468 469 181 2 0 0 3 210 true 211 vn (vr 212) (vr 213) (vr 214) 472 181 473,zf 35 3 (vr 209) "vectorcove.numtext" 348 215,o4,o5,zt [(vs "d" 478),(vs "twos" 479),(vs "fives" 480)],o4,zg 36,zc "decimal_places" 475 "decimal_places" 476 477 183 1 0 0 3 217 true 218 vn (vr 219) (vr 220) (vr 221) 481 183 482,zf 36 3 vn "vectorcove.numtext" 348 222,o4,o5,zt [(vs "x" 487),(vs "text" 488),(vs "places" 489),(vs "n" 490)],o4,zg 37,zc "exact_text" 484 "exact_text" 485 486 195 1 0 0 3 224 true 225 vn (vr 226) (vr 227) (vr 228) 491 195 492,zf 37 3 vn "vectorcove.numtext" 348 229,o4,o5,zt [(vs "text" 497),(vs "base" 498),(vs "value" 499),(vs "char" 500)],o4,zg 38,zc "digits_value" 494 "digits_value" 495 496 207 2 0 0 3 231 true 232 vn (vr 233) (vr 234) (vr 235) 501 207 502,zf 38 3 vn "vectorcove.numtext" 348 236]
def t242(P:Params):BT:=bt 11 ([boot_o_0 P,boot_o_1 P,o10 P,zd [(y148 P),(y50 P),(y17 P),(y2 P),(y42 P),(y7 P),(y9 P),(y4 P),(y24 P),(y23 P),(y11 P),(y25 P),(y53 P),(y54 P),(y49 P),(y6 P),(y1 P),(y52 P),(y22 P),(y58 P),(y36 P),(y51 P),(y30 P),(y57 P),(y27 P),(y12 P),(y31 P),(y37 P),(y8 P),(y10 P),(y16 P),(y13 P),(y41 P),(y28 P),(y18 P),(y14 P),(y34 P),(y47 P),(y32 P),(y55 P),(y20 P),(y29 P),(y15 P),(y35 P),(y19 P)] 45]++(t900 P++([ct [1,0,20,5,0,27,7,0,40,17,0,62,21,0,69,25,0,76,35,0,83,39,0,90,41,0,97,43,0,104,47,0,111,52,0,118,58,0,125,69,0,132,90,0,139,101,0,146,109,0,153,114,0,160,123,0,167,128,0,174,135,0,181,143,0,188,150,0,195,170,0,202,177,0,207,181,0,215,183,0,222,195,0,229,207,0,236],o6,o7]++(t901 P++([o35,o30,o31,o32]++(t902 P++(t903++(t904))))))))
def t905(P:Params):List Obj:=[o4,o5,zt [(vs "text" 507),(vs "at" 508),(vs "digits" 509)],o4,zg 39,zc "digit_run" 504 "digit_run" 505 506 212 3 0 0 3 238 true 239 vn (vr 240) (vr 241) (vr 242) 510 212 511,zf 39 3 vn "vectorcove.numtext" 348 243,o4,o5,zt [(vs "text" 516),(vs "start" 517),(vs "value" 518)],o4,zg 40,zc "exponent_value" 513 "exponent_value" 514 515 216 1 0 0 3 245 true 246 vn (vr 247) (vr 248) (vr 249) 519 216 520,zf 40 3 vn "vectorcove.numtext" 348 250,o4,o5,zt [(vs "n" 525),(vs "base" 526),(vs "e" 527)],o4,zg 41,zc "powered" 522 "powered" 523 524 226 3 0 0 3 252 true 253 vn (vr 254) (vr 255) (vr 256) 528 226 529,zf 41 3 vn "vectorcove.numtext" 348 257,o4,o5,zt [(vs "text" 534),(vs "base" 535),(vs "digits" 536),(vs "mark" 537),(vs "scale" 538),(vs "end" 539),(vs "before" 540),(vs "behind" 541),(vs "start" 542),(vs "e" 543),(vs "ok" 544),(vs "n" 545),(vs "found" 546)],o4,zg 42,zc "unsigned_number" 531 "unsigned_number" 532 533 236 1 0 0 3 259 true 260 vn (vr 261) (vr 262) (vr 263) 547 236 548,zf 42 3 vn "vectorcove.numtext" 348 264,o4,o5,zt [(vs "text" 553),(vs "body" 554),(vs "negative" 555),(vs "small" 556),(vs "found" 557),(vs "ok" 558)],o4,zg 43,zc "parse_number" 550 "parse_number" 551 552 270 1 0 0 3 266 true 267 vn (vr 268) (vr 269) (vr 270) 559 270 560,zf 43 3 vn "vectorcove.numtext" 348 271,o4,o21,zd [(en P "__module__" 571 y21),(en P "__qualname__" 573 (vs "Null" 572)),(y198 P),(en P "__init__" 582 (vr 286)),(y187 P)] 5,o4,ct [290,4,285],zc "Null" 566 "Null" 567 568 288 0 0 0 0 276 false 277 vn vn vn vn 569 288 570,ob y195 none .plain [(some (vr 278)),y196,(some (vr 275)),none,(some y21),none,(some (vr 0))],o4,o5,zt [(vs "self" 579)],o4,ob vn none (.func (wu 45 "__init__" "Null.__init__" 0 vn vn vn vn none vn vn 0)) [],zc "__init__" 576 "Null.__init__" 577 578 290 1 0 0 3 280 true 281 vn (vr 282) (vr 283) (vr 284) 580 290 581,ob y194 none (.func (wu 45 "__init__" "Null.__init__" 3 vn vn vn y21 none (vr 285) vn 0)) [],zt [(vs "attrs" 583),(vs "kind" 584)],zd [(en P "__module__" 571 y21),(y198 P),(en P "__init__" 582 (vr 286)),(y187 P),(en P "__dict__" 587 (vr 290)),(en P "__weakref__" 589 (vr 291)),(en P "__doc__" 590 vn)] 4,ob y165 none (.cls (ClassData.mk "Null" [y137] [(vr 289),y137] 288 "Null" true [] [] false none false)) [none,none,(some (vs "Null" 564)),(some (vs "Null" 572)),(some (.builtin "object.__new__")),y143],ob y117 none (fl [(vs "__dict__" 586),(vr 289),(.builtin "function.__dict__"),(.builtin "function.__dict__#set")]) [],ob y117 none (fl [(vs "__weakref__" 588),(vr 289),y131,vn]) [],ob (.type "super") none (fl [(vr 289),(vr 289),(vr 289)]) [],ob y82 none (fl [y98,(vr 289)]) []]
def t300(P:Params):BT:=bt 11 ([boot_o_0 P,boot_o_1 P,o10 P,zd [(en P "__name__" 165 y21),(y50 P),(y17 P),(y2 P),(y42 P),(y7 P),(y9 P),(y4 P),(y24 P),(y23 P),(y11 P),(y25 P),(y53 P),(y54 P),(y49 P),(y6 P),(y1 P),(y52 P),(y22 P),(y58 P),(y36 P),(y51 P),(y30 P),(y57 P),(y27 P),(y12 P),(y31 P),(y37 P),(y8 P),(y10 P),(y16 P),(y13 P),(y41 P),(y28 P),(y18 P),(y14 P),(y34 P),(y47 P),(y32 P),(y55 P),(y20 P),(y29 P),(y15 P),(y35 P),(y19 P),(y56 P),(y33 P),(y59 P),(y26 P),(y45 P),(y63 P)] 51]++(t900 P++([ct [1,0,20,5,0,27,7,0,40,17,0,62,21,0,69,25,0,76,35,0,83,39,0,90,41,0,97,43,0,104,47,0,111,52,0,118,58,0,125,69,0,132,90,0,139,101,0,146,109,0,153,114,0,160,123,0,167,128,0,174,135,0,181,143,0,188,150,0,195,170,0,202,177,0,207,181,0,215,183,0,222,195,0,229,207,0,236,212,0,243,216,0,250,226,0,257,236,0,264,270,0,271,288,0,278],o6,o7]++(t901 P++([o35,o30,o31,o32]++(t902 P++(t903++(t904++(t905 P)))))))))
def t906(P:Params):List Obj:=[o4,o21,zd [(en P "__module__" 600 y21),(en P "__qualname__" 602 (vs "Vector" 601)),(y197 P),(en P "__init__" 614 (vr 308)),(en P "copy" 621 (vr 315)),(y186 P)] 6,o4,ct [295,4,307,302,4,314],zc "Vector" 595 "Vector" 596 597 293 0 0 0 0 297 false 298 vn vn vn vn 598 293 599,ob y195 none .plain [(some (vr 299)),y196,(some (vr 296)),none,(some y21),none,(some (vr 0))],o310,o4,o5,zt [(vs "self" 608),(vs "kind" 609),(vs "items" 610),(vs "attrs" 611)],o4,ob vn none (.func (wu 46 "__init__" "Vector.__init__" 0 vn vn vn vn none vn vn 0)) [],zc "__init__" 605 "Vector.__init__" 606 607 295 4 0 0 3 302 true 303 vn (vr 304) (vr 305) (vr 306) 612 295 613,o317,o4,o5,zt [(vs "self" 618)],o4,ob vn none (.func (wu 46 "copy" "Vector.copy" 0 vn vn vn vn none vn vn 0)) [],zc "copy" 615 "Vector.copy" 616 617 302 1 0 0 3 309 true 310 vn (vr 311) (vr 312) (vr 313) 619 302 620,ob y194 none (.func (wu 46 "copy" "Vector.copy" 3 vn vn vn y21 none (vr 314) vn 0)) [],zt [(vs "attrs" 622),(vs "items" 623),(vs "kind" 624),(vs "loose" 625),(vs "shared" 626)],zd [(en P "__module__" 600 y21),(y197 P),(en P "__init__" 614 (vr 308)),(en P "copy" 621 (vr 315)),(y186 P),(en P "__dict__" 629 (vr 319)),(en P "__weakref__" 631 (vr 320)),(en P "__doc__" 632 vn)] 4,o327,ob y117 none (fl [(vs "__dict__" 628),(vr 318),(.builtin "function.__dict__"),(.builtin "function.__dict__#set")]) [],ob y117 none (fl [(vs "__weakref__" 630),(vr 318),y131,vn]) [],ob (.type "super") none (fl [(vr 318),(vr 318),(vr 318)]) [],ob y82 none (fl [y98,(vr 318)]) [],o4,o5,zt [(vs "items" 638)],o4,zg 47,zc "integer" 635 "integer" 636 637 304 1 0 0 3 323 true 324 vn (vr 325) (vr 326) (vr 327) 639 304 640,zf 47 3 vn "vectorcove.values" 562 328,o4,o5,zt [(vs "items" 645)],o4,zg 48,zc "character" 642 "character" 643 644 306 1 0 0 3 330 true 331 vn (vr 332) (vr 333) (vr 334) 646 306 647,zf 48 3 vn "vectorcove.values" 562 335,o4,o5,zt [(vs "v" 652),(vs "kind" 653)],o4,zg 49,zc "length" 649 "length" 650 651 308 1 0 0 3 337 true 338 vn (vr 339) (vr 340) (vr 341) 654 308 655,zf 49 3 vn "vectorcove.values" 562 342,o4,o5,zt [(vs "v" 660)],o4,zg 50,zc "is_vector" 657 "is_vector" 658 659 319 1 0 0 3 344 true 345 vn (vr 346) (vr 347) (vr 348) 661 319 662,zf 50 3 vn "vectorcove.values" 562 349]
def t359(P:Params):BT:=bt 11 ([boot_o_0 P,boot_o_1 P,o10 P,zd [(en P "__name__" 165 y21),(y50 P),(y17 P),(y2 P),(y42 P),(y7 P),(y9 P),(y4 P),(y24 P),(y23 P),(y11 P),(y25 P),(y53 P),(y54 P),(y49 P),(y6 P),(y1 P),(y52 P),(y22 P),(y58 P),(y36 P),(y51 P),(y30 P),(y57 P),(y27 P),(y12 P),(y31 P),(y37 P),(y8 P),(y10 P),(y16 P),(y13 P),(y41 P),(y28 P),(y18 P),(y14 P),(y34 P),(y47 P),(y32 P),(y55 P),(y20 P),(y29 P),(y15 P),(y35 P),(y19 P),(y56 P),(y33 P),(y59 P),(y26 P),(y45 P),(y63 P),(y70 P),(y64 P),(y62 P),(y68 P),(y61 P)] 56]++(t900 P++([ct [1,0,20,5,0,27,7,0,40,17,0,62,21,0,69,25,0,76,35,0,83,39,0,90,41,0,97,43,0,104,47,0,111,52,0,118,58,0,125,69,0,132,90,0,139,101,0,146,109,0,153,114,0,160,123,0,167,128,0,174,135,0,181,143,0,188,150,0,195,170,0,202,177,0,207,181,0,215,183,0,222,195,0,229,207,0,236,212,0,243,216,0,250,226,0,257,236,0,264,270,0,271,288,0,278,293,0,299,304,0,328,306,0,335,308,0,342,319,0,349],o6,o7]++(t901 P++([o35,o30,o31,o32]++(t902 P++(t903++(t904++(t905 P++(t906 P))))))))))
def t907:List Obj:=[o4,o5,zt [(vs "v" 667)],o4,zg 51,zc "is_atomic" 664 "is_atomic" 665 666 321 1 0 0 3 351 true 352 vn (vr 353) (vr 354) (vr 355) 668 321 669,zf 51 3 vn "vectorcove.values" 562 356,o4,o5,zt [(vs "v" 674)],o4,zg 52,zc "share" 671 "share" 672 673 323 1 0 0 3 358 true 359 vn (vr 360) (vr 361) (vr 362) 675 323 676,zf 52 3 vn "vectorcove.values" 562 363,o4,o5,zt [(vs "v" 683),(vs "name" 684)],o4,zg 54,zc "get_attr" 680 "get_attr" 681 682 328 2 0 0 3 365 true 366 vn (vr 367) (vr 368) (vr 369) 685 328 686,zf 54 3 vn "vectorcove.attrs" 678 370,o4,o5,zt [(vs "kind" 691),(vs "item" 692)],o4,zg 55,zc "label_text" 688 "label_text" 689 690 332 2 0 0 3 372 true 373 vn (vr 374) (vr 375) (vr 376) 693 332 694,zf 55 3 vn "vectorcove.attrs" 678 377,o4,o5,zt [(vs "texts" 699),(vs "code" 700)],o4,zg 56,zc "level_at" 696 "level_at" 697 698 342 2 0 0 3 379 true 380 vn (vr 381) (vr 382) (vr 383) 701 342 702,zf 56 3 vn "vectorcove.attrs" 678 384,o4,o5,zg 57,zc "label_texts" 704 "label_texts" 705 706 346 1 0 0 3 386 true 387 vn vn vn (vr 388) 707 346 708,zf 57 3 vn "vectorcove.attrs" 678 389,o4,o5,zg 58,zc "names_of" 710 "names_of" 711 712 352 1 0 0 3 391 true 392 vn vn vn (vr 393) 713 352 714,zf 58 3 vn "vectorcove.attrs" 678 394,o4,o5,zt [(vs "v" 719),(vs "dims" 720)],o4,zg 59,zc "dim_of" 716 "dim_of" 717 718 368 1 0 0 3 396 true 397 vn (vr 398) (vr 399) (vr 400) 721 368 722,zf 59 3 vn "vectorcove.attrs" 678 401,o4,o5,zg 60,zc "dimnames_of" 724 "dimnames_of" 725 726 373 1 0 0 3 403 true 404 vn vn vn (vr 405) 727 373 728,zf 60 3 vn "vectorcove.attrs" 678 406,o4,o5,zt [(vs "v" 733),(vs "found" 734)],o4,zg 61,zc "class_attr" 730 "class_attr" 731 732 378 1 0 0 3 408 true 409 vn (vr 410) (vr 411) (vr 412) 735 378 736,zf 61 3 vn "vectorcove.attrs" 678 413,o4,o5,zt [(vs "kind" 745),(vs "kinds" 746)],o4,zg 64,zc "kind_order" 742 "kind_order" 743 744 385 1 0 0 3 415 true 416 vn (vr 417) (vr 418) (vr 419) 747 385 748,zf 64 3 vn "vectorcove.coerce" 738 420,o4,o5,zt [(vs "kinds" 753),(vs "names" 754),(vs "most" 755),(vs "kind" 756)],o4,zg 65,zc "common_kind" 750 "common_kind" 751 752 390 1 0 0 3 422 true 423 vn (vr 424) (vr 425) (vr 426) 757 390 758,zf 65 3 vn "vectorcove.coerce" 738 427]
def t439(P:Params):BT:=bt 11 ([boot_o_0 P,boot_o_1 P,o10 P,zd [(y151 P),(y50 P),(y17 P),(y2 P),(y42 P),(y7 P),(y9 P),(y4 P),(y24 P),(y23 P),(y11 P),(y25 P),(y53 P),(y54 P),(y49 P),(y6 P),(y1 P),(y52 P),(y22 P),(y58 P),(y36 P),(y51 P),(y30 P),(y57 P),(y27 P),(y12 P),(y31 P),(y37 P),(y8 P),(y10 P),(y16 P),(y13 P),(y41 P),(y28 P),(y18 P),(y14 P),(y34 P),(y47 P),(y32 P),(y55 P),(y20 P),(y29 P),(y15 P),(y35 P),(y19 P),(y56 P),(y33 P),(y59 P),(y26 P),(y45 P),(y63 P),(y70 P),(y64 P),(y62 P),(y68 P),(y61 P),(y74 P),(y86 P),(y80 P),(y71 P),(y78 P),(y65 P),(y77 P),(y84 P),(y66 P),(y73 P),(y46 P),(y72 P),(y67 P)] 69]++(t900 P++([ct [1,0,20,5,0,27,7,0,40,17,0,62,21,0,69,25,0,76,35,0,83,39,0,90,41,0,97,43,0,104,47,0,111,52,0,118,58,0,125,69,0,132,90,0,139,101,0,146,109,0,153,114,0,160,123,0,167,128,0,174,135,0,181,143,0,188,150,0,195,170,0,202,177,0,207,181,0,215,183,0,222,195,0,229,207,0,236,212,0,243,216,0,250,226,0,257,236,0,264,270,0,271,288,0,278,293,0,299,304,0,328,306,0,335,308,0,342,319,0,349,321,0,356,323,0,363,328,0,370,332,0,377,342,0,384,346,0,389,352,0,394,368,0,401,373,0,406,378,0,413,385,0,420,390,0,427],o6,o7]++(t901 P++([o35,o30,o31,o32]++(t902 P++(t903++(t904++(t905 P++(t906 P++(t907)))))))))))
def t908:List Obj:=[o4,o5,zt [(vs "notes" 763),(vs "message" 764)],o4,zg 66,zc "note" 760 "note" 761 762 396 2 0 0 3 429 true 430 vn (vr 431) (vr 432) (vr 433) 765 396 766,zf 66 3 vn "vectorcove.coerce" 738 434,o4,o5,zt [(vs "s" 771)],o4,zg 67,zc "as_logical_text" 768 "as_logical_text" 769 770 399 1 0 0 3 436 true 437 vn (vr 438) (vr 439) (vr 440) 772 399 773,zf 67 3 vn "vectorcove.coerce" 738 441,o4,o5,zt [(vs "x" 778),(vs "notes" 779),(vs "found" 780)],o4,zg 68,zc "double_to_integer" 775 "double_to_integer" 776 777 405 2 0 0 3 443 true 444 vn (vr 445) (vr 446) (vr 447) 781 405 782,zf 68 3 vn "vectorcove.coerce" 738 448,o4,o5,zt [(vs "s" 787),(vs "notes" 788),(vs "ok" 789),(vs "found" 790)],o4,zg 69,zc "text_to_double" 784 "text_to_double" 785 786 413 2 0 0 3 450 true 451 vn (vr 452) (vr 453) (vr 454) 791 413 792,zf 69 3 vn "vectorcove.coerce" 738 455,o4,o5,zt [(vs "kind" 797),(vs "item" 798)],o4,zg 70,zc "to_logical" 794 "to_logical" 795 796 419 2 0 0 3 457 true 458 vn (vr 459) (vr 460) (vr 461) 799 419 800,zf 70 3 vn "vectorcove.coerce" 738 462,o4,o5,zt [(vs "kind" 805),(vs "item" 806),(vs "notes" 807)],o4,zg 71,zc "to_integer" 802 "to_integer" 803 804 429 3 0 0 3 464 true 465 vn (vr 466) (vr 467) (vr 468) 808 429 809,zf 71 3 vn "vectorcove.coerce" 738 469,o4,o5,zt [(vs "kind" 814),(vs "item" 815),(vs "notes" 816)],o4,zg 72,zc "to_double" 811 "to_double" 812 813 437 3 0 0 3 471 true 472 vn (vr 473) (vr 474) (vr 475) 817 437 818,zf 72 3 vn "vectorcove.coerce" 738 476,o4,o5,zt [(vs "kind" 823),(vs "item" 824)],o4,zg 73,zc "to_text" 820 "to_text" 821 822 443 2 0 0 3 478 true 479 vn (vr 480) (vr 481) (vr 482) 825 443 826,zf 73 3 vn "vectorcove.coerce" 738 483,o4,o5,zt [(vs "kind" 831),(vs "item" 832),(vs "to" 833),(vs "notes" 834)],o4,zg 74,zc "item_as" 828 "item_as" 829 830 451 4 0 0 3 485 true 486 vn (vr 487) (vr 488) (vr 489) 835 451 836,zf 74 3 vn "vectorcove.coerce" 738 490,o4,o5,zt [(vs "kind" 841)],o4,zg 75,zc "is_atomic_kind" 838 "is_atomic_kind" 839 840 465 1 0 0 3 492 true 493 vn (vr 494) (vr 495) (vr 496) 842 465 843,zf 75 3 vn "vectorcove.coerce" 738 497,o4,o5,zt [(vs "kind" 848),(vs "item" 849),(vs "to" 850),(vs "notes" 851)],o4,zg 76,zc "list_item_as" 845 "list_item_as" 846 847 467 4 0 0 3 499 true 500 vn (vr 501) (vr 502) (vr 503) 852 467 853,zf 76 3 vn "vectorcove.coerce" 738 504,o4,o5,zt [(vs "v" 858),(vs "kind" 859)],o4,zg 77,zc "refuse_type" 855 "refuse_type" 856 857 473 2 0 0 3 506 true 507 vn (vr 508) (vr 509) (vr 510) 860 473 861,zf 77 3 vn "vectorcove.coerce" 738 511,o4,o5,zg 78,zc "as_vector_kind" 863 "as_vector_kind" 864 865 475 2 0 0 3 513 true 514 vn vn vn (vr 515) 866 475 867,zf 78 3 vn "vectorcove.coerce" 738 516]
def t530(P:Params):BT:=bt 11 ([boot_o_0 P,boot_o_1 P,o10 P,zd [(y151 P),(y50 P),(y17 P),(y2 P),(y42 P),(y7 P),(y9 P),(y4 P),(y24 P),(y23 P),(y11 P),(y25 P),(y53 P),(y54 P),(y49 P),(y6 P),(y1 P),(y52 P),(y22 P),(y58 P),(y36 P),(y51 P),(y30 P),(y57 P),(y27 P),(y12 P),(y31 P),(y37 P),(y8 P),(y10 P),(y16 P),(y13 P),(y41 P),(y28 P),(y18 P),(y14 P),(y34 P),(y47 P),(y32 P),(y55 P),(y20 P),(y29 P),(y15 P),(y35 P),(y19 P),(y56 P),(y33 P),(y59 P),(y26 P),(y45 P),(y63 P),(y70 P),(y64 P),(y62 P),(y68 P),(y61 P),(y74 P),(y86 P),(y80 P),(y71 P),(y78 P),(y65 P),(y77 P),(y84 P),(y66 P),(y73 P),(y46 P),(y72 P),(y67 P),(y119 P),(y75 P),(y69 P),(y76 P),(y87 P),(y88 P),(y89 P),(y99 P),(y100 P),(y79 P),(y83 P),(y85 P),(y81 P)] 82]++(t900 P++([ct [1,0,20,5,0,27,7,0,40,17,0,62,21,0,69,25,0,76,35,0,83,39,0,90,41,0,97,43,0,104,47,0,111,52,0,118,58,0,125,69,0,132,90,0,139,101,0,146,109,0,153,114,0,160,123,0,167,128,0,174,135,0,181,143,0,188,150,0,195,170,0,202,177,0,207,181,0,215,183,0,222,195,0,229,207,0,236,212,0,243,216,0,250,226,0,257,236,0,264,270,0,271,288,0,278,293,0,299,304,0,328,306,0,335,308,0,342,319,0,349,321,0,356,323,0,363,328,0,370,332,0,377,342,0,384,346,0,389,352,0,394,368,0,401,373,0,406,378,0,413,385,0,420,390,0,427,396,0,434,399,0,441,405,0,448,413,0,455,419,0,462,429,0,469,437,0,476,443,0,483,451,0,490,465,0,497,467,0,504,473,0,511,475,0,516],o6,o7]++(t901 P++([o35,o30,o31,o32]++(t902 P++(t903++(t904++(t905 P++(t906 P++(t907++(t908))))))))))))
def t909:List Obj:=[o4,o5,zt [(vs "v" 872),(vs "names" 873)],o4,zg 79,zc "with_names" 869 "with_names" 870 871 489 2 0 0 3 518 true 519 vn (vr 520) (vr 521) (vr 522) 874 489 875,zf 79 3 vn "vectorcove.coerce" 738 523,o4,o5,zg 80,zc "as_kind" 877 "as_kind" 878 879 493 3 0 0 3 525 true 526 vn vn vn (vr 527) 880 493 881,zf 80 3 vn "vectorcove.coerce" 738 528,o4,o5,zt [(vs "v" 886)],o4,zg 81,zc "as_list" 883 "as_list" 884 885 500 1 0 0 3 530 true 531 vn (vr 532) (vr 533) (vr 534) 887 500 888,zf 81 3 vn "vectorcove.coerce" 738 535,o4,o5,zt [(vs "kind" 895),(vs "item" 896)],o4,zg 83,zc "is_lacking" 892 "is_lacking" 893 894 503 2 0 0 3 537 true 538 vn (vr 539) (vr 540) (vr 541) 897 503 898,zf 83 3 vn "vectorcove.sorting" 890 542,o4,o5,zt [(vs "kind" 903),(vs "a" 904),(vs "b" 905)],o4,zg 84,zc "compare_items" 900 "compare_items" 901 902 505 3 0 0 3 544 true 545 vn (vr 546) (vr 547) (vr 548) 906 505 907,zf 84 3 vn "vectorcove.sorting" 890 549,o4,o5,zt [(vs "v" 912)],o4,zg 85,zc "check_sortable" 909 "check_sortable" 910 911 513 1 0 0 3 551 true 552 vn (vr 553) (vr 554) (vr 555) 913 513 914,zf 85 3 vn "vectorcove.sorting" 890 556,o4,o5,zt [(vs "v" 919),(vs "i" 920),(vs "j" 921),(vs "decreasing" 922),(vs "na_last" 923),(vs "left" 924),(vs "right" 925),(vs "left_lacking" 926),(vs "right_lacking" 927),(vs "result" 928)],o4,zg 86,zc "compare_places" 916 "compare_places" 917 918 516 5 0 0 3 558 true 559 vn (vr 560) (vr 561) (vr 562) 929 516 930,zf 86 3 vn "vectorcove.sorting" 890 563,o4,o5,zt [(vs "vs" 935),(vs "i" 936),(vs "j" 937),(vs "decreasing" 938),(vs "na_last" 939),(vs "number" 940),(vs "result" 941)],o4,zg 87,zc "compare_keys" 932 "compare_keys" 933 934 529 5 0 0 3 565 true 566 vn (vr 567) (vr 568) (vr 569) 942 529 943,zf 87 3 vn "vectorcove.sorting" 890 570,o4,o5,zt [(vs "left" 948),(vs "right" 949),(vs "vs" 950),(vs "decreasing" 951),(vs "na_last" 952),(vs "merged" 953),(vs "i" 954),(vs "j" 955)],o4,zg 88,zc "merge_runs" 945 "merge_runs" 946 947 535 5 0 0 3 572 true 573 vn (vr 574) (vr 575) (vr 576) 956 535 957,zf 88 3 vn "vectorcove.sorting" 890 577,o4,o5,zg 89,zc "merge_sort" 959 "merge_sort" 960 961 547 4 0 0 3 579 true 580 vn vn vn (vr 581) 962 547 963,zf 89 3 vn "vectorcove.sorting" 890 582,o4,o5,zg 90,zc "each_key" 965 "each_key" 966 967 559 2 0 0 3 584 true 585 vn vn vn (vr 586) 968 559 969,zf 90 3 vn "vectorcove.sorting" 890 587,o4,o5,zt [(vs "vs" 974),(vs "na_last" 975),(vs "places" 976),(vs "place" 977),(vs "keep" 978),(vs "v" 979)],o4,zg 91,zc "kept_places" 971 "kept_places" 972 973 563 2 0 0 3 589 true 590 vn (vr 591) (vr 592) (vr 593) 980 563 981,zf 91 3 vn "vectorcove.sorting" 890 594]
def t610(P:Params):BT:=bt 11 ([boot_o_0 P,boot_o_1 P,o10 P,zd [(en P "__name__" 165 (vs "vectorcove.sorting" 890)),(y50 P),(y17 P),(y2 P),(y42 P),(y7 P),(y9 P),(y4 P),(y24 P),(y23 P),(y11 P),(y25 P),(y53 P),(y54 P),(y49 P),(y6 P),(y1 P),(y52 P),(y22 P),(y58 P),(y36 P),(y51 P),(y30 P),(y57 P),(y27 P),(y12 P),(y31 P),(y37 P),(y8 P),(y10 P),(y16 P),(y13 P),(y41 P),(y28 P),(y18 P),(y14 P),(y34 P),(y47 P),(y32 P),(y55 P),(y20 P),(y29 P),(y15 P),(y35 P),(y19 P),(y56 P),(y33 P),(y59 P),(y26 P),(y45 P),(y63 P),(y70 P),(y64 P),(y62 P),(y68 P),(y61 P),(y74 P),(y86 P),(y80 P),(y71 P),(y78 P),(y65 P),(y77 P),(y84 P),(y66 P),(y73 P),(y46 P),(y72 P),(y67 P),(y119 P),(y75 P),(y69 P),(y76 P),(y87 P),(y88 P),(y89 P),(y99 P),(y100 P),(y79 P),(y83 P),(y85 P),(y81 P),(y122 P),(y130 P),(y129 P),(y125 P),(y112 P),(y108 P),(y107 P),(y115 P),(y124 P),(y123 P),(y128 P),(y118 P)] 94]++(t900 P++([ct [1,0,20,5,0,27,7,0,40,17,0,62,21,0,69,25,0,76,35,0,83,39,0,90,41,0,97,43,0,104,47,0,111,52,0,118,58,0,125,69,0,132,90,0,139,101,0,146,109,0,153,114,0,160,123,0,167,128,0,174,135,0,181,143,0,188,150,0,195,170,0,202,177,0,207,181,0,215,183,0,222,195,0,229,207,0,236,212,0,243,216,0,250,226,0,257,236,0,264,270,0,271,288,0,278,293,0,299,304,0,328,306,0,335,308,0,342,319,0,349,321,0,356,323,0,363,328,0,370,332,0,377,342,0,384,346,0,389,352,0,394,368,0,401,373,0,406,378,0,413,385,0,420,390,0,427,396,0,434,399,0,441,405,0,448,413,0,455,419,0,462,429,0,469,437,0,476,443,0,483,451,0,490,465,0,497,467,0,504,473,0,511,475,0,516,489,0,523,493,0,528,500,0,535,503,0,542,505,0,549,513,0,556,516,0,563,529,0,570,535,0,577,547,0,582,559,0,587,563,0,594],o6,o7]++(t901 P++([o35,o30,o31,o32]++(t902 P++(t903++(t904++(t905 P++(t906 P++(t907++(t908++(t909)))))))))))))
def t910:List Obj:=[zt [(.bool false),(.bool true)],o4,o5,zt [(vs "vs" 986),(vs "decreasing" 987),(vs "na_last" 988),(vs "v" 989),(vs "flags" 990)],o4,zg 92,zc "order_by" 983 "order_by" 984 985 574 3 0 0 3 597 true 598 vn (vr 599) (vr 600) (vr 601) 991 574 992,zf 92 3 (vr 596) "vectorcove.sorting" 890 602,o4,o5,zt [(vs "v" 999)],o4,zg 94,zc "is_factor" 996 "is_factor" 997 998 584 1 0 0 3 604 true 605 vn (vr 606) (vr 607) (vr 608) 1000 584 1001,zf 94 3 vn "vectorcove.frames" 994 609,o4,o5,zt [(vs "v" 1006),(vs "found" 1007),(vs "one" 1008)],o4,zg 95,zc "single_texts" 1003 "single_texts" 1004 1005 586 1 0 0 3 611 true 612 vn (vr 613) (vr 614) (vr 615) 1009 586 1010,zf 95 3 vn "vectorcove.frames" 994 616,o4,o5,zt [(vs "column" 1015)],o4,zg 96,zc "factor_levels" 1012 "factor_levels" 1013 1014 595 1 0 0 3 618 true 619 vn (vr 620) (vr 621) (vr 622) 1016 595 1017,zf 96 3 vn "vectorcove.frames" 994 623,o4,o5,zg 97,zc "new_frame" 1019 "new_frame" 1020 1021 597 3 0 0 3 625 true 626 vn vn vn (vr 627) 1022 597 1023,zf 97 3 vn "vectorcove.frames" 994 628,o4,o5,zt [(vs "count" 1028)],o4,zg 98,zc "plain_rows" 1025 "plain_rows" 1026 1027 601 1 0 0 3 630 true 631 vn (vr 632) (vr 633) (vr 634) 1029 601 1030,zf 98 3 vn "vectorcove.frames" 994 635,o4,o5,zt [(vs "column" 1035),(vs "kept" 1036),(vs "name" 1037)],o4,zg 99,zc "kept_attrs" 1032 "kept_attrs" 1033 1034 603 1 0 0 3 637 true 638 vn (vr 639) (vr 640) (vr 641) 1038 603 1039,zf 99 3 vn "vectorcove.frames" 994 642,o4,o5,zt [(vs "kind" 1044)],o4,zg 100,zc "lacking" 1041 "lacking" 1042 1043 611 1 0 0 3 644 true 645 vn (vr 646) (vr 647) (vr 648) 1045 611 1046,zf 100 3 vn "vectorcove.frames" 994 649,o4,o5,zt [(vs "column" 1051),(vs "places" 1052),(vs "items" 1053),(vs "count" 1054),(vs "place" 1055)],o4,zg 101,zc "pick_items" 1048 "pick_items" 1049 1050 615 2 0 0 3 651 true 652 vn (vr 653) (vr 654) (vr 655) 1056 615 1057,zf 101 3 vn "vectorcove.frames" 994 656,o4,o5,zt [(vs "parts" 1064),(vs "levels" 1065),(vs "known" 1066),(vs "part" 1067),(vs "texts" 1068),(vs "one" 1069),(vs "codes" 1070),(vs "attrs" 1071)],o4,zg 103,zc "joined_factor" 1061 "joined_factor" 1062 1063 625 1 0 0 3 658 true 659 vn (vr 660) (vr 661) (vr 662) 1072 625 1073,zf 103 3 vn "vectorcove.framebind" 1059 663,o4,o5,zg 104,zc "joined_column" 1075 "joined_column" 1076 1077 641 1 0 0 3 665 true 666 vn vn vn (vr 667) 1078 641 1079,zf 104 3 vn "vectorcove.framebind" 1059 668,o4,o5,zg 106,zc "column_keys" 1083 "column_keys" 1084 1085 658 1 0 0 3 670 true 671 vn vn vn (vr 672) 1086 658 1087,zf 106 3 vn "vectorcove.joins" 1081 673]
def t691(P:Params):BT:=bt 11 ([boot_o_0 P,boot_o_1 P,o10 P,zd [(en P "__name__" 165 (vs "vectorcove.joins" 1081)),(y50 P),(y17 P),(y2 P),(y42 P),(y7 P),(y9 P),(y4 P),(y24 P),(y23 P),(y11 P),(y25 P),(y53 P),(y54 P),(y49 P),(y6 P),(y1 P),(y52 P),(y22 P),(y58 P),(y36 P),(y51 P),(y30 P),(y57 P),(y27 P),(y12 P),(y31 P),(y37 P),(y8 P),(y10 P),(y16 P),(y13 P),(y41 P),(y28 P),(y18 P),(y14 P),(y34 P),(y47 P),(y32 P),(y55 P),(y20 P),(y29 P),(y15 P),(y35 P),(y19 P),(y56 P),(y33 P),(y59 P),(y26 P),(y45 P),(y63 P),(y70 P),(y64 P),(y62 P),(y68 P),(y61 P),(y74 P),(y86 P),(y80 P),(y71 P),(y78 P),(y65 P),(y77 P),(y84 P),(y66 P),(y73 P),(y46 P),(y72 P),(y67 P),(y119 P),(y75 P),(y69 P),(y76 P),(y87 P),(y88 P),(y89 P),(y99 P),(y100 P),(y79 P),(y83 P),(y85 P),(y81 P),(y122 P),(y130 P),(y129 P),(y125 P),(y112 P),(y108 P),(y107 P),(y115 P),(y124 P),(y123 P),(y128 P),(y118 P),(y146 P),(y145 P),(y138 P),(y136 P),(y144 P),(y140 P),(y142 P),(y147 P),(y141 P),(y134 P),(y135 P),(y139 P)] 106]++(t900 P++([ct [1,0,20,5,0,27,7,0,40,17,0,62,21,0,69,25,0,76,35,0,83,39,0,90,41,0,97,43,0,104,47,0,111,52,0,118,58,0,125,69,0,132,90,0,139,101,0,146,109,0,153,114,0,160,123,0,167,128,0,174,135,0,181,143,0,188,150,0,195,170,0,202,177,0,207,181,0,215,183,0,222,195,0,229,207,0,236,212,0,243,216,0,250,226,0,257,236,0,264,270,0,271,288,0,278,293,0,299,304,0,328,306,0,335,308,0,342,319,0,349,321,0,356,323,0,363,328,0,370,332,0,377,342,0,384,346,0,389,352,0,394,368,0,401,373,0,406,378,0,413,385,0,420,390,0,427,396,0,434,399,0,441,405,0,448,413,0,455,419,0,462,429,0,469,437,0,476,443,0,483,451,0,490,465,0,497,467,0,504,473,0,511,475,0,516,489,0,523,493,0,528,500,0,535,503,0,542,505,0,549,513,0,556,516,0,563,529,0,570,535,0,577,547,0,582,559,0,587,563,0,594,574,0,602,584,0,609,586,0,616,595,0,623,597,0,628,601,0,635,603,0,642,611,0,649,615,0,656,625,0,663,641,0,668,658,0,673],o6,o7]++(t901 P++([o35,o30,o31,o32]++(t902 P++(t903++(t904++(t905 P++(t906 P++(t907++(t908++(t909++(t910))))))))))))))
def t911:List Obj:=[o4,o5,zg 107,zc "row_keys" 1089 "row_keys" 1090 1091 665 2 0 0 3 675 true 676 vn vn vn (vr 677) 1092 665 1093,zf 107 3 vn "vectorcove.joins" 1081 678,o4,o5,zt [(vs "column" 1098)],o4,zg 108,zc "sort_key" 1095 "sort_key" 1096 1097 671 1 0 0 3 680 true 681 vn (vr 682) (vr 683) (vr 684) 1099 671 1100,zf 108 3 vn "vectorcove.joins" 1081 685,o4,o5,zt [(vs "columns" 1105),(vs "place" 1106),(vs "column" 1107)],o4,zg 109,zc "is_complete" 1102 "is_complete" 1103 1104 673 2 0 0 3 687 true 688 vn (vr 689) (vr 690) (vr 691) 1108 673 1109,zf 109 3 vn "vectorcove.joins" 1081 692,o4,o5,zg 110,zc "grouped_places" 1111 "grouped_places" 1112 1113 678 1 0 0 3 694 true 695 vn vn vn (vr 696) 1114 678 1115,zf 110 3 vn "vectorcove.joins" 1081 697,o4,o5,zt [(vs "results" 1120),(vs "simplify" 1121),(vs "one" 1122)],o4,zg 111,zc "joined_results" 1117 "joined_results" 1118 1119 691 2 0 0 3 699 true 700 vn (vr 701) (vr 702) (vr 703) 1123 691 1124,zf 111 3 vn "vectorcove.joins" 1081 704,o4,o5,zt [(vs "values" 1129),(vs "groups" 1130),(vs "rows" 1131),(vs "column" 1132)],o4,zg 112,zc "check_groups" 1126 "check_groups" 1127 1128 698 2 0 0 3 706 true 707 vn (vr 708) (vr 709) (vr 710) 1133 698 1134,zf 112 3 vn "vectorcove.joins" 1081 711,zt [(.bool true)],o4,o5,zg 113,zc "aggregate_by" 1136 "aggregate_by" 1137 1138 703 6 0 0 3 714 true 715 vn vn vn (vr 716) 1139 703 1140,zf 113 3 (vr 713) "vectorcove.joins" 1081 717,o4,o5,zt [(vs "v" 1145)],o4,zg 114,zc "attribute_free" 1142 "attribute_free" 1143 1144 716 1 0 0 3 719 true 720 vn (vr 721) (vr 722) (vr 723) 1146 716 1147,zf 114 3 vn "vectorcove.joins" 1081 724,o4,o5,zt [(vs "column" 1152),(vs "one" 1153)],o4,zg 115,zc "bare_column" 1149 "bare_column" 1150 1151 718 1 0 0 3 726 true 727 vn (vr 728) (vr 729) (vr 730) 1154 718 1155,zf 115 3 vn "vectorcove.joins" 1081 731,o310,o4,o5,zg 116,zc "stack_frame" 1157 "stack_frame" 1158 1159 727 2 0 0 3 734 true 735 vn vn vn (vr 736) 1160 727 1161,zf 116 3 (vr 733) "vectorcove.joins" 1081 737,o4,o5,zt [(vs "well" 1168),(vs "limit" 1169),(vs "digit" 1170)],o4,zg 118,zc "_law_dip" 1165 "_law_dip" 1166 1167 746 2 0 0 3 739 true 740 vn (vr 741) (vr 742) (vr 743) 1171 746 1172,zf 118 3 vn "law_sm0110_01" 1163 744,o4,o5,zt [(vs "sort" 1177),(vs "one" 1178),(vs "halves" 1179)],o4,zg 119,zc "_law_pair" 1174 "_law_pair" 1175 1176 754 2 0 0 3 746 true 747 vn (vr 748) (vr 749) (vr 750) 1180 754 1181,zf 119 3 vn "law_sm0110_01" 1163 751,o4,o5,zg 120,zc "_law_told" 1183 "_law_told" 1184 1185 765 1 0 0 3 753 true 754 vn vn vn (vr 755) 1186 765 1187,zf 120 3 vn "law_sm0110_01" 1163 756]
def t776(P:Params):BT:=bt 11 ([boot_o_0 P,boot_o_1 P,o10 P,zd [(y157 P),(y50 P),(y17 P),(y2 P),(y42 P),(y7 P),(y9 P),(y4 P),(y24 P),(y23 P),(y11 P),(y25 P),(y53 P),(y54 P),(y49 P),(y6 P),(y1 P),(y52 P),(y22 P),(y58 P),(y36 P),(y51 P),(y30 P),(y57 P),(y27 P),(y12 P),(y31 P),(y37 P),(y8 P),(y10 P),(y16 P),(y13 P),(y41 P),(y28 P),(y18 P),(y14 P),(y34 P),(y47 P),(y32 P),(y55 P),(y20 P),(y29 P),(y15 P),(y35 P),(y19 P),(y56 P),(y33 P),(y59 P),(y26 P),(y45 P),(y63 P),(y70 P),(y64 P),(y62 P),(y68 P),(y61 P),(y74 P),(y86 P),(y80 P),(y71 P),(y78 P),(y65 P),(y77 P),(y84 P),(y66 P),(y73 P),(y46 P),(y72 P),(y67 P),(y119 P),(y75 P),(y69 P),(y76 P),(y87 P),(y88 P),(y89 P),(y99 P),(y100 P),(y79 P),(y83 P),(y85 P),(y81 P),(y122 P),(y130 P),(y129 P),(y125 P),(y112 P),(y108 P),(y107 P),(y115 P),(y124 P),(y123 P),(y128 P),(y118 P),(y146 P),(y145 P),(y138 P),(y136 P),(y144 P),(y140 P),(y142 P),(y147 P),(y141 P),(y134 P),(y135 P),(y139 P),(en P "row_keys" 1094 (vr 679)),(en P "sort_key" 1101 (vr 686)),(en P "is_complete" 1110 (vr 693)),(y221 P),(y220 P),(en P "check_groups" 1135 (vr 712)),(en P "aggregate_by" 1141 (vr 718)),(y222 P),(en P "bare_column" 1156 (vr 732)),(en P "stack_frame" 1162 (vr 738)),(en P "_law_dip" 1173 (vr 745)),(en P "_law_pair" 1182 (vr 752)),(en P "_law_told" 1188 (vr 757))] 119]++(t900 P++([ct [1,0,20,5,0,27,7,0,40,17,0,62,21,0,69,25,0,76,35,0,83,39,0,90,41,0,97,43,0,104,47,0,111,52,0,118,58,0,125,69,0,132,90,0,139,101,0,146,109,0,153,114,0,160,123,0,167,128,0,174,135,0,181,143,0,188,150,0,195,170,0,202,177,0,207,181,0,215,183,0,222,195,0,229,207,0,236,212,0,243,216,0,250,226,0,257,236,0,264,270,0,271,288,0,278,293,0,299,304,0,328,306,0,335,308,0,342,319,0,349,321,0,356,323,0,363,328,0,370,332,0,377,342,0,384,346,0,389,352,0,394,368,0,401,373,0,406,378,0,413,385,0,420,390,0,427,396,0,434,399,0,441,405,0,448,413,0,455,419,0,462,429,0,469,437,0,476,443,0,483,451,0,490,465,0,497,467,0,504,473,0,511,475,0,516,489,0,523,493,0,528,500,0,535,503,0,542,505,0,549,513,0,556,516,0,563,529,0,570,535,0,577,547,0,582,559,0,587,563,0,594,574,0,602,584,0,609,586,0,616,595,0,623,597,0,628,601,0,635,603,0,642,611,0,649,615,0,656,625,0,663,641,0,668,658,0,673,665,0,678,671,0,685,673,0,692,678,0,697,691,0,704,698,0,711,703,0,717,716,0,724,718,0,731,727,0,737,746,0,744,754,0,751,765,0,756],o6,o7]++(t901 P++([o35,o30,o31,o32]++(t902 P++(t903++(t904++(t905 P++(t906 P++(t907++(t908++(t909++(t910++(t911)))))))))))))))
def t912:List Obj:=[o4,o5,zt [(vs "columns" 1192),(vs "heads" 1193),(vs "count" 1194),(vs "words" 1195)],o4,zg 121,zc "_law_sheet" 1189 "_law_sheet" 1190 1191 769 3 0 0 3 758 true 759 vn (vr 760) (vr 761) (vr 762) 1196 769 1197,zf 121 3 vn "law_sm0110_01" 1163 763,o4,o5,zg 122,zc "_law_handed" 1199 "_law_handed" 1200 1201 772 2 0 0 3 765 true 766 vn vn vn (vr 767) 1202 772 1203,zf 122 3 vn "law_sm0110_01" 1163 768,o4,o5,zg 123,zc "law" 1205 "law" 1206 1207 779 1 0 0 3 770 true 771 vn vn vn (vr 772) 1208 779 1209,zf 123 3 vn "law_sm0110_01" 1163 773]
def lst(P:Params):List Obj:=[boot_o_0 P,boot_o_1 P,o10 P,zd [(y157 P),(y50 P),(y17 P),(y2 P),(y42 P),(y7 P),(y9 P),(y4 P),(y24 P),(y23 P),(y11 P),(y25 P),(y53 P),(y54 P),(y49 P),(y6 P),(y1 P),(y52 P),(y22 P),(y58 P),(y36 P),(y51 P),(y30 P),(y57 P),(y27 P),(y12 P),(y31 P),(y37 P),(y8 P),(y10 P),(y16 P),(y13 P),(y41 P),(y28 P),(y18 P),(y14 P),(y34 P),(y47 P),(y32 P),(y55 P),(y20 P),(y29 P),(y15 P),(y35 P),(y19 P),(y56 P),(y33 P),(y59 P),(y26 P),(y45 P),(y63 P),(y70 P),(y64 P),(y62 P),(y68 P),(y61 P),(y74 P),(y86 P),(y80 P),(y71 P),(y78 P),(y65 P),(y77 P),(y84 P),(y66 P),(y73 P),(y46 P),(y72 P),(y67 P),(y119 P),(y75 P),(y69 P),(y76 P),(y87 P),(y88 P),(y89 P),(y99 P),(y100 P),(y79 P),(y83 P),(y85 P),(y81 P),(y122 P),(y130 P),(y129 P),(y125 P),(y112 P),(y108 P),(y107 P),(y115 P),(y124 P),(y123 P),(y128 P),(y118 P),(y146 P),(y145 P),(y138 P),(y136 P),(y144 P),(y140 P),(y142 P),(y147 P),(y141 P),(y134 P),(y135 P),(y139 P),(en P "row_keys" 1094 (vr 679)),(en P "sort_key" 1101 (vr 686)),(en P "is_complete" 1110 (vr 693)),(y221 P),(y220 P),(en P "check_groups" 1135 (vr 712)),(en P "aggregate_by" 1141 (vr 718)),(y222 P),(en P "bare_column" 1156 (vr 732)),(en P "stack_frame" 1162 (vr 738)),(en P "_law_dip" 1173 (vr 745)),(en P "_law_pair" 1182 (vr 752)),(en P "_law_told" 1188 (vr 757)),(en P "_law_sheet" 1198 (vr 764)),(en P "_law_handed" 1204 (vr 769)),(en P "law" 1210 (vr 774))] 122]++(t900 P++([ct [1,0,20,5,0,27,7,0,40,17,0,62,21,0,69,25,0,76,35,0,83,39,0,90,41,0,97,43,0,104,47,0,111,52,0,118,58,0,125,69,0,132,90,0,139,101,0,146,109,0,153,114,0,160,123,0,167,128,0,174,135,0,181,143,0,188,150,0,195,170,0,202,177,0,207,181,0,215,183,0,222,195,0,229,207,0,236,212,0,243,216,0,250,226,0,257,236,0,264,270,0,271,288,0,278,293,0,299,304,0,328,306,0,335,308,0,342,319,0,349,321,0,356,323,0,363,328,0,370,332,0,377,342,0,384,346,0,389,352,0,394,368,0,401,373,0,406,378,0,413,385,0,420,390,0,427,396,0,434,399,0,441,405,0,448,413,0,455,419,0,462,429,0,469,437,0,476,443,0,483,451,0,490,465,0,497,467,0,504,473,0,511,475,0,516,489,0,523,493,0,528,500,0,535,503,0,542,505,0,549,513,0,556,516,0,563,529,0,570,535,0,577,547,0,582,559,0,587,563,0,594,574,0,602,584,0,609,586,0,616,595,0,623,597,0,628,601,0,635,603,0,642,611,0,649,615,0,656,625,0,663,641,0,668,658,0,673,665,0,678,671,0,685,673,0,692,678,0,697,691,0,704,698,0,711,703,0,717,716,0,724,718,0,731,727,0,737,746,0,744,754,0,751,765,0,756,769,0,763,772,0,768,779,0,773],o6,o7]++(t901 P++([o35,o30,o31,o32]++(t902 P++(t903++(t904++(t905 P++(t906 P++(t907++(t908++(t909++(t910++(t911++(t912)))))))))))))))
def t795(P:Params):BT:=bt 11 (lst P)
def hp7(P:Params):Heap:=hq [boot_o_0 P,boot_o_1 P,boot_o_2 P,boot_o_3 P,boot_o_4 P,boot_o_5 P,boot_o_6 P,boot_o_7 P,boot_o_8 P,boot_o_9 P,boot_o_10 P,o4,o5,o6,o7]
def hp796(P:Params):Heap:=hq (lst P)
noncomputable abbrev bE:List Stmt:=behindTheImports pw
def ZU:Env:={scope:=pw.main.scope,locals:=mainNs,globals:=mainNs,cells:=[],code:=.ref 13,frame:=some 14}
noncomputable abbrev cE:Code:=.body bE ZU
noncomputable abbrev B:List Frame:=[topFrame ⟨0,0,0,0⟩]
noncomputable def SS(t:BT)(n k:Nat)(os:OsState):SharedT:=⟨t,n,{},.mk [],{},k,os⟩
noncomputable abbrev lR:=PySem.W.Fast.tw14364793385576792824
noncomputable abbrev iX:Option Value:=some (.ref 6)
noncomputable def C3:List Stmt:=(bE.drop 0).take 3
noncomputable def F5:List Stmt:=(bE.drop 3).take 9
noncomputable def Fa:List Stmt:=(bE.drop 12).take 15
noncomputable def yW:List Stmt:=(bE.drop 27).take 12
noncomputable def zR:List Stmt:=(bE.drop 39).take 7
noncomputable def yY:List Stmt:=(bE.drop 46).take 5
noncomputable def zX:List Stmt:=(bE.drop 51).take 15
noncomputable def zo:List Stmt:=(bE.drop 66).take 13
noncomputable def yZ:List Stmt:=(bE.drop 79).take 13
noncomputable def y3:List Stmt:=(bE.drop 92).take 15
noncomputable def ze:List Stmt:=(bE.drop 107).take 14
noncomputable def zS:List Stmt:=(bE.drop 121).take 3
theorem FL:bE=C3 ++ (F5 ++ (Fa ++ (yW ++ (zR ++ (yY ++ (zX ++ (zo ++ (yZ ++ (y3 ++ (ze ++ (zS ++ ([])))))))))))):=by rfl'
theorem AA(s:Shared):fenceModules? pw s=some s:=by rfl'
theorem BM:opening pw=plainProg pw.main.scope.names:=by rfl'
theorem Fg(w:World)(os:OsState):PySem.W.Fast.tw15667345088766844465 lR pw w 11 iX 12 ⟨boot_heap w.params,.mk [],boot_drawn,boot_toks,os⟩ (topStub pw)=some (⟨hp7 w.params,.mk [],{},187,os⟩,⟨PySem.W.Fast.tw11892475500146522536 lR cE,cE,⟨0,0,0,0⟩,B⟩):=by rfl'
theorem pre(w:World)(os:OsState):topGo treeTable pw w 11 iX 12 ⟨boot_heap w.params,.mk [],boot_drawn,boot_toks,os⟩ (topStub pw)=some (⟨hp7 w.params,.mk [],{},187,os⟩,⟨denote treeTable cE,cE,⟨0,0,0,0⟩,B⟩):=by
 rw[PySem.W.Fast.te15667345088766844465,PySem.W.Fast.te11892475500146522536,PySem.W.Fast.te14364793385576792824];exact Fg w os
theorem EW(w:World)(os:OsState):PySem.W.Fast.tw14374325043358763698 lR pw w 11 iX 1 1 ⟨hp7 w.params,.mk [],{},187,os⟩ (blockOf bE ZU cE ⟨0,0,0,0⟩ B)=some (.next,(SS (t8 w.params) 15 187 os).abs,cE,⟨0,0,0,0⟩):=by rfl'
theorem MI(w:World)(os:OsState):segRun treeTable pw w 11 iX 1 1 ⟨hp7 w.params,.mk [],{},187,os⟩ (blockOf bE ZU cE ⟨0,0,0,0⟩ B)=some (.next,(SS (t8 w.params) 15 187 os).abs,cE,⟨0,0,0,0⟩):=by
 rw[PySem.W.Fast.te14374325043358763698,PySem.W.Fast.te14364793385576792824];exact EW w os
theorem gH{w:World}{n:Nat}{S S':SharedT}{t:Thread}{f:Flow}{c:Code}{q:Pos}(h:PySem.W.Fast.tw10110043849684766642 lR pw w 11 iX 1 n S t=some (f,S',c,q)):segRun treeTable pw w 11 iX 1 n S.abs t=some (f,S'.abs,c,q):=
 segRun_of (by rw[PySem.W.Fast.te10110043849684766642,PySem.W.Fast.te14364793385576792824];exact h)
theorem G7(w:World)(os:OsState):PySem.W.Fast.tw10110043849684766642 lR pw w 11 iX 1 235 (SS (t8 w.params) 15 187 os) (piecesOf C3 ZU cE ⟨0,0,0,0⟩ B)=some (.next,SS (t32 w.params) 35 216 os,cE,⟨5,0,6,8⟩):=by rfl'
theorem H2(w:World)(os:OsState):PySem.W.Fast.tw10110043849684766642 lR pw w 11 iX 1 376 (SS (t32 w.params) 35 216 os) (piecesOf F5 ZU cE ⟨5,0,6,8⟩ B)=some (.next,SS (t71 w.params) 71 273 os,cE,⟨21,0,24,17⟩):=by rfl'
theorem DT(w:World)(os:OsState):PySem.W.Fast.tw10110043849684766642 lR pw w 11 iX 1 394 (SS (t71 w.params) 71 273 os) (piecesOf Fa ZU cE ⟨21,0,24,17⟩ B)=some (.next,SS (t157 w.params) 155 381 os,cE,⟨109,0,113,61⟩):=by rfl'
theorem Eb(w:World)(os:OsState):PySem.W.Fast.tw10110043849684766642 lR pw w 11 iX 1 387 (SS (t157 w.params) 155 381 os) (piecesOf yW ZU cE ⟨109,0,113,61⟩ B)=some (.next,SS (t242 w.params) 238 504 os,cE,⟨207,0,211,16⟩):=by rfl'
theorem Ea(w:World)(os:OsState):PySem.W.Fast.tw10110043849684766642 lR pw w 11 iX 1 400 (SS (t242 w.params) 238 504 os) (piecesOf zR ZU cE ⟨207,0,211,16⟩ B)=some (.next,SS (t300 w.params) 294 593 os,cE,⟨288,0,292,25⟩):=by rfl'
theorem Db(w:World)(os:OsState):PySem.W.Fast.tw10110043849684766642 lR pw w 11 iX 1 378 (SS (t300 w.params) 294 593 os) (piecesOf yY ZU cE ⟨288,0,292,25⟩ B)=some (.next,SS (t359 w.params) 351 664 os,cE,⟨319,0,320,32⟩):=by rfl'
theorem Da(w:World)(os:OsState):PySem.W.Fast.tw10110043849684766642 lR pw w 11 iX 1 376 (SS (t359 w.params) 351 664 os) (piecesOf zX ZU cE ⟨319,0,320,32⟩ B)=some (.next,SS (t439 w.params) 429 760 os,cE,⟨390,0,395,22⟩):=by rfl'
theorem Ey(w:World)(os:OsState):PySem.W.Fast.tw10110043849684766642 lR pw w 11 iX 1 394 (SS (t439 w.params) 429 760 os) (piecesOf zo ZU cE ⟨390,0,395,22⟩ B)=some (.next,SS (t530 w.params) 518 869 os,cE,⟨475,0,488,30⟩):=by rfl'
theorem D3(w:World)(os:OsState):PySem.W.Fast.tw10110043849684766642 lR pw w 11 iX 1 380 (SS (t530 w.params) 518 869 os) (piecesOf yZ ZU cE ⟨475,0,488,30⟩ B)=some (.next,SS (t610 w.params) 596 983 os,cE,⟨563,0,573,17⟩):=by rfl'
theorem Dh(w:World)(os:OsState):PySem.W.Fast.tw10110043849684766642 lR pw w 11 iX 1 387 (SS (t610 w.params) 596 983 os) (piecesOf y3 ZU cE ⟨563,0,573,17⟩ B)=some (.next,SS (t691 w.params) 675 1089 os,cE,⟨658,0,664,42⟩):=by rfl'
theorem CY(w:World)(os:OsState):PySem.W.Fast.tw10110043849684766642 lR pw w 11 iX 1 386 (SS (t691 w.params) 675 1089 os) (piecesOf ze ZU cE ⟨658,0,664,42⟩ B)=some (.next,SS (t776 w.params) 758 1189 os,cE,⟨765,0,768,35⟩):=by rfl'
theorem Er(w:World)(os:OsState):PySem.W.Fast.tw10110043849684766642 lR pw w 11 iX 1 85 (SS (t776 w.params) 758 1189 os) (piecesOf zS ZU cE ⟨765,0,768,35⟩ B)=some (.next,SS (t795 w.params) 775 1211 os,cE,⟨779,0,855,110⟩):=by rfl'
theorem FH(w:World)(os:OsState):PySem.W.Fast.tw14082659384304107361 lR pw w 11 iX 2 (SS (t795 w.params) 775 1211 os).abs ⟨doneF .next,cE,⟨779,0,855,110⟩,B⟩=some ⟨hp796 w.params,.mk [],{},1211,os⟩:=by rfl'
theorem fin(w:World)(os:OsState):topRun treeTable pw w 11 iX 2 (SS (t795 w.params) 775 1211 os).abs ⟨doneF .next,cE,⟨779,0,855,110⟩,B⟩=some ⟨hp796 w.params,.mk [],{},1211,os⟩:=by
 rw[PySem.W.Fast.te14082659384304107361,PySem.W.Fast.te14364793385576792824];exact FH w os
theorem C0(w:World)(os:OsState):topRun treeTable pw w 11 iX (12+(1+(235+(376+(394+(387+(400+(378+(376+(394+(380+(387+(386+(85+2)))))))))))))) ⟨boot_heap w.params,.mk [],boot_drawn,boot_toks,os⟩ (topStub pw)=some ⟨hp796 w.params,.mk [],{},1211,os⟩:=by
 refine go_top (pre w os) ?_
 refine piece_block (q:=⟨0,0,0,0⟩) (MI w os) ?_
 rw[FL]
 refine piece_app (q:=⟨0,0,0,0⟩) (gH (G7 w os)) ?_
 refine piece_app (q:=⟨0,0,0,0⟩) (gH (H2 w os)) ?_
 refine piece_app (q:=⟨0,0,0,0⟩) (gH (DT w os)) ?_
 refine piece_app (q:=⟨0,0,0,0⟩) (gH (Eb w os)) ?_
 refine piece_app (q:=⟨0,0,0,0⟩) (gH (Ea w os)) ?_
 refine piece_app (q:=⟨0,0,0,0⟩) (gH (Db w os)) ?_
 refine piece_app (q:=⟨0,0,0,0⟩) (gH (Da w os)) ?_
 refine piece_app (q:=⟨0,0,0,0⟩) (gH (Ey w os)) ?_
 refine piece_app (q:=⟨0,0,0,0⟩) (gH (D3 w os)) ?_
 refine piece_app (q:=⟨0,0,0,0⟩) (gH (Dh w os)) ?_
 refine piece_app (q:=⟨0,0,0,0⟩) (gH (CY w os)) ?_
 refine piece_app (q:=⟨0,0,0,0⟩) (gH (Er w os)) ?_
 exact piece_nil (q:=⟨0,0,0,0⟩) (fin w os)
noncomputable def qv:Program:=view pw [123]
noncomputable def loose:List Str:=(["_wall","CoveError","Refusal","NAN","INF","ZERO","MOST_FIGURES","MOST_PART","gcd","bounded","make","from_int","is_na","is_finite","neg","to_whole","nearest_whole","exponent","compare","MOST_EXPONENT","MOST_SIGNS","whole_text","special_text","scaled","significant","without_tail","scientific_text","fixed_text","measures","chosen_form","formed","common_texts","number_text","decimal_places","exact_text","digits_value","digit_run","exponent_value","powered","unsigned_number","parse_number","Null","Vector","integer","character","length","is_vector","is_atomic","share","get_attr","label_text","level_at","label_texts","names_of","dim_of","dimnames_of","class_attr","MOST_INTEGER","kind_order","common_kind","note","as_logical_text","double_to_integer","text_to_double","to_logical","to_integer","to_double","to_text","item_as","is_atomic_kind","list_item_as","refuse_type","as_vector_kind","with_names","as_kind","as_list","is_lacking","compare_items","check_sortable","compare_places","compare_keys","merge_runs","merge_sort","each_key","kept_places","order_by","is_factor","single_texts","factor_levels","new_frame","plain_rows","kept_attrs","lacking","pick_items","joined_factor","joined_column","column_keys","row_keys","sort_key","is_complete","grouped_places","joined_results","check_groups","aggregate_by","attribute_free","bare_column","stack_frame","_law_dip","_law_pair","_law_told","_law_sheet","_law_handed"]:List String).map Str.ofString
noncomputable def As:List Addr:=[1,2,3,20,21,30,31,47,48,50,51,62,63,69,70,76,77,83,84,90,91,97,98,104,105,111,112,118,119,125,126,132,133,139,140,146,147,153,154,160,161,167,168,174,175,181,182,188,189,195,196,202,203,207,208,209,215,216,222,223,229,230,236,237,243,244,250,251,257,258,264,265,271,272,285,286,288,289,301,307,308,314,315,317,318,328,329,335,336,342,343,349,350,356,357,363,364,370,371,377,378,384,385,389,390,394,395,401,402,406,407,413,414,420,421,427,428,434,435,441,442,448,449,455,456,462,463,469,470,476,477,483,484,490,491,497,498,504,505,511,512,516,517,523,524,528,529,535,536,542,543,549,550,556,557,563,564,570,571,577,578,582,583,587,588,594,595,596,602,603,609,610,616,617,623,624,628,629,635,636,642,643,649,650,656,657,663,664,668,669,673,674,678,679,685,686,692,693,697,698,704,705,711,712,713,717,718,724,725,731,732,733,737,738,744,745,751,752,756,757,763,764,768,769,773,774]
noncomputable def K(P:Params):Frag:=As.map λa=>(a,(lst P).getD a o4)
end
section
noncomputable abbrev S1(w:World)(os:OsState):Shared:=⟨hp796 w.params,.mk [],{},1211,os⟩
noncomputable abbrev md:List Str:=importedModules pw.main.body
theorem l1(w:World)(os:OsState):(staticsOk md (boot_heap w.params) (hp796 w.params) && namesBound pw (hp796 w.params) && gensDone (S1 w os) && laidKept (boot_heap w.params) (hp796 w.params))=true:=by rfl'
theorem l2(w:World)(os:OsState):seen ((recsOf qv).map (·.name)) (ownsOf qv) [] {S1 w os with gens:=#[]}=expectedOf qv:=by rfl'
theorem l3(w:World)(os:OsState):(S1 w os).heap.bltView=bltViewBooted:=by rfl'
theorem l4(w:World)(os:OsState):((S1 w os).heap.keysOk (looseW qv loose) ((recsOf qv).map (·.name)) ((litsOf qv).map (·.1)) ((clssOf qv (looseW qv loose)).map (·.name)) && (S1 w os).heap.accountedOkI md && (S1 w os).heap.isNs mainGlobals && (S1 w os).heap.isNs builtinsNs && tablesOk qv (S1 w os).heap && true && ((S1 w os).gens.size == 0))=true:=by rfl'
theorem l5(w:World)(os:OsState):tabsOk qv (S1 w os)=true:=by rfl'
theorem l6(w:World)(os:OsState):pinSeenD qv (drecsOf qv) (S1 w os)=pinGoodD (drecsOf qv):=by rfl'
theorem l7(w:World)(os:OsState):plainSeenE qv (looseW qv loose) (S1 w os)=plainGoodE qv (looseW qv loose):=by rfl'
theorem l8(w:World)(os:OsState):plainSeenD qv loose (S1 w os)=plainGoodD qv loose:=by rfl'
theorem l9(w:World)(os:OsState):wideSeen qv (S1 w os)=wideGood qv:=by rfl'
theorem LA(w:World)(os:OsState):clsSeenW qv loose (S1 w os)=clsGoodW qv loose:=by rfl'
theorem DX(P:Params):As=(K P).map (·.1):=by rfl'
theorem Lg(w:World)(os:OsState):As.map (S1 w os).heap.get?=(K w.params).map λp=>some p.2:=by rfl'
theorem DO(w:World):((boot_heap w.params).isNs mainGlobals && ((.mk []:Array GenState)).size == 0,(boot_heap w.params).objs.size,(boot_heap w.params).nsMap mainGlobals "__annotations__")=(true,11,iX):=by rfl'
noncomputable abbrev Hk:Hook:=kHook K As DX
theorem Fh(w:World):(λos=>((staticsOk (importedModules pw.main.body) (boot_heap w.params) (hp796 w.params) && namesBound pw (hp796 w.params) && gensDone (S1 w os) && laidKept (boot_heap w.params) (hp796 w.params)),
    openSeen qv loose (importedModules pw.main.body) (λ_=>true) true (S1 w os),Hk.obs (S1 w os)))=λ_=>(true,openGood qv loose,Hk.val w):=by
 funext os
 refine looks_pair (l1 w os) (looks_pair ?_ (Lg w os))
 unfold openSeen openGood
 exact looks_pair (l2 w os) (looks_pair (l3 w os) (looks_pair (l4 w os) (looks_pair (l5 w os) (looks_pair (l6 w os) (looks_pair (l7 w os) (looks_pair (l8 w os) (looks_pair (l9 w os) (LA w os))))))))
theorem left:LeftO pw qv loose (λ_=>true) Hk.obs Hk.val 9000 true:=
 LeftO.of_pieces (boot_open BM (by decide +kernel) AA) DO C0 (by decide +kernel) Fh
end
section
noncomputable def mj:DefRec:=match zE 123 with
 |.FunctionDef n a b _ _ _ sc _ _ p=>{name:=n,params:=a,body:=b,scope:=sc,pos:=p}
 |_=>{name:="x",params:=default,body:=[],scope:=default,pos:=default}
noncomputable abbrev sN:OpenLaw:=PySem.Challenge.rw_sm0110_01
theorem c1:defOf qv sN.row.name=some (mj,[]):=by rfl'
theorem c2:sN.row.prog.theDef sN.row.name=some (mj.params,mj.body,mj.scope):=by rfl'
theorem c3:kwWritten? mj.params.kwonlyargs mj.params.kw_defaults=some []:=by rfl'
theorem c4:(chainsOk qv && opensWell sN.row.prog && (frees sN.row.toRowW && sN.row.within.isEmpty))=true:=by rfl'
theorem c5:sN.row.prog.bare:=⟨rfl,rfl,rfl,rfl,rfl,by rfl'⟩
theorem am(said:sN.wellSaid=true)(call:WalkO qv loose (λ_ _=>True) Hk.says sN.row.toRowW mj [] λf vs=>PySem.call f vs)(hw:sN.row.toRowW.promised):PySem.Challenge.rw_sm0110_01.Holds:=
 holds_law said λsd=>PySem.W.holds_open (r:=sN.row) (q:=qv) (loose:=loose) (Xt:=λ_=>true) (XP:=λ_ _=>True) (Yf:=Hk.obs) (Ya:=Hk.val) (YP:=Hk.says) (N:=9000) left Hk.of Hk.keeps (λ_ _=>trivial) (λ_ _ _ h _=>h) (d:=mj) (kwd:=[]) c1 c2 c3 (λs _=>recFacts_nil rfl) rfl sd c4 c5 hw call
end
section
noncomputable abbrev Kw:OpenLaw:=PySem.Challenge.rw_sm0110_01
noncomputable abbrev zA:Program:=Kw.prog
noncomputable abbrev KH:OpenRow:=PySem.W.Fast.tw2368527892694137696 Kw
theorem Ln:PySem.W.Fast.tw8377067652309620493 zA=true:=by rfl'
theorem L3:PySem.W.Fast.tw8326940854005059898 {strict:=!PySem.W.R.allR (PySem.W.Fast.tw5923862056798008813 zA.main.body) (PySem.W.Fast.tw3471404346716756564 PySem.W.Fast.tw17691160309236699985),foot:=none,bare:=PySem.W.R.filterR (PySem.W.Fast.tw13343964577679436407 zA zA.main.body) [⟨⟨[118,97,114,115]⟩⟩,⟨⟨[100,105,114]⟩⟩,⟨⟨[108,111,99,97,108,115]⟩⟩]} zA.main.body=true:=by rfl'
theorem Lr:(PySem.W.Fast.tw17119622794617984870 zA zA.main.body λ_ n=>PySem.W.Fast.tw17868728402115742887 n)=true:=by rfl'
theorem LS:PySem.W.Fast.tw12908688711261696721 zA=true:=by
 delta PySem.W.Fast.tw12908688711261696721
 repeat' with_reducible refine PySem.W.look_both ?_ ?_
 ·rfl'
 ·rfl'
 ·exact Ln
 ·rfl'
 ·exact L3
 ·exact Lr
theorem Mu:PySem.W.Fast.tw2436336058641802641 KH=true:=by
 delta PySem.W.Fast.tw2436336058641802641
 repeat' with_reducible refine PySem.W.look_both ?_ ?_
 ·exact LS
 all_goals rfl'
theorem M2:PySem.W.Fast.tw17960256430627541270 KH=true:=by
 delta PySem.W.Fast.tw17960256430627541270
 repeat' with_reducible refine PySem.W.look_both ?_ ?_
 ·exact Mu
 all_goals rfl'
theorem said:PySem.Challenge.rw_sm0110_01.wellSaid=true:=by
 rw[PySem.W.Fast.te9446332074065402090]
 delta PySem.W.Fast.tw9446332074065402090
 repeat' with_reducible refine PySem.W.look_both ?_ ?_
 ·exact M2
 all_goals rfl'
end
local macro_rules
  | `(tactic| obtain $p:rcasesPatMed := $e:term) => `(tactic| (refine @box _ fun hG => ?_; rcases ($e) with $p:rcasesPatMed <;> apply hG <;> clear hG))
local macro_rules
  | `(tactic| cases $x:ident) => `(tactic| (have h1 := Option.some.inj $x; clear $x; cases h1))
local macro_rules
  | `(tactic| cases $x:ident) => `(tactic| (injection $x; done))
local macro_rules
  | `(tactic| cases $x:ident) => `(tactic| (guard_hyp $x : _ = _; subst $x))
section
theorem ah{a k m:Nat}(h:a≤k)(q:Nat.ble k m=true):a≤m:=Nat.le_trans h (Nat.le_of_ble_eq_true q)
theorem bz{a b k m:Nat}(h:a≤b)(i:b≤k)(q:Nat.ble k m=true):a≤m:=ah (Nat.le_trans h i) q
theorem ut{a b c k m:Nat}(h:a≤b)(i:b≤c)(j:c≤k)(q:Nat.ble k m=true):a≤m:=bz (Nat.le_trans h i) j q
theorem mQ{a k m:Nat}(h:a≤k)(q:Nat.blt k m=true):a < m:=Nat.lt_of_le_of_lt h (Nat.le_of_ble_eq_true q)
theorem gw{a k m:Nat}(h:a < k)(q:Nat.ble k m=true):a < m:=Nat.lt_of_lt_of_le h (Nat.le_of_ble_eq_true q)
theorem bT{a b k m:Nat}(h:a < b)(i:b≤k)(q:Nat.ble k m=true):a < m:=gw (Nat.lt_of_lt_of_le h i) q
theorem iI{a b k m:Nat}(e:a=b)(h:b≤k)(q:Nat.ble k m=true):a≤m:=e ▸ ah h q
theorem fV{a b c k m:Nat}(e:a=b)(h:b≤c)(i:c≤k)(q:Nat.ble k m=true):a≤m:=e ▸ bz h i q
theorem Dx{b:Int}(h:0 < b):0≤b:=Int.le_of_lt h
theorem zB{a m:Nat}(h:a < m):(a:Int) < (m:Int):=Int.ofNat_lt.mpr h
theorem dS{a k:Nat}{m:Int}(h:a < k)(q:(k:Int)≤m):(a:Int) < m:=Int.lt_of_lt_of_le (Int.ofNat_lt.mpr h) q
theorem jF{a:Nat}{m:Int}(q:m≤0):m≤(a:Int):=Int.le_trans q (Int.natCast_nonneg a)
theorem zF{a k m:Int}(h:a < k)(q:k≤m):a < m:=Int.lt_of_lt_of_le h q
theorem Cb{a b:Nat}(e:a=b)(h:b≠0):¬ (a:Int)=0:=λz=>h (e ▸ Int.ofNat.inj z)
theorem nH{a:Nat}:¬ (a:Int)+1=0:=λh=>absurd (Int.ofNat.inj (show Int.ofNat (a+1)=Int.ofNat 0 from h)) (Nat.succ_ne_zero a)
theorem kZ{a b c:Nat}(h:a+(b+1)≤c):a+1+b≤c:=by rwa [Nat.add_right_comm]
theorem nJ{a b k m:Nat}(h:a+(b+1)≤k)(q:Nat.ble k m=true):a≤m:=ah (Nat.le_trans (Nat.le_add_right _ _) h) q
theorem wo{a b c k m:Nat}(h:c≤k)(h2:c=a+(b+1))(q:Nat.ble k m=true):a≤m:=nJ (h2 ▸ h) q
theorem kB{a b c d k m:Nat}(h2:c=a+(b+1))(h3:c≤d)(h:d≤k)  (q:Nat.ble k m=true):a≤m:=wo (Nat.le_trans h3 h) h2 q
theorem BL{a b c:Nat}(h:c=a+(b+1)):a≤c:=h ▸ Nat.le_add_right _ _
theorem B8{a b c:Nat}(h:c=a+(b+1)):a < c:=h ▸ Nat.lt_add_of_pos_right (Nat.succ_pos _)
theorem uR{a b j k m:Nat}(h:a≤j)(i:b≤k)(q:Nat.ble (j+k) m=true):a+b≤m:=ah (Nat.add_le_add h i) q
theorem nZ{a b c:Nat}(h:a≤3 * c)(i:b≤3):b+a≤3 * (c+1):=by rw[Nat.mul_succ,Nat.add_comm];exact Nat.add_le_add h i
theorem j4{a n k m:Nat}(h:a≤3 * n)(i:n≤k)(q:Nat.ble (3 * k) m=true):a≤m:=ah (Nat.le_trans h (Nat.mul_le_mul_left 3 i)) q
theorem uS{a b n k m:Nat}(h:a≤3 * n)(i:n≤k)(j:b≤3)(q:Nat.ble (3 * k+3) m=true):a+b≤m:=uR (Nat.le_trans h (Nat.mul_le_mul_left 3 i)) j q
theorem n5{a b c n k m:Nat}(h:a≤3 * n)(i:n≤k)(e:b=c)(j:c≤3)(q:Nat.ble (3 * k+3) m=true):a+b≤m:=uS h i (e ▸ j) q
theorem yU{a n d m j:Nat}(h:a+3 * n+d < m)(q:Nat.ble j d=true):a+j < m:=Nat.lt_of_le_of_lt (Nat.add_le_add (Nat.le_add_right a (3 * n)) (Nat.le_of_ble_eq_true q)) h
theorem oI{a n d m:Nat}(h:a+3 * n+d < m):a < m:=Nat.lt_of_le_of_lt (Nat.le_trans (Nat.le_add_right _ _) (Nat.le_add_right _ _)) h
theorem zI{a b:Nat}(h:a < b):min a b=a:=Nat.min_eq_left (Nat.le_of_lt h)
theorem BD{a b:Nat}(h:a < b):a≤b:=Nat.le_of_lt h
theorem Bt{a b:Nat}(h:¬ a < b):b≤a:=Nat.le_of_not_lt h
theorem uL{a b:Nat}(h:a≤b)(n:¬ a=b):a < b:=Nat.lt_of_le_of_ne h n
theorem sS{a b k m:Nat}(e:a=b)(h:b < k)(q:Nat.ble k (m+1)=true):a≤m:=e ▸ Nat.le_of_lt_succ (gw h q)
theorem nE{b k m:Nat}(h:b < k)(q:Nat.ble k (m+1)=true):b≤m:=Nat.le_of_lt_succ (gw h q)
theorem vX{a x i c k m:Nat}(h:a≤x)(e:x=i)(l:i < c)(g:c≤k)(q:Nat.ble k m=true):a≤m:=ah (Nat.le_trans h (Nat.le_trans (Nat.le_of_lt (e ▸ l)) g)) q
theorem y5{n k:Nat}(h:n+k < k):False:=absurd (Nat.le_add_left k n) (Nat.not_le_of_lt h)
theorem AG{a c:Nat}(h:a≤3 * c):0+a≤3 * (c+1):=by rw[Nat.zero_add];exact Nat.le_trans h (Nat.mul_le_mul_left 3 (Nat.le_succ c))
theorem vE{a m j:Nat}(h:a+20 * 0+400 < m)(q:Nat.ble j 400=true):a+j < m:=Nat.lt_of_le_of_lt (Nat.add_le_add_left (Nat.le_of_ble_eq_true q) a) h
theorem qh{a x m:Nat}(h:a+20 * 0+400 < m)(g:x≤64):a+1+x < m:=Nat.lt_of_le_of_lt (Nat.add_le_add_left g (a+1)) (vE (j:=65) h rfl)
theorem sX{p n k:Nat}(h:p+(n+1)≤k):p < k:=Nat.lt_of_lt_of_le (Nat.lt_add_of_pos_right (Nat.succ_pos n)) h
theorem DH{x:Nat}(h:x < 4):0+(1+x)≤4:=by rw[Nat.zero_add,Nat.add_comm];exact h
theorem DS{x:Nat}(h:x < 4):1+x < 5:=by rw[Nat.add_comm];exact Nat.succ_lt_succ h
theorem FC{x:Nat}(h:0=0+(1+x)):False:=by rw[Nat.zero_add,Nat.add_comm]at h;exact Nat.succ_ne_zero x h.symm
theorem zH{s k:Nat}(h:s < k+1)(n:¬ s=k):s < k:=Nat.lt_of_le_of_ne (Nat.le_of_lt_succ h) n
theorem D5{s:Nat}(h:s < 5):(s:Int) < 4↔s≠4:=⟨λg e=>by subst e;exact absurd g (by decide),λn=>Int.ofNat_lt.mpr (zH h n)⟩
theorem qm{n k:Nat}(h:n≤k+1)(l:k≤n):n=k∨n=k+1:=(Nat.le_or_eq_of_le_succ h).imp_left (λg=>Nat.le_antisymm g l)
theorem F1{n k:Nat}(h:n≤k+2)(l:k≤n):n=k∨n=k+1∨n=k+2:=(Nat.le_or_eq_of_le_succ h).elim (λg=>(qm g l).imp_right .inl) (λe=>.inr (.inr e))
theorem vQ{k:Int}(h: -(2 ^ 62)≤k): -2 ^ 63≤k:=Int.le_trans (by decide) h
theorem DL{k:Int}(h:k < 2 ^ 62):k < 2 ^ 63:=Int.lt_of_lt_of_le h (by decide)
theorem yS{k:Int}{m:Nat}(h:k < (m:Int))(h0:0 < m):k.toNat < m:=(Int.toNat_lt' h0).mpr h
theorem yN{a:Nat}(h:a≠0):¬ (a:Int)=0:=λz=>h (Int.ofNat.inj z)
theorem Eg{a:Nat}(h:a=0):(a:Int)=0:=congrArg Int.ofNat h
theorem DP{a b:Nat}(h:a≠b):¬ (a:Int)=(b:Int):=λz=>h (Int.ofNat.inj z)
theorem Fv{a b:Nat}(h:a=b):(a:Int)=(b:Int):=congrArg Int.ofNat h
theorem aW{P:Nat→Prop}{k:Nat}(h0:P 0)(h:∀o,o < k→P (o+1)):∀o,o < k+1→P o:=λo=>by
 cases o with
 |zero=>exact λ_=>h0
 |succ n=>exact λq=>h n (Nat.lt_of_succ_lt_succ q)
theorem m8{P:Nat→Prop}:∀o,o < 0→P o:=λ_ h=>absurd h (Nat.not_lt_zero _)
theorem fW{P:Nat→Prop}(h0:P 0)(h1:P 1)(h2:P 2){n:Nat}(h:n < 3):P n:=aW h0 (aW (P:=λo=>P (o+1)) h1 (aW (P:=λo=>P (o+2)) h2 m8)) n h
theorem aS{P:Nat→Prop}(h0:P 0)(h1:P 1)(h2:P 2)(h3:P 3){n:Nat}(h:n < 4):P n:=aW h0 (aW (P:=λo=>P (o+1)) h1 (aW (P:=λo=>P (o+2)) h2 (aW (P:=λo=>P (o+3)) h3 m8))) n h
theorem ig{α:Type}{P:List α→Prop}(h1:∀a,P [a])(h2:∀a b,P [a,b])(h3:∀a b c,P [a,b,c]){l:List α}(h0:l≠[])(h:l.length≤3):P l:=by
 cases l with
 |nil=>exact absurd rfl h0
 |cons a l=>cases l with
  |nil=>exact h1 a
  |cons b l=>cases l with
   |nil=>exact h2 a b
   |cons c l=>cases l with
    |nil=>exact h3 a b c
    |cons _ l=>exact(y5 (k:=3) (show l.length+3 < 3 from h)).elim
inductive T where
 |none
 |bool (b:Bool)
 |int (i:Int)
 |str (s:Str)
 |list (ts:List T)
 |tup (ts:List T)
 |dict (ks:List Str) (ts:List T)
 |vec (k i a:T)
 |opq (i:Nat) (a:Addr)
 |clo (b:Bool)
structure Sh where
 o:Addr→Option Obj
 v:Addr→Option (Value×Value×Value)
 q:Nat→Addr
noncomputable def ghost(i:Nat):Str:=⟨#[0,0,0,0,0,0,0,0,0,0,0,0,0,0,0,0,0,0,0,0,0,0,0,0,0,0,0,0,0,0,0,0,0,0,0,0,0,0,0,0,i]⟩
theorem jG{i j:Nat}(h:ghost i=ghost j):i=j:=by
 unfold ghost at h
 simpa using h
noncomputable def Sh.has(S:Sh)(b:Addr):Prop:=S.o b≠Option.none∨S.v b≠Option.none
structure Sh.Le(S S':Sh):Prop where
 o:∀a x,S.o a=some x→S'.o a=some x
 v:∀a x,S.v a=some x→S'.v a=some x
 q:S.q=S'.q
theorem Sh.Le.refl(S:Sh):S.Le S:=⟨λ_ _ e=>e,λ_ _ e=>e,rfl⟩
theorem Sh.Le.trans{S S' S'':Sh}(a:S.Le S')(b:S'.Le S''):S.Le S'':=⟨λ_ _ e=>b.o _ _ (a.o _ _ e),λ_ _ e=>b.v _ _ (a.v _ _ e),a.q.trans b.q⟩
theorem Sh.Le.has{S S':Sh}(a:S.Le S'){b:Addr}(h:S.has b):S'.has b:=by
 rcases h with h|h
 ·obtain⟨x,hx⟩:=Option.ne_none_iff_exists'.mp h
  exact .inl (by rw[a.o _ _ hx];simp)
 ·obtain⟨x,hx⟩:=Option.ne_none_iff_exists'.mp h
  exact .inr (by rw[a.v _ _ hx];simp)
noncomputable abbrev lO(vs:List Value)(n:Nat):Obj:={cls:=.type "list",data:=.seq vs.toArray n}
noncomputable abbrev tO(vs:List Value)(n:Nat):Obj:={cls:=.type "tuple",data:=.seq vs.toArray n}
inductive EntOk(w:World):List DictEntry→List Str→List Value→Prop
 |nil:EntOk w [] [] []
 |cons {es:List DictEntry} {ks:List Str} {vs:List Value} (k:Str) (t:Tok) (v:Value):EntOk w es ks vs→EntOk w (⟨PyData.keyHash w.params k,.str k t,v⟩ ::es) (k ::ks) (v ::vs)
noncomputable def dX:List Str:=["kind","items","attrs","shared","loose"]
noncomputable def VD(w:World)(h:Heap)(d:Addr)(x:Value×Value×Value):Prop:=
 ∃es n vs vl,h.get? d=some (dictOf es n)∧EntOk w es dX [x.1,x.2.1,x.2.2,vs,vl]
structure Sh.In(w:World)(S:Sh)(h:Heap):Prop where
 o:∀a x,S.o a=some x→h.get? a=some x
 v:∀d x,S.v d=some x→VD w h d x
 dis:∀d x,S.v d=some x→S.o d=Option.none
noncomputable def kP(ZV:Program):Stmt:=match (ZV.main.body[123]?:Option Stmt)with
 |some (.FunctionDef _ _ body _ _ _ _ _ _ _)=>(body.find? fun(s:Stmt)=>match s with|.FunctionDef ..=>true|_=>false).getD (.Pass ⟨0,0,0,0⟩)
 |_=>.Pass ⟨0,0,0,0⟩
noncomputable def ly(ZV:Program)(fd:FuncData):Prop:=match kP ZV with
 |.FunctionDef _ a b _ _ _ sc _ _ _=>fd.params=a∧fd.body= .stmts b∧fd.scope=sc∧fd.globals=mainGlobals∧fd.builtins=builtinsNs∧fd.defaults= .none∧fd.kwdefaults= .none
 |_=>False
structure CloIs(ZV:Program)(S:Sh)(a:Addr)(b:Bool)(o o1 o2 oc:Obj)(fd:FuncData)(c1 c2 cd:Addr)(vs:Array Value)(t:Tok):Prop where
 at_:S.o a=some o
 data:o.data= .func fd
 is:ly ZV fd
 cda:fd.code= .ref cd
 at_cd:S.o cd=some oc
 cdv:oc.data= .fields vs∧vs[1]?=some (.str fd.qualname t)
 seen:fd.closure.lookup ("seen":Str)=some c1
 at_seen:S.o c1=some o1
 seenv:o1.data= .cell (some (.ref (S.q 0)))
 simple:fd.closure.lookup ("simple":Str)=some c2
 at_simple:S.o c2=some o2
 simplev:o2.data= .cell (some (.bool b))
 only:∀x c,fd.closure.lookup x=some c→x="seen"∨x="simple"
inductive CloAt(ZV:Program)(S:Sh)(a:Addr)(b:Bool):Prop
 |mk (o o1 o2 oc fd c1 c2 cd vs t):CloIs ZV S a b o o1 o2 oc fd c1 c2 cd vs t→CloAt ZV S a b
theorem CloAt.mono{ZV:Program}{S S':Sh}{a:Addr}{b:Bool}(l:S.Le S')(h:CloAt ZV S a b):CloAt ZV S' a b:=by
 cases h with
 |mk _ _ _ _ _ _ _ _ _ _ x=>exact⟨_,_,_,_,_,_,_,_,_,_,l.o _ _ x.at_,x.data,x.is,x.cda,l.o _ _ x.at_cd,x.cdv,x.seen,l.o _ _ x.at_seen,l.q ▸ x.seenv,x.simple,l.o _ _ x.at_simple,x.simplev,x.only⟩
mutual
inductive R(ZV:Program)(w:World)(C:Addr)(S:Sh):Value→T→Prop
 |none:R ZV w C S .none .none
 |bool (b:Bool):R ZV w C S (.bool b) (.bool b)
 |int (i:Int) (t:Tok):R ZV w C S (.int i t) (.int i)
 |str (x:Str) (t:Tok):R ZV w C S (.str x t) (.str x)
 |list {a:Addr} {vs:List Value} {n:Nat} {ts:List T}:S.o a=some (lO vs n)→RA ZV w C S vs ts→R ZV w C S (.ref a) (.list ts)
 |tup {a:Addr} {vs:List Value} {n:Nat} {ts:List T}:S.o a=some (tO vs n)→RA ZV w C S vs ts→R ZV w C S (.ref a) (.tup ts)
 |dict {a:Addr} {o:Obj} {kvs:List (Str×Value)} {ts:List T}:S.o a=some o→o.IsDictOf (PySem.strKind ZV w) kvs→(a == sysModules)=false→RA ZV w C S (kvs.map (·.2)) ts→R ZV w C S (.ref a) (.dict (kvs.map (·.1)) ts)
 |vec {x d:Addr} {vk vi va:Value} {tk ti ta:T}:S.o x=some (instObj C d)→S.v d=some (vk,vi,va)→R ZV w C S vk tk→R ZV w C S vi ti→R ZV w C S va ta→R ZV w C S (.ref x) (.vec tk ti ta)
 |opq {a:Addr} (i:Nat):S.q i=a→R ZV w C S (.ref a) (.opq i a)
 |clo {a:Addr} (b:Bool):CloAt ZV S a b→R ZV w C S (.ref a) (.clo b)
inductive RA(ZV:Program)(w:World)(C:Addr)(S:Sh):List Value→List T→Prop
 |nil:RA ZV w C S [] []
 |cons {v:Value} {vs:List Value} {t:T} {ts:List T}:R ZV w C S v t→RA ZV w C S vs ts→RA ZV w C S (v ::vs) (t ::ts)
end
variable{ZV:Program}{w:World}{C:Addr}
theorem R.both{S:Sh}{P:Value→T→Prop}{Q:List Value→List T→Prop}(none:P .none .none)(bool:∀b,P (.bool b) (.bool b))(int:∀i t,P (.int i t) (.int i))(str:∀x t,P (.str x t) (.str x))
  (list:∀{a vs n ts},S.o a=some (lO vs n)→RA ZV w C S vs ts→Q vs ts→P (.ref a) (.list ts)) (tup:∀{a vs n ts},S.o a=some (tO vs n)→RA ZV w C S vs ts→Q vs ts→P (.ref a) (.tup ts))
  (dict:∀{a o kvs ts},S.o a=some o→o.IsDictOf (PySem.strKind ZV w) kvs→(a == sysModules)=false→RA ZV w C S (kvs.map (·.2)) ts→Q (kvs.map (·.2)) ts→P (.ref a) (.dict (kvs.map (·.1)) ts))
  (vec:∀{x d vk vi va tk ti ta},S.o x=some (instObj C d)→S.v d=some (vk,vi,va)→R ZV w C S vk tk→R ZV w C S vi ti→R ZV w C S va ta→P vk tk→P vi ti→P va ta→P (.ref x) (.vec tk ti ta))
  (opq:∀{a}i,S.q i=a→P (.ref a) (.opq i a)) (clo:∀{a}b,CloAt ZV S a b→P (.ref a) (.clo b)) (nil:Q [] []) (cons:∀{v vs t ts},R ZV w C S v t→RA ZV w C S vs ts→P v t→Q vs ts→Q (v ::vs) (t ::ts)) :
  (∀{v t},R ZV w C S v t→P v t)∧∀{vs ts},RA ZV w C S vs ts→Q vs ts:=
 ⟨λh=>R.rec (motive_1:=λv t _=>P v t) (motive_2:=λvs ts _=>Q vs ts) none bool int str list tup dict vec opq clo nil cons h,
  λh=>RA.rec (motive_1:=λv t _=>P v t) (motive_2:=λvs ts _=>Q vs ts) none bool int str list tup dict vec opq clo nil cons h⟩
theorem RA.ind{S:Sh}{Q:List Value→List T→Prop}(nil:Q [] [])(cons:∀{v vs t ts},R ZV w C S v t→RA ZV w C S vs ts→Q vs ts→Q (v ::vs) (t ::ts)){vs:List Value}{ts:List T}(h:RA ZV w C S vs ts):Q vs ts:=
 (R.both (P:=λ_ _=>True) (Q:=Q) ⟨⟩ (λ_=>⟨⟩) (λ_ _=>⟨⟩) (λ_ _=>⟨⟩) (λ_ _ _=>⟨⟩) (λ_ _ _=>⟨⟩) (λ_ _ _ _ _=>⟨⟩) (λ_ _ _ _ _ _ _ _=>⟨⟩) (λ_ _=>⟨⟩) (λ_ _=>⟨⟩) nil λa b _ q=>cons a b q).2 h
theorem R.monos{S S':Sh}(l:S.Le S'):(∀{v t},R ZV w C S v t→R ZV w C S' v t)∧∀{vs ts},RA ZV w C S vs ts→RA ZV w C S' vs ts:=
 R.both .none .bool .int .str (λe _ q=>.list (l.o _ _ e) q) (λe _ q=>.tup (l.o _ _ e) q) (λe d n _ q=>.dict (l.o _ _ e) d n q) (λe d _ _ _ a b c=>.vec (l.o _ _ e) (l.v _ _ d) a b c) (λi e=>.opq i (by rw[←l.q];exact e)) (λb c=>.clo b (c.mono l)) .nil λ_ _ a b=>.cons a b
theorem R.mono{S S':Sh}(l:S.Le S'){v:Value}{t:T}(h:R ZV w C S v t):R ZV w C S' v t:=(R.monos l).1 h
theorem RA.mono{S S':Sh}(l:S.Le S'){vs:List Value}{ts:List T}(h:RA ZV w C S vs ts):RA ZV w C S' vs ts:=(R.monos l).2 h
section
variable{S:Sh}
theorem R.boolE{b:Bool}{motive:(v:Value)→R ZV w C S v (.bool b)→Prop}(bool:motive (.bool b) (.bool b)){v:Value}(h:R ZV w C S v (.bool b)):motive v h:=by cases h;exact bool
theorem R.intE{i:Int}{motive:(v:Value)→R ZV w C S v (.int i)→Prop}(int:∀t,motive (.int i t) (.int i t)){v:Value}(h:R ZV w C S v (.int i)):motive v h:=by cases h with|int _ t=>exact int t
theorem R.strE{x:Str}{motive:(v:Value)→R ZV w C S v (.str x)→Prop}(str:∀t,motive (.str x t) (.str x t)){v:Value}(h:R ZV w C S v (.str x)):motive v h:=by cases h with|str _ t=>exact str t
theorem R.listE{ts:List T}{motive:(v:Value)→R ZV w C S v (.list ts)→Prop}(list:∀{a:Addr}{vs:List Value}{n:Nat}(e:S.o a=some (lO vs n))(r:RA ZV w C S vs ts),motive (.ref a) (.list e r)){v:Value}(h:R ZV w C S v (.list ts)):motive v h:=by cases h with|list e r=>exact list e r
theorem R.tupE{ts:List T}{motive:(v:Value)→R ZV w C S v (.tup ts)→Prop}(tup:∀{a:Addr}{vs:List Value}{n:Nat}(e:S.o a=some (tO vs n))(r:RA ZV w C S vs ts),motive (.ref a) (.tup e r)){v:Value}(h:R ZV w C S v (.tup ts)):motive v h:=by cases h with|tup e r=>exact tup e r
theorem R.dictE{ts:List T}{motive:(ks:List Str)→(v:Value)→R ZV w C S v (.dict ks ts)→Prop}(dict:∀{a:Addr}{o:Obj}{kvs:List (Str×Value)}(e:S.o a=some o)(d:o.IsDictOf (PySem.strKind ZV w) kvs)(n:(a == sysModules)=false)(r:RA ZV w C S (kvs.map (·.2)) ts),motive (kvs.map (·.1)) (.ref a) (.dict e d n r)){ks:List Str}{v:Value}(h:R ZV w C S v (.dict ks ts)):motive ks v h:=by cases h with|dict e d n r=>exact dict e d n r
theorem R.vecE{tk ti ta:T}{motive:(v:Value)→R ZV w C S v (.vec tk ti ta)→Prop}(vec:∀{x d:Addr}{vk vi va:Value}(e:S.o x=some (instObj C d))(q:S.v d=some (vk,vi,va))(a:R ZV w C S vk tk)(b:R ZV w C S vi ti)(c:R ZV w C S va ta),motive (.ref x) (.vec e q a b c)){v:Value}(h:R ZV w C S v (.vec tk ti ta)):motive v h:=by cases h with|vec e q a b c=>exact vec e q a b c
theorem R.noneE{motive:(v:Value)→R ZV w C S v .none→Prop}(none:motive .none .none){v:Value}(h:R ZV w C S v .none):motive v h:=by cases h;exact none
theorem R.opqE{i:Nat}{a:Addr}{motive:(v:Value)→R ZV w C S v (.opq i a)→Prop}(opq:∀(j:Nat)(e:S.q i=a),motive (.ref a) (.opq i e)){v:Value}(h:R ZV w C S v (.opq i a)):motive v h:=by cases h with|opq _ e=>exact opq i e
theorem R.cloE{b:Bool}{motive:(v:Value)→R ZV w C S v (.clo b)→Prop}(clo:∀{a:Addr}(j:Bool)(e:CloAt ZV S a b),motive (.ref a) (.clo b e)){v:Value}(h:R ZV w C S v (.clo b)):motive v h:=by cases h with|clo _ e=>exact clo b e
theorem RA.consE{t:T}{ts:List T}{motive:(vs:List Value)→RA ZV w C S vs (t ::ts)→Prop}(cons:∀{v:Value}{vs:List Value}(a:R ZV w C S v t)(b:RA ZV w C S vs ts),motive (v ::vs) (.cons a b)){vs:List Value}(h:RA ZV w C S vs (t ::ts)):motive vs h:=by cases h with|cons a b=>exact cons a b
end
theorem RA.length{S:Sh}{vs:List Value}{ts:List T}(h:RA ZV w C S vs ts):vs.length=ts.length:=RA.ind (Q:=λvs ts=>vs.length=ts.length) rfl (λ_ _ ih=>congrArg Nat.succ ih) h
theorem RA.get{S:Sh}{vs:List Value}{ts:List T}(h:RA ZV w C S vs ts):∀{i:Nat}{t:T},ts[i]?=some t→∃v,vs[i]?=some v∧R ZV w C S v t:=
 RA.ind (Q:=λvs ts=>∀{i:Nat}{t:T},ts[i]?=some t→∃v,vs[i]?=some v∧R ZV w C S v t) (λe=>by cases e) (λ{v vs t ts}a _ ih{i t'}e=>by
  cases i with
  |zero=>cases e;exact⟨v,rfl,a⟩
  |succ i=>exact ih (i:=i) e) h
theorem RA.getV{S:Sh}{vs:List Value}{ts:List T}(h:RA ZV w C S vs ts):∀{i:Nat}{v:Value},vs[i]?=some v→∃t,ts[i]?=some t∧R ZV w C S v t:=
 RA.ind (Q:=λvs ts=>∀{i:Nat}{v:Value},vs[i]?=some v→∃t,ts[i]?=some t∧R ZV w C S v t) (λe=>by cases e) (λ{v vs t ts}a _ ih{i t'}e=>by
  cases i with
  |zero=>cases e;exact⟨t,rfl,a⟩
  |succ i=>exact ih (i:=i) e) h
theorem RA.append{S:Sh}{vs us:List Value}{ts rs:List T}(x:RA ZV w C S vs ts)(h:RA ZV w C S us rs):RA ZV w C S (vs ++ us) (ts ++ rs):=
 RA.ind (Q:=λvs ts=>RA ZV w C S (vs ++ us) (ts ++ rs)) h (λa _ ih=>.cons a ih) x
structure Ext(w:World)(S g S':Sh)(h':Heap):Prop where
 le:S.Le S'
 st:S'.In w h'
 kp:g.In w h'
 nw:∀b,g.has b→S'.has b→S.has b
theorem Ext.refl{S g:Sh}{h:Heap}(a:S.In w h)(b:g.In w h):Ext w S g S h:=⟨.refl S,a,b,λ_ _ x=>x⟩
theorem Ext.trans{S g S' S'':Sh}{h' h'':Heap}(a:Ext w S g S' h')(b:Ext w S' g S'' h''):Ext w S g S'' h'':=
 ⟨a.le.trans b.le,b.st,b.kp,λx hx y=>a.nw x hx (b.nw x hx y)⟩
structure VarsAt(ZU:Env)(h:Heap)(m:Str→Option Value):Prop where
 loc:∃ml,h.Ns ZU.locals ml∧∀x,ZU.kindOf x=some .local→ml x=m x
 cell:∀x c,ZU.cells.lookup x=some c→h.IsCell c (m x)
inductive V where
 |f (t:T)
 |ol (ts:List T)
 |od (ks:List Str) (ts:List T)
 |ov (k i a:T)
 |odl (ks:List Str) (tss:List (List T))
noncomputable def V.frz:V→T
 |.f t=>t
 |.ol ts=>.list ts
 |.od ks ts=>.dict ks ts
 |.ov k i a=>.vec k i a
 |.odl ks tss=>.dict ks (tss.map .list)
noncomputable abbrev Loc:=List (Str×V)
inductive OLs(ZV:Program)(w:World)(C:Addr)(S:Sh)(h:Heap):List Value→List (List T)→List Addr→Prop
 |nil:OLs ZV w C S h [] [] []
 |cons {a:Addr} {vs:List Value} {n:Nat} {ts:List T} {us:List Value} {tss:List (List T)} {fp:List Addr}:h.get? a=some (lO vs n)→RA ZV w C S vs ts→a∉fp→OLs ZV w C S h us tss fp→OLs ZV w C S h (.ref a ::us) (ts ::tss) (a ::fp)
inductive VOk(ZV:Program)(w:World)(C:Addr)(S:Sh)(h:Heap):Value→V→List Addr→Prop
 |f {v:Value} {t:T}:R ZV w C S v t→VOk ZV w C S h v (.f t) []
 |ol {a:Addr} {vs:List Value} {n:Nat} {ts:List T}:h.get? a=some (lO vs n)→RA ZV w C S vs ts→VOk ZV w C S h (.ref a) (.ol ts) [a]
 |od {a:Addr} {o:Obj} {kvs:List (Str×Value)} {ts:List T}:h.get? a=some o→o.IsDictOf (PySem.strKind ZV w) kvs→(a == sysModules)=false→RA ZV w C S (kvs.map (·.2)) ts→VOk ZV w C S h (.ref a) (.od (kvs.map (·.1)) ts) [a]
 |ov {x d:Addr} {vk vi va:Value} {tk ti ta:T}:h.get? x=some (instObj C d)→VD w h d (vk,vi,va)→x≠d→R ZV w C S vk tk→R ZV w C S vi ti→R ZV w C S va ta→VOk ZV w C S h (.ref x) (.ov tk ti ta) [x,d]
 |odl {a:Addr} {o:Obj} {kvs:List (Str×Value)} {tss:List (List T)} {fp:List Addr}:h.get? a=some o→o.IsDictOf (PySem.strKind ZV w) kvs→(a == sysModules)=false→a∉fp→OLs ZV w C S h (kvs.map (·.2)) tss fp→VOk ZV w C S h (.ref a) (.odl (kvs.map (·.1)) tss) (a ::fp)
section
variable{S:Sh}{h:Heap}
theorem VOk.fE{t:T}{motive:(v:Value)→(fp:List Addr)→VOk ZV w C S h v (.f t) fp→Prop}(f:∀{v:Value}(r:R ZV w C S v t),motive v [] (.f r)){v:Value}{fp:List Addr}(x:VOk ZV w C S h v (.f t) fp):motive v fp x:=by cases x with|f r=>exact f r
theorem VOk.olE{ts:List T}{motive:(v:Value)→(fp:List Addr)→VOk ZV w C S h v (.ol ts) fp→Prop}(ol:∀{a:Addr}{vs:List Value}{n:Nat}(e:h.get? a=some (lO vs n))(r:RA ZV w C S vs ts),motive (.ref a) [a] (.ol e r)){v:Value}{fp:List Addr}(x:VOk ZV w C S h v (.ol ts) fp):motive v fp x:=by cases x with|ol e r=>exact ol e r
end
noncomputable def Slot(m:Str→Option Value)(σ:Loc)(ρ:Option (Value×V)):Option Str→Value→V→Prop
 |some x,v,a=>σ.lookup x=some a∧m x=some v
 |Option.none,v,a=>ρ=some (v,a)
noncomputable def Own(ZV:Program)(w:World)(C:Addr)(S g:Sh)(pv:List Addr)(h:Heap)(P:Option Str→Value→V→Prop):Prop:=
 ∃fp:Option Str→List Addr,(∀i v a,P i v a→VOk ZV w C S h v a (fp i)∧∀b∈fp i,¬ S.has b∧¬ g.has b∧b∉pv)∧
  (∀i j v a v' a',i≠j→P i v a→P j v' a'→∀b∈fp i,b∉fp j)
structure Rel(ZV:Program)(w:World)(C:Addr)(hb:Heap)(ZU:Env)(pv:List Addr)(S g:Sh)(m:Str→Option Value)(σ:Loc)(ρ:Option (Value×V))(h:Heap):Prop where
 st:S.In w h
 kp:g.In w h
 base:∀a x,hb.get? a=some x→S.o a=some x
 vars:VarsAt ZU h m
 gS:∀d x,g.v d=some x→S.v d=some x
 gd:∀d x,S.v d=some x→g.o d=Option.none
 vis:∀b,(b=ZU.locals∨∃x,ZU.cells.lookup x=some b)→S.v b=Option.none
 priv:∀b∈pv,(∃o,h.get? b=some o)∧¬ S.has b∧¬ g.has b
 known:∀x a,σ.lookup x=some a→∃v,m x=some v
 slots:Own ZV w C S g pv h (Slot m σ ρ)
 gho:∀i,m (ghost i)=some (.ref (S.q i))
structure EnvOk(ZU:Env)(pv:List Addr):Prop where
 kind:ZU.scope.kind= .function
 has:∀x,ZU.kindOf x=some .cell→∃c,ZU.cells.lookup x=some c
 nloc:∀x,ZU.kindOf x=some .local→ZU.cells.lookup x=Option.none
 inj:∀x y c,ZU.cells.lookup x=some c→ZU.cells.lookup y=some c→x=y
 ne:∀x c,ZU.cells.lookup x=some c→c≠ZU.locals
 loc:ZU.locals∈pv
 glob:ZU.globals=mainGlobals
 blt:ZU.builtins=builtinsNs
 gk:∀i,ZU.kindOf (ghost i)=none
 fr:∀x,ZU.kindOf x=some .free→∃c,ZU.cells.lookup x=some c
noncomputable def upd(m:Str→Option Value)(x:Str)(v:Value):Str→Option Value:=λy=>if y=x then some v else m y
noncomputable def Loc.set(σ:Loc)(x:Str)(a:V):Loc:=match σ with
 |[]=>[(x,a)]
 |(y,b) ::r=>if y=x then(y,a) ::r else(y,b) ::Loc.set r x a
theorem ao(σ:Loc)(x y:Str)(a:V):(σ.set x a).lookup y=if y=x then some a else σ.lookup y:=by
 induction σ with
 |nil=>
  simp only[Loc.set,List.lookup_cons,List.lookup_nil]
  by_cases h:y=x
  ·subst h;simp
  ·have:(y == x)=false:=by simpa using h
   simp[this,h]
 |cons p r ih=>
  obtain⟨z,b⟩:=p
  simp only[Loc.set]
  by_cases hz:z=x
  ·subst hz
   simp only[if_true,List.lookup_cons]
   by_cases h:y=z
   ·subst h;simp
   ·have:(y == z)=false:=by simpa using h
    simp[this,h]
  ·rw[if_neg hz]
   simp only[List.lookup_cons]
   by_cases h:y=z
   ·subst h;simp[hz]
   ·have:(y == z)=false:=by simpa using h
    simp only[this]
    exact ih
noncomputable def bH(S:Sh)(h:Heap):Sh:={o:=λb=>if S.v b=Option.none then h.get? b else Option.none,v:=S.v,q:=S.q}
theorem aJ{S:Sh}{h:Heap}(a:S.In w h):(bH S h).In w h:=by
 refine⟨λb x e=>?_,a.v,λd x e=>?_⟩
 ·simp only[bH]at e;split at e<;>first|exact e|cases e
 ·simp only[bH]at e ⊢;rw[if_neg (by rw[e];simp)]
theorem bM{S:Sh}{h:Heap}{b:Addr}{x:Obj}(e:h.get? b=some x):(bH S h).has b:=by
 unfold Sh.has bH
 by_cases q:S.v b=Option.none
 ·left;simp only[if_pos q,e];simp
 ·right;exact q
theorem In.get{S:Sh}{h:Heap}(a:S.In w h){b:Addr}(e:S.has b):∃x,h.get? b=some x:=by
 rcases e with e|e
 ·obtain⟨x,hx⟩:=Option.ne_none_iff_exists'.mp e;exact⟨x,a.o _ _ hx⟩
 ·obtain⟨x,hx⟩:=Option.ne_none_iff_exists'.mp e
  obtain⟨es,n,vs,vl,q,_⟩:=a.v _ _ hx;exact⟨_,q⟩
theorem VarsAt.keeps{ZU:Env}{h h':Heap}{m:Str→Option Value}(a:VarsAt ZU h m)(k:∀b,(b=ZU.locals∨∃x,ZU.cells.lookup x=some b)→∀o,h.get? b=some o→h'.get? b=some o):VarsAt ZU h' m:=by
 obtain⟨⟨ml,⟨o,es,ep,ho,r⟩,hm⟩,c⟩:=a
 refine⟨⟨ml,⟨o,es,ep,k _ (.inl rfl) _ ho,r⟩,hm⟩,λx=>?_⟩
 intro d hc
 obtain⟨o,ho,hd⟩:=c x d hc
 exact⟨o,k _ (.inr ⟨x,hc⟩) _ ho,hd⟩
theorem VD.keeps{h h':Heap}{d:Addr}{x:Value×Value×Value}(a:VD w h d x)(k:∀o,h.get? d=some o→h'.get? d=some o):VD w h' d x:=by
 obtain⟨es,n,vs,vl,e,q⟩:=a
 exact⟨es,n,vs,vl,k _ e,q⟩
theorem OLs.keeps{S S':Sh}{h h':Heap}{vs:List Value}{tss:List (List T)}{fp:List Addr}(x:OLs ZV w C S h vs tss fp)(l:S.Le S')(k:∀b∈fp,∀o,h.get? b=some o→h'.get? b=some o):OLs ZV w C S' h' vs tss fp:=by
 induction x with
 |nil=>exact .nil
 |cons e r n _ ih=>exact .cons (k _ (.head _) _ e) (r.mono l) n (ih λb hb=>k b (.tail _ hb))
theorem OLs.get{S:Sh}{h:Heap}{vs:List Value}{tss:List (List T)}{fp:List Addr}(x:OLs ZV w C S h vs tss fp):∀b∈fp,∃us n,h.get? b=some (lO us n):=by
 induction x with
 |nil=>intro b hb;cases hb
 |cons e r n _ ih=>
  intro b hb
  rcases List.mem_cons.mp hb with rfl|hb
  ·exact⟨_,_,e⟩
  ·exact ih b hb
theorem VOk.keeps{S S':Sh}{h h':Heap}{v:Value}{a:V}{fp:List Addr}(x:VOk ZV w C S h v a fp)(l:S.Le S')(k:∀b∈fp,∀o,h.get? b=some o→h'.get? b=some o):VOk ZV w C S' h' v a fp:=by
 cases x with
 |f r=>exact .f (r.mono l)
 |ol e r=>exact .ol (k _ (.head _) _ e) (r.mono l)
 |od e q n r=>exact .od (k _ (.head _) _ e) q n (r.mono l)
 |ov e d ne a b c=>exact .ov (k _ (.head _) _ e) (d.keeps λo ho=>k _ (.tail _ (.head _)) o ho) ne (a.mono l) (b.mono l) (c.mono l)
 |odl e q n na r=>exact .odl (k _ (.head _) _ e) q n na (r.keeps l λb hb=>k b (.tail _ hb))
theorem VOk.get{S:Sh}{h:Heap}{v:Value}{a:V}{fp:List Addr}(x:VOk ZV w C S h v a fp):∀b∈fp,∃o,h.get? b=some o:=by
 cases x with
 |f r=>intro b hb;cases hb
 |ol e r=>intro b hb;rcases List.mem_singleton.mp hb with rfl;exact⟨_,e⟩
 |od e q n r=>intro b hb;rcases List.mem_singleton.mp hb with rfl;exact⟨_,e⟩
 |ov e d ne a b c=>
  intro b hb
  rcases List.mem_cons.mp hb with rfl|hb
  ·exact⟨_,e⟩
  ·rcases List.mem_singleton.mp hb with rfl
   obtain⟨es,n,vs,vl,e,q⟩:=d;exact⟨_,e⟩
 |odl e q n na r=>
  intro b hb
  rcases List.mem_cons.mp hb with rfl|hb
  ·exact⟨_,e⟩
  ·obtain⟨us,n,e⟩:=r.get b hb;exact⟨_,e⟩
variable{hb:Heap}{ZU:Env}{pv:List Addr}{S g:Sh}{m:Str→Option Value}{σ:Loc}{ρ:Option (Value×V)}{h:Heap}
theorem Sh.has_o{S:Sh}{b:Addr}{x:Obj}(e:S.o b=some x):S.has b:=.inl (by rw[e];simp)
theorem Sh.has_v{S:Sh}{b:Addr}{x:Value×Value×Value}(e:S.v b=some x):S.has b:=.inr (by rw[e];simp)
theorem Sh.not_v{S:Sh}{b:Addr}(e:¬ S.has b):S.v b=Option.none:=by
 cases z:S.v b with
 |none=>rfl
 |some y=>exact absurd (Sh.has_v z) e
theorem Sh.not_o{S:Sh}{b:Addr}(e:¬ S.has b):S.o b=Option.none:=by
 cases z:S.o b with
 |none=>rfl
 |some y=>exact absurd (Sh.has_o z) e
theorem Rel.step{S':Sh}{h':Heap}(r:Rel ZV w C hb ZU pv S g m σ ρ h)(e:Ext w S (bH S h) S' h'):
  Rel ZV w C hb ZU pv S' g m σ ρ h'∧Ext w S g S' h':=by
 have keep:∀b o,S.v b=Option.none→h.get? b=some o→h'.get? b=some o:=λb o q ho=>e.kp.o b o (by simp only[bH,if_pos q];exact ho)
 have gin:g.In w h':=⟨λa x q=>keep a x (by
   cases z:S.v a with
   |none=>rfl
   |some y=>have:=r.gd _ _ z;rw[q]at this;cases this) (r.kp.o _ _ q),λd x q=>e.st.v _ _ (e.le.v _ _ (r.gS _ _ q)),r.kp.dis⟩
 have nw:∀b,g.has b→S'.has b→S.has b:=λb hg hs=>by
  obtain⟨x,hx⟩:=In.get r.kp hg
  exact e.nw b (bM hx) hs
 have off:∀b,(∃o,h.get? b=some o)→¬ S.has b→¬ S'.has b:=λb ⟨o,ho⟩ q hs=>q (e.nw b (bM ho) hs)
 have newv:∀b x,(∃o,h.get? b=some o)→S.v b=Option.none→S'.v b=some x→False:=λb x ⟨o,ho⟩ hv q=>by
  have hs:=e.nw b (bM ho) (Sh.has_v q)
  have e1:=e.st.dis _ _ q
  rcases hs with hs|hs
  ·obtain⟨x',hx'⟩:=Option.ne_none_iff_exists'.mp hs
   rw[e.le.o _ _ hx']at e1;cases e1
  ·exact hs hv
 have visO:∀b,(b=ZU.locals∨∃x,ZU.cells.lookup x=some b)→ZU.locals=b∨(∃x,ZU.cells.lookup x=some b):=λb hb=>hb.imp Eq.symm id
 refine⟨⟨e.st,gin,λa x q=>e.le.o _ _ (r.base a x q),r.vars.keeps λb q o ho=>keep b o (r.vis b q) ho,λd x q=>e.le.v _ _ (r.gS d x q),λd x q=>?_,λb q=>?_,λb q=>?_,r.known,?_,λi=>by rw[r.gho i,e.le.q]⟩,⟨e.le,e.st,gin,nw⟩⟩
 ·cases z:g.o d with
  |none=>rfl
  |some o=>
   exfalso
   refine newv d x ⟨o,r.kp.o _ _ z⟩ ?_ q
   cases z':S.v d with
   |none=>rfl
   |some y=>have:=r.gd _ _ z';rw[z]at this;cases this
 ·cases z:S'.v b with
  |none=>rfl
  |some x=>
   exfalso
   by_cases hex:∃o,h.get? b=some o
   ·exact newv b x hex (r.vis b q) z
   ·rcases q with rfl|⟨y,hy⟩
    ·obtain⟨⟨ml,⟨o,es,ep,ho,_⟩,_⟩,_⟩:=r.vars;exact hex ⟨o,ho⟩
    ·obtain⟨o,ho,_⟩:=r.vars.cell y b hy;exact hex ⟨o,ho⟩
 ·obtain⟨c1,c2,c3⟩:=r.priv b q
  obtain⟨o,ho⟩:=c1
  exact⟨⟨o,keep b o (Sh.not_v c2) ho⟩,off b ⟨o,ho⟩ c2,c3⟩
 ·obtain⟨fp,a1,a3⟩:=r.slots
  refine⟨fp,λi v a hi=>?_,a3⟩
  obtain⟨ok,c⟩:=a1 i v a hi
  exact⟨ok.keeps e.le λb hb' o ho=>keep b o (Sh.not_v (c b hb').1) ho,λb hb'=>⟨off b (ok.get b hb') (c b hb').1,(c b hb').2⟩⟩
theorem Own.map{P P':Option Str→Value→V→Prop}(f:Option Str→Option Str)(o:Own ZV w C S g pv h P)(hf:∀i j v a v' a',P' i v a→P' j v' a'→i≠j→f i≠f j)(hp:∀i v a,P' i v a→P (f i) v a):Own ZV w C S g pv h P':=by
 obtain⟨fp,a1,a2⟩:=o
 exact⟨λi=>fp (f i),λi v a x=>a1 _ _ _ (hp i v a x),λi j v a v' a' n x y=>a2 _ _ _ _ _ _ (hf i j v a v' a' x y n) (hp _ _ _ x) (hp _ _ _ y)⟩
theorem Own.imp{P P':Option Str→Value→V→Prop}(o:Own ZV w C S g pv h P)(hp:∀i v a,P' i v a→P i v a):Own ZV w C S g pv h P':=o.map id (λ_ _ _ _ _ _ _ _ n=>n) hp
theorem Own.keeps{P:Option Str→Value→V→Prop}{S':Sh}{h':Heap}(o:Own ZV w C S g pv h P)(l:S.Le S')(n:∀b,(∃x,h.get? b=some x)→¬ S.has b→¬ g.has b→b∉pv→¬ S'.has b)
  (k:∀b x,¬ S.has b→¬ g.has b→b∉pv→h.get? b=some x→h'.get? b=some x):Own ZV w C S' g pv h' P:=by
 obtain⟨fp,a1,a2⟩:=o
 refine⟨fp,λi v a x=>?_,a2⟩
 obtain⟨ok,c⟩:=a1 _ _ _ x
 exact⟨ok.keeps l λb hb o ho=>k b o (c b hb).1 (c b hb).2.1 (c b hb).2.2 ho,λb hb=>⟨n b (ok.get b hb) (c b hb).1 (c b hb).2.1 (c b hb).2.2,(c b hb).2⟩⟩
theorem Own.add{P P':Option Str→Value→V→Prop}{h₀:Heap}{k:Option Str}{v₀:Value}{a₀:V}{fp₀:List Addr}(o:Own ZV w C S g pv h₀ P)(kp:∀b x,h₀.get? b=some x→h.get? b=some x)
  (ok:VOk ZV w C S h v₀ a₀ fp₀) (nw:∀b∈fp₀,h₀.get? b=Option.none) (sin:S.In w h₀) (gin:g.In w h₀) (pin:∀b∈pv,∃x,h₀.get? b=some x)
  (hp:∀i v a,P' i v a→(i=k∧v=v₀∧a=a₀)∨(i≠k∧P i v a)):Own ZV w C S g pv h P':=by
 obtain⟨fp,a1,a2⟩:=o
 have off:∀b∈fp₀,¬ S.has b∧¬ g.has b∧b∉pv:=λb hb=>by
  have e:=nw b hb
  refine⟨λq=>?_,λq=>?_,λq=>?_⟩
  ·obtain⟨x,hx⟩:=In.get sin q;rw[e]at hx;cases hx
  ·obtain⟨x,hx⟩:=In.get gin q;rw[e]at hx;cases hx
  ·obtain⟨x,hx⟩:=pin b q;rw[e]at hx;cases hx
 have apart:∀i v a,P i v a→∀b∈fp i,b∉fp₀:=λi v a x b hb q=>by
  obtain⟨o,ho⟩:=(a1 i v a x).1.get b hb
  rw[nw b q]at ho;cases ho
 refine⟨λi=>if i=k then fp₀ else fp i,λi v a x=>?_,λi j v a v' a' n x y b hb=>?_⟩
 ·rcases hp i v a x with⟨rfl,rfl,rfl⟩|⟨n,q⟩
  ·simp only[if_true];exact⟨ok,off⟩
  ·simp only[if_neg n]
   exact⟨(a1 _ _ _ q).1.keeps (.refl S) λb _ o ho=>kp b o ho,(a1 _ _ _ q).2⟩
 ·rcases hp i v a x with⟨rfl,rfl,rfl⟩|⟨n1,q1⟩<;>rcases hp j v' a' y with⟨rfl,rfl,rfl⟩|⟨n2,q2⟩
  ·exact absurd rfl n
  ·simp only[if_true]at hb
   simp only[if_neg n2]
   exact λq=>apart j v' a' q2 b q hb
  ·simp only[if_true]
   simp only[if_neg n1]at hb
   exact apart i v a q1 b hb
  ·simp only[if_neg n1]at hb
   simp only[if_neg n2]
   exact a2 i j v a v' a' n q1 q2 b hb
noncomputable def Sh.put(S:Sh)(a:Addr)(x:Obj):Sh:={S with o:=λb=>if b=a then some x else S.o b}
noncomputable def Sh.putv(S:Sh)(a:Addr)(x:Value×Value×Value):Sh:={S with v:=λb=>if b=a then some x else S.v b}
theorem put_has{S:Sh}{a b:Addr}{x:Obj}(e:(S.put a x).has b):b=a∨S.has b:=by
 by_cases q:b=a
 ·exact .inl q
 ·unfold Sh.has Sh.put at e;simp only[if_neg q]at e;exact .inr e
theorem putv_has{S:Sh}{a b:Addr}{x:Value×Value×Value}(e:(S.putv a x).has b):b=a∨S.has b:=by
 by_cases q:b=a
 ·exact .inl q
 ·unfold Sh.has Sh.putv at e;simp only[if_neg q]at e;exact .inr e
theorem aX{S:Sh}{a:Addr}{x:Obj}(n:¬ S.has a):S.Le (S.put a x):=
 ⟨λb y e=>by
  show(if b=a then some x else S.o b)=some y
  rw[if_neg (fun(q:b=a)=>n (by rw[←q];exact Sh.has_o e))];exact e,λ_ _ e=>e,rfl⟩
theorem wW{S:Sh}{a:Addr}{x:Value×Value×Value}(n:¬ S.has a):S.Le (S.putv a x):=
 ⟨λ_ _ e=>e,λb y e=>by
  show(if b=a then some x else S.v b)=some y
  rw[if_neg (fun(q:b=a)=>n (by rw[←q];exact Sh.has_v e))];exact e,rfl⟩
theorem dO{S:Sh}{a:Addr}{x:Obj}(i:S.In w h)(n:¬ S.has a)(e:h.get? a=some x):(S.put a x).In w h:=by
 refine⟨λb y q=>?_,i.v,λd y q=>?_⟩
 ·simp only[Sh.put]at q
  split at q
  ·rename_i z;subst z;cases q;exact e
  ·exact i.o b y q
 ·show(if d=a then some x else S.o d)=Option.none
  rw[if_neg (fun(z:d=a)=>n (by rw[←z];exact Sh.has_v q))];exact i.dis d y q
theorem xD{S:Sh}{a:Addr}{x:Value×Value×Value}(i:S.In w h)(n:¬ S.has a)(e:VD w h a x):(S.putv a x).In w h:=by
 refine⟨i.o,λb y q=>?_,λd y q=>?_⟩
 ·simp only[Sh.putv]at q
  split at q
  ·rename_i z;subst z;cases q;exact e
  ·exact i.v b y q
 ·simp only[Sh.putv]at q ⊢
  split at q
  ·rename_i z;subst z;exact Sh.not_o n
  ·exact i.dis d y q
theorem OLs.still{vs:List Value}{tss:List (List T)}{fp:List Addr}(x:OLs ZV w C S h vs tss fp):S.In w h→(∀b∈fp,¬ S.has b)→
  ∃S':Sh,S.Le S'∧S'.In w h∧RA ZV w C S' vs (tss.map .list)∧(∀b,S'.has b→S.has b∨b∈fp)∧S'.v=S.v:=by
 induction x with
 |nil=>exact λi _=>⟨S,.refl S,i,.nil,λb e=>.inl e,rfl⟩
 |@cons a us n' ts vs tss fp e r na _ ih=>
  intro i n
  obtain⟨S₁,l,i1,r1,h1,v1⟩:=ih i λb hb=>n b (.tail _ hb)
  have nA:¬ S₁.has a:=λz=>(h1 a z).elim (n a (.head _)) na
  refine⟨S₁.put a _,l.trans (aX nA),dO i1 nA e,.cons (.list (n:=n') (by simp[Sh.put]) (r.mono (l.trans (aX nA)))) (r1.mono (aX nA)),λb z=>?_,v1⟩
  rcases put_has z with rfl|z
  ·exact .inr (.head _)
  ·exact(h1 b z).imp id (.tail _)
theorem mX{v:Value}{a:V}{fp:List Addr}(i:S.In w h)(ok:VOk ZV w C S h v a fp)(n:∀b∈fp,¬ S.has b):
  ∃S':Sh,S.Le S'∧S'.In w h∧R ZV w C S' v a.frz∧(∀b,S'.has b→S.has b∨b∈fp)∧(∀b x,S'.v b=some x→S.v b=some x∨(b∈fp∧∃es k,h.get? b=some (dictOf es k))):=by
 cases ok with
 |f r=>exact⟨S,.refl S,i,r,λb e=>.inl e,λb x e=>.inl e⟩
 |@ol a vs n' ts e r=>
  have na:=n a (.head _)
  exact⟨S.put a _,aX na,dO i na e,.list (n:=n') (by simp[Sh.put]) (r.mono (aX na)),λb q=>(put_has q).elim (λz=>.inr (by rw[z];exact .head _)) .inl,λb x q=>.inl q⟩
 |@od a o kvs ts e q d r=>
  have na:=n a (.head _)
  exact⟨S.put a _,aX na,dO i na e,.dict (o:=o) (by simp[Sh.put]) q d (r.mono (aX na)),λb q=>(put_has q).elim (λz=>.inr (by rw[z];exact .head _)) .inl,λb x q=>.inl q⟩
 |@ov x d vk vi va tk ti ta e q ne r1 r2 r3=>
  have nx:=n x (.head _)
  have nd:=n d (.tail _ (.head _))
  have nd':¬ (S.put x (instObj C d)).has d:=λz=>(put_has z).elim (λz=>ne z.symm) nd
  have l:=(aX (x:=instObj C d) nx).trans (wW (x:=(vk,vi,va)) nd')
  refine⟨(S.put x (instObj C d)).putv d (vk,vi,va),l,xD (dO i nx e) nd' q,.vec (d:=d) (by simp[Sh.put,Sh.putv]) (by simp[Sh.putv]) (r1.mono l) (r2.mono l) (r3.mono l),λb z=>?_,λb y z=>?_⟩
  ·rcases putv_has z with rfl|z
   ·exact .inr (.tail _ (.head _))
   ·rcases put_has z with rfl|z
    ·exact .inr (.head _)
    ·exact .inl z
  ·simp only[Sh.putv,Sh.put]at z
   split at z
   ·rename_i w';subst w'
    obtain⟨es,k,_,_,he,_⟩:=q
    exact .inr ⟨.tail _ (.head _),es,k,he⟩
   ·exact .inl z
 |@odl a o kvs tss fp e q d na r=>
  obtain⟨S₁,l,i1,r1,h1,v1⟩:=r.still i λb hb=>n b (.tail _ hb)
  have nA:¬ S₁.has a:=λz=>(h1 a z).elim (n a (.head _)) na
  refine⟨S₁.put a _,l.trans (aX nA),dO i1 nA e,.dict (o:=o) (by simp[Sh.put]) q d (r1.mono (aX nA)),λb z=>?_,λb x z=>.inl (by rw[←v1];exact z)⟩
  rcases put_has z with rfl|z
  ·exact .inr (.head _)
  ·exact(h1 b z).imp id (.tail _)
theorem Rel.freeze{σ':Loc}{ρ':Option (Value×V)}{i:Option Str}{v:Value}{a:V}(r:Rel ZV w C hb ZU pv S g m σ ρ h)(hL:ZU.locals∈pv)(hi:Slot m σ ρ i v a)
  (kn:∀x a,σ'.lookup x=some a→∃v,m x=some v) (hp:∀j v' a',Slot m σ' ρ' j v' a'→(j=i∧v'=v∧a'= .f a.frz)∨(j≠i∧Slot m σ ρ j v' a')) :
  ∃S',Ext w S g S' h∧R ZV w C S' v a.frz∧Rel ZV w C hb ZU pv S' g m σ' ρ' h:=by
 obtain⟨fp,a1,a2⟩:=r.slots
 obtain⟨ok,c⟩:=a1 i v a hi
 obtain⟨S',l,sin,rr,hs,hv⟩:=mX r.st ok λb hb=>(c b hb).1
 have nw:∀b,g.has b→S'.has b→S.has b:=λb hg q=>(hs b q).elim id λz=>absurd hg (c b z).2.1
 refine⟨S',⟨l,sin,r.kp,nw⟩,rr,⟨sin,r.kp,λa x e=>l.o _ _ (r.base a x e),r.vars,λd x e=>l.v _ _ (r.gS d x e),λd x e=>?_,λb e=>?_,λb e=>?_,kn,?_,λi=>by rw[r.gho i,l.q]⟩⟩
 ·rcases hv d x e with e|⟨e,_⟩
  ·exact r.gd d x e
  ·exact Sh.not_o (c d e).2.1
 ·cases z:S'.v b with
  |none=>rfl
  |some x=>
   exfalso
   rcases hv b x z with q|⟨q,es,k,hd⟩
   ·rw[r.vis b e]at q;cases q
   ·rcases e with rfl|⟨y,hy⟩
    ·exact(c _ q).2.2 hL
    ·obtain⟨o,ho,hc⟩:=r.vars.cell y b hy
     rw[hd]at ho;cases ho;cases hc
 ·obtain⟨c1,c2,c3⟩:=r.priv b e
  exact⟨c1,λq=>(hs b q).elim c2 λz=>(c b z).2.2 e,c3⟩
 ·refine⟨λj=>if j=i then[]else fp j,λj v' a' x=>?_,λj k v1 a1' v2 a2' n x y b hb=>?_⟩
  ·rcases hp j v' a' x with⟨rfl,rfl,rfl⟩|⟨n,q⟩
   ·simp only[if_true]
    exact⟨.f rr,λb hb=>nomatch hb⟩
   ·simp only[if_neg n]
    obtain⟨ok',c'⟩:=a1 j v' a' q
    refine⟨ok'.keeps l λb _ o ho=>ho,λb hb=>⟨λz=>(hs b z).elim (c' b hb).1 λz=>a2 j i v' a' v a n q hi b hb z,(c' b hb).2⟩⟩
  ·rcases hp j v1 a1' x with⟨rfl,rfl,rfl⟩|⟨n1,q1⟩
   ·simp only[if_true]at hb;cases hb
   ·simp only[if_neg n1]at hb
    rcases hp k v2 a2' y with⟨rfl,rfl,rfl⟩|⟨n2,q2⟩
    ·simp only[if_true];exact λz=>nomatch z
    ·simp only[if_neg n2];exact a2 j k _ _ _ _ n q1 q2 b hb
end
section
variable{ZV:Program}{w:World}{C:Addr}{hb:Heap}{ZU:Env}{pv:List Addr}{S g:Sh}{m:Str→Option Value}{σ σ' ZZ ZY:Loc}{ρ:Option (Value×V)}{h:Heap}{n:Nat}
structure Rm(n:Nat)(A:Around):Prop where
 hh:A.handled=none
 dp:A.depth+3 * n+8 < recursionLimit
 un:A.units+20 * n+400 < cLine
theorem Rm.le{n k:Nat}{A:Around}(r:Rm n A)(h:k≤n):Rm k A:=⟨r.hh,Nat.lt_of_le_of_lt (Nat.add_le_add_right (Nat.add_le_add_left (Nat.mul_le_mul_left 3 h) _) 8) r.dp,Nat.lt_of_le_of_lt (Nat.add_le_add_right (Nat.add_le_add_left (Nat.mul_le_mul_left 20 h) _) 400) r.un⟩
noncomputable def EvV(ZV:Program)(w:World)(C:Addr)(hb:Heap)(n:Nat)(ZU:Env)(pv:List Addr)(e:Expr)(σ σ':Loc)(a:V):Prop:=
 ∀(A:Around)(E:Value→Shared→Prop)(S g:Sh)(m:Str→Option Value)(s:Shared)(Q:Value→Shared→Prop),Rm n A→EnvOk ZU pv→Rel ZV w C hb ZU pv S g m σ none s.heap→
  (∀S' h' tk v,Ext w S g S' h'→Rel ZV w C hb ZU pv S' g m σ' (some (v,a)) h'→Q v {s with heap:=h',toks:=tk})→wpAny (model ZV w) A (eval e ZU) Q E s
noncomputable def EvT(ZV:Program)(w:World)(C:Addr)(hb:Heap)(n:Nat)(ZU:Env)(pv:List Addr)(e:Expr)(σ σ':Loc)(t:T):Prop:=
 ∀(A:Around)(E:Value→Shared→Prop)(S g:Sh)(m:Str→Option Value)(s:Shared)(Q:Value→Shared→Prop),Rm n A→EnvOk ZU pv→Rel ZV w C hb ZU pv S g m σ none s.heap→
  (∀S' h' tk v,Ext w S g S' h'→Rel ZV w C hb ZU pv S' g m σ' none h'→R ZV w C S' v t→Q v {s with heap:=h',toks:=tk})→wpAny (model ZV w) A (eval e ZU) Q E s
noncomputable def EvB(ZV:Program)(w:World)(C:Addr)(hb:Heap)(n:Nat)(ZU:Env)(pv:List Addr)(e:Expr)(σ σ':Loc)(b:Bool):Prop:=
 ∀(A:Around)(E:Value→Shared→Prop)(S g:Sh)(m:Str→Option Value)(s:Shared)(Q:Bool→Shared→Prop),Rm n A→EnvOk ZU pv→Rel ZV w C hb ZU pv S g m σ none s.heap→
  (∀S' h' tk,Ext w S g S' h'→Rel ZV w C hb ZU pv S' g m σ' none h'→Q b {s with heap:=h',toks:=tk})→wpAny (model ZV w) A (isTrue e ZU (eval e ZU)) Q E s
theorem slot_none{v:Value}{a:V}{i:Option Str}{v':Value}{a':V}(x:Slot m σ (some (v,a)) i v' a'):(i=none∧v'=v∧a'=a)∨(i≠none∧Slot m σ none i v' a'):=by
 cases i with
 |none=>simp only[Slot]at x;cases x;exact .inl ⟨rfl,rfl,rfl⟩
 |some y=>exact .inr ⟨by simp,x⟩
theorem Rel.drop(r:Rel ZV w C hb ZU pv S g m σ ρ h):Rel ZV w C hb ZU pv S g m σ none h:=
 {r with slots:=r.slots.imp (λi v a x=>by
   cases i with
   |none=>simp only[Slot]at x;cases x
   |some y=>exact x)}
theorem Rel.res{v:Value}{t:T}(r:Rel ZV w C hb ZU pv S g m σ none h)(x:R ZV w C S v t):Rel ZV w C hb ZU pv S g m σ (some (v,.f t)) h:=by
 obtain⟨fp,a1,a2⟩:=r.slots
 refine {r with slots:=⟨λi=>if i=none then[]else fp i,λi v a y=>?_,λi j v a v' a' n y z b hb=>?_⟩}
 ·rcases slot_none y with⟨rfl,rfl,rfl⟩|⟨n,q⟩
  ·exact⟨.f x,λb hb=>nomatch hb⟩
  ·simp only[if_neg n];exact a1 i v a q
 ·rcases slot_none y with⟨rfl,rfl,rfl⟩|⟨n1,q1⟩
  ·cases hb
  ·rcases slot_none z with⟨rfl,rfl,rfl⟩|⟨n2,q2⟩
   ·exact λq=>nomatch q
   ·simp only[if_neg n1]at hb;simp only[if_neg n2];exact a2 i j v a v' a' n q1 q2 b hb
theorem Rel.froz{v:Value}{a:V}(r:Rel ZV w C hb ZU pv S g m σ (some (v,a)) h)(hL:ZU.locals∈pv):∃S',Ext w S g S' h∧Rel ZV w C hb ZU pv S' g m σ none h∧R ZV w C S' v a.frz:=by
 obtain⟨S',e,x,q⟩:=r.freeze (σ':=σ) (ρ':=some (v,.f a.frz)) (i:=none) hL rfl r.known λj v' a' y=>by
  rcases slot_none y with⟨rfl,rfl,rfl⟩|⟨n,y⟩
  ·exact .inl ⟨rfl,rfl,rfl⟩
  ·refine .inr ⟨n,?_⟩
   cases j with
   |none=>exact absurd rfl n
   |some z=>exact y
 exact⟨S',e,q.drop,x⟩
theorem EvV.t{e:Expr}{a:V}(x:EvV ZV w C hb n ZU pv e σ σ' a):EvT ZV w C hb n ZU pv e σ σ' a.frz:=λA E S g m s Q rm ok r k=>
 x A E S g m s Q rm ok r λS' h' tk v e r'=>by
  obtain⟨S'',e',r'',q⟩:=r'.froz ok.loc
  exact k S'' h' tk v (e.trans e') r'' q
theorem EvT.v{e:Expr}{t:T}(x:EvT ZV w C hb n ZU pv e σ σ' t):EvV ZV w C hb n ZU pv e σ σ' (.f t):=λA E S g m s Q rm ok r k=>
 x A E S g m s Q rm ok r λS' h' tk v e r' q=>k S' h' tk v e (r'.res q)
theorem Ext.tok(r:Rel ZV w C hb ZU pv S g m σ ρ h):Ext w S g S h:=.refl r.st r.kp
theorem CI{i:Int}{k:Nat}{pos:Pos}:EvT ZV w C hb n ZU pv (.Constant (.int i) k pos) σ σ (.int i):=λ_ _ _ _ _ _ _ _ _ r k=>wpAny_Constant_int (k _ _ _ _ (Ext.tok r) r (.int _ _))
theorem oN{x:Str}{k:Nat}{pos:Pos}:EvT ZV w C hb n ZU pv (.Constant (.str x) k pos) σ σ (.str x):=λ_ _ _ _ _ _ _ _ _ r k=>Constant_str (k _ _ _ _ (Ext.tok r) r (.str _ _))
theorem wn{k:Nat}{pos:Pos}:EvT ZV w C hb n ZU pv (.Constant .none k pos) σ σ .none:=λ_ _ _ _ _ s _ _ _ r k=>wpAny_Constant_none (k _ _ s.toks _ (Ext.tok r) r .none)
theorem xt{b:Bool}{k:Nat}{pos:Pos}:EvT ZV w C hb n ZU pv (.Constant (.bool b) k pos) σ σ (.bool b):=λ_ _ _ _ _ s _ _ _ r k=>wpAny_Constant_bool (k _ _ s.toks _ (Ext.tok r) r (.bool b))
theorem au{A:Around}{E:Value→Shared→Prop}{s:Shared}{x:Str}{v:Value}{Q:Value→Shared→Prop}(ok:EnvOk ZU pv)(va:VarsAt ZU s.heap m)(hm:m x=some v)
  (hk:ZU.kindOf x=some .local∨ZU.kindOf x=some .cell∨(ZU.kindOf x=some .free∧(x == ("__classdict__":Str))=false)) (q:Q v s):wpAny (model ZV w) A (loadName ZU x) Q E s:=by
 rcases hk with hk|hk|⟨hk,hn⟩
 ·obtain⟨ml,hn,hl⟩:=va.loc
  exact wpAny_loadName_local ok.kind hk hn ((hl x hk).trans hm) q
 ·obtain⟨c,hc⟩:=ok.has x hk
  exact wpAny_loadName_cell ok.kind hk hc (hm ▸ va.cell x c hc) q
 ·obtain⟨c,hc⟩:=ok.fr x hk
  exact wpAny_loadName_free ok.kind hk hc (hm ▸ va.cell x c hc) q hn
noncomputable def bg(ZU:Env)(x:Str):Prop:=(ZU.kindOf x=some .local∨ZU.kindOf x=some .cell∨(ZU.kindOf x=some .free∧(x == ("__classdict__":Str))=false))∧(x == ("__debug__":Str))=false
theorem x8{x:Str}{t:T}{pos:Pos}(hx:σ.lookup x=some (.f t))(hv:bg ZU x):EvT ZV w C hb n ZU pv (.Name x pos) σ σ t:=λA E S g m s Q rm ok r k=>by
 obtain⟨v,hm⟩:=r.known x _ hx
 obtain⟨fp,a1,a2⟩:=r.slots
 have:=(a1 (some x) v _ ⟨hx,hm⟩).1
 generalize fp (some x)=l at this
 cases this using VOk.fE with
 |f q=>exact wpAny_Name (au ok r.vars hm hv.1 (k _ _ s.toks _ (Ext.tok r) r q)) hv.2
theorem set_slot{x:Str}{a:V}{v:Value}{a₀:V}(hx:σ.lookup x=some a₀)(hm:m x=some v){j:Option Str}{v':Value}{a':V}(y:Slot m (σ.set x a) ρ j v' a'):(j=some x∧v'=v∧a'=a)∨(j≠some x∧Slot m σ ρ j v' a'):=by
 cases j with
 |none=>exact .inr ⟨by simp,y⟩
 |some z=>
  simp only[Slot,ao]at y
  by_cases hz:z=x
  ·subst hz
   simp only[if_true]at y
   obtain⟨y1,y2⟩:=y
   rw[hm]at y2
   cases y1;cases y2
   exact .inl ⟨rfl,rfl,rfl⟩
  ·simp only[if_neg hz]at y
   exact .inr ⟨by simpa using hz,y⟩
theorem cD{x:Str}{a:V}(kn:∀x a,σ.lookup x=some a→∃v,m x=some v)(hm:∃v,m x=some v):∀y a',(σ.set x a).lookup y=some a'→∃v,m y=some v:=λy a' e=>by
 rw[ao]at e
 split at e
 ·rename_i q;subst q;exact hm
 ·exact kn y a' e
theorem sU{x:Str}{a:V}{pos:Pos}(hx:σ.lookup x=some a)(hv:bg ZU x):EvT ZV w C hb n ZU pv (.Name x pos) σ (σ.set x (.f a.frz)) a.frz:=λA E S g m s Q rm ok r k=>by
 obtain⟨v,hm⟩:=r.known x _ hx
 obtain⟨S',e,q,r'⟩:=r.freeze (σ':=σ.set x (.f a.frz)) (ρ':=none) (i:=some x) (v:=v) (a:=a) ok.loc ⟨hx,hm⟩ (cD r.known ⟨v,hm⟩) λj v' a' y=>set_slot hx hm y
 exact wpAny_Name (au ok r.vars hm hv.1 (k _ _ s.toks _ e r' q)) hv.2
theorem Rel.push{o:Obj}{a:V}{fp:List Addr}{v:Value}(r:Rel ZV w C hb ZU pv S g m σ none h)(ok:VOk ZV w C S (h.push o) v a fp)(nw:∀b∈fp,b=h.objs.size):
  Ext w S g S (h.push o)∧Rel ZV w C hb ZU pv S g m σ (some (v,a)) (h.push o):=by
 have kp:∀b x,h.get? b=some x→(h.push o).get? b=some x:=λb x e=>Heap.get?_push_of_some o e
 have e:Ext w S (bH S h) S (h.push o):=⟨.refl S,⟨λa x q=>kp _ _ (r.st.o _ _ q),λd x q=>(r.st.v _ _ q).keeps (kp d),r.st.dis⟩,
  ⟨λa x q=>kp _ _ ((aJ r.st).o _ _ q),λd x q=>((aJ r.st).v _ _ q).keeps (kp d),(aJ r.st).dis⟩,λb _ x=>x⟩
 obtain⟨r',e'⟩:=r.step e
 refine⟨e',{r' with slots:=Own.add (k:=none) r.slots kp ok (λb hb=>?_) r.st r.kp (λb hb=>(r.priv b hb).1) λi v' a' x=>slot_none x}⟩
 ·rw[nw b hb]
  cases q:h.get? h.objs.size with
  |none=>rfl
  |some o'=>exact absurd (Heap.lt_size q) (Nat.lt_irrefl _)
end
section
variable{ZV:Program}{w:World}{C:Addr}{hb:Heap}{ZU:Env}{pv:List Addr}{S g:Sh}{m:Str→Option Value}{σ σ' ZZ ZY ZX:Loc}{ρ:Option (Value×V)}{h:Heap}{n:Nat}
noncomputable def dK(ZV:Program)(w:World)(C:Addr)(hb:Heap)(n:Nat)(ZU:Env)(pv:List Addr)(es:List Expr)(σ σ':Loc)(ts:List T):Prop:=
 ∀(A:Around)(E:Value→Shared→Prop)(S g:Sh)(m:Str→Option Value)(s:Shared)(pos:Pos)(Q:List Value→Shared→Prop),Rm n A→EnvOk ZU pv→Rel ZV w C hb ZU pv S g m σ none s.heap→
  (∀S' h' tk vs,Ext w S g S' h'→Rel ZV w C hb ZU pv S' g m σ' none h'→RA ZV w C S' vs ts→Q vs {s with heap:=h',toks:=tk})→wpAny (model ZV w) A (spliced (backTo pos (starEach es ZU))) Q E s
theorem kq:dK ZV w C hb n ZU pv [] σ σ []:=λ_ _ _ _ _ s _ _ _ _ r k=>spliced_none (k _ _ s.toks _ (Ext.tok r) r .nil)
theorem ip{e:Expr}{es:List Expr}{t:T}{ts:List T}(a:EvT ZV w C hb n ZU pv e σ ZZ t)(b:dK ZV w C hb n ZU pv es ZZ ZY ts)
  (he:∀ZU,starEach (e ::es) ZU=(false,eval e ZU) ::starEach es ZU):dK ZV w C hb n ZU pv (e ::es) σ ZY (t ::ts):=λA E S g m s pos Q rm ok r k=>
 spliced_more (a A E S g m s _ rm ok r λS' h' tk v e' r' q=>b A E S' g m _ pos _ rm ok r' λS'' h'' tk' vs e'' r'' q'=>
  k S'' h'' tk' (v ::vs) (e'.trans e'') r'' (.cons (q.mono e''.le) q')) (he ZU)
theorem ii{vs:List Value}{ts:List T}(x:RA ZV w C S vs ts)(hn:ts.length≤16777216):vs.length≤sizeLine:=by rw[x.length,sizeLine_eq];exact hn
theorem x0{es:List Expr}{ts:List T}{pos:Pos}(a:dK ZV w C hb n ZU pv es σ σ' ts)(hn:ts.length≤16777216):EvV ZV w C hb n ZU pv (.List es pos) σ σ' (.ol ts):=λA E S g m s Q rm ok r k=>
 List_ (a A E S g m s pos _ rm ok r λS' h' tk vs e' r' q=>by
  refine wpAny_newObj_type ?_ (by show vs.toArray.size≤sizeLine;rw[List.size_toArray];exact ii q hn)
  obtain⟨e'',r''⟩:=r'.push (o:=lO vs 0) (a:=.ol ts) (v:=.ref h'.objs.size) (fp:=[h'.objs.size]) (.ol (n:=0) (Heap.get?_push_size _ rfl) q) λb hb=>List.mem_singleton.mp hb
  exact k S' _ tk _ (e'.trans e'') r'')
theorem Rel.push_still{o:Obj}{t:T}(r:Rel ZV w C hb ZU pv S g m σ none h)(hL:ZU.locals∈pv)(hf:o.isFreed=false)(hc:∀es k,o.data≠ .dict es k)
  (x:∀S':Sh,S.Le S'→S'.o h.objs.size=some o→R ZV w C S' (.ref h.objs.size) t) :
  ∃S',Ext w S g S' (h.push o)∧Rel ZV w C hb ZU pv S' g m σ none (h.push o)∧R ZV w C S' (.ref h.objs.size) t:=by
 have nw:h.get? h.objs.size=none:=by
  cases q:h.get? h.objs.size with
  |none=>rfl
  |some o'=>exact absurd (Heap.lt_size q) (Nat.lt_irrefl _)
 have nS:¬ S.has h.objs.size:=λz=>by obtain⟨y,hy⟩:=In.get r.st z;rw[nw]at hy;cases hy
 have ng:¬ g.has h.objs.size:=λz=>by obtain⟨y,hy⟩:=In.get r.kp z;rw[nw]at hy;cases hy
 have kp:∀b x,h.get? b=some x→(h.push o).get? b=some x:=λb x e=>Heap.get?_push_of_some o e
 have e:Ext w S (bH S h) (S.put h.objs.size o) (h.push o):=by
  refine⟨aX nS,dO ⟨λa x q=>kp _ _ (r.st.o _ _ q),λd x q=>(r.st.v _ _ q).keeps (kp d),r.st.dis⟩ nS (Heap.get?_push_size _ hf),
   ⟨λa x q=>kp _ _ ((aJ r.st).o _ _ q),λd x q=>((aJ r.st).v _ _ q).keeps (kp d),(aJ r.st).dis⟩,λb hb hs=>?_⟩
  rcases put_has hs with rfl|hs
  ·obtain⟨y,hy⟩:=In.get (aJ r.st) hb
   rw[nw]at hy;cases hy
  ·exact hs
 obtain⟨r',e'⟩:=r.step e
 exact⟨_,e',r',x _ (aX nS) (by simp[Sh.put])⟩
theorem B3{es:List Expr}{ts:List T}{k:Nat}{pos:Pos}(a:dK ZV w C hb n ZU pv es σ σ' ts)(hn:ts.length≤16777216):EvT ZV w C hb n ZU pv (.Tuple es k pos) σ σ' (.tup ts):=λA E S g m s Q rm ok r kk=>
 Tuple_ (a A E S g m s pos _ rm ok r λS' h' tk vs e' r' q=>by
  refine wpAny_newObj_type ?_ (by show vs.toArray.size≤sizeLine;rw[List.size_toArray];exact ii q hn)
  obtain⟨S'',e'',r'',q''⟩:=r'.push_still (o:=tO vs 0) (t:=.tup ts) ok.loc rfl (λ_ _ z=>nomatch z) λS'' l e=>.tup (n:=0) e (q.mono l)
  exact kk S'' _ tk _ (e'.trans e'') r'' q'')
theorem dL{l r:Expr}{op:Operator}{pos:Pos}{a b c:T}(x:EvT ZV w C hb n ZU pv l σ ZZ a)(y:EvT ZV w C hb n ZU pv r ZZ ZY b)
  (f:∀(A:Around)(E:Value→Shared→Prop)(S g:Sh)(m:Str→Option Value)(s:Shared)(va vb:Value)(Q:Value→Shared→Prop),Rm n A→EnvOk ZU pv→Rel ZV w C hb ZU pv S g m ZY none s.heap→R ZV w C S va a→R ZV w C S vb b→
   (∀S' h' tk v,Ext w S g S' h'→Rel ZV w C hb ZU pv S' g m ZY none h'→R ZV w C S' v c→Q v {s with heap:=h',toks:=tk})→wpAny (model ZV w) A (binaryOp op va vb) Q E s) :
  EvT ZV w C hb n ZU pv (.BinOp l op r pos) σ ZY c:=λA E S g m s Q rm ok rl k=>
 wpAny_BinOp (x A E S g m s _ rm ok rl λS' h' tk va e' r' q=>y A E S' g m _ _ rm ok r' λS'' h'' tk' vb e'' r'' q'=>
  f A E S'' g m _ va vb Q rm ok r'' (q.mono e''.le) q' λS3 h3 tk3 v e3 r3 q3=>k S3 h3 tk3 v ((e'.trans e'').trans e3) r3 q3)
theorem nr{l r:Expr}{pos:Pos}{a b:Int}(x:EvT ZV w C hb n ZU pv l σ ZZ (.int a))(y:EvT ZV w C hb n ZU pv r ZZ ZY (.int b)):EvT ZV w C hb n ZU pv (.BinOp l .Add r pos) σ ZY (.int (a+b)):=
 dL x y λA E S g m s va vb Q rm ok rl p q k=>by cases p using R.intE;cases q using R.intE;exact add_int (k _ _ _ _ (Ext.tok rl) rl (.int _ _))
theorem oi{l r:Expr}{pos:Pos}{a b:Int}(x:EvT ZV w C hb n ZU pv l σ ZZ (.int a))(y:EvT ZV w C hb n ZU pv r ZZ ZY (.int b)):EvT ZV w C hb n ZU pv (.BinOp l .Sub r pos) σ ZY (.int (a - b)):=
 dL x y λA E S g m s va vb Q rm ok rl p q k=>by cases p using R.intE;cases q using R.intE;exact sub_int (k _ _ _ _ (Ext.tok rl) rl (.int _ _))
theorem nW{l r:Expr}{pos:Pos}{a b:Int}(x:EvT ZV w C hb n ZU pv l σ ZZ (.int a))(y:EvT ZV w C hb n ZU pv r ZZ ZY (.int b))(hm:IntMulOk a b):EvT ZV w C hb n ZU pv (.BinOp l .Mult r pos) σ ZY (.int (a * b)):=
 dL x y λA E S g m s va vb Q rm ok rl p q k=>by cases p using R.intE;cases q using R.intE;exact mul_int (k _ _ _ _ (Ext.tok rl) rl (.int _ _)) hm
theorem oa{l r:Expr}{pos:Pos}{a b:Int}(x:EvT ZV w C hb n ZU pv l σ ZZ (.int a))(y:EvT ZV w C hb n ZU pv r ZZ ZY (.int b))(hz:b≠0)(hp:Builtin.divisionGoesByPylong a b=false):EvT ZV w C hb n ZU pv (.BinOp l .FloorDiv r pos) σ ZY (.int (a.fdiv b)):=
 dL x y λA E S g m s va vb Q rm ok rl p q k=>by cases p using R.intE;cases q using R.intE;exact floordiv_int hz (k _ _ _ _ (Ext.tok rl) rl (.int _ _)) (.inl hp)
theorem oY{l r:Expr}{pos:Pos}{a b:Int}(x:EvT ZV w C hb n ZU pv l σ ZZ (.int a))(y:EvT ZV w C hb n ZU pv r ZZ ZY (.int b))(hz:b≠0):EvT ZV w C hb n ZU pv (.BinOp l .Mod r pos) σ ZY (.int (a.fmod b)):=
 dL x y λA E S g m s va vb Q rm ok rl p q k=>by cases p using R.intE;cases q using R.intE;exact mod_int' hz (k _ _ _ _ (Ext.tok rl) rl (.int _ _))
theorem o8{l r:Expr}{pos:Pos}{a b:Int}(x:EvT ZV w C hb n ZU pv l σ ZZ (.int a))(y:EvT ZV w C hb n ZU pv r ZZ ZY (.int b))(h0:0≤b)(hz:(Builtin.Int.intBits a:Int) * b≤2 ^ 27):EvT ZV w C hb n ZU pv (.BinOp l .Pow r pos) σ ZY (.int (a ^ b.toNat)):=
 dL x y λA E S g m s va vb Q rm ok rl p q k=>by cases p using R.intE;cases q using R.intE;exact pow_int h0 hz (k _ _ _ _ (Ext.tok rl) rl (.int _ _))
theorem nk{l r:Expr}{pos:Pos}{a b:Str}(x:EvT ZV w C hb n ZU pv l σ ZZ (.str a))(y:EvT ZV w C hb n ZU pv r ZZ ZY (.str b))(hz:a.length+b.length≤16777216):EvT ZV w C hb n ZU pv (.BinOp l .Add r pos) σ ZY (.str (a ++ b)):=
 dL x y λA E S g m s va vb Q rm ok rl p q k=>by cases p using R.strE;cases q using R.strE;exact add_str (λt' tk=>k _ _ _ _ (Ext.tok rl) rl (.str _ _)) (by rw[sizeLine_eq];exact hz)
theorem oZ{l r:Expr}{pos:Pos}{a:Str}{b:Int}(x:EvT ZV w C hb n ZU pv l σ ZZ (.str a))(y:EvT ZV w C hb n ZU pv r ZZ ZY (.int b))(hz:MulOk a b):EvT ZV w C hb n ZU pv (.BinOp l .Mult r pos) σ ZY (.str (Txt.mul a b)):=
 dL x y λA E S g m s va vb Q rm ok rl p q k=>by cases p using R.strE;cases q using R.intE;exact SB.mul hz (λt' tk=>k _ _ _ _ (Ext.tok rl) rl (.str _ _))
theorem uy{e:Expr}{b:Bool}(x:EvT ZV w C hb n ZU pv e σ σ' (.bool b))(he:∀ZU,isTrue e ZU (eval e ZU)=(do let v ←eval e ZU;standAt e.pos;holding [v] (truthy v))):EvB ZV w C hb n ZU pv e σ σ' b:=λA E S g m s Q rm ok r k=>
 wpAny_isTrue_value (x A E S g m s _ rm ok r λS' h' tk v e' r' q=>by cases q using R.boolE;exact wpAny_truthy_bool (k _ _ _ e' r')) (he ZU)
theorem BO{e:Expr}{b:Bool}{pos:Pos}(x:EvB ZV w C hb n ZU pv e σ σ' b):EvB ZV w C hb n ZU pv (.UnaryOp .Not e pos) σ σ' (!b):=λA E S g m s Q rm ok r k=>
 wpAny_isTrue_Not (x A E S g m s _ rm ok r k)
theorem DZ{test a b:Expr}{pos:Pos}{c:Bool}{t:T}(x:EvB ZV w C hb n ZU pv test σ ZZ c)(y:EvT ZV w C hb n ZU pv (if c then a else b) ZZ ZY t):EvT ZV w C hb n ZU pv (.IfExp test a b pos) σ ZY t:=λA E S g m s Q rm ok r k=>
 wpAny_IfExp (x A E S g m s _ rm ok r λS' h' tk e' r'=>by
  have z:=y A E S' g m {s with heap:=h',toks:=tk} Q rm ok r' λS'' h'' tk' v e'' r'' q=>k S'' h'' tk' v (e'.trans e'') r'' q
  cases c<;>simpa using z)
noncomputable def eF(ZV:Program)(w:World)(C:Addr)(hb:Heap)(n:Nat)(ZU:Env)(pv:List Addr)(op:BoolOp)(es:List Expr)(σ σ':Loc)(b:Bool):Prop:=
 ∀(A:Around)(E:Value→Shared→Prop)(S g:Sh)(m:Str→Option Value)(s:Shared)(Q:Bool→Shared→Prop),Rm n A→EnvOk ZU pv→Rel ZV w C hb ZU pv S g m σ none s.heap→
  (∀S' h' tk,Ext w S g S' h'→Rel ZV w C hb ZU pv S' g m σ' none h'→Q b {s with heap:=h',toks:=tk})→wpAny (model ZV w) A (allTrue op es ZU) Q E s
theorem mT:eF ZV w C hb n ZU pv .And [] σ σ true:=λ_ _ _ _ _ s _ _ _ r k=>wpAny_allTrue_And_nil (k _ _ s.toks (Ext.tok r) r)
theorem n7:eF ZV w C hb n ZU pv .Or [] σ σ false:=λ_ _ _ _ _ s _ _ _ r k=>wpAny_allTrue_Or_nil (k _ _ s.toks (Ext.tok r) r)
theorem rE{e:Expr}{es:List Expr}{b:Bool}(x:EvB ZV w C hb n ZU pv e σ ZZ true)(y:eF ZV w C hb n ZU pv .And es ZZ ZY b):eF ZV w C hb n ZU pv .And (e ::es) σ ZY b:=λA E S g m s Q rm ok r k=>
 wpAny_allTrue_And_cons (x A E S g m s _ rm ok r λS' h' tk e' r'=>by
  rw[if_pos rfl];exact y A E S' g m _ Q rm ok r' λS'' h'' tk' e'' r''=>k S'' h'' tk' (e'.trans e'') r'')
theorem sA{e:Expr}{es:List Expr}(x:EvB ZV w C hb n ZU pv e σ ZZ false):eF ZV w C hb n ZU pv .And (e ::es) σ ZZ false:=λA E S g m s Q rm ok r k=>
 wpAny_allTrue_And_cons (x A E S g m s _ rm ok r λS' h' tk e' r'=>by rw[if_neg (by decide)];exact k S' h' tk e' r')
theorem ux{e:Expr}{es:List Expr}(x:EvB ZV w C hb n ZU pv e σ ZZ true):eF ZV w C hb n ZU pv .Or (e ::es) σ ZZ true:=λA E S g m s Q rm ok r k=>
 wpAny_allTrue_Or_cons (x A E S g m s _ rm ok r λS' h' tk e' r'=>by rw[if_pos rfl];exact k S' h' tk e' r')
theorem ty{e:Expr}{es:List Expr}{b:Bool}(x:EvB ZV w C hb n ZU pv e σ ZZ false)(y:eF ZV w C hb n ZU pv .Or es ZZ ZY b):eF ZV w C hb n ZU pv .Or (e ::es) σ ZY b:=λA E S g m s Q rm ok r k=>
 wpAny_allTrue_Or_cons (x A E S g m s _ rm ok r λS' h' tk e' r'=>by
  rw[if_neg (by decide)];exact y A E S' g m _ Q rm ok r' λS'' h'' tk' e'' r''=>k S'' h'' tk' (e'.trans e'') r'')
theorem w2{op:BoolOp}{es:List Expr}{pos:Pos}{b:Bool}(x:eF ZV w C hb n ZU pv op es σ σ' b):EvB ZV w C hb n ZU pv (.BoolOp op es pos) σ σ' b:=λA E S g m s Q rm ok r k=>
 wpAny_isTrue_BoolOp (x A E S g m s Q rm ok r k)
end
section
variable{ZV:Program}{w:World}{C:Addr}{hb:Heap}{ZU:Env}{pv:List Addr}{S g:Sh}{m:Str→Option Value}{σ σ' ZZ ZY ZX:Loc}{ρ:Option (Value×V)}{h:Heap}{n:Nat}
mutual
noncomputable def T.py:T→Option PyData
 |.none=>some .none
 |.bool b=>some (.bool b)
 |.int i=>some (.int i)
 |.str x=>some (.str x)
 |.list ts=>(T.pys ts).map .list
 |.tup ts=>(T.pys ts).map .tuple
 |.dict _ _=>Option.none
 |.vec _ _ _=>Option.none
 |.opq _ _=>Option.none
 |.clo _=>Option.none
noncomputable def T.pys:List T→Option (List PyData)
 |[]=>some []
 |t ::ts=>match T.py t,T.pys ts with
  |some d,some ds=>some (d ::ds)
  |_,_=>Option.none
end
theorem nb{t:T}{ts:List T}{d:PyData}{ds:List PyData}(h:t.py=some d)(h2:T.pys ts=some ds):T.pys (t ::ts)=some (d ::ds):=by
 show(match T.py t,T.pys ts with
  |some d,some ds=>some (d ::ds)
  |_,_=>Option.none)=_
 rw[h,h2]
theorem R.readss{h:Heap}(i:S.In w h):(∀{v t},R ZV w C S v t→∀{d:PyData},t.py=some d→∃as,Reads h v d as)∧∀{vs ts},RA ZV w C S vs ts→∀{ds:List PyData},T.pys ts=some ds→∃as,ReadsAll h vs ds as:=
 R.both (λe=>by cases e;exact⟨_,.none⟩) (λb _ e=>by cases e;exact⟨_,.bool b⟩) (λb _ _ e=>by cases e;exact⟨_,.int b _⟩) (λb _ _ e=>by cases e;exact⟨_,.str b _⟩)
  (λ{a vs n ts}ho _ ih d e=>by
   obtain⟨ds,e',rfl⟩:=Option.map_eq_some_iff.mp (show(T.pys ts).map PyData.list=some d from e)
   obtain⟨as,q⟩:=ih e'
   exact⟨_,.list (i.o _ _ ho) rfl rfl (by simpa using q)⟩)
  (λ{a vs n ts}ho _ ih d e=>by
   obtain⟨ds,e',rfl⟩:=Option.map_eq_some_iff.mp (show(T.pys ts).map PyData.tuple=some d from e)
   obtain⟨as,q⟩:=ih e'
   exact⟨_,.tuple (i.o _ _ ho) rfl rfl (by simpa using q)⟩)
  (λ_ _ _ _ _ _ e=>nomatch e) (λ_ _ _ _ _ _ _ _ _ e=>nomatch e) (λ_ _ _ e=>nomatch e) (λ_ _ _ e=>nomatch e) (λe=>by cases e;exact⟨_,.nil⟩)
  (λ{v vs t ts}_ _ iha ihb ds e=>by
   have e:(match t.py,T.pys ts with
    |some d,some ds=>some (d ::ds)
    |_,_=>Option.none)=some ds:=e
   cases e1:t.py with
   |none=>rw[e1]at e;cases e
   |some d=>
    cases e2:T.pys ts with
    |none=>rw[e1,e2]at e;cases e
    |some ds=>
     rw[e1,e2]at e
     cases e
     obtain⟨as,q⟩:=iha e1
     obtain⟨bs,p⟩:=ihb e2
     exact⟨_,.cons q p⟩)
theorem R.reads{h:Heap}(i:S.In w h){v:Value}{t:T}{d:PyData}(r:R ZV w C S v t)(e:t.py=some d):∃as,Reads h v d as:=(R.readss i).1 r e
noncomputable def cu(ZV:Program)(w:World)(C:Addr)(op:CmpOp)(a b:T)(c:Bool):Prop:=
 ∀(A:Around)(E:Value→Shared→Prop)(S:Sh)(s:Shared)(va vb:Value)(Q:Value→Shared→Prop),Rm 0 A→S.In w s.heap→R ZV w C S va a→R ZV w C S vb b→
  (∀tk,Q (.bool c) {s with toks:=tk})→wpAny (model ZV w) A (compareOp op va vb) Q E s
theorem AW{l r:Expr}{op:CmpOp}{pos:Pos}{a b:T}{c:Bool}(x:EvT ZV w C hb n ZU pv l σ ZZ a)(y:EvT ZV w C hb n ZU pv r ZZ ZY b)(f:cu ZV w C op a b c)(hm:behindInMarks op r=false):
  EvT ZV w C hb n ZU pv (.Compare l [op] [r] pos) σ ZY (.bool c):=λA E S g m s Q rm ok rl k=>
 wpAny_Compare1 (x A E S g m s _ rm ok rl λS' h' tk va e' r' q=>y A E S' g m _ _ rm ok r' λS'' h'' tk' vb e'' r'' q'=>
  f A E S'' _ va vb Q (rm.le (Nat.zero_le n)) r''.st (q.mono e''.le) q' λtk2=>k S'' h'' tk2 _ (e'.trans e'') r'' (.bool c)) hm
theorem Br{l r:Expr}{op:CmpOp}{pos:Pos}{a b:T}{c:Bool}(x:EvT ZV w C hb n ZU pv l σ ZZ a)(y:EvT ZV w C hb n ZU pv r ZZ ZY b)(f:cu ZV w C op a b c)(hm:behindInMarks op r=false):
  EvB ZV w C hb n ZU pv (.Compare l [op] [r] pos) σ ZY c:=λA E S g m s Q rm ok rl k=>
 wpAny_isTrue_Compare1 (x A E S g m s _ rm ok rl λS' h' tk va e' r' q=>y A E S' g m _ _ rm ok r' λS'' h'' tk' vb e'' r'' q'=>
  f A E S'' _ va vb _ (rm.le (Nat.zero_le n)) r''.st (q.mono e''.le) q' λtk2=>wpAny_truthy_bool (k S'' h'' tk2 (e'.trans e'') r'')) hm
theorem AF{a b:Int}:cu ZV w C .Lt (.int a) (.int b) (decide (a < b)):=λA E S s va vb Q rm i p q k=>by cases p using R.intE;cases q using R.intE;exact lt_int (k s.toks)
theorem Bq{a b:Int}:cu ZV w C .Gt (.int a) (.int b) (decide (b < a)):=λA E S s va vb Q rm i p q k=>by cases p using R.intE;cases q using R.intE;exact gt_int (k s.toks)
theorem Cu{a b:Int}:cu ZV w C .LtE (.int a) (.int b) (decide (a≤b)):=λA E S s va vb Q rm i p q k=>by cases p using R.intE;cases q using R.intE;exact le_int (k s.toks)
theorem Aj{a b:Int}:cu ZV w C .GtE (.int a) (.int b) (decide (b≤a)):=λA E S s va vb Q rm i p q k=>by cases p using R.intE;cases q using R.intE;exact ge_int (k s.toks)
theorem BH{a b:T}{da db:PyData}(ea:a.py=some da)(eb:b.py=some db)(sa:SeqAt.shaped da=true)(sb:SeqAt.shaped db=true):cu ZV w C .Eq a b (PyData.eqv da db):=λA E S s va vb Q rm i p q k=>by
 obtain⟨as,ra⟩:=p.reads i ea
 obtain⟨bs,rb⟩:=q.reads i eb
 exact eq_dataH ra rb sa sb (vE rm.un rfl) (k s.toks)
theorem CH{a b:T}{da db:PyData}(ea:a.py=some da)(eb:b.py=some db)(sa:SeqAt.shaped da=true)(sb:SeqAt.shaped db=true):cu ZV w C .NotEq a b (!PyData.eqv da db):=λA E S s va vb Q rm i p q k=>by
 obtain⟨as,ra⟩:=p.reads i ea
 obtain⟨bs,rb⟩:=q.reads i eb
 exact ne_dataH ra rb sa sb (vE rm.un rfl) (k s.toks)
noncomputable def T.isNone:T→Bool
 |.none=>true
 |_=>false
theorem R.isNone{S:Sh}{v:Value}{t:T}(p:R ZV w C S v t):(v == Value.none)=t.isNone:=by cases p<;>rfl
theorem R.plainIs{S:Sh}{v:Value}{t:T}(p:R ZV w C S v t):plainIs v .none=true:=by cases p<;>rfl
theorem Bs{a:T}:cu ZV w C .Is a .none a.isNone:=λA E S s va vb Q rm i p q k=>by
 cases q using R.noneE
 have:(va == Value.none)=a.isNone:=p.isNone
 exact wpAny_is_plain p.plainIs (by rw[this];exact k s.toks)
theorem rQ{a:T}:cu ZV w C .IsNot a .none (!a.isNone):=λA E S s va vb Q rm i p q k=>by
 cases q using R.noneE
 have:(va == Value.none)=a.isNone:=p.isNone
 exact wpAny_isNot_plain p.plainIs (by rw[this];exact k s.toks)
theorem d9{a b:Nat}(h:b≤64):min a b≤64:=Nat.le_trans (Nat.min_le_right _ _) h
theorem mu{a:T}{ts:List T}{da:PyData}{ds:List PyData}(ea:a.py=some da)(eb:T.pys ts=some ds)(sa:SeqAt.shaped da=true)(sb:PyData.canLayAll0 ds=true):cu ZV w C .In a (.list ts) (ds.any λy=>PyData.eqv y da):=λA E S s va vb Q rm i p q k=>by
 obtain⟨as,ra⟩:=p.reads i ea
 obtain⟨bs,rb⟩:=q.reads i (d:=.list ds) (by show(T.pys _).map _=_;rw[eb];rfl)
 simp only[SeqAt.shaped,Bool.and_eq_true,decide_eq_true_eq]at sa
 exact SeqAt.in_list_reads rb ra sb sa.1 (qh rm.un (d9 sa.2)) (k s.toks)
theorem iU{a:T}{ts:List T}{da:PyData}{ds:List PyData}(ea:a.py=some da)(eb:T.pys ts=some ds)(sa:SeqAt.shaped da=true)(sb:PyData.canLayAll0 ds=true):cu ZV w C .NotIn a (.list ts) (!(ds.any λy=>PyData.eqv y da)):=λA E S s va vb Q rm i p q k=>by
 obtain⟨as,ra⟩:=p.reads i ea
 obtain⟨bs,rb⟩:=q.reads i (d:=.list ds) (by show(T.pys _).map _=_;rw[eb];rfl)
 simp only[SeqAt.shaped,Bool.and_eq_true,decide_eq_true_eq]at sa
 exact SeqAt.notIn_list_reads rb ra sb sa.1 (qh rm.un (d9 sa.2)) (k s.toks)
theorem og{a:T}{ts:List T}{da:PyData}{ds:List PyData}(ea:a.py=some da)(eb:T.pys ts=some ds)(sa:SeqAt.shaped da=true)(sb:PyData.canLayAll0 ds=true):cu ZV w C .In a (.tup ts) (ds.any λy=>PyData.eqv y da):=λA E S s va vb Q rm i p q k=>by
 obtain⟨as,ra⟩:=p.reads i ea
 obtain⟨bs,rb⟩:=q.reads i (d:=.tuple ds) (by show(T.pys _).map _=_;rw[eb];rfl)
 simp only[SeqAt.shaped,Bool.and_eq_true,decide_eq_true_eq]at sa
 exact SeqAt.in_tuple_reads rb ra sb sa.1 (qh rm.un (d9 sa.2)) (k s.toks)
theorem jt{a:T}{ts:List T}{da:PyData}{ds:List PyData}(ea:a.py=some da)(eb:T.pys ts=some ds)(sa:SeqAt.shaped da=true)(sb:PyData.canLayAll0 ds=true):cu ZV w C .NotIn a (.tup ts) (!(ds.any λy=>PyData.eqv y da)):=λA E S s va vb Q rm i p q k=>by
 obtain⟨as,ra⟩:=p.reads i ea
 obtain⟨bs,rb⟩:=q.reads i (d:=.tuple ds) (by show(T.pys _).map _=_;rw[eb];rfl)
 simp only[SeqAt.shaped,Bool.and_eq_true,decide_eq_true_eq]at sa
 exact SeqAt.notIn_tuple_reads rb ra sb sa.1 (qh rm.un (d9 sa.2)) (k s.toks)
theorem gb(kvs:List (Str×Value))(x:Str):(valueAt kvs x).isSome=(kvs.map (·.1)).contains x:=by
 induction kvs with
 |nil=>rfl
 |cons kv r ih=>
  obtain⟨k',v'⟩:=kv
  unfold valueAt at ih ⊢
  simp only[List.find?_cons,List.map_cons,List.contains_cons]
  by_cases q:k'=x
  ·subst q;simp
  ·have q':(x == k')=false:=by simpa using λz=>q z.symm
   simp only[decide_eq_false q,q',Bool.false_or]
   exact ih
theorem my{x:Str}{ks:List Str}{ts:List T}:cu ZV w C .In (.str x) (.dict ks ts) (ks.contains x):=λA E S s va vb Q rm i p q k=>by
 cases p using R.strE with
 |str t=>
 cases q using R.dictE with
 |@dict a o kvs ho hd hs r=>
  have hdo:s.heap.DictOf (PySem.strKind ZV w) a kvs:=Heap.dictOf_iff.mpr ⟨o,i.o _ _ ho,hd⟩
  refine wpAny_in_of (strKind_is ZV w x t) hs hdo.mapOf ?_
  rw[gb];exact k _
end
section
variable{ZV:Program}{w:World}{C:Addr}{hb:Heap}{ZU:Env}{pv:List Addr}{S g:Sh}{m:Str→Option Value}{σ σ' ZZ ZY ZX:Loc}{ρ:Option (Value×V)}{h:Heap}{n:Nat}
inductive O where
 |nx (σ:Loc)
 |rt (a:V) (σ:Loc)
 |bk (σ:Loc)
 |ct (σ:Loc)
noncomputable def MS(ZV:Program)(w:World)(C:Addr)(S g:Sh)(h:Heap)(v:Value)(a:V):Prop:=∃fp,VOk ZV w C S h v a fp∧∀b∈fp,¬ S.has b∧¬ g.has b
noncomputable def Post(ZV:Program)(w:World)(C:Addr)(hb:Heap)(ZU:Env)(pv:List Addr)(S g:Sh)(s:Shared)(Q:Flow→Shared→Prop):O→Prop
 |.nx σ'=>∀S' h' tk m',Ext w S g S' h'→Rel ZV w C hb ZU pv S' g m' σ' none h'→Q .next {s with heap:=h',toks:=tk}
 |.bk σ'=>∀S' h' tk m',Ext w S g S' h'→Rel ZV w C hb ZU pv S' g m' σ' none h'→Q .brk {s with heap:=h',toks:=tk}
 |.ct σ'=>∀S' h' tk m',Ext w S g S' h'→Rel ZV w C hb ZU pv S' g m' σ' none h'→Q .cont {s with heap:=h',toks:=tk}
 |.rt a σ'=>∀S' h' tk v m',Ext w S g S' h'→Rel ZV w C hb ZU pv S' g m' σ' (some (v,a)) h'→Q (.ret v) {s with heap:=h',toks:=tk}
noncomputable def du(ZV:Program)(w:World)(C:Addr)(hb:Heap)(n:Nat)(ZU:Env)(pv:List Addr)(st:Stmt)(σ:Loc)(o:O):Prop:=
 ∀(A:Around)(E:Value→Shared→Prop)(S g:Sh)(m:Str→Option Value)(s:Shared)(Q:Flow→Shared→Prop),Rm n A→EnvOk ZU pv→Rel ZV w C hb ZU pv S g m σ none s.heap→
  Post ZV w C hb ZU pv S g s Q o→wpAny (model ZV w) A (exec st ZU) Q E s
noncomputable def ExJ(ZV:Program)(w:World)(C:Addr)(hb:Heap)(n:Nat)(ZU:Env)(pv:List Addr)(sts:List Stmt)(σ:Loc)(o:O):Prop:=
 ∀(A:Around)(E:Value→Shared→Prop)(S g:Sh)(m:Str→Option Value)(s:Shared)(Q:Flow→Shared→Prop),Rm n A→EnvOk ZU pv→Rel ZV w C hb ZU pv S g m σ none s.heap→
  Post ZV w C hb ZU pv S g s Q o→wpAny (model ZV w) A (execs sts ZU) Q E s
theorem Post.trans{s:Shared}{Q:Flow→Shared→Prop}{o:O}{S':Sh}{h':Heap}{tk:Nat}(p:Post ZV w C hb ZU pv S g s Q o)(e:Ext w S g S' h'):Post ZV w C hb ZU pv S' g {s with heap:=h',toks:=tk} Q o:=by
 cases o with
 |nx σ'=>exact λS'' h'' tk' m' e' r=>p S'' h'' tk' m' (e.trans e') r
 |bk σ'=>exact λS'' h'' tk' m' e' r=>p S'' h'' tk' m' (e.trans e') r
 |ct σ'=>exact λS'' h'' tk' m' e' r=>p S'' h'' tk' m' (e.trans e') r
 |rt a σ'=>exact λS'' h'' tk' v m' e' r=>p S'' h'' tk' v m' (e.trans e') r
theorem Bf:ExJ ZV w C hb n ZU pv [] σ (.nx σ):=λA E S g m s Q rm ok r p=>wpAny_execs_nil (p _ _ s.toks _ (Ext.tok r) r)
theorem xY{st:Stmt}{sts:List Stmt}{o:O}(a:du ZV w C hb n ZU pv st σ (.nx ZZ))(b:ExJ ZV w C hb n ZU pv sts ZZ o):ExJ ZV w C hb n ZU pv (st ::sts) σ o:=λA E S g m s Q rm ok r p=>
 wpAny_execs_cons (a A E S g m s _ rm ok r λS' h' tk m' e r'=>b A E S' g m' _ Q rm ok r' (p.trans e))
theorem A1{st:Stmt}{sts:List Stmt}{a:V}(x:du ZV w C hb n ZU pv st σ (.rt a σ')):ExJ ZV w C hb n ZU pv (st ::sts) σ (.rt a σ'):=λA E S g m s Q rm ok r p=>
 wpAny_execs_cons (x A E S g m s _ rm ok r p)
theorem Bw{st:Stmt}{sts:List Stmt}(x:du ZV w C hb n ZU pv st σ (.bk σ')):ExJ ZV w C hb n ZU pv (st ::sts) σ (.bk σ'):=λA E S g m s Q rm ok r p=>
 wpAny_execs_cons (x A E S g m s _ rm ok r p)
theorem AZ{st:Stmt}{sts:List Stmt}(x:du ZV w C hb n ZU pv st σ (.ct σ')):ExJ ZV w C hb n ZU pv (st ::sts) σ (.ct σ'):=λA E S g m s Q rm ok r p=>
 wpAny_execs_cons (x A E S g m s _ rm ok r p)
theorem sZ{e:Expr}{pos:Pos}{a:V}(x:EvV ZV w C hb n ZU pv e σ σ' a):du ZV w C hb n ZU pv (.Return (some e) pos) σ (.rt a σ'):=λA E S g m s Q rm ok r p=>
 wpAny_Return_some (x A E S g m s _ rm ok r λS' h' tk v e' r'=>p S' h' tk v m e' r')
theorem Rel.private{h':Heap}{b₀:Addr}{m':Str→Option Value}{σ':Loc}(r:Rel ZV w C hb ZU pv S g m σ ρ h)(hb₀:b₀∈pv)(hs:Heap.SameBut b₀ h h')(hx:∃o,h'.get? b₀=some o)(va:VarsAt ZU h' m')
  (kn:∀x a,σ'.lookup x=some a→∃v,m' x=some v) (gh:∀i,m' (ghost i)=some (.ref (S.q i))) (f:Option Str→Option Str) (hf:∀i j v a v' a',Slot m' σ' none i v a→Slot m' σ' none j v' a'→i≠j→f i≠f j) (hp:∀i v a,Slot m' σ' none i v a→Slot m σ ρ (f i) v a) :
  Ext w S g S h'∧Rel ZV w C hb ZU pv S g m' σ' none h':=by
 obtain⟨_,nS,ng⟩:=r.priv b₀ hb₀
 have kp:∀b x,b≠b₀→h.get? b=some x→h'.get? b=some x:=λb x q e=>(hs.2 b q).trans e
 have sin:S.In w h':=⟨λa x e=>kp a x (λq=>nS (q ▸ Sh.has_o e)) (r.st.o a x e),λd x e=>(r.st.v d x e).keeps λo ho=>kp d o (λq=>nS (q ▸ Sh.has_v e)) ho,r.st.dis⟩
 have gin:g.In w h':=⟨λa x e=>kp a x (λq=>ng (q ▸ Sh.has_o e)) (r.kp.o a x e),λd x e=>(r.kp.v d x e).keeps λo ho=>kp d o (λq=>ng (q ▸ Sh.has_v e)) ho,r.kp.dis⟩
 refine⟨.refl sin gin,⟨sin,gin,r.base,va,r.gS,r.gd,r.vis,λb e=>⟨?_,(r.priv b e).2⟩,kn,?_,gh⟩⟩
 ·by_cases q:b=b₀
  ·rw[q];exact hx
  ·obtain⟨o,ho⟩:=(r.priv b e).1
   exact⟨o,kp b o q ho⟩
 ·exact(r.slots.map f hf hp).keeps (.refl S) (λb _ n1 _ _=>n1) λb x _ _ n3 e=>kp b x (λq=>n3 (q ▸ hb₀)) e
noncomputable def bO(ZU:Env)(pv:List Addr)(x:Str):Prop:=ZU.kindOf x=some .local∨(ZU.kindOf x=some .cell∧∃c,ZU.cells.lookup x=some c∧c∈pv)
theorem g9{x:Str}{v:Value}{a:V}{i:Option Str}{u:Value}{b:V}(y:Slot (upd m x v) (σ.set x a) none i u b):Slot m σ (some (v,a)) (if i=some x then none else i) u b:=by
 cases i with
 |none=>simp only[Slot]at y;cases y
 |some z=>
  simp only[Slot,ao,upd]at y
  by_cases hz:z=x
  ·subst hz
   simp only[if_true]at y ⊢
   obtain⟨y1,y2⟩:=y
   cases y1;cases y2
   rfl
  ·simp only[if_neg hz]at y
   rw[if_neg (by simpa using hz)]
   exact y
theorem Rel.store{A:Around}{E:Value→Shared→Prop}{s:Shared}{x:Str}{v:Value}{a:V}{Q:Unit→Shared→Prop}(ok:EnvOk ZU pv)(r:Rel ZV w C hb ZU pv S g m σ (some (v,a)) s.heap)(hx:bO ZU pv x)
  (k:∀h' tk,Ext w S g S h'→Rel ZV w C hb ZU pv S g (upd m x v) (σ.set x a) none h'→Q () {s with heap:=h',toks:=tk}):wpAny (model ZV w) A (storeName ZU x v) Q E s:=by
 have kn:∀y b,(σ.set x a).lookup y=some b→∃u,upd m x v y=some u:=λy b e=>by
  rw[ao]at e
  unfold upd
  split at e
  ·rename_i q;exact⟨v,by rw[if_pos q]⟩
  ·rename_i q;rw[if_neg q];exact r.known y b e
 have hf:∀i j u b u' b',Slot (upd m x v) (σ.set x a) none i u b→Slot (upd m x v) (σ.set x a) none j u' b'→i≠j→(if i=some x then none else i)≠(if j=some x then(none:Option Str)else j):=λi j u b u' b' y z hn=>by
  have yi:i≠none:=λq=>by rw[q]at y;simp only[Slot]at y;cases y
  have zj:j≠none:=λq=>by rw[q]at z;simp only[Slot]at z;cases z
  by_cases q1:i=some x
  ·by_cases q2:j=some x
   ·exact absurd (q1.trans q2.symm) hn
   ·rw[if_pos q1,if_neg q2];exact λq=>zj q.symm
  ·by_cases q2:j=some x
   ·rw[if_neg q1,if_pos q2];exact yi
   ·rw[if_neg q1,if_neg q2];exact hn
 have gh:∀i,upd m x v (ghost i)=some (.ref (S.q i)):=λi=>by
  unfold upd
  rw[if_neg]
  ·exact r.gho i
  ·intro e
   have:=ok.gk i
   rw[e]at this
   rcases hx with hk|⟨hk,_⟩<;>(rw[this]at hk;cases hk)
 rcases hx with hk|⟨hk,c,hc,hcp⟩
 ·obtain⟨ml,hn,hl⟩:=r.vars.loc
  refine wpAny_storeName_local hk hn (λh' hn' hs=>?_) (by rw[ok.kind];rfl)
  have va:VarsAt ZU h' (upd m x v):=by
   refine⟨⟨_,hn',λy hy=>?_⟩,λy c hc=>?_⟩
   ·unfold upd
    by_cases q:y=x
    ·simp[q]
    ·simp only[if_neg q];exact hl y hy
   ·have hyx:y≠x:=λq=>by
     subst q
     rw[ok.nloc y hk]at hc;cases hc
    obtain⟨o,ho,hd⟩:=r.vars.cell y c hc
    simp only[upd,if_neg hyx]
    exact⟨o,(hs.2 c (ok.ne y c hc)).trans ho,hd⟩
  obtain⟨e,r'⟩:=r.private ok.loc hs (let⟨o,_,_,ho,_⟩:=hn';⟨o,ho⟩) va kn gh _ hf λi u b y=>g9 y
  exact k h' _ e r'
 ·refine wpAny_storeName_cell ok.kind hk hc (r.vars.cell x c hc) λh' hc' hs=>?_
  have va:VarsAt ZU h' (upd m x v):=by
   refine⟨?_,λy c' hcy=>?_⟩
   ·obtain⟨ml,⟨o,es,ep,ho,rr⟩,hl⟩:=r.vars.loc
    refine⟨ml,⟨o,es,ep,(hs.2 _ λq=>ok.ne x c hc q.symm).trans ho,rr⟩,λy hy=>?_⟩
    have hyx:y≠x:=λq=>by rw[q,hk]at hy;cases hy
    simp only[upd,if_neg hyx];exact hl y hy
   ·by_cases q:y=x
    ·subst q
     rw[hc]at hcy;cases hcy
     simp only[upd,if_true];exact hc'
    ·simp only[upd,if_neg q]
     obtain⟨o,ho,hd⟩:=r.vars.cell y c' hcy
     exact⟨o,(hs.2 c' λz=>q (ok.inj y x c' hcy (z ▸ hc))).trans ho,hd⟩
  obtain⟨e,r'⟩:=r.private hcp hs (let⟨o,ho,_⟩:=hc';⟨o,ho⟩) va kn gh _ hf λi u b y=>g9 y
  exact k h' _ e r'
theorem lF{x:Str}{e:Expr}{pos pos':Pos}{a:V}(y:EvV ZV w C hb n ZU pv e σ σ' a)(hx:bO ZU pv x)(hs:swapsWith e (some (.Name x pos')) pos.line ZU=pure false):
  du ZV w C hb n ZU pv (.Assign [.Name x pos'] e pos) σ (.nx (σ'.set x a)):=λA E S g m s Q rm ok r p=>
 wpAny_Assign_Name (y A E S g m s _ rm ok r λS' h' tk v e' r'=>r'.store ok hx λh'' tk' e'' r''=>p S' h'' tk' _ (e'.trans e'') r'') hs
theorem GG{test:Expr}{body orelse:List Stmt}{pos:Pos}{c:Bool}{o:O}(x:EvB ZV w C hb n ZU pv test σ ZZ c)(y:ExJ ZV w C hb n ZU pv (if c then body else orelse) ZZ o):du ZV w C hb n ZU pv (.If test body orelse pos) σ o:=λA E S g m s Q rm ok r p=>
 wpAny_If (x A E S g m s _ rm ok r λS' h' tk e r'=>by
  have z:=y A E S' g m {s with heap:=h',toks:=tk} Q rm ok r' (p.trans e)
  cases c<;>simpa using z)
theorem Af{pos:Pos}:du ZV w C hb n ZU pv (.Pass pos) σ (.nx σ):=λA E S g m s Q rm ok r p=>wpAny_Pass (p _ _ s.toks _ (Ext.tok r) r)
theorem xH{pos:Pos}:du ZV w C hb n ZU pv (.Break pos) σ (.bk σ):=λA E S g m s Q rm ok r p=>wpAny_Break (p _ _ s.toks _ (Ext.tok r) r)
theorem oO{pos:Pos}:du ZV w C hb n ZU pv (.Continue pos) σ (.ct σ):=λA E S g m s Q rm ok r p=>wpAny_Continue (p _ _ s.toks _ (Ext.tok r) r)
theorem zQ{x:Str}{op:Operator}{e:Expr}{pos pos':Pos}{a b c:T}(hx:σ.lookup x=some (.f a))(hv:bg ZU x)(y:EvT ZV w C hb n ZU pv e σ ZZ b)(hs:bO ZU pv x)
  (f:∀(A:Around)(E:Value→Shared→Prop)(s:Shared)(S:Sh)(va vb:Value)(Q:Value→Shared→Prop),Rm n A→R ZV w C S va a→R ZV w C S vb b→(∀tk v,R ZV w C S v c→Q v {s with toks:=tk})→wpAny (model ZV w) A (inplaceOp op va vb) Q E s) :
  du ZV w C hb n ZU pv (.AugAssign (.Name x pos') op e pos) σ (.nx (ZZ.set x (.f c))):=λA E S g m s Q rm ok r p=>by
 obtain⟨v,hm⟩:=r.known x _ hx
 obtain⟨fp,a1,a2⟩:=r.slots
 have:=(a1 (some x) v _ ⟨hx,hm⟩).1
 generalize fp (some x)=l at this
 cases this using VOk.fE with
 |f q=>
  refine wpAny_AugAssign_Name (au ok r.vars hm hv.1 (y A E S g m s _ rm ok r λS' h' tk vb e r' q'=>?_))
  exact f A E _ S' v vb _ rm (q.mono e.le) q' λtk' vc q''=>(r'.res q'').store ok hs λh'' tk'' e' r''=>p S' h'' tk'' _ (e.trans e') r''
theorem w0{A:Around}{E:Value→Shared→Prop}{s:Shared}{S:Sh}{va vb:Value}{Q:Value→Shared→Prop}{a b:Int}(p:R ZV w C S va (.int a))(q:R ZV w C S vb (.int b))(k:∀tk v,R ZV w C S v (.int (a+b))→Q v {s with toks:=tk}):
  wpAny (model ZV w) A (inplaceOp .Add va vb) Q E s:=by cases p using R.intE;cases q using R.intE;exact iadd_int (k _ _ (.int _ _))
end
section
variable{ZV:Program}{w:World}{C:Addr}{hb:Heap}{ZU:Env}{pv:List Addr}{S g:Sh}{m:Str→Option Value}{σ σ' ZZ ZY ZX:Loc}{ρ:Option (Value×V)}{h:Heap}{n:Nat}
noncomputable def oG(slice:Expr):Prop:=∀o i,subscripted slice false o i=operate [o,i] (getItem o i)
theorem o9{ts:List T}{v:Value}(i:S.In w h)(x:R ZV w C S v (.list ts)):∃a vs,v= .ref a∧h.IsList a vs.toArray∧RA ZV w C S vs ts:=by
 cases x using R.listE with
 |list ho r=>exact⟨_,_,rfl,⟨_,i.o _ _ ho,rfl,_,rfl⟩,r⟩
theorem uK{ts:List T}{v:Value}(i:S.In w h)(x:R ZV w C S v (.tup ts)):∃a vs,v= .ref a∧IsTup h a vs.toArray∧RA ZV w C S vs ts:=by
 cases x using R.tupE with
 |tup ho r=>exact⟨_,_,rfl,⟨_,i.o _ _ ho,rfl,_,rfl⟩,r⟩
noncomputable def wz(ts:List T)(k:Int):Option T:=if 0≤k then ts[k.toNat]? else if -(ts.length:Int)≤k then ts[(k+ts.length).toNat]? else none
theorem ka{v i:Expr}{pos:Pos}{a b c:T}(x:EvT ZV w C hb n ZU pv v σ ZZ a)(y:EvT ZV w C hb n ZU pv i ZZ ZY b)
  (f:∀(A:Around)(E:Value→Shared→Prop)(S:Sh)(s:Shared)(va vb:Value)(Q:Value→Shared→Prop),Rm n A→S.In w s.heap→R ZV w C S va a→R ZV w C S vb b→(∀tk u,R ZV w C S u c→Q u {s with toks:=tk})→wpAny (model ZV w) A (subscriptTail v i va vb) Q E s) :
  EvT ZV w C hb n ZU pv (.Subscript v i pos) σ ZY c:=λA E S g m s Q rm ok r k=>
 Subscript_ (x A E S g m s _ rm ok r λS' h' tk va e r' q=>y A E S' g m _ _ rm ok r' λS'' h'' tk' vb e' r'' q'=>
  f A E S'' _ va vb _ rm r''.st (q.mono e'.le) q' λtk'' u q''=>k S'' h'' tk'' u (e.trans e') r'' q'')
theorem uE{v i:Expr}{A:Around}{E:Value→Shared→Prop}{s:Shared}{va vb:Value}{Q:Value→Shared→Prop}{ts:List T}{k:Int}{t:T}(hs:oG i)(hk:wz ts k=some t)(hlo: -(2 ^ 62)≤k)(hhi:k < 2 ^ 62)
  (st:S.In w s.heap) (p:R ZV w C S va (.list ts)) (q:R ZV w C S vb (.int k)) (kk:∀tk u,R ZV w C S u t→Q u {s with toks:=tk}):wpAny (model ZV w) A (subscriptTail v i va vb) Q E s:=by
 obtain⟨a,vs,rfl,hl,r⟩:=o9 st p
 cases q using R.intE
 have hlen:=r.length
 unfold wz at hk
 refine tail_any hl.typeIs slot_list_getitem.lookup ?_ (hs _ _)
 split at hk
 ·rename_i h0
  obtain⟨u,hu,ru⟩:=r.get hk
  exact wpAny_getItem_list hl h0 (by(apply zF;assumption;decide)) (by simpa using hu) (kk s.toks u ru)
 ·split at hk
  ·rename_i h0 h1
   obtain⟨u,hu,ru⟩:=r.get hk
   refine wpAny_getItem_list_neg hl (Int.not_le.mp h0) ?_ (vQ (by assumption)) ?_ (kk s.toks u ru)
   ·simp only[List.size_toArray,hlen];exact h1
   ·simpa[hlen]using hu
  ·cases hk
theorem yg{v i:Expr}{A:Around}{E:Value→Shared→Prop}{s:Shared}{va vb:Value}{Q:Value→Shared→Prop}{ts:List T}{k:Nat}{t:T}(hs:oG i)(hk:ts[k]?=some t)(hhi:k < 4096)
  (st:S.In w s.heap) (p:R ZV w C S va (.tup ts)) (q:R ZV w C S vb (.int (k:Int))) (kk:∀tk u,R ZV w C S u t→Q u {s with toks:=tk}):wpAny (model ZV w) A (subscriptTail v i va vb) Q E s:=by
 obtain⟨a,vs,rfl,hl,r⟩:=uK st p
 cases q using R.intE
 obtain⟨u,hu,ru⟩:=r.get hk
 have hlt:k < vs.length:=(List.getElem?_eq_some_iff.mp hu).1
 refine item_tupleT hl (jF (by decide)) (dS hhi (by decide)) (j:=k) ?_ hu (kk s.toks u ru) (hs _ _)
 unfold seqIndex?
 simp only[show¬ ((k:Int) < 0)from Int.not_lt.mpr (Int.natCast_nonneg k)]
 simp[hlt]
theorem yz{v i:Expr}{A:Around}{E:Value→Shared→Prop}{s:Shared}{va vb:Value}{Q:Value→Shared→Prop}{x:Str}{k:Int}{c:Nat}(hs:oG i)(hk:(seqIndex? k x.length).bind (x.cps[·]?)=some c)(hlo: -(2 ^ 62)≤k)(hhi:k < 2 ^ 62)
  (p:R ZV w C S va (.str x)) (q:R ZV w C S vb (.int k)) (kk:∀tk u,R ZV w C S u (.str ⟨#[c]⟩)→Q u {s with toks:=tk}):wpAny (model ZV w) A (subscriptTail v i va vb) Q E s:=by
 cases p using R.strE with
 |str t=>
 cases q using R.intE with
 |int u=>
 refine tail_any (T:="str") (typeIs_str s x t) slot_str_getitem.lookup ?_ (hs _ _)
 exact getItem_str (by rw[decide_eq_false (Int.not_lt.mpr (vQ (by assumption))),decide_eq_false (Int.not_le.mpr (DL (by assumption)))];rfl) hk (kk _ _ (.str _ _))
theorem iL(kvs:List (Str×Value)):∀{x:Str}{j:Nat}{u:Value},(kvs.map (·.1)).findIdx? (·=x)=some j→(kvs.map (·.2))[j]?=some u→valueAt kvs x=some u:=by
 induction kvs with
 |nil=>
  intro _ _ _ hk _
  simp at hk
 |cons p rest ih=>
  obtain⟨k',v'⟩:=p
  intro x j u hk hu
  simp only[List.map_cons,List.findIdx?_cons]at hk
  unfold valueAt
  by_cases e:k'=x
  ·subst e
   simp only[decide_true,if_true,Option.some.injEq]at hk
   subst hk
   simp only[List.map_cons,List.getElem?_cons_zero,Option.some.injEq]at hu
   simp[hu]
  ·simp only[decide_eq_false e,Bool.false_eq_true,if_false,Option.map_eq_some_iff]at hk
   obtain⟨j',hj,rfl⟩:=hk
   have ih:=ih hj (by simpa using hu)
   unfold valueAt at ih
   simp only[List.find?_cons,decide_eq_false e]
   exact ih
theorem u4{v i:Expr}{A:Around}{E:Value→Shared→Prop}{s:Shared}{va vb:Value}{Q:Value→Shared→Prop}{ks:List Str}{ts:List T}{x:Str}{j:Nat}{t:T}(hs:oG i)(hk:ks.findIdx? (·=x)=some j)(ht:ts[j]?=some t)
  (st:S.In w s.heap) (p:R ZV w C S va (.dict ks ts)) (q:R ZV w C S vb (.str x)) (kk:∀tk u,R ZV w C S u t→Q u {s with toks:=tk}):wpAny (model ZV w) A (subscriptTail v i va vb) Q E s:=by
 cases q using R.strE with
 |str u=>
 cases p using R.dictE with
 |@dict a o kvs ho hd hs' r=>
  have hdo:s.heap.DictOf (PySem.strKind ZV w) a kvs:=Heap.dictOf_iff.mpr ⟨o,st.o _ _ ho,hd⟩
  obtain⟨u',hu,ru⟩:=r.get ht
  have hv:valueAt kvs x=some u':=iL kvs hk hu
  refine tail_any hdo.mapOf.typeIs slot_dict_getitem.lookup ?_ (hs _ _)
  exact wpAny_getItem_of (strKind_is ZV w x u) hdo.mapOf hv (kk _ _ ru)
end
section
variable{ZV:Program}{w:World}{C:Addr}{hb:Heap}{ZU:Env}{pv:List Addr}{S g:Sh}{m:Str→Option Value}{σ σ' ZZ ZY ZX:Loc}{ρ:Option (Value×V)}{h:Heap}{n:Nat}{K:Frag}{mg mb:Str→Option Value}{fI:Addr}
structure ClsOk(K:Frag)(C fI:Addr):Prop where
 get:plainGet K C (Str.ofString "kind")=true
 hd:hasDictIn K C=true
 at_:∀x∈dX,findIn K (.ref C) x=some none
 mks:makesIn K C=true
 ini:findIn K (.ref C) "__init__"=some (some (.ref fI))
 fIt:typeIn K (.ref fI)=some (.type "function")
 sa:findIn K (.ref C) "__setattr__"=some (some (.builtin "object.__setattr__"))
 po:plainOver K C=true
 tk:∀x∈dX,takerIn K C x=some none
structure Gl(K:Frag)(C fI:Addr)(mg mb:Str→Option Value)(hb:Heap):Prop where
 kin:K.In hb
 g:hb.Ns mainGlobals mg
 b:hb.Ns builtinsNs mb
 lim:hb.NoLimit
 sys:∃o,hb.get? sysModules=some o
 cls:ClsOk K C fI
theorem Rel.hbIn(r:Rel ZV w C hb ZU pv S g m σ ρ h):∀a x,hb.get? a=some x→h.get? a=some x:=λa x e=>r.st.o _ _ (r.base a x e)
theorem R.handed{v:Value}{t:T}(r:R ZV w C S v t):handedIn v=true:=by cases r<;>rfl
theorem EntOk.consE{es:List DictEntry}{k:Str}{ks:List Str}{v:Value}{vs:List Value}(x:EntOk w es (k ::ks) (v ::vs)):∃t es',es=⟨PyData.keyHash w.params k,.str k t,v⟩ ::es'∧EntOk w es' ks vs:=by
 cases x with|cons _ t _ x=>exact⟨t,_,rfl,x⟩
theorem EntOk.nilE{es:List DictEntry}(x:EntOk w es [] []):es=[]:=by
 cases x;rfl
theorem AD{es:List DictEntry}{a b c d e:Value}(x:EntOk w es dX [a,b,c,d,e]):∃t1 t2 t3 t4 t5,es=[⟨PyData.keyHash w.params "kind",.str "kind" t1,a⟩,⟨PyData.keyHash w.params "items",.str "items" t2,b⟩,⟨PyData.keyHash w.params "attrs",.str "attrs" t3,c⟩,⟨PyData.keyHash w.params "shared",.str "shared" t4,d⟩,⟨PyData.keyHash w.params "loose",.str "loose" t5,e⟩]:=by
 obtain⟨t1,_,rfl,x1⟩:=EntOk.consE x
 clear x
 obtain⟨t2,_,rfl,x2⟩:=EntOk.consE x1
 clear x1
 obtain⟨t3,_,rfl,x3⟩:=EntOk.consE x2
 clear x2
 obtain⟨t4,_,rfl,x4⟩:=EntOk.consE x3
 clear x3
 obtain⟨t5,_,rfl,x5⟩:=EntOk.consE x4
 clear x4
 rw[EntOk.nilE x5]
 exact⟨t1,t2,t3,t4,t5,rfl⟩
inductive Fld:Str→T→T→T→T→Prop
 |kind {k i a:T}:Fld "kind" k i a k
 |items {k i a:T}:Fld "items" k i a i
 |attrs {k i a:T}:Fld "attrs" k i a a
theorem kD{A:Around}{E:Value→Shared→Prop}{s:Shared}{x:Addr}{d:Addr}{es:List DictEntry}{nn:Nat}{nm:Str}{v:Value}{expr:Bool}{Q:Value→Shared→Prop}(c:ClsOk K C fI)(X:K.In s.heap)
  (hx:s.heap.get? x=some (instObj C d)) (hd:s.heap.get? d=some (dictOf es nn)) (hn:nm∈dX) (hl:getL nm es=some (some v)) (hv:handedIn v=true) (q:Q v {s with toks:=s.toks+1}) :
  wpAny (model ZV w) A (getAttr (.ref x) nm expr) Q E s:=by
 have I:InstAt s.heap x (instObj C d) C (some (dictOf es nn)):=⟨hx,rfl,rfl,hd⟩
 exact get_value X I (plainGet_of (name:="kind") c.get).1 (findObj_own c.hd (c.at_ _ hn) rfl hl) hv q
theorem kr{e:Expr}{nm:Str}{pos:Pos}{k i a t:T}(gl:Gl K C fI mg mb hb)(x:EvT ZV w C hb n ZU pv e σ ZZ (.vec k i a))(f:Fld nm k i a t)
  (he:∀ZU,eval (.Attribute e nm pos) ZU=(do let o ←eval e ZU;standAt pos.atName;let r ←holding [o] (getAttr o nm true);letTemporaryGo e o r;pure r)) :
  EvT ZV w C hb n ZU pv (.Attribute e nm pos) σ ZZ t:=λA E S g m s Q rm ok r kk=>
 Attribute_any_ (x A E S g m s _ rm ok r λS' h' tk v e' r' q=>by
  cases q using R.vecE with
  |@vec x d vk vi va hx hd qk qi qa=>
   obtain⟨es,nn,vs,vl,hd',en⟩:=r'.st.v _ _ hd
   have X:K.In h':=gl.kin.keeps r'.hbIn
   obtain⟨t1,t2,t3,t4,t5,rfl⟩:=AD en
   have hx':=r'.st.o _ _ hx
   cases f with
   |kind=>exact kD (s:={s with heap:=h',toks:=tk}) gl.cls X hx' hd' (by decide) rfl qk.handed (kk S' h' _ _ e' r' qk)
   |items=>exact kD (s:={s with heap:=h',toks:=tk}) gl.cls X hx' hd' (by decide) rfl qi.handed (kk S' h' _ _ e' r' qi)
   |attrs=>exact kD (s:={s with heap:=h',toks:=tk}) gl.cls X hx' hd' (by decide) rfl qa.handed (kk S' h' _ _ e' r' qa)) (he ZU)
theorem lH(nm:Str)(a:Int)(k v:Value):∀es:List DictEntry,(putL nm a k v es).length≤es.length+1
 |[]=>by simp[putL]
 |e ::r=>by
  have:=lH nm a k v r
  simp only[putL]
  split<;>simp<;>omega
theorem g6{ox:Obj}{A:Around}{E:Value→Shared→Prop}{s:Shared}{x:Addr}{d:Addr}{es:List DictEntry}{nn:Nat}{nm:Str}{v:Value}{Q:Unit→Shared→Prop}(c:ClsOk K C fI)(X:K.In s.heap)
  (hx:s.heap.get? x=some ox) (hcl:ox.cls= .ref C) (hdd:ox.dict=some d) (hno:notCls ox=true) (hd:s.heap.get? d=some (dictOf es nn)) (hn:nm∈dX) (hl:(getL nm es).isSome=true) (hz:es.length≤900)
  (q:∀h',h'.get? d=some (dictOf (putL nm (PyData.keyHash w.params nm) (.str nm (s.toks+1)) v es) (putN nm es nn))→Heap.SameBut d s.heap h'→Q () {s with heap:=h',toks:=s.toks+1+1}) :
  wpAny (model ZV w) A (setAttr (.ref x) nm v) Q E s:=by
 have I:InstAt s.heap x ox C (some (dictOf es nn)):=⟨hx,hcl,hno,by rw[hdd];exact hd⟩
 refine set_plain X I c.sa (osa_open (s:={s with toks:=s.toks+1}) X I c.po (c.tk _ hn) λb=>?_)
 obtain⟨cd,hc,hd'⟩:=any_some c.hd
 have pn:=putName_dict nm (PyData.keyHash w.params nm) (.str nm (s.toks+1)) v es nn
 have D':(s.heap.update d (Obj.putName nm (PyData.keyHash w.params nm) (.str nm (s.toks+1)) v)).get? d=some (dictOf (putL nm (PyData.keyHash w.params nm) (.str nm (s.toks+1)) v es) (putN nm es nn)):=by
  rw[←pn];exact Heap.get?_update_self _ hd (by rw[pn];rfl)
 have hlen:(putL nm (PyData.keyHash w.params nm) (.str nm (s.toks+1)) v es).length≤es.length+1:=by
  exact lH _ _ _ _ es
 clear I
 obtain⟨oc,odi,oda,osl⟩:=ox
 dsimp only at hcl hdd
 subst hcl hdd
 refine wpAny_bind (wpAny_pure (wpAny_bind (wpAny_bind (wpAny_loadPart hx (wpAny_bind (Looks.at (looks_clsIn X hc) ?_))))))
 rw[hd']
 refine wpAny_pure (a:=some d) (wpAny_bind (wpAny_pure (wpAny_bind ?_)))
 unfold nsSet
 refine wpAny_bind (wpAny_bind (wpAny_askSetting (wpAny_pure (wpAny_bind (wpAny_mkText (wpAny_bind (wpAny_loadPart hd ?_)))))))
 dsimp only
 have c:(!es.any (·.key.isStr nm) && es.any (·.refKey))=false:=by
  unfold getL at hl
  split at hl
  ·rename_i en he
   rw[List.any_eq_true.mpr ⟨en,List.mem_of_find?_eq_some he,List.find?_some he⟩];rfl
  ·split at hl
   ·cases hl
   ·rename_i z;rw[Bool.not_eq_true]at z;rw[z,Bool.and_false]
 rw[aRefKeyMayBeTheName_at]
 simp only[List.any_toArray,c]
 refine wpAny_updatePart hd ?_
 refine wpAny_bind (wpAny_lookBehind D' (pastItsLine_dict (by rw[List.size_toArray,sizeLine_eq];exact ah (Nat.le_trans hlen (Nat.succ_le_succ (show es.length≤900 by assumption))) rfl)) ?_)
 exact wpAny_pure (q _ D' (Heap.SameBut.update ..))
end
section
variable{ZV:Program}{w:World}{C:Addr}{hb:Heap}{ZU:Env}{pv:List Addr}{S g:Sh}{m:Str→Option Value}{σ σ' ZZ ZY ZX:Loc}{ρ:Option (Value×V)}{h:Heap}{n:Nat}{K:Frag}{mg mb:Str→Option Value}{fI:Addr}
noncomputable def GN(mg mb:Str→Option Value)(ZU:Env)(x:Str)(v:Value):Prop:=ZU.kindOf x=some .globalImplicit∧(x == ("__debug__":Str))=false∧(mg x=some v∨(mg x=none∧mb x=some v))
theorem dq{A:Around}{E:Value→Shared→Prop}{s:Shared}{x:Str}{v:Value}{pos:Pos}{Q:Value→Shared→Prop}(gl:Gl K C fI mg mb hb)(ok:EnvOk ZU pv)(hh:∀a x,hb.get? a=some x→s.heap.get? a=some x)(gn:GN mg mb ZU x v)(q:Q v s):
  wpAny (model ZV w) A (eval (.Name x pos) ZU) Q E s:=by
 obtain⟨hk,hd,hv⟩:=gn
 have G:s.heap.Ns ZU.globals mg:=by rw[ok.glob];exact gl.g.keeps hh
 have B:s.heap.Ns ZU.builtins mb:=by rw[ok.blt];exact gl.b.keeps hh
 rcases hv with hv|⟨h1,h2⟩
 ·exact Calls.Name_function_global ok.kind hk (Calls.loadGlobal_global G hv q) hd
 ·exact Calls.Name_function_global ok.kind hk (Calls.loadGlobal_builtin G h1 B h2 q) hd
noncomputable def CallJ(ZV:Program)(w:World)(C:Addr)(hb:Heap)(n:Nat)(f:Value)(ts:List T)(a:V):Prop:=
 ∀(ZU:Env)(pv:List Addr)(A:Around)(E:Value→Shared→Prop)(S g:Sh)(m:Str→Option Value)(σ:Loc)(s:Shared)(vs:List Value)(Q:Value→Shared→Prop),Rm n A→EnvOk ZU pv→Rel ZV w C hb ZU pv S g m σ none s.heap→RA ZV w C S vs ts→
  (∀S' h' tk v,Ext w S g S' h'→Rel ZV w C hb ZU pv S' g m σ (some (v,a)) h'→Q v {s with heap:=h',toks:=tk})→wpAny (model ZV w) A (call f vs) Q E s
noncomputable def bq(ZV:Program)(w:World)(hb:Heap)(f:Value):Prop:=∀h:Heap,(∀a x,hb.get? a=some x→h.get? a=some x)→∃k,(k=Keeper.frame∨k=Keeper.machine∨k=Keeper.boundFrame)∧Looks (model ZV w) h (keeperOf f) k
theorem aM{id:String}:bq ZV w hb (.builtin id):=λh _=>⟨.machine,.inr (.inl rfl),Looks.of_pure rfl⟩
theorem bN{t:String}:bq ZV w hb (.type t):=λh _=>⟨.machine,.inr (.inl rfl),Looks.of_pure rfl⟩
theorem lG{a:Addr}{o:Obj}{fd:FuncData}(ho:hb.get? a=some o)(hd:o.data= .func fd):bq ZV w hb (.ref a):=λh k=>by
 refine⟨.frame,.inl rfl,?_⟩
 unfold keeperOf
 refine(Looks.ld (part:=none) (k _ _ ho)).andThen ?_
 rw[hd];exact .now
noncomputable def cn(es:List Expr):Prop:=(∃e r,es=e ::r∧∀ZU,starEach (e ::r) ZU=(false,eval e ZU) ::starEach r ZU)∧∀ZU pos,(backTo pos (starEach es ZU)).any (·.1)=false
theorem bb{A:Around}{E:Value→Shared→Prop}{s:Shared}{f:Value}{pos:Pos}{es:List Expr}{Q:Args→Shared→Prop}(he:∃e r,es=e ::r∧∀ZU,starEach (e ::r) ZU=(false,eval e ZU) ::starEach r ZU)
  (h:wpAny (model ZV w) A (spliced (backTo pos (starEach es ZU))) (λvs s'=>Q ⟨vs,[]⟩ s') E s):wpAny (model ZV w) A (evalArgs f true (backTo pos (starEach es ZU)) []) Q E s:=by
 obtain⟨e,r,rfl,he⟩:=he
 rw[he ZU]at h ⊢
 exact evalArgs_plain h
theorem xB{x:Str}{fv:Value}{p pos:Pos}{es:List Expr}{ts:List T}{a:V}(gl:Gl K C fI mg mb hb)(gn:GN mg mb ZU x fv)(ko:bq ZV w hb fv)(pl:cn es)(y:dK ZV w C hb n ZU pv es σ ZZ ts)
  (c:CallJ ZV w C hb n fv ts a):EvV ZV w C hb n ZU pv (.Call (.Name x p) es [] pos) σ ZZ a:=λA E S g m s Q rm ok r k=>
 wpAny_Call_NameR (dq gl ok r.hbIn gn (callWith_of (P:=λh=>∀a x,hb.get? a=some x→h.get? a=some x) (by simp only[pl.2 ZU pos,List.any_nil,Bool.or_false]) ko
  (bb pl.1 (y A E S g m s pos _ rm ok r λS' h' tk vs e r' q=>⟨r'.hbIn,c ZU pv A E S' g m ZZ _ vs Q rm ok r' q λS'' h'' tk' v e' r''=>k S'' h'' tk' v (e.trans e') r''⟩))))
theorem uZ{x:Str}{fv:Value}{p pos:Pos}{a:V}(gl:Gl K C fI mg mb hb)(gn:GN mg mb ZU x fv)(ko:bq ZV w hb fv)
  (c:CallJ ZV w C hb n fv [] a):EvV ZV w C hb n ZU pv (.Call (.Name x p) [] [] pos) σ σ a:=λA E S g m s Q rm ok r k=>
 wpAny_Call_NameR (dq gl ok r.hbIn gn (callWith_of (P:=λh=>∀a x,hb.get? a=some x→h.get? a=some x) rfl ko
  (evalArgs_nil3 ⟨r.hbIn,c ZU pv A E S g m σ s [] Q rm ok r .nil λS'' h'' tk' v e' r''=>k S'' h'' tk' v e' r''⟩)))
noncomputable def Pure1(ZV:Program)(w:World)(C:Addr)(f:Value)(ts:List T)(t:T):Prop:=
 ∀(A:Around)(E:Value→Shared→Prop)(S:Sh)(s:Shared)(vs:List Value)(Q:Value→Shared→Prop),Rm 0 A→S.In w s.heap→RA ZV w C S vs ts→(∀tk u,R ZV w C S u t→Q u {s with toks:=tk})→wpAny (model ZV w) A (call f vs) Q E s
theorem Pure1.call{f:Value}{ts:List T}{t:T}(x:Pure1 ZV w C f ts t):CallJ ZV w C hb n f ts (.f t):=λZU pv A E S g m σ s vs Q rm ok r q k=>
 x A E S s vs Q (rm.le (Nat.zero_le n)) r.st q λtk u qu=>k S s.heap tk u (Ext.tok r) (r.res qu)
theorem jN{vs:List Value}{t:T}(q:RA ZV w C S vs [t]):∃v,vs=[v]∧R ZV w C S v t:=by cases q using RA.consE with|cons a b=>cases b;exact⟨_,rfl,a⟩
theorem yb{vs:List Value}{t u:T}(q:RA ZV w C S vs [t,u]):∃v x,vs=[v,x]∧R ZV w C S v t∧R ZV w C S x u:=by cases q using RA.consE with|cons a b=>obtain⟨x,rfl,y⟩:=jN b;exact⟨_,_,rfl,a,y⟩
theorem ra3{vs:List Value}{t u z:T}(q:RA ZV w C S vs [t,u,z]):∃v x y,vs=[v,x,y]∧R ZV w C S v t∧R ZV w C S x u∧R ZV w C S y z:=by cases q using RA.consE with|cons a b=>obtain⟨x,y,rfl,c,d⟩:=yb b;exact⟨_,_,_,rfl,a,c,d⟩
theorem nj{ts:List T}(hn:ts.length < 16777216):Pure1 ZV w C (.builtin "len") [.list ts] (.int ts.length):=λA E S s vs Q rm st q k=>by
 obtain⟨v,rfl,x⟩:=jN q
 obtain⟨a,us,rfl,hl,r⟩:=o9 st x
 have:=r.length
 refine len_list hl (by rw[List.size_toArray,this];exact dS hn (by decide)) ?_
 simp only[List.size_toArray,this]
 exact k _ _ (.int _ _)
theorem rH{ts:List T}(hn:ts.length < 16777216):Pure1 ZV w C (.builtin "len") [.tup ts] (.int ts.length):=λA E S s vs Q rm st q k=>by
 obtain⟨v,rfl,x⟩:=jN q
 obtain⟨a,us,rfl,hl,r⟩:=uK st x
 have:=r.length
 refine len_tuple hl (by rw[List.size_toArray,this];exact dS hn (by decide)) ?_
 simp only[List.size_toArray,this]
 exact k _ _ (.int _ _)
theorem sy{x:Str}(hn:x.length < 16777216):Pure1 ZV w C (.builtin "len") [.str x] (.int x.length):=λA E S s vs Q rm st q k=>by
 obtain⟨v,rfl,y⟩:=jN q
 cases y using R.strE
 exact PySem.P.len_str (Int.not_le.mpr (dS hn (by decide))) (k _ _ (.int _ _))
theorem DA{i:Int}:Pure1 ZV w C (.builtin "abs") [.int i] (.int (if i < 0 then -i else i)):=λA E S s vs Q rm st q k=>by
 obtain⟨v,rfl,y⟩:=jN q
 cases y using R.intE
 exact call_abs_int λu tk=>k _ _ (.int _ _)
theorem mP{ts:List T}(hn:ts.length≤16777216):CallJ ZV w C hb n (.type "list") [.list ts] (.ol ts):=λZU pv A E S g m σ s vs Q rm ok r q k=>by
 obtain⟨v,rfl,x⟩:=jN q
 cases x using R.listE with
 |@list a us n' ho ra=>
  have hc:(lO us n').cls= .type "list":=rfl
  have hd:(lO us n').data= .seq us.toArray n':=rfl
  have ho':=r.st.o _ _ ho
  refine call_list_seq a (T:="list") (.inl rfl) ho' hc hd (λh' c' kp new=>?_) (by rw[List.size_toArray];exact ii ra hn)
  have e:Ext w S (bH S s.heap) S h':=⟨.refl S,⟨λa x q=>kp _ _ (r.st.o _ _ q),λd x q=>(r.st.v _ _ q).keeps (kp d),r.st.dis⟩,
   ⟨λa x q=>kp _ _ ((aJ r.st).o _ _ q),λd x q=>((aJ r.st).v _ _ q).keeps (kp d),(aJ r.st).dis⟩,λb _ x=>x⟩
  obtain⟨r',e'⟩:=r.step e
  refine k S h' s.toks _ e' {r' with slots:=Own.add (k:=none) (fp₀:=[s.heap.objs.size]) r.slots kp (.ol (n:=c') new ra) (λb hb=>?_) r.st r.kp (λb hb=>(r.priv b hb).1) λi v' a' x=>slot_none x}
  rw[List.mem_singleton.mp hb]
  cases q:s.heap.get? s.heap.objs.size with
  |none=>rfl
  |some o'=>exact absurd (Heap.lt_size q) (Nat.lt_irrefl _)
end
section
variable{ZV:Program}{w:World}{C:Addr}{hb:Heap}{ZU:Env}{pv:List Addr}{S g:Sh}{m:Str→Option Value}{σ σ' ZZ ZY ZX:Loc}{ρ:Option (Value×V)}{h:Heap}{n:Nat}{K:Frag}{mg mb:Str→Option Value}{fI:Addr}
theorem fM(kd:Str→Option NameKind):∀(bs:List (Str×Value))(m:Str→Option Value)(x:Str),(bs.map (·.1)).Nodup→kd x=some .local→bindL kd bs m x=(bs.lookup x).or (m x)
 |[],m,x,_,_=>by simp[bindL]
 |(y,v) ::r,m,x,hn,hk=>by
  simp only[List.map_cons,List.nodup_cons]at hn
  rw[bindL,fM kd r _ x hn.2 hk]
  by_cases e:x=y
  ·subst e
   have:r.lookup x=none:=by
    cases q:r.lookup x with
    |none=>rfl
    |some u=>exact absurd (List.mem_map_of_mem (f:=(·.1)) (mem_of_lookup q)) hn.1
   simp[List.lookup_cons,this,hk]
  ·have e':(x == y)=false:=by simpa using e
   simp only[List.lookup_cons,e']
   split<;>simp[e]
theorem lw(kd:Str→Option NameKind):∀(bs:List (Str×Value))(m:Str→Option Value)(x:Str),(bs.map (·.1)).Nodup→kd x≠some .local→bindC kd bs m x=(bs.lookup x).or (m x)
 |[],m,x,_,_=>by simp[bindC]
 |(y,v) ::r,m,x,hn,hk=>by
  simp only[List.map_cons,List.nodup_cons]at hn
  rw[bindC,lw kd r _ x hn.2 hk]
  by_cases e:x=y
  ·subst e
   have:r.lookup x=none:=by
    cases q:r.lookup x with
    |none=>rfl
    |some u=>exact absurd (List.mem_map_of_mem (f:=(·.1)) (mem_of_lookup q)) hn.1
   simp[List.lookup_cons,this,hk]
  ·have e':(x == y)=false:=by simpa using e
   simp only[List.lookup_cons,e']
   split<;>simp[e]
theorem dY{names:List Str}:∀{vs:List Value}{ts:List T}{x:Str}{a:V},RA ZV w C S vs ts→(names.zip (ts.map V.f)).lookup x=some a→∃v t,(names.zip vs).lookup x=some v∧a= .f t∧R ZV w C S v t:=by
 induction names with
 |nil=>intro _ _ _ _ _ e;cases e
 |cons y names ih=>
  intro vs ts x a q e
  cases q with
  |nil=>cases e
  |@cons v vs t ts p q=>
   simp only[List.map_cons,List.zip_cons_cons,List.lookup_cons]at e ⊢
   cases hxy:x == y with
   |true=>rw[hxy]at e;cases e;exact⟨v,t,rfl,rfl,p⟩
   |false=>rw[hxy]at e;exact ih q e
theorem cO:∀{names:List Str}{vs:List Value},names.length=vs.length→(names.zip vs).map (·.1)=names
 |[],_,_=>by simp
 |_ ::_,[],e=>by simp at e
 |y ::r,v ::vs,e=>by simp[cO (names:=r) (vs:=vs) (by simpa using e)]
theorem cellsFrom_mem:∀(names:List (Str×NameKind))(k:Nat)(acc:List (Str×Addr)){x:Str}{c:Addr},(x,c)∈cellsFrom k names acc→(x,c)∈acc∨(x,NameKind.cell)∈names
 |[],_,_,_,_,h=>.inl h
 |(y,kd) ::r,k,acc,x,c,h=>by
  unfold cellsFrom at h
  split at h
  ·rename_i hk
   rcases cellsFrom_mem r _ _ h with h|h
   ·rcases List.mem_cons.mp h with e|h
    ·cases e;exact .inr (by rw[←beq_iff_eq.mp hk];exact .head _)
    ·exact .inl h
   ·exact .inr (.tail _ h)
  ·exact(cellsFrom_mem r _ _ h).imp id (.tail _)
theorem dR{α:Type}:∀{l:List (Str×α)}{y:Str}{c:α},(y,c)∈l→∃d,l.lookup y=some d
 |(z,d) ::r,y,c,h=>by
  by_cases e:y=z
  ·subst e;exact⟨d,by simp⟩
  ·have:(y == z)=false:=by simpa using e
   simp only[List.lookup_cons,this]
   rcases List.mem_cons.mp h with q|q
   ·cases q;exact absurd rfl e
   ·exact dR q
theorem lU{names:List (Str×NameKind)}(hn:(names.map (·.1)).Nodup){x:Str}{k k':NameKind}(a:names.lookup x=some k)(b:(x,k')∈names):k=k':=by
 induction names with
 |nil=>cases b
 |cons p r ih=>
  obtain⟨y,ky⟩:=p
  simp only[List.map_cons,List.nodup_cons]at hn
  rw[List.lookup_cons]at a
  rcases List.mem_cons.mp b with e|b
  ·cases e
   simp at a;exact a.symm
  ·cases hxy:x == y with
   |true=>exact absurd (beq_iff_eq.mp hxy ▸ List.mem_map_of_mem (f:=(·.1)) b) hn.1
   |false=>rw[hxy]at a;exact ih hn.2 a b
open Classical in
noncomputable def fm(q:Nat→Addr)(x:Str):Option Value:=if h:∃i,x=ghost i then some (.ref (q h.choose))else none
theorem cL(q:Nat→Addr)(i:Nat):fm q (ghost i)=some (.ref (q i)):=by
 have h:∃j,ghost i=ghost j:=⟨i,rfl⟩
 unfold fm
 rw[dif_pos h,←jG h.choose_spec]
theorem jV(q:Nat→Addr){x:Str}(h:∀i,x≠ghost i):fm q x=none:=by
 unfold fm
 rw[dif_neg (fun⟨i,e⟩=>h i e)]
structure FnAt(hb:Heap)(f:Addr)(fd:FuncData)(names:List Str)(body:List Stmt):Prop where
 obj:∃o,hb.get? f=some o∧o.data= .func fd
 body:fd.body= .stmts body
 cd:hb.CodeRec fd.code fd.qualname
 clo:fd.closure=[]
 glob:fd.globals=mainGlobals
 blt:fd.builtins=builtinsNs
 co:fd.scope.isCoroutine=false
 gen:fd.scope.isGenerator=false
 kind:fd.scope.kind= .function
 nd:(fd.scope.names.map (·.1)).Nodup
 pnd:names.Nodup
 gk:∀i,fd.scope.names.lookup (ghost i)=none
 nofr:∀x,fd.scope.names.lookup x≠some .free
 par:∀x∈names,fd.scope.names.lookup x=some .local∨fd.scope.names.lookup x=some .cell
theorem Rel.setres{S':Sh}{h':Heap}{v:Value}{a:V}(r:Rel ZV w C hb ZU pv S g m σ none h)(e:Ext w S (bH S h) S' h')(q:MS ZV w C S' (bH S h) h' v a):
  Ext w S g S' h'∧Rel ZV w C hb ZU pv S' g m σ (some (v,a)) h':=by
 obtain⟨r',e'⟩:=r.step e
 obtain⟨fp₀,ok,off⟩:=q
 obtain⟨fp,a1,a2⟩:=r.slots
 have nw:∀b∈fp₀,h.get? b=none:=λb hb=>by
  cases z:h.get? b with
  |none=>rfl
  |some o=>exact absurd (bM z) (off b hb).2
 refine⟨e',{r' with slots:=?_}⟩
 obtain⟨fp',b1,b2⟩:=r'.slots
 have keepold:∀i u b,Slot m σ none i u b→∀c∈fp i,∃o,h.get? c=some o:=λi u b x c hc=>(a1 i u b x).1.get c hc
 have old:Own ZV w C S' g pv h' (Slot m σ none):=⟨fp,λi u b x=>by
   obtain⟨ok',c⟩:=a1 i u b x
   refine⟨ok'.keeps e.le λz hz o ho=>e.kp.o z o (by simp only[bH,if_pos (Sh.not_v (c z hz).1)];exact ho),λz hz=>⟨λhs=>?_,(c z hz).2⟩⟩
   obtain⟨o,ho⟩:=ok'.get z hz
   exact(c z hz).1 (e.nw z (bM ho) hs),a2⟩
 refine⟨λi=>if i=none then fp₀ else fp i,λi u b x=>?_,λi j u b u' b' n x y c hc=>?_⟩
 ·rcases slot_none x with⟨rfl,rfl,rfl⟩|⟨hn,x⟩
  ·simp only[if_true]
   refine⟨ok,λc hc=>⟨(off c hc).1,λhg=>?_,λhp=>?_⟩⟩
   ·obtain⟨o,ho⟩:=In.get r.kp hg;rw[nw c hc]at ho;cases ho
   ·obtain⟨o,ho⟩:=(r.priv c hp).1;rw[nw c hc]at ho;cases ho
  ·simp only[if_neg hn]
   obtain⟨ok',c⟩:=a1 i u b x
   refine⟨ok'.keeps e.le λz hz o ho=>e.kp.o z o (by simp only[bH,if_pos (Sh.not_v (c z hz).1)];exact ho),λz hz=>⟨λhs=>?_,(c z hz).2⟩⟩
   obtain⟨o,ho⟩:=ok'.get z hz
   exact(c z hz).1 (e.nw z (bM ho) hs)
 ·rcases slot_none x with⟨hi,hu,hb'⟩|⟨n1,x'⟩
  ·simp only[if_pos hi]at hc
   rcases slot_none y with⟨hj,_,_⟩|⟨n2,y'⟩
   ·exact absurd (hi.trans hj.symm) n
   ·simp only[if_neg n2]
    intro z
    obtain⟨o,ho⟩:=keepold j u' b' y' c z
    rw[nw c hc]at ho;cases ho
  ·simp only[if_neg n1]at hc
   rcases slot_none y with⟨hj,_,_⟩|⟨n2,y'⟩
   ·simp only[if_pos hj]
    intro z
    obtain⟨o,ho⟩:=keepold i u b x' c hc
    rw[nw c z]at ho;cases ho
   ·simp only[if_neg n2]
    exact a2 i j u b u' b' n x' y' c hc
noncomputable def O.back:O→V
 |.rt a _=>a
 |_=>.f .none
noncomputable def E5(ZV:Program)(w:World)(C:Addr)(hb:Heap)(n:Nat)(fd:FuncData)(names:List Str)(body:List Stmt)(ts:List T)(o:O):Prop:=
 ∀(ZU:Env)(pv:List Addr),ZU.scope=fd.scope→EnvOk ZU pv→(∀x c,ZU.cells.lookup x=some c→c∈pv)→ExJ ZV w C hb n ZU pv body (names.zip (ts.map V.f)) o
theorem bZ{A:Around}{s:Shared}{Rr:Result→Shared→Prop}{a:Addr}{o:Obj}{fd:FuncData}{body:List Stmt}{vals:List Value}{binds:List (Str×Value)}
  (hroom:A.depth < recursionLimit) (ho:s.heap.get? a=some o) (hdata:o.data= .func fd) (hlim:s.heap.NoLimit) (hcd:s.heap.CodeRec fd.code fd.qualname)
  (hbody:fd.body= .stmts body) (hbind:BindsTo s fd ⟨vals,[]⟩ binds) (hclo:fd.closure=[])
  (hkind:∀x∈binds,fd.scope.names.lookup x.1=some .local∨(fd.scope.names.lookup x.1=some .cell∧((cellsFrom (s.heap.objs.size+1) fd.scope.names []).lookup x.1).isSome=true))
  (h:∀s₁,InCallC s (callEnvC fd s.heap.objs.size a).locals (bindL (callEnvC fd s.heap.objs.size a).kindOf binds λ_=>none) (callEnvC fd s.heap.objs.size a).cells
    (bindC (callEnvC fd s.heap.objs.size a).kindOf binds λ_=>none) s₁→
   wpAny (model ZV w) (A.deeper (callEnvC fd s.heap.objs.size a)) (execs body (callEnvC fd s.heap.objs.size a)) (λf s'=>Rr (.ok (.ret (match f with|.ret v=>v|_=>.none))) s')
    (λe s'=>wpAny (model ZV w) (A.deeper (callEnvC fd s.heap.objs.size a)) (leaving (callEnvC fd s.heap.objs.size a) e) (λ_ s''=>Rr (.error e) s'') (λe' s''=>Rr (.error e') s'') s') s₁)
  (hco:fd.scope.isCoroutine=false) (hgen:fd.scope.isGenerator=false) (hk:fd.scope.kind= .function):codeAny (model ZV w) A (.call (.ref a) ⟨vals,[]⟩) Rr s:=by
 refine codeAny_call_function hroom ho hdata hco hgen hbody hcd (hbind _ _ _ _ ?_)
 rw[hclo]
 refine wpAny_newFunctionEnv_cells hk hkind λZU he s' x=>?_
 subst he
 exact⟨hlim.keeps x.toInCall.keep,codeAny_func (h s' x)⟩
section
variable{s s₁:Shared}
noncomputable abbrev hV(fd:FuncData)(n:Nat)(f:Addr):List Addr:=n ::(fd.scope.names.map (·.1)).filterMap (λx=>(callEnvC fd n f).cells.lookup x)
theorem hG{f:Addr}{fd:FuncData}{names:List Str}{body:List Stmt}{vs:List Value}(F:FnAt hb f fd names body)(hlv:names.length=vs.length)(qq:Nat→Addr)
  (ic:InCallC s (callEnvC fd s.heap.objs.size f).locals (bindL (callEnvC fd s.heap.objs.size f).kindOf (names.zip vs) λ_=>none) (callEnvC fd s.heap.objs.size f).cells (bindC (callEnvC fd s.heap.objs.size f).kindOf (names.zip vs) λ_=>none) s₁) :
  EnvOk (callEnvC fd s.heap.objs.size f) (hV fd s.heap.objs.size f)∧VarsAt (callEnvC fd s.heap.objs.size f) s₁.heap (λx=>((names.zip vs).lookup x).or (fm qq x))∧
   (∀b∈hV fd s.heap.objs.size f,s.heap.get? b=none∧∃o,s₁.heap.get? b=some o)∧(∀x c,(callEnvC fd s.heap.objs.size f).cells.lookup x=some c→c∈hV fd s.heap.objs.size f)∧
   (∀x c,(callEnvC fd s.heap.objs.size f).cells.lookup x=some c→fd.scope.names.lookup x=some .cell):=by
 have keys:=cO hlv
 have fresh:∀b,s.heap.objs.size≤b→s.heap.get? b=none:=λb hb=>Heap.get?_none_of_le hb
 have hcel:∀x c,(callEnvC fd s.heap.objs.size f).cells.lookup x=some c→fd.scope.names.lookup x=some .cell:=λx c hx=>by
  rcases cellsFrom_mem _ _ _ (mem_of_lookup hx)with y|y
  ·cases y
  ·obtain⟨k',hk'⟩:=dR y
   have:=lU F.nd hk' y
   subst this
   exact hk'
 have cok:EnvOk (callEnvC fd s.heap.objs.size f) (hV fd s.heap.objs.size f):=by
  refine⟨F.kind,λx hx=>Option.isSome_iff_exists.mp (cellsFrom_some _ _ _ (.inl hx)),λx hx=>?_,λx y c hx hy=>name_of_addr ic.apart (mem_of_lookup hx) (mem_of_lookup hy),λx c hx=>(Nat.ne_of_lt (ic.above x c (mem_of_lookup hx))).symm,.head _,F.glob,F.blt,F.gk,λx hx=>absurd hx (F.nofr x)⟩
  cases z:(callEnvC fd s.heap.objs.size f).cells.lookup x with
  |none=>rfl
  |some c=>have:=hcel x c z;rw[show fd.scope.names.lookup x=some .local from hx]at this;cases this
 have offG:∀x k,(callEnvC fd s.heap.objs.size f).kindOf x=some k→∀i,x≠ghost i:=λx k hk i e=>by
  have:=F.gk i
  rw[←e]at this
  rw[show(callEnvC fd s.heap.objs.size f).kindOf x=fd.scope.names.lookup x from rfl,this]at hk
  cases hk
 refine⟨cok,⟨⟨_,ic.toInCall.ns,λx hx=>?_⟩,λx c hx=>?_⟩,λb hb=>?_,λx c hx=>.tail _ (List.mem_filterMap.mpr ⟨x,?_,hx⟩),hcel⟩
 ·rw[fM _ _ _ _ (by rw[keys];exact F.pnd) hx,jV _ (offG x _ hx)]
 ·have hcx:=hcel x c hx
  have:=ic.cell x c hx
  rw[lw _ _ _ _ (by rw[keys];exact F.pnd) (λe=>by rw[show fd.scope.names.lookup x=some .local from e]at hcx;cases hcx)]at this
  rw[jV _ (offG x _ hcx)]
  simpa using this
 ·rcases List.mem_cons.mp hb with rfl|hb
  ·obtain⟨o,_,_,ho,_⟩:=ic.toInCall.ns
   exact⟨fresh _ (Nat.le_refl _),o,ho⟩
  ·obtain⟨x,hx,hc⟩:=List.mem_filterMap.mp hb
   obtain⟨o,ho,_⟩:=ic.cell x b hc
   exact⟨fresh _ (Nat.le_of_lt (ic.above x b (mem_of_lookup hc))),o,ho⟩
 ·exact List.mem_map_of_mem (f:=(·.1)) (mem_of_lookup (hcel x c hx))
theorem FnAt.noGhost{f:Addr}{fd:FuncData}{names:List Str}{body:List Stmt}(F:FnAt hb f fd names body)(i:Nat):ghost i∉names:=λhm=>by
 have:=F.gk i
 rcases F.par _ hm with h|h<;>exact absurd (this.symm.trans h) (by simp)
theorem ma{a n c k m j:Nat}(h:a+k * (n+1)+c < m)(hj:j≤k):a+j+k * n+c < m:=by
 rw[Nat.mul_succ]at h
 rw[Nat.add_right_comm a,Nat.add_assoc a]
 exact Nat.lt_of_le_of_lt (Nat.add_le_add_right (Nat.add_le_add_left (Nat.add_le_add_left hj _) a) c) h
theorem Rm.deep{A:Around}(rm:Rm (n+1) A)(e:Env):Rm n (A.deeper e):=⟨rm.hh,ma rm.dp (by decide),ma rm.un (by decide)⟩
theorem vI{cenv:Env}{cpv:List Addr}{h₁:Heap}(st:S.In w h)(pvn:∀b∈cpv,h.get? b=none∧∃o,h₁.get? b=some o)(hL:cenv.locals∈cpv)(inpv:∀x c,cenv.cells.lookup x=some c→c∈cpv):∀b,(b=cenv.locals∨∃x,cenv.cells.lookup x=some b)→S.v b=none:=λb hb=>by
 have hn:=(pvn b (hb.elim (λe=>e ▸ hL) fun⟨x,hx⟩=>inpv x b hx)).1
 cases z:S.v b with
 |none=>rfl
 |some y=>obtain⟨o,ho⟩:=In.get st (Sh.has_v z);exact absurd (hn.symm.trans ho) (by simp)
theorem sr{cenv:Env}{cpv:List Addr}{names:List Str}{vs:List Value}{ts:List T}{h₁:Heap}(st:S.In w h)(base:∀a x,hb.get? a=some x→S.o a=some x)(q:RA ZV w C S vs ts)(hl:names.length=vs.length)(gn:∀i,ghost i∉names)
  (kp:∀b o,h.get? b=some o→h₁.get? b=some o) (va:VarsAt cenv h₁ (λx=>((names.zip vs).lookup x).or (fm S.q x))) (vis:∀b,(b=cenv.locals∨∃x,cenv.cells.lookup x=some b)→S.v b=none) (pvn:∀b∈cpv,h.get? b=none∧∃o,h₁.get? b=some o) :
  Rel ZV w C hb cenv cpv S (bH S h) (λx=>((names.zip vs).lookup x).or (fm S.q x)) (names.zip (ts.map V.f)) none h₁:=by
 have cin:=aJ st
 refine⟨⟨λa x e=>kp _ _ (st.o a x e),λd x e=>(st.v d x e).keeps (kp d),st.dis⟩,⟨λa x e=>kp _ _ (cin.o a x e),λd x e=>(cin.v d x e).keeps (kp d),cin.dis⟩,base,va,λd x e=>e,λd x e=>cin.dis d x e,vis,λb hb=>?_,λx a e=>?_,?_,λi=>?_⟩
 ·obtain⟨h1,h2⟩:=pvn b hb
  refine⟨h2,λz=>?_,λz=>?_⟩
  ·obtain⟨o,ho⟩:=In.get st z;exact absurd (h1.symm.trans ho) (by simp)
  ·obtain⟨o,ho⟩:=In.get cin z;exact absurd (h1.symm.trans ho) (by simp)
 ·obtain⟨v,t,hv,_,_⟩:=dY q e
  exact⟨v,by rw[hv];rfl⟩
 ·refine⟨λ_=>[],λi v a x=>?_,λ_ _ _ _ _ _ _ _ _ b hb=>nomatch hb⟩
  cases i with
  |none=>cases x
  |some y=>
   obtain⟨x1,x2⟩:=x
   obtain⟨v',t,hv,rfl,hr⟩:=dY q x1
   have x2:(List.lookup y (names.zip vs)).or (fm S.q y)=some v:=x2
   rw[hv]at x2
   cases x2
   exact⟨.f hr,λb hb=>nomatch hb⟩
 ·have:(names.zip vs).lookup (ghost i)=none:=by
   cases z:(names.zip vs).lookup (ghost i)with
   |none=>rfl
   |some u=>exact absurd (by rw[←cO hl];exact List.mem_map_of_mem (f:=(·.1)) (mem_of_lookup z)) (gn i)
  rw[this,Option.none_or]
  exact cL S.q i
end
theorem nC{f:Addr}{fd:FuncData}{names:List Str}{body:List Stmt}{ts:List T}{o:O}(gl:Gl K C fI mg mb hb)(F:FnAt hb f fd names body)(hl:ts.length=names.length)
  (B:E5 ZV w C hb n fd names body ts o) (ho:(∃a σ,o= .rt a σ)∨∃σ,o= .nx σ) {A:Around} {E:Value→Shared→Prop} {s:Shared} {vs vs₀:List Value} {Q:Value→Shared→Prop} (rm:Rm (n+1) A) (ok:EnvOk ZU pv) (r:Rel ZV w C hb ZU pv S g m σ none s.heap)
  (bnd:BindsTo s fd ⟨vs₀,[]⟩ (names.zip vs)) (q:RA ZV w C S vs ts) (k:∀S' h' tk v,Ext w S g S' h'→Rel ZV w C hb ZU pv S' g m σ (some (v,o.back)) h'→Q v {s with heap:=h',toks:=tk}):wpAny (model ZV w) A (call (.ref f) vs₀) Q E s:=by
 obtain⟨ob,hob,hd⟩:=F.obj
 have hlv:names.length=vs.length:=by rw[q.length,hl]
 refine wpAny_call (bZ (binds:=names.zip vs) (by have:=rm.dp;clear gl F bnd r k B;(apply oI;assumption)) (r.hbIn _ _ hob) hd (gl.lim.keeps r.hbIn) (F.cd.keeps r.hbIn) F.body bnd F.clo (λx hx=>?_) (λs₁ ic=>?_) F.co F.gen F.kind)
 ·have:x.1∈names:=by rw[←cO hlv];exact List.mem_map_of_mem hx
  exact(F.par _ this).imp id λe=>⟨e,cellsFrom_some _ _ _ (.inl e)⟩
 ·obtain⟨h₁,tk,rfl⟩:=ic.toInCall.same
  obtain⟨cok,va,pvn,inpv,_⟩:=hG F hlv S.q ic
  refine B _ _ rfl cok inpv _ _ S (bH S s.heap) _ _ _ (rm.deep _) cok (sr r.st r.base q hlv F.noGhost ic.toInCall.keep va (vI r.st pvn (.head _) inpv) pvn) ?_
  rcases ho with⟨a,ZZ,rfl⟩|⟨ZZ,rfl⟩
  ·intro S' h' tk' v m' e r₂
   obtain⟨fp,a1,a2⟩:=r₂.slots
   obtain⟨q,c⟩:=a1 none v a rfl
   obtain⟨e',r'⟩:=r.setres e ⟨_,q,λb hb=>⟨(c b hb).1,(c b hb).2.1⟩⟩
   exact k S' h' tk' v e' r'
  ·intro S' h' tk' m' e r'
   obtain⟨e',r''⟩:=r.setres (v:=.none) (a:=.f .none) e ⟨[],.f .none,λb hb=>nomatch hb⟩
   exact k S' h' tk' .none e' r''
end
section
variable{ZV:Program}{w:World}{C:Addr}{hb:Heap}{ZU:Env}{pv:List Addr}{S g:Sh}{m:Str→Option Value}{σ σ' ZZ ZY ZX:Loc}{ρ:Option (Value×V)}{h:Heap}{n:Nat}{K:Frag}{mg mb:Str→Option Value}{fI:Addr}
structure Iter(ZV:Program)(w:World)(C:Addr)(A:Around)(S:Sh)(I:Addr)(ts:List T)(fp:List Addr)(P:Nat→Value→Prop)(St:Nat→Heap→Prop):Prop where
 walk:Walks ZV w A I fp [I] ts.length P St
 ex:∀i h,St i h→∃o,h.get? I=some o
 item:∀i v,i < ts.length→P i v→∃t,ts[i]?=some t∧R ZV w C S v t
 fp:∀b∈fp,b=I∨∃o,S.o b=some o
noncomputable def Vis(ZU:Env)(b:Addr):Prop:=b=ZU.locals∨∃x,ZU.cells.lookup x=some b
noncomputable def r7(ZV:Program)(w:World)(C:Addr)(hb:Heap)(n:Nat)(ZU:Env)(pv:List Addr)(e:Expr)(σ σ':Loc)(ts:List T):Prop:=
 ∀(A:Around)(E:Value→Shared→Prop)(S g:Sh)(m:Str→Option Value)(s:Shared)(Q:Value→Shared→Prop),Rm n A→EnvOk ZU pv→Rel ZV w C hb ZU pv S g m σ none s.heap→
  (∀S' h' tk I o fp P St,Ext w S g S' h'→Rel ZV w C hb ZU pv S' (g.put I o) m σ' none h'→¬ g.has I→¬ S'.has I→(∀b,Vis ZU b→b≠I)→(∀A,A.handled=none→Iter ZV w C A S' I ts fp P St)→St 0 h'→Q (.ref I) {s with heap:=h',toks:=tk})→
  wpAny (model ZV w) A (eval e ZU) (λx s₁=>wpAny (model ZV w) A (pyIter x) Q E s₁) E s
theorem Rel.ungrip{I:Addr}{o:Obj}(r:Rel ZV w C hb ZU pv S (g.put I o) m σ ρ h)(ng:¬ g.has I):Rel ZV w C hb ZU pv S g m σ ρ h:=by
 have l:=aX (S:=g) (x:=o) ng
 have lo:∀b x,g.o b=some x→(g.put I o).o b=some x:=l.o
 refine {r with kp:=⟨λa x e=>r.kp.o a x (lo a x e),λd x e=>r.kp.v d x e,λd x e=>?_⟩,gS:=λd x e=>r.gS d x e,gd:=λd x e=>?_,priv:=λb e=>⟨(r.priv b e).1,(r.priv b e).2.1,λz=>(r.priv b e).2.2 (l.has z)⟩,slots:=?_}
 ·have q:=r.kp.dis d x e
  simp only[Sh.put]at q
  split at q
  ·cases q
  ·exact q
 ·have q:=r.gd d x e
  simp only[Sh.put]at q
  split at q
  ·cases q
  ·exact q
 ·obtain⟨fp,a1,a2⟩:=r.slots
  exact⟨fp,λi v a x=>⟨(a1 i v a x).1,λb hb=>⟨((a1 i v a x).2 b hb).1,λz=>((a1 i v a x).2 b hb).2.1 (l.has z),((a1 i v a x).2 b hb).2.2⟩⟩,a2⟩
theorem Rel.reput{I:Addr}{o o':Obj}{h':Heap}(r:Rel ZV w C hb ZU pv S (g.put I o) m σ ρ h)(ng:¬ g.has I)(nS:¬ S.has I)(kp:∀b x,b≠I→h.get? b=some x→h'.get? b=some x)(hI:h'.get? I=some o')(vz:∀b,Vis ZU b→b≠I):
  Rel ZV w C hb ZU pv S (g.put I o') m σ ρ h':=by
 have off:∀b,¬ (g.put I o).has b→b≠I:=λb z e=>z (by rw[e];exact Sh.has_o (x:=o) (by simp[Sh.put]))
 have hIp:I∉pv:=λz=>off I (r.priv I z).2.2 rfl
 have same:∀b,(g.put I o').has b↔(g.put I o).has b:=λb=>by
  unfold Sh.has Sh.put
  by_cases e:b=I<;>simp[e]
 refine⟨⟨λa x e=>kp a x (λz=>nS (z ▸ Sh.has_o e)) (r.st.o a x e),λd x e=>(r.st.v d x e).keeps λo ho=>kp d o (λz=>nS (z ▸ Sh.has_v e)) ho,r.st.dis⟩,⟨λa x e=>?_,λd x e=>(r.kp.v d x e).keeps λo ho=>kp d o (λz=>ng (z ▸ Sh.has_v (S:=g) e)) ho,λd x e=>?_⟩,r.base,r.vars.keeps λb hb o ho=>kp b o (vz b hb) ho,
  r.gS,λd x e=>?_,r.vis,λb e=>?_,r.known,?_,r.gho⟩
 ·simp only[Sh.put]at e
  split at e
  ·rename_i z;subst z;cases e;exact hI
  ·rename_i z
   exact kp a x z (r.kp.o a x (by simp only[Sh.put,if_neg z];exact e))
 ·have:=r.kp.dis d x e
  simp only[Sh.put]at this ⊢
  split at this
  ·cases this
  ·rename_i z;rw[if_neg z];exact this
 ·have:=r.gd d x e
  simp only[Sh.put]at this ⊢
  split at this
  ·cases this
  ·rename_i z;rw[if_neg z];exact this
 ·obtain⟨⟨x,hx⟩,c2,c3⟩:=r.priv b e
  exact⟨⟨x,kp b x (λz=>hIp (z ▸ e)) hx⟩,c2,λz=>c3 ((same b).mp z)⟩
 ·obtain⟨fp,a1,a2⟩:=r.slots
  exact⟨fp,λi v a x=>⟨(a1 i v a x).1.keeps (.refl S) λb hb y hy=>kp b y (off b ((a1 i v a x).2 b hb).2.1) hy,λb hb=>⟨((a1 i v a x).2 b hb).1,λz=>((a1 i v a x).2 b hb).2.1 ((same b).mp z),((a1 i v a x).2 b hb).2.2⟩⟩,a2⟩
theorem Rel.sub{σ':Loc}(r:Rel ZV w C hb ZU pv S g m σ ρ h)(hs:∀x a,σ'.lookup x=some a→σ.lookup x=some a):Rel ZV w C hb ZU pv S g m σ' ρ h:=
 {r with
  known:=λx a e=>r.known x a (hs x a e)
  slots:=r.slots.imp λi v a x=>match i,x with
   |none,x=>x
   |some y,x=>⟨hs y a x.1,x.2⟩}
theorem bW:∀(k:Nat)(σ:Loc)(x:Str)(a:V),(σ.take k).lookup x=some a→σ.lookup x=some a
 |0,_,_,_,e=>by simp at e
 |_+1,[],_,_,e=>by simp at e
 |k+1,(y,b) ::σ,x,a,e=>by
  simp only[List.take_succ_cons,List.lookup_cons]at e ⊢
  split at e
  ·exact e
  ·exact bW k σ x a e
noncomputable def LoopJ(ZV:Program)(w:World)(C:Addr)(hb:Heap)(n:Nat)(ZU:Env)(pv:List Addr)(x:Str)(body:List Stmt)(kk:Nat)(ts:List T):Loc→O→Prop:=
 List.rec (motive:=λ_=>Loc→O→Prop) (λσ o=>.nx σ=o) (λt _ ih σ o=>(∃ZZ,ExJ ZV w C hb n ZU pv body (σ.set x (.f t)) (.nx ZZ)∧ih (ZZ.take kk) o)∨(∃ZZ,ExJ ZV w C hb n ZU pv body (σ.set x (.f t)) (.ct ZZ)∧ih (ZZ.take kk) o)∨
  (∃ZZ,.nx (ZZ.take kk)=o∧ExJ ZV w C hb n ZU pv body (σ.set x (.f t)) (.bk ZZ))∨∃ZZ a,.rt a ZZ=o∧ExJ ZV w C hb n ZU pv body (σ.set x (.f t)) (.rt a ZZ)) ts
theorem Ext.ungrip{S S' g:Sh}{I:Addr}{o:Obj}{h':Heap}(e:Ext w S (g.put I o) S' h')(gi:g.In w h')(ng:¬ g.has I):Ext w S g S' h':=
 ⟨e.le,e.st,gi,λb hg hs=>e.nw b ((aX (x:=o) ng).has hg) hs⟩
end
section
variable{ZV:Program}{w:World}{C:Addr}{hb:Heap}{ZU:Env}{pv:List Addr}{S g:Sh}{m:Str→Option Value}{σ σ' ZZ ZY ZX:Loc}{ρ:Option (Value×V)}{h:Heap}{n:Nat}{K:Frag}{mg mb:Str→Option Value}{fI:Addr}
theorem fresh{h:Heap}{b:Addr}(hb:h.objs.size≤b):h.get? b=none:=by
 cases z:h.get? b with
 |none=>rfl
 |some o=>exact absurd (Heap.lt_size z) (Nat.not_lt.mpr hb)
theorem Rel.new{o:Obj}(r:Rel ZV w C hb ZU pv S g m σ ρ h):Ext w S g S (h.push o)∧Rel ZV w C hb ZU pv S g m σ ρ (h.push o):=by
 have kp:∀b x,h.get? b=some x→(h.push o).get? b=some x:=λb x e=>Heap.get?_push_of_some o e
 have e:Ext w S (bH S h) S (h.push o):=⟨.refl S,⟨λa x q=>kp _ _ (r.st.o _ _ q),λd x q=>(r.st.v _ _ q).keeps (kp d),r.st.dis⟩,
  ⟨λa x q=>kp _ _ ((aJ r.st).o _ _ q),λd x q=>((aJ r.st).v _ _ q).keeps (kp d),(aJ r.st).dis⟩,λb _ x=>x⟩
 obtain⟨r',e'⟩:=r.step e
 exact⟨e',r'⟩
theorem Rel.visHas(r:Rel ZV w C hb ZU pv S g m σ ρ h){b:Addr}(v:Vis ZU b):∃o,h.get? b=some o:=by
 rcases v with rfl|⟨x,hx⟩
 ·obtain⟨⟨ml,⟨o,es,ep,ho,_⟩,_⟩,_⟩:=r.vars;exact⟨o,ho⟩
 ·obtain⟨o,ho,_⟩:=r.vars.cell x b hx;exact⟨o,ho⟩
theorem Rel.grip{o:Obj}(r:Rel ZV w C hb ZU pv S g m σ ρ h)(hf:o.isFreed=false):
  Ext w S g S (h.push o)∧Rel ZV w C hb ZU pv S (g.put h.objs.size o) m σ ρ (h.push o)∧¬ g.has h.objs.size∧¬ S.has h.objs.size∧(∀b,Vis ZU b→b≠h.objs.size):=by
 obtain⟨e,r'⟩:=r.new (o:=o)
 have nw:=fresh (h:=h) (Nat.le_refl _)
 have nS:¬ S.has h.objs.size:=λz=>by obtain⟨y,hy⟩:=In.get r.st z;rw[nw]at hy;cases hy
 have ng:¬ g.has h.objs.size:=λz=>by obtain⟨y,hy⟩:=In.get r.kp z;rw[nw]at hy;cases hy
 refine⟨e,⟨r'.st,dO r'.kp ng (Heap.get?_push_size _ hf),r'.base,r'.vars,r'.gS,λd x q=>?_,r'.vis,λb q=>⟨(r'.priv b q).1,(r'.priv b q).2.1,λz=>?_⟩,r'.known,?_,r'.gho⟩,ng,nS,λb v z=>?_⟩
 ·simp only[Sh.put]
  split
  ·rename_i z;subst z;exact absurd (Sh.has_v q) nS
  ·exact r'.gd d x q
 ·rcases put_has z with rfl|z
  ·obtain⟨y,hy⟩:=(r.priv _ q).1;rw[nw]at hy;cases hy
  ·exact(r'.priv b q).2.2 z
 ·obtain⟨fp,a1,a2⟩:=r.slots
  refine⟨fp,λi v a x=>⟨(a1 i v a x).1.keeps (.refl S) λb _ o ho=>Heap.get?_push_of_some _ ho,λb hb=>⟨((a1 i v a x).2 b hb).1,λz=>?_,((a1 i v a x).2 b hb).2.2⟩⟩,a2⟩
  rcases put_has z with rfl|z
  ·obtain⟨y,hy⟩:=(a1 i v a x).1.get _ hb;rw[nw]at hy;cases hy
  ·exact((a1 i v a x).2 b hb).2.1 z
 ·obtain⟨y,hy⟩:=r.visHas v;rw[z,nw]at hy;cases hy
theorem x6{e:Expr}{ts:List T}(x:EvT ZV w C hb n ZU pv e σ ZZ (.list ts)):r7 ZV w C hb n ZU pv e σ ZZ ts:=λA E S g m s Q rm ok r k=>
 x A E S g m s _ rm ok r λS' h' tk v e' r' q=>by
  cases q using R.listE with
  |@list a vs nn ho ra=>
   have hc:(lO vs nn).cls= .type "list":=rfl
   have hd:(lO vs nn).data= .seq vs.toArray nn:=rfl
   have hl:h'.IsList a vs.toArray:=⟨_,r'.st.o _ _ ho,hc,_,hd⟩
   refine wpAny_pyIter_list (s:={s with heap:=h',toks:=tk}) hl ?_
   obtain⟨e'',r'',ng,nS,vz⟩:=r'.grip (o:={cls:=.type "list_iterator",data:=.fields #[.ref a,.int 0 0]}) rfl
   have hne:a≠h'.objs.size:=λz=>by have:=r'.st.o _ _ ho;rw[z,fresh (Nat.le_refl _)]at this;cases this
   have hlen:=ra.length
   refine k S' _ tk _ _ [h'.objs.size,a] _ _ (e'.trans e'') r'' ng nS vz (λA hh=>⟨hlen ▸ List.size_toArray (as:=vs) ▸ Walks.list hh h'.objs.size a hne vs.toArray,λi h st=>let⟨o,ho,_⟩:=st.1;⟨o,ho⟩,λi v _ hv=>ra.getV (by simpa using hv),λb hb=>?_⟩) ⟨⟨_,Heap.get?_push_size _ rfl,rfl,rfl⟩,⟨_,r''.st.o _ _ ho,hc,_,hd⟩⟩
   simp only[List.mem_cons,List.not_mem_nil,or_false]at hb
   rcases hb with rfl|rfl
   ·exact .inl rfl
   ·exact .inr ⟨_,ho⟩
theorem AL{e:Expr}{ts:List T}(x:EvT ZV w C hb n ZU pv e σ ZZ (.tup ts)):r7 ZV w C hb n ZU pv e σ ZZ ts:=λA E S g m s Q rm ok r k=>
 x A E S g m s _ rm ok r λS' h' tk v e' r' q=>by
  cases q using R.tupE with
  |@tup a vs nn ho ra=>
   have hc:(tO vs nn).cls= .type "tuple":=rfl
   have hd:(tO vs nn).data= .seq vs.toArray nn:=rfl
   have hl:h'.IsTuple a vs.toArray:=⟨_,r'.st.o _ _ ho,hc,_,hd⟩
   refine wpAny_pyIter_tuple (s:={s with heap:=h',toks:=tk}) hl ?_
   obtain⟨e'',r'',ng,nS,vz⟩:=r'.grip (o:={cls:=.type "tuple_iterator",data:=.fields #[.ref a,.int 0 0]}) rfl
   have hne:a≠h'.objs.size:=λz=>by have:=r'.st.o _ _ ho;rw[z,fresh (Nat.le_refl _)]at this;cases this
   have hlen:=ra.length
   refine k S' _ tk _ _ [h'.objs.size,a] _ _ (e'.trans e'') r'' ng nS vz (λA hh=>⟨hlen ▸ List.size_toArray (as:=vs) ▸ Walks.tuple hh h'.objs.size a hne vs.toArray,λi h st=>let⟨o,ho,_⟩:=st.1;⟨o,ho⟩,λi v _ hv=>ra.getV (by simpa using hv),λb hb=>?_⟩) ⟨⟨_,Heap.get?_push_size _ rfl,rfl,rfl⟩,⟨_,r''.st.o _ _ ho,hc,_,hd⟩⟩
   simp only[List.mem_cons,List.not_mem_nil,or_false]at hb
   rcases hb with rfl|rfl
   ·exact .inl rfl
   ·exact .inr ⟨_,ho⟩
theorem xg{e:Expr}{ks:List Str}{ts:List T}(x:EvT ZV w C hb n ZU pv e σ ZZ (.dict ks ts)):r7 ZV w C hb n ZU pv e σ ZZ (ks.map .str):=λA E S g m s Q rm ok r k=>
 x A E S g m s _ rm ok r λS' h' tk v e' r' q=>by
  cases q using R.dictE with
  |@dict a o kvs ho hd hs ra=>
   have hdo:h'.DictOf (PySem.strKind ZV w) a kvs:=Heap.dictOf_iff.mpr ⟨o,r'.st.o _ _ ho,hd⟩
   obtain⟨oo,es,ep,hoo,hx,hdt,hkk,hpp,hnd⟩:=hdo
   have hda:h'.DictAt (PySem.strKind ZV w) a kvs ep:=⟨oo,es,hoo,hx,hdt,hkk,hpp,hnd⟩
   refine wpAny_pyIter_dict (s:={s with heap:=h',toks:=tk}) hs hda ?_
   obtain⟨e'',r'',ng,nS,vz⟩:=r'.grip (o:={cls:=.type "dict_keyiterator",data:=.fields #[.ref a,.int 0 0,.int kvs.length 0,.int ep 0]}) rfl
   have hne:a≠h'.objs.size:=λz=>by have:=r'.st.o _ _ ho;rw[z,fresh (Nat.le_refl _)]at this;cases this
   have hlen:((kvs.map (·.1)).map T.str).length=kvs.length:=by simp
   refine k S' _ tk _ _ [h'.objs.size,a] (λi v=>∃k x,kvs[i]?=some (k,x)∧(PySem.strKind ZV w).is k v=true) (λi h=>h.IsKeyIter h'.objs.size a i kvs.length ep∧h.DictAt (PySem.strKind ZV w) a kvs ep) (e'.trans e'') r'' ng nS vz (λA hh=>⟨?_,λi h st=>let⟨o,ho,_⟩:=st.1;⟨o,ho⟩,λi v hi hv=>?_,λb hb=>?_⟩) ⟨⟨_,Heap.get?_push_size _ rfl,rfl,rfl⟩,?_⟩
   ·rw[hlen];exact Walks.dictKeys hh h'.objs.size a hne kvs ep
   ·obtain⟨kk,x,h1,h2⟩:=hv
    refine⟨.str kk,by simp[h1],?_⟩
    cases v<;>simp[PySem.strKind,Value.isStrOf]at h2
    subst h2;exact .str _ _
   ·simp only[List.mem_cons,List.not_mem_nil,or_false]at hb
    rcases hb with rfl|rfl
    ·exact .inl rfl
    ·exact .inr ⟨_,ho⟩
   ·exact hda.at' λo e=>Heap.get?_push_of_some _ e
theorem dm{A:Around}{E:Value→Shared→Prop}{s:Shared}{Q:Value→Shared→Prop}{x:Str}{fv:Value}{p pos:Pos}{es:List Expr}{ts:List T}(gl:Gl K C fI mg mb hb)(gn:GN mg mb ZU x fv)(ko:bq ZV w hb fv)(pl:cn es)(y:dK ZV w C hb n ZU pv es σ ZZ ts)
  (rm:Rm n A) (ok:EnvOk ZU pv) (r:Rel ZV w C hb ZU pv S g m σ none s.heap)
  (k:∀S' h' tk vs,Ext w S g S' h'→Rel ZV w C hb ZU pv S' g m ZZ none h'→RA ZV w C S' vs ts→wpAny (model ZV w) A (call fv vs) Q E {s with heap:=h',toks:=tk}):wpAny (model ZV w) A (eval (.Call (.Name x p) es [] pos) ZU) Q E s:=
 wpAny_Call_NameR (dq gl ok r.hbIn gn (callWith_of (P:=λh=>∀a x,hb.get? a=some x→h.get? a=some x) (by simp only[pl.2 ZU pos,List.any_nil,Bool.or_false]) ko
  (bb pl.1 (y A E S g m s pos _ rm ok r λS' h' tk vs e r' q=>⟨r'.hbIn,k S' h' tk vs e r' q⟩))))
noncomputable def ey(a b c:Int):List T:=(List.range (Builtin.Range.rangeSize a b c).toNat).map fun(i:Nat)=>.int (a+(i:Int) * c)
theorem dy{A:Around}{E:Value→Shared→Prop}{s:Shared}{Q:Value→Shared→Prop}{S₀:Sh}{a b c:Int}{t u v:Tok}{tk:Nat}(rm:Rm n A)(ok:EnvOk ZU pv)(r:Rel ZV w C hb ZU pv S g m σ none s.heap)(e₀:Ext w S₀ g S s.heap)
  (hs:Builtin.Range.small a b c=true)
  (k:∀S' h' tk I o fp P St,Ext w S₀ g S' h'→Rel ZV w C hb ZU pv S' (g.put I o) m σ none h'→¬ g.has I→¬ S'.has I→(∀b,Vis ZU b→b≠I)→(∀A,A.handled=none→Iter ZV w C A S' I (ey a b c) fp P St)→St 0 h'→Q (.ref I) {s with heap:=h',toks:=tk}) :
  wpAny (model ZV w) A (pyIter (.ref s.heap.objs.size)) Q E {s with heap:=s.heap.push {cls:=.type "range",data:=.fields #[.int a t,.int b u,.int c v]},toks:=tk}:=by
 obtain⟨e1,r1⟩:=r.new (o:={cls:=.type "range",data:=.fields #[.int a t,.int b u,.int c v]})
 refine wpAny_pyIter_range (IsRange.new s.heap a b c t u v) hs ?_
 obtain⟨e2,r2,ng,nS,vz⟩:=r1.grip (o:={cls:=.type "range_iterator",data:=.fields #[rawInt a,rawInt (Builtin.Range.rangeSize a b c),rawInt c]}) rfl
 have hn:0≤Builtin.Range.rangeSize a b c:=by
  unfold Builtin.Range.rangeSize
  split
  ·split
   ·rename_i h1 h2
    exact Int.add_nonneg (Int.ediv_nonneg (Int.le_sub_one_of_lt (Int.sub_pos_of_lt h2)) (Int.le_of_lt h1)) (by decide)
   ·exact Int.le_refl _
  ·split
   ·rename_i h1 h2
    exact Int.add_nonneg (Int.ediv_nonneg (Int.le_sub_one_of_lt (Int.sub_pos_of_lt h2)) (Int.neg_nonneg_of_nonpos (Int.not_lt.mp h1))) (by decide)
   ·exact Int.le_refl _
 have hlen:(ey a b c).length=(Builtin.Range.rangeSize a b c).toNat:=by simp[ey]
 refine k S _ _ _ _ [(s.heap.push {cls:=.type "range",data:=.fields #[.int a t,.int b u,.int c v]}).objs.size] (fun(i:Nat) v=>∃t,v= .int (a+(i:Int) * c) t) (λi h=>IsRangeIter h _ (a+(i:Nat) * c) (((Builtin.Range.rangeSize a b c).toNat:Int) - (i:Nat)) c) (e₀.trans (e1.trans e2)) r2 ng nS vz (λA hh=>⟨?_,λi h st=>⟨_,st⟩,λi v hi hv=>?_,λb hb=>.inl (by simpa using hb)⟩) ?_
 ·rw[hlen];exact Walks.range hh _ a c _
 ·obtain⟨t,rfl⟩:=hv
  rw[hlen]at hi
  exact⟨_,by simp[ey,hi],.int _ _⟩
 ·have:Heap.get? ((s.heap.push {cls:=.type "range",data:=.fields #[.int a t,.int b u,.int c v]}).push {cls:=.type "range_iterator",data:=.fields #[rawInt a,rawInt (Builtin.Range.rangeSize a b c),rawInt c]}) (s.heap.push {cls:=.type "range",data:=.fields #[.int a t,.int b u,.int c v]}).objs.size=some _:=Heap.get?_push_size _ rfl
  show Heap.get? _ _=_
  rw[this,Int.toNat_of_nonneg hn]
  simp
theorem qO{p pos:Pos}{es:List Expr}{b:Int}(gl:Gl K C fI mg mb hb)(gn:GN mg mb ZU "range" (.type "range"))(pl:cn es)(y:dK ZV w C hb n ZU pv es σ ZZ [.int b])(hs:Builtin.Range.small 0 b 1=true):
  r7 ZV w C hb n ZU pv (.Call (.Name "range" p) es [] pos) σ ZZ (ey 0 b 1):=λA E S g m s Q rm ok r k=>
 dm gl gn bN pl y rm ok r λS' h' tk vs e r' q=>by
  obtain⟨v,rfl,x⟩:=jN q
  cases x using R.intE
  exact call_range_1 (dy (s:={s with heap:=h',toks:=tk}) rm ok r' e hs λS' h' tk I o fp P St=>k S' h' tk I o fp P St)
theorem qI{p pos:Pos}{es:List Expr}{a b:Int}(gl:Gl K C fI mg mb hb)(gn:GN mg mb ZU "range" (.type "range"))(pl:cn es)(y:dK ZV w C hb n ZU pv es σ ZZ [.int a,.int b])(hs:Builtin.Range.small a b 1=true):
  r7 ZV w C hb n ZU pv (.Call (.Name "range" p) es [] pos) σ ZZ (ey a b 1):=λA E S g m s Q rm ok r k=>
 dm gl gn bN pl y rm ok r λS' h' tk vs e r' q=>by
  obtain⟨v,v',rfl,x,x'⟩:=yb q
  cases x using R.intE;cases x' using R.intE
  exact call_range_2 (dy (s:={s with heap:=h',toks:=tk}) rm ok r' e hs λS' h' tk I o fp P St=>k S' h' tk I o fp P St)
theorem rJ{p pos:Pos}{es:List Expr}{a b c:Int}(gl:Gl K C fI mg mb hb)(gn:GN mg mb ZU "range" (.type "range"))(pl:cn es)(y:dK ZV w C hb n ZU pv es σ ZZ [.int a,.int b,.int c])(hc:c≠0)(hd:c.natAbs < 1073741824)(hs:Builtin.Range.small a b c=true):
  r7 ZV w C hb n ZU pv (.Call (.Name "range" p) es [] pos) σ ZZ (ey a b c):=λA E S g m s Q rm ok r k=>
 dm gl gn bN pl y rm ok r λS' h' tk vs e r' q=>by
  obtain⟨v,v',v'',rfl,x,x',x''⟩:=ra3 q
  cases x using R.intE;cases x' using R.intE;cases x'' using R.intE
  exact call_range_3 hc (dy (s:={s with heap:=h',toks:=tk}) rm ok r' e hs λS' h' tk I o fp P St=>k S' h' tk I o fp P St) (.inl (PyProof.noPylong_small hd))
theorem AN{p pos:Pos}{es:List Expr}{ts:List T}(gl:Gl K C fI mg mb hb)(gn:GN mg mb ZU "reversed" (.type "reversed"))(pl:cn es)(y:dK ZV w C hb n ZU pv es σ ZZ [.list ts]):
  r7 ZV w C hb n ZU pv (.Call (.Name "reversed" p) es [] pos) σ ZZ ts.reverse:=λA E S g m s Q rm ok r k=>
 dm gl gn bN pl y rm ok r λS' h' tk vs e r' q=>by
  obtain⟨v,rfl,x⟩:=jN q
  cases x using R.listE with
  |@list a us nn ho ra=>
   have hc:(lO us nn).cls= .type "list":=rfl
   have hd:(lO us nn).data= .seq us.toArray nn:=rfl
   have hl:h'.IsList a us.toArray:=⟨_,r'.st.o _ _ ho,hc,_,hd⟩
   refine call_reversed_list (s:={s with heap:=h',toks:=tk}) hl ?_
   obtain⟨e2,r2,ng,nS,vz⟩:=r'.grip (o:=revObj a ((us.toArray.size:Int) - 1)) rfl
   have hne:a≠h'.objs.size:=λz=>by have:=r'.st.o _ _ ho;rw[z,fresh (Nat.le_refl _)]at this;cases this
   have hlen:ts.reverse.length=us.toArray.size:=by simp[ra.length]
   have hI:(h'.push (revObj a ((us.toArray.size:Int) - 1))).IsRevIter h'.objs.size a ((us.toArray.size:Int) - 1):=⟨_,Heap.get?_push_size _ rfl,rfl,rfl⟩
   refine wpAny_pyIter_revIter hI ?_
   refine k S' _ tk _ _ [h'.objs.size,a] (λi v=>us.toArray[us.toArray.size - 1 - i]?=some v) (λi h=>i≤us.toArray.size∧h.IsRevIter h'.objs.size a ((us.toArray.size:Int) - 1 - (i:Int))∧h.IsList a us.toArray) (e.trans e2) r2 ng nS vz (λA hh=>⟨by rw[hlen];exact Walks.listRev hh h'.objs.size a hne us.toArray,λi h st=>let⟨o,ho,_⟩:=st.2.1;⟨o,ho⟩,λi v hi hv=>?_,λb hb=>?_⟩) ⟨Nat.zero_le _,by simpa using hI,⟨_,r2.st.o _ _ ho,hc,_,hd⟩⟩
   ·rw[hlen]at hi
    have hi':i < us.length:=by simpa using hi
    obtain⟨t,ht,rt⟩:=ra.getV (i:=us.length - 1 - i) (v:=v) (by simpa using hv)
    refine⟨t,?_,rt⟩
    rw[List.getElem?_reverse (by rw[←ra.length];exact hi'),←ra.length]
    exact ht
   ·simp only[List.mem_cons,List.not_mem_nil,or_false]at hb
    rcases hb with rfl|rfl
    ·exact .inl rfl
    ·exact .inr ⟨_,ho⟩
end
section
variable{ZV:Program}{w:World}{C:Addr}{hb:Heap}{ZU:Env}{pv:List Addr}{S g:Sh}{m:Str→Option Value}{σ σ' ZZ ZY ZX:Loc}{ρ:Option (Value×V)}{h:Heap}{n:Nat}{K:Frag}{mg mb:Str→Option Value}{fI:Addr}
noncomputable def Loc.del(σ:Loc)(x:Str):Loc:=σ.filter λp=>!(p.1 == x)
theorem dE(σ:Loc)(x y:Str):(σ.del x).lookup y=if y=x then none else σ.lookup y:=by
 induction σ with
 |nil=>simp[Loc.del]
 |cons p r ih=>
  obtain⟨z,b⟩:=p
  unfold Loc.del at ih ⊢
  by_cases hz:z=x
  ·subst hz
   simp only[List.filter_cons,beq_self_eq_true,Bool.not_true,Bool.false_eq_true,if_false,ih,List.lookup_cons]
   by_cases hy:y=z
   ·subst hy;simp
   ·have:(y == z)=false:=by simpa using hy
    simp[hy,this]
  ·have hz':(z == x)=false:=by simpa using hz
   simp only[List.filter_cons,hz',Bool.not_false,if_true,List.lookup_cons,ih]
   by_cases hy:y=z
   ·subst hy;simp[hz]
   ·have:(y == z)=false:=by simpa using hy
    simp[this]
noncomputable def kdC(scope:Scope)(kd:Str→Option NameKind)(y:Str):Option NameKind:=(scope.names.lookup y).map λk=>if(k == .free && kd y == some .cell)then .cell else k
theorem gp{P:Str→NameKind→Bool}:∀(l:List (Str×NameKind))(y:Str),(l.map fun(x:Str×NameKind)=>if P x.1 x.2=true then(x.1,NameKind.cell)else(x.1,x.2)).lookup y=(l.lookup y).map λk=>if P y k=true then .cell else k
 |[],y=>rfl
 |(z,k) ::r,y=>by
  have ih:=gp (P:=P) r y
  simp only[List.map_cons]
  by_cases hy:y=z
  ·subst hy
   split<;>simp_all [List.lookup_cons]
  ·have e:(y == z)=false:=by simpa using hy
   split<;>simp only[List.lookup_cons,e,ih]
theorem gm{scope:Scope}{cl:List (Str×Addr)}{L:Addr}(hk:ZU.scope.kind= .function)(y:Str):(compEnvC scope cl L ZU).kindOf y=kdC scope ZU.kindOf y:=by
 have:=gp (P:=λy k=>(k == NameKind.free && ZU.scope.kind == .function && ZU.kindOf y == some .cell)) scope.names y
 unfold Env.kindOf compEnvC relabel kdC
 simp only
 refine Eq.trans this ?_
 simp[hk,Env.kindOf]
noncomputable def iv(ZU:Env):List (Str×NameKind)→List (Str×Addr)→List (Str×Addr)
 |[],acc=>acc
 |(y,k) ::r,acc=>if k == .free then iv ZU r ((y,(ZU.cells.lookup y).getD 0) ::acc)else iv ZU r acc
theorem ny{ZU:Env}(l:List (Str×NameKind)):∀(acc:List (Str×Addr)),(∀y∈l,y.2= .free→∃c,ZU.cells.lookup y.1=some c)→
  (forIn l acc λx(r:List (Str×Addr))=>if(x.2 == NameKind.free)=true then do let a ←cellOf ZU x.1;pure (ForInStep.yield ((x.1,a) ::r))else pure (ForInStep.yield r):Sem _)=pure (iv ZU l acc):=by
 induction l with
 |nil=>
  intro acc _
  exact rfl
 |cons p r ih=>
  obtain⟨y,k⟩:=p
  intro acc hf
  rw[List.forIn_cons]
  simp only[iv]
  by_cases hk:(k == NameKind.free)=true
  ·obtain⟨c,hc⟩:=hf (y,k) (.head _) (by simpa using hk)
   have:cellOf ZU y=pure c:=by unfold cellOf;rw[show ZU.cells.lookup y=some c from hc]
   simp only[hk,if_true,this,pure_bind]
   rw[show(ZU.cells.lookup y).getD 0=c by rw[show ZU.cells.lookup y=some c from hc];rfl]
   exact ih _ λz hz=>hf z (.tail _ hz)
  ·simp only[hk,Bool.false_eq_true,if_false,pure_bind]
   exact ih _ λz hz=>hf z (.tail _ hz)
theorem clGo_mem{ZU:Env}:∀(l:List (Str×NameKind))(acc:List (Str×Addr)){p:Str×Addr},p∈iv ZU l acc→p∈acc∨((p.1,NameKind.free)∈l∧p.2=(ZU.cells.lookup p.1).getD 0)
 |[],acc,p,h=>.inl h
 |(y,k) ::r,acc,p,h=>by
  simp only[iv]at h
  split at h
  ·rename_i hk
   rcases clGo_mem r _ h with h|⟨h1,h2⟩
   ·rcases List.mem_cons.mp h with rfl|h
    ·exact .inr ⟨by rw[←beq_iff_eq.mp hk];exact .head _,rfl⟩
    ·exact .inl h
   ·exact .inr ⟨.tail _ h1,h2⟩
  ·rcases clGo_mem r _ h with h|⟨h1,h2⟩
   ·exact .inl h
   ·exact .inr ⟨.tail _ h1,h2⟩
theorem gY{ZU:Env}:∀(l:List (Str×NameKind))(acc:List (Str×Addr)){p:Str×Addr},p∈acc→p∈iv ZU l acc
 |[],acc,p,h=>h
 |(y,k) ::r,acc,p,h=>by
  simp only[iv]
  split
  ·exact gY r _ (.tail _ h)
  ·exact gY r _ h
theorem iE{ZU:Env}:∀(l:List (Str×NameKind))(acc:List (Str×Addr)){y:Str},(y,NameKind.free)∈l→∃c,(y,c)∈iv ZU l acc
 |(z,k) ::r,acc,y,h=>by
  simp only[iv]
  rcases List.mem_cons.mp h with e|h
  ·cases e
   simp only[beq_self_eq_true,if_true]
   exact⟨_,gY r _ (.head _)⟩
  ·split
   ·exact iE r _ h
   ·exact iE r _ h
theorem eA{α:Type}:∀{l:List (Str×α)}{y:Str}{c:α},(y,c)∈l→∃d,l.lookup y=some d
 |(z,d) ::r,y,c,h=>by
  by_cases e:y=z
  ·subst e;exact⟨d,by simp⟩
  ·have:(y == z)=false:=by simpa using e
   simp only[List.lookup_cons,this]
   rcases List.mem_cons.mp h with q|q
   ·cases q;exact absurd rfl e
   ·exact eA q
structure CompSc(ZU:Env)(scope:Scope)(x:Str):Prop where
 kind:scope.kind= .function
 cell:∀y∈scope.names,y.2≠ .cell
 names:∀y∈scope.names,y.2= .local→scope.names.lookup y.1=some .local
 hx:scope.names.lookup x=some .local
 free:∀y∈scope.names,y.2= .free→ZU.kindOf y.1=some .cell∧scope.names.lookup y.1=some .free
 gk:∀i,scope.names.lookup (ghost i)=none
theorem CompSc.clo{scope:Scope}{x:Str}(c:CompSc ZU scope x)(ok:EnvOk ZU pv):∃cl,closureFor scope ZU=pure cl∧(∀y a,cl.lookup y=some a→ZU.cells.lookup y=some a∧scope.names.lookup y=some .free)∧(∀y,(y,NameKind.free)∈scope.names→∃a,cl.lookup y=some a):=by
 refine⟨iv ZU scope.names [],?_,λy a h=>?_,λy h=>?_⟩
 ·unfold closureFor
  have:=ny (ZU:=ZU) scope.names [] λy hy hf=>ok.has _ (c.free y hy hf).1
  simp only[bind_pure_comp]
  simp only[bind_pure_comp]at this
  first
   |(rw[this];rfl)
   |(exact(congrArg (λz=>(do let a ←z;pure a:Sem _)) this).trans (by simp))
 ·rcases clGo_mem _ _ (mem_of_lookup h)with q|⟨q1,q2⟩
  ·cases q
  ·obtain⟨k1,k2⟩:=c.free _ q1 rfl
   obtain⟨d,hd⟩:=ok.has _ k1
   refine⟨?_,k2⟩
   rw[hd]at q2
   simp only[Option.getD_some]at q2
   rw[q2];exact hd
 ·obtain⟨a,ha⟩:=iE (ZU:=ZU) scope.names [] h
  exact eA ha
theorem VOk.nocell{v:Value}{a:V}{fp:List Addr}(x:VOk ZV w C S h v a fp){b c:Addr}{u:Option Value}(hb:b∈fp)(hc:h.IsCell b u):False:=by
 obtain⟨o,ho,hd⟩:=hc
 cases x with
 |f r=>cases hb
 |ol e r=>rcases List.mem_singleton.mp hb with rfl;rw[e]at ho;cases ho;cases hd
 |od e q n r=>
  rcases List.mem_singleton.mp hb with rfl
  rw[e]at ho;cases ho
  obtain⟨_,_,_,hdd,_⟩:=q
  rw[hdd]at hd;cases hd
 |ov e d ne a b c=>
  rcases List.mem_cons.mp hb with rfl|hb
  ·rw[e]at ho;cases ho;cases hd
  ·rcases List.mem_singleton.mp hb with rfl
   obtain⟨es,n,vs,vl,e,q⟩:=d
   rw[e]at ho;cases ho;cases hd
 |odl e q n na r=>
  rcases List.mem_cons.mp hb with rfl|hb
  ·rw[e]at ho;cases ho
   obtain⟨_,_,_,hdd,_⟩:=q
   rw[hdd]at hd;cases hd
  ·obtain⟨us,n,e⟩:=r.get b hb
   rw[e]at ho;cases ho;cases hd
open Classical in
noncomputable def k6(ZU:Env)(pv:List Addr)(h:Heap)(g:Sh):Sh:={o:=λb=>if b∈pv∨Vis ZU b then h.get? b else g.o b,v:=g.v,q:=g.q}
theorem lay_has{b:Addr}(x:(k6 ZU pv h g).has b):b∈pv∨Vis ZU b∨g.has b:=by
 by_cases q:b∈pv∨Vis ZU b
 ·exact q.imp id .inl
 ·unfold Sh.has k6 at x;simp only[if_neg q]at x;exact .inr (.inr x)
theorem Rel.layIn(r:Rel ZV w C hb ZU pv S g m σ ρ h):(k6 ZU pv h g).In w h:=by
 refine⟨λa x e=>?_,r.kp.v,λd x e=>?_⟩
 ·unfold k6 at e
  simp only at e
  split at e
  ·exact e
  ·exact r.kp.o a x e
 ·have e':g.v d=some x:=e
  have h1:¬ (d∈pv∨Vis ZU d):=by
   rintro (q|q)
   ·exact(r.priv d q).2.2 (Sh.has_v e')
   ·have:=r.vis d q;rw[r.gS d x e']at this;cases this
  unfold k6;simp only[if_neg h1]
  exact r.kp.dis d x e'
theorem Rel.layLe(r:Rel ZV w C hb ZU pv S g m σ ρ h):g.Le (k6 ZU pv h g):=by
 refine⟨λa x e=>?_,λ_ _ e=>e,rfl⟩
 unfold k6;simp only
 split
 ·exact r.kp.o a x e
 ·exact e
theorem iq{S:Sh}{a b:Addr}{x y:Obj}(n:a≠b):(S.put a x).put b y=(S.put b y).put a x:=by
 refine congrArg (λo=>Sh.mk o S.v S.q) (funext λc=>?_)
 by_cases h1:c=a
 ·subst h1;simp[Sh.put,n]
 ·simp[Sh.put,h1]
theorem Rel.keep{h':Heap}(r:Rel ZV w C hb ZU pv S g m σ ρ h)(kp:∀b x,h.get? b=some x→h'.get? b=some x):Ext w S g S h'∧Rel ZV w C hb ZU pv S g m σ ρ h':=by
 have e:Ext w S (bH S h) S h':=⟨.refl S,⟨λa x q=>kp _ _ (r.st.o _ _ q),λd x q=>(r.st.v _ _ q).keeps (kp d),r.st.dis⟩,
  ⟨λa x q=>kp _ _ ((aJ r.st).o _ _ q),λd x q=>((aJ r.st).v _ _ q).keeps (kp d),(aJ r.st).dis⟩,λb _ x=>x⟩
 obtain⟨r',e'⟩:=r.step e
 exact⟨e',r'⟩
noncomputable def mC(kd:Str→Option NameKind)(m:Str→Option Value)(y:Str):Option Value:=if kd y=some .local then none else m y
theorem Rel.enter{scope:Scope}{x:Str}{cl:List (Str×Addr)}{L:Addr}{h₀:Heap}(r₀:Rel ZV w C hb ZU pv S g m σ none h₀)(old:∀b o,h₀.get? b=some o→h.get? b=some o)(fr:h₀.get? L=none)(ok:EnvOk ZU pv)(c:CompSc ZU scope x)
  (hcl:∀y a,cl.lookup y=some a→ZU.cells.lookup y=some a∧scope.names.lookup y=some .free) (hhas:∀y,(y,NameKind.free)∈scope.names→∃a,cl.lookup y=some a)
  (hL:h.Ns L λ_=>none)
  (hσ:∀y a,σ.lookup y=some a→y≠x→scope.names.lookup y≠some .local) :
  EnvOk (compEnvC scope cl L ZU) [L]∧Rel ZV w C hb (compEnvC scope cl L ZU) [L] S (k6 ZU pv h g) (mC (kdC scope ZU.kindOf) m) (σ.del x) none h:=by
 have r:=(r₀.keep old).2
 have no:¬ ∃o,h₀.get? L=some o:=fun⟨o,ho⟩=>by rw[fr]at ho;cases ho
 have nS:¬ S.has L:=λz=>no (In.get r₀.st z)
 have ng:¬ g.has L:=λz=>no (In.get r₀.kp z)
 have np:L∉pv:=λz=>no (r₀.priv L z).1
 have nv:¬ Vis ZU L:=λz=>no (r₀.visHas z)
 have kd:=gm (scope:=scope) (cl:=cl) (L:=L) (ZU:=ZU) ok.kind
 have kloc:∀y,scope.names.lookup y=some .local→(compEnvC scope cl L ZU).kindOf y=some .local:=λy e=>by rw[kd,kdC,e];rfl
 have kloc':∀y,(compEnvC scope cl L ZU).kindOf y=some .local→scope.names.lookup y=some .local:=λy e=>by
  rw[kd,kdC]at e
  cases z:scope.names.lookup y with
  |none=>rw[z]at e;cases e
  |some k=>
   rw[z]at e
   simp only[Option.map_some,Option.some.injEq]at e
   split at e
   ·cases e
   ·rw[e]
 have kfree:∀y,(compEnvC scope cl L ZU).kindOf y=some .cell→(y,NameKind.free)∈scope.names:=λy e=>by
  rw[kd,kdC]at e
  cases z:scope.names.lookup y with
  |none=>rw[z]at e;cases e
  |some k=>
   rw[z]at e
   simp only[Option.map_some,Option.some.injEq]at e
   split at e
   ·rename_i q
    simp only[Bool.and_eq_true,beq_iff_eq]at q
    rw[←q.1];exact mem_of_lookup z
   ·exact absurd e (c.cell _ (mem_of_lookup z))
 have fr:∀y,kdC scope ZU.kindOf y≠some .free:=λy e=>by
  unfold kdC at e
  simp only[Option.map_eq_some_iff]at e
  obtain⟨k,hk,e⟩:=e
  split at e
  ·cases e
  ·rename_i hn;subst e;exact hn (by simp[(c.free _ (mem_of_lookup hk) rfl).1])
 have ok':EnvOk (compEnvC scope cl L ZU) [L]:=by
  refine⟨c.kind,λy hy=>hhas y (kfree y hy),λy hy=>?_,λy z a hy hz=>ok.inj y z a (hcl y a hy).1 (hcl z a hz).1,λy a hy q=>nv (.inr ⟨y,?_⟩),.head _,ok.glob,ok.blt,λi=>by rw[kd,kdC,c.gk];rfl,λy hy=>absurd (kd y ▸ hy) (fr y)⟩
  ·cases z:cl.lookup y with
   |none=>exact z
   |some a=>
    have:=(hcl y a z).2
    rw[kloc' y hy]at this;cases this
  ·have:=(hcl y a hy).1
   rw[show a=L from q]at this;exact this
 refine⟨ok',⟨r.st,r.layIn,r.base,⟨⟨_,hL,λy hy=>?_⟩,λy a hy=>?_⟩,r.gS,λd y e=>?_,λb hv=>?_,λb hb=>?_,λy a e=>?_,?_,λi=>by unfold mC;rw[if_neg (by rw[kdC,c.gk];simp)];exact r.gho i⟩⟩
 ·unfold mC;rw[←kd,if_pos hy]
 ·obtain⟨h1,h2⟩:=hcl y a hy
  have:¬ (kdC scope ZU.kindOf y=some .local):=λe=>by rw[←kd]at e;have:=kloc' y e;rw[h2]at this;cases this
  unfold mC;rw[if_neg this]
  exact r.vars.cell y a h1
 ·have h1:¬ (d∈pv∨Vis ZU d):=by
   rintro (q|q)
   ·exact(r.priv d q).2.1 (Sh.has_v e)
   ·have:=r.vis d q;rw[e]at this;cases this
  unfold k6;simp only[if_neg h1]
  exact r.gd d y e
 ·rcases hv with rfl|⟨y,hy⟩
  ·exact Sh.not_v nS
  ·exact r.vis b (.inr ⟨y,(hcl y b hy).1⟩)
 ·rcases List.mem_singleton.mp hb with rfl
  obtain⟨o,_,_,ho,_⟩:=hL
  refine⟨⟨o,ho⟩,nS,λz=>?_⟩
  rcases lay_has z with z|z|z
  ·exact np z
  ·exact nv z
  ·exact ng z
 ·rw[dE]at e
  split at e
  ·cases e
  ·rename_i hy
   obtain⟨v,hv⟩:=r.known y a e
   refine⟨v,?_⟩
   unfold mC
   rw[if_neg]
   ·exact hv
   ·intro z;rw[←kd]at z;exact hσ y a e hy (kloc' y z)
 ·obtain⟨fp,a1,a2⟩:=r₀.slots
  have sl:∀i v a,Slot (mC (kdC scope ZU.kindOf) m) (σ.del x) none i v a→Slot m σ none i v a:=λi v a y=>by
   cases i with
   |none=>simp only[Slot]at y;cases y
   |some z=>
    obtain⟨y1,y2⟩:=y
    rw[dE]at y1
    split at y1
    ·cases y1
    ·refine⟨y1,?_⟩
     unfold mC at y2
     split at y2
     ·cases y2
     ·exact y2
  refine⟨fp,λi v a y=>?_,λi j v a v' a' n x y=>a2 i j v a v' a' n (sl _ _ _ x) (sl _ _ _ y)⟩
  obtain⟨q,cc⟩:=a1 i v a (sl i v a y)
  refine⟨q.keeps (.refl S) λb _ o ho=>old b o ho,λb hb=>⟨(cc b hb).1,λz=>?_,λz=>?_⟩⟩
  ·rcases lay_has z with z|z|z
   ·exact(cc b hb).2.2 z
   ·rcases z with rfl|⟨y,hy⟩
    ·exact(cc _ hb).2.2 ok.loc
    ·exact q.nocell (c:=b) hb (r₀.vars.cell y b hy)
   ·exact(cc b hb).2.1 z
  ·rcases List.mem_singleton.mp z with rfl
   exact no (q.get _ hb)
noncomputable def Loc.back(ZZ σ:Loc)(x:Str):Loc:=match ZZ.lookup x with
 |some a=>(σ.del x).set x a
 |none=>σ.del x
theorem Rel.dropI{I:Addr}{o:Obj}{h':Heap}(r':Rel ZV w C hb ZU pv S (g.put I o) m σ ρ h)(ng:¬ g.has I)(nS:¬ S.has I)(vz:∀b,Vis ZU b→b≠I)(kp:∀b x,b≠I→h.get? b=some x→h'.get? b=some x):
  Rel ZV w C hb ZU pv S g m σ ρ h':=by
 have r0:=r'.ungrip ng
 have off:∀b,¬ (g.put I o).has b→b≠I:=λb z e=>z (by rw[e];exact Sh.has_o (x:=o) (by simp[Sh.put]))
 have sin:S.In w h':=⟨λa x e=>kp a x (λz=>nS (z ▸ Sh.has_o e)) (r0.st.o a x e),λd x e=>(r0.st.v d x e).keeps λo ho=>kp d o (λz=>nS (z ▸ Sh.has_v e)) ho,r0.st.dis⟩
 have gin:g.In w h':=⟨λa x e=>kp a x (λz=>ng (z ▸ Sh.has_o e)) (r0.kp.o a x e),λd x e=>(r0.kp.v d x e).keeps λo ho=>kp d o (λz=>ng (z ▸ Sh.has_v e)) ho,r0.kp.dis⟩
 refine⟨sin,gin,r0.base,r0.vars.keeps λb hb o ho=>kp b o (vz b hb) ho,r0.gS,r0.gd,r0.vis,λb e=>?_,r0.known,?_,r0.gho⟩
 ·obtain⟨⟨x,hx⟩,c2,c3⟩:=r0.priv b e
  exact⟨⟨x,kp b x (off b (r'.priv b e).2.2) hx⟩,c2,c3⟩
 ·obtain⟨fp',a1,a2⟩:=r'.slots
  exact⟨fp',λi v a x=>⟨(a1 i v a x).1.keeps (.refl S) λb hb y hy=>kp b y (off b ((a1 i v a x).2 b hb).2.1) hy,λb hb=>⟨((a1 i v a x).2 b hb).1,λz=>((a1 i v a x).2 b hb).2.1 ((aX (x:=o) ng).has z),((a1 i v a x).2 b hb).2.2⟩⟩,a2⟩
theorem Rel.leave{h₀ h':Heap}{S₀ S':Sh}{x:Str}{cenv:Env}{L D:Addr}{m':Str→Option Value}{gI:Sh}{oL:Obj}{ys:List Value}{nD:Nat}{us:List T}(r:Rel ZV w C hb ZU pv S₀ g m ZZ none h₀)(hL:ZU.locals∈pv)(ri:Rel ZV w C hb cenv [L] S' gI m' σ' none h')
  (l:S₀.Le S') (hg:(k6 ZU pv h₀ g).Le gI) (gv:gI.v=g.v) (nw:∀b,gI.has b→S'.has b→S₀.has b) (hm:∀y a,y≠x→σ'.lookup y=some a→m' y=m y) (hx:∀a,ZZ.lookup x=some a→∃t,a= .f t)
  (hoL:h'.get? L=some oL) (ngL:¬ g.has L) (npL:L∉pv) (hD:gI.o D=some (lO ys nD)) (nSD:¬ S'.has D) (ngD:¬ g.has D) (npD:D∉pv) (hDL:D≠L) (ra:RA ZV w C S' ys us) :
  Rel ZV w C hb ZU pv S' (g.put L oL) m (Loc.back ZZ σ' x) (some (.ref D,.ol us)) h':=by
 have gin:g.In w h':=⟨λa y e=>ri.kp.o a y (hg.o a y (r.layLe.o a y e)),λd y e=>ri.kp.v d y (by rw[gv];exact e),r.kp.dis⟩
 have nSL:¬ S'.has L:=(ri.priv L (.head _)).2.1
 have kept:∀b,(b∈pv∨Vis ZU b)→∃o,h₀.get? b=some o∧h'.get? b=some o∧gI.has b:=λb hb=>by
  have:∃o,h₀.get? b=some o:=by
   rcases hb with q|q
   ·exact(r.priv b q).1
   ·exact r.visHas q
  obtain⟨o,ho⟩:=this
  have e:(k6 ZU pv h₀ g).o b=some o:=by unfold k6;simp only[if_pos hb];exact ho
  exact⟨o,ho,ri.kp.o b o (hg.o b o e),Sh.has_o (hg.o b o e)⟩
 have look:∀y a,(Loc.back ZZ σ' x).lookup y=some a→(x=y∧ZZ.lookup x=some a)∨(y≠x∧σ'.lookup y=some a):=λy a e=>by
  unfold Loc.back at e
  split at e
  ·rename_i a' ha'
   rw[ao,dE]at e
   by_cases q:y=x
   ·simp only[q,if_true]at e;exact .inl ⟨q.symm,by rw[ha',e]⟩
   ·simp only[q,if_false]at e;exact .inr ⟨q,e⟩
  ·rw[dE]at e
   by_cases q:y=x
   ·simp only[q,if_true]at e;cases e
   ·simp only[q,if_false]at e;exact .inr ⟨q,e⟩
 refine⟨ri.st,dO gin ngL hoL,ri.base,r.vars.keeps λb hb o ho=>?_,λd y e=>ri.gS d y (by rw[gv];exact e),λd y e=>?_,λb hb=>?_,λb hb=>?_,λy a e=>?_,?_,λi=>by rw[r.gho i,l.q]⟩
 ·obtain⟨o',h1,h2,_⟩:=kept b (.inr hb)
  rw[ho]at h1;cases h1;exact h2
 ·simp only[Sh.put]
  split
  ·rename_i z;exact absurd (z ▸ Sh.has_v e) nSL
  ·cases z:g.o d with
   |none=>rfl
   |some o=>have:=ri.gd d y e;rw[hg.o d o (r.layLe.o d o z)]at this;cases this
 ·cases z:S'.v b with
  |none=>rfl
  |some y=>
   obtain⟨o',h1,h2,h3⟩:=kept b (.inr hb)
   have q:=nw b h3 (Sh.has_v z)
   have e1:=ri.st.dis b y z
   rcases q with q|q
   ·obtain⟨x',hx'⟩:=Option.ne_none_iff_exists'.mp q
    rw[l.o _ _ hx']at e1;cases e1
   ·exact absurd (r.vis b hb) q
 ·obtain⟨o',h1,h2,h3⟩:=kept b (.inl hb)
  exact⟨⟨o',h2⟩,λz=>(r.priv b hb).2.1 (nw b h3 z),λz=>(put_has z).elim (λz=>npL (z ▸ hb)) (r.priv b hb).2.2⟩
 ·rcases look y a e with⟨rfl,q⟩|⟨q1,q2⟩
  ·exact r.known _ _ q
  ·rw[←hm y a q1 q2];exact ri.known y a q2
 ·obtain⟨fp,a1,a2⟩:=ri.slots
  obtain⟨fp0,b1,b2⟩:=r.slots
  have sl:∀i v a,Slot m (Loc.back ZZ σ' x) (some (.ref D,.ol us)) i v a→(i=none∧v= .ref D∧a= .ol us)∨(i≠none∧i=some x∧∃t,a= .f t∧R ZV w C S' v t)∨(i≠none∧i≠some x∧Slot m' σ' none i v a):=λi v a y=>by
   cases i with
   |none=>simp only[Slot,Option.some.injEq,Prod.mk.injEq]at y;exact .inl ⟨rfl,y.1.symm,y.2.symm⟩
   |some z=>
    obtain⟨y1,y2⟩:=y
    rcases look z a y1 with⟨rfl,q⟩|⟨q1,q2⟩
    ·obtain⟨t,rfl⟩:=hx a q
     have:=(b1 (some x) v (.f t) ⟨q,y2⟩).1
     generalize fp0 (some x)=l0 at this
     cases this using VOk.fE with
     |f rr=>exact .inr (.inl ⟨by simp,rfl,t,rfl,rr.mono l⟩)
    ·exact .inr (.inr ⟨by simp,by simpa using q1,q2,by rw[hm z a q1 q2];exact y2⟩)
  have offD:∀i v a,Slot m' σ' none i v a→D∉fp i:=λi v a y z=>((a1 i v a y).2 D z).2.1 (Sh.has_o hD)
  refine⟨λi=>if i=none then[D]else if i=some x then[]else fp i,λi v a y=>?_,λi j v a v' a' n y z b hb=>?_⟩
  ·rcases sl i v a y with⟨rfl,rfl,rfl⟩|⟨q0,rfl,t,rfl,rr⟩|⟨q0,q1,q2⟩
   ·simp only[if_true]
    refine⟨.ol (ri.kp.o D _ hD) ra,λb hb=>?_⟩
    rcases (List.mem_singleton.mp hb).symm with rfl
    exact⟨nSD,λz=>(put_has z).elim hDL ngD,npD⟩
   ·simp only[if_neg q0,if_true];exact⟨.f rr,λb hb=>nomatch hb⟩
   ·simp only[if_neg q0,if_neg q1]
    obtain⟨q,cc⟩:=a1 i v a q2
    refine⟨q,λb hb=>⟨(cc b hb).1,λz=>?_,λz=>(cc b hb).2.1 (by obtain⟨_,_,_,h3⟩:=kept b (.inl z);exact h3)⟩⟩
    rcases put_has z with z|z
    ·exact(cc b hb).2.2 (z ▸ .head _)
    ·exact(cc b hb).2.1 ((r.layLe.trans hg).has z)
  ·rcases sl i v a y with⟨rfl,rfl,rfl⟩|⟨q0,rfl,t,rfl,rr⟩|⟨q0,q1,q2⟩
   ·simp only[if_true]at hb
    rcases (List.mem_singleton.mp hb).symm with rfl
    rcases sl j v' a' z with⟨rfl,rfl,rfl⟩|⟨p0,rfl,t,rfl,rr⟩|⟨p0,p1,p2⟩
    ·exact absurd rfl n
    ·simp only[if_neg p0,if_true];exact λz=>nomatch z
    ·simp only[if_neg p0,if_neg p1];exact offD _ _ _ p2
   ·simp only[if_neg q0,if_true]at hb;cases hb
   ·simp only[if_neg q0,if_neg q1]at hb
    rcases sl j v' a' z with⟨rfl,rfl,rfl⟩|⟨p0,rfl,t,rfl,rr⟩|⟨p0,p1,p2⟩
    ·simp only[if_true]
     intro z;exact offD _ _ _ q2 (List.mem_singleton.mp z ▸ hb)
    ·simp only[if_neg p0,if_true];exact λz=>nomatch z
    ·simp only[if_neg p0,if_neg p1];exact a2 i j v a v' a' n q2 p2 b hb
end
section
variable{ZV:Program}{w:World}{C:Addr}{hb:Heap}{ZU:Env}{pv:List Addr}{S g:Sh}{m:Str→Option Value}{σ σ' ZZ ZY ZX:Loc}{ρ:Option (Value×V)}{h:Heap}{n:Nat}{K:Frag}{mg mb:Str→Option Value}{fI:Addr}
noncomputable def EvIfs(ZV:Program)(w:World)(C:Addr)(hb:Heap)(n:Nat)(ZU:Env)(pv:List Addr)(ifs:List Expr)(σ σ':Loc)(b:Bool):Prop:=
 ∀(A:Around)(E:Value→Shared→Prop)(S g:Sh)(m:Str→Option Value)(s:Shared)(Q:Bool→Shared→Prop),Rm n A→EnvOk ZU pv→Rel ZV w C hb ZU pv S g m σ none s.heap→
  (∀S' h' tk,Ext w S g S' h'→Rel ZV w C hb ZU pv S' g m σ' none h'→Q b {s with heap:=h',toks:=tk})→
  wpAny (model ZV w) A (forIn ifs true λc r=>if r=true then do let ok ←isTrue c ZU (eval c ZU);pure (ForInStep.yield ok)else pure (ForInStep.yield r)) Q E s
theorem yC:EvIfs ZV w C hb n ZU pv [] σ σ true:=λA E S g m s Q rm ok r k=>wpAny_tests_nil (k _ _ s.toks (Ext.tok r) r)
theorem ye{c:Expr}{b:Bool}(x:EvB ZV w C hb n ZU pv c σ σ' b):EvIfs ZV w C hb n ZU pv [c] σ σ' b:=λA E S g m s Q rm ok r k=>
 wpAny_tests_one (x A E S g m s Q rm ok r k)
noncomputable def CompJ(ZV:Program)(w:World)(C:Addr)(hb:Heap)(n:Nat)(ZU:Env)(pv:List Addr)(x:Str)(ifs:List Expr)(elt:Expr)(ts:List T):Loc→List T→Loc→Prop:=
 List.rec (motive:=λ_=>Loc→List T→Loc→Prop) (λσ us ZX=>us=[]∧ZX=σ) (λt _ ih σ us ZX=>(∃ZZ,EvIfs ZV w C hb n ZU pv ifs (σ.set x (.f t)) ZZ false∧ih ZZ us ZX)∨
  ∃u us' ZZ ZY,us=u ::us'∧EvIfs ZV w C hb n ZU pv ifs (σ.set x (.f t)) ZZ true∧EvT ZV w C hb n ZU pv elt ZZ ZY u∧ih ZY us' ZX) ts
theorem qy{I:Addr}{o:Obj}{S:Sh}(np:I∉pv)(nv:¬ Vis ZU I):k6 ZU pv h (S.put I o)=(k6 ZU pv h S).put I o:=by
 refine congrArg (λo=>Sh.mk o S.v S.q) (funext λb=>?_)
 by_cases e:b=I
 ·subst e;simp[k6,Sh.put,np,nv]
 ·simp[k6,Sh.put,e]
theorem CompJ.nilE{x:Str}{ifs:List Expr}{elt:Expr}{us:List T}{σ ZX:Loc}(h:CompJ ZV w C hb n ZU pv x ifs elt [] σ us ZX):us=[]∧ZX=σ:=h
theorem CompJ.consE{x:Str}{ifs:List Expr}{elt:Expr}{t:T}{ts us:List T}{σ ZX:Loc}(h:CompJ ZV w C hb n ZU pv x ifs elt (t ::ts) σ us ZX):
  (∃ZZ,EvIfs ZV w C hb n ZU pv ifs (σ.set x (.f t)) ZZ false∧CompJ ZV w C hb n ZU pv x ifs elt ts ZZ us ZX)∨
   ∃u us' ZZ ZY,us=u ::us'∧EvIfs ZV w C hb n ZU pv ifs (σ.set x (.f t)) ZZ true∧EvT ZV w C hb n ZU pv elt ZZ ZY u∧CompJ ZV w C hb n ZU pv x ifs elt ts ZY us' ZX:=h
theorem jP{α:Type}{ts ts':List α}{t:α}(hle:(t ::ts').length≤ts.length)(hdrop:ts.drop (ts.length - (t ::ts').length)=t ::ts'):
  ts.length - (t ::ts').length < ts.length∧ts[ts.length - (t ::ts').length]?=some t∧ts.drop (ts.length - ts'.length)=ts'∧ts.length - (t ::ts').length+1=ts.length - ts'.length∧ts'.length≤ts.length:=by
 have h1:ts'.length+1≤ts.length:=hle
 have e:ts.length - (t ::ts').length+1=ts.length - ts'.length:=(Nat.sub_add_comm (n:=ts.length) (m:=1) h1).symm.trans (Nat.add_sub_add_right ts.length 1 ts'.length)
 refine⟨Nat.sub_lt (Nat.lt_of_lt_of_le (Nat.succ_pos _) h1) (Nat.succ_pos _),?_,?_,e,Nat.le_of_succ_le h1⟩
 ·have:=congrArg (·[0]?) hdrop
  simpa using this
 ·have:=congrArg (List.drop 1) hdrop
  rwa [List.drop_drop,e]at this
inductive CompI(ts us:List T)(s:Shared)(S₁:Sh)(Cj:List T→Loc→List T→Prop)(Rl:Sh→Obj→List Value→Nat→(Str→Option Value)→Loc→Heap→Prop)(Rr:Sh→List Value→List T→Prop)(St:Nat→Heap→Prop)(Nw:Sh→Prop)(Hm:(Str→Option Value)→Prop)(kk:Nat)(s':Shared):Prop
 |mk (ts':List T) (σ':Loc) (us' done:List T) (S':Sh) (m':Str→Option Value) (h':Heap) (tk':Nat) (ob':Obj) (ys:List Value) (nD:Nat) (hk:kk=ts'.length) (hle:ts'.length≤ts.length) (hdrop:ts.drop (ts.length - ts'.length)=ts') (hus:done ++ us'=us)
  (hdn:done.length+ts'.length≤ts.length) (cj:Cj ts' σ' us') (hs:s'={s with heap:=h',toks:=tk'}) (le':S₁.Le S') (r':Rl S' ob' ys nD m' σ' h') (ra':Rr S' ys done) (st':St (ts.length - ts'.length) h') (nw':Nw S') (hm':Hm m'):CompI ts us s S₁ Cj Rl Rr St Nw Hm kk s'
theorem vg{o o':Obj}{I D b:Addr}:((S.put I o).put D o').has b↔(S.has b∨b=I∨b=D):=by
 constructor
 ·intro z
  rcases put_has z with z|z
  ·exact .inr (.inr z)
  ·exact(put_has z).elim (λz=>.inr (.inl z)) .inl
 ·intro z
  by_cases e1:b=D
  ·exact Sh.has_o (x:=o') (if_pos e1)
  ·by_cases e2:b=I
   ·exact Sh.has_o (x:=o) ((if_neg e1).trans (if_pos e2))
   ·rcases z with z|z|z
    ·unfold Sh.has Sh.put at *;simpa[e1,e2]using z
    ·exact absurd z e2
    ·exact absurd z e1
theorem jC{A:Around}{E:Value→Shared→Prop}{s:Shared}{Q:Value→Shared→Prop}{use:Option (Value→Sem Unit)}{x:Str}{px pos ipos:Pos}{elt iter:Expr}{ifs:List Expr}{scope:Scope}{ts us:List T}{σend:Loc}
  (rm:Rm n A) (ok:EnvOk ZU pv) (r:Rel ZV w C hb ZU pv S g m σ none s.heap) (a:r7 ZV w C hb n ZU pv iter σ ZZ ts) (hs:∀x,foldedSetIterable iter ZU x=pure x) (c:CompSc ZU scope x)
  (hx:∀a,ZZ.lookup x=some a→∃t,a= .f t) (hσ:∀y a,ZZ.lookup y=some a→y≠x→scope.names.lookup y≠some .local) (hσ':∀y a,σend.lookup y=some a→y≠x→scope.names.lookup y≠some .local)
  (J:∀env' pv',(∀y,env'.kindOf y=kdC scope ZU.kindOf y)→EnvOk env' pv'→CompJ ZV w C hb n env' pv' x ifs elt ts (ZZ.del x) us σend) (hsz:ts.length≤16777216)
  (k:∀(S':Sh)(h':Heap)(tk:Nat)(D L:Addr)(oL:Obj)(mL:Str→Option Value),Ext w S g S' h'→Rel ZV w C hb ZU pv S' (g.put L oL) m (Loc.back ZZ σend x) (some (.ref D,.ol us)) h'→¬ g.has L→¬ S'.has L→(∀b,Vis ZU b→b≠L)→h'.get? L=some oL→(∀h2:Heap,h2.get? L=some oL→h2.Ns L mL)→
   compPost (model ZV w) A E use Q (.ref D) L (.ok .next) {s with heap:=h',toks:=tk}) :
  wpAny (model ZV w) A (comprehension (.ListComp elt [⟨.Name x px,iter,ifs,0⟩] scope pos) scope ZU ipos (newList []) false (eval iter ZU) use) Q E s:=by
 obtain⟨cl,hclo,hcl,hhas⟩:=c.clo ok
 refine wpAny_comprehension_free rfl hs hclo c.kind c.names (a A E S g m s _ rm ok r λS₁ h₁ tk I ob fp P St e₁ r₁ ng nS vz IT st₀=>?_)
 have it:=IT A rm.hh
 have nwD:h₁.get? h₁.objs.size=none:=fresh (Nat.le_refl _)
 refine wpAny_newObj_type (wpAny_newFunctionEnv c.cell (by intro y hy;simp at hy) (λh₂ hns hsb=>?_) c.kind)
 dsimp only at hns hsb ⊢
 obtain⟨eD,rD,ngD,nSD,vzD⟩:=r₁.grip (o:=lO [] 0) rfl
 generalize hH:h₁.push {cls:=.type "list",dict:=none,data:=.seq ([]:List Value).toArray}=H at hns hsb ⊢
 have hH':h₁.push (lO [] 0)=H:=hH
 rw[hH']at eD rD
 generalize hL:H.objs.size=L at hns hsb ⊢
 have hLn:H.get? L=none:=hL ▸ fresh (Nat.le_refl _)
 have hDL:h₁.objs.size≠L:=by rw[←hL,←hH,Heap.size_push];exact Nat.ne_of_lt (Nat.lt_succ_self _)
 have old:∀b o,H.get? b=some o→h₂.get? b=some o:=λb o e=>by
  have hb:b≠L:=λz=>by rw[z,hLn]at e;cases e
  exact(hsb.2 b hb).trans (Heap.get?_push_of_some _ e)
 have hIL:I≠L:=λz=>by
  have:(g.put I ob).o I=some ob:=by simp[Sh.put]
  have:=eD.kp.o I ob this
  rw[z,hLn]at this;cases this
 have hDI:h₁.objs.size≠I:=λz=>ngD (z ▸ Sh.has_o (x:=ob) (by simp[Sh.put]))
 have hns':h₂.Ns L λ_=>none:=by simpa using hns
 obtain⟨ok',r3⟩:=rD.enter old hLn ok c hcl hhas hns' hσ
 have IV:∀b,Vis ZU b→b≠I:=vz
 have npI:I∉pv:=λz=>(r₁.priv I z).2.2 (Sh.has_o (x:=ob) (by simp[Sh.put]))
 have npD:h₁.objs.size∉pv:=λz=>by obtain⟨o,ho⟩:=(r₁.priv _ z).1;rw[nwD]at ho;cases ho
 rw[qy npD (λz=>vzD _ z rfl),qy npI (λz=>vz _ z rfl)]at r3
 have rO:Rel ZV w C hb ZU pv S₁ g m ZZ none h₂:=((rD.ungrip ngD).ungrip ng).keep old|>.2
 have ngI':¬ (k6 ZU pv h₂ g).has I:=λz=>by
  rcases lay_has z with z|z|z
  ·exact npI z
  ·exact vz _ z rfl
  ·exact ng z
 have ngD':¬ (k6 ZU pv h₂ g).has h₁.objs.size:=λz=>by
  rcases lay_has z with z|z|z
  ·exact npD z
  ·exact vzD _ z rfl
  ·exact ngD ((aX ng).has z)
 generalize hD:h₁.objs.size=D at *
 generalize hg0:k6 ZU pv h₂ g=g0 at *
 have cV:∀b,Vis (compEnvC scope cl L ZU) b→b=L∨Vis ZU b:=λb hb=>by
  rcases hb with rfl|⟨y,hy⟩
  ·exact .inl rfl
  ·exact .inr (.inr ⟨y,(hcl y b hy).1⟩)
 have cVI:∀b,Vis (compEnvC scope cl L ZU) b→b≠I:=λb hb z=>(cV b hb).elim (λq=>hIL (z.symm.trans q)) λq=>vz b q z
 have cVD:∀b,Vis (compEnvC scope cl L ZU) b→b≠D:=λb hb z=>(cV b hb).elim (λq=>hDL (z.symm.trans q)) λq=>vzD b q z
 have kd:=gm (scope:=scope) (cl:=cl) (L:=L) (ZU:=ZU) ok.kind
 have kx:(compEnvC scope cl L ZU).kindOf x=some .local:=by rw[kd,kdC,c.hx];rfl
 have lj:=J (compEnvC scope cl L ZU) [L] kd ok'
 suffices loop:∀tk,codeAny (model ZV w) A (.compLoop (.ListComp elt [⟨.Name x px,iter,ifs,0⟩] scope pos) 0 (.ref I) (.ref D) (compEnvC scope cl L ZU)) (compPost (model ZV w) A E use Q (.ref D) L) {s with heap:=h₂,toks:=tk} by
  have st₂:St 0 h₂:=it.walk.frame _ _ _ st₀ λb hb o ho=>old b o (by rw[←hH];exact Heap.get?_push_of_some _ ho)
  exact codeAny_compStart_list (loop _) (it.walk.self 0 _ _ _ st₂ (loop _))
 intro tk₂
 have st₂:St 0 h₂:=it.walk.frame _ _ _ st₀ λb hb o ho=>old b o (by rw[←hH];exact Heap.get?_push_of_some _ ho)
 have keepSt:∀{i:Nat}{ob'':Obj}{S'':Sh}{h2 h3:Heap},(∀b o,S''.o b=some o→h3.get? b=some o)→S₁.Le S''→h3.get? I=some ob''→h2.get? I=some ob''→S''.In w h2→St i h2→St i h3:=λk1 l1 k2 k3 i2 q=>
  it.walk.frame _ _ _ q λb hb o ho=>by
   rcases it.fp b hb with rfl|⟨o',ho'⟩
   ·exact k2.trans (k3.symm.trans ho)
   ·exact k1 b _ ((l1.o _ _ ho').trans ((i2.o _ _ (l1.o _ _ ho')).symm.trans ho))
 have gI1:∀o o':Obj,((g0.put I o).put D o').o I=some o:=λo o'=>(if_neg hDI.symm).trans (if_pos rfl)
 have gD1:∀o o':Obj,((g0.put I o).put D o').o D=some o':=λo o'=>if_pos rfl
 refine codeAny_compLoop_tests (CompI ts us s S₁ (λts' σ' us'=>CompJ ZV w C hb n (compEnvC scope cl L ZU) [L] x ifs elt ts' σ' us' σend) (λS' ob' ys nD m' σ' h'=>Rel ZV w C hb (compEnvC scope cl L ZU) [L] S' ((g0.put I ob').put D (lO ys nD)) m' σ' none h')
   (RA ZV w C) St (λS'=>∀b,(g0.has b∨b=I∨b=D)→S'.has b→S₁.has b) λm'=>∀y,y≠x→kdC scope ZU.kindOf y≠some .local→m' y=m y) ?_ ts.length
   ⟨ts,_,us,[],S₁,_,h₂,tk₂,ob,[],0,rfl,Nat.le_refl _,by simp,rfl,by simp,lj,rfl,.refl _,r3,.nil,by simpa using st₂,λb _ z=>z,λy _ hy=>by unfold mC;rw[if_neg hy]⟩
 intro kk s' hI
 obtain⟨ts',σ',us',done,S',m',h',tk',ob',ys,nD,rfl,hle,hdrop,hus,hdn,cj,rfl,le',r',ra',st',nw',hm'⟩:=hI
 have nSI:¬ S'.has I:=λz=>nS (nw' I (.inr (.inl rfl)) z)
 have nSD':¬ S'.has D:=λz=>nSD (nw' D (.inr (.inr rfl)) z)
 cases ts' with
 |nil=>
  obtain⟨rfl,rfl⟩:=cj.nilE
  refine it.walk.done {s with heap:=h',toks:=tk'} _ _ (by simpa using st') λh'' tk'' kp=>?_
  have kp':∀b x,b≠I→h'.get? b=some x→h''.get? b=some x:=λb x q=>kp b x (by simpa using q)
  have rI:=r'
  rw[iq (λz=>hDI z.symm)]at rI
  have ngI2:¬ (g0.put D (lO ys nD)).has I:=λz=>(put_has z).elim (λz=>hDI z.symm) ngI'
  have r'':=rI.dropI (h':=h'') ngI2 nSI cVI kp'
  obtain⟨mL,⟨oL,es,ep,hoL,hrest⟩,hmL⟩:=r''.vars.loc
  have hoL':h''.get? L=some oL:=hoL
  have nSL:¬ S'.has L:=(r''.priv L (.head _)).2.1
  have ngL:¬ g.has L:=λz=>(r''.priv L (.head _)).2.2 (((hg0 ▸ rO.layLe:g.Le g0).trans (aX ngD')).has z)
  have npL:L∉pv:=λz=>by obtain⟨o,ho⟩:=(rD.priv L z).1;rw[hLn]at ho;cases ho
  have nvL:∀b,Vis ZU b→b≠L:=λb hb z=>by obtain⟨o,ho⟩:=rD.visHas hb;rw[z,hLn]at ho;cases ho
  have ngD0:¬ g.has D:=λz=>ngD ((aX ng).has z)
  have hus':us=done:=by simpa using hus.symm
  subst hus'
  have rf:=rO.leave (x:=x) (D:=D) (nD:=nD) ok.loc r'' le' (by rw[hg0];exact aX ngD') (by rw[←hg0];rfl) (λb hb hs=>nw' b ((put_has hb).elim (λz=>.inr (.inr z)) .inl) hs) (λy a hy e=>hm' y hy ?_) hx hoL' ngL npL (by simp[Sh.put]) nSD' ngD0 npD hDL ra'
  ·refine k S' h'' tk'' D L oL mL ?_ rf ngL nSL nvL hoL' λh2 e=>⟨oL,es,ep,e,hrest⟩
   exact e₁.trans ⟨le',rf.st,(rf.ungrip ngL).kp,λb hb hs=>nw' b (.inl (((hg0 ▸ rO.layLe:g.Le g0)).has hb)) hs⟩
  ·intro z
   refine hσ' y a e hy ?_
   unfold kdC at z
   cases q:scope.names.lookup y with
   |none=>rw[q]at z;cases z
   |some kk=>
    rw[q]at z
    simp only[Option.map_some,Option.some.injEq]at z
    split at z
    ·cases z
    ·rw[z]
 |cons t ts'=>
  obtain⟨hlen,hget,hnext,hst,hle2⟩:=jP hle hdrop
  refine it.walk.item (ts.length - (t ::ts').length) {s with heap:=h',toks:=tk'} _ _ hlen st' λv h'' tk'' pv' st'' kp=>?_
  have kp':∀b x,b≠I→h'.get? b=some x→h''.get? b=some x:=λb x q=>kp b x (by simpa using q)
  obtain⟨ob'',hob⟩:=it.ex _ _ st''
  have rI:=r'
  rw[iq (λz=>hDI z.symm)]at rI
  have ngI2:¬ (g0.put D (lO ys nD)).has I:=λz=>(put_has z).elim (λz=>hDI z.symm) ngI'
  have r'':=rI.reput ngI2 nSI kp' hob cVI
  rw[←iq (λz=>hDI z.symm)]at r''
  obtain⟨t',ht',rv⟩:=it.item _ _ hlen pv'
  rw[hget]at ht';cases ht'
  have kind':bO (compEnvC scope cl L ZU) [L] x:=.inl kx
  refine wpAny_assign_Name (((r''.res (rv.mono le')).store (s:={s with heap:=h'',toks:=tk''}) ok' kind' λh3 tk3 e3 r3=>?_))
  have hm3:∀y,y≠x→kdC scope ZU.kindOf y≠some .local→upd m' x v y=m y:=λy hy hk=>by unfold upd;rw[if_neg hy];exact hm' y hy hk
  have st3:St (ts.length - (t ::ts').length+1) h3:=keepSt (e3.st.o) le' (e3.kp.o I ob'' (gI1 _ _)) hob r''.st st''
  have nwI:∀{S4:Sh}{h4:Heap},Ext w S' ((g0.put I ob'').put D (lO ys nD)) S4 h4→∀b,(g0.has b∨b=I∨b=D)→S4.has b→S₁.has b:=λe b hb hs=>nw' b hb (e.nw b (vg.mpr hb) hs)
  have stN:∀{S4:Sh}{h4:Heap},Ext w S' ((g0.put I ob'').put D (lO ys nD)) S4 h4→h3.get? I=some ob''→St (ts.length - ts'.length) h4:=λe h3I=>by
   have q:=keepSt (S'':=S') (λb o ho=>e.st.o b o (e.le.o b o ho)) le' (e.kp.o I ob'' (gI1 _ _)) h3I e3.st st3
   rwa [hst]at q
  rcases cj.consE with⟨_,tests,cj⟩|⟨u,us'',_,_,rfl,tests,elts,cj⟩
  ·
   refine tests A _ S' _ _ {s with heap:=h3,toks:=tk3} _ rm ok' r3 λS4 h4 tk4 e4 r4=>?_
   rw[if_neg (by decide)]
   refine⟨ts'.length,by simp,ts',_,us',done,S4,_,h4,tk4,ob'',ys,nD,rfl,hle2,hnext,hus,Nat.le_of_succ_le hdn,cj,rfl,le'.trans e4.le,r4,ra'.mono e4.le,?_,nwI (e3.trans e4),hm3⟩
   exact stN (e3.trans e4) (e3.kp.o I ob'' (gI1 _ _))
  ·
   refine tests A _ S' _ _ {s with heap:=h3,toks:=tk3} _ rm ok' r3 λS4 h4 tk4 e4 r4=>?_
   rw[if_pos rfl]
   refine elts A _ S4 _ _ {s with heap:=h4,toks:=tk4} _ rm ok' r4 λS5 h5 tk5 vx e5 r5 rx=>?_
   have hD5:h5.get? D=some (lO ys nD):=r5.kp.o D _ (gD1 _ _)
   have hlys:ys.length≤16777216:=by rw[ra'.length];exact Nat.le_trans (Nat.le_trans (Nat.le_add_right _ _) hdn) hsz
   refine wpAny_list_append_plain (s:={s with heap:=h5,toks:=tk5}) ⟨nD,hD5⟩ (λh6 hp6 hs6=>?_) (by rw[List.size_toArray,sizeLine_eq];exact hlys)
   obtain⟨n6,hp6⟩:=hp6
   rw[List.push_toArray]at hp6
   have nSD5:¬ S5.has D:=λz=>nSD (nwI (e3.trans (e4.trans e5)) D (.inr (.inr rfl)) z)
   have r6:=r5.reput (o':=lO (ys ++ [vx]) n6) (λz=>(put_has z).elim hDI ngD') nSD5 (λb x hb e=>(hs6.2 b hb).trans e) hp6 cVD
   refine⟨ts'.length,by simp,ts',_,us'',done ++ [u],S5,_,h6,tk5,ob'',ys ++ [vx],n6,rfl,hle2,hnext,by simpa using hus,by simp only[List.length_cons,List.length_append,List.length_nil]at hdn ⊢;(apply kZ;assumption),cj,rfl,(le'.trans e4.le).trans e5.le,r6,(ra'.mono (e4.le.trans e5.le)).append (.cons rx .nil),?_,nwI (e3.trans (e4.trans e5)),hm3⟩
   have:=stN (e3.trans (e4.trans e5)) (e3.kp.o I ob'' (gI1 _ _))
   refine keepSt (S'':=S5) r6.st.o ((le'.trans e4.le).trans e5.le) (r6.kp.o I ob'' (gI1 _ _)) (r5.kp.o I ob'' (gI1 _ _)) r5.st this
theorem LoopJ.nilE{x:Str}{body:List Stmt}{kk:Nat}{σ:Loc}{o:O}(h:LoopJ ZV w C hb n ZU pv x body kk [] σ o): .nx σ=o:=h
theorem LoopJ.consE{x:Str}{body:List Stmt}{kk:Nat}{t:T}{ts:List T}{σ:Loc}{o:O}(h:LoopJ ZV w C hb n ZU pv x body kk (t ::ts) σ o):
  (∃ZZ,ExJ ZV w C hb n ZU pv body (σ.set x (.f t)) (.nx ZZ)∧LoopJ ZV w C hb n ZU pv x body kk ts (ZZ.take kk) o)∨(∃ZZ,ExJ ZV w C hb n ZU pv body (σ.set x (.f t)) (.ct ZZ)∧LoopJ ZV w C hb n ZU pv x body kk ts (ZZ.take kk) o)∨
   (∃ZZ,.nx (ZZ.take kk)=o∧ExJ ZV w C hb n ZU pv body (σ.set x (.f t)) (.bk ZZ))∨∃ZZ a,.rt a ZZ=o∧ExJ ZV w C hb n ZU pv body (σ.set x (.f t)) (.rt a ZZ):=h
inductive ForI(ts:List T)(s:Shared)(S₁:Sh)(Lj:List T→Loc→Prop)(Rl:Sh→Obj→(Str→Option Value)→Loc→Heap→Prop)(Ex:Sh→Heap→Prop)(Ni:Sh→Prop)(St:Nat→Heap→Prop)(k:Nat)(s':Shared):Prop
 |mk (ts':List T) (σ':Loc) (m':Str→Option Value) (S':Sh) (h':Heap) (tk':Nat) (ob':Obj) (hk:k=ts'.length) (hle:ts'.length≤ts.length) (hdrop:ts.drop (ts.length - ts'.length)=ts') (lj:Lj ts' σ') (hs:s'={s with heap:=h',toks:=tk'})
  (le':S₁.Le S') (e':Ex S' h') (r':Rl S' ob' m' σ' h') (nS':Ni S') (st':St (ts.length - ts'.length) h'):ForI ts s S₁ Lj Rl Ex Ni St k s'
theorem FR{kk:Nat}{x:Str}{px pos:Pos}{it:Expr}{body:List Stmt}{ts:List T}{o:O}(a:r7 ZV w C hb n ZU pv it σ ZZ ts)(hx:bO ZU pv x)(l:LoopJ ZV w C hb n ZU pv x body kk ts ZZ o)
  (hs:∀x,foldedSetIterable it ZU x=pure x):du ZV w C hb n ZU pv (.For (.Name x px) it body [] pos) σ o:=λA E S g m s Q rm ok r p=>by
 refine wpAny_For (a A E S g m s _ rm ok r λS₁ h₁ tk I ob fp P St e₁ r₁ ng nS vz IT st₀=>?_) hs
 have it:=IT A rm.hh
 have keepSt:∀{i:Nat}{ob'':Obj}{S'':Sh}{h2 h3:Heap},(∀b o,S''.o b=some o→h3.get? b=some o)→S₁.Le S''→h3.get? I=some ob''→h2.get? I=some ob''→S''.In w h2→St i h2→St i h3:=λk1 l1 k2 k3 i2 q=>
  it.walk.frame _ _ _ q λb hb o ho=>by
   rcases it.fp b hb with rfl|⟨o',ho'⟩
   ·exact k2.trans (k3.symm.trans ho)
   ·exact k1 b _ ((l1.o _ _ ho').trans ((i2.o _ _ (l1.o _ _ ho')).symm.trans ho))
 have gI:∀o:Obj,(g.put I o).o I=some o:=λo=>if_pos rfl
 refine codeAny_forLoop_any (ForI ts s S₁ (λts' σ'=>LoopJ ZV w C hb n ZU pv x body kk ts' σ' o) (λS' ob' m' σ' h'=>Rel ZV w C hb ZU pv S' (g.put I ob') m' σ' none h') (Ext w S g) (λS'=>¬ S'.has I) St) ?_ ts.length ⟨ts,ZZ,m,S₁,h₁,tk,ob,rfl,Nat.le_refl _,by simp,l,rfl,.refl _,e₁,r₁,nS,by simpa using st₀⟩
 intro k s' hI
 obtain⟨ts',σ',m',S',h',tk',ob',rfl,hle,hdrop,lj,rfl,le',e',r',nS',st'⟩:=hI
 cases ts' with
 |nil=>
  have hn:=lj.nilE
  clear lj l
  subst hn
  refine it.walk.done {s with heap:=h',toks:=tk'} _ _ (by simpa using st') λh'' tk'' kp=>?_
  have rd:=r'.dropI (h':=h'') ng nS' vz λb x q=>kp b x (by simpa using q)
  exact wpAny_execs_nil (p S' h'' tk'' m' ⟨e'.le,rd.st,rd.kp,e'.nw⟩ rd)
 |cons t ts'=>
  obtain⟨hlen,hget,hnext,hst,hle2⟩:=jP hle hdrop
  refine it.walk.item (ts.length - (t ::ts').length) {s with heap:=h',toks:=tk'} _ _ hlen st' λv h'' tk'' pv' st'' kp=>?_
  obtain⟨ob'',hob⟩:=it.ex _ _ st''
  have r'':=r'.reput ng nS' (λb x q=>kp b x (by simpa using q)) hob vz
  obtain⟨t',ht',rv⟩:=it.item _ _ hlen pv'
  rw[hget]at ht';cases ht'
  have e'':Ext w S g S' h'':=⟨e'.le,r''.st,(r''.ungrip ng).kp,e'.nw⟩
  refine wpAny_pure ?_
  refine wpAny_assign_Name (((r''.res (rv.mono le')).store (s:={s with heap:=h'',toks:=tk''}) ok hx λh3 tk3 e3 r3=>?_))
  have st3:St (ts.length - (t ::ts').length+1) h3:=keepSt (e3.st.o) le' (e3.kp.o I ob'' (gI _)) hob r''.st st''
  rw[hst]at st3
  have again:∀{S4:Sh}{h4:Heap}{tk4:Nat}{m4:Str→Option Value}{σ4:Loc},LoopJ ZV w C hb n ZU pv x body kk ts' σ4 o→Ext w S' (g.put I ob'') S4 h4→Rel ZV w C hb ZU pv S4 (g.put I ob'') m4 σ4 none h4→
    ∃k,k < (t ::ts').length∧ForI ts s S₁ (λts' σ'=>LoopJ ZV w C hb n ZU pv x body kk ts' σ' o) (λS' ob' m' σ' h'=>Rel ZV w C hb ZU pv S' (g.put I ob') m' σ' none h') (Ext w S g) (λS'=>¬ S'.has I) St k {s with heap:=h4,toks:=tk4}:=λ{S4 h4 tk4 m4 σ4}lj e4 r4=>
   ⟨ts'.length,Nat.lt_succ_self _,ts',σ4,m4,S4,h4,tk4,ob'',rfl,hle2,hnext,lj,rfl,le'.trans e4.le,e''.trans ⟨e4.le,e4.st,(r4.ungrip ng).kp,λb hg hs=>e4.nw b ((aX ng).has hg) hs⟩,r4,λz=>nS' (e4.nw I (Sh.has_o (gI ob'')) z),
    keepSt (S'':=S') (λb o ho=>e4.st.o b o (e4.le.o b o ho)) le' (e4.kp.o I ob'' (gI _)) (e3.kp.o I ob'' (gI _)) e3.st st3⟩
  have fin:∀{S4:Sh}{h4:Heap},Ext w S' (g.put I ob'') S4 h4→g.In w h4→Ext w S g S4 h4:=λ{S4 h4}e4 gi=>e''.trans (e4.ungrip gi ng)
  rcases lj.consE with⟨_,b,lj⟩|⟨_,b,lj⟩|⟨_,hn,b⟩|⟨_,_,hn,b⟩
  ·exact b A _ S' (g.put I ob'') _ {s with heap:=h3,toks:=tk3} _ rm ok r3 λS4 h4 tk4 m4 e4 r4=>again lj (e3.trans e4) (r4.sub (bW kk _))
  ·exact b A _ S' (g.put I ob'') _ {s with heap:=h3,toks:=tk3} _ rm ok r3 λS4 h4 tk4 m4 e4 r4=>again lj (e3.trans e4) (r4.sub (bW kk _))
  ·clear again lj l
   subst hn
   exact b A _ S' (g.put I ob'') _ {s with heap:=h3,toks:=tk3} _ rm ok r3 λS4 h4 tk4 m4 e4 r4=>p S4 h4 tk4 m4 (fin (e3.trans e4) (r4.ungrip ng).kp) ((r4.ungrip ng).sub (bW kk _))
  ·clear again lj l
   subst hn
   exact b A _ S' (g.put I ob'') _ {s with heap:=h3,toks:=tk3} _ rm ok r3 λS4 h4 tk4 v4 m4 e4 r4=>p S4 h4 tk4 v4 m4 (fin (e3.trans e4) (r4.ungrip ng).kp) (r4.ungrip ng)
end
section
variable{ZV:Program}{w:World}{C:Addr}{hb:Heap}{ZU:Env}{pv:List Addr}{S g:Sh}{m:Str→Option Value}{σ σ' ZZ ZY ZX:Loc}{ρ:Option (Value×V)}{h:Heap}{n:Nat}{K:Frag}{mg mb:Str→Option Value}{fI:Addr}
structure CompOk(ZV:Program)(w:World)(C:Addr)(hb:Heap)(n:Nat)(ZU:Env)(pv:List Addr)(x:Str)(elt iter:Expr)(ifs:List Expr)(scope:Scope)(σ ZZ:Loc)(ts us:List T)(σend:Loc):Prop where
 it:r7 ZV w C hb n ZU pv iter σ ZZ ts
 hs:∀x,foldedSetIterable iter ZU x=pure x
 c:CompSc ZU scope x
 hx:∀a,ZZ.lookup x=some a→∃t,a= .f t
 h1:∀y a,ZZ.lookup y=some a→y≠x→scope.names.lookup y≠some .local
 h2:∀y a,σend.lookup y=some a→y≠x→scope.names.lookup y≠some .local
 J:∀env' pv',(∀y,env'.kindOf y=kdC scope ZU.kindOf y)→EnvOk env' pv'→CompJ ZV w C hb n env' pv' x ifs elt ts (ZZ.del x) us σend
 hz:ts.length≤16777216
theorem pe{x:Str}{px pos:Pos}{elt iter:Expr}{ifs:List Expr}{scope:Scope}{ts us:List T}{σend:Loc}(c:CompOk ZV w C hb n ZU pv x elt iter ifs scope σ ZZ ts us σend):
  EvV ZV w C hb n ZU pv (.ListComp elt [⟨.Name x px,iter,ifs,0⟩] scope pos) σ (Loc.back ZZ σend x) (.ol us):=λA E S g m s Q rm ok r k=>by
 rw[eval_ListComp]
 refine jC (use:=none) rm ok r c.it c.hs c.c c.hx c.h1 c.h2 c.J c.hz λS' h' tk D L oL mL e' r' ng nS vz hoL hns=>?_
 refine⟨mL,hns _ hoL,λh'' sb=>?_⟩
 have r'':=r'.dropI ng nS vz λb x hb e=>(sb.2 b hb).trans e
 exact k S' h'' tk _ ⟨e'.le,r''.st,r''.kp,e'.nw⟩ r''
theorem jc{x y:Str}{px py pos spos:Pos}{elt iter:Expr}{ifs:List Expr}{scope:Scope}{ts us:List T}{σend:Loc}(c:CompOk ZV w C hb n ZU pv x elt iter ifs scope σ ZZ ts us σend)(hy:bO ZU pv y)
  (hsw:swapsWith (.ListComp elt [⟨.Name x px,iter,ifs,0⟩] scope pos) (some (.Name y py)) spos.line ZU=pure true) :
  du ZV w C hb n ZU pv (.Assign [.Name y py] (.ListComp elt [⟨.Name x px,iter,ifs,0⟩] scope pos) spos) σ (.nx ((Loc.back ZZ σend x).set y (.ol us))):=λA E S g m s Q rm ok r k=>by
 rw[exec_Assign_Name_used _ _ _ _ hsw]
 refine wpAny_bind (wpAny_standAt (wpAny_bind ?_))
 show wpAny _ A (do let _ ←comprehension (.ListComp elt [⟨.Name x px,iter,ifs,0⟩] scope pos) scope ZU _ (newList []) false (eval iter ZU) (some (assign (.Name y py) ZU))) _ _ s
 refine wpAny_bind (wpAny_mono (jC (use:=some (assign (.Name y py) ZU)) (Q:=λ_ s'=>Q .next s') rm ok r c.it c.hs c.c c.hx c.h1 c.h2 c.J c.hz λS' h' tk D L oL mL e' r' ng nS vz hoL hns=>?_) (λ_ s' hq=>wpAny_pure (wpAny_pure hq)) λ_ _ e=>e)
 show wpAny _ A (assign (.Name y py) ZU (.ref D)) _ _ _
 refine wpAny_assign_Name (r'.store ok hy λh'' tk'' e'' r''=>?_)
 have hoL2:h''.get? L=some oL:=e''.kp.o L oL (by simp[Sh.put])
 refine⟨mL,hns _ hoL2,λh3 sb=>?_⟩
 have r3:=r''.dropI (h':=h3) ng nS vz λb x hb e=>(sb.2 b hb).trans e
 exact k S' h3 tk'' _ ⟨e'.le,r3.st,r3.kp,e'.nw⟩ r3
end
section
variable{ZV:Program}{w:World}{C:Addr}{hb:Heap}{ZU:Env}{pv:List Addr}{S g:Sh}{m:Str→Option Value}{σ σ' ZZ ZY ZX:Loc}{ρ:Option (Value×V)}{h:Heap}{n:Nat}{K:Frag}{mg mb:Str→Option Value}{fI:Addr}
theorem Rel.addres{h':Heap}{v:Value}{a:V}{fp:List Addr}(r:Rel ZV w C hb ZU pv S g m σ none h)(kp:∀b x,h.get? b=some x→h'.get? b=some x)(ok:VOk ZV w C S h' v a fp)(nw:∀b∈fp,h.get? b=none):
  Ext w S g S h'∧Rel ZV w C hb ZU pv S g m σ (some (v,a)) h':=by
 obtain⟨e',r'⟩:=r.keep kp
 exact⟨e',{r' with slots:=Own.add (k:=none) r.slots kp ok nw r.st r.kp (λb hb=>(r.priv b hb).1) λi v' a' x=>slot_none x}⟩
theorem mq{a:Addr}{o:Obj}{cd:ClassData}(X:K.In hb)(ho:hb.get? a=some o)(hd:o.data= .cls cd)(hs:specialIn K (.ref a) "__call__"=some (some (.builtin "type.__call__"))):bq ZV w hb (.ref a):=λh k=>by
 refine⟨.machine,.inr (.inl rfl),?_⟩
 unfold keeperOf
 refine(Looks.ld (part:=none) (k _ _ ho)).andThen ?_
 rw[hd]
 exact(looks_specialIn (X.keeps k) hs).andThen (Looks.of_pure rfl)
structure Ini(h₀:Heap)(C L x d:Addr)(ml:Str→Option Value)(es:List DictEntry)(nn:Nat)(h:Heap):Prop where
 old:∀b o,h₀.get? b=some o→h.get? b=some o
 ns:h.Ns L ml
 obj:h.get? x=some (instObj C d)
 dic:h.get? d=some (dictOf es nn)
theorem dh{A:Around}{E:Value→Shared→Prop}{s:Shared}{Q:Flow→Shared→Prop}{L x d:Addr}{ml:Str→Option Value}{es:List DictEntry}{nn:Nat}{nm:Str}{e:Expr}{v:Value}{p1 p2 p3:Pos}{h₀:Heap}{tk:Nat}
  (c:ClsOk K C fI) (X:K.In h₀) (hk:ZU.scope.kind= .function) (hL:ZU.locals=L) (ks:ZU.kindOf "self"=some .local) (i:Ini h₀ C L x d ml es nn h) (fd:h₀.get? d=none) (hLd:L≠d) (hxd:x≠d)
  (hs:ml "self"=some (.ref x)) (hn:nm∈dX) (hl:(getL nm es).isSome=true) (hz:es.length≤900)
  (he:∀(Q:Value→Shared→Prop),Q v {s with heap:=h,toks:=tk}→wpAny (model ZV w) A (eval e ZU) Q E {s with heap:=h,toks:=tk}) (hsw:swapsWith e (some (.Attribute (.Name "self" p1) nm p2)) p3.line ZU=pure false)
  (q:∀h' tk',Ini h₀ C L x d ml (putL nm (PyData.keyHash w.params nm) (.str nm (tk+1)) v es) (putN nm es nn) h'→Q .next {s with heap:=h',toks:=tk'}) :
  wpAny (model ZV w) A (exec (.Assign [.Attribute (.Name "self" p1) nm p2] e p3) ZU) Q E {s with heap:=h,toks:=tk}:=by
 refine plainObj_wpAny_Assign_Attribute (he _ (wpAny_Name (wpAny_loadName_local hk ks (hL ▸ i.ns) hs ?_) (by decide))) hsw
 refine g6 (s:={s with heap:=h,toks:=tk}) c (X.keeps i.old) i.obj rfl rfl rfl i.dic hn hl hz λh' hd' sb=>?_
 refine q h' _ ⟨λb o e=>?_,i.ns.extBut sb.extBut hLd,(sb.2 x hxd).trans i.obj,hd'⟩
 have:b≠d:=λz=>by rw[z,fd]at e;cases e
 exact(sb.2 b this).trans (i.old b o e)
inductive InitBody(fd:FuncData):Prop
 |mk (p1 p2 p3 p4 p5 p6 p7 p8 p9 q1 q2 q3 q4 q5 q6 q7 q8 q9 k1 k2 r1 r2) (h:fd.body= .stmts [
  .Assign [.Attribute (.Name "self" p1) "kind" p2] (.Name "kind" p3) q1,
  .Assign [.Attribute (.Name "self" p4) "items" p5] (.Name "items" p6) q2,
  .Assign [.Attribute (.Name "self" p7) "attrs" p8] (.Name "attrs" p9) q3,
  .Assign [.Attribute (.Name "self" q4) "shared" q5] (.Constant (.bool false) k1 r1) q6,
  .Assign [.Attribute (.Name "self" q7) "loose" q8] (.Constant (.bool false) k2 r2) q9]):InitBody fd
structure InitOk(K:Frag)(hb:Heap)(fI:Addr)(fd:FuncData):Prop where
 obj:∃o,hb.get? fI=some o∧o.data= .func fd
 body:InitBody fd
 cd:hb.CodeRec fd.code fd.qualname
 clo:fd.closure=[]
 co:fd.scope.isCoroutine=false
 gen:fd.scope.isGenerator=false
 kind:fd.scope.kind= .function
 par:∀x∈(["self","kind","items","attrs"]:List Str),fd.scope.names.lookup x=some .local
 bind4:∀(a b c d:Value)S,peek K S (bindArgs fd ⟨[a,b,c,d],[]⟩)=some ((["self","kind","items","attrs"]:List Str).zip [a,b,c,d])
 bind3:∀(a b c:Value)S,peek K S (bindArgs fd ⟨[a,b,c],[]⟩)=some ((["self","kind","items","attrs"]:List Str).zip [a,b,c,.none])
theorem lJ{A:Around}{E:Value→Shared→Prop}{s:Shared}{Q:Value→Shared→Prop}{fd:FuncData}{rest:List Value}{vk vi va:Value}(c:ClsOk K C fI)(X:K.In s.heap)(F:InitOk K s.heap fI fd)(lim:s.heap.NoLimit)(rm:Rm (n+1) A)
  (hb:∀(x:Value)S,peek K S (bindArgs fd ⟨x ::rest,[]⟩)=some ((["self","kind","items","attrs"]:List Str).zip [x,vk,vi,va]))
  (q:∀h' tk x d,h'.get? x=some (instObj C d)→VD w h' d (vk,vi,va)→x≠d→s.heap.get? x=none→s.heap.get? d=none→(∀b o,s.heap.get? b=some o→h'.get? b=some o)→Q (.ref x) {s with heap:=h',toks:=tk}) :
  wpAny (model ZV w) A (call (.ref C) rest []) Q E s:=by
 obtain⟨hh,g,d,t,os⟩:=s
 refine wpAny_call (make_core (makes_of X c.mks) (looks_findIn X c.ini) (λself=>bind_fn X self c.fIt) (.inl rfl) ?_)
 have old2:∀b o,hh.get? b=some o→((hh.push emptyDict).push (instObj C hh.objs.size)).get? b=some o:=λb o e=>Heap.get?_push_of_some _ (Heap.get?_push_of_some _ e)
 have hsz:(hh.push emptyDict).objs.size=hh.objs.size+1:=Heap.size_push ..
 have hd0:((hh.push emptyDict).push (instObj C hh.objs.size)).get? hh.objs.size=some (dictOf [] 0):=Heap.get?_push_of_some _ (Heap.get?_push_size _ rfl)
 have hx0:((hh.push emptyDict).push (instObj C hh.objs.size)).get? (hh.objs.size+1)=some (instObj C hh.objs.size):=by rw[←hsz];exact Heap.get?_push_size _ rfl
 generalize hH:(hh.push emptyDict).push (instObj C hh.objs.size)=H at old2 hd0 hx0 ⊢
 have hHs:H.objs.size=hh.objs.size+2:=by rw[←hH,Heap.size_push,Heap.size_push]
 obtain⟨o,ho,hd⟩:=F.obj
 obtain⟨p1,p2,p3,p4,p5,p6,p7,p8,p9,q1,q2,q3,q4,q5,q6,q7,q8,q9,k1,k2,r1,r2,hbody⟩:=F.body
 have keys:∀x:Value,((["self","kind","items","attrs"]:List Str).zip [x,vk,vi,va]).map (·.1)=(["self","kind","items","attrs"]:List Str):=λx=>rfl
 have hdep:(A.under (.builtin "type.__call__" ⟨.ref C ::rest,[]⟩)).depth < recursionLimit:=by
  have h0:=rm.dp
  have e:(Code.builtin "type.__call__" ⟨.ref C ::rest,[]⟩).weight=1:=rfl
  show A.depth+(Code.builtin "type.__call__" ⟨.ref C ::rest,[]⟩).weight < _
  rw[e];(apply yU;assumption;rfl)
 refine bZ hdep (old2 _ _ ho) hd (lim.keeps old2) (F.cd.keeps old2) hbody (kp_binds (X.keeps old2) (hb _)) F.clo (λy hy=>?_) (λs₁ ic=>?_) F.co F.gen F.kind
 ·exact .inl (F.par _ (by rw[←keys (.ref (hh.objs.size+1))];exact List.mem_map_of_mem hy))
 ·obtain⟨h₁,tk,rfl⟩:=ic.toInCall.same
  have kp:=ic.toInCall.keep
  have hns:=ic.toInCall.ns
  have kl:∀y∈(["self","kind","items","attrs"]:List Str),(callEnvC fd H.objs.size fI).kindOf y=some .local:=λy hy=>F.par y hy
  have hml:∀y∈(["self","kind","items","attrs"]:List Str),bindL (callEnvC fd H.objs.size fI).kindOf ((["self","kind","items","attrs"]:List Str).zip [.ref (hh.objs.size+1),vk,vi,va]) (λ_=>none) y=((["self","kind","items","attrs"]:List Str).zip [.ref (hh.objs.size+1),vk,vi,va]).lookup y:=λy hy=>by
   rw[fM _ _ _ _ (by rw[keys];decide) (kl y hy)];simp
  generalize hmm:bindL (callEnvC fd H.objs.size fI).kindOf ((["self","kind","items","attrs"]:List Str).zip [.ref (hh.objs.size+1),vk,vi,va]) (λ_=>none)=ml at hns hml
  have m1:ml "self"=some (.ref (hh.objs.size+1)):=hml _ (by simp)
  have m2:ml "kind"=some vk:=hml _ (by simp)
  have m3:ml "items"=some vi:=hml _ (by simp)
  have m4:ml "attrs"=some va:=hml _ (by simp)
  have fd0:hh.get? hh.objs.size=none:=fresh (Nat.le_refl _)
  have fx0:hh.get? (hh.objs.size+1)=none:=fresh (Nat.le_succ _)
  have hLd:H.objs.size≠hh.objs.size:=by omega
  have hxd:hh.objs.size+1≠hh.objs.size:=by omega
  have ini:Ini hh C H.objs.size (hh.objs.size+1) hh.objs.size ml [] 0 h₁:=⟨λb o e=>kp _ _ (old2 b o e),hns,kp _ _ hx0,kp _ _ hd0⟩
  have var:∀{y:Str}{v:Value}{p:Pos}{h:Heap}{tk:Nat}{A':Around}{E':Value→Shared→Prop}{Q:Value→Shared→Prop},y∈(["self","kind","items","attrs"]:List Str)→ml y=some v→h.Ns H.objs.size ml→Q v ⟨h,g,d,tk,os⟩→
    wpAny (model ZV w) A' (eval (.Name y p) (callEnvC fd H.objs.size fI)) Q E' ⟨h,g,d,tk,os⟩:=λ{y v p h tk A' E' Q}hy hv hn q=>wpAny_Name (wpAny_loadName_local F.kind (kl y hy) hn hv q) (by
   rcases List.mem_cons.mp hy with rfl|hy
   ·decide
   ·rcases List.mem_cons.mp hy with rfl|hy
    ·decide
    ·rcases List.mem_cons.mp hy with rfl|hy
     ·decide
     ·rcases List.mem_singleton.mp hy with rfl;decide)
  refine wpAny_execs_cons (dh (s:=⟨hh,g,d,t,os⟩) c X F.kind rfl (kl _ (by simp)) ini fd0 hLd hxd m1 (by decide) rfl (Nat.le_of_ble_eq_true rfl) (λQ q=>var (by simp) m2 ini.ns q) rfl λh2 tk2 i2=>?_)
  refine wpAny_execs_cons (dh (s:=⟨hh,g,d,t,os⟩) c X F.kind rfl (kl _ (by simp)) i2 fd0 hLd hxd m1 (by decide) rfl (Nat.le_of_ble_eq_true rfl) (λQ q=>var (by simp) m3 i2.ns q) rfl λh3 tk3 i3=>?_)
  refine wpAny_execs_cons (dh (s:=⟨hh,g,d,t,os⟩) c X F.kind rfl (kl _ (by simp)) i3 fd0 hLd hxd m1 (by decide) rfl (Nat.le_of_ble_eq_true rfl) (λQ q=>var (by simp) m4 i3.ns q) rfl λh4 tk4 i4=>?_)
  refine wpAny_execs_cons (dh (s:=⟨hh,g,d,t,os⟩) c X F.kind rfl (kl _ (by simp)) i4 fd0 hLd hxd m1 (by decide) rfl (Nat.le_of_ble_eq_true rfl) (λQ q=>wpAny_Constant_bool q) rfl λh5 tk5 i5=>?_)
  refine wpAny_execs_cons (dh (s:=⟨hh,g,d,t,os⟩) c X F.kind rfl (kl _ (by simp)) i5 fd0 hLd hxd m1 (by decide) rfl (Nat.le_of_ble_eq_true rfl) (λQ q=>wpAny_Constant_bool q) rfl λh6 tk6 i6=>?_)
  refine wpAny_execs_nil ⟨rfl,q h6 tk6 _ _ i6.obj ⟨_,_,.bool false,.bool false,i6.dic,?_⟩ hxd fx0 fd0 i6.old⟩
  exact .cons _ _ _ (.cons _ _ _ (.cons _ _ _ (.cons _ _ _ (.cons _ _ _ .nil))))
theorem rz{fd:FuncData}{tk ti ta:T}(gl:Gl K C fI mg mb hb)(F:InitOk K hb fI fd):CallJ ZV w C hb (n+1) (.ref C) [tk,ti,ta] (.ov tk ti ta):=λZU pv A E S g m σ s vs Q rm ok r q k=>by
 obtain⟨v1,v2,v3,rfl,r1,r2,r3⟩:=ra3 q
 obtain⟨o,ho,hd⟩:=F.obj
 refine lJ (vk:=v1) (vi:=v2) (va:=v3) gl.cls (gl.kin.keeps r.hbIn) ⟨⟨o,r.hbIn _ _ ho,hd⟩,F.body,F.cd.keeps r.hbIn,F.clo,F.co,F.gen,F.kind,F.par,F.bind4,F.bind3⟩ (gl.lim.keeps r.hbIn) rm (λx=>F.bind4 x v1 v2 v3) λh' tk x d hx hd hxd fx fd old=>?_
 obtain⟨e',r'⟩:=r.addres old (v:=.ref x) (a:=.ov _ _ _) (.ov hx hd hxd r1 r2 r3) (λb hb=>by
  rcases List.mem_cons.mp hb with rfl|hb
  ·exact fx
  ·rcases List.mem_singleton.mp hb with rfl;exact fd)
 exact k S h' tk _ e' r'
theorem rZ{fd:FuncData}{tk ti:T}(gl:Gl K C fI mg mb hb)(F:InitOk K hb fI fd):CallJ ZV w C hb (n+1) (.ref C) [tk,ti] (.ov tk ti .none):=λZU pv A E S g m σ s vs Q rm ok r q k=>by
 obtain⟨v1,v2,rfl,r1,r2⟩:=yb q
 obtain⟨o,ho,hd⟩:=F.obj
 refine lJ (vk:=v1) (vi:=v2) (va:=.none) gl.cls (gl.kin.keeps r.hbIn) ⟨⟨o,r.hbIn _ _ ho,hd⟩,F.body,F.cd.keeps r.hbIn,F.clo,F.co,F.gen,F.kind,F.par,F.bind4,F.bind3⟩ (gl.lim.keeps r.hbIn) rm (λx=>F.bind3 x v1 v2) λh' tk x d hx hd hxd fx fd old=>?_
 obtain⟨e',r'⟩:=r.addres old (v:=.ref x) (a:=.ov _ _ _) (.ov hx hd hxd r1 r2 .none) (λb hb=>by
  rcases List.mem_cons.mp hb with rfl|hb
  ·exact fx
  ·rcases List.mem_singleton.mp hb with rfl;exact fd)
 exact k S h' tk _ e' r'
end
section
variable{ZV:Program}{w:World}{C:Addr}{hb:Heap}{ZU:Env}{pv:List Addr}{S g:Sh}{m:Str→Option Value}{σ σ' ZZ ZY ZX:Loc}{ρ:Option (Value×V)}{h:Heap}{n:Nat}{K:Frag}{mg mb:Str→Option Value}{fI:Addr}
theorem Rel.own{x:Str}{a:V}(r:Rel ZV w C hb ZU pv S g m σ ρ h)(hx:σ.lookup x=some a):∃v fp,m x=some v∧VOk ZV w C S h v a fp∧∀b∈fp,¬ S.has b∧¬ g.has b∧b∉pv:=by
 obtain⟨v,hm⟩:=r.known x a hx
 obtain⟨fp,a1,a2⟩:=r.slots
 obtain⟨q,c⟩:=a1 (some x) v a ⟨hx,hm⟩
 exact⟨v,_,hm,q,c⟩
theorem Rel.look{x:Str}{a:V}(r:Rel ZV w C hb ZU pv S g m σ ρ h)(hx:σ.lookup x=some a):∃v S',m x=some v∧S.Le S'∧S'.In w h∧R ZV w C S' v a.frz:=by
 obtain⟨v,fp,hm,q,c⟩:=r.own hx
 obtain⟨S',l,i,rr,_⟩:=mX r.st q λb hb=>(c b hb).1
 exact⟨v,S',hm,l,i,rr⟩
theorem Rel.ownPoke{x:Str}{a:V}(r:Rel ZV w C hb ZU pv S g m σ none h)(hL:ZU.locals∈pv)(hx:σ.lookup x=some a):
  ∃v fp,m x=some v∧VOk ZV w C S h v a fp∧(∀b∈fp,¬ S.has b∧¬ g.has b∧b∉pv)∧(∀b,Vis ZU b→b∉fp)∧
   ∀(h':Heap)(a':V)(fp':List Addr),VOk ZV w C S h' v a' fp'→(∀b∈fp',b∈fp∨h.get? b=none)→(∀b o,b∉fp→h.get? b=some o→h'.get? b=some o)→
    Ext w S g S h'∧Rel ZV w C hb ZU pv S g m (σ.set x a') none h':=by
 obtain⟨v,hm⟩:=r.known x a hx
 obtain⟨fp,a1,a2⟩:=r.slots
 obtain⟨q,c⟩:=a1 (some x) v a ⟨hx,hm⟩
 have offV:∀b,Vis ZU b→b∉fp (some x):=λb hb z=>by
  rcases hb with rfl|⟨y,hy⟩
  ·exact(c _ z).2.2 hL
  ·exact q.nocell (c:=b) z (r.vars.cell y b hy)
 refine⟨v,fp (some x),hm,q,c,offV,λh' a' fp' q' sub kp=>?_⟩
 have sin:S.In w h':=⟨λa y e=>kp a y (λz=>(c a z).1 (Sh.has_o e)) (r.st.o a y e),λd y e=>(r.st.v d y e).keeps λo ho=>kp d o (λz=>(c d z).1 (Sh.has_v e)) ho,r.st.dis⟩
 have gin:g.In w h':=⟨λa y e=>kp a y (λz=>(c a z).2.1 (Sh.has_o e)) (r.kp.o a y e),λd y e=>(r.kp.v d y e).keeps λo ho=>kp d o (λz=>(c d z).2.1 (Sh.has_v e)) ho,r.kp.dis⟩
 have nw:∀b∈fp',¬ S.has b∧¬ g.has b∧b∉pv:=λb hb=>by
  rcases sub b hb with z|z
  ·exact c b z
  ·have no:¬ ∃o,h.get? b=some o:=fun⟨o,ho⟩=>by rw[z]at ho;cases ho
   exact⟨λz=>no (In.get r.st z),λz=>no (In.get r.kp z),λz=>no (r.priv b z).1⟩
 refine⟨.refl sin gin,sin,gin,r.base,r.vars.keeps λb hb o ho=>kp b o (offV b hb) ho,r.gS,r.gd,r.vis,λb hb=>?_,cD r.known ⟨v,hm⟩,?_,r.gho⟩
 ·obtain⟨⟨o,ho⟩,c2,c3⟩:=r.priv b hb
  exact⟨⟨o,kp b o (λz=>(c b z).2.2 hb) ho⟩,c2,c3⟩
 ·refine⟨λi=>if i=some x then fp' else fp i,λi v' b y=>?_,λi j v1 b1 v2 b2 n y z d hd=>?_⟩
  ·rcases set_slot hx hm y with⟨rfl,rfl,rfl⟩|⟨p1,p2⟩
   ·simp only[if_true];exact⟨q',nw⟩
   ·simp only[if_neg p1]
    obtain⟨q2,c2⟩:=a1 i v' b p2
    exact⟨q2.keeps (.refl S) λd hd o ho=>kp d o (a2 _ _ _ _ _ _ p1 p2 ⟨hx,hm⟩ d hd) ho,c2⟩
  ·rcases set_slot hx hm y with⟨rfl,rfl,rfl⟩|⟨p1,p2⟩<;>rcases set_slot hx hm z with⟨rfl,rfl,rfl⟩|⟨s1,s2⟩
   ·exact absurd rfl n
   ·simp only[if_true]at hd
    simp only[if_neg s1]
    rcases sub d hd with e|e
    ·exact a2 _ _ _ _ _ _ (λz=>s1 z.symm) ⟨hx,hm⟩ s2 d e
    ·intro z
     obtain⟨o,ho⟩:=(a1 _ _ _ s2).1.get d z
     rw[e]at ho;cases ho
   ·simp only[if_neg p1]at hd
    simp only[if_true]
    intro z
    rcases sub d z with e|e
    ·exact a2 _ _ _ _ _ _ p1 p2 ⟨hx,hm⟩ d hd e
    ·obtain⟨o,ho⟩:=(a1 _ _ _ p2).1.get d hd
     rw[e]at ho;cases ho
   ·simp only[if_neg p1]at hd
    simp only[if_neg s1]
    exact a2 _ _ _ _ _ _ n p2 s2 d hd
theorem Rel.poke{x:Str}{a a':V}{v:Value}{h':Heap}(r:Rel ZV w C hb ZU pv S g m σ none h)(hL:ZU.locals∈pv)(hx:σ.lookup x=some a)(hm:m x=some v)
  (k:∀fp,VOk ZV w C S h v a fp→∃fp',VOk ZV w C S h' v a' fp'∧(∀b∈fp',b∈fp∨h.get? b=none)∧(∀b o,b∉fp→h.get? b=some o→h'.get? b=some o)) :
  Ext w S g S h'∧Rel ZV w C hb ZU pv S g m (σ.set x a') none h':=by
 obtain⟨v',fp,hm',q,_,_,go⟩:=r.ownPoke hL hx
 rw[hm]at hm';cases hm'
 obtain⟨fp',q',sub,kp⟩:=k _ q
 exact go h' a' fp' q' sub kp
theorem Rel.ownL{x:Str}{ts:List T}(r:Rel ZV w C hb ZU pv S g m σ ρ h)(hx:σ.lookup x=some (.ol ts)):∃a vs k,m x=some (.ref a)∧h.get? a=some (lO vs k)∧RA ZV w C S vs ts:=by
 obtain⟨v,fp,hm,q,c⟩:=r.own hx
 cases q using VOk.olE with
 |ol e ra=>exact⟨_,_,_,hm,e,ra⟩
theorem Rel.pokeL{x:Str}{ts ts':List T}{a:Addr}{vs':List Value}{k':Nat}{h':Heap}(r:Rel ZV w C hb ZU pv S g m σ none h)(hL:ZU.locals∈pv)(hx:σ.lookup x=some (.ol ts))(hm:m x=some (.ref a))(sb:Heap.SameBut a h h')(e:h'.get? a=some (lO vs' k'))(ra:RA ZV w C S vs' ts'):
  Ext w S g S h'∧Rel ZV w C hb ZU pv S g m (σ.set x (.ol ts')) none h':=by
 refine r.poke hL hx hm λfp q=>?_
 cases q using VOk.olE with
 |ol e0 ra0=>exact⟨_,.ol e ra,λb hb=>.inl hb,λb o hb ho=>(sb.2 b λz=>hb (by rw[z];exact .head _)).trans ho⟩
structure MethOk(o:Expr)(name:Str)(args:List Expr)(apos pos:Pos):Prop where
 base:∀ZU,attributeBase o name ZU (eval o ZU)=eval o ZU
 few:∀ZU,((backTo pos (starEach args ZU)).all (λx=>!x.1) && (backToKw pos (keywordEach [] ZU)).all (λx=>x.1.isSome) && decide (args.length+([]:List Keyword).length+(if([]:List Keyword).isEmpty then 0 else 1) < 30))=true
 line:(apos.endLine == pos.line)=true
theorem vS{x:Str}{e:Expr}{p1 apos pos pos':Pos}{t:T}{ts₀ ts:List T}(hx:σ.lookup x=some (.ol ts₀))(hv:bg ZU x)(y:EvT ZV w C hb n ZU pv e σ ZZ t)(hx1:ZZ.lookup x=some (.ol ts))(hz:ts.length≤16777216)
  (mo:MethOk (.Name x p1) "append" [e] apos pos) (he:∀ZU,backTo pos (starEach [e] ZU)=[(false,eval e ZU)])
  (hi:interactive ZU=false) (hs:swapsWith (.Call (.Attribute (.Name x p1) "append" apos) [e] [] pos) none pos'.line ZU=pure false) :
  du ZV w C hb n ZU pv (.Expr (.Call (.Attribute (.Name x p1) "append" apos) [e] [] pos) pos') σ (.nx (ZZ.set x (.ol (ts ++ [t])))):=λA E S g m s Q rm ok r p=>by
 obtain⟨a,vs,k,hm,ho,ra⟩:=r.ownL hx
 refine wpAny_Expr (wpAny_Call_append (mo.base ZU) (mo.few ZU) mo.line (he ZU) (wpAny_Name (au ok r.vars hm hv.1 ⟨a,_,rfl,⟨_,k,ho,rfl,rfl,rfl⟩,?_⟩) hv.2)) hi hs
 refine y A E S g m s _ rm ok r λS' h' tk v e' r' q=>?_
 obtain⟨a',vs',k',hm',ho',ra'⟩:=r'.ownL hx1
 rw[hm]at hm';cases hm'
 refine wpAny_list_append_plain (s:={s with heap:=h',toks:=tk}) ⟨k',ho'⟩ (λh2 hp2 hs2=>?_) (by rw[List.size_toArray,sizeLine_eq];exact ii ra' hz)
 obtain⟨n2,hp2⟩:=hp2
 rw[List.push_toArray]at hp2
 obtain⟨e2,r2⟩:=r'.pokeL ok.loc hx1 hm hs2 hp2 (ra'.append (.cons q .nil))
 exact p S' h2 tk m (e'.trans e2) r2
end
section
variable{ZV:Program}{w:World}{C:Addr}{hb:Heap}{ZU:Env}{pv:List Addr}{S g:Sh}{m:Str→Option Value}{σ σ' ZZ ZY ZX:Loc}{ρ:Option (Value×V)}{h:Heap}{n:Nat}{K:Frag}{mg mb:Str→Option Value}{fI:Addr}
theorem tM{x:Str}{e:Expr}{p1 apos pos pos':Pos}{ts₀ ts us:List T}(hx:σ.lookup x=some (.ol ts₀))(hv:bg ZU x)(y:EvT ZV w C hb n ZU pv e σ ZZ (.list us))(hx1:ZZ.lookup x=some (.ol ts))(hz:ts.length+us.length≤16777216)
  (mo:MethOk (.Name x p1) "extend" [e] apos pos) (he:∀ZU,backTo pos (starEach [e] ZU)=[(false,eval e ZU)])
  (hi:interactive ZU=false) (hs:swapsWith (.Call (.Attribute (.Name x p1) "extend" apos) [e] [] pos) none pos'.line ZU=pure false) :
  du ZV w C hb n ZU pv (.Expr (.Call (.Attribute (.Name x p1) "extend" apos) [e] [] pos) pos') σ (.nx (ZZ.set x (.ol (ts ++ us)))):=λA E S g m s Q rm ok r p=>by
 obtain⟨a,vs,k,hm,ho,ra⟩:=r.ownL hx
 refine wpAny_Expr (wpAny_Call_method_lateS (mo.base ZU) (mo.few ZU) mo.line (wpAny_Name (au ok r.vars hm hv.1 ?_) hv.2)) hi hs
 rw[he ZU]
 refine⟨"list","list.extend",F.plainAttrs_list,F.slot_list_extend,F.type_list_extend,⟨_,ho,rfl⟩,λb e=>by cases e;exact⟨_,ho,rfl⟩,PySem.P.extend_list ?_⟩
 refine y A E S g m s _ rm ok r λS' h' tk v e' r' q=>?_
 obtain⟨a',vs',k',hm',ho',ra'⟩:=r'.ownL hx1
 rw[hm]at hm';cases hm'
 cases q using R.listE with
 |@list b us' kb hb' rb=>
  have l1:=ra'.length
  have l2:=rb.length
  have hbh:=r'.st.o _ _ hb'
  refine⟨b,vs'.toArray,us'.toArray,k',kb,by rw[List.size_toArray,sizeLine_eq,l1];exact Nat.le_trans (Nat.le_add_right _ _) (by assumption),by rw[List.size_toArray,List.size_toArray,sizeLine_eq,l1,l2];exact Nat.le_succ_of_le (by assumption),?_,rfl,ho',hbh,?_⟩
  ·simp only[Builtin.List.listTooLong,List.size_toArray,sizeLine_eq,Bool.and_eq_true,decide_eq_true_eq,not_and]
   intro _;rw[l1,l2];exact Nat.not_lt.mpr (by assumption)
  ·have hl:=IsL.update (x:=(ho':IsL h' a vs'.toArray k')) (λxs=>xs ++ us'.toArray)
   obtain⟨e2,r2⟩:=r'.pokeL (vs':=vs' ++ us') ok.loc hx1 hm (Heap.SameBut.update ..) (by simpa[IsL]using hl) (ra'.append rb)
   exact p S' _ tk m (e'.trans e2) r2
theorem rB{x:Str}{p1 apos pos pos':Pos}{ts:List T}(hx:σ.lookup x=some (.ol ts))(hv:bg ZU x)(hz:ts.length≤16777216)
  (mo:MethOk (.Name x p1) "reverse" [] apos pos)
  (hi:interactive ZU=false) (hs:swapsWith (.Call (.Attribute (.Name x p1) "reverse" apos) [] [] pos) none pos'.line ZU=pure false) :
  du ZV w C hb n ZU pv (.Expr (.Call (.Attribute (.Name x p1) "reverse" apos) [] [] pos) pos') σ (.nx (σ.set x (.ol ts.reverse))):=λA E S g m s Q rm ok r p=>by
 obtain⟨a,vs,k,hm,ho,ra⟩:=r.ownL hx
 refine wpAny_Expr (wpAny_Call_method_lateS (mo.base ZU) (mo.few ZU) mo.line (wpAny_Name (au ok r.vars hm hv.1 ?_) hv.2)) hi hs
 have rr:∀{vs:List Value}{ts:List T},RA ZV w C S vs ts→RA ZV w C S vs.reverse ts.reverse:=λ{vs ts}h=>by
  induction vs generalizing ts with
  |nil=>cases h;exact .nil
  |cons v vs ih=>cases h with|cons a b=>simp only[List.reverse_cons];exact(ih b).append (.cons a .nil)
 refine⟨"list","list.reverse",F.plainAttrs_list,F.slot_list_reverse,F.type_list_reverse,⟨_,ho,rfl⟩,λb e=>by cases e;exact⟨_,ho,rfl⟩,PySem.P.reverse_list (n:=k) (items:=vs.toArray) ho ?_ (by rw[List.size_toArray,sizeLine_eq];exact ii ra hz)⟩
 have hl:=IsL.update (x:=(ho:IsL s.heap a vs.toArray k)) (λxs=>xs.reverse)
 obtain⟨e2,r2⟩:=r.pokeL (vs':=vs.reverse) ok.loc hx hm (Heap.SameBut.update ..) (by simpa[IsL]using hl) (rr ra)
 exact p S _ s.toks m e2 r2
theorem xV(a b:Str):(a.cps.toList == b.cps.toList)=decide (a=b):=by
 by_cases q:a=b
 ·subst q;simp
 ·have:a.cps.toList≠b.cps.toList:=λz=>q (by cases a;cases b;simp only[Str.mk.injEq];exact Array.toList_inj.mp z)
  exact(beq_eq_false_iff_ne.mpr this).trans (decide_eq_false q).symm
noncomputable def AT(k:Str):Value→Bool
 |.str a _=>decide (a=k)
 |_=>false
theorem RA.strAt{S:Sh}{vs:List Value}{ks:List Str}(ra:RA ZV w C S vs (ks.map .str)){i:Nat}{u:Value}(hu:vs[i]?=some u):∃z t,ks[i]?=some z∧u= .str z t:=by
 obtain⟨t,ht,rt⟩:=ra.getV hu
 rw[List.getElem?_map]at ht
 obtain⟨z,hz,rfl⟩:=Option.map_eq_some_iff.mp ht
 cases rt using R.strE with|str q=>exact⟨z,q,hz,rfl⟩
theorem RA.idx{S:Sh}{vs:List Value}{ks:List Str}{k:Str}{j:Nat}(ra:RA ZV w C S vs (ks.map .str))(hj:ks.findIdx? (·=k)=some j)(tt:Tok):
  ∃h:j < vs.toArray.size,j < ks.length∧(∀y∈vs.toArray,PySem.MeetsSeq.EqGives y (.str k tt) (AT k y))∧AT k vs.toArray[j]=true∧∀mm(hm:mm < vs.toArray.size),mm < j→AT k vs.toArray[mm]=false:=by
 have len:vs.length=ks.length:=by rw[ra.length,List.length_map]
 obtain⟨hjl,hjt,hjf⟩:=List.findIdx?_eq_some_iff_getElem.mp hj
 have at_:∀(i:Nat)(hi:i < vs.toArray.size)(hk:i < ks.length),AT k vs.toArray[i]=decide (ks[i]=k):=λi hi hk=>by
  obtain⟨z,t,hz,e⟩:=ra.strAt (i:=i) (u:=vs[i]) (List.getElem?_eq_getElem hi)
  rw[List.getElem?_eq_getElem hk]at hz
  cases hz
  rw[List.getElem_toArray,e];rfl
 have hsz:vs.toArray.size=ks.length:=by rw[List.size_toArray,len]
 refine⟨hsz ▸ hjl,hjl,λy hy=>?_,?_,λmm hm hlt=>?_⟩
 ·obtain⟨i,hi⟩:=List.mem_iff_getElem?.mp (List.mem_toArray.mp hy)
  obtain⟨z,t,_,rfl⟩:=ra.strAt hi
  show PySem.MeetsSeq.EqGives (.str z t) (.str k tt) (decide (z=k))
  rw[←xV];exact PySem.SeqRoads2.EqGives.str z k t tt
 ·rw[at_ j (hsz ▸ hjl) hjl];exact hjt
 ·rw[at_ mm hm (hsz ▸ hm)];simpa using hjf mm hlt
theorem vC{x:Str}{e:Expr}{p1 apos pos:Pos}{ts₀:List T}{ks:List Str}{k:Str}{j:Nat}(hx:σ.lookup x=some (.ol ts₀))(hv:bg ZU x)(y:EvT ZV w C hb n ZU pv e σ ZZ (.str k))(hx1:ZZ.lookup x=some (.ol (ks.map .str)))(hj:ks.findIdx? (·=k)=some j)(hz:ks.length≤16777216)
  (mo:MethOk (.Name x p1) "index" [e] apos pos) (he:∀ZU,backTo pos (starEach [e] ZU)=[(false,eval e ZU)]) :
  EvT ZV w C hb n ZU pv (.Call (.Attribute (.Name x p1) "index" apos) [e] [] pos) σ ZZ (.int j):=λA E S g m s Q rm ok r p=>by
 obtain⟨a,vs,k,hm,ho,ra⟩:=r.ownL hx
 refine wpAny_Call_method_lateS (mo.base ZU) (mo.few ZU) mo.line (wpAny_Name (au ok r.vars hm hv.1 ?_) hv.2)
 rw[he ZU]
 refine⟨"list","list.index",F.plainAttrs_list,F.slot_list_index,F.type_list_index,⟨_,ho,rfl⟩,λb e=>by cases e;exact⟨_,ho,rfl⟩,PySem.P.index_list ?_⟩
 refine y A E S g m s _ rm ok r λS' h' tk v e' r' q=>?_
 obtain⟨a',vs',k',hm',ho',ra'⟩:=r'.ownL hx1
 rw[hm]at hm';cases hm'
 cases q using R.strE with
 |str tt=>
 obtain⟨hjl,hjk,i1,i2,i3⟩:=ra'.idx hj tt
 exact⟨vs'.toArray,k',AT _,j,hjl,ho',i1,by clear i1 i2 i3;omega,i2,i3,p S' h' _ _ e' r' (.int _ _)⟩
theorem yv{l:Expr}{x:Str}{op:CmpOp}{pos p1:Pos}{a:T}{b:V}{c:Bool}(y:EvT ZV w C hb n ZU pv l σ ZZ a)(hx:ZZ.lookup x=some b)(hv:bg ZU x)(f:cu ZV w C op a b.frz c)(hm:behindInMarks op (.Name x p1)=false):
  EvT ZV w C hb n ZU pv (.Compare l [op] [.Name x p1] pos) σ ZZ (.bool c):=λA E S g m s Q rm ok rl k=>
 wpAny_Compare1 (y A E S g m s _ rm ok rl λS' h' tk va e' r' q=>by
  obtain⟨v,S2,hmx,l2,i2,r2⟩:=r'.look hx
  exact wpAny_Name (au (s:={s with heap:=h',toks:=tk}) ok r'.vars hmx hv.1 (f A E S2 _ va v Q (rm.le (Nat.zero_le n)) i2 (q.mono l2) r2 λtk2=>k S' h' tk2 _ e' r' (.bool c))) hv.2) hm
theorem w4{l:Expr}{x:Str}{op:CmpOp}{pos p1:Pos}{a:T}{b:V}{c:Bool}(y:EvT ZV w C hb n ZU pv l σ ZZ a)(hx:ZZ.lookup x=some b)(hv:bg ZU x)(f:cu ZV w C op a b.frz c)(hm:behindInMarks op (.Name x p1)=false):
  EvB ZV w C hb n ZU pv (.Compare l [op] [.Name x p1] pos) σ ZZ c:=λA E S g m s Q rm ok rl k=>
 wpAny_isTrue_Compare1 (y A E S g m s _ rm ok rl λS' h' tk va e' r' q=>by
  obtain⟨v,S2,hmx,l2,i2,r2⟩:=r'.look hx
  exact wpAny_Name (au (s:={s with heap:=h',toks:=tk}) ok r'.vars hmx hv.1 (f A E S2 _ va v _ (rm.le (Nat.zero_le n)) i2 (q.mono l2) r2 λtk2=>wpAny_truthy_bool (k S' h' tk2 e' r'))) hv.2) hm
noncomputable def dI:List Str→List T→Str→T→List Str×List T
 |k' ::ks,t' ::ts,k,t=>if k'=k then(k' ::ks,t ::ts)else(k' ::(dI ks ts k t).1,t' ::(dI ks ts k t).2)
 |_,_,k,t=>([k],[t])
theorem iP{p:Str×Value}{r:List (Str×Value)}{k:Str}{v:Value}(h:p.1≠k):stored (p ::r) k v=p ::stored r k v:=by
 unfold stored
 simp only[List.any_cons,decide_eq_false h,Bool.false_or,List.map_cons,if_neg h]
 split<;>rfl
theorem iB{p:Str×Value}{r:List (Str×Value)}{v:Value}(hn:p.1∉r.map (·.1)):stored (p ::r) p.1 v=(p.1,v) ::r:=by
 unfold stored
 simp only[List.any_cons,decide_true,Bool.true_or,if_true,List.map_cons,List.cons.injEq,true_and]
 refine(List.map_congr_left λq hq=>?_).trans (List.map_id _)
 have:q.1≠p.1:=λe=>hn (e ▸ List.mem_map_of_mem hq)
 simp[this]
theorem xM{k:Str}{ks:List Str}{t' t:T}{ts:List T}:dI (k ::ks) (t' ::ts) k t=(k ::ks,t ::ts):=if_pos rfl
theorem xh{k' k:Str}{ks:List Str}{t' t:T}{ts:List T}(h:¬ k'=k):dI (k' ::ks) (t' ::ts) k t=(k' ::(dI ks ts k t).1,t' ::(dI ks ts k t).2):=if_neg h
theorem nM{S:Sh}{k:Str}{v:Value}{t:T}(rt:R ZV w C S v t){kvs:List (Str×Value)}:∀{ts:List T},(kvs.map (·.1)).Nodup→RA ZV w C S (kvs.map (·.2)) ts→
  (stored kvs k v).map (·.1)=(dI (kvs.map (·.1)) ts k t).1∧RA ZV w C S ((stored kvs k v).map (·.2)) (dI (kvs.map (·.1)) ts k t).2:=by
 induction kvs with
 |nil=>
  intro ts _ q
  cases q
  exact⟨rfl,.cons rt .nil⟩
 |cons p r ih=>
  intro ts hn q
  have q:RA ZV w C S (p.2 ::r.map (·.2)) ts:=q
  cases q with
  |@cons _ _ t' ts a b=>
   obtain⟨n1,n2⟩:=List.nodup_cons.mp hn
   by_cases e:p.1=k
   ·subst e
    rw[iB n1,show dI ((p ::r).map (·.1)) (t' ::ts) p.1 t=_ from xM]
    exact⟨rfl,.cons rt b⟩
   ·rw[iP e]
    obtain⟨h1,h2⟩:=ih n2 b
    rw[show dI ((p ::r).map (·.1)) (t' ::ts) k t=_ from xh e]
    exact⟨congrArg (p.1 ::·) h1,.cons a h2⟩
theorem IsDictOf.nodup{kvs:List (Str×Value)}{o:Obj}(h:o.IsDictOf (PySem.strKind ZV w) kvs):(kvs.map (·.1)).Nodup:=by
 obtain⟨_,_,_,_,_,_,q⟩:=h
 exact q
theorem VOk.odI{v:Value}{a:V}{fp:List Addr}(q:VOk ZV w C S h v a fp):∀{ks:List Str}{ts:List T},a= .od ks ts→∃l o kvs,v= .ref l∧fp=[l]∧ks=kvs.map (·.1)∧h.get? l=some o∧o.IsDictOf (PySem.strKind ZV w) kvs∧(l == sysModules)=false∧RA ZV w C S (kvs.map (·.2)) ts:=by
 cases q with
 |od e d n r=>rintro ks ts ⟨⟩;exact⟨_,_,_,rfl,rfl,rfl,e,d,n,r⟩
 |_=>intro ks ts e;cases e
theorem si{x:Str}{e i:Expr}{p1 p2 pos:Pos}{ks:List Str}{ts:List T}{k:Str}{t:T}(y:EvT ZV w C hb n ZU pv e σ ZZ t)(z:EvT ZV w C hb n ZU pv i ZZ ZY (.str k)){b₀:V}(hx0:ZZ.lookup x=some b₀)(hx:ZY.lookup x=some (.od ks ts))(hv:bg ZU x)(hz:ks.length≤16777216)
  (hs:swapsWith e (some (.Subscript (.Name x p1) i p2)) pos.line ZU=pure false) :
  du ZV w C hb n ZU pv (.Assign [.Subscript (.Name x p1) i p2] e pos) σ (.nx (ZY.set x (.od (dI ks ts k t).1 (dI ks ts k t).2))):=λA E S g m s Q rm ok r p=>by
 refine wpAny_Assign_Subscript (y A E S g m s _ rm ok r λS' h' tk v e' r' q=>?_) hs
 obtain⟨v0,hm0⟩:=r'.known x _ hx0
 refine wpAny_Name (au ok r'.vars hm0 hv.1 ?_) hv.2
 refine z A E S' g m _ _ rm ok r' λS2 h2 tk2 vi e2 r2 q2=>?_
 obtain⟨v0',fp,hm,ow,c⟩:=r2.own hx
 rw[hm0]at hm;cases hm
 cases q2 using R.strE with
 |str tt=>
 obtain⟨a,o,kvs,rfl,rfl,rfl,ho,hd,hsm,ra⟩:=ow.odI rfl
 have hdo:h2.DictOf (PySem.strKind ZV w) a kvs:=Heap.dictOf_iff.mpr ⟨o,ho,hd⟩
 have hn:=IsDictOf.nodup hd
 obtain⟨s1,s2⟩:=nM (k:=k) (q.mono e2.le) hn ra
 refine wpAny_setItem_pairs (s:={s with heap:=h2,toks:=tk2}) (strKind_is ZV w k tt) hdo (λh3 hd3 hs3=>?_) (by rw[sizeLine_eq];simpa using hz)
 obtain⟨o3,ho3,hd3⟩:=Heap.dictOf_iff.mp hd3
 obtain⟨e3,r3⟩:=r2.poke (a':=.od (dI (kvs.map (·.1)) ts k t).1 (dI (kvs.map (·.1)) ts k t).2) ok.loc hx hm0 λfp' q'=>by
  obtain⟨a',_,_,e,rfl,_⟩:=q'.odI rfl
  cases e
  refine⟨[a],?_,λb hb=>.inl hb,λb o hb ho=>(hs3.2 b λz=>hb (by rw[z];exact .head _)).trans ho⟩
  rw[←s1]
  exact .od ho3 hd3 hsm s2
 exact p S2 h3 _ m ((e'.trans e2).trans e3) r3
end
section
variable{ZV:Program}{w:World}{C:Addr}{hb:Heap}{ZU:Env}{pv:List Addr}{S g:Sh}{m:Str→Option Value}{σ σ' ZZ ZY ZX:Loc}{ρ:Option (Value×V)}{h:Heap}{n:Nat}{K:Frag}{mg mb:Str→Option Value}{fI:Addr}
theorem VOk.ovI{v:Value}{a:V}{fp:List Addr}(q:VOk ZV w C S h v a fp):∀{k i b:T},a= .ov k i b→∃x d vk vi va,v= .ref x∧fp=[x,d]∧h.get? x=some (instObj C d)∧VD w h d (vk,vi,va)∧x≠d∧R ZV w C S vk k∧R ZV w C S vi i∧R ZV w C S va b:=by
 cases q with
 |ov e d ne a b c=>rintro k i b ⟨⟩;exact⟨_,_,_,_,_,rfl,rfl,e,d,ne,a,b,c⟩
 |_=>intro k i b e;cases e
theorem nO{x:Str}{e:Expr}{p1 p2 pos:Pos}{k i a t:T}(gl:Gl K C fI mg mb hb)(y:EvT ZV w C hb n ZU pv e σ ZZ t)(hx:ZZ.lookup x=some (.ov k i a))(hv:bg ZU x)
  (hs:swapsWith e (some (.Attribute (.Name x p1) "attrs" p2)) pos.line ZU=pure false) :
  du ZV w C hb n ZU pv (.Assign [.Attribute (.Name x p1) "attrs" p2] e pos) σ (.nx (ZZ.set x (.ov k i t))):=λA E S g m s Q rm ok r p=>by
 refine plainObj_wpAny_Assign_Attribute (y A E S g m s _ rm ok r λS' h' tk v e' r' q=>?_) hs
 obtain⟨v0,fp,hm,ow,c⟩:=r'.own hx
 clear c
 obtain⟨l,d,vk,vi,va,rfl,rfl,hl,hd,hne,rk,ri,ra⟩:=ow.ovI rfl
 refine wpAny_Name (au ok r'.vars hm hv.1 ?_) hv.2
 obtain⟨es,nn,vs,vl,hd',en⟩:=hd
 obtain⟨t1,t2,t3,t4,t5,rfl⟩:=AD en
 refine g6 (s:={s with heap:=h',toks:=tk}) gl.cls (gl.kin.keeps r'.hbIn) hl rfl rfl rfl hd' (by decide) rfl (Nat.le_of_ble_eq_true rfl) λh2 hd2 sb=>?_
 obtain⟨e3,r3⟩:=r'.poke (a':=.ov k i t) ok.loc hx hm λfp' q'=>by
  obtain⟨l',d',_,_,_,e,rfl,hl',hd'',_⟩:=q'.ovI rfl
  clear q'
  cases e
  have:d'=d:=by rw[hl]at hl';clear hd'';cases hl';rfl
  subst this
  refine⟨[l,d'],.ov ((sb.2 l hne).trans hl) ⟨_,_,vs,vl,hd2,?_⟩ hne rk ri q,λb hb=>.inl hb,λb o hb ho=>(sb.2 b λz=>hb (by rw[z];exact .tail _ (.head _))).trans ho⟩
  exact(show EntOk w [⟨PyData.keyHash w.params "kind",.str "kind" t1,vk⟩,⟨PyData.keyHash w.params "items",.str "items" t2,vi⟩,⟨PyData.keyHash w.params "attrs",.str "attrs" t3,v⟩,⟨PyData.keyHash w.params "shared",.str "shared" t4,vs⟩,⟨PyData.keyHash w.params "loose",.str "loose" t5,vl⟩] dX [vk,vi,v,vs,vl]from
   .cons _ _ _ (.cons _ _ _ (.cons _ _ _ (.cons _ _ _ (.cons _ _ _ .nil)))))
 exact p S' h2 _ m (e'.trans e3) r3
noncomputable def a7:List Str→List (List T)→Str→T→List Str×List (List T)
 |k' ::ks,t' ::ts,k,t=>if k'=k then(k' ::ks,(t' ++ [t]) ::ts)else(k' ::(a7 ks ts k t).1,t' ::(a7 ks ts k t).2)
 |_,_,k,t=>([k],[[t]])
theorem tq{k:Str}{ks:List Str}{t':List T}{t:T}{ts:List (List T)}:a7 (k ::ks) (t' ::ts) k t=(k ::ks,(t' ++ [t]) ::ts):=if_pos rfl
theorem lB{k' k:Str}{ks:List Str}{t':List T}{t:T}{ts:List (List T)}(h:¬ k'=k):a7 (k' ::ks) (t' ::ts) k t=(k' ::(a7 ks ts k t).1,t' ::(a7 ks ts k t).2):=if_neg h
theorem VOk.odlI{v:Value}{a:V}{fp:List Addr}(q:VOk ZV w C S h v a fp):∀{ks:List Str}{tss:List (List T)},a= .odl ks tss→∃l o kvs fp',v= .ref l∧fp=l ::fp'∧ks=kvs.map (·.1)∧h.get? l=some o∧o.IsDictOf (PySem.strKind ZV w) kvs∧(l == sysModules)=false∧l∉fp'∧OLs ZV w C S h (kvs.map (·.2)) tss fp':=by
 cases q with
 |odl e d n na r=>rintro ks ts ⟨⟩;exact⟨_,_,_,_,rfl,rfl,rfl,e,d,n,na,r⟩
 |_=>intro ks ts e;cases e
theorem OLs.at{S:Sh}{h:Heap}{k:Str}:∀{kvs:List (Str×Value)}{tss:List (List T)}{fp:List Addr}{u:Value},OLs ZV w C S h (kvs.map (·.2)) tss fp→valueAt kvs k=some u→(kvs.map (·.1)).Nodup→
  ∃a vs n ts,u= .ref a∧a∈fp∧ts∈tss∧h.get? a=some (lO vs n)∧RA ZV w C S vs ts∧
   ∀(h':Heap)(v:Value)(t:T)(n':Nat),R ZV w C S v t→(∀b o,b≠a→h.get? b=some o→h'.get? b=some o)→h'.get? a=some (lO (vs ++ [v]) n')→(a7 (kvs.map (·.1)) tss k t).1=kvs.map (·.1)∧OLs ZV w C S h' (kvs.map (·.2)) (a7 (kvs.map (·.1)) tss k t).2 fp:=by
 intro kvs
 induction kvs with
 |nil=>intro _ _ _ _ e;simp[valueAt]at e
 |cons p r ih=>
  obtain⟨k',v'⟩:=p
  intro tss fp u q hv hn
  simp only[List.map_cons,List.nodup_cons]at hn
  simp only[List.map_cons]at q
  cases q with
  |@cons a vs nn ts _ tss fp e ra na q=>
  by_cases ek:k'=k
  ·clear ih;subst ek
   simp only[valueAt,List.find?_cons,decide_true,Option.map_some,Option.some.injEq]at hv
   subst hv
   refine⟨_,vs,nn,ts,rfl,.head _,.head _,e,ra,λh' v t n' rt kp e'=>?_⟩
   rw[List.map_cons,tq]
   refine⟨rfl,?_⟩
   exact .cons e' (ra.append (.cons rt .nil)) na (q.keeps (.refl S) λb hb o ho=>kp b o (λz=>na (z ▸ hb)) ho)
  ·have hv':valueAt r k=some u:=by simpa[valueAt,List.find?_cons,decide_eq_false ek]using hv
   clear hv
   obtain⟨a',vs',n',ts',rfl,h1,h0,h2,h3,h4⟩:=ih q hv' hn.2
   refine⟨a',vs',n',ts',rfl,.tail _ h1,.tail _ h0,h2,h3,λh' v t n' rt kp e'=>?_⟩
   obtain⟨z1,z2⟩:=h4 h' v t n' rt kp e'
   rw[List.map_cons,lB ek]
   refine⟨by rw[z1],.cons (kp _ _ (λz=>na (z ▸ h1)) e) ra na z2⟩
theorem OLs.new{S:Sh}{h:Heap}{k:Str}{t:T}:∀{kvs:List (Str×Value)}{tss:List (List T)}{fp:List Addr},OLs ZV w C S h (kvs.map (·.2)) tss fp→valueAt kvs k=none→
  a7 (kvs.map (·.1)) tss k t=(kvs.map (·.1) ++ [k],tss ++ [[t]]):=by
 intro kvs
 induction kvs with
 |nil=>intro _ _ q _;cases q;rfl
 |cons p r ih=>
  obtain⟨k',v'⟩:=p
  intro tss fp q hv
  simp only[List.map_cons]at q
  cases q with
  |@cons a vs nn ts _ tss fp e ra na q=>
  by_cases ek:k'=k
  ·clear ih;subst ek;simp[valueAt,List.find?_cons]at hv
  ·have hv':valueAt r k=none:=by simpa[valueAt,List.find?_cons,decide_eq_false ek]using hv
   rw[List.map_cons,lB ek,ih q hv'];rfl
theorem OLs.snoc{S:Sh}{h:Heap}{a:Addr}{vs:List Value}{n:Nat}{ts:List T}(e:h.get? a=some (lO vs n))(ra:RA ZV w C S vs ts){us:List Value}{tss:List (List T)}{fp:List Addr}(x:OLs ZV w C S h us tss fp):a∉fp→OLs ZV w C S h (us ++ [.ref a]) (tss ++ [ts]) (fp ++ [a]):=by
 induction x with
 |nil=>intro _;exact .cons e ra List.not_mem_nil .nil
 |cons e' ra' na' q ih=>intro na;exact .cons e' ra' (λz=>(List.mem_append.mp z).elim na' λz=>na (by rw[List.mem_singleton.mp z];exact .head _)) (ih λz=>na (.tail _ z))
theorem vM{x y:Str}{ke:Expr}{p1 p2 p3 p4 p5 ap1 ap2 py:Pos}{ks:List Str}{tss:List (List T)}{k:Str}{t:T}(z:EvT ZV w C hb n ZU pv ke σ ZZ (.str k)){ks₀:List Str}{tss₀:List (List T)}(hx0:σ.lookup x=some (.odl ks₀ tss₀))(hx:ZZ.lookup x=some (.odl ks tss))(hv:bg ZU x)
  (hy:ZZ.lookup y=some (.f t)) (hvy:bg ZU y) (hz:ks.length≤16777216) (hzz:∀ts∈tss,ts.length≤16777216)
  (mo:MethOk (.Name x p1) "setdefault" [ke,.List [] p2] ap1 p3) (mo2:MethOk (.Call (.Attribute (.Name x p1) "setdefault" ap1) [ke,.List [] p2] [] p3) "append" [.Name y py] ap2 p4)
  (he:∀ZU,starEach [ke,.List [] p2] ZU=[(false,eval ke ZU),(false,eval (.List [] p2) ZU)]) (hi:interactive ZU=false) :
  du ZV w C hb n ZU pv (.Expr (.Call (.Attribute (.Call (.Attribute (.Name x p1) "setdefault" ap1) [ke,.List [] p2] [] p3) "append" ap2) [.Name y py] [] p4) p5) σ (.nx (ZZ.set x (.odl (a7 ks tss k t).1 (a7 ks tss k t).2))):=λA E S g m s Q rm ok r p=>by
 obtain⟨v0,fp0,hm0,ow0,c0⟩:=r.own hx0
 clear c0
 obtain⟨l,o,kvs0,fp0',rfl,rfl,_,ho,hd,hsm0,_,_⟩:=ow0.odlI rfl
 have hdo0:s.heap.DictOf (PySem.strKind ZV w) l kvs0:=Heap.dictOf_iff.mpr ⟨o,ho,hd⟩
 refine wpAny_Expr (wpAny_Call_append (mo2.base ZU) (mo2.few ZU) mo2.line rfl ?_) hi rfl
 refine wpAny_Call_method_lateS (mo.base ZU) (mo.few ZU) mo.line (wpAny_Name (au ok r.vars hm0 hv.1 ?_) hv.2)
 refine⟨"dict","dict.setdefault",F.plainAttrs_dict,F.slot_dict_setdefault,F.type_dict_setdefault,hdo0.typeIs,hdo0.mapOf.noDict,?_⟩
 refine callWith_of (P:=λh=>∀a x,hb.get? a=some x→h.get? a=some x) (by rw[he ZU];rfl) aM ?_
 rw[he ZU]
 refine evalArgs_plain (Calls.spliced_cons (z A E S g m s _ rm ok r λS' h' tk vk e' r' qk=>Calls.spliced_cons ?_))
 refine List_ (spliced_none ?_)
 refine wpAny_newObj_type (Calls.spliced_nil ⟨λa x e=>Heap.get?_push_of_some _ (r'.hbIn a x e),?_⟩) (Nat.zero_le _)
 obtain⟨v,fp,hm,ow,c,off,go⟩:=r'.ownPoke ok.loc hx
 clear c hx
 obtain⟨l',o',kvs,fp',rfl,rfl,rfl,ho',hd',hsm,nal,ols⟩:=ow.odlI rfl
 rw[hm0]at hm;clear ow;cases hm
 cases qk using R.strE with
 |str tt=>
 have hdo:h'.DictOf (PySem.strKind ZV w) l kvs:=Heap.dictOf_iff.mpr ⟨o',ho',hd'⟩
 have hn:=IsDictOf.nodup hd'
 have nD:h'.get? h'.objs.size=none:=fresh (Nat.le_refl _)
 have old:∀b o,h'.get? b=some o→(h'.push (lO [] 0)).get? b=some o:=λb o e=>Heap.get?_push_of_some _ e
 have hD:(h'.push (lO [] 0)).get? h'.objs.size=some (lO [] 0):=Heap.get?_push_size _ rfl
 have hyk:∃vy,m y=some vy∧R ZV w C S' vy t:=by
  obtain⟨vy,fpy,hmy,owy,_⟩:=r'.own hy
  cases owy using VOk.fE with|f q=>exact⟨vy,hmy,q⟩
 obtain⟨vy,hmy,ry⟩:=hyk
 have hnl:l≠h'.objs.size:=λq=>by rw[q,nD]at ho';cases ho'
 refine call_meetsIn (s:={s with heap:=h'.push (lO [] 0),toks:=tk}) F.slot_dict_setdefault (hdo.at λo e=>old _ _ e).typeIs F.entry_dict_setdefault (F.args_dict_setdefault_3 _ _ _) (PySem.kt_meets_setdefault (PySem.strKind ZV w) l (strKind_is ZV w k tt) hsm (.ref h'.objs.size))
  ⟨kvs,hdo.at λo e=>old _ _ e,by rw[sizeLine_eq];simpa using hz,λu hu=>?_,λhu h2 hd2 sb2=>?_⟩
 ·
  obtain⟨a,vs,nn,ts,rfl,ha,hts,hla,ra,step⟩:=ols.at hu hn
  refine⟨a,vs.toArray,rfl,⟨_,nn,old _ _ hla,rfl,rfl,rfl⟩,?_⟩
  have va2:VarsAt ZU (h'.push (lO [] 0)) m:=r'.vars.keeps λb hb o ho=>old b o ho
  refine wpAny_Name (au ok va2 hmy hvy.1 ?_) hvy.2
  refine wpAny_list_append_plain ⟨nn,old _ _ hla⟩ (λh3 hp3 hs3=>?_) (by rw[List.size_toArray,sizeLine_eq];exact ii ra (hzz ts hts))
  obtain⟨n3,hp3⟩:=hp3
  rw[List.push_toArray]at hp3
  obtain⟨s1,s2⟩:=step h3 vy t n3 ry (λb o hb ho=>(hs3.2 b hb).trans (old b o ho)) hp3
  have hla':l≠a:=λq=>nal (q ▸ ha)
  obtain⟨e3,r3⟩:=go h3 (.odl (a7 (kvs.map (·.1)) tss k t).1 (a7 (kvs.map (·.1)) tss k t).2) (l ::fp') (by rw[s1];exact .odl ((hs3.2 l hla').trans (old _ _ ho')) hd' hsm nal s2) (λb hb=>.inl hb) λb o hb ho=>(hs3.2 b λq=>hb (q ▸ .tail _ ha)).trans (old b o ho)
  exact p S' h3 _ m (e'.trans e3) r3
 ·
  have hD2:h2.get? h'.objs.size=some (lO [] 0):=(sb2.2 _ λq=>hnl q.symm).trans hD
  obtain⟨o2,ho2,hd2'⟩:=Heap.dictOf_iff.mp hd2
  have kp2:∀b o,b≠l→h'.get? b=some o→h2.get? b=some o:=λb o hb ho=>(sb2.2 b hb).trans (old b o ho)
  have va2:VarsAt ZU h2 m:=r'.vars.keeps λb hb o ho=>kp2 b o (λq=>off b hb (q ▸ .head _)) ho
  refine⟨h'.objs.size,#[],rfl,⟨_,0,hD2,rfl,rfl,rfl⟩,?_⟩
  refine wpAny_Name (au ok va2 hmy hvy.1 ?_) hvy.2
  refine wpAny_list_append_plain ⟨0,hD2⟩ (λh3 hp3 hs3=>?_) (Nat.zero_le _)
  obtain⟨n3,hp3⟩:=hp3
  have kp3:∀b o,b≠l→h'.get? b=some o→h3.get? b=some o:=λb o hb ho=>(hs3.2 b λq=>by rw[q,nD]at ho;cases ho).trans (kp2 b o hb ho)
  have st:stored kvs k (.ref h'.objs.size)=kvs ++ [(k,.ref h'.objs.size)]:=by
   unfold stored
   rw[if_neg]
   intro q
   obtain⟨kv,h1,h2⟩:=List.any_eq_true.mp q
   have:(valueAt kvs k).isSome=true:=by
    rw[gb];simp only[List.contains_iff_mem,List.mem_map]
    exact⟨kv,h1,by simpa using h2⟩
   rw[hu]at this;cases this
  have hk':(a7 (kvs.map (·.1)) tss k t)=(kvs.map (·.1) ++ [k],tss ++ [[t]]):=ols.new hu
  have nDf:h'.objs.size∉fp':=λq=>by obtain⟨_,_,ho⟩:=ols.get _ q;rw[nD]at ho;cases ho
  have ols3:OLs ZV w C S' h3 ((stored kvs k (.ref h'.objs.size)).map (·.2)) (tss ++ [[t]]) (fp' ++ [h'.objs.size]):=by
   rw[st,List.map_append]
   exact OLs.snoc (n:=n3) (vs:=[vy]) (by simpa using hp3) (.cons ry .nil) (ols.keeps (.refl S') λb hb o ho=>kp3 b o (λq=>nal (q ▸ hb)) ho) nDf
  have hl3:h3.get? l=some o2:=(hs3.2 l hnl).trans ho2
  have ok3:VOk ZV w C S' h3 (.ref l) (.odl (a7 (kvs.map (·.1)) tss k t).1 (a7 (kvs.map (·.1)) tss k t).2) (l ::(fp' ++ [h'.objs.size])):=by
   rw[hk']
   have:kvs.map (·.1) ++ [k]=(stored kvs k (.ref h'.objs.size)).map (·.1):=by rw[st,List.map_append];rfl
   dsimp only
   rw[this]
   refine .odl hl3 hd2' hsm (λq=>?_) ols3
   rcases List.mem_append.mp q with q|q
   ·exact nal q
   ·exact hnl (List.mem_singleton.mp q)
  have sub:∀b∈l ::(fp' ++ [h'.objs.size]),b∈l ::fp'∨h'.get? b=none:=λb hb=>by
   rcases List.mem_cons.mp hb with rfl|hb
   ·exact .inl (.head _)
   ·rcases List.mem_append.mp hb with q|q
    ·exact .inl (.tail _ q)
    ·rw[List.mem_singleton.mp q];exact .inr nD
  obtain⟨e3,r3⟩:=go h3 _ _ ok3 sub λb o hb ho=>kp3 b o (λq=>hb (q ▸ .head _)) ho
  exact p S' h3 _ m (e'.trans e3) r3
end
section
variable{ZV:Program}{w:World}{C:Addr}{hb:Heap}{ZU:Env}{pv:List Addr}{S g:Sh}{m:Str→Option Value}{σ σ' ZZ ZY ZX:Loc}{ρ:Option (Value×V)}{h:Heap}{n:Nat}{K:Frag}{mg mb:Str→Option Value}{fI:Addr}
theorem se{i:Int}(hi:i.natAbs.log2 < 1920):Pure1 ZV w C (.type "str") [.int i] (.str (toString i)):=λA E S s vs Q rm st q k=>by
 obtain⟨v,rfl,x⟩:=jN q
 cases x using R.intE
 exact PySem.P.str_of_int hi (k _ _ (.str _ _))
theorem oM{ks:List Str}{ts:List T}(hn:ks.length < 16777216):Pure1 ZV w C (.builtin "len") [.dict ks ts] (.int ks.length):=λA E S s vs Q rm st q k=>by
 obtain⟨v,rfl,x⟩:=jN q
 cases x using R.dictE with
 |@dict a o kvs ho hd hsm ra=>
  have hdo:s.heap.DictOf (PySem.strKind ZV w) a kvs:=Heap.dictOf_iff.mpr ⟨o,st.o _ _ ho,hd⟩
  have e:(kvs.map (·.1)).length=kvs.length:=by simp
  rw[e]at hn k
  exact call_len_dict hsm hdo (by(apply dS;assumption;decide)) (k _ _ (.int _ _))
theorem RA.ofGet{S:Sh}{vs:List Value}:∀{ts:List T},vs.length=ts.length→(∀(j:Nat)(v:Value)(t:T),vs[j]?=some v→ts[j]?=some t→R ZV w C S v t)→RA ZV w C S vs ts:=by
 induction vs with
 |nil=>
  intro ts e _
  cases ts with
  |nil=>exact .nil
  |cons _ _=>cases e
 |cons v vs ih=>
  intro ts e f
  cases ts with
  |nil=>cases e
  |cons t ts=>exact .cons (f 0 v t rfl rfl) (ih (Nat.succ.inj e) λj v t h1 h2=>f (j+1) v t h1 h2)
theorem Rel.addl{h':Heap}{acc:List Value}{c:Nat}{ts:List T}(r:Rel ZV w C hb ZU pv S g m σ none h)(kp:∀b x,h.get? b=some x→h'.get? b=some x){a:Addr}(ha:h.get? a=none)(e:h'.get? a=some (lO acc c))(ra:RA ZV w C S acc ts):
  Ext w S g S h'∧Rel ZV w C hb ZU pv S g m σ (some (.ref a,.ol ts)) h':=
 r.addres kp (.ol e ra) λb hb=>by rw[List.mem_singleton.mp hb];exact ha
theorem m5{ks:List Str}{ts:List T}(hn:ks.length≤16777216):CallJ ZV w C hb n (.type "list") [.dict ks ts] (.ol (ks.map .str)):=λZU pv A E S g m σ s vs Q rm ok r q k=>by
 obtain⟨v,rfl,x⟩:=jN q
 cases x using R.dictE with
 |@dict a o kvs ho hd hsm ra=>
  have hdo:s.heap.DictOf (PySem.strKind ZV w) a kvs:=Heap.dictOf_iff.mpr ⟨o,r.st.o _ _ ho,hd⟩
  obtain⟨ep,hda⟩:=hdo.dictAt
  refine kdl_call (kdl_dict hsm) rm.hh hda (by rw[sizeLine_eq];simpa using hn) λh' tk acc' c' kp new it=>?_
  obtain⟨i1,i2⟩:=it
  obtain⟨e,r'⟩:=r.addl (acc:=acc'.toList) (c:=c') (ts:=(kvs.map (·.1)).map .str) kp (fresh (Nat.le_refl _)) (by simpa using new) (RA.ofGet (by simp[i1]) λj v t h1 h2=>by
   obtain⟨kk,x,q1,q2⟩:=i2 j v (by simpa using h1)
   obtain⟨t',rfl⟩:=Value.isStrOf_shape q2
   simp only[List.getElem?_map,q1,Option.map_some,Option.some.injEq]at h2
   subst h2;exact .str _ _)
  exact k S h' tk _ e r'
theorem AR{a b:Int}:CallJ ZV w C hb n (.builtin "max") [.int a,.int b] (.f (.int (if b > a then b else a))):=λZU pv A E S g m σ s vs Q rm ok r q k=>by
 obtain⟨v1,v2,rfl,x,y⟩:=yb q
 cases x using R.intE;cases y using R.intE
 refine max_two_ints rm.hh λh' tk kp=>?_
 obtain⟨e,r'⟩:=r.keep kp
 refine k S h' tk _ e (r'.res ?_)
 split<;>exact .int _ _
theorem Cf{ns:List Int}{M:Int}(hM:M∈ns∧∀a∈ns,a≤M):CallJ ZV w C hb n (.builtin "max") [.list (ns.map .int)] (.f (.int M)):=λZU pv A E S g m σ s vs Q rm ok r q k=>by
 obtain⟨v,rfl,x⟩:=jN q
 cases x using R.listE with
 |@list a us nn ho ra=>
  have hall:AllInts us.toArray:=λv hv=>by
   rw[List.mem_toArray]at hv
   obtain⟨i,hi⟩:=List.mem_iff_getElem?.mp hv
   obtain⟨t,ht,rt⟩:=ra.getV hi
   simp only[List.getElem?_map,Option.map_eq_some_iff]at ht
   obtain⟨z,_,rfl⟩:=ht
   cases rt;exact⟨_,_,rfl⟩
  obtain⟨xs,hxs⟩:=hall.items
  have hnum:∀j(hj:j < xs.size),ns[j]?=some xs[j].1:=λj hj=>by
   have:us[j]?=some (.int xs[j].1 xs[j].2):=by
    have:=congrArg (·[j]?) hxs
    simpa[intItems,hj]using this
   obtain⟨t,ht,rt⟩:=ra.getV this
   simp only[List.getElem?_map,Option.map_eq_some_iff]at ht
   obtain⟨z,hz,rfl⟩:=ht
   cases rt;exact hz
  have hlen:xs.size=ns.length:=by
   have:=congrArg (·.size) hxs
   simp only[List.size_toArray,intItems,Array.size_map]at this
   rw[←this,ra.length,List.length_map]
  have hpos:0 < xs.size:=by rw[hlen];exact List.length_pos_of_mem hM.1
  refine max_intList (xs:=xs) rm.hh ⟨_,r.st.o _ _ ho,rfl,nn,by show Data.seq us.toArray nn=_;rw[hxs]⟩ hpos λv h' tk hv kp=>?_
  obtain⟨t,rfl⟩:=intItems_at hv
  obtain⟨h1,h2⟩:=argBest_gt (numAt xs) (xs.size - 1)
  have nat:∀j,j < xs.size→ns[j]?=some (numAt xs j):=λj hj=>by rw[hnum j hj];simp[numAt,hj]
  generalize argBest (λi j=>decide (numAt xs i > numAt xs j)) (xs.size - 1)=b at h1 h2 ⊢
  have hb:b < xs.size:=Nat.lt_of_le_of_lt h1 (Nat.sub_lt hpos Nat.one_pos)
  have hmem:numAt xs b∈ns:=List.mem_of_getElem? (nat b hb)
  obtain⟨jM,hjM⟩:=List.mem_iff_getElem?.mp hM.1
  have hjl:jM < xs.size:=by rw[hlen];exact(List.getElem?_eq_some_iff.mp hjM).1
  have e1:numAt xs jM=M:=by have:=nat jM hjl;rw[hjM]at this;cases this;rfl
  have e2:numAt xs b=M:=Int.le_antisymm (hM.2 _ hmem) (e1 ▸ h2 jM (Nat.le_sub_one_of_lt hjl))
  obtain⟨e,r'⟩:=r.keep kp
  refine k S h' tk _ e (r'.res ?_)
  rw[e2];exact .int _ _
theorem pO{l r:Expr}{op:Operator}{pos:Pos}{a b:T}{c:V}(x:EvT ZV w C hb n ZU pv l σ ZZ a)(y:EvT ZV w C hb n ZU pv r ZZ ZY b)
  (f:∀(A:Around)(E:Value→Shared→Prop)(S g:Sh)(m:Str→Option Value)(s:Shared)(va vb:Value)(Q:Value→Shared→Prop),Rm n A→EnvOk ZU pv→Rel ZV w C hb ZU pv S g m ZY none s.heap→R ZV w C S va a→R ZV w C S vb b→
   (∀S' h' tk v,Ext w S g S' h'→Rel ZV w C hb ZU pv S' g m ZY (some (v,c)) h'→Q v {s with heap:=h',toks:=tk})→wpAny (model ZV w) A (binaryOp op va vb) Q E s) :
  EvV ZV w C hb n ZU pv (.BinOp l op r pos) σ ZY c:=λA E S g m s Q rm ok rl k=>
 wpAny_BinOp (x A E S g m s _ rm ok rl λS' h' tk va e' r' q=>y A E S' g m _ _ rm ok r' λS'' h'' tk' vb e'' r'' q'=>
  f A E S'' g m _ va vb Q rm ok r'' (q.mono e''.le) q' λS3 h3 tk3 v e3 r3=>k S3 h3 tk3 v ((e'.trans e'').trans e3) r3)
theorem lm{l r:Expr}{pos:Pos}{a b:List T}(x:EvT ZV w C hb n ZU pv l σ ZZ (.list a))(y:EvT ZV w C hb n ZU pv r ZZ ZY (.list b))(hz:a.length+b.length≤16777216):EvV ZV w C hb n ZU pv (.BinOp l .Add r pos) σ ZY (.ol (a ++ b)):=
 pO x y λA E S g m s va vb Q rm ok rl p q k=>by
  cases p using R.listE with
  |@list l1 us1 n1 ho1 jN=>
  cases q using R.listE with
  |@list l2 us2 n2 ho2 yb=>
  have:=jN.length
  have:=yb.length
  refine PySem.P.add_list (rl.st.o _ _ ho1) (rl.st.o _ _ ho2) ?_ (by rw[List.size_toArray,List.size_toArray,sizeLine_eq];omega)
  obtain⟨e,r'⟩:=rl.addl (h':=s.heap.push (lO (us1 ++ us2) 0)) (acc:=us1 ++ us2) (c:=0) (λb x e=>Heap.get?_push_of_some _ e) (fresh (Nat.le_refl _)) (Heap.get?_push_size _ rfl) (jN.append yb)
  have:=k S _ s.toks _ e r'
  simpa using this
theorem RA.flat{S:Sh}{vs:List Value}{ts:List T}(h:RA ZV w C S vs ts):∀k:Nat,RA ZV w C S (List.replicate k vs).flatten (List.replicate k ts).flatten
 |0=>.nil
 |k+1=>by simp only[List.replicate_succ,List.flatten_cons];exact h.append (h.flat k)
theorem ij(vs:List Value):∀(k:Nat)(acc:Array Value),List.foldl (λx1 x2=>x1 ++ x2) acc (List.replicate k vs.toArray)=acc ++ (List.replicate k vs).flatten.toArray
 |0,acc=>by simp
 |k+1,acc=>by
  rw[List.replicate_succ,List.foldl_cons,ij vs k,List.replicate_succ,List.flatten_cons]
  simp
theorem mi{l r:Expr}{pos:Pos}{a:List T}{b:Int}(x:EvT ZV w C hb n ZU pv l σ ZZ (.list a))(y:EvT ZV w C hb n ZU pv r ZZ ZY (.int b))(h0: -1000000≤b)(h1:b≤1000000)(hz:a.length * b.toNat≤16777216):EvV ZV w C hb n ZU pv (.BinOp l .Mult r pos) σ ZY (.ol (List.replicate b.toNat a).flatten):=
 pO x y λA E S g m s va vb Q rm ok rl p q k=>by
  cases p using R.listE with
  |@list l1 us1 n1 ho1 jN=>
  cases q using R.intE with
  |int u=>
  have hlen:=jN.length
  have hl:=rl.st.o _ _ ho1
  have e8:(2 ^ 63 - 1) / 8=1152921504606846975:=by decide
  have fin:wpAny (model ZV w) A (binaryOp .Mult (.ref l1) (.int b u)) (λv s'=>v= .ref s.heap.objs.size∧s'={s with heap:=s.heap.push {cls:=.type "list",data:=.seq (List.foldl (λx1 x2=>x1 ++ x2) #[] (List.replicate (if us1.toArray.isEmpty=true then 0 else b.toNat) us1.toArray))}}) E s:=
   wpAny_binaryOp_repeat_ref (T:="list") (U:="int") (by decide) ⟨_,hl,rfl⟩ (λs'=>typeIs_int s' b u) noFill_list_mul PySem.F.fills_int_mul PySem.F.slot_int_rmul repeat_list PySem.F.slot_int_index.lookup
    (call_meets PySem.F.slot_int_rmul (typeIs_int s b u) PySem.F.entry_int_rmul (PySem.F.args_int_rmul_2 _ _) (int___rmul___int_list b u l1 us1.toArray n1)
     ⟨hl,rfl,⟨_,hl,rfl⟩,call_meets PySem.F.slot_list_mul ⟨_,hl,rfl⟩ PySem.F.entry_list_mul (PySem.F.args_list_mul_2 _ _)
      (AutoListH.list___mul___list_int_3 l1 us1.toArray n1 b u (by simp[Builtin.List.listFitsIndex];omega) (by rw[List.size_toArray,hlen,e8];omega) (by rw[List.size_toArray,hlen];simp[Builtin.List.listTooLong,sizeLine_eq];(apply ah;assumption;rfl)))
      ⟨hl,rfl,rfl⟩⟩)
  refine wpAny_mono fin (λv s' z=>?_) λ_ _ e=>e
  obtain⟨rfl,rfl⟩:=z
  have e0:(List.foldl (λx1 x2=>x1 ++ x2) #[] (List.replicate (if us1.toArray.isEmpty=true then 0 else b.toNat) us1.toArray))=(List.replicate b.toNat us1).flatten.toArray:=by
   cases us1 with
   |nil=>simp
   |cons u us=>simp only[List.isEmpty_toArray,List.isEmpty_cons,Bool.false_eq_true,if_false];rw[ij];simp
  rw[e0]
  obtain⟨e,r'⟩:=rl.addl (h':=s.heap.push (lO (List.replicate b.toNat us1).flatten 0)) (acc:=(List.replicate b.toNat us1).flatten) (c:=0) (λb x e=>Heap.get?_push_of_some _ e) (fresh (Nat.le_refl _)) (Heap.get?_push_size _ rfl) (jN.flat b.toNat)
  exact k S _ s.toks _ e r'
noncomputable def eR(ZV:Program)(w:World)(C:Addr)(hb:Heap)(n:Nat)(ZU:Env)(pv:List Addr)(e:Option Expr)(σ σ':Loc)(i:Option Int):Prop:=
 ∀(A:Around)(E:Value→Shared→Prop)(S g:Sh)(m:Str→Option Value)(s:Shared)(Q:Value→Shared→Prop),Rm n A→EnvOk ZU pv→Rel ZV w C hb ZU pv S g m σ none s.heap→
  (∀S' h' tk v,Ext w S g S' h'→Rel ZV w C hb ZU pv S' g m σ' none h'→IsPart v i→Q v {s with heap:=h',toks:=tk})→wpAny (model ZV w) A (evalPart e ZU) Q E s
theorem qH:eR ZV w C hb n ZU pv none σ σ none:=λA E S g m s Q rm ok r k=>by
 rw[evalPart_none];exact wpAny_pure (k S s.heap s.toks .none (Ext.tok r) r .none)
theorem qU{e:Expr}{i:Int}(x:EvT ZV w C hb n ZU pv e σ σ' (.int i)):eR ZV w C hb n ZU pv (some e) σ σ' (some i):=λA E S g m s Q rm ok r k=>by
 show wpAny _ A (eval e ZU) _ _ _
 exact x A E S g m s Q rm ok r λS' h' tk v e r' q=>k S' h' tk v e r' (by cases q;exact .int _ _)
noncomputable def eC(ts:List T)(lo hi:Option Int):List T:=(sliceRange (sliceBounds lo hi none ts.length).1 (sliceBounds lo hi none ts.length).2.1 (sliceBounds lo hi none ts.length).2.2).filterMap (ts[·]?)
theorem RA.pick{S:Sh}{vs:List Value}{ts:List T}(h:RA ZV w C S vs ts):∀is:List Nat,RA ZV w C S (is.filterMap (vs[·]?)) (is.filterMap (ts[·]?))
 |[]=>.nil
 |i ::is=>by
  simp only[List.filterMap_cons]
  cases q:ts[i]? with
  |none=>
   have:vs[i]?=none:=by
    rw[List.getElem?_eq_none_iff]at q ⊢
    rw[h.length];exact q
   simp only[this];exact h.pick is
  |some t=>
   obtain⟨v,hv,rv⟩:=h.get q
   simp only[hv];exact .cons rv (h.pick is)
theorem jr{v:Expr}{lo hi:Option Expr}{a b:Option Int}{p pos:Pos}{ts:List T}(x:EvT ZV w C hb n ZU pv v σ ZZ (.list ts))(y:eR ZV w C hb n ZU pv lo ZZ ZY a)(z:eR ZV w C hb n ZU pv hi ZY ZX b)(hz:ts.length≤16777216)
  (ht:∀o r,letTemporaryGo v o r=pure ()):EvV ZV w C hb n ZU pv (.Subscript v (.Slice lo hi none p) pos) σ ZX (.ol (eC ts a b)):=λA E S g m s Q rm ok r k=>
 wpAny_Subscript_list_slice (x A E S g m s _ rm ok r λS1 h1 tk1 v1 e1 r1 q1=>y A E S1 g m _ _ rm ok r1 λS2 h2 tk2 v2 e2 r2 q2=>z A E S2 g m _ _ rm ok r2 λS3 h3 tk3 v3 e3 r3 q3=>by
  cases q1 using R.listE with
  |@list l us nn ho ra=>
  have ra3:=ra.mono (e2.le.trans e3.le)
  have hlen:=ra3.length
  refine⟨l,us.toArray,a,b,rfl,⟨_,r3.st.o _ _ (e3.le.o _ _ (e2.le.o _ _ ho)),rfl,nn,rfl⟩,by rw[List.size_toArray,sizeLine_eq];(apply iI;assumption;assumption;rfl),q2,q3,?_⟩
  have e0:slicePick us.toArray a b none=((sliceRange (sliceBounds a b none ts.length).1 (sliceBounds a b none ts.length).2.1 (sliceBounds a b none ts.length).2.2).filterMap (us[·]?)).toArray:=by
   unfold slicePick;simp only[List.size_toArray,hlen,List.getElem?_toArray]
  rw[e0]
  obtain⟨e4,r4⟩:=r3.new (o:={cls:=.type "slice",data:=.fields #[v2,v3,.none]})
  obtain⟨e5,r5⟩:=r4.addl (h':=(h3.push {cls:=.type "slice",data:=.fields #[v2,v3,.none]}).push (lO _ 0)) (c:=0) (λb x e=>Heap.get?_push_of_some _ e) (fresh (Nat.le_refl _)) (Heap.get?_push_size _ rfl) (ra3.pick (sliceRange (sliceBounds a b none ts.length).1 (sliceBounds a b none ts.length).2.1 (sliceBounds a b none ts.length).2.2))
  have:=k S3 _ tk3 _ (e1.trans (e2.trans (e3.trans (e4.trans e5)))) r5
  rw[Heap.size_push]at this
  exact this) ht
end
section
variable{ZV:Program}{w:World}{C:Addr}{hb:Heap}{ZU:Env}{pv:List Addr}{S g:Sh}{m:Str→Option Value}{σ σ' ZZ ZY ZX:Loc}{ρ:Option (Value×V)}{h:Heap}{n:Nat}{K:Frag}{mg mb:Str→Option Value}{fI:Addr}
noncomputable def smade(x:Str)(a b:Option Int):Str:=if(strSliceIndices' a b x.length).length == x.length then x else⟨((strSliceIndices' a b x.length).filterMap (x.cps[·]?)).toArray⟩
where strSliceIndices' (a b:Option Int) (n:Nat):List Nat:=Builtin.Str.strSliceIndices a b 1 n
theorem kW{v:Expr}{lo hi:Option Expr}{a b:Option Int}{p pos:Pos}{t:Str}(x:EvT ZV w C hb n ZU pv v σ ZZ (.str t))(y:eR ZV w C hb n ZU pv lo ZZ ZY a)(z:eR ZV w C hb n ZU pv hi ZY ZX b)(hz:(smade t a b).length≤16777216)
  (ht:∀o r,letTemporaryGo v o r=pure ()):EvT ZV w C hb n ZU pv (.Subscript v (.Slice lo hi none p) pos) σ ZX (.str (smade t a b)):=λA E S g m s Q rm ok r k=>
 wpAny_Subscript_str_slice (x A E S g m s _ rm ok r λS1 h1 tk1 v1 e1 r1 q1=>y A E S1 g m _ _ rm ok r1 λS2 h2 tk2 v2 e2 r2 q2=>z A E S2 g m _ _ rm ok r2 λS3 h3 tk3 v3 e3 r3 q3=>by
  cases q1 using R.strE with
  |str tt=>
  have hp:∀{v:Value}{i:Option Int},IsPart v i→∃l,v=partValue l∧l.map (·.1)=i:=λq=>by
   cases q with
   |none=>exact⟨none,rfl,rfl⟩
   |int i t=>exact⟨some (i,t),rfl,rfl⟩
  obtain⟨l,rfl,hl⟩:=hp q2
  obtain⟨u,rfl,hu⟩:=hp q3
  refine⟨t,tt,l,u,rfl,rfl,rfl,?_⟩
  obtain⟨e4,r4⟩:=r3.new (o:={cls:=.type "slice",data:=.fields #[partValue l,partValue u,.none]})
  have fin:=λtk v q=>k S3 _ tk v (e1.trans (e2.trans (e3.trans e4))) r4 q
  unfold sliceMade smade smade.strSliceIndices' at *
  simp only[slicePicked,hl,hu,Option.map_none,Option.getD_none,beq_self_eq_true,Bool.true_and]at fin ⊢
  split
  ·rename_i q
   simp only[q,if_true]at fin
   exact fin _ _ (.str _ _)
  ·rename_i q
   simp only[q,Bool.false_eq_true,if_false]at fin hz
   exact⟨by rw[sizeLine_eq];exact hz,fin _ _ (.str _ _)⟩) ht
theorem oj{e:Expr}{pos:Pos}{i:Int}(x:EvT ZV w C hb n ZU pv e σ ZZ (.int i))(hi:i.natAbs.log2 < 1920):EvT ZV w C hb n ZU pv (.FormattedValue e (-1) none pos) σ ZZ (.str (toString i)):=λA E S g m s Q rm ok r k=>
 wpAny_FormattedValue_plain (x A E S g m s _ rm ok r λS1 h1 tk1 v1 e1 r1 q1=>by
  cases q1 using R.intE
  exact wpAny_formatField_int hi (k _ _ _ _ e1 r1 (.str _ _)))
theorem oy{e:Expr}{pos:Pos}{t:Str}(x:EvT ZV w C hb n ZU pv e σ ZZ (.str t))(hz:t.length≤16777216):EvT ZV w C hb n ZU pv (.FormattedValue e (-1) none pos) σ ZZ (.str t):=λA E S g m s Q rm ok r k=>
 wpAny_FormattedValue_plain (x A E S g m s _ rm ok r λS1 h1 tk1 v1 e1 r1 q1=>by
  cases q1 using R.strE
  exact wpAny_formatField_str (k _ _ tk1 _ e1 r1 (.str _ _)) (k _ _ _ _ e1 r1 (.str _ _)) (by rw[sizeLine_eq];exact hz))
noncomputable def th(ZV:Program)(w:World)(C:Addr)(hb:Heap)(n:Nat)(ZU:Env)(pv:List Addr)(es:List Expr)(σ σ':Loc)(acc out:Str):Prop:=
 ∀(A:Around)(E:Value→Shared→Prop)(S g:Sh)(m:Str→Option Value)(s:Shared)(Q:Str→Shared→Prop),Rm n A→EnvOk ZU pv→Rel ZV w C hb ZU pv S g m σ none s.heap→
  (∀S' h' tk,Ext w S g S' h'→Rel ZV w C hb ZU pv S' g m σ' none h'→Q out {s with heap:=h',toks:=tk})→Joins (model ZV w) A E (evalEach es ZU) acc Q s
theorem Bn{acc:Str}:th ZV w C hb n ZU pv [] σ σ acc acc:=λA E S g m s Q rm ok r k=>k S s.heap s.toks (Ext.tok r) r
theorem xN{e:Expr}{es:List Expr}{acc t out:Str}(x:EvT ZV w C hb n ZU pv e σ ZZ (.str t))(hz:(acc ++ t).length≤16777216)(y:th ZV w C hb n ZU pv es ZZ ZY (acc ++ t) out)(he:∀ZU,evalEach (e ::es) ZU=eval e ZU ::evalEach es ZU):th ZV w C hb n ZU pv (e ::es) σ ZY acc out:=λA E S g m s Q rm ok r k=>by
 rw[he]
 refine x A E S g m s _ rm ok r λS1 h1 tk1 v1 e1 r1 q1=>?_
 cases q1
 exact⟨t,_,rfl,by rw[sizeLine_eq];exact hz,y A E S1 g m _ Q rm ok r1 λS2 h2 tk2 e2 r2=>k S2 h2 tk2 (e1.trans e2) r2⟩
theorem qJ{e1 e2:Expr}{es:List Expr}{pos:Pos}{out:Str}(x:th ZV w C hb n ZU pv (e1 ::e2 ::es) σ ZZ Str.empty out)(hz:out.length≤16777216):EvT ZV w C hb n ZU pv (.JoinedStr (e1 ::e2 ::es) pos) σ ZZ (.str out):=λA E S g m s Q rm ok r k=>
 wpAny_JoinedStr (x A E S g m s _ rm ok r λS1 h1 tk1 e1 r1=>⟨by rw[sizeLine_eq];exact hz,k _ _ _ _ e1 r1 (.str _ _)⟩)
noncomputable def hF:List (Str×Pos)→List T→Loc→Loc
 |(x,_) ::xs,t ::ts,σ=>hF xs ts (σ.set x (.f t))
 |_,_,σ=>σ
theorem oR{ZU:Env}:assignEach [] ZU=[]:=rfl
theorem kT{ZU:Env}{x:Str}{p:Pos}{rest:List Expr}:assignEach (.Name x p ::rest) ZU=(false,assign (.Name x p) ZU) ::assignEach rest ZU:=rfl
theorem Ch{ZU:Env}{es:List Expr}{k:Nat}{p:Pos}:assignEach [.Tuple es k p] ZU=[(false,assign (.Tuple es k p) ZU)]:=rfl
theorem v5{ZU:Env}:∀xs:List (Str×Pos),(assignEach (xs.map λx=>Expr.Name x.1 x.2) ZU).length=xs.length
 |[]=>by rw[List.map_nil,oR];rfl
 |x ::xs=>by rw[List.map_cons,kT,List.length_cons,v5 xs,List.length_cons]
theorem pt{ZU:Env}:∀xs:List (Str×Pos),(assignEach (xs.map λx=>Expr.Name x.1 x.2) ZU).findIdx? (·.1)=none
 |[]=>by rw[List.map_nil,oR];rfl
 |x ::xs=>by rw[List.map_cons,kT,List.findIdx?_cons];simp[pt xs]
theorem u7{t:Value→Sem Unit}{ts:List (Value→Sem Unit)}{x:Value}{xs:List Value}:assignInOrder (t ::ts) (x ::xs)=(do holding xs (t x);assignInOrder ts xs):=rfl
theorem xE{ts:List (Value→Sem Unit)}:assignInOrder ts []=pure ():=by cases ts<;>rfl
theorem uw{xs:List Value}:assignInOrder [] xs=pure ():=rfl
theorem om{ts:List T}:hF [] ts σ=σ:=by cases ts<;>rfl
theorem oS{ZU:Env}{S g:Sh}{A:Around}{E:Value→Shared→Prop}(ok:EnvOk ZU pv)(xs:List (Str×Pos)):∀(vs:List Value)(ts:List T)(σ:Loc)(m:Str→Option Value)(s:Shared)(Q:Unit→Shared→Prop),
  (∀x∈xs,bO ZU pv x.1)→RA ZV w C S vs ts→Rel ZV w C hb ZU pv S g m σ none s.heap→
  (∀h' tk m',Ext w S g S h'→Rel ZV w C hb ZU pv S g m' (hF xs ts σ) none h'→Q () {s with heap:=h',toks:=tk})→
  wpAny (model ZV w) A (assignInOrder ((assignEach (xs.map λx=>.Name x.1 x.2) ZU).map (·.2)) vs) Q E s:=by
 induction xs with
 |nil=>
  intro vs ts σ m s Q hx ra r k
  rw[List.map_nil,oR,List.map_nil,uw]
  exact wpAny_pure (k s.heap s.toks m (Ext.tok r) (by rw[om];exact r))
 |cons x xs ih=>
  intro vs ts σ m s Q hx ra r k
  obtain⟨x,p⟩:=x
  cases ra with
  |nil=>rw[xE];exact wpAny_pure (k s.heap s.toks m (Ext.tok r) r)
  |cons a ra=>
   rw[List.map_cons,kT,List.map_cons,u7]
   refine wpAny_bind (wpAny_holding (wpAny_assign_Name ((r.res a).store ok (hx _ (.head _)) λh' tk e' r'=>?_)))
   exact ih _ _ _ _ _ _ (λy hy=>hx y (.tail _ hy)) ra r' λh2 tk2 m2 e2 r2=>k h2 tk2 m2 (e'.trans e2) r2
theorem tY{xs:List (Str×Pos)}{e:Expr}{k:Nat}{p pos:Pos}{ts:List T}(y:EvT ZV w C hb n ZU pv e σ ZZ (.tup ts))(hl:ts.length=xs.length)(hx:∀x∈xs,bO ZU pv x.1)
  (hs:∀ZU,swapsWithSole [.Tuple (xs.map λx=>.Name x.1 x.2) k p] e pos.line ZU=pure false) (hs2:∀ZU,swappedStores [.Tuple (xs.map λx=>.Name x.1 x.2) k p] e ZU=pure none) :
  du ZV w C hb n ZU pv (.Assign [.Tuple (xs.map λx=>.Name x.1 x.2) k p] e pos) σ (.nx (hF xs ts ZZ)):=λA E S g m s Q rm ok r pp=>by
 rw[arm_exec_Assign]
 refine wpAny_bind (wpAny_standAt (wpAny_bind (wpAny_of_eq (hs ZU) ?_)))
 simp only[Bool.false_eq_true,if_false]
 refine wpAny_bind (y A E S g m s _ rm ok r λS1 h1 tk1 v1 e1 r1 q1=>wpAny_bind (wpAny_of_eq (hs2 ZU) ?_))
 cases q1 using R.tupE with
 |@tup a vs nn ho ra=>
 have hc:(tO vs nn).cls= .type "tuple":=rfl
 have hd:(tO vs nn).data= .seq vs.toArray nn:=rfl
 have ht:h1.IsTuple a vs.toArray:=⟨_,r1.st.o _ _ ho,hc,_,hd⟩
 rw[Ch]
 simp only[List.map_cons,List.map_nil,assignStores,assignAll]
 refine wpAny_bind (wpAny_assign_Tuple (s:={s with heap:=h1,toks:=tk1}) rm.hh ht (by rw[v5,List.size_toArray,ra.length,hl]) (pt xs) λh2 he2=>?_)
 obtain⟨e2,r2⟩:=r1.keep (h':=h2) λb o e=>he2 b o (λz=>by rw[z,fresh (Nat.le_refl _)]at e;cases e) e
 simp only[List.toList_toArray]
 exact oS ok xs vs ts _ m {s with heap:=h2,toks:=tk1} _ hx ra r2 λh3 tk3 m3 e3 r3=>wpAny_pure (pp S1 h3 tk3 m3 (e1.trans (e2.trans e3)) r3)
end
section
variable{ZV:Program}{w:World}{C:Addr}{hb:Heap}{ZU:Env}{pv:List Addr}{S g:Sh}{m:Str→Option Value}{σ σ' ZZ ZY ZX:Loc}{ρ:Option (Value×V)}{h:Heap}{n:Nat}{K:Frag}{mg mb:Str→Option Value}{fI:Addr}
theorem Rel.take{D:Addr}{o:Obj}{h':Heap}{a:V}(r:Rel ZV w C hb ZU pv S (g.put D o) m σ none h)(ng:¬ g.has D)(nS:¬ S.has D)(np:D∉pv)(vz:∀b,Vis ZU b→b≠D)(kp:∀b x,b≠D→h.get? b=some x→h'.get? b=some x)(ok:VOk ZV w C S h' (.ref D) a [D]):
  Rel ZV w C hb ZU pv S g m σ (some (.ref D,a)) h':=by
 have r':=r.dropI ng nS vz kp
 obtain⟨fp,a1,a2⟩:=r.slots
 have off:∀i v b,Slot m σ none i v b→D∉fp i:=λi v b x z=>((a1 i v b x).2 D z).2.1 (Sh.has_o (x:=o) (by simp[Sh.put]))
 refine {r' with slots:=⟨λi=>if i=none then[D]else fp i,λi v b x=>?_,λi j v b v' b' n x y c hc=>?_⟩}
 ·rcases slot_none x with⟨rfl,rfl,rfl⟩|⟨hn,x⟩
  ·simp only[if_true]
   exact⟨ok,λc hc=>by rw[List.mem_singleton.mp hc];exact⟨nS,ng,np⟩⟩
  ·simp only[if_neg hn]
   obtain⟨q,c⟩:=a1 i v b x
   refine⟨q.keeps (.refl S) λc' hc' o' ho'=>kp c' o' (λz=>off i v b x (z ▸ hc')) ho',λc' hc'=>⟨(c c' hc').1,λz=>(c c' hc').2.1 ((aX ng).has z),(c c' hc').2.2⟩⟩
 ·rcases slot_none x with⟨hi,_,_⟩|⟨n1,x⟩
  ·simp only[if_pos hi]at hc
   rcases slot_none y with⟨hj,_,_⟩|⟨n2,y⟩
   ·exact absurd (hi.trans hj.symm) n
   ·simp only[if_neg n2]
    rw[List.mem_singleton.mp hc];exact off j v' b' y
  ·simp only[if_neg n1]at hc
   rcases slot_none y with⟨hj,_,_⟩|⟨n2,y⟩
   ·simp only[if_pos hj]
    intro z;rw[List.mem_singleton.mp z]at hc;exact off i v b x hc
   ·simp only[if_neg n2];exact a2 i j v b v' b' n x y c hc
theorem tE(gl:Gl K C fI mg mb hb)(r:Rel ZV w C hb ZU pv S g m σ ρ h){D:Addr}(hD:h.get? D=none):(D == sysModules)=false:=by
 obtain⟨o,ho⟩:=gl.sys
 have:=r.hbIn _ _ ho
 have ne:D≠sysModules:=λe=>by rw[←e,hD]at this;cases this
 simpa using ne
noncomputable def mE(ZV:Program)(w:World)(C:Addr)(hb:Heap)(n:Nat)(ZU:Env)(pv:List Addr)(keys:List (Option Expr))(values:List Expr)(σ σ':Loc)(ks:List Str)(ts:List T):Prop:=
 ∀(A:Around)(E:Value→Shared→Prop)(S g:Sh)(m:Str→Option Value)(s:Shared)(pos:Pos)(Q:List (Value×Value)→Shared→Prop),Rm n A→EnvOk ZU pv→Rel ZV w C hb ZU pv S g m σ none s.heap→
  (∀S' h' tk vs(kvs:List (Str×Value)),Ext w S g S' h'→Rel ZV w C hb ZU pv S' g m σ' none h'→Carries (PySem.strKind ZV w) vs kvs→kvs.map (·.1)=ks→RA ZV w C S' (kvs.map (·.2)) ts→Q vs {s with heap:=h',toks:=tk})→
  wpAny (model ZV w) A (evalPairs (pairTrees keys values ZU pos)) Q E s
theorem wF:mE ZV w C hb n ZU pv [] [] σ σ [] []:=λA E S g m s pos Q rm ok r k=>pairTrees_nil_walk (k S s.heap s.toks [] [] (Ext.tok r) r trivial rfl .nil)
theorem t0{kx:Str}{kk:Nat}{kp:Pos}{v:Expr}{keys:List (Option Expr)}{values:List Expr}{ks:List Str}{t:T}{ts:List T}(x:EvT ZV w C hb n ZU pv v σ ZZ t)(y:mE ZV w C hb n ZU pv keys values ZZ ZY ks ts):
  mE ZV w C hb n ZU pv (some (.Constant (.str kx) kk kp) ::keys) (v ::values) σ ZY (kx ::ks) (t ::ts):=λA E S g m s pos Q rm ok r k=>
 pairTrees_cons_walk (Constant_str (x A E S g m {s with toks:=s.toks+1} _ rm ok r λS1 h1 tk1 v1 e1 r1 q1=>y A E S1 g m {s with heap:=h1,toks:=tk1} pos _ rm ok r1 λS2 h2 tk2 vs kvs e2 r2 c2 k2 q2=>
  k S2 h2 tk2 _ ((kx,v1) ::kvs) (e1.trans e2) r2 ⟨strKind_is ZV w kx _,rfl,c2⟩ (by simp[k2]) (.cons (q1.mono e2.le) q2)))
theorem xW{keys:List (Option Expr)}{values:List Expr}{pos:Pos}{ks:List Str}{ts:List T}(gl:Gl K C fI mg mb hb)(x:mE ZV w C hb n ZU pv keys values σ ZZ ks ts)(hall:keys.all (·.isSome)=true)(hl:keys.length=values.length)(h0:keys≠[])(hlen:keys.length≤15)(hn:ks.Nodup):
  EvV ZV w C hb n ZU pv (.Dict keys values pos) σ ZZ (.od ks ts):=λA E S g m s Q rm ok r k=>by
 obtain⟨e0,r0,ng,nS,vz⟩:=r.grip (o:={cls:=.type "dict",data:=.dict #[]}) rfl
 have nD:=fresh (h:=s.heap) (Nat.le_refl _)
 refine wpAny_Dict_walk (knd:=PySem.strKind ZV w) hall hl h0 hlen (x A E S _ m {s with heap:=s.heap.push {cls:=.type "dict",data:=.dict #[]}} pos _ rm ok r0 λS1 h1 tk1 vs kvs e1 r1 c1 k1 q1=>?_)
 have hD1:h1.get? s.heap.objs.size=some {cls:=.type "dict",data:=.dict #[]}:=r1.kp.o _ _ (by simp[Sh.put])
 refine⟨kvs,c1,Heap.dictOf_iff.mpr ⟨_,hD1,?_⟩,λh2 hd2 sb2=>?_⟩
 ·exact⟨#[],0,⟨rfl,rfl,rfl⟩,rfl,by intro e he;simp at he,.nil,by simp⟩
 ·subst k1
  rw[merged_nil_of_nodup kvs hn]at hd2
  obtain⟨o2,ho2,hd2⟩:=Heap.dictOf_iff.mp hd2
  have nS1:¬ S1.has s.heap.objs.size:=λz=>nS (e1.nw _ (Sh.has_o (x:={cls:=.type "dict",data:=.dict #[]}) (by simp[Sh.put])) z)
  have np:s.heap.objs.size∉pv:=λz=>by obtain⟨o,ho⟩:=(r.priv _ z).1;rw[nD]at ho;cases ho
  have r2:=r1.take (h':=h2) (a:=.od (kvs.map (·.1)) ts) ng nS1 np vz (λb x hb e=>(sb2.2 b hb).trans e) (.od ho2 hd2 (tE gl r nD) q1)
  exact k S1 h2 _ _ ⟨e0.le.trans e1.le,r2.st,r2.kp,λb hg hs=>e1.nw b ((aX ng).has hg) hs⟩ r2
theorem tw{pos:Pos}(gl:Gl K C fI mg mb hb):EvV ZV w C hb n ZU pv (.Dict [] [] pos) σ σ (.od [] []):=λA E S g m s Q rm ok r k=>by
 refine wpAny_Dict_empty ?_
 have hd:Obj.IsDictOf (PySem.strKind ZV w) ({cls:=.type "dict",data:=.dict #[]}:Obj) []:=⟨#[],0,⟨rfl,rfl,rfl⟩,rfl,by intro e he;simp at he,.nil,by simp⟩
 obtain⟨e1,r1⟩:=r.addres (h':=s.heap.push {cls:=.type "dict",data:=.dict #[]}) (v:=.ref s.heap.objs.size) (a:=.od [] []) (fp:=[s.heap.objs.size]) (λb x e=>Heap.get?_push_of_some _ e)
  (VOk.od (kvs:=[]) (Heap.get?_push_size _ rfl) hd (tE gl r (fresh (Nat.le_refl _))) .nil) λb hb=>by rw[List.mem_singleton.mp hb];exact fresh (Nat.le_refl _)
 exact k S _ s.toks _ e1 r1
theorem Rel.od_odl{x:Str}(r:Rel ZV w C hb ZU pv S g m σ none h)(hL:ZU.locals∈pv)(hx:σ.lookup x=some (.od [] [])):Rel ZV w C hb ZU pv S g m (σ.set x (.odl [] [])) none h:=by
 obtain⟨v,fp,hm,q,c,off,go⟩:=r.ownPoke hL hx
 obtain⟨l,o,kvs,rfl,rfl,hk,ho,hd,hsm,ra⟩:=q.odI rfl
 have:kvs=[]:=by cases kvs with|nil=>rfl|cons a b=>simp at hk
 subst this
 exact(go h (.odl [] []) [l] (VOk.odl (kvs:=[]) ho hd hsm (by simp) .nil) (λb hb=>.inl hb) λb o _ ho=>ho).2
end
section
variable{ZV:Program}{w:World}{C:Addr}{hb:Heap}{ZU:Env}{pv:List Addr}{S g:Sh}{m:Str→Option Value}{σ σ' ZZ ZY ZX:Loc}{ρ:Option (Value×V)}{h:Heap}{n:Nat}{K:Frag}{mg mb:Str→Option Value}{fI:Addr}
noncomputable def Ba(ks:List Str)(ts:List T)(k:Str):T:=match ks.findIdx? (·=k)with
 |some j=>ts[j]?.getD .none
 |none=>.none
theorem fu:∀(kvs:List (Str×Value)){x:Str},(kvs.map (·.1)).findIdx? (·=x)=none→valueAt kvs x=none
 |[],_,_=>rfl
 |(k',v') ::r,x,hk=>by
  simp only[List.map_cons,List.findIdx?_cons]at hk
  by_cases e:k'=x
  ·subst e;simp at hk
  ·simp only[decide_eq_false e,Bool.false_eq_true,if_false,Option.map_eq_none_iff]at hk
   have ih:=fu r hk
   unfold valueAt at ih ⊢
   simpa[List.find?_cons,decide_eq_false e]using ih
theorem A3{o ke:Expr}{apos pos:Pos}{ks:List Str}{ts:List T}{k:Str}(x:EvT ZV w C hb n ZU pv o σ ZZ (.dict ks ts))(y:EvT ZV w C hb n ZU pv ke ZZ ZY (.str k))(mo:MethOk o "get" [ke] apos pos)(he:∀ZU,backTo pos (starEach [ke] ZU)=[(false,eval ke ZU)]):
  EvT ZV w C hb n ZU pv (.Call (.Attribute o "get" apos) [ke] [] pos) σ ZY (Ba ks ts k):=λA E S g m s Q rm ok r kk=>by
 refine wpAny_Call_method_lateS (mo.base ZU) (mo.few ZU) mo.line (x A E S g m s _ rm ok r λS1 h1 tk1 v1 e1 r1 q1=>?_)
 rw[he ZU]
 cases q1 using R.dictE with
 |@dict a o kvs ho hd hsm ra=>
 have hdo:h1.DictOf (PySem.strKind ZV w) a kvs:=Heap.dictOf_iff.mpr ⟨o,r1.st.o _ _ ho,hd⟩
 refine⟨"dict","dict.get",PySem.F.plainAttrs_dict,PySem.F.slot_dict_get,PySem.F.type_dict_get,hdo.typeIs,hdo.mapOf.noDict,wpAny_dict_get1 (knd:=PySem.strKind ZV w) hsm ?_⟩
 refine y A E S1 g m {s with heap:=h1,toks:=tk1} _ rm ok r1 λS2 h2 tk2 v2 e2 r2 q2=>?_
 cases q2 using R.strE with
 |str tt=>
 have hdo2:h2.DictOf (PySem.strKind ZV w) a kvs:=Heap.dictOf_iff.mpr ⟨o,r2.st.o _ _ (e2.le.o _ _ ho),hd⟩
 refine⟨k,_,strKind_is ZV w k tt,hdo2.mapOf,kk S2 h2 _ _ (e1.trans e2) r2 ?_⟩
 unfold Ba
 cases q:(kvs.map (·.1)).findIdx? (·=k)with
 |none=>rw[fu kvs q];exact .none
 |some j=>
  have hj:j < (kvs.map (·.1)).length:=(List.findIdx?_eq_some_iff_getElem.mp q).1
  have hl:=ra.length
  have hj':j < ts.length:=by rw[←hl];simpa using hj
  obtain⟨u,hu,ru⟩:=ra.get (i:=j) (t:=ts[j]) (by simp[hj'])
  rw[iL kvs q hu]
  simp only[hj',List.getElem?_eq_getElem,Option.getD_some]
  exact ru.mono e2.le
theorem yI{o e:Expr}{apos pos:Pos}{sep:Str}{xs:List Str}(x:EvT ZV w C hb n ZU pv o σ ZZ (.str sep))(y:EvT ZV w C hb n ZU pv e ZZ ZY (.list (xs.map .str)))(hj:JoinOk sep xs=true)(mo:MethOk o "join" [e] apos pos)(he:∀ZU,backTo pos (starEach [e] ZU)=[(false,eval e ZU)]):
  EvT ZV w C hb n ZU pv (.Call (.Attribute o "join" apos) [e] [] pos) σ ZY (.str (Txt.join sep xs)):=λA E S g m s Q rm ok r kk=>by
 refine wpAny_Call_method_lateS (mo.base ZU) (mo.few ZU) mo.line (x A E S g m s _ rm ok r λS1 h1 tk1 v1 e1 r1 q1=>?_)
 rw[he ZU]
 cases q1 using R.strE with
 |str tt=>
 refine PySem.SB.join (y A E S1 g m {s with heap:=h1,toks:=tk1} _ rm ok r1 λS2 h2 tk2 v2 e2 r2 q2=>?_)
 cases q2 using R.listE with
 |@list a us nn ho ra=>
 have hs:∀{us:List Value}{xs:List Str},RA ZV w C S2 us (xs.map .str)→∃l:List (Str×Tok),us=strValues l∧l.map (·.1)=xs:=λ{us xs}h=>by
  induction xs generalizing us with
  |nil=>cases h;exact⟨[],rfl,rfl⟩
  |cons z zs ih=>
   cases h using RA.consE with
   |cons a b=>
    cases a
    obtain⟨l,rfl,rfl⟩:=ih b
    exact⟨(z,_) ::l,rfl,rfl⟩
 obtain⟨l,rfl,hl⟩:=hs ra
 exact⟨a,l,rfl,⟨_,r2.st.o _ _ ho,rfl,nn,rfl⟩,xs,hl,hj,λt' k=>kk S2 h2 k _ (e1.trans e2) r2 (.str _ _)⟩
theorem ub{o e f:Expr}{apos pos:Pos}{t fill:Str}{i:Int}(x:EvT ZV w C hb n ZU pv o σ ZZ (.str t))(y:dK ZV w C hb n ZU pv [e,f] ZZ ZY [.int i,.str fill])(hp:PadOk i=true)(hf:fill.length=1)(mo:MethOk o "rjust" [e,f] apos pos)(pl:cn [e,f]):
  EvT ZV w C hb n ZU pv (.Call (.Attribute o "rjust" apos) [e,f] [] pos) σ ZY (.str (Txt.rjustF t i (fill.cps.getD 0 0))):=λA E S g m s Q rm ok r kk=>by
 refine wpAny_Call_method_lateS (mo.base ZU) (mo.few ZU) mo.line (x A E S g m s _ rm ok r λS1 h1 tk1 v1 e1 r1 q1=>?_)
 cases q1 using R.strE with
 |str tt=>
 refine⟨"str","str.rjust",PySem.F.plainAttrs_str,PySem.F.slot_str_rjust,PySem.F.type_str_rjust,typeIs_str _ _ _,(λ_ e=>nomatch e),?_⟩
 refine callWith_of (P:=λh=>∀a x,hb.get? a=some x→h.get? a=some x) (by simp only[pl.2 ZU pos,List.any_nil,Bool.or_false]) aM
  (bb pl.1 (y A E S1 g m {s with heap:=h1,toks:=tk1} pos _ rm ok r1 λS2 h2 tk2 vs e2 r2 q2=>⟨r2.hbIn,?_⟩))
 obtain⟨v1,v2,rfl,a1,a2⟩:=yb q2
 cases a1 using R.intE;cases a2 using R.strE
 exact rjust_fill hp hf λt' k=>kk S2 h2 k _ (e1.trans e2) r2 (.str _ _)
theorem vJ{y:Str}{e:Expr}{p1 p2 pos:Pos}{k i a:T}(gl:Gl K C fI mg mb hb)(gn:GN mg mb ZU "isinstance" (.builtin "isinstance"))(gy:GN mg mb ZU y (.ref C))(x:EvT ZV w C hb n ZU pv e σ ZZ (.vec k i a))
  (he:∀ZU pos,backTo pos (starEach [e,.Name y p2] ZU)=[(false,eval e ZU),(false,eval (.Name y p2) ZU)]) :
  EvT ZV w C hb n ZU pv (.Call (.Name "isinstance" p1) [e,.Name y p2] [] pos) σ ZZ (.bool true):=λA E S g m s Q rm ok r kk=>
 wpAny_Call_NameR (dq gl ok r.hbIn gn (callWith_of (P:=λh=>∀a x,hb.get? a=some x→h.get? a=some x) (by rw[he];rfl) aM (by
  rw[he]
  refine evalArgs_plain (Calls.spliced_cons (x A E S g m s _ rm ok r λS1 h1 tk1 v1 e1 r1 q1=>Calls.spliced_cons (dq gl ok r1.hbIn gy (Calls.spliced_nil ⟨r1.hbIn,?_⟩))))
  cases q1 using R.vecE with
  |@vec x d vk vi va hx hd qk qi qa=>
  refine isi_call (s:={s with heap:=h1,toks:=tk1}) (gl.kin.keeps r1.hbIn) (λM=>(Looks.ld (r1.st.o _ _ hx)).andThen .now) (by unfold isIn;simp) (by simp) ?_
  exact kk S1 h1 tk1 _ e1 r1 (.bool true))))
theorem g2{e:Expr}{p1 p2 pos:Pos}{b:Bool}(gl:Gl K C fI mg mb hb)(gn:GN mg mb ZU "isinstance" (.builtin "isinstance"))(gy:GN mg mb ZU "list" (.type "list"))(x:EvT ZV w C hb n ZU pv e σ ZZ (.bool b))
  (he:∀ZU pos,backTo pos (starEach [e,.Name "list" p2] ZU)=[(false,eval e ZU),(false,eval (.Name "list" p2) ZU)]) :
  EvT ZV w C hb n ZU pv (.Call (.Name "isinstance" p1) [e,.Name "list" p2] [] pos) σ ZZ (.bool false):=λA E S g m s Q rm ok r kk=>
 wpAny_Call_NameR (dq gl ok r.hbIn gn (callWith_of (P:=λh=>∀a x,hb.get? a=some x→h.get? a=some x) (by rw[he];rfl) aM (by
  rw[he]
  refine evalArgs_plain (Calls.spliced_cons (x A E S g m s _ rm ok r λS1 h1 tk1 v1 e1 r1 q1=>Calls.spliced_cons (dq gl ok r1.hbIn gy (Calls.spliced_nil ⟨r1.hbIn,?_⟩))))
  cases q1
  exact PySem.IsiPair.bool_list (kk S1 h1 _ _ e1 r1 (.bool false)))))
theorem ix{A:Around}{E:Value→Shared→Prop}{s:Shared}{Q:Value→Shared→Prop}{S₀:Sh}{a b c:Int}{t u v:Tok}{tk:Nat}(rm:Rm n A)(r:Rel ZV w C hb ZU pv S g m σ none s.heap)(e₀:Ext w S₀ g S s.heap)
  (hs:Builtin.Range.small a b c=true) (hn:0≤Builtin.Range.rangeSize a b c) (hz:(Builtin.Range.rangeSize a b c).toNat≤16777216)
  (k:∀S' h' tk v,Ext w S₀ g S' h'→Rel ZV w C hb ZU pv S' g m σ (some (v,.ol (ey a b c))) h'→Q v {s with heap:=h',toks:=tk}) :
  wpAny (model ZV w) A (call (.type "list") [.ref s.heap.objs.size]) Q E {s with heap:=s.heap.push {cls:=.type "range",data:=.fields #[.int a t,.int b u,.int c v]},toks:=tk}:=by
 obtain⟨e1,r1⟩:=r.new (o:={cls:=.type "range",data:=.fields #[.int a t,.int b u,.int c v]})
 refine call_list_range rm.hh (IsRange.new s.heap a b c t u v) hs (Int.toNat_of_nonneg hn).symm (by simpa using hz) λh' tk' acc c' kp new it=>?_
 obtain⟨i1,i2⟩:=it
 obtain⟨e2,r2⟩:=r1.addl (acc:=acc.toList) (c:=c') (ts:=ey a b c) kp (fresh (Nat.le_refl _)) (by simpa using new) (RA.ofGet (by simp[i1,ey]) λj v t h1 h2=>by
  obtain⟨t',rfl⟩:=i2 j v (by simpa using h1)
  simp only[ey,List.getElem?_map,Option.map_eq_some_iff]at h2
  obtain⟨j',hj',rfl⟩:=h2
  have:j'=j:=by
   rw[List.getElem?_eq_some_iff]at hj'
   obtain⟨_,q⟩:=hj'
   simpa using q.symm
  subst this;exact .int _ _)
 exact k S h' tk' _ (e₀.trans (e1.trans e2)) r2
theorem ia{es:List Expr}{p1 p2 p3 pos:Pos}{a b:Int}(gl:Gl K C fI mg mb hb)(gr:GN mg mb ZU "range" (.type "range"))(gn:GN mg mb ZU "list" (.type "list"))(pl:cn es)(y:dK ZV w C hb n ZU pv es σ ZZ [.int a,.int b])(hs:Builtin.Range.small a b 1=true)(hz:(Builtin.Range.rangeSize a b 1).toNat≤16777216)
  (he:∀ZU pos,backTo pos (starEach [.Call (.Name "range" p1) es [] p2] ZU)=[(false,eval (.Call (.Name "range" p1) es [] p2) ZU)]) :
  EvV ZV w C hb n ZU pv (.Call (.Name "list" p3) [.Call (.Name "range" p1) es [] p2] [] pos) σ ZZ (.ol (ey a b 1)):=λA E S g m s Q rm ok r kk=>
 wpAny_Call_NameR (dq gl ok r.hbIn gn (callWith_of (P:=λh=>∀a x,hb.get? a=some x→h.get? a=some x) (by rw[he];rfl) bN (by
  rw[he]
  refine evalArgs_plain (Calls.spliced_cons (dm gl gr bN pl y rm ok r λS1 h1 tk1 vs e1 r1 q1=>?_))
  obtain⟨v1,v2,rfl,a1,a2⟩:=yb q1
  cases a1 using R.intE;cases a2 using R.intE
  have hn:0≤Builtin.Range.rangeSize a b 1:=by rw[rangeSize_one];split<;>omega
  refine call_range_2 (Calls.spliced_nil ⟨λa x e=>Heap.get?_push_of_some _ (r1.hbIn a x e),?_⟩)
  exact ix (s:={s with heap:=h1,toks:=tk1}) rm r1 e1 hs hn hz kk)))
theorem wX{x:Str}{p1 p2 pos p3:Pos}{kk:Nat}{k i a:T}(gl:Gl K C fI mg mb hb)(hx:σ.lookup x=some (.f (.vec k i a)))(hv:bg ZU x):
  du ZV w C hb n ZU pv (.Assign [.Attribute (.Name x p1) "shared" p2] (.Constant (.bool true) kk p3) pos) σ (.nx σ):=λA E S g m s Q rm ok r p=>by
 obtain⟨v0,fp,hm,ow,c⟩:=r.own hx
 cases ow using VOk.fE with
 |f q=>
 cases q using R.vecE with
 |@vec l d vk vi va hl hd qk qi qa=>
 refine plainObj_wpAny_Assign_Attribute (wpAny_Constant_bool (wpAny_Name (au ok r.vars hm hv.1 ?_) hv.2)) rfl
 obtain⟨es,nn,vs,vl,hd',en⟩:=r.st.v _ _ hd
 obtain⟨t1,t2,t3,t4,t5,rfl⟩:=AD en
 refine g6 gl.cls (gl.kin.keeps r.hbIn) (r.st.o _ _ hl) rfl rfl rfl hd' (by decide) rfl (Nat.le_of_ble_eq_true rfl) λh2 hd2 sb=>?_
 have vd:VD w h2 d (vk,vi,va):=⟨_,_,.bool true,vl,hd2,(show EntOk w [⟨PyData.keyHash w.params "kind",.str "kind" t1,vk⟩,⟨PyData.keyHash w.params "items",.str "items" t2,vi⟩,⟨PyData.keyHash w.params "attrs",.str "attrs" t3,va⟩,⟨PyData.keyHash w.params "shared",.str "shared" t4,.bool true⟩,⟨PyData.keyHash w.params "loose",.str "loose" t5,vl⟩] dX [vk,vi,va,.bool true,vl]from
   .cons _ _ _ (.cons _ _ _ (.cons _ _ _ (.cons _ _ _ (.cons _ _ _ .nil)))))⟩
 have kp:∀b o,b≠d→s.heap.get? b=some o→h2.get? b=some o:=λb o hb ho=>(sb.2 b hb).trans ho
 have sin:S.In w h2:=⟨λa y e=>kp a y (λz=>by rw[z,r.st.dis _ _ hd]at e;cases e) (r.st.o a y e),λd' y e=>by
  by_cases z:d'=d
  ·subst z;rw[hd]at e;cases e;exact vd
  ·exact(r.st.v d' y e).keeps λo ho=>kp d' o z ho,r.st.dis⟩
 have gin:g.In w h2:=⟨λa y e=>kp a y (λz=>by rw[z,r.gd _ _ hd]at e;cases e) (r.kp.o a y e),λd' y e=>sin.v d' y (r.gS d' y e),r.kp.dis⟩
 have hasd:S.has d:=Sh.has_v hd
 refine p S h2 _ m (.refl sin gin) ⟨sin,gin,r.base,r.vars.keeps λb hb o ho=>kp b o (λz=>by have:=r.vis b hb;rw[z,hd]at this;cases this) ho,r.gS,r.gd,r.vis,λb hb=>?_,r.known,?_,r.gho⟩
 ·obtain⟨⟨o,ho⟩,c2,c3⟩:=r.priv b hb
  exact⟨⟨o,kp b o (λz=>c2 (z ▸ hasd)) ho⟩,c2,c3⟩
 ·obtain⟨fp',a1,a2⟩:=r.slots
  exact⟨fp',λi v b x=>⟨(a1 i v b x).1.keeps (.refl S) λc hc o ho=>kp c o (λz=>((a1 i v b x).2 c hc).1 (z ▸ hasd)) ho,(a1 i v b x).2⟩,a2⟩
end
section
variable{ZV:Program}{w:World}{C:Addr}{hb:Heap}{ZU:Env}{pv:List Addr}{S g:Sh}{m:Str→Option Value}{σ σ' ZZ ZY ZX:Loc}{ρ:Option (Value×V)}{h:Heap}{n:Nat}{K:Frag}{mg mb:Str→Option Value}{fI:Addr}
noncomputable def WhileJ(ZV:Program)(w:World)(C:Addr)(hb:Heap)(n:Nat)(ZU:Env)(pv:List Addr)(test:Expr)(body:List Stmt)(kk k:Nat):Loc→O→Prop:=
 Nat.rec (motive:=λ_=>Loc→O→Prop) (λ_ _=>False) (λ_ ih σ o=>(∃ZZ,EvB ZV w C hb n ZU pv test σ ZZ false∧ .nx ZZ=o)∨∃ZZ,EvB ZV w C hb n ZU pv test σ ZZ true∧
  ((∃ZY,ExJ ZV w C hb n ZU pv body ZZ (.nx ZY)∧ih (ZY.take kk) o)∨(∃ZY,ExJ ZV w C hb n ZU pv body ZZ (.ct ZY)∧ih (ZY.take kk) o)∨(∃ZY,.nx (ZY.take kk)=o∧ExJ ZV w C hb n ZU pv body ZZ (.bk ZY))∨∃ZY a,.rt a ZY=o∧ExJ ZV w C hb n ZU pv body ZZ (.rt a ZY))) k
theorem WhileJ.inv{test:Expr}{body:List Stmt}{kk k:Nat}{σ:Loc}{o:O}(l:WhileJ ZV w C hb n ZU pv test body kk (k+1) σ o):(∃ZZ,EvB ZV w C hb n ZU pv test σ ZZ false∧ .nx ZZ=o)∨∃ZZ,EvB ZV w C hb n ZU pv test σ ZZ true∧
  ((∃ZY,ExJ ZV w C hb n ZU pv body ZZ (.nx ZY)∧WhileJ ZV w C hb n ZU pv test body kk k (ZY.take kk) o)∨(∃ZY,ExJ ZV w C hb n ZU pv body ZZ (.ct ZY)∧WhileJ ZV w C hb n ZU pv test body kk k (ZY.take kk) o)∨
   (∃ZY,.nx (ZY.take kk)=o∧ExJ ZV w C hb n ZU pv body ZZ (.bk ZY))∨∃ZY a,.rt a ZY=o∧ExJ ZV w C hb n ZU pv body ZZ (.rt a ZY)):=l
inductive WhileI(s:Shared)(Wj:Nat→Loc→Prop)(Ex:Sh→Heap→Prop)(Rl:Sh→(Str→Option Value)→Loc→Heap→Prop)(k:Nat)(s':Shared):Prop
 |mk (σ':Loc) (m':Str→Option Value) (S':Sh) (h':Heap) (tk':Nat) (l':Wj k σ') (hs:s'={s with heap:=h',toks:=tk'}) (e':Ex S' h') (r':Rl S' m' σ' h'):WhileI s Wj Ex Rl k s'
theorem wR{kk:Nat}{test:Expr}{body:List Stmt}{pos:Pos}{k:Nat}{o:O}(l:WhileJ ZV w C hb n ZU pv test body kk k σ o):du ZV w C hb n ZU pv (.While test body [] pos) σ o:=λA E S g m s Q rm ok r p=>by
 refine wpAny_While (codeAny_whileLoop (WhileI s (λk σ'=>WhileJ ZV w C hb n ZU pv test body kk k σ' o) (Ext w S g) λS' m' σ' h'=>Rel ZV w C hb ZU pv S' g m' σ' none h') ?_ k ⟨σ,m,S,s.heap,s.toks,l,rfl,Ext.tok r,r⟩)
 intro k s' hI
 clear l
 obtain⟨σ',m',S',h',tk',l',rfl,e',r'⟩:=hI
 cases k with
 |zero=>exact l'.elim
 |succ k=>
 rcases l'.inv with⟨_,t,rfl⟩|⟨_,t,l⟩
 ·refine t A _ S' g m' {s with heap:=h',toks:=tk'} _ rm ok r' λS2 h2 tk2 e2 r2=>?_
  rw[if_neg (by decide)]
  exact wpAny_execs_nil (p S2 h2 tk2 m' (e'.trans e2) r2)
 ·refine t A _ S' g m' {s with heap:=h',toks:=tk'} _ rm ok r' λS2 h2 tk2 e2 r2=>?_
  rw[if_pos rfl]
  clear l'
  rcases l with⟨_,b,l⟩|⟨_,b,l⟩|⟨_,rfl,b⟩|⟨_,_,rfl,b⟩
  ·exact b A _ S2 g m' {s with heap:=h2,toks:=tk2} _ rm ok r2 λS3 h3 tk3 m3 e3 r3=>⟨_,Nat.lt_succ_self _,_,m3,S3,h3,tk3,l,rfl,e'.trans (e2.trans e3),r3.sub (bW kk _)⟩
  ·exact b A _ S2 g m' {s with heap:=h2,toks:=tk2} _ rm ok r2 λS3 h3 tk3 m3 e3 r3=>⟨_,Nat.lt_succ_self _,_,m3,S3,h3,tk3,l,rfl,e'.trans (e2.trans e3),r3.sub (bW kk _)⟩
  ·exact b A _ S2 g m' {s with heap:=h2,toks:=tk2} _ rm ok r2 λS3 h3 tk3 m3 e3 r3=>p S3 h3 tk3 m3 (e'.trans (e2.trans e3)) (r3.sub (bW kk _))
  ·exact b A _ S2 g m' {s with heap:=h2,toks:=tk2} _ rm ok r2 λS3 h3 tk3 v3 m3 e3 r3=>p S3 h3 tk3 v3 m3 (e'.trans (e2.trans e3)) r3
theorem xv{A:Around}{E:Value→Shared→Prop}{s:Shared}{S:Sh}{va vb:Value}{Q:Value→Shared→Prop}{a b:Int}(p:R ZV w C S va (.int a))(q:R ZV w C S vb (.int b))(k:∀tk v,R ZV w C S v (.int (a - b))→Q v {s with toks:=tk}):
  wpAny (model ZV w) A (inplaceOp .Sub va vb) Q E s:=by cases p using R.intE;cases q using R.intE;exact isub_int (k _ _ (.int _ _))
theorem A5{e:Expr}{pos:Pos}{i:Int}(x:EvT ZV w C hb n ZU pv e σ ZZ (.int i)):EvT ZV w C hb n ZU pv (.UnaryOp .USub e pos) σ ZZ (.int (-i)):=λA E S g m s Q rm ok r k=>
 wpAny_UnaryOp (x A E S g m s _ rm ok r λS1 h1 tk1 v1 e1 r1 q1=>by
  cases q1 using R.intE
  exact PySem.P.neg_int (k _ _ _ _ e1 r1 (.int _ _)))
end
section
variable{ZV:Program}{w:World}{C:Addr}{hb:Heap}{ZU:Env}{pv:List Addr}{S g:Sh}{m:Str→Option Value}{σ σ' ZZ ZY ZX:Loc}{ρ:Option (Value×V)}{h:Heap}{n:Nat}{K:Frag}{mg mb:Str→Option Value}{fI:Addr}
theorem mA(l:Addr)(items:Array Value)(x:Value)(e:Value→Bool)(he:∀y,y∈items→PySem.MeetsSeq.EqGives y x (e y))(j:Nat)(hj:j < items.size)(hit:e items[j]=true)(hno:∀m(hm:m < items.size),m < j→e items[m]=false):
  Meets (Builtin.«tuple.index» ⟨[.ref l,x],[]⟩)
   (λ_ R s=>s.heap.IsTuple l items∧R (.ok (.ret (.int j s.toks))) {s with toks:=s.toks+1}):=by
 intro ZV w A R s h
 obtain⟨hp,g,d,tk,os⟩:=s;obtain⟨hl,h⟩:=h
 unfold Builtin.«tuple.index»
 obtain⟨o,ho,hc,nn,hd⟩:=hl
 have ho':=ho
 refine wpAny_bind ?_
 refine wpAny_of_eq (a:=(Value.ref l,[x])) rfl ?_
 dsimp only
 refine wpAny_bind ?_
 unfold Builtin.Tuple.tupleItemsOf seqItems?
 refine wpAny_bind (wpAny_bind (wpAny_load ho ?_))
 rw[hd]
 refine wpAny_pure ?_
 dsimp only
 refine wpAny_pure (wpAny_bind (wpAny_pure (wpAny_bind (wpAny_pure ?_))))
 simp only[Nat.min_self]
 refine wpAny_bind ?_
 rw[Std.Legacy.Range.forIn_eq_forIn_range']
 have hsz:([:items.size]:Std.Legacy.Range).size=items.size:=by simp[Std.Legacy.Range.size]
 show wpAny _ _ (forIn (List.range' 0 ([:items.size]:Std.Legacy.Range).size 1) _ _) _ _ _
 rw[hsz]
 refine wpAny_forIn_list _ (λrest b s'=>∃i,rest=List.range' i (items.size - i) 1∧i≤j∧b=(none,())∧s'=⟨hp,g,d,tk,os⟩) _ ?_ ?_ _ _ ⟨0,by simp,Nat.zero_le _,rfl,rfl⟩
 ·rintro i0 rest b s' ⟨i,hr,hij,rfl,rfl⟩
  have hlt:i < items.size:=Nat.lt_of_le_of_lt hij hj
  rw[←Nat.sub_add_cancel (Nat.sub_pos_of_lt hlt),List.range'_succ]at hr
  obtain⟨rfl,rfl⟩:=List.cons.inj hr
  have hi:items[i0]?=some items[i0]:=by simp[hlt]
  rw[hi]
  dsimp only
  refine wpAny_bind (he _ (Array.getElem_mem hlt) ZV w _ _ _ _ ?_)
  by_cases hji:i0=j
  ·subst hji
   rw[hit]
   simp only[if_true]
   unfold PySem.retInt
   refine wpAny_bind (wpAny_bind (wpAny_mkInt (wpAny_pure (wpAny_pure ?_))))
   exact wpAny_pure h
  ·rw[hno i0 hlt (by(apply uL;assumption;assumption))]
   simp only[Bool.false_eq_true,if_false]
   refine wpAny_pure ⟨i0+1,?_,by omega,rfl,rfl⟩
   congr 1
 ·rintro b s' ⟨i,hr,hij,rfl,rfl⟩
  exfalso
  rw[←Nat.sub_add_cancel (Nat.sub_pos_of_lt (Nat.lt_of_le_of_lt hij hj)),List.range'_succ]at hr
  cases hr
theorem rj{o e:Expr}{apos pos:Pos}{ks:List Str}{k:Str}{j:Nat}(x:EvT ZV w C hb n ZU pv o σ ZZ (.tup (ks.map .str)))(y:EvT ZV w C hb n ZU pv e ZZ ZY (.str k))(hj:ks.findIdx? (·=k)=some j)(mo:MethOk o "index" [e] apos pos)(he:∀ZU,backTo pos (starEach [e] ZU)=[(false,eval e ZU)]):
  EvT ZV w C hb n ZU pv (.Call (.Attribute o "index" apos) [e] [] pos) σ ZY (.int j):=λA E S g m s Q rm ok r p=>by
 refine wpAny_Call_method_lateS (mo.base ZU) (mo.few ZU) mo.line (x A E S g m s _ rm ok r λS1 h1 tk1 v1 e1 r1 q1=>?_)
 rw[he ZU]
 cases q1 using R.tupE with
 |@tup a vs nn ho ra=>
 have ho1:=r1.st.o _ _ ho
 refine⟨"tuple","tuple.index",PySem.F.plainAttrs_tuple,PySem.F.slot_tuple_index,PySem.F.type_tuple_index,⟨_,ho1,rfl⟩,(λb e=>by cases e;exact⟨_,ho1,rfl⟩),method1_meets PySem.F.slot_tuple_index PySem.F.entry_tuple_index ?_⟩
 refine y A E S1 g m {s with heap:=h1,toks:=tk1} _ rm ok r1 λS2 h2 tk2 v2 e2 r2 q2=>?_
 cases q2 using R.strE with
 |str tt=>
 have ho2:=r2.st.o _ _ (e2.le.o _ _ ho)
 obtain⟨hjl,hjk,i1,i2,i3⟩:=ra.idx hj tt
 exact⟨⟨_,ho2,rfl⟩,PySem.F.args_tuple_index_2 _ _,_,mA a vs.toArray (.str k tt) (AT k) i1 j hjl i2 i3,⟨_,ho2,rfl,nn,rfl⟩,p S2 h2 _ _ (e1.trans e2) r2 (.int _ _)⟩
theorem A7{e:Expr}{a:V}{pos:Pos}(x:EvV ZV w C hb n ZU pv e σ ZZ a)(hi:interactive ZU=false)(hs:swapsWith e none pos.line ZU=pure false):du ZV w C hb n ZU pv (.Expr e pos) σ (.nx ZZ):=λA E S g m s Q rm ok r p=>
 wpAny_Expr_any (x A E S g m s _ rm ok r λS1 h1 tk1 v1 e1 r1=>p S1 h1 tk1 m e1 r1.drop) hi hs
end
section
variable{ZV:Program}{w:World}{C:Addr}{hb:Heap}{ZU:Env}{pv:List Addr}{S g:Sh}{m:Str→Option Value}{σ σ' ZZ ZY ZX:Loc}{ρ:Option (Value×V)}{h:Heap}{n:Nat}{K:Frag}{mg mb:Str→Option Value}{fI:Addr}
theorem Rel.lentL{x:Str}{i:Nat}{a₀:Addr}{ts:List T}(r:Rel ZV w C hb ZU pv S g m σ ρ h)(hx:σ.lookup x=some (.f (.opq i a₀)))(hg:σ.lookup (ghost i)=some (.ol ts)):
  ∃vs k,m x=some (.ref (S.q i))∧m (ghost i)=some (.ref (S.q i))∧h.get? (S.q i)=some (lO vs k)∧RA ZV w C S vs ts:=by
 obtain⟨a,vs,k,hm,ho,ra⟩:=r.ownL hg
 have hgm:=r.gho i
 rw[hgm]at hm;cases hm
 obtain⟨v,fp,hmx,ow,_⟩:=r.own hx
 cases ow using VOk.fE with
 |f q=>
  cases q using R.opqE with|opq _ eq=>
  subst eq
  exact⟨vs,k,hmx,hgm,ho,ra⟩
theorem sw{v i:Expr}{A:Around}{E:Value→Shared→Prop}{s:Shared}{a:Addr}{vs:List Value}{nn:Nat}{vb:Value}{Q:Value→Shared→Prop}{ts:List T}{k:Int}{t:T}(hs:oG i)(hk:wz ts k=some t)(hlo: -(2 ^ 62)≤k)(hhi:k < 2 ^ 62)
  (ho:s.heap.get? a=some (lO vs nn)) (r:RA ZV w C S vs ts) (q:R ZV w C S vb (.int k)) (kk:∀tk u,R ZV w C S u t→Q u {s with toks:=tk}):wpAny (model ZV w) A (subscriptTail v i (.ref a) vb) Q E s:=by
 have hl:s.heap.IsList a vs.toArray:=⟨_,ho,rfl,nn,rfl⟩
 cases q using R.intE
 have hlen:=r.length
 unfold wz at hk
 refine tail_any hl.typeIs slot_list_getitem.lookup ?_ (hs _ _)
 split at hk
 ·rename_i h0
  obtain⟨u,hu,ru⟩:=r.get hk
  exact wpAny_getItem_list hl h0 (by(apply zF;assumption;decide)) (by simpa using hu) (kk s.toks u ru)
 ·split at hk
  ·rename_i h0 h1
   obtain⟨u,hu,ru⟩:=r.get hk
   refine wpAny_getItem_list_neg hl (Int.not_le.mp h0) ?_ (vQ (by assumption)) ?_ (kk s.toks u ru)
   ·simp only[List.size_toArray,hlen];exact h1
   ·simpa[hlen]using hu
  ·cases hk
theorem xR{x:Str}{e:Expr}{p pos:Pos}{i:Nat}{a₀ a₁:Addr}{ts:List T}{k:Int}{t:T}(hx0:σ.lookup x=some (.f (.opq i a₀)))(hv:bg ZU x)(y:EvT ZV w C hb n ZU pv e σ ZZ (.int k))(hx:ZZ.lookup x=some (.f (.opq i a₁)))(hg:ZZ.lookup (ghost i)=some (.ol ts))(hs:oG e)(hk:wz ts k=some t)(hlo: -(2 ^ 62)≤k)(hhi:k < 2 ^ 62):
  EvT ZV w C hb n ZU pv (.Subscript (.Name x p) e pos) σ ZZ t:=λA E S g m s Q rm ok r kk=>by
 obtain⟨v,fp,hmx,ow,_⟩:=r.own hx0
 cases ow using VOk.fE with
 |f q=>
 cases q using R.opqE with|opq _ eq=>
 subst eq
 refine Subscript_ (wpAny_Name (au ok r.vars hmx hv.1 ?_) hv.2)
 refine y A E S g m s _ rm ok r λS1 h1 tk1 v1 e1 r1 q1=>?_
 obtain⟨vs,nn,h2,h3,ho,ra⟩:=r1.lentL hx hg
 rw[e1.le.q]
 exact sw (s:={s with heap:=h1,toks:=tk1}) hs hk hlo hhi ho ra q1 λtk2 u q2=>kk S1 h1 tk2 u e1 r1 q2
theorem yr{x:Str}{p p2 pos:Pos}{i:Nat}{a₀:Addr}{ts:List T}(gl:Gl K C fI mg mb hb)(gn:GN mg mb ZU "len" (.builtin "len"))(hx:σ.lookup x=some (.f (.opq i a₀)))(hv:bg ZU x)(hg:σ.lookup (ghost i)=some (.ol ts))(hz:ts.length < 16777216):
  EvT ZV w C hb n ZU pv (.Call (.Name "len" p2) [.Name x p] [] pos) σ σ (.int ts.length):=λA E S g m s Q rm ok r kk=>by
 obtain⟨vs,nn,hm,_,ho,ra⟩:=r.lentL hx hg
 refine wpAny_Call_NameR (dq gl ok r.hbIn gn (callWith_of (P:=λh=>∀a x,hb.get? a=some x→h.get? a=some x) rfl aM
  (evalArgs_plain (Calls.spliced_cons (wpAny_Name (au ok r.vars hm hv.1 (Calls.spliced_nil ⟨r.hbIn,?_⟩)) hv.2)))))
 have hl:s.heap.IsList (S.q i) vs.toArray:=⟨_,ho,rfl,nn,rfl⟩
 have:=ra.length
 refine len_list hl (by simp only[List.size_toArray];omega) ?_
 simp only[List.size_toArray,this]
 exact kk _ _ _ _ (Ext.tok r) r (.int _ _)
theorem rM{x:Str}{e:Expr}{p1 apos pos pos':Pos}{i:Nat}{a₀:Addr}{t:T}{ts₀ ts:List T}(hx0:σ.lookup x=some (.f (.opq i a₀)))(hg0:σ.lookup (ghost i)=some (.ol ts₀))(hv:bg ZU x)(y:EvT ZV w C hb n ZU pv e σ ZZ t)(hg:ZZ.lookup (ghost i)=some (.ol ts))(hz:ts.length≤16777216)
  (mo:MethOk (.Name x p1) "append" [e] apos pos) (he:∀ZU,backTo pos (starEach [e] ZU)=[(false,eval e ZU)])
  (hi:interactive ZU=false) (hs:swapsWith (.Call (.Attribute (.Name x p1) "append" apos) [e] [] pos) none pos'.line ZU=pure false) :
  du ZV w C hb n ZU pv (.Expr (.Call (.Attribute (.Name x p1) "append" apos) [e] [] pos) pos') σ (.nx (ZZ.set (ghost i) (.ol (ts ++ [t])))):=λA E S g m s Q rm ok r p=>by
 obtain⟨vs,k,hm,hgm,ho,ra⟩:=r.lentL hx0 hg0
 refine wpAny_Expr (wpAny_Call_append (mo.base ZU) (mo.few ZU) mo.line (he ZU) (wpAny_Name (au ok r.vars hm hv.1 ⟨_,_,rfl,⟨_,k,ho,rfl,rfl,rfl⟩,?_⟩) hv.2)) hi hs
 refine y A E S g m s _ rm ok r λS' h' tk v e' r' q=>?_
 obtain⟨a',vs',k',hm',ho',ra'⟩:=r'.ownL hg
 rw[hgm]at hm';cases hm'
 refine wpAny_list_append_plain (s:={s with heap:=h',toks:=tk}) ⟨k',ho'⟩ (λh2 hp2 hs2=>?_) (by rw[List.size_toArray,sizeLine_eq];exact ii ra' hz)
 obtain⟨n2,hp2⟩:=hp2
 rw[List.push_toArray]at hp2
 obtain⟨e2,r2⟩:=r'.pokeL ok.loc hg hgm hs2 hp2 (ra'.append (.cons q .nil))
 exact p S' h2 tk m (e'.trans e2) r2
theorem tu{A:Around}{E:Value→Shared→Prop}{s:Shared}{l:Addr}{vs:List Value}{nn:Nat}{k:Int}{t:Tok}{v:Value}{Q:Unit→Shared→Prop}(ho:s.heap.get? l=some (lO vs nn))(h0:0≤k)(hfit:k < 2 ^ 63)(hn:k < vs.length)
  (hQ:∀h' n',h'.get? l=some (lO (vs.set k.toNat v) n')→Heap.SameBut l s.heap h'→Q () {s with heap:=h'}):wpAny (model ZV w) A (setItem (.ref l) (.int k t) v) Q E s:=by
 have hl:s.heap.IsList l vs.toArray:=⟨_,ho,rfl,nn,rfl⟩
 unfold setItem
 try with_reducible refine wpAny_holding ?_
 first|refine wpAny_bind (wpAny_pure ?_)|skip
 refine wpAny_bind (wpAny_sequenceKey hl.typeIs (by decide) ?_)
 refine wpAny_bind (wpAny_callSpecial?_slot (name:=Str.ofString "__setitem__") hl.typeIs slot_list_setitem
  (wpAny_call_entry slot_list_setitem hl.typeIs entry_list_setitem ?_ (args_list_setitem _ _ _)))
 show wpAny _ _ (Builtin.List.listSubscript? (.int k t) >>= _) _ _ s
 refine wpAny_bind (wpAny_listSubscript_int (fitsIndex_of h0 hfit) ?_)
 clear hfit
 obtain⟨j,rfl⟩:=Int.eq_ofNat_of_zero_le h0
 have hj:j < vs.toArray.size:=by rw[List.size_toArray];omega
 have hx':vs.toArray[j]?=some vs.toArray[j]:=Array.getElem?_eq_getElem hj
 show wpAny _ _ ((seqItemAt l j >>= λr=>pure (r.map (j,·))) >>= _) _ _ s
 refine wpAny_bind (wpAny_bind (wpAny_seqItemAt ho rfl (wpAny_pure ?_)))
 rw[hx']
 show wpAny _ _ (setSeqItemAt l j v >>= _) _ _ s
 have hfin:=IsL.update (x:=(ho:IsL s.heap l vs.toArray nn)) (λxs=>xs.setIfInBounds j v)
 have hset:vs.toArray.setIfInBounds j v=(vs.set j v).toArray:=by simp
 simp only[hset]at hfin
 refine wpAny_bind (wpAny_setSeqItemAt ho rfl ?_)
 first
  |exact wpAny_bind (wpAny_pure (wpAny_pure ⟨.none,rfl,wpAny_pure (hQ _ _ hfin (Heap.SameBut.update ..))⟩))
  |exact wpAny_pure ⟨.none,rfl,wpAny_pure (hQ _ _ hfin (Heap.SameBut.update ..))⟩
theorem RA.set{S:Sh}{v:Value}{t:T}(rt:R ZV w C S v t){vs:List Value}{ts:List T}(h:RA ZV w C S vs ts):∀(j:Nat),RA ZV w C S (vs.set j v) (ts.set j t):=
 RA.ind (Q:=λvs ts=>∀(j:Nat),RA ZV w C S (vs.set j v) (ts.set j t)) (λ_=>.nil) (λa b ih j=>by
  cases j with
  |zero=>exact .cons rt b
  |succ j=>exact .cons a (ih j)) h
theorem Cm{x:Str}{e j:Expr}{p1 p2 pos:Pos}{i:Nat}{a₀:Addr}{ts:List T}{k:Int}{t:T}(y:EvT ZV w C hb n ZU pv e σ ZZ t)(z:EvT ZV w C hb n ZU pv j ZZ ZY (.int k))(hx0:ZZ.lookup x=some (.f (.opq i a₀)))(hg:ZY.lookup (ghost i)=some (.ol ts))(hv:bg ZU x)
  (h0:0≤k) (h1:k < 2 ^ 63) (h2:k < ts.length) (hs:swapsWith e (some (.Subscript (.Name x p1) j p2)) pos.line ZU=pure false) :
  du ZV w C hb n ZU pv (.Assign [.Subscript (.Name x p1) j p2] e pos) σ (.nx (ZY.set (ghost i) (.ol (ts.set k.toNat t)))):=λA E S g m s Q rm ok r p=>by
 refine wpAny_Assign_Subscript (y A E S g m s _ rm ok r λS' h' tk v e' r' q=>?_) hs
 obtain⟨v0,fp,hmx,ow,_⟩:=r'.own hx0
 cases ow using VOk.fE with
 |f qq=>
 cases qq using R.opqE with|opq _ eq=>
 subst eq
 refine wpAny_Name (au ok r'.vars hmx hv.1 ?_) hv.2
 refine z A E S' g m _ _ rm ok r' λS2 hh2 tk2 vi e2 r2 q2=>?_
 obtain⟨a,vs,nn,hm,ho,ra⟩:=r2.ownL hg
 have hgm:=r2.gho i
 rw[hgm]at hm
 cases hm
 rw[e2.le.q]
 cases q2 using R.intE with
 |int tt=>
 refine tu (s:={s with heap:=hh2,toks:=tk2}) ho h0 h1 (by rw[ra.length];exact h2) λh3 n3 ho3 sb3=>?_
 obtain⟨e3,r3⟩:=r2.pokeL ok.loc hg hgm sb3 ho3 (ra.set (q.mono e2.le) k.toNat)
 exact p S2 h3 tk2 m ((e'.trans e2).trans e3) r3
theorem BY{x:Str}{p1 apos pos pos' pk:Pos}{kk:Nat}{i:Nat}{a₀:Addr}{t:T}{ts:List T}(hx:σ.lookup x=some (.f (.opq i a₀)))(hg:σ.lookup (ghost i)=some (.ol (t ::ts)))(hv:bg ZU x)(hz:ts.length < 16777216)
  (mo:MethOk (.Name x p1) "pop" [.Constant (.int 0) kk pk] apos pos)
  (hi:interactive ZU=false) (hs:swapsWith (.Call (.Attribute (.Name x p1) "pop" apos) [.Constant (.int 0) kk pk] [] pos) none pos'.line ZU=pure false) :
  du ZV w C hb n ZU pv (.Expr (.Call (.Attribute (.Name x p1) "pop" apos) [.Constant (.int 0) kk pk] [] pos) pos') σ (.nx (σ.set (ghost i) (.ol ts))):=λA E S g m s Q rm ok r p=>by
 obtain⟨vs,k,hm,hgm,ho,ra⟩:=r.lentL hx hg
 refine wpAny_Expr_any (wpAny_Call_method_lateS (mo.base ZU) (mo.few ZU) mo.line (wpAny_Name (au ok r.vars hm hv.1 ?_) hv.2)) hi hs
 cases ra using RA.consE with
 |@cons v vs a b=>
 have ht:backTo pos (starEach [.Constant (.int 0) kk pk] ZU)=[(false,eval (.Constant (.int 0) kk pk) ZU)]:=rfl
 rw[ht]
 refine⟨"list","list.pop",PySem.F.plainAttrs_list,PySem.F.slot_list_pop,PySem.F.type_list_pop,⟨_,ho,rfl⟩,λb e=>by cases e;exact⟨_,ho,rfl⟩,PySem.P.pop_at_list (wpAny_Constant_int (k:=kk) (pos:=pk) ?_)⟩
 have hlen:=b.length
 refine⟨(v ::vs).toArray,k,0,_,0,v,by rw[List.size_toArray,sizeLine_eq];simp;(apply sS;assumption;assumption;rfl),rfl,ho,by decide,by simp[seqIndex?],by simp,?_⟩
 have hl:=IsL.update (x:=(ho:IsL s.heap (S.q i) (v ::vs).toArray k)) (λxs=>xs.eraseIdxIfInBounds 0)
 have he:(v ::vs).toArray.eraseIdxIfInBounds 0=vs.toArray:=by simp[Array.eraseIdxIfInBounds]
 simp only[he]at hl
 obtain⟨e2,r2⟩:=r.pokeL ok.loc hg hgm (Heap.SameBut.update ..) hl b
 exact p S _ _ m e2 r2
end
section
theorem k8{ZV:Program}{w:World}{A:Around}{E:Value→Shared→Prop}{s:Shared}{d:Addr}{kvs:List (Str×Value)}{ep:Nat}{Q:List Value→Shared→Prop}(hh:A.handled=none)(hds:(d == sysModules)=false)(hm:s.heap.DictAt (PySem.strKind ZV w) d kvs ep)(hn:kvs.length≤sizeLine)
  (hQ:∀h' tk(acc:Array Value),(∀b o,s.heap.get? b=some o→h'.get? b=some o)→ItemsOf (λi v=>∃k x,kvs[i]?=some (k,x)∧(PySem.strKind ZV w).is k v=true) acc kvs.length→Q acc.toList {s with heap:=h',toks:=tk}) :
  wpAny (model ZV w) A (collect (.ref d)) Q E s:=by
 unfold collect
 refine wpAny_bind (wpAny_runValue (codeAny_builtin entry_proto_collect' ?_))
 show wpAny _ _ (do again (.builtin "list.__iadd__" ⟨[←newList [],.ref d],[]⟩)) _ _ s
 refine wpAny_bind (wpAny_newList (wpAny_pure ⟨Code.quiet_builtin _ (by decide +kernel),codeAny_builtin entry_list_iadd' ?_⟩))
 show wpAny _ _ (Builtin.List.listExtendWith (.ref s.heap.objs.size) (.ref d) (.ref s.heap.objs.size)) _ _ {s with heap:=s.heap.push (seqObj "list" #[] 0)}
 have hlt:=hm.lt_size
 have hm2:(s.heap.push (seqObj "list" #[] 0)).DictAt (PySem.strKind ZV w) d kvs ep:=hm.at' λo e=>Heap.get?_push_of_some _ e
 have hS:(s.heap.push (seqObj "list" #[] 0)).get? s.heap.objs.size=some {cls:=.type "list",data:=.seq #[] 0}:=Heap.get?_push_size _ rfl
 refine wpAny_mono (kdl_extend (s:={s with heap:=s.heap.push (seqObj "list" #[] 0)}) (R:=λr s'=>match r with
   |.ok (.ret v)=>wpAny (model ZV w) A (match v with
     |Value.ref a=>do
      let o ←load a
      match o.data with
       |Data.seq xs epoch=>pure xs.toList
       |x=>unsupported "internal:collect"
     |x=>unsupported "internal:collect") Q E s'
   |.ok _=>False
   |.error e=>E e s') (kdl_dict hds) hh hm2 s.heap.objs.size (Nat.ne_of_gt hlt) (Nat.ne_of_gt hlt) _ 0 hS (λh' tk acc c' kp new it=>?_) hn) (λfin s' z=>z) λe s' z=>z
 dsimp only
 refine wpAny_bind (wpAny_load new ?_)
 exact wpAny_pure (hQ h' tk acc (λb o e=>kp b o (Nat.ne_of_lt (Heap.lt_size e)) (Heap.get?_push_of_some _ e)) it)
theorem wP{ZV:Program}{w:World}{A:Around}{E:Value→Shared→Prop}{s:Shared}{d:Addr}{kvs:List (Str×Value)}{ep:Nat}{Q:Value→Shared→Prop}(hh:A.handled=none)(hds:(d == sysModules)=false)(hm:s.heap.DictAt (PySem.strKind ZV w) d kvs ep)(h64:kvs.length < 64)
  (hQ:∀(h':Heap)tk(a:Addr)(vs:List Value)(e:Nat)(ss:List Str),(∀b o,s.heap.get? b=some o→h'.get? b=some o)→s.heap.get? a=none→h'.get? a=some (seqObj "list" vs.toArray e)→StrsAre vs ss→ss.Perm (kvs.map (·.1))→sortedS ss=true→Q (.ref a) {s with heap:=h',toks:=tk}) :
  wpAny (model ZV w) A (call (.builtin "sorted") [.ref d]) Q E s:=by
 refine Calls.call_function_entry kind_sorted plain_sorted entry_sorted (args_sorted1 _) ?_
 unfold Builtin.«sorted»
 refine wpAny_bind (m:=checkCount "sorted" 1 1 _) (wpAny_pure ?_)
 refine wpAny_bind (k8 hh hds hm (by rw[sizeLine_eq];(apply nE;assumption;rfl)) λh' tk acc kp it=>?_)
 obtain⟨i1,i2⟩:=it
 have hS:∀{vs:List Value}{ks:List (Str×Value)},vs.length=ks.length→(∀j v,vs[j]?=some v→∃k x,ks[j]?=some (k,x)∧(PySem.strKind ZV w).is k v=true)→StrsAre vs (ks.map (·.1)):=λ{vs ks}hl hv=>by
  induction vs generalizing ks with
  |nil=>cases ks with|nil=>exact .nil|cons a b=>simp at hl
  |cons v vs ih=>
   cases ks with
   |nil=>simp at hl
   |cons p ks=>
    obtain⟨k,x,h1,h2⟩:=hv 0 v rfl
    have h1:some p=some (k,x):=h1
    cases h1
    obtain⟨t,rfl⟩:=Value.isStrOf_shape h2
    exact .cons _ _ (ih (by simpa using hl) λj v hj=>by simpa using hv (j+1) v (by simpa using hj))
 have hSa:StrsAre acc.toList (kvs.map (·.1)):=hS (by simp[i1]) λj v hj=>i2 j v (by simpa using hj)
 refine wpAny_bind (wpAny_newList ?_)
 have hoL:(h'.push (seqObj "list" acc.toList.toArray 0)).get? h'.objs.size=some (seqObj "list" acc.toList.toArray 0):=Heap.get?_push_size _ rfl
 show wpAny _ _ _ _ _ {s with heap:=h'.push (seqObj "list" acc.toList.toArray 0),toks:=tk}
 refine wpAny_bind (wpAny_holding (wpAny_call_entry slot_list_sort ⟨_,hoL,rfl⟩ entry_list_sort (list_sort_treeK strKind_oneLt hoL hSa.keysOf (λv₁ v₂ rest e=>keyKind_strs (by rw[←e];exact hSa)) (by simp[i1];exact h64) λst' a1 a2=>⟨_,rfl,?_⟩) (args_list_sort _)))
 obtain⟨ss,b1,b2,b3⟩:=sorted_out_str hSa a1 a2
 obtain⟨e,he⟩:=sortedHeap_at (out:=(arrOf st').map (·.2)) hoL
 refine wpAny_pure ⟨_,rfl,hQ _ tk h'.objs.size ((arrOf st').map (·.2)).toList e ss (λb o ho=>?_) ?_ (by rw[Array.toArray_toList];exact he) b1 b2 b3⟩
 ·have hb:=kp b o ho
  have hlt:=Heap.lt_size hb
  rw[sortedHeap_old (Nat.ne_of_lt hlt) (by rw[Heap.size_push];exact Nat.lt_succ_of_lt hlt)]
  exact Heap.get?_push_of_some _ hb
 ·cases z:s.heap.get? h'.objs.size with
  |none=>rfl
  |some o=>exact absurd (Heap.lt_size (kp _ _ z)) (Nat.lt_irrefl _)
theorem jh{ZV:Program}{w:World}{C:Addr}{hb:Heap}{n:Nat}{ks out:List Str}{ts:List T}(hn:ks.length < 64)(hu:∀ss:List Str,ss.Perm ks→sortedS ss=true→ss=out):CallJ ZV w C hb n (.builtin "sorted") [.dict ks ts] (.ol (out.map .str)):=λZU pv A E S g m σ s vs Q rm ok r q k=>by
 obtain⟨v,rfl,x⟩:=jN q
 cases x using R.dictE with
 |@dict a o kvs ho hd hsm ra=>
  have hdo:s.heap.DictOf (PySem.strKind ZV w) a kvs:=Heap.dictOf_iff.mpr ⟨o,r.st.o _ _ ho,hd⟩
  obtain⟨ep,hda⟩:=hdo.dictAt
  refine wP rm.hh hsm hda (by simpa using hn) λh' tk b us e ss kp fr hb' hS hp hs=>?_
  have:=hu ss hp hs
  subst this
  have conv:∀{us:List Value}{ss:List Str},StrsAre us ss→RA ZV w C S us (ss.map .str):=λ{us ss}h=>by
   induction h with
   |nil=>exact .nil
   |cons x t _ ih=>exact .cons (.str _ _) ih
  obtain⟨e',r'⟩:=r.addl (c:=e) kp fr hb' (conv hS)
  exact k S h' tk _ e' r'
end
section
set_option genCtorIdx false
set_option backward.match.sparseCases true
noncomputable abbrev Kd:=Str→Option NameKind
noncomputable def aO(e:Expr):Bool:=e.ctorIdx == 22
noncomputable def gO(e:Expr):Bool:=e.ctorIdx == 26
noncomputable def dC:Expr→Bool
 |.Call _ [] _ _=>true
 |_=>false
noncomputable def dT(e:Expr):Bool:=e.ctorIdx == 8||(e.ctorIdx == 9||e.ctorIdx == 10)
noncomputable def fL(e:Expr):Bool:=e.ctorIdx == 7
noncomputable def tN(e:Expr):Bool:=e.ctorIdx == 25
inductive VE:Expr→Type
 |noneC (k p):VE (.Constant .none k p)
 |boolC (b k p):VE (.Constant (.bool b) k p)
 |intC (i k p):VE (.Constant (.int i) k p)
 |strC (x k p):VE (.Constant (.str x) k p)
 |name (x p):VE (.Name x p)
 |list (es p):VE (.List es p)
 |tup (es b p):VE (.Tuple es b p)
 |dict (ks vs p):VE (.Dict ks vs p)
 |bin (l op r p):VE (.BinOp l op r p)
 |neg (e p):VE (.UnaryOp .USub e p)
 |not (e p):VE (.UnaryOp .Not e p)
 |bool (op es p):VE (.BoolOp op es p)
 |ifx (t a b p):VE (.IfExp t a b p)
 |cmp (l op r p) (h:fL r=false):VE (.Compare l [op] [r] p)
 |joined (a b es p):VE (.JoinedStr (a ::b ::es) p)
 |attr (e nm p) (h:dC e=false):VE (.Attribute e nm p)
 |slc (x q lo hi q2 p):VE (.Subscript (.Name x q) (.Slice lo hi none q2) p)
 |sub (v i p) (h:gO i=false):VE (.Subscript v i p)
 |comp (elt x px iter ifs scope p):VE (.ListComp elt [⟨.Name x px,iter,ifs,0⟩] scope p)
 |call (f q args p):VE (.Call (.Name f q) args [] p)
 |meth (o nm ap args p) (h:dC o=false) (hp:ap.endLine=p.line):VE (.Call (.Attribute o nm ap) args [] p)
noncomputable def cJ{α:Type}(b:Bool)(f:b=false→α):Option α:=@Bool.rec (λc=>(c=false→α)→Option α) (λf=>some (f rfl)) (λ_=>none) b f
noncomputable def pz{α:Type}(a b:Nat)(f:a=b→α):Option α:=if h:a=b then some (f h)else none
noncomputable def eE{α:Type}(a b:Str)(f:a=b→α):Option α:=if h:a=b then some (f h)else none
noncomputable def jI:(e:Expr)→Option (VE e)
 |.Constant .none k p=>some (.noneC k p)
 |.Constant (.bool b) k p=>some (.boolC b k p)
 |.Constant (.int b) k p=>some (.intC b k p)
 |.Constant (.str b) k p=>some (.strC b k p)
 |.Name x p=>some (.name x p)
 |.List es p=>some (.list es p)
 |.Tuple es b p=>some (.tup es b p)
 |.Dict ks vs p=>some (.dict ks vs p)
 |.BinOp l op r p=>some (.bin l op r p)
 |.UnaryOp .USub e p=>some (.neg e p)
 |.UnaryOp .Not e p=>some (.not e p)
 |.BoolOp op es p=>some (.bool op es p)
 |.IfExp t a b p=>some (.ifx t a b p)
 |.Compare l [op] [r] p=>cJ _ λh=>.cmp l op r p h
 |.JoinedStr (a ::b ::es) p=>some (.joined a b es p)
 |.Attribute e nm p=>cJ _ λh=>.attr e nm p h
 |.Subscript (.Name x q) (.Slice lo hi none q2) p=>some (.slc x q lo hi q2 p)
 |.Subscript v i p=>cJ _ λh=>.sub v i p h
 |.ListComp elt [⟨.Name x px,iter,ifs,0⟩] scope p=>some (.comp elt x px iter ifs scope p)
 |.Call (.Name f q) args [] p=>some (.call f q args p)
 |.Call (.Attribute o nm ap) args [] p=>(cJ _ λh=>pz _ _ λhp=>.meth o nm ap args p h hp).bind id
 |_=>none
inductive VN:Expr→Type
 |name (x p):VN (.Name x p)
noncomputable def viewN:(e:Expr)→Option (VN e)
 |.Name x p=>some (.name x p)
 |_=>none
inductive VK:Option Expr→Type
 |mk (x k p):VK (some (.Constant (.str x) k p))
noncomputable def Ad:(e:Option Expr)→Option (VK e)
 |some (.Constant (.str x) k p)=>some (.mk x k p)
 |_=>none
inductive VJ:Expr→Type
 |fmt (e p):VJ (.FormattedValue e (-1) none p)
 |str (t k p):VJ (.Constant (.str t) k p)
noncomputable def zN:(e:Expr)→Option (VJ e)
 |.FormattedValue e (-1) none p=>some (.fmt e p)
 |.Constant (.str t) k p=>some (.str t k p)
 |_=>none
inductive VI:Expr→Type
 |rng (f:Str) (q es p) (h:f="range"):VI (.Call (.Name f q) es [] p)
 |rev (f:Str) (q es p) (h:f="reversed"):VI (.Call (.Name f q) es [] p)
noncomputable def qo:(e:Expr)→Option (VI e)
 |.Call (.Name f q) es [] p=>match eE f "range" λh=>VI.rng f q es p h with
  |some v=>some v
  |none=>eE f "reversed" λh=>.rev f q es p h
 |_=>none
inductive VA:Str→List Expr→Type
 |isi (f:Str) (a y py) (hf:f="isinstance") (ha:aO a=false):VA f [a,.Name y py]
 |len1 (f:Str) (x px) (hf:f="len"):VA f [.Name x px]
 |lrng (f g:Str) (q es p) (hf:f="list") (hg:g="range"):VA f [.Call (.Name g q) es [] p]
noncomputable def viewA:(f:Str)→(args:List Expr)→Option (VA f args)
 |f,[.Name x px]=>eE f "len" λhf=>.len1 f x px hf
 |f,[.Call (.Name g q) es [] p]=>(eE f "list" λhf=>eE g "range" λhg=>.lrng f g q es p hf hg).bind id
 |f,[a,.Name y py]=>(eE f "isinstance" λhf=>cJ _ λha=>.isi f a y py hf ha).bind id
 |_,_=>none
inductive VL:List Expr→Type
 |mk (x px e) (h:aO e=false):VL [.Name x px,e]
noncomputable def yX:(args:List Expr)→Option (VL args)
 |[.Name x px,e]=>cJ _ λh=>.mk x px e h
 |_=>none
inductive VM:List Expr→Type
 |one (a) (h:aO a=false):VM [a]
 |two (a b) (h:aO a=false) (h2:aO b=false):VM [a,b]
noncomputable def hJ:(args:List Expr)→Option (VM args)
 |[a]=>cJ _ λh=>.one a h
 |[a,b]=>(cJ _ λh=>cJ _ λh2=>.two a b h h2).bind id
 |_=>none
inductive VP:List Expr→Type
 |mk (k p):VP [.Constant (.int 0) k p]
noncomputable def zC:(args:List Expr)→Option (VP args)
 |[.Constant (.int 0) k p]=>some (.mk k p)
 |_=>none
inductive VX:Stmt→Type
 |ret (e p):VX (.Return (some e) p)
 |asgComp (x px elt y py iter ifs scope pc ps):VX (.Assign [.Name x px] (.ListComp elt [⟨.Name y py,iter,ifs,0⟩] scope pc) ps)
 |asg (x px v p) (h:dT v=false):VX (.Assign [.Name x px] v p)
 |share (x px) (nm:Str) (q k p2 p) (hn:nm="shared"):VX (.Assign [.Attribute (.Name x px) nm q] (.Constant (.bool true) k p2) p)
 |attrs (x px) (nm:Str) (q v p) (hn:nm="attrs") (h:dT v=false):VX (.Assign [.Attribute (.Name x px) nm q] v p)
 |item (x px i q v p) (h:dT v=false):VX (.Assign [.Subscript (.Name x px) i q] v p)
 |unpack (es b q v p) (h:dT v=false) (h2:tN v=false):VX (.Assign [.Tuple es b q] v p)
 |aug (x px op e p):VX (.AugAssign (.Name x px) op e p)
 |ite (t b o p):VX (.If t b o p)
 |«for» (x px it body p):VX (.For (.Name x px) it body [] p)
 |«while» (t body p):VX (.While t body [] p)
 |expr (f q args p p2):VX (.Expr (.Call (.Name f q) args [] p) p2)
 |mutS (x px nm ap args p p2) (hp:ap.endLine=p.line):VX (.Expr (.Call (.Attribute (.Name x px) nm ap) args [] p) p2)
 |setapp (x p1) (s1:Str) (ap1 ke p2 p3) (s2:Str) (ap2 y py p4 p5) (h1:s1="setdefault") (h2:s2="append") (h3:ap1.endLine=p3.line) (h4:ap2.endLine=p4.line) (hk:aO ke=false) :
   VX (.Expr (.Call (.Attribute (.Call (.Attribute (.Name x p1) s1 ap1) [ke,.List [] p2] [] p3) s2 ap2) [.Name y py] [] p4) p5)
 |pass (p):VX (.Pass p)
 |brk (p):VX (.Break p)
 |cnt (p):VX (.Continue p)
noncomputable def zy:(s:Stmt)→Option (VX s)
 |.Return (some e) p=>some (.ret e p)
 |.Assign [.Name x px] (.ListComp elt [⟨.Name y py,iter,ifs,0⟩] scope pc) ps=>some (.asgComp x px elt y py iter ifs scope pc ps)
 |.Assign [.Name x px] v p=>cJ _ λh=>.asg x px v p h
 |.Assign [.Attribute (.Name x px) nm q] (.Constant (.bool true) k p2) p=>eE nm "shared" λhn=>.share x px nm q k p2 p hn
 |.Assign [.Attribute (.Name x px) nm q] v p=>(eE nm "attrs" λhn=>cJ _ λh=>.attrs x px nm q v p hn h).bind id
 |.Assign [.Subscript (.Name x px) i q] v p=>cJ _ λh=>.item x px i q v p h
 |.Assign [.Tuple es b q] v p=>(cJ _ λh=>cJ _ λh2=>.unpack es b q v p h h2).bind id
 |.AugAssign (.Name x px) op e p=>some (.aug x px op e p)
 |.If t b o p=>some (.ite t b o p)
 |.For (.Name x px) it body [] p=>some (.for x px it body p)
 |.While t body [] p=>some (.while t body p)
 |.Expr (.Call (.Name f q) args [] p) p2=>some (.expr f q args p p2)
 |.Expr (.Call (.Attribute (.Call (.Attribute (.Name x p1) s1 ap1) [ke,.List [] p2] [] p3) s2 ap2) [.Name y py] [] p4) p5=>
   ((((eE s1 "setdefault" λh1=>eE s2 "append" λh2=>pz _ _ λh3=>pz _ _ λh4=>cJ _ λhk=>.setapp x p1 s1 ap1 ke p2 p3 s2 ap2 y py p4 p5 h1 h2 h3 h4 hk).bind id).bind id).bind id).bind id
 |.Expr (.Call (.Attribute (.Name x px) nm ap) args [] p) p2=>pz _ _ λhp=>.mutS x px nm ap args p p2 hp
 |.Pass p=>some (.pass p)
 |.Break p=>some (.brk p)
 |.Continue p=>some (.cnt p)
 |_=>none
end
section
noncomputable def bd{α β:Type}(x:Option (α×Loc))(f:α→Loc→Option β):Option β:=match x with
 |some p=>f p.1 p.2
 |none=>none
noncomputable def gd{β:Type}(c:Bool)(x:Option β):Option β:=match c with
 |true=>x
 |false=>none
noncomputable def T.int?:T→Option Int
 |.int i=>some i
 |_=>Option.none
noncomputable def T.str?:T→Option Str
 |.str i=>some i
 |_=>Option.none
noncomputable def T.bool?:T→Option Bool
 |.bool i=>some i
 |_=>Option.none
noncomputable def T.list?:T→Option (List T)
 |.list i=>some i
 |_=>Option.none
noncomputable def T.tup?:T→Option (List T)
 |.tup i=>some i
 |_=>Option.none
noncomputable def jX:List T→Option (List Str)
 |[]=>some []
 |t ::ts=>t.str?.bind λx=>(jX ts).map (x ::·)
noncomputable def j2:List T→Option (List Int)
 |[]=>some []
 |t ::ts=>t.int?.bind λx=>(j2 ts).map (x ::·)
noncomputable def V.ol?:V→Option (List T)
 |.ol ts=>some ts
 |_=>none
noncomputable def V.still?:V→Option T
 |.f t=>some t
 |_=>none
structure Ev where
 V:Kd→Expr→Loc→Option (V×Loc)
 B:Kd→Expr→Loc→Option (Bool×Loc)
 X:Kd→Stmt→Loc→Option O
structure Orc where
 Φ:Str→List T→Option V
 Ψ:Str→Option (List T→List T→Option (V×List T))
 Θ:Bool→List T→List T→Option (V×List T)
 st:Str→Bool
noncomputable def aF(kd:Kd)(x:Str):Bool:=(kd x == some .local||kd x == some .cell||(kd x == some .free && !(x == ("__classdict__":Str)))) && !(x == ("__debug__":Str))
noncomputable def isGlob(kd:Kd)(x:Str):Bool:=kd x == some .globalImplicit && !(x == ("__debug__":Str))
noncomputable def bG(Z:Orc)(kd:Kd)(x:Str):Bool:=Z.st x && (kd x == some .local||kd x == some .cell)
noncomputable def uA:V→Option Bool
 |.f (.clo b)=>some b
 |_=>none
noncomputable def ag(n:Nat):Bool:=decide (n≤16777216)
noncomputable def ownL(σ:Loc)(x:Str):Option (List T):=(σ.lookup x).bind V.ol?
noncomputable def lent?(σ:Loc)(x:Str):Option Nat:=match σ.lookup x with
 |some (.f (.opq n _))=>some n
 |_=>none
section
variable(E:Ev)(kd:Kd)
noncomputable def evT(e:Expr)(σ:Loc):Option (T×Loc):=bd (E.V kd e σ) λa σ'=>some (a.frz,σ')
noncomputable def iO(e:Expr)(σ:Loc):Option (Int×Loc):=bd (evT E kd e σ) λt σ'=>t.int?.map λi=>(i,σ')
noncomputable def fA(e:Expr)(σ:Loc):Option (Str×Loc):=bd (evT E kd e σ) λt σ'=>t.str?.map λi=>(i,σ')
noncomputable def iS(e:Expr)(σ:Loc):Option (Bool×Loc):=bd (evT E kd e σ) λt σ'=>t.bool?.map λi=>(i,σ')
noncomputable def f4:List Expr→Loc→Option (List T×Loc)
 |[],σ=>some ([],σ)
 |e ::es,σ=>gd (!aO e) (bd (evT E kd e σ) λt ZZ=>bd (f4 es ZZ) λts ZY=>some (t ::ts,ZY))
noncomputable def jO:BoolOp→Bool→Bool
 |.And,b=>!b
 |.Or,b=>b
noncomputable def pF(op:BoolOp):List Expr→Loc→Option (Bool×Loc)
 |[],σ=>some (!jO op true,σ)
 |e ::es,σ=>bd (E.B kd e σ) λb ZZ=>bif jO op b then some (b,ZZ)else pF op es ZZ
noncomputable def wT(op:BoolOp):List Expr→Loc→Option (Bool×Loc)
 |[],σ=>none
 |e ::es,σ=>bd (iS E kd e σ) λb ZZ=>match es with
  |[]=>some (b,ZZ)
  |_ ::_=>bif jO op b then some (b,ZZ)else wT op es ZZ
noncomputable def kL:Option Expr→Loc→Option (Option Int×Loc)
 |none,σ=>some (none,σ)
 |some e,σ=>bd (iO E kd e σ) λi ZZ=>some (some i,ZZ)
noncomputable def me:List (Option Expr)→List Expr→Loc→Option ((List Str×List T)×Loc)
 |[],[],σ=>some (([],[]),σ)
 |k ::ks,v ::vs,σ=>(Ad k).bind λk=>match k with
  |.mk x _ _=>bd (evT E kd v σ) λt ZZ=>bd (me ks vs ZZ) λp ZY=>some ((x ::p.1,t ::p.2),ZY)
 |_,_,_=>none
noncomputable def wY{e:Expr}(v:VJ e)(σ:Loc):Option (Str×Loc):=match v with
 |.fmt e _=>bd (evT E kd e σ) λt ZZ=>match t with
  |.int i=>gd (decide (i.natAbs.log2 < 1920)) (some (toString i,ZZ))
  |.str t=>gd (ag t.length) (some (t,ZZ))
  |_=>none
 |.str t _ _=>some (t,σ)
noncomputable def xj:List Expr→Loc→Str→Option (Str×Loc)
 |[],σ,acc=>some (acc,σ)
 |e ::es,σ,acc=>(zN e).bind λv=>bd (wY E kd v σ) λt ZZ=>gd (ag (acc ++ t).length) (xj es ZZ (acc ++ t))
end
noncomputable def xb(a b c:Int):Option (List T):=gd (Builtin.Range.small a b c && decide (c≠0) && decide (c.natAbs < 1073741824)) (some (ey a b c))
noncomputable def JL:T→T→Option V
 |.int a,b=>b.int?.map λb=>.f (.int (a+b))
 |.str a,b=>b.str?.bind λb=>gd (ag (a.length+b.length)) (some (.f (.str (a ++ b))))
 |.list a,b=>b.list?.bind λb=>gd (ag (a.length+b.length)) (some (.ol (a ++ b)))
 |_,_=>none
noncomputable def Kb:T→Int→Option V
 |.int a,b=>gd (decide (Builtin.Int.intBits a≤64)||decide (Builtin.Int.intBits b≤64)) (some (.f (.int (a * b))))
 |.str a,b=>gd (decide (-1000≤b) && decide (b≤1000) && decide (a.length≤1000)) (some (.f (.str (Txt.mul a b))))
 |.list a,b=>gd (decide (-1000000≤b) && decide (b≤1000000) && ag (a.length * b.toNat)) (some (.ol (List.replicate b.toNat a).flatten))
 |_,_=>none
noncomputable def Dc(op:Operator)(a b:Int):Option V:=match op with
 |.Sub=>some (.f (.int (a - b)))
 |.FloorDiv=>gd (decide (b≠0) && decide (b.natAbs.log2 < 9000)) (some (.f (.int (a.fdiv b))))
 |.Mod=>gd (decide (b≠0)) (some (.f (.int (a.fmod b))))
 |.Pow=>gd (decide (0≤b) && decide ((Builtin.Int.intBits a:Int) * b≤2 ^ 27)) (some (.f (.int (a ^ b.toNat))))
 |_=>none
noncomputable def ez(op:Operator)(a b:T):Option V:=match op with
 |.Add=>JL a b
 |.Mult=>b.int?.bind λb=>Kb a b
 |op=>a.int?.bind λa=>b.int?.bind λb=>Dc op a b
noncomputable def nT(a b:T):Option Bool:=a.py.bind λda=>b.py.bind λdb=>gd (SeqAt.shaped da && SeqAt.shaped db) (some (PyData.eqv da db))
noncomputable def jo(a:T)(ts:List T):Option Bool:=a.py.bind λda=>(T.pys ts).bind λds=>gd (SeqAt.shaped da && PyData.canLayAll0 ds) (some (ds.any λy=>PyData.eqv y da))
noncomputable def Iz(a b:T):Option Bool:=match b with
 |.list ts=>jo a ts
 |.tup ts=>jo a ts
 |.dict ks _=>a.str?.map λx=>ks.contains x
 |_=>none
noncomputable def Ay(a b:T):Option Bool:=match b with
 |.list ts=>(jo a ts).map (!·)
 |.tup ts=>(jo a ts).map (!·)
 |_=>none
noncomputable def pY(b:T)(r:Bool):Option Bool:=match b with
 |.none=>some r
 |_=>none
noncomputable def Jk(op:CmpOp)(a b:Int):Option Bool:=match op with
 |.Lt=>some (decide (a < b))
 |.Gt=>some (decide (b < a))
 |.LtE=>some (decide (a≤b))
 |.GtE=>some (decide (b≤a))
 |_=>none
noncomputable def aT(op:CmpOp)(a b:T):Option Bool:=match op with
 |.Eq=>nT a b
 |.NotEq=>(nT a b).map (!·)
 |.Is=>pY b a.isNone
 |.IsNot=>pY b (!a.isNone)
 |.In=>Iz a b
 |.NotIn=>Ay a b
 |op=>a.int?.bind λa=>b.int?.bind λb=>Jk op a b
noncomputable def BW(nm:Str)(k i a:T):Option T:=if nm="kind" then some k else if nm="items" then some i else if nm="attrs" then some a else none
noncomputable def mM(nm:Str):T→Option T
 |.vec k i a=>BW nm k i a
 |_=>none
noncomputable def Aq(k:Int):Bool:=decide (-(2 ^ 62)≤k) && decide (k < 2 ^ 62)
noncomputable def aw:T→T→Option T
 |.list ts,b=>b.int?.bind λk=>gd (Aq k) (wz ts k)
 |.tup ts,b=>b.int?.bind λk=>gd (decide (0≤k) && decide (k < 4096)) ts[k.toNat]?
 |.str x,b=>b.int?.bind λk=>gd (Aq k) (((seqIndex? k x.length).bind (x.cps[·]?)).map λc=>.str ⟨#[c]⟩)
 |.dict ks ts,b=>b.str?.bind λx=>(ks.findIdx? (·=x)).bind (ts[·]?)
 |_,_=>none
section
variable(E:Ev)(kd:Kd)
noncomputable def ifsGo(ifs:List Expr)(σ:Loc):Option (Bool×Loc):=match ifs with
 |[]=>some (true,σ)
 |[c]=>E.B kd c σ
 |_=>none
noncomputable def compGo(x:Str)(ifs:List Expr)(elt:Expr):List T→Loc→Option (List T×Loc)
 |[],σ=>some ([],σ)
 |t ::ts,σ=>bd (ifsGo E kd ifs (σ.set x (.f t))) λb ZZ=>match b with
  |true=>bd (evT E kd elt ZZ) λu ZY=>bd (compGo x ifs elt ts ZY) λus ZX=>some (u ::us,ZX)
  |false=>compGo x ifs elt ts ZZ
end
noncomputable def aG(kd:Kd)(scope:Scope)(x:Str):Bool:=
 scope.kind == .function && scope.names.all (λy=>y.1.cps.size != 41) && scope.names.all (λy=>y.2 != .cell && (y.2 != .local||scope.names.lookup y.1 == some .local) && (y.2 != .free||(kd y.1 == some .cell && scope.names.lookup y.1 == some .free))) && scope.names.lookup x == some .local
noncomputable def still?(σ:Loc)(x:Str):Bool:=match σ.lookup x with
 |none=>true
 |some (.f _)=>true
 |_=>false
noncomputable def ay(σ:Loc)(scope:Scope)(x:Str):Bool:=σ.all λp=>p.1 == x||scope.names.lookup p.1 != some .local
section
variable(E:Ev)(Z:Orc)(kd:Kd)
noncomputable def gT(e:Expr)(σ:Loc):Option (List T×Loc):=gd (!fL e) (bd (evT E kd e σ) λt ZZ=>match t with
 |.list ts=>some (ts,ZZ)
 |.tup ts=>some (ts,ZZ)
 |.dict ks _=>some (ks.map .str,ZZ)
 |_=>none)
noncomputable def jU:List T→Option (List T)
 |[.int b]=>xb 0 b 1
 |[.int a,.int b]=>xb a b 1
 |[.int a,.int b,.int c]=>xb a b c
 |_=>none
noncomputable def yw:List T→Option (List T)
 |[t]=>t.list?
 |_=>none
noncomputable def evIt(e:Expr)(σ:Loc):Option (List T×Loc):=match qo e with
 |none=>gT E kd e σ
 |some v=>match v with
  |.rng f _ es _ _=>gd (isGlob kd f) (bd (f4 E kd es σ) λts ZZ=>(jU ts).map λr=>(r,ZZ))
  |.rev f _ es _ _=>gd (isGlob kd f) (bd (f4 E kd es σ) λts ZZ=>(yw ts).map λr=>(r.reverse,ZZ))
noncomputable def pj(l:Expr)(op:CmpOp)(r:Expr)(σ:Loc):Option (Bool×Loc):=bd (evT E kd l σ) λa ZZ=>match viewN r with
 |some v=>match v with
  |.name x _=>gd (aF kd x) ((ZZ.lookup x).bind λb=>(aT op a b.frz).map λc=>(c,ZZ))
 |none=>bd (evT E kd r ZZ) λb ZY=>(aT op a b).map λc=>(c,ZY)
noncomputable def evComp(elt:Expr)(x:Str)(iter:Expr)(ifs:List Expr)(scope:Scope)(σ:Loc):Option (List T×Loc):=
 gd (aG kd scope x) (bd (evIt E kd iter σ) λts ZZ=>gd (still? ZZ x && ay ZZ scope x && ag ts.length)
  (bd (compGo E (kdC scope kd) x ifs elt ts (ZZ.del x)) λus σe=>gd (ay σe scope x) (some (us,Loc.back ZZ σe x))))
noncomputable def cF(f:Str)(args:List Expr)(σ:Loc):Option (V×Loc):=bd (f4 E kd args σ) λts ZZ=>(Z.Φ f ts).map λa=>(a,ZZ)
noncomputable def vK:List T→Option V
 |[.int a,.int b]=>gd (Builtin.Range.small a b 1 && ag (Builtin.Range.rangeSize a b 1).toNat) (some (.ol (ey a b 1)))
 |_=>none
noncomputable def tT(y:Str):T→Option Bool
 |.vec _ _ _=>if y="Vector" then some true else none
 |.bool _=>if y="list" then some false else none
 |_=>none
noncomputable def jd:{f:Str}→{args:List Expr}→VA f args→Loc→Option (V×Loc)
 |_,_,.isi f a y _ _ _,σ=>gd (isGlob kd y) (bd (evT E kd a σ) λt ZZ=>(tT y t).map λb=>(.f (.bool b),ZZ))
 |_,_,.len1 f x p _,σ=>match lent? σ x with
  |some n=>gd (aF kd x) ((ownL σ (ghost n)).bind λts=>gd (decide (ts.length < 16777216)) (some (.f (.int ts.length),σ)))
  |none=>cF E Z kd f [.Name x p] σ
 |_,_,.lrng f g _ es _ _ _,σ=>gd (isGlob kd g) (bd (f4 E kd es σ) λts ZZ=>(vK ts).map λa=>(a,ZZ))
noncomputable def m9(ψ:List T→List T→Option (V×List T))(args:List Expr)(σ:Loc):Option (V×Loc):=(yX args).bind λv=>match v with
 |.mk x _ e _=>gd (aF kd x && (ownL σ x).isSome) (bd (evT E kd e σ) λt ZZ=>(ownL ZZ x).bind λc=>(ψ [t] c).map λr=>(r.1,ZZ.set x (.ol r.2)))
noncomputable def qB(f:Str)(args:List Expr)(σ:Loc):Option (V×Loc):=gd (!args.isEmpty) (((σ.lookup f).bind uA).bind λb=>bd (f4 E kd args σ) λts ZZ=>(ownL ZZ (ghost 0)).bind λc=>(Z.Θ b ts c).map λr=>(r.1,ZZ.set (ghost 0) (.ol r.2)))
noncomputable def jR(f:Str)(args:List Expr)(σ:Loc):Option (V×Loc):=match isGlob kd f with
 |true=>match Z.Ψ f with
  |some ψ=>m9 E kd ψ args σ
  |none=>match viewA f args with
   |some v=>jd E Z kd v σ
   |none=>cF E Z kd f args σ
 |false=>gd (aF kd f) (qB E Z kd f args σ)
noncomputable def yT(k:Str):T→Option T
 |.dict ks ts=>some (Ba ks ts k)
 |_=>none
noncomputable def iG(sep:Str)(ts:List T):Option T:=(jX ts).bind λxs=>gd (JoinOk sep xs) (some (.str (Txt.join sep xs)))
noncomputable def dM(ts:List T)(k:Str):Option T:=(jX ts).bind λks=>(ks.findIdx? (·=k)).map fun(j:Nat)=>T.int (j:Int)
noncomputable def T.seq?:T→Option (List T)
 |.tup ts=>some ts
 |.list ts=>gd (ag ts.length) (some ts)
 |_=>Option.none
noncomputable def jQ(o:Expr)(nm:Str)(a:Expr)(σ:Loc):Option (T×Loc):=
 if nm="get" then bd (evT E kd o σ) λd ZZ=>bd (fA E kd a ZZ) λk ZY=>(yT k d).map λt=>(t,ZY)
 else if nm="join" then bd (fA E kd o σ) λsep ZZ=>bd (evT E kd a ZZ) λd ZY=>d.list?.bind λts=>(iG sep ts).map λt=>(t,ZY)
 else if nm="index" then bd (evT E kd o σ) λd ZZ=>d.seq?.bind λts=>bd (fA E kd a ZZ) λk ZY=>(dM ts k).map λt=>(t,ZY)
 else none
noncomputable def v9(x:Str)(a:Expr)(σ:Loc):Option (T×Loc):=gd (aF kd x) (bd (fA E kd a σ) λk ZZ=>(ownL ZZ x).bind λts=>gd (ag ts.length) ((dM ts k).map λt=>(t,ZZ)))
noncomputable def Kg(t:Str):List T→Option T
 |[.int i,.str f]=>gd (PadOk i && f.length == 1) (some (.str (Txt.rjustF t i (f.cps.getD 0 0))))
 |_=>none
noncomputable def gx(o:Expr)(nm:Str){args:List Expr}(v:VM args)(σ:Loc):Option (T×Loc):=match v with
 |.one a _=>match viewN o with
  |some v=>match v with
   |.name x p=>match (if nm="index" then ownL σ x else none)with
    |some _=>v9 E kd x a σ
    |none=>jQ E kd (.Name x p) nm a σ
  |none=>jQ E kd o nm a σ
 |.two a b _ _=>if nm="rjust" then bd (fA E kd o σ) λt ZZ=>bd (f4 E kd [a,b] ZZ) λts ZY=>(Kg t ts).map λt=>(t,ZY)else none
noncomputable def vO(x:Str)(p:Pos)(lo hi:Option Expr)(σ:Loc):Option (V×Loc):=bd (evT E kd (.Name x p) σ) λt ZZ=>bd (kL E kd lo ZZ) λa ZY=>bd (kL E kd hi ZY) λb ZX=>match t with
 |.list ts=>gd (ag ts.length) (some (.ol (eC ts a b),ZX))
 |.str t=>gd (ag (smade t a b).length) (some (.f (.str (smade t a b)),ZX))
 |_=>none
noncomputable def qt(x:Str)(n:Nat)(i:Expr)(σ:Loc):Option (T×Loc):=gd (aF kd x) (bd (iO E kd i σ) λk ZZ=>gd (lent? ZZ x == some n && Aq k) ((ownL ZZ (ghost n)).bind λts=>(wz ts k).map λu=>(u,ZZ)))
noncomputable def wD(v i:Expr)(σ:Loc):Option (T×Loc):=bd (evT E kd v σ) λa ZZ=>bd (evT E kd i ZZ) λb ZY=>(aw a b).map λu=>(u,ZY)
noncomputable def uN(v i:Expr)(σ:Loc):Option (T×Loc):=match viewN v with
 |some v=>match v with
  |.name x p=>match lent? σ x with
   |some n=>qt E kd x n i σ
   |none=>wD E kd (.Name x p) i σ
 |none=>wD E kd v i σ
noncomputable def tg(x:Str)(σ:Loc):Option (T×Loc):=gd (aF kd x) ((σ.lookup x).bind λa=>match a with
 |.f t=>some (t,σ)
 |a=>some (a.frz,σ.set x (.f a.frz)))
noncomputable def tV(keys:List (Option Expr))(values:List Expr)(σ:Loc):Option (V×Loc):=match keys,values with
 |[],[]=>some (.od [] [],σ)
 |ks,vs=>gd (decide (ks.length=vs.length) && decide (ks.length≤15) && !ks.isEmpty && ks.all (·.isSome)) (bd (me E kd ks vs σ) λp ZZ=>gd (decide p.1.Nodup) (some (.od p.1 p.2,ZZ)))
noncomputable def fz(x:Option (T×Loc)):Option (V×Loc):=x.map λr=>(.f r.1,r.2)
noncomputable def ci{e:Expr}(v:VE e)(σ:Loc):Option (V×Loc):=match v with
 |.noneC _ _=>some (.f .none,σ)
 |.boolC b _ _=>some (.f (.bool b),σ)
 |.intC i _ _=>some (.f (.int i),σ)
 |.strC x _ _=>some (.f (.str x),σ)
 |.name x _=>fz (tg kd x σ)
 |.list es _=>bd (f4 E kd es σ) λts ZZ=>gd (ag ts.length) (some (.ol ts,ZZ))
 |.tup es _ _=>bd (f4 E kd es σ) λts ZZ=>gd (ag ts.length) (some (.f (.tup ts),ZZ))
 |.dict ks vs _=>tV E kd ks vs σ
 |.bin l op r _=>bd (evT E kd l σ) λa ZZ=>bd (evT E kd r ZZ) λb ZY=>(ez op a b).map λc=>(c,ZY)
 |.neg e _=>bd (iO E kd e σ) λi ZZ=>some (.f (.int (-i)),ZZ)
 |.not _ _=>none
 |.bool op es _=>bd (wT E kd op es σ) λb ZZ=>some (.f (.bool b),ZZ)
 |.ifx t a b _=>bd (E.B kd t σ) λc ZZ=>fz (evT E kd (if c then a else b) ZZ)
 |.cmp l op r _ _=>bd (pj E kd l op r σ) λb ZZ=>some (.f (.bool b),ZZ)
 |.joined a b es _=>bd (xj E kd (a ::b ::es) σ Str.empty) λout ZZ=>gd (ag out.length) (some (.f (.str out),ZZ))
 |.attr e nm _ _=>bd (evT E kd e σ) λt ZZ=>(mM nm t).map λu=>(.f u,ZZ)
 |.slc x q lo hi _ _=>vO E kd x q lo hi σ
 |.sub v i _ _=>fz (uN E kd v i σ)
 |.comp elt x _ iter ifs scope _=>bd (evComp E kd elt x iter ifs scope σ) λus ZZ=>some (.ol us,ZZ)
 |.call f _ args _=>jR E Z kd f args σ
 |.meth o nm _ args _ _ _=>(hJ args).bind λv=>fz (gx E kd o nm v σ)
noncomputable def tG(e:Expr)(σ:Loc):Option (V×Loc):=(jI e).bind λv=>ci E Z kd v σ
noncomputable def plainB(e:Expr):Bool:=!(e.ctorIdx == 3||(e.ctorIdx == 0||(e.ctorIdx == 15||e.ctorIdx == 5)))
noncomputable def lz(e:Expr)(σ:Loc):Option (Bool×Loc):=match plainB e with
 |true=>iS E kd e σ
 |false=>(jI e).bind λv=>match v with
  |.not e _=>bd (E.B kd e σ) λb ZZ=>some (!b,ZZ)
  |.bool op es _=>pF E kd op es σ
  |.cmp l op r _ _=>pj E kd l op r σ
  |_=>none
noncomputable def exs:List Stmt→Loc→Option O
 |[],σ=>some (.nx σ)
 |s ::ss,σ=>(E.X kd s σ).bind λo=>match o with
  |.nx ZZ=>exs ss ZZ
  |o=>some o
noncomputable def again(n:Nat)(o:O)(f:Loc→Option O):Option O:=match o with
 |.nx σ=>f (σ.take n)
 |.ct σ=>f (σ.take n)
 |.bk σ=>some (.nx (σ.take n))
 |.rt a σ=>some (.rt a σ)
noncomputable def aC(x:Str)(body:List Stmt)(n:Nat):List T→Loc→Option O
 |[],σ=>some (.nx σ)
 |t ::ts,σ=>(exs E kd body (σ.set x (.f t))).bind λo=>again n o (aC x body n ts)
noncomputable def lf(test:Expr)(body:List Stmt)(n:Nat):Nat→Loc→Option O
 |0,σ=>none
 |k+1,σ=>bd (E.B kd test σ) λb ZZ=>match b with
  |false=>some (.nx ZZ)
  |true=>(exs E kd body ZZ).bind λo=>again n o (lf test body n k)
noncomputable def nX:List Expr→Option (List (Str×Pos))
 |[]=>some []
 |e ::es=>(viewN e).bind λv=>match v with
  |.name x p=>(nX es).map ((x,p) ::·)
noncomputable def aV(nm:Str)(ts:List T)(t:T):Option (List T):=
 if nm="append" then gd (ag ts.length) (some (ts ++ [t]))
 else if nm="extend" then t.list?.bind λus=>gd (ag (ts.length+us.length)) (some (ts ++ us))
 else none
noncomputable def gQ(x:Str)(nm:Str)(args:List Expr)(σ:Loc):Option O:=gd (aF kd x) ((ownL σ x).bind λts₀=>match args with
 |[]=>gd (decide (nm="reverse") && ag ts₀.length) (some (.nx (σ.set x (.ol ts₀.reverse))))
 |args=>(hJ args).bind λv=>match v with
  |.one e _=>bd (evT E kd e σ) λt ZZ=>(ownL ZZ x).bind λts=>(aV nm ts t).map λus=>.nx (ZZ.set x (.ol us))
  |.two _ _ _ _=>none)
noncomputable def v8:List T→Option (List T)
 |[]=>none
 |_ ::ts=>gd (decide (ts.length < 16777216)) (some ts)
noncomputable def gN(x:Str)(n:Nat)(nm:Str)(args:List Expr)(σ:Loc):Option O:=gd (aF kd x) (if nm="pop" then(zC args).bind λv=>match v with
  |.mk _ _=>(ownL σ (ghost n)).bind λc=>(v8 c).map λts=>.nx (σ.set (ghost n) (.ol ts))
 else if nm="append" then(hJ args).bind λv=>match v with
  |.one e _=>gd (ownL σ (ghost n)).isSome (bd (evT E kd e σ) λt ZZ=>(ownL ZZ (ghost n)).bind λts=>gd (ag ts.length) (some (.nx (ZZ.set (ghost n) (.ol (ts ++ [t]))))))
  |.two _ _ _ _=>none
 else none)
noncomputable def wJ(x:Str)(n:Nat)(i:Expr)(ZZ:Loc)(t:T):Option O:=bd (iO E kd i ZZ) λk ZY=>(ownL ZY (ghost n)).bind λts=>
 gd (decide (0≤k) && decide (k < 2 ^ 63) && decide (k < ts.length)) (some (.nx (ZY.set (ghost n) (.ol (ts.set k.toNat t)))))
noncomputable def BS:V→Option (List Str×List T)
 |.od ks ts=>some (ks,ts)
 |_=>none
noncomputable def uJ(x:Str)(i v:Expr)(σ:Loc):Option O:=gd (aF kd x) (bd (evT E kd v σ) λt ZZ=>match lent? ZZ x with
 |some n=>wJ E kd x n i ZZ t
 |none=>gd (ZZ.lookup x).isSome (bd (fA E kd i ZZ) λk ZY=>((ZY.lookup x).bind BS).bind λp=>gd (ag p.1.length) (some (.nx (ZY.set x (.od (dI p.1 p.2 k t).1 (dI p.1 p.2 k t).2))))))
noncomputable def tL:V→Option (List Str×List (List T))
 |.odl ks tss=>some (ks,tss)
 |_=>none
noncomputable def gP(x y:Str)(ke:Expr)(σ:Loc):Option O:=bd (fA E kd ke σ) λk ZZ=>((ZZ.lookup x).bind tL).bind λp=>((ZZ.lookup y).bind V.still?).bind λt=>
 gd (ag p.1.length && p.2.all (λts=>ag ts.length)) (some (.nx (ZZ.set x (.odl (a7 p.1 p.2 k t).1 (a7 p.1 p.2 k t).2))))
noncomputable def o0(x y:Str)(ke:Expr)(σ:Loc):Option O:=gd (aF kd x && aF kd y) ((σ.lookup x).bind λa=>match a with
 |.odl _ _=>gP E kd x y ke σ
 |.od [] []=>gP E kd x y ke (σ.set x (.odl [] []))
 |_=>none)
noncomputable def vo(x:Str)(v:Expr)(σ:Loc):Option O:=gd (aF kd x) (bd (evT E kd v σ) λt ZZ=>(ZZ.lookup x).bind λa=>match a with
 |.ov k i _=>some (.nx (ZZ.set x (.ov k i t)))
 |_=>none)
noncomputable def tm(x:Str)(σ:Loc):Option O:=gd (aF kd x) ((σ.lookup x).bind λa=>match a with
 |.f (.vec _ _ _)=>some (.nx σ)
 |_=>none)
noncomputable def pH(es:List Expr)(v:Expr)(σ:Loc):Option O:=(nX es).bind λxs=>bd (evT E kd v σ) λt ZZ=>t.tup?.bind λts=>gd (decide (ts.length=xs.length) && xs.all (λx=>bG Z kd x.1)) (some (.nx (hF xs ts ZZ)))
noncomputable def FQ(op:Operator)(a b:Int):Option Int:=match op with
 |.Add=>some (a+b)
 |.Sub=>some (a - b)
 |_=>none
noncomputable def C2(x:Str)(op:Operator)(e:Expr)(σ:Loc):Option O:=gd (aF kd x) (((σ.lookup x).bind V.still?).bind λt=>t.int?.bind λa=>bd (iO E kd e σ) λb ZZ=>(FQ op a b).map λc=>.nx (ZZ.set x (.f (.int c))))
noncomputable def ew(W:Nat){s:Stmt}(v:VX s)(σ:Loc):Option O:=match v with
 |.ret e _=>bd (E.V kd e σ) λa ZZ=>some (.rt a ZZ)
 |.asgComp x _ elt y _ iter ifs scope _ _=>gd (bG Z kd x) (bd (evComp E kd elt y iter ifs scope σ) λus ZZ=>some (.nx (ZZ.set x (.ol us))))
 |.asg x _ v _ _=>gd (bG Z kd x) (bd (E.V kd v σ) λa ZZ=>some (.nx (ZZ.set x a)))
 |.share x _ _ _ _ _ _ _=>tm kd x σ
 |.attrs x _ _ _ v _ _ _=>vo E kd x v σ
 |.item x _ i _ v _ _=>uJ E kd x i v σ
 |.unpack es _ _ v _ _ _=>pH E Z kd es v σ
 |.aug x _ op e _=>gd (bG Z kd x) (C2 E kd x op e σ)
 |.ite t b o _=>bd (E.B kd t σ) λc ZZ=>exs E kd (if c then b else o) ZZ
 |.for x _ it body _=>gd (bG Z kd x) (bd (evIt E kd it σ) λts ZZ=>aC E kd x body ZZ.length ts ZZ)
 |.while t body _=>lf E kd t body σ.length W σ
 |.expr f _ args _ _=>bd (jR E Z kd f args σ) λ_ ZZ=>some (.nx ZZ)
 |.mutS x _ nm _ args _ _ _=>match lent? σ x with
  |some n=>gN E kd x n nm args σ
  |none=>gQ E kd x nm args σ
 |.setapp x _ _ _ ke _ _ _ _ y _ _ _ _ _ _ _ _=>o0 E kd x y ke σ
 |.pass _=>some (.nx σ)
 |.brk _=>some (.bk σ)
 |.cnt _=>some (.ct σ)
noncomputable def tz(W:Nat)(s:Stmt)(σ:Loc):Option O:=(zy s).bind λv=>ew E Z kd W v σ
end
noncomputable def Ev.next(Z:Orc)(W:Nat)(E:Ev):Ev:=⟨tG E Z,lz E,λkd=>tz E Z kd W⟩
noncomputable def Ev.none:Ev:=⟨λ_ _ _=>Option.none,λ_ _ _=>Option.none,λ_ _ _=>Option.none⟩
noncomputable def Ev.at(Z:Orc)(W:Nat):Nat→Ev
 |0=>.none
 |k+1=>.next Z W (Ev.at Z W k)
end
section
theorem JE{α:Type}{x a:α}{s s':Loc}{M:Loc→α→Prop}(q:some (x,s)=some (a,s'))(h:M s x):M s' a:=by
 injection q with q
 injection q with q1 q2
 subst q1
 subst q2
 exact h
theorem L6{α:Type}{x a:α}{s s':Loc}{M:Loc→α→Prop}(q:(x,s)=(a,s'))(h:M s x):M s' a:=JE (congrArg some q) h
theorem KK{α:Type}{x a:α}{M:α→Prop}(q:some x=some a)(h:M x):M a:=Option.some.inj q ▸ h
local macro_rules
  | `(tactic| cases $x:ident) => `(tactic| (refine KK $x ?_; clear $x))
local macro_rules
  | `(tactic| cases $x:ident) => `(tactic| (refine L6 $x ?_; clear $x))
local macro_rules
  | `(tactic| cases $x:ident) => `(tactic| (refine JE $x ?_; clear $x))
theorem ax{α β:Type}{x:Option (α×Loc)}{f:α→Loc→Option β}{b:β}{P:Prop}(q:bd x f=some b)(k:∀a σ,x=some (a,σ)→f a σ=some b→P):P:=by
 cases x with
 |none=>cases q
 |some p=>exact k p.1 p.2 rfl q
theorem ar{β:Type}{c:Bool}{x:Option β}{b:β}{P:Prop}(q:gd c x=some b)(k:c=true→x=some b→P):P:=by
 cases c with
 |false=>cases q
 |true=>exact k rfl q
theorem al{α β:Type}{x:Option α}{f:α→Option β}{b:β}{P:Prop}(q:x.bind f=some b)(k:∀a,x=some a→f a=some b→P):P:=by
 cases x with
 |none=>cases q
 |some a=>exact k a rfl q
theorem bj{α β:Type}{x:Option α}{f:α→β}{b:β}{P:Prop}(q:x.map f=some b)(k:∀a,x=some a→f a=b→P):P:=by
 cases x with
 |none=>cases q
 |some a=>exact k a rfl (Option.some.inj q)
theorem cy{β:Type}{c:Prop}[Decidable c]{x y:Option β}{b:β}{P:Prop}(q:(if c then x else y)=some b)(k:c→x=some b→P)(k':¬ c→y=some b→P):P:=by
 by_cases h:c
 ·rw[if_pos h]at q;exact k h q
 ·rw[if_neg h]at q;exact k' h q
theorem an{a b:Bool}(h:(a && b)=true):a=true∧b=true:=Bool.and_eq_true_iff.mp h
theorem de{p:Prop}[Decidable p](h:decide p=true):p:=of_decide_eq_true h
theorem nt{b:Bool}(h:(!b)=true):b=false:=by cases b<;>simp_all
theorem bu{t:T}{i:Int}(h:t.int?=some i):t= .int i:=by cases t<;>first|(cases h;rfl)|cases h
theorem jA{t:T}{i:Str}(h:t.str?=some i):t= .str i:=by cases t<;>first|(cases h;rfl)|cases h
theorem Cd{t:T}{i:Bool}(h:t.bool?=some i):t= .bool i:=by cases t<;>first|(cases h;rfl)|cases h
theorem f0{t:T}{i:List T}(h:t.list?=some i):t= .list i:=by cases t<;>first|(cases h;rfl)|cases h
theorem D6{t:T}{i:List T}(h:t.tup?=some i):t= .tup i:=by cases t<;>first|(cases h;rfl)|cases h
theorem oU:∀{ts:List T}{xs:List Str},jX ts=some xs→ts=xs.map .str
 |[],xs,q=>by cases q;rfl
 |t ::ts,xs,q=>al q λx hx q=>bj q λys hy q=>by subst q;rw[jA hx,oU hy];rfl
theorem uW:∀{ts:List T}{xs:List Int},j2 ts=some xs→ts=xs.map .int
 |[],xs,q=>by cases q;rfl
 |t ::ts,xs,q=>al q λx hx q=>bj q λys hy q=>by subst q;rw[bu hx,uW hy];rfl
theorem aI{n:Nat}(h:ag n=true):n≤16777216:=of_decide_eq_true h
theorem a0{e:Expr}(h:aO e=false)(es:List Expr)(ZU:Env):starEach (e ::es) ZU=(false,eval e ZU) ::starEach es ZU:=by
 cases e<;>first|rfl|cases h
theorem hA{es:List Expr}(h:∀e∈es,aO e=false)(ZU:Env)(pos:Pos):(backTo pos (starEach es ZU)).any (·.1)=false:=by
 induction es with
 |nil=>rfl
 |cons e es ih=>
  rw[a0 (h e (.head _))]
  have:=ih λx hx=>h x (.tail _ hx)
  unfold backTo at this ⊢
  rw[List.map_cons,List.any_cons,this]
  rfl
theorem b0{e:Expr}{es:List Expr}(h:∀x∈e ::es,aO x=false):cn (e ::es):=
 ⟨⟨e,es,rfl,λZU=>a0 (h e (.head _)) es ZU⟩,λZU pos=>hA h ZU pos⟩
theorem bP{e:Expr}(h:aO e=false)(ZU:Env)(pos:Pos):backTo pos (starEach [e] ZU)=[(false,eval e ZU)]:=by
 rw[a0 h];rfl
theorem lr{e f:Expr}(h:aO e=false)(h2:aO f=false)(ZU:Env)(pos:Pos):backTo pos (starEach [e,f] ZU)=[(false,eval e ZU),(false,eval f ZU)]:=by
 rw[a0 h,a0 h2];rfl
theorem base_of{o:Expr}{nm:Str}(h:dC o=false)(ZU:Env):attributeBase o nm ZU (eval o ZU)=eval o ZU:=by
 cases o<;>first|rfl|skip
 rename_i f args kw pos
 cases args with
 |nil=>cases h
 |cons a as=>cases f<;>rfl
theorem BA{args:List Expr}(h:∀e∈args,aO e=false)(hl:args.length < 20)(ZU:Env)(pos:Pos):((backTo pos (starEach args ZU)).all (λx=>!x.1) && (backToKw pos (keywordEach [] ZU)).all (λx=>x.1.isSome) && decide (args.length+([]:List Keyword).length+(if([]:List Keyword).isEmpty then 0 else 1) < 30))=true:=by
 have e1:(backTo pos (starEach args ZU)).all (λx=>!x.1)=true:=by
  have:=hA h ZU pos
  rw[List.all_eq_not_any_not]
  simpa using this
 have e2:(backToKw pos (keywordEach [] ZU)).all (λx=>x.1.isSome)=true:=rfl
 rw[e1,e2]
 simp
 (apply gw;assumption;rfl)
theorem cC{o:Expr}{nm:Str}{args:List Expr}{apos pos:Pos}(h:dC o=false)(h2:∀e∈args,aO e=false)(hl:args.length < 20)(hp:apos.endLine=pos.line):MethOk o nm args apos pos:=
 ⟨λZU=>base_of h ZU,λZU=>BA h2 hl ZU pos,by simp[hp]⟩
theorem fZ{a:Expr}(h:aO a=false):∀e∈[a],aO e=false:=λe he=>by rw[List.mem_singleton.mp he];exact h
theorem j7{a b:Expr}(h:aO a=false)(h2:aO b=false):∀e∈[a,b],aO e=false:=λe he=>by
 rcases List.mem_cons.mp he with rfl|he
 ·exact h
 ·rw[List.mem_singleton.mp he];exact h2
theorem d8{e:Expr}(h:dT e=false)(t:Option Expr)(l:Nat)(ZU:Env):swapsWith e t l ZU=pure false:=by
 cases e<;>first|rfl|cases h
theorem swaps_comp{elt:Expr}{gs:List Comprehension}{scope:Scope}{p q:Pos}{x:Str}{l:Nat}{ZU:Env}:swapsWith (.ListComp elt gs scope p) (some (.Name x q)) l ZU=pure true∨swapsWith (.ListComp elt gs scope p) (some (.Name x q)) l ZU=pure false:=by
 have:∃b,swapsWith (.ListComp elt gs scope p) (some (.Name x q)) l ZU=pure b:=⟨_,rfl⟩
 obtain⟨b,hb⟩:=this
 cases b
 ·exact .inr hb
 ·exact .inl hb
theorem uh{e:Expr}(h:fL e=false)(ZU:Env)(x:Value):foldedSetIterable e ZU x=pure x:=by
 cases e<;>first|rfl|cases h
theorem zG{op:CmpOp}{r:Expr}(h:fL r=false):behindInMarks op r=false:=by
 cases r<;>first|rfl|cases h
theorem vm{e:Expr}(h:plainB e=true)(ZU:Env):isTrue e ZU (eval e ZU)=(do let v ←eval e ZU;standAt e.pos;holding [v] (truthy v)):=by
 cases e<;>first|rfl|cases h
theorem cq{σ:Loc}{x:Str}{ts:List T}(h:ownL σ x=some ts):σ.lookup x=some (.ol ts):=al h λa ha q=>by
 rw[ha];cases a<;>first|(cases q;rfl)|cases q
theorem kK{σ:Loc}{x:Str}{t:T}(h:(σ.lookup x).bind V.still?=some t):σ.lookup x=some (.f t):=al h λa ha q=>by
 rw[ha];cases a<;>first|(cases q;rfl)|cases q
theorem H6{σ:Loc}{x:Str}{p:List Str×List T}(h:(σ.lookup x).bind BS=some p):σ.lookup x=some (.od p.1 p.2):=al h λa ha q=>by
 rw[ha];cases a<;>first|(cases q;rfl)|cases q
theorem Gb{σ:Loc}{x:Str}{p:List Str×List (List T)}(h:(σ.lookup x).bind tL=some p):σ.lookup x=some (.odl p.1 p.2):=al h λa ha q=>by
 rw[ha];cases a<;>first|(cases q;rfl)|cases q
theorem CX{σ:Loc}{x:Str}{b:Bool}(h:(σ.lookup x).bind uA=some b):σ.lookup x=some (.f (.clo b)):=al h λa ha q=>by
 rw[ha]
 cases a with
 |f t=>cases t<;>first|(cases q;rfl)|cases q
 |_=>cases q
theorem hO{σ:Loc}{x:Str}{k:Nat}(h:lent? σ x=some k):∃a,σ.lookup x=some (.f (.opq k a)):=by
 unfold lent? at h
 cases z:σ.lookup x with
 |none=>rw[z]at h;cases h
 |some a=>
  rw[z]at h
  cases a with
  |f t=>cases t<;>first|(cases h;exact⟨_,rfl⟩)|cases h
  |_=>cases h
theorem ue{a b c:Int}{ts:List T}(h:xb a b c=some ts):Builtin.Range.small a b c=true∧c≠0∧c.natAbs < 1073741824∧ts=ey a b c:=ar h λhc q=>by
 cases q
 exact⟨(an (an hc).1).1,de (an (an hc).1).2,de (an hc).2,rfl⟩
theorem pJ:∀{es:List Expr}{xs:List (Str×Pos)},nX es=some xs→es=xs.map λx=>.Name x.1 x.2
 |[],xs,q=>by cases q;rfl
 |e ::es,xs,q=>al q λv hv q=>by
  induction v with
  |name x p=>exact bj q λys hy q=>by subst q;rw[pJ hy];rfl
theorem uY{σ:Loc}{x:Str}(h:still? σ x=true):∀a,σ.lookup x=some a→∃t,a= .f t:=λa ha=>by
 unfold still? at h
 rw[ha]at h
 cases a with
 |f t=>exact⟨t,rfl⟩
 |_=>cases h
theorem pf{σ:Loc}{scope:Scope}{x:Str}(h:ay σ scope x=true):∀y a,σ.lookup y=some a→y≠x→scope.names.lookup y≠some .local:=λy a ha hy=>by
 unfold ay at h
 rw[List.all_eq_true]at h
 have:=h _ (mem_of_lookup ha)
 simp only[Bool.or_eq_true,beq_iff_eq,bne_iff_ne,ne_eq]at this
 exact this.resolve_left hy
theorem um{x:Str}{b:Int}(h1: -1000≤b)(h2:b≤1000)(h3:x.length≤1000):MulOk x b:=by
 refine⟨by rw[decide_eq_false (Int.not_lt.mpr (Int.le_trans (by decide) h1)),decide_eq_false (Int.not_le.mpr (Int.lt_of_le_of_lt h2 (by decide)))];rfl,λh4 _=>?_,λh4 _=>?_⟩
 ·have h5:1≤b:=Int.not_lt.mp h4
  have e:(x.length:Int) * b≤1000 * 1000:=Int.mul_le_mul (Int.ofNat_le.mpr h3) h2 (Int.le_trans (by decide) h5) (by decide)
  have:(x.length:Int)≤(2 ^ 63 - 1) / b:=(Int.le_ediv_iff_mul_le (Int.lt_of_lt_of_le (by decide) h5)).mpr (Int.le_trans e (by decide))
  exact Int.not_lt.mpr this
 ·have e:x.length * b.toNat≤1000 * 1000:=Nat.mul_le_mul h3 (Int.toNat_le.mpr h2)
  unfold Builtin.Str.tooLong
  rw[sizeLine_eq]
  simp only[decide_eq_false_iff_not]
  exact Nat.not_lt.mpr (Nat.le_trans e (by decide))
theorem jL{k:Int}(h:Aq k=true): -(2 ^ 62)≤k∧k < 2 ^ 62:=⟨de (an h).1,de (an h).2⟩
noncomputable def GV(mg mb:Str→Option Value)(x:Str)(v:Value):Prop:=mg x=some v∨(mg x=none∧mb x=some v)
structure Nm(mg mb:Str→Option Value)(C:Addr):Prop where
 range:GV mg mb "range" (.type "range")
 reversed:GV mg mb "reversed" (.type "reversed")
 list:GV mg mb "list" (.type "list")
 isi:GV mg mb "isinstance" (.builtin "isinstance")
 len:GV mg mb "len" (.builtin "len")
 vec:GV mg mb "Vector" (.ref C)
noncomputable def LendJ(ZV:Program)(w:World)(C:Addr)(hb:Heap)(n:Nat)(fv:Value)(ts c:List T)(a:V)(c':List T):Prop:=
 ∀(ZU:Env)(pv:List Addr)(A:Around)(E:Value→Shared→Prop)(S g:Sh)(m:Str→Option Value)(σ:Loc)(s:Shared)(vs:List Value)(Q:Value→Shared→Prop)(x:Str)(l:Addr),Rm n A→EnvOk ZU pv→Rel ZV w C hb ZU pv S g m σ none s.heap→σ.lookup x=some (.ol c)→m x=some (.ref l)→RA ZV w C S vs ts→
  (∀S' h' tk v,Ext w S g S' h'→Rel ZV w C hb ZU pv S' g m (σ.set x (.ol c')) (some (v,a)) h'→Q v {s with heap:=h',toks:=tk})→wpAny (model ZV w) A (call fv (.ref l ::vs)) Q E s
noncomputable def CloJ(ZV:Program)(w:World)(C:Addr)(hb:Heap)(n:Nat)(b:Bool)(ts c:List T)(a:V)(c':List T):Prop:=
 ∀(ZU:Env)(pv:List Addr)(A:Around)(E:Value→Shared→Prop)(S g:Sh)(m:Str→Option Value)(σ:Loc)(s:Shared)(vs:List Value)(Q:Value→Shared→Prop)(f:Addr),Rm n A→EnvOk ZU pv→Rel ZV w C hb ZU pv S g m σ none s.heap→σ.lookup (ghost 0)=some (.ol c)→CloAt ZV S f b→RA ZV w C S vs ts→
  (∀S' h' tk v,Ext w S g S' h'→Rel ZV w C hb ZU pv S' g m (σ.set (ghost 0) (.ol c')) (some (v,a)) h'→Q v {s with heap:=h',toks:=tk})→wpAny (model ZV w) A (call (.ref f) vs) Q E s
structure OrcOk(ZV:Program)(w:World)(C:Addr)(hb:Heap)(mg mb:Str→Option Value)(n:Nat)(Z:Orc):Prop where
 phi:∀f ts a,Z.Φ f ts=some a→∃fv,GV mg mb f fv∧bq ZV w hb fv∧CallJ ZV w C hb n fv ts a
 psi:∀f ψ ts c r,Z.Ψ f=some ψ→ψ ts c=some r→∃fv,GV mg mb f fv∧bq ZV w hb fv∧LendJ ZV w C hb n fv ts c r.1 r.2
 the:∀b ts c r,Z.Θ b ts c=some r→CloJ ZV w C hb n b ts c r.1 r.2
noncomputable def SV(ZV:Program)(w:World)(C:Addr)(hb:Heap)(n:Nat)(E:Ev):Prop:=∀(kd:Kd)(e:Expr)(σ:Loc)(a:V)(σ':Loc),E.V kd e σ=some (a,σ')→∀(ZU:Env)(pv:List Addr),(∀x,ZU.kindOf x=kd x)→EnvOk ZU pv→EvV ZV w C hb n ZU pv e σ σ' a
noncomputable def SB(ZV:Program)(w:World)(C:Addr)(hb:Heap)(n:Nat)(E:Ev):Prop:=∀(kd:Kd)(e:Expr)(σ:Loc)(a:Bool)(σ':Loc),E.B kd e σ=some (a,σ')→∀(ZU:Env)(pv:List Addr),(∀x,ZU.kindOf x=kd x)→EnvOk ZU pv→EvB ZV w C hb n ZU pv e σ σ' a
noncomputable def SX(ZV:Program)(w:World)(C:Addr)(hb:Heap)(n:Nat)(Z:Orc)(E:Ev):Prop:=∀(kd:Kd)(s:Stmt)(σ:Loc)(o:O),E.X kd s σ=some o→∀(ZU:Env)(pv:List Addr),(∀x,ZU.kindOf x=kd x)→EnvOk ZU pv→(∀x c,Z.st x=true→ZU.cells.lookup x=some c→c∈pv)→du ZV w C hb n ZU pv s σ o
structure Hy(ZV:Program)(w:World)(C:Addr)(hb:Heap)(n:Nat)(K:Frag)(fI:Addr)(mg mb:Str→Option Value)(Z:Orc)(E:Ev):Prop where
 gl:Gl K C fI mg mb hb
 nm:Nm mg mb C
 z:OrcOk ZV w C hb mg mb n Z
 v:SV ZV w C hb n E
 b:SB ZV w C hb n E
 x:SX ZV w C hb n Z E
section
variable{ZV:Program}{w:World}{C:Addr}{hb:Heap}{ZU:Env}{pv:List Addr}{σ σ' ZZ ZY ZX:Loc}{n:Nat}{K:Frag}{mg mb:Str→Option Value}{fI:Addr}{E:Ev}{kd:Kd}{Z:Orc}{o:O}
theorem cR{x:Str}(ek:∀x,ZU.kindOf x=kd x)(h:aF kd x=true):bg ZU x:=by
 unfold aF at h
 simp only[Bool.and_eq_true,Bool.or_eq_true,beq_iff_eq,Bool.not_eq_true']at h
 refine⟨?_,h.2⟩
 rw[ek]
 rcases h.1 with (h|h)|h
 ·exact .inl h
 ·exact .inr (.inl h)
 ·exact .inr (.inr h)
theorem dF{x:Str}{v:Value}(ek:∀x,ZU.kindOf x=kd x)(h:isGlob kd x=true)(g:GV mg mb x v):GN mg mb ZU x v:=by
 unfold isGlob at h
 simp only[Bool.and_eq_true,beq_iff_eq,Bool.not_eq_true']at h
 exact⟨by rw[ek];exact h.1,h.2,g⟩
theorem sT(h:SV ZV w C hb n E)(ek:∀x,ZU.kindOf x=kd x)(ok:EnvOk ZU pv){e:Expr}{t:T}(q:evT E kd e σ=some (t,σ')):EvT ZV w C hb n ZU pv e σ σ' t:=
 ax q λa ZZ h1 q=>by cases q;exact(h _ _ _ _ _ h1 ZU pv ek ok).t
theorem qW(h:SV ZV w C hb n E)(ek:∀x,ZU.kindOf x=kd x)(ok:EnvOk ZU pv){e:Expr}{i:Int}(q:iO E kd e σ=some (i,σ')):EvT ZV w C hb n ZU pv e σ σ' (.int i):=
 ax q λt ZZ h1 q=>bj q λi' hi q=>by cases q;rw[←bu hi];exact sT h ek ok h1
theorem mZ(h:SV ZV w C hb n E)(ek:∀x,ZU.kindOf x=kd x)(ok:EnvOk ZU pv){e:Expr}{i:Str}(q:fA E kd e σ=some (i,σ')):EvT ZV w C hb n ZU pv e σ σ' (.str i):=
 ax q λt ZZ h1 q=>bj q λi' hi q=>by cases q;rw[←jA hi];exact sT h ek ok h1
theorem sY(h:SV ZV w C hb n E)(ek:∀x,ZU.kindOf x=kd x)(ok:EnvOk ZU pv){e:Expr}{i:Bool}(q:iS E kd e σ=some (i,σ')):EvT ZV w C hb n ZU pv e σ σ' (.bool i):=
 ax q λt ZZ h1 q=>bj q λi' hi q=>by cases q;rw[←Cd hi];exact sT h ek ok h1
theorem Cv(h:SV ZV w C hb n E)(ek:∀x,ZU.kindOf x=kd x)(ok:EnvOk ZU pv){es:List Expr}:∀{σ σ':Loc}{ts:List T},f4 E kd es σ=some (ts,σ')→dK ZV w C hb n ZU pv es σ σ' ts∧(∀e∈es,aO e=false)∧ts.length=es.length:=by
 induction es with
 |nil=>
  intro σ σ' ts q
  cases q;exact⟨kq,λe he=>absurd he List.not_mem_nil,rfl⟩
 |cons e es ih=>
  intro σ σ' ts q
  exact ar q λhs q=>ax q λt ZZ h1 q=>ax q λts' ZY h2 q=>by
   cases q
   obtain⟨r1,r2,r3⟩:=ih h2
   refine⟨ip (sT h ek ok h1) r1 (λZU=>a0 (nt hs) es ZU),λx hx=>?_,congrArg (·+1) r3⟩
   rcases List.mem_cons.mp hx with rfl|hx
   ·exact nt hs
   ·exact r2 x hx
theorem Hg(h:SV ZV w C hb n E)(ek:∀x,ZU.kindOf x=kd x)(ok:EnvOk ZU pv){es:List Expr}{σ σ':Loc}{t:T}{ts:List T}(q:f4 E kd es σ=some (t ::ts,σ')):dK ZV w C hb n ZU pv es σ σ' (t ::ts)∧cn es:=by
 obtain⟨a,b,c⟩:=Cv h ek ok q
 cases es with
 |nil=>cases c
 |cons e es=>exact⟨a,b0 b⟩
theorem Kh(hB:SB ZV w C hb n E)(ek:∀x,ZU.kindOf x=kd x)(ok:EnvOk ZU pv){op:BoolOp}{es:List Expr}:∀{σ σ':Loc}{b:Bool},pF E kd op es σ=some (b,σ')→eF ZV w C hb n ZU pv op es σ σ' b:=by
 induction es with
 |nil=>
  intro σ σ' b q
  cases op<;>cases q
  ·exact mT
  ·exact n7
 |cons e es ih=>
  intro σ σ' b q
  exact ax q λc ZZ h1 q=>by
   have hb:=hB _ _ _ _ _ h1 ZU pv ek ok
   cases op<;>cases c
   ·cases q;exact sA hb
   ·exact rE hb (ih q)
   ·exact ty hb (ih q)
   ·cases q;exact ux hb
noncomputable def lD(ZV:Program)(w:World)(C:Addr)(hb:Heap)(n:Nat)(ZU:Env)(pv:List Addr)(op:BoolOp)(es:List Expr)(σ σ':Loc)(b:Bool):Prop:=
 ∀(A:Around)(E:Value→Shared→Prop)(S g:Sh)(m:Str→Option Value)(s:Shared)(pos:Pos)(Q:Value→Shared→Prop),Rm n A→EnvOk ZU pv→Rel ZV w C hb ZU pv S g m σ none s.heap→
  (∀S' h' tk,Ext w S g S' h'→Rel ZV w C hb ZU pv S' g m σ' none h'→Q (.bool b) {s with heap:=h',toks:=tk})→wpAny (model ZV w) A (boolOp pos op (evalEach es ZU)) Q E s
theorem fh{op:BoolOp}{e f:Expr}{es:List Expr}{b:Bool}(x:EvT ZV w C hb n ZU pv e σ ZZ (.bool b))(hs:(op= .And∧b=false)∨(op= .Or∧b=true)):lD ZV w C hb n ZU pv op (e ::f ::es) σ ZZ b:=λA E S g m s pos Q rm ok r k=>by
 show wpAny _ A (do
  let v ←eval e ZU
  standAt pos
  let t ←holding [v] (truthy v)
  match op,t with
  |.And,false|.Or,true=>pure v
  |_,_=>boolOp pos op (evalEach (f ::es) ZU)) Q E s
 refine wpAny_bind (x A E S g m s _ rm ok r λS1 h1 tk1 v1 e1 r1 q1=>wpAny_bind (wpAny_standAt (wpAny_bind (wpAny_holding ?_))))
 cases q1 using R.boolE
 refine wpAny_truthy_bool ?_
 rcases hs with⟨rfl,rfl⟩|⟨rfl,rfl⟩
 ·exact wpAny_pure (k S1 h1 tk1 e1 r1)
 ·exact wpAny_pure (k S1 h1 tk1 e1 r1)
theorem hY{op:BoolOp}{e f:Expr}{es:List Expr}{b c:Bool}(x:EvT ZV w C hb n ZU pv e σ ZZ (.bool b))(hs:(op= .And∧b=true)∨(op= .Or∧b=false))(y:lD ZV w C hb n ZU pv op (f ::es) ZZ ZY c):lD ZV w C hb n ZU pv op (e ::f ::es) σ ZY c:=λA E S g m s pos Q rm ok r k=>by
 show wpAny _ A (do
  let v ←eval e ZU
  standAt pos
  let t ←holding [v] (truthy v)
  match op,t with
  |.And,false|.Or,true=>pure v
  |_,_=>boolOp pos op (evalEach (f ::es) ZU)) Q E s
 refine wpAny_bind (x A E S g m s _ rm ok r λS1 h1 tk1 v1 e1 r1 q1=>wpAny_bind (wpAny_standAt (wpAny_bind (wpAny_holding ?_))))
 cases q1 using R.boolE
 refine wpAny_truthy_bool ?_
 have z:=y A E S1 g m {s with heap:=h1,toks:=tk1} pos Q rm ok r1 λS2 h2 tk2 e2 r2=>k S2 h2 tk2 (e1.trans e2) r2
 rcases hs with⟨rfl,rfl⟩|⟨rfl,rfl⟩<;>exact z
theorem Co{op:BoolOp}{e:Expr}{b:Bool}(x:EvT ZV w C hb n ZU pv e σ ZZ (.bool b)):lD ZV w C hb n ZU pv op [e] σ ZZ b:=λA E S g m s pos Q rm ok r k=>by
 show wpAny _ A (eval e ZU) _ _ _
 exact x A E S g m s _ rm ok r λS1 h1 tk1 v1 e1 r1 q1=>by cases q1 using R.boolE;exact k S1 h1 tk1 e1 r1
theorem J5(h:SV ZV w C hb n E)(ek:∀x,ZU.kindOf x=kd x)(ok:EnvOk ZU pv){op:BoolOp}:∀{es:List Expr}{σ σ':Loc}{b:Bool},wT E kd op es σ=some (b,σ')→lD ZV w C hb n ZU pv op es σ σ' b
 |[],σ,σ',b,q=>by cases q
 |[e],σ,σ',b,q=>ax q λc ZZ h1 q=>by cases q;exact Co (sY h ek ok h1)
 |e ::f ::es,σ,σ',b,q=>ax q λc ZZ h1 q=>by
  have hb:=sY h ek ok h1
  cases op<;>cases c
  ·cases q;exact fh hb (.inl ⟨rfl,rfl⟩)
  ·exact hY hb (.inl ⟨rfl,rfl⟩) (J5 h ek ok (es:=f ::es) q)
  ·exact hY hb (.inr ⟨rfl,rfl⟩) (J5 h ek ok (es:=f ::es) q)
  ·cases q;exact fh hb (.inr ⟨rfl,rfl⟩)
theorem pV(h:SV ZV w C hb n E)(ek:∀x,ZU.kindOf x=kd x)(ok:EnvOk ZU pv){e:Option Expr}{i:Option Int}(q:kL E kd e σ=some (i,σ')):eR ZV w C hb n ZU pv e σ σ' i:=by
 cases e with
 |none=>cases q;exact qH
 |some e=>dsimp only[kL]at q;exact ax q λc ZZ h1 q=>by cases q;exact qU (qW h ek ok h1)
theorem Ft(h:SV ZV w C hb n E)(ek:∀x,ZU.kindOf x=kd x)(ok:EnvOk ZU pv):∀{keys:List (Option Expr)}{values:List Expr}{σ σ':Loc}{p:List Str×List T},me E kd keys values σ=some (p,σ')→mE ZV w C hb n ZU pv keys values σ σ' p.1 p.2
 |[],[],σ,σ',p,q=>by cases q;exact wF
 |[],_ ::_,σ,σ',p,q=>by cases q
 |_ ::_,[],σ,σ',p,q=>by cases q
 |k ::ks,v ::vs,σ,σ',p,q=>al q λk hk q=>by
  cases k with
  |mk x kk pp=>exact ax q λt ZZ h1 q=>ax q λp2 ZY h2 q=>by cases q;exact t0 (sT h ek ok h1) (Ft h ek ok h2)
theorem Ii(h:SV ZV w C hb n E)(ek:∀x,ZU.kindOf x=kd x)(ok:EnvOk ZU pv){e:Expr}(v:VJ e){t:Str}(q:wY E kd v σ=some (t,σ')):EvT ZV w C hb n ZU pv e σ σ' (.str t):=by
 induction v with
 |fmt e p=>
  dsimp only[wY]at q
  refine ax q λt ZZ h1 q=>?_
  cases t with
  |int i=>exact ar q λhc q=>by cases q;exact oj (sT h ek ok h1) (de hc)
  |str i=>exact ar q λhc q=>by cases q;exact oy (sT h ek ok h1) (aI hc)
  |_=>cases q
 |str t k p=>cases q;exact oN
theorem KP(h:SV ZV w C hb n E)(ek:∀x,ZU.kindOf x=kd x)(ok:EnvOk ZU pv):∀{es:List Expr}{σ σ':Loc}{acc out:Str},xj E kd es σ acc=some (out,σ')→th ZV w C hb n ZU pv es σ σ' acc out
 |[],σ,σ',acc,out,q=>by cases q;exact Bn
 |e ::es,σ,σ',acc,out,q=>al q λv hv q=>ax q λt ZZ h1 q=>ar q λhc q=>xN (Ii h ek ok v h1) (aI hc) (KP h ek ok q) λZU=>by rw[evalEach]
theorem Kt{a b:T}{c:Bool}(h:nT a b=some c):cu ZV w C .Eq a b c∧cu ZV w C .NotEq a b (!c):=al h λda ha h=>al h λdb hb' h=>ar h λhs h=>by
 cases h
 exact⟨BH ha hb' (an hs).1 (an hs).2,CH ha hb' (an hs).1 (an hs).2⟩
theorem Gr{a:T}{ts:List T}{c:Bool}(h:jo a ts=some c):cu ZV w C .In a (.list ts) c∧cu ZV w C .NotIn a (.list ts) (!c)∧cu ZV w C .In a (.tup ts) c∧cu ZV w C .NotIn a (.tup ts) (!c):=al h λda ha h=>al h λds hd h=>ar h λhs h=>by
 cases h
 exact⟨mu ha hd (an hs).1 (an hs).2,iU ha hd (an hs).1 (an hs).2,og ha hd (an hs).1 (an hs).2,jt ha hd (an hs).1 (an hs).2⟩
theorem pC{op:CmpOp}{a b:T}{c:Bool}(h:aT op a b=some c):cu ZV w C op a b c:=by
 cases op with
 |Eq=>exact(Kt h).1
 |NotEq=>have h:(nT a b).map (!·)=some c:=h;exact bj h λc' h2 q=>by subst q;exact(Kt h2).2
 |Is=>cases b<;>first|(cases h;exact Bs)|cases h
 |IsNot=>cases b<;>first|(cases h;exact rQ)|cases h
 |In=>cases b with
  |list ts=>exact(Gr h).1
  |tup ts=>exact(Gr h).2.2.1
  |dict ks ts=>have h:a.str?.map (λx=>ks.contains x)=some c:=h;exact bj h λx hx q=>by rw[jA hx,←q];exact my
  |_=>cases h
 |NotIn=>cases b with
  |list ts=>have h:(jo a ts).map (!·)=some c:=h;exact bj h λc' h2 q=>by subst q;exact(Gr h2).2.1
  |tup ts=>have h:(jo a ts).map (!·)=some c:=h;exact bj h λc' h2 q=>by subst q;exact(Gr h2).2.2.2
  |_=>cases h
 |Lt=>exact al h λa ha h=>al h λb hb h=>by rw[bu ha,bu hb];cases h;exact AF
 |Gt=>exact al h λa ha h=>al h λb hb h=>by rw[bu ha,bu hb];cases h;exact Bq
 |LtE=>exact al h λa ha h=>al h λb hb h=>by rw[bu ha,bu hb];cases h;exact Cu
 |GtE=>exact al h λa ha h=>al h λb hb h=>by rw[bu ha,bu hb];cases h;exact Aj
theorem Dp(h:SV ZV w C hb n E)(ek:∀x,ZU.kindOf x=kd x)(ok:EnvOk ZU pv){l r:Expr}{op:CmpOp}{b:Bool}{pos:Pos}(hm:fL r=false)(q:pj E kd l op r σ=some (b,σ')):
  EvT ZV w C hb n ZU pv (.Compare l [op] [r] pos) σ σ' (.bool b)∧EvB ZV w C hb n ZU pv (.Compare l [op] [r] pos) σ σ' b:=ax q λa ZZ h1 q=>by
 have ha:=sT h ek ok h1
 have key:bd (evT E kd r ZZ) (λb ZY=>(aT op a b).map λc=>(c,ZY))=some (b,σ')→EvT ZV w C hb n ZU pv (.Compare l [op] [r] pos) σ σ' (.bool b)∧EvB ZV w C hb n ZU pv (.Compare l [op] [r] pos) σ σ' b:=λq=>
  ax q λb' ZY h2 q=>bj q λc hc q=>by cases q;exact⟨AW ha (sT h ek ok h2) (pC hc) (zG hm),Br ha (sT h ek ok h2) (pC hc) (zG hm)⟩
 cases hv:viewN r with
 |none=>rw[hv]at q;exact key q
 |some v=>
  rw[hv]at q
  induction v with
  |name x p=>exact ar q λhx q=>al q λb' hb q=>bj q λc hc q=>by cases q;exact⟨yv ha hb (cR ek hx) (pC hc) rfl,w4 ha hb (cR ek hx) (pC hc) rfl⟩
theorem LB{l r:Expr}{op:Operator}{pos:Pos}{a b:T}{c:V}(x:EvT ZV w C hb n ZU pv l σ ZZ a)(y:EvT ZV w C hb n ZU pv r ZZ ZY b)(h:ez op a b=some c):EvV ZV w C hb n ZU pv (.BinOp l op r pos) σ ZY c:=by
 have key:(a.int?.bind λa=>b.int?.bind λb=>Dc op a b)=some c→EvV ZV w C hb n ZU pv (.BinOp l op r pos) σ ZY c:=λh=>al h λa' ha h=>al h λb' hb h=>by
  rw[bu ha]at x;rw[bu hb]at y
  cases op with
  |Sub=>cases h;exact(oi x y).v
  |FloorDiv=>exact ar h λhc h=>by cases h;exact(oa x y (de (an hc).1) (PyProof.noPylong_of_log2 (de (an hc).2))).v
  |Mod=>exact ar h λhc h=>by cases h;exact(oY x y (de hc)).v
  |Pow=>exact ar h λhc h=>by cases h;exact(o8 x y (de (an hc).1) (de (an hc).2)).v
  |_=>cases h
 cases op with
 |Add=>
  cases a with
  |int a=>exact bj h λb' hb h=>by rw[bu hb]at y;subst h;exact(nr x y).v
  |str a=>exact al h λb' hb h=>ar h λhc h=>by rw[jA hb]at y;cases h;exact(nk x y (aI hc)).v
  |list a=>exact al h λb' hb h=>ar h λhc h=>by rw[f0 hb]at y;cases h;exact lm x y (aI hc)
  |_=>cases h
 |Mult=>
  refine al h λb' hb h=>?_
  rw[bu hb]at y
  cases a with
  |int a=>exact ar h λhc h=>by cases h;exact(nW x y ((Bool.or_eq_true_iff.mp hc).elim (λz=>.of_left (de z)) λz=>.of_right (de z))).v
  |str a=>exact ar h λhc h=>by cases h;exact(oZ x y (um (de (an (an hc).1).1) (de (an (an hc).1).2) (de (an hc).2))).v
  |list a=>exact ar h λhc h=>by cases h;exact mi x y (de (an (an hc).1).1) (de (an (an hc).1).2) (aI (an hc).2)
  |_=>cases h
 |_=>exact key h
theorem HY{v i:Expr}{pos:Pos}{a b c:T}(hi:gO i=false)(x:EvT ZV w C hb n ZU pv v σ ZZ a)(y:EvT ZV w C hb n ZU pv i ZZ ZY b)(h:aw a b=some c):EvT ZV w C hb n ZU pv (.Subscript v i pos) σ ZY c:=by
 have hs:oG i:=λo j=>by cases i<;>first|rfl|cases hi
 cases a with
 |list ts=>
  refine al h λk hk h=>ar h λhc h=>?_
  rw[bu hk]at y
  exact ka x y λA E S s va vb Q rm st p q k=>uE hs h (jL hc).1 (jL hc).2 st p q k
 |tup ts=>
  refine al h λk hk h=>ar h λhc h=>?_
  rw[bu hk]at y
  exact ka x y λA E S s va vb Q rm st p q kk=>yg (k:=k.toNat) hs h (yS (de (an hc).2) (by decide)) st p (by rw[Int.toNat_of_nonneg (de (an hc).1)];exact q) kk
 |str t=>
  refine al h λk hk h=>ar h λhc h=>bj h λc' h2 q=>?_
  rw[bu hk]at y;subst q
  exact ka x y λA E S s va vb Q rm st p q k=>yz hs h2 (jL hc).1 (jL hc).2 p q k
 |dict ks ts=>
  refine al h λk hk h=>al h λj h1 h2=>?_
  rw[jA hk]at y
  exact ka x y λA E S s va vb Q rm st p q k=>u4 hs h1 h2 st p q k
 |_=>cases h
theorem Jd{e:Expr}{nm:Str}{pos:Pos}{t u:T}(gl:Gl K C fI mg mb hb)(h0:dC e=false)(x:EvT ZV w C hb n ZU pv e σ ZZ t)(h:mM nm t=some u):EvT ZV w C hb n ZU pv (.Attribute e nm pos) σ ZZ u:=by
 have he:∀ZU,eval (.Attribute e nm pos) ZU=(do let o ←eval e ZU;standAt pos.atName;let r ←holding [o] (getAttr o nm true);letTemporaryGo e o r;pure r):=λZU=>by
  rw[arm_eval_Attribute,base_of h0]
 cases t with
 |vec k i a=>
  have h:BW nm k i a=some u:=h
  unfold BW at h
  refine cy h ?_ ?_<;>clear h<;>intro hc h
  ·subst hc;cases h;exact kr gl x .kind he
  ·refine cy h ?_ ?_<;>clear h<;>intro hc h
   ·subst hc;cases h;exact kr gl x .items he
   ·refine cy h ?_ ?_<;>clear h<;>intro hc h
    ·subst hc;cases h;exact kr gl x .attrs he
    ·cases h
 |_=>cases h
end
section
variable{ZV:Program}{w:World}{C:Addr}{hb:Heap}{ZU:Env}{pv:List Addr}{σ σ' ZZ ZY ZX:Loc}{n:Nat}{K:Frag}{mg mb:Str→Option Value}{fI:Addr}{E:Ev}{kd:Kd}{Z:Orc}{o:O}
theorem w1{f x:Str}{fv:Value}{p px pos:Pos}{e:Expr}{t:T}{c₀ c c':List T}{a:V}(gl:Gl K C fI mg mb hb)(gn:GN mg mb ZU f fv)(ko:bq ZV w hb fv)(hv:bg ZU x)(hx₀:σ.lookup x=some (.ol c₀))(hs:aO e=false)
  (y:EvT ZV w C hb n ZU pv e σ ZZ t) (hx:ZZ.lookup x=some (.ol c)) (L:LendJ ZV w C hb n fv [t] c a c'):EvV ZV w C hb n ZU pv (.Call (.Name f p) [.Name x px,e] [] pos) σ (ZZ.set x (.ol c')) a:=λA E S g m s Q rm ok r k=>by
 obtain⟨l,vs₀,k₀,hm,_,_⟩:=r.ownL hx₀
 have pl:cn [.Name x px,e]:=b0 (j7 rfl hs)
 refine wpAny_Call_NameR (dq gl ok r.hbIn gn (callWith_of (P:=λh=>∀a x,hb.get? a=some x→h.get? a=some x) (by simp only[pl.2 ZU pos,List.any_nil,Bool.or_false]) ko (bb pl.1 ?_)))
 refine spliced_more (wpAny_Name (au ok r.vars hm hv.1 ?_) hv.2) (a0 rfl _ ZU)
 exact ip y kq (λZU=>a0 hs [] ZU) A E S g m s pos _ rm ok r λS' h' tk vs e' r' q=>
  ⟨r'.hbIn,L ZU pv A E S' g m ZZ _ vs Q x l rm ok r' hx hm q λS'' h'' tk' v e'' r''=>k S'' h'' tk' v (e'.trans e'') r''⟩
theorem Bd{f:Str}{p pos:Pos}{es:List Expr}{ts c c':List T}{a:V}{b:Bool}(hf:σ.lookup f=some (.f (.clo b)))(hv:bg ZU f)(pl:cn es)(y:dK ZV w C hb n ZU pv es σ ZZ ts)(hg:ZZ.lookup (ghost 0)=some (.ol c))(L:CloJ ZV w C hb n b ts c a c'):
  EvV ZV w C hb n ZU pv (.Call (.Name f p) es [] pos) σ (ZZ.set (ghost 0) (.ol c')) a:=λA E S g m s Q rm ok r k=>by
 obtain⟨v,fp,hm,ow,_⟩:=r.own hf
 cases ow using VOk.fE with
 |f q=>
 cases q using R.cloE with
 |@clo fa _ ca=>
 have ca':=ca
 obtain⟨o,o1,o2,oc,fd,c1,c2,cd,vs,t,x⟩:=ca
 refine wpAny_Call_NameR (wpAny_Name (au ok r.vars hm hv.1 ?_) hv.2)
 refine callWith_of (P:=λh=>h.get? fa=some o) (by simp only[pl.2 ZU pos,List.any_nil,Bool.or_false]) (λh hP=>⟨.frame,.inl rfl,?_⟩) (bb pl.1 (y A E S g m s pos _ rm ok r λS' h' tk vs e r' q=>⟨r'.st.o _ _ (e.le.o _ _ x.at_),L ZU pv A E S' g m ZZ _ vs Q fa rm ok r' hg (ca'.mono e.le) q λS'' h'' tk' v e' r''=>k S'' h'' tk' v (e.trans e') r''⟩))
 unfold keeperOf
 refine(Looks.ld (part:=none) hP).andThen ?_
 rw[x.data];exact .now
theorem Cp(h:SV ZV w C hb n E)(ek:∀x,ZU.kindOf x=kd x)(ok:EnvOk ZU pv){e:Expr}{ts:List T}(q:gT E kd e σ=some (ts,σ')):r7 ZV w C hb n ZU pv e σ σ' ts∧fL e=false:=ar q λhs q=>by
 refine⟨ax q λt ZZ h1 q=>?_,nt hs⟩
 cases t with
 |list us=>cases q;exact x6 (sT h ek ok h1)
 |tup us=>cases q;exact AL (sT h ek ok h1)
 |dict ks us=>cases q;exact xg (sT h ek ok h1)
 |_=>cases q
theorem Jw{p pos:Pos}{es:List Expr}{ts us:List T}(gl:Gl K C fI mg mb hb)(gn:GN mg mb ZU "range" (.type "range"))(y:dK ZV w C hb n ZU pv es σ ZZ ts)(pl:ts≠[]→cn es)(h:jU ts=some us):r7 ZV w C hb n ZU pv (.Call (.Name "range" p) es [] pos) σ ZZ us:=by
 cases ts with
 |nil=>cases h
 |cons t ts=>
  replace pl:=pl (by simp)
  cases t with
  |int a=>
   cases ts with
   |nil=>obtain⟨r1,r2,r3,rfl⟩:=ue h;exact qO gl gn pl y r1
   |cons t ts=>
    cases t with
    |int b=>
     cases ts with
     |nil=>obtain⟨r1,r2,r3,rfl⟩:=ue h;exact qI gl gn pl y r1
     |cons t ts=>
      cases t with
      |int c=>
       cases ts with
       |nil=>obtain⟨r1,r2,r3,rfl⟩:=ue h;exact rJ gl gn pl y r2 r3 r1
       |cons _ _=>cases h
      |_=>cases h
    |_=>cases h
  |_=>cases h
theorem KA(H:Hy ZV w C hb n K fI mg mb Z E)(ek:∀x,ZU.kindOf x=kd x)(ok:EnvOk ZU pv){e:Expr}{ts:List T}(q:evIt E kd e σ=some (ts,σ')):r7 ZV w C hb n ZU pv e σ σ' ts∧fL e=false:=by
 unfold evIt at q
 cases hv:qo e with
 |none=>rw[hv]at q;exact Cp H.v ek ok q
 |some v=>
  rw[hv]at q
  induction v with
  |rng f p es pos hf=>
   subst hf
   refine ar q λhg q=>ax q λus ZZ h1 q=>bj q λr hr q=>?_
   cases q
   refine⟨?_,rfl⟩
   have gn:=dF ek hg H.nm.range
   obtain⟨y,b,c⟩:=Cv H.v ek ok h1
   refine Jw H.gl gn y (λhn=>?_) hr
   cases es with
   |nil=>cases us with
    |nil=>exact absurd rfl hn
    |cons _ _=>cases c
   |cons e es=>exact b0 b
  |rev f p es pos hf=>
   subst hf
   refine ar q λhg q=>ax q λus ZZ h1 q=>bj q λr hr q=>?_
   cases q
   refine⟨?_,rfl⟩
   cases us with
   |nil=>cases hr
   |cons u us=>
    cases us with
    |nil=>
     obtain⟨y,p⟩:=Hg H.v ek ok h1
     have hr:u.list?=some r:=hr
     rw[f0 hr]at y
     exact AN H.gl (dF ek hg H.nm.reversed) p y
    |cons _ _=>cases hr
theorem Fd(H:Hy ZV w C hb n K fI mg mb Z E)(ek:∀x,ZU.kindOf x=kd x)(ok:EnvOk ZU pv){ifs:List Expr}{b:Bool}(q:ifsGo E kd ifs σ=some (b,σ')):EvIfs ZV w C hb n ZU pv ifs σ σ' b:=by
 cases ifs with
 |nil=>cases q;exact yC
 |cons c cs=>
  cases cs with
  |nil=>exact ye (H.b _ _ _ _ _ q ZU pv ek ok)
  |cons _ _=>cases q
theorem xI(H:Hy ZV w C hb n K fI mg mb Z E)(ek:∀x,ZU.kindOf x=kd x)(ok:EnvOk ZU pv){x:Str}{ifs:List Expr}{elt:Expr}{ts:List T}:∀{us:List T}{σ σ':Loc},compGo E kd x ifs elt ts σ=some (us,σ')→CompJ ZV w C hb n ZU pv x ifs elt ts σ us σ':=by
 induction ts with
 |nil=>intro us σ σ' q;cases (q);exact⟨rfl,rfl⟩
 |cons t ts ih=>
  intro us σ σ' q
  refine ax q λb ZZ h1 q=>?_
  cases b with
  |false=>exact .inl ⟨_,Fd H ek ok h1,ih q⟩
  |true=>
   refine ax q λu ZY h2 q=>ax q λus' ZX h3 q=>?_
   obtain⟨q1,q2⟩:=Prod.mk.inj (Option.some.inj q)
   exact .inr ⟨_,_,_,_,q1.symm,Fd H ek ok h1,sT H.v ek ok h2,q2 ▸ ih h3⟩
theorem Am{scope:Scope}{x:Str}(ek:∀x,ZU.kindOf x=kd x)(h:aG kd scope x=true):CompSc ZU scope x:=by
 unfold aG at h
 simp only[Bool.and_eq_true,beq_iff_eq,List.all_eq_true]at h
 obtain⟨⟨⟨h1,h0⟩,h2⟩,h3⟩:=h
 refine⟨h1,λy hy=>?_,λy hy hl=>?_,h3,λy hy hf=>?_,λi=>?_⟩
 ·have:=(h2 y hy).1.1
  simpa using this
 ·have:=(h2 y hy).1.2
  rw[hl]at this
  simpa using this
 ·have:=(h2 y hy).2
  rw[hf]at this
  simp only[bne_self_eq_false,Bool.false_or,Bool.and_eq_true,beq_iff_eq]at this
  exact⟨by rw[ek];exact this.1,this.2⟩
 ·cases z:scope.names.lookup (ghost i)with
  |none=>rfl
  |some k=>
   have:=h0 _ (mem_of_lookup z)
   simp[ghost]at this
theorem zh(H:Hy ZV w C hb n K fI mg mb Z E)(ek:∀x,ZU.kindOf x=kd x)(ok:EnvOk ZU pv){x:Str}{ifs:List Expr}{elt iter:Expr}{scope:Scope}{us:List T}{P:Prop}(q:evComp E kd elt x iter ifs scope σ=some (us,σ'))
  (k:∀ZZ ts σe,CompOk ZV w C hb n ZU pv x elt iter ifs scope σ ZZ ts us σe→σ'=Loc.back ZZ σe x→P):P:=ar q λhs q=>ax q λts ZZ h1 q=>ar q λhc q=>ax q λus' σe h2 q=>ar q λha q=>by
 cases q
 obtain⟨it,hset⟩:=KA H ek ok h1
 refine k ZZ ts σe ⟨it,uh hset ZU,Am ek hs,uY (an (an hc).1).1,pf (an (an hc).1).2,pf ha,λenv' pv' hk ok'=>?_,aI (an hc).2⟩ rfl
 refine xI (kd:=kdC scope kd) H (λy=>?_) ok' h2
 rw[hk y]
 unfold kdC
 simp only[ek]
theorem tB(H:Hy ZV w C hb n K fI mg mb Z E)(ek:∀x,ZU.kindOf x=kd x)(ok:EnvOk ZU pv){f:Str}(hg:isGlob kd f=true){args:List Expr}{p pos:Pos}{a:V}(q:cF E Z kd f args σ=some (a,σ')):
  EvV ZV w C hb n ZU pv (.Call (.Name f p) args [] pos) σ σ' a:=ax q λts ZZ h1 q=>bj q λa' ha q=>by
 cases q
 obtain⟨fv,g,ko,cj⟩:=H.z.phi _ _ _ ha
 obtain⟨x,y,z⟩:=Cv H.v ek ok h1
 cases args with
 |nil=>
  cases ts with
  |nil=>cases h1;exact uZ H.gl (dF ek hg g) ko cj
  |cons t ts=>cases z
 |cons e es=>exact xB H.gl (dF ek hg g) ko (b0 y) x cj
theorem instOf_e{y:Str}{t:T}{b:Bool}(h:tT y t=some b):(∃k i a,t= .vec k i a∧y="Vector"∧b=true)∨(∃c,t= .bool c∧y="list"∧b=false):=by
 cases t with
 |vec k i a=>
  have h:(if y="Vector" then some true else none)=some b:=h
  refine cy h ?_ ?_<;>clear h<;>intro hy h
  ·cases h;exact .inl ⟨_,_,_,rfl,hy,rfl⟩
  ·cases h
 |bool c=>
  have h:(if y="list" then some false else none)=some b:=h
  refine cy h ?_ ?_<;>clear h<;>intro hy h
  ·cases h;exact .inr ⟨_,rfl,hy,rfl⟩
  ·cases h
 |_=>cases h
theorem BK{ts:List T}{v:V}(h:vK ts=some v):∃a b,ts=[.int a,.int b]∧Builtin.Range.small a b 1=true∧(Builtin.Range.rangeSize a b 1).toNat≤16777216∧v= .ol (ey a b 1):=by
 cases ts with
 |nil=>cases h
 |cons t ts=>
  cases t with
  |int a=>
   cases ts with
   |nil=>cases h
   |cons t ts=>
    cases t with
    |int b=>
     cases ts with
     |nil=>exact ar h λhc h=>by cases h;exact⟨_,_,rfl,(an hc).1,aI (an hc).2,rfl⟩
     |cons _ _=>cases h
    |_=>cases h
  |_=>cases h
theorem Ei(H:Hy ZV w C hb n K fI mg mb Z E)(ek:∀x,ZU.kindOf x=kd x)(ok:EnvOk ZU pv){f:Str}(hg:isGlob kd f=true){args:List Expr}{p pos:Pos}{a:V}(v:VA f args)(q:jd E Z kd v σ=some (a,σ')):
  EvV ZV w C hb n ZU pv (.Call (.Name f p) args [] pos) σ σ' a:=by
 induction v with
 |isi e y py hf ha=>
  dsimp only[jd]at q
  subst hf
  refine ar q λhy q=>ax q λt ZZ h1 q=>bj q λb hb q=>?_
  cases q
  have x:=sT H.v ek ok h1
  rcases instOf_e hb with⟨k,i,a',rfl,rfl,rfl⟩|⟨c,rfl,rfl,rfl⟩
  ·exact(vJ H.gl (dF ek hg H.nm.isi) (dF ek hy H.nm.vec) x λZU pos=>lr ha rfl ZU pos).v
  ·exact(g2 H.gl (dF ek hg H.nm.isi) (dF ek hy H.nm.list) x λZU pos=>lr ha rfl ZU pos).v
 |len1 x px hf=>
  dsimp only[jd]at q
  subst hf
  cases hl:lent? σ x with
  |none=>rw[hl]at q;exact tB H ek ok hg q
  |some j=>
   rw[hl]at q
   obtain⟨a₀,ha₀⟩:=hO hl
   exact ar q λhv q=>al q λts ht q=>ar q λhz q=>by cases q;exact(yr H.gl (dF ek hg H.nm.len) ha₀ (cR ek hv) (cq ht) (de hz)).v
 |lrng g qq es pp hf hg2=>
  dsimp only[jd]at q
  subst hf;subst hg2
  refine ar q λhr q=>ax q λts ZZ h1 q=>bj q λv hv q=>?_
  cases q
  obtain⟨a1,b1,rfl,r1,r2,rfl⟩:=BK hv
  obtain⟨y,pl⟩:=Hg H.v ek ok h1
  exact ia H.gl (dF ek hr H.nm.range) (dF ek hg H.nm.list) pl y r1 r2 λZU pos=>bP rfl ZU pos
theorem zx(H:Hy ZV w C hb n K fI mg mb Z E)(ek:∀x,ZU.kindOf x=kd x)(ok:EnvOk ZU pv){f:Str}{args:List Expr}{p pos:Pos}{a:V}(q:jR E Z kd f args σ=some (a,σ')):
  EvV ZV w C hb n ZU pv (.Call (.Name f p) args [] pos) σ σ' a:=by
 unfold jR at q
 cases hg:isGlob kd f with
 |true=>
  rw[hg]at q
  dsimp only at q
  cases hψ:Z.Ψ f with
  |some ψ=>
   rw[hψ]at q
   refine al q λv hv q=>?_
   induction v with
   |mk x px e hs=>
    refine ar q λhc q=>ax q λt ZZ h1 q=>al q λc hx q=>bj q λr hr q=>?_
    cases q
    obtain⟨c₀,hx₀⟩:=Option.isSome_iff_exists.mp (an hc).2
    obtain⟨fv,g,ko,L⟩:=H.z.psi _ _ _ _ _ hψ hr
    exact w1 H.gl (dF ek hg g) ko (cR ek (an hc).1) (cq hx₀) hs (sT H.v ek ok h1) (cq hx) L
  |none=>
   rw[hψ]at q
   dsimp only at q
   cases hv:viewA f args with
   |some v=>rw[hv]at q;exact Ei H ek ok hg v q
   |none=>rw[hv]at q;exact tB H ek ok hg q
 |false=>
  rw[hg]at q
  refine ar q λhv q=>ar q λha q=>al q λb hf q=>ax q λts ZZ h1 q=>al q λc hc q=>bj q λr hr q=>?_
  cases q
  obtain⟨x,y,z⟩:=Cv H.v ek ok h1
  cases args with
  |nil=>cases ha
  |cons e es=>exact Bd (CX hf) (cR ek hv) (b0 y) x (cq hc) (H.z.the _ _ _ _ hr)
end
section
variable{ZV:Program}{w:World}{C:Addr}{hb:Heap}{ZU:Env}{pv:List Addr}{σ σ' ZZ ZY ZX:Loc}{n:Nat}{K:Frag}{mg mb:Str→Option Value}{fI:Addr}{E:Ev}{kd:Kd}{Z:Orc}{o:O}
theorem zJ{ts:List T}{k:Str}{t:T}(h:dM ts k=some t):∃(ks:List Str)(j:Nat),ts=ks.map .str∧ks.findIdx? (·=k)=some j∧t= .int (j:Nat):=
 al h λks hk h=>by
  have h:(ks.findIdx? (·=k)).map (fun(j:Nat)=>T.int (j:Int))=some t:=h
  exact bj h λj hj h=>⟨ks,j,oU hk,hj,h.symm⟩
theorem qY{o e:Expr}{apos pos:Pos}{ks:List Str}{k:Str}{j:Nat}(x:EvT ZV w C hb n ZU pv o σ ZZ (.list (ks.map .str)))(y:EvT ZV w C hb n ZU pv e ZZ ZY (.str k))(hj:ks.findIdx? (·=k)=some j)(hz:ks.length≤16777216)(mo:MethOk o "index" [e] apos pos)(he:∀ZU,backTo pos (starEach [e] ZU)=[(false,eval e ZU)]):
  EvT ZV w C hb n ZU pv (.Call (.Attribute o "index" apos) [e] [] pos) σ ZY (.int j):=λA E S g m s Q rm ok r p=>by
 refine wpAny_Call_method_lateS (mo.base ZU) (mo.few ZU) mo.line (x A E S g m s _ rm ok r λS1 h1 tk1 v1 e1 r1 q1=>?_)
 rw[he ZU]
 cases q1 using R.listE with
 |@list a vs nn ho ra=>
 have ho1:=r1.st.o _ _ ho
 refine⟨"list","list.index",F.plainAttrs_list,F.slot_list_index,F.type_list_index,⟨_,ho1,rfl⟩,λb e=>by cases e;exact⟨_,ho1,rfl⟩,PySem.P.index_list ?_⟩
 refine y A E S1 g m {s with heap:=h1,toks:=tk1} _ rm ok r1 λS2 h2 tk2 v2 e2 r2 q2=>?_
 cases q2 using R.strE with
 |str tt=>
 have ho2:=r2.st.o _ _ (e2.le.o _ _ ho)
 obtain⟨hjl,hjk,i1,i2,i3⟩:=ra.idx hj tt
 exact⟨vs.toArray,nn,AT _,j,hjl,ho2,i1,by clear i1 i2 i3;omega,i2,i3,p S2 h2 _ _ (e1.trans e2) r2 (.int _ _)⟩
theorem seq_e{t:T}{ts:List T}(h:t.seq?=some ts):t= .tup ts∨(t= .list ts∧ts.length≤16777216):=by
 cases t with
 |tup us=>cases h;exact .inl rfl
 |list us=>exact ar h λhc h=>by cases h;exact .inr ⟨rfl,aI hc⟩
 |_=>cases h
theorem vT(h:SV ZV w C hb n E)(ek:∀x,ZU.kindOf x=kd x)(ok:EnvOk ZU pv){e a:Expr}{nm:Str}{apos pos:Pos}{t:T}(h0:dC e=false)(ha:aO a=false)(hp:apos.endLine=pos.line)(q:jQ E kd e nm a σ=some (t,σ')):
  EvT ZV w C hb n ZU pv (.Call (.Attribute e nm apos) [a] [] pos) σ σ' t:=by
 have mo:∀nm,MethOk e nm [a] apos pos:=λnm=>cC h0 (fZ ha) (Nat.le_of_ble_eq_true rfl) hp
 unfold jQ at q
 refine cy q ?_ ?_<;>clear q<;>intro hn q
 ·subst hn
  refine ax q λd ZZ h1 q=>ax q λk ZY h2 q=>bj q λu hu q=>?_
  cases q
  cases d with
  |dict ks ts=>cases hu;exact A3 (sT h ek ok h1) (mZ h ek ok h2) (mo _) λZU=>bP ha ZU pos
  |_=>cases hu
 ·refine cy q ?_ ?_<;>clear q<;>intro hn q
  ·subst hn
   refine ax q λsep ZZ h1 q=>ax q λd ZY h2 q=>al q λts ht q=>bj q λu hu q=>?_
   cases q
   refine al hu λxs hx hu=>ar hu λhj hu=>?_
   cases hu
   have y:=sT h ek ok h2
   rw[f0 ht,oU hx]at y
   exact yI (mZ h ek ok h1) y hj (mo _) λZU=>bP ha ZU pos
  ·refine cy q ?_ ?_<;>clear q<;>intro hn q
   ·subst hn
    refine ax q λd ZZ h1 q=>al q λts ht q=>ax q λk ZY h2 q=>bj q λu hu q=>?_
    cases q
    obtain⟨ks,j,e1,hj,rfl⟩:=zJ hu
    have x:=sT h ek ok h1
    rcases seq_e ht with hd|⟨hd,hz⟩
    ·rw[hd,e1]at x
     exact rj x (mZ h ek ok h2) hj (mo _) λZU=>bP ha ZU pos
    ·rw[hd,e1]at x
     rw[e1,List.length_map]at hz
     exact qY x (mZ h ek ok h2) hj hz (mo _) λZU=>bP ha ZU pos
   ·cases q
theorem E0(h:SV ZV w C hb n E)(ek:∀x,ZU.kindOf x=kd x)(ok:EnvOk ZU pv){e:Expr}{args:List Expr}{nm:Str}{apos pos:Pos}{t:T}(h0:dC e=false)(hp:apos.endLine=pos.line)(v:VM args)(q:gx E kd e nm v σ=some (t,σ')):
  EvT ZV w C hb n ZU pv (.Call (.Attribute e nm apos) args [] pos) σ σ' t:=by
 induction v with
 |one a ha=>
  dsimp only[gx]at q
  cases hv:viewN e with
  |none=>rw[hv]at q;exact vT h ek ok h0 ha hp q
  |some v=>
   rw[hv]at q
   induction v with
   |name x p=>
    dsimp only at q
    cases hi:(if nm="index" then ownL σ x else none)with
    |none=>rw[hi]at q;exact vT h ek ok h0 ha hp q
    |some ts₀=>
     rw[hi]at q
     refine cy hi ?_ ?_<;>clear hi<;>intro hn hi
     ·subst hn
      refine ar q λhx q=>ax q λk ZZ h1 q=>al q λts ht q=>ar q λhz q=>bj q λu hu q=>?_
      cases q
      obtain⟨ks,j,rfl,hj,rfl⟩:=zJ hu
      exact vC (cq hi) (cR ek hx) (mZ h ek ok h1) (cq ht) hj (by simpa using aI hz) (cC rfl (fZ ha) (Nat.le_of_ble_eq_true rfl) hp) λZU=>bP ha ZU pos
     ·cases hi
 |two a b ha hb=>
  dsimp only[gx]at q
  refine cy q ?_ ?_<;>clear q<;>intro hn q
  ·subst hn
   refine ax q λs ZZ h1 q=>ax q λts ZY h2 q=>bj q λu hu q=>?_
   cases (q)
   have key:∃i f,ts=[.int i,.str f]∧PadOk i=true∧f.length=1∧t= .str (Txt.rjustF s i (f.cps.getD 0 0)):=by
    cases ts with
    |nil=>cases hu
    |cons t ts=>
     cases t with
     |int i=>
      cases ts with
      |nil=>cases hu
      |cons t ts=>
       cases t with
       |str f=>
        cases ts with
        |nil=>exact ar hu λhc hu=>by cases hu;exact⟨_,_,rfl,(an hc).1,by simpa using(an hc).2,rfl⟩
        |cons _ _=>cases hu
       |_=>cases hu
     |_=>cases hu
   obtain⟨i,f,rfl,r1,r2,rfl⟩:=key
   obtain⟨y,pl⟩:=Hg h ek ok h2
   exact ub (mZ h ek ok h1) y r1 r2 (cC h0 (j7 ha hb) (Nat.le_of_ble_eq_true rfl) hp) pl
  ·cases q
theorem BV(h:SV ZV w C hb n E)(ek:∀x,ZU.kindOf x=kd x)(ok:EnvOk ZU pv){x:Str}{lo hi:Option Expr}{p q2 pos:Pos}{a:V}(q:vO E kd x p lo hi σ=some (a,σ')):
  EvV ZV w C hb n ZU pv (.Subscript (.Name x p) (.Slice lo hi none q2) pos) σ σ' a:=ax q λt ZZ h1 q=>ax q λa₁ ZY h2 q=>ax q λb₁ ZX h3 q=>by
 cases t with
 |list ts=>exact ar q λhz q=>by cases q;exact jr (sT h ek ok h1) (pV h ek ok h2) (pV h ek ok h3) (aI hz) λ_ _=>rfl
 |str t=>exact ar q λhz q=>by cases q;exact(kW (sT h ek ok h1) (pV h ek ok h2) (pV h ek ok h3) (aI hz) λ_ _=>rfl).v
 |_=>cases q
theorem zK(h:SV ZV w C hb n E)(ek:∀x,ZU.kindOf x=kd x)(ok:EnvOk ZU pv){v i:Expr}{pos:Pos}{t:T}(hi:gO i=false)(q:wD E kd v i σ=some (t,σ')):EvT ZV w C hb n ZU pv (.Subscript v i pos) σ σ' t:=
 ax q λa ZZ h1 q=>ax q λb ZY h2 q=>bj q λu hu q=>by cases q;exact HY hi (sT h ek ok h1) (sT h ek ok h2) hu
theorem F9(h:SV ZV w C hb n E)(ek:∀x,ZU.kindOf x=kd x)(ok:EnvOk ZU pv){v i:Expr}{pos:Pos}{t:T}(hi:gO i=false)(q:uN E kd v i σ=some (t,σ')):EvT ZV w C hb n ZU pv (.Subscript v i pos) σ σ' t:=by
 unfold uN at q
 cases hv:viewN v with
 |none=>rw[hv]at q;exact zK h ek ok hi q
 |some v=>
  rw[hv]at q
  induction v with
  |name x p=>
   dsimp only at q
   cases hl:lent? σ x with
   |none=>rw[hl]at q;exact zK h ek ok hi q
   |some k=>
    rw[hl]at q
    refine ar q λhx q=>ax q λj ZZ h1 q=>ar q λhc q=>al q λts ht q=>bj q λu hu q=>?_
    cases q
    obtain⟨a₀,ha₀⟩:=hO hl
    obtain⟨a₁,ha₁⟩:=hO (beq_iff_eq.mp (an hc).1)
    exact xR ha₀ (cR ek hx) (qW h ek ok h1) ha₁ (cq ht) (λo j=>by cases i<;>first|rfl|cases hi) hu (jL (an hc).2).1 (jL (an hc).2).2
theorem Ew(ek:∀x,ZU.kindOf x=kd x){x:Str}{p:Pos}{t:T}(q:tg kd x σ=some (t,σ')):EvT ZV w C hb n ZU pv (.Name x p) σ σ' t:=ar q λhx q=>al q λa ha q=>by
 cases a with
 |f t=>cases q;exact x8 ha (cR ek hx)
 |_=>cases q;exact sU ha (cR ek hx)
theorem yH{x:Option (T×Loc)}{a:V}{P:Prop}(q:fz x=some (a,σ'))(k:∀t,x=some (t,σ')→a= .f t→P):P:=bj q λr hr q=>by
 cases q;exact k _ hr rfl
theorem Ed(H:Hy ZV w C hb n K fI mg mb Z E)(ek:∀x,ZU.kindOf x=kd x)(ok:EnvOk ZU pv){ks:List (Option Expr)}{vs:List Expr}{pos:Pos}{a:V}(q:tV E kd ks vs σ=some (a,σ')):EvV ZV w C hb n ZU pv (.Dict ks vs pos) σ σ' a:=by
 have key:(gd (decide (ks.length=vs.length) && decide (ks.length≤15) && !ks.isEmpty && ks.all (·.isSome)) (bd (me E kd ks vs σ) λp ZZ=>gd (decide p.1.Nodup) (some (V.od p.1 p.2,ZZ))))=some (a,σ')→EvV ZV w C hb n ZU pv (.Dict ks vs pos) σ σ' a:=λq=>
  ar q λhc q=>ax q λp ZZ h1 q=>ar q λhn q=>by
   cases q
   refine xW H.gl (Ft H.v ek ok h1) (an hc).2 (de (an (an (an hc).1).1).1) (λz=>?_) (de (an (an (an hc).1).1).2) (de hn)
   have:=(an (an hc).1).2
   rw[z]at this;cases this
 cases ks with
 |nil=>
  cases vs with
  |nil=>cases q;exact tw H.gl
  |cons _ _=>exact key q
 |cons _ _=>exact key q
theorem Dj(H:Hy ZV w C hb n K fI mg mb Z E)(ek:∀x,ZU.kindOf x=kd x)(ok:EnvOk ZU pv){e:Expr}{a:V}(v:VE e)(q:ci E Z kd v σ=some (a,σ')):EvV ZV w C hb n ZU pv e σ σ' a:=by
 induction v with
 |noneC=>dsimp only[ci]at q;cases q;exact wn.v
 |boolC=>dsimp only[ci]at q;cases q;exact xt.v
 |intC=>dsimp only[ci]at q;cases q;exact CI.v
 |strC=>dsimp only[ci]at q;cases q;exact oN.v
 |name=>dsimp only[ci]at q;exact yH q λt q2 e=>by subst e;exact(Ew ek q2).v
 |list=>dsimp only[ci]at q;exact ax q λts ZZ h1 q=>ar q λhz q=>by cases q;exact x0 (Cv H.v ek ok h1).1 (aI hz)
 |tup=>dsimp only[ci]at q;exact ax q λts ZZ h1 q=>ar q λhz q=>by cases q;exact(B3 (Cv H.v ek ok h1).1 (aI hz)).v
 |dict=>dsimp only[ci]at q;exact Ed H ek ok q
 |bin=>dsimp only[ci]at q;exact ax q λx ZZ h1 q=>ax q λy ZY h2 q=>bj q λc hc q=>by cases q;exact LB (sT H.v ek ok h1) (sT H.v ek ok h2) hc
 |neg=>dsimp only[ci]at q;exact ax q λi ZZ h1 q=>by cases q;exact(A5 (qW H.v ek ok h1)).v
 |not=>dsimp only[ci]at q;cases q
 |bool op es p=>
  dsimp only[ci]at q
  refine ax q λb ZZ h1 q=>?_
  cases q
  exact EvT.v λA E' S g m s Q rm ok' r k=>J5 H.v ek ok h1 A E' S g m s p Q rm ok' r λS' h' tk e r'=>k S' h' tk _ e r' (.bool b)
 |ifx=>dsimp only[ci]at q;exact ax q λc ZZ h1 q=>yH q λt h2 e=>by subst e;exact(DZ (H.b _ _ _ _ _ h1 ZU pv ek ok) (sT H.v ek ok h2)).v
 |cmp _ _ _ _ hm=>dsimp only[ci]at q;exact ax q λb ZZ h1 q=>by cases q;exact(Dp H.v ek ok hm h1).1.v
 |joined=>dsimp only[ci]at q;exact ax q λout ZZ h1 q=>ar q λhz q=>by cases q;exact(qJ (KP H.v ek ok h1) (aI hz)).v
 |attr _ _ _ h0=>dsimp only[ci]at q;exact ax q λt ZZ h1 q=>bj q λu hu q=>by cases q;exact(Jd H.gl h0 (sT H.v ek ok h1) hu).v
 |slc=>dsimp only[ci]at q;exact BV H.v ek ok q
 |sub _ _ _ hi=>dsimp only[ci]at q;exact yH q λt q2 e=>by subst e;exact(F9 H.v ek ok hi q2).v
 |comp=>dsimp only[ci]at q;exact ax q λus ZZ h1 q=>by cases q;exact zh H ek ok h1 λZZ ts σe c e=>by subst e;exact pe c
 |call=>dsimp only[ci]at q;exact zx H ek ok q
 |meth _ _ _ _ _ h0 hp=>dsimp only[ci]at q;exact al q λv hv q=>yH q λt q2 e=>by subst e;exact(E0 H.v ek ok h0 hp v q2).v
theorem AU(H:Hy ZV w C hb n K fI mg mb Z E):SV ZV w C hb n ⟨tG E Z,E.B,E.X⟩:=λkd e σ a σ' q ZU pv ek ok=>al q λv hv q=>Dj H ek ok v q
theorem B4(H:Hy ZV w C hb n K fI mg mb Z E):SB ZV w C hb n ⟨E.V,lz E,E.X⟩:=λkd e σ a σ' q ZU pv ek ok=>by
 change lz E kd e σ=some (a,σ')at q
 unfold lz at q
 cases hb:plainB e with
 |true=>rw[hb]at q;exact uy (sY H.v ek ok q) (vm hb)
 |false=>
  rw[hb]at q
  refine al q λv hv q=>?_
  induction v with
  |not=>exact ax q λb ZZ h1 q=>by cases q;exact BO (H.b _ _ _ _ _ h1 ZU pv ek ok)
  |bool=>exact w2 (Kh H.b ek ok q)
  |cmp _ _ _ _ hm=>exact(Dp H.v ek ok hm q).2
  |_=>cases q
end
section
variable{ZV:Program}{w:World}{C:Addr}{hb:Heap}{ZU:Env}{pv:List Addr}{σ σ' ZZ ZY ZX:Loc}{n:Nat}{K:Frag}{mg mb:Str→Option Value}{fI:Addr}{E:Ev}{kd:Kd}{Z:Orc}{o:O}
theorem kj(hX:SX ZV w C hb n Z E)(ek:∀x,ZU.kindOf x=kd x)(ok:EnvOk ZU pv)(hc:∀x c,Z.st x=true→ZU.cells.lookup x=some c→c∈pv):∀{ss:List Stmt}{σ:Loc}{o:O},exs E kd ss σ=some o→ExJ ZV w C hb n ZU pv ss σ o
 |[],σ,o,q=>by cases q;exact Bf
 |s ::ss,σ,o,q=>al q λo' h q=>by
  have:=hX _ _ _ _ h ZU pv ek ok hc
  cases o' with
  |nx ZZ=>exact xY this (kj hX ek ok hc q)
  |rt a ZZ=>cases q;exact A1 this
  |bk ZZ=>cases q;exact Bw this
  |ct ZZ=>cases q;exact AZ this
theorem IG(hX:SX ZV w C hb n Z E)(ek:∀x,ZU.kindOf x=kd x)(ok:EnvOk ZU pv)(hc:∀x c,Z.st x=true→ZU.cells.lookup x=some c→c∈pv){x:Str}{body:List Stmt}{k:Nat}{ts:List T}:∀{σ:Loc}{o:O},aC E kd x body k ts σ=some o→LoopJ ZV w C hb n ZU pv x body k ts σ o:=by
 induction ts with
 |nil=>intro σ o q;exact Option.some.inj q
 |cons t ts ih=>
  intro σ o q
  refine al q λo' h q=>?_
  have b:=kj hX ek ok hc h
  cases o' with
  |nx ZZ=>exact .inl ⟨_,b,ih q⟩
  |ct ZZ=>exact .inr (.inl ⟨_,b,ih q⟩)
  |bk ZZ=>exact .inr (.inr (.inl ⟨_,Option.some.inj q,b⟩))
  |rt a ZZ=>exact .inr (.inr (.inr ⟨_,_,Option.some.inj q,b⟩))
theorem AQ(hB:SB ZV w C hb n E)(hX:SX ZV w C hb n Z E)(ek:∀x,ZU.kindOf x=kd x)(ok:EnvOk ZU pv)(hc:∀x c,Z.st x=true→ZU.cells.lookup x=some c→c∈pv){test:Expr}{body:List Stmt}{k W:Nat}:∀{σ:Loc}{o:O},lf E kd test body k W σ=some o→WhileJ ZV w C hb n ZU pv test body k W σ o:=by
 induction W with
 |zero=>intro σ o q;cases q
 |succ W ih=>
  intro σ o q
  refine ax q λb ZZ h1 q=>?_
  have t:=hB _ _ _ _ _ h1 ZU pv ek ok
  cases b with
  |false=>exact .inl ⟨_,t,Option.some.inj q⟩
  |true=>
   refine al q λo' h q=>?_
   have b:=kj hX ek ok hc h
   cases o' with
   |nx ZY=>exact .inr ⟨_,t,.inl ⟨_,b,ih q⟩⟩
   |ct ZY=>exact .inr ⟨_,t,.inr (.inl ⟨_,b,ih q⟩)⟩
   |bk ZY=>exact .inr ⟨_,t,.inr (.inr (.inl ⟨_,Option.some.inj q,b⟩))⟩
   |rt a ZY=>exact .inr ⟨_,t,.inr (.inr (.inr ⟨_,_,Option.some.inj q,b⟩))⟩
theorem eN{x:Str}(ek:∀x,ZU.kindOf x=kd x)(ok:EnvOk ZU pv)(hc:∀x c,Z.st x=true→ZU.cells.lookup x=some c→c∈pv)(h:bG Z kd x=true):bO ZU pv x:=by
 rcases Bool.or_eq_true_iff.mp (an h).2 with k|k
 ·exact .inl (by rw[ek];exact beq_iff_eq.mp k)
 ·have hk:ZU.kindOf x=some .cell:=by rw[ek];exact beq_iff_eq.mp k
  obtain⟨c,hcc⟩:=ok.has x hk
  exact .inr ⟨hk,c,hcc,hc x c (an h).1 hcc⟩
theorem eL(ok:EnvOk ZU pv):interactive ZU=false:=by
 unfold interactive;rw[ok.kind];rfl
theorem grow_e{nm:Str}{ts us:List T}{t:T}(h:aV nm ts t=some us):(nm="append"∧ts.length≤16777216∧us=ts ++ [t])∨(nm="extend"∧∃vs,t= .list vs∧ts.length+vs.length≤16777216∧us=ts ++ vs):=by
 unfold aV at h
 refine cy h ?_ ?_<;>clear h<;>intro hn h
 ·exact ar h λhz h=>by cases h;exact .inl ⟨hn,aI hz,rfl⟩
 ·refine cy h ?_ ?_<;>clear h<;>intro hn h
  ·exact al h λvs hv h=>ar h λhz h=>by cases h;exact .inr ⟨hn,vs,f0 hv,aI hz,rfl⟩
  ·cases h
theorem GT(h:SV ZV w C hb n E)(ek:∀x,ZU.kindOf x=kd x)(ok:EnvOk ZU pv){x nm:Str}{px apos pos pos':Pos}{args:List Expr}(hp:apos.endLine=pos.line)(q:gQ E kd x nm args σ=some o):
  du ZV w C hb n ZU pv (.Expr (.Call (.Attribute (.Name x px) nm apos) args [] pos) pos') σ o:=ar q λhv q=>al q λts₀ hx q=>by
 have key:∀{args:List Expr},((hJ args).bind λv=>match v with
   |.one e _=>bd (evT E kd e σ) λt ZZ=>(ownL ZZ x).bind λts=>(aV nm ts t).map λus=>O.nx (ZZ.set x (.ol us))
   |.two _ _ _ _=>none)=some o→du ZV w C hb n ZU pv (.Expr (.Call (.Attribute (.Name x px) nm apos) args [] pos) pos') σ o:=λq=>by
  refine al q λv hv' q=>?_
  induction v with
  |one e he=>
   refine ax q λt ZZ h1 q=>al q λts hx1 q=>bj q λus hu q=>?_
   subst q
   have mo:∀nm,MethOk (.Name x px) nm [e] apos pos:=λnm=>cC rfl (fZ he) (Nat.le_of_ble_eq_true rfl) hp
   rcases grow_e hu with⟨rfl,hz,rfl⟩|⟨rfl,vs,rfl,hz,rfl⟩
   ·exact vS (cq hx) (cR ek hv) (sT h ek ok h1) (cq hx1) hz (mo _) (λZU=>bP he ZU pos) (eL ok) rfl
   ·exact tM (cq hx) (cR ek hv) (sT h ek ok h1) (cq hx1) hz (mo _) (λZU=>bP he ZU pos) (eL ok) rfl
  |two=>cases q
 cases args with
 |nil=>
  refine ar q λhc q=>?_
  cases q
  obtain⟨hn,hz⟩:=an hc
  have hn:=de hn
  subst hn
  exact rB (cq hx) (cR ek hv) (aI hz) (cC rfl (λe he=>absurd he List.not_mem_nil) (Nat.le_of_ble_eq_true rfl) hp) (eL ok) rfl
 |cons e es=>exact key q
theorem De{c ts:List T}(h:v8 c=some ts):∃t,c=t ::ts∧ts.length < 16777216:=by
 cases c with
 |nil=>cases h
 |cons t us=>exact ar h λhz h=>by cases h;exact⟨t,rfl,de hz⟩
theorem tS(h:SV ZV w C hb n E)(ek:∀x,ZU.kindOf x=kd x)(ok:EnvOk ZU pv){x nm:Str}{k:Nat}{px apos pos pos':Pos}{args:List Expr}(hp:apos.endLine=pos.line)(hl:lent? σ x=some k)(q₀:gN E kd x k nm args σ=some o):
  du ZV w C hb n ZU pv (.Expr (.Call (.Attribute (.Name x px) nm apos) args [] pos) pos') σ o:=ar q₀ λhv q=>by
 clear q₀
 obtain⟨a₀,ha₀⟩:=hO hl
 refine cy q ?_ ?_<;>clear q<;>intro hn q
 ·subst hn
  refine al q λv hv' q=>?_
  induction v
  refine al q λc hc q=>bj q λts ht q=>?_
  subst q
  obtain⟨t,rfl,hz⟩:=De ht
  exact BY ha₀ (cq hc) (cR ek hv) hz (cC rfl (fZ rfl) (Nat.le_of_ble_eq_true rfl) hp) (eL ok) rfl
 ·refine cy q ?_ ?_<;>clear q<;>intro hn q
  ·subst hn
   refine al q λv hv' q=>?_
   induction v with
   |one e he=>
    refine ar q λhg q=>ax q λt ZZ h1 q=>al q λts ht q=>ar q λhz q=>?_
    cases q
    obtain⟨c₀,hc₀⟩:=Option.isSome_iff_exists.mp hg
    exact rM ha₀ (cq hc₀) (cR ek hv) (sT h ek ok h1) (cq ht) (aI hz) (cC rfl (fZ he) (Nat.le_of_ble_eq_true rfl) hp) (λZU=>bP he ZU pos) (eL ok) rfl
   |two=>cases q
  ·cases q
theorem En(h:SV ZV w C hb n E)(ek:∀x,ZU.kindOf x=kd x)(ok:EnvOk ZU pv){x:Str}{i v:Expr}{p1 p2 pos:Pos}(hc:dT v=false)(q:uJ E kd x i v σ=some o):
  du ZV w C hb n ZU pv (.Assign [.Subscript (.Name x p1) i p2] v pos) σ o:=ar q λhv q=>ax q λt ZZ h1 q=>by
 cases hl:lent? ZZ x with
 |some k=>
  rw[hl]at q
  obtain⟨a₀,ha₀⟩:=hO hl
  exact ax q λj ZY h2 q=>al q λts ht q=>ar q λhk q=>by
   cases q
   exact Cm (sT h ek ok h1) (qW h ek ok h2) ha₀ (cq ht) (cR ek hv) (de (an (an hk).1).1) (de (an (an hk).1).2) (de (an hk).2) (d8 hc _ _ _)
 |none=>
  rw[hl]at q
  exact ar q λhs q=>ax q λk ZY h2 q=>al q λp hx q=>ar q λhz q=>by
   cases q
   obtain⟨b₀,hb₀⟩:=Option.isSome_iff_exists.mp hs
   exact si (sT h ek ok h1) (mZ h ek ok h2) hb₀ (H6 hx) (cR ek hv) (aI hz) (d8 hc _ _ _)
theorem nf(h:SV ZV w C hb n E)(ek:∀x,ZU.kindOf x=kd x)(ok:EnvOk ZU pv){x y:Str}{ke:Expr}{p1 p2 p3 p4 p5 ap1 ap2 py:Pos}{ks₀:List Str}{tss₀:List (List T)}(h1:ap1.endLine=p3.line)(h2:ap2.endLine=p4.line)(hk:aO ke=false)(hvx:aF kd x=true)(hvy:aF kd y=true)
  (hx₀:σ.lookup x=some (.odl ks₀ tss₀)) (q:gP E kd x y ke σ=some o) :
  du ZV w C hb n ZU pv (.Expr (.Call (.Attribute (.Call (.Attribute (.Name x p1) "setdefault" ap1) [ke,.List [] p2] [] p3) "append" ap2) [.Name y py] [] p4) p5) σ o:=ax q λk ZZ hk' q=>al q λp hp q=>al q λt ht q=>ar q λhz q=>by
 cases q
 refine vM (mZ h ek ok hk') hx₀ (Gb hp) (cR ek hvx) (kK ht) (cR ek hvy) (aI (an hz).1) (λts hts=>aI (List.all_eq_true.mp (an hz).2 ts hts)) (cC rfl (j7 hk rfl) (Nat.le_of_ble_eq_true rfl) h1) (cC rfl (fZ rfl) (Nat.le_of_ble_eq_true rfl) h2) (λZU=>?_) (eL ok)
 rw[a0 hk,a0 rfl]
 rfl
theorem yk(h:SV ZV w C hb n E)(ek:∀x,ZU.kindOf x=kd x)(ok:EnvOk ZU pv){x y:Str}{ke:Expr}{p1 p2 p3 p4 p5 ap1 ap2 py:Pos}(h1:ap1.endLine=p3.line)(h2:ap2.endLine=p4.line)(hk:aO ke=false)(q:o0 E kd x y ke σ=some o):
  du ZV w C hb n ZU pv (.Expr (.Call (.Attribute (.Call (.Attribute (.Name x p1) "setdefault" ap1) [ke,.List [] p2] [] p3) "append" ap2) [.Name y py] [] p4) p5) σ o:=ar q λhv q=>al q λa ha q=>by
 cases a with
 |odl ks tss=>exact nf h ek ok h1 h2 hk (an hv).1 (an hv).2 ha q
 |od ks ts=>
  cases ks with
  |cons _ _=>cases q
  |nil=>
   cases ts with
   |cons _ _=>cases q
   |nil=>
    have g:=nf (p1:=p1) (p2:=p2) (p3:=p3) (p4:=p4) (p5:=p5) (ap1:=ap1) (ap2:=ap2) (py:=py) h ek ok h1 h2 hk (an hv).1 (an hv).2 (by rw[ao,if_pos rfl]) q
    exact λA E' S gg m s Q rm ok' r p=>g A E' S gg m s Q rm ok' (r.od_odl ok'.loc ha) p
 |_=>cases q
theorem AS(gl:Gl K C fI mg mb hb)(h:SV ZV w C hb n E)(ek:∀x,ZU.kindOf x=kd x)(ok:EnvOk ZU pv){x:Str}{v:Expr}{p1 p2 pos:Pos}(hc:dT v=false)(q:vo E kd x v σ=some o):
  du ZV w C hb n ZU pv (.Assign [.Attribute (.Name x p1) "attrs" p2] v pos) σ o:=ar q λhv q=>ax q λt ZZ h1 q=>al q λa ha q=>by
 cases a with
 |ov k i a=>cases q;exact nO gl (sT h ek ok h1) ha (cR ek hv) (d8 hc _ _ _)
 |_=>cases q
theorem Bc(gl:Gl K C fI mg mb hb)(ek:∀x,ZU.kindOf x=kd x){x:Str}{p1 p2 p3 pos:Pos}{kk:Nat}(q:tm kd x σ=some o):
  du ZV w C hb n ZU pv (.Assign [.Attribute (.Name x p1) "shared" p2] (.Constant (.bool true) kk p3) pos) σ o:=ar q λhv q=>al q λa ha q=>by
 cases a with
 |f t=>
  cases t with
  |vec k i a=>cases q;exact wX gl ha (cR ek hv)
  |_=>cases q
 |_=>cases q
theorem oV{es:List Expr}{v:Expr}{k:Nat}{p:Pos}{ZU:Env}(h:tN v=false):swappedStores [.Tuple es k p] v ZU=pure none:=by
 unfold swappedStores
 cases v<;>first|rfl|cases h
theorem yL(h:SV ZV w C hb n E)(ek:∀x,ZU.kindOf x=kd x)(ok:EnvOk ZU pv)(hc:∀x c,Z.st x=true→ZU.cells.lookup x=some c→c∈pv){es:List Expr}{v:Expr}{k:Nat}{p pos:Pos}(h1:dT v=false)(h2:tN v=false)(q:pH E Z kd es v σ=some o):
  du ZV w C hb n ZU pv (.Assign [.Tuple es k p] v pos) σ o:=al q λxs hx q=>ax q λt ZZ hv q=>al q λts ht q=>ar q λhz q=>by
 cases q
 have y:=sT h ek ok hv
 rw[D6 ht]at y
 have e:=pJ hx
 subst e
 exact tY y (de (an hz).1) (λy hy=>eN ek ok hc (List.all_eq_true.mp (an hz).2 y hy)) (λZU=>by unfold swapsWithSole;exact d8 h1 _ _ _) λZU=>oV h2
theorem Im(h:SV ZV w C hb n E)(ek:∀x,ZU.kindOf x=kd x)(ok:EnvOk ZU pv)(hc:∀x c,Z.st x=true→ZU.cells.lookup x=some c→c∈pv){x:Str}{op:Operator}{e:Expr}{px pos:Pos}(hst:bG Z kd x=true)(q:C2 E kd x op e σ=some o):
  du ZV w C hb n ZU pv (.AugAssign (.Name x px) op e pos) σ o:=ar q λhv q=>al q λt ht q=>al q λa ha q=>ax q λb ZZ h1 q=>bj q λc hc' q=>by
 subst q
 have e:=bu ha
 subst e
 cases op with
 |Add=>cases hc';exact zQ (kK ht) (cR ek hv) (qW h ek ok h1) (eN ek ok hc hst) λA E s S va vb Q rm p q k=>w0 p q k
 |Sub=>cases hc';exact zQ (kK ht) (cR ek hv) (qW h ek ok h1) (eN ek ok hc hst) λA E s S va vb Q rm p q k=>xv p q k
 |_=>cases hc'
theorem EP{W:Nat}(H:Hy ZV w C hb n K fI mg mb Z E)(ek:∀x,ZU.kindOf x=kd x)(ok:EnvOk ZU pv)(hc:∀x c,Z.st x=true→ZU.cells.lookup x=some c→c∈pv){s:Stmt}(v:VX s)(q:ew E Z kd W v σ=some o):du ZV w C hb n ZU pv s σ o:=by
 induction v with
 |ret=>dsimp only[ew]at q;exact ax q λa ZZ h1 q=>by cases q;exact sZ (H.v _ _ _ _ _ h1 ZU pv ek ok)
 |asgComp=>
  dsimp only[ew]at q
  refine ar q λhs q=>ax q λus ZZ h1 q=>zh H ek ok h1 λZY ts σe c e=>?_
  cases q
  subst e
  rcases swaps_comp with e|e
  ·exact jc c (eN ek ok hc hs) e
  ·exact lF (pe c) (eN ek ok hc hs) e
 |asg _ _ _ _ h=>dsimp only[ew]at q;exact ar q λhs q=>ax q λa ZZ h1 q=>by cases q;exact lF (H.v _ _ _ _ _ h1 ZU pv ek ok) (eN ek ok hc hs) (d8 h _ _ _)
 |share _ _ _ _ _ _ _ hn=>dsimp only[ew]at q;subst hn;exact Bc H.gl ek q
 |attrs _ _ _ _ _ _ hn h=>dsimp only[ew]at q;subst hn;exact AS H.gl H.v ek ok h q
 |item _ _ _ _ _ _ h=>exact En H.v ek ok h q
 |unpack _ _ _ _ _ h h2=>exact yL H.v ek ok hc h h2 q
 |aug=>dsimp only[ew]at q;exact ar q λhs q=>Im H.v ek ok hc hs q
 |ite=>dsimp only[ew]at q;exact ax q λc ZZ h1 q=>GG (H.b _ _ _ _ _ h1 ZU pv ek ok) (kj H.x ek ok hc q)
 |«for»=>
  dsimp only[ew]at q
  refine ar q λhs q=>ax q λts ZZ h1 q=>?_
  obtain⟨it,hset⟩:=KA H ek ok h1
  exact FR it (eN ek ok hc hs) (IG H.x ek ok hc q) (uh hset ZU)
 |«while»=>
  have r:=AQ H.b H.x ek ok hc q
  exact wR r
 |expr=>dsimp only[ew]at q;exact ax q λa ZZ h1 q=>by cases q;exact A7 (zx H ek ok h1) (eL ok) rfl
 |mutS x _ _ _ _ _ _ hp=>
  dsimp only[ew]at q
  cases hl:lent? σ x with
  |none=>rw[hl]at q;exact GT H.v ek ok hp q
  |some k=>rw[hl]at q;exact tS H.v ek ok hp hl q
 |setapp _ _ _ _ _ _ _ _ _ _ _ _ _ h1 h2 h3 h4 hk=>dsimp only[ew]at q;subst h1;subst h2;exact yk H.v ek ok h3 h4 hk q
 |pass=>cases q;exact Af
 |brk=>cases q;exact xH
 |cnt=>cases q;exact oO
theorem Az{W:Nat}(H:Hy ZV w C hb n K fI mg mb Z E):SX ZV w C hb n Z ⟨E.V,E.B,λkd=>tz E Z kd W⟩:=λkd s σ o q ZU pv ek ok hc=>al q λv hv q=>EP H ek ok hc v q
theorem bx{W:Nat}(gl:Gl K C fI mg mb hb)(nm:Nm mg mb C)(z:OrcOk ZV w C hb mg mb n Z):∀k,SV ZV w C hb n (Ev.at Z W k)∧SB ZV w C hb n (Ev.at Z W k)∧SX ZV w C hb n Z (Ev.at Z W k)
 |0=>⟨λ_ _ _ _ _ q=>(nomatch q),λ_ _ _ _ _ q=>(nomatch q),λ_ _ _ _ q=>(nomatch q)⟩
 |k+1=>by
  obtain⟨a,b,c⟩:=bx (W:=W) gl nm z k
  have H:Hy ZV w C hb n K fI mg mb Z (Ev.at Z W k):=⟨gl,nm,z,a,b,c⟩
  exact⟨AU H,B4 H,Az H⟩
end
mutual
noncomputable def T.noq:T→Bool
 |.opq _ _=>false
 |.clo _=>false
 |.list ts=>T.noqs ts
 |.tup ts=>T.noqs ts
 |.dict _ ts=>T.noqs ts
 |.vec k i a=>k.noq && i.noq && a.noq
 |_=>true
noncomputable def T.noqs:List T→Bool
 |[]=>true
 |t ::ts=>t.noq && T.noqs ts
end
section
variable{ZV:Program}{w:World}{C:Addr}{hb:Heap}{ZU:Env}{pv:List Addr}{S g:Sh}{m:Str→Option Value}{σ σ' ZZ ZY ZX:Loc}{ρ:Option (Value×V)}{h:Heap}{n:Nat}{K:Frag}{mg mb:Str→Option Value}{fI:Addr}{Φ:Str→List T→Option V}
noncomputable def Sh.rq(S:Sh)(q:Nat→Addr):Sh:={S with q:=q}
theorem R.moves{S S':Sh}(hS:∀a x,S.o a=some x→(∀vs,x.data≠ .fields vs)→S'.o a=some x)(hv:∀a x,S.v a=some x→S'.v a=some x):
  (∀{v t},R ZV w C S v t→t.noq=true→R ZV w C S' v t)∧∀{vs ts},RA ZV w C S vs ts→T.noqs ts=true→RA ZV w C S' vs ts:=
 R.both (λ_=>.none) (λb _=>.bool b) (λi t _=>.int i t) (λx t _=>.str x t) (λe _ q hn=>.list (hS _ _ e λ_ z=>by cases z) (q hn)) (λe _ q hn=>.tup (hS _ _ e λ_ z=>by cases z) (q hn))
  (λe d n _ q hn=>.dict (hS _ _ e λ_ z=>by obtain⟨es,ep,_,q2,_⟩:=d;rw[q2]at z;cases z) d n (q hn))
  (λe d _ _ _ a b c hn=>.vec (hS _ _ e λ_ z=>by cases z) (hv _ _ d) (a (Bool.and_eq_true_iff.mp (Bool.and_eq_true_iff.mp hn).1).1) (b (Bool.and_eq_true_iff.mp (Bool.and_eq_true_iff.mp hn).1).2) (c (Bool.and_eq_true_iff.mp hn).2))
  (λi _ hn=>nomatch hn) (λb _ hn=>nomatch hn) (λ_=>.nil) λ_ _ a b hn=>.cons (a (Bool.and_eq_true_iff.mp hn).1) (b (Bool.and_eq_true_iff.mp hn).2)
theorem R.rq{q:Nat→Addr}{v:Value}{t:T}(h:R ZV w C S v t)(hn:t.noq=true):R ZV w C (S.rq q) v t:=(R.moves (S:=S) (S':=S.rq q) (λ_ _ e _=>e) λ_ _ e=>e).1 h hn
theorem RA.rq{q:Nat→Addr}{vs:List Value}{ts:List T}(h:RA ZV w C S vs ts)(hn:T.noqs ts=true):RA ZV w C (S.rq q) vs ts:=(R.moves (S:=S) (S':=S.rq q) (λ_ _ e _=>e) λ_ _ e=>e).2 h hn
noncomputable def V.noq:V→Bool
 |.f t=>t.noq
 |.ol ts=>T.noqs ts
 |.od _ ts=>T.noqs ts
 |.ov k i a=>k.noq && i.noq && a.noq
 |.odl _ tss=>tss.all T.noqs
theorem OLs.rq{q:Nat→Addr}{vs:List Value}{tss:List (List T)}{fp:List Addr}(x:OLs ZV w C S h vs tss fp):(∀ts∈tss,T.noqs ts=true)→OLs ZV w C (S.rq q) h vs tss fp:=by
 induction x with
 |nil=>exact λ_=>.nil
 |cons e r n _ ih=>exact λhn=>.cons e (r.rq (hn _ (.head _))) n (ih λts hts=>hn ts (.tail _ hts))
theorem VOk.rq{q:Nat→Addr}{v:Value}{a:V}{fp:List Addr}(x:VOk ZV w C S h v a fp)(hn:a.noq=true):VOk ZV w C (S.rq q) h v a fp:=by
 cases x with
 |f r=>exact .f (r.rq hn)
 |ol e r=>exact .ol e (r.rq hn)
 |od e d n r=>exact .od e d n (r.rq hn)
 |ov e d ne a b c=>
  simp only[V.noq,Bool.and_eq_true]at hn
  exact .ov e d ne (a.rq hn.1.1) (b.rq hn.1.2) (c.rq hn.2)
 |odl e d n na r=>
  simp only[V.noq,List.all_eq_true]at hn
  exact .odl e d n na (r.rq hn)
noncomputable def cM(S:Sh)(h:Heap)(l:Addr)(q:Nat→Addr):Sh:={o:=λb=>if b=l then none else(bH S h).o b,v:=S.v,q:=q}
theorem j1{l b:Addr}{q:Nat→Addr}(hb:b≠l)(e:(bH S h).has b):(cM S h l q).has b:=by
 unfold Sh.has cM at *
 simp only[if_neg hb]
 exact e
theorem Rel.back{x:Str}{c c':List T}{l:Addr}{q:Nat→Addr}{cenv:Env}{cpv:List Addr}{S':Sh}{m':Str→Option Value}{h':Heap}{v:Value}{a:V}(r:Rel ZV w C hb ZU pv S g m σ none h)(hL:ZU.locals∈pv)(hx:σ.lookup x=some (.ol c))(hm:m x=some (.ref l))
  (e:Ext w (S.rq q) (cM S h l q) S' h') (rc:Rel ZV w C hb cenv cpv S' (cM S h l q) m' σ' (some (v,a)) h') (hg:σ'.lookup (ghost 0)=some (.ol c')) (hq:q 0=l) (tv:q=S.q∨(a.noq=true∧T.noqs c'=true)) :
  Ext w S g (S'.rq S.q) h'∧Rel ZV w C hb ZU pv (S'.rq S.q) g m (σ.set x (.ol c')) (some (v,a)) h':=by
 obtain⟨fp,a1,a2⟩:=r.slots
 obtain⟨okx,cx⟩:=a1 (some x) _ _ ⟨hx,hm⟩
 have hlx:l∈fp (some x):=by
  generalize fp (some x)=lst at okx
  cases okx with|ol _ _=>exact .head _
 obtain⟨nSl,ngl,npl⟩:=cx l hlx
 obtain⟨fc,b1,b2⟩:=rc.slots
 have hg0:m' (ghost 0)=some (.ref l):=by rw[rc.gho 0,←e.le.q];show some (Value.ref (q 0))=_;rw[hq]
 obtain⟨okg,cg⟩:=b1 (some (ghost 0)) _ _ ⟨hg,hg0⟩
 obtain⟨okr,cr⟩:=b1 none v a rfl
 have hlg:l∈fc (some (ghost 0))∧∃vs n,h'.get? l=some (lO vs n)∧RA ZV w C S' vs c':=by
  generalize fc (some (ghost 0))=lst at okg
  cases okg with|ol e ra=>exact⟨.head _,_,_,e,ra⟩
 obtain⟨hlg,vs,nn,hl',ra'⟩:=hlg
 have rqS:q=S.q→S'.rq S.q=S':=λz=>by
  have z2:S.q=S'.q:=z.symm.trans e.le.q
  unfold Sh.rq;rw[z2]
 have okr':VOk ZV w C (S'.rq S.q) h' v a (fc none):=by
  rcases tv with z|z
  ·rw[rqS z];exact okr
  ·exact okr.rq z.1
 have ra'':RA ZV w C (S'.rq S.q) vs c':=by
  rcases tv with z|z
  ·rw[rqS z];exact ra'
  ·exact ra'.rq z.2
 have nS'l:¬ S'.has l:=(cg l hlg).1
 have keep:∀b o,b≠l→S.v b=none→h.get? b=some o→h'.get? b=some o:=λb o hb q' ho=>e.kp.o b o (by simp only[cM,if_neg hb,bH,if_pos q'];exact ho)
 have nwE:∀b,(∃o,h.get? b=some o)→S'.has b→S.has b:=λb ⟨o,ho⟩ hs=>by
  by_cases hb:b=l
  ·exact absurd (hb ▸ hs) nS'l
  ·exact e.nw b (j1 hb (bM ho)) hs
 have frR:∀b∈fc none,h.get? b=none:=λb hb=>by
  cases z:h.get? b with
  |none=>rfl
  |some o=>
   by_cases hbl:b=l
   ·exact absurd (by rw[hbl];exact hlg) (b2 none (some (ghost 0)) _ _ _ _ (by simp) rfl ⟨hg,hg0⟩ b hb)
   ·exact absurd (j1 hbl (bM z)) (cr b hb).2.1
 have le:S.Le (S'.rq S.q):=⟨λa y z=>e.le.o a y z,λa y z=>e.le.v a y z,rfl⟩
 have sin:(S'.rq S.q).In w h':=⟨e.st.o,e.st.v,e.st.dis⟩
 have offg:∀b,g.has b→b≠l:=λb hb z=>ngl (z ▸ hb)
 have gin:g.In w h':=⟨λb y z=>keep b y (offg b (Sh.has_o z)) (by
   cases zz:S.v b with
   |none=>rfl
   |some yy=>have:=r.gd _ _ zz;rw[z]at this;cases this) (r.kp.o _ _ z),λd y z=>e.st.v _ _ (e.le.v _ _ (r.gS _ _ z)),r.kp.dis⟩
 have visl:∀b,Vis ZU b→b≠l:=λb hb z=>by
  rcases hb with hb|⟨y,hy⟩
  ·exact npl (z ▸ hb ▸ hL)
  ·exact okx.nocell (c:=l) hlx (r.vars.cell y l (z ▸ hy))
 have newv:∀b y,(∃o,h.get? b=some o)→S.v b=none→S'.v b=some y→False:=λb y ho hv z=>by
  have hs:=nwE b ho (Sh.has_v z)
  have e1:=e.st.dis _ _ z
  rcases hs with hs|hs
  ·obtain⟨x',hx'⟩:=Option.ne_none_iff_exists'.mp hs
   rw[e.le.o _ _ hx']at e1;cases e1
  ·exact hs hv
 refine⟨⟨le,sin,gin,λb hb hs=>nwE b (In.get r.kp hb) hs⟩,⟨sin,gin,λa y z=>e.le.o _ _ (r.base a y z),r.vars.keeps λb hb o ho=>keep b o (visl b hb) (r.vis b hb) ho,λd y z=>e.le.v _ _ (r.gS d y z),λd y z=>?_,λb hb=>?_,λb hb=>?_,cD r.known ⟨_,hm⟩,?_,r.gho⟩⟩
 ·cases zz:g.o d with
  |none=>rfl
  |some o=>
   exfalso
   refine newv d y ⟨o,r.kp.o _ _ zz⟩ ?_ z
   cases z':S.v d with
   |none=>rfl
   |some y'=>have:=r.gd _ _ z';rw[zz]at this;cases this
 ·show S'.v b=none
  cases z:S'.v b with
  |none=>rfl
  |some y=>exact(newv b y (r.visHas hb) (r.vis b hb) z).elim
 ·obtain⟨⟨o,ho⟩,c2,c3⟩:=r.priv b hb
  exact⟨⟨o,keep b o (λz=>npl (z ▸ hb)) (Sh.not_v c2) ho⟩,λz=>c2 (nwE b ⟨o,ho⟩ z),c3⟩
 ·have sl:∀i u b,Slot m (σ.set x (.ol c')) (some (v,a)) i u b→(i=none∧v=u∧a=b)∨(i≠none∧i=some x∧u= .ref l∧b= .ol c')∨(i≠none∧i≠some x∧Slot m σ none i u b):=λi u b y=>by
   rcases slot_none y with⟨h1,h2,h3⟩|⟨h1,y⟩
   ·exact .inl ⟨h1,h2.symm,h3.symm⟩
   ·rcases set_slot hx hm y with⟨rfl,h2,h3⟩|⟨p1,p2⟩
    ·exact .inr (.inl ⟨h1,rfl,h2,h3⟩)
    ·exact .inr (.inr ⟨h1,p1,p2⟩)
  refine⟨λi=>if i=none then fc none else if i=some x then[l]else fp i,λi u b y=>?_,λi j u b u' b' n y z d hd=>?_⟩
  ·rcases sl i u b y with⟨rfl,rfl,rfl⟩|⟨q0,rfl,rfl,rfl⟩|⟨q0,q1,q2⟩
   ·simp only[if_true]
    refine⟨okr',λd hd=>⟨(cr d hd).1,λz=>?_,λz=>?_⟩⟩
    ·obtain⟨o,ho⟩:=In.get r.kp z;rw[frR d hd]at ho;cases ho
    ·obtain⟨o,ho⟩:=(r.priv d z).1;rw[frR d hd]at ho;cases ho
   ·simp only[if_neg q0,if_true]
    refine⟨.ol hl' ra'',λd hd=>?_⟩
    rw[List.mem_singleton.mp hd];exact⟨nS'l,ngl,npl⟩
   ·simp only[if_neg q0,if_neg q1]
    obtain⟨q3,c3⟩:=a1 i u b q2
    have dl:∀d∈fp i,d≠l:=λd hd z=>a2 i (some x) _ _ _ _ q1 q2 ⟨hx,hm⟩ d hd (z ▸ hlx)
    refine⟨q3.keeps le λd hd o ho=>keep d o (dl d hd) (Sh.not_v (c3 d hd).1) ho,λd hd=>⟨λz=>(c3 d hd).1 (nwE d (q3.get d hd) z),(c3 d hd).2⟩⟩
  ·have old:∀i u b,Slot m σ none i u b→i≠some x→∀d∈fp i,d≠l∧∃o,h.get? d=some o:=λi u b y hi d hd=>⟨λz=>a2 i (some x) _ _ _ _ hi y ⟨hx,hm⟩ d hd (z ▸ hlx),(a1 i u b y).1.get d hd⟩
   have rl:∀d'∈fc none,d'≠l:=λd' hd' z=>by
    have:=b2 none (some (ghost 0)) _ _ _ _ (by simp) rfl ⟨hg,hg0⟩ d' hd'
    rw[z]at this
    exact this hlg
   rcases sl i u b y with⟨rfl,rfl,rfl⟩|⟨q0,rfl,rfl,rfl⟩|⟨q0,q1,q2⟩
   ·simp only[if_true]at hd
    rcases sl j u' b' z with⟨rfl,rfl,rfl⟩|⟨p0,rfl,rfl,rfl⟩|⟨p0,p1,p2⟩
    ·exact absurd rfl n
    ·simp only[if_neg p0,if_true];exact λzz=>rl d hd (List.mem_singleton.mp zz)
    ·simp only[if_neg p0,if_neg p1]
     intro zz
     obtain⟨_,o,ho⟩:=old j u' b' p2 p1 d zz
     rw[frR d hd]at ho;cases ho
   ·simp only[if_neg q0,if_true]at hd
    have hd:=(List.mem_singleton.mp hd).symm
    subst hd
    rcases sl j u' b' z with⟨rfl,rfl,rfl⟩|⟨p0,rfl,rfl,rfl⟩|⟨p0,p1,p2⟩
    ·simp only[if_true];exact λzz=>rl _ zz rfl
    ·exact absurd rfl n
    ·simp only[if_neg p0,if_neg p1];exact λzz=>(old j u' b' p2 p1 _ zz).1 rfl
   ·simp only[if_neg q0,if_neg q1]at hd
    obtain⟨dl,o,ho⟩:=old i u b q2 q1 d hd
    rcases sl j u' b' z with⟨rfl,rfl,rfl⟩|⟨p0,rfl,rfl,rfl⟩|⟨p0,p1,p2⟩
    ·simp only[if_true];intro zz;rw[frR d zz]at ho;cases ho
    ·simp only[if_neg p0,if_true];exact λzz=>dl (List.mem_singleton.mp zz)
    ·simp only[if_neg p0,if_neg p1];exact a2 i j u b u' b' n q2 p2 d hd
end
variable{ZV:Program}{w:World}{C:Addr}{hb:Heap}{ZU:Env}{pv:List Addr}{S g:Sh}{m:Str→Option Value}{σ ZZ ZY ZX:Loc}{ρ:Option (Value×V)}{h:Heap}{n:Nat}{K:Frag}{mg mb:Str→Option Value}{fI:Addr}
noncomputable def EQ(ZV:Program)(w:World)(C:Addr)(hb:Heap)(n:Nat)(fd:FuncData)(names:List Str)(body:List Stmt)(ts c:List T)(o:O):Prop:=
 ∀(ZU:Env)(pv:List Addr),ZU.scope=fd.scope→EnvOk ZU pv→(∀x c,ZU.cells.lookup x=some c→c∈pv)→ExJ ZV w C hb n ZU pv body (names.zip (ts.map V.f) ++ [(ghost 0,.ol c)]) o
theorem ie{α:Type}:∀(xs ys:List (Str×α))(x:Str),(xs ++ ys).lookup x=(xs.lookup x).or (ys.lookup x)
 |[],ys,x=>by simp
 |(z,d) ::r,ys,x=>by
  simp only[List.cons_append,List.lookup_cons]
  split
  ·simp
  ·exact ie r ys x
section
variable{cenv:Env}{cpv:List Addr}{h₁:Heap}
theorem xA{l:Addr}{qq:Nat→Addr}(st:S.In w h):(cM S h l qq).In w h:=by
 have cin:=aJ st
 refine⟨λa x e=>?_,cin.v,λd x e=>?_⟩
 ·unfold cM at e;simp only at e
  split at e
  ·cases e
  ·exact cin.o a x e
 ·unfold cM;simp only
  split
  ·rfl
  ·exact cin.dis d x e
theorem lq{names:List Str}{vs us:List Value}{ts c:List T}{l:Addr}{nn:Nat}{qq:Nat→Addr}(st:S.In w h)(base:∀a x,hb.get? a=some x→S.o a=some x)(hlo:h.get? l=some (lO us nn))(rac:RA ZV w C (S.rq qq) us c)(nSl:¬ S.has l)(hq0:qq 0=l)
  (q:RA ZV w C (S.rq qq) vs ts) (hl:names.length=vs.length) (gn:∀i,ghost i∉names) (kp:∀b o,h.get? b=some o→h₁.get? b=some o) (va:VarsAt cenv h₁ (λx=>((names.zip vs).lookup x).or (fm qq x)))
  (vis:∀b,(b=cenv.locals∨∃x,cenv.cells.lookup x=some b)→S.v b=none) (pvn:∀b∈cpv,h.get? b=none∧∃o,h₁.get? b=some o) :
  Rel ZV w C hb cenv cpv (S.rq qq) (cM S h l qq) (λx=>((names.zip vs).lookup x).or (fm qq x)) (names.zip (ts.map V.f) ++ [(ghost 0,.ol c)]) none h₁:=by
 have keys:=cO hl
 have lin:(cM S h l qq).In w h:=xA st
 have ng0:∀i,(names.zip vs).lookup (ghost i)=none:=λi=>by
  cases z:(names.zip vs).lookup (ghost i)with
  |none=>rfl
  |some u=>exact absurd (by rw[←keys];exact List.mem_map_of_mem (f:=(·.1)) (mem_of_lookup z)) (gn i)
 refine⟨⟨λa x e=>kp _ _ (st.o a x e),λd x e=>(st.v d x e).keeps (kp d),st.dis⟩,⟨λa x e=>kp _ _ (lin.o a x e),λd x e=>(lin.v d x e).keeps (kp d),lin.dis⟩,base,va,λd x e=>e,λd x e=>lin.dis d x e,vis,λb hb=>?_,λx a e=>?_,?_,λi=>?_⟩
 ·obtain⟨h1,h2⟩:=pvn b hb
  refine⟨h2,λz=>?_,λz=>?_⟩
  ·obtain⟨o,ho⟩:=In.get st z;rw[h1]at ho;cases ho
  ·obtain⟨o,ho⟩:=In.get lin z;rw[h1]at ho;cases ho
 ·rw[ie]at e
  cases z:(names.zip (ts.map V.f)).lookup x with
  |some a1=>
   obtain⟨v,t,hv,_,_⟩:=dY q z
   exact⟨v,by rw[hv];rfl⟩
  |none=>
   rw[z]at e
   by_cases hx':x=ghost 0
   ·subst hx'
    exact⟨_,by rw[ng0];exact cL qq 0⟩
   ·have:(x == ghost 0)=false:=by simpa using hx'
    simp[List.lookup_cons,this]at e
 ·refine⟨λi=>if i=some (ghost 0)then[l]else[],λi v b x=>?_,λi j v b v' b' hn x y d hd=>?_⟩
  ·cases i with
   |none=>simp only[Slot]at x;cases x
   |some y=>
    obtain⟨x1,x2⟩:=x
    have x2:(List.lookup y (names.zip vs)).or (fm qq y)=some v:=x2
    rw[ie]at x1
    by_cases hy:y=ghost 0
    ·subst hy
     simp only[if_true]
     have zt:(names.zip (ts.map V.f)).lookup (ghost 0)=none:=by
      cases z:(names.zip (ts.map V.f)).lookup (ghost 0)with
      |none=>rfl
      |some u=>obtain⟨v',t,hv,_⟩:=dY q z;rw[ng0]at hv;cases hv
     rw[zt]at x1
     rw[ng0,Option.none_or,cL,hq0]at x2
     simp[List.lookup_cons]at x1
     subst x1
     cases x2
     refine⟨.ol (kp _ _ hlo) rac,λd hd=>?_⟩
     rw[List.mem_singleton.mp hd]
     refine⟨nSl,λz=>?_,λz=>?_⟩
     ·rcases z with z|z
      ·apply z;simp[cM]
      ·exact nSl (.inr z)
     ·obtain⟨h1,_⟩:=pvn l z;rw[hlo]at h1;cases h1
    ·have hyn:(some y:Option Str)≠some (ghost 0):=by simpa using hy
     simp only[if_neg hyn]
     cases z:(names.zip (ts.map V.f)).lookup y with
     |none=>
      rw[z]at x1
      have:(y == ghost 0)=false:=by simpa using hy
      simp[List.lookup_cons,this]at x1
     |some a1=>
      obtain⟨v',t,hv,rfl,hr⟩:=dY q z
      rw[z]at x1
      rw[hv]at x2
      simp only[Option.some_or,Option.some.injEq]at x1 x2
      subst x1;subst x2
      exact⟨.f hr,λb hb=>nomatch hb⟩
  ·by_cases hi:i=some (ghost 0)
   ·have hj:j≠some (ghost 0):=λe=>hn (hi.trans e.symm)
    simp only[if_neg hj];exact λz=>nomatch z
   ·simp only[if_neg hi]at hd;cases hd
 ·simp only[ng0,Option.none_or]
  exact cL qq i
end
theorem gj{f:Addr}{fd:FuncData}{names:List Str}{body:List Stmt}{ts:List T}{x₀:Str}{c:List T}{l:Addr}{qq:Nat→Addr}(gl:Gl K C fI mg mb hb)(F:FnAt hb f fd names body)(hl:ts.length=names.length)
  {A:Around} {E:Value→Shared→Prop} {s:Shared} {vs vs₀:List Value} {Q:Value→Shared→Prop} (rm:Rm (n+1) A) (ok:EnvOk ZU pv) (r:Rel ZV w C hb ZU pv S g m σ none s.heap)
  (hx:σ.lookup x₀=some (.ol c)) (hm:m x₀=some (.ref l)) (hq0:qq 0=l) (ncc:T.noqs c=true)
  (bnd:BindsTo s fd ⟨vs₀,[]⟩ (names.zip vs)) (q:RA ZV w C (S.rq qq) vs ts)
  (k:∀cpv h₁ tk m₁,EnvOk (callEnvC fd s.heap.objs.size f) cpv→(∀x c,(callEnvC fd s.heap.objs.size f).cells.lookup x=some c→c∈cpv)→Rm n (A.deeper (callEnvC fd s.heap.objs.size f))→
   Rel ZV w C hb (callEnvC fd s.heap.objs.size f) cpv (S.rq qq) (cM S s.heap l qq) m₁ (names.zip (ts.map V.f) ++ [(ghost 0,.ol c)]) none h₁→
   wpAny (model ZV w) (A.deeper (callEnvC fd s.heap.objs.size f)) (execs body (callEnvC fd s.heap.objs.size f)) (λfl s'=>Q (match fl with|.ret v=>v|_=>.none) s')
    (λe s'=>wpAny (model ZV w) (A.deeper (callEnvC fd s.heap.objs.size f)) (leaving (callEnvC fd s.heap.objs.size f) e) (λ_ s''=>E e s'') (λe' s''=>E e' s'') s') {s with heap:=h₁,toks:=tk}) :
  wpAny (model ZV w) A (call (.ref f) vs₀) Q E s:=by
 obtain⟨vl,fpl,hml,okl,cl⟩:=r.own hx
 rw[hm]at hml;cases hml
 have okl':fpl=[l]∧∃us nn,s.heap.get? l=some (lO us nn)∧RA ZV w C S us c:=by
  cases okl using VOk.olE with|ol e ra=>exact⟨rfl,_,_,e,ra⟩
 obtain⟨rfl,us,nn,hlo,rac⟩:=okl'
 obtain⟨nSl,ngl,npl⟩:=cl l (.head _)
 obtain⟨ob,hob,hd⟩:=F.obj
 have hlv:names.length=vs.length:=by rw[q.length,hl]
 refine wpAny_call (bZ (binds:=names.zip vs) (by have:=rm.dp;clear gl F bnd r k;(apply oI;assumption)) (r.hbIn _ _ hob) hd (gl.lim.keeps r.hbIn) (F.cd.keeps r.hbIn) F.body bnd F.clo (λx hx=>?_) (λs₁ ic=>?_) F.co F.gen F.kind)
 ·have:x.1∈names:=by rw[←cO hlv];exact List.mem_map_of_mem hx
  exact(F.par _ this).imp id λe=>⟨e,cellsFrom_some _ _ _ (.inl e)⟩
 ·obtain⟨h₁,tk,rfl⟩:=ic.toInCall.same
  obtain⟨cok,va,pvn,inpv,_⟩:=hG F hlv qq ic
  exact k _ h₁ tk _ cok inpv (rm.deep _) (lq r.st r.base hlo (rac.rq ncc) nSl hq0 q hlv F.noGhost ic.toInCall.keep va (vI r.st pvn (.head _) inpv) pvn)
theorem eJ{f:Addr}{fd:FuncData}{names:List Str}{body:List Stmt}{ts:List T}{o:O}{x₀:Str}{c c':List T}{l:Addr}{qq:Nat→Addr}(gl:Gl K C fI mg mb hb)(F:FnAt hb f fd names body)(hl:ts.length=names.length)
  (B:EQ ZV w C hb n fd names body ts c o) {a:V} {σ':Loc} (ho:(o= .rt a σ')∨(o= .nx σ'∧a= .f .none)) (hg:σ'.lookup (ghost 0)=some (.ol c')) (tv:qq=S.q∨(a.noq=true∧T.noqs c'=true))
  {A:Around} {E:Value→Shared→Prop} {s:Shared} {vs vs₀:List Value} {Q:Value→Shared→Prop} (rm:Rm (n+1) A) (ok:EnvOk ZU pv) (r:Rel ZV w C hb ZU pv S g m σ none s.heap)
  (hx:σ.lookup x₀=some (.ol c)) (hm:m x₀=some (.ref l)) (hq0:qq 0=l) (ncc:T.noqs c=true)
  (bnd:BindsTo s fd ⟨vs₀,[]⟩ (names.zip vs)) (q:RA ZV w C (S.rq qq) vs ts) (k:∀S' h' tk v,Ext w S g S' h'→Rel ZV w C hb ZU pv S' g m (σ.set x₀ (.ol c')) (some (v,a)) h'→Q v {s with heap:=h',toks:=tk}):wpAny (model ZV w) A (call (.ref f) vs₀) Q E s:=by
 refine gj gl F hl rm ok r hx hm hq0 ncc bnd q λcpv h₁ tk m₁ cok cc rm₁ r₁=>B _ _ rfl cok cc _ _ (S.rq qq) (cM S s.heap l qq) _ _ _ rm₁ cok r₁ ?_
 rcases ho with rfl|⟨rfl,rfl⟩
 ·intro S' h' tk' v m' e r₂
  obtain⟨e',r'⟩:=r.back ok.loc hx hm e r₂ hg hq0 tv
  exact k _ h' tk' v e' r'
 ·intro S' h' tk' m' e r₂
  obtain⟨e',r'⟩:=r.back (v:=.none) (a:=.f .none) ok.loc hx hm e (r₂.res .none) hg hq0 tv
  exact k _ h' tk' .none e' r'
noncomputable def iz:List Int→Int→Int
 |[],m=>m
 |a ::as,m=>iz as (if a > m then a else m)
noncomputable def oQ(a:Str):List Str→List (List Str)
 |[]=>[[a]]
 |b ::l=>(a ::b ::l) ::(oQ a l).map (b ::·)
noncomputable def pN:List Str→List (List Str)
 |[]=>[[]]
 |a ::l=>(pN l).flatMap (oQ a)
noncomputable def kH(ks:List Str):Option (List Str):=match (pN ks).filter sortedS with
 |[]=>none
 |x ::r=>gd (r.all (·== x) && decide (ks.length < 64)) (some x)
noncomputable def IK:T→Option Nat
 |.list xs=>some xs.length
 |.tup xs=>some xs.length
 |.str x=>some x.length
 |.dict ks _=>some ks.length
 |_=>none
noncomputable def Do:T→Option V
 |.list xs=>gd (ag xs.length) (some (.ol xs))
 |.dict ks _=>gd (ag ks.length) (some (.ol (ks.map .str)))
 |_=>none
noncomputable def Ff(t:T):Option V:=t.list?.bind λxs=>(j2 xs).bind λis=>match is with
 |[]=>none
 |a ::as=>some (.f (.int (iz as a)))
noncomputable def ED:T→Option V
 |.dict ks _=>(kH ks).map λout=>.ol (out.map .str)
 |_=>none
noncomputable def uD(f:Str)(t:T):Option V:=
  if f="len" then(IK t).bind λn=>gd (decide (n < 16777216)) (some (.f (.int n)))
  else if f="abs" then t.int?.map λi=>.f (.int (if i < 0 then -i else i))
  else if f="str" then t.int?.bind λi=>gd (decide (i.natAbs.log2 < 1920)) (some (.f (.str (toString i))))
  else if f="list" then Do t
  else if f="max" then Ff t
  else if f="sorted" then ED t
  else none
noncomputable def f8(f:Str):List T→Option V
 |[t]=>uD f t
 |[a,b]=>if f="max" then a.int?.bind λa=>b.int?.bind λb=>some (.f (.int (if b > a then b else a)))
  else if f="Vector" then some (.ov a b .none)else none
 |[a,b,c]=>if f="Vector" then some (.ov a b c)else none
 |_=>none
theorem pd:∀(as:List Int)(m:Int),m≤iz as m∧(∀a∈as,a≤iz as m)∧(iz as m=m∨iz as m∈as)
 |[],m=>⟨Int.le_refl _,λa h=>absurd h List.not_mem_nil,.inl rfl⟩
 |b ::as,m=>by
  obtain⟨h1,h2,h3⟩:=pd as (if b > m then b else m)
  unfold iz
  have e:m≤(if b > m then b else m)∧b≤(if b > m then b else m):=if h:b > m then by rw[if_pos h];exact⟨Int.le_of_lt h,Int.le_refl _⟩else by rw[if_neg h];exact⟨Int.le_refl _,Int.not_lt.mp h⟩
  refine⟨Int.le_trans e.1 h1,λa ha=>?_,?_⟩
  ·rcases List.mem_cons.mp ha with rfl|ha
   ·exact Int.le_trans e.2 h1
   ·exact h2 a ha
  ·rcases h3 with h3|h3
   ·rw[h3];split
    ·exact .inr (.head _)
    ·exact .inl rfl
   ·exact .inr (.tail _ h3)
theorem g3(a:Str)(t:List Str):∀s:List Str,s ++ a ::t∈oQ a (s ++ t)
 |[]=>by cases t<;>exact .head _
 |b ::s=>.tail _ (List.mem_map_of_mem (f:=(b ::·)) (g3 a t s))
theorem j3:∀{ks ss:List Str},ss.Perm ks→ss∈pN ks
 |[],ss,h=>by rw[h.eq_nil];exact .head _
 |a ::l,ss,h=>by
  obtain⟨s,t,rfl⟩:=List.append_of_mem (h.mem_iff.mpr (.head _))
  exact List.mem_flatMap.mpr ⟨s ++ t,j3 (List.Perm.cons_inv (List.perm_middle.symm.trans h)),g3 a t s⟩
theorem jy{ks out:List Str}(h:kH ks=some out):ks.length < 64∧∀ss:List Str,ss.Perm ks→sortedS ss=true→ss=out:=by
 unfold kH at h
 cases hf:(pN ks).filter sortedS with
 |nil=>rw[hf]at h;cases h
 |cons x r=>
  rw[hf]at h
  refine ar h λhc h=>?_
  cases (h)
  refine⟨de (an hc).2,λss hp hs=>?_⟩
  have:ss∈out ::r:=by rw[←hf];exact List.mem_filter.mpr ⟨j3 hp,hs⟩
  rcases List.mem_cons.mp this with e|m
  ·exact e
  ·exact beq_iff_eq.mp (List.all_eq_true.mp (an hc).1 ss m)
structure Nm2(mg mb:Str→Option Value):Prop where
 abs:GV mg mb "abs" (.builtin "abs")
 str:GV mg mb "str" (.type "str")
 max:GV mg mb "max" (.builtin "max")
 sorted:GV mg mb "sorted" (.builtin "sorted")
section
variable{ZV:Program}{w:World}{C:Addr}{hb:Heap}{ZU:Env}{pv:List Addr}{n:Nat}{K:Frag}{mg mb:Str→Option Value}{fI:Addr}{Z:Orc}
theorem CallJ.up{f:Value}{ts:List T}{a:V}(h:CallJ ZV w C hb n f ts a):CallJ ZV w C hb (n+1) f ts a:=λZU pv A E S g m σ s vs Q rm=>h ZU pv A E S g m σ s vs Q (rm.le (Nat.le_succ n))
theorem LendJ.up{f:Value}{ts c c':List T}{a:V}(h:LendJ ZV w C hb n f ts c a c'):LendJ ZV w C hb (n+1) f ts c a c':=λZU pv A E S g m σ s vs Q x l rm=>h ZU pv A E S g m σ s vs Q x l (rm.le (Nat.le_succ n))
theorem CloJ.up{b:Bool}{ts c c':List T}{a:V}(h:CloJ ZV w C hb n b ts c a c'):CloJ ZV w C hb (n+1) b ts c a c':=λZU pv A E S g m σ s vs Q f rm=>h ZU pv A E S g m σ s vs Q f (rm.le (Nat.le_succ n))
theorem OrcOk.up(z:OrcOk ZV w C hb mg mb n Z):OrcOk ZV w C hb mg mb (n+1) Z:=
 ⟨λf ts a q=>let⟨fv,g,k,c⟩:=z.phi f ts a q;⟨fv,g,k,c.up⟩,λf ψ ts c r h q=>let⟨fv,g,k,c⟩:=z.psi f ψ ts c r h q;⟨fv,g,k,c.up⟩,λb ts c r q=>(z.the b ts c r q).up⟩
noncomputable def Orc.add(Z:Orc)(f:Str)(φ:List T→Option V):Orc:={Z with Φ:=λg ts=>if g=f then φ ts else Z.Φ g ts}
theorem OrcOk.add{f:Str}{φ:List T→Option V}(z:OrcOk ZV w C hb mg mb n Z)(h:∀ts a,φ ts=some a→∃fv,GV mg mb f fv∧bq ZV w hb fv∧CallJ ZV w C hb n fv ts a):OrcOk ZV w C hb mg mb n (Z.add f φ):=
 ⟨λg ts a q=>by
  have q2:(if g=f then φ ts else Z.Φ g ts)=some a:=q
  split at q2
  ·rename_i e;subst e;exact h ts a q2
  ·exact z.phi g ts a q2,z.psi,z.the⟩
noncomputable def B0:Orc:=⟨f8,λ_=>none,λ_ _ _=>none,λ_=>true⟩
theorem FB{f:Str}{t:T}{a:V}(nm:Nm mg mb C)(nm2:Nm2 mg mb)(q:uD f t=some a):∃fv,GV mg mb f fv∧bq ZV w hb fv∧CallJ ZV w C hb n fv [t] a:=by
 refine cy q ?_ ?_<;>clear q<;>intro hf q
 ·subst hf
  refine⟨_,nm.len,aM,al q λk hk q=>ar q λhc q=>?_⟩
  cases q
  cases t with
  |list=>cases hk;exact(nj (de hc)).call
  |tup=>cases hk;exact(rH (de hc)).call
  |str=>cases hk;exact(sy (de hc)).call
  |dict=>cases hk;exact(oM (de hc)).call
  |_=>cases hk
 refine cy q ?_ ?_<;>clear q<;>intro hf q
 ·subst hf
  exact⟨_,nm2.abs,aM,bj q λi hi q=>by rw[bu hi];subst q;exact DA.call⟩
 refine cy q ?_ ?_<;>clear q<;>intro hf q
 ·subst hf
  exact⟨_,nm2.str,bN,al q λi hi q=>ar q λhc q=>by rw[bu hi];cases q;exact(se (de hc)).call⟩
 refine cy q ?_ ?_<;>clear q<;>intro hf q
 ·subst hf
  refine⟨_,nm.list,bN,?_⟩
  cases t with
  |list=>exact ar q λhc q=>by cases q;exact mP (aI hc)
  |dict=>exact ar q λhc q=>by cases q;exact m5 (aI hc)
  |_=>cases q
 refine cy q ?_ ?_<;>clear q<;>intro hf q
 ·subst hf
  refine⟨_,nm2.max,aM,al q λxs hx q=>al q λis hi q=>?_⟩
  rw[f0 hx,uW hi]
  cases is with
  |nil=>cases q
  |cons a as=>
   cases q
   obtain⟨h1,h2,h3⟩:=pd as a
   refine Cf ⟨?_,λb hb=>?_⟩
   ·rcases h3 with h3|h3
    ·rw[h3];exact .head _
    ·exact .tail _ h3
   ·rcases List.mem_cons.mp hb with rfl|hb
    ·exact h1
    ·exact h2 b hb
 refine cy q ?_ ?_<;>clear q<;>intro hf q
 ·subst hf
  refine⟨_,nm2.sorted,aM,?_⟩
  cases t with
  |dict=>exact bj q λout ho q=>by subst q;exact jh (jy ho).1 (jy ho).2
  |_=>cases q
 cases q
theorem wO(gl:Gl K C fI mg mb hb)(nm:Nm mg mb C)(nm2:Nm2 mg mb)(cls:bq ZV w hb (.ref C))(ini:∃fd,InitOk K hb fI fd):OrcOk ZV w C hb mg mb (n+1) B0:=by
 refine⟨λf ts a q=>?_,λf ψ ts c r h=>(nomatch h),λb ts c r q=>(nomatch q)⟩
 obtain⟨fd,ini⟩:=ini
 cases ts with
 |nil=>cases q
 |cons t ts=>
  cases ts with
  |nil=>exact FB nm nm2 q
  |cons u ts=>
   cases ts with
   |nil=>
    refine cy q ?_ ?_<;>clear q<;>intro hf q
    ·subst hf
     exact⟨_,nm2.max,aM,al q λi hi q=>al q λj hj q=>by rw[bu hi,bu hj];cases q;exact AR⟩
    refine cy q ?_ ?_<;>clear q<;>intro hf q
    ·subst hf;cases q
     exact⟨_,nm.vec,cls,rZ gl ini⟩
    cases q
   |cons v ts=>
    cases ts with
    |nil=>
     refine cy q ?_ ?_<;>clear q<;>intro hf q
     ·subst hf;cases q
      exact⟨_,nm.vec,cls,rz gl ini⟩
     cases q
    |cons _ _=>cases q
structure Fn where
 names:List Str
 dflt:List T
 kd:Kd
 body:List Stmt
noncomputable def bL(F:Fn)(ts:List T):Option (List T):=gd (decide (ts.length≤F.names.length) && decide (F.names.length≤ts.length+F.dflt.length)) (some (ts ++ F.dflt.drop (F.dflt.length - (F.names.length - ts.length))))
noncomputable def uz:O→Option V
 |.rt a _=>some a
 |.nx _=>some (.f .none)
 |_=>none
noncomputable def m0(Z:Orc)(W k:Nat)(F:Fn)(ts:List T):Option V:=(bL F ts).bind λus=>(exs (Ev.at Z W k) F.kd F.body (F.names.zip (us.map V.f))).bind uz
structure FnDef(ZV:Program)(w:World)(C:Addr)(K:Frag)(hb:Heap)(f:Addr)(fd:FuncData)(F:Fn)(dv:List Value):Prop where
 at_:FnAt hb f fd F.names F.body
 kd:∀x,fd.scope.names.lookup x=F.kd x
 dvR:∀S,RA ZV w C S dv F.dflt
 bind:∀vs:List Value,vs.length≤F.names.length→F.names.length≤vs.length+dv.length→∀S,peek K S (bindArgs fd ⟨vs,[]⟩)=some (F.names.zip (vs ++ dv.drop (dv.length - (F.names.length - vs.length))))
theorem RA.drop{S:Sh}{vs:List Value}{ts:List T}(h:RA ZV w C S vs ts):∀k,RA ZV w C S (vs.drop k) (ts.drop k):=by
 induction vs generalizing ts with
 |nil=>cases h;intro k;simpa using RA.nil
 |cons v vs ih=>
  cases h with
  |cons a b=>
   intro k
   cases k with
   |zero=>exact .cons a b
   |succ k=>simpa using ih b k
theorem kg{α:Type}{ts d:List α}{n:Nat}(h1:ts.length≤n)(h2:n≤ts.length+d.length):(ts ++ d.drop (d.length - (n - ts.length))).length=n:=by
 rw[List.length_append,List.length_drop,Nat.sub_sub_self (Nat.sub_le_iff_le_add'.mpr h2),Nat.add_sub_cancel' h1]
theorem qR{f:Addr}{fd:FuncData}{F:Fn}{dv:List Value}{W k:Nat}{ts:List T}{a:V}(gl:Gl K C fI mg mb hb)(nm:Nm mg mb C)(z:OrcOk ZV w C hb mg mb n Z)(D:FnDef ZV w C K hb f fd F dv)(q:m0 Z W k F ts=some a):CallJ ZV w C hb (n+1) (.ref f) ts a:=al q λus hu q=>ar hu λhl hu=>al q λo ho hr=>by
 cases hu
 have h1:=de (an hl).1
 have h2:=de (an hl).2
 have hk:((∃a σ,o= .rt a σ)∨∃σ,o= .nx σ)∧o.back=a:=by
  cases o with
  |rt a σ=>cases hr;exact⟨.inl ⟨_,_,rfl⟩,rfl⟩
  |nx σ=>cases hr;exact⟨.inr ⟨_,rfl⟩,rfl⟩
  |_=>cases hr
 rw[←hk.2]
 intro ZU pv A E S g m σ s vs Q rm ok r q k'
 have hlen:=q.length
 have hdl:=(D.dvR S).length
 refine nC gl D.at_ (ts:=ts ++ F.dflt.drop (F.dflt.length - (F.names.length - ts.length))) (kg h1 h2) (λenv' pv' hs ok' hc=>?_) hk.1 rm ok r (kp_binds (gl.kin.keeps r.hbIn) (D.bind vs (hlen ▸ h1) (by rw[hlen,hdl];exact h2))) ?_ k'
 ·refine kj (bx (W:=W) gl nm z k).2.2 (λx=>?_) ok' (λx c _ h=>hc x c h) ho
  rw[←D.kd,←hs];rfl
 ·refine q.append ?_
  rw[hdl,hlen]
  exact(D.dvR S).drop _
noncomputable def iQ(ZV:Program)(w:World)(C:Addr)(K:Frag)(hb:Heap)(mg mb:Str→Option Value)(f:Str)(F:Fn):Prop:=∃a fd dv,GV mg mb f (.ref a)∧FnDef ZV w C K hb a fd F dv
theorem OrcOk.run{f:Str}{F:Fn}{φ:List T→Option V}{W k:Nat}(z:OrcOk ZV w C hb mg mb n Z)(gl:Gl K C fI mg mb hb)(nm:Nm mg mb C)(kn:iQ ZV w C K hb mg mb f F)(h:∀ts a,φ ts=some a→m0 Z W k F ts=some a):OrcOk ZV w C hb mg mb (n+1) (Z.add f φ):=
 z.up.add λts a q=>by
  obtain⟨l,fd,dv,g,D⟩:=kn
  obtain⟨o,ho,hd⟩:=D.at_.obj
  exact⟨_,g,lG ho hd,qR gl nm z D (h ts a q)⟩
theorem vN{f:Addr}{fd:FuncData}{F:Fn}{W k:Nat}{ts c c':List T}{a:V}(gl:Gl K C fI mg mb hb)(nm:Nm mg mb C)(z:OrcOk ZV w C hb mg mb n Z)(D:FnDef ZV w C K hb f fd F [])(hl:F.names.length=ts.length+1)(hd:F.dflt=[])
  (n1:T.noqs ts=true) (n2:T.noqs c=true) (n3:a.noq=true) (n4:T.noqs c'=true)
  (h:∀l,∃σ',exs (Ev.at Z W k) F.kd F.body (F.names.zip ((T.opq 0 l ::ts).map V.f) ++ [(ghost 0,.ol c)])=some (.rt a σ')∧σ'.lookup (ghost 0)=some (.ol c')):LendJ ZV w C hb (n+1) (.ref f) ts c a c':=λZU pv A E S g m σ s vs Q x l rm ok r hx hm q k'=>by
 obtain⟨σ',ho,hg⟩:=h l
 have hlen:=q.length
 refine eJ (ts:=T.opq 0 l ::ts) (vs:=.ref l ::vs) (qq:=λi=>if i=0 then l else S.q i) gl D.at_ (by simp[hl]) (λenv' pv' hs ok' hc=>?_) (.inl rfl) hg (.inr ⟨n3,n4⟩) rm ok r hx hm (if_pos rfl) n2 ?_ ?_ k'
 ·refine kj (bx (W:=W) gl nm z k).2.2 (λx=>?_) ok' (λx c _ h=>hc x c h) ho
  rw[←D.kd,←hs];rfl
 ·have:=D.bind (.ref l ::vs) (Nat.le_of_eq ((congrArg (·+1) hlen).trans hl.symm)) (Nat.le_of_eq (hl.trans (congrArg (·+1) hlen.symm)))
  simp only[List.drop_nil,List.append_nil]at this
  exact kp_binds (gl.kin.keeps r.hbIn) this
 ·exact .cons (.opq 0 (show(if(0:Nat)=0 then l else S.q 0)=l from if_pos rfl)) (q.rq n1)
end
end
section
noncomputable def M3:Expr→T
 |.Constant (.bool b) _ _=>.bool b
 |.Constant (.int i) _ _=>.int i
 |_=>.none
noncomputable def bo(i:Nat):Fn:=match zE i with
 |.FunctionDef _ a b _ _ _ sc _ _ _=>⟨a.args.map (·.arg),a.defaults.map M3,λx=>sc.names.lookup x,b⟩
 |_=>⟨[],[],λ_=>none,[]⟩
noncomputable def By(s:Stmt):Bool:=match s with
 |.FunctionDef _ a _ _ _ _ sc _ _ _=>!sc.isCoroutine && (!sc.isGenerator && (decide (sc.kind= .function) && (decide (sc.names.map (·.1)).Nodup && (decide (a.args.map (·.arg)).Nodup && (sc.names.all (λy=>y.1.cps.size != 41) && (sc.names.all (λy=>y.2 != .free) && a.args.all (λp=>sc.names.lookup p.arg == some .local||sc.names.lookup p.arg == some .cell)))))))
 |_=>false
theorem GE{α:Type}{vs:List α}(h:vs.length=0):vs=[]:=List.eq_nil_of_length_eq_zero h
theorem rC{α:Type}{n:Nat}{vs:List α}(h:vs.length=n+1):∃a r,vs=a ::r∧r.length=n:=by
 cases vs with
 |nil=>cases h
 |cons a r=>exact⟨a,r,rfl,Nat.succ.inj h⟩
theorem len1{α:Type}{vs:List α}(h:vs.length=1):∃a,vs=[a]:=by
 obtain⟨a,r,rfl,g⟩:=rC h
 exact⟨a,by rw[GE g]⟩
theorem wa{α:Type}{vs:List α}(h:vs.length=2):∃a b,vs=[a,b]:=by
 obtain⟨a,r,rfl,g⟩:=rC h
 obtain⟨b,rfl⟩:=len1 g
 exact⟨_,_,rfl⟩
theorem Bm{α:Type}{vs:List α}(h:vs.length=3):∃a b c,vs=[a,b,c]:=by
 obtain⟨a,r,rfl,g⟩:=rC h
 obtain⟨b,c,rfl⟩:=wa g
 exact⟨_,_,_,rfl⟩
theorem Df{α:Type}{vs:List α}(h:vs.length=4):∃a b c d,vs=[a,b,c,d]:=by
 obtain⟨a,r,rfl,g⟩:=rC h
 obtain⟨b,c,d,rfl⟩:=Bm g
 exact⟨_,_,_,_,rfl⟩
theorem B6{α:Type}{vs:List α}(h:vs.length=5):∃a b c d e,vs=[a,b,c,d,e]:=by
 obtain⟨a,r,rfl,g⟩:=rC h
 obtain⟨b,c,d,e,rfl⟩:=Df g
 exact⟨_,_,_,_,_,rfl⟩
theorem JF{α:Type}{vs:List α}(h:vs.length=6):∃a b c d e f,vs=[a,b,c,d,e,f]:=by
 obtain⟨a,r,rfl,g⟩:=rC h
 obtain⟨b,c,d,e,f,rfl⟩:=B6 g
 exact⟨_,_,_,_,_,_,rfl⟩
theorem RA.cast{ZV:Program}{w:World}{C:Addr}{S:Sh}{vs:List Value}{ts us:List T}(h:RA ZV w C S vs ts)(e:ts=us):RA ZV w C S vs us:=e ▸ h
section
variable{ZV:Program}{w:World}{C:Addr}{hb:Heap}{mg mb:Str→Option Value}{K:Frag}
theorem dZ{f:Str}{i:Nat}{a cd:Addr}{dvV pm:Value}{dv:List Value}(kin:K.In hb)(g:hb.Ns mainGlobals mg)(e1:nsIn K mainGlobals f=some (some (.ref a)))
  (e2:K.lookup a=some (ob (.type "function") none (.func (wQ i 3 dvV vn vn pm none (.ref cd) vn 0)) [])) (e3:codeIn K (.ref cd) (wQ i 3 dvV vn vn pm none (.ref cd) vn 0).qualname=true) (e4:By (zE i)=true)
  (e5:∀S,RA ZV w C S dv (bo i).dflt)
  (e6:∀vs:List Value,vs.length≤(bo i).names.length→(bo i).names.length≤vs.length+dv.length→∀S,peek K S (bindArgs (wQ i 3 dvV vn vn pm none (.ref cd) vn 0) ⟨vs,[]⟩)=some ((bo i).names.zip (vs ++ dv.drop (dv.length - ((bo i).names.length - vs.length))))) :
  iQ ZV w C K hb mg mb f (bo i):=by
 refine⟨a,wQ i 3 dvV vn vn pm none (.ref cd) vn 0,dv,.inl (mg_of kin g e1),?_,?_,e5,e6⟩
 ·have cr:=codeRec_of kin e3
  have ho:=kin _ _ e2
  clear e1 e2 e3 e5 e6
  unfold By at e4
  unfold wQ bo at *
  cases hs:zE i with
  |FunctionDef n a' b d r tp sc ts bd p=>
   rw[hs]at e4
   simp only[hs]at cr ho ⊢
   dsimp only at e4
   obtain⟨h1,e4⟩:=an e4
   obtain⟨h2,e4⟩:=an e4
   obtain⟨h3,e4⟩:=an e4
   obtain⟨h4,e4⟩:=an e4
   obtain⟨h5,e4⟩:=an e4
   obtain⟨h6,e4⟩:=an e4
   obtain⟨h7,h8⟩:=an e4
   refine⟨⟨_,ho,rfl⟩,rfl,cr,rfl,rfl,rfl,nt h1,nt h2,de h3,de h4,de h5,λj=>?_,λx hx=>?_,λx hx=>?_⟩
   ·cases z:sc.names.lookup (ghost j)with
    |none=>rfl
    |some k=>
     have:=List.all_eq_true.mp h6 _ (mem_of_lookup z)
     simp[ghost]at this
   ·have:=List.all_eq_true.mp h7 _ (mem_of_lookup hx)
    simp at this
   ·obtain⟨y,hy,rfl⟩:=List.mem_map.mp hx
    have:=List.all_eq_true.mp h8 y hy
    simpa using this
  |_=>rw[hs]at e4;cases e4
 ·intro x
  unfold wQ bo
  cases hs:zE i<;>rfl
end
end
section
noncomputable abbrev Kn(f:Str)(i:Nat):Prop:=∀{w:World}{C:Addr}{hb:Heap}{mg mb:Str→Option Value},(K w.params).In hb→hb.Ns mainGlobals mg→iQ pw w C (K w.params) hb mg mb f (bo i)
noncomputable abbrev zi(i cd:Nat)(m:String)(t:Nat):FuncData:=wQ i 3 vn vn vn (vs m t) none (.ref cd) vn 0
section
variable{f:Str}{i:Nat}(a cd:Nat)(m:String)(t:Nat)
noncomputable abbrev CO(f:Str)(i a cd:Nat)(m:String)(t k:Nat):Prop:=∀P,(nsIn (K P) mainGlobals f,(K P).lookup a,codeIn (K P) (.ref cd) (zi i cd m t).qualname,By (zE i),(bo i).dflt,(bo i).names.length)=(some (some (.ref a)),some (ob (.type "function") none (.func (zi i cd m t)) []),true,true,[],k)
theorem tH{k:Nat}(e:CO f i a cd m t k)(e6:∀P(vs:List Value),vs.length=k→∀S,peek (K P) S (bindArgs (zi i cd m t) ⟨vs,[]⟩)=some ((bo i).names.zip vs)):Kn f i:=λ{w}{C}{hb}{mg}{mb}kin g=>by
 have e:=e w.params
 simp only[Prod.mk.injEq]at e
 obtain⟨e1,e2,e3,e4,e5,e7⟩:=e
 refine dZ (dv:=[]) kin g e1 e2 e3 e4 (λS=>RA.nil.cast e5.symm) λvs h1 h2 S=>?_
 rw[e7]at h1 h2
 have h2:k≤vs.length+0:=h2
 rw[List.drop_nil,List.append_nil]
 exact e6 _ vs (Nat.le_antisymm (by assumption) (by assumption)) S
theorem eU(e:CO f i a cd m t 1)(e6:∀P x S,peek (K P) S (bindArgs (zi i cd m t) ⟨[x],[]⟩)=some ((bo i).names.zip [x])):Kn f i:=tH a cd m t e λP vs h S=>by obtain⟨x,rfl⟩:=len1 h;exact e6 P x S
theorem gV(e:CO f i a cd m t 2)(e6:∀P x y S,peek (K P) S (bindArgs (zi i cd m t) ⟨[x,y],[]⟩)=some ((bo i).names.zip [x,y])):Kn f i:=tH a cd m t e λP vs h S=>by obtain⟨x,y,rfl⟩:=wa h;exact e6 P x y S
theorem Aw(e:CO f i a cd m t 3)(e6:∀P x y z S,peek (K P) S (bindArgs (zi i cd m t) ⟨[x,y,z],[]⟩)=some ((bo i).names.zip [x,y,z])):Kn f i:=tH a cd m t e λP vs h S=>by obtain⟨x,y,z,rfl⟩:=Bm h;exact e6 P x y z S
theorem KE(e:CO f i a cd m t 4)(e6:∀P x y z u S,peek (K P) S (bindArgs (zi i cd m t) ⟨[x,y,z,u],[]⟩)=some ((bo i).names.zip [x,y,z,u])):Kn f i:=tH a cd m t e λP vs h S=>by obtain⟨x,y,z,u,rfl⟩:=Df h;exact e6 P x y z u S
theorem Iu(e:CO f i a cd m t 5)(e6:∀P x y z u v S,peek (K P) S (bindArgs (zi i cd m t) ⟨[x,y,z,u,v],[]⟩)=some ((bo i).names.zip [x,y,z,u,v])):Kn f i:=tH a cd m t e λP vs h S=>by obtain⟨x,y,z,u,v,rfl⟩:=B6 h;exact e6 P x y z u v S
end
theorem lK:Kn "from_int" 13:=eU 84 83 "vectorcove.rational" 241 (λ_=>by rfl') λ_ _ _=>by rfl'
theorem fR:Kn "nearest_whole" 18:=gV 119 118 "vectorcove.rational" 241 (λ_=>by rfl') λ_ _ _ _=>by rfl'
theorem mr:Kn "exponent" 19:=eU 126 125 "vectorcove.rational" 241 (λ_=>by rfl') λ_ _ _=>by rfl'
theorem ja:Kn "whole_text" 24:=eU 140 139 "vectorcove.numtext" 348 (λ_=>by rfl') λ_ _ _=>by rfl'
theorem gz:Kn "special_text" 25:=eU 147 146 "vectorcove.numtext" 348 (λ_=>by rfl') λ_ _ _=>by rfl'
theorem qG:Kn "scaled" 26:=Aw 154 153 "vectorcove.numtext" 348 (λ_=>by rfl') λ_ _ _ _ _=>by rfl'
theorem iA:Kn "significant" 27:=gV 161 160 "vectorcove.numtext" 348 (λ_=>by rfl') λ_ _ _ _=>by rfl'
theorem gJ:Kn "without_tail" 28:=eU 168 167 "vectorcove.numtext" 348 (λ_=>by rfl') λ_ _ _=>by rfl'
theorem eS:Kn "scientific_text" 29:=gV 175 174 "vectorcove.numtext" 348 (λ_=>by rfl') λ_ _ _ _=>by rfl'
theorem js:Kn "fixed_text" 30:=gV 182 181 "vectorcove.numtext" 348 (λ_=>by rfl') λ_ _ _ _=>by rfl'
theorem lS:Kn "measures" 31:=gV 189 188 "vectorcove.numtext" 348 (λ_=>by rfl') λ_ _ _ _=>by rfl'
theorem iM:Kn "chosen_form" 32:=gV 196 195 "vectorcove.numtext" 348 (λ_=>by rfl') λ_ _ _ _=>by rfl'
theorem rS:Kn "formed" 33:=gV 203 202 "vectorcove.numtext" 348 (λ_=>by rfl') λ_ _ _ _=>by rfl'
theorem gG:Kn "common_texts" 34:=gV 208 207 "vectorcove.numtext" 348 (λ_=>by rfl') λ_ _ _ _=>by rfl'
theorem nK:Kn "integer" 47:=eU 329 328 "vectorcove.values" 562 (λ_=>by rfl') λ_ _ _=>by rfl'
theorem kF:Kn "character" 48:=eU 336 335 "vectorcove.values" 562 (λ_=>by rfl') λ_ _ _=>by rfl'
theorem su:Kn "length" 49:=eU 343 342 "vectorcove.values" 562 (λ_=>by rfl') λ_ _ _=>by rfl'
theorem ku:Kn "is_vector" 50:=eU 350 349 "vectorcove.values" 562 (λ_=>by rfl') λ_ _ _=>by rfl'
theorem kJ:Kn "is_atomic" 51:=eU 357 356 "vectorcove.values" 562 (λ_=>by rfl') λ_ _ _=>by rfl'
theorem uX:Kn "share" 52:=eU 364 363 "vectorcove.values" 562 (λ_=>by rfl') λ_ _ _=>by rfl'
theorem mU:Kn "get_attr" 54:=gV 371 370 "vectorcove.attrs" 678 (λ_=>by rfl') λ_ _ _ _=>by rfl'
theorem jw:Kn "label_text" 55:=gV 378 377 "vectorcove.attrs" 678 (λ_=>by rfl') λ_ _ _ _=>by rfl'
theorem mI:Kn "level_at" 56:=gV 385 384 "vectorcove.attrs" 678 (λ_=>by rfl') λ_ _ _ _=>by rfl'
theorem iK:Kn "label_texts" 57:=eU 390 389 "vectorcove.attrs" 678 (λ_=>by rfl') λ_ _ _=>by rfl'
theorem mt:Kn "names_of" 58:=eU 395 394 "vectorcove.attrs" 678 (λ_=>by rfl') λ_ _ _=>by rfl'
theorem rL:Kn "dim_of" 59:=eU 402 401 "vectorcove.attrs" 678 (λ_=>by rfl') λ_ _ _=>by rfl'
theorem jb:Kn "class_attr" 61:=eU 414 413 "vectorcove.attrs" 678 (λ_=>by rfl') λ_ _ _=>by rfl'
theorem i8:Kn "kind_order" 64:=eU 421 420 "vectorcove.coerce" 738 (λ_=>by rfl') λ_ _ _=>by rfl'
theorem hN:Kn "common_kind" 65:=eU 428 427 "vectorcove.coerce" 738 (λ_=>by rfl') λ_ _ _=>by rfl'
theorem jv:Kn "to_integer" 71:=Aw 470 469 "vectorcove.coerce" 738 (λ_=>by rfl') λ_ _ _ _ _=>by rfl'
theorem k7:Kn "to_double" 72:=Aw 477 476 "vectorcove.coerce" 738 (λ_=>by rfl') λ_ _ _ _ _=>by rfl'
theorem oA:Kn "to_text" 73:=gV 484 483 "vectorcove.coerce" 738 (λ_=>by rfl') λ_ _ _ _=>by rfl'
theorem nY:Kn "item_as" 74:=KE 491 490 "vectorcove.coerce" 738 (λ_=>by rfl') λ_ _ _ _ _ _=>by rfl'
theorem fO:Kn "is_atomic_kind" 75:=eU 498 497 "vectorcove.coerce" 738 (λ_=>by rfl') λ_ _ _=>by rfl'
theorem jp:Kn "with_names" 79:=gV 524 523 "vectorcove.coerce" 738 (λ_=>by rfl') λ_ _ _ _=>by rfl'
theorem oq:Kn "as_kind" 80:=Aw 529 528 "vectorcove.coerce" 738 (λ_=>by rfl') λ_ _ _ _ _=>by rfl'
theorem jj:Kn "is_lacking" 83:=gV 543 542 "vectorcove.sorting" 890 (λ_=>by rfl') λ_ _ _ _=>by rfl'
theorem f3:Kn "compare_items" 84:=Aw 550 549 "vectorcove.sorting" 890 (λ_=>by rfl') λ_ _ _ _ _=>by rfl'
theorem fD:Kn "check_sortable" 85:=eU 557 556 "vectorcove.sorting" 890 (λ_=>by rfl') λ_ _ _=>by rfl'
theorem fG:Kn "compare_places" 86:=Iu 564 563 "vectorcove.sorting" 890 (λ_=>by rfl') λ_ _ _ _ _ _ _=>by rfl'
theorem gB:Kn "compare_keys" 87:=Iu 571 570 "vectorcove.sorting" 890 (λ_=>by rfl') λ_ _ _ _ _ _ _=>by rfl'
theorem je:Kn "merge_runs" 88:=Iu 578 577 "vectorcove.sorting" 890 (λ_=>by rfl') λ_ _ _ _ _ _ _=>by rfl'
theorem iY:Kn "merge_sort" 89:=KE 583 582 "vectorcove.sorting" 890 (λ_=>by rfl') λ_ _ _ _ _ _=>by rfl'
theorem mY:Kn "each_key" 90:=gV 588 587 "vectorcove.sorting" 890 (λ_=>by rfl') λ_ _ _ _=>by rfl'
theorem hZ:Kn "kept_places" 91:=gV 595 594 "vectorcove.sorting" 890 (λ_=>by rfl') λ_ _ _ _=>by rfl'
theorem kN:Kn "is_factor" 94:=eU 610 609 "vectorcove.frames" 994 (λ_=>by rfl') λ_ _ _=>by rfl'
theorem k9:Kn "new_frame" 97:=Aw 629 628 "vectorcove.frames" 994 (λ_=>by rfl') λ_ _ _ _ _=>by rfl'
theorem jl:Kn "plain_rows" 98:=eU 636 635 "vectorcove.frames" 994 (λ_=>by rfl') λ_ _ _=>by rfl'
theorem jk:Kn "kept_attrs" 99:=eU 643 642 "vectorcove.frames" 994 (λ_=>by rfl') λ_ _ _=>by rfl'
theorem jq:Kn "pick_items" 101:=gV 657 656 "vectorcove.frames" 994 (λ_=>by rfl') λ_ _ _ _=>by rfl'
theorem f6:Kn "joined_column" 104:=eU 669 668 "vectorcove.framebind" 1059 (λ_=>by rfl') λ_ _ _=>by rfl'
theorem iN:Kn "column_keys" 106:=eU 674 673 "vectorcove.joins" 1081 (λ_=>by rfl') λ_ _ _=>by rfl'
theorem lM:Kn "row_keys" 107:=gV 679 678 "vectorcove.joins" 1081 (λ_=>by rfl') λ_ _ _ _=>by rfl'
theorem lI:Kn "sort_key" 108:=eU 686 685 "vectorcove.joins" 1081 (λ_=>by rfl') λ_ _ _=>by rfl'
theorem g5:Kn "is_complete" 109:=gV 693 692 "vectorcove.joins" 1081 (λ_=>by rfl') λ_ _ _ _=>by rfl'
theorem fC:Kn "grouped_places" 110:=eU 698 697 "vectorcove.joins" 1081 (λ_=>by rfl') λ_ _ _=>by rfl'
theorem fB:Kn "joined_results" 111:=gV 705 704 "vectorcove.joins" 1081 (λ_=>by rfl') λ_ _ _ _=>by rfl'
theorem gE:Kn "check_groups" 112:=gV 712 711 "vectorcove.joins" 1081 (λ_=>by rfl') λ_ _ _ _=>by rfl'
theorem fb:Kn "attribute_free" 114:=eU 725 724 "vectorcove.joins" 1081 (λ_=>by rfl') λ_ _ _=>by rfl'
theorem io:Kn "bare_column" 115:=eU 732 731 "vectorcove.joins" 1081 (λ_=>by rfl') λ_ _ _=>by rfl'
theorem nB:Kn "_law_dip" 118:=gV 745 744 "law_sm0110_01" 1163 (λ_=>by rfl') λ_ _ _ _=>by rfl'
theorem lp:Kn "_law_pair" 119:=gV 752 751 "law_sm0110_01" 1163 (λ_=>by rfl') λ_ _ _ _=>by rfl'
theorem d7:Kn "_law_told" 120:=eU 757 756 "law_sm0110_01" 1163 (λ_=>by rfl') λ_ _ _=>by rfl'
theorem kt:Kn "_law_sheet" 121:=Aw 764 763 "law_sm0110_01" 1163 (λ_=>by rfl') λ_ _ _ _ _=>by rfl'
theorem jg:Kn "_law_handed" 122:=gV 769 768 "law_sm0110_01" 1163 (λ_=>by rfl') λ_ _ _ _=>by rfl'
theorem Bz:Kn "law" 123:=eU 774 773 "law_sm0110_01" 1163 (λ_=>by rfl') λ_ _ _=>by rfl'
section
variable{w:World}{C:Addr}{hb:Heap}{mg mb:Str→Option Value}
theorem hW(kin:(K w.params).In hb)(g:hb.Ns mainGlobals mg):iQ pw w C (K w.params) hb mg mb "number_text" (bo 35):=
 dZ (a:=216) (cd:=215) (dvV:=(vr 209)) (pm:=(vs "vectorcove.numtext" 348)) (dv:=[(vi 7 466)]) kin g (by rfl') (by rfl') (by rfl') (by rfl')
  (λS=>(show RA pw w C S [(vi 7 466)] [T.int 7]from .cons (.int _ _) (.nil)).cast (by rfl')) λvs h1 h2 S=>by
  have h1:vs.length≤2:=h1
  have h2:2≤vs.length+1:=h2
  have:=qm (k:=1) h1 (Nat.le_of_succ_le_succ h2)
  rcases this with h|h
  ·obtain⟨a,rfl⟩:=len1 h
   rfl'
  ·obtain⟨a,b,rfl⟩:=wa h
   rfl'
theorem mO(kin:(K w.params).In hb)(g:hb.Ns mainGlobals mg):iQ pw w C (K w.params) hb mg mb "order_by" (bo 92):=
 dZ (a:=603) (cd:=602) (dvV:=(vr 596)) (pm:=(vs "vectorcove.sorting" 890)) (dv:=[(.bool false),(.bool true)]) kin g (by rfl') (by rfl') (by rfl') (by rfl')
  (λS=>(show RA pw w C S [(.bool false),(.bool true)] [T.bool false,T.bool true]from .cons (.bool _) (.cons (.bool _) (.nil))).cast (by rfl')) λvs h1 h2 S=>by
  have h1:vs.length≤3:=h1
  have h2:3≤vs.length+2:=h2
  have:=F1 (k:=1) h1 (Nat.le_of_succ_le_succ (Nat.le_of_succ_le_succ h2))
  rcases this with h|h|h
  ·obtain⟨a,rfl⟩:=len1 h
   rfl'
  ·obtain⟨a,b,rfl⟩:=wa h
   rfl'
  ·obtain⟨a,b,c,rfl⟩:=Bm h
   rfl'
theorem gC(kin:(K w.params).In hb)(g:hb.Ns mainGlobals mg):iQ pw w C (K w.params) hb mg mb "aggregate_by" (bo 113):=
 dZ (a:=718) (cd:=717) (dvV:=(vr 713)) (pm:=(vs "vectorcove.joins" 1081)) (dv:=[(.bool true)]) kin g (by rfl') (by rfl') (by rfl') (by rfl')
  (λS=>(show RA pw w C S [(.bool true)] [T.bool true]from .cons (.bool _) (.nil)).cast (by rfl')) λvs h1 h2 S=>by
  have h1:vs.length≤6:=h1
  have h2:6≤vs.length+1:=h2
  have:=qm (k:=5) h1 (Nat.le_of_succ_le_succ h2)
  rcases this with h|h
  ·obtain⟨a,b,c,d,e,rfl⟩:=B6 h
   rfl'
  ·obtain⟨a,b,c,d,e,f,rfl⟩:=JF h
   rfl'
theorem dP(kin:(K w.params).In hb)(g:hb.Ns mainGlobals mg):iQ pw w C (K w.params) hb mg mb "stack_frame" (bo 116):=
 dZ (a:=738) (cd:=737) (dvV:=(vr 733)) (pm:=(vs "vectorcove.joins" 1081)) (dv:=[vn]) kin g (by rfl') (by rfl') (by rfl') (by rfl')
  (λS=>(show RA pw w C S [vn] [T.none]from .cons (.none) (.nil)).cast (by rfl')) λvs h1 h2 S=>by
  have h1:vs.length≤2:=h1
  have h2:2≤vs.length+1:=h2
  have:=qm (k:=1) h1 (Nat.le_of_succ_le_succ h2)
  rcases this with h|h
  ·obtain⟨a,rfl⟩:=len1 h
   rfl'
  ·obtain⟨a,b,rfl⟩:=wa h
   rfl'
end
end
section
theorem A6(P:Params):ClsOk (K P) 318 308 where
 get:=by rfl'
 hd:=by rfl'
 at_:=λx hx=>by
  have:dX.all (λx=>findIn (K P) (.ref 318) x == some none)=true:=by rfl'
  exact beq_iff_eq.mp (List.all_eq_true.mp this x hx)
 mks:=by rfl'
 ini:=by rfl'
 fIt:=by rfl'
 sa:=by rfl'
 po:=by rfl'
 tk:=λx hx=>by
  have:dX.all (λx=>takerIn (K P) 318 x == some none)=true:=by rfl'
  exact beq_iff_eq.mp (List.all_eq_true.mp this x hx)
noncomputable def zn:FuncData:=wu 46 "__init__" "Vector.__init__" 3 (vr 301) vn vn (vs "vectorcove.values" 562) none (vr 307) vn 0
structure Hd(w:World)(hb:Heap)(mg mb:Str→Option Value):Prop where
 kin:(K w.params).In hb
 g:hb.Ns mainGlobals mg
 b:hb.Ns builtinsNs mb
 bt:∀x:Str,x≠"__name__"→mb x=bootBuiltins x
 lim:hb.NoLimit
section
variable{w:World}{hb:Heap}{mg mb:Str→Option Value}
theorem Hd.gl(H:Hd w hb mg mb):Gl (K w.params) 318 308 mg mb hb:=
 ⟨H.kin,H.g,H.b,H.lim,⟨_,H.kin 1 (boot_o_1 w.params) (by rfl')⟩,A6 w.params⟩
theorem Hd.bv(H:Hd w hb mg mb){x:Str}{v:Value}(e1:nsIn (K w.params) mainGlobals x=some none)(hx:x≠"__name__")(e2:bootBuiltins x=some v):GV mg mb x v:=
 .inr ⟨ns_none_of H.kin H.g e1,(H.bt x hx).trans e2⟩
theorem Hd.nm(H:Hd w hb mg mb):Nm mg mb 318:=
 ⟨H.bv (by rfl') (by decide +kernel) (by rfl'),H.bv (by rfl') (by decide +kernel) (by rfl'),H.bv (by rfl') (by decide +kernel) (by rfl'),H.bv (by rfl') (by decide +kernel) (by rfl'),H.bv (by rfl') (by decide +kernel) (by rfl'),.inl (mg_of H.kin H.g (by rfl'))⟩
theorem Hd.nm2(H:Hd w hb mg mb):Nm2 mg mb:=
 ⟨H.bv (by rfl') (by decide +kernel) (by rfl'),H.bv (by rfl') (by decide +kernel) (by rfl'),H.bv (by rfl') (by decide +kernel) (by rfl'),H.bv (by rfl') (by decide +kernel) (by rfl')⟩
theorem Hd.cls(H:Hd w hb mg mb):bq pw w hb (.ref 318):=
 mq (K:=K w.params) (o:=o327) H.kin (H.kin _ _ (by rfl')) rfl (by rfl')
theorem Hd.ini(H:Hd w hb mg mb):InitOk (K w.params) hb 308 zn where
 obj:=⟨_,H.kin 308 o317 (by rfl'),rfl⟩
 body:=⟨⟨296,8,296,12⟩,⟨296,8,296,17⟩,⟨296,20,296,24⟩,⟨297,8,297,12⟩,⟨297,8,297,18⟩,⟨297,21,297,26⟩,⟨298,8,298,12⟩,⟨298,8,298,18⟩,⟨298,21,298,26⟩,
  ⟨296,8,296,24⟩,⟨297,8,297,26⟩,⟨298,8,298,26⟩,⟨299,8,299,12⟩,⟨299,8,299,19⟩,⟨299,8,299,27⟩,⟨300,8,300,12⟩,⟨300,8,300,18⟩,⟨300,8,300,26⟩,0,0,⟨299,22,299,27⟩,⟨300,21,300,26⟩,by rfl'⟩
 cd:=codeRec_of (K:=K w.params) H.kin (by rfl')
 clo:=by rfl'
 co:=by rfl'
 gen:=by rfl'
 kind:=by rfl'
 par:=λx hx=>by
  have:(["self","kind","items","attrs"]:List Str).all (λx=>zn.scope.names.lookup x == some .local)=true:=by rfl'
  exact beq_iff_eq.mp (List.all_eq_true.mp this x hx)
 bind4:=λa b c d S=>by rfl'
 bind3:=λa b c S=>by rfl'
theorem Hd.z0(H:Hd w hb mg mb):OrcOk pw w 318 hb mg mb 1 B0:=wO H.gl H.nm H.nm2 H.cls ⟨_,H.ini⟩
end
end
section
noncomputable abbrev Et(Z:Orc):Ev:=Ev.at Z 100000 40
noncomputable abbrev Eu(Z:Orc):Ev:=Ev.at Z 100000 39
noncomputable def rn(Z:Orc)(i:Nat)(ts:List T):Option V:=m0 Z 100000 40 (bo i) ts
noncomputable def ae(i:Nat):Kd:=(bo i).kd
noncomputable def ak(i:Nat):List Stmt:=(bo i).body
noncomputable def HJ(i:Nat):List Str:=(bo i).names
noncomputable def sg(b:List Stmt)(i j:Nat):List Stmt:=(b.drop i).take (j - i)
theorem kC{E:Ev}{kd:Kd}:∀(a b:List Stmt){σ σ':Loc},exs E kd a σ=some (.nx σ')→exs E kd (a ++ b) σ=exs E kd b σ'
 |[],b,σ,σ',h=>by cases h;rfl
 |s ::a,b,σ,σ',h=>by
  show((E.X kd s σ).bind λo=>match o with|.nx ZZ=>exs E kd (a ++ b) ZZ|o=>some o)=_
  have h:((E.X kd s σ).bind λo=>match o with|.nx ZZ=>exs E kd a ZZ|o=>some o)=some (.nx σ'):=h
  cases hx:E.X kd s σ with
  |none=>rw[hx]at h;cases h
  |some o=>
   rw[hx]at h
   cases o with
   |nx ZZ=>exact kC a b h
   |_=>cases h
theorem ai{E:Ev}{kd:Kd}{b:List Stmt}{σ σ':Loc}(i j:Nat)(h:exs E kd (sg b i j) σ=some (.nx σ'))(hij:Nat.ble i j=true):exs E kd (b.drop i) σ=exs E kd (b.drop j) σ':=by
 have e:b.drop i=sg b i j ++ b.drop j:=by
  unfold sg
  have:=Nat.le_of_ble_eq_true hij
  conv=>lhs;rw[←List.take_append_drop (j - i) (b.drop i)]
  rw[List.drop_drop,Nat.add_sub_cancel' this]
 rw[e]
 exact kC _ _ h
theorem qj{Z:Orc}{i:Nat}{ts us:List T}{a:V}{σ':Loc}(h1:bL (bo i) ts=some us)(h2:exs (Et Z) (ae i) ((ak i).drop 0) ((HJ i).zip (us.map V.f))=some (.rt a σ')):rn Z i ts=some a:=by
 unfold rn m0
 rw[h1]
 show(exs (Et Z) (ae i) (ak i) ((HJ i).zip (us.map V.f))).bind uz=_
 rw[List.drop_zero]at h2
 rw[h2];rfl
theorem b9{α:Type}{c:Bool}{x:Option α}(h:c=true):gd c x=x:=by rw[h];rfl
theorem fg{n:Nat}(h:n≤16777216):ag n=true:=decide_eq_true h
theorem j5:∀{σ:Loc}{x:Str}{a:V},σ.lookup x=none→σ.set x a=σ ++ [(x,a)]
 |[],x,a,_=>rfl
 |(y,b) ::σ,x,a,h=>by
  have hy:y≠x:=λe=>by subst e;simp at h
  have h':σ.lookup x=none:=by
   rw[List.lookup_cons]at h
   have:(x == y)=false:=by simpa using hy.symm
   simpa[this]using h
  show(if y=x then _ else _)=_
  rw[if_neg hy,j5 h'];rfl
theorem ik:∀{σ:Loc}{x:Str}{a b:V},σ.lookup x=none→(σ ++ [(x,b)]).set x a=σ ++ [(x,a)]
 |[],x,a,b,_=>by simp[Loc.set]
 |(y,c) ::σ,x,a,b,h=>by
  have hy:y≠x:=λe=>by subst e;simp at h
  have h':σ.lookup x=none:=by
   rw[List.lookup_cons]at h
   have:(x == y)=false:=by simpa using hy.symm
   simpa[this]using h
  show(if y=x then _ else _)=_
  rw[if_neg hy]
  exact congrArg _ (ik h')
theorem ef:∀{σ:Loc}{x:Str},σ.lookup x=none→σ.del x=σ
 |[],x,_=>rfl
 |(y,b) ::σ,x,h=>by
  have hy:y≠x:=λe=>by subst e;simp at h
  have h':σ.lookup x=none:=by
   rw[List.lookup_cons]at h
   have:(x == y)=false:=by simpa using hy.symm
   simpa[this]using h
  unfold Loc.del
  rw[List.filter_cons_of_pos (by simpa using hy)]
  exact congrArg _ (ef h')
theorem mV{σ:Loc}{x:Str}{a:V}(h:σ.lookup x=none):(σ ++ [(x,a)]).del x=σ:=by
 have:=ef h
 unfold Loc.del at this ⊢
 rw[List.filter_append,this]
 simp
noncomputable def bY(p:T→Bool)(f:T→T):List T→List T
 |[]=>[]
 |t ::ts=>match p t with
  |true=>f t ::bY p f ts
  |false=>bY p f ts
theorem av{f:T→T}:∀(ts:List T),bY (λ_=>true) f ts=ts.map f
 |[]=>rfl
 |t ::ts=>congrArg (f t ::·) (av ts)
theorem oX{E:Ev}{kd:Kd}{x:Str}{ifs:List Expr}{elt:Expr}{p:T→Bool}{f:T→T}{σ:Loc}(hx:σ.lookup x=none)(ts:List T):(∀t∈ts,ifsGo E kd ifs (σ ++ [(x,V.f t)])=some (p t,σ ++ [(x,V.f t)]))→(∀t∈ts,p t=true→evT E kd elt (σ ++ [(x,V.f t)])=some (f t,σ ++ [(x,V.f t)]))→
  ∀σ₀,(σ₀=σ∨∃b,σ₀=σ ++ [(x,b)])→∃ZZ,compGo E kd x ifs elt ts σ₀=some (bY p f ts,ZZ)∧(ZZ=σ∨∃b,ZZ=σ ++ [(x,b)]):=by
 induction ts with
 |nil=>
  intro _ _ σ₀ h
  exact⟨σ₀,rfl,h⟩
 |cons t ts ih=>
  intro hp hf σ₀ h
  have hs:σ₀.set x (.f t)=σ ++ [(x,V.f t)]:=by
   rcases h with rfl|⟨b,rfl⟩
   ·exact j5 hx
   ·exact ik hx
  obtain⟨ZZ,e1,h1⟩:=ih (λt ht=>hp t (.tail _ ht)) (λt ht=>hf t (.tail _ ht)) (σ ++ [(x,V.f t)]) (.inr ⟨_,rfl⟩)
  refine⟨ZZ,?_,h1⟩
  show bd (ifsGo E kd ifs (σ₀.set x (.f t))) (λb ZZ=>match b with
   |true=>bd (evT E kd elt ZZ) λu ZY=>bd (compGo E kd x ifs elt ts ZY) λus ZX=>some (u ::us,ZX)
   |false=>compGo E kd x ifs elt ts ZZ)=some (match p t with|true=>f t ::bY p f ts|false=>bY p f ts,ZZ)
  rw[hs,hp t (.head _)]
  show(match p t with
   |true=>bd (evT E kd elt (σ ++ [(x,V.f t)])) λu ZY=>bd (compGo E kd x ifs elt ts ZY) λus ZX=>some (u ::us,ZX)
   |false=>compGo E kd x ifs elt ts (σ ++ [(x,V.f t)]))=_
  cases hb:p t with
  |true=>
   dsimp only
   rw[hf t (.head _) hb]
   show bd (compGo E kd x ifs elt ts (σ ++ [(x,V.f t)])) (λus ZX=>some (f t ::us,ZX))=_
   rw[e1];rfl
  |false=>exact e1
theorem iu{σ:Loc}{scope:Scope}{x:Str}{b:V}(h:ay σ scope x=true):ay (σ ++ [(x,b)]) scope x=true:=by
 unfold ay at h ⊢
 rw[List.all_append,h]
 simp
theorem aA{E:Ev}{kd:Kd}{elt iter:Expr}{x:Str}{ifs:List Expr}{scope:Scope}{σ ZZ:Loc}{ts:List T}(p:T→Bool)(f:T→T)(hi:evIt E kd iter σ=some (ts,ZZ))(hs:(aG kd scope x && ((ZZ.lookup x).isNone && ay ZZ scope x))=true)(hl:ts.length≤16777216)
  (hp:∀t∈ts,ifsGo E (kdC scope kd) ifs (ZZ ++ [(x,V.f t)])=some (p t,ZZ ++ [(x,V.f t)])) (hf:∀t∈ts,p t=true→evT E (kdC scope kd) elt (ZZ ++ [(x,V.f t)])=some (f t,ZZ ++ [(x,V.f t)])) :
  evComp E kd elt x iter ifs scope σ=some (bY p f ts,ZZ):=by
 have hx:ZZ.lookup x=none:=Option.isNone_iff_eq_none.mp (an (an hs).2).1
 obtain⟨σe,e1,h1⟩:=oX hx ts hp hf ZZ (.inl rfl)
 unfold evComp
 rw[b9 (an hs).1,hi]
 show gd (still? ZZ x && ay ZZ scope x && ag ts.length) _=_
 rw[b9 (by rw[(an (an hs).2).2,fg hl];unfold still?;rw[hx];rfl),ef hx,e1]
 show gd (ay σe scope x) (some (bY p f ts,Loc.back ZZ σe x))=_
 have ha:ay σe scope x=true:=by
  rcases h1 with rfl|⟨b,rfl⟩
  ·exact(an (an hs).2).2
  ·exact iu (an (an hs).2).2
 have hb:Loc.back ZZ σe x=ZZ:=by
  unfold Loc.back
  rw[hx]
  rcases h1 with rfl|⟨b,rfl⟩
  ·exact ef hx
  ·exact mV hx
 rw[b9 ha,hb]
noncomputable def c9:Stmt→Expr
 |.Assign _ v _=>v
 |.Return (some v) _=>v
 |.Expr v _=>v
 |.For _ it _ _ _=>it
 |.If t _ _ _=>t
 |_=>.Constant .none 0 ⟨0,0,0,0⟩
noncomputable def aq:Stmt→List Stmt
 |.For _ _ b _ _=>b
 |.If _ b _ _=>b
 |.While _ b _ _=>b
 |_=>[]
noncomputable def aH:Expr→Expr
 |.ListComp e _ _ _=>e
 |e=>e
noncomputable def EF:Expr→Comprehension
 |.ListComp _ [g] _ _=>g
 |_=>⟨.Constant .none 0 ⟨0,0,0,0⟩,.Constant .none 0 ⟨0,0,0,0⟩,[],0⟩
noncomputable def az(e:Expr):Expr:=match EF e with|⟨_,i,_,_⟩=>i
noncomputable def aN(e:Expr):List Expr:=match EF e with|⟨_,_,i,_⟩=>i
noncomputable def a9:Expr→Scope
 |.ListComp _ _ s _=>s
 |_=>default
noncomputable def bF(i j:Nat):Stmt:=(ak i).getD j (.Pass ⟨0,0,0,0⟩)
end
section
noncomputable abbrev Z0:Orc:=B0
noncomputable def Z1:Orc:=Z0.add "get_attr" (rn Z0 54)
noncomputable def Z2:Orc:=Z1.add "class_attr" (rn Z1 61)
noncomputable def Z3:Orc:=Z2.add "dim_of" (rn Z2 59)
noncomputable def Z4:Orc:=Z3.add "names_of" (rn Z3 58)
noncomputable def Z5:Orc:=Z4.add "is_vector" (rn Z4 50)
noncomputable def Z6:Orc:=Z5.add "is_atomic" (rn Z5 51)
noncomputable def Z7:Orc:=Z6.add "length" (rn Z6 49)
noncomputable def Z8:Orc:=Z7.add "share" (rn Z7 52)
noncomputable def Z9:Orc:=Z8.add "integer" (rn Z8 47)
noncomputable def G3:Orc:=Z9.add "character" (rn Z9 48)
noncomputable def CA:Orc:=G3.add "is_factor" (rn G3 94)
noncomputable def Z12:Orc:=CA.add "attribute_free" (rn CA 114)
noncomputable def CM:Orc:=Z12.add "bare_column" (rn Z12 115)
noncomputable def CN:Orc:=CM.add "new_frame" (rn CM 97)
noncomputable def CB:Orc:=CN.add "plain_rows" (rn CN 98)
noncomputable def CQ:Orc:=CB.add "kept_attrs" (rn CB 99)
noncomputable def CS:Orc:=CQ.add "sort_key" (rn CQ 108)
noncomputable def Hu:Orc:=CS.add "is_lacking" (rn CS 83)
noncomputable def Gy:Orc:=Hu.add "compare_items" (rn Hu 84)
noncomputable def Jr:Orc:=Gy.add "check_sortable" (rn Gy 85)
noncomputable def G8:Orc:=Jr.add "compare_places" (rn Jr 86)
noncomputable def GB:Orc:=G8.add "compare_keys" (rn G8 87)
noncomputable def Ha:Orc:=GB.add "merge_runs" (rn GB 88)
noncomputable def Jz:Orc:=Ha.add "merge_sort" (rn Ha 89)
noncomputable def J1:Orc:=Jz.add "each_key" (rn Jz 90)
noncomputable def Fm:Orc:=J1.add "kept_places" (rn J1 91)
noncomputable def H7:Orc:=Fm.add "order_by" (rn Fm 92)
noncomputable def sK:Orc:=H7.add "kind_order" (rn H7 64)
noncomputable def Hb:Orc:=sK.add "common_kind" (rn sK 65)
noncomputable def Jg:Orc:=Hb.add "nearest_whole" (rn Hb 18)
noncomputable def Js:Orc:=Jg.add "exponent" (rn Jg 19)
noncomputable def GF:Orc:=Js.add "whole_text" (rn Js 24)
noncomputable def Hj:Orc:=GF.add "special_text" (rn GF 25)
noncomputable def HE:Orc:=Hj.add "scaled" (rn Hj 26)
noncomputable def Iq:Orc:=HE.add "significant" (rn HE 27)
noncomputable def HW:Orc:=Iq.add "without_tail" (rn Iq 28)
noncomputable def Km:Orc:=HW.add "scientific_text" (rn HW 29)
noncomputable def G2:Orc:=Km.add "fixed_text" (rn Km 30)
noncomputable def Hn:Orc:=G2.add "measures" (rn G2 31)
noncomputable def J6:Orc:=Hn.add "chosen_form" (rn Hn 32)
noncomputable def IM:Orc:=J6.add "formed" (rn J6 33)
noncomputable def Hz:Orc:=IM.add "common_texts" (rn IM 34)
noncomputable def Hv:Orc:=Hz.add "number_text" (rn Hz 35)
noncomputable def HQ:Orc:=Hv.add "from_int" (rn Hv 13)
noncomputable def Ji:Orc:=HQ.add "to_integer" (rn HQ 71)
noncomputable def Gw:Orc:=Ji.add "to_double" (rn Ji 72)
noncomputable def Io:Orc:=Gw.add "to_text" (rn Gw 73)
noncomputable def xG:Orc:=Io.add "is_atomic_kind" (rn Io 75)
noncomputable def J7:Orc:=xG.add "item_as" (rn xG 74)
noncomputable def qA:Orc:=J7.add "with_names" (rn J7 79)
noncomputable def gM:Orc:=qA.add "as_kind" (rn qA 80)
noncomputable def k0:Orc:=gM.add "joined_column" (rn gM 104)
noncomputable def GM:Orc:=k0.add "level_at" (rn k0 56)
noncomputable def xK:Orc:=GM.add "label_text" (rn GM 55)
noncomputable def pP:Orc:=xK.add "label_texts" (rn xK 57)
noncomputable def oz:Orc:=pP.add "column_keys" (rn pP 106)
noncomputable def AE:Orc:=oz.add "row_keys" (rn oz 107)
noncomputable def f9:Orc:=AE.add "is_complete" (rn AE 109)
noncomputable def dH:Orc:=f9.add "pick_items" (rn f9 101)
noncomputable def jT:Orc:=dH.add "grouped_places" (rn dH 110)
noncomputable def CT:Orc:=jT.add "joined_results" (rn jT 111)
noncomputable def nL:Orc:=CT.add "check_groups" (rn CT 112)
noncomputable def Z63:Orc:=nL.add "_law_pair" (rn nL 119)
noncomputable def Z64:Orc:=Z63.add "_law_told" (rn Z63 120)
noncomputable def Z65:Orc:=Z64.add "_law_told" (rn Z64 120)
noncomputable def Z66:Orc:=Z65.add "_law_told" (rn Z65 120)
noncomputable def rA:Orc:=Z66.add "_law_sheet" (rn Z66 121)
noncomputable def dn:Orc:=rA.add "_law_handed" (rn rA 122)
section
variable{w:World}{hb:Heap}{mg mb:Str→Option Value}
theorem z0(H:Hd w hb mg mb):OrcOk pw w 318 hb mg mb 1 Z0:=H.z0
theorem z1(H:Hd w hb mg mb):OrcOk pw w 318 hb mg mb 2 Z1:=(z0 H).run H.gl H.nm (mU H.kin H.g) λ_ _ h=>h
theorem z2(H:Hd w hb mg mb):OrcOk pw w 318 hb mg mb 3 Z2:=(z1 H).run H.gl H.nm (jb H.kin H.g) λ_ _ h=>h
theorem z3(H:Hd w hb mg mb):OrcOk pw w 318 hb mg mb 4 Z3:=(z2 H).run H.gl H.nm (rL H.kin H.g) λ_ _ h=>h
theorem z4(H:Hd w hb mg mb):OrcOk pw w 318 hb mg mb 5 Z4:=(z3 H).run H.gl H.nm (mt H.kin H.g) λ_ _ h=>h
theorem z5(H:Hd w hb mg mb):OrcOk pw w 318 hb mg mb 6 Z5:=(z4 H).run H.gl H.nm (ku H.kin H.g) λ_ _ h=>h
theorem z6(H:Hd w hb mg mb):OrcOk pw w 318 hb mg mb 7 Z6:=(z5 H).run H.gl H.nm (kJ H.kin H.g) λ_ _ h=>h
theorem z7(H:Hd w hb mg mb):OrcOk pw w 318 hb mg mb 8 Z7:=(z6 H).run H.gl H.nm (su H.kin H.g) λ_ _ h=>h
theorem z8(H:Hd w hb mg mb):OrcOk pw w 318 hb mg mb 9 Z8:=(z7 H).run H.gl H.nm (uX H.kin H.g) λ_ _ h=>h
theorem z9(H:Hd w hb mg mb):OrcOk pw w 318 hb mg mb 10 Z9:=(z8 H).run H.gl H.nm (nK H.kin H.g) λ_ _ h=>h
theorem Lq(H:Hd w hb mg mb):OrcOk pw w 318 hb mg mb 11 G3:=(z9 H).run H.gl H.nm (kF H.kin H.g) λ_ _ h=>h
theorem La(H:Hd w hb mg mb):OrcOk pw w 318 hb mg mb 12 CA:=(Lq H).run H.gl H.nm (kN H.kin H.g) λ_ _ h=>h
theorem Ms(H:Hd w hb mg mb):OrcOk pw w 318 hb mg mb 13 Z12:=(La H).run H.gl H.nm (fb H.kin H.g) λ_ _ h=>h
theorem LF(H:Hd w hb mg mb):OrcOk pw w 318 hb mg mb 14 CM:=(Ms H).run H.gl H.nm (io H.kin H.g) λ_ _ h=>h
theorem Lf(H:Hd w hb mg mb):OrcOk pw w 318 hb mg mb 15 CN:=(LF H).run H.gl H.nm (k9 H.kin H.g) λ_ _ h=>h
theorem K4(H:Hd w hb mg mb):OrcOk pw w 318 hb mg mb 16 CB:=(Lf H).run H.gl H.nm (jl H.kin H.g) λ_ _ h=>h
theorem LD(H:Hd w hb mg mb):OrcOk pw w 318 hb mg mb 17 CQ:=(K4 H).run H.gl H.nm (jk H.kin H.g) λ_ _ h=>h
theorem MT(H:Hd w hb mg mb):OrcOk pw w 318 hb mg mb 18 CS:=(LD H).run H.gl H.nm (lI H.kin H.g) λ_ _ h=>h
theorem LW(H:Hd w hb mg mb):OrcOk pw w 318 hb mg mb 19 Hu:=(MT H).run H.gl H.nm (jj H.kin H.g) λ_ _ h=>h
theorem Md(H:Hd w hb mg mb):OrcOk pw w 318 hb mg mb 20 Gy:=(LW H).run H.gl H.nm (f3 H.kin H.g) λ_ _ h=>h
theorem LP(H:Hd w hb mg mb):OrcOk pw w 318 hb mg mb 21 Jr:=(Md H).run H.gl H.nm (fD H.kin H.g) λ_ _ h=>h
theorem MP(H:Hd w hb mg mb):OrcOk pw w 318 hb mg mb 22 G8:=(LP H).run H.gl H.nm (fG H.kin H.g) λ_ _ h=>h
theorem Ma(H:Hd w hb mg mb):OrcOk pw w 318 hb mg mb 23 GB:=(MP H).run H.gl H.nm (gB H.kin H.g) λ_ _ h=>h
theorem MF(H:Hd w hb mg mb):OrcOk pw w 318 hb mg mb 24 Ha:=(Ma H).run H.gl H.nm (je H.kin H.g) λ_ _ h=>h
theorem ME(H:Hd w hb mg mb):OrcOk pw w 318 hb mg mb 25 Jz:=(MF H).run H.gl H.nm (iY H.kin H.g) λ_ _ h=>h
theorem MG(H:Hd w hb mg mb):OrcOk pw w 318 hb mg mb 26 J1:=(ME H).run H.gl H.nm (mY H.kin H.g) λ_ _ h=>h
theorem KW(H:Hd w hb mg mb):OrcOk pw w 318 hb mg mb 27 Fm:=(MG H).run H.gl H.nm (hZ H.kin H.g) λ_ _ h=>h
theorem KT(H:Hd w hb mg mb):OrcOk pw w 318 hb mg mb 28 H7:=(KW H).run H.gl H.nm (mO H.kin H.g) λ_ _ h=>h
theorem K3(H:Hd w hb mg mb):OrcOk pw w 318 hb mg mb 29 sK:=(KT H).run H.gl H.nm (i8 H.kin H.g) λ_ _ h=>h
theorem Ls(H:Hd w hb mg mb):OrcOk pw w 318 hb mg mb 30 Hb:=(K3 H).run H.gl H.nm (hN H.kin H.g) λ_ _ h=>h
theorem Mv(H:Hd w hb mg mb):OrcOk pw w 318 hb mg mb 31 Jg:=(Ls H).run H.gl H.nm (fR H.kin H.g) λ_ _ h=>h
theorem Mr(H:Hd w hb mg mb):OrcOk pw w 318 hb mg mb 32 Js:=(Mv H).run H.gl H.nm (mr H.kin H.g) λ_ _ h=>h
theorem LH(H:Hd w hb mg mb):OrcOk pw w 318 hb mg mb 33 GF:=(Mr H).run H.gl H.nm (ja H.kin H.g) λ_ _ h=>h
theorem LL(H:Hd w hb mg mb):OrcOk pw w 318 hb mg mb 34 Hj:=(LH H).run H.gl H.nm (gz H.kin H.g) λ_ _ h=>h
theorem MC(H:Hd w hb mg mb):OrcOk pw w 318 hb mg mb 35 HE:=(LL H).run H.gl H.nm (qG H.kin H.g) λ_ _ h=>h
theorem LX(H:Hd w hb mg mb):OrcOk pw w 318 hb mg mb 36 Iq:=(MC H).run H.gl H.nm (iA H.kin H.g) λ_ _ h=>h
theorem L5(H:Hd w hb mg mb):OrcOk pw w 318 hb mg mb 37 HW:=(LX H).run H.gl H.nm (gJ H.kin H.g) λ_ _ h=>h
theorem Lc(H:Hd w hb mg mb):OrcOk pw w 318 hb mg mb 38 Km:=(L5 H).run H.gl H.nm (eS H.kin H.g) λ_ _ h=>h
theorem Mc(H:Hd w hb mg mb):OrcOk pw w 318 hb mg mb 39 G2:=(Lc H).run H.gl H.nm (js H.kin H.g) λ_ _ h=>h
theorem LO(H:Hd w hb mg mb):OrcOk pw w 318 hb mg mb 40 Hn:=(Mc H).run H.gl H.nm (lS H.kin H.g) λ_ _ h=>h
theorem Ly(H:Hd w hb mg mb):OrcOk pw w 318 hb mg mb 41 J6:=(LO H).run H.gl H.nm (iM H.kin H.g) λ_ _ h=>h
theorem LI(H:Hd w hb mg mb):OrcOk pw w 318 hb mg mb 42 IM:=(Ly H).run H.gl H.nm (rS H.kin H.g) λ_ _ h=>h
theorem KR(H:Hd w hb mg mb):OrcOk pw w 318 hb mg mb 43 Hz:=(LI H).run H.gl H.nm (gG H.kin H.g) λ_ _ h=>h
theorem Ld(H:Hd w hb mg mb):OrcOk pw w 318 hb mg mb 44 Hv:=(KR H).run H.gl H.nm (hW H.kin H.g) λ_ _ h=>h
theorem Mw(H:Hd w hb mg mb):OrcOk pw w 318 hb mg mb 45 HQ:=(Ld H).run H.gl H.nm (lK H.kin H.g) λ_ _ h=>h
theorem My(H:Hd w hb mg mb):OrcOk pw w 318 hb mg mb 46 Ji:=(Mw H).run H.gl H.nm (jv H.kin H.g) λ_ _ h=>h
theorem LV(H:Hd w hb mg mb):OrcOk pw w 318 hb mg mb 47 Gw:=(My H).run H.gl H.nm (k7 H.kin H.g) λ_ _ h=>h
theorem MD(H:Hd w hb mg mb):OrcOk pw w 318 hb mg mb 48 Io:=(LV H).run H.gl H.nm (oA H.kin H.g) λ_ _ h=>h
theorem Lp(H:Hd w hb mg mb):OrcOk pw w 318 hb mg mb 49 xG:=(MD H).run H.gl H.nm (fO H.kin H.g) λ_ _ h=>h
theorem M1(H:Hd w hb mg mb):OrcOk pw w 318 hb mg mb 50 J7:=(Lp H).run H.gl H.nm (nY H.kin H.g) λ_ _ h=>h
theorem MQ(H:Hd w hb mg mb):OrcOk pw w 318 hb mg mb 51 qA:=(M1 H).run H.gl H.nm (jp H.kin H.g) λ_ _ h=>h
theorem Lx(H:Hd w hb mg mb):OrcOk pw w 318 hb mg mb 52 gM:=(MQ H).run H.gl H.nm (oq H.kin H.g) λ_ _ h=>h
theorem Lh(H:Hd w hb mg mb):OrcOk pw w 318 hb mg mb 53 k0:=(Lx H).run H.gl H.nm (f6 H.kin H.g) λ_ _ h=>h
theorem Lz(H:Hd w hb mg mb):OrcOk pw w 318 hb mg mb 54 GM:=(Lh H).run H.gl H.nm (mI H.kin H.g) λ_ _ h=>h
theorem MJ(H:Hd w hb mg mb):OrcOk pw w 318 hb mg mb 55 xK:=(Lz H).run H.gl H.nm (jw H.kin H.g) λ_ _ h=>h
theorem KQ(H:Hd w hb mg mb):OrcOk pw w 318 hb mg mb 56 pP:=(MJ H).run H.gl H.nm (iK H.kin H.g) λ_ _ h=>h
theorem LG(H:Hd w hb mg mb):OrcOk pw w 318 hb mg mb 57 oz:=(KQ H).run H.gl H.nm (iN H.kin H.g) λ_ _ h=>h
theorem Mf(H:Hd w hb mg mb):OrcOk pw w 318 hb mg mb 58 AE:=(LG H).run H.gl H.nm (lM H.kin H.g) λ_ _ h=>h
theorem MB(H:Hd w hb mg mb):OrcOk pw w 318 hb mg mb 59 f9:=(Mf H).run H.gl H.nm (g5 H.kin H.g) λ_ _ h=>h
theorem ML(H:Hd w hb mg mb):OrcOk pw w 318 hb mg mb 60 dH:=(MB H).run H.gl H.nm (jq H.kin H.g) λ_ _ h=>h
theorem Mi(H:Hd w hb mg mb):OrcOk pw w 318 hb mg mb 61 jT:=(ML H).run H.gl H.nm (fC H.kin H.g) λ_ _ h=>h
theorem Me(H:Hd w hb mg mb):OrcOk pw w 318 hb mg mb 62 CT:=(Mi H).run H.gl H.nm (fB H.kin H.g) λ_ _ h=>h
theorem KL(H:Hd w hb mg mb):OrcOk pw w 318 hb mg mb 63 nL:=(Me H).run H.gl H.nm (gE H.kin H.g) λ_ _ h=>h
theorem Lo(H:Hd w hb mg mb):OrcOk pw w 318 hb mg mb 64 Z63:=(KL H).run H.gl H.nm (lp H.kin H.g) λ_ _ h=>h
theorem Ll(H:Hd w hb mg mb):OrcOk pw w 318 hb mg mb 65 Z64:=(Lo H).run H.gl H.nm (d7 H.kin H.g) λ_ _ h=>h
theorem Mg(H:Hd w hb mg mb):OrcOk pw w 318 hb mg mb 66 Z65:=(Ll H).run H.gl H.nm (d7 H.kin H.g) λ_ _ h=>h
theorem Mo(H:Hd w hb mg mb):OrcOk pw w 318 hb mg mb 67 Z66:=(Mg H).run H.gl H.nm (d7 H.kin H.g) λ_ _ h=>h
theorem Mk(H:Hd w hb mg mb):OrcOk pw w 318 hb mg mb 68 rA:=(Mo H).run H.gl H.nm (kt H.kin H.g) λ_ _ h=>h
theorem Du(H:Hd w hb mg mb):OrcOk pw w 318 hb mg mb 69 dn:=(Mk H).run H.gl H.nm (jg H.kin H.g) λ_ _ h=>h
end
end
section
structure Ec(β:Type) where
 V:Kd→Expr→Loc→(V→Loc→Option β)→Option β
 B:Kd→Expr→Loc→(Bool→Loc→Option β)→Option β
 X:Kd→Stmt→Loc→(O→Option β)→Option β
section
variable{β:Type}(cp:Bool)(E:Ev)(C:Ec β)(Z:Orc)(kd:Kd)
noncomputable def cT(e:Expr)(σ:Loc)(k:T→Loc→Option β):Option β:=C.V kd e σ λa σ'=>k a.frz σ'
noncomputable def Au(e:Expr)(σ:Loc)(k:Int→Loc→Option β):Option β:=cT C kd e σ λt σ'=>t.int?.bind λi=>k i σ'
noncomputable def nV(e:Expr)(σ:Loc)(k:Str→Loc→Option β):Option β:=cT C kd e σ λt σ'=>t.str?.bind λi=>k i σ'
noncomputable def qF(e:Expr)(σ:Loc)(k:Bool→Loc→Option β):Option β:=cT C kd e σ λt σ'=>t.bool?.bind λi=>k i σ'
noncomputable def CW:List Expr→Loc→(List T→Loc→Option β)→Option β
 |[],σ,k=>k [] σ
 |e ::es,σ,k=>gd (!aO e) (cT C kd e σ λt ZZ=>CW es ZZ λts ZY=>k (t ::ts) ZY)
noncomputable def A0(op:BoolOp):List Expr→Loc→(Bool→Loc→Option β)→Option β
 |[],σ,k=>k (!jO op true) σ
 |e ::es,σ,k=>C.B kd e σ λb ZZ=>bif jO op b then k b ZZ else A0 op es ZZ k
noncomputable def JN(op:BoolOp):List Expr→Loc→(Bool→Loc→Option β)→Option β
 |[],σ,k=>none
 |e ::es,σ,k=>qF C kd e σ λb ZZ=>match es with
  |[]=>k b ZZ
  |_ ::_=>bif jO op b then k b ZZ else JN op es ZZ k
noncomputable def zT{e:Expr}(v:VJ e)(σ:Loc)(k:Str→Loc→Option β):Option β:=match v with
 |.fmt e _=>cT C kd e σ λt ZZ=>match t with
  |.int i=>gd (decide (i.natAbs.log2 < 1920)) (k (toString i) ZZ)
  |.str t=>gd (ag t.length) (k t ZZ)
  |_=>none
 |.str t _ _=>k t σ
noncomputable def Jj:List Expr→Loc→Str→(Str→Loc→Option β)→Option β
 |[],σ,acc,k=>k acc σ
 |e ::es,σ,acc,k=>(zN e).bind λv=>zT C kd v σ λt ZZ=>gd (ag (acc ++ t).length) (Jj es ZZ (acc ++ t) k)
noncomputable def Cz(ifs:List Expr)(σ:Loc)(k:Bool→Loc→Option β):Option β:=match ifs with
 |[]=>k true σ
 |[c]=>C.B kd c σ k
 |_=>none
noncomputable def kI(x:Str)(ifs:List Expr)(elt:Expr):List T→Loc→(List T→Loc→Option β)→Option β
 |[],σ,k=>k [] σ
 |t ::ts,σ,k=>Cz C kd ifs (σ.set x (.f t)) λb ZZ=>match b with
  |true=>cT C kd elt ZZ λu ZY=>kI x ifs elt ts ZY λus ZX=>k (u ::us) ZX
  |false=>kI x ifs elt ts ZZ k
noncomputable def wt(elt:Expr)(x:Str)(iter:Expr)(ifs:List Expr)(scope:Scope)(σ:Loc)(k:List T→Loc→Option β):Option β:=match cp with
 |false=>bd (evComp E kd elt x iter ifs scope σ) k
 |true=>gd (aG kd scope x) (bd (evIt E kd iter σ) λts ZZ=>gd (still? ZZ x && ay ZZ scope x && ag ts.length)
  (kI C (kdC scope kd) x ifs elt ts (ZZ.del x) λus σe=>gd (ay σe scope x) (k us (Loc.back ZZ σe x))))
noncomputable def AH(l:Expr)(op:CmpOp)(r:Expr)(σ:Loc)(k:Bool→Loc→Option β):Option β:=cT C kd l σ λa ZZ=>match viewN r with
 |some v=>match v with
  |.name x _=>gd (aF kd x) ((ZZ.lookup x).bind λb=>(aT op a b.frz).bind λc=>k c ZZ)
 |none=>cT C kd r ZZ λb ZY=>(aT op a b).bind λc=>k c ZY
noncomputable def k4(f:Str)(args:List Expr)(σ:Loc)(k:V→Loc→Option β):Option β:=CW C kd args σ λts ZZ=>(Z.Φ f ts).bind λa=>k a ZZ
noncomputable def cA:{f:Str}→{args:List Expr}→VA f args→Loc→(V→Loc→Option β)→Option β
 |_,_,.isi f a y p h1 h2,σ,k=>bd (jd E Z kd (.isi f a y p h1 h2) σ) k
 |_,_,.len1 f x p h,σ,k=>match lent? σ x with
  |some n=>bd (jd E Z kd (.len1 f x p h) σ) k
  |none=>k4 C Z kd f [.Name x p] σ k
 |_,_,.lrng f g q es p h1 h2,σ,k=>bd (jd E Z kd (.lrng f g q es p h1 h2) σ) k
noncomputable def zU(ψ:List T→List T→Option (V×List T))(args:List Expr)(σ:Loc)(k:V→Loc→Option β):Option β:=(yX args).bind λv=>match v with
 |.mk x _ e _=>gd (aF kd x && (ownL σ x).isSome) (cT C kd e σ λt ZZ=>(ownL ZZ x).bind λc=>(ψ [t] c).bind λr=>k r.1 (ZZ.set x (.ol r.2)))
noncomputable def Fi(f:Str)(args:List Expr)(σ:Loc)(k:V→Loc→Option β):Option β:=gd (!args.isEmpty) (((σ.lookup f).bind uA).bind λb=>CW C kd args σ λts ZZ=>(ownL ZZ (ghost 0)).bind λc=>(Z.Θ b ts c).bind λr=>k r.1 (ZZ.set (ghost 0) (.ol r.2)))
noncomputable def Bj:List (Option Expr)→List Expr→Loc→(List Str×List T→Loc→Option β)→Option β
 |[],[],σ,k=>k ([],[]) σ
 |x ::ks,v ::vs,σ,k=>(Ad x).bind λx=>match x with
  |.mk x _ _=>cT C kd v σ λt ZZ=>Bj ks vs ZZ λp ZY=>k (x ::p.1,t ::p.2) ZY
 |_,_,_,_=>none
noncomputable def yQ(keys:List (Option Expr))(values:List Expr)(σ:Loc)(k:V→Loc→Option β):Option β:=match keys,values with
 |[],[]=>k (.od [] []) σ
 |ks,vs=>gd (decide (ks.length=vs.length) && decide (ks.length≤15) && !ks.isEmpty && ks.all (·.isSome)) (Bj C kd ks vs σ λp ZZ=>gd (decide p.1.Nodup) (k (.od p.1 p.2) ZZ))
noncomputable def pa(f:Str)(args:List Expr)(σ:Loc)(k:V→Loc→Option β):Option β:=match isGlob kd f with
 |true=>match Z.Ψ f with
  |some ψ=>zU C kd ψ args σ k
  |none=>match viewA f args with
   |some v=>cA E C Z kd v σ k
   |none=>k4 C Z kd f args σ k
 |false=>gd (aF kd f) (Fi C Z kd f args σ k)
noncomputable def j6(o:Expr)(nm:Str)(a:Expr)(σ:Loc)(k:T→Loc→Option β):Option β:=
 if nm="get" then cT C kd o σ λd ZZ=>nV C kd a ZZ λx ZY=>(yT x d).bind λt=>k t ZY
 else if nm="join" then nV C kd o σ λsep ZZ=>cT C kd a ZZ λd ZY=>d.list?.bind λts=>(iG sep ts).bind λt=>k t ZY
 else if nm="index" then cT C kd o σ λd ZZ=>d.seq?.bind λts=>nV C kd a ZZ λx ZY=>(dM ts x).bind λt=>k t ZY
 else none
noncomputable def pU(x:Str)(a:Expr)(σ:Loc)(k:T→Loc→Option β):Option β:=gd (aF kd x) (nV C kd a σ λy ZZ=>(ownL ZZ x).bind λts=>gd (ag ts.length) ((dM ts y).bind λt=>k t ZZ))
noncomputable def uo(o:Expr)(nm:Str){args:List Expr}(v:VM args)(σ:Loc)(k:T→Loc→Option β):Option β:=match v with
 |.one a _=>match viewN o with
  |some v=>match v with
   |.name x p=>match (if nm="index" then ownL σ x else none)with
    |some _=>pU C kd x a σ k
    |none=>j6 C kd (.Name x p) nm a σ k
  |none=>j6 C kd o nm a σ k
 |.two a b h1 h2=>bd (gx E kd o nm (.two a b h1 h2) σ) k
noncomputable def vB(v i:Expr)(σ:Loc)(k:T→Loc→Option β):Option β:=cT C kd v σ λa ZZ=>cT C kd i ZZ λb ZY=>(aw a b).bind λu=>k u ZY
noncomputable def A9(v i:Expr)(σ:Loc)(k:T→Loc→Option β):Option β:=match viewN v with
 |some v=>match v with
  |.name x p=>match lent? σ x with
   |some n=>bd (qt E kd x n i σ) k
   |none=>vB C kd (.Name x p) i σ k
 |none=>vB C kd v i σ k
noncomputable def pZ(x:Str)(σ:Loc)(k:T→Loc→Option β):Option β:=gd (aF kd x) ((σ.lookup x).bind λa=>match a with
 |.f t=>k t σ
 |a=>k a.frz (σ.set x (.f a.frz)))
noncomputable def kE{e:Expr}(v:VE e)(σ:Loc)(k:V→Loc→Option β):Option β:=match v with
 |.name x _=>pZ kd x σ λt ZZ=>k (.f t) ZZ
 |.list es _=>CW C kd es σ λts ZZ=>gd (ag ts.length) (k (.ol ts) ZZ)
 |.dict ks vs _=>yQ C kd ks vs σ k
 |.tup es _ _=>CW C kd es σ λts ZZ=>gd (ag ts.length) (k (.f (.tup ts)) ZZ)
 |.bin l op r _=>cT C kd l σ λa ZZ=>cT C kd r ZZ λb ZY=>(ez op a b).bind λc=>k c ZY
 |.neg e _=>Au C kd e σ λi ZZ=>k (.f (.int (-i))) ZZ
 |.bool op es _=>JN C kd op es σ λb ZZ=>k (.f (.bool b)) ZZ
 |.ifx t a b _=>C.B kd t σ λc ZZ=>bif c then cT C kd a ZZ λt ZY=>k (.f t) ZY else cT C kd b ZZ λt ZY=>k (.f t) ZY
 |.cmp l op r _ _=>AH C kd l op r σ λb ZZ=>k (.f (.bool b)) ZZ
 |.joined a b es _=>Jj C kd (a ::b ::es) σ Str.empty λout ZZ=>gd (ag out.length) (k (.f (.str out)) ZZ)
 |.attr e nm _ _=>cT C kd e σ λt ZZ=>(mM nm t).bind λu=>k (.f u) ZZ
 |.sub v i _ _=>A9 E C kd v i σ λt ZZ=>k (.f t) ZZ
 |.comp elt x _ iter ifs scope _=>wt cp E C kd elt x iter ifs scope σ λus ZZ=>k (.ol us) ZZ
 |.call f _ args _=>pa E C Z kd f args σ k
 |.meth o nm _ args _ _ _=>(hJ args).bind λv=>uo E C kd o nm v σ λt ZZ=>k (.f t) ZZ
 |v=>bd (ci E Z kd v σ) k
noncomputable def tn(e:Expr)(σ:Loc)(k:V→Loc→Option β):Option β:=(jI e).bind λv=>kE cp E C Z kd v σ k
noncomputable def vV(e:Expr)(σ:Loc)(k:Bool→Loc→Option β):Option β:=match plainB e with
 |true=>qF C kd e σ k
 |false=>(jI e).bind λv=>match v with
  |.not e _=>C.B kd e σ λb ZZ=>k (!b) ZZ
  |.bool op es _=>A0 C kd op es σ k
  |.cmp l op r _ _=>AH C kd l op r σ k
  |_=>none
noncomputable def oE:List Stmt→Loc→(O→Option β)→Option β
 |[],σ,k=>k (.nx σ)
 |s ::ss,σ,k=>C.X kd s σ λo=>match o with
  |.nx ZZ=>oE ss ZZ k
  |o=>k o
noncomputable def Bl(n:Nat)(o:O)(f:Loc→Option β)(k:O→Option β):Option β:=match o with
 |.nx σ=>f (σ.take n)
 |.ct σ=>f (σ.take n)
 |.bk σ=>k (.nx (σ.take n))
 |.rt a σ=>k (.rt a σ)
noncomputable def CG(x:Str)(body:List Stmt)(n:Nat):List T→Loc→(O→Option β)→Option β
 |[],σ,k=>k (.nx σ)
 |t ::ts,σ,k=>oE C kd body (σ.set x (.f t)) λo=>Bl n o (λσ=>CG x body n ts σ k) k
noncomputable def Cy(x:Str)(nm:Str)(args:List Expr)(σ:Loc)(k:O→Option β):Option β:=gd (aF kd x) ((ownL σ x).bind λts₀=>match args with
 |[]=>gd (decide (nm="reverse") && ag ts₀.length) (k (.nx (σ.set x (.ol ts₀.reverse))))
 |args=>(hJ args).bind λv=>match v with
  |.one e _=>cT C kd e σ λt ZZ=>(ownL ZZ x).bind λts=>(aV nm ts t).bind λus=>k (.nx (ZZ.set x (.ol us)))
  |.two _ _ _ _=>none)
noncomputable def t9(x:Str)(n:Nat)(nm:Str)(args:List Expr)(σ:Loc)(k:O→Option β):Option β:=gd (aF kd x) (if nm="pop" then(zC args).bind λv=>match v with
  |.mk _ _=>(ownL σ (ghost n)).bind λc=>(v8 c).bind λts=>k (.nx (σ.set (ghost n) (.ol ts)))
 else if nm="append" then(hJ args).bind λv=>match v with
  |.one e _=>gd (ownL σ (ghost n)).isSome (cT C kd e σ λt ZZ=>(ownL ZZ (ghost n)).bind λts=>gd (ag ts.length) (k (.nx (ZZ.set (ghost n) (.ol (ts ++ [t]))))))
  |.two _ _ _ _=>none
 else none)
noncomputable def yV(x:Str)(i v:Expr)(σ:Loc)(k:O→Option β):Option β:=gd (aF kd x) (cT C kd v σ λt ZZ=>match lent? ZZ x with
 |some n=>Au C kd i ZZ λj ZY=>(ownL ZY (ghost n)).bind λts=>gd (decide (0≤j) && decide (j < 2 ^ 63) && decide (j < ts.length)) (k (.nx (ZY.set (ghost n) (.ol (ts.set j.toNat t)))))
 |none=>gd (ZZ.lookup x).isSome (nV C kd i ZZ λy ZY=>((ZY.lookup x).bind BS).bind λp=>gd (ag p.1.length) (k (.nx (ZY.set x (.od (dI p.1 p.2 y t).1 (dI p.1 p.2 y t).2))))))
noncomputable def iC(x y:Str)(ke:Expr)(σ:Loc)(k:O→Option β):Option β:=nV C kd ke σ λc ZZ=>((ZZ.lookup x).bind tL).bind λp=>((ZZ.lookup y).bind V.still?).bind λt=>
 gd (ag p.1.length && p.2.all (λts=>ag ts.length)) (k (.nx (ZZ.set x (.odl (a7 p.1 p.2 c t).1 (a7 p.1 p.2 c t).2))))
noncomputable def pQ(x y:Str)(ke:Expr)(σ:Loc)(k:O→Option β):Option β:=gd (aF kd x && aF kd y) ((σ.lookup x).bind λa=>match a with
 |.odl _ _=>iC C kd x y ke σ k
 |.od [] []=>iC C kd x y ke (σ.set x (.odl [] [])) k
 |_=>none)
noncomputable def cX(W:Nat){s:Stmt}(v:VX s)(σ:Loc)(k:O→Option β):Option β:=match v with
 |.ret e _=>C.V kd e σ λa ZZ=>k (.rt a ZZ)
 |.asgComp x _ elt y _ iter ifs scope _ _=>gd (bG Z kd x) (wt cp E C kd elt y iter ifs scope σ λus ZZ=>k (.nx (ZZ.set x (.ol us))))
 |.asg x _ v _ _=>gd (bG Z kd x) (C.V kd v σ λa ZZ=>k (.nx (ZZ.set x a)))
 |.ite t b o _=>C.B kd t σ λc ZZ=>bif c then oE C kd b ZZ k else oE C kd o ZZ k
 |.for x px it body p=>match cp with
  |true=>gd (bG Z kd x) (bd (evIt E kd it σ) λts ZZ=>CG C kd x body ZZ.length ts ZZ k)
  |false=>(ew E Z kd W (.for x px it body p) σ).bind k
 |.expr f _ args _ _=>pa E C Z kd f args σ λ_ ZZ=>k (.nx ZZ)
 |.mutS x px nm ap args p p2 h=>match lent? σ x with
  |some n=>t9 C kd x n nm args σ k
  |none=>Cy C kd x nm args σ k
 |.item x _ i _ v _ _=>yV C kd x i v σ k
 |.setapp x _ _ _ ke _ _ _ _ y _ _ _ _ _ _ _ _=>pQ C kd x y ke σ k
 |.pass _=>k (.nx σ)
 |.brk _=>k (.bk σ)
 |.cnt _=>k (.ct σ)
 |v=>(ew E Z kd W v σ).bind k
noncomputable def tQ(W:Nat)(s:Stmt)(σ:Loc)(k:O→Option β):Option β:=(zy s).bind λv=>cX cp E C Z kd W v σ k
end
noncomputable def Ec.next{β:Type}(cp:Bool)(Z:Orc)(W:Nat)(E:Ev)(C:Ec β):Ec β:=⟨tn cp E C Z,vV C,λkd=>tQ cp E C Z kd W⟩
noncomputable def Ec.at{β:Type}(cp:Bool)(Z:Orc)(W:Nat):Nat→Ec β
 |0=>⟨λ_ _ _ _=>none,λ_ _ _ _=>none,λ_ _ _ _=>none⟩
 |k+1=>.next cp Z W (Ev.at Z W k) (Ec.at cp Z W k)
section
variable{α β γ δ:Type}
theorem aD(a:α)(σ:Loc)(f:α→Loc→Option β):bd (some (a,σ)) f=f a σ:=rfl
theorem aa(a:α)(f:α→Option β):(some a).bind f=f a:=rfl
theorem aY{x:Option (α×Loc)}{k:β→Loc→Option γ}{f:α→Loc→Option γ}{g:α→Loc→Option (β×Loc)}(h:∀a σ,f a σ=bd (g a σ) k):bd x f=bd (bd x g) k:=by
 cases x
 ·rfl
 ·exact h _ _
theorem dJ{c:Bool}{k:β→Loc→Option γ}{x:Option γ}{y:Option (β×Loc)}(h:x=bd y k):gd c x=bd (gd c y) k:=by
 cases c
 ·rfl
 ·exact h
theorem fN{x:Option α}{k:β→Loc→Option γ}{f:α→Option γ}{g:α→Option (β×Loc)}(h:∀a,f a=bd (g a) k):x.bind f=bd (x.bind g) k:=by
 cases x
 ·rfl
 ·exact h _
theorem eP{x:Option α}{k:β→Loc→Option γ}{f:α→Option γ}{g:α→β×Loc}(h:∀a,f a=k (g a).1 (g a).2):x.bind f=bd (x.map g) k:=by
 cases x
 ·rfl
 ·exact h _
theorem C1{c:Bool}{k:β→Loc→Option γ}{x x':Option γ}{y y':Option (β×Loc)}(h:x=bd y k)(h':x'=bd y' k):(bif c then x else x')=bd (bif c then y else y') k:=by
 cases c
 ·exact h'
 ·exact h
theorem gK{x:Option (α×Loc)}{k:δ→Option γ}{f:α→Loc→Option γ}{g:α→Loc→Option δ}(h:∀a σ,f a σ=(g a σ).bind k):bd x f=(bd x g).bind k:=by
 cases x
 ·rfl
 ·exact h _ _
theorem ft{c:Bool}{k:δ→Option γ}{x:Option γ}{y:Option δ}(h:x=y.bind k):gd c x=(gd c y).bind k:=by
 cases c
 ·rfl
 ·exact h
theorem eO{x:Option α}{k:δ→Option γ}{f:α→Option γ}{g:α→Option δ}(h:∀a,f a=(g a).bind k):x.bind f=(x.bind g).bind k:=by
 cases x
 ·rfl
 ·exact h _
theorem Fz{x:Option α}{k:δ→Option γ}{f:α→Option γ}{g:α→δ}(h:∀a,f a=k (g a)):x.bind f=(x.map g).bind k:=by
 cases x
 ·rfl
 ·exact h _
end
structure EcOk{β:Type}(C:Ec β)(E:Ev):Prop where
 v:∀kd e σ k,C.V kd e σ k=bd (E.V kd e σ) k
 b:∀kd e σ k,C.B kd e σ k=bd (E.B kd e σ) k
 x:∀kd s σ k,C.X kd s σ k=(E.X kd s σ).bind k
section
variable{β:Type}{cp:Bool}{E:Ev}{C:Ec β}{Z:Orc}{kd:Kd}(H:EcOk C E)
include H
theorem cw(e σ)(k:T→Loc→Option β):cT C kd e σ k=bd (evT E kd e σ) k:=(H.v kd e σ _).trans (aY λ_ _=>rfl)
theorem uv(e σ)(k:Int→Loc→Option β):Au C kd e σ k=bd (iO E kd e σ) k:=(cw H e σ _).trans (aY λ_ _=>eP λ_=>rfl)
theorem fX(e σ)(k:Str→Loc→Option β):nV C kd e σ k=bd (fA E kd e σ) k:=(cw H e σ _).trans (aY λ_ _=>eP λ_=>rfl)
theorem kM(e σ)(k:Bool→Loc→Option β):qF C kd e σ k=bd (iS E kd e σ) k:=(cw H e σ _).trans (aY λ_ _=>eP λ_=>rfl)
theorem pB(es):∀(σ)(k:List T→Loc→Option β),CW C kd es σ k=bd (f4 E kd es σ) k:=by
 induction es with
 |nil=>intro σ k;rfl
 |cons e es ih=>exact λσ k=>dJ ((cw H e σ _).trans (aY λt ZZ=>(ih _ _).trans (aY λ_ _=>rfl)))
theorem CC(op es):∀(σ)(k:Bool→Loc→Option β),A0 C kd op es σ k=bd (pF E kd op es σ) k:=by
 induction es with
 |nil=>intro σ k;rfl
 |cons e es ih=>exact λσ k=>(H.b kd e σ _).trans (aY λb ZZ=>C1 rfl (ih _ _))
theorem ER(op es):∀(σ)(k:Bool→Loc→Option β),JN C kd op es σ k=bd (wT E kd op es σ) k:=by
 induction es with
 |nil=>intro σ k;rfl
 |cons e es ih=>
  cases es with
  |nil=>exact λσ k=>(kM H e σ _).trans (aY λ_ _=>rfl)
  |cons e2 es=>exact λσ k=>(kM H e σ _).trans (aY λb ZZ=>C1 rfl (ih _ _))
theorem w7{e}(v:VJ e)(σ)(k:Str→Loc→Option β):zT C kd v σ k=bd (wY E kd v σ) k:=by
 induction v with
 |fmt e p=>
  show cT C kd e σ (λt ZZ=>match t with
   |.int i=>gd (decide (i.natAbs.log2 < 1920)) (k (toString i) ZZ)
   |.str t=>gd (ag t.length) (k t ZZ)
   |_=>none)=bd (bd (evT E kd e σ) λt ZZ=>match t with
   |.int i=>gd (decide (i.natAbs.log2 < 1920)) (some ((toString i:Str),ZZ))
   |.str t=>gd (ag t.length) (some (t,ZZ))
   |_=>none) k
  refine(cw H e σ _).trans (aY λt ZZ=>?_)
  cases t<;>first|rfl|exact dJ rfl
 |str=>rfl
theorem DJ(es):∀(σ acc)(k:Str→Loc→Option β),Jj C kd es σ acc k=bd (xj E kd es σ acc) k:=by
 induction es with
 |nil=>intro σ acc k;rfl
 |cons e es ih=>exact λσ acc k=>fN λv=>(w7 H v σ _).trans (aY λt ZZ=>dJ (ih _ _ _))
theorem wb(ifs σ)(k:Bool→Loc→Option β):Cz C kd ifs σ k=bd (ifsGo E kd ifs σ) k:=by
 cases ifs with
 |nil=>rfl
 |cons c r=>cases r with
  |nil=>exact H.b kd c σ k
  |cons=>rfl
theorem t6(x ifs elt ts):∀(σ)(k:List T→Loc→Option β),kI C kd x ifs elt ts σ k=bd (compGo E kd x ifs elt ts σ) k:=by
 induction ts with
 |nil=>intro σ k;rfl
 |cons t ts ih=>exact λσ k=>(wb H ifs _ _).trans (aY λb ZZ=>by
   cases b with
   |true=>exact(cw H elt ZZ _).trans (aY λu ZY=>(ih _ _).trans (aY λ_ _=>rfl))
   |false=>exact ih _ _)
theorem pq(elt x iter ifs scope σ)(k:List T→Loc→Option β):wt cp E C kd elt x iter ifs scope σ k=bd (evComp E kd elt x iter ifs scope σ) k:=by
 cases cp with
 |false=>rfl
 |true=>exact dJ (aY λts ZZ=>dJ ((t6 H x ifs elt ts _ _).trans (aY λus σe=>dJ rfl)))
theorem vw(l op r σ)(k:Bool→Loc→Option β):AH C kd l op r σ k=bd (pj E kd l op r σ) k:=by
 refine(cw H l σ _).trans (aY λa ZZ=>?_)
 cases viewN r with
 |some v=>induction v;exact dJ (fN λb=>eP λ_=>rfl)
 |none=>exact(cw H r ZZ _).trans (aY λb ZY=>eP λ_=>rfl)
theorem lN(f args σ)(k:V→Loc→Option β):k4 C Z kd f args σ k=bd (cF E Z kd f args σ) k:=(pB H args σ _).trans (aY λ_ _=>eP λ_=>rfl)
theorem Jo{f args}(v:VA f args)(σ)(k:V→Loc→Option β):cA E C Z kd v σ k=bd (jd E Z kd v σ) k:=by
 induction v with
 |isi=>rfl
 |lrng=>rfl
 |len1 x p h=>
  show(match lent? σ x with
   |some n=>bd (jd E Z kd (.len1 f x p h) σ) k
   |none=>k4 C Z kd f [.Name x p] σ k)=bd (match lent? σ x with
   |some n=>gd (aF kd x) ((ownL σ (ghost n)).bind λts=>gd (decide (ts.length < 16777216)) (some (.f (.int ts.length),σ)))
   |none=>cF E Z kd f [.Name x p] σ) k
  cases hl:lent? σ x with
  |some n=>show bd (match lent? σ x with
   |some n=>gd (aF kd x) ((ownL σ (ghost n)).bind λts=>gd (decide (ts.length < 16777216)) (some (.f (.int ts.length),σ)))
   |none=>cF E Z kd f [.Name x p] σ) k=_;rw[hl]
  |none=>exact lN H f _ σ k
theorem w8(ψ args σ)(k:V→Loc→Option β):zU C kd ψ args σ k=bd (m9 E kd ψ args σ) k:=fN λv=>by
 induction v
 exact dJ ((cw H _ σ _).trans (aY λt ZZ=>fN λc=>eP λ_=>rfl))
theorem BP(f args σ)(k:V→Loc→Option β):Fi C Z kd f args σ k=bd (qB E Z kd f args σ) k:=
 dJ (fN λb=>(pB H args σ _).trans (aY λts ZZ=>fN λc=>eP λ_=>rfl))
theorem BZ(ks):∀(vs σ)(k:List Str×List T→Loc→Option β),Bj C kd ks vs σ k=bd (me E kd ks vs σ) k:=by
 induction ks with
 |nil=>intro vs σ k;cases vs<;>rfl
 |cons x ks ih=>
  intro vs σ k
  cases vs with
  |nil=>rfl
  |cons v vs=>
   exact fN λx=>by
    induction x
    exact(cw H v σ _).trans (aY λt ZZ=>(ih _ _ _).trans (aY λ_ _=>rfl))
theorem xQ(ks vs σ)(k:V→Loc→Option β):yQ C kd ks vs σ k=bd (tV E kd ks vs σ) k:=by
 cases ks<;>cases vs<;>first|rfl|exact dJ ((BZ H _ _ σ _).trans (aY λp ZZ=>dJ rfl))
theorem ph(f args σ)(k:V→Loc→Option β):pa E C Z kd f args σ k=bd (jR E Z kd f args σ) k:=by
 unfold pa jR
 cases isGlob kd f with
 |true=>
  dsimp only
  cases Z.Ψ f with
  |some ψ=>exact w8 H ψ args σ k
  |none=>
   dsimp only
   cases viewA f args with
   |some v=>exact Jo H v σ k
   |none=>exact lN H f args σ k
 |false=>exact dJ (BP H f args σ k)
theorem mN(o nm a σ)(k:T→Loc→Option β):j6 C kd o nm a σ k=bd (jQ E kd o nm a σ) k:=by
 unfold j6 jQ
 split
 ·exact(cw H o σ _).trans (aY λd ZZ=>(fX H a ZZ _).trans (aY λx ZY=>eP λ_=>rfl))
 split
 ·exact(fX H o σ _).trans (aY λd ZZ=>(cw H a ZZ _).trans (aY λx ZY=>fN λ_=>eP λ_=>rfl))
 split
 ·exact(cw H o σ _).trans (aY λd ZZ=>fN λts=>(fX H a ZZ _).trans (aY λx ZY=>eP λ_=>rfl))
 ·rfl
theorem sp(x a σ)(k:T→Loc→Option β):pU C kd x a σ k=bd (v9 E kd x a σ) k:=
 dJ ((fX H a σ _).trans (aY λy ZZ=>fN λts=>dJ (eP λ_=>rfl)))
theorem wL(o nm){args}(v:VM args)(σ)(k:T→Loc→Option β):uo E C kd o nm v σ k=bd (gx E kd o nm v σ) k:=by
 induction v with
 |one a h=>
  unfold uo gx
  dsimp only
  cases viewN o with
  |none=>exact mN H _ _ _ _ _
  |some v=>
   induction v
   dsimp only
   cases (if nm="index" then ownL σ _ else none)with
   |some _=>exact sp H _ _ _ _
   |none=>exact mN H _ _ _ _ _
 |two=>rfl
theorem qe(v i σ)(k:T→Loc→Option β):vB C kd v i σ k=bd (wD E kd v i σ) k:=(cw H v σ _).trans (aY λa ZZ=>(cw H i ZZ _).trans (aY λb ZY=>eP λ_=>rfl))
theorem B9(v i σ)(k:T→Loc→Option β):A9 E C kd v i σ k=bd (uN E kd v i σ) k:=by
 unfold A9 uN
 cases viewN v with
 |none=>exact qe H _ _ _ _
 |some v=>
  induction v
  dsimp only
  cases lent? σ _ with
  |some _=>rfl
  |none=>exact qe H _ _ _ _
omit H in
theorem yp(x σ)(k:T→Loc→Option β):pZ kd x σ k=bd (tg kd x σ) k:=dJ (fN λa=>by cases a<;>rfl)
omit H in
theorem lu{γ:Type}(x:Option (T×Loc))(k:V→Loc→Option γ):bd x (λt σ=>k (.f t) σ)=bd (fz x) k:=by cases x<;>rfl
theorem HN{e}(v:VE e)(σ)(k:V→Loc→Option β):kE cp E C Z kd v σ k=bd (ci E Z kd v σ) k:=by
 induction v with
 |name x p=>exact(yp x σ _).trans (lu _ _)
 |list es p=>exact(pB H es σ _).trans (aY (g:=fun(ts:List T) ZZ=>gd (ag ts.length) (some (V.ol ts,ZZ))) λ_ _=>dJ rfl)
 |tup es b p=>exact(pB H es σ _).trans (aY (g:=fun(ts:List T) ZZ=>gd (ag ts.length) (some (V.f (.tup ts),ZZ))) λ_ _=>dJ rfl)
 |bin l op r p=>exact(cw H l σ _).trans (aY (g:=λa ZZ=>bd (evT E kd r ZZ) λb ZY=>(ez op a b).map λc=>(c,ZY)) λa ZZ=>(cw H r ZZ _).trans (aY λb ZY=>eP λ_=>rfl))
 |neg e p=>exact(uv H e σ _).trans (aY (g:=λi ZZ=>some (V.f (.int (-i)),ZZ)) λ_ _=>rfl)
 |bool op es p=>exact(ER H op es σ _).trans (aY (g:=λb ZZ=>some (V.f (.bool b),ZZ)) λ_ _=>rfl)
 |ifx t a b p=>
  exact(H.b kd t σ _).trans (aY (g:=fun(c:Bool) ZZ=>fz (evT E kd (if c then a else b) ZZ)) λc ZZ=>by
   cases c with
   |true=>exact(cw H a ZZ _).trans (lu _ _)
   |false=>exact(cw H b ZZ _).trans (lu _ _))
 |cmp l op r p h=>exact(vw H l op r σ _).trans (aY (g:=λb ZZ=>some (V.f (.bool b),ZZ)) λ_ _=>rfl)
 |joined a b es p=>exact(DJ H (a ::b ::es) σ _ _).trans (aY (g:=fun(out:Str) ZZ=>gd (ag out.length) (some (V.f (.str out),ZZ))) λ_ _=>dJ rfl)
 |attr e nm p h=>exact(cw H e σ _).trans (aY (g:=λt ZZ=>(mM nm t).map λu=>(V.f u,ZZ)) λt ZZ=>eP λ_=>rfl)
 |sub v i p h=>exact(B9 H v i σ _).trans (lu _ _)
 |comp elt x px iter ifs scope p=>exact(pq H elt x iter ifs scope σ _).trans (aY (g:=λus ZZ=>some (V.ol us,ZZ)) λ_ _=>rfl)
 |dict ks vs p=>exact xQ H ks vs σ k
 |call f q args p=>exact ph H f args σ k
 |meth o nm ap args p h hp=>exact fN (g:=λv=>fz (gx E kd o nm v σ)) λv=>(wL H o nm v σ _).trans (lu _ _)
 |_=>rfl
theorem wq(e σ)(k:V→Loc→Option β):tn cp E C Z kd e σ k=bd (tG E Z kd e σ) k:=fN λv=>HN H v σ k
theorem vv(e σ)(k:Bool→Loc→Option β):vV C kd e σ k=bd (lz E kd e σ) k:=by
 show(match plainB e with
  |true=>qF C kd e σ k
  |false=>(jI e).bind _)=bd (match plainB e with
  |true=>iS E kd e σ
  |false=>(jI e).bind _) k
 cases plainB e with
 |true=>exact kM H _ _ _
 |false=>
  refine fN λv=>?_
  induction v with
  |not e p=>exact(H.b kd _ σ _).trans (aY (g:=λb ZZ=>some (!b,ZZ)) λ_ _=>rfl)
  |bool op es p=>exact CC H op es σ k
  |cmp l op r p h=>exact vw H l op r σ k
  |_=>exact @rfl _ (none:Option β)
theorem iV(ss):∀(σ)(k:O→Option β),oE C kd ss σ k=(exs E kd ss σ).bind k:=by
 induction ss with
 |nil=>intro σ k;rfl
 |cons s ss ih=>exact λσ k=>(H.x kd s σ _).trans (eO λo=>by cases o<;>first|exact ih _ k|rfl)
theorem BU(x body n ts):∀(σ)(k:O→Option β),CG C kd x body n ts σ k=(aC E kd x body n ts σ).bind k:=by
 induction ts with
 |nil=>intro σ k;rfl
 |cons t ts ih=>exact λσ k=>(iV H body _ _).trans (eO λo=>by cases o<;>first|exact ih _ k|rfl)
theorem Ar(x nm args σ)(k:O→Option β):Cy C kd x nm args σ k=(gQ E kd x nm args σ).bind k:=by
 refine ft (eO λts₀=>?_)
 cases args with
 |nil=>exact ft rfl
 |cons a as=>
  refine eO λv=>?_
  cases v with
  |one=>exact(cw H _ σ _).trans (gK λt ZZ=>eO λts=>Fz λ_=>rfl)
  |two=>rfl
theorem yE(x n nm args σ)(k:O→Option β):t9 C kd x n nm args σ k=(gN E kd x n nm args σ).bind k:=by
 refine ft ?_
 split
 ·exact eO λv=>by induction v;exact eO λc=>Fz λ_=>rfl
 split
 ·refine eO λv=>?_
  induction v with
  |one e h=>exact ft ((cw H e σ _).trans (gK λt ZZ=>eO λts=>ft rfl))
  |two=>rfl
 ·rfl
theorem yG(x i v σ)(k:O→Option β):yV C kd x i v σ k=(uJ E kd x i v σ).bind k:=by
 refine ft ((cw H v σ _).trans (gK λt ZZ=>?_))
 cases lent? ZZ x with
 |some n=>exact(uv H i ZZ _).trans (gK λj ZY=>eO λts=>ft rfl)
 |none=>exact ft ((fX H i ZZ _).trans (gK λy ZY=>eO λp=>ft rfl))
theorem iF(x y ke σ)(k:O→Option β):iC C kd x y ke σ k=(gP E kd x y ke σ).bind k:=
 (fX H ke σ _).trans (gK λc ZZ=>eO λp=>eO λt=>ft rfl)
theorem ro(x y ke σ)(k:O→Option β):pQ C kd x y ke σ k=(o0 E kd x y ke σ).bind k:=by
 refine ft (eO λa=>?_)
 cases a with
 |odl=>exact iF H _ _ _ _ _
 |od ks ts=>
  cases ks with
  |nil=>
   cases ts with
   |nil=>exact iF H _ _ _ _ _
   |cons=>rfl
  |cons=>rfl
 |_=>rfl
theorem IF(W){s}(v:VX s)(σ)(k:O→Option β):cX cp E C Z kd W v σ k=(ew E Z kd W v σ).bind k:=by
 induction v with
 |ret e p=>exact(H.v kd e σ _).trans (gK (g:=λa ZZ=>some (O.rt a ZZ)) λ_ _=>rfl)
 |asgComp x px elt y py iter ifs scope pc ps=>exact ft (y:=bd _ _) ((pq H elt y iter ifs scope σ _).trans (gK (g:=λus(ZZ:Loc)=>some (O.nx (ZZ.set x (.ol us)))) λ_ _=>rfl))
 |asg x px v p h=>exact ft (y:=bd _ _) ((H.v kd v σ _).trans (gK (g:=λa(ZZ:Loc)=>some (O.nx (ZZ.set x a))) λ_ _=>rfl))
 |ite t b o p=>
  exact(H.b kd t σ _).trans (gK (g:=fun(c:Bool) ZZ=>exs E kd (if c then b else o) ZZ) λc ZZ=>by
   cases c with
   |true=>exact iV H b ZZ k
   |false=>exact iV H o ZZ k)
 |«for» x px it body p=>
  cases cp with
  |false=>rfl
  |true=>exact ft (y:=bd _ _) (gK (g:=λts(ZZ:Loc)=>aC E kd x body ZZ.length ts ZZ) λts ZZ=>BU H x body _ ts ZZ k)
 |expr f q args p p2=>exact(ph H f args σ _).trans (gK (g:=λ_ ZZ=>some (O.nx ZZ)) λ_ _=>rfl)
 |mutS x px nm ap args p p2 h=>
  show(match lent? σ x with
   |some n=>t9 C kd x n nm args σ k
   |none=>Cy C kd x nm args σ k)=Option.bind (match lent? σ x with
   |some n=>gN E kd x n nm args σ
   |none=>gQ E kd x nm args σ) k
  cases lent? σ x with
  |some n=>exact yE H _ _ _ _ _ _
  |none=>exact Ar H _ _ _ _ _
 |item=>exact yG H _ _ _ _ _
 |setapp=>exact ro H _ _ _ _ _
 |_=>rfl
theorem tD(W s σ)(k:O→Option β):tQ cp E C Z kd W s σ k=(tz E Z kd W s σ).bind k:=eO λv=>IF H W v σ k
end
theorem gZ{β:Type}(cp:Bool)(Z:Orc)(W:Nat):∀n,EcOk (Ec.at (β:=β) cp Z W n) (Ev.at Z W n)
 |0=>⟨λ_ _ _ _=>rfl,λ_ _ _ _=>rfl,λ_ _ _ _=>rfl⟩
 |n+1=>⟨λkd e σ k=>wq (gZ cp Z W n) e σ k,λkd e σ k=>vv (gZ cp Z W n) e σ k,λkd s σ k=>tD (gZ cp Z W n) W s σ k⟩
theorem ac(cp:Bool){Z:Orc}{W n:Nat}{kd:Kd}{ss:List Stmt}{σ:Loc}:exs (Ev.at Z W n) kd ss σ=oE (Ec.at cp Z W n) kd ss σ some:=by
 rw[iV (gZ cp Z W n)]
 cases exs (Ev.at Z W n) kd ss σ<;>rfl
theorem bS(cp:Bool){Z:Orc}{W n:Nat}{kd:Kd}{e:Expr}{σ:Loc}:evT (Ev.at Z W n) kd e σ=cT (Ec.at cp Z W n) kd e σ λt σ'=>some (t,σ'):=by
 rw[cw (gZ cp Z W n)]
 cases evT (Ev.at Z W n) kd e σ<;>rfl
end
section
noncomputable abbrev wi(σ:Loc)(x:Str)(t:T):Loc:=List.append σ [(x,V.f t)]
theorem aZ{α:Type}{E:Ev}{kd:Kd}{x:Str}{body:List Stmt}{n:Nat}(f:α→T)(σ:List α→Loc)(xs:List α)
  (h:∀pre y post,xs=pre ++ y ::post→∃σ',(exs E kd body ((σ pre).set x (.f (f y)))=some (.nx σ')∨exs E kd body ((σ pre).set x (.f (f y)))=some (.ct σ'))∧σ'.take n=σ (pre ++ [y])) :
  aC E kd x body n (xs.map f) (σ [])=some (.nx (σ xs)):=by
 suffices g:∀post pre,xs=pre ++ post→aC E kd x body n (post.map f) (σ pre)=some (.nx (σ xs))from g xs [] rfl
 intro post
 induction post with
 |nil=>intro pre e;rw[List.append_nil]at e;subst e;rfl
 |cons y post ih=>
  intro pre e
  obtain⟨σ',e1,ht⟩:=h pre y post e
  have:=ih (pre ++ [y]) (by rw[e];simp)
  show((exs E kd body ((σ pre).set x (.f (f y)))).bind λo=>again n o (aC E kd x body n (post.map f)))=_
  rcases e1 with e1|e1
  ·rw[e1]
   show aC E kd x body n (post.map f) (σ'.take n)=_
   rw[ht,this]
  ·rw[e1]
   show aC E kd x body n (post.map f) (σ'.take n)=_
   rw[ht,this]
theorem bC{ts:List T}{i:Nat}{u:T}(h:ts[i]?=some u)(hi:i < 100000):aw (.list ts) (.int (i:Int))=some u:=by
 have hm:Aq (i:Int)=true:=by unfold Aq;rw[Bool.and_eq_true];exact⟨decide_eq_true (by(apply jF;decide)),decide_eq_true (by(apply dS;assumption;decide))⟩
 have ha:wz ts (i:Int)=some u:=by
  unfold wz
  rw[if_pos (Int.natCast_nonneg i),Int.toNat_natCast]
  exact h
 have e:∀k:Int,aw (.list ts) (.int k)=gd (Aq k) (wz ts k):=λk=>rfl
 rw[e,hm,ha]
 rfl
theorem uT{ts:List T}{i:Nat}{u:T}(h:ts[i]?=some u)(hi:i < 4096):aw (.tup ts) (.int (i:Int))=some u:=by
 show gd (decide (0≤(i:Int)) && decide ((i:Int) < 4096)) ts[(i:Int).toNat]?=_
 rw[b9 (by rw[Bool.and_eq_true];exact⟨decide_eq_true (by(apply jF;decide)),decide_eq_true (by(apply dS;assumption;decide))⟩)]
 simpa using h
noncomputable def c7(n:Nat):Option V:=gd (decide (n < 16777216)) (some (.f (.int n)))
theorem bi{n:Nat}(h:n≤100000):c7 n=some (.f (.int n)):=b9 (decide_eq_true (by(apply mQ;assumption;rfl)))
theorem bD{ts:List T}{u:T}(h:ts.length≤100000):aV "append" ts u=some (ts ++ [u]):=by
 unfold aV
 rw[if_pos rfl,b9 (fg (by(apply ah;assumption;rfl)))]
theorem tR{ts us:List T}(h:ts.length+us.length≤100000):aV "extend" ts (.list us)=some (ts ++ us):=by
 unfold aV
 rw[if_neg (by decide +kernel),if_pos rfl]
 show gd _ _=_
 rw[b9 (fg (by(apply ah;assumption;rfl)))]
theorem kc{n:Nat}(h:n≤100000):ag n=true:=fg (by(apply ah;assumption;rfl))
structure Col where
 h:Nat
 s:Nat
 os:List Nat
noncomputable def cb:Nat→Str
 |0=>"q"
 |1=>"p"
 |_=>"r"
noncomputable def rk:Nat→Nat
 |0=>1
 |1=>2
 |2=>3
 |_=>0
noncomputable def kR:Nat→Str
 |0=>"logical"
 |1=>"integer"
 |2=>"double"
 |_=>"character"
noncomputable def Gp:Nat→T
 |0=>.tup [.int 1,.int 2]
 |1=>.tup [.int (-3),.int 1]
 |2=>.tup [.int 0,.int 1]
 |3=>.tup [.int 0,.int 0]
 |4=>.tup [.int 1,.int 0]
 |5=>.tup [.int (-1),.int 0]
 |_=>.tup [.int (-31),.int 4]
noncomputable def I7:Nat→Str
 |0=>"0.5"
 |1=>"-3"
 |2=>"0"
 |3=>"NaN"
 |4=>"Inf"
 |5=>"-Inf"
 |_=>"-7.75"
noncomputable def zb(o:Nat):Int:=((o:Int) - 3) * 700000001
noncomputable def bin(o:Nat):Int:=(o:Int).fmod 2
noncomputable def oh(s:Nat):Nat→T
 |7=>.none
 |o=>match s with
  |0=>.int (zb o)
  |1=>Gp o
  |2=>.str (Txt.mul "k" o)
  |_=>.int (bin o)
noncomputable def Gu(s:Nat):Nat→T
 |7=>.none
 |o=>match s with
  |0=>.str (toString (zb o))
  |1=>.str (I7 o)
  |2=>.str (Txt.mul "k" o)
  |_=>.str (if bin o=1 then "TRUE" else "FALSE")
noncomputable def lx(R s:Nat):Nat→T
 |7=>.none
 |o=>match R with
  |3=>Gu s o
  |2=>match s with
   |1=>Gp o
   |s=>.tup [oh s o,.int 1]
  |_=>oh s o
end
section
theorem dG{P:Nat→Prop}(h0:P 0)(h1:P 1)(h2:P 2)(h3:P 3)(h4:P 4)(h5:P 5)(h6:P 6)(h7:P 7):∀o,o < 8→P o:=aW h0 (aW (P:=λo=>P (o+1)) h1 (aW (P:=λo=>P (o+2)) h2 (aW (P:=λo=>P (o+3)) h3 (aW (P:=λo=>P (o+4)) h4 (aW (P:=λo=>P (o+5)) h5 (aW (P:=λo=>P (o+6)) h6 (aW (P:=λo=>P (o+7)) h7 m8)))))))
noncomputable def kY(s R o:Nat):Prop:=rn xG 74 [.str (kR (rk s)),oh s o,.str (kR R),.list []]=some (.f (lx R s o))
theorem GI:∀o,o < 8→kY 3 1 o:=by apply dG<;>(unfold kY;rfl')
theorem IA:∀o,o < 8→kY 3 2 o:=by apply dG<;>(unfold kY;rfl')
theorem IN:∀o,o < 8→kY 3 3 o:=by apply dG<;>(unfold kY;rfl')
theorem GD:∀o,o < 8→kY 0 2 o:=by apply dG<;>(unfold kY;rfl')
theorem Hr:∀o,o < 8→kY 0 3 o:=by apply dG<;>(unfold kY;rfl')
theorem JM:∀o,o < 8→kY 1 3 o:=by apply dG<;>(unfold kY;rfl')
theorem pL{s R o:Nat}(hs:s < 4)(hR:R < 4)(h:rk s < R)(ho:o < 8):kY s R o:=by
 revert h
 exact aS (P:=λR=>rk s < R→kY s R o)
  (λh=>absurd h (Nat.not_lt_zero _))
  (aS (P:=λs=>rk s < 1→kY s 1 o) (λh=>absurd h (by decide)) (λh=>absurd h (by decide)) (λh=>absurd h (by decide)) (λ_=>GI o ho) hs)
  (aS (P:=λs=>rk s < 2→kY s 2 o) (λ_=>GD o ho) (λh=>absurd h (by decide)) (λh=>absurd h (by decide)) (λ_=>IA o ho) hs)
  (aS (P:=λs=>rk s < 3→kY s 3 o) (λ_=>Hr o ho) (λ_=>JM o ho) (λh=>absurd h (by decide)) (λ_=>IN o ho) hs) hR
theorem rG{s o:Nat}(hs:s < 4)(ho:o < 8):lx (rk s) s o=oh s o:=
 aS (P:=λs=>∀o,o < 8→lx (rk s) s o=oh s o) (by apply dG<;>rfl) (by apply dG<;>rfl) (by apply dG<;>rfl) (by apply dG<;>rfl) hs o ho
end
section
noncomputable def nU(b:List Stmt)(j:Nat):Stmt:=b.getD j (.Pass ⟨0,0,0,0⟩)
noncomputable def Gq(r R:Nat)(its:List T):Loc:=[("v",.f (.vec (.str (kR r)) (.list its) .none)),("kind",.f (.str (kR R))),("notes",.f (.list []))]
noncomputable def Ks(r R:Nat)(its us:List T):Loc:=List.append (Gq r R its) [("items",.ol us)]
noncomputable def sM(r R:Nat)(its us:List T):Loc:=List.append (Gq r R its) [("items",.f (.list us))]
noncomputable abbrev sL:Expr:=c9 (nU (aq (bF 80 2)) 0)
noncomputable def sE(r R:Nat):Prop:=(∀its,exs (Et qA) (ae 80) (sg (ak 80) 0 2) (Gq r R its)=some (.nx (sM r R its its)))∧
 (∀its,exs (Et qA) (ae 80) (sg (ak 80) 2 3) (sM r R its its)=bd (evComp (Ev.at qA 100000 38) (ae 80) (aH sL) "item" (az sL) (aN sL) (a9 sL) (sM r R its its)) λus ZY=>some (.nx (ZY.set "items" (.ol us))))∧
 (∀its,evIt (Ev.at qA 100000 38) (ae 80) (az sL) (sM r R its its)=some (its,sM r R its its))∧
 (∀its,(aG (ae 80) (a9 sL) "item" && (((sM r R its its).lookup ("item":Str)).isNone && ay (sM r R its its) (a9 sL) "item"))=true)∧
 (∀its t,evT (Ev.at qA 100000 38) (kdC (a9 sL) (ae 80)) (aH sL) (wi (sM r R its its) "item" t)=(rn xG 74 [.str (kR r),t,.str (kR R),.list []]).bind λa=>some (a.frz,wi (sM r R its its) "item" t))∧
 (∀its us,exs (Et qA) (ae 80) ((ak 80).drop 3) (Ks r R its us)=(gd (ag us.length) (some (V.ol us))).bind λa=>some (.rt (.f (.vec (.str (kR R)) a.frz .none)) (sM r R its us)))
theorem He:sE 0 1:=⟨λ_=>by rfl',λ_=>by rw[ac false];rfl',λ_=>by rfl',λ_=>by rfl',λ_ _=>by rw[bS false];rfl',λ_ _=>by rw[ac false];rfl'⟩
theorem IX:sE 0 2:=⟨λ_=>by rfl',λ_=>by rw[ac false];rfl',λ_=>by rfl',λ_=>by rfl',λ_ _=>by rw[bS false];rfl',λ_ _=>by rw[ac false];rfl'⟩
theorem Ja:sE 0 3:=⟨λ_=>by rfl',λ_=>by rw[ac false];rfl',λ_=>by rfl',λ_=>by rfl',λ_ _=>by rw[bS false];rfl',λ_ _=>by rw[ac false];rfl'⟩
theorem Ic:sE 1 2:=⟨λ_=>by rfl',λ_=>by rw[ac false];rfl',λ_=>by rfl',λ_=>by rfl',λ_ _=>by rw[bS false];rfl',λ_ _=>by rw[ac false];rfl'⟩
theorem Il:sE 1 3:=⟨λ_=>by rfl',λ_=>by rw[ac false];rfl',λ_=>by rfl',λ_=>by rfl',λ_ _=>by rw[bS false];rfl',λ_ _=>by rw[ac false];rfl'⟩
theorem Ie:sE 2 3:=⟨λ_=>by rfl',λ_=>by rw[ac false];rfl',λ_=>by rfl',λ_=>by rfl',λ_ _=>by rw[bS false];rfl',λ_ _=>by rw[ac false];rfl'⟩
theorem BN(r R:Nat)(its us:List T):(sM r R its its).set "items" (.ol us)=Ks r R its us:=by rfl'
theorem yl(v k n:T):bL (bo 80) [v,k,n]=some [v,k,n]:=by rfl'
theorem n9{r R:Nat}(H:sE r R)(its:List T)(g:T→T)(hl:its.length≤100000)(hg:∀t∈its,rn xG 74 [.str (kR r),t,.str (kR R),.list []]=some (.f (g t))):
  rn qA 80 [.vec (.str (kR r)) (.list its) .none,.str (kR R),.list []]=some (.f (.vec (.str (kR R)) (.list (its.map g)) .none)):=by
 obtain⟨h1,h2,h3,h4,h5,h6⟩:=H
 have hc:=aA (λ_=>true) g (h3 its) (h4 its) (by(apply ah;assumption;rfl)) (ifs:=aN sL) (elt:=aH sL) (λt _=>by show ifsGo _ _ (aN sL) _=_;rfl') (λt ht _=>(h5 its t).trans (by rw[hg t ht];rfl))
 rw[av]at hc
 have hr:exs (Et qA) (ae 80) ((ak 80).drop 0) (Gq r R its)=some (.rt (.f (.vec (.str (kR R)) (.list (its.map g)) .none)) (sM r R its (its.map g))):=by
  rw[ai 0 2 (h1 its) rfl]
  have h2:=h2 its
  rw[hc,aD,BN]at h2
  rw[ai 2 3 h2 rfl,h6,b9 (kc (by rw[List.length_map];exact hl))]
  rfl
 exact qj (yl _ _ _) hr
theorem ET{r R:Nat}(hR:R < 4)(h:r < R):sE r R:=by
 have hr:r < 4:=Nat.lt_trans h hR
 revert h
 exact aS (P:=λR=>r < R→sE r R)
  (λh=>absurd h (Nat.not_lt_zero _))
  (aS (P:=λr=>r < 1→sE r 1) (λ_=>He) (λh=>absurd h (by decide)) (λh=>absurd h (by decide)) (λh=>absurd h (by decide)) hr)
  (aS (P:=λr=>r < 2→sE r 2) (λ_=>IX) (λ_=>Ic) (λh=>absurd h (by decide)) (λh=>absurd h (by decide)) hr)
  (aS (P:=λr=>r < 3→sE r 3) (λ_=>Ja) (λ_=>Il) (λ_=>Ie) (λh=>absurd h (by decide)) hr) hR
noncomputable def bX(c:Col):List T:=c.os.map (oh c.s)
noncomputable def aL(R:Nat)(c:Col):List T:=c.os.map (lx R c.s)
structure ColOk(c:Col):Prop where
 h:c.h < 3
 s:c.s < 5
 l:c.os.length≤3
 o:∀o∈c.os,o < 8
theorem yF{c:Col}{R:Nat}(ok:ColOk c)(hs:c.s < 4)(hR:R < 4)(h:rk c.s < R):
  rn qA 80 [.vec (.str (kR (rk c.s))) (.list (bX c)) .none,.str (kR R),.list []]=some (.f (.vec (.str (kR R)) (.list (aL R c)) .none)):=by
 have hg:∀t∈bX c,rn xG 74 [.str (kR (rk c.s)),t,.str (kR R),.list []]=some (.f ((rn xG 74 [.str (kR (rk c.s)),t,.str (kR R),.list []]).elim .none V.frz)):=λt ht=>by
  obtain⟨o,ho,e⟩:=List.mem_map.mp ht
  subst e
  have:=pL hs hR h (ok.o o ho)
  unfold kY at this
  rw[this];rfl
 refine(n9 (ET hR h) (bX c) _ (by unfold bX;rw[List.length_map];exact Nat.le_trans ok.l (by decide)) hg).trans ?_
 unfold bX aL
 rw[List.map_map]
 congr 4
 refine List.map_congr_left λo ho=>?_
 have:=pL hs hR h (ok.o o ho)
 unfold kY at this
 show(rn xG 74 _).elim _ _=_
 rw[this];rfl
end
section
noncomputable def li(o:O):Option O:=match o with
 |.nx σ=>some (.nx σ)
 |o=>some o
noncomputable def mm(ks:List Nat):Int:=ks.foldl (fun(m:Int) (r:Nat)=>if(r:Int)+1 > m then(r:Int)+1 else m) 0
noncomputable def mxr(ks:List Nat):Nat:=ks.foldl max 0
theorem qb(pre:List Nat)(r:Nat):mm (pre ++ [r])=if(r:Int)+1 > mm pre then(r:Int)+1 else mm pre:=by unfold mm;rw[List.foldl_append];rfl
theorem tX(pre:List Nat)(r:Nat):mxr (pre ++ [r])=max (mxr pre) r:=by unfold mxr;rw[List.foldl_append];rfl
theorem Ah:∀(ks:List Nat),ks≠[]→mm ks=(mxr ks:Int)+1:=by
 suffices h:∀(n:Nat)(ks:List Nat),ks.length=n→ks≠[]→mm ks=(mxr ks:Int)+1 from λks=>h _ ks rfl
 intro n
 induction n with
 |zero=>intro ks hl hn;exact absurd (List.eq_nil_of_length_eq_zero hl) hn
 |succ n ih=>
  intro ks hl hn
  obtain⟨pre,r,rfl⟩:∃pre r,ks=pre ++ [r]:=⟨ks.dropLast,ks.getLast hn,(List.dropLast_concat_getLast hn).symm⟩
  rw[qb,tX]
  by_cases hp:pre=[]
  ·subst hp;simp[mm,mxr]
  ·rw[ih pre (by simpa using hl) hp]
   by_cases h:mxr pre < r
   ·rw[if_pos (Int.add_lt_add_right (Int.ofNat_lt.mpr h) 1),Nat.max_eq_right (Nat.le_of_lt h)]
   ·rw[if_neg (λq=>h (Int.ofNat_lt.mp (Int.lt_of_add_lt_add_right q))),Nat.max_eq_left (Nat.le_of_not_lt h)]
theorem sV{ks:List Nat}(hk:∀r∈ks,r < 4):mxr ks < 4:=by
 suffices h:∀(l:List Nat)(m:Nat),m < 4→(∀r∈l,r < 4)→l.foldl max m < 4 from h ks 0 (by decide) hk
 intro l
 induction l with
 |nil=>intro m hm _;exact hm
 |cons a l ih=>intro m hm hl;exact ih _ (Nat.max_lt.mpr ⟨hm,hl a (.head _)⟩) λr hr=>hl r (.tail _ hr)
theorem CJ{ks:List Nat}{r:Nat}(hr:r∈ks):r≤mxr ks:=by
 suffices h:∀(l:List Nat)(m:Nat),m≤l.foldl max m∧∀r∈l,r≤l.foldl max m from(h ks 0).2 r hr
 intro l
 induction l with
 |nil=>intro m;exact⟨Nat.le_refl _,λr hr=>nomatch hr⟩
 |cons a l ih=>
  intro m
  obtain⟨h1,h2⟩:=ih (max m a)
  refine⟨Nat.le_trans (Nat.le_max_left _ _) h1,λr hr=>?_⟩
  rcases List.mem_cons.mp hr with rfl|hr
  ·exact Nat.le_trans (Nat.le_max_right _ _) h1
  ·exact h2 r hr
noncomputable def wx(kinds:T)(m:Int):Loc:=[("kinds",.f kinds),("names",.f (.tup [.str "NULL",.str "logical",.str "integer",.str "double",.str "character",.str "list",.str "expression"])),("most",.f (.int m))]
noncomputable def EU(r:Nat):Prop:=∀(ks:T)(m:Int),exs (Eu sK) (ae 65) (aq (bF 65 2)) ((wx ks m).set "kind" (.f (.str (kR r))))=some (.nx (wi (wx ks (if(r:Int)+1 > m then(r:Int)+1 else m)) "kind" (.str (kR r))))
theorem Lb:EU 0:=λ_ _=>by rfl'
theorem MA:EU 1:=λ_ _=>by rfl'
theorem K6:EU 2:=λ_ _=>by rfl'
theorem Mp:EU 3:=λ_ _=>by rfl'
theorem ck:∀r,r < 4→EU r:=by
 intro r hr
 apply aS ?_ ?_ ?_ ?_ hr
 ·exact Lb
 ·exact MA
 ·exact K6
 ·exact Mp
noncomputable def MY(R:Nat):Prop:=∀ks,exs (Et sK) (ae 65) ((ak 65).drop 3) (wx ks ((R:Int)+1))=some (.rt (.f (.str (kR R))) (wx ks ((R:Int)+1)))
theorem M4:∀r,r < 4→MY r:=by
 intro r hr
 apply aS ?_ ?_ ?_ ?_ hr
 ·exact λ_=>by rfl'
 ·exact λ_=>by rfl'
 ·exact λ_=>by rfl'
 ·exact λ_=>by rfl'
theorem BG(ks:T):exs (Et sK) (ae 65) (sg (ak 65) 0 2) [("kinds",.f ks)]=some (.nx (wx ks 0)):=by rfl'
theorem BF(ts:List T)(m:Int):exs (Et sK) (ae 65) (sg (ak 65) 2 3) (wx (.list ts) m)=(aC (Eu sK) (ae 65) "kind" (aq (bF 65 2)) 3 ts (wx (.list ts) m)).bind li:=by rfl'
theorem yt(v:T):bL (bo 65) [v]=some [v]:=by rfl'
theorem lL{ks:List Nat}(hk:∀r∈ks,r < 4)(hn:ks≠[]):rn sK 65 [.list (ks.map λr=>.str (kR r))]=some (.f (.str (kR (mxr ks)))):=by
 have hf:=aZ (λr=>T.str (kR r)) (λpre=>wx (.list (ks.map λr=>.str (kR r))) (mm pre)) ks (E:=Eu sK) (kd:=ae 65) (x:="kind") (body:=aq (bF 65 2)) (n:=3) λpre r post e=>by
  refine⟨_,.inl (ck r (hk r (by rw[e];simp)) _ _),?_⟩
  rw[qb];rfl
 have hm:mxr ks < 4:=sV hk
 have hr:exs (Et sK) (ae 65) ((ak 65).drop 0) [("kinds",.f (.list (ks.map λr=>.str (kR r))))]=some (.rt (.f (.str (kR (mxr ks)))) (wx (.list (ks.map λr=>.str (kR r))) (mm ks))):=by
  rw[ai 0 2 (BG _) rfl,ai 2 3 ((BF _ _).trans (by show(aC _ _ _ _ _ _ (wx (.list (ks.map λr=>.str (kR r))) (mm []))).bind _=_;rw[hf];rfl)) rfl]
  rw[Ah ks hn]
  exact M4 _ hm _
 exact qj (yt _) hr
end
section
noncomputable abbrev vt(r:Nat)(its:List T):T:=.vec (.str (kR r)) (.list its) .none
noncomputable def kX(parts:List T)(plain:V):Loc:=[("parts",.f (.list parts)),("plain",plain)]
noncomputable def Lu(r:Nat):Prop:=∀its rest,exs (Et gM) (ae 104) (sg (ak 104) 0 2) [("parts",.f (.list (vt r its ::rest)))]=some (.nx (kX (vt r its ::rest) (.ol [])))
noncomputable def Mj(r:Nat):Prop:=∀its parts out,exs (Eu gM) (ae 104) (aq (bF 104 2)) ((kX parts (.ol out)).set "part" (.f (vt r its)))=(aV "append" out (vt r its)).bind λus=>some (.nx (wi (kX parts (.ol us)) "part" (vt r its)))
theorem C8:∀r,r < 4→Lu r∧Mj r:=by
 intro r hr
 apply aS ?_ ?_ ?_ ?_ hr
 ·exact⟨λ_ _=>by rfl',λ_ _ _=>by rw[ac false];rfl'⟩
 ·exact⟨λ_ _=>by rfl',λ_ _ _=>by rw[ac false];rfl'⟩
 ·exact⟨λ_ _=>by rfl',λ_ _ _=>by rw[ac false];rfl'⟩
 ·exact⟨λ_ _=>by rfl',λ_ _ _=>by rw[ac false];rfl'⟩
theorem Dq(parts:List T):exs (Et gM) (ae 104) (sg (ak 104) 2 3) (kX parts (.ol []))=(aC (Eu gM) (ae 104) "part" (aq (bF 104 2)) 2 parts (kX parts (.ol []))).bind li:=by rfl'
noncomputable def cW(j:Nat):Expr→Expr
 |.Call _ as _ _=>as.getD j (.Constant .none 0 ⟨0,0,0,0⟩)
 |e=>e
noncomputable abbrev sR:Expr:=cW 0 (c9 (bF 104 3))
theorem J8(parts plain:List T):exs (Et gM) (ae 104) (sg (ak 104) 3 4) (kX parts (.ol plain))=bd (evComp (Ev.at gM 100000 37) (ae 104) (aH sR) "part" (az sR) (aN sR) (a9 sR) (kX parts (.ol plain))) λus ZZ=>(rn sK 65 [.list us]).bind λa=>some (.nx (ZZ.set "kind" a)):=by rw[ac false];rfl'
theorem Ir(parts plain:List T):evIt (Ev.at gM 100000 37) (ae 104) (az sR) (kX parts (.ol plain))=some (plain,kX parts (.f (.list plain))):=by rfl'
theorem IS(parts plain:List T):(aG (ae 104) (a9 sR) "part" && (((kX parts (.f (.list plain))).lookup ("part":Str)).isNone && ay (kX parts (.f (.list plain))) (a9 sR) "part"))=true:=by rfl'
theorem GZ(parts plain:List T)(k i a:T):evT (Ev.at gM 100000 37) (kdC (a9 sR) (ae 104)) (aH sR) (wi (kX parts (.f (.list plain))) "part" (.vec k i a))=some (k,wi (kX parts (.f (.list plain))) "part" (.vec k i a)):=by rfl'
noncomputable def GO(parts plain:List T)(R:Nat):Loc:=[("parts",.f (.list parts)),("plain",.f (.list plain)),("kind",.f (.str (kR R)))]
noncomputable def vY(parts plain:List T)(R:Nat)(out:V):Loc:=[("parts",.f (.list parts)),("plain",.f (.list plain)),("kind",.f (.str (kR R))),("items",out)]
theorem Hx(parts plain:List T)(R:Nat):(kX parts (.f (.list plain))).set "kind" (.f (.str (kR R)))=GO parts plain R:=by rfl'
theorem Hi(parts plain:List T)(R:Nat):exs (Et gM) (ae 104) (sg (ak 104) 4 5) (GO parts plain R)=some (.nx (vY parts plain R (.ol []))):=by rfl'
theorem Fr(parts plain:List T)(R:Nat):exs (Et gM) (ae 104) (sg (ak 104) 5 6) (vY parts plain R (.ol []))=(aC (Eu gM) (ae 104) "part" (aq (bF 104 5)) 4 plain (vY parts plain R (.ol []))).bind li:=by rfl'
noncomputable def nh(r R:Nat):Prop:=∀its parts plain out,exs (Eu gM) (ae 104) (aq (bF 104 5)) ((vY parts plain R (.ol out)).set "part" (.f (vt r its))) =
 bif r == R then(aV "extend" out (.list its)).bind λus=>some (.nx (wi (vY parts plain R (.ol us)) "part" (vt r its)))
 else(rn qA 80 [vt r its,.str (kR R),.list []]).bind λa=>(mM "items" a.frz).bind λu=>(aV "extend" out u).bind λus=>some (.nx (wi (vY parts plain R (.ol us)) "part" (vt r its)))
theorem MN:nh 0 0:=λ_ _ _ _=>by rw[ac false];rfl'
theorem Mx:nh 0 1:=λ_ _ _ _=>by rw[ac false];rfl'
theorem Mt:nh 0 2:=λ_ _ _ _=>by rw[ac false];rfl'
theorem KX:nh 0 3:=λ_ _ _ _=>by rw[ac false];rfl'
theorem LZ:nh 1 1:=λ_ _ _ _=>by rw[ac false];rfl'
theorem Mm:nh 1 2:=λ_ _ _ _=>by rw[ac false];rfl'
theorem K5:nh 1 3:=λ_ _ _ _=>by rw[ac false];rfl'
theorem L9:nh 2 2:=λ_ _ _ _=>by rw[ac false];rfl'
theorem LK:nh 2 3:=λ_ _ _ _=>by rw[ac false];rfl'
theorem K0:nh 3 3:=λ_ _ _ _=>by rw[ac false];rfl'
theorem JU{r R:Nat}(hR:R < 4)(h:r≤R):nh r R:=by
 revert h
 have no:∀{x:Nat}{P:Prop},x+1≤0→P:=λh=>absurd h (Nat.not_succ_le_zero _)
 by_cases hr:r < 4
 ·exact aS (P:=λR=>r≤R→nh r R)
   (aS (P:=λr=>r≤0→nh r 0) (λ_=>MN) no no no hr)
   (aS (P:=λr=>r≤1→nh r 1) (λ_=>Mx) (λ_=>LZ) (λh=>no (Nat.le_of_succ_le_succ h)) (λh=>no (Nat.le_of_succ_le_succ h)) hr)
   (aS (P:=λr=>r≤2→nh r 2) (λ_=>Mt) (λ_=>Mm) (λ_=>L9) (λh=>no (Nat.le_of_succ_le_succ (Nat.le_of_succ_le_succ h))) hr)
   (aS (P:=λr=>r≤3→nh r 3) (λ_=>KX) (λ_=>K5) (λ_=>LK) (λ_=>K0) hr) hR
 ·exact λh=>absurd (Nat.lt_of_le_of_lt h hR) hr
theorem HL(k i:T)(rest plain:List T)(R:Nat)(out:List T):exs (Et gM) (ae 104) ((ak 104).drop 6) (vY (.vec k i .none ::rest) plain R (.ol out))=some (.rt (.ov (.str (kR R)) (.list out) .none) (vY (.vec k i .none ::rest) plain R (.f (.list out)))):=by rfl'
theorem xC(v:T):bL (bo 104) [v]=some [v]:=by rfl'
noncomputable def aB(c:Col):T:=vt (rk c.s) (bX c)
noncomputable def aK(cs:List Col):Nat:=mxr (cs.map λc=>rk c.s)
theorem m7(s:Nat):rk s < 4:=by
 match s with
 |0=>decide
 |1=>decide
 |2=>decide
 |n+3=>show(0:Nat) < 4;decide
theorem d0(cs:List Col):aK cs < 4:=sV λr hr=>by
 obtain⟨c,_,rfl⟩:=List.mem_map.mp hr
 exact m7 _
theorem n8{cs:List Col}{c:Col}(h:c∈cs):rk c.s≤aK cs:=CJ (List.mem_map.mpr ⟨c,h,rfl⟩)
theorem bV{R:Nat}{c:Col}:(aL R c).length=c.os.length:=List.length_map _
theorem iy{R:Nat}:∀{cs:List Col},(∀c∈cs,ColOk c)→(cs.flatMap (aL R)).length≤3 * cs.length
 |[],_=>Nat.le_refl _
 |c ::cs,ok=>by
  have:=iy (R:=R) λc hc=>ok c (.tail _ hc)
  have h2:=(ok c (.head _)).l
  rw[List.flatMap_cons,List.length_append,bV,List.length_cons]
  (apply nZ;assumption;assumption)
structure ColsOk(cs:List Col):Prop where
 c:∀c∈cs,ColOk c
 l:cs.length≤4
theorem ColsOk.pre{cs pre post:List Col}(h:ColsOk cs)(e:cs=pre ++ post):ColsOk pre:=⟨λc hc=>h.c c (by rw[e];exact List.mem_append_left _ hc),by have:=h.l;rw[e,List.length_append]at this;omega⟩
theorem iZ{cs:List Col}(ok:ColsOk cs)(hs:∀c∈cs,c.s < 4)(hn:cs≠[]):rn gM 104 [.list (cs.map aB)]=some (.ov (.str (kR (aK cs))) (.list (cs.flatMap (aL (aK cs)))) .none):=by
 obtain⟨c0,rest,e0⟩:∃c0 rest,cs=c0 ::rest:=by
  cases cs with
  |nil=>exact absurd rfl hn
  |cons a l=>exact⟨a,l,rfl⟩
 have hl:=ok.l
 have f2:=aZ aB (λpre=>kX (cs.map aB) (.ol (pre.map aB))) cs (E:=Eu gM) (kd:=ae 104) (x:="part") (body:=aq (bF 104 2)) (n:=2) λpre c post e=>by
  refine⟨_,.inl (((C8 (rk c.s) (m7 _)).2 _ _ _).trans (by rw[bD (by have:=(ok.pre (e.trans rfl)).l;simp;(apply ah;assumption;rfl))];rfl)),?_⟩
  rw[List.map_append];rfl
 have hc:=aA (λ_=>true) (λt=>(mM "kind" t).getD .none) (Ir (cs.map aB) (cs.map aB)) (IS _ _) (by simp;(apply ah;assumption;rfl)) (ifs:=aN sR) (elt:=aH sR) (λt _=>by show ifsGo _ _ (aN sR) _=_;rfl') (λt ht _=>by
  obtain⟨c,hc,rfl⟩:=List.mem_map.mp ht
  exact GZ _ _ _ _ _)
 rw[av]at hc
 have hk:(cs.map aB).map (λt=>(mM "kind" t).getD .none)=(cs.map λc=>rk c.s).map λr=>T.str (kR r):=by
  rw[List.map_map,List.map_map]
  exact List.map_congr_left λc _=>rfl
 have hck:=lL (ks:=cs.map λc=>rk c.s) (λr hr=>by obtain⟨c,_,rfl⟩:=List.mem_map.mp hr;exact m7 _) (by rw[e0];simp)
 have f5:=aZ aB (λpre=>vY (cs.map aB) (cs.map aB) (aK cs) (.ol (pre.flatMap (aL (aK cs))))) cs (E:=Eu gM) (kd:=ae 104) (x:="part") (body:=aq (bF 104 5)) (n:=4) λpre c post e=>by
  have hm:c∈cs:=by rw[e];simp
  have hle:=n8 hm
  have hg:aV "extend" (pre.flatMap (aL (aK cs))) (.list (aL (aK cs) c))=some (pre.flatMap (aL (aK cs)) ++ aL (aK cs) c):=tR (by
   have h1:=iy (R:=aK cs) (ok.pre e).c
   have h2:=(ok.pre e).l
   have h3:=(ok.c c hm).l
   rw[bV]
   (apply uS;assumption;assumption;assumption;rfl))
  refine⟨wi (vY (cs.map aB) (cs.map aB) (aK cs) (.ol (pre.flatMap (aL (aK cs)) ++ aL (aK cs) c))) "part" (aB c),.inl ((JU (d0 cs) hle _ _ _ _).trans ?_),?_⟩
  ·by_cases hr:rk c.s=aK cs
   ·rw[beq_iff_eq.mpr hr,cond_true]
    have:bX c=aL (aK cs) c:=by
     unfold bX aL
     rw[←hr]
     exact List.map_congr_left λo ho=>(rG (hs c hm) ((ok.c c hm).o o ho)).symm
    rw[this,hg]
    unfold aB
    rw[this];rfl
   ·rw[beq_eq_false_iff_ne.mpr hr,cond_false]
    show(rn qA 80 [.vec (.str (kR (rk c.s))) (.list (bX c)) .none,.str (kR (aK cs)),.list []]).bind _=_
    rw[yF (ok.c c hm) (hs c hm) (d0 cs) (by(apply uL;assumption;assumption))]
    show(aV "extend" _ (.list (aL (aK cs) c))).bind _=_
    rw[hg];rfl
  ·rw[List.flatMap_append,List.flatMap_cons,List.flatMap_nil,List.append_nil];rfl
 have hr:∃σ',exs (Et gM) (ae 104) ((ak 104).drop 0) [("parts",.f (.list (cs.map aB)))]=some (.rt (.ov (.str (kR (aK cs))) (.list (cs.flatMap (aL (aK cs)))) .none) σ'):=by
  have s0:exs (Et gM) (ae 104) (sg (ak 104) 0 2) [("parts",.f (.list (cs.map aB)))]=some (.nx (kX (cs.map aB) (.ol []))):=by
   rw[e0,List.map_cons]
   exact(C8 (rk c0.s) (m7 _)).1 _ _
  rw[ai 0 2 s0 rfl]
  have s2:=Dq (cs.map aB)
  rw[show aC (Eu gM) (ae 104) "part" (aq (bF 104 2)) 2 (cs.map aB) (kX (cs.map aB) (.ol []))=_ from f2]at s2
  rw[ai 2 3 (σ':=kX (cs.map aB) (.ol (cs.map aB))) s2 rfl]
  have s3:=J8 (cs.map aB) (cs.map aB)
  rw[hc,hk,aD,hck]at s3
  rw[ai 3 4 (σ':=GO (cs.map aB) (cs.map aB) (aK cs)) (s3.trans (by show some (O.nx ((kX _ _).set "kind" (.f (.str (kR (aK cs))))))=_;rw[Hx])) rfl]
  rw[ai 4 5 (Hi _ _ _) rfl]
  have s5:=Fr (cs.map aB) (cs.map aB) (aK cs)
  rw[show aC (Eu gM) (ae 104) "part" (aq (bF 104 5)) 4 (cs.map aB) (vY (cs.map aB) (cs.map aB) (aK cs) (.ol []))=_ from f5]at s5
  rw[ai 5 6 s5 rfl]
  have:=HL (.str (kR (rk c0.s))) (.list (bX c0)) (rest.map aB) (cs.map aB) (aK cs) (cs.flatMap (aL (aK cs)))
  rw[show(T.vec (.str (kR (rk c0.s))) (.list (bX c0)) .none ::rest.map aB)=cs.map aB by rw[e0];rfl]at this
  exact⟨_,this⟩
 obtain⟨σ',hr⟩:=hr
 exact qj (xC _) hr
end
section
theorem eW{E E':Ev}{kd:Kd}{b body:List Stmt}{x:Str}{n:Nat}{ts:List T}{σ σ₀ σ':Loc}(j k:Nat)(h:exs E kd (sg b j k) σ=(aC E' kd x body n ts σ₀).bind li)(hf:aC E' kd x body n ts σ₀=some (.nx σ'))(hj:Nat.ble j k=true):exs E kd (b.drop j) σ=exs E kd (b.drop k) σ':=ai j k (h.trans (by rw[hf];rfl)) hj
theorem gq{Z:Orc}{i:Nat}{ts us:List T}{a:V}(h1:bL (bo i) ts=some us)(h2:∃σ',exs (Et Z) (ae i) ((ak i).drop 0) ((HJ i).zip (us.map V.f))=some (.rt a σ')):rn Z i ts=some a:=let⟨_,h⟩:=h2;qj h1 h
noncomputable def wy(k:Str)(its:List T)(a:T)(places:List T)(out:V):Loc:=[("column",.f (.vec (.str k) (.list its) a)),("places",.f (.list places)),("items",out),("count",.f (.int its.length))]
theorem xF(k:Str)(its:List T)(a:T)(places out:List T)(p:Int):
  exs (Eu f9) (ae 101) (aq (bF 101 2)) ((wy k its a places (.ol out)).set "place" (.f (.int p))) =
   bif decide ((its.length:Int)≤p)then(bif decide ((its.length:Int)≤p)then none else(aw (.list its) (.int p)).bind λu=>(aV "append" out u).bind λus=>some (.nx (wi (wy k its a places (.ol us)) "place" (.int p))))
   else(aw (.list its) (.int p)).bind λu=>(aV "append" out u).bind λus=>some (.nx (wi (wy k its a places (.ol us)) "place" (.int p))):=by
 rw[ac true];rfl'
theorem H3(k:Str)(its:List T)(a:T)(places:List T):exs (Et f9) (ae 101) (sg (ak 101) 0 2) [("column",.f (.vec (.str k) (.list its) a)),("places",.f (.list places))]=(c7 its.length).bind λn=>some (.nx [("column",.f (.vec (.str k) (.list its) a)),("places",.f (.list places)),("items",.ol []),("count",n)]):=by
 rw[ac true];rfl'
theorem Ki(k:Str)(its:List T)(a:T)(places:List T):exs (Et f9) (ae 101) (sg (ak 101) 2 3) (wy k its a places (.ol []))=(aC (Eu f9) (ae 101) "place" (aq (bF 101 2)) 4 places (wy k its a places (.ol []))).bind li:=by rfl'
theorem It(k:Str)(its:List T)(a:T)(places out:List T):exs (Et f9) (ae 101) ((ak 101).drop 3) (wy k its a places (.ol out))=(rn CB 99 [.vec (.str k) (.list its) a]).bind λv=>some (.rt (.ov (.str k) (.list out) v.frz) (wy k its a places (.f (.list out)))):=by
 rw[ac true];rfl'
theorem yB(a b:T):bL (bo 101) [a,b]=some [a,b]:=by rfl'
theorem eM{k:Str}{its:List T}{a a':T}{ps:List Nat}(ha:rn CB 99 [.vec (.str k) (.list its) a]=some (.f a'))(hi:its.length≤1000)(hl:ps.length≤1000)(hp:∀p∈ps,p < its.length):
  rn f9 101 [.vec (.str k) (.list its) a,.list (ps.map λi:Nat=>.int i)]=some (.ov (.str k) (.list (ps.map λi=>its.getD i .none)) a'):=by
 have f2:=aZ (λi:Nat=>T.int i) (λpre=>wy k its a (ps.map λi:Nat=>.int i) (.ol (pre.map λi=>its.getD i .none))) ps (E:=Eu f9) (kd:=ae 101) (x:="place") (body:=aq (bF 101 2)) (n:=4) λpre p post e=>by
  have hm:p < its.length:=hp p (by rw[e];simp)
  have hpl:pre.length≤ps.length:=by rw[e];simp
  refine⟨wi (wy k its a (ps.map λi:Nat=>.int i) (.ol (pre.map (λi=>its.getD i .none) ++ [its.getD p .none]))) "place" (.int p),.inl ((xF _ _ _ _ _ _).trans ?_),?_⟩
  ·rw[decide_eq_false (by omega),cond_false,bC (u:=its.getD p .none) (by rw[List.getD_eq_getElem?_getD,List.getElem?_eq_getElem hm];rfl) (by(apply bT;assumption;assumption;rfl))]
   show(aV "append" _ _).bind _=_
   rw[bD (by simp;(apply bz;assumption;assumption;rfl))];rfl
  ·rw[List.map_append];rfl
 refine gq (yB _ _) ?_
 have s0:=H3 k its a (ps.map λi:Nat=>.int i)
 rw[bi (by(apply ah;assumption;rfl))]at s0
 refine⟨wy k its a (ps.map λi:Nat=>.int i) (.f (.list (ps.map λi=>its.getD i .none))),?_⟩
 ·show exs _ _ _ [("column",V.f (.vec (.str k) (.list its) a)),("places",.f (.list (ps.map λi:Nat=>.int i)))]=_
  rw[ai 0 2 s0 rfl]
  refine(eW 2 3 (Ki _ _ _ _) f2 rfl).trans ?_
  rw[It,ha];rfl
noncomputable def gF(lv:List T):T:=.dict ["levels","class"] [.vec (.str "character") (.list lv) .none,.vec (.str "character") (.list [.str "factor"]) .none]
theorem re(k i:T):rn CB 99 [.vec k i .none]=some (.f .none):=by rfl'
theorem lQ(k i:T)(lv:List T):rn CB 99 [.vec k i (gF lv)]=some (.f (gF lv)):=by rfl'
end
section
noncomputable def fn(a:Str):T:=.str a
noncomputable def ab(c:Nat):T:=.int ((c:Int)+1)
noncomputable def aj(ls:List Nat):List T:=ls.map λh=>.str (cb h)
theorem Kj(a:T):rn k0 56 [.list [a],.int 1]=some (.f a):=by rfl'
theorem HC(a b:T):rn k0 56 [.list [a,b],.int 1]=some (.f a):=by rfl'
theorem G9(a b:T):rn k0 56 [.list [a,b],.int 2]=some (.f b):=by rfl'
theorem Jx(a b c:T):rn k0 56 [.list [a,b,c],.int 1]=some (.f a):=by rfl'
theorem HF(a b c:T):rn k0 56 [.list [a,b,c],.int 2]=some (.f b):=by rfl'
theorem Hq(a b c:T):rn k0 56 [.list [a,b,c],.int 3]=some (.f c):=by rfl'
theorem lW{tx:List T}{c:Nat}(h:tx.length≤3):c < tx.length→rn k0 56 [.list tx,ab c]=some (.f (tx.getD c .none)):=by
 have h0:tx≠[]∨tx=[]:=by cases tx<;>simp
 rcases h0 with h0|h0
 ·refine ig (P:=λtx=>c < tx.length→rn k0 56 [.list tx,ab c]=some (.f (tx.getD c .none))) (λa h=>?_) (λa b h=>?_) (λa b d h=>?_) h0 h
  ·obtain rfl:=Nat.lt_one_iff.mp h
   exact Kj a
  ·exact aW (P:=λc=>rn k0 56 [.list [a,b],ab c]=some (.f ([a,b].getD c .none))) (HC a b) (aW (P:=λc=>rn k0 56 [.list [a,b],ab (c+1)]=some (.f ([a,b].getD (c+1) .none))) (G9 a b) m8) c h
  ·exact fW (P:=λc=>rn k0 56 [.list [a,b,d],ab c]=some (.f ([a,b,d].getD c .none))) (Jx a b d) (HF a b d) (Hq a b d) h
 ·subst h0;exact λh=>absurd h (Nat.not_lt_zero _)
noncomputable abbrev bp(cs lv:List T):T:=.vec (.str "integer") (.list cs) (gF lv)
noncomputable def Kx(cs lv:List T):Loc:=[("value",.f (bp cs lv))]
noncomputable def zq(cs lv:List T)(tx:List T):Loc:=[("value",.f (bp cs lv)),("levels",.f (.vec (.str "character") (.list lv) .none)),("texts",.f (.list tx))]
noncomputable abbrev sD:Expr:=c9 (nU (aq (bF 57 1)) 1)
noncomputable def EX(lv:List T):Prop:=(∀cs,exs (Et xK) (ae 57) ((ak 57).drop 0) (Kx cs lv)=bd (evComp (Ev.at xK 100000 37) (ae 57) (aH sD) "item" (az sD) (aN sD) (a9 sD) (zq cs lv lv)) λus ZZ=>some (.rt (.ol us) ZZ))
theorem K7(a:Str):EX [.str a]:=λ_=>by rw[ac false];rfl'
theorem LR(a b:Str):EX [.str a,.str b]:=λ_=>by rw[ac false];rfl'
theorem MM(a b c:Str):EX [.str a,.str b,.str c]:=λ_=>by rw[ac false];rfl'
theorem Jp(cs lv tx:List T):evIt (Ev.at xK 100000 37) (ae 57) (az sD) (zq cs lv tx)=some (cs,zq cs lv tx):=by rfl'
theorem Kp(cs lv tx:List T):(aG (ae 57) (a9 sD) "item" && (((zq cs lv tx).lookup ("item":Str)).isNone && ay (zq cs lv tx) (a9 sD) "item"))=true:=by rfl'
theorem Gz(cs lv tx:List T)(t:T):evT (Ev.at xK 100000 37) (kdC (a9 sD) (ae 57)) (aH sD) (wi (zq cs lv tx) "item" t)=(rn k0 56 [.list tx,t]).bind λa=>some (a.frz,wi (zq cs lv tx) "item" t):=by rw[bS false];rfl'
theorem wM(a:T):bL (bo 57) [a]=some [a]:=by rfl'
theorem mG{lv:List Str}{cds:List Nat}(hl:lv.length≤3)(h0:lv≠[])(hc:∀c∈cds,c < lv.length)(hn:cds.length≤1000):
  rn xK 57 [bp (cds.map ab) (lv.map fn)]=some (.ol (cds.map λc=>.str (lv.getD c Str.empty))):=by
 have hp:EX (lv.map fn):=ig (P:=λlv=>EX (lv.map fn)) K7 LR MM h0 hl
 have hg:∀t∈cds.map ab,rn k0 56 [.list (lv.map fn),t]=some (.f ((rn k0 56 [.list (lv.map fn),t]).elim .none V.frz)):=λt ht=>by
  obtain⟨c,hm,rfl⟩:=List.mem_map.mp ht
  rw[lW (by simpa using hl) (by simpa using hc c hm)];rfl
 have hcm:=aA (λ_=>true) (λt=>(rn k0 56 [.list (lv.map fn),t]).elim .none V.frz) (Jp (cds.map ab) (lv.map fn) (lv.map fn)) (Kp _ _ _) (by simp;(apply ah;assumption;rfl)) (ifs:=aN sD) (elt:=aH sD) (λt _=>by show ifsGo _ _ (aN sD) _=_;rfl') (λt ht _=>(Gz _ _ _ t).trans (by rw[hg t ht];rfl))
 rw[av]at hcm
 refine gq (wM _) ⟨zq (cds.map ab) (lv.map fn) (lv.map fn),?_⟩
 show exs _ _ _ (Kx (cds.map ab) (lv.map fn))=_
 rw[hp,hcm,aD,List.map_map]
 congr 3
 refine List.map_congr_left λc hm=>?_
 show(rn k0 56 [.list (lv.map fn),ab c]).elim .none V.frz=_
 rw[lW (by simpa using hl) (by simpa using hc c hm)]
 show(lv.map fn).getD c .none=_
 have hlt:=hc c hm
 rw[List.getD_eq_getElem?_getD,List.getD_eq_getElem?_getD,List.getElem?_map,List.getElem?_eq_getElem hlt]
 rfl
noncomputable def j8:Nat→Str
 |0=>"=q"
 |1=>"=p"
 |_=>"=r"
noncomputable def ll(cs lv:List T):Loc:=[("column",.f (bp cs lv))]
noncomputable def ki:Expr:=c9 (nU (aq (bF 106 0)) 0)
theorem GH(cs lv:List T):exs (Et pP) (ae 106) ((ak 106).drop 0) (ll cs lv)=bd (evComp (Ev.at pP 100000 37) (ae 106) (aH ki) "one" (az ki) (aN ki) (a9 ki) (ll cs lv)) λus ZZ=>some (.rt (.ol us) ZZ):=by rw[ac false];rfl'
noncomputable def DM(t:T)(σ:Loc):Option (List T×Loc):=match t with
 |.list ts=>some (ts,σ)
 |.tup ts=>some (ts,σ)
 |.dict ks _=>some (ks.map .str,σ)
 |_=>none
theorem Ix(cs lv:List T):evIt (Ev.at pP 100000 37) (ae 106) (az ki) (ll cs lv)=bd (evT (Ev.at pP 100000 37) (ae 106) (az ki) (ll cs lv)) DM:=by rfl'
theorem HS(cs lv:List T):evT (Ev.at pP 100000 37) (ae 106) (az ki) (ll cs lv)=(rn xK 57 [bp cs lv]).bind λa=>some (a.frz,ll cs lv):=by rw[bS false];rfl'
theorem Gx(cs lv:List T):(aG (ae 106) (a9 ki) "one" && (((ll cs lv).lookup ("one":Str)).isNone && ay (ll cs lv) (a9 ki) "one"))=true:=by rfl'
noncomputable def K1(h:Nat):Prop:=∀cs lv,evT (Ev.at pP 100000 37) (kdC (a9 ki) (ae 106)) (aH ki) (wi (ll cs lv) "one" (.str (cb h)))=some (.str (j8 h),wi (ll cs lv) "one" (.str (cb h)))
theorem DN:∀h,h < 3→K1 h:=by
 intro h hr
 apply fW ?_ ?_ ?_ hr
 ·exact λ_ _=>by rfl'
 ·exact λ_ _=>by rfl'
 ·exact λ_ _=>by rfl'
theorem yA(a:T):bL (bo 106) [a]=some [a]:=by rfl'
end
section
structure Lv(ls:List Nat)(cds:List Nat):Prop where
 h:∀h∈ls,h < 3
 l:ls.length≤3
 d:ls.Nodup
 n0:ls≠[]
 c:∀c∈cds,c < ls.length
 n:cds.length≤12
theorem Lv.at_lt{ls cds:List Nat}(L:Lv ls cds){c:Nat}(hc:c∈cds):ls.getD c 0 < 3:=by
 have:=L.c c hc
 rw[List.getD_eq_getElem?_getD,List.getElem?_eq_getElem this]
 exact L.h _ (List.getElem_mem _)
theorem lZ{ls cds:List Nat}(L:Lv ls cds):rn pP 106 [bp (cds.map ab) (aj ls)]=some (.ol (cds.map λc=>.str (j8 (ls.getD c 0)))):=by
 have hlt:=mG (lv:=ls.map cb) (cds:=cds) (by simpa using L.l) (by simpa using L.n0) (λc hc=>by simpa using L.c c hc) (by have:=L.n;(apply ah;assumption;rfl))
 have e1:(ls.map cb).map fn=aj ls:=by unfold aj;rw[List.map_map];rfl
 have e2:(cds.map λc=>T.str ((ls.map cb).getD c Str.empty))=cds.map λc=>.str (cb (ls.getD c 0)):=List.map_congr_left λc hc=>by
  have:=L.c c hc
  rw[List.getD_eq_getElem?_getD,List.getD_eq_getElem?_getD,List.getElem?_map,List.getElem?_eq_getElem this]
  rfl
 rw[e1,e2]at hlt
 have hi:evIt (Ev.at pP 100000 37) (ae 106) (az ki) (ll (cds.map ab) (aj ls))=some (cds.map λc=>.str (cb (ls.getD c 0)),ll (cds.map ab) (aj ls)):=by
  rw[Ix,HS,hlt];rfl
 have he:∀t∈(cds.map λc=>T.str (cb (ls.getD c 0))),∃u,evT (Ev.at pP 100000 37) (kdC (a9 ki) (ae 106)) (aH ki) (wi (ll (cds.map ab) (aj ls)) "one" t)=some (u,wi (ll (cds.map ab) (aj ls)) "one" t):=λt ht=>by
  obtain⟨c,hm,rfl⟩:=List.mem_map.mp ht
  exact⟨_,DN _ (L.at_lt hm) _ _⟩
 have hcm:=aA (λ_=>true) (λt=>(evT (Ev.at pP 100000 37) (kdC (a9 ki) (ae 106)) (aH ki) (wi (ll (cds.map ab) (aj ls)) "one" t)).elim .none (·.1)) hi (Gx _ _) (by have:=L.n;simp;(apply ah;assumption;rfl)) (ifs:=aN ki) (elt:=aH ki) (λt _=>by show ifsGo _ _ (aN ki) _=_;rfl') (λt ht _=>by
  obtain⟨u,hu⟩:=he t ht
  exact hu.trans (by rw[hu];rfl))
 rw[av]at hcm
 refine gq (yA _) ⟨ll (cds.map ab) (aj ls),?_⟩
 show exs _ _ _ (ll (cds.map ab) (aj ls))=_
 rw[GH,hcm,aD,List.map_map]
 refine congrArg (λl=>some (O.rt (.ol l) (ll (cds.map ab) (aj ls)))) (List.map_congr_left λc hm=>?_)
 show(evT _ _ _ (wi _ _ (T.str (cb (ls.getD c 0))))).elim .none (·.1)=_
 rw[DN _ (L.at_lt hm)]
 rfl
noncomputable def pR:Nat→Str
 |0=>"2:=q"
 |1=>"2:=p"
 |_=>"2:=r"
noncomputable def zp(ind:T)(n:Nat)(ks:List T)(found:V):Loc:=[("columns",.f (.list [ind])),("rows",.f (.int n)),("parts",.f (.list [.list ks])),("found",found)]
noncomputable def CL(ind:T)(n:Nat)(ks:List T)(found:V):Loc:=[("columns",.f (.list [ind])),("rows",.f (.int n)),("parts",.ol [.list ks]),("found",found)]
theorem JA(ind:T)(n:Nat):exs (Et oz) (ae 107) (sg (ak 107) 0 2) [("columns",.f (.list [ind])),("rows",.f (.int n))]=(rn pP 106 [ind]).bind λa=>some (.nx [("columns",.f (.list [ind])),("rows",.f (.int n)),("parts",.ol [a.frz]),("found",.ol [])]):=by rw[ac true];rfl'
theorem tc{P:Nat→Prop}(h0:P 0)(h1:P 1)(h2:P 2)(h3:P 3)(h4:P 4)(h5:P 5)(h6:P 6)(h7:P 7)(h8:P 8)(h9:P 9)(h10:P 10)(h11:P 11)(h12:P 12):∀o,o≤12→P o:=λo h=>(aW h0 (aW (P:=λo=>P (o+1)) h1 (aW (P:=λo=>P (o+2)) h2 (aW (P:=λo=>P (o+3)) h3 (aW (P:=λo=>P (o+4)) h4 (aW (P:=λo=>P (o+5)) h5 (aW (P:=λo=>P (o+6)) h6 (aW (P:=λo=>P (o+7)) h7 (aW (P:=λo=>P (o+8)) h8 (aW (P:=λo=>P (o+9)) h9 (aW (P:=λo=>P (o+10)) h10 (aW (P:=λo=>P (o+11)) h11 (aW (P:=λo=>P (o+12)) h12 m8))))))))))))) o (Nat.lt_succ_of_le h)
noncomputable def iT(i:Nat):T:=.int i
noncomputable def IQ(n:Nat):Prop:=∀ind ks,exs (Et oz) (ae 107) (sg (ak 107) 2 3) (CL ind n ks (.ol []))=(aC (Eu oz) (ae 107) "place" (aq (bF 107 2)) 4 ((List.range n).map iT) (CL ind n ks (.ol []))).bind li
theorem Kq:∀n,n≤12→IQ n:=by apply tc<;>(intro _ _;rfl')
noncomputable def jn{β:Type}(t:T)(k:Str→Option β):Option β:=match t with
 |.int i=>gd (decide (i.natAbs.log2 < 1920)) (k (toString i))
 |.str t=>gd (ag t.length) (k t)
 |_=>none
noncomputable def Dd(ks:List T)(p:Int)(k:Str→Option O):Option O:=(aw (.list ks) (.int p)).bind λu=>(f8 "len" [u]).bind λa=>jn a.frz λt1=>gd (ag (Str.empty ++ t1).length) (gd (ag (Str.empty ++ t1 ++ (":":Str)).length) ((aw (.list ks) (.int p)).bind λu2=>jn u2 λt2=>gd (ag (Str.empty ++ t1 ++ (":":Str) ++ t2).length) (gd (ag (Str.empty ++ t1 ++ (":":Str) ++ t2).length) (k (Str.empty ++ t1 ++ (":":Str) ++ t2)))))
theorem H9(ind:T)(n:Nat)(ks out:List T)(p:Int):exs (Eu oz) (ae 107) (aq (bF 107 2)) ((zp ind n ks (.ol out)).set "place" (.f (.int p)))=Dd ks p λs=>(iG Str.empty [.str s]).bind λt=>(aV "append" out t).bind λus=>some (.nx (wi (zp ind n ks (.ol us)) "place" (.int p))):=by rw[ac true];rfl'
theorem Iy(ind:T)(n:Nat)(ks out:List T)(p:Int):exs (Eu oz) (ae 107) (aq (bF 107 2)) ((CL ind n ks (.ol out)).set "place" (.f (.int p)))=Dd ks p λs=>(iG Str.empty [.str s]).bind λt=>(aV "append" out t).bind λus=>some (.nx (wi (zp ind n ks (.ol us)) "place" (.int p))):=by rw[ac true];rfl'
theorem zL{ks:List T}{p:Int}{k:Str→Option O}:∀{h:Nat},h < 3→aw (.list ks) (.int p)=some (.str (j8 h))→Dd ks p k=k (pR h):=by
 intro h hr
 refine fW (P:=λh=>aw (.list ks) (.int p)=some (.str (j8 h))→Dd ks p k=k (pR h)) (λe=>?_) (λe=>?_) (λe=>?_) hr<;>(unfold Dd;rw[e];rfl')
theorem vZ:∀{h:Nat},h < 3→iG Str.empty [.str (pR h)]=some (.str (pR h)):=by
 intro h hr
 apply fW ?_ ?_ ?_ hr
 ·rfl'
 ·rfl'
 ·rfl'
noncomputable def Gf(ind:T)(n:Nat)(ks:List T)(f:Nat→T):List Nat→Loc
 |[]=>CL ind n ks (.ol [])
 |i ::pre=>zp ind n ks (.ol ((i ::pre).map f))
theorem lC(ind:T)(n:Nat)(ks:List T)(f:Nat→T)(pre:List Nat)(i:Nat):Gf ind n ks f (pre ++ [i])=zp ind n ks (.ol (pre.map f ++ [f i])):=by
 cases pre with
 |nil=>rfl
 |cons a l=>show zp _ _ _ (.ol ((a ::(l ++ [i])).map f))=_;simp
theorem Gv(ind:T)(n:Nat)(ks out:List T):exs (Et oz) (ae 107) ((ak 107).drop 3) (zp ind n ks (.ol out))=some (.rt (.f (.list out)) (zp ind n ks (.f (.list out)))):=by rfl'
theorem IY(ind:T)(n:Nat)(ks:List T):exs (Et oz) (ae 107) ((ak 107).drop 3) (CL ind n ks (.ol []))=some (.rt (.f (.list [])) (CL ind n ks (.f (.list [])))):=by rfl'
theorem xP(a b:T):bL (bo 107) [a,b]=some [a,b]:=by rfl'
noncomputable def oC(ls cds:List Nat)(i:Nat):Nat:=ls.getD (cds.getD i 0) 0
theorem rV{α:Type}(l:List Nat)(f:Nat→α):(List.range l.length).map (λi=>f (l.getD i 0))=l.map f:=by
 apply List.ext_getElem
 ·simp
 ·intro i h1 h2
  simp at h1 h2
  simp[List.getD_eq_getElem?_getD,h1]
theorem t7{ls cds:List Nat}(L:Lv ls cds):rn oz 107 [.list [bp (cds.map ab) (aj ls)],.int cds.length]=some (.f (.list (cds.map λc=>.str (pR (ls.getD c 0))))):=by
 have hc:=lZ L
 have hn:=L.n
 have f2:=aZ iT (Gf (bp (cds.map ab) (aj ls)) cds.length (cds.map λc=>.str (j8 (ls.getD c 0))) λi=>.str (pR (oC ls cds i))) (List.range cds.length) (E:=Eu oz) (kd:=ae 107) (x:="place") (body:=aq (bF 107 2)) (n:=4) λpre i post e=>by
  have hi:i < cds.length:=List.mem_range.mp (by rw[e];simp)
  have hpl:pre.length≤cds.length:=by
   have:=congrArg List.length e
   simp at this;(apply BL;assumption)
  have hm:cds.getD i 0∈cds:=by rw[List.getD_eq_getElem?_getD,List.getElem?_eq_getElem hi];exact List.getElem_mem _
  have hh:oC ls cds i < 3:=L.at_lt hm
  have hs:aw (.list (cds.map λc=>.str (j8 (ls.getD c 0)))) (.int (i:Int))=some (.str (j8 (oC ls cds i))):=bC (by
   rw[List.getElem?_map,List.getElem?_eq_getElem hi]
   unfold oC
   rw[List.getD_eq_getElem?_getD (l:=cds),List.getElem?_eq_getElem hi];rfl) (by(apply bT;assumption;assumption;rfl))
  refine⟨wi (Gf (bp (cds.map ab) (aj ls)) cds.length (cds.map λc=>.str (j8 (ls.getD c 0))) (λi=>.str (pR (oC ls cds i))) (pre ++ [i])) "place" (iT i),.inl ?_,?_⟩
  ·rw[lC]
   cases pre with
   |nil=>
    refine(Iy _ _ _ [] _).trans ?_
    rw[zL hh hs,vZ hh];rfl
   |cons a l=>
    refine(H9 _ _ _ _ _).trans ?_
    rw[zL hh hs,vZ hh]
    show(aV "append" _ _).bind _=_
    rw[bD (by rw[List.length_map];(apply bz;assumption;assumption;rfl))];rfl
  ·rw[lC];rfl
 refine gq (xP _ _) ?_
 have s0:=JA (bp (cds.map ab) (aj ls)) cds.length
 rw[hc]at s0
 have e:(List.range cds.length).map (λi=>T.str (pR (oC ls cds i)))=cds.map λc=>.str (pR (ls.getD c 0)):=rV cds λc=>T.str (pR (ls.getD c 0))
 have e1:exs (Et oz) (ae 107) ((ak 107).drop 0) [("columns",.f (.list [bp (cds.map ab) (aj ls)])),("rows",.f (.int cds.length))]=exs (Et oz) (ae 107) ((ak 107).drop 3) (Gf (bp (cds.map ab) (aj ls)) cds.length (cds.map λc=>.str (j8 (ls.getD c 0))) (λi=>.str (pR (oC ls cds i))) (List.range cds.length)):=
  (ai 0 2 s0 rfl).trans (eW 2 3 (Kq _ hn _ _) f2 rfl)
 rw[←e]
 cases hr:List.range cds.length with
 |nil=>
  rw[hr]at e1
  exact⟨_,e1.trans (IY _ _ _)⟩
 |cons a l=>
  rw[hr]at e1
  exact⟨_,e1.trans (Gv _ _ _ _)⟩
end
section
theorem ID(c:Int):rn CS 83 [.str "integer",.int c]=some (.f (.bool false)):=by rfl'
theorem IR(cs lv:List T)(p:Int):exs (Et AE) (ae 109) ((ak 109).drop 0) [("columns",.f (.list [bp cs lv])),("place",.f (.int p))]=(aw (.list cs) (.int p)).bind λu=>(rn CS 83 [.str "integer",u]).bind λa=>a.frz.bool?.bind λb=>bif b then some (.rt (.f (.bool false)) [("columns",.f (.list [bp cs lv])),("place",.f (.int p)),("column",.f (bp cs lv))])else some (.rt (.f (.bool true)) [("columns",.f (.list [bp cs lv])),("place",.f (.int p))]):=by rw[ac true];rfl'
theorem xw(a b:T):bL (bo 109) [a,b]=some [a,b]:=by rfl'
theorem mD{cs lv:List T}{p:Nat}{c:Int}(h:cs[p]?=some (.int c))(hp:p < 100):rn AE 109 [.list [bp cs lv],.int p]=some (.f (.bool true)):=by
 refine gq (xw _ _) ⟨[("columns",.f (.list [bp cs lv])),("place",.f (.int p))],(IR cs lv p).trans ?_⟩
 ·rw[bC h (by(apply gw;assumption;rfl))]
  show(rn CS 83 [.str "integer",.int c]).bind _=_
  rw[ID];rfl
noncomputable def wg(cs lv:List T)(n:Nat):Loc:=[("groups",.f (.list [bp cs lv])),("rows",.f (.int n))]
theorem HI(cs lv:List T):exs (Et dH) (ae 110) (sg (ak 110) 0 1) [("groups",.f (.list [bp cs lv]))]=(c7 cs.length).bind λa=>some (.nx [("groups",.f (.list [bp cs lv])),("rows",a)]):=by rw[ac true];rfl'
noncomputable abbrev rg:Expr:=c9 (bF 110 1)
noncomputable def JR(n:Nat):Prop:=∀cs lv,exs (Et dH) (ae 110) (sg (ak 110) 1 2) (wg cs lv n)=bd (evComp (Ev.at dH 100000 39) (ae 110) (aH rg) "place" (az rg) (aN rg) (a9 rg) (wg cs lv n)) λus ZZ=>some (.nx (ZZ.set "kept" (.ol us)))
theorem H5:∀n,n≤12→JR n:=by apply tc<;>(intro _ _;rw[ac false];rfl')
noncomputable def Ju(n:Nat):Prop:=∀cs lv,evIt (Ev.at dH 100000 39) (ae 110) (az rg) (wg cs lv n)=some ((List.range n).map iT,wg cs lv n)
theorem IE:∀n,n≤12→Ju n:=by apply tc<;>(intro _ _;rfl')
theorem I0(cs lv:List T)(n:Nat):(aG (ae 110) (a9 rg) "place" && (((wg cs lv n).lookup ("place":Str)).isNone && ay (wg cs lv n) (a9 rg) "place"))=true:=by rfl'
theorem Jt(cs lv:List T)(n:Nat)(t:T):evT (Ev.at dH 100000 39) (kdC (a9 rg) (ae 110)) (aH rg) (wi (wg cs lv n) "place" t)=some (t,wi (wg cs lv n) "place" t):=by rfl'
theorem wk(cp:Bool){Z:Orc}{W n:Nat}{kd:Kd}{es:List Expr}{σ:Loc}:ifsGo (Ev.at Z W n) kd es σ=Cz (Ec.at cp Z W n) kd es σ λt σ'=>some (t,σ'):=by
 rw[wb (gZ cp Z W n)]
 cases ifsGo (Ev.at Z W n) kd es σ<;>rfl
theorem GU(cs lv:List T)(n:Nat)(t:T):ifsGo (Ev.at dH 100000 39) (kdC (a9 rg) (ae 110)) (aN rg) (wi (wg cs lv n) "place" t)=(rn AE 109 [.list [bp cs lv],t]).bind λa=>a.frz.bool?.bind λb=>some (b,wi (wg cs lv n) "place" t):=by rw[wk false];rfl'
noncomputable def vU(cs lv:List T)(n:Nat)(kept keys:List T)(tab:V):Loc:=[("groups",.f (.list [bp cs lv])),("rows",.f (.int n)),("kept",.f (.list kept)),("keys",.f (.list keys)),("table",tab)]
theorem GK(cs lv kept:List T)(n:Nat):exs (Et dH) (ae 110) (sg (ak 110) 2 4) [("groups",.f (.list [bp cs lv])),("rows",.f (.int n)),("kept",.ol kept)]=(rn oz 107 [.list [bp cs lv],.int n]).bind λa=>some (.nx [("groups",.f (.list [bp cs lv])),("rows",.f (.int n)),("kept",.ol kept),("keys",a),("table",.od [] [])]):=by rw[ac false];rfl'
theorem GQ(cs lv kept keys:List T)(n:Nat):exs (Et dH) (ae 110) (sg (ak 110) 4 5) [("groups",.f (.list [bp cs lv])),("rows",.f (.int n)),("kept",.ol kept),("keys",.f (.list keys)),("table",.od [] [])]=(aC (Eu dH) (ae 110) "place" (aq (bF 110 4)) 5 kept (vU cs lv n kept keys (.od [] []))).bind li:=by rfl'
theorem EO(cs lv kept keys:List T)(n:Nat)(p:Int):exs (Eu dH) (ae 110) (aq (bF 110 4)) ((vU cs lv n kept keys (.od [] [])).set "place" (.f (.int p)))=(aw (.list keys) (.int p)).bind λu=>u.str?.bind λc=>some (.nx (wi (vU cs lv n kept keys (.odl [c] [[.int p]])) "place" (.int p))):=by rw[ac false];rfl'
theorem DQ(cs lv kept keys:List T)(n:Nat)(p:Int)(ks:List Str)(tss:List (List T)):exs (Eu dH) (ae 110) (aq (bF 110 4)) ((vU cs lv n kept keys (.odl ks tss)).set "place" (.f (.int p)))=(aw (.list keys) (.int p)).bind λu=>u.str?.bind λc=>gd (ag ks.length && tss.all (λts=>ag ts.length)) (some (.nx (wi (vU cs lv n kept keys (.odl (a7 ks tss c (.int p)).1 (a7 ks tss c (.int p)).2)) "place" (.int p)))):=by rw[ac false];rfl'
noncomputable def lh(cs lv:List T)(n:Nat)(kept keys:List T)(tab:V)(firsts:V):Loc:=[("groups",.f (.list [bp cs lv])),("rows",.f (.int n)),("kept",.f (.list kept)),("keys",.f (.list keys)),("table",tab),("firsts",firsts)]
theorem G1(cs lv kept keys:List T)(n:Nat)(tab:V):exs (Et dH) (ae 110) (sg (ak 110) 5 6) (vU cs lv n kept keys tab)=some (.nx (lh cs lv n kept keys tab (.ol []))):=by rfl'
theorem Ib(cs lv kept keys:List T)(n:Nat)(tab:V):exs (Et dH) (ae 110) (sg (ak 110) 6 7) (lh cs lv n kept keys tab (.ol []))=(aC (Eu dH) (ae 110) "place" (aq (bF 110 6)) 6 kept (lh cs lv n kept keys tab (.ol []))).bind li:=by rfl'
noncomputable def Gn(keys:List T)(ks:List Str)(ts:List T)(p:Int)(a b:Option O):Option O:=(aw (.list keys) (.int p)).bind λu=>(aw (.dict ks ts) u).bind λl=>(aw l (.int 0)).bind λf=>(aT .Eq f (.int p)).bind λc=>bif c then a else b
theorem E3(cs lv kept keys:List T)(n:Nat)(p:Int)(ks:List Str)(tss:List (List T))(out:List T):exs (Eu dH) (ae 110) (aq (bF 110 6)) ((lh cs lv n kept keys (.odl ks tss) (.ol out)).set "place" (.f (.int p)))=Gn keys ks (tss.map .list) p ((aV "append" out (.int p)).bind λus=>some (.nx (wi (lh cs lv n kept keys (.f (.dict ks (tss.map .list))) (.ol us)) "place" (.int p)))) (some (.nx (wi (lh cs lv n kept keys (.f (.dict ks (tss.map .list))) (.ol out)) "place" (.int p)))):=by rw[ac false];rfl'
theorem E7(cs lv kept keys:List T)(n:Nat)(p:Int)(ks:List Str)(ts:List T)(out:List T):exs (Eu dH) (ae 110) (aq (bF 110 6)) ((lh cs lv n kept keys (.f (.dict ks ts)) (.ol out)).set "place" (.f (.int p)))=Gn keys ks ts p ((aV "append" out (.int p)).bind λus=>some (.nx (wi (lh cs lv n kept keys (.f (.dict ks ts)) (.ol us)) "place" (.int p)))) (some (.nx (wi (lh cs lv n kept keys (.f (.dict ks ts)) (.ol out)) "place" (.int p)))):=by rw[ac false];rfl'
end
section
noncomputable def fo(l:List Nat):List Nat:=l.foldl (λl c=>if c∈l then l else l ++ [c]) []
noncomputable def pos(l:List Nat)(d:Nat):List Nat:=(List.range l.length).filter λi=>l.getD i 0 == d
theorem cS(l:List Nat)(c:Nat):fo (l ++ [c])=if c∈fo l then fo l else fo l ++ [c]:=by unfold fo;rw[List.foldl_append];rfl
theorem cN{α:Type}{P:List α→Prop}(h0:P [])(h1:∀l c,P l→P (l ++ [c])):∀l,P l:=by
 suffices h:∀(n:Nat)(l:List α),l.length=n→P l from λl=>h _ l rfl
 intro n
 induction n with
 |zero=>intro l hl;rw[List.eq_nil_of_length_eq_zero hl];exact h0
 |succ n ih=>
  intro l hl
  have hn:l≠[]:=λe=>by subst e;simp at hl
  rw[←List.dropLast_concat_getLast hn]
  exact h1 _ _ (ih _ (by rw[List.length_dropLast,hl];rfl))
theorem bh:∀(l:List Nat)(d:Nat),d∈fo l↔d∈l:=by
 refine cN (λd=>Iff.rfl) λl c ih d=>?_
 rw[cS,List.mem_append,List.mem_singleton]
 by_cases hc:c∈fo l
 ·rw[if_pos hc,ih]
  exact⟨.inl,λh=>h.elim id λe=>e ▸ (ih c).mp hc⟩
 ·rw[if_neg hc,List.mem_append,List.mem_singleton,ih]
theorem fw:∀(l:List Nat),(fo l).Nodup:=by
 refine cN List.nodup_nil λl c ih=>?_
 rw[cS]
 by_cases hc:c∈fo l
 ·rw[if_pos hc];exact ih
 ·rw[if_neg hc]
  exact List.nodup_append.mpr ⟨ih,by simp,λa ha b hb e=>by rw[List.mem_singleton.mp hb]at e;exact hc (e ▸ ha)⟩
theorem dg(l:List Nat)(c d:Nat):pos (l ++ [c]) d=pos l d ++ (if c=d then[l.length]else[]):=by
 unfold pos
 rw[List.length_append,List.length_singleton,List.range_succ,List.filter_append]
 congr 1
 ·refine List.filter_congr λi hi=>?_
  have:=List.mem_range.mp hi
  rw[List.getD_eq_getElem?_getD,List.getD_eq_getElem?_getD,List.getElem?_append_left this]
 ·have e:(l ++ [c]).getD l.length 0=c:=by rw[List.getD_eq_getElem?_getD,List.getElem?_append_right (Nat.le_refl _)];simp
  by_cases hd:c=d
  ·rw[if_pos hd,List.filter_cons_of_pos (by rw[e];simpa using hd)];rfl
  ·rw[if_neg hd,List.filter_cons_of_neg (by rw[e];simpa using hd)];rfl
theorem cU{l:List Nat}{d i:Nat}:i∈pos l d↔i < l.length∧l.getD i 0=d:=by
 unfold pos
 rw[List.mem_filter,List.mem_range,beq_iff_eq]
theorem er{l:List Nat}{d:Nat}:pos l d=[]↔d∉l:=by
 constructor
 ·intro h hm
  obtain⟨i,hi,e⟩:=List.getElem_of_mem hm
  have:i∈pos l d:=cU.mpr ⟨hi,by rw[List.getD_eq_getElem?_getD,List.getElem?_eq_getElem hi];exact e⟩
  rw[h]at this
  exact nomatch this
 ·intro h
  cases hp:pos l d with
  |nil=>rfl
  |cons i r=>
   have:i∈pos l d:=by rw[hp];exact .head _
   obtain⟨hi,e⟩:=cU.mp this
   refine absurd ?_ h
   rw[←e,List.getD_eq_getElem?_getD,List.getElem?_eq_getElem hi]
   exact List.getElem_mem _
noncomputable def bc(l:List Nat)(d:Nat):Nat:=(pos l d).headD 0
theorem xT(l:List Nat)(d:Nat):∀r,∃s,pos (l ++ r) d=pos l d ++ s:=by
 refine cN ⟨[],by simp⟩ λr c ih=>?_
 obtain⟨s,e⟩:=ih
 rw[←List.append_assoc,dg,e]
 exact⟨_,List.append_assoc _ _ _⟩
theorem qw{l r:List Nat}{d:Nat}(h:d∈l):bc (l ++ r) d=bc l d:=by
 obtain⟨s,e⟩:=xT l d r
 unfold bc
 rw[e]
 cases hp:pos l d with
 |nil=>exact absurd h (er.mp hp)
 |cons=>rfl
theorem fK{l:List Nat}{d:Nat}(h:d∈l):bc l d∈pos l d:=by
 unfold bc
 cases hp:pos l d with
 |nil=>exact absurd h (er.mp hp)
 |cons a r=>exact .head _
theorem wU{l r:List Nat}{c:Nat}(h:c∉l):bc (l ++ c ::r) c=l.length:=by
 have:bc (l ++ [c] ++ r) c=bc (l ++ [c]) c:=qw (by simp)
 rw[List.append_assoc]at this
 refine this.trans ?_
 unfold bc
 rw[dg,er.mpr h,if_pos rfl];rfl
theorem w9{l r:List Nat}{c:Nat}(h:c∈l):bc (l ++ c ::r) c < l.length:=by
 rw[qw h]
 exact(cU.mp (fK h)).1
theorem xz{key:Nat→Str}{L:Nat→List T}{c:Nat}{t:T}{l:List Nat}:(∀d∈l,key d=key c→d=c)→l.Nodup→a7 (l.map key) (l.map L) (key c) t =
  if c∈l then(l.map key,l.map λd=>if d=c then L d ++ [t]else L d)else(l.map key ++ [key c],l.map L ++ [[t]]):=by
 induction l with
 |nil=>
  intro _ _
  exact rfl
 |cons d l ih=>
  intro hi hn
  have hn':=List.nodup_cons.mp hn
  show(if key d=key c then(key d ::l.map key,(L d ++ [t]) ::l.map L)else(key d ::(a7 (l.map key) (l.map L) (key c) t).1,L d ::(a7 (l.map key) (l.map L) (key c) t).2))=_
  by_cases hk:key d=key c
  ·have e:=hi d (.head _) hk
   subst e
   rw[if_pos rfl,if_pos (.head _),List.map_cons,List.map_cons,if_pos rfl]
   congr 2
   refine(List.map_congr_left λx hx=>?_).symm
   rw[if_neg]
   exact λe=>hn'.1 (e ▸ hx)
  ·have hne:d≠c:=λe=>hk (e ▸ rfl)
   rw[if_neg hk,ih (λx hx=>hi x (.tail _ hx)) hn'.2]
   by_cases hc:c∈l
   ·rw[if_pos hc,if_pos (.tail _ hc),List.map_cons,List.map_cons,if_neg hne]
   ·rw[if_neg hc,if_neg (λh=>(List.mem_cons.mp h).elim (λe=>hne e.symm) hc)];rfl
theorem uM{key:Nat→Str}{L:Nat→T}{c:Nat}:∀{l:List Nat},(∀d∈l,key d=key c→d=c)→c∈l→(((l.map key).findIdx? (·=key c)).bind ((l.map L)[·]?))=some (L c)
 |d ::l,hi,hm=>by
  rw[List.map_cons,List.findIdx?_cons]
  by_cases hk:key d=key c
  ·have e:=hi d (.head _) hk
   subst e
   simp
  ·have hm':c∈l:=(List.mem_cons.mp hm).elim (λe=>absurd (e ▸ rfl) hk) id
   have:=uM (L:=L) (λx hx=>hi x (.tail _ hx)) hm'
   simp only[hk,decide_false,Bool.false_eq_true,if_false]
   rw[←this]
   cases (l.map key).findIdx? (·=key c)<;>simp
theorem ul{key:Nat→Str}{L:Nat→T}{c:Nat}{l:List Nat}(h:∀d∈l,key d=key c→d=c)(hm:c∈l):aw (.dict (l.map key) (l.map L)) (.str (key c))=some (L c):=uM h hm
end
section
noncomputable def oP(l o:List Nat):Prop:=∃a:V,rn Fm 92 [.list [.vec (.str "integer") (.list (l.map ab)) .none]]=some a∧a.frz= .list (o.map iT)
theorem Mz:oP [] []:=⟨.ol [],by rfl',rfl⟩
theorem Mh:oP [0] [0]:=⟨.f (.list [.int 0]),by rfl',rfl⟩
theorem LJ:oP [1] [0]:=⟨.f (.list [.int 0]),by rfl',rfl⟩
theorem LC:oP [2] [0]:=⟨.f (.list [.int 0]),by rfl',rfl⟩
theorem Mb:oP [0,1] [0,1]:=⟨.f (.list [.int 0,.int 1]),by rfl',rfl⟩
theorem KZ:oP [0,2] [0,1]:=⟨.f (.list [.int 0,.int 1]),by rfl',rfl⟩
theorem MR:oP [1,0] [1,0]:=⟨.f (.list [.int 1,.int 0]),by rfl',rfl⟩
theorem MO:oP [1,2] [0,1]:=⟨.f (.list [.int 0,.int 1]),by rfl',rfl⟩
theorem Mq:oP [2,0] [1,0]:=⟨.f (.list [.int 1,.int 0]),by rfl',rfl⟩
theorem MV:oP [2,1] [1,0]:=⟨.f (.list [.int 1,.int 0]),by rfl',rfl⟩
theorem I6:oP [0,1,2] [0,1,2]:=⟨.f (.list [.int 0,.int 1,.int 2]),by rfl',rfl⟩
theorem JZ:oP [0,2,1] [0,2,1]:=⟨.f (.list [.int 0,.int 2,.int 1]),by rfl',rfl⟩
theorem Iw:oP [1,0,2] [1,0,2]:=⟨.f (.list [.int 1,.int 0,.int 2]),by rfl',rfl⟩
theorem JX:oP [1,2,0] [2,0,1]:=⟨.f (.list [.int 2,.int 0,.int 1]),by rfl',rfl⟩
theorem IH:oP [2,0,1] [1,2,0]:=⟨.f (.list [.int 1,.int 2,.int 0]),by rfl',rfl⟩
theorem Hs:oP [2,1,0] [2,1,0]:=⟨.f (.list [.int 2,.int 1,.int 0]),by rfl',rfl⟩
noncomputable def prs(l:List Nat):List Nat:=[0,1,2].filter λc=>decide (c∈l)
noncomputable def bR(l:List Nat):Prop:=∃o,oP l o∧o.length≤3∧(∀i∈o,i < l.length)∧o.map (λi=>l.getD i 0)=prs l
theorem G0:bR []:=⟨_,Mz,by decide,by decide,by decide⟩
theorem Kc:bR [0]:=⟨_,Mh,by decide,by decide,by decide⟩
theorem G6:bR [1]:=⟨_,LJ,by decide,by decide,by decide⟩
theorem JJ:bR [2]:=⟨_,LC,by decide,by decide,by decide⟩
theorem Ka:bR [0,1]:=⟨_,Mb,by decide,by decide,by decide⟩
theorem HT:bR [0,2]:=⟨_,KZ,by decide,by decide,by decide⟩
theorem Jc:bR [1,0]:=⟨_,MR,by decide,by decide,by decide⟩
theorem HK:bR [1,2]:=⟨_,MO,by decide,by decide,by decide⟩
theorem I9:bR [2,0]:=⟨_,Mq,by decide,by decide,by decide⟩
theorem Iv:bR [2,1]:=⟨_,MV,by decide,by decide,by decide⟩
theorem EH:bR [0,1,2]:=⟨_,I6,by decide,by decide,by decide⟩
theorem Fc:bR [0,2,1]:=⟨_,JZ,by decide,by decide,by decide⟩
theorem EY:bR [1,0,2]:=⟨_,Iw,by decide,by decide,by decide⟩
theorem FE:bR [1,2,0]:=⟨_,JX,by decide,by decide,by decide⟩
theorem FZ:bR [2,0,1]:=⟨_,IH,by decide,by decide,by decide⟩
theorem Dl:bR [2,1,0]:=⟨_,Hs,by decide,by decide,by decide⟩
theorem three{n:Nat}(h:n < 3):n=0∨n=1∨n=2:=(by decide:∀n:Fin 3,n.val=0∨n.val=1∨n.val=2) ⟨n,h⟩
noncomputable def oK:List (List Nat):=[[],[0],[1],[2],[0,1],[0,2],[1,0],[1,2],[2,0],[2,1],[0,1,2],[0,2,1],[1,0,2],[1,2,0],[2,0,1],[2,1,0]]
theorem HV:∀l∈oK,bR l:=by
 unfold oK
 simp only[List.mem_cons,List.not_mem_nil,or_false,forall_eq_or_imp,forall_eq]
 exact⟨G0,Kc,G6,JJ,Ka,HT,Jc,HK,I9,Iv,EH,Fc,EY,FE,FZ,Dl⟩
theorem GS:∀a:Fin 3,[a.val]∈oK:=by decide +kernel
theorem JG:∀a b:Fin 3,[a.val,b.val].Nodup→[a.val,b.val]∈oK:=by decide +kernel
theorem HB:∀a b c:Fin 3,[a.val,b.val,c.val].Nodup→[a.val,b.val,c.val]∈oK:=by decide +kernel
theorem IB:∀a b c d:Fin 3,¬ [a.val,b.val,c.val,d.val].Nodup:=by decide +kernel
theorem DC(l:List (Fin 3))(h:(l.map (·.val)).Nodup):l.map (·.val)∈oK:=by
 cases l with
 |nil=>exact .head _
 |cons a l=>cases l with
  |nil=>exact GS a
  |cons b l=>cases l with
   |nil=>exact JG a b h
   |cons c l=>cases l with
    |nil=>exact HB a b c h
    |cons d r=>exact absurd (List.Nodup.sublist (List.sublist_append_left [a.val,b.val,c.val,d.val] (r.map λx:Fin 3=>x.val)) h) (IB a b c d)
theorem EE{l:List Nat}(hn:l.Nodup)(h:∀c∈l,c < 3):l∈oK:=by
 have e:(l.pmap (λc h=>(⟨c,h⟩:Fin 3)) h).map (·.val)=l:=by rw[List.map_pmap];simp
 have q:=DC (l.pmap (λc h=>(⟨c,h⟩:Fin 3)) h)
 rw[e]at q
 exact q hn
theorem vR{l:List Nat}(hn:l.Nodup)(h:∀c∈l,c < 3):bR l:=HV l (EE hn h)
end
section
theorem cB(a b:Int):aT .Eq (.int a) (.int b)=some (a == b):=by rfl'
theorem ib(a b:Int):aT .NotEq (.int a) (.int b)=some (!(a == b)):=by rfl'
noncomputable def cI(ls:List Nat)(c:Nat):Str:=pR (ls.getD c 0)
theorem yn:∀{a b:Nat},a < 3→b < 3→pR a=pR b→a=b:=by
 intro a b ha hb
 rcases three ha with rfl|rfl|rfl<;>rcases three hb with rfl|rfl|rfl<;>decide +kernel
theorem Lv.inj{ls cds:List Nat}(L:Lv ls cds){c d:Nat}(hc:c∈cds)(hd:d∈cds)(e:cI ls d=cI ls c):d=c:=by
 have e2:=yn (L.at_lt hd) (L.at_lt hc) e
 have h1:=L.c c hc
 have h2:=L.c d hd
 rw[List.getD_eq_getElem?_getD,List.getD_eq_getElem?_getD,List.getElem?_eq_getElem h1,List.getElem?_eq_getElem h2]at e2
 have hp:=List.pairwise_iff_getElem.mp L.d
 rcases Nat.lt_trichotomy d c with h|h|h
 ·exact absurd (by simpa using e2) (hp d c h2 h1 h)
 ·exact h
 ·exact absurd (by simpa using e2.symm) (hp c d h1 h2 h)
theorem jZ{n i:Nat}{pre post:List Nat}(e:List.range n=pre ++ i ::post):pre.length=i∧i < n:=by
 have h:(List.range n)[pre.length]?=some i:=by rw[e,List.getElem?_append_right (Nat.le_refl _)];simp
 have hl:pre.length < n:=by
  have:=congrArg List.length e
  simp at this;(apply B8;assumption)
 rw[List.getElem?_range hl]at h
 have:=Option.some.inj h
 exact⟨this,this ▸ hl⟩
section
variable(ls cds:List Nat)
noncomputable def bn:List T:=cds.map λc=>.str (cI ls c)
noncomputable def ou(l:List Nat):List (List T):=(fo l).map λd=>(pos l d).map iT
noncomputable def ji(l:List Nat):V:=match l with
 |[]=>.od [] []
 |l=>.odl ((fo l).map (cI ls)) (ou l)
noncomputable def bl:List T:=(List.range cds.length).map iT
end
theorem yf(l:List Nat)(d:Nat):(pos l d).length≤l.length:=by
 unfold pos
 have:=List.length_filter_le (λi=>l.getD i 0 == d) (List.range l.length)
 rwa [List.length_range]at this
theorem iJ:∀(l:List Nat),(fo l).length≤l.length:=by
 refine cN (Nat.le_refl _) λl c ih=>?_
 rw[cS,List.length_append,List.length_singleton]
 by_cases hc:c∈fo l
 ·rw[if_pos hc];exact Nat.le_succ_of_le ih
 ·rw[if_neg hc,List.length_append,List.length_singleton];exact Nat.succ_le_succ ih
theorem wm{ls cds l:List Nat}(L:Lv ls cds){c:Nat}(hl:∀d∈l,d∈cds)(hc:c∈cds):
  a7 ((fo l).map (cI ls)) (ou l) (cI ls c) (iT l.length)=((fo (l ++ [c])).map (cI ls),ou (l ++ [c])):=by
 unfold ou
 rw[xz (λd hd e=>L.inj hc (hl d ((bh l d).mp hd)) e) (fw l),cS]
 by_cases hm:c∈fo l
 ·rw[if_pos hm,if_pos hm]
  congr 1
  refine List.map_congr_left λd hd=>?_
  rw[dg]
  by_cases e:d=c
  ·rw[if_pos e,if_pos e.symm,List.map_append];rfl
  ·rw[if_neg e,if_neg (λh=>e h.symm),List.append_nil]
 ·have hm':c∉l:=λh=>hm ((bh l c).mpr h)
  rw[if_neg hm,if_neg hm,List.map_append,List.map_append]
  congr 2
  ·refine List.map_congr_left λd hd=>?_
   have e:c≠d:=λe=>hm (e ▸ hd)
   rw[dg,if_neg e,List.append_nil]
  ·show[[iT l.length]]=[(pos (l ++ [c]) c).map iT]
   rw[dg,er.mpr hm',if_pos rfl];rfl
theorem gU{ls cds:List Nat}{i:Nat}(h:i < cds.length)(hn:cds.length≤12):aw (.list (bn ls cds)) (.int (i:Int))=some (.str (cI ls (cds.getD i 0))):=bC (by
 unfold bn
 rw[List.getElem?_map,List.getElem?_eq_getElem h,List.getD_eq_getElem?_getD,List.getElem?_eq_getElem h];rfl) (by(apply bT;assumption;assumption;rfl))
theorem fF{l:List Nat}{i:Nat}(h:i < l.length):l.getD i 0∈l:=by rw[List.getD_eq_getElem?_getD,List.getElem?_eq_getElem h];exact List.getElem_mem _
theorem jB{l:List Nat}{i:Nat}(h:i < l.length):l.take (i+1)=l.take i ++ [l.getD i 0]:=by
 rw[List.take_add_one,List.getD_eq_getElem?_getD,List.getElem?_eq_getElem h];rfl
theorem BJ{ls:List (List T)}(h:∀l∈ls,l.length≤100000):(ls.all λts=>ag ts.length)=true:=List.all_eq_true.mpr λl hl=>kc (h l hl)
theorem AY{ls cds:List Nat}(L:Lv ls cds)(cs lv:List T):aC (Eu dH) (ae 110) "place" (aq (bF 110 4)) 5 (bl cds) (vU cs lv cds.length (bl cds) (bn ls cds) (.od [] []))=some (.nx (vU cs lv cds.length (bl cds) (bn ls cds) (ji ls cds))):=by
 have hn:=L.n
 have f:=aZ iT (λpre=>vU cs lv cds.length (bl cds) (bn ls cds) (ji ls (cds.take pre.length))) (List.range cds.length) (E:=Eu dH) (kd:=ae 110) (x:="place") (body:=aq (bF 110 4)) (n:=5) λpre i post e=>by
  obtain⟨hp,hi⟩:=jZ e
  have hm:=fF hi
  have ht:=jB hi
  have hlen:(cds.take i).length=i:=by rw[List.length_take];(apply zI;assumption)
  refine⟨wi (vU cs lv cds.length (bl cds) (bn ls cds) (ji ls (cds.take (pre ++ [i]).length))) "place" (iT i),.inl ?_,rfl⟩
  rw[List.length_append,List.length_singleton,hp,ht]
  have hts:=wm (l:=cds.take i) L (λd hd=>List.mem_of_mem_take hd) hm
  rw[hlen]at hts
  cases htk:cds.take i with
  |nil=>
   rw[htk]at hts hlen
   have h1:[cI ls (cds.getD i 0)]=(fo ([] ++ [cds.getD i 0])).map (cI ls):=congrArg Prod.fst hts
   have h2:[[iT i]]=ou ([] ++ [cds.getD i 0]):=congrArg Prod.snd hts
   have e2:ji ls ([] ++ [cds.getD i 0])= .odl ((fo ([] ++ [cds.getD i 0])).map (cI ls)) (ou ([] ++ [cds.getD i 0])):=rfl
   refine(EO _ _ _ _ _ _).trans ?_
   rw[gU hi hn,e2,←h1,←h2]
   rfl
  |cons a l=>
   rw[htk]at hts hlen
   have e1:ji ls (a ::l)= .odl ((fo (a ::l)).map (cI ls)) (ou (a ::l)):=rfl
   have e2:ji ls (a ::l ++ [cds.getD i 0])= .odl ((fo (a ::l ++ [cds.getD i 0])).map (cI ls)) (ou (a ::l ++ [cds.getD i 0])):=rfl
   rw[e1,e2]
   refine(DQ _ _ _ _ _ _ _ _).trans ?_
   rw[gU hi hn]
   have hle:=iJ (a ::l)
   show gd _ (some (O.nx (wi (vU _ _ _ _ _ (.odl (a7 _ _ (cI ls (cds.getD i 0)) (iT i)).1 (a7 _ _ (cI ls (cds.getD i 0)) (iT i)).2)) "place" _)))=_
   rw[b9,hts]
   ·rfl
   ·rw[Bool.and_eq_true]
    refine⟨kc (by rw[List.length_map];(apply vX;assumption;assumption;assumption;assumption;rfl)),BJ λx hx=>?_⟩
    obtain⟨d,_,rfl⟩:=List.mem_map.mp hx
    have:=yf (a ::l) d
    rw[List.length_map];(apply vX;assumption;assumption;assumption;assumption;rfl)
 rw[show ji ls (cds.take (List.range cds.length).length)=ji ls cds by rw[List.length_range,List.take_length]]at f
 exact f
end
section
section
variable(ls cds:List Nat)
noncomputable def Gj(l:List Nat):T:=.dict ((fo l).map (cI ls)) ((ou l).map .list)
noncomputable def aQ(l:List Nat):List T:=(fo l).map λd=>iT (bc cds d)
noncomputable def eK(m:Nat):V:=match m with
 |0=>ji ls cds
 |_+1=>.f (Gj ls cds)
end
theorem za{ls cds:List Nat}(L:Lv ls cds){i:Nat}(hi:i < cds.length){a b:Option O}:Gn (bn ls cds) ((fo cds).map (cI ls)) ((ou cds).map .list) (i:Int) a b=bif decide (bc cds (cds.getD i 0)=i)then a else b:=by
 have hm:=fF hi
 unfold Gn
 rw[gU hi L.n]
 have ht:aw (.dict ((fo cds).map (cI ls)) ((ou cds).map .list)) (.str (cI ls (cds.getD i 0)))=some (.list ((pos cds (cds.getD i 0)).map iT)):=by
  unfold ou
  rw[List.map_map]
  exact ul (L:=λd=>T.list ((pos cds d).map iT)) (λd hd e=>L.inj hm ((bh _ _).mp hd) e) ((bh _ _).mpr hm)
 show(aw _ (.str (cI ls (cds.getD i 0)))).bind _=_
 rw[ht]
 show(aw (.list ((pos cds (cds.getD i 0)).map iT)) (.int (0:Nat))).bind _=_
 have hf:=fK hm
 have h0:((pos cds (cds.getD i 0)).map iT)[0]?=some (iT (bc cds (cds.getD i 0))):=by
  unfold bc
  cases hp:pos cds (cds.getD i 0)with
  |nil=>rw[hp]at hf;exact nomatch hf
  |cons x r=>rfl
 rw[bC h0 (by omega),aa]
 unfold iT
 rw[cB,aa]
 congr 1
 by_cases e:bc cds (cds.getD i 0)=i
 ·rw[decide_eq_true e,e];simp
 ·rw[decide_eq_false e]
  exact beq_eq_false_iff_ne.mpr λh=>e (Int.ofNat.inj h)
theorem rX{ls cds:List Nat}(L:Lv ls cds)(cs lv:List T):aC (Eu dH) (ae 110) "place" (aq (bF 110 6)) 6 (bl cds) (lh cs lv cds.length (bl cds) (bn ls cds) (ji ls cds) (.ol []))=some (.nx (lh cs lv cds.length (bl cds) (bn ls cds) (eK ls cds cds.length) (.ol (aQ cds cds)))):=by
 have hn:=L.n
 have f:=aZ iT (λpre=>lh cs lv cds.length (bl cds) (bn ls cds) (eK ls cds pre.length) (.ol (aQ cds (cds.take pre.length)))) (List.range cds.length) (E:=Eu dH) (kd:=ae 110) (x:="place") (body:=aq (bF 110 6)) (n:=6) λpre i post e=>by
  obtain⟨hp,hi⟩:=jZ e
  have hm:=fF hi
  have ht:=jB hi
  have hlen:(cds.take i).length=i:=by rw[List.length_take];(apply zI;assumption)
  have hcds:cds=cds.take i ++ cds.getD i 0 ::cds.drop (i+1):=by
   conv=>lhs;rw[←List.take_append_drop (i+1) cds,ht]
   simp
  refine⟨wi (lh cs lv cds.length (bl cds) (bn ls cds) (eK ls cds (pre ++ [i]).length) (.ol (aQ cds (cds.take (pre ++ [i]).length)))) "place" (iT i),.inl ?_,rfl⟩
  rw[List.length_append,List.length_singleton,hp,ht]
  have hstep:(bif decide (bc cds (cds.getD i 0)=i)then(aV "append" (aQ cds (cds.take i)) (iT i)).bind λus=>some (O.nx (wi (lh cs lv cds.length (bl cds) (bn ls cds) (.f (Gj ls cds)) (.ol us)) "place" (iT i)))else some (O.nx (wi (lh cs lv cds.length (bl cds) (bn ls cds) (.f (Gj ls cds)) (.ol (aQ cds (cds.take i)))) "place" (iT i)))) =
    some (O.nx (wi (lh cs lv cds.length (bl cds) (bn ls cds) (eK ls cds (i+1)) (.ol (aQ cds (cds.take i ++ [cds.getD i 0])))) "place" (iT i))):=by
   by_cases hc:cds.getD i 0∈cds.take i
   ·have h1:=w9 (r:=cds.drop (i+1)) hc
    rw[←hcds,hlen]at h1
    rw[decide_eq_false (Nat.ne_of_lt h1),cond_false]
    have:aQ cds (cds.take i ++ [cds.getD i 0])=aQ cds (cds.take i):=by
     unfold aQ
     rw[cS,if_pos ((bh _ _).mpr hc)]
    rw[this];rfl
   ·have h1:=wU (r:=cds.drop (i+1)) hc
    rw[←hcds,hlen]at h1
    rw[decide_eq_true h1,cond_true,bD (by unfold aQ;have:=iJ (cds.take i);rw[List.length_map];(apply vX;assumption;assumption;assumption;assumption;rfl))]
    have:aQ cds (cds.take i ++ [cds.getD i 0])=aQ cds (cds.take i) ++ [iT i]:=by
     unfold aQ
     rw[cS,if_neg (λh=>hc ((bh _ _).mp h)),List.map_append,List.map_singleton,h1]
    rw[this];rfl
  rw[←hstep]
  cases i with
  |zero=>
   cases hcd:cds with
   |nil=>rw[hcd]at hi;exact absurd hi (by simp)
   |cons a l=>
    rw[←hcd]
    have e1:eK ls cds 0= .odl ((fo cds).map (cI ls)) (ou cds):=by rw[hcd];rfl
    rw[e1]
    refine(E3 _ _ _ _ _ _ _ _ _).trans ?_
    exact za L hi
  |succ j=>
   refine(E7 _ _ _ _ _ _ _ _ _).trans ?_
   exact za L hi
 rw[List.length_range,List.take_length]at f
 exact f
noncomputable abbrev kf:Expr:=c9 (bF 110 8)
noncomputable def lg(cs lv:List T)(n:Nat)(kept keys:List T)(tab:V)(firsts heads:V):Loc:=[("groups",.f (.list [bp cs lv])),("rows",.f (.int n)),("kept",.f (.list kept)),("keys",.f (.list keys)),("table",tab),("firsts",firsts),("heads",heads)]
theorem IW(cs lv kept keys:List T)(n:Nat)(tab:V)(firsts:List T):exs (Et dH) (ae 110) (sg (ak 110) 7 8) (lh cs lv n kept keys tab (.ol firsts))=(rn f9 101 [bp cs lv,.list firsts]).bind λa=>(rn CQ 108 [a.frz]).bind λb=>some (.nx (lg cs lv n kept keys tab (.f (.list firsts)) (.ol [b.frz]))):=by rw[ac true];rfl'
theorem Hh(k i a:T):rn CQ 108 [.vec k i a]=some (.ov k i .none):=by rfl'
theorem JV(cs lv kept keys firsts:List T)(n:Nat)(tab heads:V):exs (Et dH) (ae 110) ((ak 110).drop 8) (lg cs lv n kept keys tab (.f (.list firsts)) heads)=bd (evComp (Ev.at dH 100000 38) (ae 110) (aH kf) "place" (az kf) (aN kf) (a9 kf) (lg cs lv n kept keys tab (.f (.list firsts)) heads)) λus ZZ=>some (.rt (.ol us) ZZ):=by rw[ac false];rfl'
theorem FK(cs lv kept keys firsts:List T)(n:Nat)(tab:V)(h:T):evIt (Ev.at dH 100000 38) (ae 110) (az kf) (lg cs lv n kept keys tab (.f (.list firsts)) (.ol [h]))=bd (evT (Ev.at dH 100000 38) (ae 110) (az kf) (lg cs lv n kept keys tab (.f (.list firsts)) (.ol [h]))) DM:=by rfl'
theorem Ej(cs lv kept keys firsts:List T)(n:Nat)(tab:V)(h:T):evT (Ev.at dH 100000 38) (ae 110) (az kf) (lg cs lv n kept keys tab (.f (.list firsts)) (.ol [h]))=(rn Fm 92 [.list [h]]).bind λa=>some (a.frz,lg cs lv n kept keys tab (.f (.list firsts)) (.f (.list [h]))):=by rw[bS false];rfl'
theorem DE(cs lv kept keys firsts:List T)(n:Nat)(tab:V)(h:T):(aG (ae 110) (a9 kf) "place" && (((lg cs lv n kept keys tab (.f (.list firsts)) (.f (.list [h]))).lookup ("place":Str)).isNone && ay (lg cs lv n kept keys tab (.f (.list firsts)) (.f (.list [h]))) (a9 kf) "place"))=true:=by rfl'
theorem DR(cs lv kept keys firsts:List T)(n:Nat)(ks:List Str)(ts:List T)(h:T)(p:Int):evT (Ev.at dH 100000 38) (kdC (a9 kf) (ae 110)) (aH kf) (wi (lg cs lv n kept keys (.f (.dict ks ts)) (.f (.list firsts)) (.f (.list [h]))) "place" (.int p))=(aw (.list firsts) (.int p)).bind λu=>(aw (.list keys) u).bind λv=>(aw (.dict ks ts) v).bind λw=>some (w,wi (lg cs lv n kept keys (.f (.dict ks ts)) (.f (.list firsts)) (.f (.list [h]))) "place" (.int p)):=by rw[bS false];rfl'
theorem xm(a:T):bL (bo 110) [a]=some [a]:=by rfl'
end
section
noncomputable def mh(cds:List Nat):List T:=(prs (fo cds)).map λd=>.list ((pos cds d).map iT)
theorem vH{cds:List Nat}{i:Nat}(h:i < cds.length):(cds.map ab)[i]?=some (ab (cds.getD i 0)):=by
 rw[List.getElem?_map,List.getElem?_eq_getElem h,List.getD_eq_getElem?_getD,List.getElem?_eq_getElem h];rfl
theorem xk{ls cds:List Nat}(L:Lv ls cds):exs (Et dH) (ae 110) (sg (ak 110) 1 2) (wg (cds.map ab) (aj ls) cds.length)=some (.nx [("groups",.f (.list [bp (cds.map ab) (aj ls)])),("rows",.f (.int cds.length)),("kept",.ol (bl cds))]):=by
 have hn:=L.n
 have hcm:=aA (λ_=>true) id (IE cds.length hn (cds.map ab) (aj ls)) (I0 _ _ _) (by simp;(apply ah;assumption;rfl)) (ifs:=aN rg) (elt:=aH rg) (λt ht=>by
  obtain⟨i,hi,rfl⟩:=List.mem_map.mp ht
  have hi:=List.mem_range.mp hi
  refine(GU _ _ _ _).trans ?_
  show(rn AE 109 [.list [bp (cds.map ab) (aj ls)],.int (i:Int)]).bind _=_
  rw[mD (vH hi) (by(apply bT;assumption;assumption;rfl))];rfl) (λt ht _=>Jt _ _ _ t)
 rw[av,List.map_id]at hcm
 rw[H5 _ hn,hcm];rfl
theorem dN{ls cds:List Nat}(L:Lv ls cds):rn dH 110 [.list [bp (cds.map ab) (aj ls)]]=some (.ol (mh cds)):=by
 have hn:=L.n
 have s0:=HI (cds.map ab) (aj ls)
 rw[List.length_map,bi (by(apply ah;assumption;rfl))]at s0
 have s2:=GK (cds.map ab) (aj ls) (bl cds) cds.length
 rw[t7 L]at s2
 have e1:exs (Et dH) (ae 110) ((ak 110).drop 0) [("groups",.f (.list [bp (cds.map ab) (aj ls)]))]=exs (Et dH) (ae 110) ((ak 110).drop 7) (lh (cds.map ab) (aj ls) cds.length (bl cds) (bn ls cds) (eK ls cds cds.length) (.ol (aQ cds cds))):=by
  rw[ai 0 1 s0 rfl]
  refine(ai 1 2 (xk L) rfl).trans ?_
  rw[ai 2 4 s2 rfl]
  refine(eW 4 5 (GQ _ _ _ (bn ls cds) _) (AY L _ _) rfl).trans ?_
  rw[ai 5 6 (G1 _ _ _ _ _ _) rfl]
  exact eW 6 7 (Ib _ _ _ _ _ _) (rX L _ _) rfl
 have hf:aQ cds cds=((fo cds).map (bc cds)).map λi:Nat=>T.int i:=by unfold aQ;rw[List.map_map];rfl
 have hfo:∀d∈fo cds,bc cds d < cds.length∧cds.getD (bc cds d) 0=d:=λd hd=>cU.mp (fK ((bh _ _).mp hd))
 have hfl:=iJ cds
 have hpk:=eM (k:="integer") (its:=cds.map ab) (ps:=(fo cds).map (bc cds)) (lQ (.str "integer") (.list (cds.map ab)) (aj ls)) (by rw[List.length_map];(apply ah;assumption;rfl)) (by rw[List.length_map];(apply bz;assumption;assumption;rfl)) (λp hp=>by
  obtain⟨d,hd,rfl⟩:=List.mem_map.mp hp
  rw[List.length_map];exact(hfo d hd).1)
 rw[←hf]at hpk
 have hcodes:(((fo cds).map (bc cds)).map λi=>(cds.map ab).getD i .none)=(fo cds).map ab:=by
  rw[List.map_map]
  refine List.map_congr_left λd hd=>?_
  show(cds.map ab).getD (bc cds d) .none=_
  rw[List.getD_eq_getElem?_getD,vH (hfo d hd).1,(hfo d hd).2];rfl
 rw[hcodes]at hpk
 have s7:=IW (cds.map ab) (aj ls) (bl cds) (bn ls cds) cds.length (eK ls cds cds.length) (aQ cds cds)
 rw[show rn f9 101 [bp (cds.map ab) (aj ls),.list (aQ cds cds)]=_ from hpk]at s7
 rw[aa,show rn CQ 108 [(V.ov (.str "integer") (.list ((fo cds).map ab)) (gF (aj ls))).frz]=_ from Hh _ _ _,aa]at s7
 obtain⟨o,⟨a,ho,ha⟩,hol,hoi,hop⟩:=vR (fw cds) λc hc=>Nat.lt_of_lt_of_le (L.c c ((bh _ _).mp hc)) L.l
 have hi:evIt (Ev.at dH 100000 38) (ae 110) (az kf) (lg (cds.map ab) (aj ls) cds.length (bl cds) (bn ls cds) (eK ls cds cds.length) (.f (.list (aQ cds cds))) (.ol [.vec (.str "integer") (.list ((fo cds).map ab)) .none]))=some (o.map iT,lg (cds.map ab) (aj ls) cds.length (bl cds) (bn ls cds) (eK ls cds cds.length) (.f (.list (aQ cds cds))) (.f (.list [.vec (.str "integer") (.list ((fo cds).map ab)) .none]))):=by
  rw[FK,Ej,ho,aa,ha];rfl
 have he:∀i∈o,evT (Ev.at dH 100000 38) (kdC (a9 kf) (ae 110)) (aH kf) (wi (lg (cds.map ab) (aj ls) cds.length (bl cds) (bn ls cds) (eK ls cds cds.length) (.f (.list (aQ cds cds))) (.f (.list [.vec (.str "integer") (.list ((fo cds).map ab)) .none]))) "place" (iT i)) =
   some (.list ((pos cds ((fo cds).getD i 0)).map iT),wi (lg (cds.map ab) (aj ls) cds.length (bl cds) (bn ls cds) (eK ls cds cds.length) (.f (.list (aQ cds cds))) (.f (.list [.vec (.str "integer") (.list ((fo cds).map ab)) .none]))) "place" (iT i)):=λi hio=>by
  have hil:=hoi i hio
  have hd:(fo cds).getD i 0∈fo cds:=fF hil
  have htb:eK ls cds cds.length= .f (Gj ls cds):=by
   cases hc:cds.length with
   |zero=>rw[List.eq_nil_of_length_eq_zero hc]at hil;exact absurd hil (by simp[fo])
   |succ n=>rfl
  rw[htb]
  refine(DR _ _ _ _ _ _ _ _ _ _).trans ?_
  rw[bC (u:=iT (bc cds ((fo cds).getD i 0))) (by unfold aQ;rw[List.getElem?_map,List.getElem?_eq_getElem hil,List.getD_eq_getElem?_getD,List.getElem?_eq_getElem hil];rfl) (by omega),aa]
  unfold iT
  rw[gU (hfo _ hd).1 hn,aa,(hfo _ hd).2]
  have ht:aw (.dict ((fo cds).map (cI ls)) ((ou cds).map .list)) (.str (cI ls ((fo cds).getD i 0)))=some (.list ((pos cds ((fo cds).getD i 0)).map iT)):=by
   unfold ou
   rw[List.map_map]
   exact ul (L:=λd=>T.list ((pos cds d).map iT)) (λd hd2 e=>L.inj ((bh _ _).mp hd) ((bh _ _).mp hd2) e) hd
  rw[ht];rfl
 have hcm:=aA (λ_=>true) (λt=>(evT (Ev.at dH 100000 38) (kdC (a9 kf) (ae 110)) (aH kf) (wi (lg (cds.map ab) (aj ls) cds.length (bl cds) (bn ls cds) (eK ls cds cds.length) (.f (.list (aQ cds cds))) (.f (.list [.vec (.str "integer") (.list ((fo cds).map ab)) .none]))) "place" t)).elim .none (·.1)) hi (DE _ _ _ _ _ _ _ _) (by simp;(apply ah;assumption;rfl)) (ifs:=aN kf) (elt:=aH kf) (λt _=>by show ifsGo _ _ (aN kf) _=_;rfl') (λt ht _=>by
  obtain⟨i,hio,rfl⟩:=List.mem_map.mp ht
  exact(he i hio).trans (by rw[he i hio];rfl))
 rw[av]at hcm
 refine gq (xm _) ⟨lg (cds.map ab) (aj ls) cds.length (bl cds) (bn ls cds) (eK ls cds cds.length) (.f (.list (aQ cds cds))) (.f (.list [.vec (.str "integer") (.list ((fo cds).map ab)) .none])),?_⟩
 refine e1.trans ?_
 rw[ai 7 8 s7 rfl]
 refine(JV _ _ _ _ _ _ _ _).trans ?_
 rw[show evComp _ _ _ _ _ _ _ (lg (cds.map ab) (aj ls) cds.length (bl cds) (bn ls cds) (eK ls cds cds.length) (.f (.list (aQ cds cds))) (.ol [(V.ov (.str "integer") (.list ((fo cds).map ab)) .none).frz]))=_ from hcm,aD]
 refine congrArg (λl=>some (O.rt (.ol l) _)) ?_
 unfold mh
 rw[←hop,List.map_map,List.map_map]
 refine List.map_congr_left λi hio=>?_
 show(evT _ _ _ (wi _ _ (iT i))).elim .none (·.1)=_
 rw[he i hio];rfl
end
section
theorem c8(cp:Bool){Z:Orc}{i:Nat}{ts:List T}:rn Z i ts=(bL (bo i) ts).bind λus=>oE (Ec.at cp Z 100000 40) (bo i).kd (bo i).body ((bo i).names.zip (us.map V.f)) uz:=by
 unfold rn m0
 congr 1;funext us
 rw[iV (gZ cp Z 100000 40)]
noncomputable def ww(its:List T):Option V:=gd (ag its.length) (some (.ol its))
theorem f7{its:List T}(h:its.length≤100000):ww its=some (.ol its):=b9 (kc h)
noncomputable def eV(k:Str)(its:List T):T:=.list [.str k,.list its,.list []]
theorem t63:∀r,r < 4→∀its,rn Z63 120 [vt r its]=(ww its).bind λa=>some (.ol [.str (kR r),a.frz,.list []]):=by
 intro r hr its
 apply aS ?_ ?_ ?_ ?_ hr
 ·rw[c8 false];rfl'
 ·rw[c8 false];rfl'
 ·rw[c8 false];rfl'
 ·rw[c8 false];rfl'
theorem t64:∀r,r < 4→∀its,rn Z64 120 [vt r its]=(ww its).bind λa=>some (.ol [.str (kR r),a.frz,.list []]):=by
 intro r hr its
 apply aS ?_ ?_ ?_ ?_ hr
 ·rw[c8 false];rfl'
 ·rw[c8 false];rfl'
 ·rw[c8 false];rfl'
 ·rw[c8 false];rfl'
theorem t65:∀r,r < 4→∀its,rn Z65 120 [vt r its]=(ww its).bind λa=>some (.ol [.str (kR r),a.frz,.list []]):=by
 intro r hr its
 apply aS ?_ ?_ ?_ ?_ hr
 ·rw[c8 false];rfl'
 ·rw[c8 false];rfl'
 ·rw[c8 false];rfl'
 ·rw[c8 false];rfl'
noncomputable def gu(lv:List T):T:=.list [.list [.str "class",eV "character" [.str "factor"]],.list [.str "levels",eV "character" lv]]
noncomputable def Gh(cs lv:List T):T:=.list [.str "integer",.list cs,gu lv]
theorem MW(cs lv:List T):rn Z64 120 [bp cs lv]=(ww cs).bind λa=>(rn Z63 120 [vt 3 [.str "factor"]]).bind λc=>(rn Z63 120 [vt 3 lv]).bind λd=>some (.ol [.str "integer",a.frz,.list [.list [.str "class",c.frz],.list [.str "levels",d.frz]]]):=by rw[c8 true];rfl'
noncomputable def Kz(n:Nat):Prop:=rn CN 98 [.int n]=some (.ov (.str "integer") (.list ((List.range n).map ab)) .none)
theorem im:∀n,n≤12→Kz n:=by apply tc<;>(unfold Kz;rfl')
noncomputable def KI(heads:List T)(rows:T):T:=.dict ["names","class","row.names"] [.vec (.str "character") (.list heads) .none,.vec (.str "character") (.list [.str "data.frame"]) .none,rows]
noncomputable def zw(cols heads:List T)(rows:T):T:=.vec (.str "list") (.list cols) (KI heads rows)
theorem jK(k1 i1 a1 k2 i2 a2 h1 h2 rows:T):rn CM 97 [.list [.vec k1 i1 a1,.vec k2 i2 a2],.list [h1,h2],rows]=some (.f (zw [.vec k1 i1 a1,.vec k2 i2 a2] [h1,h2] rows)):=by rfl'
theorem GL(k1 a1 k2 a2:T)(xs ys:List T):rn CT 112 [.list [.vec k1 (.list xs) a1],.list [.vec k2 (.list ys) a2]]=(c7 ys.length).bind λr=>(c7 xs.length).bind λa=>(aT .NotEq a.frz r.frz).bind λc=>bif c then none else(c7 ys.length).bind λb=>(aT .NotEq b.frz r.frz).bind λd=>bif d then none else some (.f .none):=by rw[c8 true];rfl'
theorem fJ(k1 a1 k2 a2:T){xs ys:List T}(h:xs.length=ys.length)(hl:ys.length≤1000):rn CT 112 [.list [.vec k1 (.list xs) a1],.list [.vec k2 (.list ys) a2]]=some (.f .none):=by
 rw[GL,h,bi (by(apply ah;assumption;rfl)),aa,aa]
 show(aT .NotEq (.int ys.length) (.int ys.length)).bind _=_
 rw[ib,aa,beq_self_eq_true,Bool.not_true,cond_false,aa]
 show(aT .NotEq (.int ys.length) (.int ys.length)).bind _=_
 rw[ib,aa,beq_self_eq_true];rfl
noncomputable abbrev zl(n:Nat):T:=.vec (.str "integer") (.list [.int n]) .none
theorem K9(a:Nat):rn jT 111 [.list [zl a],.bool true]=some (.ov (.str "integer") (.list [.int a]) .none):=by rfl'
theorem KY(a b:Nat):rn jT 111 [.list [zl a,zl b],.bool true]=some (.ov (.str "integer") (.list [.int a,.int b]) .none):=by rfl'
theorem MU(a b c:Nat):rn jT 111 [.list [zl a,zl b,zl c],.bool true]=some (.ov (.str "integer") (.list [.int a,.int b,.int c]) .none):=by rfl'
theorem Ip(x:T)(ts:List T):rn jT 111 [.list (x ::ts),.bool false]=(ww (x ::ts)).bind λa=>some (.ov (.str "list") a.frz .none):=by rw[c8 true];rfl'
theorem Ia(k1 i1 a1 k2 i2 a2:T)(heads rows:List T):rn Z65 120 [zw [.vec k1 i1 a1,.vec k2 i2 a2] heads (vt 1 rows)] =
 (rn Z64 120 [.vec k1 i1 a1]).bind λa=>(rn Z64 120 [.vec k2 i2 a2]).bind λb=>(rn Z64 120 [vt 3 [.str "data.frame"]]).bind λc=>(rn Z64 120 [vt 3 heads]).bind λd=>(rn Z64 120 [vt 1 rows]).bind λe=>
  some (.ol [.str "list",.list [a.frz,b.frz],.list [.list [.str "class",c.frz],.list [.str "names",d.frz],.list [.str "row.names",e.frz]]]):=by rw[c8 true];rfl'
end
section
inductive Lay:Nat→T→Prop
 |none (n):Lay n .none
 |bool (n b):Lay n (.bool b)
 |int (n i):Lay n (.int i)
 |str (n) {x:Str} (h:PyData.strOk x=true):Lay n (.str x)
 |list (n) {ts:List T} (h:∀t∈ts,Lay n t):Lay (n+1) (.list ts)
 |tup (n) {ts:List T} (h:∀t∈ts,Lay n t):Lay (n+1) (.tup ts)
structure LayOk(n:Nat)(t:T)(d:PyData):Prop where
 py:t.py=some d
 can:PyData.canLay0 d=true
 dep:d.depth≤n
 eq:PyData.eqv d d=true
structure LaysOk(n:Nat)(ts:List T)(ds:List PyData):Prop where
 py:T.pys ts=some ds
 can:PyData.canLayAll0 ds=true
 dep:PyData.depthAll ds≤n
 eq:PyData.eqvAll ds ds=true
theorem j9{n:Nat}:∀{ts:List T},(∀t∈ts,∃d,LayOk n t d)→∃ds,LaysOk n ts ds
 |[],_=>⟨[],rfl,rfl,Nat.zero_le _,rfl⟩
 |t ::ts,h=>by
  obtain⟨d,hd⟩:=h t (.head _)
  obtain⟨ds,hds⟩:=j9 λt ht=>h t (.tail _ ht)
  exact⟨d ::ds,nb hd.py hds.py,Bool.and_eq_true_iff.mpr ⟨hd.can,hds.can⟩,Nat.max_le.mpr ⟨hd.dep,hds.dep⟩,Bool.and_eq_true_iff.mpr ⟨hd.eq,hds.eq⟩⟩
theorem Ag{n:Nat}{t:T}(h:Lay n t):∃d,LayOk n t d:=by
 induction h with
 |none n=>exact⟨.none,rfl,rfl,Nat.zero_le _,rfl⟩
 |bool n b=>exact⟨.bool b,rfl,rfl,Nat.zero_le _,beq_self_eq_true _⟩
 |int n i=>exact⟨.int i,rfl,rfl,Nat.zero_le _,beq_self_eq_true _⟩
 |str n h=>exact⟨.str _,rfl,h,Nat.zero_le _,beq_self_eq_true _⟩
 |list n h ih=>
  obtain⟨ds,q⟩:=j9 ih
  exact⟨.list ds,congrArg (Option.map _) q.py,q.can,Nat.succ_le_succ q.dep,q.eq⟩
 |tup n h ih=>
  obtain⟨ds,q⟩:=j9 ih
  exact⟨.tuple ds,congrArg (Option.map _) q.py,q.can,Nat.succ_le_succ q.dep,q.eq⟩
theorem pi{n:Nat}{t:T}(h:Lay n t)(hn:n≤64):nT t t=some true:=by
 obtain⟨d,q⟩:=Ag h
 have hs:SeqAt.shaped d=true:=by
  unfold SeqAt.shaped
  rw[q.can,decide_eq_true (Nat.le_trans q.dep hn)];rfl
 unfold nT
 rw[q.py]
 show gd (SeqAt.shaped d && SeqAt.shaped d) (some (PyData.eqv d d))=_
 rw[hs,q.eq];rfl
theorem Lay.up{n m:Nat}{t:T}(h:Lay n t)(hm:n≤m):Lay m t:=by
 induction h generalizing m with
 |none n=>exact .none m
 |bool n b=>exact .bool m b
 |int n i=>exact .int m i
 |str n h=>exact .str m h
 |list n h ih=>
  obtain⟨k,rfl⟩:∃k,m=k+1:=⟨m - 1,(Nat.sub_add_cancel (Nat.le_trans (Nat.succ_le_succ (Nat.zero_le _)) hm)).symm⟩
  exact .list k λt ht=>ih t ht (Nat.le_of_succ_le_succ hm)
 |tup n h ih=>
  obtain⟨k,rfl⟩:∃k,m=k+1:=⟨m - 1,(Nat.sub_add_cancel (Nat.le_trans (Nat.succ_le_succ (Nat.zero_le _)) hm)).symm⟩
  exact .tup k λt ht=>ih t ht (Nat.le_of_succ_le_succ hm)
theorem cK{n:Nat}{t:T}(h:Lay n t)(hn:n≤64):aT .Eq t t=some true∧aT .NotEq t t=some false:=⟨pi h hn,by show(nT t t).map _=_;rw[pi h hn];rfl⟩
theorem ei{s o:Nat}(h:o < 8):Lay 1 (oh s o):=by
 revert o
 match s with
 |0=>apply dG<;>constructor
 |1=>apply dG<;>first|exact .none _|(refine .tup 0 λt ht=>?_;revert t;simp only[List.mem_cons,List.not_mem_nil,or_false,forall_eq_or_imp,forall_eq];exact⟨.int _ _,.int _ _⟩)
 |2=>apply dG<;>first|exact .none _|exact .str _ (by decide +kernel)
 |n+3=>apply dG<;>constructor
end
section
noncomputable def zr:Nat→T
 |7=>.none
 |o=>.int (bin o+1)
noncomputable abbrev AC:List T:=[.str "s",.str "t"]
noncomputable def aU(c:Col):T:=match c.s with
 |4=>bp (c.os.map zr) AC
 |_=>aB c
noncomputable def hdT(c:Col):T:=.str (cb c.h)
noncomputable def aR(cs:List Col):T:=.vec (.str "list") (.list (cs.map aU)) (.dict ["names"] [.vec (.str "character") (.list (cs.map hdT)) .none])
noncomputable def cY(c:Col):T:=match c.s with
 |4=>Gh (c.os.map zr) AC
 |_=>eV (kR (rk c.s)) (bX c)
noncomputable def bQ(cs:List Col):T:=.list [.str "list",.list (cs.map cY),.list [.list [.str "names",eV "character" (cs.map hdT)]]]
theorem ba{Z:Orc}{r:Nat}{its:List T}(h:rn Z 120 [vt r its]=(ww its).bind λa=>some (.ol [.str (kR r),a.frz,.list []]))(hl:its.length≤1000):rn Z 120 [vt r its]=some (.ol [.str (kR r),.list its,.list []]):=by rw[h,f7 (by(apply ah;assumption;rfl))];rfl
theorem il{cs lv:List T}(h1:cs.length≤1000)(h2:lv.length≤1000):rn Z64 120 [bp cs lv]=some (.ol [.str "integer",.list cs,gu lv]):=by
 rw[MW,f7 (by(apply ah;assumption;rfl)),aa,ba (t63 3 (by decide) _) (by simp),aa,ba (t63 3 (by decide) _) h2];rfl
theorem ln{c:Col}(ok:ColOk c):∃a,rn Z64 120 [aU c]=some a∧a.frz=cY c:=by
 have hl:=ok.l
 obtain⟨h,s,os⟩:=c
 match s with
 |4=>exact⟨_,il (by rw[List.length_map];exact Nat.le_trans hl (by decide)) (by decide),rfl⟩
 |0=>exact⟨_,ba (t64 1 (by decide) _) (by unfold bX;rw[List.length_map];exact Nat.le_trans hl (by decide)),rfl⟩
 |1=>exact⟨_,ba (t64 2 (by decide) _) (by unfold bX;rw[List.length_map];exact Nat.le_trans hl (by decide)),rfl⟩
 |2=>exact⟨_,ba (t64 3 (by decide) _) (by unfold bX;rw[List.length_map];exact Nat.le_trans hl (by decide)),rfl⟩
 |3=>exact⟨_,ba (t64 0 (by decide) _) (by unfold bX;rw[List.length_map];exact Nat.le_trans hl (by decide)),rfl⟩
 |n+5=>exact⟨_,ba (t64 0 (by decide) _) (by unfold bX;rw[List.length_map];exact Nat.le_trans hl (by decide)),rfl⟩
noncomputable def yP(v:T):Loc:=[("v",.f v)]
noncomputable def tI(e:Expr):Expr:=match e with
 |.IfExp _ a _ _=>a
 |e=>e
noncomputable abbrev sH:Expr:=tI (c9 (bF 120 0))
theorem J9(its:List T)(a:T):exs (Et Z65) (ae 120) (sg (ak 120) 0 1) (yP (.vec (.str "list") (.list its) a))=bd (evComp (Ev.at Z65 100000 37) (ae 120) (aH sH) "one" (az sH) (aN sH) (a9 sH) (yP (.vec (.str "list") (.list its) a))) λus ZZ=>some (.nx (ZZ.set "inside" (.f (.list us)))):=by rw[ac false];rfl'
theorem Ij(its:List T)(a:T):evIt (Ev.at Z65 100000 37) (ae 120) (az sH) (yP (.vec (.str "list") (.list its) a))=some (its,yP (.vec (.str "list") (.list its) a)):=by rfl'
theorem Jq(v:T):(aG (ae 120) (a9 sH) "one" && (((yP v).lookup ("one":Str)).isNone && ay (yP v) (a9 sH) "one"))=true:=by rfl'
theorem I2(v t:T):evT (Ev.at Z65 100000 37) (kdC (a9 sH) (ae 120)) (aH sH) (wi (yP v) "one" t)=(rn Z64 120 [t]).bind λa=>some (a.frz,wi (yP v) "one" t):=by rw[bS false];rfl'
noncomputable def KN(its hs:List T):T:=.vec (.str "list") (.list its) (.dict ["names"] [.vec (.str "character") (.list hs) .none])
noncomputable def Lk(its us hs:List T):Loc:=[("v",.f (KN its hs)),("inside",.f (.list us))]
noncomputable def KF(its us hs:List T)(a:T):Loc:=[("v",.f (KN its hs)),("inside",.f (.list us)),("beside",.f (.list [.list [.str "names",a]]))]
theorem I3(its us hs:List T):exs (Et Z65) (ae 120) ((ak 120).drop 1) (Lk its us hs)=(rn Z64 120 [vt 3 hs]).bind λa=>some (.rt (.ol [.str "list",.list us,.list [.list [.str "names",a.frz]]]) (KF its us hs a.frz)):=by rw[ac true];rfl'
theorem wG(a:T):bL (bo 120) [a]=some [a]:=by rfl'
theorem dw{cs:List Col}(ok:ColsOk cs):rn Z65 120 [aR cs]=some (.ol [.str "list",.list (cs.map cY),.list [.list [.str "names",eV "character" (cs.map hdT)]]]):=by
 have hl:=ok.l
 have hg:∀t∈cs.map aU,rn Z64 120 [t]=some (((rn Z64 120 [t])).getD (.f .none)):=λt ht=>by
  obtain⟨c,hc,rfl⟩:=List.mem_map.mp ht
  obtain⟨a,ha,_⟩:=ln (ok.c c hc)
  rw[ha];rfl
 have hcm:=aA (λ_=>true) (λt=>((rn Z64 120 [t]).getD (.f .none)).frz) (Ij (cs.map aU) (.dict ["names"] [.vec (.str "character") (.list (cs.map hdT)) .none])) (Jq _) (by simp;(apply ah;assumption;rfl)) (ifs:=aN sH) (elt:=aH sH) (λt _=>by show ifsGo _ _ (aN sH) _=_;rfl') (λt ht _=>(I2 _ t).trans (by rw[hg t ht];rfl))
 rw[av]at hcm
 have hm:(cs.map aU).map (λt=>((rn Z64 120 [t]).getD (.f .none)).frz)=cs.map cY:=by
  rw[List.map_map]
  refine List.map_congr_left λc hc=>?_
  obtain⟨a,ha,e⟩:=ln (ok.c c hc)
  show((rn Z64 120 [aU c]).getD (.f .none)).frz=_
  rw[ha];exact e
 rw[hm]at hcm
 have h1:=I3 (cs.map aU) (cs.map cY) (cs.map hdT)
 rw[ba (t64 3 (by decide) _) (by simp;(apply ah;assumption;rfl))]at h1
 refine gq (wG _) ⟨KF (cs.map aU) (cs.map cY) (cs.map hdT) (eV "character" (cs.map hdT)),?_⟩
 ·refine Eq.trans ?_ h1
  have s0:=J9 (cs.map aU) (.dict ["names"] [.vec (.str "character") (.list (cs.map hdT)) .none])
  rw[hcm,aD]at s0
  exact ai 0 1 s0 rfl
end
section
noncomputable def eT(s o:Nat):T:=.tup [oh s o,Gu s o]
noncomputable def a8(c:Col):T:=.tup [.int c.s,.list (c.os.map (eT c.s))]
noncomputable def Li(s:Nat)(prs:List T)(R:Nat):Loc:=[("piece",.f (.tup [.int s,.list prs])),("broad",.f (.str (kR R)))]
noncomputable def rT(s:Nat)(prs:List T)(R:Nat):Loc:=[("piece",.f (.tup [.int s,.list prs])),("broad",.f (.str (kR R))),("sort",.f (.int s)),("pairs",.f (.list prs))]
noncomputable abbrev L7:Expr:=c9 (nU (aq (bF 122 1)) 0)
noncomputable abbrev KU:Expr:=c9 (nU (aq (bF 122 2)) 0)
noncomputable abbrev KC:Expr:=c9 (bF 122 3)
noncomputable def jm(R s:Nat):Expr×Nat:=match R with
 |3=>(L7,37)
 |2=>match s with
  |1=>(KC,38)
  |_=>(KU,37)
 |_=>(KC,38)
noncomputable def KS(R s:Nat):Prop:=∀prs,exs (Et rA) (ae 122) ((ak 122).drop 0) (Li s prs R)=bd (evComp (Ev.at rA 100000 (jm R s).2) (ae 122) (aH (jm R s).1) "pair" (az (jm R s).1) (aN (jm R s).1) (a9 (jm R s).1) (rT s prs R)) λus ZZ=>some (.rt (.ol us) ZZ)
noncomputable def MH(R s o:Nat):Prop:=∀prs,evT (Ev.at rA 100000 (jm R s).2) (kdC (a9 (jm R s).1) (ae 122)) (aH (jm R s).1) (wi (rT s prs R) "pair" (eT s o))=some (lx R s o,wi (rT s prs R) "pair" (eT s o))
structure LhOk(R s:Nat):Prop where
 p:KS R s
 i:∀prs,evIt (Ev.at rA 100000 (jm R s).2) (ae 122) (az (jm R s).1) (rT s prs R)=some (prs,rT s prs R)
 sc:∀prs,(aG (ae 122) (a9 (jm R s).1) "pair" && (((rT s prs R).lookup ("pair":Str)).isNone && ay (rT s prs R) (a9 (jm R s).1) "pair"))=true
 f:∀prs t,ifsGo (Ev.at rA 100000 (jm R s).2) (kdC (a9 (jm R s).1) (ae 122)) (aN (jm R s).1) (wi (rT s prs R) "pair" t)=some (true,wi (rT s prs R) "pair" t)
 q:∀o,o < 8→MH R s o
theorem Hc:LhOk 0 3:=⟨λ_=>by rw[ac false];rfl',λ_=>by rfl',λ_=>by rfl',λ_ _=>by rfl',by apply dG<;>(intro _;rfl')⟩
theorem G5:LhOk 1 0:=⟨λ_=>by rw[ac false];rfl',λ_=>by rfl',λ_=>by rfl',λ_ _=>by rfl',by apply dG<;>(intro _;rfl')⟩
theorem IZ:LhOk 1 3:=⟨λ_=>by rw[ac false];rfl',λ_=>by rfl',λ_=>by rfl',λ_ _=>by rfl',by apply dG<;>(intro _;rfl')⟩
theorem J3:LhOk 2 0:=⟨λ_=>by rw[ac false];rfl',λ_=>by rfl',λ_=>by rfl',λ_ _=>by rfl',by apply dG<;>(intro _;rfl')⟩
theorem I1:LhOk 2 1:=⟨λ_=>by rw[ac false];rfl',λ_=>by rfl',λ_=>by rfl',λ_ _=>by rfl',by apply dG<;>(intro _;rfl')⟩
theorem GA:LhOk 2 3:=⟨λ_=>by rw[ac false];rfl',λ_=>by rfl',λ_=>by rfl',λ_ _=>by rfl',by apply dG<;>(intro _;rfl')⟩
theorem JB:LhOk 3 0:=⟨λ_=>by rw[ac false];rfl',λ_=>by rfl',λ_=>by rfl',λ_ _=>by rfl',by apply dG<;>(intro _;rfl')⟩
theorem JW:LhOk 3 1:=⟨λ_=>by rw[ac false];rfl',λ_=>by rfl',λ_=>by rfl',λ_ _=>by rfl',by apply dG<;>(intro _;rfl')⟩
theorem H4:LhOk 3 2:=⟨λ_=>by rw[ac false];rfl',λ_=>by rfl',λ_=>by rfl',λ_ _=>by rfl',by apply dG<;>(intro _;rfl')⟩
theorem HG:LhOk 3 3:=⟨λ_=>by rw[ac false];rfl',λ_=>by rfl',λ_=>by rfl',λ_ _=>by rfl',by apply dG<;>(intro _;rfl')⟩
theorem Di{R s:Nat}(hs:s < 4)(hR:R < 4)(h:rk s≤R):LhOk R s:=by
 revert h
 exact aS (P:=λR=>rk s≤R→LhOk R s)
  (aS (P:=λs=>rk s≤0→LhOk 0 s) (λh=>absurd h (by decide)) (λh=>absurd h (by decide)) (λh=>absurd h (by decide)) (λ_=>Hc) hs)
  (aS (P:=λs=>rk s≤1→LhOk 1 s) (λ_=>G5) (λh=>absurd h (by decide)) (λh=>absurd h (by decide)) (λ_=>IZ) hs)
  (aS (P:=λs=>rk s≤2→LhOk 2 s) (λ_=>J3) (λ_=>I1) (λh=>absurd h (by decide)) (λ_=>GA) hs)
  (aS (P:=λs=>rk s≤3→LhOk 3 s) (λ_=>JB) (λ_=>JW) (λ_=>H4) (λ_=>HG) hs) hR
theorem yo(a b:T):bL (bo 122) [a,b]=some [a,b]:=by rfl'
theorem handed{c:Col}{R:Nat}(ok:ColOk c)(hs:c.s < 4)(hR:R < 4)(h:rk c.s≤R):rn rA 122 [a8 c,.str (kR R)]=some (.ol (aL R c)):=by
 have L:=Di hs hR h
 have hl:=ok.l
 have hg:∀t∈c.os.map (eT c.s),evT (Ev.at rA 100000 (jm R c.s).2) (kdC (a9 (jm R c.s).1) (ae 122)) (aH (jm R c.s).1) (wi (rT c.s (c.os.map (eT c.s)) R) "pair" t)=some ((evT (Ev.at rA 100000 (jm R c.s).2) (kdC (a9 (jm R c.s).1) (ae 122)) (aH (jm R c.s).1) (wi (rT c.s (c.os.map (eT c.s)) R) "pair" t)).elim .none (·.1),wi (rT c.s (c.os.map (eT c.s)) R) "pair" t):=λt ht=>by
  obtain⟨o,ho,rfl⟩:=List.mem_map.mp ht
  rw[L.q o (ok.o o ho)];rfl
 have hcm:=aA (λ_=>true) _ (L.i (c.os.map (eT c.s))) (L.sc _) (by simp;(apply ah;assumption;rfl)) (λt _=>L.f _ t) (λt ht _=>hg t ht)
 rw[av,List.map_map]at hcm
 refine gq (yo _ _) ⟨rT c.s (c.os.map (eT c.s)) R,?_⟩
 refine(L.p _).trans ?_
 rw[hcm,aD]
 refine congrArg (λl=>some (O.rt (.ol l) _)) (List.map_congr_left λo ho=>?_)
 show(evT _ _ _ (wi _ _ (eT c.s o))).elim .none (·.1)=_
 rw[L.q o (ok.o o ho)];rfl
end
section
noncomputable def zD(cols heads:T)(n:Nat):List T:=[.str "list",cols,.list [.list [.str "class",eV "character" [.str "data.frame"]],.list [.str "names",.list [.str "character",heads,.list []]],.list [.str "row.names",eV "integer" ((List.range n).map ab)]]]
noncomputable def MZ(n:Nat):Prop:=∀cols heads,rn Z66 121 [cols,heads,.int n]=some (.ol (zD cols heads n))
theorem zP:∀n,n≤12→MZ n:=by apply tc<;>(intro _ _;rfl')
noncomputable def tU(s o:Nat):Prop:=rn nL 119 [.int s,.int o]=some (.f (eT s o))
theorem LU:∀o,o < 8→tU 0 o:=by apply dG<;>(unfold tU;rfl')
theorem K2:∀o,o < 8→tU 1 o:=by apply dG<;>(unfold tU;rfl')
theorem L8:∀o,o < 8→tU 2 o:=by apply dG<;>(unfold tU;rfl')
theorem LN:∀o,o < 8→tU 3 o:=by apply dG<;>(unfold tU;rfl')
theorem Ml:∀o,o < 8→tU 4 o:=by apply dG<;>(unfold tU;rfl')
theorem Cs{s o:Nat}(hs:s < 5)(ho:o < 8):tU s o:=by
 match s,hs with
 |0,_=>exact LU o ho
 |1,_=>exact K2 o ho
 |2,_=>exact L8 o ho
 |3,_=>exact LN o ho
 |4,_=>exact Ml o ho
 |n+5,h=>exact(y5 h).elim
end
section
noncomputable def Ce(df:T)(l:Addr)(g:List T):Loc:=[("df",.f df),("notes",.f (.opq 0 l)),(ghost 0,.ol g)]
noncomputable def kG(df:T)(l:Addr)(g:List T)(nm:V):Loc:=[("df",.f df),("notes",.f (.opq 0 l)),(ghost 0,.ol g),("names",nm)]
noncomputable abbrev bU(cols hs:List T):T:=.vec (.str "list") (.list cols) (.dict ["names"] [.vec (.str "character") (.list hs) .none])
theorem te(cols hs:List T):rn Z3 58 [bU cols hs]=(ww hs).bind λa=>some a:=by rw[c8 false];rfl'
theorem Kk(cols hs:List T)(l:Addr):exs (Et dn) (ae 116) (sg (ak 116) 0 1) (Ce (bU cols hs) l [])=(rn Z3 58 [bU cols hs]).bind λa=>some (.nx (kG (bU cols hs) l [] a)):=by rw[ac false];rfl'
noncomputable abbrev sJ:Expr:=match c9 (bF 116 1)with
 |.IfExp _ _ b _=>b
 |e=>e
theorem GC(cols hs:List T)(l:Addr):exs (Et dn) (ae 116) (sg (ak 116) 1 2) (kG (bU cols hs) l [] (.ol hs))=bd (evComp (Ev.at dn 100000 37) (ae 116) (aH sJ) "one" (az sJ) (aN sJ) (a9 sJ) (kG (bU cols hs) l [] (.f (.list hs)))) λus ZZ=>some (.nx (ZZ.set "names" (.f (.list us)))):=by rw[ac false];rfl'
noncomputable def JT(h:Nat):Prop:=∀cols hs l nm,evT (Ev.at dn 100000 37) (kdC (a9 sJ) (ae 116)) (aH sJ) (wi (kG (bU cols hs) l [] nm) "one" (.str (cb h)))=some (.str (cb h),wi (kG (bU cols hs) l [] nm) "one" (.str (cb h)))
theorem JY:∀h,h < 3→JT h:=by
 intro h hr
 apply fW ?_ ?_ ?_ hr
 ·exact λ_ _ _ _=>by rfl'
 ·exact λ_ _ _ _=>by rfl'
 ·exact λ_ _ _ _=>by rfl'
theorem GX(cols hs:List T)(l:Addr):evIt (Ev.at dn 100000 37) (ae 116) (az sJ) (kG (bU cols hs) l [] (.f (.list hs)))=some (hs,kG (bU cols hs) l [] (.f (.list hs))):=by rfl'
theorem JC(cols hs:List T)(l:Addr)(nm:T):(aG (ae 116) (a9 sJ) "one" && (((kG (bU cols hs) l [] (.f nm)).lookup ("one":Str)).isNone && ay (kG (bU cols hs) l [] (.f nm)) (a9 sJ) "one"))=true:=by rfl'
end
section
theorem u9(k i:T):rn CA 114 [.vec k i .none]=some (.f (.bool true)):=by rfl'
theorem Bk(cs lv:List T):rn CA 114 [bp cs lv]=some (.f (.bool false)):=by rfl'
noncomputable abbrev qT:Expr:=c9 (bF 116 2)
noncomputable def uC(nl:List T):Prop:=∀cols hs l,exs (Et dn) (ae 116) (sg (ak 116) 2 3) (kG (bU cols hs) l [] (.f (.list nl)))=(bd (evComp (Ev.at dn 100000 39) (ae 116) (aH qT) "place" (az qT) (aN qT) (a9 qT) (kG (bU cols hs) l [] (.f (.list nl)))) λus ZZ=>some (.nx (ZZ.set "kept" (.ol us))))∧
 evIt (Ev.at dn 100000 39) (ae 116) (az qT) (kG (bU cols hs) l [] (.f (.list nl)))=some ((List.range nl.length).map iT,kG (bU cols hs) l [] (.f (.list nl)))
theorem JO(a:T):uC [a]:=λ_ _ _=>⟨by rw[ac false];rfl',by rfl'⟩
theorem GR(a b:T):uC [a,b]:=λ_ _ _=>⟨by rw[ac false];rfl',by rfl'⟩
theorem JD(a b c:T):uC [a,b,c]:=λ_ _ _=>⟨by rw[ac false];rfl',by rfl'⟩
theorem I5(a b c d:T):uC [a,b,c,d]:=λ_ _ _=>⟨by rw[ac false];rfl',by rfl'⟩
theorem EZ(cols hs:List T)(l:Addr)(nm t:T):ifsGo (Ev.at dn 100000 39) (kdC (a9 qT) (ae 116)) (aN qT) (wi (kG (bU cols hs) l [] (.f nm)) "place" t)=(aw (.list cols) t).bind λu=>(rn CA 114 [u]).bind λa=>a.frz.bool?.bind λb=>some (b,wi (kG (bU cols hs) l [] (.f nm)) "place" t):=by rw[wk false];rfl'
theorem Fq(cols hs:List T)(l:Addr)(nm t:T):evT (Ev.at dn 100000 39) (kdC (a9 qT) (ae 116)) (aH qT) (wi (kG (bU cols hs) l [] (.f nm)) "place" t)=some (t,wi (kG (bU cols hs) l [] (.f nm)) "place" t):=by rfl'
theorem Ee(cols hs:List T)(l:Addr)(nm:T):(aG (ae 116) (a9 qT) "place" && (((kG (bU cols hs) l [] (.f nm)).lookup ("place":Str)).isNone && ay (kG (bU cols hs) l [] (.f nm)) (a9 qT) "place"))=true:=by rfl'
end
section
noncomputable def mz(df:T)(l:Addr)(g:List T)(nl:List T)(kept:V):Loc:=[("df",.f df),("notes",.f (.opq 0 l)),(ghost 0,.ol g),("names",.f (.list nl)),("kept",kept)]
theorem Jh(df:T)(l:Addr)(nl kept:List T):exs (Et dn) (ae 116) (sg (ak 116) 3 4) (mz df l [] nl (.ol kept))=(c7 kept.length).bind λa=>(aT .Eq a.frz (.int 0)).bind λc=>bif c then none else some (.nx (mz df l [] nl (.f (.list kept)))):=by rw[ac false];rfl'
theorem IJ(df:T)(l:Addr)(nl kept:List T):exs (Et dn) (ae 116) (sg (ak 116) 4 5) (mz df l [] nl (.f (.list kept)))=(c7 kept.length).bind λa=>(c7 nl.length).bind λb=>(aT .Lt a.frz b.frz).bind λc=>bif !c then(bif c then some (.nx (mz df l [.str "non-vector elements will be ignored"] nl (.f (.list kept))))else some (.nx (mz df l [] nl (.f (.list kept)))))else some (.nx (mz df l [.str "non-vector elements will be ignored"] nl (.f (.list kept)))):=by rw[ac false];rfl'
noncomputable def sW(df:T)(l:Addr)(g:List T)(nl kept lv cs:List T):Loc:=[("df",.f df),("notes",.f (.opq 0 l)),(ghost 0,.ol g),("names",.f (.list nl)),("kept",.f (.list kept)),("levels",.ol lv),("codes",.ol cs)]
theorem GW(df:T)(l:Addr)(g nl kept:List T):exs (Et dn) (ae 116) (sg (ak 116) 5 7) (mz df l g nl (.f (.list kept)))=some (.nx (sW df l g nl kept [] [])):=by rfl'
theorem HD(df:T)(l:Addr)(g nl kept:List T):exs (Et dn) (ae 116) (sg (ak 116) 7 8) (sW df l g nl kept [] [])=(aC (Eu dn) (ae 116) "place" (aq (bF 116 7)) 7 kept (sW df l g nl kept [] [])).bind li:=by rfl'
noncomputable def Go(cols nl:List T)(p:Int)(lv cs:List T)(k:List T→Option O):Option O:=(aw (.list nl) (.int p)).bind λu=>u.str?.bind λy=>gd (ag lv.length) ((dM lv y).bind λt=>(ez .Add t (.int 1)).bind λb=>(aw (.list cols) (.int p)).bind λc=>(mM "items" c).bind λit=>(f8 "len" [it]).bind λn=>(ez .Mult (.list [b.frz]) n.frz).bind λm=>(aV "extend" cs m.frz).bind k)
theorem H1(cols hs:List T)(l:Addr)(g nl kept lv cs:List T)(p:Int):exs (Eu dn) (ae 116) (aq (bF 116 7)) ((sW (bU cols hs) l g nl kept lv cs).set "place" (.f (.int p))) =
 (aw (.list nl) (.int p)).bind λu=>(aT .NotIn u (.list lv)).bind λc=>bif c then((aw (.list nl) (.int p)).bind λv=>(aV "append" lv v).bind λlv2=>Go cols nl p lv2 cs λcs2=>some (.nx (wi (sW (bU cols hs) l g nl kept lv2 cs2) "place" (.int p))))else Go cols nl p lv cs λcs2=>some (.nx (wi (sW (bU cols hs) l g nl kept lv cs2) "place" (.int p))):=by rw[ac false];rfl'
end
section
theorem qL(cs:List T):rn Z8 47 [.list cs]=(ww cs).bind λa=>some (.ov (.str "integer") a.frz .none):=by rw[c8 false];rfl'
noncomputable def Kv(df:T)(l:Addr)(g nl kept lv cs:List T)(ind:V):Loc:=[("df",.f df),("notes",.f (.opq 0 l)),(ghost 0,.ol g),("names",.f (.list nl)),("kept",.f (.list kept)),("levels",.ol lv),("codes",.f (.list cs)),("ind",ind)]
noncomputable def xy(df:T)(l:Addr)(g nl kept lv cs:List T)(ind:V):Loc:=[("df",.f df),("notes",.f (.opq 0 l)),(ghost 0,.ol g),("names",.f (.list nl)),("kept",.f (.list kept)),("levels",.f (.list lv)),("codes",.f (.list cs)),("ind",ind)]
theorem JP(df:T)(l:Addr)(g nl kept lv cs:List T):exs (Et dn) (ae 116) (sg (ak 116) 8 9) (sW df l g nl kept lv cs)=(rn Z8 47 [.list cs]).bind λa=>some (.nx (Kv df l g nl kept lv cs a)):=by rw[ac false];rfl'
noncomputable def x9(lv:List T):Prop:=∀df l g nl kept cs k i a,exs (Et dn) (ae 116) (sg (ak 116) 9 10) (Kv df l g nl kept lv cs (.ov k i a))=some (.nx (xy df l g nl kept lv cs (.ov k i (gF lv))))
theorem Fb(a:T):x9 [a]:=λ_ _ _ _ _ _ _ _ _=>by rfl'
theorem C9(a b:T):x9 [a,b]:=λ_ _ _ _ _ _ _ _ _=>by rfl'
theorem FI(a b c:T):x9 [a,b,c]:=λ_ _ _ _ _ _ _ _ _=>by rfl'
theorem HP:∀lv:List T,lv≠[]→lv.length≤3→x9 lv:=λ_=>ig Fb C9 FI
noncomputable abbrev sP:Expr:=cW 0 (c9 (bF 116 10))
theorem DY(df:T)(l:Addr)(g nl kept lv cs:List T)(ind:V):exs (Et dn) (ae 116) (sg (ak 116) 10 11) (xy df l g nl kept lv cs ind)=bd (evComp (Ev.at dn 100000 37) (ae 116) (aH sP) "place" (az sP) (aN sP) (a9 sP) (xy df l g nl kept lv cs ind)) λus ZZ=>(rn gM 104 [.list us]).bind λa=>some (.nx (ZZ.set "values" a)):=by rw[ac false];rfl'
theorem F2(df:T)(l:Addr)(g nl kept lv cs:List T)(ind:V):evIt (Ev.at dn 100000 37) (ae 116) (az sP) (xy df l g nl kept lv cs ind)=some (kept,xy df l g nl kept lv cs ind):=by rfl'
theorem ES(df:T)(l:Addr)(g nl kept lv cs:List T)(ind:V):(aG (ae 116) (a9 sP) "place" && (((xy df l g nl kept lv cs ind).lookup ("place":Str)).isNone && ay (xy df l g nl kept lv cs ind) (a9 sP) "place"))=true:=by rfl'
theorem DI(cols hs:List T)(l:Addr)(g nl kept lv cs:List T)(ind:V)(t:T):evT (Ev.at dn 100000 37) (kdC (a9 sP) (ae 116)) (aH sP) (wi (xy (bU cols hs) l g nl kept lv cs ind) "place" t)=(aw (.list cols) t).bind λu=>(rn Z12 115 [u]).bind λa=>some (a.frz,wi (xy (bU cols hs) l g nl kept lv cs ind) "place" t):=by rw[bS false];rfl'
theorem bare:∀r,r < 4→∀its,rn Z12 115 [vt r its]=some (.ov (.str (kR r)) (.list its) .none):=by
 intro r hr its
 apply aS ?_ ?_ ?_ ?_ hr
 ·rfl'
 ·rfl'
 ·rfl'
 ·rfl'
noncomputable def Kf(df:T)(l:Addr)(g nl kept lv cs:List T)(ind vals:V):Loc:=[("df",.f df),("notes",.f (.opq 0 l)),(ghost 0,.ol g),("names",.f (.list nl)),("kept",.f (.list kept)),("levels",.f (.list lv)),("codes",.f (.list cs)),("ind",ind),("values",vals)]
theorem FP(df:T)(l:Addr)(g nl kept lv cs:List T)(k1 i1 a1 k2 i2 a2:T):exs (Et dn) (ae 116) ((ak 116).drop 11) (Kf df l g nl kept lv cs (.ov k2 i2 a2) (.ov k1 i1 a1))=(c7 cs.length).bind λn=>(rn CN 98 [n.frz]).bind λr=>(rn CM 97 [.list [.vec k1 i1 a1,.vec k2 i2 a2],.list [.str "values",.str "ind"],r.frz]).bind λa=>some (.rt a (Kf df l g nl kept lv cs (.f (.vec k2 i2 a2)) (.f (.vec k1 i1 a1)))):=by rw[ac false];rfl'
end
section
theorem qr{a b:Nat}(ha:a < 3)(hb:b < 3)(e:cb a=cb b):a=b:=by
 revert e
 rcases three ha with rfl|rfl|rfl<;>rcases three hb with rfl|rfl|rfl<;>decide +kernel
theorem k5(a:Nat):PyData.strOk (cb a)=true:=by
 match a with
 |0=>decide +kernel
 |1=>decide +kernel
 |n+2=>show PyData.strOk "r"=true;decide +kernel
theorem vA:∀(ls:List Nat),T.pys (aj ls)=some (ls.map λh=>.str (cb h))∧PyData.canLayAll0 (ls.map λh=>.str (cb h))=true
 |[]=>⟨rfl,rfl⟩
 |h ::ls=>by
  obtain⟨h1,h2⟩:=vA ls
  unfold aj at h1 ⊢
  refine⟨nb rfl h1,Bool.and_eq_true_iff.mpr ⟨k5 _,h2⟩⟩
theorem u5{a:Nat}(ha:a < 3):∀{ls:List Nat},(∀h∈ls,h < 3)→((ls.map λh=>PyData.str (cb h)).any λy=>PyData.eqv y (.str (cb a)))=decide (a∈ls)
 |[],_=>by simp
 |h ::ls,hl=>by
  rw[List.map_cons,List.any_cons,u5 ha λx hx=>hl x (.tail _ hx),PyData.eqv]
  by_cases e:h=a
  ·subst e;simp
  ·have:(cb h == cb a)=false:=beq_eq_false_iff_ne.mpr λq=>e (qr (hl h (.head _)) ha q)
   rw[this,Bool.false_or]
   congr 1
   simp[Ne.symm e]
theorem FS{a:Nat}{ls:List Nat}(ha:a < 3)(hl:∀h∈ls,h < 3):jo (.str (cb a)) (aj ls)=some (decide (a∈ls)):=by
 obtain⟨h1,h2⟩:=vA ls
 unfold jo
 show(T.pys (aj ls)).bind _=_
 rw[h1]
 show gd (SeqAt.shaped (.str (cb a)) && PyData.canLayAll0 _) _=_
 have hs:SeqAt.shaped (.str (cb a))=true:=by unfold SeqAt.shaped;rw[PyData.canLay0,k5,PyData.depth];rfl
 rw[hs,h2,u5 ha hl];rfl
theorem mJ{a:Nat}{ls:List Nat}(ha:a < 3)(hl:∀h∈ls,h < 3):aT .NotIn (.str (cb a)) (.list (aj ls))=some (!decide (a∈ls)):=by
 show(jo (.str (cb a)) (aj ls)).map _=_
 rw[FS ha hl];rfl
noncomputable def jE(ls:List Nat)(a:Nat):Nat:=(ls.findIdx? (·== a)).getD 0
theorem qD:∀(ls:List Nat),jX (aj ls)=some (ls.map cb)
 |[]=>rfl
 |h ::ls=>by
  have:=qD ls
  unfold aj at this ⊢
  rw[List.map_cons,jX,this];rfl
theorem pA{a:Nat}(ha:a < 3):∀{ls:List Nat},(∀h∈ls,h < 3)→(ls.map cb).findIdx? (·=cb a)=ls.findIdx? (·== a)
 |[],_=>rfl
 |h ::ls,hl=>by
  rw[List.map_cons,List.findIdx?_cons,List.findIdx?_cons,pA ha λx hx=>hl x (.tail _ hx)]
  by_cases e:h=a
  ·subst e;simp
  ·have:¬ cb h=cb a:=λq=>e (qr (hl h (.head _)) ha q)
   simp[this,e]
theorem dQ{a:Nat}:∀{ls:List Nat},a∈ls→ls.findIdx? (·== a)=some (jE ls a)∧jE ls a < ls.length∧ls.getD (jE ls a) 0=a
 |h ::ls,hm=>by
  unfold jE
  rw[List.findIdx?_cons]
  by_cases e:h=a
  ·subst e;simp
  ·have hm':a∈ls:=(List.mem_cons.mp hm).elim (λq=>absurd q.symm e) id
   obtain⟨h1,h2,h3⟩:=dQ hm'
   have he:(h == a)=false:=beq_eq_false_iff_ne.mpr e
   rw[h1,he]
   exact⟨rfl,Nat.succ_lt_succ h2,h3⟩
theorem uj{a:Nat}{ls:List Nat}(ha:a < 3)(hl:∀h∈ls,h < 3)(hm:a∈ls):dM (aj ls) (cb a)=some (.int (jE ls a)):=by
 unfold dM
 rw[qD]
 show((ls.map cb).findIdx? (·=cb a)).map _=_
 rw[pA ha hl,(dQ hm).1];rfl
theorem AB{a:Nat}{ls r:List Nat}(hm:a∈ls):jE (ls ++ r) a=jE ls a:=by
 obtain⟨h1,_,_⟩:=dQ hm
 unfold jE
 rw[List.findIdx?_append,h1];rfl
theorem B7(l:List Nat):∀r,∃s,fo (l ++ r)=fo l ++ s:=by
 refine cN ⟨[],by simp⟩ λr c ih=>?_
 obtain⟨s,e⟩:=ih
 rw[←List.append_assoc,cS,e]
 by_cases h:c∈fo l ++ s
 ·rw[if_pos h];exact⟨s,rfl⟩
 ·rw[if_neg h];exact⟨s ++ [c],List.append_assoc _ _ _⟩
end
section
noncomputable def af(ks:List Col):List Nat:=fo (ks.map (·.h))
noncomputable def ce(lv:List Nat)(ks:List Col):List Nat:=ks.flatMap λc=>List.replicate c.os.length (jE lv c.h)
theorem eh(ks:List Col)(c:Col):af (ks ++ [c])=if c.h∈af ks then af ks else af ks ++ [c.h]:=by unfold af;rw[List.map_append];exact cS _ _
theorem fi{ks:List Col}{c:Col}(h:c∈ks):c.h∈af ks:=(bh _ _).mpr (List.mem_map.mpr ⟨c,h,rfl⟩)
theorem eg{ks:List Col}(h:∀c∈ks,c.h < 3):∀x∈af ks,x < 3:=λx hx=>by
 obtain⟨c,hc,rfl⟩:=List.mem_map.mp ((bh _ _).mp hx)
 exact h c hc
theorem xn{ks:List Col}(c:Col):ce (af (ks ++ [c])) ks=ce (af ks) ks:=by
 unfold ce
 refine congrArg List.flatten (List.map_congr_left λd hd=>?_)
 obtain⟨s,e⟩:=B7 (ks.map (·.h)) [c.h]
 have:af (ks ++ [c])=af ks ++ s:=by unfold af;rw[List.map_append];exact e
 rw[this,AB (fi hd)]
theorem fY(lv:List Nat)(ks:List Col)(c:Col):ce lv (ks ++ [c])=ce lv ks ++ List.replicate c.os.length (jE lv c.h):=by
 unfold ce
 rw[List.flatMap_append,List.flatMap_cons,List.flatMap_nil,List.append_nil]
theorem eY{lv:List Nat}:∀{ks:List Col},(∀c∈ks,ColOk c)→(ce lv ks).length≤3 * ks.length
 |[],_=>Nat.le_refl _
 |c ::ks,ok=>by
  have h1:=eY (lv:=lv) λc hc=>ok c (.tail _ hc)
  have h2:=(ok c (.head _)).l
  unfold ce at h1 ⊢
  rw[List.flatMap_cons,List.length_append,List.length_replicate,List.length_cons]
  (apply nZ;assumption;assumption)
theorem E8(n:Nat)(h:n≤3)(i:Nat):ez .Mult (.list [ab i]) (.int (n:Int))=some (.ol ((List.replicate n i).map ab)):=by
 apply aS ?_ ?_ ?_ ?_ (Nat.lt_succ_of_le h)
 ·rfl'
 ·rfl'
 ·rfl'
 ·rfl'
theorem y0{cols nl:List T}{p:Nat}{lv:List Nat}{cs:List T}{c:Col}{k:List T→Option O}{r:Nat}(hp:p < 1000)(h3:c.h < 3)(hlv:∀h∈lv,h < 3)(hm:c.h∈lv)(hll:lv.length≤1000)(hcl:cs.length≤1000)(ho:c.os.length≤3)
  (hn:nl[p]?=some (.str (cb c.h))) (hc:cols[p]?=some (vt r (bX c))):Go cols nl (p:Int) (aj lv) cs k=k (cs ++ (List.replicate c.os.length (jE lv c.h)).map ab):=by
 unfold Go
 rw[bC hn (by(apply gw;assumption;rfl)),aa]
 show gd (ag (aj lv).length) ((dM (aj lv) (cb c.h)).bind _)=_
 rw[b9 (kc (by unfold aj;rw[List.length_map];(apply ah;assumption;rfl))),uj h3 hlv hm,aa]
 show(some (V.f (ab (jE lv c.h)))).bind _=_
 rw[aa,bC hc (by(apply gw;assumption;rfl)),aa]
 show(some (T.list (bX c))).bind _=_
 rw[aa]
 have hl:f8 "len" [.list (bX c)]=some (.f (.int c.os.length)):=by
  have:f8 "len" [.list (bX c)]=c7 (bX c).length:=by rfl'
  rw[this]
  unfold bX
  rw[List.length_map,bi (by(apply ah;assumption;rfl))]
 rw[hl,aa]
 show(ez .Mult (.list [ab (jE lv c.h)]) (.int c.os.length)).bind _=_
 rw[E8 _ ho,aa]
 show(aV "extend" cs (.list _)).bind _=_
 rw[tR (by rw[List.length_map,List.length_replicate];(apply uR;assumption;assumption;rfl)),aa]
end
section
noncomputable def be:Col:=⟨0,0,[]⟩
noncomputable def stay(c:Col):Bool:=decide (c.s≠4)
noncomputable def kp(cs:List Col):List Nat:=(List.range cs.length).filter λp=>stay (cs.getD p be)
noncomputable def st(cs:List Col):List Col:=cs.filter stay
theorem nN{α:Type}(l:List α)(d:α):(List.range l.length).map (λi=>l.getD i d)=l:=by
 apply List.ext_getElem
 ·simp
 ·intro i h1 h2
  simp at h1
  simp[List.getD_eq_getElem?_getD,h1]
theorem iR(cs:List Col):(kp cs).map (λp=>cs.getD p be)=st cs:=by
 unfold kp st
 conv=>rhs;rw[←nN cs be]
 rw[List.filter_map];rfl
theorem cQ{cs:List Col}{p:Nat}(h:p∈kp cs):p < cs.length∧cs[p]?=some (cs.getD p be)∧cs.getD p be∈cs∧stay (cs.getD p be)=true:=by
 obtain⟨h1,h2⟩:=List.mem_filter.mp h
 have h1:=List.mem_range.mp h1
 have e:cs.getD p be=cs[p]:=by rw[List.getD_eq_getElem?_getD,List.getElem?_eq_getElem h1];rfl
 exact⟨h1,by rw[e];exact List.getElem?_eq_getElem h1,by rw[e];exact List.getElem_mem _,h2⟩
theorem hK{c:Col}(h:stay c=true):aU c=aB c:=by
 have h:c.s≠4:=of_decide_eq_true h
 unfold aU
 split
 ·contradiction
 ·rfl
theorem gL{c:Col}(ok:ColOk c)(h:stay c=true):c.s < 4:=by
 have h:c.s≠4:=of_decide_eq_true h
 have:=ok.s
 omega
theorem eH{cs:List Col}(ok:ColsOk cs):ColsOk (st cs)∧∀c∈st cs,c.s < 4:=
 ⟨⟨λc hc=>ok.c c (List.mem_filter.mp hc).1,Nat.le_trans (List.length_filter_le _ _) ok.l⟩,λc hc=>gL (ok.c c (List.mem_filter.mp hc).1) (List.mem_filter.mp hc).2⟩
theorem yK{cs:List Col}(ok:ColsOk cs)(l:Addr)(g:List T):aC (Eu dn) (ae 116) "place" (aq (bF 116 7)) 7 ((kp cs).map iT) (sW (aR cs) l g (cs.map hdT) ((kp cs).map iT) [] []) =
  some (.nx (sW (aR cs) l g (cs.map hdT) ((kp cs).map iT) (aj (af (st cs))) ((ce (af (st cs)) (st cs)).map ab))):=by
 have hn:=ok.l
 have f:=aZ iT (λpre=>sW (aR cs) l g (cs.map hdT) ((kp cs).map iT) (aj (af (pre.map λp=>cs.getD p be))) ((ce (af (pre.map λp=>cs.getD p be)) (pre.map λp=>cs.getD p be)).map ab)) (kp cs) (E:=Eu dn) (kd:=ae 116) (x:="place") (body:=aq (bF 116 7)) (n:=7) λpre p post e=>by
  have hk:p∈kp cs:=by rw[e];simp
  obtain⟨hp,hg,hm,hs⟩:=cQ hk
  have hpre:∀q∈pre,q∈kp cs:=λq hq=>by rw[e];simp[hq]
  have okp:∀c∈pre.map (λp=>cs.getD p be),ColOk c:=λc hc=>by
   obtain⟨q,hq,rfl⟩:=List.mem_map.mp hc
   exact ok.c _ (cQ (hpre q hq)).2.2.1
  have hpl:pre.length≤4:=by
   have h1:=congrArg List.length e
   have h2:(kp cs).length≤cs.length:=by unfold kp;have:=List.length_filter_le (λp=>stay (cs.getD p be)) (List.range cs.length);rwa [List.length_range]at this
   simp at h1;(apply kB;assumption;assumption;assumption;rfl)
  generalize hc:cs.getD p be=c at hg hm hs
  generalize hks:pre.map (λp=>cs.getD p be)=ks at okp
  have hkl:ks.length≤4:=by rw[←hks,List.length_map];exact hpl
  have okc:=ok.c c hm
  have hnl:(cs.map hdT)[p]?=some (.str (cb c.h)):=by rw[List.getElem?_map,hg];rfl
  have hcl:(cs.map aU)[p]?=some (vt (rk c.s) (bX c)):=by rw[List.getElem?_map,hg];exact congrArg some (hK hs)
  have hlv:=eg λc hc=>(okp c hc).h
  have hll:=iJ (ks.map (·.h))
  rw[List.length_map]at hll
  have hcd:=eY (lv:=af ks) okp
  have e1:(pre ++ [p]).map (λp=>cs.getD p be)=ks ++ [c]:=by rw[List.map_append,hks,List.map_singleton,hc]
  refine⟨wi (sW (aR cs) l g (cs.map hdT) ((kp cs).map iT) (aj (af (ks ++ [c]))) ((ce (af (ks ++ [c])) (ks ++ [c])).map ab)) "place" (iT p),.inl ?_,by rw[e1];rfl⟩
  rw[fY,xn,List.map_append]
  refine(H1 (cs.map aU) (cs.map hdT) l g (cs.map hdT) ((kp cs).map iT) _ _ p).trans ?_
  rw[bC hnl (by(apply bT;assumption;assumption;rfl)),aa,mJ okc.h hlv,aa]
  by_cases hin:c.h∈af ks
  ·have e2:af (ks ++ [c])=af ks:=by rw[eh,if_pos hin]
   rw[decide_eq_true hin,Bool.not_true,cond_false,y0 (by(apply bT;assumption;assumption;rfl)) okc.h hlv hin (by unfold af;(apply bz;assumption;assumption;rfl)) (by rw[List.length_map];(apply j4;assumption;assumption;rfl)) okc.l hnl hcl,e2];rfl
  ·have e2:af (ks ++ [c])=af ks ++ [c.h]:=by rw[eh,if_neg hin]
   have hg2:aV "append" (aj (af ks)) (.str (cb c.h))=some (aj (af ks ++ [c.h])):=by
    rw[bD (by unfold aj af;rw[List.length_map];(apply bz;assumption;assumption;rfl))]
    unfold aj
    rw[List.map_append];rfl
   rw[decide_eq_false hin,Bool.not_false,cond_true,aa,hg2,aa,e2]
   refine(y0 (lv:=af ks ++ [c.h]) (by(apply bT;assumption;assumption;rfl)) okc.h (λh hh=>?_) (by simp) (by rw[List.length_append];unfold af;simp;(apply bz;assumption;assumption;rfl)) (by rw[List.length_map];(apply j4;assumption;assumption;rfl)) okc.l hnl hcl).trans rfl
   rcases List.mem_append.mp hh with hh|hh
   ·exact hlv h hh
   ·rw[List.mem_singleton.mp hh];exact okc.h
 rw[iR]at f
 exact f
end
section
noncomputable def cds(cs:List Col):List Nat:=ce (af (st cs)) (st cs)
noncomputable def its(cs:List Col):List T:=(st cs).flatMap (aL (aK (st cs)))
noncomputable def gA(cs:List Col):T:=vt (aK (st cs)) (its cs)
noncomputable def gD(cs:List Col):T:=bp ((cds cs).map ab) (aj (af (st cs)))
noncomputable def bw(cs:List Col):T:=zw [gA cs,gD cs] [.str "values",.str "ind"] (vt 1 ((List.range (cds cs).length).map ab))
noncomputable def xa:T:=.str "non-vector elements will be ignored"
noncomputable def bA(cs:List Col):List T:=if(st cs).length < cs.length then[xa]else[]
theorem wH:∀nl:List T,nl≠[]→nl.length≤4→uC nl
 |[a],_,_=>JO a
 |[a,b],_,_=>GR a b
 |[a,b,c],_,_=>JD a b c
 |[a,b,c,d],_,_=>I5 a b c d
 |[],h,_=>absurd rfl h
 |_ ::_ ::_ ::_ ::_ ::_,_,h=>absurd h (by simp)
theorem fS{ks:List Col}(h:∀c∈ks,c.h < 3):(af ks).length≤3:=by
 have h1:af ks∈oK:=EE (fw _) (eg h)
 have h2:∀l∈oK,l.length≤3:=by decide
 exact h2 _ h1
theorem BR(b:List Stmt){i j k:Nat}(h1:i≤j)(h2:j≤k):sg b i k=sg b i j ++ sg b j k:=by
 unfold sg
 have e:b.drop j=(b.drop i).drop (j - i):=by rw[List.drop_drop,Nat.add_sub_cancel' h1]
 rw[e]
 have e2:k - i=(j - i)+(k - j):=by rw[Nat.add_comm,Nat.sub_add_sub_cancel h2 h1]
 rw[e2,List.take_add]
theorem bI{E:Ev}{kd:Kd}{b:List Stmt}{σ σ':Loc}{o:O}(i j k:Nat)(h:exs E kd (sg b i j) σ=some (.nx σ'))(h2:exs E kd (sg b j k) σ'=some o)(hij:Nat.ble i j=true)(hjk:Nat.ble j k=true):exs E kd (sg b i k) σ=some o:=by
 rw[BR b (Nat.le_of_ble_eq_true hij) (Nat.le_of_ble_eq_true hjk)]
 exact(kC _ _ h).trans h2
theorem mR{cs:List Col}(ok:ColsOk cs)(h0:cs≠[])(l:Addr):exs (Et dn) (ae 116) (sg (ak 116) 0 3) (Ce (aR cs) l [])=some (.nx (mz (aR cs) l [] (cs.map hdT) (.ol ((kp cs).map iT)))):=by
 have hn:=ok.l
 have s0:=Kk (cs.map aU) (cs.map hdT) l
 rw[te,f7 (by rw[List.length_map];(apply ah;assumption;rfl)),aa,aa]at s0
 have hc1:=aA (λ_=>true) id (GX (cs.map aU) (cs.map hdT) l) (JC _ _ _ _) (by rw[List.length_map];(apply ah;assumption;rfl)) (ifs:=aN sJ) (elt:=aH sJ) (λt _=>by show ifsGo _ _ (aN sJ) _=_;rfl') (λt ht _=>by
  obtain⟨c,hc,rfl⟩:=List.mem_map.mp ht
  exact JY c.h (ok.c c hc).h _ _ _ _)
 rw[av,List.map_id]at hc1
 have s1:=GC (cs.map aU) (cs.map hdT) l
 rw[hc1,aD]at s1
 obtain⟨s2,hi⟩:=wH (cs.map hdT) (by simpa using h0) (by rw[List.length_map];exact hn) (cs.map aU) (cs.map hdT) l
 have hpt:∀t∈(List.range (cs.map hdT).length).map iT,∃p,t=iT p∧p < cs.length:=λt ht=>by
  obtain⟨p,hp,rfl⟩:=List.mem_map.mp ht
  exact⟨p,rfl,by have:=List.mem_range.mp hp;rwa [List.length_map]at this⟩
 let pb:T→Bool:=λt=>match t with
  |.int i=>stay (cs.getD i.toNat be)
  |_=>false
 have hc2:=aA pb id hi (Ee (cs.map aU) (cs.map hdT) l (.list (cs.map hdT))) (by simp;(apply ah;assumption;rfl)) (ifs:=aN qT) (elt:=aH qT) (λt ht=>by
  obtain⟨p,rfl,hp⟩:=hpt t ht
  refine(EZ _ _ _ _ _).trans ?_
  have e:cs.getD p be=cs[p]:=by rw[List.getD_eq_getElem?_getD,List.getElem?_eq_getElem hp];rfl
  have hu:aw (.list (cs.map aU)) (iT p)=some (aU (cs.getD p be)):=bC (by rw[List.getElem?_map,List.getElem?_eq_getElem hp,e];rfl) (by(apply bT;assumption;assumption;rfl))
  rw[hu,aa]
  have ha:rn CA 114 [aU (cs.getD p be)]=some (.f (.bool (stay (cs.getD p be)))):=by
   unfold aU stay
   split
   ·rename_i h4;rw[h4];exact Bk _ _
   ·rename_i h4;rw[decide_eq_true (show(cs.getD p be).s≠4 from h4)];exact u9 _ _
  rw[ha];rfl) (λt ht _=>Fq _ _ _ _ _)
 have hfm:∀ps:List Nat,bY pb id (ps.map iT)=(ps.filter λp=>stay (cs.getD p be)).map iT:=λps=>by
  induction ps with
  |nil=>rfl
  |cons p ps ih=>
   rw[List.map_cons,List.filter_cons]
   show(match pb (iT p)with|true=>_|false=>_)=_
   have hpb:pb (iT p)=stay (cs.getD p be):=by show stay (cs.getD (p:Int).toNat be)=_;rw[Int.toNat_natCast]
   rw[hpb]
   cases stay (cs.getD p be)with
   |true=>exact congrArg (iT p ::·) ih
   |false=>exact ih
 rw[hfm,List.length_map]at hc2
 rw[hc2,aD]at s2
 exact bI 0 1 3 s0 (bI 1 2 3 s1 s2 rfl rfl) rfl rfl
theorem xX{cs:List Col}(ok:ColsOk cs)(h0:cs≠[])(l:Addr):exs (Et dn) (ae 116) ((ak 116).drop 0) (Ce (aR cs) l [])=exs (Et dn) (ae 116) ((ak 116).drop 3) (mz (aR cs) l [] (cs.map hdT) (.ol ((kp cs).map iT))):=ai 0 3 (mR ok h0 l) rfl
end
section
theorem g4(cs:List Col):(kp cs).length=(st cs).length:=by rw[←iR,List.length_map]
theorem ql(a b:Int):aT .Lt (.int a) (.int b)=some (decide (a < b)):=by rfl'
noncomputable def Ac(cs:List Col)(l:Addr):Loc:=Kf (aR cs) l (bA cs) (cs.map hdT) ((kp cs).map iT) (aj (af (st cs))) ((cds cs).map ab) (.f (gD cs)) (.f (gA cs))
theorem fQ{cs:List Col}(ok:ColsOk cs):(cds cs).length≤12:=by
 have h:=eY (lv:=af (st cs)) (eH ok).1.c
 have h2:=(eH ok).1.l
 unfold cds;(apply j4;assumption;assumption;rfl)
theorem rN{cs:List Col}(ok:ColsOk cs)(h0:st cs≠[])(l:Addr):exs (Et dn) (ae 116) ((ak 116).drop 0) (Ce (aR cs) l [])=some (.rt (.f (bw cs)) (Ac cs l)):=by
 have hcs:cs≠[]:=λe=>h0 (by rw[e];rfl)
 have hn:=ok.l
 have okS:=eH ok
 have hsl:=List.length_filter_le stay cs
 have hkl:=g4 cs
 have hs0:(st cs).length≠0:=λe=>h0 (List.eq_nil_of_length_eq_zero e)
 have hst:(st cs).length≤cs.length:=hsl
 rw[xX ok hcs l]
 have s3:=Jh (aR cs) l (cs.map hdT) ((kp cs).map iT)
 rw[List.length_map,bi (by(apply fV;assumption;assumption;assumption;rfl)),aa,show(V.f (T.int ((kp cs).length:Int))).frz=T.int ((kp cs).length:Int)from rfl,cB,aa,beq_eq_false_iff_ne.mpr (by(apply Cb;assumption;assumption)),cond_false]at s3
 have s4:=IJ (aR cs) l (cs.map hdT) ((kp cs).map iT)
 rw[List.length_map,List.length_map,bi (by(apply fV;assumption;assumption;assumption;rfl)),aa,bi (by(apply ah;assumption;rfl)),aa,show(V.f (T.int ((kp cs).length:Int))).frz=T.int ((kp cs).length:Int)from rfl,show(V.f (T.int (cs.length:Int))).frz=T.int (cs.length:Int)from rfl,ql,aa,hkl]at s4
 have s4':exs (Et dn) (ae 116) (sg (ak 116) 4 5) (mz (aR cs) l [] (cs.map hdT) (.f (.list ((kp cs).map iT))))=some (.nx (mz (aR cs) l (bA cs) (cs.map hdT) (.f (.list ((kp cs).map iT))))):=by
  rw[s4]
  unfold bA
  by_cases h:(st cs).length < cs.length
  ·rw[decide_eq_true (by(apply zB;assumption)),if_pos h];rfl
  ·rw[decide_eq_false (by omega),if_neg h];rfl
 refine(ai 3 4 s3 rfl).trans ?_
 refine(ai 4 5 s4' rfl).trans ?_
 refine(ai 5 7 (GW _ _ _ _ _) rfl).trans ?_
 refine(eW 7 8 (HD _ _ _ _ _) (yK ok l (bA cs)) rfl).trans ?_
 have hcl:=fQ ok
 have s8:=JP (aR cs) l (bA cs) (cs.map hdT) ((kp cs).map iT) (aj (af (st cs))) ((cds cs).map ab)
 rw[qL,f7 (by rw[List.length_map];(apply ah;assumption;rfl)),aa,aa]at s8
 refine(ai 8 9 s8 rfl).trans ?_
 have hlv:aj (af (st cs))≠[]∧(aj (af (st cs))).length≤3:=by
  unfold aj
  rw[List.length_map]
  refine⟨λe=>?_,fS λc hc=>(okS.1.c c hc).h⟩
  obtain⟨c,r,e2⟩:=List.exists_cons_of_ne_nil h0
  have hm:c.h∈af (st cs):=fi (by rw[e2];exact .head _)
  rw[List.map_eq_nil_iff.mp e]at hm
  exact nomatch hm
 refine(ai 9 10 (HP _ hlv.1 hlv.2 _ _ _ _ _ _ _ _ _) rfl).trans ?_
 have hc:=aA (λ_=>true) (λt=>match t with|.int i=>aB (cs.getD i.toNat be)|_=>.none) (F2 (aR cs) l (bA cs) (cs.map hdT) ((kp cs).map iT) (aj (af (st cs))) ((cds cs).map ab) (.ov (.str "integer") (.list ((cds cs).map ab)) (gF (aj (af (st cs)))))) (ES _ _ _ _ _ _ _ _) (by rw[List.length_map];(apply fV;assumption;assumption;assumption;rfl)) (ifs:=aN sP) (elt:=aH sP) (λt _=>by show ifsGo _ _ (aN sP) _=_;rfl') (λt ht _=>by
  obtain⟨p,hp,rfl⟩:=List.mem_map.mp ht
  obtain⟨h1,h2,h3,h4⟩:=cQ hp
  refine(DI _ _ _ _ _ _ _ _ _ _).trans ?_
  have hu:aw (.list (cs.map aU)) (iT p)=some (aB (cs.getD p be)):=bC (by rw[List.getElem?_map,h2];exact congrArg some (hK h4)) (by(apply bT;assumption;assumption;rfl))
  rw[hu,aa,show aB (cs.getD p be)=vt (rk (cs.getD p be).s) (bX (cs.getD p be))from rfl,bare _ (m7 _),aa]
  show some (aB (cs.getD p be),_)=some (aB (cs.getD (p:Int).toNat be),_)
  rw[Int.toNat_natCast];rfl)
 rw[av,List.map_map]at hc
 have hm:(kp cs).map ((λt=>match t with|T.int i=>aB (cs.getD i.toNat be)|_=>.none) ∘ iT)=(st cs).map aB:=by
  rw[←iR,List.map_map]
  refine List.map_congr_left λp _=>?_
  show aB (cs.getD (p:Int).toNat be)=_
  rw[Int.toNat_natCast];rfl
 rw[hm]at hc
 have s10:=DY (aR cs) l (bA cs) (cs.map hdT) ((kp cs).map iT) (aj (af (st cs))) ((cds cs).map ab) (.ov (.str "integer") (.list ((cds cs).map ab)) (gF (aj (af (st cs)))))
 rw[hc,aD,iZ okS.1 okS.2 h0,aa]at s10
 refine(ai 10 11 s10 rfl).trans ?_
 refine(FP _ _ _ _ _ _ _ _ _ _ _ _ _).trans ?_
 rw[List.length_map,bi (by(apply ah;assumption;rfl)),aa,show(V.f (T.int ((cds cs).length:Int))).frz=T.int ((cds cs).length:Int)from rfl,im _ hcl,aa,show(V.ov (.str "integer") (.list ((List.range (cds cs).length).map ab)) .none).frz=vt 1 ((List.range (cds cs).length).map ab)from rfl,jK,aa]
 rfl
end
section
noncomputable def Gi:Stmt:=kP pw
noncomputable def zm:Kd:=match Gi with
 |.FunctionDef _ _ _ _ _ _ sc _ _ _=>λx=>sc.names.lookup x
 |_=>λ_=>none
noncomputable def sF:List Stmt:=match Gi with
 |.FunctionDef _ _ b _ _ _ _ _ _ _=>b
 |_=>[]
noncomputable def Orc.frozen(Z:Orc):Orc:={Z with st:=λ_=>false}
noncomputable abbrev ZW:Orc:=dn.frozen
noncomputable def wS(t:T)(b:Bool)(l:Addr)(c:List T):Loc:=[("column",.f t),("seen",.f (.opq 0 l)),("simple",.f (.bool b)),(ghost 0,.ol c)]
noncomputable def et(b:Bool)(r:Nat)(its:List T):T:=match b with
 |true=>zl its.length
 |false=>vt r its
noncomputable abbrev wE:Expr:=cW 0 (c9 (sF.getD 0 (.Pass ⟨0,0,0,0⟩)))
theorem K8(t:T)(b:Bool)(l:Addr)(c:List T):exs (Et ZW) zm (sg sF 0 1) (wS t b l c)=(bd (evT (Eu ZW) zm wE (wS t b l c)) λt ZZ=>(ownL ZZ (ghost 0)).bind λts=>gd (ag ts.length) (some (O.nx (ZZ.set (ghost 0) (.ol (ts ++ [t])))))).bind li:=by rfl'
theorem Ik(t:T)(b:Bool)(l:Addr)(c:List T):evT (Eu ZW) zm wE (wS t b l c)=(rn Z65 120 [t]).bind λa=>some (a.frz,wS t b l c):=by rw[bS false];rfl'
theorem L4(k:Str)(its:List T)(a:T)(l:Addr)(c:List T):exs (Et ZW) zm (sF.drop 1) (wS (.vec (.str k) (.list its) a) true l c)=(c7 its.length).bind λn=>some (.rt (.f (.vec (.str "integer") (.list [n.frz]) .none)) (wS (.vec (.str k) (.list its) a) true l c)):=by rw[ac true];rfl'
theorem LY(t:T)(l:Addr)(c:List T):exs (Et ZW) zm (sF.drop 1) (wS t false l c)=some (.rt (.f t) (wS t false l c)):=by rfl'
theorem Es{r:Nat}(hr:r < 4){its c:List T}(h1:its.length≤1000)(h2:c.length≤1000)(b:Bool)(l:Addr):exs (Et ZW) zm sF (wS (vt r its) b l c)=some (.rt (.f (et b r its)) (wS (vt r its) b l (c ++ [eV (kR r) its]))):=by
 have s0:=K8 (vt r its) b l c
 rw[Ik,ba (t65 r hr its) h1,aa,aD,show ownL (wS (vt r its) b l c) (ghost 0)=some c from rfl,aa,b9 (kc (by(apply ah;assumption;rfl))),aa]at s0
 have e:exs (Et ZW) zm (sF.drop 0) (wS (vt r its) b l c)=_:=ai 0 1 s0 rfl
 rw[List.drop_zero]at e
 rw[e]
 cases b with
 |true=>
  refine(L4 _ _ _ _ _).trans ?_
  rw[bi (by(apply ah;assumption;rfl))];rfl
 |false=>exact LY _ _ _
end
section
noncomputable def Gm(k:Str):Bool:=k == kR 0||k == kR 1||k == kR 2||k == kR 3
noncomputable def T.vec?:T→Option (T×T×T)
 |.vec k i a=>some (k,i,a)
 |_=>Option.none
theorem E4{t:T}{v:T×T×T}(h:t.vec?=some v):t= .vec v.1 v.2.1 v.2.2:=by cases t<;>first|(cases h;rfl)|cases h
theorem Bb{t:T}(h:t.isNone=true):t= .none:=by cases t<;>first|rfl|cases h
noncomputable def Cc:List T→Option T
 |[]=>none
 |t ::r=>match r with
  |[]=>some t
  |_ ::_=>none
theorem zu{ts:List T}{t:T}(h:Cc ts=some t):ts=[t]:=by
 cases ts with
 |nil=>cases h
 |cons a r=>cases r with
  |nil=>cases h;rfl
  |cons _ _=>cases h
noncomputable def ni(b:Bool)(ts c:List T):Option (V×List T):=(Cc ts).bind λt=>t.vec?.bind λv=>v.1.str?.bind λk=>v.2.1.list?.bind λits=>gd (v.2.2.isNone && (Gm k && (decide (its.length≤1000) && decide (c.length≤1000)))) (some (.f (if b then zl its.length else .vec (.str k) (.list its) .none),c ++ [eV k its]))
noncomputable def ZA:Orc:={dn with Θ:=ni}
noncomputable def Dm(val ind:T)(b:Bool)(c:List T):Loc:=[("values",.f (.list [val])),("value_names",.f (.list [.str "all"])),("groups",.f (.list [ind])),("group_names",.f (.list [.str "name"])),("fn",.f (.clo b)),("simplify",.f (.bool b)),(ghost 0,.ol c)]
noncomputable def zY(val ind:T)(b:Bool)(c:List T)(rows:V):Loc:=[("values",.f (.list [val])),("value_names",.f (.list [.str "all"])),("groups",.f (.list [ind])),("group_names",.f (.list [.str "name"])),("fn",.f (.clo b)),("simplify",.f (.bool b)),(ghost 0,.ol c),("rows",rows)]
noncomputable def lT(val ind:T)(b:Bool)(c:List T)(rows:T)(cols:V):Loc:=[("values",.f (.list [val])),("value_names",.f (.list [.str "all"])),("groups",.f (.list [ind])),("group_names",.f (.list [.str "name"])),("fn",.f (.clo b)),("simplify",.f (.bool b)),(ghost 0,.ol c),("rows",.f rows),("columns",cols)]
theorem DU(val ind:T)(b:Bool)(c:List T):exs (Et ZA) (ae 113) (sg (ak 113) 0 3) (Dm val ind b c)=(rn CT 112 [.list [val],.list [ind]]).bind λ_=>(rn dH 110 [.list [ind]]).bind λa=>some (.nx (zY val ind b c a)):=by rw[ac false];rfl'
theorem Jf(val ind:T)(b:Bool)(c rows:List T):exs (Et ZA) (ae 113) (sg (ak 113) 3 5) (zY val ind b c (.ol rows))=(c7 rows.length).bind λa=>(aT .Eq a.frz (.int 0)).bind λd=>bif d then none else some (.nx (lT val ind b c (.list rows) (.ol []))):=by rw[ac false];rfl'
theorem D1(val ind:T)(b:Bool)(c r1:List T):exs (Et ZA) (ae 113) (sg (ak 113) 5 6) (lT val ind b c (.list [.list r1]) (.ol []))=(aw (.list r1) (.int 0)).bind λu1=>(rn f9 101 [ind,.list [u1]]).bind λa=>(aV "append" [] a.frz).bind λus=>some (.nx (lT val ind b c (.list [.list r1]) (.ol us))):=by rw[ac true];rfl'
theorem Fj(val ind:T)(b:Bool)(c r1 r2:List T):exs (Et ZA) (ae 113) (sg (ak 113) 5 6) (lT val ind b c (.list [.list r1,.list r2]) (.ol []))=(aw (.list r1) (.int 0)).bind λu1=>(aw (.list r2) (.int 0)).bind λu2=>(rn f9 101 [ind,.list [u1,u2]]).bind λa=>(aV "append" [] a.frz).bind λus=>some (.nx (lT val ind b c (.list [.list r1,.list r2]) (.ol us))):=by rw[ac true];rfl'
theorem D9(val ind:T)(b:Bool)(c r1 r2 r3:List T):exs (Et ZA) (ae 113) (sg (ak 113) 5 6) (lT val ind b c (.list [.list r1,.list r2,.list r3]) (.ol []))=(aw (.list r1) (.int 0)).bind λu1=>(aw (.list r2) (.int 0)).bind λu2=>(aw (.list r3) (.int 0)).bind λu3=>(rn f9 101 [ind,.list [u1,u2,u3]]).bind λa=>(aV "append" [] a.frz).bind λus=>some (.nx (lT val ind b c (.list [.list r1,.list r2,.list r3]) (.ol us))):=by rw[ac true];rfl'
theorem E1(val ind:T)(b:Bool)(c r1 cols:List T):exs (Et ZA) (ae 113) (sg (ak 113) 6 7) (lT val ind b c (.list [.list r1]) (.ol cols))=(rn f9 101 [val,.list r1]).bind λp1=>(ni b [p1.frz] c).bind λq1=>(rn jT 111 [.list [q1.1.frz],.bool b]).bind λa=>(aV "append" cols a.frz).bind λus=>some (.nx (lT val ind b q1.2 (.list [.list r1]) (.ol us))):=by rw[ac true];rfl'
theorem FN(val ind:T)(b:Bool)(c r1 r2 cols:List T):exs (Et ZA) (ae 113) (sg (ak 113) 6 7) (lT val ind b c (.list [.list r1,.list r2]) (.ol cols))=(rn f9 101 [val,.list r1]).bind λp1=>(ni b [p1.frz] c).bind λq1=>(rn f9 101 [val,.list r2]).bind λp2=>(ni b [p2.frz] q1.2).bind λq2=>(rn jT 111 [.list [q1.1.frz,q2.1.frz],.bool b]).bind λa=>(aV "append" cols a.frz).bind λus=>some (.nx (lT val ind b q2.2 (.list [.list r1,.list r2]) (.ol us))):=by rw[ac true];rfl'
theorem D4(val ind:T)(b:Bool)(c r1 r2 r3 cols:List T):exs (Et ZA) (ae 113) (sg (ak 113) 6 7) (lT val ind b c (.list [.list r1,.list r2,.list r3]) (.ol cols))=(rn f9 101 [val,.list r1]).bind λp1=>(ni b [p1.frz] c).bind λq1=>(rn f9 101 [val,.list r2]).bind λp2=>(ni b [p2.frz] q1.2).bind λq2=>(rn f9 101 [val,.list r3]).bind λp3=>(ni b [p3.frz] q2.2).bind λq3=>(rn jT 111 [.list [q1.1.frz,q2.1.frz,q3.1.frz],.bool b]).bind λa=>(aV "append" cols a.frz).bind λus=>some (.nx (lT val ind b q3.2 (.list [.list r1,.list r2,.list r3]) (.ol us))):=by rw[ac true];rfl'
theorem IL(val ind:T)(b:Bool)(c rows:List T)(k1 i1 a1 k2 i2 a2:T):exs (Et ZA) (ae 113) ((ak 113).drop 7) (lT val ind b c (.list rows) (.ol [.vec k1 i1 a1,.vec k2 i2 a2]))=(c7 rows.length).bind λn=>(rn CN 98 [n.frz]).bind λr=>(rn CM 97 [.list [.vec k1 i1 a1,.vec k2 i2 a2],.list [.str "name",.str "all"],r.frz]).bind λa=>some (.rt a (lT val ind b c (.list rows) (.f (.list [.vec k1 i1 a1,.vec k2 i2 a2])))):=by rw[ac false];rfl'
end
section
noncomputable def aE(its:List T)(cds:List Nat)(d:Nat):List T:=(pos cds d).map λi=>its.getD i .none
noncomputable def lastT(b:Bool)(R:Nat)(its:List T)(cds ps:List Nat):T:=match b with
 |true=>vt 1 (ps.map λd=>.int ((aE its cds d).length:Int))
 |false=>.vec (.str "list") (.list (ps.map λd=>vt R (aE its cds d))) .none
noncomputable def uG(b:Bool)(R:Nat)(its:List T)(cds ls ps:List Nat):T:=zw [bp (ps.map ab) (aj ls),lastT b R its cds ps] [.str "name",.str "all"] (vt 1 ((List.range ps.length).map ab))
theorem F8:∀r,r < 4→Gm (kR r)=true:=by
 intro r hr
 apply aS ?_ ?_ ?_ ?_ hr
 ·decide +kernel
 ·decide +kernel
 ·decide +kernel
 ·decide +kernel
theorem EA{r:Nat}(hr:r < 4){its c:List T}(h1:its.length≤1000)(h2:c.length≤1000)(b:Bool):ni b [vt r its] c=some (.f (et b r its),c ++ [eV (kR r) its]):=by
 show gd (Gm (kR r) && (decide (its.length≤1000) && decide (c.length≤1000))) _=_
 rw[b9 (by rw[F8 r hr,decide_eq_true h1,decide_eq_true h2];rfl)]
 cases b<;>rfl
theorem rU{cds:List Nat}{d:Nat}(h:d∈cds):aw (.list ((pos cds d).map iT)) (.int 0)=some (iT (bc cds d)):=by
 have hf:=fK h
 have h0:((pos cds d).map iT)[0]?=some (iT (bc cds d)):=by
  unfold bc
  cases hp:pos cds d with
  |nil=>rw[hp]at hf;exact nomatch hf
  |cons x r=>rfl
 exact bC (i:=0) h0 (by omega)
theorem tZ{R:Nat}{its:List T}{cds:List Nat}(hi:its.length=cds.length)(hn:cds.length≤12)(d:Nat):rn f9 101 [vt R its,.list ((pos cds d).map iT)]=some (.ov (.str (kR R)) (.list (aE its cds d)) .none):=
 eM (k:=kR R) (its:=its) (ps:=pos cds d) (re _ _) (by(apply iI;assumption;assumption;rfl)) (by unfold pos;have:=List.length_filter_le (λi=>cds.getD i 0 == d) (List.range cds.length);rw[List.length_range]at this;(apply bz;assumption;assumption;rfl)) (λp hp=>by rw[hi];exact(cU.mp hp).1)
theorem wl{ls cds:List Nat}(hn:cds.length≤12){ps:List Nat}(hl:ps.length≤3)(hp:∀d∈ps,d∈cds):rn f9 101 [bp (cds.map ab) (aj ls),.list (ps.map λd=>iT (bc cds d))]=some (.ov (.str "integer") (.list (ps.map ab)) (gF (aj ls))):=by
 have hd:∀d∈ps,bc cds d < cds.length∧cds.getD (bc cds d) 0=d:=λd h=>cU.mp (fK (hp d h))
 have h:=eM (k:="integer") (its:=cds.map ab) (ps:=ps.map (bc cds)) (lQ (.str "integer") (.list (cds.map ab)) (aj ls)) (by rw[List.length_map];(apply ah;assumption;rfl)) (by rw[List.length_map];(apply ah;assumption;rfl)) (λp hp=>by
  obtain⟨d,h,rfl⟩:=List.mem_map.mp hp
  rw[List.length_map];exact(hd d h).1)
 rw[List.map_map,List.map_map]at h
 refine h.trans ?_
 have e:ps.map ((λi=>(cds.map ab).getD i .none) ∘ bc cds)=ps.map ab:=List.map_congr_left λd h=>by
  show(cds.map ab).getD (bc cds d) .none=_
  rw[List.getD_eq_getElem?_getD,vH (hd d h).1,(hd d h).2];rfl
 rw[e]
theorem iw{its:List T}{cds:List Nat}(hn:cds.length≤12)(d:Nat):(aE its cds d).length≤1000:=by
 unfold aE pos
 have:=List.length_filter_le (λi=>cds.getD i 0 == d) (List.range cds.length)
 rw[List.length_range]at this
 rw[List.length_map];(apply bz;assumption;assumption;rfl)
noncomputable def eG(R:Nat)(its:List T)(cds ps:List Nat):List T:=ps.map λd=>eV (kR R) (aE its cds d)
theorem vL(x y:T):aV "append" [x] y=some [x,y]:=bD (by simp)
theorem uq(y:T):aV "append" [] y=some [y]:=bD (by simp)
theorem IU(ts:List T)(n:Nat)(b:Bool){R:Nat}{its:List T}{cds ps:List Nat}(hn:cds.length≤12)(hp:ps≠[]∧ps.length≤3):(rn jT 111 [.list (ps.map λd=>et b R (aE its cds d)),.bool b]).map V.frz=some (lastT b R its cds ps):=by
 apply ig ?_ ?_ ?_ hp.1 hp.2
 ·intro x
  cases b with
  |true=>rw[show rn jT 111 [.list ([x].map λd=>et true R (aE its cds d)),.bool true]=_ from K9 _];rfl
  |false=>rw[show rn jT 111 [.list ([x].map λd=>et false R (aE its cds d)),.bool false]=_ from Ip _ _,f7 (by simp)];rfl
 ·intro x y
  cases b with
  |true=>rw[show rn jT 111 [.list ([x,y].map λd=>et true R (aE its cds d)),.bool true]=_ from KY _ _];rfl
  |false=>rw[show rn jT 111 [.list ([x,y].map λd=>et false R (aE its cds d)),.bool false]=_ from Ip _ _,f7 (by simp)];rfl
 ·intro x y z
  cases b with
  |true=>rw[show rn jT 111 [.list ([x,y,z].map λd=>et true R (aE its cds d)),.bool true]=_ from MU _ _ _];rfl
  |false=>rw[show rn jT 111 [.list ([x,y,z].map λd=>et false R (aE its cds d)),.bool false]=_ from Ip _ _,f7 (by simp)];rfl
end
section
theorem mH(b:Bool)(R:Nat)(its:List T)(cds ps:List Nat):∃k i,lastT b R its cds ps= .vec k i .none:=by cases b<;>exact⟨_,_,rfl⟩
noncomputable def zk(cds ps:List Nat):List T:=ps.map λd=>.list ((pos cds d).map iT)
theorem vf{R:Nat}(hR:R < 4){its:List T}{cds ls ps:List Nat}(hi:its.length=cds.length)(hn:cds.length≤12)(hp:ps≠[]∧ps.length≤3)(hm:∀d∈ps,d∈cds)(b:Bool):
  exs (Et ZA) (ae 113) ((ak 113).drop 5) (lT (vt R its) (bp (cds.map ab) (aj ls)) b [] (.list (zk cds ps)) (.ol [])) =
   exs (Et ZA) (ae 113) ((ak 113).drop 7) (lT (vt R its) (bp (cds.map ab) (aj ls)) b (eG R its cds ps) (.list (zk cds ps)) (.ol [bp (ps.map ab) (aj ls),lastT b R its cds ps])):=by
 have hpi:=wl (ls:=ls) hn hp.2 hm
 have hpv:=tZ hi hn (R:=R)
 have hw:=fun(d:Nat) (c:List T) (hc:c.length≤1000)=>EA hR (iw (its:=its) hn d) hc b
 have hj:=IU [] 0 b (R:=R) (its:=its) hn hp
 revert hm hpi hj
 apply ig ?_ ?_ ?_ hp.1 hp.2
 ·intro x hm hpi hj
  have sg:=D1 (vt R its) (bp (cds.map ab) (aj ls)) b [] ((pos cds x).map iT)
  rw[rU (hm x (by simp)),aa,show rn f9 101 [bp (cds.map ab) (aj ls),.list [iT (bc cds x)]]=_ from hpi,aa,uq,aa]at sg
  have sv:=E1 (vt R its) (bp (cds.map ab) (aj ls)) b [] ((pos cds x).map iT) [bp ([x].map ab) (aj ls)]
  rw[hpv,aa,show ni b [(V.ov (.str (kR R)) (.list (aE its cds x)) .none).frz] []=_ from hw x [] (by simp),aa]at sv
  obtain⟨a,ha,hf⟩:=Option.map_eq_some_iff.mp hj
  rw[show rn jT 111 [.list [(V.f (et b R (aE its cds x))).frz],.bool b]=_ from ha,aa,hf,vL,aa]at sv
  exact(ai 5 6 sg rfl).trans (ai 6 7 sv rfl)
 ·intro x y hm hpi hj
  have sg:=Fj (vt R its) (bp (cds.map ab) (aj ls)) b [] ((pos cds x).map iT) ((pos cds y).map iT)
  rw[rU (hm x (by simp)),aa,rU (hm y (by simp)),aa,show rn f9 101 [bp (cds.map ab) (aj ls),.list [iT (bc cds x),iT (bc cds y)]]=_ from hpi,aa,uq,aa]at sg
  have sv:=FN (vt R its) (bp (cds.map ab) (aj ls)) b [] ((pos cds x).map iT) ((pos cds y).map iT) [bp ([x,y].map ab) (aj ls)]
  rw[hpv,aa,show ni b [(V.ov (.str (kR R)) (.list (aE its cds x)) .none).frz] []=_ from hw x [] (by simp),aa,hpv,aa,
   show ni b [(V.ov (.str (kR R)) (.list (aE its cds y)) .none).frz] ([] ++ [eV (kR R) (aE its cds x)])=_ from hw y _ (by simp),aa]at sv
  obtain⟨a,ha,hf⟩:=Option.map_eq_some_iff.mp hj
  rw[show rn jT 111 [.list [(V.f (et b R (aE its cds x))).frz,(V.f (et b R (aE its cds y))).frz],.bool b]=_ from ha,aa,hf,vL,aa]at sv
  exact(ai 5 6 sg rfl).trans (ai 6 7 sv rfl)
 ·intro x y z hm hpi hj
  have sg:=D9 (vt R its) (bp (cds.map ab) (aj ls)) b [] ((pos cds x).map iT) ((pos cds y).map iT) ((pos cds z).map iT)
  rw[rU (hm x (by simp)),aa,rU (hm y (by simp)),aa,rU (hm z (by simp)),aa,show rn f9 101 [bp (cds.map ab) (aj ls),.list [iT (bc cds x),iT (bc cds y),iT (bc cds z)]]=_ from hpi,aa,uq,aa]at sg
  have sv:=D4 (vt R its) (bp (cds.map ab) (aj ls)) b [] ((pos cds x).map iT) ((pos cds y).map iT) ((pos cds z).map iT) [bp ([x,y,z].map ab) (aj ls)]
  rw[hpv,aa,show ni b [(V.ov (.str (kR R)) (.list (aE its cds x)) .none).frz] []=_ from hw x [] (by simp),aa,hpv,aa,
   show ni b [(V.ov (.str (kR R)) (.list (aE its cds y)) .none).frz] ([] ++ [eV (kR R) (aE its cds x)])=_ from hw y _ (by simp),aa,hpv,aa,
   show ni b [(V.ov (.str (kR R)) (.list (aE its cds z)) .none).frz] ([] ++ [eV (kR R) (aE its cds x)] ++ [eV (kR R) (aE its cds y)])=_ from hw z _ (by simp),aa]at sv
  obtain⟨a,ha,hf⟩:=Option.map_eq_some_iff.mp hj
  rw[show rn jT 111 [.list [(V.f (et b R (aE its cds x))).frz,(V.f (et b R (aE its cds y))).frz,(V.f (et b R (aE its cds z))).frz],.bool b]=_ from ha,aa,hf,vL,aa]at sv
  exact(ai 5 6 sg rfl).trans (ai 6 7 sv rfl)
theorem xr{R:Nat}(hR:R < 4){its:List T}{cds ls:List Nat}(L:Lv ls cds)(hi:its.length=cds.length)(hne:cds≠[])(b:Bool):
  ∃σ',exs (Et ZA) (ae 113) ((ak 113).drop 0) (Dm (vt R its) (bp (cds.map ab) (aj ls)) b [])=some (.rt (.f (uG b R its cds ls (prs (fo cds)))) σ')∧σ'.lookup (ghost 0)=some (.ol (eG R its cds (prs (fo cds)))):=by
 have hn:=L.n
 have hps:(prs (fo cds)).length≤3:=by unfold prs;exact List.length_filter_le _ _
 have hmm:∀d∈prs (fo cds),d∈cds:=λd hd=>(bh _ _).mp (of_decide_eq_true (List.mem_filter.mp hd).2)
 have hpn:prs (fo cds)≠[]:=λe=>by
  obtain⟨c,r,e2⟩:=List.exists_cons_of_ne_nil hne
  have hc:c∈cds:=by rw[e2];exact .head _
  have h3:c < 3:=Nat.lt_of_lt_of_le (L.c c hc) L.l
  have:c∈prs (fo cds):=List.mem_filter.mpr ⟨by rcases three h3 with rfl|rfl|rfl<;>simp,decide_eq_true ((bh _ _).mpr hc)⟩
  rw[e]at this
  exact nomatch this
 have s0:=DU (vt R its) (bp (cds.map ab) (aj ls)) b []
 rw[fJ _ _ _ _ (by rw[List.length_map];exact hi) (by rw[List.length_map];(apply ah;assumption;rfl)),aa,dN L,aa]at s0
 have s3:=Jf (vt R its) (bp (cds.map ab) (aj ls)) b [] (mh cds)
 have hgl:(mh cds).length=(prs (fo cds)).length:=by unfold mh;rw[List.length_map]
 have hpp:(prs (fo cds)).length≠0:=λe=>hpn (List.eq_nil_of_length_eq_zero e)
 rw[hgl,bi (by(apply ah;assumption;rfl)),aa,show(V.f (T.int ((prs (fo cds)).length:Int))).frz=T.int ((prs (fo cds)).length:Int)from rfl,cB,aa,beq_eq_false_iff_ne.mpr (yN hpp),cond_false]at s3
 obtain⟨k,i,hl⟩:=mH b R its cds (prs (fo cds))
 have s7:=IL (vt R its) (bp (cds.map ab) (aj ls)) b (eG R its cds (prs (fo cds))) (mh cds) (.str "integer") (.list ((prs (fo cds)).map ab)) (gF (aj ls)) k i .none
 rw[hgl,bi (by(apply ah;assumption;rfl)),aa,show(V.f (T.int ((prs (fo cds)).length:Int))).frz=T.int ((prs (fo cds)).length:Int)from rfl,im _ (by(apply ah;assumption;rfl)),aa,show(V.ov (.str "integer") (.list ((List.range (prs (fo cds)).length).map ab)) .none).frz=vt 1 ((List.range (prs (fo cds)).length).map ab)from rfl,jK,aa,←hl]at s7
 refine⟨_,((ai 0 3 s0 rfl).trans ((ai 3 5 s3 rfl).trans ((vf hR hi hn ⟨hpn,hps⟩ hmm b).trans s7))),rfl⟩
end
section
theorem jD{E:Ev}{kd:Kd}{v:V}:∀(a b:List Stmt){σ σ':Loc},exs E kd a σ=some (.rt v σ')→exs E kd (a ++ b) σ=some (.rt v σ')
 |[],b,σ,σ',h=>by cases h
 |s ::a,b,σ,σ',h=>by
  show((E.X kd s σ).bind λo=>match o with|.nx ZZ=>exs E kd (a ++ b) ZZ|o=>some o)=_
  have h:((E.X kd s σ).bind λo=>match o with|.nx ZZ=>exs E kd a ZZ|o=>some o)=some (.rt v σ'):=h
  cases hx:E.X kd s σ with
  |none=>rw[hx]at h;cases h
  |some o=>
   rw[hx]at h
   cases o with
   |nx ZZ=>exact jD a b h
   |_=>exact h
theorem tF{E:Ev}{kd:Kd}{b:List Stmt}{σ σ':Loc}{v:V}(i j:Nat)(h:exs E kd (sg b i j) σ=some (.rt v σ'))(hij:Nat.ble i j=true):exs E kd (b.drop i) σ=some (.rt v σ'):=by
 have e:b.drop i=sg b i j ++ b.drop j:=by
  unfold sg
  have:=Nat.le_of_ble_eq_true hij
  conv=>lhs;rw[←List.take_append_drop (j - i) (b.drop i)]
  rw[List.drop_drop]
  rw[Nat.add_sub_cancel' this]
 rw[e]
 exact jD _ _ h
noncomputable def Cr(k:T)(l:Addr)(c:List T):Loc:=[("well",.f (.opq 0 l)),("limit",.f k),(ghost 0,.ol c)]
noncomputable def v7(k:T)(l:Addr)(c:List T)(d:V):Loc:=[("well",.f (.opq 0 l)),("limit",.f k),(ghost 0,.ol c),("digit",d)]
theorem Jn(k:T)(l:Addr)(c:List T):exs (Et nL) (ae 118) (sg (ak 118) 0 1) (Cr k l c)=bd (gd (decide (c.length < 16777216)) (some (V.f (.int c.length),Cr k l c))) λa σ=>(aT .Eq a.frz (.int 0)).bind λd=>bif d then some (.rt (.f (.int 0)) σ)else some (.nx σ):=by rw[ac false];rfl'
theorem JI(k t:T)(l:Addr)(r:List T):exs (Et nL) (ae 118) (sg (ak 118) 1 2) (Cr k l (t ::r))=(ez .Mod t k).bind λa=>some (.nx (v7 k l (t ::r) a)):=by rw[ac false];rfl'
theorem Kr(k t:T)(l:Addr)(r:List T)(d:V):exs (Et nL) (ae 118) (sg (ak 118) 2 3) (v7 k l (t ::r) d)=(ez .FloorDiv t k).bind λa=>gd (decide ((0:Int) < ((t ::r).length:Int))) (some (.nx (v7 k l (a.frz ::r) d))):=by rw[ac false];rfl'
theorem Je(k t:T)(l:Addr)(r:List T)(d:V):exs (Et nL) (ae 118) (sg (ak 118) 3 4) (v7 k l (t ::r) d)=(aT .Eq t (.int 0)).bind λc=>bif c then(gd (decide (r.length < 16777216)) (some r)).bind λts=>some (.nx (v7 k l ts d))else some (.nx (v7 k l (t ::r) d)):=by rw[ac false];rfl'
theorem II(k:T)(l:Addr)(c:List T)(d:T):exs (Et nL) (ae 118) ((ak 118).drop 4) (v7 k l c (.f d))=some (.rt (.f d) (v7 k l c (.f d))):=by rfl'
noncomputable def bK(k:Nat):List Nat→Nat×List Nat
 |[]=>(0,[])
 |x ::r=>(x % k,if x / k=0 then r else x / k ::r)
theorem jS(k x:Nat)(r:List Nat):bK k (x ::r)=(x % k,if x / k=0 then r else x / k ::r):=rfl
theorem el(k:Nat)(c:List Nat):(bK k c).2.length≤c.length:=by
 cases c with
 |nil=>exact Nat.le_refl _
 |cons x r=>
  rw[jS]
  show(if x / k=0 then r else x / k ::r).length≤(x ::r).length
  split
  ·exact Nat.le_succ _
  ·exact Nat.le_refl _
theorem kO{k:Nat}(hk:0 < k)(c:List Nat):(bK k c).1 < k:=by
 cases c with
 |nil=>exact hk
 |cons x r=>exact Nat.mod_lt _ hk
theorem fs(x k:Nat)(hk:0 < k):ez .Mod (.int x) (.int k)=some (.f (.int ((x % k:Nat):Int))):=by
 show gd (decide ((k:Int)≠0)) (some (V.f (.int ((x:Int).fmod (k:Int)))))=_
 rw[b9 (decide_eq_true (yN (Nat.ne_of_gt hk))),Int.fmod_eq_emod_of_nonneg _ (by(apply jF;decide))]
 rfl
theorem x7(x k:Nat)(hk:0 < k)(hl:k < 1000):ez .FloorDiv (.int x) (.int k)=some (.f (.int ((x / k:Nat):Int))):=by
 show gd (decide ((k:Int)≠0) && decide ((k:Int).natAbs.log2 < 9000)) (some (V.f (.int ((x:Int).fdiv (k:Int)))))=_
 rw[b9 (by
  rw[Bool.and_eq_true]
  refine⟨decide_eq_true (yN (Nat.ne_of_gt hk)),decide_eq_true ?_⟩
  rw[Int.natAbs_natCast]
  exact Nat.lt_of_le_of_lt (Nat.log2_le_self k) (by(apply gw;assumption;rfl))),Int.fdiv_eq_ediv_of_nonneg _ (by(apply jF;decide))]
 rfl
theorem xZ{k:Nat}(hk:0 < k)(hk2:k < 1000)(l:Addr){c:List Nat}(hc:c.length≤1000):∃σ',exs (Et nL) (ae 118) ((ak 118).drop 0) (Cr (.int k) l (c.map iT))=some (.rt (.f (.int (bK k c).1)) σ')∧σ'.lookup (ghost 0)=some (.ol ((bK k c).2.map iT)):=by
 have s0:=Jn (.int k) l (c.map iT)
 rw[b9 (decide_eq_true (by rw[List.length_map];(apply mQ;assumption;rfl))),aD,show(V.f (T.int ((c.map iT).length:Int))).frz=T.int ((c.map iT).length:Int)from rfl,cB,aa,List.length_map]at s0
 cases c with
 |nil=>
  refine⟨Cr (.int k) l [],?_,rfl⟩
  have s0:exs (Et nL) (ae 118) (sg (ak 118) 0 1) (Cr (.int k) l [])=some (.rt (.f (.int 0)) (Cr (.int k) l [])):=s0
  exact tF 0 1 s0 rfl
 |cons x r=>
  rw[beq_eq_false_iff_ne.mpr (by simp;(apply nH)),cond_false]at s0
  have s1:=JI (.int k) (.int x) l (r.map iT)
  rw[fs x k hk,aa]at s1
  have s2:=Kr (.int k) (.int x) l (r.map iT) (.f (.int ((x % k:Nat):Int)))
  rw[x7 x k hk hk2,aa,b9 (decide_eq_true (by simp))]at s2
  have s3:=Je (.int k) (.int ((x / k:Nat):Int)) l (r.map iT) (.f (.int ((x % k:Nat):Int)))
  rw[cB,aa]at s3
  have s3':exs (Et nL) (ae 118) (sg (ak 118) 3 4) (v7 (.int k) l (.int ((x / k:Nat):Int) ::r.map iT) (.f (.int ((x % k:Nat):Int))))=some (.nx (v7 (.int k) l ((bK k (x ::r)).2.map iT) (.f (.int ((x % k:Nat):Int))))):=by
   rw[s3]
   rw[jS]
   show _=some (O.nx (v7 (.int k) l ((if x / k=0 then r else x / k ::r).map iT) (.f (.int ((x % k:Nat):Int)))))
   by_cases h:x / k=0
   ·rw[beq_iff_eq.mpr (Eg h),cond_true,b9 (decide_eq_true (by rw[List.length_map];simp at hc;(apply mQ;assumption;rfl))),aa,if_pos h]
   ·rw[beq_eq_false_iff_ne.mpr (yN h),cond_false,if_neg h];rfl
  refine⟨_,(ai 0 1 s0 rfl).trans ((ai 1 2 s1 rfl).trans ((ai 2 3 s2 rfl).trans ((ai 3 4 s3' rfl).trans (II _ _ _ _)))),rfl⟩
end
section
noncomputable def eZ:List T→Option (List Nat)
 |[]=>some []
 |t ::ts=>t.int?.bind λi=>gd (decide (0≤i)) ((eZ ts).map (i.toNat ::·))
theorem uO:∀c:List Nat,eZ (c.map iT)=some c
 |[]=>rfl
 |x ::c=>by
  show gd (decide ((0:Int)≤(x:Int))) ((eZ (c.map iT)).map ((x:Int).toNat ::·))=_
  rw[b9 (decide_eq_true (by(apply jF;decide))),uO c,Int.toNat_natCast];rfl
noncomputable def cm(ts c:List T):Option (V×List T):=(Cc ts).bind λt=>t.int?.bind λk=>gd (decide (0 < k) && (decide (k < 1000) && decide (c.length≤1000))) ((eZ c).map λns=>(.f (.int (bK k.toNat ns).1),(bK k.toNat ns).2.map iT))
theorem jY{k:Nat}(hk:0 < k)(h2:k < 1000){c:List Nat}(hc:c.length≤1000):cm [.int (k:Int)] (c.map iT)=some (.f (.int (bK k c).1),(bK k c).2.map iT):=by
 show gd (decide (0 < (k:Int)) && (decide ((k:Int) < 1000) && decide ((c.map iT).length≤1000))) ((eZ (c.map iT)).map _)=_
 rw[b9 (by rw[decide_eq_true (by omega),decide_eq_true (by(apply dS;assumption;decide)),List.length_map,decide_eq_true hc];rfl),uO,Int.toNat_natCast];rfl
noncomputable def ZL:Orc:={dn with Ψ:=λf=>if f="_law_dip" then some cm else none}
noncomputable def oH(sc:T):Loc:=[("script",.f sc)]
noncomputable abbrev nQ:Expr:=c9 (bF 123 0)
theorem Hl(ts:List T):exs (Et ZL) (ae 123) (sg (ak 123) 0 1) (oH (.list ts))=bd (evComp (Eu ZL) (ae 123) (aH nQ) "cell" (az nQ) (aN nQ) (a9 nQ) (oH (.list ts))) λus ZZ=>some (.nx (ZZ.set "well" (.ol us))):=by rw[ac false];rfl'
theorem Eo(ts:List T):evT (Eu ZL) (ae 123) (az nQ) (oH (.list ts))=bd (gd (ag ts.length) (some (V.ol (eC ts none (some 40)),oH (.list ts)))) λa σ'=>some (a.frz,σ'):=by rfl'
theorem Fe:qo (az nQ)=none:=by rfl'
theorem Fk:fL (az nQ)=false:=by rfl'
theorem Hw(ts:List T)(h:ts.length≤1000):evIt (Eu ZL) (ae 123) (az nQ) (oH (.list ts))=some (eC ts none (some 40),oH (.list ts)):=by
 unfold evIt
 rw[Fe]
 dsimp only
 unfold gT
 rw[Fk,Eo,b9 (kc (by(apply ah;assumption;rfl))),aD];rfl
theorem Ig(ts:List T):(aG (ae 123) (a9 nQ) "cell" && (((oH (.list ts)).lookup ("cell":Str)).isNone && ay (oH (.list ts)) (a9 nQ) "cell"))=true:=by rfl'
theorem Jb(ts:List T)(i:Int):evT (Eu ZL) (kdC (a9 nQ) (ae 123)) (aH nQ) (wi (oH (.list ts)) "cell" (.int i))=some (.int (if i < 0 then -i else i),wi (oH (.list ts)) "cell" (.int i)):=by rfl'
theorem uI{n:Nat}(h:n < 64):(sliceRange (sliceBounds none (some 40) none n).1 (sliceBounds none (some 40) none n).2.1 (sliceBounds none (some 40) none n).2.2).length≤40:=by
 have:∀n:Fin 64,(sliceRange (sliceBounds none (some 40) none n.1).1 (sliceBounds none (some 40) none n.1).2.1 (sliceBounds none (some 40) none n.1).2.2).length≤40:=by decide +kernel
 exact this ⟨n,h⟩
theorem jz{ts:List T}(h:ts.length < 64):(eC ts none (some 40)).length≤40:=Nat.le_trans (List.length_filterMap_le _ _) (uI h)
theorem rR{ts:List T}{lo hi:Option Int}{t:T}(h:t∈eC ts lo hi):t∈ts:=by
 obtain⟨i,_,hi⟩:=List.mem_filterMap.mp h
 exact List.mem_of_getElem? hi
noncomputable def Mn(sc:T)(w:V):Loc:=[("script",.f sc),("well",w)]
theorem yD{ns:List Int}(h:ns.length≤63):∃c:List Nat,c.length≤40∧exs (Et ZL) (ae 123) (sg (ak 123) 0 1) (oH (.list (ns.map .int)))=some (.nx (Mn (.list (ns.map .int)) (.ol (c.map iT)))):=by
 have hl:(ns.map T.int).length < 64:=by rw[List.length_map];(apply mQ;assumption;rfl)
 have hm:∀t∈eC (ns.map T.int) none (some 40),∃i,t= .int i:=λt ht=>by
  obtain⟨i,_,rfl⟩:=List.mem_map.mp (rR ht)
  exact⟨i,rfl⟩
 let f:T→T:=λt=>match t with|.int i=>iT i.natAbs|_=>.none
 have hc:=aA (λ_=>true) f (Hw (ns.map T.int) (by(apply nE;assumption;rfl))) (Ig _) (by have:=jz hl;(apply ah;assumption;rfl)) (ifs:=aN nQ) (elt:=aH nQ) (λt _=>by show ifsGo _ _ (aN nQ) _=_;rfl') (λt ht _=>by
  obtain⟨i,rfl⟩:=hm t ht
  refine(Jb _ i).trans ?_
  have:(if i < 0 then -i else i)=(i.natAbs:Int):=by
   split
   ·exact(Int.ofNat_natAbs_of_nonpos (Int.le_of_lt ‹_›)).symm
   ·exact(Int.natAbs_of_nonneg (Int.not_lt.mp ‹_›)).symm
  rw[this];rfl)
 rw[av]at hc
 have s0:=Hl (ns.map T.int)
 rw[hc,aD]at s0
 refine⟨(eC (ns.map T.int) none (some 40)).map λt=>match t with|.int i=>i.natAbs|_=>0,by rw[List.length_map];exact jz hl,s0.trans ?_⟩
 rw[List.map_map]
 have:(eC (ns.map T.int) none (some 40)).map f=(eC (ns.map T.int) none (some 40)).map (iT ∘ λt=>match t with|.int i=>i.natAbs|_=>0):=List.map_congr_left λt ht=>by
  obtain⟨i,rfl⟩:=hm t ht
  rfl
 rw[this];rfl
end
section
theorem HU(c:List T):exs (Et ZL) (ae 123) (sg (ak 123) 1 2) [("well",.ol c)]=(cm [.int 4] c).bind λr=>(ez .Add r.1.frz (.int 2)).bind λa=>(ez .Mod a.frz (.int 4)).bind λb=>(ez .Add (.int 1) b.frz).bind λd=>some (.nx [("well",.ol r.2),("wide",d)]):=by rw[ac false];rfl'
theorem IP(c:List T)(wd:V):exs (Et ZL) (ae 123) (sg (ak 123) 2 3) [("well",.ol c),("wide",wd)]=(cm [.int 2] c).bind λr=>(aT .Eq r.1.frz (.int 1)).bind λb=>some (.nx [("well",.ol r.2),("wide",wd),("simple",.f (.bool b))]):=by rw[ac false];rfl'
noncomputable def sB(c:List T)(wd:T)(b:Bool)(hs ps cs:List T):Loc:=[("well",.ol c),("wide",.f wd),("simple",.f (.bool b)),("heads",.ol hs),("pieces",.ol ps),("columns",.ol cs)]
theorem Ke(c:List T)(wd:T)(b:Bool):exs (Et ZL) (ae 123) (sg (ak 123) 3 6) [("well",.ol c),("wide",.f wd),("simple",.f (.bool b))]=some (.nx (sB c wd b [] [] [])):=by rfl'
noncomputable abbrev lk:List Stmt:=aq (bF 123 6)
noncomputable def CU(n:Nat):Prop:=∀c b,exs (Et ZL) (ae 123) (sg (ak 123) 6 7) (sB c (.int n) b [] [] [])=(aC (Eu ZL) (ae 123) "at" lk 6 ((List.range n).map iT) (sB c (.int n) b [] [] [])).bind li
theorem GP:CU 1:=λ_ _=>by rfl'
theorem JH:CU 2:=λ_ _=>by rfl'
theorem J0:CU 3:=λ_ _=>by rfl'
theorem HO:CU 4:=λ_ _=>by rfl'
theorem HM{n:Nat}(h:n < 4):CU (n+1):=aS (P:=λn=>CU (n+1)) GP JH J0 HO h
noncomputable def AJ(c:List T)(wd:T)(b:Bool)(hs ps cs:List T)(p:Int):Loc:=[("well",.ol c),("wide",.f wd),("simple",.f (.bool b)),("heads",.ol hs),("pieces",.ol ps),("columns",.ol cs),("at",.f (.int p))]
noncomputable def fy(c:List T)(wd:T)(b:Bool)(hs ps cs:List T)(p:Int)(s:V):Loc:=[("well",.ol c),("wide",.f wd),("simple",.f (.bool b)),("heads",.ol hs),("pieces",.ol ps),("columns",.ol cs),("at",.f (.int p)),("sort",s)]
noncomputable def eQ(c:List T)(wd:T)(b:Bool)(hs ps cs:List T)(p:Int)(s prs:V):Loc:=[("well",.ol c),("wide",.f wd),("simple",.f (.bool b)),("heads",.ol hs),("pieces",.ol ps),("columns",.ol cs),("at",.f (.int p)),("sort",s),("pairs",prs)]
noncomputable def i9(c:List T)(wd:T)(b:Bool)(hs ps cs:List T)(p:Int)(s prs ex:V):Loc:=[("well",.ol c),("wide",.f wd),("simple",.f (.bool b)),("heads",.ol hs),("pieces",.ol ps),("columns",.ol cs),("at",.f (.int p)),("sort",s),("pairs",prs),("extras",ex)]
section
variable(c:List T)(wd:T)(b:Bool)(hs ps cs:List T)(p:Int)
theorem C6:exs (Eu ZL) (ae 123) (sg lk 0 1) (AJ c wd b hs ps cs p)=(cm [.int 3] c).bind λr=>(ez .Add (.int p) r.1.frz).bind λa=>(ez .Mod a.frz (.int 3)).bind λd=>(aw (.list [.str "q",.str "p",.str "r"]) d.frz).bind λu=>(aV "append" hs u).bind λus=>some (.nx (AJ r.2 wd b us ps cs p)):=by rw[ac false];rfl'
theorem F7:exs (Eu ZL) (ae 123) (sg lk 1 2) (AJ c wd b hs ps cs p)=(cm [.int 6] c).bind λr=>(ez .Mod r.1.frz (.int 5)).bind λa=>some (.nx (fy r.2 wd b hs ps cs p a)):=by rw[ac false];rfl'
noncomputable abbrev eI:Expr:=c9 (nU lk 2)
theorem DK(s:T):exs (Eu ZL) (ae 123) (sg lk 2 3) (fy c wd b hs ps cs p (.f s))=bd (evComp (Ev.at ZL 100000 38) (ae 123) (aH eI) "_" (az eI) (aN eI) (a9 eI) (fy c wd b hs ps cs p (.f s))) λus ZZ=>some (.nx (ZZ.set "pairs" (.ol us))):=by rw[ac false];rfl'
noncomputable abbrev Dg:Expr:=cW 0 (az eI)
theorem CK(s:T):evT (Ev.at ZL 100000 38) (ae 123) Dg (fy c wd b hs ps cs p (.f s))=(cm [.int 4] c).bind λr=>(ez .Add r.1.frz (.int 2)).bind λa=>(ez .Mod a.frz (.int 4)).bind λd=>some (d.frz,fy r.2 wd b hs ps cs p (.f s)):=by rw[bS false];rfl'
theorem Bi(s t:T):evT (Ev.at ZL 100000 38) (kdC (a9 eI) (ae 123)) (aH eI) (wi (fy c wd b hs ps cs p (.f s)) "_" t)=(cm [.int 8] c).bind λr=>(rn nL 119 [s,r.1.frz]).bind λa=>some (a.frz,wi (fy r.2 wd b hs ps cs p (.f s)) "_" t):=by rw[bS false];rfl'
theorem BE(s:T):(aG (ae 123) (a9 eI) "_" && (((fy c wd b hs ps cs p (.f s)).lookup ("_":Str)).isNone && ay (fy c wd b hs ps cs p (.f s)) (a9 eI) "_"))=true:=by rfl'
theorem DG(s:T)(prs:List T):exs (Eu ZL) (ae 123) (sg lk 3 4) (eQ c wd b hs ps cs p (.f s) (.ol prs))=(aV "append" ps (.tup [s,.list prs])).bind λus=>some (.nx (eQ c wd b hs us cs p (.f s) (.f (.list prs)))):=by rw[ac false];rfl'
end
end
section
theorem sm{E:Ev}{kd:Kd}{x:Str}{ifs:List Expr}{elt:Expr}{I:Loc→Prop}{P:T→Prop}(hx:∀σ,I σ→σ.lookup x=none)(hf:∀σ,ifsGo E kd ifs σ=some (true,σ))
  (h:∀σ t,I σ→∃u σ',evT E kd elt (σ ++ [(x,V.f t)])=some (u,σ' ++ [(x,V.f t)])∧I σ'∧P u) (ts:List T):∀(σ σ₀:Loc),I σ→(σ₀=σ∨∃b,σ₀=σ ++ [(x,b)])→
  ∃us σ' ZZ,compGo E kd x ifs elt ts σ₀=some (us,ZZ)∧I σ'∧(ZZ=σ'∨∃b,ZZ=σ' ++ [(x,b)])∧us.length=ts.length∧∀u∈us,P u:=by
 induction ts with
 |nil=>
  intro σ σ₀ i e
  exact⟨[],σ,σ₀,rfl,i,e,rfl,λu hu=>nomatch hu⟩
 |cons t ts ih=>
  intro σ σ₀ i e
  have hs:σ₀.set x (.f t)=σ ++ [(x,V.f t)]:=by
   rcases e with rfl|⟨b,rfl⟩
   ·exact j5 (hx _ i)
   ·exact ik (hx _ i)
  obtain⟨u,ZY,h1,i2,p⟩:=h σ t i
  obtain⟨us,σ',ZZ,h2,i3,e3,hl,hp⟩:=ih ZY (ZY ++ [(x,V.f t)]) i2 (.inr ⟨_,rfl⟩)
  refine⟨u ::us,σ',ZZ,?_,i3,e3,by simp[hl],λy hy=>?_⟩
  ·show bd (ifsGo E kd ifs (σ₀.set x (.f t))) (λb ZZ=>match b with
    |true=>bd (evT E kd elt ZZ) λu ZY=>bd (compGo E kd x ifs elt ts ZY) λus ZX=>some (u ::us,ZX)
    |false=>compGo E kd x ifs elt ts ZZ)=_
   rw[hs,hf,aD]
   dsimp only
   rw[h1,aD,h2];rfl
  ·rcases List.mem_cons.mp hy with rfl|hy
   ·exact p
   ·exact hp y hy
theorem rP{E:Ev}{kd:Kd}{elt iter:Expr}{x:Str}{ifs:List Expr}{scope:Scope}{σ ZZ:Loc}{ts:List T}{I:Loc→Prop}{P:T→Prop}(hi:evIt E kd iter σ=some (ts,ZZ))(i1:I ZZ)
  (hs:∀σ,I σ→(aG kd scope x && ((σ.lookup x).isNone && ay σ scope x))=true) (hl:ts.length≤16777216) (hf:∀σ,ifsGo E (kdC scope kd) ifs σ=some (true,σ))
  (h:∀σ t,I σ→∃u σ',evT E (kdC scope kd) elt (σ ++ [(x,V.f t)])=some (u,σ' ++ [(x,V.f t)])∧I σ'∧P u) :
  ∃us σ',evComp E kd elt x iter ifs scope σ=some (us,σ')∧I σ'∧us.length=ts.length∧∀u∈us,P u:=by
 have hx:∀σ,I σ→σ.lookup x=none:=λσ i=>Option.isNone_iff_eq_none.mp (an (an (hs σ i)).2).1
 obtain⟨us,σ',σe,e1,i2,h1,hl2,hp⟩:=sm hx hf h ts ZZ ZZ i1 (.inl rfl)
 refine⟨us,σ',?_,i2,hl2,hp⟩
 unfold evComp
 rw[b9 (an (hs _ i1)).1,hi]
 show gd (still? ZZ x && ay ZZ scope x && ag ts.length) _=_
 rw[b9 (by rw[(an (an (hs _ i1)).2).2,fg hl];unfold still?;rw[hx _ i1];rfl),ef (hx _ i1),e1]
 show gd (ay σe scope x) (some (us,Loc.back ZZ σe x))=_
 have ha:ay σe scope x=true:=by
  rcases h1 with rfl|⟨b,rfl⟩
  ·exact(an (an (hs _ i2)).2).2
  ·exact iu (an (an (hs _ i2)).2).2
 have hb:Loc.back ZZ σe x=σ':=by
  unfold Loc.back
  rw[hx _ i1]
  rcases h1 with rfl|⟨b,rfl⟩
  ·exact ef (hx _ i2)
  ·exact mV (hx _ i2)
 rw[b9 ha,hb]
theorem e9(a b:Nat):ez .Add (.int a) (.int b)=some (.f (.int ((a+b:Nat):Int))):=by
 show some (V.f (.int ((a:Int)+(b:Int))))=_
 rw[Int.natCast_add]
theorem AO:∀σ,evIt (Ev.at ZL 100000 38) (ae 123) (az eI) σ=bd (bd (evT (Ev.at ZL 100000 38) (ae 123) Dg σ) λt ZZ=>some ([t],ZZ)) λts ZZ=>(jU ts).map λr=>(r,ZZ):=λσ=>by rfl'
noncomputable def wh(n:Nat):Prop:=jU [.int (n:Int)]=some ((List.range n).map iT)
theorem Lm{n:Nat}(h:n < 4):wh n:=by
 apply aS ?_ ?_ ?_ ?_ h
 ·unfold wh;rfl'
 ·unfold wh;rfl'
 ·unfold wh;rfl'
 ·unfold wh;rfl'
theorem qS{s:Nat}(hs:s < 5){c:List Nat}(hc:c.length≤40)(wd:T)(b:Bool)(hds ps cs:List T)(p:Int):∃(os c':List Nat),os.length≤3∧(∀o∈os,o < 8)∧c'.length≤40∧
  exs (Eu ZL) (ae 123) (sg lk 2 3) (fy (c.map iT) wd b hds ps cs p (.f (.int s)))=some (.nx (eQ (c'.map iT) wd b hds ps cs p (.f (.int s)) (.ol (os.map (eT s))))):=by
 have hd4:=kO (k:=4) (by decide) c
 have hm4:((bK 4 c).1+2) % 4 < 4:=Nat.mod_lt _ (by decide)
 have hl4:=el 4 c
 have hit:evIt (Ev.at ZL 100000 38) (ae 123) (az eI) (fy (c.map iT) wd b hds ps cs p (.f (.int s)))=some ((List.range (((bK 4 c).1+2) % 4)).map iT,fy ((bK 4 c).2.map iT) wd b hds ps cs p (.f (.int s))):=by
  rw[AO,CK,show cm [.int 4] (c.map iT)=_ from jY (k:=4) (by decide) (by decide) (by(apply ah;assumption;rfl)),aa]
  show bd (bd ((ez .Add (.int (bK 4 c).1) (.int 2)).bind _) _) _=_
  rw[show ez .Add (.int (bK 4 c).1) (.int 2)=_ from e9 _ 2,aa]
  show bd (bd ((ez .Mod (.int (((bK 4 c).1+2:Nat):Int)) (.int 4)).bind _) _) _=_
  rw[show ez .Mod (.int (((bK 4 c).1+2:Nat):Int)) (.int 4)=_ from fs _ 4 (by decide),aa,aD,aD]
  show(jU [.int ((((bK 4 c).1+2) % 4:Nat):Int)]).map _=_
  rw[show jU [.int ((((bK 4 c).1+2) % 4:Nat):Int)]=_ from Lm hm4];rfl
 obtain⟨us,σ',he,⟨c',hc',rfl⟩,hl,hp⟩:=rP (I:=λσ=>∃c':List Nat,c'.length≤40∧σ=fy (c'.map iT) wd b hds ps cs p (.f (.int s))) (P:=λu=>∃o,o < 8∧u=eT s o) hit ⟨_,by(apply bz;assumption;assumption;rfl),rfl⟩ (ifs:=aN eI) (elt:=aH eI) (x:="_") (scope:=a9 eI)
  (λσ i=>by obtain⟨c',_,rfl⟩:=i;exact BE _ _ _ _ _ _ _ _) (by rw[List.length_map,List.length_range];(apply nE;assumption;rfl)) (λσ=>by show ifsGo _ _ (aN eI) _=_;rfl') (λσ t i=>by
   obtain⟨c',hc',rfl⟩:=i
   have hl8:=el 8 c'
   have h8:=kO (k:=8) (by decide) c'
   refine⟨eT s (bK 8 c').1,fy ((bK 8 c').2.map iT) wd b hds ps cs p (.f (.int s)),?_,⟨_,by(apply bz;assumption;assumption;rfl),rfl⟩,⟨_,h8,rfl⟩⟩
   refine(Bi _ _ _ _ _ _ _ _ _).trans ?_
   rw[show cm [.int 8] (c'.map iT)=_ from jY (k:=8) (by decide) (by decide) (by(apply ah;assumption;rfl)),aa]
   show(rn nL 119 [.int s,.int (bK 8 c').1]).bind _=_
   rw[Cs hs h8,aa];rfl)
 have hos:∃os:List Nat,us=os.map (eT s)∧∀o∈os,o < 8:=by
  clear he hl
  induction us with
  |nil=>exact⟨[],rfl,λo ho=>nomatch ho⟩
  |cons u us ih=>
   obtain⟨o,ho,rfl⟩:=hp u (.head _)
   obtain⟨os,rfl,h⟩:=ih λu hu=>hp u (.tail _ hu)
   exact⟨o ::os,rfl,λx hx=>(List.mem_cons.mp hx).elim (λe=>e ▸ ho) (h x)⟩
 obtain⟨os,rfl,ho⟩:=hos
 refine⟨os,c',?_,ho,hc',?_⟩
 ·rw[List.length_map,List.length_map,List.length_range]at hl
  (apply sS;assumption;assumption;rfl)
 ·rw[DK,he];rfl
end
section
noncomputable def Fy:Stmt→List Stmt
 |.If _ _ o _=>o
 |_=>[]
noncomputable def C7(j:Nat):Stmt→Expr
 |.Expr e _=>cW j e
 |_=>.Constant .none 0 ⟨0,0,0,0⟩
noncomputable abbrev sQ:Expr:=cW 1 (C7 0 (nU (Fy (nU lk 4)) 0))
noncomputable abbrev sI:Expr:=cW 1 (C7 0 (nU (aq (nU lk 4)) 1))
section
variable(c:List T)(wd:T)(b:Bool)(hs ps cs:List T)(p:Int)(prs:List T)
noncomputable def tj(s:Nat):Prop:=∀c wd b hs ps cs p prs,exs (Eu ZL) (ae 123) (sg lk 4 5) (eQ c wd b hs ps cs p (.f (.int s)) (.f (.list prs)))=bd (evComp (Ev.at ZL 100000 35) (ae 123) (aH sQ) "pair" (az sQ) (aN sQ) (a9 sQ) (eQ c wd b hs ps cs p (.f (.int s)) (.f (.list prs)))) λus ZZ=>(ownL ZZ "columns").bind λts=>(aV "append" ts (vt (rk s) us)).bind λvs=>some (.nx (ZZ.set "columns" (.ol vs)))
theorem Hp:tj 0:=λ_ _ _ _ _ _ _ _=>by rw[ac false];rfl'
theorem GY:tj 1:=λ_ _ _ _ _ _ _ _=>by rw[ac false];rfl'
theorem Hf:tj 2:=λ_ _ _ _ _ _ _ _=>by rw[ac false];rfl'
theorem JQ:tj 3:=λ_ _ _ _ _ _ _ _=>by rw[ac false];rfl'
theorem LQ{s:Nat}(h:s < 4):tj s:=by
 apply aS ?_ ?_ ?_ ?_ h
 ·exact Hp
 ·exact GY
 ·exact Hf
 ·exact JQ
theorem Fs(s:Nat):evIt (Ev.at ZL 100000 35) (ae 123) (az sQ) (eQ c wd b hs ps cs p (.f (.int s)) (.f (.list prs)))=some (prs,eQ c wd b hs ps cs p (.f (.int s)) (.f (.list prs))):=by rfl'
theorem C4(s:Nat):(aG (ae 123) (a9 sQ) "pair" && (((eQ c wd b hs ps cs p (.f (.int s)) (.f (.list prs))).lookup ("pair":Str)).isNone && ay (eQ c wd b hs ps cs p (.f (.int s)) (.f (.list prs))) (a9 sQ) "pair"))=true:=by rfl'
theorem Dy(s o:Nat):evT (Ev.at ZL 100000 35) (kdC (a9 sQ) (ae 123)) (aH sQ) (wi (eQ c wd b hs ps cs p (.f (.int s)) (.f (.list prs))) "pair" (eT s o))=some (oh s o,wi (eQ c wd b hs ps cs p (.f (.int s)) (.f (.list prs))) "pair" (eT s o)):=by rfl'
theorem MK:exs (Eu ZL) (ae 123) (sg lk 4 5) (eQ c wd b hs ps cs p (.f (.int 4)) (.f (.list prs)))=bd (evComp (Ev.at ZL 100000 35) (ae 123) (aH sI) "pair" (az sI) (aN sI) (a9 sI) (i9 c wd b hs ps cs p (.f (.int 4)) (.f (.list prs)) (.od ["levels","class"] [.vec (.str "character") (.list AC) .none,.vec (.str "character") (.list [.str "factor"]) .none]))) λus ZZ=>pZ (ae 123) "extras" ZZ λex ZY=>(ownL ZY "columns").bind λts=>(aV "append" ts (.vec (.str "integer") (.list us) ex)).bind λvs=>some (.nx (ZY.set "columns" (.ol vs))):=by rw[ac false];rfl'
theorem Em(ex:V):evIt (Ev.at ZL 100000 35) (ae 123) (az sI) (i9 c wd b hs ps cs p (.f (.int 4)) (.f (.list prs)) ex)=some (prs,i9 c wd b hs ps cs p (.f (.int 4)) (.f (.list prs)) ex):=by rfl'
theorem DD(ex:V):(aG (ae 123) (a9 sI) "pair" && (((i9 c wd b hs ps cs p (.f (.int 4)) (.f (.list prs)) ex).lookup ("pair":Str)).isNone && ay (i9 c wd b hs ps cs p (.f (.int 4)) (.f (.list prs)) ex) (a9 sI) "pair"))=true:=by rfl'
noncomputable def Jy(o:Nat):Prop:=∀c wd b hs ps cs p prs ex,evT (Ev.at ZL 100000 35) (kdC (a9 sI) (ae 123)) (aH sI) (wi (i9 c wd b hs ps cs p (.f (.int 4)) (.f (.list prs)) ex) "pair" (eT 4 o))=some (zr o,wi (i9 c wd b hs ps cs p (.f (.int 4)) (.f (.list prs)) ex) "pair" (eT 4 o))
theorem D7:∀o,o < 8→Jy o:=by apply dG<;>(intro _ _ _ _ _ _ _ _ _;rfl')
end
end
section
noncomputable def Gs(h:Nat):Prop:=aw (.list [.str "q",.str "p",.str "r"]) (.int (h:Int))=some (.str (cb h))
theorem FM{h:Nat}(hh:h < 3):Gs h:=by
 apply fW ?_ ?_ ?_ hh
 ·unfold Gs;rfl'
 ·unfold Gs;rfl'
 ·unfold Gs;rfl'
theorem wN(E:Ev)(σ:Loc):exs E (ae 123) (lk.drop 5) σ=some (.nx σ):=by rfl'
theorem El(c:List T)(wd:T)(b:Bool)(hs ps cs:List T)(p:Int)(prs us:List T):(pZ (ae 123) "extras" (i9 c wd b hs ps cs p (.f (.int 4)) (.f (.list prs)) (.od ["levels","class"] [.vec (.str "character") (.list AC) .none,.vec (.str "character") (.list [.str "factor"]) .none])) λex ZY=>(ownL ZY "columns").bind λts=>(aV "append" ts (.vec (.str "integer") (.list us) ex)).bind λvs=>some (O.nx (ZY.set "columns" (.ol vs)))) =
 (aV "append" cs (bp us AC)).bind λvs=>some (.nx ((i9 c wd b hs ps cs p (.f (.int 4)) (.f (.list prs)) (.f (gF AC))).set "columns" (.ol vs))):=by rfl'
theorem DV(c:List T)(wd:T)(b:Bool)(hs ps cs₀ cs:List T)(p:Int)(s prs ex:V):((i9 c wd b hs ps cs₀ p s prs ex).set "columns" (.ol cs)).take 6=sB c wd b hs ps cs:=by rfl'
theorem Fp(c:List T)(wd:T)(b:Bool)(hs ps cs₀ cs:List T)(p:Int)(s prs:V):((eQ c wd b hs ps cs₀ p s prs).set "columns" (.ol cs)).take 6=sB c wd b hs ps cs:=by rfl'
theorem Ds(c:List T)(wd:T)(b:Bool)(hs ps cs:List T)(p:Int)(s prs:V):ownL (eQ c wd b hs ps cs p s prs) "columns"=some cs:=by rfl'
theorem FW{s:Nat}(hs:s < 5){os:List Nat}(ho:∀o∈os,o < 8)(hl:os.length≤3)(c:List T)(wd:T)(b:Bool)(hds ps cs:List T)(hc:cs.length≤1000)(p:Int)(h:Nat):∃σ',exs (Eu ZL) (ae 123) (sg lk 4 5) (eQ c wd b hds ps cs p (.f (.int s)) (.f (.list (os.map (eT s)))))=some (.nx σ')∧
  σ'.take 6=sB c wd b hds ps (cs ++ [aU ⟨h,s,os⟩]):=by
 by_cases h4:s=4
 ·subst h4
  have hcm:=aA (λ_=>true) (λt=>match t with|.tup [.none,_]=>.none|.tup [.int i,_]=>.int (i+1)|_=>.none) (Em c wd b hds ps cs p (os.map (eT 4)) (.od ["levels","class"] [.vec (.str "character") (.list AC) .none,.vec (.str "character") (.list [.str "factor"]) .none])) (DD _ _ _ _ _ _ _ _ _) (by rw[List.length_map];(apply ah;assumption;rfl)) (ifs:=aN sI) (elt:=aH sI) (λt _=>by show ifsGo _ _ (aN sI) _=_;rfl') (λt ht _=>by
   obtain⟨o,hoo,rfl⟩:=List.mem_map.mp ht
   refine(D7 o (ho o hoo) _ _ _ _ _ _ _ _ _).trans ?_
   have:∀o,o < 8→zr o=(match eT 4 o with|.tup [.none,_]=>.none|.tup [.int i,_]=>.int (i+1)|_=>.none):=by apply dG<;>rfl
   rw[this o (ho o hoo)];rfl)
  rw[av,List.map_map]at hcm
  have hm:os.map ((λt=>match t with|T.tup [.none,_]=>.none|.tup [.int i,_]=>.int (i+1)|_=>.none) ∘ eT 4)=os.map zr:=List.map_congr_left λo hoo=>by
   have:∀o,o < 8→(match eT 4 o with|T.tup [.none,_]=>.none|.tup [.int i,_]=>.int (i+1)|_=>.none)=zr o:=by apply dG<;>rfl
   exact this o (ho o hoo)
  rw[hm]at hcm
  have sf:=MK c wd b hds ps cs p (os.map (eT 4))
  rw[hcm,aD]at sf
  rw[El,bD (by(apply ah;assumption;rfl)),aa]at sf
  exact⟨_,sf,DV _ _ _ _ _ _ _ _ _ _ _⟩
 ·have h4:s < 4:=zH (by assumption) (by assumption)
  have hcm:=aA (λ_=>true) (λt=>match t with|.tup [i,_]=>i|_=>.none) (Fs c wd b hds ps cs p (os.map (eT s)) s) (C4 _ _ _ _ _ _ _ _ _) (by rw[List.length_map];(apply ah;assumption;rfl)) (ifs:=aN sQ) (elt:=aH sQ) (λt _=>by show ifsGo _ _ (aN sQ) _=_;rfl') (λt ht _=>by
   obtain⟨o,hoo,rfl⟩:=List.mem_map.mp ht
   exact Dy _ _ _ _ _ _ _ _ _ _)
  rw[av,List.map_map]at hcm
  have sv:=LQ h4 c wd b hds ps cs p (os.map (eT s))
  rw[hcm,aD]at sv
  rw[Ds,aa,bD (by(apply ah;assumption;rfl)),aa]at sv
  have e:aU ⟨h,s,os⟩=vt (rk s) (os.map (oh s)):=hK (c:=⟨h,s,os⟩) (decide_eq_true (by omega))
  rw[e]
  exact⟨_,sv,Fp _ _ _ _ _ _ _ _ _ _⟩
end
section
theorem Cq(c:List T)(wd:T)(b:Bool)(hs ps cs:List T)(t:V):(sB c wd b hs ps cs).set "at" t=([("well",.ol c),("wide",.f wd),("simple",.f (.bool b)),("heads",.ol hs),("pieces",.ol ps),("columns",.ol cs),("at",t)]:Loc):=by rfl'
theorem xx{p:Nat}(hp:p < 4){c:List Nat}(hc:c.length≤40)(wd:T)(b:Bool){cs:List Col}(hl:cs.length≤4):
  ∃(c':List Nat)(k:Col)(σ':Loc),c'.length≤40∧ColOk k∧exs (Eu ZL) (ae 123) lk ((sB (c.map iT) wd b (cs.map hdT) (cs.map a8) (cs.map aU)).set "at" (.f (iT p)))=some (.nx σ')∧
   σ'.take 6=sB (c'.map iT) wd b ((cs ++ [k]).map hdT) ((cs ++ [k]).map a8) ((cs ++ [k]).map aU):=by
 have h3:=kO (k:=3) (by decide) c
 have l3:=el 3 c
 generalize hd3:(bK 3 c).1=d3 at h3
 generalize hc3:(bK 3 c).2=c3 at l3
 have hh:(p+d3) % 3 < 3:=Nat.mod_lt _ (by decide)
 have s0:=C6 (c.map iT) wd b (cs.map hdT) (cs.map a8) (cs.map aU) p
 rw[show cm [.int 3] (c.map iT)=_ from jY (k:=3) (by decide) (by decide) (by(apply ah;assumption;rfl)),aa,hd3,hc3,show(V.f (T.int (d3:Int))).frz=T.int (d3:Int)from rfl,e9,aa,show(V.f (T.int ((p+d3:Nat):Int))).frz=T.int ((p+d3:Nat):Int)from rfl,
  show ez .Mod (.int ((p+d3:Nat):Int)) (.int 3)=_ from fs _ 3 (by decide),aa,show(V.f (T.int (((p+d3) % 3:Nat):Int))).frz=T.int (((p+d3) % 3:Nat):Int)from rfl,FM hh,aa,bD (by rw[List.length_map];(apply ah;assumption;rfl)),aa]at s0
 have h6:=kO (k:=6) (by decide) c3
 have l6:=el 6 c3
 generalize hd6:(bK 6 c3).1=d6 at h6
 generalize hc6:(bK 6 c3).2=c6 at l6
 have hs5:d6 % 5 < 5:=Nat.mod_lt _ (by decide)
 have s1:=F7 (c3.map iT) wd b (cs.map hdT ++ [.str (cb ((p+d3) % 3))]) (cs.map a8) (cs.map aU) p
 rw[show cm [.int 6] (c3.map iT)=_ from jY (k:=6) (by decide) (by decide) (by(apply bz;assumption;assumption;rfl)),aa,hd6,hc6,show(V.f (T.int (d6:Int))).frz=T.int (d6:Int)from rfl,show ez .Mod (.int (d6:Int)) (.int 5)=_ from fs _ 5 (by decide),aa]at s1
 obtain⟨os,c',ho3,ho8,hc',s2⟩:=qS hs5 (c:=c6) (by(apply ut;assumption;assumption;assumption;rfl)) wd b (cs.map hdT ++ [.str (cb ((p+d3) % 3))]) (cs.map a8) (cs.map aU) p
 have s3:=DG (c'.map iT) wd b (cs.map hdT ++ [.str (cb ((p+d3) % 3))]) (cs.map a8) (cs.map aU) p (.int ((d6 % 5:Nat):Int)) (os.map (eT (d6 % 5)))
 rw[bD (by rw[List.length_map];(apply ah;assumption;rfl)),aa]at s3
 obtain⟨σ',s4,ht⟩:=FW hs5 ho8 ho3 (c'.map iT) wd b (cs.map hdT ++ [.str (cb ((p+d3) % 3))]) (cs.map a8 ++ [.tup [.int ((d6 % 5:Nat):Int),.list (os.map (eT (d6 % 5)))]]) (cs.map aU) (by rw[List.length_map];(apply ah;assumption;rfl)) p ((p+d3) % 3)
 refine⟨c',⟨(p+d3) % 3,d6 % 5,os⟩,σ',hc',⟨hh,hs5,ho3,ho8⟩,?_,?_⟩
 ·rw[Cq]
  exact((ai (b:=lk) 0 1 s0 rfl).trans ((ai 1 2 s1 rfl).trans ((ai 2 3 s2 rfl).trans ((ai 3 4 s3 rfl).trans ((ai 4 5 s4 rfl).trans (wN _ _))))))
 ·rw[ht,List.map_append,List.map_append,List.map_append];rfl
theorem Dk(n:Nat):∀(p:Nat),p+n≤4→∀(c:List Nat)(wd:T)(b:Bool)(cs:List Col),c.length≤40→ColsOk cs→cs.length=p→
  ∃(c':List Nat)(ks:List Col),c'.length≤40∧ColsOk ks∧ks.length=p+n∧aC (Eu ZL) (ae 123) "at" lk 6 ((List.range' p n).map iT) (sB (c.map iT) wd b (cs.map hdT) (cs.map a8) (cs.map aU))=some (.nx (sB (c'.map iT) wd b (ks.map hdT) (ks.map a8) (ks.map aU))):=by
 induction n with
 |zero=>
  intro p _ c wd b cs hc ok hl
  exact⟨c,cs,hc,ok,hl,rfl⟩
 |succ n ih=>
  intro p hp c wd b cs hc ok hl
  obtain⟨c1,k,σ',hc1,okk,e,ht⟩:=xx (p:=p) (sX (by assumption)) hc wd b (cs:=cs) (hl ▸ Nat.le_of_lt (sX (by assumption)))
  obtain⟨c',ks,hc',okks,hlk,e2⟩:=ih (p+1) (by(apply kZ;assumption)) c1 wd b (cs ++ [k]) hc1 ⟨λx hx=>(List.mem_append.mp hx).elim (ok.c x) λh=>by rw[List.mem_singleton.mp h];exact okk,by rw[List.length_append,List.length_singleton,hl];exact sX (by assumption)⟩ (by rw[List.length_append,hl];rfl)
  refine⟨c',ks,hc',okks,hlk.trans (Nat.add_right_comm p 1 n),?_⟩
  rw[List.range'_succ]
  show((exs (Eu ZL) (ae 123) lk ((sB (c.map iT) wd b (cs.map hdT) (cs.map a8) (cs.map aU)).set "at" (.f (iT p)))).bind λo=>again 6 o (aC (Eu ZL) (ae 123) "at" lk 6 ((List.range' (p+1) n).map iT)))=_
  rw[e,aa]
  show aC _ _ _ _ _ _ (σ'.take 6)=_
  rw[ht,e2]
theorem iH{E E':Ev}{kd:Kd}{b body:List Stmt}{x:Str}{n:Nat}{ts:List T}{σ σ₀ σ':Loc}{j k:Nat}(h:exs E kd (sg b j k) σ=(aC E' kd x body n ts σ₀).bind li)(hf:aC E' kd x body n ts σ₀=some (.nx σ')):exs E kd (sg b j k) σ=some (.nx σ'):=h.trans (by rw[hf];rfl)
theorem yh{c:List Nat}(hc:c.length≤40):∃(w b:_)(c':List Nat)(ks:List Col),w < 5∧c'.length≤40∧ColsOk ks∧ks.length=w∧ks≠[]∧
  exs (Et ZL) (ae 123) (sg (ak 123) 1 7) [("well",.ol (c.map iT))]=some (.nx (sB (c'.map iT) (.int (w:Nat)) b (ks.map hdT) (ks.map a8) (ks.map aU))):=by
 have l4:=el 4 c
 generalize hd4:(bK 4 c).1=d4
 generalize hc4:(bK 4 c).2=c4 at l4
 have s1:=HU (c.map iT)
 rw[show cm [.int 4] (c.map iT)=_ from jY (k:=4) (by decide) (by decide) (by(apply ah;assumption;rfl)),aa,hd4,hc4,show(V.f (T.int (d4:Int))).frz=T.int (d4:Int)from rfl,show ez .Add (.int (d4:Int)) (.int 2)=_ from e9 _ 2,aa,show(V.f (T.int ((d4+2:Nat):Int))).frz=T.int ((d4+2:Nat):Int)from rfl,
  show ez .Mod (.int ((d4+2:Nat):Int)) (.int 4)=_ from fs _ 4 (by decide),aa,show(V.f (T.int (((d4+2) % 4:Nat):Int))).frz=T.int (((d4+2) % 4:Nat):Int)from rfl,show ez .Add (.int 1) (.int (((d4+2) % 4:Nat):Int))=_ from e9 1 _,aa]at s1
 have hw:(d4+2) % 4 < 4:=Nat.mod_lt _ (by decide)
 have l2:=el 2 c4
 generalize hd2:(bK 2 c4).1=d2
 generalize hc2:(bK 2 c4).2=c2 at l2
 have s2:=IP (c4.map iT) (.f (.int ((1+(d4+2) % 4:Nat):Int)))
 rw[show cm [.int 2] (c4.map iT)=_ from jY (k:=2) (by decide) (by decide) (by(apply bz;assumption;assumption;rfl)),aa,hd2,hc2,show(V.f (T.int (d2:Int))).frz=T.int (d2:Int)from rfl,cB,aa]at s2
 obtain⟨c',ks,hc',ok,hl,e⟩:=Dk (1+(d4+2) % 4) 0 (DH (by assumption)) c2 (.int ((1+(d4+2) % 4:Nat):Int)) ((d2:Int) == 1) [] (by(apply ut;assumption;assumption;assumption;rfl)) ⟨λ_ h=>(nomatch h),Nat.zero_le _⟩ rfl
 have s6:=HM hw (c2.map iT) ((d2:Int) == 1)
 rw[Nat.add_comm ((d4+2) % 4) 1]at s6
 rw[List.range_eq_range']at s6
 refine⟨1+(d4+2) % 4,(d2:Int) == 1,c',ks,DS (by assumption),hc',ok,hl.trans (Nat.zero_add _),λh=>by rw[h]at hl;exact FC hl,?_⟩
 exact bI 1 2 7 s1 (bI 2 3 7 s2 (bI 3 6 7 (Ke _ _ _) (iH s6 e) rfl rfl) rfl rfl) rfl rfl
end
section
noncomputable def HZ(w:T)(b:Bool)(hs ps cs:List T):Loc:=[("wide",.f w),("simple",.f (.bool b)),("heads",.f (.list hs)),("pieces",.f (.list ps)),("columns",.f (.list cs))]
noncomputable def KM(w:T)(b:Bool)(hs ps cs:List T)(sk:V):Loc:=[("wide",.f w),("simple",.f (.bool b)),("heads",.f (.list hs)),("pieces",.f (.list ps)),("columns",.f (.list cs)),("stacked",sk)]
noncomputable def wc(w:T)(b:Bool)(hs ps cs:List T)(sk:T)(bf:V):Loc:=[("wide",.f w),("simple",.f (.bool b)),("heads",.f (.list hs)),("pieces",.f (.list ps)),("columns",.f (.list cs)),("stacked",.f sk),("before",bf)]
noncomputable def LM(w:T)(b:Bool)(hs ps cs:List T)(sk:T)(bf sty:V):Loc:=[("wide",.f w),("simple",.f (.bool b)),("heads",.f (.list hs)),("pieces",.f (.list ps)),("columns",.f (.list cs)),("stacked",.f sk),("before",bf),("stay",sty)]
noncomputable def KB(w:T)(b:Bool)(hs ps cs:List T)(sk:T)(bf sty:V):Loc:=[("wide",.f w),("simple",.f (.bool b)),("heads",.f (.list hs)),("pieces",.f (.list ps)),("columns",.f (.list cs)),("stacked",.f sk),("before",bf),("stay",sty),("notes",.ol []),("said",.f .none)]
section
variable(w:T)(b:Bool)(hs ps cs:List T)
theorem Id:exs (Et ZL) (ae 123) (sg (ak 123) 7 8) (HZ w b hs ps cs)=(ww hs).bind λa=>some (.nx (KM w b hs ps cs (.ov (.str "list") (.list cs) (.dict ["names"] [.vec (.str "character") a.frz .none])))):=by rw[ac false];rfl'
theorem I8(k i a:T):exs (Et ZL) (ae 123) (sg (ak 123) 8 9) (KM w b hs ps cs (.ov k i a))=(rn Z65 120 [.vec k i a]).bind λr=>some (.nx (wc w b hs ps cs (.vec k i a) r)):=by rw[ac false];rfl'
noncomputable abbrev rp:Expr:=c9 (bF 123 9)
theorem G4(sk:T)(bf:V):exs (Et ZL) (ae 123) (sg (ak 123) 9 10) (wc w b hs ps cs sk bf)=bd (evComp (Eu ZL) (ae 123) (aH rp) "at" (az rp) (aN rp) (a9 rp) (wc w b hs ps cs sk bf)) λus ZZ=>some (.nx (ZZ.set "stay" (.ol us))):=by rw[ac false];rfl'
theorem Fw(sk:T)(bf:V):(aG (ae 123) (a9 rp) "at" && (((wc w b hs ps cs sk bf).lookup ("at":Str)).isNone && ay (wc w b hs ps cs sk bf) (a9 rp) "at"))=true:=by rfl'
theorem F3(sk:T)(bf:V)(t:T):ifsGo (Eu ZL) (kdC (a9 rp) (ae 123)) (aN rp) (wi (wc w b hs ps cs sk bf) "at" t)=(aw (.list ps) t).bind λu=>(aw u (.int 0)).bind λs=>(aT .Lt s (.int 4)).bind λd=>some (d,wi (wc w b hs ps cs sk bf) "at" t):=by rw[wk false];rfl'
theorem DW(sk:T)(bf:V)(t:T):evT (Eu ZL) (kdC (a9 rp) (ae 123)) (aH rp) (wi (wc w b hs ps cs sk bf) "at" t)=some (t,wi (wc w b hs ps cs sk bf) "at" t):=by rfl'
theorem Ga(sk:T)(bf sty:V):exs (Et ZL) (ae 123) (sg (ak 123) 10 12) (LM w b hs ps cs sk bf sty)=some (.nx (KB w b hs ps cs sk bf sty)):=by rfl'
end
noncomputable def HR(n:Nat):Prop:=∀b hs ps cs sk bf,evIt (Eu ZL) (ae 123) (az rp) (wc (.int (n:Int)) b hs ps cs sk bf)=some ((List.range n).map iT,wc (.int (n:Int)) b hs ps cs sk bf)
theorem Ep{n:Nat}(h:n < 5):HR n:=by
 match n,h with
 |0,_=>exact λ_ _ _ _ _ _=>by rfl'
 |1,_=>exact λ_ _ _ _ _ _=>by rfl'
 |2,_=>exact λ_ _ _ _ _ _=>by rfl'
 |3,_=>exact λ_ _ _ _ _ _=>by rfl'
 |4,_=>exact λ_ _ _ _ _ _=>by rfl'
 |n+5,h=>omega
noncomputable def Lw(b:Bool)(ks:List Col):Loc:=KB (.int (ks.length:Int)) b (ks.map hdT) (ks.map a8) (ks.map aU) (aR ks) (.ol [.str "list",.list (ks.map cY),.list [.list [.str "names",eV "character" (ks.map hdT)]]]) (.ol ((kp ks).map iT))
theorem Bp{ks:List Col}(ok:ColsOk ks)(b:Bool):exs (Et ZL) (ae 123) (sg (ak 123) 7 12) (HZ (.int (ks.length:Int)) b (ks.map hdT) (ks.map a8) (ks.map aU))=some (.nx (Lw b ks)):=by
 have hl:=ok.l
 have s7:=Id (.int (ks.length:Int)) b (ks.map hdT) (ks.map a8) (ks.map aU)
 rw[f7 (by rw[List.length_map];(apply ah;assumption;rfl)),aa]at s7
 have s8:=I8 (.int (ks.length:Int)) b (ks.map hdT) (ks.map a8) (ks.map aU) (.str "list") (.list (ks.map aU)) (.dict ["names"] [.vec (.str "character") (.list (ks.map hdT)) .none])
 rw[show rn Z65 120 [.vec (.str "list") (.list (ks.map aU)) (.dict ["names"] [.vec (.str "character") (.list (ks.map hdT)) .none])]=_ from dw ok,aa]at s8
 let pb:T→Bool:=λt=>match t with
  |.int i=>stay (ks.getD i.toNat be)
  |_=>false
 have hcm:=aA pb id (Ep (n:=ks.length) (by(apply mQ;assumption;rfl)) b (ks.map hdT) (ks.map a8) (ks.map aU) (aR ks) (.ol [.str "list",.list (ks.map cY),.list [.list [.str "names",eV "character" (ks.map hdT)]]])) (Fw _ _ _ _ _ _ _) (by simp;(apply ah;assumption;rfl)) (ifs:=aN rp) (elt:=aH rp) (λt ht=>by
  obtain⟨p,hp,rfl⟩:=List.mem_map.mp ht
  have hp:=List.mem_range.mp hp
  refine(F3 _ _ _ _ _ _ _ _).trans ?_
  have e:ks.getD p be=ks[p]:=by rw[List.getD_eq_getElem?_getD,List.getElem?_eq_getElem hp];rfl
  have hu:aw (.list (ks.map a8)) (iT p)=some (a8 (ks.getD p be)):=bC (by rw[List.getElem?_map,List.getElem?_eq_getElem hp,e];rfl) (by(apply bT;assumption;assumption;rfl))
  have hs:aw (a8 (ks.getD p be)) (.int 0)=some (.int ((ks.getD p be).s:Int)):=uT (i:=0) rfl (by omega)
  have h5:=(ok.c (ks.getD p be) (by rw[e];exact List.getElem_mem _)).s
  rw[hu,aa,hs,aa,ql,aa]
  show some (decide (((ks.getD p be).s:Int) < 4),_)=some (stay (ks.getD (p:Int).toNat be),_)
  rw[Int.toNat_natCast]
  have:decide (((ks.getD p be).s:Int) < 4)=stay (ks.getD p be):=by unfold stay;exact decide_eq_decide.mpr (D5 (by assumption))
  rw[this];rfl) (λt ht _=>DW _ _ _ _ _ _ _ _)
 have hfm:∀qs:List Nat,bY pb id (qs.map iT)=(qs.filter λp=>stay (ks.getD p be)).map iT:=λqs=>by
  induction qs with
  |nil=>rfl
  |cons p qs ih=>
   rw[List.map_cons,List.filter_cons]
   show(match pb (iT p)with|true=>_|false=>_)=_
   have hpb:pb (iT p)=stay (ks.getD p be):=by show stay (ks.getD (p:Int).toNat be)=_;rw[Int.toNat_natCast]
   rw[hpb]
   cases stay (ks.getD p be)with
   |true=>exact congrArg (iT p ::·) ih
   |false=>exact ih
 rw[hfm]at hcm
 have s9:=G4 (.int (ks.length:Int)) b (ks.map hdT) (ks.map a8) (ks.map aU) (aR ks) (.ol [.str "list",.list (ks.map cY),.list [.list [.str "names",eV "character" (ks.map hdT)]]])
 rw[hcm,aD]at s9
 exact bI 7 8 12 s7 (bI 8 9 12 s8 (bI 9 10 12 s9 (Ga _ _ _ _ _ _ _ _) rfl rfl) rfl rfl) rfl rfl
end
section
noncomputable def nR:T:=.str "at least one vector element is required"
noncomputable def zO(sk bf:T)(sty:List T)(sd:T):Loc:=[("stacked",.f sk),("before",.f bf),("stay",.f (.list sty)),("said",.f sd)]
theorem EN(sk bf:T)(sty:List T)(sd:T):exs (Et ZL) (ae 123) (sg (ak 123) 13 14) (zO sk bf sty sd)=(rn Z65 120 [sk]).bind λa=>(aT .NotEq a.frz bf).bind λd=>bif d then some (.rt (.f (.bool false)) (zO sk bf sty sd))else some (.nx (zO sk bf sty sd)):=by rw[ac false];rfl'
theorem EB(sk bf:T):exs (Et ZL) (ae 123) (sg (ak 123) 14 15) (zO sk bf [] nR)=some (.rt (.f (.bool true)) (zO sk bf [] nR)):=by rfl'
theorem cZ{k:Str}{its:List T}(hk:PyData.strOk k=true)(h:∀t∈its,Lay 1 t):Lay 3 (eV k its):=by
 refine .list 2 λt ht=>?_
 simp only[List.mem_cons,List.not_mem_nil,or_false]at ht
 rcases ht with rfl|rfl|rfl
 ·exact .str _ hk
 ·exact .list 1 λt ht=>(h t ht)
 ·exact .list 1 λt ht=>nomatch ht
theorem tC:∀r,PyData.strOk (kR r)=true
 |0=>by decide +kernel
 |1=>by decide +kernel
 |2=>by decide +kernel
 |n+3=>by show PyData.strOk "character"=true;decide +kernel
theorem qd(cs:List Col):∀t∈cs.map hdT,Lay 1 t:=λt ht=>by
 obtain⟨c,_,rfl⟩:=List.mem_map.mp ht
 exact .str _ (k5 _)
theorem pX{lv:List T}(h:∀t∈lv,Lay 1 t):Lay 6 (gu lv):=by
 refine .list 5 λt ht=>?_
 simp only[List.mem_cons,List.not_mem_nil,or_false]at ht
 rcases ht with rfl|rfl
 ·refine .list 4 λt ht=>?_
  simp only[List.mem_cons,List.not_mem_nil,or_false]at ht
  rcases ht with rfl|rfl
  ·exact .str _ (by decide +kernel)
  ·exact(cZ (by decide +kernel) λt ht=>by rw[List.mem_singleton.mp ht];exact .str _ (by decide +kernel)).up (by decide)
 ·refine .list 4 λt ht=>?_
  simp only[List.mem_cons,List.not_mem_nil,or_false]at ht
  rcases ht with rfl|rfl
  ·exact .str _ (by decide +kernel)
  ·exact(cZ (by decide +kernel) h).up (by decide)
theorem kz{cs lv:List T}(h:∀t∈cs,Lay 1 t)(h2:∀t∈lv,Lay 1 t):Lay 8 (Gh cs lv):=by
 refine .list 7 λt ht=>?_
 simp only[List.mem_cons,List.not_mem_nil,or_false]at ht
 rcases ht with rfl|rfl|rfl
 ·exact .str _ (by decide +kernel)
 ·exact .list 6 λt ht=>(h t ht).up (by decide)
 ·exact(pX h2).up (by decide)
theorem r8{c:Col}(ok:ColOk c):Lay 8 (cY c):=by
 have hi:∀t∈bX c,Lay 1 t:=λt ht=>by
  obtain⟨o,ho,rfl⟩:=List.mem_map.mp ht
  exact ei (ok.o o ho)
 unfold cY
 split
 ·refine kz (λt ht=>?_) λt ht=>?_
  ·obtain⟨o,ho,rfl⟩:=List.mem_map.mp ht
   have:∀o,o < 8→Lay 1 (zr o):=by apply dG<;>first|exact .none _|exact .int _ _
   exact this o (ok.o o ho)
  ·simp only[List.mem_cons,List.not_mem_nil,or_false]at ht
   rcases ht with rfl|rfl<;>exact .str _ (by decide +kernel)
 ·exact(cZ (tC _) hi).up (by decide)
theorem j0{cs:List Col}(ok:ColsOk cs):Lay 16 (bQ cs):=by
 refine .list 15 λt ht=>?_
 simp only[List.mem_cons,List.not_mem_nil,or_false]at ht
 rcases ht with rfl|rfl|rfl
 ·exact .str _ (by decide +kernel)
 ·refine .list 14 λt ht=>?_
  obtain⟨c,hc,rfl⟩:=List.mem_map.mp ht
  exact(r8 (ok.c c hc)).up (by decide)
 ·refine .list 14 λt ht=>?_
  rw[List.mem_singleton.mp ht]
  refine .list 13 λt ht=>?_
  simp only[List.mem_cons,List.not_mem_nil,or_false]at ht
  rcases ht with rfl|rfl
  ·exact .str _ (by decide +kernel)
  ·exact(cZ (by decide +kernel) (qd cs)).up (by decide)
theorem A2{ks:List Col}(ok:ColsOk ks):exs (Et ZL) (ae 123) (sg (ak 123) 13 15) (zO (aR ks) (bQ ks) [] nR)=some (.rt (.f (.bool true)) (zO (aR ks) (bQ ks) [] nR)):=by
 have s:=EN (aR ks) (bQ ks) [] nR
 rw[dw ok,aa,show(V.ol [T.str "list",.list (ks.map cY),.list [.list [.str "names",eV "character" (ks.map hdT)]]]).frz=bQ ks from rfl,(cK (j0 ok) (by decide)).2,aa,cond_false]at s
 exact bI 13 14 15 s (EB _ _) rfl rfl
noncomputable def jH(w:T)(b:Bool)(hs ps:List T)(sk bf:T)(sty nts:List T)(got:T):Loc:=[("wide",.f w),("simple",.f (.bool b)),("heads",.f (.list hs)),("pieces",.f (.list ps)),("stacked",.f sk),("before",.f bf),("stay",.f (.list sty)),("notes",.f (.list nts)),("said",.f .none),("got",.f got)]
section
variable(w:T)(b:Bool)(hs ps:List T)(sk bf:T)(sty nts:List T)(got:T)
theorem Dt:exs (Et ZL) (ae 123) (sg (ak 123) 13 14) (jH w b hs ps sk bf sty nts got)=(rn Z65 120 [sk]).bind λa=>(aT .NotEq a.frz bf).bind λd=>bif d then some (.rt (.f (.bool false)) (jH w b hs ps sk bf sty nts got))else some (.nx (jH w b hs ps sk bf sty nts got)):=by rw[ac false];rfl'
theorem Fo(t:T):exs (Et ZL) (ae 123) (sg (ak 123) 14 15) (jH w b hs ps sk bf (t ::sty) nts got)=(c7 (t ::sty).length).bind λn=>(aT .Eq n.frz (.int 0)).bind λd=>bif d then(bif d then some (.rt (.f (.bool false)) (jH w b hs ps sk bf (t ::sty) nts got))else some (.nx (jH w b hs ps sk bf (t ::sty) nts got)))else some (.nx (jH w b hs ps sk bf (t ::sty) nts got)):=by rw[ac false];rfl'
theorem Dn:exs (Et ZL) (ae 123) (sg (ak 123) 15 16) (jH w b hs ps sk bf sty nts got)=(c7 sty.length).bind λn=>(aT .Eq n.frz w).bind λd=>bif d then(aT .NotEq (.list nts) (.list [])).bind λd=>bif d then some (.rt (.f (.bool false)) (jH w b hs ps sk bf sty nts got))else some (.nx (jH w b hs ps sk bf sty nts got))else(aT .NotEq (.list nts) (.list [xa])).bind λd=>bif d then some (.rt (.f (.bool false)) (jH w b hs ps sk bf sty nts got))else some (.nx (jH w b hs ps sk bf sty nts got)):=by rw[ac false];rfl'
end
theorem Ct:aT .NotEq (.list []) (.list [])=some false:=by rfl'
theorem Be:aT .NotEq (.list [xa]) (.list [xa])=some false:=by rfl'
theorem Ao{ks:List Col}(ok:ColsOk ks)(h0:st ks≠[])(b:Bool)(got:T):exs (Et ZL) (ae 123) (sg (ak 123) 13 16) (jH (.int (ks.length:Int)) b (ks.map hdT) (ks.map a8) (aR ks) (bQ ks) ((kp ks).map iT) (bA ks) got) =
  some (.nx (jH (.int (ks.length:Int)) b (ks.map hdT) (ks.map a8) (aR ks) (bQ ks) ((kp ks).map iT) (bA ks) got)):=by
 have hn:=ok.l
 have hkl:=g4 ks
 have hst:(st ks).length≤ks.length:=List.length_filter_le stay ks
 have s13:=Dt (.int (ks.length:Int)) b (ks.map hdT) (ks.map a8) (aR ks) (bQ ks) ((kp ks).map iT) (bA ks) got
 rw[dw ok,aa,show(V.ol [T.str "list",.list (ks.map cY),.list [.list [.str "names",eV "character" (ks.map hdT)]]]).frz=bQ ks from rfl,(cK (j0 ok) (by decide)).2,aa,cond_false]at s13
 have s14:exs (Et ZL) (ae 123) (sg (ak 123) 14 15) (jH (.int (ks.length:Int)) b (ks.map hdT) (ks.map a8) (aR ks) (bQ ks) ((kp ks).map iT) (bA ks) got)=some (.nx (jH (.int (ks.length:Int)) b (ks.map hdT) (ks.map a8) (aR ks) (bQ ks) ((kp ks).map iT) (bA ks) got)):=by
  cases hk:(kp ks).map iT with
  |nil=>
   have:(kp ks).length=0:=by rw[←List.length_map (f:=iT),hk];rfl
   rw[hkl]at this
   exact absurd (List.eq_nil_of_length_eq_zero this) h0
  |cons t sty=>
   rw[Fo,bi (by rw[←hk,List.length_map];(apply fV;assumption;assumption;assumption;rfl)),aa,show(V.f (T.int ((t ::sty).length:Int))).frz=T.int ((t ::sty).length:Int)from rfl,cB,aa,beq_eq_false_iff_ne.mpr (by simp;(apply nH)),cond_false]
 have s15:=Dn (.int (ks.length:Int)) b (ks.map hdT) (ks.map a8) (aR ks) (bQ ks) ((kp ks).map iT) (bA ks) got
 rw[List.length_map,bi (by(apply fV;assumption;assumption;assumption;rfl)),aa,show(V.f (T.int ((kp ks).length:Int))).frz=T.int ((kp ks).length:Int)from rfl,cB,aa]at s15
 have s15':exs (Et ZL) (ae 123) (sg (ak 123) 15 16) (jH (.int (ks.length:Int)) b (ks.map hdT) (ks.map a8) (aR ks) (bQ ks) ((kp ks).map iT) (bA ks) got)=some (.nx (jH (.int (ks.length:Int)) b (ks.map hdT) (ks.map a8) (aR ks) (bQ ks) ((kp ks).map iT) (bA ks) got)):=by
  rw[s15]
  unfold bA
  by_cases h:(st ks).length < ks.length
  ·rw[beq_eq_false_iff_ne.mpr (DP (hkl ▸ Nat.ne_of_lt h)),cond_false,if_pos h,Be];rfl
  ·rw[beq_iff_eq.mpr (Fv (hkl.trans (Nat.le_antisymm hst (Nat.le_of_not_lt h)))),cond_true,if_neg h,Ct];rfl
 exact bI 13 14 16 s13 (bI 14 15 16 s14 s15' rfl rfl) rfl rfl
end
section
noncomputable def H0(b:Bool)(hs ps sty:List T)(got:T):Loc:=[("simple",.f (.bool b)),("heads",.f (.list hs)),("pieces",.f (.list ps)),("stay",.f (.list sty)),("got",.f got)]
noncomputable def qZ:List T:=[.str "logical",.str "integer",.str "double",.str "character"]
noncomputable def yu(b:Bool)(hs ps sty:List T)(got:T)(r:V):Loc:=[("simple",.f (.bool b)),("heads",.f (.list hs)),("pieces",.f (.list ps)),("stay",.f (.list sty)),("got",.f got),("ranking",r)]
noncomputable def MX(b:Bool)(hs ps sty:List T)(got:T)(br:V):Loc:=[("simple",.f (.bool b)),("heads",.f (.list hs)),("pieces",.f (.list ps)),("stay",.f (.list sty)),("got",.f got),("ranking",.f (.list qZ)),("broad",br)]
noncomputable def Jv:Expr→Expr
 |.Subscript _ i _=>i
 |e=>e
noncomputable abbrev sG:Expr:=cW 0 (Jv (c9 (bF 123 17)))
section
variable(b:Bool)(hs ps sty:List T)(got:T)
theorem FJ:exs (Et ZL) (ae 123) (sg (ak 123) 16 17) (H0 b hs ps sty got)=some (.nx (yu b hs ps sty got (.ol qZ))):=by rfl'
theorem Eh:exs (Et ZL) (ae 123) (sg (ak 123) 17 18) (yu b hs ps sty got (.ol qZ))=bd (evComp (Ev.at ZL 100000 36) (ae 123) (aH sG) "at" (az sG) (aN sG) (a9 sG) (yu b hs ps sty got (.f (.list qZ)))) λus ZZ=>(f8 "max" [.list us]).bind λa=>(aw (.list qZ) a.frz).bind λu=>some (.nx (ZZ.set "broad" (.f u))):=by rw[ac false];rfl'
theorem Ck:evIt (Ev.at ZL 100000 36) (ae 123) (az sG) (yu b hs ps sty got (.f (.list qZ)))=some (sty,yu b hs ps sty got (.f (.list qZ))):=by rfl'
theorem Ak:(aG (ae 123) (a9 sG) "at" && (((yu b hs ps sty got (.f (.list qZ))).lookup ("at":Str)).isNone && ay (yu b hs ps sty got (.f (.list qZ))) (a9 sG) "at"))=true:=by rfl'
noncomputable def Ko:List T:=[.int 1,.int 2,.int 3,.int 0]
theorem CF(t:T):evT (Ev.at ZL 100000 36) (kdC (a9 sG) (ae 123)) (aH sG) (wi (yu b hs ps sty got (.f (.list qZ))) "at" t)=(aw (.list ps) t).bind λu=>(aw u (.int 0)).bind λs=>(aw (.list Ko) s).bind λr=>some (r,wi (yu b hs ps sty got (.f (.list qZ))) "at" t):=by rw[bS false];rfl'
end
theorem FU(ts:List T):f8 "max" [.list ts]=(j2 ts).bind λis=>match is with
 |[]=>none
 |a ::as=>some (.f (.int (iz as a))):=by rfl'
theorem lA:∀l:List Nat,j2 (l.map iT)=some (l.map λi:Nat=>(i:Int))
 |[]=>rfl
 |x ::l=>by
  show(some (x:Int)).bind (λy=>(j2 (l.map iT)).map (y ::·))=_
  rw[lA l];rfl
theorem hU:∀(l:List Nat)(a:Nat),iz (l.map λi:Nat=>(i:Int)) (a:Int)=((l.foldl max a:Nat):Int)
 |[],a=>rfl
 |x ::l,a=>by
  show iz (l.map λi:Nat=>(i:Int)) (if(x:Int) > (a:Int)then(x:Int)else(a:Int))=((l.foldl max (max a x):Nat):Int)
  by_cases h:a < x
  ·rw[if_pos (by(apply zB;assumption)),hU l x,Nat.max_eq_right (by(apply BD;assumption))]
  ·rw[if_neg (by omega),hU l a,Nat.max_eq_left (by(apply Bt;assumption))]
theorem Ax{l:List Nat}(h:l≠[]):f8 "max" [.list (l.map iT)]=some (.f (.int (mxr l))):=by
 rw[FU,lA,aa]
 cases l with
 |nil=>exact absurd rfl h
 |cons a l=>
  show some (V.f (.int (iz (l.map λi:Nat=>(i:Int)) (a:Int))))=_
  rw[hU]
  unfold mxr
  rw[List.foldl_cons,Nat.zero_max]
noncomputable def E6(R:Nat):Prop:=aw (.list qZ) (.int (R:Int))=some (.str (kR R))
theorem Cn{R:Nat}(h:R < 4):E6 R:=by
 apply aS ?_ ?_ ?_ ?_ h
 ·unfold E6;rfl'
 ·unfold E6;rfl'
 ·unfold E6;rfl'
 ·unfold E6;rfl'
noncomputable def Ek(s:Nat):Prop:=aw (.list Ko) (.int (s:Int))=some (iT (rk s))
theorem Dw{s:Nat}(h:s < 4):Ek s:=by
 apply aS ?_ ?_ ?_ ?_ h
 ·unfold Ek;rfl'
 ·unfold Ek;rfl'
 ·unfold Ek;rfl'
 ·unfold Ek;rfl'
theorem qC{ks:List Col}{p:Nat}(h:p∈kp ks)(hn:ks.length≤4):aw (.list (ks.map a8)) (iT p)=some (a8 (ks.getD p be))∧aw (a8 (ks.getD p be)) (.int 0)=some (iT (ks.getD p be).s)∧aw (.list (ks.map hdT)) (iT p)=some (.str (cb (ks.getD p be).h)):=by
 obtain⟨h1,h2,h3,h4⟩:=cQ h
 exact⟨bC (by rw[List.getElem?_map,h2];rfl) (by(apply bT;assumption;assumption;rfl)),uT (i:=0) rfl (by omega),bC (by rw[List.getElem?_map,h2];rfl) (by(apply bT;assumption;assumption;rfl))⟩
theorem AM{ks:List Col}(ok:ColsOk ks)(h0:st ks≠[])(b:Bool)(got:T):exs (Et ZL) (ae 123) (sg (ak 123) 16 18) (H0 b (ks.map hdT) (ks.map a8) ((kp ks).map iT) got)=some (.nx (MX b (ks.map hdT) (ks.map a8) ((kp ks).map iT) got (.f (.str (kR (aK (st ks))))))):=by
 have hn:=ok.l
 have hkl:=g4 ks
 have hst:(st ks).length≤ks.length:=List.length_filter_le stay ks
 have hcm:=aA (λ_=>true) (λt=>match t with|.int i=>iT (rk (ks.getD i.toNat be).s)|_=>.none) (Ck b (ks.map hdT) (ks.map a8) ((kp ks).map iT) got) (Ak _ _ _ _ _) (by rw[List.length_map];(apply fV;assumption;assumption;assumption;rfl)) (ifs:=aN sG) (elt:=aH sG) (λt _=>by show ifsGo _ _ (aN sG) _=_;rfl') (λt ht _=>by
  obtain⟨p,hp,rfl⟩:=List.mem_map.mp ht
  obtain⟨e1,e2,_⟩:=qC hp hn
  obtain⟨h1,h2,h3,h4⟩:=cQ hp
  refine(CF _ _ _ _ _ _).trans ?_
  rw[e1,aa,e2,aa,show aw (.list Ko) (iT (ks.getD p be).s)=_ from Dw (gL (ok.c _ h3) h4),aa]
  show some (iT (rk (ks.getD p be).s),_)=some (iT (rk (ks.getD (p:Int).toNat be).s),_)
  rw[Int.toNat_natCast];rfl)
 rw[av,List.map_map]at hcm
 have hm:(kp ks).map ((λt=>match t with|T.int i=>iT (rk (ks.getD i.toNat be).s)|_=>.none) ∘ iT)=((st ks).map λc=>rk c.s).map iT:=by
  rw[←iR,List.map_map,List.map_map]
  refine List.map_congr_left λp _=>?_
  show iT (rk (ks.getD (p:Int).toNat be).s)=_
  rw[Int.toNat_natCast];rfl
 rw[hm]at hcm
 have s17:=Eh b (ks.map hdT) (ks.map a8) ((kp ks).map iT) got
 rw[hcm,aD,Ax (by simpa using h0),aa,show aw (.list qZ) (V.f (T.int (mxr ((st ks).map λc=>rk c.s):Int))).frz=_ from Cn (d0 (st ks)),aa]at s17
 exact bI 16 17 18 (FJ _ _ _ _ _) s17 rfl rfl
end
section
noncomputable def HX(b:Bool)(hs ps sty:List T)(got br:T):Loc:=[("simple",.f (.bool b)),("heads",.f (.list hs)),("pieces",.f (.list ps)),("stay",.f (.list sty)),("got",.f got),("broad",.f br)]
noncomputable def xl(b:Bool)(hs ps sty:List T)(got br:T)(lv:V):Loc:=[("simple",.f (.bool b)),("heads",.f (.list hs)),("pieces",.f (.list ps)),("stay",.f (.list sty)),("got",.f got),("broad",.f br),("levels",lv)]
noncomputable def KD(b:Bool)(hs ps sty:List T)(got br:T)(lv:T)(bs:V):Loc:=[("simple",.f (.bool b)),("heads",.f (.list hs)),("pieces",.f (.list ps)),("stay",.f (.list sty)),("got",.f got),("broad",.f br),("levels",.f lv),("beside",bs)]
noncomputable def IC(lv:List T):List T:=[.list [.str "class",eV "character" [.str "factor"]],.list [.str "levels",eV "character" lv]]
section
variable(b:Bool)(hs ps sty:List T)(got br:T)
theorem D0:exs (Et ZL) (ae 123) (sg (ak 123) 18 19) (HX b hs ps sty got br)=some (.nx (xl b hs ps sty got br (.ol []))):=by rfl'
theorem Ef:exs (Et ZL) (ae 123) (sg (ak 123) 19 20) (xl b hs ps sty got br (.ol []))=(aC (Eu ZL) (ae 123) "at" (aq (bF 123 19)) 7 sty (xl b hs ps sty got br (.ol []))).bind li:=by rfl'
theorem JK(lv:List T)(p:Int):exs (Eu ZL) (ae 123) (aq (bF 123 19)) ((xl b hs ps sty got br (.ol lv)).set "at" (.f (.int p)))=(aw (.list hs) (.int p)).bind λu=>(aT .NotIn u (.list lv)).bind λd=>bif d then((aw (.list hs) (.int p)).bind λv=>(aV "append" lv v).bind λlv2=>some (.nx (wi (xl b hs ps sty got br (.ol lv2)) "at" (.int p))))else some (.nx (wi (xl b hs ps sty got br (.ol lv)) "at" (.int p))):=by rw[ac false];rfl'
theorem EK(lv:List T):exs (Et ZL) (ae 123) (sg (ak 123) 20 21) (xl b hs ps sty got br (.ol lv))=some (.nx (KD b hs ps sty got br (.list lv) (.ol (IC lv)))):=by rfl'
end
theorem Av{ks:List Col}(ok:ColsOk ks)(b:Bool)(got br:T):exs (Et ZL) (ae 123) (sg (ak 123) 18 21) (HX b (ks.map hdT) (ks.map a8) ((kp ks).map iT) got br)=some (.nx (KD b (ks.map hdT) (ks.map a8) ((kp ks).map iT) got br (.list (aj (af (st ks)))) (.ol (IC (aj (af (st ks))))))):=by
 have hn:=ok.l
 have f:=aZ iT (λpre=>xl b (ks.map hdT) (ks.map a8) ((kp ks).map iT) got br (.ol (aj (af (pre.map λp=>ks.getD p be))))) (kp ks) (E:=Eu ZL) (kd:=ae 123) (x:="at") (body:=aq (bF 123 19)) (n:=7) λpre p post e=>by
  have hk:p∈kp ks:=by rw[e];simp
  obtain⟨hp,hg,hm,hs⟩:=cQ hk
  obtain⟨_,_,e3⟩:=qC hk hn
  have okp:∀c∈pre.map (λp=>ks.getD p be),ColOk c:=λc hc=>by
   obtain⟨q,hq,rfl⟩:=List.mem_map.mp hc
   exact ok.c _ (cQ (by rw[e];simp[hq])).2.2.1
  have hpl:pre.length≤4:=by
   have h1:=congrArg List.length e
   have h2:(kp ks).length≤ks.length:=by unfold kp;have:=List.length_filter_le (λp=>stay (ks.getD p be)) (List.range ks.length);rwa [List.length_range]at this
   simp at h1;(apply kB;assumption;assumption;assumption;rfl)
  generalize hc:ks.getD p be=c at hg hm hs e3
  generalize hks:pre.map (λp=>ks.getD p be)=qs at okp
  have hql:qs.length≤4:=by rw[←hks,List.length_map];exact hpl
  have okc:=ok.c c hm
  have hlv:=eg λc hc=>(okp c hc).h
  have hll:=iJ (qs.map (·.h))
  rw[List.length_map]at hll
  have e1:(pre ++ [p]).map (λp=>ks.getD p be)=qs ++ [c]:=by rw[List.map_append,hks,List.map_singleton,hc]
  refine⟨wi (xl b (ks.map hdT) (ks.map a8) ((kp ks).map iT) got br (.ol (aj (af (qs ++ [c]))))) "at" (iT p),.inl ?_,by rw[e1];rfl⟩
  refine(JK _ _ _ _ _ _ _ _).trans ?_
  rw[show aw (.list (ks.map hdT)) (.int (p:Int))=_ from e3,aa,mJ okc.h hlv,aa]
  by_cases hin:c.h∈af qs
  ·have e2:af (qs ++ [c])=af qs:=by rw[eh,if_pos hin]
   rw[decide_eq_true hin,Bool.not_true,cond_false,e2];rfl
  ·have e2:af (qs ++ [c])=af qs ++ [c.h]:=by rw[eh,if_neg hin]
   have hg2:aV "append" (aj (af qs)) (.str (cb c.h))=some (aj (af qs ++ [c.h])):=by
    rw[bD (by unfold aj af;rw[List.length_map];(apply bz;assumption;assumption;rfl))]
    unfold aj
    rw[List.map_append];rfl
   rw[decide_eq_false hin,Bool.not_false,cond_true,aa,hg2,aa,e2];rfl
 rw[iR]at f
 exact bI 18 19 21 (D0 _ _ _ _ _ _) (bI 19 20 21 (iH (Ef _ _ _ _ _ _) f) (EK _ _ _ _ _ _ _) rfl rfl) rfl rfl
end
section
noncomputable def JS(b:Bool)(hs ps sty:List T)(got br:T)(lv:List T)(bs:T):Loc:=[("simple",.f (.bool b)),("heads",.f (.list hs)),("pieces",.f (.list ps)),("stay",.f (.list sty)),("got",.f got),("broad",.f br),("levels",.f (.list lv)),("beside",.f bs)]
noncomputable def A4(b:Bool)(hs ps sty:List T)(got br:T)(lv:List T)(bs:T)(it cd:List T):Loc:=[("simple",.f (.bool b)),("heads",.f (.list hs)),("pieces",.f (.list ps)),("stay",.f (.list sty)),("got",.f got),("broad",.f br),("levels",.f (.list lv)),("beside",.f bs),("items",.ol it),("codes",.ol cd)]
noncomputable def nI(b:Bool)(hs ps sty:List T)(got br:T)(lv:List T)(bs:T)(it cd:List T)(p:T):Loc:=[("simple",.f (.bool b)),("heads",.f (.list hs)),("pieces",.f (.list ps)),("stay",.f (.list sty)),("got",.f got),("broad",.f br),("levels",.f (.list lv)),("beside",.f bs),("items",.ol it),("codes",.ol cd),("at",.f p)]
noncomputable abbrev KJ:Stmt:=nU (aq (bF 123 23)) 0
noncomputable abbrev AV:Expr:=c9 KJ
noncomputable abbrev Dr:List Stmt:=aq KJ
section
variable(b:Bool)(hs ps sty:List T)(got br:T)(lv:List T)(bs:T)
theorem FX:exs (Et ZL) (ae 123) (sg (ak 123) 21 23) (JS b hs ps sty got br lv bs)=some (.nx (A4 b hs ps sty got br lv bs [] [])):=by rfl'
theorem Fu:exs (Et ZL) (ae 123) (sg (ak 123) 23 24) (A4 b hs ps sty got br lv bs [] [])=(aC (Eu ZL) (ae 123) "at" (aq (bF 123 23)) 10 sty (A4 b hs ps sty got br lv bs [] [])).bind li:=by rfl'
theorem EV(it cd:List T)(p:T):(A4 b hs ps sty got br lv bs it cd).set "at" (.f p)=nI b hs ps sty got br lv bs it cd p:=by rfl'
theorem Ih(it cd:List T)(p:T):exs (Eu ZL) (ae 123) (aq (bF 123 23)) (nI b hs ps sty got br lv bs it cd p)=(bd (evIt (Ev.at ZL 100000 38) (ae 123) AV (nI b hs ps sty got br lv bs it cd p)) λts ZZ=>aC (Ev.at ZL 100000 38) (ae 123) "item" Dr ZZ.length ts ZZ).bind li:=by rfl'
theorem Jm:qo AV=none:=by rfl'
theorem GJ:fL AV=false:=by rfl'
theorem I4(it cd:List T)(p:Int):evT (Ev.at ZL 100000 38) (ae 123) AV (nI b hs ps sty got br lv bs it cd (.int p))=(aw (.list ps) (.int p)).bind λu=>(rn rA 122 [u,br]).bind λa=>some (a.frz,nI b hs ps sty got br lv bs it cd (.int p)):=by rw[bS false];rfl'
theorem HA(it cd:List T)(p:Int)(t:T):exs (Ev.at ZL 100000 38) (ae 123) Dr ((nI b hs ps sty got br lv bs it cd (.int p)).set "item" (.f t))=(aV "append" it t).bind λus=>(gd (ag lv.length) (some lv)).bind λls=>(aw (.list hs) (.int p)).bind λu=>u.str?.bind λy=>(dM ls y).bind λj=>(ez .Add j (.int 1)).bind λa=>(aV "append" cd a.frz).bind λvs=>some (.nx (wi (nI b hs ps sty got br lv bs us vs (.int p)) "item" t)):=by rw[ac false];rfl'
end
theorem uu{lv:List Nat}{h:Nat}(h3:h < 3)(hlv:∀x∈lv,x < 3)(hm:h∈lv)(hll:lv.length≤1000)(b:Bool)(hs ps sty:List T)(got br bs:T){p:Nat}(hp:aw (.list hs) (.int (p:Int))=some (.str (cb h)))(ts:List T):∀(it cd:List T),it.length+ts.length≤1000→cd.length+ts.length≤1000→aC (Ev.at ZL 100000 38) (ae 123) "item" Dr 11 ts (nI b hs ps sty got br (aj lv) bs it cd (.int p)) =
   some (.nx (nI b hs ps sty got br (aj lv) bs (it ++ ts) (cd ++ List.replicate ts.length (ab (jE lv h))) (.int p))):=by
 induction ts with
 |nil=>
  intro it cd _ _
  rw[List.append_nil];show some (O.nx (nI b hs ps sty got br (aj lv) bs it cd (.int p)))=some (O.nx (nI b hs ps sty got br (aj lv) bs it (cd ++ []) (.int p)));rw[List.append_nil]
 |cons t ts ih=>
  intro it cd l1 l2
  rw[List.length_cons]at l1 l2
  show((exs (Ev.at ZL 100000 38) (ae 123) Dr ((nI b hs ps sty got br (aj lv) bs it cd (.int p)).set "item" (.f t))).bind λo=>again 11 o (aC (Ev.at ZL 100000 38) (ae 123) "item" Dr 11 ts))=_
  rw[HA,bD (by(apply nJ;assumption;rfl)),aa,b9 (kc (by unfold aj;rw[List.length_map];(apply ah;assumption;rfl))),aa,hp,aa]
  show(((some (cb h)).bind λy=>(dM (aj lv) y).bind _).bind _)=_
  rw[aa,uj h3 hlv hm,aa]
  show(((some (V.f (ab (jE lv h)))).bind _).bind _)=_
  rw[aa,bD (by(apply nJ;assumption;rfl)),aa,aa]
  show aC _ _ _ _ _ _ (nI b hs ps sty got br (aj lv) bs (it ++ [t]) (cd ++ [ab (jE lv h)]) (.int p))=_
  rw[ih _ _ (by rw[List.length_append,List.length_singleton];(apply kZ;assumption)) (by rw[List.length_append,List.length_singleton];(apply kZ;assumption)),List.append_assoc,List.append_assoc,List.length_cons,List.replicate_succ];rfl
theorem E9{σ ZZ:Loc}{ts:List T}(h:evT (Ev.at ZL 100000 38) (ae 123) AV σ=some (.list ts,ZZ)):evIt (Ev.at ZL 100000 38) (ae 123) AV σ=some (ts,ZZ):=by
 unfold evIt
 rw[Jm]
 dsimp only
 unfold gT
 rw[GJ,h,aD];rfl
theorem AK{ks:List Col}(ok:ColsOk ks)(b:Bool)(got bs:T):exs (Et ZL) (ae 123) (sg (ak 123) 21 24) (JS b (ks.map hdT) (ks.map a8) ((kp ks).map iT) got (.str (kR (aK (st ks)))) (aj (af (st ks))) bs) =
  some (.nx (A4 b (ks.map hdT) (ks.map a8) ((kp ks).map iT) got (.str (kR (aK (st ks)))) (aj (af (st ks))) bs (its ks) ((cds ks).map ab))):=by
 have hn:=ok.l
 have okS:=eH ok
 have hlvA:=eg λc hc=>(okS.1.c c hc).h
 have hllA:=fS λc hc=>(okS.1.c c hc).h
 have f:=aZ iT (λpre=>A4 b (ks.map hdT) (ks.map a8) ((kp ks).map iT) got (.str (kR (aK (st ks)))) (aj (af (st ks))) bs ((pre.map λp=>ks.getD p be).flatMap (aL (aK (st ks)))) ((ce (af (st ks)) (pre.map λp=>ks.getD p be)).map ab)) (kp ks) (E:=Eu ZL) (kd:=ae 123) (x:="at") (body:=aq (bF 123 23)) (n:=10) λpre p post e=>by
  have hk:p∈kp ks:=by rw[e];simp
  obtain⟨hp,hg,hm,hs⟩:=cQ hk
  obtain⟨e1,_,e3⟩:=qC hk hn
  have okp:∀c∈pre.map (λp=>ks.getD p be),ColOk c:=λc hc=>by
   obtain⟨q,hq,rfl⟩:=List.mem_map.mp hc
   exact ok.c _ (cQ (by rw[e];simp[hq])).2.2.1
  have hpl:pre.length≤4:=by
   have h1:=congrArg List.length e
   have h2:(kp ks).length≤ks.length:=by unfold kp;have:=List.length_filter_le (λp=>stay (ks.getD p be)) (List.range ks.length);rwa [List.length_range]at this
   simp at h1;(apply kB;assumption;assumption;assumption;rfl)
  generalize hc:ks.getD p be=c at hg hm hs e1 e3
  generalize hks:pre.map (λp=>ks.getD p be)=qs at okp
  have hql:qs.length≤4:=by rw[←hks,List.length_map];exact hpl
  have okc:=ok.c c hm
  have hcS:c∈st ks:=List.mem_filter.mpr ⟨hm,hs⟩
  have e2:(pre ++ [p]).map (λp=>ks.getD p be)=qs ++ [c]:=by rw[List.map_append,hks,List.map_singleton,hc]
  have hev:=I4 b (ks.map hdT) (ks.map a8) ((kp ks).map iT) got (.str (kR (aK (st ks)))) (aj (af (st ks))) bs (qs.flatMap (aL (aK (st ks)))) ((ce (af (st ks)) qs).map ab) p
  rw[show aw (.list (ks.map a8)) (.int (p:Int))=_ from e1,aa,handed okc (gL okc hs) (d0 _) (n8 hcS),aa]at hev
  have hfl:=iy (R:=aK (st ks)) okp
  have hcl:=eY (lv:=af (st ks)) okp
  have hhl:=bV (R:=aK (st ks)) (c:=c)
  have h3:=okc.l
  have hin:=uu okc.h hlvA (fi hcS) (by(apply ah;assumption;rfl)) b (ks.map hdT) (ks.map a8) ((kp ks).map iT) got (.str (kR (aK (st ks)))) bs (p:=p) e3 (aL (aK (st ks)) c) (qs.flatMap (aL (aK (st ks)))) ((ce (af (st ks)) qs).map ab) (by(apply n5;assumption;assumption;assumption;assumption;rfl)) (by rw[List.length_map];(apply n5;assumption;assumption;assumption;assumption;rfl))
  have he:exs (Eu ZL) (ae 123) (aq (bF 123 23)) ((A4 b (ks.map hdT) (ks.map a8) ((kp ks).map iT) got (.str (kR (aK (st ks)))) (aj (af (st ks))) bs (qs.flatMap (aL (aK (st ks)))) ((ce (af (st ks)) qs).map ab)).set "at" (.f (iT p))) =
    some (.nx (nI b (ks.map hdT) (ks.map a8) ((kp ks).map iT) got (.str (kR (aK (st ks)))) (aj (af (st ks))) bs (qs.flatMap (aL (aK (st ks))) ++ aL (aK (st ks)) c) ((ce (af (st ks)) qs).map ab ++ List.replicate (aL (aK (st ks)) c).length (ab (jE (af (st ks)) c.h))) (.int p))):=by
   rw[EV,Ih,show evIt (Ev.at ZL 100000 38) (ae 123) AV (nI b (ks.map hdT) (ks.map a8) ((kp ks).map iT) got (.str (kR (aK (st ks)))) (aj (af (st ks))) bs (qs.flatMap (aL (aK (st ks)))) ((ce (af (st ks)) qs).map ab) (iT p))=_ from E9 (ts:=aL (aK (st ks)) c) hev,aD]
   show(aC _ _ _ _ 11 _ _).bind li=_
   rw[hin];rfl
  refine⟨_,.inl he,?_⟩
  rw[e2,fY,List.flatMap_append,List.flatMap_cons,List.flatMap_nil,List.append_nil,List.map_append,List.map_replicate,hhl];rfl
 rw[iR]at f
 exact bI 21 23 24 (FX _ _ _ _ _ _ _ _) (iH (Fu _ _ _ _ _ _ _ _) f) rfl rfl
end
section
noncomputable def CR(b:Bool)(hs ps sty:List T)(got br:T)(lv:List T)(bs:T)(it cd:List T):Loc:=[("simple",.f (.bool b)),("heads",.f (.list hs)),("pieces",.f (.list ps)),("stay",.f (.list sty)),("got",.f got),("broad",.f br),("levels",.f (.list lv)),("beside",.f bs),("items",.f (.list it)),("codes",.f (.list cd))]
noncomputable def Ku(b:Bool)(hs ps sty:List T)(got br:T)(lv:List T)(bs:T)(it cd:List T)(wf:V):Loc:=[("simple",.f (.bool b)),("heads",.f (.list hs)),("pieces",.f (.list ps)),("stay",.f (.list sty)),("got",.f got),("broad",.f br),("levels",.f (.list lv)),("beside",.f bs),("items",.f (.list it)),("codes",.f (.list cd)),("whole_frame",wf)]
section
variable(b:Bool)(hs ps sty:List T)(got br:T)(lv:List T)(bs:T)(it cd:List T)
theorem EI:exs (Et ZL) (ae 123) (sg (ak 123) 24 25) (CR b hs ps sty got br lv bs it cd)=(rn Z65 120 [got]).bind λa=>(c7 it.length).bind λn=>(rn Z66 121 [.list [.list [br,.list it,.list []],.list [.str "integer",.list cd,bs]],.list [.str "values",.str "ind"],n.frz]).bind λs=>(aT .NotEq a.frz s.frz).bind λd=>bif d then some (.rt (.f (.bool false)) (CR b hs ps sty got br lv bs it cd))else some (.nx (CR b hs ps sty got br lv bs it cd)):=by rw[ac false];rfl'
theorem CZ:exs (Et ZL) (ae 123) (sg (ak 123) 25 26) (CR b hs ps sty got br lv bs it cd)=(rn Z65 120 [got]).bind λa=>some (.nx (Ku b hs ps sty got br lv bs it cd a)):=by rw[ac false];rfl'
end
theorem pD{s o:Nat}(h:o < 8):Lay 1 (Gu s o):=by
 revert o
 match s with
 |0=>apply dG<;>first|exact .none _|exact .str _ (by decide +kernel)
 |1=>apply dG<;>first|exact .none _|exact .str _ (by decide +kernel)
 |2=>apply dG<;>first|exact .none _|exact .str _ (by decide +kernel)
 |n+3=>apply dG<;>first|exact .none _|exact .str _ (by decide +kernel)
theorem tK{R s o:Nat}(h:o < 8):Lay 2 (lx R s o):=by
 by_cases h7:o=7
 ·subst h7;exact .none _
 have e:lx R s o=(match R with
  |3=>Gu s o
  |2=>match s with
   |1=>Gp o
   |s=>.tup [oh s o,.int 1]
  |_=>oh s o):=by
  unfold lx
  split
  ·exact absurd rfl h7
  ·rfl
 rw[e]
 split
 ·exact(pD h).up (by decide)
 ·split
  ·have:Lay 1 (oh 1 o):=ei h
   have e2:oh 1 o=Gp o:=by
    unfold oh
    split
    ·exact absurd rfl h7
    ·rfl
   rw[←e2]
   exact this.up (by decide)
  ·refine .tup 1 λt ht=>?_
   simp only[List.mem_cons,List.not_mem_nil,or_false]at ht
   rcases ht with rfl|rfl
   ·exact ei h
   ·exact .int _ _
 ·exact(ei h).up (by decide)
theorem gR{ks:List Col}(ok:ColsOk ks):∀t∈its ks,Lay 2 t:=λt ht=>by
 obtain⟨c,hc,ht⟩:=List.mem_flatMap.mp ht
 obtain⟨o,ho,rfl⟩:=List.mem_map.mp ht
 exact tK (((eH ok).1.c c hc).o o ho)
theorem kU(lv:List Nat)(R:Nat):∀l:List Col,(l.flatMap (aL R)).length=(ce lv l).length
 |[]=>rfl
 |c ::l=>by
  have:=kU lv R l
  unfold ce at this ⊢
  rw[List.flatMap_cons,List.flatMap_cons,List.length_append,List.length_append,bV,List.length_replicate,this]
theorem dz(ks:List Col):(its ks).length=(cds ks).length:=kU _ _ _
theorem mF{k:Str}{its:List T}(hk:PyData.strOk k=true)(h:∀t∈its,Lay 2 t):Lay 4 (eV k its):=by
 refine .list 3 λt ht=>?_
 simp only[List.mem_cons,List.not_mem_nil,or_false]at ht
 rcases ht with rfl|rfl|rfl
 ·exact .str _ hk
 ·exact .list 2 λt ht=>(h t ht)
 ·exact .list 2 λt ht=>nomatch ht
theorem dj(l:List Nat):∀t∈l.map ab,Lay 1 t:=λt ht=>by
 obtain⟨c,_,rfl⟩:=List.mem_map.mp ht
 exact .int _ _
theorem fk(l:List Nat):∀t∈aj l,Lay 1 t:=λt ht=>by
 obtain⟨c,_,rfl⟩:=List.mem_map.mp ht
 exact .str _ (k5 _)
theorem jW{a b h1 h2:T}{n:Nat}(la:Lay 40 a)(lb:Lay 40 b)(l1:Lay 1 h1)(l2:Lay 1 h2):Lay 44 (.list (zD (.list [a,b]) (.list [h1,h2]) n)):=by
 refine .list 43 λt ht=>?_
 simp only[zD,List.mem_cons,List.not_mem_nil,or_false]at ht
 rcases ht with rfl|rfl|rfl
 ·exact .str _ (by decide +kernel)
 ·refine .list 42 λt ht=>?_
  simp only[List.mem_cons,List.not_mem_nil,or_false]at ht
  rcases ht with rfl|rfl
  ·exact la.up (by decide)
  ·exact lb.up (by decide)
 ·refine .list 42 λt ht=>?_
  simp only[List.mem_cons,List.not_mem_nil,or_false]at ht
  rcases ht with rfl|rfl|rfl
  ·refine .list 41 λt ht=>?_
   simp only[List.mem_cons,List.not_mem_nil,or_false]at ht
   rcases ht with rfl|rfl
   ·exact .str _ (by decide +kernel)
   ·exact(cZ (by decide +kernel) λt ht=>by rw[List.mem_singleton.mp ht];exact .str _ (by decide +kernel)).up (by decide)
  ·refine .list 41 λt ht=>?_
   simp only[List.mem_cons,List.not_mem_nil,or_false]at ht
   rcases ht with rfl|rfl
   ·exact .str _ (by decide +kernel)
   ·refine(cZ (k:="character") (its:=[h1,h2]) (by decide +kernel) λt ht=>?_).up (by decide)
    simp only[List.mem_cons,List.not_mem_nil,or_false]at ht
    rcases ht with rfl|rfl
    ·exact l1
    ·exact l2
  ·refine .list 41 λt ht=>?_
   simp only[List.mem_cons,List.not_mem_nil,or_false]at ht
   rcases ht with rfl|rfl
   ·exact .str _ (by decide +kernel)
   ·exact(cZ (by decide +kernel) (dj _)).up (by decide)
theorem ir{k1 i1 a1 k2 i2 a2:T}{h1 h2:T}{n:Nat}{u v:V}(hu:rn Z64 120 [.vec k1 i1 a1]=some u)(hv:rn Z64 120 [.vec k2 i2 a2]=some v)(hn:n≤12):rn Z65 120 [zw [.vec k1 i1 a1,.vec k2 i2 a2] [h1,h2] (vt 1 ((List.range n).map ab))]=some (.ol (zD (.list [u.frz,v.frz]) (.list [h1,h2]) n)):=by
 rw[Ia,hu,aa,hv,aa,ba (t64 3 (by decide) _) (by simp),aa,ba (t64 3 (by decide) _) (by simp),aa,ba (t64 1 (by decide) _) (by rw[List.length_map,List.length_range];(apply ah;assumption;rfl)),aa];rfl
end
section
noncomputable def ZL2:Orc:={ZL with st:=λx=>!(x == "seen"||x == "simple")}
noncomputable def gW(ks:List Col):List T:=zD (.list [eV (kR (aK (st ks))) (its ks),Gh ((cds ks).map ab) (aj (af (st ks)))]) (.list [.str "values",.str "ind"]) (cds ks).length
theorem fe{ks:List Col}(ok:ColsOk ks):rn Z65 120 [bw ks]=some (.ol (gW ks)):=by
 have hc:=fQ ok
 have hl:=fS λc hc=>((eH ok).1.c c hc).h
 have hi:=dz ks
 exact ir (ba (t64 (aK (st ks)) (d0 _) _) (by(apply iI;assumption;assumption;rfl))) (il (by rw[List.length_map];(apply ah;assumption;rfl)) (by unfold aj;rw[List.length_map];(apply ah;assumption;rfl))) hc
theorem kh{ks:List Col}(ok:ColsOk ks):Lay 44 (.list (gW ks)):=
 jW ((mF (tC _) (gR ok)).up (by decide)) ((kz (dj _) (fk _)).up (by decide)) (.str _ (by decide +kernel)) (.str _ (by decide +kernel))
theorem Cw{ks:List Col}(ok:ColsOk ks)(b:Bool)(hs ps sty:List T):exs (Et ZL) (ae 123) (sg (ak 123) 24 26) (CR b hs ps sty (bw ks) (.str (kR (aK (st ks)))) (aj (af (st ks))) (gu (aj (af (st ks)))) (its ks) ((cds ks).map ab)) =
  some (.nx (Ku b hs ps sty (bw ks) (.str (kR (aK (st ks)))) (aj (af (st ks))) (gu (aj (af (st ks)))) (its ks) ((cds ks).map ab) (.ol (gW ks)))):=by
 have hc:=fQ ok
 have hi:=dz ks
 have s24:=EI b hs ps sty (bw ks) (.str (kR (aK (st ks)))) (aj (af (st ks))) (gu (aj (af (st ks)))) (its ks) ((cds ks).map ab)
 rw[fe ok,aa,bi (by(apply iI;assumption;assumption;rfl)),aa,hi,show(V.f (T.int ((cds ks).length:Int))).frz=T.int ((cds ks).length:Int)from rfl,
  show rn Z66 121 [.list [.list [.str (kR (aK (st ks))),.list (its ks),.list []],.list [.str "integer",.list ((cds ks).map ab),gu (aj (af (st ks)))]],.list [.str "values",.str "ind"],.int ((cds ks).length:Int)]=_ from zP _ hc _ _,aa]at s24
 rw[show aT .NotEq (V.ol (gW ks)).frz (V.ol (zD (.list [.list [.str (kR (aK (st ks))),.list (its ks),.list []],.list [.str "integer",.list ((cds ks).map ab),gu (aj (af (st ks)))]]) (.list [.str "values",.str "ind"]) (cds ks).length)).frz=_ from(cK (kh ok) (by decide)).2,aa,cond_false]at s24
 have s25:=CZ b hs ps sty (bw ks) (.str (kR (aK (st ks)))) (aj (af (st ks))) (gu (aj (af (st ks)))) (its ks) ((cds ks).map ab)
 rw[fe ok,aa]at s25
 exact bI 24 25 26 s24 s25 rfl rfl
noncomputable def oe:T:=.str "no rows to aggregate"
noncomputable def zM(got:T)(wf it sn:List T)(sd:T):Loc:=[("got",.f got),("items",.f (.list it)),("whole_frame",.f (.list wf)),("seen",.f (.list sn)),("apart",.f .none),("said",.f sd)]
theorem FO(got:T)(wf it sn:List T)(sd:T):exs (Et ZL2) (ae 123) (sg (ak 123) 31 32) (zM got wf it sn sd)=(rn Z65 120 [got]).bind λa=>(aT .NotEq a.frz (.list wf)).bind λd=>bif d then some (.rt (.f (.bool false)) (zM got wf it sn sd))else some (.nx (zM got wf it sn sd)):=by rw[ac false];rfl'
theorem EL(got:T)(wf:List T):exs (Et ZL2) (ae 123) (sg (ak 123) 32 33) (zM got wf [] [] oe)=some (.rt (.f (.bool true)) (zM got wf [] [] oe)):=by rfl'
theorem Bh{ks:List Col}(ok:ColsOk ks):exs (Et ZL2) (ae 123) (sg (ak 123) 31 33) (zM (bw ks) (gW ks) [] [] oe)=some (.rt (.f (.bool true)) (zM (bw ks) (gW ks) [] [] oe)):=by
 have s:=FO (bw ks) (gW ks) [] [] oe
 rw[fe ok,aa,show aT .NotEq (V.ol (gW ks)).frz (.list (gW ks))=_ from(cK (kh ok) (by decide)).2,aa,cond_false]at s
 exact bI 31 32 33 s (EL _ _) rfl rfl
noncomputable def v6(b:Bool)(hs ps sty:List T)(got br:T)(lv:List T)(bs:T)(it wf sn:List T)(ap:T):Loc:=[("simple",.f (.bool b)),("heads",.f (.list hs)),("pieces",.f (.list ps)),("stay",.f (.list sty)),("got",.f got),("broad",.f br),("levels",.f (.list lv)),("beside",.f bs),("items",.f (.list it)),("whole_frame",.f (.list wf)),("seen",.f (.list sn)),("apart",.f ap)]
section
variable(b:Bool)(hs ps sty:List T)(got br:T)(lv:List T)(bs:T)(it wf sn:List T)
theorem EG(ap:T):exs (Et ZL2) (ae 123) (sg (ak 123) 31 32) (v6 b hs ps sty got br lv bs it wf sn ap)=(rn Z65 120 [got]).bind λa=>(aT .NotEq a.frz (.list wf)).bind λd=>bif d then some (.rt (.f (.bool false)) (v6 b hs ps sty got br lv bs it wf sn ap))else some (.nx (v6 b hs ps sty got br lv bs it wf sn ap)):=by rw[ac false];rfl'
theorem Gc(k i a t:T):exs (Et ZL2) (ae 123) (sg (ak 123) 32 33) (v6 b hs ps sty got br lv bs (t ::it) wf sn (.vec k i a))=(c7 (t ::it).length).bind λn=>(aT .Eq n.frz (.int 0)).bind λd=>bif d then(bif d then none else some (.nx (v6 b hs ps sty got br lv bs (t ::it) wf sn (.vec k i a))))else some (.nx (v6 b hs ps sty got br lv bs (t ::it) wf sn (.vec k i a))):=by rw[ac false];rfl'
end
end
section
noncomputable def HH(b:Bool)(hs ps sty:List T)(br:T)(lv:List T)(bs:T)(sn:List T)(ap:T):Loc:=[("simple",.f (.bool b)),("heads",.f (.list hs)),("pieces",.f (.list ps)),("stay",.f (.list sty)),("broad",.f br),("levels",.f (.list lv)),("beside",.f bs),("seen",.f (.list sn)),("apart",.f ap)]
noncomputable def ve(b:Bool)(hs ps sty:List T)(br:T)(lv:List T)(bs:T)(sn:List T)(ap:T)(sh pr:List T):Loc:=[("simple",.f (.bool b)),("heads",.f (.list hs)),("pieces",.f (.list ps)),("stay",.f (.list sty)),("broad",.f br),("levels",.f (.list lv)),("beside",.f bs),("seen",.f (.list sn)),("apart",.f ap),("shares",.ol sh),("present",.ol pr)]
noncomputable def oB(b:Bool)(hs ps sty:List T)(br:T)(lv:List T)(bs:T)(sn:List T)(ap:T)(sh pr:List T)(c:Int)(mn:V):Loc:=[("simple",.f (.bool b)),("heads",.f (.list hs)),("pieces",.f (.list ps)),("stay",.f (.list sty)),("broad",.f br),("levels",.f (.list lv)),("beside",.f bs),("seen",.f (.list sn)),("apart",.f ap),("shares",.ol sh),("present",.ol pr),("code",.f (.int c)),("mine",mn)]
noncomputable abbrev qK:List Stmt:=aq (bF 123 35)
section
variable(b:Bool)(hs ps sty:List T)(br:T)(lv:List T)(bs:T)(sn:List T)(ap:T)(sh pr:List T)
theorem F6:exs (Et ZL2) (ae 123) (sg (ak 123) 33 35) (HH b hs ps sty br lv bs sn ap)=some (.nx (ve b hs ps sty br lv bs sn ap [] [])):=by rfl'
noncomputable def qc(lv:List T):Prop:=∀b hs ps sty br bs sn ap,exs (Et ZL2) (ae 123) (sg (ak 123) 35 36) (ve b hs ps sty br lv bs sn ap [] [])=(aC (Eu ZL2) (ae 123) "code" qK 11 ((List.range lv.length).map ab) (ve b hs ps sty br lv bs sn ap [] [])).bind li
theorem CD(x:T):qc [x]:=λ_ _ _ _ _ _ _ _=>by rfl'
theorem Bx(x y:T):qc [x,y]:=λ_ _ _ _ _ _ _ _=>by rfl'
theorem AI(x y z:T):qc [x,y,z]:=λ_ _ _ _ _ _ _ _=>by rfl'
theorem FY:∀lv:List T,lv≠[]→lv.length≤3→qc lv:=λ_=>ig CD Bx AI
theorem E2(c:Int):exs (Eu ZL2) (ae 123) (sg qK 0 1) ((ve b hs ps sty br lv bs sn ap sh pr).set "code" (.f (.int c)))=some (.nx (oB b hs ps sty br lv bs sn ap sh pr c (.ol []))):=by rfl'
theorem EJ(c:Int):exs (Eu ZL2) (ae 123) (sg qK 1 2) (oB b hs ps sty br lv bs sn ap sh pr c (.ol []))=(aC (Ev.at ZL2 100000 38) (ae 123) "at" (aq (nU qK 1)) 13 sty (oB b hs ps sty br lv bs sn ap sh pr c (.ol []))).bind li:=by rfl'
theorem Ho(c p:Int)(mn:List T):exs (Ev.at ZL2 100000 38) (ae 123) (aq (nU qK 1)) ((oB b hs ps sty br lv bs sn ap sh pr c (.ol mn)).set "at" (.f (.int p)))=(aw (.list hs) (.int p)).bind λu=>(aw (.list lv) (.int (c - 1))).bind λv=>(aT .Eq u v).bind λd=>bif d then((aw (.list ps) (.int p)).bind λx=>(rn rA 122 [x,br]).bind λa=>(ez .Add (.list mn) a.frz).bind λm=>some (.nx (wi (oB b hs ps sty br lv bs sn ap sh pr c m) "at" (.int p))))else some (.nx (wi (oB b hs ps sty br lv bs sn ap sh pr c (.ol mn)) "at" (.int p))):=by rw[ac false];rfl'
theorem DB(c:Int)(mn:List T):exs (Eu ZL2) (ae 123) (sg qK 2 3) (oB b hs ps sty br lv bs sn ap sh pr c (.ol mn))=(c7 mn.length).bind λn=>(aT .Gt n.frz (.int 0)).bind λd=>bif d then((aV "append" pr (.int c)).bind λpr2=>(aV "append" sh (.list [br,.list mn,.list []])).bind λsh2=>some (.nx (oB b hs ps sty br lv bs sn ap sh2 pr2 c (.f (.list mn)))))else some (.nx (oB b hs ps sty br lv bs sn ap sh pr c (.f (.list mn)))):=by rw[ac false];rfl'
theorem F4(E:Ev)(σ:Loc):exs E (ae 123) (qK.drop 3) σ=some (.nx σ):=by rfl'
end
theorem yq(a b:Int):aT .Gt (.int a) (.int b)=some (decide (b < a)):=by rfl'
noncomputable def D8(a b:Nat):Prop:=aT .Eq (.str (cb a)) (.str (cb b))=some (decide (a=b))
theorem EM{a b:Nat}(ha:a < 3)(hb:b < 3):D8 a b:=by
 rcases three ha with rfl|rfl|rfl<;>rcases three hb with rfl|rfl|rfl<;>(unfold D8;rfl')
noncomputable def dk(R l:Nat)(qs:List Col):List T:=qs.flatMap λc=>if c.h=l then aL R c else[]
theorem mS{a b:List T}(h:a.length+b.length≤1000):ez .Add (.list a) (.list b)=some (.ol (a ++ b)):=by
 show gd (ag (a.length+b.length)) (some (V.ol (a ++ b)))=_
 rw[b9 (kc (by(apply ah;assumption;rfl)))]
theorem fT{R l:Nat}:∀{qs:List Col},(∀c∈qs,ColOk c)→(dk R l qs).length≤3 * qs.length
 |[],_=>Nat.le_refl _
 |c ::qs,ok=>by
  have:=fT (R:=R) (l:=l) λc hc=>ok c (.tail _ hc)
  have h2:=(ok c (.head _)).l
  unfold dk at this ⊢
  rw[List.flatMap_cons,List.length_append,List.length_cons]
  split
  ·rw[bV];(apply nZ;assumption;assumption)
  ·exact AG this
theorem wK{ks:List Col}(ok:ColsOk ks)(b:Bool)(bs:T)(sn:List T)(ap:T)(sh pr:List T){d:Nat}(hd:d < (af (st ks)).length):aC (Ev.at ZL2 100000 38) (ae 123) "at" (aq (nU qK 1)) 13 ((kp ks).map iT) (oB b (ks.map hdT) (ks.map a8) ((kp ks).map iT) (.str (kR (aK (st ks)))) (aj (af (st ks))) bs sn ap sh pr ((d:Int)+1) (.ol [])) =
  some (.nx (oB b (ks.map hdT) (ks.map a8) ((kp ks).map iT) (.str (kR (aK (st ks)))) (aj (af (st ks))) bs sn ap sh pr ((d:Int)+1) (.ol (dk (aK (st ks)) ((af (st ks)).getD d 0) (st ks))))):=by
 have hn:=ok.l
 have okS:=eH ok
 have hlvA:=eg λc hc=>(okS.1.c c hc).h
 have hllA:=fS λc hc=>(okS.1.c c hc).h
 have hl3:(af (st ks)).getD d 0 < 3:=by rw[List.getD_eq_getElem?_getD,List.getElem?_eq_getElem hd];exact hlvA _ (List.getElem_mem _)
 have hlat:aw (.list (aj (af (st ks)))) (.int ((d:Int)+1 - 1))=some (.str (cb ((af (st ks)).getD d 0))):=by
  rw[Int.add_sub_cancel (d:Int) 1]
  refine bC ?_ (by(apply bT;assumption;assumption;rfl))
  unfold aj
  rw[List.getElem?_map,List.getElem?_eq_getElem hd,List.getD_eq_getElem?_getD,List.getElem?_eq_getElem hd];rfl
 have f:=aZ iT (λpre=>oB b (ks.map hdT) (ks.map a8) ((kp ks).map iT) (.str (kR (aK (st ks)))) (aj (af (st ks))) bs sn ap sh pr ((d:Int)+1) (.ol (dk (aK (st ks)) ((af (st ks)).getD d 0) (pre.map λp=>ks.getD p be)))) (kp ks) (E:=Ev.at ZL2 100000 38) (kd:=ae 123) (x:="at") (body:=aq (nU qK 1)) (n:=13) λpre p post e=>by
  have hk:p∈kp ks:=by rw[e];simp
  obtain⟨hp,hg,hm,hs⟩:=cQ hk
  obtain⟨e1,_,e3⟩:=qC hk hn
  have okp:∀c∈pre.map (λp=>ks.getD p be),ColOk c:=λc hc=>by
   obtain⟨q,hq,rfl⟩:=List.mem_map.mp hc
   exact ok.c _ (cQ (by rw[e];simp[hq])).2.2.1
  have hpl:pre.length≤4:=by
   have h1:=congrArg List.length e
   have h2:(kp ks).length≤ks.length:=by unfold kp;have:=List.length_filter_le (λp=>stay (ks.getD p be)) (List.range ks.length);rwa [List.length_range]at this
   simp at h1;(apply kB;assumption;assumption;assumption;rfl)
  generalize hc:ks.getD p be=c at hg hm hs e1 e3
  generalize hks:pre.map (λp=>ks.getD p be)=qs at okp
  have hql:qs.length≤4:=by rw[←hks,List.length_map];exact hpl
  have okc:=ok.c c hm
  have hcS:c∈st ks:=List.mem_filter.mpr ⟨hm,hs⟩
  have e2:(pre ++ [p]).map (λp=>ks.getD p be)=qs ++ [c]:=by rw[List.map_append,hks,List.map_singleton,hc]
  have ht:=Ho b (ks.map hdT) (ks.map a8) ((kp ks).map iT) (.str (kR (aK (st ks)))) (aj (af (st ks))) bs sn ap sh pr ((d:Int)+1) p (dk (aK (st ks)) ((af (st ks)).getD d 0) qs)
  rw[show aw (.list (ks.map hdT)) (.int (p:Int))=_ from e3,aa,hlat,aa,EM okc.h hl3,aa]at ht
  have hml:=fT (R:=aK (st ks)) (l:=(af (st ks)).getD d 0) okp
  have hhl:=bV (R:=aK (st ks)) (c:=c)
  have h3:=okc.l
  refine⟨wi (oB b (ks.map hdT) (ks.map a8) ((kp ks).map iT) (.str (kR (aK (st ks)))) (aj (af (st ks))) bs sn ap sh pr ((d:Int)+1) (.ol (dk (aK (st ks)) ((af (st ks)).getD d 0) (qs ++ [c])))) "at" (.int p),.inl (ht.trans ?_),by rw[e2];rfl⟩
  have em:dk (aK (st ks)) ((af (st ks)).getD d 0) (qs ++ [c])=dk (aK (st ks)) ((af (st ks)).getD d 0) qs ++ (if c.h=(af (st ks)).getD d 0 then aL (aK (st ks)) c else[]):=by
   unfold dk
   rw[List.flatMap_append,List.flatMap_cons,List.flatMap_nil,List.append_nil]
  rw[em]
  by_cases hh:c.h=(af (st ks)).getD d 0
  ·rw[decide_eq_true hh,cond_true,if_pos hh,show aw (.list (ks.map a8)) (.int (p:Int))=_ from e1,aa,handed okc (gL okc hs) (d0 _) (n8 hcS),aa,show(V.ol (aL (aK (st ks)) c)).frz=T.list (aL (aK (st ks)) c)from rfl,mS (by(apply n5;assumption;assumption;assumption;assumption;rfl)),aa]
  ·rw[decide_eq_false hh,cond_false,if_neg hh,List.append_nil]
 rw[iR]at f
 exact f
end
section
theorem oF{i:List T}{l:List Nat}(h:i.length=l.length)(x:T)(c d:Nat):aE (i ++ [x]) (l ++ [c]) d=aE i l d ++ (if c=d then[x]else[]):=by
 unfold aE
 rw[dg,List.map_append]
 congr 1
 ·refine List.map_congr_left λp hp=>?_
  have hp:=(cU.mp hp).1
  rw[List.getD_eq_getElem?_getD,List.getD_eq_getElem?_getD,List.getElem?_append_left (by rw[h];assumption)]
 ·split
  ·rw[List.map_singleton,List.getD_eq_getElem?_getD,List.getElem?_append_right (Nat.le_of_eq h),h,Nat.sub_self];rfl
  ·rfl
theorem mB{i:List T}{l:List Nat}(h:i.length=l.length)(c d:Nat):∀hs:List T,aE (i ++ hs) (l ++ List.replicate hs.length c) d=aE i l d ++ (if c=d then hs else[]):=by
 refine cN ?_ λhs x ih=>?_
 ·rw[List.append_nil,List.length_nil,List.replicate_zero,List.append_nil]
  split<;>rw[List.append_nil]
 ·rw[List.length_append,List.length_singleton,List.replicate_succ',←List.append_assoc,←List.append_assoc,oF (by rw[List.length_append,List.length_append,List.length_replicate,h]),ih]
  split
  ·rw[List.append_assoc]
  ·rw[List.append_nil,List.append_nil]
theorem qE{lv:List Nat}(hnd:lv.Nodup){R d:Nat}(hd:d < lv.length):∀qs:List Col,(∀c∈qs,c.h∈lv)→dk R (lv.getD d 0) qs=aE (qs.flatMap (aL R)) (ce lv qs) d:=by
 refine cN (λ_=>rfl) λqs c ih hm=>?_
 have ih:=ih λx hx=>hm x (List.mem_append_left _ hx)
 have hc:=hm c (by simp)
 rw[fY,List.flatMap_append,List.flatMap_cons,List.flatMap_nil,List.append_nil,←bV (R:=R),mB (kU lv R qs),←ih]
 unfold dk
 rw[List.flatMap_append,List.flatMap_cons,List.flatMap_nil,List.append_nil]
 congr 1
 have hiff:c.h=lv.getD d 0↔jE lv c.h=d:=by
  obtain⟨_,h2,h3⟩:=dQ hc
  have e1:lv.getD d 0=lv[d]:=by rw[List.getD_eq_getElem?_getD,List.getElem?_eq_getElem hd];rfl
  have e2:lv.getD (jE lv c.h) 0=lv[jE lv c.h]:=by rw[List.getD_eq_getElem?_getD,List.getElem?_eq_getElem h2];rfl
  rw[e2]at h3
  constructor
  ·intro h
   rw[e1,←h3]at h
   exact(List.getElem_inj hnd).mp h
  ·intro h
   subst h
   rw[e1,h3]
 by_cases h:c.h=lv.getD d 0
 ·rw[if_pos h,if_pos (hiff.mp h)]
 ·rw[if_neg h,if_neg λe=>h (hiff.mpr e)]
theorem qn{lv:List Nat}{qs:List Col}(hm:∀c∈qs,c.h∈lv):∀x∈ce lv qs,x < lv.length:=λx hx=>by
 obtain⟨c,hc,hx⟩:=List.mem_flatMap.mp hx
 rw[(List.mem_replicate.mp hx).2]
 exact(dQ (hm c hc)).2.1
noncomputable def nz(R:Nat)(lv:List Nat)(qs:List Col)(d:Nat):Bool:=!(dk R (lv.getD d 0) qs).isEmpty
theorem FT{n:Nat}(hn:n≤3){p:Nat→Bool}(h:∀d,n≤d→p d=false):[0,1,2].filter p=(List.range n).filter p:=by
 match n,hn with
 |0,_=>simp[List.filter,h 0 (by omega),h 1 (by omega),h 2 (by omega)]
 |1,_=>simp[List.filter,List.range_succ,h 1 (by omega),h 2 (by omega)]
 |2,_=>simp[List.filter,List.range_succ,h 2 (by omega)]
 |3,_=>rfl
 |n+4,h=>omega
theorem oW{lv:List Nat}(hnd:lv.Nodup)(hl:lv.length≤3){R:Nat}{qs:List Col}(hm:∀c∈qs,c.h∈lv):prs (fo (ce lv qs))=(List.range lv.length).filter (nz R lv qs):=by
 unfold prs
 rw[FT hl]
 ·refine List.filter_congr λd hd=>?_
  have hd:=List.mem_range.mp hd
  unfold nz
  rw[qE hnd hd qs hm]
  by_cases h:d∈ce lv qs
  ·rw[decide_eq_true ((bh _ _).mpr h)]
   cases hp:aE (qs.flatMap (aL R)) (ce lv qs) d with
   |nil=>exact absurd h (er.mp (List.map_eq_nil_iff.mp hp))
   |cons=>rfl
  ·rw[decide_eq_false λq=>h ((bh _ _).mp q)]
   unfold aE
   rw[er.mpr h];rfl
 ·intro d hd
  exact decide_eq_false λq=>absurd (qn hm d ((bh _ _).mp q)) (by omega)
end
section
noncomputable def CV(ks:List Col)(d:Nat):Bool:=nz (aK (st ks)) (af (st ks)) (st ks) d
noncomputable def uH(ks:List Col)(d:Nat):List T:=dk (aK (st ks)) ((af (st ks)).getD d 0) (st ks)
noncomputable def uP(ks:List Col)(l:List Nat):List T:=(l.filter (CV ks)).map ab
noncomputable def tl(ks:List Col)(l:List Nat):List T:=(l.filter (CV ks)).map λd=>eV (kR (aK (st ks))) (uH ks d)
theorem xu{ks:List Col}(ok:ColsOk ks)(b:Bool)(bs:T)(sn:List T)(ap:T):aC (Eu ZL2) (ae 123) "code" qK 11 ((List.range (af (st ks)).length).map ab) (ve b (ks.map hdT) (ks.map a8) ((kp ks).map iT) (.str (kR (aK (st ks)))) (aj (af (st ks))) bs sn ap [] []) =
  some (.nx (ve b (ks.map hdT) (ks.map a8) ((kp ks).map iT) (.str (kR (aK (st ks)))) (aj (af (st ks))) bs sn ap (tl ks (List.range (af (st ks)).length)) (uP ks (List.range (af (st ks)).length)))):=by
 have okS:=eH ok
 have hllA:=fS λc hc=>(okS.1.c c hc).h
 have f:=aZ ab (λpre=>ve b (ks.map hdT) (ks.map a8) ((kp ks).map iT) (.str (kR (aK (st ks)))) (aj (af (st ks))) bs sn ap (tl ks pre) (uP ks pre)) (List.range (af (st ks)).length) (E:=Eu ZL2) (kd:=ae 123) (x:="code") (body:=qK) (n:=11) λpre d post e=>by
  have hd:d < (af (st ks)).length:=List.mem_range.mp (by rw[e];simp)
  have hpl:pre.length≤3:=by
   have h1:=congrArg List.length e
   rw[List.length_range]at h1
   simp at h1;exact wo hllA h1 rfl
  have hfl:=List.length_filter_le (CV ks) pre
  have hmk:=fT (R:=aK (st ks)) (l:=(af (st ks)).getD d 0) okS.1.c
  have h4:=okS.1.l
  have s0:=E2 b (ks.map hdT) (ks.map a8) ((kp ks).map iT) (.str (kR (aK (st ks)))) (aj (af (st ks))) bs sn ap (tl ks pre) (uP ks pre) ((d:Int)+1)
  have s1:=iH (EJ b (ks.map hdT) (ks.map a8) ((kp ks).map iT) (.str (kR (aK (st ks)))) (aj (af (st ks))) bs sn ap (tl ks pre) (uP ks pre) ((d:Int)+1)) (wK ok b bs sn ap (tl ks pre) (uP ks pre) hd)
  have s2:=DB b (ks.map hdT) (ks.map a8) ((kp ks).map iT) (.str (kR (aK (st ks)))) (aj (af (st ks))) bs sn ap (tl ks pre) (uP ks pre) ((d:Int)+1) (uH ks d)
  rw[bi (show(uH ks d).length≤100000 by unfold uH;(apply j4;assumption;assumption;rfl)),aa,show(V.f (T.int ((uH ks d).length:Int))).frz=T.int ((uH ks d).length:Int)from rfl,yq,aa]at s2
  have s2':exs (Eu ZL2) (ae 123) (sg qK 2 3) (oB b (ks.map hdT) (ks.map a8) ((kp ks).map iT) (.str (kR (aK (st ks)))) (aj (af (st ks))) bs sn ap (tl ks pre) (uP ks pre) ((d:Int)+1) (.ol (uH ks d))) =
    some (.nx (oB b (ks.map hdT) (ks.map a8) ((kp ks).map iT) (.str (kR (aK (st ks)))) (aj (af (st ks))) bs sn ap (tl ks (pre ++ [d])) (uP ks (pre ++ [d])) ((d:Int)+1) (.f (.list (uH ks d))))):=by
   rw[s2]
   unfold tl uP
   rw[List.filter_append,List.map_append,List.map_append]
   have hz:CV ks d=!(uH ks d).isEmpty:=rfl
   cases hm:uH ks d with
   |nil=>
    rw[hm]at hz
    rw[List.filter_cons_of_neg (by rw[hz];simp),List.filter_nil,List.map_nil,List.append_nil,List.map_nil,List.append_nil]
    rfl
   |cons x r=>
    rw[hm]at hz
    rw[decide_eq_true (by simp),cond_true,bD (by rw[List.length_map];(apply bz;assumption;assumption;rfl)),aa,bD (by rw[List.length_map];(apply bz;assumption;assumption;rfl)),aa,List.filter_cons_of_pos (by rw[hz];rfl),List.filter_nil,List.map_singleton,List.map_singleton,hm];rfl
  refine⟨_,.inl ((ai (b:=qK) 0 1 s0 rfl).trans ((ai 1 2 s1 rfl).trans ((ai 2 3 s2' rfl).trans (F4 _ _)))),rfl⟩
 exact f
noncomputable def sC(b:Bool)(bs ap:T)(sh pr:List T):Loc:=[("simple",.f (.bool b)),("beside",.f bs),("apart",.f ap),("shares",.f (.list sh)),("present",.f (.list pr))]
noncomputable def Gg(b:Bool)(bs ap:T)(sh pr:List T)(ls:T):Loc:=[("simple",.f (.bool b)),("beside",.f bs),("apart",.f ap),("shares",.f (.list sh)),("present",.f (.list pr)),("last",.f ls)]
section
variable(b:Bool)(hs ps sty:List T)(br:T)(lv:List T)(bs:T)(sn:List T)(ap:T)(sh pr:List T)
theorem FF:exs (Et ZL2) (ae 123) (sg (ak 123) 36 37) (ve b hs ps sty br lv bs sn ap sh pr)=(aT .NotEq (.list sn) (.list sh)).bind λd=>bif d then some (.rt (.f (.bool false)) (ve b hs ps sty br lv bs sn ap sh pr))else some (.nx (ve b hs ps sty br lv bs sn ap sh pr)):=by rw[ac false];rfl'
theorem CE:exs (Et ZL2) (ae 123) (sg (ak 123) 37 38) (sC false bs ap sh pr)=some (.nx (Gg false bs ap sh pr (.list [.str "list",.list sh,.list []]))):=by rfl'
noncomputable def M0(j:Nat):Expr→Expr
 |.List es _=>es.getD j (.Constant .none 0 ⟨0,0,0,0⟩)
 |e=>e
noncomputable abbrev sO:Expr:=M0 1 (tI (c9 (bF 123 37)))
theorem Ai:exs (Et ZL2) (ae 123) (sg (ak 123) 37 38) (sC true bs ap sh pr)=bd (evComp (Ev.at ZL2 100000 36) (ae 123) (aH sO) "one" (az sO) (aN sO) (a9 sO) (sC true bs ap sh pr)) λus ZZ=>some (.nx (ZZ.set "last" (.f (.list [.str "integer",.list us,.list []])))):=by rw[ac false];rfl'
theorem AP:evIt (Ev.at ZL2 100000 36) (ae 123) (az sO) (sC true bs ap sh pr)=some (sh,sC true bs ap sh pr):=by rfl'
theorem BX:(aG (ae 123) (a9 sO) "one" && (((sC true bs ap sh pr).lookup ("one":Str)).isNone && ay (sC true bs ap sh pr) (a9 sO) "one"))=true:=by rfl'
theorem Bo(k:T)(m:List T)(a:T):evT (Ev.at ZL2 100000 36) (kdC (a9 sO) (ae 123)) (aH sO) (wi (sC true bs ap sh pr) "one" (.list [k,.list m,a]))=(c7 m.length).bind λn=>some (n.frz,wi (sC true bs ap sh pr) "one" (.list [k,.list m,a])):=by rw[bS false];rfl'
theorem FV(ls:T):exs (Et ZL2) (ae 123) (sg (ak 123) 38 39) (Gg b bs ap sh pr ls)=(rn Z65 120 [ap]).bind λa=>(c7 pr.length).bind λn=>(rn Z66 121 [.list [.list [.str "integer",.list pr,bs],ls],.list [.str "name",.str "all"],n.frz]).bind λs=>(aT .Eq a.frz s.frz).bind λd=>some (.rt (.f (.bool d)) (Gg b bs ap sh pr ls)):=by rw[ac false];rfl'
end
end
section
noncomputable def B1(ts:List T):T:=.vec (.str "list") (.list ts) .none
theorem H8(x:T):rn Z64 120 [B1 [x]]=(rn Z63 120 [x]).bind λa=>some (.ol [.str "list",.list [a.frz],.list []]):=by rw[c8 true];rfl'
theorem Jl(x y:T):rn Z64 120 [B1 [x,y]]=(rn Z63 120 [x]).bind λa=>(rn Z63 120 [y]).bind λb=>some (.ol [.str "list",.list [a.frz,b.frz],.list []]):=by rw[c8 true];rfl'
theorem J2(x y z:T):rn Z64 120 [B1 [x,y,z]]=(rn Z63 120 [x]).bind λa=>(rn Z63 120 [y]).bind λb=>(rn Z63 120 [z]).bind λc=>some (.ol [.str "list",.list [a.frz,b.frz,c.frz],.list []]):=by rw[c8 true];rfl'
noncomputable def dB(b:Bool)(R:Nat)(its:List T)(cds ps:List Nat):T:=match b with
 |true=>eV "integer" (ps.map λd=>.int ((aE its cds d).length:Int))
 |false=>.list [.str "list",.list (eG R its cds ps),.list []]
theorem rY{R:Nat}(hR:R < 4){its:List T}{cds ps:List Nat}(hn:cds.length≤12)(hp:ps≠[]∧ps.length≤3)(b:Bool):∃u,rn Z64 120 [lastT b R its cds ps]=some u∧u.frz=dB b R its cds ps:=by
 cases b with
 |true=>exact⟨_,ba (t64 1 (by decide) _) (by rw[List.length_map];omega),rfl⟩
 |false=>
  have hv:∀d,rn Z63 120 [vt R (aE its cds d)]=_:=λd=>ba (t63 R hR _) (iw hn d)
  apply ig ?_ ?_ ?_ hp.1 hp.2
  ·intro x;exact⟨_,(H8 _).trans (by rw[hv x,aa]),rfl⟩
  ·intro x y;exact⟨_,(Jl _ _).trans (by rw[hv x,aa,hv y,aa]),rfl⟩
  ·intro x y z;exact⟨_,(J2 _ _ _).trans (by rw[hv x,aa,hv y,aa,hv z,aa]),rfl⟩
noncomputable def dt(ks:List Col):List Nat:=prs (fo (cds ks))
structure PsOk(ks:List Col):Prop where
 ne:dt ks≠[]
 l:(dt ks).length≤3
 lv:Lv (af (st ks)) (cds ks)
 eq:dt ks=(List.range (af (st ks)).length).filter (CV ks)
 mn:∀d∈dt ks,uH ks d=aE (its ks) (cds ks) d
theorem km(ks:List Col):∀c∈st ks,c.h∈af (st ks):=λc hc=>fi hc
theorem Ab{ks:List Col}(ok:ColsOk ks)(h0:st ks≠[]):Lv (af (st ks)) (cds ks):=by
 refine⟨eg λc hc=>((eH ok).1.c c hc).h,fS λc hc=>((eH ok).1.c c hc).h,fw _,λe=>?_,qn (km ks),fQ ok⟩
 obtain⟨c,r,e2⟩:=List.exists_cons_of_ne_nil h0
 have:=km ks c (by rw[e2];exact .head _)
 rw[e]at this
 exact nomatch this
theorem C5{ks:List Col}(ok:ColsOk ks)(h0:st ks≠[])(hi:cds ks≠[]):PsOk ks:=by
 have L:=Ab ok h0
 have heq:dt ks=(List.range (af (st ks)).length).filter (CV ks):=oW L.d L.l (km ks)
 refine⟨λe=>?_,by unfold dt prs;exact List.length_filter_le _ _,L,heq,λd hd=>?_⟩
 ·obtain⟨c,r,e2⟩:=List.exists_cons_of_ne_nil hi
  have hc:c∈cds ks:=by rw[e2];exact .head _
  have h3:c < 3:=Nat.lt_of_lt_of_le (L.c c hc) L.l
  have:c∈dt ks:=List.mem_filter.mpr ⟨by rcases three h3 with rfl|rfl|rfl<;>simp,decide_eq_true ((bh _ _).mpr hc)⟩
  rw[e]at this
  exact nomatch this
 ·rw[heq]at hd
  exact qE L.d (List.mem_range.mp (List.mem_filter.mp hd).1) (st ks) (km ks)
theorem FA{ks:List Col}(P:PsOk ks):tl ks (List.range (af (st ks)).length)=eG (aK (st ks)) (its ks) (cds ks) (dt ks):=by
 unfold tl eG
 rw[←P.eq]
 exact List.map_congr_left λd hd=>by rw[P.mn d hd]
theorem EC{ks:List Col}(P:PsOk ks):uP ks (List.range (af (st ks)).length)=(dt ks).map ab:=by
 unfold uP
 rw[←P.eq]
theorem uU{ks:List Col}(ok:ColsOk ks)(d:Nat):∀t∈aE (its ks) (cds ks) d,Lay 2 t:=λt ht=>by
 obtain⟨p,hp,rfl⟩:=List.mem_map.mp ht
 have hp:=(cU.mp hp).1
 rw[←dz]at hp
 rw[List.getD_eq_getElem?_getD,List.getElem?_eq_getElem hp]
 exact gR ok _ (List.getElem_mem _)
theorem lY{ks:List Col}(ok:ColsOk ks):Lay 5 (.list (eG (aK (st ks)) (its ks) (cds ks) (dt ks))):=.list 4 λt ht=>by
 obtain⟨d,_,rfl⟩:=List.mem_map.mp ht
 exact mF (tC _) (uU ok d)
theorem vF{ks:List Col}(ok:ColsOk ks)(b:Bool):Lay 40 (dB b (aK (st ks)) (its ks) (cds ks) (dt ks)):=by
 cases b with
 |true=>exact(cZ (k:="integer") (by decide +kernel) λt ht=>by obtain⟨d,_,rfl⟩:=List.mem_map.mp ht;exact .int _ _).up (by decide)
 |false=>
  refine .list 39 λt ht=>?_
  simp only[List.mem_cons,List.not_mem_nil,or_false]at ht
  rcases ht with rfl|rfl|rfl
  ·exact .str _ (by decide +kernel)
  ·exact(lY ok).up (by decide)
  ·exact .list 38 λt ht=>nomatch ht
noncomputable def sz(b:Bool)(ks:List Col):T:=uG b (aK (st ks)) (its ks) (cds ks) (af (st ks)) (dt ks)
noncomputable def gf(ks:List Col):List T:=eG (aK (st ks)) (its ks) (cds ks) (dt ks)
noncomputable def J4(b:Bool)(ks:List Col):List T:=zD (.list [Gh ((dt ks).map ab) (aj (af (st ks))),dB b (aK (st ks)) (its ks) (cds ks) (dt ks)]) (.list [.str "name",.str "all"]) (dt ks).length
theorem nF{ks:List Col}(ok:ColsOk ks)(P:PsOk ks)(b:Bool):rn Z65 120 [sz b ks]=some (.ol (J4 b ks)):=by
 obtain⟨k,i,hl⟩:=mH b (aK (st ks)) (its ks) (cds ks) (dt ks)
 obtain⟨u,hu,hf⟩:=rY (d0 (st ks)) (its:=its ks) P.lv.n ⟨P.ne,P.l⟩ b
 have h3:=P.l
 have hll:=P.lv.l
 have h:=ir (h1:=.str "name") (h2:=.str "all") (il (cs:=(dt ks).map ab) (lv:=aj (af (st ks))) (by rw[List.length_map];(apply ah;assumption;rfl)) (by unfold aj;rw[List.length_map];(apply ah;assumption;rfl))) (hl ▸ hu) (n:=(dt ks).length) (by(apply ah;assumption;rfl))
 rw[←hl,hf]at h
 exact h
theorem xO{ks:List Col}(ok:ColsOk ks)(b:Bool):Lay 44 (.list (J4 b ks)):=
 jW ((kz (dj _) (fk _)).up (by decide)) (vF ok b) (.str _ (by decide +kernel)) (.str _ (by decide +kernel))
end
section
theorem B5{ks:List Col}(ok:ColsOk ks)(hi:cds ks≠[])(b:Bool)(hs ps sty:List T)(br bs:T)(lv sn:List T)(k i a:T):exs (Et ZL2) (ae 123) (sg (ak 123) 31 33) (v6 b hs ps sty (bw ks) br lv bs (its ks) (gW ks) sn (.vec k i a))=some (.nx (v6 b hs ps sty (bw ks) br lv bs (its ks) (gW ks) sn (.vec k i a))):=by
 have s31:=EG b hs ps sty (bw ks) br lv bs (its ks) (gW ks) sn (.vec k i a)
 rw[fe ok,aa,show aT .NotEq (V.ol (gW ks)).frz (.list (gW ks))=_ from(cK (kh ok) (by decide)).2,aa,cond_false]at s31
 have s32:exs (Et ZL2) (ae 123) (sg (ak 123) 32 33) (v6 b hs ps sty (bw ks) br lv bs (its ks) (gW ks) sn (.vec k i a))=some (.nx (v6 b hs ps sty (bw ks) br lv bs (its ks) (gW ks) sn (.vec k i a))):=by
  have hc:=dz ks
  have hn:=fQ ok
  cases hit:its ks with
  |nil=>
   rw[hit]at hc
   exact absurd (List.eq_nil_of_length_eq_zero hc.symm) hi
  |cons t it=>
   rw[hit]at hc
   have:=Gc b hs ps sty (bw ks) br lv bs it (gW ks) sn k i a t
   rw[bi (by(apply iI;assumption;assumption;rfl)),aa,show(V.f (T.int ((t ::it).length:Int))).frz=T.int ((t ::it).length:Int)from rfl,cB,aa,beq_eq_false_iff_ne.mpr (by simp;(apply nH)),cond_false]at this
   exact this
 exact bI 31 32 33 s31 s32 rfl rfl
theorem BI{ks:List Col}(ok:ColsOk ks)(P:PsOk ks)(b:Bool)(bs ap:T):exs (Et ZL2) (ae 123) (sg (ak 123) 33 37) (HH b (ks.map hdT) (ks.map a8) ((kp ks).map iT) (.str (kR (aK (st ks)))) (aj (af (st ks))) bs (gf ks) ap) =
  some (.nx (ve b (ks.map hdT) (ks.map a8) ((kp ks).map iT) (.str (kR (aK (st ks)))) (aj (af (st ks))) bs (gf ks) ap (gf ks) ((dt ks).map ab))):=by
 have hl:(aj (af (st ks))).length=(af (st ks)).length:=by unfold aj;rw[List.length_map]
 have s35:=FY (aj (af (st ks))) (λe=>P.lv.n0 (List.map_eq_nil_iff.mp e)) (by rw[hl];exact P.lv.l) b (ks.map hdT) (ks.map a8) ((kp ks).map iT) (.str (kR (aK (st ks)))) bs (gf ks) ap
 rw[hl]at s35
 have f:=xu ok b bs (gf ks) ap
 rw[FA P,EC P]at f
 have s36:=FF b (ks.map hdT) (ks.map a8) ((kp ks).map iT) (.str (kR (aK (st ks)))) (aj (af (st ks))) bs (gf ks) ap (gf ks) ((dt ks).map ab)
 rw[show aT .NotEq (.list (gf ks)) (.list (gf ks))=_ from(cK (lY ok) (by decide)).2,aa,cond_false]at s36
 exact bI 33 35 37 (F6 _ _ _ _ _ _ _ _ _) (bI 35 36 37 (iH s35 f) s36 rfl rfl) rfl rfl
theorem Al{ks:List Col}(ok:ColsOk ks)(P:PsOk ks)(b:Bool):∃σ',exs (Et ZL2) (ae 123) (sg (ak 123) 37 39) (sC b (gu (aj (af (st ks)))) (sz b ks) (gf ks) ((dt ks).map ab))=some (.rt (.f (.bool true)) σ'):=by
 have h3:=P.l
 have s37:exs (Et ZL2) (ae 123) (sg (ak 123) 37 38) (sC b (gu (aj (af (st ks)))) (sz b ks) (gf ks) ((dt ks).map ab))=some (.nx (Gg b (gu (aj (af (st ks)))) (sz b ks) (gf ks) ((dt ks).map ab) (dB b (aK (st ks)) (its ks) (cds ks) (dt ks)))):=by
  cases b with
  |false=>exact CE _ _ _ _
  |true=>
   have hcm:=aA (λ_=>true) (λt=>match t with|.list [_,.list m,_]=>.int (m.length:Int)|_=>.none) (AP (gu (aj (af (st ks)))) (sz true ks) (gf ks) ((dt ks).map ab)) (BX _ _ _ _) (by unfold gf eG;rw[List.length_map];(apply ah;assumption;rfl)) (ifs:=aN sO) (elt:=aH sO) (λt _=>by show ifsGo _ _ (aN sO) _=_;rfl') (λt ht _=>by
    obtain⟨d,_,rfl⟩:=List.mem_map.mp ht
    refine(Bo _ _ _ _ _ _ _).trans ?_
    have:=iw (its:=its ks) P.lv.n d
    rw[bi (by(apply ah;assumption;rfl)),aa];rfl)
   rw[av]at hcm
   have s:=Ai (gu (aj (af (st ks)))) (sz true ks) (gf ks) ((dt ks).map ab)
   rw[hcm,aD]at s
   refine s.trans ?_
   have e:(gf ks).map (λt=>match t with|.list [_,.list m,_]=>.int (m.length:Int)|_=>.none)=(dt ks).map λd=>T.int ((aE (its ks) (cds ks) d).length:Int):=by
    unfold gf eG
    rw[List.map_map]
    exact List.map_congr_left λd _=>rfl
   rw[e];rfl
 have s38:=FV b (gu (aj (af (st ks)))) (sz b ks) (gf ks) ((dt ks).map ab) (dB b (aK (st ks)) (its ks) (cds ks) (dt ks))
 rw[nF ok P b,aa,List.length_map,bi (by(apply ah;assumption;rfl)),aa,show(V.f (T.int ((dt ks).length:Int))).frz=T.int ((dt ks).length:Int)from rfl,
  show rn Z66 121 [.list [.list [.str "integer",.list ((dt ks).map ab),gu (aj (af (st ks)))],dB b (aK (st ks)) (its ks) (cds ks) (dt ks)],.list [.str "name",.str "all"],.int ((dt ks).length:Int)]=_ from zP _ (by(apply ah;assumption;rfl)) _ _,aa,
  show aT .Eq (V.ol (J4 b ks)).frz (V.ol (zD (.list [.list [.str "integer",.list ((dt ks).map ab),gu (aj (af (st ks)))],dB b (aK (st ks)) (its ks) (cds ks) (dt ks)]) (.list [.str "name",.str "all"]) (dt ks).length)).frz=_ from(cK (xO ok b) (by decide)).1,aa]at s38
 exact⟨_,bI 37 38 39 s37 s38 rfl rfl⟩
theorem yx{ks:List Col}(ok:ColsOk ks)(P:PsOk ks)(hi:cds ks≠[])(b:Bool):∃σ',exs (Et ZA) (ae 113) ((ak 113).drop 0) (Dm (gA ks) (gD ks) b [])=some (.rt (.f (sz b ks)) σ')∧σ'.lookup (ghost 0)=some (.ol (gf ks)):=
 xr (d0 _) P.lv (dz ks) hi b
end
section
open PySem.Builtin PySem.Builtin.ObjectAttr
noncomputable abbrev Ky:List Value:=[.type "Exception",.type "BaseException",.type "object"]
noncomputable abbrev Bv:List Value:=.ref 31 ::Ky
noncomputable abbrev ju(t:Addr)(dd:Option Addr):Obj:={cls:=.ref 51,dict:=dd,data:=.fields #[.ref t,.none,.none,.none,.bool false,.none]}
section
variable{w:World}{h:Heap}
theorem eX(X:(K w.params).In h):h.get? 51=some (excClassObj "Refusal" "Refusal" 51 50 [.ref 31] Bv true [] [] false none none (some (.ref 35)) none (some (.str "Refusal" 216)) (some (.str "Refusal" 224)) (some (.bool true)) "Exception.__new__"):=X 51 _ (by rfl')
noncomputable def kS(o:Obj):Array DictEntry:=match o.data with
 |.dict es _=>es
 |_=>#[]
theorem tJ{es:Array DictEntry}(hk:es.toList.all (λe=>match e.key with|.str _ _=>true|_=>false)=true):StrKeys es:=by
 intro e he
 have:=List.all_eq_true.mp hk e (Array.mem_toList_iff.mpr he)
 cases q:e.key with
 |str n t=>exact⟨n,t,rfl⟩
 |_=>rw[q]at this;cases this
theorem zZ{K:Frag}{a:Addr}{o:Obj}{es:Array DictEntry}{n:Nat}(X:K.In h)(e:K.lookup a=some o)(hd:o.data= .dict es n)(hk:es.toList.all (λe=>match e.key with|.str _ _=>true|_=>false)=true):h.Ns a (nsFind es):=
 ⟨o,es,n,X a o e,hd,tJ hk,λ_=>rfl⟩
theorem BB(X:(K w.params).In h):h.Ns 50 (nsFind (kS (o51 w.params))):=zZ X (o:=o51 w.params) (by rfl') rfl (by rfl')
theorem xc(X:(K w.params).In h):h.Ns 30 (nsFind (kS (o28 w.params))):=zZ X (o:=o28 w.params) (by rfl') rfl (by rfl')
theorem vW(P:Params):nsFind (kS (o51 P)) "__init__"=some (.ref 48):=by rfl'
theorem rK(P:Params):nsFind (kS (o28 P)) "__init__"=none:=by rfl'
theorem vq(X:(K w.params).In h):OwnTail h Ky Bv:=.own (A:=31) (X 31 o35 (by rfl')) (xc X) (rK _) .base
noncomputable def dA:FuncData:=wu 3 "__init__" "Refusal.__init__" 3 vn vn vn (vs "vectorcove.errors" 194) none (vr 47) vn 0
theorem lX(X:(K w.params).In h):h.get? 48=some (ob (.type "function") none (.func dA) []):=X 48 _ (by rfl')
end
section
variable{w:World}{A:Around}{s:Shared}
theorem tb(self:Value):refuseLoop self "__setattr__" (.ref 51 ::Bv)=pure ():=by
 rw[refuseLoop_ref,refuseLoop_ref]
 exact PySem.F.store_Exception.passes self
structure MsgAt(h:Heap)(e t d:Addr)(v:Value):Prop where
 obj:h.get? e=some (ju t (some d))
 ns:∃od es n,h.get? d=some od∧od.data= .dict es n∧StrKeys es∧nsFind es "message"=some v
theorem rh{R:Result→Shared→Prop}{e t:Addr}{tk:Tok}{v:Value}(X:(K w.params).In s.heap)(he:s.heap.get? e=some (ju t none))
  (q:∀h' tk' d,MsgAt h' e t d v→s.heap.get? d=none→(∀b o,b≠e→s.heap.get? b=some o→h'.get? b=some o)→R (.ok (.ret .none)) {s with heap:=h',toks:=tk'}) :
  codeAny (model pw w) A (.call (.builtin "object.__setattr__") ⟨[.ref e,.str "message" tk,v],[]⟩) R s:=by
 have I:InstAt s.heap e (ju t none) 51 none:=⟨he,rfl,rfl,trivial⟩
 have SF:=PySem.F.store_object
 have hcd:clsIn (K w.params) 51=some (ClassData.mk "Refusal" [(vr 31)] (.ref 51 ::Bv) 50 "Refusal" true [] [] false none false):=by rfl'
 have sub:Looks (model pw w) s.heap (isInstance (.ref e) (.type "object")) true:=I.type.andThen (looks_mroIn X (by rfl'))
 refine codeAny_call_builtin SF.slot.plain SF.entry (@check_slot (model pw w) _ _ s "object.__setattr__" "object" "__setattr__" (.ref e) [.str "message" tk,v] [] _ SF.kind SF.split sub (SF.args (.ref e) (.str "message" tk) v) ?_)
 have hm:Looks (model pw w) s.heap (mroOf (.ref 51)) (.ref 51 ::Bv):=(looks_clsIn X hcd).andThen .now
 have ha:findIn (K w.params) (.ref 51) "message"=some none:=by rfl'
 rw[osa_eq,refuse_eq]
 refine wpAny_bind (wpAny_bind (I.type.here (wpAny_bind (hm.here ?_))))
 rw[tb]
 refine wpAny_pure (wpAny_bind (I.type.here (wpAny_bind ((looks_findIn X ha).here (wpAny_bind (wpAny_pure ?_))))))
 obtain⟨hh,g,dr,tk0,os⟩:=s
 dsimp only at he q X
 refine wpAny_bind (wpAny_pure (wpAny_bind (wpAny_bind (wpAny_loadPart he (wpAny_bind ((looks_clsIn X hcd).here ?_))))))
 rw[if_neg (by decide)]
 dsimp only
 rw[if_neg (by simp[typeHasDict])]
 have hx₁:(hh.push {cls:=.type "dict",data:=.dict #[]}).get? e=some (ju t none):=Heap.get?_push_of_some _ he
 have hxs:e≠hh.objs.size:=Nat.ne_of_lt (Heap.lt_size he)
 refine wpAny_bind (wpAny_alloc' ?_)
 refine wpAny_bind (wpAny_update' hx₁ ?_)
 refine wpAny_pure ?_
 generalize hH:(hh.push {cls:=.type "dict",data:=.dict #[]}).update e (λo=>{cls:=o.cls,dict:=some hh.objs.size,data:=o.data,slots:=o.slots})=H
 have hgd:H.get? hh.objs.size=some {cls:=.type "dict",data:=.dict #[]}:=by
  rw[←hH]
  exact(Heap.get?_update_ne _ _ _ _ hxs.symm).trans (Heap.get?_push_at rfl rfl)
 have hge:H.get? e=some (ju t (some hh.objs.size)):=by
  rw[←hH]
  exact Heap.get?_update_self _ hx₁ rfl
 have old:∀b o,b≠e→hh.get? b=some o→H.get? b=some o:=λb o hb ho=>by
  rw[←hH]
  exact(Heap.get?_update_ne _ _ _ _ hb).trans (Heap.get?_push_of_some _ ho)
 have hnd:H.Ns hh.objs.size (λ_=>none):=⟨_,#[],_,hgd,rfl,λe he=>absurd he (by simp),λ_=>rfl⟩
 show wpAny _ _ (storeInDict hh.objs.size (.str "message" tk) "message" v) _ _ _
 unfold storeInDict newKeyGuard
 refine wpAny_bind (wpAny_pure (wpAny_bind (wpAny_nsSet1 (Heap.Ns1.of_empty hnd) λh' hn' hs=>?_)))
 obtain⟨oD,esD,epD,hoD,hdD,hcD⟩:=hn'.count (Within.cons "message" v Within.nil)
 refine wpAny_bind (wpAny_lookBehind hoD (by rw[hdD];exact pastItsLine_dict (Nat.le_trans hcD (by rw[List.length_cons,List.length_nil,sizeLine_eq];omega))) ?_)
 refine wpAny_pure ?_
 obtain⟨o',es,ep,e1,e2,e3,eu,e4⟩:=hn'
 refine q h' _ hh.objs.size ⟨(hs.2 e hxs).trans hge,o',es,ep,e1,e2,e3,by rw[e4];exact if_pos rfl⟩ (Heap.get?_none_of_le (Nat.le_refl _)) λb o hb ho=>?_
 exact(hs.2 b (Nat.ne_of_lt (Heap.lt_size ho))).trans (old b o hb ho)
theorem wZ{E:Value→Shared→Prop}{Q:Unit→Shared→Prop}{e t:Addr}{v:Value}(X:(K w.params).In s.heap)(he:s.heap.get? e=some (ju t none))
  (q:∀h' tk' d,MsgAt h' e t d v→s.heap.get? d=none→(∀b o,b≠e→s.heap.get? b=some o→h'.get? b=some o)→Q () {s with heap:=h',toks:=tk'}) :
  wpAny (model pw w) A (setAttr (.ref e) "message" v) Q E s:=by
 have I:InstAt s.heap e (ju t none) 51 none:=⟨he,rfl,rfl,trivial⟩
 refine set_plain X I (by rfl') (rh (s:={s with toks:=s.toks+1}) X he λh' tk' d m n k=>?_)
 exact q h' tk' d m n k
end
end
section
open PySem.Builtin PySem.Builtin.ObjectAttr
section
variable{w:World}{A:Around}{E:Value→Shared→Prop}{h:Heap}{g:Array GenState}{d:Drawn}{t:Nat}{os:OsState}
theorem i7{rest:List Value}{Q:Fin→Shared→Prop}(X:(K w.params).In h)
  (hq:∀h' e,Heap.MadeExcOf h h' e (.ref 51) rest→wpAny (model pw w) A (call (.ref 48) (.ref e ::rest)) (λr s'=>r= .none∧Q (.done (.ret (.ref e))) s') E ⟨h',g,d,t,os⟩) (hrest:rest.length≤sizeLine) :
  wpAny (model pw w) A (Builtin.«type.__call__» ⟨.ref 51 ::rest,[]⟩) Q E ⟨h,g,d,t,os⟩:=by
 have hC:=eX X
 have hn:=BB X
 have hi:=vW w.params
 have T:=vq X
 have hfI:=lX X
 have Fx:=PySem.F.excBase_Exception
 repeat (first|with_reducible refine wpAny_loadPart_at hC ?_|with_reducible refine wpAny_madeBy_exc hC ?_|wp_step)
 refine codeAny_call_builtin_code (Code.quiet_builtin _ Fx.quiet) (wpAny_check_new_subT Fx T hC ?_)
 refine codeAny_exc_new_subT Fx T hC ?_ hrest
 show wpAny _ _ _ _ _ _
 have old:∀b o,h.get? b=some o→((h.push {cls:=.type "tuple",data:=.seq rest.toArray}).push {cls:=.ref 51,data:=.fields #[.ref h.objs.size,.none,.none,.none,.bool false,.none]}).get? b=some o:=λb o e=>Heap.get?_push_of_some _ (Heap.get?_push_of_some _ e)
 have hC₁:=old _ _ hC
 have hfI₁:=old _ _ hfI
 have hn₁:=hn.keeps old
 have T₁:=T.keeps old
 have hget:((h.push {cls:=.type "tuple",data:=.seq rest.toArray}).push
   {cls:=.ref 51,data:=.fields #[.ref h.objs.size,.none,.none,.none,.bool false,.none]}).get? (h.objs.size+1)=some
   {cls:=.ref 51,data:=.fields #[.ref h.objs.size,.none,.none,.none,.bool false,.none]}:=by heap_get
 have hcC:(Value.ref 51 ::Bv).contains (.ref 51)=true:=by simp
 unfold isInstance
 repeat (first|with_reducible refine wpAny_loadPart_at hget ?_|(with_reducible refine wpAny_isSubtype_exc hC₁ ?_;rw[hcC])|wp_step)
 show wpAny _ _ (typeLookup (.ref 51) _) _ _ _
 refine wpAny_typeLookup_tail hC₁ hn₁ T₁ Fx.mroIs Fx.init.lookup ?_
 rw[hi]
 refine wpAny_holding (wpAny_bind ?_)
 unfold bindSpecial
 refine wpAny_bind (wpAny_typeOf (T:="function") ⟨_,hfI₁,rfl⟩ ?_)
 rw[if_pos (by decide)]
 refine wpAny_pure (wpAny_bind (wpAny_mono (hq _ (h.objs.size+1) ⟨old,Heap.get?_none_of_le (Nat.le_succ _),h.objs.size,hget,Heap.get?_none_of_le (Nat.le_refl _),?_⟩) (λr s' hr=>?_) λ_ _ x=>x))
 ·exact Heap.get?_push_of_some _ (Heap.get?_push_at rfl rfl)
 ·obtain⟨rfl,hQ⟩:=hr
  wp_walk
  exact hQ
theorem tA{rest:List Value}{Q:Value→Shared→Prop}(X:(K w.params).In h)
  (hq:∀h' e,Heap.MadeExcOf h h' e (.ref 51) rest→wpAny (model pw w) (A.under (.builtin "type.__call__" ⟨.ref 51 ::rest,[]⟩)) (call (.ref 48) (.ref e ::rest)) (λr s'=>r= .none∧Q (.ref e) s') E ⟨h',g,d,t,os⟩) (hrest:rest.length≤sizeLine) :
  wpAny (model pw w) A (call (.ref 51) rest) Q E ⟨h,g,d,t,os⟩:=by
 have hC:=eX X
 have f1:=tc_lookup
 have f2:=tc_bind (.ref 51)
 have hT:(⟨h,g,d,t,os⟩:Shared).TypeIs (.ref 51) "type":=⟨_,hC,rfl⟩
 refine wpAny_call (codeAny_of_tree ?_)
 show wpAny _ _ (callAny (.ref 51) _) _ _ _
 repeat (any_goals (first|assumption|with_reducible refine wpAny_loadPart_at hC ?_|wp_step))
 refine⟨rfl,?_⟩
 refine codeAny_call_builtin_at (Code.quiet_builtin _ (by decide +kernel)) entry_typeCall (wpAny_check_type_call_sub hC (i7 X (λh' e hm=>?_) hrest))
 exact hq h' e hm
end
end
section
section
variable{w:World}{A:Around}{E:Value→Shared→Prop}
theorem qX:dA.body= .stmts [.Assign [.Attribute (.Name "self" ⟨10,8,10,12⟩) "message" ⟨10,8,10,20⟩] (.Name "message" ⟨10,23,10,30⟩) ⟨10,8,10,30⟩]:=by rfl'
theorem sx{K:Frag}(a b:Value)(S:Setting):peek K S (bindArgs dA ⟨[a,b],[]⟩)=some ((["self","message"]:List Str).zip [a,b]):=by rfl'
theorem mw:∀x∈(["self","message"]:List Str),dA.scope.names.lookup x=some .local:=λx hx=>by
 have:(["self","message"]:List Str).all (λx=>dA.scope.names.lookup x == some .local)=true:=by rfl'
 exact beq_iff_eq.mp (List.all_eq_true.mp this x hx)
theorem u6{s:Shared}{Q:Value→Shared→Prop}{v:Value}(X:(K w.params).In s.heap)(lim:s.heap.NoLimit)(hdep:A.depth+5 < recursionLimit)
  (q:∀h' tk' e t d,MsgAt h' e t d v→s.heap.get? e=none→s.heap.get? d=none→(∀b o,s.heap.get? b=some o→h'.get? b=some o)→Q (.ref e) {s with heap:=h',toks:=tk'}) :
  wpAny (model pw w) A (call (.ref 51) [v]) Q E s:=by
 obtain⟨hh,g,dr,tk0,os⟩:=s
 refine tA X (λH e hm=>?_) (by rw[sizeLine_eq];simp)
 have old:=hm.keeps
 obtain⟨t,he,ht,htt⟩:=hm.there
 have keys:((["self","message"]:List Str).zip [.ref e,v]).map (·.1)=(["self","message"]:List Str):=rfl
 have hd2:(A.under (.builtin "type.__call__" ⟨[.ref 51,v],[]⟩)).depth < recursionLimit:=by
  show A.depth+(Code.builtin "type.__call__" ⟨[.ref 51,v],[]⟩).weight < _
  rw[show(Code.builtin "type.__call__" ⟨[.ref 51,v],[]⟩).weight=1 from rfl];omega
 refine wpAny_call (bZ (binds:=(["self","message"]:List Str).zip [.ref e,v]) hd2 (lX (X.keeps old)) rfl (lim.keeps old) (codeRec_of (K:=K w.params) (X.keeps old) (by rfl')) qX (kp_binds (X.keeps old) λS=>sx _ _ S) (by rfl') (λy hy=>?_) (λs₁ ic=>?_) (by rfl') (by rfl') (by rfl'))
 ·exact .inl (mw _ (by rw[←keys];exact List.mem_map_of_mem hy))
 ·obtain⟨h₁,tk,rfl⟩:=ic.toInCall.same
  have kp:=ic.toInCall.keep
  have hns:=ic.toInCall.ns
  have kl:∀y∈(["self","message"]:List Str),(callEnvC dA H.objs.size 48).kindOf y=some .local:=λy hy=>mw y hy
  have hml:∀y∈(["self","message"]:List Str),bindL (callEnvC dA H.objs.size 48).kindOf ((["self","message"]:List Str).zip [.ref e,v]) (λ_=>none) y=((["self","message"]:List Str).zip [.ref e,v]).lookup y:=λy hy=>by
   rw[fM _ _ _ _ (by rw[keys];decide) (kl y hy)];simp
  generalize hmm:bindL (callEnvC dA H.objs.size 48).kindOf ((["self","message"]:List Str).zip [.ref e,v]) (λ_=>none)=ml at hns hml
  have m1:ml "self"=some (.ref e):=hml _ (by simp)
  have m2:ml "message"=some v:=hml _ (by simp)
  have hk:(callEnvC dA H.objs.size 48).scope.kind= .function:=by rfl'
  refine wpAny_execs_cons (plainObj_wpAny_Assign_Attribute (wpAny_Name (wpAny_loadName_local hk (kl _ (by simp)) hns m2 (wpAny_Name (wpAny_loadName_local hk (kl _ (by simp)) hns m1 ?_) (by decide))) (by decide)) rfl)
  refine wZ (t:=t) (((X.keeps old).keeps kp)) (kp _ _ he) λh' tk' d m n k=>?_
  refine wpAny_execs_nil ⟨rfl,q h' tk' e t d m hm.new ?_ λb o ho=>?_⟩
  ·cases z:hh.get? d with
   |none=>rfl
   |some o=>have:=kp _ _ (old _ _ z);rw[show h₁.get? d=none from n]at this;cases this
  ·refine k b o (λz=>?_) (kp _ _ (old _ _ ho))
   subst z
   rw[hm.new]at ho;cases ho
end
end
section
open PySem.Builtin PySem.Builtin.ObjectAttr
section
variable{w:World}{A:Around}{E:Value→Shared→Prop}
noncomputable abbrev qV(t d:Addr)(hd:Value):Obj:={cls:=.ref 51,dict:=some d,data:=.fields #[.ref t,hd,.none,.none,.bool false,.none]}
noncomputable def MsgD(h:Heap)(d:Addr)(v:Value):Prop:=∃od es n,h.get? d=some od∧od.data= .dict es n∧StrKeys es∧nsFind es "message"=some v
structure MsgX(h:Heap)(e t d:Addr)(hd v:Value):Prop where
 obj:h.get? e=some (qV t d hd)
 ns:MsgD h d v
theorem MsgD.up{h h':Heap}{d:Addr}{v:Value}(m:MsgD h d v)(u:h.UpToSlots h'):MsgD h' d v:=by
 obtain⟨od,es,n,h1,h2,h3,h4⟩:=m
 obtain⟨sl,hs⟩:=u d od h1 λvs q=>by rw[h2]at q;cases q
 exact⟨_,es,n,hs,h2,h3,h4⟩
theorem g8{h:Heap}{e t d:Addr}{hd v:Value}(m:MsgX h e t d hd v):∃od,InstAt h e (qV t d hd) 51 (some od)∧lookIn "message" od=some (some v):=by
 obtain⟨od,es,n,h1,h2,h3,h4⟩:=m.ns
 refine⟨od,⟨m.obj,rfl,rfl,h1⟩,?_⟩
 unfold lookIn
 rw[h2]
 dsimp only
 unfold nsFind findBy at h4
 obtain⟨en,he,hv⟩:=Option.map_eq_some_iff.mp h4
 have he':es.toList.find? (λx=>x.key.isStr "message")=some en:=by rw[←he,Array.find?_toList]
 rw[he']
 dsimp only
 rw[hv]
theorem vu(P:Params)(od:Obj):findObj (K P) 51 (some od) "message"=(lookIn "message" od).bind λown=>match own with
 |some v=>some (.value v)
 |none=>some .missing:=by rfl'
theorem uk{h:Heap}{e t d:Addr}{hd v:Value}(m:MsgX h e t d hd v)(X:(K w.params).In h):Looks (model pw w) h (find (.ref e) (.ref 51) "message") (.value v):=by
 obtain⟨od,I,hl⟩:=g8 m
 refine looks_find X I ?_
 rw[vu,hl];rfl
theorem xo{R:Result→Shared→Prop}{s:Shared}{e t d:Addr}{hd:Value}{x:Str}{tx tk:Tok}(X:(K w.params).In s.heap)(m:MsgX s.heap e t d hd (.str x tx))(hq:R (.ok (.ret (.str x tx))) s):
  codeAny (model pw w) A (.call (.builtin "BaseException.__getattribute__") ⟨[.ref e,.str "message" tk],[]⟩) R s:=by
 obtain⟨od,I,hl⟩:=g8 m
 have L1:=uk m X
 have L0:=I.type (M:=model pw w)
 have hC:=eX X
 have hk:builtinKind "BaseException.__getattribute__"=some .slot:=by decide +kernel
 have hsplit:splitId "BaseException.__getattribute__"=some ("BaseException","__getattribute__"):=by decide +kernel
 have sub:Looks (model pw w) s.heap (isInstance (.ref e) (.type "BaseException")) true:=I.type.andThen (looks_mroIn X (by rfl'))
 refine codeAny_call_builtin PySem.F.attr_Exception.ga.plain PySem.F.entry_bexc_ga (@check_slot (model pw w) _ _ s "BaseException.__getattribute__" "BaseException" "__getattribute__" (.ref e) [.str "message" tk] [] _ hk hsplit sub (PySem.F.args_bexc_ga _ _) ?_)
 unfold Builtin.«object.__getattribute__»
 obtain⟨hh,g,dr,tk0,os⟩:=s
 refine wpAny_bind (wpAny_pure (wpAny_bind (wpAny_pure (wpAny_bind (L0.at (wpAny_bind (L1.at ?_)))))))
 exact wpAny_pure hq
theorem xq{s:Shared}{e t d:Addr}{hd:Value}{x:Str}{tx:Tok}{expr:Bool}{Q:Value→Shared→Prop}(X:(K w.params).In s.heap)(m:MsgX s.heap e t d hd (.str x tx))(q:Q (.str x tx) {s with toks:=s.toks+1}):wpAny (model pw w) A (getAttr (.ref e) "message" expr) Q E s:=by
 obtain⟨od,I,hl⟩:=g8 m
 obtain⟨hh,g,dr,tk0,os⟩:=s
 have L0:=I.type (M:=model pw w)
 have hga:findIn (K w.params) (.ref 51) "__getattribute__"=some (some (.builtin "BaseException.__getattribute__")):=by rfl'
 have hgk:findIn (K w.params) (.ref 51) "__getattr__"=some none:=by rfl'
 have L1:=looks_findIn (M:=model pw w) X hga
 have L2:=looks_findIn (M:=model pw w) X hgk
 unfold getAttr getAttrBy
 refine wpAny_bind (wpAny_mkText (wpAny_holding (wpAny_bind (L0.at (wpAny_bind (L1.at ?_))))))
 dsimp only
 rw[if_neg (by decide +kernel)]
 unfold getAttrByItsOwn hookBefore
 refine wpAny_bind ?_
 rw[if_pos (show onTheHeap (Value.ref 51)=true from rfl)]
 refine L2.at (wpAny_bind (wpAny_attempt (wpAny_holding ?_)))
 unfold callGetattribute
 rw[if_neg (by cases expr<;>decide)]
 unfold boundAndCalled
 rw[PySem.F.attr_Exception.ga.bind (.ref e)]
 refine wpAny_bind (wpAny_pure (wpAny_call (xo X m ?_)))
 exact wpAny_pure q
end
end
section
section
variable{w:World}{hb:Heap}{ZU:Env}{pv:List Addr}{σ σ' ZZ:Loc}{n:Nat}{mg mb:Str→Option Value}
theorem tP(H:Hd w hb mg mb):bq pw w hb (.ref 51):=
 mq (K:=K w.params) (o:=o52) H.kin (H.kin _ _ (by rfl')) rfl (by rfl')
theorem wj(H:Hd w hb mg mb)(hk:ZU.kindOf "Refusal"=some .globalImplicit):GN mg mb ZU "Refusal" (.ref 51):=⟨hk,by decide +kernel,.inl (mg_of H.kin H.g (by rfl'))⟩
theorem jf{M:Model}{A:Around}{E:Value→Shared→Prop}{s:Shared}{x:Sem Value}{Q:Flow→Shared→Prop}(hh:A.handled=none)
  (h:wpAny M A x (λv s₁=>∃e t d,v= .ref e∧(K w.params).In s₁.heap∧s₁.heap.get? e=some (ju t (some d))∧E (.ref e) s₁) E s):wpAny M A (raiseStmt ZU (some x) none) Q E s:=by
 have hcB:(Value.ref 51 ::Bv).contains (.type "BaseException")=true:=by decide +kernel
 unfold raiseStmt
 refine wpAny_bind (wpAny_mono h (λv s₁ h₁=>?_) λ_ _ x=>x)
 obtain⟨e,t,d,rfl,X,he,hE⟩:=h₁
 have hC:=eX X
 obtain⟨hp,g,dr,tk,os⟩:=s₁
 repeat (first|with_reducible refine wpAny_loadPart_at he ?_|with_reducible refine wpAny_loadPart_at hC ?_|(with_reducible refine wpAny_isSubtype_exc hC ?_;rw[hcB])|wp_step)
 exact wpAny_raiseNew_none hh hE
noncomputable def qx(w:World)(hb:Heap)(n:Nat)(ZU:Env)(pv:List Addr)(ss:List Stmt)(σ σ':Loc)(x:Str):Prop:=
 ∀(A:Around)(E:Value→Shared→Prop)(S g:Sh)(m:Str→Option Value)(s:Shared)(Q:Flow→Shared→Prop),Rm n A→EnvOk ZU pv→Rel pw w 318 hb ZU pv S g m σ none s.heap→
  (∀S' h1 m',Ext w S g S' h1→Rel pw w 318 hb ZU pv S' g m' σ' none h1→∀h' tk' e t d tx,MsgAt h' e t d (.str x tx)→h1.get? e=none→h1.get? d=none→(∀b o,h1.get? b=some o→h'.get? b=some o)→E (.ref e) {s with heap:=h',toks:=tk'})→
  wpAny (model pw w) A (execs ss ZU) Q E s
theorem lV(H:Hd w hb mg mb)(hk:ZU.kindOf "Refusal"=some .globalImplicit){x:Str}{k:Nat}{np cp cpos pos:Pos}{ss:List Stmt}:qx w hb n ZU pv (.Raise (some (.Call (.Name "Refusal" np) [.Constant (.str x) k cp] [] cpos)) none pos ::ss) σ σ x:=λA E S g m s Q rm ok r p=>by
 refine wpAny_execs_cons ?_
 rw[arm_exec_Raise]
 refine wpAny_bind (wpAny_standAt (jf (w:=w) rm.hh (wpAny_bind ?_)))
 have y:dK pw w 318 hb n ZU pv [.Constant (.str x) k cp] σ σ [.str x]:=ip oN kq λ_=>rfl
 have pl:cn [.Constant (.str x) k cp]:=b0 λe he=>by rw[List.mem_singleton.mp he];rfl
 refine wpAny_Call_NameR (dq H.gl ok r.hbIn (wj H hk) (callWith_of (P:=λh=>∀a x,hb.get? a=some x→h.get? a=some x) (by simp only[pl.2 ZU cpos,List.any_nil,Bool.or_false]) (tP H)
  (bb pl.1 (y A E S g m s cpos _ rm ok r λS' h' tk vs e r' q=>⟨r'.hbIn,?_⟩))))
 obtain⟨v,rfl,qv⟩:=jN q
 cases qv using R.strE with
 |str tx=>
 refine u6 (s:={s with heap:=h',toks:=tk}) (H.kin.keeps r'.hbIn) (H.gl.lim.keeps r'.hbIn) (by have:=rm.dp;(apply yU;assumption;rfl)) λh2 tk2 ee t d mm n1 n2 kp=>?_
 refine wpAny_bind (wpAny_standAt (wpAny_pure ⟨ee,t,d,rfl,(H.kin.keeps r'.hbIn).keeps kp,mm.obj,?_⟩))
 exact p S' h' m e r' h2 tk2 ee t d tx mm n1 n2 kp
end
end
section
section
variable{w:World}{hb:Heap}{ZU:Env}{pv:List Addr}{σ σ' ZZ:Loc}{n:Nat}{mg mb:Str→Option Value}{x:Str}{Z:Orc}{E:Ev}{kd:Kd}
theorem xp{st:Stmt}{ss:List Stmt}(a:du pw w 318 hb n ZU pv st σ (.nx ZZ))(b:qx w hb n ZU pv ss ZZ σ' x):qx w hb n ZU pv (st ::ss) σ σ' x:=λA E S g m s Q rm ok r p=>
 wpAny_execs_cons (a A E S g m s _ rm ok r λS1 h1 tk m' e r'=>b A E S1 g m' _ Q rm ok r' λS2 h2 m2 e2 r2 h' tk'=>p S2 h2 m2 (e.trans e2) r2 h' tk')
theorem Ae{test:Expr}{body orelse ss:List Stmt}{pos:Pos}(t:EvB pw w 318 hb n ZU pv test σ ZZ true)(b:qx w hb n ZU pv body ZZ σ' x):qx w hb n ZU pv (.If test body orelse pos ::ss) σ σ' x:=λA E S g m s Q rm ok r p=>
 wpAny_execs_cons (wpAny_If (t A E S g m s _ rm ok r λS1 h1 tk e r1=>by
  rw[if_pos rfl]
  exact b A E S1 g m {s with heap:=h1,toks:=tk} _ rm ok r1 λS2 h2 m2 e2 r2 h' tk'=>p S2 h2 m2 (e.trans e2) r2 h' tk'))
theorem nu(hX:SX pw w 318 hb n Z E)(ek:∀x,ZU.kindOf x=kd x)(ok:EnvOk ZU pv)(hc:∀x c,Z.st x=true→ZU.cells.lookup x=some c→c∈pv):∀(a b:List Stmt){σ ZZ:Loc},exs E kd a σ=some (.nx ZZ)→qx w hb n ZU pv b ZZ σ' x→qx w hb n ZU pv (a ++ b) σ σ' x
 |[],b,σ,ZZ,h,y=>by cases h;exact y
 |s ::a,b,σ,ZZ,h,y=>by
  have h:((E.X kd s σ).bind λo=>match o with|.nx ZZ=>exs E kd a ZZ|o=>some o)=some (.nx ZZ):=h
  cases hx:E.X kd s σ with
  |none=>rw[hx]at h;cases h
  |some o=>
   rw[hx]at h
   cases o with
   |nx ZY=>exact xp (hX kd s σ _ hx ZU pv ek ok hc) (nu hX ek ok hc a b h y)
   |_=>cases h
end
noncomputable def qz:Stmt→Expr
 |.If t _ _ _=>t
 |_=>.Constant .none 0 ⟨0,0,0,0⟩
noncomputable def D2:Stmt→Pos
 |.If _ _ _ p=>p
 |_=>⟨0,0,0,0⟩
noncomputable def KG(x:Str)(k:Nat)(np cp cpos pos:Pos):Stmt:=.Raise (some (.Call (.Name "Refusal" np) [.Constant (.str x) k cp] [] cpos)) none pos
noncomputable def qp:Str:="at least one vector element is required"
noncomputable def pK:Str:="no rows to aggregate"
theorem At:(ak 116).drop 3= .If (qz (bF 116 3)) [KG qp 0 ⟨732,14,732,21⟩ ⟨732,22,732,63⟩ ⟨732,14,732,64⟩ ⟨732,8,732,64⟩] [] (D2 (bF 116 3)) ::(ak 116).drop 4:=by rfl'
theorem Cg:(ak 113).drop 3= .If (qz (bF 113 3)) [KG pK 0 ⟨709,14,709,21⟩ ⟨709,22,709,44⟩ ⟨709,14,709,45⟩ ⟨709,8,709,45⟩] [] (D2 (bF 113 3)) ::(ak 113).drop 4:=by rfl'
theorem wI(df:T)(l:Addr)(nl:List T):(Et dn).B (ae 116) (qz (bF 116 3)) (mz df l [] nl (.ol []))=some (true,mz df l [] nl (.f (.list []))):=by rfl'
theorem ym(val ind:T)(b:Bool)(c:List T):(Et ZA).B (ae 113) (qz (bF 113 3)) (zY val ind b c (.ol []))=some (true,zY val ind b c (.f (.list []))):=by rfl'
theorem xf:ae 116 "Refusal"=some .globalImplicit:=by rfl'
theorem xi:ae 113 "Refusal"=some .globalImplicit:=by rfl'
section
variable{w:World}{hb:Heap}{ZU:Env}{pv:List Addr}{n:Nat}{mg mb:Str→Option Value}
theorem iD(b:List Stmt)(k:Nat):b=sg b 0 k ++ b.drop k:=by
 unfold sg
 rw[List.drop_zero,Nat.sub_zero,List.take_append_drop]
theorem pS{a b:List Stmt}{σ σ':Loc}{x:Str}(e:a=b)(h:qx w hb n ZU pv a σ σ' x):qx w hb n ZU pv b σ σ' x:=by
 subst e;exact h
theorem ui(H:Hd w hb mg mb)(z:OrcOk pw w 318 hb mg mb n dn){ks:List Col}(ok:ColsOk ks)(h0:ks≠[])(he:st ks=[])(l:Addr)(ek:∀x,ZU.kindOf x=ae 116 x)(eo:EnvOk ZU pv)(hc:∀x c,ZU.cells.lookup x=some c→c∈pv):
  qx w hb n ZU pv (ak 116) (Ce (aR ks) l []) (mz (aR ks) l [] (ks.map hdT) (.f (.list []))) qp:=by
 have snd:=bx (W:=100000) H.gl H.nm z 40
 have hk:(kp ks).map iT=[]:=by
  have:=g4 ks
  rw[he]at this
  rw[List.eq_nil_of_length_eq_zero this];rfl
 have h3:=mR ok h0 l
 rw[hk]at h3
 have hr:qx w hb n ZU pv ((ak 116).drop 3) (mz (aR ks) l [] (ks.map hdT) (.ol [])) (mz (aR ks) l [] (ks.map hdT) (.f (.list []))) qp:=by
  rw[At]
  have ht:=snd.2.1 _ _ _ _ _ (wI (aR ks) l (ks.map hdT)) ZU pv ek eo
  exact Ae ht (lV H ((ek _).trans xf))
 have hz:=nu snd.2.2 ek eo (λx c _ h=>hc x c h) _ _ h3 hr
 exact pS (iD (ak 116) 3).symm hz
theorem uV:mh []=[]:=by
 unfold mh
 have:prs (fo [])=[]:=by decide +kernel
 rw[this];rfl
theorem Ci(H:Hd w hb mg mb)(z:OrcOk pw w 318 hb mg mb n ZA){ls:List Nat}(L:Lv ls []){R:Nat}(b:Bool)(ek:∀x,ZU.kindOf x=ae 113 x)(eo:EnvOk ZU pv)(hc:∀x c,ZU.cells.lookup x=some c→c∈pv):
  qx w hb n ZU pv (ak 113) (Dm (vt R []) (bp [] (aj ls)) b []) (zY (vt R []) (bp [] (aj ls)) b [] (.f (.list []))) pK:=by
 have snd:=bx (W:=100000) H.gl H.nm z 40
 have s0:=DU (vt R []) (bp [] (aj ls)) b []
 have hcg:=fJ (.str (kR R)) .none (.str "integer") (gF (aj ls)) (xs:=[]) (ys:=[]) rfl (Nat.zero_le _)
 have hg:=dN L
 rw[uV,List.map_nil]at hg
 rw[hcg,aa,hg,aa]at s0
 have hr:qx w hb n ZU pv ((ak 113).drop 3) (zY (vt R []) (bp [] (aj ls)) b [] (.ol [])) (zY (vt R []) (bp [] (aj ls)) b [] (.f (.list []))) pK:=by
  rw[Cg]
  have ht:=snd.2.1 _ _ _ _ _ (ym (vt R []) (bp [] (aj ls)) b []) ZU pv ek eo
  exact Ae ht (lV H ((ek _).trans xi))
 have hz:=nu snd.2.2 ek eo (λx c _ h=>hc x c h) _ _ s0 hr
 exact pS (iD (ak 113) 3).symm hz
end
end
section
noncomputable def KV(h base:Heap)(e t d:Addr)(fl:Value):Prop:=∃T oT ts,h.get? e=some (qV t d (.ref T))∧base.get? T=none∧T≠e∧h.get? T=some oT∧oT.data= .fields ts∧ts[3]?=some fl
structure Fly(base:Heap)(l:List Env)(e t d:Addr)(fl:Value)(h:Heap):Prop where
 st:base.StaysIn h
 ne:base.get? e=none
 fr:h.FunFrames base l
 tr:KV h base e t d fl
section
variable{M:Model}{A:Around}{E:Value→Shared→Prop}{s:Shared}{base:Heap}{ZU:Env}{outer l:List Env}{L e t d:Addr}{fl hd:Value}{Q:Unit→Shared→Prop}
theorem jx{hadNext:Bool}(hfr:A.frames=some (ZU ::outer))(hl:s.heap.FunFrames base (ZU ::outer))(hf:ZU.frame=some L)(he:s.heap.get? e=some (qV t d hd))(hkb:base.StaysIn s.heap)(hen:base.get? e=none)
  (q:∀h',Fly base (ZU ::outer) e t d (rawInt L) h'→s.heap.UpToSlots h'→Q () {s with heap:=h'}) :
  wpAny M A (do let a ←frameOf ZU;let pl ←entryPlaceOf L hadNext;let b ←EntryCells.newEntry hd a .none (rawInt L) .none pl;setField (.ref e) 1 b) Q E s:=by
 have off:e∉(ZU ::outer).filterMap (·.frame):=λhm=>by
  obtain⟨_,o,ho,hnf⟩:=hl.mem hm
  rw[he]at ho
  cases ho
  exact hnf _ rfl
 refine wpAny_bind (wpAny_frameOf_fun hfr hl hf λh₁ hs₁=>?_)
 refine wpAny_bind (wpAny_entryPlaceOf λpl hpl=>?_)
 unfold EntryCells.newEntry newFields
 refine wpAny_bind (wpAny_newObj_type ?_ (hpl.sizeOk5 _ _ _ _ _))
 have he₁:h₁.get? e=some (qV t d hd):=(hs₁.2.1 e off).trans he
 have kb₁:base.StaysIn h₁:=λb o hbo=>(hs₁.2.1 b λhm=>by rw[(hl.mem hm).1]at hbo;cases hbo).trans (hkb b o hbo)
 generalize htb:({cls:=.type "traceback",dict:=none,data:=.fields ([hd,.ref L,.none,rawInt L,.none] ++ (if pl.isEmpty then List.replicate 6 Value.none else pl)).toArray}:Obj)=ot
 have hot:∃ts:Array Value,ot.data= .fields ts∧ts[3]?=some (rawInt L):=by
  rw[←htb]
  refine⟨_,rfl,?_⟩
  first|(simp;done)|(rcases hpl with rfl|⟨_,_,_,_,_,_,_,rfl⟩<;>simp)
 have hof:ot.isFreed=false:=by rw[←htb];rfl
 have he₂:(h₁.push ot).get? e=some (qV t d hd):=Heap.get?_push_of_some _ he₁
 refine wpAny_setField he₂ rfl (by show 1 < 6;decide) (q _ ?_ ?_)
 ·have hTe:h₁.objs.size≠e:=Nat.ne_of_gt (Heap.lt_size he₁)
  obtain⟨ts,hts,h3⟩:=hot
  have keep:∀b o,b≠e→h₁.get? b=some o→((h₁.push ot).update e (Obj.mapFields (·.setIfInBounds 1 (Value.ref h₁.objs.size)))).get? b=some o:=λb o hbe hb=>by
   rw[Heap.get?_update_other _ _ (Ne.symm hbe)]
   exact Heap.get?_push_of_some _ hb
  refine⟨λb o hbo=>keep b o (λz=>by rw[z,hen]at hbo;cases hbo) (kb₁ b o hbo),hen,hl.of_keeps λb o hb hnf=>?_,h₁.objs.size,ot,ts,Heap.get?_update_self _ he₂ rfl,kb₁.fresh,hTe,?_,hts,h3⟩
  ·obtain⟨sl,hs⟩:=hs₁.2.2 b o hb
   exact⟨_,keep b _ (λz=>by rw[z,he]at hb;cases hb;exact hnf _ rfl) hs,rfl⟩
  ·rw[Heap.get?_update_other _ _ (Ne.symm hTe)]
   exact Heap.get?_push_size h₁ hof
 ·intro b o hb hnf
  obtain⟨sl,hs⟩:=hs₁.2.2 b o hb
  refine⟨sl,?_⟩
  rw[Heap.get?_update_other _ _ (λz=>by rw[←z,he]at hb;cases hb;exact hnf _ rfl)]
  exact Heap.get?_push_of_some _ hs
theorem rF(hfr:A.frames=some (ZU ::outer))(hl:s.heap.FunFrames base (ZU ::outer))(hf:ZU.frame=some L)(he:s.heap.get? e=some (ju t (some d)))(hkb:base.StaysIn s.heap)(hen:base.get? e=none)
  (q:∀h',Fly base (ZU ::outer) e t d (rawInt L) h'→s.heap.UpToSlots h'→Q () {s with heap:=h'}):wpAny M A (noteFrame (.ref e) ZU) Q E s:=by
 unfold noteFrame
 simp only[hf]
 refine wpAny_bind (wpAny_field he rfl (x:=.none) rfl ?_)
 rw[if_neg (by decide)]
 exact jx hfr hl hf he hkb hen q
theorem BQ(hfr:A.frames=some (ZU ::outer))(hf:ZU.frame=some L)(hy:Fly base (ZU ::outer) e t d .none s.heap)
  (q:∀h',Fly base (ZU ::outer) e t d (rawInt L) h'→s.heap.UpToSlots h'→Q () {s with heap:=h'}):wpAny M A (noteFrame (.ref e) ZU) Q E s:=by
 obtain⟨st,ne,fr,T,oT,ts,he,hnT,hTe,hT,hdT,h3⟩:=hy
 unfold noteFrame
 simp only[hf]
 refine wpAny_bind (wpAny_field he rfl (x:=.ref T) rfl ?_)
 rw[if_pos (show(Value.ref T != Value.none)=true from by simp)]
 refine wpAny_bind (wpAny_field hT hdT h3 ?_)
 rw[if_neg (show¬ ((Value.none == rawInt L)=true)from by simp[rawInt])]
 refine wpAny_bind (wpAny_setField hT hdT (Array.getElem?_eq_some_iff.mp h3).1 ?_)
 have other:∀b,b≠T→(s.heap.update T (Obj.mapFields (·.setIfInBounds 3 Value.none))).get? b=s.heap.get? b:=λb hb=>Heap.get?_update_other _ _ (Ne.symm hb)
 have noRecord:∀b o,s.heap.get? b=some o→(∀vs,o.data≠ .fields vs)→b≠T:=λb o hb hnf z=>by
  rw[z,hT]at hb;cases hb;exact hnf ts hdT
 refine jx (s:={s with heap:=s.heap.update T (Obj.mapFields (·.setIfInBounds 3 Value.none))}) hfr (fr.of_keeps λb o hb hnf=>⟨o,(other b (noRecord b o hb hnf)).trans hb,rfl⟩) hf ((other e (Ne.symm hTe)).trans he)
  (λb o hbo=>(other b λz=>by rw[z,hnT]at hbo;cases hbo).trans (st b o hbo)) ne λh' y u=>q h' y λb o hb hnf=>u b o ((other b (noRecord b o hb hnf)).trans hb) hnf
theorem iW(hy:Fly base l e t d fl s.heap)(q:∀h',Fly base l e t d .none h'→s.heap.UpToSlots h'→Q () {s with heap:=h'}):wpAny M A (setFlight (.ref e) none) Q E s:=by
 obtain⟨st,ne,fr,T,oT,ts,he,hnT,hTe,hT,hdT,h3⟩:=hy
 have hsz3:3 < ts.size:=(Array.getElem?_eq_some_iff.mp h3).1
 have other:∀b,b≠T→(s.heap.update T (Obj.mapFields (·.setIfInBounds 3 ((none:Option Addr).elim Value.none λf=>rawInt f)))).get? b=s.heap.get? b:=λb hb=>Heap.get?_update_other _ _ (Ne.symm hb)
 have noRecord:∀b o,s.heap.get? b=some o→(∀vs,o.data≠ .fields vs)→b≠T:=λb o hb hnf z=>by
  rw[z,hT]at hb;cases hb;exact hnf ts hdT
 unfold setFlight
 refine wpAny_bind (wpAny_field he rfl (x:=.ref T) rfl ?_)
 rw[if_pos (show(Value.ref T != Value.none)=true from by simp)]
 refine wpAny_setField hT hdT hsz3 (q _ ⟨λb o hbo=>(other b λz=>by rw[z,hnT]at hbo;cases hbo).trans (st b o hbo),ne,fr.of_keeps λb o hb hnf=>⟨o,(other b (noRecord b o hb hnf)).trans hb,rfl⟩,?_⟩ λb o hb hnf=>⟨o.slots,(other b (noRecord b o hb hnf)).trans hb⟩)
 exact⟨T,_,_,(other e (Ne.symm hTe)).trans he,hnT,hTe,Heap.get?_update_self _ hT (Obj.isFreed_of_fields (Obj.data_mapFields hdT _)),Obj.data_mapFields hdT _,by simp[hsz3]⟩
theorem rW(hfr:A.frames=some (ZU ::outer))(hl:s.heap.FunFrames base (ZU ::outer))(hf:ZU.frame=some L)(he:s.heap.get? e=some (ju t (some d)))(hkb:base.StaysIn s.heap)(hen:base.get? e=none)
  (q:∀h',Fly base outer e t d .none h'→s.heap.UpToSlots h'→Q () {s with heap:=h'}):wpAny M A (leaving ZU (.ref e)) Q E s:=by
 unfold leaving
 refine wpAny_bind (rF hfr hl hf he hkb hen λh1 y1 u1=>iW (s:={s with heap:=h1}) y1 λh2 y2 u2=>q h2 ⟨y2.st,y2.ne,?_,y2.tr⟩ (u1.trans u2))
 obtain⟨_,_,k⟩:=y2.fr
 exact k
end
end
section
section
variable{ZV:Program}{w:World}{C:Addr}{hb:Heap}{ZU:Env}{pv:List Addr}{S g:Sh}{m:Str→Option Value}{σ σ':Loc}{h h':Heap}{L':Addr}
structure Gone(S g:Sh)(pv:List Addr)(h:Heap)(L':Addr):Prop where
 nS:¬ S.has L'
 ng:¬ g.has L'
 np:L'∉pv
 dict:∃o es ep,h.get? L'=some o∧o.data= .dict es ep
theorem Rel.but(r:Rel ZV w C hb ZU pv S g m σ none h)(ok:EnvOk ZU pv)(G:Gone S g pv h L')(hσ:∀x a,σ.lookup x=some a→(∃t,a= .f t)∨∃ts,a= .ol ts)
  (kp:∀b o,b≠ZU.locals→b≠L'→h.get? b=some o→h'.get? b=some o) (up:h.UpToSlots h'):Ext w S g S h'∧Rel ZV w C hb ZU pv S g m σ none h':=by
 obtain⟨od,es,ep,hod,hdd⟩:=G.dict
 obtain⟨_,nSL,ngL⟩:=r.priv _ ok.loc
 have hS:∀b o,S.has b→h.get? b=some o→h'.get? b=some o:=λb o hs ho=>kp b o (λz=>nSL (z ▸ hs)) (λz=>G.nS (z ▸ hs)) ho
 have hg:∀b o,g.has b→h.get? b=some o→h'.get? b=some o:=λb o hs ho=>kp b o (λz=>ngL (z ▸ hs)) (λz=>G.ng (z ▸ hs)) ho
 have sin:S.In w h':=⟨λa x e=>hS a x (Sh.has_o e) (r.st.o a x e),λd x e=>(r.st.v d x e).keeps λo ho=>hS d o (Sh.has_v e) ho,r.st.dis⟩
 have gin:g.In w h':=⟨λa x e=>hg a x (Sh.has_o e) (r.kp.o a x e),λd x e=>(r.kp.v d x e).keeps λo ho=>hg d o (Sh.has_v e) ho,r.kp.dis⟩
 refine⟨⟨.refl S,sin,gin,λb _ z=>z⟩,⟨sin,gin,r.base,⟨?_,λx c hc=>?_⟩,r.gS,r.gd,r.vis,λb hb=>?_,r.known,?_,r.gho⟩⟩
 ·obtain⟨ml,hn,hm⟩:=r.vars.loc
  exact⟨ml,up.ns hn,hm⟩
 ·obtain⟨o,ho,hd⟩:=r.vars.cell x c hc
  exact⟨o,kp c o (ok.ne x c hc) (λz=>by rw[z,hod]at ho;cases ho;rw[hdd]at hd;cases hd) ho,hd⟩
 ·obtain⟨⟨o,ho⟩,h1,h2⟩:=r.priv b hb
  refine⟨?_,h1,h2⟩
  by_cases hbl:b=ZU.locals
  ·subst hbl
   obtain⟨ml,⟨o',es',ep',ho',hd',_⟩,_⟩:=r.vars.loc
   obtain⟨sl,hs⟩:=up _ o' ho' λvs q=>by rw[hd']at q;cases q
   exact⟨_,hs⟩
  ·exact⟨o,kp b o hbl (λz=>G.np (z ▸ hb)) ho⟩
 ·obtain⟨fp,a1,a2⟩:=r.slots
  refine⟨fp,λi v a x=>?_,a2⟩
  obtain⟨okv,cv⟩:=a1 i v a x
  refine⟨okv.keeps (.refl S) λb hb o ho=>kp b o (λz=>(cv b hb).2.2 (z ▸ ok.loc)) (λz=>?_) ho,cv⟩
  cases i with
  |none=>simp only[Slot]at x;cases x
  |some y=>
   rcases hσ y a x.1 with⟨t,rfl⟩|⟨ts,rfl⟩
   ·generalize fp (some y)=lst at okv hb
    cases okv using VOk.fE with|f _=>cases hb
   ·generalize fp (some y)=lst at okv hb
    cases okv using VOk.olE with
    |ol e ra=>
     rw[List.mem_singleton.mp hb]at z
     rw[z,hod]at e
     cases e
     cases hdd
end
section
variable{w:World}{hb:Heap}{ZU:Env}{pv:List Addr}{S g:Sh}{m:Str→Option Value}{σ σ':Loc}{n:Nat}{mg mb:Str→Option Value}{x:Str}
structure Lost(w:World)(hb:Heap)(ZU:Env)(pv:List Addr)(S g:Sh)(m:Str→Option Value)(σ:Loc)(h2:Heap)(L':Addr)(base:Heap)(e t d:Addr)(x:Str)(tx:Tok)(fl:Value)(h':Heap):Prop where
 rel:Rel pw w 318 hb ZU pv S g m σ none h2
 gone:Gone S g pv h2 L'
 cov:∀b o,b≠ZU.locals→b≠L'→h2.get? b=some o→base.get? b=some o
 fly:Fly base [ZU] e t d fl h'
 up:h2.UpToSlots h'
 msg:MsgD h' d (.str x tx)
 nd:h2.get? d=none
theorem zV{f:Addr}{fd:FuncData}{names:List Str}{body:List Stmt}{ts:List T}{x₀:Str}{c c':List T}{l:Addr}{qq:Nat→Addr}(H:Hd w hb mg mb)(F:FnAt hb f fd names body)(hl:ts.length=names.length)
  (B:∀(ZU:Env)(pv:List Addr),ZU.scope=fd.scope→EnvOk ZU pv→(∀x c,ZU.cells.lookup x=some c→c∈pv)→qx w hb n ZU pv body (names.zip (ts.map V.f) ++ [(ghost 0,.ol c)]) σ' x) (hg:σ'.lookup (ghost 0)=some (.ol c')) (nc:T.noqs c'=true)
  {A:Around} {E:Value→Shared→Prop} {s:Shared} {vs vs₀:List Value} {Q:Value→Shared→Prop} (rm:Rm (n+1) A) (ok:EnvOk ZU pv) (r:Rel pw w 318 hb ZU pv S g m σ none s.heap)
  (hx:σ.lookup x₀=some (.ol c)) (hm:m x₀=some (.ref l)) (hq0:qq 0=l) (ncc:T.noqs c=true) (hfr:A.frames=some [ZU]) (hf:ZU.frame=some ZU.locals)
  (bnd:BindsTo s fd ⟨vs₀,[]⟩ (names.zip vs)) (q:RA pw w 318 (S.rq qq) vs ts)
  (k:∀S' h2 L' base h' tk e t d tx,Ext w S g S' h2→Lost w hb ZU pv S' g m (σ.set x₀ (.ol c')) h2 L' base e t d x tx .none h'→E (.ref e) {s with heap:=h',toks:=tk}):wpAny (model pw w) A (call (.ref f) vs₀) Q E s:=by
 refine gj H.gl F hl rm ok r hx hm hq0 ncc bnd q λcpv h₁ tk₁ m₁ cok cc rm₁ r₁=>B _ _ rfl cok cc _ _ (S.rq qq) (cM S s.heap l qq) _ _ _ rm₁ cok r₁ λS2 h2 m2 e2 r2 h3 tk3 e t d tx mm n1 n2 kp=>?_
 obtain⟨e',r'⟩:=r.back (v:=.none) (a:=.f .none) ok.loc hx hm e2 (r2.res .none) hg hq0 (.inr ⟨rfl,nc⟩)
 have r':=r'.drop
 have hLc:(callEnvC fd s.heap.objs.size f).locals=s.heap.objs.size:=rfl
 have fresh:s.heap.get? s.heap.objs.size=none:=Heap.get?_none_of_le (Nat.le_refl _)
 obtain⟨⟨oc,hoc⟩,nSc,_⟩:=r2.priv _ cok.loc
 obtain⟨mlc,⟨oc',esc,epc,hoc',hdc,_⟩,_⟩:=r2.vars.loc
 obtain⟨mle,⟨oe',ese,epe,hoe',hde,_⟩,_⟩:=r'.vars.loc
 have G:Gone (S2.rq S.q) g pv h2 s.heap.objs.size:=by
  refine⟨nSc,λz=>?_,λz=>?_,oc',esc,epc,hoc',hdc⟩
  ·obtain⟨o,ho⟩:=In.get r.kp z
   rw[fresh]at ho;cases ho
  ·obtain⟨o,ho⟩:=(r.priv _ z).1
   rw[fresh]at ho;cases ho
 have base_of:∀b o,(hideAll h2 [ZU.locals,s.heap.objs.size]).get? b=some o→h2.get? b=some o:=λb o z=>of_hideAll _ z
 refine rW (base:=hideAll h2 [ZU.locals,s.heap.objs.size]) (outer:=[ZU]) (L:=s.heap.objs.size) (t:=t) (d:=d) (Around.frames_deeper hfr) ⟨?_,⟨s.heap.objs.size,oc',rfl,hideAll_none _ (.tail _ (.head _)),kp _ _ hoc',λvs z=>by rw[hdc]at z;cases z⟩,?_,⟨ZU.locals,oe',hf,hideAll_none _ (.head _),kp _ _ hoe',λvs z=>by rw[hde]at z;cases z⟩,trivial⟩ rfl mm.obj (λb o z=>kp b o (base_of b o z)) ?_ λh' y u=>?_
 ·rw[cok.kind];decide
 ·rw[ok.kind];decide
 ·cases z:(hideAll h2 [ZU.locals,s.heap.objs.size]).get? e with
  |none=>rfl
  |some o=>have:=base_of _ _ z;rw[n1]at this;cases this
 ·refine k _ h2 s.heap.objs.size (hideAll h2 [ZU.locals,s.heap.objs.size]) h' tk3 e t d tx e' ⟨r',G,λb o h1 h2 ho=>hideAll_get _ ho ?_,y,(Heap.UpToSlots.of_keeps kp).trans u,MsgD.up mm.ns u,n2⟩
  intro z
  rcases List.mem_cons.mp z with z|z
  ·exact h1 z
  ·exact h2 (List.mem_singleton.mp z)
end
end
section
section
variable{ZV:Program}{w:World}{C:Addr}{hb:Heap}{ZU:Env}{pv:List Addr}{S g:Sh}{m:Str→Option Value}{σ:Loc}{x:Str}
theorem Rel.unseen{h h':Heap}{m':Str→Option Value}(r:Rel ZV w C hb ZU pv S g m σ none h)(ok:EnvOk ZU pv)(hk:ZU.kindOf x=some .local)(hx:σ.lookup x=none)(hm:∀y,y≠x→m' y=m y)(hs:Heap.SameBut ZU.locals h h')(hn:∃ml,h'.Ns ZU.locals ml∧∀y,ZU.kindOf y=some .local→ml y=m' y):
  Ext w S g S h'∧Rel ZV w C hb ZU pv S g m' σ none h':=by
 obtain⟨ml,hns,hml⟩:=hn
 have va:VarsAt ZU h' m':=by
  refine⟨⟨ml,hns,hml⟩,λy c hc=>?_⟩
  have hyx:y≠x:=λz=>by
   subst z
   rw[ok.nloc y hk]at hc;cases hc
  obtain⟨o,ho,hd⟩:=r.vars.cell y c hc
  rw[hm y hyx]
  exact⟨o,(hs.2 c (ok.ne y c hc)).trans ho,hd⟩
 have ne:∀y a,σ.lookup y=some a→y≠x:=λy a e z=>by rw[z,hx]at e;cases e
 refine r.private ok.loc hs (let⟨o,_,_,ho,_⟩:=hns;⟨o,ho⟩) va (λy a e=>?_) (λi=>?_) id (λi j v a v' a' _ _ hn=>hn) λi v a y=>?_
 ·rw[hm y (ne y a e)];exact r.known y a e
 ·rw[hm _ λz=>?_]
  ·exact r.gho i
  ·have:=ok.gk i
   rw[z,hk]at this;cases this
 ·cases i with
  |none=>simp only[Slot]at y;cases y
  |some z=>
   obtain⟨y1,y2⟩:=y
   exact⟨y1,by rw[←hm z (ne z a y1)];exact y2⟩
theorem fH{A:Around}{E:Value→Shared→Prop}{s:Shared}{v:Value}{Q:Unit→Shared→Prop}(ok:EnvOk ZU pv)(r:Rel ZV w C hb ZU pv S g m σ none s.heap)(hk:ZU.kindOf x=some .local)(hx:σ.lookup x=none)
  (k:∀h' tk,Heap.SameBut ZU.locals s.heap h'→Rel ZV w C hb ZU pv S g (upd m x v) σ none h'→Q () {s with heap:=h',toks:=tk}):wpAny (model ZV w) A (storeName ZU x v) Q E s:=by
 obtain⟨ml,hn,hl⟩:=r.vars.loc
 refine wpAny_storeName_local hk hn (λh' hn' hs=>?_) (by rw[ok.kind];rfl)
 exact k h' _ hs (r.unseen (m':=upd m x v) ok hk hx (λy hy=>if_neg hy) hs ⟨_,hn',λy hy=>by
  by_cases q:y=x
  ·simp[q,upd]
  ·simp only[upd,if_neg q];exact hl y hy⟩).2
theorem sj{A:Around}{E:Value→Shared→Prop}{s:Shared}{pos:Pos}{Q:Unit→Shared→Prop}(ok:EnvOk ZU pv)(r:Rel ZV w C hb ZU pv S g m σ none s.heap)(hk:ZU.kindOf x=some .local)(hx:σ.lookup x=none)
  (k:∀h' tk m',Rel ZV w C hb ZU pv S g m' σ none h'→Q () {s with heap:=h',toks:=tk}):wpAny (model ZV w) A (do bindName ZU x .none;unbindBehindTheSuite ZU x pos) Q E s:=by
 have hp:(ZU.scope.kind == .class||(ZU.scope.kind == .module && ZU.locals != ZU.globals))=false:=by rw[ok.kind];rfl
 refine wpAny_bind (wpAny_bindName (fH ok r hk hx λh1 tk1 s1 r1=>?_))
 unfold unbindBehindTheSuite
 refine wpAny_onRaise ?_
 unfold unbindName
 refine wpAny_bind (wpAny_point (wpAny_bind ?_))
 unfold deleteName
 simp only[hk,hp]
 rw[if_neg (by decide)]
 obtain⟨ml,hn1,hl1⟩:=r1.vars.loc
 have hm1:ml x=some .none:=(hl1 x hk).trans (if_pos rfl)
 refine wpAny_bind (wpAny_nsDel_keeps hn1 λh2 v hn2 hs2=>?_)
 rw[hm1]
 simp only[Option.isSome_some,Bool.not_true,Bool.false_eq_true,if_false]
 refine wpAny_pure (wpAny_point (k h2 _ (λy=>if y=x then v else upd m x .none y) (r1.unseen ok hk hx (λy hy=>if_neg hy) hs2 ⟨_,hn2,λy hy=>?_⟩).2))
 by_cases q:y=x
 ·simp[q]
 ·simp only[if_neg q];exact hl1 y hy
end
end
section
section
variable{w:World}{hb:Heap}{ZU:Env}{pv:List Addr}{S g:Sh}{m:Str→Option Value}{σ:Loc}{mg mb:Str→Option Value}{x:Str}
theorem Lost.hbase{h2:Heap}{L':Addr}{base:Heap}{e t d:Addr}{tx:Tok}{fl:Value}{h':Heap}(l:Lost w hb ZU pv S g m σ h2 L' base e t d x tx fl h')(ok:EnvOk ZU pv):∀a o,hb.get? a=some o→h'.get? a=some o:=λa o ho=>by
 have hs:=l.rel.base a o ho
 refine l.fly.st a o (l.cov a o (λz=>?_) (λz=>l.gone.nS (z ▸ Sh.has_o hs)) (l.rel.st.o a o hs))
 exact(l.rel.priv _ ok.loc).2.1 (z ▸ Sh.has_o hs)
theorem Lost.go{h2:Heap}{L':Addr}{base:Heap}{e t d:Addr}{tx:Tok}{fl fl':Value}{h' h'':Heap}(l:Lost w hb ZU pv S g m σ h2 L' base e t d x tx fl h')(y:Fly base [ZU] e t d fl' h'')(u:h'.UpToSlots h''):Lost w hb ZU pv S g m σ h2 L' base e t d x tx fl' h'':=
 ⟨l.rel,l.gone,l.cov,y,l.up.trans u,l.msg.up u,l.nd⟩
theorem Lost.back{h2:Heap}{L':Addr}{base:Heap}{e t d:Addr}{tx:Tok}{fl:Value}{h':Heap}(l:Lost w hb ZU pv S g m σ h2 L' base e t d x tx fl h')(ok:EnvOk ZU pv)(hσ:∀x a,σ.lookup x=some a→(∃t,a= .f t)∨∃ts,a= .ol ts):
  Ext w S g S h'∧Rel pw w 318 hb ZU pv S g m σ none h'∧(∃T,MsgX h' e t d (.ref T) (.str x tx))∧e≠ZU.locals∧d≠ZU.locals:=by
 obtain⟨a,b⟩:=l.rel.but ok l.gone hσ (λb o h1 h2 ho=>l.fly.st b o (l.cov b o h1 h2 ho)) l.up
 obtain⟨T,oT,ts,he,_⟩:=l.fly.tr
 obtain⟨ml,⟨o,es,ep,ho,hd,_,hes⟩,hml⟩:=b.vars.loc
 refine⟨a,b,⟨T,he,l.msg⟩,λz=>?_,λz=>?_⟩
 ·rw[z,ho]at he
  cases he
  cases hd
 ·obtain⟨_,⟨o2,_,_,ho2,_⟩,_⟩:=l.rel.vars.loc
  have:=l.nd
  rw[z,ho2]at this;cases this
theorem g7(H:Hd w hb mg mb)(ok:EnvOk ZU pv){A:Around}{E:Value→Shared→Prop}{s:Shared}{Q:Flow→Shared→Prop}(hfr:A.frames=some [ZU])(hf:ZU.frame=some ZU.locals)
  (k1:ZU.kindOf "Refusal"=some .globalImplicit) (k2:ZU.kindOf "error"=some .local) (k3:ZU.kindOf "said"=some .local) (hσ:∀x a,σ.lookup x=some a→(∃t,a= .f t)∨∃ts,a= .ol ts) (he:σ.lookup ("error":Str)=none)
  {h2:Heap} {L':Addr} {base:Heap} {e t d:Addr} {tx:Tok} (l:Lost w hb ZU pv S g m σ h2 L' base e t d x tx .none s.heap) {np p1 p2 p3 p4 pos:Pos}
  (k:∀h' tk m',Ext w S g S h'→Rel pw w 318 hb ZU pv S g m' (σ.set "said" (.f (.str x))) none h'→Q .next {s with heap:=h',toks:=tk}) :
  wpAny (model pw w) A (noteFrame (.ref e) ZU) (λ_ s₂=>wpAny (model pw w) A (setFlight (.ref e) none) (λ_ s₃=>wpAny (model pw w) A (handleBy (.ref e) ZU [.ExceptHandler (some (.Name "Refusal" np)) (some "error") [.Assign [.Name "said" p1] (.Attribute (.Name "error" p2) "message" p3) p4] pos]) Q E s₃) E s₂) E s:=by
 obtain⟨hh,gg,dr,tk,os⟩:=s
 refine BQ (outer:=[]) hfr hf l.fly λha ya ua=>?_
 have la:=l.go ya ua
 refine iW (s:=⟨ha,gg,dr,tk,os⟩) la.fly λhc yc uc=>?_
 have lc:=la.go yc uc
 have Xc:(K w.params).In hc:=H.kin.keeps (lc.hbase ok)
 obtain⟨T,oT,ts,hec,_⟩:=lc.fly.tr
 refine wpAny_handleBy_cons (codeAny_handlers_test (dq (s:=⟨hc,gg,dr,tk,os⟩) H.gl ok (lc.hbase ok) (wj H k1) ?_)) (by intro q;cases q)
 refine wpAny_excMatches_sub_self (eX Xc) hec rfl (by decide +kernel) ?_
 dsimp only
 refine codeAny_handlers_suite_as (iW (s:=⟨hc,gg,dr,tk,os⟩) lc.fly λhd yd ud=>?_)
 have ld:=lc.go yd ud
 obtain⟨ed,rd,⟨T2,mx⟩,ne1,ne2⟩:=ld.back ok hσ
 refine fH (s:=⟨hd,gg,dr,tk,os⟩) ok rd k2 he λh4 tk4 s4 r4=>?_
 have X4:(K w.params).In h4:=H.kin.keeps r4.hbIn
 have m4:MsgX h4 e t d (.ref T2) (.str x tx):=by
  refine⟨(s4.2 e ne1).trans mx.obj,?_⟩
  obtain⟨od,es,n,h1,h2,h3,h4⟩:=mx.ns
  exact⟨od,es,n,(s4.2 d ne2).trans h1,h2,h3,h4⟩
 refine wpAny_execs_cons (wpAny_Assign_Name (Attribute_any_ (wpAny_Name (au (s:=⟨h4,gg,dr,tk4,os⟩) ok r4.vars (v:=.ref e) (if_pos rfl) (.inl k2) ?_) (by decide))))
 refine xq X4 m4 ?_
 refine(r4.res (v:=.str x tx) (t:=.str x) (.str x tx)).store (s:=⟨h4,gg,dr,tk4+1,os⟩) ok (.inl k3) λh5 tk5 e5 r5=>?_
 refine wpAny_execs_nil ?_
 dsimp only
 refine sj (s:=⟨h5,gg,dr,tk5,os⟩) ok r5 k2 ?_ λh6 tk6 m6 r6=>k h6 tk6 m6 ⟨.refl S,r6.st,r6.kp,λ_ _ z=>z⟩ r6
 rw[ao,if_neg (by decide +kernel)]
 exact he
end
end
section
section
variable{w:World}{hb:Heap}{ZU:Env}{pv:List Addr}{σ σ' ZZ:Loc}{P:Addr}{ps:Array Value}{mg mb:Str→Option Value}{ss:List Stmt}
noncomputable def LwJ(w:World)(hb:Heap)(ZU:Env)(P:Addr)(pv:List Addr)(ps:Array Value)(ss:List Stmt)(σ:Loc):Prop:=
 ∀(A:Around)(E:Value→Shared→Prop)(S g:Sh)(m:Str→Option Value)(s:Shared),Rm 75 A→A.frames=some [ZU]→EnvOk ZU pv→(∀b,¬ g.has b)→S.o P=some (tabObj ps)→Rel pw w 318 hb ZU pv S g m σ none s.heap→
  wpAny (model pw w) A (execs ss ZU) (λf s'=>f= .ret (.bool true)∧∃h' tk,s'={s with heap:=h',toks:=tk}∧(∀a x,hb.get? a=some x→h'.get? a=some x)∧∃ps',h'.get? P=some (tabObj ps')) E s
theorem pg{st:Stmt}(a:du pw w 318 hb 75 ZU pv st σ (.nx ZZ))(b:LwJ w hb ZU P pv ps ss ZZ):LwJ w hb ZU P pv ps (st ::ss) σ:=λA E S g m s rm fr ok ge hP r=>
 wpAny_execs_cons (a A E S g m s _ rm ok r λS1 h1 tk m' e r'=>wpAny_mono (b A E S1 g m' {s with heap:=h1,toks:=tk} rm fr ok ge (e.le.o _ _ hP) r') (λf s' q=>⟨q.1,let⟨h',tk',e1,e2⟩:=q.2;⟨h',tk',e1,e2⟩⟩) λ_ _ q=>q)
theorem ch{x:Str}{a:V}(hx:σ.lookup x=some a)(b:LwJ w hb ZU P pv ps ss (σ.set x (.f a.frz))):LwJ w hb ZU P pv ps ss σ:=λA E S g m s rm fr ok ge hP r=>by
 obtain⟨v,hm⟩:=r.known x _ hx
 obtain⟨S',e,q,r'⟩:=r.freeze (σ':=σ.set x (.f a.frz)) (ρ':=none) (i:=some x) (v:=v) (a:=a) ok.loc ⟨hx,hm⟩ (cD r.known ⟨v,hm⟩) λj v' a' y=>set_slot hx hm y
 exact b A E S' g m s rm fr ok ge (e.le.o _ _ hP) r'
theorem r9{m:Str→Option Value}{i:Option Str}{v:Value}{a:V}(h:∀x a,σ'.lookup x=some a→σ.lookup x=some a)(y:Slot m σ' none i v a):Slot m σ none i v a:=by
 cases i with
 |none=>exact y
 |some z=>exact⟨h _ _ y.1,y.2⟩
theorem Rel.less{S g:Sh}{m:Str→Option Value}{h₀:Heap}(h:∀x a,σ'.lookup x=some a→σ.lookup x=some a)(r:Rel pw w 318 hb ZU pv S g m σ none h₀):Rel pw w 318 hb ZU pv S g m σ' none h₀:=
 {r with known:=λx a e=>r.known x a (h x a e),slots:=r.slots.imp λi v a y=>r9 h y}
theorem xe(h:∀x a,σ'.lookup x=some a→σ.lookup x=some a)(b:LwJ w hb ZU P pv ps ss σ'):LwJ w hb ZU P pv ps ss σ:=λA E S g m s rm fr ok ge hP r=>
 b A E S g m s rm fr ok ge hP (r.less h)
theorem uf{Z:Orc}{E:Ev}{kd:Kd}(hX:SX pw w 318 hb 75 Z E)(ek:∀x,ZU.kindOf x=kd x)(ok:EnvOk ZU pv)(hc:∀x c,Z.st x=true→ZU.cells.lookup x=some c→c∈pv):∀(a b:List Stmt){σ ZZ:Loc},exs E kd a σ=some (.nx ZZ)→LwJ w hb ZU P pv ps b ZZ→LwJ w hb ZU P pv ps (a ++ b) σ
 |[],b,σ,ZZ,h,y=>by cases h;exact y
 |s ::a,b,σ,ZZ,h,y=>by
  have h:((E.X kd s σ).bind λo=>match o with|.nx ZZ=>exs E kd a ZZ|o=>some o)=some (.nx ZZ):=h
  cases hx:E.X kd s σ with
  |none=>rw[hx]at h;cases h
  |some o=>
   rw[hx]at h
   cases o with
   |nx ZY=>exact pg (hX kd s σ _ hx ZU pv ek ok hc) (uf hX ek ok hc a b h y)
   |_=>cases h
theorem VOk.true_e{ZV:Program}{w:World}{C:Addr}{S:Sh}{h:Heap}{v:Value}{l:List Addr}(q:VOk ZV w C S h v (.f (.bool true)) l):v= .bool true:=by
 cases q using VOk.fE with|f q=>cases q using R.boolE;rfl
theorem Cx{Z:Orc}{E:Ev}{kd:Kd}(hX:SX pw w 318 hb 75 Z E)(ek:∀x,ZU.kindOf x=kd x)(ok:EnvOk ZU pv)(hc:∀x c,Z.st x=true→ZU.cells.lookup x=some c→c∈pv)(a b:List Stmt):∀{σ ZZ:Loc},exs E kd a σ=some (.rt (.f (.bool true)) ZZ)→LwJ w hb ZU P pv ps (a ++ b) σ:=by
 induction a with
 |nil=>intro σ ZZ h;cases h
 |cons s a ih=>
  intro σ ZZ h
  refine al (show((E.X kd s σ).bind λo=>match o with|.nx ZZ=>exs E kd a ZZ|o=>some o)=some (.rt (.f (.bool true)) ZZ)from h) λo hx h=>?_
  cases o with
  |nx ZY=>exact pg (hX kd s σ _ hx ZU pv ek ok hc) (ih h)
  |rt v ZY=>
   have hx:E.X kd s σ=some (.rt (.f (.bool true)) ZZ):=hx.trans h
   intro A E S g m s rm fr ok ge hP r
   refine wpAny_execs_cons (hX kd _ σ _ hx ZU pv ek ok hc A E S g m s _ rm ok r λS1 h1 tk v m' e r'=>⟨?_,h1,tk,rfl,r'.hbIn,ps,r'.st.o _ _ (e.le.o _ _ hP)⟩)
   obtain⟨fp,a1,_⟩:=r'.slots
   rw[VOk.true_e (a1 none v _ rfl).1]
  |_=>cases h
theorem cf{Z:Orc}(hX:SX pw w 318 hb 75 Z (Et Z))(ek:∀x,ZU.kindOf x=ae 123 x)(ok:EnvOk ZU pv)(hc:∀x c,Z.st x=true→ZU.cells.lookup x=some c→c∈pv)(i j:Nat)(h:exs (Et Z) (ae 123) (sg (ak 123) i j) σ=some (.nx ZZ))(hij:Nat.ble i j=true)(b:LwJ w hb ZU P pv ps ((ak 123).drop j) ZZ):LwJ w hb ZU P pv ps ((ak 123).drop i) σ:=by
 have e:(ak 123).drop i=sg (ak 123) i j ++ (ak 123).drop j:=by
  unfold sg
  have:=Nat.le_of_ble_eq_true hij
  conv=>lhs;rw[←List.take_append_drop (j - i) ((ak 123).drop i)]
  rw[List.drop_drop]
  congr 2
  omega
 rw[e]
 exact uf hX ek ok hc _ _ h b
theorem kA{Z:Orc}(hX:SX pw w 318 hb 75 Z (Et Z))(ek:∀x,ZU.kindOf x=ae 123 x)(ok:EnvOk ZU pv)(hc:∀x c,Z.st x=true→ZU.cells.lookup x=some c→c∈pv)(i j:Nat)(h:∃ZZ,exs (Et Z) (ae 123) (sg (ak 123) i j) σ=some (.rt (.f (.bool true)) ZZ))(hij:Nat.ble i j=true):LwJ w hb ZU P pv ps ((ak 123).drop i) σ:=by
 obtain⟨ZZ,h⟩:=h
 have e:(ak 123).drop i=sg (ak 123) i j ++ (ak 123).drop j:=by
  unfold sg
  have:=Nat.le_of_ble_eq_true hij
  conv=>lhs;rw[←List.take_append_drop (j - i) ((ak 123).drop i)]
  rw[List.drop_drop]
  congr 2
  omega
 rw[e]
 exact Cx hX ek ok hc _ _ h
end
end
section
theorem bJ:∀{ts:List T},(∀t∈ts,t.noq=true)→T.noqs ts=true
 |[],_=>rfl
 |t ::ts,h=>Bool.and_eq_true_iff.mpr ⟨h t (.head _),bJ λt ht=>h t (.tail _ ht)⟩
theorem bB{n:Nat}{t:T}(h:Lay n t):t.noq=true:=by
 induction h with
 |none|bool|int|str=>rfl
 |list n h ih=>exact bJ ih
 |tup n h ih=>exact bJ ih
theorem cz{k:Str}{its:List T}(h:∀t∈its,t.noq=true){a:T}(ha:a.noq=true):(T.vec (.str k) (.list its) a).noq=true:=by
 have hs:(T.str k).noq=true:=rfl
 exact Bool.and_eq_true_iff.mpr ⟨Bool.and_eq_true_iff.mpr ⟨hs,bJ h⟩,ha⟩
theorem di:T.none.noq=true:=rfl
theorem dx(x:Str):(T.str x).noq=true:=rfl
theorem oJ{r:Nat}{its:List T}(h:∀t∈its,t.noq=true):(vt r its).noq=true:=cz h di
theorem pu{cs lv:List T}(h:∀t∈cs,t.noq=true)(h2:∀t∈lv,t.noq=true):(bp cs lv).noq=true:=by
 refine cz h ?_
 unfold gF
 show T.noqs _=true
 refine bJ λt ht=>?_
 simp only[List.mem_cons,List.not_mem_nil,or_false]at ht
 rcases ht with rfl|rfl
 ·exact cz h2 di
 ·exact cz (λt ht=>by rw[List.mem_singleton.mp ht];exact dx _) di
theorem vj{c:Col}(ok:ColOk c):∀t∈bX c,t.noq=true:=λt ht=>by
 obtain⟨o,ho,rfl⟩:=List.mem_map.mp ht
 exact bB (ei (ok.o o ho))
theorem xS{c:Col}(ok:ColOk c):(aU c).noq=true:=by
 unfold aU
 split
 ·refine pu (λt ht=>?_) λt ht=>?_
  ·obtain⟨o,ho,rfl⟩:=List.mem_map.mp ht
   have:∀o,o < 8→Lay 1 (zr o):=by apply dG<;>first|exact .none _|exact .int _ _
   exact bB (this o (ok.o o ho))
  ·simp only[List.mem_cons,List.not_mem_nil,or_false]at ht
   rcases ht with rfl|rfl<;>exact dx _
 ·exact oJ (vj ok)
theorem pI(ks:List Col):∀t∈ks.map hdT,t.noq=true:=λt ht=>bB (qd ks t ht)
theorem pE{ks:List Col}(ok:ColsOk ks):(aR ks).noq=true:=by
 unfold aR
 refine cz (λt ht=>?_) ?_
 ·obtain⟨c,hc,rfl⟩:=List.mem_map.mp ht
  exact xS (ok.c c hc)
 ·show T.noqs _=true
  refine bJ λt ht=>?_
  rw[List.mem_singleton.mp ht]
  exact cz (pI ks) di
theorem w3{ks:List Col}(ok:ColsOk ks):(gA ks).noq=true:=oJ λt ht=>bB (gR ok t ht)
theorem yM(ks:List Col):(gD ks).noq=true:=pu (λt ht=>bB (dj _ t ht)) λt ht=>bB (fk _ t ht)
theorem xJ{a b h1 h2:T}{n:Nat}(ha:a.noq=true)(hb:b.noq=true)(h1n:h1.noq=true)(h2n:h2.noq=true):(zw [a,b] [h1,h2] (vt 1 ((List.range n).map ab))).noq=true:=by
 refine cz (λt ht=>?_) ?_
 ·simp only[List.mem_cons,List.not_mem_nil,or_false]at ht
  rcases ht with rfl|rfl
  ·exact ha
  ·exact hb
 ·unfold KI
  show T.noqs _=true
  refine bJ λt ht=>?_
  simp only[List.mem_cons,List.not_mem_nil,or_false]at ht
  rcases ht with rfl|rfl|rfl
  ·refine cz (λt ht=>?_) di
   simp only[List.mem_cons,List.not_mem_nil,or_false]at ht
   rcases ht with rfl|rfl
   ·exact h1n
   ·exact h2n
  ·exact cz (λt ht=>by rw[List.mem_singleton.mp ht];exact dx _) di
  ·exact oJ λt ht=>bB (dj _ t ht)
theorem qf{ks:List Col}(ok:ColsOk ks):(bw ks).noq=true:=xJ (w3 ok) (yM ks) (dx _) (dx _)
theorem vh(ks:List Col):T.noqs (bA ks)=true:=bJ λt ht=>by
 unfold bA at ht
 split at ht
 ·rw[List.mem_singleton.mp ht];exact dx _
 ·exact nomatch ht
end
section
noncomputable def hdl(np p1 p2 p3 p4 pos:Pos):ExceptHandler:=.ExceptHandler (some (.Name "Refusal" np)) (some "error") [.Assign [.Name "said" p1] (.Attribute (.Name "error" p2) "message" p3) p4] pos
theorem yR:(ak 123).drop 12= .Try [.Assign [.Name "got" ⟨802,8,802,11⟩] (.Call (.Name "stack_frame" ⟨802,14,802,25⟩) [.Name "stacked" ⟨802,26,802,33⟩,.Name "notes" ⟨802,35,802,40⟩] [] ⟨802,14,802,41⟩) ⟨802,8,802,41⟩]
 [hdl ⟨803,11,803,18⟩ ⟨804,8,804,12⟩ ⟨804,15,804,20⟩ ⟨804,15,804,28⟩ ⟨804,8,804,28⟩ ⟨803,4,804,28⟩] [] [] ⟨801,4,804,28⟩ ::(ak 123).drop 13:=by rfl'
section
variable{w:World}{hb:Heap}{ZU:Env}{pv:List Addr}{S g:Sh}{m:Str→Option Value}{σ:Loc}{mg mb:Str→Option Value}{n:Nat}{P:Addr}{ps:Array Value}
theorem ej{a:Addr}{fd:FuncData}{names:List Str}{body:List Stmt}(F:FnAt hb a fd names body):bq pw w hb (.ref a):=let⟨_,ho,hd⟩:=F.obj;lG ho hd
theorem lE(H:Hd w hb mg mb)(ok:EnvOk ZU pv){f x y:Str}{fv:Value}{t:T}{c:List T}{p p1 p2 pos:Pos}{A:Around}{E:Value→Shared→Prop}{s:Shared}{Q:Value→Shared→Prop}(r:Rel pw w 318 hb ZU pv S g m σ none s.heap)(gn:GN mg mb ZU f fv)(ko:bq pw w hb fv)
  (hx:σ.lookup x=some (.f t)) (hy:σ.lookup y=some (.ol c)) (vx:bg ZU x) (vy:bg ZU y) (k:∀v l,R pw w 318 S v t→m y=some (.ref l)→wpAny (model pw w) A (call fv [v,.ref l]) Q E s) :
  wpAny (model pw w) A (eval (.Call (.Name f p) [.Name x p1,.Name y p2] [] pos) ZU) Q E s:=by
 obtain⟨v,fp,hm,ow,_⟩:=r.own hx
 obtain⟨l,vs₀,k₀,hl,_,_⟩:=r.ownL hy
 have pl:cn [.Name x p1,.Name y p2]:=b0 (j7 rfl rfl)
 refine wpAny_Call_NameR (dq H.gl ok r.hbIn gn (callWith_of (P:=λh=>∀a x,hb.get? a=some x→h.get? a=some x) (by simp only[pl.2 ZU pos,List.any_nil,Bool.or_false]) ko (bb pl.1 ?_)))
 refine spliced_more (wpAny_Name (au ok r.vars hm vx.1 ?_) vx.2) (a0 rfl _ ZU)
 refine spliced_more (wpAny_Name (au ok r.vars hl vy.1 ?_) vy.2) (a0 rfl _ ZU)
 refine spliced_none ⟨r.hbIn,?_⟩
 cases ow using VOk.fE with
 |f q=>exact k v l q hl
theorem fj:(bo 116).names=(["df","notes"]:List Str):=by rfl'
theorem ec{x:Str}(h:ZU.kindOf x=some .local)(hd:(x == ("__debug__":Str))=false):bg ZU x:=⟨.inl h,hd⟩
theorem yJ(H:Hd w hb mg mb)(z:OrcOk pw w 318 hb mg mb 70 dn)(ek:∀x,ZU.kindOf x=ae 123 x){ks:List Col}(okk:ColsOk ks)(h0:st ks≠[])(hst:σ.lookup ("stacked":Str)=some (.f (aR ks)))(hno:σ.lookup ("notes":Str)=some (.ol []))
  (b:LwJ w hb ZU P pv ps ((ak 123).drop 13) ((σ.set "notes" (.ol (bA ks))).set "got" (.f (bw ks)))):LwJ w hb ZU P pv ps ((ak 123).drop 12) σ:=λA E S g m s rm fr ok ge hP r=>by
 rw[yR]
 have kl:∀x:Str,ae 123 x=some .local→ZU.kindOf x=some .local:=λx h=>(ek x).trans h
 obtain⟨a,fd,dv,gv,D⟩:=dP (C:=318) (mb:=mb) H.kin H.g
 have hdv:dv.length=1:=by
  have:=(D.dvR S).length
  rw[this]
  show(bo 116).dflt.length=1
  have e:(bo 116).dflt=[.none]:=by rfl'
  rw[e];rfl
 refine wpAny_execs_cons (wpAny_Try_except (wpAny_execs_cons (wpAny_Assign_Name (lE H ok r (c:=[]) ⟨(ek _).trans (by rfl'),by decide +kernel,gv⟩ (ej D.at_) hst hno (ec (kl _ (by rfl')) (by decide +kernel)) (ec (kl _ (by rfl')) (by decide +kernel)) λv l rv hl=>?_))))
 have hlen:(bo 116).names.length=2:=by rw[fj];rfl
 have hbd:∀S,peek (K w.params) S (bindArgs fd ⟨[v,.ref l],[]⟩)=some ((bo 116).names.zip [v,.ref l]):=λS=>by
  have h:=D.bind [v,.ref l] (by rw[hlen];exact Nat.le_refl _) (by rw[hlen,hdv];exact Nat.le_succ 2) S
  rw[hlen,hdv]at h
  have e:[v,.ref l] ++ dv.drop (1 - (2 - [v,.ref l].length))=[v,.ref l]:=by
   rw[List.drop_eq_nil_of_le (by rw[hdv];exact Nat.le_refl 1),List.append_nil]
  rwa [e]at h
 have hrun:=rN okk h0 l
 rw[List.drop_zero]at hrun
 have henv:(bo 116).names.zip ([aR ks,.opq 0 l].map V.f) ++ [(ghost 0,.ol [])]=Ce (aR ks) l []:=by rw[fj];rfl
 refine eJ (n:=70) (ts:=[aR ks,.opq 0 l]) (o:=.rt (.f (bw ks)) (Ac ks l)) (vs:=[v,.ref l]) (qq:=λi=>if i=0 then l else S.q i) H.gl D.at_ (by rw[hlen];rfl) (λenv' pv' hs ok' hc=>?_) (.inl rfl) (c':=bA ks) rfl (.inr ⟨qf okk,vh ks⟩) (rm.le (by decide)) ok r hno hl (if_pos rfl) (by rw[T.noqs]) (kp_binds (H.kin.keeps r.hbIn) hbd) ?_ λS' h' tk u e' r'=>?_
 ·rw[henv]
  exact kj (bx (W:=100000) H.gl H.nm z 40).2.2 (λx=>by show env'.scope.names.lookup x=(bo 116).kd x;rw[←D.kd,←hs]) ok' (λx c _ h=>hc x c h) hrun
 ·exact .cons (rv.rq (pE okk)) (.cons (.opq 0 (show(if(0:Nat)=0 then l else S.q 0)=l from if_pos rfl)) .nil)
 ·refine r'.store (s:={s with heap:=h',toks:=tk}) ok (.inl (kl _ (by rfl'))) λh2 tk2 e2 r2=>?_
  refine wpAny_execs_nil (wpAny_execs_nil ?_)
  refine wpAny_mono (b A E S' g _ {s with heap:=h2,toks:=tk2} rm fr ok ge (e2.le.o _ _ (e'.le.o _ _ hP)) r2) (λf s' q=>⟨q.1,let⟨h3,tk3,e1,e2⟩:=q.2;⟨h3,tk3,e1,e2⟩⟩) λ_ _ q=>q
noncomputable def dW(σ:Loc):Prop:=∀x a,σ.lookup x=some a→(∃t,a= .f t)∨∃ts,a= .ol ts
theorem fU{x:Str}{ts:List T}(h:dW σ):dW (σ.set x (.ol ts)):=λy a e=>by
 rw[ao]at e
 split at e
 ·cases e;exact .inr ⟨_,rfl⟩
 ·exact h y a e
theorem uQ(H:Hd w hb mg mb)(z:OrcOk pw w 318 hb mg mb 70 dn)(ek:∀x,ZU.kindOf x=ae 123 x)(hf:ZU.frame=some ZU.locals){ks:List Col}(okk:ColsOk ks)(h0:ks≠[])(he:st ks=[])(hst:σ.lookup ("stacked":Str)=some (.f (aR ks)))(hno:σ.lookup ("notes":Str)=some (.ol []))
  (hσ:dW σ) (her:σ.lookup ("error":Str)=none) (b:LwJ w hb ZU P pv ps ((ak 123).drop 13) ((σ.set "notes" (.ol [])).set "said" (.f nR))):LwJ w hb ZU P pv ps ((ak 123).drop 12) σ:=λA E S g m s rm fr ok ge hP r=>by
 rw[yR]
 have kl:∀x:Str,ae 123 x=some .local→ZU.kindOf x=some .local:=λx h=>(ek x).trans h
 obtain⟨a,fd,dv,gv,D⟩:=dP (C:=318) (mb:=mb) H.kin H.g
 have hdv:dv.length=1:=by
  have:=(D.dvR S).length
  rw[this]
  show(bo 116).dflt.length=1
  have e:(bo 116).dflt=[.none]:=by rfl'
  rw[e];rfl
 refine wpAny_execs_cons (wpAny_Try_except (wpAny_execs_cons (wpAny_Assign_Name (lE H ok r (c:=[]) ⟨(ek _).trans (by rfl'),by decide +kernel,gv⟩ (ej D.at_) hst hno (ec (kl _ (by rfl')) (by decide +kernel)) (ec (kl _ (by rfl')) (by decide +kernel)) λv l rv hl=>?_))))
 have hlen:(bo 116).names.length=2:=by rw[fj];rfl
 have hbd:∀S,peek (K w.params) S (bindArgs fd ⟨[v,.ref l],[]⟩)=some ((bo 116).names.zip [v,.ref l]):=λS=>by
  have h:=D.bind [v,.ref l] (by rw[hlen];exact Nat.le_refl _) (by rw[hlen,hdv];exact Nat.le_succ 2) S
  rw[hlen,hdv]at h
  have e:[v,.ref l] ++ dv.drop (1 - (2 - [v,.ref l].length))=[v,.ref l]:=by
   rw[List.drop_eq_nil_of_le (by rw[hdv];exact Nat.le_refl 1),List.append_nil]
  rwa [e]at h
 have henv:(bo 116).names.zip ([aR ks,.opq 0 l].map V.f) ++ [(ghost 0,.ol [])]=Ce (aR ks) l []:=by rw[fj];rfl
 refine zV (n:=70) (ts:=[aR ks,.opq 0 l]) (vs:=[v,.ref l]) (c':=[]) (x:=qp) (σ':=mz (aR ks) l [] (ks.map hdT) (.f (.list []))) (qq:=λi=>if i=0 then l else S.q i) H D.at_ (by rw[hlen];rfl) (λenv' pv' hs ok' hc=>?_) rfl (by rw[T.noqs]) (rm.le (by decide)) ok r hno hl (if_pos rfl) (by rw[T.noqs]) fr hf (kp_binds (H.kin.keeps r.hbIn) hbd) ?_ λS' h2 L' base h' tk e t d tx ex lo=>?_
 ·rw[henv]
  exact ui H z okk h0 he l (λx=>by show env'.scope.names.lookup x=(bo 116).kd x;rw[←D.kd,←hs]) ok' hc
 ·exact .cons (rv.rq (pE okk)) (.cons (.opq 0 (show(if(0:Nat)=0 then l else S.q 0)=l from if_pos rfl)) .nil)
 ·refine g7 H ok fr hf ((ek _).trans (by rfl')) (kl _ (by rfl')) (kl _ (by rfl')) (fU hσ) ?_ lo λh3 tk3 m3 e3 r3=>?_
  ·rw[ao,if_neg (by decide +kernel)];exact her
  ·exact wpAny_mono (b A E S' g m3 {s with heap:=h3,toks:=tk3} rm fr ok ge (e3.le.o _ _ (ex.le.o _ _ hP)) r3) (λf s' q=>⟨q.1,let⟨h4,tk4,e1,e2⟩:=q.2;⟨h4,tk4,e1,e2⟩⟩) λ_ _ q=>q
end
end
section
section
variable{ZV:Program}{w:World}{C:Addr}{S S':Sh}{P:Addr}{ps:Array Value}
theorem uF{a:Addr}{x:Obj}(hP:S.o P=some (tabObj ps))(e:S.o a=some x)(hx:∀vs,x.data≠ .fields vs):a≠P:=λz=>by
 rw[z,hP]at e;cases e;exact hx _ rfl
theorem R.tab(hS:∀a x,S.o a=some x→a≠P→S'.o a=some x)(hv:∀a x,S.v a=some x→S'.v a=some x)(hP:S.o P=some (tabObj ps)){v:Value}{t:T}(h:R ZV w C S v t)(hn:t.noq=true):R ZV w C S' v t:=
 (R.moves (λa x e hx=>hS a x e (uF hP e hx)) hv).1 h hn
theorem RA.tab(hS:∀a x,S.o a=some x→a≠P→S'.o a=some x)(hv:∀a x,S.v a=some x→S'.v a=some x)(hP:S.o P=some (tabObj ps)){vs:List Value}{ts:List T}(h:RA ZV w C S vs ts)(hn:T.noqs ts=true):RA ZV w C S' vs ts:=
 (R.moves (λa x e hx=>hS a x e (uF hP e hx)) hv).2 h hn
end
noncomputable def qQ:Arguments:=match Gi with
 |.FunctionDef _ a _ _ _ _ _ _ _ _=>a
 |_=>default
noncomputable def qN:Scope:=match Gi with
 |.FunctionDef _ _ _ _ _ _ sc _ _ _=>sc
 |_=>default
theorem FD:kP pw= .FunctionDef "_law_watched" qQ sF [] none [] qN none "_law_watched" ⟨829,4,831,75⟩:=by rfl'
theorem Dv:(ak 123).drop 27= .FunctionDef "_law_watched" qQ sF [] none [] qN none "_law_watched" ⟨829,4,831,75⟩ ::(ak 123).drop 28:=by rfl'
theorem dD:qN.names=([("column",.local),("seen",.free),("simple",.free),("_law_told",.globalImplicit),("Vector",.globalImplicit),("len",.globalImplicit)]:List (Str×NameKind)):=by rfl'
theorem BC{ZU:Env}{c1 c2:Addr}(e1:ZU.cells.lookup ("seen":Str)=some c1)(e2:ZU.cells.lookup ("simple":Str)=some c2):closureFor qN ZU=pure ([("simple",c2),("seen",c1)]:List (Str×Addr)):=by
 have q1:cellOf ZU "seen"=pure c1:=by unfold cellOf;rw[e1]
 have q2:cellOf ZU "simple"=pure c2:=by unfold cellOf;rw[e2]
 unfold closureFor
 rw[dD]
 simp[q1,q2]
theorem Ap{qual:Str}{clos:List (Str×Addr)}{doc pm cv ct:Value}:ly pw (fnX "_law_watched" qual qQ sF qN clos .none .none doc pm none cv ct):=by
 unfold ly
 rw[FD]
 exact⟨rfl,rfl,rfl,rfl,rfl,rfl,rfl⟩
section
variable{w:World}{hb:Heap}{ZU:Env}{pv pv':List Addr}{S g:Sh}{m:Str→Option Value}{σ:Loc}{mg mb:Str→Option Value}{P:Addr}{ps:Array Value}{c1 c2 l f c':Addr}{h h2:Heap}{b:Bool}
noncomputable def td(S:Sh)(P:Addr)(ps:Array Value)(f:Addr)(fo:Obj)(c':Addr)(oc:Obj)(c1:Addr)(o1:Obj)(c2:Addr)(o2:Obj)(l:Addr):Sh:=
 {o:=λa=>if a=P then some (tabObj ps)else if a=f then some fo else if a=c' then some oc else if a=c1 then some o1 else if a=c2 then some o2 else S.o a,v:=S.v,q:=λi=>if i=0 then l else S.q i}
noncomputable abbrev mW(m:Str→Option Value)(l:Addr):Str→Option Value:=λy=>if y=ghost 0 then some (.ref l)else m y
noncomputable abbrev Ht(σ:Loc)(l:Addr):Loc:=(σ.set "seen" (.f (.opq 0 l))).set (ghost 0) (.ol [])
theorem Rel.made{qs:Array Value}{fo oc:Obj}{o1 o2:Obj}{fd:FuncData}{vs:Array Value}{t:Tok}(r:Rel pw w 318 hb ZU pv S g m σ none h)(ok:EnvOk ZU pv)(ge:∀b,¬ g.has b)(hP:S.o P=some (tabObj qs))(hbP:hb.get? P=none)
  (hx:∀b o,b≠P→h.get? b=some o→h2.get? b=some o) (hP2:h2.get? P=some (tabObj ps)) (hf:h2.get? f=some fo) (hc:h2.get? c'=some oc) (ff:h.get? f=none) (fc:h.get? c'=none)
  (hfo:fo.data= .func fd) (hfd:ly pw fd) (hcda:fd.code= .ref c') (hcdv:oc.data= .fields vs∧vs[1]?=some (.str fd.qualname t)) (hcl:fd.closure=([("simple",c2),("seen",c1)]:List (Str×Addr)))
  (e1:ZU.cells.lookup ("seen":Str)=some c1) (e2:ZU.cells.lookup ("simple":Str)=some c2) (gc:ZU.cells.lookup (ghost 0)=none)
  (hpv:∀b∈pv',b∈pv∧b≠c1∧b≠c2) (hp1:c1∈pv) (hp2:c2∈pv)
  (hs:σ.lookup ("seen":Str)=some (.ol [])) (hsi:σ.lookup ("simple":Str)=some (.f (.bool b))) (pl:dW σ) (nq:∀x a,σ.lookup x=some a→a.noq=true) (hm:m "seen"=some (.ref l))
  (h1:h.get? c1=some o1) (hd1:o1.data= .cell (m "seen")) (h2':h.get? c2=some o2) (hd2:o2.data= .cell (m "simple")) (hff:f≠c') :
  Rel pw w 318 hb ZU pv' (td S P ps f fo c' oc c1 o1 c2 o2 l) g (mW m l) (Ht σ l) (some (.ref f,.f (.clo b))) h2:=by
 have hPh:=r.st.o P _ hP
 have neP:∀a o,h.get? a=some o→(∀vs,o.data≠ .fields vs)→a≠P:=λa o e hd z=>by rw[z,hPh]at e;cases e;exact hd _ rfl
 have n1:c1≠P:=neP _ _ h1 λ_ z=>by rw[hd1]at z;cases z
 have n2:c2≠P:=neP _ _ h2' λ_ z=>by rw[hd2]at z;cases z
 have stands:∀a,(∃o,h.get? a=some o)→a≠f∧a≠c':=λa ⟨o,e⟩=>⟨λz=>by(rw[z,ff]at e;cases e),λz=>by(rw[z,fc]at e;cases e)⟩
 have n12:c1≠c2:=λz=>by have:=ok.inj _ _ _ e1 (z ▸ e2);exact absurd this (by decide +kernel)
 have p1:=r.priv _ hp1
 have p2:=r.priv _ hp2
 have old:∀a,S.has a→a≠P→(td S P ps f fo c' oc c1 o1 c2 o2 l).o a=S.o a:=λa ha hn=>by
  have s1:=stands a (In.get r.st ha)
  show(if a=P then _ else if a=f then _ else if a=c' then _ else if a=c1 then _ else if a=c2 then _ else S.o a)=S.o a
  have q1:a≠c1:=λz=>p1.2.1 (z ▸ ha)
  have q2:a≠c2:=λz=>p2.2.1 (z ▸ ha)
  rw[if_neg hn,if_neg s1.1,if_neg s1.2,if_neg q1,if_neg q2]
 have off:∀a,(∃o,h.get? a=some o)→a≠P→a≠c1→a≠c2→¬ S.has a→¬ (td S P ps f fo c' oc c1 o1 c2 o2 l).has a:=λa ha nP q1 q2 nS z=>by
  have s1:=stands a ha
  have e:(td S P ps f fo c' oc c1 o1 c2 o2 l).o a=S.o a:=by
   show(if a=P then _ else if a=f then _ else if a=c' then _ else if a=c1 then _ else if a=c2 then _ else S.o a)=S.o a
   rw[if_neg nP,if_neg s1.1,if_neg s1.2,if_neg q1,if_neg q2]
  rcases z with z|z
  ·exact nS (.inl (by rw[←e];exact z))
  ·exact nS (.inr z)
 have oP:(td S P ps f fo c' oc c1 o1 c2 o2 l).o P=some (tabObj ps):=if_pos rfl
 have fP:f≠P:=λz=>by rw[z,hPh]at ff;cases ff
 have cP:c'≠P:=λz=>by rw[z,hPh]at fc;cases fc
 have s1:=stands c1 ⟨_,h1⟩
 have s2:=stands c2 ⟨_,h2'⟩
 have of_:(td S P ps f fo c' oc c1 o1 c2 o2 l).o f=some fo:=(if_neg fP).trans (if_pos rfl)
 have ocd:(td S P ps f fo c' oc c1 o1 c2 o2 l).o c'=some oc:=(if_neg cP).trans ((if_neg (Ne.symm hff)).trans (if_pos rfl))
 have oc1:(td S P ps f fo c' oc c1 o1 c2 o2 l).o c1=some o1:=(if_neg n1).trans ((if_neg s1.1).trans ((if_neg s1.2).trans (if_pos rfl)))
 have oc2:(td S P ps f fo c' oc c1 o1 c2 o2 l).o c2=some o2:=(if_neg n2).trans ((if_neg s2.1).trans ((if_neg s2.2).trans ((if_neg (Ne.symm n12)).trans (if_pos rfl))))
 have vP:∀d x,S.v d=some x→d≠P:=λd x e z=>by have:=r.st.dis d x e;rw[z,hP]at this;cases this
 have hSo:∀a x,S.o a=some x→a≠P→(td S P ps f fo c' oc c1 o1 c2 o2 l).o a=some x:=λa x e hn=>(old a (Sh.has_o e) hn).trans e
 have ng:∀y,ZU.cells.lookup y≠none→y≠ghost 0:=λy hy z=>hy (z ▸ gc)
 have hmb:m "simple"=some (.bool b):=by
  obtain⟨v,hv⟩:=r.known _ _ hsi
  obtain⟨fp,a1,_⟩:=r.slots
  obtain⟨okv,_⟩:=a1 (some "simple") v _ ⟨hsi,hv⟩
  generalize fp (some "simple")=q at okv
  cases okv using VOk.fE with|f q=>cases q;exact hv
 have clo:CloAt pw (td S P ps f fo c' oc c1 o1 c2 o2 l) f b:=by
  refine⟨fo,o1,o2,oc,fd,c1,c2,c',vs,t,of_,hfo,hfd,hcda,ocd,hcdv,?_,oc1,?_,?_,oc2,?_,λx c hx=>?_⟩
  ·rw[hcl];rfl
  ·rw[hd1,hm];rfl
  ·rw[hcl];rfl
  ·rw[hd2,hmb]
  ·rw[hcl]at hx
   simp only[List.lookup_cons,List.lookup_nil]at hx
   split at hx
   ·rename_i q;exact .inr (beq_iff_eq.mp q)
   ·split at hx
    ·rename_i q;exact .inl (beq_iff_eq.mp q)
    ·cases hx
 obtain⟨_,nSl0,ngl0⟩:=r.priv _ ok.loc
 have locP:ZU.locals≠P:=λz=>nSl0 (z ▸ Sh.has_o hP)
 refine⟨⟨λa x e=>?_,λd x e=>(r.st.v d x e).keeps λo ho=>hx d o (vP d x e) ho,λd x e=>(old d (Sh.has_v e) (vP d x e)).trans (r.st.dis d x e)⟩,⟨λa x e=>absurd (Sh.has_o e) (ge a),λd x e=>absurd (Sh.has_v e) (ge d),λd x e=>absurd (Sh.has_v e) (ge d)⟩,λa x e=>?_,⟨?_,λy c hy=>?_⟩,λd x e=>absurd (Sh.has_v e) (ge d),λd x e=>?_,r.vis,λa ha=>?_,λy a e=>?_,?_,λi=>?_⟩
 ·have e:(if a=P then some (tabObj ps)else if a=f then some fo else if a=c' then some oc else if a=c1 then some o1 else if a=c2 then some o2 else S.o a)=some x:=e
  split at e
  ·rename_i q;cases e;rw[q];exact hP2
  ·rename_i qP
   split at e
   ·rename_i q;cases e;rw[q];exact hf
   ·split at e
    ·rename_i q;cases e;rw[q];exact hc
    ·split at e
     ·rename_i q;cases e;rw[q];exact hx _ _ n1 h1
     ·split at e
      ·rename_i q;cases e;rw[q];exact hx _ _ n2 h2'
      ·exact hx _ _ qP (r.st.o a x e)
 ·exact hSo a x (r.base a x e) λz=>by rw[z,hbP]at e;cases e
 ·obtain⟨ml,⟨o,es,ep,ho,rr⟩,hml⟩:=r.vars.loc
  refine⟨ml,⟨o,es,ep,hx _ _ locP ho,rr⟩,λy hy=>?_⟩
  show ml y=if y=ghost 0 then _ else m y
  rw[if_neg λz=>by have:=ok.gk 0;rw[←z,hy]at this;cases this]
  exact hml y hy
 ·obtain⟨o,ho,hd⟩:=r.vars.cell y c hy
  refine⟨o,hx _ _ (neP _ _ ho λ_ z=>by rw[hd]at z;cases z) ho,?_⟩
  show o.data= .cell (if y=ghost 0 then _ else m y)
  rw[if_neg (ng y (by rw[hy];simp)),hd]
 ·cases q:g.o d with
  |none=>rfl
  |some z=>exact absurd (Sh.has_o q) (ge d)
 ·obtain⟨q1,q2,q3⟩:=hpv a ha
  obtain⟨⟨o,ho⟩,nS,_⟩:=r.priv a q1
  have nP:a≠P:=λz=>nS (z ▸ Sh.has_o hP)
  exact⟨⟨o,hx _ _ nP ho⟩,off a ⟨o,ho⟩ nP q2 q3 nS,ge a⟩
 ·show∃v,(if y=ghost 0 then some (.ref l)else m y)=some v
  by_cases q:y=ghost 0
  ·exact⟨_,if_pos q⟩
  ·rw[if_neg q]
   rw[ao,if_neg q,ao]at e
   split at e
   ·rename_i q2;rw[q2];exact⟨_,hm⟩
   ·exact r.known y a e
 ·obtain⟨fp,a1,a2⟩:=r.slots
  have sl:Slot m σ none (some "seen") (.ref l) (.ol []):=⟨hs,hm⟩
  obtain⟨okl,cl⟩:=a1 _ _ _ sl
  have okl':fp (some "seen")=[l]∧∃us nn,h.get? l=some (lO us nn)∧RA pw w 318 S us []:=by
   generalize fp (some "seen")=q at okl
   cases okl using VOk.olE with|ol e ra=>exact⟨rfl,_,_,e,ra⟩
  obtain⟨fpl,us,nn,hlo,rac⟩:=okl'
  cases rac
  obtain⟨nSl,ngl,npl⟩:=cl l (by rw[fpl];exact .head _)
  have lP:l≠P:=neP _ _ hlo λ_ z=>by cases z
  have gs:ghost 0≠("seen":Str):=by decide +kernel
  refine⟨λi=>match i with|none=>[]|some y=>if y=ghost 0 then[l]else if y="seen" then[]else fp (some y),λi v a x=>?_,λi j v a v' a' hn x y d hd=>?_⟩
  ·cases i with
   |none=>
    cases x
    exact⟨.f (.clo b clo),λb hb=>nomatch hb⟩
   |some y=>
    obtain⟨x1,x2⟩:=x
    have x2:(if y=ghost 0 then some (.ref l)else m y)=some v:=x2
    show VOk pw w 318 _ h2 v a (if y=ghost 0 then[l]else if y="seen" then[]else fp (some y))∧∀b∈(if y=ghost 0 then[l]else if y="seen" then[]else fp (some y)),_
    rw[ao]at x1
    by_cases q:y=ghost 0
    ·rw[if_pos q]at x1 x2 ⊢
     cases x1;cases x2
     refine⟨.ol (hx _ _ lP hlo) .nil,λd hd=>?_⟩
     rw[List.mem_singleton.mp hd]
     exact⟨off l ⟨_,hlo⟩ lP (λz=>npl (z ▸ hp1)) (λz=>npl (z ▸ hp2)) nSl,ge l,λz=>npl (hpv l z).1⟩
    ·rw[if_neg q]at x1 x2 ⊢
     rw[ao]at x1
     by_cases q2:y="seen"
     ·rw[if_pos q2]at x1 ⊢
      cases x1
      rw[q2,hm]at x2
      cases x2
      exact⟨.f (.opq 0 (show(if(0:Nat)=0 then l else S.q 0)=l from if_pos rfl)),λb hb=>nomatch hb⟩
     ·rw[if_neg q2]at x1 ⊢
      obtain⟨okv,cv⟩:=a1 (some y) v a ⟨x1,x2⟩
      have nqa:=nq y a x1
      rcases pl y a x1 with⟨u,rfl⟩|⟨us,rfl⟩
      ·generalize fp (some y)=q at okv
       cases okv using VOk.fE with|f rv=>exact⟨.f (rv.tab hSo (λ_ _ e=>e) hP nqa),λb hb=>nomatch hb⟩
      ·generalize fp (some y)=q at okv cv
       cases okv using VOk.olE with
       |@ol ad _ _ e ra=>
        have aP:ad≠P:=neP _ _ e λ_ z=>by cases z
        refine⟨.ol (hx _ _ aP e) (ra.tab hSo (λ_ _ e=>e) hP nqa),λd hd=>?_⟩
        obtain⟨k1,k2,k3⟩:=cv d hd
        rw[List.mem_singleton.mp hd]at k1 k2 k3 ⊢
        exact⟨off ad ⟨_,e⟩ aP (λz=>k3 (z ▸ hp1)) (λz=>k3 (z ▸ hp2)) k1,ge ad,λz=>k3 (hpv ad z).1⟩
  ·have key:∀(i:Option Str)(v:Value)(a:V),Slot (mW m l) (Ht σ l) (some (.ref f,.f (.clo b))) i v a→∀d,d∈(match i with|none=>[]|some y=>if y=ghost 0 then[l]else if y="seen" then[]else fp (some y))→∃y,i=some y∧∃v' a',Slot m σ none (some (if y=ghost 0 then "seen" else y)) v' a'∧d∈fp (some (if y=ghost 0 then "seen" else y))∧y≠"seen":=λi v a x d hd=>by
    cases i with
    |none=>exact nomatch hd
    |some y=>
     refine⟨y,rfl,?_⟩
     have hd:d∈(if y=ghost 0 then[l]else if y="seen" then[]else fp (some y)):=hd
     obtain⟨x1,x2⟩:=x
     have x2:(if y=ghost 0 then some (.ref l)else m y)=some v:=x2
     rw[ao]at x1
     by_cases q:y=ghost 0
     ·rw[if_pos q]at hd ⊢
      exact⟨_,_,sl,by rw[fpl];exact hd,λz=>gs (q.symm.trans z)⟩
     ·rw[if_neg q]at hd x1 x2 ⊢
      rw[ao]at x1
      by_cases q2:y="seen"
      ·rw[if_pos q2]at hd;exact nomatch hd
      ·rw[if_neg q2]at hd x1
       exact⟨v,a,⟨x1,x2⟩,hd,q2⟩
   intro hd'
   obtain⟨y1,rfl,v1,a1',s1,d1,z1⟩:=key i v a x d hd
   obtain⟨y2,rfl,v2,a2',s2,d2,z2⟩:=key j v' a' y d hd'
   refine a2 _ _ _ _ _ _ (λz=>?_) s1 s2 d d1 d2
   have z:=Option.some.inj z
   by_cases q1:y1=ghost 0
   ·by_cases q2:y2=ghost 0
    ·exact hn (by rw[q1,q2])
    ·rw[if_pos q1,if_neg q2]at z;exact z2 z.symm
   ·by_cases q2:y2=ghost 0
    ·rw[if_neg q1,if_pos q2]at z;exact z1 z
    ·rw[if_neg q1,if_neg q2]at z;exact hn (by rw[z])
 ·show(if ghost i=ghost 0 then some (.ref l)else m (ghost i))=some (.ref (if i=0 then l else S.q i))
  by_cases q:i=0
  ·rw[if_pos q,if_pos (by rw[q])]
  ·rw[if_neg q,if_neg λz=>q (jG z)]
   exact r.gho i
end
end
section
section
variable{w:World}{hb:Heap}{ZU:Env}{pv pv':List Addr}{σ:Loc}{mg mb:Str→Option Value}{P c c1 c2:Addr}{b:Bool}
theorem AX(H:Hd w hb mg mb)(ek:∀x,ZU.kindOf x=ae 123 x)(hbP:hb.get? P=none)(hcode:ZU.code= .ref c)(C:CodeHd hb c P)(hba:hb.BuiltinsAt mg P)
  (e1:ZU.cells.lookup ("seen":Str)=some c1) (e2:ZU.cells.lookup ("simple":Str)=some c2) (gc:ZU.cells.lookup (ghost 0)=none)
  (hpv:∀b∈pv',b∈pv∧b≠c1∧b≠c2) (hp1:c1∈pv) (hp2:c2∈pv) (hloc:ZU.locals∈pv')
  (hs:σ.lookup ("seen":Str)=some (.ol [])) (hsi:σ.lookup ("simple":Str)=some (.f (.bool b))) (pl:dW σ) (nq:∀x a,σ.lookup x=some a→a.noq=true)
  (B:∀ps l,LwJ w hb ZU P pv' ps ((ak 123).drop 28) ((Ht σ l).set "_law_watched" (.f (.clo b)))):LwJ w hb ZU P pv #[] ((ak 123).drop 27) σ:=λA E S g m s rm fr ok ge hP r=>by
 rw[Dv]
 obtain⟨l,us,nn,hm,hlo,rac⟩:=r.ownL hs
 have hPh:=r.st.o P _ hP
 obtain⟨bm,ob,b1,b2,b3,b4,b5,b6,b7,b8⟩:=hba
 have hgP:mainGlobals≠P:=λq=>by
  obtain⟨o,es,ep,e,hd,_⟩:=H.g
  rw[q,hbP]at e;cases e
 have ok':EnvOk ZU pv':={ok with loc:=hloc}
 have fresh:∀b,s.heap.objs.size≤b→s.heap.get? b=none:=λb hb=>Heap.get?_none_of_le hb
 refine wpAny_execs_cons (nestDef_K (by rfl') (by rfl') (by rfl') (makeFunction_K (mg:=mg) (BC e1 e2) ok.glob (H.g.keeps r.hbIn) hcode (C.keeps r.hbIn) hPh trivial rfl hgP ⟨bm,ob,b1,b2,b3,b4,r.hbIn _ _ b5,b6,b7,b8⟩ λc' ctv doc h' tk hx hge hlt hrec htb=>?_))
 obtain⟨c₂,oc,vs,t,q2,hoc,hd,hv⟩:=hrec
 cases q2
 obtain⟨o1,ho1,hd1⟩:=r.vars.cell _ _ e1
 obtain⟨o2,ho2,hd2⟩:=r.vars.cell _ _ e2
 have r2:=r.made (fo:=(fnMade "_law_watched" (qualnameIn ZU "_law_watched" "_law_watched") qQ sF qN [("simple",c2),("seen",c1)] doc ((mg "__name__").getD .none) c' ctv)) ok ge hP hbP (h2:=h'.push (fnMade "_law_watched" (qualnameIn ZU "_law_watched" "_law_watched") qQ sF qN [("simple",c2),("seen",c1)] doc ((mg "__name__").getD .none) c' ctv)) (λb o hb e=>Heap.get?_push_of_some _ (hx b o hb e)) (Heap.get?_push_of_some _ htb) (Heap.get?_push_size _ rfl) (Heap.get?_push_of_some _ hoc) (fresh _ (Nat.le_of_lt (Nat.lt_of_le_of_lt hge hlt))) (fresh _ hge)
  rfl Ap rfl ⟨hd,hv⟩ rfl e1 e2 gc hpv hp1 hp2 hs hsi pl nq hm ho1 hd1 ho2 hd2 (Nat.ne_of_gt hlt)
 refine r2.store (s:={s with heap:=h'.push (fnMade "_law_watched" (qualnameIn ZU "_law_watched" "_law_watched") qQ sF qN [("simple",c2),("seen",c1)] doc ((mg "__name__").getD .none) c' ctv),toks:=tk}) ok' (.inl ((ek _).trans (by rfl'))) λh3 tk3 e3 r3=>?_
 exact wpAny_mono (B _ l A E _ g _ {s with heap:=h3,toks:=tk3} rm fr ok' ge (e3.le.o _ _ (if_pos rfl)) r3) (λf s' q=>⟨q.1,let⟨h4,tk4,e1,e2⟩:=q.2;⟨h4,tk4,e1,e2⟩⟩) λ_ _ q=>q
end
end
section
theorem dU{x:Str}(h:x.cps.size < 41)(i:Nat):x≠ghost i:=λz=>by
 rw[z]at h
 exact absurd (show 41 < 41 from h) (Nat.lt_irrefl _)
theorem Gd{b:Bool}{ts c:List T}{r:V×List T}(h:ni b ts c=some r):∃ρ its,ρ < 4∧ts=[vt ρ its]∧its.length≤1000∧c.length≤1000∧r=(.f (et b ρ its),c ++ [eV (kR ρ) its]):=by
 refine al h λt ht h=>al h λv hv h=>al h λk hk h=>al h λits hi h=>ar h λhc h=>?_
 ·obtain⟨h0,hc⟩:=an hc
  obtain⟨h1,h2⟩:=an hc
  have ht:ts=[.vec (.str k) (.list its) .none]:=by rw[zu ht,E4 hv,jA hk,f0 hi,Bb h0]
  obtain⟨h2,h3⟩:=an h2
  have h2:=of_decide_eq_true h2
  have h3:=of_decide_eq_true h3
  have hk:∃ρ,ρ < 4∧k=kR ρ:=by
   unfold Gm at h1
   simp only[Bool.or_eq_true,beq_iff_eq]at h1
   rcases h1 with ((h1|h1)|h1)|h1
   ·exact⟨0,by decide,h1⟩
   ·exact⟨1,by decide,h1⟩
   ·exact⟨2,by decide,h1⟩
   ·exact⟨3,by decide,h1⟩
  obtain⟨ρ,hρ,rfl⟩:=hk
  refine⟨ρ,its,hρ,ht,h2,h3,?_⟩
  cases h
  cases b<;>rfl
theorem Ez:qN.names.lookup ("column":Str)=some .local:=by rw[dD];decide +kernel
theorem Kl(x:Str):zm x=qN.names.lookup x:=by rfl'
theorem w_mem{x:Str}{k:NameKind}(h:qN.names.lookup x=some k):(x="column"∧k= .local)∨(x="seen"∧k= .free)∨(x="simple"∧k= .free)∨k= .globalImplicit:=by
 have:=mem_of_lookup h
 rw[dD]at this
 simp only[List.mem_cons,Prod.mk.injEq,List.not_mem_nil,or_false]at this
 rcases this with⟨a,b⟩|⟨a,b⟩|⟨a,b⟩|⟨a,b⟩|⟨a,b⟩|⟨a,b⟩<;>simp[a,b]
section
variable{w:World}{hb:Heap}{mg mb:Str→Option Value}{n:Nat}
theorem yO(H:Hd w hb mg mb)(z:OrcOk pw w 318 hb mg mb n dn)(b:Bool)(ts c:List T)(r:V×List T)(hr:ni b ts c=some r):CloJ pw w 318 hb (n+1) b ts c r.1 r.2:=by
 intro ZU pv A E S g m σ s vs Q f rm ok rl hg hcl ra k
 obtain⟨ρ,its,hρ,rfl,h1,h2,rfl⟩:=Gd hr
 cases ra using RA.consE with|@cons v _ rv ra'=>
 cases ra'
 obtain⟨o,o1,o2,oc,fd,c1,c2,cd,vs',t,X⟩:=hcl
 obtain⟨fp,a1,a2⟩:=rl.slots
 obtain⟨okl,cl⟩:=a1 (some (ghost 0)) _ _ ⟨hg,rl.gho 0⟩
 have hl0:(∃us nn,s.heap.get? (S.q 0)=some (lO us nn)∧RA pw w 318 S us c)∧¬ S.has (S.q 0):=by
  generalize fp (some (ghost 0))=q at okl cl
  cases okl using VOk.olE with|ol e ra=>exact⟨⟨_,_,e,ra⟩,(cl _ (.head _)).1⟩
 obtain⟨⟨us,nn,hlo,rac⟩,nSl⟩:=hl0
 have is:=X.is
 unfold ly at is
 rw[FD]at is
 obtain⟨p1,p2,p3,p4,p5,p6,p7⟩:=is
 have oc1:=rl.st.o _ _ X.at_seen
 have oc2:=rl.st.o _ _ X.at_simple
 have bnd:BindsTo s fd ⟨[v],[]⟩ [("column",v)]:=kp_binds (K:=K w.params) (H.kin.keeps rl.hbIn) λS=>by
  obtain⟨fname,fq,fparams,fbody,fscope,fglob,fclo,fdef,fkw,fdoc,fpm,fann,fcode,fct,fblt⟩:=fd
  simp only at p1 p2 p3 p4 p5 p6 p7
  subst p1;subst p2;subst p3;subst p4;subst p5;subst p6;subst p7
  rfl'
 have kd:∀x,(callEnv fd s.heap.objs.size f).kindOf x=qN.names.lookup x:=λx=>by show fd.scope.names.lookup x=_;rw[p3]
 have cel:(callEnv fd s.heap.objs.size f).cells=fd.closure:=rfl
 have fresh:∀b,s.heap.objs.size≤b→s.heap.get? b=none:=λb hb=>Heap.get?_none_of_le hb
 refine wpAny_call (codeAny_call_def (fd:=fd) (binds:=[("column",v)]) (by have:=rm.dp;(apply oI;assumption)) (rl.st.o _ _ X.at_) X.data (H.lim.keeps rl.hbIn) ⟨cd,oc,vs',t,X.cda,rl.st.o _ _ X.at_cd,X.cdv.1,X.cdv.2⟩ p2 bnd (λx hx=>?_) (λx hx=>?_) (λh₁ hns kp=>?_) (by rw[p3];rfl') (by rw[p3];rfl') (by rw[p3];rfl'))
 ·rw[p3,dD]at hx
  simp only[List.mem_cons,List.not_mem_nil,or_false]at hx
  rcases hx with rfl|rfl|rfl|rfl|rfl|rfl<;>decide
 ·rw[List.mem_singleton.mp hx,p3]
  exact Ez
 ·have cok:EnvOk (callEnv fd s.heap.objs.size f) [s.heap.objs.size]:=by
   refine⟨by show fd.scope.kind=_;rw[p3];rfl',λx hx=>?_,λx hx=>?_,λx y c hx hy=>?_,λx c hx=>?_,.head _,p4,p5,λi=>?_,λx hx=>?_⟩
   ·rw[kd]at hx
    rcases w_mem hx with⟨_,q⟩|⟨_,q⟩|⟨_,q⟩|q<;>cases q
   ·rw[kd]at hx
    cases zz:(callEnv fd s.heap.objs.size f).cells.lookup x with
    |none=>rfl
    |some c=>
     rcases X.only x c zz with rfl|rfl
     ·rw[dD]at hx;exact absurd hx (by decide +kernel)
     ·rw[dD]at hx;exact absurd hx (by decide +kernel)
   ·have n12:c1≠c2:=λzz=>by
     have e1:=X.at_seen
     rw[zz,X.at_simple]at e1
     cases e1
     have e2:=X.seenv
     rw[X.simplev]at e2
     cases e2
    rcases X.only x c hx with rfl|rfl<;>rcases X.only y c hy with rfl|rfl
    ·rfl
    ·have q1:=X.seen.symm.trans hx
     have q2:=X.simple.symm.trans hy
     exact absurd ((Option.some.inj q1).trans (Option.some.inj q2).symm) n12
    ·have q1:=X.simple.symm.trans hx
     have q2:=X.seen.symm.trans hy
     exact absurd ((Option.some.inj q2).trans (Option.some.inj q1).symm) n12
    ·rfl
   ·have st:∃o,s.heap.get? c=some o:=by
     rcases X.only x c hx with rfl|rfl
     ·rw[Option.some.inj (hx.symm.trans X.seen)];exact⟨_,oc1⟩
     ·rw[Option.some.inj (hx.symm.trans X.simple)];exact⟨_,oc2⟩
    obtain⟨oo,hoo⟩:=st
    exact Nat.ne_of_lt (Heap.lt_size hoo)
   ·rw[kd]
    cases zz:qN.names.lookup (ghost i)with
    |none=>rfl
    |some k'=>
     have:=mem_of_lookup zz
     rw[dD]at this
     simp only[List.mem_cons,Prod.mk.injEq,List.not_mem_nil,or_false]at this
     rcases this with⟨q,_⟩|⟨q,_⟩|⟨q,_⟩|⟨q,_⟩|⟨q,_⟩|⟨q,_⟩<;>exact absurd q.symm (dU (by decide +kernel) i)
   ·rw[kd]at hx
    rcases w_mem hx with⟨_,q⟩|⟨rfl,_⟩|⟨rfl,_⟩|q
    ·cases q
    ·exact⟨_,X.seen⟩
    ·exact⟨_,X.simple⟩
    ·cases q
  have zW:OrcOk pw w 318 hb mg mb n ZW:=⟨z.phi,z.psi,z.the⟩
  have rm₁:Rm n (A.deeper (callEnv fd s.heap.objs.size f)):=rm.deep _
  have va:VarsAt (callEnv fd s.heap.objs.size f) h₁ (λx=>(((["column","seen","simple"]:List Str).zip [v,.ref (S.q 0),.bool b]).lookup x).or (fm S.q x)):=by
   refine⟨⟨_,hns,λx hx=>?_⟩,λx c hx=>?_⟩
   ·rw[kd]at hx
    rcases w_mem hx with⟨rfl,_⟩|⟨_,q⟩|⟨_,q⟩|q
    ·rfl
    ·cases q
    ·cases q
    ·cases q
   ·rcases X.only x c hx with rfl|rfl
    ·rw[Option.some.inj (hx.symm.trans X.seen)];exact⟨o1,kp _ _ oc1,X.seenv⟩
    ·rw[Option.some.inj (hx.symm.trans X.simple)];exact⟨o2,kp _ _ oc2,X.simplev⟩
  have r₁:=lq (ZV:=pw) (C:=318) (cenv:=callEnv fd s.heap.objs.size f) (cpv:=[s.heap.objs.size]) (names:=["column","seen","simple"]) (vs:=[v,.ref (S.q 0),.bool b]) (ts:=[vt ρ its,.opq 0 (S.q 0),.bool b]) (c:=c) (qq:=S.q) rl.st rl.base hlo rac nSl rfl (.cons rv (.cons (.opq 0 rfl) (.cons (.bool b) .nil))) rfl (λi hi=>?_) kp va (λd hd=>?_) λd hd=>?_
  ·refine kj (bx (W:=100000) H.gl H.nm zW 40).2.2 (ZU:=callEnv fd s.heap.objs.size f) (pv:=[s.heap.objs.size]) (λx=>(kd x).trans (Kl x).symm) cok (λx c h=>by cases h) (Es hρ h1 h2 b (S.q 0)) _ _ S (cM S s.heap (S.q 0) S.q) _ _ _ rm₁ cok r₁ ?_
   intro S' h' tk' v' m' e r₂
   obtain⟨e',r'⟩:=rl.back ok.loc hg (rl.gho 0) e r₂ rfl rfl (.inl rfl)
   exact k _ h' tk' v' e' r'
  ·simp only[List.mem_cons,List.not_mem_nil,or_false]at hi
   rcases hi with q|q|q<;>exact absurd q.symm (dU (by decide +kernel) i)
  ·cases zz:S.v d with
   |none=>rfl
   |some y=>
    exfalso
    rcases hd with rfl|⟨x,hx⟩
    ·obtain⟨oo,hoo⟩:=In.get rl.st (Sh.has_v zz)
     have hoo:s.heap.get? s.heap.objs.size=some oo:=hoo
     rw[fresh _ (Nat.le_refl _)]at hoo;cases hoo
    ·have e:=rl.st.dis _ _ zz
     rcases X.only x d hx with rfl|rfl
     ·rw[Option.some.inj (hx.symm.trans X.seen),X.at_seen]at e;cases e
     ·rw[Option.some.inj (hx.symm.trans X.simple),X.at_simple]at e;cases e
  ·rw[List.mem_singleton.mp hd]
   exact⟨fresh _ (Nat.le_refl _),let⟨o,_,_,ho,_⟩:=hns;⟨o,ho⟩⟩
theorem Bg(H:Hd w hb mg mb)(z:OrcOk pw w 318 hb mg mb n dn)(z':OrcOk pw w 318 hb mg mb (n+1) dn):OrcOk pw w 318 hb mg mb (n+1) ZA:=⟨z'.phi,z'.psi,λb ts c r h=>yO H z b ts c r h⟩
end
end
section
theorem OrcOk.upN{ZV:Program}{w:World}{C:Addr}{hb:Heap}{mg mb:Str→Option Value}{n:Nat}{Z:Orc}(z:OrcOk ZV w C hb mg mb n Z):∀k,OrcOk ZV w C hb mg mb (n+k) Z
 |0=>z
 |k+1=>(z.upN k).up
theorem ug{c:List T}:∀{ns:List Nat},eZ c=some ns→c=ns.map iT:=by
 induction c with
 |nil=>
  intro _ h
  cases h;rfl
 |cons t ts ih=>
  intro ns h
  have h:(t.int?.bind λi=>gd (decide (0≤i)) ((eZ ts).map (i.toNat ::·)))=some ns:=h
  cases ht:t.int? with
  |none=>rw[ht]at h;cases h
  |some i=>
   rw[ht]at h
   refine ar h λhi h=>?_
   cases hn:eZ ts with
   |none=>rw[hn]at h;cases h
   |some ms=>
    rw[hn]at h
    cases h
    have hi:=of_decide_eq_true hi
    rw[List.map_cons,←ih hn]
    congr 1
    cases t with
    |int j=>cases (ht);show T.int i=T.int (i.toNat:Int);rw[Int.toNat_of_nonneg hi]
    |_=>cases ht
theorem Bu(x:Nat):(iT x).noq=true:=rfl
theorem qg(x:Int):(T.int x).noq=true:=rfl
theorem kQ(c:List Nat):T.noqs (c.map iT)=true:=bJ λt ht=>by
 obtain⟨x,_,rfl⟩:=List.mem_map.mp ht
 exact Bu x
section
variable{w:World}{hb:Heap}{mg mb:Str→Option Value}
theorem ur(H:Hd w hb mg mb):OrcOk pw w 318 hb mg mb 75 ZL:=by
 have z:=(Du H).upN 6
 refine⟨z.phi,λf ψ ts c r hf hr=>?_,z.the⟩
 have hf:(if f="_law_dip" then some cm else none)=some ψ:=hf
 refine cy hf ?_ ?_<;>clear hf<;>intro e hf
 ·cases hf
  subst e
  obtain⟨a,fd,dv,gv,D⟩:=nB (C:=318) (mb:=mb) H.kin H.g
  have hdf:(bo 118).dflt=[]:=by rfl'
  have hdv:dv=[]:=by
   have:=(D.dvR ⟨λ_=>none,λ_=>none,λ_=>0⟩).length
   rw[hdf]at this
   exact List.length_eq_zero_iff.mp this
  subst hdv
  refine⟨_,gv,ej D.at_,?_⟩
  unfold cm at hr
  refine al hr λt ht q1=>al q1 λk hk q2=>ar q2 λhc q3=>?_
  ·revert q3
   clear hr q1 q2
   intro hr
   obtain rfl:=zu ht
   obtain rfl:=bu hk
   clear ht hk
   obtain⟨h1,h2⟩:=an hc
   obtain⟨h2,h3⟩:=an h2
   have h1:=of_decide_eq_true h1
   have h2:=of_decide_eq_true h2
   have h3:=of_decide_eq_true h3
   cases hn:eZ c with
   |none=>rw[hn]at hr;cases hr
   |some ns=>
    rw[hn]at hr
    cases hr
    rw[ug hn]at h3 ⊢
    have hk:T.int k=T.int (k.toNat:Int):=by rw[Int.toNat_of_nonneg (by(apply Dx;assumption))]
    rw[hk]
    have hrun:=xZ (k:=k.toNat) (Int.lt_toNat.mpr h1) (yS h2 (by decide))
    refine vN (n:=74) (W:=100000) (k:=40) (Z:=nL) H.gl H.nm ((KL H).upN 11) D (by rfl') hdf ?_ (kQ _) ?_ (kQ _) λl=>?_
    ·rfl
    ·exact qg ((bK k.toNat ns).1:Int)
    ·obtain⟨σ',h,h'⟩:=hrun l (c:=ns) (by rw[List.length_map]at h3;exact h3)
     refine⟨σ',?_,h'⟩
     rw[List.drop_zero]at h
     exact h
 ·cases hf
theorem pW(H:Hd w hb mg mb):OrcOk pw w 318 hb mg mb 75 ZL2:=let z:=ur H;⟨z.phi,z.psi,z.the⟩
theorem pT(H:Hd w hb mg mb):OrcOk pw w 318 hb mg mb 70 ZA:=Bg H (Du H) ((Du H).upN 1)
theorem eB(H:Hd w hb mg mb):SX pw w 318 hb 75 ZL (Et ZL):=(bx (W:=100000) H.gl H.nm (ur H) 40).2.2
theorem gX(H:Hd w hb mg mb):SX pw w 318 hb 75 ZL2 (Et ZL2):=(bx (W:=100000) H.gl H.nm (pW H) 40).2.2
end
end
section
noncomputable def apEs:List Expr:=match (ak 123).drop 30 with
 |.Try (.Assign _ (.Call _ es _ _) _ ::_) _ _ _ _ ::_=>es
 |_=>[]
theorem Aa:(ak 123).drop 30= .Try [.Assign [.Name "apart" ⟨835,8,835,13⟩] (.Call (.Name "aggregate_by" ⟨835,16,835,28⟩) apEs [] ⟨835,16,835,101⟩) ⟨835,8,835,101⟩]
 [hdl ⟨836,11,836,18⟩ ⟨837,8,837,12⟩ ⟨837,15,837,20⟩ ⟨837,15,837,28⟩ ⟨837,8,837,28⟩ ⟨836,4,837,28⟩] [] [] ⟨834,4,837,28⟩ ::(ak 123).drop 31:=by rfl'
noncomputable def Cl(b:Bool)(hs ps sty:List T)(got br:T)(lv:List T)(bs:T)(it wf:List T):Loc:=[("simple",.f (.bool b)),("heads",.f (.list hs)),("pieces",.f (.list ps)),("stay",.f (.list sty)),("got",.f got),("broad",.f br),("levels",.f (.list lv)),("beside",.f bs),("items",.f (.list it)),("whole_frame",.f (.list wf))]
noncomputable def KO(b:Bool)(hs ps sty:List T)(got br:T)(lv:List T)(bs:T)(it wf:List T)(l:Addr):Loc:=[("simple",.f (.bool b)),("heads",.f (.list hs)),("pieces",.f (.list ps)),("stay",.f (.list sty)),("got",.f got),("broad",.f br),("levels",.f (.list lv)),("beside",.f bs),("items",.f (.list it)),("whole_frame",.f (.list wf)),("seen",.f (.opq 0 l)),(ghost 0,.ol []),("_law_watched",.f (.clo b))]
noncomputable def CP(b:Bool)(hs ps sty:List T)(got br:T)(lv:List T)(bs:T)(it wf:List T)(l:Addr):Loc:=[("simple",.f (.bool b)),("heads",.f (.list hs)),("pieces",.f (.list ps)),("stay",.f (.list sty)),("got",.f got),("broad",.f br),("levels",.f (.list lv)),("beside",.f bs),("items",.f (.list it)),("whole_frame",.f (.list wf)),("seen",.f (.opq 0 l)),(ghost 0,.ol []),("_law_watched",.f (.clo b)),("apart",.f .none),("said",.f .none)]
theorem DF(b:Bool)(hs ps sty:List T)(got br:T)(lv:List T)(bs:T)(it wf:List T):exs (Et ZL) (ae 123) (sg (ak 123) 26 27) (Cl b hs ps sty got br lv bs it wf)=some (.nx ((Cl b hs ps sty got br lv bs it wf).set "seen" (.ol []))):=by rfl'
theorem Dz(b:Bool)(hs ps sty:List T)(got br:T)(lv:List T)(bs:T)(it wf:List T)(l:Addr):exs (Et ZL2) (ae 123) (sg (ak 123) 28 30) (KO b hs ps sty got br lv bs it wf l)=some (.nx (CP b hs ps sty got br lv bs it wf l)):=by rfl'
noncomputable def vD(b:Bool)(val ind:T):List T:=[.list [val],.list [.str "all"],.list [ind],.list [.str "name"],.clo b,.bool b]
theorem wB(b:Bool)(hs ps sty:List T)(val ind h1 h2 rn br:T)(lv:List T)(bs:T)(it wf:List T)(l:Addr):f4 (Et ZL2) (ae 123) apEs (CP b hs ps sty (zw [val,ind] [h1,h2] rn) br lv bs it wf l)=some (vD b val ind,CP b hs ps sty (zw [val,ind] [h1,h2] rn) br lv bs it wf l):=by rfl'
theorem mv:(bo 113).names=(["values","value_names","groups","group_names","fn","simplify"]:List Str):=by rfl'
section
variable{w:World}{hb:Heap}{ZU:Env}{pv:List Addr}{σ σ':Loc}{mg mb:Str→Option Value}{P:Addr}{ps:Array Value}{ss:List Stmt}
theorem jJ{ts:List T}{l:Addr}{x:Str}(hx:σ.lookup x=some (.f (.opq 0 l)))(hg:σ.lookup (ghost 0)=some (.ol ts))(b:LwJ w hb ZU P pv ps ss ((σ.set (ghost 0) (.f (.list ts))).set x (.f (.list ts)))):LwJ w hb ZU P pv ps ss σ:=λA E S g m s rm fr ok ge hP r=>by
 have hne:x≠ghost 0:=λz=>by rw[z,hg]at hx;cases hx
 obtain⟨vx,fx,hmx,ox,_⟩:=r.own hx
 have hvx:m x=some (.ref (S.q 0)):=by
  cases ox using VOk.fE with|f q=>cases q using R.opqE with|opq _ e=>rw[hmx,e]
 have hm:=r.gho 0
 obtain⟨S',e,q,r'⟩:=r.freeze (σ':=σ.set (ghost 0) (.f (V.ol ts).frz)) (ρ':=none) (i:=some (ghost 0)) (v:=.ref (S.q 0)) (a:=.ol ts) ok.loc ⟨hg,hm⟩ (cD r.known ⟨_,hm⟩) λj v' a' y=>set_slot hg hm y
 refine b A E S' g m s rm fr ok ge (e.le.o _ _ hP) {r' with known:=cD r'.known ⟨_,hvx⟩,slots:=?_}
 obtain⟨fp,a1,a2⟩:=r'.slots
 have hg':(σ.set (ghost 0) (.f (.list ts))).lookup (ghost 0)=some (.f (.list ts)):=by rw[ao,if_pos rfl]
 obtain⟨ov,_⟩:=a1 (some (ghost 0)) (.ref (S.q 0)) (.f (.list ts)) ⟨hg',hm⟩
 have rv:R pw w 318 S' (.ref (S.q 0)) (.list ts):=by
  generalize fp (some (ghost 0))=z at ov
  cases ov using VOk.fE with|f q=>exact q
 have old:∀i v a,Slot m ((σ.set (ghost 0) (.f (.list ts))).set x (.f (.list ts))) none i v a→(i=some x∧v= .ref (S.q 0)∧a= .f (.list ts))∨(i≠some x∧Slot m (σ.set (ghost 0) (.f (.list ts))) none i v a):=λi v a y=>by
  cases i with
  |none=>simp only[Slot]at y;cases y
  |some z=>
   obtain⟨y1,y2⟩:=y
   rw[ao]at y1
   by_cases hz:z=x
   ·rw[if_pos hz]at y1
    cases y1
    rw[hz,hvx]at y2
    cases y2
    exact .inl ⟨by rw[hz],rfl,rfl⟩
   ·rw[if_neg hz]at y1
    exact .inr ⟨λq=>hz (Option.some.inj q),y1,y2⟩
 refine⟨λi=>if i=some x then[]else fp i,λi v a y=>?_,λi j v a v' a' hn y z d hd=>?_⟩
 ·show VOk pw w 318 S' s.heap v a (if i=some x then[]else fp i)∧∀b∈(if i=some x then[]else fp i),_
  rcases old i v a y with⟨rfl,rfl,rfl⟩|⟨h1,h2⟩
  ·rw[if_pos rfl];exact⟨.f rv,λ_ q=>nomatch q⟩
  ·rw[if_neg h1];exact a1 i v a h2
 ·have hd:d∈(if i=some x then[]else fp i):=hd
  show d∉(if j=some x then[]else fp j)
  rcases old i v a y with⟨rfl,rfl,rfl⟩|⟨h1,h2⟩
  ·rw[if_pos rfl]at hd;exact nomatch hd
  ·rw[if_neg h1]at hd
   rcases old j v' a' z with⟨rfl,rfl,rfl⟩|⟨h3,h4⟩
   ·rw[if_pos rfl];exact λq=>nomatch q
   ·rw[if_neg h3];exact a2 i j v a v' a' hn h2 h4 d hd
variable{b:Bool}{hs ps' sty:List T}{br:T}{lv:List T}{bs:T}{it wf:List T}{l:Addr}{ks:List Col}
noncomputable abbrev A8(ks:List Col)(b:Bool)(hs ps' sty:List T)(br:T)(lv:List T)(bs:T)(it wf:List T)(l:Addr):Loc:=CP b hs ps' sty (bw ks) br lv bs it wf l
theorem g1:(bo 113).names.length=6:=by rw[mv];rfl
theorem F0{S:Sh}{dv:List Value}(D:RA pw w 318 S dv (bo 113).dflt):dv.length=1:=by
 have:=D.length
 rw[this]
 have e:(bo 113).dflt.length=1:=by rfl'
 exact e
theorem tW:(bo 113).names.zip ((vD b (gA ks) (gD ks)).map V.f) ++ [(ghost 0,.ol [])]=Dm (gA ks) (gD ks) b []:=by rw[mv];rfl
theorem uB:dW (CP b hs ps' sty (bw ks) br lv bs it wf l):=λx a e=>by
 have:=mem_of_lookup e
 unfold CP at this
 simp only[List.mem_cons,Prod.mk.injEq,List.not_mem_nil,or_false]at this
 rcases this with h|h|h|h|h|h|h|h|h|h|h|h|h|h|h<;>rw[h.2]<;>first|exact .inl ⟨_,rfl⟩|exact .inr ⟨_,rfl⟩
theorem pG(H:Hd w hb mg mb)(ek:∀x,ZU.kindOf x=ae 123 x){A:Around}{E:Value→Shared→Prop}{S g:Sh}{m:Str→Option Value}{s:Shared}{Q:Value→Shared→Prop}(rm:Rm 75 A)(ok:EnvOk ZU pv)(r:Rel pw w 318 hb ZU pv S g m (A8 ks b hs ps' sty br lv bs it wf l) none s.heap)
  (k:∀(S':Sh)(h':Heap)(tk:Nat)(vs:List Value)(a:Addr)(fd:FuncData)(dv:List Value),Ext w S g S' h'→Rel pw w 318 hb ZU pv S' g m (A8 ks b hs ps' sty br lv bs it wf l) none h'→RA pw w 318 S' vs (vD b (gA ks) (gD ks))→FnDef pw w 318 (K w.params) hb a fd (bo 113) dv→dv.length=1→
   BindsTo {s with heap:=h',toks:=tk} fd ⟨vs,[]⟩ ((bo 113).names.zip vs)→wpAny (model pw w) A (call (.ref a) vs) Q E {s with heap:=h',toks:=tk}) :
  wpAny (model pw w) A (eval (.Call (.Name "aggregate_by" ⟨835,16,835,28⟩) apEs [] ⟨835,16,835,101⟩) ZU) Q E s:=by
 obtain⟨a,fd,dv,gv,D⟩:=gC (C:=318) (mb:=mb) H.kin H.g
 obtain⟨ev,ns,hl⟩:=Cv (bx (W:=100000) H.gl H.nm (pW H) 40).1 ek ok (wB b hs ps' sty (gA ks) (gD ks) (.str "values") (.str "ind") (vt 1 ((List.range (cds ks).length).map ab)) br lv bs it wf l)
 have hne:∃e es,apEs=e ::es:=by
  cases h:apEs with
  |nil=>rw[h]at hl;cases hl
  |cons e es=>exact⟨e,es,rfl⟩
 have pl:cn apEs:=by
  obtain⟨e,es,h⟩:=hne
  rw[h]at ns ⊢
  exact b0 ns
 have hdv:=F0 (D.dvR S)
 refine dm H.gl ⟨(ek _).trans (by rfl'),by decide +kernel,gv⟩ (ej D.at_) pl ev rm ok r λS' h' tk vs e r' q=>k S' h' tk vs a fd dv e r' q D hdv ?_
 have hvl:vs.length=6:=q.length
 refine kp_binds (H.kin.keeps r'.hbIn) λS=>?_
 have h:=D.bind vs (by rw[g1,hvl];exact Nat.le_refl _) (by rw[g1,hdv,hvl];decide) S
 rw[g1,hdv,hvl]at h
 have e:vs ++ dv.drop (1 - (6 - 6))=vs:=by rw[List.drop_eq_nil_of_le (by rw[hdv];decide),List.append_nil]
 rwa [e]at h
theorem wV(H:Hd w hb mg mb)(ek:∀x,ZU.kindOf x=ae 123 x)(okk:ColsOk ks)(PO:PsOk ks)(hi:cds ks≠[])
  (B:LwJ w hb ZU P pv ps ((ak 123).drop 31) (((A8 ks b hs ps' sty br lv bs it wf l).set (ghost 0) (.ol (gf ks))).set "apart" (.f (sz b ks)))):LwJ w hb ZU P pv ps ((ak 123).drop 30) (A8 ks b hs ps' sty br lv bs it wf l):=λA E S g m s rm fr ok ge hP r=>by
 rw[Aa]
 refine wpAny_execs_cons (wpAny_Try_except (wpAny_execs_cons (wpAny_Assign_Name (pG H ek rm ok r λS1 h1 tk1 vs a fd dv e1 r1 q D hdv bnd=>?_))))
 obtain⟨σe,hrun,hgh⟩:=yx okk PO hi b
 rw[List.drop_zero]at hrun
 refine eJ (n:=70) (ts:=vD b (gA ks) (gD ks)) (o:=.rt (.f (sz b ks)) σe) (vs:=vs) (x₀:=ghost 0) (c:=[]) (qq:=S1.q) (l:=S1.q 0) H.gl D.at_ (by rw[g1];rfl) (λenv' pv' hs ok' hc=>?_) (.inl rfl) (c':=gf ks) hgh (.inl rfl) (rm.le (by decide)) ok r1 rfl (r1.gho 0) rfl (by rw[T.noqs]) bnd q λS' h' tk u e' r'=>?_
 ·rw[tW]
  exact kj (bx (W:=100000) H.gl H.nm (pT H) 40).2.2 (λx=>by show env'.scope.names.lookup x=(bo 113).kd x;rw[←D.kd,←hs]) ok' (λx c _ h=>hc x c h) hrun
 ·refine r'.store (s:={s with heap:=h',toks:=tk}) ok (.inl ((ek _).trans (by rfl'))) λh2 tk2 e2 r2=>?_
  refine wpAny_execs_nil (wpAny_execs_nil ?_)
  exact wpAny_mono (B A E S' g _ {s with heap:=h2,toks:=tk2} rm fr ok ge (e2.le.o _ _ (e'.le.o _ _ (e1.le.o _ _ hP))) r2) (λf s' q=>⟨q.1,let⟨h3,tk3,e1,e2⟩:=q.2;⟨h3,tk3,e1,e2⟩⟩) λ_ _ q=>q
theorem tf(H:Hd w hb mg mb)(ek:∀x,ZU.kindOf x=ae 123 x)(hf:ZU.frame=some ZU.locals)(okk:ColsOk ks)(h0:st ks≠[])(hi:cds ks=[])
  (B:LwJ w hb ZU P pv ps ((ak 123).drop 31) (((A8 ks b hs ps' sty br lv bs it wf l).set (ghost 0) (.ol [])).set "said" (.f oe))):LwJ w hb ZU P pv ps ((ak 123).drop 30) (A8 ks b hs ps' sty br lv bs it wf l):=λA E S g m s rm fr ok ge hP r=>by
 rw[Aa]
 refine wpAny_execs_cons (wpAny_Try_except (wpAny_execs_cons (wpAny_Assign_Name (pG H ek rm ok r λS1 h1 tk1 vs a fd dv e1 r1 q D hdv bnd=>?_))))
 have L:=Ab okk h0
 rw[hi]at L
 have hv:gA ks=vt (aK (st ks)) []:=by
  have:=dz ks
  rw[hi]at this
  unfold gA
  rw[List.eq_nil_of_length_eq_zero this]
 have hd:gD ks=bp [] (aj (af (st ks))):=by unfold gD;rw[hi];rfl
 refine zV (n:=70) (ts:=vD b (gA ks) (gD ks)) (vs:=vs) (x₀:=ghost 0) (c:=[]) (c':=[]) (x:=pK) (σ':=zY (vt (aK (st ks)) []) (bp [] (aj (af (st ks)))) b [] (.f (.list []))) (qq:=S1.q) (l:=S1.q 0) H D.at_ (by rw[g1];rfl) (λenv' pv' hs ok' hc=>?_) rfl (by rw[T.noqs]) (rm.le (by decide)) ok r1 rfl (r1.gho 0) rfl (by rw[T.noqs]) fr hf bnd q λS' h2 L' base h' tk e t d tx ex lo=>?_
 ·rw[tW,hv,hd]
  exact Ci H (pT H) L b (λx=>by show env'.scope.names.lookup x=(bo 113).kd x;rw[←D.kd,←hs]) ok' hc
 ·refine g7 H ok fr hf ((ek _).trans (by rfl')) ((ek _).trans (by rfl')) ((ek _).trans (by rfl')) (fU uB) ?_ lo λh3 tk3 m3 e3 r3=>?_
  ·rw[ao,if_neg (by decide +kernel)];rfl'
  ·exact wpAny_mono (B A E S' g m3 {s with heap:=h3,toks:=tk3} rm fr ok ge (e3.le.o _ _ (ex.le.o _ _ (e1.le.o _ _ hP))) r3) (λf s' q=>⟨q.1,let⟨h4,tk4,e1,e2⟩:=q.2;⟨h4,tk4,e1,e2⟩⟩) λ_ _ q=>q
end
end
section
noncomputable def HasL(σ:Loc):Loc→Prop
 |[]=>True
 |p ::r=>σ.lookup p.1=some p.2∧HasL σ r
theorem HasL.mem{σ:Loc}{σ':Loc}:HasL σ σ'→∀p∈σ',σ.lookup p.1=some p.2:=by
 induction σ' with
 |nil=>exact λ_ _ h=>nomatch h
 |cons a r ih=>exact λh p hp=>(List.mem_cons.mp hp).elim (λe=>e ▸ h.1) (ih h.2 p)
theorem d5{ts:List T}(h:∀t∈ts,t.noq=true):(T.list ts).noq=true:=bJ h
theorem B2{c:Col}(ok:ColOk c):(a8 c).noq=true:=by
 unfold a8
 show T.noqs _=true
 refine bJ λt ht=>?_
 simp only[List.mem_cons,List.not_mem_nil,or_false]at ht
 rcases ht with rfl|rfl
 ·exact qg _
 ·refine d5 λt ht=>?_
  obtain⟨o,ho,rfl⟩:=List.mem_map.mp ht
  unfold eT
  show T.noqs _=true
  refine bJ λt ht=>?_
  simp only[List.mem_cons,List.not_mem_nil,or_false]at ht
  rcases ht with rfl|rfl
  ·exact bB (ei (ok.o o ho))
  ·exact bB (pD (ok.o o ho))
theorem Fl{ks:List Col}(ok:ColsOk ks)(b:Bool):∀x a,((Cl b (ks.map hdT) (ks.map a8) ((kp ks).map iT) (bw ks) (.str (kR (aK (st ks)))) (aj (af (st ks))) (gu (aj (af (st ks)))) (its ks) (gW ks)).set "seen" (.ol [])).lookup x=some a→a.noq=true:=λx a e=>by
 rw[ao]at e
 split at e
 ·cases e;rfl
 ·have:=mem_of_lookup e
  unfold Cl at this
  simp only[List.mem_cons,Prod.mk.injEq,List.not_mem_nil,or_false]at this
  rcases this with h|h|h|h|h|h|h|h|h|h<;>rw[h.2]<;>show T.noq _=true
  ·rfl
  ·exact d5 (pI ks)
  ·exact d5 λt ht=>by
    obtain⟨c,hc,rfl⟩:=List.mem_map.mp ht
    exact B2 (ok.c c hc)
  ·exact kQ _
  ·exact qf ok
  ·exact dx _
  ·exact d5 λt ht=>bB (fk _ t ht)
  ·exact bB (pX (fk _))
  ·exact d5 λt ht=>bB (gR ok t ht)
  ·exact bB (kh ok)
theorem u0{b:Bool}{hs ps sty:List T}{got br:T}{lv:List T}{bs:T}{it wf:List T}:dW ((Cl b hs ps sty got br lv bs it wf).set "seen" (.ol [])):=fU λx a e=>by
 have:=mem_of_lookup e
 unfold Cl at this
 simp only[List.mem_cons,Prod.mk.injEq,List.not_mem_nil,or_false]at this
 rcases this with h|h|h|h|h|h|h|h|h|h<;>rw[h.2]<;>exact .inl ⟨_,rfl⟩
noncomputable def An(w:T)(b:Bool)(hs ps:List T)(sk bf:T)(sty:List T):Loc:=[("wide",.f w),("simple",.f (.bool b)),("heads",.f (.list hs)),("pieces",.f (.list ps)),("stacked",.f sk),("before",.f bf),("stay",.f (.list sty)),("notes",.ol []),("said",.f .none)]
theorem vp{w:T}{b:Bool}{hs ps:List T}{sk bf:T}{sty:List T}:dW (An w b hs ps sk bf sty):=λx a e=>by
 have:=mem_of_lookup e
 unfold An at this
 simp only[List.mem_cons,Prod.mk.injEq,List.not_mem_nil,or_false]at this
 rcases this with h|h|h|h|h|h|h|h|h<;>rw[h.2]<;>first|exact .inl ⟨_,rfl⟩|exact .inr ⟨_,rfl⟩
structure LawE(w:World)(hb:Heap)(mg:Str→Option Value)(ZU:Env)(P c c1 c2:Addr)(pv pv':List Addr):Prop where
 ek:∀x,ZU.kindOf x=ae 123 x
 ok:EnvOk ZU pv
 hf:ZU.frame=some ZU.locals
 hbP:hb.get? P=none
 code:ZU.code= .ref c
 C:CodeHd hb c P
 hba:hb.BuiltinsAt mg P
 e1:ZU.cells.lookup ("seen":Str)=some c1
 e2:ZU.cells.lookup ("simple":Str)=some c2
 gc:ZU.cells.lookup (ghost 0)=none
 inn:∀x c,ZU.cells.lookup x=some c→c∈pv
 hin:∀b∈pv,b≠c1→b≠c2→b∈pv'
 hpv:∀b∈pv',b∈pv∧b≠c1∧b≠c2
 hp1:c1∈pv
 hp2:c2∈pv
 hloc:ZU.locals∈pv'
section
variable{w:World}{hb:Heap}{ZU:Env}{pv pv':List Addr}{σ σ':Loc}{mg mb:Str→Option Value}{P c c1 c2:Addr}{ps:Array Value}{ss:List Stmt}{b:Bool}{ks:List Col}{l:Addr}
theorem cH(h:HasL σ σ')(b:LwJ w hb ZU P pv ps ss σ'):LwJ w hb ZU P pv ps ss σ:=xe (λx a e=>h.mem _ (mem_of_lookup e)) b
theorem LawE.hc(L:LawE w hb mg ZU P c c1 c2 pv pv'){Z:Orc}:∀x c,Z.st x=true→ZU.cells.lookup x=some c→c∈pv:=λx c _ h=>L.inn x c h
theorem LawE.hc2(L:LawE w hb mg ZU P c c1 c2 pv pv'):∀x c,ZL2.st x=true→ZU.cells.lookup x=some c→c∈pv':=λx c hs h=>
 L.hin c (L.inn x c h) (λz=>by have:=L.ok.inj _ _ _ h (z ▸ L.e1);rw[this]at hs;exact absurd hs (by decide +kernel)) λz=>by have:=L.ok.inj _ _ _ h (z ▸ L.e2);rw[this]at hs;exact absurd hs (by decide +kernel)
theorem LawE.ok'(L:LawE w hb mg ZU P c c1 c2 pv pv'):EnvOk ZU pv':={L.ok with loc:=L.hloc}
theorem xU(H:Hd w hb mg mb)(L:LawE w hb mg ZU P c c1 c2 pv pv')(ok:ColsOk ks)(h0:st ks≠[]):LwJ w hb ZU P pv' ps ((ak 123).drop 30) (A8 ks b (ks.map hdT) (ks.map a8) ((kp ks).map iT) (.str (kR (aK (st ks)))) (aj (af (st ks))) (gu (aj (af (st ks)))) (its ks) (gW ks) l):=by
 by_cases hi:cds ks=[]
 ·have hit:its ks=[]:=by
   have:=dz ks
   rw[hi]at this
   exact List.eq_nil_of_length_eq_zero this
  refine tf H L.ek L.hf ok h0 hi (jJ (x:="seen") (ts:=[]) (l:=l) (by rfl') (by rfl') ?_)
  rw[hit]
  refine cH (σ':=zM (bw ks) (gW ks) [] [] oe) ⟨by rfl',by rfl',by rfl',by rfl',by rfl',by rfl',trivial⟩ ?_
  exact kA (gX H) L.ek L.ok' L.hc2 31 33 ⟨_,Bh ok⟩ rfl
 ·have PO:=C5 ok h0 hi
  refine wV H L.ek ok PO hi (jJ (x:="seen") (ts:=gf ks) (l:=l) (by rfl') (by rfl') ?_)
  refine cH (σ':=v6 b (ks.map hdT) (ks.map a8) ((kp ks).map iT) (bw ks) (.str (kR (aK (st ks)))) (aj (af (st ks))) (gu (aj (af (st ks)))) (its ks) (gW ks) (gf ks) (sz b ks))
   ⟨by rfl',by rfl',by rfl',by rfl',by rfl',by rfl',by rfl',by rfl',by rfl',by rfl',by rfl',by rfl',trivial⟩ ?_
  refine cf (gX H) L.ek L.ok' L.hc2 31 33 (B5 ok hi b _ _ _ _ _ _ _ _ _ _) rfl ?_
  refine cH (σ':=HH b (ks.map hdT) (ks.map a8) ((kp ks).map iT) (.str (kR (aK (st ks)))) (aj (af (st ks))) (gu (aj (af (st ks)))) (gf ks) (sz b ks))
   ⟨by rfl',by rfl',by rfl',by rfl',by rfl',by rfl',by rfl',by rfl',by rfl',trivial⟩ ?_
  refine cf (gX H) L.ek L.ok' L.hc2 33 37 (BI ok PO b _ _) rfl ?_
  refine ch (x:="shares") (a:=.ol (gf ks)) (by rfl') (ch (x:="present") (a:=.ol ((dt ks).map ab)) (by rfl') ?_)
  refine cH (σ':=sC b (gu (aj (af (st ks)))) (sz b ks) (gf ks) ((dt ks).map ab)) ⟨by rfl',by rfl',by rfl',by rfl',by rfl',trivial⟩ ?_
  exact kA (gX H) L.ek L.ok' L.hc2 37 39 (Al ok PO b) rfl
theorem xd(H:Hd w hb mg mb)(L:LawE w hb mg ZU P c c1 c2 pv pv')(ok:ColsOk ks)(h0:st ks≠[]):LwJ w hb ZU P pv #[] ((ak 123).drop 13) (jH (.int (ks.length:Int)) b (ks.map hdT) (ks.map a8) (aR ks) (bQ ks) ((kp ks).map iT) (bA ks) (bw ks)):=by
 refine cf (eB H) L.ek L.ok L.hc 13 16 (Ao ok h0 b (bw ks)) rfl ?_
 refine cH (σ':=H0 b (ks.map hdT) (ks.map a8) ((kp ks).map iT) (bw ks)) ⟨by rfl',by rfl',by rfl',by rfl',by rfl',trivial⟩ ?_
 refine cf (eB H) L.ek L.ok L.hc 16 18 (AM ok h0 b (bw ks)) rfl ?_
 refine cH (σ':=HX b (ks.map hdT) (ks.map a8) ((kp ks).map iT) (bw ks) (.str (kR (aK (st ks))))) ⟨by rfl',by rfl',by rfl',by rfl',by rfl',by rfl',trivial⟩ ?_
 refine cf (eB H) L.ek L.ok L.hc 18 21 (Av ok b (bw ks) _) rfl ?_
 refine ch (x:="beside") (a:=.ol (IC (aj (af (st ks))))) (by rfl') ?_
 refine cH (σ':=JS b (ks.map hdT) (ks.map a8) ((kp ks).map iT) (bw ks) (.str (kR (aK (st ks)))) (aj (af (st ks))) (gu (aj (af (st ks))))) ⟨by rfl',by rfl',by rfl',by rfl',by rfl',by rfl',by rfl',by rfl',trivial⟩ ?_
 refine cf (eB H) L.ek L.ok L.hc 21 24 (AK ok b (bw ks) _) rfl ?_
 refine ch (x:="items") (a:=.ol (its ks)) (by rfl') (ch (x:="codes") (a:=.ol ((cds ks).map ab)) (by rfl') ?_)
 refine cH (σ':=CR b (ks.map hdT) (ks.map a8) ((kp ks).map iT) (bw ks) (.str (kR (aK (st ks)))) (aj (af (st ks))) (gu (aj (af (st ks)))) (its ks) ((cds ks).map ab)) ⟨by rfl',by rfl',by rfl',by rfl',by rfl',by rfl',by rfl',by rfl',by rfl',by rfl',trivial⟩ ?_
 refine cf (eB H) L.ek L.ok L.hc 24 26 (Cw ok b _ _ _) rfl ?_
 refine ch (x:="whole_frame") (a:=.ol (gW ks)) (by rfl') ?_
 refine cH (σ':=Cl b (ks.map hdT) (ks.map a8) ((kp ks).map iT) (bw ks) (.str (kR (aK (st ks)))) (aj (af (st ks))) (gu (aj (af (st ks)))) (its ks) (gW ks)) ⟨by rfl',by rfl',by rfl',by rfl',by rfl',by rfl',by rfl',by rfl',by rfl',by rfl',trivial⟩ ?_
 refine cf (eB H) L.ek L.ok L.hc 26 27 (DF b _ _ _ _ _ _ _ _ _) rfl ?_
 refine AX (b:=b) H L.ek L.hbP L.code L.C L.hba L.e1 L.e2 L.gc L.hpv L.hp1 L.hp2 L.hloc (by rw[ao,if_pos rfl]) (by rfl') u0 (Fl ok b) λps l=>?_
 refine cH (σ':=KO b (ks.map hdT) (ks.map a8) ((kp ks).map iT) (bw ks) (.str (kR (aK (st ks)))) (aj (af (st ks))) (gu (aj (af (st ks)))) (its ks) (gW ks) l) ⟨by rfl',by rfl',by rfl',by rfl',by rfl',by rfl',by rfl',by rfl',by rfl',by rfl',by rfl',by rfl',by rfl',trivial⟩ ?_
 exact cf (gX H) L.ek L.ok' L.hc2 28 30 (Dz b _ _ _ _ _ _ _ _ _ l) rfl (xU H L ok h0)
theorem vG(H:Hd w hb mg mb)(L:LawE w hb mg ZU P c c1 c2 pv pv'){ns:List Int}(hn:ns.length≤63):LwJ w hb ZU P pv #[] (ak 123) (oH (.list (ns.map .int))):=by
 obtain⟨ws,hws,h0⟩:=yD hn
 refine cf (eB H) L.ek L.ok L.hc 0 1 h0 rfl ?_
 refine cH (σ':=[("well",.ol (ws.map iT))]) ⟨by rfl',trivial⟩ ?_
 obtain⟨wd,b,c',ks,hw,hc',ok,hl,hne,h1⟩:=yh hws
 subst hl
 refine cf (eB H) L.ek L.ok L.hc 1 7 h1 rfl ?_
 refine ch (x:="heads") (a:=.ol (ks.map hdT)) (by rfl') (ch (x:="pieces") (a:=.ol (ks.map a8)) (by rfl') (ch (x:="columns") (a:=.ol (ks.map aU)) (by rfl') ?_))
 refine cH (σ':=HZ (.int (ks.length:Int)) b (ks.map hdT) (ks.map a8) (ks.map aU)) ⟨by rfl',by rfl',by rfl',by rfl',by rfl',trivial⟩ ?_
 refine cf (eB H) L.ek L.ok L.hc 7 12 (Bp ok b) rfl ?_
 refine ch (x:="before") (a:=.ol [.str "list",.list (ks.map cY),.list [.list [.str "names",eV "character" (ks.map hdT)]]]) (by rfl') (ch (x:="stay") (a:=.ol ((kp ks).map iT)) (by rfl') ?_)
 refine cH (σ':=An (.int (ks.length:Int)) b (ks.map hdT) (ks.map a8) (aR ks) (bQ ks) ((kp ks).map iT)) ⟨by rfl',by rfl',by rfl',by rfl',by rfl',by rfl',by rfl',by rfl',by rfl',trivial⟩ ?_
 by_cases hs:st ks=[]
 ·have hk:(kp ks).map iT=[]:=by
   have:=g4 ks
   rw[hs]at this
   rw[List.eq_nil_of_length_eq_zero this];rfl
  refine uQ H ((Du H).upN 1) L.ek L.hf ok hne hs (by rfl') (by rfl') vp (by rfl') ?_
  rw[hk]
  refine cH (σ':=zO (aR ks) (bQ ks) [] nR) ⟨by rfl',by rfl',by rfl',by rfl',trivial⟩ ?_
  exact kA (eB H) L.ek L.ok L.hc 13 15 ⟨_,A2 ok⟩ rfl
 ·refine yJ H ((Du H).upN 1) L.ek ok hs (by rfl') (by rfl') ?_
  refine ch (x:="notes") (a:=.ol (bA ks)) (by rfl') ?_
  refine cH (σ':=jH (.int (ks.length:Int)) b (ks.map hdT) (ks.map a8) (aR ks) (bQ ks) ((kp ks).map iT) (bA ks) (bw ks)) ⟨by rfl',by rfl',by rfl',by rfl',by rfl',by rfl',by rfl',by rfl',by rfl',by rfl',trivial⟩ ?_
  exact xd H L ok hs
end
end
section
theorem cG:(bo 123).names=(["script"]:List Str):=by rfl'
noncomputable def Ge(h:Heap):Sh:={o:=h.get?,v:=λ_=>none,q:=λ_=>0}
noncomputable def Gk:Sh:={o:=λ_=>none,v:=λ_=>none,q:=λ_=>0}
theorem w6{h:Heap}{b:Addr}(e:(Ge h).has b):h.get? b≠none:=e.elim id λz=>absurd rfl z
theorem pM(b:Addr):¬ Gk.has b:=λe=>e.elim (λz=>z rfl) λz=>z rfl
section
variable{w:World}{mg mb:Str→Option Value}{c P:Addr}
theorem wp(s:Shared)(f l:Addr)(vs:List Value)(ns:List Int)(hT:TabsAt [(c,P)] s.heap)(H:Hd w (ghostOf s.heap [(c,P)]) mg mb)(hba:(ghostOf s.heap [(c,P)]).BuiltinsAt mg P)(hc:tabIn (K w.params) "law"=some (c,P))
  (hf:mg "law"=some (.ref f)) (hl:s.heap.get? l=some (lO vs 0)) (hv:∀S,RA pw w 318 S vs (ns.map .int)) (hn:ns.length≤63) :
  wpAny (model pw w) callerA (call (.ref f) [.ref l]) (λv s'=>v= .bool true∧∃h' tk,s'={s with heap:=h',toks:=tk}∧(∀a x,(ghostOf s.heap [(c,P)]).get? a=some x→h'.get? a=some x)∧∃ps',h'.get? P=some (tabObj ps')) (λ_ _=>False) s:=by
 obtain⟨f',fd,dv,gv,D⟩:=Bz (C:=318) (mb:=mb) H.kin H.g
 have hff:f'=f:=by
  rcases gv with e|⟨e,_⟩
  ·rw[hf]at e;cases e;rfl
  ·rw[hf]at e;cases e
 subst hff
 have F:=D.at_
 have up:∀a o,(ghostOf s.heap [(c,P)]).get? a=some o→s.heap.get? a=some o:=λa o e=>of_hideAll _ e
 obtain⟨ob,hob,hd⟩:=F.obj
 have hdf:dv=[]:=by
  have:=(D.dvR Gk).length
  rw[show(bo 123).dflt=[] by rfl']at this
  exact List.length_eq_zero_iff.mp this
 have bnd:BindsTo s fd ⟨[.ref l],[]⟩ ((bo 123).names.zip [.ref l]):=kp_binds (K:=K w.params) (H.kin.keeps up) λS=>by
  have h:=D.bind [.ref l] (by rw[cG];exact Nat.le_refl _) (by rw[cG,hdf];exact Nat.le_refl _) S
  rw[hdf]at h
  simpa using h
 have hlv:(bo 123).names.length=[Value.ref l].length:=by rw[cG];rfl
 have keys:=cO hlv
 refine wpAny_call (bZ (binds:=(bo 123).names.zip [.ref l]) (by decide) (up _ _ hob) hd (H.lim.keeps up) (F.cd.keeps up) F.body bnd F.clo (λx hx=>?_) (λs₁ ic=>?_) F.co F.gen F.kind)
 ·have:x.1∈(bo 123).names:=by rw[←keys];exact List.mem_map_of_mem hx
  exact(F.par _ this).imp id λe=>⟨e,cellsFrom_some _ _ _ (.inl e)⟩
 ·obtain⟨cok,va,pvn,inpv,hcel⟩:=hG F hlv (λ_=>0) ic
  obtain⟨h₁,tk,rfl⟩:=ic.toInCall.same
  have kp:=ic.toInCall.keep
  have ek:∀x,(callEnvC fd s.heap.objs.size f').kindOf x=ae 123 x:=λx=>D.kd x
  obtain⟨c1,e1⟩:=cok.has "seen" ((ek _).trans (by rfl'))
  obtain⟨c2,e2⟩:=cok.has "simple" ((ek _).trans (by rfl'))
  have hPc:=(hT (c,P) (.head _))
  have nG:=Heap.get?_none_of_le (h:=s.heap) (Nat.le_refl s.heap.objs.size)
  have L:LawE w (ghostOf s.heap [(c,P)]) mg (callEnvC fd s.heap.objs.size f') P c c1 c2 (hV fd s.heap.objs.size f') ((hV fd s.heap.objs.size f').filter λb=>b != c1 && b != c2):=by
   refine⟨ek,cok,rfl,hideAll_none _ (.head _),law_code H.kin H.g hc hf hob hd,(ghost_code hT).1,hba,e1,e2,?_,inpv,λb hb n1 n2=>List.mem_filter.mpr ⟨hb,?_⟩,λb hb=>?_,inpv _ _ e1,inpv _ _ e2,?_⟩
   ·cases z:(callEnvC fd s.heap.objs.size f').cells.lookup (ghost 0)with
    |none=>rfl
    |some c=>have:=hcel _ c z;rw[F.gk 0]at this;cases this
   ·simp only[Bool.and_eq_true,bne_iff_ne]
    exact⟨n1,n2⟩
   ·have:=List.mem_filter.mp hb
    simp only[Bool.and_eq_true,bne_iff_ne]at this
    exact this
   ·refine List.mem_filter.mpr ⟨cok.loc,?_⟩
    simp only[Bool.and_eq_true,bne_iff_ne]
    exact⟨λz=>cok.ne _ _ e1 z.symm,λz=>cok.ne _ _ e2 z.symm⟩
  have st:(Ge s.heap).In w h₁:=⟨λa x e=>kp a x e,λd x e=>(nomatch e),λd x e=>(nomatch e)⟩
  have r:Rel pw w 318 (ghostOf s.heap [(c,P)]) (callEnvC fd s.heap.objs.size f') (hV fd s.heap.objs.size f') (Ge s.heap) Gk (λx=>(((bo 123).names.zip [Value.ref l]).lookup x).or (fm (λ_=>0) x)) (oH (.list (ns.map .int))) none h₁:=by
   refine⟨st,⟨λa x e=>(nomatch e),λd x e=>(nomatch e),λd x e=>(nomatch e)⟩,up,va,λd x e=>(nomatch e),λd x e=>rfl,λb hb=>rfl,λb hb=>⟨(pvn b hb).2,λz=>w6 z (pvn b hb).1,pM b⟩,λx a e=>?_,?_,λi=>?_⟩
   ·unfold oH at e
    simp only[List.lookup_cons,List.lookup_nil]at e
    split at e
    ·rename_i q
     rw[beq_iff_eq.mp q,cG]
     exact⟨_,rfl⟩
    ·cases e
   ·refine⟨λ_=>[],λi v a x=>⟨?_,λb hb=>nomatch hb⟩,λi j v a v' a' hn x y d hd=>nomatch hd⟩
    cases i with
    |none=>cases x
    |some y=>
     obtain⟨x1,x2⟩:=x
     unfold oH at x1
     simp only[List.lookup_cons,List.lookup_nil]at x1
     split at x1
     ·rename_i q
      cases x1
      rw[beq_iff_eq.mp q,cG]at x2
      cases x2
      exact .f (.list hl (hv _))
     ·cases x1
   ·show(((bo 123).names.zip [Value.ref l]).lookup (ghost i)).or (fm (λ_=>0) (ghost i))=_
    rw[cG,cL]
    rw[show((["script"]:List Str).zip [Value.ref l]).lookup (ghost i)=none by
     show(match ghost i == ("script":Str)with|true=>some (Value.ref l)|false=>none)=none
     rw[beq_eq_false_iff_ne.mpr (dU (x:="script") (by decide +kernel) i).symm]]
    rfl
  have rm:Rm 75 (callerA.deeper (callEnvC fd s.heap.objs.size f')):=⟨rfl,by show(1+claimMargin)+1+3 * 75+8 < recursionLimit;decide,by show 4+3+20 * 75+400 < cLine;decide⟩
  refine wpAny_mono (vG H L hn (callerA.deeper (callEnvC fd s.heap.objs.size f')) _ (Ge s.heap) Gk _ {s with heap:=h₁,toks:=tk} rm rfl cok pM hPc.2 r) (λfl s' q=>?_) λ_ _ q=>q
  obtain⟨rfl,h2,tk2,rfl,k1,k2⟩:=q
  exact⟨rfl,h2,tk2,rfl,k1,k2⟩
end
end
section
theorem mK{R:WRecords}{t:WTm}{e:WCtx}{b:Bool}(h:t.value R e=some (.bool b)):t.holds R e=b:=by
 delta WTm.holds
 rw[h]
 cases b<;>rfl
theorem wC{R:WRecords}{d:WData}(h:WShape.has R d .int=true):∃i,d= .int i:=by
 cases d<;>first|exact⟨_,rfl⟩|exact absurd (show false=true from h) Bool.false_ne_true
theorem mf{R:WRecords}:∀{ds:List WData},WShape.hasItems R ds .int=true→∃ns:List Int,ds=ns.map .int
 |[],_=>⟨[],rfl⟩
 |d ::ds,h=>by
  have h:(WShape.has R d .int && WShape.hasItems R ds .int)=true:=h
  obtain⟨i,rfl⟩:=wC (an h).1
  obtain⟨ns,rfl⟩:=mf (an h).2
  exact⟨i ::ns,rfl⟩
theorem u8{R:WRecords}{d:WData}(h:WShape.has R d (.list .int)=true):∃ns:List Int,d= .list (ns.map .int):=by
 cases d with
 |list ds=>
  have h:(WShape.hasItems R ds .int||false)=true:=h
  rw[Bool.or_false]at h
  obtain⟨ns,rfl⟩:=mf (R:=R) (ds:=ds) h
  exact⟨ns,rfl⟩
 |_=>exact absurd (show false=true from h) Bool.false_ne_true
theorem qM{P:Params}{h:Heap}{ZV:Program}{w:World}{C:Addr}{ns:List Int}:∀{vs:List Value},WellAll P h vs (ns.map .int)→∀S,RA ZV w C S vs (ns.map .int):=by
 induction ns with
 |nil=>intro vs x S;cases x;exact .nil
 |cons n ns ih=>
  intro vs x S
  cases x with
  |cons a b=>cases a;exact .cons (.int _ _) (ih b S)
theorem xL:sN.row.toRowW.promised:=⟨[.list []],by decide +kernel,by decide +kernel⟩
theorem wA(P:Params):∃c Q,tabIn (K P) "law"=some (c,Q):=by
 have e:(tabIn (K P) "law").isSome=true:=by rfl'
 obtain⟨⟨c,Q⟩,h⟩:=Option.isSome_iff_exists.mp e
 exact⟨c,Q,h⟩
theorem yj:∃d,(recsOf qv).find? (λe=>e.name == ("law":Str))=some d:=by
 have e:((recsOf qv).find? (λe=>e.name == ("law":Str))).isSome=true:=by rfl'
 exact Option.isSome_iff_exists.mp e
theorem w5(P:Params):noTabs (K P)=true:=by rfl'
theorem law_holds:PySem.Challenge.rw_sm0110_01.Holds:=am said (λw s₀ s₁ mg mb G Y a o pm cd doc dV kV ho hd hcd hD hmg hg args vals as hpre hlay hrd hwl hlo=>by
 obtain⟨h1,h2⟩:=pre_splitW hpre
 obtain⟨d,r,rfl,hd1,hr⟩:=hasAllW_cons (es:=[]) h1
 obtain rfl:=hasAllW_nil hr
 obtain⟨ns,rfl⟩:=u8 hd1
 cases hwl with
 |cons wv wr=>
 cases wr
 cases wv with
 |@list l vs _ hl hws=>
 obtain⟨c,P,hc⟩:=wA w.params
 obtain⟨dr,hdr⟩:=yj
 have kin:=kIn_of Y
 have hT:TabsAt [(c,P)] s₁.heap:=λq hq=>by
  rw[List.mem_singleton.mp hq]
  exact tab_of G.T kin hdr hc
 obtain⟨mc,n1,n2⟩:=G.T.nolimit
 have H:Hd w (ghostOf s₁.heap [(c,P)]) mg mb:=⟨ghost_K hT kin (w5 _),ghost_ns hT G.T.g,ghost_ns hT G.T.b,G.T.builtins,mc,ghost_ns hT n1,n2⟩
 have hba:(ghostOf s₁.heap [(c,P)]).BuiltinsAt mg P:=by
  obtain⟨bm,ob,a1,a2,a3,a4,a5,a6⟩:=G.T.bmain
  refine⟨bm,ob,a1,a2,λq=>?_,λq=>?_,ghost_get hT a3 λq=>?_,a4,a5,a6⟩
  ·obtain⟨o,es,ep,e,hd,_⟩:=G.T.g
   rw[←q,a3]at e;cases e;rw[a6]at hd;cases hd
  ·have e:=(hT (c,P) (.head _)).2
   rw[show(c,P).2=P from rfl,←q,a3]at e;cases e;cases a4
  ·rw[q]at a4;cases a4
 have hn:ns.length≤63:=by
  have h2:(WTm.and (.not (.lt (.lit (.int 63)) (.len (.arg 0)))) (.lit (.bool true))).holds [] {args:=[.list (ns.map .int)]}=true:=h2
  by_cases hc:(63:Int) < ((ns.map WData.int).length:Int)
  ·have hh:=h2.symm.trans (mK (w_and (w_not (w_lt w_lit (w_len_list (w_arg rfl)))) w_lit))
   rw[decide_eq_true hc]at hh
   cases hh
  ·rw[←List.length_map (f:=WData.int)];exact Int.ofNat_le.mp (Int.not_lt.mp hc)
 have hmg':mg "law"=some (.ref a):=by rw[←hmg];rfl
 refine wpAny_mono (wp s₁ a l vs ns hT H hba hc hmg' hl (qM hws) hn) (λv s' q=>?_) λ_ _ q=>q.elim
 obtain⟨rfl,h',tk,rfl,kp,ps,hP⟩:=q
 refine⟨.inl ⟨_,.bool true,[],rfl,λcls=>rfl,.bool true,?_,λ_=>⟨List.nodup_nil,λa ha=>absurd ha List.not_mem_nil⟩⟩,⟨λb ob e=>?_,λb ob e=>?_⟩,rfl,.of_eq hg⟩
 ·show(WShape.has [] (.bool true) .bool && (WTm.eq .res (.lit (.bool true))).holds [] ⟨_,some (.bool true),_,[]⟩)=true
  refine(Bool.and_eq_true _ _).mpr ⟨rfl,?_⟩
  exact(mK (w_eq_bool (w_res rfl) w_lit)).trans rfl
 ·by_cases hb:b=P
  ·subst hb
   have e2:=(hT (c,b) (.head _)).2
   have e3:=(hT (c,b) (.head _)).1
   rw[e]at e2
   cases e2
   exact .inr (.inl ⟨(e3.tab e).isCodeTable,rfl,#[],ps,rfl,by rw[Array.empty_append];exact hP⟩)
  ·exact .inl (kp b ob (PySem.W.ghost_ne e λz=>hb (List.mem_singleton.mp z)))
 ·by_cases hb:b=P
  ·subst hb;exact⟨_,hP⟩
  ·exact⟨_,kp b ob (PySem.W.ghost_ne e λz=>hb (List.mem_singleton.mp z))⟩) xL
end
end
end Mine.Internal
theorem PySem.Challenge.cw_sm0110_01_holds : PySem.Challenge.rw_sm0110_01.Holds := by
  exact Mine.Internal.law_holds
