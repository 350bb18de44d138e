import PyProof.Rows.All
import Wide.All
import OpenK.AllK
import Wide.FinOn
import PySem.Challenge.RW_pq1102_01
open PySem PySem.W PySem.Calls PyProof.Rows
set_option Elab.async false
set_option linter.all false
set_option maxRecDepth 100000
set_option maxHeartbeats 4000000
set_option backward.match.sparseCases false
set_option genSizeOf false
set_option genSizeOfSpec false
set_option genInjectivity false
set_option tactic.hygienic false
namespace Mine
open _root_.Array renaming forIn_toList→Qf,getElem?_eq_getElem→oI,getElem?_eq_some_iff→Go,getElem?_toList→Qg,length_toList→xE,size_append→Bi,size_extract→Qh,toList_append→Gp,toList_extract→Gq
open _root_.Bool renaming and_eq_true→fH,and_eq_true_iff→gC,and_false→jc,and_true→xF,casesOn→eo,eq_false_iff→Bj,eq_false_or_eq_true→Qi,eq_iff_iff→uT,false_and→oJ,false_ne_true→d7,noConfusion→kn,not_eq_false'→uS,not_eq_true'→km,or_eq_false_iff→Bk,or_eq_true→uU,or_eq_true_iff→xG,or_false→uV,or_true→xH,true_and→ny
open _root_.Eq renaming symm→xI,trans→uW
open _root_.False renaming elim→ft
open _root_.ForInStep renaming yield→Bl
open _root_.Int renaming add_assoc→Gr,add_lt_add_right→xJ,add_mul_emod_self_left→Qj,add_nonneg→Gs,casesOn→xK,ediv_eq_zero_of_lt→Qk,ediv_nonneg→Gu,emod_add_mul_ediv→Ql,emod_eq_of_lt→xL,emod_lt_of_pos→Bm,emod_nonneg→xM,eq_ofNat_of_zero_le→jV,fdiv_eq_ediv_of_nonneg→Qm,le_add_of_nonneg_right→Qn,le_of_lt→oK,le_refl→uX,le_sub_one_of_lt→Qo,le_trans→q2,lt_of_le_of_lt→Bn,lt_trans→ko,min_def→Gv,mul_assoc→Gw,mul_comm→xN,natCast_nonneg→lh,ne_of_gt→sF,negSucc_lt_zero→Gx,ofNat→mJ,ofNat_le→lj,ofNat_lt→jd,pow_succ→uY,pow_zero→Bo,toNat_lt→Gy,toNat_natCast→pI,zero_add→Bp
open _root_.Nat renaming add_le_add_left→Gz,add_mul_mod_self_left→Qp,add_right_cancel_iff→Qq,add_sub_cancel'→xO,add_sub_cancel_left→sG,beq→c1,beq_refl→pJ,ble→dg,ble_eq→lX,ble_eq_true_of_le→Qr,blt→d3,casesAuxOn→h8,eq_of_beq_eq_true→fO,le_add_right→sH,le_of_ble_eq_true→d4,le_of_eq→sI,le_of_lt→xP,le_of_succ_le_succ→xQ,le_refl→kN,le_succ_of_le→Bq,le_total→GA,le_trans→e3,lt_irrefl→xR,lt_of_le_of_lt→mK,lt_of_lt_of_le→q3,lt_of_succ_lt→Br,lt_of_succ_lt_succ→xS,lt_or_ge→Bs,lt_succ_of_lt→GB,lt_succ_self→jx,lt_trans→sJ,lt_trichotomy→GC,min_eq_left→q4,min_le_left→GD,min_le_right→GF,mod_eq_of_lt→GG,ne_of_gt→oL,ne_of_lt→nz,not_lt→mL,not_lt_zero→xT,not_succ_le_zero→Bt,sub_eq_zero_of_le→Qs,sub_le_sub_right→Qt,sub_self→xU,sub_zero→GH,succ_add→GI,succ_lt_succ→GJ,zero_add→GK,zero_le→jy
open _root_.Nat.succ renaming inj→lY
open _root_.Option renaming casesOn→ez,isNone→Bu,isSome_iff_exists→sK,map_eq_some_iff→GL,map_some→GN,none→dk,some→E
open _root_.Option.some renaming inj→fc
open _root_.Prod renaming casesOn→Bv,fst→oM,snd→uZ
open _root_.Prod.mk renaming inj→Bw
open _root_.PyProof renaming noPylong_of_log2→Qu
open _root_.PyProof.Rows renaming listUpdate_at→GO,tail_any→nA
open _root_.PySem renaming Addr→bj,Around→fu,Code→lZ,Comprehension→sL,DictEntry→c3,Expr→aY,Flow→g0,FuncData→pK,Heap→fP,NameKind→g4,Operator→xV,OsState→f9,Params→db,Program→hS,Scope→oN,Shared→aQ,Stmt→iP,Value→aj,World→eJ,bm_if_false→sM,bm_if_true→Bx,builtinLookup_eq_fast→jz,codeAny_builtin→u0,codeAny_of_tree→GP,entryFor_alias→GQ,entryFor_of_fast→u1,entryFor_of_tree→u2,getItem_meets→GR,isSubtype_stop→GS,isSubtype_type→nB,lookup_relabel_local→GU,plainId_quiet→q5,sizeLine_eq→By,sliceIndices_raw→GV,slice_no_index→GW,slot_dict_contains→GX,slot_dict_getitem→GY,slot_list_getitem→xW,slot_list_setitem→Bz,typeIs_int→xX,typeLookup_type→jA,wpAny_assign_Name→xY,wpAny_attempt→u3,wpAny_bind→ae,wpAny_callSpecial?_slot→mM,wpAny_call_entry→hp,wpAny_dictEntries→mN,wpAny_dictEpoch→ll,wpAny_field→h9,wpAny_fieldsOf→BA,wpAny_forIn_list→u4,wpAny_getItem_list_slice→Qv,wpAny_handled→GZ,wpAny_holding→ga,wpAny_isInstance→pL,wpAny_isOneOf_itemiter→G0,wpAny_ite→nC,wpAny_ite_split→oO,wpAny_letGo→xZ,wpAny_load→nD,wpAny_mkInt→u5,wpAny_mono→sN,wpAny_newObj_type→jB,wpAny_notOrdered_dict→q6,wpAny_of_eq→hq,wpAny_pure→aX,wpAny_pyIter_slot→u6,wpAny_release→BB,wpAny_richCompare_same_room→Qw,wpAny_rule→iv,wpAny_seqItems→G1,wpAny_sequenceKey→u7,wpAny_setField→x0,wpAny_setField_rec→u8,wpAny_specialOf→iQ,wpAny_truthy_bool→BC,wpAny_tupleItemsOf→G2,wpAny_typeNameOfWhole_itemiter→BD,wpAny_typeNameOfWhole_keyiter→BE,wpAny_typeNameOf_itemiter→BF,wpAny_typeNameOf_keyiter→BG,wpAny_typeOf→u9,wpAny_updateSeq→x1
open _root_.PySem.Around renaming under_plainId→q7
open _root_.PySem.BindsTo renaming of_defaults→G3
open _root_.PySem.Calls renaming Name_function_global→G4,call_function_entry→Qx,spliced_nil→va
open _root_.PySem.Data renaming cls→sO,dict→l0,fields→fX
open _root_.PySem.Expr renaming casesOn→jW
open _root_.PySem.Flow renaming casesOn→nE
open _root_.PySem.Heap renaming ExtBut→BH,SameBut→fI,get?_push_of_some→fv,get?_push_size→g5,get?_update_other→BI,get?_update_self→l1,lt_size→ia,size_push→x2
open _root_.PySem.Heap.IsSliceOf renaming new→Qy
open _root_.PySem.Heap.SameBut renaming refl→BJ,update→kp
open _root_.PySem.NameKind renaming cell→G5,free→sP
open _root_.PySem.Operator renaming casesOn→Qz
open _root_.PySem.PyData renaming keyHash→BK
open _root_.PySem.Sem renaming wp_mono→vb
open _root_.PySem.Str renaming ofString→g6
open _root_.PySem.Value renaming bool→g7,builtin→fC,bytes→G6,casesOn→G7,int→x3,noConfusion→q8,none→cf,ref→gO,type→cC
open _root_.PySem.Value.ref renaming inj→BL
open _root_.PySem.W renaming SharedT→l2,boot_heap→q9,kas_sort→oP,piece_app→nF,segRun_of→nG,typeIs_bytes→pM
open _root_.PySem.W.FB renaming args_bytes_getitem_2→QA,entry_bytes_getitem→QB,slot_bytes_getitem→BM
open _root_.PySem.W.KBc renaming size_picked_le→G8
open _root_.PySem.W.KBy renaming ite_no→nH,picked→BN,special_eq→vc
open _root_.PySem.W.Looks renaming ld→x4
open _root_.PySem.callAny renaming viaDunder→QC
noncomputable section
variable {a bQ aM:bj}{b u af al f1 L ai dw g1 hF bl R aw av cb:Bool}{p q pos k2 iC nj:Pos}{G no qF:Prop}{A:fu}{b1 Q:aj→aQ→Prop}{y:aj}{f c o' aL st bD nf dp cX au isr pr iK Y W X bN bM bq br dN wy ca iif dQ num cz:Int}{aA:Model}{s bB s':aQ}{n m j ep kr pl gd:Nat}{ρ aV ah uR cu bP:List bj}{h h':fP}{xs ys:List aj}{P:db}{ob:Obj}{O:hS}{w:eJ}{I:Env}{t e bW gT iter:aY}{op:xV}{c2 args fM:List aY}{lg:Sem aj}{ay iE:List Str}{is fZ sel:List Nat}{dE:Nat→Bool}{name:Str}{lo hi:Option Int}{body:List iP}{scope:oN}{fF:Nat→Option aj}{d0 S ins d' fk:List Int}
theorem vx {a:Bool}(x:a=true)(y:b=true):(a&&b)=true:=by rw[x,y];rfl
theorem ZU:looksOpen PySem.Challenge.rw_pq1102_01.row.prog=true:=by
 unfold looksOpen
 repeat' with_reducible refine vx ?_ ?_
 all_goals decide+kernel
theorem abV:PySem.Challenge.rw_pq1102_01.row.partSaid=true:=by
 unfold OpenRow.partSaid
 repeat' with_reducible refine vx ?_ ?_
 all_goals first|with_reducible exact ZU|decide+kernel
theorem adc:PySem.Challenge.rw_pq1102_01.row.wellSaid=true:=by
 unfold OpenRow.wellSaid;refine vx (vx abV ?_) ?_
 all_goals decide+kernel
theorem adI:PySem.Challenge.rw_pq1102_01.wellSaid=true:=by
 unfold OpenLaw.wellSaid
 repeat' with_reducible refine vx ?_ ?_
 .exact adc
 all_goals decide+kernel
noncomputable abbrev d8:hS:=PySem.Challenge.pw_pq1102_01
abbrev pP:Type:=Arguments×List iP×oN
def Ja:Option iP→pP
 |some (.FunctionDef _ a b _ _ _ AI _ _ _)=>(a,b,AI)
 |_=>(⟨[],[],none,[],[],none,[]⟩,[],d8.main.scope)
noncomputable def S1:Option iP→List iP
 |some (.ClassDef _ _ _ b _ _ _ _ _ _ _)=>b
 |_=>[]
def ha (i:Nat):pP:=Ja d8.main.body[i]?
def mX (i j:Nat):pP:=Ja (S1 d8.main.body[i]?)[j]?
noncomputable def bb (x:String)(t:Nat):aj:=.str (.ofString x) t
def hf (t:Nat):aj:=bb "/claim/cut.py" t
noncomputable def ab (i:Int)(t:Nat):aj:=.int i t
noncomputable abbrev ak (a:bj):aj:=.ref a
def cw (P:db)(k:String)(t:Nat)(v:aj):c3:={hash:=BK P (.ofString k),key:=bb k t,val:=v}
noncomputable def cr (l:List aj):Obj:={cls:=.type "tuple",data:=.seq ⟨l⟩}
noncomputable def kB:Obj:={cls:=.none,data:=.fields ⟨[]⟩}
noncomputable def h1 (l:List aj):Obj:={cls:=.type "code",data:=.fields ⟨l⟩}
noncomputable def jo (d:pP)(n q:String):Obj:={cls:=.none,data:=.func {name:=.ofString n,qualname:=.ofString q,params:=d.1,body:=.stmts d.2.1,scope:=d.2.2,globals:=0,closure:=[],defaults:=.none,kwdefaults:=.none}}
noncomputable def fdOf (d:pP)(n q:String)(nX gs rl:aj):pK:={name:=.ofString n,qualname:=.ofString q,params:=d.1,body:=.stmts d.2.1,scope:=d.2.2,globals:=3,closure:=[],defaults:=nX,kwdefaults:=.none,pyModule:=gs,code:=rl}
def f3 (d:pP)(n q:String)(nX gs rl:aj):Obj:={cls:=.type "function",data:=.func (fdOf d n q nX gs rl)}
def oa:List (String×Nat×aj):=[("__doc__",166,cf),("__package__",167,cf),("__loader__",168,fC "__main__.__loader__#opaque"),("__spec__",169,cf),("__annotations__",170,ak 6),("__builtins__",171,ak 4),("__file__",173,bb "/claim/cut.py" 172),("__cached__",174,cf),("WallFault",218,ak 31),("Misused",234,ak 44),("number_of",245,ak 53),("octets_of",251,ak 58),("folded",258,ak 65),("mend",269,ak 72),("look4",280,ak 79),("head_size",290,ak 86),("size_at",301,ak 93),("place_at",309,ak 100),("look6",321,ak 107),("new_meta",331,ak 114),("Packet",368,ak 131),("look",376,ak 142),("packet_of",388,ak 150),("family_of",395,ak 157),("base_of",403,ak 164),("part",415,ak 171),("put_part",427,ak 178),("sum_place",434,ak 185),("common",446,ak 192),("sums_met",452,ak 197),("pairs_of",462,ak 204),("mend_at",476,ak 211),("set_octets",491,ak 218),("error_kinds",500,ak 225),("DYING",504,ab 512 503),("Talk",546,ak 242),("TalkBook",589,ak 264),("is_icmp",597,ak 275),("is_error",605,ak 282),("answer_kind",616,ak 289),("ports_at",628,ak 296),("tuple_at",643,ak 303),("tuple_of",651,ak 310),("invert",665,ak 317),("side_of",673,ak 324),("drop_talk",679,ak 329),("is_error_packet",689,ak 336),("put_there",702,ak 343),("port_place",712,ak 350),("rewrite",732,ak 357),("bit_for",741,ak 364),("inner_rewritten",751,ak 371),("rewrite_inner",761,ak 378),("translate",772,ak 385),("ASSURED",776,ab 4 775),("CONFIRMED",778,ab 8 777),("ESTABLISHED",780,ab 3 779),("FIN_RST",782,ab 5 781),("FIN_RST_SYN",784,ab 7 783),("ttl_place",792,ak 392),("ttl_of",801,ak 399),("drop_ttl",809,ak 406),("flags_of",817,ak 413),("may_flow",827,ak 420),("has_flow",836,ak 427),("flow_request",849,ak 434),("end_flow",855,ak 439),("is_plain",863,ak 446),("may_pass",873,ak 453),("try_fast",890,ak 460),("Scene",944,ak 478),("_law_draw",955,ak 489),("_law_digits",965,ak 496),("_law_split",971,ak 501),("_law_words",978,ak 508),("_law_host",986,ak 515),("_law_setup",992,ak 520),("_law_tuple",1000,ak 527),("_law_transport",1014,ak 534),("_law_whole",1029,ak 541),("_law_event",1052,ak 548),("_law_moved",1065,ak 555),("_law_packets",1079,ak 562),("_law_due",1091,ak 569),("_law_flows",1102,ak 576),("_law_book",1112,ak 583),("_law_ask",1129,ak 590),("_law_are_asked",1140,ak 597),("_law_fast",1154,ak 604),("_law_slow",1168,ak 611),("law",1174,ak 616)]
def Z2 (P:db):List c3:=oa.map fun x=>cw P x.1 x.2.1 x.2.2
def iV (P:db)(nm:aj)(n:Nat):Obj:={cls:=.type "dict",data:=.dict ⟨cw P "__name__" 165 nm::(Z2 P).take n⟩ (n+1)}
def Z1:List aj:=[ab 2 0,ab 0 0,ak 20,ab 8 0,ab 0 0,ak 40,ab 11 0,ab 0 0,ak 52,ab 16 0,ab 0 0,ak 57,ab 20 0,ab 0 0,ak 64,ab 24 0,ab 0 0,ak 71,ab 33 0,ab 0 0,ak 78,ab 42 0,ab 0 0,ak 85,ab 50 0,ab 0 0,ak 92,ab 59 0,ab 0 0,ak 99,ab 61 0,ab 0 0,ak 106,ab 81 0,ab 0 0,ak 113,ab 88 0,ab 0 0,ak 120,ab 98 0,ab 0 0,ak 141,ab 113 0,ab 0 0,ak 149,ab 117 0,ab 0 0,ak 156,ab 125 0,ab 0 0,ak 163,ab 137 0,ab 0 0,ak 170,ab 145 0,ab 0 0,ak 177,ab 151 0,ab 0 0,ak 184,ab 159 0,ab 0 0,ak 191,ab 165 0,ab 0 0,ak 196,ab 178 0,ab 0 0,ak 203,ab 183 0,ab 0 0,ak 210,ab 193 0,ab 0 0,ak 217,ab 206 0,ab 0 0,ak 224,ab 210 0,ab 0 0,ak 231,ab 224 0,ab 0 0,ak 252,ab 237 0,ab 0 0,ak 274,ab 239 0,ab 0 0,ak 281,ab 241 0,ab 0 0,ak 288,ab 249 0,ab 0 0,ak 295,ab 263 0,ab 0 0,ak 302,ab 275 0,ab 0 0,ak 309,ab 280 0,ab 0 0,ak 316,ab 288 0,ab 0 0,ak 323,ab 290 0,ab 0 0,ak 328,ab 303 0,ab 0 0,ak 335,ab 309 0,ab 0 0,ak 342,ab 313 0,ab 0 0,ak 349,ab 321 0,ab 0 0,ak 356,ab 336 0,ab 0 0,ak 363,ab 341 0,ab 0 0,ak 370,ab 345 0,ab 0 0,ak 377,ab 349 0,ab 0 0,ak 384,ab 365 0,ab 0 0,ak 391,ab 370 0,ab 0 0,ak 398,ab 376 0,ab 0 0,ak 405,ab 382 0,ab 0 0,ak 412,ab 385 0,ab 0 0,ak 419,ab 393 0,ab 0 0,ak 426,ab 398 0,ab 0 0,ak 433,ab 412 0,ab 0 0,ak 438,ab 416 0,ab 0 0,ak 445,ab 421 0,ab 0 0,ak 452,ab 432 0,ab 0 0,ak 459,ab 450 0,ab 0 0,ak 466,ab 473 0,ab 0 0,ak 488,ab 478 0,ab 0 0,ak 495,ab 484 0,ab 0 0,ak 500,ab 486 0,ab 0 0,ak 507,ab 488 0,ab 0 0,ak 514,ab 492 0,ab 0 0,ak 519,ab 505 0,ab 0 0,ak 526,ab 507 0,ab 0 0,ak 533,ab 523 0,ab 0 0,ak 540,ab 534 0,ab 0 0,ak 547,ab 549 0,ab 0 0,ak 554,ab 558 0,ab 0 0,ak 561,ab 566 0,ab 0 0,ak 568,ab 584 0,ab 0 0,ak 575,ab 591 0,ab 0 0,ak 582,ab 602 0,ab 0 0,ak 589,ab 620 0,ab 0 0,ak 596,ab 631 0,ab 0 0,ak 603,ab 638 0,ab 0 0,ak 610,ab 647 0,ab 0 0,ak 615]
def kS (n:Nat):Obj:={cls:=.none,data:=.fields ⟨Z1.take n⟩}
def J4 (t:Nat):List String→List aj
 | []=>[]
 |x::r=>bb x t::J4 (t+1) r
def m2 (a:Nat)(d:pP)(n q:String)(nX gs:aj)(t:Nat)(l na:Int)(ns:List String):List Obj:=[cr [],kB,cr (J4 (t+3) ns),cr [],jo d n q,h1 [bb n t,bb q (t+1),hf (t+2),ab l 0,ab na 0,ab 0 0,ab 0 0,ab 3 0,ak a,g7 true,ab 181 0,ak (a+1),cf,ak (a+2),ak (a+3),ak (a+4),ab (t+3+ns.length) 0,ab l 0,hf (t+4+ns.length)],f3 d n q nX gs (ak (a+5))]
def c9 (a i:Nat)(n:String)(gs:aj)(t:Nat)(l na:Int)(ns:List String):List Obj:=m2 a (ha i) n n .none gs t l na ns
def XB:aj:=bb "siftwall.faults" 187
def rE:aj:=bb "siftwall.octets" 235
def wj:aj:=bb "siftwall.ipv4" 270
def ql:aj:=bb "siftwall.ipv6" 281
def gp:aj:=bb "siftwall.packets" 322
def Kk:aj:=bb "siftwall.transport" 492
def h3:aj:=bb "siftwall.tuples" 501
def Kl:aj:=bb "siftwall.relate" 680
def kE:aj:=bb "siftwall.natwrite" 690
def il:aj:=bb "siftwall.fastroad" 773
def Kj:aj:=bb "siftwall.walk" 891
def e8:aj:=bb "law_pq1102_01" 945
def vz (P:db):List Obj:=[cr [],kS 231,h1 [bb "<module>" 182,bb "<module>" 183,hf 184,ab 1 0,ab 0 0,ab 0 0,ab 0 0,ab 0 0,ak 11,g7 false,ab 181 0,ak 12,cf,cf,cf,cf,ab 185 0,ab 1 0,hf 186],{cls:=cC "frame",slots:=#[E (ak 13),E (ak 3),E (ak 3),none,E (bb "__main__" 164),none,E (ak 0)]},cr [cC "Exception"],{cls:=cC "builtin_function_or_method",data:=fX #[fC "type.__prepare__",cC "type"]},{cls:=cC "dict",data:=l0 #[cw P "__module__" 196 (bb "siftwall.faults" 187),cw P "__qualname__" 198 (bb "WallFault" 197),cw P "__firstlineno__" 200 (ab 2 199),cw P "__init__" 208 (ak 28),cw P "__static_attributes__" 211 (ak 29)] 5},cr [],{cls:=cf,data:=fX #[ab 4 0,ab 4 0,ak 27]},h1 [bb "WallFault" 191,bb "WallFault" 192,hf 193,ab 2 0,ab 0 0,ab 0 0,ab 0 0,ab 0 0,ak 18,g7 false,ab 181 0,ak 19,cf,cf,cf,cf,ab 194 0,ab 2 0,hf 195],{cls:=cC "frame",slots:=#[E (ak 20),E (ak 3),E (ak 17),none,E (bb "siftwall.faults" 187),none,E (ak 0)]}]++(m2 22 (mX 1 0) "__init__" "WallFault.__init__" .none XB 201 4 2 ["self","why"]++([cr [bb "at" 209,bb "why" 210],{cls:=cC "dict",data:=l0 #[cw P "__module__" 196 (bb "siftwall.faults" 187),cw P "__firstlineno__" 200 (ab 2 199),cw P "__init__" 208 (ak 28),cw P "__static_attributes__" 211 (ak 29),cw P "__weakref__" 213 (ak 32),cw P "__doc__" 214 (cf)] 3},{cls:=cC "type",data:=sO {name:=g6 "WallFault",bases:=[cC "Exception"],mro:=[ak 31,cC "Exception",cC "BaseException",cC "object"],ns:=30,qualname:=g6 "WallFault",subclasses:=[ak 44]},slots:=#[E (ak 15),none,E (bb "WallFault" 189),E (bb "WallFault" 197),E (fC "Exception.__new__"),E (g7 true)]},{cls:=cC "getset_descriptor",data:=fX #[bb "__weakref__" 212,ak 31,fC "ExceptionGroup.__weakref__",cf]},{cls:=cC "super",data:=fX #[ak 31,ak 31,ak 31]},{cls:=cC "builtin_function_or_method",data:=fX #[fC "object.__init_subclass__",ak 31]},cr [ak 31]]))
def dC (P:db):List Obj:=[{cls:=cC "builtin_function_or_method",data:=fX #[fC "type.__prepare__",cC "type"]},{cls:=cC "dict",data:=l0 #[cw P "__module__" 226 (bb "siftwall.faults" 187),cw P "__qualname__" 228 (bb "Misused" 227),cw P "__firstlineno__" 230 (ab 8 229),cw P "__static_attributes__" 231 (ak 42)] 4},cr [],kB,h1 [bb "Misused" 221,bb "Misused" 222,hf 223,ab 8 0,ab 0 0,ab 0 0,ab 0 0,ab 0 0,ak 38,g7 false,ab 181 0,ak 39,cf,cf,cf,cf,ab 224 0,ab 8 0,hf 225],{cls:=cC "frame",slots:=#[E (ak 40),E (ak 3),E (ak 37),none,E (bb "siftwall.faults" 187),none,E (ak 0)]},cr [],{cls:=cC "dict",data:=l0 #[cw P "__module__" 226 (bb "siftwall.faults" 187),cw P "__firstlineno__" 230 (ab 8 229),cw P "__static_attributes__" 231 (ak 42),cw P "__doc__" 232 (cf)] 2},{cls:=cC "type",data:=sO {name:=g6 "Misused",bases:=[ak 31],mro:=[ak 44,ak 31,cC "Exception",cC "BaseException",cC "object"],ns:=43,qualname:=g6 "Misused"},slots:=#[E (ak 35),none,E (bb "Misused" 219),E (bb "Misused" 227),E (fC "Exception.__new__"),E (g7 true)]},{cls:=cC "super",data:=fX #[ak 44,ak 44,ak 44]},{cls:=cC "builtin_function_or_method",data:=fX #[fC "object.__init_subclass__",ak 44]}]++(c9 47 4 "number_of" rE 237 11 1 ["octets","number","octet"]++([cr [],kB,jo (ha 5) "octets_of" "octets_of",h1 [bb "octets_of" 246,bb "octets_of" 247,hf 248,ab 16 0,ab 2 0,ab 0 0,ab 0 0,ab 3 0,ak 54,g7 true,ab 181 0,ak 55,cf,cf,cf,ak 56,ab 249 0,ab 16 0,hf 250],f3 (ha 5) "octets_of" "octets_of" (cf) (bb "siftwall.octets" 235) (ak 57),cr [],kB]))
def dU (P:db):List Obj:=(c9 59 6 "folded" rE 252 20 1 ["total"]).drop 2++(c9 66 7 "mend" rE 259 24 3 ["check","old","new","total","place"]++(c9 73 9 "look4" wj 272 33 1 ["data","off","word"]++((c9 80 11 "head_size" ql 283 42 2 ["kind","second"]).take 6)))
def gn (P:db):List Obj:=[f3 (ha 11) "head_size" "head_size" (cf) (bb "siftwall.ipv6" 281) (ak 85)]++(c9 87 12 "size_at" ql 291 50 4 ["octets","at","kind","end","size"]++(c9 94 13 "place_at" ql 302 59 2 ["octets","at"]++(c9 101 14 "look6" ql 310 61 1 ["data","kind","at","place","is_more","size"]++((c9 108 16 "new_meta" gp 324 81 0 ["out","name"]).take 3))))
def iT (P:db):List Obj:=(c9 108 16 "new_meta" gp 324 81 0 ["out","name"]).drop 3++([cr [],{cls:=cC "builtin_function_or_method",data:=fX #[fC "type.__prepare__",cC "type"]},{cls:=cC "dict",data:=l0 #[cw P "__module__" 339 (bb "siftwall.packets" 322),cw P "__qualname__" 341 (bb "Packet" 340),cw P "__firstlineno__" 343 (ab 88 342),cw P "__init__" 353 (ak 128),cw P "__static_attributes__" 361 (ak 129)] 5},cr [],{cls:=cf,data:=fX #[ab 90 0,ab 4 0,ak 127]},h1 [bb "Packet" 334,bb "Packet" 335,hf 336,ab 88 0,ab 0 0,ab 0 0,ab 0 0,ab 0 0,ak 118,g7 false,ab 181 0,ak 119,cf,cf,cf,cf,ab 337 0,ab 88 0,hf 338],{cls:=cC "frame",slots:=#[E (ak 120),E (ak 3),E (ak 117),none,E (bb "siftwall.packets" 322),none,E (ak 0)]}]++(m2 122 (mX 17 0) "__init__" "Packet.__init__" .none gp 344 90 4 ["self","data","kind","link"]++([cr [bb "data" 354,bb "kind" 355,bb "l4" 356,bb "link" 357,bb "meta" 358,bb "off" 359,bb "place" 360],{cls:=cC "dict",data:=l0 #[cw P "__module__" 339 (bb "siftwall.packets" 322),cw P "__firstlineno__" 343 (ab 88 342),cw P "__init__" 353 (ak 128),cw P "__static_attributes__" 361 (ak 129),cw P "__dict__" 363 (ak 132),cw P "__weakref__" 365 (ak 133),cw P "__doc__" 366 (cf)] 4},{cls:=cC "type",data:=sO {name:=g6 "Packet",bases:=[cC "object"],mro:=[ak 131,cC "object"],ns:=130,qualname:=g6 "Packet"},slots:=#[none,none,E (bb "Packet" 332),E (bb "Packet" 340),E (fC "object.__new__"),E (g7 true)]},{cls:=cC "getset_descriptor",data:=fX #[bb "__dict__" 362,ak 131,fC "function.__dict__",fC "function.__dict__#set"]},{cls:=cC "getset_descriptor",data:=fX #[bb "__weakref__" 364,ak 131,fC "ExceptionGroup.__weakref__",cf]},{cls:=cC "super",data:=fX #[ak 131,ak 131,ak 131]},{cls:=cC "builtin_function_or_method",data:=fX #[fC "object.__init_subclass__",ak 131]}])))
def lp (P:db):List Obj:=c9 136 18 "look" gp 369 98 1 ["packet","found"]++([cr [ab 2048 377,G6 #[] 378]]++(m2 144 (ha 19) "packet_of" "packet_of" (ak 143) gp 379 113 3 ["octets","kind","link","packet"]++(c9 151 20 "family_of" gp 389 117 1 ["packet"]++((c9 158 21 "base_of" gp 396 125 2 ["packet","base"]).take 3))))
def rk (P:db):List Obj:=(c9 158 21 "base_of" gp 396 125 2 ["packet","base"]).drop 3++(c9 165 22 "part" gp 404 137 4 ["packet","base","at","many","found","begin"]++(c9 172 23 "put_part" gp 416 145 4 ["packet","base","at","octets","found","begin"]++(c9 179 24 "sum_place" gp 428 151 1 ["l4"])))
def Cy (P:db):List Obj:=c9 186 25 "common" gp 435 159 4 ["begin","end","low","behind","first","last"]++([cr [],kB,jo (ha 26) "sums_met" "sums_met",h1 [bb "sums_met" 447,bb "sums_met" 448,hf 449,ab 165 0,ab 3 0,ab 0 0,ab 0 0,ab 3 0,ak 193,g7 true,ab 181 0,ak 194,cf,cf,cf,ak 195,ab 450 0,ab 165 0,hf 451],f3 (ha 26) "sums_met" "sums_met" (cf) (bb "siftwall.packets" 322) (ak 196)]++(c9 198 27 "pairs_of" gp 453 178 3 ["data","first","behind","out"]++((c9 205 28 "mend_at" gp 463 183 5 ["packet","before","place","stretches","is_udp","check","first","behind"]).take 6)))
def Cz (P:db):List Obj:=[f3 (ha 28) "mend_at" "mend_at" (cf) (bb "siftwall.packets" 322) (ak 210)]++(c9 212 29 "set_octets" gp 477 193 4 ["packet","base","at","octets","before","begin","sums","place","stretches"]++(c9 219 31 "error_kinds" Kk 494 206 1 ["nfproto"]++([cr [],{cls:=cC "builtin_function_or_method",data:=fX #[fC "type.__prepare__",cC "type"]},{cls:=cC "dict",data:=l0 #[cw P "__module__" 512 (bb "siftwall.tuples" 501),cw P "__qualname__" 514 (bb "Talk" 513),cw P "__firstlineno__" 516 (ab 210 515),cw P "__init__" 527 (ak 239),cw P "__static_attributes__" 539 (ak 240)] 5},cr [],{cls:=cf,data:=fX #[ab 212 0,ab 4 0,ak 238]},h1 [bb "Talk" 507,bb "Talk" 508,hf 509,ab 210 0,ab 0 0,ab 0 0,ab 0 0,ab 0 0,ak 229,g7 false,ab 181 0,ak 230,cf,cf,cf,cf,ab 510 0,ab 210 0,hf 511],{cls:=cC "frame",slots:=#[E (ak 231),E (ak 3),E (ak 228),none,E (bb "siftwall.tuples" 501),none,E (ak 0)]}]++((m2 233 (mX 34 0) "__init__" "Talk.__init__" .none h3 517 212 5 ["self","number","original","reply","zone"]).take 3))))
def CA (P:db):List Obj:=(m2 233 (mX 34 0) "__init__" "Talk.__init__" .none h3 517 212 5 ["self","number","original","reply","zone"]).drop 3++([cr [bb "mark" 528,bb "master" 529,bb "number" 530,bb "original" 531,bb "reply" 532,bb "sides" 533,bb "since" 534,bb "state" 535,bb "status" 536,bb "until" 537,bb "zone" 538],{cls:=cC "dict",data:=l0 #[cw P "__module__" 512 (bb "siftwall.tuples" 501),cw P "__firstlineno__" 516 (ab 210 515),cw P "__init__" 527 (ak 239),cw P "__static_attributes__" 539 (ak 240),cw P "__dict__" 541 (ak 243),cw P "__weakref__" 543 (ak 244),cw P "__doc__" 544 (cf)] 4},{cls:=cC "type",data:=sO {name:=g6 "Talk",bases:=[cC "object"],mro:=[ak 242,cC "object"],ns:=241,qualname:=g6 "Talk"},slots:=#[none,none,E (bb "Talk" 505),E (bb "Talk" 513),E (fC "object.__new__"),E (g7 true)]},{cls:=cC "getset_descriptor",data:=fX #[bb "__dict__" 540,ak 242,fC "function.__dict__",fC "function.__dict__#set"]},{cls:=cC "getset_descriptor",data:=fX #[bb "__weakref__" 542,ak 242,fC "ExceptionGroup.__weakref__",cf]},{cls:=cC "super",data:=fX #[ak 242,ak 242,ak 242]},{cls:=cC "builtin_function_or_method",data:=fX #[fC "object.__init_subclass__",ak 242]},cr [],{cls:=cC "builtin_function_or_method",data:=fX #[fC "type.__prepare__",cC "type"]},{cls:=cC "dict",data:=l0 #[cw P "__module__" 554 (bb "siftwall.tuples" 501),cw P "__qualname__" 556 (bb "TalkBook" 555),cw P "__firstlineno__" 558 (ab 224 557),cw P "__init__" 571 (ak 261),cw P "__static_attributes__" 582 (ak 262)] 5},cr [],{cls:=cf,data:=fX #[ab 226 0,ab 4 0,ak 260]},h1 [bb "TalkBook" 549,bb "TalkBook" 550,hf 551,ab 224 0,ab 0 0,ab 0 0,ab 0 0,ab 0 0,ak 250,g7 false,ab 181 0,ak 251,cf,cf,cf,cf,ab 552 0,ab 224 0,hf 553],{cls:=cC "frame",slots:=#[E (ak 252),E (ak 3),E (ak 249),none,E (bb "siftwall.tuples" 501),none,E (ak 0)]},cr [ab 64 559,ab 0 560,ab 128 561]]++((m2 255 (mX 35 0) "__init__" "TalkBook.__init__" (ak 254) h3 562 226 4 ["self","most","seed","tries"]).take 6))
def So (P:db):List Obj:=[f3 (mX 35 0) "__init__" "TalkBook.__init__" (ak 254) (bb "siftwall.tuples" 501) (ak 260),cr [bb "expects" 572,bb "flows" 573,bb "is_loose" 574,bb "last" 575,bb "most" 576,bb "seed" 577,bb "table" 578,bb "talks" 579,bb "trackers" 580,bb "tries" 581],{cls:=cC "dict",data:=l0 #[cw P "__module__" 554 (bb "siftwall.tuples" 501),cw P "__firstlineno__" 558 (ab 224 557),cw P "__init__" 571 (ak 261),cw P "__static_attributes__" 582 (ak 262),cw P "__dict__" 584 (ak 265),cw P "__weakref__" 586 (ak 266),cw P "__doc__" 587 (cf)] 4},{cls:=cC "type",data:=sO {name:=g6 "TalkBook",bases:=[cC "object"],mro:=[ak 264,cC "object"],ns:=263,qualname:=g6 "TalkBook"},slots:=#[none,none,E (bb "TalkBook" 547),E (bb "TalkBook" 555),E (fC "object.__new__"),E (g7 true)]},{cls:=cC "getset_descriptor",data:=fX #[bb "__dict__" 583,ak 264,fC "function.__dict__",fC "function.__dict__#set"]},{cls:=cC "getset_descriptor",data:=fX #[bb "__weakref__" 585,ak 264,fC "ExceptionGroup.__weakref__",cf]},{cls:=cC "super",data:=fX #[ak 264,ak 264,ak 264]},{cls:=cC "builtin_function_or_method",data:=fX #[fC "object.__init_subclass__",ak 264]}]++(c9 269 36 "is_icmp" h3 590 237 2 ["nfproto","protocol"]++(c9 276 37 "is_error" h3 598 239 2 ["nfproto","kind"]++((c9 283 38 "answer_kind" h3 606 241 2 ["nfproto","kind","pairs","ask","answer"]).take 3)))
def Sp (P:db):List Obj:=(c9 283 38 "answer_kind" h3 606 241 2 ["nfproto","kind","pairs","ask","answer"]).drop 3++(c9 290 39 "ports_at" h3 617 249 4 ["octets","nfproto","protocol","off","kind","ident"]++(c9 297 40 "tuple_at" h3 629 263 4 ["octets","nfproto","protocol","off","ports","at","size","source","target"]++(c9 304 41 "tuple_of" h3 644 275 1 ["packet","nfproto"])))
def Sq (P:db):List Obj:=c9 311 42 "invert" h3 652 280 1 ["t","nfproto","protocol","source","sport","target","dport","answer"]++(c9 318 43 "side_of" h3 666 288 2 ["talk","direction"]++([cr [],kB,jo (ha 44) "drop_talk" "drop_talk",h1 [bb "drop_talk" 674,bb "drop_talk" 675,hf 676,ab 290 0,ab 2 0,ab 0 0,ab 0 0,ab 3 0,ak 325,g7 true,ab 181 0,ak 326,cf,cf,cf,ak 327,ab 677 0,ab 290 0,hf 678],f3 (ha 44) "drop_talk" "drop_talk" (cf) (bb "siftwall.tuples" 501) (ak 328)]++((c9 330 46 "is_error_packet" Kl 682 303 1 ["packet","nfproto"]).take 6)))
def Sr (P:db):List Obj:=[f3 (ha 46) "is_error_packet" "is_error_packet" (cf) (bb "siftwall.relate" 680) (ak 335)]++(c9 337 48 "put_there" kE 692 309 4 ["packet","base","at","octets","old"]++(c9 344 49 "port_place" kE 703 313 2 ["packet","manip","nfproto","kind"]++(c9 351 50 "rewrite" kE 713 321 3 ["packet","t","manip","nfproto","protocol","source","sport","target","dport","at","size","place","address","port"]++((c9 358 51 "bit_for" kE 733 336 2 ["manip","direction","is_source"]).take 3))))
def Ss (P:db):List Obj:=(c9 358 51 "bit_for" kE 733 336 2 ["manip","direction","is_source"]).drop 3++(c9 365 52 "inner_rewritten" kE 742 341 3 ["octets","t","manip","packet"]++(c9 372 53 "rewrite_inner" kE 752 345 3 ["packet","t","manip","octets"]++(c9 379 54 "translate" kE 762 349 2 ["scene","manip","talk","side","t"])))
def Su (P:db):List Obj:=c9 386 61 "ttl_place" il 785 365 1 ["packet","nfproto"]++(c9 393 62 "ttl_of" il 793 370 1 ["packet","place","octets"]++(c9 400 63 "drop_ttl" il 802 376 1 ["packet","ttl"]++((c9 407 64 "flags_of" il 810 382 1 ["packet","octets"]).take 4)))
def Sv (P:db):List Obj:=(c9 407 64 "flags_of" il 810 382 1 ["packet","octets"]).drop 4++(c9 414 65 "may_flow" il 818 385 2 ["packet","talk","flags","is_open"]++(c9 421 66 "has_flow" il 828 393 2 ["book","talk","key"]++(c9 428 67 "flow_request" il 837 398 2 ["scene","name","talk","book","first","second","side"]++([cr []]))))
def Sw (P:db):List Obj:=[kB,jo (ha 68) "end_flow" "end_flow",h1 [bb "end_flow" 850,bb "end_flow" 851,hf 852,ab 412 0,ab 2 0,ab 0 0,ab 0 0,ab 3 0,ak 435,g7 true,ab 181 0,ak 436,cf,cf,cf,ak 437,ab 853 0,ab 412 0,hf 854],f3 (ha 68) "end_flow" "end_flow" (cf) (bb "siftwall.fastroad" 773) (ak 438)]++(c9 440 69 "is_plain" il 856 416 1 ["packet","pieces"]++(c9 447 70 "may_pass" il 864 421 3 ["book","packet","number","flags"]++(c9 454 71 "try_fast" il 874 432 1 ["scene","packet","book","t","flow","number","direction","oif","talk","goal","manip"])))
def Sx (P:db):List Obj:=[cr [],{cls:=cC "builtin_function_or_method",data:=fX #[fC "type.__prepare__",cC "type"]},{cls:=cC "dict",data:=l0 #[cw P "__module__" 900 (bb "siftwall.walk" 891),cw P "__qualname__" 902 (bb "Scene" 901),cw P "__firstlineno__" 904 (ab 450 903),cw P "__init__" 917 (ak 475),cw P "__static_attributes__" 937 (ak 476)] 5},cr [],{cls:=cf,data:=fX #[ab 452 0,ab 4 0,ak 474]},h1 [bb "Scene" 895,bb "Scene" 896,hf 897,ab 450 0,ab 0 0,ab 0 0,ab 0 0,ab 0 0,ak 464,g7 false,ab 181 0,ak 465,cf,cf,cf,cf,ab 898 0,ab 450 0,hf 899],{cls:=cC "frame",slots:=#[E (ak 466),E (ak 3),E (ak 463),none,E (bb "siftwall.walk" 891),none,E (ak 0)]},cr [ab 0 905,bb "input" 906]]++(m2 469 (mX 73 0) "__init__" "Scene.__init__" (ak 468) Kj 907 452 5 ["self","packet","fields","now","hook"]++([cr [bb "doers" 918,bb "fields" 919,bb "homes" 920,bb "hook" 921,bb "is_reply" 922,bb "log" 923,bb "now" 924,bb "objects" 925,bb "ops" 926,bb "order" 927,bb "packet" 928,bb "readers" 929,bb "replies" 930,bb "sets" 931,bb "state" 932,bb "steps" 933,bb "talk" 934,bb "talks" 935,bb "tools" 936],{cls:=cC "dict",data:=l0 #[cw P "__module__" 900 (bb "siftwall.walk" 891),cw P "__firstlineno__" 904 (ab 450 903),cw P "__init__" 917 (ak 475),cw P "__static_attributes__" 937 (ak 476),cw P "__dict__" 939 (ak 479),cw P "__weakref__" 941 (ak 480),cw P "__doc__" 942 (cf)] 4},{cls:=cC "type",data:=sO {name:=g6 "Scene",bases:=[cC "object"],mro:=[ak 478,cC "object"],ns:=477,qualname:=g6 "Scene"},slots:=#[none,none,E (bb "Scene" 893),E (bb "Scene" 901),E (fC "object.__new__"),E (g7 true)]},{cls:=cC "getset_descriptor",data:=fX #[bb "__dict__" 938,ak 478,fC "function.__dict__",fC "function.__dict__#set"]},{cls:=cC "getset_descriptor",data:=fX #[bb "__weakref__" 940,ak 478,fC "ExceptionGroup.__weakref__",cf]},{cls:=cC "super",data:=fX #[ak 478,ak 478,ak 478]},{cls:=cC "builtin_function_or_method",data:=fX #[fC "object.__init_subclass__",ak 478]}]++((c9 483 75 "_law_draw" e8 947 473 2 ["script","k","usual"]).take 3)))
def Sy (P:db):List Obj:=(c9 483 75 "_law_draw" e8 947 473 2 ["script","k","usual"]).drop 3++(c9 490 76 "_law_digits" e8 956 478 2 ["n","bases","out","base"]++([cr [],kB,jo (ha 77) "_law_split" "_law_split",h1 [bb "_law_split" 966,bb "_law_split" 967,hf 968,ab 484 0,ab 2 0,ab 0 0,ab 0 0,ab 3 0,ak 497,g7 true,ab 181 0,ak 498,cf,cf,cf,ak 499,ab 969 0,ab 484 0,hf 970],f3 (ha 77) "_law_split" "_law_split" (cf) (bb "law_pq1102_01" 945) (ak 500)]++(c9 502 78 "_law_words" e8 972 486 1 ["octets"]++([cr [],kB]))))
def SA (P:db):List Obj:=(c9 509 79 "_law_host" e8 979 488 2 ["nfproto","k"]).drop 2++([cr [],kB,jo (ha 80) "_law_setup" "_law_setup",h1 [bb "_law_setup" 987,bb "_law_setup" 988,hf 989,ab 492 0,ab 1 0,ab 0 0,ab 0 0,ab 3 0,ak 516,g7 true,ab 181 0,ak 517,cf,cf,cf,ak 518,ab 990 0,ab 492 0,hf 991],f3 (ha 80) "_law_setup" "_law_setup" (cf) (bb "law_pq1102_01" 945) (ak 519)]++(c9 521 81 "_law_tuple" e8 993 505 2 ["setup","pair"]++(c9 528 82 "_law_transport" e8 1001 507 3 ["setup","pair","shape","size","head","place","total","check"]++([cr []]))))
def SD (P:db):List Obj:=(c9 535 83 "_law_whole" e8 1015 523 5 ["setup","pair","ttl","shape","inside","protocol","heads","out","options"]).drop 1++(c9 542 84 "_law_event" e8 1030 534 2 ["setup","draws","which","way","ttl","iif","port","flags","is_long","word","data","bare","cut","step","row","source","target"]++(c9 549 85 "_law_moved" e8 1053 549 2 ["setup","row","source","target","goal","is_source","is_target"]++((c9 556 86 "_law_packets" e8 1066 558 2 ["setup","row","shape","moved","inside","is_later","after","ttl"]).take 5)))
def SE (P:db):List Obj:=[h1 [bb "_law_packets" 1066,bb "_law_packets" 1067,hf 1068,ab 558 0,ab 2 0,ab 0 0,ab 0 0,ab 3 0,ak 556,g7 true,ab 181 0,ak 557,cf,ak 558,ak 559,ak 560,ab 1077 0,ab 558 0,hf 1078],f3 (ha 86) "_law_packets" "_law_packets" (cf) (bb "law_pq1102_01" 945) (ak 561)]++(c9 563 87 "_law_due" e8 1080 566 4 ["setup","world","row","is_later","shape","which"]++(c9 570 88 "_law_flows" e8 1092 584 2 ["setup","world","out","which","way"]++(c9 577 89 "_law_book" e8 1103 591 1 ["setup","book","which","talk"]++([cr [],kB]))))
def SF (P:db):List Obj:=(c9 584 90 "_law_ask" e8 1113 602 5 ["setup","book","which","way","cause","shape","pair","octets","scene","status","told"]).drop 2++(c9 591 91 "_law_are_asked" e8 1130 620 2 ["setup","book","cause","way","is_vain"]++(c9 598 92 "_law_fast" e8 1141 631 5 ["setup","book","row","now","octets","packet","scene","oif"]++((c9 605 93 "_law_slow" e8 1155 638 5 ["setup","book","row","now","octets","packet","scene","told"]).take 6)))
def SG (P:db):List Obj:=[f3 (ha 93) "_law_slow" "_law_slow" (cf) (bb "law_pq1102_01" 945) (ak 610),cr [],kB,jo (ha 94) "law" "law",h1 [bb "law" 1169,bb "law" 1170,hf 1171,ab 647 0,ab 1 0,ab 0 0,ab 0 0,ab 3 0,ak 612,g7 true,ab 181 0,ak 613,cf,cf,cf,ak 614,ab 1172 0,ab 647 0,hf 1173],f3 (ha 94) "law" "law" (cf) (bb "law_pq1102_01" 945) (ak 615)]
noncomputable def Sg (P:db):List Obj:=[boot_o_0 P,boot_o_1 P,boot_o_2 P,boot_o_3 P,boot_o_4 P,boot_o_5 P,boot_o_6 P,boot_o_7 P,boot_o_8 P,boot_o_9 P,boot_o_10 P]
def SX (P:db):List (List Obj):=[vz P,dC P,dU P,gn P,iT P,lp P,rk P,Cy P,Cz P,CA P,So P,Sp P,Sq P,Sr P,Ss P,Su P,Sv P,Sw P,Sx P,Sy P,SA P,SD P,SE P,SF P,SG P]
def dX (P:db):Obj:={cls:=cf,data:=l0 #[cw P "type.__subclasses__.Exception.0" 215 (ab 31 0),cw P "type.__subclasses__.Exception.n" 216 (ab 1 0)] 2}
def ml (s:List aj):Obj:={cls:=cC "type",data:=sO {name:=g6 "WallFault",bases:=[cC "Exception"],mro:=[ak 31,cC "Exception",cC "BaseException",cC "object"],ns:=30,qualname:=g6 "WallFault",subclasses:=s},slots:=#[E (ak 15),none,E (bb "WallFault" 189),E (bb "WallFault" 197),E (fC "Exception.__new__"),E (g7 true)]}
def Nt (P:db)(jT nv Gk Gl:Obj)(i:Nat):Obj:=match c1 i 3 with
 |true=>nv
 |false=>match c1 i 12 with
  |true=>Gk
  |false=>match c1 i 31 with
   |true=>Gl
   |false=>match c1 i 2 with
    |true=>jT
    |false=>match d3 i 11 with
     |true=>(Sg P).getD i kB
     |false=>((SX P).getD ((i-11)/25) []).getD ((i-11)% 25) kB
noncomputable def yK (f:Nat→Obj)(n:Nat):Nat→Nat→Nat→BT
 |0,_,_=>.nil
 |k+1,a,b=>match d3 b n with
  |true=>.node (f b) (yK f n k (2*a) (a+b)) (yK f n k (2*a) (2*a+b))
  |false=>.nil
def mx (P:db)(jT nv Gk Gl:Obj)(n t:Nat)(os:f9):l2:=⟨yK (Nt P jT nv Gk Gl) n 12 1 0,n,{},#[],{},t,os⟩
def s0 (P:db)(os:f9):l2:=mx P (boot_o_2 P) (boot_o_3 P) (kS 0) kB 15 187 os
def s1 (P:db)(os:f9):l2:=mx P (dX P) (iV P (bb "siftwall.faults" 187) 9) (kS 3) (ml []) 35 219 os
def s2 (P:db)(os:f9):l2:=mx P (dX P) (iV P (bb "siftwall.ipv6" 281) 15) (kS 21) (ml [ak 44]) 80 283 os
def s3 (P:db)(os:f9):l2:=mx P (dX P) (iV P (bb "siftwall.packets" 322) 21) (kS 39) (ml [ak 44]) 136 369 os
def s4 (P:db)(os:f9):l2:=mx P (dX P) (iV P (bb "siftwall.transport" 492) 33) (kS 75) (ml [ak 44]) 219 494 os
def s5 (P:db)(os:f9):l2:=mx P (dX P) (iV P (bb "siftwall.tuples" 501) 36) (kS 81) (ml [ak 44]) 247 547 os
def Op (P:db)(os:f9):l2:=mx P (dX P) (iV P (bb "siftwall.tuples" 501) 41) (kS 96) (ml [ak 44]) 297 629 os
def Oq (P:db)(os:f9):l2:=mx P (dX P) (iV P (bb "siftwall.natwrite" 690) 52) (kS 129) (ml [ak 44]) 372 752 os
def Ot (P:db)(os:f9):l2:=mx P (dX P) (iV P (bb "siftwall.fastroad" 773) 68) (kS 162) (ml [ak 44]) 447 864 os
def Ou (P:db)(os:f9):l2:=mx P (dX P) (iV P (bb "law_pq1102_01" 945) 73) (kS 177) (ml [ak 44]) 497 966 os
def Oo (P:db)(os:f9):l2:=mx P (dX P) (iV P (bb "law_pq1102_01" 945) 85) (kS 213) (ml [ak 44]) 577 1103 os
def AF (P:db)(os:f9):l2:=mx P (dX P) (iV P (bb "law_pq1102_01" 945) 91) (kS 231) (ml [ak 44]) 617 1175 os
def bd:List iP:=behindTheImports d8
def kV:Env:={scope:=d8.main.scope,locals:=mainNs,globals:=mainNs,cells:=[],code:=.ref 13,frame:=E 14}
def gR:lZ:=.body bd kV
noncomputable def c6:Pos:=⟨0,0,0,0⟩
def cQ (i j:Nat):List iP:=(bd.drop i).take j
theorem abX (w:eJ)(os:f9):segRunT treeTable d8 w 11 (E (.ref 6)) 1 239 (s0 w.params os) (piecesOf (cQ 0 2) kV gR c6 [topFrame c6])=E (.next,s1 w.params os,gR,⟨2,0,7,20⟩):=by kernel_rfl
theorem ab0 (w:eJ)(os:f9):segRunT treeTable d8 w 11 (E (.ref 6)) 1 391 (s1 w.params os) (piecesOf (cQ 2 9) kV gR ⟨2,0,7,20⟩ [topFrame c6])=E (.next,s2 w.params os,gR,⟨41,0,41,8⟩):=by kernel_rfl
theorem ab1 (w:eJ)(os:f9):segRunT treeTable d8 w 11 (E (.ref 6)) 1 397 (s2 w.params os) (piecesOf (cQ 11 7) kV gR ⟨41,0,41,8⟩ [topFrame c6])=E (.next,s3 w.params os,gR,⟨88,0,97,30⟩):=by kernel_rfl
theorem ab2 (w:eJ)(os:f9):segRunT treeTable d8 w 11 (E (.ref 6)) 1 396 (s3 w.params os) (piecesOf (cQ 18 13) kV gR ⟨88,0,97,30⟩ [topFrame c6])=E (.next,s4 w.params os,gR,⟨205,0,205,8⟩):=by kernel_rfl
theorem ab3 (w:eJ)(os:f9):segRunT treeTable d8 w 11 (E (.ref 6)) 1 283 (s4 w.params os) (piecesOf (cQ 31 4) kV gR ⟨205,0,205,8⟩ [topFrame c6])=E (.next,s5 w.params os,gR,⟨210,0,223,23⟩):=by kernel_rfl
theorem ab4 (w:eJ)(os:f9):segRunT treeTable d8 w 11 (E (.ref 6)) 1 365 (s5 w.params os) (piecesOf (cQ 35 5) kV gR ⟨210,0,223,23⟩ [topFrame c6])=E (.next,Op w.params os,gR,⟨249,0,262,48⟩):=by kernel_rfl
theorem ab5 (w:eJ)(os:f9):segRunT treeTable d8 w 11 (E (.ref 6)) 1 378 (Op w.params os) (piecesOf (cQ 40 13) kV gR ⟨249,0,262,48⟩ [topFrame c6])=E (.next,Oq w.params os,gR,⟨341,0,344,29⟩):=by kernel_rfl
theorem ab6 (w:eJ)(os:f9):segRunT treeTable d8 w 11 (E (.ref 6)) 1 395 (Oq w.params os) (piecesOf (cQ 53 17) kV gR ⟨341,0,344,29⟩ [topFrame c6])=E (.next,Ot w.params os,gR,⟨416,0,420,55⟩):=by kernel_rfl
theorem ab7 (w:eJ)(os:f9):segRunT treeTable d8 w 11 (E (.ref 6)) 1 399 (Ot w.params os) (piecesOf (cQ 70 7) kV gR ⟨416,0,420,55⟩ [topFrame c6])=E (.next,Ou w.params os,gR,⟨478,0,483,14⟩):=by kernel_rfl
theorem abY (w:eJ)(os:f9):segRunT treeTable d8 w 11 (E (.ref 6)) 1 398 (Ou w.params os) (piecesOf (cQ 77 12) kV gR ⟨478,0,483,14⟩ [topFrame c6])=E (.next,Oo w.params os,gR,⟨584,0,590,22⟩):=by kernel_rfl
theorem abZ (w:eJ)(os:f9):segRunT treeTable d8 w 11 (E (.ref 6)) 1 203 (Oo w.params os) (piecesOf (cQ 89 6) kV gR ⟨584,0,590,22⟩ [topFrame c6])=E (.next,AF w.params os,gR,⟨647,0,665,93⟩):=by kernel_rfl
theorem acl (w:eJ)(os:f9):topGo treeTable d8 w 11 (E (.ref 6)) 12 ⟨q9 w.params,#[],boot_drawn,boot_toks,os⟩ (topStub d8)=E ((s0 w.params os).abs,⟨denote treeTable gR,gR,c6,[topFrame c6]⟩):=by kernel_rfl
theorem Sf (w:eJ)(os:f9):segRun treeTable d8 w 11 (E (.ref 6)) 1 1 (s0 w.params os).abs (blockOf bd kV gR c6 [topFrame c6])=E (.next,(s0 w.params os).abs,gR,c6):=by kernel_rfl
theorem VX (w:eJ)(os:f9):topRun treeTable d8 w 11 (E (.ref 6)) 2 (AF w.params os).abs (restOf [] kV gR ⟨647,0,665,93⟩ [topFrame c6])=E (AF w.params os).abs:=by kernel_rfl
theorem R0:bd=cQ 0 2++(cQ 2 9++(cQ 11 7++(cQ 18 13++(cQ 31 4++(cQ 35 5++(cQ 40 13++(cQ 53 17++(cQ 70 7++(cQ 77 12++(cQ 89 6++[])))))))))):=by kernel_rfl
theorem add (w:eJ)(os:f9):topRun treeTable d8 w 11 (E (.ref 6)) (12+(1+(239+(391+(397+(396+(283+(365+(378+(395+(399+(398+(203+2))))))))))))) ⟨q9 w.params,#[],boot_drawn,boot_toks,os⟩ (topStub d8)=E (AF w.params os).abs:=by refine go_top (acl w os) (piece_block (Sf w os) ?_);rw[R0];refine nF (nG (abX w os)) ?_;refine nF (nG (ab0 w os)) ?_;refine nF (nG (ab1 w os)) ?_;refine nF (nG (ab2 w os)) ?_;refine nF (nG (ab3 w os)) ?_;refine nF (nG (ab4 w os)) ?_;refine nF (nG (ab5 w os)) ?_;refine nF (nG (ab6 w os)) ?_;refine nF (nG (ab7 w os)) ?_;refine nF (nG (abY w os)) ?_;refine nF (nG (abZ w os)) ?_;exact VX w os
theorem dm {a4:Sort u}{p:a4→Prop}(h:∃a,p a)(k:∀a,p a→G):G:=h.elim k
theorem dB {a4:Sort u}{eI:Sort v}{p:a4→eI→Prop}(h:∃a b,p a b)(k:∀a b,p a b→G):G:=h.elim fun a h=>h.elim (k a)
theorem mb {a4:Sort u}{eI:Sort v}{sE:Sort w}{p:a4→eI→sE→Prop}(h:∃a b c,p a b c)(k:∀a b c,p a b c→G):G:=h.elim fun a h=>dB h (k a)
theorem lu {a4:Sort u}{eI:Sort v}{sE:Sort w}{xD:Sort x}{p:a4→eI→sE→xD→Prop}(h:∃a b c d,p a b c d)(k:∀a b c d,p a b c d→G):G:=h.elim fun a h=>mb h (k a)
theorem T1 {a4:Sort u}{eI:Sort v}{sE:Sort w}{xD:Sort x}{ag7:Sort y}{p:a4→eI→sE→xD→ag7→Prop}(h:∃a b c d e,p a b c d e)(k:∀a b c d e,p a b c d e→G):G:=h.elim fun a h=>lu h (k a)
theorem b7 {A B:Prop}(h:A∧B)(k:A→B→G):G:=k h.1 h.2
theorem hJ {A B C:Prop}(h:A∧B∧C)(k:A→B→C→G):G:=b7 h.2 (k h.1)
theorem kR {A B C bQ:Prop}(h:A∧B∧C∧bQ)(k:A→B→C→bQ→G):G:=hJ h.2 (k h.1)
theorem yy {A B C bQ b1:Prop}(h:A∧B∧C∧bQ∧b1)(k:A→B→C→bQ→b1→G):G:=kR h.2 (k h.1)
theorem yz {A B C bQ b1 bg:Prop}(h:A∧B∧C∧bQ∧b1∧bg)(k:A→B→C→bQ→b1→bg→G):G:=yy h.2 (k h.1)
theorem c5 {a4:Type u}{x:a4}(h:none=E x):G:=nomatch h
theorem pA {a4:Type u}{x:a4}(h:E x=none):G:=nomatch h
theorem dW (h:false=true):G:=nomatch h
theorem j9 (h:true=false):G:=nomatch h
theorem cE {a4:Type u}{x y:a4}(h:E x=E y):x=y:=fc h
theorem dA {a4:Type u}{eI:Type v}{o:Option a4}{f:a4→Option eI}{y:eI}(h:o.bind f=E y)(k:∀a,o=E a→f a=E y→G):G:=by
 cases o with
 |none=>cases h
 |some a=>exact k a rfl h
@[elab_as_elim] theorem eB {a4:Type u}{eI:Type v}{o:Option a4}{f:a4→eI}{aA:eI→Prop}{y:eI}(h:o.map f=E y)(k:∀a,o=E a→aA (f a)):aA y:=by
 cases o with
 |none=>cases h
 |some a=>cases h;exact k a rfl
theorem l8 {a:Bool}(h:(a&&b)=true):a=true∧b=true:=gC.mp h
theorem b4 {a:Bool}(h:(a&&b)=true)(k:a=true→b=true→G):G:=k (l8 h).1 (l8 h).2
noncomputable def pX {a4:Type}(f:Bool→a4):a4×a4:=(f true,f false)
def B8 {a4:Type}(f:Bool→Bool→a4):=pX fun a=>pX (f a)
def P3 {a4:Type}(f:Bool→Bool→Bool→a4):=pX fun a=>B8 (f a)
def B9 {a4:Type}(f:Bool→Bool→Bool→Bool→a4):=pX fun a=>P3 (f a)
def Ca {a4:Type}(f:Bool→Bool→Bool→Bool→Bool→a4):=pX fun a=>B9 (f a)
def H5 {a4:Type}(f:Bool→Bool→Bool→Bool→Bool→Bool→a4):=pX fun a=>Ca (f a)
theorem all1 {a4:Type}{f g:Bool→a4}(h:pX f=pX g):∀b,f b=g b:=fun b=>match b with
 |true=>congrArg oM h
 |false=>congrArg uZ h
theorem all2 {a4:Type}{f g:Bool→Bool→a4}(h:B8 f=B8 g):∀a b,f a b=g a b:=fun a=>all1 (all1 h a)
theorem oX {a4:Type}{f g:Bool→Bool→Bool→a4}(h:P3 f=P3 g):∀a b c,f a b c=g a b c:=fun a=>all2 (all1 h a)
theorem l7 {a4:Type}{f g:Bool→Bool→Bool→Bool→a4}(h:B9 f=B9 g):∀a b c d,f a b c d=g a b c d:=fun a=>oX (all1 h a)
theorem jF {a4:Type}{f g:Bool→Bool→Bool→Bool→Bool→a4}(h:Ca f=Ca g):∀a b c d e,f a b c d e=g a b c d e:=fun a=>l7 (all1 h a)
theorem Im {a4:Type}{f g:Bool→Bool→Bool→Bool→Bool→Bool→a4}(h:H5 f=H5 g):∀a b c d e i,f a b c d e i=g a b c d e i:=fun a=>jF (all1 h a)
theorem dn {a4:Sort u}{p q:a4→Prop}(h:∃a,p a∧q a)(k:∀a,p a→q a→G):G:=h.elim fun a g=>b7 g (k a)
theorem gy {a4:Sort u}{p q r:a4→Prop}(h:∃a,p a∧q a∧r a)(k:∀a,p a→q a→r a→G):G:=h.elim fun a g=>hJ g (k a)
theorem xz {a4:Sort u}{p q r s:a4→Prop}(h:∃a,p a∧q a∧r a∧s a)(k:∀a,p a→q a→r a→s a→G):G:=h.elim fun a g=>kR g (k a)
theorem mH {a4:Sort u}{eI:Sort v}{p q:a4→eI→Prop}(h:∃a b,p a b∧q a b)(k:∀a b,p a b→q a b→G):G:=dB h fun a b g=>b7 g (k a b)
theorem oD {a4:Sort u}{eI:Sort v}{p q r:a4→eI→Prop}(h:∃a b,p a b∧q a b∧r a b)(k:∀a b,p a b→q a b→r a b→G):G:=dB h fun a b g=>hJ g (k a b)
theorem nx {a4:Sort u}{eI:Sort v}{p q r s:a4→eI→Prop}(h:∃a b,p a b∧q a b∧r a b∧s a b)(k:∀a b,p a b→q a b→r a b→s a b→G):G:=dB h fun a b g=>kR g (k a b)
theorem uP {a4:Sort u}{eI:Sort v}{sE:Sort w}{xD:Sort x}{p q:a4→eI→sE→xD→Prop}(h:∃a b c d,p a b c d∧q a b c d)(k:∀a b c d,p a b c d→q a b c d→G):G:=lu h fun a b c d g=>b7 g (k a b c d)
theorem yA (h:∀aA:Prop,(G→aA)→aA):G:=h G id
noncomputable def a7 (x:Str):Nat:=x.cps.toList.foldr (fun c n=>c+1+129*n) 0
noncomputable def fY (x:Str):Bool:=x.cps.toList.all fun c=>d3 c 128
theorem Nh {c:Nat}(h:0=c+1+129*n):False:=by rw[Nat.add_right_comm] at h;exact Nat.succ_ne_zero _ h.symm
theorem code_inj {a b:Nat}(aC:a<128)(az:b<128)(h:a+1+129*n=b+1+129*m):a=b∧n=m:=by have e:=congrArg (· % 129) h;rw[Qp,Qp,GG (GJ aC),GG (GJ az)] at e;rw[show a=b from lY e] at h;exact⟨lY e,Nat.eq_of_mul_eq_mul_left (by decide) (Nat.add_left_cancel h)⟩
theorem Wg (a:List Nat):∀{b:List Nat},a.all (fun c=>d3 c 128)=true→b.all (fun c=>d3 c 128)=true→
 a.foldr (fun c n=>c+1+129*n) 0=b.foldr (fun c n=>c+1+129*n) 0→a=b:=by
 induction a with
 |nil=>
  intro b _ _ h
  induction b using List.casesOn with
  |nil=>rfl
  |cons c r=>exact(Nh h).elim
 |cons a r aF=>
  intro b aC az h
  induction b using List.casesOn with
  |nil=>exact(Nh h.symm).elim
  |cons b t=>refine b4 aC fun a1 a2=>b4 az fun eP fR=>?_;refine b7 (code_inj (d4 a1) (d4 eP) h) fun e aJ=>?_;rw[e,aF a2 fR aJ]
theorem E6 {x y:Str}(aS:fY x=true)(ct:fY y=true)(h:a7 x=a7 y):x=y:=by obtain⟨⟨a⟩⟩:=x;obtain⟨⟨b⟩⟩:=y;have:a=b:=Wg _ aS ct h;rw[this]
inductive V where
 |none|bool (b:Bool)|int (i:Int)|str (k:Nat)|bytes (b:List Int)
 |tup (vs:List V)|ref (l:Nat)|aR
variable {v k key v5 v6 v7 v8 v9 v10:V}{vs loc cc aD b6 bw ba bK bR ls:List V}{es:List (V×V)}{go:V→Prop}
inductive an where
 |list (vs:List V)|ints (xs:List Int)|dict (es:List (V×V)) (n:Nat)|inst (d:Nat)|cA (b:List Int)|d5 (xs:List Int)
variable {H bp:List an}
noncomputable def dY (a:Array UInt8):List Int:=a.toList.map fun u=>(u.toNat:Int)
noncomputable abbrev gN (xs:List aj)(n:Nat):Obj:={cls:=.type "tuple",data:=.seq xs.toArray n}
noncomputable abbrev e5 (a:Array UInt8):Obj:={cls:=.type "bytearray",data:=.bytearray a 0}
mutual
inductive aN (ρ:List bj)(h:fP):V→aj→Prop
 |none:aN ρ h .none .none
 |bool (b:Bool):aN ρ h (.bool b) (.bool b)
 |int (i:Int) (t:Tok):aN ρ h (.int i) (.int i t)
 |str (x:Str) (t:Tok):fY x=true→aN ρ h (.str (a7 x)) (.str x t)
 |bytes (a:Array UInt8) (t:Tok):a.size≤1000000→aN ρ h (.bytes (dY a)) (.bytes a t)
 |tup {vs:List V} {xs:List aj} {a:bj} {n:Nat}:h.get? a=E (gN xs n)→bJ ρ h vs xs→aN ρ h (.tup vs) (.ref a)
 |ref {l:Nat} {a:bj}:ρ[l]? =E a→aN ρ h (.ref l) (.ref a)
inductive bJ (ρ:List bj)(h:fP):List V→List aj→Prop
 |nil:bJ ρ h [] []
 |cons {v:V} {x:aj} {vs:List V} {xs:List aj}:aN ρ h v x→bJ ρ h vs xs→bJ ρ h (v::vs) (x::xs)
end
def tn (c:Nat):Str:=open Classical in if h:∃x:Str,fY x=true∧a7 x=c then h.choose else⟨#[]⟩
theorem I6 {x:Str}(aS:fY x=true):tn (a7 x)=x:=by have h:∃y:Str,fY y=true∧a7 y=a7 x:=⟨x,aS,rfl⟩;unfold tn;rw[dif_pos h];exact E6 h.choose_spec.1 aS h.choose_spec.2
noncomputable def bT:Nat→V→Bool
 |_,.int _=>true
 |_,.str _=>true
 |n+1,.tup vs=>vs.all (bT n)
 |_,_=>false
noncomputable def iH (f:V→V→Bool):List V→List V→Bool
 | [],[]=>true
 |a::r,b::t=>f a b&&iH f r t
 |_,_=>false
def bn:Nat→V→V→Bool
 |_,.int x,.int y=>decide (x=y)
 |_,.str x,.str y=>c1 x y
 |n+1,.tup x,.tup y=>iH (bn n) x y
 |_,_,_=>false
def h4 (P:db):Nat→V→Int
 |_,.int i=>hashInt i
 |_,.str c=>if(tn c).cps.isEmpty=true then 0 else reduceHash (P.strHash (tn c).cps)
 |n+1,.tup vs=>reduceHash (Builtin.Tuple.tupleHashOf (vs.map (h4 P n)))
 |_,_=>0
def eD (es:List (V×V)):Prop:=es.Pairwise fun a b=>bn 4 a.1 b.1=false
inductive de (P:db)(ρ:List bj)(h:fP):List (V×V)→List c3→Prop
 |nil:de P ρ h [] []
 |cons {k v:V} {e:c3} {es:List (V×V)} {xs:List c3}:aN ρ h k e.key→aN ρ h v e.val→e.hash=h4 P 4 k→de P ρ h es xs→de P ρ h ((k,v)::es) (e::xs)
noncomputable def o1 (C:bj):Bool:=[131,242,264,478].contains C
noncomputable def canon:Nat→List Int→List aj
 |_,[]=>[]
 |t,i::r=>.int i t::canon (t+1) r
inductive eE (P:db)(ρ:List bj)(h:fP):an→Obj→Prop
 |list {vs:List V} {xs:List aj} {n:Nat}:bJ ρ h vs xs→eE P ρ h (.list vs) (listOf xs.toArray n)
 |ints {is:List Int} {xs:List aj} {n:Nat}:IntsAre xs is→eE P ρ h (.ints is) (listOf xs.toArray n)
 |dict {es:List (V×V)} {xs:List c3} {n:Nat}:de P ρ h es xs→(∀e∈es,bT 4 e.1=true)→eD es→eE P ρ h (.dict es n) (dictOf xs n)
 |inst {C:bj} {d:Nat} {a:bj}:o1 C=true→ρ[d]? =E a→eE P ρ h (.inst d) (instObj C a)
 |cA (a:Array UInt8):a.size≤1000000→eE P ρ h (.cA (dY a)) (e5 a)
 |d5 (is:List Int):eE P ρ h (.d5 is) (listOf (canon 1175 is).toArray 0)
structure bz (P:db)(ρ:List bj)(H:List an)(h:fP):Prop where
 len:ρ.length=H.length
 eW:ρ.Nodup
 at_:∀(i:Nat) (o:an) (a:bj),H[i]? =E o→ρ[i]? =E a→∃ob,h.get? a=E ob∧eE P ρ h o ob
def yx (ρ:List bj)(h:fP)(v:V)(x:aj):Prop:=match v with
 |.none=>x=.none
 |.bool b=>x=.bool b
 |.int i=>∃t,x=.int i t
 |.str k=>∃y t,x=.str y t∧fY y=true∧a7 y=k
 |.bytes b=>∃y t,x=.bytes y t∧y.size≤1000000∧dY y=b
 |.tup vs=>∃a xs n,x=.ref a∧h.get? a=E (gN xs n)∧bJ ρ h vs xs
 |.ref l=>∃a,x=.ref a∧ρ[l]? =E a
 |.aR=>False
theorem aN.inv {x:aj}(r:aN ρ h v x):yx ρ h v x:=
 aN.casesOn (motive_1:=fun v x _=>yx ρ h v x) r rfl (fun _=>rfl) (fun _ t=>⟨t,rfl⟩) (fun y t e=>⟨y,t,rfl,e,rfl⟩) (fun y t e=>⟨y,t,rfl,e,rfl⟩) (fun e r=>⟨_,_,_,rfl,e,r⟩) (fun e=>⟨_,rfl,e⟩)
section
variable {x:aj}{aA:aj→Prop}
theorem aN.int_inv {i:Int}(r:aN ρ h (.int i) x):∃t,x=.int i t:=r.inv
theorem aN.acB {l:Nat}(r:aN ρ h (.ref l) x):∃a,x=.ref a∧ρ[l]? =E a:=r.inv
theorem aN.str_inv {k:Nat}(r:aN ρ h (.str k) x):∃y t,x=.str y t∧fY y=true∧a7 y=k:=r.inv
theorem aN.Cw {k:List Int}(r:aN ρ h (.bytes k) x):∃y t,x=.bytes y t∧y.size≤1000000∧dY y=k:=r.inv
theorem aN.PK {k:List V}(r:aN ρ h (.tup k) x):∃a xs n,x=.ref a∧h.get? a=E (gN xs n)∧bJ ρ h k xs:=r.inv
@[elab_as_elim] theorem aN.t7 (r:aN ρ h .none x)(f:aA .none):aA x:=xI (show x=_ from r.inv)▸f
@[elab_as_elim] theorem aN.IJ (r:aN ρ h (.bool b) x)(f:aA (.bool b)):aA x:=xI (show x=_ from r.inv)▸f
@[elab_as_elim] theorem aN.fg {i:Int}(r:aN ρ h (.int i) x)(f:∀t,aA (.int i t)):aA x:=r.int_inv.elim fun t e=>e▸f t
@[elab_as_elim] theorem aN.hl {l:Nat}(r:aN ρ h (.ref l) x)(f:∀a,ρ[l]? =E a→aA (.ref a)):aA x:=r.acB.elim fun a e=>e.1▸f a e.2
@[elab_as_elim] theorem aN.gM {k:List V}(r:aN ρ h (.tup k) x)(f:∀a xs n,h.get? a=E (gN xs n)→bJ ρ h k xs→aA (.ref a)):aA x:=mb r.PK fun a xs n e=>e.1▸f a xs n e.2.1 e.2.2
@[elab_as_elim] theorem aN.oz {k:Nat}{aA:Nat→aj→Prop}(r:aN ρ h (.str k) x)(f:∀y t,fY y=true→aA (a7 y) (.str y t)):aA k x:=dB r.str_inv fun y t e=>e.2.2▸e.1▸f y t e.2.1
@[elab_as_elim] theorem aN.o0 {k:List Int}{aA:List Int→aj→Prop}(r:aN ρ h (.bytes k) x)(f:∀y t,y.size≤1000000→aA (dY y) (.bytes y t)):aA k x:=dB r.Cw fun y t e=>e.2.2▸e.1▸f y t e.2.1
end
def Ii (ρ:List bj)(h:fP)(vs:List V)(xs:List aj):Prop:=match vs with
 | []=>xs=[]
 |v::vs=>∃y ys,xs=y::ys∧aN ρ h v y∧bJ ρ h vs ys
theorem bJ.inv (r:bJ ρ h vs xs):Ii ρ h vs xs:=
 bJ.casesOn (motive_2:=fun vs xs _=>Ii ρ h vs xs) r rfl fun a b=>⟨_,_,rfl,a,b⟩
@[elab_as_elim] theorem bJ.iJ {aA:List aj→Prop}(r:bJ ρ h [] xs)(f:aA []):aA xs:=xI (show xs=_ from r.inv)▸f
@[elab_as_elim] theorem bJ.gS {aA:List aj→Prop}(r:bJ ρ h (v::vs) xs)(f:∀y ys,aN ρ h v y→bJ ρ h vs ys→aA (y::ys)):aA xs:=
 dB (show∃y ys,xs=y::ys∧aN ρ h v y∧bJ ρ h vs ys from r.inv) fun y ys e=>e.1▸f y ys e.2.1 e.2.2
def H3 (P:db)(ρ:List bj)(h:fP)(o:an)(ob:Obj):Prop:=match o with
 |.list vs=>∃xs n,ob=listOf xs.toArray n∧bJ ρ h vs xs
 |.ints is=>∃xs n,ob=listOf xs.toArray n∧IntsAre xs is
 |.dict es n=>∃xs,ob=dictOf xs n∧de P ρ h es xs∧(∀e∈es,bT 4 e.1=true)∧eD es
 |.inst d=>∃C a,ob=instObj C a∧ρ[d]? =E a∧o1 C=true
 |.cA b=>∃a,ob=e5 a∧a.size≤1000000∧dY a=b
 |.d5 is=>ob=listOf (canon 1175 is).toArray 0
theorem eE.inv {o:an}(r:eE P ρ h o ob):H3 P ρ h o ob:=
 eE.casesOn (motive:=fun o ob _=>H3 P ρ h o ob) r (fun r=>⟨_,_,rfl,r⟩) (fun r=>⟨_,_,rfl,r⟩) (fun a b c=>⟨_,rfl,a,b,c⟩) (fun a b=>⟨_,_,rfl,b,a⟩) (fun a e=>⟨a,rfl,e,rfl⟩) (fun _=>rfl)
structure eL (ρ aV:List bj)(h h':fP):Prop where
 new:∃n,aV=ρ++n∧∀a∈n,h.get? a=none
 keep:∀a o,h.get? a=E o→a∉ρ→(∃xs n,o=gN xs n)→h'.get? a=E o
def rg (ρ:List bj)(h:fP):Prop:=∀a∈ρ,∀xs n,h.get? a≠E (gN xs n)
theorem eE.di {o:an}(r:eE P ρ h o ob):ob.cls≠.type "tuple":=
 eE.casesOn (motive:=fun _ ob _=>ob.cls≠.type "tuple") r (fun _ q=>by simp at q) (fun _ q=>by simp at q) (fun _ _ _ q=>by simp at q) (fun _ _ q=>by simp at q) (fun _ _ q=>by simp at q) (fun _ q=>by simp at q)
theorem r0 {a4:Type}{l:List a4}(h:l.Nodup){i:Nat}{a:a4}(hi:l[i]? =E a)(cn:l[j]? =E a):i=j:=by
 obtain⟨li,j4⟩:=List.getElem?_eq_some_iff.mp hi;obtain⟨wI,iw⟩:=List.getElem?_eq_some_iff.mp cn;have q:=List.pairwise_iff_getElem.mp h;rcases GC i j with c|c|c
 .exact absurd (j4.trans iw.symm) (q i j li wI c)
 .exact c
 .exact absurd (iw.trans j4.symm) (q j i wI li c)
theorem get_append {n:List bj}{l:Nat}(h:ρ[l]? =E a):(ρ++n)[l]? =E a:=by rw[List.getElem?_append_left (List.getElem?_eq_some_iff.mp h).1];exact h
theorem bz.di (x:bz P ρ H h):rg ρ h:=by intro a aC xs n e;obtain⟨i,hi,rfl⟩:=List.getElem_of_mem aC;have ar:i<H.length:=x.len▸hi;obtain⟨ob,R,Z⟩:=x.at_ i H[i] ρ[i] (List.getElem?_eq_getElem ar) (List.getElem?_eq_getElem hi);rw[R] at e;exact Z.di (by rw[fc e])
theorem aN.mono (p:eL ρ aV h h')(hB:rg ρ h){x:aj}(r:aN ρ h v x):aN aV h' v x:=
 aN.rec (motive_1:=fun v x _=>aN aV h' v x) (motive_2:=fun vs xs _=>bJ aV h' vs xs) .none .bool .int .str .bytes (fun e _ k=>.tup (p.keep _ _ e (fun hm=>hB _ hm _ _ e) ⟨_,_,rfl⟩) k)
  (fun e=>.ref (p.new.elim fun n q=>q.1▸get_append e)) .nil (fun _ _ a b=>.cons a b) r
theorem bJ.mono (p:eL ρ aV h h')(hB:rg ρ h)(r:bJ ρ h vs xs):bJ aV h' vs xs:=
 bJ.rec (motive_1:=fun v x _=>aN aV h' v x) (motive_2:=fun vs xs _=>bJ aV h' vs xs) .none .bool .int .str .bytes (fun e r _=>(aN.tup e r).mono p hB) (fun e=>(aN.ref e).mono p hB) .nil (fun _ _ a b=>.cons a b) r
theorem de.mono (p:eL ρ aV h h')(hB:rg ρ h){xs:List c3}(r:de P ρ h es xs):de P aV h' es xs:=
 de.rec (motive:=fun es xs _=>de P aV h' es xs) .nil (fun a b c _ k=>.cons (a.mono p hB) (b.mono p hB) c k) r
theorem eE.mono (p:eL ρ aV h h')(hB:rg ρ h){o:an}(r:eE P ρ h o ob):eE P aV h' o ob:=
 eE.casesOn (motive:=fun o ob _=>eE P aV h' o ob) r (fun r=>.list (r.mono p hB)) .ints (fun r=>.dict (r.mono p hB)) (fun aI e=>.inst aI (p.new.elim fun n q=>q.1▸get_append e)) .cA .d5
theorem bz.lt (x:bz P ρ H h)(aC:a∈ρ):∃ob,h.get? a=E ob:=by obtain⟨i,hi,rfl⟩:=List.getElem_of_mem aC;have ar:i<H.length:=x.len▸hi;obtain⟨ob,R,_⟩:=x.at_ i H[i] ρ[i] (List.getElem?_eq_getElem ar) (List.getElem?_eq_getElem hi);exact⟨ob,R⟩
theorem sw {o:Obj}(h:o=gN xs n):o.data=.seq xs.toArray n:=by rw[h]
theorem sy {o:Obj}(h:∃xs n,o=gN xs n):∃xs n,o.data=.seq xs n:=let ⟨_,_,e⟩:=h;⟨_,_,sw e⟩
theorem kA (h:fP):h.get? h.objs.size=none:=by
 cases q:h.get? h.objs.size with
 |none=>rfl
 |some o=>exact absurd (ia q) (xR _)
theorem eL.alloc:eL ρ (ρ++[h.objs.size]) h (h.push ob):=
 ⟨⟨_,rfl,fun a aC=>by rw[List.mem_singleton.mp aC];exact kA h⟩,fun a o' e _ _=>fv _ e⟩
theorem NM {a4:Type}{a b:a4}{k:Nat}(h:[a][k]? =E b):a=b:=by
 induction k using h8 with
 |zero=>exact cE h
 |succ k=>exact c5 h
theorem Cq {o o':an}{i:Nat}{aA:an→bj→Prop}(len:ρ.length=H.length)(ax:(H++[o])[i]? =E o')(aC:(ρ++[bQ])[i]? =E a)
 (ba:H[i]? =E o'→ρ[i]? =E a→aA o' a)(bK:aA o bQ):aA o' a:=by
 by_cases hi:i<H.length
 .rw[List.getElem?_append_left hi] at ax;rw[List.getElem?_append_left (len▸hi)] at aC;exact ba ax aC
 .rw[List.getElem?_append_right (mL.mp hi)] at ax;rw[List.getElem?_append_right (len▸mL.mp hi)] at aC;exact NM ax▸NM aC▸bK
theorem EA (h:ρ.Nodup)(n:bQ∉ρ):(ρ++[bQ]).Nodup:=List.nodup_append.mpr ⟨h,List.pairwise_singleton _ _,fun a aC b az e=>n (List.mem_singleton.mp az▸e▸aC)⟩
theorem Eb {o:an}(len:ρ.length=H.length):(ρ++[bQ]).length=(H++[o]).length:=by rw[List.length_append,List.length_append,len];rfl
theorem bz.alloc (x:bz P ρ H h){o:an}(hf:ob.isFreed=false)
 (r:eE P (ρ++[h.objs.size]) (h.push ob) o ob):bz P (ρ++[h.objs.size]) (H++[o]) (h.push ob):=
 ⟨Eb x.len,EA x.eW fun m=>(x.lt m).elim fun ob q=>pA (q.symm.trans (kA h)),
  fun i o' a ax aC=>Cq (aA:=fun o' a=>∃hP,(h.push ob).get? a=E hP∧eE P (ρ++[h.objs.size]) (h.push ob) o' hP) x.len ax aC (fun R Z=>(x.at_ i o' a R Z).elim fun hP g=>⟨hP,fv _ g.1,g.2.mono .alloc x.di⟩) ⟨ob,g5 _ hf,r⟩⟩
theorem eL.same (hm:a∈ρ)(aE:fI a h h'):eL ρ ρ h h':=
 ⟨⟨[],by simp,fun _ h=>nomatch h⟩,fun b o' e az _=>(aE.2 b (fun q=>az (q▸hm))).trans e⟩
theorem bz.update (x:bz P ρ H h){i:Nat}{o:an}(aC:ρ[i]? =E a)
 (aE:fI a h h')(he:h'.get? a=E ob)(r:eE P ρ h' o ob):bz P ρ (H.set i o) h':=by
 have hm:a∈ρ:=List.mem_of_getElem? aC;have p:eL ρ ρ h h':=.same hm aE;refine⟨by simp[x.len],x.eW,fun j o' b ax az=>?_⟩
 by_cases cn:i=j
 .subst cn;rw[aC] at az;cases az;have:i<H.length:=by have:=(List.getElem?_eq_some_iff.mp aC).1;rw[x.len] at this;exact this
  rw[List.getElem?_set_self this] at ax;cases ax;exact⟨ob,he,r⟩
 .rw[List.getElem?_set_ne cn] at ax;obtain⟨hP,R,Z⟩:=x.at_ j o' b ax az;refine⟨hP,(aE.2 b ?_).trans R,Z.mono p x.di⟩;rintro rfl;exact cn (r0 x.eW aC az)
theorem bz.other (x:bz P ρ H h)(aB:∀a∈ρ,h'.get? a=h.get? a)(p:eL ρ ρ h h'):bz P ρ H h':=
 ⟨x.len,x.eW,fun i o a ax aC=>let ⟨ob,R,Z⟩:=x.at_ i o a ax aC;⟨ob,(aB a (List.mem_of_getElem? aC)).trans R,Z.mono p x.di⟩⟩
structure Step (ah ρ:List bj)(s:aQ)(aV:List bj)(s':aQ):Prop where
 new:∃n,aV=ρ++n∧∀a∈n,s.heap.get? a=none
 keep:∀a o,s.heap.get? a=E o→a∉ρ→a∉ah→s'.heap.get? a=E o
 live:∀a,s'.heap.get? a=none→s.heap.get? a=none
 gens:s'.gens=s.gens
 os:s'.os=s.os
theorem Step.refl (ah ρ:List bj)(s:aQ):Step ah ρ s ρ s:=⟨⟨[],by simp,fun _ h=>nomatch h⟩,fun _ _ e _ _=>e,fun _ e=>e,rfl,rfl⟩
theorem Step.toks:Step ah ρ s ρ {s with toks:=n}:=⟨⟨[],by simp,fun _ h=>nomatch h⟩,fun _ _ e _ _=>e,fun _ e=>e,rfl,rfl⟩
theorem Step.trans {Qe:List bj}{eh:aQ}(x:Step ah ρ s uR bB)(y:Step ah uR bB Qe eh):Step ah ρ s Qe eh:=by
 obtain⟨n,rfl,aL⟩:=x.new;obtain⟨m,rfl,hm⟩:=y.new;have k:∀a o,s.heap.get? a=E o→a∉ρ→a∉ρ++n:=fun a o e aC a9=>by
  rcases List.mem_append.mp a9 with q|q
  .exact aC q
  .rw[aL a q] at e;cases e
 refine⟨⟨n++m,by rw[List.append_assoc],fun a aC=>?_⟩,fun a o e aC hf=>y.keep a o (x.keep a o e aC hf) (k a o e aC) hf,fun a e=>x.live a (y.live a e),y.gens.trans x.gens,y.os.trans x.os⟩;rcases List.mem_append.mp aC with q|q
 .exact aL a q
 .exact x.live a (hm a q)
theorem Step.weak {m2:List bj}(x:Step ah ρ s aV s')(h:∀a∈ah,a∈m2):Step m2 ρ s aV s':=
 ⟨x.new,fun a o e aC az=>x.keep a o e aC fun q=>az (h a q),x.live,x.gens,x.os⟩
theorem Step.fU (x:Step [] ρ s aV s'):eL ρ aV s.heap s'.heap:=⟨x.new,fun a o e aC _=>x.keep a o e aC (fun h=>nomatch h)⟩
theorem z6 {o:Obj}(a:bj)(e:(h.push o).get? a=none):h.get? a=none:=by
 cases q:h.get? a with
 |none=>rfl
 |some o'=>rw[fv o q] at e;cases e
theorem Mr {b:bj}(aE:fI b h h')(az:h'.get? b=E ob)(a:bj)(e:h'.get? a=none):h.get? a=none:=by
 by_cases q:a=b
 .subst q;rw[az] at e;cases e
 .rw[←aE.2 a q];exact e
theorem Step.push (t:Nat):Step [] ρ s ρ {s with heap:=s.heap.push ob,toks:=t}:=
 ⟨⟨[],by simp,fun _ h=>nomatch h⟩,fun _ _ e _ _=>fv _ e,fun a e=>z6 a e,rfl,rfl⟩
theorem Step.alloc (t:Nat):Step [] ρ s (ρ++[s.heap.objs.size]) {s with heap:=s.heap.push ob,toks:=t}:=by
 refine⟨⟨_,rfl,fun a aC=>?_⟩,fun _ _ e _ _=>fv _ e,fun a e=>z6 a e,rfl,rfl⟩;rw[List.mem_singleton.mp aC];cases q:s.heap.get? s.heap.objs.size with
 |none=>rfl
 |some o=>exact absurd (ia q) (xR _)
theorem Step.update (t:Nat)(aC:a∈ρ)(aE:fI a s.heap h')(he:h'.get? a=E ob):Step [] ρ s ρ {s with heap:=h',toks:=t}:=
 ⟨⟨[],by simp,fun _ h=>nomatch h⟩,fun b _ e az _=>(aE.2 b (fun q=>az (q▸aC))).trans e,Mr aE he,rfl,rfl⟩
inductive mO where
 |len|bytes|bytearray|sum|sorted|list|min|max
mutual
inductive aG where
 |none|bool (b:Bool)|int (i:Int)|str (k:Nat)|bytes (b:List Int)
 |loc (i:Nat)|glob (k:Nat)
 |bin (op:xV) (l r:aG)|neg (x:aG)|not (x:aG)|and (x y:aG)|or (x y:aG)|ite (t a b:aG)
 |cmp (op:CmpOp) (l r:aG)
 |call (k:Nat) (args:gP)|bi (b:mO) (args:gP)|lI (o:aG) (k:Nat) (args:gP)
 |attr (o:aG) (k:Nat)|sub (o i:aG)|slice (o lo hi step:aG)
 |tup (xs:gP)|lst (xs:gP)|dict (aD:List V) (vs:gP)
 |range (lo hi step:aG)|items (o:aG)
 |comp (fZ:List Nat) (gT iter cond:aG)
inductive gP where
 |nil|cons (x:aG) (xs:gP)
end
mutual
inductive cN where
 |asg (i:Nat) (e:aG)|hW (is:List Nat) (e:aG)|yE (o:aG) (k:Nat) (e:aG)|hK (o i e:aG)|p3 (o lo hi e:aG)
 |aug (i:Nat) (op:xV) (e:aG)|ex (e:aG)
 |iff (t:aG) (a b:fe)|xw (t:aG) (a:fe)|hN (i:Nat) (bW:aG) (a:fe)|tw (is:List Nat) (bW:aG) (a:fe)
 |brk|ret (e:aG)|del (o i:aG)|err|pass
inductive fe where
 |nil|cons (x:cN) (xs:fe)
end
noncomputable def b9:Int→Int→Bool
 |.ofNat a,.ofNat b=>dg a b
 |.negSucc _,.ofNat _=>true
 |.ofNat _,.negSucc _=>false
 |.negSucc a,.negSucc b=>dg b a
def ltI (a b:Int):Bool:= !b9 b a
theorem I7 {p:Prop}[Decidable p](h:b=true↔p):b=decide p:=uT.mpr (h.trans decide_eq_true_iff.symm)
theorem i2 (a b:Int):b9 a b=decide (a≤b):=by
 induction a using xK with
 |ofNat a=>induction b using xK with
  |ofNat b=>exact I7 ⟨fun h=>lj.mpr (d4 h),fun h=>Qr (lj.mp h)⟩
  |negSucc b=>exact(decide_eq_false fun h=>absurd (q2 (lh a) h) (Int.not_le.mpr (Gx b))).symm
 |negSucc a=>induction b using xK with
  |ofNat b=>exact(decide_eq_true (q2 (oK (Gx a)) (lh b))).symm
  |negSucc b=>exact I7 ⟨fun h=>Int.neg_le_neg (lj.mpr (Nat.succ_le_succ (d4 h))),fun h=>Qr (xQ (lj.mp (Int.le_of_neg_le_neg h)))⟩
theorem jq (a b:Int):ltI a b=decide (a<b):=by unfold ltI;rw[i2,←decide_not];exact decide_eq_decide.mpr Int.not_le
def nd (a b:Int):Int:=match b9 a b with|true=>a|false=>b
def Ab (a b:Int):Int:=match b9 a b with|true=>b|false=>a
theorem Em (a b:Int):nd a b=min a b:=by
 unfold nd;rw[i2,Gv]
 by_cases h:a≤b
 .rw[decide_eq_true h,if_pos h]
 .rw[decide_eq_false h,if_neg h]
theorem MF (a b:Int):Ab a b=max a b:=by
 unfold Ab;rw[i2,Int.max_def]
 by_cases h:a≤b
 .rw[decide_eq_true h,if_pos h]
 .rw[decide_eq_false h,if_neg h]
def ao (b:Bool)(P Q:Prop):Prop:=match b with|true=>P|false=>Q
abbrev cY (c:Prop)[Decidable c](P:Prop):Prop:=ao (decide c) P False
theorem j2 {c:Prop}[Decidable c]{P:Prop}(h:cY c P):c∧P:=by
 unfold cY at h;cases e:decide c with
 |true=>rw[e] at h;exact⟨of_decide_eq_true e,h⟩
 |false=>rw[e] at h;exact h.elim
theorem nU {c:Prop}[Decidable c]{P:Prop}(h:cY c P)(k:c→P→G):G:=b7 (j2 h) k
theorem iU {c:Prop}[Decidable c]{P:Prop}(h:c)(p:P):cY c P:=by unfold cY;rw[decide_eq_true h];exact p
noncomputable abbrev bI:=V→List an→Prop
variable {K:bI}
noncomputable def lD:List V→Option (List Int)
 | []=>E []
 |.int i::r=>match lD r with|some is=>E (i::is)|dk=>dk
 |_=>dk
noncomputable def fp (vs:List V):an:=match lD vs with|some is=>.ints is|dk=>.list vs
def Ik (a b:V)(H:List an)(K:bI):Prop:=match a,b with
 |.int x,.int y=>K (.int (x+y)) H
 |.ref l,.ref m=>(match H[l]?,H[m]? with
  |some (.ints xs),E (.ints ys)=>cY (xs.length+ys.length≤1000000) (K (.ref H.length) (H++[.ints (xs++ys)]))
  |_,_=>False)
 |_,_=>False
def ii (a b:V)(f:Int→Int→Prop):Prop:=match a,b with|.int x,.int y=>f x y|_,_=>False
def IF (op:xV)(a b:V)(H:List an)(K:bI):Prop:=match op with
 |.Add=>Ik a b H K
 |.Sub=>ii a b fun x y=>K (.int (x-y)) H
 |.Mult=>ii a b fun x y=>cY (y.natAbs<2^64∨x.natAbs<2^64) (K (.int (x*y)) H)
 |.FloorDiv=>ii a b fun x y=>cY (0<y∧y<2^1024) (K (.int (x/y)) H)
 |.Mod=>ii a b fun x y=>cY (0<y) (K (.int (x% y)) H)
 |.LShift=>ii a b fun x y=>cY (0≤y∧y≤1000∧x.natAbs<2^256) (K (.int (x*2^y.toNat)) H)
 |.RShift=>ii a b fun x y=>cY (0≤y) (K (.int (x/2^y.toNat)) H)
 |.BitAnd=>ii a b fun x y=>K (.int (Builtin.bitAnd x y)) H
 |.BitOr=>ii a b fun x y=>K (.int (Builtin.bitOr x y)) H
 |.Pow=>ii a b fun x y=>cY (0≤y∧y≤1000∧x.natAbs<2^64) (K (.int (x^y.toNat)) H)
 |_=>False
def vv (op:xV)(a b:V)(H:List an)(K:bI):Prop:=match op,a,b with
 |.Add,.int x,.int y=>K (.int (x+y)) H
 |.Add,.bytes x,.bytes y=>cY (x.length+y.length≤1000000) (K (.bytes (x++y)) H)
 |_,_,_=>False
def Ex (a:V)(H:List an)(K:bI):Prop:=match a with|.int x=>K (.int (-x)) H|_=>False
def pD (a:V)(aha:List an)(K:Bool→Prop):Prop:=match a with
 |.none=>K false
 |.bool b=>K b
 |.int i=>K (i !=0)
 |_=>False
noncomputable def gU (f:V→V→Option Bool):List V→List V→Option Bool
 | [],[]=>E true
 |a::r,b::t=>(match f a b,gU f r t with
  |some x,E y=>E (x&&y)
  |_,_=>dk)
 |_,_=>E false
def e7 (H:List an):Nat→V→V→Option Bool
 |0,_,_=>dk
 |n+1,a,b=>match a,b with
  |.none,.none=>E true
  |.bool x,.bool y=>E (x==y)
  |.int x,.int y=>E (decide (x=y))
  |.str x,.str y=>E (c1 x y)
  |.bytes x,.bytes y=>E (decide (x=y))
  |.tup x,.tup y=>gU (e7 H n) x y
  |.none,.tup _=>E false
  |.tup _,.none=>E false
  |.ref l,.ref m=>(match H[l]?,H[m]? with
   |some (.ints x),E (.ints y)=>E (decide (x=y))
   |some (.list x),E (.list y)=>gU (e7 H n) x y
   |some (.list x),E (.ints y)=>gU (e7 H n) x (y.map .int)
   |some (.ints x),E (.list y)=>gU (e7 H n) (x.map .int) y
   |_,_=>dk)
  |_,_=>dk
noncomputable def tL (x:Int):List V→Option Bool
 | []=>E false
 |.int y::r=>(match tL x r with|some b=>E (decide (y=x)||b)|dk=>dk)
 |_=>dk
def lv (k:V):List (V×V)→(Option V→Prop)→Prop
 | [],K=>K dk
 |(eA,v)::r,K=>ao (bn 4 eA k) (K (E v)) (lv k r K)
def jJ (k:V)(es:List (V×V))(K:Option V→Prop):Prop:=ao (bT 4 k) (lv k es K) False
def ou (k v:V):List (V×V)→(List (V×V)→Nat→Prop)→Prop
 | [],K=>K [(k,v)] 1
 |(eA,lU)::r,K=>ao (bn 4 eA k) (K ((eA,v)::r) 0) (ou k v r fun es=>K ((eA,lU)::es))
def pz (k v:V)(es:List (V×V))(K:List (V×V)→Nat→Prop):Prop:=ao (bT 4 k&&dg es.length 1000) (ou k v es K) False
def rq (k:V):List (V×V)→(List (V×V)→Prop)→Prop
 | [],_=>False
 |(eA,lU)::r,K=>ao (bn 4 eA k) (K r) (rq k r fun es=>K ((eA,lU)::es))
def qd (k:V)(es:List (V×V))(K:List (V×V)→Prop):Prop:=ao (bT 4 k&&dg es.length 1000) (rq k es K) False
def n5 (v:V)(K:Int→Prop):Prop:=match v with|.int x=>K x|_=>False
def AB (o:V)(K:Nat→Prop):Prop:=match o with|.ref l=>K l|_=>False
def mY (H:List an)(l:Nat)(K:List (V×V)→Nat→Prop):Prop:=match H[l]? with|some (.dict es n)=>K es n|_=>False
def rH (H:List an)(l:Nat)(K:Nat→Prop):Prop:=match H[l]? with|some (.inst d)=>K d|_=>False
def jw (o:Option Bool)(K:Bool→Prop):Prop:=match o with|some b=>K b|dk=>False
noncomputable def rJ:V→Option Bool
 |.none=>E true
 |.bool _=>E false|.int _=>E false|.str _=>E false|.bytes _=>E false|.tup _=>E false|.ref _=>E false
 |_=>dk
noncomputable def y0 (a b:V)(H:List an):Option Bool:=match a,b with
 |.ref l,.ref m=>(match H[l]?,H[m]? with
  |some (.dict x _),E (.dict [] _)=>E x.isEmpty
  |_,_=>dk)
 |_,_=>dk
def lK (a b:V)(H:List an)(K:Bool→Prop):Prop:=match y0 a b H with
 |some c=>K (!c)
 |dk=>jw (e7 H 8 a b) fun x=>K (!x)
def tk (op:CmpOp)(a b:V)(H:List an)(K:Bool→Prop):Prop:=match op with
 |.Eq=>jw (e7 H 8 a b) K
 |.NotEq=>lK a b H K
 |.Lt=>ii a b fun x y=>K (ltI x y)
 |.LtE=>ii a b fun x y=>K (b9 x y)
 |.Gt=>ii a b fun x y=>K (ltI y x)
 |.GtE=>ii a b fun x y=>K (b9 y x)
 |.Is=>(match b with|.none=>jw (rJ a) K|_=>False)
 |.IsNot=>(match b with|.none=>jw (rJ a) fun x=>K (!x)|_=>False)
 |.In=>(match a,b with
  |.int x,.tup vs=>jw (tL x vs) K
  |.int x,.ref l=>mY H l fun es _=>jJ (.int x) es fun r=>K r.isSome
  |_,_=>False)
 |.NotIn=>(match a,b with
  |.int x,.tup vs=>jw (tL x vs) fun b=>K (!b)
  |_,_=>False)
def k3 (o:Option V)(K:V→Prop):Prop:=match o with|some v=>K v|dk=>False
def rh (o:V)(k:Nat)(H:List an)(K:V→Prop):Prop:=AB o fun l=>rH H l fun d=>mY H d fun es _=>jJ (.str k) es fun r=>k3 r K
noncomputable def lF:V→Bool
 |.str _=>true
 |_=>false
def aej (o:V)(k:Nat)(v:V)(H:List an)(K:List an→Prop):Prop:=AB o fun l=>rH H l fun d=>mY H d fun es n=>ao (es.all fun e=>lF e.1) (pz (.str k) v es fun cT m=>K (H.set d (.dict cT (n+m)))) False
def rL (i:V)(K:Int→Prop):Prop:=match i with|.int x=>cY (0≤x∧x<2^62) (K x)|_=>False
def tb (b:List Int)(x:Int)(K:Int→Prop):Prop:=cY (x.toNat<b.length) (K (b.getD x.toNat 0))
def Pe (ob:an)(i:V)(K:V→Prop):Prop:=match ob with
 |.list vs=>rL i fun x=>k3 (vs[x.toNat]?) K
 |.ints b=>rL i fun x=>tb b x fun c=>K (.int c)
 |.cA b=>rL i fun x=>tb b x fun c=>K (.int c)
 |.dict es _=>jJ i es fun r=>k3 r K
 |.d5 b=>rL i fun x=>tb b x fun c=>K (.int c)
 |.inst _=>False
def FQ (vs:List V)(x:Int)(K:V→Prop):Prop:=match lD vs with
 |some is=>tb is x fun c=>K (.int c)
 |dk=>k3 (vs[x.toNat]?) K
def xj (o i:V)(H:List an)(K:bI):Prop:=match o with
 |.tup vs=>rL i fun x=>FQ vs x fun v=>K v H
 |.bytes b=>rL i fun x=>tb b x fun c=>K (.int c) H
 |.ref l=>(match H[l]? with|some ob=>Pe ob i fun v=>K v H|dk=>False)
 |_=>False
def Fa (o i v:V)(H:List an)(K:List an→Prop):Prop:=match o with
 |.ref l=>(match H[l]? with
  |some (.list vs)=>(match i with|.int x=>cY (0≤x∧x<vs.length∧x<2^62) (K (H.set l (fp (vs.set x.toNat v))))|_=>False)
  |some (.ints xs)=>(match i,v with|.int x,.int y=>cY (0≤x∧x<xs.length∧x<2^62) (K (H.set l (.ints (xs.set x.toNat y))))|_,_=>False)
  |some (.dict es n)=>pz i v es fun cT m=>K (H.set l (.dict cT (n+m)))
  |_=>False)
 |_=>False
def CN (o i:V)(H:List an)(K:List an→Prop):Prop:=match o with
 |.ref l=>(match H[l]? with
  |some (.dict es n)=>qd i es fun cT=>K (H.set l (.dict cT (n+1)))
  |_=>False)
 |_=>False
noncomputable def lo?:V→Option (Option Int)
 |.none=>E dk
 |.int x=>E (E x)
 |_=>dk
noncomputable def cut {a4:Type}(xs:List a4)(lo hi:Option Int):List a4:=
 let ys:=match hi with|some h=>xs.take h.toNat|dk=>xs
 match lo with|some l=>ys.drop l.toNat|dk=>ys
noncomputable def gI {a4:Type}:List a4→List a4
 | []=>[]
 | [a]=>[a]
 |a::_::r=>a::gI r
def gw:Option Int→Bool
 |dk=>true
 |some x=>b9 0 x&&ltI x (2^62)
def pj:Option Int→Prop
 |dk=>True
 |some x=>0≤x∧x<2^62
theorem ND {o:Option Int}(h:gw o=true):pj o:=by
 induction o using ez with
 |none=>trivial
 |some x=>rw[gw,fH] at h;rw[i2,jq] at h;exact⟨of_decide_eq_true h.1,of_decide_eq_true h.2⟩
theorem fK {P:Prop}(h:ao b P False):b=true∧P:=by cases b;exact h.elim;exact⟨rfl,h⟩
theorem j1 {P:Prop}(h:ao b P False)(k:b=true→P→G):G:=b7 (fK h) k
def AM (o lo hi st:V)(H:List an)(K:bI):Prop:=match lo? lo,lo? hi with
 |some l,E h=>ao (gw l&&gw h) (match st with
  |.none=>(match o with
   |.bytes b=>K (.bytes (cut b l h)) H
   |.ref a=>(match H[a]? with
    |some (.ints xs)=>cY (xs.length≤1000000) (K (.ref H.length) (H++[.ints (cut xs l h)]))
    |some (.cA xs)=>K (.ref H.length) (H++[.cA (cut xs l h)])
    |_=>False)
   |_=>False)
  |.int st=>cY (st=2) (match o with
   |.ref a=>(match H[a]? with
    |some (.ints xs)=>cY (xs.length≤1000000) (K (.ref H.length) (H++[.ints (gI (cut xs l h))]))
    |_=>False)
   |_=>False)
  |_=>False) False
 |_,_=>False
def OL (o lo hi v:V)(H:List an)(K:List an→Prop):Prop:=match lo,hi,o with
 |.int l,.int h,.ref a=>cY (0≤l∧l≤h∧h<2^62) (match H[a]?,v with
  |some (.cA b),.bytes c=>ao (b9 h b.length&&c1 c.length (h.toNat-l.toNat)) (K (H.set a (.cA (b.take l.toNat++c++b.drop h.toNat)))) False
  |some (.ints b),.ref m=>(match H[m]? with
   |some (.ints c)=>cY (h≤b.length∧b.length+c.length≤1000000∧c1 a m=false) (K (H.set a (.ints (b.take l.toNat++c++b.drop h.toNat))))
   |_=>False)
  |_,_=>False)
 |_,_,_=>False
noncomputable def o9 (b:List Int):Bool:=b.all fun x=>decide (0≤x)&&decide (x<256)
def ef (b:List Int):Prop:=∀x∈b,0≤x∧x<256
theorem Ky {b:List Int}(h:o9 b=true):ef b:=fun x aS=>by
 have:=List.all_eq_true.mp h x aS
 simpa only[fH,decide_eq_true_eq] using this
def As (n:Nat)(K:V→Prop):Prop:=cY (n<2^63) (K (.int n))
def z5 (v:V)(H:List an)(K:V→Prop):Prop:=match v with
 |.bytes b=>K (.int b.length)
 |.ref l=>(match H[l]? with
  |some (.list b)=>As b.length K
  |some (.ints b)=>As b.length K
  |some (.cA b)=>K (.int b.length)
  |some (.d5 b)=>As b.length K
  |_=>False)
 |_=>False
def vy (v:V)(H:List an)(K:V→Prop):Prop:=match v with
 |.bytes b=>K (.bytes b)
 |.ref l=>(match H[l]? with
  |some (.ints b)=>ao (o9 b) (cY (b.length≤1000000) (K (.bytes b))) False
  |some (.cA b)=>K (.bytes b)
  |_=>False)
 |_=>False
noncomputable def qz (f:V→V→Bool):List V→List V→Bool
 | [],[]=>true
 |a::r,b::t=>f a b&&qz f r t
 |_,_=>false
def mo:Nat→V→V→Bool
 |_,.int _,.int _=>true
 |n+1,.tup vs,.tup cc=>qz (mo n) vs cc
 |_,_,_=>false
noncomputable def i3 (e f:V→V→Bool):List V→List V→Bool
 |a::r,b::t=>match e a b with|true=>i3 e f r t|false=>f a b
 |_,_=>false
def ltV:Nat→V→V→Bool
 |_,.int x,.int y=>decide (x<y)
 |n+1,.tup x,.tup y=>i3 (bn n) (ltV n) x y
 |_,_,_=>false
noncomputable def qy {a4:Type}(f:Nat→Nat→Bool):KasT a4→a4
 |.ret a=>a
 |.ask i j k=>qy f (k (f i j))
def kf:List V→List V
 | []=>[]
 | [a]=>[a]
 |vs=>(qy (fun i j=>ltV 4 (vs.getD i .none) (vs.getD j .none)) (oP vs.length)).toList.map fun i=>vs.getD i .none
noncomputable def uF:V→Bool
 |.tup (.tup _::_)=>true
 |_=>false
def sortable (vs:List V):Bool:=dg vs.length 4&&vs.all fun a=>uF a&&vs.all fun b=>mo 4 a b
def Fk (v:V)(H:List an)(K:bI):Prop:=match v with
 |.ref l=>(match H[l]? with
  |some (.list vs)=>ao (sortable vs) (K (.ref H.length) (H++[fp (kf vs)])) False
  |some (.ints [])=>K (.ref H.length) (H++[.ints []])
  |_=>False)
 |_=>False
def KR (v:V)(H:List an)(K:bI):Prop:=match v with
 |.ref l=>(match H[l]? with
  |some (.dict es _)=>ao (sortable (es.map fun e=>.tup [e.1,e.2])) (K (.ref H.length) (H++[fp (kf (es.map fun e=>.tup [e.1,e.2]))])) False
  |_=>False)
 |_=>False
def a1 (vs:List V)(K:V→Prop):Prop:=match vs with| [v]=>K v|_=>False
def a2 (vs:List V)(K:V→V→Prop):Prop:=match vs with| [a,b]=>K a b|_=>False
def RO (v:V)(K:List Int→Prop):Prop:=match v with|.bytes b=>K b|_=>False
def Pf (v:V)(H:List an)(K:bI):Prop:=match v with
 |.ref l=>(match H[l]? with|some (.ints xs)=>K (.int xs.sum) H|_=>False)
 |_=>False
def ZD (v:V)(H:List an)(K:bI):Prop:=AB v fun l=>mY H l fun es _=>cY (es.length≤1000000) (K (.ref H.length) (H++[fp (es.map (·.1))]))
def ID (b:mO)(args:List V)(H:List an)(K:bI):Prop:=match b with
 |.len=>a1 args fun v=>z5 v H fun r=>K r H
 |.bytes=>a1 args fun v=>vy v H fun r=>K r H
 |.bytearray=>a1 args fun v=>RO v fun b=>K (.ref H.length) (H++[.cA b])
 |.sum=>a1 args fun v=>Pf v H K
 |.sorted=>a1 args fun v=>Fk v H K
 |.list=>a1 args fun v=>ZD v H K
 |.min=>a2 args fun a b=>ii a b fun x y=>K (.int (nd x y)) H
 |.max=>a2 args fun a b=>ii a b fun x y=>K (.int (Ab x y)) H
def m7:Nat:=a7 "append"
def qw:Nat:=a7 "get"
def wL (o:V)(k:Nat)(H:List an):Bool:=match o with
 |.ref l=>(match H[l]? with
  |some (.list _)=>c1 k m7
  |some (.ints _)=>c1 k m7
  |some (.dict _ _)=>c1 k qw
  |_=>false)
 |_=>false
def tX (o:V)(args:List V)(H:List an)(K:bI):Prop:=match o with
 |.ref l=>(match H[l]?,args with
  |some (.list vs),[v]=>cY (vs.length≤1000000) (K .none (H.set l (.list (vs++[v]))))
  |some (.ints xs),[.int x]=>cY (xs.length≤1000000) (K .none (H.set l (.ints (xs++[x]))))
  |some (.ints []),[v]=>K .none (H.set l (.list [v]))
  |some (.dict es _),[i]=>jJ i es fun r=>K (r.getD .none) H
  |some (.dict es _),[i,d]=>jJ i es fun r=>K (r.getD d) H
  |_,_=>False)
 |_=>False
def CO:List (V×V)→Nat→List V→List V→(List (V×V)→Nat→Prop)→Prop
 |es,n,[],[],K=>K es n
 |es,n,k::aD,v::vs,K=>pz k v es fun cT m=>CO cT (n+m) aD vs K
 |_,_,_,_,_=>False
def mz (x y z:Int):Bool:=ltI 0 z&&(ltI (-1099511627776) x&&(ltI x 1099511627776&&(ltI (-1099511627776) y&&(ltI y 1099511627776&&ltI z 1099511627776))))
theorem qD {a b:Int}(h:ltI a b=true):a<b:=of_decide_eq_true (jq a b▸h)
theorem tS {a b:Int}(h:b9 a b=true):a≤b:=of_decide_eq_true (i2 a b▸h)
theorem uv {x y z:Int}(h:mz x y z=true):0<z∧ -(2^40)<x∧x<2^40∧ -(2^40)<y∧y<2^40∧z<2^40:=
 b4 h fun R h=>b4 h fun Z h=>b4 h fun bv h=>b4 h fun cZ h=>b4 h fun gV n1=>
  ⟨qD R,qD Z,qD bv,qD cZ,qD gV,qD n1⟩
noncomputable def eQ (lo hi st:Int):List Int:=(List.range ((hi-lo+st-1)/st).toNat).map fun(k:Nat)=>lo+st*k
def xg (v:V)(H:List an)(K:List V→Prop):Prop:=match v with
 |.tup vs=>K vs
 |.bytes b=>K (b.map .int)
 |.ref l=>(match H[l]? with
  |some (.list vs)=>K vs
  |some (.ints xs)=>K (xs.map .int)
  |some (.cA b)=>K (b.map .int)
  |some (.dict es _)=>K (es.map (·.1))
  |_=>False)
 |_=>False
noncomputable def zE:an→Bool
 |.list _=>true
 |.ints _=>true
 |_=>false
noncomputable def KG:an→Bool
 |.cA _=>true
 |_=>false
noncomputable def KI (n m:Nat):an→Bool
 |.dict es k=>c1 k n&&c1 es.length m
 |_=>false
def EI (o o':an)(P:List V→Prop):Prop:=match o' with
 |.list cc=>ao (zE o) (P cc) False
 |.ints xs=>ao (zE o) (P (xs.map .int)) False
 |.cA b=>ao (KG o) (P (b.map .int)) False
 |.dict es n=>ao (KI n es.length o) (P (es.map (·.1))) False
 |.inst _=>False
 |.d5 _=>False
def wY (o o':Option an)(P:List V→Prop):Prop:=match o with
 |some o=>(match o' with
  |some o'=>EI o o' P
  |dk=>False)
 |dk=>False
def hk (v:V)(vs:List V)(H bp:List an)(P:List V→Prop):Prop:=match v with
 |.ref l=>wY (H[l]?) (bp[l]?) P
 |_=>P vs
def j3 (f:V→List an→(Option V→List an→Prop)→Prop)(st:List an→(List V→Prop)→Prop):Nat→Nat→List V→List an→List V→(List V→List an→Prop)→Prop
 |0,_,_,_,_,_=>False
 |n+1,i,vs,H,b6,K=>match vs[i]? with
  |dk=>K b6 H
  |some v=>f v H fun r aq=>st aq fun cc=>j3 f st n (i+1) cc aq (match r with|some x=>b6++[x]|dk=>b6) K
inductive rc where
 |next|brk|ret (v:V)
abbrev hT:=Nat→List V→List an→bI→Prop
variable {C:hT}
def z2 (loc:List V)(i:Nat)(K:V→Prop):Prop:=match loc[i]? with
 |some .aR=>False
 |some v=>K v
 |dk=>False
section
variable (C:hT)(G:Nat→Option V)
mutual
def cF (loc:List V):aG→List an→bI→Prop
 |.none,H,K=>K .none H
 |.bool b,H,K=>K (.bool b) H
 |.int i,H,K=>K (.int i) H
 |.str k,H,K=>K (.str k) H
 |.bytes b,H,K=>K (.bytes b) H
 |.loc i,H,K=>z2 loc i fun v=>K v H
 |.glob k,H,K=>k3 (G k) fun v=>K v H
 |.bin op l r,H,K=>cF loc l H fun a aq=>cF loc r aq fun b be=>IF op a b be K
 |.neg x,H,K=>cF loc x H fun a aq=>Ex a aq K
 |.not x,H,K=>cF loc x H fun a aq=>pD a aq fun b=>K (.bool (!b)) aq
 |.and x y,H,K=>cF loc x H fun a aq=>pD a aq fun b=>ao b (cF loc y aq K) (K a aq)
 |.or x y,H,K=>cF loc x H fun a aq=>pD a aq fun b=>ao b (K a aq) (cF loc y aq K)
 |.ite t a b,H,K=>iO loc t (cF loc t) H fun c aq=>ao c (cF loc a aq K) (cF loc b aq K)
 |.cmp op l r,H,K=>cF loc l H fun a aq=>cF loc r aq fun b be=>tk op a b be fun c=>K (.bool c) be
 |.call k args,H,K=>lV loc args H fun vs aq=>C k vs aq K
 |.bi b args,H,K=>lV loc args H fun vs aq=>ID b vs aq K
 |.lI o k args,H,K=>cF loc o H fun a aq=>ao (wL a k aq) (lV loc args aq fun vs be=>ao (wL a k be) (tX a vs be K) False) False
 |.attr o k,H,K=>cF loc o H fun a aq=>rh a k aq fun v=>K v aq
 |.sub o i,H,K=>cF loc o H fun a aq=>cF loc i aq fun b be=>xj a b be K
 |.slice o l h s,H,K=>cF loc o H fun a aq=>cF loc l aq fun b be=>cF loc h be fun c ei=>cF loc s ei fun d pT=>AM a b c d pT K
 |.tup xs,H,K=>lV loc xs H fun vs aq=>K (.tup vs) aq
 |.lst xs,H,K=>lV loc xs H fun vs aq=>K (.ref aq.length) (aq++[fp vs])
 |.dict aD vs,H,K=>lV loc vs H fun b be=>CO [] 0 aD b fun es n=>K (.ref be.length) (be++[.dict es n])
 |.range _ _ _,_,_=>False
 |.items o,H,K=>cF loc o H fun a aq=>KR a aq K
 |.comp fZ gT bW cond,H,K=>qX loc bW (cF loc bW) H fun af vs aq=>
  cY (vs.length≤1000000) (j3 (fun v H k=>iO (fZ.map (fun i=>loc.getD i .aR)++[v]) cond (cF (fZ.map (fun i=>loc.getD i .aR)++[v]) cond) H fun b be=>ao b (cF (fZ.map (fun i=>loc.getD i .aR)++[v]) gT be fun r ei=>k (E r) ei) (k dk be)) (hk af vs aq) (vs.length+1) 0 vs aq []
   fun b6 be=>K (.ref be.length) (be++[fp b6]))
def lV (loc:List V):gP→List an→(List V→List an→Prop)→Prop
 |.nil,H,K=>K [] H
 |.cons x xs,H,K=>cF loc x H fun v aq=>lV loc xs aq fun vs be=>K (v::vs) be
def iO (loc:List V):aG→(List an→bI→Prop)→List an→(Bool→List an→Prop)→Prop
 |.not x,_,H,K=>iO loc x (cF loc x) H fun b aq=>K (!b) aq
 |.and x y,_,H,K=>iO loc x (cF loc x) H fun b aq=>ao b (iO loc y (cF loc y) aq K) (K false aq)
 |.or x y,_,H,K=>iO loc x (cF loc x) H fun b aq=>ao b (K true aq) (iO loc y (cF loc y) aq K)
 |.ite t a b,_,H,K=>iO loc t (cF loc t) H fun c aq=>ao c (iO loc a (cF loc a) aq K) (iO loc b (cF loc b) aq K)
 |.cmp op l r,_,H,K=>cF loc l H fun a aq=>cF loc r aq fun b be=>tk op a b be fun c=>K c be
 |_,w,H,K=>w H fun a aq=>pD a aq fun b=>K b aq
def qX (loc:List V):aG→(List an→bI→Prop)→List an→(V→List V→List an→Prop)→Prop
 |.range l h s,_,H,K=>cF loc l H fun a aq=>cF loc h aq fun b be=>cF loc s be fun c ei=>n5 a fun x=>n5 b fun y=>n5 c fun z=>ao (mz x y z) (K .none ((eQ x y z).map .int) ei) False
 |_,w,H,K=>w H fun a aq=>xg a aq fun vs=>K a vs aq
end
noncomputable abbrev dK:=rc→List V→List an→Prop
variable {K':dK}
mutual
noncomputable def kH (p:Nat→Bool):V→Bool
 |.ref l=>p l
 |.tup vs=>iL p vs
 |.aR=>false
 |_=>true
noncomputable def iL (p:Nat→Bool):List V→Bool
 | []=>true
 |v::vs=>kH p v&&iL p vs
end
def pm (p:Nat→Bool):List (V×V)→Bool
 | []=>true
 |e::es=>kH p e.2&&pm p es
def hR (p:Nat→Bool):an→Bool
 |.list vs=>iL p vs
 |.dict es _=>pm p es
 |.inst d=>p d
 |_=>true
def kz (m:Nat)(v:V):V:=match kH (fun l=>d3 l m) v with|true=>v|false=>.aR
def trunc (m:Nat)(loc:List V)(H:List an)(K:List V→List an→Prop):Prop:=match(H.take m).all (hR fun l=>d3 l m) with
 |true=>K (loc.map (kz m)) (H.take m)
 |false=>K loc H
def ix (m:Nat)(f:V→List V→List an→dK→Prop)(st:List an→(List V→Prop)→Prop):Nat→Nat→List V→List V→List an→dK→Prop
 |0,_,_,_,_,_=>False
 |n+1,i,vs,loc,H,K=>match vs[i]? with
  |dk=>K .next loc H
  |some v=>f v loc H fun aH pb aq=>match aH with
   |.next=>trunc m pb aq fun m9 be=>st be fun cc=>ix m f st n (i+1) cc m9 be K
   |.brk=>K .next pb aq
   |.ret r=>K (.ret r) pb aq
def xx (t:List V→List an→(Bool→List an→Prop)→Prop)(f:List V→List an→dK→Prop):Nat→List V→List an→dK→Prop
 |0,_,_,_=>False
 |n+1,loc,H,K=>t loc H fun b aq=>ao b (f loc aq fun aH pb be=>match aH with
  |.next=>xx t f n pb be K
  |.brk=>K .next pb be
  |.ret r=>K (.ret r) pb be) (K .next loc aq)
def lT (v:V)(H:List an)(n:Nat)(K:List V→Prop):Prop:=match v with
 |.tup vs=>ao (c1 vs.length n) (K vs) False
 |.ref l=>(match H[l]? with
  |some (.list vs)=>ao (c1 vs.length n) (K vs) False
  |some (.ints xs)=>ao (c1 xs.length n) (K (xs.map .int)) False
  |_=>False)
 |_=>False
noncomputable def jv:List V→List Nat→List V→List V
 |loc,i::is,v::vs=>jv (loc.set i v) is vs
 |loc,_,_=>loc
def gh (f:List V→List an→dK→Prop)(K:dK):dK:=fun aH loc H=>match aH with
 |.next=>f loc H K
 |.brk=>K .brk loc H
 |.ret v=>K (.ret v) loc H
mutual
def xr:cN→List V→List an→dK→Prop
 |.asg i e,loc,H,K=>cF C G loc e H fun v aq=>K .next (loc.set i v) aq
 |.hW is e,loc,H,K=>cF C G loc e H fun v aq=>lT v aq is.length fun vs=>K .next (jv loc is vs) aq
 |.yE o k e,loc,H,K=>cF C G loc e H fun v aq=>cF C G loc o aq fun a be=>aej a k v be fun ei=>K .next loc ei
 |.hK o i e,loc,H,K=>cF C G loc e H fun v aq=>cF C G loc o aq fun a be=>cF C G loc i be fun b ei=>Fa a b v ei fun pT=>K .next loc pT
 |.p3 o l h e,loc,H,K=>cF C G loc e H fun v aq=>cF C G loc o aq fun a be=>cF C G loc l be fun b ei=>cF C G loc h ei fun c pT=>OL a b c v pT fun vk=>K .next loc vk
 |.aug i op e,loc,H,K=>z2 loc i fun a=>cF C G loc e H fun b aq=>vv op a b aq fun v be=>K .next (loc.set i v) be
 |.ex e,loc,H,K=>cF C G loc e H fun _ aq=>K .next loc aq
 |.iff t a b,loc,H,K=>iO C G loc t (cF C G loc t) H fun c aq=>ao c (b3 a loc aq K) (b3 b loc aq K)
 |.xw t a,loc,H,K=>xx (fun loc H K=>iO C G loc t (cF C G loc t) H K) (fun loc H K=>b3 a loc H K) 8 loc H K
 |.hN i bW a,loc,H,K=>qX C G loc bW (cF C G loc bW) H fun af vs aq=>ix aq.length (fun v loc H K=>b3 a (loc.set i v) H K) (hk af vs aq) (vs.length+1) 0 vs loc aq K
 |.tw is bW a,loc,H,K=>qX C G loc bW (cF C G loc bW) H fun af vs aq=>ix aq.length (fun v loc H K=>lT v H is.length fun cc=>b3 a (jv loc is cc) H K) (hk af vs aq) (vs.length+1) 0 vs loc aq K
 |.brk,loc,H,K=>K .brk loc H
 |.ret e,loc,H,K=>cF C G loc e H fun v aq=>K (.ret v) loc aq
 |.del o i,loc,H,K=>cF C G loc o H fun a aq=>cF C G loc i aq fun b be=>CN a b be fun ei=>K .next loc ei
 |.err,_,_,_=>False
 |.pass,loc,H,K=>K .next loc H
def b3:fe→List V→List an→dK→Prop
 |.nil,loc,H,K=>K .next loc H
 |.cons s r,loc,H,K=>xr s loc H (gh (b3 r) K)
end
end
variable {K':dK}
noncomputable def Ct:List (Str×mO):=[("len",.len),("bytes",.bytes),("bytearray",.bytearray),("sum",.sum),("sorted",.sorted),("list",.list),("min",.min),("max",.max)]
noncomputable def tf:mO→aj
 |.len=>.builtin "len"|.bytes=>.type "bytes"|.bytearray=>.type "bytearray"|.sum=>.builtin "sum"|.sorted=>.builtin "sorted"|.list=>.type "list"|.min=>.builtin "min"|.max=>.builtin "max"
def vM (P:db):Nat→Obj:=Nt P (dX P) (iV P (bb "law_pq1102_01" 945) 91) (kS 231) (ml [ak 44])
def rz (P:db):fP:=absHeap (yK (vM P) 617 12 1 0) 617 {}
def w7:hS:={d8 with main:={d8.main with body:=bd.drop 94}}
noncomputable def aba:iP→Option PySem.Str
 |.FunctionDef n _ _ _ _ _ _ _ _ _=>E n
 |.ClassDef n _ _ _ _ _ _ _ _ _ _=>E n
 |.Assign [.Name n _] _ _=>E n
 |_=>none
def loose:List PySem.Str:=(bd.take 94).filterMap aba
def p6:List (PySem.Str×aj):=Ct.map (fun e=>(e.1,tf e.2))++[((("range":PySem.Str),cC "range"):PySem.Str×aj)]
abbrev H4:Type:=List (Option Obj)×List (Option aj)×List (Option aj)×List (Option aj)×Nat×Nat
def ig (s:aQ):H4:=((List.range 617).map s.heap.get?,oa.map (fun x=>s.heap.nsMap mainGlobals (.ofString x.1)),p6.map (fun x=>s.heap.nsMap mainGlobals x.1),p6.map (fun x=>s.heap.nsMap builtinsNs x.1),s.toks,s.heap.objs.size)
def ie (w:eJ):H4:=((List.range 617).map (fun a=>E (vM w.params a)),oa.map (fun x=>E x.2.2),p6.map (fun _=>none),p6.map (fun x=>E x.2),1175,617)
theorem ZL (w:eJ)(os:f9):(staticsOk (importedModules d8.main.body) (q9 w.params) (rz w.params)&&namesBound d8 (rz w.params)&&gensDone ⟨rz w.params,#[],{},1175,os⟩&&laidKept (q9 w.params) (rz w.params))=true:=by kernel_rfl
theorem ZN (w:eJ)(os:f9):ig ⟨rz w.params,#[],{},1175,os⟩=ie w:=by kernel_rfl
theorem aeD (w:eJ):((q9 w.params).isNs mainGlobals&&(#[]:Array GenState).size==0,(q9 w.params).objs.size,(q9 w.params).nsMap mainGlobals "__annotations__")=(true,11,E (.ref 6)):=by kernel_rfl
theorem ZM (w:eJ)(os:f9):openSeen w7 loose (importedModules d8.main.body) (fun _=>true) true ⟨rz w.params,#[],{},1175,os⟩=openGood w7 loose:=by kernel_rfl
theorem abK:opening d8=plainProg d8.main.scope.names:=by kernel_rfl
theorem VW (s:aQ):fenceModules? d8 s=E s:=by kernel_rfl
theorem Zu:LeftO d8 w7 loose (fun _=>true) ig ie 4000:=
 LeftO.of_pieces (H₀:=q9) (H₁:=rz) (boot_open abK (by decide) VW) aeD add (by decide)
  fun w=>funext fun os=>Prod.ext (ZL w os) (Prod.ext (ZM w os) (ZN w os))
abbrev eX:aj→aQ→Prop:=fun _ _=>False
noncomputable def mU:List String:=Builtin.Bytes.decodersThatHold++["bytearray.__contains__","bytearray.__mod__","bytearray.__rmod__","_struct.pack_into.held","bytearray.find.held"]
def lM:lZ→Bool
 |.builtin id _=> !mU.contains id
 |_=>true
structure oS (ea:Ctx):Prop where
 here:lM ea.code=true
 below:∀x∈ea.below,lM x.1=true
def aO {a4:Type}(O:hS)(w:eJ)(A:fu)(t:Sem a4)(Q:a4→aQ→Prop)(s:aQ):Prop:=
 ∀ea p,ea.In A→oS ea→Sem.wp (model O w) ea t (fun a _ s'=>Q a s') (fun _ _ _=>False) p s
abbrev abo (Q:g0→aQ→Prop):Result→aQ→Prop:=fun r s=>match r with|.ok f=>Q f s|.error _=>False
def codeN (O:hS)(w:eJ)(A:fu)(c:lZ)(Q:g0→aQ→Prop)(s:aQ):Prop:=
 ∀ea p,ea.code=c→ea.Below A→oS ea→wpCode (model O w) ea (abo Q) p s
section
variable {a4 eI:Type}
theorem oS.enter {ea:Ctx}(x:oS ea){c:lZ}{h:Option aj}(aI:lM c=true):oS (ea.enter c h p):=⟨aI,fun y ct=>by
 rcases List.mem_cons.mp ct with rfl|ct
 .exact x.here
 .exact x.below y ct⟩
theorem oS.goto {ea:Ctx}(x:oS ea){c:lZ}(aI:lM c=true):oS (ea.goto c):=⟨aI,x.below⟩
theorem cU {t:Sem a4}{Q:a4→aQ→Prop}(h:wpAny (model O w) A t Q eX s):aO O w A t Q s:=fun ea p hb _=>h ea p hb
theorem dF {t:Sem a4}{Q pZ:a4→aQ→Prop}(h:aO O w A t Q s)(a9:∀a s',Q a s'→pZ a s'):aO O w A t pZ s:=
 fun ea p hb x=>vb _ ea t (fun a _ s'=>a9 a s') (fun _ _ _ h=>h) p s (h ea p hb x)
theorem b0 {m:Sem a4}{f:a4→Sem eI}{Q:eI→aQ→Prop}(h:aO O w A m (fun a s'=>aO O w A (f a) Q s') s):aO O w A (m>>=f) Q s:=fun ea p hb x=>by rw[Sem.wp_bind'];exact vb _ ea m (fun a oh s' h'=>h' ea oh hb x) (fun _ _ _ h'=>h') p s (h ea p hb x)
theorem dH {m:Sem a4}{f:a4→Sem eI}{Q:eI→aQ→Prop}(h:wpAny (model O w) A m (fun a s'=>aO O w A (f a) Q s') eX s):aO O w A (m>>=f) Q s:=b0 (cU h)
theorem cM {a:a4}{Q:a4→aQ→Prop}(h:Q a s):aO O w A (pure a) Q s:=cU (aX h)
theorem eR {vs:List aj}{m:Sem a4}{Q:a4→aQ→Prop}(h:aO O w A m Q s):aO O w A (holding vs m) Q s:=fun ea p hb x=>by rw[Sem.wp_holding];exact h ea p hb x
theorem qK {m:Sem a4}{k:aj→Sem Unit}{Q:a4→aQ→Prop}(h:aO O w A m Q s):aO O w A (m.onRaise k) Q s:=fun ea p hb x=>by rw[Sem.wp_onRaise];exact vb _ ea m (fun _ _ _ h'=>h') (fun _ _ _ h'=>h'.elim) p s (h ea p hb x)
theorem aaF {m:Sem a4}{Q:Except aj a4→aQ→Prop}(h:aO O w A m (fun a=>Q (.ok a)) s):aO O w A m.attempt Q s:=fun ea p hb x=>by rw[Sem.wp_attempt];exact vb _ ea m (fun _ _ _ h'=>h') (fun _ _ _ h'=>h'.elim) p s (h ea p hb x)
theorem e9 {k:Unit→Sem a4}{Q:a4→aQ→Prop}(h:aO O w A (k ()) Q s):aO O w A (standAt p>>=k) Q s:=dH (wpAny_standAt h)
theorem Ak {vs:List aj}{m:Sem aj}(h:aO O w A m Q s):aO O w A (operate vs m) Q s:=fun ea p hb x=>by rw[Sem.wp_operate];exact h ea p hb x
theorem M4 {c:lZ}{h:Option aj}{Q:g0→aQ→Prop}(lz:lM c=true)(aI:codeN O w (A.mark h) c Q s)(tC:h≠E byPass:=by intro x;cases x):aO O w A (run c h) Q s:=
 fun ea p hb x=>by
  rw[Sem.wp_run];refine wpCode_mono (fun r s' am=>?_) (aI _ p rfl (hb.enter c h p tC) (x.enter lz));cases r with
  |ok f=>exact am
  |error e=>exact am.elim
def AD (Q:aj→aQ→Prop):g0→aQ→Prop:=fun f s=>match f with|.ret v=>Q v s|_=>False
theorem aaN {c:lZ}(lz:lM c=true)(aI:codeN O w A c (AD Q) s):aO O w A (runValue c) Q s:=
 fun ea p hb x=>by
  rw[Sem.wp_runValue];refine wpCode_mono (fun r s' am=>?_) (aI _ p rfl (hb.enter c none p (by intro x;exact c5 x)) (x.enter lz));cases r with
  |ok f=>cases f<;>first|exact am|exact am.elim
  |error e=>exact am.elim
theorem wR {f:aj}{pos:List aj}{tQ:List (Str×aj)}(aI:codeN O w A (.call f ⟨pos,tQ⟩) (AD Q) s):aO O w A (call f pos tQ) Q s:=aaN rfl aI
theorem IP {c:lZ}{Q pZ:g0→aQ→Prop}(h:codeN O w A c Q s)(a9:∀f s',Q f s'→pZ f s'):codeN O w A c pZ s:=fun ea p aI hb x=>wpCode_mono (fun r s' am=>by
 cases r with
 |ok f=>exact a9 f s' am
 |error e=>exact am.elim) (h ea p aI hb x)
theorem qa {c:lZ}{Q:g0→aQ→Prop}(h:lM c=true→aO O w (A.under c) ((model O w).den c) (fun fin s'=>match fin with|.done f=>Q f s'|.again gQ=>gQ.quiet=true∧lM gQ=true∧codeN O w A gQ Q s') s):
 codeN O w A c Q s:=fun ea p aI hb x=>by
 rw[wpCode_iff_wp,aI];refine vb _ ea _ (fun fin oh s' h'=>?_) (fun _ _ _ h'=>h'.elim) p s (h (aI▸x.here) ea p (aI▸hb.in) x);cases fin with
 |done f=>exact h'
 |again gQ=>exact⟨h'.1,h'.2.2 (ea.goto gQ) oh rfl (hb.goto gQ) (x.goto h'.2.1)⟩
theorem CD {c:lZ}{Q:g0→aQ→Prop}(a9:c.quiet=true)(aM:Nat→aQ→Prop)
 (turn:∀n s,aM n s→aO O w (A.under c) ((model O w).den c) (fun fin s'=>match fin with|.done f=>Q f s'|.again gQ=>(gQ=c∧∃m,m<n∧aM m s')∨(gQ.quiet=true∧lM gQ=true∧codeN O w A gQ Q s')) s)
 (n:Nat)(h:aM n s):codeN O w A c Q s:=by
 induction n using Nat.strongRecOn generalizing s with
 |ind n aF=>
  refine qa fun lz=>dF (turn n s h) fun fin s' hf=>?_;cases fin with
  |done f=>exact hf
  |again gQ=>rcases hf with⟨rfl,m,hm,ab⟩|hf;exact⟨a9,lz,aF m hm ab⟩;exact hf
theorem hy {m:Sem a4}{f:a4→Sem eI}{a:a4}{Q:eI→aQ→Prop}(e:m=pure a)(h:aO O w A (f a) Q s):aO O w A (m>>=f) Q s:=by subst e;exact b0 (cM h)
theorem aaO {f:lZ×Pos→Bool}{Q:Bool→aQ→Prop}(hf:∀c p,lM c=true→f (c,p)=false)(h:Q false s):aO O w A (do return (←stack).any f) Q s:=fun ea p hb x=>by
 refine(?_:Q (((ea.code,p)::ea.below).any f) s);have:((ea.code,p)::ea.below).any f=false:=by
  rw[List.any_eq_false];rintro⟨c,q⟩ hm;rw[hf c q]
  .exact d7
  .rcases List.mem_cons.mp hm with e|hm
   .cases e;exact x.here
   .exact x.below _ hm
 rw[this];exact h
theorem aaD {vI:List aY}{k:Nat}(h:aO O w A (spliced (backTo pos (starEach vI I))) (fun vs bB=>aO O w A (newTuple vs) Q bB) s):aO O w A (eval (.Tuple vI k pos) I) Q s:=e9 (b0 h)
theorem aaC {vI:List aY}(h:aO O w A (spliced (backTo pos (starEach vI I))) (fun vs bB=>aO O w A (newList vs) Q bB) s):aO O w A (eval (.List vI pos) I) Q s:=e9 (b0 h)
theorem aaz {l r:aY}(h:aO O w A (eval l I) (fun a bB=>aO O w A (eval r I) (fun b eh=>aO O w A (binaryOp op a b) Q eh) bB) s):aO O w A (eval (.BinOp l op r pos) I) Q s:=by rw[eval_BinOp];exact b0 (dF h fun a bB h₁=>b0 (eR (dF h₁ fun b eh fL=>e9 (Ak fL))))
theorem MZ {x:aY}{op:UnaryOp}(h:aO O w A (eval x I) (fun a bB=>aO O w A (unaryOp op a) Q bB) s):aO O w A (eval (.UnaryOp op x pos) I) Q s:=by rw[arm_eval_UnaryOp];exact b0 (dF h fun a bB h₁=>e9 (eR h₁))
theorem aaE {vK vL:aY}
 (h:aO O w A (eval vK I) (fun v bB=>aO O w A (truthy v) (fun c eh=>if c then aO O w A (eval (.BoolOp .And (vL::c2) pos) I) Q eh else Q v eh) bB) s):aO O w A (eval (.BoolOp .And (vK::vL::c2) pos) I) Q s:=by
 refine b0 (dF h fun v bB h₁=>e9 (b0 (eR (dF h₁ fun c eh fL=>?_))))
 induction c using eo with
 |false=>exact cM fL
 |true=>exact fL
theorem aaM {vK vL:aY}
 (h:aO O w A (eval vK I) (fun v bB=>aO O w A (truthy v) (fun c eh=>if c then Q v eh else aO O w A (eval (.BoolOp .Or (vL::c2) pos) I) Q eh) bB) s):aO O w A (eval (.BoolOp .Or (vK::vL::c2) pos) I) Q s:=by
 refine b0 (dF h fun v bB h₁=>e9 (b0 (eR (dF h₁ fun c eh fL=>?_))))
 induction c using eo with
 |false=>exact fL
 |true=>exact cM fL
theorem aaB {a b:aY}(h:aO O w A (isTrue t I (eval t I)) (fun c eh=>if c then aO O w A (eval a I) Q eh else aO O w A (eval b I) Q eh) s):aO O w A (eval (.IfExp t a b pos) I) Q s:=by refine b0 (dF h fun c eh fL=>?_);cases c<;>exact fL
theorem aaS {x:aY}{Q:Bool→aQ→Prop}(h:aO O w A (isTrue x I (eval x I)) (fun c s'=>Q (!c) s') s):aO O w A (isTrue (.UnaryOp .Not x pos) I lg) Q s:=
 b0 (dF h fun c s' h'=>cM h')
theorem M6 {x:aY}{Q:Bool→aQ→Prop}(h:aO O w A (isTrue x I (eval x I)) (fun c s'=>if c then aO O w A (isTrue (.BoolOp .And c2 pos) I lg) Q s' else Q false s') s):
 aO O w A (isTrue (.BoolOp .And (x::c2) pos) I lg) Q s:=by
 refine b0 (dF h fun c s' h'=>?_)
 induction c using eo with
 |false=>exact cM h'
 |true=>exact h'
theorem M7 {x:aY}{Q:Bool→aQ→Prop}(h:aO O w A (isTrue x I (eval x I)) (fun c s'=>if c then Q true s' else aO O w A (isTrue (.BoolOp .Or c2 pos) I lg) Q s') s):
 aO O w A (isTrue (.BoolOp .Or (x::c2) pos) I lg) Q s:=by
 refine b0 (dF h fun c s' h'=>?_)
 induction c using eo with
 |false=>exact h'
 |true=>exact cM h'
theorem aaR {a b:aY}{Q:Bool→aQ→Prop}(h:aO O w A (isTrue t I (eval t I)) (fun c eh=>if c then aO O w A (isTrue a I (eval a I)) Q eh else aO O w A (isTrue b I (eval b I)) Q eh) s):
 aO O w A (isTrue (.IfExp t a b pos) I lg) Q s:=by
 refine b0 (dF h fun c eh fL=>?_);cases c<;>exact fL
theorem aaT {Q:Bool→aQ→Prop}(h:aO O w A lg (fun v bB=>aO O w A (truthy v) Q bB) s)(he:isTrue e I lg=(do let v←lg;standAt e.pos;holding [v] (truthy v))):aO O w A (isTrue e I lg) Q s:=by rw[he];exact b0 (dF h fun v bB h₁=>e9 (eR h₁))
theorem aaA {l r:aY}{op:CmpOp}(h:aO O w A (eval l I) (fun a bB=>aO O w A (eval r I) (fun b eh=>aO O w A (compareOp op a b) Q eh) bB) s)(hm:behindInMarks op r=false):
 aO O w A (eval (.Compare l [op] [r] pos) I) Q s:=by
 rw[eval_Compare1,markedBehindIn_of_false hm];exact b0 (dF h fun a bB h₁=>b0 (eR (dF h₁ fun b eh fL=>e9 (Ak fL))))
theorem aaQ {l r:aY}{op:CmpOp}{Q:Bool→aQ→Prop}(h:aO O w A (eval l I) (fun a bB=>aO O w A (eval r I) (fun b eh=>aO O w A (compareOp op a b) (fun c jQ=>aO O w A (truthy c) Q jQ) eh) bB) s)(hm:behindInMarks op r=false):
 aO O w A (isTrue (.Compare l [op] [r] pos) I lg) Q s:=by
 rw[isTrue_Compare1,markedBehindIn_of_false hm];exact b0 (dF h fun a bB h₁=>b0 (eR (dF h₁ fun b eh fL=>e9 (b0 (Ak (dF fL fun c jQ iF=>eR iF))))))
theorem aay {attr:Str}(h:aO O w A (eval e I) (fun o bB=>aO O w A (getAttr o attr true) Q bB) s)
 (he:eval (.Attribute e attr pos) I=(do
  let o←eval e I
  standAt pos.atName
  let r←holding [o] (getAttr o attr true)
  letTemporaryGo e o r
  pure r)):aO O w A (eval (.Attribute e attr pos) I) Q s:=by
 rw[he];exact b0 (dF h fun o bB h₁=>e9 (b0 (eR (dF h₁ fun r eh fL=>dH (wpAny_letTemporaryGo (cM fL))))))
theorem MY {i:aY}(h:aO O w A (eval e I) (fun o bB=>aO O w A (eval i I) (fun Ku eh=>aO O w A (subscriptTail e i o Ku) Q eh) bB) s):aO O w A (eval (.Subscript e i pos) I) Q s:=by rw[eval_Subscript];exact b0 (dF h fun o bB h₁=>b0 (eR (dF h₁ fun Ku eh fL=>e9 fL)))
theorem MX {Mv PT step:Option aY}
 (h:aO O w A (evalPart Mv I) (fun l bB=>aO O w A (evalPart PT I) (fun u eh=>aO O w A (evalPart step I) (fun st jQ=>
  Q (.ref jQ.heap.objs.size) {jQ with heap:=jQ.heap.push {cls:=.type "slice",data:=.fields #[l,u,st]}}) eh) bB) s):aO O w A (eval (.Slice Mv PT step p) I) Q s:=by
 rw[arm_eval_Slice];exact b0 (dF h fun l bB h₁=>b0 (eR (dF h₁ fun u eh fL=>b0 (eR (dF fL fun st jQ iF=>cU (jB iF))))))
end
structure gD where
 h₀:fP
 j8:Str→Option aj
 pf:Str→Option aj
 G:Nat→Option V
 K:Frag
variable {B:gD}
structure gD.Ok (B:gD):Prop where
 g:B.h₀.Ns mainGlobals B.j8
 b:B.h₀.Ns builtinsNs B.pf
 lim:B.h₀.NoLimit
 dE:∃o,B.h₀.get? sysModules=E o
 K:B.K.In B.h₀
 glob:∀x v,fY x=true→B.G (a7 x)=E v→∃gB,(B.j8 x=E gB∨(B.j8 x=none∧B.pf x=E gB))∧∀ρ h,aN ρ h v gB
def yr (I:Env)(h:fP)(x:Str)(v:aj):Prop:=
 (I.kindOf x=E .local∧∃m,h.Ns I.locals m∧m x=E v)∨
 (I.kindOf x=E .cell∧∃c o,I.cells.lookup x=E c∧h.get? c=E o∧o.data=.cell (E v))∨
 (I.kindOf x=E .free∧(x==("__classdict__":Str))=false∧∃c o,I.cells.lookup x=E c∧h.get? c=E o∧o.data=.cell (E v))
structure QG (I:Env)(ah:List bj)(ay:List Str)(loc:List V)(ρ:List bj)(h:fP):Prop where
 kind:I.scope.kind=.function
 glob:I.globals=mainGlobals
 blt:I.builtins=builtinsNs
 own:∀a∈ah,a∉ρ∧∃o,h.get? a=E o∧∀xs n,o.data≠.seq xs n
 nb:I.locals∈ah
 mW:∀x c,I.cells.lookup x=E c→c∈ah
 k6:∀(i:Nat) x v,ay[i]? =E x→loc[i]? =E v→v≠.aR→∃gB,yr I h x gB∧aN ρ h v gB
 nu:∀x∈ay,(x==("__debug__":Str))=false
 ns:∃m,h.Ns I.locals m
 cl:∀x c,I.cells.lookup x=E c→∃v,h.IsCell c v
 qC:∀x c,I.cells.lookup x=E c→c≠I.locals
 inj:∀x y c,I.cells.lookup x=E c→I.cells.lookup y=E c→x=y
 eW:ay.Nodup
structure bZ (P:db)(B:gD)(I:Env)(ah:List bj)(ay:List Str)(ρ:List bj)(H:List an)(loc:List V)(s:aQ):Prop where
 am:bz P ρ H s.heap
 cj:QG I ah ay loc ρ s.heap
 bs:∀a o,B.h₀.get? a=E o→s.heap.get? a=E o∧a∉ρ∧a∉ah
theorem bZ.keeps (r:bZ P B I ah ay ρ H loc s):
 ∀a o,B.h₀.get? a=E o→s.heap.get? a=E o:=fun a o e=>(r.bs a o e).1
theorem Oc {x:Str}{v:aj}(ar:I.locals∈ah)(aI:∀x c,I.cells.lookup x=E c→c∈ah)
 (aB:∀a∈ah,∀o,h.get? a=E o→h'.get? a=E o)(r:yr I h x v):yr I h' x v:=by
 rcases r with⟨k,m,⟨o,es,ep,ax,q⟩,hm⟩|⟨k,c,o,e,ax,hd⟩|⟨k,n,c,o,e,ax,hd⟩
 .exact .inl ⟨k,m,⟨o,es,ep,aB _ ar _ ax,q⟩,hm⟩
 .exact .inr (.inl ⟨k,c,o,e,aB _ (aI _ _ e) _ ax,hd⟩)
 .exact .inr (.inr ⟨k,n,c,o,e,aB _ (aI _ _ e) _ ax,hd⟩)
theorem bZ.step (r:bZ P B I ah ay ρ H loc s)
 (st:Step [] ρ s aV s')(am:bz P aV bp s'.heap):bZ P B I ah ay aV bp loc s':=by
 have Nk:∀a o,s.heap.get? a=E o→a∉ρ→a∉aV:=fun a o e aC a9=>by
  refine dn st.new fun n cg aL=>?_;subst cg;rcases List.mem_append.mp a9 with q|q
  .exact aC q
  .rw[aL a q] at e;exact c5 e
 have nf:∀a:bj,a∉([]:List bj):=fun _ h=>nomatch h;have jM:∀a∈ah,∀o,s.heap.get? a=E o→s'.heap.get? a=E o:=fun a aC o e=>st.keep a o e (r.cj.own a aC).1 (nf a);refine⟨am,⟨r.cj.kind,r.cj.glob,r.cj.blt,fun a aC=>?_,r.cj.nb,r.cj.mW,fun i x v aS co bx=>?_,r.cj.nu,?_,fun x c aI=>?_,r.cj.qC,r.cj.inj,r.cj.eW⟩,fun a o e=>?_⟩
 .obtain⟨R,o,Z,bv⟩:=r.cj.own a aC;exact⟨Nk a o Z R,o,st.keep a o Z R (nf a),bv⟩
 .exact dn (r.cj.k6 i x v aS co bx) fun gB R Z=>⟨gB,Oc r.cj.nb r.cj.mW jM R,Z.mono st.fU r.am.di⟩
 .exact uP r.cj.ns fun m o es ep ax q=>⟨m,o,es,ep,jM _ r.cj.nb _ ax,q⟩
 .exact mH (r.cj.cl x c aI) fun v o ax q=>⟨v,o,jM _ (r.cj.mW _ _ aI) _ ax,q⟩
 .exact hJ (r.bs a o e) fun R Z bv=>⟨st.keep a o R Z (nf a),Nk a o R Z,bv⟩
def jD (P:db)(ρ:List bj)(s:aQ)(Q:bI)(K:aj→aQ→Prop):Prop:=
 ∀v bp aV y s',Q v bp→bz P aV bp s'.heap→aN aV s'.heap v y→Step [] ρ s aV s'→K y s'
theorem jD.after {Q:bI}{K:aj→aQ→Prop}(p:jD P ρ s Q K)(st:Step [] ρ s uR bB):jD P uR bB Q K:=
 fun v bp aV y s' q am bU el=>p v bp aV y s' q am bU (st.trans el)
section
variable (O:hS)(w:eJ)(B:gD)(C:hT)(A:fu)(I:Env)(ay:List Str)
def cV (e:aY)(x:aG):Prop:=∀ah loc H ρ s (Q:bI) (K:aj→aQ→Prop),cF C B.G loc x H Q→bZ w.params B I ah ay ρ H loc s→jD w.params ρ s Q K→
 aO O w A (eval e I) K s
def ST (e:aY)(x:aG):Prop:=∀ah loc H ρ s (Q:Bool→List an→Prop) (K:Bool→aQ→Prop),iO C B.G loc x (cF C B.G loc x) H Q→bZ w.params B I ah ay ρ H loc s→
 (∀b bp aV s',Q b bp→bz w.params aV bp s'.heap→Step [] ρ s aV s'→K b s')→aO O w A (isTrue e I (eval e I)) K s
def oU (es:List aY)(xs:gP):Prop:=∀ah loc H ρ s (Q:List V→List an→Prop) (K:List aj→aQ→Prop) (pos:Pos),lV C B.G loc xs H Q→bZ w.params B I ah ay ρ H loc s→
 (∀vs bp aV ys s',Q vs bp→bz w.params aV bp s'.heap→bJ aV s'.heap vs ys→ys.length=es.length→Step [] ρ s aV s'→K ys s')→
 aO O w A (spliced (backTo pos (starEach es I))) K s
end
theorem aea {k:Nat}:cV O w B C A I ay (.Constant .none k p) .none:=fun _ _ H ρ s Q K h r q=>
 cM (q _ H ρ _ s h r.am .none (.refl _ _ _))
theorem adV {k:Nat}:cV O w B C A I ay (.Constant (.bool b) k p) (.bool b):=fun _ _ H ρ s Q K h r q=>
 cM (q _ H ρ _ s h r.am (.bool b) (.refl _ _ _))
theorem ad3 {i:Int}{k:Nat}:cV O w B C A I ay (.Constant (.int i) k p) (.int i):=fun _ _ H ρ s Q K h r q=>
 cU (u5 (q _ H ρ _ _ h r.am (.int i _) .toks))
theorem aee {x:Str}{k:Nat}(aS:fY x=true):cV O w B C A I ay (.Constant (.str x) k p) (.str (a7 x)):=fun _ _ H ρ s Q K h r q=>
 cU (wpAny_mkText (q _ H ρ _ _ h r.am (.str x _ aS) .toks))
theorem adX {b:List UInt8}{k:Nat}(hz:b.length≤1000000):cV O w B C A I ay (.Constant (.bytes b) k p) (.bytes (b.map fun u=>(u.toNat:Int))):=fun _ _ H ρ s Q K h r q=>
 cU (Constant_bytes (q _ H ρ _ _ h r.am (by have:=aN.bytes (ρ:=ρ) (h:=s.heap) b.toArray s.toks (by simpa using hz);simpa [dY] using this) .toks))
set_option tactic.hygienic true in
theorem Ml {i:Nat}{K:V→Prop}(h:z2 loc i K):∃v,loc[i]? =E v∧v≠.aR∧K v:=by
 unfold z2 at h
 split at h
 .exact h.elim
 .rename_i v aL e
  exact⟨v,e,aL,h⟩
 .exact h.elim
theorem ad6 {x:Str}{i:Nat}(aS:ay[i]? =E x):cV O w B C A I ay (.Name x p) (.loc i):=fun ah loc H ρ s Q K h r q=>by
 refine gy (Ml (K:=fun v=>Q v H) h) fun v e bx a9=>dn (r.cj.k6 i x v aS e bx) fun gB k6 bU=>?_;have k:=q v H ρ gB s a9 r.am bU (.refl _ _ _);have hd:=r.cj.nu x (List.mem_of_getElem? aS);rcases k6 with⟨ar,m,aL,hm⟩|⟨ar,c,o,aI,ax,kC⟩|⟨ar,aL,c,o,aI,ax,kC⟩
 .exact cU (wpAny_Name (wpAny_loadName_local r.cj.kind ar aL hm k) hd)
 .exact cU (wpAny_Name (wpAny_loadName_cell r.cj.kind ar aI ⟨o,ax,kC⟩ k) hd)
 .exact cU (wpAny_Name (wpAny_loadName_free r.cj.kind ar aI ⟨o,ax,kC⟩ k aL) hd)
theorem ad2 (ok:B.Ok){x:Str}(aS:fY x=true)(aB:I.kindOf x=E .globalImplicit)(hd:(x==("__debug__":Str))=false):
 cV O w B C A I ay (.Name x p) (.glob (a7 x)):=fun ah loc H ρ s Q K h r q=>by
 change k3 (B.G (a7 x)) (fun v=>Q v H) at h;cases e:B.G (a7 x) with
 |none=>rw[e] at h;exact h.elim
 |some v=>
  rw[e] at h;refine dn (ok.glob x v aS e) fun gB co bU=>?_;have k:=q v H ρ gB s h r.am (bU _ _) (.refl _ _ _);have b5:s.heap.Ns I.globals B.j8:=r.cj.glob▸ok.g.keeps r.keeps;refine cU (G4 r.cj.kind aB ?_ hd);rcases co with co|⟨R,Z⟩
  .exact loadGlobal_global b5 co k
  .exact loadGlobal_builtin b5 R (r.cj.blt▸ok.b.keeps r.keeps) Z k
theorem bz.push (x:bz P ρ H h)(ob:Obj):bz P ρ H (h.push ob):=
 ⟨x.len,x.eW,fun i o a ax aC=>let ⟨hP,R,Z⟩:=x.at_ i o a ax aC
  ⟨hP,fv _ R,Z.mono ⟨⟨[],by simp,fun _ h=>nomatch h⟩,fun _ _ e _ _=>fv _ e⟩ x.di⟩⟩
theorem eL.push (ob:Obj):eL ρ ρ h (h.push ob):=⟨⟨[],by simp,fun _ h=>nomatch h⟩,fun _ _ e _ _=>fv _ e⟩
theorem aa4 {Q:bI}{K:aj→aQ→Prop}
 (am:bz P ρ H s.heap)(bU:bJ ρ s.heap vs ys)(ar:ys.length≤1000000)(a9:Q (.tup vs) H)(q:jD P ρ s Q K):wpAny aA A (newTuple ys) K eX s:=by
 refine jB (q (.tup vs) H ρ _ _ a9 (am.push _) ?_ (.push _)) ?_
 .exact .tup (g5 _ rfl) (bU.mono (.push _) am.di)
 .refine(?_:ys.toArray.size≤sizeLine+0);rw[List.size_toArray];simp only[sizeLine];lia
theorem aeg {es:List aY}{xs:gP}{k:Nat}(aE:oU O w B C A I ay es xs)(ar:es.length≤1000):cV O w B C A I ay (.Tuple es k p) (.tup xs):=fun ah loc H ρ s Q K h r q=>by exact aaD (aE ah loc H ρ s _ _ p h r fun vs bp aV ys s' a9 am bU len st=>cU (aa4 am bU (by lia) a9 (q.after st)))
theorem ints_of:∀{ys:List aj} {is:List Int},lD vs=E is→bJ ρ h vs ys→IntsAre ys is:=by
 induction vs with
 |nil=>intro ys is e r;obtain rfl:=cE e;exact r.iJ .nil
 |cons v vs aF=>
  intro ys is e r;refine r.gS fun y ys a dx=>?_;clear r
  induction v using V.casesOn with
  |int i=>
   refine(?_:(match lD vs with|some is=>E (i::is)|dk=>dk)=E is→_) e
   refine a.fg fun t=>?_;cases g:lD vs with
   |none=>exact fun e=>c5 e
   |some KX=>exact fun e=>cE e▸.cons i t (aF g dx)
  |_=>exact c5 e
theorem tY (r:bJ ρ h vs ys)(n:Nat):eE P ρ h (fp vs) (listOf ys.toArray n):=by
 unfold fp;cases e:lD vs with
 |some is=>exact .ints (ints_of e r)
 |none=>exact .list r
theorem wT {o:an}{Q:bI}{K:aj→aQ→Prop}(am:bz P ρ H s.heap)(hf:ob.isFreed=false)
 (sd:eE P (ρ++[s.heap.objs.size]) (s.heap.push ob) o ob)(a9:Q (.ref H.length) (H++[o]))(q:jD P ρ s Q K)(t:Nat):
 K (.ref s.heap.objs.size) {s with heap:=s.heap.push ob,toks:=t}:=by
 refine q _ _ _ _ _ a9 (am.alloc hf sd) (.ref ?_) (.alloc t);rw[←am.len,List.getElem?_append_right (kN _)];simp
theorem aa3 {Q:bI}{K:aj→aQ→Prop}
 (am:bz P ρ H s.heap)(bU:bJ ρ s.heap vs ys)(ar:ys.length≤1000000)(a9:Q (.ref H.length) (H++[fp vs]))(q:jD P ρ s Q K):wpAny aA A (newList ys) K eX s:=by
 refine jB (wT am rfl (tY (bU.mono .alloc am.di) 0) a9 q s.toks) ?_
 .refine(?_:ys.toArray.size≤sizeLine+0);rw[List.size_toArray];simp only[sizeLine];lia
theorem ad7 {es:List aY}{xs:gP}(aE:oU O w B C A I ay es xs)(ar:es.length≤1000):cV O w B C A I ay (.List es p) (.lst xs):=fun ah loc H ρ s Q K h r q=>by exact aaC (aE ah loc H ρ s _ _ p h r fun vs bp aV ys s' a9 am bU len st=>cU (aa3 am bU (by lia) a9 (q.after st)))
theorem Yc {a b:V}{f:Int→Int→Prop}(h:ii a b f):∃x y,a=.int x∧b=.int y∧f x y:=by
 induction a using V.casesOn with
 |int x=>induction b using V.casesOn with
  |int y=>exact⟨x,y,rfl,rfl,h⟩
  |_=>exact h.elim
 |_=>exact h.elim
theorem hj {a4:Type}{x:a4}{P:Prop}(h:(none:Option a4)=E x):P:=nomatch h
@[elab_as_elim] theorem k0 {a b:V}{f:Int→Int→Prop}{x:aj}{aA:aj→aj→Prop}(e:ii a b f)(bH:aN ρ h a x)(bm:aN ρ h b y)(k:∀i j t u,f i j→aA (.int i t) (.int j u)):aA x y:=by refine dB (Yc e) fun i j g=>?_;obtain rfl:=g.1;obtain rfl:=g.2.1;exact bH.fg fun t=>bm.fg fun u=>k _ _ t u g.2.2
theorem bz.ints {l:Nat}{xs:List Int}(am:bz P ρ H h)(ar:ρ[l]? =E a)(e:H[l]? =E (.ints xs)):
 ∃ys n,h.get? a=E (listOf ys.toArray n)∧IntsAre ys xs:=
 (am.at_ l _ a e ar).elim fun ob g=>dB (show∃ys n,ob=listOf ys.toArray n∧IntsAre ys xs from g.2.inv) fun ys n q=>⟨ys,n,q.1▸g.1,q.2⟩
theorem SV (is:List Int):∀t,IntsAre (canon t is) is:=List.rec (motive:=fun is=>∀t,IntsAre (canon t is) is) (fun _=>.nil) (fun _ _ aF t=>.cons _ _ (aF (t+1))) is
theorem bz.d5 {l:Nat}{xs:List Int}(am:bz P ρ H h)(ar:ρ[l]? =E a)(e:H[l]? =E (.d5 xs)):
 ∃ys n,h.get? a=E (listOf ys.toArray n)∧IntsAre ys xs:=
 (am.at_ l _ a e ar).elim fun ob g=>⟨_,_,(show ob=_ from g.2.inv)▸g.1,SV _ _⟩
theorem bz.list {l:Nat}{xs:List V}(am:bz P ρ H h)(ar:ρ[l]? =E a)(e:H[l]? =E (.list xs)):
 ∃ys n,h.get? a=E (listOf ys.toArray n)∧bJ ρ h xs ys:=
 (am.at_ l _ a e ar).elim fun ob g=>dB (show∃ys n,ob=listOf ys.toArray n∧bJ ρ h xs ys from g.2.inv) fun ys n q=>⟨ys,n,q.1▸g.1,q.2⟩
theorem bz.cA {l:Nat}{b:List Int}(am:bz P ρ H h)(ar:ρ[l]? =E a)(e:H[l]? =E (.cA b)):
 ∃ys,h.get? a=E (e5 ys)∧ys.size≤1000000∧dY ys=b:=
 (am.at_ l _ a e ar).elim fun ob g=>(show∃ys,ob=e5 ys∧_ from g.2.inv).elim fun ys q=>⟨ys,q.1▸g.1,q.2⟩
theorem bz.dict {l:Nat}(am:bz P ρ H h)(ar:ρ[l]? =E a)(e:H[l]? =E (.dict es n)):
 ∃xs,h.get? a=E (dictOf xs n)∧de P ρ h es xs∧(∀e∈es,bT 4 e.1=true)∧eD es:=
 (am.at_ l _ a e ar).elim fun ob g=>(show∃xs,ob=dictOf xs n∧_ from g.2.inv).elim fun xs q=>⟨xs,q.1▸g.1,q.2⟩
theorem bz.inst {l d:Nat}(am:bz P ρ H h)(ar:ρ[l]? =E a)(e:H[l]? =E (.inst d)):
 ∃c x,h.get? a=E (instObj c x)∧ρ[d]? =E x∧o1 c=true:=
 (am.at_ l _ a e ar).elim fun ob g=>dB (show∃c x,ob=instObj c x∧ρ[d]? =E x∧o1 c=true from g.2.inv) fun c x q=>⟨c,x,q.1▸g.1,q.2⟩
@[elab_as_elim] theorem EX {o:V}{x:aj}{K:Nat→Prop}{aA:aj→Prop}(c:AB o K)(r:aN ρ h o x)(k:∀l a,K l→ρ[l]? =E a→aA (.ref a)):aA x:=by
 induction o using V.casesOn with
 |ref l=>exact r.hl fun a e=>k l a c e
 |_=>exact ft c
section
variable {l:Nat}
theorem bz.mY {K:List (V×V)→Nat→Prop}(am:bz P ρ H h)(ar:ρ[l]? =E a)(c:Mine.mY H l K)
 (k:∀es n xs,H[l]? =E (.dict es n)→K es n→h.get? a=E (dictOf xs n)→de P ρ h es xs→(∀e∈es,bT 4 e.1=true)→eD es→G):G:=by
 unfold Mine.mY at c;generalize e:H[l]? =f7 at c
 induction f7 using ez with
 |none=>exact c.elim
 |some o=>induction o using an.casesOn with
  |dict es n=>exact(am.dict ar e).elim fun xs g=>k es n xs e c g.1 g.2.1 g.2.2.1 g.2.2.2
  |_=>exact c.elim
theorem bz.rH {K:Nat→Prop}(am:bz P ρ H h)(ar:ρ[l]? =E a)(c:Mine.rH H l K)(k:∀d C x,K d→h.get? a=E (instObj C x)→ρ[d]? =E x→o1 C=true→G):G:=by
 unfold Mine.rH at c;generalize e:H[l]? =f7 at c
 induction f7 using ez with
 |none=>exact c.elim
 |some o=>induction o using an.casesOn with
  |inst d=>exact dB (am.inst ar e) fun C x g=>k d C x c g.1 g.2.1 g.2.2
  |_=>exact c.elim
end
theorem isList (e:h.get? a=E (listOf ys.toArray n)):h.IsList a ys.toArray:=⟨_,e,rfl,n,rfl⟩
theorem jD.int {Q:bI}{K:aj→aQ→Prop}{i:Int}(q:jD P ρ s Q K)(am:bz P ρ H s.heap)(a9:Q (.int i) H)(n t:Nat):K (.int i t) {s with toks:=n}:=
 q _ H ρ _ _ a9 am (.int i t) .toks
theorem Sd {x n:Int}(h:x.natAbs<2^256)(aL:n≤1000):(Builtin.Int.intBits x:Int)+n≤2^27:=by have:=intBits_le h;lia
theorem VU {x y:Int}(h:0<y):x.fdiv y=x/y:=by rw[Qm _ (oK h)]
theorem V9 {x y:Int}(h:0<y):x.fmod y=x% y:=by rw[Int.fmod_eq_emod_of_nonneg _ (oK h)]
theorem log2_lt {y:Int}(bl:0<y)(h:y<2^1024):y.natAbs.log2<9000:=by obtain⟨n,rfl⟩:=jV (oK bl);rw[←show((2^1024:Nat):Int)=2^1024 from Int.natCast_pow 2 1024] at h;exact sJ ((Nat.log2_lt (oL (jd.mp bl))).mpr (jd.mp h)) (by decide)
theorem Rc {a b:V}{aA:V→V→Prop}(h:Ik a b H K)(hi:∀x y,K (.int (x+y)) H→aA (.int x) (.int y))
 (am:∀l m xs ys,H[l]? =E (.ints xs)→H[m]? =E (.ints ys)→cY (xs.length+ys.length≤1000000) (K (.ref H.length) (H++[.ints (xs++ys)]))→aA (.ref l) (.ref m)):aA a b:=by
 induction a using V.casesOn with
 |int x=>induction b using V.casesOn with
  |int y=>exact hi x y h
  |_=>exact h.elim
 |ref l=>induction b using V.casesOn with
  |ref m=>
   have k:=am l m;refine(?_:(match H[l]?,H[m]? with|some (.ints xs),E (.ints ys)=>cY (xs.length+ys.length≤1000000) (K (.ref H.length) (H++[.ints (xs++ys)]))|_,_=>False)→_) h
   clear h am hi;revert k;generalize H[l]? =eY;generalize H[m]? =dX;intro k h
   induction eY using ez with
   |none=>exact h.elim
   |some eY=>induction eY using an.casesOn with
    |«ints» xs=>induction dX using ez with
     |none=>exact h.elim
     |some dX=>induction dX using an.casesOn with
      |«ints» ys=>exact k xs ys rfl rfl h
      |_=>exact h.elim
    |_=>exact h.elim
  |_=>exact h.elim
 |_=>exact h.elim
theorem Sb {a b:V}{x:aj}{Q:bI}{K:aj→aQ→Prop}(h:IF op a b H Q)(am:bz w.params ρ H s.heap)
 (bH:aN ρ s.heap a x)(bm:aN ρ s.heap b y)(q:jD w.params ρ s Q K):wpAny (model O w) A (binaryOp op x y) K eX s:=by
 induction op using Qz with
 |Add=>
  refine Rc (aA:=fun a b=>aN ρ s.heap a x→aN ρ s.heap b y→_) h (fun i j h bH bm=>bH.fg fun t=>bm.fg fun u=>PySem.P.add_int (q.int am h _ _)) (fun l m xs ys aW aJ h bH bm=>?_) bH bm;refine bH.hl fun l ar=>bm.hl fun m hm=>dB (am.ints ar aW) fun vs n g=>dB (am.ints hm aJ) fun bX k fl=>nU h fun R Z=>?_;have DI:vs.length+bX.length≤sizeLine:=e3 (g.2.length▸fl.2.length▸R) (by decide);refine concat_meets ⟨_,g.1,rfl⟩ ⟨_,fl.1,rfl⟩ noFill_list_add seq_list_add PySem.F.slot_list_add PySem.F.entry_list_add (PySem.F.args_list_add_2 _ _)
   (list_addW l m vs.toArray bX.toArray n k none none #[] #[] (by simpa using DI)) ⟨g.1,fl.1,?_⟩
  rw[show vs.toArray++bX.toArray=(vs++bX).toArray by simp];exact wT am rfl (.ints (g.2.append fl.2)) Z q s.toks
 |Sub=>exact k0 h bH bm fun i j t u h=>PySem.P.sub_int (q.int am h _ _)
 |Mult=>exact k0 h bH bm fun i j t u h=>nU h fun aI h=>PySem.P.mul_int (q.int am h _ _) (aI.elim (fun c=>.of_right (intBits_le c)) fun c=>.of_left (intBits_le c))
 |FloorDiv=>exact k0 h bH bm fun i j t u h=>nU h fun aI h=>floordiv_int (sF aI.1) (by rw[VU aI.1];exact q.int am h _ _) (.inl (Qu (log2_lt aI.1 aI.2)))
 |Mod=>exact k0 h bH bm fun i j t u h=>nU h fun aI h=>mod_int' (sF aI) (by rw[V9 aI];exact q.int am h _ _)
 |LShift=>exact k0 h bH bm fun i j t u h=>nU h fun aI h=>lshift_int aI.1 (Sd aI.2.2 aI.2.1) (q.int am h _ _)
 |RShift=>exact k0 h bH bm fun i j t u h=>nU h fun aI h=>rshift_int aI (by rw[Qm _ (oK (Int.pow_pos (by decide)))];exact q.int am h _ _)
 |BitAnd=>exact k0 h bH bm fun i j t u h=>and_int (q.int am h _ _)
 |BitOr=>exact k0 h bH bm fun i j t u h=>or_int (q.int am h _ _)
 |Pow=>exact k0 h bH bm fun i j t u h=>nU h fun aI h=>pow_int_small aI.1 (by lia) aI.2.2 (q.int am h _ _)
 |MatMult=>exact ft h
 |Div=>exact ft h
 |BitXor=>exact ft h
theorem adU {l r:aY}{x y:aG}(ar:cV O w B C A I ay l x)(am:cV O w B C A I ay r y):cV O w B C A I ay (.BinOp l op r p) (.bin op x y):=
 fun ah loc H ρ s Q K h dZ q=>aaz (ar ah loc H ρ s _ _ h dZ fun a aq bP u s1 R bt eC bk=>
  am ah loc aq bP s1 _ _ R (dZ.step bk bt) fun b be cu v s2 Z cq jS ck=>cU (Sb Z cq (eC.mono ck.fU bt.di) jS ((q.after bk).after ck)))
theorem ad9 {x:aG}(he:cV O w B C A I ay e x):cV O w B C A I ay (.UnaryOp .USub e p) (.neg x):=
 fun ah loc H ρ s Q K h dZ q=>MZ (he ah loc H ρ s _ _ h dZ fun a aq bP u s1 R bt eC bk=>by
  change Ex a aq Q at R;unfold Ex at R
  split at R
  .exact eC.fg fun t=>cU (PySem.P.neg_int ((q.after bk).int bt R _ _))
  .exact R.elim)
theorem Bc {a:V}{x:aj}{Q:Bool→Prop}{K:Bool→aQ→Prop}(h:pD a H Q)(bH:aN ρ s.heap a x)
 (q:∀b,Q b→K b s):wpAny (model O w) A (truthy x) K eX s:=by
 unfold pD at h
 split at h
 .cases bH;exact truthy_none (q _ h)
 .cases bH;exact aX (q _ h)
 .exact bH.fg fun t=>PySem.P.truthy_int (q _ h)
 .exact h.elim
theorem aeb {x:aG}(he:cV O w B C A I ay e x):cV O w B C A I ay (.UnaryOp .Not e p) (.not x):=
 fun ah loc H ρ s Q K h dZ q=>MZ (he ah loc H ρ s _ _ h dZ fun a aq bP u s1 R bt eC bk=>
  cU (not_of (Bc R eC fun b az=>(q.after bk) _ aq bP _ s1 az bt (.bool _) (.refl _ _ _))))
theorem adR {f:aY}{r:List aY}{x y:aG}(he:cV O w B C A I ay e x)(hf:cV O w B C A I ay (.BoolOp .And (f::r) p) y):
 cV O w B C A I ay (.BoolOp .And (e::f::r) p) (.and x y):=
 fun ah loc H ρ s Q K h dZ q=>aaE (he ah loc H ρ s _ _ h dZ fun a aq bP u s1 R bt eC bk=>
  cU (Bc R eC fun b az=>by
   induction b using eo with
   |true=>exact hf ah loc aq bP s1 _ _ az (dZ.step bk bt) (q.after bk)
   |false=>exact q _ aq bP _ s1 az bt eC bk))
theorem aec {f:aY}{r:List aY}{x y:aG}(he:cV O w B C A I ay e x)(hf:cV O w B C A I ay (.BoolOp .Or (f::r) p) y):
 cV O w B C A I ay (.BoolOp .Or (e::f::r) p) (.or x y):=
 fun ah loc H ρ s Q K h dZ q=>aaM (he ah loc H ρ s _ _ h dZ fun a aq bP u s1 R bt eC bk=>
  cU (Bc R eC fun b az=>by
   induction b using eo with
   |true=>exact q _ aq bP _ s1 az bt eC bk
   |false=>exact hf ah loc aq bP s1 _ _ az (dZ.step bk bt) (q.after bk)))
theorem adW {op:BoolOp}{x:aG}(he:cV O w B C A I ay e x):cV O w B C A I ay (.BoolOp op [e] p) x:=he
theorem ad4 {a b:aY}{x y z:aG}(cW:ST O w B C A I ay t x)(aC:cV O w B C A I ay a y)(az:cV O w B C A I ay b z):
 cV O w B C A I ay (.IfExp t a b p) (.ite x y z):=
 fun ah loc H ρ s Q K h dZ q=>aaB (cW ah loc H ρ s _ _ h dZ fun c aq bP s1 R bt bk=>by
  induction c using eo with
  |true=>exact aC ah loc aq bP s1 _ _ R (dZ.step bk bt) (q.after bk)
  |false=>exact az ah loc aq bP s1 _ _ R (dZ.step bk bt) (q.after bk))
theorem afu {x:aG}(he:ST O w B C A I ay e x):ST O w B C A I ay (.UnaryOp .Not e p) (.not x):=
 fun ah loc H ρ s Q K h dZ q=>aaS (he ah loc H ρ s _ _ h dZ fun c aq bP s1 R bt bk=>q _ aq bP s1 R bt bk)
theorem aft {a b:aY}{x y z:aG}(cW:ST O w B C A I ay t x)(aC:ST O w B C A I ay a y)(az:ST O w B C A I ay b z):
 ST O w B C A I ay (.IfExp t a b p) (.ite x y z):=
 fun ah loc H ρ s Q K h dZ q=>aaR (cW ah loc H ρ s _ _ h dZ fun c aq bP s1 R bt bk=>by
  induction c using eo with
  |true=>exact aC ah loc aq bP s1 _ _ R (dZ.step bk bt) fun b be cu s2 Z cq ck=>q b be cu s2 Z cq (bk.trans ck)
  |false=>exact az ah loc aq bP s1 _ _ R (dZ.step bk bt) fun b be cu s2 Z cq ck=>q b be cu s2 Z cq (bk.trans ck))
theorem afq {f:aY}{r:List aY}{x y:aG}(he:ST O w B C A I ay e x)(hf:ST O w B C A I ay (.BoolOp .And (f::r) p) y):
 ST O w B C A I ay (.BoolOp .And (e::f::r) p) (.and x y):=
 fun ah loc H ρ s Q K h dZ q=>M6 (he ah loc H ρ s _ _ h dZ fun c aq bP s1 R bt bk=>by
  induction c using eo with
  |true=>exact hf ah loc aq bP s1 _ _ R (dZ.step bk bt) fun b be cu s2 Z cq ck=>q b be cu s2 Z cq (bk.trans ck)
  |false=>exact q _ aq bP s1 R bt bk)
theorem afv {f:aY}{r:List aY}{x y:aG}(he:ST O w B C A I ay e x)(hf:ST O w B C A I ay (.BoolOp .Or (f::r) p) y):
 ST O w B C A I ay (.BoolOp .Or (e::f::r) p) (.or x y):=
 fun ah loc H ρ s Q K h dZ q=>M7 (he ah loc H ρ s _ _ h dZ fun c aq bP s1 R bt bk=>by
  induction c using eo with
  |true=>exact q _ aq bP s1 R bt bk
  |false=>exact hf ah loc aq bP s1 _ _ R (dZ.step bk bt) fun b be cu s2 Z cq ck=>q b be cu s2 Z cq (bk.trans ck))
theorem afr {x:aG}(he:ST O w B C A I ay e x):ST O w B C A I ay (.BoolOp .And [e] p) x:=
 fun ah loc H ρ s Q K h dZ q=>M6 (he ah loc H ρ s _ _ h dZ fun c aq bP s1 R bt bk=>by
  induction c using eo with
  |true=>exact cU (isTrue_and_nil (q _ aq bP s1 R bt bk))
  |false=>exact q _ aq bP s1 R bt bk)
theorem afw {x:aG}(he:ST O w B C A I ay e x):ST O w B C A I ay (.BoolOp .Or [e] p) x:=
 fun ah loc H ρ s Q K h dZ q=>M7 (he ah loc H ρ s _ _ h dZ fun c aq bP s1 R bt bk=>by
  induction c using eo with
  |true=>exact q _ aq bP s1 R bt bk
  |false=>exact cU (isTrue_or_nil (q _ aq bP s1 R bt bk)))
noncomputable def aG.plain:aG→Bool
 |.not _=>false|.and _ _=>false|.or _ _=>false|.ite _ _ _=>false|.cmp _ _ _=>false
 |_=>true
noncomputable def CS:aY→Bool
 |.UnaryOp .Not _ _=>false|.BoolOp _ _ _=>false|.IfExp _ _ _ _=>false|.Compare _ _ _ _=>false
 |_=>true
theorem agM {G:Nat→Option V}{x:aG}(aS:x.plain=true){u:List an→bI→Prop}{K:Bool→List an→Prop}:
 iO C G loc x u H K=u H fun a aq=>pD a aq fun b=>K b aq:=by
 cases x<;>first|rfl|exact dW aS
theorem Yo (he:CS e=true)(I:Env)(lg:Sem aj):isTrue e I lg=(do let v←lg;standAt e.pos;holding [v] (truthy v)):=by
 induction e using jW with
 |UnaryOp op _ _=>cases op<;>first|rfl|exact dW he
 |BoolOp=>exact dW he
 |IfExp=>exact dW he
 |Compare=>exact dW he
 |_=>rfl
theorem afx {x:aG}(aS:x.plain=true)(he:CS e=true)(h:cV O w B C A I ay e x):ST O w B C A I ay e x:=
 fun ah loc H ρ s Q K co dZ q=>aaT (h ah loc H ρ s _ _ (agM aS▸co) dZ fun a aq bP u s1 R bt eC bk=>cU (Bc R eC fun b az=>q b aq bP s1 az bt bk)) (Yo he I _)
theorem KL {a:V}{x:aj}(e:rJ a=E b)(r:aN ρ h a x):plainIs x .none=true∧(x==cf)=b:=by cases r<;>obtain rfl:=cE e<;>exact⟨rfl,by first|rfl|(rw[beq_eq_false_iff_ne];intro q;cases q)⟩
section
open PySem.SeqAt
theorem Jo {f:V→V→Option Bool}{u:V}{c:Bool}{P:Prop}(e:gU f (v::vs) (u::cc)=E c)
 (h:∀p q,f v u=E p→gU f vs cc=E q→c=(p&&q)→P):P:=by
 unfold gU at e;revert e;generalize f v u=eY at h;generalize gU f vs cc=dX at h;intro e
 induction eY using ez with
 |none=>exact hj e
 |some p=>induction dX using ez with
  |none=>exact hj e
  |some q=>exact h p q rfl rfl (fc e).symm
structure ya (b1:aj→aj→Bool→Prop)(xs ys:List aj)(c:Bool)(e:Nat→Bool):Prop where
 at_:∀j (R:j<xs.length) (Z:j<ys.length),b1 xs[j] ys[j] (e j)
 all:((List.range (min xs.length ys.length)).all e&&xs.length==ys.length)=c
theorem ya.cons {b1:aj→aj→Bool→Prop}{x:aj}{p c:Bool}{g:Nat→Bool}(a:b1 x y p)(h:ya b1 xs ys c g):ya b1 (x::xs) (y::ys) (p&&c) fun j=>Nat.casesOn j p g:=by
 refine⟨fun j R Z=>?_,?_⟩
 .induction j using h8 with
  |zero=>exact a
  |succ j=>exact h.1 j (xS R) (xS Z)
 .rw[←h.2,List.length_cons,List.length_cons,Nat.succ_min_succ,List.range_succ_eq_map,List.all_cons,List.all_map];have:(xs.length+1==ys.length+1)=(xs.length==ys.length):=by rw[uT,beq_iff_eq,beq_iff_eq];exact⟨lY,congrArg _⟩
  rw[this,←Bool.and_assoc];rfl
theorem Jp {f:V→V→Option Bool}{b1:aj→aj→Bool→Prop}:∀{cc:List V} {xs ys:List aj} {c:Bool},gU f vs cc=E c→bJ ρ h vs xs→bJ ρ h cc ys→
 (∀v u x y k,f v u=E k→aN ρ h v x→aN ρ h u y→b1 x y k)→∃e:Nat→Bool,ya b1 xs ys c e:=by
 induction vs with
 |nil=>
  intro cc xs ys c e bH bm _;refine bH.iJ ⟨fun _=>true,fun j R _=>absurd R (xT _),?_⟩
  induction cc using List.casesOn with
  |nil=>exact bm.iJ (cE e)
  |cons _ _=>exact bm.gS fun _ _ _ _=>cE e
 |cons v vs aF=>
  intro cc xs ys c e bH bm hf;refine bH.gS fun x xs a r=>?_
  induction cc using List.casesOn with
  |nil=>exact bm.iJ ⟨fun _=>true,fun j _ Z=>absurd Z (xT _),cE e⟩
  |cons u bX=>exact bm.gS fun y ys b t=>Jo e fun p q aW aJ cI=>cI▸(aF aJ r t hf).elim fun g b5=>⟨_,b5.cons (hf _ _ _ _ _ aW a b)⟩
theorem bJ.length (r:bJ ρ h vs xs):vs.length=xs.length:=
 bJ.rec (motive_1:=fun _ _ _=>True) (motive_2:=fun vs xs _=>vs.length=xs.length) trivial (fun _=>trivial) (fun _ _=>trivial) (fun _ _ _=>trivial) (fun _ _ _=>trivial) (fun _ _ _=>trivial) (fun _=>trivial) rfl (fun _ _ _ b=>congrArg (· +1) b) r
theorem zC {is:List Int}(r:IntsAre ys is):bJ ρ h (is.map .int) ys:=
 IntsAre.rec (motive:=fun ys is _=>bJ ρ h (is.map .int) ys) .nil (fun i t {_ _} _ k=>.cons (.int i t) k) r
theorem y5 {f:V→V→Option Bool}:∀{cc:List V} {xs:List aj} {c:Bool},gU f vs cc=E c→bJ ρ h vs xs→bJ ρ h cc xs→
 (∀v u x k,f v u=E k→aN ρ h v x→aN ρ h u x→k=true)→c=true:=by
 induction vs with
 |nil=>
  intro cc xs c e bH;refine bH.iJ fun bm _=>?_
  induction cc using List.casesOn with
  |nil=>exact(cE e).symm
  |cons _ _=>exact nomatch bm
 |cons v vs aF=>
  intro cc xs c e bH bm hf
  induction cc using List.casesOn with
  |nil=>exact bH.gS (aA:=fun xs=>bJ ρ h [] xs→c=true) (fun _ _ _ _ bm=>nomatch bm) bm
  |cons u bX=>exact bH.gS (aA:=fun xs=>bJ ρ h (u::bX) xs→c=true) (fun y ys a r bm=>dB bm.inv fun z zs q=>by obtain rfl:=(List.cons.inj q.1).1;obtain rfl:=(List.cons.inj q.1).2;exact Jo e fun p N7 aW aJ cI=>by rw[cI,hf _ _ _ _ aW a q.2.1,aF aJ r q.2.2 hf];rfl) bm
inductive mS (H:List an)(l:Nat):List V→Prop
 |ol (x:List V):H[l]? =E (.list x)→mS H l x
 |w0 (x:List Int):H[l]? =E (.ints x)→mS H l (x.map .int)
noncomputable def CV (a b:V):Option Bool:=match a,b with|.int x,.int y=>E (decide (x=y))|_,_=>dk
theorem Jn {u:V}{k:Bool}{aA:V→V→Bool→Prop}(e:CV v u=E k)(f:∀i j,aA (.int i) (.int j) (decide (i=j))):aA v u k:=by
 cases v<;>first|exact hj e|(cases u<;>first|exact hj e|exact fc e▸f _ _)
theorem Uz (xs:List Int):∀ys:List Int,gU CV (xs.map .int) (ys.map .int)=E (decide (xs=ys)):=by
 induction xs with
 |nil=>intro ys;cases ys<;>rfl
 |cons x xs aF=>
  intro ys
  induction ys using List.casesOn with
  |nil=>rfl
  |cons y ys=>rw[List.map_cons,List.map_cons,gU,aF ys];exact congrArg E (by rw[uT,fH,decide_eq_true_eq,decide_eq_true_eq,decide_eq_true_eq,List.cons.injEq])
inductive sR (H:List an)(n:Nat):(V→V→Option Bool)→Prop
 |j4:sR H n CV
 |iY:sR H n (e7 H n)
theorem UB {l:Nat}{c:Bool}{P:Prop}(e:e7 H (n+1) (.ref l) (.ref m)=E c)
 (h:∀f x y,sR H n f→mS H l x→mS H m y→gU f x y=E c→P):P:=by
 have cL:(match H[l]?,H[m]? with
  |some (.ints x),E (.ints y)=>E (decide (x=y))
  |some (.list x),E (.list y)=>gU (e7 H n) x y
  |some (.list x),E (.ints y)=>gU (e7 H n) x (y.map .int)
  |some (.ints x),E (.list y)=>gU (e7 H n) (x.map .int) y
  |_,_=>dk)=E c:=e
 have R:=fun x=>@mS.ol H l x;have Z:=fun x=>@mS.w0 H l x;have bv:=fun x=>@mS.ol H m x;have cZ:=fun x=>@mS.w0 H m x;clear e;revert R Z bv cZ cL;generalize H[l]? =eY;generalize H[m]? =dX;intro e R Z bv cZ
 induction eY using ez with
 |none=>exact hj e
 |some eY=>induction dX using ez with
  |none=>cases eY<;>exact hj e
  |some dX=>
   induction eY using an.casesOn with
   |«list» x=>induction dX using an.casesOn with
    |«list» y=>exact h _ _ _ .iY (R _ rfl) (bv _ rfl) e
    |«ints» y=>exact h _ _ _ .iY (R _ rfl) (cZ _ rfl) e
    |_=>exact hj e
   |«ints» x=>induction dX using an.casesOn with
    |«list» y=>exact h _ _ _ .iY (Z _ rfl) (bv _ rfl) e
    |«ints» y=>exact h _ _ _ .j4 (Z _ rfl) (cZ _ rfl) ((Uz _ _).trans e)
    |_=>exact hj e
   |_=>exact hj e
theorem Js {a b:V}{c:Bool}{aA:V→V→Bool→Prop}(e:e7 H (n+1) a b=E c)(bl:aA .none .none true)(az:∀p q,aA (.bool p) (.bool q) (p==q))
 (hi:∀p q,aA (.int p) (.int q) (decide (p=q)))(aE:∀p q,aA (.str p) (.str q) (c1 p q))(ct:∀p q,aA (.bytes p) (.bytes q) (decide (p=q)))
 (cW:∀p q c,gU (e7 H n) p q=E c→aA (.tup p) (.tup q) c)(R:∀q,aA .none (.tup q) false)(Z:∀p,aA (.tup p) .none false)
 (am:∀l m f x y c,sR H n f→mS H l x→mS H m y→gU f x y=E c→aA (.ref l) (.ref m) c):aA a b c:=by
 induction a using V.casesOn with
 |none=>induction b using V.casesOn with
  |none=>exact fc e▸bl
  |tup q=>exact fc e▸R q
  |_=>exact hj e
 |bool p=>induction b using V.casesOn with
  |bool q=>exact fc e▸az p q
  |_=>exact hj e
 |int p=>induction b using V.casesOn with
  |int q=>exact fc e▸hi p q
  |_=>exact hj e
 |str p=>induction b using V.casesOn with
  |str q=>exact fc e▸aE p q
  |_=>exact hj e
 |bytes p=>induction b using V.casesOn with
  |bytes q=>exact fc e▸ct p q
  |_=>exact hj e
 |tup p=>induction b using V.casesOn with
  |tup q=>exact cW p q _ e
  |none=>exact fc e▸Z p
  |_=>exact hj e
 |ref l=>induction b using V.casesOn with
  |ref m=>exact UB e fun f x y R Z bv cZ=>am l m f x y c R Z bv cZ
  |_=>exact hj e
 |aR=>exact hj e
theorem bz.seq {l:Nat}{xs:List V}(am:bz P ρ H h)(ar:ρ[l]? =E a)(e:mS H l xs):
 ∃ys n,h.get? a=E (listOf ys.toArray n)∧bJ ρ h xs ys:=by
 cases e with
 |ol x e=>exact am.list ar e
 |w0 x e=>exact(am.ints ar e).elim fun ys g=>g.elim fun n g=>⟨ys,n,g.1,zC g.2⟩
theorem eL.grow (k:∀b o,h.get? b=E o→h'.get? b=E o):eL ρ ρ h h':=⟨⟨[],(List.append_nil _).symm,fun _ h=>nomatch h⟩,fun a o e _ _=>k a o e⟩
theorem eL.but {b2:bj}(k:∀b o,b≠b2→h.get? b=E o→h'.get? b=E o)(hB:∀xs n,h.get? b2≠E (gN xs n)):eL ρ ρ h h':=
 ⟨⟨[],(List.append_nil _).symm,fun _ h=>nomatch h⟩,fun a o e _ hd=>k a o (fun q=>hd.elim fun xs g=>g.elim fun n g=>hB xs n (by rw[←q,e,g])) e⟩
theorem bz.same (x:bz P ρ H h)(aB:∀a∈ρ,∀o,h.get? a=E o→h'.get? a=E o)(p:eL ρ ρ h h'):bz P ρ H h':=
 x.other (fun a aC=>(x.lt aC).elim fun o e=>(aB a aC o e).trans e.symm) p
theorem bz.grow (x:bz P ρ H h)(k:∀b o,h.get? b=E o→h'.get? b=E o):bz P ρ H h':=x.same (fun a _ o e=>k a o e) (.grow k)
theorem EK {xs:Array aj}(ax:h.get? a=E (seqObj "list" xs n))(ys:List aj)(m:Nat):h.get? a≠E (gN ys m):=fun e=>by rw[ax] at e;exact absurd (congrArg Obj.cls (fc e)) (by simp)
theorem ZC (aW:h.get? a=E (listOf xs.toArray n))(aJ:h.get? a=E (listOf ys.toArray m)):xs=ys:=by rw[aW] at aJ;have:=(Obj.mk.inj (fc aJ)).2.2.1;simp at this;exact this.1
theorem abh {a b:Array UInt8}(h:dY a=dY b):a=b:=by
 apply Array.ext';unfold dY at h;have inj:Function.Injective fun u:UInt8=>(u.toNat:Int):=fun x y e=>UInt8.toNat_inj.mp (by have:(x.toNat:Int)=y.toNat:=e;lia);exact List.map_inj_right (fun x y e=>inj e)|>.mp h
theorem F8 (aW:h.get? a=E (gN xs n))(aJ:h.get? a=E (gN ys m)):xs=ys:=by rw[aW] at aJ;have:=(Obj.mk.inj (fc aJ)).2.2.1;simp at this;exact this.1
theorem UC (am:bz P ρ H h)(n:Nat):∀(a b:V) (x:aj) (c:Bool),e7 H n a b=E c→aN ρ h a x→aN ρ h b x→c=true:=by
 induction n with
 |zero=>intro a b x c e;exact c5 e
 |succ n aF=>
  intro a b x c e bH bm;have bH:=bH.inv;have bm:=bm.inv;revert bH bm;refine Js (aA:=fun a b c=>yx ρ h a x→yx ρ h b x→c=true) e (fun _ _=>rfl) ?_ ?_ ?_ ?_ ?_ ?_ ?_ ?_
  .exact fun p q bH bm=>beq_iff_eq.mpr (Value.bool.inj ((show x=_ from bH).symm.trans bm))
  .exact fun p q bH bm=>bH.elim fun t e=>bm.elim fun u cL=>decide_eq_true (Value.int.inj (e.symm.trans cL)).1
  .exact fun p q bH bm=>dB bH fun y t e=>dB bm fun z u cL=>Nat.beq_eq.mpr (e.2.2.symm.trans ((congrArg a7 (Value.str.inj (e.1.symm.trans cL.1)).1).trans cL.2.2))
  .exact fun p q bH bm=>dB bH fun y t e=>dB bm fun z u cL=>decide_eq_true (e.2.2.symm.trans ((congrArg dY (Value.bytes.inj (e.1.symm.trans cL.1)).1).trans cL.2.2))
  .exact fun p q c e bH bm=>mb bH fun a xs n g=>mb bm fun b ys m fl=>by obtain rfl:=BL (g.1.symm.trans fl.1);exact y5 e g.2.2 (F8 g.2.1 fl.2.1▸fl.2.2) aF
  .exact fun q bH bm=>mb bm fun b ys m fl=>q8 ((show x=_ from bH).symm.trans fl.1)
  .exact fun q bH bm=>mb bH fun b ys m fl=>q8 (fl.1.symm.trans (show x=_ from bm))
  .intro l m f u v c hf s1 s2 e bH bm;refine bH.elim fun a g=>bm.elim fun b fl=>?_;obtain rfl:=BL (g.1.symm.trans fl.1);refine dB (am.seq g.2 s1) fun ys n k=>dB (am.seq fl.2 s2) fun zs n eA=>y5 e k.2 (ZC k.1 eA.1▸eA.2) ?_
   induction hf using sR.casesOn with
   |j4=>exact fun v u x k e=>Jn (aA:=fun v u k=>aN ρ h v x→aN ρ h u x→k=true) e fun i j bH bm=>bH.int_inv.elim fun t e=>bm.int_inv.elim fun u cL=>decide_eq_true (Value.int.inj (e.symm.trans cL)).1
   |iY=>exact aF
theorem IL (a b:Array UInt8):(a.toList==b.toList)=decide (dY a=dY b):=by rw[uT,beq_iff_eq,decide_eq_true_eq];exact⟨fun h=>by unfold dY;rw[h],fun h=>by rw[abh h]⟩
theorem Ob (a:Array UInt8)(t:Tok)(b:Array UInt8)(u:Tok):RcAt A s (.bytes a t) (.bytes b u) (decide (dY a=dY b)):=fun O w b1 Q h=>by have:=@eq_bytes O w A b1 s a b t u Q (by rw[IL];exact h);exact this
theorem acI (a:Array UInt8)(t:Tok)(b:Array UInt8)(u:Tok):RcNeAt A s (.bytes a t) (.bytes b u) (!decide (dY a=dY b)):=fun O w b1 Q h=>by
 have:=@ne_bytes O w A b1 s a b t u Q (by
  have e:(a.toList !=b.toList)= !decide (dY a=dY b):=by rw[←IL];rfl
  rw[e];exact h)
 exact this
theorem T3 (a:Array UInt8)(t:Tok)(b:Array UInt8)(u:Tok):EqAt A s (.bytes a t) (.bytes b u) (decide (dY a=dY b)):=fun O w b1 Q h=>by
 unfold eqBool;refine ga<|oO (fun J5=>?_) (fun _=>?_)
 .have e:=eq_of_beq J5;cases e;exact ae (iv (aX (by simpa using h)))
 .exact ae (Ob a t b u O w b1 _ (BC h))
theorem isTup (e:h.get? a=E (gN xs n)):h.IsTuple a xs.toArray:=⟨_,e,rfl,n,rfl⟩
theorem ZG {f:V→V→Option Bool}{l m:bj}{i:Nat}{c:Bool}(aW:s.heap.get? l=E (listOf xs.toArray i))(aJ:s.heap.get? m=E (listOf ys.toArray j))
 (e:gU f vs cc=E c)(cJ:bJ ρ s.heap vs xs)(dx:bJ ρ s.heap cc ys)(bx:A.units<cLine)
 (hf:∀v u x y k,f v u=E k→aN ρ s.heap v x→aN ρ s.heap u y→EqAt A.in1 s x y k):RcAt A s (.ref l) (.ref m) c∧RcNeAt A s (.ref l) (.ref m) (!c):=by
 obtain⟨g,g1,bL⟩:=Jp (b1:=EqAt A.in1 s) e cJ dx hf
 by_cases ar:xs.length=ys.length
 .rw[ar,Nat.min_self,beq_self_eq_true,xF] at bL;have g3:∀j (R:j<xs.toArray.size) (Z:j<ys.toArray.size),EqAt A.in1 s xs.toArray[j] ys.toArray[j] (g j):=fun j R Z=>by simpa using g1 j (by simpa using R) (by simpa using Z)
  have q1:=RcAt.lists (isList aW) (isList aJ) (by simpa using ar) bx g3;have xC:=RcNeAt.lists (isList aW) (isList aJ) (by simpa using ar) bx g3;rw[List.size_toArray,ar,bL] at q1 xC;exact⟨q1,xC⟩
 .have:c=false:=by rw[←bL,beq_eq_false_iff_ne.mpr ar,jc]
  subst this;exact⟨RcAt.lists_lengths (isList aW) (isList aJ) (by simpa using ar) bx,RcNeAt.lists_lengths (isList aW) (isList aJ) (by simpa using ar) bx⟩
theorem PM {f:V→V→Option Bool}{l m:bj}{i:Nat}{c:Bool}(aW:s.heap.get? l=E (gN xs i))(aJ:s.heap.get? m=E (gN ys j))
 (e:gU f vs cc=E c)(cJ:bJ ρ s.heap vs xs)(dx:bJ ρ s.heap cc ys)(bx:A.units<cLine)
 (hf:∀v u x y k,f v u=E k→aN ρ s.heap v x→aN ρ s.heap u y→EqAt A.in1 s x y k):RcAt A s (.ref l) (.ref m) c∧RcNeAt A s (.ref l) (.ref m) (!c):=by
 obtain⟨g,g1,bL⟩:=Jp (b1:=EqAt A.in1 s) e cJ dx hf;have g3:∀j (R:j<xs.toArray.size) (Z:j<ys.toArray.size),EqAt A.in1 s xs.toArray[j] ys.toArray[j] (g j):=fun j R Z=>by simpa using g1 j (by simpa using R) (by simpa using Z)
 have q1:=RcAt.tuples (isTup aW) (isTup aJ) bx g3;have xC:=RcNeAt.tuples (isTup aW) (isTup aJ) bx g3;rw[List.size_toArray,List.size_toArray,bL] at q1 xC;exact⟨q1,xC⟩
theorem AV {x y:Str}(aS:fY x=true)(ct:fY y=true):(x==y)=c1 (a7 x) (a7 y):=by rw[uT,beq_iff_eq];exact⟨fun h=>by rw[h];exact pJ _,fun h=>E6 aS ct (fO h)⟩
theorem zz (bx:A.units+(n+1)<cLine):A.in1.units+n<cLine:=by show A.units+1+n<cLine;lia
structure kq (A:fu)(s:aQ)(x y:aj)(c:Bool):Prop where
 mk'::
 all:EqAt A s x y c∧RcAt A s x y c∧RcNeAt A s x y (!c)
theorem kq.mk {x:aj}{c:Bool}(R:EqAt A s x y c)(Z:RcAt A s x y c)(bv:RcNeAt A s x y (!c)):kq A s x y c:=⟨R,Z,bv⟩
theorem kq.refs {l m:bj}{c:Bool}(h:RcAt A s (.ref l) (.ref m) c∧RcNeAt A s (.ref l) (.ref m) (!c))(same:l=m→c=true):kq A s (.ref l) (.ref m) c:=
 .mk (by
  by_cases wi:l=m
  .rw[same wi,wi];exact EqAt.same _
  .exact .of_refs wi h.1) h.1 h.2
theorem UA (am:bz P ρ H s.heap)(n:Nat):∀(A:fu) (a b:V) (x y:aj) (c:Bool),e7 H n a b=E c→aN ρ s.heap a x→aN ρ s.heap b y→
 A.units+n<cLine→kq A s x y c:=by
 induction n with
 |zero=>intro A a b x y c e;exact hj e
 |succ n aF=>
  intro A a b x y c e bH bm bx;have hO:A.units<cLine:=mK (sH _ _) bx;have hf:∀v u x y k,e7 H n v u=E k→aN ρ s.heap v x→aN ρ s.heap u y→EqAt A.in1 s x y k:=fun v u x y k aW cJ dx=>(aF _ v u x y k aW cJ dx (zz bx)).1.1;have same:x=y→c=true:=fun q=>UC am (n+1) a b x c e bH (q▸bm);clear aF;revert bH bm same;refine Js (aA:=fun a b c=>aN ρ s.heap a x→aN ρ s.heap b y→(x=y→c=true)→kq A s x y c) e ?_ ?_ ?_ ?_ ?_ ?_ ?_ ?_ ?_
  .exact fun bH bm _=>bH.t7 (bm.t7 (.mk (EqAt.same _) RcAt.none_none RcNeAt.none_none))
  .exact fun p q bH bm _=>bH.IJ (bm.IJ (.mk (EqAt.bool_bool _ _) (RcAt.bool_bool _ _) (RcNeAt.bool_bool _ _)))
  .exact fun p q bH bm _=>bH.fg fun t=>bm.fg fun u=>.mk (EqAt.int_int _ _ _ _) (RcAt.int_int _ _ _ _) (RcNeAt.int_int _ _ _ _)
  .exact fun p q bH bm _=>bH.oz (aA:=fun p x=>kq A s x y (p.beq q)) fun p t a8=>bm.oz (aA:=fun q y=>kq A s (.str p t) y ((a7 p).beq q)) fun q u a9=>
    AV a8 a9▸.mk (EqAt.str_str _ _ _ _) (RcAt.str_str _ _ _ _) (RcNeAt.str_str _ _ _ _)
  .exact fun p q bH bm _=>bH.o0 (aA:=fun p x=>kq A s x y (decide (p=q))) fun p t a8=>bm.o0 (aA:=fun q y=>kq A s (.bytes p t) y (decide (dY p=q))) fun q u a9=>
    .mk (T3 _ _ _ _) (Ob _ _ _ _) (acI _ _ _ _)
  .exact fun p q c e bH bm same=>bH.gM (aA:=fun x=>(x=y→c=true)→kq A s x y c) (fun l xs n aW cJ same=>bm.gM (aA:=fun y=>(gO l=y→c=true)→kq A s (.ref l) y c) (fun m ys k aJ dx same=>.refs (PM aW aJ e cJ dx hO hf) fun q=>same (congrArg _ q)) same) same
  .exact fun q bH bm _=>bH.t7 (bm.gM fun _ _ _ aJ _=>.mk (EqAt.none_tuple (isTup aJ) hO) (RcAt.none_tuple (isTup aJ) hO) (RcNeAt.none_tuple (isTup aJ) hO))
  .exact fun q bH bm _=>bm.t7 (bH.gM fun _ _ _ aJ _=>.mk (EqAt.tuple_none (isTup aJ) hO) (RcAt.tuple_none (isTup aJ) hO) (RcNeAt.tuple_none (isTup aJ) hO))
  .intro l m f u v c b5 s1 s2 e bH bm same;refine bH.hl (aA:=fun x=>(x=y→c=true)→kq A s x y c) (fun Mh aW same=>bm.hl (aA:=fun y=>(gO Mh=y→c=true)→kq A s (.ref Mh) y c) (fun rS aJ same=>?_) same) same;refine .refs (dB (am.seq aW s1) fun ys n g=>dB (am.seq aJ s2) fun zs k fl=>ZG g.1 fl.1 e g.2 fl.2 hO ?_) fun q=>same (congrArg _ q)
   induction b5 using sR.casesOn with
   |j4=>exact fun v u x y k e=>Jn (aA:=fun v u k=>aN ρ s.heap v x→aN ρ s.heap u y→EqAt A.in1 s x y k) e fun i j bH bm=>bH.fg fun t=>bm.fg fun u=>EqAt.int_int _ _ _ _
   |iY=>exact hf
theorem Jr (am:bz P ρ H s.heap)(n:Nat)(A:fu)(a b:V)(x y:aj)(c:Bool)(e:e7 H n a b=E c)(bH:aN ρ s.heap a x)(bm:aN ρ s.heap b y)
 (bx:A.units+n<cLine):EqAt A s x y c∧RcAt A s x y c∧RcNeAt A s x y (!c):=(UA am n A a b x y c e bH bm bx).1
end
section
theorem hA {P:Prop}(h:false=true):P:=nomatch h
theorem YW {f:V→V→Bool}{aA:List V→List V→Prop}(bl:aA [] [])(R:∀a r b t,f a b=true→aA r t→aA (a::r) (b::t)){xs:List V}:∀{ys:List V},iH f xs ys=true→aA xs ys:=by
 induction xs with
 |nil=>intro ys h;induction ys using List.casesOn with
  |nil=>exact bl
  |cons=>exact hA h
 |cons a r aF=>intro ys h;induction ys using List.casesOn with
  |nil=>exact hA h
  |cons b t=>have h:=(gC).mp h;exact R _ _ _ _ h.1 (aF h.2)
theorem YX {f:V→V→Bool}{xs ys:List V}(hf:∀a b,f a b=true→a=b)(h:iH f xs ys=true):xs=ys:=
 YW (aA:=fun x y=>x=y) rfl (fun a r b t h e=>by rw[hf a b h,e]) h
theorem wE (n:Nat):∀(a b:V),bn n a b=true→a=b:=by
 induction n with
 |zero=>
  intro a b h
  induction a using V.casesOn with
  |int i=>induction b using V.casesOn with
   |int j=>exact congrArg _ (of_decide_eq_true h)
   |_=>exact hA h
  |str i=>induction b using V.casesOn with
   |str j=>exact congrArg _ (fO h)
   |_=>exact hA h
  |_=>cases b<;>exact hA h
 |succ n aF=>
  intro a b h
  induction a using V.casesOn with
  |int i=>induction b using V.casesOn with
   |int j=>exact congrArg _ (of_decide_eq_true h)
   |_=>exact hA h
  |str i=>induction b using V.casesOn with
   |str j=>exact congrArg _ (fO h)
   |_=>exact hA h
  |tup x=>induction b using V.casesOn with
   |tup y=>exact congrArg _ (YX aF h)
   |_=>exact hA h
  |_=>cases b<;>exact hA h
theorem mi {a:V}{aA:Nat→V→Prop}(h:bT n a=true)(hi:∀n i,aA n (.int i))(aE:∀n c,aA n (.str c))(cW:∀m vs,vs.all (bT m)=true→aA (m+1) (.tup vs)):aA n a:=by
 induction a using V.casesOn with
 |int i=>exact hi _ i
 |str c=>exact aE _ c
 |tup vs=>induction n using h8 with
  |zero=>exact hA h
  |succ m=>exact cW m vs h
 |_=>cases n<;>exact hA h
theorem KJ {a:V}(h:bT n a=true):(∃i,a=.int i)∨(∃c,a=.str c)∨∃m vs,n=m+1∧a=.tup vs∧vs.all (bT m)=true:=
 mi (aA:=fun n a=>(∃i,a=.int i)∨(∃c,a=.str c)∨∃m vs,n=m+1∧a=.tup vs∧vs.all (bT m)=true) h (fun _ i=>.inl ⟨i,rfl⟩) (fun _ c=>.inr (.inl ⟨c,rfl⟩)) fun m vs h=>.inr (.inr ⟨m,vs,rfl,rfl,h⟩)
def zY (n:Nat)(a b:V):Option Bool:=if(bT n a&&bT n b)=true then E (bn n a b) else dk
theorem D4 {a b:V}{c:Bool}{aA:Bool→Prop}(e:zY n a b=E c)(h:bT n a=true→bT n b=true→aA (bn n a b)):aA c:=by
 unfold zY at e
 by_cases k:(bT n a&&bT n b)=true
 .rw[if_pos k] at e;exact fc e▸h (gC.mp k).1 (gC.mp k).2
 .rw[if_neg k] at e;exact hj e
theorem Jq {xs:List V}:∀{ys:List V},xs.all (bT n)=true→ys.all (bT n)=true→gU (zY n) xs ys=E (iH (bn n) xs ys):=by
 induction xs with
 |nil=>intro ys _ _;cases ys<;>rfl
 |cons a r aF=>
  intro ys aS ct
  induction ys using List.casesOn with
  |nil=>rfl
  |cons b t=>have aS:=gC.mp aS;have ct:=gC.mp ct;rw[gU,aF aS.2 ct.2,zY,aS.1,ct.1];rfl
theorem Mb (n:Nat)(i j:Int):bn n (.int i) (.int j)=decide (i=j):=by cases n<;>rfl
theorem Mc (n:Nat)(i j:Nat):bn n (.str i) (.str j)=c1 i j:=by cases n<;>rfl
theorem YY (n:Nat)(i:Int)(j:Nat):bn n (.int i) (.str j)=false:=by cases n<;>rfl
theorem YZ (n:Nat)(i:Int)(j:Nat):bn n (.str j) (.int i)=false:=by cases n<;>rfl
theorem L4 (n:Nat):∀(a b:V) (x:aj),bT n a=true→bT n b=true→aN ρ h a x→aN ρ h b x→bn n a b=true:=by
 have step:∀n,(∀m,n=m+1→∀(a b:V) (x:aj),bT m a=true→bT m b=true→aN ρ h a x→aN ρ h b x→bn m a b=true)→∀(a b:V) (x:aj),bT n a=true→bT n b=true→aN ρ h a x→aN ρ h b x→bn n a b=true:=by
  intro n aF a b x aC az bH bm;revert aF b;refine mi (aA:=fun n a=>aN ρ h a x→(∀m,n=m+1→∀(a b:V) (x:aj),bT m a=true→bT m b=true→aN ρ h a x→aN ρ h b x→bn m a b=true)→∀b,bT n b=true→aN ρ h b x→bn n a b=true) aC ?_ ?_ ?_ bH
  .intro n i bH _ b az bm;exact bH.fg (aA:=fun x=>aN ρ h b x→bn n (.int i) b=true) (fun t bm=>by cases bm;rw[Mb];exact decide_eq_true rfl) bm
  .intro n c bH _ b az bm;exact bH.oz (aA:=fun c x=>aN ρ h b x→bn n (.str c) b=true) (fun y t _ bm=>by cases bm;rw[Mc];exact pJ _) bm
  .intro m vs qp bH aF b az bm;refine bH.gM (aA:=fun x=>aN ρ h b x→bn (m+1) (.tup vs) b=true) (fun a xs n aW cJ bm=>?_) bm;revert aW;generalize mc:gO a=y at bm;intro aW;refine mi (aA:=fun n b=>n=m+1→aN ρ h b y→bn (m+1) (.tup vs) b=true) az ?_ ?_ ?_ rfl bm
   .intro n i _ bm;cases bm;cases mc
   .intro n i _ bm;exact bm.oz (aA:=fun i y=>gO a=y→bn (m+1) (.tup vs) (.str i)=true) (fun y t _ e=>nomatch e) mc
   .intro rS cc DO em bm;refine bm.gM (aA:=fun y=>gO a=y→bn (m+1) (.tup vs) (.tup cc)=true) (fun ahb ys k aJ dx e=>?_) mc;cases em;cases e;exact y5 (Jq qp DO) cJ (F8 aW aJ▸dx) fun v u x k e cJ dx=>D4 (aA:=fun c=>c=true) e fun R Z=>aF m rfl v u x R Z cJ dx
 induction n with
 |zero=>exact step 0 fun m e=>nomatch e
 |succ n aF=>exact step _ fun m e=>lY e▸aF
open PySem.SeqAt in
theorem D5 (n:Nat):∀(A:fu) (a b:V) (x y:aj),bT n a=true→bT n b=true→aN ρ s.heap a x→aN ρ s.heap b y→A.units+n<cLine→EqAt A s x y (bn n a b):=by
 have step:∀(n:Nat),(∀m,n=m+1→∀(A:fu) (a b:V) (x y:aj),bT m a=true→bT m b=true→aN ρ s.heap a x→aN ρ s.heap b y→A.units+m<cLine→EqAt A s x y (bn m a b))→
  ∀(A:fu) (a b:V) (x y:aj),bT n a=true→bT n b=true→aN ρ s.heap a x→aN ρ s.heap b y→A.units+n<cLine→EqAt A s x y (bn n a b):=by
  intro n aF A a b x y aC az bH bm bx;have hO:A.units<cLine:=mK (sH _ _) bx;revert bx;revert az;revert aF;revert bH;refine mi (aA:=fun n a=>aN ρ s.heap a x→(∀m,n=m+1→∀(A:fu) (a b:V) (x y:aj),bT m a=true→bT m b=true→aN ρ s.heap a x→aN ρ s.heap b y→A.units+m<cLine→EqAt A s x y (bn m a b))→
   bT n b=true→A.units+n<cLine→EqAt A s x y (bn n a b)) aC ?_ ?_ ?_
  .intro n i bH _ az _;refine bH.fg ?_;intro t;refine mi (aA:=fun n b=>aN ρ s.heap b y→EqAt A s (.int i t) y (bn n (.int i) b)) az ?_ ?_ ?_ bm
   .intro n j bm;rw[Mb];refine bm.fg ?_;intro u;exact EqAt.int_int _ _ _ _
   .intro n j bm;rw[YY];exact bm.oz (aA:=fun _ y=>EqAt A s _ y false) fun y u _=>EqAt.int_str _ _ _ _
   .intro n vs _ bm;refine bm.gM ?_;intro m ys j aJ dx;exact EqAt.int_tuple _ _ (isTup aJ) hO
  .intro n c bH _ az _;refine bH.oz (aA:=fun c x=>EqAt A s x y (bn n (.str c) b)) fun p t a8=>mi (aA:=fun n b=>aN ρ s.heap b y→EqAt A s (.str p t) y (bn n (.str (a7 p)) b)) az ?_ ?_ ?_ bm
   .intro n j bm;rw[YZ];refine bm.fg ?_;intro u;exact EqAt.str_int _ _ _ _
   .intro n j bm;exact bm.oz (aA:=fun j y=>EqAt A s _ y (bn n (.str (a7 p)) (.str j))) fun q u a9=>by rw[Mc,←AV a8 a9];exact EqAt.str_str _ _ _ _
   .intro n vs _ bm;refine bm.gM ?_;intro m ys j aJ dx;exact EqAt.str_tuple _ _ (isTup aJ) hO
  .intro m vs qp bH aF az bx;refine bH.gM ?_;intro l xs i aW cJ;refine mi (aA:=fun n b=>n=m+1→aN ρ s.heap b y→EqAt A s (.ref l) y (bn (m+1) (.tup vs) b)) az ?_ ?_ ?_ rfl bm
   .intro n j _ bm;refine bm.fg ?_;intro u;exact EqAt.tuple_int _ _ (isTup aW) hO
   .intro n j _ bm;exact bm.oz (aA:=fun j y=>EqAt A s _ y (bn (m+1) (.tup vs) (.str j))) fun q u a9=>EqAt.tuple_str _ _ (isTup aW) hO
   .intro rS cc DO em bm;refine bm.gM ?_;intro tV ys j aJ dx;cases em;have e:=Jq qp DO;refine(kq.refs (PM aW aJ e cJ dx hO fun v u x y k e cJ dx=>D4 (aA:=fun c=>EqAt A.in1 s x y c) e fun R Z=>aF m rfl A.in1 v u x y R Z cJ dx (zz bx)) fun wi=>?_).1.1;subst wi;exact y5 e cJ (F8 aW aJ▸dx) fun v u x k e cJ dx=>D4 (aA:=fun c=>c=true) e fun R Z=>L4 m v u x R Z cJ dx
 induction n with
 |zero=>exact step 0 fun m e=>nomatch e
 |succ n aF=>exact step _ fun m e=>lY e▸aF
inductive B4 (P:db)(ρ:List bj)(n:Nat)(vs:List V)(s:aQ):List aj→Array Int→aQ→Prop
 |mk (done left:List V) (c2:List aj) (b:Array Int) (t:Nat):vs=done++left→bJ ρ s.heap left c2→left.all (bT n)=true→b.toList=done.map (h4 P n)→B4 P ρ n vs s c2 b {s with toks:=t}
theorem YU (P:db)(n:Nat)(i:Int):h4 P n (.int i)=hashInt i:=by cases n<;>rfl
theorem YV (P:db)(n:Nat){p:Str}(a8:fY p=true):h4 P n (.str (a7 p))=if p.cps.isEmpty=true then 0 else reduceHash (P.strHash p.cps):=by
 have:h4 P n (.str (a7 p))=if(tn (a7 p)).cps.isEmpty=true then 0 else reduceHash (P.strHash (tn (a7 p)).cps):=by cases n<;>rfl
 rw[this,I6 a8]
theorem L8 {c2:List aj}{b:Array Int}{done:List V}{t:Nat}(e:vs=done++k::aD)(ar:bJ ρ s.heap aD c2)
 (aB:aD.all (bT n)=true)(az:b.toList=done.map (h4 P n)):B4 P ρ n vs s c2 (b.push (h4 P n k)) {s with toks:=t}:=
 .mk (done++[k]) aD _ _ _ (by rw[e,List.append_assoc];rfl) ar aB (by rw[Array.toList_push,az,List.map_append];rfl)
theorem D2 (n:Nat):∀(A:fu) (a:V) (x:aj) (s:aQ) (Q:Int→aQ→Prop),bT n a=true→aN ρ s.heap a x→A.units+n<cLine→
 (∀t,Q (h4 w.params n a) {s with toks:=t})→wpAny (model O w) A (pyHash x) Q b1 s:=by
 have lm:∀(m:Nat) (A:fu) (x:aj) (s:aQ) (Q:Int→aQ→Prop),(∀i,aN ρ s.heap (.int i) x→(∀t,Q (h4 w.params m (.int i)) {s with toks:=t})→wpAny (model O w) A (pyHash x) Q b1 s)∧
  ∀c,aN ρ s.heap (.str c) x→(∀t,Q (h4 w.params m (.str c)) {s with toks:=t})→wpAny (model O w) A (pyHash x) Q b1 s:=by
  intro m A x s Q;refine⟨fun i r=>?_,fun c r=>?_⟩
  .refine r.fg ?_;intro t q;rw[YU] at q;exact wpAny_pyHash_int (q _)
  .refine r.oz (aA:=fun c x=>(∀t,Q (h4 w.params m (.str c)) {s with toks:=t})→wpAny (model O w) A (pyHash x) Q b1 s) fun p t a8 q=>?_
   rw[YV _ _ a8] at q;exact wpAny_pyHash_str (q _)
 induction n with
 |zero=>intro A a x s Q aC bH bx;exact mi (aA:=fun n a=>n=0→aN ρ s.heap a x→(∀t,Q (h4 w.params 0 a) {s with toks:=t})→wpAny (model O w) A (pyHash x) Q b1 s) aC (fun _ i _=>(lm 0 A x s Q).1 i) (fun _ c _=>(lm 0 A x s Q).2 c) (fun m vs _ e=>nomatch e) rfl bH
 |succ n aF=>
  intro A a x s Q aC bH bx;refine mi (aA:=fun m a=>m=n+1→aN ρ s.heap a x→(∀t,Q (h4 w.params (n+1) a) {s with toks:=t})→wpAny (model O w) A (pyHash x) Q b1 s) aC (fun _ i _=>(lm _ A x s Q).1 i) (fun _ c _=>(lm _ A x s Q).2 c) ?_ rfl bH
  intro m vs qp e r q;cases e;clear bH lm;revert q;refine r.gM ?_;intro l xs i aW cJ q;have cr:s.TypeIs (.ref l) "tuple":=⟨_,aW,rfl⟩;have aL:A.units<cLine:=mK (sH _ _) bx;unfold pyHash
  first|unfold pyHashByItsType|skip
  first|refine ae (wpAny_cRoomFor_or (.inr aL) ?_)|skip
  refine ae (iQ cr F.slot_tuple_hash.lookup ?_);refine(if_neg (by rw[beq_builtin_none];exact d7):(if(E (fC "tuple.__hash__")==E cf)=true then _ else _)=_)▸?_;refine ae (iQ cr F.slot_tuple_hash.lookup ?_);refine ae (wpAny_callSpecialIfBoundUnlessNone?_slot cr F.slot_tuple_hash (hp F.slot_tuple_hash cr F.entry_tuple_hash ?_ (F.args_tuple_hash_1 _)));refine(?_:wpAny _ _ (Builtin.Tuple.tupleItemsOf (.ref l)>>=_) _ _ s);refine ae (G2 aW rfl (ae ?_));rw[←Qf];refine u4 _ (B4 w.params ρ n vs s) _ ?_ ?_ _ _ (.mk [] vs _ _ _ rfl cJ qp rfl)
  .intro x c2 b s' hi;cases hi with|mk done left _ _ t e ar aB az=>
    cases ar with
    |@cons k _ Me _ R ly=>
     rw[List.all_cons,fH] at aB;refine ae (aF _ _ _ _ _ aB.1 R (zz bx) fun mB=>?_)
     first
      |exact aX (L8 e ly aB.2 az)
      |exact ae (aX (aX (L8 e ly aB.2 az)))
  .intro b s' hi;cases hi with|mk done left _ _ t e ar aB az=>
    cases ar;rw[List.append_nil] at e;subst e;refine(?_:wpAny _ _ (retInt (Builtin.Tuple.tupleHashOf b.toList)) _ _ _);replace q:∀t,Q (reduceHash (Builtin.Tuple.tupleHashOf (vs.map (h4 w.params n)))) {s with toks:=t}:=q
    rw[←az] at q;clear az;revert q;generalize Builtin.Tuple.tupleHashOf b.toList=z;intro q;refine wpAny_ret_mkInt ?_;refine(?_:wpAny _ _ (if(decide (-(2:Int)^63≤z)&&decide (z<2^63))=true then _ else _) Q b1 _);refine oO (fun am=>?_) (fun am=>?_)
    .unfold reduceHash at q;rw[if_pos am] at q;exact aX (q _)
    .unfold reduceHash at q;rw[if_neg am] at q;exact ae (iv (aX (q _)))
inductive H6 (ρ:List bj)(n:Nat)(s:aQ):List aj→aQ→Prop
 |mk (left:List V) (c2:List aj):bJ ρ s.heap left c2→left.all (bT n)=true→H6 ρ n s c2 s
theorem Oa (n:Nat):∀(m:Nat) (a:V) (x:aj) (s:aQ) (Q:Bool→aQ→Prop),bT n a=true→aN ρ s.heap a x→n≤m→Q true s→wpAny (model O w) A (eqIsQuiet m x) Q b1 s:=by
 have lm:∀(m:Nat) (x:aj) (s:aQ) (Q:Bool→aQ→Prop),Q true s→(∀i,aN ρ s.heap (.int i) x→wpAny (model O w) A (eqIsQuiet m x) Q b1 s)∧∀c,aN ρ s.heap (.str c) x→wpAny (model O w) A (eqIsQuiet m x) Q b1 s:=by
  intro m x s Q q;refine⟨fun i r=>?_,fun c r=>?_⟩
  .refine r.fg ?_;intro t;rw[eqIsQuiet_byValue m rfl];exact aX q
  .refine r.oz (aA:=fun c x=>wpAny (model O w) A (eqIsQuiet m x) Q b1 s) fun p t a8=>?_;rw[eqIsQuiet_byValue m rfl];exact aX q
 induction n with
 |zero=>intro m a x s Q aC bH _ q;exact mi (aA:=fun n a=>n=0→aN ρ s.heap a x→wpAny (model O w) A (eqIsQuiet m x) Q b1 s) aC (fun _ i _=>(lm m x s Q q).1 i) (fun _ c _=>(lm m x s Q q).2 c) (fun m vs _ e=>nomatch e) rfl bH
 |succ n aF=>
  intro m a x s Q aC bH hm q;refine mi (aA:=fun k a=>k=n+1→aN ρ s.heap a x→wpAny (model O w) A (eqIsQuiet m x) Q b1 s) aC (fun _ i _=>(lm m x s Q q).1 i) (fun _ c _=>(lm m x s Q q).2 c) ?_ rfl bH;intro k vs qp e r;cases e;clear bH lm;refine r.gM ?_;intro l xs i aW cJ;have cr:s.TypeIs (.ref l) "tuple":=⟨_,aW,rfl⟩
  induction m using h8 with
  |zero=>exact absurd hm (Bt _)
  |succ m=>
   unfold eqIsQuiet;refine ae (iQ cr F.slot_tuple_eq.lookup ?_);refine(?_:wpAny _ _ (isInstance (.ref l) (.type "tuple")>>=_) _ _ s);refine ae (pL cr isSubtype_tuple_tuple (ae (G1 aW rfl (ae ?_))));refine(?_:wpAny _ _ (forIn xs.toArray _ _) _ _ s);rw[←Qf];refine u4 _ (fun c2 r s'=>r.1=none∧H6 ρ n s c2 s') _ ?_ ?_ _ _ ⟨rfl,.mk vs _ cJ qp⟩
   .intro v c2 r s' hi;have am:=hi.1;cases hi.2 with|mk left _ ar aB=>cases ar with
     |@cons k _ Me _ R ly=>rw[List.all_cons,fH] at aB;exact ae (aF m _ _ _ _ aB.1 R (xQ hm) (aX ⟨rfl,.mk Me _ ly aB.2⟩))
   .intro r s' hi;obtain⟨cJ,dx⟩:=r;cases hi.1;cases hi.2;exact aX q
end
section
open PySem.SeqAt
def H7 (A:fu)(s:aQ)(v:aj):Prop:=∀(O:hS) (w:eJ) (b1:aj→aQ→Prop) (Q:Bool→aQ→Prop),Q true s→wpAny (model O w) A (eqIsQuiet 8 v) Q b1 s
structure pU (A:fu)(s:aQ)(es:Array c3)(y:aj)(aL:Int)(dE:Nat→Bool):Prop where
 hash:∀(j:Nat) (e:c3),es[j]? =E e→dE j=true→e.hash=aL
 eq:∀(j:Nat) (e:c3),es[j]? =E e→EqAt A s e.key y (dE j)
 one:∀i j,i<es.size→j<es.size→dE i=true→dE j=true→i=j
 quiet:∀(j:Nat) (e:c3),es[j]? =E e→H7 A s e.key
 N9:H7 A s y
 str:∀x t,y=.str x t→∀(j:Nat) (e:c3),es[j]? =E e→isExactStrKey e.key=true→e.key.isStr x=dE j
 same:∀(j:Nat) (e:c3),es[j]? =E e→e.key=y→dE j=true
theorem e2 {a4:Type}{c:Prop}[Decidable c]{a b:Sem a4}{Q:a4→aQ→Prop}(h:¬c)(k:wpAny aA A b Q b1 s):wpAny aA A (if c then a else b) Q b1 s:=by rw[if_neg h];exact k
theorem uN {a4:Type}{c:Prop}[Decidable c]{a b:Sem a4}{Q:a4→aQ→Prop}(h:c)(k:wpAny aA A a Q b1 s):wpAny aA A (if c then a else b) Q b1 s:=by rw[if_pos h];exact k
theorem wU:¬(n !=n)=true:=by rw[bne_self_eq_false];exact d7
theorem qs {n:Int}:¬(n !=n)=true:=by rw[bne_self_eq_false];exact d7
theorem afB {a4:Type}{Q:a4→aQ→Prop}{f:Str→Tok→Sem a4}{r:Sem a4}(aE:b=true→∀p t,y=.str p t→wpAny aA A (f p t) Q b1 s)(am:wpAny aA A r Q b1 s):
 wpAny aA A (isExactStrKey.match_1 (fun _=>Sem a4) y (fun p t=>if b=true then f p t else r) fun _=>r) Q b1 s:=by
 induction y using G7 with
 |str p t=>exact oO (fun h=>aE h p t rfl) fun _=>am
 |_=>exact am
theorem acC {a4:Type}{Q:a4→aQ→Prop}{f r:Sem a4}(aE:¬b=true)(am:wpAny aA A r Q b1 s):
 wpAny aA A (carriedByValue.match_1 (fun _=>Sem a4) y (fun _=>if b=true then f else r) fun _=>r) Q b1 s:=by
 induction y using G7 with
 |ref p=>exact e2 aE am
 |_=>exact am
noncomputable def r5 (es:Array c3)(aL:Int)(i:Nat):List Nat:=(List.range' i (es.size-i)).filter fun i=>(es[i]?.map (·.hash))==E aL
theorem acj (es:Array c3)(aL:Int):placesWithHash es.size (fun i=>es[i]?.map (·.hash)) aL=r5 es aL 0:=by rw[placesWithHash,List.range_eq_range'];rfl
structure nQ (es:Array c3)(aL:Int)(dE:Nat→Bool)(c2:List Nat)(dM:Option Nat)(i:Nat):Prop where
 eq:c2=r5 es aL i
 no:dM=none→∀j,j<i→j<es.size→dE j=false
 yes:∀j,dM=E j→j<i∧j<es.size∧dE j=true
structure Q4 (es:Array c3)(aL:Int)(dE:Nat→Bool)(z:Nat)(c2:List Nat)(dM:Option Nat):Prop where
 lt:z<es.size
 no:dE z=false→nQ es aL dE c2 dM (z+1)
 yes:dE z=true→dM=none∧nQ es aL dE c2 (E z) (z+1)
theorem pU.skip {es:Array c3}(x:pU A s es y aL dE)(cn:j<es.size)(a8:((es[j]?.map (·.hash))==E aL)=false):dE j=false:=by
 cases q:dE j with
 |false=>rfl
 |true=>rw[oI cn,GN,x.hash j es[j] (oI cn) q,beq_self_eq_true] at a8;exact a8
theorem nQ.step {es:Array c3}{z i:Nat}{c2:List Nat}{dM:Option Nat}(x:pU A s es y aL dE)(h:nQ es aL dE (z::c2) dM i):Q4 es aL dE z c2 dM:=by
 have g:=filter_range'_cons _ _ _ _ _ h.eq.symm;have DA:=g.1;have ed:z<es.size:=by
  refine q3 g.2.1 ?_;rcases GA i es.size with k|k
  .rw[xO k];exact kN _
  .rw[Qs k] at g;exact absurd g.2.1 (Nat.not_lt_of_le g.1)
 have zv:c2=r5 es aL (z+1):=by rw[g.2.2.2.2,xO (e3 DA (xP ed))];rfl
 have X2:=g.2.2.2.1;clear g;have low:dM=none→∀j,j<z→j<es.size→dE j=false:=fun bC j h' cn=>(Bs j i).elim (fun k=>h.no bC j k cn) fun k=>x.skip cn (X2 j k h');refine⟨ed,fun jp=>⟨zv,fun bC j R cn=>?_,fun j e=>?_⟩,fun Kr=>⟨?_,⟨zv,(fun e=>nomatch e),fun j e=>?_⟩⟩⟩
 .rcases Nat.lt_or_eq_of_le (Nat.le_of_lt_succ R) with h'|h'
  .exact low bC j h' cn
  .rw[h'];exact jp
 .exact⟨GB (q3 (h.yes j e).1 DA),(h.yes j e).2⟩
 .clear low
  induction dM using ez with
  |none=>rfl
  |some j=>exact absurd (x.one j z (h.yes j rfl).2.1 ed (h.yes j rfl).2.2 Kr) (nz (q3 (h.yes j rfl).1 DA))
 .obtain rfl:=cE e;exact⟨jx z,ed,Kr⟩
theorem nQ.fin {es:Array c3}{i:Nat}{dM:Option Nat}{K:Option Nat→Prop}(x:pU A s es y aL dE)(h:nQ es aL dE [] dM i)
 (m5:(∀j,j<es.size→dE j=false)→K none)(o7:∀j,j<es.size→dE j=true→K (E j)):K dM:=by
 induction dM using ez with
 |some j=>exact o7 j (h.yes j rfl).2.1 (h.yes j rfl).2.2
 |none=>refine m5 fun j cn=>(Bs j i).elim (fun k=>h.no rfl j k cn) fun k=>x.skip cn ?_;have:=List.filter_eq_nil_iff.mp h.eq.symm j (List.mem_range'_1.mpr ⟨k,by rw[xO (e3 k (xP cn))];exact cn⟩);exact Bj.mpr this
inductive Cc (es:Array c3)(aL:Int)(dE:Nat→Bool)(s:aQ):List Nat→Option (Option Nat)×Unit→aQ→Prop
 |mk (i:Nat) (c2:List Nat):nQ es aL dE c2 none i→Cc es aL dE s c2 (none,()) s
inductive vj (es:Array c3)(aL:Int)(dE:Nat→Bool)(s:aQ):List Nat→Option (Option Nat)×Option Nat→aQ→Prop
 |mk (i:Nat) (c2:List Nat) (dM:Option Nat):nQ es aL dE c2 dM i→vj es aL dE s c2 (none,dM) s
theorem nQ.zero {es:Array c3}:nQ es aL dE (r5 es aL 0) none 0:=⟨rfl,fun _ j h=>absurd h (xT _),fun _ e=>nomatch e⟩
theorem Tz {d:bj}{es:Array c3}{o:Obj}{Q:Option Nat→aQ→Prop}(x:pU A s es y aL dE)
 (ax:s.heap.get? d=E o)(hd:o.data=.dict es n)(m5:(∀j,j<es.size→dE j=false)→Q none s)(o7:∀j,j<es.size→dE j=true→Q (E j) s):
 wpAny (model O w) A (dictWalkPlain d y aL es (r5 es aL 0)) Q b1 s:=by
 refine ae<|u4 _ (Cc es aL dE s) _ ?_ ?_ _ _ (.mk 0 _ .zero)
 .intro z c2 b s' hi;cases hi with|mk i _ c0=>
   have g:=c0.step x;obtain⟨e,he⟩:∃e,es[z]? =E e:=⟨_,oI g.lt⟩;dsimp only;rw[he];refine oO (fun bC=>?_) fun bC=>?_
   .refine ae (ll ax hd (ae (x.eq z _ he _ _ _ _ (ae (ll ax hd (e2 wU ?_))))));cases q:dE z with
    |true=>exact ae (iv (aX (aX (o7 z g.lt q))))
    |false=>exact ae (iv (aX (.mk _ _ (g.no q))))
   .refine aX (Cc.mk _ _ (g.no (x.skip g.lt ?_)));rw[he];exact Bj.mpr fun h=>bC (beq_iff_eq.mpr (fc (beq_iff_eq.mp h)))
 .intro b s' hi;cases hi with|mk i _ c0=>exact aX (c0.fin x (K:=fun r=>Q r s) m5 o7)
inductive Ig (es:Array c3)(s:aQ):List aj→Option Bool×Unit→aQ→Prop
 |mk (c2:List aj):(∀v∈c2,∃(j:Nat) (e:c3),es[j]? =E e∧e.key=v)→Ig es s c2 (none,()) s
theorem af6 {es:Array c3}(x:pU A s es y aL dE){ps:List Nat}{Q:Bool→aQ→Prop}(q:Q false s):
 wpAny (model O w) A (tableMayTell y (ps.filterMap (fun i=>es[i]?.map (·.key)))) Q b1 s:=by
 unfold tableMayTell;refine oO (fun _=>aX q) fun _=>ae (x.N9 _ _ _ _ (ae<|u4 _ (Ig es s) _ ?_ ?_ _ _ (.mk _ fun v co=>?_)))
 .intro z c2 r s' hi;cases hi with|mk am=>exact(am z List.mem_cons_self).elim fun j h=>h.elim fun e h=>h.2▸ae (x.quiet j e h.1 _ _ _ _ (aX (.mk _ fun v co=>am v (List.mem_cons_of_mem _ co))))
 .intro r s' hi;cases hi;exact aX q
 .refine(List.mem_filterMap.mp co).elim fun i h=>?_;have hi:=h.2;revert hi;cases Xf:es[i]? with
  |none=>exact fun h=>hj h
  |some e=>exact fun h=>⟨i,e,Xf,fc h⟩
theorem Tx {d:bj}{es:Array c3}{o:Obj}{Q:Option Nat→aQ→Prop}(x:pU A s es y aL dE)
 (ax:s.heap.get? d=E o)(hd:o.data=.dict es n)(m5:(∀j,j<es.size→dE j=false)→Q none s)(o7:∀j,j<es.size→dE j=true→Q (E j) s):
 wpAny (model O w) A (dictFind d y aL) Q b1 s:=by
 have Dj:¬(es.any fun e=>e.key==y&&e.hash !=aL)=true:=fun h=>by rw[Array.any_eq_true] at h;refine h.elim fun i h=>h.elim fun hi aI=>?_;have aI:=gC.mp aI;have e:=x.hash i _ (oI hi) (x.same i _ (oI hi) (beq_iff_eq.mp aI.1));exact absurd e (bne_iff_ne.mp aI.2)
 unfold dictFind;refine ga<|ae (mN ax hd ?_)
 rw[acj];dsimp only;refine afB (fun DG p t mc=>?_) ?_
 .have vX:∀j (e:c3),es[j]? =E e→isExactStrKey e.key=true:=fun j e he=>by rw[Array.all_eq_true] at DG;refine(Go.mp he).elim fun cn h=>?_;exact h▸DG j cn
  clear Dj DG;unfold foundByValue;cases hf:es.findIdx? (·.key.isStr p) with
  |none=>refine aX (m5 fun j cn=>?_);have:=Array.findIdx?_eq_none_iff.mp hf es[j] (Array.getElem_mem cn);rw[←x.str p t mc j _ (oI cn) (vX j _ (oI cn))];exact this
  |some i=>
   refine(Array.findIdx?_eq_some_iff_getElem.mp hf).elim fun ed h=>?_;have he:=oI ed;have aE:dE i=true:=by rw[←x.str p t mc i _ he (vX i _ he)];exact h.1
   clear h;revert he;generalize es[i]=e;intro he;dsimp only;rw[he];refine ae (ll ax hd (ae (x.eq i _ he _ _ _ _ (ae (ll ax hd ?_)))));rw[aE];exact e2 wU (ae (iv (aX (o7 i ed aE))))
 refine oO (fun _=>Tz x ax hd m5 o7) fun _=>acC Dj ?_;clear Dj;have Pp:∀(K:Bool→Sem (Option Nat)),wpAny (model O w) A (K false) Q b1 s→wpAny (model O w) A (if(((r5 es aL 0).filterMap fun i=>es[i]?.map (·.key))==[y])=true then(do let t←pure false;K t) else(do let t←tableMayTell y ((r5 es aL 0).filterMap fun i=>es[i]?.map (·.key));K t)) Q b1 s:=
  fun K h=>oO (fun _=>ae (aX h)) fun _=>ae (af6 x h)
 refine Pp _ ?_;clear Pp;refine e2 d7<|ae<|u4 _ (vj es aL dE s) _ ?_ ?_ _ _ (.mk 0 _ none .zero)
 .intro z c2 b s' hi;cases hi with|mk i _ dM c0=>
   have g:=c0.step x;obtain⟨e,he⟩:∃e,es[z]? =E e:=⟨_,oI g.lt⟩;dsimp only;rw[he];refine oO (fun bC=>?_) fun bC=>?_
   .refine ae (ll ax hd (ae (x.eq z _ he _ _ _ _ (ae (ll ax hd (e2 wU ?_))))));cases q:dE z with
    |true=>refine uN rfl ?_;cases (g.yes q).1;exact e2 d7 (ae (iv (oO (fun _=>aX (aX (o7 z g.lt q))) fun _=>aX (vj.mk _ _ _ (g.yes q).2))))
    |false=>exact e2 d7 (ae (iv (e2 d7 (aX (vj.mk _ _ _ (g.no q))))))
   .refine aX (vj.mk _ _ _ (g.no (x.skip g.lt ?_)));rw[he];exact Bj.mpr fun h=>bC (beq_iff_eq.mpr (fc (beq_iff_eq.mp h)))
 .intro b s' hi;cases hi with|mk i _ dM c0=>exact aX (c0.fin x (K:=fun r=>Q r s) m5 o7)
end
section
open PySem.SeqAt
theorem de.length {xs:List c3}(r:de P ρ h es xs):es.length=xs.length:=
 de.rec (motive:=fun es xs _=>es.length=xs.length) rfl (fun _ _ _ _ k=>congrArg (· +1) k) r
theorem de.at {xs:List c3}{e:c3}(r:de P ρ h es xs)(q:xs[j]? =E e):
 ∃k v,es[j]? =E (k,v)∧aN ρ h k e.key∧aN ρ h v e.val∧e.hash=h4 P 4 k:=by
 induction r generalizing j with
 |nil=>exact c5 q
 |cons a b c _ aF=>
  induction j using h8 with
  |zero=>obtain rfl:=cE q;exact⟨_,_,rfl,a,b,c⟩
  |succ j=>exact aF q
theorem aN.Nz {z:Str}{u:Tok}(r:aN ρ h v (.str z u)):fY z=true∧v=.str (a7 z):=
 aN.casesOn (motive_1:=fun v x _=>∀z u,x=.str z u→fY z=true∧v=.str (a7 z)) r (fun _ _ e=>q8 e) (fun _ _ _ e=>q8 e) (fun _ _ _ _ e=>q8 e)
  (fun x t a z u e=>(Value.str.inj e).1▸⟨a,rfl⟩) (fun _ _ _ _ _ e=>q8 e) (fun _ _ _ _ e=>q8 e) (fun _ _ _ e=>q8 e) z u rfl
theorem JO {K:Option V→Prop}:lv k es K→(∃(j:Nat) (eA v:V),es[j]? =E (eA,v)∧bn 4 eA k=true∧K (E v))∨((∀e∈es,bn 4 e.1 k=false)∧K dk):=by
 induction es with
 |nil=>exact fun h=>.inr ⟨fun _ h=>(nomatch h),h⟩
 |cons e r aF=>
  intro h;refine(?_:ao (bn 4 e.1 k) (K (E e.2)) (lv k r K)→_) h;cases q:bn 4 e.1 k with
  |true=>exact fun h=>.inl ⟨0,e.1,e.2,rfl,q,h⟩
  |false=>refine fun h=>(aF h).imp (fun g=>mb g fun j a b f=>⟨j+1,a,b,f⟩) fun g=>⟨fun e he=>?_,g.2⟩;exact(List.mem_cons.mp he).elim (fun z=>z▸q) (g.1 e)
theorem E9:∀{K:List (V×V)→Nat→Prop},ou k v es K→(∃(j:Nat) (eA lU:V),es[j]? =E (eA,lU)∧bn 4 eA k=true∧K (es.modify j fun e=>(e.1,v)) 0)∨((∀e∈es,bn 4 e.1 k=false)∧K (es++[(k,v)]) 1):=by
 induction es with
 |nil=>exact fun h=>.inr ⟨fun _ h=>(nomatch h),h⟩
 |cons e r aF=>
  intro K h;refine(?_:ao (bn 4 e.1 k) (K ((e.1,v)::r) 0) (ou k v r fun es=>K (e::es))→_) h;cases q:bn 4 e.1 k with
  |true=>exact fun h=>.inl ⟨0,e.1,e.2,rfl,q,h⟩
  |false=>refine fun h=>(aF h).imp (fun g=>mb g fun j a b f=>⟨j+1,a,b,f⟩) fun g=>⟨fun e he=>?_,g.2⟩;exact(List.mem_cons.mp he).elim (fun z=>z▸q) (g.1 e)
theorem Tq:∀{K:List (V×V)→Prop},rq k es K→∃(j:Nat) (e:V×V),es[j]? =E e∧bn 4 e.1 k=true∧K (es.eraseIdx j):=by
 induction es with
 |nil=>exact fun h=>h.elim
 |cons e r aF=>
  intro K h;refine(?_:ao (bn 4 e.1 k) (K r) (rq k r fun es=>K (e::es))→_) h;cases q:bn 4 e.1 k with
  |true=>exact fun h=>⟨0,e,rfl,q,h⟩
  |false=>exact fun h=>dB (aF h) fun j a f=>⟨j+1,a,f⟩
def ke (es:List (V×V))(k:V)(j:Nat):Bool:=match es[j]? with|some e=>bn 4 e.1 k|dk=>false
theorem Y0 {f:V→V→Bool}(h:∀a∈vs,f a a=true):iH f vs vs=true:=by
 induction vs with
 |nil=>rfl
 |cons a r aF=>simp only[iH,h a List.mem_cons_self,aF fun b az=>h b (List.mem_cons_of_mem _ az),Bool.and_self]
theorem rP:∀(n:Nat) (a:V),bT n a=true→bn n a a=true:=by
 intro n
 induction n with
 |zero=>
  intro a aC;rcases KJ aC with⟨i,rfl⟩|⟨c,rfl⟩|⟨m,vs,e,_⟩
  .simp[bn]
  .exact pJ _
  .cases e
 |succ n aF=>
  intro a aC;rcases KJ aC with⟨i,rfl⟩|⟨c,rfl⟩|⟨m,vs,e,rfl,co⟩
  .simp[bn]
  .exact pJ _
  .cases e;exact Y0 fun a aC=>aF a (List.all_eq_true.mp co a aC)
theorem vD (aB:bT 4 k=true)(hd:eD es){i:Nat}(hi:ke es k i=true)(cn:ke es k j=true):i=j:=by
 unfold ke at hi cn;cases j4:es[i]? with
 |none=>rw[j4] at hi;exact dW hi
 |some a=>
  cases iw:es[j]? with
  |none=>rw[iw] at cn;exact dW cn
  |some b=>
   rw[j4] at hi;rw[iw] at cn;have R:=wE _ _ _ hi;have Z:=wE _ _ _ cn;refine dm (List.getElem?_eq_some_iff.mp j4) fun li r7=>?_;refine dm (List.getElem?_eq_some_iff.mp iw) fun wI N8=>?_;have q:=List.pairwise_iff_getElem.mp hd;have aE:=rP 4 k aB;rcases GC i j with c|c|c
   .have:=q i j li wI c;rw[r7,N8,R,Z,aE] at this;exact j9 this
   .exact c
   .have:=q j i wI li c;rw[r7,N8,R,Z,aE] at this;exact j9 this
theorem hits {xs:List c3}(cS:de w.params ρ s.heap es xs)(aD:∀e∈es,bT 4 e.1=true)(hd:eD es)
 (aB:bT 4 k=true)(bU:aN ρ s.heap k y)(bx:A.units+4<cLine):pU A s xs.toArray y (h4 w.params 4 k) (ke es k) where
 hash:=fun j e he aE=>by refine nx (cS.at (j:=j) (by simpa using he)) fun eA v aW eO eG eU=>?_;clear eO eG;unfold ke at aE;rw[aW] at aE;have:=wE _ _ _ aE;rw[eU];show h4 _ 4 eA=_;rw[show eA=k from this]
 eq:=fun j e he=>by refine nx (cS.at (j:=j) (by simpa using he)) fun eA v aW aJ eG eU=>?_;clear eG;unfold ke;rw[aW];exact D5 4 A eA k _ _ (aD _ (List.mem_of_getElem? aW)) aB aJ bU bx
 one:=fun i j _ _ hi cn=>vD aB hd hi cn
 quiet:=fun j e he O w b1 Q q=>by refine nx (cS.at (j:=j) (by simpa using he)) fun eA v aW aJ eG eU=>?_;clear eG;exact Oa 4 8 eA _ s Q (aD _ (List.mem_of_getElem? aW)) aJ (by lia) q
 N9:=fun O w b1 Q q=>Oa 4 8 k _ s Q aB bU (by lia) q
 str:=fun x t ct j e he aE=>by
  refine nx (cS.at (j:=j) (by simpa using he)) fun eA v aW aJ eG eU=>?_;clear eG;have kD:=aD _ (List.mem_of_getElem? aW);subst ct;unfold ke;rw[aW];cases rD:e.key with
  |str z u=>rw[rD] at aJ;refine b7 aJ.Nz fun a8 q=>b7 bU.Nz fun a9 N7=>?_;rw[q,N7];exact AV a8 a9
  |_=>rw[rD] at aE;exact dW aE
 same:=fun j e he aE=>by refine nx (cS.at (j:=j) (by simpa using he)) fun eA v aW aJ eG eU=>?_;clear eG;unfold ke;rw[aW];rw[aE] at aJ;exact L4 4 eA k _ (aD _ (List.mem_of_getElem? aW)) aB aJ bU
theorem qS {e:V×V}(h:es[j]? =E e)(aB:bn 4 e.1 k=true):ke es k j=true:=by unfold ke;rw[h];exact aB
theorem C3 {d:bj}{xs:List c3}{Q:Option Nat→aQ→Prop}(ax:s.heap.get? d=E (dictOf xs n))
 (cS:de w.params ρ s.heap es xs)(aD:∀e∈es,bT 4 e.1=true)(hd:eD es)(aB:bT 4 k=true)(bU:aN ρ s.heap k y)(bx:A.units+4<cLine)
 (cg:∀(j:Nat) (e:V×V),es[j]? =E e→bn 4 e.1 k=true→Q (E j) s)(b8:(∀e∈es,bn 4 e.1 k=false)→Q dk s):
 wpAny (model O w) A (dictFind d y (h4 w.params 4 k)) Q b1 s:=by
 refine Tx (hits cS aD hd aB bU bx) ax rfl (fun h=>b8 fun e he=>?_) fun j cn aE=>?_
 .refine dm (List.mem_iff_getElem?.mp he) fun j cn=>?_;have:j<xs.toArray.size:=by have:=(List.getElem?_eq_some_iff.mp cn).1;rw[List.size_toArray,←cS.length];exact this
  have:=h j this;unfold ke at this;rw[cn] at this;exact this
 .unfold ke at aE;cases e:es[j]? with
  |none=>rw[e] at aE;exact dW aE
  |some p=>rw[e] at aE;exact cg j p e aE
theorem wS {e:V×V}(h:es[j]? =E e)(aB:bn 4 e.1 k=true)(aL:∀e∈es,bn 4 e.1 k=false):False:=by rw[aL e (List.mem_of_getElem? h)] at aB;exact dW aB
theorem yW {d:bj}{xs:List c3}{G:Option V→Prop}{Q:Option aj→aQ→Prop}(ax:s.heap.get? d=E (dictOf xs n))
 (cS:de w.params ρ s.heap es xs)(aD:∀e∈es,bT 4 e.1=true)(hd:eD es)(aB:bT 4 k=true)(bU:aN ρ s.heap k y)(bx:A.units+4<cLine)(b5:lv k es G)
 (cg:∀v x t,G (E v)→aN ρ s.heap v x→Q (E x) {s with toks:=t})(b8:∀t,G dk→Q dk {s with toks:=t}):wpAny (model O w) A (dictGet d y) Q b1 s:=by
 unfold dictGet
 try with_reducible refine ga ?_
 refine ae (D2 4 _ k y s _ aB bU bx fun t=>ae (C3 (s:={s with toks:=t}) ax cS aD hd aB bU bx (fun j e he aE=>?_) fun aL=>?_))
 .refine ae (mN (s:={s with toks:=t}) ax rfl ?_)
  have cn:j<xs.length:=by rw[←cS.length];exact(List.getElem?_eq_some_iff.mp he).1
  refine nx (cS.at (j:=j) (List.getElem?_eq_getElem cn)) fun eA v aW aJ cI pt=>?_;clear pt;rw[List.getElem?_toArray,List.getElem?_eq_getElem cn];refine aX (cg v _ t ?_ cI);rcases JO b5 with⟨i,bK,nt,f1,hY,md⟩|⟨R,_⟩
  .have:i=j:=vD aB hd (qS f1 hY) (qS he aE);subst this;rw[aW] at f1;cases f1;exact md
  .exact(wS he aE R).elim
 .refine aX (b8 t ?_);rcases JO b5 with⟨i,bK,nt,f1,hY,md⟩|⟨_,Z⟩
  .exact(wS f1 hY aL).elim
  .exact Z
theorem de.modify (co:aN ρ h v y){xs:List c3}(r:de P ρ h es xs):
 de P ρ h (es.modify j fun e=>(e.1,v)) (xs.modify j fun e=>{e with val:=y}):=by
 induction r generalizing j with
 |nil=>induction j using h8<;>exact .nil
 |cons a b c r aF=>induction j using h8 with
  |zero=>exact .cons a co c r
  |succ j=>exact .cons a b c aF
theorem de.snoc {e:c3}(a:aN ρ h k e.key)(b:aN ρ h v e.val)(c:e.hash=h4 P 4 k){xs:List c3}(r:de P ρ h es xs):
 de P ρ h (es++[(k,v)]) (xs++[e]):=by
 induction r with
 |nil=>exact .cons a b c .nil
 |cons x y z _ aF=>exact .cons x y z aF
theorem de.erase {xs:List c3}(r:de P ρ h es xs):de P ρ h (es.eraseIdx j) (xs.eraseIdx j):=by
 induction r generalizing j with
 |nil=>exact .nil
 |cons a b c r aF=>induction j using h8 with
  |zero=>exact r
  |succ j=>exact .cons a b c aF
theorem zV:∀{j:Nat},(es.modify j fun e=>(e.1,v)).map (·.1)=es.map (·.1):=by
 induction es with
 |nil=>intro j;simp
 |cons e r aF=>intro j;induction j using h8 with
  |zero=>rfl
  |succ j=>simp only[List.modify_succ_cons,List.map_cons,aF]
theorem D1 {cT:List (V×V)}(h:cT.map (·.1)=es.map (·.1))(aD:∀e∈es,bT 4 e.1=true):∀e∈cT,bT 4 e.1=true:=fun e he=>by have:e.1∈cT.map (·.1):=List.mem_map_of_mem he;rw[h] at this;refine dn (List.mem_map.mp this) fun a aC q=>?_;rw[←q];exact aD a aC
theorem to:eD es↔(es.map (·.1)).Pairwise fun a b=>bn 4 a b=false:=by unfold eD;rw[List.pairwise_map]
theorem I8 {d:bj}{xs:List c3}{x:aj}{G:List (V×V)→Nat→Prop}{Q:Unit→aQ→Prop}(ax:s.heap.get? d=E (dictOf xs n))
 (cS:de w.params ρ s.heap es xs)(aD:∀e∈es,bT 4 e.1=true)(hd:eD es)(aB:bT 4 k=true)(j6:es.length≤1000)(bU:aN ρ s.heap k y)(Bg:aN ρ s.heap v x)(bx:A.units+4<cLine)(b5:ou k v es G)
 (q:∀cT m fb h' t,G cT m→h'.get? d=E (dictOf fb (n+m))→fI d s.heap h'→de w.params ρ s.heap cT fb→(∀e∈cT,bT 4 e.1=true)→eD cT→Q () {s with heap:=h',toks:=t}):
 wpAny (model O w) A (dictSet d y x) Q b1 s:=by
 unfold dictSet
 try with_reducible refine ga ?_
 refine ae (D2 4 _ k y s _ aB bU bx fun t=>?_);unfold dictSetHashed
 try with_reducible refine ga ?_
 refine ae (C3 (s:={s with toks:=t}) ax cS aD hd aB bU bx (fun j e he aE=>?_) fun aL=>?_)
 .rcases E9 b5 with⟨i,bK,nt,f1,hY,md⟩|⟨R,_⟩
  .have:i=j:=vD aB hd (qS f1 hY) (qS he aE);subst this;refine ae (iv (ae (wpAny_updateDict (s:={s with toks:=t}) ax rfl (wpAny_point (q _ 0 (xs.modify i fun e=>{e with val:=x}) _ t md ?_ (kp ..) (cS.modify Bg) (D1 zV aD) (to.mpr (by rw[zV];exact to.mp hd)))))))
   rw[l1 _ ax rfl];simp[Obj.mapDict]
  .exact(wS he aE R).elim
 .rcases E9 b5 with⟨i,bK,nt,f1,hY,md⟩|⟨_,Z⟩
  .exact(wS f1 hY aL).elim
  .refine ae (iv (wpAny_updateDictKeys (hz:=?_) (s:={s with toks:=t}) ax rfl (q _ 1 (xs++[⟨h4 w.params 4 k,y,x⟩]) _ t Z ?_ (kp ..) (cS.snoc bU Bg rfl) ?_ ?_)))
   .rw[l1 _ ax rfl];simp[Obj.mapDictKeys]
   .intro e he;rcases List.mem_append.mp he with he|he
    .exact aD e he
    .rw[List.mem_singleton.mp he];exact aB
   .unfold eD;rw[List.pairwise_append];refine⟨hd,List.pairwise_singleton _ _,fun a aC b az=>?_⟩;rw[List.mem_singleton.mp az];exact aL a aC
   .rw[List.size_toArray,←cS.length];unfold sizeLine;lia
end
section
open PySem.SeqAt
theorem fo {d:bj}{xs:List c3}(e:s.heap.get? d=E (dictOf xs n)):s.TypeIs (.ref d) "dict":=⟨_,e,rfl⟩
section
variable {d:bj}{xs:List c3}{x:aj}
theorem afZ {G:List (V×V)→Prop}{Q:Option c3→aQ→Prop}(ax:s.heap.get? d=E (dictOf xs n))
 (cS:de w.params ρ s.heap es xs)(aD:∀e∈es,bT 4 e.1=true)(hd:eD es)(aB:bT 4 k=true)(j6:es.length≤1000)(bU:aN ρ s.heap k y)(bx:A.units+4<cLine)(b5:rq k es G)
 (q:∀cT x fb h' t,G cT→h'.get? d=E (dictOf fb (n+1))→fI d s.heap h'→de w.params ρ s.heap cT fb→(∀e∈cT,bT 4 e.1=true)→eD cT→Q (E x) {s with heap:=h',toks:=t}):
 wpAny (model O w) A (Builtin.Dict.takeOut d y) Q b1 s:=by
 unfold Builtin.Dict.takeOut
 try with_reducible refine ga ?_
 refine ae (D2 4 _ k y s _ aB bU bx fun t=>oD (Tq b5) fun i aJ f1 hY md=>ae (C3 (s:={s with toks:=t}) ax cS aD hd aB bU bx (fun j e he aE=>?_) fun aL=>?_))
 .have:i=j:=vD aB hd (qS f1 hY) (qS he aE);subst this;have cn:i<xs.length:=by rw[←cS.length];exact(List.getElem?_eq_some_iff.mp he).1
  refine ae (mN (s:={s with toks:=t}) ax rfl ?_)
  rw[List.getElem?_toArray,List.getElem?_eq_getElem cn];refine ae (wpAny_updateDictKeys (hz:=?_) (hf:=?_) (s:={s with toks:=t}) ax rfl ?_)
  .refine aX (q _ _ (xs.eraseIdx i) _ t md ?_ (kp ..) cS.erase ?_ ?_)
   .rw[l1 _ ax rfl];simp[Obj.mapDictKeys]
   .intro e he;exact aD e (List.mem_of_mem_eraseIdx he)
   .exact List.Pairwise.sublist (List.eraseIdx_sublist ..) hd
  .rw[List.size_toArray,←cS.length];unfold sizeLine;lia
  .simp[List.length_eraseIdx]
   split<;>lia
 .exact(wS f1 hY aL).elim
theorem tI (bx:A.units+n<cLine)(h:m+1≤n):A.in1.units+m<cLine:=by show A.units+1+m<cLine;lia
theorem Ww {G:V→Prop}(ax:s.heap.get? d=E (dictOf xs n))(cS:de w.params ρ s.heap es xs)
 (aD:∀e∈es,bT 4 e.1=true)(hd:eD es)(aB:bT 4 k=true)(bU:aN ρ s.heap k y)(bx:A.units+6<cLine)(b5:lv k es fun r=>k3 r G)
 (q:∀v x t,G v→aN ρ s.heap v x→Q x {s with toks:=t}):wpAny (model O w) A (getItem (.ref d) y) Q b1 s:=by
 unfold getItem
 try with_reducible refine ga ?_
 refine ae (u7 (fo ax) (by decide) ?_);refine ae (mM (name:=g6 "__getitem__") (fo ax) GY
  (hp GY (fo ax) entry_dict_getitem ?_ (args_dict_getitem _ _)))
 refine(?_:wpAny _ _ (dictGet d y>>=_) _ _ s);refine ae (yW ax cS aD hd aB bU (tI bx (by lia)) b5 (fun v x t g r=>?_) fun t g=>g.elim);exact aX ⟨x,rfl,aX (q v x t g r)⟩
theorem aen {G:List (V×V)→Nat→Prop}{Q:Unit→aQ→Prop}(ax:s.heap.get? d=E (dictOf xs n))(cS:de w.params ρ s.heap es xs)
 (aD:∀e∈es,bT 4 e.1=true)(hd:eD es)(aB:bT 4 k=true)(j6:es.length≤1000)(bU:aN ρ s.heap k y)(Bg:aN ρ s.heap v x)(bx:A.units+6<cLine)(b5:ou k v es G)
 (q:∀cT m fb h' t,G cT m→h'.get? d=E (dictOf fb (n+m))→fI d s.heap h'→de w.params ρ s.heap cT fb→(∀e∈cT,bT 4 e.1=true)→eD cT→Q () {s with heap:=h',toks:=t}):
 wpAny (model O w) A (setItem (.ref d) y x) Q b1 s:=by
 unfold setItem
 try with_reducible refine ga ?_
 refine ae (u7 (fo ax) (by decide) ?_);refine ae (mM (name:=g6 "__setitem__") (fo ax) slot_dict_setitem
  (hp slot_dict_setitem (fo ax) entry_dict_setitem ?_ (args_dict_setitem _ _ _)))
 refine(?_:wpAny _ _ (Builtin.Dict.notOrdered "__setitem__" ⟨[.ref d,y,x],[]⟩>>=_) _ _ s);refine ae (q6 (fo ax) ?_);refine(?_:wpAny _ _ (dictSet d y x>>=_) _ _ s);exact ae (I8 ax cS aD hd aB j6 bU Bg (tI bx (by lia)) b5 fun cT m fb h' t g R Z bv cZ gV=>aX ⟨.none,rfl,aX (q cT m fb h' t g R Z bv cZ gV)⟩)
theorem Tr {G:List (V×V)→Prop}{Q:Unit→aQ→Prop}(ax:s.heap.get? d=E (dictOf xs n))(cS:de w.params ρ s.heap es xs)
 (aD:∀e∈es,bT 4 e.1=true)(hd:eD es)(aB:bT 4 k=true)(j6:es.length≤1000)(bU:aN ρ s.heap k y)(bx:A.units+6<cLine)(b5:rq k es G)
 (q:∀cT fb h' t,G cT→h'.get? d=E (dictOf fb (n+1))→fI d s.heap h'→de w.params ρ s.heap cT fb→(∀e∈cT,bT 4 e.1=true)→eD cT→Q () {s with heap:=h',toks:=t}):
 wpAny (model O w) A (delItem (.ref d) y) Q b1 s:=by
 unfold delItem
 try with_reducible refine ga ?_
 refine ae (u7 (fo ax) (by decide) ?_);refine ae (mM (name:=g6 "__delitem__") (fo ax) PySem.F.slot_dict_delitem
  (hp PySem.F.slot_dict_delitem (fo ax) PySem.F.entry_dict_delitem ?_ (PySem.F.args_dict_delitem_2 _ _)))
 unfold Builtin.«dict.__delitem__»;refine ae ?_;unfold Builtin.Dict.dictSlotArgs;refine ae (q6 (fo ax) ?_);refine(?_:wpAny _ _ (pure (gO d,y)) _ _ s);refine aX ?_;refine(?_:wpAny _ _ (Builtin.Dict.takeOut d y>>=_) _ _ s);exact ae (afZ ax cS aD hd aB j6 bU (tI bx (by lia)) b5 fun cT x fb h' t g R Z bv cZ gV=>ae (xZ (aX ⟨.none,rfl,aX (q cT fb h' t g R Z bv cZ gV)⟩)))
theorem Ye {G:Bool→Prop}(hm:(d==sysModules)=false)(ax:s.heap.get? d=E (dictOf xs n))(cS:de w.params ρ s.heap es xs)
 (aD:∀e∈es,bT 4 e.1=true)(hd:eD es)(aB:bT 4 k=true)(bU:aN ρ s.heap k y)(bx:A.units+6<cLine)(b5:lv k es fun r=>G r.isSome)
 (q:∀c t,G c→Q (.bool c) {s with toks:=t}):wpAny (model O w) A (compareOp .In y (.ref d)) Q b1 s:=by
 refine(?_:wpAny _ _ (do return .bool (←contains (.ref d) y)) Q b1 s);refine ae ?_;unfold contains
 try with_reducible refine ga ?_
 refine ae (iQ (fo ax) GX.lookup ?_);refine(?_:wpAny _ _ (if(E (fC "dict.__contains__")==E cf)=true then _ else _) _ b1 s);refine e2 (by rw[beq_builtin_none];exact d7) ?_;refine ae (wpAny_callSpecialUnlessNone?_slot (name:=g6 "__contains__") (fo ax) GX
  (hp GX (fo ax) entry_dict_contains ?_ (args_dict_contains _ _)))
 refine(?_:wpAny _ _ (dictGet d y>>=_) _ _ s);refine ae (yW ax cS aD hd aB bU (tI bx (by lia)) b5 (fun v x t g r=>?_) fun t g=>?_)
 .refine(?_:wpAny _ _ (ret (.bool true)) _ _ _);exact aX ⟨_,rfl,BC (aX (q _ t g))⟩
 .refine(?_:wpAny _ _ (Builtin.Dict.pendingKey? d y>>=_) _ _ _);exact ae (wpAny_pendingKey_other hm (aX ⟨_,rfl,BC (aX (q _ t g))⟩))
theorem aaX {b:bj}(aC:(d==sysModules)=false)(az:(b==sysModules)=false)(ax:s.heap.get? d=E (dictOf xs n))(wn:s.heap.get? b=E (dictOf [] m))
 (bx:A.units<cLine)(h:Q (.bool (!xs.isEmpty)) s):wpAny (model O w) A (compareOp .NotEq (.ref d) (.ref b)) Q b1 s:=by
 refine Qw (op:=.NotEq) (fo ax) (fo wn) PySem.F.slot_dict_ne (hp PySem.F.slot_dict_ne (fo ax) PySem.F.entry_dict_ne ?_ (PySem.F.args_dict_ne_2 _ _)) bx;refine(?_:wpAny _ _ (Builtin.Dict.dictSlotArgs "__ne__" ⟨[.ref d,.ref b],[]⟩>>=_) _ _ s);refine ae ?_;unfold Builtin.Dict.dictSlotArgs;refine ae (q6 (fo ax) ?_);refine(?_:wpAny _ _ (pure (gO d,gO b)) _ _ s);refine aX<|ae (pL (T:="dict") (fo wn) PySem.F.sub_dict_dict (e2 d7<|ae (aX (ae (aX (ae ?_))))))
 unfold Builtin.Dict.samePairs Builtin.Dict.showsAll;rw[if_neg (show¬(d==sysModules)=true by rw[aC];exact d7),if_neg (show¬(b==sysModules)=true by rw[az];exact d7)];refine ae (aX (ae (aX (ae (mN ax rfl ?_)))));dsimp only;refine ae (mN wn rfl ?_)
 induction xs using List.casesOn with
 |cons e r=>
  refine uN (by simp)<|ae (iv (aX (aX ⟨_,rfl,?_,?_⟩)))
  .exact fun x=>nomatch x
  .simpa using h
 |nil=>
  refine e2 (by simp)<|ae (ll ax rfl (ae ?_))
  rw[Std.Legacy.Range.forIn_eq_forIn_range'];rw[Std.Legacy.Range.size,GH,Nat.add_sub_cancel,Nat.div_one,List.size_toArray,List.length_nil,List.range'_zero,List.forIn_nil];refine aX (aX (aX ⟨_,rfl,?_,?_⟩))
  .exact fun x=>nomatch x
  .simpa using h
end
theorem mV {P:Prop}(h:ao b P False):b=true∧P:=by
 induction b using eo with
 |true=>exact⟨rfl,h⟩
 |false=>exact h.elim
noncomputable def tM (i:Int):aj→Bool
 |.int z _=>decide (z=i)
 |_=>false
theorem someE {o:Option Bool}{K:Bool→Prop}(h:jw o K)(k:∀b,o=E b→K b→G):G:=by
 induction o using ez with
 |none=>exact h.elim
 |some b=>exact k b rfl h
theorem KA {i:Int}{t:Tok}:∀{xs:List aj} {c:Bool},tL i vs=E c→bJ ρ h vs xs→(∀A (s:aQ),∀y∈xs,EqAt A s y (.int i t) (tM i y))∧xs.any (tM i)=c:=by
 induction vs with
 |nil=>intro xs c e r;exact r.iJ ⟨fun _ _ _ h=>(nomatch h),cE e⟩
 |cons v vs aF=>
  intro xs c e r;refine r.gS fun x xs a dx=>?_;clear r
  induction v using V.casesOn with
  |int j=>
   refine a.fg fun u=>?_;refine(?_:(match tL i vs with|some b=>E (decide (j=i)||b)|dk=>dk)=E c→_) e
   cases aJ:tL i vs with
   |none=>exact fun e=>c5 e
   |some b=>intro e;obtain rfl:=cE e;refine b7 (aF aJ dx) fun g1 bL=>⟨fun A s y ct=>(List.mem_cons.mp ct).elim (fun q=>q▸EqAt.int_int _ _ _ _) (g1 A s y),?_⟩;rw[List.any_cons,bL];rfl
  |_=>exact c5 e
theorem Ui {a4 eI:Type}{l:List a4}{m:List eI}(h:l.length=m.length):l.isEmpty=m.isEmpty:=by
 induction l using List.casesOn with
 |nil=>induction m using List.casesOn with
  |nil=>rfl
  |cons=>exact nomatch h
 |cons=>induction m using List.casesOn with
  |nil=>exact nomatch h
  |cons=>rfl
theorem Uh {a b:V}{c:Bool}{aA:V→V→Bool→Prop}(e:y0 a b H=E c)(k:∀l m x n j,H[l]? =E (.dict x n)→H[m]? =E (.dict [] j)→aA (.ref l) (.ref m) x.isEmpty):aA a b c:=by
 induction a using V.casesOn with
 |ref l=>induction b using V.casesOn with
  |ref m=>
   refine(?_:(match H[l]?,H[m]? with|some (.dict x _),E (.dict [] _)=>E x.isEmpty|_,_=>dk)=E c→_) e
   have k:=k l m;revert k;generalize H[l]? =eY;generalize H[m]? =dX;intro k e
   induction eY using ez with
   |none=>exact c5 e
   |some eY=>induction eY using an.casesOn with
    |dict x n=>induction dX using ez with
     |none=>exact c5 e
     |some dX=>induction dX using an.casesOn with
      |dict y j=>induction y using List.casesOn with
       |nil=>exact cE e▸k x n j rfl rfl
       |cons _ _=>exact c5 e
      |_=>exact c5 e
    |_=>exact c5 e
  |_=>exact c5 e
 |_=>exact c5 e
theorem IX {op:CmpOp}{a b:V}{x:aj}{Q:Bool→Prop}{K:aj→aQ→Prop}(bx:A.units+20<cLine)(hm:∀a∈ρ,(a==sysModules)=false)(h:tk op a b H Q)
 (am:bz w.params ρ H s.heap)(bH:aN ρ s.heap a x)(bm:aN ρ s.heap b y)(q:∀c t,Q c→K (.bool c) {s with toks:=t}):wpAny (model O w) A (compareOp op x y) K eX s:=by
 induction op using CmpOp.casesOn with
 |Eq=>exact someE h fun c e h=>(Jr am 8 A a b x y c e bH bm (by lia)).2.1 O w _ _ (q c s.toks h)
 |NotEq=>
  refine(?_:(match y0 a b H with|some c=>Q (!c)|dk=>jw (e7 H 8 a b) fun x=>Q (!x))→_) h
  cases e:y0 a b H with
  |some c=>refine Uh (aA:=fun a b c=>aN ρ s.heap a x→aN ρ s.heap b y→Q (!c)→_) e (fun l m u n k aW aJ bH bm h=>?_) bH bm;refine bH.hl fun l ar=>bm.hl fun m o6=>(am.dict ar aW).elim fun xs g=>(am.dict o6 aJ).elim fun ys fl=>?_;have z:ys=[]:=List.eq_nil_of_length_eq_zero fl.2.1.length.symm;refine aaX (hm _ (List.mem_of_getElem? ar)) (hm _ (List.mem_of_getElem? o6)) g.1 (z▸fl.1) (mK (sH _ _) bx) (q _ s.toks (Ui g.2.1.length▸h))
  |none=>exact fun h=>someE h fun c e h=>(Jr am 8 A a b x y c e bH bm (mK (Gz (by decide) _) bx)).2.2 O w _ _ (q (!c) s.toks h)
 |Lt=>exact k0 h bH bm fun i j t u h=>PySem.P.lt_int (q _ s.toks (jq _ _▸(show Q (ltI _ _) from h)))
 |LtE=>exact k0 h bH bm fun i j t u h=>PySem.P.le_int (q _ s.toks (i2 _ _▸(show Q (b9 _ _) from h)))
 |Gt=>exact k0 h bH bm fun i j t u h=>PySem.P.gt_int (q _ s.toks (jq _ _▸(show Q (ltI _ _) from h)))
 |GtE=>exact k0 h bH bm fun i j t u h=>PySem.P.ge_int (q _ s.toks (i2 _ _▸(show Q (b9 _ _) from h)))
 |Is=>
  induction b using V.casesOn with
  |none=>refine someE h fun c e h=>bm.t7 ?_;clear bm;exact b7 (KL e bH) fun R Z=>wpAny_is_plain R (Z▸q c s.toks h)
  |_=>exact ft h
 |IsNot=>
  induction b using V.casesOn with
  |none=>refine someE h fun c e h=>bm.t7 ?_;clear bm;exact b7 (KL e bH) fun R Z=>wpAny_isNot_plain R (Z▸q (!c) s.toks h)
  |_=>exact ft h
 |In=>
  induction a using V.casesOn with
  |int i=>
   refine bH.fg fun t=>?_
   induction b using V.casesOn with
   |tup vs=>
    refine someE h fun c e h=>bm.gM fun l xs n o r=>b7 (KA (t:=t) e r) fun g1 bL=>in_tupleAt (tM i) (isTup o) (fun y ct=>g1 _ _ y (by simpa using ct)) ?_;have:xs.toArray.any (tM i)=c:=by simpa using bL
    rw[this];exact q c s.toks h
   |ref l=>exact bm.hl fun d ar=>am.mY ar h fun es n xs e h o cS aD hX=>j1 h fun R Z=>Ye (hm _ (List.mem_of_getElem? ar)) o cS aD hX R (.int i t) (mK (Gz (by decide) _) bx) Z fun c t g=>q c t g
   |_=>exact ft h
  |_=>exact ft h
 |NotIn=>
  induction a using V.casesOn with
  |int i=>
   refine bH.fg fun t=>?_
   induction b using V.casesOn with
   |tup vs=>
    refine someE h fun c e h=>bm.gM fun l xs n o r=>b7 (KA (t:=t) e r) fun g1 bL=>notIn_tupleAt (tM i) (isTup o) (fun y ct=>g1 _ _ y (by simpa using ct)) ?_;have:xs.toArray.any (tM i)=c:=by simpa using bL
    rw[this];exact q _ s.toks h
   |_=>exact ft h
  |_=>exact ft h
def B7 (B:gD):Prop:=∃o,B.h₀.get? sysModules=E o
theorem bZ.mods (r:bZ P B I ah ay ρ H loc s)(az:B7 B):∀a∈ρ,(a==sysModules)=false:=by intro a aC;refine dm az fun o e=>?_;clear az;rw[beq_eq_false_iff_ne];rintro rfl;exact(r.bs _ o e).2.1 aC
theorem adZ (az:B7 B)(bx:A.units+20<cLine){l r:aY}{x y:aG}{op:CmpOp}(ar:cV O w B C A I ay l x)(am:cV O w B C A I ay r y)(aB:behindInMarks op r=false):
 cV O w B C A I ay (.Compare l [op] [r] p) (.cmp op x y):=
 fun ah loc H ρ s Q K h dZ q=>aaA (ar ah loc H ρ s _ _ h dZ fun a aq bP u s1 R bt eC bk=>
  am ah loc aq bP s1 _ _ R (dZ.step bk bt) fun b be cu v s2 Z cq jS ck=>cU (IX bx (((dZ.step bk bt).step ck cq).mods az) Z cq (eC.mono ck.fU bt.di) jS
   fun c t aI=>((q.after bk).after ck) _ be cu _ _ aI cq (.bool c) .toks)) aB
theorem afs (az:B7 B)(bx:A.units+20<cLine){l r:aY}{x y:aG}{op:CmpOp}(ar:cV O w B C A I ay l x)(am:cV O w B C A I ay r y)(aB:behindInMarks op r=false):
 ST O w B C A I ay (.Compare l [op] [r] p) (.cmp op x y):=
 fun ah loc H ρ s Q K h dZ q=>aaQ (ar ah loc H ρ s _ _ h dZ fun a aq bP u s1 R bt eC bk=>
  am ah loc aq bP s1 _ _ R (dZ.step bk bt) fun b be cu v s2 Z cq jS ck=>cU (IX bx (((dZ.step bk bt).step ck cq).mods az) Z cq (eC.mono ck.fU bt.di) jS
   fun c t aI=>cU (BC (q _ be cu _ aI cq ((bk.trans ck).trans .toks))))) aB
end
structure vd (K:Frag)(C:bj)(name:Str):Prop where
 get:plainGet K C name=true
 dict:hasDictIn K C=true
 over:plainOver K C=true
 set:findIn K (.ref C) "__setattr__"=E (E (.builtin "object.__setattr__"))
 find:∃attr,findIn K (.ref C) name=E attr∧noGet K attr=true
 take:takerIn K C name=E none
section
variable {d x:bj}{xs:List c3}
theorem KN {e:c3}(aL:fY name=true)(aB:bT 4 k=true)(r:aN ρ h k e.key):e.key.isStr name=bn 4 k (.str (a7 name)):=by
 refine mi (aA:=fun _ k=>aN ρ h k e.key→e.key.isStr name=bn 4 k (.str (a7 name))) aB (fun _ i r=>?_) (fun _ c r=>?_) (fun m vs _ r=>?_) r
 .exact r.int_inv.elim fun t e=>by rw[e];rfl
 .refine dB r.str_inv fun p t g=>?_;rw[g.1,←g.2.2];exact AV g.2.1 aL
 .exact mb r.PK fun a ys n g=>by rw[g.1];rfl
theorem ite_no (b:Bool):¬(if b=true then none else E none:Option (Option aj))=E (E y):=by
 induction b using eo with
 |true=>exact fun h=>c5 h
 |false=>exact fun h=>c5 (cE h)
theorem Wx (aL:fY name=true){xs:List c3}{G:V→Prop}(r:de P ρ h es xs):(∀e∈es,bT 4 e.1=true)→(lv (.str (a7 name)) es fun r=>k3 r G)→
 ∃v y,G v∧aN ρ h v y∧getL name xs=E (E y):=by
 induction r with
 |nil=>exact fun _ g=>g.elim
 |@cons k v e es xs a b c r aF=>
  intro aD g;have q:=KN aL (aD _ List.mem_cons_self) a;refine(?_:ao (bn 4 k (.str (a7 name))) (G v) (lv (.str (a7 name)) es fun r=>k3 r G)→_) g;cases z:bn 4 k (.str (a7 name)) with
  |true=>intro g;refine⟨v,e.val,g,b,?_⟩;unfold getL;rw[List.find?_cons_of_pos (p:=fun x:c3=>x.key.isStr name) (q.trans z)]
  |false=>
   intro g;refine dB (aF (fun e he=>aD e (List.mem_cons_of_mem _ he)) g) fun lU y g=>⟨lU,y,g.1,g.2.1,?_⟩;have bv:=g.2.2;unfold getL at bv⊢;rw[List.find?_cons_of_neg (p:=fun x:c3=>x.key.isStr name) (fun p=>j9 ((q.trans z).symm.trans p).symm)];revert bv;cases List.find? (fun x:c3=>x.key.isStr name) xs with
   |some e=>exact id
   |none=>exact fun bv=>absurd bv (ite_no _)
theorem aN.handed (r:aN ρ h v y):handedIn y=true:=by cases r<;>first|rfl|assumption
theorem InstAt.mk' {C:bj}{o:Obj}(aS:h.get? x=E (instObj C d))(hd:h.get? d=E o):PySem.W.InstAt h x (instObj C d) C (E o):=⟨aS,rfl,rfl,hd⟩
theorem Wt {K:Frag}{C:bj}{C2:Bool}{G:V→Prop}(aG:K.In s.heap)(aS:s.heap.get? x=E (instObj C d))(hd:s.heap.get? d=E (dictOf xs n))
 (cS:de w.params ρ s.heap es xs)(aD:∀e∈es,bT 4 e.1=true)(aL:fY name=true)(aC:vd K C name)(g:lv (.str (a7 name)) es fun r=>k3 r G)
 (q:∀v y t,G v→aN ρ s.heap v y→Q y {s with toks:=t}):wpAny (model O w) A (getAttr (.ref x) name C2) Q b1 s:=by
 refine oD (Wx aL cS aD g) fun v y R Z bv=>dn aC.find fun attr f1 hY=>?_;exact get_value aG (InstAt.mk' aS hd) (plainGet_of aC.get).1 (findObj_own aC.dict f1 hY (by rw[lookIn_dict];exact bv)) Z.handed (q v y _ R Z)
theorem Yn {xs:List c3}(aE:(es.all fun e=>lF e.1)=true)(cS:de P ρ h es xs):xs.any (·.refKey)=false:=by
 rw[List.any_eq_false];intro e he;refine dm (List.mem_iff_getElem?.mp he) fun j cn=>oD (cS.at cn) fun k v aW aJ eG=>?_;clear eG;have:=List.all_eq_true.mp aE _ (List.mem_of_getElem? aW)
 induction k using V.casesOn with
 |str c=>refine mH aJ.str_inv fun p t cL eO=>?_;clear eO;unfold DictEntry.refKey;rw[cL];simp
 |_=>exact dW this
theorem acq (aL:fY name=true){t:Tok}{G:List (V×V)→Nat→Prop}(cS:de w.params ρ s.heap es xs)(aD:∀e∈es,bT 4 e.1=true)(hd:eD es)(bU:aN ρ s.heap v y)(g:ou (.str (a7 name)) v es G):
 ∃cT m,G cT m∧de w.params ρ s.heap cT (putL name (BK w.params name) (.str name t) y xs)∧putN name xs n=n+m∧(∀e∈cT,bT 4 e.1=true)∧eD cT∧cT.length≤es.length+1:=by
 have aB:bT 4 (.str (a7 name))=true:=rfl;have key:∀j e,xs[j]? =E e→e.key.isStr name=ke es (.str (a7 name)) j:=fun j e he=>by refine oD (cS.at he) fun k v aW aJ eG=>?_;clear eG;unfold ke;rw[aW];exact KN aL (aD _ (List.mem_of_getElem? aW)) aJ
 rw[←putL_find];rcases E9 g with⟨j,eA,lU,f1,hY,md⟩|⟨f1,hY⟩
 .have cn:j<xs.length:=by rw[←cS.length];exact(List.getElem?_eq_some_iff.mp f1).1
  have dM:xs[j].key.isStr name=true:=by rw[key j _ (List.getElem?_eq_getElem cn)];exact qS f1 hY
  have wc:xs.findIdx? (fun x=>x.key.isStr name)=E j:=by
   rw[List.findIdx?_eq_some_iff_getElem];refine⟨cn,dM,fun i hi=>?_⟩;have zm:i<xs.length:=sJ hi cn;intro aI;have R:ke es (.str (a7 name)) i=true:=by rw[←key i _ (List.getElem?_eq_getElem zm)];exact aI
   have:=vD aB hd R (qS f1 hY);lia
  refine⟨_,0,md,?_,?_,D1 zV aD,to.mpr (by rw[zV];exact to.mp hd),by rw[List.length_modify];lia⟩
  .rw[wc];exact cS.modify bU
  .unfold putN;rw[←any_of_findIdx,wc];rfl
 .have wc:xs.findIdx? (fun x=>x.key.isStr name)=none:=by
   rw[List.findIdx?_eq_none_iff];intro e he;refine dm (List.mem_iff_getElem?.mp he) fun j cn=>?_;rw[key j e cn];unfold ke;cases q:es[j]? with
   |none=>rfl
   |some p=>exact f1 p (List.mem_of_getElem? q)
  refine⟨_,1,hY,?_,?_,fun e he=>?_,?_,by simp⟩
  .rw[wc];refine cS.snoc (.str name t aL) bU ?_;show _=h4 w.params 4 (.str (a7 name));rw[h4,I6 aL];rfl
  .unfold putN;rw[←any_of_findIdx,wc];rfl
  .rcases List.mem_append.mp he with he|he
   .exact aD e he
   .rw[List.mem_singleton.mp he];exact aB
  .unfold eD;rw[List.pairwise_append];refine⟨hd,List.pairwise_singleton _ _,fun a aC b az=>?_⟩;rw[List.mem_singleton.mp az];exact f1 a aC
theorem abN {K:Frag}{C:bj}{dj:Tok}{G:List (V×V)→Nat→Prop}{bZ:Result→aQ→Prop}(aG:K.In s.heap)(aS:s.heap.get? x=E (instObj C d))(hd:s.heap.get? d=E (dictOf xs n))
 (cS:de w.params ρ s.heap es xs)(aD:∀e∈es,bT 4 e.1=true)(Dt:eD es)(aE:(es.all fun e=>lF e.1)=true)(j6:es.length≤1000)(aL:fY name=true)(aC:vd K C name)(bU:aN ρ s.heap v y)(g:ou (.str (a7 name)) v es G)
 (q:∀cT m fb h' t,G cT m→h'.get? d=E (dictOf fb (n+m))→fI d s.heap h'→de w.params ρ s.heap cT fb→(∀e∈cT,bT 4 e.1=true)→eD cT→bZ (.ok (.ret .none)) {s with heap:=h',toks:=t}):
 codeAny (model O w) A (.call (.builtin "object.__setattr__") ⟨[.ref x,.str name dj,y],[]⟩) bZ s:=by
 have aM:=InstAt.mk' aS hd;refine osa_open aG aM aC.over aC.take fun b=>dn (any_some aC.dict) fun rl aI kC=>ae (aX (ae (ae (wpAny_loadPart aS (ae ((looks_clsIn aG aI).here ?_))))));rw[kC];refine aX (a:=E d) (ae (aX (ae ?_)));unfold nsSet;refine ae (ae (wpAny_askSetting (aX (ae (wpAny_mkText (ae (wpAny_loadPart hd ?_)))))));dsimp only;have c:(!xs.toArray.any (·.key.isStr name)&&xs.toArray.any (·.refKey))=false:=by have:=Yn aE cS;rw[←Array.any_toList,←Array.any_toList];rw[this,jc]
 rw[aRefKeyMayBeTheName_at,c];refine dB (acq (n:=n) (t:=s.toks) aL cS aD Dt bU g) fun cT m bS=>yz bS fun g1 bL g3 ek ht nZ=>?_;clear bS;have Ha:(s.heap.update d (Obj.putName name (BK w.params name) (.str name s.toks) y)).get? d=E (dictOf (putL name (BK w.params name) (.str name s.toks) y xs) (n+m)):=by rw[l1 _ hd (by rw[putName_dict];rfl),putName_dict,g3]
 refine wpAny_updatePart hd<|ae (wpAny_lookBehind (s:={s with heap:=_,toks:=_}) Ha (pastItsLine_dict ?_) ?_)
 .rw[List.size_toArray,By,←bL.length];lia
 .exact aX (q cT m _ _ _ g1 Ha (kp ..) bL ek ht)
theorem ael {K:Frag}{C:bj}{G:List (V×V)→Nat→Prop}{Q:Unit→aQ→Prop}(aG:K.In s.heap)(aS:s.heap.get? x=E (instObj C d))(hd:s.heap.get? d=E (dictOf xs n))
 (cS:de w.params ρ s.heap es xs)(aD:∀e∈es,bT 4 e.1=true)(Dt:eD es)(aE:(es.all fun e=>lF e.1)=true)(j6:es.length≤1000)(aL:fY name=true)(aC:vd K C name)(bU:aN ρ s.heap v y)(g:ou (.str (a7 name)) v es G)
 (q:∀cT m fb h' t,G cT m→h'.get? d=E (dictOf fb (n+m))→fI d s.heap h'→de w.params ρ s.heap cT fb→(∀e∈cT,bT 4 e.1=true)→eD cT→Q () {s with heap:=h',toks:=t}):
 wpAny (model O w) A (setAttr (.ref x) name y) Q b1 s:=
 set_plain aG (InstAt.mk' aS hd) aC.set (abN (s:={s with toks:=s.toks+1}) aG aS hd cS aD Dt aE j6 aL aC bU g fun cT m fb h' t a b c e f i=>q cT m fb h' t a b c e f i)
end
def x7 (B:gD)(name:Str):Prop:=fY name=true∧∀c,o1 c=true→vd B.K c name
theorem RM (ok:B.Ok){a:V}{x:aj}{Q:V→Prop}{K:aj→aQ→Prop}{C2:Bool}(aL:x7 B name)(r:bZ w.params B I ah ay ρ H loc s)
 (h:rh a (a7 name) H Q)(bH:aN ρ s.heap a x)(q:∀v y t,Q v→aN ρ s.heap v y→K y {s with toks:=t}):wpAny (model O w) A (getAttr x name C2) K eX s:=by
 exact EX h bH fun l b h ar=>r.am.rH ar h fun d c TX h eY dX aI=>r.am.mY dX h fun es n xs aJ h jN cS aD hX=>Wt (ok.K.keeps r.keeps) eY jN cS aD aL.1 (aL.2 c aI) (mV h).2 q
noncomputable def oY:aY→Bool
 |.Call _ _ _ _=>false
 |_=>true
theorem RL (h:oY e=true)(attr:Str)(pos:Pos)(I:Env):eval (.Attribute e attr pos) I=(do
 let o←eval e I
 standAt pos.atName
 let r←holding [o] (getAttr o attr true)
 letTemporaryGo e o r
 pure r):=by cases e<;>first|rfl|exact dW h
theorem adS (ok:B.Ok){x:aG}(aL:x7 B name)(az:oY e=true)(he:cV O w B C A I ay e x):cV O w B C A I ay (.Attribute e name p) (.attr x (a7 name)):=
 fun ah loc H ρ s Q K h dZ q=>aay (he ah loc H ρ s _ _ h dZ fun a aq bP u s1 R bt eC bk=>
  cU (RM ok aL (dZ.step bk bt) R eC fun v y t co bU=>(q.after bk) v aq bP y _ co bt bU .toks)) (RL az _ _ _)
namespace dS
theorem OY:Slot "bytearray" "__len__" "bytearray.__len__":=
 .of (owner:="bytearray") (n:="__len__") (by rw[jA,jz];kernel_rfl) (by decide+kernel) (by decide+kernel) (by decide+kernel)
  (by first|exact .inl (by decide+kernel)|exact .inr (by decide+kernel)) (by rw[nB];kernel_rfl)
theorem Ut:entryFor table "bytearray.__len__"=E Builtin.«bytearray.__len__»:=by first|exact u2 (by kernel_rfl)|exact u1 (by kernel_rfl)
theorem RC (a:aj):argsOk "bytearray.__len__" ⟨[a],[]⟩:=by unfold argsOk;kernel_rfl
theorem AN:Slot "bytearray" "__getitem__" "bytearray.__getitem__":=
 .of (owner:="bytearray") (n:="__getitem__") (by rw[jA,jz];kernel_rfl) (by decide+kernel) (by decide+kernel) (by decide+kernel)
  (by first|exact .inl (by decide+kernel)|exact .inr (by decide+kernel)) (by rw[nB];kernel_rfl)
theorem Jl:entryFor table "bytearray.__getitem__"=E Builtin.«bytearray.__getitem__»:=by first|exact u2 (by kernel_rfl)|exact u1 (by kernel_rfl)
theorem Ir (a b:aj):argsOk "bytearray.__getitem__" ⟨[a,b],[]⟩:=by unfold argsOk;kernel_rfl
theorem aeN:Slot "bytearray" "__setitem__" "bytearray.__setitem__":=
 .of (owner:="bytearray") (n:="__setitem__") (by rw[jA,jz];kernel_rfl) (by decide+kernel) (by decide+kernel) (by decide+kernel)
  (by first|exact .inl (by decide+kernel)|exact .inr (by decide+kernel)) (by rw[nB];kernel_rfl)
theorem Uu:entryFor table "bytearray.__setitem__"=E Builtin.«bytearray.__setitem__»:=by first|exact u2 (by kernel_rfl)|exact u1 (by kernel_rfl)
theorem RD (a b c:aj):argsOk "bytearray.__setitem__" ⟨[a,b,c],[]⟩:=by unfold argsOk;kernel_rfl
theorem OW:Slot "bytearray" "__iter__" "bytearray.__iter__":=
 .of (owner:="bytearray") (n:="__iter__") (by rw[jA,jz];kernel_rfl) (by decide+kernel) (by decide+kernel) (by decide+kernel)
  (by first|exact .inl (by decide+kernel)|exact .inr (by decide+kernel)) (by rw[nB];kernel_rfl)
theorem Ur:entryFor table "bytearray.__iter__"=E Builtin.«bytearray.__iter__»:=by first|exact u2 (by kernel_rfl)|exact u1 (by kernel_rfl)
theorem RA (a:aj):argsOk "bytearray.__iter__" ⟨[a],[]⟩:=by unfold argsOk;kernel_rfl
theorem aeM:Slot "bytearray" "__init__" "bytearray.__init__":=
 .of (owner:="bytearray") (n:="__init__") (by rw[jA,jz];kernel_rfl) (by decide+kernel) (by decide+kernel) (by decide+kernel)
  (by first|exact .inl (by decide+kernel)|exact .inr (by decide+kernel)) (by rw[nB];kernel_rfl)
theorem Uq:entryFor table "bytearray.__init__"=E Builtin.«bytearray.__init__»:=by first|exact u2 (by kernel_rfl)|exact u1 (by kernel_rfl)
theorem Rz (a b:aj):argsOk "bytearray.__init__" ⟨[a,b],[]⟩:=by unfold argsOk;kernel_rfl
theorem uu:Slot "bytearray_iterator" "__next__" "bytearray_iterator.__next__":=
 .of (owner:="bytearray_iterator") (n:="__next__") (by rw[jA,jz];kernel_rfl) (by decide+kernel) (by decide+kernel) (by decide+kernel)
  (by first|exact .inl (by decide+kernel)|exact .inr (by decide+kernel)) (by rw[nB];kernel_rfl)
theorem Jm:entryFor table "bytearray_iterator.__next__"=E Builtin.«bytearray_iterator.__next__»:=by first|exact u2 (by kernel_rfl)|exact u1 (by kernel_rfl)
theorem It (a:aj):argsOk "bytearray_iterator.__next__" ⟨[a],[]⟩:=by unfold argsOk;kernel_rfl
end dS
section
open PySem.Builtin
section
variable {b:Array UInt8}
theorem i1 (e:s.heap.get? a=E (e5 b)):s.TypeIs (.ref a) "bytearray":=⟨_,e,rfl⟩
theorem tc {Q:Array UInt8→aQ→Prop}(e:s.heap.get? a=E (e5 b))(h:Q b s):wpAny aA A (Bytes.payload (.ref a)) Q b1 s:=by unfold Bytes.payload Bytes.payload?;exact ae (ae (nD e (aX (aX h))))
theorem RT:Meets (Builtin.«bytearray.__len__» ⟨[.ref a],[]⟩) (fun _ bZ s=>s.heap.get? a=E (e5 b)∧bZ (.ok (.ret (.int b.size s.toks))) {s with toks:=s.toks+1}):=
 .of_wp fun O w A bZ s ⟨e,h⟩=>by refine(?_:wpAny _ _ (Bytes.payload (.ref a)>>=fun r=>_) _ _ s);refine ae (tc e ?_);exact ae (u5 (aX ⟨_,rfl,h⟩))
theorem RR {i:Int}{t:Tok}{x:UInt8}(bl:0≤i)(hi:i<2^62)(aS:b[i.toNat]? =E x):
 Meets (Builtin.«bytearray.__getitem__» ⟨[.ref a,.int i t],[]⟩) (fun _ bZ s=>s.heap.get? a=E (e5 b)∧bZ (.ok (.ret (.int x.toNat s.toks))) {s with toks:=s.toks+1}):=
 .of_wp fun O w A bZ s ⟨e,h⟩=>by
  refine(?_:wpAny _ _ (Bytes.subscript? (.int i t)>>=fun r=>_) _ _ s);refine ae ?_;unfold Bytes.subscript?;refine ae (iQ (xX s i t) F.slot_int_index.lookup ?_);refine(?_:wpAny _ _ (if(!Bytes.fitsIndex i)=true then _ else pure (E i)) _ _ s);have am:Bytes.fitsIndex i=true:=by simp only[Bytes.fitsIndex,fH,decide_eq_true_eq];lia
  rw[am];refine aX ?_;refine(?_:wpAny _ _ (Bytes.payload (.ref a)>>=fun r=>_) _ _ s);refine ae (tc e ?_);refine(?_:wpAny _ _ (match(seqIndex? i b.size).bind (b[·]?) with|some x=>_|none=>_) _ _ s)
  have ed:i.toNat<b.size:=by have:=(Go.mp aS).1;exact this
  have:seqIndex? i b.size=E i.toNat:=by
   have aL:¬i<0:=by lia
   have R:i<b.size:=by lia
   simp[seqIndex?,aL,bl,R]
  rw[this,Option.bind_some,aS];exact ae (u5 (aX ⟨_,rfl,h⟩))
theorem RQ {i:Int}{t:Tok}{x:UInt8}(e:s.heap.get? a=E (e5 b))(bl:0≤i)(hi:i<2^62)(aS:b[i.toNat]? =E x)
 (h:Q (.int x.toNat s.toks) {s with toks:=s.toks+1}):wpAny (model O w) A (getItem (.ref a) (.int i t)) Q b1 s:=
 GR (i1 e) (by decide) dS.AN dS.Jl (dS.Ir _ _) (RR bl hi aS) ⟨e,h⟩
theorem aa1 {c:Array UInt8}(hz:c.size≤sizeLine)(h:Q (.ref s.heap.objs.size) {s with heap:=s.heap.push (e5 c)}):wpAny aA A (Bytes.newBytearray c) Q b1 s:=by unfold Bytes.newBytearray;exact jB h hz
theorem RU {ch:bj}{l u:aj}(ar:IsPart l lo)(bx:IsPart u hi):
 Meets (Builtin.«bytearray.__getitem__» ⟨[.ref a,.ref ch],[]⟩) (fun _ bZ s=>s.heap.get? a=E (e5 b)∧s.heap.IsSliceOf ch l u .none∧(BN b lo hi).size≤sizeLine∧
  bZ (.ok (.ret (.ref s.heap.objs.size))) {s with heap:=s.heap.push (e5 (BN b lo hi))}):=by
 refine .of_wp fun O w A bZ s bb=>?_;refine kR bb fun e cg DI h=>?_;clear bb;refine dm cg fun o bS=>?_;refine hJ bS fun ax aI hd=>?_;clear bS cg;have cr:s.TypeIs (.ref ch) "slice":=⟨o,ax,aI⟩;refine(?_:wpAny _ _ (Bytes.subscript? (.ref ch)>>=fun r=>_) _ _ s);refine ae ?_;unfold Bytes.subscript?;refine ae (iQ cr GW (aX ?_));refine ae (u9 cr ?_);refine(?_:wpAny _ _ (Bytes.sliceParts (.ref ch)>>=fun r=>_) _ _ s);refine ae ?_;unfold Bytes.sliceParts;refine ae (h9 (x:=.none) ax hd rfl ?_)
 kby_none
 refine nC (nH (show¬((cf==rawInt 0)=true) from d7) ?_);refine ae (h9 (x:=l) ax hd rfl ?_);have go:wpAny (model O w) A.in1 (sliceIndices (rawPart lo) (rawPart hi) (rawPart none) b.size) (fun r s'=>r=sliceBounds lo hi none b.size∧s'=s) (fun _ _=>False) s:=
  hq (GV lo hi none b.size (fun e=>nomatch e)) ⟨rfl,rfl⟩
 cases ar<;>cases bx<;>(first
  |(kby_none;(refine ae (h9 (x:=.none) ax hd rfl ?_));kby_none)
  |(kby_none;(refine ae (h9 (x:=.int _ _) ax hd rfl ?_));kby_int)
  |(kby_int;(refine ae (h9 (x:=.none) ax hd rfl ?_));kby_none)
  |(kby_int;(refine ae (h9 (x:=.int _ _) ax hd rfl ?_));kby_int))<;>refine aX ?_
 all_goals
  refine ae (tc e ?_);refine ae (sN go (fun r s' am=>?_) fun _ _ e=>e.elim);refine b7 am fun bt cq=>?_;clear am;subst bt cq;exact ae (aa1 DI (aX ⟨_,rfl,h⟩))
end
end
section
open PySem.Builtin
theorem NN {o:Option V}{K:V→Prop}(h:k3 o K)(k:∀v,o=E v→K v→G):G:=by
 induction o using ez with
 |none=>exact h.elim
 |some v=>exact k v rfl h
theorem bJ.at:∀{xs:List aj} {j:Nat} {v:V},bJ ρ h vs xs→vs[j]? =E v→∃x,xs[j]? =E x∧aN ρ h v x:=by
 induction vs with
 |nil=>exact fun _ e=>c5 e
 |cons u vs aF=>
  intro xs j v r e;refine r.gS fun y ys a dx=>?_
  induction j using h8 with
  |zero=>obtain rfl:=cE e;exact⟨y,rfl,a⟩
  |succ j=>exact aF (xs:=ys) (j:=j) dx e
theorem Yj {is:List Int}{i:Int}(h:IntsAre xs is)(e:is[j]? =E i):∃t,xs[j]? =E (.int i t):=by
 induction h generalizing j with
 |nil=>exact c5 e
 |cons n t r aF=>induction j using h8 with
  |zero=>obtain rfl:=cE e;exact⟨t,rfl⟩
  |succ j=>exact aF e
theorem Nw {a:Array UInt8}{i:Int}(e:(dY a)[j]? =E i):∃x,a[j]? =E x∧i=x.toNat:=by unfold dY at e;rw[List.getElem?_map] at e;exact dn (GL.mp e) fun x R Z=>⟨x,by simpa using R,Z.symm⟩
theorem OC {x:Int}(bl:0≤x)(h:x.toNat<n):seqIndex? x n=E x.toNat:=by
 have R:¬x<0:=by lia
 have Z:x<n:=by lia
 simp[seqIndex?,R,bl,Z]
theorem VY {x:Int}(bl:0≤x)(h:x<2^62):Bytes.fitsIndex x=true:=by simp only[Bytes.fitsIndex,fH,decide_eq_true_eq];lia
noncomputable def qt:aY→Bool
 |.Slice _ _ none _=>true
 |_=>false
theorem afG {slice:aY}(h:qt slice=false)(o i:aj):subscripted slice false o i=operate [o,i] (getItem o i):=by
 unfold subscripted
 split
 .exact j9 h
 .contradiction
 .rfl
theorem vt {b:List Int}{x:Int}{K:Int→Prop}(h:tb b x K)(k:∀c,b[x.toNat]? =E c→K c→G):G:=
 nU h fun R Z=>by rw[List.getD_eq_getElem?_getD,List.getElem?_eq_getElem R] at Z;exact k _ (List.getElem?_eq_getElem R) Z
theorem Yh:∀{is:List Int},lD vs=E is→vs=is.map .int:=by
 induction vs with
 |nil=>intro is h;obtain rfl:=cE h;rfl
 |cons v r aF=>
  intro is h
  induction v using V.casesOn with
  |int i=>
   refine(?_:(match lD r with|some is=>E (i::is)|dk=>dk)=E is→_) h
   cases e:lD r with
   |none=>exact fun h=>c5 h
   |some KX=>intro h;obtain rfl:=cE h;rw[aF e];rfl
  |_=>exact c5 h
theorem afD {x:Int}{K:V→Prop}(h:FQ vs x K)(k:∀v,vs[x.toNat]? =E v→K v→G):G:=by
 unfold FQ at h;generalize e:lD vs=f7 at h
 induction f7 using ez with
 |none=>exact NN h k
 |some is=>exact vt h fun c aW h=>k _ (by rw[Yh e,List.getElem?_map,aW];rfl) h
@[elab_as_elim] theorem tN {i:V}{K:Int→Prop}{aA:aj→Prop}(c:rL i K)(r:aN ρ h i y)(k:∀x t,0≤x→x<2^62→K x→aA (.int x t)):aA y:=by
 induction i using V.casesOn with
 |int x=>exact r.fg fun t=>nU c fun bl h=>k x t bl.1 bl.2 h
 |_=>exact ft c
theorem Kx {x:Int}(h:x<2^62):x<2^63:=ko h (by decide)
theorem aax {x:Int}(h:0≤x): -(2^63)≤x:=q2 (by decide) h
theorem JP {vs:List aj}{is:List Int}{x i:Int}{t:Tok}(e:s.heap.get? a=E (listOf vs.toArray n))(DP:IntsAre vs is)(bl:0≤x)(aS:x<2^62)(hi:is[x.toNat]? =E i)
 (q:∀u,Q (.int i u) s):wpAny (model O w) A (getItem (.ref a) (.int x t)) Q b1 s:=by
 exact dm (Yj DP hi) fun u bx=>wpAny_getItem_list (x:=.int i u) (isList e) bl (by lia) (by simpa using bx) (q u)
theorem afE {Be slice:aY}{a b:V}{x:aj}{Q:bI}{K:aj→aQ→Prop}(bx:A.units+20<cLine)(aE:qt slice=false)(h:xj a b H Q)
 (am:bz w.params ρ H s.heap)(bH:aN ρ s.heap a x)(bm:aN ρ s.heap b y)(q:jD w.params ρ s Q K):wpAny (model O w) A (subscriptTail Be slice x y) K eX s:=by
 have gq:=fun x y=>afG aE x y;have c6:∀v z,Q v H→aN ρ s.heap v z→K z s:=fun v z a9 bU=>q v H ρ z s a9 am bU (.refl _ _ _);have r7:∀i u n,Q (.int i) H→K (.int i u) {s with toks:=n}:=fun i u n a9=>q _ H ρ _ _ a9 am (.int i u) .toks
 induction a using V.casesOn with
 |tup vs=>exact tN h bm fun i t bl R Z=>afD Z fun v e Z=>bH.gM fun l xs n o r=>(r.at e).elim fun z g=>nA (isTup o).typeIs slot_tuple_getitem.lookup (getItem_tuple (isTup o) (aax bl) (Kx R) (OC bl (List.getElem?_eq_some_iff.mp g.1).1) (by simpa using g.1) (c6 v z Z g.2)) (gq _ _)
 |bytes bs=>
  exact tN h bm fun i t bl R Z=>vt Z fun c kx Z=>by
   revert kx;refine bH.o0 fun u mB _ kx=>(Nw kx).elim fun z g=>?_;obtain rfl:=g.2;refine nA (pM _ _ _) BM.lookup (getItem_gives (pM s _ mB) (by decide) BM QB (QA _ _)
    (gives_bytes_getitem _ i mB t z (VY bl R) ?_) (r7 _ _ _ Z)) (gq _ _)
   rw[OC bl (Go.mp g.1).1];exact g.1
 |ref l=>
  refine bH.hl fun p ar=>?_;refine(?_:(match H[l]? with|some ob=>Pe ob b fun v=>Q v H|dk=>False)→_) h
  generalize eT:H[l]? =f7
  induction f7 using ez with
  |none=>exact fun h=>h.elim
  |some ob=>induction ob using an.casesOn with
   |«list» vs=>exact fun h=>tN h bm fun i t bl R Z=>NN Z fun v e Z=>dB (am.list ar eT) fun xs n g=>(g.2.at e).elim fun z bL=>nA (isList g.1).typeIs xW.lookup (wpAny_getItem_list (isList g.1) bl (Kx R) (by simpa using bL.1) (c6 v z Z bL.2)) (gq _ _)
   |«ints» is=>exact fun h=>tN h bm fun i t bl R Z=>vt Z fun c kx Z=>dB (am.ints ar eT) fun xs n g=>nA (isList g.1).typeIs xW.lookup (JP g.1 g.2 bl R kx fun u=>r7 c u s.toks Z) (gq _ _)
   |cA bs=>exact fun h=>tN h bm fun i t bl R Z=>vt Z fun c kx Z=>(am.cA ar eT).elim fun u g=>by rw[←g.2.2] at kx;refine(Nw kx).elim fun z k=>?_;obtain rfl:=k.2;exact nA (i1 g.1) dS.AN.lookup (RQ g.1 bl R k.1 (r7 _ _ _ Z)) (gq _ _)
   |dict es n=>exact fun h=>j1 h fun R Z=>(am.dict ar eT).elim fun xs g=>nA (fo g.1) GY.lookup (Ww g.1 g.2.1 g.2.2.1 g.2.2.2 R bm (mK (Gz (by decide) _) bx) Z fun v z t g hz=>q v H ρ z _ g am hz .toks) (gq _ _)
   |d5 is=>exact fun h=>tN h bm fun i t bl R Z=>vt Z fun c kx Z=>dB (am.d5 ar eT) fun xs n g=>nA (isList g.1).typeIs xW.lookup (JP g.1 g.2 bl R kx fun u=>r7 c u s.toks Z) (gq _ _)
   |_=>exact fun h=>h.elim
 |_=>exact h.elim
theorem aef (bx:A.units+20<cLine){f:aY}{x y:aG}(aE:qt f=false)(he:cV O w B C A I ay e x)(hf:cV O w B C A I ay f y):cV O w B C A I ay (.Subscript e f p) (.sub x y):=
 fun ah loc H ρ s Q K h dZ q=>MY (he ah loc H ρ s _ _ h dZ fun a aq bP u s1 R bt eC bk=>
  hf ah loc aq bP s1 _ _ R (dZ.step bk bt) fun b be cu v s2 Z cq jS ck=>cU (afE bx aE Z cq (eC.mono ck.fU bt.di) jS ((q.after bk).after ck)))
end
section
open PySem.Builtin
theorem CF {i:Int}(h:0≤i):clipAt n i=min i.toNat n:=by refine dm (jV h) fun k cg=>?_;subst cg;exact clipAt_nat n k
theorem TQ {a4:Type}{ys:List a4}{l:Nat}(h:ys.length≤n):ys.drop (min l n)=ys.drop l:=by
 rcases GA l n with k|k
 .rw[q4 k]
 .rw[Nat.min_eq_right k,List.drop_eq_nil_of_le h,List.drop_eq_nil_of_le (e3 h k)]
theorem CH {a4:Type}(xs:List a4)(aL:xs.length=n)(R:pj lo)(Z:pj hi):
 (xs.drop (lo.elim 0 (clipAt n))).take (hi.elim n (clipAt n)-lo.elim 0 (clipAt n))=cut xs lo hi:=by
 rw[←List.drop_take];have e:xs.take (hi.elim n (clipAt n))=cut xs none hi:=by
  induction hi using ez with
  |none=>exact List.take_of_length_le (sI aL)
  |some h=>refine(?_:xs.take (clipAt n h)=xs.take h.toNat);rw[CF Z.1,←aL];exact List.take_eq_take_min.symm
 rw[e];have ar:(cut xs none hi).length≤n:=by rw[←e,List.length_take,aL];exact GF _ _
 induction lo using ez with
 |none=>rfl
 |some l=>refine(?_:(cut xs none hi).drop (clipAt n l)=(cut xs none hi).drop l.toNat);rw[CF R.1,TQ ar]
theorem IntsAre.gI {is:List Int}(h:IntsAre xs is):IntsAre (Mine.gI xs) (Mine.gI is):=by
 have:IntsAre (Mine.gI xs) (Mine.gI is)∧∀n t,IntsAre (Mine.gI (.int n t::xs)) (Mine.gI (n::is)):=by
  induction h with
  |nil=>exact⟨.nil,fun n t=>.cons n t .nil⟩
  |cons n t r aF=>exact⟨aF.2 n t,fun m u=>.cons m u aF.1⟩
 exact this.1
theorem IntsAre.cut {is:List Int}(h:IntsAre xs is)(lo hi:Option Int):IntsAre (Mine.cut xs lo hi) (Mine.cut is lo hi):=by
 unfold Mine.cut;cases lo<;>cases hi
 .exact h
 .exact h.take _
 .exact h.drop _
 .exact(h.take _).drop _
theorem ab9 {a4:Type}(xs:List a4)(n:Nat):(∀ys a,xs.drop a=ys→n≤ys.length→((List.range ((n+1)/2)).map fun k=>a+2*k).filterMap (xs[·]?)=Mine.gI (ys.take n))∧
 ∀ys a,xs.drop a=ys→n+1≤ys.length→((List.range ((n+2)/2)).map fun k=>a+2*k).filterMap (xs[·]?)=Mine.gI (ys.take (n+1)):=by
 have Ix:∀{y ys a},xs.drop a=y::ys→xs[a]? =E y:=fun e=>by rw[←List.head?_drop,e];rfl
 induction n with
 |zero=>
  refine⟨fun ys a _ _=>rfl,fun ys a e h=>?_⟩
  induction ys using List.casesOn with
  |nil=>exact absurd h (Bt _)
  |cons y ys=>refine(?_:([a].filterMap (xs[·]?))=[y]);rw[List.filterMap_cons,Ix e];rfl
 |succ n aF=>
  refine⟨aF.2,fun ys a e h=>?_⟩
  induction ys using List.casesOn with
  |nil=>exact absurd h (Bt _)
  |cons y ys=>induction ys using List.casesOn with
   |nil=>exact absurd (xQ h) (Bt _)
   |cons z ys=>
    rw[show(n+1+2)/2=(n+1)/2+1 from Nat.add_div_right (n+1) (by decide),List.range_succ_eq_map,List.map_cons,List.map_map,List.filterMap_cons];refine(?_:(match xs[a]? with|none=>_|some b=>b::_)=_)
    rw[Ix e];have aJ:((fun k=>a+2*k)∘Nat.succ)=fun k=>(a+2)+2*k:=funext fun k=>(Nat.add_right_comm a 2 (2*k)).symm;rw[aJ];have cI:xs.drop (a+2)=ys:=by rw[←List.drop_drop,e];rfl
    exact congrArg (y:: ·) (aF.1 ys (a+2) cI (xQ (xQ h)))
theorem acA (a d:Nat):sliceRange a (a+d:Nat) 2=(List.range ((d+1)/2)).map fun k=>a+2*k:=by
 unfold sliceRange;have aJ:(fun k:Nat=>((a:Int)+2*(k:Int)).toNat)=fun k=>a+2*k:=funext fun k=>by refine(?_:((a:Int)+((2:Nat):Int)*(k:Int)).toNat=a+2*k);rw[←Int.natCast_mul,←Int.natCast_add,pI]
 rw[aJ];rw[if_pos (by decide)]
 induction d using h8 with
 |zero=>rw[Nat.add_zero,if_neg (Int.lt_irrefl _)];rfl
 |succ d=>rw[if_pos (by lia),show((a+(d+1):Nat):Int)-a+2-1=((d+1+1:Nat):Int) by lia];rfl
theorem aeJ (items:Array aj)(R:pj lo)(Z:pj hi):slicePick items lo hi (E 2)=(Mine.gI (Mine.cut items.toList lo hi)).toArray:=by
 rw[←CH items.toList (n:=items.size) xE R Z];unfold slicePick;have ih:sliceBounds lo hi (E 2) items.size=(((lo.elim 0 (clipAt items.size):Nat):Int),((hi.elim items.size (clipAt items.size):Nat):Int),2):=by cases lo<;>cases hi<;>simp[sliceBounds,clipAt_cast]
 rw[ih];dsimp only;have aC:hi.elim items.size (clipAt items.size)≤items.size:=by
  clear ih
  induction hi using ez with
  |none=>exact kN _
  |some h=>show clipAt items.size h≤items.size;rw[CF Z.1];exact GF _ _
 revert aC;generalize lo.elim 0 (clipAt items.size)=a;generalize hi.elim items.size (clipAt items.size)=c;intro aC;congr 1;rcases GA a c with zh|zh
 .refine dm (Nat.exists_eq_add_of_le zh) fun d cg=>?_;subst cg;rw[acA,sG];have:=(ab9 items.toList d).1 _ a rfl (by rw[List.length_drop,xE];exact Nat.le_sub_of_add_le' aC);rw[←this];congr 1;funext i;exact Qg.symm
 .rw[Qs zh];unfold sliceRange;rw[if_pos (by decide),if_neg (Int.not_lt.mpr (lj.mpr zh))];rfl
def sZ (O:hS)(w:eJ)(B:gD)(C:hT)(A:fu)(I:Env)(ay:List Str)(e:Option aY)(x:aG):Prop:=∀ah loc H ρ s (Q:bI) (K:aj→aQ→Prop),cF C B.G loc x H Q→bZ w.params B I ah ay ρ H loc s→jD w.params ρ s Q K→
 aO O w A (evalPart e I) K s
theorem Mt {a:V}{l:Option Int}{x:aj}(e:lo? a=E l)(r:aN ρ h a x):IsPart x l:=by
 induction a using V.casesOn with
 |none=>cases r;exact fc e▸.none
 |int i=>refine r.fg ?_;intro t;exact fc e▸.int _ _
 |_=>exact hj e
theorem afF (lo hi st:Option aY)(p:Pos)(o i:aj):∃uc,subscripted (.Slice lo hi st p) false o i=operate uc (getItem o i):=by
 induction st using ez with
 |none=>exact⟨_,rfl⟩
 |some _=>exact⟨_,rfl⟩
theorem Mp (h:n≤1000000):n≤sizeLine:=e3 h (by decide:1000000≤sizeLine)
theorem NV (b:Array UInt8)(R:pj lo)(Z:pj hi):dY (BN b lo hi)=cut (dY b) lo hi:=by rw[KBc.picked_eq];unfold dY;rw[List.map_take,List.map_drop,←CH _ (n:=b.size) (by rw[List.length_map,xE]) R Z]
structure Q0 (lo hi:V)(st o:V)(H:List an)(K:bI)(l h:Option Int):Prop where
 aW:lo? lo=E l
 aJ:lo? hi=E h
 R:pj l
 Z:pj h
 k:match st with
  |.none=>(match o with
   |.bytes b=>K (.bytes (cut b l h)) H
   |.ref a=>(match H[a]? with
    |some (.ints xs)=>cY (xs.length≤1000000) (K (.ref H.length) (H++[.ints (cut xs l h)]))
    |some (.cA xs)=>K (.ref H.length) (H++[.cA (cut xs l h)])
    |_=>False)
   |_=>False)
  |.int st=>cY (st=2) (match o with
   |.ref a=>(match H[a]? with
    |some (.ints xs)=>cY (xs.length≤1000000) (K (.ref H.length) (H++[.ints (gI (cut xs l h))]))
    |_=>False)
   |_=>False)
  |_=>False
theorem aeK {o lo hi st:V}(h:AM o lo hi st H K):∃l r,Q0 lo hi st o H K l r:=by
 unfold AM at h;generalize aW:lo? lo=eY at h;generalize aJ:lo? hi=dX at h
 induction eY using ez with
 |none=>exact h.elim
 |some l=>induction dX using ez with
  |none=>exact h.elim
  |some r=>have h:=fK h;have g:=gC.mp h.1;exact⟨l,r,aW,aJ,ND g.1,ND g.2,h.2⟩
theorem aeL {Be:aY}{lo hi st:Option aY}{o l u z:V}{x kl oE oF:aj}{Q:bI}{K:aj→aQ→Prop}(h:AM o l u z H Q)
 (am:bz w.params ρ H s.heap)(sd:aN ρ s.heap o x)(Oi:aN ρ s.heap l kl)(ul:aN ρ s.heap u oE)(On:aN ρ s.heap z oF)(q:jD w.params ρ s Q K):
 wpAny (model O w) A (subscriptTail Be (.Slice lo hi st p) x (.ref s.heap.objs.size)) K eX {s with heap:=s.heap.push {cls:=.type "slice",data:=.fields #[kl,oE,oF]}}:=by
 refine(aeK h).elim fun oZ g=>g.elim fun vw g=>?_;have pl:=Mt g.aW Oi;have AA:=Mt g.aJ ul;have R:=g.R;have Z:=g.Z;have h:=g.k;clear g Oi ul;have bk:Step [] ρ s ρ {s with heap:=s.heap.push {cls:=.type "slice",data:=.fields #[kl,oE,oF]}}:=.push _
 have cg:=q.after bk;clear bk;have lF:=Qy s.heap kl oE oF;have bt:bz w.params ρ H (s.heap.push {cls:=.type "slice",data:=.fields #[kl,oE,oF]}):=am.push _;refine(afF lo hi st p x (.ref s.heap.objs.size)).elim fun uc gq=>?_;clear q am;revert cg lF bt;refine(?_:jD w.params ρ {s with heap:=s.heap.push {cls:=.type "slice",data:=.fields #[kl,oE,oF]}} Q K→_)
 generalize s.heap.push {cls:=.type "slice",data:=.fields #[kl,oE,oF]}=bl;intro cg lF bt;have N6:∀{b:Array UInt8},b.size≤1000000→(BN b oZ vw).size≤sizeLine:=fun hz=>e3 (G8 _ _ _) (Mp hz);have qE:∀{ys:List aj} {is:List Int},IntsAre ys is→is.length≤1000000→ys.toArray.size≤sizeLine:=fun i hz=>by rw[List.size_toArray,i.length];exact Mp hz
 induction z using V.casesOn with
 |none=>
  cases On
  induction o using V.casesOn with
  |bytes Iz=>
   refine sd.o0 (aA:=fun Iz x=>subscripted (.Slice lo hi st p) false x (.ref s.heap.objs.size)=operate uc (getItem x (.ref s.heap.objs.size))→Q (.bytes (cut Iz oZ vw)) H→wpAny (model O w) A (subscriptTail Be (.Slice lo hi st p) x (.ref s.heap.objs.size)) K eX {s with heap:=bl}) (fun b t hz gq h=>?_) gq h
   rw[←NV b R Z] at h;exact nA (pM _ _ _) BM.lookup (GR (pM _ _ _) (by decide) BM QB (QA _ _)
    (KBc.meets_slice2 b t _ pl AA) ⟨lF,N6 hz,fun mB k=>cg _ H ρ _ _ h bt (.bytes _ _ (e3 (G8 b _ _) hz)) .toks⟩) gq
  |ref du=>
   revert gq;refine sd.hl ?_;intro a ar gq;dsimp only at h;generalize e:H[du]? =f7 at h
   induction f7 using ez with
   |none=>exact h.elim
   |some ob=>induction ob using an.casesOn with
    |«ints» is=>have h:=j2 h;refine(bt.ints ar e).elim fun ys g=>g.elim fun n g=>nA (isList g.1).typeIs xW.lookup (Qv (isList g.1) lF pl AA .none (by simp) ?_ (qE g.2 h.1)) gq;refine wT bt rfl (o:=.ints (cut is oZ vw)) ?_ h.2 cg s.toks;rw[slicePick_plain,CH _ (n:=ys.toArray.size) xE R Z];exact .ints (Mine.IntsAre.cut g.2 _ _)
    |cA bs=>
     refine(bt.cA ar e).elim fun b g=>?_;have h:Q (.ref H.length) (H++[.cA (cut bs oZ vw)]):=h;rw[←g.2.2,←NV b R Z] at h;exact nA (i1 g.1) dS.AN.lookup (GR (i1 g.1) (by decide) dS.AN dS.Jl (dS.Ir _ _)
      (RU pl AA) ⟨g.1,lF,N6 g.2.1,wT bt rfl (.cA _ (e3 (G8 b _ _) g.2.1)) h cg s.toks⟩) gq
    |_=>exact h.elim
  |_=>exact h.elim
 |int i=>
  revert lF;refine On.fg ?_;intro t lF;have h:=j2 h;have bl:=h.1;subst bl;replace h:=h.2
  induction o using V.casesOn with
  |ref du=>
   revert gq;refine sd.hl ?_;intro a ar gq;dsimp only at h;generalize e:H[du]? =f7 at h
   induction f7 using ez with
   |none=>exact h.elim
   |some ob=>induction ob using an.casesOn with
    |«ints» is=>have h:=j2 h;refine(bt.ints ar e).elim fun ys g=>g.elim fun n g=>nA (isList g.1).typeIs xW.lookup (Qv (isList g.1) lF pl AA (.int _ _) (by simp) ?_ (qE g.2 h.1)) gq;refine wT bt rfl (o:=.ints (gI (cut is oZ vw))) ?_ h.2 cg s.toks;rw[aeJ _ R Z];exact .ints (IntsAre.gI (Mine.IntsAre.cut g.2 _ _))
    |_=>exact h.elim
  |_=>exact h.elim
 |_=>exact h.elim
theorem aeZ:sZ O w B C A I ay none .none:=fun _ _ H ρ s Q K h r q=>by rw[evalPart_none];exact cM (q _ H ρ _ s h r.am .none (.refl _ _ _))
theorem ae0 {x:aG}(h:cV O w B C A I ay e x):sZ O w B C A I ay (E e) x:=fun ah loc H ρ s Q K co r q=>by rw[evalPart_some];exact h ah loc H ρ s Q K co r q
theorem aed {l u z:Option aY}{x kl oE oF:aG}{oh:Pos}(he:cV O w B C A I ay e x)(ar:sZ O w B C A I ay l kl)(bx:sZ O w B C A I ay u oE)(hz:sZ O w B C A I ay z oF):
 cV O w B C A I ay (.Subscript e (.Slice l u z oh) p) (.slice x kl oE oF):=
 fun ah loc H ρ s Q K h dZ q=>MY (he ah loc H ρ s _ _ h dZ fun a aq bP ahr s1 R bt eC bk=>MX
  (ar ah loc aq bP s1 _ _ R (dZ.step bk bt) fun b be cu ahs s2 Z cq jS ck=>
  bx ah loc be cu s2 _ _ Z ((dZ.step bk bt).step ck cq) fun c ei f8 aht s3 bv f5 PW fq=>
  hz ah loc ei f8 s3 _ _ bv (((dZ.step bk bt).step ck cq).step fq f5) fun d pT oH ahu s4 cZ n3 nu kg=>
   cU (aeL cZ n3 ((eC.mono ((ck.trans fq).trans kg).fU bt.di)) (jS.mono (fq.trans kg).fU cq.di) (PW.mono kg.fU f5.di) nu ((((q.after bk).after ck).after fq).after kg))))
end
section
open PySem.Builtin
inductive Src where
 |list (l:bj)|tup (t:bj)|p8 (b:Array UInt8) (t:Tok)|cA (l:bj)|dict (d:bj) (n ep:Nat)|eQ (a st:Int) (n:Nat)
def gb (k:Src)(aM:bj)(i:Nat)(h:fP):Prop:=match k with
 |.list l=>h.IsListIter aM l i
 |.tup t=>h.IsTupleIter aM t i
 |.p8 b t=>KBw.IsBytesIter h aM b t i
 |.cA l=>∃o,h.get? aM=E o∧o.cls=.type "bytearray_iterator"∧o.data=.fields #[.ref l,.int i 0]
 |.dict d n ep=>h.IsKeyIter aM d i n ep
 |.eQ a st n=>IsRangeIter h aM (a+st*i) (n-i) st
theorem gb.keep {k:Src}{i:Nat}(x:gb k aM i h)(e:∀o,h.get? aM=E o→h'.get? aM=E o):gb k aM i h':=by
 induction k using Src.casesOn with
 |eQ a st n=>exact e _ x
 |_=>refine dn x fun o ax r=>?_;clear x;exact⟨o,e o ax,r⟩
theorem gb.ex {k:Src}{i:Nat}(x:gb k aM i h):∃o,h.get? aM=E o:=by
 induction k using Src.casesOn with
 |eQ a st n=>exact⟨_,x⟩
 |_=>refine dn x fun o ax r=>?_;clear x;exact⟨o,ax⟩
def jZ (P:db)(ρ:List bj)(h:fP)(k:Src)(vs:List V):Prop:=match k with
 |.list l=>∃xs n,h.get? l=E (listOf xs.toArray n)∧bJ ρ h vs xs
 |.tup t=>∃xs n,h.get? t=E (gN xs n)∧bJ ρ h vs xs
 |.p8 b t=>vs=(dY b).map .int
 |.cA l=>∃b,h.get? l=E (e5 b)∧vs=(dY b).map .int
 |.dict d n ep=>∃es xs,h.get? d=E (dictOf xs ep)∧de P ρ h es xs∧vs=es.map (·.1)∧n=vs.length
 |.eQ a st n=>vs=(List.range n).map fun i=>.int (a+st*i)
theorem bJ.at' (r:bJ ρ h vs xs)(e:vs[j]? =none):xs[j]? =none:=by rw[List.getElem?_eq_none_iff] at e⊢;exact r.length▸e
theorem L6 {bW d:bj}{i:Nat}{xs:List c3}{x:c3}{Q:Option aj→aQ→Prop}(dM:s.heap.IsKeyIter bW d i xs.length ep)
 (hm:s.heap.get? d=E (dictOf xs ep))(aS:xs[i]? =E x)
 (h2:∀h',h'.IsKeyIter bW d (i+1) xs.length ep→fI bW s.heap h'→Q (E x.key) {s with heap:=h'}):
 wpAny (model O w) A (pyNext (.ref bW)) Q b1 s:=by
 refine gy (id dM) fun o ax aI hd=>?_;unfold pyNext;refine ae (u3 (mM (name:=g6 "__next__") dM.typeIs PySem.F.slot_dict_keyiterator_next
  (hp PySem.F.slot_dict_keyiterator_next dM.typeIs PySem.F.entry_dict_keyiterator_next ?_ (PySem.F.args_dict_keyiterator_next_1 _))))
 refine ae (aX (ae<|ae ?_))
 first|refine ae (BE dM.typeIs (aX ?_))|refine ae (BG dM.typeIs (aX ?_))
 refine ae (BA ax hd ?_);have wo:Builtin.Dict_items.ownsTuple "dict_keyiterator"=false:=by decide
 rw[wo];refine(?_:wpAny _ _ (if(gO d==cf)=true then _ else _) _ _ s);refine e2 (show¬((gO d==cf)=true) from d7)<|ae (aX (ae (mN hm rfl (e2 qs<|ae (aX (ae (ll hm rfl (e2 qs<|aX ?_))))))))
 have o8:xs.toArray[i]? =E x:=by simpa using aS
 simp only[show¬((i:Int)<0) from by lia,if_false,pI,o8];refine ae ?_
 first|refine ae (BE dM.typeIs (aX ?_))|refine ae (BG dM.typeIs (aX ?_))
 refine ae (wpAny_isOneOf_keyiter dM.typeIs ?_);refine(?_:wpAny _ _ (setField (.ref bW) 1 (rawInt ((i:Int)+1))>>=_) _ _ s);refine ae (x0 ax hd (d4 rfl) ?_);have zn:(s.heap.update bW (Obj.mapFields (·.setIfInBounds 1 (rawInt ((i:Int)+1))))).IsKeyIter bW d (i+1) xs.length ep:=
  ⟨_,l1 _ ax (Obj.isFreed_of_fields (Obj.data_mapFields hd _)),(Obj.cls_mapFields ..).trans aI,by rw[Obj.data_mapFields hd];simp[rawInt]⟩
 refine ae (ga (ae (wpAny_isOneOf_keyiter (s:={s with heap:=s.heap.update bW (Obj.mapFields (·.setIfInBounds 1 (rawInt ((i:Int)+1))))}) zn.typeIs ?_)))
 refine(?_:wpAny _ _ (pure x.key) _ _ _);exact aX (aX ⟨_,rfl,aX (h2 _ zn (kp ..))⟩)
theorem L5 {bW d:bj}{i:Nat}{xs:List c3}{Q:Option aj→aQ→Prop}(bC:A.handled=none)(dM:s.heap.IsKeyIter bW d i xs.length ep)
 (hm:s.heap.get? d=E (dictOf xs ep))(aS:xs[i]? =none)
 (h2:∀h',BH bW s.heap h'→Q none {s with heap:=h'}):wpAny (model O w) A (pyNext (.ref bW)) Q b1 s:=by
 refine gy (id dM) fun o ax aI hd=>?_;unfold pyNext;refine ae (u3 (mM (name:=g6 "__next__") dM.typeIs PySem.F.slot_dict_keyiterator_next
  (hp PySem.F.slot_dict_keyiterator_next dM.typeIs PySem.F.entry_dict_keyiterator_next ?_ (PySem.F.args_dict_keyiterator_next_1 _))))
 refine ae (aX ?_);refine ae ?_;refine ae ?_
 first|refine ae (BE dM.typeIs (aX ?_))|refine ae (BG dM.typeIs (aX ?_))
 refine ae (BA ax hd ?_);have wo:Builtin.Dict_items.ownsTuple "dict_keyiterator"=false:=by decide
 rw[wo];refine(?_:wpAny _ _ (if(gO d==cf)=true then _ else _) _ _ s);refine e2 (show¬((gO d==cf)=true) from d7) ?_;refine ae (aX ?_);refine ae (mN hm rfl ?_);refine e2 qs ?_;refine ae (aX ?_);refine ae (ll hm rfl ?_);refine e2 qs ?_;refine aX ?_;have o8:xs.toArray[i]? =none:=by simpa using aS
 simp only[show¬((i:Int)<0) from by lia,if_false,pI,o8];refine ae ?_
 first|refine ae (BE dM.typeIs (aX ?_))|refine ae (BG dM.typeIs (aX ?_))
 refine(?_:wpAny _ _ (setField (.ref bW) 0 .none>>=_) _ _ s);refine ae (x0 ax hd (d4 rfl) ?_);refine(?_:wpAny _ _ (newExc (.type "StopIteration") []>>=_) _ _ _);refine ae ?_;unfold newExc newTuple;refine ae (jB ?_ (by size_fits));refine ae (m:=firstArgMember _ _) (hq (a:=cf) (by first|rfl|(simp only[firstArgMember];rfl)) ?_);refine jB ?_ (by size_fits);unfold raiseNew;refine ae (GZ ?_);rw[show A.in1.handled=none from bC];refine ae (aX (wpAny_throw ?_));refine ae (pL (T:="StopIteration") (b:=true) ⟨_,g5 _ rfl,rfl⟩ GS ?_);exact aX (h2 _ (((kp ..).extBut.push _).push _))
theorem wx {l:bj}{i:Nat}(x:gb (.cA l) aM i s.heap):s.TypeIs (.ref aM) "bytearray_iterator":=let ⟨o,ax,aI,_⟩:=x;⟨o,ax,aI⟩
theorem RX {l:bj}{i:Nat}{b:Array UInt8}{c:UInt8}{Q:Option aj→aQ→Prop}(dM:gb (.cA l) aM i s.heap)(ar:s.heap.get? l=E (e5 b))(aS:b[i]? =E c)
 (h2:∀h',gb (.cA l) aM (i+1) h'→fI aM s.heap h'→Q (E (.int (c.toNat:Int) s.toks)) {s with heap:=h',toks:=s.toks+1}):wpAny (model O w) A (pyNext (.ref aM)) Q b1 s:=by
 refine gy (id dM) fun o ax aI hd=>?_;unfold pyNext;refine ae (u3 (mM (name:=PySem.Str.ofString "__next__") (wx dM) dS.uu
  (hp dS.uu (wx dM) dS.Jm ?_ (dS.It _))))
 refine(?_:wpAny _ _ (field (.ref aM) 0>>=_) _ _ s);refine ae (h9 ax hd (x:=.ref l) rfl ?_);refine(?_:wpAny _ _ (load l>>=_) _ _ s);refine ae (nD ar ?_);refine(?_:wpAny _ _ (field (.ref aM) 1>>=_) _ _ s);refine ae (h9 ax hd (x:=.int i 0) rfl ?_);simp only[pI,aS];refine ae (x0 ax hd (d4 rfl) (ae (u5 (aX ⟨_,rfl,aX (h2 _ ?_ (kp ..))⟩))));exact⟨_,l1 _ ax (Obj.isFreed_of_fields (Obj.data_mapFields hd _)),(Obj.cls_mapFields ..).trans aI,by
  rw[Obj.data_mapFields hd];simp[rawInt]⟩
theorem RW {l:bj}{i:Nat}{b:Array UInt8}{Q:Option aj→aQ→Prop}(bC:A.handled=none)(dM:gb (.cA l) aM i s.heap)(ar:s.heap.get? l=E (e5 b))(aS:b[i]? =none)
 (h2:∀h',BH aM s.heap h'→Q none {s with heap:=h'}):wpAny (model O w) A (pyNext (.ref aM)) Q b1 s:=by
 refine gy (id dM) fun o ax aI hd=>?_;unfold pyNext;refine ae (u3 (mM (name:=PySem.Str.ofString "__next__") (wx dM) dS.uu
  (hp dS.uu (wx dM) dS.Jm ?_ (dS.It _))))
 refine(?_:wpAny _ _ (field (.ref aM) 0>>=_) _ _ s);refine ae (h9 ax hd (x:=.ref l) rfl ?_);refine(?_:wpAny _ _ (load l>>=_) _ _ s);refine ae (nD ar ?_);refine(?_:wpAny _ _ (field (.ref aM) 1>>=_) _ _ s);refine ae (h9 ax hd (x:=.int i 0) rfl ?_);simp only[pI,aS];refine ae (iv (ae (x0 ax hd (d4 rfl) (ae (xZ ?_)))));refine(?_:wpAny _ _ (newExc (.type "StopIteration") []>>=_) _ _ _);refine ae ?_;unfold newExc newTuple;refine ae (jB ?_ (by size_fits));refine ae (m:=firstArgMember _ _) (hq (a:=cf) (by first|rfl|(simp only[firstArgMember];rfl)) ?_);refine jB ?_ (by size_fits);unfold raiseNew;refine ae (GZ ?_);rw[show A.in1.handled=none from bC];refine ae (aX (wpAny_throw ?_));refine ae (pL (T:="StopIteration") (b:=true) ⟨_,g5 _ rfl,rfl⟩ GS ?_);exact aX (h2 _ (((kp ..).extBut.push _).push _))
theorem Am {k:Src}{i:Nat}{Q:Option aj→aQ→Prop}(bC:A.handled=none)(x:gb k aM i s.heap)(y:jZ w.params ρ s.heap k vs)
 (cg:∀v z h' t,vs[i]? =E v→aN ρ s.heap v z→gb k aM (i+1) h'→fI aM s.heap h'→Q (E z) {s with heap:=h',toks:=t})
 (b8:vs[i]? =none→∀h',BH aM s.heap h'→Q none {s with heap:=h'}):wpAny (model O w) A (pyNext (.ref aM)) Q eX s:=by
 induction k using Src.casesOn with
 |list l=>
  refine mH y fun xs n o r=>?_;clear y;cases e:vs[i]? with
  |some v=>exact dn (r.at e) fun z aJ bU=>wpAny_pyNext_list_item x (isList o) (by simpa using aJ) fun h' R Z=>cg v z h' s.toks e bU R Z
  |none=>exact wpAny_pyNext_list_end bC x (isList o) (by simpa using r.at' e) (b8 e)
 |tup l=>
  refine mH y fun xs n o r=>?_;clear y;cases e:vs[i]? with
  |some v=>exact dn (r.at e) fun z aJ bU=>wpAny_pyNext_tuple_item x (isTup o) (by simpa using aJ) fun h' R Z=>cg v z h' s.toks e bU R Z
  |none=>exact wpAny_pyNext_tuple_end bC x (isTup o) (by simpa using r.at' e) (b8 e)
 |p8 b t=>
  subst y;cases e:b[i]? with
  |some c=>exact KBw.next_item x e fun h' R Z=>cg (.int c.toNat) _ h' _ (by simp[dY,e]) (.int _ _) R Z
  |none=>exact KBw.next_end bC x e (b8 (by simpa [dY] using e))
 |cA l=>
  refine dn y fun b o b8=>?_;clear y;subst b8;cases e:b[i]? with
  |some c=>exact RX x o e fun h' R Z=>cg (.int c.toNat) _ h' _ (by simp[dY,e]) (.int _ _) R Z
  |none=>exact RW bC x o e (b8 (by simpa [dY] using e))
 |dict d n ep=>
  refine nx y fun es xs o cS eG pt=>?_;clear y;subst eG;subst pt;have uO:s.heap.IsKeyIter aM d i xs.length ep:=by rw[←cS.length,←List.length_map (f:=(·.1))];exact x
  have up:∀j h',h'.IsKeyIter aM d j xs.length ep→gb (.dict d (es.map (·.1)).length ep) aM j h':=fun j h' z=>by refine(?_:h'.IsKeyIter aM d j _ ep);rw[List.length_map,cS.length];exact z
  cases e:xs[i]? with
  |some z=>refine oD (cS.at e) fun k v aW aJ eG=>?_;clear eG;exact L6 uO o e fun h' R Z=>cg k z.key h' s.toks (by rw[List.getElem?_map,aW];rfl) aJ (up _ _ R) Z
  |none=>exact L5 bC uO o e (b8 (by rw[List.getElem?_map,List.getElem?_eq_none (by rw[cS.length];simpa using e)];rfl))
 |eQ a st n=>
  subst y
  by_cases h:i<n
  .refine wpAny_pyNext_range_item x (by lia) fun h' R Z=>cg (.int (a+st*i)) _ h' _ (by simp[h]) (.int _ _) ?_ Z;refine(?_:IsRangeIter h' aM _ _ st);have aW:a+st*((i+1:Nat):Int)=a+st*i+st:=by rw[Int.natCast_add,Int.mul_add,Int.natCast_one,Int.mul_one,Gr]
   have aJ:(n:Int)-((i+1:Nat):Int)=n-i-1:=by lia
   rw[aW,aJ];exact R
  .exact wpAny_pyNext_range_end bC x (by lia) (b8 (by simp[h]))
end
def QF (ρ:List bj)(h:fP):rc→g0→Prop
 |.next,.next=>True
 |.brk,.brk=>True
 |.ret v,.ret x=>aN ρ h v x
 |_,_=>False
def p1 (I:Env)(y:Str):Prop:=I.kindOf y=E .local∨(I.kindOf y=E .cell∧(I.cells.lookup y).isSome=true)
def sY (P:db)(B:gD)(I:Env)(ay:List Str)(ah ρ:List bj)(s:aQ)(Q:dK)(K:g0→aQ→Prop):Prop:=
 ∀aH eg bp aV f s',Q aH eg bp→bZ P B I ah ay aV bp eg s'→QF aV s'.heap aH f→Step ah ρ s aV s'→K f s'
theorem sY.after {Q:dK}{K:g0→aQ→Prop}(p:sY P B I ay ah ρ s Q K)(st:Step ah ρ s uR bB):sY P B I ay ah uR bB Q K:=
 fun aH eg bp aV f s' q am hZ el=>p aH eg bp aV f s' q am hZ (st.trans el)
theorem Step.up (x:Step [] ρ s aV s'):Step ah ρ s aV s':=x.weak fun _ h=>nomatch h
section
variable (O:hS)(w:eJ)(B:gD)(C:hT)(A:fu)(I:Env)(ay:List Str)
def hI (e:iP)(x:cN):Prop:=∀ah loc H ρ s (Q:dK) (K:g0→aQ→Prop),xr C B.G x loc H Q→bZ w.params B I ah ay ρ H loc s→sY w.params B I ay ah ρ s Q K→
 aO O w A (exec e I) K s
def l6 (e:List iP)(x:fe):Prop:=∀ah loc H ρ s (Q:dK) (K:g0→aQ→Prop),b3 C B.G x loc H Q→bZ w.params B I ah ay ρ H loc s→sY w.params B I ay ah ρ s Q K→
 aO O w A (execs e I) K s
end
theorem KH {c:bj}{v:Option aj}(x:h.IsCell c v):∃o,h.get? c=E o∧∀xs n,o.data≠.seq xs n:=let ⟨o,ax,hd⟩:=x;⟨o,ax,fun _ _ e=>by rw[hd] at e;cases e⟩
theorem t8 {c:bj}{m:Str→Option aj}(x:h.Ns c m):∃o,h.get? c=E o∧∀xs n,o.data≠.seq xs n:=let ⟨o,_,_,ax,hd,_⟩:=x;⟨o,ax,fun _ _ e=>by rw[hd] at e;cases e⟩
theorem bZ.own {eg:List V}{t:Nat}(r:bZ P B I ah ay ρ H loc s)(aC:a∈ah)(aE:fI a s.heap h')(e:s'={s with heap:=h',toks:=t})
 (ax:∃o,h'.get? a=E o∧∀xs n,o.data≠.seq xs n)
 (k6:∀(i:Nat) x v,ay[i]? =E x→eg[i]? =E v→v≠.aR→∃gB,yr I h' x gB∧aN ρ h' v gB)(ns:∃m,h'.Ns I.locals m)(cl:∀x c,I.cells.lookup x=E c→∃v,h'.IsCell c v):
 bZ P B I ah ay ρ H eg s'∧Step [a] ρ s ρ s':=by
 subst e;have aB:∀b∈ρ,h'.get? b=s.heap.get? b:=fun b az=>aE.2 b fun q=>(r.cj.own a aC).1 (q▸az);have p:eL ρ ρ s.heap h':=⟨⟨[],by simp,fun _ h=>nomatch h⟩,fun b o ih _ wq=>by refine(aE.2 b ?_).trans ih;clear aE ax;rintro rfl;obtain⟨_,o',cL,aL⟩:=r.cj.own b aC;rw[ih] at cL;obtain rfl:=cE cL;refine dB wq fun xs n q=>?_;clear wq;exact aL _ _ (sw q)⟩
 refine⟨⟨r.am.other aB p,⟨r.cj.kind,r.cj.glob,r.cj.blt,fun b az=>⟨(r.cj.own b az).1,?_⟩,r.cj.nb,r.cj.mW,k6,r.cj.nu,ns,cl,r.cj.qC,r.cj.inj,r.cj.eW⟩,fun b o ih=>?_⟩,⟨[],by simp,fun _ h=>nomatch h⟩,
  fun b o ih _ hf=>?_,fun b ih=>?_,rfl,rfl⟩
 .by_cases q:b=a
  .subst q;exact ax
  .exact dn ((r.cj.own b az).2) fun o aW aJ=>⟨o,(aE.2 b q).trans aW,aJ⟩
 .exact hJ (r.bs b o ih) fun R Z bv=>⟨(aE.2 b fun q=>bv (q▸aC)).trans R,Z,bv⟩
 .exact(aE.2 b fun q=>hf (q▸List.mem_singleton.mpr rfl)).trans ih
 .refine dn ax fun o aW b8=>?_;clear ax b8;exact Mr aE aW b ih
theorem eL.own (r:bZ P B I ah ay ρ H loc s)(aC:a∈ah)(aE:fI a s.heap h'):eL ρ ρ s.heap h':=
 ⟨⟨[],by simp,fun _ h=>nomatch h⟩,fun b o ih _ wq=>by refine(aE.2 b ?_).trans ih;rintro rfl;obtain⟨_,o',cL,aL⟩:=r.cj.own b aC;rw[ih] at cL;obtain rfl:=cE cL;refine dB wq fun xs n q=>?_;clear wq;exact aL _ _ (sw q)⟩
theorem get_set {a4:Type}{l:List a4}{i:Nat}{v u:a4}(h:(l.set i v)[j]? =E u):(i=j∧u=v)∨(i≠j∧l[j]? =E u):=by
 by_cases e:i=j
 .subst e;rw[List.getElem?_set_self'] at h;cases q:l[i]? with
  |none=>rw[q] at h;exact c5 h
  |some x=>rw[q] at h;obtain rfl:=cE h;exact .inl ⟨rfl,rfl⟩
 .rw[List.getElem?_set_ne e] at h;exact .inr ⟨e,h⟩
theorem uy {i:Nat}{y:Str}{gB:aj}{K:Unit→aQ→Prop}(ct:ay[i]? =E y)(c0:p1 I y)(r:bZ w.params B I ah ay ρ H loc s)
 (bU:aN ρ s.heap v gB)(q:∀s',bZ w.params B I ah ay ρ H (loc.set i v) s'→Step ah ρ s ρ s'→(I.kindOf y=E .local→Step [I.locals] ρ s ρ s')→K () s'):wpAny (model O w) A (storeName I y gB) K eX s:=by
 have No:∀{j:Nat} {x:Str},ay[j]? =E x→i≠j→x≠y:=fun aS we e=>we (r0 r.cj.eW ct (e▸aS));rcases c0 with ar|⟨ar,aI⟩
 .refine dm r.cj.ns fun m aL=>?_;refine wpAny_storeName_local ar aL (fun h' kF aE=>?_) (by rw[r.cj.kind];rfl);have p:=eL.own r r.cj.nb aE
  suffices k:bZ w.params B I ah ay ρ H (loc.set i v) {s with heap:=h',toks:=s.toks+1}∧Step [I.locals] ρ s ρ {s with heap:=h',toks:=s.toks+1} from q _ k.1 (k.2.weak fun a aC=>List.mem_singleton.mp aC▸r.cj.nb) fun _=>k.2
  refine bZ.own r r.cj.nb aE rfl (t8 kF) (fun j x u aS bx tF=>?_) ⟨_,kF⟩ (fun x c aI=>?_)
  .clear q;rcases get_set bx with⟨rfl,rfl⟩|⟨we,bx⟩
   .rw[ct] at aS;obtain rfl:=cE aS;exact⟨gB,.inl ⟨ar,_,kF,by simp⟩,bU.mono p r.am.di⟩
   .refine dn (r.cj.k6 j x u aS bx tF) fun Bh E4 ul=>⟨Bh,?_,ul.mono p r.am.di⟩;rcases E4 with⟨k,rS,o6,e⟩|⟨k,c,o,e,ax,hd⟩|⟨k,n,c,o,e,ax,hd⟩
    .refine .inl ⟨k,_,kF,?_⟩;show(if x=y then E gB else m x)=E Bh;rw[if_neg (No aS we),aL.agree o6,e]
    .exact .inr (.inl ⟨k,c,o,e,(aE.2 c (r.cj.qC x c e)).trans ax,hd⟩)
    .exact .inr (.inr ⟨k,n,c,o,e,(aE.2 c (r.cj.qC x c e)).trans ax,hd⟩)
  .exact dm (r.cj.cl x c aI) fun u bx=>⟨u,bx.sameBut aE (r.cj.qC x c aI)⟩
 .refine dm (sK.mp aI) fun c aI=>dm (r.cj.cl y c aI) fun u bx=>wpAny_storeName_cell r.cj.kind ar aI bx fun h' kF aE=>?_;have Dp:=r.cj.mW y c aI;have p:=eL.own r Dp aE;have Mj:I.locals≠c:=fun e=>r.cj.qC y c aI e.symm
  suffices k:bZ w.params B I ah ay ρ H (loc.set i v) {s with heap:=h'}∧Step [c] ρ s ρ {s with heap:=h'} from q _ k.1 (k.2.weak fun a aC=>List.mem_singleton.mp aC▸Dp) fun e=>by rw[ar] at e;cases e
  refine bZ.own (t:=s.toks) r Dp aE rfl (KH kF) (fun j x z aS hz tF=>?_) (let ⟨m,hm⟩:=r.cj.ns;⟨m,hm.sameBut aE Mj⟩) (fun x gQ WY=>?_)
  .rcases get_set hz with⟨rfl,rfl⟩|⟨we,hz⟩
   .rw[ct] at aS;obtain rfl:=cE aS;refine dn kF fun o ax hd=>?_;clear kF;exact⟨gB,.inr (.inl ⟨ar,c,o,aI,ax,hd⟩),bU.mono p r.am.di⟩
   .refine dn (r.cj.k6 j x z aS hz tF) fun Bh E4 ul=>⟨Bh,?_,ul.mono p r.am.di⟩;have eF:∀{d},I.cells.lookup x=E d→d≠c:=fun e q=>No aS we (r.cj.inj _ _ _ e (q▸aI));rcases E4 with⟨k,rS,o6,e⟩|⟨k,d,o,e,ax,hd⟩|⟨k,n,d,o,e,ax,hd⟩
    .exact .inl ⟨k,rS,o6.sameBut aE Mj,e⟩
    .exact .inr (.inl ⟨k,d,o,e,(aE.2 d (eF e)).trans ax,hd⟩)
    .exact .inr (.inr ⟨k,n,d,o,e,(aE.2 d (eF e)).trans ax,hd⟩)
  .by_cases e:gQ=c
   .subst e;exact⟨_,kF⟩
   .exact dm (r.cj.cl x gQ WY) fun z hz=>⟨z,hz.sameBut aE e⟩
noncomputable def lE:aY→Bool
 |.ListComp .. =>true|.SetComp .. =>true|.DictComp .. =>true
 |_=>false
theorem Ph (h:lE e=false)(t:Option aY)(n:Nat)(I:Env):swapsWith e t n I=pure false:=by
 induction e using jW<;>first|rfl|exact j9 h
theorem Pj (h:lE e=false)(t:aY)(n:Nat)(I:Env):swapsWithSole [t] e n I=pure false:=Ph h _ _ _
noncomputable def A4:aY→Bool
 |.Tuple .. =>false|.List .. =>false|.Starred .. =>false
 |_=>true
theorem afL (h:A4 t=true)(I:Env):swappedStores [t] e I=pure none:=by
 induction t using jW<;>first|rfl|exact dW h
theorem T4 (h:A4 t=true)(I:Env):(assignEach [t] I).map (·.2)=[assign t I]:=by induction t using jW<;>first|rfl|exact dW h
theorem Iu {Q:g0→aQ→Prop}(cW:A4 t=true)(aI:swapsWithSole [t] e pos.line I=pure false)
 (h:aO O w A (eval e I) (fun v bB=>aO O w A (assign t I v) (fun _=>Q .next) bB) s):aO O w A (exec (.Assign [t] e pos) I) Q s:=by
 rw[exec_Assign_arm];refine e9 (hy aI ?_);rw[if_neg (by decide)];refine b0 (dF h fun v bB h₁=>hy (afL cW _) ?_);show aO O w A (do assignAll v ((assignEach [t] I).map (·.2));pure .next) Q bB;rw[T4 cW];exact b0 (dF (show aO O w A (assignAll v [assign t I]) (fun _=>Q .next) bB from h₁) fun _ _ x=>cM x)
theorem Cp {Q:g0→aQ→Prop}(cW:A4 t=true)(aI:lE e=false)
 (h:aO O w A (eval e I) (fun v bB=>aO O w A (assign t I v) (fun _=>Q .next) bB) s):aO O w A (exec (.Assign [t] e pos) I) Q s:=Iu cW (Pj aI _ _ _) h
theorem afM {o:aY}:swapsWithSole [.Attribute o name p] e n I=pure false:=by induction e using jW<;>rfl
theorem ae5 {x:aG}{y:Str}{i:Nat}(ct:ay[i]? =E y)(c0:p1 I y)(aI:lE e=false)(he:cV O w B C A I ay e x):hI O w B C A I ay (.Assign [.Name y p] e q) (.asg i x):=
 fun ah loc H ρ s Q K h r k=>Cp rfl aI (he ah loc H ρ s _ _ h r fun v aq bP u s1 R bt eC bk=>
  cU (xY (uy ct c0 (r.step bk bt) eC fun s2 dx ck _=>k .next _ aq bP .next s2 R dx trivial (bk.up.trans ck))))
theorem ae6 (ok:B.Ok){o:aY}{x y:aG}(aL:x7 B name)(he:cV O w B C A I ay e x)(ax:cV O w B C A I ay o y):
 hI O w B C A I ay (.Assign [.Attribute o name p] e q) (.yE y (a7 name) x):=
 fun ah loc H ρ s Q K h r k=>Iu rfl afM (he ah loc H ρ s _ _ h r fun v aq bP u s1 R bt eC bk=>by
  have cJ:=r.step bk bt;show aO _ _ _ (do let gg←holding [u] (eval o I);standAt p.atName;holding [u,gg] (setAttr gg name u);release [u,gg] []) _ s1;refine b0 (eR (ax ah loc aq bP s1 _ _ R cJ fun a be cu z s2 Z cq fV ck=>?_));have dx:=cJ.step ck cq;refine e9 (dH (ga ?_));refine EX Z fV fun l b Z ar=>cq.rH ar Z fun d c TX Z eY dX Dq=>cq.mY dX Z fun es n xs aJ Z jN cS aD hX=>j1 Z fun aE Z=>j1 Z fun aB Z=>ael (ok.K.keeps dx.keeps) eY jN cS aD hX aE (d4 (gC.mp aB).2) aL.1 (aL.2 c Dq) (eC.mono ck.fU bt.di) Z fun cT m fb h' t g g1 bL g3 ek ht=>?_;have fq:Step [] cu s2 cu {s2 with heap:=h',toks:=t}:=.update t (List.mem_of_getElem? dX) bL g1
  have f5:bz w.params cu (be.set d (.dict cT (n+m))) h':=cq.update dX bL g1 (.dict (g3.mono fq.fU cq.di) ek ht);exact cU (BB (k .next loc _ cu .next _ g (dx.step fq f5) trivial (((bk.trans ck).trans fq).up))))
theorem aff {x:aG}(aI:lE e=false)(hi:∀I:Env,I.scope.kind=.function→interactive I=false)(he:cV O w B C A I ay e x):hI O w B C A I ay (.Expr e p) (.ex x):=
 fun ah loc H ρ s Q K h r k=>by rw[exec_Expr I e p (hi _ r.cj.kind) (Ph aI _ _ _)];exact e9 (b0 (he ah loc H ρ s _ _ h r fun v aq bP u s1 R bt eC bk=>cU (wpAny_dropValue (k .next loc aq bP .next s1 R (r.step bk bt) trivial bk.up))))
theorem afi {a b:List iP}{x:aG}{y z:fe}(cW:ST O w B C A I ay t x)(aC:l6 O w B C A I ay a y)(az:l6 O w B C A I ay b z):hI O w B C A I ay (.If t a b p) (.iff x y z):=
 fun ah loc H ρ s Q K h r k=>by
  rw[exec_If];refine e9 (b0 (cW ah loc H ρ s _ _ h r fun c aq bP s1 R bt bk=>?_))
  induction c using eo with
  |true=>exact aC ah loc aq bP s1 _ _ R (r.step bk bt) (k.after bk.up)
  |false=>exact az ah loc aq bP s1 _ _ R (r.step bk bt) (k.after bk.up)
theorem afc:hI O w B C A I ay (.Break p) .brk:=fun ah loc H ρ s Q K h r k=>cU (wpAny_Break (k .brk loc H ρ .brk s h r trivial (.refl _ _ _)))
theorem afj {x:aG}(he:cV O w B C A I ay e x):hI O w B C A I ay (.Return (E e) p) (.ret x):=
 fun ah loc H ρ s Q K h r k=>by rw[exec_Return_some];exact e9 (b0 (he ah loc H ρ s _ _ h r fun v aq bP u s1 R bt eC bk=>cM (k (.ret v) loc aq bP (.ret u) s1 R (r.step bk bt) eC bk.up)))
theorem afk:hI O w B C A I ay (.Return none p) (.ret .none):=fun ah loc H ρ s Q K h r k=>cU (wpAny_Return_none (k (.ret .none) loc H ρ (.ret .none) s h r .none (.refl _ _ _)))
theorem afe {e:iP}:hI O w B C A I ay e .err:=fun ah loc H ρ s Q K h r k=>h.elim
theorem afn:l6 O w B C A I ay [] .nil:=fun ah loc H ρ s Q K h r k=>cM (k .next loc H ρ .next s h r trivial (.refl _ _ _))
theorem afm {e:iP}{es:List iP}{x:cN}{xs:fe}(he:hI O w B C A I ay e x)(aE:l6 O w B C A I ay es xs):l6 O w B C A I ay (e::es) (.cons x xs):=
 fun ah loc H ρ s Q K h r k=>by
  rw[execs_cons];refine b0 (he ah loc H ρ s _ _ h r fun aH pb aq bP f s1 R cJ hZ bk=>?_)
  induction aH using rc.casesOn with
  |next=>induction f using nE with
   |next=>exact aE ah pb aq bP s1 _ _ R cJ (k.after bk)
   |_=>exact hZ.elim
  |brk=>induction f using nE with
   |brk=>exact cM (k _ _ _ _ _ _ R cJ hZ bk)
   |_=>exact hZ.elim
  |ret v=>induction f using nE with
   |ret u=>exact cM (k _ _ _ _ _ _ R cJ hZ bk)
   |_=>exact hZ.elim
section
open PySem.Builtin
theorem CC {c:lZ}{Q:g0→aQ→Prop}(h:aO O w (A.under c) ((model O w).den c) (fun fin s'=>∃f,fin=.done f∧Q f s') s):codeN O w A c Q s:=
 qa fun _=>dF h fun fin s' ⟨f,e,q⟩=>by subst e;exact q
theorem CB {id:String}{args:Args}{b:Builtin}{Q:g0→aQ→Prop}(az:entryFor table id=E b)
 (h:aO O w (A.under (.builtin id args)) (b args) (fun fin s'=>∃f,fin=.done f∧Q f s') s):codeN O w A (.builtin id args) Q s:=by
 refine CC ?_;refine(?_:aO _ _ _ (match entryFor table id with|some b=>b args|none=>unsupported ((withoutEnding? id "#data").getD id)) _ s)
 rw[az];exact h
theorem SJ {id:String}{args:Args}{b:Builtin}{Q:g0→aQ→Prop}(a9:plainId id=true)(lz:mU.contains id=false)(az:entryFor table id=E b)
 (h:wpAny (model O w) A.in1 (checkBuiltinCall id args) (fun _ bB=>aO O w A.in1 (b args) (fun fin s'=>∃f,fin=.done f∧Q f s') bB) eX s):
 codeN O w A (.call (.builtin id) args) Q s:=by
 refine qa fun _=>?_;show aO _ _ A.in1 (do checkBuiltinCall id args;again (.builtin id args)) _ s;refine dH (sN h (fun _ bB h₁=>cM ⟨q5 a9 args,?_,CB az ?_⟩) fun _ _ x=>x)
 .refine(?_:(!mU.contains id)=true);rw[lz];rfl
 .rw[q7 a9 args];exact h₁
theorem M0 {aT:String}{id:String}{self:aj}{args:List aj}{b:Builtin}{Q:Option aj→aQ→Prop}(cr:s.TypeIs self aT)(ch:Slot aT name id)(lz:mU.contains id=false)(az:entryFor table id=E b)
 (aC:argsOk id ⟨self::args,[]⟩)(h:aO O w A.in1 (b ⟨self::args,[]⟩) (fun fin s'=>∃v,fin=.done (.ret v)∧Q (E v) s') s):aO O w A (callSpecial? self name args) Q s:=by
 unfold callSpecial?;refine dH (iQ cr ch.lookup (eR (hy (ch.bind self) ?_)));refine b0 (m:=call (.builtin id) ([self]++args)) (wR (SJ ch.plain lz az (ch.check _ _ _ _ _ _ _ _ cr aC (dF h fun fin s' ⟨v,e,q⟩=>⟨_,e,cM q⟩))))
theorem aaI {aT Nb zA:String}{mO:Builtin}{args:List aj}{Q₁:aj→aQ→Prop}(tx:TypeCalled aT Nb zA)(lz:mU.contains zA=false)
 (W4:checkTypeCall aT ⟨args,[]⟩=pure ())(Un:entryFor table zA=E mO)
 (XD:wpAny (model O w) A.in1 (call (.builtin Nb) (.type aT::args)) Q₁ eX s)
 (XE:∀js bB,Q₁ js bB→bB.TypeIs js aT∧argsOk zA ⟨js::args,[]⟩∧aO O w A.in1.in1 (mO ⟨js::args,[]⟩) (fun fin s'=>fin=.done (.ret .none)∧Q js s') bB):
 aO O w A (call (.type aT) args) Q s:=by
 refine dB tx.mro fun c d9 DC=>wR (qa fun _=>?_);refine(?_:aO _ _ _ (callAny (.type aT) _) _ _);refine cM ⟨Code.quiet_builtin _ (by decide+kernel),rfl,CB F.entry_type_call ?_⟩;rw[Around.under_plain (weight_type_call_type aT args []) rfl];refine(?_:aO _ _ A.in1 (if(cC aT==cC "type")=true then _ else _) _ _);rw[tx.notType,if_neg d7];refine b0 (cM ?_);refine(?_:aO _ _ A.in1 (if((Manifest.find? aT).bind _).getD false=true then _ else _) _ _);rw[if_neg (fun e=>d7 (tx.canCreate.symm.trans e))];refine hy W4<|hy DC ?_
 rw[if_neg (show¬((c::d9).isEmpty=true) from d7)];refine hy tx.made (b0 (cM (b0 (eR (cU (sN XD (fun js bB a9=>?_) fun _ _ x=>x))))));refine hJ (XE js bB a9) fun cr XH hi=>dH (pL cr tx.sub ?_);simp only[Bool.not_true,Bool.false_eq_true,if_false];exact b0 (eR (M0 cr tx.init lz Un XH (dF hi fun fin s' ⟨e,q⟩=>⟨_,e,cU (aX ⟨_,rfl,q⟩)⟩)))
open PySem.Builtin
namespace dS
theorem MR:mroOf (.type "bytearray")=pure [.type "bytearray",.type "object"]:=by rw[mroOf_type];kernel_rfl
theorem ZV:typeLookup (.type "bytearray") "__new__"=pure (E (.builtin "bytearray.__new__")):=by rw[jA,jz];kernel_rfl
theorem AX:isSubtype (.type "bytearray") (.type "bytearray")=pure true:=by rw[nB];kernel_rfl
theorem SR:TypeCalled "bytearray" "bytearray.__new__" "bytearray.__init__":=
 ⟨by decide+kernel,by decide+kernel,⟨_,_,MR⟩,madeBy_type MR ZV (by decide+kernel),by decide+kernel,AX,aeM⟩
theorem agB (a:aj):checkTypeCall "bytearray" ⟨[a],[]⟩=pure ():=by kernel_rfl
theorem aa2 (a:aj):checkBuiltinCall "bytearray.__new__" ⟨[.type "bytearray",a],[]⟩=pure ():=by kernel_rfl
theorem Up:entryFor table "bytearray.__new__"=E Builtin.«list.__new__»:=GQ (id':="list.__new__") (by kernel_rfl) (by first|rfl|decide+kernel) (by decide+kernel) (by kernel_rfl)
theorem NZ:plainId "bytearray.__new__"=true:=by decide+kernel
end dS
set_option maxRecDepth 1000000 in
set_option maxHeartbeats 4000000 in
theorem abO:("bytearray.__new__".splitOn ".__new__").headD ""="bytearray":=by simp+decide [String.splitOn,String.splitOnAux]
theorem S6 (a:aj){Q₁:aj→aQ→Prop}
 (h:Q₁ (.ref s.heap.objs.size) {s with heap:=s.heap.push (e5 #[])}):
 codeAny (model O w) A (.call (.builtin "bytearray.__new__") ⟨[.type "bytearray",a],[]⟩) (wants Q₁ b1) s:=by
 refine GP ?_;show wpAny _ A.in1 (do checkBuiltinCall "bytearray.__new__" ⟨[.type "bytearray",a],[]⟩;again (.builtin "bytearray.__new__" ⟨[.type "bytearray",a],[]⟩)) _ _ s;refine ae (hq (dS.aa2 a) (aX ⟨q5 dS.NZ _,codeAny_builtin_stack dS.Up rfl fun p st=>?_⟩));rw[q7 dS.NZ _];have zw:=dS.AX;have wo:=abO;obtain⟨a8,g,d,dj,os⟩:=s;simp only[wo]
 wp_walk
 exact h
theorem ZQ:typeLookup (.type "bytearray") "__release_buffer__"=pure (E (.builtin "bytearray.__release_buffer__")):=by rw[jA,jz];kernel_rfl
theorem O0:typeLookup (.type "bytes") "__index__"=pure none:=by rw[jA,jz];kernel_rfl
set_option tactic.hygienic true in
theorem IC {l:bj}{b:Array UInt8}{Q:Bool→aQ→Prop}(e:s.heap.get? l=E (e5 b))(h:Q false s):wpAny aA A (Bytes.ownRelease (.ref l)) Q b1 s:=by
 have key:∀{x:String} {Q:Bool→aQ→Prop},x="bytearray"→Q true s→wpAny aA A (isInstance (.ref l) (.type x)) Q b1 s:=fun aS a9=>by subst aS;exact pL (i1 e) dS.AX a9
 unfold Bytes.ownRelease Bytes.slotIsOwn;refine ae (ae (iQ (i1 e) ZQ ?_));simp only
 split
 .rename_i aS
  exact absurd aS (by decide+kernel)
 .exact key (by decide+kernel)<|aX h
theorem Si {id:String}{b:Array UInt8}{t:Tok}:Bytes.buffer? id (.bytes b t) true=pure (E b):=by unfold Bytes.buffer?;rw[vc KBy.look_buffer,KBy.own_buffer,KBy.own_release];kernel_rfl
theorem abm {id:String}{args:Args}(h:lM (.builtin id args)=true):mU.contains id=false:=by
 unfold lM at h
 simpa using h
theorem wX {id x:String}(h:mU.contains id=false)(aS:mU.contains x=true):¬id=x:=fun e=>d7 ((e▸h:mU.contains x=false).symm.trans aS)
theorem vE {c:Prop}[Decidable c]{f:c→Bool}{g:¬c→Bool}(h:¬c)(b5:∀k,g k=false):dite c f g=false:=by rw[dif_neg h];exact b5 h
theorem abd {id:String}(h:mU.contains id=false):Bytes.decodersThatHold.contains id=false:=by unfold mU at h;rw[List.contains_eq_mem,decide_eq_false_iff_not,List.mem_append,not_or] at h;rw[List.contains_eq_mem,decide_eq_false h.1]
theorem VM {v:aj}{Q:Bool→aQ→Prop}(h:Q false s):aO O w A (Bytes.exported v) Q s:=by
 unfold Bytes.exported;refine aaO (fun c p aI=>?_) h;cases c with
 |builtin id args=>
  have az:=abm aI;clear aI
  delta Bytes.exported.match_1
  refine vE (wX az (by decide+kernel)) fun _=>vE (wX az (by decide+kernel)) fun _=>vE (wX az (by decide+kernel)) fun _=>vE (wX az (by decide+kernel)) fun _=>
   vE (wX az (by decide+kernel)) fun _=>?_
  cases args with|mk pos tQ=>induction pos using List.casesOn with
   |nil=>rfl
   |cons a r=>exact(congrArg (Bytes.sameRef a v&& ·) (abd az)).trans (jc _)
 |_=>rfl
theorem rX {a4:Type}{c:Prop}[Decidable c]{a b:Sem a4}{Q:a4→aQ→Prop}(h:¬c)(k:aO O w A b Q s):aO O w A (if c then a else b) Q s:=by rw[if_neg h];exact k
theorem Cs {l:bj}{b:Array UInt8}{f:Array UInt8→Array UInt8}{Q:Unit→aQ→Prop}(e:s.heap.get? l=E (e5 b))(hz:(f b).size≤sizeLine)
 (h:∀h',h'.get? l=E (e5 (f b))→fI l s.heap h'→Q () {s with heap:=h'}):wpAny aA A (Bytes.write (.ref l) f) Q b1 s:=by
 refine(?_:wpAny aA A (updateBytearray l f) Q b1 s);unfold updateBytearray;refine ae (nD e ?_);refine(?_:wpAny aA A (update l (Obj.mapBytearray f)>>=fun _=>lookBehind l) Q b1 s);refine ae (wpAny_update e ?_);have cL:(s.heap.update l (Obj.mapBytearray f)).get? l=E (e5 (f b)):=l1 (Obj.mapBytearray f) e rfl;refine wpAny_lookBehind (s:={s with heap:=s.heap.update l (Obj.mapBytearray f)}) cL ?_ (h _ cL (kp ..))
 refine(?_:(if(f b).size>sizeLine then E "bytearray:memory" else none)=none);rw[if_neg (mL.mpr hz)]
theorem aaG {l:bj}{b:Array UInt8}{t:Tok}{Q:Fin→aQ→Prop}(e:s.heap.get? l=E (e5 #[]))(hz:b.size≤sizeLine)
 (h:∀h',h'.get? l=E (e5 b)→fI l s.heap h'→Q (.done (.ret .none)) {s with heap:=h'}):aO O w A (Builtin.«bytearray.__init__» ⟨[.ref l,.bytes b t],[]⟩) Q s:=by
 refine(?_:aO _ _ _ (Bytes.ownRelease (.ref l)>>=fun c=>_) _ s);refine dH (IC e (rX d7<|hy (a:=[E (.bytes b t),none,none]) (by kernel_rfl)<|hy (a:=()) (by rfl) (hy (a:=()) (by rfl) ?_)));refine(?_:aO _ _ _ ((Bytes.exported (.ref l)<||>_)>>=fun c=>_) _ s);refine b0 (b0 (VM ?_));refine(?_:aO _ _ _ (Bytes.exportsOf (.ref l)>>=fun n=>_) _ s);unfold Bytes.exportsOf;refine dH (ae (nD e (aX (cM (rX (by decide) ?_)))));refine(?_:aO _ _ _ (Bytes.write (.ref l) _>>=fun c=>_) _ s);refine dH (Cs e (jy _) fun R aW s1=>hy (a:=none) rfl<|hy (a:=()) rfl (hy (vc O0) ?_));refine(?_:aO _ _ _ (Bytes.buffer? "bytearray.__init__" (.bytes b t) true>>=fun c=>_) _ _);refine hy Si<|dH (iv ?_)
 refine(?_:aO _ _ _ (Bytes.write (.ref l) _>>=fun c=>_) _ _);exact dH (Cs (s:={s with heap:=R}) aW hz fun Z aJ s2=>cM (h Z aJ (s1.trans s2)))
theorem M2 {b:Array UInt8}{t:Tok}(hz:b.size≤sizeLine)
 (h:∀h',h'.get? s.heap.objs.size=E (e5 b)→fI s.heap.objs.size (s.heap.push (e5 #[])) h'→Q (.ref s.heap.objs.size) {s with heap:=h'}):aO O w A (call (.type "bytearray") [.bytes b t]) Q s:=by
 refine aaI (Q₁:=fun js bB=>js=.ref s.heap.objs.size∧bB={s with heap:=s.heap.push (e5 #[])}) dS.SR (by decide+kernel) (dS.agB _) dS.Uq
  (wpAny_call (S6 (.bytes b t) ⟨rfl,rfl⟩)) fun js bB h₁=>?_
 refine b7 h₁ fun c6 cg=>?_;clear h₁;subst c6;subst cg;have e:(s.heap.push (e5 #[])).get? s.heap.objs.size=E (e5 #[]):=g5 _ rfl;exact⟨i1 (s:={s with heap:=s.heap.push (e5 #[])}) e,dS.Rz _ _,aaG (s:={s with heap:=s.heap.push (e5 #[])}) e hz fun h' cL aE=>⟨rfl,h h' cL aE⟩⟩
end
section
open PySem.Builtin
theorem Ed:typeLookup (.type "bytearray") "__buffer__"=pure (E (.builtin "bytearray.__buffer__")):=by rw[jA,jz];kernel_rfl
theorem ZO:typeLookup (.type "bytearray") "__bytes__"=pure none:=by rw[jA,jz];kernel_rfl
theorem ZP:typeLookup (.type "bytearray") "__index__"=pure none:=by rw[jA,jz];kernel_rfl
theorem ZR:typeLookup (.type "bytes") "__bytes__"=pure (E (.builtin "bytes.__bytes__")):=by rw[jA,jz];kernel_rfl
section
variable {l:bj}{b:Array UInt8}
set_option tactic.hygienic true in
theorem RV {Q:Bool→aQ→Prop}(e:s.heap.get? l=E (e5 b))(h:Q true s):wpAny aA A (Bytes.slotIsOwn (.ref l) "__buffer__") Q b1 s:=by
 have key:∀{x:String} {Q:Bool→aQ→Prop},x="bytearray"→Q true s→wpAny aA A (isInstance (.ref l) (.type x)) Q b1 s:=fun aS a9=>by subst aS;exact pL (i1 e) dS.AX a9
 unfold Bytes.slotIsOwn;refine ae (iQ (i1 e) Ed ?_);simp only
 split
 .rename_i aS
  exact absurd aS (by decide+kernel)
 .exact key (by decide+kernel) h
theorem RP {id:String}{Wq:Bool}{Q:Option (Array UInt8)→aQ→Prop}(e:s.heap.get? l=E (e5 b))(h:Q (E b) s):wpAny aA A (Bytes.buffer? id (.ref l) Wq) Q b1 s:=by unfold Bytes.buffer?;exact ae (iQ (i1 e) Ed (ae (RV e (ae (iQ (i1 e) Ed (ae (IC e (ae (tc e (aX h))))))))))
theorem Sj (e:s.heap.get? l=E (e5 b))(hz:b.size≤sizeLine)(h:∀t k,Q (.bytes b t) {s with toks:=k}):
 codeAny (model O w) A (.call (.builtin "bytes.__new__") ⟨[.type "bytes",.ref l],[]⟩) (wants Q b1) s:=by
 refine GP ?_;show wpAny _ A.in1 (do checkBuiltinCall "bytes.__new__" ⟨[.type "bytes",.ref l],[]⟩;again (.builtin "bytes.__new__" ⟨[.type "bytes",.ref l],[]⟩)) _ _ s;refine ae (hq (F.bm_newCall _) (aX ⟨q5 F.bm_plain _,u0 F.bm_entry ?_⟩));rw[q7 F.bm_plain _];unfold Builtin.«bytes.__new__»;refine ae (hq (a:=true) rfl (sM rfl<|ae (hq F.bm_sub (sM rfl<|ae (hq (F.bm_bind _) ?_)))));refine ae (hq (a:=()) rfl (ae (hq (a:=()) rfl (sM rfl<|ae (iQ (i1 e) ZO (ae (ae ?_)))))));refine(?_:wpAny _ _ (load l>>=_) _ _ _);refine ae (nD e (aX (aX (sM rfl<|ae (iQ (i1 e) ZP (Bx rfl ?_))))))
 first
  |show wpAny _ _ (Builtin.Bytes.buffer? "bytes.__new__" (.ref l) true>>=_) _ _ _
  |(refine ae ?_;refine(?_:wpAny _ _ (Builtin.Bytes.buffer? "bytes.__new__" (.ref l) true>>=_) _ _ _))
 refine ae (RP e (ae (iv (ae (wpAny_mkBytes ?_ hz)))));refine(?_:wpAny _ _ (if(cC "bytes"==cC "bytes")=true then _ else _) _ _ _);refine Bx (by decide) ?_
 first
  |exact aX (h _ _)
  |exact ae (aX (aX (h _ _)))
theorem Sk {t:Tok}(h:Q (.bytes b t) s):
 codeAny (model O w) A (.call (.builtin "bytes.__new__") ⟨[.type "bytes",.bytes b t],[]⟩) (wants Q b1) s:=by
 refine GP ?_;show wpAny _ A.in1 (do checkBuiltinCall "bytes.__new__" ⟨[.type "bytes",.bytes b t],[]⟩;again (.builtin "bytes.__new__" ⟨[.type "bytes",.bytes b t],[]⟩)) _ _ s;refine ae (hq (F.bm_newCall _) (aX ⟨q5 F.bm_plain _,u0 F.bm_entry ?_⟩));rw[q7 F.bm_plain _];unfold Builtin.«bytes.__new__»;refine ae (hq (a:=true) rfl ?_);refine sM rfl<|ae (hq F.bm_sub (sM rfl<|ae (hq (F.bm_bind _) (ae (hq (a:=()) rfl (ae (hq (a:=()) rfl ?_)))))))
 refine sM rfl<|ae (hq (vc ZR) (ae (iv (ae (u9 (PySem.W.typeIs_bytes s b t) (Bx (by decide) ?_))))))
 refine(?_:wpAny _ _ (if(cC "bytes"==cC "bytes")=true then _ else _) _ _ _);refine Bx (by decide) ?_
 first
  |exact aX h
  |exact ae (aX (aX h))
theorem IU {v:aj}(aL:codeAny (model O w) A.in1 (.call (.builtin "bytes.__new__") ⟨[.type "bytes",v],[]⟩) (wants (fun js bB=>bB.TypeIs js "bytes"∧Q js bB) b1) s):wpAny (model O w) A (call (.type "bytes") [v]) Q b1 s:=by exact callType_codes (Q₁:=fun js bB=>bB.TypeIs js "bytes"∧Q js bB) F.bm_called (F.bm_typeCall _) F.entry_object_init aL fun js bB h₁=>⟨h₁.1,F.args_object_init_2 js _,object_init_meets F.bm_called.init.lookup F.bm_called.made (by decide) O w A.in1 _ bB ⟨h₁.1,rfl,h₁.2⟩⟩
theorem Nx {ns:List Int}(h:∀n∈ns,0≤n∧n<256):dY (byteArr ns)=ns:=by unfold dY byteArr;rw[List.map_map];refine(List.map_congr_left (g:=fun x=>x) fun n aL=>?_).trans (List.map_id' _);refine b7 (h n aL) fun R Z=>dm (jV R) fun m cg=>?_;subst cg;have bv:m<256:=jd.mp Z;refine(?_:((UInt8.ofNat m).toNat:Int)=m);rw[UInt8.toNat_ofNat',GG bv]
theorem bz.free (am:bz P ρ H s.heap)(aB:∀b o,s.heap.get? b=E o→s'.heap.get? b=E o)(b5:s'.gens=s.gens)(ax:s'.os=s.os):bz P ρ H s'.heap∧Step [] ρ s ρ s':=by
 refine⟨am.other (fun a aC=>?_) ⟨⟨[],by simp,fun _ h=>nomatch h⟩,fun a o e _ _=>aB a o e⟩,⟨[],by simp,fun _ h=>nomatch h⟩,fun a o e _ _=>aB a o e,fun a e=>?_,b5,ax⟩
 .refine dm (am.lt aC) fun o e=>?_;rw[e,aB a o e]
 .cases q:s.heap.get? a with
  |none=>rfl
  |some o=>rw[aB a o q] at e;exact pA e
end
end
noncomputable def jR:aY→Bool
 |.Starred .. =>false
 |_=>true
theorem oy (h:jR e=true)(c2:List aY)(I:Env):starEach (e::c2) I=(false,eval e I)::starEach c2 I:=by
 cases e<;>first|rfl|exact dW h
theorem aei:oU O w B C A I ay [] .nil:=fun ah loc H ρ s Q K pos h r q=>cU (va (q [] H ρ [] s h r.am .nil rfl (.refl _ _ _)))
theorem qL {x:Sem aj}{c2:List (Bool×Sem aj)}{Q:List aj→aQ→Prop}
 (h:aO O w A x (fun v bB=>aO O w A (spliced c2) (fun vs eh=>Q (v::vs) eh) bB) s):aO O w A (spliced ((false,x)::c2)) Q s:=by
 rw[spliced];exact b0 (dF h fun v bB h₁=>rX d7<|b0 (cM (b0 (eR (dF h₁ fun vs eh fL=>cM fL)))))
theorem aeh {es:List aY}{x:aG}{xs:gP}(bx:jR e=true)(he:cV O w B C A I ay e x)(aE:oU O w B C A I ay es xs):oU O w B C A I ay (e::es) (.cons x xs):=
 fun ah loc H ρ s Q K pos h r q=>by rw[oy bx];refine(?_:aO O w A (spliced ((false,eval e I)::backTo pos (starEach es I))) K s);refine qL (he ah loc H ρ s _ _ h r fun v aq bP u s1 R bt agO bk=>?_);exact aE ah loc aq bP s1 _ _ pos R (r.step bk bt) fun vs be cu ys s2 Z cq bU len ck=>q (v::vs) be cu (u::ys) s2 Z cq (.cons (agO.mono ck.fU bt.di) bU) (by simp[len]) (bk.trans ck)
theorem Ip (pos:Pos)(I:Env):∀{es:List aY},es.all jR=true→(backTo pos (starEach es I)).any (·.1)=false
 | [],_=>rfl
 |e::es,h=>by rw[List.all_cons,fH] at h;rw[oy h.1];refine(?_:(false||(backTo pos (starEach es I)).any (·.1))=false);rw[Ip pos I h.2];rfl
def Kept (aA:Model)(f:aj)(h:fP):Prop:=∃k,(k=Keeper.frame∨k=Keeper.machine)∧Looks aA h (keeperOf f) k
theorem DZ {id:String}:Kept aA (.builtin id) h:=⟨.machine,.inr rfl,.now⟩
theorem zS {id:String}:Kept aA (.type id) h:=⟨.machine,.inr rfl,.now⟩
theorem aaL {a4:Type}{vs:List aj}{m:Sem a4}{Q:a4→aQ→Prop}(h:aO O w A m Q s):aO O w A (m.keep vs) Q s:=fun ea p hb x=>by rw[Sem.wp_keep];exact h ea p hb x
theorem aaK {f:aj}{es:List aY}{Q:Args→aQ→Prop}(a8:es.all jR=true)
 (h:aO O w A (spliced (backTo pos (starEach es I))) (fun vs s'=>Q ⟨vs,[]⟩ s') s):aO O w A (evalArgs f true (backTo pos (starEach es I)) []) Q s:=by
 unfold evalArgs
 induction es using List.casesOn with
 |nil=>exact b0 (dF h fun vs s' h'=>b0 (cM (eR (b0 (cM (b0 (cM (cM h'))))))))
 |cons a r=>rw[List.all_cons,fH] at a8;rw[oy a8.1] at h⊢;exact b0 (dF h fun vs s' h'=>b0 (cM (eR (b0 (cM (b0 (cM (cM h'))))))))
theorem M1 {f:aj}{first:List aj}{es:List aY}{gW:Pos}(a8:es.all jR=true)
 (h:aO O w A (spliced (backTo pos (starEach es I))) (fun vs s'=>Kept (model O w) f s'.heap∧aO O w A (call f (first++vs)) Q s') s):aO O w A (callWith gW f first (backTo pos (starEach es I)) []) Q s:=by
 unfold callWith;refine b0 (eR (aaK a8 (dF h fun vs bB h₁=>e9 (dn h₁.1 fun k aB b2=>?_))));rw[Ip pos I a8,List.any_nil,uV];refine dH (b2.here ?_);have nn:∀{t:Sem aj},aO O w A t Q bB→aO O w A (t>>=fun r=>holding [r] point>>=fun _=>pure r) Q bB:=
  fun cW=>b0 (dF cW fun r eh am=>dH (ga (wpAny_point (cM am))))
 rcases aB with rfl|rfl<;>dsimp only<;>first|exact nn h₁.2|(split<;>first|exact nn h₁.2|(refine nn ?_;unfold callMarked;exact aaL h₁.2))
theorem Aj {f:aj}{es:List aY}(a8:es.all jR=true)
 (h:aO O w A (spliced (backTo pos (starEach es I))) (fun vs s'=>Kept (model O w) f s'.heap∧aO O w A (call f vs) Q s') s):aO O w A (callWith pos f [] (backTo pos (starEach es I)) []) Q s:=M1 (first:=[]) a8 h
theorem Ai {x:Str}{es:List aY}(h:aO O w A (eval (.Name x k2) I) (fun f bB=>aO O w A (callWith pos f [] (backTo pos (starEach es I)) []) Q bB) s):
 aO O w A (eval (.Call (.Name x k2) es [] pos) I) Q s:=by
 have he:eval (.Call (.Name x k2) es [] pos) I=(do callWith pos (←eval (.Name x k2) I) [] (backTo pos (starEach es I)) (backToKw pos (keywordEach [] I))):=by rfl
 rw[he];exact b0 h
structure ve (B:gD)(I:Env)(x:Str)(f:aj):Prop where
 kind:I.kindOf x=E .globalImplicit
 Tn:(x==("__debug__":Str))=false
 g:B.j8 x=none
 b:B.pf x=E f
theorem Et (ok:B.Ok){x:Str}{f:aj}(n:ve B I x f)(r:bZ w.params B I ah ay ρ H loc s)(h:Q f s):aO O w A (eval (.Name x p) I) Q s:=by have b5:s.heap.Ns I.globals B.j8:=r.cj.glob▸ok.g.keeps r.keeps;exact cU (G4 r.cj.kind n.kind (loadGlobal_builtin b5 n.g (r.cj.blt▸ok.b.keeps r.keeps) n.b h) n.Tn)
def nI (O:hS)(w:eJ)(A:fu)(f:aj)(b:mO):Prop:=∀vs ys H ρ s (Q:bI) (K:aj→aQ→Prop),ID b vs H Q→bz w.params ρ H s.heap→bJ ρ s.heap vs ys→(∀a∈ρ,(a==sysModules)=false)→jD w.params ρ s Q K→aO O w A (call f ys) K s
theorem adT (ok:B.Ok){x:Str}{es:List aY}{xs:gP}{b:mO}{f:aj}(n:ve B I x f)(hf:(∃id,f=.builtin id)∨(∃aT,f=.type aT))(a8:es.all jR=true)(az:nI O w A f b)
 (aE:oU O w B C A I ay es xs):cV O w B C A I ay (.Call (.Name x k2) es [] p) (.bi b xs):=fun ah loc H ρ s Q K h r q=>by
 refine Ai (Et ok n r (Aj a8 (aE ah loc H ρ s _ _ p h r fun vs aq bP ys s1 R bt bU len bk=>⟨?_,?_⟩)))
 .rcases hf with⟨_,rfl⟩|⟨_,rfl⟩
  .exact DZ
  .exact zS
 .exact az vs ys aq bP s1 Q K R bt bU ((r.step bk bt).mods ok.dE) (q.after bk)
theorem ph (a:Array UInt8):(dY a).length=a.size:=by simp[dY]
theorem RS {b:Array UInt8}(e:s.heap.get? a=E (e5 b))(hz:b.size<2^63)(h:∀t k,Q (.int b.size t) {s with toks:=k}):
 wpAny (model O w) A (call (.builtin "len") [.ref a]) Q b1 s:=by
 refine Qx kind_len plain_len entry_len (args_len1 _) ?_;unfold Builtin.«len»;refine ae (m:=oneArg "len" _) (aX ?_);refine ae (m:=callSpecial? (.ref a) (g6 "__len__")) (mM (name:=g6 "__len__") (i1 e) dS.OY (call_meets dS.OY (i1 e) dS.Ut (dS.RC _) RT ⟨e,?_⟩));refine(?_:wpAny _ _ _ _ _ {s with toks:=s.toks+1})
 refine ae (ga (aX (ae (xZ ?_))));refine(?_:wpAny _ _ (if(b.size:Int)<0 then _ else _) _ _ _);refine e2 (by lia) ?_;refine(?_:wpAny _ _ (if(b.size:Int)≥2^63 then _ else _) _ _ _);exact e2 (by lia)<|ae (u5 (aX ⟨_,rfl,h _ _⟩))
@[elab_as_elim] theorem te {bg:V→Prop}{aA:List aj→Prop}(hf:a1 vs bg)(bU:bJ ρ h vs ys)(k:∀v y,bg v→aN ρ h v y→aA [y]):aA ys:=by
 induction vs using List.casesOn with
 |nil=>exact hf.elim
 |cons v r=>induction r using List.casesOn with
  |nil=>exact bU.gS fun y ys a r=>r.iJ (k _ _ hf a)
  |cons _ _=>exact hf.elim
@[elab_as_elim] theorem IE {bg:Int→Int→Prop}{aA:List aj→Prop}(hf:a2 vs fun a b=>ii a b bg)(bU:bJ ρ h vs ys)(k:∀x y t u,bg x y→aA [.int x t,.int y u]):aA ys:=by
 induction vs using List.casesOn with
 |nil=>exact hf.elim
 |cons v r=>induction r using List.casesOn with
  |nil=>exact hf.elim
  |cons w r=>induction r using List.casesOn with
   |nil=>exact bU.gS fun y ys a r=>r.gS fun z zs b r=>r.iJ (k0 (aA:=fun y z=>aA [y,z]) hf a b k)
   |cons _ _=>exact hf.elim
theorem R5:nI O w A (.builtin "len") .len:=fun vs ys H ρ s Q K h am bU hm q=>by
 refine te (h:a1 vs _) bU ?_;intro v y h c7;have fin:∀{n:Nat} {t k:Nat},Q (.int n) H→K (.int n t) {s with toks:=k}:=fun a9=>q _ H ρ _ _ a9 am (.int _ _) .toks
 have li:∀{a:bj} {bX:List aj} {n m:Nat},s.heap.get? a=E (listOf bX.toArray n)→m=bX.length→As m (fun r=>Q r H)→aO O w A (call (.builtin "len") [.ref a]) K s:=fun o e h=>by have h:=j2 h;rw[e] at h;exact cU (call_len_list (isList o) (by rw[List.size_toArray];have:=h.1;lia) (fin h.2))
 have ZW:∀{n:Nat},n≤1000000→n<2^63:=fun h=>mK h (by decide:1000000<2^63)
 induction v using V.casesOn with
 |bytes b=>refine c7.o0 (aA:=fun b y=>z5 (.bytes b) H (fun r=>Q r H)→aO O w A (call (.builtin "len") [y]) K s) (fun a t hz h=>?_) h;replace h:Q (.int (dY a).length) H:=h;rw[ph] at h;exact cU (call_len_gives (pM s a t) FB.slot_bytes_len FB.entry_bytes_len (FB.args_bytes_len_1 _) (gives_bytes_len a t) (by lia) (by lia) (fin h))
 |ref l=>
  revert h;refine c7.hl ?_;intro a ar h;replace h:z5 (.ref l) H fun r=>Q r H:=h;dsimp only[z5] at h;generalize e:H[l]? =f7 at h
  induction f7 using ez with
  |none=>exact ft h
  |some o=>induction o using an.casesOn with
   |«list» vs=>exact(am.list ar e).elim fun bX g=>g.elim fun n g=>li g.1 g.2.length h
   |«ints» xs=>exact(am.ints ar e).elim fun bX g=>g.elim fun n g=>li g.1 g.2.length.symm h
   |d5 xs=>exact(am.d5 ar e).elim fun bX g=>g.elim fun n g=>li g.1 g.2.length.symm h
   |cA b=>refine(am.cA ar e).elim fun c g=>?_;replace h:Q (.int b.length) H:=h;rw[←g.2.2,ph] at h;exact cU (RS g.1 (ZW g.2.1) fun t k=>fin h)
   |_=>exact ft h
 |_=>exact ft h
theorem pa (h:n≤1000000):n≤sizeLine:=e3 h (by decide:1000000≤sizeLine)
theorem R4 (bC:A.handled=none):nI O w A (.type "bytes") .bytes:=fun vs ys H ρ s Q K h am bU hm q=>by
 refine te (h:a1 vs _) bU ?_;intro v y h c7;have fin:∀{b:Array UInt8} {t k:Nat},b.size≤1000000→Q (.bytes (dY b)) H→K (.bytes b t) {s with toks:=k}:=fun hz a9=>q _ H ρ _ _ a9 am (.bytes _ _ hz) .toks
 induction v using V.casesOn with
 |bytes b=>exact c7.o0 (aA:=fun b y=>Q (.bytes b) H→aO O w A (call (.type "bytes") [y]) K s) (fun a t hz h=>cU (IU (Sk ⟨pM _ _ _,q _ H ρ _ s h am (.bytes _ _ hz) (.refl _ _ _)⟩))) h
 |ref l=>
  revert h;refine c7.hl ?_;intro a ar h;replace h:vy (.ref l) H fun r=>Q r H:=h;dsimp only[vy] at h;generalize e:H[l]? =f7 at h
  induction f7 using ez with
  |none=>exact ft h
  |some o=>induction o using an.casesOn with
   |«ints» xs=>
    refine(am.ints ar e).elim fun bX g=>g.elim fun n g=>?_;have h:=fK h;have bv:=j2 h.2;have R:=Ky h.1;refine cU (call_bytes_ints (isList g.1) g.2 R (by rw[g.2.length];exact pa bv.1) bC fun h' t k aB=>?_);have hf:=bz.free (s':={s with heap:=h',toks:=k}) am aB rfl rfl
    refine q _ H ρ _ _ ?_ hf.1 (.bytes (byteArr _) t (by rw[←ph,Nx R];exact bv.1)) hf.2;rw[Nx R];exact bv.2
   |cA b=>refine(am.cA ar e).elim fun c g=>?_;rw[←g.2.2] at h;exact cU (IU (Sj g.1 (pa g.2.1) fun t k=>⟨pM _ _ _,fin g.2.1 h⟩))
   |_=>exact ft h
 |_=>exact ft h
theorem R3:nI O w A (.type "bytearray") .bytearray:=fun vs ys H ρ s Q K h am bU hm q=>by
 refine te (h:a1 vs _) bU ?_;intro v y h c7
 induction v using V.casesOn with
 |bytes b=>_
 |_=>exact ft h
 replace h:Q (.ref H.length) (H++[.cA b]):=h;revert h;refine c7.o0 fun a t hz h=>M2 (pa hz) fun h' e aE=>?_;have bt:bz w.params (ρ++[s.heap.objs.size]) (H++[.cA (dY #[])]) (s.heap.push (e5 #[])):=am.alloc rfl (.cA #[] (jy _));have ar:(ρ++[s.heap.objs.size])[ρ.length]? =E s.heap.objs.size:=by rw[List.getElem?_append_right (kN _)];simp
 have cq:=bt.update ar aE e (.cA a hz);rw[am.len,List.set_append_right _ _ (kN _),xU] at cq;refine q _ _ _ _ {s with heap:=h'} h cq (.ref ?_) ?_
 .rw[←am.len];exact ar
 .exact(Step.alloc s.toks).trans (Step.update (s:={s with heap:=s.heap.push (e5 #[]),toks:=s.toks}) s.toks (List.mem_of_getElem? ar) aE e)
theorem Sa (bC:A.handled=none):nI O w A (.builtin "sum") .sum:=fun vs ys H ρ s Q K h am bU hm q=>by
 refine te (h:a1 vs _) bU ?_;intro v y h c7
 induction v using V.casesOn with
 |ref l=>_
 |_=>exact ft h
 revert h;refine c7.hl ?_;intro a ar h;unfold Pf at h;dsimp only at h;generalize e:H[l]? =f7 at h
 induction f7 using ez with
 |none=>exact ft h
 |some o=>induction o using an.casesOn with
  |«ints» xs=>
   refine(am.ints ar e).elim fun bX g=>g.elim fun n g=>g.2.allInts.items.elim fun ys aS=>?_;have aJ:numsOf bX.toArray.toList=numsOf (intItems ys).toList:=by rw[aS]
   rw[show bX.toArray.toList=bX from rfl,g.2.numsOf,nums_intItems] at aJ;refine cU (sum_intListG bC (xs:=ys) (by rw[←aS];exact isList g.1) fun h' dj mB aB=>?_);have hf:=bz.free (s':={s with heap:=h',toks:=dj}) am aB rfl rfl
   refine q _ H ρ _ _ ?_ hf.1 (.int _ mB) hf.2;rw[preSum_eq,List.take_of_length_le (by simp),←aJ];exact h
  |_=>exact ft h
theorem R8 (bC:A.handled=none):nI O w A (.builtin "min") .min:=fun vs ys H ρ s Q K h am bU hm q=>by
 refine IE (h:a2 vs _) bU ?_;intro x y t u h;replace h:Q (.int (nd x y)) H:=h;refine cU (min_two_ints bC fun h' dj aB=>?_);have hf:=bz.free (s':={s with heap:=h',toks:=dj}) am aB rfl rfl
 split
 .rw[Em,Gv,if_neg (by lia)] at h;exact q _ H ρ _ _ h hf.1 (.int _ _) hf.2
 .rw[Em,Gv,if_pos (by lia)] at h;exact q _ H ρ _ _ h hf.1 (.int _ _) hf.2
set_option tactic.hygienic true in
theorem R7 (bC:A.handled=none):nI O w A (.builtin "max") .max:=fun vs ys H ρ s Q K h am bU hm q=>by
 refine IE (h:a2 vs _) bU ?_;intro x y t u h;replace h:Q (.int (Ab x y)) H:=h;refine cU (max_two_ints bC fun h' dj aB=>?_);have hf:=bz.free (s':={s with heap:=h',toks:=dj}) am aB rfl rfl
 split
 .rw[MF,Int.max_def,if_pos (by lia)] at h;exact q _ H ρ _ _ h hf.1 (.int _ _) hf.2
 .rename_i aL
  have e:∀a b:Int,¬b>a→max a b=a:=fun a b J5=>by lia
  rw[MF,e _ _ aL] at h;exact q _ H ρ _ _ h hf.1 (.int _ _) hf.2
theorem ae2 {l:Nat}{G:List V→Prop}(h:xg (.ref l) H G):
 (∃vs,H[l]? =E (.list vs)∧G vs)∨(∃xs,H[l]? =E (.ints xs)∧G (xs.map .int))∨(∃b,H[l]? =E (.cA b)∧G (b.map .int))∨(∃es n,H[l]? =E (.dict es n)∧G (es.map (·.1))):=by
 change (match H[l]? with
  |some (.list vs)=>G vs
  |some (.ints xs)=>G (xs.map .int)
  |some (.cA b)=>G (b.map .int)
  |some (.dict es _)=>G (es.map (·.1))
  |_=>False) at h
 generalize H[l]? =f7 at h
 induction f7 using ez with
 |none=>exact h.elim
 |some o=>induction o using an.casesOn with
  |«list» vs=>exact .inl ⟨vs,rfl,h⟩
  |«ints» xs=>exact .inr (.inl ⟨xs,rfl,h⟩)
  |cA b=>exact .inr (.inr (.inl ⟨b,rfl,h⟩))
  |dict es n=>exact .inr (.inr (.inr ⟨es,n,rfl,h⟩))
  |_=>exact h.elim
theorem EH {o:an}{o':Option an}{P:List V→Prop}(h:wY (E o) o' P):∃p,o'=E p∧EI o p P:=by
 induction o' using ez with
 |none=>exact h.elim
 |some p=>exact⟨p,rfl,h⟩
theorem EJ {o p:an}{P:List V→Prop}(h:EI o p P):(zE o=true∧((∃cc,p=.list cc∧P cc)∨∃xs,p=.ints xs∧P (xs.map .int)))∨(KG o=true∧∃b,p=.cA b∧P (b.map .int))∨
 ∃es n,KI n es.length o=true∧p=.dict es n∧P (es.map (·.1)):=by
 induction p using an.casesOn with
 |list cc=>exact .inl ⟨(fK h).1,.inl ⟨cc,rfl,(fK h).2⟩⟩
 |«ints» xs=>exact .inl ⟨(fK h).1,.inr ⟨xs,rfl,(fK h).2⟩⟩
 |cA b=>exact .inr (.inl ⟨(fK h).1,b,rfl,(fK h).2⟩)
 |dict es n=>exact .inr (.inr ⟨es,n,(fK h).1,rfl,(fK h).2⟩)
 |inst d=>exact h.elim
 |d5 d=>exact h.elim
theorem YB {d:bj}{xs:List c3}(hd:(d==sysModules)=false)(e:s.heap.get? d=E (dictOf xs n))
 (h2:Q (.ref s.heap.objs.size) {s with heap:=s.heap.push {cls:=.type "dict_keyiterator",data:=.fields #[.ref d,.int 0 0,.int xs.length 0,.int n 0]}}):wpAny (model O w) A (pyIter (.ref d)) Q eX s:=by
 refine u6 (fo e) PySem.F.slot_dict_iter (hp PySem.F.slot_dict_iter (fo e) PySem.F.entry_dict_iter ?_ (PySem.F.args_dict_iter_1 _));unfold Builtin.«dict.__iter__»;refine ae ?_;unfold Builtin.Dict.dictSlotNone;refine ae (q6 (fo e) ?_);refine(?_:wpAny _ _ (pure (gO d)) _ _ s);refine aX ?_;refine(?_:wpAny _ _ (Builtin.Dict.showsAll d>>=_) _ _ s);unfold Builtin.Dict.showsAll;rw[if_neg (by rw[hd];exact d7)];refine ae (aX (ae (mN e rfl ?_)));refine ae (ll e rfl (ae (jB (aX ⟨_,rfl,"dict_keyiterator",_,⟨_,g5 _ rfl,rfl⟩,PySem.F.slot_dict_keyiterator_next.lookup,?_⟩))))
 simpa [rawInt] using h2
theorem YA {l:bj}{b:Array UInt8}(e:s.heap.get? l=E (e5 b))
 (h2:Q (.ref s.heap.objs.size) {s with heap:=s.heap.push {cls:=.type "bytearray_iterator",data:=.fields #[.ref l,.int 0 0]}}):wpAny (model O w) A (pyIter (.ref l)) Q eX s:=by
 refine u6 (i1 e) dS.OW (hp dS.OW (i1 e) dS.Ur ?_ (dS.RA _));refine(?_:wpAny _ _ (do ret (←newFields "bytearray_iterator" [.ref l,rawInt 0])) _ _ s);exact ae (jB (aX ⟨_,rfl,"bytearray_iterator",_,⟨_,g5 _ rfl,rfl⟩,dS.uu.lookup,h2⟩))
theorem KS {G:List V→Prop}(am:bz w.params ρ H s.heap)(hm:∀a∈ρ,(a==sysModules)=false)
 (c7:aN ρ s.heap v y)(h:xg v H G):∃k vs,G vs∧jZ w.params ρ s.heap k vs∧
  (∀Q:aj→aQ→Prop,(∀o,o.isFreed=false→gb k s.heap.objs.size 0 (s.heap.push o)→Q (.ref s.heap.objs.size) {s with heap:=s.heap.push o})→wpAny (model O w) A (pyIter y) Q eX s)∧
  (∀ah aV bp s' P,(∀a∈ah,∀o xs n,s.heap.get? a=E o→o.data≠.seq xs n)→bz w.params aV bp s'.heap→Step ah ρ s aV s'→hk v vs H bp P→∃cc,P cc∧jZ w.params aV s'.heap k cc):=by
 have nf:∀{ah:List bj} {a o xs n},(∀a∈ah,∀o xs n,s.heap.get? a=E o→o.data≠.seq xs n)→s.heap.get? a=E o→o.data=.seq xs n→a∉ah:=fun hf e hd a9=>hf _ a9 _ _ _ e hd;have pr:∀{ah aV s'},(∀a∈ah,∀o xs n,s.heap.get? a=E o→o.data≠.seq xs n)→Step ah ρ s aV s'→eL ρ aV s.heap s'.heap:=fun hf st=>⟨st.new,fun a o e aC ⟨xs,n,hd⟩=>st.keep a o e aC (nf hf e (sw hd))⟩;have up:∀{ah aV s' a l},Step ah ρ s aV s'→ρ[l]? =E a→aV[l]? =E a:=fun st ar=>by refine dn st.new fun n cg b8=>?_;clear b8;subst cg;exact get_append ar
 induction v using V.casesOn with
 |tup vs=>refine c7.gM fun a xs n e r=>⟨.tup a,vs,h,⟨xs,n,e,r⟩,fun Q a9=>wpAny_pyIter_tuple (isTup e) (a9 _ rfl ⟨_,g5 _ rfl,rfl,rfl⟩),fun ah aV bp s' P hf eM st aE=>⟨vs,aE,?_⟩⟩;exact⟨xs,n,st.keep _ _ e (fun a9=>am.di _ a9 _ _ e) (nf hf e rfl),r.mono (pr hf st) am.di⟩
 |bytes b=>refine oD c7.Cw fun a t b8 eO eG=>?_;clear eO;subst b8;subst eG;exact⟨.p8 a t,_,h,rfl,fun Q a9=>KBw.pyIter_bytes (a9 _ rfl ⟨_,g5 _ rfl,rfl,rfl⟩),fun _ _ _ _ P _ _ _ aE=>⟨_,aE,rfl⟩⟩
 |ref l=>
  refine c7.hl fun a ar=>?_;have lst:∀{o:an} {ah:List bj} {aV:List bj} {bp:List an} {s':aQ} {P:List V→Prop},H[l]? =E o→zE o=true→bz w.params aV bp s'.heap→Step ah ρ s aV s'→wY (H[l]?) (bp[l]?) P→∃cc,P cc∧jZ w.params aV s'.heap (.list a) cc:=
   fun {o ah aV bp s' P} e ax eM st aE=>by
    rw[e] at aE;refine dn (EH aE) fun p cL aE=>?_;rcases EJ aE with⟨_,⟨cc,rfl,a8⟩|⟨xs,rfl,a8⟩⟩|⟨az,_⟩|⟨es,n,az,_⟩
    .exact mH (eM.list (up st ar) cL) fun sA kG o' i6=>⟨_,a8,sA,kG,o',i6⟩
    .exact mH (eM.ints (up st ar) cL) fun sA kG o' X9=>⟨_,a8,sA,kG,o',zC X9⟩
    .cases o<;>first|(exact dW ax;done)|(exact dW az;done)
    .cases o<;>first|(exact dW ax;done)|(exact dW az;done)
  rcases ae2 h with⟨vs,e,b5⟩|⟨xs,e,b5⟩|⟨b,e,b5⟩|⟨es,n,e,b5⟩
  .exact mH (am.list ar e) fun bX n o r=>⟨.list a,_,b5,⟨bX,n,o,r⟩,fun Q a9=>wpAny_pyIter_list (isList o) (a9 _ rfl ⟨_,g5 _ rfl,rfl,rfl⟩),fun ah aV bp s' P hf eM st aE=>lst e rfl eM st aE⟩
  .exact mH (am.ints ar e) fun bX n o DP=>⟨.list a,_,b5,⟨bX,n,o,zC DP⟩,fun Q a9=>wpAny_pyIter_list (isList o) (a9 _ rfl ⟨_,g5 _ rfl,rfl,rfl⟩),fun ah aV bp s' P hf eM st aE=>lst e rfl eM st aE⟩
  .refine gy (am.cA ar e) fun c o b8 eO=>?_;clear b8;subst eO;refine⟨.cA a,_,b5,⟨c,o,rfl⟩,fun Q a9=>YA o (a9 _ rfl ⟨_,g5 _ rfl,rfl,rfl⟩),fun ah aV bp s' P hf eM st aE=>?_⟩;change wY (H[l]?) (bp[l]?) P at aE;rw[e] at aE;refine dn (EH aE) fun p cL aE=>?_;rcases EJ aE with⟨az,_⟩|⟨_,ahd,rfl,a8⟩|⟨es,n,az,_⟩
   .exact dW az
   .refine gy (eM.cA (up st ar) cL) fun gQ o' b8 eO=>?_;clear b8;subst eO;exact⟨_,a8,gQ,o',rfl⟩
   .exact dW az
  .refine xz (am.dict ar e) fun xs o cS aD hX=>⟨.dict a (es.map (·.1)).length n,_,b5,⟨es,xs,o,cS,rfl,rfl⟩,fun Q a9=>YB (hm a (List.mem_of_getElem? ar)) o (a9 _ rfl ⟨_,g5 _ rfl,rfl,?_⟩),fun ah aV bp s' P hf eM st aE=>?_⟩
   .rw[List.length_map,cS.length];rfl
   .change wY (H[l]?) (bp[l]?) P at aE;rw[e] at aE;refine dn (EH aE) fun p cL aE=>?_;rcases EJ aE with⟨az,_⟩|⟨az,_⟩|⟨cT,kG,az,rfl,a8⟩
    .exact dW az
    .exact dW az
    .refine b4 az fun R Z=>?_;cases fO R;refine xz (eM.dict (up st ar) cL) fun fb o' Vv eO eG=>?_;clear eO eG;exact⟨_,a8,cT,fb,o',Vv,rfl,by rw[List.length_map,List.length_map];exact fO Z⟩
 |_=>exact h.elim
theorem jZ.ext {k:Src}(am:bz P ρ H h)(x:jZ P ρ h k vs)(ab:aM∉ρ)(aE:∀a o,a≠aM→h.get? a=E o→h'.get? a=E o)
 (jp:∀o,(∃xs n,o.data=.seq xs n)∨(∃es n,o.data=.dict es n)∨(∃b n,o.data=.bytearray b n)→h.get? aM≠E o):jZ P ρ h' k vs:=by
 have p:eL ρ ρ h h':=⟨⟨[],by simp,fun _ h=>nomatch h⟩,fun a o e aC hd=>aE a o (fun q=>jp o (.inl (sy hd)) (q▸e)) e⟩
 induction k using Src.casesOn with
 |list l=>refine mH x fun xs n e r=>?_;clear x;exact⟨xs,n,aE _ _ (fun q=>jp _ (.inl ⟨_,_,rfl⟩) (q▸e)) e,r.mono p am.di⟩
 |tup l=>refine mH x fun xs n e r=>?_;clear x;exact⟨xs,n,aE _ _ (fun q=>jp _ (.inl ⟨_,_,rfl⟩) (q▸e)) e,r.mono p am.di⟩
 |p8 b t=>exact x
 |cA l=>refine dn x fun b e r=>?_;clear x;exact⟨b,aE _ _ (fun q=>jp _ (.inr (.inr ⟨_,_,rfl⟩)) (q▸e)) e,r⟩
 |dict d n ep=>refine oD x fun es xs e cS r=>?_;clear x;exact⟨es,xs,aE _ _ (fun q=>jp _ (.inr (.inl ⟨_,_,rfl⟩)) (q▸e)) e,cS.mono p am.di,r⟩
 |eQ a st n=>exact x
theorem gb.not {k:Src}{i:Nat}(x:gb k aM i h):∀o,(∃xs n,o.data=.seq xs n)∨(∃es n,o.data=.dict es n)∨(∃b n,o.data=.bytearray b n)→h.get? aM≠E o:=by
 have key:∀{o:Obj} {f:Array aj},h.get? aM=E o→o.data=.fields f→∀o',(∃xs n,o'.data=.seq xs n)∨(∃es n,o'.data=.dict es n)∨(∃b n,o'.data=.bytearray b n)→h.get? aM≠E o':=fun e hd o' a9 cL=>by
  rw[e] at cL;obtain rfl:=cE cL;rcases a9 with⟨_,_,q⟩|⟨_,_,q⟩|⟨_,_,q⟩<;>(rw[hd] at q;cases q)
 induction k using Src.casesOn with
 |eQ a st n=>exact key x rfl
 |list l=>refine gy x fun o ax b8 hd=>?_;clear x b8;exact key ax hd
 |tup l=>refine gy x fun o ax b8 hd=>?_;clear x b8;exact key ax hd
 |p8 b t=>refine gy x fun o ax b8 hd=>?_;clear x b8;exact key ax hd
 |cA l=>refine gy x fun o ax b8 hd=>?_;clear x b8;exact key ax hd
 |dict d n ep=>refine gy x fun o ax b8 hd=>?_;clear x b8;exact key ax hd
theorem TJ {k:Src}(bC:A.handled=none)(ab:aM∉ρ):∀(m i:Nat) (s:aQ) (Q:List aj→aQ→Prop),bz w.params ρ H s.heap→gb k aM i s.heap→jZ w.params ρ s.heap k vs→
 i+m=vs.length→(∀zs h' t,bJ ρ h' (vs.drop i) zs→bz w.params ρ H h'→gb k aM (i+m) h'→jZ w.params ρ h' k vs→fI aM s.heap h'→zs.length=m→Q zs {s with heap:=h',toks:=t})→wpAny (model O w) A (draw (.ref aM) m) Q eX s:=fun m=>by
 induction m with
 |zero=>intro i s Q am bW aE e q;exact aX (q [] s.heap s.toks (by rw[List.drop_of_length_le (by lia)];exact .nil) am bW aE (BJ ..) rfl)
 |succ m aF=>
  intro i s Q am bW aE e q;show wpAny _ _ (pyNext (.ref aM)>>=_) Q _ s;refine ae (Am bC bW aE (fun v z h' t co fV m6 eK=>?_) fun aL=>?_)
  .have p:eL ρ ρ s.heap h':=⟨⟨[],by simp,fun _ h=>nomatch h⟩,fun a o e aC hd=>(eK.2 a fun q=>bW.not o (.inl (sy hd)) (q▸e)).trans e⟩;have eM:bz w.params ρ H h':=am.other (fun a aC=>eK.2 a fun q=>ab (q▸aC)) p;have gq:=aE.ext am ab (fun a o eF e=>(eK.2 a eF).trans e) bW.not;refine ae (ga (aF (i+1) {s with heap:=h',toks:=t} _ eM m6 gq (by lia) fun zs Z aa agT cq rK XZ sf len=>aX ?_))
   have p2:eL ρ ρ s.heap Z:=⟨⟨[],by simp,fun _ h=>nomatch h⟩,fun a o e aC hd=>((eK.trans sf).2 a fun q=>bW.not o (.inl (sy hd)) (q▸e)).trans e⟩;refine q (z::zs) Z aa ?_ cq (by rw[show i+(m+1)=i+1+m by lia];exact rK) XZ (eK.trans sf) (by simp[len]);rw[show vs.drop i=v::vs.drop (i+1) by have ar:=(List.getElem?_eq_some_iff.mp co).1;rw[List.drop_eq_getElem_cons ar,(List.getElem?_eq_some_iff.mp co).2]]
   exact .cons (fV.mono p2 am.di) agT
  .intro h' _;have:=List.getElem?_eq_none_iff.mp aL;lia
theorem ED {aT id:String}{Q:Bool→aQ→Prop}(cr:s.TypeIs y aT)(aE:typeLookup (.type aT) "__iter__"=pure (E (.builtin id)))(h:Q false s):wpAny (model O w) A (notIterableAtAll y) Q eX s:=by unfold notIterableAtAll;exact ae (iQ cr aE (aX h))
inductive vp (H:List an)(n:Nat)(G:List V→Prop)(l:Nat):Prop
 |ol (vs:List V):H[l]? =E (.list vs)→c1 vs.length n=true→G vs→vp H n G l
 |w0 (xs:List Int):H[l]? =E (.ints xs)→c1 xs.length n=true→G (xs.map .int)→vp H n G l
theorem PR {l:Nat}{G:List V→Prop}(h:lT (.ref l) H n G):vp H n G l:=by
 change (match H[l]? with
  |some (.list vs)=>ao (c1 vs.length n) (G vs) False
  |some (.ints xs)=>ao (c1 xs.length n) (G (xs.map .int)) False
  |_=>False) at h
 generalize e:H[l]? =f7 at h
 induction f7 using ez with
 |none=>exact h.elim
 |some o=>induction o using an.casesOn with
  |«list» vs=>exact j1 h fun a b=>.ol vs e a b
  |«ints» xs=>exact j1 h fun a b=>.w0 xs e a b
  |_=>exact h.elim
theorem agH {G:List V→Prop}(h:lT v H n G):xg v H (fun vs=>vs.length=n∧G vs):=by
 induction v using V.casesOn with
 |tup vs=>exact⟨fO (fK h).1,(fK h).2⟩
 |ref l=>
  refine(?_:(match H[l]? with
   |some (.list vs)=>vs.length=n∧G vs
   |some (.ints xs)=>(xs.map V.int).length=n∧G (xs.map .int)
   |some (.cA b)=>(b.map V.int).length=n∧G (b.map .int)
   |some (.dict es _)=>(es.map (·.1)).length=n∧G (es.map (·.1))
   |_=>False))
  refine vp.casesOn (PR h) (fun vs e a b=>?_) fun xs e a b=>?_
  .rw[e];exact⟨fO a,b⟩
  .rw[e];exact⟨(List.length_map _).trans (fO a),b⟩
 |_=>exact h.elim
theorem agG {G:List V→Prop}{Q:Bool→aQ→Prop}(am:bz P ρ H s.heap)(c7:aN ρ s.heap v y)(h:lT v H n G)(q:Q false s):wpAny (model O w) A (notIterableAtAll y) Q eX s:=by
 induction v using V.casesOn with
 |tup vs=>exact c7.gM fun a xs n e r=>ED (isTup e).typeIs PySem.F.slot_tuple_iter.lookup q
 |ref l=>exact c7.hl fun a ar=>vp.casesOn (PR h) (fun vs e _ _=>dB (am.list ar e) fun bX n g=>ED (isList g.1).typeIs slot_list_iter.lookup q) fun xs e _ _=>dB (am.ints ar e) fun bX n g=>ED (isList g.1).typeIs slot_list_iter.lookup q
 |_=>exact h.elim
theorem PS {G:List V→Prop}{Q:List aj→aQ→Prop}(bC:A.handled=none)(am:bz w.params ρ H s.heap)(hm:∀a∈ρ,(a==sysModules)=false)
 (c7:aN ρ s.heap v y)(h:lT v H n G)
 (q:∀vs zs s',G vs→vs.length=n→bJ ρ s'.heap vs zs→bz w.params ρ H s'.heap→Step [] ρ s ρ s'→zs.length=n→Q zs s'):wpAny (model O w) A (unpackItems y n none) Q eX s:=by
 obtain⟨k,vs,⟨ar,b5⟩,lx,bW,keep⟩:=KS am hm c7 (agH h);unfold unpackItems;refine ae (agG am c7 h (e2 d7<|ae (ga (bW _ fun o of mj=>?_))));have ab:s.heap.objs.size∉ρ:=fun a9=>by refine dm (am.lt a9) fun o e=>?_;rw[kA] at e;exact c5 e
 have bt:bz w.params ρ H (s.heap.push o):=am.push o;have WS:jZ w.params ρ (s.heap.push o) k vs:=lx.ext (aM:=s.heap.objs.size) am ab (fun a o' eF e=>fv _ e) (fun o' _ e=>by rw[kA] at e;exact c5 e);refine ae (ga (TJ bC ab n 0 {s with heap:=s.heap.push o} _ bt mj WS (by lia) fun zs Z aa fV cq rK WT eK len=>e2 (by lia)<|ae (ga (Am (s:={s with heap:=Z,toks:=aa}) bC rK WT (fun lU z h' t co _ _ _=>?_) fun aL bv ex=>?_))))
 .have:=(List.getElem?_eq_some_iff.mp co).1;lia
 .refine e2 d7 ?_;have all:∀a o',s.heap.get? a=E o'→bv.get? a=E o':=fun a o' e=>by
   have eF:a≠s.heap.objs.size:=fun q=>by rw[q,kA] at e;exact c5 e
   exact ex a o' eF ((eK.2 a eF).trans (fv _ e))
  refine b7 (bz.free (s':={s with heap:=bv,toks:=aa}) am all rfl rfl) fun f5 st=>?_
  have p:eL ρ ρ Z bv:=⟨⟨[],by simp,fun _ h=>nomatch h⟩,fun a o e aC hd=>ex a o (fun q=>rK.not o (.inl (sy hd)) (q▸e)) e⟩;exact aX (q vs zs _ b5 ar (fV.mono p cq.di) f5 st len)
noncomputable abbrev vo:=V→List V→List an→(List V→Prop)→Prop
section
variable (O:hS)(w:eJ)(B:gD)(A:fu)(I:Env)(ay:List Str)
def yw (t:aY)(f:vo):Prop:=∀v y ah loc H ρ s (G:List V→Prop) (K:Unit→aQ→Prop),f v loc H G→bZ w.params B I ah ay ρ H loc s→aN ρ s.heap v y→
 (∀eg s',G eg→bZ w.params B I ah ay ρ H eg s'→Step ah ρ s ρ s'→K () s')→wpAny (model O w) A (assign t I y) K eX s
end
def aga (i:Nat):vo:=fun v loc _ G=>G (loc.set i v)
def agb (is:List Nat):vo:=fun v loc H G=>lT v H is.length fun cc=>G (jv loc is cc)
inductive hU (I:Env)(ay:List Str):List aY→List Str→List Nat→Prop
 |nil:hU I ay [] [] []
 |cons {y:Str} {p:Pos} {i:Nat} {es:List aY} {ys:List Str} {is:List Nat}:ay[i]? =E y→p1 I y→hU I ay es ys is→hU I ay (.Name y p::es) (y::ys) (i::is)
theorem agc {y:Str}{i:Nat}(ct:ay[i]? =E y)(c0:p1 I y):yw O w B A I ay (.Name y p) (aga i):=fun v z ah loc H ρ s G K h r fV q=>
 xY (uy ct c0 r fV fun s' i6 st _=>q _ s' h i6 st)
theorem bZ.vN (r:bZ P B I ah ay ρ H loc s):∀a∈ah,∃o,s.heap.get? a=E o∧∀xs n,o.data≠.seq xs n:=fun a aC=>(r.cj.own a aC).2
theorem Step.acm (r:bZ P B I ah ay ρ H loc s)(st:Step ah ρ s aV s'):eL ρ aV s.heap s'.heap:=
 ⟨st.new,fun a o e aC ⟨xs,n,hd⟩=>st.keep a o e aC fun a9=>by refine dn (r.vN a a9) fun o' cL aL=>?_;rw[e] at cL;obtain rfl:=cE cL;exact aL _ _ (sw hd)⟩
theorem hU.each {es:List aY}{ys:List Str}(h:hU I ay es ys is):(assignEach es I).map (·.2)=es.map (fun e=>assign e I)∧(assignEach es I).findIdx? (·.1)=none∧(assignEach es I).length=is.length:=by
 induction h with
 |nil=>exact⟨rfl,rfl,rfl⟩
 |@cons y p i es ys is R Z bv aF=>
  refine⟨?_,?_,?_⟩
  .refine(?_:assign (.Name y p) I::(assignEach es I).map (·.2)=_);rw[aF.1];rfl
  .refine(?_:List.findIdx? (·.1) ((false,assign (.Name y p) I)::assignEach es I)=none);rw[List.findIdx?_cons,if_neg d7,aF.2.1];rfl
  .refine(?_:(assignEach es I).length+1=is.length+1);rw[aF.2.2]
def Q1 (O:hS)(w:eJ)(B:gD)(A:fu)(I:Env)(ay:List Str)(ah:List bj)(H:List an)(ρ:List bj)(f:aj→Sem Unit)(i:Nat):Prop:=
 ∀v y loc s (K:Unit→aQ→Prop),bZ w.params B I ah ay ρ H loc s→aN ρ s.heap v y→(∀s',bZ w.params B I ah ay ρ H (loc.set i v) s'→Step ah ρ s ρ s'→K () s')→wpAny (model O w) A (f y) K eX s
inductive s7 (O:hS)(w:eJ)(B:gD)(A:fu)(I:Env)(ay:List Str)(ah:List bj)(H:List an)(ρ:List bj):List (aj→Sem Unit)→List Nat→Prop
 |nil:s7 O w B A I ay ah H ρ [] []
 |cons {f:aj→Sem Unit} {i:Nat} {fF:List (aj→Sem Unit)} {is:List Nat}:Q1 O w B A I ay ah H ρ f i→s7 O w B A I ay ah H ρ fF is→s7 O w B A I ay ah H ρ (f::fF) (i::is)
theorem NP {cQ:List (aj→Sem Unit)}(hu:s7 O w B A I ay ah H ρ cQ is):
 ∀(vs:List V) (zs:List aj) (loc:List V) (s:aQ) (K:Unit→aQ→Prop),vs.length=is.length→bZ w.params B I ah ay ρ H loc s→bJ ρ s.heap vs zs→
  (∀s',bZ w.params B I ah ay ρ H (jv loc is vs) s'→Step ah ρ s ρ s'→K () s')→wpAny (model O w) A (assignInOrder cQ zs) K eX s:=by
 induction hu with
 |nil=>
  intro vs zs loc s K ar r bU q
  induction vs using List.casesOn with
  |nil=>exact aX (q s r (.refl _ _ _))
  |cons _ _=>cases ar
 |@cons f i cQ is hf _ aF=>
  intro vs zs loc s K ar r bU q;cases bU with
  |nil=>cases ar
  |@cons v z vs zs fV bU=>refine(?_:wpAny _ _ (holding zs (f z)>>=fun _=>assignInOrder cQ zs) K eX s);exact ae (ga (hf v z loc s _ r fV fun s1 cJ bk=>aF vs zs (loc.set i v) s1 K (by simpa using ar) cJ (bU.mono (bk.acm r) r.am.di) fun s2 dx ck=>q s2 dx (bk.trans ck)))
theorem hU.cQ {es:List aY}{ys:List Str}(h:hU I ay es ys is):s7 O w B A I ay ah H ρ (es.map fun e=>assign e I) is:=by
 induction h with
 |nil=>exact .nil
 |cons R Z bv aF=>exact .cons (fun v y loc s K r c7 q=>xY (uy R Z r c7 fun s' i6 st _=>q s' i6 st)) aF
theorem hU.names {es:List aY}{ys:List Str}(h:hU I ay es ys is):s7 O w B A I ay ah H ρ (ys.map fun n=>bindName I n) is:=by
 induction h with
 |nil=>exact .nil
 |cons R Z bv aF=>exact .cons (fun v z loc s K r fV q=>wpAny_bindName (uy R Z r fV fun s' i6 st _=>q s' i6 st)) aF
theorem hU.len {es:List aY}{ys:List Str}(h:hU I ay es ys is):ys.length=is.length:=by
 induction h with
 |nil=>rfl
 |cons _ _ _ aF=>simp[aF]
theorem hU.snoc {es:List aY}{ys:List Str}{y:Str}{i:Nat}(h:hU I ay es ys is)(R:ay[i]? =E y)(Z:p1 I y):hU I ay (es++[.Name y p]) (ys++[y]) (is++[i]):=by
 induction h with
 |nil=>exact .cons R Z .nil
 |cons a b _ aF=>exact .cons a b aF
theorem hU.rev {es:List aY}{ys:List Str}(h:hU I ay es ys is):hU I ay es.reverse ys.reverse is.reverse:=by
 induction h with
 |nil=>exact .nil
 |cons a b _ aF=>rw[List.reverse_cons,List.reverse_cons,List.reverse_cons];exact aF.snoc a b
theorem aek:∀{loc vs:List V} {i:Nat} {v:V},i∉is→jv (loc.set i v) is vs=(jv loc is vs).set i v:=by
 induction is with
 |nil=>intro loc vs i v _;cases vs<;>rfl
 |cons j is aF=>
  intro loc vs i v h;rw[List.mem_cons,not_or] at h
  induction vs using List.casesOn with
  |nil=>rfl
  |cons u bX=>refine(?_:jv ((loc.set i v).set j u) is bX=(jv (loc.set j u) is bX).set i v);rw[List.set_comm _ _ h.1,aF h.2]
theorem OG:∀{is:List Nat} {loc vs:List V} {i:Nat} {v:V},vs.length=is.length→jv loc (is++[i]) (vs++[v])=(jv loc is vs).set i v
 | [],loc,[],i,v,_=>rfl
 |j::is,loc,u::vs,i,v,h=>OG (is:=is) (loc:=loc.set j u) (by simpa using h)
 | [],_,_::_,_,_,h=>by cases h
 |_::_,_,[],_,_,h=>by cases h
theorem OF:∀{is:List Nat} {loc vs:List V},is.Nodup→vs.length=is.length→jv loc is.reverse vs.reverse=jv loc is vs
 | [],loc,[],_,_=>rfl
 |i::is,loc,v::vs,aL,ar=>by rw[List.nodup_cons] at aL;rw[List.reverse_cons,List.reverse_cons,OG (by simpa using ar),OF aL.2 (by simpa using ar)];exact(aek aL.1).symm
 | [],_,_::_,_,h=>by cases h
 |_::_,_,[],_,h=>by cases h
theorem Ps (ok:B.Ok)(bC:A.handled=none){es:List aY}{ys:List Str}{k:Nat}(h:hU I ay es ys is):yw O w B A I ay (.Tuple es k p) (agb is):=fun v z ah loc H ρ s G K co r fV q=>by rw[arm_assign_Tuple];refine ae (wpAny_standAt ?_);unfold unpack;refine hJ h.each fun aW aJ cI=>?_;rw[aW,aJ,cI];exact ae (ga (PS bC r.am (r.mods ok.dE) fV co fun vs zs s1 b5 ar bU bt bk hz=>NP h.cQ vs zs loc s1 K ar (r.step bk bt) bU fun s2 dx ck=>q _ s2 b5 dx (bk.up.trans ck)))
theorem afa (ok:B.Ok)(bC:A.handled=none){x:aG}{es:List aY}{ys:List Str}{k:Nat}(h:hU I ay es ys is)(aL:is.Nodup)(aI:lE e=false)
 (DH:swappedStores [.Tuple es k p] e I=pure none∨swappedStores [.Tuple es k p] e I=pure (E ys))(he:cV O w B C A I ay e x):hI O w B C A I ay (.Assign [.Tuple es k p] e q) (.hW is x):=
 fun ah loc H ρ s Q K co r bn=>by
  rw[exec_Assign_arm];refine e9 (hy (Pj aI _ _ _) (rX (by decide)<|b0 (dF (he ah loc H ρ s _ _ co r fun v aq bP u s1 R bt eC bk=>?_) fun _ _ x=>x)));have cJ:=r.step bk bt;rcases DH with eT|eT
  .refine hy eT ?_;show aO O w A (do assignAll u ((assignEach [.Tuple es k p] I).map (·.2));pure .next) K s1;refine dH (sN (Ps ok bC (k:=k) (p:=p) h v u ah loc aq bP s1 (fun l=>Q .next l aq) (fun _ s'=>K .next s') R cJ eC fun eg s' g i6 el=>?_) (fun _ _ x=>cM x) fun _ _ x=>x);exact bn .next eg aq bP .next s' g i6 trivial (bk.up.trans el)
  .refine hy eT ?_;have ar:ys.length=is.length:=h.len;show aO O w A (do rule "assign.swapped-stores";let items←unpackItems u ys.length none;assignInOrder (ys.reverse.map fun n=>bindName I n) items.reverse;pure .next) K s1;refine dH (iv ?_);rw[ar];refine dH (PS bC cJ.am (cJ.mods ok.dE) eC R fun vs zs s2 b5 Ki bU cq ck hz=>?_);have XW:bJ bP s2.heap vs.reverse zs.reverse:=by
    have:∀{a b:List V} {c d:List aj},bJ bP s2.heap a c→bJ bP s2.heap b d→bJ bP s2.heap (a.reverse++b) (c.reverse++d):=fun {a}=>by
     induction a with
     |nil=>intro b c d x y;refine x.iJ ?_;clear x;exact y
     |cons v a aF=>intro b c d x y;refine x.gS fun _ _ ja jT=>?_;rw[List.reverse_cons,List.reverse_cons,List.append_assoc,List.append_assoc];exact aF jT (.cons ja y)
    simpa using this bU .nil
   refine dH (NP h.rev.names vs.reverse zs.reverse loc s2 _ (by simp[Ki]) (cJ.step ck cq) XW fun s3 hD fq=>cM ?_);rw[OF aL Ki] at hD;exact bn .next _ aq bP .next s3 b5 hD trivial ((bk.up.trans ck.up).trans fq)
section
variable (O:hS)(w:eJ)(B:gD)(C:hT)(A:fu)(I:Env)(ay:List Str)
def nO (e:aY)(x:aG):Prop:=∀ah loc H ρ s (Q:V→List V→List an→Prop) (K:aj→aQ→Prop),qX C B.G loc x (cF C B.G loc x) H Q→bZ w.params B I ah ay ρ H loc s→
 (∀af vs bp aV k aM bB s',Q af vs bp→bz w.params aV bp s'.heap→Step [] ρ s aV s'→Step [] ρ s aV bB→bz w.params aV bp bB.heap→gb k aM 0 s'.heap→bB.heap.get? aM=none→(∀a o,bB.heap.get? a=E o→s'.heap.get? a=E o)→jZ w.params aV s'.heap k vs→
  (∀JE cu be s2 P,(∀a∈JE,∀o xs n,bB.heap.get? a=E o→o.data≠.seq xs n)→bz w.params cu be s2.heap→Step JE aV bB cu s2→hk af vs bp be P→∃cc,P cc∧jZ w.params cu s2.heap k cc)→K (.ref aM) s')→
 aO O w A (eval e I) (fun y bB=>aO O w A (pyIter y) K bB) s
end
theorem agK {G:Nat→Option V}{x:aG}(aS:∀a b c,x≠.range a b c){u:List an→bI→Prop}{Q:V→List V→List an→Prop}(h:qX C G loc x u H Q):u H fun a aq=>xg a aq fun vs=>Q a vs aq:=by
 cases x<;>first|exact h|exact absurd rfl (aS _ _ _)
theorem o3 (am:bz P ρ H h)(e:h.get? aM=none):aM∉ρ:=fun a9=>by refine dm (am.lt a9) fun o cL=>?_;rw[e] at cL;exact c5 cL
theorem aeB (ok:B.Ok){x:aG}(aS:∀a b c,x≠.range a b c)(he:cV O w B C A I ay e x):nO O w B C A I ay e x:=fun ah loc H ρ s Q K h r q=>by refine he ah loc H ρ s _ _ (agK aS h) r fun v aq bP y s1 R bt c7 bk=>?_;have cJ:=r.step bk bt;refine nx (KS (O:=O) (A:=A) bt (cJ.mods ok.dE) c7 R) fun k vs b5 lx bW keep=>cU (bW _ fun o of mj=>?_);have ab:=o3 bt (kA s1.heap);refine q v vs aq bP k _ s1 _ b5 (bt.push o) (bk.trans (.push s1.toks)) bk bt mj (kA _) (fun a o' e=>fv _ e) (lx.ext bt ab (fun a o' eF e=>fv _ e) (fun o' _ e=>by rw[kA] at e;exact c5 e)) keep
theorem acy {a b:Int}(aI:0<c):Builtin.Range.rangeSize a b c=((((b-a+c-1)/c).toNat:Nat):Int):=by
 unfold Builtin.Range.rangeSize;rw[if_pos aI]
 by_cases h:a<b
 .rw[if_pos h,show b-a+c-1=(b-a-1)+1*c by omega,Int.add_mul_ediv_right _ _ (by omega)];have:0≤(b-a-1)/c:=Gu (by omega) (by omega);omega
 .rw[if_neg h];have:(b-a+c-1)/c<1:=Int.ediv_lt_of_lt_mul aI (by omega);omega
theorem fits_of {x:Int}(h: -(2^43)<x∧x<2^43):Builtin.Range.rangeFitsLong x=true:=by unfold Builtin.Range.rangeFitsLong;rw[decide_eq_true (oK (ko (by decide) h.1)),decide_eq_true (ko h.2 (by decide))];rfl
theorem size_fits {a b:Int}(aI:0<c)(R: -(2^40)<a)(cZ:b<2^40): -(2^43)<Builtin.Range.rangeSize a b c∧Builtin.Range.rangeSize a b c<2^43:=by
 unfold Builtin.Range.rangeSize;rw[if_pos aI]
 by_cases h:a<b
 .rw[if_pos h];have bl:0≤b-a-1:=by lia
  have gV:=Int.ediv_le_self c bl;have n1:=Gu bl (oK aI);lia
 .rw[if_neg h];decide
theorem aeR {a b:Int}(aI:0<c)(R: -(2^40)<a)(Z:a<2^40)(bv: -(2^40)<b)(cZ:b<2^40)(gV:c<2^40):Builtin.Range.small a b c=true:=by have f:∀{x:Int},-(2^40)<x→x<2^40→Builtin.Range.rangeFitsLong x=true:=fun p q=>fits_of ⟨ko (by decide) p,ko q (by decide)⟩;unfold Builtin.Range.small;rw[f R Z,f bv cZ,f (ko (by decide) aI) gV,fits_of (size_fits aI R cZ),if_pos aI,fits_of ⟨by lia,by lia⟩,xH];rfl
theorem noPylong {a b:Int}(h:c<2^40)(aI:0<c):Builtin.divisionGoesByPylong (b-a) c=false:=Qu (log2_lt aI (by omega))
theorem acJ {r:bj}{x y z:Int}{t u v:Tok}{K:aj→aQ→Prop}(hz:0<z)(az: -(2^40)<x∧x<2^40∧ -(2^40)<y∧y<2^40∧z<2^40)
 (am:IsRange s.heap r x y z t u v)(q:∀o,o.isFreed=false→gb (.eQ x z ((y-x+z-1)/z).toNat) s.heap.objs.size 0 (s.heap.push o)→K (.ref s.heap.objs.size) {s with heap:=s.heap.push o}):wpAny (model O w) A (pyIter (.ref r)) K eX s:=by
 refine wpAny_pyIter_range am (aeR hz az.1 az.2.1 az.2.2.1 az.2.2.2.1 az.2.2.2.2) (q _ rfl ?_);show IsRangeIter _ _ (x+z*((0:Nat):Int)) (_-((0:Nat):Int)) z;rw[acy hz,show x+z*((0:Nat):Int)=x by simp,show∀n:Int,n-((0:Nat):Int)=n from fun n=>by simp];exact g5 _ rfl
@[elab_as_elim] theorem tK {o:V}{x:aj}{K:Int→Prop}{aA:aj→Prop}(c:n5 o K)(r:aN ρ h o x)(k:∀i t,K i→aA (.int i t)):aA x:=by
 induction o using V.casesOn with
 |int l=>exact r.fg fun t=>k l t c
 |_=>exact ft c
theorem Ff (ok:B.Ok){x:Str}{es:List aY}{a b c:aG}(n:ve B I x (.type "range"))(a8:es.all jR=true)
 (aE:(∃e,es=[e]∧a=.int 0∧c=.int 1∧cV O w B C A I ay e b)∨(∃e f,es=[e,f]∧c=.int 1∧cV O w B C A I ay e a∧cV O w B C A I ay f b)∨
  (∃e f g,es=[e,f,g]∧cV O w B C A I ay e a∧cV O w B C A I ay f b∧cV O w B C A I ay g c)):nO O w B C A I ay (.Call (.Name x k2) es [] p) (.range a b c):=fun ah loc H ρ s Q K h r q=>by
 have fin:∀{x y z:Int} {t u v:Tok} {k:Nat} {ei:List an} {f8:List bj} {s3:aQ},(0<z∧ -(2^40)<x∧x<2^40∧ -(2^40)<y∧y<2^40∧z<2^40)∧Q .none ((eQ x y z).map .int) ei→bz w.params f8 ei s3.heap→Step [] ρ s f8 s3→
  aO O w A (pyIter (.ref s3.heap.objs.size)) K {s3 with heap:=s3.heap.push {cls:=.type "range",data:=.fields #[.int x t,.int y u,.int z v]},toks:=k}:=fun {x y z t u v k ei f8 s3} a9 am st=>by
  refine cU (acJ a9.1.1 a9.1.2 (IsRange.new ..) fun o of mj=>?_);have bk:Step [] ρ s f8 {s3 with heap:=s3.heap.push {cls:=.type "range",data:=.fields #[.int x t,.int y u,.int z v]},toks:=k}:=st.trans (.push k)
  refine q .none _ ei f8 _ _ _ _ a9.2 ((am.push _).push _) (bk.trans (.push k)) bk (am.push _) mj (kA _) (fun a o' e=>fv _ e) ?_ fun _ _ _ _ P _ _ _ aE=>⟨_,aE,?_⟩
  .show _=_;unfold eQ;rw[List.map_map];rfl
  .show _=_;unfold eQ;rw[List.map_map];rfl
 refine Ai (Et ok n r (dF (Aj (Q:=fun y bB=>aO O w A (pyIter y) K bB) a8 ?_) fun _ _ h=>h));rcases aE with⟨e,rfl,rfl,rfl,he⟩|⟨e,f,rfl,rfl,he,hf⟩|⟨e,f,g,rfl,he,hf,b5⟩
 .change cF C B.G loc b H (fun b be=>n5 b fun y=>ao (mz 0 y 1) (Q .none ((eQ 0 y 1).map .int) be) False) at h;rw[List.all_cons,fH] at a8;rw[oy a8.1];exact qL (he ah loc H ρ s _ _ h r fun jS aq bP y s1 R bt c7 bk=>cU (va ⟨zS,tK R c7 fun i t g=>cU (call_range_1 (fin ⟨uv (fK g).1,(fK g).2⟩ bt bk))⟩))
 .change cF C B.G loc a H (fun a aq=>cF C B.G loc b aq fun b be=>n5 a fun x=>n5 b fun y=>ao (mz x y 1) (Q .none ((eQ x y 1).map .int) be) False) at h;rw[List.all_cons,List.all_cons,fH,fH] at a8;rw[oy a8.1,oy a8.2.1];exact qL (he ah loc H ρ s _ _ h r fun eC aq bP y s1 R bt c7 bk=>qL (hf ah loc aq bP s1 _ _ R (r.step bk bt) fun jS be cu z s2 Z cq fV ck=>cU (va ⟨zS,
   tK Z c7 fun i t Z=>tK Z fV fun j u g=>cU (call_range_2 (fin ⟨uv (fK g).1,(fK g).2⟩ cq (bk.trans ck)))⟩)))
 .change cF C B.G loc a H (fun a aq=>cF C B.G loc b aq fun b be=>cF C B.G loc c be fun c ei=>n5 a fun x=>n5 b fun y=>n5 c fun z=>ao (mz x y z) (Q .none ((eQ x y z).map .int) ei) False) at h;rw[List.all_cons,List.all_cons,List.all_cons,fH,fH,fH] at a8;rw[oy a8.1,oy a8.2.1,oy a8.2.2.1];exact qL (he ah loc H ρ s _ _ h r fun eC aq bP y s1 R bt c7 bk=>qL (hf ah loc aq bP s1 _ _ R (r.step bk bt) fun jS be cu z s2 Z cq fV ck=>
   qL (b5 ah loc be cu s2 _ _ Z ((r.step bk bt).step ck cq) fun PW ei f8 ahy s3 bv f5 agR fq=>cU (va ⟨zS,
    tK bv c7 fun i t bv=>tK bv fV fun j u bv=>tK bv agR fun k v g=>cU (call_range_3 (sF (uv (fK g).1).1) (fin (k:=s3.toks) ⟨uv (fK g).1,(fK g).2⟩ f5 ((bk.trans ck).trans fq)) (.inl (noPylong (uv (fK g).1).2.2.2.2.2 (uv (fK g).1).1)))⟩))))
theorem bZ.but (r:bZ P B I ah ay ρ H loc s)(aE:∀a o,a≠aM→s.heap.get? a=E o→h'.get? a=E o)
 (R:aM∉ρ)(Z:aM∉ah)(bv:B.h₀.get? aM=none)(jp:∀o,(∃xs n,o.data=.seq xs n)→s.heap.get? aM≠E o)(t:Nat):bZ P B I ah ay ρ H loc {s with heap:=h',toks:=t}:=by
 have p:eL ρ ρ s.heap h':=⟨⟨[],by simp,fun _ h=>nomatch h⟩,fun a o e aC hd=>aE a o (fun q=>jp o (sy hd) (q▸e)) e⟩;have jM:∀a∈ah,∀o,s.heap.get? a=E o→h'.get? a=E o:=fun a aC o e=>aE a o (fun q=>Z (q▸aC)) e;have am:bz P ρ H h':=r.am.other (fun a aC=>by refine dm (r.am.lt aC) fun o e=>?_;rw[e,aE a o (fun q=>R (q▸aC)) e]) p
 refine⟨am,⟨r.cj.kind,r.cj.glob,r.cj.blt,fun a aC=>?_,r.cj.nb,r.cj.mW,fun i x v aS co bx=>?_,r.cj.nu,?_,fun x c aI=>?_,r.cj.qC,r.cj.inj,r.cj.eW⟩,fun a o e=>?_⟩
 .obtain⟨R,o,Z,bv⟩:=r.cj.own a aC;exact⟨R,o,jM a aC o Z,bv⟩
 .exact dn (r.cj.k6 i x v aS co bx) fun gB g1 bL=>⟨gB,Oc r.cj.nb r.cj.mW jM g1,bL.mono p r.am.di⟩
 .exact uP r.cj.ns fun m o es ep ax q=>⟨m,o,es,ep,jM _ r.cj.nb _ ax,q⟩
 .exact mH (r.cj.cl x c aI) fun v o ax q=>⟨v,o,jM _ (r.cj.mW _ _ aI) _ ax,q⟩
 .refine hJ (r.bs a o e) fun g1 bL g3=>?_;exact⟨aE a o (fun q=>by rw[←q,e] at bv;exact pA bv) g1,bL,g3⟩
theorem Step.but (st:Step ah ρ s aV bB)(ab:s.heap.get? aM=none)(aE:∀a o,a≠aM→bB.heap.get? a=E o→h'.get? a=E o)(t:Nat):
 Step ah ρ s aV {bB with heap:=h',toks:=t}:=by
 refine⟨st.new,fun a o e aC hf=>aE a o (fun q=>by rw[q,ab] at e;exact c5 e) (st.keep a o e aC hf),fun a e=>?_,st.gens,st.os⟩;cases q:bB.heap.get? a with
 |none=>exact st.live a q
 |some o=>
  by_cases aC:a=aM
  .rw[aC];exact ab
  .rw[aE a o aC q] at e;exact pA e
theorem Yq {k:Src}{i:Nat}(x:gb k aM i h):∃(o:Obj) (n:String) (vs:Array aj),h.get? aM=E o∧o.cls=.type n∧o.data=.fields vs∧
 ["enumerate","zip","dict_itemiterator","dict_reverseitemiterator","odict_iterator","itertools.zip_longest","itertools.pairwise"].contains n=false:=by
 induction k using Src.casesOn with
 |eQ a st n=>exact⟨_,_,_,x,rfl,rfl,by decide⟩
 |list l=>refine gy x fun o ax aI hd=>?_;clear x;exact⟨o,_,_,ax,aI,hd,by decide⟩
 |tup l=>refine gy x fun o ax aI hd=>?_;clear x;exact⟨o,_,_,ax,aI,hd,by decide⟩
 |p8 b t=>refine gy x fun o ax aI hd=>?_;clear x;exact⟨o,_,_,ax,aI,hd,by decide⟩
 |cA l=>refine gy x fun o ax aI hd=>?_;clear x;exact⟨o,_,_,ax,aI,hd,by decide⟩
 |dict d n ep=>refine gy x fun o ax aI hd=>?_;clear x;exact⟨o,_,_,ax,aI,hd,by decide⟩
set_option backward.match.sparseCases true in
theorem NQ {k:Src}{i:Nat}{Q:Unit→aQ→Prop}(x:gb k aM i s.heap)(h:Q () s):wpAny (model O w) A (letOwnedTupleGo t (.ref aM) y) Q eX s:=by
 refine mb (Yq x) fun o n vs bS=>kR bS fun ax aI hd aL=>?_;clear bS;have go:wpAny (model O w) A (match(gO aM,y) with
  |(.ref r,.ref a)=>(do
   let o←load r
   match o.cls,o.data with
   |.type n,.fields vs=>
    if(["enumerate","zip","dict_itemiterator","dict_reverseitemiterator","odict_iterator","itertools.zip_longest","itertools.pairwise"].contains n&&vs[0]? ==E (rawInt a))=true then do
     rule "for.unpacks-the-owned-tuple"
     updateField r 0 .none
    else pure ()
   |_,_=>pure ())
  |_=>pure ()) Q eX s:=by
  induction y using G7 with
  |ref a=>refine ae (nD ax ?_);rw[aI,hd];refine(?_:wpAny _ _ (if(["enumerate","zip","dict_itemiterator","dict_reverseitemiterator","odict_iterator","itertools.zip_longest","itertools.pairwise"].contains n&&vs[0]? ==E (rawInt a))=true then _ else _) _ _ _);rw[if_neg (fun a9=>by rw[aL,oJ] at a9;exact dW a9)];exact aX h
  |_=>exact aX h
 induction t using jW with
 |Tuple=>exact go
 |List=>exact go
 |_=>exact aX h
@[elab_as_elim] theorem zD {aA:V→Prop}(h:bT n v=true)(hi:∀i,aA (.int i))(aE:∀k,aA (.str k))(cW:∀m vs,n=m+1→vs.all (bT m)=true→aA (.tup vs)):aA v:=by
 induction v using V.casesOn with
 |int i=>exact hi i
 |str k=>exact aE k
 |tup vs=>induction n using h8 with
  |zero=>exact dW h
  |succ m=>exact cW m vs rfl h
 |_=>induction n using h8<;>exact dW h
theorem abx {p:Nat→Bool}(aF:∀{v:V},bT n v=true→kH p v=true)(vs:List V):vs.all (bT n)=true→iL p vs=true:=
 List.rec (motive:=fun vs=>vs.all (bT n)=true→iL p vs=true) (fun _=>rfl) (fun v vs k h=>b4 h fun R Z=>gC.mpr ⟨aF R,k Z⟩) vs
theorem abw {p:Nat→Bool}(n:Nat):∀{v:V},bT n v=true→kH p v=true:=by
 induction n with
 |zero=>intro v h;exact zD h (fun _=>rfl) (fun _=>rfl) fun m vs e _=>nomatch e
 |succ n aF=>intro v h;exact zD h (fun _=>rfl) (fun _=>rfl) fun m vs e h=>abx aF vs (lY e▸h)
theorem NH {p:Nat→Bool}(h:bT 4 v=true):kH p v=true:=abw 4 h
section
variable {n:List bj}
theorem JS {l:Nat}(e:(ρ++n)[l]? =E a)(k:d3 l ρ.length=true):ρ[l]? =E a:=by rwa [List.getElem?_append_left (d4 k)] at e
theorem aN.shrink {x:aj}(r:aN (ρ++n) h v x):kH (fun l=>d3 l ρ.length) v=true→aN ρ h v x:=
 aN.rec (motive_1:=fun v x _=>kH (fun l=>d3 l ρ.length) v=true→aN ρ h v x) (motive_2:=fun vs xs _=>iL (fun l=>d3 l ρ.length) vs=true→bJ ρ h vs xs)
  (fun _=>.none) (fun b _=>.bool b) (fun i t _=>.int i t) (fun x t e _=>.str x t e) (fun a t e _=>.bytes a t e) (fun e _ aF k=>.tup e (aF k)) (fun e k=>.ref (JS e k)) (fun _=>.nil) (fun _ _ a b k=>b4 k fun ba bK=>.cons (a ba) (b bK)) r
theorem bJ.shrink (r:bJ (ρ++n) h vs xs):iL (fun l=>d3 l ρ.length) vs=true→bJ ρ h vs xs:=
 bJ.rec (motive_1:=fun _ _ _=>True) (motive_2:=fun vs xs _=>iL (fun l=>d3 l ρ.length) vs=true→bJ ρ h vs xs)
  trivial (fun _=>trivial) (fun _ _=>trivial) (fun _ _ _=>trivial) (fun _ _ _=>trivial) (fun _ _ _=>trivial) (fun _=>trivial) (fun _=>.nil) (fun a _ _ b k=>b4 k fun ba bK=>.cons (a.shrink ba) (b bK)) r
theorem de.shrink {xs:List c3}(r:de P (ρ++n) h es xs):(∀e∈es,bT 4 e.1=true)→pm (fun l=>d3 l ρ.length) es=true→de P ρ h es xs:=
 de.rec (motive:=fun es xs _=>(∀e∈es,bT 4 e.1=true)→pm (fun l=>d3 l ρ.length) es=true→de P ρ h es xs) (fun _ _=>.nil)
  (fun a b c _ aF aD k=>b4 k fun ba bK=>.cons (a.shrink (NH (aD _ List.mem_cons_self))) (b.shrink ba) c (aF (fun e he=>aD e (List.mem_cons_of_mem _ he)) bK)) r
theorem eE.shrink {o:an}(r:eE P (ρ++n) h o ob):hR (fun l=>d3 l ρ.length) o=true→eE P ρ h o ob:=
 eE.casesOn (motive:=fun o ob _=>hR (fun l=>d3 l ρ.length) o=true→eE P ρ h o ob) r (fun r k=>.list (r.shrink k)) (fun r _=>.ints r) (fun r a b k=>.dict (r.shrink a k) a b) (fun a b k=>.inst a (JS b k)) (fun b e _=>.cA b e) (fun b _=>.d5 b)
end
theorem bz.trunc {n:List bj}(x:bz P (ρ++n) H h)(ok:(H.take ρ.length).all (hR fun l=>d3 l ρ.length)=true):bz P ρ (H.take ρ.length) h:=by refine⟨by rw[List.length_take,←x.len,List.length_append];lia,(List.nodup_append.mp x.eW).1,fun i o a ax aC=>?_⟩;have hi:=(List.getElem?_eq_some_iff.mp aC).1;rw[List.getElem?_take_of_lt hi] at ax;refine dn (x.at_ i o a ax (get_append aC)) fun ob e r=>?_;have k:=List.all_eq_true.mp ok o (List.mem_of_getElem? (i:=i) (by rw[List.getElem?_take_of_lt hi];exact ax));exact⟨ob,e,r.shrink k⟩
theorem bZ.trunc {n:List bj}(r:bZ P B I ah ay (ρ++n) H loc s)(ok:(H.take ρ.length).all (hR fun l=>d3 l ρ.length)=true):
 bZ P B I ah ay ρ (H.take ρ.length) (loc.map (kz ρ.length)) s:=by
 refine⟨r.am.trunc ok,⟨r.cj.kind,r.cj.glob,r.cj.blt,fun a aC=>?_,r.cj.nb,r.cj.mW,fun i x v aS co bx=>?_,r.cj.nu,r.cj.ns,r.cj.cl,r.cj.qC,r.cj.inj,r.cj.eW⟩,fun a o e=>?_⟩
 .exact b7 (r.cj.own a aC) fun R Z=>⟨fun q=>R (List.mem_append_left _ q),Z⟩
 .rw[List.getElem?_map] at co;refine dn (GL.mp co) fun u e b8=>?_;subst b8;cases k:kH (fun l=>d3 l ρ.length) u with
  |true=>simp only[kz,k] at bx⊢;exact dn (r.cj.k6 i x u aS e bx) fun gB R Z=>⟨gB,R,Z.shrink k⟩
  |false=>simp only[kz,k] at bx;exact absurd rfl bx
 .exact hJ (r.bs a o e) fun R Z bv=>⟨R,fun q=>Z (List.mem_append_left _ q),bv⟩
theorem Step.trunc (x:Step ah ρ s aV s'):Step ah ρ s ρ s':=⟨⟨[],by simp,fun _ h=>nomatch h⟩,x.keep,x.live,x.gens,x.os⟩
set_option tactic.hygienic true in
theorem Wk {f:vo}{a:fe}{k:Src}{FL:List an→(List V→Prop)→Prop}{Q:dK}{K:g0→aQ→Prop}(bC:A.handled=none)(xl:yw O w B A I ay t f)(az:l6 O w B C A I ay body a)
 (ab:s.heap.get? aM=none)(hf:aM∉ah)(bl:B.h₀.get? aM=none)(bn:sY w.params B I ay ah ρ s Q K)
 (keep:∀cu be s2 P,bz w.params cu be s2.heap→Step ah ρ s cu s2→FL be P→∃cc,P cc∧jZ w.params cu s2.heap k cc):
 ∀n i vs loc H aV s',aM∉aV→bZ w.params B I ah ay aV H loc s'→Step ah ρ s aV s'→gb k aM i s'.heap→jZ w.params aV s'.heap k vs→
  ix ρ.length (fun v loc H K=>f v loc H fun eg=>b3 C B.G a eg H K) FL n i vs loc H Q→codeN O w A (.forLoop t (.ref aM) body [] I) K s':=by
 intro n i vs loc H aV s' lw r qT bW lx b5;refine CD rfl (fun n s'=>∃i vs loc H aV,aM∉aV∧bZ w.params B I ah ay aV H loc s'∧Step ah ρ s aV s'∧gb k aM i s'.heap∧jZ w.params aV s'.heap k vs∧
  ix ρ.length (fun v loc H K=>f v loc H fun eg=>b3 C B.G a eg H K) FL n i vs loc H Q) ?_ n ⟨i,vs,loc,H,aV,lw,r,qT,bW,lx,b5⟩
 clear lw r qT bW lx b5;rintro n s' ⟨i,vs,loc,H,aV,lw,r,qT,bW,lx,b5⟩
 induction n using h8 with
 |zero=>exact b5.elim
 |succ n=>
 unfold ix at b5;show aO O w A ((forTurn t (.ref aM) body [] I).onRaise (fun x=>do noteFrame x I;theTreesLotGoes x)) _ s';refine qK ?_;unfold forTurn;refine e9 (b0 (qK (cU (Am bC bW lx (fun v z h' dj co fV m6 eK=>?_) fun m5 h' ex=>?_))))
 .rw[co] at b5;have cJ:bZ w.params B I ah ay aV H loc {s' with heap:=h',toks:=dj}:=r.but (fun a o eF e=>(eK.2 a eF).trans e) lw hf bl (fun o hd=>bW.not o (.inl hd)) dj
  have bk:Step ah ρ s aV {s' with heap:=h',toks:=dj}:=qT.but ab (fun a o eF e=>(eK.2 a eF).trans e) dj
  have agS:aN aV h' v z:=fV.mono ⟨⟨[],by simp,fun _ h=>nomatch h⟩,fun a o e aC hd=>(eK.2 a fun q=>bW.not o (.inl (sy hd)) (q▸e)).trans e⟩ r.am.di;refine dH (NQ m6 (dH (xl v z ah loc H aV _ _ _ b5 cJ agS fun m9 s2 Z dx ck=>?_)));have rK:gb k aM (i+1) s2.heap:=m6.keep fun o e=>ck.keep aM o e lw hf;refine b0 (az ah m9 H aV s2 _ _ Z dx fun aH z7 ei f8 ik s3 bv hD hZ fq=>?_);have sq:=(bk.trans ck).trans fq
  induction aH using rc.casesOn with
  |next=>
   induction ik using nE with
   |next=>
    have JY:aM∉f8:=fun a9=>by
     refine dn fq.new fun Aq cg Xq=>?_;subst cg;rcases List.mem_append.mp a9 with q|q
     .exact lw q
     .refine dm rK.ex fun o e=>?_;rw[Xq aM q] at e;exact c5 e
    have KO:gb k aM (i+1) s3.heap:=rK.keep fun o e=>fq.keep aM o e lw hf;change trunc ρ.length z7 ei _ at bv;unfold trunc at bv
    split at bv
    .rename_i ok
     refine dn sq.new fun Aq cI b8=>?_;clear b8;subst cI;have qN:=hD.trunc ok;exact dn (keep ρ _ s3 _ qN.am sq.trunc bv) fun cc cZ Dk=>cM (.inl ⟨rfl,n,jx n,i+1,cc,_,_,ρ,fun q=>JY (List.mem_append_left _ q),qN,sq.trunc,KO,Dk,cZ⟩)
    .exact dn (keep f8 ei s3 _ hD.am sq bv) fun cc cZ Dk=>cM (.inl ⟨rfl,n,jx n,i+1,cc,z7,ei,f8,JY,hD,sq,KO,Dk,cZ⟩)
   |_=>exact hZ.elim
  |brk=>
   induction ik using nE with
   |brk=>exact cM (bn .next z7 ei f8 .next s3 bv hD trivial sq)
   |_=>exact hZ.elim
  |ret v=>
   induction ik using nE with
   |ret u=>exact cM (bn _ z7 ei f8 _ s3 bv hD hZ sq)
   |_=>exact hZ.elim
 .rw[m5] at b5;have cJ:bZ w.params B I ah ay aV H loc {s' with heap:=h',toks:=s'.toks}:=r.but (fun a o eF e=>ex a o eF e) lw hf bl (fun o hd=>bW.not o (.inl hd)) s'.toks
  have bk:Step ah ρ s aV {s' with heap:=h',toks:=s'.toks}:=qT.but ab (fun a o eF e=>ex a o eF e) s'.toks
  refine cM (.inr ⟨rfl,rfl,CC ?_⟩);show aO _ _ _ (do return Fin.done (←(execs [] I).onRaise (fun x=>do noteFrame x I;theTreesLotGoes x))) _ _;exact b0 (qK (cM (cM ⟨_,rfl,bn .next loc H aV .next _ b5 cJ trivial bk⟩)))
noncomputable def oe:aY→Bool
 |.Set .. =>false
 |_=>true
theorem M5 {c:lZ}{Q:g0→aQ→Prop}(lz:lM c=true)(h:codeN O w A c Q s):aO O w A (runOwn c I) Q s:=qK (M4 lz h)
theorem JJ (h:oe e=true)(I:Env)(x:aj):foldedSetIterable e I x=pure x:=by
 unfold foldedSetIterable;cases e<;>first|rfl|exact dW h
theorem Ec (ext:∀a o,h.get? a=E o→h'.get? a=E o)(a:bj)(e:h'.get? a=none):h.get? a=none:=by
 cases q:h.get? a with
 |none=>rfl
 |some o=>rw[ext a o q] at e;exact pA e
theorem O4 {f:vo}{a:fe}{x:aG}{sx:cN}(bC:A.handled=none)(aL:oe bW=true)(hi:nO O w B C A I ay bW x)(xl:yw O w B A I ay t f)(az:l6 O w B C A I ay body a)
 (co:∀loc H (Q:dK),xr C B.G sx loc H Q→qX C B.G loc x (cF C B.G loc x) H fun af vs aq=>ix aq.length (fun v loc H K=>f v loc H fun eg=>b3 C B.G a eg H K) (hk af vs aq) (vs.length+1) 0 vs loc aq Q):
 hI O w B C A I ay (.For t bW body [] p) sx:=fun ah loc H ρ s Q K h r bn=>by
 show aO O w A (do standAt p;let x←foldedSetIterable bW I (←eval bW I);standAt bW.pos;runOwn (.forLoop t (←holding [x] (pyIter x)) body [] I) I) K s;refine e9 (b0 (dF (hi ah loc H ρ s _ (fun aM s'=>aO O w A (runOwn (.forLoop t aM body [] I) I) K s') (co loc H Q h) r fun af vs aq bP k aM s1 s2 R cq ck bk bt mj ab ext lx keep=>?_) fun y s1 R=>hy (JJ aL I y) (e9 (b0 (eR R)))));have cJ:=r.step bk bt;have dx:=r.step ck cq;have hf:aM∉ah:=fun a9=>by refine dn (cJ.vN aM a9) fun o e b8=>?_;clear b8;rw[ab] at e;exact c5 e
 have afo:Step ah bP s1 bP s2:=⟨⟨[],by simp,fun _ h=>nomatch h⟩,fun a o e _ _=>ext a o e,Ec ext,ck.gens.trans bk.gens.symm,ck.os.trans bk.os.symm⟩;refine M5 rfl (Wk bC xl az ab hf ?_ (bn.after bk.up) (fun cu be s3 P f5 fq aE=>keep ah cu be s3 P (fun a aC o xs n e hd=>?_) f5 fq aE) _ 0 vs loc aq bP s2 (o3 bt ab) dx afo mj lx (by rw[bt.len];exact R))
 .cases e:B.h₀.get? aM with
  |none=>rfl
  |some o=>rw[(cJ.bs aM o e).1] at ab;exact pA ab
 .refine dn (cJ.vN a aC) fun o' cL kF=>?_;rw[e] at cL;obtain rfl:=cE cL;exact kF _ _ hd
theorem afg {y:Str}{i:Nat}{a:fe}{x:aG}(bC:A.handled=none)(aL:oe bW=true)(ct:ay[i]? =E y)(c0:p1 I y)(hi:nO O w B C A I ay bW x)(az:l6 O w B C A I ay body a):
 hI O w B C A I ay (.For (.Name y q) bW body [] p) (.hN i x a):=O4 bC aL hi (agc ct c0) az fun loc H Q h=>h
theorem afh (ok:B.Ok){es:List aY}{ys:List Str}{k:Nat}{a:fe}{x:aG}(bC:A.handled=none)(aL:oe bW=true)(h:hU I ay es ys is)(hi:nO O w B C A I ay bW x)(az:l6 O w B C A I ay body a):
 hI O w B C A I ay (.For (.Tuple es k q) bW body [] p) (.tw is x a):=O4 bC aL hi (Ps ok bC h) az fun loc H Q h=>h
theorem afl {x:aG}{a:fe}(cW:ST O w B C A I ay t x)(az:l6 O w B C A I ay body a):hI O w B C A I ay (.While t body [] p) (.xw x a):=fun ah loc H ρ s Q K h r bn=>by
 change xx _ _ 8 loc H Q at h;generalize 8=n at h;rw[exec_While];refine e9 (M5 rfl (CD rfl (fun n s'=>∃loc H aV,bZ w.params B I ah ay aV H loc s'∧Step ah ρ s aV s'∧xx (fun loc H K=>iO C B.G loc x (cF C B.G loc x) H K) (fun loc H K=>b3 C B.G a loc H K) n loc H Q) ?_ n ⟨loc,H,ρ,r,.refl _ _ _,h⟩));clear h r;rintro n s' ⟨loc,H,aV,r,qT,h⟩
 induction n using h8 with
 |zero=>exact h.elim
 |succ n=>
  show aO O w A ((whileTurn t body [] I).onRaise (fun x=>do noteFrame x I;theTreesLotGoes x)) _ s';refine qK ?_;unfold whileTurn;refine b0 (cW ah loc H aV s' _ _ h r fun c aq bP s1 R bt bk=>?_);have cJ:=r.step bk bt
  induction c using eo with
  |true=>
   refine b0 (az ah loc aq bP s1 _ _ R cJ fun aH m9 be cu ik s2 Z dx hZ ck=>?_);have st:=(qT.trans bk.up).trans ck
   induction aH using rc.casesOn with
   |next=>
    induction ik using nE with
    |next=>exact cM (.inl ⟨rfl,n,jx n,m9,be,cu,dx,st,Z⟩)
    |_=>exact hZ.elim
   |brk=>
    induction ik using nE with
    |brk=>exact cM (bn .next m9 be cu .next s2 Z dx trivial st)
    |_=>exact hZ.elim
   |ret v=>
    induction ik using nE with
    |ret u=>exact cM (bn _ m9 be cu _ s2 Z dx hZ st)
    |_=>exact hZ.elim
  |false=>exact b0 (cM (cM (bn .next loc aq bP .next s1 R cJ trivial (qT.trans bk.up))))
section
open PySem.Builtin
section
variable {ch:bj}{b c:Array UInt8}{l h:Nat}{t u v:Tok}
theorem NT {Q:aj×aj×aj→aQ→Prop}(x:s.heap.IsSliceOf ch (.int l t) (.int h u) .none)(q:Q (rawInt l,rawInt h,.none) s):wpAny aA A (Bytes.sliceParts (.ref ch)) Q b1 s:=by refine gy x fun o ax aI hd=>?_;clear x;unfold Bytes.sliceParts;refine ae (h9 (x:=.none) ax hd rfl ?_);refine ae (hq (a:=cf) (by first|rfl|simp) (nC (nH (show¬((cf==rawInt 0)=true) from d7) ?_)));refine ae (h9 (x:=.int l t) ax hd rfl (ae (nC (nH (show¬((x3 _ _==cf)=true) from d7) ?_))));refine ae (iQ (T:="int") (xX _ _ _) F.slot_int_index.lookup (nC (nH (show¬(Bu (E _)=true) from d7) (ae (hq rfl (aX ?_))))));refine ae (h9 (x:=.int h u) ax hd rfl (ae (nC (nH (show¬((x3 _ _==cf)=true) from d7) ?_))));exact ae (iQ (T:="int") (xX _ _ _) F.slot_int_index.lookup (nC (nH (show¬(Bu (E _)=true) from d7) (ae (hq rfl (aX (aX q)))))))
theorem IK (R:l≤h)(Z:h≤n):sliceBounds (E (l:Int)) (E (h:Int)) none n=((l:Int),(h:Int),1):=by
 have e:∀i:Nat,i≤n→(if(1:Int)>0 then max 0 (min (if(i:Int)<0 then(i:Int)+n else(i:Int)) n) else max (-1) (min (if(i:Int)<0 then(i:Int)+n else(i:Int)) ((n:Int)-1)))=i:=fun i R=>by rw[if_pos (by decide),if_neg (Int.not_lt.mpr (lh i)),Int.min_eq_left (lj.mpr R),Int.max_eq_right (lh i)]
 refine(?_:((if(1:Int)>0 then _ else _),(if(1:Int)>0 then _ else _),(1:Int))=_);rw[e l (e3 R Z),e h Z]
theorem Eh (R:l≤h):max (l:Int) (h:Int)=h:=Int.max_eq_right (lj.mpr R)
theorem Sn:typeLookup (.type "bytes") "__int__"=pure none:=by rw[jA,jz];kernel_rfl
theorem Sl:typeLookup (.type "bytes") "__float__"=pure none:=by rw[jA,jz];kernel_rfl
theorem N5 (R:l≤h)(Z:h≤b.size)(bv:l+c.size=h):(b.extract 0 l++c++b.extract h b.size).size=b.size:=by rw[Bi,Bi,Qh,Qh,q4 (e3 R Z),Nat.min_self,GH,bv,xO Z]
theorem aaH (x:s.heap.IsSliceOf ch (.int l t) (.int h u) .none)(e:s.heap.get? a=E (e5 b))(R:l≤h)(Z:h≤b.size)(bv:l+c.size=h)(hz:b.size≤sizeLine){Q:Unit→aQ→Prop}
 (q:∀h' k,h'.get? a=E (e5 (b.extract 0 l++c++b.extract h b.size))→(∀d o,d≠a→s.heap.get? d=E o→h'.get? d=E o)→Q () {s with heap:=h',toks:=k}):aO O w A (setItem (.ref a) (.ref ch) (.bytes c v)) Q s:=by
 have cr:s.TypeIs (.ref ch) "slice":=let ⟨o,ax,aI,_⟩:=x;⟨o,ax,aI⟩;unfold setItem;refine eR (dH (u7 (i1 e) (by decide) ?_));refine b0 (M0 (name:=g6 "__setitem__") (i1 e) dS.aeN (by decide+kernel) dS.Uu (dS.RD _ _ _) ?_);refine(?_:aO _ _ _ (Bytes.subscript? (.ref ch)>>=fun r=>_) _ s);refine dH ?_;unfold Bytes.subscript?;refine ae (iQ cr GW (aX (dH (u9 cr ?_))));refine(?_:aO _ _ _ (Bytes.sliceParts (.ref ch)>>=fun r=>_) _ s);refine dH (NT x ?_);refine(?_:aO _ _ _ (isInstance (.bytes c v) (.type "bytearray")>>=fun r=>_) _ s);refine hy (a:=false) (by rw[show isInstance (.bytes c v) (.type "bytearray")=isSubtype (.type "bytes") (.type "bytearray") from rfl,nB];kernel_rfl) ?_;refine b0 (b0 (hy (vc O0) (cM (b0 (hy (vc Sn) (cM (b0 (hy (vc Sl) (cM ?_)))))))));refine cU (hq (a:=false) (by rw[show isInstance (.bytes c v) (.type "complex")=isSubtype (.type "bytes") (.type "complex") from rfl,nB];kernel_rfl) ?_);refine hy (a:=none) rfl<|dH (iv ?_)
 refine(?_:aO _ _ _ (call (.type "bytearray") [.bytes c v]>>=fun r=>_) _ s);have jp:a≠s.heap.objs.size:=nz (ia e);have aI:c.size≤sizeLine:=e3 (e3 (bv▸Nat.le_add_left _ _) Z) hz;refine b0 (M2 aI fun tz aW uq=>?_);have ext:∀d o,s.heap.get? d=E o→tz.get? d=E o:=fun d o hL=>(uq.2 d (nz (ia hL))).trans (fv _ hL);have ja:tz.IsSliceOf ch (.int l t) (.int h u) .none:=let ⟨o,ax,r⟩:=x;⟨o,ext _ _ ax,r⟩;refine b0 (eR (cU (NT (s:={s with heap:=tz}) ja ?_)))
 refine dH (tc (s:={s with heap:=tz}) aW (dH (tc (s:={s with heap:=tz}) (ext _ _ e) (hy (GV (E (l:Int)) (E (h:Int)) none b.size (fun e=>nomatch e)) ?_))))
 rw[IK R Z];refine dH (iv ?_);refine(?_:aO _ _ _ (if((c.size:Int) !=max (l:Int) (h:Int)-l)=true then _ else _) _ _);have hd:(c.size:Int)=max (l:Int) (h:Int)-l:=by rw[Eh R];lia
 refine rX (by rw[←hd,bne_self_eq_false];exact d7) ?_;refine(?_:aO _ _ _ (Bytes.write (.ref a) (fun b=>b.extract 0 l++c++b.extract (max (l:Int) (h:Int)).toNat b.size)>>=fun r=>_) _ _);rw[Eh R];refine dH (Cs (s:={s with heap:=tz}) (ext _ _ e) ?_ fun ry aJ sf=>?_)
 .exact(N5 R Z bv).symm▸hz
 .exact cM ⟨_,rfl,cM (q ry s.toks aJ fun d o hd hL=>(sf.2 d hd).trans (ext d o hL))⟩
theorem abW {Q:aj×aj×aj→aQ→Prop}(x:s.heap.IsSliceOf ch (.int l t) (.int h u) .none)(q:Q (rawInt l,rawInt h,.none) s):wpAny aA A (List.listSliceParts (.ref ch)) Q b1 s:=by refine gy x fun o ax aI hd=>?_;clear x;unfold List.listSliceParts;refine ae (h9 (x:=.none) ax hd rfl ?_);refine ae (hq (a:=cf) (by first|rfl|simp) (nC (nH (show¬((cf==rawInt 0)=true) from d7) ?_)));refine ae (h9 (x:=.int l t) ax hd rfl (ae (nC (nH (show¬((x3 _ _==cf)=true) from d7) ?_))));refine ae (iQ (T:="int") (xX _ _ _) F.slot_int_index.lookup (nC (nH (show¬(Bu (E _)=true) from d7) (ae (hq rfl (aX ?_))))));refine ae (h9 (x:=.int h u) ax hd rfl (ae (nC (nH (show¬((x3 _ _==cf)=true) from d7) ?_))));exact ae (iQ (T:="int") (xX _ _ _) F.slot_int_index.lookup (nC (nH (show¬(Bu (E _)=true) from d7) (ae (hq rfl (aX (aX q)))))))
theorem act (R:l≤h):(xs.toArray.extract 0 l++ys.toArray++xs.toArray.extract (max (l:Int) (h:Int)).toNat xs.toArray.size)=(xs.take l++ys++xs.drop h).toArray:=by rw[Eh R];apply Array.toList_inj.mp;rw[Gp,Gp,Gq,Gq,List.extract_eq_take_drop,List.extract_eq_take_drop];refine(?_:(xs.drop 0).take l++ys++(xs.drop h).take (xs.toArray.size-h)=_);rw[List.size_toArray,List.take_of_length_le (l:=xs.drop h) (sI List.length_drop)];rfl
theorem ZF {d:bj}(x:s.heap.IsSliceOf ch (.int l t) (.int h u) .none)(e:s.heap.get? a=E (listOf xs.toArray n))(hL:s.heap.get? d=E (listOf ys.toArray m))(jp:a≠d)
 (R:l≤h)(Z:h≤xs.length)(hz:xs.length+ys.length≤sizeLine){Q:Unit→aQ→Prop}
 (q:∀h' k,h'.get? a=E (listOf (xs.take l++ys++xs.drop h).toArray k)→fI a s.heap h'→Q () {s with heap:=h'}):wpAny (model O w) A (setItem (.ref a) (.ref ch) (.ref d)) Q b1 s:=by
 have cr:s.TypeIs (.ref ch) "slice":=let ⟨o,ax,aI,_⟩:=x;⟨o,ax,aI⟩;have X8:xs.toArray.size≤sizeLine:=e3 (sH _ _) hz;unfold setItem;refine ga (ae (u7 (isList e).typeIs (by decide) ?_));refine ae (mM (name:=g6 "__setitem__") (isList e).typeIs Bz (hp Bz (isList e).typeIs entry_list_setitem ?_ (args_list_setitem _ _ _)));refine(?_:wpAny _ _ (List.listSubscript? (.ref ch)>>=fun r=>_) _ _ s);refine ae ?_;unfold List.listSubscript?;refine ae (iQ cr GW (aX (ae (u9 cr ?_))));refine(?_:wpAny _ _ (List.listSliceParts (.ref ch)>>=fun r=>_) _ _ s);refine ae (abW x ?_);have az:¬List.listSameRef (.ref a) (.ref d)=true:=by simp[List.listSameRef,jp]
 refine e2 az ?_;unfold List.listAllItems;refine ae (ae (u9 (isList hL).typeIs ?_));unfold List.listItems;refine ae (G1 hL rfl (aX ?_));refine ae (ae (G1 e rfl (aX (ae (hq (GV (E (l:Int)) (E (h:Int)) none xs.toArray.size (fun e=>nomatch e)) ?_)))));rw[IK R (by rw[List.size_toArray];exact Z)];refine ae (iv ?_);refine(?_:wpAny _ _ (if List.listTooLong (xs.toArray.size+ys.toArray.size)=true then _ else _) _ _ _);refine e2 (by unfold List.listTooLong;rw[List.size_toArray,List.size_toArray,decide_eq_false (by lia)];exact d7) ?_;refine(?_:wpAny _ _ (List.listUpdate (.ref a) _>>=fun _=>_) _ _ _);refine ae ?_;refine(?_:wpAny _ _ (updateSeq a (fun zs=>zs.extract 0 l++ys.toArray++zs.extract (max (l:Int) (h:Int)).toNat zs.size)) _ _ _);have hf:=act (xs:=xs) (ys:=ys) R;have aJ:=l1 (Obj.mapSeq (fun zs=>zs.extract 0 l++ys.toArray++zs.extract (max (l:Int) (h:Int)).toNat zs.size)) e rfl;refine x1 e rfl ?_ X8 ?_
 .refine(by rw[←hf];exact⟨_,rfl⟩:∃k,Obj.mapSeq (fun zs=>zs.extract 0 l++ys.toArray++zs.extract (max (l:Int) (h:Int)).toNat zs.size) (listOf xs.toArray n)=listOf (xs.take l++ys++xs.drop h).toArray k).elim fun k cI=>?_;exact ae (xZ (aX ⟨_,rfl,aX (q _ _ (aJ.trans (congrArg E cI)) (kp ..))⟩))
 .rw[hf,List.size_toArray,List.length_append,List.length_append,List.length_take,List.length_drop];refine Bq (e3 ?_ hz);rw[q4 (e3 R Z)];lia
end
inductive yu (H:List an)(K:List an→Prop):V→V→V→Prop
 |li (l x:Nat) (vs:List V) (v:V):H[l]? =E (.list vs)→x<vs.length→(x:Int)<2^62→K (H.set l (fp (vs.set x v)))→yu H K (.ref l) (.int x) v
 |io (l x:Nat) (xs:List Int) (y:Int):H[l]? =E (.ints xs)→x<xs.length→(x:Int)<2^62→K (H.set l (.ints (xs.set x y)))→yu H K (.ref l) (.int x) (.int y)
 |hX (l:Nat) (es:List (V×V)) (n:Nat) (b v:V):H[l]? =E (.dict es n)→pz b v es (fun cT m=>K (H.set l (.dict cT (n+m))))→yu H K (.ref l) b v
theorem aem {o b:V}{K:List an→Prop}(h:Fa o b v H K):yu H K o b v:=by
 induction o using V.casesOn with
 |ref l=>
  unfold Fa at h;dsimp only at h;generalize e:H[l]? =f7 at h
  induction f7 using ez with
  |none=>exact h.elim
  |some ob=>induction ob using an.casesOn with
   |«list» vs=>induction b using V.casesOn with
    |int x=>have h:=j2 h;refine dm (jV h.1.1) fun n cg=>?_;subst cg;exact .li l n vs v e (jd.mp h.1.2.1) h.1.2.2 h.2
    |_=>exact h.elim
   |«ints» xs=>induction b using V.casesOn with
    |int x=>induction v using V.casesOn with
     |int y=>have h:=j2 h;refine dm (jV h.1.1) fun n cg=>?_;subst cg;exact .io l n xs y e (jd.mp h.1.2.1) h.1.2.2 h.2
     |_=>exact h.elim
    |_=>exact h.elim
   |dict es n=>exact .hX l es n b v e h
   |_=>exact h.elim
 |_=>exact ft h
inductive Cg (H:List an)(K:List an→Prop):V→V→V→V→Prop
 |cA (a i j:Nat) (b c:List Int):i≤j→j≤b.length→i+c.length=j→H[a]? =E (.cA b)→K (H.set a (.cA (b.take i++c++b.drop j)))→Cg H K (.ref a) (.int i) (.int j) (.bytes c)
 |io (a m i j:Nat) (b c:List Int):i≤j→j≤b.length→b.length+c.length≤1000000→c1 a m=false→H[a]? =E (.ints b)→H[m]? =E (.ints c)→K (H.set a (.ints (b.take i++c++b.drop j)))→Cg H K (.ref a) (.int i) (.int j) (.ref m)
theorem aep {o lo hi:V}{K:List an→Prop}(h:OL o lo hi v H K):Cg H K o lo hi v:=by
 induction lo using V.casesOn with
 |int l=>induction hi using V.casesOn with
  |int r=>induction o using V.casesOn with
   |ref a=>
    have h:=j2 h;refine dm (jV h.1.1) fun i cg=>?_;subst cg;refine dm (jV (q2 h.1.1 h.1.2.1)) fun j cg=>?_;subst cg;have R:=lj.mp h.1.2.1;replace h:=h.2;generalize e:H[a]? =f7 at h
    induction f7 using ez with
    |none=>cases v<;>exact h.elim
    |some ob=>induction ob using an.casesOn with
     |cA b=>induction v using V.casesOn with
      |bytes c=>have h:=fK h;have g:=gC.mp h.1;rw[i2,decide_eq_true_iff] at g;exact .cA a i j b c R (lj.mp g.1) (fO g.2▸xO R) e h.2
      |_=>exact h.elim
     |«ints» b=>induction v using V.casesOn with
      |ref m=>
       dsimp only at h;generalize aJ:H[m]? =dX at h
       induction dX using ez with
       |none=>exact h.elim
       |some dX=>induction dX using an.casesOn with
        |«ints» c=>have h:=j2 h;exact .io a m i j b c R (lj.mp h.1.1) h.1.2.1 h.1.2.2 e aJ h.2
        |_=>exact h.elim
      |_=>exact h.elim
     |_=>cases v<;>exact h.elim
   |_=>exact ft h
  |_=>exact ft h
 |_=>exact ft h
theorem Tt {o b:V}{K:List an→Prop}(h:CN o b H K):∃l es n,o=.ref l∧H[l]? =E (.dict es n)∧qd b es fun cT=>K (H.set l (.dict cT (n+1))):=by
 induction o using V.casesOn with
 |ref l=>
  unfold CN at h;dsimp only at h;generalize e:H[l]? =f7 at h
  induction f7 using ez with
  |none=>exact h.elim
  |some ob=>induction ob using an.casesOn with
   |dict es n=>exact⟨l,es,n,rfl,e,h⟩
   |_=>exact h.elim
 |_=>exact ft h
section
open PySem.Builtin
theorem Mq {k:Int}{t:Tok}{v:aj}{Q:Unit→aQ→Prop}(e:s.heap.get? a=E (listOf xs.toArray n))(bl:0≤k)(aL:k<xs.length)(hz:k<2^62)
 (q:∀h',h'.get? a=E (listOf (xs.set k.toNat v).toArray n)→fI a s.heap h'→Q () {s with heap:=h'}):wpAny (model O w) A (setItem (.ref a) (.int k t) v) Q eX s:=by
 unfold setItem;refine ga (ae (u7 (isList e).typeIs (by decide) ?_));refine ae (mM (name:=g6 "__setitem__") (isList e).typeIs Bz (hp Bz (isList e).typeIs entry_list_setitem ?_ (args_list_setitem _ _ _)));refine(?_:wpAny _ _ (List.listSubscript? (.int k t)>>=_) _ _ s);refine ae (wpAny_listSubscript_int (fitsIndex_of bl (by lia)) (dm (jV bl) fun j cg=>?_));clear bl hz;subst cg;have cn:j<xs.toArray.size:=by simp only[List.size_toArray];lia
 have o8:xs.toArray[j]? =E xs.toArray[j]:=oI cn;refine(?_:wpAny _ _ ((seqItemAt a j>>=fun r=>pure (r.map (j, ·)))>>=_) _ _ s);refine ae (ae (wpAny_seqItemAt e rfl (aX ?_)));rw[o8];refine(?_:wpAny _ _ (setSeqItemAt a j v>>=_) _ _ s);have aJ:=l1 (Obj.mapSeq (·.setIfInBounds j v)) e rfl;have cI:Obj.mapSeq (·.setIfInBounds j v) (listOf xs.toArray n)=listOf (xs.set j v).toArray n:=by
  have:xs.toArray.setIfInBounds j v=(xs.set j v).toArray:=by simp
  refine(?_:Obj.mk _ _ (.seq (xs.toArray.setIfInBounds j v) (if(xs.toArray.setIfInBounds j v).size==xs.toArray.size then n else n+1)) _=_);rw[this];simp
 exact ae (wpAny_setSeqItemAt e rfl (aX ⟨.none,rfl,aX (q _ (aJ.trans (congrArg E cI)) (kp ..))⟩))
theorem bJ.set {x:aj}(agP:aN ρ h v x):∀{xs:List aj} {i:Nat},bJ ρ h vs xs→bJ ρ h (vs.set i v) (xs.set i x):=by
 induction vs with
 |nil=>intro xs i r;refine r.iJ ?_;clear r;exact .nil
 |cons u vs aF=>
  intro xs i r;refine r.gS fun _ _ a r=>?_
  induction i using h8 with
  |zero=>exact .cons agP r
  |succ i=>exact .cons a (aF r)
theorem ints_set {i:Int}{t:Tok}{is:List Int}(h:IntsAre xs is):∀{j:Nat},IntsAre (xs.set j (.int i t)) (is.set j i):=by
 induction h with
 |nil=>exact .nil
 |cons n u r aF=>intro j;induction j using h8 with
  |zero=>exact .cons _ _ r
  |succ j=>exact .cons _ _ aF
theorem ae8 (ok:B.Ok)(bx:A.units+20<cLine){o i:aY}{x y z:aG}(aI:lE e=false)(aE:qt i=false)(he:cV O w B C A I ay e x)(ax:cV O w B C A I ay o y)(hi:cV O w B C A I ay i z):
 hI O w B C A I ay (.Assign [.Subscript o i p] e q) (.hK y z x):=
 fun ah loc H ρ s Q K h r k=>Cp rfl aI (he ah loc H ρ s _ _ h r fun v aq bP u s1 R bt eC bk=>by
  have cJ:=r.step bk bt;rw[arm_assign_Subscript];refine b0 (eR (ax ah loc aq bP s1 _ _ R cJ fun a be cu NR s2 Z cq lW ck=>?_));have dx:=cJ.step ck cq;refine b0 (eR (hi ah loc be cu s2 _ _ Z dx fun b ei f8 YC s3 bv f5 xt fq=>?_));have hD:=dx.step fq f5;have xu:=lW.mono fq.fU cq.di;have Gd:=(eC.mono ck.fU bt.di).mono fq.fU cq.di;refine e9 (dH (ga ?_));have st:=(bk.trans ck).trans fq;have fin:∀{bp:List an} {s':aQ} {hx:List aj},Q .next loc bp→bz w.params f8 bp s'.heap→Step [] f8 s3 f8 s'→aO O w A (release hx []) (fun _=>K .next) s':=fun a9 eM el=>
   cU (BB (k .next loc _ f8 .next _ a9 (hD.step el eM) trivial ((st.trans el).up)))
  have cZ:=aem bv;clear bv;clear R eC lW;cases cZ with
  |li l uO vs _ e g bL a9=>
   refine xu.hl ?_;intro c ar;refine xt.fg ?_;intro t;refine(f5.list ar e).elim fun bX o'=>o'.elim fun n o'=>Mq o'.1 (lh uO) (jd.mpr (o'.2.length▸g)) bL fun h' cL eK=>?_;have el:Step [] f8 s3 f8 {s3 with heap:=h'}:=.update s3.toks (List.mem_of_getElem? ar) eK cL
   exact fin a9 (f5.update ar eK cL (tY ((bJ.set Gd o'.2).mono el.fU f5.di) n)) el
  |io l uO xs Gn e g bL a9=>
   refine xu.hl ?_;intro c ar;refine xt.fg ?_;intro t;refine Gd.fg ?_;intro mB;refine(f5.ints ar e).elim fun bX o'=>o'.elim fun n o'=>Mq o'.1 (lh uO) (jd.mpr (o'.2.length.symm▸g)) bL fun h' cL eK=>?_;have el:Step [] f8 s3 f8 {s3 with heap:=h'}:=.update s3.toks (List.mem_of_getElem? ar) eK cL
   exact fin a9 (f5.update ar eK cL (.ints (ints_set o'.2))) el
  |hX l es n _ _ e bv=>
   refine xu.hl ?_;intro c ar;refine(f5.dict ar e).elim fun xs d=>?_;have bv:=mV bv;have aB:=gC.mp bv.1;refine aen d.1 d.2.1 d.2.2.1 d.2.2.2 aB.1 (d4 aB.2) xt Gd (by lia) bv.2 fun cT m fb h' t g g1 bL g3 ek ht=>?_;have el:Step [] f8 s3 f8 {s3 with heap:=h',toks:=t}:=.update t (List.mem_of_getElem? ar) bL g1
   exact fin g (f5.update ar bL g1 (.dict (g3.mono el.fU f5.di) ek ht)) el)
end
end
theorem bz.Ga (x:bz P ρ H h){i:Nat}{o:an}(aC:ρ[i]? =E a)
 (aE:∀d o,d≠a→h.get? d=E o→h'.get? d=E o)(he:h'.get? a=E ob)(r:eE P ρ h' o ob):bz P ρ (H.set i o) h':=by
 have hm:a∈ρ:=List.mem_of_getElem? aC;have p:eL ρ ρ h h':=⟨⟨[],(List.append_nil _).symm,fun _ h=>nomatch h⟩,fun b o' e az _=>aE b o' (fun q=>az (q▸hm)) e⟩;refine⟨by simp[x.len],x.eW,fun j o' b ax az=>?_⟩;rcases get_set ax with⟨rfl,rfl⟩|⟨cn,ax⟩
 .rw[aC] at az;obtain rfl:=cE az;exact⟨ob,he,r⟩
 .refine dn (x.at_ j o' b ax az) fun hP R Z=>⟨hP,aE b hP ?_ R,Z.mono p x.di⟩;clear aE he hm;rintro rfl;exact cn (r0 x.eW aC az)
theorem Step.Ga (t:Nat)(aC:a∈ρ)(aE:∀d o,d≠a→s.heap.get? d=E o→h'.get? d=E o)(he:h'.get? a=E ob):Step [] ρ s ρ {s with heap:=h',toks:=t}:=by
 refine⟨⟨[],(List.append_nil _).symm,fun _ h=>nomatch h⟩,fun d o hL hd _=>aE d o (fun q=>hd (q▸aC)) hL,fun d hL=>?_,rfl,rfl⟩
 by_cases q:d=a
 .clear aC aE;subst q;rw[he] at hL;exact pA hL
 .cases bS:s.heap.get? d with
  |none=>rfl
  |some o=>rw[aE d o q bS] at hL;exact pA hL
theorem abi {b c:Array UInt8}{i:Nat}:dY (b.extract 0 i++c++b.extract j b.size)=(dY b).take i++dY c++(dY b).drop j:=by unfold dY;simp only[Gp,Gq,List.extract_eq_take_drop,GH,List.drop_zero,List.map_append,List.map_take,List.map_drop];rw[List.take_of_length_le (l:=(b.toList.map _).drop j) (by simp)]
theorem ae9 {o lo hi:aY}{x y Qd Qc:aG}{pp:Pos}(aI:lE e=false)(he:cV O w B C A I ay e x)(ax:cV O w B C A I ay o y)(ar:cV O w B C A I ay lo Qd)(bC:cV O w B C A I ay hi Qc):
 hI O w B C A I ay (.Assign [.Subscript o (.Slice (E lo) (E hi) none pp) p] e q) (.p3 y Qd Qc x):=
 fun ah loc H ρ s Q K h r k=>Cp rfl aI (he ah loc H ρ s _ _ h r fun v aq bP u s1 R bt eC bk=>by
  have cJ:=r.step bk bt;rw[arm_assign_Subscript];refine b0 (eR (ax ah loc aq bP s1 _ _ R cJ fun a be cu NR s2 Z cq lW ck=>?_));have dx:=cJ.step ck cq;refine b0 (eR (MX (ar ah loc be cu s2 _ _ Z dx fun b ei f8 qE s3 bv f5 mF fq=>?_)));have hD:=dx.step fq f5;refine bC ah loc ei f8 s3 _ _ bv hD fun c pT oH hz s4 cZ n3 PX kg=>?_;have qN:=hD.step kg n3;have AS:=fq.trans kg;have PZ:=lW.mono AS.fU cq.di;have PY:=mF.mono kg.fU f5.di;have PU:=eC.mono (ck.trans AS).fU bt.di;have st:=(bk.trans ck).trans AS;clear bk ck fq kg AS cJ dx hD bt cq f5 lW eC mF ar he ax bC r h R Z bv;refine cU (aX ?_);have ux:Step [] oH s4 oH {s4 with heap:=s4.heap.push {cls:=.type "slice",data:=.fields #[qE,hz,.none]}}:=.push s4.toks
  have lB:bz w.params oH pT (s4.heap.push {cls:=.type "slice",data:=.fields #[qE,hz,.none]}):=n3.push _;have q0:=Qy s4.heap qE hz .none;have xp:=PU.mono ux.fU n3.di;have r8:=qN.step ux lB;replace st:=st.trans ux;clear PU qN ux n3;refine e9 ?_;show aO O w A _ _ {s4 with heap:=s4.heap.push {cls:=.type "slice",data:=.fields #[qE,hz,.none]}}
  revert q0 lB xp r8 st;generalize s4.heap.push {cls:=.type "slice",data:=.fields #[qE,hz,.none]}=gV;intro lB q0 xp r8 st;have fin:∀{bp:List an} {s':aQ} {hx:List aj},Q .next loc bp→bz w.params oH bp s'.heap→Step [] oH {s4 with heap:=gV} oH s'→aO O w A (release hx []) (fun _=>K .next) s':=fun a9 eM el=>
   cU (BB (k .next loc _ oH .next _ a9 (r8.step el eM) trivial ((st.trans el).up)))
  clear r8 st k;cases aep cZ with
  |cA l i j bs cs g1 bL g3 e a9=>
   refine PZ.hl ?_;intro ad ly;revert q0;refine PY.fg ?_;intro t;refine PX.fg ?_;intro mB q0;refine oD xp.Cw fun tj aho b8 eO eG=>?_;clear eO;clear cZ;subst b8;clear xp;subst eG;refine(lB.cA ly e).elim fun RZ o'=>?_;rw[ph] at g3;have JN:j≤RZ.size:=by rw[←ph,o'.2.2];exact bL
   refine b0 (eR (aaH q0 o'.1 g1 JN g3 (pa o'.2.1) fun h' gH cL ext=>fin a9 (lB.Ga ly ext cL ?_) (Step.Ga gH (List.mem_of_getElem? ly) ext cL)));rw[←o'.2.2,←abi];exact .cA _ (by rw[N5 g1 JN g3];exact o'.2.1)
  |io l m i j bs cs g1 bL g3 ek e em a9=>
   refine PZ.hl ?_;intro ad ly;revert q0;refine PY.fg ?_;intro t;refine PX.fg ?_;intro mB q0;refine xp.hl ?_;intro Rb o6;refine(lB.ints ly e).elim fun xs a=>a.elim fun n a=>(lB.ints o6 em).elim fun ys b=>b.elim fun kG b=>?_;have jp:ad≠Rb:=fun q=>by have:=r0 lB.eW ly (q▸o6);rw[this,pJ] at ek;exact j9 ek
   rw[←a.2.length,←b.2.length] at g3;refine dH (ga (ZF q0 a.1 b.1 jp g1 (a.2.length.symm▸bL) (pa g3) fun h' gH cL eK=>?_));have el:Step [] oH {s4 with heap:=gV} oH {s4 with heap:=h'}:=.update s4.toks (List.mem_of_getElem? ly) eK cL
   exact fin a9 (lB.update ly eK cL (.ints (((a.2.take _).append b.2).append (a.2.drop _)))) el)
theorem afd (bx:A.units+20<cLine){o i:aY}{y z:aG}(ax:cV O w B C A I ay o y)(hi:cV O w B C A I ay i z):hI O w B C A I ay (.Delete [.Subscript o i p] q) (.del y z):=
 fun ah loc H ρ s Q K h r k=>by
  rw[arm_exec_Delete];refine e9 (b0 ?_);rw[arm_deleteEach_cons];refine b0 ?_;rw[arm_delete_Subscript];refine b0 (ax ah loc H ρ s _ _ h r fun a be cu NR s2 Z cq lW ck=>?_);have dx:=r.step ck cq;refine b0 (eR (hi ah loc be cu s2 _ _ Z dx fun b ei f8 YC s3 bv f5 xt fq=>?_));have hD:=dx.step fq f5;have xu:=lW.mono fq.fU cq.di;have st:=ck.trans fq;refine mb (Tt bv) fun l es n bS=>hJ bS fun eO e cZ=>?_;clear bS;subst eO;refine xu.hl fun c ar=>xz (f5.dict ar e) fun xs jN cS aD hX=>b7 (mV cZ) fun aB cZ=>?_;rw[fH,lX] at aB;refine e9 (dH (ga (Tr jN cS aD hX aB.1 aB.2 xt (by lia) cZ fun cT fb h' t g g1 bL g3 ek ht=>?_)));have el:Step [] f8 s3 f8 {s3 with heap:=h',toks:=t}:=.update t (List.mem_of_getElem? ar) bL g1
  exact cU (BB (cM (cM (k .next loc _ f8 .next _ g (hD.step el (f5.update ar bL g1 (.dict (g3.mono el.fU f5.di) ek ht))) trivial ((st.trans el).up)))))
theorem Od {a b:Nat}(h:V.ref a=V.ref b):a=b:=by injection h
theorem Sm:typeLookup (.type "bytes") (dunderI "add")=pure none:=by rw[jA,jz];kernel_rfl
theorem RN {a b:V}{x:aj}{Q:bI}{K:aj→aQ→Prop}(h:vv op a b H Q)(am:bz w.params ρ H s.heap)(eC:aN ρ s.heap a x)(jS:aN ρ s.heap b y)
 (q:∀v y s',Q v H→aN ρ s'.heap v y→bz w.params ρ H s'.heap→Step [] ρ s ρ s'→K y s'):wpAny (model O w) A (inplaceOp op x y) K eX s:=by
 induction op using Qz with
 |Add=>_
 |_=>exact ft h
 induction a using V.casesOn with
 |int i=>induction b using V.casesOn with
  |int j=>refine eC.fg ?_;intro t;refine jS.fg ?_;intro u;exact AutoIntOps.iadd_0 (q _ _ _ h (.int _ _) am .toks)
  |_=>exact ft h
 |bytes a=>induction b using V.casesOn with
  |bytes b=>
   refine eC.o0 (aA:=fun a x=>vv .Add (.bytes a) (.bytes b) H Q→wpAny (model O w) A (inplaceOp .Add x y) K eX s) (fun a t _ h=>?_) h;refine jS.o0 (aA:=fun b y=>vv .Add (.bytes (dY a)) (.bytes b) H Q→wpAny (model O w) A (inplaceOp .Add (.bytes a t) y) K eX s) (fun b u _ h=>?_) h;have h:=j2 h;rw[ph,ph] at h;have key:∀mB k,K (.bytes (a++b) mB) {s with toks:=k}:=fun mB k=>q _ _ _ h.2 (by
    have e:dY a++dY b=dY (a++b):=by simp[dY]
    rw[e];exact .bytes _ _ (by rw[Bi];exact h.1)) am .toks
   refine iconcat_gives (pM s a t) (pM s b u) Sm KBy.noFill_bytes_add KBy.seq_bytes_add FB.slot_bytes_add FB.entry_bytes_add (FB.args_bytes_add_2 _ _) (KBy.gives_bytes_add (KBy.tooLong_not (by lia))) ?_
   by_cases az:a.isEmpty=true
   .rw[if_pos az];have e:a=#[]:=Array.isEmpty_iff.1 az;have h':=key u s.toks;rw[e,Array.empty_append] at h';exact h'
   .rw[if_neg az]
    by_cases aI:b.isEmpty=true
    .rw[if_pos aI];have e:b=#[]:=Array.isEmpty_iff.1 aI;have h':=key t s.toks;rw[e,Array.append_empty] at h';exact h'
    .rw[if_neg aI];exact⟨by rw[Bi];exact pa h.1,key s.toks (s.toks+1)⟩
  |_=>exact ft h
 |_=>exact ft h
theorem ZJ {i:Nat}{x:Str}(r:bZ w.params B I ah ay ρ H loc s)(aS:ay[i]? =E x)(e:loc[i]? =E v)(bx:v≠.aR)
 (h:∀y,aN ρ s.heap v y→Q y s):wpAny (model O w) A (loadName I x) Q eX s:=by
 refine dn (r.cj.k6 i x v aS e bx) fun gB k6 bU=>?_;have k:=h gB bU;rcases k6 with⟨ar,m,aL,hm⟩|⟨ar,c,o,aI,ax,kC⟩|⟨ar,aL,c,o,aI,ax,kC⟩
 .exact wpAny_loadName_local r.cj.kind ar aL hm k
 .exact wpAny_loadName_cell r.cj.kind ar aI ⟨o,ax,kC⟩ k
 .exact wpAny_loadName_free r.cj.kind ar aI ⟨o,ax,kC⟩ k aL
theorem afb {x:Str}{i:Nat}{z:aG}(ct:ay[i]? =E x)(c0:p1 I x)(he:cV O w B C A I ay e z):hI O w B C A I ay (.AugAssign (.Name x p) op e q) (.aug i op z):=
 fun ah loc H ρ s Q K h r k=>by show aO _ _ _ (do standAt p;let EP←loadName I x;let v←holding [EP] (eval e I);standAt q;let new←operate [EP,v] (inplaceOp op EP v);standAt p;bindName I x new;pure .next) K s;refine gy (Ml (K:=fun a=>cF C B.G loc z H fun b aq=>vv op a b aq fun v be=>Q .next (loc.set i v) be) h) fun a iY bx h=>e9 (dH (ZJ r ct iY bx fun ahw eC=>b0 (eR (he ah loc H ρ s _ _ h r fun b aq bP ahx s1 R bt jS bk=>?_))));have cJ:=r.step bk bt;refine e9 (b0 (Ak (cU (RN R bt (eC.mono bk.fU r.am.di) jS fun v y s2 a9 c7 cq ck=>?_))));exact e9 (dH (wpAny_bindName (uy ct c0 (cJ.step ck cq) c7 fun s3 hD fq _=>cM (k .next _ aq bP .next s3 a9 hD trivial ((bk.up.trans ck.up).trans fq)))))
structure H2 (O:hS)(w:eJ)(A:fu)(I:Env)(name:Str)(p:Pos)(es:List aY)(Q:aj→aQ→Prop)(gg:aj)(s:aQ)(aT id:String):Prop where
 abR:PlainAttrs aT
 slot:Slot aT name id
 ty:typeOf (.builtin id)=pure (.type "method_descriptor")
 is:s.TypeIs gg aT
 eW:∀a,gg=.ref a→∃ob,s.heap.get? a=E ob∧ob.dict=none
 run:aO O w A (spliced (backTo p (starEach es I))) (fun vs s'=>aO O w A (call (.builtin id) (gg::vs)) Q s') s
theorem afz {es:List aY}(a8:es.all jR=true):(backTo p (starEach es I)).all (fun x=> !x.1)=true:=by
 induction es with
 |nil=>rfl
 |cons e r aF=>have a8:=gC.mp a8;rw[oy a8.1];exact aF a8.2
theorem M3 {o:aY}{es:List aY}(az:oY o=true)(ar:(iC.endLine==p.line)=true)(a8:es.all jR=true)(aL:es.length<29)
 (h:aO O w A (eval o I) (fun gg bB=>∃aT id,H2 O w A I name p es Q gg bB aT id) s):aO O w A (eval (.Call (.Attribute o name iC) es [] p) I) Q s:=by
 have WW:attributeBase o name I (eval o I)=eval o I:=by clear h;induction o using jW<;>first|rfl|exact dW az
 rw[arm_eval_Call,WW];refine b0 (dF h fun gg bB g=>g.elim fun aT g=>g.elim fun id g=>e9 ?_);have Xp:methodCallForm (es.length+([]:List Keyword).length) (backTo p (starEach es I)) (backToKw p (keywordEach [] I))=true:=by unfold methodCallForm;rw[afz a8];refine(?_:(true&&true&&decide (es.length+0+0<30))=true);rw[decide_eq_true (GB aL:es.length+0+0<30)];rfl
 have XS:methodCallPos true o I iC p=pure p:=by unfold methodCallPos;simp[ar]
 unfold methodCall;rw[Xp];exact dH (ga (getMethod_builtin g.is g.abR g.slot g.ty g.eW (hy XS (M1 (first:=[gg]) a8 (dF g.run fun vs s' h'=>⟨DZ,h'⟩)))))
theorem Iq {v:aj}(e:s.heap.get? a=E (listOf xs.toArray n))(hz:xs.length≤sizeLine)
 (q:∀h',h'.get? a=E (listOf (xs++[v]).toArray (n+1))→fI a s.heap h'→Q .none {s with heap:=h'}):wpAny (model O w) A (call (.builtin "list.append") [.ref a,v]) Q eX s:=by
 refine hp slot_list_append (isList e).typeIs entry_list_append ?_ (args_list_append _ _);refine(?_:wpAny _ _ (updateSeq a (·.push v)>>=fun _=>ret .none) _ _ s);refine ae ?_;have aJ:=l1 (Obj.mapSeq (·.push v)) e rfl;have cI:Obj.mapSeq (·.push v) (listOf xs.toArray n)=listOf (xs++[v]).toArray (n+1):=by
  have:xs.toArray.push v=(xs++[v]).toArray:=by simp
  refine(?_:Obj.mk _ _ (.seq (xs.toArray.push v) (if(xs.toArray.push v).size==xs.toArray.size then n else n+1)) _=_);rw[this];simp
 exact x1 e rfl (aX ⟨.none,rfl,q _ (aJ.trans (congrArg E cI)) (kp ..)⟩) (by simpa using hz) (by simpa using hz)
theorem JR {d:bj}{xs:List c3}{c2:List aj}{yX:aj}{G:Option V→Prop}(hm:(d==sysModules)=false)(ax:s.heap.get? d=E (dictOf xs n))
 (cS:de w.params ρ s.heap es xs)(aD:∀e∈es,bT 4 e.1=true)(hd:eD es)(aB:bT 4 k=true)(bU:aN ρ s.heap k y)(bx:A.units+6<cLine)(b5:lv k es G)(am:(c2=[]∧yX=.none)∨c2=[yX])
 (cg:∀v x t,G (E v)→aN ρ s.heap v x→Q x {s with toks:=t})(b8:∀t,G dk→Q yX {s with toks:=t}):wpAny (model O w) A (call (.builtin "dict.get") (.ref d::y::c2)) Q eX s:=by
 rcases am with g|g
 .obtain rfl:=g.1;obtain rfl:=g.2;refine hp PySem.F.slot_dict_get (fo ax) PySem.F.entry_dict_get ?_ (PySem.F.args_dict_get_2 _ _);unfold Builtin.«dict.get» Builtin.Dict.keyAndDefault;refine ae (ae (q6 (fo ax) ?_));refine(?_:wpAny _ _ (pure (d,y,none)) _ _ s);exact aX (ae (yW ax cS aD hd aB bU (tI bx (by lia)) b5 (fun v x t g r=>aX ⟨_,rfl,cg v x t g r⟩) fun t g=>ae (wpAny_missed_other hm (aX ⟨_,rfl,b8 t g⟩))))
 .subst g;refine hp PySem.F.slot_dict_get (fo ax) PySem.F.entry_dict_get ?_ (PySem.F.args_dict_get_3 _ _ _);unfold Builtin.«dict.get» Builtin.Dict.keyAndDefault;refine ae (ae (q6 (fo ax) ?_));refine(?_:wpAny _ _ (pure (d,y,E yX)) _ _ s);exact aX (ae (yW ax cS aD hd aB bU (tI bx (by lia)) b5 (fun v x t g r=>aX ⟨_,rfl,cg v x t g r⟩) fun t g=>ae (wpAny_missed_other hm (aX ⟨_,rfl,b8 t g⟩))))
inductive nN (H:List an)(l k:Nat):Prop
 |li (vs:List V):H[l]? =E (.list vs)→k=m7→nN H l k
 |io (xs:List Int):H[l]? =E (.ints xs)→k=m7→nN H l k
 |hX (es:List (V×V)) (n:Nat):H[l]? =E (.dict es n)→k=qw→nN H l k
theorem Ek {a:V}{k:Nat}{aA:V→Prop}(h:wL a k H=true)(f:∀l,nN H l k→aA (.ref l)):aA a:=by
 induction a using V.casesOn with
 |ref l=>
  refine f l ?_;unfold wL at h;dsimp only at h;generalize e:H[l]? =f7 at h
  induction f7 using ez with
  |none=>exact hA h
  |some o=>induction o using an.casesOn with
   |«list» vs=>exact .li vs e (fO h)
   |«ints» vs=>exact .io vs e (fO h)
   |dict es n=>exact .hX es n e (fO h)
   |_=>exact hA h
 |_=>exact hA h
theorem vr:m7≠qw:=by decide+kernel
inductive x6 (H:List an)(l:Nat)(K:bI):List V→Prop
 |li (bX:List V) (v:V):H[l]? =E (.list bX)→bX.length≤1000000→K .none (H.set l (.list (bX++[v])))→x6 H l K [v]
 |io (xs:List Int) (x:Int):H[l]? =E (.ints xs)→xs.length≤1000000→K .none (H.set l (.ints (xs++[x])))→x6 H l K [.int x]
 |Nd (v:V):H[l]? =E (.ints [])→K .none (H.set l (.list [v]))→x6 H l K [v]
theorem aao {l:Nat}{args:List V}(m3:nN H l m7)(h:tX (.ref l) args H K):x6 H l K args:=by
 unfold tX at h;dsimp only at h;cases m3 with
 |hX es n e aB=>exact absurd aB vr
 |li vs e _=>
  rw[e] at h
  induction args using List.casesOn with
  |nil=>exact h.elim
  |cons v r=>induction r using List.casesOn with
   |nil=>exact .li vs v e (j2 h).1 (j2 h).2
   |cons=>exact h.elim
 |io xs e _=>
  rw[e] at h
  induction args using List.casesOn with
  |nil=>clear e;cases xs<;>exact h.elim
  |cons v r=>induction r using List.casesOn with
   |cons=>clear e;cases v<;>cases xs<;>exact h.elim
   |nil=>induction v using V.casesOn with
    |int i=>cases xs<;>exact .io _ i e (j2 h).1 (j2 h).2
    |_=>cases xs<;>first|exact h.elim|exact .Nd _ e h
inductive BX (H:List an)(l:Nat)(K:bI):List V→Prop
 |one (es:List (V×V)) (n:Nat) (i:V):H[l]? =E (.dict es n)→jJ i es (fun r=>K (r.getD .none) H)→BX H l K [i]
 |two (es:List (V×V)) (n:Nat) (i d:V):H[l]? =E (.dict es n)→jJ i es (fun r=>K (r.getD d) H)→BX H l K [i,d]
theorem aap {l:Nat}{args:List V}(m3:nN H l qw)(h:tX (.ref l) args H K):BX H l K args:=by
 unfold tX at h;dsimp only at h;cases m3 with
 |li _ _ aB=>exact absurd aB.symm vr
 |io _ _ aB=>exact absurd aB.symm vr
 |hX es n e _=>
  rw[e] at h
  induction args using List.casesOn with
  |nil=>exact h.elim
  |cons v r=>induction r using List.casesOn with
   |nil=>exact .one es n v e h
   |cons d r=>induction r using List.casesOn with
    |nil=>exact .two es n v d e h
    |cons=>exact h.elim
theorem bJ.snoc (c7:aN ρ h v y){a:List V}:∀{c:List aj},bJ ρ h a c→bJ ρ h (a++[v]) (c++[y]):=by
 induction a with
 |nil=>intro c r;exact r.iJ (.cons c7 .nil)
 |cons u a aF=>intro c r;exact r.gS fun z zs x r=>.cons x (aF r)
theorem type_dict_get:typeOf (.builtin "dict.get")=pure (.type "method_descriptor"):=by show builtinType _=_;rw[builtinType_eq_fast];kernel_rfl
theorem ad8 (ok:B.Ok)(bx:A.units+20<cLine){o:aY}{x:aG}{es:List aY}{xs:gP}(DD:name="append"∨name="get")(az:oY o=true)(ar:(iC.endLine==p.line)=true)(a8:es.all jR=true)(aL:es.length<29)
 (ax:cV O w B C A I ay o x)(aE:oU O w B C A I ay es xs):cV O w B C A I ay (.Call (.Attribute o name iC) es [] p) (.lI x (a7 name) xs):=fun ah loc H ρ s Q K h r q=>by
 refine M3 az ar a8 aL (ax ah loc H ρ s _ _ h r fun a aq bP gg s1 R bt lW bk=>?_);have cJ:=r.step bk bt;have R:=mV R;have args:=fun(pZ:List aj→aQ→Prop) (a9:∀vs be cu ys s2,ao (wL a (a7 name) be) (tX a vs be Q) False→bz w.params cu be s2.heap→bJ cu s2.heap vs ys→Step [] bP s1 cu s2→pZ ys s2)=>
  aE ah loc aq bP s1 _ pZ p R.2 cJ fun vs be cu ys s2 Z cq bU len ck=>a9 vs be cu ys s2 Z cq bU ck
 have m3:=R.1;clear R;revert lW args;apply Ek m3;intro l JX lW;refine lW.hl ?_;intro ad qj args;have up:∀{cu s2},Step [] bP s1 cu s2→cu[l]? =E ad:=fun st=>st.new.elim fun n g=>g.1▸get_append qj;have lst:∀{bX:List aj} {n:Nat},s1.heap.get? ad=E (listOf bX.toArray n)→a7 name=m7→∃aT id,H2 O w A I name p es K (.ref ad) s1 aT id:=fun eY aB=>by
  have e:name="append":=DD.elim id fun e=>absurd ((congrArg a7 e).symm.trans aB:qw=m7) vr.symm;clear DD R m3 JX aB;subst e;refine⟨"list","list.append",PySem.F.plainAttrs_list,slot_list_append,type_list_append,(isList eY).typeIs,fun a e=>⟨_,BL e▸eY,rfl⟩,args _ fun vs be cu ys s2 Z cq bU ck=>?_⟩;have b8:=q.after (bk.trans ck);have o5:=up ck;have Z:=mV Z;have vS:nN be l m7:=Ek (aA:=fun v=>∀l,v=.ref l→nN be l m7) Z.1 (fun l h m e=>Od e▸h) l rfl;have bv:=aao vS Z.2;have iC:∀{bX:List aj} {n:Nat} {y:aj} {o:an},s2.heap.get? ad=E (listOf bX.toArray n)→bX.length≤1000000→(∀h',eL cu cu s2.heap h'→eE w.params cu h' o (listOf (bX++[y]).toArray (n+1)))→Q .none (be.set l o)→aO O w A (call (.builtin "list.append") (.ref ad::[y])) K s2:=fun dX hz sd a9=>
   cU (Iq dX (pa hz) fun h' cL eK=>
    have el:Step [] cu s2 cu {s2 with heap:=h'}:=.update s2.toks (List.mem_of_getElem? o5) eK cL
    b8 _ _ cu _ _ a9 (cq.update o5 eK cL (sd h' el.fU)) .none el)
  clear vS Z args;cases bv with
  |li bX v e hz a9=>exact bU.gS fun _ _ c7 r=>r.iJ<|(cq.list o5 e).elim fun xs g=>g.elim fun n g=>iC g.1 (g.2.length▸hz) (fun h' p=>.list ((g.2.snoc c7).mono p cq.di)) a9
  |io xs x e hz a9=>refine bU.gS fun _ _ c7 r=>r.iJ ?_;exact(cq.ints o5 e).elim fun bX g=>g.elim fun n g=>by refine c7.fg ?_;intro t;exact iC g.1 (g.2.length.symm▸hz) (fun h' p=>.ints (g.2.append (.cons _ _ .nil))) a9
  |Nd v e a9=>refine bU.gS fun _ _ c7 r=>r.iJ ?_;exact(cq.ints o5 e).elim fun bX g=>g.elim fun n g=>by have i:=g.2;cases i;exact iC g.1 (jy _) (fun h' p=>.list (.cons (c7.mono p cq.di) .nil)) a9
 cases JX with
 |li vs e aB=>exact(bt.list qj e).elim fun bX g=>g.elim fun n g=>lst g.1 aB
 |io xs e aB=>exact(bt.ints qj e).elim fun bX g=>g.elim fun n g=>lst g.1 aB
 |hX cT n e aB=>
  clear lst;refine(bt.dict qj e).elim fun fb g=>?_;have eY:=g.1;clear g;have e:name="get":=DD.elim (fun e=>absurd ((congrArg a7 e).symm.trans aB:m7=qw) vr) id;subst e;refine⟨"dict","dict.get",PySem.F.plainAttrs_dict,PySem.F.slot_dict_get,type_dict_get,fo eY,fun a e=>⟨_,BL e▸eY,rfl⟩,args _ fun vs be cu ys s2 Z cq bU ck=>?_⟩;have b8:=q.after (bk.trans ck);have o5:=up ck;have Z:=mV Z;have vS:nN be l qw:=Ek (aA:=fun v=>∀l,v=.ref l→nN be l qw) Z.1 (fun l h m e=>Od e▸h) l rfl;have bv:=aap vS Z.2;have hm:=(cJ.step ck cq).mods ok.dE ad (List.mem_of_getElem? o5);clear vS Z args;cases bv with
  |one es n i e a9=>
   exact bU.gS fun _ _ c7 r=>r.iJ<|(cq.dict o5 e).elim fun xs g=>
    cU (JR hm g.1 g.2.1 g.2.2.1 g.2.2.2 (mV a9).1 c7 (by lia) (mV a9).2 (.inl ⟨rfl,rfl⟩) (fun v x t g r=>b8 _ _ cu _ _ g cq r .toks) fun t g=>b8 _ _ cu _ _ g cq .none .toks)
  |two es n i d e a9=>
   exact bU.gS fun _ _ c7 r=>r.gS fun _ _ fV r=>r.iJ<|(cq.dict o5 e).elim fun xs g=>
    cU (JR hm g.1 g.2.1 g.2.2.1 g.2.2.2 (mV a9).1 c7 (by lia) (mV a9).2 (.inr rfl) (fun v x t g r=>b8 _ _ cu _ _ g cq r .toks) fun t g=>b8 _ _ cu _ _ g cq fV .toks)
inductive oT (O:hS)(w:eJ)(B:gD)(C:hT)(A:fu)(I:Env)(ay:List Str):List aY→gP→Prop
 |nil:oT O w B C A I ay [] .nil
 |cons {e:aY} {es:List aY} {x:aG} {xs:gP}:jR e=true→cV O w B C A I ay e x→oT O w B C A I ay es xs→oT O w B C A I ay (e::es) (.cons x xs)
inductive KeysAre:List (Option aY)→List V→Prop
 |nil:KeysAre [] []
 |int {i:Int} {k:Nat} {p:Pos} {es:List (Option aY)} {vs:List V}:KeysAre es vs→KeysAre (E (.Constant (.int i) k p)::es) (.int i::vs)
 |str {x:Str} {k:Nat} {p:Pos} {es:List (Option aY)} {vs:List V}:fY x=true→KeysAre es vs→KeysAre (E (.Constant (.str x) k p)::es) (.str (a7 x)::vs)
theorem KeysAre.all {keys:List (Option aY)}(h:KeysAre keys aD):keys.all (·.isSome)=true:=by
 induction h with
 |nil=>rfl
 |int _ aF=>rw[List.all_cons,aF];rfl
 |str _ _ aF=>rw[List.all_cons,aF];rfl
theorem oT.xa {es:List aY}{xs:gP}(h:oT O w B C A I ay es xs):oU O w B C A I ay es xs:=by
 induction h with
 |nil=>exact aei
 |cons bx he _ aF=>exact aeh bx he aF
inductive l5 (ρ:List bj)(h:fP):List V→List V→List (aj×aj)→Prop
 |nil:l5 ρ h [] [] []
 |cons {k v:V} {y z:aj} {aD vs:List V} {ps:List (aj×aj)}:aN ρ h k y→aN ρ h v z→l5 ρ h aD vs ps→l5 ρ h (k::aD) (v::vs) ((y,z)::ps)
theorem abU {keys:List (Option aY)}(aB:KeysAre keys aD):∀{es:List aY} {xs:gP},oT O w B C A I ay es xs→keys.length=es.length→∀{ah loc H ρ s} {Q:List V→List an→Prop} {K:List (aj×aj)→aQ→Prop},
 lV C B.G loc xs H Q→bZ w.params B I ah ay ρ H loc s→(∀vs bp aV ps s',Q vs bp→bz w.params aV bp s'.heap→l5 aV s'.heap aD vs ps→Step [] ρ s aV s'→K ps s')→aO O w A (evalPairs (pairTrees keys es I pos)) K s:=by
 have key:∀{e:aY} {es:List aY} {x:aG} {xs:gP} {z0:aY} {keys:List (Option aY)} {k:V} {aD:List V},cV O w B C A I ay e x→(∀{ρ s} {K:aj→aQ→Prop},(∀y t,aN ρ s.heap k y→(∀h,aN ρ h k y)→K y {s with toks:=t})→aO O w A (eval z0 I) K s)→
  (∀{ah loc H ρ s} {Q:List V→List an→Prop} {K:List (aj×aj)→aQ→Prop},lV C B.G loc xs H Q→bZ w.params B I ah ay ρ H loc s→(∀vs bp aV ps s',Q vs bp→bz w.params aV bp s'.heap→l5 aV s'.heap aD vs ps→Step [] ρ s aV s'→K ps s')→aO O w A (evalPairs (pairTrees keys es I pos)) K s)→
  ∀{ah loc H ρ s} {Q:List V→List an→Prop} {K:List (aj×aj)→aQ→Prop},lV C B.G loc (.cons x xs) H Q→bZ w.params B I ah ay ρ H loc s→(∀vs bp aV ps s',Q vs bp→bz w.params aV bp s'.heap→l5 aV s'.heap (k::aD) vs ps→Step [] ρ s aV s'→K ps s')→
   aO O w A (evalPairs (pairTrees (E z0::keys) (e::es) I pos)) K s:=by
  intro e es x xs z0 keys k aD he Xy aF ah loc H ρ s Q K h r q;show aO _ _ _ (do let D7←eval z0 I;let P0←holding [D7] (do let x←eval e I;standAt pos;pure x);return (D7,P0)::(←holding [D7,P0] (evalPairs (pairTrees keys es I pos)))) K s;refine b0 (Xy (ρ:=ρ) fun y t ahv c7=>?_);have xh:Step [] ρ s ρ {s with toks:=t}:=.toks
  refine b0 (eR (b0 (he ah loc H ρ _ _ _ h (r.step xh r.am) fun v aq bP z s1 R bt fV bk=>e9 (cM ?_))));refine b0 (eR (aF R ((r.step xh r.am).step bk bt) fun vs be cu ps s2 Z cq pr ck=>cM (q (v::vs) be cu _ s2 Z cq (.cons ?_ (fV.mono ck.fU bt.di) pr) ((xh.trans bk).trans ck))));have dQ:aN bP s1.heap k y:=(c7 s.heap).mono bk.fU r.am.di;exact dQ.mono ck.fU bt.di
 induction aB with
 |nil=>
  intro es xs aE ar ah loc H ρ s Q K h r q;cases aE with
  |nil=>exact cM (q [] H ρ [] s h r.am .nil (.refl _ _ _))
  |cons _ _ _=>cases ar
 |@int i k p keys aD _ aF=>
  intro es xs aE ar ah loc H ρ s Q K h r q;cases aE with
  |nil=>cases ar
  |cons bx he aE=>exact key he (fun a9=>cU (u5 (a9 _ _ (.int i _) fun _=>.int i _))) (fun {ah loc H ρ s Q K} a b c=>aF aE (by simpa using ar) a b c) h r q
 |@str x k p keys aD aS _ aF=>
  intro es xs aE ar ah loc H ρ s Q K h r q;cases aE with
  |nil=>cases ar
  |cons bx he aE=>exact key he (fun a9=>cU (wpAny_mkText (a9 _ _ (.str x _ aS) fun _=>.str x _ aS))) (fun {ah loc H ρ s Q K} a b c=>aF aE (by simpa using ar) a b c) h r q
theorem l5.mono (p:eL ρ ρ h h')(hB:rg ρ h){ps:List (aj×aj)}(r:l5 ρ h aD vs ps):l5 ρ h' aD vs ps:=
 l5.rec (motive:=fun aD vs ps _=>l5 ρ h' aD vs ps) .nil (fun a b _ k=>.cons (a.mono p hB) (b.mono p hB) k) r
theorem Pa {d:bj}(bx:A.units+4<cLine)(hd:d∉ρ):∀{aD vs:List V} {ps:List (aj×aj)} {es:List (V×V)} {n:Nat} {xs:List c3} {s:aQ} {G:List (V×V)→Nat→Prop} {Q:PUnit→aQ→Prop},
 CO es n aD vs G→bz w.params ρ H s.heap→l5 ρ s.heap aD vs ps→s.heap.get? d=E (dictOf xs n)→de w.params ρ s.heap es xs→(∀e∈es,bT 4 e.1=true)→eD es→
 (∀cT kG fb h' t,G cT kG→h'.get? d=E (dictOf fb kG)→fI d s.heap h'→de w.params ρ h' cT fb→(∀e∈cT,bT 4 e.1=true)→eD cT→Q () {s with heap:=h',toks:=t})→
 wpAny (model O w) A (storeAll d ps) Q eX s
 |_,_,_,es,n,xs,s,G,Q,h,am,.nil,ax,cS,aD,hX,q=>aX (q es n xs s.heap s.toks h ax (BJ ..) cS aD hX)
 |_,_,_,es,n,xs,s,G,Q,h,am,.cons (y:=y) (z:=z) (ps:=ps) c7 fV r,ax,cS,aD,hX,q=>by
  refine b7 (mV h) fun aB h=>?_;rw[fH,lX] at aB;refine(?_:wpAny _ _ (forIn ((y,z)::ps) PUnit.unit _) _ _ _);rw[List.forIn_cons];refine ae (ae (I8 ax cS aD hX aB.1 aB.2 c7 fV bx h fun cT m fb h' t g g1 bL g3 ek ht=>aX ?_));have p:eL ρ ρ s.heap h':=⟨⟨[],by simp,fun _ h=>nomatch h⟩,fun a o e aC ⟨zs,k,kC⟩=>(bL.2 a fun q=>by rw[q,ax] at e;obtain rfl:=cE e;cases sw kC).trans e⟩
  have eM:bz w.params ρ H h':=am.other (fun a aC=>bL.2 a fun q=>hd (q▸aC)) p;exact Pa (s:={s with heap:=h',toks:=t}) bx hd g eM (r.mono p am.di) g1 (g3.mono p am.di) ek ht fun vJ wQ Qb Z aa k ba bK bR DU rM=>q vJ wQ Qb Z aa k ba (bL.trans bK) bR DU rM
theorem aN.grow {x:aj}(r:aN ρ h v x):aN (ρ++[bQ]) h v x:=
 aN.rec (motive_1:=fun v x _=>aN (ρ++[bQ]) h v x) (motive_2:=fun vs xs _=>bJ (ρ++[bQ]) h vs xs) .none .bool .int .str .bytes (fun e _ k=>.tup e k) (fun e=>.ref (get_append e)) .nil (fun _ _ a b=>.cons a b) r
theorem bJ.grow (r:bJ ρ h vs xs):bJ (ρ++[bQ]) h vs xs:=
 bJ.rec (motive_1:=fun _ _ _=>True) (motive_2:=fun vs xs _=>bJ (ρ++[bQ]) h vs xs) trivial (fun _=>trivial) (fun _ _=>trivial) (fun _ _ _=>trivial) (fun _ _ _=>trivial) (fun _ _ _=>trivial) (fun _=>trivial) .nil (fun a _ _ b=>.cons a.grow b) r
theorem de.grow {xs:List c3}(r:de P ρ h es xs):de P (ρ++[bQ]) h es xs:=
 de.rec (motive:=fun es xs _=>de P (ρ++[bQ]) h es xs) .nil (fun a b c _ k=>.cons a.grow b.grow c k) r
theorem eE.grow {o:an}(r:eE P ρ h o ob):eE P (ρ++[bQ]) h o ob:=
 eE.casesOn (motive:=fun o ob _=>eE P (ρ++[bQ]) h o ob) r (fun r=>.list r.grow) .ints (fun r=>.dict r.grow) (fun a b=>.inst a (get_append b)) .cA .d5
theorem bz.take {o:an}(x:bz P ρ H h)(ew:bQ∉ρ)(e:h.get? bQ=E ob)(r:eE P (ρ++[bQ]) h o ob):bz P (ρ++[bQ]) (H++[o]) h:=by exact⟨Eb x.len,EA x.eW ew,fun i o' a ax aC=>Cq (aA:=fun o' a=>∃hP,h.get? a=E hP∧eE P (ρ++[bQ]) h o' hP) x.len ax aC (fun R Z=>(x.at_ i o' a R Z).elim fun hP g=>⟨hP,g.1,g.2.grow⟩) ⟨ob,e,r⟩⟩
theorem Step.takes {s2:aQ}{t:Nat}(st:Step [] ρ {s with heap:=s.heap.push ob} cu s2)(aE:fI s.heap.objs.size s2.heap h')(he:∃o,h'.get? s.heap.objs.size=E o):Step [] ρ s (cu++[s.heap.objs.size]) {s2 with heap:=h',toks:=t}:=by
 refine dn st.new fun n cg aL=>?_;subst cg;refine⟨⟨n++[s.heap.objs.size],by rw[List.append_assoc],fun a aC=>?_⟩,fun a o e aC hf=>?_,fun a e=>?_,st.gens,st.os⟩
 .rcases List.mem_append.mp aC with q|q
  .exact z6 a (aL a q)
  .rw[List.mem_singleton.mp q];exact kA _
 .exact(aE.2 a (nz (ia e))).trans (st.keep a o (fv _ e) aC hf)
 .by_cases q:a=s.heap.objs.size
  .rw[q];exact kA _
  .exact z6 a (st.live a ((aE.2 a q).symm.trans e))
theorem ad1 (bx:A.units+20<cLine){keys:List (Option aY)}{es:List aY}{xs:gP}(aB:KeysAre keys aD)(aE:oT O w B C A I ay es xs)(ar:keys.length=es.length)(zd:keys.length≤15):
 cV O w B C A I ay (.Dict keys es p) (.dict aD xs):=fun ah loc H ρ s Q K h r q=>by
 have d0:=kA s.heap;have CQ:=o3 r.am d0;have xh:Step [] ρ s ρ {s with heap:=s.heap.push {cls:=.type "dict",data:=.dict #[]}}:=.push s.toks
 have qo:bz w.params ρ H (s.heap.push {cls:=.type "dict",data:=.dict #[]}):=r.am.push _;have r1:(s.heap.push {cls:=.type "dict",data:=.dict #[]}).get? s.heap.objs.size=E (dictOf [] 0):=g5 _ rfl;have fin:∀{cu:List bj} {be:List an} {s2:aQ} {cT:List (V×V)} {kG:Nat} {fb:List c3} {h':fP} {t:Nat},bz w.params cu be s2.heap→Step [] ρ {s with heap:=s.heap.push {cls:=.type "dict",data:=.dict #[]}} cu s2→
  Q (.ref be.length) (be++[.dict cT kG])→h'.get? s.heap.objs.size=E (dictOf fb kG)→fI s.heap.objs.size s2.heap h'→de w.params cu h' cT fb→(∀e∈cT,bT 4 e.1=true)→eD cT→
  s2.heap.get? s.heap.objs.size=E (dictOf [] 0)→s.heap.objs.size∉cu→K (.ref s.heap.objs.size) {s2 with heap:=h',toks:=t}:=fun {cu be s2 cT kG fb h' t} cq ck a9 cL eK cS aD hX aJ aL=>by
  have p:eL cu cu s2.heap h':=⟨⟨[],by simp,fun _ h=>nomatch h⟩,fun a o e aC ⟨zs,k,kC⟩=>(eK.2 a fun q=>by rw[q,aJ] at e;obtain rfl:=cE e;cases sw kC).trans e⟩
  have eM:bz w.params cu be h':=cq.other (fun a aC=>eK.2 a fun q=>aL (q▸aC)) p;refine q _ _ _ _ _ a9 (eM.take aL cL (.dict cS.grow aD hX)) (.ref ?_) (ck.takes eK ⟨_,cL⟩);rw[←cq.len,List.getElem?_append_right (kN _)];simp
 have MN:∀{keys:List (Option aY)} {es:List aY} {aD:List V} {xs:gP},KeysAre keys aD→oT O w B C A I ay es xs→keys.length=es.length→keys.length≤15→keys≠[]→keys.all (·.isSome)=true→cF C B.G loc (.dict aD xs) H Q→aO O w A (eval (.Dict keys es p) I) K s:=fun {keys es aD xs} aB aE ar zd bl vX h=>by
  have aL:=pairTrees_length keys es I p vX ar;have DF:pairTrees keys es I p≠[]:=by intro he;rw[he] at aL;exact bl (List.length_eq_zero_iff.mp aL.symm)
  rw[arm_eval_Dict,zip_pairTrees keys es I p vX ar,dictDisplay_pairs _ DF (by rw[aL];lia)];refine e9 (b0 ?_);unfold subDict;refine dH (wpAny_alloc (b0 (eR ?_)));rw[if_pos (by rw[aL];exact zd)];refine b0 (abU aB aE ar h (r.step xh qo) fun vs be cu ps s2 Z cq pr ck=>eR ?_);have aJ:s2.heap.get? s.heap.objs.size=E (dictOf [] 0):=ck.keep _ _ r1 CQ (fun h=>nomatch h);have I9:s.heap.objs.size∉cu:=fun a9=>by
   refine dn ck.new fun n cg hf=>?_;clear cq pr ck;subst cg;rcases List.mem_append.mp a9 with q|q
   .exact CQ q
   .rw[hf _ q] at r1;exact c5 r1
  exact b0 (cU (Pa (by lia) I9 Z cq pr aJ .nil (fun e h=>nomatch h) .nil fun cT kG fb h' t g g1 bL g3 ek ht=>cM (cM (cM (fin cq ck g g1 bL g3 ek ht aJ I9)))))
 cases aB with
 |nil=>
  cases aE with
  |cons _ _ _=>cases ar
  |nil=>rw[eval_Dict_empty];refine e9 (cU (jB ?_));exact fin (h':=s.heap.push {cls:=.type "dict",data:=.dict #[]}) (t:=s.toks) (s2:={s with heap:=s.heap.push {cls:=.type "dict",data:=.dict #[]}}) qo (.refl _ _ _) h r1 (BJ ..) .nil (fun e h=>nomatch h) .nil r1 CQ
 |int aB=>exact MN (.int aB) aE ar zd (by simp) (KeysAre.int aB).all h
 |str aS aB=>exact MN (.str aS aB) aE ar zd (by simp) (KeysAre.str aS aB).all h
theorem YL {d:bj}{xs:List c3}(hd:(d==sysModules)=false):
 KdlSrc O w "dict" d d xs.length (fun i v=>(xs[i]?).map (·.key)=E v) (fun h=>h.get? d=E (dictOf xs ep)) where
 type:=fun _ e=>fo e
 there:=fun _ e=>⟨ia e,ia e⟩
 keep:=fun _ _ e aB=>aB d (.inl rfl) _ e
 notList:=by decide
 notTuple:=by decide
 hint:=fun _ _ _ _ e a9=>kdl_hint_dict (fo e) a9
 iter:=fun A s bC e=>⟨_,fun i h=>h.IsKeyIter s.heap.objs.size d i xs.length ep∧h.get? d=E (dictOf xs ep),(fun b1 Q a9=>by
  refine u6 (fo e) PySem.F.slot_dict_iter (hp PySem.F.slot_dict_iter (fo e) PySem.F.entry_dict_iter ?_ (PySem.F.args_dict_iter_1 _));unfold Builtin.«dict.__iter__»;refine ae ?_;unfold Builtin.Dict.dictSlotNone;refine ae (q6 (fo e) ?_);refine(?_:wpAny _ _ (pure (gO d)) _ _ s);refine aX ?_;refine(?_:wpAny _ _ (Builtin.Dict.showsAll d>>=_) _ _ s);unfold Builtin.Dict.showsAll;rw[if_neg (by rw[hd];exact d7)];refine ae (aX (ae (mN e rfl (ae (ll e rfl ?_)))));exact ae (jB (aX ⟨_,rfl,"dict_keyiterator",_,⟨_,g5 _ rfl,rfl⟩,PySem.F.slot_dict_keyiterator_next.lookup,a9⟩))),
  {sub:=fun b az=>by simp at az;simp[az]
   frame:=fun i h h' st aB=>⟨let ⟨o,ax,r⟩:=st.1;⟨o,aB _ (by simp) o ax,r⟩,aB d (by simp) _ st.2⟩
   item:=fun i s' Q b1 hi st h2=>by obtain⟨x,aS⟩:∃x,xs[i]? =E x:=⟨_,List.getElem?_eq_getElem hi⟩;refine L6 st.1 st.2 aS fun h' zn gq=>h2 x.key h' s'.toks (by rw[aS];rfl) ⟨zn,(gq.2 d (nz (ia e))).trans st.2⟩ fun b o az ih=>gq.extBut b o (fun h=>az (by simp[h])) ih
   done:=fun s' Q b1 st h2=>L5 bC st.1 st.2 (by simp) fun h' Du=>h2 h' s'.toks fun b o az ih=>Du b o (fun h=>az (by simp[h])) ih
   self:=fun i s' Q b1 st h2=>by exact gy st.1 fun o ax aI kC=>wpAny_pyIter_keyiter (n:=xs.length) (ep:=ep) (i:=i) (d:=d) ⟨o,ax,aI,kC⟩ h2},⟨_,g5 _ rfl,rfl,by simp[rawInt]⟩,fv _ e⟩
theorem bz.afY {o:an}(x:bz P ρ H h)(ew:h.get? bQ=none)(aB:∀a o,h.get? a=E o→h'.get? a=E o)(e:h'.get? bQ=E ob)(r:eE P (ρ++[bQ]) h' o ob):
 bz P (ρ++[bQ]) (H++[o]) h'∧eL ρ (ρ++[bQ]) h h':=by
 have aL:=o3 x ew;have p:eL ρ (ρ++[bQ]) h h':=⟨⟨_,rfl,fun a aC=>by rw[List.mem_singleton.mp aC];exact ew⟩,fun a o e _ _=>aB a o e⟩;exact⟨⟨Eb x.len,EA x.eW aL,fun i o' a ax aC=>Cq (aA:=fun o' a=>∃hP,h'.get? a=E hP∧eE P (ρ++[bQ]) h' o' hP) x.len ax aC (fun R Z=>(x.at_ i o' a R Z).elim fun hP g=>⟨hP,aB a hP g.1,g.2.mono p x.di⟩) ⟨ob,e,r⟩⟩,p⟩
theorem Zm (x:bz P ρ H h):(ρ++[bQ])[H.length]? =E bQ:=by rw[←x.len,List.getElem?_append_right (kN _)];simp
theorem Al {t:Nat}{o:an}{Q:bI}{K:aj→aQ→Prop}(am:bz P ρ H s.heap)(q:jD P ρ s Q K)(a9:Q (.ref H.length) (H++[o]))(ew:s.heap.get? bQ=none)
 (aB:∀a o,s.heap.get? a=E o→h'.get? a=E o)(e:h'.get? bQ=E ob)(r:eL ρ (ρ++[bQ]) s.heap h'→eE P (ρ++[bQ]) h' o ob):K (.ref bQ) {s with heap:=h',toks:=t}:=by
 have p:eL ρ (ρ++[bQ]) s.heap h':=⟨⟨_,rfl,fun a aC=>by rw[List.mem_singleton.mp aC];exact ew⟩,fun a o e _ _=>aB a o e⟩;refine b7 (am.afY ew aB e (r p)) fun eM cg=>?_;clear cg;refine q _ _ _ _ _ a9 eM (.ref (Zm am)) ⟨⟨_,rfl,fun a aC=>by rw[List.mem_singleton.mp aC];exact ew⟩,fun a o e _ _=>aB a o e,fun a e=>Ec aB a e,rfl,rfl⟩
theorem de.keys {xs:List c3}(r:de P ρ h es xs):bJ ρ h (es.map (·.1)) (xs.map (·.key)):=by
 induction r with
 |nil=>exact .nil
 |cons a _ _ _ aF=>exact .cons a aF
theorem R6 (bC:A.handled=none):nI O w A (.type "list") .list:=fun vs ys H ρ s Q K h am bU hm q=>by
 refine te (h:a1 vs _) bU ?_;intro v y h c7;refine EX h c7 fun l d h ar=>am.mY ar h fun es n xs e h o cS aD hX=>nU h fun hz h=>?_;refine cU (kdl_call (YL (hm d (List.mem_of_getElem? ar))) bC o (by rw[←cS.length];exact pa hz) fun h' dj b6 c aB ax zi=>?_);have kD:∀b o,s.heap.get? b=E o→h'.get? b=E o:=aB;have WQ:b6.toList=xs.map (·.key):=by
  refine List.ext_getElem? fun i=>?_;rw[Qg,List.getElem?_map];cases aJ:b6[i]? with
  |some v=>exact(zi.2 i v aJ).symm
  |none=>have:=Array.getElem?_eq_none_iff.mp aJ;rw[List.getElem?_eq_none (by rw[zi.1] at this;exact this)];rfl
 refine Al am q h (kA _) kD (ob:=listOf (xs.map (·.key)).toArray c) ?_ fun p=>?_
 .rw[←WQ];simpa using ax
 .exact tY (cS.keys.mono p am.di) c
theorem aaP {c:Prop}[Decidable c]{a4:Type}{k:Sem a4}{Q:a4→aQ→Prop}(h:aO O w A k Q s):aO O w A (if c then do standAt p;k else k) Q s:=by
 by_cases aI:c
 .rw[if_pos aI];exact e9 h
 .rw[if_neg aI];exact h
def IY (O:hS)(w:eJ)(A:fu)(use:Option (aj→Sem Unit))(Q:aj→aQ→Prop)(b6:aj)(C:bj)(s':aQ):Prop:=match use with
 |none=>∃m,s'.heap.Ns C m∧∀h',fI C s'.heap h'→Q b6 {s' with heap:=h'}
 |some u=>aO O w A (u b6) (fun _ pw=>∃m,pw.heap.Ns C m∧∀h',fI C pw.heap h'→Q .none {pw with heap:=h'}) s'
theorem aaJ {Na first:Sem aj}{g:sL}{WG:List sL}{cl:List (Str×bj)}{use:Option (aj→Sem Unit)}
 (Dq:clausesOf e=g::WG)(aE:∀x,foldedSetIterable g.iter I x=pure x)(W1:closureFor scope I=pure cl)
 (zo:scope.kind=.function)(XC:∀x∈scope.names,x.2=.local→scope.names.lookup x.1=E .local)
 (h:aO O w A first (fun x bB=>aO O w A (pyIter x) (fun bW eh=>aO O w A Na (fun b6 jQ=>
  aO O w A (newFunctionEnv scope I.globals cl [] I.qual none .none (E I)) (fun cenv sr=>
   codeN O w A (.compStart e 0 bW b6 {cenv with scope:=relabel scope I}) (fun _ s'=>IY O w A use Q b6 cenv.locals s') sr) jQ) eh) bB) s):
 aO O w A (comprehension e scope I pos Na false first use) Q s:=by
 unfold comprehension;rw[W1,Dq];refine b0 (dF h fun x bB h₁=>e9 (hy (aE x) (b0 (eR (dF h₁ fun bW eh fL=>aaP<|b0 (dF fL fun b6 jQ iF=>b0 (cM (b0 (dF iF fun cenv sr tH=>?_)))))))));dsimp only;have co:∀x∈(scope.names.filter fun x=>(x.2== .local||x.2== .cell)&&x.1 !=(".0":Str)).reverse,x.2=.local→
  Env.kindOf {cenv with scope:=relabel scope I} x.1=E .local:=fun x aS ar=>GU (XC x (List.mem_filter.mp (List.mem_reverse.mp aS)).1 ar)
 have tG:∀x∈(scope.names.filter fun x=>(x.2== .local||x.2== .cell)&&x.1 !=(".0":Str)).reverse.drop 1++(scope.names.filter fun x=>(x.2== .local||x.2== .cell)&&x.1 !=(".0":Str)).reverse.take 1,
  x.2=.local→Env.kindOf {cenv with scope:=relabel scope I} x.1=E .local:=fun x aS ar=>by
  rcases List.mem_append.mp aS with R|R
  .exact co x (List.mem_of_mem_drop R) ar
  .exact co x (List.mem_of_mem_take R) ar
 refine eR (b0 (aaF (eR (M4 rfl (IP tH fun f s' am=>?_)))))
 induction use using ez with
 |none=>refine dm am fun m bS=>b7 bS fun aL am=>?_;clear bS;exact dH (ga (wpAny_comp_letGo (cenv:={cenv with scope:=relabel scope I}) zo _ s' m co aL fun h' rS _ gq=>cM (am h' gq)))
 |some u=>refine dH (iv (b0 (eR (dF am fun _ pw eM=>dm eM fun m bS=>b7 bS fun aL eM=>?_))));clear bS;exact dH (wpAny_comp_letGo (cenv:={cenv with scope:=relabel scope I}) zo _ pw m tG aL fun h' rS _ gq=>cM (eM h' gq))
namespace dS
theorem OZ:Slot "bytes_iterator" "__iter__" "bytes_iterator.__iter__":=
 .of (owner:="bytes_iterator") (n:="__iter__") (by rw[jA,jz];kernel_rfl) (by decide+kernel) (by decide+kernel) (by decide+kernel)
  (by first|exact .inl (by decide+kernel)|exact .inr (by decide+kernel)) (by rw[nB];kernel_rfl)
theorem OX:Slot "bytearray_iterator" "__iter__" "bytearray_iterator.__iter__":=
 .of (owner:="bytearray_iterator") (n:="__iter__") (by rw[jA,jz];kernel_rfl) (by decide+kernel) (by decide+kernel) (by decide+kernel)
  (by first|exact .inl (by decide+kernel)|exact .inr (by decide+kernel)) (by rw[nB];kernel_rfl)
theorem Uv:entryFor table "bytes_iterator.__iter__"=E Builtin.«dict_keyiterator.__iter__»:=
 GQ (id':="dict_keyiterator.__iter__") (by kernel_rfl) (by first|rfl|decide+kernel) (by decide+kernel) (by kernel_rfl)
theorem Us:entryFor table "bytearray_iterator.__iter__"=E Builtin.«dict_keyiterator.__iter__»:=
 GQ (id':="dict_keyiterator.__iter__") (by kernel_rfl) (by first|rfl|decide+kernel) (by decide+kernel) (by kernel_rfl)
theorem RE (a:aj):argsOk "bytes_iterator.__iter__" ⟨[a],[]⟩:=by unfold argsOk;kernel_rfl
theorem RB (a:aj):argsOk "bytearray_iterator.__iter__" ⟨[a],[]⟩:=by unfold argsOk;kernel_rfl
end dS
theorem acD {k:Src}{i:Nat}(x:gb k aM i s.heap)(h:Q (.ref aM) s):wpAny (model O w) A (pyIter (.ref aM)) Q eX s:=by
 induction k using Src.casesOn with
 |list l=>exact wpAny_pyIter_listiter x h
 |tup t=>exact wpAny_pyIter_tupleiter x h
 |p8 b t=>refine gy x fun o ax aI hd=>?_;clear x;have cr:s.TypeIs (.ref aM) "bytes_iterator":=⟨o,ax,aI⟩;refine u6 cr dS.OZ (hp dS.OZ cr dS.Uv ?_ (dS.RE _));exact aX ⟨_,rfl,"bytes_iterator",_,cr,KBw.slot_next.lookup,h⟩
 |cA l=>have cr:=wx x;refine u6 cr dS.OX (hp dS.OX cr dS.Us ?_ (dS.RB _));exact aX ⟨_,rfl,"bytearray_iterator",_,cr,dS.uu.lookup,h⟩
 |dict d n ep=>exact wpAny_pyIter_keyiter x h
 |eQ a st n=>exact wpAny_pyIter_rangeiter x h
theorem SM {pB:aY}{c2:List sL}{bW b6:aj}{Q:g0→aQ→Prop}
 (bl:codeN O w A (.compLoop (.ListComp gT (⟨pB,iter,fM,0⟩::c2) scope pos) 0 bW b6 I) Q s)
 (h:wpAny (model O w) A (pyIter bW) (fun m6 s'=>codeN O w A (.compLoop (.ListComp gT (⟨pB,iter,fM,0⟩::c2) scope pos) 0 m6 b6 I) Q s') eX s):
 codeN O w A (.compStart (.ListComp gT (⟨pB,iter,fM,0⟩::c2) scope pos) 0 bW b6 I) Q s:=by
 refine qa fun _=>?_;show aO _ _ _ ((compStart (.ListComp gT (⟨pB,iter,fM,0⟩::c2) scope pos) 0 bW b6 I).onRaise (fun x=>do noteFrame x I;standAt theWindowsPlace)) _ s;refine qK ?_;unfold compStart;refine(?_:aO _ _ _ (ask>>=_) _ s);refine dH (wpAny_askSetting ?_)
 split
 .first
   |exact cM ⟨rfl,rfl,bl⟩
   |exact b0 (cM (cM ⟨rfl,rfl,bl⟩))
 .refine dH (iv ?_);refine(?_:aO _ _ _ (standAt iter.pos>>=_) _ s);exact e9 (dH (sN h (fun m6 s' h'=>cM ⟨rfl,rfl,h'⟩) fun _ _ x=>x))
noncomputable def uB (fM:List aY)(I:Env):Sem Bool:=forIn fM true fun c r=>if r=true then do let ok←isTrue c I (eval c I);pure (Bl ok) else pure (Bl r)
theorem af7 {Q:Bool→aQ→Prop}(h:Q true s):aO O w A (uB [] I) Q s:=cM h
theorem af8 {c:aY}{Q:Bool→aQ→Prop}(h:aO O w A (isTrue c I (eval c I)) Q s):aO O w A (uB [c] I) Q s:=by unfold uB;simp only[List.forIn_cons,List.forIn_nil,if_true];exact b0 (b0 (dF h fun b s' az=>cM (cM az)))
theorem IN {pB:aY}{b6:aj}{Q:g0→aQ→Prop}(iS:Nat→aQ→Prop)
 (turn:∀n s,iS n s→aO O w A (pyNext (.ref aM)) (fun r bB=>match r with
  |none=>Q .next bB
  |some v=>aO O w A (letOwnedTupleGo pB (.ref aM) v) (fun _ bB=>aO O w A (assign pB I v) (fun _ eh=>aO O w A (uB fM I) (fun ok jQ=>
   if ok=true then aO O w A (eval gT I) (fun x sr=>aO O w A (call (.builtin "list.append") [b6,x]) (fun _ AY=>∃m,m<n∧iS m AY) sr) jQ
   else∃m,m<n∧iS m jQ) eh) bB) bB) s)
 (n:Nat)(h:iS n s):codeN O w A (.compLoop (.ListComp gT [⟨pB,iter,fM,0⟩] scope pos) 0 (.ref aM) b6 I) Q s:=by
 refine CD rfl iS (fun n s vT=>?_) n h;show aO _ _ A ((compTurn (.ListComp gT [⟨pB,iter,fM,0⟩] scope pos) 0 (.ref aM) b6 I).onRaise (fun x=>do noteFrame x I;theTreesLotGoes x)) _ s;refine qK ?_;rw[compTurn_list];refine e9 (b0 (dF (turn n s vT) fun r bB h₁=>?_))
 induction r using ez with
 |none=>exact cM h₁
 |some v=>
  refine b0 (dF h₁ fun _ bB h₁=>b0 (dF h₁ fun _ eh fL=>b0 (dF fL fun ok jQ iF=>?_)))
  induction ok using eo with
  |false=>exact cM (.inl ⟨rfl,iF⟩)
  |true=>exact b0 (b0 (dF iF fun x sr tH=>b0 (dF tH fun _ AY zy=>cM (cM (.inl ⟨rfl,zy⟩)))))
structure pO (I:Env)(ay:List Str)(scope:oN)(x:Str)(fZ:List Nat)(iE:List Str)(cl:List (Str×bj)):Prop where
 kind:scope.kind=.function
 names:∀y∈scope.names,y.2=.local→scope.names.lookup y.1=E .local
 aS:scope.names.lookup x=E .local
 cell:∀y∈scope.names,y.2≠.cell
 S3:closureFor scope I=pure cl
 mem:∀p∈cl,I.cells.lookup p.1=E p.2
 SW:∀(i:Nat) (y:Str),iE[i]? =E y→∃j:Nat,fZ[i]? =E j∧ay[j]? =E y∧I.kindOf y=E .cell∧(relabel scope I).names.lookup y=E .cell∧cl.lookup y=I.cells.lookup y
 len:fZ.length=iE.length
 eW:(iE++[x]).Nodup
 nu:∀y∈iE++[x],(y==("__debug__":Str))=false
noncomputable def rI (loc:List V)(fZ:List Nat)(v:V):List V:=fZ.map (fun i=>loc.getD i .aR)++[v]
theorem pO.sub {x:Str}{cl:List (Str×bj)}(k:pO I ay scope x fZ iE cl){y:Str}{c:bj}(h:cl.lookup y=E c):I.cells.lookup y=E c:=k.mem _ (PySem.mem_of_lookup h)
theorem bZ.inner {x:Str}{cl:List (Str×bj)}{m:Str→Option aj}{z:aj}
 (k:pO I ay scope x fZ iE cl)(r:bZ P B I ah ay ρ H loc s)(ew:bQ∉ρ)(bl:B.h₀.get? bQ=none)(hf:bQ∉ah)(ns:s.heap.Ns bQ m)(hm:m x=E z)(fV:aN ρ s.heap v z):
 bZ P B (compEnvC scope cl bQ I) (bQ::cl.map (·.2)) (iE++[x]) ρ H (rI loc fZ v) s:=by
 have ZH:(compEnvC scope cl bQ I).kindOf x=E .local:=GU k.aS;have IV:∀c∈cl.map (·.2),c∈ah:=fun c aI=>by refine dn (List.mem_map.mp aI) fun p a8 b8=>?_;subst b8;exact r.cj.mW _ _ (k.mem p a8)
 refine⟨r.am,⟨k.kind,r.cj.glob,r.cj.blt,fun a aC=>?_,List.mem_cons_self,fun y c aI=>List.mem_cons_of_mem _ (List.mem_map_of_mem (f:=(·.2)) (PySem.mem_of_lookup aI)),fun i y u ct bx tF=>?_,k.nu,⟨m,ns⟩,fun y c aI=>r.cj.cl y c (k.sub aI),fun y c aI e=>hf ((show c=bQ from e)▸r.cj.mW y c (k.sub aI)),fun y Gn c R Z=>r.cj.inj y Gn c (k.sub R) (k.sub Z),k.eW⟩,fun a o e=>?_⟩
 .rcases List.mem_cons.mp aC with rfl|aC
  .exact⟨ew,t8 ns⟩
  .exact r.cj.own a (IV a aC)
 .unfold rI at bx
  by_cases hi:i<iE.length
  .rw[List.getElem?_append_left hi] at ct;rw[List.getElem?_append_left (by rw[List.length_map,k.len];exact hi),List.getElem?_map] at bx;refine dm (k.SW i y ct) fun j bS=>yy bS fun cn co aB kD ar=>?_;clear bS;rw[cn] at bx;have X5:loc[j]? =E u:=by
    have e:loc.getD j .aR=u:=fc bx;rw[List.getD_eq_getElem?_getD] at e;cases q:loc[j]? with
    |none=>rw[q] at e;exact absurd e.symm tF
    |some ahq=>rw[q] at e;exact congrArg E e
   refine dn (r.cj.k6 j y u co X5 tF) fun gB ade bU=>⟨gB,?_,bU⟩;rcases ade with⟨q,_⟩|⟨_,c,o,e,ax,hd⟩|⟨q,_⟩
   .rw[aB] at q;cases q
   .exact .inr (.inl ⟨kD,c,o,ar.trans e,ax,hd⟩)
   .rw[aB] at q;cases q
  .have wd:i=iE.length:=by have:=(List.getElem?_eq_some_iff.mp ct).1;rw[List.length_append] at this;simp only[List.length_singleton] at this;lia
   subst wd;rw[List.getElem?_append_right (kN _),xU] at ct;rw[List.getElem?_append_right (by rw[List.length_map,k.len];exact kN _),List.length_map,k.len,xU] at bx;obtain rfl:=cE ct;obtain rfl:=cE bx;exact⟨z,.inl ⟨ZH,m,ns,hm⟩,fV⟩
 .refine hJ (r.bs a o e) fun g1 bL g3=>⟨g1,bL,fun q=>?_⟩;rcases List.mem_cons.mp q with q|q
  .rw[q,bl] at e;exact c5 e
  .exact g3 (IV a q)
theorem none_of (aB:∀b o,h.get? b=E o→h'.get? b=E o)(e:h'.get? a=none):h.get? a=none:=Ec aB a e
structure Out (B:gD)(ah:List bj)(s1:aQ)(aG:bj):Prop where
 f:aG∉ah
 b:B.h₀.get? aG=none
 s:s1.heap.get? aG=none
theorem Out.of (r:bZ P B I ah ay ρ H loc s){aG:bj}(e:s.heap.get? aG=none):Out B ah s aG:=by
 refine⟨fun q=>(r.vN aG q).elim fun o g=>?_,?_,e⟩
 .have:=g.1;rw[e] at this;exact hj this
 .cases q:B.h₀.get? aG with
  |none=>rfl
  |some o=>exact hj (e.symm.trans (r.bs aG o q).1)
structure oR (P:db)(B:gD)(I:Env)(ah:List bj)(ay:List Str)(loc:List V)(bP:List bj)(s1:aQ)(bQ:bj)(aV:List bj)(bp:List an)(s':aQ)(b6:List V)(xs:List aj)(kr:Nat):Prop where
 r:bZ P B I ah ay aV bp loc s'
 st:Step [] bP s1 aV s'
 ew:bQ∉aV
 ma:s'.heap.get? bQ=E (listOf xs.toArray kr)
 xq:bJ aV s'.heap b6 xs
section
variable {s1:aQ}
theorem oR.but (m:oR P B I ah ay loc bP s1 bQ aV bp s' b6 xs kr){aG:bj}(Q5:aG≠bQ)(kX:aG∉aV)(o:Out B ah s1 aG)(eF:∀o,(∃xs n,o.data=.seq xs n)→s'.heap.get? aG≠E o)
 (aE:∀a o,a≠aG→s'.heap.get? a=E o→h'.get? a=E o)(t:Nat):oR P B I ah ay loc bP s1 bQ aV bp {s' with heap:=h',toks:=t} b6 xs kr:=
 ⟨m.r.but aE kX o.f o.b eF t,m.st.but o.s aE t,m.ew,aE bQ _ Q5.symm m.ma,m.xq.mono (.but aE fun xs n=>eF _ ⟨xs.toArray,n,rfl⟩) m.r.am.di⟩
theorem oR.step (m:oR P B I ah ay loc bP s1 bQ aV bp s' b6 xs kr){be:List an}{s2:aQ}(am:bz P cu be s2.heap)(st:Step [] aV s' cu s2)(hZ:∀{a:bj} {o:Obj},a∉aV→s'.heap.get? a=E o→a∉cu):
 oR P B I ah ay loc bP s1 bQ cu be s2 b6 xs kr:=
 ⟨m.r.step st am,m.st.trans st,hZ m.ew m.ma,st.keep bQ _ m.ma m.ew (fun h=>nomatch h),m.xq.mono st.fU m.r.am.di⟩
end
theorem Step.fresh {s2:aQ}(st:Step ah ρ s cu s2){o:Obj}(aC:a∉ρ)(e:s.heap.get? a=E o):a∉cu:=fun q=>by
 refine st.new.elim fun n g=>?_;rw[g.1] at q;rcases List.mem_append.mp q with q|q
 .exact aC q
 .exact hj ((g.2 a q).symm.trans e)
theorem Nm {b2:bj}{m:Str→Option aj}(aL:h.Ns b2 m)(o:Obj)(hd:∃xs n,o.data=.seq xs n):h.get? b2≠E o:=fun e=>by
 exact(t8 aL).elim fun o' g=>hd.elim fun ys bL=>bL.elim fun n bL=>g.2 ys n<|fc (g.1.symm.trans e)▸bL
theorem An {b2:bj}{m:Str→Option aj}(aL:h.Ns b2 m)(aB:∀o,h.get? b2=E o→h'.get? b2=E o):h'.Ns b2 m:=
 aL.elim fun o g=>g.elim fun es g=>g.elim fun ep g=>⟨o,es,ep,aB o g.1,g.2⟩
theorem oR.done {s1:aQ}(m:oR w.params B I ah ay loc bP s1 bQ aV bp s' b6 xs kr)(dN:s1.heap.get? bQ=none):
 bz w.params (aV++[bQ]) (bp++[fp b6]) s'.heap∧Step [] bP s1 (aV++[bQ]) s':=by
 refine⟨m.r.am.take m.ew m.ma (tY m.xq.grow kr),m.st.new.elim fun n g=>⟨⟨n++[bQ],by rw[g.1,List.append_assoc],fun a aC=>?_⟩,m.st.keep,m.st.live,m.st.gens,m.st.os⟩⟩;rcases List.mem_append.mp aC with q|q
 .exact g.2 a q
 .rw[List.mem_singleton.mp q];exact dN
def tg (C:hT)(B:gD)(loc:List V)(fZ:List Nat)(fB gZ:aG)(v:V)(H:List an)(k:Option V→List an→Prop):Prop:=
 iO C B.G (rI loc fZ v) fB (cF C B.G (rI loc fZ v) fB) H fun b be=>ao b (cF C B.G (rI loc fZ v) gZ be fun r ei=>k (E r) ei) (k dk be)
inductive G9 (P:db)(B:gD)(I:Env)(ah:List bj)(ay:List Str)(loc:List V)(bP:List bj)(s1:aQ)(bQ aM b2:bj)(k:Src)(go:Nat→Nat→List V→List an→List V→Prop)(len n:Nat)(s':aQ):Prop
 |mk (i:Nat) (aV:List bj) (bp:List an) (b6:List V) (xs:List aj) (kr:Nat) (m:Str→Option aj) (bX:List V):oR P B I ah ay loc bP s1 bQ aV bp s' b6 xs kr→aM∉aV→b2∉aV→gb k aM i s'.heap→jZ P aV s'.heap k bX→
  b6.length+n≤len→s'.heap.Ns b2 m→go n i bX bp b6→G9 P B I ah ay loc bP s1 bQ aM b2 k go len n s'
theorem SK {x:Str}{y3:Env}{k:Src}{i:Nat}{b6:aj}{Q:g0→aQ→Prop}(iS:Nat→aQ→Prop)(n:Nat)(h:iS n s)(bW:gb k aM i s.heap)
 (turn:∀n s,iS n s→aO O w A (pyNext (.ref aM)) (fun r bB=>match r with
  |none=>Q .next bB
  |some v=>aO O w A (letOwnedTupleGo (.Name x nj) (.ref aM) v) (fun _ bB=>aO O w A (assign (.Name x nj) y3 v) (fun _ eh=>aO O w A (uB fM y3) (fun ok jQ=>
   if ok=true then aO O w A (eval gT y3) (fun x sr=>aO O w A (call (.builtin "list.append") [b6,x]) (fun _ AY=>∃m,m<n∧iS m AY) sr) jQ
   else∃m,m<n∧iS m jQ) eh) bB) bB) s):codeN O w A (.compStart (.ListComp gT [⟨.Name x nj,iter,fM,0⟩] scope pos) 0 (.ref aM) b6 y3) Q s:=
 SM (IN iS turn n h) (acD bW (IN iS turn n h))
theorem I0 {x:Str}{Td:Pos}{gZ jU fB:aG}{cl:List (Str×bj)}{use:Option (aj→Sem Unit)}
 (mn:pO I ay scope x fZ iE cl)(bC:A.handled=none)(aL:oe iter=true)(hi:nO O w B C A I ay iter jU)
 (he:∀bQ,cV O w B C A (compEnvC scope cl bQ I) (iE++[x]) gT gZ)
 (aI:(fM=[]∧fB=.bool true)∨∃c,fM=[c]∧∀bQ,ST O w B C A (compEnvC scope cl bQ I) (iE++[x]) c fB)
 {Q:bI}{sU:aj→aQ→Prop}(h:cF C B.G loc (.comp fZ gZ jU fB) H Q)(r:bZ w.params B I ah ay ρ H loc s)
  (fin:∀bp aV bQ b2 s' b6,Q (.ref bp.length) (bp++[fp b6])→bz w.params (aV++[bQ]) (bp++[fp b6]) s'.heap→Step [] ρ s (aV++[bQ]) s'→(∃m,s'.heap.Ns b2 m)→b2∉aV++[bQ]→s.heap.get? b2=none→
   IY O w A use sU (.ref bQ) b2 s'):
  aO O w A (comprehension (.ListComp gT [⟨.Name x nj,iter,fM,0⟩] scope pos) scope I Td (newList []) false (eval iter I) use) sU s:=by
  refine aaJ rfl (JJ aL I) mn.S3 mn.kind mn.names<|hi ah loc H ρ s _ _ h r fun af vs aq bP k aM s1 s2 R cq ck bk bt mj ab ext lx keep=>?_
  have rC:=j2 R;have qp:=rC.1;replace rC:j3 (tg C B loc fZ fB gZ) (hk af vs aq) (vs.length+1) 0 vs aq [] (fun b6 be=>Q (.ref be.length) (be++[fp b6])):=rC.2;clear R hi h;have cJ:=r.step bk bt;refine cU (jB (hd:=by size_fits) ?_);refine cU (wpAny_newFunctionEnv mn.cell (by intro y ct;simp at ct) (fun bv wk tE=>?_) mn.kind);dsimp only at wk tE⊢;generalize ew:s2.heap.objs.size=bQ at wk tE⊢;generalize m4:(s2.heap.push {cls:=.type "list",dict:=none,data:=.seq ([]:List aj).toArray}).objs.size=b2 at wk tE⊢;have B6:b2=bQ+1:=by rw[←m4,x2,ew]
  have x8:bQ≠b2:=B6▸(Nat.succ_ne_self bQ).symm;have ku:s2.heap.get? bQ=none:=ew▸kA _;have iI:s2.heap.get? b2=none:=by
   cases q:s2.heap.get? b2 with
   |none=>rfl
   |some o=>exact absurd (ia q) (mL.mpr (by rw[ew,B6];exact Nat.le_succ bQ))
  have t9:∀a o,s2.heap.get? a=E o→bv.get? a=E o:=fun a o e=>
   tE.extBut a o (fun q=>hj (iI.symm.trans (q▸e))) (fv _ (fv _ e))
  have Ij:bv.get? bQ=E (listOf ([]:List aj).toArray 0):=tE.extBut bQ _ x8 (fv _ (ew▸g5 _ rfl));clear tE ew m4 B6;have HW:∀{a},s2.heap.get? a=none→aM≠a:=fun e q=>mj.ex.elim fun o T2=>hj (e.symm.trans (q▸T2));have B0:=HW ku;have B1:=HW iI;have dN:s1.heap.get? bQ=none:=none_of ext ku;have n7:s1.heap.get? b2=none:=none_of ext iI;have mq:s.heap.get? b2=none:=bk.live b2 n7;have Nu:=Out.of cJ ab;have ahm:=Out.of cJ dN;have EM:=Out.of cJ n7;have DT:∀a o,s1.heap.get? a=E o→bv.get? a=E o:=fun a o e=>t9 a o (ext a o e);refine SK (k:=k) (i:=0) (G9 w.params B I ah ay loc bP s1 bQ aM b2 k (fun n i bX bp b6=>j3 (tg C B loc fZ fB gZ) (hk af vs aq) n i bX bp b6 (fun b6 be=>Q (.ref be.length) (be++[fp b6]))) (vs.length+1)) (vs.length+1) ?_ (mj.keep fun o e=>t9 aM o e) fun n s' vT=>?_
  .have fq:∀t,Step [] bP s1 bP {s2 with heap:=bv,toks:=t}:=fun t=>⟨⟨[],(List.append_nil _).symm,fun _ h=>nomatch h⟩,fun a o e _ _=>DT a o e,fun a e=>none_of DT e,ck.gens.trans bk.gens.symm,ck.os.trans bk.os.symm⟩
   exact .mk 0 bP aq [] [] 0 _ vs ⟨cJ.step (fq _) (cq.grow t9),fq _,o3 bt dN,Ij,.nil⟩ (o3 bt ab) (o3 bt n7) (mj.keep fun o e=>t9 aM o e)
    (lx.ext cq (o3 bt dN) (fun a o _ e=>t9 a o e) (fun o _ e=>by rw[ku] at e;exact c5 e)) (by rw[List.length_nil,GK];exact kN _) wk rC
  clear rC cq t9 Ij DT wk mj lx ku iI ext;cases vT with|mk i aV bp b6 xs kr m bX mid lw tA bW J6 zi DE b5=>
  induction n using h8 with
  |zero=>exact ft b5
  |succ n=>
  replace b5:(match bX[i]? with
   |dk=>Q (.ref bp.length) (bp++[fp b6])
   |some v=>tg C B loc fZ fB gZ v bp fun r HV=>hk af vs aq HV fun cc=>j3 (tg C B loc fZ fB gZ) (hk af vs aq) n (i+1) cc HV (match r with|some x=>b6++[x]|dk=>b6) (fun b6 be=>Q (.ref be.length) (be++[fp b6]))):=b5
  refine cU (Am bC bW J6 (fun v z h' dj co fV m6 eK=>?_) fun m5 h' ex=>?_)
  .rw[co] at b5;have Ew:∀o,(∃xs n,o.data=.seq xs n)→s'.heap.get? aM≠E o:=fun o hd=>bW.not o (.inl hd);have ur:∀a o,a≠aM→s'.heap.get? a=E o→h'.get? a=E o:=fun a o eF e=>(eK.2 a eF).trans e;have El:=mid.but B0 lw Nu Ew ur dj;have P2:=fV.mono (.but ur fun xs n=>Ew _ ⟨xs.toArray,n,rfl⟩) mid.r.am.di;have zp:h'.Ns b2 m:=DE.sameBut eK B1.symm;clear eK ur Ew mid fV DE bW J6 co;refine cU (NQ m6 (cU (xY ?_)));refine wpAny_storeName_local (env:=compEnvC scope cl b2 I) (GU mn.aS) zp (fun az tC OB=>?_) (by show(scope.kind== .class||(scope.kind== .module&&_))=false;rw[mn.kind];rfl);have AH:∀a o,a≠b2→h'.get? a=E o→az.get? a=E o:=fun a o eF e=>(OB.2 a eF).trans e;have Af:=El.but x8.symm tA EM (Nm zp) AH (dj+1);have agU:=P2.mono (.but AH fun xs n=>Nm zp _ ⟨xs.toArray,n,rfl⟩) El.r.am.di;have KQ:gb k aM (i+1) az:=m6.keep fun o e=>AH aM o B1 e;clear OB AH El P2 zp m6;have Oh:bZ w.params B (compEnvC scope cl b2 I) (b2::cl.map (·.2)) (iE++[x]) aV bp (rI loc fZ v) {s' with heap:=az,toks:=dj+1}:=bZ.inner mn Af.r tA EM.b EM.f tC (by simp) agU
   have Pq:∀{B5:Bool→aQ→Prop},(∀b be cu s2,ao b (cF C B.G (rI loc fZ v) gZ be fun r ei=>hk af vs aq ei fun cc=>j3 (tg C B loc fZ fB gZ) (hk af vs aq) n (i+1) cc ei (b6++[r]) (fun b6 be=>Q (.ref be.length) (be++[fp b6])))
    (hk af vs aq be fun cc=>j3 (tg C B loc fZ fB gZ) (hk af vs aq) n (i+1) cc be b6 (fun b6 be=>Q (.ref be.length) (be++[fp b6])))→
    bz w.params cu be s2.heap→Step [] aV {s' with heap:=az,toks:=dj+1} cu s2→B5 b s2)→aO O w A (uB fM (compEnvC scope cl b2 I)) B5 {s' with heap:=az,toks:=dj+1}:=fun {B5} Mf=>by
    rcases aI with g|g
    .refine b7 g fun c6 cg=>?_;clear g;subst c6;subst cg;exact af7 (Mf true bp aV _ b5 Af.r.am (.refl _ _ _))
    .refine g.elim fun c g=>?_;cases g.1;exact af8 (g.2 b2 _ _ bp aV _ _ _ b5 Oh fun b be cu s2 Z cq ck=>Mf b be cu s2 Z cq ck)
   refine Pq fun b be cu s4 Z n3 kg=>?_;clear Pq b5;have abf:=KQ.ex;have Nn:∀{cu:List bj} {s2:aQ},Step [] aV {s' with heap:=az,toks:=dj+1} cu s2→aM∉cu∧b2∉cu∧gb k aM (i+1) s2.heap:=fun st=>
    ⟨abf.elim fun o e=>st.fresh lw e,tC.elim fun o g=>g.elim fun es g=>g.elim fun ep g=>st.fresh tA g.1,KQ.keep fun o e=>st.keep aM o e lw (fun h=>nomatch h)⟩
   induction b using eo with
   |false=>have ML:=Af.step n3 kg kg.fresh;have Er:=Nn kg;exact(keep [] cu be s4 _ (fun a aC=>nomatch aC) n3 ML.st Z).elim fun sA g=>⟨n,jx n,.mk (i+1) cu be b6 xs kr _ sA ML Er.1 Er.2.1 Er.2.2 g.2 (Nat.le_of_succ_le zi) (An tC fun o e=>kg.keep b2 _ e tA (fun h=>nomatch h)) g.1⟩
   |true=>
    refine he b2 _ _ be cu s4 _ _ Z (Oh.step kg n3) fun u vk uQ y s5 gV lB c7 ux=>?_;have AT:=kg.trans ux;have rT:=Af.step lB AT AT.fresh;have Es:=Nn AT;have abe:=An tC fun o e=>AT.keep b2 _ e tA (fun h=>nomatch h);refine cU (Iq rT.ma (pa (by rw[←rT.xq.length];lia)) fun n1 kv adM=>?_);have eK:∀a o,a≠bQ→s5.heap.get? a=E o→n1.get? a=E o:=fun a o eF e=>(adM.2 a eF).trans e;have NS:eL uQ uQ s5.heap n1:=.but eK (EK rT.ma);have FK:Step [] bP s1 uQ {s5 with heap:=n1}:=rT.st.but dN eK s5.toks
    have Kq:bz w.params uQ vk n1:=lB.same (fun a aC o e=>eK a o (fun q=>rT.ew (q▸aC)) e) NS;exact(keep [] uQ vk {s5 with heap:=n1} _ (fun a aC=>nomatch aC) Kq FK gV).elim fun sA g=>⟨n,jx n,.mk (i+1) uQ vk (b6++[u]) (xs++[y]) (kr+1) _ sA ⟨cJ.step FK Kq,FK,rT.ew,kv,(bJ.snoc c7 rT.xq).mono NS lB.di⟩ Es.1 Es.2.1 (Es.2.2.keep fun o e=>eK aM o B0 e) g.2
     (by rw[List.length_append];show b6.length+1+n≤_;lia) (An abe fun o e=>eK b2 o x8.symm e) g.1⟩
  .rw[m5] at b5;have ur:∀a o,a≠aM→s'.heap.get? a=E o→h'.get? a=E o:=fun a o eF e=>ex a o eF e;have g:=(mid.but B0 lw Nu (fun o hd=>bW.not o (.inl hd)) ur s'.toks).done dN;exact fin bp aV bQ b2 _ b6 b5 g.1 (bk.trans g.2) ⟨m,An DE fun o e=>ur b2 o B1.symm e⟩ (fun q=>by
    rcases List.mem_append.mp q with q|q
    .exact tA q
    .exact x8 (List.mem_singleton.mp q).symm) mq
theorem ad0 {x:Str}{gZ jU fB:aG}{cl:List (Str×bj)}
 (mn:pO I ay scope x fZ iE cl)(bC:A.handled=none)(aL:oe iter=true)(hi:nO O w B C A I ay iter jU)
 (he:∀bQ,cV O w B C A (compEnvC scope cl bQ I) (iE++[x]) gT gZ)
 (aI:(fM=[]∧fB=.bool true)∨∃c,fM=[c]∧∀bQ,ST O w B C A (compEnvC scope cl bQ I) (iE++[x]) c fB):
 cV O w B C A I ay (.ListComp gT [⟨.Name x nj,iter,fM,0⟩] scope pos) (.comp fZ gZ jU fB):=fun ah loc H ρ s Q K h r q=>by
 rw[eval_ListComp];refine I0 mn bC aL hi he aI h r fun bp aV bQ b2 s' b6 a9 am st ⟨m,hm⟩ m4 mq=>⟨m,hm,fun h' eK=>?_⟩;have aE:∀a o,a≠b2→s'.heap.get? a=E o→h'.get? a=E o:=fun a o eF e=>(eK.2 a eF).trans e;have hB:∀o,(∃xs n,o=gN xs n)→s'.heap.get? b2≠E o:=fun o cW e=>by refine dn (t8 hm) fun o' cL a9=>?_;rw[e] at cL;obtain rfl:=cE cL;exact dB (sy cW) fun ys n hd=>a9 _ _ hd
 have p:eL (aV++[bQ]) (aV++[bQ]) s'.heap h':=⟨⟨[],by simp,fun _ h=>nomatch h⟩,fun a o e aC hd=>aE a o (fun q=>hB o hd (q▸e)) e⟩;have cq:bz w.params (aV++[bQ]) (bp++[fp b6]) h':=am.other (fun a aC=>eK.2 a fun q=>m4 (q▸aC)) p;refine q _ _ _ _ {s' with heap:=h'} a9 cq (.ref ?_) (st.but mq aE s'.toks)
 have:=am.len;simp only[List.length_append,List.length_singleton,Qq] at this;rw[←this,List.getElem?_append_right (kN _)];simp
theorem ae7 {x:Str}{gZ jU fB:aG}{cl:List (Str×bj)}{y:Str}{i:Nat}
 (mn:pO I ay scope x fZ iE cl)(bC:A.handled=none)(aL:oe iter=true)(hi:nO O w B C A I ay iter jU)
 (he:∀bQ,cV O w B C A (compEnvC scope cl bQ I) (iE++[x]) gT gZ)
 (aI:(fM=[]∧fB=.bool true)∨∃c,fM=[c]∧∀bQ,ST O w B C A (compEnvC scope cl bQ I) (iE++[x]) c fB)
 (ct:ay[i]? =E y)(c0:I.kindOf y=E .local)(DH:swapsWith (.ListComp gT [⟨.Name x nj,iter,fM,0⟩] scope pos) (E (.Name y p)) q.line I=pure true):
 hI O w B C A I ay (.Assign [.Name y p] (.ListComp gT [⟨.Name x nj,iter,fM,0⟩] scope pos) q) (.asg i (.comp fZ gZ jU fB)):=fun ah loc H ρ s Q K h r k=>by
 rw[exec_Assign_Name_used _ _ _ _ DH];refine e9 (b0 ?_);refine(?_:aO O w A (comprehension _ scope I _ (newList []) false (eval iter I) (E (assign (.Name y p) I))>>=fun _=>pure ()) _ s);refine b0 (I0 (Q:=fun v bp=>Q .next (loc.set i v) bp) mn bC aL hi he aI h r fun bp aV bQ b2 s' b6 a9 am st ⟨m,hm⟩ m4 mq=>?_);have cJ:=r.step st am;have len:aV.length=bp.length:=by
  have:=am.len
  simpa only[List.length_append,List.length_singleton,Qq] using this
 have agI:aN (aV++[bQ]) s'.heap (.ref bp.length) (.ref bQ):=.ref (by rw[←len,List.getElem?_append_right (kN _)];simp);have HZ:b2∉ah:=fun a9=>by refine dn (r.vN b2 a9) fun o e b8=>?_;clear b8;rw[mq] at e;exact c5 e
 refine cU (xY (uy ct (.inl c0) cJ agI fun s2 dx ck _=>mb hm fun o es ep bS=>b7 bS fun e hd=>?_));clear bS hm;have wj:s2.heap.Ns b2 m:=⟨o,es,ep,ck.keep b2 o e m4 HZ,hd⟩;refine⟨m,wj,fun h' eK=>cM (cM ?_)⟩;have aE:∀a o,a≠b2→s2.heap.get? a=E o→h'.get? a=E o:=fun a o eF e=>(eK.2 a eF).trans e;have hD:bZ w.params B I ah ay (aV++[bQ]) (bp++[fp b6]) (loc.set i (.ref bp.length)) {s2 with heap:=h',toks:=s2.toks}:=dx.but aE m4 HZ (by
  cases q:B.h₀.get? b2 with
  |none=>rfl
  |some o=>rw[(r.bs b2 o q).1] at mq;exact pA mq) (fun o ⟨ys,n,hd⟩ e=>by refine dn (t8 wj) fun o' cL a9=>?_;rw[e] at cL;obtain rfl:=cE cL;exact a9 _ _ hd) s2.toks
 exact k .next _ _ _ .next _ a9 hD trivial ((st.up.trans ck).but mq aE s2.toks)
section
open PySem.SeqAt
theorem L9 {f:V→V→Bool}{aA:List V→List V→Prop}(bl:aA [] [])(R:∀a r b t,f a b=true→qz f r t=true→aA r t→aA (a::r) (b::t)):∀{cc:List V},qz f vs cc=true→aA vs cc:=by
 induction vs with
 |nil=>intro cc h;induction cc using List.casesOn with
  |nil=>exact bl
  |cons=>exact hA h
 |cons a r aF=>intro cc h;induction cc using List.casesOn with
  |nil=>exact hA h
  |cons b t=>have h:=gC.mp h;exact R _ _ _ _ h.1 h.2 (aF h.2)
structure HY (p:V→Bool)(vs cc:List V):Prop where
 l:vs.all p=true
 r:cc.all p=true
 len:vs.length=cc.length
theorem zW {f:V→V→Bool}{p:V→Bool}(hf:∀a b,f a b=true→p a=true∧p b=true)(h:qz f vs cc=true):HY p vs cc:=
 L9 (aA:=HY p) ⟨rfl,rfl,rfl⟩ (fun a r b t h _ k=>⟨gC.mpr ⟨(hf a b h).1,k.l⟩,gC.mpr ⟨(hf a b h).2,k.r⟩,congrArg Nat.succ k.len⟩) h
theorem wD {a b:V}{aA:Nat→V→V→Prop}(h:mo n a b=true)(hi:∀n x y,aA n (.int x) (.int y))(cW:∀m vs cc,qz (mo m) vs cc=true→aA (m+1) (.tup vs) (.tup cc)):aA n a b:=by
 induction n using h8 with
 |zero=>induction a using V.casesOn with
  |int x=>induction b using V.casesOn with
   |int y=>exact hi _ x y
   |_=>exact hA h
  |_=>exact hA h
 |succ m=>induction a using V.casesOn with
  |int x=>induction b using V.casesOn with
   |int y=>exact hi _ x y
   |_=>exact hA h
  |tup vs=>induction b using V.casesOn with
   |tup cc=>exact cW m vs cc h
   |_=>exact hA h
  |_=>exact hA h
theorem zX (n:Nat):∀(a b:V),mo n a b=true→bT n a=true∧bT n b=true:=by
 induction n with
 |zero=>exact fun a b h=>wD (aA:=fun n a b=>n=0→bT n a=true∧bT n b=true) h (fun n x y e=>by subst e;exact⟨rfl,rfl⟩) (fun m _ _ _ e=>nomatch e) rfl
 |succ n aF=>exact fun a b h=>wD (aA:=fun k a b=>k=n+1→bT k a=true∧bT k b=true) h (fun k x y e=>by subst e;exact⟨rfl,rfl⟩) (fun m vs cc h e=>by cases e;exact⟨(zW aF h).l,(zW aF h).r⟩) rfl
theorem My (n:Nat)(A:fu)(i j:Int)(x y:aj)(s:aQ)(Q b1:aj→aQ→Prop)(bH:aN ρ s.heap (.int i) x)(bm:aN ρ s.heap (.int j) y)(h:Q (.bool (ltV n (.int i) (.int j))) s):wpAny (model O w) A (richCompare .Lt x y) Q b1 s:=by refine bH.fg ?_;intro t;refine bm.fg ?_;intro u;exact wpAny_lt_int (by cases n<;>exact h)
inductive rf (ρ:List bj)(s:aQ)(n:Nat)(q:Bool):List (aj×aj)→aQ→Prop
 |mk (mF oB:List V) (xA kl:List aj):xA.length=kl.length→bJ ρ s.heap mF xA→bJ ρ s.heap oB kl→qz (mo n) mF oB=true→i3 (bn n) (ltV n) mF oB=q→rf ρ s n q (List.zip xA kl) s
theorem rf.step {q:Bool}{fa p2:aj}{c2:List (aj×aj)}{P:Prop}(h:rf ρ s n q ((fa,p2)::c2) s')
 (k:∀v u mF oB,s'=s→aN ρ s.heap v fa→aN ρ s.heap u p2→mo n v u=true→(match bn n v u with|true=>i3 (bn n) (ltV n) mF oB|false=>ltV n v u)=q→(i3 (bn n) (ltV n) mF oB=q→rf ρ s n q c2 s)→P):P:=by
 generalize hz:(fa,p2)::c2=zs at h;cases h with|mk mF oB xA kl ar dQ nt aB ed=>
  cases dQ with
  |nil=>cases hz
  |cons a1 dQ=>cases nt with
   |nil=>cases hz
   |cons a2 nt=>cases hz;have aB:=gC.mp aB;exact k _ _ _ _ rfl a1 a2 aB.1 ed fun h=>.mk _ _ _ _ (lY ar) dQ nt aB.2 h
theorem rf.fin {q:Bool}(h:rf ρ s n q [] s'):s'=s∧q=false:=by
 generalize hz:[]=zs at h;cases h with|mk mF oB xA kl ar dQ nt aB ed=>
  cases dQ with
  |nil=>exact⟨rfl,by rw[←ed];clear nt aB ed;cases oB<;>rfl⟩
  |cons a1 dQ=>clear aB ed;cases nt with
   |nil=>cases ar
   |cons a2 nt=>cases hz
theorem ZZ:Builtin.Tuple.tupleCompareSizes .Lt n n=.bool false:=by simp[Builtin.Tuple.tupleCompareSizes]
theorem Z0 (n:Nat):∀(A:fu) (a b:V) (x y:aj) (s:aQ) (Q b1:aj→aQ→Prop),mo n a b=true→aN ρ s.heap a x→aN ρ s.heap b y→A.units+n<cLine→Q (.bool (ltV n a b)) s→wpAny (model O w) A (richCompare .Lt x y) Q b1 s:=by
 induction n with
 |zero=>intro A a b x y s Q b1 h bH bm bx;exact wD (aA:=fun n a b=>n=0→aN ρ s.heap a x→aN ρ s.heap b y→Q (.bool (ltV 0 a b)) s→wpAny (model O w) A (richCompare .Lt x y) Q b1 s) h (fun _ i j _ bH bm q=>My 0 A i j x y s Q b1 bH bm q) (fun m _ _ _ e=>nomatch e) rfl bH bm
 |succ n aF=>
  intro A a b x y s Q b1 h bH bm bx;refine wD (aA:=fun k a b=>k=n+1→aN ρ s.heap a x→aN ρ s.heap b y→Q (.bool (ltV (n+1) a b)) s→wpAny (model O w) A (richCompare .Lt x y) Q b1 s) h (fun _ i j _ bH bm q=>My (n+1) A i j x y s Q b1 bH bm q) (fun m vs cc h e bH bm q=>?_) rfl bH bm;cases e;replace q:Q (.bool (i3 (bn n) (ltV n) vs cc)) s:=q;refine bH.gM ?_;intro l xs ba aW cJ;refine bm.gM ?_;intro m ys bK aJ dx;clear bH bm;have cr:=(isTup aW).typeIs;have Dh:=(isTup aJ).typeIs;have aL:A.in1.units+n<cLine:=zz bx;have len:xs.length=ys.length:=cJ.length.symm.trans ((zW (zX n) h).len.trans dx.length);refine Qw (op:=.Lt) (T:="tuple") cr Dh PySem.F.slot_tuple_lt (hp PySem.F.slot_tuple_lt cr PySem.F.entry_tuple_lt ?_ (PySem.F.args_tuple_lt_2 _ _)) (mK (sH _ _) bx);refine(?_:wpAny _ _ (isInstance (.ref m) (.type "tuple")>>=_) _ _ s);refine ae (pL Dh isSubtype_tuple_tuple (e2 d7<|ae (G2 aW rfl (ae (G2 aJ rfl ?_)))));refine ae<|u4 _ (fun c2 r s'=>r.1=none∧rf ρ s n (i3 (bn n) (ltV n) vs cc) c2 s') _ ?_ ?_ _ _ ⟨rfl,.mk vs cc xs ys len cJ dx h rfl⟩
  .intro pp c2 r s' hi;clear bH bm aW cJ aJ dx cr Dh;obtain⟨fa,p2⟩:=pp;refine hi.2.step fun v u mF oB es a1 a2 aB ed zv=>?_;clear hi;subst es;have aD:=zX n _ _ aB;refine ae (D5 n A.in1 v u fa p2 aD.1 aD.2 a1 a2 aL O w _ _ ?_);cases a9:bn n v u with
   |true=>rw[a9] at ed;exact e2 d7 (aX ⟨rfl,zv ed⟩)
   |false=>rw[a9] at ed;refine uN rfl (ae (iv (ae (aF A.in1 v u fa p2 _ _ _ aB a1 a2 aL (ae (aX (aX (aX ⟨_,rfl,by simp,?_⟩))))))));rw[←ed] at q;exact q
  .intro r s' hi;obtain⟨k5,cJ⟩:=r;have hf:=hi.2.fin;have R:k5=none:=hi.1;subst R;clear hi;cases hf.1;rw[hf.2] at q;refine aX ⟨_,rfl,?_⟩;rw[List.size_toArray,List.size_toArray,len,ZZ];exact⟨by simp,q⟩
end
noncomputable def r2 (n:Nat):KasT (Array Nat)→Bool
 |.ret a=>c1 a.size n&&a.toList.all fun i=>d3 i n
 |.ask i j k=>d3 i n&&d3 j n&&r2 n (k true)&&r2 n (k false)
theorem abr:r2 2 (oP 2)=true:=by decide+kernel
theorem abt:r2 3 (oP 3)=true:=by decide+kernel
theorem abu:r2 4 (oP 4)=true:=by decide+kernel
structure B2 (n:Nat)(a:Array Nat):Prop where
 size:a.size=n
 lt:∀i∈a.toList,i<n
theorem YK {cmp:Nat→Nat→(Bool→aQ→Prop)→aQ→Prop}{f:Nat→Nat→Bool}(aI:∀i j (C:Bool→aQ→Prop),i<n→j<n→C (f i j) s→cmp i j C s)
 (t:KasT (Array Nat))(Q:Array Nat→aQ→Prop):r2 n t=true→(B2 n (qy f t)→Q (qy f t) s)→t.kasWp cmp Q s:=by
 induction t with
 |ret a=>intro h q;have h:=gC.mp h;exact q ⟨fO h.1,fun i hi=>d4 (List.all_eq_true.mp h.2 i hi)⟩
 |ask i j k aF=>
  intro h q;have h:=gC.mp h;have R:=gC.mp h.1;have Z:=gC.mp R.1;refine aI i j _ (d4 Z.1) (d4 Z.2)<|aF (f i j) ?_ q
  cases f i j
  .exact h.2
  .exact R.2
theorem Zw (bx:A.units+n<cLine){Q:Bool→aQ→Prop}{fin:Bool}(hf:fin=false)(h:qz (mo n) vs cc=true):∀{xs ys:List aj} (i:Nat),bJ ρ s.heap vs xs→bJ ρ s.heap cc ys→Q (i3 (bn n) (ltV n) vs cc) s→
 KatLex O w A false fin Q (xs.zip ys) i s:=by
 subst hf;refine L9 (f:=mo n) (aA:=fun vs cc=>∀{xs ys:List aj} (i:Nat),bJ ρ s.heap vs xs→bJ ρ s.heap cc ys→Q (i3 (bn n) (ltV n) vs cc) s→KatLex O w A false false Q (xs.zip ys) i s) ?_ ?_ h
 .exact fun i a b q=>a.iJ (b.iJ q)
 .intro v vs u cc h _ aF xs ys i bH bm q;refine bH.gS fun _ _ a r=>bm.gS fun _ _ b t=>?_;have aD:=zX n _ _ h;refine kat_cons (D5 n A v u _ _ aD.1 aD.2 a b bx O w _ _ ?_);replace q:Q (match bn n v u with|true=>i3 (bn n) (ltV n) vs cc|false=>ltV n v u) s:=q
  cases a9:bn n v u with
  |true=>rw[a9] at q;exact kat_yes (aF (i+1) r t q)
  |false=>rw[a9] at q;exact kat_no (kat_one _ _ (Z0 n A v u _ _ s _ _ h a b bx q))
structure QD (ρ:List bj)(h:fP)(vs:List V)(v:V)(x:aj):Prop where
 rel:aN ρ h v x
 mem:v∈vs
theorem Db (r:bJ ρ s.heap vs xs){i:Nat}(h:i<vs.length):QD ρ s.heap vs (vs.getD i .none) (xs.getD i .none):=by have e:vs[i]? =E vs[i]:=List.getElem?_eq_getElem h;refine(r.at e).elim fun x g=>?_;rw[List.getD_eq_getElem?_getD,e,List.getD_eq_getElem?_getD,g.1];exact⟨g.2,List.getElem_mem h⟩
structure Ie (vs:List V):Prop where
 len:vs.length≤4
 tup:∀a∈vs,uF a=true
 tP:∀a∈vs,∀b∈vs,mo 4 a b=true
theorem uw (h:sortable vs=true):Ie vs:=by have h:=gC.mp h;have g:=fun a aC=>gC.mp (List.all_eq_true.mp h.2 a aC);exact⟨d4 h.1,fun a aC=>(g a aC).1,fun a aC=>List.all_eq_true.mp (g a aC).2⟩
theorem aeX (h:sortable vs=true):vs.length≤4∧(∀a∈vs,uF a=true)∧∀a∈vs,∀b∈vs,mo 4 a b=true:=⟨(uw h).1,(uw h).2,(uw h).3⟩
theorem RJ (bx:A.units+4<cLine)(r:bJ ρ s.heap vs xs)(ok:Ie vs){i:Nat}{C:Bool→aQ→Prop}(hi:i<vs.length)(cn:j<vs.length)
 (h:C (ltV 4 (vs.getD i .none) (vs.getD j .none)) s):kas_ask O w A (tuples' false) xs i j C s:=by
 have g1:=Db r hi;have bL:=Db r cn;unfold kas_ask;have k:=ok.tP _ g1.mem _ bL.mem;have t1:=ok.tup _ g1.mem;have bU:=g1.rel;have Gb:=bL.rel;clear g1 bL;revert h k t1 bU Gb;generalize vs.getD i .none=v;generalize vs.getD j .none=u;generalize xs.getD i .none=x;generalize xs.getD j .none=y;intro h k;revert h;refine wD (aA:=fun m v u=>m=4→C (ltV 4 v u) s→uF v=true→aN ρ s.heap v x→aN ρ s.heap u y→_) k (fun _ p q _ _ t1=>hA t1) (fun m ps ahn k em h _ bU Gb=>?_) rfl;cases em;refine bU.gM ?_;intro l zs ba eY cJ;refine Gb.gM ?_;intro iI ys bK dX dx;refine kat_lt eY rfl dX rfl (Zw (n:=3) (Br bx) ?_ k 0 cJ dx h);rw[decide_eq_false_iff_not,List.size_toArray,List.size_toArray,←cJ.length,←dx.length,(zW (zX 3) k).len];exact xR _
structure Q3 (s:aQ)(xs fF:List aj):Prop where
 PL:KatTups s.heap xs fF
 len:fF.length=xs.length
 ref:∀f∈fF,∃a k zs,f=.ref a∧s.heap.get? a=E (gN zs k)
theorem agt {aA:V→Prop}(h:uF v=true)(k:∀bX r,aA (.tup (.tup bX::r))):aA v:=by
 induction v using V.casesOn with
 |tup vs=>induction vs using List.casesOn with
  |nil=>exact hA h
  |cons a r=>induction a using V.casesOn with
   |tup bX=>exact k bX r
   |_=>exact hA h
 |_=>exact hA h
theorem agy:∀{xs:List aj},bJ ρ s.heap vs xs→(∀a∈vs,uF a=true)→∃fF,Q3 s xs fF:=by
 induction vs with
 |nil=>intro xs r _;exact r.iJ ⟨[],.nil,rfl,fun f hf=>nomatch hf⟩
 |cons v vs aF=>
  intro xs r cW;refine r.gS fun y ys a r=>?_
  .refine(aF r fun a aC=>cW a (List.mem_cons_of_mem _ aC)).elim fun fF g=>?_;have t:=cW v List.mem_cons_self;clear aF cW;revert a;refine agt (aA:=fun v=>aN ρ s.heap v y→_) t fun bX r a=>a.gM ?_;intro l zs k o cJ;revert o;refine cJ.gS fun _ _ a1 cJ=>?_
   .refine a1.gM ?_;intro iI ag6 bK dX _ o;refine⟨.ref iI::fF,KatTups.cons (f:=.ref iI) o rfl rfl (by simp) g.PL,congrArg Nat.succ g.len,fun f hf=>?_⟩;rcases List.mem_cons.mp hf with hf|hf
    .exact⟨iI,bK,ag6,hf,dX⟩
    .exact g.ref f hf
theorem aeY (r:bJ ρ s.heap vs xs)(p:List Nat)(a8:∀i∈p,i<vs.length):bJ ρ s.heap (p.map fun i=>vs.getD i .none) (p.map fun i=>xs.getD i cf):=by
 induction p with
 |nil=>exact .nil
 |cons i p aF=>exact .cons (Db r (a8 i List.mem_cons_self)).rel (aF fun j cn=>a8 j (List.mem_cons_of_mem _ cn))
theorem abv (h:2≤n)(cZ:n≤4):r2 n (oP n)=true:=by
 match n,h,cZ with
 |2,_,_=>exact abr
 |3,_,_=>exact abt
 |4,_,_=>exact abu
theorem aeV (h:vs.length<2):kf vs=vs:=by
 induction vs using List.casesOn with
 |nil=>rfl
 |cons a r=>induction r using List.casesOn with
  |nil=>rfl
  |cons b r=>exact absurd h (Nat.not_lt_of_le (Nat.le_add_left 2 r.length))
theorem aeW (h:¬vs.length<2):kf vs=(qy (fun i j=>ltV 4 (vs.getD i .none) (vs.getD j .none)) (oP vs.length)).toList.map fun i=>vs.getD i .none:=by
 induction vs using List.casesOn with
 |nil=>exact absurd (by decide:0<2) h
 |cons a r=>induction r using List.casesOn with
  |nil=>exact absurd (by decide:1<2) h
  |cons b r=>rfl
theorem Ws (xs:List aj):(arrOf (SortSt.mk' general' (xs.toArray.zip xs.toArray) #[] 7 none)).map (·.2)=xs.toArray:=by refine(?_:(xs.toArray.zip xs.toArray).map (·.2)=xs.toArray);apply Array.toList_inj.mp;rw[Array.toList_map,Array.toList_zip];exact List.map_snd_zip (kN _)
theorem Fg (h:xs.length≤4):xs.toArray.size≤sizeLine:=by rw[List.size_toArray];exact e3 h (by decide)
theorem ZE (bx:A.units+4<cLine){P:PySem.Fin→aQ→Prop}(am:bz w.params ρ H s.heap)(aC:a∉ρ)(ax:s.heap.get? a=E (seqObj "list" xs.toArray n))(r:bJ ρ s.heap vs xs)(aE:sortable vs=true)
 (h:∀h' ys c,(∀b o,b≠a→s.heap.get? b=E o→h'.get? b=E o)→h'.get? a=E (listOf ys.toArray c)→bJ ρ h' (kf vs) ys→P (.done (.ret .none)) {s with heap:=h'}):
 wpAny (model O w) A (Builtin.«list.sort» ⟨[.ref a],[]⟩) P b1 s:=by
 have ok:=uw aE;have aS:xs.length=vs.length:=r.length.symm;have cZ:xs.length≤4:=aS▸ok.len;have hB:=EK ax;refine(⟨_,get?_update_seq ax fun _=>#[]⟩:∃aW,(s.heap.update a (Obj.mapSeq fun _=>(#[]:Array aj))).get? a=E (seqObj "list" #[] aW)).elim fun aW wm=>?_;have uq:=kp s.heap a (Obj.mapSeq fun _=>(#[]:Array aj));rw[list_sort_plain];refine ae (listItems_at ax rfl (ae (GO ax rfl ?_ (Fg cZ) (jy _))));revert uq wm;generalize s.heap.update a (Obj.mapSeq fun _=>(#[]:Array aj))=R;intro wm uq;refine ae (seqEpoch_at wm rfl (ae (wpAny_newTuple ?_ (e3 cZ (by decide)))));refine ae (wpAny_newList ?_ (jy _));have bR:∀b o,b≠a→s.heap.get? b=E o→((R.push (seqObj "tuple" xs.toArray 0)).push (seqObj "list" #[] 0)).get? b=E o:=fun b o eF e=>fv _ (fv _ ((uq.2 b eF).trans e));have jN:((R.push (seqObj "tuple" xs.toArray 0)).push (seqObj "list" #[] 0)).get? a=E (seqObj "list" #[] aW):=fv _ (fv _ wm);refine ga ?_;refine(?_:wpAny (model O w) A _ P b1 {s with heap:=(R.push (seqObj "tuple" xs.toArray 0)).push (seqObj "list" #[] 0)})
 revert bR jN;generalize (R.push (seqObj "tuple" xs.toArray 0)).push (seqObj "list" #[] 0)=bv;intro bR jN;clear uq wm ax;have f5:bz w.params ρ H bv:=am.same (fun b az o e=>bR b o (fun q=>aC (q▸az)) e) (.but bR hB);have hD:bJ ρ bv vs xs:=r.mono (.but bR hB) am.di;have fin:∀(ys:List aj),bJ ρ bv (kf vs) ys→ys.length≤4→P (.done (.ret .none)) {s with heap:=bv.update a (Obj.mapSeq fun _=>ys.toArray)}:=fun ys c7 ar=>by refine(⟨_,get?_update_seq jN fun _=>ys.toArray⟩:∃dU,(bv.update a (Obj.mapSeq fun _=>ys.toArray)).get? a=E (seqObj "list" ys.toArray dU)).elim fun dU WZ=>?_;have sf:=kp bv a (Obj.mapSeq fun _=>ys.toArray);exact h _ ys dU (fun b o eF e=>(sf.2 b eF).trans (bR b o eF e)) WZ (c7.mono (.but (fun b o eF e=>(sf.2 b eF).trans e) (EK jN)) f5.di)
 dsimp only
 by_cases Z:xs.length<2
 .have ry:xs.toArray.size<2:=by rw[List.size_toArray];exact Z
  refine uN ry (ae (aX (ae ?_)));rw[if_pos ry];refine aX ?_;dsimp only;rw[Ws];refine ae (seqEpoch_at jN rfl (ae (GO jN rfl ?_ (jy _) (Bq (Fg cZ)))));exact e2 wU (aX (fin xs ((aeV (aS▸Z)).symm▸hD) cZ))
 .have ry:¬xs.toArray.size<2:=by rw[List.size_toArray];exact Z
  have De:=Nat.le_of_not_lt Z;refine(agy (s:={s with heap:=bv}) hD ok.tup).elim fun fF f=>?_
  refine e2 ry (ae (kat_kind (T:=.type "tuple") f.PL (by rw[f.len];exact Nat.lt_of_succ_le (Nat.le_of_succ_le De)) (fun v co=>?_) (by decide) ?_))
  .exact(f.ref v co).elim fun b g=>g.elim fun k g=>g.elim fun zs g=>g.1▸(x4 g.2).andThen .now
  rw[if_neg ry,show(cC "tuple" !=cC "tuple")=false from by decide];have run:=YK (n:=xs.length) (s:={s with heap:=bv}) (cmp:=kas_ask O w A (tuples' false) xs) (f:=fun i j=>ltV 4 (vs.getD i .none) (vs.getD j .none)) (fun i j C hi cn h1=>RJ (s:={s with heap:=bv}) bx hD ok (aS▸hi) (aS▸cn) h1) (oP xs.length)
   (fun p s'=>s'={s with heap:=bv}∧p=qy (fun i j=>ltV 4 (vs.getD i .none) (vs.getD j .none)) (oP xs.length)∧B2 xs.length p) (abv De cZ) (fun q=>⟨rfl,rfl,q⟩)
  refine ae (sN (kat_run (Q:=fun el s'=>failedOf el=none∧∃p:Array Nat,arrOf el=p.map (kas_item (xs.toArray.zip xs.toArray))∧s'={s with heap:=bv}∧p=qy (fun i j=>ltV 4 (vs.getD i .none) (vs.getD j .none)) (oP xs.length)∧B2 xs.length p)
   rfl De (mK cZ (by decide)) (fun oh el s' a1 a2 a3 s9=>⟨a3,oh,a2,s9⟩) run) (fun r s' g=>?_) fun _ _ e=>e)
  obtain⟨⟨⟩,el⟩:=r;refine g.2.elim fun p bL=>?_;have hf:=g.1;clear g;cases bL.2.1;dsimp only at hf⊢;rw[kat_snds (vs:=xs) rfl bL.1];have NK:=bL.2.2.2;have c7:bJ ρ bv (kf vs) (p.toList.map fun i=>xs.getD i cf):=by rw[aeW (aS▸Z),←aS,←bL.2.2.1];exact aeY (s:={s with heap:=bv}) hD p.toList (fun i hi=>aS▸NK.lt i hi)
  have U:(p.toList.map fun i=>xs.getD i cf).length≤4:=by rw[List.length_map,xE,NK.size];exact cZ
  refine ae (seqEpoch_at jN rfl (ae (GO jN rfl ?_ (jy _) (Bq (Fg U)))));rw[hf];exact e2 wU (aX (fin _ c7 U))
theorem O1 (bx:A.units+20<cLine){r:aj}(am:bz w.params ρ H s.heap)(aE:sortable vs=true)
 (aI:∀{x5:fu} {b1:aj→aQ→Prop} {bZ:List aj→aQ→Prop},x5.handled=A.handled→(∀R dj xs,(∀b o,s.heap.get? b=E o→R.get? b=E o)→bJ ρ R vs xs→bZ xs {s with heap:=R,toks:=dj})→wpAny (model O w) x5 (collect r) bZ b1 s)
 (h:∀bQ h' t ys c,s.heap.get? bQ=none→(∀b o,s.heap.get? b=E o→h'.get? b=E o)→h'.get? bQ=E (listOf ys.toArray c)→bJ ρ h' (kf vs) ys→Q (.ref bQ) {s with heap:=h',toks:=t}):
 wpAny (model O w) A (call (.builtin "sorted") [r]) Q b1 s:=by
 refine Qx kind_sorted plain_sorted entry_sorted (args_sorted1 _) ?_;unfold Builtin.«sorted»;refine ae (m:=checkCount "sorted" 1 1 _) (aX ?_);refine ae (aI rfl fun R dj xs ba cJ=>ae (wpAny_newList ?_ (e3 (e3 (sI cJ.length.symm) (uw aE).len) (by decide))));have ew:(R.push (seqObj "list" xs.toArray 0)).get? R.objs.size=E (seqObj "list" xs.toArray 0):=g5 _ rfl;have bR:∀b o,R.get? b=E o→(R.push (seqObj "list" xs.toArray 0)).get? b=E o:=fun b o e=>fv _ e;have mZ:s.heap.get? R.objs.size=none:=none_of ba (kA R);revert ew bR mZ;generalize R.push (seqObj "list" xs.toArray 0)=Z;generalize R.objs.size=bQ;intro ew bR mZ;refine ae (ga (hp slot_list_sort ⟨_,ew,rfl⟩ entry_list_sort ?_ (args_list_sort _)));refine ZE (s:={s with heap:=Z,toks:=dj}) (by simp only[Around.in1_units];lia) ((am.grow ba).grow bR) (o3 am mZ) ew (cJ.mono (.grow bR) (am.grow ba).di) aE fun h' ys c gH e c7=>?_
 exact⟨_,rfl,aX ⟨_,rfl,h _ h' dj ys c mZ (fun b o ih=>gH b o (fun q=>by rw[q,mZ] at ih;exact c5 ih) (bR b o (ba b o ih))) e c7⟩⟩
theorem O2 (bx:A.units+20<cLine){l:bj}(am:bz w.params ρ H s.heap)(ax:s.heap.get? l=E (listOf xs.toArray n))(r:bJ ρ s.heap vs xs)(aE:sortable vs=true)
 (h:∀bQ h' t ys c,s.heap.get? bQ=none→(∀b o,s.heap.get? b=E o→h'.get? b=E o)→h'.get? bQ=E (listOf ys.toArray c)→bJ ρ h' (kf vs) ys→Q (.ref bQ) {s with heap:=h',toks:=t}):
 wpAny (model O w) A (call (.builtin "sorted") [.ref l]) Q b1 s:=by
 refine O1 bx am aE (fun {x5} {b1} {bZ} _ ak=>?_) h;refine collect_list (isList ax) ?_ (by rw[←r.length,By];exact e3 (uw aE).len (by decide));have eK:=kp (s.heap.push (seqObj "list" #[] 0)) s.heap.objs.size (Obj.mapSeq (· ++xs.toArray));have k:∀b o,s.heap.get? b=E o→((s.heap.push (seqObj "list" #[] 0)).update s.heap.objs.size (Obj.mapSeq (· ++xs.toArray))).get? b=E o:=fun b o e=>(eK.2 b (nz (ia e))).trans (fv _ e);exact ak _ s.toks xs k (r.mono (.grow k) am.di)
theorem R9 (bx:A.units+20<cLine):nI O w A (.builtin "sorted") .sorted:=fun vs ys H ρ s Q K h am bU hm q=>by
 refine te (h:a1 vs _) bU ?_;intro v y h c7
 induction v using V.casesOn with
 |ref l=>_
 |_=>exact ft h
 revert h;refine c7.hl ?_;intro a ar h;replace h:Fk (.ref l) H Q:=h;dsimp only[Fk] at h;generalize e:H[l]? =f7 at h
 induction f7 using ez with
 |none=>exact ft h
 |some o=>induction o using an.casesOn with
  |«list» bX=>have h:=fK h;exact(am.list ar e).elim fun xs g=>g.elim fun n g=>cU (O2 bx am g.1 g.2 h.1 fun bQ h' t ys c mZ gH cL xv=>Al am q h.2 mZ gH cL fun p=>tY xv.grow c)
  |«ints» bX=>induction bX using List.casesOn with
   |cons=>exact ft h
   |nil=>refine(am.ints ar e).elim fun xs g=>g.elim fun n g=>?_;have r:=zC (ρ:=ρ) (h:=s.heap) g.2;refine cU (O2 (vs:=[]) bx am g.1 r rfl fun bQ h' t ys c mZ gH cL xv=>?_);cases xv;exact Al am q h mZ gH cL fun p=>.ints .nil
  |_=>exact ft h
mutual
noncomputable def qO (f:Nat→Nat):V→V
 |.ref l=>.ref (f l)
 |.tup vs=>.tup (mv f vs)
 |v=>v
noncomputable def mv (f:Nat→Nat):List V→List V
 | []=>[]
 |v::vs=>qO f v::mv f vs
end
def uj (f:Nat→Nat):List (V×V)→List (V×V)
 | []=>[]
 |e::es=>(e.1,qO f e.2)::uj f es
def jP (f:Nat→Nat):an→an
 |.list vs=>.list (mv f vs)
 |.dict es n=>.dict (uj f es) n
 |.inst d=>.inst (f d)
 |o=>o
mutual
noncomputable def AC:V→List Nat
 |.ref l=>[l]
 |.tup vs=>kJ vs
 |_=>[]
noncomputable def kJ:List V→List Nat
 | []=>[]
 |v::vs=>AC v++kJ vs
end
def Oe:List (V×V)→List Nat
 | []=>[]
 |e::es=>AC e.2++Oe es
def Of:an→List Nat
 |.list vs=>kJ vs
 |.dict es _=>Oe es
 |.inst d=>[d]
 |_=>[]
def EZ:List an→List Nat
 | []=>[]
 |o::os=>Of o++EZ os
noncomputable def eV:List Nat→Nat→Bool
 | [],_=>false
 |a::r,n=>match c1 a n with|true=>true|false=>eV r n
noncomputable def iM:List Nat→Nat→Nat
 | [],_=>0
 |a::r,n=>match c1 a n with|true=>0|false=>iM r n+1
def i4:List Nat→Bool
 | []=>true
 |a::r=> !eV r a&&i4 r
def reach (H:List an):Nat→List Nat→List Nat→List Nat
 |0,_,b6=>b6
 |_+1,[],b6=>b6
 |n+1,l::t,b6=>match eV b6 l with
  |true=>reach H n t b6
  |false=>match H[l]? with
   |some o=>reach H n (Of o++t) (b6++[l])
   |dk=>reach H n t b6
def lL (p:Nat→Bool)(H:List an)(l:Nat):Bool:=match H[l]? with|some o=>hR p o|dk=>false
noncomputable def j5 (H:List an)(l:Nat):an:=H.getD l (.ints [])
noncomputable def lS:List an→List Nat→List an→List an
 |H,l::hx,o::os=>lS (H.set l o) hx os
 |H,_,_=>H
def qU (sel gW:List Nat)(m j:Nat):Nat:=match d3 j sel.length with|true=>sel.getD j 0|false=>m+iM gW j
def Zt (sel gW:List Nat)(H:List an)(r:V)(aq:List an)(K:bI):Prop:=
 ao (i4 gW&&(gW.all fun j=>dg sel.length j)&&kH (fun j=>d3 j sel.length||eV gW j) r&&(aq.take sel.length).all (hR fun j=>d3 j sel.length||eV gW j)&&gW.all (lL (fun j=>d3 j sel.length||eV gW j) aq))
  (K (qO (qU sel gW H.length) r) (lS H sel ((aq.take sel.length).map (jP (qU sel gW H.length)))++gW.map fun j=>jP (qU sel gW H.length) (j5 aq j))) False
def iq (sel:List Nat)(H:List an)(r:V)(aq:List an)(K:bI):Prop:=Zt sel ((reach aq 300 (AC r++EZ (aq.take sel.length)) []).filter fun j=>dg sel.length j) H r aq K
def CU (f:List V→List an→bI→Prop)(sel:List Nat)(vs:List V)(H:List an)(K:bI):Prop:=
 ao (i4 sel&&iL (eV sel) vs&&sel.all (lL (eV sel) H)) (f (mv (iM sel) vs) (sel.map fun l=>jP (iM sel) (j5 H l)) fun r aq=>iq sel H r aq K) False
def qb (f:List V→List an→bI→Prop)(vs:List V)(H:List an)(K:bI):Prop:=CU f (reach H 300 (kJ vs) []) vs H K
@[elab_as_elim] theorem J7 {a:Nat}{r:List Nat}{aA:Bool→Prop}(R:a=n→aA true)(Z:c1 a n=false→aA (eV r n)):aA (eV (a::r) n):=by
 refine(?_:aA (match c1 a n with|true=>true|false=>eV r n))
 cases e:c1 a n with
 |true=>exact R (fO e)
 |false=>exact Z e
theorem WU {l:List Nat}:eV l n=true→n∈l:=
 List.rec (motive:=fun l=>eV l n=true→n∈l) (fun h=>dW h) (fun a r aF=>J7 (aA:=fun b=>b=true→n∈a::r) (fun e _=>e▸List.mem_cons_self) fun _ h=>List.mem_cons_of_mem _ (aF h)) l
theorem aac {l:List Nat}:n∈l→eV l n=true:=
 List.rec (motive:=fun l=>n∈l→eV l n=true) (fun h=>nomatch h) (fun a r aF h=>J7 (aA:=fun b=>b=true) (fun _=>rfl) fun e=>(List.mem_cons.mp h).elim (fun q=>by rw[q,pJ] at e;exact j9 e) aF) l
set_option tactic.hygienic true in
theorem EW:∀{l:List Nat} {n:Nat},eV l n=true→l[iM l n]? =E n
 |a::r,n,h=>by
  unfold eV at h;unfold iM
  split at h
  .rename_i e;simp[e,fO e]
  .rename_i e;simpa [e] using EW h
theorem wW:∀{l:List Nat},i4 l=true→l.Nodup
 | [],_=>List.nodup_nil
 |a::r,h=>by unfold i4 at h;rw[fH,km] at h;exact List.nodup_cons.mpr ⟨fun hm=>(by have:=h.1;rw[aac hm] at this;exact j9 this),wW h.2⟩
theorem aN.lR {p:Nat→Bool}{f:Nat→Nat}(hf:∀(l:Nat) a,p l=true→ρ[l]? =E a→aV[f l]? =E a){x:aj}(r:aN ρ h v x):kH p v=true→aN aV h (qO f v) x:=
 aN.rec (motive_1:=fun v x _=>kH p v=true→aN aV h (qO f v) x) (motive_2:=fun vs xs _=>iL p vs=true→bJ aV h (mv f vs) xs)
  (fun _=>.none) (fun b _=>.bool b) (fun i t _=>.int i t) (fun x t e _=>.str x t e) (fun a t e _=>.bytes a t e) (fun e _ aF k=>.tup e (aF k)) (fun e k=>.ref (hf _ _ k e)) (fun _=>.nil) (fun _ _ a b k=>b4 k fun ba bK=>.cons (a ba) (b bK)) r
theorem bJ.lR {p:Nat→Bool}{f:Nat→Nat}(hf:∀(l:Nat) a,p l=true→ρ[l]? =E a→aV[f l]? =E a)(r:bJ ρ h vs xs):iL p vs=true→bJ aV h (mv f vs) xs:=
 bJ.rec (motive_1:=fun _ _ _=>True) (motive_2:=fun vs xs _=>iL p vs=true→bJ aV h (mv f vs) xs)
  trivial (fun _=>trivial) (fun _ _=>trivial) (fun _ _ _=>trivial) (fun _ _ _=>trivial) (fun _ _ _=>trivial) (fun _=>trivial) (fun _=>.nil) (fun a _ _ b k=>b4 k fun ba bK=>.cons (a.lR hf ba) (b bK)) r
theorem acH {f:Nat→Nat}(aF:∀{v:V},bT n v=true→qO f v=v)(vs:List V):vs.all (bT n)=true→mv f vs=vs:=
 List.rec (motive:=fun vs=>vs.all (bT n)=true→mv f vs=vs) (fun _=>rfl) (fun v vs k h=>b4 h fun R Z=>by show qO f v::mv f vs=_;rw[aF R,k Z]) vs
theorem acG {f:Nat→Nat}(n:Nat):∀{v:V},bT n v=true→qO f v=v:=by
 induction n with
 |zero=>intro v h;exact zD h (fun _=>rfl) (fun _=>rfl) fun m vs e _=>nomatch e
 |succ n aF=>intro v h;exact zD h (fun _=>rfl) (fun _=>rfl) fun m vs e h=>congrArg V.tup (acH aF vs (lY e▸h))
theorem de.lR {p:Nat→Bool}{f:Nat→Nat}(hf:∀(l:Nat) a,p l=true→ρ[l]? =E a→aV[f l]? =E a){xs:List c3}(r:de P ρ h es xs):(∀e∈es,bT 4 e.1=true)→pm p es=true→de P aV h (uj f es) xs:=
 de.rec (motive:=fun es xs _=>(∀e∈es,bT 4 e.1=true)→pm p es=true→de P aV h (uj f es) xs) (fun _ _=>.nil)
  (fun a b c _ aF aD q=>b4 q fun cg b8=>.cons (acG 4 (aD _ List.mem_cons_self)▸a.lR hf (NH (aD _ List.mem_cons_self))) (b.lR hf cg) c (aF (fun e he=>aD e (List.mem_cons_of_mem _ he)) b8)) r
theorem E0 {f:Nat→Nat}:∀{es:List (V×V)},(uj f es).map (·.1)=es.map (·.1)
 | []=>rfl
 |e::es=>by show e.1::(uj f es).map (·.1)=_;rw[E0];rfl
theorem eE.lR {p:Nat→Bool}{f:Nat→Nat}(hf:∀(l:Nat) a,p l=true→ρ[l]? =E a→aV[f l]? =E a){o:an}(r:eE P ρ h o ob):hR p o=true→eE P aV h (jP f o) ob:=
 eE.casesOn (motive:=fun o ob _=>hR p o=true→eE P aV h (jP f o) ob) r (fun r k=>.list (r.lR hf k)) (fun r _=>.ints r) (fun r a b k=>.dict (r.lR hf a k) (D1 E0 a) (to.mpr (by rw[E0];exact to.mp b))) (fun a b k=>.inst a (hf _ _ k b)) (fun b e _=>.cA b e) (fun b _=>.d5 b)
set_option tactic.hygienic true in
theorem NC {p:Nat→Bool}{l:Nat}(h:lL p H l=true):∃o,H[l]? =E o∧hR p o=true∧j5 H l=o:=by
 unfold lL at h
 split at h
 .rename_i o e;exact⟨o,e,h,by unfold j5;rw[List.getD_eq_getElem?_getD,e];rfl⟩
 .exact dW h
theorem bz.part (x:bz P ρ H h)(eW:i4 sel=true)(ok:sel.all (lL (eV sel) H)=true):
 bz P (sel.map fun l=>ρ.getD l 0) (sel.map fun l=>jP (iM sel) (j5 H l)) h∧(∀(l:Nat) a,eV sel l=true→ρ[l]? =E a→(sel.map fun l=>ρ.getD l 0)[iM sel l]? =E a)∧
  (∀l∈sel,ρ[l]? =E (ρ.getD l 0)):=by
 have KC:∀l∈sel,∃o a,H[l]? =E o∧ρ[l]? =E a∧hR (eV sel) o=true∧j5 H l=o:=fun l ar=>by refine gy (NC (List.all_eq_true.mp ok l ar)) fun o e k g=>?_;have ed:l<ρ.length:=x.len▸(List.getElem?_eq_some_iff.mp e).1;exact⟨o,ρ[l],e,List.getElem?_eq_getElem ed,k,g⟩
 have n0:∀{l:Nat} {a:bj},ρ[l]? =E a→ρ.getD l 0=a:=fun e=>by rw[List.getD_eq_getElem?_getD,e];rfl
 have hf:∀(l:Nat) a,eV sel l=true→ρ[l]? =E a→(sel.map fun l=>ρ.getD l 0)[iM sel l]? =E a:=fun l a ar e=>by rw[List.getElem?_map,EW ar];exact congrArg E (n0 e)
 have all:∀l∈sel,ρ[l]? =E (ρ.getD l 0):=fun l ar=>by refine oD (KC l ar) fun o a b8 e eG=>?_;clear b8 eG;rw[e,n0 e]
 refine⟨⟨by simp,?_,fun i o a ax aC=>?_⟩,hf,all⟩
 .rw[List.nodup_iff_pairwise_ne,List.pairwise_map];refine List.Pairwise.imp_of_mem (fun {i j} hi cn eF e=>eF (r0 x.eW (all i hi) (e▸all j cn))) (wW eW)
 .rw[List.getElem?_map] at ax aC;refine eB ax fun l ij=>?_;rw[ij] at aC;obtain rfl:=cE aC;refine nx (KC l (List.mem_of_getElem? ij)) fun o a aW aJ k g=>dn (x.at_ l o a aW aJ) fun ob R Z=>?_;refine⟨ob,?_,by rw[g];exact Z.lR hf k⟩;refine(?_:h.get? (ρ.getD l 0)=E ob);rw[n0 aJ];exact R
theorem OE:∀{hx:List Nat} {H os:List an},(lS H hx os).length=H.length
 | [],_,_=>by unfold lS;rfl
 |l::hx,H,[]=>rfl
 |l::hx,H,o::os=>by refine(?_:(lS (H.set l o) hx os).length=_);rw[OE,List.length_set]
theorem E8:∀{hx:List Nat} {H os:List an} {i:Nat},i∉hx→(lS H hx os)[i]? =H[i]?
 | [],_,_,_,_=>by unfold lS;rfl
 |l::hx,H,[],_,_=>rfl
 |l::hx,H,o::os,i,h=>by refine(?_:(lS (H.set l o) hx os)[i]? =_);have eF:l≠i:=fun q=>h (by rw[q];exact List.mem_cons_self);rw[E8 fun q=>h (List.mem_cons_of_mem _ q),List.getElem?_set_ne eF]
theorem OD:∀{hx:List Nat} {H os:List an} {i j:Nat} {o:an},hx.Nodup→hx[j]? =E i→os[j]? =E o→i<H.length→(lS H hx os)[i]? =E o
 | [],_,_,_,_,_,_,h,_,_=>by simp at h
 |l::hx,H,[],_,_,_,_,_,h,_=>by simp at h
 |l::hx,H,o'::os,i,0,o,eW,R,Z,hi=>by obtain rfl:=cE R;obtain rfl:=cE Z;refine(?_:(lS (H.set l o') hx os)[l]? =_);rw[E8 (List.nodup_cons.mp eW).1,List.getElem?_set_self hi]
 |l::hx,H,o'::os,i,j+1,o,eW,R,Z,hi=>by refine(?_:(lS (H.set l o') hx os)[i]? =_);exact OD (List.nodup_cons.mp eW).2 (by simpa using R) (by simpa using Z) (by rw[List.length_set];exact hi)
theorem Mn {mI:List bj}{aq:List an}{s1:aQ}{r:V}(am:bz P ρ H s.heap)(aaU:i4 sel=true)(all:∀l∈sel,ρ[l]? =E (ρ.getD l 0))(eT:mI=sel.map fun l=>ρ.getD l 0)
 (bt:bz P bP aq s1.heap)(c7:aN bP s1.heap r y)(st:Step [] mI s bP s1)(h:iq sel H r aq K)(q:∀i6 bp aV,K i6 bp→bz P aV bp s1.heap→aN aV s1.heap i6 y→Step [] ρ s aV s1→G):G:=by
 unfold iq at h;generalize ((reach aq 300 (AC r++EZ (aq.take sel.length)) []).filter fun j=>dg sel.length j)=gW at h;refine j1 h fun c h=>?_;simp only[fH] at c;refine b7 c fun c6 lp=>?_;clear c;refine b7 c6 fun iA iT=>?_;clear c6;refine b7 iA fun c6 gn=>?_;clear iA;refine b7 c6 fun dC dU=>?_;clear c6;generalize a8:(fun j=>d3 j sel.length||eV gW j)=p at gn iT lp;refine dn st.new fun rW aW aL=>?_;have mq:mI.length=sel.length:=by rw[eT,List.length_map]
 have tU:ρ.length=H.length:=am.len;have n0:∀{l:List bj} {j:Nat} {a:bj},l[j]? =E a→l.getD j 0=a:=fun e=>by rw[List.getD_eq_getElem?_getD,e];rfl
 have tP:∀j∈gW,sel.length≤j∧∃o a,aq[j]? =E o∧bP[j]? =E a∧hR p o=true∧j5 aq j=o∧a∈rW:=fun j cn=>by have wg:sel.length≤j:=d4 (List.all_eq_true.mp dU j cn);refine gy (NC (List.all_eq_true.mp lp j cn)) fun o e k g=>?_;have ed:j<bP.length:=bt.len▸(List.getElem?_eq_some_iff.mp e).1;refine⟨wg,o,bP[j],e,List.getElem?_eq_getElem ed,k,g,?_⟩;have iY:=List.getElem?_eq_getElem ed;generalize bP[j]=a at iY;rw[aW,List.getElem?_append_right (by rw[mq];exact wg)] at iY;exact List.mem_of_getElem? iY
 let aV:=ρ++gW.map fun j=>bP.getD j 0
 have FT:∀(j:Nat) a,p j=true→bP[j]? =E a→aV[qU sel gW H.length j]? =E a:=fun j a cn e=>by
  unfold qU;cases az:d3 j sel.length with
  |true=>
   have ed:j<sel.length:=d4 az;rw[aW,List.getElem?_append_left (by rw[mq];exact ed),eT,List.getElem?_map,List.getElem?_eq_getElem ed] at e;have iY:ρ.getD sel[j] 0=a:=fc e;have es:sel.getD j 0=sel[j]:=by rw[List.getD_eq_getElem?_getD,List.getElem?_eq_getElem ed];rfl
   refine(?_:aV[sel.getD j 0]? =E a);rw[es];exact get_append (by rw[all _ (List.getElem_mem ed),iY])
  |false=>rw[←a8] at cn;change (d3 j sel.length||eV gW j)=true at cn;rw[az,Bool.false_or] at cn;refine(?_:aV[H.length+iM gW j]? =E a);rw[List.getElem?_append_right (by rw[tU];exact sH _ _),tU,sG,List.getElem?_map,EW cn];exact congrArg E (n0 e)
 have fresh:∀j∈gW,s.heap.get? (bP.getD j 0)=none:=fun j cn=>by obtain⟨_,o,a,_,e,_,_,hm⟩:=tP j cn;rw[n0 e];exact aL a hm
 have Nc:∀a∈gW.map (fun j=>bP.getD j 0),s.heap.get? a=none:=fun a aC=>by refine dn (List.mem_map.mp aC) fun j cn b8=>?_;subst b8;exact fresh j cn
 have sub:∀a∈mI,a∈ρ:=fun a aC=>by rw[eT] at aC;refine dn (List.mem_map.mp aC) fun l ar b8=>?_;subst b8;exact List.mem_of_getElem? (all l ar)
 have el:Step [] ρ s aV s1:=⟨⟨_,rfl,Nc⟩,fun a o e aC hf=>st.keep a o e (fun q=>aC (sub a q)) hf,st.live,st.gens,st.os⟩;have z4:(lS H sel ((aq.take sel.length).map (jP (qU sel gW H.length)))).length=H.length:=OE;have eM:bz P aV (lS H sel ((aq.take sel.length).map (jP (qU sel gW H.length)))++gW.map fun j=>jP (qU sel gW H.length) (j5 aq j)) s1.heap:=by
  refine⟨by simp only[aV,List.length_append,List.length_map,z4,tU],?_,fun i o a ax aC=>?_⟩
  .refine List.nodup_append.mpr ⟨am.eW,?_,fun a aC b az e=>?_⟩
   .rw[List.nodup_iff_pairwise_ne,List.pairwise_map];refine List.Pairwise.imp_of_mem (fun {i j} hi cn eF e=>?_) (wW dC);obtain⟨_,_,a,_,aJ,_⟩:=tP i hi;obtain⟨_,_,b,_,cI,_⟩:=tP j cn;rw[n0 aJ,n0 cI] at e;exact eF (r0 bt.eW aJ (e▸cI))
   .subst e;refine dm (am.lt aC) fun o e=>?_;rw[Nc a az] at e;exact c5 e
  .by_cases hi:i<H.length
   .rw[List.getElem?_append_left (by rw[z4];exact hi)] at ax;have vV:ρ[i]? =E a:=by rwa [List.getElem?_append_left (by rw[tU];exact hi)] at aC
    by_cases aE:i∈sel
    .refine dm (List.getElem?_of_mem aE) fun j cn=>?_;have ed:=(List.getElem?_eq_some_iff.mp cn).1;have iY:bP[j]? =E a:=by rw[aW,List.getElem?_append_left (by rw[mq];exact ed),eT,List.getElem?_map,cn];exact congrArg E (n0 vV)
     have Kh:j<aq.length:=bt.len▸(List.getElem?_eq_some_iff.mp iY).1;have dv:(aq.take sel.length)[j]? =E aq[j]:=by rw[List.getElem?_take_of_lt ed];exact List.getElem?_eq_getElem Kh
     rw[OD (wW aaU) cn (by rw[List.getElem?_map,dv];rfl) hi] at ax;obtain rfl:=cE ax;refine dn (bt.at_ j _ a (List.getElem?_eq_getElem Kh) iY) fun ob R Z=>?_;exact⟨ob,R,Z.lR FT (List.all_eq_true.mp iT _ (List.mem_of_getElem? dv))⟩
    .rw[E8 aE] at ax;refine dn (am.at_ i o a ax vV) fun ob R Z=>?_;have na:a∉mI:=fun q=>by rw[eT] at q;exact dn (List.mem_map.mp q) fun l ar e=>aE (r0 am.eW vV (e▸all l ar)▸ar)
     exact⟨ob,st.keep a ob R na (fun h=>nomatch h),Z.mono el.fU am.di⟩
   .rw[List.getElem?_append_right (by rw[z4];lia),z4,List.getElem?_map] at ax;rw[List.getElem?_append_right (by rw[tU];lia),tU,List.getElem?_map] at aC;refine eB ax fun j iw=>?_;rw[iw] at aC;obtain rfl:=cE aC;obtain⟨_,o,a,dv,iY,k,g,_⟩:=tP j (List.mem_of_getElem? iw);refine dn (bt.at_ j o a dv iY) fun ob R Z=>?_;refine⟨ob,?_,by rw[g];exact Z.lR FT k⟩;refine(?_:s1.heap.get? (bP.getD j 0)=E ob);rw[n0 iY];exact R
 exact q _ _ aV h eM (c7.lR FT gn) el
theorem cellsFrom_some {x:Str}(names:List (Str×g4)):∀(n:bj) (b6:List (Str×bj)),(b6.lookup x).isSome=true∨(x,G5)∈names→((cellsFrom n names b6).lookup x).isSome=true:=by
 induction names with
 |nil=>exact fun n b6 h=>h.elim id fun h=>nomatch h
 |cons p r aF=>
  intro n b6 h;obtain⟨y,k⟩:=p;unfold cellsFrom
  by_cases aB:(k==G5)=true
  .rw[if_pos aB];refine aF _ _ ?_
   by_cases e:(x==y)=true
   .left;rw[List.lookup_cons,e];rfl
   .refine h.imp (fun h=>?_) fun h=>(List.mem_cons.mp h).elim (fun q=>absurd (beq_iff_eq.mpr (Bw q).1) e) id;rw[List.lookup_cons,Bj.mpr e];exact h
  .rw[if_neg aB];exact aF _ _ (h.imp id fun h=>(List.mem_cons.mp h).elim (fun q=>absurd (beq_iff_eq.mpr (Bw q).2.symm) aB) id)
theorem IH {iG:Str→Option g4}{x:Str}:∀{jH:List (Str×aj)} {m:Str→Option aj},(∀p∈jH,p.1≠x)→bindL iG jH m x=m x
 | [],_,_=>rfl
 |(n,v)::r,m,h=>by
  unfold bindL;rw[IH fun p a8=>h p (List.mem_cons_of_mem _ a8)]
  split
  .exact if_neg (h (n,v) List.mem_cons_self).symm
  .rfl
theorem IG {iG:Str→Option g4}{x:Str}:∀{jH:List (Str×aj)} {m:Str→Option aj},(∀p∈jH,p.1≠x)→bindC iG jH m x=m x
 | [],_,_=>rfl
 |(n,v)::r,m,h=>by
  unfold bindC;rw[IG fun p a8=>h p (List.mem_cons_of_mem _ a8)]
  split
  .rfl
  .exact if_neg (h (n,v) List.mem_cons_self).symm
theorem Sc {iG:Str→Option g4}{x:Str}:∀{jH:List (Str×aj)} {m:Str→Option aj},(jH.map (·.1)).Nodup→(x,y)∈jH→
 (iG x=E .local→bindL iG jH m x=E y)∧(iG x≠E .local→bindC iG jH m x=E y):=fun {jH}=>by
 induction jH with
 |nil=>exact fun _ h=>nomatch h
 |cons p r aF=>
  obtain⟨n,v⟩:=p;intro m eW h;rw[List.map_cons,List.nodup_cons] at eW;have Nl:∀{z:Str},z=n→∀p∈r,p.1≠z:=fun e p a8 q=>eW.1 (List.mem_map.mpr ⟨p,a8,q.trans e⟩);rcases List.mem_cons.mp h with e|h
  .cases e;constructor
   .intro aB;unfold bindL;rw[IH (Nl rfl),if_pos aB,if_pos rfl]
   .intro aB;unfold bindC;rw[IG (Nl rfl),if_neg aB,if_pos rfl]
  .constructor
   .intro aB;unfold bindL;exact(aF eW.2 h).1 aB
   .intro aB;unfold bindC;exact(aF eW.2 h).2 aB
structure Ih (ay kc:List Str)(aD:List (Str×g4)):Prop where
 pre:∃c2,ay=kc++c2
 eW:ay.Nodup
 nu:∀x∈ay,(x==("__debug__":Str))=false
 kinds:∀x∈kc,aD.lookup x=E .local∨aD.lookup x=E .cell
theorem bJ.zip:∀{ys:List aj} {ns:List Str} {i:Nat} {x:Str} {v:V},bJ ρ h vs ys→ns.length=ys.length→ns[i]? =E x→vs[i]? =E v→∃y,(x,y)∈ns.zip ys∧aN ρ h v y:=by
 induction vs with
 |nil=>exact fun _ _ _ co=>c5 co
 |cons u vs aF=>
  intro ys ns i x v r ar aS co;revert ar;refine r.gS fun y zs a b ar=>?_
  induction ns using List.casesOn with
  |nil=>exact c5 aS
  |cons n ns=>induction i using h8 with
   |zero=>obtain rfl:=cE aS;obtain rfl:=cE co;exact⟨y,List.mem_cons_self,a⟩
   |succ i=>exact(aF (ns:=ns) (i:=i) b (lY ar) aS co).elim fun y g=>⟨y,List.mem_cons_of_mem _ g.1,g.2⟩
noncomputable def y4 (I:Env):List bj:=I.locals::I.cells.filterMap fun p=>I.cells.lookup p.1
theorem Uw {x:Str}{c:bj}(h:I.cells.lookup x=E c):c∈y4 I:=List.mem_cons_of_mem _ (List.mem_filterMap.mpr ⟨(x,c),PySem.mem_of_lookup h,h⟩)
theorem Uo {fd:pK}{kc:List Str}{xB:List aj}{k:Nat}
 (am:bz P ρ H s.heap)(az:∀b o,B.h₀.get? b=E o→s.heap.get? b=E o∧b∉ρ)(bU:bJ ρ s.heap cc xB)(ar:kc.length=xB.length)
 (aB:fd.scope.kind=.function)(b5:fd.globals=mainGlobals)(WX:fd.builtins=builtinsNs)(e6:Ih ay kc fd.scope.names)
 (x:InCallC s (callEnvC fd s.heap.objs.size a).locals (bindL (callEnvC fd s.heap.objs.size a).kindOf (kc.zip xB) fun _=>none) (callEnvC fd s.heap.objs.size a).cells (bindC (callEnvC fd s.heap.objs.size a).kindOf (kc.zip xB) fun _=>none) bB):
 bZ P B (callEnvC fd s.heap.objs.size a) (y4 (callEnvC fd s.heap.objs.size a)) ay ρ H (cc++List.replicate k .aR) bB∧Step [] ρ s ρ bB:=by
 refine dm e6.pre fun c2 co=>?_;have keep:=x.toInCall.keep;refine dB x.toInCall.same fun h' dj aW=>?_;have st:Step [] ρ s ρ bB:=by clear x;subst aW;exact⟨⟨[],by simp,fun _ h=>nomatch h⟩,fun b o e _ _=>keep b o e,fun b e=>none_of keep e,rfl,rfl⟩
 have bt:bz P ρ H bB.heap:=am.other (fun b kY=>by refine dm (am.lt kY) fun o e=>?_;rw[e,keep b o e]) st.fU
 have Nf:∀b∈y4 (callEnvC fd s.heap.objs.size a),s.heap.get? b=none:=fun b kY=>by
  cases q:s.heap.get? b with
  |none=>rfl
  |some o=>
   have ed:=ia q;rcases List.mem_cons.mp kY with rfl|kY
   .exact absurd ed (mL.mpr x.toInCall.fresh)
   .exact dn (List.mem_filterMap.mp kY) fun p a8 e=>absurd ed (mL.mpr (e3 x.toInCall.fresh (xP (x.above _ _ (PySem.mem_of_lookup e)))))
 have ack:((kc.zip xB).map (·.1)).Nodup:=by rw[List.map_fst_zip (sI ar)];have:=e6.eW;rw[co] at this;exact(List.nodup_append.mp this).1
 refine⟨⟨bt,⟨aB,b5,WX,fun b kY=>⟨fun q=>?_,?_⟩,List.mem_cons_self,fun y c aI=>Uw aI,fun i y v ct tG bx=>?_,e6.nu,⟨_,x.toInCall.ns⟩,fun y c aI=>⟨_,x.cell y c aI⟩,fun y c aI e=>?_,fun y z c R Z=>name_of_addr x.apart (PySem.mem_of_lookup R) (PySem.mem_of_lookup Z),e6.eW⟩,fun b o e=>?_⟩,st⟩
 .refine dm (am.lt q) fun o e=>?_;rw[Nf b kY] at e;exact c5 e
 .rcases List.mem_cons.mp kY with rfl|kY
  .exact t8 x.toInCall.ns
  .exact dn (List.mem_filterMap.mp kY) fun p a8 e=>KH (x.cell _ _ e)
 .have hi:i<cc.length:=by
   clear x;rcases Bs i cc.length with h|h
   .exact h
   .rw[List.getElem?_append_right h] at tG;have:=List.mem_of_getElem? tG;exact absurd (List.eq_of_mem_replicate this) bx
  rw[List.getElem?_append_left hi] at tG;have Xv:i<kc.length:=by rw[ar,←bU.length];exact hi
  rw[co,List.getElem?_append_left Xv] at ct;refine dn (bU.zip ar ct tG) fun z hz fV=>?_;have bd:=Sc (iG:=(callEnvC fd s.heap.objs.size a).kindOf) (m:=fun _=>none) ack hz;refine⟨z,?_,fV.mono st.fU am.di⟩;rcases e6.kinds y (List.mem_of_getElem? ct) with kD|kD
  .exact .inl ⟨kD,_,x.toInCall.ns,bd.1 kD⟩
  .have aI:((callEnvC fd s.heap.objs.size a).cells.lookup y).isSome=true:=cellsFrom_some _ _ _ (.inr (PySem.mem_of_lookup kD));refine dm (sK.mp aI) fun c aI=>dn (x.cell y c aI) fun o ax hd=>?_;rw[bd.2 (by rw[show(callEnvC fd s.heap.objs.size a).kindOf y=E .cell from kD];exact fun e=>nomatch e)] at hd;exact .inr (.inl ⟨kD,c,o,aI,ax,hd⟩)
 .have:=x.above _ _ (PySem.mem_of_lookup aI);rw[e] at this;exact absurd this (xR _)
 .refine b7 (az b o e) fun R Z=>?_;exact⟨keep b o R,Z,fun q=>by rw[Nf b q] at R;exact c5 R⟩
set_option backward.match.sparseCases true
theorem bJ.append:∀{cc:List V} {xs ys:List aj},bJ ρ h vs xs→bJ ρ h cc ys→bJ ρ h (vs++cc) (xs++ys):=by
 induction vs with
 |nil=>intro cc xs ys r k;exact r.iJ k
 |cons v vs aF=>intro cc xs ys r k;exact r.gS fun y zs a b=>.cons a (aF b k)
structure cP where
 na:Nat
 defs:List V
 EL:Nat
 body:fe
variable {bg:cP}
def e1 (K:bI):dK:=fun aH _ H=>match aH with
 |.ret v=>K v H
 |.next=>K .none H
 |.brk=>False
def cR (C:hT)(G:Nat→Option V)(bg:cP)(vs:List V)(H:List an)(K:bI):Prop:=
 ao (c1 vs.length bg.na) (b3 C G bg.body (vs++bg.defs++List.replicate bg.EL .aR) H (e1 K)) False
noncomputable def isNone:V→Bool
 |.none=>true
 |_=>false
structure Row where
 rank:Nat
 cls:Bool
 bD:hT→List V→List an→bI→Prop
def bh (aT:Nat→Option Row):Nat→hT
 |0,_,_,_,_=>False
 |n+1,k,vs,H,K=>match aT k with
  |some r=>ao (dg r.rank n) (match r.cls with
   |false=>qb (r.bD (bh aT n)) vs H K
   |true=>qb (r.bD (bh aT n)) (.ref (H.length+1)::vs) (H++[.dict [] 0,.inst H.length]) fun v bp=>ao (isNone v) (K (.ref (H.length+1)) bp) False) False
  |dk=>False
def qY:V→Prop
 |.bytes b=>ef b∧b.length≤1000000
 |_=>True
def pH:an→Prop
 |.cA b=>ef b∧b.length≤1000000
 |.dict es _=>(∀e∈es,bT 4 e.1=true)∧eD es
 |_=>True
theorem Ny (a:Array UInt8):ef (dY a):=fun x aS=>by refine dn (List.mem_map.mp aS) fun u cg b8=>?_;clear cg;subst b8;have:=u.toNat_lt;omega
theorem aN.wf {x:aj}(r:aN ρ h v x):qY v:=by
 cases r with
 |bytes a t hz=>exact⟨Ny a,by rw[ph];exact hz⟩
 |_=>trivial
theorem bJ.wf:∀{xs:List aj},bJ ρ h vs xs→∀v∈vs,qY v:=by
 induction vs with
 |nil=>exact fun _ _ h=>nomatch h
 |cons u vs aF=>intro xs r v co;exact r.gS fun y zs a b=>(List.mem_cons.mp co).elim (fun e=>e▸a.wf) (aF b v)
theorem bz.wf (x:bz P ρ H h):∀o∈H,pH o:=fun o ax=>by
 obtain⟨i,hi,rfl⟩:=List.getElem_of_mem ax;refine dn (x.at_ i H[i] (ρ[i]'(x.len▸hi)) (List.getElem?_eq_getElem hi) (List.getElem?_eq_getElem (x.len▸hi))) fun ob cg r=>?_;clear cg;generalize H[i]=o at r;cases r with
 |cA a hz=>exact⟨Ny a,by rw[ph];exact hz⟩
 |d5 _=>trivial
 |dict _ aD rp=>exact⟨aD,rp⟩
 |_=>trivial
theorem SN {Q:g0→aQ→Prop}(h:aO O w (A.deeper I) (execs body I) (fun f s'=>Q (.ret (match f with|.ret v=>v|_=>.none)) s') s):codeN O w A (.func body I) Q s:=by
 refine CC ?_;show aO _ _ (A.deeper I) (do point;match←(execs body I).onRaise (leaving I) with|.ret v=>ret v|_=>ret .none) _ s
 refine dH (wpAny_point (b0 (qK (dF h fun f s' h'=>?_))));cases f<;>exact cM ⟨_,rfl,h'⟩
theorem SI {o:Obj}{fd:pK}{jH:List (Str×aj)}{Q:g0→aQ→Prop}(XX:A.depth<recursionLimit)(ax:s.heap.get? a=E o)(hd:o.data=.func fd)
 (XA:s.heap.NoLimit)(J8:s.heap.CodeRec fd.code fd.qualname)(W2:fd.scope.isCoroutine=false)(Xs:fd.scope.isGenerator=false)(aB:fd.scope.kind=.function)(W0:fd.closure=[])
 (Dn:fd.body=.stmts body)(vZ:BindsTo s fd ⟨ys,[]⟩ jH)(zo:∀x∈jH,fd.scope.names.lookup x.1=E .local∨fd.scope.names.lookup x.1=E .cell)
 (h:∀bB,InCallC s (callEnvC fd s.heap.objs.size a).locals (bindL (callEnvC fd s.heap.objs.size a).kindOf jH fun _=>none) (callEnvC fd s.heap.objs.size a).cells (bindC (callEnvC fd s.heap.objs.size a).kindOf jH fun _=>none) bB→
  aO O w (A.deeper (callEnvC fd s.heap.objs.size a)) (execs body (callEnvC fd s.heap.objs.size a)) (fun f s'=>Q (.ret (match f with|.ret v=>v|_=>.none)) s') bB):codeN O w A (.call (.ref a) ⟨ys,[]⟩) Q s:=by
 refine qa fun _=>?_;show aO _ _ A.in1 (callAny (.ref a) ⟨ys,[]⟩) _ s;unfold callAny;refine dH (nD ax (lu J8 fun c Nv vs ahp bS=>kR bS fun aI XG W9 a9=>?_));clear bS J8;simp only[hd,callFunction,W2,Xs,Dn,aI];refine dH (m:=field (.ref c) 1) (h9 XG W9 a9 (b0 (cM (dH (vZ _ _ _ _ ?_)))));rw[W0,←aI];refine dH (wpAny_newFunctionEnv_cells aB (fun x aS=>(zo x aS).imp id fun e=>⟨e,cellsFrom_some _ _ _ (.inr (PySem.mem_of_lookup e))⟩) fun I he s' x=>?_);subst he;refine dH (wpAny_enterFrame (XA.keeps x.toInCall.keep) XX (cM ⟨rfl,rfl,SN (h s' x)⟩))
structure FnAt (O:hS)(w:eJ)(B:gD)(C:hT)(d:Nat)(a:bj)(bg:cP):Prop where
 ex:∃o fd body ay kc,B.h₀.get? a=E o∧o.data=.func fd∧B.h₀.CodeRec fd.code fd.qualname∧fd.scope.isCoroutine=false∧fd.scope.isGenerator=false∧fd.scope.kind=.function∧fd.closure=[]∧
  fd.body=.stmts body∧fd.globals=mainGlobals∧fd.builtins=builtinsNs∧Ih ay kc fd.scope.names∧kc.length=bg.na+bg.defs.length∧
  (∀(s:aQ) (ys:List aj),(∀b o,B.h₀.get? b=E o→s.heap.get? b=E o)→ys.length=bg.na→∃fk,(∀ρ h,bJ ρ h bg.defs fk)∧BindsTo s fd ⟨ys,[]⟩ (kc.zip (ys++fk)))∧
  (∀(A:fu) (b2:bj),A.handled=none→A.units+20+10*d<cLine→A.depth+60+2*d<recursionLimit→l6 O w B C A (callEnvC fd b2 a) ay body bg.body)
def l3 (O:hS)(w:eJ)(B:gD)(C:hT)(d:Nat)(fF:Nat→Option aj):Prop:=
 ∀(A:fu) (k:Nat) (f:aj) vs ys H ρ s (Q:bI) (K:aj→aQ→Prop),fF k=E f→A.handled=none→A.units+20+10*d<cLine→A.depth+60+2*d<recursionLimit→C k vs H Q→bz w.params ρ H s.heap→bJ ρ s.heap vs ys→
  (∀b o,B.h₀.get? b=E o→s.heap.get? b=E o∧b∉ρ)→jD w.params ρ s Q K→Kept (model O w) f s.heap∧aO O w A (call f ys) K s
theorem E3 (ok:B.Ok){d:Nat}(ah:FnAt O w B C d a bg){Q:bI}{K:g0→aQ→Prop}(bC:A.handled=none)(bx:A.units+23+10*d<cLine)(hd:A.depth+61+2*d<recursionLimit)
 (h:cR C B.G bg vs H Q)(am:bz w.params ρ H s.heap)(bU:bJ ρ s.heap vs ys)(az:∀b o,B.h₀.get? b=E o→s.heap.get? b=E o∧b∉ρ)
 (q:∀v bp aV y s',Q v bp→bz w.params aV bp s'.heap→aN aV s'.heap v y→Step [] ρ s aV s'→K (.ret y) s'):codeN O w A (.call (.ref a) ⟨ys,[]⟩) K s:=by
 refine b7 (fK h) fun j6 h=>?_;have j6:=fO j6;obtain⟨o,fd,body,ay,kc,aW,aJ,cI,eU,iX,kv,TZ,T0,kx,TY,e6,Uy,bd,AR⟩:=ah.ex;have keep:∀b o,B.h₀.get? b=E o→s.heap.get? b=E o:=fun b o e=>(az b o e).1;refine dn (bd s ys keep (bU.length.symm.trans j6)) fun fk Kb vZ=>?_;have Xb:bg.defs.length=fk.length:=(Kb ρ s.heap).length;have XR:kc.length=(ys++fk).length:=by rw[List.length_append,Uy,←Xb,←bU.length,j6]
 have agN:bJ ρ s.heap (vs++bg.defs) (ys++fk):=bU.append (Kb ρ s.heap);refine SI (by omega) (keep _ _ aW) aJ (ok.lim.keeps keep) (cI.keeps keep) eU iX kv TZ T0 vZ (fun x aS=>e6.kinds x.1 ?_) fun bB x=>?_
 .exact(List.of_mem_zip aS).1
 .refine b7 (Uo (k:=bg.EL) am az agN XR kv kx TY e6 x) fun r st=>?_;refine AR (A.deeper _) s.heap.objs.size bC (by simp only[Around.deeper_units];omega) (by show A.depth+1+60+2*d<_;omega) _ _ H ρ bB _ _ h r fun aH eg bp aV f s' a9 i6 hZ el=>?_;have aa9:∀b∈y4 (callEnvC fd s.heap.objs.size a),s.heap.get? b=none:=fun b kY=>by
   cases q:s.heap.get? b with
   |none=>rfl
   |some o=>
    have ed:=ia q;rcases List.mem_cons.mp kY with rfl|kY
    .exact absurd ed (mL.mpr x.toInCall.fresh)
    .exact dn (List.mem_filterMap.mp kY) fun p a8 e=>absurd ed (mL.mpr (e3 x.toInCall.fresh (xP (x.above _ _ (PySem.mem_of_lookup e)))))
  have Pb:Step [] ρ s aV s':=by have t:=st.up.trans el;exact⟨t.new,fun b o e WV _=>t.keep b o e WV (fun hm=>by rw[aa9 b hm] at e;exact c5 e),t.live,t.gens,t.os⟩
  induction aH using rc.casesOn with
  |next=>induction f using nE with
   |next=>exact q .none bp aV .none s' a9 i6.am .none Pb
   |_=>exact hZ.elim
  |brk=>exact a9.elim
  |ret v=>induction f using nE with
   |ret y=>exact q v bp aV y s' a9 i6.am hZ Pb
   |_=>exact hZ.elim
set_option backward.match.sparseCases false
theorem SO {K:Frag}{Cl:bj}{ky:bj}{c2:List aj}{Q:g0→aQ→Prop}(aG:K.In s.heap)(hm:makesIn K Cl=true)(hi:findIn K (.ref Cl) "__init__"=E (E (.ref ky)))(hf:typeIn K (.ref ky)=E (.type "function"))
 (h:codeN O w (A.under (.builtin "type.__call__" ⟨.ref Cl::c2,[]⟩)) (.call (.ref ky) ⟨.ref (s.heap.objs.size+1)::c2,[]⟩) (fun f s'=>f=.ret .none∧Q (.ret (.ref (s.heap.objs.size+1))) s')
  {s with heap:=(s.heap.push emptyDict).push (instObj Cl s.heap.objs.size)}):codeN O w A (.call (.ref Cl) ⟨c2,[]⟩) Q s:=by
 have j0:=makes_of (M:=model O w) aG hm;obtain⟨⟨Nv,r1,rl,ch,h1,aW,aJ,eU⟩,ME,lm,self,agh,call,typ⟩:=id j0;have Kg:=looks_findIn (M:=model O w) aG hi;refine qa fun _=>?_;show aO _ _ A.in1 (callAny (.ref Cl) ⟨c2,[]⟩) _ s;show aO _ _ A.in1 (load Cl>>=fun o=>_) _ s;refine dH (nD h1 ?_);show aO _ _ A.in1 (QC (.ref Cl) ⟨c2,[]⟩) _ s;unfold QC;refine dH (call.here ?_);dsimp only;rw[tc_bind];refine b0 (cM (b0 (cM (cM ⟨rfl,rfl,qa fun _=>?_⟩))));show aO _ _ A.in1 (do checkBuiltinCall "type.__call__" ⟨.ref Cl::c2,[]⟩;again (.builtin "type.__call__" ⟨.ref Cl::c2,[]⟩)) _ s;refine dH (check_slot tc_kind tc_split typ (tc_args _ _ _) (cM ⟨Code.quiet_builtin _ (by decide+kernel),rfl,CB entry_typeCall ?_⟩));unfold Builtin.«type.__call__»;have DC:Looks (model O w) s.heap (mroOf (.ref Cl)) rl.mro:=((x4 (part:=none) h1).andThen .now).andThen .now;show aO _ _ _ (if(gO Cl==cC "type")=true then _ else _) _ s;refine rX (show¬((gO Cl==cC "type")=true) from d7) ?_;show aO _ _ _ (mroOf (.ref Cl)>>=fun m=>_) _ s;refine dH (DC.here ?_);rw[eU,if_neg d7];show aO _ _ _ (Bind.madeBy (.ref Cl)>>=fun m=>_) _ s;refine dH (ME.here (b0 (cM ?_)));have k:∀b o,s.heap.get? b=E o→((s.heap.push emptyDict).push (instObj Cl s.heap.objs.size)).get? b=E o:=fun b o e=>fv _ (fv _ e);have aS:((s.heap.push emptyDict).push (instObj Cl s.heap.objs.size)).get? (s.heap.objs.size+1)=E (instObj Cl s.heap.objs.size):=by have:=g5 (s.heap.push emptyDict) (show(instObj Cl s.heap.objs.size).isFreed=false from rfl);rwa [x2] at this
 have t1:Looks (model O w) ((s.heap.push emptyDict).push (instObj Cl s.heap.objs.size)) (typeOf (.ref (s.heap.objs.size+1))) (.ref Cl):=(x4 aS).andThen .now;refine b0 (eR (cU (wpAny_call (E:=eX) ?_)));refine new_K (h:=s.heap) j0 Kg (.inl rfl)<|dH ((show Looks (model O w) _ (isInstance (.ref (s.heap.objs.size+1)) (.ref Cl)) true from t1.andThen (self.keeps k)).at (rX d7<|b0 (eR ?_)))
 unfold callSpecial?;refine dH ((show Looks (model O w) _ (specialOf (.ref (s.heap.objs.size+1)) "__init__") (E (.ref ky)) from t1.andThen (Kg.keeps k)).at ?_);refine eR<|dH (((bind_fn (M:=model O w) aG (.ref (s.heap.objs.size+1)) hf).keeps k).at (b0 (m:=PySem.call (.ref ky) ([.ref (s.heap.objs.size+1)]++c2)) (wR (IP h fun f s' am=>?_))))
 obtain⟨rfl,am⟩:=am;exact cM (cM ⟨_,rfl,am⟩)
structure ClsAt (B:gD)(Cl ky:bj):Prop where
 makes:makesIn B.K Cl=true
 init:findIn B.K (.ref Cl) "__init__"=E (E (.ref ky))
 typ:typeIn B.K (.ref ky)=E (.type "function")
 cls:o1 Cl=true
theorem YN {o:Obj}{fd:pK}(e:h.get? a=E o)(hd:o.data=.func fd):Kept aA (.ref a) h:=by refine⟨.frame,.inl rfl,?_⟩;unfold keeperOf;refine(x4 (part:=none) e).andThen ?_;rw[hd];exact .now
theorem YM (j0:Makes aA h a):Kept aA (.ref a) h:=by
 obtain⟨⟨Nv,r1,rl,ch,h1,aW,aJ,eU⟩,ME,lm,self,agh,call,typ⟩:=j0;refine⟨.machine,.inr rfl,?_⟩;unfold keeperOf;refine(x4 (part:=none) h1).andThen<|call.andThen ?_
 rw[if_pos (by decide)];exact .now
theorem IT {f:List V→List an→bI→Prop}{Q:bI}{K:aj→aQ→Prop}(h:qb f vs H Q)(am:bz w.params ρ H s.heap)(bU:bJ ρ s.heap vs ys)
 (az:∀b o,B.h₀.get? b=E o→s.heap.get? b=E o∧b∉ρ)(q:∀v bp aV y s',Q v bp→bz w.params aV bp s'.heap→aN aV s'.heap v y→Step [] ρ s aV s'→K y s')
 (run:∀vs0 H0 mI (yq:bI),f vs0 H0 yq→bz w.params mI H0 s.heap→bJ mI s.heap vs0 ys→(∀b o,B.h₀.get? b=E o→s.heap.get? b=E o∧b∉mI)→
  (∀v bp aV y s',yq v bp→bz w.params aV bp s'.heap→aN aV s'.heap v y→Step [] mI s aV s'→K y s')→G):G:=by
 unfold qb at h;generalize reach H 300 (kJ vs) []=sel at h;refine b7 (fK h) fun c h=>?_;simp only[fH] at c;refine b7 c fun c6 gn=>?_;clear c;refine b7 c6 fun dC dU=>?_;clear c6;refine hJ (am.part dC gn) fun qo hf all=>run _ _ _ _ h qo (bU.lR hf dU) (fun b o e=>⟨(az b o e).1,fun hm=>?_⟩) fun v aq bP y s1 co bt c7 st=>Mn am dC all rfl bt c7 st co fun i6 bp aV aB eM xv el=>q i6 bp aV y s1 aB eM xv el;refine dn (List.mem_map.mp hm) fun l ar b8=>?_;subst b8;exact(az _ o e).2 (List.mem_of_getElem? (all l ar))
def dV (H:List an)(K:bI):bI:=fun r aq=>iq (List.range H.length) H r aq K
def rm (H:List an)(K:bI):bI:=fun r aq=>ao ((aq.take H.length).all (hR fun l=>d3 l H.length)&&kH (fun l=>d3 l H.length) r) (K r (aq.take H.length)) False
theorem Ni:∀{l:List Nat},l.Nodup→i4 l=true
 | [],_=>rfl
 |a::r,h=>by
  rw[List.nodup_cons] at h;unfold i4;rw[Ni h.2,xF,km];cases e:eV r a with
  |false=>rfl
  |true=>exact absurd (WU e) h.1
theorem nodup_range (n:Nat):i4 (List.range n)=true:=Ni List.nodup_range
def fD (C:hT)(G:Nat→Option V)(bD:List V→List an→bI→Prop)(bg:cP):Prop:=∀vs H K,(∀o∈H,pH o)→(∀v∈vs,qY v)→bD vs H K→cR C G bg vs H K∨cR C G bg vs H (dV H K)∨cR C G bg vs H (rm H K)
theorem Ol (ok:B.Ok){d:Nat}{bD:List V→List an→bI→Prop}(ah:FnAt O w B C d a bg)(row:fD C B.G bD bg){Q:bI}{K:g0→aQ→Prop}(bC:A.handled=none)(bx:A.units+23+10*d<cLine)(hd:A.depth+61+2*d<recursionLimit)
 (h:bD vs H Q)(am:bz w.params ρ H s.heap)(bU:bJ ρ s.heap vs ys)(az:∀b o,B.h₀.get? b=E o→s.heap.get? b=E o∧b∉ρ)
 (q:∀v bp aV y s',Q v bp→bz w.params aV bp s'.heap→aN aV s'.heap v y→Step [] ρ s aV s'→K (.ret y) s'):codeN O w A (.call (.ref a) ⟨ys,[]⟩) K s:=by
 rcases row vs H Q am.wf bU.wf h with h|h|h
 .exact E3 ok ah bC bx hd h am bU az q
 .refine E3 ok ah bC bx hd h am bU az fun v bp aV y s' a9 eM c7 st=>?_;have all:∀l∈List.range H.length,ρ[l]? =E (ρ.getD l 0):=fun l ar=>by have ed:l<ρ.length:=am.len▸List.mem_range.mp ar;rw[List.getD_eq_getElem?_getD,List.getElem?_eq_getElem ed];rfl
  refine Mn am (nodup_range H.length) all ?_ eM c7 st a9 fun i6 QI ag8 aB cq agQ ck=>q i6 QI ag8 y s' aB cq agQ ck;refine List.ext_getElem? fun i=>?_;rw[List.getElem?_map,←am.len]
  by_cases hi:i<ρ.length
  .rw[List.getElem?_range hi,List.getElem?_eq_getElem hi,GN,List.getD_eq_getElem?_getD,List.getElem?_eq_getElem hi];rfl
  .rw[List.getElem?_eq_none (mL.mp hi),List.getElem?_eq_none (by rw[List.length_range];exact mL.mp hi)];rfl
 .refine E3 ok ah bC bx hd h am bU az fun v bp aV y s' a9 eM c7 st=>b7 (fK a9) fun c a9=>?_;rw[fH] at c;refine dn st.new fun n e aL=>?_;rw[←am.len] at c a9;have eM:bz w.params (ρ++n) bp s'.heap:=e▸eM;have c7:aN (ρ++n) s'.heap v y:=e▸c7;exact q v _ ρ y s' a9 (eM.trunc c.1) (c7.shrink c.2) st.trunc
theorem SU (ok:B.Ok){aT:Nat→Option Row}
 (cr:∀n,l3 O w B (bh aT n) n fF→∀k f r,fF k=E f→aT k=E r→r.rank≤n→∃bg,fD (bh aT n) B.G (r.bD (bh aT n)) bg∧(r.cls=false→∃a,f=.ref a∧FnAt O w B (bh aT n) n a bg)∧
  (r.cls=true→∃Cl ky,f=.ref Cl∧ClsAt B Cl ky∧FnAt O w B (bh aT n) n ky bg)):∀n,l3 O w B (bh aT n) n fF:=by
 intro n
 induction n with
 |zero=>intro A k f vs ys H ρ s Q K _ _ _ _ h;exact h.elim
 |succ n aF=>
  intro A k f vs ys H ρ s Q K Dz bC bx hd h am bU az q;have keep:∀b o,B.h₀.get? b=E o→s.heap.get? b=E o:=fun b o e=>(az b o e).1;unfold bh at h;cases e:aT k with
  |none=>rw[e] at h;exact h.elim
  |some r=>
  rw[e] at h;refine b7 (fK h) fun XT h=>gy (cr n aF k f r Dz e (d4 XT)) fun bg row t1 aa=>?_;cases aI:r.cls with
  |false=>rw[aI] at h;refine dn (t1 aI) fun a cg ah=>?_;clear Dz t1 aa;subst cg;refine T1 ah.ex fun o fd body ay kc bS=>hJ bS fun aW aJ acv=>?_;clear bS acv;exact⟨YN (keep _ _ aW) aJ,wR (IT h am bU az q fun vs0 H0 mI yq bl qo Ge Dm c6=>Ol (K:=AD K) ok ah row bC (by omega) (by omega) bl qo Ge Dm c6)⟩
  |true=>
   rw[aI] at h;refine oD (aa aI) fun Cl ky b8 ca ah=>?_;clear Dz t1 aa;subst b8;have aG:B.K.In s.heap:=ok.K.keeps keep;refine⟨YM (makes_of aG ca.makes),wR (SO aG ca.makes ca.init ca.typ ?_)⟩;have bt:bz w.params (ρ++[s.heap.objs.size]) (H++[.dict [] 0]) (s.heap.push emptyDict):=am.alloc rfl (.dict (xs:=[]) .nil (fun e he=>nomatch he) .nil);have n7:(ρ++[s.heap.objs.size])[H.length]? =E s.heap.objs.size:=by rw[←am.len,List.getElem?_append_right (kN _),xU];rfl
   have cq:bz w.params (ρ++[s.heap.objs.size]++[(s.heap.push emptyDict).objs.size]) (H++[.dict [] 0]++[.inst H.length]) ((s.heap.push emptyDict).push (instObj Cl s.heap.objs.size)):=bt.alloc rfl (.inst ca.cls (get_append n7));have ck:Step [] ρ s (ρ++[s.heap.objs.size]++[(s.heap.push emptyDict).objs.size]) {s with heap:=(s.heap.push emptyDict).push (instObj Cl s.heap.objs.size)}:=
    (Step.alloc (s:=s) (ob:=emptyDict) s.toks).trans (Step.alloc (s:={s with heap:=s.heap.push emptyDict}) (ob:=instObj Cl s.heap.objs.size) s.toks)
   have iI:(ρ++[s.heap.objs.size]++[(s.heap.push emptyDict).objs.size])[H.length+1]? =E (s.heap.objs.size+1):=by rw[List.getElem?_append_right (by simp[am.len]),x2];simp[am.len]
   rw[show H++[an.dict [] 0]++[an.inst H.length]=H++[.dict [] 0,.inst H.length] by rw[List.append_assoc];rfl] at cq;refine IT (s:={s with heap:=(s.heap.push emptyDict).push (instObj Cl s.heap.objs.size)}) (K:=fun y s'=>y=.none∧K (.ref (s.heap.objs.size+1)) s') (ys:=.ref (s.heap.objs.size+1)::ys) h cq (.cons (.ref iI) (bU.mono ck.fU am.di)) (fun b o e=>⟨ck.keep b o (keep b o e) (az b o e).2 (fun h=>nomatch h),fun hm=>?_⟩) (fun v bp aV y s' co eM c7 el=>?_)
    fun vs0 H0 mI yq bl qo Ge Dm c6=>Ol (K:=fun f s'=>f=.ret .none∧AD K (.ret (.ref (s.heap.objs.size+1))) s') ok ah row bC ?_ ?_ bl qo Ge Dm (fun v bp aV y s' co eM c7 el=>by refine b7 (c6 v bp aV y s' co eM c7 el) fun c6 aB=>?_;subst c6;exact⟨rfl,aB⟩)
   .refine dn ck.new fun Aq aJ aL=>?_;rw[aJ] at hm;rcases List.mem_append.mp hm with hm|hm
    .exact(az b o e).2 hm
    .have:=keep b o e;rw[aL b hm] at this;exact c5 this
   .refine b7 (fK co) fun aL aB=>?_;have:v=.none:=by unfold isNone at aL;split at aL<;>first|rfl|exact dW aL
    subst this;cases c7;refine⟨rfl,q _ bp aV _ s' aB eM (.ref ?_) (ck.trans el)⟩;refine dn el.new fun Aq aJ b8=>?_;clear b8;rw[aJ];exact get_append iI
   .show(A.under _).units+23+10*n<_;have:(A.under (.builtin "type.__call__" ⟨.ref Cl::ys,[]⟩)).units=A.units+1:=rfl;omega
   .have:(A.under (.builtin "type.__call__" ⟨.ref Cl::ys,[]⟩)).depth=A.depth+1:=rfl;omega
theorem adY (ok:B.Ok){d:Nat}(cs:l3 O w B C d fF)(bC:A.handled=none)(bx:A.units+20+10*d<cLine)(hd:A.depth+60+2*d<recursionLimit){x:Str}{es:List aY}{xs:gP}{f:aj}
 (aB:I.kindOf x=E .globalImplicit)(W8:(x==("__debug__":Str))=false)(aS:B.j8 x=E f)(hf:fF (a7 x)=E f)(a8:es.all jR=true)(aE:oU O w B C A I ay es xs):
 cV O w B C A I ay (.Call (.Name x k2) es [] p) (.call (a7 x) xs):=fun ah loc H ρ s Q K h r q=>by
 have b5:s.heap.Ns I.globals B.j8:=r.cj.glob▸ok.g.keeps r.keeps;refine Ai (cU (G4 r.cj.kind aB (loadGlobal_global b5 aS ?_) W8));refine Aj a8 (aE ah loc H ρ s _ _ p h r fun vs aq bP ys s1 R bt bU len bk=>?_);have cJ:=r.step bk bt;exact cs A (a7 x) f vs ys aq bP s1 _ _ hf bC bx hd R bt bU (fun b o e=>⟨(cJ.bs b o e).1,(cJ.bs b o e).2.1⟩) (q.after bk)
noncomputable def qv (d:bj)(i n ep:Nat)(o ok gg:aj)(f:Bool):Obj:={cls:=.type "dict_itemiterator",dict:=none,data:=.fields #[o,.bool f,.ref d,.int i 0,.int n 0,.int ep 0,ok,gg],slots:=#[]}
structure pV (h:fP)(bW d:bj)(i n ep:Nat):Prop where
 ex:∃o ok gg f,h.get? bW=E (qv d i n ep o ok gg f)∧(o=.none∧f=false∨∃(a:bj) (ob:Obj),o=rawInt a∧h.get? a=E ob∧a≠bW)
theorem pV.keep {bW d:bj}{i:Nat}(x:pV h bW d i n ep)(e:h'.get? bW=h.get? bW)(k:∀a o,h.get? a=E o→∃o',h'.get? a=E o'):pV h' bW d i n ep:=by exact uP x.ex fun o ok gg f hi ax=>⟨o,ok,gg,f,e.trans hi,ax.imp id fun⟨a,ob,aW,aJ,cI⟩=>dm (k a ob aJ) fun hP eU=>⟨a,hP,aW,eU,cI⟩⟩
section
variable {bW d:bj}{i:Nat}{xs:List c3}{Q:Option aj→aQ→Prop}
theorem Yt {x:c3}(st:pV s.heap bW d i xs.length ep)(hm:s.heap.get? d=E (dictOf xs ep))(aS:xs[i]? =E x)
 (h2:∀h',pV h' bW d (i+1) xs.length ep→h'.get? s.heap.objs.size=E (gN [x.key,x.val] 0)→h'.objs.size=s.heap.objs.size+1→(∀b o,b≠bW→s.heap.get? b=E o→h'.get? b=E o)→Q (E (.ref s.heap.objs.size)) {s with heap:=h'}):
 wpAny (model O w) A (pyNext (.ref bW)) Q b1 s:=by
 refine uP st.ex fun o ok gg f dM ax=>?_;obtain⟨a8,g,c4,dj,os⟩:=s;have cr:Shared.TypeIs ⟨a8,g,c4,dj,os⟩ (.ref bW) "dict_itemiterator":=⟨_,dM,rfl⟩;unfold pyNext;refine ae (u3 (mM (name:=g6 "__next__") cr PySem.F.slot_dict_itemiterator_next
  (hp PySem.F.slot_dict_itemiterator_next cr PySem.F.entry_dict_itemiterator_next ?_ (PySem.F.args_dict_itemiterator_next_1 _))))
 refine ae (aX (ae<|ae ?_))
 first|refine ae (BD cr (aX ?_))|refine ae (BF cr (aX ?_))
 refine ae (BA dM rfl ?_);rw[show Builtin.Dict_items.ownsTuple "dict_itemiterator"=true by decide,if_pos rfl];refine(?_:wpAny _ _ (if(gO d==cf)=true then _ else _) _ _ _);refine e2 (show¬((gO d==cf)=true) from d7)<|ae (aX (ae (mN hm rfl (e2 qs<|ae (aX (ae (ll hm rfl (e2 qs<|aX ?_))))))))
 have o8:xs.toArray[i]? =E x:=by simpa using aS
 simp only[show¬((i:Int)<0) from by omega,if_false,pI,o8];refine ae ?_
 first|refine ae (BD cr (aX ?_))|refine ae (BF cr (aX ?_))
 refine ae (G0 cr ?_);refine(?_:wpAny _ _ (setField (.ref bW) 3 (rawInt ((i:Int)+1))>>=_) _ _ ⟨a8,g,c4,dj,os⟩);refine ae (u8 dM (d4 rfl) fun h₁ zl zx=>?_);replace zx:fI bW a8 h₁:=zx;replace zl:h₁.get? bW=E (qv d (i+1) xs.length ep o ok gg f):=zl;have J3:Shared.TypeIs ⟨h₁,g,c4,dj,os⟩ (.ref bW) "dict_itemiterator":=⟨_,zl,rfl⟩;refine ae (ga (ae (G0 J3 (ae (G0 J3 ?_)))));refine(?_:wpAny _ _ (Builtin.Dict_items.pairFromOwner (.ref bW) 6 x.key x.val) _ _ ⟨h₁,g,c4,dj,os⟩);unfold Builtin.Dict_items.pairFromOwner;refine ae (wpAny_newTuple ?_);have hz:h₁.objs.size=a8.objs.size:=zx.1;have zm:bW<a8.objs.size:=ia dM;have o4:(h₁.push (gN [x.key,x.val] 0)).get? bW=E (qv d (i+1) xs.length ep o ok gg f):=fv _ zl;have DN:(h₁.push (gN [x.key,x.val] 0)).get? a8.objs.size=E (gN [x.key,x.val] 0):=hz▸g5 _ rfl;have Ks:(h₁.push (gN [x.key,x.val] 0)).objs.size=a8.objs.size+1:=by rw[x2,hz]
 have DB:∀b o,b≠bW→a8.get? b=E o→(h₁.push (gN [x.key,x.val] 0)).get? b=E o:=fun b o az e=>fv _ (zx.extBut b o az e);refine(?_:wpAny _ _ (Builtin.Dict_items.ownedTupleIsFree (.ref bW)>>=_) _ _ ⟨h₁.push (gN [x.key,x.val] 0),g,c4,dj,os⟩);rw[hz];generalize h₁.push (gN [x.key,x.val] 0)=fL at o4 DN Ks DB;have fin:∀(iF:fP) (o ok gg:aj) (f:Bool),iF.get? bW=E (qv d (i+1) xs.length ep o ok gg f)→fI bW fL iF→(∃(a:bj) (ob:Obj),o=rawInt a∧fL.get? a=E ob∧a≠bW)→Q (E (.ref a8.objs.size)) ⟨iF,g,c4,dj,os⟩:=fun iF o ok gg f he aE ⟨a,ob,aW,aJ,cI⟩=>
  h2 iF ⟨o,ok,gg,f,he,.inr ⟨a,ob,aW,aE.extBut a ob cI aJ,cI⟩⟩ (aE.extBut _ _ (oL zm) DN) (aE.1.trans Ks) fun b o az e=>aE.extBut b o az (DB b o az e)
 refine ae ?_;unfold Builtin.Dict_items.ownedTupleIsFree;rcases ax with⟨rfl,rfl⟩|⟨a,ob,rfl,wn,Di⟩
 .refine ae (h9 o4 rfl (x:=.none) rfl (aX (uN rfl<|ae (h9 o4 rfl (x:=ok) rfl (ae (h9 o4 rfl (x:=gg) rfl ?_))))));refine ae (u8 o4 (d4 rfl) fun iF Dw rF=>ae (u8 Dw (d4 rfl) fun tH Xg DJ=>?_));refine ae (u8 Xg (d4 rfl) fun zy Xh DK=>ae (u8 Xh (d4 rfl) fun Kt Xi DL=>?_));replace rF:fI bW fL iF:=rF;replace DJ:fI bW iF tH:=DJ;replace DK:fI bW tH zy:=DK;replace DL:fI bW zy Kt:=DL;exact ae (xZ (aX (aX ⟨_,rfl,aX (fin Kt (rawInt a8.objs.size) x.key x.val false Xi (((rF.trans DJ).trans DK).trans DL) ⟨_,_,rfl,DN,oL zm⟩)⟩)))
 .refine ae (h9 o4 rfl (x:=rawInt a) rfl ?_);refine(?_:wpAny _ _ (loadIfAlive ((a:Int).toNat)>>=_) _ _ _);rw[pI];have Dl:=DB a ob Di wn;refine ae (kdx_alive Dl (e2 d7<|ae (h9 o4 rfl (x:=.bool f) rfl ?_)))
  induction f using eo with
  |true=>exact e2 (show¬((g7 true !=g7 true)=true) from d7)<|aX<|e2 d7<|aX (aX ⟨_,rfl,aX (fin fL _ _ _ _ o4 (BJ _ _) ⟨_,_,rfl,Dl,Di⟩)⟩)
  |false=>
   refine uN (show(g7 false !=g7 true)=true from rfl)<|ae (u8 o4 (d4 rfl) fun iF Dw rF=>?_)
   replace rF:fI bW fL iF:=rF;exact aX<|e2 d7<|aX (aX ⟨_,rfl,aX (fin iF (rawInt a) ok gg true Dw rF ⟨_,_,rfl,Dl,Di⟩)⟩)
theorem Ys (bC:A.handled=none)(st:pV s.heap bW d i xs.length ep)(hm:s.heap.get? d=E (dictOf xs ep))(aS:xs[i]? =none)(h2:∀h',BH bW s.heap h'→Q none {s with heap:=h'}):wpAny (model O w) A (pyNext (.ref bW)) Q b1 s:=by
 refine uP st.ex fun o ok gg f dM ax=>?_;have cr:s.TypeIs (.ref bW) "dict_itemiterator":=⟨_,dM,rfl⟩;unfold pyNext;refine ae (u3 (mM (name:=g6 "__next__") cr PySem.F.slot_dict_itemiterator_next
  (hp PySem.F.slot_dict_itemiterator_next cr PySem.F.entry_dict_itemiterator_next ?_ (PySem.F.args_dict_itemiterator_next_1 _))))
 refine ae (aX ?_);refine ae ?_;refine ae ?_
 first|refine ae (BD cr (aX ?_))|refine ae (BF cr (aX ?_))
 refine ae (BA dM rfl ?_);rw[show Builtin.Dict_items.ownsTuple "dict_itemiterator"=true by decide,if_pos rfl];refine(?_:wpAny _ _ (if(gO d==cf)=true then _ else _) _ _ s);refine e2 (show¬((gO d==cf)=true) from d7) ?_;refine ae (aX ?_);refine ae (mN hm rfl ?_);refine e2 qs ?_;refine ae (aX ?_);refine ae (ll hm rfl ?_);refine e2 qs ?_;refine aX ?_;have o8:xs.toArray[i]? =none:=by simpa using aS
 simp only[show¬((i:Int)<0) from by omega,if_false,pI,o8];refine ae ?_
 first|refine ae (BD cr (aX ?_))|refine ae (BF cr (aX ?_))
 refine(?_:wpAny _ _ (setField (.ref bW) 2 .none>>=_) _ _ s);refine ae (x0 dM rfl (d4 rfl) ?_);refine(?_:wpAny _ _ (newExc (.type "StopIteration") []>>=_) _ _ _);refine ae ?_;simp only[newExc,newTuple];refine ae (jB ?_ (by size_fits));refine ae (m:=firstArgMember _ _) (hq (a:=cf) (by first|rfl|(simp only[firstArgMember];rfl)) ?_);refine jB ?_ (by size_fits);unfold raiseNew;refine ae (GZ ?_);rw[show A.in1.handled=none from bC];refine ae (aX (wpAny_throw ?_));refine ae (pL (T:="StopIteration") (b:=true) ⟨_,g5 _ rfl,rfl⟩ GS ?_);exact aX (h2 _ (((kp ..).extBut.push _).push _))
end
def Got (h:fP)(aM:bj)(xs:List c3)(bX:List aj):Prop:=∀(j:Nat) (y:aj),bX[j]? =E y→∃(x:c3) (a:bj),xs[j]? =E x∧y=gO a∧aM<a∧h.get? a=E (gN [x.key,x.val] 0)
theorem Got.up {xs:List c3}{bX:List aj}(g:Got h aM xs bX)(k:∀a o,aM<a→h.get? a=E o→h'.get? a=E o):Got h' aM xs bX:=fun j y e=>by refine dB (g j y e) fun x a bS=>?_;refine kR bS fun aW aJ cI eU=>?_;clear bS;exact⟨x,a,aW,aJ,cI,k a _ cI eU⟩
theorem Got.snoc {xs:List c3}{bX:List aj}{x:c3}(g:Got h aM xs bX)(aS:xs[bX.length]? =E x)(aC:aM<a)(e:h.get? a=E (gN [x.key,x.val] 0)):Got h aM xs (bX++[.ref a]):=fun j y q=>by
 rcases Bs j bX.length with c|c
 .rw[List.getElem?_append_left c] at q;exact g j y q
 .rw[List.getElem?_append_right c] at q;have cn:j=bX.length:=by have:=(List.getElem?_eq_some_iff.mp q).1;rw[List.length_singleton] at this;lia
  subst cn;rw[xU] at q;exact⟨x,a,aS,(fc q).symm,aC,e⟩
section
variable {cN d r:bj}{xs:List c3}{bZ:Result→aQ→Prop}
theorem Yy (bC:A.handled=none)(vU:cN<aM)(zg:d≠cN)(WK:d≠aM)(aL:xs.length≤sizeLine)(sb:aj){h₁:fP}
 (ak:∀h' dj bX c,(∀b o,b≠cN→b≠aM→h₁.get? b=E o→h'.get? b=E o)→h'.get? cN=E (listOf bX.toArray c)→bX.length=xs.length→Got h' aM xs bX→bZ (.ok (.ret sb)) {s with heap:=h',toks:=dj}):
 ∀(k:Nat) (h:fP) (dj c:Nat) (bX:List aj),bX.length+k=xs.length→pV h aM d bX.length xs.length ep→h.get? d=E (dictOf xs ep)→(∀b o,b≠cN→b≠aM→h₁.get? b=E o→h.get? b=E o)→
  h.get? cN=E (listOf bX.toArray c)→Got h aM xs bX→aM<h.objs.size→codeAny (model O w) A (.builtin "list.extend.loop" ⟨[.ref cN,.ref aM,sb],[]⟩) bZ {s with heap:=h,toks:=dj}:=by
 have jp:cN≠aM:=nz vU;intro k
 induction k with
 |zero=>
  intro h dj c bX aB st ew keep bb jo ab;refine u0 PySem.F.entry_extend_loop ?_;rw[q7 PySem.F.plain_extend_loop _];refine(?_:wpAny _ A.in1 (pyNext (.ref aM)>>=_) _ _ _);refine ae (Ys (s:={s with heap:=h,toks:=dj}) (A:=A.in1) bC st ew (List.getElem?_eq_none (by lia)) fun h' he=>?_)
  exact aX (ak h' dj bX c (fun b o R Z e=>he b o Z (keep b o R Z e)) (he cN _ jp bb) aB (jo.up fun a o aC e=>he a o (oL aC) e))
 |succ k aF=>
  intro h dj c bX aB st ew keep bb jo ab;obtain⟨x,aS⟩:∃x,xs[bX.length]? =E x:=⟨_,List.getElem?_eq_getElem (by lia)⟩;refine u0 PySem.F.entry_extend_loop ?_;rw[q7 PySem.F.plain_extend_loop _];refine(?_:wpAny _ A.in1 (pyNext (.ref aM)>>=_) _ _ _);refine ae (Yt (s:={s with heap:=h,toks:=dj}) st ew aS fun h' el cW hz mg=>?_)
  have qg:=mg cN _ jp bb;have up:∀b o,b≠cN→h'.get? b=E o→(h'.update cN (Obj.mapSeq (·.push (gO h.objs.size)))).get? b=E o:=fun b o az e=>(BI _ _ (Ne.symm az)).trans e;have JZ:=l1 (Obj.mapSeq (·.push (gO h.objs.size))) qg rfl;have J1:cN<h.objs.size:=ia bb;refine(?_:wpAny _ A.in1 (updateSeq cN (·.push (gO h.objs.size))>>=_) _ _ _);refine ae ?_;have ck:pV (h'.update cN (Obj.mapSeq (·.push (gO h.objs.size)))) aM d (bX++[gO h.objs.size]).length xs.length ep:=by
   rw[List.length_append];refine el.keep (BI _ _ jp) fun a o e=>?_
   by_cases q:a=cN
   .exact⟨_,by rw[q];exact JZ⟩
   .exact⟨o,up a o q e⟩
  refine x1 qg rfl (aX ⟨q5 PySem.F.plain_extend_loop _,aF _ dj (c+1) (bX++[.ref h.objs.size]) (by rw[List.length_append,List.length_singleton];lia) ck (up d _ zg (mg d _ WK ew)) (fun b o R Z e=>up b o R (mg b o Z (keep b o R Z e)))
   (by rw[JZ];simp[Obj.mapSeq,List.push_toArray]) (Got.snoc (jo.up fun a o aC e=>up a o (oL (sJ vU aC)) (mg a o (oL aC) e)) aS ab (up _ _ (oL J1) cW)) (sJ ab (ia (up _ _ (oL J1) cW)))⟩) ?_ ?_
  .rw[List.size_toArray];lia
  .refine(?_:(bX.toArray.push _).size≤_);rw[Array.size_push,List.size_toArray];lia
end
section
variable {d r:bj}{xs:List c3}
theorem Yx (co:s.heap.IsItemsView r d)(hm:s.heap.get? d=E (dictOf xs ep))(h2:Q (.ref s.heap.objs.size) {s with heap:=s.heap.push (qv d 0 xs.length ep .none .none .none false)}):wpAny (model O w) A (pyIter (.ref r)) Q b1 s:=by
 refine gy (id co) fun gg XO ahf Xe=>u6 co.typeIs PySem.F.slot_dict_items_iter (hp PySem.F.slot_dict_items_iter co.typeIs PySem.F.entry_dict_items_iter ?_ (PySem.F.args_dict_items_iter_1 _));unfold Builtin.«dict_items.__iter__»;refine ae (aX (ae ?_));unfold Builtin.Dict_items.dictOf;refine ae (h9 XO Xe (x:=.ref d) rfl (aX (ae ?_)));unfold Builtin.Dict_items.newIterator;refine ae (mN hm rfl (ae (ll hm rfl ?_)));simp only[show Builtin.Dict_items.ownsTuple "dict_itemiterator"=true by decide,if_true];refine jB (aX ⟨_,rfl,"dict_itemiterator",_,⟨_,g5 _ rfl,rfl⟩,PySem.F.slot_dict_itemiterator_next.lookup,?_⟩)
  (by simp only[sizeOk,Builtin.Dict_items.ownedTupleFields,List.size_toArray,List.length_append,List.length_cons,List.length_nil,By];lia)
 simpa [rawInt,Builtin.Dict_items.ownedTupleFields,qv] using h2
theorem Yw {cN:bj}{bZ:Result→aQ→Prop}(bC:A.handled=none)(co:s.heap.IsItemsView r d)(hm:s.heap.get? d=E (dictOf xs ep))(WN:cN≠r)(zg:d≠cN)(sb:aj)(bb:s.heap.get? cN=E (listOf ([]:List aj).toArray 0))
 (ak:∀h' dj bX c,(∀b o,b≠cN→s.heap.get? b=E o→h'.get? b=E o)→h'.get? cN=E (listOf bX.toArray c)→bX.length=xs.length→Got h' s.heap.objs.size xs bX→bZ (.ok (.ret sb)) {s with heap:=h',toks:=dj})(aL:xs.length≤sizeLine):
 wpAny (model O w) A.in1 (Builtin.List.listExtendWith (.ref cN) (.ref r) sb)
  (fun fin s'=>match fin with|.done f=>bZ (.ok f) s'|.again gQ=>gQ.quiet=true∧codeAny (model O w) A gQ bZ s') (fun e s'=>bZ (.error e) s') s:=by
 have vU:cN<s.heap.objs.size:=ia bb;have W5:d<s.heap.objs.size:=ia hm;have key:∀(h:fP) (yS dj:Nat),(∀b o,b≠cN→(s.heap.push (qv d 0 xs.length ep .none .none .none false)).get? b=E o→h.get? b=E o)→
  h.get? cN=E (listOf ([]:List aj).toArray yS)→codeAny (model O w) A (.builtin "list.extend.loop" ⟨[.ref cN,.ref s.heap.objs.size,sb],[]⟩) bZ {s with heap:=h,toks:=dj}:=fun h yS dj aB qh=>by
  have ab:=aB s.heap.objs.size _ (oL vU) (g5 _ rfl);exact Yy (xs:=xs) (ep:=ep) (s:=s) (h₁:=s.heap) bC vU zg (nz W5) aL sb (fun h' age bX c kD=>ak h' age bX c fun b o az e=>kD b o az (nz (ia e)) e)
   xs.length h dj yS [] (GK _) ⟨.none,.none,.none,false,ab,.inl ⟨rfl,rfl⟩⟩ (aB d _ zg (fv _ hm)) (fun b o az _ e=>aB b o az (fv _ e)) qh (fun j y e=>by exact c5 e) (ia ab)
 unfold Builtin.List.listExtendWith;refine ae (u9 (T:="dict_items") co.typeIs ?_);have R:Builtin.List.listSameRef (.ref cN) (.ref r)=false:=by simp[Builtin.List.listSameRef,WN]
 have Z:(cC "dict_items"==cC "list")=false:=by decide
 have bv:(cC "dict_items"==cC "tuple")=false:=by decide
 rw[R,Z,bv,uV];refine ae (Yx co hm ?_);have qh:=fv (qv d 0 xs.length ep .none .none .none false) bb;refine ae (ga (kdx_hint (let ⟨o,ax,aI,_⟩:=co;⟨o,fv _ ax,aI⟩) ?_));refine oO (fun _=>?_) (fun _=>aX ⟨q5 PySem.F.plain_extend_loop _,key _ 0 _ (fun b o _ e=>e) qh⟩);refine ae (iv (ae ?_));refine(?_:wpAny _ _ (updateSeq cN (·.push .none)>>=fun _=>updateSeq cN (·.pop)) _ _ _);refine ae (x1 qh rfl ?_);have J2:=l1 (Obj.mapSeq (·.push cf)) qh rfl;refine x1 (hz:=by seq_fits) J2 rfl ?_;have WO:=l1 (Obj.mapSeq (·.pop)) J2 rfl;refine aX ⟨q5 PySem.F.plain_extend_loop _,key _ _ _ (fun b o az e=>?_) WO⟩;exact(BI _ _ (Ne.symm az)).trans ((BI _ _ (Ne.symm az)).trans e)
theorem Yv {bZ:List aj→aQ→Prop}(bC:A.handled=none)(co:s.heap.IsItemsView r d)(hm:s.heap.get? d=E (dictOf xs ep))(aL:xs.length≤sizeLine)
 (h:∀(h':fP) (dj:Nat) (bX:List aj),(∀b o,s.heap.get? b=E o→h'.get? b=E o)→bX.length=xs.length→Got h' s.heap.objs.size xs bX→bZ bX {s with heap:=h',toks:=dj}):
 wpAny (model O w) A (collect (.ref r)) bZ b1 s:=by
 have am:r<s.heap.objs.size:=let ⟨_,ax,_⟩:=co;ia ax;have hd:d<s.heap.objs.size:=ia hm;unfold collect;refine ae (wpAny_runValue (u0 entry_proto_collect' ?_));rw[q7 PySem.F.plain_proto_collect _];refine(?_:wpAny _ A.in1 (newList []>>=fun l=>again (.builtin "list.__iadd__" ⟨[l,.ref r],[]⟩)) _ _ s);refine ae (jB (aX ⟨q5 PySem.F.plain_list_iadd _,u0 entry_list_iadd' ?_⟩));rw[q7 PySem.F.plain_list_iadd _];have J0:(s.heap.push {cls:=.type "list",data:=.seq ([]:List aj).toArray}).objs.size=s.heap.objs.size+1:=x2 _ _;have zH:∀b o,s.heap.get? b=E o→(s.heap.push {cls:=.type "list",data:=.seq ([]:List aj).toArray}).get? b=E o:=fun b o e=>fv _ e;have qh:(s.heap.push {cls:=.type "list",data:=.seq ([]:List aj).toArray}).get? s.heap.objs.size=E (listOf ([]:List aj).toArray 0):=g5 _ rfl;generalize s.heap.push {cls:=.type "list",data:=.seq ([]:List aj).toArray}=h₁ at J0 zH qh;have ed:s.heap.objs.size<h₁.objs.size:=J0▸jx _;have key:=Yw (O:=O) (w:=w) (A:=A) (s:={s with heap:=h₁}) (cN:=s.heap.objs.size)
  (bZ:=fun(q:Result) (s':aQ)=>∃(h':fP) (dj:Nat) (bX:List aj) (c:Nat),q=.ok (.ret (.ref s.heap.objs.size))∧s'={s with heap:=h',toks:=dj}∧(∀b o,s.heap.get? b=E o→h'.get? b=E o)∧h'.get? s.heap.objs.size=E (listOf bX.toArray c)∧
   bX.length=xs.length∧Got h' s.heap.objs.size xs bX)
  bC (let ⟨o,ax,x⟩:=co;⟨o,zH _ _ ax,x⟩) (zH _ _ hm) (oL am) (nz hd) (.ref s.heap.objs.size) qh
  (fun h' dj bX c aB qg ar jo=>⟨h',dj,bX,c,rfl,rfl,fun b o e=>aB b o (nz (ia e)) (zH b o e),qg,ar,fun j y q=>by exact nx (jo j y q) fun x a aW aJ cI eU=>⟨x,a,aW,aJ,sJ ed cI,eU⟩⟩) aL
 refine(?_:wpAny _ A.in1 (Builtin.List.listExtendWith (.ref s.heap.objs.size) (.ref r) (.ref s.heap.objs.size)) _ _ _);refine sN key (fun fin s' x=>?_) fun e s' x=>?_
 .cases fin with
  |done f=>refine lu x fun h' dj bX c bS=>yz bS fun e pt aB qg ar jo=>?_;clear bS x;subst pt;cases e;refine(?_:wpAny _ A (load s.heap.objs.size>>=_) _ _ _);exact ae (nD qg (aX (h h' dj bX aB ar jo)))
  |again yS=>refine⟨x.1,codeAny_mono x.2 fun q eh y=>lu y fun h' dj bX c bS=>yz bS fun eG pt aB qg ar jo=>?_⟩;clear bS y;subst eG;subst pt;refine(?_:wpAny _ A (load s.heap.objs.size>>=_) _ _ _);exact ae (nD qg (aX (h h' dj bX aB ar jo)))
 .refine uP x fun c6 cg b8 eO cL pt=>?_;clear x c6 cg b8 eO pt;cases cL
end
theorem agC:typeOf (.builtin "dict.items")=pure (.type "method_descriptor"):=by show builtinType _=_;rw[builtinType_eq_fast];kernel_rfl
theorem Yz {d:bj}{xs:List c3}(hd:(d==sysModules)=false)(hm:s.heap.get? d=E (dictOf xs ep))
 (h:Q (.ref s.heap.objs.size) {s with heap:=s.heap.push {cls:=.type "dict_items",data:=.fields #[.ref d]}}):wpAny (model O w) A (call (.builtin "dict.items") [.ref d]) Q b1 s:=by
 refine hp PySem.F.slot_dict_items (fo hm) PySem.F.entry_dict_items ?_ (PySem.F.args_dict_items_1 _);unfold Builtin.«dict.items»;refine ae ?_;unfold Builtin.Dict.noArgs;refine ae (q6 (fo hm) ?_);refine(?_:wpAny _ _ (pure d) _ _ s);refine aX ?_;refine(?_:wpAny _ _ (Builtin.Dict.showsAll d>>=_) _ _ s);unfold Builtin.Dict.showsAll;rw[if_neg (by rw[hd];exact d7)];exact ae (aX (ae (jB (aX ⟨_,rfl,h⟩))))
theorem WF:∀{xs:List c3} {bX:List aj} {h h':fP} {aM:bj},de w.params ρ h es xs→eL ρ ρ h h'→rg ρ h→bX.length=xs.length→Got h' aM xs bX→bJ ρ h' (es.map fun e=>.tup [e.1,e.2]) bX:=by
 induction es with
 |nil=>intro xs bX h h' aM cS p hB ar g;cases cS;cases bX;exact .nil;cases ar
 |cons e es aF=>
  intro xs bX h h' aM cS p hB ar g;cases cS with
  |cons a b _ r=>
   induction bX using List.casesOn with
   |nil=>cases ar
   |cons y bX=>refine nx (g 0 y rfl) fun x ad aW eO cI eU=>?_;subst eO;obtain rfl:=cE aW;refine .cons ?_ (aF r p hB (lY ar) fun j y q=>g (j+1) y q);exact .tup eU (.cons (a.mono p hB) (.cons (b.mono p hB) .nil))
set_option tactic.hygienic true in
theorem ad5 (ok:B.Ok)(bC:A.handled=none)(bx:A.units+20<cLine){o:aY}{y:aG}{p2:Pos}(n:ve B I "sorted" (.builtin "sorted"))(az:oY o=true)(ar:(iC.endLine==p2.line)=true)(ax:cV O w B C A I ay o y):
 cV O w B C A I ay (.Call (.Name "sorted" k2) [.Call (.Attribute o "items" iC) [] [] p2] [] p) (.items y):=fun ah loc H ρ s Q K h r q=>by
 refine Ai (Et ok n r (Aj (by rfl) ?_));refine(?_:aO O w A (spliced ((false,eval (.Call (.Attribute o "items" iC) [] [] p2) I)::backTo p (starEach [] I))) _ _);refine qL<|M3 az ar rfl (by decide) (ax ah loc H ρ s _ _ h r fun a aq bP gg s1 R bt lW bk=>?_)
 have cJ:=r.step bk bt;unfold KR at R
 split at R
 .refine lW.hl fun ad qj=>?_
  split at R
  .rename_i es k e
   refine j1 R fun aE R=>xz (bt.dict qj e) fun xs eY cS aD hX=>?_;have hm:=cJ.mods ok.dE ad (List.mem_of_getElem? qj);refine⟨"dict","dict.items",PySem.F.plainAttrs_dict,PySem.F.slot_dict_items,agC,fo eY,fun a e=>by cases e;exact⟨_,eY,rfl⟩,cU (va ?_)⟩;refine cU (Yz hm eY (cU (va ⟨DZ,?_⟩)));have j6:es.length≤4:=by have:=(aeX aE).1;rwa [List.length_map] at this
   have ba:∀b o,s1.heap.get? b=E o→(s1.heap.push {cls:=.type "dict_items",data:=.fields #[.ref ad]}).get? b=E o:=fun b o e=>fv _ e;have P1:(s1.heap.push {cls:=.type "dict_items",data:=.fields #[.ref ad]}).get? s1.heap.objs.size=E {cls:=.type "dict_items",data:=.fields #[.ref ad]}:=g5 _ rfl;generalize s1.heap.push {cls:=.type "dict_items",data:=.fields #[.ref ad]}=Z at ba P1;have abP:eL bP bP s1.heap Z:=⟨⟨[],by simp,fun _ h=>nomatch h⟩,fun b o e _ _=>ba b o e⟩;have cq:bz w.params bP aq Z:=bt.other (fun b az=>by refine dm (bt.lt az) fun o e=>?_;rw[e,ba b o e]) abP
   refine xz (cq.dict qj e) fun Qb dX Jw eO eG=>?_;clear eO eG;refine cU (O1 (s:={s1 with heap:=Z}) bx cq aE (fun {x5} {b1} {bZ} Xt ak=>Yv (s:={s1 with heap:=Z}) (Xt.trans bC) ⟨_,P1,rfl,rfl⟩ dX (by rw[←Jw.length,By];lia) fun h' dj bX gH ar g=>ak h' dj bX gH (WF Jw ⟨⟨[],by simp,fun _ h=>nomatch h⟩,fun b o e _ _=>gH b o e⟩ cq.di ar g)) fun bQ h' t ys c mZ gH cL c7=>?_)
   refine Al (s:=s1) bt (q.after bk) R ?_ (fun b o e=>gH b o (ba b o e)) cL fun p=>tY c7.grow c;exact none_of ba mZ
  .exact R.elim
 .exact R.elim
structure jX where
 aD:List (Str×g4)
 vars:List Str
variable {cx:jX}
structure nL where
 isFn:Str→Bool
 DS:Str→Bool
noncomputable def idx:List Str→Str→Option Nat
 | [],_=>none
 |a::r,x=>match a==x with|true=>E 0|false=>(idx r x).map (· +1)
noncomputable def n6 (aD:List (Str×g4))(x:Str)(k:g4):Bool:=aD.lookup x==E k
noncomputable def t6 (x:Str):Bool:= !(x==("__debug__":Str))
noncomputable def fm {a4:Type}(b:Bool)(o:Option a4):Option a4:=match b with|true=>o|false=>none
noncomputable def lJ:aY→Option (Str×Pos)
 |.Name x p=>E (x,p)
 |_=>none
noncomputable def vu:aY→Option (aY×Str×Pos)
 |.Attribute o n p=>E (o,n,p)
 |_=>none
noncomputable def CE:aY→Option (aY×List aY×List Keyword×Pos)
 |.Call f a k p=>E (f,a,k,p)
 |_=>none
noncomputable def FP:aY→Option (aY×aY×Pos)
 |.Subscript o i p=>E (o,i,p)
 |_=>none
noncomputable def gM:aY→Option (List aY×Nat×Pos)
 |.Tuple es k p=>E (es,k,p)
 |_=>none
noncomputable def I1:aY→Option (Const×Nat×Pos)
 |.Constant c k p=>E (c,k,p)
 |_=>none
noncomputable def Ea:aY→Option (aY×List sL×oN×Pos)
 |.ListComp e g s p=>E (e,g,s,p)
 |_=>none
noncomputable def sk:aY→Option (Option aY×Option aY×Option aY×Pos)
 |.Slice l u s p=>E (l,u,s,p)
 |_=>none
noncomputable def one {a4:Type}:List a4→Option a4
 | [a]=>E a
 |_=>none
noncomputable def rZ {a4 eI:Type}(l:List a4)(o:Option eI):Option eI:=match l with
 | []=>o
 |_::_=>none
def Pw:Const→Option aG
 |.none=>E .none
 |.bool b=>E (.bool b)
 |.int i=>E (.int i)
 |.str x=>fm (fY x) (E (.str (a7 x)))
 |.bytes b=>fm (dg b.length 1000000) (E (.bytes (b.map fun u=>(u.toNat:Int))))
 |_=>none
def F3 (cx:jX)(x:Str):Option aG:=match idx cx.vars x with
 |some i=>E (.loc i)
 |none=>fm (fY x&&t6 x&&n6 cx.aD x .globalImplicit) (E (.glob (a7 x)))
def qV (f:aY→Option aG):List aY→Option gP
 | []=>E .nil
 |e::es=>fm (jR e) ((f e).bind fun x=>(qV f es).map fun xs=>.cons x xs)
def L3:Const→Option V
 |.int i=>E (.int i)
 |.str x=>fm (fY x) (E (.str (a7 x)))
 |_=>none
def F2:List (Option aY)→Option (List V)
 | []=>E []
 |k::r=>(k.bind I1).bind fun c=>(L3 c.1).bind fun v=>(F2 r).map fun aD=>v::aD
noncomputable def nq (f:aY→Option aG):Option aY→Option aG
 |none=>E .none
 |some e=>f e
noncomputable def freeOf:List (Str×g4)→List Str
 | []=>[]
 |(n,.free)::r=>n::freeOf r
 |_::r=>freeOf r
noncomputable def r9 (aD names:List (Str×g4)):List (Str×g4):=names.map fun(n,k)=>if(k==sP&&aD.lookup n==E .cell)=true then(n,G5) else(n,k)
noncomputable def wV:List Str→Bool
 | []=>true
 |a::r=> !(r.contains a)&&wV r
def CG (cx:jX)(scope:oN)(x:Str):Bool:=
 scope.kind== .function&&(scope.names.all fun p=>p.2 != .local||scope.names.lookup p.1==E .local)&&n6 scope.names x .local&&(scope.names.all fun p=>p.2 != .cell)&&
 ((freeOf scope.names).all fun y=>n6 cx.aD y .cell&&scope.names.lookup y==E .free&&(idx cx.vars y).isSome)&&wV (freeOf scope.names++[x])&&((freeOf scope.names++[x]).all t6)
def tJ (cx:jX)(scope:oN)(x:Str):jX:=⟨r9 cx.aD scope.names,freeOf scope.names++[x]⟩
def ti (cx:jX)(scope:oN):List Nat:=(freeOf scope.names).map fun y=>(idx cx.vars y).getD 0
noncomputable def acz (f:aY→Option aG):List aY→Option aG
 | [e]=>(f e).map fun b=>.range (.int 0) b (.int 1)
 | [e,cL]=>(f e).bind fun a=>(f cL).map fun b=>.range a b (.int 1)
 | [e,cL,Jf]=>(f e).bind fun a=>(f cL).bind fun b=>(f Jf).map fun c=>.range a b c
 |_=>none
noncomputable def Nj:aG→Bool
 |.range _ _ _=>false
 |_=>true
def IS (e:aY):Option (Str×List aY):=(CE e).bind fun c=>(lJ c.1).bind fun n=>rZ c.2.2.1 (E (n.1,c.2.1))
def EY (e:aY):Option (List aY):=(IS e).bind fun c=>fm (c.1==("range":Str)) (E c.2)
def A8 (f:aY→Option aG)(cx:jX)(bW:aY):Option aG:=match EY bW with
 |some args=>fm (n6 cx.aD "range" .globalImplicit&&args.all jR&&(idx cx.vars "range").isNone) (acz f args)
 |none=>(f bW).bind fun x=>fm (Nj x) (E x)
def itemsOf (l:List aY):Option aY:=(one l).bind fun e=>(CE e).bind fun c=>rZ c.2.1 (rZ c.2.2.1 ((vu c.1).bind fun a=>fm (a.2.1==("items":Str)&&oY a.1&&a.2.2.endLine==c.2.2.2.line) (E a.1)))
noncomputable def Px (f:aY→Option aG):List aY→Option aG
 | []=>E (.bool true)
 | [c]=>f c
 |_=>none
def PB (f:aY→Option aG)(g:nL)(cx:jX)(x:Str)(args:List aY):Option aG:=fm (n6 cx.aD x .globalImplicit&&t6 x&&args.all jR) (match g.isFn x with
 |true=>(qV f args).map fun xs=>.call (a7 x) xs
 |false=>(match(fm (x==("sorted":Str)) (itemsOf args)) with
  |some o=>(f o).map fun y=>.items y
  |none=>(Ct.lookup x).bind fun b=>(qV f args).map fun xs=>.bi b xs))
def PA (f:aY→Option aG)(o:aY)(name:Str)(iC p:Pos)(args:List aY):Option aG:=fm ((name==("append":Str)||name==("get":Str))&&oY o&&iC.endLine==p.line&&args.all jR&&d3 args.length 29)
 ((f o).bind fun x=>(qV f args).map fun xs=>.lI x (a7 name) xs)
noncomputable def Yl:BoolOp→Bool
 |.And=>true
 |.Or=>false
def dP:Nat→nL→jX→aY→Option aG
 |0,_,_,_=>none
 |n+1,g,cx,e=>match e with
  |.Constant c _ _=>Pw c
  |.Name x _=>F3 cx x
  |.BinOp l op r _=>(dP n g cx l).bind fun a=>(dP n g cx r).map fun b=>.bin op a b
  |.UnaryOp op e _=>(match op with|.USub=>(dP n g cx e).map .neg|.Not=>(dP n g cx e).map .not|_=>none)
  |.BoolOp op es p=>(match es with
   | []=>none
   | [e]=>dP n g cx e
   |e::cL::r=>(dP n g cx e).bind fun a=>(dP n g cx (.BoolOp op (cL::r) p)).map fun b=>match Yl op with|true=>.and a b|false=>.or a b)
  |.IfExp t a b _=>(dP n g cx t).bind fun x=>(dP n g cx a).bind fun y=>(dP n g cx b).map fun z=>.ite x y z
  |.Compare l uc Oj _=>(one uc).bind fun op=>(one Oj).bind fun r=>fm (!behindInMarks op r) ((dP n g cx l).bind fun a=>(dP n g cx r).map fun b=>.cmp op a b)
  |.Call fn args tQ p=>rZ tQ (match lJ fn with
   |some y=>PB (dP n g cx) g cx y.1 args
   |none=>(vu fn).bind fun a=>PA (dP n g cx) a.1 a.2.1 a.2.2 p args)
  |.Attribute o name _=>fm (oY o&&g.DS name) ((dP n g cx o).map fun x=>.attr x (a7 name))
  |.Subscript e i _=>(match sk i with
   |some s=>(dP n g cx e).bind fun x=>(nq (dP n g cx) s.1).bind fun a=>(nq (dP n g cx) s.2.1).bind fun b=>(nq (dP n g cx) s.2.2.1).map fun c=>.slice x a b c
   |none=>fm (!qt i) ((dP n g cx e).bind fun x=>(dP n g cx i).map fun y=>.sub x y))
  |.Tuple es _ _=>fm (dg es.length 1000) ((qV (dP n g cx) es).map .tup)
  |.List es _=>fm (dg es.length 1000) ((qV (dP n g cx) es).map .lst)
  |.Dict keys es _=>fm (dg keys.length 15&&c1 keys.length es.length) ((F2 keys).bind fun aD=>(qV (dP n g cx) es).map fun xs=>.dict aD xs)
  |.ListComp gT gens scope _=>(one gens).bind fun q=>(lJ q.target).bind fun y=>fm (q.is_async==0&&(CG cx scope y.1&&oe q.iter)) ((A8 (dP n g cx) cx q.iter).bind fun jU=>(dP n g (tJ cx scope y.1) gT).bind fun gZ=>(Px (dP n g (tJ cx scope y.1)) q.ifs).map fun fB=>.comp (ti cx scope) gZ jU fB)
  |_=>none
def idxs (ay:List Str):List aY→Option (List Nat)
 | []=>E []
 |e::r=>(lJ e).bind fun y=>(idx ay y.1).bind fun i=>(idxs ay r).map fun is=>i::is
def qZ (aD:List (Str×g4))(y:Str):Bool:=n6 aD y .local||n6 aD y .cell
def yD (aD:List (Str×g4))(l:List aY):Bool:=l.all fun e=>match lJ e with|some y=>qZ aD y.1|none=>false
noncomputable def EC:aY→Bool
 |.Tuple vs _ _=> !(vs.all (constantsAlone 8))
 |_=>true
def afJ (cx:jX)(y:Str)(p q:Pos)(scope:oN):Bool:=n6 cx.aD y .local&&p.line==q.line&& !(scope.names.any fun(n,k)=>n==y&&(k== .local||k== .cell))
noncomputable def sv (f:iP→Option cN):List iP→Option fe
 | []=>E .nil
 |s::r=>(f s).bind fun x=>(sv f r).map fun xs=>.cons x xs
noncomputable def JM:Option aY×Option aY×Option aY×Pos→Option (aY×aY)
 |(E l,E h,none,_)=>E (l,h)
 |_=>none
def F0 (f:aY→Option aG)(cx:jX)(y:Str)(p:Pos)(e:aY):Option cN:=match Ea e with
 |some c=>fm (afJ cx y p c.2.2.2 c.2.2.1) ((idx cx.vars y).bind fun i=>(f e).map fun x=>.asg i x)
 |none=>fm (!lE e&&qZ cx.aD y) ((idx cx.vars y).bind fun i=>(f e).map fun x=>.asg i x)
def F1 (f:aY→Option aG)(cx:jX)(o i e:aY):Option cN:=match(sk i).bind JM with
 |some s=>fm (!lE e) ((f e).bind fun x=>(f o).bind fun y=>(f s.1).bind fun a=>(f s.2).map fun b=>.p3 y a b x)
 |none=>fm (!lE e&& !qt i) ((f e).bind fun x=>(f o).bind fun y=>(f i).map fun z=>.hK y z x)
def agi (f:aY→Option aG)(cx:jX)(es:List aY)(e:aY):Option cN:=fm (!lE e&&(yD cx.aD es&&EC e)) ((idxs cx.vars es).bind fun is=>fm (i4 is) ((f e).map fun x=>.hW is x))
def FZ (f:aY→Option aG)(g:nL)(cx:jX)(t e:aY)(q:Pos):Option cN:=match lJ t with
 |some y=>F0 f cx y.1 y.2 e
 |none=>match gM t with
  |some es=>agi f cx es.1 e
  |none=>match vu t with
   |some a=>fm (g.DS a.2.1) ((f e).bind fun x=>(f a.1).map fun y=>.yE y (a7 a.2.1) x)
   |none=>(FP t).bind fun s=>F1 f cx s.1 s.2.1 e
def uC:Nat→nL→jX→iP→Option cN
 |0,_,_,_=>none
 |n+1,g,cx,s=>match s with
  |.Assign ho e q=>(one ho).bind fun t=>FZ (dP n g cx) g cx t e q
  |.AugAssign t op e _=>(lJ t).bind fun x=>fm (qZ cx.aD x.1) ((idx cx.vars x.1).bind fun i=>(dP n g cx e).map fun z=>.aug i op z)
  |.Expr e _=>fm (!lE e) ((dP n g cx e).map .ex)
  |.If t a b _=>(dP n g cx t).bind fun x=>(sv (uC n g cx) a).bind fun y=>(sv (uC n g cx) b).map fun z=>.iff x y z
  |.While t a o _=>rZ o ((dP n g cx t).bind fun x=>(sv (uC n g cx) a).map fun y=>.xw x y)
  |.For t bW a o _=>rZ o (fm (oe bW) ((A8 (dP n g cx) cx bW).bind fun x=>(sv (uC n g cx) a).bind fun b=>(match lJ t with
   |some y=>fm (qZ cx.aD y.1) ((idx cx.vars y.1).map fun i=>.hN i x b)
   |none=>(gM t).bind fun es=>fm (yD cx.aD es.1) ((idxs cx.vars es.1).map fun is=>.tw is x b))))
  |.Break _=>E .brk
  |.Return e _=>(nq (dP n g cx) e).map .ret
  |.Delete ho _=>(one ho).bind fun t=>(FP t).bind fun s=>(dP n g cx s.1).bind fun y=>(dP n g cx s.2.1).map fun z=>.del y z
  |.Raise _ _ _=>E .err
  |_=>none
noncomputable def ZK (names:List (Str×g4)):List Str:=(names.filter fun p=>p.2== .local||p.2== .cell).map (·.1)
noncomputable def oq (fd:pK):List Str:=fd.params.args.map (·.arg)
def sB (fd:pK):List Str:=oq fd++(ZK fd.scope.names).filter fun x=> !(oq fd).contains x
def acf (p:Arguments):Bool:=p.posonlyargs.isEmpty&&p.vararg.isNone&&p.kwonlyargs.isEmpty&&p.kwarg.isNone
def A6 (g:nL)(fd:pK)(na:Nat)(defs:List V):Option cP:=match fd.body with
 |.stmts body=>fm (acf fd.params&& !fd.scope.isCoroutine&& !fd.scope.isGenerator&&fd.scope.kind== .function&&fd.closure.isEmpty&&wV (sB fd)&&(sB fd).all t6&&((oq fd).all fun x=>qZ fd.scope.names x)&&c1 (oq fd).length (na+defs.length))
  ((sv (uC 60 g ⟨fd.scope.names,sB fd⟩) body).map fun b=>⟨na,defs,(sB fd).length-(oq fd).length,b⟩)
 |_=>none
theorem fS {a4:Type}{o:Option a4}{x:a4}(h:fm b o=E x)(k:b=true→o=E x→G):G:=by
 induction b using eo with
 |false=>exact c5 h
 |true=>exact k rfl h
section
variable {aA:aY→Prop}
@[elab_as_elim] theorem rY {y:Str×Pos}(h:lJ e=E y)(k:aA (.Name y.1 y.2)):aA e:=by
 induction e using jW with
 |Name x p=>obtain rfl:=cE h;exact k
 |_=>exact c5 h
@[elab_as_elim] theorem Cr {y:aY×Str×Pos}(h:vu e=E y)(k:aA (.Attribute y.1 y.2.1 y.2.2)):aA e:=by
 induction e using jW with
 |Attribute o n p=>obtain rfl:=cE h;exact k
 |_=>exact c5 h
@[elab_as_elim] theorem IQ {y:aY×List aY×List Keyword×Pos}(h:CE e=E y)(k:aA (.Call y.1 y.2.1 y.2.2.1 y.2.2.2)):aA e:=by
 induction e using jW with
 |Call f a w p=>obtain rfl:=cE h;exact k
 |_=>exact c5 h
@[elab_as_elim] theorem Pd {y:aY×aY×Pos}(h:FP e=E y)(k:aA (.Subscript y.1 y.2.1 y.2.2)):aA e:=by
 induction e using jW with
 |Subscript o i p=>obtain rfl:=cE h;exact k
 |_=>exact c5 h
@[elab_as_elim] theorem PI {y:List aY×Nat×Pos}(h:gM e=E y)(k:aA (.Tuple y.1 y.2.1 y.2.2)):aA e:=by
 induction e using jW with
 |Tuple es n p=>obtain rfl:=cE h;exact k
 |_=>exact c5 h
@[elab_as_elim] theorem Tb {y:Const×Nat×Pos}(h:I1 e=E y)(k:aA (.Constant y.1 y.2.1 y.2.2)):aA e:=by
 induction e using jW with
 |Constant c n p=>obtain rfl:=cE h;exact k
 |_=>exact c5 h
@[elab_as_elim] theorem Zr {y:aY×List sL×oN×Pos}(h:Ea e=E y)(k:aA (.ListComp y.1 y.2.1 y.2.2.1 y.2.2.2)):aA e:=by
 induction e using jW with
 |ListComp a b c d=>obtain rfl:=cE h;exact k
 |_=>exact c5 h
@[elab_as_elim] theorem OS {y:Option aY×Option aY×Option aY×Pos}(h:sk e=E y)(k:aA (.Slice y.1 y.2.1 y.2.2.1 y.2.2.2)):aA e:=by
 induction e using jW with
 |Slice a b c d=>obtain rfl:=cE h;exact k
 |_=>exact c5 h
end
@[elab_as_elim] theorem ub {a4:Type}{aA:List a4→Prop}{l:List a4}{a:a4}(h:one l=E a)(k:aA [a]):aA l:=by
 induction l using List.casesOn with
 |nil=>exact c5 h
 |cons b r=>induction r using List.casesOn with
  |nil=>obtain rfl:=cE h;exact k
  |cons _ _=>exact c5 h
@[elab_as_elim] theorem t5 {a4 eI:Type}{aA:List a4→Prop}{l:List a4}{o:Option eI}{b:eI}(h:rZ l o=E b)(k:o=E b→aA []):aA l:=by
 induction l using List.casesOn with
 |nil=>exact k h
 |cons _ _=>exact c5 h
theorem qq:∀{l:List Str} {x:Str} {i:Nat},idx l x=E i→l[i]? =E x
 |a::r,x,i,h=>by
  unfold idx at h;cases e:a==x with
  |true=>rw[e] at h;obtain rfl:=cE h;rw[beq_iff_eq.mp e];rfl
  |false=>
   rw[e] at h;refine eB h fun j cn=>?_
   simpa using qq cn
theorem Ez:∀{l:List Str},wV l=true→l.Nodup
 | [],_=>List.nodup_nil
 |a::r,h=>by unfold wV at h;rw[fH,km] at h;exact List.nodup_cons.mpr ⟨fun hm=>(by have:=h.1;rw[List.contains_iff_mem.mpr hm] at this;exact j9 this),Ez h.2⟩
theorem tm {x:Str}(h:t6 x=true):(x==("__debug__":Str))=false:=by unfold t6 at h;rwa [km] at h
theorem rO {aD:List (Str×g4)}{x:Str}{k:g4}(h:n6 aD x k=true):aD.lookup x=E k:=beq_iff_eq.mp h
structure iR (I:Env)(aD:List (Str×g4)):Prop where
 kind:I.scope.kind=.function
 names:I.scope.names=aD
 cells:∀x,aD.lookup x=E .cell→(I.cells.lookup x).isSome=true
theorem iR.iG {aD:List (Str×g4)}(e:iR I aD){x:Str}{k:g4}(h:n6 aD x k=true):I.kindOf x=E k:=by refine(?_:I.scope.names.lookup x=_);rw[e.names];exact rO h
theorem iR.wr {aD:List (Str×g4)}(e:iR I aD){x:Str}(h:qZ aD x=true):p1 I x:=by
 unfold qZ at h;rcases xG.mp h with h|h
 .exact .inl (e.iG h)
 .exact .inr ⟨e.iG h,e.cells x (rO h)⟩
noncomputable def qc (I:Env):List (Str×g4)→List (Str×bj)→Option (List (Str×bj))
 | [],b6=>E b6
 |(n,k)::r,b6=>match k==sP with
  |true=>(I.cells.lookup n).bind fun c=>qc I r ((n,c)::b6)
  |false=>qc I r b6
theorem S4 {cl:List (Str×bj)}(h:qc I scope.names []=E cl):closureFor scope I=pure cl:=by
 have key:∀(names:List (Str×g4)) (b6:List (Str×bj)),qc I names b6=E cl→
  (forIn names b6 fun(x:Str×g4) (cs:List (Str×bj))=>(if(x.2==sP)=true then(do let c←cellOf I x.1;pure (Bl ((x.1,c)::cs))) else pure (Bl cs):Sem (ForInStep (List (Str×bj)))))=pure cl:=by
  intro names
  induction names with
  |nil=>intro b6 h;obtain rfl:=cE h;rfl
  |cons p r aF=>
   intro b6 h;obtain⟨n,k⟩:=p;rw[List.forIn_cons];unfold qc at h;cases aB:k==sP with
   |true=>
    rw[aB] at h;refine dA h fun c aI h=>?_;have e:cellOf I n=pure c:=by unfold cellOf;rw[aI]
    simp only[aB,if_true,e];exact aF _ h
   |false=>rw[aB] at h;simp only[aB,Bool.false_eq_true,if_false];exact aF _ h
 unfold closureFor;have:=key scope.names [] h;rw[bind_pure];exact this
theorem S2:∀(names:List (Str×g4)) (b6:List (Str×bj)),(∀y∈freeOf names,(I.cells.lookup y).isSome=true)→(∀p∈b6,I.cells.lookup p.1=E p.2)→
 ∃cl,qc I names b6=E cl∧(∀p∈cl,I.cells.lookup p.1=E p.2)∧∀y,y∈freeOf names∨(b6.lookup y).isSome=true→(cl.lookup y).isSome=true:=fun names=>by
 induction names with
 |nil=>exact fun b6 _ aC=>⟨b6,rfl,aC,fun y h=>h.elim (fun h=>nomatch h) id⟩
 |cons p r aF=>
  obtain⟨n,k⟩:=p;intro b6 h aC;cases aB:k==sP with
  |true=>
   have kD:k=.free:=beq_iff_eq.mp aB;subst kD;refine dm (sK.mp (h n List.mem_cons_self)) fun c aI=>?_;refine dm (aF ((n,c)::b6) (fun y ct=>h y (List.mem_cons_of_mem _ ct)) (fun p a8=>by
    rcases List.mem_cons.mp a8 with rfl|a8
    .exact aI
    .exact aC p a8)) fun cl bS=>?_
   refine hJ bS fun R Z bv=>?_;clear bS;refine⟨cl,?_,Z,fun y ct=>bv y ?_⟩
   .unfold qc;rw[aB,aI];exact R
   .rw[List.lookup_cons];clear h aI R bv;rcases ct with ct|ct
    .rcases List.mem_cons.mp ct with rfl|ct
     .right;simp
     .exact .inl ct
    .right;split<;>first|rfl|exact ct
  |false=>
   have hf:freeOf ((n,k)::r)=freeOf r:=by clear h;cases k<;>first|rfl|exact j9 aB
   rw[hf] at h⊢;refine gy (aF b6 h aC) fun cl R Z bv=>⟨cl,?_,Z,bv⟩;unfold qc;rw[aB];exact R
theorem acF {aD names:List (Str×g4)}{y:Str}(h:names.lookup y=E .free)(aB:aD.lookup y=E .cell):(r9 aD names).lookup y=E .cell:=by
 unfold r9
 induction names with
 |nil=>exact c5 h
 |cons p r aF=>
  obtain⟨n,k⟩:=p;rw[List.lookup_cons] at h;rw[List.map_cons];cases e:y==n with
  |true=>rw[e] at h;obtain rfl:=cE h;have cL:y=n:=beq_iff_eq.mp e;subst cL;simp[aB]
  |false=>
   rw[e] at h;have:=aF h;dsimp only
   by_cases aI:(k==sP&&aD.lookup n==E .cell)=true
   .rw[if_pos aI,List.lookup_cons,e];exact this
   .rw[if_neg aI,List.lookup_cons,e];exact this
theorem acE {aD names:List (Str×g4)}{y:Str}(aL:∀p∈names,p.2≠.cell)(h:(r9 aD names).lookup y=E .cell):y∈freeOf names:=by
 unfold r9 at h
 induction names with
 |nil=>exact c5 h
 |cons p r aF=>
  obtain⟨n,k⟩:=p;rw[List.map_cons] at h;dsimp only at h;have am:=aF fun p a8=>aL p (List.mem_cons_of_mem _ a8);have sub:y∈freeOf r→y∈freeOf ((n,k)::r):=fun ct=>by clear aL h;cases k<;>first|exact ct|exact List.mem_cons_of_mem _ ct
  by_cases aI:(k==sP&&aD.lookup n==E .cell)=true
  .rw[if_pos aI,List.lookup_cons] at h;clear aL;cases e:y==n with
   |true=>rw[fH] at aI;have:k=.free:=beq_iff_eq.mp aI.1;clear sub aI;subst this;rw[beq_iff_eq.mp e];exact List.mem_cons_self
   |false=>rw[e] at h;exact sub (am h)
  .rw[if_neg aI,List.lookup_cons] at h;clear aI;cases e:y==n with
   |true=>rw[e] at h;clear sub;obtain rfl:=cE h;exact absurd rfl (aL _ List.mem_cons_self)
   |false=>rw[e] at h;exact sub (am h)
theorem Og {aD:List (Str×g4)}(dv:iR I aD)(scope:oN):(relabel scope I).names=r9 aD scope.names:=by
 unfold relabel r9;refine List.map_congr_left fun p _=>?_;have aB:∀n,I.kindOf n=aD.lookup n:=fun n=>by show I.scope.names.lookup n=_;rw[dv.names]
 simp only[dv.kind,aB,beq_self_eq_true,xF]
theorem Ta {x:Str}(dv:iR I cx.aD)(h:CG cx scope x=true):
 ∃cl,pO I cx.vars scope x (ti cx scope) (freeOf scope.names) cl∧∀bQ,iR (compEnvC scope cl bQ I) (tJ cx scope x).aD:=by
 unfold CG at h;simp only[fH,List.all_eq_true,beq_iff_eq] at h;refine b7 h fun c6 WI=>?_;clear h;refine b7 c6 fun iA n1=>?_;clear c6;refine b7 iA fun c6 gV=>?_;clear iA;refine b7 c6 fun iA cZ=>?_;clear c6;obtain⟨⟨R,Z⟩,bv⟩:=iA;have J9:∀p∈scope.names,p.2≠.cell:=fun p a8=>bne_iff_ne.mp (cZ p a8);refine gy (S2 (I:=I) scope.names [] (fun y ct=>dv.cells y (rO (gV y ct).1.1)) (fun p a8=>nomatch a8)) fun cl dC dU gn=>⟨cl,⟨R,fun y ct ar=>?_,rO bv,J9,S4 dC,dU,fun i y ct=>?_,by simp[ti],Ez n1,fun y ct=>tm (WI y ct)⟩,fun bQ=>⟨R,Og dv scope,fun y ct=>?_⟩⟩
 .have:=Z y ct;rw[ar,uU] at this;rcases this with q|q
  .exact absurd rfl (bne_iff_ne.mp q)
  .exact beq_iff_eq.mp q
 .have hm:=List.mem_of_getElem? ct;refine b7 (gV y hm) fun c6 bR=>b7 c6 fun ba bK=>?_;clear c6;refine dm (sK.mp bR) fun j cn=>⟨j,?_,qq cn,dv.iG ba,?_,?_⟩
  .unfold ti;rw[List.getElem?_map,ct];refine(?_:E ((idx cx.vars y).getD 0)=E j);rw[cn];rfl
  .rw[Og dv];exact acF bK (rO ba)
  .refine dm (sK.mp (gn y (.inl hm))) fun c aI=>?_;rw[aI,dU _ (PySem.mem_of_lookup aI)]
 .exact gn y (.inl (acE J9 ct))
structure kP (O:hS)(w:eJ)(B:gD)(C:hT)(A:fu)(g:nL)(fF:Nat→Option aj)(d:Nat):Prop where
 ok:B.Ok
 bC:A.handled=none
 bx:A.units+20+10*d<cLine
 hd:A.depth+60+2*d<recursionLimit
 cs:l3 O w B C d fF
 fn:∀x,g.isFn x=true→∃f,B.j8 x=E f∧fF (a7 x)=E f
 blt:∀x b,Ct.lookup x=E b→B.j8 x=none∧B.pf x=E (tf b)
 eQ:B.j8 "range"=none∧B.pf "range"=E (.type "range")
 attr:∀x,g.DS x=true→x7 B x
section
variable {g:nL}{d:Nat}
theorem kP.hO (G:kP O w B C A g fF d):A.units+20<cLine:=by have:=G.bx;lia
theorem R2 (bC:A.handled=none)(bx:A.units+20<cLine):∀b:mO,nI O w A (tf b) b
 |.len=>R5
 |.bytes=>R4 bC
 |.bytearray=>R3
 |.sum=>Sa bC
 |.sorted=>R9 bx
 |.list=>R6 bC
 |.min=>R8 bC
 |.max=>R7 bC
def H9 (O:hS)(w:eJ)(B:gD)(C:hT)(A:fu)(I:Env)(ay:List Str)(e:aY)(x:aG):Prop:=cV O w B C A I ay e x∧ST O w B C A I ay e x
def vn (O:hS)(w:eJ)(B:gD)(C:hT)(A:fu)(I:Env)(ay:List Str)(e:aY)(x:aG):Prop:=cV O w B C A I ay e x∧x.plain=true
def pN (O:hS)(w:eJ)(B:gD)(C:hT)(A:fu)(f:aY→Option aG)(I:Env)(ay:List Str):Prop:=∀e x,f e=E x→H9 O w B C A I ay e x
variable {f:aY→Option aG}
theorem aeT (G:kP O w B C A g fF d)(dv:iR I cx.aD){x:Str}{y:aG}(h:F3 cx x=E y):vn O w B C A I cx.vars (.Name x p) y:=by
 unfold F3 at h;cases e:idx cx.vars x with
 |some i=>rw[e] at h;obtain rfl:=cE h;exact⟨ad6 (qq e),rfl⟩
 |none=>rw[e] at h;refine fS h fun c h=>?_;obtain rfl:=cE h;exact b4 c fun c dU=>b4 c fun dC gn=>⟨ad2 G.ok dC (dv.iG dU) (tm gn),rfl⟩
theorem sg (H:pN O w B C A f I cx.vars):∀{es:List aY} {xs:gP},qV f es=E xs→oT O w B C A I cx.vars es xs
 | [],_,h=>by obtain rfl:=cE h;exact .nil
 |e::es,_,h=>by exact fS h fun c h=>dA h fun x aS h=>eB h fun xs wt=>.cons c (H e x aS).1 (sg H wt)
theorem not_of (h:(!b)=true):b=false:=by induction b using eo with|false=>rfl|true=>exact(d7 h).elim
theorem R1 (b:mO):(∃n,tf b=.builtin n)∨(∃n,tf b=.type n):=by cases b<;>first|exact .inl ⟨_,rfl⟩|exact .inr ⟨_,rfl⟩
theorem YQ {c:Const}{k:Nat}{r:List (Option aY)}(h:L3 c=E v)(aB:KeysAre r aD):KeysAre (E (.Constant c k p)::r) (v::aD):=by
 induction c using Const.casesOn with
 |int i=>obtain rfl:=cE h;exact .int aB
 |str x=>refine fS h fun c h=>?_;obtain rfl:=cE h;exact .str c aB
 |_=>exact c5 h
theorem YT {keys:List (Option aY)}:∀{aD:List V},F2 keys=E aD→KeysAre keys aD:=by
 induction keys with
 |nil=>intro aD h;obtain rfl:=cE h;exact .nil
 |cons k r aF=>intro aD h;refine dA h fun c aI h=>dA h fun v co h=>eB h fun aD aB=>dA aI fun e he aI=>?_;subst he;exact Tb aI<|YQ co (aF aB)
theorem abc {x:aG}(h:Nj x=true):∀a b c,x≠.range a b c:=fun a b c e=>by subst e;exact dW h
@[elab_as_elim] theorem SQ {aA:aY→Prop}{y:Str×List aY}(h:IS e=E y)(k:∀k2 p,aA (.Call (.Name y.1 k2) y.2 [] p)):aA e:=by
 refine dA h fun c aI h=>dA h fun n aL h=>IQ aI<|rY aL<|t5 h fun h=>?_
 obtain rfl:=cE h;exact k _ _
@[elab_as_elim] theorem acx {aA:aY→Prop}{y:List aY}(h:EY e=E y)(k:∀k2 p,aA (.Call (.Name "range" k2) y [] p)):aA e:=by refine dA h fun c aI h=>fS h fun dC h=>?_;obtain rfl:=cE h;refine SQ aI ?_;rw[beq_iff_eq.mp dC];exact k
theorem OQ (G:kP O w B C A g fF d)(dv:iR I cx.aD)(H:pN O w B C A f I cx.vars){x:aG}(h:A8 f cx bW=E x):nO O w B C A I cx.vars bW x:=by
 unfold A8 at h;cases e:EY bW with
 |none=>rw[e] at h;refine dA h fun y ct h=>fS h fun c h=>?_;obtain rfl:=cE h;exact aeB G.ok (abc c) (H bW _ ct).1
 |some args=>
  rw[e] at h;refine fS h fun c h=>b4 c fun c _=>b4 c fun dC ca=>?_;have oZ:ve B I "range" (.type "range"):=⟨dv.iG dC,by decide+kernel,G.eQ.1,G.eQ.2⟩;refine acx e fun k2 p=>?_;clear e
  induction args using List.casesOn with
  |nil=>exact c5 h
  |cons e r=>induction r using List.casesOn with
   |nil=>exact eB h fun b az=>Ff G.ok oZ ca (.inl ⟨_,rfl,rfl,rfl,(H _ _ az).1⟩)
   |cons cL r=>induction r using List.casesOn with
    |nil=>exact dA h fun a aC h=>eB h fun b az=>Ff G.ok oZ ca (.inr (.inl ⟨_,_,rfl,rfl,(H _ _ aC).1,(H _ _ az).1⟩))
    |cons Jf r=>induction r using List.casesOn with
     |nil=>exact dA h fun a aC h=>dA h fun b az h=>eB h fun c aI=>Ff G.ok oZ ca (.inr (.inr ⟨_,_,_,rfl,(H _ _ aC).1,(H _ _ az).1,(H _ _ aI).1⟩))
     |cons _ _=>exact c5 h
theorem FC (H:pN O w B C A f I cx.vars){e:Option aY}{x:aG}(h:nq f e=E x):sZ O w B C A I cx.vars e x:=by
 induction e using ez with
 |none=>obtain rfl:=cE h;exact aeZ
 |some e=>exact ae0 (H e x h).1
@[elab_as_elim] theorem Yu {aA:List aY→Prop}{o:aY}(h:itemsOf args=E o)(k:∀iC p,oY o=true→(iC.endLine==p.line)=true→aA [.Call (.Attribute o "items" iC) [] [] p]):aA args:=by
 refine dA h fun e he h=>ub he<|dA h fun c aI h=>IQ aI<|t5 h fun h=>t5 h fun h=>dA h fun a aC h=>Cr aC<|fS h fun c h=>?_
 obtain rfl:=cE h;refine b4 c fun c ar=>b4 c fun dC az=>?_;rw[beq_iff_eq.mp dC];exact k _ _ az ar
theorem adQ (G:kP O w B C A g fF d)(dv:iR I cx.aD)(H:pN O w B C A f I cx.vars){x:Str}{y:aG}(h:PB f g cx x args=E y):
 vn O w B C A I cx.vars (.Call (.Name x k2) args [] p) y:=by
 refine fS h fun c h=>b4 c fun c gn=>b4 c fun dC dU=>?_;cases e:g.isFn x with
 |true=>rw[e] at h;exact eB h fun xs aS=>dm (G.fn x e) fun v bS=>⟨adY G.ok G.cs G.bC G.bx G.hd (dv.iG dC) (tm dU) bS.1 bS.2 gn (sg H aS).xa,rfl⟩
 |false=>
  rw[e] at h;dsimp only at h;clear e;cases e:fm (x==("sorted":Str)) (itemsOf args) with
  |none=>rw[e] at h;exact dA h fun b az hz=>eB hz fun xs aS=>b7 (G.blt x b az) fun eP fR=>⟨adT G.ok ⟨dv.iG dC,tm dU,eP,fR⟩ (R1 b) gn (R2 G.bC G.hO b) (sg H aS).xa,rfl⟩
  |some o=>rw[e] at h;refine eB h fun z hz=>fS e fun aW aJ=>Yu aJ fun iC p2 az ar=>?_;obtain rfl:=beq_iff_eq.mp aW;exact b7 (G.blt "sorted" .sorted (by rfl)) fun eP fR=>⟨ad5 G.ok G.bC G.hO ⟨dv.iG dC,tm dU,eP,fR⟩ az ar (H o z hz).1,rfl⟩
theorem aeS (G:kP O w B C A g fF d)(H:pN O w B C A f I cx.vars){o:aY}{y:aG}(h:PA f o name iC p args=E y):
 vn O w B C A I cx.vars (.Call (.Attribute o name iC) args [] p) y:=by
 exact fS h fun c h=>b4 c fun c lp=>b4 c fun c iT=>b4 c fun c gn=>b4 c fun dC dU=>dA h fun x aS h=>eB h fun xs wt=>⟨ad8 G.ok G.hO ((xG.mp dC).imp beq_iff_eq.mp beq_iff_eq.mp) dU gn iT (d4 lp) (H o x aS).1 (sg H wt).xa,rfl⟩
theorem aeC (H:pN O w B C A f I cx.vars){fB:aG}(h:Px f fM=E fB):(fM=[]∧fB=.bool true)∨∃c,fM=[c]∧ST O w B C A I cx.vars c fB:=by
 induction fM using List.casesOn with
 |nil=>obtain rfl:=cE h;exact .inl ⟨rfl,rfl⟩
 |cons c r=>induction r using List.casesOn with
  |nil=>exact .inr ⟨_,rfl,(H _ _ h).2⟩
  |cons _ _=>exact c5 h
theorem plain2 {x:aG}(he:CS e=true)(h:vn O w B C A I ay e x):H9 O w B C A I ay e x:=⟨h.1,afx h.2 he h.1⟩
theorem agk {c:Const}{k:Nat}{x:aG}(h:Pw c=E x):vn O w B C A I ay (.Constant c k p) x:=by
 induction c using Const.casesOn with
 |none=>obtain rfl:=cE h;exact⟨aea,rfl⟩
 |bool b=>obtain rfl:=cE h;exact⟨adV,rfl⟩
 |int i=>obtain rfl:=cE h;exact⟨ad3,rfl⟩
 |str s=>refine fS h fun c h=>?_;obtain rfl:=cE h;exact⟨aee c,rfl⟩
 |bytes b=>refine fS h fun c h=>?_;obtain rfl:=cE h;exact⟨adX (d4 c),rfl⟩
 |_=>exact c5 h
@[elab_as_elim] theorem IZ (G:kP O w B C A g fF d)(aF:∀cx I,iR I cx.aD→pN O w B C A (dP n g cx) I cx.vars)(dv:iR I cx.aD){gens:List sL}{x:aG}
 (h:dP (n+1) g cx (.ListComp gT gens scope pos)=E x){aA:List sL→aG→Prop}
 (k:∀y nj iter fM cl jU gZ fB,oe iter=true→pO I cx.vars scope y (ti cx scope) (freeOf scope.names) cl→nO O w B C A I cx.vars iter jU→
  (∀bQ,cV O w B C A (compEnvC scope cl bQ I) (freeOf scope.names++[y]) gT gZ)→((fM=[]∧fB=.bool true)∨∃c,fM=[c]∧∀bQ,ST O w B C A (compEnvC scope cl bQ I) (freeOf scope.names++[y]) c fB)→aA [⟨.Name y nj,iter,fM,0⟩] (.comp (ti cx scope) gZ jU fB)):aA gens x:=by
 refine dA h fun q a9 h=>ub a9<|dA h fun y ct h=>fS h fun c h=>b4 c fun ca c=>b4 c fun dC dU=>dA h fun jU R h=>dA h fun gZ Z h=>eB h fun fB bv=>?_
 clear h a9 c;obtain⟨xl,iter,fM,ahc⟩:=q;obtain rfl:=beq_iff_eq.mp ca;replace ct:lJ xl=E y:=ct;refine rY ct<|dm (Ta dv dC) fun cl bS=>k _ _ _ _ cl jU gZ fB dU bS.1 (OQ G dv (aF cx I dv) R) (fun bQ=>(aF (tJ cx scope y.1) _ (bS.2 bQ) gT gZ Z).1)<|(aeC (aF (tJ cx scope y.1) _ (bS.2 0)) bv).imp id fun e=>e.elim fun gQ e=>⟨gQ,e.1,fun bQ=>?_⟩
 have aW:=e.1;clear ca dU R;subst aW;exact(aF (tJ cx scope y.1) _ (bS.2 bQ) gQ fB bv).2
theorem xn (G:kP O w B C A g fF d):∀(n:Nat) (cx:jX) (I:Env),iR I cx.aD→pN O w B C A (dP n g cx) I cx.vars:=by
 intro n
 induction n with
 |zero=>intro cx I dv e x h;exact c5 h
 |succ n aF=>
  intro cx I dv e x h;have aM:=aF cx I dv
  induction e using jW with
  |Constant c k p=>exact plain2 rfl (agk h)
  |Name y p=>exact plain2 rfl (aeT G dv h)
  |BinOp l op r p=>exact dA h fun a aC h=>eB h fun b az=>plain2 rfl ⟨adU (aM l a aC).1 (aM r b az).1,rfl⟩
  |UnaryOp op e p=>
   induction op using UnaryOp.casesOn with
   |USub=>exact eB h fun a aC=>plain2 rfl ⟨ad9 (aM e a aC).1,rfl⟩
   |Not=>exact eB h fun a aC=>⟨aeb (aM e a aC).1,afu (aM e a aC).2⟩
   |_=>exact c5 h
  |BoolOp op es p=>
   induction es using List.casesOn with
   |nil=>exact c5 h
   |cons e es=>
    induction es using List.casesOn with
    |nil=>
     refine b7 (aM e x h) fun R Z=>⟨adW R,?_⟩;clear h;cases op
     .exact afr Z
     .exact afw Z
    |cons cL r=>
     refine dA h fun a aC h=>eB h fun b az=>?_;cases op
     .exact⟨adR (aM e a aC).1 (aM _ b az).1,afq (aM e a aC).2 (aM _ b az).2⟩
     .exact⟨aec (aM e a aC).1 (aM _ b az).1,afv (aM e a aC).2 (aM _ b az).2⟩
  |IfExp t a b p=>exact dA h fun ja R h=>dA h fun jT Z h=>eB h fun nv bv=>⟨ad4 (aM t ja R).2 (aM a jT Z).1 (aM b nv bv).1,aft (aM t ja R).2 (aM a jT Z).2 (aM b nv bv).2⟩
  |Compare l uc Oj p=>
   refine dA h fun op ax h=>dA h fun r am h=>ub ax<|ub am<|fS h fun c h=>dA h fun a aC h=>eB h fun b az=>?_
   have aB:behindInMarks op r=false:=not_of c;exact⟨adZ G.ok.dE G.hO (aM l a aC).1 (aM r b az).1 aB,afs G.ok.dE G.hO (aM l a aC).1 (aM r b az).1 aB⟩
  |Call fn args tQ p=>
   refine t5 h fun h=>?_;cases e:lJ fn with
   |some y=>rw[e] at h;exact rY e (plain2 rfl (adQ G dv aM h))
   |none=>rw[e] at h;exact dA h fun a aC h=>Cr aC (plain2 rfl (aeS G aM h))
  |Attribute o name p=>exact fS h fun c h=>b4 c fun dC dU=>eB h fun a aC=>plain2 rfl ⟨adS G.ok (G.attr name dU) dC (aM o a aC).1,rfl⟩
  |Subscript e i p=>
   cases q:sk i with
   |some s=>
    replace h:(match sk i with
     |some s=>(dP n g cx e).bind fun x=>(nq (dP n g cx) s.1).bind fun a=>(nq (dP n g cx) s.2.1).bind fun b=>(nq (dP n g cx) s.2.2.1).map fun c=>aG.slice x a b c
     |none=>fm (!qt i) ((dP n g cx e).bind fun x=>(dP n g cx i).map fun y=>.sub x y))=E x:=h
    rw[q] at h;exact dA h fun a aC h=>dA h fun b az h=>dA h fun c aI h=>eB h fun z hz=>OS q (plain2 rfl ⟨aed (aM e a aC).1 (FC aM az) (FC aM aI) (FC aM hz),rfl⟩)
   |none=>
    replace h:(match sk i with
     |some s=>(dP n g cx e).bind fun x=>(nq (dP n g cx) s.1).bind fun a=>(nq (dP n g cx) s.2.1).bind fun b=>(nq (dP n g cx) s.2.2.1).map fun c=>aG.slice x a b c
     |none=>fm (!qt i) ((dP n g cx e).bind fun x=>(dP n g cx i).map fun y=>.sub x y))=E x:=h
    rw[q] at h;exact fS h fun c h=>dA h fun a aC h=>eB h fun b az=>plain2 rfl ⟨aef G.hO (not_of c) (aM e a aC).1 (aM _ b az).1,rfl⟩
  |Tuple es k p=>exact fS h fun c h=>eB h fun a aC=>plain2 rfl ⟨aeg (sg aM aC).xa (d4 c),rfl⟩
  |List es p=>exact fS h fun c h=>eB h fun a aC=>plain2 rfl ⟨ad7 (sg aM aC).xa (d4 c),rfl⟩
  |Dict keys es p=>exact fS h fun c h=>b4 c fun dC dU=>dA h fun aD aB h=>eB h fun a aC=>plain2 rfl ⟨ad1 G.hO (YT aB) (sg aM aC) (fO dU) (d4 dC),rfl⟩
  |ListComp gT gens scope pos=>exact IZ G aF dv h fun y nj iter fM cl jU gZ fB aL aI hi Dv Dr=>plain2 rfl ⟨ad0 aI G.bC aL hi Dv Dr,rfl⟩
  |_=>exact c5 h
end
set_option backward.match.sparseCases true
section
variable {g:nL}{d:Nat}
theorem Ng (dv:iR I cx.aD){es:List aY}:∀{is:List Nat},idxs cx.vars es=E is→yD cx.aD es=true→∃ys,hU I cx.vars es ys is:=by
 induction es with
 |nil=>intro is h _;obtain rfl:=cE h;exact⟨[],.nil⟩
 |cons e r aF=>intro is h a;unfold yD at a;rw[List.all_cons] at a;refine b4 a fun a1 a2=>dA h fun y ct h=>?_;rw[ct] at a1;exact rY ct<|dA h fun i hi h=>eB h fun KX cn=>(aF cn a2).elim fun ys n=>⟨_,.cons (qq hi) (dv.wr a1) n⟩
noncomputable def mA (I:Env)(line:Nat)(ho:List aY):List Str:=ho.filterMap fun
 |.Name id pos=>if I.kindOf id==E .local&&pos.line==line then E id else none
 |_=>none
theorem O6 {line:Nat}:∀{es:List aY} {ys:List Str} {is:List Nat},hU I ay es ys is→(mA I line es).length≤es.length∧((mA I line es).length=es.length→mA I line es=ys)
 |_,_,_,.nil=>⟨kN _,fun _=>rfl⟩
 |_,_,_,.cons (y:=y) (p:=p) (es:=es) (ys:=ys) a b n=>by
  refine b7 (O6 (line:=line) n) fun R Z=>?_;cases c:(I.kindOf y==E .local&&p.line==line) with
  |true=>
   have e:mA I line (.Name y p::es)=y::mA I line es:=by refine(?_:List.filterMap _ _=_);rw[List.filterMap_cons_some (b:=y) (by show(if _ then _ else _)=_;rw[c];rfl)];rfl
   rw[e];exact⟨Nat.succ_le_succ R,fun q=>by rw[Z (lY q)]⟩
  |false=>
   have e:mA I line (.Name y p::es)=mA I line es:=by refine(?_:List.filterMap _ _=_);rw[List.filterMap_cons_none (by show(if _ then _ else _)=_;rw[c];rfl)];rfl
   rw[e];exact⟨Bq R,fun q=>by rw[List.length_cons] at q;lia⟩
set_option tactic.hygienic true in
theorem afK {es:List aY}{ys:List Str}{k:Nat}(n:hU I ay es ys is)(aI:EC e=true):
 swappedStores [.Tuple es k p] e I=pure none∨swappedStores [.Tuple es k p] e I=pure (E ys):=by
 induction e using jW with
 |Tuple vs eA oh=>
  refine b7 (O6 (line:=(es.head?.map (·.pos.line)).getD 0) n) fun R Z=>?_;have aB:vs.all (constantsAlone 8)=false:=by simpa [EC] using aI
  have eT:swappedStores [.Tuple es k p] (.Tuple vs eA oh) I=(if(!(es.length==2||es.length==3)||vs.length !=es.length||I.blockKind != .function)=true then pure none else
   if(vs.any fun|.Starred .. =>true|_=>false)=true then pure none else
   if((mA I ((es.head?.map (·.pos.line)).getD 0) es).length !=es.length||(mA I ((es.head?.map (·.pos.line)).getD 0) es).eraseDups.length !=(mA I ((es.head?.map (·.pos.line)).getD 0) es).length)=true then pure none else
   if vs.all (foldedForSure 8)=true then pure none else
   if vs.all (constantsAlone 8)=true then(do unsupported "assign.tuple-of-constant-expressions:order-of-the-stores";pure (E (mA I ((es.head?.map (·.pos.line)).getD 0) es))) else pure (E (mA I ((es.head?.map (·.pos.line)).getD 0) es))):=rfl
  rw[eT,aB]
  split
  .exact .inl rfl
  .split
   .exact .inl rfl
   .split
    .exact .inl rfl
    .rename_i aL
     split
     .exact .inl rfl
     .rw[if_neg d7];right;rw[Z];rw[uU,bne_iff_ne,not_or,Classical.not_not] at aL;exact aL.1
 |_=>exact .inl rfl
theorem abb:∀I:Env,I.scope.kind=.function→interactive I=false:=fun I h=>by unfold interactive;rw[h];rfl
theorem sp {f:iP→Option cN}(H:∀s x,f s=E x→hI O w B C A I cx.vars s x):∀{AR:List iP} {xs:fe},sv f AR=E xs→l6 O w B C A I cx.vars AR xs
 | [],_,h=>by obtain rfl:=cE h;exact afn
 |s::r,_,h=>by exact dA h fun x aS h=>eB h fun xs wt=>afm (H s x aS) (sp H wt)
theorem adK (G:kP O w B C A g fF d)(dv:iR I cx.aD){y:Str}{x:cN}(h:F0 (dP n g cx) cx y p e=E x):hI O w B C A I cx.vars (.Assign [.Name y p] e q) x:=by
 have aM:=xn G n cx I dv;unfold F0 at h;cases l:Ea e with
 |none=>rw[l] at h;exact fS h fun c h=>b4 c fun dC dU=>dA h fun i hi h=>eB h fun z hz=>ae5 (qq hi) (dv.wr dU) (not_of dC) (aM e z hz).1
 |some a=>
  rw[l] at h;refine fS h fun c h=>dA h fun i hi h=>eB h fun z hz=>b4 c fun c gn=>b4 c fun dC dU=>?_;clear h c aM;revert hz;refine Zr l fun hz=>?_;clear l;obtain⟨gT,gens,AI,ep⟩:=a;dsimp only at dC dU gn hz
  induction n using h8 with
  |zero=>exact c5 hz
  |succ n=>
  refine IZ (pos:=ep) G (fun cx I dv=>xn G n cx I dv) dv hz fun Gn nj iter fM cl jU gZ fB aL aI wd Dv Dr=>ae7 aI G.bC aL wd Dv Dr (qq hi) (dv.iG dC) ?_;have az:I.blockKind=.function:=by unfold Env.blockKind;rw[dv.kind];rfl
  have eT:∀gens,swapsWith (.ListComp gT gens AI ep) (E (.Name y p)) q.line I=pure (I.blockKind== .function&&I.kindOf y==E .local&&p.line==ep.line
   && !(AI.names.any fun(n,k)=>n==y&&(k== .local||k== .cell))):=fun _=>rfl
  rw[eT,az,dv.iG dC,dU,gn];rfl
theorem adL (G:kP O w B C A g fF d)(dv:iR I cx.aD){o i:aY}{x:cN}(h:F1 (dP n g cx) cx o i e=E x):hI O w B C A I cx.vars (.Assign [.Subscript o i p] e q) x:=by
 have aM:=xn G n cx I dv;unfold F1 at h;cases l:(sk i).bind JM with
 |none=>rw[l] at h;exact yA fun aA gH=>fS h fun c h=>b4 c fun dC dU=>dA h fun ja R h=>dA h fun jT Z h=>gH<|eB h fun nv bv=>ae8 G.ok G.hO (not_of dC) (not_of dU) (aM e ja R).1 (aM o jT Z).1 (aM _ nv bv).1
 |some s=>
  rw[l] at h;refine fS h fun c h=>dA h fun ja R h=>dA h fun jT Z h=>dA h fun nv bv h=>eB h fun ag5 cZ=>dA l fun a aC hf=>OS aC ?_;clear l;obtain⟨l,u,st,bD⟩:=a;clear aC
  induction l using ez with
  |none=>exact c5 hf
  |some l=>induction u using ez with
   |none=>exact c5 hf
   |some u=>induction st using ez with
    |some st=>exact c5 hf
    |none=>obtain rfl:=cE hf;exact ae9 (not_of c) (aM e ja R).1 (aM o jT Z).1 (aM l nv bv).1 (aM u ag5 cZ).1
theorem adJ (G:kP O w B C A g fF d)(dv:iR I cx.aD){x:cN}(h:FZ (dP n g cx) g cx t e q=E x):hI O w B C A I cx.vars (.Assign [t] e q) x:=by
 have aM:=xn G n cx I dv;unfold FZ at h;cases c:lJ t with
 |some y=>rw[c] at h;exact rY c (adK G dv h)
 |none=>
 rw[c] at h;dsimp only at h;clear c;cases c:gM t with
 |some a=>rw[c] at h;exact PI c<|yA fun aA gH=>fS h fun c h=>b4 c fun dC c=>b4 c fun dU gn=>dA h fun is hi h=>fS h fun iT h=>gH<|eB h fun z hz=>(Ng dv hi dU).elim fun ys nm=>afa G.ok G.bC nm (wW iT) (not_of dC) (afK nm gn) (aM e z hz).1
 |none=>
 rw[c] at h;dsimp only at h;clear c;cases c:vu t with
 |some a=>rw[c] at h;exact Cr c<|fS h fun c h=>dA h fun ja vV h=>eB h fun b az=>ae6 G.ok (G.attr _ c) (aM e ja vV).1 (aM _ b az).1
 |none=>
 rw[c] at h;exact dA h fun s aE h=>Pd aE (adL G dv h)
theorem agl (G:kP O w B C A g fF d)(dv:iR I cx.aD):∀(n:Nat) (s:iP) (x:cN),uC n g cx s=E x→hI O w B C A I cx.vars s x:=by
 intro n
 induction n with
 |zero=>intro s x h;exact c5 h
 |succ n aF=>
  intro s x h;have aM:=xn G n cx I dv
  induction s using Stmt.casesOn with
  |Assign ho e q=>exact dA h fun t cW h=>ub cW (adJ G dv h)
  |AugAssign t op e p=>exact dA h fun y ct h=>rY ct<|fS h fun c h=>dA h fun i hi h=>eB h fun z hz=>afb (qq hi) (dv.wr c) (aM e z hz).1
  |Expr e p=>exact fS h fun c h=>eB h fun z hz=>aff (not_of c) abb (aM e z hz).1
  |If t a b p=>exact dA h fun ja R h=>dA h fun jT Z h=>eB h fun nv bv=>afi (aM t ja R).2 (sp aF Z) (sp aF bv)
  |While t a o p=>exact t5 h fun h=>dA h fun ja R h=>eB h fun jT Z=>afl (aM t ja R).2 (sp aF Z)
  |For t bW a o p=>
   refine t5 h fun h=>fS h fun c h=>dA h fun ja R h=>dA h fun jT Z h=>?_;have OP:=OQ G dv aM R;cases e:lJ t with
   |some y=>rw[e] at h;exact rY e<|fS h fun gQ h=>eB h fun i hi=>afg G.bC c (qq hi) (dv.wr gQ) OP (sp aF Z)
   |none=>rw[e] at h;exact dA h fun es he h=>PI he<|fS h fun gQ h=>eB h fun is hi=>(Ng dv hi gQ).elim fun ys nm=>afh G.ok G.bC c nm OP (sp aF Z)
  |Break p=>obtain rfl:=cE h;exact afc
  |Return e p=>
   refine eB h fun z hz=>?_;clear h
   induction e using ez with
   |none=>obtain rfl:=cE hz;exact afk
   |some e=>exact afj (aM e z hz).1
  |Delete ho p=>exact dA h fun t cW h=>ub cW<|dA h fun s aE h=>Pd aE<|dA h fun ja R h=>eB h fun jT Z=>afd G.hO (aM _ ja R).1 (aM _ jT Z).1
  |Raise a b p=>obtain rfl:=cE h;exact afe
  |_=>exact c5 h
end
set_option backward.match.sparseCases false
section
variable {g:nL}{d:Nat}
set_option tactic.hygienic true in
theorem Wa (Xr:∀A:fu,A.handled=none→A.units+20+10*d<cLine→A.depth+60+2*d<recursionLimit→kP O w B C A g fF d){o:Obj}{fd:pK}{na:Nat}{defs:List V}
 (ax:B.h₀.get? a=E o)(hd:o.data=.func fd)(aI:B.h₀.CodeRec fd.code fd.qualname)(b5:fd.globals=mainGlobals)(az:fd.builtins=builtinsNs)(cW:A6 g fd na defs=E bg)
 (vZ:∀(s:aQ) (ys:List aj),(∀b o,B.h₀.get? b=E o→s.heap.get? b=E o)→ys.length=na→∃fk,(∀ρ h,bJ ρ h defs fk)∧BindsTo s fd ⟨ys,[]⟩ ((oq fd).zip (ys++fk))):FnAt O w B C d a bg:=by
 unfold A6 at cW
 split at cW
 .rename_i body Dn
  refine fS cW fun c cW=>eB cW fun b aE=>?_;simp only[fH,km,List.isEmpty_iff,beq_iff_eq,List.all_eq_true,Nat.beq_eq] at c;refine b7 c fun c6 CA=>?_;clear c;refine b7 c6 fun iA Cz=>?_;clear c6;refine b7 iA fun c6 Cy=>?_;clear iA;refine b7 c6 fun iA rk=>?_;clear c6;obtain⟨⟨⟨⟨dC,dU⟩,gn⟩,iT⟩,lp⟩:=iA;refine⟨o,fd,body,sB fd,oq fd,ax,hd,aI,dU,gn,iT,lp,Dn,b5,az,⟨⟨_,rfl⟩,Ez rk,fun x aS=>tm (Cy x aS),fun x aS=>?_⟩,CA,vZ,fun A b2 bC bx Xc=>?_⟩
  .have:=Cz x aS;unfold qZ at this;exact(xG.mp this).imp rO rO
  .have dv:iR (callEnvC fd b2 a) fd.scope.names:=⟨iT,rfl,fun x aS=>cellsFrom_some _ _ _ (.inr (PySem.mem_of_lookup aS))⟩;exact sp (cx:=⟨fd.scope.names,sB fd⟩) (agl (cx:=⟨fd.scope.names,sB fd⟩) (Xr A bC bx Xc) dv 60) aE
 .exact c5 cW
end
section
open PySem PySem.W
section
open Mine.aG renaming loc→F,int→M,str→bF,call→bo,cmp→aU,sub→a5,bin→bc,attr→bG,tup→cH,none→dr,bi→d2,ite→eH,or→fs,lst→gz,and→gA
open Mine.cN renaming asg→bE,ret→bO,iff→ce,yE→dd
open Mine.gP renaming cons→D,nil→J
open Mine.fe renaming cons→D,nil→J
noncomputable abbrev LF:Nat:=7965713916960092358
noncomputable def HE:cP:=⟨1,[],2,D (bE 1 (M 0)) (D (.hN 2 (F 0) (D (bE 1 (bc .BitOr (bc .LShift (F 1) (M 8)) (F 2))) J)) (D (bO (F 1)) J))⟩
noncomputable abbrev LG:Nat:=7965713956843541455
noncomputable def BU:cP:=⟨2,[],0,D (ce (fs (aU .Lt (F 0) (M 0)) (aU .NotEq (bc .RShift (F 0) (bc .Mult (M 8) (F 1))) (M 0))) (D .err J) J) (D (bO (d2 .bytes (D (.comp [0,1] (bc .BitAnd (bc .RShift (F 0) (bc .Mult (M 8) (bc .Sub (bc .Sub (F 1) (M 1)) (F 2)))) (M 255)) (.range (M 0) (F 1) (M 1)) (.bool true)) J))) J)⟩
noncomputable abbrev Ld:Nat:=3636492994420
noncomputable def BQ:cP:=⟨1,[],0,D (.xw (aU .NotEq (bc .RShift (F 0) (M 16)) (M 0)) (D (bE 0 (bc .Add (bc .BitAnd (F 0) (M 65535)) (bc .RShift (F 0) (M 16)))) J)) (D (bO (F 0)) J)⟩
noncomputable abbrev LB:Nat:=218676008
noncomputable def BS:cP:=⟨3,[],2,D (ce (fs (aU .NotEq (d2 .len (D (F 1) J)) (d2 .len (D (F 2) J))) (aU .Eq (bc .Mod (d2 .len (D (F 1) J)) (M 2)) (M 1))) (D .err J) J) (D (bE 3 (bc .Sub (M 65535) (F 0))) (D (.hN 4 (.range (M 0) (d2 .len (D (F 1) J)) (M 2)) (D (bE 3 (bc .Sub (bc .Add (F 3) (M 65535)) (bc .BitOr (bc .LShift (a5 (F 1) (F 4)) (M 8)) (a5 (F 1) (bc .Add (F 4) (M 1)))))) (D (bE 3 (bc .Add (F 3) (bc .BitOr (bc .LShift (a5 (F 2) (F 4)) (M 8)) (a5 (F 2) (bc .Add (F 4) (M 1)))))) J))) (D (bO (bc .Sub (M 65535) (bo 3636492994420 (D (F 3) J)))) J)))⟩
noncomputable abbrev Lx:Nat:=14910633454
noncomputable def HA:cP:=⟨1,[],2,D (ce (fs (aU .Lt (d2 .len (D (F 0) J)) (M 20)) (aU .NotEq (bc .RShift (a5 (F 0) (M 0)) (M 4)) (M 4))) (D (bO dr) J) J) (D (bE 1 (bc .Mult (bc .BitAnd (a5 (F 0) (M 0)) (M 15)) (M 4))) (D (ce (fs (aU .Lt (F 1) (M 20)) (aU .Gt (F 1) (d2 .len (D (F 0) J)))) (D (bO dr) J) J) (D (bE 2 (bo 7965713916960092358 (D (.slice (F 0) (M 6) (M 8) dr) J))) (D (bO (cH (D (a5 (F 0) (M 9)) (D (F 1) (D (bc .Mult (bc .BitAnd (F 2) (M 8191)) (M 8)) (D (aU .NotEq (bc .BitAnd (F 2) (M 8192)) (M 0)) J)))))) J))))⟩
noncomputable abbrev Lf:Nat:=7895612892068386485
noncomputable def Hn:cP:=⟨2,[],0,D (ce (aU .In (F 0) (cH (D (M 0) (D (M 43) (D (M 60) J))))) (D (bO (bc .Mult (bc .Add (F 1) (M 1)) (M 8))) J) J) (D (ce (aU .Eq (F 0) (M 51)) (D (bO (bc .Mult (bc .Add (F 1) (M 2)) (M 4))) J) J) (D (ce (aU .Eq (F 0) (M 44)) (D (bO (M 8)) J) J) (D (bO (M 0)) J)))⟩
noncomputable abbrev LV:Nat:=542695683219446
noncomputable def HM:cP:=⟨4,[],1,D (ce (aU .Eq (bo 7895612892068386485 (D (F 2) (D (M 0) J))) (M 0)) (D (bO (M 0)) J) J) (D (ce (aU .Gt (bc .Add (F 1) (M 2)) (F 3)) (D (bO (.neg (M 1))) J) J) (D (bE 4 (bo 7895612892068386485 (D (F 2) (D (a5 (F 0) (bc .Add (F 1) (M 1))) J)))) (D (ce (aU .Gt (bc .Add (F 1) (F 4)) (F 3)) (D (bO (.neg (M 1))) J) J) (D (bO (F 4)) J))))⟩
noncomputable abbrev LK:Nat:=70007743085800769
noncomputable def HG:cP:=⟨2,[],0,D (bO (bc .BitAnd (bo 7965713916960092358 (D (.slice (F 0) (bc .Add (F 1) (M 2)) (bc .Add (F 1) (M 4)) dr) J)) (M 65528))) J⟩
noncomputable abbrev Ly:Nat:=15464479216
noncomputable def HB:cP:=⟨1,[],5,D (ce (fs (aU .Lt (d2 .len (D (F 0) J)) (M 40)) (aU .NotEq (bc .RShift (a5 (F 0) (M 0)) (M 4)) (M 6))) (D (bO dr) J) J) (D (bE 1 (a5 (F 0) (M 6))) (D (bE 2 (M 40)) (D (bE 3 (M 0)) (D (bE 4 (.bool false)) (D (.xw (aU .Eq (F 3) (M 0)) (D (bE 5 (bo 542695683219446 (D (F 0) (D (F 2) (D (F 1) (D (d2 .len (D (F 0) J)) J)))))) (D (ce (fs (aU .Lt (F 5) (M 0)) (gA (aU .Eq (F 1) (M 0)) (aU .Gt (F 2) (M 40)))) (D (bO dr) J) J) (D (ce (aU .Eq (F 5) (M 0)) (D .brk J) J) (D (ce (aU .Eq (F 1) (M 44)) (D (bE 3 (bo 70007743085800769 (D (F 0) (D (F 2) J)))) (D (bE 4 (aU .Eq (bc .BitAnd (a5 (F 0) (bc .Add (F 2) (M 3))) (M 1)) (M 1))) J)) J) (D (bE 1 (a5 (F 0) (F 2))) (D (.aug 2 .Add (F 5)) J))))))) (D (bO (cH (D (F 1) (D (F 2) (D (F 3) (D (F 4) J)))))) J))))))⟩
noncomputable abbrev LD:Nat:=58800638083534680
noncomputable def HD:cP:=⟨0,[],2,D (bE 0 (.dict [] J)) (D (.hN 1 (cH (D (bF 233768879) (D (bF 73067997654255626) (D (bF 1727803) (D (bF 1727809) (D (bF 474000827731552) (D (bF 474000827731558) (D (bF 474114656149016) J)))))))) (D (.hK (F 0) (F 1) (M 0)) J)) (D (.hK (F 0) (bF 474114655915777) (M 1)) (D (.hK (F 0) (bF 474114655915783) (M 1)) (D (bO (F 0)) J))))⟩
noncomputable abbrev KZ:Nat:=4208076696030
noncomputable def Hc:cP:=⟨4,[],0,D (dd (F 0) 212335262 (d2 .bytearray (D (F 1) J))) (D (dd (F 0) 233703346 (d2 .bytearray (D (F 3) J))) (D (dd (F 0) 218676522 (F 2)) (D (dd (F 0) 6946 (.neg (M 1))) (D (dd (F 0) 1727422 (.neg (M 1))) (D (dd (F 0) 28462447754 (M 0)) (D (dd (F 0) 212335787 (bo 58800638083534680 J)) J))))))⟩
noncomputable abbrev Lw:Nat:=233720761
noncomputable def Hz:cP:=⟨1,[],1,D (dd (F 0) 6946 (.neg (M 1))) (D (dd (F 0) 1727422 (.neg (M 1))) (D (dd (F 0) 28462447754 (M 0)) (D (bE 1 dr) (D (ce (aU .Eq (bG (F 0) 218676522) (M 2048)) (D (bE 1 (bo 14910633454 (D (bG (F 0) 212335262) J))) J) (D (ce (aU .Eq (bG (F 0) 218676522) (M 34525)) (D (bE 1 (bo 15464479216 (D (bG (F 0) 212335262) J))) J) J) J)) (D (ce (aU .Is (F 1) dr) (D (bO dr) J) J) (D (dd (F 0) 6946 (a5 (F 1) (M 0))) (D (dd (F 0) 28462447754 (a5 (F 1) (M 2))) (D (ce (gA (aU .Eq (a5 (F 1) (M 2)) (M 0)) (aU .LtE (a5 (F 1) (M 1)) (d2 .len (D (bG (F 0) 212335262) J)))) (D (dd (F 0) 1727422 (a5 (F 1) (M 1))) J) J) J))))))))⟩
noncomputable abbrev LH:Nat:=7965713988425346869
noncomputable def oQ:cP:=⟨2,[(.bytes [])],1,D (bE 3 (bo 4208076696030 (D (F 0) (D (F 1) (D (F 2) J))))) (D (.ex (bo 233720761 (D (F 3) J))) (D (bO (F 3)) J))⟩
noncomputable abbrev La:Nat:=7965714168974938303
noncomputable def Hl:cP:=⟨1,[],0,D (ce (aU .Eq (bG (F 0) 218676522) (M 2048)) (D (bO (M 2)) J) J) (D (ce (aU .Eq (bG (F 0) 218676522) (M 34525)) (D (bO (M 10)) J) J) (D (ce (aU .Eq (bG (F 0) 218676522) (M 2054)) (D (bO (M 3)) J) J) (D (bO (M 0)) J)))⟩
noncomputable abbrev K4:Nat:=478679974546902
noncomputable def Hh:cP:=⟨2,[],0,D (ce (aU .Eq (F 1) (bF 501832981439121)) (D (bO (cH (D (bG (F 0) 212335262) (D (M 0) J)))) J) J) (D (ce (aU .Eq (F 1) (bF 9041178932001308406)) (D (ce (aU .Lt (bG (F 0) 1727422) (M 0)) (D (bO dr) J) J) (D (bO (cH (D (bG (F 0) 212335262) (D (bG (F 0) 1727422) J)))) J)) J) (D (ce (aU .NotEq (F 1) (bF 233703346)) (D .err J) J) (D (ce (aU .Eq (d2 .len (D (bG (F 0) 233703346) J)) (M 0)) (D (bO dr) J) J) (D (bO (cH (D (bG (F 0) 233703346) (D (M 0) J)))) J))))⟩
noncomputable abbrev LJ:Nat:=253089083
noncomputable def HF:cP:=⟨4,[],2,D (bE 4 (bo 478679974546902 (D (F 0) (D (F 1) J)))) (D (ce (fs (aU .Is (F 4) dr) (aU .Lt (F 2) (M 0))) (D (bO dr) J) J) (D (bE 5 (bc .Add (a5 (F 4) (M 1)) (F 2))) (D (ce (aU .Gt (bc .Add (F 5) (F 3)) (d2 .len (D (a5 (F 4) (M 0)) J))) (D (bO dr) J) J) (D (bO (d2 .bytes (D (.slice (a5 (F 4) (M 0)) (F 5) (bc .Add (F 5) (F 3)) dr) J))) J))))⟩
noncomputable abbrev LO:Nat:=70086158222052599
noncomputable def HJ:cP:=⟨4,[],2,D (bE 4 (bo 478679974546902 (D (F 0) (D (F 1) J)))) (D (ce (fs (aU .Is (F 4) dr) (fs (aU .Lt (F 2) (M 0)) (aU .Gt (bc .Add (bc .Add (a5 (F 4) (M 1)) (F 2)) (d2 .len (D (F 3) J))) (d2 .len (D (a5 (F 4) (M 0)) J))))) (D .err J) J) (D (bE 5 (bc .Add (a5 (F 4) (M 1)) (F 2))) (D (.p3 (a5 (F 4) (M 0)) (F 5) (bc .Add (F 5) (d2 .len (D (F 3) J))) (F 3)) J)))⟩
noncomputable abbrev LW:Nat:=7881903032557587266
noncomputable def HN:cP:=⟨1,[],0,D (ce (aU .Eq (F 0) (M 6)) (D (bO (M 16)) J) J) (D (ce (aU .Eq (F 0) (M 17)) (D (bO (M 6)) J) J) (D (ce (aU .In (F 0) (cH (D (M 1) (D (M 58) J)))) (D (bO (M 2)) J) J) (D (bO (.neg (M 1))) J)))⟩
noncomputable abbrev K6:Nat:=3996512076559
noncomputable def Hj:cP:=⟨4,[],2,D (bE 4 (d2 .max (D (F 0) (D (F 2) J)))) (D (bE 5 (d2 .min (D (F 1) (D (F 3) J)))) (D (ce (aU .GtE (F 4) (F 5)) (D (bO (cH (D (M 0) (D (M 0) J)))) J) J) (D (bO (cH (D (bc .Mult (bc .FloorDiv (F 4) (M 2)) (M 2)) (D (bc .Mult (bc .FloorDiv (bc .Add (F 5) (M 1)) (M 2)) (M 2)) J)))) J)))⟩
noncomputable abbrev LX:Nat:=70026674676185333
noncomputable def HO:cP:=⟨3,[],3,D (bE 3 (gz J)) (D (ce (gA (aU .Eq (bG (F 0) 218676522) (M 2048)) (aU .GtE (bG (F 0) 6946) (M 0))) (D (.ex (.lI (F 3) 3638987513726 (D (cH (D (M 10) (D (gz (D (bo 3996512076559 (D (F 1) (D (F 2) (D (M 0) (D (bc .Mult (bc .BitAnd (a5 (bG (F 0) 212335262) (M 0)) (M 15)) (M 4)) J))))) J)) J))) J))) J) J) (D (bE 4 (bo 7881903032557587266 (D (bG (F 0) 6946) J))) (D (ce (gA (aU .GtE (bG (F 0) 1727422) (M 0)) (aU .GtE (F 4) (M 0))) (D (bE 5 (gz (D (bo 3996512076559 (D (F 1) (D (F 2) (D (bG (F 0) 1727422) (D (d2 .len (D (bG (F 0) 212335262) J)) J))))) J))) (D (ce (gA (aU .NotEq (bG (F 0) 6946) (M 1)) (aU .Eq (bG (F 0) 218676522) (M 2048))) (D (.ex (.lI (F 5) 3638987513726 (D (bo 3996512076559 (D (F 1) (D (F 2) (D (M 12) (D (M 20) J))))) J))) J) (D (ce (aU .NotEq (bG (F 0) 6946) (M 1)) (D (.ex (.lI (F 5) 3638987513726 (D (bo 3996512076559 (D (F 1) (D (F 2) (D (M 8) (D (M 40) J))))) J))) J) J) J)) (D (.ex (.lI (F 3) 3638987513726 (D (cH (D (bc .Add (bG (F 0) 1727422) (F 4)) (D (F 5) J))) J))) J))) J) (D (bO (.comp [1,2,0] (F 3) (F 3) (gA (aU .LtE (bc .Add (a5 (F 3) (M 0)) (M 2)) (d2 .len (D (bG (F 2) 212335262) J))) (fs (aU .LtE (F 1) (a5 (F 3) (M 0))) (aU .LtE (bc .Add (a5 (F 3) (M 0)) (M 2)) (F 0)))))) J))))⟩
noncomputable abbrev LI:Nat:=61749720591457115
noncomputable def yj:cP:=⟨3,[],1,D (bE 3 (d2 .bytes (D (.slice (F 0) (F 1) (F 2) dr) J))) (D (ce (aU .Lt (d2 .len (D (F 3) J)) (bc .Sub (F 2) (F 1))) (D (.aug 3 .Add (.bytes [0])) J) J) (D (bO (F 3)) J))⟩
noncomputable abbrev LC:Nat:=542695680872543
noncomputable def sT:cP:=⟨5,[],3,D (bE 5 (bo 7965713916960092358 (D (.slice (F 1) (F 2) (bc .Add (F 2) (M 2)) dr) J))) (D (ce (gA (F 4) (aU .Eq (F 5) (M 0))) (D (bO dr) J) J) (D (.tw [6,7] (F 3) (D (ce (aU .Lt (F 6) (F 7)) (D (bE 5 (bo 218676008 (D (F 5) (D (bo 61749720591457115 (D (F 1) (D (F 6) (D (F 7) J)))) (D (bo 61749720591457115 (D (bG (F 0) 212335262) (D (F 6) (D (F 7) J)))) J))))) J) J) J)) (D (ce (gA (F 4) (aU .Eq (F 5) (M 0))) (D (bE 5 (M 65535)) J) J) (D (.p3 (bG (F 0) 212335262) (F 2) (bc .Add (F 2) (M 2)) (bo 7965713956843541455 (D (F 5) (D (M 2) J)))) J))))⟩
noncomputable abbrev LS:Nat:=1156566997600232159303
noncomputable def BV:cP:=⟨4,[],5,D (ce (aU .Eq (F 1) (bF 233703346)) (D (.ex (bo 70086158222052599 (D (F 0) (D (F 1) (D (F 2) (D (F 3) J)))))) (D (bO dr) J)) J) (D (bE 4 (d2 .bytes (D (bG (F 0) 212335262) J))) (D (bE 5 (F 2)) (D (ce (aU .Eq (F 1) (bF 9041178932001308406)) (D (bE 5 (bc .Add (bG (F 0) 1727422) (F 2))) J) J) (D (bE 6 (bo 70026674676185333 (D (F 0) (D (F 5) (D (bc .Add (F 5) (d2 .len (D (F 3) J))) J))))) (D (.ex (bo 70086158222052599 (D (F 0) (D (F 1) (D (F 2) (D (F 3) J)))))) (D (.tw [7,8] (F 6) (D (.ex (bo 542695680872543 (D (F 0) (D (F 4) (D (F 7) (D (F 8) (D (gA (aU .Eq (bG (F 0) 6946) (M 17)) (aU .NotEq (F 7) (M 10))) J))))))) J)) J))))))⟩
noncomputable abbrev K9:Nat:=149039545878035638611117
noncomputable def Hk:cP:=⟨1,[],0,D (bO (eH (aU .Eq (F 0) (M 2)) (cH (D (M 3) (D (M 4) (D (M 5) (D (M 11) (D (M 12) J)))))) (cH (D (M 1) (D (M 2) (D (M 3) (D (M 4) J))))))) J⟩
noncomputable abbrev K1:Nat:=233669008
noncomputable def He:cP:=⟨5,[],0,D (dd (F 0) 4136611441551 (F 1)) (D (dd (F 0) 65252541628059613 (F 2)) (D (dd (F 0) 34020474289 (F 3)) (D (dd (F 0) 220824000 (F 4)) (D (dd (F 0) 30414104497 (M 0)) (D (dd (F 0) 28462663703 (M 0)) (D (dd (F 0) 233768879 (M 0)) (D (dd (F 0) 4176803699882 (M 0)) (D (dd (F 0) 28498942502 (M 0)) (D (dd (F 0) 32343711005 dr) (D (dd (F 0) 4136650179218 (M 0)) J))))))))))⟩
noncomputable abbrev K2:Nat:=64722615088540447
noncomputable def Hf:cP:=⟨2,[(.int (0)),(.int (128))],0,D (dd (F 0) 253107527 (F 1)) (D (dd (F 0) 218526245 (F 2)) (D (dd (F 0) 32343795372 (F 3)) (D (dd (F 0) 28481783181 (.dict [] J)) (D (dd (F 0) 32356723236 (.dict [] J)) (D (dd (F 0) 253105720 (M 0)) (D (dd (F 0) 69491832435423975 (.dict [] J)) (D (dd (F 0) 538767255065091 (gz J)) (D (dd (F 0) 32382534832 (.dict [] J)) (D (dd (F 0) 61174256831707621 (.bool true)) J)))))))))⟩
noncomputable abbrev Lk:Nat:=524692381018603
noncomputable def Hq:cP:=⟨2,[],0,D (bO (fs (gA (aU .Eq (F 0) (M 2)) (aU .Eq (F 1) (M 1))) (gA (aU .Eq (F 0) (M 10)) (aU .Eq (F 1) (M 58))))) J⟩
noncomputable abbrev Li:Nat:=68884006654336621
noncomputable def Hp:cP:=⟨2,[],0,D (bO (aU .In (F 1) (bo 149039545878035638611117 (D (F 0) J)))) J⟩
noncomputable abbrev K3:Nat:=129996042597986712632864
noncomputable def Hg:cP:=⟨2,[],3,D (bE 2 (eH (aU .Eq (F 0) (M 2)) (cH (D (cH (D (M 8) (D (M 0) J))) (D (cH (D (M 13) (D (M 14) J))) (D (cH (D (M 15) (D (M 16) J))) (D (cH (D (M 17) (D (M 18) J))) J))))) (cH (D (cH (D (M 128) (D (M 129) J))) J)))) (D (.tw [3,4] (F 2) (D (ce (aU .Eq (F 1) (F 3)) (D (bO (F 4)) J) J) (D (ce (aU .Eq (F 1) (F 4)) (D (bO (F 3)) J) J) J))) (D (bO (.neg (M 1))) J))⟩
noncomputable abbrev LM:Nat:=70007746999498100
noncomputable def HI:cP:=⟨4,[],2,D (ce (fs (aU .Eq (F 2) (M 6)) (aU .Eq (F 2) (M 17))) (D (ce (aU .Gt (bc .Add (F 3) (M 4)) (d2 .len (D (F 0) J))) (D (bO dr) J) J) (D (bO (cH (D (bo 7965713916960092358 (D (.slice (F 0) (F 3) (bc .Add (F 3) (M 2)) dr) J)) (D (bo 7965713916960092358 (D (.slice (F 0) (bc .Add (F 3) (M 2)) (bc .Add (F 3) (M 4)) dr) J)) J)))) J)) J) (D (ce (.not (bo 524692381018603 (D (F 1) (D (F 2) J)))) (D (bO (cH (D (M 0) (D (M 0) J)))) J) J) (D (ce (aU .Gt (bc .Add (F 3) (M 8)) (d2 .len (D (F 0) J))) (D (bO dr) J) J) (D (bE 4 (a5 (F 0) (F 3))) (D (bE 5 (M 0)) (D (ce (aU .GtE (bo 129996042597986712632864 (D (F 1) (D (F 4) J))) (M 0)) (D (bE 5 (bo 7965713916960092358 (D (.slice (F 0) (bc .Add (F 3) (M 4)) (bc .Add (F 3) (M 6)) dr) J))) J) J) (D (bO (cH (D (F 5) (D (bc .Add (bc .Mult (F 4) (M 256)) (a5 (F 0) (bc .Add (F 3) (M 1)))) J)))) J))))))⟩
noncomputable abbrev L1:Nat:=70007743105371750
noncomputable def HR:cP:=⟨4,[],5,D (bE 4 (bo 70007746999498100 (D (F 0) (D (F 1) (D (F 2) (D (F 3) J)))))) (D (ce (aU .Is (F 4) dr) (D (bO dr) J) J) (D (bE 5 (M 12)) (D (bE 6 (M 4)) (D (ce (aU .Eq (F 1) (M 10)) (D (bE 5 (M 8)) (D (bE 6 (M 16)) J)) J) (D (bE 7 (bo 7965713916960092358 (D (.slice (F 0) (F 5) (bc .Add (F 5) (F 6)) dr) J))) (D (bE 8 (bo 7965713916960092358 (D (.slice (F 0) (bc .Add (F 5) (F 6)) (bc .Add (bc .Add (F 5) (F 6)) (F 6)) dr) J))) (D (bO (cH (D (F 1) (D (F 2) (D (F 7) (D (a5 (F 4) (M 0)) (D (F 8) (D (a5 (F 4) (M 1)) J)))))))) J)))))))⟩
noncomputable abbrev L2:Nat:=61749716701775718
noncomputable def BW:cP:=⟨1,[],1,D (bE 1 (bo 7965714168974938303 (D (F 0) J))) (D (ce (fs (aU .NotIn (F 1) (cH (D (M 2) (D (M 10) J)))) (aU .Lt (bG (F 0) 1727422) (M 0))) (D (bO dr) J) J) (D (bO (bo 70007743105371750 (D (bG (F 0) 212335262) (D (F 1) (D (bG (F 0) 6946) (D (bG (F 0) 1727422) J)))))) J))⟩
noncomputable abbrev Lh:Nat:=4211664131230
noncomputable def yc:cP:=⟨1,[],7,D (.hW [1,2,3,4,5,6] (F 0)) (D (ce (.not (bo 524692381018603 (D (F 1) (D (F 2) J)))) (D (bO (cH (D (F 1) (D (F 2) (D (F 5) (D (F 6) (D (F 3) (D (F 4) J)))))))) J) J) (D (bE 7 (bo 129996042597986712632864 (D (F 1) (D (bc .RShift (F 6) (M 8)) J)))) (D (ce (aU .Lt (F 7) (M 0)) (D (bO dr) J) J) (D (bO (cH (D (F 1) (D (F 2) (D (F 5) (D (F 4) (D (F 3) (D (bc .Add (bc .Mult (F 7) (M 256)) (bc .BitAnd (F 6) (M 255))) J)))))))) J))))⟩
noncomputable abbrev LU:Nat:=478679974298336
noncomputable def HL:cP:=⟨2,[],0,D (bO (eH (F 1) (bG (F 0) 34020474289) (bG (F 0) 65252541628059613))) J⟩
noncomputable abbrev zI:Nat:=8347371211521298121
noncomputable def nJ:cP:=⟨2,[],2,D (.hN 2 (cH (D (M 0) (D (M 1) J))) (D (bE 3 (cH (D (bG (F 1) 220824000) (D (bo 478679974298336 (D (F 1) (D (F 2) J))) J)))) (D (ce (aU .Eq (.lI (bG (F 0) 28481783181) 1960259 (D (F 3) J)) (cH (D (bG (F 1) 4136611441551) (D (F 2) J)))) (D (.del (bG (F 0) 28481783181) (F 3)) J) J) J))) (D (ce (aU .In (bG (F 1) 4136611441551) (bG (F 0) 32356723236)) (D (.del (bG (F 0) 32356723236) (bG (F 1) 4136611441551)) J) J) (D (.hN 3 (d2 .list (D (bG (F 0) 32382534832) J)) (D (ce (aU .Eq (a5 (a5 (bG (F 0) 32382534832) (F 3)) (M 0)) (bG (F 1) 4136611441551)) (D (.del (bG (F 0) 32382534832) (F 3)) J) J) J)) (D (dd (F 0) 538767255065091 (.comp [1] (F 1) (bG (F 0) 538767255065091) (aU .NotEq (bG (F 1) 4136650179218) (bG (F 0) 4136611441551)))) (D (dd (F 1) 4176803699882 (bc .BitOr (bG (F 1) 4176803699882) (.glob 20109278976))) J))))⟩
noncomputable abbrev Lj:Nat:=41628526560338972149582840823755
noncomputable def BR:cP:=⟨1,[],1,D (bE 1 (bo 7965714168974938303 (D (F 0) J))) (D (ce (fs (.not (bo 524692381018603 (D (F 1) (D (bG (F 0) 6946) J)))) (fs (aU .Lt (bG (F 0) 1727422) (M 0)) (aU .GtE (bG (F 0) 1727422) (d2 .len (D (bG (F 0) 212335262) J))))) (D (bO (.bool false)) J) J) (D (bO (bo 68884006654336621 (D (F 1) (D (a5 (bG (F 0) 212335262) (bG (F 0) 1727422)) J)))) J))⟩
noncomputable abbrev LP:Nat:=7890838333405204697
noncomputable def vi:cP:=⟨4,[],1,D (bE 4 (bo 253089083 (D (F 0) (D (F 1) (D (F 2) (D (d2 .len (D (F 3) J)) J)))))) (D (ce (gA (aU .IsNot (F 4) dr) (aU .NotEq (F 4) (F 3))) (D (.ex (bo 1156566997600232159303 (D (F 0) (D (F 1) (D (F 2) (D (F 3) J)))))) J) J) J)⟩
noncomputable abbrev LL:Nat:=1016765491199943733811
noncomputable def HH:cP:=⟨2,[],2,D (ce (fs (aU .Eq (bG (F 0) 6946) (M 6)) (aU .Eq (bG (F 0) 6946) (M 17))) (D (bO (eH (aU .Eq (F 1) (bF 1679051)) (M 0) (M 2))) J) J) (D (bE 2 (bo 7965714168974938303 (D (F 0) J))) (D (bE 3 (bo 253089083 (D (F 0) (D (bF 9041178932001308406) (D (M 0) (D (M 1) J)))))) (D (ce (gA (aU .IsNot (F 3) dr) (gA (bo 524692381018603 (D (F 2) (D (bG (F 0) 6946) J))) (aU .GtE (bo 129996042597986712632864 (D (F 2) (D (a5 (F 3) (M 0)) J))) (M 0)))) (D (bO (M 4)) J) J) (D (bO (.neg (M 1))) J))))⟩
noncomputable abbrev LQ:Nat:=474253113345289
noncomputable def mQ:cP:=⟨3,[],11,D (.hW [3,4,5,6,7,8] (F 1)) (D (ce (aU .NotEq (bo 7965714168974938303 (D (F 0) J)) (F 3)) (D (bO dr) J) J) (D (.hW [9,10] (eH (aU .Eq (F 3) (M 2)) (cH (D (M 12) (D (M 4) J))) (cH (D (M 8) (D (M 16) J))))) (D (bE 11 (eH (aU .Eq (bG (F 0) 6946) (F 4)) (bo 1016765491199943733811 (D (F 0) (D (F 2) J))) (.neg (M 1)))) (D (ce (aU .Eq (F 2) (bF 1679051)) (D (.hW [12,13] (cH (D (F 5) (D (F 6) J)))) J) (D (.hW [9,12,13] (cH (D (bc .Add (F 9) (F 10)) (D (F 7) (D (F 8) J))))) J)) (D (ce (aU .Eq (F 11) (M 4)) (D (bE 13 (F 6)) J) J) (D (.ex (bo 7890838333405204697 (D (F 0) (D (bF 501832981439121) (D (F 9) (D (bo 7965713956843541455 (D (F 12) (D (F 10) J))) J)))))) (D (ce (aU .GtE (F 11) (M 0)) (D (.ex (bo 7890838333405204697 (D (F 0) (D (bF 9041178932001308406) (D (F 11) (D (bo 7965713956843541455 (D (F 13) (D (M 2) J))) J)))))) J) J) J)))))))⟩
noncomputable abbrev K5:Nat:=533981184097260
noncomputable def Hi:cP:=⟨2,[],1,D (bE 2 (aU .Eq (F 0) (bF 1679051))) (D (ce (aU .Eq (F 1) (M 1)) (D (bE 2 (.not (F 2))) J) J) (D (bO (eH (F 2) (M 16) (M 32))) J))⟩
noncomputable abbrev Lg:Nat:=39508372252426582423857324569326
noncomputable def Ho:cP:=⟨3,[],1,D (bE 3 (bo 7965713988425346869 (D (F 0) (D (eH (aU .Eq (a5 (F 1) (M 0)) (M 2)) (M 2048) (M 34525)) J)))) (D (.ex (bo 474253113345289 (D (F 3) (D (F 1) (D (F 2) J))))) (D (bO (d2 .bytes (D (bG (F 3) 212335262) J))) J))⟩
noncomputable abbrev LR:Nat:=2459095567713148758238724362
noncomputable def HK:cP:=⟨3,[],1,D (bE 3 (bo 253089083 (D (F 0) (D (bF 9041178932001308406) (D (M 8) (D (d2 .max (D (M 0) (D (bc .Sub (bc .Sub (d2 .len (D (bG (F 0) 212335262) J)) (bG (F 0) 1727422)) (M 8)) J))) J)))))) (D (ce (aU .IsNot (F 3) dr) (D (.ex (bo 7890838333405204697 (D (F 0) (D (bF 9041178932001308406) (D (M 8) (D (bo 39508372252426582423857324569326 (D (F 3) (D (F 1) (D (F 2) J)))) J)))))) J) J) J)⟩
noncomputable abbrev LY:Nat:=7892008977562703319
noncomputable def HP:cP:=⟨2,[],3,D (bE 2 (bG (F 0) 233669040)) (D (ce (fs (aU .Is (F 2) dr) (aU .Eq (bc .BitAnd (bG (F 2) 4176803699882) (bo 533981184097260 (D (F 1) (D (bG (F 0) 73031377932591727) J)))) (M 0))) (D (bO dr) J) J) (D (bE 3 (bo 478679974298336 (D (F 2) (D (bc .Sub (M 1) (bG (F 0) 73031377932591727)) J)))) (D (ce (bo 41628526560338972149582840823755 (D (bG (F 0) 4208076696062) J)) (D (.ex (bo 2459095567713148758238724362 (D (bG (F 0) 4208076696062) (D (F 3) (D (eH (aU .Eq (F 1) (bF 1679051)) (bF 1962062) (bF 1679051)) J))))) J) J) (D (bE 4 (bo 4211664131230 (D (F 3) J))) (D (ce (aU .IsNot (F 4) dr) (D (.ex (bo 474253113345289 (D (bG (F 0) 4208076696062) (D (F 4) (D (F 1) J))))) J) J) J)))))⟩
noncomputable abbrev L0:Nat:=7881903032557570497
noncomputable def HQ:cP:=⟨1,[],1,D (bE 1 (bo 7965714168974938303 (D (F 0) J))) (D (ce (aU .Eq (F 1) (M 2)) (D (bO (M 8)) J) J) (D (bO (eH (aU .Eq (F 1) (M 10)) (M 7) (.neg (M 1)))) J))⟩
noncomputable abbrev LZ:Nat:=3710697593742
noncomputable def yk:cP:=⟨1,[],2,D (bE 1 (bo 7881903032557570497 (D (F 0) J))) (D (bE 2 dr) (D (ce (aU .GtE (F 1) (M 0)) (D (bE 2 (bo 253089083 (D (F 0) (D (bF 501832981439121) (D (F 1) (D (M 1) J)))))) J) J) (D (bO (eH (aU .Is (F 2) dr) (M 0) (a5 (F 2) (M 0)))) J)))⟩
noncomputable abbrev K7:Nat:=65340310416152432
noncomputable def BO:cP:=⟨1,[],1,D (bE 1 (bo 3710697593742 (D (F 0) J))) (D (ce (aU .LtE (F 1) (M 1)) (D (bO (.bool false)) J) J) (D (.ex (bo 1156566997600232159303 (D (F 0) (D (bF 501832981439121) (D (bo 7881903032557570497 (D (F 0) J)) (D (d2 .bytes (D (gz (D (bc .Sub (F 1) (M 1)) J)) J)) J)))))) (D (bO (.bool true)) J)))⟩
noncomputable abbrev Lb:Nat:=61749720567711817
noncomputable def BP:cP:=⟨1,[],1,D (bE 1 (bo 253089083 (D (F 0) (D (bF 9041178932001308406) (D (M 13) (D (M 1) J)))))) (D (bO (eH (aU .Is (F 1) dr) (.neg (M 1)) (a5 (F 1) (M 0)))) J)⟩
noncomputable abbrev Lz:Nat:=71856125492957414
noncomputable def HC:cP:=⟨2,[],2,D (ce (fs (aU .NotIn (bo 7965714168974938303 (D (F 0) J)) (cH (D (M 2) (D (M 10) J)))) (gA (aU .Eq (bo 7965714168974938303 (D (F 0) J)) (M 2)) (aU .NotEq (bG (F 0) 1727422) (M 20)))) (D (bO (.bool false)) J) J) (D (ce (aU .Eq (bG (F 0) 6946) (M 6)) (D (bE 2 (bo 61749720567711817 (D (F 0) J))) (D (bE 3 (gA (aU .Eq (bG (F 1) 28498942502) (.glob 88751538423356683413427)) (aU .NotEq (bc .BitAnd (bG (F 1) 4176803699882) (.glob 320494666966302)) (M 0)))) (D (bO (gA (F 3) (gA (aU .GtE (F 2) (M 0)) (aU .Eq (bc .BitAnd (F 2) (.glob 394727189675324)) (M 0))))) J))) J) (D (bO (aU .Eq (bG (F 0) 6946) (M 17))) J))⟩
noncomputable abbrev Le:Nat:=71856125492857563
noncomputable def vf:cP:=⟨2,[],1,D (.hN 2 (bG (F 0) 32382534832) (D (ce (aU .Eq (a5 (a5 (bG (F 0) 32382534832) (F 2)) (M 0)) (bG (F 1) 4136611441551)) (D (bO (.bool true)) J) J) J)) (D (bO (.bool false)) J)⟩
noncomputable abbrev Lc:Nat:=19409776953675869410994860
noncomputable def Hm:cP:=⟨2,[],5,D (.hW [2,3] (cH (D (bG (F 0) 233669040) (D (bG (F 0) 32356723236) J)))) (D (ce (fs (aU .Is (F 2) dr) (fs (aU .Is (F 3) dr) (fs (aU .NotEq (bG (F 0) 28498942502) (M 2)) (aU .Eq (bc .BitAnd (bG (F 2) 4176803699882) (.glob 5333328601651853984)) (M 0))))) (D (bO (cH (D (bF 30119758986) (D (bF 0) J)))) J) J) (D (ce (fs (.not (bo 71856125492957414 (D (bG (F 0) 4208076696062) (D (F 2) J)))) (bo 71856125492857563 (D (F 3) (D (F 2) J)))) (D (bO (cH (D (bF 30119758986) (D (bF 0) J)))) J) J) (D (.hW [4,5] (cH (D (a5 (bG (bG (F 0) 4208076696062) 212335787) (bF 1727803)) (D (a5 (bG (bG (F 0) 4208076696062) 212335787) (bF 1727809)) J)))) (D (ce (bG (F 0) 73031377932591727) (D (.hW [4,5] (cH (D (F 5) (D (F 4) J)))) J) J) (D (.hN 6 (fs (bG (F 2) 32343711005) (cH J)) (D (dd (F 6) 1085869904490026943520 (.bool true)) J)) (D (.hK (bG (F 3) 32382534832) (cH (D (F 4) (D (bo 478679974298336 (D (F 2) (D (M 0) J))) J))) (cH (D (bG (F 2) 4136611441551) (D (M 0) (D (F 5) J))))) (D (.hK (bG (F 3) 32382534832) (cH (D (F 5) (D (bo 478679974298336 (D (F 2) (D (M 1) J))) J))) (cH (D (bG (F 2) 4136611441551) (D (M 1) (D (F 4) J))))) (D (bO dr) J))))))))⟩
noncomputable abbrev K8:Nat:=71856125492609622
noncomputable def yb:cP:=⟨2,[],2,D (bE 3 (.comp [0,1] (F 2) (bG (F 0) 32382534832) (aU .Eq (a5 (a5 (bG (F 0) 32382534832) (F 2)) (M 0)) (F 1)))) (D (.hN 2 (F 3) (D (.del (bG (F 0) 32382534832) (F 2)) J)) J)⟩
noncomputable abbrev Ll:Nat:=66477878872594519
noncomputable def yd:cP:=⟨1,[],1,D (ce (aU .Eq (bo 7965714168974938303 (D (F 0) J)) (M 2)) (D (bE 1 (bo 253089083 (D (F 0) (D (bF 501832981439121) (D (M 6) (D (M 2) J)))))) (D (bO (gA (aU .Eq (bG (F 0) 1727422) (M 20)) (gA (aU .IsNot (F 1) dr) (aU .Eq (bc .BitAnd (bo 7965713916960092358 (D (F 1) J)) (M 16383)) (M 0))))) J)) J) (D (bO (gA (aU .Eq (bo 7965714168974938303 (D (F 0) J)) (M 10)) (aU .Eq (bG (F 0) 1727422) (M 40)))) J)⟩
noncomputable abbrev LA:Nat:=69496299193304933
noncomputable def sS:cP:=⟨3,[],1,D (ce (fs (.not (bo 66477878872594519 (D (F 1) J))) (aU .LtE (bo 3710697593742 (D (F 1) J)) (M 1))) (D (bO (.bool false)) J) J) (D (ce (aU .Is (bo 253089083 (D (F 1) (D (bF 9041178932001308406) (D (M 0) (D (eH (aU .Eq (bG (F 1) 6946) (M 6)) (M 20) (M 8)) J))))) dr) (D (bO (.bool false)) J) J) (D (ce (aU .NotEq (bG (F 1) 6946) (M 6)) (D (bO (.bool true)) J) J) (D (bE 3 (bo 61749720567711817 (D (F 1) J))) (D (ce (gA (aU .GtE (F 3) (M 0)) (aU .NotEq (bc .BitAnd (F 3) (.glob 394727189675324)) (M 0))) (D (.ex (bo 71856125492609622 (D (F 0) (D (F 2) J)))) J) J) (D (bO (gA (aU .GtE (F 3) (M 0)) (aU .Eq (bc .BitAnd (F 3) (.glob 101711603955798388571801)) (M 0)))) J)))))⟩
noncomputable abbrev DX:Nat:=70090763726569332
noncomputable def mR:cP:=⟨1,[],10,D (.hW [1,2] (cH (D (bG (F 0) 4208076696062) (D (bG (F 0) 32356723236) J)))) (D (bE 3 (eH (aU .Is (F 2) dr) dr (bo 61749716701775718 (D (F 1) J)))) (D (bE 4 (eH (aU .Is (F 3) dr) dr (.lI (bG (F 2) 32382534832) 1960259 (D (cH (D (a5 (bG (F 1) 212335787) (bF 1727803)) (D (F 3) J))) J)))) (D (ce (aU .Is (F 4) dr) (D (bO (.neg (M 1))) J) J) (D (.hW [5,6,7] (F 4)) (D (bE 8 (.lI (bG (F 2) 32356723236) 1960259 (D (F 5) J))) (D (ce (fs (aU .Is (F 8) dr) (fs (aU .LtE (bG (F 8) 30414104497) (bG (F 0) 2011479)) (.not (bo 69496299193304933 (D (F 2) (D (F 1) (D (F 5) J))))))) (D (bO (.neg (M 1))) J) J) (D (bE 9 (bo 4211664131230 (D (bo 478679974298336 (D (F 8) (D (bc .Sub (M 1) (F 6)) J))) J))) (D (.hN 10 (cH (D (bF 1962062) (D (bF 1679051) J))) (D (ce (aU .NotEq (bc .BitAnd (bG (F 8) 4176803699882) (bo 533981184097260 (D (F 10) (D (F 6) J)))) (M 0)) (D (.ex (bo 474253113345289 (D (F 1) (D (F 9) (D (F 10) J))))) J) J) J)) (D (.ex (bo 65340310416152432 (D (F 1) J))) (D (dd (F 8) 30414104497 (bc .Add (bG (F 0) 2011479) (eH (aU .Eq (bG (F 1) 6946) (M 6)) (M 432000000) (M 120000)))) (D (bO (F 7)) J)))))))))))⟩
noncomputable abbrev K0:Nat:=28486126707
noncomputable def Hd:cP:=⟨4,[(.str 32655181237)],0,D (dd (F 0) 4208076696062 (F 1)) (D (dd (F 0) 2011479 (F 3)) (D (dd (F 0) 233720757 (F 4)) (D (dd (F 0) 233669040 dr) (D (dd (F 0) 28498942502 (M 1)) (D (dd (F 0) 73031377932591727 (M 0)) (D (dd (F 0) 32356723236 dr) (D (dd (F 0) 250976195 (.dict [] J)) (D (dd (F 0) 538767254962417 (.dict [] J)) (D (dd (F 0) 4172078902525 (F 2)) (D (dd (F 0) 538696360408813 (.dict [] J)) (D (dd (F 0) 32371635362 (.dict [] J)) (D (dd (F 0) 1945045 (.dict [] J)) (D (dd (F 0) 32358921654 (.dict [] J)) (D (dd (F 0) 32066789281 (bF 3674188985620)) (D (dd (F 0) 1745221 (gz J)) (D (dd (F 0) 538233085852027 (gz J)) (D (dd (F 0) 32367342644 dr) (D (dd (F 0) 32343861537 (.dict [] J)) J))))))))))))))))))⟩
noncomputable abbrev Ln:Nat:=9261145224548211897
noncomputable def ye:cP:=⟨2,[],1,D (bE 2 (gz (D (M 0) (D (M 1000000000000000) (D (M 0) (D (M 544) (D (M 12) (D (M 66304) (D (M 16) (D (M 1) (D (M 4) (D (M 2) (D (M 3) (D (M 256) (D (M 0) (D (M 0) J)))))))))))))))) (D (ce (aU .Lt (F 1) (d2 .len (D (F 0) J))) (D (bO (bc .Mod (a5 (F 0) (F 1)) (bc .Pow (M 2) (M 64)))) J) J) (D (bO (eH (aU .Lt (F 1) (M 14)) (a5 (F 2) (F 1)) (bc .Mult (M 12) (F 1)))) J))⟩
noncomputable abbrev Lm:Nat:=149197441734739796308497
noncomputable def Hs:cP:=⟨2,[],2,D (bE 2 (gz J)) (D (.hN 3 (F 1) (D (.ex (.lI (F 2) 3638987513726 (D (bc .Mod (F 0) (F 3)) J))) (D (bE 0 (bc .FloorDiv (F 0) (F 3))) J))) (D (bO (F 2)) J))⟩
noncomputable abbrev Lq:Nat:=1165620122283962350008
noncomputable def Hw:cP:=⟨2,[],0,D (bO (.comp [0,1] (bc .Mod (bc .FloorDiv (F 0) (bc .Pow (M 256) (bc .Sub (bc .Sub (F 1) (M 1)) (F 2)))) (M 256)) (.range (M 0) (F 1) (M 1)) (.bool true))) J⟩
noncomputable abbrev Lv:Nat:=1155347722831536258363
noncomputable def Hy:cP:=⟨1,[],0,D (bO (bc .Add (bc .Mult (d2 .sum (D (.slice (F 0) dr dr (M 2)) J)) (M 256)) (d2 .sum (D (.slice (F 0) (M 1) dr (M 2)) J)))) J⟩
noncomputable abbrev Lo:Nat:=9041773108000248009
noncomputable def Ht:cP:=⟨2,[],0,D (ce (aU .Eq (F 0) (M 2)) (D (bO (bc .Add (M 167772160) (bc .Mult (M 16909060) (F 1)))) J) J) (D (bO (bc .Add (bc .Pow (M 2) (M 125)) (bc .Mult (M 5192376096523839485395206520373255) (F 1)))) J)⟩
noncomputable abbrev wC:Nat:=1126974941192616547005
noncomputable def Hv:cP:=⟨1,[],15,D (.hW [1,2,3,4,5,6] (bo 149197441734739796308497 (D (bo 9261145224548211897 (D (F 0) (D (M 0) J))) (D (gz (D (M 2) (D (M 2) (D (M 2) (D (M 2) (D (M 2) (D (M 16) J))))))) J)))) (D (bE 7 (bo 149197441734739796308497 (D (bo 9261145224548211897 (D (F 0) (D (M 1) J))) (D (gz (D (M 65536) (D (M 65536) (D (M 65536) (D (M 65536) J))))) J)))) (D (bE 8 (eH (aU .Eq (F 1) (M 1)) (M 10) (M 2))) (D (bE 9 (.comp [8] (bo 9041773108000248009 (D (F 0) (D (F 1) J))) (.range (M 1) (M 5) (M 1)) (.bool true))) (D (bE 10 (cH (D (a5 (F 9) (M 0)) (D (a5 (F 7) (M 0)) J)))) (D (bE 11 (cH (D (a5 (F 9) (M 1)) (D (a5 (F 7) (M 1)) J)))) (D (bE 12 (.dict [(.str 520337511393423),(.str 65316666195313658),(.str 3671692403735),(.str 4208068358925),(.str 2042964),(.str 28497126166)] (D (F 8) (D (eH (aU .Eq (F 2) (M 1)) (M 17) (M 6)) (D (aU .Eq (F 3) (M 0)) (D (aU .Eq (F 4) (M 0)) (D (F 5) (D (F 6) J)))))))) (D (bE 13 (eH (aU .Eq (F 3) (M 0)) (cH (D (a5 (F 9) (M 2)) (D (a5 (F 7) (M 2)) J))) (F 10))) (D (bE 14 (eH (aU .Eq (F 4) (M 0)) (cH (D (a5 (F 9) (M 3)) (D (a5 (F 7) (M 3)) J))) (F 11))) (D (bE 15 (cH (D (a5 (F 9) (M 0)) (D (bc .Mod (bc .Add (a5 (F 7) (M 0)) (M 1)) (M 65536)) J)))) (D (.hK (F 12) (bF 250711086) (cH (D (cH (D (cH (D (F 10) (D (F 11) J))) (D (cH (D (F 14) (D (F 13) J))) J))) (D (cH (D (cH (D (F 15) (D (F 11) J))) (D (cH (D (F 11) (D (F 15) J))) J))) J)))) (D (bO (F 12)) J)))))))))))⟩
noncomputable abbrev Ls:Nat:=1017464626365034488246
noncomputable def Hx:cP:=⟨2,[],0,D (bO (cH (D (a5 (F 0) (bF 520337511393423)) (D (a5 (F 0) (bF 65316666195313658)) (D (a5 (a5 (F 1) (M 0)) (M 0)) (D (a5 (a5 (F 1) (M 0)) (M 1)) (D (a5 (a5 (F 1) (M 1)) (M 0)) (D (a5 (a5 (F 1) (M 1)) (M 1)) J)))))))) J⟩
noncomputable abbrev Lr:Nat:=322978501955733399149959705725
noncomputable def yh:cP:=⟨3,[],5,D (bE 3 (eH (aU .Eq (a5 (F 0) (bF 520337511393423)) (M 10)) (M 16) (M 4))) (D (bE 4 (bc .Add (bo 1165620122283962350008 (D (a5 (a5 (F 1) (M 0)) (M 1)) (D (M 2) J))) (bo 1165620122283962350008 (D (a5 (a5 (F 1) (M 1)) (M 1)) (D (M 2) J))))) (D (ce (aU .Eq (a5 (F 0) (bF 65316666195313658)) (M 6)) (D (bE 4 (bc .Add (bc .Add (F 4) (gz (D (M 1) (D (M 2) (D (M 3) (D (M 4) (D (M 255) (D (M 254) (D (M 253) (D (M 252) (D (M 80) (D (a5 (F 2) (bF 32347954834)) (D (M 7) (D (M 9) (D (M 0) (D (M 0) (D (M 0) (D (M 0) J)))))))))))))))))) (a5 (F 2) (bF 212335262)))) (D (bE 5 (M 16)) J)) (D (bE 4 (bc .Add (bc .Add (F 4) (gz (D (M 0) (D (bc .Add (M 8) (d2 .len (D (a5 (F 2) (bF 212335262)) J))) (D (M 0) (D (M 0) J)))))) (a5 (F 2) (bF 212335262)))) (D (bE 5 (M 6)) J))) (D (bE 6 (bc .Add (bc .Add (bo 1155347722831536258363 (D (F 4) J)) (a5 (F 0) (bF 65316666195313658))) (d2 .len (D (F 4) J)))) (D (bE 6 (bc .Add (bc .Add (F 6) (bo 1155347722831536258363 (D (bo 1165620122283962350008 (D (a5 (a5 (F 1) (M 0)) (M 0)) (D (F 3) J))) J))) (bo 1155347722831536258363 (D (bo 1165620122283962350008 (D (a5 (a5 (F 1) (M 1)) (M 0)) (D (F 3) J))) J)))) (D (bE 7 (bc .Mod (.neg (F 6)) (M 65535))) (D (ce (aU .Eq (F 5) (M 6)) (D (bE 7 (eH (a5 (F 2) (bF 474179417114332)) (M 0) (fs (F 7) (M 65535)))) J) J) (D (.p3 (F 4) (F 5) (bc .Add (F 5) (M 2)) (bo 1165620122283962350008 (D (F 7) (D (M 2) J)))) (D (bO (eH (a5 (F 2) (bF 4212490224397)) (.slice (F 4) dr (eH (aU .Eq (F 5) (M 16)) (M 12) (M 6)) dr) (F 4))) J))))))))⟩
noncomputable abbrev Lu:Nat:=1017463972097343536811
noncomputable def yi:cP:=⟨5,[],4,D (bE 5 (a5 (F 0) (bF 65316666195313658))) (D (ce (aU .Eq (a5 (F 0) (bF 520337511393423)) (M 10)) (D (bE 6 (eH (a5 (F 3) (bF 483256970620402)) (gz (D (F 5) (D (M 0) (D (M 1) (D (M 4) (D (M 0) (D (M 0) (D (M 0) (D (M 0) J))))))))) (gz J))) (D (bE 7 (gz (D (M 96) (D (M 0) (D (M 0) (D (M 5) (D (M 0) (D (bc .Add (d2 .len (D (F 6) J)) (d2 .len (D (F 4) J))) (D (eH (a5 (F 3) (bF 483256970620402)) (M 60) (F 5)) (D (F 2) J)))))))))) (D (bO (d2 .bytes (D (bc .Add (bc .Add (bc .Add (bc .Add (F 7) (bo 1165620122283962350008 (D (a5 (a5 (F 1) (M 0)) (M 0)) (D (M 16) J)))) (bo 1165620122283962350008 (D (a5 (a5 (F 1) (M 1)) (M 0)) (D (M 16) J)))) (F 6)) (F 4)) J))) J))) J) (D (bE 8 (eH (a5 (F 3) (bF 483256970620402)) (gz (D (M 1) (D (M 1) (D (M 1) (D (M 0) J))))) (gz J))) (D (bE 7 (bc .Add (gz (D (bc .Add (M 69) (bc .FloorDiv (d2 .len (D (F 8) J)) (M 4))) (D (M 8) (D (M 0) (D (bc .Add (bc .Add (M 20) (d2 .len (D (F 8) J))) (d2 .len (D (F 4) J))) (D (M 17) (D (M 18) J))))))) (bo 1165620122283962350008 (D (a5 (F 3) (bF 218743872)) (D (M 2) J))))) (D (bE 7 (bc .Add (bc .Add (bc .Add (bc .Add (F 7) (gz (D (F 2) (D (F 5) (D (M 0) (D (M 0) J)))))) (bo 1165620122283962350008 (D (a5 (a5 (F 1) (M 0)) (M 0)) (D (M 4) J)))) (bo 1165620122283962350008 (D (a5 (a5 (F 1) (M 1)) (M 0)) (D (M 4) J)))) (F 8))) (D (.p3 (F 7) (M 10) (M 12) (bo 1165620122283962350008 (D (bc .Mod (.neg (bo 1155347722831536258363 (D (F 7) J))) (M 65535)) (D (M 2) J)))) (D (bO (d2 .bytes (D (bc .Add (F 7) (F 4)) J))) J))))))⟩
noncomputable abbrev zN:Nat:=1165999419572470866990
noncomputable def vg:cP:=⟨2,[],15,D (.hW [2,3,4,5,6] (bo 149197441734739796308497 (D (a5 (F 1) (M 0)) (D (gz (D (M 4) (D (M 2) (D (M 8) (D (M 8) (D (M 8) J)))))) J)))) (D (.hW [7,8,9,10,11,12,13] (bo 149197441734739796308497 (D (a5 (F 1) (M 1)) (D (gz (D (M 8) (D (M 4) (D (M 8) (D (M 4) (D (M 4) (D (M 8) (D (M 8) J)))))))) J)))) (D (bE 14 (.dict [(.str 29293349016),(.str 2042964),(.str 1829079),(.str 1017079913789210209081)] (D (eH (aU .Eq (F 2) (M 3)) (M 1) (M 0)) (D (F 3) (D (a5 (cH (D (M 64) (D (M 2) (D (M 1) (D (M 255) (D (M 0) (D (M 3) (D (M 64) (D (M 2) J))))))))) (F 4)) (D (aU .Eq (F 6) (M 7)) J)))))) (D (.hK (F 14) (bF 1727803) (eH (aU .Eq (F 5) (M 7)) (bc .Sub (M 2) (F 3)) (bc .Add (M 1) (F 3)))) (D (.hK (F 14) (bF 244288448) (a5 (cH (D (M 0) (D (M 1) (D (M 500) (D (M 4000) (D (M 119999) (D (M 120000) (D (M 432000000) (D (M 3999) J))))))))) (F 13))) (D (.hK (F 14) (bF 28490354198) (.dict [(.str 32347954834),(.str 483256970620402),(.str 218743872)] (D (a5 (cH (D (M 16) (D (M 24) (D (M 17) (D (M 16) (D (M 20) (D (M 18) (D (M 16) (D (M 0) J))))))))) (F 7)) (D (aU .Eq (F 8) (M 3)) (D (a5 (cH (D (M 0) (D (M 16384) (D (M 0) (D (M 16384) (D (M 0) (D (M 8192) (D (M 3) (D (M 8193) J))))))))) (F 9)) J))))) (D (.hK (a5 (F 14) (bF 28490354198)) (bF 212335262) (.slice (gz (D (M 250) (D (M 3) (D (M 255) J)))) dr (F 10) dr)) (D (.hK (a5 (F 14) (bF 28490354198)) (bF 474179417114332) (aU .Eq (F 11) (M 3))) (D (.hK (a5 (F 14) (bF 28490354198)) (bF 4212490224397) (aU .Eq (F 12) (M 7))) (D (.hW [15,16] (a5 (a5 (a5 (F 0) (bF 250711086)) (a5 (F 14) (bF 29293349016))) (F 3))) (D (ce (a5 (F 14) (bF 1017079913789210209081)) (D (bE 15 (cH (D (a5 (F 15) (M 0)) (D (bc .Mod (bc .Add (a5 (F 15) (M 1)) (M 1000)) (M 65536)) J)))) J) J) (D (.hK (F 14) (bF 248645936) (cH (D (F 15) (D (F 16) J)))) (D (bO (F 14)) J))))))))))))⟩
noncomputable abbrev Lp:Nat:=1007038830914243834535
noncomputable def Hu:cP:=⟨2,[],5,D (.hW [2,3] (a5 (F 1) (bF 248645936))) (D (ce (aU .Eq (a5 (F 1) (bF 29293349016)) (M 1)) (D (bO (cH (D (F 2) (D (F 3) J)))) J) J) (D (bE 4 (a5 (a5 (a5 (F 0) (bF 250711086)) (M 0)) (bc .Sub (M 1) (a5 (F 1) (bF 2042964))))) (D (.hW [5,6] (cH (D (a5 (F 0) (bF 3671692403735)) (D (a5 (F 0) (bF 4208068358925)) J)))) (D (ce (aU .Eq (a5 (F 1) (bF 2042964)) (M 1)) (D (.hW [5,6] (cH (D (F 6) (D (F 5) J)))) J) J) (D (bO (cH (D (eH (F 5) (a5 (F 4) (M 1)) (F 2)) (D (eH (F 6) (a5 (F 4) (M 0)) (F 3)) J)))) J)))))⟩
noncomputable abbrev zP:Nat:=19246430716825010854474233
noncomputable def yg:cP:=⟨2,[],6,D (bE 2 (a5 (F 1) (bF 28490354198))) (D (bE 3 (bo 1007038830914243834535 (D (F 0) (D (F 1) J)))) (D (bE 4 (bo 322978501955733399149959705725 (D (F 0) (D (a5 (F 1) (bF 248645936)) (D (F 2) J))))) (D (bE 5 (gA (aU .Eq (a5 (F 0) (bF 520337511393423)) (M 2)) (aU .NotEq (bc .Mod (a5 (F 2) (bF 218743872)) (M 8192)) (M 0)))) (D (bE 6 (eH (F 5) (F 4) (bo 322978501955733399149959705725 (D (F 0) (D (F 3) (D (F 2) J)))))) (D (bE 7 (a5 (F 1) (bF 1829079))) (D (bO (cH (D (bo 1017463972097343536811 (D (F 0) (D (a5 (F 1) (bF 248645936)) (D (F 7) (D (F 2) (D (F 4) J)))))) (D (bo 1017463972097343536811 (D (F 0) (D (F 3) (D (eH (aU .Gt (F 7) (M 1)) (bc .Sub (F 7) (M 1)) (F 7)) (D (F 2) (D (F 6) J)))))) (D (F 5) J))))) J))))))⟩
noncomputable abbrev zM:Nat:=61183076018344776
noncomputable def yf:cP:=⟨4,[],2,D (.hW [4,5] (cH (D (a5 (F 2) (bF 28490354198)) (D (a5 (F 2) (bF 29293349016)) J)))) (D (ce (fs (F 3) (fs (a5 (F 2) (bF 1017079913789210209081)) (fs (aU .NotEq (a5 (F 2) (bF 1727803)) (bc .Add (M 1) (a5 (F 2) (bF 2042964)))) (.not (a5 (a5 (F 1) (bF 32382534832)) (F 5)))))) (D (bO (.neg (M 1))) J) J) (D (ce (fs (aU .LtE (a5 (a5 (F 1) (bF 30414104497)) (F 5)) (a5 (F 1) (bF 2011479))) (fs (aU .Lt (a5 (F 2) (bF 1829079)) (M 2)) (a5 (F 4) (bF 483256970620402)))) (D (bO (.neg (M 1))) J) J) (D (ce (gA (aU .Eq (a5 (F 0) (bF 520337511393423)) (M 2)) (aU .NotEq (bc .Mod (a5 (F 4) (bF 218743872)) (M 16384)) (M 0))) (D (bO (.neg (M 1))) J) J) (D (ce (a5 (F 4) (bF 4212490224397)) (D (bO (.neg (M 1))) J) J) (D (ce (aU .Eq (a5 (F 0) (bF 65316666195313658)) (M 6)) (D (ce (aU .In (a5 (F 4) (bF 32347954834)) (cH (D (M 17) (D (M 20) J)))) (D (.hK (a5 (F 1) (bF 32382534832)) (F 5) (.bool false)) (D (bO (.neg (M 1))) J)) J) (D (ce (aU .Eq (a5 (F 4) (bF 32347954834)) (M 18)) (D (bO (.neg (M 1))) J) J) J)) J) (D (.hK (a5 (F 1) (bF 30414104497)) (F 5) (bc .Add (a5 (F 1) (bF 2011479)) (eH (aU .Eq (a5 (F 0) (bF 65316666195313658)) (M 6)) (M 432000000) (M 120000)))) (D (bO (bc .Sub (M 2) (a5 (F 2) (bF 2042964)))) J)))))))⟩
noncomputable abbrev qx:Nat:=1156802964355921382199
noncomputable def vh:cP:=⟨2,[],3,D (bE 2 (gz J)) (D (.hN 3 (cH (D (M 0) (D (M 1) J))) (D (ce (a5 (a5 (F 1) (bF 32382534832)) (F 3)) (D (.hN 4 (cH (D (M 0) (D (M 1) J))) (D (.ex (.lI (F 2) 3638987513726 (D (cH (D (cH (D (bc .Add (M 1) (F 4)) (D (bo 1017464626365034488246 (D (F 0) (D (a5 (a5 (a5 (F 0) (bF 250711086)) (F 3)) (F 4)) J))) J))) (D (cH (D (bc .Add (F 3) (M 1)) (D (F 4) (D (bc .Sub (M 2) (F 4)) J)))) J))) J))) J)) J) J) J)) (D (bO (d2 .sorted (D (F 2) J))) J))⟩
noncomputable abbrev zL:Nat:=8349218486259912630
noncomputable def Hr:cP:=⟨1,[],3,D (bE 1 (bo 64722615088540447 (D (M 4) J))) (D (.hN 2 (cH (D (M 0) (D (M 1) J))) (D (bE 3 (bo 233669008 (D (bc .Add (F 2) (M 1)) (D (bo 1017464626365034488246 (D (F 0) (D (a5 (a5 (a5 (F 0) (bF 250711086)) (F 2)) (M 0)) J))) (D (bo 1017464626365034488246 (D (F 0) (D (a5 (a5 (a5 (F 0) (bF 250711086)) (F 2)) (M 1)) J))) (D (M 0) J)))))) (D (dd (F 3) 30414104497 (M 5000)) (D (dd (F 3) 4176803699882 (M 14)) (D (dd (F 3) 28498942502 (M 3)) (D (ce (aU .Eq (F 2) (M 0)) (D (dd (F 3) 4176803699882 (bc .Add (bc .Add (M 14) (eH (a5 (F 0) (bF 3671692403735)) (M 16) (M 0))) (eH (a5 (F 0) (bF 4208068358925)) (M 32) (M 0)))) J) J) (D (.hK (bG (F 1) 32356723236) (bc .Add (F 2) (M 1)) (F 3)) J))))))) (D (bO (F 1)) J))⟩
noncomputable abbrev mm:Nat:=64740556116810441
noncomputable def kO:cP:=⟨5,[],6,D (bE 5 (.dict [(.str 32347954834),(.str 483256970620402),(.str 218743872),(.str 212335262),(.str 474179417114332),(.str 4212490224397)] (D (eH (aU .Eq (F 4) (M 15)) (M 17) (M 16)) (D (aU .Eq (F 4) (M 10)) (D (M 0) (D (gz J) (D (.bool false) (D (.bool false) J)))))))) (D (bE 6 (a5 (a5 (a5 (F 0) (bF 250711086)) (F 2)) (F 3))) (D (bE 7 (bo 1017463972097343536811 (D (F 0) (D (F 6) (D (M 64) (D (F 5) (D (bo 322978501955733399149959705725 (D (F 0) (D (F 6) (D (F 5) J)))) J))))))) (D (bE 8 (bo 28486126707 (D (bo 7965713988425346869 (D (F 7) (D (eH (aU .Eq (a5 (F 0) (bF 520337511393423)) (M 2)) (M 2048) (M 34525)) J))) (D (.dict [] J) (D (M 1000) J))))) (D (dd (F 8) 32356723236 (F 1)) (D (dd (F 8) 233669040 (a5 (bG (F 1) 32356723236) (bc .Add (F 2) (M 1)))) (D (dd (F 8) 28498942502 (eH (aU .Eq (F 4) (M 12)) (M 8) (M 2))) (D (dd (F 8) 73031377932591727 (F 3)) (D (.hK (bG (bG (F 8) 4208076696062) 212335787) (bF 1727803) (bc .Add (M 1) (F 3))) (D (.hK (bG (bG (F 8) 4208076696062) 212335787) (bF 1727809) (bc .Sub (M 2) (F 3))) (D (bE 9 (bG (bG (F 8) 233669040) 4176803699882)) (D (dd (bG (F 8) 233669040) 4176803699882 (bc .Sub (F 9) (.lI (.dict [(.int (11)),(.int (13))] (D (M 4) (D (M 8) J))) 1960259 (D (F 4) (D (M 0) J))))) (D (dd (bG (F 8) 233669040) 28498942502 (eH (aU .Eq (F 4) (M 14)) (M 4) (M 3))) (D (bE 10 (bo 19409776953675869410994860 (D (F 8) (D (bF 218460970) J)))) (D (dd (bG (F 8) 233669040) 4176803699882 (F 9)) (D (dd (bG (F 8) 233669040) 28498942502 (M 3)) (D (bO (F 10)) J))))))))))))))))⟩
noncomputable abbrev zK:Nat:=278870288483890228836306864303
noncomputable def jf:cP:=⟨2,[],3,D (.hW [2,3] (cH (D (a5 (F 0) (bF 28497126166)) (D (a5 (F 0) (bF 2042964)) J)))) (D (bE 4 (fs (aU .In (F 2) (cH (D (M 12) (D (M 13) J)))) (gA (aU .In (F 2) (cH (D (M 11) (D (M 14) (D (M 15) J))))) (aU .Eq (a5 (F 0) (bF 65316666195313658)) (M 6))))) (D (bE 4 (fs (F 4) (gA (aU .Eq (F 2) (M 10)) (aU .Eq (a5 (F 0) (bF 520337511393423)) (M 2))))) (D (ce (gA (F 4) (fs (aU .NotEq (bo 64740556116810441 (D (F 0) (D (F 1) (D (M 0) (D (F 3) (D (F 2) J)))))) (cH (D (bF 30119758986) (D (bF 0) J)))) (aU .NotEq (bG (F 1) 32382534832) (.dict [] J)))) (D (bO (.bool false)) J) J) (D (ce (aU .IsNot (bo 64740556116810441 (D (F 0) (D (F 1) (D (M 0) (D (F 3) (D (eH (.not (F 4)) (F 2) (M 0)) J)))))) dr) (D (bO (.bool false)) J) J) (D (ce (aU .IsNot (bo 64740556116810441 (D (F 0) (D (F 1) (D (M 1) (D (bc .Sub (M 1) (F 3)) (D (M 0) J)))))) dr) (D (bO (.bool false)) J) J) (D (bO (aU .Eq (bo 64740556116810441 (D (F 0) (D (F 1) (D (M 0) (D (bc .Sub (M 1) (F 3)) (D (M 0) J)))))) (cH (D (bF 30119758986) (D (bF 0) J))))) J))))))⟩
noncomputable abbrev zO:Nat:=9041708520722866617
noncomputable def nK:cP:=⟨5,[],3,D (bE 5 (bo 7965713988425346869 (D (F 4) (D (eH (aU .Eq (a5 (F 0) (bF 520337511393423)) (M 2)) (M 2048) (M 34525)) J)))) (D (.hK (bG (F 5) 212335787) (bF 1727803) (a5 (F 2) (bF 1727803))) (D (bE 6 (bo 28486126707 (D (F 5) (D (.dict [] J) (D (F 3) J))))) (D (dd (F 6) 32356723236 (F 1)) (D (bE 7 (bo 70090763726569332 (D (F 6) J))) (D (bO (cH (D (F 7) (D (d2 .bytes (D (bG (F 5) 212335262) J)) (D (gz (D (bG (a5 (bG (F 1) 32356723236) (M 1)) 30414104497) (D (bG (a5 (bG (F 1) 32356723236) (M 2)) 30414104497) J))) (D (.items (bG (F 1) 32382534832)) J)))))) J)))))⟩
noncomputable abbrev zQ:Nat:=9269440652986884432
noncomputable def pQ:cP:=⟨5,[],3,D (bE 5 (bo 7965713988425346869 (D (F 4) (D (eH (aU .Eq (a5 (F 0) (bF 520337511393423)) (M 2)) (M 2048) (M 34525)) J)))) (D (bE 6 (bo 28486126707 (D (F 5) (D (.dict [] J) (D (F 3) J))))) (D (dd (F 6) 233669040 (a5 (bG (F 1) 32356723236) (bc .Add (a5 (F 2) (bF 29293349016)) (M 1)))) (D (dd (F 6) 73031377932591727 (a5 (F 2) (bF 2042964))) (D (.ex (bo 7892008977562703319 (D (F 6) (D (bF 1962062) J)))) (D (.ex (bo 7892008977562703319 (D (F 6) (D (bF 1679051) J)))) (D (bE 7 (bo 65340310416152432 (D (F 5) J))) (D (bO (cH (D (F 7) (D (d2 .bytes (D (bG (F 5) 212335262) J)) J)))) J)))))))⟩
noncomputable abbrev zJ:Nat:=2009671
noncomputable def je:cP:=⟨1,[],10,D (bE 1 (bo 1126974941192616547005 (D (F 0) J))) (D (bE 2 (bo 8349218486259912630 (D (F 1) J))) (D (bE 3 (.dict [(.str 2011479),(.str 30414104497),(.str 32382534832)] (D (M 1000) (D (gz (D (M 5000) (D (M 5000) J))) (D (gz (D (.bool true) (D (.bool true) J))) J))))) (D (ce (fs (.not (bo 278870288483890228836306864303 (D (F 1) (D (F 2) J)))) (aU .NotEq (.items (bG (F 2) 32382534832)) (bo 1156802964355921382199 (D (F 1) (D (F 3) J))))) (D (bO (.bool false)) J) J) (D (.hN 4 (.range (M 0) (bc .Add (M 6) (d2 .min (D (M 4) (D (bc .FloorDiv (d2 .len (D (F 0) J)) (M 8)) J)))) (M 1)) (D (bE 5 (bo 1165999419572470866990 (D (F 1) (D (.comp [4,0] (bo 9261145224548211897 (D (F 1) (D (bc .Add (bc .Add (M 2) (bc .Mult (M 2) (F 0))) (F 2)) J))) (cH (D (M 0) (D (M 1) J))) (.bool true)) J)))) (D (.hK (F 3) (bF 2011479) (bc .Add (a5 (F 3) (bF 2011479)) (a5 (F 5) (bF 244288448)))) (D (.hW [6,7,8] (bo 19246430716825010854474233 (D (F 1) (D (F 5) J)))) (D (bE 9 (bo 61183076018344776 (D (F 1) (D (F 3) (D (F 5) (D (F 8) J)))))) (D (bE 10 (cH (D (F 9) (D (eH (aU .GtE (F 9) (M 0)) (F 7) (F 6)) (D (a5 (F 3) (bF 30414104497)) (D (bo 1156802964355921382199 (D (F 1) (D (F 3) J))) J)))))) (D (ce (aU .NotEq (bo 9041708520722866617 (D (F 1) (D (F 2) (D (F 5) (D (a5 (F 3) (bF 2011479)) (D (F 6) J)))))) (F 10)) (D (bO (.bool false)) J) J) (D (ce (aU .NotEq (bo 9269440652986884432 (D (F 1) (D (F 2) (D (F 5) (D (a5 (F 3) (bF 2011479)) (D (F 6) J)))))) (cH (D (aU .Gt (a5 (F 5) (bF 1829079)) (M 1)) (D (F 7) J)))) (D (bO (.bool false)) J) J) J)))))))) (D (.ex (bo 8347371211521298121 (D (F 2) (D (a5 (bG (F 2) 32356723236) (M 1)) J)))) (D (.hK (a5 (F 3) (bF 32382534832)) (M 0) (.bool false)) (D (bO (gA (aU .Eq (.items (bG (F 2) 32382534832)) (bo 1156802964355921382199 (D (F 1) (D (F 3) J)))) (aU .Eq (d2 .list (D (bG (F 2) 32356723236) J)) (gz (D (M 2) J))))) J)))))))⟩
end
end
noncomputable def qB {a4:Type}:List (Nat×a4)→Nat→Option a4
 | [],_=>none
 |(a,x)::r,n=>match c1 a n with|true=>E x|false=>qB r n
def aP:Nat→Option V:=qB [(a7 "DYING",.int 512),(a7 "ASSURED",.int 4),(a7 "CONFIRMED",.int 8),(a7 "ESTABLISHED",.int 3),(a7 "FIN_RST",.int 5),(a7 "FIN_RST_SYN",.int 7)]
def inl (bg:cP):Row:=⟨0,false,fun C=>cR C aP bg⟩
def ww (bg:cP):Row:=⟨0,true,fun C=>cR C aP bg⟩
noncomputable def foldI (t:Int):Int:=if t=0 then 0 else(t-1)% 65535+1
noncomputable def bf (n:Int)(s:Nat):List Int:=(List.range s).map fun k=>n/256^(s-1-k)% 256
noncomputable def cO (b:List Int):Int:=b.foldl (fun n o=>n*256+o) 0
noncomputable def wsum:List Int→Int
 |a::b::r=>a*256+b+wsum r
 |_=>0
def jr (c:Int)(o n:List Int):Int:=65535-foldI (65535-c+65535*(o.length/2)-wsum o+wsum n)
theorem Io (n:Int):∀(k:Nat) (o:Int),0≤o→o<2^k→Builtin.bitAnd (2^k*n) o=0
 |0,o,bl,R=>by
  have:o=0:=by lia
  subst this;exact Int.le_antisymm ((bitAnd_range _ (uX 0)).2) ((bitAnd_range _ (uX 0)).1)
 |k+1,o,bl,R=>by rw[kbt_halves,uY,show(2:Int)^k*2*n=2*(2^k*n) by rw[xN (2^k) 2,Gw],Int.mul_ediv_cancel_left _ (by decide),Int.mul_emod_right,Io n k (o/2) (by lia) (by rw[uY] at R;lia)];rfl
theorem abM {n o:Int}(k:Nat)(bl:0≤o)(R:o<2^k):Builtin.bitOr (n*2^k) o=n*2^k+o:=by rw[bitOr_and,xN n,Io n k o bl R,Int.sub_zero]
theorem EQ {n o:Int}(bl:0≤o)(R:o<256):Builtin.bitOr (n*2^(8:Int).toNat) o=n*256+o:=abM 8 bl R
theorem C7 {f:V→List V→List an→dK→Prop}{st:List an→(List V→Prop)→Prop}{K:dK}(aM:Nat→List V→Prop)
 (step:∀i v loc,vs[i]? =E v→aM i loc→∀hs:dK,(∀eg,aM (i+1) eg→hs .next eg H)→f v loc H hs)
 (gY:∀i loc,aM i loc→∀P:List V→List an→Prop,P loc H→trunc m loc H P)(hu:∀P:List V→Prop,P vs→st H P)(fin:∀loc,aM vs.length loc→K .next loc H):
 ∀n i loc,aM i loc→i≤vs.length→vs.length<n+i→ix m f st n i vs loc H K:=fun n=>by
 induction n with
 |zero=>intro i loc _ R Z;lia
 |succ n aF=>
  intro i loc ab R Z;unfold ix;cases e:vs[i]? with
  |none=>
   have:i=vs.length:=by have:=List.getElem?_eq_none_iff.mp e;lia
   exact fin loc (this▸ab)
  |some v=>refine step i v loc e ab _ fun eg ze=>?_;refine gY _ _ ze _ (hu _ ?_);have:=(List.getElem?_eq_some_iff.mp e).1;exact aF (i+1) eg ze (by lia) (by lia)
theorem S9 {f:V→List an→(Option V→List an→Prop)→Prop}{st:List an→(List V→Prop)→Prop}{K:List V→List an→Prop}(g:V→V)
 (step:∀v∈vs,∀k:Option V→List an→Prop,k (E (g v)) H→f v H k)(hu:∀P:List V→Prop,P vs→st H P)(fin:K (vs.map g) H):
 ∀n i,i≤vs.length→vs.length<n+i→j3 f st n i vs H ((vs.take i).map g) K:=fun n=>by
 induction n with
 |zero=>intro i R Z;lia
 |succ n aF=>
  intro i R Z;unfold j3;cases e:vs[i]? with
  |none=>have:=List.getElem?_eq_none_iff.mp e;rw[List.take_of_length_le this];exact fin
  |some v=>
   refine step v (List.mem_of_getElem? e) _ (hu _ ?_);have:=(List.getElem?_eq_some_iff.mp e).1;have aJ:(vs.take i).map g++[g v]=(vs.take (i+1)).map g:=by rw[List.take_add_one,e];simp
   refine(?_:j3 f st n (i+1) vs H ((vs.take i).map g++[g v]) K);rw[aJ];exact aF (i+1) (by lia) (by lia)
abbrev Spec:=List V→List an→bI→Prop
theorem ki {A B:Prop}(h:A=B)(b:B):A:=h▸b
theorem jI {P Q:Prop}(h:b=true)(p:P):ao b P Q:=by subst h;exact p
theorem p7 {P Q:Prop}(h:b=false)(q:Q):ao b P Q:=by subst h;exact q
noncomputable def both {a4 eI:Type}:Option a4→Option eI→Option (a4×eI)
 |some a,E b=>E (a,b)
 |_,_=>none
theorem Cu {a4 eI:Type}{o:Option a4}{u:Option eI}{x:a4×eI}(h:both o u=E x):∃a b,o=E a∧u=E b∧x=(a,b):=by
 induction o using ez with
 |none=>exact nomatch h
 |some a=>
  induction u using ez with
  |none=>exact nomatch h
  |some b=>exact⟨a,b,rfl,rfl,(fc h).symm⟩
noncomputable def F9:Bool→Option Unit
 |true=>E ()
 |false=>none
theorem PQ {x:Unit}(h:F9 b=E x):b=true:=by cases b;exact nomatch h;rfl
inductive eb where
 |i|b|y|s|r|x (v:V)|t (p:eb)|nil|cons (p q:eb)
def fj:eb→Type
 |.i=>Int
 |.b=>Bool
 |.y=>List Int
 |.s=>Nat
 |.r=>Nat
 |.x _=>Unit
 |.t p=>fj p
 |.nil=>Unit
 |.cons p q=>fj p×fj q
noncomputable def Gm:V→V→Bool
 |.none,.none=>true
 |.bool a,.bool b=>a==b
 |.int a,.int b=>decide (a=b)
 |.str a,.str b=>c1 a b
 |.ref a,.ref b=>c1 a b
 |_,_=>false
theorem Qa {w:V}(h:Gm v w=true):w=v:=by
 induction v using V.casesOn with
 |none=>induction w using V.casesOn with
  |none=>rfl
  |_=>exact kn h
 |bool a=>induction w using V.casesOn with
  |bool b=>exact congrArg V.bool (eq_of_beq h).symm
  |_=>exact kn h
 |int a=>induction w using V.casesOn with
  |int b=>exact congrArg V.int (of_decide_eq_true h).symm
  |_=>exact kn h
 |str a=>induction w using V.casesOn with
  |str b=>exact congrArg V.str (fO h).symm
  |_=>exact kn h
 |ref a=>induction w using V.casesOn with
  |ref b=>exact congrArg V.ref (fO h).symm
  |_=>exact kn h
 |_=>cases w<;>exact kn h
mutual
def qI:(p:eb)→V→Option (fj p)
 |.i,.int x=>E x
 |.b,.bool x=>E x
 |.y,.bytes x=>E x
 |.s,.str x=>E x
 |.r,.ref x=>E x
 |.x v,w=>F9 (Gm v w)
 |.t p,.tup vs=>rV p vs
 |_,_=>none
def rV:(p:eb)→List V→Option (fj p)
 |.nil,[]=>E ()
 |.cons p q,v::vs=>both (qI p v) (rV q vs)
 |_,_=>none
end
mutual
noncomputable def ri:(p:eb)→fj p→V
 |.i,x=>.int x
 |.b,x=>.bool x
 |.y,x=>.bytes x
 |.s,x=>.str x
 |.r,x=>.ref x
 |.x v,_=>v
 |.t p,x=>.tup (ji p x)
 |.nil,_=>.aR
 |.cons _ _,_=>.aR
noncomputable def ji:(p:eb)→fj p→List V
 |.nil,_=>[]
 |.cons p q,x=>ri p x.1::ji q x.2
 |.i,_=>[]
 |.b,_=>[]
 |.y,_=>[]
 |.s,_=>[]
 |.r,_=>[]
 |.x _,_=>[]
 |.t _,_=>[]
end
theorem fT {a4:Type}{x:a4}{P:Prop}(h:(none:Option a4)=E x):P:=nomatch h
theorem aa8 {x:fj .nil}(h:qI .nil v=E x):(none:Option Unit)=E x:=by cases v<;>exact h
theorem Tc {p q:eb}{x:fj (.cons p q)}(h:qI (.cons p q) v=E x):(none:Option (fj p×fj q))=E x:=by cases v<;>exact h
theorem t2:∀p:eb,(∀v x,qI p v=E x→v=ri p x)∧(∀vs x,rV p vs=E x→vs=ji p x):=by
 intro p
 induction p with
 |i=>
  refine⟨fun v x h=>?_,fun vs x h=>?_⟩
  .induction v using V.casesOn with
   |int y=>exact congrArg V.int (fc h)
   |_=>exact fT h
  .cases vs<;>exact fT h
 |b=>
  refine⟨fun v x h=>?_,fun vs x h=>?_⟩
  .induction v using V.casesOn with
   |bool y=>exact congrArg V.bool (fc h)
   |_=>exact fT h
  .cases vs<;>exact fT h
 |y=>
  refine⟨fun v x h=>?_,fun vs x h=>?_⟩
  .induction v using V.casesOn with
   |bytes y=>exact congrArg V.bytes (fc h)
   |_=>exact fT h
  .cases vs<;>exact fT h
 |s=>
  refine⟨fun v x h=>?_,fun vs x h=>?_⟩
  .induction v using V.casesOn with
   |str y=>exact congrArg V.str (fc h)
   |_=>exact fT h
  .cases vs<;>exact fT h
 |r=>
  refine⟨fun v x h=>?_,fun vs x h=>?_⟩
  .induction v using V.casesOn with
   |ref y=>exact congrArg V.ref (fc h)
   |_=>exact fT h
  .cases vs<;>exact fT h
 |x w=>
  refine⟨fun v x h=>?_,fun vs x h=>?_⟩
  .exact Qa (PQ h)
  .cases vs<;>exact fT h
 |t p aF=>
  refine⟨fun v x h=>?_,fun vs x h=>?_⟩
  .induction v using V.casesOn with
   |tup vs=>exact congrArg V.tup (aF.2 vs x h)
   |_=>exact fT h
  .cases vs<;>exact fT h
 |nil=>
  refine⟨fun v x h=>?_,fun vs x h=>?_⟩
  .exact fT (aa8 h)
  .induction vs using List.casesOn with
   |nil=>rfl
   |cons _ _=>exact fT h
 |cons p q Ya Yb=>
  refine⟨fun v x h=>?_,fun vs x h=>?_⟩
  .exact fT (Tc h)
  .induction vs using List.casesOn with
   |nil=>exact fT h
   |cons v vs=>refine dB (Cu h) fun a b bS=>?_;refine hJ bS fun aW aJ eG=>?_;clear bS;subst eG;refine(?_:_=ri p a::ji q b);rw[←Ya.1 v a aW,←Yb.2 vs b aJ]
inductive g8 where
 |d (aD:List V) (p:eb) (n:Nat)|e|o (d:Nat)|a|du|z|jb|v (p:eb)|w|f
def yl:g8→Type
 |.d _ p _=>fj p
 |.e=>List (V×V)×Nat
 |.o _=>Unit
 |.a=>List Int
 |.du=>Unit
 |.z=>List Int
 |.jb=>Unit
 |.v p=>fj p
 |.w=>List V
 |.f=>List Int
def zU:List V→List (V×V)→Bool
 | [],[]=>true
 |k::aD,e::es=>Gm k e.1&&zU aD es
 |_,_=>false
noncomputable def oG:List V→List V→List (V×V)
 |k::aD,v::vs=>(k,v)::oG aD vs
 |_,_=>[]
def Ep (aD:List V)(p:eb)(n:Nat)(es:List (V×V))(m:Nat):Option (fj p):=match c1 m n&&zU aD es with
 |true=>rV p (es.map (·.2))
 |false=>none
def MS:(p:g8)→an→Option (yl p)
 |.d aD p n,.dict es m=>Ep aD p n es m
 |.e,.dict es m=>E (es,m)
 |.o d,.inst e=>F9 (c1 e d)
 |.a,.cA b=>E b
 |.du,.cA []=>E ()
 |.z,.ints b=>E b
 |.jb,.ints []=>E ()
 |.v p,.list vs=>rV p vs
 |.w,.list vs=>E vs
 |.f,.d5 b=>E b
 |_,_=>none
def td:(p:g8)→yl p→an
 |.d aD p n,x=>.dict (oG aD (ji p x)) n
 |.e,x=>.dict x.1 x.2
 |.o d,_=>.inst d
 |.a,b=>.cA b
 |.du,_=>.cA []
 |.z,b=>.ints b
 |.jb,_=>.ints []
 |.v p,x=>.list (ji p x)
 |.w,x=>.list x
 |.f,x=>.d5 x
theorem L7:∀{aD:List V} {es:List (V×V)},zU aD es=true→es=oG aD (es.map (·.2))
 | [],[],_=>rfl
 |k::aD,(_,_)::es,h=>by refine b4 h fun R Z=>?_;refine(?_:_=(k,_)::oG aD (es.map (·.2)));rw[←L7 Z,←Qa R]
 | [],_::_,h=>kn h
 |_::_,[],h=>kn h
theorem aav {p:eb}{x:fj p}(h:Ep aD p n es m=E x):an.dict es m=.dict (oG aD (ji p x)) n:=by
 unfold Ep at h;cases e:(c1 m n&&zU aD es) with
 |false=>rw[e] at h;exact fT h
 |true=>rw[e] at h;refine b4 e fun R Z=>?_;rw[←(t2 p).2 _ _ h,←L7 Z,fO R]
theorem aaw {p:g8}{o:an}{x:yl p}(h:MS p o=E x):o=td p x:=by
 cases p with
 |d aD p n=>
  induction o using an.casesOn with
  |dict es m=>exact aav h
  |_=>exact fT h
 |e=>
  induction o using an.casesOn with
  |dict es m=>have h:=fc h;subst h;rfl
  |_=>exact fT h
 |o d=>
  induction o using an.casesOn with
  |inst m=>exact congrArg an.inst (fO (PQ h))
  |_=>exact fT h
 |a=>
  induction o using an.casesOn with
  |cA b=>have h:=fc h;subst h;rfl
  |_=>exact fT h
 |du=>
  induction o using an.casesOn with
  |cA b=>
   induction b using List.casesOn with
   |nil=>rfl
   |cons _ _=>exact fT h
  |_=>exact fT h
 |z=>
  induction o using an.casesOn with
  |«ints» b=>have h:=fc h;subst h;rfl
  |_=>exact fT h
 |jb=>
  induction o using an.casesOn with
  |«ints» b=>
   induction b using List.casesOn with
   |nil=>rfl
   |cons _ _=>exact fT h
  |_=>exact fT h
 |v p=>
  induction o using an.casesOn with
  |list vs=>exact congrArg an.list ((t2 p).2 vs x h)
  |_=>exact fT h
 |w=>
  induction o using an.casesOn with
  |list vs=>have h:=fc h;subst h;rfl
  |_=>exact fT h
 |f=>
  induction o using an.casesOn with
  |d5 b=>have h:=fc h;subst h;rfl
  |_=>exact fT h
def hr:List g8→Type
 | []=>Unit
 |p::ps=>yl p×hr ps
def Ah:(ps:List g8)→List an→Option (hr ps)
 | [],[]=>E ()
 |p::ps,o::os=>both (MS p o) (Ah ps os)
 |_,_=>none
def jj:(ps:List g8)→hr ps→List an
 | [],_=>[]
 |p::ps,x=>td p x.1::jj ps x.2
theorem MT:∀{ps:List g8} {os:List an} {x:hr ps},Ah ps os=E x→os=jj ps x
 | [],[],_,_=>rfl
 | [],_::_,_,h=>fT h
 |_::_,[],_,h=>fT h
 |p::ps,o::os,x,h=>by refine dB (Cu h) fun a b bS=>?_;refine hJ bS fun aW aJ eG=>?_;clear bS;subst eG;refine(?_:_=td p a::jj ps b);rw[←aaw aW,←MT aJ]
def gJ (p:eb)(q:List g8)(cN:fj p→hr q→bI→Prop):Spec:=fun vs H K=>match rV p vs with
 |some a=>(match Ah q H with|some b=>cN a b K|none=>False)
 |none=>False
theorem pq {p:eb}{q:List g8}{cN:fj p→hr q→bI→Prop}(h:gJ p q cN vs H K):∃a b,vs=ji p a∧H=jj q b∧cN a b K:=by
 unfold gJ at h;cases aW:rV p vs with
 |none=>rw[aW] at h;exact h.elim
 |some a=>
 cases aJ:Ah q H with
 |none=>rw[aW,aJ] at h;exact h.elim
 |some b=>
 rw[aW,aJ] at h;exact⟨a,b,(t2 p).2 _ _ aW,MT aJ,h⟩
theorem abQ {p:eb}{q:List g8}{cN:fj p→hr q→bI→Prop}
 (h:∀a b K,(∀o∈jj q b,pH o)→(∀v∈ji p a,qY v)→cN a b K→cR C aP bg (ji p a) (jj q b) (dV (jj q b) K)):fD C aP (gJ p q cN) bg:=fun vs H K fA fW aE=>by
 refine dB (pq aE) fun a b bS=>?_;refine hJ bS fun b8 eO s=>?_;clear bS;subst b8;subst eO;exact .inr (.inl (h a b K fA fW s))
theorem ET {p:eb}{q:List g8}{cN:fj p→hr q→bI→Prop}
 (h:∀a b K,(∀o∈jj q b,pH o)→(∀v∈ji p a,qY v)→cN a b K→cR C aP bg (ji p a) (jj q b) K):fD C aP (gJ p q cN) bg:=fun vs H K fA fW aE=>by
 refine dB (pq aE) fun a b bS=>?_;refine hJ bS fun b8 eO s=>?_;clear bS;subst b8;subst eO;exact .inl (h a b K fA fW s)
structure Ev (P:Prop):Prop where
 out:P
theorem aK {A B:Prop}(h:A=B)(b:Ev B):Ev A:=h▸b
theorem m0 {p:eb}{q:List g8}{cN:fj p→hr q→bI→Prop}
 (h:∀a b K,(∀o∈jj q b,pH o)→(∀v∈ji p a,qY v)→Ev (cN a b K)→Ev (cR C aP bg (ji p a) (jj q b) (dV (jj q b) K))):fD C aP (gJ p q cN) bg:=fun vs H K fA fW aE=>by
 refine dB (pq aE) fun a b bS=>?_;refine hJ bS fun b8 eO s=>?_;clear bS;subst b8;subst eO;exact .inr (.inl (h a b K fA fW ⟨s⟩).out)
theorem SH {p:eb}{q:List g8}{cN:fj p→hr q→bI→Prop}
 (h:∀a b K,(∀o∈jj q b,pH o)→(∀v∈ji p a,qY v)→Ev (cN a b K)→Ev (cR C aP bg (ji p a) (jj q b) (rm (jj q b) K))):fD C aP (gJ p q cN) bg:=fun vs H K fA fW aE=>by
 refine dB (pq aE) fun a b bS=>?_;refine hJ bS fun b8 eO s=>?_;clear bS;subst b8;subst eO;exact .inr (.inr (h a b K fA fW ⟨s⟩).out)
theorem Zk {p:eb}{q:List g8}{cN:fj p→hr q→bI→Prop}
 (h:∀a b K,(∀o∈jj q b,pH o)→(∀v∈ji p a,qY v)→Ev (cN a b K)→Ev (cR C aP bg (ji p a) (jj q b) K)):fD C aP (gJ p q cN) bg:=fun vs H K fA fW aE=>by
 refine dB (pq aE) fun a b bS=>?_;refine hJ bS fun b8 eO s=>?_;clear bS;subst b8;subst eO;exact .inl (h a b K fA fW ⟨s⟩).out
theorem gF {P:Prop}(h:Ev (ao b P False)):b=true∧Ev P:=⟨(fK h.out).1,⟨(fK h.out).2⟩⟩
theorem cv {P Q:Prop}(e:b=true)(h:Ev P):Ev (ao b P Q):=⟨jI e h.out⟩
theorem ec {P Q:Prop}(e:b=false)(h:Ev Q):Ev (ao b P Q):=⟨p7 e h.out⟩
theorem dO {P Q:Prop}(h:b=true→Ev P)(k:b=false→Ev Q):Ev (ao b P Q):=by cases b;exact⟨(k rfl).out⟩;exact⟨(h rfl).out⟩
theorem jm {P Q:Prop}(e:b=true)(h:Ev (ao b P Q)):Ev P:=by subst e;exact⟨h.out⟩
theorem iZ {P Q:Prop}(e:b=false)(h:Ev (ao b P Q)):Ev Q:=by subst e;exact⟨h.out⟩
noncomputable def fz:Nat→fe→fe
 |0,_=>.nil
 |_+1,.nil=>.nil
 |n+1,.cons s r=>.cons s (fz n r)
noncomputable def cm:Nat→fe→fe
 |0,s=>s
 |_+1,.nil=>.nil
 |n+1,.cons _ r=>cm n r
theorem gk {G:Nat→Option V}:∀(n:Nat) (s:fe) (loc:List V) (H:List an) (K:dK),b3 C G s loc H K=b3 C G (fz n s) loc H (gh (b3 C G (cm n s)) K)
 |0,s,loc,H,K=>by cases s<;>rfl
 |n+1,.nil,loc,H,K=>by unfold fz cm;unfold b3;rfl
 |n+1,.cons s r,loc,H,K=>by
  refine(?_:xr C G s loc H (gh (b3 C G r) K)=xr C G s loc H (gh (b3 C G (fz n r)) (gh (b3 C G (cm n r)) K)));congr 1;funext aH loc H
  induction aH using rc.casesOn with
  |next=>exact gk n r loc H K
  |brk=>rfl
  |ret v=>rfl
theorem C6 {f:V→List V→List an→dK→Prop}{st:List an→(List V→Prop)→Prop}{K:dK}(aM:Nat→List V→List an→Prop)(H8:V→List V→List an→Prop)
 (step:∀i v loc H,vs[i]? =E v→aM i loc H→∀hs:dK,(∀eg bp,aM (i+1) eg bp→Ev (hs .next eg bp))→(∀r eg bp,H8 r eg bp→Ev (hs (.ret r) eg bp))→Ev (f v loc H hs))
 (gY:∀i loc H,aM i loc H→∀P:List V→List an→Prop,(∀eg bp,aM i eg bp→Ev (P eg bp))→Ev (trunc m loc H P))(hu:∀i loc H,aM i loc H→∀P:List V→Prop,Ev (P vs)→Ev (st H P))
 (fin:∀loc H,aM vs.length loc H→Ev (K .next loc H))(E2:∀r loc H,H8 r loc H→Ev (K (.ret r) loc H)):
 ∀n i loc H,aM i loc H→i≤vs.length→vs.length<n+i→Ev (ix m f st n i vs loc H K):=fun n=>by
 induction n with
 |zero=>intro i loc H _ R Z;lia
 |succ n aF=>
  intro i loc H ab R Z;unfold ix;cases e:vs[i]? with
  |none=>
   have:i=vs.length:=by have:=List.getElem?_eq_none_iff.mp e;lia
   exact fin loc H (this▸ab)
  |some v=>refine step i v loc H e ab _ (fun eg bp ze=>?_) fun r eg bp am=>E2 r eg bp am;refine gY _ _ _ ze _ fun m9 be zf=>hu _ _ _ zf _ ?_;have:=(List.getElem?_eq_some_iff.mp e).1;exact aF (i+1) m9 be zf (by lia) (by lia)
theorem Wv {bg:Option V→Prop}:∀{es:List (V×V)},eD es→(∀e∈es,bT 4 e.1=true)→(k,v)∈es→Ev (bg (E v))→Ev (lv k es bg):=fun {es}=>by
 induction es with
 |nil=>exact fun _ _ h=>nomatch h
 |cons e r aF=>
  intro hd aB h f3;refine b7 (List.pairwise_cons.mp hd) fun R Z=>?_;rcases List.mem_cons.mp h with e|h
  .cases e;exact cv (rP 4 k (aB _ List.mem_cons_self)) f3
  .exact ec (R _ h) (aF Z (fun e he=>aB e (List.mem_cons_of_mem _ he)) h f3)
theorem JQ {bg:Option V→Prop}(hd:eD es)(aB:∀e∈es,bT 4 e.1=true)(h:(k,v)∈es)(f3:Ev (bg (E v))):Ev (jJ k es bg):=
 cv (aB _ h) (Wv hd aB h f3)
def nW (es:List (V×V))(k:V):List (V×V):=es.filter fun e=> !bn 4 e.1 k
theorem Tp {bg:List (V×V)→Prop}:∀{es:List (V×V)},eD es→(∀e∈es,bT 4 e.1=true)→(k,v)∈es→Ev (bg (nW es k))→Ev (rq k es bg):=fun {es}=>by
 induction es generalizing bg with
 |nil=>exact fun _ _ h=>nomatch h
 |cons e r aF=>
  intro hd aB h f3;refine b7 (List.pairwise_cons.mp hd) fun R Z=>?_;have Xx:∀e∈r,bT 4 e.1=true:=fun e he=>aB e (List.mem_cons_of_mem _ he);unfold nW at f3;rw[List.filter_cons] at f3;rcases List.mem_cons.mp h with e|h
  .cases e;have aW:=rP 4 k (aB _ List.mem_cons_self);rw[aW] at f3;refine cv aW ?_;have aJ:r.filter (fun e=> !bn 4 e.1 k)=r:=List.filter_eq_self.mpr fun e he=>by
    cases q:bn 4 e.1 k with
    |false=>rfl
    |true=>have:=wE 4 _ _ q;have b8:=R e he;simp only[this,aW] at b8;exact j9 b8
   rw[aJ] at f3;exact f3
  .have aW:=R _ h;rw[aW] at f3;exact ec aW (aF Z Xx h f3)
theorem Ts {bg:List (V×V)→Prop}(ar:es.length≤1000)(hd:eD es)(aB:∀e∈es,bT 4 e.1=true)(h:(k,v)∈es)(f3:Ev (bg (nW es k))):Ev (qd k es bg):=
 cv (by rw[fH];exact⟨aB _ h,lX.mpr ar⟩) (Tp hd aB h f3)
def im:Nat:=a7 "network"
def jK:Nat:=a7 "transport"
noncomputable def e0 (h:Int):Nat:=(h% 16*4).toNat
def acb:List V:=[.str (a7 "data"),.str (a7 "link"),.str (a7 "kind"),.str (a7 "l4"),.str (a7 "off"),.str (a7 "place"),.str (a7 "meta")]
def aam:List V:=[.str (a7 "mark"),.str (a7 "priority"),.str (a7 "iif"),.str (a7 "oif"),.str (a7 "iifname"),.str (a7 "oifname"),.str (a7 "pkttype"),.str (a7 "iiftype"),.str (a7 "oiftype")]
noncomputable abbrev jb:eb:=.x (.int 0)
noncomputable abbrev q1:eb:=.x (.int 1)
noncomputable def acd (b:Nat):eb:=.cons (.x (.ref (b+2)))<|.cons (.x (.ref (b+3)))<|.cons .i<|.cons .i<|.cons .i<|.cons .i<|.cons (.x (.ref (b+4))) .nil
def aan:eb:=.cons jb<|.cons jb<|.cons .i<|.cons .i<|.cons jb<|.cons jb<|.cons jb<|.cons q1<|.cons q1 .nil
def lO (b:Nat):List g8:=[.o (b+1),.d acb (acd b) 7,.a,.du,.d aam aan 9]
abbrev et:Type:=Unit×(Unit×Unit×Int×Int×Int×Int×Unit×Unit)×List Int×Unit×(Unit×Unit×Int×Int×Unit×Unit×Unit×Unit×Unit×Unit)×Unit
def et.on (x:et)(f:Int→Int→Int→Int→List Int→Int→Int→Prop):Prop:=match x with|(_,(_,_,T,U,N,ag,_,_),d,_,(_,_,i,o,_),_)=>f T U N ag d i o
noncomputable def et.kind (x:et):Int:=x.2.1.2.2.1
noncomputable def et.U (x:et):Int:=x.2.1.2.2.2.1
noncomputable def et.off (x:et):Int:=x.2.1.2.2.2.2.1
noncomputable def et.place (x:et):Int:=x.2.1.2.2.2.2.2.1
noncomputable def et.d (x:et):List Int:=x.2.2.1
noncomputable def et.i (x:et):Int:=x.2.2.2.2.1.2.2.1
noncomputable def et.o (x:et):Int:=x.2.2.2.2.1.2.2.2.1
def aal (i o:Int):List (V×V):=[(.str (a7 "mark"),.int 0),(.str (a7 "priority"),.int 0),(.str (a7 "iif"),.int i),(.str (a7 "oif"),.int o),(.str (a7 "iifname"),.int 0),(.str (a7 "oifname"),.int 0),(.str (a7 "pkttype"),.int 0),(.str (a7 "iiftype"),.int 1),(.str (a7 "oiftype"),.int 1)]
def aca (b:Nat)(T U N ag:Int):List (V×V):=[(.str (a7 "data"),.ref (b+2)),(.str (a7 "link"),.ref (b+3)),(.str (a7 "kind"),.int T),(.str (a7 "l4"),.int U),(.str (a7 "off"),.int N),(.str (a7 "place"),.int ag),(.str (a7 "meta"),.ref (b+4))]
def sW (b:Nat)(T U N ag:Int)(d:List Int)(i o:Int):List an:=[.inst (b+1),.dict (aca b T U N ag) 7,.cA d,.cA [],.dict (aal i o) 9]
def bY:=sW 0
noncomputable abbrev k5:eb:=.x (.ref 0)
def fa:eb:=.cons k5 .nil
abbrev Cb:=Int→Int→Int→Int→List Int→Int→Int→bI→Prop
def QU (f:Cb)(_:fj fa)(x:hr (lO 0))(K:bI):Prop:=et.on x fun T U N ag d i o=>f T U N ag d i o K
def r3 (f:Cb):Spec:=gJ fa (lO 0) (QU f)
theorem P5 {d:List Int}(h:pH (.cA d)):ef d:=h.1
theorem uk {f:Cb}(h:∀T U N ag d i o K,ef d→Ev (f T U N ag d i o K)→Ev (cR C aP bg [.ref 0] (bY T U N ag d i o) (dV (bY T U N ag d i o) K))):fD C aP (r3 f) bg:=m0 fun a x K fA fW bC=>
 aK (by kernel_rfl) (h (et.kind x) (et.U x) (et.off x) (et.place x) (et.d x) (et.i x) (et.o x) K (P5 (fA (.cA (et.d x)) (.tail _ (.tail _ (.head _))))) (aK (by kernel_rfl) bC))
def II:List V:=[.str (a7 "most"),.str (a7 "seed"),.str (a7 "tries"),.str (a7 "table"),.str (a7 "talks"),.str (a7 "last"),.str (a7 "trackers"),.str (a7 "expects"),.str (a7 "flows"),.str (a7 "is_loose")]
def Pn:List V:=[.str (a7 "number"),.str (a7 "original"),.str (a7 "reply"),.str (a7 "zone"),.str (a7 "until"),.str (a7 "since"),.str (a7 "mark"),.str (a7 "status"),.str (a7 "state"),.str (a7 "sides"),.str (a7 "master")]
noncomputable abbrev hH (n:Nat):eb:=.x (.ref n)
def Se (b:Nat):eb:=.cons (.x (.int 4))<|.cons jb<|.cons (.x (.int 128))<|.cons (hH (b+2))<|.cons (hH (b+3))<|.cons jb<|.cons (hH (b+8))<|.cons (hH (b+9))<|.cons (hH (b+10))<|.cons (.x (.bool true)) .nil
def FR:eb:=.t (.cons .i<|.cons .i<|.cons .i<|.cons .i<|.cons .i<|.cons .i .nil)
def Po (n:Int):eb:=.cons (.x (.int n))<|.cons FR<|.cons FR<|.cons jb<|.cons .i<|.cons jb<|.cons jb<|.cons .i<|.cons .i<|.cons (.x .none)<|.cons jb .nil
def p5 (b:Nat):List g8:=[.o (b+1),.d II (Se b) 10,.d [] .nil 0,.d [.int 1,.int 2] (.cons (hH (b+4)) (.cons (hH (b+6)) .nil)) 2,.o (b+5),.d Pn (Po 1) 11,.o (b+7),.d Pn (Po 2) 11,.d [] .nil 0,.jb,.e]
abbrev ej:Type:=Int×Int×Int×Int×Int×Int×Unit
variable {dJ d1 du a3:ej}
abbrev c8:Type:=Unit×ej×ej×Unit×Int×Unit×Unit×Int×Int×Unit×Unit×Unit
variable {gK gL:c8}
abbrev er:Type:=Unit×(Unit×Unit×Unit×Unit×Unit×Unit×Unit×Unit×Unit×Unit×Unit)×Unit×(Unit×Unit×Unit)×Unit×c8×Unit×c8×Unit×Unit×(List (V×V)×Nat)×Unit
variable {cB:er}
def er.on (x:er)(f:c8→c8→List (V×V)→Nat→Prop):Prop:=match x with|(_,_,_,_,_,t1,_,aa,_,_,(aH,n),_)=>f t1 aa aH n
noncomputable def er.t1 (x:er):c8:=x.2.2.2.2.2.1
noncomputable def er.aa (x:er):c8:=x.2.2.2.2.2.2.2.1
noncomputable def er.aH (x:er):List (V×V):=x.2.2.2.2.2.2.2.2.2.2.1.1
noncomputable def er.fn (x:er):Nat:=x.2.2.2.2.2.2.2.2.2.2.1.2
def wN (o r:ej)(u st afy:Int):c8:=((),o,r,(),u,(),(),st,afy,(),(),())
def bu (t1 aa:c8)(aH:List (V×V))(n:Nat):er:=((),((),(),(),(),(),(),(),(),(),(),()),(),((),(),()),(),t1,(),aa,(),(),(aH,n),())
noncomputable def c8.r4 (x:c8):ej:=x.2.1
noncomputable def c8.rep (x:c8):ej:=x.2.2.1
noncomputable def c8.kM (x:c8):Int:=x.2.2.2.2.1
noncomputable def c8.cK (x:c8):Int:=x.2.2.2.2.2.2.2.1
noncomputable def c8.state (x:c8):Int:=x.2.2.2.2.2.2.2.2.1
noncomputable def uA (t:ej):V:=.tup [.int t.1,.int t.2.1,.int t.2.2.1,.int t.2.2.2.1,.int t.2.2.2.2.1,.int t.2.2.2.2.2.1]
def dz (b:Nat)(x:er):List an:=jj (p5 b) x
def kb:eb:=.t (.cons .i (.cons .i (.cons .i .nil)))
noncomputable def Yp:V→Bool
 |.tup _=>true
 |_=>false
def NE (e:V×V):Bool:=Yp e.1&&(qI kb e.2).isSome
def pn (es:List (V×V)):Bool:=es.all NE
noncomputable def qM:V→Int
 |.tup [.int n,_,_]=>n
 |_=>0
def vY (es:List (V×V))(n:Int):Bool:=es.any fun e=>decide (qM e.2=n)
def hM (es:List (V×V))(n:Int):List (V×V):=es.filter fun e=> !decide (qM e.2=n)
theorem Ar {e:V×V}(h:NE e=true):∃aD a b c,e=(.tup aD,.tup [.int a,.int b,.int c]):=by
 obtain⟨k,v⟩:=e;refine b4 h fun R Z=>dm (sK.mp Z) fun x aS=>?_;rw[(t2 kb).1 v x aS]
 induction k using V.casesOn with
 |tup aD=>exact⟨aD,x.1,x.2.1,x.2.2.1,rfl⟩
 |_=>exact dW R
def w9:List V:=[.str (a7 "packet"),.str (a7 "now"),.str (a7 "hook"),.str (a7 "talk"),.str (a7 "state"),.str (a7 "is_reply"),.str (a7 "talks"),.str (a7 "sets"),.str (a7 "objects"),.str (a7 "fields"),.str (a7 "readers"),.str (a7 "doers"),.str (a7 "ops"),.str (a7 "tools"),.str (a7 "order"),.str (a7 "log"),.str (a7 "replies"),.str (a7 "steps"),.str (a7 "homes")]
def adN (p:Nat)(dj FY:eb)(c:Nat):eb:=.cons (hH p)<|.cons .i<|.cons (.x (.str (a7 "input")))<|.cons dj<|.cons .i<|.cons .i<|.cons FY<|.cons (hH c)<|.cons (hH (c+1))<|.cons (hH (c+2))<|.cons (hH (c+3))<|.cons (hH (c+4))<|.cons (hH (c+5))<|.cons (hH (c+6))<|
 .cons (.x (.str (a7 "little")))<|.cons (hH (c+7))<|.cons (hH (c+8))<|.cons (.x .none)<|.cons (hH (c+9)) .nil
def qf:g8:=.d [] .nil 0
def adO:List g8:=[qf,qf,qf,qf,qf,qf,qf,.jb,.jb,qf]
def adP (p:Nat)(au:Int)(dj:V)(dc isr:Int)(FY:V)(c:Nat):List V:=[.ref p,.int au,.str (a7 "input"),dj,.int dc,.int isr,FY,.ref c,.ref (c+1),.ref (c+2),.ref (c+3),.ref (c+4),.ref (c+5),.ref (c+6),.str (a7 "little"),.ref (c+7),.ref (c+8),.none,.ref (c+9)]
noncomputable def afX:List an:=[.dict [] 0,.dict [] 0,.dict [] 0,.dict [] 0,.dict [] 0,.dict [] 0,.dict [] 0,.ints [],.ints [],.dict [] 0]
def fE (au dc isr T U N ag:Int)(d:List Int)(i o:Int)(cB:er):List an:=
 [.inst 1,.dict (oG w9 (adP 2 au .none dc isr (.ref 7) 18)) 19]++(sW 2 T U N ag d i o++(dz 7 cB++afX))
def Pr:List g8:=[.o 1,.d w9 (adN 2 (.x .none) (hH 7) 18) 19]++(lO 2++(p5 7++adO))
def val (n d o:Int):V:=.tup [.int n,.int d,.int o]
def bV (al f1:Bool)(bw ba bK bR:List V):List (V×V):=match al with
 |true=>(match f1 with
  |true=>[(.tup bw,val 1 0 2),(.tup ba,val 1 1 1),(.tup bK,val 2 0 2),(.tup bR,val 2 1 1)]
  |false=>[(.tup bw,val 1 0 2),(.tup ba,val 1 1 1)])
 |false=>(match f1 with
  |true=>[(.tup bK,val 2 0 2),(.tup bR,val 2 1 1)]
  |false=>[])
def isVal (n d o:Int)(v:V):Bool:=(qI kb v).any fun(x:Int×Int×Int×Unit)=>decide (x.1=n)&&(decide (x.2.1=d)&&decide (x.2.2.1=o))
def ut:List (V×V)→Bool
 | []=>true
 | [(.tup _,a),(.tup _,b)]=>isVal 1 0 2 a&&isVal 1 1 1 b||isVal 2 0 2 a&&isVal 2 1 1 b
 | [(.tup _,a),(.tup _,b),(.tup _,c),(.tup _,d)]=>isVal 1 0 2 a&&(isVal 1 1 1 b&&(isVal 2 0 2 c&&isVal 2 1 1 d))
 |_=>false
theorem qu {n d o:Int}(h:isVal n d o v=true):v=val n d o:=by
 unfold isVal at h;cases e:qI kb v with
 |none=>rw[e] at h;exact dW h
 |some x=>rw[e] at h;refine b4 h fun R h=>b4 h fun Z bv=>?_;rw[(t2 kb).1 v x e];refine(?_:val x.1 x.2.1 x.2.2.1=_);rw[of_decide_eq_true R,of_decide_eq_true Z,of_decide_eq_true bv]
theorem OO (h:ut es=true):∃al f1 bw ba bK bR,es=bV al f1 bw ba bK bR:=by
 induction es using List.casesOn with
 |nil=>exact⟨false,false,[],[],[],[],rfl⟩
 |cons e r=>induction e using Bv with|mk k a=>induction k using V.casesOn with
  |tup bw=>induction r using List.casesOn with
   |nil=>exact kn h
   |cons e r=>induction e using Bv with|mk k b=>induction k using V.casesOn with
    |tup ba=>induction r using List.casesOn with
     |nil=>
      rcases xG.mp h with h|h
      .have h:=gC.mp h;rw[qu h.1,qu h.2];exact⟨true,false,bw,ba,[],[],rfl⟩
      .have h:=gC.mp h;rw[qu h.1,qu h.2];exact⟨false,true,[],[],bw,ba,rfl⟩
     |cons e r=>induction e using Bv with|mk k c=>induction k using V.casesOn with
      |tup bK=>induction r using List.casesOn with
       |nil=>exact kn h
       |cons e r=>induction e using Bv with|mk k d=>induction k using V.casesOn with
        |tup bR=>induction r using List.casesOn with
         |nil=>have R:=gC.mp h;have Z:=gC.mp R.2;have bv:=gC.mp Z.2;rw[qu R.1,qu Z.1,qu bv.1,qu bv.2];exact⟨true,true,bw,ba,bK,bR,rfl⟩
         |cons=>exact kn h
        |_=>exact kn h
      |_=>exact kn h
    |_=>exact kn h
  |_=>exact kn h
def AP:Spec:=fun vs H K=>match H with
 | []=>gJ (.cons .y .nil) [] (fun a _ K=>ao (dg a.1.length 20) (K (.int (cO a.1)) []) False) vs [] K
 |o::r=>gJ (.cons (.x (.ref 0)) .nil) [.a] (fun _ b K=>ao (dg b.1.length 20) (K (.int (cO b.1)) [.cA b.1]) False) vs (o::r) K
theorem Nq (l:List Int)(x:Int):cO (l++[x])=cO l*256+x:=by unfold cO;rw[List.foldl_append];rfl
theorem JK:∀{l:List Int} {n:Int},0≤n→ef l→0≤l.foldl (fun n o=>n*256+o) n∧l.foldl (fun n o=>n*256+o) n<(n+1)*256^l.length
 | [],n,h,_=>⟨h,by simp only[List.foldl_nil,List.length_nil,Bo];lia⟩
 |x::l,n,h,az=>by have aS:=az x List.mem_cons_self;refine b7 (JK (l:=l) (n:=n*256+x) (by lia) fun y ct=>az y (List.mem_cons_of_mem _ ct)) fun R Z=>?_;refine⟨R,Int.lt_of_lt_of_le Z ?_⟩;rw[List.length_cons,uY,xN (256^l.length) 256,←Gw];exact Int.mul_le_mul_of_nonneg_right (by lia) (Int.pow_nonneg (by decide))
theorem Np {l:List Int}(h:ef l):0≤cO l∧cO l<256^l.length:=by have:=JK (uX 0) h;rwa [Bp,Int.one_mul] at this
theorem ac2:fD C aP AP HE:=fun vs H K fA fW h=>.inl<|by
 have key:∀(cX:V) (H0:List an) (b:List Int),ef b→b.length≤20→kH (fun l=>d3 l H0.length) cX=true→(H0.take H0.length).all (hR fun l=>d3 l H0.length)=true→H0.take H0.length=H0→(∀P:List V→Prop,P (b.map V.int)→hk cX (b.map V.int) H0 H0 P)→
  K (.int (cO b)) H0→ix H0.length (fun v loc H K=>b3 C aP (.cons (.asg 1 (.bin .BitOr (.bin .LShift (.loc 1) (.int 8)) (.loc 2))) .nil) (loc.set 2 v) H K) (hk cX (b.map V.int) H0) ((b.map V.int).length+1) 0 (b.map V.int) [cX,.int 0,.aR] H0
   (gh (b3 C aP (.cons (.ret (.loc 1)) .nil)) (e1 K)):=fun cX H0 b az ar abl abn dj hu aB=>by
  refine C7 (fun i loc=>∃x,(x=V.aR∨∃y,x=V.int y)∧loc=[cX,V.int (cO (b.take i)),x]) ?step ?gY hu ?fin _ 0 _ ⟨V.aR,.inl rfl,rfl⟩ (jy _) (jx _)
  case step=>
   rintro i v loc e ⟨x,aS,rfl⟩ hs m8;rw[List.getElem?_map] at e;refine eB e fun y mc=>?_;have ed:=(List.getElem?_eq_some_iff.mp mc).1;have ct:=az y (List.mem_of_getElem? mc);refine b7 (Np (l:=b.take i) fun z hz=>az z (List.mem_of_mem_take hz)) fun ahl rW=>?_;have aJ:cO (b.take (i+1))=cO (b.take i)*256+y:=by rw[List.take_add_one,mc];exact Nq _ _
   have j6:(b.take i).length≤20:=e3 (List.length_take_le _ _) (by lia);have ahi:(256:Int)^(b.take i).length≤256^20:=by exact_mod_cast Nat.pow_le_pow_right (by decide) j6
   refine ki (B:=cY ((0:Int)≤8∧(8:Int)≤1000∧(cO (b.take i)).natAbs<2^256) (hs .next [cX,V.int (Builtin.bitOr (cO (b.take i)*2^(8:Int).toNat) y),V.int y] H0)) (by kernel_rfl) ?_;refine iU ⟨by decide,by decide,?_⟩ ?_
   .have:(256:Int)^20=2^160:=by decide
    lia
   .rw[EQ ct.1 ct.2];refine m8 _ ⟨V.int y,.inr ⟨y,rfl⟩,?_⟩;rw[aJ]
  case gY=>
   rintro i loc ⟨x,aS,rfl⟩ P a8;unfold trunc;rw[abn,dj];refine ki ?_ a8;have:kz H0.length cX=cX:=by unfold kz;rw[abl]
   rcases aS with rfl|⟨y,rfl⟩<;>(show P [kz H0.length cX,_,_] _=_;rw[this];rfl)
  case fin=>rintro loc ⟨x,aS,rfl⟩;refine(?_:K (.int (cO (b.take (b.map V.int).length))) H0);rw[List.length_map,List.take_length];exact aB
 unfold AP at h
 induction H using List.casesOn with
 |nil=>refine dB (pq h) fun a c g=>?_;obtain⟨b,u⟩:=a;obtain rfl:=g.1;exact j1 g.2.2 fun R Z=>ki (by kernel_rfl) (key (.bytes b) [] b (fW _ List.mem_cons_self).1 (d4 R) rfl rfl rfl (fun P a8=>a8) Z)
 |cons o r=>refine dB (pq h) fun a c g=>?_;obtain⟨b,u⟩:=c;obtain⟨rfl,rfl⟩:=List.cons.inj g.2.1;obtain rfl:=g.1;exact j1 g.2.2 fun R Z=>ki (by kernel_rfl) (key (.ref 0) [.cA b] b (fA _ List.mem_cons_self).1 (d4 R) rfl rfl rfl (fun P a8=>a8) Z)
def Ce (n s:Int)(K:bI):Prop:=ao (dg s.toNat 20&&b9 0 s) (ao (b9 0 n&&decide (n<256^s.toNat)) (K (.bytes (bf n s.toNat)) []) False) False
def FA:Spec:=gJ (.cons .i (.cons .i .nil)) [] fun a _ K=>Ce a.1 a.2.1 K
theorem E1 (s:Nat):eQ 0 (s:Int) 1=(List.range s).map fun(k:Nat)=>(k:Int):=by unfold eQ;rw[show(((s:Int)-0+1-1)/1).toNat=s by lia];exact List.map_congr_left fun k _=>by lia
theorem Yi (xs:List Int):lD (xs.map V.int)=E xs:=by
 induction xs with
 |nil=>rfl
 |cons x xs aF=>show(match lD (xs.map V.int) with|some is=>E (x::is)|none=>none)=_;rw[aF]
theorem aar (xs:List Int):fp (xs.map V.int)=.ints xs:=by unfold fp;rw[Yi]
theorem i7 (n:Int)(s:Nat):ef (bf n s):=fun x aS=>by obtain⟨k,_,rfl⟩:=List.mem_map.mp aS;exact⟨xM _ (by decide),Bm _ (by decide)⟩
theorem iu (n:Int)(s:Nat):(bf n s).length=s:=by simp[bf]
theorem DR {b:List Int}(h:ef b):o9 b=true:=List.all_eq_true.mpr fun x aS=>by rw[fH];exact⟨decide_eq_true (h x aS).1,decide_eq_true (h x aS).2⟩
theorem N2 (j:Nat):(2:Int)^(8*j)=256^j:=by rw[Int.pow_mul];rfl
theorem abg {n s:Int}(h:Ce n s K):cR C aP BU [.int n,.int s] [] (dV [] K):=by
 unfold Ce at h;obtain⟨R,h⟩:=fK h;obtain⟨Z,h⟩:=fK h;rw[fH,i2,decide_eq_true_iff] at R Z;obtain⟨R,bv⟩:=R;obtain⟨Z,cZ⟩:=Z;rw[decide_eq_true_iff] at cZ;obtain⟨s,rfl⟩:=jV bv;rw[pI] at R cZ h;have R:=d4 R;have comp:∀(B3:List V→List an→Prop),B3 ((bf n s).map V.int) []→
  j3 (fun v H k=>iO C aP ([V.int n,V.int s]++[v]) (.bool true) (cF C aP ([V.int n,V.int s]++[v]) (.bool true)) H fun b be=>ao b (cF C aP ([V.int n,V.int s]++[v]) (.bin .BitAnd (.bin .RShift (.loc 0) (.bin .Mult (.int 8) (.bin .Sub (.bin .Sub (.loc 1) (.int 1)) (.loc 2)))) (.int 255)) be fun r ei=>k (E r) ei) (k dk be))
   (hk .none ((eQ 0 s 1).map V.int) []) (((eQ 0 s 1).map V.int).length+1) 0 ((eQ 0 s 1).map V.int) [] [] B3:=fun B3 aB=>by
  refine S9 (fun v=>match v with|.int k=>.int (Builtin.bitAnd (n/2^(8*(s-1-k)).toNat) 255)|v=>v) (fun v co k aB=>?_) (fun P a8=>a8) ?_ _ 0 (jy _) (jx _)
  .rw[E1,List.map_map] at co;obtain⟨j,cn,rfl⟩:=List.mem_map.mp co;have cn:=List.mem_range.mp cn;refine ki (B:=cY ((s-1-(j:Int):Int).natAbs<2^64∨(8:Int).natAbs<2^64) (cY (0≤8*(s-1-(j:Int))) (k (E (.int (Builtin.bitAnd (n/2^(8*(s-1-(j:Int))).toNat) 255))) []))) (by kernel_rfl) ?_;exact iU (.inr (by decide)) (iU (by lia) aB)
  .refine ki ?_ aB;congr 1;rw[E1,List.map_map,List.map_map];refine(?_:_=(bf n s).map V.int);unfold bf;rw[List.map_map];refine List.map_congr_left fun j cn=>?_;have cn:=List.mem_range.mp cn;refine(?_:V.int _=V.int _);rw[bitAnd_m8,show(8*((s:Int)-1-((j:Nat):Int))).toNat=8*(s-1-j) by lia,N2]
 have hz:n/2^((8:Int)*s).toNat=0:=by rw[show((8:Int)*s).toNat=8*s by lia,N2];exact Qk Z cZ
 refine ki (B:=ao (ltI n 0) False (cY ((s:Int).natAbs<2^64∨(8:Int).natAbs<2^64) (cY (0≤8*(s:Int)) (ao (!(decide (n/2^((8:Int)*s).toNat=0))) False
  (ao (mz 0 s 1) (cY (((eQ 0 s 1).map V.int).length≤1000000)
   (j3 (fun v H k=>iO C aP ([V.int n,V.int s]++[v]) (.bool true) (cF C aP ([V.int n,V.int s]++[v]) (.bool true)) H fun b be=>ao b (cF C aP ([V.int n,V.int s]++[v]) (.bin .BitAnd (.bin .RShift (.loc 0) (.bin .Mult (.int 8) (.bin .Sub (.bin .Sub (.loc 1) (.int 1)) (.loc 2)))) (.int 255)) be fun r ei=>k (E r) ei) (k dk be))
    (hk .none ((eQ 0 s 1).map V.int) []) (((eQ 0 s 1).map V.int).length+1) 0 ((eQ 0 s 1).map V.int) [] [] (fun b6 be=>vy (.ref be.length) (be++[fp b6]) fun r=>dV [] K r (be++[fp b6])))) False))))) (by kernel_rfl) ?_
 have WJ:(0:Int)≤8*(s:Int):=by lia
 have ahj:(s:Int)≤20:=by lia
 have am:mz 0 s 1=true:=by simp only[mz,jq,fH,decide_eq_true_eq];lia
 have ar:((eQ 0 s 1).map V.int).length≤1000000:=by rw[E1,List.length_map,List.length_map,List.length_range];lia
 have ZI:ltI n 0=false:=by rw[jq,decide_eq_false_iff_not];lia
 refine p7 ZI ?_;refine iU (.inr (by decide)) ?_;refine iU WJ ?_;have a9:(!(decide (n/2^((8:Int)*s).toNat=0)))=false:=by rw[decide_eq_true hz];rfl
 refine p7 a9 ?_;refine jI am ?_;refine iU ar ?_;refine comp _ ?_;refine ki (B:=vy (.ref 0) [fp ((bf n s).map V.int)] fun r=>dV [] K r [fp ((bf n s).map V.int)]) rfl ?_;rw[aar];refine ki (B:=ao (o9 (bf n s)) (cY ((bf n s).length≤1000000) (K (.bytes (bf n s)) [])) False) (by kernel_rfl) ?_;rw[DR (i7 n s)];exact iU (by rw[iu];lia) h
theorem ac3:fD C aP FA BU:=abQ fun a b K fA fW h=>abg h
def ch (b:List Int)(i j:Nat):List Int:=(b.take j).drop i
def Ia (t:Int)(K:bI):Prop:=ao (b9 0 t&&ltI t 4294967296) (K (.int (foldI t)) []) False
def Fo:Spec:=gJ (.cons .i .nil) [] fun a _ K=>Ia a.1 K
def Ib (c:Int)(o n:List Int)(K:bI):Prop:=ao (c1 o.length n.length&&(c1 (o.length% 2) 0&&dg o.length 40)) (ao (b9 0 c&&b9 c 65535) (K (.int (jr c o n)) []) False) False
def Fy:Spec:=gJ (.cons .i (.cons .y (.cons .y .nil))) [] fun a _ K=>Ib a.1 a.2.1 a.2.2.1 K
def Ic (b:List Int)(f e:Int)(H:List an)(K:bI):Prop:=ao (b9 0 f&&(b9 f e&&(b9 e b.length&&ltI e 65536))) (K (.bytes (ch b f.toNat e.toNat)) H) False
def AQ:Spec:=fun vs H K=>match H with
 | []=>gJ (.cons .y (.cons .i (.cons .i .nil))) [] (fun a _ K=>Ic a.1 a.2.1 a.2.2.1 [] K) vs [] K
 |o::r=>gJ (.cons (.x (.ref 0)) (.cons .i (.cons .i .nil))) [.a] (fun a b K=>Ic b.1 a.2.1 a.2.2.1 [.cA b.1] K) vs (o::r) K
noncomputable def Eu:Int→Option Nat
 |.ofNat n=>E n
 |.negSucc _=>none
def bk (v:V):Option (Nat×Nat):=(qI (.t (.cons .i (.cons .i .nil))) v).bind fun a=>both (Eu a.1) (Eu a.2.1)
def stN:List V→Option (List (Nat×Nat))
 | []=>E []
 |v::r=>(bk v).bind fun p=>(stN r).map fun ps=>p::ps
def k9 (d0 dN:List Int)(c:Int)(p:Nat×Nat):Int:=match d3 p.1 p.2 with
 |true=>jr c (ch d0 p.1 p.2) (ch dN p.1 p.2)
 |false=>c
def putL (d:List Int)(i:Nat)(o:List Int):List Int:=d.take i++o++d.drop (i+o.length)
noncomputable def jk (u:Bool)(c:Int):Int:=match u with|true=>(match decide (c=0) with|true=>65535|false=>c)|false=>c
noncomputable def mr (b:Bool):List Int→List Int→List Int
 |x::xs,y::ys=>(match b with|true=>x|false=>y)::mr b xs ys
 |xs,ys=>match b with|true=>xs|false=>ys
def Ei (u:Bool)(d0 dN:List Int)(pl:Nat)(st:List (Nat×Nat)):List Int:=match u with
 |true=>mr (decide (cO (ch d0 pl (pl+2))=0)) dN (putL dN pl (bf (jk true (st.foldl (k9 d0 dN) (cO (ch d0 pl (pl+2))))) 2))
 |false=>putL dN pl (bf (st.foldl (k9 d0 dN) (cO (ch d0 pl (pl+2)))) 2)
noncomputable def AU (n m:Nat)(st:List (Nat×Nat)):Bool:=st.all fun p=>dg p.2 n&&(dg p.2 m&&(c1 ((p.2-p.1)% 2) 0&&(dg (p.2-p.1) 40&&d3 p.2 65536)))
def MC:eb:=.cons k5<|.cons .y<|.cons .i<|.cons (.x (.ref 5))<|.cons .b .nil
def Ac (d0:List Int)(pl:Nat)(u:Bool)(T U N ag:Int)(d:List Int)(i o:Int)(cQ:List V)(K:bI):Prop:=match stN cQ with
 |some st=>ao (AU d0.length d.length st&&(dg (pl+2) d0.length&&(dg (pl+2) d.length&&d3 pl 65000))) (K .none (bY T U N ag (Ei u d0 d pl st) i o++[.list cQ])) False
 |dk=>False
def QS (a:fj MC)(b:hr (lO 0++[g8.w]))(K:bI):Prop:=match a,b with
 |(_,d0,pl,_,u,_),(_,(_,_,T,U,N,ag,_,_),d,_,(_,_,i,o,_),cQ,_)=>(match pl with
  |.ofNat pl=>Ac d0 pl u T U N ag d i o cQ K
  |_=>False)
def Fz:Spec:=gJ MC (lO 0++[g8.w]) QS
noncomputable def MM (a b:Nat):Nat:=match dg a b with|true=>a|false=>b
noncomputable def MG (a b:Nat):Nat:=match dg a b with|true=>b|false=>a
def yR (b e lo hi:Nat):Nat×Nat:=match dg (MM e hi) (MG b lo) with
 |true=>(0,0)
 |false=>(MG b lo/2*2,(MM e hi+1)/2*2)
noncomputable def acN (b e n p:Nat):Bool:=dg (p+2) n&&(dg e p||dg (p+2) b)
def afH (T U N:Int)(qr n b e:Nat):List (Nat×List (Nat×Nat)×Bool):=
 ((match decide (T=2048) with|true=>[(10,[yR b e 0 qr],false)]|false=>[])++
  (match ltI N 0 with|true=>[]|false=>[(N.toNat+(match decide (U=6) with|true=>16|false=>6),[yR b e N.toNat n,(match decide (T=2048) with|true=>yR b e 12 20|false=>yR b e 8 40)],decide (U=17))])).filter fun r=>acN b e n r.1
def jG (gY:Bool)(N at_:Int):Nat:=match gY with|true=>(N+at_).toNat|false=>at_.toNat
def dy (T U N:Int)(qr:Nat)(gY:Bool)(at_:Int)(o d:List Int):List Int:=
 (afH T U N qr d.length (jG gY N at_) (jG gY N at_+o.length)).foldl (fun dN r=>Ei r.2.2 d dN r.1 r.2.1) (putL d (jG gY N at_) o)
structure s6 where
 kind:Int
 U:Int
 off:Int
 h:Int
 gY:Bool
 pos:Int
 n:Nat
 len:Nat
 ex:Bool
def abq (T U N:Int)(b:Nat)(pos:Int)(n:Nat)(d:List Int)(s:s6):Bool:=
 decide (T=s.kind)&&(decide (U=s.U)&&(decide (N=s.off)&&(c1 b (match s.gY with|true=>jK|false=>im)&&(decide (pos=s.pos)&&(c1 n s.n&&((match s.ex with|true=>c1 d.length s.len|false=>dg s.len d.length)&&decide (d.getD 0 0=s.h)))))))
noncomputable def shapes:List s6:=[⟨2048,6,20,69,false,12,4,38,false⟩,⟨2048,6,20,69,false,12,4,32,true⟩,⟨2048,17,20,69,false,12,4,28,false⟩,⟨2048,17,20,69,false,12,4,26,true⟩,⟨2048,6,20,69,false,16,4,38,false⟩,⟨2048,6,20,69,false,16,4,32,true⟩,⟨2048,17,20,69,false,16,4,28,false⟩,⟨2048,17,20,69,false,16,4,26,true⟩,⟨2048,6,20,69,false,8,1,38,false⟩,⟨2048,6,20,69,false,8,1,32,true⟩,⟨2048,17,20,69,false,8,1,28,false⟩,⟨2048,17,20,69,false,8,1,26,true⟩,⟨2048,6,20,69,true,0,2,38,false⟩,⟨2048,6,20,69,true,0,2,32,true⟩,⟨2048,17,20,69,true,0,2,28,false⟩,⟨2048,17,20,69,true,0,2,26,true⟩,⟨2048,6,20,69,true,2,2,38,false⟩,⟨2048,6,20,69,true,2,2,32,true⟩,⟨2048,17,20,69,true,2,2,28,false⟩,⟨2048,17,20,69,true,2,2,26,true⟩,⟨2048,6,24,70,false,12,4,42,false⟩,⟨2048,6,24,70,false,12,4,36,true⟩,⟨2048,17,24,70,false,12,4,32,false⟩,⟨2048,17,24,70,false,12,4,30,true⟩,⟨2048,6,24,70,false,16,4,42,false⟩,⟨2048,6,24,70,false,16,4,36,true⟩,⟨2048,17,24,70,false,16,4,32,false⟩,⟨2048,17,24,70,false,16,4,30,true⟩,⟨2048,6,24,70,false,8,1,42,false⟩,⟨2048,6,24,70,false,8,1,36,true⟩,⟨2048,17,24,70,false,8,1,32,false⟩,⟨2048,17,24,70,false,8,1,30,true⟩,⟨2048,6,24,70,true,0,2,42,false⟩,⟨2048,6,24,70,true,0,2,36,true⟩,⟨2048,17,24,70,true,0,2,32,false⟩,⟨2048,17,24,70,true,0,2,30,true⟩,⟨2048,6,24,70,true,2,2,42,false⟩,⟨2048,6,24,70,true,2,2,36,true⟩,⟨2048,17,24,70,true,2,2,32,false⟩,⟨2048,17,24,70,true,2,2,30,true⟩,⟨2048,6,-1,69,false,12,4,20,false⟩,⟨2048,17,-1,69,false,12,4,20,false⟩,⟨2048,6,-1,69,false,16,4,20,false⟩,⟨2048,17,-1,69,false,16,4,20,false⟩,⟨2048,6,-1,69,false,8,1,20,false⟩,⟨2048,17,-1,69,false,8,1,20,false⟩,⟨2048,6,-1,70,false,12,4,24,false⟩,⟨2048,17,-1,70,false,12,4,24,false⟩,⟨2048,6,-1,70,false,16,4,24,false⟩,⟨2048,17,-1,70,false,16,4,24,false⟩,⟨2048,6,-1,70,false,8,1,24,false⟩,⟨2048,17,-1,70,false,8,1,24,false⟩,⟨34525,6,40,96,false,8,16,58,false⟩,⟨34525,6,40,96,false,8,16,52,true⟩,⟨34525,17,40,96,false,8,16,48,false⟩,⟨34525,17,40,96,false,8,16,46,true⟩,⟨34525,6,40,96,false,24,16,58,false⟩,⟨34525,6,40,96,false,24,16,52,true⟩,⟨34525,17,40,96,false,24,16,48,false⟩,⟨34525,17,40,96,false,24,16,46,true⟩,⟨34525,6,40,96,false,7,1,58,false⟩,⟨34525,6,40,96,false,7,1,52,true⟩,⟨34525,17,40,96,false,7,1,48,false⟩,⟨34525,17,40,96,false,7,1,46,true⟩,⟨34525,6,40,96,true,0,2,58,false⟩,⟨34525,6,40,96,true,0,2,52,true⟩,⟨34525,17,40,96,true,0,2,48,false⟩,⟨34525,17,40,96,true,0,2,46,true⟩,⟨34525,6,40,96,true,2,2,58,false⟩,⟨34525,6,40,96,true,2,2,52,true⟩,⟨34525,17,40,96,true,2,2,48,false⟩,⟨34525,17,40,96,true,2,2,46,true⟩,⟨34525,6,48,96,false,8,16,66,false⟩,⟨34525,6,48,96,false,8,16,60,true⟩,⟨34525,17,48,96,false,8,16,56,false⟩,⟨34525,17,48,96,false,8,16,54,true⟩,⟨34525,6,48,96,false,24,16,66,false⟩,⟨34525,6,48,96,false,24,16,60,true⟩,⟨34525,17,48,96,false,24,16,56,false⟩,⟨34525,17,48,96,false,24,16,54,true⟩,⟨34525,6,48,96,false,7,1,66,false⟩,⟨34525,6,48,96,false,7,1,60,true⟩,⟨34525,17,48,96,false,7,1,56,false⟩,⟨34525,17,48,96,false,7,1,54,true⟩,⟨34525,6,48,96,true,0,2,66,false⟩,⟨34525,6,48,96,true,0,2,60,true⟩,⟨34525,17,48,96,true,0,2,56,false⟩,⟨34525,17,48,96,true,0,2,54,true⟩,⟨34525,6,48,96,true,2,2,66,false⟩,⟨34525,6,48,96,true,2,2,60,true⟩,⟨34525,17,48,96,true,2,2,56,false⟩,⟨34525,17,48,96,true,2,2,54,true⟩]
def gf (T U N:Int)(b:Nat)(pos:Int)(n:Nat)(d:List Int):Bool:=shapes.any (abq T U N b pos n d)
def AO:eb:=.cons k5<|.cons .s<|.cons .i<|.cons .y .nil
def OJ (b:Nat)(pos:Int)(o:List Int)(T U N ag:Int)(d:List Int)(i o':Int)(K:bI):Prop:=
 ao (gf T U N b pos o.length d) (K .none (bY T U N ag (dy T U N (e0 (d.getD 0 0)) (c1 b jK) pos o d) i o')) False
def QX (a:fj AO)(b:hr (lO 0))(K:bI):Prop:=match a,b with
 |(_,b,pos,o,_),(_,(_,_,T,U,N,ag,_,_),d,_,(_,_,i,o',_),_)=>OJ b pos o T U N ag d i o' K
def FG:Spec:=gJ AO (lO 0) QX
def ui (T U N:Int)(qr:Nat)(gY:Bool)(pos:Int)(o d:List Int):List Int:=mr (decide (ch d (jG gY N pos) (jG gY N pos+o.length)=o)) d (dy T U N qr gY pos o d)
def putK (b:Nat)(pos:Int)(o:List Int)(T U N ag:Int)(d:List Int)(i o':Int)(K:bI):Prop:=
 ao (c1 b jK&&decide (N= -1)) (K .none (bY T U N ag d i o')) (ao (gf T U N b pos o.length d) (K .none (bY T U N ag (ui T U N (e0 (d.getD 0 0)) (c1 b jK) pos o d) i o')) False)
def QV (a:fj AO)(b:hr (lO 0))(K:bI):Prop:=match a,b with
 |(_,b,pos,o,_),(_,(_,_,T,U,N,ag,_,_),d,_,(_,_,i,o',_),_)=>putK b pos o T U N ag d i o' K
def FE:Spec:=gJ AO (lO 0) QV
def ow (d:List Int)(i:Int):List Int:=ch d i.toNat (i+2).toNat
def hc (T:Int)(d:List Int)(n m:Nat):Bool:=(decide (T=2048)&&dg n d.length)||(decide (T=34525)&&dg m d.length)
def nr (T:Int):Nat:=match decide (T=2048) with|true=>8|false=>7
def i9 (T:Int)(d:List Int):Int:=d.getD (nr T) 0
def PF (T U N ag:Int)(d:List Int)(i o:Int)(K:bI):Prop:=ao (hc T d 9 8) (K (.int (i9 T d)) (bY T U N ag d i o)) False
def FH:Spec:=r3 PF
def ug (T N:Int)(d:List Int):Bool:=match decide (T=2048) with|true=>decide (N=20)&&decide (Builtin.bitAnd (cO (ch d 6 8)) 16383=0)|false=>decide (N=40)
def NY (T U N ag:Int)(d:List Int)(i o:Int)(K:bI):Prop:=ao (hc T d 8 0) (K (.bool (ug T N d)) (bY T U N ag d i o)) False
def Ft:Spec:=r3 NY
def gc (N:Int)(d:List Int):Int:=match ltI d.length (N+13+1) with|true=> -1|false=>d.getD (N.toNat+13) 0
def V3 (T U N ag:Int)(d:List Int)(i o:Int)(K:bI):Prop:=
 ao (b9 0 N&&ltI N 1000) (K (.int (gc N d)) (bY T U N ag d i o)) False
def Fn:Spec:=r3 V3
def aa6 (T:Int):Int:=match decide (T=2048) with|true=>2|false=>10
def yB (T:Int)(d:List Int):List Int:=match decide (T=2048) with|true=>ch d 12 16|false=>ch d 8 24
def yC (T:Int)(d:List Int):List Int:=match decide (T=2048) with|true=>ch d 16 20|false=>ch d 24 40
def tupI (T U N:Int)(d:List Int):List V:=[.int (aa6 T),.int U,.int (cO (yB T d)),.int (cO (ow d N)),.int (cO (yC T d)),.int (cO (ow d (N+2)))]
def agu (T U N ag:Int)(d:List Int)(i o:Int)(K:bI):Prop:=
 ao ((decide (U=6)||decide (U=17))&&(decide (T=2048)||decide (T=34525))) (ao (ltI N 0) (K .none (bY T U N ag d i o)) (ao (b9 (N+4) d.length&&ltI N 1000)
  (K (.tup (tupI T U N d)) (bY T U N ag d i o)) False)) False
def FI:Spec:=r3 agu
def Vw (T U N ag:Int)(d:List Int)(i o:Int)(K:bI):Prop:=
 ao ((decide (U=6)||decide (U=17))&&(decide (T=2048)||decide (T=34525))) (K (.bool false) (bY T U N ag d i o)) False
def Fs:Spec:=r3 Vw
def TK (T U N ag:Int)(d:List Int)(i o:Int)(K:bI):Prop:=
 ao (hc T d 9 8) (ao (b9 (i9 T d) 1) (K (.bool false) (bY T U N ag d i o)) (ao (gf T U N im (nr T) 1 d) (K (.bool true) (bY T U N ag (dy T U N (e0 (d.getD 0 0)) false (nr T) [i9 T d-1] d) i o)) False)) False
def Fl:Spec:=r3 TK
def rN:Nat:=a7 "src"
def tO:Nat:=a7 "dst"
def w8 (T:Int):Nat:=match decide (T=2048) with|true=>4|false=>16
def h5 (T:Int)(af:Bool):Int:=match decide (T=2048) with
 |true=>(match af with|true=>12|false=>16)
 |false=>(match af with|true=>8|false=>24)
noncomputable def iN (af:Bool):Int:=match af with|true=>0|false=>2
def hE (T U N:Int)(af:Bool)(a:Int)(d:List Int):List Int:=ui T U N (e0 (d.getD 0 0)) false (h5 T af) (bf a (w8 T)) d
def kL (T U N:Int)(af:Bool)(p:Int)(d:List Int):List Int:=match decide (N= -1) with
 |true=>d
 |false=>ui T U N (e0 (d.getD 0 0)) true (iN af) (bf p 2) d
def se (T U N:Int)(af:Bool)(a p:Int)(d:List Int):Bool:=
 (b9 0 a&&decide (a<256^w8 T))&&((b9 0 p&&decide (p<256^2))&&(gf T U N im (h5 T af) (w8 T) d&&(decide (N= -1)||gf T U N jK (iN af) 2 (hE T U N af a d))))
def um (T U N ag:Int)(d:List Int)(i o nf pr:Int)(af:Bool)(a p:Int)(K:bI):Prop:=
 ao ((decide (T=2048)&&decide (nf=2)||decide (T=34525)&&decide (nf=10))&&(decide (pr=U)&&(decide (U=6)||decide (U=17))))
  (ao (se T U N af a p d) (K .none (bY T U N ag (kL T U N af p (hE T U N af a d)) i o)) False) False
def Om:eb:=.cons k5<|.cons (.t (.cons .i<|.cons .i<|.cons .i<|.cons .i<|.cons .i<|.cons .i .nil))<|.cons .s .nil
def QW (a:fj Om)(x:hr (lO 0))(K:bI):Prop:=match a with
 |(_,(nf,pr,sa,bD,da,dp,_),s,_)=>et.on x fun T U N ag d i o=>ao (c1 s rN) (um T U N ag d i o nf pr true sa bD K) (ao (c1 s tO) (um T U N ag d i o nf pr false da dp K) False)
def FF:Spec:=gJ Om (lO 0) QW
def k4 (d:List Int):Int:=Builtin.bitAnd (cO (ch d 6 8)) 8191*8
def og (n:Int)(d:List Int):Int:=match decide (k4 d=0) with|true=>n|false=> -1
noncomputable def iz (x:Int):Bool:=decide (x=6)||decide (x=17)
def N0:eb:=.cons .y<|.cons .i .nil
def EV (d:List Int)(T:Int)(K:bI):Prop:=
 ao (decide (T=2048)) (ao (dg 20 d.length&&decide (d.getD 0 0=69)) (K (.ref 0) (bY 2048 (d.getD 9 0) (og 20 d) (k4 d) d 0 0))
  (ao (dg 24 d.length&&decide (d.getD 0 0=70)) (K (.ref 0) (bY 2048 (d.getD 9 0) (og 24 d) (k4 d) d 0 0)) False))
  (ao (decide (T=34525)&&(dg 40 d.length&&decide (d.getD 0 0=96))) (ao (iz (d.getD 6 0)) (K (.ref 0) (bY 34525 (d.getD 6 0) 40 0 d 0 0))
   (ao (decide (d.getD 6 0=60)&&(dg 48 d.length&&(decide (d.getD 41 0=0)&&iz (d.getD 40 0)))) (K (.ref 0) (bY 34525 (d.getD 40 0) 48 0 d 0 0)) False)) False)
def QT (a:fj N0)(_:hr [])(K:bI):Prop:=match a with
 |(d,T,_)=>EV d T K
def FD:Spec:=gJ N0 [] QT
def Kz:eb:=.cons FR .nil
def KE (nf pr sa bD da dp:Int)(K:bI):Prop:=ao (iz pr&&(decide (nf=2)||decide (nf=10))) (K (.tup [.int nf,.int pr,.int da,.int dp,.int sa,.int bD]) []) False
def QN (a:fj Kz)(_:hr [])(K:bI):Prop:=match a with
 |((nf,pr,sa,bD,da,dp,_),_)=>KE nf pr sa bD da dp K
def Fq:Spec:=gJ Kz [] QN
def Kd:eb:=.cons k5<|.cons .r .nil
def wb (n:Int)(x:er)(K:bI):Prop:=er.on x fun t1 aa aH fn=>ao (pn aH) (K (.bool (vY aH n)) (dz 0 (bu t1 aa aH fn))) False
def QM (a:fj Kd)(x:hr (p5 0))(K:bI):Prop:=match a with
 |(_,t,_)=>ao (c1 t 4) (wb 1 x K) (ao (c1 t 6) (wb 2 x K) False)
def Fp:Spec:=gJ Kd (p5 0) QM
def Jj:eb:=.cons k5<|.cons .i .nil
def Ji (n:Int)(x:er)(K:bI):Prop:=er.on x fun t1 aa aH fn=>ao (pn aH&&dg aH.length 100) (K .none (dz 0 (bu t1 aa (hM aH n) (fn+(aH.length-(hM aH n).length))))) False
def QL (a:fj Jj)(x:hr (p5 0))(K:bI):Prop:=match a with
 |(_,n,_)=>Ji n x K
def Fm:Spec:=gJ Jj (p5 0) QL
def pg (U:Int):Int:=match decide (U=6) with|true=>20|false=>8
def lH (T U N:Int)(d:List Int):Bool:=ug T N d&&(ltI 1 (i9 T d)&&b9 (N+pg U) d.length)
def kU (T U N:Int)(d:List Int):Bool:=decide (U=6)&&(lH T U N d&& !decide (Builtin.bitAnd (gc N d) 5=0))
def lN (T U N:Int)(d:List Int):Bool:=lH T U N d&&(!decide (U=6)||decide (Builtin.bitAnd (gc N d) 7=0))
def MQ:eb:=.cons k5<|.cons (hH 11)<|.cons .i .nil
def ic (x:er)(T U N ag:Int)(d:List Int)(i o:Int):List an:=dz 0 x++sW 11 T U N ag d i o
def MP (n:Int)(x:er)(T U N ag:Int)(d:List Int)(i o:Int)(K:bI):Prop:=er.on x fun t1 aa aH fn=>
 ao (ut aH&&((decide (n=1)||decide (n=2))&&(iz U&&hc T d 9 8)))
  (ao (kU T U N d) (K (.bool false) (ic (bu t1 aa (hM aH n) (fn+(aH.length-(hM aH n).length))) T U N ag d i o)) (K (.bool (lN T U N d)) (ic (bu t1 aa aH fn) T U N ag d i o))) False
abbrev yo:Type:=Unit×(Unit×Unit×Unit×Unit×Unit×Unit×Unit×Unit×Unit×Unit×Unit)×Unit×(Unit×Unit×Unit)×Unit×c8×Unit×c8×Unit×Unit×(List (V×V)×Nat)×et
def yo.on (x:yo)(f:er→et→Prop):Prop:=match x with|(_,_,_,_,_,t1,_,aa,_,_,(aH,n),EU)=>f (bu t1 aa aH n) EU
def QR (a:fj MQ)(x:hr (p5 0++lO 11))(K:bI):Prop:=yo.on x fun cB EU=>et.on EU fun T U N ag d i o=>MP a.2.2.1 cB T U N ag d i o K
def Fx:Spec:=gJ MQ (p5 0++lO 11) QR
def AE (T U nf pr:Int):Bool:=(decide (T=2048)&&decide (nf=2)||decide (T=34525)&&decide (nf=10))&&(decide (pr=U)&&(decide (U=6)||decide (U=17)))
def un (T U N:Int)(on af:Bool)(a p:Int)(d:List Int):List Int:=match on with|true=>kL T U N af p (hE T U N af a d)|false=>d
def uo (T U N nf pr:Int)(on af:Bool)(a p:Int)(d:List Int):Bool:=match on with|true=>AE T U nf pr&&se T U N af a p d|false=>true
def hC (cK rj:Int):Bool:= !decide (Builtin.bitAnd cK rj=0)
noncomputable def g9 (af:Bool)(dir:Int):Int:=match decide (dir=1) with
 |true=>(match af with|true=>32|false=>16)
 |false=>(match af with|true=>16|false=>32)
def gX (t:c8)(dir:Int):ej:=match decide (dir=0) with|true=>t.rep|false=>t.r4
def lA (T U N:Int)(d:List Int):List Int:=dy T U N (e0 (d.getD 0 0)) false (nr T) [i9 T d-1] d
def zq (T U N:Int)(d:List Int):Bool:=hc T d 9 8&&(ltI 1 (i9 T d)&&gf T U N im (nr T) 1 d)
def En (T U N cK dir:Int)(g:ej)(d:List Int):List Int:=un T U N (hC cK (g9 false dir)) false g.2.2.1 g.2.2.2.1 d
def ng (T U N cK dir:Int)(g:ej)(d:List Int):List Int:=un T U N (hC cK (g9 true dir)) true g.2.2.2.2.1 g.2.2.2.2.2.1 (En T U N cK dir g d)
def tZ (T U N cK dir:Int)(g:ej)(d:List Int):Bool:=uo T U N g.1 g.2.1 (hC cK (g9 false dir)) false g.2.2.1 g.2.2.2.1 d&&
 uo T U N g.1 g.2.1 (hC cK (g9 true dir)) true g.2.2.2.2.1 g.2.2.2.2.2.1 (En T U N cK dir g d)
def kh (au U:Int):Int:=au+(match decide (U=6) with|true=>432000000|false=>120000)
def ov (t:c8)(u:Int):c8:=wN t.r4 t.rep u t.cK t.state
def mf (au dc isr T U N ag:Int)(d:List Int)(i o:Int)(t1 aa:c8)(aH:List (V×V))(fn:Nat)(n dir iK:Int)(t gK gL:c8)(K:bI):Prop:=
 ao (b9 t.kM au) (K (.int (-1)) (fE au dc isr T U N ag d i o (bu t1 aa aH fn)))
  (ao (kU T U N d) (K (.int (-1)) (fE au dc isr T U N ag d i o (bu t1 aa (hM aH n) (fn+(aH.length-(hM aH n).length)))))
   (ao (lN T U N d) (ao (iz (gX t dir).2.1&&((decide ((gX t dir).1=2)||decide ((gX t dir).1=10))&&(tZ T U N t.cK dir (gX t dir) d&&zq T U N (ng T U N t.cK dir (gX t dir) d))))
    (K (.int iK) (fE au dc isr T U N ag (lA T U N (ng T U N t.cK dir (gX t dir) d)) i o (bu gK gL aH fn))) False)
    (K (.int (-1)) (fE au dc isr T U N ag d i o (bu t1 aa aH fn)))))
def vR (au dc isr T U N ag:Int)(d:List Int)(i o:Int)(t1 aa:c8)(aH:List (V×V))(fn:Nat)(K:bI):V→Prop
 |.tup [.int n,.int dir,.int iK]=>ao (decide (n=1)) (mf au dc isr T U N ag d i o t1 aa aH fn 1 dir iK t1 (ov t1 (kh au U)) aa K) (ao (decide (n=2)) (mf au dc isr T U N ag d i o t1 aa aH fn 2 dir iK aa t1 (ov aa (kh au U)) K) False)
 |_=>False
def wJ (key:V)(go:V→Prop)(qF:Prop):List (V×V)→Prop
 | []=>qF
 |e::r=>ao (bn 4 e.1 key) (go e.2) (wJ key go qF r)
def uD (au dc isr T U N ag:Int)(d:List Int)(i o:Int)(t1 aa:c8)(aH:List (V×V))(fn:Nat)(K:bI):Prop:=
 ao (ut aH&&(iz U&&hc T d 9 8)) (ao (ltI N 0) (K (.int (-1)) (fE au dc isr T U N ag d i o (bu t1 aa aH fn)))
  (ao (b9 (N+4) d.length&&ltI N 1000) (wJ (.tup [.int i,.tup (tupI T U N d)]) (vR au dc isr T U N ag d i o t1 aa aH fn K) (K (.int (-1)) (fE au dc isr T U N ag d i o (bu t1 aa aH fn))) aH) False)) False
abbrev QZ:Type:=Unit×Int×Unit×Unit×Int×Int×Unit×Unit×Unit×Unit×Unit×Unit×Unit×Unit×Unit×Unit×Unit×Unit×Unit×Unit
abbrev Q2:Type:=Unit×Unit×Unit×Unit×Unit×Unit×Unit×Unit×Unit×Unit×Unit
abbrev QE:Type:=Unit×Unit×Unit×Unit×Unit×Unit×Unit×Unit×Unit×Unit×Unit
abbrev yv:Type:=Unit×QZ×Unit×(Unit×Unit×Int×Int×Int×Int×Unit×Unit)×List Int×Unit×(Unit×Unit×Int×Int×Unit×Unit×Unit×Unit×Unit×Unit)×Unit×QE×Unit×(Unit×Unit×Unit)×Unit×c8×Unit×c8×Unit×Unit×(List (V×V)×Nat)×Q2
def yv.on (x:yv)(f:Int→Int→Int→Int→Int→Int→Int→List Int→Int→Int→c8→c8→List (V×V)→Nat→Prop):Prop:=match x with
 |(_,(_,au,_,_,dc,isr,_),_,(_,_,T,U,N,ag,_,_),d,_,(_,_,i,o,_),_,_,_,_,_,t1,_,aa,_,_,(aH,fn),_)=>f au dc isr T U N ag d i o t1 aa aH fn
def QY (_:fj fa)(x:hr Pr)(K:bI):Prop:=yv.on x fun au dc isr T U N ag d i o t1 aa aH fn=>uD au dc isr T U N ag d i o t1 aa aH fn K
def xe:Spec:=gJ fa Pr QY
noncomputable def Gc:List Int:=[0,1000000000000000,0,544,12,66304,16,1,4,2,3,256,0,0]
def qe (xs:List Int)(k:Int):Int:=match ltI k xs.length with
 |true=>xs.getD k.toNat 0% 2^64
 |false=>(match ltI k 14 with|true=>Gc.getD k.toNat 0|false=>12*k)
def Mk:eb:=.cons k5<|.cons .i .nil
def Jc (xs:List Int)(k:Int)(K:bI):Prop:=ao (b9 0 k&&(ltI k 1000&&dg xs.length 900)) (K (.int (qe xs k)) [.d5 xs]) False
def QO (a:fj Mk)(x:hr [g8.f])(K:bI):Prop:=match a,x with
 |(_,k,_),(xs,_)=>Jc xs k K
def Fu:Spec:=gJ Mk [g8.f] QO
def N4:eb:=.t (.cons .i<|.cons .i .nil)
def ni:eb:=.t (.cons N4<|.cons N4 .nil)
def Ul:eb:=.t (.cons (.t (.cons ni<|.cons ni .nil))<|.cons (.t (.cons ni<|.cons ni .nil)) .nil)
def FN:List V:=[.str (a7 "nfproto"),.str (a7 "protocol"),.str (a7 "source"),.str (a7 "target"),.str (a7 "way"),.str (a7 "cause"),.str (a7 "ends")]
def FO:eb:=.cons .i<|.cons .i<|.cons .b<|.cons .b<|.cons .i<|.cons .i<|.cons Ul .nil
def Fd:List V:=[.str (a7 "flags"),.str (a7 "is_long"),.str (a7 "word"),.str (a7 "data"),.str (a7 "is_bare"),.str (a7 "is_cut")]
def Fe (r:Nat):eb:=.cons .i<|.cons .b<|.cons .i<|.cons (hH r)<|.cons .b<|.cons .b .nil
abbrev pY:Type:=Int×Int×Unit
abbrev dt:Type:=pY×pY×Unit
variable {g ip:dt}
abbrev fw:Type:=(dt×dt×Unit)×(dt×dt×Unit)×Unit
abbrev ff:Type:=Int×Int×Bool×Bool×Int×Int×fw×Unit
variable {su:ff}
abbrev jh:Type:=Int×Bool×Int×Unit×Bool×Bool×Unit
variable {sx:jh}
def gx (x:ff):an:=td (.d FN FO 7) x
def dI (r:Nat)(x:jh):an:=td (.d Fd (Fe r) 6) x
def iB (l:List Int):Int:=(gI l).sum*256+(gI (l.drop 1)).sum
noncomputable def kd (nf:Int):Nat:=match decide (nf=10) with|true=>16|false=>4
def mD (pr bD dp Y:Int)(S:List Int):List Int:=match decide (pr=6) with
 |true=>bf bD 2++bf dp 2++([1,2,3,4,255,254,253,252,80,Y,7,9,0,0,0,0]:List Int)++S
 |false=>bf bD 2++bf dp 2++([0,8+(S.length:Int),0,0]:List Int)++S
def h7 (nf pr bN bD bM dp Y:Int)(S:List Int):Int:=
 iB (mD pr bD dp Y S)+pr+(mD pr bD dp Y S).length+iB (bf bN (kd nf))+iB (bf bM (kd nf))
noncomputable def fG (c:Int):Int:=match decide (c=0) with|true=>65535|false=>c
def mC (pr t:Int)(ai:Bool):Int:=match decide (pr=6) with
 |true=> -t% 65535
 |false=>(match ai with|true=>0|false=>fG (-t% 65535))
def A7 (nf pr bN bD bM dp Y:Int)(S:List Int)(ai:Bool):List Int:=match decide (pr=6) with
 |true=>(mD pr bD dp Y S).take 16++bf (mC pr (h7 nf pr bN bD bM dp Y S) ai) 2++(mD pr bD dp Y S).drop 18
 |false=>(mD pr bD dp Y S).take 6++bf (mC pr (h7 nf pr bN bD bM dp Y S) ai) 2++(mD pr bD dp Y S).drop 8
def A9 (nf pr bN bD bM dp Y:Int)(S:List Int)(ai cut:Bool):List Int:=match cut with
 |true=>(match decide (pr=6) with|true=>(A7 nf pr bN bD bM dp Y S ai).take 12|false=>(A7 nf pr bN bD bM dp Y S ai).take 6)
 |false=>A7 nf pr bN bD bM dp Y S ai
def hv (d:List Int):Bool:=decide (d=[])||(decide (d=[250])||(decide (d=[250,3])||decide (d=[250,3,255])))
def Mx:eb:=.cons k5<|.cons ni<|.cons (hH 1) .nil
def ltQ:List g8:=[.d FN FO 7,.d Fd (Fe 2) 6,.z]
def Py (su:ff)(sx:jh)(S:List Int)(p:dt)(K:bI):Prop:=
 ao ((decide (su.1=2)||decide (su.1=10))&&(iz su.2.1&&hv S))
  (K (.ref 3) [gx su,dI 2 sx,.ints S,.ints (A9 su.1 su.2.1 p.1.1 p.1.2.1 p.2.1.1 p.2.1.2.1 sx.1 S sx.2.2.2.2.1 sx.2.2.2.2.2.1)]) False
def QP (a:fj Mx)(x:hr ltQ)(K:bI):Prop:=match a,x with
 |(_,p,_),(su,sx,S,_)=>Py su sx S p K
def Fv:Spec:=gJ Mx ltQ QP
def en (pr X bN bM:Int)(L:Bool)(ins:List Int):List Int:=match L with
 |true=>([96,0,0,5,0,8+(ins.length:Int),60,X]:List Int)++bf bN 16++bf bM 16++([pr,0,1,4,0,0,0,0]:List Int)++ins
 |false=>([96,0,0,5,0,0+(ins.length:Int),pr,X]:List Int)++bf bN 16++bf bM 16++[]++ins
def kk (pr X bN bM W:Int)(L:Bool)(n:Int):List Int:=match L with
 |true=>([70,8,0,20+4+n,17,18]:List Int)++bf W 2++([X,pr,0,0]:List Int)++bf bN 4++bf bM 4++([1,1,1,0]:List Int)
 |false=>([69,8,0,20+0+n,17,18]:List Int)++bf W 2++([X,pr,0,0]:List Int)++bf bN 4++bf bM 4++[]
def kj (pr X bN bM W:Int)(L:Bool)(ins:List Int):List Int:=
 (kk pr X bN bM W L ins.length).take 10++bf (-iB (kk pr X bN bM W L ins.length)% 65535) 2++(kk pr X bN bM W L ins.length).drop 12++ins
def sD (nf pr X bN bM W:Int)(L:Bool)(ins:List Int):List Int:=match decide (nf=10) with
 |true=>en pr X bN bM L ins
 |false=>kj pr X bN bM W L ins
def MA:eb:=.cons k5<|.cons ni<|.cons .i<|.cons (hH 1)<|.cons (hH 3) .nil
def MB:List g8:=[.d FN FO 7,.d Fd (Fe 2) 6,.z,.z]
def P7 (su:ff)(sx:jh)(S ins:List Int)(p:dt)(X:Int)(K:bI):Prop:=
 ao ((decide (su.1=2)||decide (su.1=10))&&(dg ins.length 1000&&o9 (sD su.1 su.2.1 X p.1.1 p.2.1.1 sx.2.2.1 sx.2.1 ins)))
  (K (.bytes (sD su.1 su.2.1 X p.1.1 p.2.1.1 sx.2.2.1 sx.2.1 ins)) [gx su,dI 2 sx,.ints S,.ints ins]) False
def QQ (a:fj MA)(x:hr MB)(K:bI):Prop:=match a,x with
 |(_,p,X,_),(su,sx,S,ins,_)=>P7 su sx S ins p X K
def Fw:Spec:=gJ MA MB QQ
def aT:Nat→Option Row:=qB [(LF,⟨0,false,fun _=>AP⟩),(LG,⟨0,false,fun _=>FA⟩),(Ld,⟨0,false,fun _=>Fo⟩),(LB,⟨1,false,fun _=>Fy⟩),(Lx,inl HA),(Lf,inl Hn),(LV,inl HM),(LK,inl HG),(Ly,inl HB),(LD,inl HD),(KZ,ww Hc),(Lw,inl Hz),(La,inl Hl),(K4,inl Hh),(LJ,inl HF),(LO,inl HJ),(LW,inl HN),(K6,inl Hj),(LX,inl HO),(LI,⟨0,false,fun _=>AQ⟩),(LC,⟨2,false,fun _=>Fz⟩),(LS,⟨4,false,fun _=>FG⟩),(K9,inl Hk),(K1,ww He),(Lk,inl Hq),(Li,inl Hp),(K3,inl Hg),(LM,inl HI),(L1,inl HR),(L2,⟨4,false,fun _=>FI⟩),(Lh,⟨1,false,fun _=>Fq⟩),(LU,inl HL),(zI,inl nJ),(Lj,⟨3,false,fun _=>Fs⟩),(LP,⟨5,false,fun _=>FE⟩),(LL,inl HH),(LQ,⟨6,false,fun _=>FF⟩),(K5,inl Hi),(Lg,inl Ho),(LR,inl HK),(LY,inl HP),(L0,inl HQ),(LZ,⟨2,false,fun _=>FH⟩),(K7,⟨5,false,fun _=>Fl⟩),(Lb,⟨2,false,fun _=>Fn⟩),(Lz,inl HC),(Le,⟨0,false,fun _=>Fp⟩),(Lc,inl Hm),(K8,⟨0,false,fun _=>Fm⟩),(Ll,⟨3,false,fun _=>Ft⟩),(LA,⟨4,false,fun _=>Fx⟩),(DX,⟨8,false,fun _=>xe⟩),(Ln,⟨0,false,fun _=>Fu⟩),(Lm,inl Hs),(Lq,inl Hw),(Lv,inl Hy),(Lo,inl Ht),(wC,inl Hv),(Ls,inl Hx),(Lr,⟨3,false,fun _=>Fv⟩),(Lu,⟨3,false,fun _=>Fw⟩),(zN,inl vg),(Lp,inl Hu),(zP,inl yg),(zM,inl yf),(qx,inl vh),(zL,inl Hr),(mm,inl kO),(zK,inl jf),(zO,inl nK),(zQ,inl pQ),(zJ,inl je),(LH,⟨5,false,fun _=>FD⟩),(K2,ww Hf),(K0,ww Hd)]
theorem oc {a4 eI:Type}{f g:a4→eI}{l:List a4}:l.map f=l.map g→∀a∈l,f a=g a:=by
 induction l with
 |nil=>exact fun _ a h=>nomatch h
 |cons a l aF=>exact fun h b az=>(List.mem_cons.mp az).elim (fun e=>e▸(List.cons.inj h).1) (aF (List.cons.inj h).2 b)
noncomputable def Fc (s:s6)(g:Nat→Int)(d9:List Int):List Int:=s.h::(List.range (s.len-1)).map g++(match s.ex with|true=>[]|false=>d9)
def OM (s:s6):Nat:=match s.gY with|true=>jK|false=>im
abbrev pW:Type:=Int→Int→Int→Nat→Int→List Int→List Int→Prop
def w2 (f:pW)(g q:Nat→Int)(d9:List Int)(s:s6):Prop:=f s.kind s.U s.off (OM s) s.pos ((List.range s.n).map q) (Fc s g d9)
def OI (m:Nat)(ag i o':Int)(K:bI):pW:=fun T U N b pos o d=>cR (bh aT (m+4)) aP BV [.ref 0,.str b,.int pos,.bytes o] (bY T U N ag d i o') (dV (bY T U N ag d i o') K)
def aeo (ag i o':Int)(K:bI):pW:=fun T U N b pos o d=>K .none (bY T U N ag (dy T U N (e0 (d.getD 0 0)) (c1 b jK) pos o d) i o')
def Cf (b2 bZ:pW):Prop:=∀g q d9,shapes.map (w2 b2 g q d9)=shapes.map (w2 bZ g q d9)
theorem Rw (m:Nat)(ag i o':Int)(K:bI):Cf (OI m ag i o' K) (aeo ag i o' K):=fun g q d9=>by kernel_rfl
theorem Cv {l:List Int}(h:l.length=n):l=(List.range n).map fun i=>l.getD i 0:=by
 subst h;refine List.ext_getElem? fun i=>?_;rw[List.getElem?_map]
 by_cases hi:i<l.length
 .rw[List.getElem?_range hi,List.getElem?_eq_getElem hi,GN,List.getD_eq_getElem?_getD,List.getElem?_eq_getElem hi];rfl
 .rw[List.getElem?_eq_none (mL.mp hi),List.getElem?_eq_none (by rw[List.length_range];exact mL.mp hi)];rfl
theorem aey {s:s6}{d:List Int}(bl:0<s.len)(ar:match s.ex with|true=>d.length=s.len|false=>s.len≤d.length)(hd:d.getD 0 0=s.h):d=Fc s (fun i=>d.getD (i+1) 0) (d.drop s.len):=by
 unfold Fc
 induction d using List.casesOn with
 |nil=>cases e:s.ex<;>(rw[e] at ar;simp at ar;lia)
 |cons x r=>
  change x=s.h at hd;subst hd;have aW:(fun i=>(s.h::r).getD (i+1) 0)=fun i=>r.getD i 0:=rfl;rw[aW,show(s.h::r).drop s.len=r.drop (s.len-1) by obtain⟨k,aB⟩:∃k,s.len=k+1:=⟨s.len-1,by lia⟩;rw[aB];rfl]
  have aJ:(List.range (s.len-1)).map (fun i=>r.getD i 0)=r.take (s.len-1):=by
   have ahg:s.len-1≤r.length:=by cases e:s.ex<;>(rw[e] at ar;simp only[List.length_cons] at ar;lia)
   rw[Cv (l:=r.take (s.len-1)) (n:=s.len-1) (by rw[List.length_take];lia)];refine List.map_congr_left fun i hi=>?_;have:=List.mem_range.mp hi;rw[List.getD_eq_getElem?_getD,List.getD_eq_getElem?_getD,List.getElem?_take_of_lt this]
  rw[aJ];cases e:s.ex with
  |true=>rw[e] at ar;simp only[List.length_cons] at ar;refine(?_:s.h::r=(s.h::r.take (s.len-1))++[]);rw[List.append_nil,List.take_of_length_le (by lia)]
  |false=>refine(?_:s.h::r=s.h::(r.take (s.len-1)++r.drop (s.len-1)));rw[List.take_append_drop]
theorem aez:∀s∈shapes,0<s.len:=by
 have:shapes.all (fun s=>dg 1 s.len)=true:=by decide+kernel
 exact fun s aE=>d4 (List.all_eq_true.mp this s aE)
theorem abp {aA:pW}{T U N:Int}{b:Nat}{pos:Int}{o d:List Int}(c:gf T U N b pos o.length d=true)(k:∀s∈shapes,∀g q d9,w2 aA g q d9 s):aA T U N b pos o d:=by refine dm (List.any_eq_true.mp c) fun s bS=>b7 bS fun aE c=>b4 c fun ba c=>b4 c fun bK c=>b4 c fun bR c=>b4 c fun DU c=>b4 c fun rM c=>b4 c fun DV c=>b4 c fun DW YF=>?_;have h:aA _ _ _ _ _ _ _:=k s aE (fun i=>d.getD (i+1) 0) (fun i=>o.getD i 0) (d.drop s.len);rw[←of_decide_eq_true ba,←of_decide_eq_true bK,←of_decide_eq_true bR,show OM s=b from(fO DU).symm,←of_decide_eq_true rM,←Cv (fO DV),←aey (aez s aE) (by cases e:s.ex<;>(rw[e] at DW;first|exact fO DW|exact d4 DW)) (of_decide_eq_true YF)] at h;exact h
theorem NG {b2 bZ:pW}(e:Cf b2 bZ){T U N:Int}{b:Nat}{pos:Int}{o d:List Int}(c:gf T U N b pos o.length d=true):Ev (bZ T U N b pos o d)→Ev (b2 T U N b pos o d):=
 abp (aA:=fun T U N b pos o d=>Ev (bZ T U N b pos o d)→Ev (b2 T U N b pos o d)) c fun s aE g q d9=>aK (oc (e g q d9) s aE)
theorem YS (m:Nat){b:Nat}{pos:Int}{o:List Int}{T U N ag:Int}{d:List Int}{i:Int}(bC:Ev (OJ b pos o T U N ag d i o' K)):Ev (OI m ag i o' K T U N b pos o d):=
 b7 (gF bC) fun c h=>NG (Rw m ag i o' K) c h
theorem ac8 (m:Nat):fD (bh aT (m+4)) aP FG BV:=m0 fun(a:Unit×Nat×Int×List Int×Unit) (x:et) K fA fW bC=>
 aK (by kernel_rfl) (YS (b:=a.2.1) (pos:=a.2.2.1) (o:=a.2.2.2.1) (T:=x.kind) (U:=x.U) (N:=x.off) (ag:=x.place) (d:=x.d) (i:=x.i) (o':=x.o) (K:=K) m (aK (by kernel_rfl) bC))
theorem We {x:Int}(bl:0≤x):foldI (x% 65536+x/65536)=foldI x:=by
 unfold foldI
 by_cases h:x=0
 .subst h;rfl
 .have R:¬(x% 65536+x/65536=0):=by lia
  rw[if_neg h,if_neg R];have:x-1=(x% 65536+x/65536-1)+65535*(x/65536):=by lia
  rw[this,Qj]
theorem JH {x:Int}(bl:0≤x)(h:x<65536):foldI x=x:=by
 unfold foldI
 by_cases e:x=0
 .rw[if_pos e,e]
 .rw[if_neg e,xL (Qo (Int.lt_iff_le_and_ne.mpr ⟨bl,Ne.symm e⟩)) (Int.sub_right_lt_of_lt_add (show x<65535+1 from h)),Int.sub_add_cancel]
theorem Wd (x:Int):0≤foldI x∧foldI x≤65535:=by
 unfold foldI
 by_cases e:x=0
 .rw[if_pos e];decide
 .rw[if_neg e];exact⟨Gs (xM _ (by decide)) (by decide),Int.add_one_le_of_lt (Bm _ (by decide))⟩
def rx (C:hT)(n:Nat)(x:Int)(K:dK):Prop:=
 xx (fun loc H K=>iO C aP loc (.cmp .NotEq (.bin .RShift (.loc 0) (.int 16)) (.int 0)) (cF C aP loc (.cmp .NotEq (.bin .RShift (.loc 0) (.int 16)) (.int 0))) H K) (fun loc H K=>b3 C aP (.cons (.asg 0 (.bin .Add (.bin .BitAnd (.loc 0) (.int 65535)) (.bin .RShift (.loc 0) (.int 16)))) .nil) loc H K) n [.int x] [] K
theorem JG {x:Int}{K:dK}:rx C (n+1) x K=ao (!(decide (x/65536=0))) (rx C n (Builtin.bitAnd x 65535+x/65536) K) (K .next [.int x] []):=by kernel_rfl
theorem C5 {K:dK}{x:Int}(bl:0≤x)(k:K .next [.int (foldI x)] [])(s:K .next [.int (foldI (x% 65536+x/65536))] []→rx C n (x% 65536+x/65536) K):rx C (n+1) x K:=by
 rw[JG,bitAnd_m16]
 by_cases aS:x/65536=0
 .rw[decide_eq_true aS];rw[JH bl (by lia)] at k;exact k
 .rw[decide_eq_false aS];exact s ((We bl).symm▸k)
theorem aas (x:Int):0≤x% 65536:=xM _ (by decide)
theorem tv {x:Int}(bl:0≤x):0≤x% 65536+x/65536:=Gs (aas x) (Gu bl (by decide))
theorem Wb {K:dK}{x:Int}(bl:0≤x)(h:x<65536)(k:K .next [.int (foldI x)] []):rx C (n+1) x K:=by rw[JG,Qk bl h];rw[JH bl h] at k;exact k
theorem Wc {K:dK}{x:Int}(bl:0≤x)(h:x<4294967296)(k:K .next [.int (foldI x)] []):rx C (n+4) x K:=
 C5 bl k fun k=>C5 (tv bl) k fun k=>C5 (tv (tv bl)) k fun k=>Wb (tv (tv (tv bl))) (by lia) k
theorem Wf {t:Int}(h:Ia t K):cR C aP BQ [.int t] [] K:=by refine j1 h fun c h=>?_;refine b4 c fun dC dU=>?_;refine ki (B:=rx C 8 t (gh (b3 C aP (.cons (.ret (.loc 0)) .nil)) (e1 K))) (by kernel_rfl) ?_;exact Wc (n:=4) (tS dC) (qD dU) h
theorem acR:fD C aP Fo BQ:=ET fun a b K fA fW h=>Wf h
def pG (l:List Int)(i:Nat):Int:=l.getD (2*i) 0*256+l.getD (2*i+1) 0
theorem PN {aA:List Int→Prop}(bl:aA [])(R:∀a,aA [a])(Z:∀a b r,aA r→aA (a::b::r))(l:List Int):aA l:=by
 refine(?_:aA l∧∀a,aA (a::l)).1
 induction l with
 |nil=>exact⟨bl,R⟩
 |cons b r aF=>exact⟨aF.2 b,fun a=>Z a b r aF.1⟩
theorem P9:∀(i:Nat) (l:List Int),2*i+1<l.length→wsum (l.take (2*(i+1)))=wsum (l.take (2*i))+pG l i:=fun i l=>by
 refine PN (aA:=fun l=>∀i,2*i+1<l.length→wsum (l.take (2*(i+1)))=wsum (l.take (2*i))+pG l i) (fun i h=>absurd h (xT _)) (fun a i h=>absurd (xS h) (xT _)) (fun a b r aF i h=>?_) l i;cases i with
 |zero=>exact(Int.add_zero _).trans (Bp _).symm
 |succ i=>refine(?_:a*256+b+wsum (r.take (2*(i+1)))=a*256+b+wsum (r.take (2*i))+pG r i);rw[aF i (xS (xS h))];exact(Gr ..).symm
theorem Gj {l:List Int}:ef l→0≤wsum l∧wsum l≤65535*(l.length/2:Nat):=by refine PN (aA:=fun l=>ef l→0≤wsum l∧wsum l≤65535*(l.length/2:Nat)) (fun _=>⟨uX _,uX _⟩) (fun a _=>⟨uX 0,(by decide:(0:Int)≤65535*((1/2:Nat):Int))⟩) (fun a b r aF h=>?_) l;have aC:=h a List.mem_cons_self;have az:=h b (List.mem_cons_of_mem _ List.mem_cons_self);have g:=aF fun x aS=>h x (List.mem_cons_of_mem _ (List.mem_cons_of_mem _ aS));rw[show(a::b::r).length/2=r.length/2+1 from Nat.add_div_right (z:=2) r.length (by decide)];refine(?_:0≤a*256+b+wsum r∧a*256+b+wsum r≤_);clear aF h;lia
theorem Mw {x:Int}(bl:0≤x)(h:x<256):(0:Int)≤8∧(8:Int)≤1000∧x.natAbs<2^256:=⟨by decide,by decide,by
 obtain⟨n,rfl⟩:=jV bl;exact q3 (jd.mp h) (by decide)⟩
theorem KU {x:Int}(bl:0≤x)(h:x<100):0≤x∧x<2^62:=⟨bl,Int.lt_of_lt_of_le h (by decide)⟩
theorem getD_in {l:List Int}(h:ef l)(i:Nat):0≤l.getD i 0∧l.getD i 0<256:=by
 rw[List.getD_eq_getElem?_getD];cases e:l[i]? with
 |none=>decide
 |some x=>exact h x (List.mem_of_getElem? e)
theorem acK (n:Nat)(h:n% 2=0):eQ 0 (n:Int) 2=(List.range (n/2)).map fun(k:Nat)=>((2*k:Nat):Int):=by unfold eQ;rw[show(((n:Int)-0+2-1)/2).toNat=n/2 by lia];exact List.map_congr_left fun k _=>Bp _
theorem acL (n:Nat)(h:n% 2=0):(eQ 0 (n:Int) 2).map V.int=(List.range (n/2)).map fun(k:Nat)=>V.int ((2*k:Nat):Int):=by rw[acK n h,List.map_map];rfl
def j7 (c:Int)(o n:List Int)(i:Nat):Int:=65535-c+65535*(i:Int)-wsum (o.take (2*i))+wsum (n.take (2*i))
noncomputable def Ad:fe:=.cons (.asg 3 (.bin .Sub (.bin .Add (.loc 3) (.int (65535))) (.bin .BitOr (.bin .LShift (.sub (.loc 1) (.loc 4)) (.int (8))) (.sub (.loc 1) (.bin .Add (.loc 4) (.int (1))))))) (.cons (.asg 3 (.bin .Add (.loc 3) (.bin .BitOr (.bin .LShift (.sub (.loc 2) (.loc 4)) (.int (8))) (.sub (.loc 2) (.bin .Add (.loc 4) (.int (1))))))) .nil)
theorem aaf {t j:Int}{o n:List Int}{x:V}{K:dK}:b3 C aP Ad ([.int c,.bytes o,.bytes n,.int t,x].set 4 (.int j)) [] K=(cY (0≤j∧j<2^62) (cY (j.toNat<o.length) (cY ((0:Int)≤8∧(8:Int)≤1000∧(o.getD j.toNat 0).natAbs<2^256) (cY (0≤j+1∧j+1<2^62) (cY ((j+1).toNat<o.length)
 (cY (0≤j∧j<2^62) (cY (j.toNat<n.length) (cY ((0:Int)≤8∧(8:Int)≤1000∧(n.getD j.toNat 0).natAbs<2^256) (cY (0≤j+1∧j+1<2^62) (cY ((j+1).toNat<n.length)
  (K .next [.int c,.bytes o,.bytes n,.int (t+65535-Builtin.bitOr (o.getD j.toNat 0*2^(8:Int).toNat) (o.getD (j+1).toNat 0)+Builtin.bitOr (n.getD j.toNat 0*2^(8:Int).toNat) (n.getD (j+1).toNat 0)),.int j] []))))))))))):=by kernel_rfl
theorem aak {t:Int}{o n:List Int}{i:Nat}{x:V}{K:dK}(ax:ef o)(aL:ef n)(R:2*i+1<o.length)(Z:2*i+1<n.length)(ar:o.length≤40)
 (k:K .next [.int c,.bytes o,.bytes n,.int (t+65535-pG o i+pG n i),.int ((2*i:Nat):Int)] []):b3 C aP Ad ([.int c,.bytes o,.bytes n,.int t,x].set 4 (.int ((2*i:Nat):Int))) [] K:=by
 rw[aaf];have eP:2*i<99:=q3 (Br R) (e3 ar (by decide));have Kv:0≤((2*i:Nat):Int)∧((2*i:Nat):Int)<2^62:=KU (lh _) (jd.mpr (GB eP));have Kw:0≤((2*i:Nat):Int)+1∧((2*i:Nat):Int)+1<2^62:=KU (lh (2*i+1)) (jd.mpr (GJ eP));rw[show((2*i:Nat):Int).toNat=2*i from rfl,show(((2*i:Nat):Int)+1).toNat=2*i+1 from rfl,EQ (getD_in ax _).1 (getD_in ax _).2,EQ (getD_in aL _).1 (getD_in aL _).2]
 with_reducible refine iU Kv (iU (Br R) (iU (Mw (getD_in ax _).1 (getD_in ax _).2) (iU Kw (iU R (iU Kv (iU (Br Z) (iU (Mw (getD_in aL _).1 (getD_in aL _).2) (iU Kw (iU Z ?_)))))))))
 exact k
theorem aeQ:∀k,k<41→mz 0 (k:Nat) 2=true:=by decide+kernel
inductive sV (c:Int)(o n:List Int)(i:Nat):List V→Prop
 |mk (x:V):x=.aR∨(∃y,x=.int y)→sV c o n i [.int c,.bytes o,.bytes n,.int (j7 c o n i),x]
theorem aai {o n:List Int}(ax:ef o)(aL:ef n)(g1:o.length=n.length)(g3:o.length≤40){i:Nat}(e:((List.range (o.length/2)).map fun(k:Nat)=>V.int ((2*k:Nat):Int))[i]? =E v)(h:sV c o n i loc){K:dK}
 (k:∀loc,sV c o n (i+1) loc→K .next loc []):b3 C aP Ad (loc.set 4 v) [] K:=by
 induction h with
 |mk x aS=>
  rw[List.getElem?_map] at e;refine eB e fun j iw=>?_;have ed:=(List.getElem?_eq_some_iff.mp iw).1;rw[List.length_range] at ed;rw[List.getElem?_range ed] at iw;obtain rfl:=cE iw;have n7:2*i+1<o.length:=q3 (jx _) (e3 (Nat.mul_le_mul_left 2 ed) (Nat.mul_div_le _ _));have iI:2*i+1<n.length:=g1▸n7;have cI:j7 c o n (i+1)=j7 c o n i+65535-pG o i+pG n i:=by unfold j7;rw[P9 i o n7,P9 i n iI];clear k iw e aS;lia
  have bw:K .next [.int c,.bytes o,.bytes n,.int (j7 c o n i+65535-pG o i+pG n i),.int ((2*i:Nat):Int)] []:=by rw[←cI];exact k _ (.mk _ (.inr ⟨_,rfl⟩))
  with_reducible exact aak (x:=x) (K:=K) ax aL n7 iI g3 bw
theorem aag {o n:List Int}{i:Nat}(h:sV c o n i loc)(b:0≤j7 c o n i∧j7 c o n i<4294967296)(k:K (.int (65535-foldI (j7 c o n i))) []):
 gh (b3 (bh aT (m+1)) aP (.cons (.ret (.bin .Sub (.int (65535)) (.call 3636492994420 (.cons (.loc 3) .nil)))) .nil)) (e1 K) .next loc []:=by
 induction h with
 |mk x aS=>
  generalize j7 c o n i=t at b k⊢;have iT:(b9 0 t&&ltI t 4294967296)=true:=by rw[i2,jq,decide_eq_true b.1,decide_eq_true b.2];rfl
  refine ki (B:=ao (b9 0 t&&ltI t 4294967296) (K (.int (65535-foldI t)) []) False) (by rcases aS with rfl|⟨y,rfl⟩<;>kernel_rfl) ?_
  with_reducible exact jI iT k
theorem aaj {o n:List Int}(ax:ef o)(aL:ef n)(g1:o.length=n.length)(bL:o.length% 2=0)(g3:o.length≤40)(vz:0≤c)(dC:c≤65535):
 j7 c o n (o.length/2)=65535-c+65535*((o.length:Int)/2)-wsum o+wsum n∧0≤j7 c o n (o.length/2)∧j7 c o n (o.length/2)<4294967296:=by
 have dJ:2*(o.length/2)=o.length:=Nat.mul_div_cancel' (Nat.dvd_of_mod_eq_zero bL);have e:j7 c o n (o.length/2)=65535-c+65535*((o.length:Int)/2)-wsum o+wsum n:=by unfold j7;rw[dJ,List.take_length,List.take_of_length_le (sI g1.symm)];rfl
 have oA:=Gj ax;have P4:=Gj aL;rw[←g1] at P4;refine⟨e,?_⟩;rw[e];have q:((o.length:Int)/2)=((o.length/2:Nat):Int):=rfl;rw[q];have l:o.length/2≤20:=Nat.div_le_div_right (c:=2) g3;generalize o.length/2=k at oA P4 l;clear e dJ g1 bL g3 ax aL q;lia
theorem aah (m:Nat){o n:List Int}(ax:ef o)(aL:ef n)(h:Ib c o n K):cR (bh aT (m+1)) aP BS [.int c,.bytes o,.bytes n] [] K:=by
 refine j1 h fun g h=>j1 h fun fl h=>b4 g fun g1 g=>b4 g fun bL g3=>b4 fl fun vz dC=>?_;have g1:=fO g1;have bL:=fO bL;have g3:=d4 g3;have qW:=aaj ax aL g1 bL g3 (tS vz) (tS dC);refine ki (B:=ao (!(decide ((o.length:Int)=n.length))) False (ao (decide ((o.length:Int)% 2=1)) False (ao (mz 0 o.length 2)
  (ix 0 (fun v loc H K=>b3 (bh aT (m+1)) aP Ad (loc.set 4 v) H K) (hk .none ((eQ 0 o.length 2).map V.int) []) (((eQ 0 o.length 2).map V.int).length+1) 0 ((eQ 0 o.length 2).map V.int) [.int c,.bytes o,.bytes n,.int (65535-c),.aR] []
   (gh (b3 (bh aT (m+1)) aP (.cons (.ret (.bin .Sub (.int (65535)) (.call 3636492994420 (.cons (.loc 3) .nil)))) .nil)) (e1 K))) False))) (by kernel_rfl) ?_
 have cg:(!(decide ((o.length:Int)=n.length)))=false:=by rw[g1,decide_eq_true rfl];rfl
 have b8:decide ((o.length:Int)% 2=1)=false:=by rw[show(o.length:Int)% 2=((o.length% 2:Nat):Int) from rfl,bL];rfl
 with_reducible refine p7 cg (p7 b8 (jI (aeQ _ (Nat.lt_succ_of_le g3)) ?_))
 rw[acL _ bL];clear cg b8 g fl vz dC;refine C7 (fun i loc=>sV c o n i loc) (fun i v loc e ab hs m8=>aai ax aL g1 g3 e ab m8) (fun i loc ab P a8=>?_) (fun P a8=>a8) (fun loc ab=>?_) _ 0 _ ?_ (jy _) (jx _)
 .induction ab with|mk x aS=>rcases aS with rfl|⟨y,rfl⟩<;>exact a8
 .rw[List.length_map,List.length_range] at ab;refine aag ab qW.2 ?_;rw[qW.1];exact h
 .have:=sV.mk (c:=c) (o:=o) (n:=n) (i:=0) .aR (.inl rfl);rwa [show j7 c o n 0=65535-c by unfold j7;simp[wsum]] at this
theorem ac0 (m:Nat):fD (bh aT (m+1)) aP Fy BS:=ET fun a b K fA fW h=>aah m (fW (.bytes _) (List.mem_cons_of_mem _ List.mem_cons_self)).1 (fW (.bytes _) (List.mem_cons_of_mem _ (List.mem_cons_of_mem _ List.mem_cons_self))).1 h
theorem abS {e:Int}{b:List Int}:cR C aP yj [.bytes b,.int f,.int e] [] K=
 ao (gw (E f)&&gw (E e)) (ao (ltI ((ch b f.toNat e.toNat).length:Int) (e-f)) (cY ((ch b f.toNat e.toNat).length+[(0:Int)].length≤1000000) (K (.bytes (ch b f.toNat e.toNat++[0])) [])) (K (.bytes (ch b f.toNat e.toNat)) [])) False:=by kernel_rfl
theorem abT {e:Int}{b:List Int}:cR C aP yj [.ref 0,.int f,.int e] [.cA b] (dV [.cA b] K)=
 ao (gw (E f)&&gw (E e)) (ao (ltI ((ch b f.toNat e.toNat).length:Int) (e-f)) (cY ((ch b f.toNat e.toNat).length+[(0:Int)].length≤1000000) (K (.bytes (ch b f.toNat e.toNat++[0])) [.cA b])) (K (.bytes (ch b f.toNat e.toNat)) [.cA b])) False:=by kernel_rfl
theorem pk {x:Int}(bl:0≤x)(h:x<65540):gw (E x)=true:=by refine(?_:(b9 0 x&&ltI x (2^62))=true);rw[i2,jq,fH,decide_eq_true_iff,decide_eq_true_iff];exact⟨bl,ko h (by decide)⟩
theorem ox (b:List Int)(i j:Nat):(ch b i j).length=min j b.length-i:=by unfold ch;rw[List.length_drop,List.length_take]
theorem z3 {a b:Nat}(h:a≤b):b9 (.ofNat a) (.ofNat b)=true:=by rw[i2];exact decide_eq_true (lj.mpr h)
theorem Mz {a b:Nat}(h:a<b):ltI (.ofNat a) (.ofNat b)=true:=by rw[jq];exact decide_eq_true (jd.mpr h)
theorem nR {a:Bool}(h:a=true)(k:b=true):(a&&b)=true:=by rw[h,k];rfl
theorem N3 {e:Int}{b:List Int}(g:(b9 0 f&&(b9 f e&&(b9 e b.length&&ltI e 65536)))=true):(gw (E f)&&gw (E e))=true∧ltI ((ch b f.toNat e.toNat).length:Int) (e-f)=false:=by refine b4 g fun g1 g=>b4 g fun bL g=>b4 g fun g3 ek=>?_;have g1:=tS g1;have bL:=tS bL;have ek:=ko (qD ek) (show(65536:Int)<65540 by decide);refine⟨nR (pk g1 (Bn bL ek)) (pk (q2 g1 bL) ek),?_⟩;obtain⟨c,rfl⟩:=jV (q2 g1 bL);obtain⟨a,rfl⟩:=jV g1;refine(?_:ltI ((ch b a c).length:Int) (c-a)=false);rw[ox,q4 (lj.mp (tS g3)),Int.ofNat_sub (lj.mp bL),jq];exact decide_eq_false (Int.lt_irrefl _)
theorem ac5:fD C aP AQ yj:=fun vs H K fA fW h=>by
 unfold AQ at h
 induction H using List.casesOn with
 |nil=>
  refine dB (pq h) fun a c g=>?_;rw[g.1];refine j1 g.2.2 fun g h=>b7 (N3 g) fun g1 bL=>.inl (ki abS ?_)
  with_reducible exact jI g1 (p7 bL h)
 |cons o r=>
  refine dB (pq h) fun a c g=>?_;rw[g.1,g.2.1];refine j1 g.2.2 fun g h=>b7 (N3 g) fun g1 bL=>.inr (.inl (ki abT ?_))
  with_reducible exact jI g1 (p7 bL h)
noncomputable def Aa:fe:=.cons (.iff (.cmp .Lt (.loc 6) (.loc 7)) (.cons (.asg 5 (.call 218676008 (.cons (.loc 5) (.cons (.call 61749720591457115 (.cons (.loc 1) (.cons (.loc 6) (.cons (.loc 7) .nil)))) (.cons (.call 61749720591457115 (.cons (.attr (.loc 0) 212335262) (.cons (.loc 6) (.cons (.loc 7) .nil)))) .nil))))) .nil) .nil) .nil
noncomputable def z9:fe:=.cons (.iff (.and (.loc 4) (.cmp .Eq (.loc 5) (.int (0)))) (.cons (.asg 5 (.int (65535))) .nil) .nil) (.cons (.p3 (.attr (.loc 0) 212335262) (.loc 2) (.bin .Add (.loc 2) (.int (2))) (.call 7965713956843541455 (.cons (.loc 5) (.cons (.int (2)) .nil)))) .nil)
noncomputable def k1 (d0:List Int)(pl:Nat)(u:Bool)(c:Int)(x y:V):List V:=[.ref 0,.bytes d0,.int (.ofNat pl),.ref 5,.bool u,.int c,x,y]
section
variable {T U N ag i o:Int}{d:List Int}{f e:Nat}{cQ:List V}{x y:V}{K:dK}
theorem Z9:lT (.tup [.int (.ofNat f),.int (.ofNat e)]) (bY T U N ag d i o++[.list cQ]) 2 (fun cc=>b3 (bh aT (m+2)) aP Aa (jv (k1 d0 pl u c x y) [6,7] cc) (bY T U N ag d i o++[.list cQ]) K)=
 ao (ltI (.ofNat f) (.ofNat e)) (ao (b9 0 (.ofNat f)&&(b9 (.ofNat f) (.ofNat e)&&(b9 (.ofNat e) d0.length&&ltI (.ofNat e) 65536))) (ao (b9 0 (.ofNat f)&&(b9 (.ofNat f) (.ofNat e)&&(b9 (.ofNat e) d.length&&ltI (.ofNat e) 65536)))
  (ao (c1 (ch d0 f e).length (ch d f e).length&&(c1 ((ch d0 f e).length% 2) 0&&dg (ch d0 f e).length 40)) (ao (b9 0 c&&b9 c 65535) (K .next (k1 d0 pl u (jr c (ch d0 f e) (ch d f e)) (.int (.ofNat f)) (.int (.ofNat e))) (bY T U N ag d i o++[.list cQ])) False) False) False) False)
  (K .next (k1 d0 pl u c (.int (.ofNat f)) (.int (.ofNat e))) (bY T U N ag d i o++[.list cQ])):=by kernel_rfl
def wK (T U N ag i o c:Int)(d:List Int)(pl:Nat)(cQ:List V)(K:List an→Prop):Prop:=
 ao (b9 0 c&&decide (c<256^(2:Int).toNat)) (cY ((0:Int)≤ .ofNat pl∧mJ pl≤mJ pl+2∧mJ pl+2<2^62) (ao (b9 (.ofNat pl+2) d.length&&c1 (bf c (2:Int).toNat).length ((mJ pl+2).toNat-(mJ pl).toNat))
  (K (bY T U N ag (d.take pl++bf c 2++d.drop (pl+2)) i o++[.list cQ])) False)) False
theorem Z4:b3 (bh aT (m+2)) aP z9 (k1 d0 pl false c x y) (bY T U N ag d i o++[.list cQ]) K=wK T U N ag i o c d pl cQ (K .next (k1 d0 pl false c x y)):=by kernel_rfl
theorem Z5:b3 (bh aT (m+2)) aP z9 (k1 d0 pl true c x y) (bY T U N ag d i o++[.list cQ]) K=
 ao (decide (c=0)) (wK T U N ag i o 65535 d pl cQ (K .next (k1 d0 pl true 65535 x y))) (wK T U N ag i o c d pl cQ (K .next (k1 d0 pl true c x y))):=by kernel_rfl
def Ef (m:Nat)(T U N ag i o:Int)(d0 d:List Int)(pl:Nat)(u:Bool)(cQ:List V)(K:dK):Prop:=
 ix 6 (fun v loc H K=>lT v H 2 fun cc=>b3 (bh aT (m+2)) aP Aa (jv loc [6,7] cc) H K) (hk (.ref 5) cQ (bY T U N ag d i o++[.list cQ])) (cQ.length+1) 0 cQ (k1 d0 pl u (cO (ch d0 pl (pl+2))) .aR .aR)
  (bY T U N ag d i o++[.list cQ]) (gh (b3 (bh aT (m+2)) aP z9) K)
theorem Z6 {K:bI}:cR (bh aT (m+2)) aP sT [.ref 0,.bytes d0,.int (.ofNat pl),.ref 5,.bool false] (bY T U N ag d i o++[.list cQ]) K=
 ao (gw (E (.ofNat pl))&&gw (E (.ofNat pl+2))) (ao (dg (ch d0 pl (pl+2)).length 20) (Ef m T U N ag i o d0 d pl false cQ (e1 K)) False) False:=by kernel_rfl
theorem Z7 {K:bI}:cR (bh aT (m+2)) aP sT [.ref 0,.bytes d0,.int (.ofNat pl),.ref 5,.bool true] (bY T U N ag d i o++[.list cQ]) K=
 ao (gw (E (.ofNat pl))&&gw (E (.ofNat pl+2))) (ao (dg (ch d0 pl (pl+2)).length 20) (ao (decide (cO (ch d0 pl (pl+2))=0)) (K .none (bY T U N ag d i o++[.list cQ])) (Ef m T U N ag i o d0 d pl true cQ (e1 K))) False) False:=by kernel_rfl
end
theorem M8 {x:Int}(h:Eu x=E n):x=.ofNat n:=by
 induction x using xK with
 |ofNat m=>obtain rfl:=cE h;rfl
 |negSucc m=>exact c5 h
theorem afp {p:Nat×Nat}(h:bk v=E p):v=.tup [.int (.ofNat p.1),.int (.ofNat p.2)]:=by refine dA h fun a aC h=>?_;refine dB (Cu h) fun f e g=>?_;obtain rfl:=g.2.2;rw[(t2 _).1 _ _ aC,←M8 g.1,←M8 g.2.1];rfl
theorem O5 {cQ:List V}:∀{st:List (Nat×Nat)},stN cQ=E st→cQ.length=st.length∧∀(i:Nat) (v:V),cQ[i]? =E v→∃f e,v=.tup [.int (.ofNat f),.int (.ofNat e)]∧st[i]? =E (f,e):=by
 induction cQ with
 |nil=>intro st h;obtain rfl:=cE h;exact⟨rfl,fun i v e=>c5 e⟩
 |cons v r aF=>
  intro st h;refine dA h fun p a8 h=>?_;refine eB h fun el R=>?_;refine b7 (aF R) fun Z bv=>⟨congrArg (· +1) Z,fun i v co=>?_⟩
  induction i using h8 with
  |zero=>obtain rfl:=cE co;exact⟨_,_,afp a8,rfl⟩
  |succ i=>exact bv i v co
theorem aad (c:Int)(o n:List Int):0≤jr c o n∧jr c o n≤65535:=by have:=Wd (65535-c+65535*(o.length/2)-wsum o+wsum n);unfold jr;exact⟨Int.sub_nonneg_of_le this.2,Int.sub_le_self _ this.1⟩
theorem afA {d:List Int}{p:Nat×Nat}(h:0≤c∧c≤65535):0≤k9 d0 d c p∧k9 d0 d c p≤65535:=by
 unfold k9
 split
 .exact aad _ _ _
 .exact h
section
variable {T U N ag i o:Int}{d:List Int}{f e:Nat}{cQ:List V}{st:List (Nat×Nat)}{x y:V}
theorem Z8 {K:dK}(h:0≤c∧c≤65535)(g:(dg e d0.length&&(dg e d.length&&(c1 ((e-f)% 2) 0&&(dg (e-f) 40&&d3 e 65536))))=true)
 (k:K .next (k1 d0 pl u (k9 d0 d c (f,e)) (.int (.ofNat f)) (.int (.ofNat e))) (bY T U N ag d i o++[.list cQ])):
 lT (.tup [.int (.ofNat f),.int (.ofNat e)]) (bY T U N ag d i o++[.list cQ]) 2 fun cc=>b3 (bh aT (m+2)) aP Aa (jv (k1 d0 pl u c x y) [6,7] cc) (bY T U N ag d i o++[.list cQ]) K:=by
 rw[Z9];refine b4 g fun g1 g=>b4 g fun bL g=>b4 g fun g3 g=>b4 g fun ek ht=>?_;have g1:=d4 g1;have bL:=d4 bL;unfold k9 at k;cases az:d3 f e with
 |true=>
  rw[az] at k;have ed:f<e:=d4 az;have a2:∀n:Nat,e≤n→(b9 0 (.ofNat f)&&(b9 (.ofNat f) (.ofNat e)&&(b9 (.ofNat e) (n:Int)&&ltI (.ofNat e) 65536)))=true:=fun n aL=>
   nR (z3 (a:=0) (jy _)) (nR (z3 (xP ed)) (nR (z3 aL) (Mz (b:=65536) (d4 ht))))
  have a3:(c1 (ch d0 f e).length (ch d f e).length&&(c1 ((ch d0 f e).length% 2) 0&&dg (ch d0 f e).length 40))=true:=by rw[ox,ox,q4 g1,q4 bL];exact nR (pJ _) (nR g3 ek)
  have s9:(b9 0 c&&b9 c 65535)=true:=by rw[i2,i2];exact nR (decide_eq_true h.1) (decide_eq_true h.2)
  with_reducible exact jI (Mz ed) (jI (a2 _ g1) (jI (a2 _ bL) (jI a3 (jI s9 k))))
 |false=>
  rw[az] at k;have a1:ltI (.ofNat f) (.ofNat e)=false:=by rw[jq,decide_eq_false_iff_not];exact fun q=>j9 ((lX.mpr (jd.mp q)).symm.trans az)
  with_reducible exact p7 a1 k
inductive yn (d0 d:List Int)(pl:Nat)(u:Bool)(st:List (Nat×Nat))(j:Nat):List V→Prop
 |mk (x y:V):(x=V.aR∧y=V.aR)∨(∃a b,x=V.int a∧y=V.int b)→yn d0 d pl u st j (k1 d0 pl u ((st.take j).foldl (k9 d0 d) (cO (ch d0 pl (pl+2)))) x y)
theorem JI {st:List (Nat×Nat)}:∀{c:Int},0≤c∧c≤65535→0≤st.foldl (k9 d0 d) c∧st.foldl (k9 d0 d) c≤65535:=by
 induction st with
 |nil=>exact fun h=>h
 |cons p st aF=>exact fun h=>aF (afA h)
theorem Z3 {K:dK}(hu:stN cQ=E st)(g:AU d0.length d.length st=true)(aI:0≤cO (ch d0 pl (pl+2))∧cO (ch d0 pl (pl+2))≤65535)(nY:cQ[j]? =E v)(h:yn d0 d pl u st j loc)
 (m8:∀loc,yn d0 d pl u st (j+1) loc→K .next loc (bY T U N ag d i o++[.list cQ])):lT v (bY T U N ag d i o++[.list cQ]) 2 fun cc=>b3 (bh aT (m+2)) aP Aa (jv loc [6,7] cc) (bY T U N ag d i o++[.list cQ]) K:=by
 induction h with
 |mk x y aS=>
  refine dB ((O5 hu).2 j v nY) fun f e bS=>?_;rw[bS.1];have aB:=m8 _ (.mk (.int (.ofNat f)) (.int (.ofNat e)) (.inr ⟨_,_,rfl,rfl⟩));rw[List.take_add_one,bS.2,List.foldl_append] at aB;replace aB:K .next (k1 d0 pl u (k9 d0 d ((st.take j).foldl (k9 d0 d) (cO (ch d0 pl (pl+2)))) (f,e)) (.int (.ofNat f)) (.int (.ofNat e))) (bY T U N ag d i o++[.list cQ]):=aB;unfold AU at g
  with_reducible exact Z8 (JI aI) (List.all_eq_true.mp g (f,e) (List.mem_of_getElem? bS.2)) aB
theorem MD {K:dK}(hu:stN cQ=E st)(g:AU d0.length d.length st=true)
 (k:∀x y,b3 (bh aT (m+2)) aP z9 (k1 d0 pl u (st.foldl (k9 d0 d) (cO (ch d0 pl (pl+2)))) x y) (bY T U N ag d i o++[.list cQ]) K)(aI:0≤cO (ch d0 pl (pl+2))∧cO (ch d0 pl (pl+2))≤65535):Ef m T U N ag i o d0 d pl u cQ K:=by
 refine C7 (fun j loc=>yn d0 d pl u st j loc) (fun j v loc nY h hs m8=>Z3 hu g aI nY h m8) (fun j loc h P a8=>?_) (fun P a8=>a8) (fun loc h=>?_) _ 0 _ (.mk .aR .aR (.inl ⟨rfl,rfl⟩)) (jy _) (jx _)
 .induction h with
  |mk x y aS=>
   unfold trunc
   split
   .rcases aS with⟨rfl,rfl⟩|⟨a,b,rfl,rfl⟩<;>exact a8
   .exact a8
 .rw[(O5 hu).1] at h;have e:st.take st.length=st:=List.take_length
  induction h with
  |mk x y aS=>rw[e];exact k x y
theorem Eg {K:List an→Prop}(h:0≤c∧c≤65535)(a8:pl+2≤d.length)(a9:pl<65000)(k:K (bY T U N ag (putL d pl (bf c 2)) i o++[.list cQ])):wK T U N ag i o c d pl cQ K:=by
 have a1:(b9 0 c&&decide (c<256^(2:Int).toNat))=true:=by rw[i2];exact nR (decide_eq_true h.1) (decide_eq_true (Bn h.2 (by decide)))
 have a2:(0:Int)≤ .ofNat pl∧mJ pl≤mJ pl+2∧mJ pl+2<2^62:=⟨lh _,Qn (by decide),ko (xJ (jd.mpr a9) 2) (by decide)⟩;have a3:(b9 (.ofNat pl+2) d.length&&c1 (bf c (2:Int).toNat).length ((mJ pl+2).toNat-(mJ pl).toNat))=true:=by rw[iu];refine nR (z3 (a:=pl+2) a8) ?_;rw[show(mJ pl+2).toNat-(mJ pl).toNat=2 from sG ..];rfl
 have e:d.take pl++bf c 2++d.drop (pl+2)=putL d pl (bf c 2):=by unfold putL;rw[iu]
 unfold wK;rw[e]
 with_reducible exact jI a1 (iU a2 (jI a3 k))
end
theorem om:∀(xs ys:List Int),mr true xs ys=xs
 | [],_=>rfl
 |_::_,[]=>rfl
 |x::xs,_::ys=>congrArg (x:: ·) (om xs ys)
theorem oj:∀(xs ys:List Int),mr false xs ys=ys
 | [],_=>rfl
 |_::_,[]=>rfl
 |_::xs,y::ys=>congrArg (y:: ·) (oj xs ys)
theorem aeG {d:List Int}(h:ef d)(i j:Nat):ef (ch d i j):=fun x aS=>h x (List.mem_of_mem_take (List.mem_of_mem_drop aS))
theorem YO (m:Nat){d:List Int}{T U N ag i o:Int}{cQ:List V}(hd:ef d0)(h:Ac d0 pl u T U N ag d i o cQ K):
 cR (bh aT (m+2)) aP sT [.ref 0,.bytes d0,.int (.ofNat pl),.ref 5,.bool u] (bY T U N ag d i o++[.list cQ]) K:=by
 unfold Ac at h;cases hu:stN cQ with
 |none=>rw[hu] at h;exact h.elim
 |some st=>
  rw[hu] at h;refine j1 h fun g h=>b4 g fun g1 g=>b4 g fun bL g=>b4 g fun g3 ek=>?_;have g3:=d4 g3;have ek:pl<65000:=d4 ek;have iI:(ch d0 pl (pl+2)).length=2:=by rw[ox,q4 (d4 bL)];exact sG ..
  have rW:=Np (aeG hd pl (pl+2));rw[iI] at rW;have wQ:0≤cO (ch d0 pl (pl+2))∧cO (ch d0 pl (pl+2))≤65535:=⟨rW.1,Int.le_of_lt_add_one rW.2⟩;have a1:(gw (E (.ofNat pl))&&gw (E (.ofNat pl+2)))=true:=nR (pk (lh _) (jd.mpr (sJ ek (by decide)))) (pk (lh (pl+2)) (jd.mpr (sJ (Nat.add_lt_add_right ek 2) (by decide))));have a2:dg (ch d0 pl (pl+2)).length 20=true:=by rw[iI];rfl
  have IB:=JI (d0:=d0) (d:=d) (st:=st) wQ;clear iI rW g
  induction u using eo with
  |false=>
   rw[Z6]
   with_reducible refine jI a1 (jI a2 ?_)
   refine MD hu g1 (fun x y=>?_) wQ;rw[Z4];exact Eg IB g3 ek h
  |true=>
   rw[Z7]
   with_reducible refine jI a1 (jI a2 ?_)
   unfold Ei at h;cases eT:decide (cO (ch d0 pl (pl+2))=0) with
   |true=>simp only[eT,om] at h;exact h
   |false=>
    simp only[eT,oj] at h;refine MD hu g1 (fun x y=>?_) wQ;rw[Z5];unfold jk at h;cases aW:decide (st.foldl (k9 d0 d) (cO (ch d0 pl (pl+2)))=0) with
    |true=>simp only[aW] at h;exact Eg (by decide) g3 ek h
    |false=>simp only[aW] at h;exact Eg IB g3 ek h
theorem YP (m:Nat){d:List Int}{pl:Int}{T U N ag i o:Int}{cQ:List V}(hd:ef d0)(h:match pl with|.ofNat pl=>Ac d0 pl u T U N ag d i o cQ K|_=>False):
 cR (bh aT (m+2)) aP sT [.ref 0,.bytes d0,.int pl,.ref 5,.bool u] (bY T U N ag d i o++[.list cQ]) K:=by
 induction pl using xK with
 |ofNat pl=>exact YO m hd h
 |negSucc _=>exact h.elim
theorem ac1 (m:Nat):fD (bh aT (m+2)) aP Fz sT:=ET fun(a:Unit×List Int×Int×Unit×Bool×Unit) (x:Unit×(Unit×Unit×Int×Int×Int×Int×Unit×Unit)×List Int×Unit×(Unit×Unit×Int×Int×Unit×Unit×Unit×Unit×Unit×Unit)×List V×Unit) K fA fW h=>
 ki (by kernel_rfl) (YP m (d0:=a.2.1) (pl:=a.2.2.1) (u:=a.2.2.2.2.1) (T:=x.2.1.2.2.1) (U:=x.2.1.2.2.2.1) (N:=x.2.1.2.2.2.2.1) (ag:=x.2.1.2.2.2.2.2.1) (d:=x.2.2.1) (i:=x.2.2.2.2.1.2.2.1) (o:=x.2.2.2.2.1.2.2.2.1) (cQ:=x.2.2.2.2.2.1) (K:=K) (fW (.bytes a.2.1) (.tail _ (.head _))).1 (ki (by kernel_rfl) h))
def acp (m:Nat)(ag i o':Int)(K:bI):pW:=fun T U N b pos o d=>cR (bh aT (m+5)) aP vi [.ref 0,.str b,.int pos,.bytes o] (bY T U N ag d i o') (dV (bY T U N ag d i o') K)
def acr (ag i o':Int)(K:bI):pW:=fun T U N b pos o d=>ao (!(decide (ch d (jG (c1 b jK) N pos) (jG (c1 b jK) N pos+o.length)=o))) (K .none (bY T U N ag (dy T U N (e0 (d.getD 0 0)) (c1 b jK) pos o d) i o')) (K .none (bY T U N ag d i o'))
theorem Rv (m:Nat)(ag i o':Int)(K:bI):Cf (acp m ag i o' K) (acr ag i o' K):=fun g q d9=>by kernel_rfl
theorem acs (m:Nat)(T U ag pos:Int)(d o:List Int)(i o':Int)(K:bI):
 cR (bh aT (m+5)) aP vi [.ref 0,.str jK,.int pos,.bytes o] (bY T U (-1) ag d i o') (dV (bY T U (-1) ag d i o') K)=K .none (bY T U (-1) ag d i o'):=by kernel_rfl
theorem acu {d e:List Int}{f:List Int→Prop}(h:Ev (f (mr b d e))):Ev (ao (!b) (f e) (f d)):=by
 induction b using eo with
 |true=>rw[om] at h;exact⟨h.out⟩
 |false=>rw[oj] at h;exact⟨h.out⟩
theorem YR (m:Nat){b:Nat}{pos:Int}{o:List Int}{T U N ag:Int}{d:List Int}{i:Int}(bC:Ev (putK b pos o T U N ag d i o' K)):
 Ev (cR (bh aT (m+5)) aP vi [.ref 0,.str b,.int pos,.bytes o] (bY T U N ag d i o') (dV (bY T U N ag d i o') K)):=by
 unfold putK at bC;cases eT:(c1 b jK&&decide (N= -1)) with
 |true=>have aW:=(fH _ _▸eT:_∧_);have aJ:=fO aW.1;have cI:=of_decide_eq_true aW.2;have h:=jm eT bC;rw[aJ,cI];rw[cI] at h;exact aK (acs m T U ag pos d o i o' K) h
 |false=>exact b7 (gF (iZ eT bC)) fun c h=>NG (Rv m ag i o' K) c (acu (f:=fun e=>K .none (bY T U N ag e i o')) h)
theorem ac6 (m:Nat):fD (bh aT (m+5)) aP FE vi:=m0 fun(a:Unit×Nat×Int×List Int×Unit) (x:et) K fA fW bC=>
 aK (by kernel_rfl) (YR (b:=a.2.1) (pos:=a.2.2.1) (o:=a.2.2.2.1) (T:=x.kind) (U:=x.U) (N:=x.off) (ag:=x.place) (d:=x.d) (i:=x.i) (o':=x.o) (K:=K) m (aK (by kernel_rfl) bC))
theorem Fh (d:List Int)(i j k:Nat)(h:i+k<j):(ch d i j).getD k 0=d.getD (i+k) 0:=by unfold ch;rw[List.getD_eq_getElem?_getD,List.getD_eq_getElem?_getD,List.getElem?_drop,List.getElem?_take_of_lt h]
theorem jO {a:Bool}(h:(a||b)=true):a=true∨b=true:=xG.mp h
section
variable {T U N ag i o:Int}{d:List Int}
theorem Vr:cR (bh aT (m+2)) aP yk [.ref 0] (bY 2048 U N ag d i o) (dV (bY 2048 U N ag d i o) K)=
 ao (ltI d.length 9) (K (.int 0) (bY 2048 U N ag d i o)) (cY (0<(ch d 8 9).length) (K (.int ((ch d 8 9).getD 0 0)) (bY 2048 U N ag d i o))):=by kernel_rfl
theorem Vs:cR (bh aT (m+2)) aP yk [.ref 0] (bY 34525 U N ag d i o) (dV (bY 34525 U N ag d i o) K)=
 ao (ltI d.length 8) (K (.int 0) (bY 34525 U N ag d i o)) (cY (0<(ch d 7 8).length) (K (.int ((ch d 7 8).getD 0 0)) (bY 34525 U N ag d i o))):=by kernel_rfl
end
theorem pc {a b:Int}(h:b≤a):ltI a b=false:=by rw[jq,decide_eq_false_iff_not];lia
theorem rR {a b:Int}(h:a<b):ltI a b=true:=by rw[jq,decide_eq_true_iff];exact h
theorem Mm {a b:Int}(h:b<a):b9 a b=false:=by rw[i2,decide_eq_false_iff_not];lia
theorem qA {a b:Int}(h:a≤b):b9 a b=true:=by rw[i2,decide_eq_true_iff];exact h
theorem wH {a b:Int}(h:b9 a b=true):a≤b:=by rwa [i2,decide_eq_true_iff] at h
theorem pd {a b:Int}(h:ltI a b=true):a<b:=by rwa [jq,decide_eq_true_iff] at h
theorem EF {a b:Int}(h:ltI a b=false):b≤a:=by rw[jq,decide_eq_false_iff_not] at h;lia
theorem EE {a b:Int}(h:b9 a b=false):b<a:=by rw[i2,decide_eq_false_iff_not] at h;lia
theorem jl {c:Prop}[Decidable c]{P:Prop}(h:c)(p:Ev P):Ev (cY c P):=⟨iU h p.out⟩
theorem ada (m:Nat):fD (bh aT (m+2)) aP FH yk:=uk fun T U N ag d i o K hd h=>by
 unfold PF at h;refine b7 (gF h) fun e h=>?_;rcases jO e with e|e<;>(refine b4 e fun aW aJ=>?_;rw[of_decide_eq_true aW] at h⊢;have aJ:=d4 aJ)
 .refine aK Vr (ec (pc (by lia)) (jl (by rw[ox];lia) ?_));rw[Fh _ _ _ _ (by decide)];exact h
 .refine aK Vs (ec (pc (by lia)) (jl (by rw[ox];lia) ?_));rw[Fh _ _ _ _ (by decide)];exact h
section
variable {T U N ag i o:Int}{d:List Int}
theorem U5:cR (bh aT (m+3)) aP yd [.ref 0] (bY 2048 U N ag d i o) (dV (bY 2048 U N ag d i o) K)=
 ao (ltI d.length 8) (ao (decide (N=20)) (K (.bool false) (bY 2048 U N ag d i o)) (K (.bool (decide (N=20))) (bY 2048 U N ag d i o)))
  (ao (decide (N=20)) (ao (dg (ch d 6 8).length 20) (K (.bool (decide (Builtin.bitAnd (cO (ch d 6 8)) 16383=0))) (bY 2048 U N ag d i o)) False) (K (.bool (decide (N=20))) (bY 2048 U N ag d i o))):=by kernel_rfl
theorem U6:cR (bh aT (m+3)) aP yd [.ref 0] (bY 34525 U N ag d i o) (dV (bY 34525 U N ag d i o) K)=
 ao (decide True) (K (.bool (decide (N=40))) (bY 34525 U N ag d i o)) False:=by kernel_rfl
end
theorem acV (m:Nat):fD (bh aT (m+3)) aP Ft yd:=uk fun T U N ag d i o K hd h=>by
 unfold NY at h;refine b7 (gF h) fun e h=>?_;rcases jO e with e|e<;>(refine b4 e fun aW aJ=>?_;rw[of_decide_eq_true aW] at h⊢;have aJ:=d4 aJ)
 .change Ev (K (.bool (decide (N=20)&&decide (Builtin.bitAnd (cO (ch d 6 8)) 16383=0))) _) at h;refine aK U5 (ec (pc (by lia)) (dO (fun cI=>?_) fun cI=>?_))
  .rw[cI,ny] at h;exact cv (lX.mpr (by rw[ox];lia)) h
  .rw[cI,oJ] at h;rw[cI];exact h
 .exact aK U6 (cv rfl h)
noncomputable def cD (n:Bool):Int:=match n with|true=>2048|false=>34525
noncomputable def cy (b:Bool):Int:=match b with|true=>2|false=>10
noncomputable def aZ (b:Bool):Int:=match b with|true=>6|false=>17
@[elab_as_elim] theorem wG {aA:Int→Prop}{U:Int}(h:(decide (U=6)||decide (U=17))=true)(k:∀b,aA (aZ b)):aA U:=(jO h).elim (fun g=>of_decide_eq_true g▸k true) fun g=>of_decide_eq_true g▸k false
@[elab_as_elim] theorem DY {aA:Int→Prop}{T:Int}(h:(decide (T=2048)||decide (T=34525))=true)(k:∀n,aA (cD n)):aA T:=(jO h).elim (fun g=>of_decide_eq_true g▸k true) fun g=>of_decide_eq_true g▸k false
@[elab_as_elim] theorem Ey {aA:Int→Prop}{n:Int}(h:(decide (n=2)||decide (n=10))=true)(k:∀b,aA (cy b)):aA n:=(jO h).elim (fun g=>of_decide_eq_true g▸k true) fun g=>of_decide_eq_true g▸k false
theorem agg (x:Int)(k:Nat):(x+k).toNat-x.toNat≤k:=match x with
 |.ofNat a=>sI (sG ..)
 |.negSucc a=>Int.toNat_le.mpr (q2 (Int.add_le_add_right (oK (Gx a)) k) (Int.le_of_eq (Bp _)))
theorem OV (d:List Int)(x:Int)(k:Nat):(ch d x.toNat (x+k).toNat).length≤k:=by rw[ox];exact e3 (Qt (GD _ _) _) (agg x k)
theorem AL (d:List Int)(a k:Nat):(ch d a (a+k)).length≤k:=by rw[ox];exact e3 (Qt (GD _ _) _) (sI (sG ..))
theorem EN {x y:Int}(bl:0≤x)(R:x≤y)(Z:y<65540):(gw (E x)&&gw (E y))=true:=by rw[pk bl (Bn R Z),pk (q2 bl R) Z];rfl
section
variable {T U N ag i o:Int}{d:List Int}
def JF (T U N ag:Int)(d:List Int)(i o:Int)(K:bI):Prop:=ao (ltI N 0) (K (.int (-1)) (bY T U N ag d i o)) (ao (ltI d.length (N+13+1)) (K (.int (-1)) (bY T U N ag d i o))
 (ao (gw (E (N+13))&&gw (E (N+13+1))) (cY (0<(ch d (N+13).toNat (N+13+1).toNat).length) (K (.int ((ch d (N+13).toNat (N+13+1).toNat).getD 0 0)) (bY T U N ag d i o))) False))
theorem UQ:cR (bh aT (m+2)) aP BP [.ref 0] (bY T U N ag d i o) (dV (bY T U N ag d i o) K)=JF T U N ag d i o K:=by kernel_rfl
theorem VZ {a:Nat}(R:(a:Int)<1000)(h:Ev (K (.int (gc a d)) (bY T U a ag d i o))):Ev (JF T U a ag d i o K):=by
 unfold gc at h;refine ec (pc (lh _)) (dO (fun e=>?_) fun e=>?_)
 .rw[e] at h;exact h
 .rw[e] at h;refine cv (EN (lh (a+13)) (oK (Int.lt_succ _)) (ko (xJ (xJ R 13) 1) (by decide))) (jl (?_:0<(ch d (a+13) (a+13+1)).length) (?_:Ev (K (.int ((ch d (a+13) (a+13+1)).getD 0 0)) _)))
  .rw[ox,q4 ((lj (m:=a+13+1)).mp (EF e)),sG];exact Nat.one_pos
  .rw[Fh d (a+13) (a+13+1) 0 (jx _)];exact h
end
theorem acQ (m:Nat):fD (bh aT (m+2)) aP Fn BP:=uk fun T U N ag d i o K hd h=>
 b7 (gF h) fun e h=>b4 e fun aW aJ=>aK UQ (by obtain⟨a,rfl⟩:=jV (wH aW);exact VZ (pd aJ) h)
section
variable {T U N ag i o:Int}{d:List Int}
def F7 (eP fR:List Int)(T U N ag:Int)(d:List Int)(i o:Int)(K:bI):Prop:=ao (ltI N 0) (K .none (bY T U N ag d i o)) (ao (ltI d.length (N+4)) (K .none (bY T U N ag d i o))
 (ao (gw (E N)&&gw (E (N+2))) (ao (dg (ow d N).length 20) (ao (gw (E (N+2))&&gw (E (N+4))) (ao (dg (ch d (N+2).toNat (N+4).toNat).length 20)
  (ao (dg eP.length 20) (ao (dg fR.length 20) (K (.tup [.int (match decide (T=2048) with|true=>2|false=>10),.int U,.int (cO eP),.int (cO (ow d N)),.int (cO fR),.int (cO (ch d (N+2).toNat (N+4).toNat))]) (bY T U N ag d i o)) False) False) False) False) False) False))
theorem Vt:∀n b:Bool,cR (bh aT (m+4)) aP BW [.ref 0] (bY (cD n) (aZ b) N ag d i o) (dV (bY (cD n) (aZ b) N ag d i o) K)=F7 (yB (cD n) d) (yC (cD n) d) (cD n) (aZ b) N ag d i o K:=all2 (by kernel_rfl)
theorem aeE (d:List Int)(N:Int):ch d (N+2).toNat (N+4).toNat=ow d (N+2):=by unfold ow;rw[Gr];rfl
theorem Il (n:Bool)(d:List Int):(yB (cD n) d).length≤20∧(yC (cD n) d).length≤20:=by
 cases n
 .exact⟨e3 (AL d 8 16) (by decide),e3 (AL d 24 16) (by decide)⟩
 .exact⟨e3 (AL d 12 4) (by decide),e3 (AL d 16 4) (by decide)⟩
theorem ags (eP fR:List Int)(h:ltI N 0=false)(g:(b9 (N+4) d.length&&ltI N 1000)=true)(R:eP.length≤20)(Z:fR.length≤20)
 (k:Ev (K (.tup [.int (match decide (T=2048) with|true=>2|false=>10),.int U,.int (cO eP),.int (cO (ow d N)),.int (cO fR),.int (cO (ow d (N+2)))]) (bY T U N ag d i o))):Ev (F7 eP fR T U N ag d i o K):=by
 unfold F7;rw[aeE];have bL:=pd (l8 g).2;have dw:=EF h;exact ec h (ec (pc (wH (l8 g).1)) (cv (EN dw (Qn (by decide)) (ko (xJ bL 2) (by decide))) (cv (lX.mpr (e3 (OV d N 2) (by decide))) (cv (EN (Gs dw (by decide)) (Int.add_le_add_left (by decide) N) (ko (xJ bL 4) (by decide)))
  (cv (lX.mpr (e3 (OV d (N+2) 2) (by decide))) (cv (lX.mpr R) (cv (lX.mpr Z) k)))))))
end
theorem adb (m:Nat):fD (bh aT (m+4)) aP FI BW:=uk fun T U N ag d i o K hd h=>by
 refine b7 (gF h) fun e h=>b4 e fun aW aJ=>?_;clear e;revert h;refine wG aW fun b=>DY aJ fun n h=>aK (Vt n b) ?_;cases eT:ltI N 0 with
 |true=>exact cv eT (jm eT h)
 |false=>exact b7 (gF (iZ eT h)) fun g h=>ags _ _ eT g (Il n d).1 (Il n d).2 h
section
variable {T U N ag i o:Int}{d:List Int}
theorem UM:∀n b:Bool,cR (bh aT (m+3)) aP BR [.ref 0] (bY (cD n) (aZ b) N ag d i o) (dV (bY (cD n) (aZ b) N ag d i o) K)=K (.bool false) (bY (cD n) (aZ b) N ag d i o):=all2 (by kernel_rfl)
def Jb (pos:Int)(t:Int)(T U N ag:Int)(d:List Int)(i o:Int)(K:bI):Prop:=
 ao (b9 t 1) (K (.bool false) (bY T U N ag d i o)) (ao (o9 [t-1]) (ao (gf T U N im pos 1 d) (K (.bool true) (bY T U N ag (dy T U N (e0 (d.getD 0 0)) false pos [t-1] d) i o)) False) False)
theorem UJ:∀n:Bool,cR (bh aT (m+5)) aP BO [.ref 0] (bY (cD n) U N ag d i o) (dV (bY (cD n) U N ag d i o) K)=ao (hc (cD n) d 9 8) (Jb (nr (cD n)) (i9 (cD n) d) (cD n) U N ag d i o K) False:=all1 (by kernel_rfl)
theorem TG (pos t:Int)(cW:t<256)(h:Ev (ao (b9 t 1) (K (.bool false) (bY T U N ag d i o)) (ao (gf T U N im pos 1 d) (K (.bool true) (bY T U N ag (dy T U N (e0 (d.getD 0 0)) false pos [t-1] d) i o)) False))):Ev (Jb pos t T U N ag d i o K):=by refine dO (fun e=>jm e h) fun e=>cv (DR fun x aS=>?_) (iZ e h);rw[List.mem_singleton.mp aS];exact⟨Qo (ko (by decide) (EE e)),Bn (Int.sub_le_self _ (by decide)) cW⟩
end
theorem acU (m:Nat):fD (bh aT (m+3)) aP Fs BR:=uk fun T U N ag d i o K hd h=>by refine b7 (gF h) fun e h=>b4 e fun aW aJ=>?_;clear e;revert h;exact wG aW fun b=>DY aJ fun n=>aK (UM n b)
theorem Wu {d:List Int}(h:ef d)(k:Nat):d.getD k 0<256:=(getD_in h k).2
theorem KY {T:Int}{d:List Int}(h:hc T d n m=true):(decide (T=2048)||decide (T=34525))=true:=by
 unfold hc at h;rcases jO h with h|h
 .rw[(l8 h).1];rfl
 .rw[(l8 h).1,xH]
theorem acO (m:Nat):fD (bh aT (m+5)) aP Fl BO:=uk fun T U N ag d i o K hd h=>by refine b7 (gF h) fun e h=>?_;have g:=KY e;revert h e;exact DY g fun n e h=>aK (UJ n) (cv e (TG _ _ (Wu hd _) h))
section
variable {ag i o a b e:Int}{N:Int}{d:List Int}
def ot (T U N ag:Int)(d:List Int)(i o:Int)(af:Bool)(a p:Int)(K:bI):Prop:=
 ao (b9 0 a&&decide (a<256^w8 T)) (ao (gf T U N im (h5 T af) (w8 T) d) (ao (b9 0 p&&decide (p<256^2))
  (ao (decide (N= -1)) (K .none (bY T U N ag (hE T U N af a d) i o)) (ao (gf T U N jK (iN af) 2 (hE T U N af a d))
   (K .none (bY T U N ag (ui T U N (e0 ((hE T U N af a d).getD 0 0)) true (iN af) (bf p 2) (hE T U N af a d)) i o)) False)) False) False) False
theorem Ve:cR (bh aT (m+6)) aP mQ [.ref 0,.tup [.int 2,.int 6,.int a,.int b,.int c,.int e],.str rN] (bY 2048 6 N ag d i o) (dV (bY 2048 6 N ag d i o) K)=ot 2048 6 N ag d i o true a b K:=by kernel_rfl
theorem Vd:cR (bh aT (m+6)) aP mQ [.ref 0,.tup [.int 2,.int 6,.int a,.int b,.int c,.int e],.str tO] (bY 2048 6 N ag d i o) (dV (bY 2048 6 N ag d i o) K)=ot 2048 6 N ag d i o false c e K:=by kernel_rfl
theorem Vg:cR (bh aT (m+6)) aP mQ [.ref 0,.tup [.int 2,.int 17,.int a,.int b,.int c,.int e],.str rN] (bY 2048 17 N ag d i o) (dV (bY 2048 17 N ag d i o) K)=ot 2048 17 N ag d i o true a b K:=by kernel_rfl
theorem Vf:cR (bh aT (m+6)) aP mQ [.ref 0,.tup [.int 2,.int 17,.int a,.int b,.int c,.int e],.str tO] (bY 2048 17 N ag d i o) (dV (bY 2048 17 N ag d i o) K)=ot 2048 17 N ag d i o false c e K:=by kernel_rfl
theorem Vi:cR (bh aT (m+6)) aP mQ [.ref 0,.tup [.int 10,.int 6,.int a,.int b,.int c,.int e],.str rN] (bY 34525 6 N ag d i o) (dV (bY 34525 6 N ag d i o) K)=ot 34525 6 N ag d i o true a b K:=by kernel_rfl
theorem Vh:cR (bh aT (m+6)) aP mQ [.ref 0,.tup [.int 10,.int 6,.int a,.int b,.int c,.int e],.str tO] (bY 34525 6 N ag d i o) (dV (bY 34525 6 N ag d i o) K)=ot 34525 6 N ag d i o false c e K:=by kernel_rfl
theorem Vk:cR (bh aT (m+6)) aP mQ [.ref 0,.tup [.int 10,.int 17,.int a,.int b,.int c,.int e],.str rN] (bY 34525 17 N ag d i o) (dV (bY 34525 17 N ag d i o) K)=ot 34525 17 N ag d i o true a b K:=by kernel_rfl
theorem Vj:cR (bh aT (m+6)) aP mQ [.ref 0,.tup [.int 10,.int 17,.int a,.int b,.int c,.int e],.str tO] (bY 34525 17 N ag d i o) (dV (bY 34525 17 N ag d i o) K)=ot 34525 17 N ag d i o false c e K:=by kernel_rfl
theorem qQ {T U p:Int}(g:se T U N af a p d=true)(k:Ev (K .none (bY T U N ag (kL T U N af p (hE T U N af a d)) i o))):Ev (ot T U N ag d i o af a p K):=by
 unfold se at g;refine b4 g fun g1 g=>?_;refine b4 g fun bL g=>?_;refine b4 g fun g3 ek=>?_;unfold ot;refine cv g1 (cv g3 (cv bL (dO (fun e=>?_) fun e=>?_)))
 .unfold kL at k;rw[e] at k;exact k
 .rw[e,Bool.false_or] at ek;unfold kL at k;rw[e] at k;exact cv ek k
end
theorem ac7 (m:Nat):fD (bh aT (m+6)) aP FF mQ:=m0 fun(a:Unit×(Int×Int×Int×Int×Int×Int×Unit)×Nat×Unit) (x:et) K fA fW bC=>by
 have key:∀(T U N ag:Int) (d:List Int) (i o nf pr sa bD da dp:Int) (s:Nat),Ev (ao (c1 s rN) (um T U N ag d i o nf pr true sa bD K) (ao (c1 s tO) (um T U N ag d i o nf pr false da dp K) False))→
  Ev (cR (bh aT (m+6)) aP mQ [.ref 0,.tup [.int nf,.int pr,.int sa,.int bD,.int da,.int dp],.str s] (bY T U N ag d i o) (dV (bY T U N ag d i o) K)):=fun T U N ag d i o nf pr sa bD da dp s h=>by
  cases e:c1 s rN with
  |true=>
   have h:=jm e h;rw[fO e];unfold um at h;refine b7 (gF h) fun g h=>?_;refine b7 (gF h) fun fl h=>?_;refine b4 g fun g1 bL=>?_;refine b4 bL fun bL g3=>?_;rw[of_decide_eq_true bL];rcases jO g1 with g1|g1<;>(have ek:=of_decide_eq_true (l8 g1).1;have ht:=of_decide_eq_true (l8 g1).2;rcases jO g3 with g3|g3<;>(have g3:=of_decide_eq_true g3;rw[ek,g3] at h fl⊢;rw[ht]))
   .exact aK Ve (qQ fl h)
   .exact aK Vg (qQ fl h)
   .exact aK Vi (qQ fl h)
   .exact aK Vk (qQ fl h)
  |false=>
   refine b7 (gF (iZ e h)) fun e h=>?_;rw[fO e];unfold um at h;refine b7 (gF h) fun g h=>?_;refine b7 (gF h) fun fl h=>?_;refine b4 g fun g1 bL=>?_;refine b4 bL fun bL g3=>?_;rw[of_decide_eq_true bL];rcases jO g1 with g1|g1<;>(have ek:=of_decide_eq_true (l8 g1).1;have ht:=of_decide_eq_true (l8 g1).2;rcases jO g3 with g3|g3<;>(have g3:=of_decide_eq_true g3;rw[ek,g3] at h fl⊢;rw[ht]))
   .exact aK Vd (qQ fl h)
   .exact aK Vf (qQ fl h)
   .exact aK Vh (qQ fl h)
   .exact aK Vj (qQ fl h)
 exact aK (by kernel_rfl) (key (et.kind x) (et.U x) (et.off x) (et.place x) (et.d x) (et.i x) (et.o x) a.2.1.1 a.2.1.2.1 a.2.1.2.2.1 a.2.1.2.2.2.1 a.2.1.2.2.2.2.1 a.2.1.2.2.2.2.2.1 a.2.2.1 (aK (by kernel_rfl) bC))
def upd {a4:Type}(g:Nat→a4)(i:Nat)(x:a4)(j:Nat):a4:=match c1 i j with|true=>x|false=>g j
noncomputable def gr (n:Nat)(g:Nat→Int)(d9:List Int):List Int:=(List.range n).map g++d9
theorem sz {a4:Type}{g:Nat→a4}{i:Nat}{x:a4}(h:g i=x):upd g i x=g:=by
 funext j;unfold upd;cases e:c1 i j with
 |true=>rw[←h,fO e]
 |false=>rfl
theorem Co {d:List Int}(h:n≤d.length):d=gr n (fun i=>d.getD i 0) (d.drop n):=by
 unfold gr;have e:(List.range n).map (fun i=>d.getD i 0)=d.take n:=by rw[Cv (l:=d.take n) (n:=n) (by rw[List.length_take];lia)];refine List.map_congr_left fun i hi=>?_;have:=List.mem_range.mp hi;rw[List.getD_eq_getElem?_getD,List.getD_eq_getElem?_getD,List.getElem?_take_of_lt this]
 rw[e,List.take_append_drop]
section
variable {g:Nat→Int}{d9:List Int}
theorem U9:cR (bh aT (m+5)) aP oQ [.bytes (gr 20 (upd g 0 69) d9),.int 2048] [] (dV [] K)=
 ao (decide (k4 (gr 20 (upd g 0 69) d9)=0)) (K (.ref 0) (bY 2048 ((gr 20 (upd g 0 69) d9).getD 9 0) 20 (k4 (gr 20 (upd g 0 69) d9)) (gr 20 (upd g 0 69) d9) 0 0))
  (K (.ref 0) (bY 2048 ((gr 20 (upd g 0 69) d9).getD 9 0) (-1) (k4 (gr 20 (upd g 0 69) d9)) (gr 20 (upd g 0 69) d9) 0 0)):=by kernel_rfl
theorem Va:cR (bh aT (m+5)) aP oQ [.bytes (gr 24 (upd g 0 70) d9),.int 2048] [] (dV [] K)=
 ao (decide (k4 (gr 24 (upd g 0 70) d9)=0)) (K (.ref 0) (bY 2048 ((gr 24 (upd g 0 70) d9).getD 9 0) 24 (k4 (gr 24 (upd g 0 70) d9)) (gr 24 (upd g 0 70) d9) 0 0))
  (K (.ref 0) (bY 2048 ((gr 24 (upd g 0 70) d9).getD 9 0) (-1) (k4 (gr 24 (upd g 0 70) d9)) (gr 24 (upd g 0 70) d9) 0 0)):=by kernel_rfl
theorem U8:cR (bh aT (m+5)) aP oQ [.bytes (gr 40 (upd (upd g 0 96) 6 6) d9),.int 34525] [] (dV [] K)=K (.ref 0) (bY 34525 6 40 0 (gr 40 (upd (upd g 0 96) 6 6) d9) 0 0):=by kernel_rfl
theorem U7:cR (bh aT (m+5)) aP oQ [.bytes (gr 40 (upd (upd g 0 96) 6 17) d9),.int 34525] [] (dV [] K)=K (.ref 0) (bY 34525 17 40 0 (gr 40 (upd (upd g 0 96) 6 17) d9) 0 0):=by kernel_rfl
theorem Vc:cR (bh aT (m+5)) aP oQ [.bytes (gr 48 (upd (upd (upd (upd g 0 96) 6 60) 41 0) 40 6) d9),.int 34525] [] (dV [] K)=K (.ref 0) (bY 34525 6 48 0 (gr 48 (upd (upd (upd (upd g 0 96) 6 60) 41 0) 40 6) d9) 0 0):=by kernel_rfl
theorem Vb:cR (bh aT (m+5)) aP oQ [.bytes (gr 48 (upd (upd (upd (upd g 0 96) 6 60) 41 0) 40 17) d9),.int 34525] [] (dV [] K)=K (.ref 0) (bY 34525 17 48 0 (gr 48 (upd (upd (upd (upd g 0 96) 6 60) 41 0) 40 17) d9) 0 0):=by kernel_rfl
theorem JC {d:List Int}{a:Nat}{x:Int}(h:n≤d.length)(bl:d.getD a 0=x):∃g,∃d9,d=gr n (upd g a x) d9:=⟨_,_,by rw[sz (g:=fun i=>d.getD i 0) bl];exact Co h⟩
theorem VK {d:List Int}{a b:Nat}{x y:Int}(h:n≤d.length)(bl:d.getD a 0=x)(R:d.getD b 0=y):∃g,∃d9,d=gr n (upd (upd g a x) b y) d9:=⟨_,_,by rw[sz (g:=fun i=>d.getD i 0) bl,sz (g:=fun i=>d.getD i 0) R];exact Co h⟩
theorem VL {d:List Int}{a b c e:Nat}{x y z w:Int}(h:n≤d.length)(bl:d.getD a 0=x)(R:d.getD b 0=y)(Z:d.getD c 0=z)(bv:d.getD e 0=w):∃g,∃d9,d=gr n (upd (upd (upd (upd g a x) b y) c z) e w) d9:=⟨_,_,by rw[sz (g:=fun i=>d.getD i 0) bl,sz (g:=fun i=>d.getD i 0) R,sz (g:=fun i=>d.getD i 0) Z,sz (g:=fun i=>d.getD i 0) bv];exact Co h⟩
theorem NB {d:List Int}{n:Int}(e:decide (k4 d=0)=true):og n d=n:=by unfold og;rw[e]
theorem NA {d:List Int}{n:Int}(e:decide (k4 d=0)=false):og n d= -1:=by unfold og;rw[e]
end
theorem ac4 (m:Nat):fD (bh aT (m+5)) aP FD oQ:=m0 fun(a:List Int×Int×Unit) (x:Unit) K fA fW bC=>by
 have key:∀(d:List Int) (T:Int),Ev (EV d T K)→Ev (cR (bh aT (m+5)) aP oQ [.bytes d,.int T] [] (dV [] K)):=fun d T h=>by
  unfold EV at h;cases e:decide (T=2048) with
  |true=>
   have h:=jm e h;rw[of_decide_eq_true e];cases aJ:(dg 20 d.length&&decide (d.getD 0 0=69)) with
   |true=>have h:=jm aJ h;refine b4 aJ fun g1 bL=>?_;refine dB (JC (d4 g1) (of_decide_eq_true bL)) fun g d9 hL=>?_;rw[hL] at h⊢;exact aK U9 (dO (fun cI=>by rw[NB cI] at h;exact h) fun cI=>by rw[NA cI] at h;exact h)
   |false=>refine b7 (gF (iZ aJ h)) fun aJ h=>?_;refine b4 aJ fun g1 bL=>?_;refine dB (JC (d4 g1) (of_decide_eq_true bL)) fun g d9 hL=>?_;rw[hL] at h⊢;exact aK Va (dO (fun cI=>by rw[NB cI] at h;exact h) fun cI=>by rw[NA cI] at h;exact h)
  |false=>
   refine b7 (gF (iZ e h)) fun aW h=>?_;refine b4 aW fun dw g1=>?_;refine b4 g1 fun g1 bL=>?_;rw[of_decide_eq_true dw];have g1:=d4 g1;have bL:=of_decide_eq_true bL;cases aJ:iz (d.getD 6 0) with
   |true=>
    have h:=jm aJ h;rcases jO aJ with g3|g3<;>(have g3:=of_decide_eq_true g3;refine dB (VK g1 bL g3) fun g d9 hL=>?_;rw[g3] at h;rw[hL] at h⊢)
    .exact aK U8 h
    .exact aK U7 h
   |false=>
    refine b7 (gF (iZ aJ h)) fun cI h=>?_;refine b4 cI fun g3 ek=>?_;refine b4 ek fun ek ht=>?_;refine b4 ht fun ht nZ=>?_;have g3:=of_decide_eq_true g3;have ek:=d4 ek;have ht:=of_decide_eq_true ht;rcases jO nZ with nZ|nZ<;>(have nZ:=of_decide_eq_true nZ;refine dB (VL ek bL g3 ht nZ) fun g d9 hL=>?_;rw[nZ] at h;rw[hL] at h⊢)
    .exact aK Vc h
    .exact aK Vb h
 exact aK (by kernel_rfl) (key a.1 a.2.1 (aK (by kernel_rfl) bC))
section
variable {sa da:Int}
theorem eq_inv:∀n b:Bool,cR (bh aT (m+1)) aP yc [.tup [.int (cy n),.int (aZ b),.int sa,.int bD,.int da,.int dp]] [] (dV [] K)=K (.tup [.int (cy n),.int (aZ b),.int da,.int dp,.int sa,.int bD]) []:=all2 (by kernel_rfl)
theorem Yk (pr:Int)(h:Ev (KE nf pr sa bD da dp K)):
 Ev (cR (bh aT (m+1)) aP yc [.tup [.int nf,.int pr,.int sa,.int bD,.int da,.int dp]] [] (dV [] K)):=by
 refine b7 (gF h) fun e h=>b4 e fun aW aJ=>?_;clear e;revert h;exact wG aW fun b=>Ey aJ fun n=>aK (eq_inv n b)
end
theorem acT (m:Nat):fD (bh aT (m+1)) aP Fq yc:=m0 fun(a:ej×Unit) (x:Unit) K fA fW bC=>
 aK (by kernel_rfl) (Yk (m:=m) (K:=K) (nf:=a.1.1) (sa:=a.1.2.2.1) (bD:=a.1.2.2.2.1) (da:=a.1.2.2.2.2.1) (dp:=a.1.2.2.2.2.2.1) a.1.2.1 (aK (by kernel_rfl) bC))
noncomputable def Dx:fe:=.cons (.iff (.cmp .Eq (.sub (.sub (.attr (.loc 0) 32382534832) (.loc 2)) (.int 0)) (.attr (.loc 1) 4136611441551)) (.cons (.ret (.bool true)) .nil) .nil) .nil
section
variable {t:Nat}{x:er}{cX:V}{K:dK}
def wa (t:Nat)(x:er)(aD:List V)(K:dK):Option V→Prop:=fun r=>k3 r fun w=>xj w (.int 0) (dz 0 x) fun a bp=>rh (.ref t) 4136611441551 bp fun b=>tk .Eq a b bp fun c=>
 ao c (K (.ret (.bool true)) [.ref 0,.ref t,.tup aD] bp) (K .next [.ref 0,.ref t,.tup aD] bp)
theorem Xm:b3 C aP Dx ([.ref 0,.ref t,cX].set 2 (.tup aD)) (dz 0 x) K=jJ (.tup aD) x.aH (wa t x aD K):=by kernel_rfl
theorem Xn {a b:Int}:wa 4 x aD K (E (.tup [.int a,.int b,.int c]))=ao (decide (a=1)) (K (.ret (.bool true)) [.ref 0,.ref 4,.tup aD] (dz 0 x)) (K .next [.ref 0,.ref 4,.tup aD] (dz 0 x)):=by kernel_rfl
theorem Xo {a b:Int}:wa 6 x aD K (E (.tup [.int a,.int b,.int c]))=ao (decide (a=2)) (K (.ret (.bool true)) [.ref 0,.ref 6,.tup aD] (dz 0 x)) (K .next [.ref 0,.ref 6,.tup aD] (dz 0 x)):=by kernel_rfl
def Xj (C:hT)(t:Nat)(x:er)(K:bI):Prop:=ix 11 (fun v loc H K=>b3 C aP Dx (loc.set 2 v) H K) (hk (.ref 10) (x.aH.map (·.1)) (dz 0 x)) ((x.aH.map (·.1)).length+1) 0 (x.aH.map (·.1)) [.ref 0,.ref t,.aR] (dz 0 x)
 (gh (b3 C aP (.cons (.ret (.bool false)) .nil)) (e1 K))
theorem Xk {K:bI}:cR C aP vf [.ref 0,.ref t] (dz 0 x) K=Xj C t x K:=by kernel_rfl
inductive ym (t:Nat)(x:er)(n:Int)(i:Nat):List V→List an→Prop
 |mk (cX:V):vY (x.aH.take i) n=false→ym t x n i [.ref 0,.ref t,cX] (dz 0 x)
inductive BY (x:er)(n:Int):V→List V→List an→Prop
 |mk (loc:List V):vY x.aH n=true→BY x n (.bool true) loc (dz 0 x)
theorem Xl {n:Int}(g:pn x.aH=true)(eS:(∀e∈x.aH,bT 4 e.1=true)∧eD x.aH)(co:∀aD K a b c,wa t x aD K (E (.tup [.int a,.int b,.int c]))=ao (decide (a=n)) (K (.ret (.bool true)) [.ref 0,.ref t,.tup aD] (dz 0 x)) (K .next [.ref 0,.ref t,.tup aD] (dz 0 x)))
 {i:Nat}(e:(x.aH.map (·.1))[i]? =E v)(ab:ym t x n i loc H)(lG:∀loc H,ym t x n (i+1) loc H→Ev (K .next loc H))(wF:∀r loc H,BY x n r loc H→Ev (K (.ret r) loc H)):Ev (b3 C aP Dx (loc.set 2 v) H K):=by
 induction ab with
 |mk cX hf=>rw[List.getElem?_map] at e;refine eB e fun p ep=>?_;have hm:=List.mem_of_getElem? ep;refine lu (Ar (List.all_eq_true.mp g p hm)) fun aD a b c eG=>?_;rw[eG] at ep hm⊢;refine aK Xm (JQ eS.2 eS.1 hm (aK (co _ _ _ _ _) (dO (fun q=>wF _ _ _ (.mk _ (List.any_eq_true.mpr ⟨_,hm,q⟩))) fun q=>lG _ _ (.mk _ ?_))));unfold vY at hf⊢;rw[List.take_add_one,ep,List.any_append,hf];refine(?_:(false||(decide (a=n)||false))=false);rw[q];rfl
theorem Ke {n:Int}{K:bI}(cW:kH (fun l=>d3 l 11) (.ref t)=true)(eS:(∀e∈x.aH,bT 4 e.1=true)∧eD x.aH)(co:∀aD K a b c,wa t x aD K (E (.tup [.int a,.int b,.int c]))=ao (decide (a=n)) (K (.ret (.bool true)) [.ref 0,.ref t,.tup aD] (dz 0 x)) (K .next [.ref 0,.ref t,.tup aD] (dz 0 x)))
 (h:Ev (wb n x K)):Ev (cR C aP vf [.ref 0,.ref t] (dz 0 x) K):=by
 have h:Ev (ao (pn x.aH) (K (.bool (vY x.aH n)) (dz 0 x)) False):=aK (by kernel_rfl) h;refine b7 (gF h) fun g h=>aK Xk ?_;refine C6 (ym t x n) (BY x n) (fun i v loc H e ab hs lG wF=>Xl g eS co e ab lG wF) (fun i loc H ab P a8=>?_) (fun i loc H ab P a8=>?_) (fun loc H ab=>?_) (fun r loc H ak=>?_) _ 0 _ _ (.mk .aR rfl) (jy _) (jx _)
 .induction ab with
  |mk cX hf=>
   unfold trunc
   split
   .have:kz 11 (.ref t)=.ref t:=by unfold kz;rw[cW]
    refine aK (B:=P [.ref 0,.ref t,kz 11 cX] (dz 0 x)) ?_ (a8 _ _ (.mk _ hf));refine(?_:P [kz 11 (.ref 0),kz 11 (.ref t),kz 11 cX] _=_);rw[this];rfl
   .exact a8 _ _ (.mk _ hf)
 .induction ab with
  |mk cX hf=>exact aK (B:=ao (c1 x.fn x.fn&&c1 x.aH.length x.aH.length) (P (x.aH.map (·.1))) False) (by kernel_rfl) (cv (by simp) a8)
 .induction ab with
  |mk cX hf=>rw[List.length_map,List.take_length] at hf;rw[hf] at h;exact aK (by kernel_rfl) h
 .induction ak with
  |mk loc q=>rw[q] at h;exact aK (by kernel_rfl) h
end
theorem P6 {x:er}(fA:∀o∈dz 0 x,pH o):(∀e∈x.aH,bT 4 e.1=true)∧eD x.aH:=fA (.dict x.aH x.fn) (.tail _ (.tail _ (.tail _ (.tail _ (.tail _ (.tail _ (.tail _ (.tail _ (.tail _ (.tail _ (.head _)))))))))))
theorem acS:fD C aP Fp vf:=Zk fun(a:Unit×Nat×Unit) (x:er) K fA fW bC=>by
 have h:Ev (ao (c1 a.2.1 4) (wb 1 x K) (ao (c1 a.2.1 6) (wb 2 x K) False)):=aK (by kernel_rfl) bC;have eS:=P6 fA;refine aK (B:=cR C aP vf [.ref 0,.ref a.2.1] (dz 0 x) K) (by kernel_rfl) ?_;cases e:c1 a.2.1 4 with
 |true=>rw[fO e];exact Ke rfl eS (fun _ _ _ _ _=>Xn) (jm e h)
 |false=>refine b7 (gF (iZ e h)) fun e h=>?_;rw[fO e];exact Ke rfl eS (fun _ _ _ _ _=>Xo) h
theorem Md {a b:V}(h:bn n a b=false):bn n b a=false:=by
 cases q:bn n b a with
 |false=>rfl
 |true=>have e:=wE n _ _ q;subst e;rw[q] at h;exact j9 h
def i0 (es:List (V×V))(n:Int):List V:=(es.filter fun e=>decide (qM e.2=n)).map (·.1)
theorem yV:∀(aD:List V) (es:List (V×V)),aD.foldl nW es=es.filter fun e=>aD.all fun k=> !bn 4 e.1 k
 | [],es=>(List.filter_eq_self.mpr fun _ _=>rfl).symm
 |k::aD,es=>by rw[List.foldl_cons,yV aD];unfold nW;rw[List.filter_filter];exact List.filter_congr fun e _=>by rw[List.all_cons,Bool.and_comm]
theorem TA (hd:eD es){a b:V×V}(aC:a∈es)(az:b∈es):a=b∨bn 4 a.1 b.1=false:=by
 obtain⟨i,hi,j4⟩:=List.getElem_of_mem aC;obtain⟨j,cn,iw⟩:=List.getElem_of_mem az;have d8:=List.pairwise_iff_getElem.mp hd;rcases GC i j with c|c|c
 .right;have:=d8 i j hi cn c;rwa [j4,iw] at this
 .left;subst c;exact j4.symm.trans iw
 .right;have:=d8 j i cn hi c;rw[j4,iw] at this;exact Md this
theorem Tu (aB:∀e∈es,bT 4 e.1=true)(hd:eD es){n:Int}:(i0 es n).foldl nW es=hM es n:=by
 rw[yV];refine List.filter_congr fun e he=>?_;cases q:decide (qM e.2=n) with
 |true=>refine(?_:((i0 es n).all fun k=> !bn 4 e.1 k)=false);rw[List.all_eq_false];refine⟨e.1,List.mem_map.mpr ⟨e,List.mem_filter.mpr ⟨he,q⟩,rfl⟩,?_⟩;rw[rP 4 _ (aB e he)];decide
 |false=>
  refine(?_:((i0 es n).all fun k=> !bn 4 e.1 k)=true);rw[List.all_eq_true];intro k Xw;refine dm (List.mem_map.mp Xw) fun cL bS=>?_;refine b7 bS fun Du b8=>?_;clear bS;subst b8;refine b7 (List.mem_filter.mp Du) fun R Z=>?_;rcases TA hd he R with rfl|c
  .rw[q] at Z;exact dW Z
  .rw[c];rfl
theorem WE (hd:eD es)(n:Int):(i0 es n).Pairwise fun a b=>bn 4 a b=false:=by unfold i0;rw[List.pairwise_map];exact List.Pairwise.sublist List.filter_sublist hd
theorem S8 {a4:Type}{f:V→List an→(Option V→List an→Prop)→Prop}{st:List an→(List V→Prop)→Prop}{K:List V→List an→Prop}{es:List a4}{φ:a4→V}(g:a4→Option V)
 (step:∀e∈es,∀k:Option V→List an→Prop,Ev (k (g e) H)→Ev (f (φ e) H k))(hu:∀P:List V→Prop,Ev (P (es.map φ))→Ev (st H P))(fin:Ev (K (es.filterMap g) H)):
 ∀n i,i≤es.length→es.length<n+i→Ev (j3 f st n i (es.map φ) H ((es.take i).filterMap g) K):=fun n=>by
 induction n with
 |zero=>intro i R Z;omega
 |succ n aF=>
  intro i R Z;unfold j3;rw[List.getElem?_map];cases e:es[i]? with
  |none=>have:=List.getElem?_eq_none_iff.mp e;rw[List.take_of_length_le this];exact fin
  |some v=>
   refine step v (List.mem_of_getElem? e) _ (hu _ ?_);have:=(List.getElem?_eq_some_iff.mp e).1;have aJ:(match g v with|some x=>(es.take i).filterMap g++[x]|none=>(es.take i).filterMap g)=(es.take (i+1)).filterMap g:=by rw[List.take_add_one,e];cases q:g v<;>simp[q]
   refine(?_:Ev (j3 f st n (i+1) (es.map φ) H (match g v with|some x=>(es.take i).filterMap g++[x]|none=>(es.take i).filterMap g) K))
   rw[aJ];exact aF (i+1) (by omega) (by omega)
noncomputable def Fi {a4:Type}(b:Bool)(x:a4):Option a4:=match b with|true=>E x|false=>none
theorem WC {n:Int}:es.filterMap (fun e=>Fi (decide (qM e.2=n)) e.1)=i0 es n:=by
 unfold i0
 induction es with
 |nil=>rfl
 |cons e es aF=>
  rw[List.filterMap_cons,List.filter_cons];cases q:decide (qM e.2=n) with
  |true=>rw[if_pos rfl];exact congrArg (e.1:: ·) aF
  |false=>rw[if_neg (by decide)];exact aF
theorem NF {p:Nat→Bool}:pn es=true→pm p es=true:=by
 induction es with
 |nil=>exact fun _=>rfl
 |cons e es aF=>refine fun h=>b4 h fun R Z=>lu (Ar R) fun aD a b c eG=>?_;rw[eG];exact(ny _).trans (aF Z)
noncomputable def tq:fe:=.cons (.del (.attr (.loc 0) 32382534832) (.loc 2)) .nil
section
variable {n:Int}{x:er}{cX:V}{K:dK}
def Jh (n:Int)(x:er)(k:Option V→List an→Prop)(aD:List V):Option V→Prop:=fun r=>k3 r fun w=>xj w (.int 0) (dz 0 x) fun a bp=>tk .Eq a (.int n) bp fun c=>ao c (k (E (.tup aD)) bp) (k dk bp)
def Jk (C:hT)(n:Int):V→List an→(Option V→List an→Prop)→Prop:=fun v H k=>iO C aP ([.ref 0,.int n]++[v]) (.cmp .Eq (.sub (.sub (.attr (.loc 0) 32382534832) (.loc 2)) (.int 0)) (.loc 1)) (cF C aP ([.ref 0,.int n]++[v]) (.cmp .Eq (.sub (.sub (.attr (.loc 0) 32382534832) (.loc 2)) (.int 0)) (.loc 1))) H
 fun b be=>ao b (cF C aP ([.ref 0,.int n]++[v]) (.loc 2) be fun r ei=>k (E r) ei) (k dk be)
theorem Ue {k:Option V→List an→Prop}:Jk C n (.tup aD) (dz 0 x) k=jJ (.tup aD) x.aH (Jh n x k aD):=by kernel_rfl
theorem Ug {k:Option V→List an→Prop}{a b:Int}:Jh n x k aD (E (.tup [.int a,.int b,.int c]))=ao (decide (a=n)) (k (E (.tup aD)) (dz 0 x)) (k dk (dz 0 x)):=by kernel_rfl
theorem Ud {K:bI}:cR C aP yb [.ref 0,.int n] (dz 0 x) K=cY ((x.aH.map (·.1)).length≤1000000) (j3 (Jk C n) (hk (.ref 10) (x.aH.map (·.1)) (dz 0 x)) ((x.aH.map (·.1)).length+1) 0 (x.aH.map (·.1)) (dz 0 x) []
 fun b6 be=>gh (b3 C aP (.cons (.hN 2 (.loc 3) tq) .nil)) (e1 K) .next [.ref 0,.int n,.aR,.ref be.length] (be++[fp b6])):=by kernel_rfl
def T6 (C:hT)(n:Int)(x:er)(b6:List V)(K:bI):Prop:=ix 12 (fun v loc H K=>b3 C aP tq (loc.set 2 v) H K) (hk (.ref 11) b6 (dz 0 x++[.list b6])) (b6.length+1) 0 b6 [.ref 0,.int n,.aR,.ref 11] (dz 0 x++[.list b6]) (gh (b3 C aP .nil) (e1 K))
theorem Ub {K:bI}{r:List V}:gh (b3 C aP (.cons (.hN 2 (.loc 3) tq) .nil)) (e1 K) .next [.ref 0,.int n,.aR,.ref (dz 0 x).length] (dz 0 x++[fp (.tup aD::r)])=T6 C n x (.tup aD::r) K:=by kernel_rfl
theorem Uc {K:bI}:gh (b3 C aP (.cons (.hN 2 (.loc 3) tq) .nil)) (e1 (rm (dz 0 x) K)) .next [.ref 0,.int n,.aR,.ref (dz 0 x).length] (dz 0 x++[fp []])=rm (dz 0 x) K .none (dz 0 x++[.ints []]):=by kernel_rfl
theorem Uf:b3 C aP tq ([.ref 0,.int n,cX,.ref 11].set 2 (.tup aD)) (dz 0 x++[.list b6]) K=qd (.tup aD) x.aH fun es=>K .next [.ref 0,.int n,.tup aD,.ref 11] (dz 0 (bu x.t1 x.aa es (x.fn+1))++[.list b6]):=by kernel_rfl
theorem T8 {K:bI}:gh (b3 C aP .nil) (e1 (rm (dz 0 x) K)) .next [.ref 0,.int n,cX,.ref 11] (dz 0 (bu x.t1 x.aa es j)++[.list b6])=
 ao ((pm (fun l=>d3 l 11) es&&true)&&true) (K .none (dz 0 (bu x.t1 x.aa es j))) False:=by kernel_rfl
theorem T7 {K:bI}:rm (dz 0 x) K .none (dz 0 x++[.ints []])=ao ((pm (fun l=>d3 l 11) x.aH&&true)&&true) (K .none (dz 0 x)) False:=by kernel_rfl
end
theorem WD (es:List (V×V))(n:Int):es.length-(hM es n).length=(i0 es n).length:=by
 refine Nat.sub_eq_of_eq_add ?_;unfold i0 hM;rw[List.length_map]
 induction es with
 |nil=>rfl
 |cons e es aF=>
  rw[List.filter_cons,List.filter_cons,List.length_cons,aF];cases q:decide (qM e.2=n) with
  |true=>exact(GI ..).symm
  |false=>exact(Nat.add_succ ..).symm
theorem JT (g:pn es=true){n:Int}(aB:k∈i0 es n):∃aD v,k=.tup aD∧(k,v)∈es:=by refine dm (List.mem_map.mp aB) fun e bS=>?_;have hm:=(List.mem_filter.mp bS.1).1;refine lu (Ar (List.all_eq_true.mp g e hm)) fun aD a b c eG=>?_;rw[eG] at hm bS;exact⟨aD,.tup [.int a,.int b,.int c],bS.2.symm,by rw[←bS.2];exact hm⟩
inductive x9 (n:Int)(x:er)(i:Nat):List V→List an→Prop
 |mk (cX:V):x9 n x i [.ref 0,.int n,cX,.ref 11] (dz 0 (bu x.t1 x.aa (((i0 x.aH n).take i).foldl nW x.aH) (x.fn+i))++[.list (i0 x.aH n)])
theorem T9 {n:Int}{x:er}{K:dK}(eS:(∀e∈x.aH,bT 4 e.1=true)∧eD x.aH)(g:pn x.aH=true)(gl:x.aH.length≤100){i:Nat}(e:(i0 x.aH n)[i]? =E v)(h:x9 n x i loc H)
 (lG:∀loc H,x9 n x (i+1) loc H→Ev (K .next loc H)):Ev (b3 C aP tq (loc.set 2 v) H K):=by
 induction h with
 |mk cX=>
  refine dB (JT g (List.mem_of_getElem? e)) fun aD w bS=>?_;have c0:=bS.2;rw[bS.1] at e c0⊢;clear bS;have zw:(((i0 x.aH n).take i).foldl nW x.aH).Sublist x.aH:=by rw[yV];exact List.filter_sublist
  have lG:=lG _ _ (.mk (.tup aD));rw[List.take_add_one,e,List.foldl_append] at lG;refine aK (Uf (x:=bu x.t1 x.aa (((i0 x.aH n).take i).foldl nW x.aH) (x.fn+i))) (Ts (v:=w) (e3 zw.length_le (e3 gl (by decide))) (List.Pairwise.sublist zw eS.2) (fun e he=>eS.1 e (zw.subset he)) ?_ lG);refine(?_:(V.tup aD,w)∈((i0 x.aH n).take i).foldl nW x.aH);rw[yV];refine List.mem_filter.mpr ⟨c0,List.all_eq_true.mpr fun k aB=>?_⟩;obtain⟨j,cn,iw⟩:=List.getElem_of_mem aB;have wg:=List.length_take▸cn;refine dm (List.getElem?_eq_some_iff.mp e) fun hi j4=>?_;have:=List.pairwise_iff_getElem.mp (WE eS.2 n) j i (q3 wg (GF _ _)) hi (q3 wg (GD _ _));rw[List.getElem_take] at iw;rw[iw,j4] at this;rw[Md this];rfl
theorem Ua {n:Int}{x:er}(eS:(∀e∈x.aH,bT 4 e.1=true)∧eD x.aH)(h:Ev (Ji n x K)):Ev (cR C aP yb [.ref 0,.int n] (dz 0 x) (rm (dz 0 x) K)):=by
 have h:Ev (ao (pn x.aH&&dg x.aH.length 100) (K .none (dz 0 (bu x.t1 x.aa (hM x.aH n) (x.fn+(x.aH.length-(hM x.aH n).length))))) False):=aK (by kernel_rfl) h;refine b7 (gF h) fun g h=>b4 g fun g gl=>?_;have gl:=d4 gl;refine aK Ud (jl (by rw[List.length_map];exact e3 gl (by decide)) ?_);refine S8 (es:=x.aH) (φ:=(·.1)) (fun e=>Fi (decide (qM e.2=n)) e.1) (fun e he k aB=>?_) (fun P a8=>?_) ?_ _ 0 (jy _) (by rw[List.length_map];exact jx _)
 .refine lu (Ar (List.all_eq_true.mp g e he)) fun aD a b c eG=>?_;rw[eG] at he aB⊢;change Ev (k (Fi (decide (a=n)) (.tup aD)) _) at aB;exact aK Ue (JQ eS.2 eS.1 he (aK Ug (dO (fun q=>by rw[q] at aB;exact aB) fun q=>by rw[q] at aB;exact aB)))
 .exact aK (B:=ao (c1 x.fn x.fn&&c1 x.aH.length x.aH.length) (P (x.aH.map (·.1))) False) (by kernel_rfl) (cv (by simp) a8)
 .rw[WC];rw[WD] at h;have Ds:=Tu eS.1 eS.2 (n:=n);cases yY:i0 x.aH n with
  |nil=>rw[yY] at Ds h;rw[show hM x.aH n=x.aH from Ds.symm] at h;exact aK Uc (aK T7 (cv (by rw[NF g];rfl) h))
  |cons bw r=>
   refine dB (JT (n:=n) g (k:=bw) (by rw[yY];exact List.mem_cons_self)) fun ahk _ cg=>?_;rw[cg.1];refine aK Ub ?_;rw[←cg.1,←yY];clear yY cg;refine C6 (x9 n x) (fun _ _ _=>False) (fun i v loc H e ab hs lG wF=>T9 eS g gl e ab lG) (fun i loc H ab P a8=>?_) (fun i loc H ab P a8=>?_) (fun loc H ab=>?_) (fun _ _ _ h=>h.elim) _ 0 _ _ (.mk .aR) (jy _) (jx _)
   .induction ab with
    |mk cX=>
     unfold trunc
     split
     .exact a8 _ _ (.mk (kz 12 cX))
     .exact a8 _ _ (.mk cX)
   .induction ab with
    |mk cX=>exact aK (B:=P (i0 x.aH n)) (by kernel_rfl) a8
   .generalize aL:(i0 x.aH n).length=kr at ab h
    induction ab with
    |mk cX=>rw[←aL,List.take_length,Ds];rw[←aL] at h;have b8:pn (hM x.aH n)=true:=List.all_eq_true.mpr fun e he=>List.all_eq_true.mp g e (List.mem_filter.mp he).1;exact aK T8 (cv (by rw[NF b8];rfl) h)
theorem acP:fD C aP Fm yb:=SH fun(a:Unit×Int×Unit) (x:er) K fA fW bC=>
 aK (by kernel_rfl) (Ua (C:=C) (n:=a.2.1) (x:=x) (K:=K) (P6 fA) (aK (by kernel_rfl) bC))
section
variable {fn:Nat}{T N ag i o:Int}{d:List Int}{t1 aa:c8}
def wO (M9 T N:Int)(d:List Int)(no:Prop)(nn:Prop):Prop:=
 ao (hc T d 8 0) (ao (!ug T N d) no (ao (hc T d 9 8) (ao (b9 (i9 T d) 1) no (ao (ltI N 0) no (ao (ltI d.length (N+0+M9)) no (ao (gw (E (N+0))&&gw (E (N+0+M9))) nn False)))) False)) False
def wP (N:Int)(d:List Int)(k eA:Bool→Prop):Prop:=ao (b9 0 N&&ltI N 1000) (ao (b9 0 (gc N d)) (ao (!decide (Builtin.bitAnd (gc N d) 5=0))
 (ao (b9 0 (gc N d)) (eA (decide (Builtin.bitAnd (gc N d) 7=0))) (eA (b9 0 (gc N d)))) (ao (b9 0 (gc N d)) (k (decide (Builtin.bitAnd (gc N d) 7=0))) (k (b9 0 (gc N d)))))
 (ao (b9 0 (gc N d)) (k (decide (Builtin.bitAnd (gc N d) 7=0))) (k (b9 0 (gc N d))))) False
theorem UZ:∀al f1,cR (bh aT (m+4)) aP sS [.ref 0,.ref 11,.int 1] (ic (bu t1 aa (bV al f1 bw ba bK bR) fn) T 6 N ag d i o) (dV (ic (bu t1 aa (bV al f1 bw ba bK bR) fn) T 6 N ag d i o) K)=
 wO 20 T N d (K (.bool false) (ic (bu t1 aa (bV al f1 bw ba bK bR) fn) T 6 N ag d i o)) (wP N d (fun b=>K (.bool b) (ic (bu t1 aa (bV al f1 bw ba bK bR) fn) T 6 N ag d i o))
  (fun b=>K (.bool b) (ic (bu t1 aa (hM (bV al f1 bw ba bK bR) 1) (fn+((bV al f1 bw ba bK bR).length-(hM (bV al f1 bw ba bK bR) 1).length))) T 6 N ag d i o))):=by
 intro al f1;revert al f1;exact @all2 _ _ _ (by kernel_rfl)
theorem U0:∀al f1,cR (bh aT (m+4)) aP sS [.ref 0,.ref 11,.int 2] (ic (bu t1 aa (bV al f1 bw ba bK bR) fn) T 6 N ag d i o) (dV (ic (bu t1 aa (bV al f1 bw ba bK bR) fn) T 6 N ag d i o) K)=
 wO 20 T N d (K (.bool false) (ic (bu t1 aa (bV al f1 bw ba bK bR) fn) T 6 N ag d i o)) (wP N d (fun b=>K (.bool b) (ic (bu t1 aa (bV al f1 bw ba bK bR) fn) T 6 N ag d i o))
  (fun b=>K (.bool b) (ic (bu t1 aa (hM (bV al f1 bw ba bK bR) 2) (fn+((bV al f1 bw ba bK bR).length-(hM (bV al f1 bw ba bK bR) 2).length))) T 6 N ag d i o))):=by
 intro al f1;revert al f1;exact @all2 _ _ _ (by kernel_rfl)
theorem U1 {n:Int}:∀al f1,cR (bh aT (m+4)) aP sS [.ref 0,.ref 11,.int n] (ic (bu t1 aa (bV al f1 bw ba bK bR) fn) T 17 N ag d i o) (dV (ic (bu t1 aa (bV al f1 bw ba bK bR) fn) T 17 N ag d i o) K)=
 wO 8 T N d (K (.bool false) (ic (bu t1 aa (bV al f1 bw ba bK bR) fn) T 17 N ag d i o)) (K (.bool true) (ic (bu t1 aa (bV al f1 bw ba bK bR) fn) T 17 N ag d i o)):=by
 intro al f1;revert al f1;exact @all2 _ _ _ (by kernel_rfl)
end
theorem Rx:∀f:Nat,f<256→decide (Builtin.bitAnd (f:Int) 5=0)=false→decide (Builtin.bitAnd (f:Int) 7=0)=false:=by
 have:∀f:Fin 256,decide (Builtin.bitAnd (f.val:Int) 5=0)=false→decide (Builtin.bitAnd (f.val:Int) 7=0)=false:=by decide+kernel
 exact fun f h=>this ⟨f,h⟩
theorem Ry (bl:0≤f)(R:f<256)(h:decide (Builtin.bitAnd f 5=0)=false):decide (Builtin.bitAnd f 7=0)=false:=by refine dm (jV bl) fun n cg=>?_;subst cg;exact Rx n (by lia) h
theorem ach {T N:Int}{d:List Int}(h:ug T N d=true):N=20∨N=40:=by
 unfold ug at h
 split at h
 .exact .inl (of_decide_eq_true (l8 h).1)
 .exact .inr (of_decide_eq_true h)
theorem YJ {T:Int}{d:List Int}(h:hc T d 9 8=true):hc T d 8 0=true:=by
 unfold hc at h⊢;simp only[uU,fH,lX] at h⊢;rcases h with⟨a,b⟩|⟨a,b⟩
 .exact .inl ⟨a,by lia⟩
 .exact .inr ⟨a,by lia⟩
theorem V5 {N:Int}{d:List Int}(hd:ef d)(bl:0≤N)(h:N+20≤d.length):0≤gc N d∧gc N d<256:=by unfold gc;rw[pc (by lia)];exact getD_in hd _
theorem Eo {U T N:Int}{d:List Int}{nn:Prop}(g:hc T d 9 8=true)(n2:lH T U N d=false→Ev no)(cW:lH T U N d=true→(0≤N∧N<1000∧N+pg U≤d.length)→Ev nn):Ev (wO (pg U) T N d no nn):=by
 unfold wO;unfold lH at n2 cW;refine cv (YJ g) (dO (fun e=>n2 ?_) fun e=>cv g (dO (fun aJ=>n2 ?_) fun aJ=>?_))
 .rw[km] at e;rw[e];rfl
 .rw[pc (wH aJ),oJ,jc]
 .rw[uS] at e;have ax:=ach e;have cI:=rR (EE aJ);have eW:0≤pg U∧pg U≤20:=by unfold pg;split<;>lia
  refine ec (pc (by lia)) (dO (fun eU=>n2 ?_) fun eU=>?_)
  .have:=pd eU;rw[Mm (by lia),jc,jc]
  .have iX:=EF eU;refine cv (by rw[pk (by lia) (by lia),pk (by lia) (by lia)];rfl) (cW ?_ ⟨by lia,by lia,by lia⟩);rw[e,cI,qA (by lia)];rfl
theorem aat {N T:Int}{d:List Int}{k eA:Bool→Prop}(hd:ef d)(ax:0≤N∧N<1000∧N+20≤d.length)(h':decide (Builtin.bitAnd (gc N d) 5=0)=false→Ev (eA false))
 (h:decide (Builtin.bitAnd (gc N d) 5=0)=true→Ev (k (decide (Builtin.bitAnd (gc N d) 7=0)))):Ev (wP N d k eA):=by
 unfold wP;refine b7 (V5 hd ax.1 ax.2.2) fun al f1=>?_;refine cv (by rw[qA ax.1,rR ax.2.1];rfl) (cv (qA al) (dO (fun e=>cv (qA al) ?_) fun e=>cv (qA al) ?_))
 .rw[km] at e;rw[Ry al f1 e];exact h' e
 .rw[uS] at e;exact h e
theorem aau (m:Nat){n:Int}{t1 aa:c8}{aH:List (V×V)}{fn:Nat}{T U N ag i o:Int}{d:List Int}(hd:ef d)(h:Ev (MP n (bu t1 aa aH fn) T U N ag d i o K)):
 Ev (cR (bh aT (m+4)) aP sS [.ref 0,.ref 11,.int n] (ic (bu t1 aa aH fn) T U N ag d i o) (dV (ic (bu t1 aa aH fn) T U N ag d i o) K)):=by
 have h:Ev (ao (ut aH&&((decide (n=1)||decide (n=2))&&(iz U&&hc T d 9 8)))
  (ao (kU T U N d) (K (.bool false) (ic (bu t1 aa (hM aH n) (fn+(aH.length-(hM aH n).length))) T U N ag d i o)) (K (.bool (lN T U N d)) (ic (bu t1 aa aH fn) T U N ag d i o))) False):=aK (by kernel_rfl) h
 refine b7 (gF h) fun e h=>?_;refine b4 e fun aW e=>?_;refine b4 e fun aJ e=>?_;refine b4 e fun cI eU=>?_;obtain⟨al,f1,bw,ba,bK,bR,T5⟩:=OO aW;rw[T5] at h⊢;rcases jO cI with cI|cI<;>(have cI:=of_decide_eq_true cI;subst cI)
 .have n2:lH T 6 N d=false→Ev (K (.bool false) (ic (bu t1 aa (bV al f1 bw ba bK bR) fn) T 6 N ag d i o)):=fun e=>by
   have a1:kU T 6 N d=false:=by unfold kU;rw[e];rfl
   have a2:lN T 6 N d=false:=by unfold lN;rw[e];rfl
   have h:=iZ a1 h;rw[a2] at h;exact h
  have cW:∀eA:Bool→Prop,(decide (Builtin.bitAnd (gc N d) 5=0)=false→lH T 6 N d=true→Ev (eA false))→lH T 6 N d=true→(0≤N∧N<1000∧N+pg 6≤d.length)→
   Ev (wP N d (fun b=>K (.bool b) (ic (bu t1 aa (bV al f1 bw ba bK bR) fn) T 6 N ag d i o)) eA):=fun eA aB e ax=>by
   refine aat (T:=T) hd ax (fun iX=>aB iX e) fun iX=>?_;have a1:kU T 6 N d=false:=by unfold kU;rw[e,iX];rfl
   have a2:lN T 6 N d=decide (Builtin.bitAnd (gc N d) 7=0):=by unfold lN;rw[e];rfl
   have h:=iZ a1 h;rw[a2] at h;exact h
  have Kc:decide (Builtin.bitAnd (gc N d) 5=0)=false→lH T 6 N d=true→kU T 6 N d=true:=fun iX e=>by unfold kU;rw[e,iX];rfl
  rcases jO aJ with aJ|aJ<;>(have aJ:=of_decide_eq_true aJ;subst aJ)
  .exact aK (UZ al f1) (Eo (U:=6) eU n2 (cW _ fun iX e=>jm (Kc iX e) h))
  .exact aK (U0 al f1) (Eo (U:=6) eU n2 (cW _ fun iX e=>jm (Kc iX e) h))
 .have a1:kU T 17 N d=false:=rfl;have h:=iZ a1 h;have a2:lN T 17 N d=lH T 17 N d:=by unfold lN;exact xF _
  rw[a2] at h;refine aK (U1 al f1) (Eo (U:=17) eU (fun e=>?_) fun e _=>?_)
  .rw[e] at h;exact h
  .rw[e] at h;exact h
theorem acZ (m:Nat):fD (bh aT (m+4)) aP Fx sS:=m0 fun(a:Unit×Unit×Int×Unit) (x:yo) K fA fW bC=>
 aK (by kernel_rfl) (aau m (n:=a.2.2.1) (t1:=x.2.2.2.2.2.1) (aa:=x.2.2.2.2.2.2.2.1) (aH:=x.2.2.2.2.2.2.2.2.2.2.1.1) (fn:=x.2.2.2.2.2.2.2.2.2.2.1.2) (T:=et.kind x.2.2.2.2.2.2.2.2.2.2.2) (U:=et.U x.2.2.2.2.2.2.2.2.2.2.2) (N:=et.off x.2.2.2.2.2.2.2.2.2.2.2)
  (ag:=et.place x.2.2.2.2.2.2.2.2.2.2.2) (i:=et.i x.2.2.2.2.2.2.2.2.2.2.2) (o:=et.o x.2.2.2.2.2.2.2.2.2.2.2) (d:=et.d x.2.2.2.2.2.2.2.2.2.2.2) (K:=K) (P5 (fA (.cA (et.d x.2.2.2.2.2.2.2.2.2.2.2)) (by refine List.mem_of_getElem? (i:=13) ?_;rfl))) (aK (by kernel_rfl) bC))
def E5 (T U N:Int)(re:List Int→Prop)(d:List Int):Prop:=ao (hc T d 9 8) (ao (b9 (i9 T d) 1) (re d) (ao (gf T U N im (nr T) 1 d) (re (lA T U N d)) False)) False
def stepT (T U N nf pr:Int)(on af:Bool)(a p:Int)(d:List Int)(cN:List Int→Prop):Prop:=
 ao on (ao (AE T U nf pr) (ao (se T U N af a p d) (cN (kL T U N af p (hE T U N af a d))) False) False) (cN d)
def FS (au T U N:Int)(d:List Int)(t:c8)(g:ej)(eP fR:Int)(no e6:Prop)(re:List Int→Prop):Prop:=
 ao (b9 t.kM au) no (ao (hc T d 9 8) (ao (kU T U N d) e6 (ao (!lN T U N d) no
  (ao (iz g.2.1&&(decide (g.1=2)||decide (g.1=10)))
   (stepT T U N g.1 g.2.1 (hC t.cK eP) false g.2.2.1 g.2.2.2.1 d fun dN=>stepT T U N g.1 g.2.1 (hC t.cK fR) true g.2.2.2.2.1 g.2.2.2.2.2.1 dN (E5 T U N re)) False))) False)
noncomputable def pC (t f:V):List V:=[.ref 0,.ref 2,.ref 7,t,f,.aR,.aR,.aR,.aR,.aR,.aR]
section
variable {fn:Nat}{dc T N ag i o:Int}{d:List Int}{t1 aa:c8}
def o2 (w f:Bool):List V→List V→List V→List V→List (V×V):=bV (cond w f true) (cond w true f)
noncomputable def t4 (w:Bool):Int:=cond w 2 1
noncomputable def rn (r:Bool):Int:=cond r 1 0
noncomputable def wZ (r:Bool):Int:=cond r 1 2
theorem Vm:∀w r b f:Bool,b3 (bh aT (m+8)) aP (cm 3 mR.body) (pC (.tup aD) (val (t4 w) (rn r) (wZ r))) (fE au dc isr T (aZ b) N ag d i o (bu t1 aa (o2 w f bw ba bK bR) fn)) (e1 (dV (fE au dc isr T (aZ b) N ag d i o (bu t1 aa (o2 w f bw ba bK bR) fn)) K))=
 FS au T (aZ b) N d (cond w aa t1) (gX (cond w aa t1) (rn r)) (g9 false (rn r)) (g9 true (rn r)) (K (.int (-1)) (fE au dc isr T (aZ b) N ag d i o (bu t1 aa (o2 w f bw ba bK bR) fn))) (K (.int (-1)) (fE au dc isr T (aZ b) N ag d i o (bu t1 aa (hM (o2 w f bw ba bK bR) (t4 w)) (fn+((o2 w f bw ba bK bR).length-(hM (o2 w f bw ba bK bR) (t4 w)).length)))))
  (fun d'=>K (.int (wZ r)) (fE au dc isr T (aZ b) N ag d' i o (bu (cond w t1 (ov t1 (kh au (aZ b)))) (cond w (ov aa (kh au (aZ b))) aa) (o2 w f bw ba bK bR) fn))):=l7 (by kernel_rfl)
theorem US {U:Int}(w r f:Bool):vR au dc isr T U N ag d i o t1 aa (o2 w f bw ba bK bR) fn K (val (t4 w) (rn r) (wZ r))=mf au dc isr T U N ag d i o t1 aa (o2 w f bw ba bK bR) fn (t4 w) (rn r) (wZ r) (cond w aa t1) (cond w t1 (ov t1 (kh au U))) (cond w (ov aa (kh au U)) aa) K:=by revert w;exact @all1 _ _ _ (by kernel_rfl)
theorem Jv {U:Int}{t:V}:∀al f1:Bool,b3 (bh aT (m+8)) aP (cm 3 mR.body) (pC t .none) (fE au dc isr T U N ag d i o (bu t1 aa (bV al f1 bw ba bK bR) fn)) (e1 (dV (fE au dc isr T U N ag d i o (bu t1 aa (bV al f1 bw ba bK bR) fn)) K))=
 K (.int (-1)) (fE au dc isr T U N ag d i o (bu t1 aa (bV al f1 bw ba bK bR) fn)):=all2 (by kernel_rfl)
theorem Vn {U:Int}{aH:List (V×V)}:b3 (bh aT (m+8)) aP (fz 2 mR.body) [.ref 0,.aR,.aR,.aR,.aR,.aR,.aR,.aR,.aR,.aR,.aR] (fE au dc isr T U N ag d i o (bu t1 aa aH fn)) K'=
 ao ((decide (U=6)||decide (U=17))&&(decide (T=2048)||decide (T=34525))) (ao (ltI N 0) (K' .next (pC .none .aR) (fE au dc isr T U N ag d i o (bu t1 aa aH fn)))
  (ao (b9 (N+4) d.length&&ltI N 1000) (K' .next (pC (.tup (tupI T U N d)) .aR) (fE au dc isr T U N ag d i o (bu t1 aa aH fn))) False)) False:=by kernel_rfl
theorem Vo {U:Int}{aH:List (V×V)}:b3 (bh aT (m+8)) aP (fz 1 (cm 2 mR.body)) (pC (.tup aD) .aR) (fE au dc isr T U N ag d i o (bu t1 aa aH fn)) K'=
 jJ (.tup [.int i,.tup aD]) aH fun r=>K' .next (pC (.tup aD) (r.getD .none)) (fE au dc isr T U N ag d i o (bu t1 aa aH fn)):=by kernel_rfl
theorem Vp {U:Int}{aH:List (V×V)}:b3 (bh aT (m+8)) aP (fz 1 (cm 2 mR.body)) (pC .none .aR) (fE au dc isr T U N ag d i o (bu t1 aa aH fn)) K'=
 K' .next (pC .none .none) (fE au dc isr T U N ag d i o (bu t1 aa aH fn)):=by kernel_rfl
end
theorem fh {f:List V→List an→dK→Prop}{K:dK}:gh f K .next loc H=f loc H K:=rfl
theorem qP {G:Nat→Option V}(h:c1 vs.length bg.na=true)(e:vs++bg.defs++List.replicate bg.EL .aR=loc):cR C G bg vs H K=b3 C G bg.body loc H (e1 K):=by unfold cR;rw[h,e];rfl
theorem Mu {bg:Option V→Prop}:∀{aH:List (V×V)},Ev (wJ key go qF aH)→(∀e∈aH,Ev (go e.2)→Ev (bg (E e.2)))→(Ev qF→Ev (bg dk))→Ev (lv key aH bg)
 | [],h,_,hm=>hm h
 |(k,v)::r,h,b5,hm=>dO (fun e=>b5 (k,v) List.mem_cons_self (jm e h)) fun e=>Mu (iZ e h) (fun cL he=>b5 cL (List.mem_cons_of_mem _ he)) hm
theorem ado {T U N:Int}{re:List Int→Prop}{d:List Int}(g:zq T U N d=true)(k:Ev (re (lA T U N d))):Ev (E5 T U N re d):=by unfold zq at g;refine b4 g fun g1 g=>?_;refine b4 g fun bL g3=>?_;unfold E5;exact cv g1 (ec (Mm (pd bL)) (cv g3 k))
theorem O8 {T U N:Int}{on:Bool}{a p:Int}{d:List Int}{cN:List Int→Prop}(g:uo T U N nf pr on af a p d=true)(k:Ev (cN (un T U N on af a p d))):Ev (stepT T U N nf pr on af a p d cN):=by
 unfold stepT
 induction on using eo with
 |true=>refine b4 g fun g1 bL=>?_;exact cv rfl (cv g1 (cv bL k))
 |false=>exact ec rfl k
theorem WB {dc T U N ag:Int}{d:List Int}{i o:Int}{t1 aa:c8}{aH:List (V×V)}{fn:Nat}{n dir:Int}{t:c8}(vP:hc T d 9 8=true)(h:Ev (mf au dc isr T U N ag d i o t1 aa aH fn n dir iK t gK gL K)):
 Ev (FS au T U N d t (gX t dir) (g9 false dir) (g9 true dir) (K (.int (-1)) (fE au dc isr T U N ag d i o (bu t1 aa aH fn))) (K (.int (-1)) (fE au dc isr T U N ag d i o (bu t1 aa (hM aH n) (fn+(aH.length-(hM aH n).length)))))
  (fun d'=>K (.int iK) (fE au dc isr T U N ag d' i o (bu gK gL aH fn)))):=by
 unfold mf at h;unfold FS;refine dO (fun e=>jm e h) fun e=>?_;have h:=iZ e h;refine cv vP (dO (fun e=>jm e h) fun e=>?_);have h:=iZ e h;refine dO (fun e=>?_) fun e=>?_
 .rw[km] at e;exact iZ e h
 .rw[uS] at e;refine b7 (gF (jm e h)) fun g h=>?_;refine b4 g fun g1 g=>?_;refine b4 g fun bL g=>?_;refine b4 g fun g3 ek=>?_;unfold tZ at g3;refine b4 g3 fun ht nZ=>?_;refine cv (by rw[g1,bL];rfl) (O8 ht (O8 nZ (ado ek h)))
theorem V6 {aA:Bool→Bool→V→Prop}(k:∀w r f,aA (cond w f true) (cond w true f) (val (t4 w) (rn r) (wZ r))):∀e∈bV al f1 bw ba bK bR,aA al f1 e.2:=by
 induction al using eo with
 |false=>induction f1 using eo with
  |false=>exact fun e he=>nomatch he
  |true=>exact List.forall_mem_cons.mpr ⟨k true false false,List.forall_mem_cons.mpr ⟨k true true false,fun e he=>nomatch he⟩⟩
 |true=>induction f1 using eo with
  |false=>exact List.forall_mem_cons.mpr ⟨k false false false,List.forall_mem_cons.mpr ⟨k false true false,fun e he=>nomatch he⟩⟩
  |true=>exact List.forall_mem_cons.mpr ⟨k false false true,List.forall_mem_cons.mpr ⟨k false true true,List.forall_mem_cons.mpr ⟨k true false true,List.forall_mem_cons.mpr ⟨k true true true,fun e he=>nomatch he⟩⟩⟩⟩
@[elab_as_elim] theorem aeA {aA:List (V×V)→Prop}{aH:List (V×V)}(h:ut aH=true)(k:∀al f1 bw ba bK bR,aA (bV al f1 bw ba bK bR)):aA aH:=by refine lu (OO h) fun al f1 bw ba q=>dB q fun bK bR e=>?_;rw[e];exact k ..
theorem ma:cm 1 (cm 2 mR.body)=cm 3 mR.body:=by kernel_rfl
theorem af9 (m:Nat){dc T U N ag:Int}{d:List Int}{i o:Int}{t1 aa:c8}{aH:List (V×V)}{fn:Nat}(h:Ev (uD au dc isr T U N ag d i o t1 aa aH fn K)):
 Ev (cR (bh aT (m+8)) aP mR [.ref 0] (fE au dc isr T U N ag d i o (bu t1 aa aH fn)) (dV (fE au dc isr T U N ag d i o (bu t1 aa aH fn)) K)):=by
 refine b7 (gF h) fun g h=>b4 g fun g1 g=>b4 g fun bL g3=>?_;clear g;revert h;refine aeA g1 fun al f1 bw ba bK bR=>?_;refine wG bL fun b h=>?_;generalize aI:dV (fE au dc isr T (aZ b) N ag d i o (bu t1 aa (bV al f1 bw ba bK bR) fn)) K=KK;refine aK (qP (loc:=[.ref 0,.aR,.aR,.aR,.aR,.aR,.aR,.aR,.aR,.aR,.aR]) rfl (by kernel_rfl)) (aK (gk 2 _ _ _ _) (aK Vn (cv ?_ (dO (fun e=>?_) fun e=>?_))))
 .rw[KY g3];cases b<;>rfl
 .refine aK fh (aK (gk 1 _ _ _ _) (aK Vp (aK fh ?_)));rw[ma,←aI];exact aK (Jv al f1) (jm e h)
 .refine b7 (gF (iZ e h)) fun ek h=>?_;refine cv ek (aK fh (aK (gk 1 _ _ _ _) (aK Vo (cv rfl (Mu h ?_ fun hm=>?_)))));rotate_left
  .refine aK fh ?_;rw[ma,←aI];exact aK (Jv al f1) hm
  refine fun e he b5=>aK fh ?_;rw[ma,←aI];exact V6 (aA:=fun al f1 v=>Ev (vR au dc isr T (aZ b) N ag d i o t1 aa (bV al f1 bw ba bK bR) fn K v)→Ev (b3 (bh aT (m+8)) aP (cm 3 mR.body) (pC (.tup (tupI T (aZ b) N d)) v) (fE au dc isr T (aZ b) N ag d i o (bu t1 aa (bV al f1 bw ba bK bR) fn)) (e1 (dV (fE au dc isr T (aZ b) N ag d i o (bu t1 aa (bV al f1 bw ba bK bR) fn)) K))))
   (fun w r f b5=>aK (Vm w r b f) (WB g3 (aK (US w r f).symm b5))) e he b5
theorem ac9 (m:Nat):fD (bh aT (m+8)) aP xe mR:=m0 fun(a:Unit×Unit) (x:yv) K fA fW bC=>
 aK (by kernel_rfl) (af9 m (au:=x.2.1.2.1) (dc:=x.2.1.2.2.2.2.1) (isr:=x.2.1.2.2.2.2.2.1) (T:=x.2.2.2.1.2.2.1) (U:=x.2.2.2.1.2.2.2.1) (N:=x.2.2.2.1.2.2.2.2.1) (ag:=x.2.2.2.1.2.2.2.2.2.1) (d:=x.2.2.2.2.1) (i:=x.2.2.2.2.2.2.1.2.2.1) (o:=x.2.2.2.2.2.2.1.2.2.2.1)
  (t1:=x.2.2.2.2.2.2.2.2.2.2.2.2.1) (aa:=x.2.2.2.2.2.2.2.2.2.2.2.2.2.2.1) (aH:=x.2.2.2.2.2.2.2.2.2.2.2.2.2.2.2.2.2.1.1) (fn:=x.2.2.2.2.2.2.2.2.2.2.2.2.2.2.2.2.2.1.2) (K:=K) (aK (by kernel_rfl) bC))
section
variable {xs:List Int}{k:Int}
theorem UI:cR (bh aT m) aP ye [.ref 0,.int k] [.d5 xs] (dV [.d5 xs] K)=
 cY (xs.length<2^63) (ao (ltI k xs.length) (cY (0≤k∧k<2^62) (cY (k.toNat<xs.length) (K (.int (xs.getD k.toNat 0% 2^64)) [.d5 xs])))
  (ao (ltI k 14) (cY (0≤k∧k<2^62) (cY (k.toNat<Gc.length) (K (.int (Gc.getD k.toNat 0)) [.d5 xs]))) (cY (k.natAbs<2^64∨(12:Int).natAbs<2^64) (K (.int (12*k)) [.d5 xs])))):=by kernel_rfl
end
theorem TH (m:Nat){xs:List Int}{k:Int}(h:Ev (Jc xs k K)):Ev (cR (bh aT m) aP ye [.ref 0,.int k] [.d5 xs] (dV [.d5 xs] K)):=by
 refine b7 (gF h) fun e h=>b4 e fun aW aJ=>b4 aJ fun aJ cI=>aK UI (jl (mK (d4 cI) (by decide)) ?_);clear e cI;obtain⟨j,rfl⟩:=jV (wH aW);have c:0≤(j:Int)∧(j:Int)<2^62:=⟨lh _,ko (pd aJ) (by decide)⟩;clear aW aJ;unfold qe at h;refine dO (fun e=>?_) fun e=>?_
 .rw[e] at h;exact jl c (jl (jd.mp (pd e)) h)
 .rw[e] at h;refine dO (fun cI=>?_) fun cI=>?_
  .rw[cI] at h;exact jl c (jl (jd.mp (pd cI)) h)
  .rw[cI] at h;exact jl (.inr (by decide)) h
section
variable {s:Bool×Bool×Int×Int×fw×Unit}{p:dt}
noncomputable def ro (a b:Bool):List Int:=match a with
 |true=>(match b with|true=>[250,3,255]|false=>[250,3])
 |false=>(match b with|true=>[250]|false=>[])
def xm (pr c:Int)(h:List Int):List Int:=match decide (pr=6) with
 |true=>h.take 16++bf c 2++h.drop 18
 |false=>h.take 6++bf c 2++h.drop 8
def A5 (pr:Int)(cut:Bool)(l:List Int):List Int:=match cut with
 |true=>(match decide (pr=6) with|true=>l.take 12|false=>l.take 6)
 |false=>l
def F4 (nf pr:Int)(s:Bool×Bool×Int×Int×fw×Unit)(p:dt)(Y:Int)(L:Bool)(W:Int)(ai cut:Bool)(S:List Int)(K:bI)(c:Int):Prop:=
 K (.ref 3) [gx (nf,pr,s),dI 2 (Y,L,W,(),ai,cut,()),.ints S,.ints (A5 pr cut (xm pr c (mD pr p.1.2.1 p.2.1.2.1 Y S)))]
noncomputable abbrev Az (p:dt):V:=.tup [.tup [.int p.1.1,.int p.1.2.1],.tup [.int p.2.1.1,.int p.2.1.2.1]]
abbrev PC (nf pr:Int)(p:dt)(Y:Int)(S:List Int):Int:=h7 nf pr p.1.1 p.1.2.1 p.2.1.1 p.2.1.2.1 Y S
def Pu (c ai:Bool)(x:Int)(bZ:Int→Prop):Prop:=cond c (bZ x) (cond ai (bZ 0) (ao (x !=0) (bZ x) (bZ 65535)))
theorem agj {c:Bool}{dE:Int}{bZ:Int→Prop}(h:Ev (bZ (mC (aZ c) dE ai))):Ev (Pu c ai (-dE% 65535) bZ):=by
 induction c using eo with
 |true=>exact h
 |false=>induction ai using eo with
  |true=>exact h
  |false=>
   have h:Ev (bZ (fG (-dE% 65535))):=h;unfold fG at h;refine dO (fun e=>?_) fun e=>?_
   .rw[decide_eq_false (bne_iff_ne.mp e)] at h;exact h
   .rw[decide_eq_true (bne_eq_false_iff_eq.mp e)] at h;exact h
theorem Vq:∀n a b c ai cut:Bool,cR (bh aT (m+3)) aP yh [.ref 0,Az p,.ref 1] [gx (cy n,aZ c,s),dI 2 (Y,L,W,(),ai,cut,()),.ints (ro a b)] (dV [gx (cy n,aZ c,s),dI 2 (Y,L,W,(),ai,cut,()),.ints (ro a b)] K)=
 Pu c ai (-PC (cy n) (aZ c) p Y (ro a b)% 65535) (F4 (cy n) (aZ c) s p Y L W ai cut (ro a b) K):=Im (by kernel_rfl)
theorem Ym {d:List Int}(h:hv d=true):∃a b,d=ro a b:=by
 rcases jO h with h|h
 .exact⟨false,false,of_decide_eq_true h⟩
 rcases jO h with h|h
 .exact⟨false,true,of_decide_eq_true h⟩
 rcases jO h with h|h
 .exact⟨true,false,of_decide_eq_true h⟩
 .exact⟨true,true,of_decide_eq_true h⟩
@[elab_as_elim] theorem wz {aA:List Int→Prop}{d:List Int}(h:hv d=true)(k:∀a b,aA (ro a b)):aA d:=dB (Ym h) fun a b q=>q▸k a b
theorem Ba (nf pr bN bD bM dp Y:Int)(S:List Int)(ai cut:Bool):A9 nf pr bN bD bM dp Y S ai cut=A5 pr cut (xm pr (mC pr (h7 nf pr bN bD bM dp Y S) ai) (mD pr bD dp Y S)):=by unfold A9 A5 A7 xm;cases cut<;>cases decide (pr=6)<;>rfl
theorem agm (nf pr:Int)(ai cut:Bool)(h:Ev (Py (nf,pr,s) (Y,L,W,(),ai,cut,()) S p K)):
 Ev (cR (bh aT (m+3)) aP yh [.ref 0,Az p,.ref 1] [gx (nf,pr,s),dI 2 (Y,L,W,(),ai,cut,()),.ints S] (dV [gx (nf,pr,s),dI 2 (Y,L,W,(),ai,cut,()),.ints S] K)):=by
 refine b7 (gF h) fun e h=>b4 e fun aW e=>b4 e fun aJ cI=>?_;clear e;rw[Ba] at h;replace h:Ev (F4 nf pr s p Y L W ai cut S K (mC pr (PC nf pr p Y S) ai)):=h;revert h;exact Ey (n:=nf) aW fun n=>wG (U:=pr) aJ fun c=>wz cI fun a b h=>aK (Vq n a b c ai cut) (agj (bZ:=F4 (cy n) (aZ c) s p Y L W ai cut (ro a b) K) h)
def agY (su:ff)(sx:jh)(S ins:List Int)(l:List Int)(n:Nat)(K:bI):Prop:=
 cY (ins.length<2^63) (cY (n+ins.length≤1000000) (ao (o9 l) (cY (l.length≤1000000) (K (.bytes l) [gx su,dI 2 sx,.ints S,.ints ins])) False))
noncomputable def Gg (n L:Bool):Nat:=cond n (cond L 24 20) (cond L 48 40)
theorem Vu {cut:Bool}:∀n L:Bool,cR (bh aT (m+3)) aP yi [.ref 0,Az p,.int X,.ref 1,.ref 3] [gx (cy n,pr,s),dI 2 (Y,L,W,(),ai,cut,()),.ints S,.ints ins] (dV [gx (cy n,pr,s),dI 2 (Y,L,W,(),ai,cut,()),.ints S,.ints ins] K)=
 agY (cy n,pr,s) (Y,L,W,(),ai,cut,()) S ins (sD (cy n) pr X p.1.1 p.2.1.1 W L ins) (Gg n L) K:=all2 (by kernel_rfl)
theorem ag1:∀n L:Bool,(sD (cy n) pr X bN bM W L ins).length=ins.length+Gg n L:=all2 (by kernel_rfl)
theorem P8:∀n L:Bool,Gg n L≤48:=by decide
theorem ag0 (nf pr:Int)(ai cut:Bool)(h:Ev (P7 (nf,pr,s) (Y,L,W,(),ai,cut,()) S ins p X K)):
 Ev (cR (bh aT (m+3)) aP yi [.ref 0,Az p,.int X,.ref 1,.ref 3] [gx (nf,pr,s),dI 2 (Y,L,W,(),ai,cut,()),.ints S,.ints ins] (dV [gx (nf,pr,s),dI 2 (Y,L,W,(),ai,cut,()),.ints S,.ints ins] K)):=by
 refine b7 (gF h) fun e k=>b4 e fun aW e=>?_;clear h;replace k:Ev (K (.bytes (sD nf pr X p.1.1 p.2.1.1 W L ins)) [gx (nf,pr,s),dI 2 (Y,L,W,(),ai,cut,()),.ints S,.ints ins]):=k;replace e:(dg ins.length 1000&&o9 (sD nf pr X p.1.1 p.2.1.1 W L ins))=true:=e;revert k e;refine Ey (n:=nf) aW fun n k e=>b4 e fun aJ cI=>aK (Vu n L) ?_;have aJ:=d4 aJ;exact jl (mK aJ (by decide)) (jl (e3 (Nat.add_le_add (P8 n L) aJ) (by decide)) (cv cI (jl (by rw[ag1];exact e3 (Nat.add_le_add aJ (P8 n L)) (by decide)) k)))
end
theorem acW (m:Nat):fD (bh aT m) aP Fu ye:=m0 fun(a:Unit×Int×Unit) (x:List Int×Unit) K fA fW bC=>
 aK (by kernel_rfl) (TH m (xs:=x.1) (k:=a.2.1) (K:=K) (aK (by kernel_rfl) bC))
theorem acX (m:Nat):fD (bh aT (m+3)) aP Fv yh:=m0 fun(a:Unit×dt×Unit×Unit) (x:ff×jh×List Int×Unit) K fA fW bC=>
 aK (by kernel_rfl) (agm (m:=m) (s:=x.1.2.2) (p:=a.2.1) (Y:=x.2.1.1) (W:=x.2.1.2.2.1) (L:=x.2.1.2.1) (S:=x.2.2.1) (K:=K) x.1.1 x.1.2.1 x.2.1.2.2.2.2.1 x.2.1.2.2.2.2.2.1 (aK (by kernel_rfl) bC))
theorem acY (m:Nat):fD (bh aT (m+3)) aP Fw yi:=m0 fun(a:Unit×dt×Int×Unit×Unit×Unit) (x:ff×jh×List Int×List Int×Unit) K fA fW bC=>
 aK (by kernel_rfl) (ag0 (m:=m) (s:=x.1.2.2) (p:=a.2.1) (Y:=x.2.1.1) (W:=x.2.1.2.2.1) (X:=a.2.2.1) (L:=x.2.1.2.1) (S:=x.2.2.1) (ins:=x.2.2.2.1) (K:=K) x.1.1 x.1.2.1 x.2.1.2.2.2.2.1 x.2.1.2.2.2.2.2.1 (aK (by kernel_rfl) bC))
noncomputable def ff.ends (x:ff):fw:=x.2.2.2.2.2.2.1
noncomputable def fw.at_ (e:fw)(av aw:Bool):dt:=match av with
 |false=>(match aw with|false=>e.1.1|true=>e.1.2.1)
 |true=>(match aw with|false=>e.2.1.1|true=>e.2.1.2.1)
noncomputable def fN (nf pr:Int)(p:dt):ej:=(nf,pr,p.1.1,p.1.2.1,p.2.1.1,p.2.1.2.1,())
def ff.tup (x:ff)(av aw:Bool):ej:=fN x.1 x.2.1 (x.ends.at_ av aw)
def a6 (i:Int)(t:ej):List V:=[.int i,uA t]
def fJ (su:ff)(al f1:Bool):List (V×V):=bV al f1 (a6 1 (su.tup false false)) (a6 2 (su.tup false true)) (a6 1 (su.tup true false)) (a6 2 (su.tup true true))
def agX (au:Int):an:=.dict [(.str (a7 "now"),.int au),(.str (a7 "until"),.ref 13),(.str (a7 "flows"),.ref 14)] 3
def QK (xs:List Int)(su:ff)(cB:er)(au bq br:Int)(al f1:Bool):List an:=[.d5 xs,gx su]++(dz 2 cB++[.ints [bq,br],.list [.bool al,.bool f1],agX au])
theorem m1 {k:Nat}{r:Nat}{vs0:List V}{H0:List an}(cr:aT k=E ⟨r,false,fun C=>cR C aP bg⟩)(am:dg r n=true)(R:reach H 300 (kJ vs) []=sel)
 (Z:(i4 sel&&iL (eV sel) vs&&sel.all (lL (eV sel) H))=true)(bv:mv (iM sel) vs=vs0)(cZ:(sel.map fun l=>jP (iM sel) (j5 H l))=H0)(h:Ev (cR (bh aT n) aP bg vs0 H0 (fun r aq=>iq sel H r aq K))):Ev (bh aT (n+1) k vs H K):=by
 refine⟨?_⟩;unfold bh;rw[cr];refine(?_:ao (dg r n) (qb (cR (bh aT n) aP bg) vs H K) False);unfold qb CU;rw[R,am,Z,bv,cZ];exact h.out
noncomputable def dq (t:ej):List Int:=[t.1,t.2.1,t.2.2.1,t.2.2.2.1,t.2.2.2.2.1,t.2.2.2.2.2.1]
def nc (t u:ej):Bool:=i3 (bn 1) (ltV 1) ((dq t).map V.int) ((dq u).map V.int)
theorem Ee:∀{xs ys:List Int},xs.length=ys.length→xs≠ys→i3 (bn 1) (ltV 1) (ys.map V.int) (xs.map V.int)= !i3 (bn 1) (ltV 1) (xs.map V.int) (ys.map V.int)
 | [],[],_,h=>absurd rfl h
 | [],_::_,h,_=>nomatch h
 |_::_,[],h,_=>nomatch h
 |x::xs,y::ys,h,aL=>by
  refine(?_:(match decide (y=x) with|true=>i3 (bn 1) (ltV 1) (ys.map V.int) (xs.map V.int)|false=>decide (y<x))= !(match decide (x=y) with|true=>i3 (bn 1) (ltV 1) (xs.map V.int) (ys.map V.int)|false=>decide (x<y)))
  by_cases e:x=y
  .subst e;rw[decide_eq_true (rfl:x=x)];exact Ee (lY h) fun q=>aL (q▸rfl)
  .rw[decide_eq_false e,decide_eq_false (fun q=>e q.symm)]
   by_cases c:x<y
   .rw[decide_eq_true c,decide_eq_false (by lia)];rfl
   .rw[decide_eq_false c,decide_eq_true (by lia)];rfl
def e6 (i:Int)(t:ej)(n d o:Int):V:=.tup [.tup (a6 i t),val n d o]
theorem zZ {xs ys:List Int}(h:xs.length=ys.length)(n:Nat):iH (bn n) (xs.map V.int) (ys.map V.int)=decide (xs=ys):=by
 induction xs generalizing ys with
 |nil=>induction ys using List.casesOn with
  |nil=>rfl
  |cons _ _=>cases h
 |cons x xs aF=>induction ys using List.casesOn with
  |nil=>cases h
  |cons y ys=>
   have e:bn n (.int x) (.int y)=decide (x=y):=by cases n<;>rfl
   refine(?_:(bn n (.int x) (.int y)&&iH (bn n) (xs.map V.int) (ys.map V.int))=_);rw[aF (lY h),e,uT];simp
theorem y1 {i:Int}{t u:ej}{n d o kG d':Int}(h:dq t≠dq u):ltV 4 (e6 i t n d o) (e6 i u kG d' o')=nc t u:=by
 refine(?_:(match(iH (bn 2) (a6 i t) (a6 i u)) with|true=>_|false=>(match decide (i=i) with|true=>(match iH (bn 1) ((dq t).map V.int) ((dq u).map V.int) with|true=>i3 (bn 2) (ltV 2) [] []|false=>i3 (bn 1) (ltV 1) ((dq t).map V.int) ((dq u).map V.int))|false=>decide (i<i)))=_)
 have aW:iH (bn 1) ((dq t).map V.int) ((dq u).map V.int)=false:=(zZ (xs:=dq t) (ys:=dq u) rfl 1).trans (decide_eq_false h);have aJ:iH (bn 2) (a6 i t) (a6 i u)=false:=by refine(?_:(decide (i=i)&&(iH (bn 1) ((dq t).map V.int) ((dq u).map V.int)&&true))=false);rw[aW,oJ,jc]
 rw[aJ,aW,decide_eq_true (rfl:i=i)];rfl
theorem y2 {i:Int}{t:ej}{n d o:Int}:ltV 4 (e6 i t n d o) (e6 i t n d o)=false:=by
 have aW:iH (bn 1) ((dq t).map V.int) ((dq t).map V.int)=true:=(zZ (xs:=dq t) (ys:=dq t) rfl 1).trans (decide_eq_true rfl);have aJ:iH (bn 2) (a6 i t) (a6 i t)=true:=by refine(?_:(decide (i=i)&&(iH (bn 1) ((dq t).map V.int) ((dq t).map V.int)&&true))=true);rw[aW,decide_eq_true (rfl:i=i)];rfl
 refine(?_:(match(iH (bn 2) (a6 i t) (a6 i t)) with|true=>(match iH (bn 2) ([n,d,o].map V.int) ([n,d,o].map V.int) with|true=>i3 (bn 3) (ltV 3) [] []|false=>i3 (bn 2) (ltV 2) ([n,d,o].map V.int) ([n,d,o].map V.int))|false=>_)=false)
 rw[aJ,zZ rfl,decide_eq_true rfl];rfl
noncomputable def oi (b:Bool)(x y:Int):Int:=match b with|true=>x|false=>y
def Aw (b:Bool)(t u:ej):ej:=(oi b t.1 u.1,oi b t.2.1 u.2.1,oi b t.2.2.1 u.2.2.1,oi b t.2.2.2.1 u.2.2.2.1,oi b t.2.2.2.2.1 u.2.2.2.2.1,oi b t.2.2.2.2.2.1 u.2.2.2.2.2.1,())
def FJ (dJ t1 aa d1:ej)(b c:Bool):List V:=[e6 1 (Aw b dJ aa) (oi b 1 2) 0 2,e6 1 (Aw b aa dJ) (oi b 2 1) 0 2,e6 2 (Aw c t1 d1) (oi c 1 2) 1 1,e6 2 (Aw c d1 t1) (oi c 2 1) 1 1]
def rQ (dJ t1 aa d1:ej):List V:=[e6 1 dJ 1 0 2,e6 2 t1 1 1 1,e6 1 aa 2 0 2,e6 2 d1 2 1 1]
def ek (b c:Bool)(i j:Nat):Bool:=match i,j with
 |0,1=>true|0,2=>b|0,3=>true
 |1,3=>c
 |2,0=> !b|2,1=>true|2,3=>true
 |3,1=> !c
 |_,_=>false
theorem ZY (v:V):ltV 4 .none v=false:=by cases v<;>rfl
theorem z8 (v:V):ltV 4 v .none=false:=by cases v<;>rfl
theorem VN {t1 aa:ej}(bl:dq dJ≠dq aa)(R:dq t1≠dq d1):(fun i j=>ltV 4 ((rQ dJ t1 aa d1).getD i .none) ((rQ dJ t1 aa d1).getD j .none))=ek (nc dJ aa) (nc t1 d1):=by
 funext i j
 match i,j with
 |0,0=>exact y2
 |0,1=>rfl
 |0,2=>exact y1 bl
 |0,3=>rfl
 |0,j+4=>exact z8 _
 |1,0=>rfl
 |1,1=>exact y2
 |1,2=>rfl
 |1,3=>exact y1 R
 |1,j+4=>exact z8 _
 |2,0=>exact(y1 fun q=>bl q.symm).trans (Ee rfl bl)
 |2,1=>rfl
 |2,2=>exact y2
 |2,3=>rfl
 |2,j+4=>exact z8 _
 |3,0=>rfl
 |3,1=>exact(y1 fun q=>R q.symm).trans (Ee rfl R)
 |3,2=>rfl
 |3,3=>exact y2
 |3,j+4=>exact z8 _
 |i+4,j=>exact ZY _
theorem aeU {t1 aa:ej}(bl:dq dJ≠dq aa)(R:dq t1≠dq d1):fp (kf (rQ dJ t1 aa d1))=.list (FJ dJ t1 aa d1 (nc dJ aa) (nc t1 d1)):=by have e:kf (rQ dJ t1 aa d1)=(qy (fun i j=>ltV 4 ((rQ dJ t1 aa d1).getD i .none) ((rQ dJ t1 aa d1).getD j .none)) (oP 4)).toList.map fun i=>(rQ dJ t1 aa d1).getD i .none:=rfl;rw[e,VN bl R];cases nc dJ aa<;>cases nc t1 d1<;>kernel_rfl
def gi (al f1:Bool)(dJ t1 aa d1:ej):an:=match al with
 |true=>(match f1 with
  |true=>.list (FJ dJ t1 aa d1 (nc dJ aa) (nc t1 d1))
  |false=>.list [e6 1 dJ 1 0 2,e6 2 t1 1 1 1])
 |false=>(match f1 with
  |true=>.list [e6 1 aa 2 0 2,e6 2 d1 2 1 1]
  |false=>.ints [])
def tT (al f1:Bool)(dJ t1 aa d1:ej):List V:=(bV al f1 (a6 1 dJ) (a6 2 t1) (a6 1 aa) (a6 2 d1)).map fun e=>.tup [e.1,e.2]
theorem xd {t1 aa:ej}(bl:dq dJ≠dq aa)(R:dq t1≠dq d1)(al f1:Bool):fp (kf (tT al f1 dJ t1 aa d1))=gi al f1 dJ t1 aa d1:=by
 cases al<;>cases f1
 .rfl
 .kernel_rfl
 .kernel_rfl
 .exact aeU bl R
def rb (su:ff)(au bq br:Int)(al f1:Bool):List an:=[gx su,.dict [(.str (a7 "now"),.int au),(.str (a7 "until"),.ref 2),(.str (a7 "flows"),.ref 3)] 3,.ints [bq,br],.list [.bool al,.bool f1]]
def ES (al f1:Bool)(dJ t1 aa d1:ej):an:=match al||f1 with|true=>.list (tT al f1 dJ t1 aa d1)|false=>.ints []
abbrev cG (xs:List Int)(su:ff)(cB:er)(au bq br:Int)(al f1:Bool)(G:List an):List an:=QK xs su cB au bq br al f1++G
section
variable {xs:List Int}{G:List an}
theorem Ju:∀al f1:Bool,cR (bh aT (m+2)) aP vh [.ref 0,.ref 1] (rb su au bq br al f1) K=
 K (.ref 5) (rb su au bq br al f1++[ES al f1 (su.tup false false) (su.tup false true) (su.tup true false) (su.tup true true),fp (kf (tT al f1 (su.tup false false) (su.tup false true) (su.tup true false) (su.tup true true)))]):=all2 (by kernel_rfl)
theorem UR (al f1:Bool){t1 aa:ej}:iq [1,15,13,14] (cG xs su cB au bq br al f1 G) (.ref 5) (rb su au bq br al f1++[ES al f1 dJ t1 aa d1,gi al f1 dJ t1 aa d1]) K=
 K (.ref (cG xs su cB au bq br al f1 G).length) (cG xs su cB au bq br al f1 G++[gi al f1 dJ t1 aa d1]):=by
 revert al f1;exact @all2 _ _ _ (by kernel_rfl)
end
def adk:List V:=[.str (a7 "which"),.str (a7 "way"),.str (a7 "ttl"),.str (a7 "is_strange"),.str (a7 "iif"),.str (a7 "step"),.str (a7 "shape"),.str (a7 "pair")]
def adl (r:Nat):eb:=.cons .i<|.cons .i<|.cons .i<|.cons .b<|.cons .i<|.cons .i<|.cons (hH r)<|.cons ni .nil
abbrev jE:Type:=Int×Int×Int×Bool×Int×Int×Unit×dt×Unit
def hn (r:Nat)(x:jE):an:=td (.d adk (adl r) 8) x
noncomputable def Gf (a b:Bool):Int:=match a with
 |true=>(match b with|true=>3|false=>2)
 |false=>(match b with|true=>1|false=>0)
noncomputable def a0 (b:Bool):Int:=match b with|true=>1|false=>0
noncomputable def agr (t:Int):Int:=([64,2,1,255,0,3,64,2]:List Int).getD t.toNat 0
noncomputable def stepI (t:Int):Int:=([0,1,500,4000,119999,120000,432000000,3999]:List Int).getD t.toNat 0
noncomputable def V4 (t:Int):Int:=([16,24,17,16,20,18,16,0]:List Int).getD t.toNat 0
noncomputable def ag3 (t:Int):Int:=([0,16384,0,16384,0,8192,3,8193]:List Int).getD t.toNat 0
def CL (d:Int):List Int:=([250,3,255]:List Int).take d.toNat
def gG (a:Bool)(aw:Bool):Int:=match a with|true=>2-a0 aw|false=>1+a0 aw
noncomputable def dG (b:Bool)(p:dt):dt:=match b with|true=>((p.1.1,(p.1.2.1+1000)% 65536,()),p.2.1,())|false=>p
def C0 (p aH eS iW st:Int)(jM:Bool→Prop):Prop:=
 cY (0≤st∧st<2^62) (cY (st.toNat<8) (cY (0≤aH∧aH<2^62) (cY (aH.toNat<8) (cY (0≤eS∧eS<2^62) (cY (eS.toNat<8) (ao (gw none&&gw (E iW)) (ao (decide (p=7)) (jM true) (jM false)) False))))))
def JB (t f p aH eS iW st:Int)(jM:Bool→Bool→Prop):Prop:=
 cY (0≤t∧t<2^62) (cY (t.toNat<8) (ao (decide (f=7)) (C0 p aH eS iW st (jM true)) (C0 p aH eS iW st (jM false))))
def Jz (su:ff)(av aw a b:Bool)(t p st:Int):jE:=(a0 av,a0 aw,agr t,decide (p=7),gG a aw,stepI st,(),dG b (su.ends.at_ av aw),())
def JA (aH n9 eS cA nV:Int):jh:=(V4 aH,decide (n9=3),ag3 eS,(),decide (cA=3),decide (nV=7),())
section
variable {xs:List Int}{d0 t p aH n9 eS iW cA nV:Int}{dw g1 bL g3:an}
def Jy (w y t f p aH n9 eS iW cA nV st:Int):List V:=[.ref 0,.ref 1,.int w,.int y,.int t,.int f,.int p,.int aH,.int n9,.int eS,.int iW,.int cA,.int nV,.int st,.aR,.aR,.aR]
noncomputable def Tv (n:Int):List Int:=[n% 4,n/4% 2,n/4/2% 8,n/4/2/8% 8,n/4/2/8/8% 8]
noncomputable def Tw (n:Int):List Int:=[n% 8,n/8% 4,n/8/4% 8,n/8/4/8% 4,n/8/4/8/4% 4,n/8/4/8/4/4% 8,n/8/4/8/4/4/8% 8]
theorem UN:b3 (bh aT (m+2)) aP (fz 2 vg.body) [.ref 0,.ref 1,.aR,.aR,.aR,.aR,.aR,.aR,.aR,.aR,.aR,.aR,.aR,.aR,.aR,.aR,.aR] [gx su,.ints [d0,dN]] K'=
 K' .next (Jy (d0% 4) (d0/4% 2) (d0/4/2% 8) (d0/4/2/8% 8) (d0/4/2/8/8% 8) (dN% 8) (dN/8% 4) (dN/8/4% 8) (dN/8/4/8% 4) (dN/8/4/8/4% 4) (dN/8/4/8/4/4% 8) (dN/8/4/8/4/4/8% 8))
  [gx su,.ints [d0,dN],.ints [4,2,8,8,8],.ints (Tv d0),.ints [8,4,8,4,4,8,8],.ints (Tw dN)]:=by kernel_rfl
def Jx (su:ff)(d0 dN:Int)(dw g1 bL g3:an)(av aw a b:Bool)(t p aH n9 eS iW cA nV st:Int):List an:=
 [gx su,.ints [d0,dN],dw,g1,bL,g3,hn 7 (Jz su av aw a b t p st),dI 9 (JA aH n9 eS cA nV),.ints [250,3,255],.ints (CL iW)]
theorem UO:∀iA oA aw:Bool,b3 (bh aT (m+2)) aP (cm 2 vg.body) (Jy (Gf iA oA) (a0 aw) t f p aH n9 eS iW cA nV st) [gx su,.ints [d0,dN],dw,g1,bL,g3] (e1 K)=
 JB t f p aH eS iW st (fun a b=>K (.ref 6) (Jx su d0 dN dw g1 bL g3 (iA&&oA) aw a b t p aH n9 eS iW cA nV st)):=oX (by kernel_rfl)
theorem UP {a b:an}(av aw p0 c6:Bool):iq [1,18] (cG xs su cB au bq br al f1 [a,b,.ints [d0,dN]]) (.ref 6) (Jx su d0 dN dw g1 bL g3 av aw p0 c6 t p aH n9 eS iW cA nV st) K=
 K (.ref 19) (cG xs su cB au bq br al f1 [a,b,.ints [d0,dN],hn 20 (Jz su av aw p0 c6 t p st),dI 21 (JA aH n9 eS cA nV),.ints (CL iW)]):=by kernel_rfl
end
noncomputable def Pg (b x y:Bool):Bool:=match b with|true=>y|false=>x
noncomputable def Av (b:Bool)(x y:pY):pY:=match b with|true=>x|false=>y
def od (e:fw)(s t av aw:Bool)(p:dt):dt:=match av with
 |true=>(p.1,p.2.1,())
 |false=>(Av (Pg aw s t) (e.at_ false (!aw)).2.1 p.1,Av (Pg aw t s) (e.at_ false (!aw)).1 p.2.1,())
def vm (su:ff)(rw:jE)(sx:jh)(S:List Int):List an:=[gx su,hn 2 rw,dI 3 sx,.ints S]
section
variable {xs:List Int}{e:fw}{d0 step:Int}{cut:Bool}{p:dt}
def i8 (nf pr:Int)(p:dt)(Y:Int)(S:List Int)(ai cut:Bool):List Int:=A9 nf pr p.1.1 p.1.2.1 p.2.1.1 p.2.1.2.1 Y S ai cut
def mG (nf pr X:Int)(p:dt)(W:Int)(L:Bool)(ins:List Int):List Int:=sD nf pr X p.1.1 p.2.1.1 W L ins
def sC (nf pr X:Int)(p:dt)(W:Int)(L:Bool)(ins:List Int):Bool:=dg ins.length 1000&&o9 (mG nf pr X p W L ins)
def Ax (nf pr X:Int)(p q:dt)(W:Int)(L dh:Bool)(BZ aG:List Int)(K:V→Prop):Prop:=
 ao (sC nf pr X p W L BZ) (ao (ltI 1 X) (ao (sC nf pr (X-1) q W L aG) (K (.tup [.bytes (mG nf pr X p W L BZ),.bytes (mG nf pr (X-1) q W L aG),.bool dh])) False)
  (ao (sC nf pr X q W L aG) (K (.tup [.bytes (mG nf pr X p W L BZ),.bytes (mG nf pr X q W L aG),.bool dh])) False)) False
def NW (nf pr X:Int)(p q:dt)(Y W:Int)(L ai cut dh:Bool)(S:List Int)(K:V→List an→Prop):Prop:=
 ao (iz pr&&hv S) (ao dh (Ax nf pr X p q W L dh (i8 nf pr p Y S ai cut) (i8 nf pr p Y S ai cut) (fun v=>K v [.ints (i8 nf pr p Y S ai cut)]))
  (ao (iz pr&&hv S) (Ax nf pr X p q W L dh (i8 nf pr p Y S ai cut) (i8 nf pr q Y S ai cut) (fun v=>K v [.ints (i8 nf pr p Y S ai cut),.ints (i8 nf pr q Y S ai cut)])) False)) False
noncomputable def Mi (nf W:Int):Bool:=match decide (nf=2) with|true=> !decide (W% 8192=0)|false=>false
theorem U2:∀n s t av aw:Bool,cR (bh aT (m+5)) aP yg [.ref 0,.ref 1] (vm (cy n,pr,s,t,wy,ca,e,()) (a0 av,a0 aw,X,hF,iif,step,(),p,()) (Y,L,W,(),ai,cut,()) S) K=
 NW (cy n) pr X p (od e s t av aw p) Y W L ai cut (Mi (cy n) W) S (fun v G=>K v (vm (cy n,pr,s,t,wy,ca,e,()) (a0 av,a0 aw,X,hF,iif,step,(),p,()) (Y,L,W,(),ai,cut,()) S++G)):=jF (by kernel_rfl)
theorem U3 {rw:jE}{a b c x:an}{A B:List Int}{l:Bool}:iq [1,19,20,21] (cG xs su cB au bq br al f1 [a,b,c,hn 20 rw,dI 21 sx,.ints S]) (.tup [.bytes B,.bytes A,.bool l]) (vm su rw sx S++[x]) K=
 K (.tup [.bytes B,.bytes A,.bool l]) (cG xs su cB au bq br al f1 [a,b,c,hn 20 rw,dI 21 sx,.ints S]):=by kernel_rfl
theorem U4 {rw:jE}{a b c x y:an}{A B:List Int}{l:Bool}:iq [1,19,20,21] (cG xs su cB au bq br al f1 [a,b,c,hn 20 rw,dI 21 sx,.ints S]) (.tup [.bytes B,.bytes A,.bool l]) (vm su rw sx S++[x,y]) K=
 K (.tup [.bytes B,.bytes A,.bool l]) (cG xs su cB au bq br al f1 [a,b,c,hn 20 rw,dI 21 sx,.ints S]):=by kernel_rfl
end
def ud:List Bool→Prop→Prop→Prop
 | [],_,r=>r
 |c::cs,no,r=>ao c no (ud cs no r)
theorem ER {r:Prop}:∀{cs:List Bool},cs.any id=true→Ev no→Ev (ud cs no r)
 | [],h,_=>nomatch h
 |c::cs,h,k=>dO (fun _=>k) fun e=>ER (by
  rw[List.any_cons,uU] at h;rcases h with h|h
  .rw[show id c=c from rfl,e] at h;exact dW h
  .exact h) k
theorem w4 {r:Prop}:∀{cs:List Bool},cs.any id=false→Ev r→Ev (ud cs no r)
 | [],_,k=>k
 |c::cs,h,k=>by rw[List.any_cons,Bk] at h;exact ec h.1 (w4 h.2 k)
noncomputable def i5 {a4:Type}(b:Bool)(x y:a4):a4:=match b with|true=>y|false=>x
noncomputable def si (av al:Bool)(x:Bool):Bool:=match av with|true=>al|false=>x
noncomputable def sj (av f1:Bool)(x:Bool):Bool:=match av with|true=>x|false=>f1
noncomputable def xb (av:Bool)(bq x:Int):Int:=match av with|true=>bq|false=>x
noncomputable def xc (av:Bool)(br x:Int):Int:=match av with|true=>x|false=>br
def ra (su:ff)(au bq br:Int)(al f1:Bool)(rw:jE)(sx:jh)(S:List Int):List an:=rb su au bq br al f1++[hn 5 rw,dI 6 sx,.ints S]
noncomputable def zb (nf W:Int):List Bool:=match decide (nf=2) with|true=>[!decide (W% 16384=0)]|false=>[]
def rt (nf pr au:Int)(aw:Bool)(lb X iif Y W:Int)(l hF ik L cut:Bool)(no e6:Prop)(pass:Int→Prop):Prop:=
 ud [l,hF, !decide (iif=1+a0 aw), !ik,b9 lb au,ltI X 2,L] no (ud (zb nf W) no (ud [cut] no (ao (decide (pr=6))
  (ao (decide (17=Y)||(decide (20=Y)||false)) e6 (ao (decide (Y=18)) no (ao (decide (pr=6)) (pass (au+432000000)) (pass (au+120000))))) (ao (decide (pr=6)) (pass (au+432000000)) (pass (au+120000))))))
section
variable {xs:List Int}{e:fw}{d0 step:Int}{A3 l cut:Bool}{p:dt}
theorem UK:∀n al f1 av aw:Bool,cR (bh aT m) aP yf [.ref 0,.ref 1,.ref 4,.bool l] (ra (cy n,pr,af,A3,wy,ca,e,()) au bq br al f1 (a0 av,a0 aw,X,hF,iif,step,(),p,()) (Y,L,W,(),ai,cut,()) S) K=
 rt (cy n) pr au aw (i5 av bq br) X iif Y W l hF (i5 av al f1) L cut
  (K (.int (-1)) (ra (cy n,pr,af,A3,wy,ca,e,()) au bq br al f1 (a0 av,a0 aw,X,hF,iif,step,(),p,()) (Y,L,W,(),ai,cut,()) S))
  (K (.int (-1)) (ra (cy n,pr,af,A3,wy,ca,e,()) au bq br (si av al false) (sj av f1 false) (a0 av,a0 aw,X,hF,iif,step,(),p,()) (Y,L,W,(),ai,cut,()) S))
  (fun x=>K (.int (2-a0 aw)) (ra (cy n,pr,af,A3,wy,ca,e,()) au (xb av bq x) (xc av br x) al f1 (a0 av,a0 aw,X,hF,iif,step,(),p,()) (Y,L,W,(),ai,cut,()) S)):=jF (by kernel_rfl)
theorem UL {rw:jE}{a b c:an}{r:Int}:iq [1,15,13,14,19,20,21] (cG xs su cB au bq br al f1 [a,b,c,hn 20 rw,dI 21 sx,.ints S]) (.int r) (ra su au cX dQ bl R rw sx S) K=
 K (.int r) (cG xs su cB au cX dQ bl R [a,b,c,hn 20 rw,dI 21 sx,.ints S]):=by kernel_rfl
def rr (nf au:Int)(aw:Bool)(lb X iif W:Int)(l hF ik L cut:Bool):Bool:=
 !([l,hF, !decide (iif=1+a0 aw), !ik,b9 lb au,ltI X 2,L].any id||((zb nf W).any id||cut))
theorem TU {lb:Int}{ik:Bool}{e6:Prop}{pass:Int→Prop}(h:rr nf au aw lb X iif W l hF ik L cut=false)(k:Ev no):Ev (rt nf pr au aw lb X iif Y W l hF ik L cut no e6 pass):=by
 unfold rr at h;rw[uS,uU,uU] at h;unfold rt;cases dC:[l,hF, !decide (iif=1+a0 aw), !ik,b9 lb au,ltI X 2,L].any id with
 |true=>exact ER dC k
 |false=>
  refine w4 dC ?_;rw[dC] at h;cases dU:(zb nf W).any id with
  |true=>exact ER dU k
  |false=>
   refine w4 dU ?_;rw[dU] at h;have:cut=true:=by
    rcases h with h|h|h
    .exact dW h
    .exact dW h
    .exact h
   exact cv this k
theorem TS {lb:Int}{ik:Bool}{e6:Prop}{pass:Int→Prop}(h:rr nf au aw lb X iif W l hF ik L cut=true)
 (k:Ev (ao (decide (pr=6)) (ao (decide (Y=17)||decide (Y=20)) e6 (ao (decide (Y=18)) no (pass (au+432000000)))) (pass (au+120000)))):Ev (rt nf pr au aw lb X iif Y W l hF ik L cut no e6 pass):=by
 unfold rr at h;rw[km,Bk,Bk] at h;unfold rt;refine w4 h.1 (w4 h.2.1 (ec h.2.2 ?_));refine dO (fun e=>?_) fun e=>?_
 .have k:=jm e k;rw[uV,decide_eq_decide.mpr (eq_comm (a:=(17:Int)) (b:=Y)),decide_eq_decide.mpr (eq_comm (a:=(20:Int)) (b:=Y))];refine dO (fun aJ=>jm aJ k) fun aJ=>?_;have k:=iZ aJ k;exact dO (fun cI=>jm cI k) fun cI=>cv e (iZ cI k)
 .exact ec e (iZ e k)
end
def l4 (su:ff)(cB:er)(rw:jE)(sx:jh)(S:List Int):List an:=[gx su]++(dz 1 cB++[hn 13 rw,dI 14 sx,.ints S])
def nM (su:ff)(cB:er)(rw:jE)(sx:jh)(S:List Int)(au T U N ag:Int)(d:List Int)(i:Int):List an:=l4 su cB rw sx S++(sW 15 T U N ag d i 0++
 [.dict [] 0,.dict (oG w9 [.ref 15,.int au,.str (a7 "input"),.none,.int 1,.int 0,.ref 1,.ref 23,.ref 24,.ref 20,.ref 25,.ref 26,.ref 27,.ref 28,.str (a7 "little"),.ref 29,.ref 30,.none,.ref 31]) 19,.inst 21,
  .dict [] 0,.dict [] 0,.dict [] 0,.dict [] 0,.dict [] 0,.dict [] 0,.ints [],.ints [],.dict [] 0])
def w5 (n:Bool)(d:List Int)(aG:Int→Int→Int→Prop):Prop:=match n with
 |true=>ao (dg 20 d.length&&decide (d.getD 0 0=69)) (aG (d.getD 9 0) (og 20 d) (k4 d)) (ao (dg 24 d.length&&decide (d.getD 0 0=70)) (aG (d.getD 9 0) (og 24 d) (k4 d)) False)
 |false=>ao (dg 40 d.length&&decide (d.getD 0 0=96)) (ao (iz (d.getD 6 0)) (aG (d.getD 6 0) 40 0) (ao (decide (d.getD 6 0=60)&&(dg 48 d.length&&(decide (d.getD 41 0=0)&&iz (d.getD 40 0)))) (aG (d.getD 40 0) 48 0) False)) False
def n8 (au:Int)(d:List Int)(a b c:V):List V:=[.ref 0,.ref 1,.ref 12,.int au,.bytes d,a,b,c]
section
variable {fn:Nat}{s:Int×Bool×Bool×Int×Int×fw×Unit}{rw:jE}{d:List Int}{t1 aa:c8}
theorem UU:∀n:Bool,b3 (bh aT (m+10)) aP (fz 4 nK.body) (n8 au d .aR .aR .aR) (l4 (cy n,s) cB rw sx S) K'=
 w5 n d fun U N ag=>K' .next (n8 au d (.ref 15) (.ref 22) .aR) (nM (cy n,s) cB rw sx S au (cD n) U N ag d rw.2.2.2.2.1):=all1 (by kernel_rfl)
theorem UV:b3 C aP (fz 1 (cm 4 nK.body)) (n8 au d (.ref 15) (.ref 22) .aR) H K'=C DX [.ref 22] H fun v aq=>K' .next (n8 au d (.ref 15) (.ref 22) v) aq:=by kernel_rfl
theorem UW {rp:List Int}{T U N ag i r:Int}{gK gL:ej}:b3 C aP (cm 5 nK.body) (n8 au rp (.ref 15) (.ref 22) (.int r)) (nM su (bu t1 aa (bV al f1 (a6 1 dJ) (a6 2 gK) (a6 1 gL) (a6 2 d1)) fn) rw sx S au T U N ag d i) (e1 K)=
 K (.tup [.int r,.bytes d,.ref 32,.ref 33]) (nM su (bu t1 aa (bV al f1 (a6 1 dJ) (a6 2 gK) (a6 1 gL) (a6 2 d1)) fn) rw sx S au T U N ag d i++[.ints [t1.kM,aa.kM],fp (kf (tT al f1 dJ gK gL d1))]):=by
 revert al f1;exact @all2 _ _ _ (by kernel_rfl)
noncomputable def qR:List Nat:=[22,21,15,16,17,18,19,1,2,3,4,5,6,7,8,9,10,11,23,24,20,25,26,27,28,29,30,31]
section
variable {T U N ag i:Int}
theorem ZA:∀al f1:Bool,reach (nM su (bu t1 aa (bV al f1 bw ba bK bR) fn) rw sx S au T U N ag d i) 300 (kJ [.ref 22]) []=qR:=all2 (by kernel_rfl)
theorem Zz:∀al f1:Bool,(i4 qR&&iL (eV qR) [.ref 22]&&qR.all (lL (eV qR) (nM su (bu t1 aa (bV al f1 bw ba bK bR) fn) rw sx S au T U N ag d i)))=true:=all2 (by kernel_rfl)
theorem Zy:∀al f1:Bool,(qR.map fun l=>jP (iM qR) (j5 (nM su (bu t1 aa (bV al f1 bw ba bK bR) fn) rw sx S au T U N ag d i) l))=fE au 1 0 T U N ag d i 0 (bu t1 aa (bV al f1 bw ba bK bR) fn):=all2 (by kernel_rfl)
theorem Zx {r:Int}:∀dw g1:Bool,iq qR (nM su cB rw sx S au T U N ag d i) (.int r) (fE au 1 0 T U N ag d' i 0 (bu gK gL (bV dw g1 bw ba bK bR) gd)) K=K (.int r) (nM su (bu gK gL (bV dw g1 bw ba bK bR) gd) rw sx S au T U N ag d' i):=all2 (by kernel_rfl)
theorem ZB:xe [.ref 0] (fE au 1 0 T U N ag d i 0 (bu t1 aa (bV al f1 bw ba bK bR) fn)) K=uD au 1 0 T U N ag d i 0 t1 aa (bV al f1 bw ba bK bR) fn K:=by kernel_rfl
end
end
def oV (au T U N:Int)(d:List Int)(i:Int)(t1 aa:c8)(aH:List (V×V))(fn:Nat)(iK:Int)(d':List Int)(gK gL:c8)(y9:List (V×V))(gd:Nat):Prop:=
 ∀(dc isr ag o:Int) (K:bI),Ev (K (.int iK) (fE au dc isr T U N ag d' i o (bu gK gL y9 gd)))→Ev (uD au dc isr T U N ag d i o t1 aa aH fn K)
def sX (n:Bool)(d:List Int)(U N ag:Int):Prop:=∀aG:Int→Int→Int→Prop,Ev (aG U N ag)→Ev (w5 n d aG)
theorem VA {k r:Nat}{bD:Spec}{vs0:List V}{H0:List an}(cr:aT k=E ⟨r,false,fun _=>bD⟩)(am:dg r n=true)(R:reach H 300 (kJ vs) []=sel)
 (Z:(i4 sel&&iL (eV sel) vs&&sel.all (lL (eV sel) H))=true)(bv:mv (iM sel) vs=vs0)(cZ:(sel.map fun l=>jP (iM sel) (j5 H l))=H0)(h:Ev (bD vs0 H0 (fun r aq=>iq sel H r aq K))):Ev (bh aT (n+1) k vs H K):=by
 refine⟨?_⟩;unfold bh;rw[cr];refine(?_:ao (dg r n) (qb bD vs H K) False);unfold qb CU;rw[R,am,Z,bv,cZ];exact h.out
theorem VO (m:Nat)(n:Bool){s:Int×Bool×Bool×Int×Int×fw×Unit}{rw:jE}{d:List Int}{t1 aa:c8}{U N ag:Int}{bq br pE pF:ej}{fn:Nat}
 (a8:sX n d U N ag)(cW:oV au (cD n) U N d rw.2.2.2.2.1 t1 aa (bV al f1 (a6 1 bq) (a6 2 br) (a6 1 pE) (a6 2 pF)) fn iK d' gK gL (bV dw g1 (a6 1 bq) (a6 2 br) (a6 1 pE) (a6 2 pF)) gd)
 (aL:dq bq≠dq pE)(kF:dq br≠dq pF)
 (k:Ev (K (.tup [.int iK,.bytes d',.ref 32,.ref 33]) (nM (cy n,s) (bu gK gL (bV dw g1 (a6 1 bq) (a6 2 br) (a6 1 pE) (a6 2 pF)) gd) rw sx S au (cD n) U N ag d' rw.2.2.2.2.1++[.ints [gK.kM,gL.kM],gi dw g1 bq br pE pF]))):
 Ev (cR (bh aT (m+10)) aP nK [.ref 0,.ref 1,.ref 12,.int au,.bytes d] (l4 (cy n,s) (bu t1 aa (bV al f1 (a6 1 bq) (a6 2 br) (a6 1 pE) (a6 2 pF)) fn) rw sx S) K):=by
 have ma:cm 1 (cm 4 nK.body)=cm 5 nK.body:=by kernel_rfl
 refine aK (qP (loc:=n8 au d .aR .aR .aR) rfl (by kernel_rfl)) ?_;refine aK (gk 4 _ _ _ _) ?_;refine aK (UU n) (a8 _ ?_);refine aK fh ?_;refine aK (gk 1 (cm 4 nK.body) _ _ _) ?_;refine aK UV ?_;rw[ma];refine VA (n:=m+9) (r:=8) (vs0:=[.ref 0]) (bD:=xe) (by kernel_rfl) rfl (ZA al f1) (Zz al f1) (by kernel_rfl) (Zy al f1) ?_;refine aK ZB (cW _ _ _ _ _ ?_);refine aK (Zx dw g1) ?_;refine aK fh ?_;refine aK UW ?_;rw[xd aL kF];exact k
noncomputable def ju:List Nat:=[1,2,3,4,5,6,7,8,9,10,11,12,19,20,21]
section
variable {xs d:List Int}{rw:jE}{t1 aa:c8}{a b c q:an}{fn:Nat}
theorem Y8:∀al f1:Bool,reach (cG xs su (bu t1 aa (bV al f1 bw ba bK bR) fn) au cX dQ bl R [a,b,c,hn 20 rw,dI 21 sx,.ints S,q]) 300 (kJ [.ref 1,.ref 2,.ref 19,.int au,.bytes d]) []=ju:=all2 (by kernel_rfl)
theorem Y7:∀al f1:Bool,(i4 ju&&iL (eV ju) [.ref 1,.ref 2,.ref 19,.int au,.bytes d]&&ju.all (lL (eV ju) (cG xs su (bu t1 aa (bV al f1 bw ba bK bR) fn) au cX dQ bl R [a,b,c,hn 20 rw,dI 21 sx,.ints S,q])))=true:=all2 (by kernel_rfl)
theorem Y6:∀al f1:Bool,(ju.map fun l=>jP (iM ju) (j5 (cG xs su (bu t1 aa (bV al f1 bw ba bK bR) fn) au cX dQ bl R [a,b,c,hn 20 rw,dI 21 sx,.ints S,q]) l))=l4 su (bu t1 aa (bV al f1 bw ba bK bR) fn) rw sx S:=all2 (by kernel_rfl)
theorem Y5 {T U N ag i r:Int}{bX:List Int}(dw g1:Bool){bq br pE pF:ej}:iq ju (cG xs su cB au cX dQ bl R [a,b,c,hn 20 rw,dI 21 sx,.ints S,q]) (.tup [.int r,.bytes d,.ref 32,.ref 33])
 (nM su (bu t1 aa (bV dw g1 bw ba bK bR) fn) rw sx S au T U N ag fk i++[.ints bX,gi dw g1 bq br pE pF]) K=
 K (.tup [.int r,.bytes d,.ref 23,.ref 24]) (cG xs su (bu t1 aa (bV dw g1 bw ba bK bR) fn) au cX dQ bl R [a,b,c,hn 20 rw,dI 21 sx,.ints S,q,.ints bX,gi dw g1 bq br pE pF]):=by revert dw g1;exact @all2 _ _ _ (by kernel_rfl)
end
def d6 (av:Bool)(t1 aa:c8):c8:=match av with|true=>aa|false=>t1
noncomputable def Pt (av:Bool):V:=match av with|true=>.ref 7|false=>.ref 5
def rd (su:ff)(cB:er)(rw:jE)(sx:jh)(S:List Int)(au:Int)(av aw:Bool)(T U N ag:Int)(d:List Int):List an:=l4 su cB rw sx S++(sW 15 T U N ag d 0 0++
 [.dict [] 0,.dict (oG w9 [.ref 15,.int au,.str (a7 "input"),Pt av,.int 1,.int (a0 aw),.none,.ref 23,.ref 24,.ref 20,.ref 25,.ref 26,.ref 27,.ref 28,.str (a7 "little"),.ref 29,.ref 30,.none,.ref 31]) 19,.inst 21,
  .dict [] 0,.dict [] 0,.dict [] 0,.dict [] 0,.dict [] 0,.dict [] 0,.ints [],.ints [],.dict [] 0])
def AK (T U N cK rj:Int)(g:ej)(af:Bool)(a p:Int)(d:List Int)(cN:List Int→Prop):Prop:=
 ao (decide (Builtin.bitAnd cK rj=0)) (cN d) (ao ((decide (U=6)||decide (U=17))&&(decide (T=2048)||decide (T=34525))) (ao (iz g.2.1&&(decide (g.1=2)||decide (g.1=10)))
  (ao (AE T U g.1 g.2.1) (ao (se T U N af a p d) (cN (kL T U N af p (hE T U N af a d))) False) False) False) False)
def CP (T U N:Int)(d:List Int)(cN:Bool→List Int→Prop):Prop:=
 ao (hc T d 9 8) (ao (b9 (i9 T d) 1) (cN false d) (ao (gf T U N im (nr T) 1 d) (cN true (lA T U N d)) False)) False
section
variable {s:Int×Bool×Bool×Int×Int×fw×Unit}{d:List Int}{t1 aa:c8}{aH:List (V×V)}{fn:Nat}{step T U N ag:Int}{p:dt}
abbrev pv (av aw:Bool)(X:Int)(hF:Bool)(iif step:Int)(p:dt):jE:=(a0 av,a0 aw,X,hF,iif,step,(),p,())
theorem UX:∀n av aw:Bool,b3 (bh aT (m+10)) aP (fz 4 pQ.body) (n8 au d .aR .aR .aR) (l4 (cy n,s) (bu t1 aa aH fn) (pv av aw X hF iif step p) sx S) K'=
 w5 n d fun U N ag=>K' .next (n8 au d (.ref 15) (.ref 22) .aR) (rd (cy n,s) (bu t1 aa aH fn) (pv av aw X hF iif step p) sx S au av aw (cD n) U N ag d):=oX (by kernel_rfl)
theorem UY (av aw:Bool){rw:jE}{rp:List Int}:b3 (bh aT (m+10)) aP (cm 4 pQ.body) (n8 au rp (.ref 15) (.ref 22) .aR) (rd su (bu t1 aa aH fn) rw sx S au av aw T U N ag d) (e1 K)=
 AK T U N (d6 av t1 aa).cK (g9 false (a0 aw)) (gX (d6 av t1 aa) (a0 aw)) false (gX (d6 av t1 aa) (a0 aw)).2.2.1 (gX (d6 av t1 aa) (a0 aw)).2.2.2.1 d fun dN=>
  AK T U N (d6 av t1 aa).cK (g9 true (a0 aw)) (gX (d6 av t1 aa) (a0 aw)) true (gX (d6 av t1 aa) (a0 aw)).2.2.2.2.1 (gX (d6 av t1 aa) (a0 aw)).2.2.2.2.2.1 dN fun ku=>
   CP T U N ku fun b iV=>K (.tup [.bool b,.bytes iV]) (rd su (bu t1 aa aH fn) rw sx S au av aw T U N ag iV):=by revert av aw;exact @all2 _ _ _ (by kernel_rfl)
theorem OT {cK rj a p:Int}{g:ej}{cN:List Int→Prop}(c:((decide (U=6)||decide (U=17))&&(decide (T=2048)||decide (T=34525)))=true)(yO:(iz g.2.1&&(decide (g.1=2)||decide (g.1=10)))=true)
 (ok:uo T U N g.1 g.2.1 (hC cK rj) af a p d=true)(k:Ev (cN (un T U N (hC cK rj) af a p d))):Ev (AK T U N cK rj g af a p d cN):=by
 unfold AK;unfold hC at ok k;refine dO (fun e=>?_) fun e=>?_
 .rw[e] at k;exact k
 .rw[e] at k ok;refine b4 ok fun g1 bL=>?_;exact cv c (cv yO (cv g1 (cv bL k)))
def tR (T U N:Int)(d:List Int):List Int:=match b9 (i9 T d) 1 with|true=>d|false=>lA T U N d
theorem TF {cN:Bool→List Int→Prop}(vP:hc T d 9 8=true)(go:b9 (i9 T d) 1=false→gf T U N im (nr T) 1 d=true)(k:Ev (cN (!b9 (i9 T d) 1) (tR T U N d))):Ev (CP T U N d cN):=by
 unfold CP;unfold tR at k;refine cv vP (dO (fun e=>?_) fun e=>?_)
 .rw[e] at k;exact k
 .rw[e] at k;exact cv (go e) k
theorem aeP (m:Nat)(n av aw:Bool)(a8:sX n d U N ag)(c:((decide (U=6)||decide (U=17))&&(decide (cD n=2048)||decide (cD n=34525)))=true)
 (yO:(iz (gX (d6 av t1 aa) (a0 aw)).2.1&&(decide ((gX (d6 av t1 aa) (a0 aw)).1=2)||decide ((gX (d6 av t1 aa) (a0 aw)).1=10)))=true)
 (g1:tZ (cD n) U N (d6 av t1 aa).cK (a0 aw) (gX (d6 av t1 aa) (a0 aw)) d=true)
 (vP:hc (cD n) (ng (cD n) U N (d6 av t1 aa).cK (a0 aw) (gX (d6 av t1 aa) (a0 aw)) d) 9 8=true)
 (go:b9 (i9 (cD n) (ng (cD n) U N (d6 av t1 aa).cK (a0 aw) (gX (d6 av t1 aa) (a0 aw)) d)) 1=false→gf (cD n) U N im (nr (cD n)) 1 (ng (cD n) U N (d6 av t1 aa).cK (a0 aw) (gX (d6 av t1 aa) (a0 aw)) d)=true)
 (k:Ev (K (.tup [.bool (!b9 (i9 (cD n) (ng (cD n) U N (d6 av t1 aa).cK (a0 aw) (gX (d6 av t1 aa) (a0 aw)) d)) 1),.bytes (tR (cD n) U N (ng (cD n) U N (d6 av t1 aa).cK (a0 aw) (gX (d6 av t1 aa) (a0 aw)) d))])
  (rd (cy n,s) (bu t1 aa aH fn) (pv av aw X hF iif step p) sx S au av aw (cD n) U N ag (tR (cD n) U N (ng (cD n) U N (d6 av t1 aa).cK (a0 aw) (gX (d6 av t1 aa) (a0 aw)) d))))):
 Ev (cR (bh aT (m+10)) aP pQ [.ref 0,.ref 1,.ref 12,.int au,.bytes d] (l4 (cy n,s) (bu t1 aa aH fn) (pv av aw X hF iif step p) sx S) K):=by
 refine aK (qP (loc:=n8 au d .aR .aR .aR) rfl (by kernel_rfl)) ?_;refine aK (gk 4 _ _ _ _) ?_;refine aK (UX n av aw) (a8 _ ?_);refine aK fh ?_;refine aK (UY av aw) ?_;refine b4 g1 fun bL g3=>?_;exact OT c yO bL (OT c yO g3 (TF vP go k))
variable {xs:List Int}{a b q x y tj:an}{rw:jE}
theorem Ze:∀al f1:Bool,reach (cG xs su (bu t1 aa (bV al f1 bw ba bK bR) fn) au cX dQ bl R [a,b,tj,hn 20 rw,dI 21 sx,.ints S,q,x,y]) 300 (kJ [.ref 1,.ref 2,.ref 19,.int au,.bytes d]) []=ju:=all2 (by kernel_rfl)
theorem Zd:∀al f1:Bool,(i4 ju&&iL (eV ju) [.ref 1,.ref 2,.ref 19,.int au,.bytes d]&&ju.all (lL (eV ju) (cG xs su (bu t1 aa (bV al f1 bw ba bK bR) fn) au cX dQ bl R [a,b,tj,hn 20 rw,dI 21 sx,.ints S,q,x,y])))=true:=all2 (by kernel_rfl)
theorem Zc:∀al f1:Bool,(ju.map fun l=>jP (iM ju) (j5 (cG xs su (bu t1 aa (bV al f1 bw ba bK bR) fn) au cX dQ bl R [a,b,tj,hn 20 rw,dI 21 sx,.ints S,q,x,y]) l))=l4 su (bu t1 aa (bV al f1 bw ba bK bR) fn) rw sx S:=all2 (by kernel_rfl)
theorem Zb {r:Bool}:∀av aw al f1:Bool,iq ju (cG xs su (bu t1 aa (bV al f1 bw ba bK bR) fn) au cX dQ bl R [a,b,tj,hn 20 rw,dI 21 sx,.ints S,q,x,y]) (.tup [.bool r,.bytes d])
 (rd su (bu t1 aa (bV al f1 bw ba bK bR) fn) rw sx S au av aw T U N ag fk) K=
 K (.tup [.bool r,.bytes d]) (cG xs su (bu t1 aa (bV al f1 bw ba bK bR) fn) au cX dQ bl R [a,b,tj,hn 20 rw,dI 21 sx,.ints S,q,x,y]):=l7 (by kernel_rfl)
end
theorem Nr (bl:0≤c)(R:c<65536):cO (bf c 2)=c:=by refine(?_:(0*256+c/256^1% 256)*256+c/256^0% 256=c);simp only[uY,Bo];lia
theorem aae {o n:List Int}(h:c<65535)(a8:0≤c+wsum n)(a9:wsum o≤65535*((o.length:Int)/2))(aL:0≤wsum n):jr c o n=(c+wsum o-wsum n)% 65535:=by
 unfold jr foldI
 split<;>lia
theorem oC:∀{l r:List Int},l.length% 2=0→wsum (l++r)=wsum l+wsum r
 | [],r,_=>by rw[List.nil_append];simp[wsum]
 | [_],_,h=>by simp at h
 |a::b::l,r,h=>by refine(?_:a*256+b+wsum (l++r)=a*256+b+wsum l+wsum r);rw[oC (by simp only[List.length_cons] at h;lia)];lia
theorem xy:∀{l:List Int},l.length% 2=0→iB l=wsum l
 | [],_=>rfl
 | [_],h=>by simp at h
 |a::b::l,h=>by
  have aF:=xy (l:=l) (by simp only[List.length_cons] at h;lia);have eY:∀(x:Int) (l:List Int),gI (x::b::l)=x::gI l:=fun x l=>rfl;have dX:(gI ((a::b::l).drop 1)).sum=b+(gI (l.drop 1)).sum:=by
   refine(?_:(gI (b::l)).sum=_)
   induction l using List.casesOn with
   |nil=>rfl
   |cons c l=>show(b::gI l).sum=_;rw[List.sum_cons];rfl
  unfold iB at aF⊢;rw[dX,eY,List.sum_cons];refine(?_:_=a*256+b+wsum l);rw[←aF];lia
theorem Gi:∀{l r:List Int},l.length% 2=0→iB (l++r)=wsum l+iB r
 | [],r,_=>by rw[List.nil_append];simp[wsum]
 | [_],_,h=>by simp at h
 |a::b::l,r,h=>by
  have aF:=Gi (l:=l) (r:=r) (by simp only[List.length_cons] at h;lia);have dX:(gI ((a::b::l++r).drop 1)).sum=b+(gI ((l++r).drop 1)).sum:=by
   refine(?_:(gI (b::(l++r))).sum=_);cases l++r with
   |nil=>rfl
   |cons c l=>show(b::gI l).sum=_;rw[List.sum_cons];rfl
  unfold iB at aF⊢;rw[dX];refine(?_:(a::gI (l++r)).sum*256+_=a*256+b+wsum l+_);rw[List.sum_cons];lia
theorem ag4 (a:Int)(k:Nat):0≤wsum (bf a (2*k))∧wsum (bf a (2*k))≤65535*(k:Int):=by have:=Gj (l:=bf a (2*k)) (i7 a _);rw[iu] at this;lia
def eZ (pr X bN bM W:Int)(L:Bool)(c:Int)(ins:List Int):List Int:=(kk pr X bN bM W L ins.length).take 10++bf c 2++(kk pr X bN bM W L ins.length).drop 12++ins
def ey (pr bD dp Y:Int)(S:List Int)(dL:Int)(cut:Bool):List Int:=A5 pr cut (xm pr dL (mD pr bD dp Y S))
noncomputable def gu (L:Bool):Int:=match L with|true=>24|false=>20
noncomputable def gv (L:Bool):Int:=match L with|true=>48|false=>40
noncomputable def cZ (L:Bool):Int:=match L with|true=>70|false=>69
section
variable {dL a:Int}
noncomputable def hg (af:Bool)(x a:Int):Int:=match af with|true=>a|false=>x
noncomputable def hh (af:Bool)(x a:Int):Int:=match af with|true=>x|false=>a
noncomputable def eN (af:Bool)(bN bM:Int):Int:=match af with|true=>bN|false=>bM
abbrev lq (c o a:Int):Int:=jr (cO (bf c 2)) (bf o 4) (bf a 4)
abbrev th (c o a:Int):Int:=jr (cO (bf c 2)) (bf o 16) (bf a 16)
abbrev p9 (c o a:Int):Int:=jr (cO (bf c 2)) (bf o 2) (bf a 2)
theorem adv:∀L cut af:Bool,dy 2048 6 (gu L) (e0 (cZ L)) false (h5 2048 af) (bf a 4) (eZ 6 X bN bM W L c (ey 6 bD dp Y S dL cut))=
 eZ 6 X (hg af bN a) (hh af bM a) W L (lq c (eN af bN bM) a) (ey 6 bD dp Y S (lq dL (eN af bN bM) a) cut):=oX (by kernel_rfl)
theorem Ov:∀L af:Bool,dy 2048 17 (gu L) (e0 (cZ L)) false (h5 2048 af) (bf a 4) (eZ 17 X bN bM W L c (ey 17 bD dp Y S dL false))=
 mr (decide (cO (bf dL 2)=0)) (eZ 17 X (hg af bN a) (hh af bM a) W L (lq c (eN af bN bM) a) (ey 17 bD dp Y S dL false))
  (eZ 17 X (hg af bN a) (hh af bM a) W L (lq c (eN af bN bM) a) (ey 17 bD dp Y S (jk true (lq dL (eN af bN bM) a)) false)):=all2 (by kernel_rfl)
theorem adt:∀L af:Bool,dy 2048 17 (gu L) (e0 (cZ L)) false (h5 2048 af) (bf a 4) (eZ 17 X bN bM W L c (ey 17 bD dp Y S dL true))=
 eZ 17 X (hg af bN a) (hh af bM a) W L (lq c (eN af bN bM) a) (ey 17 bD dp Y S dL true):=all2 (by kernel_rfl)
theorem adu:∀L af:Bool,dy 2048 pr (-1) (e0 (cZ L)) false (h5 2048 af) (bf a 4) (eZ pr X bN bM W L c ins)=
 eZ pr X (hg af bN a) (hh af bM a) W L (lq c (eN af bN bM) a) ins:=all2 (by kernel_rfl)
theorem adz:∀L cut af:Bool,dy 2048 6 (gu L) (e0 (cZ L)) true (iN af) (bf a 2) (eZ 6 X bN bM W L c (ey 6 bD dp Y S dL cut))=
 eZ 6 X bN bM W L (cO (bf c 2)) (ey 6 (hg af bD a) (hh af dp a) Y S (p9 dL (eN af bD dp) a) cut):=oX (by kernel_rfl)
theorem Ox:∀L af:Bool,dy 2048 17 (gu L) (e0 (cZ L)) true (iN af) (bf a 2) (eZ 17 X bN bM W L c (ey 17 bD dp Y S dL false))=
 mr (decide (cO (bf dL 2)=0)) (eZ 17 X bN bM W L (cO (bf c 2)) (ey 17 (hg af bD a) (hh af dp a) Y S dL false))
  (eZ 17 X bN bM W L (cO (bf c 2)) (ey 17 (hg af bD a) (hh af dp a) Y S (jk true (p9 dL (eN af bD dp) a)) false)):=all2 (by kernel_rfl)
theorem ady:∀L af:Bool,dy 2048 17 (gu L) (e0 (cZ L)) true (iN af) (bf a 2) (eZ 17 X bN bM W L c (ey 17 bD dp Y S dL true))=
 eZ 17 X bN bM W L (cO (bf c 2)) (ey 17 (hg af bD a) (hh af dp a) Y S dL true):=all2 (by kernel_rfl)
abbrev nT (c X pr:Int):Int:=jr (cO (bf c 2)) [X,pr] [X-1,pr]
theorem adE:∀L cut:Bool,dy 2048 6 (gu L) (e0 (cZ L)) false 8 [X-1] (eZ 6 X bN bM W L c (ey 6 bD dp Y S dL cut))=
 eZ 6 (X-1) bN bM W L (nT c X 6) (ey 6 bD dp Y S (cO (bf dL 2)) cut):=all2 (by kernel_rfl)
theorem Oz:∀L:Bool,dy 2048 17 (gu L) (e0 (cZ L)) false 8 [X-1] (eZ 17 X bN bM W L c (ey 17 bD dp Y S dL false))=
 mr (decide (cO (bf dL 2)=0)) (eZ 17 (X-1) bN bM W L (nT c X 17) (ey 17 bD dp Y S dL false))
  (eZ 17 (X-1) bN bM W L (nT c X 17) (ey 17 bD dp Y S (jk true (cO (bf dL 2))) false)):=all1 (by kernel_rfl)
theorem adC:∀L:Bool,dy 2048 17 (gu L) (e0 (cZ L)) false 8 [X-1] (eZ 17 X bN bM W L c (ey 17 bD dp Y S dL true))=
 eZ 17 (X-1) bN bM W L (nT c X 17) (ey 17 bD dp Y S dL true):=all1 (by kernel_rfl)
theorem adD:∀L:Bool,dy 2048 pr (-1) (e0 (cZ L)) false 8 [X-1] (eZ pr X bN bM W L c ins)=eZ pr (X-1) bN bM W L (nT c X pr) ins:=all1 (by kernel_rfl)
theorem adx:∀L cut af:Bool,dy 34525 6 (gv L) (e0 96) false (h5 34525 af) (bf a 16) (en 6 X bN bM L (ey 6 bD dp Y S dL cut))=
 en 6 X (hg af bN a) (hh af bM a) L (ey 6 bD dp Y S (th dL (eN af bN bM) a) cut):=oX (by kernel_rfl)
theorem Ow:∀L af:Bool,dy 34525 17 (gv L) (e0 96) false (h5 34525 af) (bf a 16) (en 17 X bN bM L (ey 17 bD dp Y S dL false))=
 mr (decide (cO (bf dL 2)=0)) (en 17 X (hg af bN a) (hh af bM a) L (ey 17 bD dp Y S dL false))
  (en 17 X (hg af bN a) (hh af bM a) L (ey 17 bD dp Y S (jk true (th dL (eN af bN bM) a)) false)):=all2 (by kernel_rfl)
theorem adw:∀L af:Bool,dy 34525 17 (gv L) (e0 96) false (h5 34525 af) (bf a 16) (en 17 X bN bM L (ey 17 bD dp Y S dL true))=
 en 17 X (hg af bN a) (hh af bM a) L (ey 17 bD dp Y S dL true):=all2 (by kernel_rfl)
theorem adB:∀L cut af:Bool,dy 34525 6 (gv L) (e0 96) true (iN af) (bf a 2) (en 6 X bN bM L (ey 6 bD dp Y S dL cut))=
 en 6 X bN bM L (ey 6 (hg af bD a) (hh af dp a) Y S (p9 dL (eN af bD dp) a) cut):=oX (by kernel_rfl)
theorem Oy:∀L af:Bool,dy 34525 17 (gv L) (e0 96) true (iN af) (bf a 2) (en 17 X bN bM L (ey 17 bD dp Y S dL false))=
 mr (decide (cO (bf dL 2)=0)) (en 17 X bN bM L (ey 17 (hg af bD a) (hh af dp a) Y S dL false))
  (en 17 X bN bM L (ey 17 (hg af bD a) (hh af dp a) Y S (jk true (p9 dL (eN af bD dp) a)) false)):=all2 (by kernel_rfl)
theorem adA:∀L af:Bool,dy 34525 17 (gv L) (e0 96) true (iN af) (bf a 2) (en 17 X bN bM L (ey 17 bD dp Y S dL true))=
 en 17 X bN bM L (ey 17 (hg af bD a) (hh af dp a) Y S dL true):=all2 (by kernel_rfl)
theorem adG:∀L cut:Bool,dy 34525 6 (gv L) (e0 96) false 7 [X-1] (en 6 X bN bM L (ey 6 bD dp Y S dL cut))=
 en 6 (X-1) bN bM L (ey 6 bD dp Y S (cO (bf dL 2)) cut):=all2 (by kernel_rfl)
theorem OA:∀L:Bool,dy 34525 17 (gv L) (e0 96) false 7 [X-1] (en 17 X bN bM L (ey 17 bD dp Y S dL false))=
 mr (decide (cO (bf dL 2)=0)) (en 17 (X-1) bN bM L (ey 17 bD dp Y S dL false))
  (en 17 (X-1) bN bM L (ey 17 bD dp Y S (jk true (cO (bf dL 2))) false)):=all1 (by kernel_rfl)
theorem adF:∀L:Bool,dy 34525 17 (gv L) (e0 96) false 7 [X-1] (en 17 X bN bM L (ey 17 bD dp Y S dL true))=
 en 17 (X-1) bN bM L (ey 17 bD dp Y S dL true):=all1 (by kernel_rfl)
end
theorem tW {so sn k:Int}{o n:List Int}(ax:wsum o=so)(aL:wsum n=sn)(aB:((o.length:Int)/2)=k)(bl:0≤so)(R:so≤65535*k)(Z:0≤sn)(aG:Int):jr (-aG% 65535) o n= -(aG-so+sn)% 65535:=by rw[aae (by lia) (by rw[aL];lia) (by rw[ax,aB];exact R) (by rw[aL];exact Z),ax,aL];lia
theorem Ej {so sn k:Int}{o n:List Int}(ax:wsum o=so)(aL:wsum n=sn)(aB:((o.length:Int)/2)=k)(bl:0≤so)(R:so≤65535*k)(Z:0≤sn)(aG:Int):jk true (jr (fG (-aG% 65535)) o n)=fG (-(aG-so+sn)% 65535):=by
 unfold fG
 by_cases e: -aG% 65535=0
 .rw[decide_eq_true e];refine(?_:jk true (jr 65535 o n)=_);have:jr 65535 o n=65535-foldI (65535*k-so+sn):=by unfold jr;rw[aB,ax,aL];congr 2;lia
  rw[this];unfold foldI
  by_cases aJ:65535*k-so+sn=0
  .rw[if_pos aJ,decide_eq_true (show-(aG-so+sn)% 65535=0 by lia)];rfl
  .rw[if_neg aJ];have cI:65535-((65535*k-so+sn-1)% 65535+1)= -(aG-so+sn)% 65535:=by lia
   rw[cI];unfold jk
   by_cases eU: -(aG-so+sn)% 65535=0
   .rw[decide_eq_true eU]
   .rw[decide_eq_false eU]
 .rw[decide_eq_false e];refine(?_:jk true (jr (-aG% 65535) o n)=_);rw[tW ax aL aB bl R Z];unfold jk
  by_cases eU: -(aG-so+sn)% 65535=0
  .rw[decide_eq_true eU]
  .rw[decide_eq_false eU]
theorem qH (aG:Int):cO (bf (-aG% 65535) 2)= -aG% 65535:=Nr (by lia) (by lia)
theorem At (aG:Int):0<fG (-aG% 65535)∧fG (-aG% 65535)<65536:=by
 unfold fG
 by_cases e: -aG% 65535=0
 .rw[decide_eq_true e];refine(?_:(0:Int)<65535∧(65535:Int)<65536);decide
 .rw[decide_eq_false e];refine(?_:0< -aG% 65535∧ -aG% 65535<65536);lia
theorem w3 (aG:Int):cO (bf (fG (-aG% 65535)) 2)=fG (-aG% 65535):=Nr (oK (At aG).1) (At aG).2
theorem k8 (a:Int)(k:Nat):0≤wsum (bf a (2*k))∧wsum (bf a (2*k))≤65535*(k:Int):=ag4 a k
theorem sl (a:Int)(k:Nat):(((bf a (2*k)).length:Int)/2)=k:=by rw[iu];lia
def rA (pr X W:Int)(L:Bool)(n:Int):Int:=match L with
 |true=>wsum (([70,8,0,20+4+n,17,18]:List Int)++bf W 2++[X,pr,0,0])+wsum [1,1,1,0]
 |false=>wsum (([69,8,0,20+0+n,17,18]:List Int)++bf W 2++[X,pr,0,0])
theorem zj (pr X bN bM W:Int)(L:Bool)(n:Int):iB (kk pr X bN bM W L n)=rA pr X W L n+wsum (bf bN 4)+wsum (bf bM 4):=by
 cases L
 .unfold kk rA;rw[xy (by simp[iu]),List.append_nil,oC (by simp[iu]),oC (by simp[iu])]
 .unfold kk rA;rw[xy (by simp[iu]),oC (by simp[iu]),oC (by simp[iu]),oC (by simp[iu])];dsimp only;lia
theorem W6 (pr X W:Int)(L:Bool)(n:Int):rA pr (X-1) W L n=rA pr X W L n-256:=by
 have e:∀(l:List Int),l.length% 2=0→wsum (l++[X-1,pr,0,0])=wsum (l++[X,pr,0,0])-256:=fun l h=>by rw[oC h,oC h];simp only[wsum];lia
 cases L
 .unfold rA;exact e _ (by simp[iu])
 .unfold rA;refine(?_:wsum (_++[X-1,pr,0,0])+_=wsum (_++[X,pr,0,0])+_-256);rw[e _ (by simp[iu])];lia
def Pz (pr Y:Int)(S:List Int):Int:=match decide (pr=6) with
 |true=>iB (([1,2,3,4,255,254,253,252,80,Y,7,9,0,0,0,0]:List Int)++S)+(20+S.length)
 |false=>iB (([0,8+(S.length:Int),0,0]:List Int)++S)+(8+S.length)
theorem Bb (nf pr bN bD bM dp Y:Int)(S:List Int):h7 nf pr bN bD bM dp Y S=Pz pr Y S+pr+wsum (bf bD 2)+wsum (bf dp 2)+wsum (bf bN (kd nf))+wsum (bf bM (kd nf)):=by
 have hz:(kd nf)% 2=0:=by unfold kd;split<;>rfl
 unfold h7;rw[xy (l:=bf bN (kd nf)) (by rw[iu];exact hz),xy (l:=bf bM (kd nf)) (by rw[iu];exact hz)];unfold mD Pz;cases decide (pr=6) with
 |true=>refine(?_:iB (bf bD 2++bf dp 2++_++S)+pr+((bf bD 2++bf dp 2++_++S).length:Int)+_+_=_);rw[List.append_assoc,Gi (by simp[iu]),oC (by simp[iu])];simp only[List.length_append,iu,List.length_cons,List.length_nil];lia
 |false=>refine(?_:iB (bf bD 2++bf dp 2++_++S)+pr+((bf bD 2++bf dp 2++_++S).length:Int)+_+_=_);rw[List.append_assoc,Gi (by simp[iu]),oC (by simp[iu])];simp only[List.length_append,iu,List.length_cons,List.length_nil];lia
theorem ae1 (x:Int)(k:Nat):bf x (k+1)=bf (x/256) k++[x% 256]:=by
 unfold bf;rw[List.range_succ,List.map_append];congr 1
 .refine List.map_congr_left fun j cn=>?_;have:=List.mem_range.mp cn;rw[show k+1-1-j=(k-1-j)+1 by lia,uY,xN,←Int.ediv_ediv_of_nonneg (by decide)]
 .refine(?_:[x/256^(k+1-1-k)% 256]=_);rw[show k+1-1-k=0 by lia,Bo,Int.ediv_one]
theorem Ap:∀(k:Nat) (x:Int),cO (bf x k)=x% 256^k
 |0,x=>by refine(?_:(0:Int)=_);rw[Bo];lia
 |k+1,x=>by
  have a8:(0:Int)<256^k:=Int.pow_pos (by decide);rw[ae1,Nq,Ap k,uY];generalize (256:Int)^k=aA at*;have aW:=Ql (x/256) aA;have aJ:=Ql x 256;have eP:=xM (x/256) (sF a8);have fR:=Bm (x/256) a8;have cI:x=(x/256% aA*256+x% 256)+aA*256*(x/256/aA):=by
   have:aA*256*(x/256/aA)=256*(aA*(x/256/aA)):=by rw[xN aA 256,Gw]
   lia
  have eU:x% (aA*256)=(x/256% aA*256+x% 256)% (aA*256):=by
   conv=>lhs;rw[cI]
   exact Qj _ _ _
  rw[eU];generalize x/256% aA=t at eP fR;exact(xL (by lia) (by lia)).symm
theorem xf {x y:Int}{k:Nat}(h:bf x k=bf y k)(aS:0≤x∧x<256^k)(ct:0≤y∧y<256^k):x=y:=by have:=congrArg cO h;rw[Ap,Ap,xL aS.1 aS.2,xL ct.1 ct.2] at this;exact this
section
variable {a n:Int}
theorem vA (af:Bool):lq (-iB (kk pr X bN bM W L n)% 65535) (eN af bN bM) a= -iB (kk pr X (hg af bN a) (hh af bM a) W L n)% 65535:=by
 unfold lq;have eP:=k8 (eN af bN bM) 2;have fR:=k8 a 2;rw[qH,tW (k:=2) rfl rfl (sl _ 2) eP.1 eP.2 fR.1,zj,zj];cases af
 .refine(?_: -(_-wsum (bf bM 4)+wsum (bf a 4))% 65535= -(_+wsum (bf bN 4)+wsum (bf a 4))% 65535);congr 2;lia
 .refine(?_: -(_-wsum (bf bN 4)+wsum (bf a 4))% 65535= -(_+wsum (bf a 4)+wsum (bf bM 4))% 65535);congr 2;lia
theorem vB (bl:1≤X)(R:X≤255)(Z:0≤pr)(bv:pr≤255):nT (-iB (kk pr X bN bM W L n)% 65535) X pr= -iB (kk pr (X-1) bN bM W L n)% 65535:=by unfold nT;rw[qH,tW (so:=X*256+pr) (sn:=(X-1)*256+pr) (k:=1) (by simp[wsum]) (by simp[wsum]) (by show((2:Nat):Int)/2=1;decide) (by lia) (by lia) (by lia),zj,zj,W6];congr 2;lia
theorem yM:cO (bf (-iB (kk pr X bN bM W L n)% 65535) 2)= -iB (kk pr X bN bM W L n)% 65535:=qH _
theorem AZ (nf:Int)(af:Bool):h7 nf pr (hg af bN a) bD (hh af bM a) dp Y S=h7 nf pr bN bD bM dp Y S-wsum (bf (eN af bN bM) (kd nf))+wsum (bf a (kd nf)):=by
 rw[Bb,Bb];cases af
 .refine(?_:_+wsum (bf bN (kd nf))+wsum (bf a (kd nf))=_-wsum (bf bM (kd nf))+_);lia
 .refine(?_:_+wsum (bf a (kd nf))+wsum (bf bM (kd nf))=_-wsum (bf bN (kd nf))+_);lia
theorem Pm (nf:Int)(af:Bool):h7 nf pr bN (hg af bD a) bM (hh af dp a) Y S=h7 nf pr bN bD bM dp Y S-wsum (bf (eN af bD dp) 2)+wsum (bf a 2):=by
 rw[Bb,Bb];cases af
 .refine(?_:_+wsum (bf bD 2)+wsum (bf a 2)+_+_=_-wsum (bf dp 2)+_);lia
 .refine(?_:_+wsum (bf a 2)+wsum (bf dp 2)+_+_=_-wsum (bf bD 2)+_);lia
theorem YD (af:Bool):lq (-h7 2 pr bN bD bM dp Y S% 65535) (eN af bN bM) a= -h7 2 pr (hg af bN a) bD (hh af bM a) dp Y S% 65535:=by unfold lq;have eP:=k8 (eN af bN bM) 2;have fR:=k8 a 2;rw[qH,tW (k:=2) rfl rfl (sl _ 2) eP.1 eP.2 fR.1,AZ 2 af];rfl
theorem YE (af:Bool):th (-h7 10 pr bN bD bM dp Y S% 65535) (eN af bN bM) a= -h7 10 pr (hg af bN a) bD (hh af bM a) dp Y S% 65535:=by unfold th;have eP:=k8 (eN af bN bM) 8;have fR:=k8 a 8;rw[qH,tW (k:=8) rfl rfl (sl _ 8) eP.1 eP.2 fR.1,AZ 10 af];rfl
theorem LN (nf:Int)(af:Bool):p9 (-h7 nf pr bN bD bM dp Y S% 65535) (eN af bD dp) a= -h7 nf pr bN (hg af bD a) bM (hh af dp a) Y S% 65535:=by unfold p9;have eP:=k8 (eN af bD dp) 1;have fR:=k8 a 1;rw[qH,tW (k:=1) rfl rfl (sl _ 1) eP.1 eP.2 fR.1,Pm nf af]
theorem agD (af:Bool):jk true (lq (fG (-h7 2 pr bN bD bM dp Y S% 65535)) (eN af bN bM) a)=fG (-h7 2 pr (hg af bN a) bD (hh af bM a) dp Y S% 65535):=by unfold lq;have eP:=k8 (eN af bN bM) 2;have fR:=k8 a 2;rw[w3,Ej (k:=2) rfl rfl (sl _ 2) eP.1 eP.2 fR.1,AZ 2 af];rfl
theorem agE (af:Bool):jk true (th (fG (-h7 10 pr bN bD bM dp Y S% 65535)) (eN af bN bM) a)=fG (-h7 10 pr (hg af bN a) bD (hh af bM a) dp Y S% 65535):=by unfold th;have eP:=k8 (eN af bN bM) 8;have fR:=k8 a 8;rw[w3,Ej (k:=8) rfl rfl (sl _ 8) eP.1 eP.2 fR.1,AZ 10 af];rfl
theorem PO (nf:Int)(af:Bool):jk true (p9 (fG (-h7 nf pr bN bD bM dp Y S% 65535)) (eN af bD dp) a)=fG (-h7 nf pr bN (hg af bD a) bM (hh af dp a) Y S% 65535):=by unfold p9;have eP:=k8 (eN af bD dp) 1;have fR:=k8 a 1;rw[w3,Ej (k:=1) rfl rfl (sl _ 1) eP.1 eP.2 fR.1,Pm nf af]
theorem PP (aG:Int):jk true (cO (bf (fG (-aG% 65535)) 2))=fG (-aG% 65535):=by rw[w3];unfold jk;rw[decide_eq_false (sF (At aG).1)]
theorem uG (aG:Int):decide (cO (bf (fG (-aG% 65535)) 2)=0)=false:=by rw[w3];exact decide_eq_false (sF (At aG).1)
end
def cp (n b L:Bool)(X W Y:Int)(S:List Int)(ai cut:Bool)(p ip:dt):List Int:=mG (cy n) (aZ b) X p W L (i8 (cy n) (aZ b) ip Y S ai cut)
def hQ (n L:Bool):Int:=match n with|true=>gu L|false=>gv L
noncomputable def ir (af:Bool)(a:Int)(p:dt):dt:=match af with|true=>((a,p.1.2.1,()),p.2.1,())|false=>(p.1,(a,p.2.1.2.1,()),())
noncomputable def k7 (af:Bool)(a:Int)(p:dt):dt:=match af with|true=>((p.1.1,a,()),p.2.1,())|false=>(p.1,(p.2.1.1,a,()),())
section
variable {a sp' dp' dL ck':Int}{p:dt}
theorem KD:∀cut:Bool,(ey 6 bD dp Y S dL cut).length=(ey 6 sp' dp' Y S ck' cut).length:=all1 (by kernel_rfl)
theorem zB:∀cut:Bool,(ey 17 bD dp Y S dL cut).length=(ey 17 sp' dp' Y S ck' cut).length:=all1 (by kernel_rfl)
abbrev fy (nf pr:Int)(ip:dt)(Y:Int)(S:List Int):Int:=h7 nf pr ip.1.1 ip.1.2.1 ip.2.1.1 ip.2.1.2.1 Y S
abbrev ee (pr:Int)(ip:dt)(Y:Int)(S:List Int)(dL:Int)(cut:Bool):List Int:=ey pr ip.1.2.1 ip.2.1.2.1 Y S dL cut
theorem nP (b L ai cut:Bool):cp true b L X W Y S ai cut p ip=kj (aZ b) X p.1.1 p.2.1.1 W L (ee (aZ b) ip Y S (mC (aZ b) (fy 2 (aZ b) ip Y S) ai) cut):=by unfold cp mG i8;rw[Ba];rfl
theorem s8 (b L ai cut:Bool):cp false b L X W Y S ai cut p ip=en (aZ b) X p.1.1 p.2.1.1 L (ee (aZ b) ip Y S (mC (aZ b) (fy 10 (aZ b) ip Y S) ai) cut):=by unfold cp mG i8;rw[Ba];rfl
theorem lf {t:Int}{i:List Int}(h:c= -iB (kk pr t bN bM W L i.length)% 65535):eZ pr t bN bM W L c i=kj pr t bN bM W L i:=by rw[h];rfl
theorem aeq (b L ai cut af:Bool):dy 2048 (aZ b) (gu L) (e0 (cZ L)) false (h5 2048 af) (bf a 4) (cp true b L X W Y S ai cut p p)=cp true b L X W Y S ai cut (ir af a p) (ir af a p):=by
 rw[nP,nP];cases b
 .cases cut
  .cases ai
   .refine(?_:dy 2048 17 _ _ _ _ _ (eZ 17 X p.1.1 p.2.1.1 W L _ (ee 17 p Y S (fG (-fy 2 17 p Y S% 65535)) false))=kj 17 _ _ _ _ _ (ee 17 _ _ _ (fG (-fy 2 17 (ir af a p) Y S% 65535)) false));rw[Ov,uG,oj,agD,vA];cases af<;>exact lf (by rw[zB (ck':=fG (-fy 2 17 p Y S% 65535)) (sp':=p.1.2.1) (dp':=p.2.1.2.1) false];rfl)
   .refine(?_:dy 2048 17 _ _ _ _ _ (eZ 17 X p.1.1 p.2.1.1 W L _ (ee 17 p Y S 0 false))=kj 17 _ _ _ _ _ (ee 17 _ _ _ 0 false));rw[Ov,show decide (cO (bf 0 2)=0)=true from rfl,om,vA];cases af<;>exact lf rfl
  .refine(?_:dy 2048 17 _ _ _ _ _ (eZ 17 X p.1.1 p.2.1.1 W L _ (ee 17 p Y S _ true))=kj 17 _ _ _ _ _ (ee 17 _ _ _ _ true));rw[adt,vA];cases af<;>exact lf rfl
 .refine(?_:dy 2048 6 _ _ _ _ _ (eZ 6 X p.1.1 p.2.1.1 W L _ (ee 6 p Y S (-fy 2 6 p Y S% 65535) cut))=kj 6 _ _ _ _ _ (ee 6 _ _ _ (-fy 2 6 (ir af a p) Y S% 65535) cut));rw[adv,YD,vA];cases af<;>exact lf (by rw[KD (ck':= -fy 2 6 p Y S% 65535) (sp':=p.1.2.1) (dp':=p.2.1.2.1) cut];rfl)
end
section
variable {a:Int}{p:dt}
theorem aer (b L ai cut af:Bool):dy 2048 (aZ b) (-1) (e0 (cZ L)) false (h5 2048 af) (bf a 4) (cp true b L X W Y S ai cut p ip)=cp true b L X W Y S ai cut (ir af a p) ip:=by rw[nP,nP];refine(?_:dy 2048 (aZ b) _ _ _ _ _ (eZ (aZ b) X p.1.1 p.2.1.1 W L _ _)=_);rw[adu,vA];cases af<;>exact lf rfl
theorem aet (b L ai cut af:Bool):dy 2048 (aZ b) (gu L) (e0 (cZ L)) true (iN af) (bf a 2) (cp true b L X W Y S ai cut p p)=cp true b L X W Y S ai cut (k7 af a p) (k7 af a p):=by
 rw[nP,nP];cases b
 .cases cut
  .cases ai
   .refine(?_:dy 2048 17 _ _ _ _ _ (eZ 17 X p.1.1 p.2.1.1 W L _ (ee 17 p Y S (fG (-fy 2 17 p Y S% 65535)) false))=kj 17 _ _ _ _ _ (ee 17 _ _ _ (fG (-fy 2 17 (k7 af a p) Y S% 65535)) false));rw[Ox,uG,oj,PO,yM];cases af<;>exact lf (by rw[zB (ck':=fG (-fy 2 17 p Y S% 65535)) (sp':=p.1.2.1) (dp':=p.2.1.2.1) false];rfl)
   .refine(?_:dy 2048 17 _ _ _ _ _ (eZ 17 X p.1.1 p.2.1.1 W L _ (ee 17 p Y S 0 false))=kj 17 _ _ _ _ _ (ee 17 _ _ _ 0 false));rw[Ox,show decide (cO (bf 0 2)=0)=true from rfl,om,yM];cases af<;>exact lf (by rw[zB (ck':=0) (sp':=p.1.2.1) (dp':=p.2.1.2.1) false];rfl)
  .refine(?_:dy 2048 17 _ _ _ _ _ (eZ 17 X p.1.1 p.2.1.1 W L _ (ee 17 p Y S (mC 17 (fy 2 17 p Y S) ai) true))=kj 17 _ _ _ _ _ (ee 17 _ _ _ (mC 17 (fy 2 17 (k7 af a p) Y S) ai) true));rw[ady,yM];cases af<;>exact lf (by rw[zB (ck':=mC 17 (fy 2 17 p Y S) ai) (sp':=p.1.2.1) (dp':=p.2.1.2.1) true];rfl)
 .refine(?_:dy 2048 6 _ _ _ _ _ (eZ 6 X p.1.1 p.2.1.1 W L _ (ee 6 p Y S (-fy 2 6 p Y S% 65535) cut))=kj 6 _ _ _ _ _ (ee 6 _ _ _ (-fy 2 6 (k7 af a p) Y S% 65535) cut));rw[adz,LN,yM];cases af<;>exact lf (by rw[KD (ck':= -fy 2 6 p Y S% 65535) (sp':=p.1.2.1) (dp':=p.2.1.2.1) cut];rfl)
theorem D8 (b:Bool):0≤aZ b∧aZ b≤255:=by cases b<;>exact⟨by decide,by decide⟩
theorem aev (b L ai cut:Bool)(bl:1≤X)(R:X≤255):dy 2048 (aZ b) (gu L) (e0 (cZ L)) false 8 [X-1] (cp true b L X W Y S ai cut p ip)=cp true b L (X-1) W Y S ai cut p ip:=by
 rw[nP,nP];cases b
 .cases cut
  .cases ai
   .refine(?_:dy 2048 17 _ _ _ _ _ (eZ 17 X p.1.1 p.2.1.1 W L _ (ee 17 ip Y S (fG (-fy 2 17 ip Y S% 65535)) false))=kj 17 _ _ _ _ _ (ee 17 _ _ _ (fG (-fy 2 17 ip Y S% 65535)) false));rw[Oz,uG,oj,PP];exact lf (vB (pr:=17) bl R (by decide) (by decide))
   .refine(?_:dy 2048 17 _ _ _ _ _ (eZ 17 X p.1.1 p.2.1.1 W L _ (ee 17 ip Y S 0 false))=kj 17 _ _ _ _ _ (ee 17 _ _ _ 0 false));rw[Oz,show decide (cO (bf 0 2)=0)=true from rfl,om];exact lf (vB (pr:=17) bl R (by decide) (by decide))
  .refine(?_:dy 2048 17 _ _ _ _ _ (eZ 17 X p.1.1 p.2.1.1 W L _ (ee 17 ip Y S (mC 17 (fy 2 17 ip Y S) ai) true))=kj 17 _ _ _ _ _ (ee 17 _ _ _ (mC 17 (fy 2 17 ip Y S) ai) true));rw[adC];exact lf (vB (pr:=17) bl R (by decide) (by decide))
 .refine(?_:dy 2048 6 _ _ _ _ _ (eZ 6 X p.1.1 p.2.1.1 W L _ (ee 6 ip Y S (-fy 2 6 ip Y S% 65535) cut))=kj 6 _ _ _ _ _ (ee 6 _ _ _ (-fy 2 6 ip Y S% 65535) cut));rw[adE,qH];exact lf (vB (pr:=6) bl R (by decide) (by decide))
theorem aew (b L ai cut:Bool)(bl:1≤X)(R:X≤255):dy 2048 (aZ b) (-1) (e0 (cZ L)) false 8 [X-1] (cp true b L X W Y S ai cut p ip)=cp true b L (X-1) W Y S ai cut p ip:=by rw[nP,nP];refine(?_:dy 2048 (aZ b) _ _ _ _ _ (eZ (aZ b) X p.1.1 p.2.1.1 W L _ _)=_);rw[adD,vB bl R (D8 b).1 (D8 b).2];exact lf rfl
theorem aes (b L ai cut af:Bool):dy 34525 (aZ b) (gv L) (e0 96) false (h5 34525 af) (bf a 16) (cp false b L X W Y S ai cut p p)=cp false b L X W Y S ai cut (ir af a p) (ir af a p):=by
 rw[s8,s8];cases b
 .cases cut
  .cases ai
   .refine(?_:dy 34525 17 _ _ _ _ _ (en 17 X p.1.1 p.2.1.1 L (ee 17 p Y S (fG (-fy 10 17 p Y S% 65535)) false))=en 17 _ _ _ _ (ee 17 _ _ _ (fG (-fy 10 17 (ir af a p) Y S% 65535)) false));rw[Ow,uG,oj,agE];cases af<;>rfl
   .refine(?_:dy 34525 17 _ _ _ _ _ (en 17 X p.1.1 p.2.1.1 L (ee 17 p Y S 0 false))=en 17 _ _ _ _ (ee 17 _ _ _ 0 false));rw[Ow,show decide (cO (bf 0 2)=0)=true from rfl,om];cases af<;>rfl
  .refine(?_:dy 34525 17 _ _ _ _ _ (en 17 X p.1.1 p.2.1.1 L (ee 17 p Y S _ true))=en 17 _ _ _ _ (ee 17 _ _ _ _ true));rw[adw];cases af<;>rfl
 .refine(?_:dy 34525 6 _ _ _ _ _ (en 6 X p.1.1 p.2.1.1 L (ee 6 p Y S (-fy 10 6 p Y S% 65535) cut))=en 6 _ _ _ _ (ee 6 _ _ _ (-fy 10 6 (ir af a p) Y S% 65535) cut));rw[adx,YE];cases af<;>rfl
theorem aeu (b L ai cut af:Bool):dy 34525 (aZ b) (gv L) (e0 96) true (iN af) (bf a 2) (cp false b L X W Y S ai cut p p)=cp false b L X W Y S ai cut (k7 af a p) (k7 af a p):=by
 rw[s8,s8];cases b
 .cases cut
  .cases ai
   .refine(?_:dy 34525 17 _ _ _ _ _ (en 17 X p.1.1 p.2.1.1 L (ee 17 p Y S (fG (-fy 10 17 p Y S% 65535)) false))=en 17 _ _ _ _ (ee 17 _ _ _ (fG (-fy 10 17 (k7 af a p) Y S% 65535)) false));rw[Oy,uG,oj,PO];cases af<;>rfl
   .refine(?_:dy 34525 17 _ _ _ _ _ (en 17 X p.1.1 p.2.1.1 L (ee 17 p Y S 0 false))=en 17 _ _ _ _ (ee 17 _ _ _ 0 false));rw[Oy,show decide (cO (bf 0 2)=0)=true from rfl,om];cases af<;>rfl
  .refine(?_:dy 34525 17 _ _ _ _ _ (en 17 X p.1.1 p.2.1.1 L (ee 17 p Y S _ true))=en 17 _ _ _ _ (ee 17 _ _ _ _ true));rw[adA];cases af<;>rfl
 .refine(?_:dy 34525 6 _ _ _ _ _ (en 6 X p.1.1 p.2.1.1 L (ee 6 p Y S (-fy 10 6 p Y S% 65535) cut))=en 6 _ _ _ _ (ee 6 _ _ _ (-fy 10 6 (k7 af a p) Y S% 65535) cut));rw[adB,LN];cases af<;>rfl
theorem aex (b L ai cut:Bool):dy 34525 (aZ b) (gv L) (e0 96) false 7 [X-1] (cp false b L X W Y S ai cut p ip)=cp false b L (X-1) W Y S ai cut p ip:=by
 rw[s8,s8];cases b
 .cases cut
  .cases ai
   .refine(?_:dy 34525 17 _ _ _ _ _ (en 17 X p.1.1 p.2.1.1 L (ee 17 ip Y S (fG (-fy 10 17 ip Y S% 65535)) false))=en 17 _ _ _ _ (ee 17 _ _ _ (fG (-fy 10 17 ip Y S% 65535)) false));rw[OA,uG,oj,PP]
   .refine(?_:dy 34525 17 _ _ _ _ _ (en 17 X p.1.1 p.2.1.1 L (ee 17 ip Y S 0 false))=en 17 _ _ _ _ (ee 17 _ _ _ 0 false));rw[OA,show decide (cO (bf 0 2)=0)=true from rfl,om]
  .refine(?_:dy 34525 17 _ _ _ _ _ (en 17 X p.1.1 p.2.1.1 L (ee 17 ip Y S _ true))=en 17 _ _ _ _ (ee 17 _ _ _ _ true));rw[adF]
 .refine(?_:dy 34525 6 _ _ _ _ _ (en 6 X p.1.1 p.2.1.1 L (ee 6 ip Y S (-fy 10 6 ip Y S% 65535) cut))=en 6 _ _ _ _ (ee 6 _ _ _ (-fy 10 6 ip Y S% 65535) cut));rw[adG,qH]
theorem vq (b L ai cut:Bool):(cp true b L X W Y S ai cut p ip).getD 0 0=cZ L:=by cases L<;>rfl
theorem Ci (b L ai cut:Bool):(cp false b L X W Y S ai cut p ip).getD 0 0=96:=by cases L<;>rfl
theorem aby:∀b L ai cut af:Bool,gf 2048 (aZ b) (gu L) im (h5 2048 af) 4 (cp true b L X W Y S ai cut p ip)=true:=jF (by kernel_rfl)
theorem abz:∀b L ai cut af:Bool,gf 2048 (aZ b) (-1) im (h5 2048 af) 4 (cp true b L X W Y S ai cut p ip)=true:=jF (by kernel_rfl)
theorem abC:∀b L ai cut af:Bool,gf 2048 (aZ b) (gu L) jK (iN af) 2 (cp true b L X W Y S ai cut p ip)=true:=jF (by kernel_rfl)
theorem NI:∀b L ai cut:Bool,gf 2048 (aZ b) (gu L) im 8 1 (cp true b L X W Y S ai cut p ip)=true:=l7 (by kernel_rfl)
theorem abE:∀b L ai cut:Bool,gf 2048 (aZ b) (-1) im 8 1 (cp true b L X W Y S ai cut p ip)=true:=l7 (by kernel_rfl)
theorem abA:∀b L ai cut af:Bool,gf 34525 (aZ b) (gv L) im (h5 34525 af) 16 (cp false b L X W Y S ai cut p ip)=true:=jF (by kernel_rfl)
theorem abD:∀b L ai cut af:Bool,gf 34525 (aZ b) (gv L) jK (iN af) 2 (cp false b L X W Y S ai cut p ip)=true:=jF (by kernel_rfl)
theorem NJ:∀b L ai cut:Bool,gf 34525 (aZ b) (gv L) im 7 1 (cp false b L X W Y S ai cut p ip)=true:=l7 (by kernel_rfl)
theorem OU:∀b L ai cut af:Bool,ch (cp true b L X W Y S ai cut p ip) (jG false 0 (h5 2048 af)) (jG false 0 (h5 2048 af)+(bf a 4).length)=bf (eN af p.1.1 p.2.1.1) 4:=jF (by kernel_rfl)
theorem aeF:∀b L ai cut af:Bool,ch (cp false b L X W Y S ai cut p ip) (jG false 0 (h5 34525 af)) (jG false 0 (h5 34525 af)+(bf a 16).length)=bf (eN af p.1.1 p.2.1.1) 16:=jF (by kernel_rfl)
theorem aeH:∀b L ai cut af:Bool,ch (cp true b L X W Y S ai cut p ip) (jG true (gu L) (iN af)) (jG true (gu L) (iN af)+(bf a 2).length)=bf (eN af ip.1.2.1 ip.2.1.2.1) 2:=jF (by kernel_rfl)
theorem aeI:∀b L ai cut af:Bool,ch (cp false b L X W Y S ai cut p ip) (jG true (gv L) (iN af)) (jG true (gv L) (iN af)+(bf a 2).length)=bf (eN af ip.1.2.1 ip.2.1.2.1) 2:=jF (by kernel_rfl)
theorem E7 (af:Bool)(h:eN af p.1.1 p.2.1.1=a):ir af a p=p:=by subst h;cases af<;>rfl
theorem OK (af:Bool)(h:eN af p.1.2.1 p.2.1.2.1=a):k7 af a p=p:=by subst h;cases af<;>rfl
def fits (n:Nat)(x:Int):Prop:=0≤x∧x<256^n
theorem w6 {T U N:Int}{qr:Nat}{gY:Bool}{pos:Int}{o d e f:List Int}(aE:ch d (jG gY N pos) (jG gY N pos+o.length)=f)(R:f=o→d=e)(Z:dy T U N qr gY pos o d=e):ui T U N qr gY pos o d=e:=by
 unfold ui;rw[aE,Z]
 by_cases c:f=o
 .rw[decide_eq_true c,om];exact R c
 .rw[decide_eq_false c,oj]
theorem adf (b L ai cut af:Bool)(h:fits 4 a)(h':fits 4 (eN af p.1.1 p.2.1.1)):hE 2048 (aZ b) (gu L) af a (cp true b L X W Y S ai cut p p)=cp true b L X W Y S ai cut (ir af a p) (ir af a p):=by unfold hE;rw[vq];exact w6 (OU b L ai cut af) (fun e=>by rw[E7 af (xf e h' h)]) (aeq b L ai cut af)
theorem adg (b L ai cut af:Bool)(h:fits 4 a)(h':fits 4 (eN af p.1.1 p.2.1.1)):hE 2048 (aZ b) (-1) af a (cp true b L X W Y S ai cut p ip)=cp true b L X W Y S ai cut (ir af a p) ip:=by unfold hE;rw[vq];exact w6 (OU b L ai cut af) (fun e=>by rw[E7 af (xf e h' h)]) (aer b L ai cut af)
theorem adh (b L ai cut af:Bool)(h:fits 16 a)(h':fits 16 (eN af p.1.1 p.2.1.1)):hE 34525 (aZ b) (gv L) af a (cp false b L X W Y S ai cut p p)=cp false b L X W Y S ai cut (ir af a p) (ir af a p):=by unfold hE;rw[Ci];exact w6 (aeF b L ai cut af) (fun e=>by rw[E7 af (xf e h' h)]) (aes b L ai cut af)
theorem abj (L:Bool):decide (gu L= -1)=false:=by cases L<;>rfl
theorem abk (L:Bool):decide (gv L= -1)=false:=by cases L<;>rfl
theorem adi (b L ai cut af:Bool)(h:fits 2 a)(h':fits 2 (eN af p.1.2.1 p.2.1.2.1)):kL 2048 (aZ b) (gu L) af a (cp true b L X W Y S ai cut p p)=cp true b L X W Y S ai cut (k7 af a p) (k7 af a p):=by unfold kL;rw[abj,vq];exact w6 (aeH b L ai cut af) (fun e=>by rw[OK af (xf e h' h)]) (aet b L ai cut af)
theorem adj (b L ai cut af:Bool)(h:fits 2 a)(h':fits 2 (eN af p.1.2.1 p.2.1.2.1)):kL 34525 (aZ b) (gv L) af a (cp false b L X W Y S ai cut p p)=cp false b L X W Y S ai cut (k7 af a p) (k7 af a p):=by unfold kL;rw[abk,Ci];exact w6 (aeI b L ai cut af) (fun e=>by rw[OK af (xf e h' h)]) (aeu b L ai cut af)
theorem F6 (b L ai cut:Bool):i9 2048 (cp true b L X W Y S ai cut p ip)=X:=by cases L<;>rfl
theorem PG (b L ai cut:Bool):i9 34525 (cp false b L X W Y S ai cut p ip)=X:=by cases L<;>rfl
theorem YG:∀b L ai cut:Bool,hc 2048 (cp true b L X W Y S ai cut p ip) 9 8=true:=l7 (by kernel_rfl)
theorem YH:∀b L ai cut:Bool,hc 34525 (cp false b L X W Y S ai cut p ip) 9 8=true:=l7 (by kernel_rfl)
theorem Km (b L ai cut:Bool)(bl:1≤X)(R:X≤255):lA 2048 (aZ b) (gu L) (cp true b L X W Y S ai cut p ip)=cp true b L (X-1) W Y S ai cut p ip:=by unfold lA;rw[F6,vq];exact aev b L ai cut bl R
theorem XK (b L ai cut:Bool)(bl:1≤X)(R:X≤255):lA 2048 (aZ b) (-1) (cp true b L X W Y S ai cut p ip)=cp true b L (X-1) W Y S ai cut p ip:=by unfold lA;rw[F6,vq];exact aew b L ai cut bl R
theorem Kn (b L ai cut:Bool):lA 34525 (aZ b) (gv L) (cp false b L X W Y S ai cut p ip)=cp false b L (X-1) W Y S ai cut p ip:=by unfold lA;rw[PG,Ci];exact aex b L ai cut
end
noncomputable def xk (n:Bool):Nat:=match n with|true=>4|false=>16
def y8 (n:Bool)(x:pY):Prop:=fits (xk n) x.1∧fits 2 x.2.1
def jn (n:Bool)(p:dt):Prop:=y8 n p.1∧y8 n p.2.1
def fx (n b L:Bool)(X W Y:Int)(S:List Int)(ai cut dh:Bool)(p ip:dt):List Int:=cp n b L X W Y S ai cut p (match dh with|true=>ip|false=>p)
def ge (n L dh:Bool):Int:=match dh with|true=> -1|false=>hQ n L
noncomputable def sh (af:Bool)(e:pY)(p:dt):dt:=match af with|true=>(e,p.2.1,())|false=>(p.1,e,())
def Fb (on af:Bool)(e:pY)(p:dt):dt:=match on with|true=>sh af e p|false=>p
theorem ts {x:Int}(h:fits n x):(b9 0 x&&decide (x<256^n))=true:=by rw[qA h.1,decide_eq_true h.2];rfl
section
variable {p:dt}{e:pY}
theorem abG {n:Bool}(h:jn n p):fits (xk n) (eN af p.1.1 p.2.1.1)∧fits 2 (eN af p.1.2.1 p.2.1.2.1):=by cases af;exact⟨h.2.1,h.2.2⟩;exact⟨h.1.1,h.1.2⟩
theorem adm (n b L ai cut dh af:Bool)(ar:dh=true→n=true)(a8:jn n p)(he:y8 n e):
 kL (cD n) (aZ b) (ge n L dh) af e.2.1 (hE (cD n) (aZ b) (ge n L dh) af e.1 (fx n b L X W Y S ai cut dh p ip))=fx n b L X W Y S ai cut dh (sh af e p) ip∧
 se (cD n) (aZ b) (ge n L dh) af e.1 e.2.1 (fx n b L X W Y S ai cut dh p ip)=true:=by
 refine b7 (abG (af:=af) a8) fun eY dX=>?_;have jN:fits 2 (eN af (ir af e.1 p).1.2.1 (ir af e.1 p).2.1.2.1):=by cases af<;>exact dX
 induction n using eo with
 |true=>
  induction dh using eo with
  |true=>
   have aW:hE 2048 (aZ b) (-1) af e.1 (cp true b L X W Y S ai cut p ip)=cp true b L X W Y S ai cut (ir af e.1 p) ip:=adg b L ai cut af he.1 eY;refine⟨?_,?_⟩
   .refine(?_:kL 2048 (aZ b) (-1) af e.2.1 (hE 2048 (aZ b) (-1) af e.1 (cp true b L X W Y S ai cut p ip))=cp true b L X W Y S ai cut (sh af e p) ip);rw[aW];cases af<;>rfl
   .refine(?_:((b9 0 e.1&&decide (e.1<256^4))&&((b9 0 e.2.1&&decide (e.2.1<256^2))&&(gf 2048 (aZ b) (-1) im (h5 2048 af) 4 (cp true b L X W Y S ai cut p ip)&&true)))=true);rw[ts (n:=4) he.1,ts (n:=2) he.2,abz];rfl
  |false=>
   have aW:hE 2048 (aZ b) (gu L) af e.1 (cp true b L X W Y S ai cut p p)=cp true b L X W Y S ai cut (ir af e.1 p) (ir af e.1 p):=adf b L ai cut af he.1 eY;refine⟨?_,?_⟩
   .refine(?_:kL 2048 (aZ b) (gu L) af e.2.1 (hE 2048 (aZ b) (gu L) af e.1 (cp true b L X W Y S ai cut p p))=cp true b L X W Y S ai cut (sh af e p) (sh af e p));rw[aW,adi b L ai cut af he.2 jN];cases af<;>rfl
   .refine(?_:((b9 0 e.1&&decide (e.1<256^4))&&((b9 0 e.2.1&&decide (e.2.1<256^2))&&(gf 2048 (aZ b) (gu L) im (h5 2048 af) 4 (cp true b L X W Y S ai cut p p)&&(decide (gu L= -1)||gf 2048 (aZ b) (gu L) jK (iN af) 2 (hE 2048 (aZ b) (gu L) af e.1 (cp true b L X W Y S ai cut p p))))))=true);rw[aW,ts (n:=4) he.1,ts (n:=2) he.2,aby,abC,xH];rfl
 |false=>
  induction dh using eo with
  |true=>exact absurd (ar rfl) (by decide)
  |false=>
   have aW:hE 34525 (aZ b) (gv L) af e.1 (cp false b L X W Y S ai cut p p)=cp false b L X W Y S ai cut (ir af e.1 p) (ir af e.1 p):=adh b L ai cut af he.1 eY;refine⟨?_,?_⟩
   .refine(?_:kL 34525 (aZ b) (gv L) af e.2.1 (hE 34525 (aZ b) (gv L) af e.1 (cp false b L X W Y S ai cut p p))=cp false b L X W Y S ai cut (sh af e p) (sh af e p));rw[aW,adj b L ai cut af he.2 jN];cases af<;>rfl
   .refine(?_:((b9 0 e.1&&decide (e.1<256^16))&&((b9 0 e.2.1&&decide (e.2.1<256^2))&&(gf 34525 (aZ b) (gv L) im (h5 34525 af) 16 (cp false b L X W Y S ai cut p p)&&(decide (gv L= -1)||gf 34525 (aZ b) (gv L) jK (iN af) 2 (hE 34525 (aZ b) (gv L) af e.1 (cp false b L X W Y S ai cut p p))))))=true);rw[aW,ts (n:=16) he.1,ts (n:=2) he.2,abA,abD,xH];rfl
theorem aaa (n b:Bool):AE (cD n) (aZ b) (cy n) (aZ b)=true:=by cases n<;>cases b<;>rfl
theorem O9 (n b L ai cut dh on af:Bool)(ar:dh=true→n=true)(a8:jn n p)(he:y8 n e):
 un (cD n) (aZ b) (ge n L dh) on af e.1 e.2.1 (fx n b L X W Y S ai cut dh p ip)=fx n b L X W Y S ai cut dh (Fb on af e p) ip∧
 uo (cD n) (aZ b) (ge n L dh) (cy n) (aZ b) on af e.1 e.2.1 (fx n b L X W Y S ai cut dh p ip)=true:=by
 refine b7 (adm (X:=X) (W:=W) (Y:=Y) (S:=S) (ip:=ip) n b L ai cut dh af ar a8 he) fun R Z=>?_
 induction on using eo with
 |true=>exact⟨R,by unfold uo;dsimp only;rw[aaa,Z];rfl⟩
 |false=>exact⟨rfl,rfl⟩
def rU (abH w2:Bool)(g p:dt):dt:=(Av w2 g.2.1 p.1,Av abH g.1 p.2.1,())
theorem MO (n b L ai cut dh:Bool)(cK dir:Int)(ar:dh=true→n=true)(a8:jn n p)(b5:jn n g):
 ng (cD n) (aZ b) (ge n L dh) cK dir (fN (cy n) (aZ b) g) (fx n b L X W Y S ai cut dh p ip)=fx n b L X W Y S ai cut dh (rU (hC cK (g9 false dir)) (hC cK (g9 true dir)) g p) ip∧
 tZ (cD n) (aZ b) (ge n L dh) cK dir (fN (cy n) (aZ b) g) (fx n b L X W Y S ai cut dh p ip)=true:=by
 unfold ng tZ En;generalize hC cK (g9 false dir)=ua;generalize hC cK (g9 true dir)=NL;refine b7 (O9 (X:=X) (W:=W) (Y:=Y) (S:=S) (ip:=ip) n b L ai cut dh ua false ar a8 b5.1) fun a1 a2=>?_;have XQ:jn n (Fb ua false g.1 p):=by
  cases ua
  .exact a8
  .exact⟨a8.1,b5.1⟩
 refine b7 (O9 (X:=X) (W:=W) (Y:=Y) (S:=S) (ip:=ip) n b L ai cut dh NL true ar XQ b5.2) fun eP fR=>?_;have a1:un (cD n) (aZ b) (ge n L dh) ua false (fN (cy n) (aZ b) g).2.2.1 (fN (cy n) (aZ b) g).2.2.2.1 (fx n b L X W Y S ai cut dh p ip)=fx n b L X W Y S ai cut dh (Fb ua false g.1 p) ip:=a1;rw[a1];refine⟨?_,?_⟩
 .refine uW eP ?_;cases ua<;>cases NL<;>rfl
 .exact gC.mpr ⟨a2,fR⟩
end
def jt (w:Int):Prop:=w∈([0,16384,0,16384,0,8192,3,8193]:List Int)
theorem Gh {P:Int→Bool}(h:([0,16384,0,16384,0,8192,3,8193]:List Int).all P=true){w:Int}(c0:jt w):P w=true:=List.all_eq_true.mp h w c0
noncomputable def dD (n:Bool)(w:Int):Bool:=match n with|true=> !decide (w% 8192=0)|false=>false
noncomputable def nh (n:Bool)(w:Int):Bool:=match n with|true=>decide (w% 16384=0)|false=>true
def Ay (n:Bool)(w:Int):Int:=match n with|true=>Builtin.bitAnd (cO (bf w 2)) 8191*8|false=>0
section
variable {p:dt}
theorem NX:∀b L ai cut:Bool,k4 (cp true b L X W Y S ai cut p ip)=Builtin.bitAnd (cO (bf W 2)) 8191*8:=l7 (by kernel_rfl)
theorem ace (c0:jt W):decide (Builtin.bitAnd (cO (bf W 2)) 8191*8=0)= !dD true W:=eq_of_beq (Gh (P:=fun W=>decide (Builtin.bitAnd (cO (bf W 2)) 8191*8=0)== !dD true W) (by decide+kernel) c0)
theorem aci (c0:jt W):decide (Builtin.bitAnd (cO (bf W 2)) 16383=0)=nh true W:=eq_of_beq (Gh (P:=fun W=>decide (Builtin.bitAnd (cO (bf W 2)) 16383=0)==nh true W) (by decide+kernel) c0)
theorem D9 (c0:jt W)(h:dD true W=true):nh true W=false:=by have g:=Gh (P:=fun W=> !(dD true W&&nh true W)) (by decide+kernel) c0;rw[h,ny,km] at g;exact g
theorem N1 (n b L ai cut:Bool)(c0:jt W):sX n (cp n b L X W Y S ai cut p ip) (aZ b) (ge n L (dD n W)) (Ay n W):=fun aG kX=>by
 unfold w5
 induction n using eo with
 |true=>
  have kx:(cp true b L X W Y S ai cut p ip).getD 9 0=aZ b:=by cases L<;>rfl
  have dv:∀k,og k (cp true b L X W Y S ai cut p ip)=(match dD true W with|true=> -1|false=>k):=fun k=>by unfold og;rw[NX,ace c0];cases dD true W<;>rfl
  dsimp only;rw[kx,NX,dv,dv];clear kx dv
  induction L using eo with
  |true=>refine ec (by kernel_rfl) (cv (by kernel_rfl) ?_);change Ev (aG (aZ b) (ge true true (dD true W)) _) at kX;cases e:dD true W<;>(rw[e] at kX;exact kX)
  |false=>refine cv (by kernel_rfl) ?_;change Ev (aG (aZ b) (ge true false (dD true W)) _) at kX;cases e:dD true W<;>(rw[e] at kX;exact kX)
 |false=>
  dsimp only
  induction L using eo with
  |true=>have kv:(cp false b true X W Y S ai cut p ip).getD 6 0=60:=rfl;have Jg:(cp false b true X W Y S ai cut p ip).getD 40 0=aZ b:=rfl;refine cv (by kernel_rfl) ?_;rw[kv,Jg];refine ec rfl (cv (by clear kX kv Jg;cases b<;>kernel_rfl) kX)
  |false=>have kv:(cp false b false X W Y S ai cut p ip).getD 6 0=aZ b:=rfl;refine cv (by kernel_rfl) ?_;rw[kv];refine cv (by cases b<;>rfl) kX
theorem Ao {k:Nat}{x:Int}(h:fits k x):cO (bf x k)=x:=by rw[Ap,xL h.1 h.2]
theorem Rd:∀n b L ai cut:Bool,yB (cD n) (cp n b L X W Y S ai cut p ip)=bf p.1.1 (xk n):=jF (by kernel_rfl)
theorem Rf:∀n b L ai cut:Bool,yC (cD n) (cp n b L X W Y S ai cut p ip)=bf p.2.1.1 (xk n):=jF (by kernel_rfl)
theorem acn:∀n b L ai cut:Bool,ow (cp n b L X W Y S ai cut p ip) (hQ n L)=bf ip.1.2.1 2:=jF (by kernel_rfl)
theorem aco:∀n b L ai cut:Bool,ow (cp n b L X W Y S ai cut p ip) (hQ n L+2)=bf ip.2.1.2.1 2:=jF (by kernel_rfl)
theorem PJ (n b L ai cut:Bool)(a8:jn n p):tupI (cD n) (aZ b) (hQ n L) (cp n b L X W Y S ai cut p p)=(dq (fN (cy n) (aZ b) p)).map V.int:=by unfold tupI;rw[Rd,Rf,acn,aco,Ao a8.1.1,Ao a8.2.1,Ao a8.1.2,Ao a8.2.2];cases n<;>rfl
theorem Mo:∀n b L ai cut:Bool,(b9 (hQ n L+4) (cp n b L X W Y S ai cut p ip).length&&ltI (hQ n L) 1000)=true:=jF (by kernel_rfl)
theorem acg (n b L ai cut:Bool)(c0:jt W):ug (cD n) (ge n L (dD n W)) (cp n b L X W Y S ai cut p ip)=(!L&&nh n W):=by
 induction n using eo with
 |true=>
  have e:ch (cp true b L X W Y S ai cut p ip) 6 8=bf W 2:=by revert L;exact @all1 _ _ _ (by kernel_rfl)
  refine(?_:(decide (ge true L (dD true W)=20)&&decide (Builtin.bitAnd (cO (ch (cp true b L X W Y S ai cut p ip) 6 8)) 16383=0))=_);rw[e,aci c0];clear e;cases ij:dD true W with
  |true=>rw[D9 c0 ij,jc,jc]
  |false=>cases L<;>rfl
 |false=>cases L<;>rfl
theorem Bd (n b L ai cut:Bool):i9 (cD n) (cp n b L X W Y S ai cut p ip)=X:=by
 cases n
 .exact PG b L ai cut
 .exact F6 b L ai cut
theorem wB (n b L ai cut:Bool):hc (cD n) (cp n b L X W Y S ai cut p ip) 9 8=true:=by
 cases n
 .exact YH b L ai cut
 .exact YG b L ai cut
theorem aa0 (n b L ai cut:Bool)(hd:hv S=true):b9 (hQ n L+pg (aZ b)) (cp n b L X W Y S ai cut p ip).length= !cut:=by refine wz hd fun x y=>?_;clear hd;revert n b L cut x y;exact Im (by kernel_rfl)
theorem aab (n b L ai cut:Bool)(c0:jt W)(hd:hv S=true):lH (cD n) (aZ b) (ge n L (dD n W)) (cp n b L X W Y S ai cut p ip)=(!L&&(nh n W&&(ltI 1 X&& !cut))):=by
 unfold lH;rw[acg n b L ai cut c0,Bd];cases ij:dD n W with
 |true=>
  have:nh n W=false:=by
   cases n
   .exact dW ij
   .exact D9 c0 ij
  rw[this,jc,oJ,oJ,jc]
 |false=>refine(?_:(!L&&nh n W&&(ltI 1 X&&b9 (hQ n L+pg (aZ b)) _))=_);rw[aa0 n b L ai cut hd,Bool.and_assoc]
theorem C4 (n L ai:Bool)(hd:hv S=true):gc (hQ n L) (cp n true L X W Y S ai false p ip)=Y:=by refine wz hd fun x y=>?_;clear hd;revert n L x y;exact l7 (by kernel_rfl)
end
theorem D6 (i j:Int)(t u:ej):bn 4 (.tup (a6 i t)) (.tup (a6 j u))=(decide (i=j)&&decide (dq t=dq u)):=by refine(?_:(decide (i=j)&&(iH (bn 2) ((dq t).map V.int) ((dq u).map V.int)&&true))=_);rw[zZ (xs:=dq t) (ys:=dq u) rfl 2,xF]
def jL (su:ff)(w y:Bool):V:=.tup (a6 (1+a0 y) (su.tup w y))
theorem ZT (al f1:Bool)(h:∀w y,i5 w al f1=true→bn 4 (jL su w y) key=false)(k:Ev qF):Ev (wJ key go qF (fJ su al f1)):=by
 have JU:al=true→bn 4 (.tup (a6 1 (su.tup false false))) key=false:=h false false;have JV:al=true→bn 4 (.tup (a6 2 (su.tup false true))) key=false:=h false true;have zc:f1=true→bn 4 (.tup (a6 1 (su.tup true false))) key=false:=h true false;have JW:f1=true→bn 4 (.tup (a6 2 (su.tup true true))) key=false:=h true true;cases al<;>cases f1
 .exact k
 .exact ec (zc rfl) (ec (JW rfl) k)
 .exact ec (JU rfl) (ec (JV rfl) k)
 .exact ec (JU rfl) (ec (JV rfl) (ec (zc rfl) (ec (JW rfl) k)))
theorem ZS (al f1 av aw:Bool)(hf:i5 av al f1=true)(R:bn 4 (jL su av aw) key=true)(h:∀w y,(w=av∧y=aw)∨bn 4 (jL su w y) key=false)
 (k:Ev (go (val (1+a0 av) (a0 aw) (2-a0 aw)))):Ev (wJ key go qF (fJ su al f1)):=by
 have aL:∀w y,¬(w=av∧y=aw)→bn 4 (jL su w y) key=false:=fun w y c=>(h w y).resolve_left c;cases av<;>cases aw
 .have a:bn 4 (.tup (a6 1 (su.tup false false))) key=true:=R;cases al
  .exact dW hf
  .cases f1<;>exact cv a k
 .have a:bn 4 (.tup (a6 2 (su.tup false true))) key=true:=R;have b:bn 4 (.tup (a6 1 (su.tup false false))) key=false:=aL false false (by decide);cases al
  .exact dW hf
  .cases f1<;>exact ec b (cv a k)
 .have a:bn 4 (.tup (a6 1 (su.tup true false))) key=true:=R;have b:bn 4 (.tup (a6 1 (su.tup false false))) key=false:=aL false false (by decide);have c:bn 4 (.tup (a6 2 (su.tup false true))) key=false:=aL false true (by decide);cases f1
  .exact dW hf
  .cases al
   .exact cv a k
   .exact ec b (ec c (cv a k))
 .have a:bn 4 (.tup (a6 2 (su.tup true true))) key=true:=R;have b:bn 4 (.tup (a6 1 (su.tup false false))) key=false:=aL false false (by decide);have c:bn 4 (.tup (a6 2 (su.tup false true))) key=false:=aL false true (by decide);have d:bn 4 (.tup (a6 1 (su.tup true false))) key=false:=aL true false (by decide);cases f1
  .exact dW hf
  .cases al
   .exact ec d (cv a k)
   .exact ec b (ec c (ec d (cv a k)))
theorem ON (su:ff)(al f1:Bool):ut (fJ su al f1)=true:=by cases al<;>cases f1<;>rfl
theorem Uj (su:ff)(al f1 av:Bool):hM (fJ su al f1) (1+a0 av)=fJ su (si av al false) (sj av f1 false):=by cases al<;>cases f1<;>cases av<;>rfl
def r6 (av:Bool)(t1 aa:c8)(u:Int):c8×c8:=match av with|true=>(t1,ov aa u)|false=>(ov t1 u,aa)
theorem Wz {dc T U N ag:Int}{d:List Int}{i o:Int}{t1 aa:c8}{aH:List (V×V)}{fn:Nat}{n dir:Int}:vR au dc isr T U N ag d i o t1 aa aH fn K (val n dir iK)=
 ao (decide (n=1)) (mf au dc isr T U N ag d i o t1 aa aH fn 1 dir iK t1 (ov t1 (kh au U)) aa K) (ao (decide (n=2)) (mf au dc isr T U N ag d i o t1 aa aH fn 2 dir iK aa t1 (ov aa (kh au U)) K) False):=rfl
theorem WA {dc T U N ag:Int}{d:List Int}{i o:Int}{t1 aa:c8}{aH:List (V×V)}{fn:Nat}(av aw:Bool)
 (h:Ev (mf au dc isr T U N ag d i o t1 aa aH fn (1+a0 av) (a0 aw) iK (d6 av t1 aa) (r6 av t1 aa (kh au U)).1 (r6 av t1 aa (kh au U)).2 K)):Ev (vR au dc isr T U N ag d i o t1 aa aH fn K (val (1+a0 av) (a0 aw) iK)):=by
 refine aK Wz ?_;cases av
 .have e:decide ((1:Int)+a0 false=1)=true:=rfl;exact @cv _ _ _ e h
 .have e:decide ((1:Int)+a0 true=1)=false:=rfl;have aJ:decide ((1:Int)+a0 true=2)=true:=rfl;exact @ec _ _ _ e (@cv _ _ _ aJ h)
section
variable {n cut:Bool}{i:Int}{p:dt}{t1 aa:c8}{fn:Nat}
abbrev hV (n b L:Bool)(X W Y:Int)(S:List Int)(ai cut:Bool)(p:dt):List Int:=cp n b L X W Y S ai cut p p
theorem wA (b:Bool):iz (aZ b)=true:=by cases b<;>rfl
theorem PD (c0:jt W)(a8:jn n p)(h:dD n W=true∨∀w y,i5 w al f1=true→bn 4 (jL su w y) (.tup (a6 i (fN (cy n) (aZ b) p)))=false):
 oV au (cD n) (aZ b) (ge n L (dD n W)) (hV n b L X W Y S ai cut p) i t1 aa (fJ su al f1) fn (-1) (hV n b L X W Y S ai cut p) t1 aa (fJ su al f1) fn:=fun dc isr ag o K k=>by
 unfold uD;refine cv (by rw[ON,wA,wB];rfl) ?_;cases ij:dD n W with
 |true=>exact cv rfl (by rw[ij] at k;exact k)
 |false=>rw[ij] at k h;refine ec (by clear a8 h ij;cases n<;>cases L<;>rfl) (cv (Mo n b L ai cut) ?_);have a9:=h.resolve_left (by decide);have e:V.tup (tupI (cD n) (aZ b) (ge n L false) (hV n b L X W Y S ai cut p))=uA (fN (cy n) (aZ b) p):=congrArg V.tup (PJ n b L ai cut a8);rw[e];exact ZT al f1 a9 k
theorem F5 (a8:jn n p)(ar:dD n W=false)(hf:i5 av al f1=true)(R:bn 4 (jL su av aw) (.tup (a6 i (fN (cy n) (aZ b) p)))=true)(h:∀w y,(w=av∧y=aw)∨bn 4 (jL su w y) (.tup (a6 i (fN (cy n) (aZ b) p)))=false)
 {y9:List (V×V)}
  (k:∀(dc isr ag o:Int) (K:bI),Ev (K (.int iK) (fE au dc isr (cD n) (aZ b) (hQ n L) ag d' i o (bu gK gL y9 gd)))→
   Ev (mf au dc isr (cD n) (aZ b) (hQ n L) ag (hV n b L X W Y S ai cut p) i o t1 aa (fJ su al f1) fn (1+a0 av) (a0 aw) (2-a0 aw) (d6 av t1 aa) (r6 av t1 aa (kh au (aZ b))).1 (r6 av t1 aa (kh au (aZ b))).2 K)):
  oV au (cD n) (aZ b) (ge n L (dD n W)) (hV n b L X W Y S ai cut p) i t1 aa (fJ su al f1) fn iK d' gK gL y9 gd:=fun dc isr ag o K gH=>by
  rw[ar] at gH⊢;unfold uD;refine cv (by rw[ON,wA,wB];rfl) ?_;refine ec (by clear a8 ar R h;cases n<;>cases L<;>rfl) (cv (Mo n b L ai cut) ?_);have e:V.tup (tupI (cD n) (aZ b) (ge n L false) (hV n b L X W Y S ai cut p))=uA (fN (cy n) (aZ b) p):=congrArg V.tup (PJ n b L ai cut a8);rw[e];exact ZS al f1 av aw hf R h (WA av aw (k dc isr ag o K gH))
end
def ka (f:Int):Prop:=f∈([16,24,17,16,20,18,16,0]:List Int)
noncomputable def me (f:Int):Bool:=decide (f=17)||decide (f=20)
theorem V0 (h:ka f):(!decide (Builtin.bitAnd f 5=0))=me f:=(by decide+kernel:∀f∈([16,24,17,16,20,18,16,0]:List Int),(!decide (Builtin.bitAnd f 5=0))=me f) f h
theorem V1 (h:ka f):decide (Builtin.bitAnd f 7=0)= !(me f||decide (f=18)):=(by decide+kernel:∀f∈([16,24,17,16,20,18,16,0]:List Int),decide (Builtin.bitAnd f 7=0)= !(me f||decide (f=18))) f h
def lr (n L:Bool)(X W:Int)(cut:Bool):Bool:= !L&&(nh n W&&(ltI 1 X&& !cut))
section
variable {n cut:Bool}{i:Int}{p:dt}{t1 aa:c8}{fn:Nat}
theorem yU (c0:jt W)(h:lr n L X W cut=true):L=false∧cut=false∧dD n W=false∧1<X:=by
 unfold lr at h;refine b4 h fun R h=>?_;refine b4 h fun Z h=>?_;refine b4 h fun bv cZ=>?_;rw[km] at R cZ;refine⟨R,cZ,?_,pd bv⟩
 induction n using eo with
 |false=>rfl
 |true=>
  cases e:dD true W with
  |false=>rfl
  |true=>rw[D9 c0 e] at Z;exact dW Z
theorem MH (c0:jt W)(hd:hv S=true)(ar:dD n W=false):lH (cD n) (aZ b) (hQ n L) (hV n b L X W Y S ai cut p)=lr n L X W cut:=by have:=aab (X:=X) (Y:=Y) (p:=p) (ip:=p) n b L ai cut c0 hd;rw[ar] at this;exact this
theorem CT (c0:jt W)(hd:hv S=true)(ar:dD n W=false)(hf:ka Y):kU (cD n) (aZ b) (hQ n L) (hV n b L X W Y S ai cut p)=(b&&(lr n L X W cut&&me Y)):=by
 unfold kU;rw[MH c0 hd ar]
 induction b using eo with
 |false=>rfl
 |true=>
  cases e:lr n L X W cut with
  |false=>rfl
  |true=>refine kR (yU c0 e) fun c6 cg b8 eO=>?_;clear c6 b8 eO;subst cg;rw[C4 n L ai hd,V0 hf];rfl
theorem NU (c0:jt W)(hd:hv S=true)(ar:dD n W=false)(hf:ka Y):lN (cD n) (aZ b) (hQ n L) (hV n b L X W Y S ai cut p)=(lr n L X W cut&& !(b&&(me Y||decide (Y=18)))):=by
 unfold lN;rw[MH c0 hd ar]
 induction b using eo with
 |false=>rfl
 |true=>
  cases e:lr n L X W cut with
  |false=>rfl
  |true=>refine kR (yU c0 e) fun c6 cg b8 eO=>?_;clear c6 b8 eO;subst cg;rw[C4 n L ai hd,V1 hf];rfl
theorem PE (c0:jt W)(hd:hv S=true)(hf:ka Y)(a8:jn n p)(ar:dD n W=false)(aE:i5 av al f1=true)(R:bn 4 (jL su av aw) (.tup (a6 i (fN (cy n) (aZ b) p)))=true)(h:∀w y,(w=av∧y=aw)∨bn 4 (jL su w y) (.tup (a6 i (fN (cy n) (aZ b) p)))=false)
 (n2:b9 (d6 av t1 aa).kM au=true∨lr n L X W cut=false∨(b=true∧me Y=false∧Y=18)):
 oV au (cD n) (aZ b) (ge n L (dD n W)) (hV n b L X W Y S ai cut p) i t1 aa (fJ su al f1) fn (-1) (hV n b L X W Y S ai cut p) t1 aa (fJ su al f1) fn:=
 F5 a8 ar aE R h fun dc isr ag o K k=>by
  unfold mf;refine dO (fun _=>k) fun e=>?_;have aW:kU (cD n) (aZ b) (hQ n L) (hV n b L X W Y S ai cut p)=false:=by
   rw[CT c0 hd ar hf];rcases n2 with q|q|⟨_,q,_⟩
   .rw[e] at q;exact dW q
   .rw[q,oJ,jc]
   .rw[q,jc,jc]
  have aJ:lN (cD n) (aZ b) (hQ n L) (hV n b L X W Y S ai cut p)=false:=by
   rw[NU c0 hd ar hf];rcases n2 with q|q|⟨q,_,b8⟩
   .rw[e] at q;exact dW q
   .rw[q,oJ]
   .rw[q,b8,decide_eq_true rfl,xH];exact jc _
  exact ec aW (ec aJ k)
theorem agp (c0:jt W)(hd:hv S=true)(hf:ka Y)(a8:jn n p)(ar:dD n W=false)(aE:i5 av al f1=true)(R:bn 4 (jL su av aw) (.tup (a6 i (fN (cy n) (aZ b) p)))=true)(h:∀w y,(w=av∧y=aw)∨bn 4 (jL su w y) (.tup (a6 i (fN (cy n) (aZ b) p)))=false)
 (cW:b9 (d6 av t1 aa).kM au=false)(az:b=true)(qi:lr n L X W cut=true)(gV:me Y=true):
 oV au (cD n) (aZ b) (ge n L (dD n W)) (hV n b L X W Y S ai cut p) i t1 aa (fJ su al f1) fn (-1) (hV n b L X W Y S ai cut p) t1 aa (fJ su (si av al false) (sj av f1 false)) (fn+((fJ su al f1).length-(fJ su (si av al false) (sj av f1 false)).length)):=
 F5 a8 ar aE R h fun dc isr ag o K k=>by unfold mf;refine ec cW (cv (by rw[CT c0 hd ar hf,az,qi,gV];rfl) ?_);rw[Uj];exact k
theorem agq (c0:jt W)(hd:hv S=true)(hf:ka Y)(a8:jn n p)(b5:jn n g)(ar:dD n W=false)(aE:i5 av al f1=true)(R:bn 4 (jL su av aw) (.tup (a6 i (fN (cy n) (aZ b) p)))=true)(h:∀w y,(w=av∧y=aw)∨bn 4 (jL su w y) (.tup (a6 i (fN (cy n) (aZ b) p)))=false)
 (cW:b9 (d6 av t1 aa).kM au=false)(qi:lr n L X W cut=true)(az:(b&&(me Y||decide (Y=18)))=false)(Df:X≤255)
 (n4:gX (d6 av t1 aa) (a0 aw)=fN (cy n) (aZ b) g):
 oV au (cD n) (aZ b) (ge n L (dD n W)) (hV n b L X W Y S ai cut p) i t1 aa (fJ su al f1) fn (2-a0 aw)
  (hV n b L (X-1) W Y S ai cut (rU (hC (d6 av t1 aa).cK (g9 false (a0 aw))) (hC (d6 av t1 aa).cK (g9 true (a0 aw))) g p)) (r6 av t1 aa (kh au (aZ b))).1 (r6 av t1 aa (kh au (aZ b))).2 (fJ su al f1) fn:=
 F5 a8 ar aE R h fun dc isr ag o K k=>by
  refine kR (yU c0 qi) fun c6 cg b8 Z=>?_;clear b8;subst c6;subst cg;have iX:(b&&me Y)=false:=by
   cases b
   .rfl
   .rw[ny] at az⊢;exact(Bk.mp az).1
  refine b7 (MO (X:=X) (W:=W) (Y:=Y) (S:=S) (p:=p) (ip:=p) n b false ai false false (d6 av t1 aa).cK (a0 aw) (fun q=>nomatch q) a8 b5) fun pe tV=>?_;have pe:ng (cD n) (aZ b) (hQ n false) (d6 av t1 aa).cK (a0 aw) (fN (cy n) (aZ b) g) (hV n b false X W Y S ai false p)=hV n b false X W Y S ai false (rU (hC (d6 av t1 aa).cK (g9 false (a0 aw))) (hC (d6 av t1 aa).cK (g9 true (a0 aw))) g p):=pe;have tV:tZ (cD n) (aZ b) (hQ n false) (d6 av t1 aa).cK (a0 aw) (fN (cy n) (aZ b) g) (hV n b false X W Y S ai false p)=true:=tV;unfold mf;rw[n4];refine ec cW (ec (by rw[CT c0 hd ar hf,qi,ny,iX]) (cv (by rw[NU c0 hd ar hf,qi,az];rfl) (cv ?_ ?_)))
  .rw[tV,pe];have dC:iz (fN (cy n) (aZ b) g).2.1=true:=wA b;have dU:(decide ((fN (cy n) (aZ b) g).1=2)||decide ((fN (cy n) (aZ b) g).1=10))=true:=by clear a8 b5 ar R h n4 qi k dC;cases n<;>rfl
   rw[dC,dU,ny,ny,ny];unfold zq;rw[wB,Bd,rR Z,ny,ny];clear a8 b5 ar R h n4 qi k dC dU;cases n
   .exact NJ b false ai false
   .exact NI b false ai false
  .rw[pe];have bC:lA (cD n) (aZ b) (hQ n false) (hV n b false X W Y S ai false (rU (hC (d6 av t1 aa).cK (g9 false (a0 aw))) (hC (d6 av t1 aa).cK (g9 true (a0 aw))) g p))=hV n b false (X-1) W Y S ai false (rU (hC (d6 av t1 aa).cK (g9 false (a0 aw))) (hC (d6 av t1 aa).cK (g9 true (a0 aw))) g p):=by
    clear a8 b5 ar R h n4 qi k;cases n
    .exact Kn b false ai false
    .exact Km b false ai false (by lia) Df
   rw[bC];exact k
end
def kZ (X:Int):Int:=match ltI 1 X with|true=>X-1|false=>X
section
variable {n cut dh:Bool}{step ag:Int}{p q:dt}{t1 aa:c8}{fn:Nat}{aH:List (V×V)}{s:Bool×Bool×Int×Int×fw×Unit}
theorem PH:i9 (cD n) (fx n b L X W Y S ai cut dh p ip)=X:=by
 cases dh
 .exact Bd n b L ai cut
 .exact Bd n b L ai cut
theorem YI:hc (cD n) (fx n b L X W Y S ai cut dh p ip) 9 8=true:=by
 cases dh
 .exact wB n b L ai cut
 .exact wB n b L ai cut
theorem abF (ar:dh=true→n=true):gf (cD n) (aZ b) (ge n L dh) im (nr (cD n)) 1 (fx n b L X W Y S ai cut dh p ip)=true:=by
 induction n using eo with
 |true=>
  cases dh
  .exact NI b L ai cut
  .exact abE b L ai cut
 |false=>
  cases dh
  .exact NJ b L ai cut
  .exact absurd (ar rfl) (by decide)
theorem XM (ar:dh=true→n=true)(bl:1≤X)(R:X≤255):lA (cD n) (aZ b) (ge n L dh) (fx n b L X W Y S ai cut dh p ip)=fx n b L (X-1) W Y S ai cut dh p ip:=by
 induction n using eo with
 |true=>
  cases dh
  .exact Km b L ai cut bl R
  .exact XK b L ai cut bl R
 |false=>
  cases dh
  .exact Kn b L ai cut
  .exact absurd (ar rfl) (by decide)
theorem Zl (ar:dh=true→n=true)(R:X≤255):tR (cD n) (aZ b) (ge n L dh) (fx n b L X W Y S ai cut dh p ip)=fx n b L (kZ X) W Y S ai cut dh p ip:=by
 unfold tR kZ;rw[PH];cases e:b9 X 1 with
 |true=>rw[pc (wH e)]
 |false=>have:=EE e;rw[rR this];exact XM ar (by lia) R
theorem aeO (m:Nat)(DF:sX n (fx n b L X W Y S ai cut dh p ip) (aZ b) (ge n L dh) ag)(ar:dh=true→n=true)(a8:jn n p)(b5:jn n g)(Df:X≤255)
 (n4:gX (d6 av t1 aa) (a0 aw)=fN (cy n) (aZ b) g)(a9:rU (hC (d6 av t1 aa).cK (g9 false (a0 aw))) (hC (d6 av t1 aa).cK (g9 true (a0 aw))) g p=q)
 (k:Ev (K (.tup [.bool (ltI 1 X),.bytes (fx n b L (kZ X) W Y S ai cut dh q ip)]) (rd (cy n,aZ b,s) (bu t1 aa aH fn) (pv av aw X hF iif step p) sx S au av aw (cD n) (aZ b) (ge n L dh) ag (fx n b L (kZ X) W Y S ai cut dh q ip)))):
 Ev (cR (bh aT (m+10)) aP pQ [.ref 0,.ref 1,.ref 12,.int au,.bytes (fx n b L X W Y S ai cut dh p ip)] (l4 (cy n,aZ b,s) (bu t1 aa aH fn) (pv av aw X hF iif step p) sx S) K):=by
 refine b7 (MO (X:=X) (W:=W) (Y:=Y) (S:=S) (p:=p) (ip:=ip) n b L ai cut dh (d6 av t1 aa).cK (a0 aw) ar a8 b5) fun pe tV=>?_;rw[a9] at pe;refine aeP m n av aw DF (by cases b<;>cases n<;>rfl) ?_ ?_ ?_ ?_ ?_
 .rw[n4];cases b<;>cases n<;>rfl
 .rw[n4];exact tV
 .rw[n4,pe];exact YI
 .intro _;rw[n4,pe];exact abF ar
 .rw[n4,pe,PH,Zl ar Df];exact k
end
noncomputable def iy (n:Bool)(k:Int):Int:=match n with|true=>167772160+16909060*k|false=>2^125+5192376096523839485395206520373255*k
def Pc (n b afI agA s t:Bool)(aw cause p0 fa p2 kb:Int):ff:=
 (cy n,aZ b,afI,agA,aw,cause,
  ((((iy n 1,p0,()),(iy n 2,fa,()),()),((match t with|true=>(iy n 4,kb,())|false=>(iy n 2,fa,())),(match s with|true=>(iy n 3,p2,())|false=>(iy n 1,p0,())),()),()),
   (((iy n 1,(p0+1)% 65536,()),(iy n 2,fa,()),()),((iy n 2,fa,()),(iy n 1,(p0+1)% 65536,()),()),()),()),())
section
variable {xs:List Int}
def ib (xs:List Int):Int:=qe xs 0
def jY (xs:List Int):Int:=qe xs 1
def xi (xs:List Int)(n b s t:Bool)(K:bI):Prop:=K (.ref 1) [.d5 xs,gx (Pc n b (decide (ib xs/2/2% 2=0)) (decide (ib xs/2/2/2% 2=0)) s t (ib xs/2/2/2/2% 2) (ib xs/2/2/2/2/2% 16) (jY xs% 65536) (jY xs/65536% 65536) (jY xs/65536/65536% 65536) (jY xs/65536/65536/65536% 65536))]
def uz (xs:List Int)(n b:Bool)(K:bI):Prop:=ao (decide (ib xs/2/2% 2=0)) (ao (decide (ib xs/2/2/2% 2=0)) (xi xs n b true true K) (xi xs n b true false K)) (ao (decide (ib xs/2/2/2% 2=0)) (xi xs n b false true K) (xi xs n b false false K))
theorem Vl:bh aT (m+4) wC [.ref 0] [.d5 xs] K=ao (dg xs.length 900) (ao (dg xs.length 900)
 (ao (decide (ib xs% 2=1)) (ao (decide (ib xs/2% 2=1)) (uz xs false false K) (uz xs false true K)) (ao (decide (ib xs/2% 2=1)) (uz xs true false K) (uz xs true true K))) False) False:=by kernel_rfl
def yt (n b s t:Bool)(aw cause p0 fa p2 kb:Int):ff:=Pc n b s t s t aw cause p0 fa p2 kb
def AW (xs:List Int):ff:=yt (!decide (ib xs% 2=1)) (!decide (ib xs/2% 2=1)) (decide (ib xs/2/2% 2=0)) (decide (ib xs/2/2/2% 2=0)) (ib xs/2/2/2/2% 2) (ib xs/2/2/2/2/2% 16)
 (jY xs% 65536) (jY xs/65536% 65536) (jY xs/65536/65536% 65536) (jY xs/65536/65536/65536% 65536)
theorem VH (ar:xs.length≤900)(k:Ev (K (.ref 1) [.d5 xs,gx (AW xs)])):Ev (bh aT (m+4) wC [.ref 0] [.d5 xs] K):=by
 have az:=lX.mpr ar;refine aK Vl (cv az (cv az ?_));unfold AW at k;have Zs:∀n b,Ev (K (.ref 1) [.d5 xs,gx (yt n b (decide (ib xs/2/2% 2=0)) (decide (ib xs/2/2/2% 2=0)) (ib xs/2/2/2/2% 2) (ib xs/2/2/2/2/2% 16) (jY xs% 65536) (jY xs/65536% 65536) (jY xs/65536/65536% 65536) (jY xs/65536/65536/65536% 65536))])→Ev (uz xs n b K):=fun n b h=>by unfold yt at h;unfold uz xi;refine dO (fun e=>dO (fun aJ=>?_) fun aJ=>?_) fun e=>dO (fun aJ=>?_) fun aJ=>?_<;>(rw[e,aJ] at h⊢;exact h)
 refine dO (fun e=>dO (fun aJ=>?_) fun aJ=>?_) fun e=>dO (fun aJ=>?_) fun aJ=>?_<;>(rw[e,aJ] at k;exact Zs _ _ k)
noncomputable def FM (av s t:Bool):Int:=match av with|true=>14|false=>14+(match s with|true=>16|false=>0)+(match t with|true=>32|false=>0)
def gj (su:ff)(av:Bool)(u:Int):c8:=wN (su.tup av false) (su.tup av true) u (FM av su.2.2.1 su.2.2.2.1) 3
def nS (su:ff)(bq br:Int)(al f1:Bool)(fn:Nat):er:=bu (gj su false bq) (gj su true br) (fJ su al f1) fn
theorem UH (s t:Bool){aw cause:Int}{e:fw}:bh aT (m+4) zL [.ref 1] [.d5 xs,gx (nf,pr,s,t,aw,cause,e,())] K=
 K (.ref 2) ([.d5 xs,gx (nf,pr,s,t,aw,cause,e,())]++dz 2 (nS (nf,pr,s,t,aw,cause,e,()) 5000 5000 false false 0)):=by revert s t;exact @all2 _ _ _ (by kernel_rfl)
end
noncomputable def JL:fe→fe
 |.cons (.hN _ _ a) _=>a
 |_=>.nil
def fi:fe:=JL (cm 4 je.body)
noncomputable def callArgs:fe→gP
 |.cons (.asg _ (.call _ a)) _=>a
 |_=>.nil
noncomputable def IW:fe→aG
 |.cons (.iff (.cmp _ _ r) _ _) _=>r
 |_=>.none
def hG (num:Int)(r b a l o d:V):List V:=[.ref 0,.ref 1,.ref 2,.ref 15,.int num,r,b,a,l,o,d]
section
variable {xs:List Int}{a b c q:an}{dN:List Int}{rw:jE}
theorem afO:fz 1 fi=.cons (.asg 5 (.call zN (callArgs fi))) .nil:=by kernel_rfl
theorem Vy {G:Nat→Option V}{i k:Nat}{args:gP}{K:dK}(h:Ev (lV C G loc args H (fun vs aq=>C k vs aq fun v be=>K .next (loc.set i v) be))):Ev (b3 C G (.cons (.asg i (.call k args)) .nil) loc H K):=⟨h.out⟩
theorem afN {vl:List V→List an→Prop}:lV (bh aT (m+1)) aP (hG num v5 v6 v7 v8 v9 v10) (callArgs fi) (cG xs su cB au bq br al f1 [a,b]) vl=
 cY (num.natAbs<2^64∨(2:Int).natAbs<2^64) (ao (b9 0 (2+2*num+0)&&(ltI (2+2*num+0) 1000&&dg xs.length 900)) (cY (num.natAbs<2^64∨(2:Int).natAbs<2^64) (ao (b9 0 (2+2*num+1)&&(ltI (2+2*num+1) 1000&&dg xs.length 900))
  (vl [.ref 1,.ref 18] (cG xs su cB au bq br al f1 [a,b,.ints [qe xs (2+2*num+0),qe xs (2+2*num+1)]])) False)) False):=by kernel_rfl
theorem afP:b3 C aP (fz 1 (cm 1 fi)) (hG num (.ref 19) v6 v7 v8 v9 v10) (cG xs su cB au bq br al f1 [a,b,c,hn 20 rw,dI 21 sx,.ints S]) K'=
 K' .next (hG num (.ref 19) v6 v7 v8 v9 v10) (cG xs su cB (au+rw.2.2.2.2.2.1) bq br al f1 [a,b,c,hn 20 rw,dI 21 sx,.ints S]):=by kernel_rfl
theorem afQ {G:List an}:b3 C aP (fz 1 (cm 2 fi)) (hG num (.ref 19) v6 v7 v8 v9 v10) (cG xs su cB au bq br al f1 G) K'=
 C zP [.ref 1,.ref 19] (cG xs su cB au bq br al f1 G) fun v aq=>lT v aq 3 fun vs=>K' .next (jv (hG num (.ref 19) v6 v7 v8 v9 v10) [6,7,8] vs) aq:=by kernel_rfl
theorem afR {G:List an}{B A:List Int}{l:Bool}:b3 C aP (fz 1 (cm 3 fi)) (hG num (.ref 19) (.bytes B) (.bytes A) (.bool l) v9 v10) (cG xs su cB au bq br al f1 G) K'=
 C zM [.ref 1,.ref 15,.ref 19,.bool l] (cG xs su cB au bq br al f1 G) fun v aq=>K' .next (hG num (.ref 19) (.bytes B) (.bytes A) (.bool l) v v10) aq:=by kernel_rfl
theorem afS {G:List an}{B A:List Int}{l:Bool}{r:Int}:b3 C aP (fz 1 (cm 4 fi)) (hG num (.ref 19) (.bytes B) (.bytes A) (.bool l) (.int r) v10) (cG xs su cB au bq br al f1 G) K'=
 ao (b9 0 r) (C qx [.ref 1,.ref 15] (cG xs su cB au bq br al f1 G) fun v aq=>K' .next (hG num (.ref 19) (.bytes B) (.bytes A) (.bool l) (.int r) (.tup [.int r,.bytes A,.ref 13,v])) aq)
  (C qx [.ref 1,.ref 15] (cG xs su cB au bq br al f1 G) fun v aq=>K' .next (hG num (.ref 19) (.bytes B) (.bytes A) (.bool l) (.int r) (.tup [.int r,.bytes B,.ref 13,v])) aq):=by kernel_rfl
theorem afT {G:List an}{B A:List Int}{l:Bool}{r:Int}:b3 C aP (fz 1 (cm 5 fi)) (hG num (.ref 19) (.bytes B) (.bytes A) (.bool l) (.int r) (.tup ls)) (cG xs su cB au bq br al f1 G) K'=
 C zO [.ref 1,.ref 2,.ref 19,.int au,.bytes B] (cG xs su cB au bq br al f1 G) fun v aq=>lK v (.tup ls) aq fun w=>ao w (K' (.ret (.bool false)) (hG num (.ref 19) (.bytes B) (.bytes A) (.bool l) (.int r) (.tup ls)) aq) (K' .next (hG num (.ref 19) (.bytes B) (.bytes A) (.bool l) (.int r) (.tup ls)) aq):=by kernel_rfl
theorem afU {G:List an}{B A:List Int}{l:Bool}{r:Int}:b3 C aP (fz 1 (cm 6 fi)) (hG num (.ref 19) (.bytes B) (.bytes A) (.bool l) (.int r) (.tup ls)) (cG xs su cB au bq br al f1 G) K'=
 C zQ [.ref 1,.ref 2,.ref 19,.int au,.bytes B] (cG xs su cB au bq br al f1 G) fun v aq=>cF C aP (hG num (.ref 19) (.bytes B) (.bytes A) (.bool l) (.int r) (.tup ls)) (IW (cm 6 fi)) aq fun x be=>lK v x be fun w=>
  ao w (K' (.ret (.bool false)) (hG num (.ref 19) (.bytes B) (.bytes A) (.bool l) (.int r) (.tup ls)) be) (K' .next (hG num (.ref 19) (.bytes B) (.bytes A) (.bool l) (.int r) (.tup ls)) be):=by kernel_rfl
theorem afV {G:List an}{B A:List Int}{l:Bool}{r:Int}{vl:bI}:cF C aP (hG num (.ref 19) (.bytes B) (.bytes A) (.bool l) (.int r) (.tup ls)) (IW (cm 6 fi)) (cG xs su cB au bq br al f1 (a::b::c::hn 20 rw::G)) vl=
 vl (.tup [.bool (ltI 1 rw.2.2.1),.bytes A]) (cG xs su cB au bq br al f1 (a::b::c::hn 20 rw::G)):=by kernel_rfl
end
def w1 (t:Int):Prop:=t∈([64,2,1,255,0,3,64,2]:List Int)
theorem gs {x k:Int}(h:0<k):0≤x% k∧x% k<k:=⟨xM _ (sF h),Bm _ h⟩
theorem C9 {b2:List Int}{t:Int}(h:0≤t∧t<b2.length):b2.getD t.toNat 0∈b2:=by have:=(Gy h.1).mpr h.2;rw[List.getD_eq_getElem?_getD,List.getElem?_eq_getElem this];exact List.getElem_mem this
theorem Tl {t:Int}(h:0≤t∧t<4):hv (CL t)=true:=(by decide+kernel:∀n,n<4→hv (([250,3,255]:List Int).take n)=true) t.toNat ((Gy h.1).mpr h.2)
theorem agV {w:Int}(h:0≤w∧w<4):∃a b,w=Gf a b:=by obtain⟨j,rfl⟩:=jV h.1;exact(by decide+kernel:∀j:Nat,j<4→∃a b,(j:Int)=Gf a b) j (jd.mp h.2)
theorem IA {w:Int}(h:0≤w∧w<2):∃a,w=a0 a:=by obtain⟨j,rfl⟩:=jV h.1;exact(by decide+kernel:∀j:Nat,j<2→∃a,(j:Int)=a0 a) j (jd.mp h.2)
theorem yN {x:Int}{P:Prop}(h:0≤x∧x<8)(p:Ev P):Ev (cY (0≤x∧x<2^62) (cY (x.toNat<8) P)):=jl ⟨h.1,ko h.2 (by decide)⟩ (jl ((Gy h.1).mpr h.2) p)
theorem Vx {t p aH eS iW:Int}{jM:Bool→Bool→Prop}(cW:0≤t∧t<8)(aE:0≤st∧st<8)(hf:0≤aH∧aH<8)(c0:0≤eS∧eS<8)(hd:0≤iW∧iW<4)(k:∀a,Ev (jM a (decide (p=7)))):Ev (JB t f p aH eS iW st jM):=by
 have Z:∀g:Bool→Prop,Ev (g (decide (p=7)))→Ev (C0 p aH eS iW st g):=fun g b5=>by
  refine yN aE (yN hf (yN c0 (cv ?_ ?_)))
  .rw[pk hd.1 (ko hd.2 (by decide))];rfl
  .refine dO (fun e=>?_) fun e=>?_<;>(rw[e] at b5;exact b5)
 exact yN cW (dO (fun _=>Z _ (k true)) fun _=>Z _ (k false))
section
variable {xs:List Int}{d0:Int}{a b c:an}
abbrev kK (su:ff)(av aw ah cb:Bool)(X step:Int):an:=hn 20 (a0 av,a0 aw,X,cb,gG ah aw,step,(),dG cb (su.ends.at_ av aw),())
theorem VD (k:∀(av aw ah cb L ai cut:Bool) (X step Y W:Int) (S:List Int),w1 X→ka Y→jt W→hv S=true→
 Ev (K (.ref 19) (cG xs su cB au bq br al f1 [a,b,.ints [d0,dN],kK su av aw ah cb X step,dI 21 (Y,L,W,(),ai,cut,()),.ints S]))):
 Ev (bh aT (m+3) zN [.ref 1,.ref 18] (cG xs su cB au bq br al f1 [a,b,.ints [d0,dN]]) K):=by
 refine m1 (n:=m+2) (r:=0) (bg:=vg) (sel:=[1,18]) (vs0:=[.ref 0,.ref 1]) (H0:=[gx su,.ints [d0,dN]]) (by kernel_rfl) rfl (by kernel_rfl) (by kernel_rfl) (by kernel_rfl) (by kernel_rfl) ?_;refine aK (qP (loc:=[.ref 0,.ref 1,.aR,.aR,.aR,.aR,.aR,.aR,.aR,.aR,.aR,.aR,.aR,.aR,.aR,.aR,.aR]) rfl (by kernel_rfl)) ?_;refine aK (gk 2 _ _ _ _) (aK UN (aK fh ?_));refine dB (agV (w:=d0% 4) (gs (by decide))) fun iA oA VJ=>?_;refine dm (IA (w:=d0/4% 2) (gs (by decide))) fun aw mc=>?_;rw[VJ,mc];refine aK (UO iA oA aw) (Vx (gs (by decide)) (gs (by decide)) (gs (by decide)) (gs (by decide)) (gs (by decide)) fun ah=>?_);exact aK (UP (iA&&oA) aw ah _) (k _ _ _ _ _ _ _ _ _ _ _ _ (C9 (gs (by decide))) (C9 (gs (by decide))) (C9 (gs (by decide))) (Tl (gs (by decide))))
theorem V8 {G:List an}:reach (cG xs su cB au bq br al f1 G) 300 (kJ [.ref 1,.ref 15]) []=[1,15,13,14]:=by kernel_rfl
theorem C1 {G:List an}(bl:dq (su.tup false false)≠dq (su.tup true false))(R:dq (su.tup false true)≠dq (su.tup true true))(k:Ev (K (.ref (cG xs su cB au bq br al f1 G).length) (cG xs su cB au bq br al f1 G++[gi al f1 (su.tup false false) (su.tup false true) (su.tup true false) (su.tup true true)]))):
 Ev (bh aT (m+3) qx [.ref 1,.ref 15] (cG xs su cB au bq br al f1 G) K):=by
 refine m1 (n:=m+2) (r:=0) (bg:=vh) (sel:=[1,15,13,14]) (vs0:=[.ref 0,.ref 1]) (H0:=rb su au bq br al f1) (by kernel_rfl) rfl V8 (by kernel_rfl) (by kernel_rfl) (by kernel_rfl) ?_;refine aK (Ju al f1) ?_;rw[xd bl R];exact aK (UR al f1) k
end
theorem f6 {l r:List Int}(h:ef l)(k:ef r):ef (l++r):=fun x aS=>by
 rcases List.mem_append.mp aS with aS|aS
 .exact h x aS
 .exact k x aS
theorem wu {l:List Int}(h:ef l):ef (l.take n):=fun x aS=>h x (List.mem_of_mem_take aS)
theorem DQ {l:List Int}(h:ef l):ef (l.drop n):=fun x aS=>h x (List.mem_of_mem_drop aS)
theorem lC {a:Int}{l:List Int}(bl:0≤a∧a<256)(h:ef l):ef (a::l):=fun x aS=>by
 rcases List.mem_cons.mp aS with rfl|aS
 .exact bl
 .exact h x aS
theorem mh:ef []:=fun x aS=>nomatch aS
section
variable {n cut:Bool}{p:dt}
theorem Yg (hd:hv S=true):(i8 (cy n) (aZ b) ip Y S ai cut).length≤23:=by refine wz hd fun x y=>d4 ?_;clear hd;revert b cut x y;exact @l7 _ _ _ (by kernel_rfl)
theorem Tm (hd:hv S=true):ef S∧S.length≤3:=by refine wz hd fun x y=>?_;cases x<;>cases y<;>exact⟨Ky (by decide+kernel),by decide⟩
theorem V2 (hf:ka Y):0≤Y∧Y<256:=(by decide:∀f∈([16,24,17,16,20,18,16,0]:List Int),0≤f∧f<256) Y hf
theorem Yf (hd:hv S=true)(hf:ka Y):ef (i8 (cy n) (aZ b) ip Y S ai cut):=by
 refine b7 (Tm hd) fun dN ku=>?_;have f:=V2 hf;have bC:ef (mD (aZ b) ip.1.2.1 ip.2.1.2.1 Y S):=by
  cases b
  .exact f6 (f6 (f6 (i7 _ _) (i7 _ _)) (lC (by lia) (lC (by lia) (lC (by lia) (lC (by lia) mh))))) dN
  .refine f6 (f6 (f6 (i7 _ _) (i7 _ _)) ?_) dN
   repeat' (first|exact mh|refine lC (by lia) ?_)
 have a8:∀c,ef (xm (aZ b) c (mD (aZ b) ip.1.2.1 ip.2.1.2.1 Y S)):=fun c=>by
  cases b
  .exact f6 (f6 (wu bC) (i7 _ _)) (DQ bC)
  .exact f6 (f6 (wu bC) (i7 _ _)) (DQ bC)
 unfold i8;rw[Ba];cases cut
 .exact a8 _
 .cases b
  .exact wu (a8 _)
  .exact wu (a8 _)
theorem agZ (hi:ef ins)(ar:ins.length≤200)(cW:0≤X∧X<256):ef (mG (cy n) (aZ b) X p W L ins):=by
 have cb:=D8 b;cases n
 .refine(?_:ef (en (aZ b) X p.1.1 p.2.1.1 L ins));cases L
  .refine f6 (f6 (f6 (f6 ?_ (i7 _ _)) (i7 _ _)) mh) hi
   repeat' (first|exact mh|refine lC (by lia) ?_)
  .refine f6 (f6 (f6 (f6 ?_ (i7 _ _)) (i7 _ _)) ?_) hi
   .repeat' (first|exact mh|refine lC (by lia) ?_)
   .repeat' (first|exact mh|refine lC (by lia) ?_)
 .refine(?_:ef (kj (aZ b) X p.1.1 p.2.1.1 W L ins));have bC:ef (kk (aZ b) X p.1.1 p.2.1.1 W L ins.length):=by
   cases L
   .refine f6 (f6 (f6 (f6 (f6 ?_ (i7 _ _)) ?_) (i7 _ _)) (i7 _ _)) mh
    .repeat' (first|exact mh|refine lC (by lia) ?_)
    .repeat' (first|exact mh|refine lC (by lia) ?_)
   .refine f6 (f6 (f6 (f6 (f6 ?_ (i7 _ _)) ?_) (i7 _ _)) (i7 _ _)) ?_
    .repeat' (first|exact mh|refine lC (by lia) ?_)
    .repeat' (first|exact mh|refine lC (by lia) ?_)
    .repeat' (first|exact mh|refine lC (by lia) ?_)
  exact f6 (f6 (f6 (wu bC) (i7 _ _)) (DQ bC)) hi
theorem Bf (hd:hv S=true)(hf:ka Y)(cW:0≤X∧X<256):sC (cy n) (aZ b) X p W L (i8 (cy n) (aZ b) ip Y S ai cut)=true:=by have l:=Yg (n:=n) (b:=b) (ip:=ip) (Y:=Y) (ai:=ai) (cut:=cut) hd;unfold sC;rw[lX.mpr (by lia),DR (agZ (Yf hd hf) (by lia) cW)];rfl
end
theorem EO {t:Int}(h:w1 t):0≤t∧t≤255:=(by decide:∀t∈([64,2,1,255,0,3,64,2]:List Int),0≤t∧t≤255) t h
section
variable {xs:List Int}{e:fw}{step:Int}{n s t ah cut:Bool}{x y c:an}
abbrev bA (n b s t:Bool)(wy ca:Int)(e:fw):ff:=(cy n,aZ b,s,t,wy,ca,e,())
abbrev h6 (Y:Int)(L:Bool)(W:Int)(ai cut:Bool):jh:=(Y,L,W,(),ai,cut,())
theorem Zn:Mi (cy n) W=dD n W:=by cases n<;>rfl
theorem Zo {n:Bool}(h:dD n W=true):n=true:=by
 cases n
 .exact dW h
 .rfl
theorem VG (cW:w1 X)(hf:ka Y)(hd:hv S=true)
 (k:Ev (K (.tup [.bytes (cp n b L X W Y S ai cut (dG cb (e.at_ av aw)) (dG cb (e.at_ av aw))),
  .bytes (fx n b L (kZ X) W Y S ai cut (dD n W) (od e s t av aw (dG cb (e.at_ av aw))) (dG cb (e.at_ av aw))),.bool (dD n W)])
  (cG xs (bA n b s t wy ca e) cB au bq br al f1 [x,y,c,kK (bA n b s t wy ca e) av aw ah cb X step,dI 21 (h6 Y L W ai cut),.ints S]))):
 Ev (bh aT (m+6) zP [.ref 1,.ref 19] (cG xs (bA n b s t wy ca e) cB au bq br al f1 [x,y,c,kK (bA n b s t wy ca e) av aw ah cb X step,dI 21 (h6 Y L W ai cut),.ints S]) K):=by
 have A0:=EO cW;refine m1 (n:=m+5) (r:=0) (bg:=yg) (sel:=[1,19,20,21]) (vs0:=[.ref 0,.ref 1]) (H0:=vm (bA n b s t wy ca e) (a0 av,a0 aw,X,cb,gG ah aw,step,(),dG cb (e.at_ av aw),()) (h6 Y L W ai cut) S) (by kernel_rfl) rfl (by kernel_rfl) (by kernel_rfl) (by kernel_rfl) (by kernel_rfl) ?_;refine aK (U2 n s t av aw) ?_;rw[Zn];have nT:(iz (aZ b)&&hv S)=true:=by rw[wA,hd];rfl
 have nn:∀(aG:List Int) (q:dt) (gH:V→Prop),(∀qW,0≤qW∧qW<256→sC (cy n) (aZ b) qW q W L aG=true)→
  Ev (gH (.tup [.bytes (mG (cy n) (aZ b) X (dG cb (e.at_ av aw)) W L (i8 (cy n) (aZ b) (dG cb (e.at_ av aw)) Y S ai cut)),.bytes (mG (cy n) (aZ b) (kZ X) q W L aG),.bool (dD n W)]))→
  Ev (Ax (cy n) (aZ b) X (dG cb (e.at_ av aw)) q W L (dD n W) (i8 (cy n) (aZ b) (dG cb (e.at_ av aw)) Y S ai cut) aG gH):=fun aG q gH kX aB=>by
  unfold Ax;refine cv (Bf hd hf (by omega)) (dO (fun aW=>cv (kX _ ?_) ?_) fun aW=>cv (kX _ ?_) ?_)
  .have:=pd aW;omega
  .unfold kZ at aB;rw[aW] at aB;exact aB
  .omega
  .unfold kZ at aB;rw[aW] at aB;exact aB
 unfold NW;refine cv nT (dO (fun ij=>nn _ _ _ (fun qW h=>Bf hd hf h) (aK U3 ?_)) fun ij=>cv nT (nn _ _ _ (fun qW h=>Bf hd hf h) (aK U4 ?_)))
 .unfold fx at k;rw[ij] at k⊢;exact k
 .unfold fx at k;rw[ij] at k⊢;exact k
theorem VC {l:Bool}
 (k:Ev (rt (cy n) (aZ b) au aw (i5 av bq br) X (gG ah aw) Y W l cb (i5 av al f1) L cut
  (K (.int (-1)) (cG xs (bA n b s t wy ca e) cB au bq br al f1 [x,y,c,kK (bA n b s t wy ca e) av aw ah cb X step,dI 21 (h6 Y L W ai cut),.ints S]))
  (K (.int (-1)) (cG xs (bA n b s t wy ca e) cB au bq br (si av al false) (sj av f1 false) [x,y,c,kK (bA n b s t wy ca e) av aw ah cb X step,dI 21 (h6 Y L W ai cut),.ints S]))
  (fun z=>K (.int (2-a0 aw)) (cG xs (bA n b s t wy ca e) cB au (xb av bq z) (xc av br z) al f1 [x,y,c,kK (bA n b s t wy ca e) av aw ah cb X step,dI 21 (h6 Y L W ai cut),.ints S])))):
 Ev (bh aT (m+1) zM [.ref 1,.ref 15,.ref 19,.bool l] (cG xs (bA n b s t wy ca e) cB au bq br al f1 [x,y,c,kK (bA n b s t wy ca e) av aw ah cb X step,dI 21 (h6 Y L W ai cut),.ints S]) K):=by
 refine m1 (n:=m) (r:=0) (bg:=yf) (sel:=[1,15,13,14,19,20,21]) (vs0:=[.ref 0,.ref 1,.ref 4,.bool l]) (H0:=ra (bA n b s t wy ca e) au bq br al f1 (a0 av,a0 aw,X,cb,gG ah aw,step,(),dG cb (e.at_ av aw),()) (h6 Y L W ai cut) S) (by kernel_rfl) rfl (by kernel_rfl) (by kernel_rfl) (by kernel_rfl) (by kernel_rfl) ?_;refine aK (UK n al f1 av aw) ?_;have aW:∀(cX dQ r:Int) (bl R:Bool),iq [1,15,13,14,19,20,21] (cG xs (bA n b s t wy ca e) cB au bq br al f1 [x,y,c,kK (bA n b s t wy ca e) av aw ah cb X step,dI 21 (h6 Y L W ai cut),.ints S]) (.int r)
  (ra (bA n b s t wy ca e) au cX dQ bl R (a0 av,a0 aw,X,cb,gG ah aw,step,(),dG cb (e.at_ av aw),()) (h6 Y L W ai cut) S) K=
  K (.int r) (cG xs (bA n b s t wy ca e) cB au cX dQ bl R [x,y,c,kK (bA n b s t wy ca e) av aw ah cb X step,dI 21 (h6 Y L W ai cut),.ints S]):=fun cX dQ r bl R=>UL
 simp only[aW];exact k
end
section
variable {fn:Nat}{xs:List Int}{e:fw}{step:Int}{n s t ah cut:Bool}{x y c q bX c9:an}{B:List Int}{t1 aa:c8}{U N ag:Int}
abbrev HU (x y c:an)(su:ff)(av aw ah cb:Bool)(X step:Int)(sx:jh)(S:List Int)(q:an):List an:=[x,y,c,kK su av aw ah cb X step,dI 21 sx,.ints S,q]
theorem VE (aL:dq ((bA n b s t wy ca e).tup false false)≠dq ((bA n b s t wy ca e).tup true false))(kF:dq ((bA n b s t wy ca e).tup false true)≠dq ((bA n b s t wy ca e).tup true true))
 (a8:sX n B U N ag)(cW:oV au (cD n) U N B (gG ah aw) t1 aa (fJ (bA n b s t wy ca e) al f1) fn iK d' gK gL (fJ (bA n b s t wy ca e) dw g1) gd)
 (k:Ev (K (.tup [.int iK,.bytes d',.ref 23,.ref 24]) (cG xs (bA n b s t wy ca e) (bu gK gL (fJ (bA n b s t wy ca e) dw g1) gd) au bq br bl R [x,y,c,kK (bA n b s t wy ca e) av aw ah cb X step,dI 21 (h6 Y L W ai cut),.ints S,q,.ints [gK.kM,gL.kM],
  gi dw g1 ((bA n b s t wy ca e).tup false false) ((bA n b s t wy ca e).tup false true) ((bA n b s t wy ca e).tup true false) ((bA n b s t wy ca e).tup true true)]))):
 Ev (bh aT (m+11) zO [.ref 1,.ref 2,.ref 19,.int au,.bytes B] (cG xs (bA n b s t wy ca e) (bu t1 aa (fJ (bA n b s t wy ca e) al f1) fn) au bq br bl R (HU x y c (bA n b s t wy ca e) av aw ah cb X step (h6 Y L W ai cut) S q)) K):=by
 refine m1 (n:=m+10) (r:=0) (bg:=nK) (sel:=ju) (vs0:=[.ref 0,.ref 1,.ref 12,.int au,.bytes B]) (H0:=l4 (bA n b s t wy ca e) (bu t1 aa (fJ (bA n b s t wy ca e) al f1) fn) (a0 av,a0 aw,X,cb,gG ah aw,step,(),dG cb (e.at_ av aw),()) (h6 Y L W ai cut) S)
  (by kernel_rfl) rfl (Y8 al f1) (Y7 al f1) (by kernel_rfl) (Y6 al f1) ?_
 refine VO m n (rw:=(a0 av,a0 aw,X,cb,gG ah aw,step,(),dG cb (e.at_ av aw),())) a8 cW aL kF ?_;exact aK (Y5 dw g1) k
theorem VI (am:∀K:bI,Ev (K (.tup [.bool (ltI 1 X),.bytes d']) (rd (bA n b s t wy ca e) (bu t1 aa (fJ (bA n b s t wy ca e) al f1) fn) (pv av aw X cb (gG ah aw) step (dG cb (e.at_ av aw))) (h6 Y L W ai cut) S au av aw (cD n) U N ag d'))→
 Ev (cR (bh aT (m+10)) aP pQ [.ref 0,.ref 1,.ref 12,.int au,.bytes B] (l4 (bA n b s t wy ca e) (bu t1 aa (fJ (bA n b s t wy ca e) al f1) fn) (pv av aw X cb (gG ah aw) step (dG cb (e.at_ av aw))) (h6 Y L W ai cut) S) K))
 (k:Ev (K (.tup [.bool (ltI 1 X),.bytes d']) (cG xs (bA n b s t wy ca e) (bu t1 aa (fJ (bA n b s t wy ca e) al f1) fn) au bq br bl R [x,y,c,kK (bA n b s t wy ca e) av aw ah cb X step,dI 21 (h6 Y L W ai cut),.ints S,q,bX,c9]))):
 Ev (bh aT (m+11) zQ [.ref 1,.ref 2,.ref 19,.int au,.bytes B] (cG xs (bA n b s t wy ca e) (bu t1 aa (fJ (bA n b s t wy ca e) al f1) fn) au bq br bl R [x,y,c,kK (bA n b s t wy ca e) av aw ah cb X step,dI 21 (h6 Y L W ai cut),.ints S,q,bX,c9]) K):=by
 refine m1 (n:=m+10) (r:=0) (bg:=pQ) (sel:=ju) (vs0:=[.ref 0,.ref 1,.ref 12,.int au,.bytes B]) (H0:=l4 (bA n b s t wy ca e) (bu t1 aa (fJ (bA n b s t wy ca e) al f1) fn) (pv av aw X cb (gG ah aw) step (dG cb (e.at_ av aw))) (h6 Y L W ai cut) S)
  (by kernel_rfl) rfl (Ze al f1) (Zd al f1) (by kernel_rfl) (Zc al f1) ?_
 exact am _ (aK (Zb av aw al f1) k)
end
theorem CX (H:List an):∀(k:Nat) (v:V),bT k v=true→e7 H (k+1) v v=E true:=by
 have m4:∀(f:V→V→Option Bool) (vs:List V),(∀v∈vs,f v v=E true)→gU f vs vs=E true:=fun f vs=>by
  induction vs with
  |nil=>intro _;rfl
  |cons v vs aF=>
   intro h;refine(?_:(match f v v,gU f vs vs with|some x,E y=>E (x&&y)|_,_=>dk)=_)
   rw[h v List.mem_cons_self,aF fun w c0=>h w (List.mem_cons_of_mem _ c0)];rfl
 intro k
 induction k with
 |zero=>
  intro v h
  induction v using V.casesOn with
  |int x=>show E (decide (x=x))=_;rw[decide_eq_true rfl]
  |str x=>show E (c1 x x)=_;rw[pJ]
  |_=>exact dW h
 |succ k aF=>
  intro v h
  induction v using V.casesOn with
  |int x=>show E (decide (x=x))=_;rw[decide_eq_true rfl]
  |str x=>show E (c1 x x)=_;rw[pJ]
  |tup vs=>have h:vs.all (bT k)=true:=h;exact m4 _ vs fun v co=>aF v (List.all_eq_true.mp h v co)
  |_=>exact dW h
def rv (R Z p0 fa hi pi ax po:Int):fw:=((((R,p0,()),(Z,fa,()),()),((hi,pi,()),(ax,po,()),()),()),(((R,(p0+1)% 65536,()),(Z,fa,()),()),((Z,fa,()),(R,(p0+1)% 65536,()),()),()),())
def AG (a c:dt):Prop:=a.1.1=c.1.1∧a.1.2.1=c.1.2.1∧a.2.1.1=c.2.1.1∧a.2.1.2.1=c.2.1.2.1
section
variable {R Z p0 fa hi pi ax po:Int}
theorem apart (aW:R≠Z)(aJ:hi≠R)(cI:hi=Z→pi=fa)(eU:ax=R→po=p0)(c6:0≤p0∧p0<65536)(cg:0≤fa∧fa<65536)(b8:0≤pi∧pi<65536):
 ∀w y av aw ah cb:Bool,1+a0 y=gG ah aw→AG ((rv R Z p0 fa hi pi ax po).at_ w y) (dG cb ((rv R Z p0 fa hi pi ax po).at_ av aw))→w=av∧y=aw∧ah=false∧cb=false:=by
 have Kp:∀w y,((rv R Z p0 fa hi pi ax po).at_ w y).1.1=R↔y=false:=fun w y=>by cases w<;>cases y<;>simp only[fw.at_,rv]<;>simp[aW.symm,aJ]
 have XN:∀cb w y,(dG cb ((rv R Z p0 fa hi pi ax po).at_ w y)).1.1=((rv R Z p0 fa hi pi ax po).at_ w y).1.1:=fun cb w y=>by cases cb<;>rfl
 intro w y av aw ah cb wd aE;have ct:y=aw:=by have a:=Kp w y;have c:=Kp av aw;rw[aE.1,XN] at a;have d:y=false↔aw=false:=a.symm.trans c;clear c;cases y<;>cases aw<;>simp at d⊢
 subst ct;have hf:ah=false:=by
  clear aE;cases ah
  .rfl
  .cases y<;>simp[gG,a0] at wd
 subst hf;refine kR aE fun s1 s2 s3 s4=>?_;clear aE;cases y<;>cases w<;>cases av<;>cases cb<;>simp only[fw.at_,rv,dG] at s1 s2 s3 s4⊢<;>first|exact⟨trivial,trivial,trivial,trivial⟩|(exfalso;lia)|simp
theorem Pk {a c:dt}:dq (fN nf pr a)=dq (fN nf pr c)↔AG a c:=by refine(?_:[nf,pr,a.1.1,a.1.2.1,a.2.1.1,a.2.1.2.1]=[nf,pr,c.1.1,c.1.2.1,c.2.1.1,c.2.1.2.1]↔_);simp[AG]
end
structure mP (n:Bool)(e:fw):Prop where
 apart:∀w y av aw ah cb:Bool,1+a0 y=gG ah aw→AG (e.at_ w y) (dG cb (e.at_ av aw))→w=av∧y=aw∧ah=false∧cb=false
 y7:∀cb av aw,jn n (dG cb (e.at_ av aw))
theorem zt (n:Bool){k:Int}(bl:0≤k)(R:k≤4):fits (xk n) (iy n k):=by
 cases n
 .refine⟨?_,?_⟩
  .refine(?_:(0:Int)≤2^125+5192376096523839485395206520373255*k);have:(0:Int)≤2^125:=by decide
   lia
  .refine(?_:(2:Int)^125+5192376096523839485395206520373255*k<256^16);have:(2:Int)^125=42535295865117307932921825928971026432:=by decide
   have:(256:Int)^16=340282366920938463463374607431768211456:=by decide
   lia
 .refine⟨?_,?_⟩
  .refine(?_:(0:Int)≤167772160+16909060*k);lia
  .refine(?_:(167772160:Int)+16909060*k<256^4);have:(256:Int)^4=4294967296:=by decide
   lia
theorem zu (n:Bool){i j:Int}(h:i≠j):iy n i≠iy n j:=by
 cases n
 .refine(?_:(2:Int)^125+5192376096523839485395206520373255*i≠2^125+5192376096523839485395206520373255*j);lia
 .refine(?_:(167772160:Int)+16909060*i≠167772160+16909060*j);lia
theorem uh {p:Int}(h:0≤p∧p<65536):fits 2 p:=⟨h.1,by show p<256^2;lia⟩
theorem Ux (n s t b:Bool){aw cause p0 fa p2 kb:Int}(c6:0≤p0∧p0<65536)(cg:0≤fa∧fa<65536)(b8:0≤p2∧p2<65536)(eO:0≤kb∧kb<65536):mP n (yt n b s t aw cause p0 fa p2 kb).ends:=by
 have qJ:=zu n (i:=1) (j:=2) (by decide);have MV:=zu n (i:=1) (j:=4) (by decide);have MW:=zu n (i:=2) (j:=4) (by decide);have MU:=zu n (i:=1) (j:=3) (by decide);have f1:=zt n (k:=1) (by decide) (by decide);have hY:=zt n (k:=2) (by decide) (by decide);have md:=zt n (k:=3) (by decide) (by decide);have JD:=zt n (k:=4) (by decide) (by decide);have c9:=uh (p:=(p0+1)% 65536) (by lia);have aS:∀p:dt,jn n p→∀cb,jn n (dG cb p):=fun p h cb=>by
  cases cb
  .exact h
  .exact⟨⟨h.1.1,uh (by show 0≤(p.1.2.1+1000)% 65536∧(p.1.2.1+1000)% 65536<65536;lia)⟩,h.2⟩
 refine⟨?_,fun cb av aw=>aS _ ?_ cb⟩
 .cases s<;>cases t
  .exact apart (hi:=iy n 2) (pi:=fa) (ax:=iy n 1) (po:=p0) qJ qJ.symm (fun _=>rfl) (fun _=>rfl) c6 cg cg
  .exact apart (hi:=iy n 4) (pi:=kb) (ax:=iy n 1) (po:=p0) qJ MV.symm (fun q=>absurd q MW.symm) (fun _=>rfl) c6 cg eO
  .exact apart (hi:=iy n 2) (pi:=fa) (ax:=iy n 3) (po:=p2) qJ qJ.symm (fun _=>rfl) (fun q=>absurd q MU.symm) c6 cg cg
  .exact apart (hi:=iy n 4) (pi:=kb) (ax:=iy n 3) (po:=p2) qJ MV.symm (fun q=>absurd q MW.symm) (fun q=>absurd q MU.symm) c6 cg eO
 .have dw:=uh c6;have g1:=uh cg;have bL:=uh b8;have g3:=uh eO;cases av<;>cases aw
  .exact⟨⟨f1,dw⟩,⟨hY,g1⟩⟩
  .cases s<;>cases t
   .exact⟨⟨hY,g1⟩,⟨f1,dw⟩⟩
   .exact⟨⟨JD,g3⟩,⟨f1,dw⟩⟩
   .exact⟨⟨hY,g1⟩,⟨md,bL⟩⟩
   .exact⟨⟨JD,g3⟩,⟨md,bL⟩⟩
  .exact⟨⟨f1,c9⟩,⟨hY,g1⟩⟩
  .exact⟨⟨hY,g1⟩,⟨f1,c9⟩⟩
section
variable {n s t:Bool}{e:fw}{ah:Bool}
theorem Ma (w y:Bool){i:Int}{p:dt}:bn 4 (jL (bA n b s t wy ca e) w y) (.tup (a6 i (fN (cy n) (aZ b) p)))=(decide (1+a0 y=i)&&decide (dq (fN (cy n) (aZ b) (e.at_ w y))=dq (fN (cy n) (aZ b) p))):=D6 _ _ _ _
theorem D0 (h:mP n e)(w y:Bool)(aL:¬(w=av∧y=aw∧ah=false∧cb=false)):bn 4 (jL (bA n b s t wy ca e) w y) (.tup (a6 (gG ah aw) (fN (cy n) (aZ b) (dG cb (e.at_ av aw)))))=false:=by
 rw[Ma]
 by_cases c:1+a0 y=gG ah aw
 .rw[decide_eq_true c,ny];exact decide_eq_false fun q=>aL (h.apart w y av aw ah cb c (Pk.mp q))
 .rw[decide_eq_false c];rfl
theorem zT:bn 4 (jL (bA n b s t wy ca e) av aw) (.tup (a6 (gG false aw) (fN (cy n) (aZ b) (dG false (e.at_ av aw)))))=true:=by rw[Ma,decide_eq_true (show 1+a0 aw=gG false aw from rfl)];exact decide_eq_true rfl
theorem tup_ne (h:mP n e)(y:Bool):dq ((bA n b s t wy ca e).tup false y)≠dq ((bA n b s t wy ca e).tup true y):=fun q=>
 absurd (h.apart false y true y false false rfl (Pk.mp q)).1 (by decide)
theorem uf:d6 av (gj (bA n b s t wy ca e) false bq) (gj (bA n b s t wy ca e) true br)=gj (bA n b s t wy ca e) av (i5 av bq br):=by cases av<;>rfl
theorem OR {u:Int}:gX (gj (bA n b s t wy ca e) av u) (a0 aw)=fN (cy n) (aZ b) (e.at_ av (!aw)):=by cases aw<;>rfl
theorem O7 {u:Int}{p:dt}:rU (hC (gj (bA n b s t wy ca e) av u).cK (g9 false (a0 aw))) (hC (gj (bA n b s t wy ca e) av u).cK (g9 true (a0 aw))) (e.at_ av (!aw)) p=od e s t av aw p:=by
 cases av
 .cases s<;>cases t<;>cases aw<;>kernel_rfl
 .cases aw<;>kernel_rfl
end
theorem CW (f:V→V→Option Bool)(vs:List V)(h:∀v∈vs,f v v=E true):gU f vs vs=E true:=by
 induction vs with
 |nil=>rfl
 |cons v vs aF=>
  refine(?_:(match f v v,gU f vs vs with|some x,E y=>E (x&&y)|_,_=>dk)=_)
  rw[h v List.mem_cons_self,aF fun w c0=>h w (List.mem_cons_of_mem _ c0)];rfl
noncomputable def ta (a b:Option Bool):Option Bool:=match a,b with|some x,E y=>E (x&&y)|_,_=>dk
section
variable {xs:List Int}{r:Int}{t1 aa:ej}{a b c d e g:an}{K:Bool→Prop}
abbrev pS (xs:List Int)(su:ff)(cB:er)(au cX dQ:Int)(bw ba:Bool)(a b c d e g:an)(dJ t1 aa d1:ej):List an:=cG xs su cB au cX dQ bw ba [a,b,c,d,e,g,gi bw ba dJ t1 aa d1,.ints [cX,dQ],gi bw ba dJ t1 aa d1]
def sm (al f1:Bool)(dJ t1 aa d1:ej):List V:=match al with
 |true=>(match f1 with
  |true=>FJ dJ t1 aa d1 (nc dJ aa) (nc t1 d1)
  |false=>[e6 1 dJ 1 0 2,e6 2 t1 1 1 1])
 |false=>(match f1 with
  |true=>[e6 1 aa 2 0 2,e6 2 d1 2 1 1]
  |false=>[])
theorem ae3:∀bw ba:Bool,(sm bw ba dJ t1 aa d1).all (bT 5)=true:=all2 (by kernel_rfl)
theorem ae4 (bw ba:Bool):∀v∈sm bw ba dJ t1 aa d1,bT 5 v=true:=List.all_eq_true.mp (ae3 bw ba)
theorem TV (bw ba:Bool):e7 (pS xs su cB au cX dQ bw ba a b c d e g dJ t1 aa d1) 8 (.tup [.int r,.bytes fk,.ref 23,.ref 24]) (.tup [.int r,.bytes fk,.ref 13,.ref 22])=E true:=by
 have aW:e7 (pS xs su cB au cX dQ bw ba a b c d e g dJ t1 aa d1) 8 (.tup [.int r,.bytes fk,.ref 23,.ref 24]) (.tup [.int r,.bytes fk,.ref 13,.ref 22])=
  ta (E (decide (r=r))) (ta (E (decide (fk=fk))) (ta (E (decide ([cX,dQ]=[cX,dQ]))) (ta (e7 (pS xs su cB au cX dQ bw ba a b c d e g dJ t1 aa d1) 7 (.ref 24) (.ref 22)) (E true)))):=by kernel_rfl
 have aJ:e7 (pS xs su cB au cX dQ bw ba a b c d e g dJ t1 aa d1) 7 (.ref 24) (.ref 22)=E true:=by
  have aB:=CW (e7 (pS xs su cB au cX dQ bw ba a b c d e g dJ t1 aa d1) 6) (sm bw ba dJ t1 aa d1) fun v co=>CX _ 5 v (ae4 bw ba v co);cases bw<;>cases ba
  .have:e7 (pS xs su cB au cX dQ false false a b c d e g dJ t1 aa d1) 7 (.ref 24) (.ref 22)=E (decide (([]:List Int)=[])):=by kernel_rfl
   rw[this];rfl
  .exact uW (by kernel_rfl) aB
  .exact uW (by kernel_rfl) aB
  .exact uW (by kernel_rfl) aB
 rw[aW,aJ,decide_eq_true (rfl:r=r),decide_eq_true (rfl:fk=fk),decide_eq_true (rfl:[cX,dQ]=[cX,dQ])];rfl
theorem aaW (bw ba:Bool)(k:Ev (K false)):Ev (lK (.tup [.int r,.bytes fk,.ref 23,.ref 24]) (.tup [.int r,.bytes fk,.ref 13,.ref 22]) (pS xs su cB au cX dQ bw ba a b c d e g dJ t1 aa d1) K):=by refine aK (B:=jw (e7 (pS xs su cB au cX dQ bw ba a b c d e g dJ t1 aa d1) 8 (.tup [.int r,.bytes fk,.ref 23,.ref 24]) (.tup [.int r,.bytes fk,.ref 13,.ref 22])) fun x=>K (!x)) rfl ?_;rw[TV];exact k
theorem aaZ {w:Bool}(k:Ev (K false)):Ev (lK (.tup [.bool w,.bytes fk]) (.tup [.bool w,.bytes fk]) H K):=by
 have e:e7 H 8 (.tup [.bool w,.bytes fk]) (.tup [.bool w,.bytes fk])=E true:=by
  have:e7 H 8 (.tup [.bool w,.bytes fk]) (.tup [.bool w,.bytes fk])=ta (E (w==w)) (ta (E (decide (fk=fk))) (E true)):=by kernel_rfl
  rw[this,decide_eq_true (rfl:fk=fk),beq_self_eq_true];rfl
 refine aK (B:=jw (e7 H 8 (.tup [.bool w,.bytes fk]) (.tup [.bool w,.bytes fk])) fun x=>K (!x)) rfl ?_;rw[e];exact k
end
theorem Jd:cm 1 (cm 4 fi)=cm 5 fi:=by kernel_rfl
theorem TO:cm 1 (cm 5 fi)=cm 6 fi:=by kernel_rfl
theorem TP:cm 1 (cm 6 fi)=.nil:=by kernel_rfl
section
variable {fn:Nat}{xs:List Int}{e:fw}{step r ag:Int}{n s t bw ba ah cut:Bool}{x y c:an}{hs:dK}
theorem agz (cw:mP n e)(rG:w1 X)(c0:jt W)
 (hd:d'=match b9 0 r with
  |true=>fx n b L (kZ X) W Y S ai cut (dD n W) (od e s t av aw (dG cb (e.at_ av aw))) (dG cb (e.at_ av aw))
  |false=>cp n b L X W Y S ai cut (dG cb (e.at_ av aw)) (dG cb (e.at_ av aw)))
 (cW:oV au (cD n) (aZ b) (ge n L (dD n W)) (cp n b L X W Y S ai cut (dG cb (e.at_ av aw)) (dG cb (e.at_ av aw))) (gG ah aw)
  (gj (bA n b s t wy ca e) false bq) (gj (bA n b s t wy ca e) true br) (fJ (bA n b s t wy ca e) al f1) fn r d' (gj (bA n b s t wy ca e) false cX) (gj (bA n b s t wy ca e) true dQ) (fJ (bA n b s t wy ca e) bw ba) gd)
 (k:∀(uI uJ uK uL uM uH:V) (G:List an),Ev (hs .next (hG num uI uJ uK uL uM uH) (cG xs (bA n b s t wy ca e) (nS (bA n b s t wy ca e) cX dQ bw ba gd) au cX dQ bw ba (x::y::G)))):
 Ev (b3 (bh aT (m+12)) aP (cm 4 fi) (hG num (.ref 19) (.bytes (cp n b L X W Y S ai cut (dG cb (e.at_ av aw)) (dG cb (e.at_ av aw))))
  (.bytes (fx n b L (kZ X) W Y S ai cut (dD n W) (od e s t av aw (dG cb (e.at_ av aw))) (dG cb (e.at_ av aw)))) (.bool (dD n W)) (.int r) v10)
  (cG xs (bA n b s t wy ca e) (nS (bA n b s t wy ca e) bq br al f1 fn) au cX dQ bw ba [x,y,c,kK (bA n b s t wy ca e) av aw ah cb X step,dI 21 (h6 Y L W ai cut),.ints S]) hs):=by
 have qm:=tup_ne (b:=b) (s:=s) (t:=t) (wy:=wy) (ca:=ca) cw false;have qn:=tup_ne (b:=b) (s:=s) (t:=t) (wy:=wy) (ca:=ca) cw true;have A0:=EO rG;generalize tp:cp n b L X W Y S ai cut (dG cb (e.at_ av aw)) (dG cb (e.at_ av aw))=B at hd cW⊢;generalize ru:fx n b L (kZ X) W Y S ai cut (dD n W) (od e s t av aw (dG cb (e.at_ av aw))) (dG cb (e.at_ av aw))=A at hd⊢;have a8:sX n B (aZ b) (ge n L (dD n W)) (Ay n W):=tp▸N1 n b L ai cut c0;have c2:∀ls,ls=[.int r,.bytes d',.ref 13,.ref 22]→Ev (b3 (bh aT (m+12)) aP (cm 5 fi) (hG num (.ref 19) (.bytes B) (.bytes A) (.bool (dD n W)) (.int r) (.tup ls))
  (cG xs (bA n b s t wy ca e) (nS (bA n b s t wy ca e) bq br al f1 fn) au cX dQ bw ba (HU x y c (bA n b s t wy ca e) av aw ah cb X step (h6 Y L W ai cut) S
   (gi bw ba ((bA n b s t wy ca e).tup false false) ((bA n b s t wy ca e).tup false true) ((bA n b s t wy ca e).tup true false) ((bA n b s t wy ca e).tup true true)))) hs):=fun ls Xd=>by
  refine aK (gk 1 (cm 5 fi) _ _ _) ?_;refine aK afT (VE (m:=m+1) qm qn a8 cW ?_);rw[Xd];refine aaW bw ba (ec rfl ?_);refine aK fh ?_;rw[TO];refine aK (gk 1 (cm 6 fi) _ _ _) ?_;refine aK afU ?_;refine VI (m:=m+1) (d':=A) (U:=aZ b) (N:=ge n L (dD n W)) (ag:=Ay n W) (fun QJ WL=>?_) ?_
  .have:=aeO (n:=n) (b:=b) (L:=L) (ai:=ai) (cut:=cut) (dh:=dD n W) (av:=av) (aw:=aw) (hF:=cb) (X:=X) (W:=W) (Y:=Y) (au:=au) (iif:=gG ah aw) (step:=step) (ag:=Ay n W) (S:=S)
    (p:=dG cb (e.at_ av aw)) (ip:=dG cb (e.at_ av aw)) (g:=e.at_ av (!aw)) (q:=od e s t av aw (dG cb (e.at_ av aw))) (t1:=gj (bA n b s t wy ca e) false cX) (aa:=gj (bA n b s t wy ca e) true dQ) (fn:=gd) (aH:=fJ (bA n b s t wy ca e) bw ba)
    (s:=(s,t,wy,ca,e,())) (sx:=h6 Y L W ai cut) (K:=QJ) (m+1) (by
     have eT:fx n b L X W Y S ai cut (dD n W) (dG cb (e.at_ av aw)) (dG cb (e.at_ av aw))=B:=by rw[←tp];unfold fx;cases dD n W<;>rfl
     rw[eT];exact a8) Zo (cw.y7 cb av aw) (by have:=cw.y7 false av (!aw);exact this) A0.2 (by rw[uf];exact OR) (by rw[uf];exact O7)
   have eT:fx n b L X W Y S ai cut (dD n W) (dG cb (e.at_ av aw)) (dG cb (e.at_ av aw))=B:=by rw[←tp];unfold fx;cases dD n W<;>rfl
   rw[eT,ru] at this;exact this WL
  .refine aK afV ?_;refine aaZ (ec rfl ?_);refine aK fh ?_;rw[TP];exact k _ _ _ _ _ _ _
 refine aK (gk 1 (cm 4 fi) _ _ _) ?_;refine aK afS (dO (fun cS=>?_) fun cS=>?_)
 .rw[cS] at hd;have hd:d'=A:=hd;clear ru;subst hd;refine C1 (m:=m+9) qm qn ?_;refine aK fh ?_;rw[Jd];exact aK (by kernel_rfl) (c2 [.int r,.bytes d',.ref 13,.ref 22] rfl)
 .rw[cS] at hd;have hd:d'=B:=hd;clear tp cW a8;subst hd;refine C1 (m:=m+9) qm qn ?_;refine aK fh ?_;rw[Jd];exact aK (by kernel_rfl) (c2 [.int r,.bytes d',.ref 13,.ref 22] rfl)
end
theorem Wn (n:Bool)(W:Int):(zb (cy n) W).any id= !nh n W:=by
 cases n
 .rfl
 .refine(?_:(!decide (W% 16384=0)||false)= !decide (W% 16384=0));rw[uV]
theorem ZX (X:Int):ltI X 2= !ltI 1 X:=by
 rw[jq,jq]
 by_cases h:X<2
 .rw[decide_eq_true h,decide_eq_false (by lia)];rfl
 .rw[decide_eq_false h,decide_eq_true (by lia)];rfl
theorem Yd (ah aw:Bool):decide (gG ah aw=1+a0 aw)= !ah:=by cases ah<;>cases aw<;>rfl
theorem Je (n:Bool)(au lb X W:Int)(aw ah l cb ik L cut:Bool):rr (cy n) au aw lb X (gG ah aw) W l cb ik L cut=(!l&&(!cb&&(!ah&&(ik&&(!b9 lb au&&lr n L X W cut))))):=by unfold rr lr;rw[Wn,ZX,Yd];generalize b9 lb au=g1;generalize ltI 1 X=bL;generalize nh n W=g3;revert l cb ah ik g1 L g3 bL cut;decide+kernel
theorem TL:cm 1 (cm 1 fi)=cm 2 fi:=by kernel_rfl
theorem TM:cm 1 (cm 2 fi)=cm 3 fi:=by kernel_rfl
theorem TN:cm 1 (cm 3 fi)=cm 4 fi:=by kernel_rfl
section
variable {fn:Nat}{xs:List Int}{e:fw}{n s t:Bool}{x y:an}{hs:dK}
theorem TW {ah cut:Bool}{B A:List Int}{K:Int→Int→Int→Bool→Bool→Prop}(cw:mP n e)(rG:w1 X)(hf:ka Y)(c0:jt W)(hd:hv S=true)
 (tp:cp n b L X W Y S ai cut (dG cb (e.at_ av aw)) (dG cb (e.at_ av aw))=B)
 (ru:fx n b L (kZ X) W Y S ai cut (dD n W) (od e s t av aw (dG cb (e.at_ av aw))) (dG cb (e.at_ av aw))=A)
 (k:∀(r cX dQ:Int) (bw ba:Bool) (gd:Nat),oV au (cD n) (aZ b) (ge n L (dD n W)) B (gG ah aw) (gj (bA n b s t wy ca e) false bq) (gj (bA n b s t wy ca e) true br) (fJ (bA n b s t wy ca e) al f1) fn r
  (match b9 0 r with|true=>A|false=>B) (gj (bA n b s t wy ca e) false cX) (gj (bA n b s t wy ca e) true dQ) (fJ (bA n b s t wy ca e) bw ba) gd→Ev (K r cX dQ bw ba)):
 Ev (rt (cy n) (aZ b) au aw (i5 av bq br) X (gG ah aw) Y W (dD n W) cb (i5 av al f1) L cut (K (-1) bq br al f1) (K (-1) bq br (si av al false) (sj av f1 false))
  (fun z=>K (2-a0 aw) (xb av bq z) (xc av br z) al f1)):=by
 have A0:=EO rG;have rB:=cw.y7 cb av aw;subst tp;cases ew:rr (cy n) au aw (i5 av bq br) X (gG ah aw) W (dD n W) cb (i5 av al f1) L cut with
 |false=>
  refine TU ew (k (-1) bq br al f1 fn ?_);rw[Je] at ew;clear ru;rcases Qi (dD n W) with ij|ij
  .exact PD c0 rB (.inl ij)
  .rw[ij] at ew
   by_cases a9:cb=false∧ah=false∧i5 av al f1=true
   .refine hJ a9 fun cg b8 eO=>?_;clear a9;subst cg;clear k;subst b8;rw[eO] at ew;have ew:(!b9 (i5 av bq br) au&&lr n L X W cut)=false:=ew;refine PE c0 hd hf rB ij eO zT (fun w z=>?_) ?_
    .by_cases c:w=av∧z=aw
     .exact .inl c
     .exact .inr (D0 cw w z fun q=>c ⟨q.1,q.2.1⟩)
    .rw[uf];rcases Qi (b9 (i5 av bq br) au) with CZ|CZ
     .exact .inl CZ
     .rw[CZ] at ew;exact .inr (.inl ew)
   .refine PD c0 rB (.inr fun w z aE=>D0 cw w z fun q=>a9 ⟨q.2.2.2,q.2.2.1,?_⟩);rw[←q.1];exact aE
 |true=>
  have Dg:=ew;rw[Je] at Dg;refine b4 Dg fun dC dU=>?_;refine b4 dU fun dU gn=>?_;refine b4 gn fun gn iT=>?_;refine b4 iT fun iT lp=>?_;refine b4 lp fun lp rk=>?_;rw[km] at dC dU gn lp;subst dU;subst gn;have rD:∀w z,(w=av∧z=aw)∨bn 4 (jL (bA n b s t wy ca e) w z) (.tup (a6 (gG false aw) (fN (cy n) (aZ b) (dG false (e.at_ av aw)))))=false:=fun w z=>by
   by_cases c:w=av∧z=aw
   .exact .inl c
   .exact .inr (D0 cw w z fun q=>c ⟨q.1,q.2.1⟩)
  have DM:b9 (d6 av (gj (bA n b s t wy ca e) false bq) (gj (bA n b s t wy ca e) true br)).kM au=false:=by rw[uf];exact lp
  refine TS ew ?_;have pass:∀z,z=kh au (aZ b)→(b&&(me Y||decide (Y=18)))=false→Ev (K (2-a0 aw) (xb av bq z) (xc av br z) al f1):=fun z hz az=>by
   refine k _ _ _ _ _ fn ?_;have k5:b9 0 (2-a0 aw)=true:=by cases aw<;>rfl
   rw[k5];dsimp only;refine kR (yU c0 rk) fun n7 iI Y9 U=>?_;have cW:=agq (su:=bA n b s t wy ca e) (ai:=ai) (i:=gG false aw) (fn:=fn) (g:=e.at_ av (!aw)) c0 hd hf rB (by have:=cw.y7 false av (!aw);exact this) dC iT zT rD DM rk az A0.2 (by rw[uf];exact OR);rw[uf,O7] at cW;have aW:hV n b L (X-1) W Y S ai cut (od e s t av aw (dG false (e.at_ av aw)))=A:=by rw[←ru];unfold fx kZ;rw[Y9,rR U]
   rw[aW] at cW;have aJ:(r6 av (gj (bA n b s t wy ca e) false bq) (gj (bA n b s t wy ca e) true br) (kh au (aZ b)))=(gj (bA n b s t wy ca e) false (xb av bq z),gj (bA n b s t wy ca e) true (xc av br z)):=by rw[hz];clear ru rB gn k ew Dg dU rD DM cW aW;cases av<;>rfl
   rw[aJ] at cW;exact cW
  clear ru
  induction b using eo with
  |false=>refine ec rfl (pass _ rfl rfl)
  |true=>
   refine cv rfl (dO (fun gV=>?_) fun gV=>dO (fun Dd=>?_) fun Dd=>pass _ rfl ?_)
   .exact k (-1) bq br (si av al false) (sj av f1 false) _ (agp c0 hd hf rB dC iT zT rD DM rfl rk gV)
   .refine k (-1) bq br al f1 fn ?_;exact PE c0 hd hf rB dC iT zT rD (.inr (.inr ⟨rfl,gV,of_decide_eq_true Dd⟩))
   .have gV:me Y=false:=gV;rw[gV,Dd];rfl
theorem agF {a c d:V}{K:List V→Prop}:lT (.tup [a,c,d]) H 3 K=K [a,c,d]:=rfl
theorem turn (cw:mP n e)(bl:0≤num)(R:num≤100)(ar:xs.length≤900)
 (k:∀(EG cX dQ:Int) (bw ba:Bool) (gd:Nat) (uI uJ uK uL uM uH:V) (G:List an),Ev (hs .next (hG num uI uJ uK uL uM uH) (cG xs (bA n b s t wy ca e) (nS (bA n b s t wy ca e) cX dQ bw ba gd) EG cX dQ bw ba (x::y::G)))):
 Ev (b3 (bh aT (m+12)) aP fi (hG num v5 v6 v7 v8 v9 v10) (cG xs (bA n b s t wy ca e) (nS (bA n b s t wy ca e) bq br al f1 fn) au bq br al f1 [x,y]) hs):=by
 have az:=lX.mpr ar;refine aK (gk 1 fi _ _ _) ?_;rw[afO];refine Vy ?_;refine aK (afN (m:=m+11)) ?_;refine jl (.inr (by decide)) (cv ?_ (jl (.inr (by decide)) (cv ?_ ?_)))
 .rw[qA (by lia),rR (by lia),az];rfl
 .rw[qA (by lia),rR (by lia),az];rfl
 refine VD (m:=m+9) fun av aw ah cb L ai cut X step Y W S rG hf c0 hd=>?_;refine aK fh ?_;refine aK (gk 1 (cm 1 fi) _ _ _) ?_;refine aK afP ?_;refine aK fh ?_;rw[TL];refine aK (gk 1 (cm 2 fi) _ _ _) ?_;refine aK afQ ?_;refine VG (m:=m+6) rG hf hd ?_;refine aK agF ?_;refine aK fh ?_;rw[TM];refine aK (gk 1 (cm 3 fi) _ _ _) ?_;refine aK afR ?_;refine VC (m:=m+11) ?_;refine TW (n:=n) (b:=b) (s:=s) (t:=t) (wy:=wy) (ca:=ca) (ai:=ai) (fn:=fn) (au:=au+step) (K:=fun r iA oA KV KW=>gh (b3 (bh aT (m+12)) aP (cm 1 (cm 3 fi))) hs .next (hG num (.ref 19) (.bytes (cp n b L X W Y S ai cut (dG cb (e.at_ av aw)) (dG cb (e.at_ av aw))))
  (.bytes (fx n b L (kZ X) W Y S ai cut (dD n W) (od e s t av aw (dG cb (e.at_ av aw))) (dG cb (e.at_ av aw)))) (.bool (dD n W)) (.int r) v10)
  (cG xs (bA n b s t wy ca e) (nS (bA n b s t wy ca e) bq br al f1 fn) (au+step) iA oA KV KW [x,y,.ints [qe xs (2+2*num+0),qe xs (2+2*num+1)],kK (bA n b s t wy ca e) av aw ah cb X step,dI 21 (h6 Y L W ai cut),.ints S]))
  cw rG hf c0 hd rfl rfl fun r iA oA KV KW gd cW=>?_
 refine aK fh ?_;rw[TN];exact agz cw rG c0 rfl cW fun a1 a2 a3 s9 Cj Ck G=>k _ _ _ _ _ _ a1 a2 a3 s9 Cj Ck G
end
theorem Wh {f:V→List V→List an→dK→Prop}{st:List an→(List V→Prop)→Prop}{K:dK}(aM iS:List V→List an→Prop)
 (step:∀v loc H,v∈vs→aM loc H→∀hs:dK,(∀eg bp,iS eg bp→Ev (hs .next eg bp))→Ev (f v loc H hs))
 (gY:∀loc H,iS loc H→∀P:List V→List an→Prop,(∀eg bp,aM eg bp→Ev (P eg bp))→Ev (trunc m loc H P))(hu:∀H (P:List V→Prop),Ev (P vs)→Ev (st H P))
 (fin:∀loc H,aM loc H→Ev (K .next loc H)):∀n i loc H,aM loc H→i≤vs.length→vs.length<n+i→Ev (ix m f st n i vs loc H K):=fun n=>by
 induction n with
 |zero=>intro i loc H _ R Z;omega
 |succ n aF=>
  intro i loc H ab R Z;unfold ix;cases e:vs[i]? with
  |none=>exact fin loc H ab
  |some v=>refine step v loc H (List.mem_of_getElem? e) ab _ fun eg bp vT=>?_;refine gY _ _ vT _ fun m9 be zf=>hu _ _ ?_;have:=(List.getElem?_eq_some_iff.mp e).1;exact aF (i+1) m9 be zf (by omega) (by omega)
section
variable {fn:Nat}{xs:List Int}{e:fw}{n s t:Bool}{x y:an}{K:dK}
noncomputable def C8:fe→aG
 |.cons (.hN _ bW _) _=>bW
 |_=>.none
inductive sQ (xs:List Int)(n b s t:Bool)(wy ca:Int)(e:fw)(G:List an):List V→List an→Prop
 |mk (au bq br:Int) (al f1:Bool) (fn:Nat) (xo v5 v6 v7 v8 v9 v10:V):sQ xs n b s t wy ca e G [.ref 0,.ref 1,.ref 2,.ref 15,xo,v5,v6,v7,v8,v9,v10] (cG xs (bA n b s t wy ca e) (nS (bA n b s t wy ca e) bq br al f1 fn) au bq br al f1 G)
inductive Behind (xs:List Int)(n b s t:Bool)(wy ca:Int)(e:fw)(x y:an):List V→List an→Prop
 |mk (num:Int) (G:List an) (au bq br:Int) (al f1:Bool) (fn:Nat) (v5 v6 v7 v8 v9 v10:V):Behind xs n b s t wy ca e x y (hG num v5 v6 v7 v8 v9 v10) (cG xs (bA n b s t wy ca e) (nS (bA n b s t wy ca e) bq br al f1 fn) au bq br al f1 (x::y::G))
theorem ago {t1 aa:c8}{G:List an}{P:List V→List an→Prop}(aS:hR (fun l=>d3 l 18) x=true)(ct:hR (fun l=>d3 l 18) y=true):
 trunc 18 (.ref 0::.ref 1::.ref 2::.ref 15::.int num::loc) (cG xs su (bu t1 aa (bV al f1 bw ba bK bR) fn) au bq br al f1 (x::y::G)) P=
  P (.ref 0::.ref 1::.ref 2::.ref 15::.int num::loc.map (kz 18)) (cG xs su (bu t1 aa (bV al f1 bw ba bK bR) fn) au bq br al f1 [x,y]):=by
 have aW:((cG xs su (bu t1 aa (bV al f1 bw ba bK bR) fn) au bq br al f1 (x::y::G)).take 18).all (hR fun l=>d3 l 18)=(hR (fun l=>d3 l 18) x&&(hR (fun l=>d3 l 18) y&&true)):=by revert al f1;exact @all2 _ _ _ (by kernel_rfl)
 unfold trunc;rw[aW,aS,ct];rfl
theorem Wm:fz 1 (cm 4 je.body)=.cons (.hN 4 (C8 (cm 4 je.body)) fi) .nil:=by kernel_rfl
theorem agL {G:Nat→Option V}{K:dK}:b3 C G .nil loc H K=K .next loc H:=rfl
theorem Wj {G:Nat→Option V}{i:Nat}{bW:aG}{a:fe}{K:dK}:b3 C G (.cons (.hN i bW a) .nil) loc H K=
 qX C G loc bW (cF C G loc bW) H fun af vs aq=>ix aq.length (fun v loc H K=>b3 C G a (loc.set i v) H K) (hk af vs aq) (vs.length+1) 0 vs loc aq (gh (b3 C G .nil) K):=rfl
theorem Wl {HX:V→List V→List an→Prop}:qX C aP (.ref 0::loc) (C8 (cm 4 je.body)) (cF C aP (.ref 0::loc) (C8 (cm 4 je.body))) (.d5 xs::H) HX=
 cY (xs.length<2^63) (ao (mz 0 (6+nd 4 (xs.length/8)) 1) (HX .none ((eQ 0 (6+nd 4 (xs.length/8)) 1).map V.int) (.d5 xs::H)) False):=by kernel_rfl
theorem acM {n:Int}(aL:n≤4)(h:v∈(eQ 0 (6+n) 1).map V.int):∃num:Int,v=V.int num∧0≤num∧num≤100:=by refine dm (List.mem_map.mp h) fun z bS=>b7 bS fun hz b8=>dm (List.mem_map.mp hz) fun j bS=>b7 bS fun cn eO=>?_;have:=List.mem_range.mp cn;exact⟨z,b8.symm,by omega,by omega⟩
theorem min_le {k:Nat}:0≤nd 4 (k/8)∧nd 4 (k/8)≤4:=by rw[Em];omega
theorem abI (cw:mP n e)(ar:xs.length≤900)(co:∃num:Int,v=V.int num∧0≤num∧num≤100)(ab:sQ xs n b s t wy ca e [x,y] loc H)(m8:∀eg bp,Behind xs n b s t wy ca e x y eg bp→Ev (K .next eg bp)):
 Ev (b3 (bh aT (m+12)) aP fi (loc.set 4 v) H K):=by
 induction ab with
 |mk au bq br al f1 fn s9 Cj Ck Q8 Q9 Ra Q7=>refine co.elim fun num q=>?_;rw[q.1];exact turn (v5:=Cj) (v6:=Ck) (v7:=Q8) (v8:=Q9) (v9:=Ra) (v10:=Q7) cw q.2.1 q.2.2 ar fun EG cX dQ bw ba gd uI uJ uK uL uM uH G=>m8 _ _ (.mk num G EG cX dQ bw ba gd uI uJ uK uL uM uH)
theorem Te (aS:hR (fun l=>d3 l 18) x=true)(ct:hR (fun l=>d3 l 18) y=true)(h:Behind xs n b s t wy ca e x y loc H){P:List V→List an→Prop}(a8:∀eg bp,sQ xs n b s t wy ca e [x,y] eg bp→Ev (P eg bp)):Ev (trunc 18 loc H P):=by
 induction h with
 |mk num G au bq br al f1 fn uI uJ uK uL uM uH=>exact aK (ago aS ct) (a8 _ _ (.mk au bq br al f1 fn _ _ _ _ _ _ _))
theorem Wi (bl:H.length=18)(R:H=.d5 xs::H.tail)(ar:xs.length≤900)(k:Ev (ix 18 (fun v loc H K=>b3 C aP fi (loc.set 4 v) H K) (hk .none ((eQ 0 (6+nd 4 (xs.length/8)) 1).map V.int) H) (((eQ 0 (6+nd 4 (xs.length/8)) 1).map V.int).length+1) 0 ((eQ 0 (6+nd 4 (xs.length/8)) 1).map V.int) (.ref 0::loc) H (gh (b3 C aP .nil) K))):
 Ev (b3 C aP (fz 1 (cm 4 je.body)) (.ref 0::loc) H K):=by
 rw[Wm];refine aK Wj ?_;generalize H.tail=ag9 at R;subst R;refine aK Wl (jl (by omega) (cv ?_ ?_))
 .have hm:=min_le (k:=xs.length);simp only[mz,jq,fH,decide_eq_true_eq];omega
 .rw[bl];exact k
theorem loop (cw:mP n e)(ar:xs.length≤900)(aS:hR (fun l=>d3 l 18) x=true)(ct:hR (fun l=>d3 l 18) y=true)(ab:sQ xs n b s t wy ca e [x,y] loc H)
 (k:∀loc H,sQ xs n b s t wy ca e [x,y] loc H→Ev (K .next loc H)):Ev (b3 (bh aT (m+12)) aP (fz 1 (cm 4 je.body)) loc H K):=by
 induction ab with
 |mk au bq br al f1 fn xo v5 v6 v7 v8 v9 v10=>refine Wi (by kernel_rfl) (by kernel_rfl) ar ?_;exact Wh (f:=fun v loc H K=>b3 (bh aT (m+12)) aP fi (loc.set 4 v) H K) (sQ xs n b s t wy ca e [x,y]) (Behind xs n b s t wy ca e x y) (fun v loc H co ab hs m8=>abI cw ar (acM min_le.2 co) ab m8) (fun loc H h P a8=>Te aS ct h a8) (fun _ P a8=>a8) (fun loc H h=>aK fh (aK agL (k loc H h))) _ 0 _ _ (.mk au bq br al f1 fn xo v5 v6 v7 v8 v9 v10) (jy _) (jx _)
end
def mT (w y:Bool)(ca:Int)(a b c d e g:V):List V:=[.ref 0,.ref 1,.int (a0 w),.int (a0 y),.int ca,a,b,c,d,e,g]
def dR (su:ff)(cB:er):List an:=[gx su]++dz 1 cB
def kQ (su:ff)(cB:er)(sx:jh)(ins:List Int)(av aw:Bool)(dc T U N ag:Int)(d:List Int)(i o:Int):List an:=dR su cB++([.ints [],dI 12 sx,.ints ins]++(sW 15 T U N ag d i o++
 [.dict [] 0,.dict (oG w9 [.ref 15,.int 1000,.str (a7 "input"),Pt av,.int dc,.int (a0 aw),.ref 1,.ref 23,.ref 24,.ref 20,.ref 25,.ref 26,.ref 27,.ref 28,.str (a7 "little"),.ref 29,.ref 30,.none,.ref 31]) 19,.inst 21,
  .dict [] 0,.dict [] 0,.dict [] 0,.dict [] 0,.dict [] 0,.dict [] 0,.ints [],.ints [],.dict [] 0,.dict [(.int 11,.int 4),(.int 13,.int 8)] 2]))
def ks:V:=.tup [.str (a7 "break"),.str (a7 "")]
def yF (nf pr:Int)(p:dt)(L:Bool)(aH:Int)(aG:jh→List Int→List Int→Prop):Prop:=
 ao ((decide (nf=2)||decide (nf=10))&&(iz pr&&hv [])) (ao (sC nf pr 64 p 0 L (i8 nf pr p aH [] false false)) (aG (aH,L,0,(),false,false,()) (i8 nf pr p aH [] false false) (mG nf pr 64 p 0 L (i8 nf pr p aH [] false false))) False) False
def p4 (w:Bool)(t1 aa:c8)(aH:List (V×V))(fn:Nat)(st ho:Int):er:=match w with
 |false=>bu (wN t1.r4 t1.rep t1.kM st ho) aa aH fn
 |true=>bu t1 (wN aa.r4 aa.rep aa.kM st ho) aH fn
def yL (ca:Int)(aG:Int→Prop):Prop:=ao (decide (ca=14)) (aG 4) (aG 3)
def Cx (ca:Int)(aG:Int→Int→Prop):Prop:=ao (bn 4 (.int 11) (.int ca)) (yL ca (aG 4)) (ao (bn 4 (.int 13) (.int ca)) (yL ca (aG 8)) (yL ca (aG 0)))
def IM (ca:Int)(aG:Int→Int→Int→Prop):Prop:=ao (decide (ca=12)) (Cx ca (aG 8)) (Cx ca (aG 2))
def Cm (aH:Int)(B G:Prop):Prop:=ao (b9 0 aH) (ao (!decide (Builtin.bitAnd aH 5=0)) B G) (ao (!b9 0 aH) B G)
def yQ (U N cK ho:Int)(d:List Int)(B G:Prop):Prop:=ao (decide (U=6)) (ao (b9 0 N&&ltI N 1000) (ao (decide (ho=3))
 (ao (!decide (Builtin.bitAnd cK 4=0)) (Cm (gc N d) B G) (ao (!!decide (Builtin.bitAnd cK 4=0)) B G)) (ao (decide (ho=3)) (Cm (gc N d) B G) (ao (!decide (ho=3)) B G))) False) (ao (!decide (U=17)) B G)
def wM (n:Bool)(U N st cK ho:Int)(d:List Int)(B G:Prop):Prop:=ao (!decide (st=2)) B (ao (decide (Builtin.bitAnd cK 8=0)) B (match n with|true=>ao (!decide (N=20)) B (yQ U N cK ho d B G)|false=>yQ U N cK ho d B G))
section
variable {fn:Nat}{cK U N ag:Int}{s t:Bool}{e:fw}{t1 aa:c8}{aH:List (V×V)}{d:List Int}{p:V}{a1 a2:ej}
theorem UD:∀n w y:Bool,b3 (bh aT (m+8)) aP (fz 3 kO.body) (mT w y ca .aR .aR .aR .aR .aR .aR) (dR (cy n,pr,s,t,wy,cz,e,()) cB) K'=
 ao (decide (ca=15)) (yF (cy n) pr (e.at_ w y) (decide (ca=10)) 17 fun sx ins d=>K' .next (mT w y ca (.ref 13) (ri ni (e.at_ w y)) (.bytes d) .aR .aR .aR) (dR (cy n,pr,s,t,wy,cz,e,()) cB++[.ints [],dI 12 sx,.ints ins]))
  (yF (cy n) pr (e.at_ w y) (decide (ca=10)) 16 fun sx ins d=>K' .next (mT w y ca (.ref 13) (ri ni (e.at_ w y)) (.bytes d) .aR .aR .aR) (dR (cy n,pr,s,t,wy,cz,e,()) cB++[.ints [],dI 12 sx,.ints ins])):=oX (by kernel_rfl)
theorem UE:∀n w y:Bool,b3 (bh aT (m+8)) aP (fz 10 (cm 3 kO.body)) (mT w y ca (.ref 13) p (.bytes d) .aR .aR .aR) (dR (cy n,pr,s,t,wy,cz,e,()) (bu t1 aa aH fn)++[.ints [],dI 12 sx,.ints ins]) K'=
 w5 n d fun U N ag=>IM ca fun st rp ho=>K' .next (mT w y ca (.ref 13) p (.bytes d) (.ref 22) (.int (d6 w t1 aa).cK) .aR) (kQ (cy n,pr,s,t,wy,cz,e,()) (p4 w t1 aa aH fn ((d6 w t1 aa).cK-rp) ho) sx ins w y st (cD n) U N ag d (1+a0 y) (2-a0 y)):=oX (by kernel_rfl)
theorem Jt:∀n y:Bool,b3 (bh aT (m+8)) aP (cm 13 kO.body) (mT false y ca (.ref 13) p (.bytes d) (.ref 22) (.int cK) .aR) (kQ su (bu t1 aa (bV false false (a6 1 du) (a6 2 a1) (a6 1 a2) (a6 2 a3)) fn) sx ins false y st (cD n) U N ag d (1+a0 y) (2-a0 y)) (e1 K)=
 wM n U N st t1.cK t1.state d (K ks (kQ su (p4 false t1 aa [] fn cK 3) sx ins false y st (cD n) U N ag d (1+a0 y) (2-a0 y)))
  (pz (.tup (a6 1 t1.r4)) (val 1 0 2) [] fun CY dN=>pz (.tup (a6 2 t1.rep)) (val 1 1 1) CY fun vJ ku=>K .none (kQ su (p4 false t1 aa vJ (fn+dN+ku) cK 3) sx ins false y st (cD n) U N ag d (1+a0 y) (2-a0 y))):=all2 (by kernel_rfl)
end
theorem OH:∀{es:List (V×V)} {bg:List (V×V)→Nat→Prop},(∀e∈es,bn 4 e.1 k=false)→Ev (bg (es++[(k,v)]) 1)→Ev (ou k v es bg)
 | [],_,_,h=>h
 |(eA,lU)::r,bg,aL,h=>ec (aL _ List.mem_cons_self) (OH (bg:=fun es=>bg ((eA,lU)::es)) (fun e he=>aL e (List.mem_cons_of_mem _ he)) h)
theorem AJ {bg:List (V×V)→Nat→Prop}(aB:(bT 4 k&&dg es.length 1000)=true)(aL:∀e∈es,bn 4 e.1 k=false)(h:Ev (bg (es++[(k,v)]) 1)):Ev (pz k v es bg):=cv aB (OH aL h)
section
variable {fn:Nat}{cK U N ag:Int}{t1 aa:c8}{aH:List (V×V)}{d:List Int}{p:V}{a1 a2:ej}
theorem UF:∀n y:Bool,b3 (bh aT (m+8)) aP (cm 13 kO.body) (mT true y ca (.ref 13) p (.bytes d) (.ref 22) (.int cK) .aR) (kQ su (bu t1 aa (bV true false (a6 1 du) (a6 2 a1) (a6 1 a2) (a6 2 a3)) fn) sx ins true y st (cD n) U N ag d (1+a0 y) (2-a0 y)) (e1 K)=
 wM n U N st aa.cK aa.state d (K ks (kQ su (p4 true t1 aa (bV true false (a6 1 du) (a6 2 a1) (a6 1 a2) (a6 2 a3)) fn cK 3) sx ins true y st (cD n) U N ag d (1+a0 y) (2-a0 y)))
  (pz (.tup (a6 1 aa.r4)) (val 2 0 2) (bV true false (a6 1 du) (a6 2 a1) (a6 1 a2) (a6 2 a3)) fun CY dN=>pz (.tup (a6 2 aa.rep)) (val 2 1 1) CY fun vJ ku=>K .none (kQ su (p4 true t1 aa vJ (fn+dN+ku) cK 3) sx ins true y st (cD n) U N ag d (1+a0 y) (2-a0 y))):=all2 (by kernel_rfl)
theorem UG:∀n y:Bool,b3 (bh aT (m+8)) aP (cm 13 kO.body) (mT false y ca (.ref 13) p (.bytes d) (.ref 22) (.int cK) .aR) (kQ su (bu t1 aa (bV true true (a6 1 du) (a6 2 a1) (a6 1 a2) (a6 2 a3)) fn) sx ins false y st (cD n) U N ag d (1+a0 y) (2-a0 y)) (e1 K)=
 wM n U N st t1.cK t1.state d (K ks (kQ su (p4 false t1 aa (bV true true (a6 1 du) (a6 2 a1) (a6 1 a2) (a6 2 a3)) fn cK 3) sx ins false y st (cD n) U N ag d (1+a0 y) (2-a0 y)))
  (K ks (kQ su (p4 false t1 aa (bV true true (a6 1 du) (a6 2 a1) (a6 1 a2) (a6 2 a3)) fn cK 3) sx ins false y st (cD n) U N ag d (1+a0 y) (2-a0 y))):=all2 (by kernel_rfl)
end
noncomputable def oo (b:Bool)(x y:Int):Int:=match b with|true=>x|false=>y
def tu (ca:Int):Int:=oo (decide (ca=15)) 17 16
def stC (ca:Int):Int:=oo (decide (ca=12)) 8 2
def vC (ca:Int):Int:=oo (decide (11=ca)) 4 (oo (decide (13=ca)) 8 0)
def uE (ca:Int):Int:=oo (decide (ca=14)) 4 3
def vQ (n b L:Bool)(st cK ho aH:Int):Bool:=decide (st=2)&&(!decide (Builtin.bitAnd cK 8=0)&&(!(n&&L)&&(!b||(decide (ho=3)&&(!decide (Builtin.bitAnd cK 4=0)&&(b9 0 aH&&decide (Builtin.bitAnd aH 5=0)))))))
noncomputable def mE (n b:Bool)(ca:Int):Bool:=(decide (ca=12)||decide (13=ca))||((b&&(decide (11=ca)||(decide (ca=14)||decide (ca=15))))||(n&&decide (ca=10)))
theorem Dc (n b s t av:Bool):vQ n b (decide (ca=10)) (stC ca) (FM av s t-vC ca) (uE ca) (tu ca)= !mE n b ca:=by
 have key:∀kI lP nk lQ ms mu:Bool,(lP&&lQ)=false→vQ n b kI (oo nk 8 2) (FM av s t-oo lP 4 (oo lQ 8 0)) (oo ms 4 3) (oo mu 17 16)= !((nk||lQ)||((b&&(lP||(ms||mu)))||(n&&kI))):=by revert n b s t av;decide+kernel
 refine key _ _ _ _ _ _ ?_
 by_cases h:11=ca
 .rw[decide_eq_false (show¬13=ca by lia),jc]
 .rw[decide_eq_false h,oJ]
section
variable {n cut:Bool}{cK ho:Int}{d:List Int}{p:dt}{B:Prop}
theorem Ae (Kf:b=true→gc (hQ n L) d=Y)(az:vQ n b L st cK ho Y=false→Ev B)(b5:vQ n b L st cK ho Y=true→Ev G):Ev (wM n (aZ b) (hQ n L) st cK ho d B G):=by
 unfold vQ at az b5;unfold wM;refine dO (fun aW=>?_) fun aW=>?_
 .rw[km] at aW;rw[aW] at az;exact az rfl
 rw[uS] at aW;rw[aW] at az b5;refine dO (fun aJ=>?_) fun aJ=>?_
 .rw[aJ] at az;exact az rfl
 rw[aJ] at az b5;have I2:((n&&L)=false)→Ev (yQ (aZ b) (hQ n L) cK ho d B G):=fun XF=>by
  rw[XF] at az b5;unfold yQ Cm
  induction b using eo with
  |false=>exact ec rfl (ec rfl (b5 rfl))
  |true=>
   rw[Kf rfl];refine cv rfl (cv (by cases n<;>cases L<;>rfl) (dO (fun cI=>?_) fun cI=>?_))
   .rw[cI] at az b5;refine dO (fun eU=>?_) fun eU=>?_
    .rw[eU] at az b5;refine dO (fun iX=>?_) fun iX=>?_
     .rw[iX] at az b5;refine dO (fun kv=>?_) fun kv=>?_
      .rw[km] at kv;rw[kv] at az;exact az rfl
      .rw[uS] at kv;rw[kv] at b5;exact b5 rfl
     .rw[iX] at az;exact cv (by rw[iX];rfl) (az rfl)
    .rw[eU] at az;exact cv (by rw[eU];rfl) (az rfl)
   .rw[cI] at az;exact ec cI (cv (by rw[cI];rfl) (az rfl))
 induction n using eo with
 |false=>exact I2 rfl
 |true=>
  clear Kf b5
  induction L using eo with
  |false=>exact ec rfl (I2 rfl)
  |true=>exact cv rfl (az rfl)
end
section
variable {fn:Nat}{n s t w y:Bool}{e:fw}{t1 aa:c8}{aH:List (V×V)}
theorem Iw {p:dt}{aG:jh→List Int→List Int→Prop}(hf:ka f)(h:∀sx ins,Ev (aG sx ins (cp n b L 64 0 f [] false false p p))):Ev (yF (cy n) (aZ b) p L f aG):=by unfold yF;exact cv (by rw[wA];clear h;cases n<;>rfl) (cv (Bf rfl hf (by lia)) (h _ _))
theorem Sz {aG:Int→Int→Int→Prop}(h:Ev (aG (stC ca) (vC ca) (uE ca))):Ev (IM ca aG):=by
 have bv:∀j0:Int→Prop,Ev (j0 (uE ca))→Ev (yL ca j0):=fun j0 df=>by unfold uE at df;refine dO (fun e=>?_) fun e=>?_<;>(rw[e] at df;exact df)
 have Z:∀j0:Int→Int→Prop,Ev (j0 (vC ca) (uE ca))→Ev (Cx ca j0):=fun j0 df=>by
  unfold vC at df;refine dO (fun e=>?_) fun e=>?_
  .have e:decide (11=ca)=true:=e;rw[e] at df;exact bv _ df
  .have e:decide (11=ca)=false:=e;rw[e] at df;refine dO (fun e=>?_) fun e=>?_
   .have e:decide (13=ca)=true:=e;rw[e] at df;exact bv _ df
   .have e:decide (13=ca)=false:=e;rw[e] at df;exact bv _ df
 unfold stC at h;refine dO (fun e=>?_) fun e=>?_<;>(rw[e] at h;exact Z _ h)
abbrev Ch (n b:Bool)(ca:Int)(p:dt):List Int:=cp n b (decide (ca=10)) 64 0 (tu ca) [] false false p p
theorem yH (k:∀sx ins ag,Ev (b3 (bh aT (m+8)) aP (cm 13 kO.body) (mT w y ca (.ref 13) (ri ni (e.at_ w y)) (.bytes (Ch n b ca (e.at_ w y))) (.ref 22) (.int (d6 w t1 aa).cK) .aR)
 (kQ (bA n b s t wy cz e) (p4 w t1 aa aH fn ((d6 w t1 aa).cK-vC ca) (uE ca)) sx ins w y (stC ca) (cD n) (aZ b) (hQ n (decide (ca=10))) ag (Ch n b ca (e.at_ w y)) (1+a0 y) (2-a0 y)) (e1 K))):
 Ev (cR (bh aT (m+8)) aP kO [.ref 0,.ref 1,.int (a0 w),.int (a0 y),.int ca] (dR (bA n b s t wy cz e) (bu t1 aa aH fn)) K):=by
 refine aK (qP (loc:=mT w y ca .aR .aR .aR .aR .aR .aR) rfl (by kernel_rfl)) ?_;refine aK (gk 3 _ _ _ _) ?_;have m3:∀f,f=tu ca→∀sx ins,Ev (gh (b3 (bh aT (m+8)) aP (cm 3 kO.body)) (e1 K) .next (mT w y ca (.ref 13) (ri ni (e.at_ w y)) (.bytes (cp n b (decide (ca=10)) 64 0 f [] false false (e.at_ w y) (e.at_ w y))) .aR .aR .aR) (dR (bA n b s t wy cz e) (bu t1 aa aH fn)++[.ints [],dI 12 sx,.ints ins])):=fun f hf sx ins=>by
  subst hf;refine aK fh ?_;refine aK (gk 10 _ _ _ _) ?_;refine aK (UE n w y) ?_;refine N1 n b _ _ _ (.head _) _ (Sz ?_);refine aK fh ?_;have hL:cm 10 (cm 3 kO.body)=cm 13 kO.body:=by kernel_rfl
  rw[hL];have ij:dD n 0=false:=by clear k;cases n<;>rfl
  rw[ij];exact k sx ins _
 refine aK (UD n w y) ?_;refine dO (fun CR=>?_) fun CR=>?_
 .exact Iw (by unfold ka;decide) (m3 17 (by unfold tu;rw[CR];rfl))
 .exact Iw (by unfold ka;decide) (m3 16 (by unfold tu;rw[CR];rfl))
end
noncomputable def my:List Nat:=[0,1,2,3,4,5,6,7,8,9,10,11]
section
variable {t1 aa:c8}{fn:Nat}{x z T U N ag i o:Int}{d:List Int}{G:List an}
theorem Rk:∀al f1:Bool,reach (dR su (bu t1 aa (bV al f1 bw ba bK bR) fn)++G) 300 (kJ [.ref 0,.ref 1,.int x,.int z,.int ca]) []=my:=all2 (by kernel_rfl)
theorem Rj:∀al f1:Bool,(i4 my&&iL (eV my) [.ref 0,.ref 1,.int x,.int z,.int ca]&&my.all (lL (eV my) (dR su (bu t1 aa (bV al f1 bw ba bK bR) fn)++G)))=true:=all2 (by kernel_rfl)
theorem Ri:∀al f1:Bool,(my.map fun l=>jP (iM my) (j5 (dR su (bu t1 aa (bV al f1 bw ba bK bR) fn)++G) l))=dR su (bu t1 aa (bV al f1 bw ba bK bR) fn):=all2 (by kernel_rfl)
theorem Cn:∀al f1 w y:Bool,iq my (dR su (bu t1 aa (bV al f1 bw ba bK bR) fn)++G) ks (kQ su (bu gK gL (bV al f1 bw ba bK bR) gd) sx ins w y st T U N ag d i o) K=K ks (dR su (bu gK gL (bV al f1 bw ba bK bR) gd)++G++[]):=l7 (by kernel_rfl)
theorem Rg (y:Bool):iq my (dR su (bu t1 aa (bV false false bw ba bK bR) fn)++G) .none (kQ su (bu gK gL (bV true false bw ba bK bR) gd) sx ins false y st T U N ag d i o) K=K .none (dR su (bu gK gL (bV true false bw ba bK bR) gd)++G++[]):=by kernel_rfl
theorem Rh (y:Bool):iq my (dR su (bu t1 aa (bV true false bw ba bK bR) fn)++G) .none (kQ su (bu gK gL (bV true true bw ba bK bR) gd) sx ins true y st T U N ag d i o) K=K .none (dR su (bu gK gL (bV true true bw ba bK bR) gd)++G++[]):=by kernel_rfl
end
section
variable {fn:Nat}{n s t w y:Bool}{e:fw}{G:List an}
abbrev iD (n b s t:Bool)(wy cz:Int)(e:fw)(al f1:Bool)(fn:Nat):er:=nS (bA n b s t wy cz e) 5000 5000 al f1 fn
theorem yG (am:Ev (cR (bh aT (m+8)) aP kO [.ref 0,.ref 1,.int (a0 w),.int (a0 y),.int ca] (dR (bA n b s t wy cz e) (iD n b s t wy cz e al f1 fn)) (fun r aq=>iq my (dR (bA n b s t wy cz e) (iD n b s t wy cz e al f1 fn)++G) r aq K))):
 Ev (bh aT (m+9) mm [.ref 0,.ref 1,.int (a0 w),.int (a0 y),.int ca] (dR (bA n b s t wy cz e) (iD n b s t wy cz e al f1 fn)++G) K):=
 m1 (n:=m+8) (r:=0) (bg:=kO) (sel:=my) (vs0:=[.ref 0,.ref 1,.int (a0 w),.int (a0 y),.int ca]) (by kernel_rfl) rfl (Rk al f1) (Rj al f1) (by kernel_rfl) (Ri al f1) am
theorem za {p:dt}(az:b=true):gc (hQ n (decide (ca=10))) (Ch n b ca p)=tu ca:=by subst az;exact C4 n _ false rfl
theorem Iv (co:mE n b ca=false)(k:Ev (K .none (dR (bA n b s t wy cz e) (iD n b s t wy cz e true false 2)++G))):
 Ev (bh aT (m+9) mm [.ref 0,.ref 1,.int (a0 false),.int (a0 y),.int ca] (dR (bA n b s t wy cz e) (iD n b s t wy cz e false false 0)++G) K):=by
 refine yG (yH fun sx ins ag=>?_);refine aK (Jt n y) (Ae za (fun h=>?_) fun h=>?_)
 .have:=(Dc n b s t false (ca:=ca)).symm.trans h;rw[co] at this;exact j9 this
 .refine AJ rfl (fun e he=>nomatch he) (AJ rfl (fun e he=>?_) ?_)
  .rcases List.mem_singleton.mp he with rfl
   rfl
  .exact aK (Rg y) (by rw[List.append_nil];exact k)
theorem RG (co:mE n b ca=true)(k:Ev (K ks (dR (bA n b s t wy cz e) (iD n b s t wy cz e false false 0)++G))):
 Ev (bh aT (m+9) mm [.ref 0,.ref 1,.int (a0 false),.int (a0 y),.int ca] (dR (bA n b s t wy cz e) (iD n b s t wy cz e false false 0)++G) K):=by
 refine yG (yH fun sx ins ag=>?_);refine aK (Jt n y) (Ae za (fun h=>?_) fun h=>?_)
 .exact aK (Cn false false false y) (by rw[List.append_nil];exact k)
 .have:=(Dc n b s t false (ca:=ca)).symm.trans h;rw[co] at this;exact dW this
theorem PV:mE n b 0=false:=by cases n<;>cases b<;>decide+kernel
theorem RH (bl:dq ((bA n b s t wy cz e).tup false false)≠dq ((bA n b s t wy cz e).tup true false))(R:dq ((bA n b s t wy cz e).tup false true)≠dq ((bA n b s t wy cz e).tup true true))(k:Ev (K .none (dR (bA n b s t wy cz e) (iD n b s t wy cz e true true 4)++G))):
 Ev (bh aT (m+9) mm [.ref 0,.ref 1,.int (a0 true),.int (a0 y),.int 0] (dR (bA n b s t wy cz e) (iD n b s t wy cz e true false 2)++G) K):=by
 refine yG (yH fun sx ins ag=>?_);refine aK (UF n y) (Ae za (fun h=>?_) fun h=>?_)
 .have:=(Dc n b s t true (ca:=0)).symm.trans h;rw[PV] at this;exact j9 this
 .refine AJ rfl (fun q a9=>?_) (AJ rfl (fun q a9=>?_) ?_)
  .rcases List.mem_cons.mp a9 with rfl|a9
   .refine(D6 1 1 ((bA n b s t wy cz e).tup false false) ((bA n b s t wy cz e).tup true false)).trans ?_;rw[decide_eq_false bl,jc]
   .rcases List.mem_singleton.mp a9 with rfl
    rfl
  .rcases List.mem_append.mp a9 with a9|a9
   .rcases List.mem_cons.mp a9 with rfl|a9
    .rfl
    .rcases List.mem_singleton.mp a9 with rfl
     refine(D6 2 2 ((bA n b s t wy cz e).tup false true) ((bA n b s t wy cz e).tup true true)).trans ?_;rw[decide_eq_false R,jc]
   .rcases List.mem_singleton.mp a9 with rfl
    rfl
  .exact aK (Rh y) (by rw[List.append_nil];exact k)
theorem RI (k:Ev (K ks (dR (bA n b s t wy cz e) (iD n b s t wy cz e true true 4)++G))):
 Ev (bh aT (m+9) mm [.ref 0,.ref 1,.int (a0 false),.int (a0 y),.int 0] (dR (bA n b s t wy cz e) (iD n b s t wy cz e true true 4)++G) K):=by
 refine yG (yH fun sx ins ag=>?_);exact aK (UG n y) (Ae za (fun h=>aK (Cn true true false y) (by rw[List.append_nil];exact k)) fun h=>aK (Cn true true false y) (by rw[List.append_nil];exact k))
end
noncomputable def fQ (ca wy:Int)(v:V):List V:=[.ref 0,.ref 1,.int ca,.int wy,v]
def zG:Nat:=a7 "flows"
section
variable {s t v:Bool}{e:fw}
theorem adn:b3 C aP (fz 3 jf.body) [.ref 0,.ref 1,.aR,.aR,.aR] (dR (nf,pr,s,t,wy,ca,e,()) cB) K'=
 ao (decide (12=ca)||(decide (13=ca)||false)) (ao (decide (12=ca)||(decide (13=ca)||false)) (K' .next (fQ ca wy (.bool (decide (12=ca)||(decide (13=ca)||false)))) (dR (nf,pr,s,t,wy,ca,e,()) cB))
  (ao (decide (ca=10)) (K' .next (fQ ca wy (.bool (decide (nf=2)))) (dR (nf,pr,s,t,wy,ca,e,()) cB)) (K' .next (fQ ca wy (.bool (decide (ca=10)))) (dR (nf,pr,s,t,wy,ca,e,()) cB))))
  (ao (decide (11=ca)||(decide (14=ca)||(decide (15=ca)||false)))
   (ao (decide (pr=6)) (K' .next (fQ ca wy (.bool (decide (pr=6)))) (dR (nf,pr,s,t,wy,ca,e,()) cB))
    (ao (decide (ca=10)) (K' .next (fQ ca wy (.bool (decide (nf=2)))) (dR (nf,pr,s,t,wy,ca,e,()) cB)) (K' .next (fQ ca wy (.bool (decide (ca=10)))) (dR (nf,pr,s,t,wy,ca,e,()) cB))))
   (ao (decide (11=ca)||(decide (14=ca)||(decide (15=ca)||false))) (K' .next (fQ ca wy (.bool (decide (11=ca)||(decide (14=ca)||(decide (15=ca)||false))))) (dR (nf,pr,s,t,wy,ca,e,()) cB))
    (ao (decide (ca=10)) (K' .next (fQ ca wy (.bool (decide (nf=2)))) (dR (nf,pr,s,t,wy,ca,e,()) cB)) (K' .next (fQ ca wy (.bool (decide (ca=10)))) (dR (nf,pr,s,t,wy,ca,e,()) cB))))):=by kernel_rfl
theorem adp:b3 C aP (fz 1 (cm 3 jf.body)) (fQ ca wy (.bool v)) H K'=
 ao v (C mm [.ref 0,.ref 1,.int 0,.int wy,.int ca] H fun r aq=>lK r ks aq fun x=>ao x (K' (.ret (.bool false)) (fQ ca wy (.bool v)) aq)
  (rh (.ref 1) zG aq fun f=>lK f (.ref aq.length) (aq++[.dict [] 0]) fun x=>ao x (K' (.ret (.bool false)) (fQ ca wy (.bool v)) (aq++[.dict [] 0])) (K' .next (fQ ca wy (.bool v)) (aq++[.dict [] 0]))))
  (K' .next (fQ ca wy (.bool v)) H):=by kernel_rfl
theorem adq:b3 C aP (fz 1 (cm 4 jf.body)) (fQ ca wy (.bool v)) H K'=
 ao (!v) (C mm [.ref 0,.ref 1,.int 0,.int wy,.int ca] H fun r aq=>jw (rJ r) fun x=>ao (!x) (K' (.ret (.bool false)) (fQ ca wy (.bool v)) aq) (K' .next (fQ ca wy (.bool v)) aq))
  (C mm [.ref 0,.ref 1,.int 0,.int wy,.int 0] H fun r aq=>jw (rJ r) fun x=>ao (!x) (K' (.ret (.bool false)) (fQ ca wy (.bool v)) aq) (K' .next (fQ ca wy (.bool v)) aq)):=by kernel_rfl
theorem adr:b3 C aP (fz 1 (cm 5 jf.body)) (fQ ca wy (.bool v)) H K'=
 C mm [.ref 0,.ref 1,.int 1,.int (1-wy),.int 0] H fun r aq=>jw (rJ r) fun x=>ao (!x) (K' (.ret (.bool false)) (fQ ca wy (.bool v)) aq) (K' .next (fQ ca wy (.bool v)) aq):=by kernel_rfl
theorem ads:b3 C aP (cm 6 jf.body) (fQ ca wy (.bool v)) H (e1 K)=
 C mm [.ref 0,.ref 1,.int 0,.int (1-wy),.int 0] H fun r aq=>jw (e7 aq 8 r ks) fun x=>K (.bool x) aq:=by kernel_rfl
theorem Sh:e7 H 8 ks ks=E true:=by kernel_rfl
theorem aaV {K:Bool→Prop}:lK ks ks H K=K false:=by kernel_rfl
theorem V7 {t1 aa:c8}{fn:Nat}{aG j0:List an→Prop}:(rh (.ref 1) zG (dR su (bu t1 aa [] fn)) fun f=>lK f (.ref (dR su (bu t1 aa [] fn)).length) (dR su (bu t1 aa [] fn)++[.dict [] 0]) fun x=>ao x (aG (dR su (bu t1 aa [] fn)++[.dict [] 0])) (j0 (dR su (bu t1 aa [] fn)++[.dict [] 0])))=j0 (dR su (bu t1 aa [] fn)++[.dict [] 0]):=by kernel_rfl
end
theorem kT:∀(i j:Nat) (s:fe),cm i (cm j s)=cm (j+i) s
 |i,0,s=>by rw[GK];rfl
 |i,j+1,.nil=>by rw[GI];cases i<;>rfl
 |i,j+1,.cons _ r=>by rw[GI];exact kT i j r
theorem EB {A B:Prop}:(jw (rJ V.none) fun x=>ao (!x) A B)=B:=rfl
theorem Fj {o:Option Bool}{K:Bool→Prop}(h:o=E b):jw o K=K b:=by subst h;rfl
theorem one_sub (y:Bool):1-a0 y=a0 (!y):=by cases y<;>rfl
theorem NO (a b c:Bool):(a||(b||false))=(a||b)∧(a||(b||(c||false)))=(a||(b||c)):=by cases a<;>cases b<;>cases c<;>exact⟨rfl,rfl⟩
theorem CM {x y:Int}:decide (x=y)=decide (y=x):=decide_eq_decide.mpr ⟨xI,xI⟩
section
variable {n s t y:Bool}{e:fw}{xs:List Int}{G:List an}
theorem Zf (b:Bool):decide (aZ b=6)=b:=by cases b<;>rfl
theorem aa7 (n:Bool):decide (cy n=2)=n:=by cases n<;>rfl
theorem agJ {aG:Bool→Prop}(h:Ev (aG (mE n b ca)))(dC:Bool→Prop):
 Ev (ao (decide (12=ca)||(decide (13=ca)||false)) (ao (decide (12=ca)||(decide (13=ca)||false)) (aG (decide (12=ca)||(decide (13=ca)||false))) (ao (decide (ca=10)) (aG (decide (cy n=2))) (aG (decide (ca=10)))))
  (ao (decide (11=ca)||(decide (14=ca)||(decide (15=ca)||false)))
   (ao (decide (aZ b=6)) (aG (decide (aZ b=6))) (ao (decide (ca=10)) (aG (decide (cy n=2))) (aG (decide (ca=10)))))
   (ao (decide (11=ca)||(decide (14=ca)||(decide (15=ca)||false))) (aG (decide (11=ca)||(decide (14=ca)||(decide (15=ca)||false)))) (ao (decide (ca=10)) (aG (decide (cy n=2))) (aG (decide (ca=10))))))):=by
 have key:∀kI lP nk lQ ms mu:Bool,Ev (aG ((nk||lQ)||((b&&(lP||(ms||mu)))||(n&&kI))))→((nk||(lQ||false))&&(b&&(lP||(ms||mu))||n&&kI))=false→(kI&&(lP||(ms||mu)))=false→
  Ev (ao (nk||(lQ||false)) (ao (nk||(lQ||false)) (aG (nk||(lQ||false))) (ao kI (aG n) (aG kI))) (ao (lP||(ms||(mu||false))) (ao b (aG b) (ao kI (aG n) (aG kI))) (ao (lP||(ms||(mu||false))) (aG (lP||(ms||(mu||false)))) (ao kI (aG n) (aG kI))))):=by
  intro kI lP nk lQ ms mu h R Z;rw[(NO nk lQ lQ).1] at R⊢;rw[(NO lP ms mu).2];generalize (lP||(ms||mu))=c at h R Z⊢;generalize (nk||lQ)=d at h R⊢;cases d
  .cases c
   .cases kI
    .have e:(false||(b&&false||n&&false))=false:=by cases b<;>cases n<;>rfl
     rw[e] at h;exact⟨h.out⟩
    .have e:(false||(b&&false||n&&true))=n:=by cases b<;>cases n<;>rfl
     rw[e] at h;exact⟨h.out⟩
   .cases kI
    .have e:(false||(b&&true||n&&false))=b:=by cases b<;>cases n<;>rfl
     rw[e] at h;clear R e;cases b
     .exact⟨h.out⟩
     .exact⟨h.out⟩
    .exact j9 Z
  .cases c<;>exact⟨h.out⟩
 rw[Zf,aa7];unfold mE at h;rw[CM (x:=ca) (y:=12),CM (x:=ca) (y:=14),CM (x:=ca) (y:=15)] at h;refine key _ _ _ _ _ _ h ?_ ?_
 .by_cases ahe:12=ca∨13=ca
  .rw[decide_eq_false (show¬11=ca by lia),decide_eq_false (show¬14=ca by lia),decide_eq_false (show¬15=ca by lia),decide_eq_false (show¬ca=10 by lia)];generalize (decide (12=ca)||(decide (13=ca)||false))=c;cases c<;>cases b<;>cases n<;>rfl
  .rw[decide_eq_false (show¬12=ca by lia),decide_eq_false (show¬13=ca by lia)];rfl
 .by_cases zc:ca=10
  .rw[decide_eq_false (show¬11=ca by lia),decide_eq_false (show¬14=ca by lia),decide_eq_false (show¬15=ca by lia),uV,uV,jc]
  .rw[decide_eq_false zc,oJ]
theorem RK (cw:mP n e)(k:∀G:List an,Ev (K (.bool true) (dR (bA n b s t (a0 y) ca e) (iD n b s t (a0 y) ca e true true 4)++G))):
 Ev (cR (bh aT (m+9)) aP jf [.ref 0,.ref 1] (dR (bA n b s t (a0 y) ca e) (iD n b s t (a0 y) ca e false false 0)) K):=by
 refine aK (qP (loc:=[.ref 0,.ref 1,.aR,.aR,.aR]) rfl (by kernel_rfl)) ?_;refine aK (gk 3 _ _ _ _) (aK adn ?_);have acw:∀(v:Bool) (G:List an),Ev (b3 (bh aT (m+9)) aP (cm 6 jf.body) (fQ ca (a0 y) (.bool v)) (dR (bA n b s t (a0 y) ca e) (iD n b s t (a0 y) ca e true true 4)++G) (e1 K)):=fun v G=>by refine aK ads ?_;rw[one_sub];refine RI ?_;refine aK (Fj Sh) ?_;exact k G
 have r8:∀(v:Bool) (G:List an),Ev (b3 (bh aT (m+9)) aP (cm 5 jf.body) (fQ ca (a0 y) (.bool v)) (dR (bA n b s t (a0 y) ca e) (iD n b s t (a0 y) ca e true false 2)++G) (e1 K)):=fun v G=>by refine aK (gk 1 _ _ _ _) (aK adr ?_);rw[one_sub];refine RH (tup_ne cw false) (tup_ne cw true) ?_;refine aK EB ?_;refine aK fh ?_;rw[kT];exact acw v G
 have qN:∀G:List an,Ev (b3 (bh aT (m+9)) aP (cm 4 jf.body) (fQ ca (a0 y) (.bool (mE n b ca))) (dR (bA n b s t (a0 y) ca e) (iD n b s t (a0 y) ca e false false 0)++G) (e1 K)):=fun G=>by
  refine aK (gk 1 _ _ _ _) (aK adq (dO (fun nY=>?_) fun nY=>?_))
  .rw[km] at nY;refine Iv nY ?_;refine aK EB ?_;refine aK fh ?_;rw[kT];exact r8 _ G
  .refine Iv PV ?_;refine aK EB ?_;refine aK fh ?_;rw[kT];exact r8 _ G
 refine agJ (aG:=fun v=>gh (b3 (bh aT (m+9)) aP (cm 3 jf.body)) (e1 K) .next (fQ ca (a0 y) (.bool v)) (dR (bA n b s t (a0 y) ca e) (iD n b s t (a0 y) ca e false false 0))) ?_ (fun _=>True);refine aK fh (aK (gk 1 _ _ _ _) (aK adp (dO (fun nY=>?_) fun nY=>?_)))
 .have h:=RG (m:=m) (s:=s) (t:=t) (y:=y) (wy:=a0 y) (cz:=ca) (e:=e) (G:=[]) (K:=fun r aq=>lK r ks aq fun x=>ao x (gh (b3 (bh aT (m+9)) aP (cm 1 (cm 3 jf.body))) (e1 K) (.ret (.bool false)) (fQ ca (a0 y) (.bool (mE n b ca))) aq)
   (rh (.ref 1) zG aq fun f=>lK f (.ref aq.length) (aq++[.dict [] 0]) fun x=>ao x (gh (b3 (bh aT (m+9)) aP (cm 1 (cm 3 jf.body))) (e1 K) (.ret (.bool false)) (fQ ca (a0 y) (.bool (mE n b ca))) (aq++[.dict [] 0])) (gh (b3 (bh aT (m+9)) aP (cm 1 (cm 3 jf.body))) (e1 K) .next (fQ ca (a0 y) (.bool (mE n b ca))) (aq++[.dict [] 0])))) nY ?_
  .rw[List.append_nil] at h;exact h
  .rw[List.append_nil];refine aK aaV (ec rfl ?_);refine aK (V7 (t1:=gj (bA n b s t (a0 y) ca e) false 5000) (aa:=gj (bA n b s t (a0 y) ca e) true 5000) (fn:=0)
    (aG:=fun H=>gh (b3 (bh aT (m+9)) aP (cm 1 (cm 3 jf.body))) (e1 K) (.ret (.bool false)) (fQ ca (a0 y) (.bool (mE n b ca))) H)
    (j0:=fun H=>gh (b3 (bh aT (m+9)) aP (cm 1 (cm 3 jf.body))) (e1 K) .next (fQ ca (a0 y) (.bool (mE n b ca))) H)) ?_
   refine aK fh ?_;rw[kT];exact qN [.dict [] 0]
 .refine aK fh ?_;rw[kT];have h:=qN [];rw[List.append_nil] at h;exact h
end
noncomputable def py:List Nat:=[1,2,3,4,5,6,7,8,9,10,11,12]
section
variable {fn:Nat}{xs:List Int}{t1 aa:c8}{G iS:List an}
theorem Ru:∀al f1:Bool,reach (cG xs su (bu t1 aa (bV al f1 bw ba bK bR) fn) au bq br dw g1 iS) 300 (kJ [.ref 1,.ref 2]) []=py:=all2 (by kernel_rfl)
theorem Rt:∀al f1:Bool,(i4 py&&iL (eV py) [.ref 1,.ref 2]&&py.all (lL (eV py) (cG xs su (bu t1 aa (bV al f1 bw ba bK bR) fn) au bq br dw g1 iS)))=true:=all2 (by kernel_rfl)
theorem Rs:∀al f1:Bool,(py.map fun l=>jP (iM py) (j5 (cG xs su (bu t1 aa (bV al f1 bw ba bK bR) fn) au bq br dw g1 iS) l))=dR su (bu t1 aa (bV al f1 bw ba bK bR) fn):=all2 (by kernel_rfl)
theorem Rr:iq py (cG xs su (bu t1 aa (bV false false bw ba bK bR) fn) au bq br dw g1 []) (.bool b) (dR su (bu gK gL (bV true true bw ba bK bR) gd)++G) K=K (.bool b) (cG xs su (bu gK gL (bV true true bw ba bK bR) gd) au bq br dw g1 []):=by kernel_rfl
end
section
variable {xs:List Int}{n s t y:Bool}{e:fw}
theorem Vz (cw:mP n e)(k:Ev (K (.bool true) (cG xs (bA n b s t (a0 y) ca e) (iD n b s t (a0 y) ca e true true 4) au bq br dw g1 []))):
 Ev (bh aT (m+10) zK [.ref 1,.ref 2] (cG xs (bA n b s t (a0 y) ca e) (iD n b s t (a0 y) ca e false false 0) au bq br dw g1 []) K):=by
 refine m1 (n:=m+9) (r:=0) (bg:=jf) (sel:=py) (vs0:=[.ref 0,.ref 1]) (H0:=dR (bA n b s t (a0 y) ca e) (iD n b s t (a0 y) ca e false false 0)) (by kernel_rfl) rfl (Ru false false) (Rt false false) (by kernel_rfl) (Rs false false) ?_;exact RK cw fun G=>aK Rr k
end
def jC (t1 aa:c8)(aH:List (V×V))(fn:Nat):List an:=(dz 0 (bu t1 aa aH fn)).set 3 (.dict [(.int 2,.ref 6)] 3)
def I4:fe:=JL (cm 2 nJ.body)
noncomputable def l9 (v:V):List V:=[.ref 0,.ref 4,.int 1,v]
section
variable {fn:Nat}{t1 aa:c8}{b2:List V}
theorem Tf:∀al f1:Bool,b3 (bh aT (m+4)) aP (fz 2 nJ.body) [.ref 0,.ref 4,.aR,.aR] (dz 0 (bu t1 aa (bV al f1 bw ba bK bR) fn)) K'=K' .next (l9 (.tup [.int 0,uA t1.rep])) (jC t1 aa (bV al f1 bw ba bK bR) fn):=all2 (by kernel_rfl)
def I3 (t1 aa:c8)(es:List (V×V))(j:Nat)(b2:List V)(K':dK)(aD:List V):Option V→Prop:=fun o=>k3 o fun w=>xj w (.int 0) (jC t1 aa es j++[.list b2]) fun a aq=>rh (.ref 4) (a7 "number") aq fun b=>tk .Eq a b aq fun c=>
 ao c (qd (.tup aD) es fun cT=>K' .next (l9 (.tup aD)) (jC t1 aa cT (j+1)++[.list b2])) (K' .next (l9 (.tup aD)) (jC t1 aa es j++[.list b2]))
theorem Tj:b3 C aP I4 ((l9 v).set 3 (.tup aD)) (jC t1 aa es j++[.list b2]) K'=jJ (.tup aD) es (I3 t1 aa es j b2 K' aD):=by kernel_rfl
theorem Tk {a b:Int}:I3 t1 aa es j b2 K' aD (E (.tup [.int a,.int b,.int c]))=ao (decide (a=1)) (qd (.tup aD) es fun cT=>K' .next (l9 (.tup aD)) (jC t1 aa cT (j+1)++[.list b2])) (K' .next (l9 (.tup aD)) (jC t1 aa es j++[.list b2])):=by kernel_rfl
def yT (C:hT)(t1 aa:c8)(es:List (V×V))(fn:Nat)(b2:List V)(v:V)(K':dK):Prop:=ix 12 (fun v loc H K=>b3 C aP I4 (loc.set 3 v) H K) (hk (.ref 11) b2 (jC t1 aa es fn++[.list b2])) (b2.length+1) 0 b2 (l9 v) (jC t1 aa es fn++[.list b2]) (gh (b3 C aP .nil) K')
theorem Tg:∀al f1:Bool,b3 C aP (fz 1 (cm 2 nJ.body)) (l9 v) (jC t1 aa (bV al f1 bw ba bK bR) fn) K'=
 match al||f1 with
  |true=>yT C t1 aa (bV al f1 bw ba bK bR) fn ((bV al f1 bw ba bK bR).map (·.1)) v K'
  |false=>K' .next (l9 v) (jC t1 aa [] fn++[.ints []]):=all2 (by kernel_rfl)
theorem v3 {r:List (V×V)}{bg:Option V→Prop}(aB:bT 4 k=true)(h:Ev (bg (E v))):Ev (jJ k ((k,v)::r) bg):=cv aB (cv (rP 4 k aB) h)
theorem aa5 {eA lU:V}{r:List (V×V)}{bg:Option V→Prop}(aB:bT 4 k=true)(aL:bn 4 eA k=false)(h:Ev (bg (E v))):Ev (jJ k ((eA,lU)::(k,v)::r) bg):=cv aB (ec aL (cv (rP 4 k aB) h))
theorem zk {r:List (V×V)}{bg:List (V×V)→Prop}(aB:(bT 4 k&&dg ((k,v)::r).length 1000)=true)(h:Ev (bg r)):Ev (qd k ((k,v)::r) bg):=cv aB (cv (rP 4 k (l8 aB).1) h)
structure Hb (b2:List V)(st:Nat→List (V×V)):Prop where
 step:∀i v,b2[i]? =E v→∃aD a b c,v=.tup aD∧(∀bg,Ev (bg (E (val a b c)))→Ev (jJ v (st i) bg))∧(a=1→∀bg,Ev (bg (st (i+1)))→Ev (qd v (st i) bg))∧(a≠1→st (i+1)=st i)
theorem Th {st:Nat→List (V×V)}(ew:Hb b2 st)(k:∀v j,Ev (K' .next (l9 v) (jC t1 aa (st b2.length) j++[.list b2]))):Ev (yT C t1 aa (st 0) fn b2 v K'):=by
 unfold yT;refine C6 (fun i loc H=>∃v j,loc=l9 v∧H=jC t1 aa (st i) j++[.list b2]) (fun r loc H=>False) ?step ?gY ?hu ?fin ?E2 _ 0 _ _ ⟨_,_,rfl,rfl⟩ (jy _) (jx _)
 case step=>
  rintro i v loc H e ⟨cX,j,rfl,rfl⟩ hs lG wF;refine lu (ew.step i v e) fun aD a b c bS=>?_;refine kR bS fun eG b5 hd he=>?_;clear bS;clear e;subst eG;refine aK Tj (b5 _ (aK Tk (dO (fun q=>?_) fun q=>?_)))
  .exact hd (of_decide_eq_true q) _ (lG _ _ ⟨_,_,rfl,rfl⟩)
  .exact lG _ _ ⟨_,_,rfl,by rw[he (of_decide_eq_false q)]⟩
 case gY=>
  rintro i loc H ⟨cX,j,rfl,rfl⟩ P a8;unfold trunc
  split
  .exact a8 _ _ ⟨_,_,rfl,rfl⟩
  .exact a8 _ _ ⟨_,_,rfl,rfl⟩
 case hu=>rintro i loc H ⟨cX,j,rfl,rfl⟩ P a8;exact a8
 case fin=>rintro loc H ⟨cX,j,rfl,rfl⟩;exact aK fh (k _ _)
 case E2=>rintro r loc H ⟨⟩
def CK (al f1:Bool)(bw ba bK bR:List V)(i:Nat):List (V×V):=match al with
 |true=>(match i with
  |0=>bV true f1 bw ba bK bR
  |1=>(.tup ba,val 1 1 1)::bV false f1 bw ba bK bR
  |_=>bV false f1 bw ba bK bR)
 |false=>bV false f1 bw ba bK bR
end
section
variable {a1 a2:ej}
theorem Ti (al f1:Bool):Hb ((bV al f1 (a6 1 du) (a6 2 a1) (a6 1 a2) (a6 2 a3)).map (·.1)) (CK al f1 (a6 1 du) (a6 2 a1) (a6 1 a2) (a6 2 a3)):=by
 have qJ:bn 4 (.tup (a6 1 a2)) (.tup (a6 2 a3))=false:=rfl;have bL:∀bg:Option V→Prop,Ev (bg (E (val 2 0 2)))→Ev (jJ (.tup (a6 1 a2)) (bV false true (a6 1 du) (a6 2 a1) (a6 1 a2) (a6 2 a3)) bg):=fun bg h=>v3 rfl h;have g3:∀bg:Option V→Prop,Ev (bg (E (val 2 1 1)))→Ev (jJ (.tup (a6 2 a3)) (bV false true (a6 1 du) (a6 2 a1) (a6 1 a2) (a6 2 a3)) bg):=fun bg h=>aa5 rfl qJ h;refine⟨fun i v e=>?_⟩;cases al
 .cases f1
  .exact c5 e
  .match i,e with
   |0,e=>obtain rfl:=cE e;exact⟨_,_,_,_,rfl,bL,fun q=>absurd q (by decide),fun _=>rfl⟩
   |1,e=>obtain rfl:=cE e;exact⟨_,_,_,_,rfl,g3,fun q=>absurd q (by decide),fun _=>rfl⟩
 .cases f1
  .match i,e with
   |0,e=>obtain rfl:=cE e;exact⟨_,_,_,_,rfl,fun bg h=>v3 rfl h,fun _ bg h=>zk rfl h,fun q=>absurd rfl q⟩
   |1,e=>obtain rfl:=cE e;exact⟨_,_,_,_,rfl,fun bg h=>v3 rfl h,fun _ bg h=>zk rfl h,fun q=>absurd rfl q⟩
  .match i,e with
   |0,e=>obtain rfl:=cE e;exact⟨_,_,_,_,rfl,fun bg h=>v3 rfl h,fun _ bg h=>zk rfl h,fun q=>absurd rfl q⟩
   |1,e=>obtain rfl:=cE e;exact⟨_,_,_,_,rfl,fun bg h=>v3 rfl h,fun _ bg h=>zk rfl h,fun q=>absurd rfl q⟩
   |2,e=>obtain rfl:=cE e;exact⟨_,_,_,_,rfl,bL,fun q=>absurd q (by decide),fun _=>rfl⟩
   |3,e=>obtain rfl:=cE e;exact⟨_,_,_,_,rfl,g3,fun q=>absurd q (by decide),fun _=>rfl⟩
end
def yJ (b e:Nat):an:=.dict (oG II [.int 4,.int 0,.int 128,.ref (b+2),.ref (b+3),.int 0,.ref (b+8),.ref e,.ref (b+10),.bool true]) 10
def Ag (t:c8):c8:=wN t.r4 t.rep t.kM (Builtin.bitOr t.cK 512) t.state
section
variable {fn:Nat}{t1 aa:c8}{o:an}{a1 a2:ej}
theorem I5:b3 C aP (cm 3 nJ.body) (l9 v) (jC t1 aa es j++[o]) (e1 K)=K .none ((jC (Ag t1) aa es j).set 1 (yJ 0 12)++[o,.ints []]):=by kernel_rfl
theorem TR (al f1:Bool)(k:∀(j:Nat) (o:an),Ev (K .none ((jC (Ag t1) aa (bV false f1 (a6 1 du) (a6 2 a1) (a6 1 a2) (a6 2 a3)) j).set 1 (yJ 0 12)++[o,.ints []]))):
 Ev (cR (bh aT (m+4)) aP nJ [.ref 0,.ref 4] (dz 0 (bu t1 aa (bV al f1 (a6 1 du) (a6 2 a1) (a6 1 a2) (a6 2 a3)) fn)) K):=by
 refine aK (qP (loc:=[.ref 0,.ref 4,.aR,.aR]) rfl (by kernel_rfl)) ?_;refine aK (gk 2 _ _ _ _) (aK (Tf al f1) (aK fh ?_));refine aK (gk 1 _ _ _ _) (aK (Tg al f1) ?_);have go:(al||f1)=true→Ev (yT (bh aT (m+4)) t1 aa (bV al f1 (a6 1 du) (a6 2 a1) (a6 1 a2) (a6 2 a3)) fn ((bV al f1 (a6 1 du) (a6 2 a1) (a6 1 a2) (a6 2 a3)).map (·.1)) (.tup [.int 0,uA t1.rep]) (gh (b3 (bh aT (m+4)) aP (cm 1 (cm 2 nJ.body))) (e1 K))):=fun hf=>by
  have eT:CK al f1 (a6 1 du) (a6 2 a1) (a6 1 a2) (a6 2 a3) 0=bV al f1 (a6 1 du) (a6 2 a1) (a6 1 a2) (a6 2 a3):=by cases al<;>rfl
  have aW:CK al f1 (a6 1 du) (a6 2 a1) (a6 1 a2) (a6 2 a3) ((bV al f1 (a6 1 du) (a6 2 a1) (a6 1 a2) (a6 2 a3)).map (·.1)).length=bV false f1 (a6 1 du) (a6 2 a1) (a6 1 a2) (a6 2 a3):=by cases al<;>cases f1<;>rfl
  have h:=Th (C:=bh aT (m+4)) (t1:=t1) (aa:=aa) (fn:=fn) (v:=.tup [.int 0,uA t1.rep]) (K':=gh (b3 (bh aT (m+4)) aP (cm 1 (cm 2 nJ.body))) (e1 K)) (Ti (du:=du) (a1:=a1) (a2:=a2) (a3:=a3) al f1) fun v j=>by rw[aW];refine aK fh ?_;rw[kT];exact aK I5 (k _ _)
  rw[eT] at h;exact h
 cases al
 .cases f1
  .refine aK fh ?_;rw[kT];exact aK I5 (k _ _)
  .exact go rfl
 .exact go rfl
end
noncomputable def px:List Nat:=[2,3,4,5,6,7,8,9,10,11,12]
def jg (xs:List Int)(su:ff)(t1 aa:c8)(aH:List (V×V))(fn:Nat)(au bq br:Int)(al f1:Bool)(x y:an):List an:=
 ((cG xs su (bu (Ag t1) aa aH fn) au bq br al f1 [x,y,.ints []]).set 5 (.dict [(.int 2,.ref 8)] 3)).set 3 (yJ 2 18)
section
variable {fn:Nat}{xs:List Int}{t1 aa:c8}{x y o:an}{a1 a2:ej}{xo:V}
theorem TE:∀al f1:Bool,reach (cG xs su (bu t1 aa (bV al f1 bw ba bK bR) fn) au bq br dw g1 [x,y]) 300 (kJ [.ref 2,.ref 6]) []=px:=all2 (by kernel_rfl)
theorem TD:∀al f1:Bool,(i4 px&&iL (eV px) [.ref 2,.ref 6]&&px.all (lL (eV px) (cG xs su (bu t1 aa (bV al f1 bw ba bK bR) fn) au bq br dw g1 [x,y])))=true:=all2 (by kernel_rfl)
theorem TC:∀al f1:Bool,(px.map fun l=>jP (iM px) (j5 (cG xs su (bu t1 aa (bV al f1 bw ba bK bR) fn) au bq br dw g1 [x,y]) l))=dz 0 (bu t1 aa (bV al f1 bw ba bK bR) fn):=all2 (by kernel_rfl)
theorem TB:∀al f1:Bool,iq px (cG xs su (bu t1 aa (bV al f1 bw ba bK bR) fn) au bq br dw g1 [x,y]) .none ((jC (Ag t1) aa (bV false f1 bw ba bK bR) gd).set 1 (yJ 0 12)++[o,.ints []]) K=
 K .none (jg xs su t1 aa (bV false f1 bw ba bK bR) gd au bq br dw g1 x y):=all2 (by kernel_rfl)
theorem VB (al f1:Bool)(k:∀j,Ev (K .none (jg xs su t1 aa (bV false f1 (a6 1 du) (a6 2 a1) (a6 1 a2) (a6 2 a3)) j au bq br dw g1 x y))):
 Ev (bh aT (m+5) zI [.ref 2,.ref 6] (cG xs su (bu t1 aa (bV al f1 (a6 1 du) (a6 2 a1) (a6 1 a2) (a6 2 a3)) fn) au bq br dw g1 [x,y]) K):=by
 refine m1 (n:=m+4) (r:=0) (bg:=nJ) (sel:=px) (vs0:=[.ref 0,.ref 4]) (H0:=dz 0 (bu t1 aa (bV al f1 (a6 1 du) (a6 2 a1) (a6 1 a2) (a6 2 a3)) fn)) (by kernel_rfl) rfl (TE al f1) (TD al f1) (by kernel_rfl) (TC al f1) ?_;exact TR al f1 fun j o=>aK (TB al f1) (k j)
end
def le (a b c d e f g:V):List V:=[.ref 0,.ref 1,.ref 2,.ref 15,a,b,c,d,e,f,g]
def KP:aG:=.items (.attr (.loc 2) zG)
section
variable {fn:Nat}{xs:List Int}{t1 aa:c8}{x y:an}{a1 a2:ej}{a b c d e f g:V}{G:List an}
theorem Y2:b3 C aP (fz 1 je.body) [.ref 0,.aR,.aR,.aR,.aR,.aR,.aR,.aR,.aR,.aR,.aR] H K'=C wC [.ref 0] H fun v aq=>K' .next [.ref 0,v,.aR,.aR,.aR,.aR,.aR,.aR,.aR,.aR,.aR] aq:=by kernel_rfl
theorem Y3:b3 C aP (fz 1 (cm 1 je.body)) [.ref 0,.ref 1,.aR,.aR,.aR,.aR,.aR,.aR,.aR,.aR,.aR] H K'=C zL [.ref 1] H fun v aq=>K' .next [.ref 0,.ref 1,v,.aR,.aR,.aR,.aR,.aR,.aR,.aR,.aR] aq:=by kernel_rfl
theorem Y4:b3 C aP (fz 1 (cm 2 je.body)) [.ref 0,.ref 1,.ref 2,.aR,.aR,.aR,.aR,.aR,.aR,.aR,.aR] ([.d5 xs,gx su]++dz 2 cB) K'=K' .next (le .aR .aR .aR .aR .aR .aR .aR) (cG xs su cB 1000 5000 5000 true true []):=by kernel_rfl
theorem Za:b3 C aP (fz 1 (cm 3 je.body)) (le a b c d e f g) H K'=C zK [.ref 1,.ref 2] H fun r aq=>pD r aq fun q=>ao (!q) (K' (.ret (.bool false)) (le a b c d e f g) aq)
 (cF C aP (le a b c d e f g) KP aq fun p be=>C qx [.ref 1,.ref 15] be fun r ei=>lK p r ei fun w=>ao w (K' (.ret (.bool false)) (le a b c d e f g) ei) (K' .next (le a b c d e f g) ei)):=by kernel_rfl
theorem Yr:∀al f1:Bool,cF C aP (le a b c d e f g) KP (cG xs su (bu t1 aa (bV al f1 (a6 1 du) (a6 2 a1) (a6 1 a2) (a6 2 a3)) fn) au bq br dw g1 G) K=
 K (.ref (cG xs su (bu t1 aa (bV al f1 (a6 1 du) (a6 2 a1) (a6 1 a2) (a6 2 a3)) fn) au bq br dw g1 G).length) (cG xs su (bu t1 aa (bV al f1 (a6 1 du) (a6 2 a1) (a6 1 a2) (a6 2 a3)) fn) au bq br dw g1 G++[fp (kf (tT al f1 du a1 a2 a3))]):=all2 (by kernel_rfl)
theorem Zg:b3 C aP (fz 1 (cm 5 je.body)) (le a b c d e f g) (cG xs su cB au bq br dw g1 G) K'=C zI [.ref 2,.ref 6] (cG xs su cB au bq br dw g1 G) fun _ aq=>K' .next (le a b c d e f g) aq:=by kernel_rfl
theorem Zh {aH:List (V×V)}:b3 C aP (fz 1 (cm 6 je.body)) (le a b c d e f g) (jg xs su t1 aa aH fn au bq br dw g1 x y) K'=K' .next (le a b c d e f g) (jg xs su t1 aa aH fn au bq br false g1 x y):=by kernel_rfl
theorem Zi:∀f1:Bool,b3 C aP (cm 7 je.body) (le a b c d e f g) (jg xs su t1 aa (bV false f1 (a6 1 du) (a6 2 a1) (a6 1 a2) (a6 2 a3)) fn au bq br dw g1 x y) (e1 K)=
 C qx [.ref 1,.ref 15] (jg xs su t1 aa (bV false f1 (a6 1 du) (a6 2 a1) (a6 1 a2) (a6 2 a3)) fn au bq br dw g1 x y++[fp (kf (tT false f1 du a1 a2 a3))]) fun r aq=>jw (e7 aq 8 (.ref 19) r) fun w=>ao w
  (cF C aP (le a b c d e f g) (.cmp .Eq (.bi .list (.cons (.attr (.loc 2) (a7 "talks")) .nil)) (.lst (.cons (.int 2) .nil))) aq K) (K (.bool w) aq):=all1 (by kernel_rfl)
theorem Zj {aH:List (V×V)}{p q:an}:cF C aP (le a b c d e f g) (.cmp .Eq (.bi .list (.cons (.attr (.loc 2) (a7 "talks")) .nil)) (.lst (.cons (.int 2) .nil))) (jg xs su t1 aa aH fn au bq br dw g1 x y++[p,q]) K=
 K (.bool true) (jg xs su t1 aa aH fn au bq br dw g1 x y++[p,q,.ints [2],.ints [2]]):=by kernel_rfl
end
section
variable {fn:Nat}{xs:List Int}{t1 aa:c8}{r:Int}{x y o:an}{a1 a2:ej}{Q:Bool→Prop}{aH:List (V×V)}
theorem aaY:lK (.ref 16) (.ref 17) (cG xs su cB au bq br dw g1 [gi true true du a1 a2 a3,gi true true du a1 a2 a3]) Q=jw (e7 (cG xs su cB au bq br dw g1 [gi true true du a1 a2 a3,gi true true du a1 a2 a3]) 8 (.ref 16) (.ref 17)) fun w=>Q (!w):=by kernel_rfl
theorem UT:e7 (cG xs su cB au bq br dw g1 [gi true true du a1 a2 a3,gi true true du a1 a2 a3]) 8 (.ref 16) (.ref 17)=E true:=
 uW (by kernel_rfl) (CW (e7 (cG xs su cB au bq br dw g1 [gi true true du a1 a2 a3,gi true true du a1 a2 a3]) 7) (sm true true du a1 a2 a3) fun v co=>CX _ 6 v (List.all_eq_true.mp (by kernel_rfl:(sm true true du a1 a2 a3).all (bT 6)=true) v co))
theorem Uk (f1:Bool):e7 (jg xs su t1 aa aH fn au bq br false f1 x y++[gi false f1 du a1 a2 a3,gi false f1 du a1 a2 a3]) 8 (.ref 19) (.ref 20)=E true:=by
 cases f1
 .exact(by kernel_rfl:e7 (jg xs su t1 aa aH fn au bq br false false x y++[gi false false du a1 a2 a3,gi false false du a1 a2 a3]) 8 (.ref 19) (.ref 20)=E (decide (([]:List Int)=[])))
 .exact uW (by kernel_rfl) (CW (e7 (jg xs su t1 aa aH fn au bq br false true x y++[gi false true du a1 a2 a3,gi false true du a1 a2 a3]) 7) (sm false true du a1 a2 a3) fun v co=>CX _ 6 v (List.all_eq_true.mp (by kernel_rfl:(sm false true du a1 a2 a3).all (bT 6)=true) v co))
theorem VT:reach (jg xs su t1 aa aH fn au bq br dw g1 x y++[o]) 300 (kJ [.ref 1,.ref 15]) []=[1,15,13,14]:=by kernel_rfl
theorem VR:∀f1:Bool,iq [1,15,13,14] (jg xs su t1 aa aH fn au bq br false f1 x y++[o]) (.ref 5) (rb su au bq br false f1++[ES false f1 du a1 a2 a3,gi false f1 du a1 a2 a3]) K=
 K (.ref 20) (jg xs su t1 aa aH fn au bq br false f1 x y++[o,gi false f1 du a1 a2 a3]):=all1 (by kernel_rfl)
theorem VF (bl:dq (su.tup false false)≠dq (su.tup true false))(R:dq (su.tup false true)≠dq (su.tup true true))(f1:Bool)
 (k:Ev (K (.ref 20) (jg xs su t1 aa aH fn au bq br false f1 x y++[o,gi false f1 (su.tup false false) (su.tup false true) (su.tup true false) (su.tup true true)]))):
 Ev (bh aT (m+3) qx [.ref 1,.ref 15] (jg xs su t1 aa aH fn au bq br false f1 x y++[o]) K):=by
 refine m1 (n:=m+2) (r:=0) (bg:=vh) (sel:=[1,15,13,14]) (vs0:=[.ref 0,.ref 1]) (H0:=rb su au bq br false f1) (by kernel_rfl) rfl VT (by kernel_rfl) (by kernel_rfl) (by kernel_rfl) ?_;refine aK (Ju false f1) ?_;rw[xd bl R];exact aK (VR f1) k
theorem W7 {l:List an}:jg xs su t1 aa aH fn au bq br dw g1 x y++l=.d5 xs::(jg xs su t1 aa aH fn au bq br dw g1 x y++l).tail:=by kernel_rfl
theorem O3:∀al f1:Bool,hR (fun l=>d3 l 18) (gi al f1 du a1 a2 a3)=true:=all2 (by kernel_rfl)
end
theorem agn {A B:Prop}:(pD (.bool true) H fun q=>ao (!q) A B)=B:=rfl
theorem afC (xs:List Int):∃(n b s t y:Bool) (ca:Int) (e:fw),AW xs=bA n b s t (a0 y) ca e∧mP n e:=by refine dm (IA (w:=ib xs/2/2/2/2% 2) (gs (by decide))) fun y ct=>?_;refine⟨_,_,_,_,y,_,_,by unfold AW;rw[ct];rfl,?_⟩;exact Ux (aw:=a0 y) (cause:=ib xs/2/2/2/2/2% 16) _ _ _ true (p0:=jY xs% 65536) (fa:=jY xs/65536% 65536) (p2:=jY xs/65536/65536% 65536) (kb:=jY xs/65536/65536/65536% 65536) (by lia) (by lia) (by lia) (by lia)
theorem Zq {xs:List Int}(ar:xs.length≤900)(k:∀H,Ev (K (.bool true) (.d5 xs::H))):Ev (cR (bh aT (m+12)) aP je [.ref 0] [.d5 xs] K):=by
 obtain⟨n,b,s,t,y,ca,e,X4,cw⟩:=afC xs;have qm:=tup_ne (b:=b) (s:=s) (t:=t) (wy:=a0 y) (ca:=ca) cw false;have qn:=tup_ne (b:=b) (s:=s) (t:=t) (wy:=a0 y) (ca:=ca) cw true;refine aK (qP (loc:=[.ref 0,.aR,.aR,.aR,.aR,.aR,.aR,.aR,.aR,.aR,.aR]) rfl (by kernel_rfl)) ?_;refine aK (gk 1 _ _ _ _) (aK Y2 ?_);refine VH (m:=m+8) ar ?_;rw[X4];refine aK fh (aK (gk 1 _ _ _ _) (aK Y3 ?_));refine aK (UH (m:=m+8) s t) ?_;refine aK fh ?_;rw[kT];refine aK (gk 1 _ _ _ _) (aK Y4 ?_);refine aK fh ?_;rw[kT];refine aK (gk 1 _ _ _ _) (aK Za ?_);refine Vz (m:=m+2) cw ?_;refine aK agn ?_;refine aK (Yr (t1:=gj (bA n b s t (a0 y) ca e) false 5000) (aa:=gj (bA n b s t (a0 y) ca e) true 5000) (fn:=4) true true) ?_;rw[xd qm qn];refine C1 (m:=m+9) (G:=[gi true true ((bA n b s t (a0 y) ca e).tup false false) ((bA n b s t (a0 y) ca e).tup false true) ((bA n b s t (a0 y) ca e).tup true false) ((bA n b s t (a0 y) ca e).tup true true)]) qm qn ?_;refine aK aaY (aK (Fj UT) (ec rfl ?_));refine aK fh ?_;rw[kT];refine aK (gk 1 _ _ _ _) ?_;refine loop (m:=m) cw ar (O3 true true) (O3 true true) (.mk 1000 5000 5000 true true 4 .aR .aR .aR .aR .aR .aR .aR) fun loc H m3=>?_
 induction m3 with|mk au bq br al f1 fn xo v5 v6 v7 v8 v9 v10=>?_
 refine aK fh ?_;rw[kT];refine aK (gk 1 _ _ _ _) (aK Zg ?_);refine VB (m:=m+7) (t1:=gj (bA n b s t (a0 y) ca e) false bq) (aa:=gj (bA n b s t (a0 y) ca e) true br) (fn:=fn) al f1 fun j=>?_;refine aK fh ?_;rw[kT];refine aK (gk 1 _ _ _ _) (aK Zh ?_);refine aK fh ?_;rw[kT];refine aK (Zi f1) ?_;rw[xd qm qn];refine VF (m:=m+9) qm qn f1 ?_;refine aK (Fj (Uk f1)) (cv rfl ?_);exact aK Zj (aK (congrArg (K (.bool true)) W7) (k _))
def gm (P:db):Frag:=(List.range 617).map fun a=>(a,vM P a)
noncomputable def zF:aj→Bool
 |.ref _=>true
 |_=>false
def yI:List String:=["data","doers","expects","fields","flows","homes","hook","is_liberal","is_loose","is_reply","kind","l4","last","link","log","mark","master","meta","most","now","number","objects","off","ops","order","original","packet","place","readers","replies","reply","seed","sets","sides","since","state","status","steps","table","talk","talks","tools","trackers","tries","until","zone"]
def gl:nL:=⟨fun x=>oa.any fun r=>zF r.2.2&&x== .ofString r.1,fun x=>yI.any fun r=>x== .ofString r⟩
def Wo:List (Nat×aj):=oa.filterMap fun r=>match zF r.2.2 with|true=>E (a7 (.ofString r.1),r.2.2)|false=>none
def kW:Nat→Option aj:=qB Wo
def gE (w:eJ)(s:aQ):gD:=⟨s.heap,s.heap.nsMap mainGlobals,s.heap.nsMap builtinsNs,aP,gm w.params⟩
theorem D3 (df:ig s=ie w):(gm w.params).In s.heap:=by have R:(List.range 617).map s.heap.get?=(List.range 617).map fun a=>E (vM w.params a):=congrArg oM df;refine Frag.in_of (as:=List.range 617) (by unfold gm;rw[List.map_map];exact(List.map_id _).symm) ?_;rw[R];unfold gm;rw[List.map_map];rfl
theorem mg_of (df:ig s=ie w):∀r∈oa,s.heap.nsMap mainGlobals (.ofString r.1)=E r.2.2:=oc (congrArg (fun x=>x.2.1) df)
theorem MJ (df:ig s=ie w):∀r∈p6,s.heap.nsMap mainGlobals r.1=none:=oc (congrArg (fun x=>x.2.2.1) df)
theorem MI (df:ig s=ie w):∀r∈p6,s.heap.nsMap builtinsNs r.1=E r.2:=oc (congrArg (fun x=>x.2.2.2.1) df)
theorem agf (df:ig s=ie w):s.toks=1175∧s.heap.objs.size=617:=⟨congrArg (fun x=>x.2.2.2.2.1) df,congrArg (fun x=>x.2.2.2.2.2) df⟩
theorem vO (df:ig s=ie w){o:Obj}(e:(gm w.params).lookup a=E o):s.heap.get? a=E o:=D3 df a o e
theorem Ms {a4:Type}{x:a4}{b2:List (Nat×a4)}:qB b2 n=E x→(n,x)∈b2:=by
 induction b2 with
 |nil=>exact fun h=>c5 h
 |cons y r aF=>
  intro h;unfold qB at h;cases e:c1 y.1 n with
  |true=>rw[e] at h;rw[←cE h,←fO e];exact List.mem_cons_self
  |false=>rw[e] at h;exact List.mem_cons_of_mem _ (aF h)
def tr (o:Option Obj):Array aj:=match o.map Obj.data with
 |some (.fields a)=>a
 |_=>#[]
def Pl (o:Option aj):Nat:=match o with
 |some (.str _ t)=>t
 |_=>0
theorem S7 {K:Frag}{c:bj}{q:PySem.Str}{vs:Array aj}{t:Nat}(k:K.In h)(e:K.lookup c=E {cls:=.type "code",data:=.fields vs})(aJ:vs[1]? =E (.str q t)):h.CodeRec (.ref c) q:=
 ⟨c,_,vs,t,rfl,k c _ e,rfl,aJ⟩
theorem MK (df:ig s=ie w)(i:Nat){r:String×Nat×aj}(h:oa[i]? =E r):s.heap.nsMap mainGlobals (.ofString r.1)=E r.2.2:=mg_of df r (List.mem_of_getElem? h)
theorem Wp:(oa.map fun r=>cond (zF r.2.2) (kW (a7 (.ofString r.1))) none)=oa.map fun r=>cond (zF r.2.2) (E r.2.2) none:=by kernel_rfl
theorem S5 (P:db):([131,242,264,478].map fun C=>((plainGet (gm P) C "",hasDictIn (gm P) C,plainOver (gm P) C,findIn (gm P) (.ref C) "__setattr__"),yI.map fun(x:String)=>(fY x,(findIn (gm P) (.ref C) x).map (noGet (gm P)),takerIn (gm P) C x)))=
 [131,242,264,478].map fun C=>((true,true,true,E (E (.builtin "object.__setattr__"))),yI.map fun(x:String)=>(true,E true,E none)):=by kernel_rfl
theorem Iy (P:db){x:String}(aS:x∈yI){c:bj}(h:o1 c=true):fY x=true∧vd (gm P) c x:=by have g:=oc (S5 P) c (List.contains_iff_mem.mp h);have f:=congrArg oM g;have k:=oc (Bw g).2 x aS;have l:=congrArg uZ k;exact⟨congrArg oM k,congrArg oM f,congrArg (fun y=>y.2.1) f,congrArg (fun y=>y.2.2.1) f,congrArg (fun y=>y.2.2.2) f,GL.mp (congrArg oM l),congrArg uZ l⟩
noncomputable def gt:List (String×Nat×Nat×Nat×Int):=[("DYING",34,504,503,512),("ASSURED",54,776,775,4),("CONFIRMED",55,778,777,8),("ESTABLISHED",56,780,779,3),("FIN_RST",57,782,781,5),("FIN_RST_SYN",58,784,783,7)]
theorem WH:(gt.map fun g=>(fY g.1,oa[g.2.1]?))=gt.map fun g=>(true,E (g.1,g.2.2.1,ab g.2.2.2.2 g.2.2.2.1)):=by kernel_rfl
theorem Wy:aP=qB (gt.map fun g=>(a7 g.1,V.int g.2.2.2.2)):=by kernel_rfl
theorem abB (df:ig s=ie w)(b5:s.heap.Ns mainGlobals (s.heap.nsMap mainGlobals))(az:s.heap.Ns builtinsNs (s.heap.nsMap builtinsNs))(ar:s.heap.NoLimit)(aE:sysModules<s.heap.objs.size):(gE w s).Ok:=by refine⟨b5,az,ar,⟨vM w.params sysModules,vO df (by kernel_rfl)⟩,D3 df,fun x v aS h=>?_⟩;change aP _=_ at h;rw[Wy] at h;refine dm (List.mem_map.mp (Ms h)) fun g bS=>b7 bS fun hm e=>?_;have k:=oc WH g hm;rw[show v=_ from(congrArg uZ e).symm,E6 aS (congrArg oM k) (congrArg oM e).symm];exact⟨_,.inl (MK df _ (congrArg uZ k)),fun _ _=>.int _ _⟩
theorem Wr (df:ig s=ie w)(ok:(gE w s).Ok)(cs:l3 d8 w (gE w s) C n kW):∀A:fu,A.handled=none→A.units+20+10*n<cLine→A.depth+60+2*n<recursionLimit→kP d8 w (gE w s) C A gl kW n:=fun A bC bx hd=>by
 refine⟨ok,bC,bx,hd,cs,fun x aS=>?_,fun x b az=>?_,?_,fun x aS=>?_⟩
 .refine dm (List.any_eq_true.mp aS) fun r bS=>b7 bS fun am h=>b4 h fun R Z=>?_;rw[beq_iff_eq.mp Z];refine⟨_,mg_of df r am,?_⟩;have:=oc Wp r am;rw[R] at this;exact this
 .have hm:(x,tf b)∈p6:=List.mem_append_left _ (List.mem_map.mpr ⟨(x,b),PySem.mem_of_lookup az,rfl⟩);exact⟨MJ df _ hm,MI df _ hm⟩
 .have hm:(("range":PySem.Str),cC "range")∈p6:=List.mem_append_right _ List.mem_cons_self;exact⟨MJ df _ hm,MI df _ hm⟩
 .refine dm (List.any_eq_true.mp aS) fun r bS=>b7 bS fun am h=>?_;rw[beq_iff_eq.mp h];exact⟨(Iy w.params am (c:=131) rfl).1,fun c aI=>(Iy w.params am aI).2⟩
structure e4 where
 k:Nat
 a:Nat
 d:pP
 nm:String
 q:String
 nX:aj
 gs:aj
 F:cP
 cls:Bool
 bD:Option (Nat×Spec)
variable {b2:List e4}
noncomputable def e4.na (r:e4):Nat:=r.F.na
def e4.fd (r:e4):pK:=fdOf r.d r.nm r.q r.nX r.gs (ak (r.a-1))
def e4.row (r:e4):Nat×Row:=(r.k,cond r.cls (ww r.F) (r.bD.elim (inl r.F) fun x=>⟨x.1,false,fun _=>x.2⟩))
def qG:Nat→(Nat→aj)→List aj
 |0,_=>[]
 |n+1,f=>f 0::qG n fun i=>f (i+1)
theorem aaq:∃f,ys=qG ys.length f:=by
 induction ys with
 |nil=>exact⟨fun _=>.none,rfl⟩
 |cons y ys aF=>exact aF.elim fun f e=>⟨fun i=>match i with|0=>y|i+1=>f i,congrArg (y:: ·) e⟩
structure HS (P:db)(r:e4):Prop where
 ax:(gm P).lookup r.a=E (f3 r.d r.nm r.q r.nX r.gs (ak (r.a-1)))
 aI:(gm P).lookup (r.a-1)=E {cls:=.type "code",data:=.fields (tr ((gm P).lookup (r.a-1)))}
 a9:(tr ((gm P).lookup (r.a-1)))[1]? =E (.str (.ofString r.q) (Pl (tr ((gm P).lookup (r.a-1)))[1]?))
 cW:A6 gl r.fd r.na r.F.defs=E r.F
 hf:kW r.k=E (.ref (cond r.cls (r.a+3) r.a))
theorem y6 {r:e4}(df:ig s=ie w)(ok:(gE w s).Ok)(cs:l3 d8 w (gE w s) C n kW)(f:HS w.params r){zs:List aj}(hz:∀ρ h,bJ ρ h r.F.defs zs)
 (az:∀(s':aQ) f,(∀b o,s.heap.get? b=E o→s'.heap.get? b=E o)→BindsTo s' r.fd ⟨qG r.na f,[]⟩ ((oq r.fd).zip (qG r.na f++zs))):FnAt d8 w (gE w s) C n r.a r.F:=
 Wa (Wr df ok cs) (vO df f.ax) rfl (S7 (D3 df) f.aI f.a9) rfl rfl f.cW fun s' ys k ar=>⟨zs,hz,(aaq (ys:=ys)).elim fun g e=>by rw[e,ar];exact az s' g k⟩
def e4.l (P:db)(f:Nat→aj)(r:e4):=(((gm P).lookup r.a,((gm P).lookup (r.a-1),(tr ((gm P).lookup (r.a-1)))[1]?),A6 gl r.fd r.na r.F.defs,kW r.k),bindArgs r.fd ⟨qG r.na f,[]⟩)
def e4.r (P:db)(f:Nat→aj)(r:e4):(Option Obj×(Option Obj×Option aj)×Option cP×Option aj)×Sem (List (PySem.Str×aj)):=((E (f3 r.d r.nm r.q r.nX r.gs (ak (r.a-1))),(E {cls:=.type "code",data:=.fields (tr ((gm P).lookup (r.a-1)))},E (.str (.ofString r.q) (Pl (tr ((gm P).lookup (r.a-1)))[1]?))),E r.F,E (.ref (cond r.cls (r.a+3) r.a))),pure ((oq r.fd).zip (qG r.na f)))
def pR (b2:List e4):Prop:=∀P f,b2.map (e4.l P f)=b2.map (e4.r P f)
theorem VV (h:pR b2)(P:db):∀r∈b2,HS P r∧∀f,bindArgs r.fd ⟨qG r.na f,[]⟩=pure ((oq r.fd).zip (qG r.na f)):=fun r am=>
 have k f:=oc (h P f) r am;have g:=congrArg oM (k fun _=>.none)
 ⟨⟨congrArg oM g,congrArg (fun x=>x.2.1.1) g,congrArg (fun x=>x.2.1.2) g,congrArg (fun x=>x.2.2.1) g,congrArg (fun x=>x.2.2.2) g⟩,fun f=>congrArg uZ (k f)⟩
def c4 (a i:Nat)(nm:String)(gs:aj)(k:Nat)(bg:cP)(bD:Option (Nat×Spec)):e4:=⟨k,a,ha i,nm,nm,.none,gs,bg,false,bD⟩
def A1:List e4:=[c4 53 4 "number_of" rE LF HE (E (0,AP)),c4 58 5 "octets_of" rE LG BU (E (0,FA)),c4 65 6 "folded" rE Ld BQ (E (0,Fo)),c4 72 7 "mend" rE LB BS (E (1,Fy)),c4 79 9 "look4" wj Lx HA none,c4 86 11 "head_size" ql Lf Hn none,c4 93 12 "size_at" ql LV HM none,c4 100 13 "place_at" ql LK HG none,c4 107 14 "look6" ql Ly HB none,c4 114 16 "new_meta" gp LD HD none,⟨KZ,128,mX 17 0,"__init__","Packet.__init__",.none,gp,Hc,true,none⟩,c4 142 18 "look" gp Lw Hz none]
theorem af0:pR A1:=fun P f=>by kernel_rfl
def A2:List e4:=[c4 157 20 "family_of" gp La Hl none,c4 164 21 "base_of" gp K4 Hh none,c4 171 22 "part" gp LJ HF none,c4 178 23 "put_part" gp LO HJ none,c4 185 24 "sum_place" gp LW HN none,c4 192 25 "common" gp K6 Hj none,c4 197 26 "sums_met" gp LX HO none,c4 204 27 "pairs_of" gp LI yj (E (0,AQ)),c4 211 28 "mend_at" gp LC sT (E (2,Fz)),c4 218 29 "set_octets" gp LS BV (E (4,FG)),c4 225 31 "error_kinds" Kk K9 Hk none,⟨K1,239,mX 34 0,"__init__","Talk.__init__",.none,h3,He,true,none⟩]
theorem af1:pR A2:=fun P f=>by kernel_rfl
def FU:List e4:=[c4 275 36 "is_icmp" h3 Lk Hq none,c4 282 37 "is_error" h3 Li Hp none,c4 289 38 "answer_kind" h3 K3 Hg none,c4 296 39 "ports_at" h3 LM HI none,c4 303 40 "tuple_at" h3 L1 HR none,c4 310 41 "tuple_of" h3 L2 BW (E (4,FI)),c4 317 42 "invert" h3 Lh yc (E (1,Fq)),c4 324 43 "side_of" h3 LU HL none,c4 329 44 "drop_talk" h3 zI nJ none,c4 336 46 "is_error_packet" Kl Lj BR (E (3,Fs)),c4 343 48 "put_there" kE LP vi (E (5,FE)),c4 350 49 "port_place" kE LL HH none]
theorem af2:pR FU:=fun P f=>by kernel_rfl
def FV:List e4:=[c4 357 50 "rewrite" kE LQ mQ (E (6,FF)),c4 364 51 "bit_for" kE K5 Hi none,c4 371 52 "inner_rewritten" kE Lg Ho none,c4 378 53 "rewrite_inner" kE LR HK none,c4 385 54 "translate" kE LY HP none,c4 392 61 "ttl_place" il L0 HQ none,c4 399 62 "ttl_of" il LZ yk (E (2,FH)),c4 406 63 "drop_ttl" il K7 BO (E (5,Fl)),c4 413 64 "flags_of" il Lb BP (E (2,Fn)),c4 420 65 "may_flow" il Lz HC none,c4 427 66 "has_flow" il Le vf (E (0,Fp)),c4 434 67 "flow_request" il Lc Hm none]
theorem af3:pR FV:=fun P f=>by kernel_rfl
def FW:List e4:=[c4 439 68 "end_flow" il K8 yb (E (0,Fm)),c4 446 69 "is_plain" il Ll yd (E (3,Ft)),c4 453 70 "may_pass" il LA sS (E (4,Fx)),c4 460 71 "try_fast" il DX mR (E (8,xe)),c4 489 75 "_law_draw" e8 Ln ye (E (0,Fu)),c4 496 76 "_law_digits" e8 Lm Hs none,c4 501 77 "_law_split" e8 Lq Hw none,c4 508 78 "_law_words" e8 Lv Hy none,c4 515 79 "_law_host" e8 Lo Ht none,c4 520 80 "_law_setup" e8 wC Hv none,c4 527 81 "_law_tuple" e8 Ls Hx none,c4 534 82 "_law_transport" e8 Lr yh (E (3,Fv))]
theorem af4:pR FW:=fun P f=>by kernel_rfl
def FX:List e4:=[c4 541 83 "_law_whole" e8 Lu yi (E (3,Fw)),c4 548 84 "_law_event" e8 zN vg none,c4 555 85 "_law_moved" e8 Lp Hu none,c4 562 86 "_law_packets" e8 zP yg none,c4 569 87 "_law_due" e8 zM yf none,c4 576 88 "_law_flows" e8 qx vh none,c4 583 89 "_law_book" e8 zL Hr none,c4 590 90 "_law_ask" e8 mm kO none,c4 597 91 "_law_are_asked" e8 zK jf none,c4 604 92 "_law_fast" e8 zO nK none,c4 611 93 "_law_slow" e8 zQ pQ none,c4 616 94 "law" e8 zJ je none]
theorem af5:pR FX:=fun P f=>by kernel_rfl
def vH:e4:=⟨LH,150,ha 19,"packet_of","packet_of",ak 143,gp,oQ,false,E (5,FD)⟩
def vG:e4:=⟨K2,261,mX 35 0,"__init__","TalkBook.__init__",ak 254,h3,Hf,true,none⟩
def vF:e4:=⟨K0,475,mX 73 0,"__init__","Scene.__init__",ak 468,Kj,Hd,true,none⟩
theorem agx (P:db):(gm P).lookup 143=E (cr [ab 2048 377,G6 #[] 378]):=by kernel_rfl
theorem VS (df:ig s=ie w)(ok:(gE w s).Ok)(cs:l3 d8 w (gE w s) C n kW):FnAt d8 w (gE w s) C n vH.a vH.F:=
 y6 df ok cs (r:=vH) ⟨by kernel_rfl,by kernel_rfl,by kernel_rfl,by kernel_rfl,by kernel_rfl⟩ (zs:=[G6 #[] 378]) (fun _ _=>.cons (.bytes #[] _ (jy _)) .nil) fun s' f k=>G3 rfl (k _ _ (vO df (agx _))) rfl rfl (by kernel_rfl)
theorem agw (P:db):(gm P).lookup 254=E (cr [ab 64 559,ab 0 560,ab 128 561]):=by kernel_rfl
theorem VQ (df:ig s=ie w)(ok:(gE w s).Ok)(cs:l3 d8 w (gE w s) C n kW):FnAt d8 w (gE w s) C n vG.a vG.F:=
 y6 df ok cs (r:=vG) ⟨by kernel_rfl,by kernel_rfl,by kernel_rfl,by kernel_rfl,by kernel_rfl⟩ (zs:=[ab 0 560,ab 128 561]) (fun _ _=>.cons (.int _ _) (.cons (.int _ _) .nil)) fun s' f k=>G3 rfl (k _ _ (vO df (agw _))) rfl rfl (by kernel_rfl)
theorem agv (P:db):(gm P).lookup 468=E (cr [ab 0 905,bb "input" 906]):=by kernel_rfl
theorem VP (df:ig s=ie w)(ok:(gE w s).Ok)(cs:l3 d8 w (gE w s) C n kW):FnAt d8 w (gE w s) C n vF.a vF.F:=
 y6 df ok cs (r:=vF) ⟨by kernel_rfl,by kernel_rfl,by kernel_rfl,by kernel_rfl,by kernel_rfl⟩ (zs:=[bb "input" 906]) (fun _ _=>.cons (.str (.ofString "input") _ (by decide+kernel)) .nil) fun s' f k=>G3 rfl (k _ _ (vO df (agv _))) rfl rfl (by kernel_rfl)
def yp (w:eJ)(s:aQ)(n:Nat)(e:Nat×Row):Prop:=∀f,kW e.1=E f→e.2.rank≤n→∃bg,fD (bh aT n) aP (e.2.bD (bh aT n)) bg∧(e.2.cls=false→∃a,f=.ref a∧FnAt d8 w (gE w s) (bh aT n) n a bg)∧
 (e.2.cls=true→∃Cl ky,f=.ref Cl∧ClsAt (gE w s) Cl ky∧FnAt d8 w (gE w s) (bh aT n) n ky bg)
def e4.rw (r:e4):Prop:=match r.bD with
 |some (k,bD)=>∀m,fD (bh aT (m+k)) aP bD r.F
 |none=>True
def e4.cl (P:db)(r:e4):Prop:=cond r.cls (makesIn (gm P) (r.a+3)=true∧findIn (gm P) (.ref (r.a+3)) "__init__"=E (E (.ref r.a))∧typeIn (gm P) (.ref r.a)=E (.type "function")∧o1 (r.a+3)=true) True
theorem Au {r:e4}(hf:kW r.k=E (.ref (cond r.cls (r.a+3) r.a)))(ah:FnAt d8 w (gE w s) (bh aT n) n r.a r.F)(am:r.rw)(aI:r.cl w.params):yp w s n r.row:=by
 obtain⟨k,a,d,nm,q,nX,gs,bg,cls,bD⟩:=r;refine fun f e aL=>⟨bg,?_⟩;obtain rfl:=fc (e.symm.trans hf)
 induction cls using eo with
 |true=>exact⟨fun _ _ _ _ _ x=>.inl x,fun q=>kn q,fun _=>⟨_,_,rfl,⟨aI.1,aI.2.1,aI.2.2.1,aI.2.2.2⟩,ah⟩⟩
 |false=>
  induction bD using ez with
  |none=>exact⟨fun _ _ _ _ _ x=>.inl x,fun _=>⟨_,rfl,ah⟩,fun q=>dW q⟩
  |some x=>have h:=am (n-x.1);rw[Nat.sub_add_cancel (show x.1≤n from aL)] at h;exact⟨h,fun _=>⟨_,rfl,ah⟩,fun q=>dW q⟩
theorem oW {p:e4→Prop}:∀r∈[],p r:=fun r h=>nomatch h
theorem dT {p:e4→Prop}{r:e4}(h:p r)(t:∀x∈b2,p x):∀x∈r::b2,p x:=List.forall_mem_cons.mpr ⟨h,t⟩
theorem eu {a i k:Nat}{nm:String}{gs:aj}(t:∀x∈b2,x.rw):∀x∈c4 a i nm gs k bg none::b2,x.rw:=dT (p:=e4.rw) trivial t
theorem Rl:∀r∈A1,r.rw:=dT (fun _=>ac2)<|dT (fun _=>ac3)<|dT (fun _=>acR)<|dT ac0<|eu<|eu<|eu<|eu<|eu<|eu<|dT trivial<|eu<|oW
theorem SY (P:db):∀r∈A1,r.cl P:=dT trivial<|dT trivial<|dT trivial<|dT trivial<|dT trivial<|dT trivial<|dT trivial<|dT trivial<|dT trivial<|dT trivial<|dT ⟨by kernel_rfl,by kernel_rfl,by kernel_rfl,rfl⟩<|dT trivial<|oW
theorem Rm:∀r∈A2,r.rw:=eu<|eu<|eu<|eu<|eu<|eu<|eu<|dT (fun _=>ac5)<|dT ac1<|dT ac8<|eu<|dT trivial<|oW
theorem S0 (P:db):∀r∈A2,r.cl P:=dT trivial<|dT trivial<|dT trivial<|dT trivial<|dT trivial<|dT trivial<|dT trivial<|dT trivial<|dT trivial<|dT trivial<|dT trivial<|dT ⟨by kernel_rfl,by kernel_rfl,by kernel_rfl,rfl⟩<|oW
theorem Rn:∀r∈FU,r.rw:=eu<|eu<|eu<|eu<|eu<|dT adb<|dT acT<|eu<|eu<|dT acU<|dT ac6<|eu<|oW
theorem Ro:∀r∈FV,r.rw:=dT ac7<|eu<|eu<|eu<|eu<|eu<|dT ada<|dT acO<|dT acQ<|eu<|dT (fun _=>acS)<|eu<|oW
theorem Rp:∀r∈FW,r.rw:=dT (fun _=>acP)<|dT acV<|dT acZ<|dT ac9<|dT acW<|eu<|eu<|eu<|eu<|eu<|eu<|dT acX<|oW
theorem Rq:∀r∈FX,r.rw:=dT acY<|eu<|eu<|eu<|eu<|eu<|eu<|eu<|eu<|eu<|eu<|eu<|oW
theorem yP (h:(b2.map e4.cls).all (!·)=true):∀r∈b2,r.cl P:=fun r am=>by have:=List.all_eq_true.mp h r.cls (List.mem_map_of_mem am);unfold e4.cl;rw[km] at this;rw[this];exact trivial
theorem ue (df:ig s=ie w)(ok:(gE w s).Ok)(cs:l3 d8 w (gE w s) (bh aT n) n kW)(h:pR b2)(hd:b2.map (fun r=>r.F.defs)=b2.map fun _=>[])(R:∀r∈b2,r.rw)(Z:∀r∈b2,r.cl w.params):∀r∈b2,yp w s n r.row:=fun r am=>
 (VV h _ r am).elim fun f az=>Au f.hf (y6 df ok cs f (zs:=[]) (fun _ _=>by rw[oc hd r am];exact .nil) fun s' g _=>.of_eq (by rw[List.append_nil];exact az g)) (R r am) (Z r am)
theorem afW:aT=qB ((A1++(A2++(FU++(FV++(FW++(FX++[vH,vG,vF])))))).map e4.row):=by kernel_rfl
theorem ab8 (df:ig s=ie w)(ok:(gE w s).Ok)(cs:l3 d8 w (gE w s) (bh aT n) n kW):∀k r,aT k=E r→yp w s n (k,r):=fun k r e=>by
 rw[afW] at e;refine dm (List.mem_map.mp (Ms e)) fun x bS=>b7 bS fun aS e=>?_;rw[←e];refine(?_:∀r∈_,yp w s n r.row) x aS;refine List.forall_mem_append.mpr ⟨ue df ok cs af0 (by kernel_rfl) Rl (SY _),?_⟩;refine List.forall_mem_append.mpr ⟨ue df ok cs af1 (by kernel_rfl) Rm (S0 _),?_⟩;refine List.forall_mem_append.mpr ⟨ue df ok cs af2 (by kernel_rfl) Rn (yP (by kernel_rfl)),?_⟩;refine List.forall_mem_append.mpr ⟨ue df ok cs af3 (by kernel_rfl) Ro (yP (by kernel_rfl)),?_⟩;refine List.forall_mem_append.mpr ⟨ue df ok cs af4 (by kernel_rfl) Rp (yP (by kernel_rfl)),?_⟩;refine List.forall_mem_append.mpr ⟨ue df ok cs af5 (by kernel_rfl) Rq (yP (by kernel_rfl)),?_⟩;exact dT (Au (r:=vH) (by kernel_rfl) (VS df ok cs) ac4 trivial)<|dT (Au (r:=vG) (by kernel_rfl) (VQ df ok cs) trivial ⟨by kernel_rfl,by kernel_rfl,by kernel_rfl,rfl⟩)<|dT (Au (r:=vF) (by kernel_rfl) (VP df ok cs) trivial ⟨by kernel_rfl,by kernel_rfl,by kernel_rfl,rfl⟩)<|oW
theorem Um {t:Sem PySem.Fin}{bZ:Result→aQ→Prop}(XV:s.asleep)(h:aO O w callerA t (fun fin s'=>∃f,fin=.done f∧(bZ (.ok f) s'∧leftWithCleanup s'.gens=false)) s):
 ∃n r s' pw,runN (denote table) O w n s ⟨t,.builtin "claim.caller" {},default,[]⟩=.halted (outcomeOf r) s'∧
  schedN (denote table) O w n (.single s ⟨t,.builtin "claim.caller" {},default,[]⟩)=.halted (outcomeOf r) s'∧s'.forget=pw.forget∧bZ r pw:=by
 have aS:oS ⟨.builtin "claim.caller" {},none,none,[],none⟩:=⟨by decide+kernel,fun x aS=>nomatch aS⟩;refine lu (wp_halts_full (M:=model O w) (R:=bZ) (p:=default) XV (vb (model O w) _ t (fun fin oh s' ⟨f,e,hf⟩=>by subst e;exact hf) (fun _ _ _ e=>e.elim) default s (h _ default caller_in aS))) fun n r bB eh bS=>?_;refine kR bS fun aE aL Dy ak=>?_;clear bS;exact⟨n,r,eh,bB,aL,aE,Dy,ak⟩
theorem SP {c:ClaimW}{tree:List aj→Sem PySem.Fin}{free:bj→Prop}{gens:Prop}{zR:fP→Prop}(hz:s.asleep)(tB:s.gens=#[])
 (X3:∀args,c.pre args=true→WData.layableAll args=true→∀ord:List c3→List c3,(∀l,(ord l).Perm l)→
  ∃vs bB,layAllW c.records (classAt s.heap) w.params ord args s=E (vs,bB)∧
   aO c.prog w callerA (tree vs) (fun fin s'=>∃f,fin=.done f∧(c.Ends s args vs bB (.ok f) s'∧s'.os=s.os∧AllBare s'.gens∧zR s'.heap)) bB):
 c.CallFrom (fun vs=>⟨tree vs,.builtin "claim.caller" {},default,[]⟩) w free gens zR s:=by
 intro args tD wh ord zr;refine yA fun aA gH=>mH (X3 args tD wh ord zr) fun vs bB qk W3=>?_;have vW:=layAllW_rest _ _ _ qk;refine lu (Um (O:=c.prog) (w:=w) (t:=tree vs) (s:=bB) (bZ:=fun r s'=>c.Ends s args vs bB r s'∧s'.os=s.os∧zR s'.heap)
  (Shared.asleep_of_life vW.2.2.2 hz) (dF W3 fun fin s' ⟨f,e,R,Z,bv,cZ⟩=>⟨f,e,⟨R,Z,cZ⟩,leftWithCleanup_false_of_bare bv⟩)) fun k r s' pw bS=>?_
 refine yz bS fun XY X1 Dy Do Ko mg=>?_;clear bS;refine yy (Shared.forget_eq Dy) fun yZ cg b8 dv eG=>?_;clear cg b8 eG;have Do:=Do.congr yZ;have mg:zR s'.heap:=by first|exact yZ▸mg|(rw[yZ] at mg;exact mg)|(rw[←yZ] at mg;exact mg)
 rw[←dv] at Ko;have Xz:s'.heap.life=s.heap.life:=(runN_life _ _ _ XY).trans vW.2.2.2;refine gH<|⟨vs,bB,qk,k,_,s',X1,?_,(fun _ i x aS=>by rw[tB] at aS;simp at aS),mg,by rw[Xz],Shared.rest_eq Ko⟩
 rcases Do with⟨v,rfl,dN,ku,iV,CI,CJ⟩|⟨e,ob,cls,rfl,dN,ku,iV,CI,CJ⟩
 .exact .inl ⟨v,rfl,dN,ku,iV,fun b o y _=>CI b o y,CJ⟩
 .exact .inr ⟨e,ob,cls,rfl,dN,ku,iV,CI,fun b o y _=>CJ b o y⟩
theorem abJ {r:OpenRow}{q:hS}{loose:List Str}{Q6:aQ→Bool}{a4:Type}{ig:aQ→a4}{ie:eJ→a4}{d:DefRec}{Mg:List (Str×aY)}
 (left:LeftO r.prog q loose Q6 ig ie kr)(Xa:defOf q r.name=E (d,Mg))(a8:r.prog.theDef r.name=E (d.params,d.body,d.scope))(aB:kwWritten? d.params.kwonlyargs d.params.kw_defaults=E Mg)(WM:r.records=[])(X7:(!r.writes||r.records.isEmpty)=true)
 (ba:r.wellSaid=true)(ok:(chainsOk q&&opensWell r.prog&&(frees r.toRowW&&r.within.isEmpty))=true)(az:r.prog.bare)(c0:r.toRowW.promised)
 (call:∀(w:eJ) (la bB:aQ) (j8 pf:Str→Option aj),ig la=ie w→(∀b o,la.heap.get? b=E o→bB.heap.get? b=E o)→j8=la.heap.nsMap mainGlobals→pf=la.heap.nsMap builtinsNs→Ground q loose r.records (fun _ _=>True) w la j8 pf la.heap→∀(args:List WData) (vs:List aj) (as:List bj),
  r.claim.pre args=true→WData.layableAll args=true→Laid r.records w la bB args vs as→sysModules<la.heap.objs.size→∃f,j8 r.name=E f∧
   aO r.prog w callerA (PySem.call f vs) (fun v s'=>GoodWG r.claim (classAt la.heap) (ExcName.means la.heap) args bB (.ok (.ret v)) s') bB):r.Holds:=by
 refine b4 ok fun ok rM=>b4 ok fun Ka eY=>b4 rM fun rM DV=>yy (frees_parts rM) fun X0 bx aC WR hm=>?_;refine⟨ba,c0,⟨⟨az,eY,by show r.toRowW.makers.map _=[];rw[hm];rfl⟩,c0.witness,fun w=>⟨(left.behind (XP:=fun _ _=>True) (fun _ _=>trivial) Ka w).1,fun s' gq=>?_⟩⟩⟩;obtain⟨la,hf,rC,s,cr,hz,tB,b5,HT,y⟩:=(left.behind (XP:=fun _ _=>True) (fun _ _=>trivial) Ka w).2 s' gq;have Cd:RecFacts r.records s.heap:=recFacts_nil WM;have WP:=cr;refine⟨la,hf,rC,s,cr,fun n aL=>?_,Cd.1,Cd.2.1,?_⟩
 .obtain rfl:n=r.name:=by split at aL<;>simp_all
  exact pinned_of_view b5 HT Xa a8 aB
 have tB:s.gens=#[]:=Array.eq_empty_of_size_eq_zero (beq_iff_eq.mp tB);have G:Ground q loose r.records (fun _ _=>True) w s _ _ s.heap:=Cd.ground HT;refine SP (c:=r.toRowW.claim) (tree:=fun vs=>do match←nsGet mainNs r.name with
  |some f=>do ret (←PySem.call f vs)
  |none=>unsupported "claim.caller:no-such-global") hz tB fun args tD wh ord zr=>?_
 refine yA fun aA gH=>dm (sK.mp (layAllW_isSome (P:=w.params) (ord:=ord) G.has args r.args s (pre_splitW tD).1)) fun c6 qk=>?_;obtain⟨vs,bB⟩:=c6;have keeps:=layAllW_keeps _ _ _ qk;have vW:=layAllW_rest _ _ _ qk;refine gy (reads_layAllW zr _ _ _ qk wh bB.heap (fun _ _ e=>e)) fun as XU Xu XI=>?_;have b2:Laid r.records w s bB args vs as:=⟨⟨ord,zr,qk⟩,XU,Xu,XI,keeps,vW.1.trans tB,vW.2.2.1⟩;have QH:=G.keeps (fun _ _ _ _ _=>trivial) keeps;refine dn (call w s bB _ _ y keeps rfl rfl G args vs as tD wh b2 G.low) fun f hf h=>?_;have hi:=ident_freeW bx aC WR;have X6:r.toRowW.claim.within=[]:=List.isEmpty_iff.mp DV;refine gH<|⟨vs,bB,qk,dH (wpAny_nsGet QH.T.g (by rw[hf];exact b0 (dF h fun v s' g=>cM ⟨_,rfl,have z:=g.laid (c:=r.toRowW.claim) X0 X6 hi b2;⟨z.1,z.2.1,z.2.2,fun q=>⟨namesKept_of WP b5 _ keeps g.2.1.old,noTable X7 q⟩⟩⟩)))⟩
noncomputable abbrev mw:OpenLaw:=PySem.Challenge.rw_pq1102_01
theorem items_int {bZ:WRecords}:∀{xs:List WData},WShape.hasItems bZ xs .int=true→∃is:List Int,xs=is.map .int
 | [],_=>⟨[],rfl⟩
 |x::xs,h=>by simp only[WShape.hasItems,fH] at h;refine dm (hasW_int h.1) fun i cg=>?_;subst cg;refine dm (items_int h.2) fun is cg=>?_;subst cg;exact⟨i::is,rfl⟩
theorem XJ {bZ:WRecords}{a b:WTm}{e:WCtx}{p:Bool}(h:WTm.holds bZ (.and (.not (.lt a b)) (.lit (.bool true))) e=true)(co:WTm.value bZ (.lt a b) e=E (.bool p)):p=false:=by
 induction p using eo with
 |false=>rfl
 |true=>unfold WTm.holds WTm.value WTm.value at h;rw[co] at h;exact dW h
theorem Zv (xs:List WData)(h:mw.row.toRowW.pre.holds mw.row.toRowW.records {args:=[.list xs]}=true):xs.length≤63:=by have:=XJ (a:=.lit (.int 63)) (b:=.len (.arg 0)) (p:=decide ((63:Int)<xs.length)) h (by kernel_rfl);have:=of_decide_eq_false this;lia
theorem RF {args:List WData}(h:mw.row.toRowW.claim.pre args=true):∃is:List Int,args=[.list (is.map .int)]∧is.length≤63:=by refine b7 (pre_splitW h) fun R Z=>?_;refine dB (hasAllW_cons R) fun d r bS=>?_;refine hJ bS fun b8 bv cZ=>?_;clear bS;subst b8;have cZ:=hasAllW_nil cZ;subst cZ;refine dm (hasW_list bv) fun xs bS=>?_;refine b7 bS fun cg gV=>?_;clear bS;subst cg;refine dm (items_int gV) fun is cg=>?_;subst cg;refine⟨is,rfl,?_⟩;have:=Zv _ Z;rwa [List.length_map] at this
theorem lay_ints {bZ:WRecords}{cl:PySem.Str→Option bj}{ord:List c3→List c3}:∀(is:List Int) (s:aQ),layAllW bZ cl P ord (is.map .int) s=E (canon s.toks is,{s with toks:=s.toks+is.length})
 | [],s=>rfl
 |i::is,s=>by
  refine(?_:(match layAllW bZ cl P ord (is.map .int) {s with toks:=s.toks+1} with|some r=>E (x3 i s.toks::r.1,r.2)|none=>none)=_)
  rw[lay_ints is];simp[canon,Nat.add_comm 1,Nat.add_assoc]
theorem SS (df:ig s=ie w)(ok:(gE w s).Ok)(n:Nat):l3 d8 w (gE w s) (bh aT n) n kW:=
 SU ok (fun n cs k f r hf cr am=>ab8 df ok cs k r cr f hf am) n
theorem Zp {is:List Int}{Q:bI}(ar:is.length≤63)(h:∀bp,Q (.bool true) (.d5 is::bp)):bh aT 13 zJ [.ref 0] [.d5 is] Q:=by refine(m1 (n:=12) (r:=0) (bg:=je) (sel:=[0]) (vs0:=[.ref 0]) (H0:=[.d5 is]) (by kernel_rfl) rfl (by kernel_rfl) (by kernel_rfl) (by kernel_rfl) (by kernel_rfl) ?_).out;refine Zq (m:=0) (by lia) fun H=>?_;exact aK (B:=Q (.bool true) [.d5 is]) (by kernel_rfl) ⟨h []⟩
theorem agW {vs:List aj}{ord:List c3→List c3}{is:List Int}(df:ig s=ie w)(ok:(gE w s).Ok)(ar:is.length≤63)(z1:layAllW [] (classAt s.heap) w.params ord [.list (is.map .int)] s=E (vs,bB))(b5:bB.gens=#[]){sU:aj→aQ→Prop}
 (k:∀s',(∀b o,bB.heap.get? b=E o→s'.heap.get? b=E o)→s'.os=bB.os→s'.gens=#[]→sU (.bool true) s'):aO d8 w callerA (PySem.call (.ref 616) vs) sU bB:=by
 have m4:layAllW [] (classAt s.heap) w.params ord [.list (is.map .int)] s=E ([.ref s.heap.objs.size],{s with heap:=s.heap.push (listOf (canon 1175 is).toArray 0),toks:=s.toks+is.length}):=by
  refine(?_:(match(match layAllW [] (classAt s.heap) w.params ord (is.map .int) s with|some r=>E (gO r.2.heap.objs.size,{r.2 with heap:=r.2.heap.push {cls:=.type "list",data:=.seq r.1.toArray}})|none=>none) with|some a=>(match E (([]:List aj),a.2) with|some r=>E (a.1::r.1,r.2)|none=>none)|none=>none)=_)
  rw[lay_ints,(agf df).1]
 rw[m4] at z1;refine b7 (Bw (fc z1)) fun c6 cg=>?_;subst c6;subst cg;have eT:(s.heap.push (listOf (canon 1175 is).toArray 0)).get? s.heap.objs.size=E (listOf (canon 1175 is).toArray 0):=g5 _ rfl;have am:bz w.params [s.heap.objs.size] [.d5 is] (s.heap.push (listOf (canon 1175 is).toArray 0)):=⟨rfl,List.pairwise_singleton _ _,fun i o a ax aC=>by
  match i,ax,aC with
  |0,ax,aC=>obtain rfl:=cE ax;obtain rfl:=cE aC;exact⟨_,eT,.d5 is⟩⟩
 refine(SS df ok 13 callerA zJ (.ref 616) [.ref 0] [.ref s.heap.objs.size] [.d5 is] [s.heap.objs.size] _ (fun v H=>v=.bool true∧∃bp,H=.d5 is::bp) sU (by kernel_rfl) rfl (by decide) (by decide) (Zp ar fun bp=>⟨rfl,bp,rfl⟩) am (.cons (.ref rfl) .nil)
  (fun b o e=>⟨fv _ e,fun hm=>by rw[List.mem_singleton.mp hm] at e;exact absurd (ia e) (xR _)⟩) fun v bp aV y s' a9 eM c7 st=>?_).2
 obtain⟨rfl,be,rfl⟩:=a9;cases c7;refine k s' (fun b o e=>?_) st.os (st.gens.trans b5)
 by_cases az:b=s.heap.objs.size
 .subst az;refine dm st.new fun Aq bS=>?_;refine b7 bS fun cg b8=>?_;clear bS b8;subst cg;refine dm (eM.at_ 0 _ s.heap.objs.size rfl rfl) fun ob bS=>?_;refine b7 bS fun R Z=>?_;clear bS;have:o=listOf (canon 1175 is).toArray 0:=fc (e.symm.trans eT);subst this;cases Z;exact R
 .exact st.keep b o e (fun hm=>az (List.mem_singleton.mp hm)) fun hm=>nomatch hm
def tl:DefRec:=⟨"law",(ha 94).1,(ha 94).2.1,(ha 94).2.2,⟨647,0,665,93⟩⟩
theorem To:defOf w7 mw.row.name=E (tl,[]):=by kernel_rfl
theorem agd:mw.row.prog.theDef mw.row.name=E (tl.params,tl.body,tl.scope):=by kernel_rfl
theorem Y1:kwWritten? tl.params.kwonlyargs tl.params.kw_defaults=E []:=by kernel_rfl
theorem abL:(chainsOk w7&&opensWell mw.row.prog&&(frees mw.row.toRowW&&mw.row.within.isEmpty))=true:=by kernel_rfl
theorem RY:mw.row.prog.bare:=⟨rfl,rfl,rfl,rfl,rfl,by decide+kernel⟩
theorem ag2:mw.row.toRowW.promised:=⟨[.list []],by decide+kernel,by decide+kernel⟩
theorem ahh:mw.Holds:=by refine holds_law adI fun adH=>?_;refine abJ Zu To agd Y1 rfl rfl adH abL RY ag2 fun w la bB j8 pf df keeps aW aJ G args vs as tD wh b2 low=>?_;subst aW;subst aJ;refine⟨.ref 616,MK df 90 (r:=("law",1174,ak 616)) (by kernel_rfl),?_⟩;refine dm (RF tD) fun is bS=>?_;refine b7 bS fun cg ar=>?_;clear bS;subst cg;have ok:(gE w la).Ok:=abB df G.T.g G.T.b G.T.nolimit low;refine dm b2.laid fun ord bS=>?_;refine b7 bS fun cg z1=>?_;clear bS cg;refine agW df ok ar z1 b2.gens fun s' aB ax b5=>?_;exact⟨.inl ⟨_,.bool true,[],rfl,fun _=>rfl,.bool true,by kernel_rfl,fun _=>⟨List.nodup_nil,fun a aC=>nomatch aC⟩⟩,.of_keep aB,ax,.of_eq b5⟩
end
end Mine
theorem PySem.Challenge.cw_pq1102_01_holds : PySem.Challenge.rw_pq1102_01.Holds :=
 Mine.ahh
