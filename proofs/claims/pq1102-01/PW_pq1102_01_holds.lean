import PyProof.Rows.All
import Wide.All
import OpenK.AllK
import Wide.FinOn
import PySem.Challenge.RW_pq1102_01
open PySem PySem.W PySem.Calls PyProof.Rows
set_option Elab.async false
set_option linter.all false
set_option maxRecDepth 100000
set_option maxHeartbeats 4000000
set_option backward.match.sparseCases false
set_option genSizeOf false
set_option genSizeOfSpec false
set_option genInjectivity false
set_option tactic.hygienic false
namespace Mine
open _root_.Array renaming forIn_toList→Qj,getElem?_eq_getElem→oF,getElem?_eq_some_iff→Gy,getElem?_toList→Qk,length_toList→xH,size_append→Bm,size_extract→Ql,toList_append→Gz,toList_extract→GA
open _root_.Bool renaming and_eq_true→fJ,and_eq_true_iff→gD,and_false→jd,and_true→xI,casesOn→eo,eq_false_iff→Bn,eq_false_or_eq_true→Qm,eq_iff_iff→uS,false_and→oG,false_ne_true→d8,noConfusion→kn,not_eq_false'→uR,not_eq_true'→km,or_eq_false_iff→Bo,or_eq_true→uT,or_eq_true_iff→xJ,or_false→uU,or_true→xK,true_and→nx
open _root_.Eq renaming symm→xL,trans→uV
open _root_.False renaming elim→fv
open _root_.ForInStep renaming yield→Bp
open _root_.Int renaming add_assoc→GB,add_lt_add_right→xM,add_mul_emod_self_left→Qn,add_nonneg→GC,casesOn→xN,ediv_eq_zero_of_lt→Qo,ediv_nonneg→GD,emod_add_mul_ediv→Qp,emod_eq_of_lt→xO,emod_lt_of_pos→Bq,emod_nonneg→xP,eq_ofNat_of_zero_le→jV,fdiv_eq_ediv_of_nonneg→Qq,le_add_of_nonneg_right→Qr,le_of_lt→oH,le_refl→uW,le_sub_one_of_lt→Qs,le_trans→q1,lt_of_le_of_lt→Br,lt_trans→ko,min_def→GF,mul_assoc→GG,mul_comm→xQ,natCast_nonneg→lf,ne_of_gt→sE,negSucc_lt_zero→GH,ofNat→mI,ofNat_le→lg,ofNat_lt→je,pow_succ→uX,pow_zero→Bs,toNat_lt→GI,toNat_natCast→pG,zero_add→Bt
open _root_.Nat renaming add_le_add_left→GJ,add_mul_mod_self_left→Qt,add_right_cancel_iff→Qu,add_sub_cancel'→xR,add_sub_cancel_left→sF,beq→c1,beq_refl→pH,ble→de,ble_eq→lY,ble_eq_true_of_le→Qv,blt→dT,casesAuxOn→ia,eq_of_beq_eq_true→fQ,le_add_right→sG,le_of_ble_eq_true→d5,le_of_eq→sH,le_of_lt→xS,le_of_succ_le_succ→xT,le_refl→kN,le_succ_of_le→Bu,le_total→GK,le_trans→e4,lt_irrefl→xU,lt_of_le_of_lt→mJ,lt_of_lt_of_le→q2,lt_of_succ_lt→Bv,lt_of_succ_lt_succ→xV,lt_or_ge→Bw,lt_succ_of_lt→GL,lt_succ_self→jy,lt_trans→sI,lt_trichotomy→GN,min_eq_left→q3,min_le_left→GO,min_le_right→GP,mod_eq_of_lt→GQ,ne_of_gt→oI,ne_of_lt→ny,not_lt→mK,not_lt_zero→xW,not_succ_le_zero→Bx,sub_eq_zero_of_le→Qw,sub_le_sub_right→Qx,sub_self→xX,sub_zero→GR,succ_add→GS,succ_lt_succ→GU,zero_add→GV,zero_le→jz
open _root_.Nat.succ renaming inj→lZ
open _root_.Option renaming casesOn→ez,isNone→By,isSome_iff_exists→sJ,map_eq_some_iff→GW,map_some→GX,none→dn,some→E
open _root_.Option.some renaming inj→fe
open _root_.Prod renaming casesOn→Bz,fst→oJ,snd→uY
open _root_.Prod.mk renaming inj→BA
open _root_.PyProof renaming noPylong_of_log2→Qy
open _root_.PyProof.Rows renaming listUpdate_at→GY,tail_any→nz
open _root_.PySem renaming Addr→bj,Around→fw,Code→l0,Comprehension→sK,DictEntry→c3,Expr→aY,Flow→g0,FuncData→pI,Heap→fR,NameKind→g4,Operator→xY,OsState→lh,Params→dj,Program→hS,Scope→oK,Shared→aS,Stmt→iQ,Value→aj,World→fk,bm_if_false→sL,bm_if_true→BB,builtinLookup_eq_fast→jA,codeAny_builtin→uZ,codeAny_of_tree→GZ,entryFor_alias→G0,entryFor_of_fast→u0,entryFor_of_tree→u1,getItem_meets→G1,isSubtype_stop→G2,isSubtype_type→nA,lookup_relabel_local→G3,plainId_quiet→q4,sizeLine_eq→BC,sliceIndices_raw→G4,slice_no_index→G5,slot_dict_contains→G6,slot_dict_getitem→G7,slot_list_getitem→xZ,slot_list_setitem→BD,typeIs_int→x0,typeLookup_type→jB,wpAny_assign_Name→x1,wpAny_attempt→u2,wpAny_bind→af,wpAny_callSpecial?_slot→mL,wpAny_call_entry→hp,wpAny_dictEntries→mM,wpAny_dictEpoch→lj,wpAny_field→ib,wpAny_fieldsOf→BE,wpAny_forIn_list→u3,wpAny_getItem_list_slice→Qz,wpAny_handled→G8,wpAny_holding→gb,wpAny_isInstance→pJ,wpAny_isOneOf_itemiter→G9,wpAny_ite→nB,wpAny_ite_split→oL,wpAny_letGo→x2,wpAny_load→nC,wpAny_mkInt→u4,wpAny_mono→sM,wpAny_newObj_type→jC,wpAny_notOrdered_dict→q5,wpAny_of_eq→hq,wpAny_pure→aX,wpAny_pyIter_slot→u5,wpAny_release→BF,wpAny_richCompare_same_room→QA,wpAny_rule→iv,wpAny_seqItems→Ha,wpAny_sequenceKey→u6,wpAny_setField→x3,wpAny_setField_rec→u7,wpAny_specialOf→iR,wpAny_truthy_bool→BG,wpAny_tupleItemsOf→Hb,wpAny_typeNameOfWhole_itemiter→BH,wpAny_typeNameOfWhole_keyiter→BI,wpAny_typeNameOf_itemiter→BJ,wpAny_typeNameOf_keyiter→BK,wpAny_typeOf→u8,wpAny_updateSeq→x4
open _root_.PySem.Around renaming under_plainId→q6
open _root_.PySem.BindsTo renaming of_defaults→Hc
open _root_.PySem.Calls renaming Name_function_global→Hd,call_function_entry→QB,spliced_nil→u9
open _root_.PySem.Data renaming cls→sN,dict→l1,fields→fZ
open _root_.PySem.Expr renaming casesOn→jW
open _root_.PySem.Flow renaming casesOn→nD
open _root_.PySem.Heap renaming ExtBut→BL,SameBut→fK,get?_push_of_some→fx,get?_push_size→g5,get?_update_other→BM,get?_update_self→l2,lt_size→ic,size_push→x5
open _root_.PySem.Heap.IsSliceOf renaming new→QC
open _root_.PySem.Heap.SameBut renaming refl→BN,update→kp
open _root_.PySem.NameKind renaming cell→He,free→sO
open _root_.PySem.Operator renaming casesOn→QD
open _root_.PySem.PyData renaming keyHash→BO
open _root_.PySem.Sem renaming wp_mono→va
open _root_.PySem.Str renaming ofString→g6
open _root_.PySem.Value renaming bool→g7,builtin→fE,bytes→Hf,casesOn→Hg,int→x6,noConfusion→q7,none→cg,ref→gP,type→cD
open _root_.PySem.Value.ref renaming inj→BP
open _root_.PySem.W renaming boot_heap→q8,kas_sort→oM,typeIs_bytes→pK
open _root_.PySem.W.FB renaming args_bytes_getitem_2→QE,entry_bytes_getitem→QF,slot_bytes_getitem→BQ
open _root_.PySem.W.KBc renaming size_picked_le→Hh
open _root_.PySem.W.KBy renaming ite_no→nE,picked→BR,special_eq→vb
open _root_.PySem.W.Looks renaming ld→x7
open _root_.PySem.callAny renaming viaDunder→QG
noncomputable section
variable {a bR aM:bj}{b u ag ak f1 L ai dy g1 hF bl R aw av cc:Bool}{p q pos k0 iD ni:Pos}{G no qE:Prop}{A:fw}{b2 Q:aj→aS→Prop}{y:aj}{f c o' aL st bF nf dp cX au isr pr iL Y W X bO bN bq br dP wy ca iif dS num cz:Int}{aA:Model}{s bC s' s2 bB:aS}{n m j ep kr pl ge:Nat}{ρ aV ah uQ cv bQ:List bj}{h h':fR}{xs ys:List aj}{P:dj}{ob:Obj}{t e bX gT iter:aY}{O:hS}{w:fk}{I:Env}{op:xY}{c2 args fO:List aY}{le:Sem aj}{ay iF:List Str}{is f5 sel:List Nat}{dG:Nat→Bool}{name:Str}{lo hi:Option Int}{body:List iQ}{scope:oK}{fH:Nat→Option aj}{d0 S ins d' fm:List Int}
theorem vw {a:Bool}(x:a=true)(y:b=true):(a&&b)=true:=by rw[x,y];rfl
theorem Z6:looksOpen PySem.Challenge.rw_pq1102_01.row.prog=true:=by
 unfold looksOpen
 repeat' with_reducible refine vw ?_ ?_
 all_goals decide+kernel
theorem ab8:PySem.Challenge.rw_pq1102_01.row.partSaid=true:=by
 unfold OpenRow.partSaid
 repeat' with_reducible refine vw ?_ ?_
 all_goals first|with_reducible exact Z6|decide+kernel
theorem ade:PySem.Challenge.rw_pq1102_01.row.wellSaid=true:=by
 unfold OpenRow.wellSaid;refine vw (vw ab8 ?_) ?_
 all_goals decide+kernel
theorem adK:PySem.Challenge.rw_pq1102_01.wellSaid=true:=by
 unfold OpenLaw.wellSaid
 repeat' with_reducible refine vw ?_ ?_
 .exact ade
 all_goals decide+kernel
theorem R7:PySem.Challenge.rw_pq1102_01.row.prog.bare:=⟨rfl,rfl,rfl,rfl,rfl,by decide+kernel⟩
noncomputable abbrev eP:hS:=PySem.Challenge.pw_pq1102_01
abbrev pN:Type:=Arguments×List iQ×oK
def Jj:Option iQ→pN
 |some (.FunctionDef _ a b _ _ _ AL _ _ _)=>(a,b,AL)
 |_=>(⟨[],[],none,[],[],none,[]⟩,[],eP.main.scope)
noncomputable def Ta:Option iQ→List iQ
 |some (.ClassDef _ _ _ b _ _ _ _ _ _ _)=>b
 |_=>[]
def ha (i:Nat):pN:=Jj eP.main.body[i]?
def mW (i j:Nat):pN:=Jj (Ta eP.main.body[i]?)[j]?
noncomputable def bc (x:String)(t:Nat):aj:=.str (.ofString x) t
def hf (t:Nat):aj:=bc "/claim/cut.py" t
noncomputable def ab (i:Int)(t:Nat):aj:=.int i t
noncomputable abbrev al (a:bj):aj:=.ref a
def cy (P:dj)(k:String)(t:Nat)(v:aj):c3:={hash:=BO P (.ofString k),key:=bc k t,val:=v}
noncomputable def ct (l:List aj):Obj:={cls:=.type "tuple",data:=.seq ⟨l⟩}
noncomputable def kB:Obj:={cls:=.none,data:=.fields ⟨[]⟩}
noncomputable def h3 (l:List aj):Obj:={cls:=.type "code",data:=.fields ⟨l⟩}
noncomputable def jp (d:pN)(n q:String):Obj:={cls:=.none,data:=.func {name:=.ofString n,qualname:=.ofString q,params:=d.1,body:=.stmts d.2.1,scope:=d.2.2,globals:=0,closure:=[],defaults:=.none,kwdefaults:=.none}}
noncomputable def fdOf (d:pN)(n q:String)(nU gu rk:aj):pI:={name:=.ofString n,qualname:=.ofString q,params:=d.1,body:=.stmts d.2.1,scope:=d.2.2,globals:=3,closure:=[],defaults:=nU,kwdefaults:=.none,pyModule:=gu,code:=rk}
def f6 (d:pN)(n q:String)(nU gu rk:aj):Obj:={cls:=.type "function",data:=.func (fdOf d n q nU gu rk)}
def n7:List (String×Nat×aj):=[("__doc__",166,cg),("__package__",167,cg),("__loader__",168,fE "__main__.__loader__#opaque"),("__spec__",169,cg),("__annotations__",170,al 6),("__builtins__",171,al 4),("__file__",173,bc "/claim/cut.py" 172),("__cached__",174,cg),("WallFault",218,al 31),("Misused",234,al 44),("number_of",245,al 53),("octets_of",251,al 58),("folded",258,al 65),("mend",269,al 72),("look4",280,al 79),("head_size",290,al 86),("size_at",301,al 93),("place_at",309,al 100),("look6",321,al 107),("new_meta",331,al 114),("Packet",368,al 131),("look",376,al 142),("packet_of",388,al 150),("family_of",395,al 157),("base_of",403,al 164),("part",415,al 171),("put_part",427,al 178),("sum_place",434,al 185),("common",446,al 192),("sums_met",452,al 197),("pairs_of",462,al 204),("mend_at",476,al 211),("set_octets",491,al 218),("error_kinds",500,al 225),("DYING",504,ab 512 503),("Talk",546,al 242),("TalkBook",589,al 264),("is_icmp",597,al 275),("is_error",605,al 282),("answer_kind",616,al 289),("ports_at",628,al 296),("tuple_at",643,al 303),("tuple_of",651,al 310),("invert",665,al 317),("side_of",673,al 324),("drop_talk",679,al 329),("is_error_packet",689,al 336),("put_there",702,al 343),("port_place",712,al 350),("rewrite",732,al 357),("bit_for",741,al 364),("inner_rewritten",751,al 371),("rewrite_inner",761,al 378),("translate",772,al 385),("ASSURED",776,ab 4 775),("CONFIRMED",778,ab 8 777),("ESTABLISHED",780,ab 3 779),("FIN_RST",782,ab 5 781),("FIN_RST_SYN",784,ab 7 783),("ttl_place",792,al 392),("ttl_of",801,al 399),("drop_ttl",809,al 406),("flags_of",817,al 413),("may_flow",827,al 420),("has_flow",836,al 427),("flow_request",849,al 434),("end_flow",855,al 439),("is_plain",863,al 446),("may_pass",873,al 453),("try_fast",890,al 460),("Scene",944,al 478),("_law_draw",955,al 489),("_law_digits",965,al 496),("_law_split",971,al 501),("_law_words",978,al 508),("_law_host",986,al 515),("_law_setup",992,al 520),("_law_tuple",1000,al 527),("_law_transport",1014,al 534),("_law_whole",1029,al 541),("_law_event",1052,al 548),("_law_moved",1065,al 555),("_law_packets",1079,al 562),("_law_due",1091,al 569),("_law_flows",1102,al 576),("_law_book",1112,al 583),("_law_ask",1129,al 590),("_law_are_asked",1140,al 597),("_law_fast",1154,al 604),("_law_slow",1168,al 611),("law",1174,al 616)]
def aae (P:dj):List c3:=n7.map fun x=>cy P x.1 x.2.1 x.2.2
def ma (P:dj)(nm:aj)(n:Nat):Obj:={cls:=.type "dict",data:=.dict ⟨cy P "__name__" 165 nm::(aae P).take n⟩ (n+1)}
def aad:List aj:=[ab 2 0,ab 0 0,al 20,ab 8 0,ab 0 0,al 40,ab 11 0,ab 0 0,al 52,ab 16 0,ab 0 0,al 57,ab 20 0,ab 0 0,al 64,ab 24 0,ab 0 0,al 71,ab 33 0,ab 0 0,al 78,ab 42 0,ab 0 0,al 85,ab 50 0,ab 0 0,al 92,ab 59 0,ab 0 0,al 99,ab 61 0,ab 0 0,al 106,ab 81 0,ab 0 0,al 113,ab 88 0,ab 0 0,al 120,ab 98 0,ab 0 0,al 141,ab 113 0,ab 0 0,al 149,ab 117 0,ab 0 0,al 156,ab 125 0,ab 0 0,al 163,ab 137 0,ab 0 0,al 170,ab 145 0,ab 0 0,al 177,ab 151 0,ab 0 0,al 184,ab 159 0,ab 0 0,al 191,ab 165 0,ab 0 0,al 196,ab 178 0,ab 0 0,al 203,ab 183 0,ab 0 0,al 210,ab 193 0,ab 0 0,al 217,ab 206 0,ab 0 0,al 224,ab 210 0,ab 0 0,al 231,ab 224 0,ab 0 0,al 252,ab 237 0,ab 0 0,al 274,ab 239 0,ab 0 0,al 281,ab 241 0,ab 0 0,al 288,ab 249 0,ab 0 0,al 295,ab 263 0,ab 0 0,al 302,ab 275 0,ab 0 0,al 309,ab 280 0,ab 0 0,al 316,ab 288 0,ab 0 0,al 323,ab 290 0,ab 0 0,al 328,ab 303 0,ab 0 0,al 335,ab 309 0,ab 0 0,al 342,ab 313 0,ab 0 0,al 349,ab 321 0,ab 0 0,al 356,ab 336 0,ab 0 0,al 363,ab 341 0,ab 0 0,al 370,ab 345 0,ab 0 0,al 377,ab 349 0,ab 0 0,al 384,ab 365 0,ab 0 0,al 391,ab 370 0,ab 0 0,al 398,ab 376 0,ab 0 0,al 405,ab 382 0,ab 0 0,al 412,ab 385 0,ab 0 0,al 419,ab 393 0,ab 0 0,al 426,ab 398 0,ab 0 0,al 433,ab 412 0,ab 0 0,al 438,ab 416 0,ab 0 0,al 445,ab 421 0,ab 0 0,al 452,ab 432 0,ab 0 0,al 459,ab 450 0,ab 0 0,al 466,ab 473 0,ab 0 0,al 488,ab 478 0,ab 0 0,al 495,ab 484 0,ab 0 0,al 500,ab 486 0,ab 0 0,al 507,ab 488 0,ab 0 0,al 514,ab 492 0,ab 0 0,al 519,ab 505 0,ab 0 0,al 526,ab 507 0,ab 0 0,al 533,ab 523 0,ab 0 0,al 540,ab 534 0,ab 0 0,al 547,ab 549 0,ab 0 0,al 554,ab 558 0,ab 0 0,al 561,ab 566 0,ab 0 0,al 568,ab 584 0,ab 0 0,al 575,ab 591 0,ab 0 0,al 582,ab 602 0,ab 0 0,al 589,ab 620 0,ab 0 0,al 596,ab 631 0,ab 0 0,al 603,ab 638 0,ab 0 0,al 610,ab 647 0,ab 0 0,al 615]
def rm (n:Nat):Obj:={cls:=.none,data:=.fields ⟨aad.take n⟩}
def Kd (t:Nat):List String→List aj
 | []=>[]
 |x::r=>bc x t::Kd (t+1) r
def m1 (a:Nat)(d:pN)(n q:String)(nU gu:aj)(t:Nat)(l na:Int)(ns:List String):List Obj:=[ct [],kB,ct (Kd (t+3) ns),ct [],jp d n q,h3 [bc n t,bc q (t+1),hf (t+2),ab l 0,ab na 0,ab 0 0,ab 0 0,ab 3 0,al a,g7 true,ab 181 0,al (a+1),cg,al (a+2),al (a+3),al (a+4),ab (t+3+ns.length) 0,ab l 0,hf (t+4+ns.length)],f6 d n q nU gu (al (a+5))]
def c8 (a i:Nat)(n:String)(gu:aj)(t:Nat)(l na:Int)(ns:List String):List Obj:=m1 a (ha i) n n .none gu t l na ns
def XK:aj:=bc "siftwall.faults" 187
def rD:aj:=bc "siftwall.octets" 235
def wj:aj:=bc "siftwall.ipv4" 270
def qk:aj:=bc "siftwall.ipv6" 281
def gq:aj:=bc "siftwall.packets" 322
def Kt:aj:=bc "siftwall.transport" 492
def h5:aj:=bc "siftwall.tuples" 501
def Ku:aj:=bc "siftwall.relate" 680
def kE:aj:=bc "siftwall.natwrite" 690
def il:aj:=bc "siftwall.fastroad" 773
def Ks:aj:=bc "siftwall.walk" 891
def e9:aj:=bc "law_pq1102_01" 945
def vy (P:dj):List Obj:=[ct [],rm 231,h3 [bc "<module>" 182,bc "<module>" 183,hf 184,ab 1 0,ab 0 0,ab 0 0,ab 0 0,ab 0 0,al 11,g7 false,ab 181 0,al 12,cg,cg,cg,cg,ab 185 0,ab 1 0,hf 186],{cls:=cD "frame",slots:=#[E (al 13),E (al 3),E (al 3),none,E (bc "__main__" 164),none,E (al 0)]},ct [cD "Exception"],{cls:=cD "builtin_function_or_method",data:=fZ #[fE "type.__prepare__",cD "type"]},{cls:=cD "dict",data:=l1 #[cy P "__module__" 196 (bc "siftwall.faults" 187),cy P "__qualname__" 198 (bc "WallFault" 197),cy P "__firstlineno__" 200 (ab 2 199),cy P "__init__" 208 (al 28),cy P "__static_attributes__" 211 (al 29)] 5},ct [],{cls:=cg,data:=fZ #[ab 4 0,ab 4 0,al 27]},h3 [bc "WallFault" 191,bc "WallFault" 192,hf 193,ab 2 0,ab 0 0,ab 0 0,ab 0 0,ab 0 0,al 18,g7 false,ab 181 0,al 19,cg,cg,cg,cg,ab 194 0,ab 2 0,hf 195],{cls:=cD "frame",slots:=#[E (al 20),E (al 3),E (al 17),none,E (bc "siftwall.faults" 187),none,E (al 0)]}]++(m1 22 (mW 1 0) "__init__" "WallFault.__init__" .none XK 201 4 2 ["self","why"]++([ct [bc "at" 209,bc "why" 210],{cls:=cD "dict",data:=l1 #[cy P "__module__" 196 (bc "siftwall.faults" 187),cy P "__firstlineno__" 200 (ab 2 199),cy P "__init__" 208 (al 28),cy P "__static_attributes__" 211 (al 29),cy P "__weakref__" 213 (al 32),cy P "__doc__" 214 (cg)] 3},{cls:=cD "type",data:=sN {name:=g6 "WallFault",bases:=[cD "Exception"],mro:=[al 31,cD "Exception",cD "BaseException",cD "object"],ns:=30,qualname:=g6 "WallFault",subclasses:=[al 44]},slots:=#[E (al 15),none,E (bc "WallFault" 189),E (bc "WallFault" 197),E (fE "Exception.__new__"),E (g7 true)]},{cls:=cD "getset_descriptor",data:=fZ #[bc "__weakref__" 212,al 31,fE "ExceptionGroup.__weakref__",cg]},{cls:=cD "super",data:=fZ #[al 31,al 31,al 31]},{cls:=cD "builtin_function_or_method",data:=fZ #[fE "object.__init_subclass__",al 31]},ct [al 31]]))
def dE (P:dj):List Obj:=[{cls:=cD "builtin_function_or_method",data:=fZ #[fE "type.__prepare__",cD "type"]},{cls:=cD "dict",data:=l1 #[cy P "__module__" 226 (bc "siftwall.faults" 187),cy P "__qualname__" 228 (bc "Misused" 227),cy P "__firstlineno__" 230 (ab 8 229),cy P "__static_attributes__" 231 (al 42)] 4},ct [],kB,h3 [bc "Misused" 221,bc "Misused" 222,hf 223,ab 8 0,ab 0 0,ab 0 0,ab 0 0,ab 0 0,al 38,g7 false,ab 181 0,al 39,cg,cg,cg,cg,ab 224 0,ab 8 0,hf 225],{cls:=cD "frame",slots:=#[E (al 40),E (al 3),E (al 37),none,E (bc "siftwall.faults" 187),none,E (al 0)]},ct [],{cls:=cD "dict",data:=l1 #[cy P "__module__" 226 (bc "siftwall.faults" 187),cy P "__firstlineno__" 230 (ab 8 229),cy P "__static_attributes__" 231 (al 42),cy P "__doc__" 232 (cg)] 2},{cls:=cD "type",data:=sN {name:=g6 "Misused",bases:=[al 31],mro:=[al 44,al 31,cD "Exception",cD "BaseException",cD "object"],ns:=43,qualname:=g6 "Misused"},slots:=#[E (al 35),none,E (bc "Misused" 219),E (bc "Misused" 227),E (fE "Exception.__new__"),E (g7 true)]},{cls:=cD "super",data:=fZ #[al 44,al 44,al 44]},{cls:=cD "builtin_function_or_method",data:=fZ #[fE "object.__init_subclass__",al 44]}]++(c8 47 4 "number_of" rD 237 11 1 ["octets","number","octet"]++([ct [],kB,jp (ha 5) "octets_of" "octets_of",h3 [bc "octets_of" 246,bc "octets_of" 247,hf 248,ab 16 0,ab 2 0,ab 0 0,ab 0 0,ab 3 0,al 54,g7 true,ab 181 0,al 55,cg,cg,cg,al 56,ab 249 0,ab 16 0,hf 250],f6 (ha 5) "octets_of" "octets_of" (cg) (bc "siftwall.octets" 235) (al 57),ct [],kB]))
def dX (P:dj):List Obj:=(c8 59 6 "folded" rD 252 20 1 ["total"]).drop 2++(c8 66 7 "mend" rD 259 24 3 ["check","old","new","total","place"]++(c8 73 9 "look4" wj 272 33 1 ["data","off","word"]++((c8 80 11 "head_size" qk 283 42 2 ["kind","second"]).take 6)))
def gp (P:dj):List Obj:=[f6 (ha 11) "head_size" "head_size" (cg) (bc "siftwall.ipv6" 281) (al 85)]++(c8 87 12 "size_at" qk 291 50 4 ["octets","at","kind","end","size"]++(c8 94 13 "place_at" qk 302 59 2 ["octets","at"]++(c8 101 14 "look6" qk 310 61 1 ["data","kind","at","place","is_more","size"]++((c8 108 16 "new_meta" gq 324 81 0 ["out","name"]).take 3))))
def iU (P:dj):List Obj:=(c8 108 16 "new_meta" gq 324 81 0 ["out","name"]).drop 3++([ct [],{cls:=cD "builtin_function_or_method",data:=fZ #[fE "type.__prepare__",cD "type"]},{cls:=cD "dict",data:=l1 #[cy P "__module__" 339 (bc "siftwall.packets" 322),cy P "__qualname__" 341 (bc "Packet" 340),cy P "__firstlineno__" 343 (ab 88 342),cy P "__init__" 353 (al 128),cy P "__static_attributes__" 361 (al 129)] 5},ct [],{cls:=cg,data:=fZ #[ab 90 0,ab 4 0,al 127]},h3 [bc "Packet" 334,bc "Packet" 335,hf 336,ab 88 0,ab 0 0,ab 0 0,ab 0 0,ab 0 0,al 118,g7 false,ab 181 0,al 119,cg,cg,cg,cg,ab 337 0,ab 88 0,hf 338],{cls:=cD "frame",slots:=#[E (al 120),E (al 3),E (al 117),none,E (bc "siftwall.packets" 322),none,E (al 0)]}]++(m1 122 (mW 17 0) "__init__" "Packet.__init__" .none gq 344 90 4 ["self","data","kind","link"]++([ct [bc "data" 354,bc "kind" 355,bc "l4" 356,bc "link" 357,bc "meta" 358,bc "off" 359,bc "place" 360],{cls:=cD "dict",data:=l1 #[cy P "__module__" 339 (bc "siftwall.packets" 322),cy P "__firstlineno__" 343 (ab 88 342),cy P "__init__" 353 (al 128),cy P "__static_attributes__" 361 (al 129),cy P "__dict__" 363 (al 132),cy P "__weakref__" 365 (al 133),cy P "__doc__" 366 (cg)] 4},{cls:=cD "type",data:=sN {name:=g6 "Packet",bases:=[cD "object"],mro:=[al 131,cD "object"],ns:=130,qualname:=g6 "Packet"},slots:=#[none,none,E (bc "Packet" 332),E (bc "Packet" 340),E (fE "object.__new__"),E (g7 true)]},{cls:=cD "getset_descriptor",data:=fZ #[bc "__dict__" 362,al 131,fE "function.__dict__",fE "function.__dict__#set"]},{cls:=cD "getset_descriptor",data:=fZ #[bc "__weakref__" 364,al 131,fE "ExceptionGroup.__weakref__",cg]},{cls:=cD "super",data:=fZ #[al 131,al 131,al 131]},{cls:=cD "builtin_function_or_method",data:=fZ #[fE "object.__init_subclass__",al 131]}])))
def lm (P:dj):List Obj:=c8 136 18 "look" gq 369 98 1 ["packet","found"]++([ct [ab 2048 377,Hf #[] 378]]++(m1 144 (ha 19) "packet_of" "packet_of" (al 143) gq 379 113 3 ["octets","kind","link","packet"]++(c8 151 20 "family_of" gq 389 117 1 ["packet"]++((c8 158 21 "base_of" gq 396 125 2 ["packet","base"]).take 3))))
def rj (P:dj):List Obj:=(c8 158 21 "base_of" gq 396 125 2 ["packet","base"]).drop 3++(c8 165 22 "part" gq 404 137 4 ["packet","base","at","many","found","begin"]++(c8 172 23 "put_part" gq 416 145 4 ["packet","base","at","octets","found","begin"]++(c8 179 24 "sum_place" gq 428 151 1 ["l4"])))
def CE (P:dj):List Obj:=c8 186 25 "common" gq 435 159 4 ["begin","end","low","behind","first","last"]++([ct [],kB,jp (ha 26) "sums_met" "sums_met",h3 [bc "sums_met" 447,bc "sums_met" 448,hf 449,ab 165 0,ab 3 0,ab 0 0,ab 0 0,ab 3 0,al 193,g7 true,ab 181 0,al 194,cg,cg,cg,al 195,ab 450 0,ab 165 0,hf 451],f6 (ha 26) "sums_met" "sums_met" (cg) (bc "siftwall.packets" 322) (al 196)]++(c8 198 27 "pairs_of" gq 453 178 3 ["data","first","behind","out"]++((c8 205 28 "mend_at" gq 463 183 5 ["packet","before","place","stretches","is_udp","check","first","behind"]).take 6)))
def CF (P:dj):List Obj:=[f6 (ha 28) "mend_at" "mend_at" (cg) (bc "siftwall.packets" 322) (al 210)]++(c8 212 29 "set_octets" gq 477 193 4 ["packet","base","at","octets","before","begin","sums","place","stretches"]++(c8 219 31 "error_kinds" Kt 494 206 1 ["nfproto"]++([ct [],{cls:=cD "builtin_function_or_method",data:=fZ #[fE "type.__prepare__",cD "type"]},{cls:=cD "dict",data:=l1 #[cy P "__module__" 512 (bc "siftwall.tuples" 501),cy P "__qualname__" 514 (bc "Talk" 513),cy P "__firstlineno__" 516 (ab 210 515),cy P "__init__" 527 (al 239),cy P "__static_attributes__" 539 (al 240)] 5},ct [],{cls:=cg,data:=fZ #[ab 212 0,ab 4 0,al 238]},h3 [bc "Talk" 507,bc "Talk" 508,hf 509,ab 210 0,ab 0 0,ab 0 0,ab 0 0,ab 0 0,al 229,g7 false,ab 181 0,al 230,cg,cg,cg,cg,ab 510 0,ab 210 0,hf 511],{cls:=cD "frame",slots:=#[E (al 231),E (al 3),E (al 228),none,E (bc "siftwall.tuples" 501),none,E (al 0)]}]++((m1 233 (mW 34 0) "__init__" "Talk.__init__" .none h5 517 212 5 ["self","number","original","reply","zone"]).take 3))))
def CG (P:dj):List Obj:=(m1 233 (mW 34 0) "__init__" "Talk.__init__" .none h5 517 212 5 ["self","number","original","reply","zone"]).drop 3++([ct [bc "mark" 528,bc "master" 529,bc "number" 530,bc "original" 531,bc "reply" 532,bc "sides" 533,bc "since" 534,bc "state" 535,bc "status" 536,bc "until" 537,bc "zone" 538],{cls:=cD "dict",data:=l1 #[cy P "__module__" 512 (bc "siftwall.tuples" 501),cy P "__firstlineno__" 516 (ab 210 515),cy P "__init__" 527 (al 239),cy P "__static_attributes__" 539 (al 240),cy P "__dict__" 541 (al 243),cy P "__weakref__" 543 (al 244),cy P "__doc__" 544 (cg)] 4},{cls:=cD "type",data:=sN {name:=g6 "Talk",bases:=[cD "object"],mro:=[al 242,cD "object"],ns:=241,qualname:=g6 "Talk"},slots:=#[none,none,E (bc "Talk" 505),E (bc "Talk" 513),E (fE "object.__new__"),E (g7 true)]},{cls:=cD "getset_descriptor",data:=fZ #[bc "__dict__" 540,al 242,fE "function.__dict__",fE "function.__dict__#set"]},{cls:=cD "getset_descriptor",data:=fZ #[bc "__weakref__" 542,al 242,fE "ExceptionGroup.__weakref__",cg]},{cls:=cD "super",data:=fZ #[al 242,al 242,al 242]},{cls:=cD "builtin_function_or_method",data:=fZ #[fE "object.__init_subclass__",al 242]},ct [],{cls:=cD "builtin_function_or_method",data:=fZ #[fE "type.__prepare__",cD "type"]},{cls:=cD "dict",data:=l1 #[cy P "__module__" 554 (bc "siftwall.tuples" 501),cy P "__qualname__" 556 (bc "TalkBook" 555),cy P "__firstlineno__" 558 (ab 224 557),cy P "__init__" 571 (al 261),cy P "__static_attributes__" 582 (al 262)] 5},ct [],{cls:=cg,data:=fZ #[ab 226 0,ab 4 0,al 260]},h3 [bc "TalkBook" 549,bc "TalkBook" 550,hf 551,ab 224 0,ab 0 0,ab 0 0,ab 0 0,ab 0 0,al 250,g7 false,ab 181 0,al 251,cg,cg,cg,cg,ab 552 0,ab 224 0,hf 553],{cls:=cD "frame",slots:=#[E (al 252),E (al 3),E (al 249),none,E (bc "siftwall.tuples" 501),none,E (al 0)]},ct [ab 64 559,ab 0 560,ab 128 561]]++((m1 255 (mW 35 0) "__init__" "TalkBook.__init__" (al 254) h5 562 226 4 ["self","most","seed","tries"]).take 6))
def Sy (P:dj):List Obj:=[f6 (mW 35 0) "__init__" "TalkBook.__init__" (al 254) (bc "siftwall.tuples" 501) (al 260),ct [bc "expects" 572,bc "flows" 573,bc "is_loose" 574,bc "last" 575,bc "most" 576,bc "seed" 577,bc "table" 578,bc "talks" 579,bc "trackers" 580,bc "tries" 581],{cls:=cD "dict",data:=l1 #[cy P "__module__" 554 (bc "siftwall.tuples" 501),cy P "__firstlineno__" 558 (ab 224 557),cy P "__init__" 571 (al 261),cy P "__static_attributes__" 582 (al 262),cy P "__dict__" 584 (al 265),cy P "__weakref__" 586 (al 266),cy P "__doc__" 587 (cg)] 4},{cls:=cD "type",data:=sN {name:=g6 "TalkBook",bases:=[cD "object"],mro:=[al 264,cD "object"],ns:=263,qualname:=g6 "TalkBook"},slots:=#[none,none,E (bc "TalkBook" 547),E (bc "TalkBook" 555),E (fE "object.__new__"),E (g7 true)]},{cls:=cD "getset_descriptor",data:=fZ #[bc "__dict__" 583,al 264,fE "function.__dict__",fE "function.__dict__#set"]},{cls:=cD "getset_descriptor",data:=fZ #[bc "__weakref__" 585,al 264,fE "ExceptionGroup.__weakref__",cg]},{cls:=cD "super",data:=fZ #[al 264,al 264,al 264]},{cls:=cD "builtin_function_or_method",data:=fZ #[fE "object.__init_subclass__",al 264]}]++(c8 269 36 "is_icmp" h5 590 237 2 ["nfproto","protocol"]++(c8 276 37 "is_error" h5 598 239 2 ["nfproto","kind"]++((c8 283 38 "answer_kind" h5 606 241 2 ["nfproto","kind","pairs","ask","answer"]).take 3)))
def Sz (P:dj):List Obj:=(c8 283 38 "answer_kind" h5 606 241 2 ["nfproto","kind","pairs","ask","answer"]).drop 3++(c8 290 39 "ports_at" h5 617 249 4 ["octets","nfproto","protocol","off","kind","ident"]++(c8 297 40 "tuple_at" h5 629 263 4 ["octets","nfproto","protocol","off","ports","at","size","source","target"]++(c8 304 41 "tuple_of" h5 644 275 1 ["packet","nfproto"])))
def SA (P:dj):List Obj:=c8 311 42 "invert" h5 652 280 1 ["t","nfproto","protocol","source","sport","target","dport","answer"]++(c8 318 43 "side_of" h5 666 288 2 ["talk","direction"]++([ct [],kB,jp (ha 44) "drop_talk" "drop_talk",h3 [bc "drop_talk" 674,bc "drop_talk" 675,hf 676,ab 290 0,ab 2 0,ab 0 0,ab 0 0,ab 3 0,al 325,g7 true,ab 181 0,al 326,cg,cg,cg,al 327,ab 677 0,ab 290 0,hf 678],f6 (ha 44) "drop_talk" "drop_talk" (cg) (bc "siftwall.tuples" 501) (al 328)]++((c8 330 46 "is_error_packet" Ku 682 303 1 ["packet","nfproto"]).take 6)))
def SD (P:dj):List Obj:=[f6 (ha 46) "is_error_packet" "is_error_packet" (cg) (bc "siftwall.relate" 680) (al 335)]++(c8 337 48 "put_there" kE 692 309 4 ["packet","base","at","octets","old"]++(c8 344 49 "port_place" kE 703 313 2 ["packet","manip","nfproto","kind"]++(c8 351 50 "rewrite" kE 713 321 3 ["packet","t","manip","nfproto","protocol","source","sport","target","dport","at","size","place","address","port"]++((c8 358 51 "bit_for" kE 733 336 2 ["manip","direction","is_source"]).take 3))))
def SE (P:dj):List Obj:=(c8 358 51 "bit_for" kE 733 336 2 ["manip","direction","is_source"]).drop 3++(c8 365 52 "inner_rewritten" kE 742 341 3 ["octets","t","manip","packet"]++(c8 372 53 "rewrite_inner" kE 752 345 3 ["packet","t","manip","octets"]++(c8 379 54 "translate" kE 762 349 2 ["scene","manip","talk","side","t"])))
def SF (P:dj):List Obj:=c8 386 61 "ttl_place" il 785 365 1 ["packet","nfproto"]++(c8 393 62 "ttl_of" il 793 370 1 ["packet","place","octets"]++(c8 400 63 "drop_ttl" il 802 376 1 ["packet","ttl"]++((c8 407 64 "flags_of" il 810 382 1 ["packet","octets"]).take 4)))
def SG (P:dj):List Obj:=(c8 407 64 "flags_of" il 810 382 1 ["packet","octets"]).drop 4++(c8 414 65 "may_flow" il 818 385 2 ["packet","talk","flags","is_open"]++(c8 421 66 "has_flow" il 828 393 2 ["book","talk","key"]++(c8 428 67 "flow_request" il 837 398 2 ["scene","name","talk","book","first","second","side"]++([ct []]))))
def SH (P:dj):List Obj:=[kB,jp (ha 68) "end_flow" "end_flow",h3 [bc "end_flow" 850,bc "end_flow" 851,hf 852,ab 412 0,ab 2 0,ab 0 0,ab 0 0,ab 3 0,al 435,g7 true,ab 181 0,al 436,cg,cg,cg,al 437,ab 853 0,ab 412 0,hf 854],f6 (ha 68) "end_flow" "end_flow" (cg) (bc "siftwall.fastroad" 773) (al 438)]++(c8 440 69 "is_plain" il 856 416 1 ["packet","pieces"]++(c8 447 70 "may_pass" il 864 421 3 ["book","packet","number","flags"]++(c8 454 71 "try_fast" il 874 432 1 ["scene","packet","book","t","flow","number","direction","oif","talk","goal","manip"])))
def SI (P:dj):List Obj:=[ct [],{cls:=cD "builtin_function_or_method",data:=fZ #[fE "type.__prepare__",cD "type"]},{cls:=cD "dict",data:=l1 #[cy P "__module__" 900 (bc "siftwall.walk" 891),cy P "__qualname__" 902 (bc "Scene" 901),cy P "__firstlineno__" 904 (ab 450 903),cy P "__init__" 917 (al 475),cy P "__static_attributes__" 937 (al 476)] 5},ct [],{cls:=cg,data:=fZ #[ab 452 0,ab 4 0,al 474]},h3 [bc "Scene" 895,bc "Scene" 896,hf 897,ab 450 0,ab 0 0,ab 0 0,ab 0 0,ab 0 0,al 464,g7 false,ab 181 0,al 465,cg,cg,cg,cg,ab 898 0,ab 450 0,hf 899],{cls:=cD "frame",slots:=#[E (al 466),E (al 3),E (al 463),none,E (bc "siftwall.walk" 891),none,E (al 0)]},ct [ab 0 905,bc "input" 906]]++(m1 469 (mW 73 0) "__init__" "Scene.__init__" (al 468) Ks 907 452 5 ["self","packet","fields","now","hook"]++([ct [bc "doers" 918,bc "fields" 919,bc "homes" 920,bc "hook" 921,bc "is_reply" 922,bc "log" 923,bc "now" 924,bc "objects" 925,bc "ops" 926,bc "order" 927,bc "packet" 928,bc "readers" 929,bc "replies" 930,bc "sets" 931,bc "state" 932,bc "steps" 933,bc "talk" 934,bc "talks" 935,bc "tools" 936],{cls:=cD "dict",data:=l1 #[cy P "__module__" 900 (bc "siftwall.walk" 891),cy P "__firstlineno__" 904 (ab 450 903),cy P "__init__" 917 (al 475),cy P "__static_attributes__" 937 (al 476),cy P "__dict__" 939 (al 479),cy P "__weakref__" 941 (al 480),cy P "__doc__" 942 (cg)] 4},{cls:=cD "type",data:=sN {name:=g6 "Scene",bases:=[cD "object"],mro:=[al 478,cD "object"],ns:=477,qualname:=g6 "Scene"},slots:=#[none,none,E (bc "Scene" 893),E (bc "Scene" 901),E (fE "object.__new__"),E (g7 true)]},{cls:=cD "getset_descriptor",data:=fZ #[bc "__dict__" 938,al 478,fE "function.__dict__",fE "function.__dict__#set"]},{cls:=cD "getset_descriptor",data:=fZ #[bc "__weakref__" 940,al 478,fE "ExceptionGroup.__weakref__",cg]},{cls:=cD "super",data:=fZ #[al 478,al 478,al 478]},{cls:=cD "builtin_function_or_method",data:=fZ #[fE "object.__init_subclass__",al 478]}]++((c8 483 75 "_law_draw" e9 947 473 2 ["script","k","usual"]).take 3)))
def SJ (P:dj):List Obj:=(c8 483 75 "_law_draw" e9 947 473 2 ["script","k","usual"]).drop 3++(c8 490 76 "_law_digits" e9 956 478 2 ["n","bases","out","base"]++([ct [],kB,jp (ha 77) "_law_split" "_law_split",h3 [bc "_law_split" 966,bc "_law_split" 967,hf 968,ab 484 0,ab 2 0,ab 0 0,ab 0 0,ab 3 0,al 497,g7 true,ab 181 0,al 498,cg,cg,cg,al 499,ab 969 0,ab 484 0,hf 970],f6 (ha 77) "_law_split" "_law_split" (cg) (bc "law_pq1102_01" 945) (al 500)]++(c8 502 78 "_law_words" e9 972 486 1 ["octets"]++([ct [],kB]))))
def SM (P:dj):List Obj:=(c8 509 79 "_law_host" e9 979 488 2 ["nfproto","k"]).drop 2++([ct [],kB,jp (ha 80) "_law_setup" "_law_setup",h3 [bc "_law_setup" 987,bc "_law_setup" 988,hf 989,ab 492 0,ab 1 0,ab 0 0,ab 0 0,ab 3 0,al 516,g7 true,ab 181 0,al 517,cg,cg,cg,al 518,ab 990 0,ab 492 0,hf 991],f6 (ha 80) "_law_setup" "_law_setup" (cg) (bc "law_pq1102_01" 945) (al 519)]++(c8 521 81 "_law_tuple" e9 993 505 2 ["setup","pair"]++(c8 528 82 "_law_transport" e9 1001 507 3 ["setup","pair","shape","size","head","place","total","check"]++([ct []]))))
def SN (P:dj):List Obj:=(c8 535 83 "_law_whole" e9 1015 523 5 ["setup","pair","ttl","shape","inside","protocol","heads","out","options"]).drop 1++(c8 542 84 "_law_event" e9 1030 534 2 ["setup","draws","which","way","ttl","iif","port","flags","is_long","word","data","bare","cut","step","row","source","target"]++(c8 549 85 "_law_moved" e9 1053 549 2 ["setup","row","source","target","goal","is_source","is_target"]++((c8 556 86 "_law_packets" e9 1066 558 2 ["setup","row","shape","moved","inside","is_later","after","ttl"]).take 5)))
def SO (P:dj):List Obj:=[h3 [bc "_law_packets" 1066,bc "_law_packets" 1067,hf 1068,ab 558 0,ab 2 0,ab 0 0,ab 0 0,ab 3 0,al 556,g7 true,ab 181 0,al 557,cg,al 558,al 559,al 560,ab 1077 0,ab 558 0,hf 1078],f6 (ha 86) "_law_packets" "_law_packets" (cg) (bc "law_pq1102_01" 945) (al 561)]++(c8 563 87 "_law_due" e9 1080 566 4 ["setup","world","row","is_later","shape","which"]++(c8 570 88 "_law_flows" e9 1092 584 2 ["setup","world","out","which","way"]++(c8 577 89 "_law_book" e9 1103 591 1 ["setup","book","which","talk"]++([ct [],kB]))))
def SP (P:dj):List Obj:=(c8 584 90 "_law_ask" e9 1113 602 5 ["setup","book","which","way","cause","shape","pair","octets","scene","status","told"]).drop 2++(c8 591 91 "_law_are_asked" e9 1130 620 2 ["setup","book","cause","way","is_vain"]++(c8 598 92 "_law_fast" e9 1141 631 5 ["setup","book","row","now","octets","packet","scene","oif"]++((c8 605 93 "_law_slow" e9 1155 638 5 ["setup","book","row","now","octets","packet","scene","told"]).take 6)))
def SQ (P:dj):List Obj:=[f6 (ha 93) "_law_slow" "_law_slow" (cg) (bc "law_pq1102_01" 945) (al 610),ct [],kB,jp (ha 94) "law" "law",h3 [bc "law" 1169,bc "law" 1170,hf 1171,ab 647 0,ab 1 0,ab 0 0,ab 0 0,ab 3 0,al 612,g7 true,ab 181 0,al 613,cg,cg,cg,al 614,ab 1172 0,ab 647 0,hf 1173],f6 (ha 94) "law" "law" (cg) (bc "law_pq1102_01" 945) (al 615)]
noncomputable def Sp (P:dj):List Obj:=[boot_o_0 P,boot_o_1 P,boot_o_2 P,boot_o_3 P,boot_o_4 P,boot_o_5 P,boot_o_6 P,boot_o_7 P,boot_o_8 P,boot_o_9 P,boot_o_10 P]
def S7 (P:dj):List (List Obj):=[vy P,dE P,dX P,gp P,iU P,lm P,rj P,CE P,CF P,CG P,Sy P,Sz P,SA P,SD P,SE P,SF P,SG P,SH P,SI P,SJ P,SM P,SN P,SO P,SP P,SQ P]
def eC (P:dj):Obj:={cls:=cg,data:=l1 #[cy P "type.__subclasses__.Exception.0" 215 (ab 31 0),cy P "type.__subclasses__.Exception.n" 216 (ab 1 0)] 2}
def wB (s:List aj):Obj:={cls:=cD "type",data:=sN {name:=g6 "WallFault",bases:=[cD "Exception"],mro:=[al 31,cD "Exception",cD "BaseException",cD "object"],ns:=30,qualname:=g6 "WallFault",subclasses:=s},slots:=#[E (al 15),none,E (bc "WallFault" 189),E (bc "WallFault" 197),E (fE "Exception.__new__"),E (g7 true)]}
def At (P:dj)(i:Nat):Obj:=match dT i 11 with
 |true=>(Sp P).getD i kB
 |false=>((S7 P).getD ((i-11)/25) []).getD ((i-11)% 25) kB
def abr (P:dj)(jb lX xA xB:Obj)(i:Nat):Obj:=match c1 i 3 with
 |true=>lX
 |false=>match c1 i 12 with
  |true=>xA
  |false=>match c1 i 31 with
   |true=>xB
   |false=>match c1 i 2 with
    |true=>jb
    |false=>At P i
noncomputable def l9 (f:Nat→Obj)(n:Nat):Nat→Nat→Nat→BT
 |0,_,_=>.nil
 |k+1,a,b=>match dT b n with
  |true=>.node (f b) (l9 f n k (2*a) (a+b)) (l9 f n k (2*a) (2*a+b))
  |false=>.nil
def Dn (f:Nat→Obj)(jb lX xA xB:Obj)(n:Nat):BT:=
 .node (f 0)
  (.node (f 1) (.node lX (.node (f 7) (match dT 31 n with
   |true=>.node (f 15) (.node xB (l9 f n 6 64 63) (l9 f n 6 64 95)) (l9 f n 7 32 47)
   |false=>.nil) (l9 f n 8 16 23)) (l9 f n 9 8 11)) (l9 f n 10 4 5))
  (.node jb (.node (f 4) (l9 f n 9 8 8) (.node xA (l9 f n 8 16 20) (l9 f n 8 16 28))) (l9 f n 10 4 6))
def Fg (P:dj)(jb lX xA xB:Obj)(n t:Nat)(os:lh):SharedT:=⟨Dn (At P) jb lX xA xB n,n,{},#[],{},t,os⟩
def s0 (P:dj)(os:lh):SharedT:=Fg P (boot_o_2 P) (boot_o_3 P) (rm 0) kB 15 187 os
def Oz (P:dj)(os:lh):SharedT:=Fg P (eC P) (ma P (bc "siftwall.tuples" 501) 41) (rm 96) (wB [al 44]) 297 629 os
def AI (P:dj)(os:lh):SharedT:=Fg P (eC P) (ma P (bc "law_pq1102_01" 945) 91) (rm 231) (wB [al 44]) 617 1175 os
def bd:List iQ:=behindTheImports eP
def vI:Env:={scope:=eP.main.scope,locals:=mainNs,globals:=mainNs,cells:=[],code:=.ref 13,frame:=E 14}
def oY:l0:=.body bd vI
noncomputable def dh:Pos:=⟨0,0,0,0⟩
def dk (i j:Nat):List iQ:=(bd.drop i).take j
theorem aca (w:fk)(os:lh):segRunT treeTable eP w 11 (E (.ref 6)) 1 2066 (s0 w.params os) (piecesOf (dk 0 40) vI oY dh [topFrame dh])=E (.next,Oz w.params os,oY,⟨249,0,262,48⟩):=by kernel_rfl
theorem acb (w:fk)(os:lh):segRunT treeTable eP w 11 (E (.ref 6)) 1 1769 (Oz w.params os) (piecesOf (dk 40 55) vI oY ⟨249,0,262,48⟩ [topFrame dh])=E (.next,AI w.params os,oY,⟨647,0,665,93⟩):=by kernel_rfl
theorem acp (w:fk)(os:lh):topGo treeTable eP w 11 (E (.ref 6)) 12 ⟨q8 w.params,#[],boot_drawn,boot_toks,os⟩ (topStub eP)=E ((s0 w.params os).abs,⟨denote treeTable oY,oY,dh,[topFrame dh]⟩):=by kernel_rfl
theorem So (w:fk)(os:lh):segRun treeTable eP w 11 (E (.ref 6)) 1 1 (s0 w.params os).abs (blockOf bd vI oY dh [topFrame dh])=E (.next,(s0 w.params os).abs,oY,dh):=by kernel_rfl
theorem V6 (w:fk)(os:lh):topRun treeTable eP w 11 (E (.ref 6)) 2 (AI w.params os).abs (restOf [] vI oY ⟨647,0,665,93⟩ [topFrame dh])=E (AI w.params os).abs:=by kernel_rfl
theorem R9:bd=dk 0 40++(dk 40 55++[]):=by kernel_rfl
theorem adf (w:fk)(os:lh):topRun treeTable eP w 11 (E (.ref 6)) (12+(1+(2066+(1769+2)))) ⟨q8 w.params,#[],boot_drawn,boot_toks,os⟩ (topStub eP)=E (AI w.params os).abs:=by refine go_top (acp w os) (piece_block (So w os) ?_);rw[R9];refine piece_app (segRun_of (aca w os)) ?_;refine piece_app (segRun_of (acb w os)) ?_;exact V6 w os
theorem dq {a0:Sort u}{p:a0→Prop}(h:∃a,p a)(k:∀a,p a→G):G:=h.elim k
theorem dD {a0:Sort u}{eh:Sort v}{p:a0→eh→Prop}(h:∃a b,p a b)(k:∀a b,p a b→G):G:=h.elim fun a h=>h.elim (k a)
theorem md {a0:Sort u}{eh:Sort v}{sD:Sort w}{p:a0→eh→sD→Prop}(h:∃a b c,p a b c)(k:∀a b c,p a b c→G):G:=h.elim fun a h=>dD h (k a)
theorem ls {a0:Sort u}{eh:Sort v}{sD:Sort w}{xG:Sort x}{p:a0→eh→sD→xG→Prop}(h:∃a b c d,p a b c d)(k:∀a b c d,p a b c d→G):G:=h.elim fun a h=>md h (k a)
theorem Ua {a0:Sort u}{eh:Sort v}{sD:Sort w}{xG:Sort x}{ag8:Sort y}{p:a0→eh→sD→xG→ag8→Prop}(h:∃a b c d e,p a b c d e)(k:∀a b c d e,p a b c d e→G):G:=h.elim fun a h=>ls h (k a)
theorem b8 {A B:Prop}(h:A∧B)(k:A→B→G):G:=k h.1 h.2
theorem hJ {A B C:Prop}(h:A∧B∧C)(k:A→B→C→G):G:=b8 h.2 (k h.1)
theorem kR {A B C bR:Prop}(h:A∧B∧C∧bR)(k:A→B→C→bR→G):G:=hJ h.2 (k h.1)
theorem yB {A B C bR b2:Prop}(h:A∧B∧C∧bR∧b2)(k:A→B→C→bR→b2→G):G:=kR h.2 (k h.1)
theorem yC {A B C bR b2 bg:Prop}(h:A∧B∧C∧bR∧b2∧bg)(k:A→B→C→bR→b2→bg→G):G:=yB h.2 (k h.1)
theorem c5 {a0:Type u}{x:a0}(h:none=E x):G:=nomatch h
theorem py {a0:Type u}{x:a0}(h:E x=none):G:=nomatch h
theorem dZ (h:false=true):G:=nomatch h
theorem j9 (h:true=false):G:=nomatch h
theorem cF {a0:Type u}{x y:a0}(h:E x=E y):x=y:=fe h
theorem dC {a0:Type u}{eh:Type v}{o:Option a0}{f:a0→Option eh}{y:eh}(h:o.bind f=E y)(k:∀a,o=E a→f a=E y→G):G:=by
 cases o with
 |none=>cases h
 |some a=>exact k a rfl h
@[elab_as_elim] theorem eB {a0:Type u}{eh:Type v}{o:Option a0}{f:a0→eh}{aA:eh→Prop}{y:eh}(h:o.map f=E y)(k:∀a,o=E a→aA (f a)):aA y:=by
 cases o with
 |none=>cases h
 |some a=>cases h;exact k a rfl
theorem l8 {a:Bool}(h:(a&&b)=true):a=true∧b=true:=gD.mp h
theorem b5 {a:Bool}(h:(a&&b)=true)(k:a=true→b=true→G):G:=k (l8 h).1 (l8 h).2
noncomputable def pV {a0:Type}(f:Bool→a0):a0×a0:=(f true,f false)
def Cc {a0:Type}(f:Bool→Bool→a0):=pV fun a=>pV (f a)
def P3 {a0:Type}(f:Bool→Bool→Bool→a0):=pV fun a=>Cc (f a)
def Cd {a0:Type}(f:Bool→Bool→Bool→Bool→a0):=pV fun a=>P3 (f a)
def Ce {a0:Type}(f:Bool→Bool→Bool→Bool→Bool→a0):=pV fun a=>Cd (f a)
def Ig {a0:Type}(f:Bool→Bool→Bool→Bool→Bool→Bool→a0):=pV fun a=>Ce (f a)
theorem all1 {a0:Type}{f g:Bool→a0}(h:pV f=pV g):∀b,f b=g b:=fun b=>match b with
 |true=>congrArg oJ h
 |false=>congrArg uY h
theorem all2 {a0:Type}{f g:Bool→Bool→a0}(h:Cc f=Cc g):∀a b,f a b=g a b:=fun a=>all1 (all1 h a)
theorem oU {a0:Type}{f g:Bool→Bool→Bool→a0}(h:P3 f=P3 g):∀a b c,f a b c=g a b c:=fun a=>all2 (all1 h a)
theorem l7 {a0:Type}{f g:Bool→Bool→Bool→Bool→a0}(h:Cd f=Cd g):∀a b c d,f a b c d=g a b c d:=fun a=>oU (all1 h a)
theorem jG {a0:Type}{f g:Bool→Bool→Bool→Bool→Bool→a0}(h:Ce f=Ce g):∀a b c d e,f a b c d e=g a b c d e:=fun a=>l7 (all1 h a)
theorem Ix {a0:Type}{f g:Bool→Bool→Bool→Bool→Bool→Bool→a0}(h:Ig f=Ig g):∀a b c d e i,f a b c d e i=g a b c d e i:=fun a=>jG (all1 h a)
theorem aho {p:Bool→Prop}(h:p true)(k:p false):∀b,p b:=fun b=>match b with
 |true=>h
 |false=>k
theorem MO {a0 eh:Type}{f g:a0→eh}(n:Nat){l:List a0}(h:(l.take n).map f=(l.take n).map g)(k:(l.drop n).map f=(l.drop n).map g):l.map f=l.map g:=by rw[←List.take_append_drop n l,List.map_append,List.map_append,h,k]
theorem dr {a0:Sort u}{p q:a0→Prop}(h:∃a,p a∧q a)(k:∀a,p a→q a→G):G:=h.elim fun a g=>b8 g (k a)
theorem gz {a0:Sort u}{p q r:a0→Prop}(h:∃a,p a∧q a∧r a)(k:∀a,p a→q a→r a→G):G:=h.elim fun a g=>hJ g (k a)
theorem xC {a0:Sort u}{p q r s:a0→Prop}(h:∃a,p a∧q a∧r a∧s a)(k:∀a,p a→q a→r a→s a→G):G:=h.elim fun a g=>kR g (k a)
theorem mG {a0:Sort u}{eh:Sort v}{p q:a0→eh→Prop}(h:∃a b,p a b∧q a b)(k:∀a b,p a b→q a b→G):G:=dD h fun a b g=>b8 g (k a b)
theorem oA {a0:Sort u}{eh:Sort v}{p q r:a0→eh→Prop}(h:∃a b,p a b∧q a b∧r a b)(k:∀a b,p a b→q a b→r a b→G):G:=dD h fun a b g=>hJ g (k a b)
theorem nv {a0:Sort u}{eh:Sort v}{p q r s:a0→eh→Prop}(h:∃a b,p a b∧q a b∧r a b∧s a b)(k:∀a b,p a b→q a b→r a b→s a b→G):G:=dD h fun a b g=>kR g (k a b)
theorem uO {a0:Sort u}{eh:Sort v}{sD:Sort w}{xG:Sort x}{p q:a0→eh→sD→xG→Prop}(h:∃a b c d,p a b c d∧q a b c d)(k:∀a b c d,p a b c d→q a b c d→G):G:=ls h fun a b c d g=>b8 g (k a b c d)
theorem yD (h:∀aA:Prop,(G→aA)→aA):G:=h G id
noncomputable def a7 (x:Str):Nat:=x.cps.toList.foldr (fun c n=>c+1+129*n) 0
noncomputable def f3 (x:Str):Bool:=x.cps.toList.all fun c=>dT c 128
theorem Nr {c:Nat}(h:0=c+1+129*n):False:=by rw[Nat.add_right_comm] at h;exact Nat.succ_ne_zero _ h.symm
theorem code_inj {a b:Nat}(aC:a<128)(az:b<128)(h:a+1+129*n=b+1+129*m):a=b∧n=m:=by have e:=congrArg (· % 129) h;rw[Qt,Qt,GQ (GU aC),GQ (GU az)] at e;rw[show a=b from lZ e] at h;exact⟨lZ e,Nat.eq_of_mul_eq_mul_left (by decide) (Nat.add_left_cancel h)⟩
theorem Wp (a:List Nat):∀{b:List Nat},a.all (fun c=>dT c 128)=true→b.all (fun c=>dT c 128)=true→
 a.foldr (fun c n=>c+1+129*n) 0=b.foldr (fun c n=>c+1+129*n) 0→a=b:=by
 induction a with
 |nil=>
  intro b _ _ h
  induction b using List.casesOn with
  |nil=>rfl
  |cons c r=>exact(Nr h).elim
 |cons a r aF=>
  intro b aC az h
  induction b using List.casesOn with
  |nil=>exact(Nr h.symm).elim
  |cons b t=>refine b5 aC fun a1 a2=>b5 az fun eO fT=>?_;refine b8 (code_inj (d5 a1) (d5 eO) h) fun e aJ=>?_;rw[e,aF a2 fT aJ]
theorem Ff {x y:Str}(aR:f3 x=true)(cu:f3 y=true)(h:a7 x=a7 y):x=y:=by obtain⟨⟨a⟩⟩:=x;obtain⟨⟨b⟩⟩:=y;have:a=b:=Wp _ aR cu h;rw[this]
inductive V where
 |none|bool (b:Bool)|int (i:Int)|str (k:Nat)|bytes (b:List Int)
 |tup (vs:List V)|ref (l:Nat)|aQ
variable {v k key v5 v6 v7 v8 v9 v10:V}{vs loc ce aD b7 bw ba bL bS lr:List V}{es:List (V×V)}{go:V→Prop}
inductive an where
 |list (vs:List V)|ints (xs:List Int)|dict (es:List (V×V)) (n:Nat)|inst (d:Nat)|cB (b:List Int)|d6 (xs:List Int)
variable {H bp:List an}
noncomputable def d1 (a:Array UInt8):List Int:=a.toList.map fun u=>(u.toNat:Int)
noncomputable abbrev gO (xs:List aj)(n:Nat):Obj:={cls:=.type "tuple",data:=.seq xs.toArray n}
noncomputable abbrev e6 (a:Array UInt8):Obj:={cls:=.type "bytearray",data:=.bytearray a 0}
mutual
inductive aN (ρ:List bj)(h:fR):V→aj→Prop
 |none:aN ρ h .none .none
 |bool (b:Bool):aN ρ h (.bool b) (.bool b)
 |int (i:Int) (t:Tok):aN ρ h (.int i) (.int i t)
 |str (x:Str) (t:Tok):f3 x=true→aN ρ h (.str (a7 x)) (.str x t)
 |bytes (a:Array UInt8) (t:Tok):a.size≤1000000→aN ρ h (.bytes (d1 a)) (.bytes a t)
 |tup {vs:List V} {xs:List aj} {a:bj} {n:Nat}:h.get? a=E (gO xs n)→bK ρ h vs xs→aN ρ h (.tup vs) (.ref a)
 |ref {l:Nat} {a:bj}:ρ[l]? =E a→aN ρ h (.ref l) (.ref a)
inductive bK (ρ:List bj)(h:fR):List V→List aj→Prop
 |nil:bK ρ h [] []
 |cons {v:V} {x:aj} {vs:List V} {xs:List aj}:aN ρ h v x→bK ρ h vs xs→bK ρ h (v::vs) (x::xs)
end
def tm (c:Nat):Str:=open Classical in if h:∃x:Str,f3 x=true∧a7 x=c then h.choose else⟨#[]⟩
theorem Jf {x:Str}(aR:f3 x=true):tm (a7 x)=x:=by have h:∃y:Str,f3 y=true∧a7 y=a7 x:=⟨x,aR,rfl⟩;unfold tm;rw[dif_pos h];exact Ff h.choose_spec.1 aR h.choose_spec.2
noncomputable def bU:Nat→V→Bool
 |_,.int _=>true
 |_,.str _=>true
 |n+1,.tup vs=>vs.all (bU n)
 |_,_=>false
noncomputable def iI (f:V→V→Bool):List V→List V→Bool
 | [],[]=>true
 |a::r,b::t=>f a b&&iI f r t
 |_,_=>false
def bn:Nat→V→V→Bool
 |_,.int x,.int y=>decide (x=y)
 |_,.str x,.str y=>c1 x y
 |n+1,.tup x,.tup y=>iI (bn n) x y
 |_,_,_=>false
def h6 (P:dj):Nat→V→Int
 |_,.int i=>hashInt i
 |_,.str c=>if(tm c).cps.isEmpty=true then 0 else reduceHash (P.strHash (tm c).cps)
 |n+1,.tup vs=>reduceHash (Builtin.Tuple.tupleHashOf (vs.map (h6 P n)))
 |_,_=>0
def eE (es:List (V×V)):Prop:=es.Pairwise fun a b=>bn 4 a.1 b.1=false
inductive dc (P:dj)(ρ:List bj)(h:fR):List (V×V)→List c3→Prop
 |nil:dc P ρ h [] []
 |cons {k v:V} {e:c3} {es:List (V×V)} {xs:List c3}:aN ρ h k e.key→aN ρ h v e.val→e.hash=h6 P 4 k→dc P ρ h es xs→dc P ρ h ((k,v)::es) (e::xs)
noncomputable def oZ (C:bj):Bool:=[131,242,264,478].contains C
noncomputable def canon:Nat→List Int→List aj
 |_,[]=>[]
 |t,i::r=>.int i t::canon (t+1) r
inductive eF (P:dj)(ρ:List bj)(h:fR):an→Obj→Prop
 |list {vs:List V} {xs:List aj} {n:Nat}:bK ρ h vs xs→eF P ρ h (.list vs) (listOf xs.toArray n)
 |ints {is:List Int} {xs:List aj} {n:Nat}:IntsAre xs is→eF P ρ h (.ints is) (listOf xs.toArray n)
 |dict {es:List (V×V)} {xs:List c3} {n:Nat}:dc P ρ h es xs→(∀e∈es,bU 4 e.1=true)→eE es→eF P ρ h (.dict es n) (dictOf xs n)
 |inst {C:bj} {d:Nat} {a:bj}:oZ C=true→ρ[d]? =E a→eF P ρ h (.inst d) (instObj C a)
 |cB (a:Array UInt8):a.size≤1000000→eF P ρ h (.cB (d1 a)) (e6 a)
 |d6 (is:List Int):eF P ρ h (.d6 is) (listOf (canon 1175 is).toArray 0)
structure bz (P:dj)(ρ:List bj)(H:List an)(h:fR):Prop where
 len:ρ.length=H.length
 eX:ρ.Nodup
 at_:∀(i:Nat) (o:an) (a:bj),H[i]? =E o→ρ[i]? =E a→∃ob,h.get? a=E ob∧eF P ρ h o ob
def yA (ρ:List bj)(h:fR)(v:V)(x:aj):Prop:=match v with
 |.none=>x=.none
 |.bool b=>x=.bool b
 |.int i=>∃t,x=.int i t
 |.str k=>∃y t,x=.str y t∧f3 y=true∧a7 y=k
 |.bytes b=>∃y t,x=.bytes y t∧y.size≤1000000∧d1 y=b
 |.tup vs=>∃a xs n,x=.ref a∧h.get? a=E (gO xs n)∧bK ρ h vs xs
 |.ref l=>∃a,x=.ref a∧ρ[l]? =E a
 |.aQ=>False
theorem aN.inv {x:aj}(r:aN ρ h v x):yA ρ h v x:=
 aN.casesOn (motive_1:=fun v x _=>yA ρ h v x) r rfl (fun _=>rfl) (fun _ t=>⟨t,rfl⟩) (fun y t e=>⟨y,t,rfl,e,rfl⟩) (fun y t e=>⟨y,t,rfl,e,rfl⟩) (fun e r=>⟨_,_,_,rfl,e,r⟩) (fun e=>⟨_,rfl,e⟩)
section
variable {x:aj}{aA:aj→Prop}
theorem aN.int_inv {i:Int}(r:aN ρ h (.int i) x):∃t,x=.int i t:=r.inv
theorem aN.acD {l:Nat}(r:aN ρ h (.ref l) x):∃a,x=.ref a∧ρ[l]? =E a:=r.inv
theorem aN.str_inv {k:Nat}(r:aN ρ h (.str k) x):∃y t,x=.str y t∧f3 y=true∧a7 y=k:=r.inv
theorem aN.CC {k:List Int}(r:aN ρ h (.bytes k) x):∃y t,x=.bytes y t∧y.size≤1000000∧d1 y=k:=r.inv
theorem aN.PO {k:List V}(r:aN ρ h (.tup k) x):∃a xs n,x=.ref a∧h.get? a=E (gO xs n)∧bK ρ h k xs:=r.inv
@[elab_as_elim] theorem aN.t6 (r:aN ρ h .none x)(f:aA .none):aA x:=xL (show x=_ from r.inv)▸f
@[elab_as_elim] theorem aN.IU (r:aN ρ h (.bool b) x)(f:aA (.bool b)):aA x:=xL (show x=_ from r.inv)▸f
@[elab_as_elim] theorem aN.fh {i:Int}(r:aN ρ h (.int i) x)(f:∀t,aA (.int i t)):aA x:=r.int_inv.elim fun t e=>e▸f t
@[elab_as_elim] theorem aN.hl {l:Nat}(r:aN ρ h (.ref l) x)(f:∀a,ρ[l]? =E a→aA (.ref a)):aA x:=r.acD.elim fun a e=>e.1▸f a e.2
@[elab_as_elim] theorem aN.gN {k:List V}(r:aN ρ h (.tup k) x)(f:∀a xs n,h.get? a=E (gO xs n)→bK ρ h k xs→aA (.ref a)):aA x:=md r.PO fun a xs n e=>e.1▸f a xs n e.2.1 e.2.2
@[elab_as_elim] theorem aN.ow {k:Nat}{aA:Nat→aj→Prop}(r:aN ρ h (.str k) x)(f:∀y t,f3 y=true→aA (a7 y) (.str y t)):aA k x:=dD r.str_inv fun y t e=>e.2.2▸e.1▸f y t e.2.1
@[elab_as_elim] theorem aN.oX {k:List Int}{aA:List Int→aj→Prop}(r:aN ρ h (.bytes k) x)(f:∀y t,y.size≤1000000→aA (d1 y) (.bytes y t)):aA k x:=dD r.CC fun y t e=>e.2.2▸e.1▸f y t e.2.1
end
def It (ρ:List bj)(h:fR)(vs:List V)(xs:List aj):Prop:=match vs with
 | []=>xs=[]
 |v::vs=>∃y ys,xs=y::ys∧aN ρ h v y∧bK ρ h vs ys
theorem bK.inv (r:bK ρ h vs xs):It ρ h vs xs:=
 bK.casesOn (motive_2:=fun vs xs _=>It ρ h vs xs) r rfl fun a b=>⟨_,_,rfl,a,b⟩
@[elab_as_elim] theorem bK.iK {aA:List aj→Prop}(r:bK ρ h [] xs)(f:aA []):aA xs:=xL (show xs=_ from r.inv)▸f
@[elab_as_elim] theorem bK.gS {aA:List aj→Prop}(r:bK ρ h (v::vs) xs)(f:∀y ys,aN ρ h v y→bK ρ h vs ys→aA (y::ys)):aA xs:=
 dD (show∃y ys,xs=y::ys∧aN ρ h v y∧bK ρ h vs ys from r.inv) fun y ys e=>e.1▸f y ys e.2.1 e.2.2
def Ic (P:dj)(ρ:List bj)(h:fR)(o:an)(ob:Obj):Prop:=match o with
 |.list vs=>∃xs n,ob=listOf xs.toArray n∧bK ρ h vs xs
 |.ints is=>∃xs n,ob=listOf xs.toArray n∧IntsAre xs is
 |.dict es n=>∃xs,ob=dictOf xs n∧dc P ρ h es xs∧(∀e∈es,bU 4 e.1=true)∧eE es
 |.inst d=>∃C a,ob=instObj C a∧ρ[d]? =E a∧oZ C=true
 |.cB b=>∃a,ob=e6 a∧a.size≤1000000∧d1 a=b
 |.d6 is=>ob=listOf (canon 1175 is).toArray 0
theorem eF.inv {o:an}(r:eF P ρ h o ob):Ic P ρ h o ob:=
 eF.casesOn (motive:=fun o ob _=>Ic P ρ h o ob) r (fun r=>⟨_,_,rfl,r⟩) (fun r=>⟨_,_,rfl,r⟩) (fun a b c=>⟨_,rfl,a,b,c⟩) (fun a b=>⟨_,_,rfl,b,a⟩) (fun a e=>⟨a,rfl,e,rfl⟩) (fun _=>rfl)
structure eK (ρ aV:List bj)(h h':fR):Prop where
 new:∃n,aV=ρ++n∧∀a∈n,h.get? a=none
 keep:∀a o,h.get? a=E o→a∉ρ→(∃xs n,o=gO xs n)→h'.get? a=E o
def rf (ρ:List bj)(h:fR):Prop:=∀a∈ρ,∀xs n,h.get? a≠E (gO xs n)
theorem eF.dg {o:an}(r:eF P ρ h o ob):ob.cls≠.type "tuple":=
 eF.casesOn (motive:=fun _ ob _=>ob.cls≠.type "tuple") r (fun _ q=>by simp at q) (fun _ q=>by simp at q) (fun _ _ _ q=>by simp at q) (fun _ _ q=>by simp at q) (fun _ _ q=>by simp at q) (fun _ q=>by simp at q)
theorem rZ {a0:Type}{l:List a0}(h:l.Nodup){i:Nat}{a:a0}(hi:l[i]? =E a)(co:l[j]? =E a):i=j:=by
 obtain⟨li,j4⟩:=List.getElem?_eq_some_iff.mp hi;obtain⟨wJ,ix⟩:=List.getElem?_eq_some_iff.mp co;have q:=List.pairwise_iff_getElem.mp h;rcases GN i j with c|c|c
 .exact absurd (j4.trans ix.symm) (q i j li wJ c)
 .exact c
 .exact absurd (ix.trans j4.symm) (q j i wJ li c)
theorem get_append {n:List bj}{l:Nat}(h:ρ[l]? =E a):(ρ++n)[l]? =E a:=by rw[List.getElem?_append_left (List.getElem?_eq_some_iff.mp h).1];exact h
theorem bz.dg (x:bz P ρ H h):rf ρ h:=by intro a aC xs n e;obtain⟨i,hi,rfl⟩:=List.getElem_of_mem aC;have ar:i<H.length:=x.len▸hi;obtain⟨ob,R,Z⟩:=x.at_ i H[i] ρ[i] (List.getElem?_eq_getElem ar) (List.getElem?_eq_getElem hi);rw[R] at e;exact Z.dg (by rw[fe e])
theorem aN.mono (p:eK ρ aV h h')(hB:rf ρ h){x:aj}(r:aN ρ h v x):aN aV h' v x:=
 aN.rec (motive_1:=fun v x _=>aN aV h' v x) (motive_2:=fun vs xs _=>bK aV h' vs xs) .none .bool .int .str .bytes (fun e _ k=>.tup (p.keep _ _ e (fun hm=>hB _ hm _ _ e) ⟨_,_,rfl⟩) k)
  (fun e=>.ref (p.new.elim fun n q=>q.1▸get_append e)) .nil (fun _ _ a b=>.cons a b) r
theorem bK.mono (p:eK ρ aV h h')(hB:rf ρ h)(r:bK ρ h vs xs):bK aV h' vs xs:=
 bK.rec (motive_1:=fun v x _=>aN aV h' v x) (motive_2:=fun vs xs _=>bK aV h' vs xs) .none .bool .int .str .bytes (fun e r _=>(aN.tup e r).mono p hB) (fun e=>(aN.ref e).mono p hB) .nil (fun _ _ a b=>.cons a b) r
theorem dc.mono (p:eK ρ aV h h')(hB:rf ρ h){xs:List c3}(r:dc P ρ h es xs):dc P aV h' es xs:=
 dc.rec (motive:=fun es xs _=>dc P aV h' es xs) .nil (fun a b c _ k=>.cons (a.mono p hB) (b.mono p hB) c k) r
theorem eF.mono (p:eK ρ aV h h')(hB:rf ρ h){o:an}(r:eF P ρ h o ob):eF P aV h' o ob:=
 eF.casesOn (motive:=fun o ob _=>eF P aV h' o ob) r (fun r=>.list (r.mono p hB)) .ints (fun r=>.dict (r.mono p hB)) (fun aI e=>.inst aI (p.new.elim fun n q=>q.1▸get_append e)) .cB .d6
theorem bz.lt (x:bz P ρ H h)(aC:a∈ρ):∃ob,h.get? a=E ob:=by obtain⟨i,hi,rfl⟩:=List.getElem_of_mem aC;have ar:i<H.length:=x.len▸hi;obtain⟨ob,R,_⟩:=x.at_ i H[i] ρ[i] (List.getElem?_eq_getElem ar) (List.getElem?_eq_getElem hi);exact⟨ob,R⟩
theorem sv {o:Obj}(h:o=gO xs n):o.data=.seq xs.toArray n:=by rw[h]
theorem sw {o:Obj}(h:∃xs n,o=gO xs n):∃xs n,o.data=.seq xs n:=let ⟨_,_,e⟩:=h;⟨_,_,sv e⟩
theorem kA (h:fR):h.get? h.objs.size=none:=by
 cases q:h.get? h.objs.size with
 |none=>rfl
 |some o=>exact absurd (ic q) (xU _)
theorem eK.alloc:eK ρ (ρ++[h.objs.size]) h (h.push ob):=
 ⟨⟨_,rfl,fun a aC=>by rw[List.mem_singleton.mp aC];exact kA h⟩,fun a o' e _ _=>fx _ e⟩
theorem NV {a0:Type}{a b:a0}{k:Nat}(h:[a][k]? =E b):a=b:=by
 induction k using ia with
 |zero=>exact cF h
 |succ k=>exact c5 h
theorem Cv {o o':an}{i:Nat}{aA:an→bj→Prop}(len:ρ.length=H.length)(ax:(H++[o])[i]? =E o')(aC:(ρ++[bR])[i]? =E a)
 (ba:H[i]? =E o'→ρ[i]? =E a→aA o' a)(bL:aA o bR):aA o' a:=by
 by_cases hi:i<H.length
 .rw[List.getElem?_append_left hi] at ax;rw[List.getElem?_append_left (len▸hi)] at aC;exact ba ax aC
 .rw[List.getElem?_append_right (mK.mp hi)] at ax;rw[List.getElem?_append_right (len▸mK.mp hi)] at aC;exact NV ax▸NV aC▸bL
theorem EH (h:ρ.Nodup)(n:bR∉ρ):(ρ++[bR]).Nodup:=List.nodup_append.mpr ⟨h,List.pairwise_singleton _ _,fun a aC b az e=>n (List.mem_singleton.mp az▸e▸aC)⟩
theorem Ei {o:an}(len:ρ.length=H.length):(ρ++[bR]).length=(H++[o]).length:=by rw[List.length_append,List.length_append,len];rfl
theorem bz.alloc (x:bz P ρ H h){o:an}(hf:ob.isFreed=false)
 (r:eF P (ρ++[h.objs.size]) (h.push ob) o ob):bz P (ρ++[h.objs.size]) (H++[o]) (h.push ob):=
 ⟨Ei x.len,EH x.eX fun m=>(x.lt m).elim fun ob q=>py (q.symm.trans (kA h)),
  fun i o' a ax aC=>Cv (aA:=fun o' a=>∃hP,(h.push ob).get? a=E hP∧eF P (ρ++[h.objs.size]) (h.push ob) o' hP) x.len ax aC (fun R Z=>(x.at_ i o' a R Z).elim fun hP g=>⟨hP,fx _ g.1,g.2.mono .alloc x.dg⟩) ⟨ob,g5 _ hf,r⟩⟩
theorem eK.same (hm:a∈ρ)(aE:fK a h h'):eK ρ ρ h h':=
 ⟨⟨[],by simp,fun _ h=>nomatch h⟩,fun b o' e az _=>(aE.2 b (fun q=>az (q▸hm))).trans e⟩
theorem bz.update (x:bz P ρ H h){i:Nat}{o:an}(aC:ρ[i]? =E a)
 (aE:fK a h h')(he:h'.get? a=E ob)(r:eF P ρ h' o ob):bz P ρ (H.set i o) h':=by
 have hm:a∈ρ:=List.mem_of_getElem? aC;have p:eK ρ ρ h h':=.same hm aE;refine⟨by simp[x.len],x.eX,fun j o' b ax az=>?_⟩
 by_cases co:i=j
 .subst co;rw[aC] at az;cases az;have:i<H.length:=by have:=(List.getElem?_eq_some_iff.mp aC).1;rw[x.len] at this;exact this
  rw[List.getElem?_set_self this] at ax;cases ax;exact⟨ob,he,r⟩
 .rw[List.getElem?_set_ne co] at ax;obtain⟨hP,R,Z⟩:=x.at_ j o' b ax az;refine⟨hP,(aE.2 b ?_).trans R,Z.mono p x.dg⟩;rintro rfl;exact co (rZ x.eX aC az)
theorem bz.other (x:bz P ρ H h)(aB:∀a∈ρ,h'.get? a=h.get? a)(p:eK ρ ρ h h'):bz P ρ H h':=
 ⟨x.len,x.eX,fun i o a ax aC=>let ⟨ob,R,Z⟩:=x.at_ i o a ax aC;⟨ob,(aB a (List.mem_of_getElem? aC)).trans R,Z.mono p x.dg⟩⟩
structure Step (ah ρ:List bj)(s:aS)(aV:List bj)(s':aS):Prop where
 new:∃n,aV=ρ++n∧∀a∈n,s.heap.get? a=none
 keep:∀a o,s.heap.get? a=E o→a∉ρ→a∉ah→s'.heap.get? a=E o
 live:∀a,s'.heap.get? a=none→s.heap.get? a=none
 gens:s'.gens=s.gens
 os:s'.os=s.os
theorem Step.refl (ah ρ:List bj)(s:aS):Step ah ρ s ρ s:=⟨⟨[],by simp,fun _ h=>nomatch h⟩,fun _ _ e _ _=>e,fun _ e=>e,rfl,rfl⟩
theorem Step.toks:Step ah ρ s ρ {s with toks:=n}:=⟨⟨[],by simp,fun _ h=>nomatch h⟩,fun _ _ e _ _=>e,fun _ e=>e,rfl,rfl⟩
theorem Step.trans {Qi:List bj}{eg:aS}(x:Step ah ρ s uQ bC)(y:Step ah uQ bC Qi eg):Step ah ρ s Qi eg:=by
 obtain⟨n,rfl,aL⟩:=x.new;obtain⟨m,rfl,hm⟩:=y.new;have k:∀a o,s.heap.get? a=E o→a∉ρ→a∉ρ++n:=fun a o e aC a9=>by
  rcases List.mem_append.mp a9 with q|q
  .exact aC q
  .rw[aL a q] at e;cases e
 refine⟨⟨n++m,by rw[List.append_assoc],fun a aC=>?_⟩,fun a o e aC hf=>y.keep a o (x.keep a o e aC hf) (k a o e aC) hf,fun a e=>x.live a (y.live a e),y.gens.trans x.gens,y.os.trans x.os⟩;rcases List.mem_append.mp aC with q|q
 .exact aL a q
 .exact x.live a (hm a q)
theorem Step.weak {m1:List bj}(x:Step ah ρ s aV s')(h:∀a∈ah,a∈m1):Step m1 ρ s aV s':=
 ⟨x.new,fun a o e aC az=>x.keep a o e aC fun q=>az (h a q),x.live,x.gens,x.os⟩
theorem Step.fW (x:Step [] ρ s aV s'):eK ρ aV s.heap s'.heap:=⟨x.new,fun a o e aC _=>x.keep a o e aC (fun h=>nomatch h)⟩
theorem z8 {o:Obj}(a:bj)(e:(h.push o).get? a=none):h.get? a=none:=by
 cases q:h.get? a with
 |none=>rfl
 |some o'=>rw[fx o q] at e;cases e
theorem MA {b:bj}(aE:fK b h h')(az:h'.get? b=E ob)(a:bj)(e:h'.get? a=none):h.get? a=none:=by
 by_cases q:a=b
 .subst q;rw[az] at e;cases e
 .rw[←aE.2 a q];exact e
theorem Step.push (t:Nat):Step [] ρ s ρ {s with heap:=s.heap.push ob,toks:=t}:=
 ⟨⟨[],by simp,fun _ h=>nomatch h⟩,fun _ _ e _ _=>fx _ e,fun a e=>z8 a e,rfl,rfl⟩
theorem Step.alloc (t:Nat):Step [] ρ s (ρ++[s.heap.objs.size]) {s with heap:=s.heap.push ob,toks:=t}:=by
 refine⟨⟨_,rfl,fun a aC=>?_⟩,fun _ _ e _ _=>fx _ e,fun a e=>z8 a e,rfl,rfl⟩;rw[List.mem_singleton.mp aC];cases q:s.heap.get? s.heap.objs.size with
 |none=>rfl
 |some o=>exact absurd (ic q) (xU _)
theorem Step.update (t:Nat)(aC:a∈ρ)(aE:fK a s.heap h')(he:h'.get? a=E ob):Step [] ρ s ρ {s with heap:=h',toks:=t}:=
 ⟨⟨[],by simp,fun _ h=>nomatch h⟩,fun b _ e az _=>(aE.2 b (fun q=>az (q▸aC))).trans e,MA aE he,rfl,rfl⟩
inductive mN where
 |len|bytes|bytearray|sum|sorted|list|min|max
mutual
inductive aG where
 |none|bool (b:Bool)|int (i:Int)|str (k:Nat)|bytes (b:List Int)
 |loc (i:Nat)|glob (k:Nat)
 |bin (op:xY) (l r:aG)|neg (x:aG)|not (x:aG)|and (x y:aG)|or (x y:aG)|ite (t a b:aG)
 |cmp (op:CmpOp) (l r:aG)
 |call (k:Nat) (args:gQ)|bi (b:mN) (args:gQ)|lH (o:aG) (k:Nat) (args:gQ)
 |attr (o:aG) (k:Nat)|sub (o i:aG)|slice (o lo hi step:aG)
 |tup (xs:gQ)|lst (xs:gQ)|dict (aD:List V) (vs:gQ)
 |range (lo hi step:aG)|items (o:aG)
 |comp (f5:List Nat) (gT iter cond:aG)
inductive gQ where
 |nil|cons (x:aG) (xs:gQ)
end
mutual
inductive cO where
 |asg (i:Nat) (e:aG)|hY (is:List Nat) (e:aG)|yH (o:aG) (k:Nat) (e:aG)|hK (o i e:aG)|pZ (o lo hi e:aG)
 |aug (i:Nat) (op:xY) (e:aG)|ex (e:aG)
 |iff (t:aG) (a b:ff)|xx (t:aG) (a:ff)|hN (i:Nat) (bX:aG) (a:ff)|tv (is:List Nat) (bX:aG) (a:ff)
 |brk|ret (e:aG)|del (o i:aG)|err|pass
inductive ff where
 |nil|cons (x:cO) (xs:ff)
end
noncomputable def cb:Int→Int→Bool
 |.ofNat a,.ofNat b=>de a b
 |.negSucc _,.ofNat _=>true
 |.ofNat _,.negSucc _=>false
 |.negSucc a,.negSucc b=>de b a
def ltI (a b:Int):Bool:= !cb b a
theorem Jg {p:Prop}[Decidable p](h:b=true↔p):b=decide p:=uS.mpr (h.trans decide_eq_true_iff.symm)
theorem i1 (a b:Int):cb a b=decide (a≤b):=by
 induction a using xN with
 |ofNat a=>induction b using xN with
  |ofNat b=>exact Jg ⟨fun h=>lg.mpr (d5 h),fun h=>Qv (lg.mp h)⟩
  |negSucc b=>exact(decide_eq_false fun h=>absurd (q1 (lf a) h) (Int.not_le.mpr (GH b))).symm
 |negSucc a=>induction b using xN with
  |ofNat b=>exact(decide_eq_true (q1 (oH (GH a)) (lf b))).symm
  |negSucc b=>exact Jg ⟨fun h=>Int.neg_le_neg (lg.mpr (Nat.succ_le_succ (d5 h))),fun h=>Qv (xT (lg.mp (Int.le_of_neg_le_neg h)))⟩
theorem jr (a b:Int):ltI a b=decide (a<b):=by unfold ltI;rw[i1,←decide_not];exact decide_eq_decide.mpr Int.not_le
def nc (a b:Int):Int:=match cb a b with|true=>a|false=>b
def Ad (a b:Int):Int:=match cb a b with|true=>b|false=>a
theorem Eu (a b:Int):nc a b=min a b:=by
 unfold nc;rw[i1,GF]
 by_cases h:a≤b
 .rw[decide_eq_true h,if_pos h]
 .rw[decide_eq_false h,if_neg h]
theorem MP (a b:Int):Ad a b=max a b:=by
 unfold Ad;rw[i1,Int.max_def]
 by_cases h:a≤b
 .rw[decide_eq_true h,if_pos h]
 .rw[decide_eq_false h,if_neg h]
def ao (b:Bool)(P Q:Prop):Prop:=match b with|true=>P|false=>Q
abbrev cY (c:Prop)[Decidable c](P:Prop):Prop:=ao (decide c) P False
theorem j2 {c:Prop}[Decidable c]{P:Prop}(h:cY c P):c∧P:=by
 unfold cY at h;cases e:decide c with
 |true=>rw[e] at h;exact⟨of_decide_eq_true e,h⟩
 |false=>rw[e] at h;exact h.elim
theorem nR {c:Prop}[Decidable c]{P:Prop}(h:cY c P)(k:c→P→G):G:=b8 (j2 h) k
theorem iV {c:Prop}[Decidable c]{P:Prop}(h:c)(p:P):cY c P:=by unfold cY;rw[decide_eq_true h];exact p
noncomputable abbrev bE:=V→List an→Prop
variable {K:bE}
noncomputable def lC:List V→Option (List Int)
 | []=>E []
 |.int i::r=>match lC r with|some is=>E (i::is)|dn=>dn
 |_=>dn
noncomputable def fs (vs:List V):an:=match lC vs with|some is=>.ints is|dn=>.list vs
def Iv (a b:V)(H:List an)(K:bE):Prop:=match a,b with
 |.int x,.int y=>K (.int (x+y)) H
 |.ref l,.ref m=>(match H[l]?,H[m]? with
  |some (.ints xs),E (.ints ys)=>cY (xs.length+ys.length≤1000000) (K (.ref H.length) (H++[.ints (xs++ys)]))
  |_,_=>False)
 |_,_=>False
def ii (a b:V)(f:Int→Int→Prop):Prop:=match a,b with|.int x,.int y=>f x y|_,_=>False
def IP (op:xY)(a b:V)(H:List an)(K:bE):Prop:=match op with
 |.Add=>Iv a b H K
 |.Sub=>ii a b fun x y=>K (.int (x-y)) H
 |.Mult=>ii a b fun x y=>cY (y.natAbs<2^64∨x.natAbs<2^64) (K (.int (x*y)) H)
 |.FloorDiv=>ii a b fun x y=>cY (0<y∧y<2^1024) (K (.int (x/y)) H)
 |.Mod=>ii a b fun x y=>cY (0<y) (K (.int (x% y)) H)
 |.LShift=>ii a b fun x y=>cY (0≤y∧y≤1000∧x.natAbs<2^256) (K (.int (x*2^y.toNat)) H)
 |.RShift=>ii a b fun x y=>cY (0≤y) (K (.int (x/2^y.toNat)) H)
 |.BitAnd=>ii a b fun x y=>K (.int (Builtin.bitAnd x y)) H
 |.BitOr=>ii a b fun x y=>K (.int (Builtin.bitOr x y)) H
 |.Pow=>ii a b fun x y=>cY (0≤y∧y≤1000∧x.natAbs<2^64) (K (.int (x^y.toNat)) H)
 |_=>False
def vu (op:xY)(a b:V)(H:List an)(K:bE):Prop:=match op,a,b with
 |.Add,.int x,.int y=>K (.int (x+y)) H
 |.Add,.bytes x,.bytes y=>cY (x.length+y.length≤1000000) (K (.bytes (x++y)) H)
 |_,_,_=>False
def EE (a:V)(H:List an)(K:bE):Prop:=match a with|.int x=>K (.int (-x)) H|_=>False
def pB (a:V)(ahb:List an)(K:Bool→Prop):Prop:=match a with
 |.none=>K false
 |.bool b=>K b
 |.int i=>K (i !=0)
 |_=>False
noncomputable def gU (f:V→V→Option Bool):List V→List V→Option Bool
 | [],[]=>E true
 |a::r,b::t=>(match f a b,gU f r t with
  |some x,E y=>E (x&&y)
  |_,_=>dn)
 |_,_=>E false
def e8 (H:List an):Nat→V→V→Option Bool
 |0,_,_=>dn
 |n+1,a,b=>match a,b with
  |.none,.none=>E true
  |.bool x,.bool y=>E (x==y)
  |.int x,.int y=>E (decide (x=y))
  |.str x,.str y=>E (c1 x y)
  |.bytes x,.bytes y=>E (decide (x=y))
  |.tup x,.tup y=>gU (e8 H n) x y
  |.none,.tup _=>E false
  |.tup _,.none=>E false
  |.ref l,.ref m=>(match H[l]?,H[m]? with
   |some (.ints x),E (.ints y)=>E (decide (x=y))
   |some (.list x),E (.list y)=>gU (e8 H n) x y
   |some (.list x),E (.ints y)=>gU (e8 H n) x (y.map .int)
   |some (.ints x),E (.list y)=>gU (e8 H n) (x.map .int) y
   |_,_=>dn)
  |_,_=>dn
noncomputable def tK (x:Int):List V→Option Bool
 | []=>E false
 |.int y::r=>(match tK x r with|some b=>E (decide (y=x)||b)|dn=>dn)
 |_=>dn
def lu (k:V):List (V×V)→(Option V→Prop)→Prop
 | [],K=>K dn
 |(eA,v)::r,K=>ao (bn 4 eA k) (K (E v)) (lu k r K)
def jK (k:V)(es:List (V×V))(K:Option V→Prop):Prop:=ao (bU 4 k) (lu k es K) False
def oo (k v:V):List (V×V)→(List (V×V)→Nat→Prop)→Prop
 | [],K=>K [(k,v)] 1
 |(eA,lU)::r,K=>ao (bn 4 eA k) (K ((eA,v)::r) 0) (oo k v r fun es=>K ((eA,lU)::es))
def px (k v:V)(es:List (V×V))(K:List (V×V)→Nat→Prop):Prop:=ao (bU 4 k&&de es.length 1000) (oo k v es K) False
def rq (k:V):List (V×V)→(List (V×V)→Prop)→Prop
 | [],_=>False
 |(eA,lU)::r,K=>ao (bn 4 eA k) (K r) (rq k r fun es=>K ((eA,lU)::es))
def qb (k:V)(es:List (V×V))(K:List (V×V)→Prop):Prop:=ao (bU 4 k&&de es.length 1000) (rq k es K) False
def n2 (v:V)(K:Int→Prop):Prop:=match v with|.int x=>K x|_=>False
def AE (o:V)(K:Nat→Prop):Prop:=match o with|.ref l=>K l|_=>False
def mX (H:List an)(l:Nat)(K:List (V×V)→Nat→Prop):Prop:=match H[l]? with|some (.dict es n)=>K es n|_=>False
def rG (H:List an)(l:Nat)(K:Nat→Prop):Prop:=match H[l]? with|some (.inst d)=>K d|_=>False
def jx (o:Option Bool)(K:Bool→Prop):Prop:=match o with|some b=>K b|dn=>False
noncomputable def rI:V→Option Bool
 |.none=>E true
 |.bool _=>E false|.int _=>E false|.str _=>E false|.bytes _=>E false|.tup _=>E false|.ref _=>E false
 |_=>dn
noncomputable def y2 (a b:V)(H:List an):Option Bool:=match a,b with
 |.ref l,.ref m=>(match H[l]?,H[m]? with
  |some (.dict x _),E (.dict [] _)=>E x.isEmpty
  |_,_=>dn)
 |_,_=>dn
def lJ (a b:V)(H:List an)(K:Bool→Prop):Prop:=match y2 a b H with
 |some c=>K (!c)
 |dn=>jx (e8 H 8 a b) fun x=>K (!x)
def tj (op:CmpOp)(a b:V)(H:List an)(K:Bool→Prop):Prop:=match op with
 |.Eq=>jx (e8 H 8 a b) K
 |.NotEq=>lJ a b H K
 |.Lt=>ii a b fun x y=>K (ltI x y)
 |.LtE=>ii a b fun x y=>K (cb x y)
 |.Gt=>ii a b fun x y=>K (ltI y x)
 |.GtE=>ii a b fun x y=>K (cb y x)
 |.Is=>(match b with|.none=>jx (rI a) K|_=>False)
 |.IsNot=>(match b with|.none=>jx (rI a) fun x=>K (!x)|_=>False)
 |.In=>(match a,b with
  |.int x,.tup vs=>jx (tK x vs) K
  |.int x,.ref l=>mX H l fun es _=>jK (.int x) es fun r=>K r.isSome
  |_,_=>False)
 |.NotIn=>(match a,b with
  |.int x,.tup vs=>jx (tK x vs) fun b=>K (!b)
  |_,_=>False)
def k1 (o:Option V)(K:V→Prop):Prop:=match o with|some v=>K v|dn=>False
def rg (o:V)(k:Nat)(H:List an)(K:V→Prop):Prop:=AE o fun l=>rG H l fun d=>mX H d fun es _=>jK (.str k) es fun r=>k1 r K
noncomputable def lE:V→Bool
 |.str _=>true
 |_=>false
def ael (o:V)(k:Nat)(v:V)(H:List an)(K:List an→Prop):Prop:=AE o fun l=>rG H l fun d=>mX H d fun es n=>ao (es.all fun e=>lE e.1) (px (.str k) v es fun cT m=>K (H.set d (.dict cT (n+m)))) False
def rK (i:V)(K:Int→Prop):Prop:=match i with|.int x=>cY (0≤x∧x<2^62) (K x)|_=>False
def ta (b:List Int)(x:Int)(K:Int→Prop):Prop:=cY (x.toNat<b.length) (K (b.getD x.toNat 0))
def Pj (ob:an)(i:V)(K:V→Prop):Prop:=match ob with
 |.list vs=>rK i fun x=>k1 (vs[x.toNat]?) K
 |.ints b=>rK i fun x=>ta b x fun c=>K (.int c)
 |.cB b=>rK i fun x=>ta b x fun c=>K (.int c)
 |.dict es _=>jK i es fun r=>k1 r K
 |.d6 b=>rK i fun x=>ta b x fun c=>K (.int c)
 |.inst _=>False
def F1 (vs:List V)(x:Int)(K:V→Prop):Prop:=match lC vs with
 |some is=>ta is x fun c=>K (.int c)
 |dn=>k1 (vs[x.toNat]?) K
def xk (o i:V)(H:List an)(K:bE):Prop:=match o with
 |.tup vs=>rK i fun x=>F1 vs x fun v=>K v H
 |.bytes b=>rK i fun x=>ta b x fun c=>K (.int c) H
 |.ref l=>(match H[l]? with|some ob=>Pj ob i fun v=>K v H|dn=>False)
 |_=>False
def Fk (o i v:V)(H:List an)(K:List an→Prop):Prop:=match o with
 |.ref l=>(match H[l]? with
  |some (.list vs)=>(match i with|.int x=>cY (0≤x∧x<vs.length∧x<2^62) (K (H.set l (fs (vs.set x.toNat v))))|_=>False)
  |some (.ints xs)=>(match i,v with|.int x,.int y=>cY (0≤x∧x<xs.length∧x<2^62) (K (H.set l (.ints (xs.set x.toNat y))))|_,_=>False)
  |some (.dict es n)=>px i v es fun cT m=>K (H.set l (.dict cT (n+m)))
  |_=>False)
 |_=>False
def CT (o i:V)(H:List an)(K:List an→Prop):Prop:=match o with
 |.ref l=>(match H[l]? with
  |some (.dict es n)=>qb i es fun cT=>K (H.set l (.dict cT (n+1)))
  |_=>False)
 |_=>False
noncomputable def lo?:V→Option (Option Int)
 |.none=>E dn
 |.int x=>E (E x)
 |_=>dn
noncomputable def cut {a0:Type}(xs:List a0)(lo hi:Option Int):List a0:=
 let ys:=match hi with|some h=>xs.take h.toNat|dn=>xs
 match lo with|some l=>ys.drop l.toNat|dn=>ys
noncomputable def gJ {a0:Type}:List a0→List a0
 | []=>[]
 | [a]=>[a]
 |a::_::r=>a::gJ r
def gx:Option Int→Bool
 |dn=>true
 |some x=>cb 0 x&&ltI x (2^62)
def pg:Option Int→Prop
 |dn=>True
 |some x=>0≤x∧x<2^62
theorem NM {o:Option Int}(h:gx o=true):pg o:=by
 induction o using ez with
 |none=>trivial
 |some x=>rw[gx,fJ] at h;rw[i1,jr] at h;exact⟨of_decide_eq_true h.1,of_decide_eq_true h.2⟩
theorem fM {P:Prop}(h:ao b P False):b=true∧P:=by cases b;exact h.elim;exact⟨rfl,h⟩
theorem j1 {P:Prop}(h:ao b P False)(k:b=true→P→G):G:=b8 (fM h) k
def AQ (o lo hi st:V)(H:List an)(K:bE):Prop:=match lo? lo,lo? hi with
 |some l,E h=>ao (gx l&&gx h) (match st with
  |.none=>(match o with
   |.bytes b=>K (.bytes (cut b l h)) H
   |.ref a=>(match H[a]? with
    |some (.ints xs)=>cY (xs.length≤1000000) (K (.ref H.length) (H++[.ints (cut xs l h)]))
    |some (.cB xs)=>K (.ref H.length) (H++[.cB (cut xs l h)])
    |_=>False)
   |_=>False)
  |.int st=>cY (st=2) (match o with
   |.ref a=>(match H[a]? with
    |some (.ints xs)=>cY (xs.length≤1000000) (K (.ref H.length) (H++[.ints (gJ (cut xs l h))]))
    |_=>False)
   |_=>False)
  |_=>False) False
 |_,_=>False
def OP (o lo hi v:V)(H:List an)(K:List an→Prop):Prop:=match lo,hi,o with
 |.int l,.int h,.ref a=>cY (0≤l∧l≤h∧h<2^62) (match H[a]?,v with
  |some (.cB b),.bytes c=>ao (cb h b.length&&c1 c.length (h.toNat-l.toNat)) (K (H.set a (.cB (b.take l.toNat++c++b.drop h.toNat)))) False
  |some (.ints b),.ref m=>(match H[m]? with
   |some (.ints c)=>cY (h≤b.length∧b.length+c.length≤1000000∧c1 a m=false) (K (H.set a (.ints (b.take l.toNat++c++b.drop h.toNat))))
   |_=>False)
  |_,_=>False)
 |_,_,_=>False
noncomputable def o7 (b:List Int):Bool:=b.all fun x=>decide (0≤x)&&decide (x<256)
def ee (b:List Int):Prop:=∀x∈b,0≤x∧x<256
theorem KJ {b:List Int}(h:o7 b=true):ee b:=fun x aR=>by
 have:=List.all_eq_true.mp h x aR
 simpa only[fJ,decide_eq_true_eq] using this
def Av (n:Nat)(K:V→Prop):Prop:=cY (n<2^63) (K (.int n))
def z7 (v:V)(H:List an)(K:V→Prop):Prop:=match v with
 |.bytes b=>K (.int b.length)
 |.ref l=>(match H[l]? with
  |some (.list b)=>Av b.length K
  |some (.ints b)=>Av b.length K
  |some (.cB b)=>K (.int b.length)
  |some (.d6 b)=>Av b.length K
  |_=>False)
 |_=>False
def vx (v:V)(H:List an)(K:V→Prop):Prop:=match v with
 |.bytes b=>K (.bytes b)
 |.ref l=>(match H[l]? with
  |some (.ints b)=>ao (o7 b) (cY (b.length≤1000000) (K (.bytes b))) False
  |some (.cB b)=>K (.bytes b)
  |_=>False)
 |_=>False
noncomputable def qy (f:V→V→Bool):List V→List V→Bool
 | [],[]=>true
 |a::r,b::t=>f a b&&qy f r t
 |_,_=>false
def mq:Nat→V→V→Bool
 |_,.int _,.int _=>true
 |n+1,.tup vs,.tup ce=>qy (mq n) vs ce
 |_,_,_=>false
noncomputable def i2 (e f:V→V→Bool):List V→List V→Bool
 |a::r,b::t=>match e a b with|true=>i2 e f r t|false=>f a b
 |_,_=>false
def ltV:Nat→V→V→Bool
 |_,.int x,.int y=>decide (x<y)
 |n+1,.tup x,.tup y=>i2 (bn n) (ltV n) x y
 |_,_,_=>false
noncomputable def qx {a0:Type}(f:Nat→Nat→Bool):KasT a0→a0
 |.ret a=>a
 |.ask i j k=>qx f (k (f i j))
def kf:List V→List V
 | []=>[]
 | [a]=>[a]
 |vs=>(qx (fun i j=>ltV 4 (vs.getD i .none) (vs.getD j .none)) (oM vs.length)).toList.map fun i=>vs.getD i .none
noncomputable def uE:V→Bool
 |.tup (.tup _::_)=>true
 |_=>false
def sortable (vs:List V):Bool:=de vs.length 4&&vs.all fun a=>uE a&&vs.all fun b=>mq 4 a b
def Fw (v:V)(H:List an)(K:bE):Prop:=match v with
 |.ref l=>(match H[l]? with
  |some (.list vs)=>ao (sortable vs) (K (.ref H.length) (H++[fs (kf vs)])) False
  |some (.ints [])=>K (.ref H.length) (H++[.ints []])
  |_=>False)
 |_=>False
def K1 (v:V)(H:List an)(K:bE):Prop:=match v with
 |.ref l=>(match H[l]? with
  |some (.dict es _)=>ao (sortable (es.map fun e=>.tup [e.1,e.2])) (K (.ref H.length) (H++[fs (kf (es.map fun e=>.tup [e.1,e.2]))])) False
  |_=>False)
 |_=>False
def a1 (vs:List V)(K:V→Prop):Prop:=match vs with| [v]=>K v|_=>False
def a2 (vs:List V)(K:V→V→Prop):Prop:=match vs with| [a,b]=>K a b|_=>False
def RX (v:V)(K:List Int→Prop):Prop:=match v with|.bytes b=>K b|_=>False
def Pk (v:V)(H:List an)(K:bE):Prop:=match v with
 |.ref l=>(match H[l]? with|some (.ints xs)=>K (.int xs.sum) H|_=>False)
 |_=>False
def ZN (v:V)(H:List an)(K:bE):Prop:=AE v fun l=>mX H l fun es _=>cY (es.length≤1000000) (K (.ref H.length) (H++[fs (es.map (·.1))]))
def IM (b:mN)(args:List V)(H:List an)(K:bE):Prop:=match b with
 |.len=>a1 args fun v=>z7 v H fun r=>K r H
 |.bytes=>a1 args fun v=>vx v H fun r=>K r H
 |.bytearray=>a1 args fun v=>RX v fun b=>K (.ref H.length) (H++[.cB b])
 |.sum=>a1 args fun v=>Pk v H K
 |.sorted=>a1 args fun v=>Fw v H K
 |.list=>a1 args fun v=>ZN v H K
 |.min=>a2 args fun a b=>ii a b fun x y=>K (.int (nc x y)) H
 |.max=>a2 args fun a b=>ii a b fun x y=>K (.int (Ad x y)) H
def m6:Nat:=a7 "append"
def qv:Nat:=a7 "get"
def wM (o:V)(k:Nat)(H:List an):Bool:=match o with
 |.ref l=>(match H[l]? with
  |some (.list _)=>c1 k m6
  |some (.ints _)=>c1 k m6
  |some (.dict _ _)=>c1 k qv
  |_=>false)
 |_=>false
def tW (o:V)(args:List V)(H:List an)(K:bE):Prop:=match o with
 |.ref l=>(match H[l]?,args with
  |some (.list vs),[v]=>cY (vs.length≤1000000) (K .none (H.set l (.list (vs++[v]))))
  |some (.ints xs),[.int x]=>cY (xs.length≤1000000) (K .none (H.set l (.ints (xs++[x]))))
  |some (.ints []),[v]=>K .none (H.set l (.list [v]))
  |some (.dict es _),[i]=>jK i es fun r=>K (r.getD .none) H
  |some (.dict es _),[i,d]=>jK i es fun r=>K (r.getD d) H
  |_,_=>False)
 |_=>False
def CU:List (V×V)→Nat→List V→List V→(List (V×V)→Nat→Prop)→Prop
 |es,n,[],[],K=>K es n
 |es,n,k::aD,v::vs,K=>px k v es fun cT m=>CU cT (n+m) aD vs K
 |_,_,_,_,_=>False
def my (x y z:Int):Bool:=ltI 0 z&&(ltI (-1099511627776) x&&(ltI x 1099511627776&&(ltI (-1099511627776) y&&(ltI y 1099511627776&&ltI z 1099511627776))))
theorem qC {a b:Int}(h:ltI a b=true):a<b:=of_decide_eq_true (jr a b▸h)
theorem tR {a b:Int}(h:cb a b=true):a≤b:=of_decide_eq_true (i1 a b▸h)
theorem uu {x y z:Int}(h:my x y z=true):0<z∧ -(2^40)<x∧x<2^40∧ -(2^40)<y∧y<2^40∧z<2^40:=
 b5 h fun R h=>b5 h fun Z h=>b5 h fun bv h=>b5 h fun cZ h=>b5 h fun gV nY=>
  ⟨qC R,qC Z,qC bv,qC cZ,qC gV,qC nY⟩
noncomputable def eQ (lo hi st:Int):List Int:=(List.range ((hi-lo+st-1)/st).toNat).map fun(k:Nat)=>lo+st*k
def xh (v:V)(H:List an)(K:List V→Prop):Prop:=match v with
 |.tup vs=>K vs
 |.bytes b=>K (b.map .int)
 |.ref l=>(match H[l]? with
  |some (.list vs)=>K vs
  |some (.ints xs)=>K (xs.map .int)
  |some (.cB b)=>K (b.map .int)
  |some (.dict es _)=>K (es.map (·.1))
  |_=>False)
 |_=>False
noncomputable def zG:an→Bool
 |.list _=>true
 |.ints _=>true
 |_=>false
noncomputable def KR:an→Bool
 |.cB _=>true
 |_=>false
noncomputable def KU (n m:Nat):an→Bool
 |.dict es k=>c1 k n&&c1 es.length m
 |_=>false
def EP (o o':an)(P:List V→Prop):Prop:=match o' with
 |.list ce=>ao (zG o) (P ce) False
 |.ints xs=>ao (zG o) (P (xs.map .int)) False
 |.cB b=>ao (KR o) (P (b.map .int)) False
 |.dict es n=>ao (KU n es.length o) (P (es.map (·.1))) False
 |.inst _=>False
 |.d6 _=>False
def wZ (o o':Option an)(P:List V→Prop):Prop:=match o with
 |some o=>(match o' with
  |some o'=>EP o o' P
  |dn=>False)
 |dn=>False
def hk (v:V)(vs:List V)(H bp:List an)(P:List V→Prop):Prop:=match v with
 |.ref l=>wZ (H[l]?) (bp[l]?) P
 |_=>P vs
def j3 (f:V→List an→(Option V→List an→Prop)→Prop)(st:List an→(List V→Prop)→Prop):Nat→Nat→List V→List an→List V→(List V→List an→Prop)→Prop
 |0,_,_,_,_,_=>False
 |n+1,i,vs,H,b7,K=>match vs[i]? with
  |dn=>K b7 H
  |some v=>f v H fun r aq=>st aq fun ce=>j3 f st n (i+1) ce aq (match r with|some x=>b7++[x]|dn=>b7) K
inductive rb where
 |next|brk|ret (v:V)
abbrev hT:=Nat→List V→List an→bE→Prop
variable {C:hT}
def z4 (loc:List V)(i:Nat)(K:V→Prop):Prop:=match loc[i]? with
 |some .aQ=>False
 |some v=>K v
 |dn=>False
section
variable (C:hT)(G:Nat→Option V)
mutual
def cG (loc:List V):aG→List an→bE→Prop
 |.none,H,K=>K .none H
 |.bool b,H,K=>K (.bool b) H
 |.int i,H,K=>K (.int i) H
 |.str k,H,K=>K (.str k) H
 |.bytes b,H,K=>K (.bytes b) H
 |.loc i,H,K=>z4 loc i fun v=>K v H
 |.glob k,H,K=>k1 (G k) fun v=>K v H
 |.bin op l r,H,K=>cG loc l H fun a aq=>cG loc r aq fun b be=>IP op a b be K
 |.neg x,H,K=>cG loc x H fun a aq=>EE a aq K
 |.not x,H,K=>cG loc x H fun a aq=>pB a aq fun b=>K (.bool (!b)) aq
 |.and x y,H,K=>cG loc x H fun a aq=>pB a aq fun b=>ao b (cG loc y aq K) (K a aq)
 |.or x y,H,K=>cG loc x H fun a aq=>pB a aq fun b=>ao b (K a aq) (cG loc y aq K)
 |.ite t a b,H,K=>iP loc t (cG loc t) H fun c aq=>ao c (cG loc a aq K) (cG loc b aq K)
 |.cmp op l r,H,K=>cG loc l H fun a aq=>cG loc r aq fun b be=>tj op a b be fun c=>K (.bool c) be
 |.call k args,H,K=>lV loc args H fun vs aq=>C k vs aq K
 |.bi b args,H,K=>lV loc args H fun vs aq=>IM b vs aq K
 |.lH o k args,H,K=>cG loc o H fun a aq=>ao (wM a k aq) (lV loc args aq fun vs be=>ao (wM a k be) (tW a vs be K) False) False
 |.attr o k,H,K=>cG loc o H fun a aq=>rg a k aq fun v=>K v aq
 |.sub o i,H,K=>cG loc o H fun a aq=>cG loc i aq fun b be=>xk a b be K
 |.slice o l h s,H,K=>cG loc o H fun a aq=>cG loc l aq fun b be=>cG loc h be fun c ei=>cG loc s ei fun d pR=>AQ a b c d pR K
 |.tup xs,H,K=>lV loc xs H fun vs aq=>K (.tup vs) aq
 |.lst xs,H,K=>lV loc xs H fun vs aq=>K (.ref aq.length) (aq++[fs vs])
 |.dict aD vs,H,K=>lV loc vs H fun b be=>CU [] 0 aD b fun es n=>K (.ref be.length) (be++[.dict es n])
 |.range _ _ _,_,_=>False
 |.items o,H,K=>cG loc o H fun a aq=>K1 a aq K
 |.comp f5 gT bX cond,H,K=>qW loc bX (cG loc bX) H fun ag vs aq=>
  cY (vs.length≤1000000) (j3 (fun v H k=>iP (f5.map (fun i=>loc.getD i .aQ)++[v]) cond (cG (f5.map (fun i=>loc.getD i .aQ)++[v]) cond) H fun b be=>ao b (cG (f5.map (fun i=>loc.getD i .aQ)++[v]) gT be fun r ei=>k (E r) ei) (k dn be)) (hk ag vs aq) (vs.length+1) 0 vs aq []
   fun b7 be=>K (.ref be.length) (be++[fs b7]))
def lV (loc:List V):gQ→List an→(List V→List an→Prop)→Prop
 |.nil,H,K=>K [] H
 |.cons x xs,H,K=>cG loc x H fun v aq=>lV loc xs aq fun vs be=>K (v::vs) be
def iP (loc:List V):aG→(List an→bE→Prop)→List an→(Bool→List an→Prop)→Prop
 |.not x,_,H,K=>iP loc x (cG loc x) H fun b aq=>K (!b) aq
 |.and x y,_,H,K=>iP loc x (cG loc x) H fun b aq=>ao b (iP loc y (cG loc y) aq K) (K false aq)
 |.or x y,_,H,K=>iP loc x (cG loc x) H fun b aq=>ao b (K true aq) (iP loc y (cG loc y) aq K)
 |.ite t a b,_,H,K=>iP loc t (cG loc t) H fun c aq=>ao c (iP loc a (cG loc a) aq K) (iP loc b (cG loc b) aq K)
 |.cmp op l r,_,H,K=>cG loc l H fun a aq=>cG loc r aq fun b be=>tj op a b be fun c=>K c be
 |_,w,H,K=>w H fun a aq=>pB a aq fun b=>K b aq
def qW (loc:List V):aG→(List an→bE→Prop)→List an→(V→List V→List an→Prop)→Prop
 |.range l h s,_,H,K=>cG loc l H fun a aq=>cG loc h aq fun b be=>cG loc s be fun c ei=>n2 a fun x=>n2 b fun y=>n2 c fun z=>ao (my x y z) (K .none ((eQ x y z).map .int) ei) False
 |_,w,H,K=>w H fun a aq=>xh a aq fun vs=>K a vs aq
end
noncomputable abbrev dM:=rb→List V→List an→Prop
variable {K':dM}
mutual
noncomputable def kH (p:Nat→Bool):V→Bool
 |.ref l=>p l
 |.tup vs=>iM p vs
 |.aQ=>false
 |_=>true
noncomputable def iM (p:Nat→Bool):List V→Bool
 | []=>true
 |v::vs=>kH p v&&iM p vs
end
def pj (p:Nat→Bool):List (V×V)→Bool
 | []=>true
 |e::es=>kH p e.2&&pj p es
def hR (p:Nat→Bool):an→Bool
 |.list vs=>iM p vs
 |.dict es _=>pj p es
 |.inst d=>p d
 |_=>true
def kz (m:Nat)(v:V):V:=match kH (fun l=>dT l m) v with|true=>v|false=>.aQ
def trunc (m:Nat)(loc:List V)(H:List an)(K:List V→List an→Prop):Prop:=match(H.take m).all (hR fun l=>dT l m) with
 |true=>K (loc.map (kz m)) (H.take m)
 |false=>K loc H
def iy (m:Nat)(f:V→List V→List an→dM→Prop)(st:List an→(List V→Prop)→Prop):Nat→Nat→List V→List V→List an→dM→Prop
 |0,_,_,_,_,_=>False
 |n+1,i,vs,loc,H,K=>match vs[i]? with
  |dn=>K .next loc H
  |some v=>f v loc H fun aH o9 aq=>match aH with
   |.next=>trunc m o9 aq fun m8 be=>st be fun ce=>iy m f st n (i+1) ce m8 be K
   |.brk=>K .next o9 aq
   |.ret r=>K (.ret r) o9 aq
def xy (t:List V→List an→(Bool→List an→Prop)→Prop)(f:List V→List an→dM→Prop):Nat→List V→List an→dM→Prop
 |0,_,_,_=>False
 |n+1,loc,H,K=>t loc H fun b aq=>ao b (f loc aq fun aH o9 be=>match aH with
  |.next=>xy t f n o9 be K
  |.brk=>K .next o9 be
  |.ret r=>K (.ret r) o9 be) (K .next loc aq)
def lT (v:V)(H:List an)(n:Nat)(K:List V→Prop):Prop:=match v with
 |.tup vs=>ao (c1 vs.length n) (K vs) False
 |.ref l=>(match H[l]? with
  |some (.list vs)=>ao (c1 vs.length n) (K vs) False
  |some (.ints xs)=>ao (c1 xs.length n) (K (xs.map .int)) False
  |_=>False)
 |_=>False
noncomputable def jw:List V→List Nat→List V→List V
 |loc,i::is,v::vs=>jw (loc.set i v) is vs
 |loc,_,_=>loc
def gi (f:List V→List an→dM→Prop)(K:dM):dM:=fun aH loc H=>match aH with
 |.next=>f loc H K
 |.brk=>K .brk loc H
 |.ret v=>K (.ret v) loc H
mutual
def xt:cO→List V→List an→dM→Prop
 |.asg i e,loc,H,K=>cG C G loc e H fun v aq=>K .next (loc.set i v) aq
 |.hY is e,loc,H,K=>cG C G loc e H fun v aq=>lT v aq is.length fun vs=>K .next (jw loc is vs) aq
 |.yH o k e,loc,H,K=>cG C G loc e H fun v aq=>cG C G loc o aq fun a be=>ael a k v be fun ei=>K .next loc ei
 |.hK o i e,loc,H,K=>cG C G loc e H fun v aq=>cG C G loc o aq fun a be=>cG C G loc i be fun b ei=>Fk a b v ei fun pR=>K .next loc pR
 |.pZ o l h e,loc,H,K=>cG C G loc e H fun v aq=>cG C G loc o aq fun a be=>cG C G loc l be fun b ei=>cG C G loc h ei fun c pR=>OP a b c v pR fun vj=>K .next loc vj
 |.aug i op e,loc,H,K=>z4 loc i fun a=>cG C G loc e H fun b aq=>vu op a b aq fun v be=>K .next (loc.set i v) be
 |.ex e,loc,H,K=>cG C G loc e H fun _ aq=>K .next loc aq
 |.iff t a b,loc,H,K=>iP C G loc t (cG C G loc t) H fun c aq=>ao c (b4 a loc aq K) (b4 b loc aq K)
 |.xx t a,loc,H,K=>xy (fun loc H K=>iP C G loc t (cG C G loc t) H K) (fun loc H K=>b4 a loc H K) 8 loc H K
 |.hN i bX a,loc,H,K=>qW C G loc bX (cG C G loc bX) H fun ag vs aq=>iy aq.length (fun v loc H K=>b4 a (loc.set i v) H K) (hk ag vs aq) (vs.length+1) 0 vs loc aq K
 |.tv is bX a,loc,H,K=>qW C G loc bX (cG C G loc bX) H fun ag vs aq=>iy aq.length (fun v loc H K=>lT v H is.length fun ce=>b4 a (jw loc is ce) H K) (hk ag vs aq) (vs.length+1) 0 vs loc aq K
 |.brk,loc,H,K=>K .brk loc H
 |.ret e,loc,H,K=>cG C G loc e H fun v aq=>K (.ret v) loc aq
 |.del o i,loc,H,K=>cG C G loc o H fun a aq=>cG C G loc i aq fun b be=>CT a b be fun ei=>K .next loc ei
 |.err,_,_,_=>False
 |.pass,loc,H,K=>K .next loc H
def b4:ff→List V→List an→dM→Prop
 |.nil,loc,H,K=>K .next loc H
 |.cons s r,loc,H,K=>xt s loc H (gi (b4 r) K)
end
end
variable {K':dM}
noncomputable def Cz:List (Str×mN):=[("len",.len),("bytes",.bytes),("bytearray",.bytearray),("sum",.sum),("sorted",.sorted),("list",.list),("min",.min),("max",.max)]
noncomputable def te:mN→aj
 |.len=>.builtin "len"|.bytes=>.type "bytes"|.bytearray=>.type "bytearray"|.sum=>.builtin "sum"|.sorted=>.builtin "sorted"|.list=>.type "list"|.min=>.builtin "min"|.max=>.builtin "max"
def vM (P:dj):Nat→Obj:=abr P (eC P) (ma P (bc "law_pq1102_01" 945) 91) (rm 231) (wB [al 44])
def qe (P:dj):fR:=absHeap (Dn (At P) (eC P) (ma P (bc "law_pq1102_01" 945) 91) (rm 231) (wB [al 44]) 617) 617 {}
def w7:hS:={eP with main:={eP.main with body:=bd.drop 94}}
noncomputable def abm:iQ→Option PySem.Str
 |.FunctionDef n _ _ _ _ _ _ _ _ _=>E n
 |.ClassDef n _ _ _ _ _ _ _ _ _ _=>E n
 |.Assign [.Name n _] _ _=>E n
 |_=>none
def loose:List PySem.Str:=(bd.take 94).filterMap abm
def p4:List (PySem.Str×aj):=Cz.map (fun e=>(e.1,te e.2))++[((("range":PySem.Str),cD "range"):PySem.Str×aj)]
abbrev Ie:Type:=List (Option Obj)×List (Option aj)×List (Option aj)×List (Option aj)×Nat×Nat
def hX (s:aS):Ie:=((List.range 617).map s.heap.get?,n7.map (fun x=>s.heap.nsMap mainGlobals (.ofString x.1)),p4.map (fun x=>s.heap.nsMap mainGlobals x.1),p4.map (fun x=>s.heap.nsMap builtinsNs x.1),s.toks,s.heap.objs.size)
def hW (w:fk):Ie:=((List.range 617).map (fun a=>E (vM w.params a)),n7.map (fun x=>E x.2.2),p4.map (fun _=>none),p4.map (fun x=>E x.2),1175,617)
theorem ZV (w:fk)(os:lh):(staticsOk (importedModules eP.main.body) (q8 w.params) (qe w.params)&&namesBound eP (qe w.params)&&gensDone ⟨qe w.params,#[],{},1175,os⟩&&laidKept (q8 w.params) (qe w.params))=true:=by kernel_rfl
theorem Rg {t:BT}{ZL:Life}{a:Nat}(h:a<n):(absHeap t n ZL).get? a=alive ((t.get a).getD default):=by unfold Heap.get?;rw[absHeap_at,if_pos h];generalize (t.get a).getD default=o;obtain⟨c,d,iw,ch⟩:=o;cases iw<;>rfl
theorem ahm {a0 eh:Type}{a Co:a0}{b Cx:eh}(h:a=Co)(k:b=Cx):(a,b)=(Co,Cx):=by rw[h,k]
theorem ZY (P:dj):(List.range 617).map (fun a=>alive (((Dn (At P) (eC P) (ma P (bc "law_pq1102_01" 945) 91) (rm 231) (wB [al 44]) 617).get a).getD default))=(List.range 617).map fun a=>E (vM P a):=by kernel_rfl
theorem ZZ (w:fk)(os:lh):(hX ⟨qe w.params,#[],{},1175,os⟩).2=(hW w).2:=by kernel_rfl
theorem ZX (w:fk)(os:lh):hX ⟨qe w.params,#[],{},1175,os⟩=hW w:=
 Prod.ext ((List.map_congr_left fun a h=>Rg (List.mem_range.mp h)).trans (ZY w.params)) (ZZ w os)
theorem aeE (w:fk):((q8 w.params).isNs mainGlobals&&(#[]:Array GenState).size==0,(q8 w.params).objs.size,(q8 w.params).nsMap mainGlobals "__annotations__")=(true,11,E (.ref 6)):=by kernel_rfl
theorem ZW (w:fk)(os:lh):openSeen w7 loose (importedModules eP.main.body) (fun _=>true) true ⟨qe w.params,#[],{},1175,os⟩=openGood w7 loose:=by kernel_rfl
theorem abX:opening eP=plainProg eP.main.scope.names:=by kernel_rfl
theorem V5 (s:aS):fenceModules? eP s=E s:=by kernel_rfl
theorem ZD:LeftO eP w7 loose (fun _=>true) hX hW 4000:=
 LeftO.of_pieces (H₀:=q8) (H₁:=qe) (boot_open abX (by decide) V5) aeE adf (by decide)
  fun w=>funext fun os=>Prod.ext (ZV w os) (Prod.ext (ZW w os) (ZX w os))
abbrev eY:aj→aS→Prop:=fun _ _=>False
noncomputable def mT:List String:=Builtin.Bytes.decodersThatHold++["bytearray.__contains__","bytearray.__mod__","bytearray.__rmod__","_struct.pack_into.held","bytearray.find.held"]
def lL:l0→Bool
 |.builtin id _=> !mT.contains id
 |_=>true
structure oP (d9:Ctx):Prop where
 here:lL d9.code=true
 below:∀x∈d9.below,lL x.1=true
def aO {a0:Type}(O:hS)(w:fk)(A:fw)(t:Sem a0)(Q:a0→aS→Prop)(s:aS):Prop:=
 ∀d9 p,d9.In A→oP d9→Sem.wp (model O w) d9 t (fun a _ s'=>Q a s') (fun _ _ _=>False) p s
abbrev abC (Q:g0→aS→Prop):Result→aS→Prop:=fun r s=>match r with|.ok f=>Q f s|.error _=>False
def codeN (O:hS)(w:fk)(A:fw)(c:l0)(Q:g0→aS→Prop)(s:aS):Prop:=
 ∀d9 p,d9.code=c→d9.Below A→oP d9→wpCode (model O w) d9 (abC Q) p s
section
variable {a0 eh:Type}
theorem oP.enter {d9:Ctx}(x:oP d9){c:l0}{h:Option aj}(aI:lL c=true):oP (d9.enter c h p):=⟨aI,fun y cu=>by
 rcases List.mem_cons.mp cu with rfl|cu
 .exact x.here
 .exact x.below y cu⟩
theorem oP.goto {d9:Ctx}(x:oP d9){c:l0}(aI:lL c=true):oP (d9.goto c):=⟨aI,x.below⟩
theorem cU {t:Sem a0}{Q:a0→aS→Prop}(h:wpAny (model O w) A t Q eY s):aO O w A t Q s:=fun d9 p hb _=>h d9 p hb
theorem dH {t:Sem a0}{Q pX:a0→aS→Prop}(h:aO O w A t Q s)(a9:∀a s',Q a s'→pX a s'):aO O w A t pX s:=
 fun d9 p hb x=>va _ d9 t (fun a _ s'=>a9 a s') (fun _ _ _ h=>h) p s (h d9 p hb x)
theorem b1 {m:Sem a0}{f:a0→Sem eh}{Q:eh→aS→Prop}(h:aO O w A m (fun a s'=>aO O w A (f a) Q s') s):aO O w A (m>>=f) Q s:=fun d9 p hb x=>by rw[Sem.wp_bind'];exact va _ d9 m (fun a od s' h'=>h' d9 od hb x) (fun _ _ _ h'=>h') p s (h d9 p hb x)
theorem dJ {m:Sem a0}{f:a0→Sem eh}{Q:eh→aS→Prop}(h:wpAny (model O w) A m (fun a s'=>aO O w A (f a) Q s') eY s):aO O w A (m>>=f) Q s:=b1 (cU h)
theorem cN {a:a0}{Q:a0→aS→Prop}(h:Q a s):aO O w A (pure a) Q s:=cU (aX h)
theorem eR {vs:List aj}{m:Sem a0}{Q:a0→aS→Prop}(h:aO O w A m Q s):aO O w A (holding vs m) Q s:=fun d9 p hb x=>by rw[Sem.wp_holding];exact h d9 p hb x
theorem qJ {m:Sem a0}{k:aj→Sem Unit}{Q:a0→aS→Prop}(h:aO O w A m Q s):aO O w A (m.onRaise k) Q s:=fun d9 p hb x=>by rw[Sem.wp_onRaise];exact va _ d9 m (fun _ _ _ h'=>h') (fun _ _ _ h'=>h'.elim) p s (h d9 p hb x)
theorem aaR {m:Sem a0}{Q:Except aj a0→aS→Prop}(h:aO O w A m (fun a=>Q (.ok a)) s):aO O w A m.attempt Q s:=fun d9 p hb x=>by rw[Sem.wp_attempt];exact va _ d9 m (fun _ _ _ h'=>h') (fun _ _ _ h'=>h'.elim) p s (h d9 p hb x)
theorem fa {k:Unit→Sem a0}{Q:a0→aS→Prop}(h:aO O w A (k ()) Q s):aO O w A (standAt p>>=k) Q s:=dJ (wpAny_standAt h)
theorem Am {vs:List aj}{m:Sem aj}(h:aO O w A m Q s):aO O w A (operate vs m) Q s:=fun d9 p hb x=>by rw[Sem.wp_operate];exact h d9 p hb x
theorem Nf {c:l0}{h:Option aj}{Q:g0→aS→Prop}(ly:lL c=true)(aI:codeN O w (A.mark h) c Q s)(tB:h≠E byPass:=by intro x;cases x):aO O w A (run c h) Q s:=
 fun d9 p hb x=>by
  rw[Sem.wp_run];refine wpCode_mono (fun r s' am=>?_) (aI _ p rfl (hb.enter c h p tB) (x.enter ly));cases r with
  |ok f=>exact am
  |error e=>exact am.elim
def AG (Q:aj→aS→Prop):g0→aS→Prop:=fun f s=>match f with|.ret v=>Q v s|_=>False
theorem aaZ {c:l0}(ly:lL c=true)(aI:codeN O w A c (AG Q) s):aO O w A (runValue c) Q s:=
 fun d9 p hb x=>by
  rw[Sem.wp_runValue];refine wpCode_mono (fun r s' am=>?_) (aI _ p rfl (hb.enter c none p (by intro x;exact c5 x)) (x.enter ly));cases r with
  |ok f=>cases f<;>first|exact am|exact am.elim
  |error e=>exact am.elim
theorem wS {f:aj}{pos:List aj}{tP:List (Str×aj)}(aI:codeN O w A (.call f ⟨pos,tP⟩) (AG Q) s):aO O w A (call f pos tP) Q s:=aaZ rfl aI
theorem IZ {c:l0}{Q pX:g0→aS→Prop}(h:codeN O w A c Q s)(a9:∀f s',Q f s'→pX f s'):codeN O w A c pX s:=fun d9 p aI hb x=>wpCode_mono (fun r s' am=>by
 cases r with
 |ok f=>exact a9 f s' am
 |error e=>exact am.elim) (h d9 p aI hb x)
theorem p8 {c:l0}{Q:g0→aS→Prop}(h:lL c=true→aO O w (A.under c) ((model O w).den c) (fun fin s'=>match fin with|.done f=>Q f s'|.again gR=>gR.quiet=true∧lL gR=true∧codeN O w A gR Q s') s):
 codeN O w A c Q s:=fun d9 p aI hb x=>by
 rw[wpCode_iff_wp,aI];refine va _ d9 _ (fun fin od s' h'=>?_) (fun _ _ _ h'=>h'.elim) p s (h (aI▸x.here) d9 p (aI▸hb.in) x);cases fin with
 |done f=>exact h'
 |again gR=>exact⟨h'.1,h'.2.2 (d9.goto gR) od rfl (hb.goto gR) (x.goto h'.2.1)⟩
theorem CJ {c:l0}{Q:g0→aS→Prop}(a9:c.quiet=true)(aM:Nat→aS→Prop)
 (turn:∀n s,aM n s→aO O w (A.under c) ((model O w).den c) (fun fin s'=>match fin with|.done f=>Q f s'|.again gR=>(gR=c∧∃m,m<n∧aM m s')∨(gR.quiet=true∧lL gR=true∧codeN O w A gR Q s')) s)
 (n:Nat)(h:aM n s):codeN O w A c Q s:=by
 induction n using Nat.strongRecOn generalizing s with
 |ind n aF=>
  refine p8 fun ly=>dH (turn n s h) fun fin s' hf=>?_;cases fin with
  |done f=>exact hf
  |again gR=>rcases hf with⟨rfl,m,hm,ab⟩|hf;exact⟨a9,ly,aF m hm ab⟩;exact hf
theorem hy {m:Sem a0}{f:a0→Sem eh}{a:a0}{Q:eh→aS→Prop}(e:m=pure a)(h:aO O w A (f a) Q s):aO O w A (m>>=f) Q s:=by subst e;exact b1 (cN h)
theorem aa0 {f:l0×Pos→Bool}{Q:Bool→aS→Prop}(hf:∀c p,lL c=true→f (c,p)=false)(h:Q false s):aO O w A (do return (←stack).any f) Q s:=fun d9 p hb x=>by
 refine(?_:Q (((d9.code,p)::d9.below).any f) s);have:((d9.code,p)::d9.below).any f=false:=by
  rw[List.any_eq_false];rintro⟨c,q⟩ hm;rw[hf c q]
  .exact d8
  .rcases List.mem_cons.mp hm with e|hm
   .cases e;exact x.here
   .exact x.below _ hm
 rw[this];exact h
theorem aaP {vH:List aY}{k:Nat}(h:aO O w A (spliced (backTo pos (starEach vH I))) (fun vs bC=>aO O w A (newTuple vs) Q bC) s):aO O w A (eval (.Tuple vH k pos) I) Q s:=fa (b1 h)
theorem aaO {vH:List aY}(h:aO O w A (spliced (backTo pos (starEach vH I))) (fun vs bC=>aO O w A (newList vs) Q bC) s):aO O w A (eval (.List vH pos) I) Q s:=fa (b1 h)
theorem aaL {l r:aY}(h:aO O w A (eval l I) (fun a bC=>aO O w A (eval r I) (fun b eg=>aO O w A (binaryOp op a b) Q eg) bC) s):aO O w A (eval (.BinOp l op r pos) I) Q s:=by rw[eval_BinOp];exact b1 (dH h fun a bC h₁=>b1 (eR (dH h₁ fun b eg fN=>fa (Am fN))))
theorem M9 {x:aY}{op:UnaryOp}(h:aO O w A (eval x I) (fun a bC=>aO O w A (unaryOp op a) Q bC) s):aO O w A (eval (.UnaryOp op x pos) I) Q s:=by rw[arm_eval_UnaryOp];exact b1 (dH h fun a bC h₁=>fa (eR h₁))
theorem aaQ {vK vL:aY}
 (h:aO O w A (eval vK I) (fun v bC=>aO O w A (truthy v) (fun c eg=>if c then aO O w A (eval (.BoolOp .And (vL::c2) pos) I) Q eg else Q v eg) bC) s):aO O w A (eval (.BoolOp .And (vK::vL::c2) pos) I) Q s:=by
 refine b1 (dH h fun v bC h₁=>fa (b1 (eR (dH h₁ fun c eg fN=>?_))))
 induction c using eo with
 |false=>exact cN fN
 |true=>exact fN
theorem aaY {vK vL:aY}
 (h:aO O w A (eval vK I) (fun v bC=>aO O w A (truthy v) (fun c eg=>if c then Q v eg else aO O w A (eval (.BoolOp .Or (vL::c2) pos) I) Q eg) bC) s):aO O w A (eval (.BoolOp .Or (vK::vL::c2) pos) I) Q s:=by
 refine b1 (dH h fun v bC h₁=>fa (b1 (eR (dH h₁ fun c eg fN=>?_))))
 induction c using eo with
 |false=>exact fN
 |true=>exact cN fN
theorem aaN {a b:aY}(h:aO O w A (isTrue t I (eval t I)) (fun c eg=>if c then aO O w A (eval a I) Q eg else aO O w A (eval b I) Q eg) s):aO O w A (eval (.IfExp t a b pos) I) Q s:=by refine b1 (dH h fun c eg fN=>?_);cases c<;>exact fN
theorem aa4 {x:aY}{Q:Bool→aS→Prop}(h:aO O w A (isTrue x I (eval x I)) (fun c s'=>Q (!c) s') s):aO O w A (isTrue (.UnaryOp .Not x pos) I le) Q s:=
 b1 (dH h fun c s' h'=>cN h')
theorem Nh {x:aY}{Q:Bool→aS→Prop}(h:aO O w A (isTrue x I (eval x I)) (fun c s'=>if c then aO O w A (isTrue (.BoolOp .And c2 pos) I le) Q s' else Q false s') s):
 aO O w A (isTrue (.BoolOp .And (x::c2) pos) I le) Q s:=by
 refine b1 (dH h fun c s' h'=>?_)
 induction c using eo with
 |false=>exact cN h'
 |true=>exact h'
theorem Ni {x:aY}{Q:Bool→aS→Prop}(h:aO O w A (isTrue x I (eval x I)) (fun c s'=>if c then Q true s' else aO O w A (isTrue (.BoolOp .Or c2 pos) I le) Q s') s):
 aO O w A (isTrue (.BoolOp .Or (x::c2) pos) I le) Q s:=by
 refine b1 (dH h fun c s' h'=>?_)
 induction c using eo with
 |false=>exact h'
 |true=>exact cN h'
theorem aa3 {a b:aY}{Q:Bool→aS→Prop}(h:aO O w A (isTrue t I (eval t I)) (fun c eg=>if c then aO O w A (isTrue a I (eval a I)) Q eg else aO O w A (isTrue b I (eval b I)) Q eg) s):
 aO O w A (isTrue (.IfExp t a b pos) I le) Q s:=by
 refine b1 (dH h fun c eg fN=>?_);cases c<;>exact fN
theorem aa5 {Q:Bool→aS→Prop}(h:aO O w A le (fun v bC=>aO O w A (truthy v) Q bC) s)(he:isTrue e I le=(do let v←le;standAt e.pos;holding [v] (truthy v))):aO O w A (isTrue e I le) Q s:=by rw[he];exact b1 (dH h fun v bC h₁=>fa (eR h₁))
theorem aaM {l r:aY}{op:CmpOp}(h:aO O w A (eval l I) (fun a bC=>aO O w A (eval r I) (fun b eg=>aO O w A (compareOp op a b) Q eg) bC) s)(hm:behindInMarks op r=false):
 aO O w A (eval (.Compare l [op] [r] pos) I) Q s:=by
 rw[eval_Compare1,markedBehindIn_of_false hm];exact b1 (dH h fun a bC h₁=>b1 (eR (dH h₁ fun b eg fN=>fa (Am fN))))
theorem aa2 {l r:aY}{op:CmpOp}{Q:Bool→aS→Prop}(h:aO O w A (eval l I) (fun a bC=>aO O w A (eval r I) (fun b eg=>aO O w A (compareOp op a b) (fun c jR=>aO O w A (truthy c) Q jR) eg) bC) s)(hm:behindInMarks op r=false):
 aO O w A (isTrue (.Compare l [op] [r] pos) I le) Q s:=by
 rw[isTrue_Compare1,markedBehindIn_of_false hm];exact b1 (dH h fun a bC h₁=>b1 (eR (dH h₁ fun b eg fN=>fa (b1 (Am (dH fN fun c jR iG=>eR iG))))))
theorem aaK {attr:Str}(h:aO O w A (eval e I) (fun o bC=>aO O w A (getAttr o attr true) Q bC) s)
 (he:eval (.Attribute e attr pos) I=(do
  let o←eval e I
  standAt pos.atName
  let r←holding [o] (getAttr o attr true)
  letTemporaryGo e o r
  pure r)):aO O w A (eval (.Attribute e attr pos) I) Q s:=by
 rw[he];exact b1 (dH h fun o bC h₁=>fa (b1 (eR (dH h₁ fun r eg fN=>dJ (wpAny_letTemporaryGo (cN fN))))))
theorem M8 {i:aY}(h:aO O w A (eval e I) (fun o bC=>aO O w A (eval i I) (fun KE eg=>aO O w A (subscriptTail e i o KE) Q eg) bC) s):aO O w A (eval (.Subscript e i pos) I) Q s:=by rw[eval_Subscript];exact b1 (dH h fun o bC h₁=>b1 (eR (dH h₁ fun KE eg fN=>fa fN)))
theorem M7 {ME PX step:Option aY}
 (h:aO O w A (evalPart ME I) (fun l bC=>aO O w A (evalPart PX I) (fun u eg=>aO O w A (evalPart step I) (fun st jR=>
  Q (.ref jR.heap.objs.size) {jR with heap:=jR.heap.push {cls:=.type "slice",data:=.fields #[l,u,st]}}) eg) bC) s):aO O w A (eval (.Slice ME PX step p) I) Q s:=by
 rw[arm_eval_Slice];exact b1 (dH h fun l bC h₁=>b1 (eR (dH h₁ fun u eg fN=>b1 (eR (dH fN fun st jR iG=>cU (jC iG))))))
end
structure gE where
 h₀:fR
 j8:Str→Option aj
 pd:Str→Option aj
 G:Nat→Option V
 K:Frag
variable {B:gE}
structure gE.Ok (B:gE):Prop where
 g:B.h₀.Ns mainGlobals B.j8
 b:B.h₀.Ns builtinsNs B.pd
 lim:B.h₀.NoLimit
 dG:∃o,B.h₀.get? sysModules=E o
 K:B.K.In B.h₀
 glob:∀x v,f3 x=true→B.G (a7 x)=E v→∃gC,(B.j8 x=E gC∨(B.j8 x=none∧B.pd x=E gC))∧∀ρ h,aN ρ h v gC
def yv (I:Env)(h:fR)(x:Str)(v:aj):Prop:=
 (I.kindOf x=E .local∧∃m,h.Ns I.locals m∧m x=E v)∨
 (I.kindOf x=E .cell∧∃c o,I.cells.lookup x=E c∧h.get? c=E o∧o.data=.cell (E v))∨
 (I.kindOf x=E .free∧(x==("__classdict__":Str))=false∧∃c o,I.cells.lookup x=E c∧h.get? c=E o∧o.data=.cell (E v))
structure QK (I:Env)(ah:List bj)(ay:List Str)(loc:List V)(ρ:List bj)(h:fR):Prop where
 kind:I.scope.kind=.function
 glob:I.globals=mainGlobals
 blt:I.builtins=builtinsNs
 own:∀a∈ah,a∉ρ∧∃o,h.get? a=E o∧∀xs n,o.data≠.seq xs n
 m9:I.locals∈ah
 mV:∀x c,I.cells.lookup x=E c→c∈ah
 k4:∀(i:Nat) x v,ay[i]? =E x→loc[i]? =E v→v≠.aQ→∃gC,yv I h x gC∧aN ρ h v gC
 nu:∀x∈ay,(x==("__debug__":Str))=false
 ns:∃m,h.Ns I.locals m
 cl:∀x c,I.cells.lookup x=E c→∃v,h.IsCell c v
 qB:∀x c,I.cells.lookup x=E c→c≠I.locals
 inj:∀x y c,I.cells.lookup x=E c→I.cells.lookup y=E c→x=y
 eX:ay.Nodup
structure b0 (P:dj)(B:gE)(I:Env)(ah:List bj)(ay:List Str)(ρ:List bj)(H:List an)(loc:List V)(s:aS):Prop where
 am:bz P ρ H s.heap
 ck:QK I ah ay loc ρ s.heap
 bs:∀a o,B.h₀.get? a=E o→s.heap.get? a=E o∧a∉ρ∧a∉ah
theorem b0.keeps (r:b0 P B I ah ay ρ H loc s):
 ∀a o,B.h₀.get? a=E o→s.heap.get? a=E o:=fun a o e=>(r.bs a o e).1
theorem Om {x:Str}{v:aj}(ar:I.locals∈ah)(aI:∀x c,I.cells.lookup x=E c→c∈ah)
 (aB:∀a∈ah,∀o,h.get? a=E o→h'.get? a=E o)(r:yv I h x v):yv I h' x v:=by
 rcases r with⟨k,m,⟨o,es,ep,ax,q⟩,hm⟩|⟨k,c,o,e,ax,hd⟩|⟨k,n,c,o,e,ax,hd⟩
 .exact .inl ⟨k,m,⟨o,es,ep,aB _ ar _ ax,q⟩,hm⟩
 .exact .inr (.inl ⟨k,c,o,e,aB _ (aI _ _ e) _ ax,hd⟩)
 .exact .inr (.inr ⟨k,n,c,o,e,aB _ (aI _ _ e) _ ax,hd⟩)
theorem b0.step (r:b0 P B I ah ay ρ H loc s)
 (st:Step [] ρ s aV s')(am:bz P aV bp s'.heap):b0 P B I ah ay aV bp loc s':=by
 have Nv:∀a o,s.heap.get? a=E o→a∉ρ→a∉aV:=fun a o e aC a9=>by
  refine dr st.new fun n cj aL=>?_;subst cj;rcases List.mem_append.mp a9 with q|q
  .exact aC q
  .rw[aL a q] at e;exact c5 e
 have nf:∀a:bj,a∉([]:List bj):=fun _ h=>nomatch h;have jN:∀a∈ah,∀o,s.heap.get? a=E o→s'.heap.get? a=E o:=fun a aC o e=>st.keep a o e (r.ck.own a aC).1 (nf a);refine⟨am,⟨r.ck.kind,r.ck.glob,r.ck.blt,fun a aC=>?_,r.ck.m9,r.ck.mV,fun i x v aR cp bx=>?_,r.ck.nu,?_,fun x c aI=>?_,r.ck.qB,r.ck.inj,r.ck.eX⟩,fun a o e=>?_⟩
 .obtain⟨R,o,Z,bv⟩:=r.ck.own a aC;exact⟨Nv a o Z R,o,st.keep a o Z R (nf a),bv⟩
 .exact dr (r.ck.k4 i x v aR cp bx) fun gC R Z=>⟨gC,Om r.ck.m9 r.ck.mV jN R,Z.mono st.fW r.am.dg⟩
 .exact uO r.ck.ns fun m o es ep ax q=>⟨m,o,es,ep,jN _ r.ck.m9 _ ax,q⟩
 .exact mG (r.ck.cl x c aI) fun v o ax q=>⟨v,o,jN _ (r.ck.mV _ _ aI) _ ax,q⟩
 .exact hJ (r.bs a o e) fun R Z bv=>⟨st.keep a o R Z (nf a),Nv a o R Z,bv⟩
def jE (P:dj)(ρ:List bj)(s:aS)(Q:bE)(K:aj→aS→Prop):Prop:=
 ∀v bp aV y s',Q v bp→bz P aV bp s'.heap→aN aV s'.heap v y→Step [] ρ s aV s'→K y s'
theorem jE.after {Q:bE}{K:aj→aS→Prop}(p:jE P ρ s Q K)(st:Step [] ρ s uQ bC):jE P uQ bC Q K:=
 fun v bp aV y s' q am bV el=>p v bp aV y s' q am bV (st.trans el)
section
variable (O:hS)(w:fk)(B:gE)(C:hT)(A:fw)(I:Env)(ay:List Str)
def cV (e:aY)(x:aG):Prop:=∀ah loc H ρ s (Q:bE) (K:aj→aS→Prop),cG C B.G loc x H Q→b0 w.params B I ah ay ρ H loc s→jE w.params ρ s Q K→
 aO O w A (eval e I) K s
def ST (e:aY)(x:aG):Prop:=∀ah loc H ρ s (Q:Bool→List an→Prop) (K:Bool→aS→Prop),iP C B.G loc x (cG C B.G loc x) H Q→b0 w.params B I ah ay ρ H loc s→
 (∀b bp aV s',Q b bp→bz w.params aV bp s'.heap→Step [] ρ s aV s'→K b s')→aO O w A (isTrue e I (eval e I)) K s
def oR (es:List aY)(xs:gQ):Prop:=∀ah loc H ρ s (Q:List V→List an→Prop) (K:List aj→aS→Prop) (pos:Pos),lV C B.G loc xs H Q→b0 w.params B I ah ay ρ H loc s→
 (∀vs bp aV ys s',Q vs bp→bz w.params aV bp s'.heap→bK aV s'.heap vs ys→ys.length=es.length→Step [] ρ s aV s'→K ys s')→
 aO O w A (spliced (backTo pos (starEach es I))) K s
end
theorem aec {k:Nat}:cV O w B C A I ay (.Constant .none k p) .none:=fun _ _ H ρ s Q K h r q=>
 cN (q _ H ρ _ s h r.am .none (.refl _ _ _))
theorem adX {k:Nat}:cV O w B C A I ay (.Constant (.bool b) k p) (.bool b):=fun _ _ H ρ s Q K h r q=>
 cN (q _ H ρ _ s h r.am (.bool b) (.refl _ _ _))
theorem ad5 {i:Int}{k:Nat}:cV O w B C A I ay (.Constant (.int i) k p) (.int i):=fun _ _ H ρ s Q K h r q=>
 cU (u4 (q _ H ρ _ _ h r.am (.int i _) .toks))
theorem aeg {x:Str}{k:Nat}(aR:f3 x=true):cV O w B C A I ay (.Constant (.str x) k p) (.str (a7 x)):=fun _ _ H ρ s Q K h r q=>
 cU (wpAny_mkText (q _ H ρ _ _ h r.am (.str x _ aR) .toks))
theorem adZ {b:List UInt8}{k:Nat}(hz:b.length≤1000000):cV O w B C A I ay (.Constant (.bytes b) k p) (.bytes (b.map fun u=>(u.toNat:Int))):=fun _ _ H ρ s Q K h r q=>
 cU (Constant_bytes (q _ H ρ _ _ h r.am (by have:=aN.bytes (ρ:=ρ) (h:=s.heap) b.toArray s.toks (by simpa using hz);simpa [d1] using this) .toks))
set_option tactic.hygienic true in
theorem Mu {i:Nat}{K:V→Prop}(h:z4 loc i K):∃v,loc[i]? =E v∧v≠.aQ∧K v:=by
 unfold z4 at h
 split at h
 .exact h.elim
 .rename_i v aL e
  exact⟨v,e,aL,h⟩
 .exact h.elim
theorem ad8 {x:Str}{i:Nat}(aR:ay[i]? =E x):cV O w B C A I ay (.Name x p) (.loc i):=fun ah loc H ρ s Q K h r q=>by
 refine gz (Mu (K:=fun v=>Q v H) h) fun v e bx a9=>dr (r.ck.k4 i x v aR e bx) fun gC k4 bV=>?_;have k:=q v H ρ gC s a9 r.am bV (.refl _ _ _);have hd:=r.ck.nu x (List.mem_of_getElem? aR);rcases k4 with⟨ar,m,aL,hm⟩|⟨ar,c,o,aI,ax,kC⟩|⟨ar,aL,c,o,aI,ax,kC⟩
 .exact cU (wpAny_Name (wpAny_loadName_local r.ck.kind ar aL hm k) hd)
 .exact cU (wpAny_Name (wpAny_loadName_cell r.ck.kind ar aI ⟨o,ax,kC⟩ k) hd)
 .exact cU (wpAny_Name (wpAny_loadName_free r.ck.kind ar aI ⟨o,ax,kC⟩ k aL) hd)
theorem ad4 (ok:B.Ok){x:Str}(aR:f3 x=true)(aB:I.kindOf x=E .globalImplicit)(hd:(x==("__debug__":Str))=false):
 cV O w B C A I ay (.Name x p) (.glob (a7 x)):=fun ah loc H ρ s Q K h r q=>by
 change k1 (B.G (a7 x)) (fun v=>Q v H) at h;cases e:B.G (a7 x) with
 |none=>rw[e] at h;exact h.elim
 |some v=>
  rw[e] at h;refine dr (ok.glob x v aR e) fun gC cp bV=>?_;have k:=q v H ρ gC s h r.am (bV _ _) (.refl _ _ _);have b6:s.heap.Ns I.globals B.j8:=r.ck.glob▸ok.g.keeps r.keeps;refine cU (Hd r.ck.kind aB ?_ hd);rcases cp with cp|⟨R,Z⟩
  .exact loadGlobal_global b6 cp k
  .exact loadGlobal_builtin b6 R (r.ck.blt▸ok.b.keeps r.keeps) Z k
theorem bz.push (x:bz P ρ H h)(ob:Obj):bz P ρ H (h.push ob):=
 ⟨x.len,x.eX,fun i o a ax aC=>let ⟨hP,R,Z⟩:=x.at_ i o a ax aC
  ⟨hP,fx _ R,Z.mono ⟨⟨[],by simp,fun _ h=>nomatch h⟩,fun _ _ e _ _=>fx _ e⟩ x.dg⟩⟩
theorem eK.push (ob:Obj):eK ρ ρ h (h.push ob):=⟨⟨[],by simp,fun _ h=>nomatch h⟩,fun _ _ e _ _=>fx _ e⟩
theorem abg {Q:bE}{K:aj→aS→Prop}
 (am:bz P ρ H s.heap)(bV:bK ρ s.heap vs ys)(ar:ys.length≤1000000)(a9:Q (.tup vs) H)(q:jE P ρ s Q K):wpAny aA A (newTuple ys) K eY s:=by
 refine jC (q (.tup vs) H ρ _ _ a9 (am.push _) ?_ (.push _)) ?_
 .exact .tup (g5 _ rfl) (bV.mono (.push _) am.dg)
 .refine(?_:ys.toArray.size≤sizeLine+0);rw[List.size_toArray];simp only[sizeLine];lia
theorem aei {es:List aY}{xs:gQ}{k:Nat}(aE:oR O w B C A I ay es xs)(ar:es.length≤1000):cV O w B C A I ay (.Tuple es k p) (.tup xs):=fun ah loc H ρ s Q K h r q=>by exact aaP (aE ah loc H ρ s _ _ p h r fun vs bp aV ys s' a9 am bV len st=>cU (abg am bV (by lia) a9 (q.after st)))
theorem ints_of:∀{ys:List aj} {is:List Int},lC vs=E is→bK ρ h vs ys→IntsAre ys is:=by
 induction vs with
 |nil=>intro ys is e r;obtain rfl:=cF e;exact r.iK .nil
 |cons v vs aF=>
  intro ys is e r;refine r.gS fun y ys a dz=>?_;clear r
  induction v using V.casesOn with
  |int i=>
   refine(?_:(match lC vs with|some is=>E (i::is)|dn=>dn)=E is→_) e
   refine a.fh fun t=>?_;cases g:lC vs with
   |none=>exact fun e=>c5 e
   |some K6=>exact fun e=>cF e▸.cons i t (aF g dz)
  |_=>exact c5 e
theorem tX (r:bK ρ h vs ys)(n:Nat):eF P ρ h (fs vs) (listOf ys.toArray n):=by
 unfold fs;cases e:lC vs with
 |some is=>exact .ints (ints_of e r)
 |none=>exact .list r
theorem wU {o:an}{Q:bE}{K:aj→aS→Prop}(am:bz P ρ H s.heap)(hf:ob.isFreed=false)
 (sb:eF P (ρ++[s.heap.objs.size]) (s.heap.push ob) o ob)(a9:Q (.ref H.length) (H++[o]))(q:jE P ρ s Q K)(t:Nat):
 K (.ref s.heap.objs.size) {s with heap:=s.heap.push ob,toks:=t}:=by
 refine q _ _ _ _ _ a9 (am.alloc hf sb) (.ref ?_) (.alloc t);rw[←am.len,List.getElem?_append_right (kN _)];simp
theorem abf {Q:bE}{K:aj→aS→Prop}
 (am:bz P ρ H s.heap)(bV:bK ρ s.heap vs ys)(ar:ys.length≤1000000)(a9:Q (.ref H.length) (H++[fs vs]))(q:jE P ρ s Q K):wpAny aA A (newList ys) K eY s:=by
 refine jC (wU am rfl (tX (bV.mono .alloc am.dg) 0) a9 q s.toks) ?_
 .refine(?_:ys.toArray.size≤sizeLine+0);rw[List.size_toArray];simp only[sizeLine];lia
theorem ad9 {es:List aY}{xs:gQ}(aE:oR O w B C A I ay es xs)(ar:es.length≤1000):cV O w B C A I ay (.List es p) (.lst xs):=fun ah loc H ρ s Q K h r q=>by exact aaO (aE ah loc H ρ s _ _ p h r fun vs bp aV ys s' a9 am bV len st=>cU (abf am bV (by lia) a9 (q.after st)))
theorem Yl {a b:V}{f:Int→Int→Prop}(h:ii a b f):∃x y,a=.int x∧b=.int y∧f x y:=by
 induction a using V.casesOn with
 |int x=>induction b using V.casesOn with
  |int y=>exact⟨x,y,rfl,rfl,h⟩
  |_=>exact h.elim
 |_=>exact h.elim
theorem hj {a0:Type}{x:a0}{P:Prop}(h:(none:Option a0)=E x):P:=nomatch h
@[elab_as_elim] theorem kY {a b:V}{f:Int→Int→Prop}{x:aj}{aA:aj→aj→Prop}(e:ii a b f)(bJ:aN ρ h a x)(bm:aN ρ h b y)(k:∀i j t u,f i j→aA (.int i t) (.int j u)):aA x y:=by refine dD (Yl e) fun i j g=>?_;obtain rfl:=g.1;obtain rfl:=g.2.1;exact bJ.fh fun t=>bm.fh fun u=>k _ _ t u g.2.2
theorem bz.ints {l:Nat}{xs:List Int}(am:bz P ρ H h)(ar:ρ[l]? =E a)(e:H[l]? =E (.ints xs)):
 ∃ys n,h.get? a=E (listOf ys.toArray n)∧IntsAre ys xs:=
 (am.at_ l _ a e ar).elim fun ob g=>dD (show∃ys n,ob=listOf ys.toArray n∧IntsAre ys xs from g.2.inv) fun ys n q=>⟨ys,n,q.1▸g.1,q.2⟩
theorem S5 (is:List Int):∀t,IntsAre (canon t is) is:=List.rec (motive:=fun is=>∀t,IntsAre (canon t is) is) (fun _=>.nil) (fun _ _ aF t=>.cons _ _ (aF (t+1))) is
theorem bz.d6 {l:Nat}{xs:List Int}(am:bz P ρ H h)(ar:ρ[l]? =E a)(e:H[l]? =E (.d6 xs)):
 ∃ys n,h.get? a=E (listOf ys.toArray n)∧IntsAre ys xs:=
 (am.at_ l _ a e ar).elim fun ob g=>⟨_,_,(show ob=_ from g.2.inv)▸g.1,S5 _ _⟩
theorem bz.list {l:Nat}{xs:List V}(am:bz P ρ H h)(ar:ρ[l]? =E a)(e:H[l]? =E (.list xs)):
 ∃ys n,h.get? a=E (listOf ys.toArray n)∧bK ρ h xs ys:=
 (am.at_ l _ a e ar).elim fun ob g=>dD (show∃ys n,ob=listOf ys.toArray n∧bK ρ h xs ys from g.2.inv) fun ys n q=>⟨ys,n,q.1▸g.1,q.2⟩
theorem bz.cB {l:Nat}{b:List Int}(am:bz P ρ H h)(ar:ρ[l]? =E a)(e:H[l]? =E (.cB b)):
 ∃ys,h.get? a=E (e6 ys)∧ys.size≤1000000∧d1 ys=b:=
 (am.at_ l _ a e ar).elim fun ob g=>(show∃ys,ob=e6 ys∧_ from g.2.inv).elim fun ys q=>⟨ys,q.1▸g.1,q.2⟩
theorem bz.dict {l:Nat}(am:bz P ρ H h)(ar:ρ[l]? =E a)(e:H[l]? =E (.dict es n)):
 ∃xs,h.get? a=E (dictOf xs n)∧dc P ρ h es xs∧(∀e∈es,bU 4 e.1=true)∧eE es:=
 (am.at_ l _ a e ar).elim fun ob g=>(show∃xs,ob=dictOf xs n∧_ from g.2.inv).elim fun xs q=>⟨xs,q.1▸g.1,q.2⟩
theorem bz.inst {l d:Nat}(am:bz P ρ H h)(ar:ρ[l]? =E a)(e:H[l]? =E (.inst d)):
 ∃c x,h.get? a=E (instObj c x)∧ρ[d]? =E x∧oZ c=true:=
 (am.at_ l _ a e ar).elim fun ob g=>dD (show∃c x,ob=instObj c x∧ρ[d]? =E x∧oZ c=true from g.2.inv) fun c x q=>⟨c,x,q.1▸g.1,q.2⟩
@[elab_as_elim] theorem E6 {o:V}{x:aj}{K:Nat→Prop}{aA:aj→Prop}(c:AE o K)(r:aN ρ h o x)(k:∀l a,K l→ρ[l]? =E a→aA (.ref a)):aA x:=by
 induction o using V.casesOn with
 |ref l=>exact r.hl fun a e=>k l a c e
 |_=>exact fv c
section
variable {l:Nat}
theorem bz.mX {K:List (V×V)→Nat→Prop}(am:bz P ρ H h)(ar:ρ[l]? =E a)(c:Mine.mX H l K)
 (k:∀es n xs,H[l]? =E (.dict es n)→K es n→h.get? a=E (dictOf xs n)→dc P ρ h es xs→(∀e∈es,bU 4 e.1=true)→eE es→G):G:=by
 unfold Mine.mX at c;generalize e:H[l]? =f9 at c
 induction f9 using ez with
 |none=>exact c.elim
 |some o=>induction o using an.casesOn with
  |dict es n=>exact(am.dict ar e).elim fun xs g=>k es n xs e c g.1 g.2.1 g.2.2.1 g.2.2.2
  |_=>exact c.elim
theorem bz.rG {K:Nat→Prop}(am:bz P ρ H h)(ar:ρ[l]? =E a)(c:Mine.rG H l K)(k:∀d C x,K d→h.get? a=E (instObj C x)→ρ[d]? =E x→oZ C=true→G):G:=by
 unfold Mine.rG at c;generalize e:H[l]? =f9 at c
 induction f9 using ez with
 |none=>exact c.elim
 |some o=>induction o using an.casesOn with
  |inst d=>exact dD (am.inst ar e) fun C x g=>k d C x c g.1 g.2.1 g.2.2
  |_=>exact c.elim
end
theorem isList (e:h.get? a=E (listOf ys.toArray n)):h.IsList a ys.toArray:=⟨_,e,rfl,n,rfl⟩
theorem jE.int {Q:bE}{K:aj→aS→Prop}{i:Int}(q:jE P ρ s Q K)(am:bz P ρ H s.heap)(a9:Q (.int i) H)(n t:Nat):K (.int i t) {s with toks:=n}:=
 q _ H ρ _ _ a9 am (.int i t) .toks
theorem Sm {x n:Int}(h:x.natAbs<2^256)(aL:n≤1000):(Builtin.Int.intBits x:Int)+n≤2^27:=by have:=intBits_le h;lia
theorem V3 {x y:Int}(h:0<y):x.fdiv y=x/y:=by rw[Qq _ (oH h)]
theorem Wi {x y:Int}(h:0<y):x.fmod y=x% y:=by rw[Int.fmod_eq_emod_of_nonneg _ (oH h)]
theorem log2_lt {y:Int}(bl:0<y)(h:y<2^1024):y.natAbs.log2<9000:=by obtain⟨n,rfl⟩:=jV (oH bl);rw[←show((2^1024:Nat):Int)=2^1024 from Int.natCast_pow 2 1024] at h;exact sI ((Nat.log2_lt (oI (je.mp bl))).mpr (je.mp h)) (by decide)
theorem Ri {a b:V}{aA:V→V→Prop}(h:Iv a b H K)(hi:∀x y,K (.int (x+y)) H→aA (.int x) (.int y))
 (am:∀l m xs ys,H[l]? =E (.ints xs)→H[m]? =E (.ints ys)→cY (xs.length+ys.length≤1000000) (K (.ref H.length) (H++[.ints (xs++ys)]))→aA (.ref l) (.ref m)):aA a b:=by
 induction a using V.casesOn with
 |int x=>induction b using V.casesOn with
  |int y=>exact hi x y h
  |_=>exact h.elim
 |ref l=>induction b using V.casesOn with
  |ref m=>
   have k:=am l m;refine(?_:(match H[l]?,H[m]? with|some (.ints xs),E (.ints ys)=>cY (xs.length+ys.length≤1000000) (K (.ref H.length) (H++[.ints (xs++ys)]))|_,_=>False)→_) h
   clear h am hi;revert k;generalize H[l]? =eZ;generalize H[m]? =eC;intro k h
   induction eZ using ez with
   |none=>exact h.elim
   |some eZ=>induction eZ using an.casesOn with
    |«ints» xs=>induction eC using ez with
     |none=>exact h.elim
     |some eC=>induction eC using an.casesOn with
      |«ints» ys=>exact k xs ys rfl rfl h
      |_=>exact h.elim
    |_=>exact h.elim
  |_=>exact h.elim
 |_=>exact h.elim
theorem Sk {a b:V}{x:aj}{Q:bE}{K:aj→aS→Prop}(h:IP op a b H Q)(am:bz w.params ρ H s.heap)
 (bJ:aN ρ s.heap a x)(bm:aN ρ s.heap b y)(q:jE w.params ρ s Q K):wpAny (model O w) A (binaryOp op x y) K eY s:=by
 induction op using QD with
 |Add=>
  refine Ri (aA:=fun a b=>aN ρ s.heap a x→aN ρ s.heap b y→_) h (fun i j h bJ bm=>bJ.fh fun t=>bm.fh fun u=>PySem.P.add_int (q.int am h _ _)) (fun l m xs ys aW aJ h bJ bm=>?_) bJ bm;refine bJ.hl fun l ar=>bm.hl fun m hm=>dD (am.ints ar aW) fun vs n g=>dD (am.ints hm aJ) fun bY k fo=>nR h fun R Z=>?_;have DP:vs.length+bY.length≤sizeLine:=e4 (g.2.length▸fo.2.length▸R) (by decide);refine concat_meets ⟨_,g.1,rfl⟩ ⟨_,fo.1,rfl⟩ noFill_list_add seq_list_add PySem.F.slot_list_add PySem.F.entry_list_add (PySem.F.args_list_add_2 _ _)
   (list_addW l m vs.toArray bY.toArray n k none none #[] #[] (by simpa using DP)) ⟨g.1,fo.1,?_⟩
  rw[show vs.toArray++bY.toArray=(vs++bY).toArray by simp];exact wU am rfl (.ints (g.2.append fo.2)) Z q s.toks
 |Sub=>exact kY h bJ bm fun i j t u h=>PySem.P.sub_int (q.int am h _ _)
 |Mult=>exact kY h bJ bm fun i j t u h=>nR h fun aI h=>PySem.P.mul_int (q.int am h _ _) (aI.elim (fun c=>.of_right (intBits_le c)) fun c=>.of_left (intBits_le c))
 |FloorDiv=>exact kY h bJ bm fun i j t u h=>nR h fun aI h=>floordiv_int (sE aI.1) (by rw[V3 aI.1];exact q.int am h _ _) (.inl (Qy (log2_lt aI.1 aI.2)))
 |Mod=>exact kY h bJ bm fun i j t u h=>nR h fun aI h=>mod_int' (sE aI) (by rw[Wi aI];exact q.int am h _ _)
 |LShift=>exact kY h bJ bm fun i j t u h=>nR h fun aI h=>lshift_int aI.1 (Sm aI.2.2 aI.2.1) (q.int am h _ _)
 |RShift=>exact kY h bJ bm fun i j t u h=>nR h fun aI h=>rshift_int aI (by rw[Qq _ (oH (Int.pow_pos (by decide)))];exact q.int am h _ _)
 |BitAnd=>exact kY h bJ bm fun i j t u h=>and_int (q.int am h _ _)
 |BitOr=>exact kY h bJ bm fun i j t u h=>or_int (q.int am h _ _)
 |Pow=>exact kY h bJ bm fun i j t u h=>nR h fun aI h=>pow_int_small aI.1 (by lia) aI.2.2 (q.int am h _ _)
 |MatMult=>exact fv h
 |Div=>exact fv h
 |BitXor=>exact fv h
theorem adW {l r:aY}{x y:aG}(ar:cV O w B C A I ay l x)(am:cV O w B C A I ay r y):cV O w B C A I ay (.BinOp l op r p) (.bin op x y):=
 fun ah loc H ρ s Q K h d2 q=>aaL (ar ah loc H ρ s _ _ h d2 fun a aq bQ u bB R bt eD bk=>
  am ah loc aq bQ bB _ _ R (d2.step bk bt) fun b be cv v s2 Z cr jT cm=>cU (Sk Z cr (eD.mono cm.fW bt.dg) jT ((q.after bk).after cm)))
theorem aeb {x:aG}(he:cV O w B C A I ay e x):cV O w B C A I ay (.UnaryOp .USub e p) (.neg x):=
 fun ah loc H ρ s Q K h d2 q=>M9 (he ah loc H ρ s _ _ h d2 fun a aq bQ u bB R bt eD bk=>by
  change EE a aq Q at R;unfold EE at R
  split at R
  .exact eD.fh fun t=>cU (PySem.P.neg_int ((q.after bk).int bt R _ _))
  .exact R.elim)
theorem Bg {a:V}{x:aj}{Q:Bool→Prop}{K:Bool→aS→Prop}(h:pB a H Q)(bJ:aN ρ s.heap a x)
 (q:∀b,Q b→K b s):wpAny (model O w) A (truthy x) K eY s:=by
 unfold pB at h
 split at h
 .cases bJ;exact truthy_none (q _ h)
 .cases bJ;exact aX (q _ h)
 .exact bJ.fh fun t=>PySem.P.truthy_int (q _ h)
 .exact h.elim
theorem aed {x:aG}(he:cV O w B C A I ay e x):cV O w B C A I ay (.UnaryOp .Not e p) (.not x):=
 fun ah loc H ρ s Q K h d2 q=>M9 (he ah loc H ρ s _ _ h d2 fun a aq bQ u bB R bt eD bk=>
  cU (not_of (Bg R eD fun b az=>(q.after bk) _ aq bQ _ bB az bt (.bool _) (.refl _ _ _))))
theorem adT {f:aY}{r:List aY}{x y:aG}(he:cV O w B C A I ay e x)(hf:cV O w B C A I ay (.BoolOp .And (f::r) p) y):
 cV O w B C A I ay (.BoolOp .And (e::f::r) p) (.and x y):=
 fun ah loc H ρ s Q K h d2 q=>aaQ (he ah loc H ρ s _ _ h d2 fun a aq bQ u bB R bt eD bk=>
  cU (Bg R eD fun b az=>by
   induction b using eo with
   |true=>exact hf ah loc aq bQ bB _ _ az (d2.step bk bt) (q.after bk)
   |false=>exact q _ aq bQ _ bB az bt eD bk))
theorem aee {f:aY}{r:List aY}{x y:aG}(he:cV O w B C A I ay e x)(hf:cV O w B C A I ay (.BoolOp .Or (f::r) p) y):
 cV O w B C A I ay (.BoolOp .Or (e::f::r) p) (.or x y):=
 fun ah loc H ρ s Q K h d2 q=>aaY (he ah loc H ρ s _ _ h d2 fun a aq bQ u bB R bt eD bk=>
  cU (Bg R eD fun b az=>by
   induction b using eo with
   |true=>exact q _ aq bQ _ bB az bt eD bk
   |false=>exact hf ah loc aq bQ bB _ _ az (d2.step bk bt) (q.after bk)))
theorem adY {op:BoolOp}{x:aG}(he:cV O w B C A I ay e x):cV O w B C A I ay (.BoolOp op [e] p) x:=he
theorem ad6 {a b:aY}{x y z:aG}(cW:ST O w B C A I ay t x)(aC:cV O w B C A I ay a y)(az:cV O w B C A I ay b z):
 cV O w B C A I ay (.IfExp t a b p) (.ite x y z):=
 fun ah loc H ρ s Q K h d2 q=>aaN (cW ah loc H ρ s _ _ h d2 fun c aq bQ bB R bt bk=>by
  induction c using eo with
  |true=>exact aC ah loc aq bQ bB _ _ R (d2.step bk bt) (q.after bk)
  |false=>exact az ah loc aq bQ bB _ _ R (d2.step bk bt) (q.after bk))
theorem afv {x:aG}(he:ST O w B C A I ay e x):ST O w B C A I ay (.UnaryOp .Not e p) (.not x):=
 fun ah loc H ρ s Q K h d2 q=>aa4 (he ah loc H ρ s _ _ h d2 fun c aq bQ bB R bt bk=>q _ aq bQ bB R bt bk)
theorem afu {a b:aY}{x y z:aG}(cW:ST O w B C A I ay t x)(aC:ST O w B C A I ay a y)(az:ST O w B C A I ay b z):
 ST O w B C A I ay (.IfExp t a b p) (.ite x y z):=
 fun ah loc H ρ s Q K h d2 q=>aa3 (cW ah loc H ρ s _ _ h d2 fun c aq bQ bB R bt bk=>by
  induction c using eo with
  |true=>exact aC ah loc aq bQ bB _ _ R (d2.step bk bt) fun b be cv s2 Z cr cm=>q b be cv s2 Z cr (bk.trans cm)
  |false=>exact az ah loc aq bQ bB _ _ R (d2.step bk bt) fun b be cv s2 Z cr cm=>q b be cv s2 Z cr (bk.trans cm))
theorem afr {f:aY}{r:List aY}{x y:aG}(he:ST O w B C A I ay e x)(hf:ST O w B C A I ay (.BoolOp .And (f::r) p) y):
 ST O w B C A I ay (.BoolOp .And (e::f::r) p) (.and x y):=
 fun ah loc H ρ s Q K h d2 q=>Nh (he ah loc H ρ s _ _ h d2 fun c aq bQ bB R bt bk=>by
  induction c using eo with
  |true=>exact hf ah loc aq bQ bB _ _ R (d2.step bk bt) fun b be cv s2 Z cr cm=>q b be cv s2 Z cr (bk.trans cm)
  |false=>exact q _ aq bQ bB R bt bk)
theorem afw {f:aY}{r:List aY}{x y:aG}(he:ST O w B C A I ay e x)(hf:ST O w B C A I ay (.BoolOp .Or (f::r) p) y):
 ST O w B C A I ay (.BoolOp .Or (e::f::r) p) (.or x y):=
 fun ah loc H ρ s Q K h d2 q=>Ni (he ah loc H ρ s _ _ h d2 fun c aq bQ bB R bt bk=>by
  induction c using eo with
  |true=>exact q _ aq bQ bB R bt bk
  |false=>exact hf ah loc aq bQ bB _ _ R (d2.step bk bt) fun b be cv s2 Z cr cm=>q b be cv s2 Z cr (bk.trans cm))
theorem afs {x:aG}(he:ST O w B C A I ay e x):ST O w B C A I ay (.BoolOp .And [e] p) x:=
 fun ah loc H ρ s Q K h d2 q=>Nh (he ah loc H ρ s _ _ h d2 fun c aq bQ bB R bt bk=>by
  induction c using eo with
  |true=>exact cU (isTrue_and_nil (q _ aq bQ bB R bt bk))
  |false=>exact q _ aq bQ bB R bt bk)
theorem afx {x:aG}(he:ST O w B C A I ay e x):ST O w B C A I ay (.BoolOp .Or [e] p) x:=
 fun ah loc H ρ s Q K h d2 q=>Ni (he ah loc H ρ s _ _ h d2 fun c aq bQ bB R bt bk=>by
  induction c using eo with
  |true=>exact q _ aq bQ bB R bt bk
  |false=>exact cU (isTrue_or_nil (q _ aq bQ bB R bt bk)))
noncomputable def aG.plain:aG→Bool
 |.not _=>false|.and _ _=>false|.or _ _=>false|.ite _ _ _=>false|.cmp _ _ _=>false
 |_=>true
noncomputable def CY:aY→Bool
 |.UnaryOp .Not _ _=>false|.BoolOp _ _ _=>false|.IfExp _ _ _ _=>false|.Compare _ _ _ _=>false
 |_=>true
theorem agN {G:Nat→Option V}{x:aG}(aR:x.plain=true){u:List an→bE→Prop}{K:Bool→List an→Prop}:
 iP C G loc x u H K=u H fun a aq=>pB a aq fun b=>K b aq:=by
 cases x<;>first|rfl|exact dZ aR
theorem Yx (he:CY e=true)(I:Env)(le:Sem aj):isTrue e I le=(do let v←le;standAt e.pos;holding [v] (truthy v)):=by
 induction e using jW with
 |UnaryOp op _ _=>cases op<;>first|rfl|exact dZ he
 |BoolOp=>exact dZ he
 |IfExp=>exact dZ he
 |Compare=>exact dZ he
 |_=>rfl
theorem afy {x:aG}(aR:x.plain=true)(he:CY e=true)(h:cV O w B C A I ay e x):ST O w B C A I ay e x:=
 fun ah loc H ρ s Q K cp d2 q=>aa5 (h ah loc H ρ s _ _ (agN aR▸cp) d2 fun a aq bQ u bB R bt eD bk=>cU (Bg R eD fun b az=>q b aq bQ bB az bt bk)) (Yx he I _)
theorem KW {a:V}{x:aj}(e:rI a=E b)(r:aN ρ h a x):plainIs x .none=true∧(x==cg)=b:=by cases r<;>obtain rfl:=cF e<;>exact⟨rfl,by first|rfl|(rw[beq_eq_false_iff_ne];intro q;cases q)⟩
section
open PySem.SeqAt
theorem Jx {f:V→V→Option Bool}{u:V}{c:Bool}{P:Prop}(e:gU f (v::vs) (u::ce)=E c)
 (h:∀p q,f v u=E p→gU f vs ce=E q→c=(p&&q)→P):P:=by
 unfold gU at e;revert e;generalize f v u=eZ at h;generalize gU f vs ce=eC at h;intro e
 induction eZ using ez with
 |none=>exact hj e
 |some p=>induction eC using ez with
  |none=>exact hj e
  |some q=>exact h p q rfl rfl (fe e).symm
structure yd (b2:aj→aj→Bool→Prop)(xs ys:List aj)(c:Bool)(e:Nat→Bool):Prop where
 at_:∀j (R:j<xs.length) (Z:j<ys.length),b2 xs[j] ys[j] (e j)
 all:((List.range (min xs.length ys.length)).all e&&xs.length==ys.length)=c
theorem yd.cons {b2:aj→aj→Bool→Prop}{x:aj}{p c:Bool}{g:Nat→Bool}(a:b2 x y p)(h:yd b2 xs ys c g):yd b2 (x::xs) (y::ys) (p&&c) fun j=>Nat.casesOn j p g:=by
 refine⟨fun j R Z=>?_,?_⟩
 .induction j using ia with
  |zero=>exact a
  |succ j=>exact h.1 j (xV R) (xV Z)
 .rw[←h.2,List.length_cons,List.length_cons,Nat.succ_min_succ,List.range_succ_eq_map,List.all_cons,List.all_map];have:(xs.length+1==ys.length+1)=(xs.length==ys.length):=by rw[uS,beq_iff_eq,beq_iff_eq];exact⟨lZ,congrArg _⟩
  rw[this,←Bool.and_assoc];rfl
theorem Jy {f:V→V→Option Bool}{b2:aj→aj→Bool→Prop}:∀{ce:List V} {xs ys:List aj} {c:Bool},gU f vs ce=E c→bK ρ h vs xs→bK ρ h ce ys→
 (∀v u x y k,f v u=E k→aN ρ h v x→aN ρ h u y→b2 x y k)→∃e:Nat→Bool,yd b2 xs ys c e:=by
 induction vs with
 |nil=>
  intro ce xs ys c e bJ bm _;refine bJ.iK ⟨fun _=>true,fun j R _=>absurd R (xW _),?_⟩
  induction ce using List.casesOn with
  |nil=>exact bm.iK (cF e)
  |cons _ _=>exact bm.gS fun _ _ _ _=>cF e
 |cons v vs aF=>
  intro ce xs ys c e bJ bm hf;refine bJ.gS fun x xs a r=>?_
  induction ce using List.casesOn with
  |nil=>exact bm.iK ⟨fun _=>true,fun j _ Z=>absurd Z (xW _),cF e⟩
  |cons u bY=>exact bm.gS fun y ys b t=>Jx e fun p q aW aJ cJ=>cJ▸(aF aJ r t hf).elim fun g b6=>⟨_,b6.cons (hf _ _ _ _ _ aW a b)⟩
theorem bK.length (r:bK ρ h vs xs):vs.length=xs.length:=
 bK.rec (motive_1:=fun _ _ _=>True) (motive_2:=fun vs xs _=>vs.length=xs.length) trivial (fun _=>trivial) (fun _ _=>trivial) (fun _ _ _=>trivial) (fun _ _ _=>trivial) (fun _ _ _=>trivial) (fun _=>trivial) rfl (fun _ _ _ b=>congrArg (· +1) b) r
theorem zE {is:List Int}(r:IntsAre ys is):bK ρ h (is.map .int) ys:=
 IntsAre.rec (motive:=fun ys is _=>bK ρ h (is.map .int) ys) .nil (fun i t {_ _} _ k=>.cons (.int i t) k) r
theorem y7 {f:V→V→Option Bool}:∀{ce:List V} {xs:List aj} {c:Bool},gU f vs ce=E c→bK ρ h vs xs→bK ρ h ce xs→
 (∀v u x k,f v u=E k→aN ρ h v x→aN ρ h u x→k=true)→c=true:=by
 induction vs with
 |nil=>
  intro ce xs c e bJ;refine bJ.iK fun bm _=>?_
  induction ce using List.casesOn with
  |nil=>exact(cF e).symm
  |cons _ _=>exact nomatch bm
 |cons v vs aF=>
  intro ce xs c e bJ bm hf
  induction ce using List.casesOn with
  |nil=>exact bJ.gS (aA:=fun xs=>bK ρ h [] xs→c=true) (fun _ _ _ _ bm=>nomatch bm) bm
  |cons u bY=>exact bJ.gS (aA:=fun xs=>bK ρ h (u::bY) xs→c=true) (fun y ys a r bm=>dD bm.inv fun z zs q=>by obtain rfl:=(List.cons.inj q.1).1;obtain rfl:=(List.cons.inj q.1).2;exact Jx e fun p Og aW aJ cJ=>by rw[cJ,hf _ _ _ _ aW a q.2.1,aF aJ r q.2.2 hf];rfl) bm
inductive mR (H:List an)(l:Nat):List V→Prop
 |ol (x:List V):H[l]? =E (.list x)→mR H l x
 |w1 (x:List Int):H[l]? =E (.ints x)→mR H l (x.map .int)
noncomputable def C1 (a b:V):Option Bool:=match a,b with|.int x,.int y=>E (decide (x=y))|_,_=>dn
theorem Jw {u:V}{k:Bool}{aA:V→V→Bool→Prop}(e:C1 v u=E k)(f:∀i j,aA (.int i) (.int j) (decide (i=j))):aA v u k:=by
 cases v<;>first|exact hj e|(cases u<;>first|exact hj e|exact fe e▸f _ _)
theorem UI (xs:List Int):∀ys:List Int,gU C1 (xs.map .int) (ys.map .int)=E (decide (xs=ys)):=by
 induction xs with
 |nil=>intro ys;cases ys<;>rfl
 |cons x xs aF=>
  intro ys
  induction ys using List.casesOn with
  |nil=>rfl
  |cons y ys=>rw[List.map_cons,List.map_cons,gU,aF ys];exact congrArg E (by rw[uS,fJ,decide_eq_true_eq,decide_eq_true_eq,decide_eq_true_eq,List.cons.injEq])
inductive sQ (H:List an)(n:Nat):(V→V→Option Bool)→Prop
 |j4:sQ H n C1
 |iX:sQ H n (e8 H n)
theorem UK {l:Nat}{c:Bool}{P:Prop}(e:e8 H (n+1) (.ref l) (.ref m)=E c)
 (h:∀f x y,sQ H n f→mR H l x→mR H m y→gU f x y=E c→P):P:=by
 have cM:(match H[l]?,H[m]? with
  |some (.ints x),E (.ints y)=>E (decide (x=y))
  |some (.list x),E (.list y)=>gU (e8 H n) x y
  |some (.list x),E (.ints y)=>gU (e8 H n) x (y.map .int)
  |some (.ints x),E (.list y)=>gU (e8 H n) (x.map .int) y
  |_,_=>dn)=E c:=e
 have R:=fun x=>@mR.ol H l x;have Z:=fun x=>@mR.w1 H l x;have bv:=fun x=>@mR.ol H m x;have cZ:=fun x=>@mR.w1 H m x;clear e;revert R Z bv cZ cM;generalize H[l]? =eZ;generalize H[m]? =eC;intro e R Z bv cZ
 induction eZ using ez with
 |none=>exact hj e
 |some eZ=>induction eC using ez with
  |none=>cases eZ<;>exact hj e
  |some eC=>
   induction eZ using an.casesOn with
   |«list» x=>induction eC using an.casesOn with
    |«list» y=>exact h _ _ _ .iX (R _ rfl) (bv _ rfl) e
    |«ints» y=>exact h _ _ _ .iX (R _ rfl) (cZ _ rfl) e
    |_=>exact hj e
   |«ints» x=>induction eC using an.casesOn with
    |«list» y=>exact h _ _ _ .iX (Z _ rfl) (bv _ rfl) e
    |«ints» y=>exact h _ _ _ .j4 (Z _ rfl) (cZ _ rfl) ((UI _ _).trans e)
    |_=>exact hj e
   |_=>exact hj e
theorem JB {a b:V}{c:Bool}{aA:V→V→Bool→Prop}(e:e8 H (n+1) a b=E c)(bl:aA .none .none true)(az:∀p q,aA (.bool p) (.bool q) (p==q))
 (hi:∀p q,aA (.int p) (.int q) (decide (p=q)))(aE:∀p q,aA (.str p) (.str q) (c1 p q))(cu:∀p q,aA (.bytes p) (.bytes q) (decide (p=q)))
 (cW:∀p q c,gU (e8 H n) p q=E c→aA (.tup p) (.tup q) c)(R:∀q,aA .none (.tup q) false)(Z:∀p,aA (.tup p) .none false)
 (am:∀l m f x y c,sQ H n f→mR H l x→mR H m y→gU f x y=E c→aA (.ref l) (.ref m) c):aA a b c:=by
 induction a using V.casesOn with
 |none=>induction b using V.casesOn with
  |none=>exact fe e▸bl
  |tup q=>exact fe e▸R q
  |_=>exact hj e
 |bool p=>induction b using V.casesOn with
  |bool q=>exact fe e▸az p q
  |_=>exact hj e
 |int p=>induction b using V.casesOn with
  |int q=>exact fe e▸hi p q
  |_=>exact hj e
 |str p=>induction b using V.casesOn with
  |str q=>exact fe e▸aE p q
  |_=>exact hj e
 |bytes p=>induction b using V.casesOn with
  |bytes q=>exact fe e▸cu p q
  |_=>exact hj e
 |tup p=>induction b using V.casesOn with
  |tup q=>exact cW p q _ e
  |none=>exact fe e▸Z p
  |_=>exact hj e
 |ref l=>induction b using V.casesOn with
  |ref m=>exact UK e fun f x y R Z bv cZ=>am l m f x y c R Z bv cZ
  |_=>exact hj e
 |aQ=>exact hj e
theorem bz.seq {l:Nat}{xs:List V}(am:bz P ρ H h)(ar:ρ[l]? =E a)(e:mR H l xs):
 ∃ys n,h.get? a=E (listOf ys.toArray n)∧bK ρ h xs ys:=by
 cases e with
 |ol x e=>exact am.list ar e
 |w1 x e=>exact(am.ints ar e).elim fun ys g=>g.elim fun n g=>⟨ys,n,g.1,zE g.2⟩
theorem eK.grow (k:∀b o,h.get? b=E o→h'.get? b=E o):eK ρ ρ h h':=⟨⟨[],(List.append_nil _).symm,fun _ h=>nomatch h⟩,fun a o e _ _=>k a o e⟩
theorem eK.but {b3:bj}(k:∀b o,b≠b3→h.get? b=E o→h'.get? b=E o)(hB:∀xs n,h.get? b3≠E (gO xs n)):eK ρ ρ h h':=
 ⟨⟨[],(List.append_nil _).symm,fun _ h=>nomatch h⟩,fun a o e _ hd=>k a o (fun q=>hd.elim fun xs g=>g.elim fun n g=>hB xs n (by rw[←q,e,g])) e⟩
theorem bz.same (x:bz P ρ H h)(aB:∀a∈ρ,∀o,h.get? a=E o→h'.get? a=E o)(p:eK ρ ρ h h'):bz P ρ H h':=
 x.other (fun a aC=>(x.lt aC).elim fun o e=>(aB a aC o e).trans e.symm) p
theorem bz.grow (x:bz P ρ H h)(k:∀b o,h.get? b=E o→h'.get? b=E o):bz P ρ H h':=x.same (fun a _ o e=>k a o e) (.grow k)
theorem ER {xs:Array aj}(ax:h.get? a=E (seqObj "list" xs n))(ys:List aj)(m:Nat):h.get? a≠E (gO ys m):=fun e=>by rw[ax] at e;exact absurd (congrArg Obj.cls (fe e)) (by simp)
theorem ZM (aW:h.get? a=E (listOf xs.toArray n))(aJ:h.get? a=E (listOf ys.toArray m)):xs=ys:=by rw[aW] at aJ;have:=(Obj.mk.inj (fe aJ)).2.2.1;simp at this;exact this.1
theorem abv {a b:Array UInt8}(h:d1 a=d1 b):a=b:=by
 apply Array.ext';unfold d1 at h;have inj:Function.Injective fun u:UInt8=>(u.toNat:Int):=fun x y e=>UInt8.toNat_inj.mp (by have:(x.toNat:Int)=y.toNat:=e;lia);exact List.map_inj_right (fun x y e=>inj e)|>.mp h
theorem Gj (aW:h.get? a=E (gO xs n))(aJ:h.get? a=E (gO ys m)):xs=ys:=by rw[aW] at aJ;have:=(Obj.mk.inj (fe aJ)).2.2.1;simp at this;exact this.1
theorem UL (am:bz P ρ H h)(n:Nat):∀(a b:V) (x:aj) (c:Bool),e8 H n a b=E c→aN ρ h a x→aN ρ h b x→c=true:=by
 induction n with
 |zero=>intro a b x c e;exact c5 e
 |succ n aF=>
  intro a b x c e bJ bm;have bJ:=bJ.inv;have bm:=bm.inv;revert bJ bm;refine JB (aA:=fun a b c=>yA ρ h a x→yA ρ h b x→c=true) e (fun _ _=>rfl) ?_ ?_ ?_ ?_ ?_ ?_ ?_ ?_
  .exact fun p q bJ bm=>beq_iff_eq.mpr (Value.bool.inj ((show x=_ from bJ).symm.trans bm))
  .exact fun p q bJ bm=>bJ.elim fun t e=>bm.elim fun u cM=>decide_eq_true (Value.int.inj (e.symm.trans cM)).1
  .exact fun p q bJ bm=>dD bJ fun y t e=>dD bm fun z u cM=>Nat.beq_eq.mpr (e.2.2.symm.trans ((congrArg a7 (Value.str.inj (e.1.symm.trans cM.1)).1).trans cM.2.2))
  .exact fun p q bJ bm=>dD bJ fun y t e=>dD bm fun z u cM=>decide_eq_true (e.2.2.symm.trans ((congrArg d1 (Value.bytes.inj (e.1.symm.trans cM.1)).1).trans cM.2.2))
  .exact fun p q c e bJ bm=>md bJ fun a xs n g=>md bm fun b ys m fo=>by obtain rfl:=BP (g.1.symm.trans fo.1);exact y7 e g.2.2 (Gj g.2.1 fo.2.1▸fo.2.2) aF
  .exact fun q bJ bm=>md bm fun b ys m fo=>q7 ((show x=_ from bJ).symm.trans fo.1)
  .exact fun q bJ bm=>md bJ fun b ys m fo=>q7 (fo.1.symm.trans (show x=_ from bm))
  .intro l m f u v c hf bB s2 e bJ bm;refine bJ.elim fun a g=>bm.elim fun b fo=>?_;obtain rfl:=BP (g.1.symm.trans fo.1);refine dD (am.seq g.2 bB) fun ys n k=>dD (am.seq fo.2 s2) fun zs n eA=>y7 e k.2 (ZM k.1 eA.1▸eA.2) ?_
   induction hf using sQ.casesOn with
   |j4=>exact fun v u x k e=>Jw (aA:=fun v u k=>aN ρ h v x→aN ρ h u x→k=true) e fun i j bJ bm=>bJ.int_inv.elim fun t e=>bm.int_inv.elim fun u cM=>decide_eq_true (Value.int.inj (e.symm.trans cM)).1
   |iX=>exact aF
theorem IW (a b:Array UInt8):(a.toList==b.toList)=decide (d1 a=d1 b):=by rw[uS,beq_iff_eq,decide_eq_true_eq];exact⟨fun h=>by unfold d1;rw[h],fun h=>by rw[abv h]⟩
theorem Ol (a:Array UInt8)(t:Tok)(b:Array UInt8)(u:Tok):RcAt A s (.bytes a t) (.bytes b u) (decide (d1 a=d1 b)):=fun O w b2 Q h=>by have:=@eq_bytes O w A b2 s a b t u Q (by rw[IW];exact h);exact this
theorem acK (a:Array UInt8)(t:Tok)(b:Array UInt8)(u:Tok):RcNeAt A s (.bytes a t) (.bytes b u) (!decide (d1 a=d1 b)):=fun O w b2 Q h=>by
 have:=@ne_bytes O w A b2 s a b t u Q (by
  have e:(a.toList !=b.toList)= !decide (d1 a=d1 b):=by rw[←IW];rfl
  rw[e];exact h)
 exact this
theorem Uc (a:Array UInt8)(t:Tok)(b:Array UInt8)(u:Tok):EqAt A s (.bytes a t) (.bytes b u) (decide (d1 a=d1 b)):=fun O w b2 Q h=>by
 unfold eqBool;refine gb<|oL (fun Ke=>?_) (fun _=>?_)
 .have e:=eq_of_beq Ke;cases e;exact af (iv (aX (by simpa using h)))
 .exact af (Ol a t b u O w b2 _ (BG h))
theorem isTup (e:h.get? a=E (gO xs n)):h.IsTuple a xs.toArray:=⟨_,e,rfl,n,rfl⟩
theorem ZQ {f:V→V→Option Bool}{l m:bj}{i:Nat}{c:Bool}(aW:s.heap.get? l=E (listOf xs.toArray i))(aJ:s.heap.get? m=E (listOf ys.toArray j))
 (e:gU f vs ce=E c)(cK:bK ρ s.heap vs xs)(dz:bK ρ s.heap ce ys)(bx:A.units<cLine)
 (hf:∀v u x y k,f v u=E k→aN ρ s.heap v x→aN ρ s.heap u y→EqAt A.in1 s x y k):RcAt A s (.ref l) (.ref m) c∧RcNeAt A s (.ref l) (.ref m) (!c):=by
 obtain⟨g,g1,bM⟩:=Jy (b2:=EqAt A.in1 s) e cK dz hf
 by_cases ar:xs.length=ys.length
 .rw[ar,Nat.min_self,beq_self_eq_true,xI] at bM;have g3:∀j (R:j<xs.toArray.size) (Z:j<ys.toArray.size),EqAt A.in1 s xs.toArray[j] ys.toArray[j] (g j):=fun j R Z=>by simpa using g1 j (by simpa using R) (by simpa using Z)
  have q0:=RcAt.lists (isList aW) (isList aJ) (by simpa using ar) bx g3;have xF:=RcNeAt.lists (isList aW) (isList aJ) (by simpa using ar) bx g3;rw[List.size_toArray,ar,bM] at q0 xF;exact⟨q0,xF⟩
 .have:c=false:=by rw[←bM,beq_eq_false_iff_ne.mpr ar,jd]
  subst this;exact⟨RcAt.lists_lengths (isList aW) (isList aJ) (by simpa using ar) bx,RcNeAt.lists_lengths (isList aW) (isList aJ) (by simpa using ar) bx⟩
theorem PQ {f:V→V→Option Bool}{l m:bj}{i:Nat}{c:Bool}(aW:s.heap.get? l=E (gO xs i))(aJ:s.heap.get? m=E (gO ys j))
 (e:gU f vs ce=E c)(cK:bK ρ s.heap vs xs)(dz:bK ρ s.heap ce ys)(bx:A.units<cLine)
 (hf:∀v u x y k,f v u=E k→aN ρ s.heap v x→aN ρ s.heap u y→EqAt A.in1 s x y k):RcAt A s (.ref l) (.ref m) c∧RcNeAt A s (.ref l) (.ref m) (!c):=by
 obtain⟨g,g1,bM⟩:=Jy (b2:=EqAt A.in1 s) e cK dz hf;have g3:∀j (R:j<xs.toArray.size) (Z:j<ys.toArray.size),EqAt A.in1 s xs.toArray[j] ys.toArray[j] (g j):=fun j R Z=>by simpa using g1 j (by simpa using R) (by simpa using Z)
 have q0:=RcAt.tuples (isTup aW) (isTup aJ) bx g3;have xF:=RcNeAt.tuples (isTup aW) (isTup aJ) bx g3;rw[List.size_toArray,List.size_toArray,bM] at q0 xF;exact⟨q0,xF⟩
theorem AZ {x y:Str}(aR:f3 x=true)(cu:f3 y=true):(x==y)=c1 (a7 x) (a7 y):=by rw[uS,beq_iff_eq];exact⟨fun h=>by rw[h];exact pH _,fun h=>Ff aR cu (fQ h)⟩
theorem zB (bx:A.units+(n+1)<cLine):A.in1.units+n<cLine:=by show A.units+1+n<cLine;lia
structure kq (A:fw)(s:aS)(x y:aj)(c:Bool):Prop where
 mk'::
 all:EqAt A s x y c∧RcAt A s x y c∧RcNeAt A s x y (!c)
theorem kq.mk {x:aj}{c:Bool}(R:EqAt A s x y c)(Z:RcAt A s x y c)(bv:RcNeAt A s x y (!c)):kq A s x y c:=⟨R,Z,bv⟩
theorem kq.refs {l m:bj}{c:Bool}(h:RcAt A s (.ref l) (.ref m) c∧RcNeAt A s (.ref l) (.ref m) (!c))(same:l=m→c=true):kq A s (.ref l) (.ref m) c:=
 .mk (by
  by_cases wi:l=m
  .rw[same wi,wi];exact EqAt.same _
  .exact .of_refs wi h.1) h.1 h.2
theorem UJ (am:bz P ρ H s.heap)(n:Nat):∀(A:fw) (a b:V) (x y:aj) (c:Bool),e8 H n a b=E c→aN ρ s.heap a x→aN ρ s.heap b y→
 A.units+n<cLine→kq A s x y c:=by
 induction n with
 |zero=>intro A a b x y c e;exact hj e
 |succ n aF=>
  intro A a b x y c e bJ bm bx;have hO:A.units<cLine:=mJ (sG _ _) bx;have hf:∀v u x y k,e8 H n v u=E k→aN ρ s.heap v x→aN ρ s.heap u y→EqAt A.in1 s x y k:=fun v u x y k aW cK dz=>(aF _ v u x y k aW cK dz (zB bx)).1.1;have same:x=y→c=true:=fun q=>UL am (n+1) a b x c e bJ (q▸bm);clear aF;revert bJ bm same;refine JB (aA:=fun a b c=>aN ρ s.heap a x→aN ρ s.heap b y→(x=y→c=true)→kq A s x y c) e ?_ ?_ ?_ ?_ ?_ ?_ ?_ ?_ ?_
  .exact fun bJ bm _=>bJ.t6 (bm.t6 (.mk (EqAt.same _) RcAt.none_none RcNeAt.none_none))
  .exact fun p q bJ bm _=>bJ.IU (bm.IU (.mk (EqAt.bool_bool _ _) (RcAt.bool_bool _ _) (RcNeAt.bool_bool _ _)))
  .exact fun p q bJ bm _=>bJ.fh fun t=>bm.fh fun u=>.mk (EqAt.int_int _ _ _ _) (RcAt.int_int _ _ _ _) (RcNeAt.int_int _ _ _ _)
  .exact fun p q bJ bm _=>bJ.ow (aA:=fun p x=>kq A s x y (p.beq q)) fun p t a8=>bm.ow (aA:=fun q y=>kq A s (.str p t) y ((a7 p).beq q)) fun q u a9=>
    AZ a8 a9▸.mk (EqAt.str_str _ _ _ _) (RcAt.str_str _ _ _ _) (RcNeAt.str_str _ _ _ _)
  .exact fun p q bJ bm _=>bJ.oX (aA:=fun p x=>kq A s x y (decide (p=q))) fun p t a8=>bm.oX (aA:=fun q y=>kq A s (.bytes p t) y (decide (d1 p=q))) fun q u a9=>
    .mk (Uc _ _ _ _) (Ol _ _ _ _) (acK _ _ _ _)
  .exact fun p q c e bJ bm same=>bJ.gN (aA:=fun x=>(x=y→c=true)→kq A s x y c) (fun l xs n aW cK same=>bm.gN (aA:=fun y=>(gP l=y→c=true)→kq A s (.ref l) y c) (fun m ys k aJ dz same=>.refs (PQ aW aJ e cK dz hO hf) fun q=>same (congrArg _ q)) same) same
  .exact fun q bJ bm _=>bJ.t6 (bm.gN fun _ _ _ aJ _=>.mk (EqAt.none_tuple (isTup aJ) hO) (RcAt.none_tuple (isTup aJ) hO) (RcNeAt.none_tuple (isTup aJ) hO))
  .exact fun q bJ bm _=>bm.t6 (bJ.gN fun _ _ _ aJ _=>.mk (EqAt.tuple_none (isTup aJ) hO) (RcAt.tuple_none (isTup aJ) hO) (RcNeAt.tuple_none (isTup aJ) hO))
  .intro l m f u v c b6 bB s2 e bJ bm same;refine bJ.hl (aA:=fun x=>(x=y→c=true)→kq A s x y c) (fun Mq aW same=>bm.hl (aA:=fun y=>(gP Mq=y→c=true)→kq A s (.ref Mq) y c) (fun rR aJ same=>?_) same) same;refine .refs (dD (am.seq aW bB) fun ys n g=>dD (am.seq aJ s2) fun zs k fo=>ZQ g.1 fo.1 e g.2 fo.2 hO ?_) fun q=>same (congrArg _ q)
   induction b6 using sQ.casesOn with
   |j4=>exact fun v u x y k e=>Jw (aA:=fun v u k=>aN ρ s.heap v x→aN ρ s.heap u y→EqAt A.in1 s x y k) e fun i j bJ bm=>bJ.fh fun t=>bm.fh fun u=>EqAt.int_int _ _ _ _
   |iX=>exact hf
theorem JA (am:bz P ρ H s.heap)(n:Nat)(A:fw)(a b:V)(x y:aj)(c:Bool)(e:e8 H n a b=E c)(bJ:aN ρ s.heap a x)(bm:aN ρ s.heap b y)
 (bx:A.units+n<cLine):EqAt A s x y c∧RcAt A s x y c∧RcNeAt A s x y (!c):=(UJ am n A a b x y c e bJ bm bx).1
end
section
theorem hA {P:Prop}(h:false=true):P:=nomatch h
theorem Y5 {f:V→V→Bool}{aA:List V→List V→Prop}(bl:aA [] [])(R:∀a r b t,f a b=true→aA r t→aA (a::r) (b::t)){xs:List V}:∀{ys:List V},iI f xs ys=true→aA xs ys:=by
 induction xs with
 |nil=>intro ys h;induction ys using List.casesOn with
  |nil=>exact bl
  |cons=>exact hA h
 |cons a r aF=>intro ys h;induction ys using List.casesOn with
  |nil=>exact hA h
  |cons b t=>have h:=(gD).mp h;exact R _ _ _ _ h.1 (aF h.2)
theorem Y6 {f:V→V→Bool}{xs ys:List V}(hf:∀a b,f a b=true→a=b)(h:iI f xs ys=true):xs=ys:=
 Y5 (aA:=fun x y=>x=y) rfl (fun a r b t h e=>by rw[hf a b h,e]) h
theorem wF (n:Nat):∀(a b:V),bn n a b=true→a=b:=by
 induction n with
 |zero=>
  intro a b h
  induction a using V.casesOn with
  |int i=>induction b using V.casesOn with
   |int j=>exact congrArg _ (of_decide_eq_true h)
   |_=>exact hA h
  |str i=>induction b using V.casesOn with
   |str j=>exact congrArg _ (fQ h)
   |_=>exact hA h
  |_=>cases b<;>exact hA h
 |succ n aF=>
  intro a b h
  induction a using V.casesOn with
  |int i=>induction b using V.casesOn with
   |int j=>exact congrArg _ (of_decide_eq_true h)
   |_=>exact hA h
  |str i=>induction b using V.casesOn with
   |str j=>exact congrArg _ (fQ h)
   |_=>exact hA h
  |tup x=>induction b using V.casesOn with
   |tup y=>exact congrArg _ (Y6 aF h)
   |_=>exact hA h
  |_=>cases b<;>exact hA h
theorem ml {a:V}{aA:Nat→V→Prop}(h:bU n a=true)(hi:∀n i,aA n (.int i))(aE:∀n c,aA n (.str c))(cW:∀m vs,vs.all (bU m)=true→aA (m+1) (.tup vs)):aA n a:=by
 induction a using V.casesOn with
 |int i=>exact hi _ i
 |str c=>exact aE _ c
 |tup vs=>induction n using ia with
  |zero=>exact hA h
  |succ m=>exact cW m vs h
 |_=>cases n<;>exact hA h
theorem KV {a:V}(h:bU n a=true):(∃i,a=.int i)∨(∃c,a=.str c)∨∃m vs,n=m+1∧a=.tup vs∧vs.all (bU m)=true:=
 ml (aA:=fun n a=>(∃i,a=.int i)∨(∃c,a=.str c)∨∃m vs,n=m+1∧a=.tup vs∧vs.all (bU m)=true) h (fun _ i=>.inl ⟨i,rfl⟩) (fun _ c=>.inr (.inl ⟨c,rfl⟩)) fun m vs h=>.inr (.inr ⟨m,vs,rfl,rfl,h⟩)
def z0 (n:Nat)(a b:V):Option Bool:=if(bU n a&&bU n b)=true then E (bn n a b) else dn
theorem Eb {a b:V}{c:Bool}{aA:Bool→Prop}(e:z0 n a b=E c)(h:bU n a=true→bU n b=true→aA (bn n a b)):aA c:=by
 unfold z0 at e
 by_cases k:(bU n a&&bU n b)=true
 .rw[if_pos k] at e;exact fe e▸h (gD.mp k).1 (gD.mp k).2
 .rw[if_neg k] at e;exact hj e
theorem Jz {xs:List V}:∀{ys:List V},xs.all (bU n)=true→ys.all (bU n)=true→gU (z0 n) xs ys=E (iI (bn n) xs ys):=by
 induction xs with
 |nil=>intro ys _ _;cases ys<;>rfl
 |cons a r aF=>
  intro ys aR cu
  induction ys using List.casesOn with
  |nil=>rfl
  |cons b t=>have aR:=gD.mp aR;have cu:=gD.mp cu;rw[gU,aF aR.2 cu.2,z0,aR.1,cu.1];rfl
theorem Mk (n:Nat)(i j:Int):bn n (.int i) (.int j)=decide (i=j):=by cases n<;>rfl
theorem Ml (n:Nat)(i j:Nat):bn n (.str i) (.str j)=c1 i j:=by cases n<;>rfl
theorem Y7 (n:Nat)(i:Int)(j:Nat):bn n (.int i) (.str j)=false:=by cases n<;>rfl
theorem Y8 (n:Nat)(i:Int)(j:Nat):bn n (.str j) (.int i)=false:=by cases n<;>rfl
theorem Md (n:Nat):∀(a b:V) (x:aj),bU n a=true→bU n b=true→aN ρ h a x→aN ρ h b x→bn n a b=true:=by
 have step:∀n,(∀m,n=m+1→∀(a b:V) (x:aj),bU m a=true→bU m b=true→aN ρ h a x→aN ρ h b x→bn m a b=true)→∀(a b:V) (x:aj),bU n a=true→bU n b=true→aN ρ h a x→aN ρ h b x→bn n a b=true:=by
  intro n aF a b x aC az bJ bm;revert aF b;refine ml (aA:=fun n a=>aN ρ h a x→(∀m,n=m+1→∀(a b:V) (x:aj),bU m a=true→bU m b=true→aN ρ h a x→aN ρ h b x→bn m a b=true)→∀b,bU n b=true→aN ρ h b x→bn n a b=true) aC ?_ ?_ ?_ bJ
  .intro n i bJ _ b az bm;exact bJ.fh (aA:=fun x=>aN ρ h b x→bn n (.int i) b=true) (fun t bm=>by cases bm;rw[Mk];exact decide_eq_true rfl) bm
  .intro n c bJ _ b az bm;exact bJ.ow (aA:=fun c x=>aN ρ h b x→bn n (.str c) b=true) (fun y t _ bm=>by cases bm;rw[Ml];exact pH _) bm
  .intro m vs qo bJ aF b az bm;refine bJ.gN (aA:=fun x=>aN ρ h b x→bn (m+1) (.tup vs) b=true) (fun a xs n aW cK bm=>?_) bm;revert aW;generalize me:gP a=y at bm;intro aW;refine ml (aA:=fun n b=>n=m+1→aN ρ h b y→bn (m+1) (.tup vs) b=true) az ?_ ?_ ?_ rfl bm
   .intro n i _ bm;cases bm;cases me
   .intro n i _ bm;exact bm.ow (aA:=fun i y=>gP a=y→bn (m+1) (.tup vs) (.str i)=true) (fun y t _ e=>nomatch e) me
   .intro rR ce DV em bm;refine bm.gN (aA:=fun y=>gP a=y→bn (m+1) (.tup vs) (.tup ce)=true) (fun Co ys k aJ dz e=>?_) me;cases em;cases e;exact y7 (Jz qo DV) cK (Gj aW aJ▸dz) fun v u x k e cK dz=>Eb (aA:=fun c=>c=true) e fun R Z=>aF m rfl v u x R Z cK dz
 induction n with
 |zero=>exact step 0 fun m e=>nomatch e
 |succ n aF=>exact step _ fun m e=>lZ e▸aF
open PySem.SeqAt in
theorem Ec (n:Nat):∀(A:fw) (a b:V) (x y:aj),bU n a=true→bU n b=true→aN ρ s.heap a x→aN ρ s.heap b y→A.units+n<cLine→EqAt A s x y (bn n a b):=by
 have step:∀(n:Nat),(∀m,n=m+1→∀(A:fw) (a b:V) (x y:aj),bU m a=true→bU m b=true→aN ρ s.heap a x→aN ρ s.heap b y→A.units+m<cLine→EqAt A s x y (bn m a b))→
  ∀(A:fw) (a b:V) (x y:aj),bU n a=true→bU n b=true→aN ρ s.heap a x→aN ρ s.heap b y→A.units+n<cLine→EqAt A s x y (bn n a b):=by
  intro n aF A a b x y aC az bJ bm bx;have hO:A.units<cLine:=mJ (sG _ _) bx;revert bx;revert az;revert aF;revert bJ;refine ml (aA:=fun n a=>aN ρ s.heap a x→(∀m,n=m+1→∀(A:fw) (a b:V) (x y:aj),bU m a=true→bU m b=true→aN ρ s.heap a x→aN ρ s.heap b y→A.units+m<cLine→EqAt A s x y (bn m a b))→
   bU n b=true→A.units+n<cLine→EqAt A s x y (bn n a b)) aC ?_ ?_ ?_
  .intro n i bJ _ az _;refine bJ.fh ?_;intro t;refine ml (aA:=fun n b=>aN ρ s.heap b y→EqAt A s (.int i t) y (bn n (.int i) b)) az ?_ ?_ ?_ bm
   .intro n j bm;rw[Mk];refine bm.fh ?_;intro u;exact EqAt.int_int _ _ _ _
   .intro n j bm;rw[Y7];exact bm.ow (aA:=fun _ y=>EqAt A s _ y false) fun y u _=>EqAt.int_str _ _ _ _
   .intro n vs _ bm;refine bm.gN ?_;intro m ys j aJ dz;exact EqAt.int_tuple _ _ (isTup aJ) hO
  .intro n c bJ _ az _;refine bJ.ow (aA:=fun c x=>EqAt A s x y (bn n (.str c) b)) fun p t a8=>ml (aA:=fun n b=>aN ρ s.heap b y→EqAt A s (.str p t) y (bn n (.str (a7 p)) b)) az ?_ ?_ ?_ bm
   .intro n j bm;rw[Y8];refine bm.fh ?_;intro u;exact EqAt.str_int _ _ _ _
   .intro n j bm;exact bm.ow (aA:=fun j y=>EqAt A s _ y (bn n (.str (a7 p)) (.str j))) fun q u a9=>by rw[Ml,←AZ a8 a9];exact EqAt.str_str _ _ _ _
   .intro n vs _ bm;refine bm.gN ?_;intro m ys j aJ dz;exact EqAt.str_tuple _ _ (isTup aJ) hO
  .intro m vs qo bJ aF az bx;refine bJ.gN ?_;intro l xs i aW cK;refine ml (aA:=fun n b=>n=m+1→aN ρ s.heap b y→EqAt A s (.ref l) y (bn (m+1) (.tup vs) b)) az ?_ ?_ ?_ rfl bm
   .intro n j _ bm;refine bm.fh ?_;intro u;exact EqAt.tuple_int _ _ (isTup aW) hO
   .intro n j _ bm;exact bm.ow (aA:=fun j y=>EqAt A s _ y (bn (m+1) (.tup vs) (.str j))) fun q u a9=>EqAt.tuple_str _ _ (isTup aW) hO
   .intro rR ce DV em bm;refine bm.gN ?_;intro tU ys j aJ dz;cases em;have e:=Jz qo DV;refine(kq.refs (PQ aW aJ e cK dz hO fun v u x y k e cK dz=>Eb (aA:=fun c=>EqAt A.in1 s x y c) e fun R Z=>aF m rfl A.in1 v u x y R Z cK dz (zB bx)) fun wi=>?_).1.1;subst wi;exact y7 e cK (Gj aW aJ▸dz) fun v u x k e cK dz=>Eb (aA:=fun c=>c=true) e fun R Z=>Md m v u x R Z cK dz
 induction n with
 |zero=>exact step 0 fun m e=>nomatch e
 |succ n aF=>exact step _ fun m e=>lZ e▸aF
inductive B8 (P:dj)(ρ:List bj)(n:Nat)(vs:List V)(s:aS):List aj→Array Int→aS→Prop
 |mk (done left:List V) (c2:List aj) (b:Array Int) (t:Nat):vs=done++left→bK ρ s.heap left c2→left.all (bU n)=true→b.toList=done.map (h6 P n)→B8 P ρ n vs s c2 b {s with toks:=t}
theorem Y3 (P:dj)(n:Nat)(i:Int):h6 P n (.int i)=hashInt i:=by cases n<;>rfl
theorem Y4 (P:dj)(n:Nat){p:Str}(a8:f3 p=true):h6 P n (.str (a7 p))=if p.cps.isEmpty=true then 0 else reduceHash (P.strHash p.cps):=by
 have:h6 P n (.str (a7 p))=if(tm (a7 p)).cps.isEmpty=true then 0 else reduceHash (P.strHash (tm (a7 p)).cps):=by cases n<;>rfl
 rw[this,Jf a8]
theorem Mh {c2:List aj}{b:Array Int}{done:List V}{t:Nat}(e:vs=done++k::aD)(ar:bK ρ s.heap aD c2)
 (aB:aD.all (bU n)=true)(az:b.toList=done.map (h6 P n)):B8 P ρ n vs s c2 (b.push (h6 P n k)) {s with toks:=t}:=
 .mk (done++[k]) aD _ _ _ (by rw[e,List.append_assoc];rfl) ar aB (by rw[Array.toList_push,az,List.map_append];rfl)
theorem D9 (n:Nat):∀(A:fw) (a:V) (x:aj) (s:aS) (Q:Int→aS→Prop),bU n a=true→aN ρ s.heap a x→A.units+n<cLine→
 (∀t,Q (h6 w.params n a) {s with toks:=t})→wpAny (model O w) A (pyHash x) Q b2 s:=by
 have ll:∀(m:Nat) (A:fw) (x:aj) (s:aS) (Q:Int→aS→Prop),(∀i,aN ρ s.heap (.int i) x→(∀t,Q (h6 w.params m (.int i)) {s with toks:=t})→wpAny (model O w) A (pyHash x) Q b2 s)∧
  ∀c,aN ρ s.heap (.str c) x→(∀t,Q (h6 w.params m (.str c)) {s with toks:=t})→wpAny (model O w) A (pyHash x) Q b2 s:=by
  intro m A x s Q;refine⟨fun i r=>?_,fun c r=>?_⟩
  .refine r.fh ?_;intro t q;rw[Y3] at q;exact wpAny_pyHash_int (q _)
  .refine r.ow (aA:=fun c x=>(∀t,Q (h6 w.params m (.str c)) {s with toks:=t})→wpAny (model O w) A (pyHash x) Q b2 s) fun p t a8 q=>?_
   rw[Y4 _ _ a8] at q;exact wpAny_pyHash_str (q _)
 induction n with
 |zero=>intro A a x s Q aC bJ bx;exact ml (aA:=fun n a=>n=0→aN ρ s.heap a x→(∀t,Q (h6 w.params 0 a) {s with toks:=t})→wpAny (model O w) A (pyHash x) Q b2 s) aC (fun _ i _=>(ll 0 A x s Q).1 i) (fun _ c _=>(ll 0 A x s Q).2 c) (fun m vs _ e=>nomatch e) rfl bJ
 |succ n aF=>
  intro A a x s Q aC bJ bx;refine ml (aA:=fun m a=>m=n+1→aN ρ s.heap a x→(∀t,Q (h6 w.params (n+1) a) {s with toks:=t})→wpAny (model O w) A (pyHash x) Q b2 s) aC (fun _ i _=>(ll _ A x s Q).1 i) (fun _ c _=>(ll _ A x s Q).2 c) ?_ rfl bJ
  intro m vs qo e r q;cases e;clear bJ ll;revert q;refine r.gN ?_;intro l xs i aW cK q;have ct:s.TypeIs (.ref l) "tuple":=⟨_,aW,rfl⟩;have aL:A.units<cLine:=mJ (sG _ _) bx;unfold pyHash
  first|unfold pyHashByItsType|skip
  first|refine af (wpAny_cRoomFor_or (.inr aL) ?_)|skip
  refine af (iR ct F.slot_tuple_hash.lookup ?_);refine(if_neg (by rw[beq_builtin_none];exact d8):(if(E (fE "tuple.__hash__")==E cg)=true then _ else _)=_)▸?_;refine af (iR ct F.slot_tuple_hash.lookup ?_);refine af (wpAny_callSpecialIfBoundUnlessNone?_slot ct F.slot_tuple_hash (hp F.slot_tuple_hash ct F.entry_tuple_hash ?_ (F.args_tuple_hash_1 _)));refine(?_:wpAny _ _ (Builtin.Tuple.tupleItemsOf (.ref l)>>=_) _ _ s);refine af (Hb aW rfl (af ?_));rw[←Qj];refine u3 _ (B8 w.params ρ n vs s) _ ?_ ?_ _ _ (.mk [] vs _ _ _ rfl cK qo rfl)
  .intro x c2 b s' hi;cases hi with|mk done left _ _ t e ar aB az=>
    cases ar with
    |@cons k _ Mn _ R lx=>
     rw[List.all_cons,fJ] at aB;refine af (aF _ _ _ _ _ aB.1 R (zB bx) fun mA=>?_)
     first
      |exact aX (Mh e lx aB.2 az)
      |exact af (aX (aX (Mh e lx aB.2 az)))
  .intro b s' hi;cases hi with|mk done left _ _ t e ar aB az=>
    cases ar;rw[List.append_nil] at e;subst e;refine(?_:wpAny _ _ (retInt (Builtin.Tuple.tupleHashOf b.toList)) _ _ _);replace q:∀t,Q (reduceHash (Builtin.Tuple.tupleHashOf (vs.map (h6 w.params n)))) {s with toks:=t}:=q
    rw[←az] at q;clear az;revert q;generalize Builtin.Tuple.tupleHashOf b.toList=z;intro q;refine wpAny_ret_mkInt ?_;refine(?_:wpAny _ _ (if(decide (-(2:Int)^63≤z)&&decide (z<2^63))=true then _ else _) Q b2 _);refine oL (fun am=>?_) (fun am=>?_)
    .unfold reduceHash at q;rw[if_pos am] at q;exact aX (q _)
    .unfold reduceHash at q;rw[if_neg am] at q;exact af (iv (aX (q _)))
inductive Ih (ρ:List bj)(n:Nat)(s:aS):List aj→aS→Prop
 |mk (left:List V) (c2:List aj):bK ρ s.heap left c2→left.all (bU n)=true→Ih ρ n s c2 s
theorem Oj (n:Nat):∀(m:Nat) (a:V) (x:aj) (s:aS) (Q:Bool→aS→Prop),bU n a=true→aN ρ s.heap a x→n≤m→Q true s→wpAny (model O w) A (eqIsQuiet m x) Q b2 s:=by
 have ll:∀(m:Nat) (x:aj) (s:aS) (Q:Bool→aS→Prop),Q true s→(∀i,aN ρ s.heap (.int i) x→wpAny (model O w) A (eqIsQuiet m x) Q b2 s)∧∀c,aN ρ s.heap (.str c) x→wpAny (model O w) A (eqIsQuiet m x) Q b2 s:=by
  intro m x s Q q;refine⟨fun i r=>?_,fun c r=>?_⟩
  .refine r.fh ?_;intro t;rw[eqIsQuiet_byValue m rfl];exact aX q
  .refine r.ow (aA:=fun c x=>wpAny (model O w) A (eqIsQuiet m x) Q b2 s) fun p t a8=>?_;rw[eqIsQuiet_byValue m rfl];exact aX q
 induction n with
 |zero=>intro m a x s Q aC bJ _ q;exact ml (aA:=fun n a=>n=0→aN ρ s.heap a x→wpAny (model O w) A (eqIsQuiet m x) Q b2 s) aC (fun _ i _=>(ll m x s Q q).1 i) (fun _ c _=>(ll m x s Q q).2 c) (fun m vs _ e=>nomatch e) rfl bJ
 |succ n aF=>
  intro m a x s Q aC bJ hm q;refine ml (aA:=fun k a=>k=n+1→aN ρ s.heap a x→wpAny (model O w) A (eqIsQuiet m x) Q b2 s) aC (fun _ i _=>(ll m x s Q q).1 i) (fun _ c _=>(ll m x s Q q).2 c) ?_ rfl bJ;intro k vs qo e r;cases e;clear bJ ll;refine r.gN ?_;intro l xs i aW cK;have ct:s.TypeIs (.ref l) "tuple":=⟨_,aW,rfl⟩
  induction m using ia with
  |zero=>exact absurd hm (Bx _)
  |succ m=>
   unfold eqIsQuiet;refine af (iR ct F.slot_tuple_eq.lookup ?_);refine(?_:wpAny _ _ (isInstance (.ref l) (.type "tuple")>>=_) _ _ s);refine af (pJ ct isSubtype_tuple_tuple (af (Ha aW rfl (af ?_))));refine(?_:wpAny _ _ (forIn xs.toArray _ _) _ _ s);rw[←Qj];refine u3 _ (fun c2 r s'=>r.1=none∧Ih ρ n s c2 s') _ ?_ ?_ _ _ ⟨rfl,.mk vs _ cK qo⟩
   .intro v c2 r s' hi;have am:=hi.1;cases hi.2 with|mk left _ ar aB=>cases ar with
     |@cons k _ Mn _ R lx=>rw[List.all_cons,fJ] at aB;exact af (aF m _ _ _ _ aB.1 R (xT hm) (aX ⟨rfl,.mk Mn _ lx aB.2⟩))
   .intro r s' hi;obtain⟨cK,dz⟩:=r;cases hi.1;cases hi.2;exact aX q
end
section
open PySem.SeqAt
def Ii (A:fw)(s:aS)(v:aj):Prop:=∀(O:hS) (w:fk) (b2:aj→aS→Prop) (Q:Bool→aS→Prop),Q true s→wpAny (model O w) A (eqIsQuiet 8 v) Q b2 s
structure pS (A:fw)(s:aS)(es:Array c3)(y:aj)(aL:Int)(dG:Nat→Bool):Prop where
 hash:∀(j:Nat) (e:c3),es[j]? =E e→dG j=true→e.hash=aL
 eq:∀(j:Nat) (e:c3),es[j]? =E e→EqAt A s e.key y (dG j)
 one:∀i j,i<es.size→j<es.size→dG i=true→dG j=true→i=j
 quiet:∀(j:Nat) (e:c3),es[j]? =E e→Ii A s e.key
 Oi:Ii A s y
 str:∀x t,y=.str x t→∀(j:Nat) (e:c3),es[j]? =E e→isExactStrKey e.key=true→e.key.isStr x=dG j
 same:∀(j:Nat) (e:c3),es[j]? =E e→e.key=y→dG j=true
theorem e3 {a0:Type}{c:Prop}[Decidable c]{a b:Sem a0}{Q:a0→aS→Prop}(h:¬c)(k:wpAny aA A b Q b2 s):wpAny aA A (if c then a else b) Q b2 s:=by rw[if_neg h];exact k
theorem uM {a0:Type}{c:Prop}[Decidable c]{a b:Sem a0}{Q:a0→aS→Prop}(h:c)(k:wpAny aA A a Q b2 s):wpAny aA A (if c then a else b) Q b2 s:=by rw[if_pos h];exact k
theorem wV:¬(n !=n)=true:=by rw[bne_self_eq_false];exact d8
theorem qr {n:Int}:¬(n !=n)=true:=by rw[bne_self_eq_false];exact d8
theorem afC {a0:Type}{Q:a0→aS→Prop}{f:Str→Tok→Sem a0}{r:Sem a0}(aE:b=true→∀p t,y=.str p t→wpAny aA A (f p t) Q b2 s)(am:wpAny aA A r Q b2 s):
 wpAny aA A (isExactStrKey.match_1 (fun _=>Sem a0) y (fun p t=>if b=true then f p t else r) fun _=>r) Q b2 s:=by
 induction y using Hg with
 |str p t=>exact oL (fun h=>aE h p t rfl) fun _=>am
 |_=>exact am
theorem acE {a0:Type}{Q:a0→aS→Prop}{f r:Sem a0}(aE:¬b=true)(am:wpAny aA A r Q b2 s):
 wpAny aA A (carriedByValue.match_1 (fun _=>Sem a0) y (fun _=>if b=true then f else r) fun _=>r) Q b2 s:=by
 induction y using Hg with
 |ref p=>exact e3 aE am
 |_=>exact am
noncomputable def r4 (es:Array c3)(aL:Int)(i:Nat):List Nat:=(List.range' i (es.size-i)).filter fun i=>(es[i]?.map (·.hash))==E aL
theorem acn (es:Array c3)(aL:Int):placesWithHash es.size (fun i=>es[i]?.map (·.hash)) aL=r4 es aL 0:=by rw[placesWithHash,List.range_eq_range'];rfl
structure nN (es:Array c3)(aL:Int)(dG:Nat→Bool)(c2:List Nat)(dO:Option Nat)(i:Nat):Prop where
 eq:c2=r4 es aL i
 no:dO=none→∀j,j<i→j<es.size→dG j=false
 yes:∀j,dO=E j→j<i∧j<es.size∧dG j=true
structure Q8 (es:Array c3)(aL:Int)(dG:Nat→Bool)(z:Nat)(c2:List Nat)(dO:Option Nat):Prop where
 lt:z<es.size
 no:dG z=false→nN es aL dG c2 dO (z+1)
 yes:dG z=true→dO=none∧nN es aL dG c2 (E z) (z+1)
theorem pS.skip {es:Array c3}(x:pS A s es y aL dG)(co:j<es.size)(a8:((es[j]?.map (·.hash))==E aL)=false):dG j=false:=by
 cases q:dG j with
 |false=>rfl
 |true=>rw[oF co,GX,x.hash j es[j] (oF co) q,beq_self_eq_true] at a8;exact a8
theorem nN.step {es:Array c3}{z i:Nat}{c2:List Nat}{dO:Option Nat}(x:pS A s es y aL dG)(h:nN es aL dG (z::c2) dO i):Q8 es aL dG z c2 dO:=by
 have g:=filter_range'_cons _ _ _ _ _ h.eq.symm;have DH:=g.1;have ec:z<es.size:=by
  refine q2 g.2.1 ?_;rcases GK i es.size with k|k
  .rw[xR k];exact kN _
  .rw[Qw k] at g;exact absurd g.2.1 (Nat.not_lt_of_le g.1)
 have zx:c2=r4 es aL (z+1):=by rw[g.2.2.2.2,xR (e4 DH (xS ec))];rfl
 have Yb:=g.2.2.2.1;clear g;have low:dO=none→∀j,j<z→j<es.size→dG j=false:=fun bD j h' co=>(Bw j i).elim (fun k=>h.no bD j k co) fun k=>x.skip co (Yb j k h');refine⟨ec,fun jq=>⟨zx,fun bD j R co=>?_,fun j e=>?_⟩,fun KA=>⟨?_,⟨zx,(fun e=>nomatch e),fun j e=>?_⟩⟩⟩
 .rcases Nat.lt_or_eq_of_le (Nat.le_of_lt_succ R) with h'|h'
  .exact low bD j h' co
  .rw[h'];exact jq
 .exact⟨GL (q2 (h.yes j e).1 DH),(h.yes j e).2⟩
 .clear low
  induction dO using ez with
  |none=>rfl
  |some j=>exact absurd (x.one j z (h.yes j rfl).2.1 ec (h.yes j rfl).2.2 KA) (ny (q2 (h.yes j rfl).1 DH))
 .obtain rfl:=cF e;exact⟨jy z,ec,KA⟩
theorem nN.fin {es:Array c3}{i:Nat}{dO:Option Nat}{K:Option Nat→Prop}(x:pS A s es y aL dG)(h:nN es aL dG [] dO i)
 (m4:(∀j,j<es.size→dG j=false)→K none)(o5:∀j,j<es.size→dG j=true→K (E j)):K dO:=by
 induction dO using ez with
 |some j=>exact o5 j (h.yes j rfl).2.1 (h.yes j rfl).2.2
 |none=>refine m4 fun j co=>(Bw j i).elim (fun k=>h.no rfl j k co) fun k=>x.skip co ?_;have:=List.filter_eq_nil_iff.mp h.eq.symm j (List.mem_range'_1.mpr ⟨k,by rw[xR (e4 k (xS co))];exact co⟩);exact Bn.mpr this
inductive Cg (es:Array c3)(aL:Int)(dG:Nat→Bool)(s:aS):List Nat→Option (Option Nat)×Unit→aS→Prop
 |mk (i:Nat) (c2:List Nat):nN es aL dG c2 none i→Cg es aL dG s c2 (none,()) s
inductive vi (es:Array c3)(aL:Int)(dG:Nat→Bool)(s:aS):List Nat→Option (Option Nat)×Option Nat→aS→Prop
 |mk (i:Nat) (c2:List Nat) (dO:Option Nat):nN es aL dG c2 dO i→vi es aL dG s c2 (none,dO) s
theorem nN.zero {es:Array c3}:nN es aL dG (r4 es aL 0) none 0:=⟨rfl,fun _ j h=>absurd h (xW _),fun _ e=>nomatch e⟩
theorem TJ {d:bj}{es:Array c3}{o:Obj}{Q:Option Nat→aS→Prop}(x:pS A s es y aL dG)
 (ax:s.heap.get? d=E o)(hd:o.data=.dict es n)(m4:(∀j,j<es.size→dG j=false)→Q none s)(o5:∀j,j<es.size→dG j=true→Q (E j) s):
 wpAny (model O w) A (dictWalkPlain d y aL es (r4 es aL 0)) Q b2 s:=by
 refine af<|u3 _ (Cg es aL dG s) _ ?_ ?_ _ _ (.mk 0 _ .zero)
 .intro z c2 b s' hi;cases hi with|mk i _ c0=>
   have g:=c0.step x;obtain⟨e,he⟩:∃e,es[z]? =E e:=⟨_,oF g.lt⟩;dsimp only;rw[he];refine oL (fun bD=>?_) fun bD=>?_
   .refine af (lj ax hd (af (x.eq z _ he _ _ _ _ (af (lj ax hd (e3 wV ?_))))));cases q:dG z with
    |true=>exact af (iv (aX (aX (o5 z g.lt q))))
    |false=>exact af (iv (aX (.mk _ _ (g.no q))))
   .refine aX (Cg.mk _ _ (g.no (x.skip g.lt ?_)));rw[he];exact Bn.mpr fun h=>bD (beq_iff_eq.mpr (fe (beq_iff_eq.mp h)))
 .intro b s' hi;cases hi with|mk i _ c0=>exact aX (c0.fin x (K:=fun r=>Q r s) m4 o5)
inductive Iq (es:Array c3)(s:aS):List aj→Option Bool×Unit→aS→Prop
 |mk (c2:List aj):(∀v∈c2,∃(j:Nat) (e:c3),es[j]? =E e∧e.key=v)→Iq es s c2 (none,()) s
theorem af7 {es:Array c3}(x:pS A s es y aL dG){ps:List Nat}{Q:Bool→aS→Prop}(q:Q false s):
 wpAny (model O w) A (tableMayTell y (ps.filterMap (fun i=>es[i]?.map (·.key)))) Q b2 s:=by
 unfold tableMayTell;refine oL (fun _=>aX q) fun _=>af (x.Oi _ _ _ _ (af<|u3 _ (Iq es s) _ ?_ ?_ _ _ (.mk _ fun v cp=>?_)))
 .intro z c2 r s' hi;cases hi with|mk am=>exact(am z List.mem_cons_self).elim fun j h=>h.elim fun e h=>h.2▸af (x.quiet j e h.1 _ _ _ _ (aX (.mk _ fun v cp=>am v (List.mem_cons_of_mem _ cp))))
 .intro r s' hi;cases hi;exact aX q
 .refine(List.mem_filterMap.mp cp).elim fun i h=>?_;have hi:=h.2;revert hi;cases Xo:es[i]? with
  |none=>exact fun h=>hj h
  |some e=>exact fun h=>⟨i,e,Xo,fe h⟩
theorem TH {d:bj}{es:Array c3}{o:Obj}{Q:Option Nat→aS→Prop}(x:pS A s es y aL dG)
 (ax:s.heap.get? d=E o)(hd:o.data=.dict es n)(m4:(∀j,j<es.size→dG j=false)→Q none s)(o5:∀j,j<es.size→dG j=true→Q (E j) s):
 wpAny (model O w) A (dictFind d y aL) Q b2 s:=by
 have Dq:¬(es.any fun e=>e.key==y&&e.hash !=aL)=true:=fun h=>by rw[Array.any_eq_true] at h;refine h.elim fun i h=>h.elim fun hi aI=>?_;have aI:=gD.mp aI;have e:=x.hash i _ (oF hi) (x.same i _ (oF hi) (beq_iff_eq.mp aI.1));exact absurd e (bne_iff_ne.mp aI.2)
 unfold dictFind;refine gb<|af (mM ax hd ?_)
 rw[acn];dsimp only;refine afC (fun DN p t me=>?_) ?_
 .have vX:∀j (e:c3),es[j]? =E e→isExactStrKey e.key=true:=fun j e he=>by rw[Array.all_eq_true] at DN;refine(Gy.mp he).elim fun co h=>?_;exact h▸DN j co
  clear Dq DN;unfold foundByValue;cases hf:es.findIdx? (·.key.isStr p) with
  |none=>refine aX (m4 fun j co=>?_);have:=Array.findIdx?_eq_none_iff.mp hf es[j] (Array.getElem_mem co);rw[←x.str p t me j _ (oF co) (vX j _ (oF co))];exact this
  |some i=>
   refine(Array.findIdx?_eq_some_iff_getElem.mp hf).elim fun ec h=>?_;have he:=oF ec;have aE:dG i=true:=by rw[←x.str p t me i _ he (vX i _ he)];exact h.1
   clear h;revert he;generalize es[i]=e;intro he;dsimp only;rw[he];refine af (lj ax hd (af (x.eq i _ he _ _ _ _ (af (lj ax hd ?_)))));rw[aE];exact e3 wV (af (iv (aX (o5 i ec aE))))
 refine oL (fun _=>TJ x ax hd m4 o5) fun _=>acE Dq ?_;clear Dq;have Pt:∀(K:Bool→Sem (Option Nat)),wpAny (model O w) A (K false) Q b2 s→wpAny (model O w) A (if(((r4 es aL 0).filterMap fun i=>es[i]?.map (·.key))==[y])=true then(do let t←pure false;K t) else(do let t←tableMayTell y ((r4 es aL 0).filterMap fun i=>es[i]?.map (·.key));K t)) Q b2 s:=
  fun K h=>oL (fun _=>af (aX h)) fun _=>af (af7 x h)
 refine Pt _ ?_;clear Pt;refine e3 d8<|af<|u3 _ (vi es aL dG s) _ ?_ ?_ _ _ (.mk 0 _ none .zero)
 .intro z c2 b s' hi;cases hi with|mk i _ dO c0=>
   have g:=c0.step x;obtain⟨e,he⟩:∃e,es[z]? =E e:=⟨_,oF g.lt⟩;dsimp only;rw[he];refine oL (fun bD=>?_) fun bD=>?_
   .refine af (lj ax hd (af (x.eq z _ he _ _ _ _ (af (lj ax hd (e3 wV ?_))))));cases q:dG z with
    |true=>refine uM rfl ?_;cases (g.yes q).1;exact e3 d8 (af (iv (oL (fun _=>aX (aX (o5 z g.lt q))) fun _=>aX (vi.mk _ _ _ (g.yes q).2))))
    |false=>exact e3 d8 (af (iv (e3 d8 (aX (vi.mk _ _ _ (g.no q))))))
   .refine aX (vi.mk _ _ _ (g.no (x.skip g.lt ?_)));rw[he];exact Bn.mpr fun h=>bD (beq_iff_eq.mpr (fe (beq_iff_eq.mp h)))
 .intro b s' hi;cases hi with|mk i _ dO c0=>exact aX (c0.fin x (K:=fun r=>Q r s) m4 o5)
end
section
open PySem.SeqAt
theorem dc.length {xs:List c3}(r:dc P ρ h es xs):es.length=xs.length:=
 dc.rec (motive:=fun es xs _=>es.length=xs.length) rfl (fun _ _ _ _ k=>congrArg (· +1) k) r
theorem dc.at {xs:List c3}{e:c3}(r:dc P ρ h es xs)(q:xs[j]? =E e):
 ∃k v,es[j]? =E (k,v)∧aN ρ h k e.key∧aN ρ h v e.val∧e.hash=h6 P 4 k:=by
 induction r generalizing j with
 |nil=>exact c5 q
 |cons a b c _ aF=>
  induction j using ia with
  |zero=>obtain rfl:=cF q;exact⟨_,_,rfl,a,b,c⟩
  |succ j=>exact aF q
theorem aN.NI {z:Str}{u:Tok}(r:aN ρ h v (.str z u)):f3 z=true∧v=.str (a7 z):=
 aN.casesOn (motive_1:=fun v x _=>∀z u,x=.str z u→f3 z=true∧v=.str (a7 z)) r (fun _ _ e=>q7 e) (fun _ _ _ e=>q7 e) (fun _ _ _ _ e=>q7 e)
  (fun x t a z u e=>(Value.str.inj e).1▸⟨a,rfl⟩) (fun _ _ _ _ _ e=>q7 e) (fun _ _ _ _ e=>q7 e) (fun _ _ _ e=>q7 e) z u rfl
theorem JX {K:Option V→Prop}:lu k es K→(∃(j:Nat) (eA v:V),es[j]? =E (eA,v)∧bn 4 eA k=true∧K (E v))∨((∀e∈es,bn 4 e.1 k=false)∧K dn):=by
 induction es with
 |nil=>exact fun h=>.inr ⟨fun _ h=>(nomatch h),h⟩
 |cons e r aF=>
  intro h;refine(?_:ao (bn 4 e.1 k) (K (E e.2)) (lu k r K)→_) h;cases q:bn 4 e.1 k with
  |true=>exact fun h=>.inl ⟨0,e.1,e.2,rfl,q,h⟩
  |false=>refine fun h=>(aF h).imp (fun g=>md g fun j a b f=>⟨j+1,a,b,f⟩) fun g=>⟨fun e he=>?_,g.2⟩;exact(List.mem_cons.mp he).elim (fun z=>z▸q) (g.1 e)
theorem Fj:∀{K:List (V×V)→Nat→Prop},oo k v es K→(∃(j:Nat) (eA lU:V),es[j]? =E (eA,lU)∧bn 4 eA k=true∧K (es.modify j fun e=>(e.1,v)) 0)∨((∀e∈es,bn 4 e.1 k=false)∧K (es++[(k,v)]) 1):=by
 induction es with
 |nil=>exact fun h=>.inr ⟨fun _ h=>(nomatch h),h⟩
 |cons e r aF=>
  intro K h;refine(?_:ao (bn 4 e.1 k) (K ((e.1,v)::r) 0) (oo k v r fun es=>K (e::es))→_) h;cases q:bn 4 e.1 k with
  |true=>exact fun h=>.inl ⟨0,e.1,e.2,rfl,q,h⟩
  |false=>refine fun h=>(aF h).imp (fun g=>md g fun j a b f=>⟨j+1,a,b,f⟩) fun g=>⟨fun e he=>?_,g.2⟩;exact(List.mem_cons.mp he).elim (fun z=>z▸q) (g.1 e)
theorem TA:∀{K:List (V×V)→Prop},rq k es K→∃(j:Nat) (e:V×V),es[j]? =E e∧bn 4 e.1 k=true∧K (es.eraseIdx j):=by
 induction es with
 |nil=>exact fun h=>h.elim
 |cons e r aF=>
  intro K h;refine(?_:ao (bn 4 e.1 k) (K r) (rq k r fun es=>K (e::es))→_) h;cases q:bn 4 e.1 k with
  |true=>exact fun h=>⟨0,e,rfl,q,h⟩
  |false=>exact fun h=>dD (aF h) fun j a f=>⟨j+1,a,f⟩
def ke (es:List (V×V))(k:V)(j:Nat):Bool:=match es[j]? with|some e=>bn 4 e.1 k|dn=>false
theorem Y9 {f:V→V→Bool}(h:∀a∈vs,f a a=true):iI f vs vs=true:=by
 induction vs with
 |nil=>rfl
 |cons a r aF=>simp only[iI,h a List.mem_cons_self,aF fun b az=>h b (List.mem_cons_of_mem _ az),Bool.and_self]
theorem rO:∀(n:Nat) (a:V),bU n a=true→bn n a a=true:=by
 intro n
 induction n with
 |zero=>
  intro a aC;rcases KV aC with⟨i,rfl⟩|⟨c,rfl⟩|⟨m,vs,e,_⟩
  .simp[bn]
  .exact pH _
  .cases e
 |succ n aF=>
  intro a aC;rcases KV aC with⟨i,rfl⟩|⟨c,rfl⟩|⟨m,vs,e,rfl,cp⟩
  .simp[bn]
  .exact pH _
  .cases e;exact Y9 fun a aC=>aF a (List.all_eq_true.mp cp a aC)
theorem vC (aB:bU 4 k=true)(hd:eE es){i:Nat}(hi:ke es k i=true)(co:ke es k j=true):i=j:=by
 unfold ke at hi co;cases j4:es[i]? with
 |none=>rw[j4] at hi;exact dZ hi
 |some a=>
  cases ix:es[j]? with
  |none=>rw[ix] at co;exact dZ co
  |some b=>
   rw[j4] at hi;rw[ix] at co;have R:=wF _ _ _ hi;have Z:=wF _ _ _ co;refine dq (List.getElem?_eq_some_iff.mp j4) fun li r6=>?_;refine dq (List.getElem?_eq_some_iff.mp ix) fun wJ Oh=>?_;have q:=List.pairwise_iff_getElem.mp hd;have aE:=rO 4 k aB;rcases GN i j with c|c|c
   .have:=q i j li wJ c;rw[r6,Oh,R,Z,aE] at this;exact j9 this
   .exact c
   .have:=q j i wJ li c;rw[r6,Oh,R,Z,aE] at this;exact j9 this
theorem hits {xs:List c3}(cS:dc w.params ρ s.heap es xs)(aD:∀e∈es,bU 4 e.1=true)(hd:eE es)
 (aB:bU 4 k=true)(bV:aN ρ s.heap k y)(bx:A.units+4<cLine):pS A s xs.toArray y (h6 w.params 4 k) (ke es k) where
 hash:=fun j e he aE=>by refine nv (cS.at (j:=j) (by simpa using he)) fun eA v aW eN eH eV=>?_;clear eN eH;unfold ke at aE;rw[aW] at aE;have:=wF _ _ _ aE;rw[eV];show h6 _ 4 eA=_;rw[show eA=k from this]
 eq:=fun j e he=>by refine nv (cS.at (j:=j) (by simpa using he)) fun eA v aW aJ eH eV=>?_;clear eH;unfold ke;rw[aW];exact Ec 4 A eA k _ _ (aD _ (List.mem_of_getElem? aW)) aB aJ bV bx
 one:=fun i j _ _ hi co=>vC aB hd hi co
 quiet:=fun j e he O w b2 Q q=>by refine nv (cS.at (j:=j) (by simpa using he)) fun eA v aW aJ eH eV=>?_;clear eH;exact Oj 4 8 eA _ s Q (aD _ (List.mem_of_getElem? aW)) aJ (by lia) q
 Oi:=fun O w b2 Q q=>Oj 4 8 k _ s Q aB bV (by lia) q
 str:=fun x t cu j e he aE=>by
  refine nv (cS.at (j:=j) (by simpa using he)) fun eA v aW aJ eH eV=>?_;clear eH;have kD:=aD _ (List.mem_of_getElem? aW);subst cu;unfold ke;rw[aW];cases rC:e.key with
  |str z u=>rw[rC] at aJ;refine b8 aJ.NI fun a8 q=>b8 bV.NI fun a9 Og=>?_;rw[q,Og];exact AZ a8 a9
  |_=>rw[rC] at aE;exact dZ aE
 same:=fun j e he aE=>by refine nv (cS.at (j:=j) (by simpa using he)) fun eA v aW aJ eH eV=>?_;clear eH;unfold ke;rw[aW];rw[aE] at aJ;exact Md 4 eA k _ (aD _ (List.mem_of_getElem? aW)) aB aJ bV
theorem qR {e:V×V}(h:es[j]? =E e)(aB:bn 4 e.1 k=true):ke es k j=true:=by unfold ke;rw[h];exact aB
theorem C9 {d:bj}{xs:List c3}{Q:Option Nat→aS→Prop}(ax:s.heap.get? d=E (dictOf xs n))
 (cS:dc w.params ρ s.heap es xs)(aD:∀e∈es,bU 4 e.1=true)(hd:eE es)(aB:bU 4 k=true)(bV:aN ρ s.heap k y)(bx:A.units+4<cLine)
 (cj:∀(j:Nat) (e:V×V),es[j]? =E e→bn 4 e.1 k=true→Q (E j) s)(b9:(∀e∈es,bn 4 e.1 k=false)→Q dn s):
 wpAny (model O w) A (dictFind d y (h6 w.params 4 k)) Q b2 s:=by
 refine TH (hits cS aD hd aB bV bx) ax rfl (fun h=>b9 fun e he=>?_) fun j co aE=>?_
 .refine dq (List.mem_iff_getElem?.mp he) fun j co=>?_;have:j<xs.toArray.size:=by have:=(List.getElem?_eq_some_iff.mp co).1;rw[List.size_toArray,←cS.length];exact this
  have:=h j this;unfold ke at this;rw[co] at this;exact this
 .unfold ke at aE;cases e:es[j]? with
  |none=>rw[e] at aE;exact dZ aE
  |some p=>rw[e] at aE;exact cj j p e aE
theorem wT {e:V×V}(h:es[j]? =E e)(aB:bn 4 e.1 k=true)(aL:∀e∈es,bn 4 e.1 k=false):False:=by rw[aL e (List.mem_of_getElem? h)] at aB;exact dZ aB
theorem yY {d:bj}{xs:List c3}{G:Option V→Prop}{Q:Option aj→aS→Prop}(ax:s.heap.get? d=E (dictOf xs n))
 (cS:dc w.params ρ s.heap es xs)(aD:∀e∈es,bU 4 e.1=true)(hd:eE es)(aB:bU 4 k=true)(bV:aN ρ s.heap k y)(bx:A.units+4<cLine)(b6:lu k es G)
 (cj:∀v x t,G (E v)→aN ρ s.heap v x→Q (E x) {s with toks:=t})(b9:∀t,G dn→Q dn {s with toks:=t}):wpAny (model O w) A (dictGet d y) Q b2 s:=by
 unfold dictGet
 try with_reducible refine gb ?_
 refine af (D9 4 _ k y s _ aB bV bx fun t=>af (C9 (s:={s with toks:=t}) ax cS aD hd aB bV bx (fun j e he aE=>?_) fun aL=>?_))
 .refine af (mM (s:={s with toks:=t}) ax rfl ?_)
  have co:j<xs.length:=by rw[←cS.length];exact(List.getElem?_eq_some_iff.mp he).1
  refine nv (cS.at (j:=j) (List.getElem?_eq_getElem co)) fun eA v aW aJ cJ pn=>?_;clear pn;rw[List.getElem?_toArray,List.getElem?_eq_getElem co];refine aX (cj v _ t ?_ cJ);rcases JX b6 with⟨i,bL,nt,f1,h1,mf⟩|⟨R,_⟩
  .have:i=j:=vC aB hd (qR f1 h1) (qR he aE);subst this;rw[aW] at f1;cases f1;exact mf
  .exact(wT he aE R).elim
 .refine aX (b9 t ?_);rcases JX b6 with⟨i,bL,nt,f1,h1,mf⟩|⟨_,Z⟩
  .exact(wT f1 h1 aL).elim
  .exact Z
theorem dc.modify (cp:aN ρ h v y){xs:List c3}(r:dc P ρ h es xs):
 dc P ρ h (es.modify j fun e=>(e.1,v)) (xs.modify j fun e=>{e with val:=y}):=by
 induction r generalizing j with
 |nil=>induction j using ia<;>exact .nil
 |cons a b c r aF=>induction j using ia with
  |zero=>exact .cons a cp c r
  |succ j=>exact .cons a b c aF
theorem dc.snoc {e:c3}(a:aN ρ h k e.key)(b:aN ρ h v e.val)(c:e.hash=h6 P 4 k){xs:List c3}(r:dc P ρ h es xs):
 dc P ρ h (es++[(k,v)]) (xs++[e]):=by
 induction r with
 |nil=>exact .cons a b c .nil
 |cons x y z _ aF=>exact .cons x y z aF
theorem dc.erase {xs:List c3}(r:dc P ρ h es xs):dc P ρ h (es.eraseIdx j) (xs.eraseIdx j):=by
 induction r generalizing j with
 |nil=>exact .nil
 |cons a b c r aF=>induction j using ia with
  |zero=>exact r
  |succ j=>exact .cons a b c aF
theorem zX:∀{j:Nat},(es.modify j fun e=>(e.1,v)).map (·.1)=es.map (·.1):=by
 induction es with
 |nil=>intro j;simp
 |cons e r aF=>intro j;induction j using ia with
  |zero=>rfl
  |succ j=>simp only[List.modify_succ_cons,List.map_cons,aF]
theorem D8 {cT:List (V×V)}(h:cT.map (·.1)=es.map (·.1))(aD:∀e∈es,bU 4 e.1=true):∀e∈cT,bU 4 e.1=true:=fun e he=>by have:e.1∈cT.map (·.1):=List.mem_map_of_mem he;rw[h] at this;refine dr (List.mem_map.mp this) fun a aC q=>?_;rw[←q];exact aD a aC
theorem tn:eE es↔(es.map (·.1)).Pairwise fun a b=>bn 4 a b=false:=by unfold eE;rw[List.pairwise_map]
theorem Jh {d:bj}{xs:List c3}{x:aj}{G:List (V×V)→Nat→Prop}{Q:Unit→aS→Prop}(ax:s.heap.get? d=E (dictOf xs n))
 (cS:dc w.params ρ s.heap es xs)(aD:∀e∈es,bU 4 e.1=true)(hd:eE es)(aB:bU 4 k=true)(j6:es.length≤1000)(bV:aN ρ s.heap k y)(Bk:aN ρ s.heap v x)(bx:A.units+4<cLine)(b6:oo k v es G)
 (q:∀cT m fc h' t,G cT m→h'.get? d=E (dictOf fc (n+m))→fK d s.heap h'→dc w.params ρ s.heap cT fc→(∀e∈cT,bU 4 e.1=true)→eE cT→Q () {s with heap:=h',toks:=t}):
 wpAny (model O w) A (dictSet d y x) Q b2 s:=by
 unfold dictSet
 try with_reducible refine gb ?_
 refine af (D9 4 _ k y s _ aB bV bx fun t=>?_);unfold dictSetHashed
 try with_reducible refine gb ?_
 refine af (C9 (s:={s with toks:=t}) ax cS aD hd aB bV bx (fun j e he aE=>?_) fun aL=>?_)
 .rcases Fj b6 with⟨i,bL,nt,f1,h1,mf⟩|⟨R,_⟩
  .have:i=j:=vC aB hd (qR f1 h1) (qR he aE);subst this;refine af (iv (af (wpAny_updateDict (s:={s with toks:=t}) ax rfl (wpAny_point (q _ 0 (xs.modify i fun e=>{e with val:=x}) _ t mf ?_ (kp ..) (cS.modify Bk) (D8 zX aD) (tn.mpr (by rw[zX];exact tn.mp hd)))))))
   rw[l2 _ ax rfl];simp[Obj.mapDict]
  .exact(wT he aE R).elim
 .rcases Fj b6 with⟨i,bL,nt,f1,h1,mf⟩|⟨_,Z⟩
  .exact(wT f1 h1 aL).elim
  .refine af (iv (wpAny_updateDictKeys (hz:=?_) (s:={s with toks:=t}) ax rfl (q _ 1 (xs++[⟨h6 w.params 4 k,y,x⟩]) _ t Z ?_ (kp ..) (cS.snoc bV Bk rfl) ?_ ?_)))
   .rw[l2 _ ax rfl];simp[Obj.mapDictKeys]
   .intro e he;rcases List.mem_append.mp he with he|he
    .exact aD e he
    .rw[List.mem_singleton.mp he];exact aB
   .unfold eE;rw[List.pairwise_append];refine⟨hd,List.pairwise_singleton _ _,fun a aC b az=>?_⟩;rw[List.mem_singleton.mp az];exact aL a aC
   .rw[List.size_toArray,←cS.length];unfold sizeLine;lia
end
section
open PySem.SeqAt
theorem fq {d:bj}{xs:List c3}(e:s.heap.get? d=E (dictOf xs n)):s.TypeIs (.ref d) "dict":=⟨_,e,rfl⟩
section
variable {d:bj}{xs:List c3}{x:aj}
theorem af0 {G:List (V×V)→Prop}{Q:Option c3→aS→Prop}(ax:s.heap.get? d=E (dictOf xs n))
 (cS:dc w.params ρ s.heap es xs)(aD:∀e∈es,bU 4 e.1=true)(hd:eE es)(aB:bU 4 k=true)(j6:es.length≤1000)(bV:aN ρ s.heap k y)(bx:A.units+4<cLine)(b6:rq k es G)
 (q:∀cT x fc h' t,G cT→h'.get? d=E (dictOf fc (n+1))→fK d s.heap h'→dc w.params ρ s.heap cT fc→(∀e∈cT,bU 4 e.1=true)→eE cT→Q (E x) {s with heap:=h',toks:=t}):
 wpAny (model O w) A (Builtin.Dict.takeOut d y) Q b2 s:=by
 unfold Builtin.Dict.takeOut
 try with_reducible refine gb ?_
 refine af (D9 4 _ k y s _ aB bV bx fun t=>oA (TA b6) fun i aJ f1 h1 mf=>af (C9 (s:={s with toks:=t}) ax cS aD hd aB bV bx (fun j e he aE=>?_) fun aL=>?_))
 .have:i=j:=vC aB hd (qR f1 h1) (qR he aE);subst this;have co:i<xs.length:=by rw[←cS.length];exact(List.getElem?_eq_some_iff.mp he).1
  refine af (mM (s:={s with toks:=t}) ax rfl ?_)
  rw[List.getElem?_toArray,List.getElem?_eq_getElem co];refine af (wpAny_updateDictKeys (hz:=?_) (hf:=?_) (s:={s with toks:=t}) ax rfl ?_)
  .refine aX (q _ _ (xs.eraseIdx i) _ t mf ?_ (kp ..) cS.erase ?_ ?_)
   .rw[l2 _ ax rfl];simp[Obj.mapDictKeys]
   .intro e he;exact aD e (List.mem_of_mem_eraseIdx he)
   .exact List.Pairwise.sublist (List.eraseIdx_sublist ..) hd
  .rw[List.size_toArray,←cS.length];unfold sizeLine;lia
  .simp[List.length_eraseIdx]
   split<;>lia
 .exact(wT f1 h1 aL).elim
theorem tH (bx:A.units+n<cLine)(h:m+1≤n):A.in1.units+m<cLine:=by show A.units+1+m<cLine;lia
theorem WF {G:V→Prop}(ax:s.heap.get? d=E (dictOf xs n))(cS:dc w.params ρ s.heap es xs)
 (aD:∀e∈es,bU 4 e.1=true)(hd:eE es)(aB:bU 4 k=true)(bV:aN ρ s.heap k y)(bx:A.units+6<cLine)(b6:lu k es fun r=>k1 r G)
 (q:∀v x t,G v→aN ρ s.heap v x→Q x {s with toks:=t}):wpAny (model O w) A (getItem (.ref d) y) Q b2 s:=by
 unfold getItem
 try with_reducible refine gb ?_
 refine af (u6 (fq ax) (by decide) ?_);refine af (mL (name:=g6 "__getitem__") (fq ax) G7
  (hp G7 (fq ax) entry_dict_getitem ?_ (args_dict_getitem _ _)))
 refine(?_:wpAny _ _ (dictGet d y>>=_) _ _ s);refine af (yY ax cS aD hd aB bV (tH bx (by lia)) b6 (fun v x t g r=>?_) fun t g=>g.elim);exact aX ⟨x,rfl,aX (q v x t g r)⟩
theorem aep {G:List (V×V)→Nat→Prop}{Q:Unit→aS→Prop}(ax:s.heap.get? d=E (dictOf xs n))(cS:dc w.params ρ s.heap es xs)
 (aD:∀e∈es,bU 4 e.1=true)(hd:eE es)(aB:bU 4 k=true)(j6:es.length≤1000)(bV:aN ρ s.heap k y)(Bk:aN ρ s.heap v x)(bx:A.units+6<cLine)(b6:oo k v es G)
 (q:∀cT m fc h' t,G cT m→h'.get? d=E (dictOf fc (n+m))→fK d s.heap h'→dc w.params ρ s.heap cT fc→(∀e∈cT,bU 4 e.1=true)→eE cT→Q () {s with heap:=h',toks:=t}):
 wpAny (model O w) A (setItem (.ref d) y x) Q b2 s:=by
 unfold setItem
 try with_reducible refine gb ?_
 refine af (u6 (fq ax) (by decide) ?_);refine af (mL (name:=g6 "__setitem__") (fq ax) slot_dict_setitem
  (hp slot_dict_setitem (fq ax) entry_dict_setitem ?_ (args_dict_setitem _ _ _)))
 refine(?_:wpAny _ _ (Builtin.Dict.notOrdered "__setitem__" ⟨[.ref d,y,x],[]⟩>>=_) _ _ s);refine af (q5 (fq ax) ?_);refine(?_:wpAny _ _ (dictSet d y x>>=_) _ _ s);exact af (Jh ax cS aD hd aB j6 bV Bk (tH bx (by lia)) b6 fun cT m fc h' t g R Z bv cZ gV=>aX ⟨.none,rfl,aX (q cT m fc h' t g R Z bv cZ gV)⟩)
theorem TB {G:List (V×V)→Prop}{Q:Unit→aS→Prop}(ax:s.heap.get? d=E (dictOf xs n))(cS:dc w.params ρ s.heap es xs)
 (aD:∀e∈es,bU 4 e.1=true)(hd:eE es)(aB:bU 4 k=true)(j6:es.length≤1000)(bV:aN ρ s.heap k y)(bx:A.units+6<cLine)(b6:rq k es G)
 (q:∀cT fc h' t,G cT→h'.get? d=E (dictOf fc (n+1))→fK d s.heap h'→dc w.params ρ s.heap cT fc→(∀e∈cT,bU 4 e.1=true)→eE cT→Q () {s with heap:=h',toks:=t}):
 wpAny (model O w) A (delItem (.ref d) y) Q b2 s:=by
 unfold delItem
 try with_reducible refine gb ?_
 refine af (u6 (fq ax) (by decide) ?_);refine af (mL (name:=g6 "__delitem__") (fq ax) PySem.F.slot_dict_delitem
  (hp PySem.F.slot_dict_delitem (fq ax) PySem.F.entry_dict_delitem ?_ (PySem.F.args_dict_delitem_2 _ _)))
 unfold Builtin.«dict.__delitem__»;refine af ?_;unfold Builtin.Dict.dictSlotArgs;refine af (q5 (fq ax) ?_);refine(?_:wpAny _ _ (pure (gP d,y)) _ _ s);refine aX ?_;refine(?_:wpAny _ _ (Builtin.Dict.takeOut d y>>=_) _ _ s);exact af (af0 ax cS aD hd aB j6 bV (tH bx (by lia)) b6 fun cT x fc h' t g R Z bv cZ gV=>af (x2 (aX ⟨.none,rfl,aX (q cT fc h' t g R Z bv cZ gV)⟩)))
theorem Yn {G:Bool→Prop}(hm:(d==sysModules)=false)(ax:s.heap.get? d=E (dictOf xs n))(cS:dc w.params ρ s.heap es xs)
 (aD:∀e∈es,bU 4 e.1=true)(hd:eE es)(aB:bU 4 k=true)(bV:aN ρ s.heap k y)(bx:A.units+6<cLine)(b6:lu k es fun r=>G r.isSome)
 (q:∀c t,G c→Q (.bool c) {s with toks:=t}):wpAny (model O w) A (compareOp .In y (.ref d)) Q b2 s:=by
 refine(?_:wpAny _ _ (do return .bool (←contains (.ref d) y)) Q b2 s);refine af ?_;unfold contains
 try with_reducible refine gb ?_
 refine af (iR (fq ax) G6.lookup ?_);refine(?_:wpAny _ _ (if(E (fE "dict.__contains__")==E cg)=true then _ else _) _ b2 s);refine e3 (by rw[beq_builtin_none];exact d8) ?_;refine af (wpAny_callSpecialUnlessNone?_slot (name:=g6 "__contains__") (fq ax) G6
  (hp G6 (fq ax) entry_dict_contains ?_ (args_dict_contains _ _)))
 refine(?_:wpAny _ _ (dictGet d y>>=_) _ _ s);refine af (yY ax cS aD hd aB bV (tH bx (by lia)) b6 (fun v x t g r=>?_) fun t g=>?_)
 .refine(?_:wpAny _ _ (ret (.bool true)) _ _ _);exact aX ⟨_,rfl,BG (aX (q _ t g))⟩
 .refine(?_:wpAny _ _ (Builtin.Dict.pendingKey? d y>>=_) _ _ _);exact af (wpAny_pendingKey_other hm (aX ⟨_,rfl,BG (aX (q _ t g))⟩))
theorem aa9 {b:bj}(aC:(d==sysModules)=false)(az:(b==sysModules)=false)(ax:s.heap.get? d=E (dictOf xs n))(wn:s.heap.get? b=E (dictOf [] m))
 (bx:A.units<cLine)(h:Q (.bool (!xs.isEmpty)) s):wpAny (model O w) A (compareOp .NotEq (.ref d) (.ref b)) Q b2 s:=by
 refine QA (op:=.NotEq) (fq ax) (fq wn) PySem.F.slot_dict_ne (hp PySem.F.slot_dict_ne (fq ax) PySem.F.entry_dict_ne ?_ (PySem.F.args_dict_ne_2 _ _)) bx;refine(?_:wpAny _ _ (Builtin.Dict.dictSlotArgs "__ne__" ⟨[.ref d,.ref b],[]⟩>>=_) _ _ s);refine af ?_;unfold Builtin.Dict.dictSlotArgs;refine af (q5 (fq ax) ?_);refine(?_:wpAny _ _ (pure (gP d,gP b)) _ _ s);refine aX<|af (pJ (T:="dict") (fq wn) PySem.F.sub_dict_dict (e3 d8<|af (aX (af (aX (af ?_))))))
 unfold Builtin.Dict.samePairs Builtin.Dict.showsAll;rw[if_neg (show¬(d==sysModules)=true by rw[aC];exact d8),if_neg (show¬(b==sysModules)=true by rw[az];exact d8)];refine af (aX (af (aX (af (mM ax rfl ?_)))));dsimp only;refine af (mM wn rfl ?_)
 induction xs using List.casesOn with
 |cons e r=>
  refine uM (by simp)<|af (iv (aX (aX ⟨_,rfl,?_,?_⟩)))
  .exact fun x=>nomatch x
  .simpa using h
 |nil=>
  refine e3 (by simp)<|af (lj ax rfl (af ?_))
  rw[Std.Legacy.Range.forIn_eq_forIn_range'];rw[Std.Legacy.Range.size,GR,Nat.add_sub_cancel,Nat.div_one,List.size_toArray,List.length_nil,List.range'_zero,List.forIn_nil];refine aX (aX (aX ⟨_,rfl,?_,?_⟩))
  .exact fun x=>nomatch x
  .simpa using h
end
theorem mU {P:Prop}(h:ao b P False):b=true∧P:=by
 induction b using eo with
 |true=>exact⟨rfl,h⟩
 |false=>exact h.elim
noncomputable def tL (i:Int):aj→Bool
 |.int z _=>decide (z=i)
 |_=>false
theorem someE {o:Option Bool}{K:Bool→Prop}(h:jx o K)(k:∀b,o=E b→K b→G):G:=by
 induction o using ez with
 |none=>exact h.elim
 |some b=>exact k b rfl h
theorem KN {i:Int}{t:Tok}:∀{xs:List aj} {c:Bool},tK i vs=E c→bK ρ h vs xs→(∀A (s:aS),∀y∈xs,EqAt A s y (.int i t) (tL i y))∧xs.any (tL i)=c:=by
 induction vs with
 |nil=>intro xs c e r;exact r.iK ⟨fun _ _ _ h=>(nomatch h),cF e⟩
 |cons v vs aF=>
  intro xs c e r;refine r.gS fun x xs a dz=>?_;clear r
  induction v using V.casesOn with
  |int j=>
   refine a.fh fun u=>?_;refine(?_:(match tK i vs with|some b=>E (decide (j=i)||b)|dn=>dn)=E c→_) e
   cases aJ:tK i vs with
   |none=>exact fun e=>c5 e
   |some b=>intro e;obtain rfl:=cF e;refine b8 (aF aJ dz) fun g1 bM=>⟨fun A s y cu=>(List.mem_cons.mp cu).elim (fun q=>q▸EqAt.int_int _ _ _ _) (g1 A s y),?_⟩;rw[List.any_cons,bM];rfl
  |_=>exact c5 e
theorem Ur {a0 eh:Type}{l:List a0}{m:List eh}(h:l.length=m.length):l.isEmpty=m.isEmpty:=by
 induction l using List.casesOn with
 |nil=>induction m using List.casesOn with
  |nil=>rfl
  |cons=>exact nomatch h
 |cons=>induction m using List.casesOn with
  |nil=>exact nomatch h
  |cons=>rfl
theorem Uq {a b:V}{c:Bool}{aA:V→V→Bool→Prop}(e:y2 a b H=E c)(k:∀l m x n j,H[l]? =E (.dict x n)→H[m]? =E (.dict [] j)→aA (.ref l) (.ref m) x.isEmpty):aA a b c:=by
 induction a using V.casesOn with
 |ref l=>induction b using V.casesOn with
  |ref m=>
   refine(?_:(match H[l]?,H[m]? with|some (.dict x _),E (.dict [] _)=>E x.isEmpty|_,_=>dn)=E c→_) e
   have k:=k l m;revert k;generalize H[l]? =eZ;generalize H[m]? =eC;intro k e
   induction eZ using ez with
   |none=>exact c5 e
   |some eZ=>induction eZ using an.casesOn with
    |dict x n=>induction eC using ez with
     |none=>exact c5 e
     |some eC=>induction eC using an.casesOn with
      |dict y j=>induction y using List.casesOn with
       |nil=>exact cF e▸k x n j rfl rfl
       |cons _ _=>exact c5 e
      |_=>exact c5 e
    |_=>exact c5 e
  |_=>exact c5 e
 |_=>exact c5 e
theorem I6 {op:CmpOp}{a b:V}{x:aj}{Q:Bool→Prop}{K:aj→aS→Prop}(bx:A.units+20<cLine)(hm:∀a∈ρ,(a==sysModules)=false)(h:tj op a b H Q)
 (am:bz w.params ρ H s.heap)(bJ:aN ρ s.heap a x)(bm:aN ρ s.heap b y)(q:∀c t,Q c→K (.bool c) {s with toks:=t}):wpAny (model O w) A (compareOp op x y) K eY s:=by
 induction op using CmpOp.casesOn with
 |Eq=>exact someE h fun c e h=>(JA am 8 A a b x y c e bJ bm (by lia)).2.1 O w _ _ (q c s.toks h)
 |NotEq=>
  refine(?_:(match y2 a b H with|some c=>Q (!c)|dn=>jx (e8 H 8 a b) fun x=>Q (!x))→_) h
  cases e:y2 a b H with
  |some c=>refine Uq (aA:=fun a b c=>aN ρ s.heap a x→aN ρ s.heap b y→Q (!c)→_) e (fun l m u n k aW aJ bJ bm h=>?_) bJ bm;refine bJ.hl fun l ar=>bm.hl fun m o4=>(am.dict ar aW).elim fun xs g=>(am.dict o4 aJ).elim fun ys fo=>?_;have z:ys=[]:=List.eq_nil_of_length_eq_zero fo.2.1.length.symm;refine aa9 (hm _ (List.mem_of_getElem? ar)) (hm _ (List.mem_of_getElem? o4)) g.1 (z▸fo.1) (mJ (sG _ _) bx) (q _ s.toks (Ur g.2.1.length▸h))
  |none=>exact fun h=>someE h fun c e h=>(JA am 8 A a b x y c e bJ bm (mJ (GJ (by decide) _) bx)).2.2 O w _ _ (q (!c) s.toks h)
 |Lt=>exact kY h bJ bm fun i j t u h=>PySem.P.lt_int (q _ s.toks (jr _ _▸(show Q (ltI _ _) from h)))
 |LtE=>exact kY h bJ bm fun i j t u h=>PySem.P.le_int (q _ s.toks (i1 _ _▸(show Q (cb _ _) from h)))
 |Gt=>exact kY h bJ bm fun i j t u h=>PySem.P.gt_int (q _ s.toks (jr _ _▸(show Q (ltI _ _) from h)))
 |GtE=>exact kY h bJ bm fun i j t u h=>PySem.P.ge_int (q _ s.toks (i1 _ _▸(show Q (cb _ _) from h)))
 |Is=>
  induction b using V.casesOn with
  |none=>refine someE h fun c e h=>bm.t6 ?_;clear bm;exact b8 (KW e bJ) fun R Z=>wpAny_is_plain R (Z▸q c s.toks h)
  |_=>exact fv h
 |IsNot=>
  induction b using V.casesOn with
  |none=>refine someE h fun c e h=>bm.t6 ?_;clear bm;exact b8 (KW e bJ) fun R Z=>wpAny_isNot_plain R (Z▸q (!c) s.toks h)
  |_=>exact fv h
 |In=>
  induction a using V.casesOn with
  |int i=>
   refine bJ.fh fun t=>?_
   induction b using V.casesOn with
   |tup vs=>
    refine someE h fun c e h=>bm.gN fun l xs n o r=>b8 (KN (t:=t) e r) fun g1 bM=>in_tupleAt (tL i) (isTup o) (fun y cu=>g1 _ _ y (by simpa using cu)) ?_;have:xs.toArray.any (tL i)=c:=by simpa using bM
    rw[this];exact q c s.toks h
   |ref l=>exact bm.hl fun d ar=>am.mX ar h fun es n xs e h o cS aD hZ=>j1 h fun R Z=>Yn (hm _ (List.mem_of_getElem? ar)) o cS aD hZ R (.int i t) (mJ (GJ (by decide) _) bx) Z fun c t g=>q c t g
   |_=>exact fv h
  |_=>exact fv h
 |NotIn=>
  induction a using V.casesOn with
  |int i=>
   refine bJ.fh fun t=>?_
   induction b using V.casesOn with
   |tup vs=>
    refine someE h fun c e h=>bm.gN fun l xs n o r=>b8 (KN (t:=t) e r) fun g1 bM=>notIn_tupleAt (tL i) (isTup o) (fun y cu=>g1 _ _ y (by simpa using cu)) ?_;have:xs.toArray.any (tL i)=c:=by simpa using bM
    rw[this];exact q _ s.toks h
   |_=>exact fv h
  |_=>exact fv h
def Cb (B:gE):Prop:=∃o,B.h₀.get? sysModules=E o
theorem b0.mods (r:b0 P B I ah ay ρ H loc s)(az:Cb B):∀a∈ρ,(a==sysModules)=false:=by intro a aC;refine dq az fun o e=>?_;clear az;rw[beq_eq_false_iff_ne];rintro rfl;exact(r.bs _ o e).2.1 aC
theorem ad1 (az:Cb B)(bx:A.units+20<cLine){l r:aY}{x y:aG}{op:CmpOp}(ar:cV O w B C A I ay l x)(am:cV O w B C A I ay r y)(aB:behindInMarks op r=false):
 cV O w B C A I ay (.Compare l [op] [r] p) (.cmp op x y):=
 fun ah loc H ρ s Q K h d2 q=>aaM (ar ah loc H ρ s _ _ h d2 fun a aq bQ u bB R bt eD bk=>
  am ah loc aq bQ bB _ _ R (d2.step bk bt) fun b be cv v s2 Z cr jT cm=>cU (I6 bx (((d2.step bk bt).step cm cr).mods az) Z cr (eD.mono cm.fW bt.dg) jT
   fun c t aI=>((q.after bk).after cm) _ be cv _ _ aI cr (.bool c) .toks)) aB
theorem aft (az:Cb B)(bx:A.units+20<cLine){l r:aY}{x y:aG}{op:CmpOp}(ar:cV O w B C A I ay l x)(am:cV O w B C A I ay r y)(aB:behindInMarks op r=false):
 ST O w B C A I ay (.Compare l [op] [r] p) (.cmp op x y):=
 fun ah loc H ρ s Q K h d2 q=>aa2 (ar ah loc H ρ s _ _ h d2 fun a aq bQ u bB R bt eD bk=>
  am ah loc aq bQ bB _ _ R (d2.step bk bt) fun b be cv v s2 Z cr jT cm=>cU (I6 bx (((d2.step bk bt).step cm cr).mods az) Z cr (eD.mono cm.fW bt.dg) jT
   fun c t aI=>cU (BG (q _ be cv _ aI cr ((bk.trans cm).trans .toks))))) aB
end
structure vc (K:Frag)(C:bj)(name:Str):Prop where
 get:plainGet K C name=true
 dict:hasDictIn K C=true
 over:plainOver K C=true
 set:findIn K (.ref C) "__setattr__"=E (E (.builtin "object.__setattr__"))
 find:∃attr,findIn K (.ref C) name=E attr∧noGet K attr=true
 take:takerIn K C name=E none
section
variable {d x:bj}{xs:List c3}
theorem KX {e:c3}(aL:f3 name=true)(aB:bU 4 k=true)(r:aN ρ h k e.key):e.key.isStr name=bn 4 k (.str (a7 name)):=by
 refine ml (aA:=fun _ k=>aN ρ h k e.key→e.key.isStr name=bn 4 k (.str (a7 name))) aB (fun _ i r=>?_) (fun _ c r=>?_) (fun m vs _ r=>?_) r
 .exact r.int_inv.elim fun t e=>by rw[e];rfl
 .refine dD r.str_inv fun p t g=>?_;rw[g.1,←g.2.2];exact AZ g.2.1 aL
 .exact md r.PO fun a ys n g=>by rw[g.1];rfl
theorem ite_no (b:Bool):¬(if b=true then none else E none:Option (Option aj))=E (E y):=by
 induction b using eo with
 |true=>exact fun h=>c5 h
 |false=>exact fun h=>c5 (cF h)
theorem WG (aL:f3 name=true){xs:List c3}{G:V→Prop}(r:dc P ρ h es xs):(∀e∈es,bU 4 e.1=true)→(lu (.str (a7 name)) es fun r=>k1 r G)→
 ∃v y,G v∧aN ρ h v y∧getL name xs=E (E y):=by
 induction r with
 |nil=>exact fun _ g=>g.elim
 |@cons k v e es xs a b c r aF=>
  intro aD g;have q:=KX aL (aD _ List.mem_cons_self) a;refine(?_:ao (bn 4 k (.str (a7 name))) (G v) (lu (.str (a7 name)) es fun r=>k1 r G)→_) g;cases z:bn 4 k (.str (a7 name)) with
  |true=>intro g;refine⟨v,e.val,g,b,?_⟩;unfold getL;rw[List.find?_cons_of_pos (p:=fun x:c3=>x.key.isStr name) (q.trans z)]
  |false=>
   intro g;refine dD (aF (fun e he=>aD e (List.mem_cons_of_mem _ he)) g) fun lU y g=>⟨lU,y,g.1,g.2.1,?_⟩;have bv:=g.2.2;unfold getL at bv⊢;rw[List.find?_cons_of_neg (p:=fun x:c3=>x.key.isStr name) (fun p=>j9 ((q.trans z).symm.trans p).symm)];revert bv;cases List.find? (fun x:c3=>x.key.isStr name) xs with
   |some e=>exact id
   |none=>exact fun bv=>absurd bv (ite_no _)
theorem aN.handed (r:aN ρ h v y):handedIn y=true:=by cases r<;>first|rfl|assumption
theorem InstAt.mk' {C:bj}{o:Obj}(aR:h.get? x=E (instObj C d))(hd:h.get? d=E o):PySem.W.InstAt h x (instObj C d) C (E o):=⟨aR,rfl,rfl,hd⟩
theorem WC {K:Frag}{C:bj}{C8:Bool}{G:V→Prop}(aG:K.In s.heap)(aR:s.heap.get? x=E (instObj C d))(hd:s.heap.get? d=E (dictOf xs n))
 (cS:dc w.params ρ s.heap es xs)(aD:∀e∈es,bU 4 e.1=true)(aL:f3 name=true)(aC:vc K C name)(g:lu (.str (a7 name)) es fun r=>k1 r G)
 (q:∀v y t,G v→aN ρ s.heap v y→Q y {s with toks:=t}):wpAny (model O w) A (getAttr (.ref x) name C8) Q b2 s:=by
 refine oA (WG aL cS aD g) fun v y R Z bv=>dr aC.find fun attr f1 h1=>?_;exact get_value aG (InstAt.mk' aR hd) (plainGet_of aC.get).1 (findObj_own aC.dict f1 h1 (by rw[lookIn_dict];exact bv)) Z.handed (q v y _ R Z)
theorem Yw {xs:List c3}(aE:(es.all fun e=>lE e.1)=true)(cS:dc P ρ h es xs):xs.any (·.refKey)=false:=by
 rw[List.any_eq_false];intro e he;refine dq (List.mem_iff_getElem?.mp he) fun j co=>oA (cS.at co) fun k v aW aJ eH=>?_;clear eH;have:=List.all_eq_true.mp aE _ (List.mem_of_getElem? aW)
 induction k using V.casesOn with
 |str c=>refine mG aJ.str_inv fun p t cM eN=>?_;clear eN;unfold DictEntry.refKey;rw[cM];simp
 |_=>exact dZ this
theorem act (aL:f3 name=true){t:Tok}{G:List (V×V)→Nat→Prop}(cS:dc w.params ρ s.heap es xs)(aD:∀e∈es,bU 4 e.1=true)(hd:eE es)(bV:aN ρ s.heap v y)(g:oo (.str (a7 name)) v es G):
 ∃cT m,G cT m∧dc w.params ρ s.heap cT (putL name (BO w.params name) (.str name t) y xs)∧putN name xs n=n+m∧(∀e∈cT,bU 4 e.1=true)∧eE cT∧cT.length≤es.length+1:=by
 have aB:bU 4 (.str (a7 name))=true:=rfl;have key:∀j e,xs[j]? =E e→e.key.isStr name=ke es (.str (a7 name)) j:=fun j e he=>by refine oA (cS.at he) fun k v aW aJ eH=>?_;clear eH;unfold ke;rw[aW];exact KX aL (aD _ (List.mem_of_getElem? aW)) aJ
 rw[←putL_find];rcases Fj g with⟨j,eA,lU,f1,h1,mf⟩|⟨f1,h1⟩
 .have co:j<xs.length:=by rw[←cS.length];exact(List.getElem?_eq_some_iff.mp f1).1
  have dO:xs[j].key.isStr name=true:=by rw[key j _ (List.getElem?_eq_getElem co)];exact qR f1 h1
  have wc:xs.findIdx? (fun x=>x.key.isStr name)=E j:=by
   rw[List.findIdx?_eq_some_iff_getElem];refine⟨co,dO,fun i hi=>?_⟩;have zo:i<xs.length:=sI hi co;intro aI;have R:ke es (.str (a7 name)) i=true:=by rw[←key i _ (List.getElem?_eq_getElem zo)];exact aI
   have:=vC aB hd R (qR f1 h1);lia
  refine⟨_,0,mf,?_,?_,D8 zX aD,tn.mpr (by rw[zX];exact tn.mp hd),by rw[List.length_modify];lia⟩
  .rw[wc];exact cS.modify bV
  .unfold putN;rw[←any_of_findIdx,wc];rfl
 .have wc:xs.findIdx? (fun x=>x.key.isStr name)=none:=by
   rw[List.findIdx?_eq_none_iff];intro e he;refine dq (List.mem_iff_getElem?.mp he) fun j co=>?_;rw[key j e co];unfold ke;cases q:es[j]? with
   |none=>rfl
   |some p=>exact f1 p (List.mem_of_getElem? q)
  refine⟨_,1,h1,?_,?_,fun e he=>?_,?_,by simp⟩
  .rw[wc];refine cS.snoc (.str name t aL) bV ?_;show _=h6 w.params 4 (.str (a7 name));rw[h6,Jf aL];rfl
  .unfold putN;rw[←any_of_findIdx,wc];rfl
  .rcases List.mem_append.mp he with he|he
   .exact aD e he
   .rw[List.mem_singleton.mp he];exact aB
  .unfold eE;rw[List.pairwise_append];refine⟨hd,List.pairwise_singleton _ _,fun a aC b az=>?_⟩;rw[List.mem_singleton.mp az];exact f1 a aC
theorem ab0 {K:Frag}{C:bj}{di:Tok}{G:List (V×V)→Nat→Prop}{b0:Result→aS→Prop}(aG:K.In s.heap)(aR:s.heap.get? x=E (instObj C d))(hd:s.heap.get? d=E (dictOf xs n))
 (cS:dc w.params ρ s.heap es xs)(aD:∀e∈es,bU 4 e.1=true)(DA:eE es)(aE:(es.all fun e=>lE e.1)=true)(j6:es.length≤1000)(aL:f3 name=true)(aC:vc K C name)(bV:aN ρ s.heap v y)(g:oo (.str (a7 name)) v es G)
 (q:∀cT m fc h' t,G cT m→h'.get? d=E (dictOf fc (n+m))→fK d s.heap h'→dc w.params ρ s.heap cT fc→(∀e∈cT,bU 4 e.1=true)→eE cT→b0 (.ok (.ret .none)) {s with heap:=h',toks:=t}):
 codeAny (model O w) A (.call (.builtin "object.__setattr__") ⟨[.ref x,.str name di,y],[]⟩) b0 s:=by
 have aM:=InstAt.mk' aR hd;refine osa_open aG aM aC.over aC.take fun b=>dr (any_some aC.dict) fun rk aI kC=>af (aX (af (af (wpAny_loadPart aR (af ((looks_clsIn aG aI).here ?_))))));rw[kC];refine aX (a:=E d) (af (aX (af ?_)));unfold nsSet;refine af (af (wpAny_askSetting (aX (af (wpAny_mkText (af (wpAny_loadPart hd ?_)))))));dsimp only;have c:(!xs.toArray.any (·.key.isStr name)&&xs.toArray.any (·.refKey))=false:=by have:=Yw aE cS;rw[←Array.any_toList,←Array.any_toList];rw[this,jd]
 rw[aRefKeyMayBeTheName_at,c];refine dD (act (n:=n) (t:=s.toks) aL cS aD DA bV g) fun cT m bT=>yC bT fun g1 bM g3 ek ht nW=>?_;clear bT;have Hj:(s.heap.update d (Obj.putName name (BO w.params name) (.str name s.toks) y)).get? d=E (dictOf (putL name (BO w.params name) (.str name s.toks) y xs) (n+m)):=by rw[l2 _ hd (by rw[putName_dict];rfl),putName_dict,g3]
 refine wpAny_updatePart hd<|af (wpAny_lookBehind (s:={s with heap:=_,toks:=_}) Hj (pastItsLine_dict ?_) ?_)
 .rw[List.size_toArray,BC,←bM.length];lia
 .exact aX (q cT m _ _ _ g1 Hj (kp ..) bM ek ht)
theorem aen {K:Frag}{C:bj}{G:List (V×V)→Nat→Prop}{Q:Unit→aS→Prop}(aG:K.In s.heap)(aR:s.heap.get? x=E (instObj C d))(hd:s.heap.get? d=E (dictOf xs n))
 (cS:dc w.params ρ s.heap es xs)(aD:∀e∈es,bU 4 e.1=true)(DA:eE es)(aE:(es.all fun e=>lE e.1)=true)(j6:es.length≤1000)(aL:f3 name=true)(aC:vc K C name)(bV:aN ρ s.heap v y)(g:oo (.str (a7 name)) v es G)
 (q:∀cT m fc h' t,G cT m→h'.get? d=E (dictOf fc (n+m))→fK d s.heap h'→dc w.params ρ s.heap cT fc→(∀e∈cT,bU 4 e.1=true)→eE cT→Q () {s with heap:=h',toks:=t}):
 wpAny (model O w) A (setAttr (.ref x) name y) Q b2 s:=
 set_plain aG (InstAt.mk' aR hd) aC.set (ab0 (s:={s with toks:=s.toks+1}) aG aR hd cS aD DA aE j6 aL aC bV g fun cT m fc h' t a b c e f i=>q cT m fc h' t a b c e f i)
end
def ya (B:gE)(name:Str):Prop:=f3 name=true∧∀c,oZ c=true→vc B.K c name
theorem RV (ok:B.Ok){a:V}{x:aj}{Q:V→Prop}{K:aj→aS→Prop}{C8:Bool}(aL:ya B name)(r:b0 w.params B I ah ay ρ H loc s)
 (h:rg a (a7 name) H Q)(bJ:aN ρ s.heap a x)(q:∀v y t,Q v→aN ρ s.heap v y→K y {s with toks:=t}):wpAny (model O w) A (getAttr x name C8) K eY s:=by
 exact E6 h bJ fun l b h ar=>r.am.rG ar h fun d c T6 h eZ eC aI=>r.am.mX eC h fun es n xs aJ h jO cS aD hZ=>WC (ok.K.keeps r.keeps) eZ jO cS aD aL.1 (aL.2 c aI) (mU h).2 q
noncomputable def oV:aY→Bool
 |.Call _ _ _ _=>false
 |_=>true
theorem RU (h:oV e=true)(attr:Str)(pos:Pos)(I:Env):eval (.Attribute e attr pos) I=(do
 let o←eval e I
 standAt pos.atName
 let r←holding [o] (getAttr o attr true)
 letTemporaryGo e o r
 pure r):=by cases e<;>first|rfl|exact dZ h
theorem adU (ok:B.Ok){x:aG}(aL:ya B name)(az:oV e=true)(he:cV O w B C A I ay e x):cV O w B C A I ay (.Attribute e name p) (.attr x (a7 name)):=
 fun ah loc H ρ s Q K h d2 q=>aaK (he ah loc H ρ s _ _ h d2 fun a aq bQ u bB R bt eD bk=>
  cU (RV ok aL (d2.step bk bt) R eD fun v y t cp bV=>(q.after bk) v aq bQ y _ cp bt bV .toks)) (RU az _ _ _)
namespace dV
theorem O2:Slot "bytearray" "__len__" "bytearray.__len__":=
 .of (owner:="bytearray") (n:="__len__") (by rw[jB,jA];kernel_rfl) (by decide+kernel) (by decide+kernel) (by decide+kernel)
  (by first|exact .inl (by decide+kernel)|exact .inr (by decide+kernel)) (by rw[nA];kernel_rfl)
theorem UC:entryFor table "bytearray.__len__"=E Builtin.«bytearray.__len__»:=by first|exact u1 (by kernel_rfl)|exact u0 (by kernel_rfl)
theorem RL (a:aj):argsOk "bytearray.__len__" ⟨[a],[]⟩:=by unfold argsOk;kernel_rfl
theorem AR:Slot "bytearray" "__getitem__" "bytearray.__getitem__":=
 .of (owner:="bytearray") (n:="__getitem__") (by rw[jB,jA];kernel_rfl) (by decide+kernel) (by decide+kernel) (by decide+kernel)
  (by first|exact .inl (by decide+kernel)|exact .inr (by decide+kernel)) (by rw[nA];kernel_rfl)
theorem Ju:entryFor table "bytearray.__getitem__"=E Builtin.«bytearray.__getitem__»:=by first|exact u1 (by kernel_rfl)|exact u0 (by kernel_rfl)
theorem IB (a b:aj):argsOk "bytearray.__getitem__" ⟨[a,b],[]⟩:=by unfold argsOk;kernel_rfl
theorem aeO:Slot "bytearray" "__setitem__" "bytearray.__setitem__":=
 .of (owner:="bytearray") (n:="__setitem__") (by rw[jB,jA];kernel_rfl) (by decide+kernel) (by decide+kernel) (by decide+kernel)
  (by first|exact .inl (by decide+kernel)|exact .inr (by decide+kernel)) (by rw[nA];kernel_rfl)
theorem UD:entryFor table "bytearray.__setitem__"=E Builtin.«bytearray.__setitem__»:=by first|exact u1 (by kernel_rfl)|exact u0 (by kernel_rfl)
theorem RM (a b c:aj):argsOk "bytearray.__setitem__" ⟨[a,b,c],[]⟩:=by unfold argsOk;kernel_rfl
theorem O0:Slot "bytearray" "__iter__" "bytearray.__iter__":=
 .of (owner:="bytearray") (n:="__iter__") (by rw[jB,jA];kernel_rfl) (by decide+kernel) (by decide+kernel) (by decide+kernel)
  (by first|exact .inl (by decide+kernel)|exact .inr (by decide+kernel)) (by rw[nA];kernel_rfl)
theorem UA:entryFor table "bytearray.__iter__"=E Builtin.«bytearray.__iter__»:=by first|exact u1 (by kernel_rfl)|exact u0 (by kernel_rfl)
theorem RJ (a:aj):argsOk "bytearray.__iter__" ⟨[a],[]⟩:=by unfold argsOk;kernel_rfl
theorem aeN:Slot "bytearray" "__init__" "bytearray.__init__":=
 .of (owner:="bytearray") (n:="__init__") (by rw[jB,jA];kernel_rfl) (by decide+kernel) (by decide+kernel) (by decide+kernel)
  (by first|exact .inl (by decide+kernel)|exact .inr (by decide+kernel)) (by rw[nA];kernel_rfl)
theorem Uz:entryFor table "bytearray.__init__"=E Builtin.«bytearray.__init__»:=by first|exact u1 (by kernel_rfl)|exact u0 (by kernel_rfl)
theorem RI (a b:aj):argsOk "bytearray.__init__" ⟨[a,b],[]⟩:=by unfold argsOk;kernel_rfl
theorem ut:Slot "bytearray_iterator" "__next__" "bytearray_iterator.__next__":=
 .of (owner:="bytearray_iterator") (n:="__next__") (by rw[jB,jA];kernel_rfl) (by decide+kernel) (by decide+kernel) (by decide+kernel)
  (by first|exact .inl (by decide+kernel)|exact .inr (by decide+kernel)) (by rw[nA];kernel_rfl)
theorem Jv:entryFor table "bytearray_iterator.__next__"=E Builtin.«bytearray_iterator.__next__»:=by first|exact u1 (by kernel_rfl)|exact u0 (by kernel_rfl)
theorem IC (a:aj):argsOk "bytearray_iterator.__next__" ⟨[a],[]⟩:=by unfold argsOk;kernel_rfl
end dV
section
open PySem.Builtin
section
variable {b:Array UInt8}
theorem i0 (e:s.heap.get? a=E (e6 b)):s.TypeIs (.ref a) "bytearray":=⟨_,e,rfl⟩
theorem tb {Q:Array UInt8→aS→Prop}(e:s.heap.get? a=E (e6 b))(h:Q b s):wpAny aA A (Bytes.payload (.ref a)) Q b2 s:=by unfold Bytes.payload Bytes.payload?;exact af (af (nC e (aX (aX h))))
theorem R2:Meets (Builtin.«bytearray.__len__» ⟨[.ref a],[]⟩) (fun _ b0 s=>s.heap.get? a=E (e6 b)∧b0 (.ok (.ret (.int b.size s.toks))) {s with toks:=s.toks+1}):=
 .of_wp fun O w A b0 s ⟨e,h⟩=>by refine(?_:wpAny _ _ (Bytes.payload (.ref a)>>=fun r=>_) _ _ s);refine af (tb e ?_);exact af (u4 (aX ⟨_,rfl,h⟩))
theorem R0 {i:Int}{t:Tok}{x:UInt8}(bl:0≤i)(hi:i<2^62)(aR:b[i.toNat]? =E x):
 Meets (Builtin.«bytearray.__getitem__» ⟨[.ref a,.int i t],[]⟩) (fun _ b0 s=>s.heap.get? a=E (e6 b)∧b0 (.ok (.ret (.int x.toNat s.toks))) {s with toks:=s.toks+1}):=
 .of_wp fun O w A b0 s ⟨e,h⟩=>by
  refine(?_:wpAny _ _ (Bytes.subscript? (.int i t)>>=fun r=>_) _ _ s);refine af ?_;unfold Bytes.subscript?;refine af (iR (x0 s i t) F.slot_int_index.lookup ?_);refine(?_:wpAny _ _ (if(!Bytes.fitsIndex i)=true then _ else pure (E i)) _ _ s);have am:Bytes.fitsIndex i=true:=by simp only[Bytes.fitsIndex,fJ,decide_eq_true_eq];lia
  rw[am];refine aX ?_;refine(?_:wpAny _ _ (Bytes.payload (.ref a)>>=fun r=>_) _ _ s);refine af (tb e ?_);refine(?_:wpAny _ _ (match(seqIndex? i b.size).bind (b[·]?) with|some x=>_|none=>_) _ _ s)
  have ec:i.toNat<b.size:=by have:=(Gy.mp aR).1;exact this
  have:seqIndex? i b.size=E i.toNat:=by
   have aL:¬i<0:=by lia
   have R:i<b.size:=by lia
   simp[seqIndex?,aL,bl,R]
  rw[this,Option.bind_some,aR];exact af (u4 (aX ⟨_,rfl,h⟩))
theorem RZ {i:Int}{t:Tok}{x:UInt8}(e:s.heap.get? a=E (e6 b))(bl:0≤i)(hi:i<2^62)(aR:b[i.toNat]? =E x)
 (h:Q (.int x.toNat s.toks) {s with toks:=s.toks+1}):wpAny (model O w) A (getItem (.ref a) (.int i t)) Q b2 s:=
 G1 (i0 e) (by decide) dV.AR dV.Ju (dV.IB _ _) (R0 bl hi aR) ⟨e,h⟩
theorem abd {c:Array UInt8}(hz:c.size≤sizeLine)(h:Q (.ref s.heap.objs.size) {s with heap:=s.heap.push (e6 c)}):wpAny aA A (Bytes.newBytearray c) Q b2 s:=by unfold Bytes.newBytearray;exact jC h hz
theorem R3 {ch:bj}{l u:aj}(ar:IsPart l lo)(bx:IsPart u hi):
 Meets (Builtin.«bytearray.__getitem__» ⟨[.ref a,.ref ch],[]⟩) (fun _ b0 s=>s.heap.get? a=E (e6 b)∧s.heap.IsSliceOf ch l u .none∧(BR b lo hi).size≤sizeLine∧
  b0 (.ok (.ret (.ref s.heap.objs.size))) {s with heap:=s.heap.push (e6 (BR b lo hi))}):=by
 refine .of_wp fun O w A b0 s bc=>?_;refine kR bc fun e cj DP h=>?_;clear bc;refine dq cj fun o bT=>?_;refine hJ bT fun ax aI hd=>?_;clear bT cj;have ct:s.TypeIs (.ref ch) "slice":=⟨o,ax,aI⟩;refine(?_:wpAny _ _ (Bytes.subscript? (.ref ch)>>=fun r=>_) _ _ s);refine af ?_;unfold Bytes.subscript?;refine af (iR ct G5 (aX ?_));refine af (u8 ct ?_);refine(?_:wpAny _ _ (Bytes.sliceParts (.ref ch)>>=fun r=>_) _ _ s);refine af ?_;unfold Bytes.sliceParts;refine af (ib (x:=.none) ax hd rfl ?_)
 kby_none
 refine nB (nE (show¬((cg==rawInt 0)=true) from d8) ?_);refine af (ib (x:=l) ax hd rfl ?_);have go:wpAny (model O w) A.in1 (sliceIndices (rawPart lo) (rawPart hi) (rawPart none) b.size) (fun r s'=>r=sliceBounds lo hi none b.size∧s'=s) (fun _ _=>False) s:=
  hq (G4 lo hi none b.size (fun e=>nomatch e)) ⟨rfl,rfl⟩
 cases ar<;>cases bx<;>(first
  |(kby_none;(refine af (ib (x:=.none) ax hd rfl ?_));kby_none)
  |(kby_none;(refine af (ib (x:=.int _ _) ax hd rfl ?_));kby_int)
  |(kby_int;(refine af (ib (x:=.none) ax hd rfl ?_));kby_none)
  |(kby_int;(refine af (ib (x:=.int _ _) ax hd rfl ?_));kby_int))<;>refine aX ?_
 all_goals
  refine af (tb e ?_);refine af (sM go (fun r s' am=>?_) fun _ _ e=>e.elim);refine b8 am fun bt cr=>?_;clear am;subst bt cr;exact af (abd DP (aX ⟨_,rfl,h⟩))
end
end
section
open PySem.Builtin
theorem NW {o:Option V}{K:V→Prop}(h:k1 o K)(k:∀v,o=E v→K v→G):G:=by
 induction o using ez with
 |none=>exact h.elim
 |some v=>exact k v rfl h
theorem bK.at:∀{xs:List aj} {j:Nat} {v:V},bK ρ h vs xs→vs[j]? =E v→∃x,xs[j]? =E x∧aN ρ h v x:=by
 induction vs with
 |nil=>exact fun _ e=>c5 e
 |cons u vs aF=>
  intro xs j v r e;refine r.gS fun y ys a dz=>?_
  induction j using ia with
  |zero=>obtain rfl:=cF e;exact⟨y,rfl,a⟩
  |succ j=>exact aF (xs:=ys) (j:=j) dz e
theorem Ys {is:List Int}{i:Int}(h:IntsAre xs is)(e:is[j]? =E i):∃t,xs[j]? =E (.int i t):=by
 induction h generalizing j with
 |nil=>exact c5 e
 |cons n t r aF=>induction j using ia with
  |zero=>obtain rfl:=cF e;exact⟨t,rfl⟩
  |succ j=>exact aF e
theorem NF {a:Array UInt8}{i:Int}(e:(d1 a)[j]? =E i):∃x,a[j]? =E x∧i=x.toNat:=by unfold d1 at e;rw[List.getElem?_map] at e;exact dr (GW.mp e) fun x R Z=>⟨x,by simpa using R,Z.symm⟩
theorem OH {x:Int}(bl:0≤x)(h:x.toNat<n):seqIndex? x n=E x.toNat:=by
 have R:¬x<0:=by lia
 have Z:x<n:=by lia
 simp[seqIndex?,R,bl,Z]
theorem V7 {x:Int}(bl:0≤x)(h:x<2^62):Bytes.fitsIndex x=true:=by simp only[Bytes.fitsIndex,fJ,decide_eq_true_eq];lia
noncomputable def qs:aY→Bool
 |.Slice _ _ none _=>true
 |_=>false
theorem afH {slice:aY}(h:qs slice=false)(o i:aj):subscripted slice false o i=operate [o,i] (getItem o i):=by
 unfold subscripted
 split
 .exact j9 h
 .contradiction
 .rfl
theorem vr {b:List Int}{x:Int}{K:Int→Prop}(h:ta b x K)(k:∀c,b[x.toNat]? =E c→K c→G):G:=
 nR h fun R Z=>by rw[List.getD_eq_getElem?_getD,List.getElem?_eq_getElem R] at Z;exact k _ (List.getElem?_eq_getElem R) Z
theorem Yq:∀{is:List Int},lC vs=E is→vs=is.map .int:=by
 induction vs with
 |nil=>intro is h;obtain rfl:=cF h;rfl
 |cons v r aF=>
  intro is h
  induction v using V.casesOn with
  |int i=>
   refine(?_:(match lC r with|some is=>E (i::is)|dn=>dn)=E is→_) h
   cases e:lC r with
   |none=>exact fun h=>c5 h
   |some K6=>intro h;obtain rfl:=cF h;rw[aF e];rfl
  |_=>exact c5 h
theorem afE {x:Int}{K:V→Prop}(h:F1 vs x K)(k:∀v,vs[x.toNat]? =E v→K v→G):G:=by
 unfold F1 at h;generalize e:lC vs=f9 at h
 induction f9 using ez with
 |none=>exact NW h k
 |some is=>exact vr h fun c aW h=>k _ (by rw[Yq e,List.getElem?_map,aW];rfl) h
@[elab_as_elim] theorem tM {i:V}{K:Int→Prop}{aA:aj→Prop}(c:rK i K)(r:aN ρ h i y)(k:∀x t,0≤x→x<2^62→K x→aA (.int x t)):aA y:=by
 induction i using V.casesOn with
 |int x=>exact r.fh fun t=>nR c fun bl h=>k x t bl.1 bl.2 h
 |_=>exact fv c
theorem KI {x:Int}(h:x<2^62):x<2^63:=ko h (by decide)
theorem aaJ {x:Int}(h:0≤x): -(2^63)≤x:=q1 (by decide) h
theorem JY {vs:List aj}{is:List Int}{x i:Int}{t:Tok}(e:s.heap.get? a=E (listOf vs.toArray n))(DW:IntsAre vs is)(bl:0≤x)(aR:x<2^62)(hi:is[x.toNat]? =E i)
 (q:∀u,Q (.int i u) s):wpAny (model O w) A (getItem (.ref a) (.int x t)) Q b2 s:=by
 exact dq (Ys DW hi) fun u bx=>wpAny_getItem_list (x:=.int i u) (isList e) bl (by lia) (by simpa using bx) (q u)
theorem afF {Bi slice:aY}{a b:V}{x:aj}{Q:bE}{K:aj→aS→Prop}(bx:A.units+20<cLine)(aE:qs slice=false)(h:xk a b H Q)
 (am:bz w.params ρ H s.heap)(bJ:aN ρ s.heap a x)(bm:aN ρ s.heap b y)(q:jE w.params ρ s Q K):wpAny (model O w) A (subscriptTail Bi slice x y) K eY s:=by
 have gr:=fun x y=>afH aE x y;have dh:∀v z,Q v H→aN ρ s.heap v z→K z s:=fun v z a9 bV=>q v H ρ z s a9 am bV (.refl _ _ _);have r6:∀i u n,Q (.int i) H→K (.int i u) {s with toks:=n}:=fun i u n a9=>q _ H ρ _ _ a9 am (.int i u) .toks
 induction a using V.casesOn with
 |tup vs=>exact tM h bm fun i t bl R Z=>afE Z fun v e Z=>bJ.gN fun l xs n o r=>(r.at e).elim fun z g=>nz (isTup o).typeIs slot_tuple_getitem.lookup (getItem_tuple (isTup o) (aaJ bl) (KI R) (OH bl (List.getElem?_eq_some_iff.mp g.1).1) (by simpa using g.1) (dh v z Z g.2)) (gr _ _)
 |bytes bs=>
  exact tM h bm fun i t bl R Z=>vr Z fun c kx Z=>by
   revert kx;refine bJ.oX fun u mA _ kx=>(NF kx).elim fun z g=>?_;obtain rfl:=g.2;refine nz (pK _ _ _) BQ.lookup (getItem_gives (pK s _ mA) (by decide) BQ QF (QE _ _)
    (gives_bytes_getitem _ i mA t z (V7 bl R) ?_) (r6 _ _ _ Z)) (gr _ _)
   rw[OH bl (Gy.mp g.1).1];exact g.1
 |ref l=>
  refine bJ.hl fun p ar=>?_;refine(?_:(match H[l]? with|some ob=>Pj ob b fun v=>Q v H|dn=>False)→_) h
  generalize eU:H[l]? =f9
  induction f9 using ez with
  |none=>exact fun h=>h.elim
  |some ob=>induction ob using an.casesOn with
   |«list» vs=>exact fun h=>tM h bm fun i t bl R Z=>NW Z fun v e Z=>dD (am.list ar eU) fun xs n g=>(g.2.at e).elim fun z bM=>nz (isList g.1).typeIs xZ.lookup (wpAny_getItem_list (isList g.1) bl (KI R) (by simpa using bM.1) (dh v z Z bM.2)) (gr _ _)
   |«ints» is=>exact fun h=>tM h bm fun i t bl R Z=>vr Z fun c kx Z=>dD (am.ints ar eU) fun xs n g=>nz (isList g.1).typeIs xZ.lookup (JY g.1 g.2 bl R kx fun u=>r6 c u s.toks Z) (gr _ _)
   |cB bs=>exact fun h=>tM h bm fun i t bl R Z=>vr Z fun c kx Z=>(am.cB ar eU).elim fun u g=>by rw[←g.2.2] at kx;refine(NF kx).elim fun z k=>?_;obtain rfl:=k.2;exact nz (i0 g.1) dV.AR.lookup (RZ g.1 bl R k.1 (r6 _ _ _ Z)) (gr _ _)
   |dict es n=>exact fun h=>j1 h fun R Z=>(am.dict ar eU).elim fun xs g=>nz (fq g.1) G7.lookup (WF g.1 g.2.1 g.2.2.1 g.2.2.2 R bm (mJ (GJ (by decide) _) bx) Z fun v z t g hz=>q v H ρ z _ g am hz .toks) (gr _ _)
   |d6 is=>exact fun h=>tM h bm fun i t bl R Z=>vr Z fun c kx Z=>dD (am.d6 ar eU) fun xs n g=>nz (isList g.1).typeIs xZ.lookup (JY g.1 g.2 bl R kx fun u=>r6 c u s.toks Z) (gr _ _)
   |_=>exact fun h=>h.elim
 |_=>exact h.elim
theorem aeh (bx:A.units+20<cLine){f:aY}{x y:aG}(aE:qs f=false)(he:cV O w B C A I ay e x)(hf:cV O w B C A I ay f y):cV O w B C A I ay (.Subscript e f p) (.sub x y):=
 fun ah loc H ρ s Q K h d2 q=>M8 (he ah loc H ρ s _ _ h d2 fun a aq bQ u bB R bt eD bk=>
  hf ah loc aq bQ bB _ _ R (d2.step bk bt) fun b be cv v s2 Z cr jT cm=>cU (afF bx aE Z cr (eD.mono cm.fW bt.dg) jT ((q.after bk).after cm)))
end
section
open PySem.Builtin
theorem CL {i:Int}(h:0≤i):clipAt n i=min i.toNat n:=by refine dq (jV h) fun k cj=>?_;subst cj;exact clipAt_nat n k
theorem T0 {a0:Type}{ys:List a0}{l:Nat}(h:ys.length≤n):ys.drop (min l n)=ys.drop l:=by
 rcases GK l n with k|k
 .rw[q3 k]
 .rw[Nat.min_eq_right k,List.drop_eq_nil_of_le h,List.drop_eq_nil_of_le (e4 h k)]
theorem CN {a0:Type}(xs:List a0)(aL:xs.length=n)(R:pg lo)(Z:pg hi):
 (xs.drop (lo.elim 0 (clipAt n))).take (hi.elim n (clipAt n)-lo.elim 0 (clipAt n))=cut xs lo hi:=by
 rw[←List.drop_take];have e:xs.take (hi.elim n (clipAt n))=cut xs none hi:=by
  induction hi using ez with
  |none=>exact List.take_of_length_le (sH aL)
  |some h=>refine(?_:xs.take (clipAt n h)=xs.take h.toNat);rw[CL Z.1,←aL];exact List.take_eq_take_min.symm
 rw[e];have ar:(cut xs none hi).length≤n:=by rw[←e,List.length_take,aL];exact GP _ _
 induction lo using ez with
 |none=>rfl
 |some l=>refine(?_:(cut xs none hi).drop (clipAt n l)=(cut xs none hi).drop l.toNat);rw[CL R.1,T0 ar]
theorem IntsAre.gJ {is:List Int}(h:IntsAre xs is):IntsAre (Mine.gJ xs) (Mine.gJ is):=by
 have:IntsAre (Mine.gJ xs) (Mine.gJ is)∧∀n t,IntsAre (Mine.gJ (.int n t::xs)) (Mine.gJ (n::is)):=by
  induction h with
  |nil=>exact⟨.nil,fun n t=>.cons n t .nil⟩
  |cons n t r aF=>exact⟨aF.2 n t,fun m u=>.cons m u aF.1⟩
 exact this.1
theorem IntsAre.cut {is:List Int}(h:IntsAre xs is)(lo hi:Option Int):IntsAre (Mine.cut xs lo hi) (Mine.cut is lo hi):=by
 unfold Mine.cut;cases lo<;>cases hi
 .exact h
 .exact h.take _
 .exact h.drop _
 .exact(h.take _).drop _
theorem ace {a0:Type}(xs:List a0)(n:Nat):(∀ys a,xs.drop a=ys→n≤ys.length→((List.range ((n+1)/2)).map fun k=>a+2*k).filterMap (xs[·]?)=Mine.gJ (ys.take n))∧
 ∀ys a,xs.drop a=ys→n+1≤ys.length→((List.range ((n+2)/2)).map fun k=>a+2*k).filterMap (xs[·]?)=Mine.gJ (ys.take (n+1)):=by
 have IG:∀{y ys a},xs.drop a=y::ys→xs[a]? =E y:=fun e=>by rw[←List.head?_drop,e];rfl
 induction n with
 |zero=>
  refine⟨fun ys a _ _=>rfl,fun ys a e h=>?_⟩
  induction ys using List.casesOn with
  |nil=>exact absurd h (Bx _)
  |cons y ys=>refine(?_:([a].filterMap (xs[·]?))=[y]);rw[List.filterMap_cons,IG e];rfl
 |succ n aF=>
  refine⟨aF.2,fun ys a e h=>?_⟩
  induction ys using List.casesOn with
  |nil=>exact absurd h (Bx _)
  |cons y ys=>induction ys using List.casesOn with
   |nil=>exact absurd (xT h) (Bx _)
   |cons z ys=>
    rw[show(n+1+2)/2=(n+1)/2+1 from Nat.add_div_right (n+1) (by decide),List.range_succ_eq_map,List.map_cons,List.map_map,List.filterMap_cons];refine(?_:(match xs[a]? with|none=>_|some b=>b::_)=_)
    rw[IG e];have aJ:((fun k=>a+2*k)∘Nat.succ)=fun k=>(a+2)+2*k:=funext fun k=>(Nat.add_right_comm a 2 (2*k)).symm;rw[aJ];have cJ:xs.drop (a+2)=ys:=by rw[←List.drop_drop,e];rfl
    exact congrArg (y:: ·) (aF.1 ys (a+2) cJ (xT (xT h)))
theorem acC (a d:Nat):sliceRange a (a+d:Nat) 2=(List.range ((d+1)/2)).map fun k=>a+2*k:=by
 unfold sliceRange;have aJ:(fun k:Nat=>((a:Int)+2*(k:Int)).toNat)=fun k=>a+2*k:=funext fun k=>by refine(?_:((a:Int)+((2:Nat):Int)*(k:Int)).toNat=a+2*k);rw[←Int.natCast_mul,←Int.natCast_add,pG]
 rw[aJ];rw[if_pos (by decide)]
 induction d using ia with
 |zero=>rw[Nat.add_zero,if_neg (Int.lt_irrefl _)];rfl
 |succ d=>rw[if_pos (by lia),show((a+(d+1):Nat):Int)-a+2-1=((d+1+1:Nat):Int) by lia];rfl
theorem aeK (items:Array aj)(R:pg lo)(Z:pg hi):slicePick items lo hi (E 2)=(Mine.gJ (Mine.cut items.toList lo hi)).toArray:=by
 rw[←CN items.toList (n:=items.size) xH R Z];unfold slicePick;have ih:sliceBounds lo hi (E 2) items.size=(((lo.elim 0 (clipAt items.size):Nat):Int),((hi.elim items.size (clipAt items.size):Nat):Int),2):=by cases lo<;>cases hi<;>simp[sliceBounds,clipAt_cast]
 rw[ih];dsimp only;have aC:hi.elim items.size (clipAt items.size)≤items.size:=by
  clear ih
  induction hi using ez with
  |none=>exact kN _
  |some h=>show clipAt items.size h≤items.size;rw[CL Z.1];exact GP _ _
 revert aC;generalize lo.elim 0 (clipAt items.size)=a;generalize hi.elim items.size (clipAt items.size)=c;intro aC;congr 1;rcases GK a c with zj|zj
 .refine dq (Nat.exists_eq_add_of_le zj) fun d cj=>?_;subst cj;rw[acC,sF];have:=(ace items.toList d).1 _ a rfl (by rw[List.length_drop,xH];exact Nat.le_sub_of_add_le' aC);rw[←this];congr 1;funext i;exact Qk.symm
 .rw[Qw zj];unfold sliceRange;rw[if_pos (by decide),if_neg (Int.not_lt.mpr (lg.mpr zj))];rfl
def sY (O:hS)(w:fk)(B:gE)(C:hT)(A:fw)(I:Env)(ay:List Str)(e:Option aY)(x:aG):Prop:=∀ah loc H ρ s (Q:bE) (K:aj→aS→Prop),cG C B.G loc x H Q→b0 w.params B I ah ay ρ H loc s→jE w.params ρ s Q K→
 aO O w A (evalPart e I) K s
theorem MC {a:V}{l:Option Int}{x:aj}(e:lo? a=E l)(r:aN ρ h a x):IsPart x l:=by
 induction a using V.casesOn with
 |none=>cases r;exact fe e▸.none
 |int i=>refine r.fh ?_;intro t;exact fe e▸.int _ _
 |_=>exact hj e
theorem afG (lo hi st:Option aY)(p:Pos)(o i:aj):∃ub,subscripted (.Slice lo hi st p) false o i=operate ub (getItem o i):=by
 induction st using ez with
 |none=>exact⟨_,rfl⟩
 |some _=>exact⟨_,rfl⟩
theorem My (h:n≤1000000):n≤sizeLine:=e4 h (by decide:1000000≤sizeLine)
theorem N4 (b:Array UInt8)(R:pg lo)(Z:pg hi):d1 (BR b lo hi)=cut (d1 b) lo hi:=by rw[KBc.picked_eq];unfold d1;rw[List.map_take,List.map_drop,←CN _ (n:=b.size) (by rw[List.length_map,xH]) R Z]
structure Q4 (lo hi:V)(st o:V)(H:List an)(K:bE)(l h:Option Int):Prop where
 aW:lo? lo=E l
 aJ:lo? hi=E h
 R:pg l
 Z:pg h
 k:match st with
  |.none=>(match o with
   |.bytes b=>K (.bytes (cut b l h)) H
   |.ref a=>(match H[a]? with
    |some (.ints xs)=>cY (xs.length≤1000000) (K (.ref H.length) (H++[.ints (cut xs l h)]))
    |some (.cB xs)=>K (.ref H.length) (H++[.cB (cut xs l h)])
    |_=>False)
   |_=>False)
  |.int st=>cY (st=2) (match o with
   |.ref a=>(match H[a]? with
    |some (.ints xs)=>cY (xs.length≤1000000) (K (.ref H.length) (H++[.ints (gJ (cut xs l h))]))
    |_=>False)
   |_=>False)
  |_=>False
theorem aeL {o lo hi st:V}(h:AQ o lo hi st H K):∃l r,Q4 lo hi st o H K l r:=by
 unfold AQ at h;generalize aW:lo? lo=eZ at h;generalize aJ:lo? hi=eC at h
 induction eZ using ez with
 |none=>exact h.elim
 |some l=>induction eC using ez with
  |none=>exact h.elim
  |some r=>have h:=fM h;have g:=gD.mp h.1;exact⟨l,r,aW,aJ,NM g.1,NM g.2,h.2⟩
theorem aeM {Bi:aY}{lo hi st:Option aY}{o l u z:V}{x kl oB oC:aj}{Q:bE}{K:aj→aS→Prop}(h:AQ o l u z H Q)
 (am:bz w.params ρ H s.heap)(sb:aN ρ s.heap o x)(Ou:aN ρ s.heap l kl)(uk:aN ρ s.heap u oB)(Oy:aN ρ s.heap z oC)(q:jE w.params ρ s Q K):
 wpAny (model O w) A (subscriptTail Bi (.Slice lo hi st p) x (.ref s.heap.objs.size)) K eY {s with heap:=s.heap.push {cls:=.type "slice",data:=.fields #[kl,oB,oC]}}:=by
 refine(aeL h).elim fun oW g=>g.elim fun vv g=>?_;have pl:=MC g.aW Ou;have AD:=MC g.aJ uk;have R:=g.R;have Z:=g.Z;have h:=g.k;clear g Ou uk;have bk:Step [] ρ s ρ {s with heap:=s.heap.push {cls:=.type "slice",data:=.fields #[kl,oB,oC]}}:=.push _
 have cj:=q.after bk;clear bk;have lE:=QC s.heap kl oB oC;have bt:bz w.params ρ H (s.heap.push {cls:=.type "slice",data:=.fields #[kl,oB,oC]}):=am.push _;refine(afG lo hi st p x (.ref s.heap.objs.size)).elim fun ub gr=>?_;clear q am;revert cj lE bt;refine(?_:jE w.params ρ {s with heap:=s.heap.push {cls:=.type "slice",data:=.fields #[kl,oB,oC]}} Q K→_)
 generalize s.heap.push {cls:=.type "slice",data:=.fields #[kl,oB,oC]}=bl;intro cj lE bt;have Of:∀{b:Array UInt8},b.size≤1000000→(BR b oW vv).size≤sizeLine:=fun hz=>e4 (Hh _ _ _) (My hz);have qD:∀{ys:List aj} {is:List Int},IntsAre ys is→is.length≤1000000→ys.toArray.size≤sizeLine:=fun i hz=>by rw[List.size_toArray,i.length];exact My hz
 induction z using V.casesOn with
 |none=>
  cases Oy
  induction o using V.casesOn with
  |bytes II=>
   refine sb.oX (aA:=fun II x=>subscripted (.Slice lo hi st p) false x (.ref s.heap.objs.size)=operate ub (getItem x (.ref s.heap.objs.size))→Q (.bytes (cut II oW vv)) H→wpAny (model O w) A (subscriptTail Bi (.Slice lo hi st p) x (.ref s.heap.objs.size)) K eY {s with heap:=bl}) (fun b t hz gr h=>?_) gr h
   rw[←N4 b R Z] at h;exact nz (pK _ _ _) BQ.lookup (G1 (pK _ _ _) (by decide) BQ QF (QE _ _)
    (KBc.meets_slice2 b t _ pl AD) ⟨lE,Of hz,fun mA k=>cj _ H ρ _ _ h bt (.bytes _ _ (e4 (Hh b _ _) hz)) .toks⟩) gr
  |ref dw=>
   revert gr;refine sb.hl ?_;intro a ar gr;dsimp only at h;generalize e:H[dw]? =f9 at h
   induction f9 using ez with
   |none=>exact h.elim
   |some ob=>induction ob using an.casesOn with
    |«ints» is=>have h:=j2 h;refine(bt.ints ar e).elim fun ys g=>g.elim fun n g=>nz (isList g.1).typeIs xZ.lookup (Qz (isList g.1) lE pl AD .none (by simp) ?_ (qD g.2 h.1)) gr;refine wU bt rfl (o:=.ints (cut is oW vv)) ?_ h.2 cj s.toks;rw[slicePick_plain,CN _ (n:=ys.toArray.size) xH R Z];exact .ints (Mine.IntsAre.cut g.2 _ _)
    |cB bs=>
     refine(bt.cB ar e).elim fun b g=>?_;have h:Q (.ref H.length) (H++[.cB (cut bs oW vv)]):=h;rw[←g.2.2,←N4 b R Z] at h;exact nz (i0 g.1) dV.AR.lookup (G1 (i0 g.1) (by decide) dV.AR dV.Ju (dV.IB _ _)
      (R3 pl AD) ⟨g.1,lE,Of g.2.1,wU bt rfl (.cB _ (e4 (Hh b _ _) g.2.1)) h cj s.toks⟩) gr
    |_=>exact h.elim
  |_=>exact h.elim
 |int i=>
  revert lE;refine Oy.fh ?_;intro t lE;have h:=j2 h;have bl:=h.1;subst bl;replace h:=h.2
  induction o using V.casesOn with
  |ref dw=>
   revert gr;refine sb.hl ?_;intro a ar gr;dsimp only at h;generalize e:H[dw]? =f9 at h
   induction f9 using ez with
   |none=>exact h.elim
   |some ob=>induction ob using an.casesOn with
    |«ints» is=>have h:=j2 h;refine(bt.ints ar e).elim fun ys g=>g.elim fun n g=>nz (isList g.1).typeIs xZ.lookup (Qz (isList g.1) lE pl AD (.int _ _) (by simp) ?_ (qD g.2 h.1)) gr;refine wU bt rfl (o:=.ints (gJ (cut is oW vv))) ?_ h.2 cj s.toks;rw[aeK _ R Z];exact .ints (IntsAre.gJ (Mine.IntsAre.cut g.2 _ _))
    |_=>exact h.elim
  |_=>exact h.elim
 |_=>exact h.elim
theorem ae0:sY O w B C A I ay none .none:=fun _ _ H ρ s Q K h r q=>by rw[evalPart_none];exact cN (q _ H ρ _ s h r.am .none (.refl _ _ _))
theorem ae1 {x:aG}(h:cV O w B C A I ay e x):sY O w B C A I ay (E e) x:=fun ah loc H ρ s Q K cp r q=>by rw[evalPart_some];exact h ah loc H ρ s Q K cp r q
theorem aef {l u z:Option aY}{x kl oB oC:aG}{od:Pos}(he:cV O w B C A I ay e x)(ar:sY O w B C A I ay l kl)(bx:sY O w B C A I ay u oB)(hz:sY O w B C A I ay z oC):
 cV O w B C A I ay (.Subscript e (.Slice l u z od) p) (.slice x kl oB oC):=
 fun ah loc H ρ s Q K h d2 q=>M8 (he ah loc H ρ s _ _ h d2 fun a aq bQ ahs bB R bt eD bk=>M7
  (ar ah loc aq bQ bB _ _ R (d2.step bk bt) fun b be cv aht s2 Z cr jT cm=>
  bx ah loc be cv s2 _ _ Z ((d2.step bk bt).step cm cr) fun c ei ga ahu eS bv f7 P0 ft=>
  hz ah loc ei ga eS _ _ bv (((d2.step bk bt).step cm cr).step ft f7) fun d pR oE ahv i6 cZ n0 nu kg=>
   cU (aeM cZ n0 ((eD.mono ((cm.trans ft).trans kg).fW bt.dg)) (jT.mono (ft.trans kg).fW cr.dg) (P0.mono kg.fW f7.dg) nu ((((q.after bk).after cm).after ft).after kg))))
end
section
open PySem.Builtin
inductive Src where
 |list (l:bj)|tup (t:bj)|p6 (b:Array UInt8) (t:Tok)|cB (l:bj)|dict (d:bj) (n ep:Nat)|eQ (a st:Int) (n:Nat)
def gc (k:Src)(aM:bj)(i:Nat)(h:fR):Prop:=match k with
 |.list l=>h.IsListIter aM l i
 |.tup t=>h.IsTupleIter aM t i
 |.p6 b t=>KBw.IsBytesIter h aM b t i
 |.cB l=>∃o,h.get? aM=E o∧o.cls=.type "bytearray_iterator"∧o.data=.fields #[.ref l,.int i 0]
 |.dict d n ep=>h.IsKeyIter aM d i n ep
 |.eQ a st n=>IsRangeIter h aM (a+st*i) (n-i) st
theorem gc.keep {k:Src}{i:Nat}(x:gc k aM i h)(e:∀o,h.get? aM=E o→h'.get? aM=E o):gc k aM i h':=by
 induction k using Src.casesOn with
 |eQ a st n=>exact e _ x
 |_=>refine dr x fun o ax r=>?_;clear x;exact⟨o,e o ax,r⟩
theorem gc.ex {k:Src}{i:Nat}(x:gc k aM i h):∃o,h.get? aM=E o:=by
 induction k using Src.casesOn with
 |eQ a st n=>exact⟨_,x⟩
 |_=>refine dr x fun o ax r=>?_;clear x;exact⟨o,ax⟩
def jZ (P:dj)(ρ:List bj)(h:fR)(k:Src)(vs:List V):Prop:=match k with
 |.list l=>∃xs n,h.get? l=E (listOf xs.toArray n)∧bK ρ h vs xs
 |.tup t=>∃xs n,h.get? t=E (gO xs n)∧bK ρ h vs xs
 |.p6 b t=>vs=(d1 b).map .int
 |.cB l=>∃b,h.get? l=E (e6 b)∧vs=(d1 b).map .int
 |.dict d n ep=>∃es xs,h.get? d=E (dictOf xs ep)∧dc P ρ h es xs∧vs=es.map (·.1)∧n=vs.length
 |.eQ a st n=>vs=(List.range n).map fun i=>.int (a+st*i)
theorem bK.at' (r:bK ρ h vs xs)(e:vs[j]? =none):xs[j]? =none:=by rw[List.getElem?_eq_none_iff] at e⊢;exact r.length▸e
theorem Mf {bX d:bj}{i:Nat}{xs:List c3}{x:c3}{Q:Option aj→aS→Prop}(dO:s.heap.IsKeyIter bX d i xs.length ep)
 (hm:s.heap.get? d=E (dictOf xs ep))(aR:xs[i]? =E x)
 (h4:∀h',h'.IsKeyIter bX d (i+1) xs.length ep→fK bX s.heap h'→Q (E x.key) {s with heap:=h'}):
 wpAny (model O w) A (pyNext (.ref bX)) Q b2 s:=by
 refine gz (id dO) fun o ax aI hd=>?_;unfold pyNext;refine af (u2 (mL (name:=g6 "__next__") dO.typeIs PySem.F.slot_dict_keyiterator_next
  (hp PySem.F.slot_dict_keyiterator_next dO.typeIs PySem.F.entry_dict_keyiterator_next ?_ (PySem.F.args_dict_keyiterator_next_1 _))))
 refine af (aX (af<|af ?_))
 first|refine af (BI dO.typeIs (aX ?_))|refine af (BK dO.typeIs (aX ?_))
 refine af (BE ax hd ?_);have wo:Builtin.Dict_items.ownsTuple "dict_keyiterator"=false:=by decide
 rw[wo];refine(?_:wpAny _ _ (if(gP d==cg)=true then _ else _) _ _ s);refine e3 (show¬((gP d==cg)=true) from d8)<|af (aX (af (mM hm rfl (e3 qr<|af (aX (af (lj hm rfl (e3 qr<|aX ?_))))))))
 have o6:xs.toArray[i]? =E x:=by simpa using aR
 simp only[show¬((i:Int)<0) from by lia,if_false,pG,o6];refine af ?_
 first|refine af (BI dO.typeIs (aX ?_))|refine af (BK dO.typeIs (aX ?_))
 refine af (wpAny_isOneOf_keyiter dO.typeIs ?_);refine(?_:wpAny _ _ (setField (.ref bX) 1 (rawInt ((i:Int)+1))>>=_) _ _ s);refine af (x3 ax hd (d5 rfl) ?_);have zp:(s.heap.update bX (Obj.mapFields (·.setIfInBounds 1 (rawInt ((i:Int)+1))))).IsKeyIter bX d (i+1) xs.length ep:=
  ⟨_,l2 _ ax (Obj.isFreed_of_fields (Obj.data_mapFields hd _)),(Obj.cls_mapFields ..).trans aI,by rw[Obj.data_mapFields hd];simp[rawInt]⟩
 refine af (gb (af (wpAny_isOneOf_keyiter (s:={s with heap:=s.heap.update bX (Obj.mapFields (·.setIfInBounds 1 (rawInt ((i:Int)+1))))}) zp.typeIs ?_)))
 refine(?_:wpAny _ _ (pure x.key) _ _ _);exact aX (aX ⟨_,rfl,aX (h4 _ zp (kp ..))⟩)
theorem Me {bX d:bj}{i:Nat}{xs:List c3}{Q:Option aj→aS→Prop}(bD:A.handled=none)(dO:s.heap.IsKeyIter bX d i xs.length ep)
 (hm:s.heap.get? d=E (dictOf xs ep))(aR:xs[i]? =none)
 (h4:∀h',BL bX s.heap h'→Q none {s with heap:=h'}):wpAny (model O w) A (pyNext (.ref bX)) Q b2 s:=by
 refine gz (id dO) fun o ax aI hd=>?_;unfold pyNext;refine af (u2 (mL (name:=g6 "__next__") dO.typeIs PySem.F.slot_dict_keyiterator_next
  (hp PySem.F.slot_dict_keyiterator_next dO.typeIs PySem.F.entry_dict_keyiterator_next ?_ (PySem.F.args_dict_keyiterator_next_1 _))))
 refine af (aX ?_);refine af ?_;refine af ?_
 first|refine af (BI dO.typeIs (aX ?_))|refine af (BK dO.typeIs (aX ?_))
 refine af (BE ax hd ?_);have wo:Builtin.Dict_items.ownsTuple "dict_keyiterator"=false:=by decide
 rw[wo];refine(?_:wpAny _ _ (if(gP d==cg)=true then _ else _) _ _ s);refine e3 (show¬((gP d==cg)=true) from d8) ?_;refine af (aX ?_);refine af (mM hm rfl ?_);refine e3 qr ?_;refine af (aX ?_);refine af (lj hm rfl ?_);refine e3 qr ?_;refine aX ?_;have o6:xs.toArray[i]? =none:=by simpa using aR
 simp only[show¬((i:Int)<0) from by lia,if_false,pG,o6];refine af ?_
 first|refine af (BI dO.typeIs (aX ?_))|refine af (BK dO.typeIs (aX ?_))
 refine(?_:wpAny _ _ (setField (.ref bX) 0 .none>>=_) _ _ s);refine af (x3 ax hd (d5 rfl) ?_);refine(?_:wpAny _ _ (newExc (.type "StopIteration") []>>=_) _ _ _);refine af ?_;unfold newExc newTuple;refine af (jC ?_ (by size_fits));refine af (m:=firstArgMember _ _) (hq (a:=cg) (by first|rfl|(simp only[firstArgMember];rfl)) ?_);refine jC ?_ (by size_fits);unfold raiseNew;refine af (G8 ?_);rw[show A.in1.handled=none from bD];refine af (aX (wpAny_throw ?_));refine af (pJ (T:="StopIteration") (b:=true) ⟨_,g5 _ rfl,rfl⟩ G2 ?_);exact aX (h4 _ (((kp ..).extBut.push _).push _))
theorem wx {l:bj}{i:Nat}(x:gc (.cB l) aM i s.heap):s.TypeIs (.ref aM) "bytearray_iterator":=let ⟨o,ax,aI,_⟩:=x;⟨o,ax,aI⟩
theorem R6 {l:bj}{i:Nat}{b:Array UInt8}{c:UInt8}{Q:Option aj→aS→Prop}(dO:gc (.cB l) aM i s.heap)(ar:s.heap.get? l=E (e6 b))(aR:b[i]? =E c)
 (h4:∀h',gc (.cB l) aM (i+1) h'→fK aM s.heap h'→Q (E (.int (c.toNat:Int) s.toks)) {s with heap:=h',toks:=s.toks+1}):wpAny (model O w) A (pyNext (.ref aM)) Q b2 s:=by
 refine gz (id dO) fun o ax aI hd=>?_;unfold pyNext;refine af (u2 (mL (name:=PySem.Str.ofString "__next__") (wx dO) dV.ut
  (hp dV.ut (wx dO) dV.Jv ?_ (dV.IC _))))
 refine(?_:wpAny _ _ (field (.ref aM) 0>>=_) _ _ s);refine af (ib ax hd (x:=.ref l) rfl ?_);refine(?_:wpAny _ _ (load l>>=_) _ _ s);refine af (nC ar ?_);refine(?_:wpAny _ _ (field (.ref aM) 1>>=_) _ _ s);refine af (ib ax hd (x:=.int i 0) rfl ?_);simp only[pG,aR];refine af (x3 ax hd (d5 rfl) (af (u4 (aX ⟨_,rfl,aX (h4 _ ?_ (kp ..))⟩))));exact⟨_,l2 _ ax (Obj.isFreed_of_fields (Obj.data_mapFields hd _)),(Obj.cls_mapFields ..).trans aI,by
  rw[Obj.data_mapFields hd];simp[rawInt]⟩
theorem R5 {l:bj}{i:Nat}{b:Array UInt8}{Q:Option aj→aS→Prop}(bD:A.handled=none)(dO:gc (.cB l) aM i s.heap)(ar:s.heap.get? l=E (e6 b))(aR:b[i]? =none)
 (h4:∀h',BL aM s.heap h'→Q none {s with heap:=h'}):wpAny (model O w) A (pyNext (.ref aM)) Q b2 s:=by
 refine gz (id dO) fun o ax aI hd=>?_;unfold pyNext;refine af (u2 (mL (name:=PySem.Str.ofString "__next__") (wx dO) dV.ut
  (hp dV.ut (wx dO) dV.Jv ?_ (dV.IC _))))
 refine(?_:wpAny _ _ (field (.ref aM) 0>>=_) _ _ s);refine af (ib ax hd (x:=.ref l) rfl ?_);refine(?_:wpAny _ _ (load l>>=_) _ _ s);refine af (nC ar ?_);refine(?_:wpAny _ _ (field (.ref aM) 1>>=_) _ _ s);refine af (ib ax hd (x:=.int i 0) rfl ?_);simp only[pG,aR];refine af (iv (af (x3 ax hd (d5 rfl) (af (x2 ?_)))));refine(?_:wpAny _ _ (newExc (.type "StopIteration") []>>=_) _ _ _);refine af ?_;unfold newExc newTuple;refine af (jC ?_ (by size_fits));refine af (m:=firstArgMember _ _) (hq (a:=cg) (by first|rfl|(simp only[firstArgMember];rfl)) ?_);refine jC ?_ (by size_fits);unfold raiseNew;refine af (G8 ?_);rw[show A.in1.handled=none from bD];refine af (aX (wpAny_throw ?_));refine af (pJ (T:="StopIteration") (b:=true) ⟨_,g5 _ rfl,rfl⟩ G2 ?_);exact aX (h4 _ (((kp ..).extBut.push _).push _))
theorem Ao {k:Src}{i:Nat}{Q:Option aj→aS→Prop}(bD:A.handled=none)(x:gc k aM i s.heap)(y:jZ w.params ρ s.heap k vs)
 (cj:∀v z h' t,vs[i]? =E v→aN ρ s.heap v z→gc k aM (i+1) h'→fK aM s.heap h'→Q (E z) {s with heap:=h',toks:=t})
 (b9:vs[i]? =none→∀h',BL aM s.heap h'→Q none {s with heap:=h'}):wpAny (model O w) A (pyNext (.ref aM)) Q eY s:=by
 induction k using Src.casesOn with
 |list l=>
  refine mG y fun xs n o r=>?_;clear y;cases e:vs[i]? with
  |some v=>exact dr (r.at e) fun z aJ bV=>wpAny_pyNext_list_item x (isList o) (by simpa using aJ) fun h' R Z=>cj v z h' s.toks e bV R Z
  |none=>exact wpAny_pyNext_list_end bD x (isList o) (by simpa using r.at' e) (b9 e)
 |tup l=>
  refine mG y fun xs n o r=>?_;clear y;cases e:vs[i]? with
  |some v=>exact dr (r.at e) fun z aJ bV=>wpAny_pyNext_tuple_item x (isTup o) (by simpa using aJ) fun h' R Z=>cj v z h' s.toks e bV R Z
  |none=>exact wpAny_pyNext_tuple_end bD x (isTup o) (by simpa using r.at' e) (b9 e)
 |p6 b t=>
  subst y;cases e:b[i]? with
  |some c=>exact KBw.next_item x e fun h' R Z=>cj (.int c.toNat) _ h' _ (by simp[d1,e]) (.int _ _) R Z
  |none=>exact KBw.next_end bD x e (b9 (by simpa [d1] using e))
 |cB l=>
  refine dr y fun b o b9=>?_;clear y;subst b9;cases e:b[i]? with
  |some c=>exact R6 x o e fun h' R Z=>cj (.int c.toNat) _ h' _ (by simp[d1,e]) (.int _ _) R Z
  |none=>exact R5 bD x o e (b9 (by simpa [d1] using e))
 |dict d n ep=>
  refine nv y fun es xs o cS eH pn=>?_;clear y;subst eH;subst pn;have uN:s.heap.IsKeyIter aM d i xs.length ep:=by rw[←cS.length,←List.length_map (f:=(·.1))];exact x
  have up:∀j h',h'.IsKeyIter aM d j xs.length ep→gc (.dict d (es.map (·.1)).length ep) aM j h':=fun j h' z=>by refine(?_:h'.IsKeyIter aM d j _ ep);rw[List.length_map,cS.length];exact z
  cases e:xs[i]? with
  |some z=>refine oA (cS.at e) fun k v aW aJ eH=>?_;clear eH;exact Mf uN o e fun h' R Z=>cj k z.key h' s.toks (by rw[List.getElem?_map,aW];rfl) aJ (up _ _ R) Z
  |none=>exact Me bD uN o e (b9 (by rw[List.getElem?_map,List.getElem?_eq_none (by rw[cS.length];simpa using e)];rfl))
 |eQ a st n=>
  subst y
  by_cases h:i<n
  .refine wpAny_pyNext_range_item x (by lia) fun h' R Z=>cj (.int (a+st*i)) _ h' _ (by simp[h]) (.int _ _) ?_ Z;refine(?_:IsRangeIter h' aM _ _ st);have aW:a+st*((i+1:Nat):Int)=a+st*i+st:=by rw[Int.natCast_add,Int.mul_add,Int.natCast_one,Int.mul_one,GB]
   have aJ:(n:Int)-((i+1:Nat):Int)=n-i-1:=by lia
   rw[aW,aJ];exact R
  .exact wpAny_pyNext_range_end bD x (by lia) (b9 (by simp[h]))
end
def QJ (ρ:List bj)(h:fR):rb→g0→Prop
 |.next,.next=>True
 |.brk,.brk=>True
 |.ret v,.ret x=>aN ρ h v x
 |_,_=>False
def pY (I:Env)(y:Str):Prop:=I.kindOf y=E .local∨(I.kindOf y=E .cell∧(I.cells.lookup y).isSome=true)
def sX (P:dj)(B:gE)(I:Env)(ay:List Str)(ah ρ:List bj)(s:aS)(Q:dM)(K:g0→aS→Prop):Prop:=
 ∀aH ef bp aV f s',Q aH ef bp→b0 P B I ah ay aV bp ef s'→QJ aV s'.heap aH f→Step ah ρ s aV s'→K f s'
theorem sX.after {Q:dM}{K:g0→aS→Prop}(p:sX P B I ay ah ρ s Q K)(st:Step ah ρ s uQ bC):sX P B I ay ah uQ bC Q K:=
 fun aH ef bp aV f s' q am h2 el=>p aH ef bp aV f s' q am h2 (st.trans el)
theorem Step.up (x:Step [] ρ s aV s'):Step ah ρ s aV s':=x.weak fun _ h=>nomatch h
section
variable (O:hS)(w:fk)(B:gE)(C:hT)(A:fw)(I:Env)(ay:List Str)
def hI (e:iQ)(x:cO):Prop:=∀ah loc H ρ s (Q:dM) (K:g0→aS→Prop),xt C B.G x loc H Q→b0 w.params B I ah ay ρ H loc s→sX w.params B I ay ah ρ s Q K→
 aO O w A (exec e I) K s
def l6 (e:List iQ)(x:ff):Prop:=∀ah loc H ρ s (Q:dM) (K:g0→aS→Prop),b4 C B.G x loc H Q→b0 w.params B I ah ay ρ H loc s→sX w.params B I ay ah ρ s Q K→
 aO O w A (execs e I) K s
end
theorem KS {c:bj}{v:Option aj}(x:h.IsCell c v):∃o,h.get? c=E o∧∀xs n,o.data≠.seq xs n:=let ⟨o,ax,hd⟩:=x;⟨o,ax,fun _ _ e=>by rw[hd] at e;cases e⟩
theorem t7 {c:bj}{m:Str→Option aj}(x:h.Ns c m):∃o,h.get? c=E o∧∀xs n,o.data≠.seq xs n:=let ⟨o,_,_,ax,hd,_⟩:=x;⟨o,ax,fun _ _ e=>by rw[hd] at e;cases e⟩
theorem b0.own {ef:List V}{t:Nat}(r:b0 P B I ah ay ρ H loc s)(aC:a∈ah)(aE:fK a s.heap h')(e:s'={s with heap:=h',toks:=t})
 (ax:∃o,h'.get? a=E o∧∀xs n,o.data≠.seq xs n)
 (k4:∀(i:Nat) x v,ay[i]? =E x→ef[i]? =E v→v≠.aQ→∃gC,yv I h' x gC∧aN ρ h' v gC)(ns:∃m,h'.Ns I.locals m)(cl:∀x c,I.cells.lookup x=E c→∃v,h'.IsCell c v):
 b0 P B I ah ay ρ H ef s'∧Step [a] ρ s ρ s':=by
 subst e;have aB:∀b∈ρ,h'.get? b=s.heap.get? b:=fun b az=>aE.2 b fun q=>(r.ck.own a aC).1 (q▸az);have p:eK ρ ρ s.heap h':=⟨⟨[],by simp,fun _ h=>nomatch h⟩,fun b o ih _ wq=>by refine(aE.2 b ?_).trans ih;clear aE ax;rintro rfl;obtain⟨_,o',cM,aL⟩:=r.ck.own b aC;rw[ih] at cM;obtain rfl:=cF cM;refine dD wq fun xs n q=>?_;clear wq;exact aL _ _ (sv q)⟩
 refine⟨⟨r.am.other aB p,⟨r.ck.kind,r.ck.glob,r.ck.blt,fun b az=>⟨(r.ck.own b az).1,?_⟩,r.ck.m9,r.ck.mV,k4,r.ck.nu,ns,cl,r.ck.qB,r.ck.inj,r.ck.eX⟩,fun b o ih=>?_⟩,⟨[],by simp,fun _ h=>nomatch h⟩,
  fun b o ih _ hf=>?_,fun b ih=>?_,rfl,rfl⟩
 .by_cases q:b=a
  .subst q;exact ax
  .exact dr ((r.ck.own b az).2) fun o aW aJ=>⟨o,(aE.2 b q).trans aW,aJ⟩
 .exact hJ (r.bs b o ih) fun R Z bv=>⟨(aE.2 b fun q=>bv (q▸aC)).trans R,Z,bv⟩
 .exact(aE.2 b fun q=>hf (q▸List.mem_singleton.mpr rfl)).trans ih
 .refine dr ax fun o aW b9=>?_;clear ax b9;exact MA aE aW b ih
theorem eK.own (r:b0 P B I ah ay ρ H loc s)(aC:a∈ah)(aE:fK a s.heap h'):eK ρ ρ s.heap h':=
 ⟨⟨[],by simp,fun _ h=>nomatch h⟩,fun b o ih _ wq=>by refine(aE.2 b ?_).trans ih;rintro rfl;obtain⟨_,o',cM,aL⟩:=r.ck.own b aC;rw[ih] at cM;obtain rfl:=cF cM;refine dD wq fun xs n q=>?_;clear wq;exact aL _ _ (sv q)⟩
theorem get_set {a0:Type}{l:List a0}{i:Nat}{v u:a0}(h:(l.set i v)[j]? =E u):(i=j∧u=v)∨(i≠j∧l[j]? =E u):=by
 by_cases e:i=j
 .subst e;rw[List.getElem?_set_self'] at h;cases q:l[i]? with
  |none=>rw[q] at h;exact c5 h
  |some x=>rw[q] at h;obtain rfl:=cF h;exact .inl ⟨rfl,rfl⟩
 .rw[List.getElem?_set_ne e] at h;exact .inr ⟨e,h⟩
theorem ux {i:Nat}{y:Str}{gC:aj}{K:Unit→aS→Prop}(cu:ay[i]? =E y)(c0:pY I y)(r:b0 w.params B I ah ay ρ H loc s)
 (bV:aN ρ s.heap v gC)(q:∀s',b0 w.params B I ah ay ρ H (loc.set i v) s'→Step ah ρ s ρ s'→(I.kindOf y=E .local→Step [I.locals] ρ s ρ s')→K () s'):wpAny (model O w) A (storeName I y gC) K eY s:=by
 have Nz:∀{j:Nat} {x:Str},ay[j]? =E x→i≠j→x≠y:=fun aR we e=>we (rZ r.ck.eX cu (e▸aR));rcases c0 with ar|⟨ar,aI⟩
 .refine dq r.ck.ns fun m aL=>?_;refine wpAny_storeName_local ar aL (fun h' kF aE=>?_) (by rw[r.ck.kind];rfl);have p:=eK.own r r.ck.m9 aE
  suffices k:b0 w.params B I ah ay ρ H (loc.set i v) {s with heap:=h',toks:=s.toks+1}∧Step [I.locals] ρ s ρ {s with heap:=h',toks:=s.toks+1} from q _ k.1 (k.2.weak fun a aC=>List.mem_singleton.mp aC▸r.ck.m9) fun _=>k.2
  refine b0.own r r.ck.m9 aE rfl (t7 kF) (fun j x u aR bx tE=>?_) ⟨_,kF⟩ (fun x c aI=>?_)
  .clear q;rcases get_set bx with⟨rfl,rfl⟩|⟨we,bx⟩
   .rw[cu] at aR;obtain rfl:=cF aR;exact⟨gC,.inl ⟨ar,_,kF,by simp⟩,bV.mono p r.am.dg⟩
   .refine dr (r.ck.k4 j x u aR bx tE) fun Bl Fd uk=>⟨Bl,?_,uk.mono p r.am.dg⟩;rcases Fd with⟨k,rR,o4,e⟩|⟨k,c,o,e,ax,hd⟩|⟨k,n,c,o,e,ax,hd⟩
    .refine .inl ⟨k,_,kF,?_⟩;show(if x=y then E gC else m x)=E Bl;rw[if_neg (Nz aR we),aL.agree o4,e]
    .exact .inr (.inl ⟨k,c,o,e,(aE.2 c (r.ck.qB x c e)).trans ax,hd⟩)
    .exact .inr (.inr ⟨k,n,c,o,e,(aE.2 c (r.ck.qB x c e)).trans ax,hd⟩)
  .exact dq (r.ck.cl x c aI) fun u bx=>⟨u,bx.sameBut aE (r.ck.qB x c aI)⟩
 .refine dq (sJ.mp aI) fun c aI=>dq (r.ck.cl y c aI) fun u bx=>wpAny_storeName_cell r.ck.kind ar aI bx fun h' kF aE=>?_;have Dw:=r.ck.mV y c aI;have p:=eK.own r Dw aE;have Ms:I.locals≠c:=fun e=>r.ck.qB y c aI e.symm
  suffices k:b0 w.params B I ah ay ρ H (loc.set i v) {s with heap:=h'}∧Step [c] ρ s ρ {s with heap:=h'} from q _ k.1 (k.2.weak fun a aC=>List.mem_singleton.mp aC▸Dw) fun e=>by rw[ar] at e;cases e
  refine b0.own (t:=s.toks) r Dw aE rfl (KS kF) (fun j x z aR hz tE=>?_) (let ⟨m,hm⟩:=r.ck.ns;⟨m,hm.sameBut aE Ms⟩) (fun x gR W7=>?_)
  .rcases get_set hz with⟨rfl,rfl⟩|⟨we,hz⟩
   .rw[cu] at aR;obtain rfl:=cF aR;refine dr kF fun o ax hd=>?_;clear kF;exact⟨gC,.inr (.inl ⟨ar,c,o,aI,ax,hd⟩),bV.mono p r.am.dg⟩
   .refine dr (r.ck.k4 j x z aR hz tE) fun Bl Fd uk=>⟨Bl,?_,uk.mono p r.am.dg⟩;have eG:∀{d},I.cells.lookup x=E d→d≠c:=fun e q=>Nz aR we (r.ck.inj _ _ _ e (q▸aI));rcases Fd with⟨k,rR,o4,e⟩|⟨k,d,o,e,ax,hd⟩|⟨k,n,d,o,e,ax,hd⟩
    .exact .inl ⟨k,rR,o4.sameBut aE Ms,e⟩
    .exact .inr (.inl ⟨k,d,o,e,(aE.2 d (eG e)).trans ax,hd⟩)
    .exact .inr (.inr ⟨k,n,d,o,e,(aE.2 d (eG e)).trans ax,hd⟩)
  .by_cases e:gR=c
   .subst e;exact⟨_,kF⟩
   .exact dq (r.ck.cl x gR W7) fun z hz=>⟨z,hz.sameBut aE e⟩
noncomputable def lD:aY→Bool
 |.ListComp .. =>true|.SetComp .. =>true|.DictComp .. =>true
 |_=>false
theorem Pm (h:lD e=false)(t:Option aY)(n:Nat)(I:Env):swapsWith e t n I=pure false:=by
 induction e using jW<;>first|rfl|exact j9 h
theorem Pn (h:lD e=false)(t:aY)(n:Nat)(I:Env):swapsWithSole [t] e n I=pure false:=Pm h _ _ _
noncomputable def A8:aY→Bool
 |.Tuple .. =>false|.List .. =>false|.Starred .. =>false
 |_=>true
theorem afM (h:A8 t=true)(I:Env):swappedStores [t] e I=pure none:=by
 induction t using jW<;>first|rfl|exact dZ h
theorem Ud (h:A8 t=true)(I:Env):(assignEach [t] I).map (·.2)=[assign t I]:=by induction t using jW<;>first|rfl|exact dZ h
theorem ID {Q:g0→aS→Prop}(cW:A8 t=true)(aI:swapsWithSole [t] e pos.line I=pure false)
 (h:aO O w A (eval e I) (fun v bC=>aO O w A (assign t I v) (fun _=>Q .next) bC) s):aO O w A (exec (.Assign [t] e pos) I) Q s:=by
 rw[exec_Assign_arm];refine fa (hy aI ?_);rw[if_neg (by decide)];refine b1 (dH h fun v bC h₁=>hy (afM cW _) ?_);show aO O w A (do assignAll v ((assignEach [t] I).map (·.2));pure .next) Q bC;rw[Ud cW];exact b1 (dH (show aO O w A (assignAll v [assign t I]) (fun _=>Q .next) bC from h₁) fun _ _ x=>cN x)
theorem Cu {Q:g0→aS→Prop}(cW:A8 t=true)(aI:lD e=false)
 (h:aO O w A (eval e I) (fun v bC=>aO O w A (assign t I v) (fun _=>Q .next) bC) s):aO O w A (exec (.Assign [t] e pos) I) Q s:=ID cW (Pn aI _ _ _) h
theorem afN {o:aY}:swapsWithSole [.Attribute o name p] e n I=pure false:=by induction e using jW<;>rfl
theorem ae6 {x:aG}{y:Str}{i:Nat}(cu:ay[i]? =E y)(c0:pY I y)(aI:lD e=false)(he:cV O w B C A I ay e x):hI O w B C A I ay (.Assign [.Name y p] e q) (.asg i x):=
 fun ah loc H ρ s Q K h r k=>Cu rfl aI (he ah loc H ρ s _ _ h r fun v aq bQ u bB R bt eD bk=>
  cU (x1 (ux cu c0 (r.step bk bt) eD fun s2 dz cm _=>k .next _ aq bQ .next s2 R dz trivial (bk.up.trans cm))))
theorem ae7 (ok:B.Ok){o:aY}{x y:aG}(aL:ya B name)(he:cV O w B C A I ay e x)(ax:cV O w B C A I ay o y):
 hI O w B C A I ay (.Assign [.Attribute o name p] e q) (.yH y (a7 name) x):=
 fun ah loc H ρ s Q K h r k=>ID rfl afN (he ah loc H ρ s _ _ h r fun v aq bQ u bB R bt eD bk=>by
  have cK:=r.step bk bt;show aO _ _ _ (do let gh←holding [u] (eval o I);standAt p.atName;holding [u,gh] (setAttr gh name u);release [u,gh] []) _ bB;refine b1 (eR (ax ah loc aq bQ bB _ _ R cK fun a be cv z s2 Z cr fX cm=>?_));have dz:=cK.step cm cr;refine fa (dJ (gb ?_));refine E6 Z fX fun l b Z ar=>cr.rG ar Z fun d c T6 Z eZ eC Dx=>cr.mX eC Z fun es n xs aJ Z jO cS aD hZ=>j1 Z fun aE Z=>j1 Z fun aB Z=>aen (ok.K.keeps dz.keeps) eZ jO cS aD hZ aE (d5 (gD.mp aB).2) aL.1 (aL.2 c Dx) (eD.mono cm.fW bt.dg) Z fun cT m fc h' t g g1 bM g3 ek ht=>?_;have ft:Step [] cv s2 cv {s2 with heap:=h',toks:=t}:=.update t (List.mem_of_getElem? eC) bM g1
  have f7:bz w.params cv (be.set d (.dict cT (n+m))) h':=cr.update eC bM g1 (.dict (g3.mono ft.fW cr.dg) ek ht);exact cU (BF (k .next loc _ cv .next _ g (dz.step ft f7) trivial (((bk.trans cm).trans ft).up))))
theorem afg {x:aG}(aI:lD e=false)(hi:∀I:Env,I.scope.kind=.function→interactive I=false)(he:cV O w B C A I ay e x):hI O w B C A I ay (.Expr e p) (.ex x):=
 fun ah loc H ρ s Q K h r k=>by rw[exec_Expr I e p (hi _ r.ck.kind) (Pm aI _ _ _)];exact fa (b1 (he ah loc H ρ s _ _ h r fun v aq bQ u bB R bt eD bk=>cU (wpAny_dropValue (k .next loc aq bQ .next bB R (r.step bk bt) trivial bk.up))))
theorem afj {a b:List iQ}{x:aG}{y z:ff}(cW:ST O w B C A I ay t x)(aC:l6 O w B C A I ay a y)(az:l6 O w B C A I ay b z):hI O w B C A I ay (.If t a b p) (.iff x y z):=
 fun ah loc H ρ s Q K h r k=>by
  rw[exec_If];refine fa (b1 (cW ah loc H ρ s _ _ h r fun c aq bQ bB R bt bk=>?_))
  induction c using eo with
  |true=>exact aC ah loc aq bQ bB _ _ R (r.step bk bt) (k.after bk.up)
  |false=>exact az ah loc aq bQ bB _ _ R (r.step bk bt) (k.after bk.up)
theorem afd:hI O w B C A I ay (.Break p) .brk:=fun ah loc H ρ s Q K h r k=>cU (wpAny_Break (k .brk loc H ρ .brk s h r trivial (.refl _ _ _)))
theorem afk {x:aG}(he:cV O w B C A I ay e x):hI O w B C A I ay (.Return (E e) p) (.ret x):=
 fun ah loc H ρ s Q K h r k=>by rw[exec_Return_some];exact fa (b1 (he ah loc H ρ s _ _ h r fun v aq bQ u bB R bt eD bk=>cN (k (.ret v) loc aq bQ (.ret u) bB R (r.step bk bt) eD bk.up)))
theorem afl:hI O w B C A I ay (.Return none p) (.ret .none):=fun ah loc H ρ s Q K h r k=>cU (wpAny_Return_none (k (.ret .none) loc H ρ (.ret .none) s h r .none (.refl _ _ _)))
theorem aff {e:iQ}:hI O w B C A I ay e .err:=fun ah loc H ρ s Q K h r k=>h.elim
theorem afo:l6 O w B C A I ay [] .nil:=fun ah loc H ρ s Q K h r k=>cN (k .next loc H ρ .next s h r trivial (.refl _ _ _))
theorem afn {e:iQ}{es:List iQ}{x:cO}{xs:ff}(he:hI O w B C A I ay e x)(aE:l6 O w B C A I ay es xs):l6 O w B C A I ay (e::es) (.cons x xs):=
 fun ah loc H ρ s Q K h r k=>by
  rw[execs_cons];refine b1 (he ah loc H ρ s _ _ h r fun aH o9 aq bQ f bB R cK h2 bk=>?_)
  induction aH using rb.casesOn with
  |next=>induction f using nD with
   |next=>exact aE ah o9 aq bQ bB _ _ R cK (k.after bk)
   |_=>exact h2.elim
  |brk=>induction f using nD with
   |brk=>exact cN (k _ _ _ _ _ _ R cK h2 bk)
   |_=>exact h2.elim
  |ret v=>induction f using nD with
   |ret u=>exact cN (k _ _ _ _ _ _ R cK h2 bk)
   |_=>exact h2.elim
section
open PySem.Builtin
theorem CI {c:l0}{Q:g0→aS→Prop}(h:aO O w (A.under c) ((model O w).den c) (fun fin s'=>∃f,fin=.done f∧Q f s') s):codeN O w A c Q s:=
 p8 fun _=>dH h fun fin s' ⟨f,e,q⟩=>by subst e;exact q
theorem CH {id:String}{args:Args}{b:Builtin}{Q:g0→aS→Prop}(az:entryFor table id=E b)
 (h:aO O w (A.under (.builtin id args)) (b args) (fun fin s'=>∃f,fin=.done f∧Q f s') s):codeN O w A (.builtin id args) Q s:=by
 refine CI ?_;refine(?_:aO _ _ _ (match entryFor table id with|some b=>b args|none=>unsupported ((withoutEnding? id "#data").getD id)) _ s)
 rw[az];exact h
theorem SU {id:String}{args:Args}{b:Builtin}{Q:g0→aS→Prop}(a9:plainId id=true)(ly:mT.contains id=false)(az:entryFor table id=E b)
 (h:wpAny (model O w) A.in1 (checkBuiltinCall id args) (fun _ bC=>aO O w A.in1 (b args) (fun fin s'=>∃f,fin=.done f∧Q f s') bC) eY s):
 codeN O w A (.call (.builtin id) args) Q s:=by
 refine p8 fun _=>?_;show aO _ _ A.in1 (do checkBuiltinCall id args;again (.builtin id args)) _ s;refine dJ (sM h (fun _ bC h₁=>cN ⟨q4 a9 args,?_,CH az ?_⟩) fun _ _ x=>x)
 .refine(?_:(!mT.contains id)=true);rw[ly];rfl
 .rw[q6 a9 args];exact h₁
theorem Na {aT:String}{id:String}{self:aj}{args:List aj}{b:Builtin}{Q:Option aj→aS→Prop}(ct:s.TypeIs self aT)(ch:Slot aT name id)(ly:mT.contains id=false)(az:entryFor table id=E b)
 (aC:argsOk id ⟨self::args,[]⟩)(h:aO O w A.in1 (b ⟨self::args,[]⟩) (fun fin s'=>∃v,fin=.done (.ret v)∧Q (E v) s') s):aO O w A (callSpecial? self name args) Q s:=by
 unfold callSpecial?;refine dJ (iR ct ch.lookup (eR (hy (ch.bind self) ?_)));refine b1 (m:=call (.builtin id) ([self]++args)) (wS (SU ch.plain ly az (ch.check _ _ _ _ _ _ _ _ ct aC (dH h fun fin s' ⟨v,e,q⟩=>⟨_,e,cN q⟩))))
theorem aaU {aT Nm zC:String}{mN:Builtin}{args:List aj}{Q₁:aj→aS→Prop}(tw:TypeCalled aT Nm zC)(ly:mT.contains zC=false)
 (Xd:checkTypeCall aT ⟨args,[]⟩=pure ())(Uw:entryFor table zC=E mN)
 (XN:wpAny (model O w) A.in1 (call (.builtin Nm) (.type aT::args)) Q₁ eY s)
 (XO:∀jt bC,Q₁ jt bC→bC.TypeIs jt aT∧argsOk zC ⟨jt::args,[]⟩∧aO O w A.in1.in1 (mN ⟨jt::args,[]⟩) (fun fin s'=>fin=.done (.ret .none)∧Q jt s') bC):
 aO O w A (call (.type aT) args) Q s:=by
 refine dD tw.mro fun c dm DJ=>wS (p8 fun _=>?_);refine(?_:aO _ _ _ (callAny (.type aT) _) _ _);refine cN ⟨Code.quiet_builtin _ (by decide+kernel),rfl,CH F.entry_type_call ?_⟩;rw[Around.under_plain (weight_type_call_type aT args []) rfl];refine(?_:aO _ _ A.in1 (if(cD aT==cD "type")=true then _ else _) _ _);rw[tw.notType,if_neg d8];refine b1 (cN ?_);refine(?_:aO _ _ A.in1 (if((Manifest.find? aT).bind _).getD false=true then _ else _) _ _);rw[if_neg (fun e=>d8 (tw.canCreate.symm.trans e))];refine hy Xd<|hy DJ ?_
 rw[if_neg (show¬((c::dm).isEmpty=true) from d8)];refine hy tw.made (b1 (cN (b1 (eR (cU (sM XN (fun jt bC a9=>?_) fun _ _ x=>x))))));refine hJ (XO jt bC a9) fun ct XS hi=>dJ (pJ ct tw.sub ?_);simp only[Bool.not_true,Bool.false_eq_true,if_false];exact b1 (eR (Na ct tw.init ly Uw XS (dH hi fun fin s' ⟨e,q⟩=>⟨_,e,cU (aX ⟨_,rfl,q⟩)⟩)))
open PySem.Builtin
namespace dV
theorem M1:mroOf (.type "bytearray")=pure [.type "bytearray",.type "object"]:=by rw[mroOf_type];kernel_rfl
theorem Z7:typeLookup (.type "bytearray") "__new__"=pure (E (.builtin "bytearray.__new__")):=by rw[jB,jA];kernel_rfl
theorem A1:isSubtype (.type "bytearray") (.type "bytearray")=pure true:=by rw[nA];kernel_rfl
theorem S2:TypeCalled "bytearray" "bytearray.__new__" "bytearray.__init__":=
 ⟨by decide+kernel,by decide+kernel,⟨_,_,M1⟩,madeBy_type M1 Z7 (by decide+kernel),by decide+kernel,A1,aeN⟩
theorem agC (a:aj):checkTypeCall "bytearray" ⟨[a],[]⟩=pure ():=by kernel_rfl
theorem abe (a:aj):checkBuiltinCall "bytearray.__new__" ⟨[.type "bytearray",a],[]⟩=pure ():=by kernel_rfl
theorem Uy:entryFor table "bytearray.__new__"=E Builtin.«list.__new__»:=G0 (id':="list.__new__") (by kernel_rfl) (by first|rfl|decide+kernel) (by decide+kernel) (by kernel_rfl)
theorem N8:plainId "bytearray.__new__"=true:=by decide+kernel
end dV
set_option maxRecDepth 1000000 in
set_option maxHeartbeats 4000000 in
theorem ab1:("bytearray.__new__".splitOn ".__new__").headD ""="bytearray":=by simp+decide [String.splitOn,String.splitOnAux]
theorem Tf (a:aj){Q₁:aj→aS→Prop}
 (h:Q₁ (.ref s.heap.objs.size) {s with heap:=s.heap.push (e6 #[])}):
 codeAny (model O w) A (.call (.builtin "bytearray.__new__") ⟨[.type "bytearray",a],[]⟩) (wants Q₁ b2) s:=by
 refine GZ ?_;show wpAny _ A.in1 (do checkBuiltinCall "bytearray.__new__" ⟨[.type "bytearray",a],[]⟩;again (.builtin "bytearray.__new__" ⟨[.type "bytearray",a],[]⟩)) _ _ s;refine af (hq (dV.abe a) (aX ⟨q4 dV.N8 _,codeAny_builtin_stack dV.Uy rfl fun p st=>?_⟩));rw[q6 dV.N8 _];have zy:=dV.A1;have wo:=ab1;obtain⟨a8,g,d,di,os⟩:=s;simp only[wo]
 wp_walk
 exact h
theorem Z2:typeLookup (.type "bytearray") "__release_buffer__"=pure (E (.builtin "bytearray.__release_buffer__")):=by rw[jB,jA];kernel_rfl
theorem O4:typeLookup (.type "bytes") "__index__"=pure none:=by rw[jB,jA];kernel_rfl
set_option tactic.hygienic true in
theorem IL {l:bj}{b:Array UInt8}{Q:Bool→aS→Prop}(e:s.heap.get? l=E (e6 b))(h:Q false s):wpAny aA A (Bytes.ownRelease (.ref l)) Q b2 s:=by
 have key:∀{x:String} {Q:Bool→aS→Prop},x="bytearray"→Q true s→wpAny aA A (isInstance (.ref l) (.type x)) Q b2 s:=fun aR a9=>by subst aR;exact pJ (i0 e) dV.A1 a9
 unfold Bytes.ownRelease Bytes.slotIsOwn;refine af (af (iR (i0 e) Z2 ?_));simp only
 split
 .rename_i aR
  exact absurd aR (by decide+kernel)
 .exact key (by decide+kernel)<|aX h
theorem Sr {id:String}{b:Array UInt8}{t:Tok}:Bytes.buffer? id (.bytes b t) true=pure (E b):=by unfold Bytes.buffer?;rw[vb KBy.look_buffer,KBy.own_buffer,KBy.own_release];kernel_rfl
theorem abA {id:String}{args:Args}(h:lL (.builtin id args)=true):mT.contains id=false:=by
 unfold lL at h
 simpa using h
theorem wY {id x:String}(h:mT.contains id=false)(aR:mT.contains x=true):¬id=x:=fun e=>d8 ((e▸h:mT.contains x=false).symm.trans aR)
theorem vD {c:Prop}[Decidable c]{f:c→Bool}{g:¬c→Bool}(h:¬c)(b6:∀k,g k=false):dite c f g=false:=by rw[dif_neg h];exact b6 h
theorem abp {id:String}(h:mT.contains id=false):Bytes.decodersThatHold.contains id=false:=by unfold mT at h;rw[List.contains_eq_mem,decide_eq_false_iff_not,List.mem_append,not_or] at h;rw[List.contains_eq_mem,decide_eq_false h.1]
theorem VV {v:aj}{Q:Bool→aS→Prop}(h:Q false s):aO O w A (Bytes.exported v) Q s:=by
 unfold Bytes.exported;refine aa0 (fun c p aI=>?_) h;cases c with
 |builtin id args=>
  have az:=abA aI;clear aI
  delta Bytes.exported.match_1
  refine vD (wY az (by decide+kernel)) fun _=>vD (wY az (by decide+kernel)) fun _=>vD (wY az (by decide+kernel)) fun _=>vD (wY az (by decide+kernel)) fun _=>
   vD (wY az (by decide+kernel)) fun _=>?_
  cases args with|mk pos tP=>induction pos using List.casesOn with
   |nil=>rfl
   |cons a r=>exact(congrArg (Bytes.sameRef a v&& ·) (abp az)).trans (jd _)
 |_=>rfl
theorem rW {a0:Type}{c:Prop}[Decidable c]{a b:Sem a0}{Q:a0→aS→Prop}(h:¬c)(k:aO O w A b Q s):aO O w A (if c then a else b) Q s:=by rw[if_neg h];exact k
theorem Cy {l:bj}{b:Array UInt8}{f:Array UInt8→Array UInt8}{Q:Unit→aS→Prop}(e:s.heap.get? l=E (e6 b))(hz:(f b).size≤sizeLine)
 (h:∀h',h'.get? l=E (e6 (f b))→fK l s.heap h'→Q () {s with heap:=h'}):wpAny aA A (Bytes.write (.ref l) f) Q b2 s:=by
 refine(?_:wpAny aA A (updateBytearray l f) Q b2 s);unfold updateBytearray;refine af (nC e ?_);refine(?_:wpAny aA A (update l (Obj.mapBytearray f)>>=fun _=>lookBehind l) Q b2 s);refine af (wpAny_update e ?_);have cM:(s.heap.update l (Obj.mapBytearray f)).get? l=E (e6 (f b)):=l2 (Obj.mapBytearray f) e rfl;refine wpAny_lookBehind (s:={s with heap:=s.heap.update l (Obj.mapBytearray f)}) cM ?_ (h _ cM (kp ..))
 refine(?_:(if(f b).size>sizeLine then E "bytearray:memory" else none)=none);rw[if_neg (mK.mpr hz)]
theorem aaS {l:bj}{b:Array UInt8}{t:Tok}{Q:Fin→aS→Prop}(e:s.heap.get? l=E (e6 #[]))(hz:b.size≤sizeLine)
 (h:∀h',h'.get? l=E (e6 b)→fK l s.heap h'→Q (.done (.ret .none)) {s with heap:=h'}):aO O w A (Builtin.«bytearray.__init__» ⟨[.ref l,.bytes b t],[]⟩) Q s:=by
 refine(?_:aO _ _ _ (Bytes.ownRelease (.ref l)>>=fun c=>_) _ s);refine dJ (IL e (rW d8<|hy (a:=[E (.bytes b t),none,none]) (by kernel_rfl)<|hy (a:=()) (by rfl) (hy (a:=()) (by rfl) ?_)));refine(?_:aO _ _ _ ((Bytes.exported (.ref l)<||>_)>>=fun c=>_) _ s);refine b1 (b1 (VV ?_));refine(?_:aO _ _ _ (Bytes.exportsOf (.ref l)>>=fun n=>_) _ s);unfold Bytes.exportsOf;refine dJ (af (nC e (aX (cN (rW (by decide) ?_)))));refine(?_:aO _ _ _ (Bytes.write (.ref l) _>>=fun c=>_) _ s);refine dJ (Cy e (jz _) fun R aW bB=>hy (a:=none) rfl<|hy (a:=()) rfl (hy (vb O4) ?_));refine(?_:aO _ _ _ (Bytes.buffer? "bytearray.__init__" (.bytes b t) true>>=fun c=>_) _ _);refine hy Sr<|dJ (iv ?_)
 refine(?_:aO _ _ _ (Bytes.write (.ref l) _>>=fun c=>_) _ _);exact dJ (Cy (s:={s with heap:=R}) aW hz fun Z aJ s2=>cN (h Z aJ (bB.trans s2)))
theorem Nc {b:Array UInt8}{t:Tok}(hz:b.size≤sizeLine)
 (h:∀h',h'.get? s.heap.objs.size=E (e6 b)→fK s.heap.objs.size (s.heap.push (e6 #[])) h'→Q (.ref s.heap.objs.size) {s with heap:=h'}):aO O w A (call (.type "bytearray") [.bytes b t]) Q s:=by
 refine aaU (Q₁:=fun jt bC=>jt=.ref s.heap.objs.size∧bC={s with heap:=s.heap.push (e6 #[])}) dV.S2 (by decide+kernel) (dV.agC _) dV.Uz
  (wpAny_call (Tf (.bytes b t) ⟨rfl,rfl⟩)) fun jt bC h₁=>?_
 refine b8 h₁ fun dh cj=>?_;clear h₁;subst dh;subst cj;have e:(s.heap.push (e6 #[])).get? s.heap.objs.size=E (e6 #[]):=g5 _ rfl;exact⟨i0 (s:={s with heap:=s.heap.push (e6 #[])}) e,dV.RI _ _,aaS (s:={s with heap:=s.heap.push (e6 #[])}) e hz fun h' cM aE=>⟨rfl,h h' cM aE⟩⟩
end
section
open PySem.Builtin
theorem Ek:typeLookup (.type "bytearray") "__buffer__"=pure (E (.builtin "bytearray.__buffer__")):=by rw[jB,jA];kernel_rfl
theorem Z0:typeLookup (.type "bytearray") "__bytes__"=pure none:=by rw[jB,jA];kernel_rfl
theorem Z1:typeLookup (.type "bytearray") "__index__"=pure none:=by rw[jB,jA];kernel_rfl
theorem Z3:typeLookup (.type "bytes") "__bytes__"=pure (E (.builtin "bytes.__bytes__")):=by rw[jB,jA];kernel_rfl
section
variable {l:bj}{b:Array UInt8}
set_option tactic.hygienic true in
theorem R4 {Q:Bool→aS→Prop}(e:s.heap.get? l=E (e6 b))(h:Q true s):wpAny aA A (Bytes.slotIsOwn (.ref l) "__buffer__") Q b2 s:=by
 have key:∀{x:String} {Q:Bool→aS→Prop},x="bytearray"→Q true s→wpAny aA A (isInstance (.ref l) (.type x)) Q b2 s:=fun aR a9=>by subst aR;exact pJ (i0 e) dV.A1 a9
 unfold Bytes.slotIsOwn;refine af (iR (i0 e) Ek ?_);simp only
 split
 .rename_i aR
  exact absurd aR (by decide+kernel)
 .exact key (by decide+kernel) h
theorem RY {id:String}{Wz:Bool}{Q:Option (Array UInt8)→aS→Prop}(e:s.heap.get? l=E (e6 b))(h:Q (E b) s):wpAny aA A (Bytes.buffer? id (.ref l) Wz) Q b2 s:=by unfold Bytes.buffer?;exact af (iR (i0 e) Ek (af (R4 e (af (iR (i0 e) Ek (af (IL e (af (tb e (aX h))))))))))
theorem Ss (e:s.heap.get? l=E (e6 b))(hz:b.size≤sizeLine)(h:∀t k,Q (.bytes b t) {s with toks:=k}):
 codeAny (model O w) A (.call (.builtin "bytes.__new__") ⟨[.type "bytes",.ref l],[]⟩) (wants Q b2) s:=by
 refine GZ ?_;show wpAny _ A.in1 (do checkBuiltinCall "bytes.__new__" ⟨[.type "bytes",.ref l],[]⟩;again (.builtin "bytes.__new__" ⟨[.type "bytes",.ref l],[]⟩)) _ _ s;refine af (hq (F.bm_newCall _) (aX ⟨q4 F.bm_plain _,uZ F.bm_entry ?_⟩));rw[q6 F.bm_plain _];unfold Builtin.«bytes.__new__»;refine af (hq (a:=true) rfl (sL rfl<|af (hq F.bm_sub (sL rfl<|af (hq (F.bm_bind _) ?_)))));refine af (hq (a:=()) rfl (af (hq (a:=()) rfl (sL rfl<|af (iR (i0 e) Z0 (af (af ?_)))))));refine(?_:wpAny _ _ (load l>>=_) _ _ _);refine af (nC e (aX (aX (sL rfl<|af (iR (i0 e) Z1 (BB rfl ?_))))))
 first
  |show wpAny _ _ (Builtin.Bytes.buffer? "bytes.__new__" (.ref l) true>>=_) _ _ _
  |(refine af ?_;refine(?_:wpAny _ _ (Builtin.Bytes.buffer? "bytes.__new__" (.ref l) true>>=_) _ _ _))
 refine af (RY e (af (iv (af (wpAny_mkBytes ?_ hz)))));refine(?_:wpAny _ _ (if(cD "bytes"==cD "bytes")=true then _ else _) _ _ _);refine BB (by decide) ?_
 first
  |exact aX (h _ _)
  |exact af (aX (aX (h _ _)))
theorem Su {t:Tok}(h:Q (.bytes b t) s):
 codeAny (model O w) A (.call (.builtin "bytes.__new__") ⟨[.type "bytes",.bytes b t],[]⟩) (wants Q b2) s:=by
 refine GZ ?_;show wpAny _ A.in1 (do checkBuiltinCall "bytes.__new__" ⟨[.type "bytes",.bytes b t],[]⟩;again (.builtin "bytes.__new__" ⟨[.type "bytes",.bytes b t],[]⟩)) _ _ s;refine af (hq (F.bm_newCall _) (aX ⟨q4 F.bm_plain _,uZ F.bm_entry ?_⟩));rw[q6 F.bm_plain _];unfold Builtin.«bytes.__new__»;refine af (hq (a:=true) rfl ?_);refine sL rfl<|af (hq F.bm_sub (sL rfl<|af (hq (F.bm_bind _) (af (hq (a:=()) rfl (af (hq (a:=()) rfl ?_)))))))
 refine sL rfl<|af (hq (vb Z3) (af (iv (af (u8 (PySem.W.typeIs_bytes s b t) (BB (by decide) ?_))))))
 refine(?_:wpAny _ _ (if(cD "bytes"==cD "bytes")=true then _ else _) _ _ _);refine BB (by decide) ?_
 first
  |exact aX h
  |exact af (aX (aX h))
theorem I3 {v:aj}(aL:codeAny (model O w) A.in1 (.call (.builtin "bytes.__new__") ⟨[.type "bytes",v],[]⟩) (wants (fun jt bC=>bC.TypeIs jt "bytes"∧Q jt bC) b2) s):wpAny (model O w) A (call (.type "bytes") [v]) Q b2 s:=by exact callType_codes (Q₁:=fun jt bC=>bC.TypeIs jt "bytes"∧Q jt bC) F.bm_called (F.bm_typeCall _) F.entry_object_init aL fun jt bC h₁=>⟨h₁.1,F.args_object_init_2 jt _,object_init_meets F.bm_called.init.lookup F.bm_called.made (by decide) O w A.in1 _ bC ⟨h₁.1,rfl,h₁.2⟩⟩
theorem NG {ns:List Int}(h:∀n∈ns,0≤n∧n<256):d1 (byteArr ns)=ns:=by unfold d1 byteArr;rw[List.map_map];refine(List.map_congr_left (g:=fun x=>x) fun n aL=>?_).trans (List.map_id' _);refine b8 (h n aL) fun R Z=>dq (jV R) fun m cj=>?_;subst cj;have bv:m<256:=je.mp Z;refine(?_:((UInt8.ofNat m).toNat:Int)=m);rw[UInt8.toNat_ofNat',GQ bv]
theorem bz.free (am:bz P ρ H s.heap)(aB:∀b o,s.heap.get? b=E o→s'.heap.get? b=E o)(b6:s'.gens=s.gens)(ax:s'.os=s.os):bz P ρ H s'.heap∧Step [] ρ s ρ s':=by
 refine⟨am.other (fun a aC=>?_) ⟨⟨[],by simp,fun _ h=>nomatch h⟩,fun a o e _ _=>aB a o e⟩,⟨[],by simp,fun _ h=>nomatch h⟩,fun a o e _ _=>aB a o e,fun a e=>?_,b6,ax⟩
 .refine dq (am.lt aC) fun o e=>?_;rw[e,aB a o e]
 .cases q:s.heap.get? a with
  |none=>rfl
  |some o=>rw[aB a o q] at e;exact py e
end
end
noncomputable def jS:aY→Bool
 |.Starred .. =>false
 |_=>true
theorem ov (h:jS e=true)(c2:List aY)(I:Env):starEach (e::c2) I=(false,eval e I)::starEach c2 I:=by
 cases e<;>first|rfl|exact dZ h
theorem aek:oR O w B C A I ay [] .nil:=fun ah loc H ρ s Q K pos h r q=>cU (u9 (q [] H ρ [] s h r.am .nil rfl (.refl _ _ _)))
theorem qK {x:Sem aj}{c2:List (Bool×Sem aj)}{Q:List aj→aS→Prop}
 (h:aO O w A x (fun v bC=>aO O w A (spliced c2) (fun vs eg=>Q (v::vs) eg) bC) s):aO O w A (spliced ((false,x)::c2)) Q s:=by
 rw[spliced];exact b1 (dH h fun v bC h₁=>rW d8<|b1 (cN (b1 (eR (dH h₁ fun vs eg fN=>cN fN)))))
theorem aej {es:List aY}{x:aG}{xs:gQ}(bx:jS e=true)(he:cV O w B C A I ay e x)(aE:oR O w B C A I ay es xs):oR O w B C A I ay (e::es) (.cons x xs):=
 fun ah loc H ρ s Q K pos h r q=>by rw[ov bx];refine(?_:aO O w A (spliced ((false,eval e I)::backTo pos (starEach es I))) K s);refine qK (he ah loc H ρ s _ _ h r fun v aq bQ u bB R bt agP bk=>?_);exact aE ah loc aq bQ bB _ _ pos R (r.step bk bt) fun vs be cv ys s2 Z cr bV len cm=>q (v::vs) be cv (u::ys) s2 Z cr (.cons (agP.mono cm.fW bt.dg) bV) (by simp[len]) (bk.trans cm)
theorem Iz (pos:Pos)(I:Env):∀{es:List aY},es.all jS=true→(backTo pos (starEach es I)).any (·.1)=false
 | [],_=>rfl
 |e::es,h=>by rw[List.all_cons,fJ] at h;rw[ov h.1];refine(?_:(false||(backTo pos (starEach es I)).any (·.1))=false);rw[Iz pos I h.2];rfl
def Kept (aA:Model)(f:aj)(h:fR):Prop:=∃k,(k=Keeper.frame∨k=Keeper.machine)∧Looks aA h (keeperOf f) k
theorem D6 {id:String}:Kept aA (.builtin id) h:=⟨.machine,.inr rfl,.now⟩
theorem zU {id:String}:Kept aA (.type id) h:=⟨.machine,.inr rfl,.now⟩
theorem aaX {a0:Type}{vs:List aj}{m:Sem a0}{Q:a0→aS→Prop}(h:aO O w A m Q s):aO O w A (m.keep vs) Q s:=fun d9 p hb x=>by rw[Sem.wp_keep];exact h d9 p hb x
theorem aaW {f:aj}{es:List aY}{Q:Args→aS→Prop}(a8:es.all jS=true)
 (h:aO O w A (spliced (backTo pos (starEach es I))) (fun vs s'=>Q ⟨vs,[]⟩ s') s):aO O w A (evalArgs f true (backTo pos (starEach es I)) []) Q s:=by
 unfold evalArgs
 induction es using List.casesOn with
 |nil=>exact b1 (dH h fun vs s' h'=>b1 (cN (eR (b1 (cN (b1 (cN (cN h'))))))))
 |cons a r=>rw[List.all_cons,fJ] at a8;rw[ov a8.1] at h⊢;exact b1 (dH h fun vs s' h'=>b1 (cN (eR (b1 (cN (b1 (cN (cN h'))))))))
theorem Nb {f:aj}{first:List aj}{es:List aY}{gW:Pos}(a8:es.all jS=true)
 (h:aO O w A (spliced (backTo pos (starEach es I))) (fun vs s'=>Kept (model O w) f s'.heap∧aO O w A (call f (first++vs)) Q s') s):aO O w A (callWith gW f first (backTo pos (starEach es I)) []) Q s:=by
 unfold callWith;refine b1 (eR (aaW a8 (dH h fun vs bC h₁=>fa (dr h₁.1 fun k aB b3=>?_))));rw[Iz pos I a8,List.any_nil,uU];refine dJ (b3.here ?_);have nn:∀{t:Sem aj},aO O w A t Q bC→aO O w A (t>>=fun r=>holding [r] point>>=fun _=>pure r) Q bC:=
  fun cW=>b1 (dH cW fun r eg am=>dJ (gb (wpAny_point (cN am))))
 rcases aB with rfl|rfl<;>dsimp only<;>first|exact nn h₁.2|(split<;>first|exact nn h₁.2|(refine nn ?_;unfold callMarked;exact aaX h₁.2))
theorem Al {f:aj}{es:List aY}(a8:es.all jS=true)
 (h:aO O w A (spliced (backTo pos (starEach es I))) (fun vs s'=>Kept (model O w) f s'.heap∧aO O w A (call f vs) Q s') s):aO O w A (callWith pos f [] (backTo pos (starEach es I)) []) Q s:=Nb (first:=[]) a8 h
theorem Ak {x:Str}{es:List aY}(h:aO O w A (eval (.Name x k0) I) (fun f bC=>aO O w A (callWith pos f [] (backTo pos (starEach es I)) []) Q bC) s):
 aO O w A (eval (.Call (.Name x k0) es [] pos) I) Q s:=by
 have he:eval (.Call (.Name x k0) es [] pos) I=(do callWith pos (←eval (.Name x k0) I) [] (backTo pos (starEach es I)) (backToKw pos (keywordEach [] I))):=by rfl
 rw[he];exact b1 h
structure vd (B:gE)(I:Env)(x:Str)(f:aj):Prop where
 kind:I.kindOf x=E .globalImplicit
 Tw:(x==("__debug__":Str))=false
 g:B.j8 x=none
 b:B.pd x=E f
theorem EB (ok:B.Ok){x:Str}{f:aj}(n:vd B I x f)(r:b0 w.params B I ah ay ρ H loc s)(h:Q f s):aO O w A (eval (.Name x p) I) Q s:=by have b6:s.heap.Ns I.globals B.j8:=r.ck.glob▸ok.g.keeps r.keeps;exact cU (Hd r.ck.kind n.kind (loadGlobal_builtin b6 n.g (r.ck.blt▸ok.b.keeps r.keeps) n.b h) n.Tw)
def nF (O:hS)(w:fk)(A:fw)(f:aj)(b:mN):Prop:=∀vs ys H ρ s (Q:bE) (K:aj→aS→Prop),IM b vs H Q→bz w.params ρ H s.heap→bK ρ s.heap vs ys→(∀a∈ρ,(a==sysModules)=false)→jE w.params ρ s Q K→aO O w A (call f ys) K s
theorem adV (ok:B.Ok){x:Str}{es:List aY}{xs:gQ}{b:mN}{f:aj}(n:vd B I x f)(hf:(∃id,f=.builtin id)∨(∃aT,f=.type aT))(a8:es.all jS=true)(az:nF O w A f b)
 (aE:oR O w B C A I ay es xs):cV O w B C A I ay (.Call (.Name x k0) es [] p) (.bi b xs):=fun ah loc H ρ s Q K h r q=>by
 refine Ak (EB ok n r (Al a8 (aE ah loc H ρ s _ _ p h r fun vs aq bQ ys bB R bt bV len bk=>⟨?_,?_⟩)))
 .rcases hf with⟨_,rfl⟩|⟨_,rfl⟩
  .exact D6
  .exact zU
 .exact az vs ys aq bQ bB Q K R bt bV ((r.step bk bt).mods ok.dG) (q.after bk)
theorem pf (a:Array UInt8):(d1 a).length=a.size:=by simp[d1]
theorem R1 {b:Array UInt8}(e:s.heap.get? a=E (e6 b))(hz:b.size<2^63)(h:∀t k,Q (.int b.size t) {s with toks:=k}):
 wpAny (model O w) A (call (.builtin "len") [.ref a]) Q b2 s:=by
 refine QB kind_len plain_len entry_len (args_len1 _) ?_;unfold Builtin.«len»;refine af (m:=oneArg "len" _) (aX ?_);refine af (m:=callSpecial? (.ref a) (g6 "__len__")) (mL (name:=g6 "__len__") (i0 e) dV.O2 (call_meets dV.O2 (i0 e) dV.UC (dV.RL _) R2 ⟨e,?_⟩));refine(?_:wpAny _ _ _ _ _ {s with toks:=s.toks+1})
 refine af (gb (aX (af (x2 ?_))));refine(?_:wpAny _ _ (if(b.size:Int)<0 then _ else _) _ _ _);refine e3 (by lia) ?_;refine(?_:wpAny _ _ (if(b.size:Int)≥2^63 then _ else _) _ _ _);exact e3 (by lia)<|af (u4 (aX ⟨_,rfl,h _ _⟩))
@[elab_as_elim] theorem td {bg:V→Prop}{aA:List aj→Prop}(hf:a1 vs bg)(bV:bK ρ h vs ys)(k:∀v y,bg v→aN ρ h v y→aA [y]):aA ys:=by
 induction vs using List.casesOn with
 |nil=>exact hf.elim
 |cons v r=>induction r using List.casesOn with
  |nil=>exact bV.gS fun y ys a r=>r.iK (k _ _ hf a)
  |cons _ _=>exact hf.elim
@[elab_as_elim] theorem IN {bg:Int→Int→Prop}{aA:List aj→Prop}(hf:a2 vs fun a b=>ii a b bg)(bV:bK ρ h vs ys)(k:∀x y t u,bg x y→aA [.int x t,.int y u]):aA ys:=by
 induction vs using List.casesOn with
 |nil=>exact hf.elim
 |cons v r=>induction r using List.casesOn with
  |nil=>exact hf.elim
  |cons w r=>induction r using List.casesOn with
   |nil=>exact bV.gS fun y ys a r=>r.gS fun z zs b r=>r.iK (kY (aA:=fun y z=>aA [y,z]) hf a b k)
   |cons _ _=>exact hf.elim
theorem Se:nF O w A (.builtin "len") .len:=fun vs ys H ρ s Q K h am bV hm q=>by
 refine td (h:a1 vs _) bV ?_;intro v y h c6;have fin:∀{n:Nat} {t k:Nat},Q (.int n) H→K (.int n t) {s with toks:=k}:=fun a9=>q _ H ρ _ _ a9 am (.int _ _) .toks
 have li:∀{a:bj} {bY:List aj} {n m:Nat},s.heap.get? a=E (listOf bY.toArray n)→m=bY.length→Av m (fun r=>Q r H)→aO O w A (call (.builtin "len") [.ref a]) K s:=fun o e h=>by have h:=j2 h;rw[e] at h;exact cU (call_len_list (isList o) (by rw[List.size_toArray];have:=h.1;lia) (fin h.2))
 have Z8:∀{n:Nat},n≤1000000→n<2^63:=fun h=>mJ h (by decide:1000000<2^63)
 induction v using V.casesOn with
 |bytes b=>refine c6.oX (aA:=fun b y=>z7 (.bytes b) H (fun r=>Q r H)→aO O w A (call (.builtin "len") [y]) K s) (fun a t hz h=>?_) h;replace h:Q (.int (d1 a).length) H:=h;rw[pf] at h;exact cU (call_len_gives (pK s a t) FB.slot_bytes_len FB.entry_bytes_len (FB.args_bytes_len_1 _) (gives_bytes_len a t) (by lia) (by lia) (fin h))
 |ref l=>
  revert h;refine c6.hl ?_;intro a ar h;replace h:z7 (.ref l) H fun r=>Q r H:=h;dsimp only[z7] at h;generalize e:H[l]? =f9 at h
  induction f9 using ez with
  |none=>exact fv h
  |some o=>induction o using an.casesOn with
   |«list» vs=>exact(am.list ar e).elim fun bY g=>g.elim fun n g=>li g.1 g.2.length h
   |«ints» xs=>exact(am.ints ar e).elim fun bY g=>g.elim fun n g=>li g.1 g.2.length.symm h
   |d6 xs=>exact(am.d6 ar e).elim fun bY g=>g.elim fun n g=>li g.1 g.2.length.symm h
   |cB b=>refine(am.cB ar e).elim fun c g=>?_;replace h:Q (.int b.length) H:=h;rw[←g.2.2,pf] at h;exact cU (R1 g.1 (Z8 g.2.1) fun t k=>fin h)
   |_=>exact fv h
 |_=>exact fv h
theorem o8 (h:n≤1000000):n≤sizeLine:=e4 h (by decide:1000000≤sizeLine)
theorem Sd (bD:A.handled=none):nF O w A (.type "bytes") .bytes:=fun vs ys H ρ s Q K h am bV hm q=>by
 refine td (h:a1 vs _) bV ?_;intro v y h c6;have fin:∀{b:Array UInt8} {t k:Nat},b.size≤1000000→Q (.bytes (d1 b)) H→K (.bytes b t) {s with toks:=k}:=fun hz a9=>q _ H ρ _ _ a9 am (.bytes _ _ hz) .toks
 induction v using V.casesOn with
 |bytes b=>exact c6.oX (aA:=fun b y=>Q (.bytes b) H→aO O w A (call (.type "bytes") [y]) K s) (fun a t hz h=>cU (I3 (Su ⟨pK _ _ _,q _ H ρ _ s h am (.bytes _ _ hz) (.refl _ _ _)⟩))) h
 |ref l=>
  revert h;refine c6.hl ?_;intro a ar h;replace h:vx (.ref l) H fun r=>Q r H:=h;dsimp only[vx] at h;generalize e:H[l]? =f9 at h
  induction f9 using ez with
  |none=>exact fv h
  |some o=>induction o using an.casesOn with
   |«ints» xs=>
    refine(am.ints ar e).elim fun bY g=>g.elim fun n g=>?_;have h:=fM h;have bv:=j2 h.2;have R:=KJ h.1;refine cU (call_bytes_ints (isList g.1) g.2 R (by rw[g.2.length];exact o8 bv.1) bD fun h' t k aB=>?_);have hf:=bz.free (s':={s with heap:=h',toks:=k}) am aB rfl rfl
    refine q _ H ρ _ _ ?_ hf.1 (.bytes (byteArr _) t (by rw[←pf,NG R];exact bv.1)) hf.2;rw[NG R];exact bv.2
   |cB b=>refine(am.cB ar e).elim fun c g=>?_;rw[←g.2.2] at h;exact cU (I3 (Ss g.1 (o8 g.2.1) fun t k=>⟨pK _ _ _,fin g.2.1 h⟩))
   |_=>exact fv h
 |_=>exact fv h
theorem Sc:nF O w A (.type "bytearray") .bytearray:=fun vs ys H ρ s Q K h am bV hm q=>by
 refine td (h:a1 vs _) bV ?_;intro v y h c6
 induction v using V.casesOn with
 |bytes b=>_
 |_=>exact fv h
 replace h:Q (.ref H.length) (H++[.cB b]):=h;revert h;refine c6.oX fun a t hz h=>Nc (o8 hz) fun h' e aE=>?_;have bt:bz w.params (ρ++[s.heap.objs.size]) (H++[.cB (d1 #[])]) (s.heap.push (e6 #[])):=am.alloc rfl (.cB #[] (jz _));have ar:(ρ++[s.heap.objs.size])[ρ.length]? =E s.heap.objs.size:=by rw[List.getElem?_append_right (kN _)];simp
 have cr:=bt.update ar aE e (.cB a hz);rw[am.len,List.set_append_right _ _ (kN _),xX] at cr;refine q _ _ _ _ {s with heap:=h'} h cr (.ref ?_) ?_
 .rw[←am.len];exact ar
 .exact(Step.alloc s.toks).trans (Step.update (s:={s with heap:=s.heap.push (e6 #[]),toks:=s.toks}) s.toks (List.mem_of_getElem? ar) aE e)
theorem Sj (bD:A.handled=none):nF O w A (.builtin "sum") .sum:=fun vs ys H ρ s Q K h am bV hm q=>by
 refine td (h:a1 vs _) bV ?_;intro v y h c6
 induction v using V.casesOn with
 |ref l=>_
 |_=>exact fv h
 revert h;refine c6.hl ?_;intro a ar h;unfold Pk at h;dsimp only at h;generalize e:H[l]? =f9 at h
 induction f9 using ez with
 |none=>exact fv h
 |some o=>induction o using an.casesOn with
  |«ints» xs=>
   refine(am.ints ar e).elim fun bY g=>g.elim fun n g=>g.2.allInts.items.elim fun ys aR=>?_;have aJ:numsOf bY.toArray.toList=numsOf (intItems ys).toList:=by rw[aR]
   rw[show bY.toArray.toList=bY from rfl,g.2.numsOf,nums_intItems] at aJ;refine cU (sum_intListG bD (xs:=ys) (by rw[←aR];exact isList g.1) fun h' di mA aB=>?_);have hf:=bz.free (s':={s with heap:=h',toks:=di}) am aB rfl rfl
   refine q _ H ρ _ _ ?_ hf.1 (.int _ mA) hf.2;rw[preSum_eq,List.take_of_length_le (by simp),←aJ];exact h
  |_=>exact fv h
theorem Sh (bD:A.handled=none):nF O w A (.builtin "min") .min:=fun vs ys H ρ s Q K h am bV hm q=>by
 refine IN (h:a2 vs _) bV ?_;intro x y t u h;replace h:Q (.int (nc x y)) H:=h;refine cU (min_two_ints bD fun h' di aB=>?_);have hf:=bz.free (s':={s with heap:=h',toks:=di}) am aB rfl rfl
 split
 .rw[Eu,GF,if_neg (by lia)] at h;exact q _ H ρ _ _ h hf.1 (.int _ _) hf.2
 .rw[Eu,GF,if_pos (by lia)] at h;exact q _ H ρ _ _ h hf.1 (.int _ _) hf.2
set_option tactic.hygienic true in
theorem Sg (bD:A.handled=none):nF O w A (.builtin "max") .max:=fun vs ys H ρ s Q K h am bV hm q=>by
 refine IN (h:a2 vs _) bV ?_;intro x y t u h;replace h:Q (.int (Ad x y)) H:=h;refine cU (max_two_ints bD fun h' di aB=>?_);have hf:=bz.free (s':={s with heap:=h',toks:=di}) am aB rfl rfl
 split
 .rw[MP,Int.max_def,if_pos (by lia)] at h;exact q _ H ρ _ _ h hf.1 (.int _ _) hf.2
 .rename_i aL
  have e:∀a b:Int,¬b>a→max a b=a:=fun a b Ke=>by lia
  rw[MP,e _ _ aL] at h;exact q _ H ρ _ _ h hf.1 (.int _ _) hf.2
theorem ae3 {l:Nat}{G:List V→Prop}(h:xh (.ref l) H G):
 (∃vs,H[l]? =E (.list vs)∧G vs)∨(∃xs,H[l]? =E (.ints xs)∧G (xs.map .int))∨(∃b,H[l]? =E (.cB b)∧G (b.map .int))∨(∃es n,H[l]? =E (.dict es n)∧G (es.map (·.1))):=by
 change (match H[l]? with
  |some (.list vs)=>G vs
  |some (.ints xs)=>G (xs.map .int)
  |some (.cB b)=>G (b.map .int)
  |some (.dict es _)=>G (es.map (·.1))
  |_=>False) at h
 generalize H[l]? =f9 at h
 induction f9 using ez with
 |none=>exact h.elim
 |some o=>induction o using an.casesOn with
  |«list» vs=>exact .inl ⟨vs,rfl,h⟩
  |«ints» xs=>exact .inr (.inl ⟨xs,rfl,h⟩)
  |cB b=>exact .inr (.inr (.inl ⟨b,rfl,h⟩))
  |dict es n=>exact .inr (.inr (.inr ⟨es,n,rfl,h⟩))
  |_=>exact h.elim
theorem EO {o:an}{o':Option an}{P:List V→Prop}(h:wZ (E o) o' P):∃p,o'=E p∧EP o p P:=by
 induction o' using ez with
 |none=>exact h.elim
 |some p=>exact⟨p,rfl,h⟩
theorem EQ {o p:an}{P:List V→Prop}(h:EP o p P):(zG o=true∧((∃ce,p=.list ce∧P ce)∨∃xs,p=.ints xs∧P (xs.map .int)))∨(KR o=true∧∃b,p=.cB b∧P (b.map .int))∨
 ∃es n,KU n es.length o=true∧p=.dict es n∧P (es.map (·.1)):=by
 induction p using an.casesOn with
 |list ce=>exact .inl ⟨(fM h).1,.inl ⟨ce,rfl,(fM h).2⟩⟩
 |«ints» xs=>exact .inl ⟨(fM h).1,.inr ⟨xs,rfl,(fM h).2⟩⟩
 |cB b=>exact .inr (.inl ⟨(fM h).1,b,rfl,(fM h).2⟩)
 |dict es n=>exact .inr (.inr ⟨es,n,(fM h).1,rfl,(fM h).2⟩)
 |inst d=>exact h.elim
 |d6 d=>exact h.elim
theorem YK {d:bj}{xs:List c3}(hd:(d==sysModules)=false)(e:s.heap.get? d=E (dictOf xs n))
 (h4:Q (.ref s.heap.objs.size) {s with heap:=s.heap.push {cls:=.type "dict_keyiterator",data:=.fields #[.ref d,.int 0 0,.int xs.length 0,.int n 0]}}):wpAny (model O w) A (pyIter (.ref d)) Q eY s:=by
 refine u5 (fq e) PySem.F.slot_dict_iter (hp PySem.F.slot_dict_iter (fq e) PySem.F.entry_dict_iter ?_ (PySem.F.args_dict_iter_1 _));unfold Builtin.«dict.__iter__»;refine af ?_;unfold Builtin.Dict.dictSlotNone;refine af (q5 (fq e) ?_);refine(?_:wpAny _ _ (pure (gP d)) _ _ s);refine aX ?_;refine(?_:wpAny _ _ (Builtin.Dict.showsAll d>>=_) _ _ s);unfold Builtin.Dict.showsAll;rw[if_neg (by rw[hd];exact d8)];refine af (aX (af (mM e rfl ?_)));refine af (lj e rfl (af (jC (aX ⟨_,rfl,"dict_keyiterator",_,⟨_,g5 _ rfl,rfl⟩,PySem.F.slot_dict_keyiterator_next.lookup,?_⟩))))
 simpa [rawInt] using h4
theorem YJ {l:bj}{b:Array UInt8}(e:s.heap.get? l=E (e6 b))
 (h4:Q (.ref s.heap.objs.size) {s with heap:=s.heap.push {cls:=.type "bytearray_iterator",data:=.fields #[.ref l,.int 0 0]}}):wpAny (model O w) A (pyIter (.ref l)) Q eY s:=by
 refine u5 (i0 e) dV.O0 (hp dV.O0 (i0 e) dV.UA ?_ (dV.RJ _));refine(?_:wpAny _ _ (do ret (←newFields "bytearray_iterator" [.ref l,rawInt 0])) _ _ s);exact af (jC (aX ⟨_,rfl,"bytearray_iterator",_,⟨_,g5 _ rfl,rfl⟩,dV.ut.lookup,h4⟩))
theorem K2 {G:List V→Prop}(am:bz w.params ρ H s.heap)(hm:∀a∈ρ,(a==sysModules)=false)
 (c6:aN ρ s.heap v y)(h:xh v H G):∃k vs,G vs∧jZ w.params ρ s.heap k vs∧
  (∀Q:aj→aS→Prop,(∀o,o.isFreed=false→gc k s.heap.objs.size 0 (s.heap.push o)→Q (.ref s.heap.objs.size) {s with heap:=s.heap.push o})→wpAny (model O w) A (pyIter y) Q eY s)∧
  (∀ah aV bp s' P,(∀a∈ah,∀o xs n,s.heap.get? a=E o→o.data≠.seq xs n)→bz w.params aV bp s'.heap→Step ah ρ s aV s'→hk v vs H bp P→∃ce,P ce∧jZ w.params aV s'.heap k ce):=by
 have nf:∀{ah:List bj} {a o xs n},(∀a∈ah,∀o xs n,s.heap.get? a=E o→o.data≠.seq xs n)→s.heap.get? a=E o→o.data=.seq xs n→a∉ah:=fun hf e hd a9=>hf _ a9 _ _ _ e hd;have pr:∀{ah aV s'},(∀a∈ah,∀o xs n,s.heap.get? a=E o→o.data≠.seq xs n)→Step ah ρ s aV s'→eK ρ aV s.heap s'.heap:=fun hf st=>⟨st.new,fun a o e aC ⟨xs,n,hd⟩=>st.keep a o e aC (nf hf e (sv hd))⟩;have up:∀{ah aV s' a l},Step ah ρ s aV s'→ρ[l]? =E a→aV[l]? =E a:=fun st ar=>by refine dr st.new fun n cj b9=>?_;clear b9;subst cj;exact get_append ar
 induction v using V.casesOn with
 |tup vs=>refine c6.gN fun a xs n e r=>⟨.tup a,vs,h,⟨xs,n,e,r⟩,fun Q a9=>wpAny_pyIter_tuple (isTup e) (a9 _ rfl ⟨_,g5 _ rfl,rfl,rfl⟩),fun ah aV bp s' P hf eL st aE=>⟨vs,aE,?_⟩⟩;exact⟨xs,n,st.keep _ _ e (fun a9=>am.dg _ a9 _ _ e) (nf hf e rfl),r.mono (pr hf st) am.dg⟩
 |bytes b=>refine oA c6.CC fun a t b9 eN eH=>?_;clear eN;subst b9;subst eH;exact⟨.p6 a t,_,h,rfl,fun Q a9=>KBw.pyIter_bytes (a9 _ rfl ⟨_,g5 _ rfl,rfl,rfl⟩),fun _ _ _ _ P _ _ _ aE=>⟨_,aE,rfl⟩⟩
 |ref l=>
  refine c6.hl fun a ar=>?_;have lst:∀{o:an} {ah:List bj} {aV:List bj} {bp:List an} {s':aS} {P:List V→Prop},H[l]? =E o→zG o=true→bz w.params aV bp s'.heap→Step ah ρ s aV s'→wZ (H[l]?) (bp[l]?) P→∃ce,P ce∧jZ w.params aV s'.heap (.list a) ce:=
   fun {o ah aV bp s' P} e ax eL st aE=>by
    rw[e] at aE;refine dr (EO aE) fun p cM aE=>?_;rcases EQ aE with⟨_,⟨ce,rfl,a8⟩|⟨xs,rfl,a8⟩⟩|⟨az,_⟩|⟨es,n,az,_⟩
    .exact mG (eL.list (up st ar) cM) fun sz kG o' i5=>⟨_,a8,sz,kG,o',i5⟩
    .exact mG (eL.ints (up st ar) cM) fun sz kG o' Yi=>⟨_,a8,sz,kG,o',zE Yi⟩
    .cases o<;>first|(exact dZ ax;done)|(exact dZ az;done)
    .cases o<;>first|(exact dZ ax;done)|(exact dZ az;done)
  rcases ae3 h with⟨vs,e,b6⟩|⟨xs,e,b6⟩|⟨b,e,b6⟩|⟨es,n,e,b6⟩
  .exact mG (am.list ar e) fun bY n o r=>⟨.list a,_,b6,⟨bY,n,o,r⟩,fun Q a9=>wpAny_pyIter_list (isList o) (a9 _ rfl ⟨_,g5 _ rfl,rfl,rfl⟩),fun ah aV bp s' P hf eL st aE=>lst e rfl eL st aE⟩
  .exact mG (am.ints ar e) fun bY n o DW=>⟨.list a,_,b6,⟨bY,n,o,zE DW⟩,fun Q a9=>wpAny_pyIter_list (isList o) (a9 _ rfl ⟨_,g5 _ rfl,rfl,rfl⟩),fun ah aV bp s' P hf eL st aE=>lst e rfl eL st aE⟩
  .refine gz (am.cB ar e) fun c o b9 eN=>?_;clear b9;subst eN;refine⟨.cB a,_,b6,⟨c,o,rfl⟩,fun Q a9=>YJ o (a9 _ rfl ⟨_,g5 _ rfl,rfl,rfl⟩),fun ah aV bp s' P hf eL st aE=>?_⟩;change wZ (H[l]?) (bp[l]?) P at aE;rw[e] at aE;refine dr (EO aE) fun p cM aE=>?_;rcases EQ aE with⟨az,_⟩|⟨_,Cx,rfl,a8⟩|⟨es,n,az,_⟩
   .exact dZ az
   .refine gz (eL.cB (up st ar) cM) fun gR o' b9 eN=>?_;clear b9;subst eN;exact⟨_,a8,gR,o',rfl⟩
   .exact dZ az
  .refine xC (am.dict ar e) fun xs o cS aD hZ=>⟨.dict a (es.map (·.1)).length n,_,b6,⟨es,xs,o,cS,rfl,rfl⟩,fun Q a9=>YK (hm a (List.mem_of_getElem? ar)) o (a9 _ rfl ⟨_,g5 _ rfl,rfl,?_⟩),fun ah aV bp s' P hf eL st aE=>?_⟩
   .rw[List.length_map,cS.length];rfl
   .change wZ (H[l]?) (bp[l]?) P at aE;rw[e] at aE;refine dr (EO aE) fun p cM aE=>?_;rcases EQ aE with⟨az,_⟩|⟨az,_⟩|⟨cT,kG,az,rfl,a8⟩
    .exact dZ az
    .exact dZ az
    .refine b5 az fun R Z=>?_;cases fQ R;refine xC (eL.dict (up st ar) cM) fun fc o' VE eN eH=>?_;clear eN eH;exact⟨_,a8,cT,fc,o',VE,rfl,by rw[List.length_map,List.length_map];exact fQ Z⟩
 |_=>exact h.elim
theorem jZ.ext {k:Src}(am:bz P ρ H h)(x:jZ P ρ h k vs)(ab:aM∉ρ)(aE:∀a o,a≠aM→h.get? a=E o→h'.get? a=E o)
 (jq:∀o,(∃xs n,o.data=.seq xs n)∨(∃es n,o.data=.dict es n)∨(∃b n,o.data=.bytearray b n)→h.get? aM≠E o):jZ P ρ h' k vs:=by
 have p:eK ρ ρ h h':=⟨⟨[],by simp,fun _ h=>nomatch h⟩,fun a o e aC hd=>aE a o (fun q=>jq o (.inl (sw hd)) (q▸e)) e⟩
 induction k using Src.casesOn with
 |list l=>refine mG x fun xs n e r=>?_;clear x;exact⟨xs,n,aE _ _ (fun q=>jq _ (.inl ⟨_,_,rfl⟩) (q▸e)) e,r.mono p am.dg⟩
 |tup l=>refine mG x fun xs n e r=>?_;clear x;exact⟨xs,n,aE _ _ (fun q=>jq _ (.inl ⟨_,_,rfl⟩) (q▸e)) e,r.mono p am.dg⟩
 |p6 b t=>exact x
 |cB l=>refine dr x fun b e r=>?_;clear x;exact⟨b,aE _ _ (fun q=>jq _ (.inr (.inr ⟨_,_,rfl⟩)) (q▸e)) e,r⟩
 |dict d n ep=>refine oA x fun es xs e cS r=>?_;clear x;exact⟨es,xs,aE _ _ (fun q=>jq _ (.inr (.inl ⟨_,_,rfl⟩)) (q▸e)) e,cS.mono p am.dg,r⟩
 |eQ a st n=>exact x
theorem gc.not {k:Src}{i:Nat}(x:gc k aM i h):∀o,(∃xs n,o.data=.seq xs n)∨(∃es n,o.data=.dict es n)∨(∃b n,o.data=.bytearray b n)→h.get? aM≠E o:=by
 have key:∀{o:Obj} {f:Array aj},h.get? aM=E o→o.data=.fields f→∀o',(∃xs n,o'.data=.seq xs n)∨(∃es n,o'.data=.dict es n)∨(∃b n,o'.data=.bytearray b n)→h.get? aM≠E o':=fun e hd o' a9 cM=>by
  rw[e] at cM;obtain rfl:=cF cM;rcases a9 with⟨_,_,q⟩|⟨_,_,q⟩|⟨_,_,q⟩<;>(rw[hd] at q;cases q)
 induction k using Src.casesOn with
 |eQ a st n=>exact key x rfl
 |list l=>refine gz x fun o ax b9 hd=>?_;clear x b9;exact key ax hd
 |tup l=>refine gz x fun o ax b9 hd=>?_;clear x b9;exact key ax hd
 |p6 b t=>refine gz x fun o ax b9 hd=>?_;clear x b9;exact key ax hd
 |cB l=>refine gz x fun o ax b9 hd=>?_;clear x b9;exact key ax hd
 |dict d n ep=>refine gz x fun o ax b9 hd=>?_;clear x b9;exact key ax hd
theorem TS {k:Src}(bD:A.handled=none)(ab:aM∉ρ):∀(m i:Nat) (s:aS) (Q:List aj→aS→Prop),bz w.params ρ H s.heap→gc k aM i s.heap→jZ w.params ρ s.heap k vs→
 i+m=vs.length→(∀zs h' t,bK ρ h' (vs.drop i) zs→bz w.params ρ H h'→gc k aM (i+m) h'→jZ w.params ρ h' k vs→fK aM s.heap h'→zs.length=m→Q zs {s with heap:=h',toks:=t})→wpAny (model O w) A (draw (.ref aM) m) Q eY s:=fun m=>by
 induction m with
 |zero=>intro i s Q am bX aE e q;exact aX (q [] s.heap s.toks (by rw[List.drop_of_length_le (by lia)];exact .nil) am bX aE (BN ..) rfl)
 |succ m aF=>
  intro i s Q am bX aE e q;show wpAny _ _ (pyNext (.ref aM)>>=_) Q _ s;refine af (Ao bD bX aE (fun v z h' t cp fX m5 eJ=>?_) fun aL=>?_)
  .have p:eK ρ ρ s.heap h':=⟨⟨[],by simp,fun _ h=>nomatch h⟩,fun a o e aC hd=>(eJ.2 a fun q=>bX.not o (.inl (sw hd)) (q▸e)).trans e⟩;have eL:bz w.params ρ H h':=am.other (fun a aC=>eJ.2 a fun q=>ab (q▸aC)) p;have gr:=aE.ext am ab (fun a o eG e=>(eJ.2 a eG).trans e) bX.not;refine af (gb (aF (i+1) {s with heap:=h',toks:=t} _ eL m5 gr (by lia) fun zs Z aa agU cr rJ X8 se len=>aX ?_))
   have p2:eK ρ ρ s.heap Z:=⟨⟨[],by simp,fun _ h=>nomatch h⟩,fun a o e aC hd=>((eJ.trans se).2 a fun q=>bX.not o (.inl (sw hd)) (q▸e)).trans e⟩;refine q (z::zs) Z aa ?_ cr (by rw[show i+(m+1)=i+1+m by lia];exact rJ) X8 (eJ.trans se) (by simp[len]);rw[show vs.drop i=v::vs.drop (i+1) by have ar:=(List.getElem?_eq_some_iff.mp cp).1;rw[List.drop_eq_getElem_cons ar,(List.getElem?_eq_some_iff.mp cp).2]]
   exact .cons (fX.mono p2 am.dg) agU
  .intro h' _;have:=List.getElem?_eq_none_iff.mp aL;lia
theorem EK {aT id:String}{Q:Bool→aS→Prop}(ct:s.TypeIs y aT)(aE:typeLookup (.type aT) "__iter__"=pure (E (.builtin id)))(h:Q false s):wpAny (model O w) A (notIterableAtAll y) Q eY s:=by unfold notIterableAtAll;exact af (iR ct aE (aX h))
inductive vo (H:List an)(n:Nat)(G:List V→Prop)(l:Nat):Prop
 |ol (vs:List V):H[l]? =E (.list vs)→c1 vs.length n=true→G vs→vo H n G l
 |w1 (xs:List Int):H[l]? =E (.ints xs)→c1 xs.length n=true→G (xs.map .int)→vo H n G l
theorem PV {l:Nat}{G:List V→Prop}(h:lT (.ref l) H n G):vo H n G l:=by
 change (match H[l]? with
  |some (.list vs)=>ao (c1 vs.length n) (G vs) False
  |some (.ints xs)=>ao (c1 xs.length n) (G (xs.map .int)) False
  |_=>False) at h
 generalize e:H[l]? =f9 at h
 induction f9 using ez with
 |none=>exact h.elim
 |some o=>induction o using an.casesOn with
  |«list» vs=>exact j1 h fun a b=>.ol vs e a b
  |«ints» xs=>exact j1 h fun a b=>.w1 xs e a b
  |_=>exact h.elim
theorem agI {G:List V→Prop}(h:lT v H n G):xh v H (fun vs=>vs.length=n∧G vs):=by
 induction v using V.casesOn with
 |tup vs=>exact⟨fQ (fM h).1,(fM h).2⟩
 |ref l=>
  refine(?_:(match H[l]? with
   |some (.list vs)=>vs.length=n∧G vs
   |some (.ints xs)=>(xs.map V.int).length=n∧G (xs.map .int)
   |some (.cB b)=>(b.map V.int).length=n∧G (b.map .int)
   |some (.dict es _)=>(es.map (·.1)).length=n∧G (es.map (·.1))
   |_=>False))
  refine vo.casesOn (PV h) (fun vs e a b=>?_) fun xs e a b=>?_
  .rw[e];exact⟨fQ a,b⟩
  .rw[e];exact⟨(List.length_map _).trans (fQ a),b⟩
 |_=>exact h.elim
theorem agH {G:List V→Prop}{Q:Bool→aS→Prop}(am:bz P ρ H s.heap)(c6:aN ρ s.heap v y)(h:lT v H n G)(q:Q false s):wpAny (model O w) A (notIterableAtAll y) Q eY s:=by
 induction v using V.casesOn with
 |tup vs=>exact c6.gN fun a xs n e r=>EK (isTup e).typeIs PySem.F.slot_tuple_iter.lookup q
 |ref l=>exact c6.hl fun a ar=>vo.casesOn (PV h) (fun vs e _ _=>dD (am.list ar e) fun bY n g=>EK (isList g.1).typeIs slot_list_iter.lookup q) fun xs e _ _=>dD (am.ints ar e) fun bY n g=>EK (isList g.1).typeIs slot_list_iter.lookup q
 |_=>exact h.elim
theorem PW {G:List V→Prop}{Q:List aj→aS→Prop}(bD:A.handled=none)(am:bz w.params ρ H s.heap)(hm:∀a∈ρ,(a==sysModules)=false)
 (c6:aN ρ s.heap v y)(h:lT v H n G)
 (q:∀vs zs s',G vs→vs.length=n→bK ρ s'.heap vs zs→bz w.params ρ H s'.heap→Step [] ρ s ρ s'→zs.length=n→Q zs s'):wpAny (model O w) A (unpackItems y n none) Q eY s:=by
 obtain⟨k,vs,⟨ar,b6⟩,lw,bX,keep⟩:=K2 am hm c6 (agI h);unfold unpackItems;refine af (agH am c6 h (e3 d8<|af (gb (bX _ fun o of mm=>?_))));have ab:s.heap.objs.size∉ρ:=fun a9=>by refine dq (am.lt a9) fun o e=>?_;rw[kA] at e;exact c5 e
 have bt:bz w.params ρ H (s.heap.push o):=am.push o;have W1:jZ w.params ρ (s.heap.push o) k vs:=lw.ext (aM:=s.heap.objs.size) am ab (fun a o' eG e=>fx _ e) (fun o' _ e=>by rw[kA] at e;exact c5 e);refine af (gb (TS bD ab n 0 {s with heap:=s.heap.push o} _ bt mm W1 (by lia) fun zs Z aa fX cr rJ W2 eJ len=>e3 (by lia)<|af (gb (Ao (s:={s with heap:=Z,toks:=aa}) bD rJ W2 (fun lU z h' t cp _ _ _=>?_) fun aL bv ex=>?_))))
 .have:=(List.getElem?_eq_some_iff.mp cp).1;lia
 .refine e3 d8 ?_;have all:∀a o',s.heap.get? a=E o'→bv.get? a=E o':=fun a o' e=>by
   have eG:a≠s.heap.objs.size:=fun q=>by rw[q,kA] at e;exact c5 e
   exact ex a o' eG ((eJ.2 a eG).trans (fx _ e))
  refine b8 (bz.free (s':={s with heap:=bv,toks:=aa}) am all rfl rfl) fun f7 st=>?_
  have p:eK ρ ρ Z bv:=⟨⟨[],by simp,fun _ h=>nomatch h⟩,fun a o e aC hd=>ex a o (fun q=>rJ.not o (.inl (sw hd)) (q▸e)) e⟩;exact aX (q vs zs _ b6 ar (fX.mono p cr.dg) f7 st len)
noncomputable abbrev vn:=V→List V→List an→(List V→Prop)→Prop
section
variable (O:hS)(w:fk)(B:gE)(A:fw)(I:Env)(ay:List Str)
def yz (t:aY)(f:vn):Prop:=∀v y ah loc H ρ s (G:List V→Prop) (K:Unit→aS→Prop),f v loc H G→b0 w.params B I ah ay ρ H loc s→aN ρ s.heap v y→
 (∀ef s',G ef→b0 w.params B I ah ay ρ H ef s'→Step ah ρ s ρ s'→K () s')→wpAny (model O w) A (assign t I y) K eY s
end
def agb (i:Nat):vn:=fun v loc _ G=>G (loc.set i v)
def agc (is:List Nat):vn:=fun v loc H G=>lT v H is.length fun ce=>G (jw loc is ce)
inductive hU (I:Env)(ay:List Str):List aY→List Str→List Nat→Prop
 |nil:hU I ay [] [] []
 |cons {y:Str} {p:Pos} {i:Nat} {es:List aY} {ys:List Str} {is:List Nat}:ay[i]? =E y→pY I y→hU I ay es ys is→hU I ay (.Name y p::es) (y::ys) (i::is)
theorem agd {y:Str}{i:Nat}(cu:ay[i]? =E y)(c0:pY I y):yz O w B A I ay (.Name y p) (agb i):=fun v z ah loc H ρ s G K h r fX q=>
 x1 (ux cu c0 r fX fun s' i5 st _=>q _ s' h i5 st)
theorem b0.vN (r:b0 P B I ah ay ρ H loc s):∀a∈ah,∃o,s.heap.get? a=E o∧∀xs n,o.data≠.seq xs n:=fun a aC=>(r.ck.own a aC).2
theorem Step.acq (r:b0 P B I ah ay ρ H loc s)(st:Step ah ρ s aV s'):eK ρ aV s.heap s'.heap:=
 ⟨st.new,fun a o e aC ⟨xs,n,hd⟩=>st.keep a o e aC fun a9=>by refine dr (r.vN a a9) fun o' cM aL=>?_;rw[e] at cM;obtain rfl:=cF cM;exact aL _ _ (sv hd)⟩
theorem hU.each {es:List aY}{ys:List Str}(h:hU I ay es ys is):(assignEach es I).map (·.2)=es.map (fun e=>assign e I)∧(assignEach es I).findIdx? (·.1)=none∧(assignEach es I).length=is.length:=by
 induction h with
 |nil=>exact⟨rfl,rfl,rfl⟩
 |@cons y p i es ys is R Z bv aF=>
  refine⟨?_,?_,?_⟩
  .refine(?_:assign (.Name y p) I::(assignEach es I).map (·.2)=_);rw[aF.1];rfl
  .refine(?_:List.findIdx? (·.1) ((false,assign (.Name y p) I)::assignEach es I)=none);rw[List.findIdx?_cons,if_neg d8,aF.2.1];rfl
  .refine(?_:(assignEach es I).length+1=is.length+1);rw[aF.2.2]
def Q5 (O:hS)(w:fk)(B:gE)(A:fw)(I:Env)(ay:List Str)(ah:List bj)(H:List an)(ρ:List bj)(f:aj→Sem Unit)(i:Nat):Prop:=
 ∀v y loc s (K:Unit→aS→Prop),b0 w.params B I ah ay ρ H loc s→aN ρ s.heap v y→(∀s',b0 w.params B I ah ay ρ H (loc.set i v) s'→Step ah ρ s ρ s'→K () s')→wpAny (model O w) A (f y) K eY s
inductive s6 (O:hS)(w:fk)(B:gE)(A:fw)(I:Env)(ay:List Str)(ah:List bj)(H:List an)(ρ:List bj):List (aj→Sem Unit)→List Nat→Prop
 |nil:s6 O w B A I ay ah H ρ [] []
 |cons {f:aj→Sem Unit} {i:Nat} {fH:List (aj→Sem Unit)} {is:List Nat}:Q5 O w B A I ay ah H ρ f i→s6 O w B A I ay ah H ρ fH is→s6 O w B A I ay ah H ρ (f::fH) (i::is)
theorem NY {dk:List (aj→Sem Unit)}(hu:s6 O w B A I ay ah H ρ dk is):
 ∀(vs:List V) (zs:List aj) (loc:List V) (s:aS) (K:Unit→aS→Prop),vs.length=is.length→b0 w.params B I ah ay ρ H loc s→bK ρ s.heap vs zs→
  (∀s',b0 w.params B I ah ay ρ H (jw loc is vs) s'→Step ah ρ s ρ s'→K () s')→wpAny (model O w) A (assignInOrder dk zs) K eY s:=by
 induction hu with
 |nil=>
  intro vs zs loc s K ar r bV q
  induction vs using List.casesOn with
  |nil=>exact aX (q s r (.refl _ _ _))
  |cons _ _=>cases ar
 |@cons f i dk is hf _ aF=>
  intro vs zs loc s K ar r bV q;cases bV with
  |nil=>cases ar
  |@cons v z vs zs fX bV=>refine(?_:wpAny _ _ (holding zs (f z)>>=fun _=>assignInOrder dk zs) K eY s);exact af (gb (hf v z loc s _ r fX fun bB cK bk=>aF vs zs (loc.set i v) bB K (by simpa using ar) cK (bV.mono (bk.acq r) r.am.dg) fun s2 dz cm=>q s2 dz (bk.trans cm)))
theorem hU.dk {es:List aY}{ys:List Str}(h:hU I ay es ys is):s6 O w B A I ay ah H ρ (es.map fun e=>assign e I) is:=by
 induction h with
 |nil=>exact .nil
 |cons R Z bv aF=>exact .cons (fun v y loc s K r c6 q=>x1 (ux R Z r c6 fun s' i5 st _=>q s' i5 st)) aF
theorem hU.names {es:List aY}{ys:List Str}(h:hU I ay es ys is):s6 O w B A I ay ah H ρ (ys.map fun n=>bindName I n) is:=by
 induction h with
 |nil=>exact .nil
 |cons R Z bv aF=>exact .cons (fun v z loc s K r fX q=>wpAny_bindName (ux R Z r fX fun s' i5 st _=>q s' i5 st)) aF
theorem hU.len {es:List aY}{ys:List Str}(h:hU I ay es ys is):ys.length=is.length:=by
 induction h with
 |nil=>rfl
 |cons _ _ _ aF=>simp[aF]
theorem hU.snoc {es:List aY}{ys:List Str}{y:Str}{i:Nat}(h:hU I ay es ys is)(R:ay[i]? =E y)(Z:pY I y):hU I ay (es++[.Name y p]) (ys++[y]) (is++[i]):=by
 induction h with
 |nil=>exact .cons R Z .nil
 |cons a b _ aF=>exact .cons a b aF
theorem hU.rev {es:List aY}{ys:List Str}(h:hU I ay es ys is):hU I ay es.reverse ys.reverse is.reverse:=by
 induction h with
 |nil=>exact .nil
 |cons a b _ aF=>rw[List.reverse_cons,List.reverse_cons,List.reverse_cons];exact aF.snoc a b
theorem aem:∀{loc vs:List V} {i:Nat} {v:V},i∉is→jw (loc.set i v) is vs=(jw loc is vs).set i v:=by
 induction is with
 |nil=>intro loc vs i v _;cases vs<;>rfl
 |cons j is aF=>
  intro loc vs i v h;rw[List.mem_cons,not_or] at h
  induction vs using List.casesOn with
  |nil=>rfl
  |cons u bY=>refine(?_:jw ((loc.set i v).set j u) is bY=(jw (loc.set j u) is bY).set i v);rw[List.set_comm _ _ h.1,aF h.2]
theorem OL:∀{is:List Nat} {loc vs:List V} {i:Nat} {v:V},vs.length=is.length→jw loc (is++[i]) (vs++[v])=(jw loc is vs).set i v
 | [],loc,[],i,v,_=>rfl
 |j::is,loc,u::vs,i,v,h=>OL (is:=is) (loc:=loc.set j u) (by simpa using h)
 | [],_,_::_,_,_,h=>by cases h
 |_::_,_,[],_,_,h=>by cases h
theorem OK:∀{is:List Nat} {loc vs:List V},is.Nodup→vs.length=is.length→jw loc is.reverse vs.reverse=jw loc is vs
 | [],loc,[],_,_=>rfl
 |i::is,loc,v::vs,aL,ar=>by rw[List.nodup_cons] at aL;rw[List.reverse_cons,List.reverse_cons,OL (by simpa using ar),OK aL.2 (by simpa using ar)];exact(aem aL.1).symm
 | [],_,_::_,_,h=>by cases h
 |_::_,_,[],_,h=>by cases h
theorem Px (ok:B.Ok)(bD:A.handled=none){es:List aY}{ys:List Str}{k:Nat}(h:hU I ay es ys is):yz O w B A I ay (.Tuple es k p) (agc is):=fun v z ah loc H ρ s G K cp r fX q=>by rw[arm_assign_Tuple];refine af (wpAny_standAt ?_);unfold unpack;refine hJ h.each fun aW aJ cJ=>?_;rw[aW,aJ,cJ];exact af (gb (PW bD r.am (r.mods ok.dG) fX cp fun vs zs bB b6 ar bV bt bk hz=>NY h.dk vs zs loc bB K ar (r.step bk bt) bV fun s2 dz cm=>q _ s2 b6 dz (bk.up.trans cm)))
theorem afb (ok:B.Ok)(bD:A.handled=none){x:aG}{es:List aY}{ys:List Str}{k:Nat}(h:hU I ay es ys is)(aL:is.Nodup)(aI:lD e=false)
 (DO:swappedStores [.Tuple es k p] e I=pure none∨swappedStores [.Tuple es k p] e I=pure (E ys))(he:cV O w B C A I ay e x):hI O w B C A I ay (.Assign [.Tuple es k p] e q) (.hY is x):=
 fun ah loc H ρ s Q K cp r bn=>by
  rw[exec_Assign_arm];refine fa (hy (Pn aI _ _ _) (rW (by decide)<|b1 (dH (he ah loc H ρ s _ _ cp r fun v aq bQ u bB R bt eD bk=>?_) fun _ _ x=>x)));have cK:=r.step bk bt;rcases DO with eU|eU
  .refine hy eU ?_;show aO O w A (do assignAll u ((assignEach [.Tuple es k p] I).map (·.2));pure .next) K bB;refine dJ (sM (Px ok bD (k:=k) (p:=p) h v u ah loc aq bQ bB (fun l=>Q .next l aq) (fun _ s'=>K .next s') R cK eD fun ef s' g i5 el=>?_) (fun _ _ x=>cN x) fun _ _ x=>x);exact bn .next ef aq bQ .next s' g i5 trivial (bk.up.trans el)
  .refine hy eU ?_;have ar:ys.length=is.length:=h.len;show aO O w A (do rule "assign.swapped-stores";let items←unpackItems u ys.length none;assignInOrder (ys.reverse.map fun n=>bindName I n) items.reverse;pure .next) K bB;refine dJ (iv ?_);rw[ar];refine dJ (PW bD cK.am (cK.mods ok.dG) eD R fun vs zs s2 b6 Kr bV cr cm hz=>?_);have X5:bK bQ s2.heap vs.reverse zs.reverse:=by
    have:∀{a b:List V} {c d:List aj},bK bQ s2.heap a c→bK bQ s2.heap b d→bK bQ s2.heap (a.reverse++b) (c.reverse++d):=fun {a}=>by
     induction a with
     |nil=>intro b c d x y;refine x.iK ?_;clear x;exact y
     |cons v a aF=>intro b c d x y;refine x.gS fun _ _ ja jb=>?_;rw[List.reverse_cons,List.reverse_cons,List.append_assoc,List.append_assoc];exact aF jb (.cons ja y)
    simpa using this bV .nil
   refine dJ (NY h.rev.names vs.reverse zs.reverse loc s2 _ (by simp[Kr]) (cK.step cm cr) X5 fun eS hD ft=>cN ?_);rw[OK aL Kr] at hD;exact bn .next _ aq bQ .next eS b6 hD trivial ((bk.up.trans cm.up).trans ft)
section
variable (O:hS)(w:fk)(B:gE)(C:hT)(A:fw)(I:Env)(ay:List Str)
def nL (e:aY)(x:aG):Prop:=∀ah loc H ρ s (Q:V→List V→List an→Prop) (K:aj→aS→Prop),qW C B.G loc x (cG C B.G loc x) H Q→b0 w.params B I ah ay ρ H loc s→
 (∀ag vs bp aV k aM bC s',Q ag vs bp→bz w.params aV bp s'.heap→Step [] ρ s aV s'→Step [] ρ s aV bC→bz w.params aV bp bC.heap→gc k aM 0 s'.heap→bC.heap.get? aM=none→(∀a o,bC.heap.get? a=E o→s'.heap.get? a=E o)→jZ w.params aV s'.heap k vs→
  (∀JN cv be s2 P,(∀a∈JN,∀o xs n,bC.heap.get? a=E o→o.data≠.seq xs n)→bz w.params cv be s2.heap→Step JN aV bC cv s2→hk ag vs bp be P→∃ce,P ce∧jZ w.params cv s2.heap k ce)→K (.ref aM) s')→
 aO O w A (eval e I) (fun y bC=>aO O w A (pyIter y) K bC) s
end
theorem agL {G:Nat→Option V}{x:aG}(aR:∀a b c,x≠.range a b c){u:List an→bE→Prop}{Q:V→List V→List an→Prop}(h:qW C G loc x u H Q):u H fun a aq=>xh a aq fun vs=>Q a vs aq:=by
 cases x<;>first|exact h|exact absurd rfl (aR _ _ _)
theorem o1 (am:bz P ρ H h)(e:h.get? aM=none):aM∉ρ:=fun a9=>by refine dq (am.lt a9) fun o cM=>?_;rw[e] at cM;exact c5 cM
theorem aeC (ok:B.Ok){x:aG}(aR:∀a b c,x≠.range a b c)(he:cV O w B C A I ay e x):nL O w B C A I ay e x:=fun ah loc H ρ s Q K h r q=>by refine he ah loc H ρ s _ _ (agL aR h) r fun v aq bQ y bB R bt c6 bk=>?_;have cK:=r.step bk bt;refine nv (K2 (O:=O) (A:=A) bt (cK.mods ok.dG) c6 R) fun k vs b6 lw bX keep=>cU (bX _ fun o of mm=>?_);have ab:=o1 bt (kA bB.heap);refine q v vs aq bQ k _ bB _ b6 (bt.push o) (bk.trans (.push bB.toks)) bk bt mm (kA _) (fun a o' e=>fx _ e) (lw.ext bt ab (fun a o' eG e=>fx _ e) (fun o' _ e=>by rw[kA] at e;exact c5 e)) keep
theorem acA {a b:Int}(aI:0<c):Builtin.Range.rangeSize a b c=((((b-a+c-1)/c).toNat:Nat):Int):=by
 unfold Builtin.Range.rangeSize;rw[if_pos aI]
 by_cases h:a<b
 .rw[if_pos h,show b-a+c-1=(b-a-1)+1*c by omega,Int.add_mul_ediv_right _ _ (by omega)];have:0≤(b-a-1)/c:=GD (by omega) (by omega);omega
 .rw[if_neg h];have:(b-a+c-1)/c<1:=Int.ediv_lt_of_lt_mul aI (by omega);omega
theorem fits_of {x:Int}(h: -(2^43)<x∧x<2^43):Builtin.Range.rangeFitsLong x=true:=by unfold Builtin.Range.rangeFitsLong;rw[decide_eq_true (oH (ko (by decide) h.1)),decide_eq_true (ko h.2 (by decide))];rfl
theorem size_fits {a b:Int}(aI:0<c)(R: -(2^40)<a)(cZ:b<2^40): -(2^43)<Builtin.Range.rangeSize a b c∧Builtin.Range.rangeSize a b c<2^43:=by
 unfold Builtin.Range.rangeSize;rw[if_pos aI]
 by_cases h:a<b
 .rw[if_pos h];have bl:0≤b-a-1:=by lia
  have gV:=Int.ediv_le_self c bl;have nY:=GD bl (oH aI);lia
 .rw[if_neg h];decide
theorem aeS {a b:Int}(aI:0<c)(R: -(2^40)<a)(Z:a<2^40)(bv: -(2^40)<b)(cZ:b<2^40)(gV:c<2^40):Builtin.Range.small a b c=true:=by have f:∀{x:Int},-(2^40)<x→x<2^40→Builtin.Range.rangeFitsLong x=true:=fun p q=>fits_of ⟨ko (by decide) p,ko q (by decide)⟩;unfold Builtin.Range.small;rw[f R Z,f bv cZ,f (ko (by decide) aI) gV,fits_of (size_fits aI R cZ),if_pos aI,fits_of ⟨by lia,by lia⟩,xK];rfl
theorem noPylong {a b:Int}(h:c<2^40)(aI:0<c):Builtin.divisionGoesByPylong (b-a) c=false:=Qy (log2_lt aI (by omega))
theorem acL {r:bj}{x y z:Int}{t u v:Tok}{K:aj→aS→Prop}(hz:0<z)(az: -(2^40)<x∧x<2^40∧ -(2^40)<y∧y<2^40∧z<2^40)
 (am:IsRange s.heap r x y z t u v)(q:∀o,o.isFreed=false→gc (.eQ x z ((y-x+z-1)/z).toNat) s.heap.objs.size 0 (s.heap.push o)→K (.ref s.heap.objs.size) {s with heap:=s.heap.push o}):wpAny (model O w) A (pyIter (.ref r)) K eY s:=by
 refine wpAny_pyIter_range am (aeS hz az.1 az.2.1 az.2.2.1 az.2.2.2.1 az.2.2.2.2) (q _ rfl ?_);show IsRangeIter _ _ (x+z*((0:Nat):Int)) (_-((0:Nat):Int)) z;rw[acA hz,show x+z*((0:Nat):Int)=x by simp,show∀n:Int,n-((0:Nat):Int)=n from fun n=>by simp];exact g5 _ rfl
@[elab_as_elim] theorem tJ {o:V}{x:aj}{K:Int→Prop}{aA:aj→Prop}(c:n2 o K)(r:aN ρ h o x)(k:∀i t,K i→aA (.int i t)):aA x:=by
 induction o using V.casesOn with
 |int l=>exact r.fh fun t=>k l t c
 |_=>exact fv c
theorem Fq (ok:B.Ok){x:Str}{es:List aY}{a b c:aG}(n:vd B I x (.type "range"))(a8:es.all jS=true)
 (aE:(∃e,es=[e]∧a=.int 0∧c=.int 1∧cV O w B C A I ay e b)∨(∃e f,es=[e,f]∧c=.int 1∧cV O w B C A I ay e a∧cV O w B C A I ay f b)∨
  (∃e f g,es=[e,f,g]∧cV O w B C A I ay e a∧cV O w B C A I ay f b∧cV O w B C A I ay g c)):nL O w B C A I ay (.Call (.Name x k0) es [] p) (.range a b c):=fun ah loc H ρ s Q K h r q=>by
 have fin:∀{x y z:Int} {t u v:Tok} {k:Nat} {ei:List an} {ga:List bj} {eS:aS},(0<z∧ -(2^40)<x∧x<2^40∧ -(2^40)<y∧y<2^40∧z<2^40)∧Q .none ((eQ x y z).map .int) ei→bz w.params ga ei eS.heap→Step [] ρ s ga eS→
  aO O w A (pyIter (.ref eS.heap.objs.size)) K {eS with heap:=eS.heap.push {cls:=.type "range",data:=.fields #[.int x t,.int y u,.int z v]},toks:=k}:=fun {x y z t u v k ei ga eS} a9 am st=>by
  refine cU (acL a9.1.1 a9.1.2 (IsRange.new ..) fun o of mm=>?_);have bk:Step [] ρ s ga {eS with heap:=eS.heap.push {cls:=.type "range",data:=.fields #[.int x t,.int y u,.int z v]},toks:=k}:=st.trans (.push k)
  refine q .none _ ei ga _ _ _ _ a9.2 ((am.push _).push _) (bk.trans (.push k)) bk (am.push _) mm (kA _) (fun a o' e=>fx _ e) ?_ fun _ _ _ _ P _ _ _ aE=>⟨_,aE,?_⟩
  .show _=_;unfold eQ;rw[List.map_map];rfl
  .show _=_;unfold eQ;rw[List.map_map];rfl
 refine Ak (EB ok n r (dH (Al (Q:=fun y bC=>aO O w A (pyIter y) K bC) a8 ?_) fun _ _ h=>h));rcases aE with⟨e,rfl,rfl,rfl,he⟩|⟨e,f,rfl,rfl,he,hf⟩|⟨e,f,g,rfl,he,hf,b6⟩
 .change cG C B.G loc b H (fun b be=>n2 b fun y=>ao (my 0 y 1) (Q .none ((eQ 0 y 1).map .int) be) False) at h;rw[List.all_cons,fJ] at a8;rw[ov a8.1];exact qK (he ah loc H ρ s _ _ h r fun jT aq bQ y bB R bt c6 bk=>cU (u9 ⟨zU,tJ R c6 fun i t g=>cU (call_range_1 (fin ⟨uu (fM g).1,(fM g).2⟩ bt bk))⟩))
 .change cG C B.G loc a H (fun a aq=>cG C B.G loc b aq fun b be=>n2 a fun x=>n2 b fun y=>ao (my x y 1) (Q .none ((eQ x y 1).map .int) be) False) at h;rw[List.all_cons,List.all_cons,fJ,fJ] at a8;rw[ov a8.1,ov a8.2.1];exact qK (he ah loc H ρ s _ _ h r fun eD aq bQ y bB R bt c6 bk=>qK (hf ah loc aq bQ bB _ _ R (r.step bk bt) fun jT be cv z s2 Z cr fX cm=>cU (u9 ⟨zU,
   tJ Z c6 fun i t Z=>tJ Z fX fun j u g=>cU (call_range_2 (fin ⟨uu (fM g).1,(fM g).2⟩ cr (bk.trans cm)))⟩)))
 .change cG C B.G loc a H (fun a aq=>cG C B.G loc b aq fun b be=>cG C B.G loc c be fun c ei=>n2 a fun x=>n2 b fun y=>n2 c fun z=>ao (my x y z) (Q .none ((eQ x y z).map .int) ei) False) at h;rw[List.all_cons,List.all_cons,List.all_cons,fJ,fJ,fJ] at a8;rw[ov a8.1,ov a8.2.1,ov a8.2.2.1];exact qK (he ah loc H ρ s _ _ h r fun eD aq bQ y bB R bt c6 bk=>qK (hf ah loc aq bQ bB _ _ R (r.step bk bt) fun jT be cv z s2 Z cr fX cm=>
   qK (b6 ah loc be cv s2 _ _ Z ((r.step bk bt).step cm cr) fun P0 ei ga ahz eS bv f7 agS ft=>cU (u9 ⟨zU,
    tJ bv c6 fun i t bv=>tJ bv fX fun j u bv=>tJ bv agS fun k v g=>cU (call_range_3 (sE (uu (fM g).1).1) (fin (k:=eS.toks) ⟨uu (fM g).1,(fM g).2⟩ f7 ((bk.trans cm).trans ft)) (.inl (noPylong (uu (fM g).1).2.2.2.2.2 (uu (fM g).1).1)))⟩))))
theorem b0.but (r:b0 P B I ah ay ρ H loc s)(aE:∀a o,a≠aM→s.heap.get? a=E o→h'.get? a=E o)
 (R:aM∉ρ)(Z:aM∉ah)(bv:B.h₀.get? aM=none)(jq:∀o,(∃xs n,o.data=.seq xs n)→s.heap.get? aM≠E o)(t:Nat):b0 P B I ah ay ρ H loc {s with heap:=h',toks:=t}:=by
 have p:eK ρ ρ s.heap h':=⟨⟨[],by simp,fun _ h=>nomatch h⟩,fun a o e aC hd=>aE a o (fun q=>jq o (sw hd) (q▸e)) e⟩;have jN:∀a∈ah,∀o,s.heap.get? a=E o→h'.get? a=E o:=fun a aC o e=>aE a o (fun q=>Z (q▸aC)) e;have am:bz P ρ H h':=r.am.other (fun a aC=>by refine dq (r.am.lt aC) fun o e=>?_;rw[e,aE a o (fun q=>R (q▸aC)) e]) p
 refine⟨am,⟨r.ck.kind,r.ck.glob,r.ck.blt,fun a aC=>?_,r.ck.m9,r.ck.mV,fun i x v aR cp bx=>?_,r.ck.nu,?_,fun x c aI=>?_,r.ck.qB,r.ck.inj,r.ck.eX⟩,fun a o e=>?_⟩
 .obtain⟨R,o,Z,bv⟩:=r.ck.own a aC;exact⟨R,o,jN a aC o Z,bv⟩
 .exact dr (r.ck.k4 i x v aR cp bx) fun gC g1 bM=>⟨gC,Om r.ck.m9 r.ck.mV jN g1,bM.mono p r.am.dg⟩
 .exact uO r.ck.ns fun m o es ep ax q=>⟨m,o,es,ep,jN _ r.ck.m9 _ ax,q⟩
 .exact mG (r.ck.cl x c aI) fun v o ax q=>⟨v,o,jN _ (r.ck.mV _ _ aI) _ ax,q⟩
 .refine hJ (r.bs a o e) fun g1 bM g3=>?_;exact⟨aE a o (fun q=>by rw[←q,e] at bv;exact py bv) g1,bM,g3⟩
theorem Step.but (st:Step ah ρ s aV bC)(ab:s.heap.get? aM=none)(aE:∀a o,a≠aM→bC.heap.get? a=E o→h'.get? a=E o)(t:Nat):
 Step ah ρ s aV {bC with heap:=h',toks:=t}:=by
 refine⟨st.new,fun a o e aC hf=>aE a o (fun q=>by rw[q,ab] at e;exact c5 e) (st.keep a o e aC hf),fun a e=>?_,st.gens,st.os⟩;cases q:bC.heap.get? a with
 |none=>exact st.live a q
 |some o=>
  by_cases aC:a=aM
  .rw[aC];exact ab
  .rw[aE a o aC q] at e;exact py e
theorem Yz {k:Src}{i:Nat}(x:gc k aM i h):∃(o:Obj) (n:String) (vs:Array aj),h.get? aM=E o∧o.cls=.type n∧o.data=.fields vs∧
 ["enumerate","zip","dict_itemiterator","dict_reverseitemiterator","odict_iterator","itertools.zip_longest","itertools.pairwise"].contains n=false:=by
 induction k using Src.casesOn with
 |eQ a st n=>exact⟨_,_,_,x,rfl,rfl,by decide⟩
 |list l=>refine gz x fun o ax aI hd=>?_;clear x;exact⟨o,_,_,ax,aI,hd,by decide⟩
 |tup l=>refine gz x fun o ax aI hd=>?_;clear x;exact⟨o,_,_,ax,aI,hd,by decide⟩
 |p6 b t=>refine gz x fun o ax aI hd=>?_;clear x;exact⟨o,_,_,ax,aI,hd,by decide⟩
 |cB l=>refine gz x fun o ax aI hd=>?_;clear x;exact⟨o,_,_,ax,aI,hd,by decide⟩
 |dict d n ep=>refine gz x fun o ax aI hd=>?_;clear x;exact⟨o,_,_,ax,aI,hd,by decide⟩
set_option backward.match.sparseCases true in
theorem NZ {k:Src}{i:Nat}{Q:Unit→aS→Prop}(x:gc k aM i s.heap)(h:Q () s):wpAny (model O w) A (letOwnedTupleGo t (.ref aM) y) Q eY s:=by
 refine md (Yz x) fun o n vs bT=>kR bT fun ax aI hd aL=>?_;clear bT;have go:wpAny (model O w) A (match(gP aM,y) with
  |(.ref r,.ref a)=>(do
   let o←load r
   match o.cls,o.data with
   |.type n,.fields vs=>
    if(["enumerate","zip","dict_itemiterator","dict_reverseitemiterator","odict_iterator","itertools.zip_longest","itertools.pairwise"].contains n&&vs[0]? ==E (rawInt a))=true then do
     rule "for.unpacks-the-owned-tuple"
     updateField r 0 .none
    else pure ()
   |_,_=>pure ())
  |_=>pure ()) Q eY s:=by
  induction y using Hg with
  |ref a=>refine af (nC ax ?_);rw[aI,hd];refine(?_:wpAny _ _ (if(["enumerate","zip","dict_itemiterator","dict_reverseitemiterator","odict_iterator","itertools.zip_longest","itertools.pairwise"].contains n&&vs[0]? ==E (rawInt a))=true then _ else _) _ _ _);rw[if_neg (fun a9=>by rw[aL,oG] at a9;exact dZ a9)];exact aX h
  |_=>exact aX h
 induction t using jW with
 |Tuple=>exact go
 |List=>exact go
 |_=>exact aX h
@[elab_as_elim] theorem zF {aA:V→Prop}(h:bU n v=true)(hi:∀i,aA (.int i))(aE:∀k,aA (.str k))(cW:∀m vs,n=m+1→vs.all (bU m)=true→aA (.tup vs)):aA v:=by
 induction v using V.casesOn with
 |int i=>exact hi i
 |str k=>exact aE k
 |tup vs=>induction n using ia with
  |zero=>exact dZ h
  |succ m=>exact cW m vs rfl h
 |_=>induction n using ia<;>exact dZ h
theorem abK {p:Nat→Bool}(aF:∀{v:V},bU n v=true→kH p v=true)(vs:List V):vs.all (bU n)=true→iM p vs=true:=
 List.rec (motive:=fun vs=>vs.all (bU n)=true→iM p vs=true) (fun _=>rfl) (fun v vs k h=>b5 h fun R Z=>gD.mpr ⟨aF R,k Z⟩) vs
theorem abJ {p:Nat→Bool}(n:Nat):∀{v:V},bU n v=true→kH p v=true:=by
 induction n with
 |zero=>intro v h;exact zF h (fun _=>rfl) (fun _=>rfl) fun m vs e _=>nomatch e
 |succ n aF=>intro v h;exact zF h (fun _=>rfl) (fun _=>rfl) fun m vs e h=>abK aF vs (lZ e▸h)
theorem NQ {p:Nat→Bool}(h:bU 4 v=true):kH p v=true:=abJ 4 h
section
variable {n:List bj}
theorem J1 {l:Nat}(e:(ρ++n)[l]? =E a)(k:dT l ρ.length=true):ρ[l]? =E a:=by rwa [List.getElem?_append_left (d5 k)] at e
theorem aN.shrink {x:aj}(r:aN (ρ++n) h v x):kH (fun l=>dT l ρ.length) v=true→aN ρ h v x:=
 aN.rec (motive_1:=fun v x _=>kH (fun l=>dT l ρ.length) v=true→aN ρ h v x) (motive_2:=fun vs xs _=>iM (fun l=>dT l ρ.length) vs=true→bK ρ h vs xs)
  (fun _=>.none) (fun b _=>.bool b) (fun i t _=>.int i t) (fun x t e _=>.str x t e) (fun a t e _=>.bytes a t e) (fun e _ aF k=>.tup e (aF k)) (fun e k=>.ref (J1 e k)) (fun _=>.nil) (fun _ _ a b k=>b5 k fun ba bL=>.cons (a ba) (b bL)) r
theorem bK.shrink (r:bK (ρ++n) h vs xs):iM (fun l=>dT l ρ.length) vs=true→bK ρ h vs xs:=
 bK.rec (motive_1:=fun _ _ _=>True) (motive_2:=fun vs xs _=>iM (fun l=>dT l ρ.length) vs=true→bK ρ h vs xs)
  trivial (fun _=>trivial) (fun _ _=>trivial) (fun _ _ _=>trivial) (fun _ _ _=>trivial) (fun _ _ _=>trivial) (fun _=>trivial) (fun _=>.nil) (fun a _ _ b k=>b5 k fun ba bL=>.cons (a.shrink ba) (b bL)) r
theorem dc.shrink {xs:List c3}(r:dc P (ρ++n) h es xs):(∀e∈es,bU 4 e.1=true)→pj (fun l=>dT l ρ.length) es=true→dc P ρ h es xs:=
 dc.rec (motive:=fun es xs _=>(∀e∈es,bU 4 e.1=true)→pj (fun l=>dT l ρ.length) es=true→dc P ρ h es xs) (fun _ _=>.nil)
  (fun a b c _ aF aD k=>b5 k fun ba bL=>.cons (a.shrink (NQ (aD _ List.mem_cons_self))) (b.shrink ba) c (aF (fun e he=>aD e (List.mem_cons_of_mem _ he)) bL)) r
theorem eF.shrink {o:an}(r:eF P (ρ++n) h o ob):hR (fun l=>dT l ρ.length) o=true→eF P ρ h o ob:=
 eF.casesOn (motive:=fun o ob _=>hR (fun l=>dT l ρ.length) o=true→eF P ρ h o ob) r (fun r k=>.list (r.shrink k)) (fun r _=>.ints r) (fun r a b k=>.dict (r.shrink a k) a b) (fun a b k=>.inst a (J1 b k)) (fun b e _=>.cB b e) (fun b _=>.d6 b)
end
theorem bz.trunc {n:List bj}(x:bz P (ρ++n) H h)(ok:(H.take ρ.length).all (hR fun l=>dT l ρ.length)=true):bz P ρ (H.take ρ.length) h:=by refine⟨by rw[List.length_take,←x.len,List.length_append];lia,(List.nodup_append.mp x.eX).1,fun i o a ax aC=>?_⟩;have hi:=(List.getElem?_eq_some_iff.mp aC).1;rw[List.getElem?_take_of_lt hi] at ax;refine dr (x.at_ i o a ax (get_append aC)) fun ob e r=>?_;have k:=List.all_eq_true.mp ok o (List.mem_of_getElem? (i:=i) (by rw[List.getElem?_take_of_lt hi];exact ax));exact⟨ob,e,r.shrink k⟩
theorem b0.trunc {n:List bj}(r:b0 P B I ah ay (ρ++n) H loc s)(ok:(H.take ρ.length).all (hR fun l=>dT l ρ.length)=true):
 b0 P B I ah ay ρ (H.take ρ.length) (loc.map (kz ρ.length)) s:=by
 refine⟨r.am.trunc ok,⟨r.ck.kind,r.ck.glob,r.ck.blt,fun a aC=>?_,r.ck.m9,r.ck.mV,fun i x v aR cp bx=>?_,r.ck.nu,r.ck.ns,r.ck.cl,r.ck.qB,r.ck.inj,r.ck.eX⟩,fun a o e=>?_⟩
 .exact b8 (r.ck.own a aC) fun R Z=>⟨fun q=>R (List.mem_append_left _ q),Z⟩
 .rw[List.getElem?_map] at cp;refine dr (GW.mp cp) fun u e b9=>?_;subst b9;cases k:kH (fun l=>dT l ρ.length) u with
  |true=>simp only[kz,k] at bx⊢;exact dr (r.ck.k4 i x u aR e bx) fun gC R Z=>⟨gC,R,Z.shrink k⟩
  |false=>simp only[kz,k] at bx;exact absurd rfl bx
 .exact hJ (r.bs a o e) fun R Z bv=>⟨R,fun q=>Z (List.mem_append_left _ q),bv⟩
theorem Step.trunc (x:Step ah ρ s aV s'):Step ah ρ s ρ s':=⟨⟨[],by simp,fun _ h=>nomatch h⟩,x.keep,x.live,x.gens,x.os⟩
set_option tactic.hygienic true in
theorem Wt {f:vn}{a:ff}{k:Src}{FW:List an→(List V→Prop)→Prop}{Q:dM}{K:g0→aS→Prop}(bD:A.handled=none)(xm:yz O w B A I ay t f)(az:l6 O w B C A I ay body a)
 (ab:s.heap.get? aM=none)(hf:aM∉ah)(bl:B.h₀.get? aM=none)(bn:sX w.params B I ay ah ρ s Q K)
 (keep:∀cv be s2 P,bz w.params cv be s2.heap→Step ah ρ s cv s2→FW be P→∃ce,P ce∧jZ w.params cv s2.heap k ce):
 ∀n i vs loc H aV s',aM∉aV→b0 w.params B I ah ay aV H loc s'→Step ah ρ s aV s'→gc k aM i s'.heap→jZ w.params aV s'.heap k vs→
  iy ρ.length (fun v loc H K=>f v loc H fun ef=>b4 C B.G a ef H K) FW n i vs loc H Q→codeN O w A (.forLoop t (.ref aM) body [] I) K s':=by
 intro n i vs loc H aV s' lv r qS bX lw b6;refine CJ rfl (fun n s'=>∃i vs loc H aV,aM∉aV∧b0 w.params B I ah ay aV H loc s'∧Step ah ρ s aV s'∧gc k aM i s'.heap∧jZ w.params aV s'.heap k vs∧
  iy ρ.length (fun v loc H K=>f v loc H fun ef=>b4 C B.G a ef H K) FW n i vs loc H Q) ?_ n ⟨i,vs,loc,H,aV,lv,r,qS,bX,lw,b6⟩
 clear lv r qS bX lw b6;rintro n s' ⟨i,vs,loc,H,aV,lv,r,qS,bX,lw,b6⟩
 induction n using ia with
 |zero=>exact b6.elim
 |succ n=>
 unfold iy at b6;show aO O w A ((forTurn t (.ref aM) body [] I).onRaise (fun x=>do noteFrame x I;theTreesLotGoes x)) _ s';refine qJ ?_;unfold forTurn;refine fa (b1 (qJ (cU (Ao bD bX lw (fun v z h' di cp fX m5 eJ=>?_) fun m4 h' ex=>?_))))
 .rw[cp] at b6;have cK:b0 w.params B I ah ay aV H loc {s' with heap:=h',toks:=di}:=r.but (fun a o eG e=>(eJ.2 a eG).trans e) lv hf bl (fun o hd=>bX.not o (.inl hd)) di
  have bk:Step ah ρ s aV {s' with heap:=h',toks:=di}:=qS.but ab (fun a o eG e=>(eJ.2 a eG).trans e) di
  have agT:aN aV h' v z:=fX.mono ⟨⟨[],by simp,fun _ h=>nomatch h⟩,fun a o e aC hd=>(eJ.2 a fun q=>bX.not o (.inl (sw hd)) (q▸e)).trans e⟩ r.am.dg;refine dJ (NZ m5 (dJ (xm v z ah loc H aV _ _ _ b6 cK agT fun m8 s2 Z dz cm=>?_)));have rJ:gc k aM (i+1) s2.heap:=m5.keep fun o e=>cm.keep aM o e lv hf;refine b1 (az ah m8 H aV s2 _ _ Z dz fun aH z9 ei ga ik eS bv hD h2 ft=>?_);have sp:=(bk.trans cm).trans ft
  induction aH using rb.casesOn with
  |next=>
   induction ik using nD with
   |next=>
    have J7:aM∉ga:=fun a9=>by
     refine dr ft.new fun As cj Xz=>?_;subst cj;rcases List.mem_append.mp a9 with q|q
     .exact lv q
     .refine dq rJ.ex fun o e=>?_;rw[Xz aM q] at e;exact c5 e
    have KY:gc k aM (i+1) eS.heap:=rJ.keep fun o e=>ft.keep aM o e lv hf;change trunc ρ.length z9 ei _ at bv;unfold trunc at bv
    split at bv
    .rename_i ok
     refine dr sp.new fun As cJ b9=>?_;clear b9;subst cJ;have qM:=hD.trunc ok;exact dr (keep ρ _ eS _ qM.am sp.trunc bv) fun ce cZ Dr=>cN (.inl ⟨rfl,n,jy n,i+1,ce,_,_,ρ,fun q=>J7 (List.mem_append_left _ q),qM,sp.trunc,KY,Dr,cZ⟩)
    .exact dr (keep ga ei eS _ hD.am sp bv) fun ce cZ Dr=>cN (.inl ⟨rfl,n,jy n,i+1,ce,z9,ei,ga,J7,hD,sp,KY,Dr,cZ⟩)
   |_=>exact h2.elim
  |brk=>
   induction ik using nD with
   |brk=>exact cN (bn .next z9 ei ga .next eS bv hD trivial sp)
   |_=>exact h2.elim
  |ret v=>
   induction ik using nD with
   |ret u=>exact cN (bn _ z9 ei ga _ eS bv hD h2 sp)
   |_=>exact h2.elim
 .rw[m4] at b6;have cK:b0 w.params B I ah ay aV H loc {s' with heap:=h',toks:=s'.toks}:=r.but (fun a o eG e=>ex a o eG e) lv hf bl (fun o hd=>bX.not o (.inl hd)) s'.toks
  have bk:Step ah ρ s aV {s' with heap:=h',toks:=s'.toks}:=qS.but ab (fun a o eG e=>ex a o eG e) s'.toks
  refine cN (.inr ⟨rfl,rfl,CI ?_⟩);show aO _ _ _ (do return Fin.done (←(execs [] I).onRaise (fun x=>do noteFrame x I;theTreesLotGoes x))) _ _;exact b1 (qJ (cN (cN ⟨_,rfl,bn .next loc H aV .next _ b6 cK trivial bk⟩)))
noncomputable def oa:aY→Bool
 |.Set .. =>false
 |_=>true
theorem Ng {c:l0}{Q:g0→aS→Prop}(ly:lL c=true)(h:codeN O w A c Q s):aO O w A (runOwn c I) Q s:=qJ (Nf ly h)
theorem JS (h:oa e=true)(I:Env)(x:aj):foldedSetIterable e I x=pure x:=by
 unfold foldedSetIterable;cases e<;>first|rfl|exact dZ h
theorem Ej (ext:∀a o,h.get? a=E o→h'.get? a=E o)(a:bj)(e:h'.get? a=none):h.get? a=none:=by
 cases q:h.get? a with
 |none=>rfl
 |some o=>rw[ext a o q] at e;exact py e
theorem O8 {f:vn}{a:ff}{x:aG}{sx:cO}(bD:A.handled=none)(aL:oa bX=true)(hi:nL O w B C A I ay bX x)(xm:yz O w B A I ay t f)(az:l6 O w B C A I ay body a)
 (cp:∀loc H (Q:dM),xt C B.G sx loc H Q→qW C B.G loc x (cG C B.G loc x) H fun ag vs aq=>iy aq.length (fun v loc H K=>f v loc H fun ef=>b4 C B.G a ef H K) (hk ag vs aq) (vs.length+1) 0 vs loc aq Q):
 hI O w B C A I ay (.For t bX body [] p) sx:=fun ah loc H ρ s Q K h r bn=>by
 show aO O w A (do standAt p;let x←foldedSetIterable bX I (←eval bX I);standAt bX.pos;runOwn (.forLoop t (←holding [x] (pyIter x)) body [] I) I) K s;refine fa (b1 (dH (hi ah loc H ρ s _ (fun aM s'=>aO O w A (runOwn (.forLoop t aM body [] I) I) K s') (cp loc H Q h) r fun ag vs aq bQ k aM bB s2 R cr cm bk bt mm ab ext lw keep=>?_) fun y bB R=>hy (JS aL I y) (fa (b1 (eR R)))));have cK:=r.step bk bt;have dz:=r.step cm cr;have hf:aM∉ah:=fun a9=>by refine dr (cK.vN aM a9) fun o e b9=>?_;clear b9;rw[ab] at e;exact c5 e
 have afp:Step ah bQ bB bQ s2:=⟨⟨[],by simp,fun _ h=>nomatch h⟩,fun a o e _ _=>ext a o e,Ej ext,cm.gens.trans bk.gens.symm,cm.os.trans bk.os.symm⟩;refine Ng rfl (Wt bD xm az ab hf ?_ (bn.after bk.up) (fun cv be eS P f7 ft aE=>keep ah cv be eS P (fun a aC o xs n e hd=>?_) f7 ft aE) _ 0 vs loc aq bQ s2 (o1 bt ab) dz afp mm lw (by rw[bt.len];exact R))
 .cases e:B.h₀.get? aM with
  |none=>rfl
  |some o=>rw[(cK.bs aM o e).1] at ab;exact py ab
 .refine dr (cK.vN a aC) fun o' cM kF=>?_;rw[e] at cM;obtain rfl:=cF cM;exact kF _ _ hd
theorem afh {y:Str}{i:Nat}{a:ff}{x:aG}(bD:A.handled=none)(aL:oa bX=true)(cu:ay[i]? =E y)(c0:pY I y)(hi:nL O w B C A I ay bX x)(az:l6 O w B C A I ay body a):
 hI O w B C A I ay (.For (.Name y q) bX body [] p) (.hN i x a):=O8 bD aL hi (agd cu c0) az fun loc H Q h=>h
theorem afi (ok:B.Ok){es:List aY}{ys:List Str}{k:Nat}{a:ff}{x:aG}(bD:A.handled=none)(aL:oa bX=true)(h:hU I ay es ys is)(hi:nL O w B C A I ay bX x)(az:l6 O w B C A I ay body a):
 hI O w B C A I ay (.For (.Tuple es k q) bX body [] p) (.tv is x a):=O8 bD aL hi (Px ok bD h) az fun loc H Q h=>h
theorem afm {x:aG}{a:ff}(cW:ST O w B C A I ay t x)(az:l6 O w B C A I ay body a):hI O w B C A I ay (.While t body [] p) (.xx x a):=fun ah loc H ρ s Q K h r bn=>by
 change xy _ _ 8 loc H Q at h;generalize 8=n at h;rw[exec_While];refine fa (Ng rfl (CJ rfl (fun n s'=>∃loc H aV,b0 w.params B I ah ay aV H loc s'∧Step ah ρ s aV s'∧xy (fun loc H K=>iP C B.G loc x (cG C B.G loc x) H K) (fun loc H K=>b4 C B.G a loc H K) n loc H Q) ?_ n ⟨loc,H,ρ,r,.refl _ _ _,h⟩));clear h r;rintro n s' ⟨loc,H,aV,r,qS,h⟩
 induction n using ia with
 |zero=>exact h.elim
 |succ n=>
  show aO O w A ((whileTurn t body [] I).onRaise (fun x=>do noteFrame x I;theTreesLotGoes x)) _ s';refine qJ ?_;unfold whileTurn;refine b1 (cW ah loc H aV s' _ _ h r fun c aq bQ bB R bt bk=>?_);have cK:=r.step bk bt
  induction c using eo with
  |true=>
   refine b1 (az ah loc aq bQ bB _ _ R cK fun aH m8 be cv ik s2 Z dz h2 cm=>?_);have st:=(qS.trans bk.up).trans cm
   induction aH using rb.casesOn with
   |next=>
    induction ik using nD with
    |next=>exact cN (.inl ⟨rfl,n,jy n,m8,be,cv,dz,st,Z⟩)
    |_=>exact h2.elim
   |brk=>
    induction ik using nD with
    |brk=>exact cN (bn .next m8 be cv .next s2 Z dz trivial st)
    |_=>exact h2.elim
   |ret v=>
    induction ik using nD with
    |ret u=>exact cN (bn _ m8 be cv _ s2 Z dz h2 st)
    |_=>exact h2.elim
  |false=>exact b1 (cN (cN (bn .next loc aq bQ .next bB R cK trivial (qS.trans bk.up))))
section
open PySem.Builtin
section
variable {ch:bj}{b c:Array UInt8}{l h:Nat}{t u v:Tok}
theorem N2 {Q:aj×aj×aj→aS→Prop}(x:s.heap.IsSliceOf ch (.int l t) (.int h u) .none)(q:Q (rawInt l,rawInt h,.none) s):wpAny aA A (Bytes.sliceParts (.ref ch)) Q b2 s:=by refine gz x fun o ax aI hd=>?_;clear x;unfold Bytes.sliceParts;refine af (ib (x:=.none) ax hd rfl ?_);refine af (hq (a:=cg) (by first|rfl|simp) (nB (nE (show¬((cg==rawInt 0)=true) from d8) ?_)));refine af (ib (x:=.int l t) ax hd rfl (af (nB (nE (show¬((x6 _ _==cg)=true) from d8) ?_))));refine af (iR (T:="int") (x0 _ _ _) F.slot_int_index.lookup (nB (nE (show¬(By (E _)=true) from d8) (af (hq rfl (aX ?_))))));refine af (ib (x:=.int h u) ax hd rfl (af (nB (nE (show¬((x6 _ _==cg)=true) from d8) ?_))));exact af (iR (T:="int") (x0 _ _ _) F.slot_int_index.lookup (nB (nE (show¬(By (E _)=true) from d8) (af (hq rfl (aX (aX q)))))))
theorem IV (R:l≤h)(Z:h≤n):sliceBounds (E (l:Int)) (E (h:Int)) none n=((l:Int),(h:Int),1):=by
 have e:∀i:Nat,i≤n→(if(1:Int)>0 then max 0 (min (if(i:Int)<0 then(i:Int)+n else(i:Int)) n) else max (-1) (min (if(i:Int)<0 then(i:Int)+n else(i:Int)) ((n:Int)-1)))=i:=fun i R=>by rw[if_pos (by decide),if_neg (Int.not_lt.mpr (lf i)),Int.min_eq_left (lg.mpr R),Int.max_eq_right (lf i)]
 refine(?_:((if(1:Int)>0 then _ else _),(if(1:Int)>0 then _ else _),(1:Int))=_);rw[e l (e4 R Z),e h Z]
theorem Eo (R:l≤h):max (l:Int) (h:Int)=h:=Int.max_eq_right (lg.mpr R)
theorem Sx:typeLookup (.type "bytes") "__int__"=pure none:=by rw[jB,jA];kernel_rfl
theorem Sv:typeLookup (.type "bytes") "__float__"=pure none:=by rw[jB,jA];kernel_rfl
theorem Oe (R:l≤h)(Z:h≤b.size)(bv:l+c.size=h):(b.extract 0 l++c++b.extract h b.size).size=b.size:=by rw[Bm,Bm,Ql,Ql,q3 (e4 R Z),Nat.min_self,GR,bv,xR Z]
theorem aaT (x:s.heap.IsSliceOf ch (.int l t) (.int h u) .none)(e:s.heap.get? a=E (e6 b))(R:l≤h)(Z:h≤b.size)(bv:l+c.size=h)(hz:b.size≤sizeLine){Q:Unit→aS→Prop}
 (q:∀h' k,h'.get? a=E (e6 (b.extract 0 l++c++b.extract h b.size))→(∀d o,d≠a→s.heap.get? d=E o→h'.get? d=E o)→Q () {s with heap:=h',toks:=k}):aO O w A (setItem (.ref a) (.ref ch) (.bytes c v)) Q s:=by
 have ct:s.TypeIs (.ref ch) "slice":=let ⟨o,ax,aI,_⟩:=x;⟨o,ax,aI⟩;unfold setItem;refine eR (dJ (u6 (i0 e) (by decide) ?_));refine b1 (Na (name:=g6 "__setitem__") (i0 e) dV.aeO (by decide+kernel) dV.UD (dV.RM _ _ _) ?_);refine(?_:aO _ _ _ (Bytes.subscript? (.ref ch)>>=fun r=>_) _ s);refine dJ ?_;unfold Bytes.subscript?;refine af (iR ct G5 (aX (dJ (u8 ct ?_))));refine(?_:aO _ _ _ (Bytes.sliceParts (.ref ch)>>=fun r=>_) _ s);refine dJ (N2 x ?_);refine(?_:aO _ _ _ (isInstance (.bytes c v) (.type "bytearray")>>=fun r=>_) _ s);refine hy (a:=false) (by rw[show isInstance (.bytes c v) (.type "bytearray")=isSubtype (.type "bytes") (.type "bytearray") from rfl,nA];kernel_rfl) ?_;refine b1 (b1 (hy (vb O4) (cN (b1 (hy (vb Sx) (cN (b1 (hy (vb Sv) (cN ?_)))))))));refine cU (hq (a:=false) (by rw[show isInstance (.bytes c v) (.type "complex")=isSubtype (.type "bytes") (.type "complex") from rfl,nA];kernel_rfl) ?_);refine hy (a:=none) rfl<|dJ (iv ?_)
 refine(?_:aO _ _ _ (call (.type "bytearray") [.bytes c v]>>=fun r=>_) _ s);have jq:a≠s.heap.objs.size:=ny (ic e);have aI:c.size≤sizeLine:=e4 (e4 (bv▸Nat.le_add_left _ _) Z) hz;refine b1 (Nc aI fun tx aW uo=>?_);have ext:∀d o,s.heap.get? d=E o→tx.get? d=E o:=fun d o hL=>(uo.2 d (ny (ic hL))).trans (fx _ hL);have ja:tx.IsSliceOf ch (.int l t) (.int h u) .none:=let ⟨o,ax,r⟩:=x;⟨o,ext _ _ ax,r⟩;refine b1 (eR (cU (N2 (s:={s with heap:=tx}) ja ?_)))
 refine dJ (tb (s:={s with heap:=tx}) aW (dJ (tb (s:={s with heap:=tx}) (ext _ _ e) (hy (G4 (E (l:Int)) (E (h:Int)) none b.size (fun e=>nomatch e)) ?_))))
 rw[IV R Z];refine dJ (iv ?_);refine(?_:aO _ _ _ (if((c.size:Int) !=max (l:Int) (h:Int)-l)=true then _ else _) _ _);have hd:(c.size:Int)=max (l:Int) (h:Int)-l:=by rw[Eo R];lia
 refine rW (by rw[←hd,bne_self_eq_false];exact d8) ?_;refine(?_:aO _ _ _ (Bytes.write (.ref a) (fun b=>b.extract 0 l++c++b.extract (max (l:Int) (h:Int)).toNat b.size)>>=fun r=>_) _ _);rw[Eo R];refine dJ (Cy (s:={s with heap:=tx}) (ext _ _ e) ?_ fun ry aJ se=>?_)
 .exact(Oe R Z bv).symm▸hz
 .exact cN ⟨_,rfl,cN (q ry s.toks aJ fun d o hd hL=>(se.2 d hd).trans (ext d o hL))⟩
theorem ab9 {Q:aj×aj×aj→aS→Prop}(x:s.heap.IsSliceOf ch (.int l t) (.int h u) .none)(q:Q (rawInt l,rawInt h,.none) s):wpAny aA A (List.listSliceParts (.ref ch)) Q b2 s:=by refine gz x fun o ax aI hd=>?_;clear x;unfold List.listSliceParts;refine af (ib (x:=.none) ax hd rfl ?_);refine af (hq (a:=cg) (by first|rfl|simp) (nB (nE (show¬((cg==rawInt 0)=true) from d8) ?_)));refine af (ib (x:=.int l t) ax hd rfl (af (nB (nE (show¬((x6 _ _==cg)=true) from d8) ?_))));refine af (iR (T:="int") (x0 _ _ _) F.slot_int_index.lookup (nB (nE (show¬(By (E _)=true) from d8) (af (hq rfl (aX ?_))))));refine af (ib (x:=.int h u) ax hd rfl (af (nB (nE (show¬((x6 _ _==cg)=true) from d8) ?_))));exact af (iR (T:="int") (x0 _ _ _) F.slot_int_index.lookup (nB (nE (show¬(By (E _)=true) from d8) (af (hq rfl (aX (aX q)))))))
theorem acv (R:l≤h):(xs.toArray.extract 0 l++ys.toArray++xs.toArray.extract (max (l:Int) (h:Int)).toNat xs.toArray.size)=(xs.take l++ys++xs.drop h).toArray:=by rw[Eo R];apply Array.toList_inj.mp;rw[Gz,Gz,GA,GA,List.extract_eq_take_drop,List.extract_eq_take_drop];refine(?_:(xs.drop 0).take l++ys++(xs.drop h).take (xs.toArray.size-h)=_);rw[List.size_toArray,List.take_of_length_le (l:=xs.drop h) (sH List.length_drop)];rfl
theorem ZP {d:bj}(x:s.heap.IsSliceOf ch (.int l t) (.int h u) .none)(e:s.heap.get? a=E (listOf xs.toArray n))(hL:s.heap.get? d=E (listOf ys.toArray m))(jq:a≠d)
 (R:l≤h)(Z:h≤xs.length)(hz:xs.length+ys.length≤sizeLine){Q:Unit→aS→Prop}
 (q:∀h' k,h'.get? a=E (listOf (xs.take l++ys++xs.drop h).toArray k)→fK a s.heap h'→Q () {s with heap:=h'}):wpAny (model O w) A (setItem (.ref a) (.ref ch) (.ref d)) Q b2 s:=by
 have ct:s.TypeIs (.ref ch) "slice":=let ⟨o,ax,aI,_⟩:=x;⟨o,ax,aI⟩;have Yh:xs.toArray.size≤sizeLine:=e4 (sG _ _) hz;unfold setItem;refine gb (af (u6 (isList e).typeIs (by decide) ?_));refine af (mL (name:=g6 "__setitem__") (isList e).typeIs BD (hp BD (isList e).typeIs entry_list_setitem ?_ (args_list_setitem _ _ _)));refine(?_:wpAny _ _ (List.listSubscript? (.ref ch)>>=fun r=>_) _ _ s);refine af ?_;unfold List.listSubscript?;refine af (iR ct G5 (aX (af (u8 ct ?_))));refine(?_:wpAny _ _ (List.listSliceParts (.ref ch)>>=fun r=>_) _ _ s);refine af (ab9 x ?_);have az:¬List.listSameRef (.ref a) (.ref d)=true:=by simp[List.listSameRef,jq]
 refine e3 az ?_;unfold List.listAllItems;refine af (af (u8 (isList hL).typeIs ?_));unfold List.listItems;refine af (Ha hL rfl (aX ?_));refine af (af (Ha e rfl (aX (af (hq (G4 (E (l:Int)) (E (h:Int)) none xs.toArray.size (fun e=>nomatch e)) ?_)))));rw[IV R (by rw[List.size_toArray];exact Z)];refine af (iv ?_);refine(?_:wpAny _ _ (if List.listTooLong (xs.toArray.size+ys.toArray.size)=true then _ else _) _ _ _);refine e3 (by unfold List.listTooLong;rw[List.size_toArray,List.size_toArray,decide_eq_false (by lia)];exact d8) ?_;refine(?_:wpAny _ _ (List.listUpdate (.ref a) _>>=fun _=>_) _ _ _);refine af ?_;refine(?_:wpAny _ _ (updateSeq a (fun zs=>zs.extract 0 l++ys.toArray++zs.extract (max (l:Int) (h:Int)).toNat zs.size)) _ _ _);have hf:=acv (xs:=xs) (ys:=ys) R;have aJ:=l2 (Obj.mapSeq (fun zs=>zs.extract 0 l++ys.toArray++zs.extract (max (l:Int) (h:Int)).toNat zs.size)) e rfl;refine x4 e rfl ?_ Yh ?_
 .refine(by rw[←hf];exact⟨_,rfl⟩:∃k,Obj.mapSeq (fun zs=>zs.extract 0 l++ys.toArray++zs.extract (max (l:Int) (h:Int)).toNat zs.size) (listOf xs.toArray n)=listOf (xs.take l++ys++xs.drop h).toArray k).elim fun k cJ=>?_;exact af (x2 (aX ⟨_,rfl,aX (q _ _ (aJ.trans (congrArg E cJ)) (kp ..))⟩))
 .rw[hf,List.size_toArray,List.length_append,List.length_append,List.length_take,List.length_drop];refine Bu (e4 ?_ hz);rw[q3 (e4 R Z)];lia
end
inductive yx (H:List an)(K:List an→Prop):V→V→V→Prop
 |li (l x:Nat) (vs:List V) (v:V):H[l]? =E (.list vs)→x<vs.length→(x:Int)<2^62→K (H.set l (fs (vs.set x v)))→yx H K (.ref l) (.int x) v
 |io (l x:Nat) (xs:List Int) (y:Int):H[l]? =E (.ints xs)→x<xs.length→(x:Int)<2^62→K (H.set l (.ints (xs.set x y)))→yx H K (.ref l) (.int x) (.int y)
 |hZ (l:Nat) (es:List (V×V)) (n:Nat) (b v:V):H[l]? =E (.dict es n)→px b v es (fun cT m=>K (H.set l (.dict cT (n+m))))→yx H K (.ref l) b v
theorem aeo {o b:V}{K:List an→Prop}(h:Fk o b v H K):yx H K o b v:=by
 induction o using V.casesOn with
 |ref l=>
  unfold Fk at h;dsimp only at h;generalize e:H[l]? =f9 at h
  induction f9 using ez with
  |none=>exact h.elim
  |some ob=>induction ob using an.casesOn with
   |«list» vs=>induction b using V.casesOn with
    |int x=>have h:=j2 h;refine dq (jV h.1.1) fun n cj=>?_;subst cj;exact .li l n vs v e (je.mp h.1.2.1) h.1.2.2 h.2
    |_=>exact h.elim
   |«ints» xs=>induction b using V.casesOn with
    |int x=>induction v using V.casesOn with
     |int y=>have h:=j2 h;refine dq (jV h.1.1) fun n cj=>?_;subst cj;exact .io l n xs y e (je.mp h.1.2.1) h.1.2.2 h.2
     |_=>exact h.elim
    |_=>exact h.elim
   |dict es n=>exact .hZ l es n b v e h
   |_=>exact h.elim
 |_=>exact fv h
inductive Ck (H:List an)(K:List an→Prop):V→V→V→V→Prop
 |cB (a i j:Nat) (b c:List Int):i≤j→j≤b.length→i+c.length=j→H[a]? =E (.cB b)→K (H.set a (.cB (b.take i++c++b.drop j)))→Ck H K (.ref a) (.int i) (.int j) (.bytes c)
 |io (a m i j:Nat) (b c:List Int):i≤j→j≤b.length→b.length+c.length≤1000000→c1 a m=false→H[a]? =E (.ints b)→H[m]? =E (.ints c)→K (H.set a (.ints (b.take i++c++b.drop j)))→Ck H K (.ref a) (.int i) (.int j) (.ref m)
theorem aeq {o lo hi:V}{K:List an→Prop}(h:OP o lo hi v H K):Ck H K o lo hi v:=by
 induction lo using V.casesOn with
 |int l=>induction hi using V.casesOn with
  |int r=>induction o using V.casesOn with
   |ref a=>
    have h:=j2 h;refine dq (jV h.1.1) fun i cj=>?_;subst cj;refine dq (jV (q1 h.1.1 h.1.2.1)) fun j cj=>?_;subst cj;have R:=lg.mp h.1.2.1;replace h:=h.2;generalize e:H[a]? =f9 at h
    induction f9 using ez with
    |none=>cases v<;>exact h.elim
    |some ob=>induction ob using an.casesOn with
     |cB b=>induction v using V.casesOn with
      |bytes c=>have h:=fM h;have g:=gD.mp h.1;rw[i1,decide_eq_true_iff] at g;exact .cB a i j b c R (lg.mp g.1) (fQ g.2▸xR R) e h.2
      |_=>exact h.elim
     |«ints» b=>induction v using V.casesOn with
      |ref m=>
       dsimp only at h;generalize aJ:H[m]? =eC at h
       induction eC using ez with
       |none=>exact h.elim
       |some eC=>induction eC using an.casesOn with
        |«ints» c=>have h:=j2 h;exact .io a m i j b c R (lg.mp h.1.1) h.1.2.1 h.1.2.2 e aJ h.2
        |_=>exact h.elim
      |_=>exact h.elim
     |_=>cases v<;>exact h.elim
   |_=>exact fv h
  |_=>exact fv h
 |_=>exact fv h
theorem TD {o b:V}{K:List an→Prop}(h:CT o b H K):∃l es n,o=.ref l∧H[l]? =E (.dict es n)∧qb b es fun cT=>K (H.set l (.dict cT (n+1))):=by
 induction o using V.casesOn with
 |ref l=>
  unfold CT at h;dsimp only at h;generalize e:H[l]? =f9 at h
  induction f9 using ez with
  |none=>exact h.elim
  |some ob=>induction ob using an.casesOn with
   |dict es n=>exact⟨l,es,n,rfl,e,h⟩
   |_=>exact h.elim
 |_=>exact fv h
section
open PySem.Builtin
theorem Mz {k:Int}{t:Tok}{v:aj}{Q:Unit→aS→Prop}(e:s.heap.get? a=E (listOf xs.toArray n))(bl:0≤k)(aL:k<xs.length)(hz:k<2^62)
 (q:∀h',h'.get? a=E (listOf (xs.set k.toNat v).toArray n)→fK a s.heap h'→Q () {s with heap:=h'}):wpAny (model O w) A (setItem (.ref a) (.int k t) v) Q eY s:=by
 unfold setItem;refine gb (af (u6 (isList e).typeIs (by decide) ?_));refine af (mL (name:=g6 "__setitem__") (isList e).typeIs BD (hp BD (isList e).typeIs entry_list_setitem ?_ (args_list_setitem _ _ _)));refine(?_:wpAny _ _ (List.listSubscript? (.int k t)>>=_) _ _ s);refine af (wpAny_listSubscript_int (fitsIndex_of bl (by lia)) (dq (jV bl) fun j cj=>?_));clear bl hz;subst cj;have co:j<xs.toArray.size:=by simp only[List.size_toArray];lia
 have o6:xs.toArray[j]? =E xs.toArray[j]:=oF co;refine(?_:wpAny _ _ ((seqItemAt a j>>=fun r=>pure (r.map (j, ·)))>>=_) _ _ s);refine af (af (wpAny_seqItemAt e rfl (aX ?_)));rw[o6];refine(?_:wpAny _ _ (setSeqItemAt a j v>>=_) _ _ s);have aJ:=l2 (Obj.mapSeq (·.setIfInBounds j v)) e rfl;have cJ:Obj.mapSeq (·.setIfInBounds j v) (listOf xs.toArray n)=listOf (xs.set j v).toArray n:=by
  have:xs.toArray.setIfInBounds j v=(xs.set j v).toArray:=by simp
  refine(?_:Obj.mk _ _ (.seq (xs.toArray.setIfInBounds j v) (if(xs.toArray.setIfInBounds j v).size==xs.toArray.size then n else n+1)) _=_);rw[this];simp
 exact af (wpAny_setSeqItemAt e rfl (aX ⟨.none,rfl,aX (q _ (aJ.trans (congrArg E cJ)) (kp ..))⟩))
theorem bK.set {x:aj}(agQ:aN ρ h v x):∀{xs:List aj} {i:Nat},bK ρ h vs xs→bK ρ h (vs.set i v) (xs.set i x):=by
 induction vs with
 |nil=>intro xs i r;refine r.iK ?_;clear r;exact .nil
 |cons u vs aF=>
  intro xs i r;refine r.gS fun _ _ a r=>?_
  induction i using ia with
  |zero=>exact .cons agQ r
  |succ i=>exact .cons a (aF r)
theorem ints_set {i:Int}{t:Tok}{is:List Int}(h:IntsAre xs is):∀{j:Nat},IntsAre (xs.set j (.int i t)) (is.set j i):=by
 induction h with
 |nil=>exact .nil
 |cons n u r aF=>intro j;induction j using ia with
  |zero=>exact .cons _ _ r
  |succ j=>exact .cons _ _ aF
theorem ae9 (ok:B.Ok)(bx:A.units+20<cLine){o i:aY}{x y z:aG}(aI:lD e=false)(aE:qs i=false)(he:cV O w B C A I ay e x)(ax:cV O w B C A I ay o y)(hi:cV O w B C A I ay i z):
 hI O w B C A I ay (.Assign [.Subscript o i p] e q) (.hK y z x):=
 fun ah loc H ρ s Q K h r k=>Cu rfl aI (he ah loc H ρ s _ _ h r fun v aq bQ u bB R bt eD bk=>by
  have cK:=r.step bk bt;rw[arm_assign_Subscript];refine b1 (eR (ax ah loc aq bQ bB _ _ R cK fun a be cv N0 s2 Z cr lW cm=>?_));have dz:=cK.step cm cr;refine b1 (eR (hi ah loc be cv s2 _ _ Z dz fun b ei ga YL eS bv f7 xu ft=>?_));have hD:=dz.step ft f7;have xv:=lW.mono ft.fW cr.dg;have Go:=(eD.mono cm.fW bt.dg).mono ft.fW cr.dg;refine fa (dJ (gb ?_));have st:=(bk.trans cm).trans ft;have fin:∀{bp:List an} {s':aS} {hx:List aj},Q .next loc bp→bz w.params ga bp s'.heap→Step [] ga eS ga s'→aO O w A (release hx []) (fun _=>K .next) s':=fun a9 eL el=>
   cU (BF (k .next loc _ ga .next _ a9 (hD.step el eL) trivial ((st.trans el).up)))
  have cZ:=aeo bv;clear bv;clear R eD lW;cases cZ with
  |li l uN vs _ e g bM a9=>
   refine xv.hl ?_;intro c ar;refine xu.fh ?_;intro t;refine(f7.list ar e).elim fun bY o'=>o'.elim fun n o'=>Mz o'.1 (lf uN) (je.mpr (o'.2.length▸g)) bM fun h' cM eJ=>?_;have el:Step [] ga eS ga {eS with heap:=h'}:=.update eS.toks (List.mem_of_getElem? ar) eJ cM
   exact fin a9 (f7.update ar eJ cM (tX ((bK.set Go o'.2).mono el.fW f7.dg) n)) el
  |io l uN xs Gx e g bM a9=>
   refine xv.hl ?_;intro c ar;refine xu.fh ?_;intro t;refine Go.fh ?_;intro mA;refine(f7.ints ar e).elim fun bY o'=>o'.elim fun n o'=>Mz o'.1 (lf uN) (je.mpr (o'.2.length.symm▸g)) bM fun h' cM eJ=>?_;have el:Step [] ga eS ga {eS with heap:=h'}:=.update eS.toks (List.mem_of_getElem? ar) eJ cM
   exact fin a9 (f7.update ar eJ cM (.ints (ints_set o'.2))) el
  |hZ l es n _ _ e bv=>
   refine xv.hl ?_;intro c ar;refine(f7.dict ar e).elim fun xs d=>?_;have bv:=mU bv;have aB:=gD.mp bv.1;refine aep d.1 d.2.1 d.2.2.1 d.2.2.2 aB.1 (d5 aB.2) xu Go (by lia) bv.2 fun cT m fc h' t g g1 bM g3 ek ht=>?_;have el:Step [] ga eS ga {eS with heap:=h',toks:=t}:=.update t (List.mem_of_getElem? ar) bM g1
   exact fin g (f7.update ar bM g1 (.dict (g3.mono el.fW f7.dg) ek ht)) el)
end
end
theorem bz.Gl (x:bz P ρ H h){i:Nat}{o:an}(aC:ρ[i]? =E a)
 (aE:∀d o,d≠a→h.get? d=E o→h'.get? d=E o)(he:h'.get? a=E ob)(r:eF P ρ h' o ob):bz P ρ (H.set i o) h':=by
 have hm:a∈ρ:=List.mem_of_getElem? aC;have p:eK ρ ρ h h':=⟨⟨[],(List.append_nil _).symm,fun _ h=>nomatch h⟩,fun b o' e az _=>aE b o' (fun q=>az (q▸hm)) e⟩;refine⟨by simp[x.len],x.eX,fun j o' b ax az=>?_⟩;rcases get_set ax with⟨rfl,rfl⟩|⟨co,ax⟩
 .rw[aC] at az;obtain rfl:=cF az;exact⟨ob,he,r⟩
 .refine dr (x.at_ j o' b ax az) fun hP R Z=>⟨hP,aE b hP ?_ R,Z.mono p x.dg⟩;clear aE he hm;rintro rfl;exact co (rZ x.eX aC az)
theorem Step.Gl (t:Nat)(aC:a∈ρ)(aE:∀d o,d≠a→s.heap.get? d=E o→h'.get? d=E o)(he:h'.get? a=E ob):Step [] ρ s ρ {s with heap:=h',toks:=t}:=by
 refine⟨⟨[],(List.append_nil _).symm,fun _ h=>nomatch h⟩,fun d o hL hd _=>aE d o (fun q=>hd (q▸aC)) hL,fun d hL=>?_,rfl,rfl⟩
 by_cases q:d=a
 .clear aC aE;subst q;rw[he] at hL;exact py hL
 .cases bT:s.heap.get? d with
  |none=>rfl
  |some o=>rw[aE d o q bT] at hL;exact py hL
theorem abw {b c:Array UInt8}{i:Nat}:d1 (b.extract 0 i++c++b.extract j b.size)=(d1 b).take i++d1 c++(d1 b).drop j:=by unfold d1;simp only[Gz,GA,List.extract_eq_take_drop,GR,List.drop_zero,List.map_append,List.map_take,List.map_drop];rw[List.take_of_length_le (l:=(b.toList.map _).drop j) (by simp)]
theorem afa {o lo hi:aY}{x y Qh Qg:aG}{pp:Pos}(aI:lD e=false)(he:cV O w B C A I ay e x)(ax:cV O w B C A I ay o y)(ar:cV O w B C A I ay lo Qh)(bD:cV O w B C A I ay hi Qg):
 hI O w B C A I ay (.Assign [.Subscript o (.Slice (E lo) (E hi) none pp) p] e q) (.pZ y Qh Qg x):=
 fun ah loc H ρ s Q K h r k=>Cu rfl aI (he ah loc H ρ s _ _ h r fun v aq bQ u bB R bt eD bk=>by
  have cK:=r.step bk bt;rw[arm_assign_Subscript];refine b1 (eR (ax ah loc aq bQ bB _ _ R cK fun a be cv N0 s2 Z cr lW cm=>?_));have dz:=cK.step cm cr;refine b1 (eR (M7 (ar ah loc be cv s2 _ _ Z dz fun b ei ga qD eS bv f7 mE ft=>?_)));have hD:=dz.step ft f7;refine bD ah loc ei ga eS _ _ bv hD fun c pR oE hz i6 cZ n0 P1 kg=>?_;have qM:=hD.step kg n0;have AW:=ft.trans kg;have P4:=lW.mono AW.fW cr.dg;have P2:=mE.mono kg.fW f7.dg;have PY:=eD.mono (cm.trans AW).fW bt.dg;have st:=(bk.trans cm).trans AW;clear bk cm ft kg AW cK dz hD bt cr f7 lW eD mE ar he ax bD r h R Z bv;refine cU (aX ?_);have uw:Step [] oE i6 oE {i6 with heap:=i6.heap.push {cls:=.type "slice",data:=.fields #[qD,hz,.none]}}:=.push i6.toks
  have lA:bz w.params oE pR (i6.heap.push {cls:=.type "slice",data:=.fields #[qD,hz,.none]}):=n0.push _;have qZ:=QC i6.heap qD hz .none;have xq:=PY.mono uw.fW n0.dg;have r7:=qM.step uw lA;replace st:=st.trans uw;clear PY qM uw n0;refine fa ?_;show aO O w A _ _ {i6 with heap:=i6.heap.push {cls:=.type "slice",data:=.fields #[qD,hz,.none]}}
  revert qZ lA xq r7 st;generalize i6.heap.push {cls:=.type "slice",data:=.fields #[qD,hz,.none]}=gV;intro lA qZ xq r7 st;have fin:∀{bp:List an} {s':aS} {hx:List aj},Q .next loc bp→bz w.params oE bp s'.heap→Step [] oE {i6 with heap:=gV} oE s'→aO O w A (release hx []) (fun _=>K .next) s':=fun a9 eL el=>
   cU (BF (k .next loc _ oE .next _ a9 (r7.step el eL) trivial ((st.trans el).up)))
  clear r7 st k;cases aeq cZ with
  |cB l i j bs cs g1 bM g3 e a9=>
   refine P4.hl ?_;intro ad lx;revert qZ;refine P2.fh ?_;intro t;refine P1.fh ?_;intro mA qZ;refine oA xq.CC fun ti ahp b9 eN eH=>?_;clear eN;clear cZ;subst b9;clear xq;subst eH;refine(lA.cB lx e).elim fun R8 o'=>?_;rw[pf] at g3;have JW:j≤R8.size:=by rw[←pf,o'.2.2];exact bM
   refine b1 (eR (aaT qZ o'.1 g1 JW g3 (o8 o'.2.1) fun h' gI cM ext=>fin a9 (lA.Gl lx ext cM ?_) (Step.Gl gI (List.mem_of_getElem? lx) ext cM)));rw[←o'.2.2,←abw];exact .cB _ (by rw[Oe g1 JW g3];exact o'.2.1)
  |io l m i j bs cs g1 bM g3 ek e em a9=>
   refine P4.hl ?_;intro ad lx;revert qZ;refine P2.fh ?_;intro t;refine P1.fh ?_;intro mA qZ;refine xq.hl ?_;intro Rh o4;refine(lA.ints lx e).elim fun xs a=>a.elim fun n a=>(lA.ints o4 em).elim fun ys b=>b.elim fun kG b=>?_;have jq:ad≠Rh:=fun q=>by have:=rZ lA.eX lx (q▸o4);rw[this,pH] at ek;exact j9 ek
   rw[←a.2.length,←b.2.length] at g3;refine dJ (gb (ZP qZ a.1 b.1 jq g1 (a.2.length.symm▸bM) (o8 g3) fun h' gI cM eJ=>?_));have el:Step [] oE {i6 with heap:=gV} oE {i6 with heap:=h'}:=.update i6.toks (List.mem_of_getElem? lx) eJ cM
   exact fin a9 (lA.update lx eJ cM (.ints (((a.2.take _).append b.2).append (a.2.drop _)))) el)
theorem afe (bx:A.units+20<cLine){o i:aY}{y z:aG}(ax:cV O w B C A I ay o y)(hi:cV O w B C A I ay i z):hI O w B C A I ay (.Delete [.Subscript o i p] q) (.del y z):=
 fun ah loc H ρ s Q K h r k=>by
  rw[arm_exec_Delete];refine fa (b1 ?_);rw[arm_deleteEach_cons];refine b1 ?_;rw[arm_delete_Subscript];refine b1 (ax ah loc H ρ s _ _ h r fun a be cv N0 s2 Z cr lW cm=>?_);have dz:=r.step cm cr;refine b1 (eR (hi ah loc be cv s2 _ _ Z dz fun b ei ga YL eS bv f7 xu ft=>?_));have hD:=dz.step ft f7;have xv:=lW.mono ft.fW cr.dg;have st:=cm.trans ft;refine md (TD bv) fun l es n bT=>hJ bT fun eN e cZ=>?_;clear bT;subst eN;refine xv.hl fun c ar=>xC (f7.dict ar e) fun xs jO cS aD hZ=>b8 (mU cZ) fun aB cZ=>?_;rw[fJ,lY] at aB;refine fa (dJ (gb (TB jO cS aD hZ aB.1 aB.2 xu (by lia) cZ fun cT fc h' t g g1 bM g3 ek ht=>?_)));have el:Step [] ga eS ga {eS with heap:=h',toks:=t}:=.update t (List.mem_of_getElem? ar) bM g1
  exact cU (BF (cN (cN (k .next loc _ ga .next _ g (hD.step el (f7.update ar bM g1 (.dict (g3.mono el.fW f7.dg) ek ht))) trivial ((st.trans el).up)))))
theorem On {a b:Nat}(h:V.ref a=V.ref b):a=b:=by injection h
theorem Sw:typeLookup (.type "bytes") (dunderI "add")=pure none:=by rw[jB,jA];kernel_rfl
theorem RW {a b:V}{x:aj}{Q:bE}{K:aj→aS→Prop}(h:vu op a b H Q)(am:bz w.params ρ H s.heap)(eD:aN ρ s.heap a x)(jT:aN ρ s.heap b y)
 (q:∀v y s',Q v H→aN ρ s'.heap v y→bz w.params ρ H s'.heap→Step [] ρ s ρ s'→K y s'):wpAny (model O w) A (inplaceOp op x y) K eY s:=by
 induction op using QD with
 |Add=>_
 |_=>exact fv h
 induction a using V.casesOn with
 |int i=>induction b using V.casesOn with
  |int j=>refine eD.fh ?_;intro t;refine jT.fh ?_;intro u;exact AutoIntOps.iadd_0 (q _ _ _ h (.int _ _) am .toks)
  |_=>exact fv h
 |bytes a=>induction b using V.casesOn with
  |bytes b=>
   refine eD.oX (aA:=fun a x=>vu .Add (.bytes a) (.bytes b) H Q→wpAny (model O w) A (inplaceOp .Add x y) K eY s) (fun a t _ h=>?_) h;refine jT.oX (aA:=fun b y=>vu .Add (.bytes (d1 a)) (.bytes b) H Q→wpAny (model O w) A (inplaceOp .Add (.bytes a t) y) K eY s) (fun b u _ h=>?_) h;have h:=j2 h;rw[pf,pf] at h;have key:∀mA k,K (.bytes (a++b) mA) {s with toks:=k}:=fun mA k=>q _ _ _ h.2 (by
    have e:d1 a++d1 b=d1 (a++b):=by simp[d1]
    rw[e];exact .bytes _ _ (by rw[Bm];exact h.1)) am .toks
   refine iconcat_gives (pK s a t) (pK s b u) Sw KBy.noFill_bytes_add KBy.seq_bytes_add FB.slot_bytes_add FB.entry_bytes_add (FB.args_bytes_add_2 _ _) (KBy.gives_bytes_add (KBy.tooLong_not (by lia))) ?_
   by_cases az:a.isEmpty=true
   .rw[if_pos az];have e:a=#[]:=Array.isEmpty_iff.1 az;have h':=key u s.toks;rw[e,Array.empty_append] at h';exact h'
   .rw[if_neg az]
    by_cases aI:b.isEmpty=true
    .rw[if_pos aI];have e:b=#[]:=Array.isEmpty_iff.1 aI;have h':=key t s.toks;rw[e,Array.append_empty] at h';exact h'
    .rw[if_neg aI];exact⟨by rw[Bm];exact o8 h.1,key s.toks (s.toks+1)⟩
  |_=>exact fv h
 |_=>exact fv h
theorem ZT {i:Nat}{x:Str}(r:b0 w.params B I ah ay ρ H loc s)(aR:ay[i]? =E x)(e:loc[i]? =E v)(bx:v≠.aQ)
 (h:∀y,aN ρ s.heap v y→Q y s):wpAny (model O w) A (loadName I x) Q eY s:=by
 refine dr (r.ck.k4 i x v aR e bx) fun gC k4 bV=>?_;have k:=h gC bV;rcases k4 with⟨ar,m,aL,hm⟩|⟨ar,c,o,aI,ax,kC⟩|⟨ar,aL,c,o,aI,ax,kC⟩
 .exact wpAny_loadName_local r.ck.kind ar aL hm k
 .exact wpAny_loadName_cell r.ck.kind ar aI ⟨o,ax,kC⟩ k
 .exact wpAny_loadName_free r.ck.kind ar aI ⟨o,ax,kC⟩ k aL
theorem afc {x:Str}{i:Nat}{z:aG}(cu:ay[i]? =E x)(c0:pY I x)(he:cV O w B C A I ay e z):hI O w B C A I ay (.AugAssign (.Name x p) op e q) (.aug i op z):=
 fun ah loc H ρ s Q K h r k=>by show aO _ _ _ (do standAt p;let EW←loadName I x;let v←holding [EW] (eval e I);standAt q;let new←operate [EW,v] (inplaceOp op EW v);standAt p;bindName I x new;pure .next) K s;refine gz (Mu (K:=fun a=>cG C B.G loc z H fun b aq=>vu op a b aq fun v be=>Q .next (loc.set i v) be) h) fun a iX bx h=>fa (dJ (ZT r cu iX bx fun ahx eD=>b1 (eR (he ah loc H ρ s _ _ h r fun b aq bQ ahy bB R bt jT bk=>?_))));have cK:=r.step bk bt;refine fa (b1 (Am (cU (RW R bt (eD.mono bk.fW r.am.dg) jT fun v y s2 a9 c6 cr cm=>?_))));exact fa (dJ (wpAny_bindName (ux cu c0 (cK.step cm cr) c6 fun eS hD ft _=>cN (k .next _ aq bQ .next eS a9 hD trivial ((bk.up.trans cm.up).trans ft)))))
structure Ib (O:hS)(w:fk)(A:fw)(I:Env)(name:Str)(p:Pos)(es:List aY)(Q:aj→aS→Prop)(gh:aj)(s:aS)(aT id:String):Prop where
 ab4:PlainAttrs aT
 slot:Slot aT name id
 ty:typeOf (.builtin id)=pure (.type "method_descriptor")
 is:s.TypeIs gh aT
 eX:∀a,gh=.ref a→∃ob,s.heap.get? a=E ob∧ob.dict=none
 run:aO O w A (spliced (backTo p (starEach es I))) (fun vs s'=>aO O w A (call (.builtin id) (gh::vs)) Q s') s
theorem afA {es:List aY}(a8:es.all jS=true):(backTo p (starEach es I)).all (fun x=> !x.1)=true:=by
 induction es with
 |nil=>rfl
 |cons e r aF=>have a8:=gD.mp a8;rw[ov a8.1];exact aF a8.2
theorem Nd {o:aY}{es:List aY}(az:oV o=true)(ar:(iD.endLine==p.line)=true)(a8:es.all jS=true)(aL:es.length<29)
 (h:aO O w A (eval o I) (fun gh bC=>∃aT id,Ib O w A I name p es Q gh bC aT id) s):aO O w A (eval (.Call (.Attribute o name iD) es [] p) I) Q s:=by
 have W5:attributeBase o name I (eval o I)=eval o I:=by clear h;induction o using jW<;>first|rfl|exact dZ az
 rw[arm_eval_Call,W5];refine b1 (dH h fun gh bC g=>g.elim fun aT g=>g.elim fun id g=>fa ?_);have Xy:methodCallForm (es.length+([]:List Keyword).length) (backTo p (starEach es I)) (backToKw p (keywordEach [] I))=true:=by unfold methodCallForm;rw[afA a8];refine(?_:(true&&true&&decide (es.length+0+0<30))=true);rw[decide_eq_true (GL aL:es.length+0+0<30)];rfl
 have X1:methodCallPos true o I iD p=pure p:=by unfold methodCallPos;simp[ar]
 unfold methodCall;rw[Xy];exact dJ (gb (getMethod_builtin g.is g.ab4 g.slot g.ty g.eX (hy X1 (Nb (first:=[gh]) a8 (dH g.run fun vs s' h'=>⟨D6,h'⟩)))))
theorem IA {v:aj}(e:s.heap.get? a=E (listOf xs.toArray n))(hz:xs.length≤sizeLine)
 (q:∀h',h'.get? a=E (listOf (xs++[v]).toArray (n+1))→fK a s.heap h'→Q .none {s with heap:=h'}):wpAny (model O w) A (call (.builtin "list.append") [.ref a,v]) Q eY s:=by
 refine hp slot_list_append (isList e).typeIs entry_list_append ?_ (args_list_append _ _);refine(?_:wpAny _ _ (updateSeq a (·.push v)>>=fun _=>ret .none) _ _ s);refine af ?_;have aJ:=l2 (Obj.mapSeq (·.push v)) e rfl;have cJ:Obj.mapSeq (·.push v) (listOf xs.toArray n)=listOf (xs++[v]).toArray (n+1):=by
  have:xs.toArray.push v=(xs++[v]).toArray:=by simp
  refine(?_:Obj.mk _ _ (.seq (xs.toArray.push v) (if(xs.toArray.push v).size==xs.toArray.size then n else n+1)) _=_);rw[this];simp
 exact x4 e rfl (aX ⟨.none,rfl,q _ (aJ.trans (congrArg E cJ)) (kp ..)⟩) (by simpa using hz) (by simpa using hz)
theorem J0 {d:bj}{xs:List c3}{c2:List aj}{yZ:aj}{G:Option V→Prop}(hm:(d==sysModules)=false)(ax:s.heap.get? d=E (dictOf xs n))
 (cS:dc w.params ρ s.heap es xs)(aD:∀e∈es,bU 4 e.1=true)(hd:eE es)(aB:bU 4 k=true)(bV:aN ρ s.heap k y)(bx:A.units+6<cLine)(b6:lu k es G)(am:(c2=[]∧yZ=.none)∨c2=[yZ])
 (cj:∀v x t,G (E v)→aN ρ s.heap v x→Q x {s with toks:=t})(b9:∀t,G dn→Q yZ {s with toks:=t}):wpAny (model O w) A (call (.builtin "dict.get") (.ref d::y::c2)) Q eY s:=by
 rcases am with g|g
 .obtain rfl:=g.1;obtain rfl:=g.2;refine hp PySem.F.slot_dict_get (fq ax) PySem.F.entry_dict_get ?_ (PySem.F.args_dict_get_2 _ _);unfold Builtin.«dict.get» Builtin.Dict.keyAndDefault;refine af (af (q5 (fq ax) ?_));refine(?_:wpAny _ _ (pure (d,y,none)) _ _ s);exact aX (af (yY ax cS aD hd aB bV (tH bx (by lia)) b6 (fun v x t g r=>aX ⟨_,rfl,cj v x t g r⟩) fun t g=>af (wpAny_missed_other hm (aX ⟨_,rfl,b9 t g⟩))))
 .subst g;refine hp PySem.F.slot_dict_get (fq ax) PySem.F.entry_dict_get ?_ (PySem.F.args_dict_get_3 _ _ _);unfold Builtin.«dict.get» Builtin.Dict.keyAndDefault;refine af (af (q5 (fq ax) ?_));refine(?_:wpAny _ _ (pure (d,y,E yZ)) _ _ s);exact aX (af (yY ax cS aD hd aB bV (tH bx (by lia)) b6 (fun v x t g r=>aX ⟨_,rfl,cj v x t g r⟩) fun t g=>af (wpAny_missed_other hm (aX ⟨_,rfl,b9 t g⟩))))
inductive nK (H:List an)(l k:Nat):Prop
 |li (vs:List V):H[l]? =E (.list vs)→k=m6→nK H l k
 |io (xs:List Int):H[l]? =E (.ints xs)→k=m6→nK H l k
 |hZ (es:List (V×V)) (n:Nat):H[l]? =E (.dict es n)→k=qv→nK H l k
theorem Es {a:V}{k:Nat}{aA:V→Prop}(h:wM a k H=true)(f:∀l,nK H l k→aA (.ref l)):aA a:=by
 induction a using V.casesOn with
 |ref l=>
  refine f l ?_;unfold wM at h;dsimp only at h;generalize e:H[l]? =f9 at h
  induction f9 using ez with
  |none=>exact hA h
  |some o=>induction o using an.casesOn with
   |«list» vs=>exact .li vs e (fQ h)
   |«ints» vs=>exact .io vs e (fQ h)
   |dict es n=>exact .hZ es n e (fQ h)
   |_=>exact hA h
 |_=>exact hA h
theorem vq:m6≠qv:=by decide+kernel
inductive x9 (H:List an)(l:Nat)(K:bE):List V→Prop
 |li (bY:List V) (v:V):H[l]? =E (.list bY)→bY.length≤1000000→K .none (H.set l (.list (bY++[v])))→x9 H l K [v]
 |io (xs:List Int) (x:Int):H[l]? =E (.ints xs)→xs.length≤1000000→K .none (H.set l (.ints (xs++[x])))→x9 H l K [.int x]
 |No (v:V):H[l]? =E (.ints [])→K .none (H.set l (.list [v]))→x9 H l K [v]
theorem aaA {l:Nat}{args:List V}(m2:nK H l m6)(h:tW (.ref l) args H K):x9 H l K args:=by
 unfold tW at h;dsimp only at h;cases m2 with
 |hZ es n e aB=>exact absurd aB vq
 |li vs e _=>
  rw[e] at h
  induction args using List.casesOn with
  |nil=>exact h.elim
  |cons v r=>induction r using List.casesOn with
   |nil=>exact .li vs v e (j2 h).1 (j2 h).2
   |cons=>exact h.elim
 |io xs e _=>
  rw[e] at h
  induction args using List.casesOn with
  |nil=>clear e;cases xs<;>exact h.elim
  |cons v r=>induction r using List.casesOn with
   |cons=>clear e;cases v<;>cases xs<;>exact h.elim
   |nil=>induction v using V.casesOn with
    |int i=>cases xs<;>exact .io _ i e (j2 h).1 (j2 h).2
    |_=>cases xs<;>first|exact h.elim|exact .No _ e h
inductive B1 (H:List an)(l:Nat)(K:bE):List V→Prop
 |one (es:List (V×V)) (n:Nat) (i:V):H[l]? =E (.dict es n)→jK i es (fun r=>K (r.getD .none) H)→B1 H l K [i]
 |two (es:List (V×V)) (n:Nat) (i d:V):H[l]? =E (.dict es n)→jK i es (fun r=>K (r.getD d) H)→B1 H l K [i,d]
theorem aaB {l:Nat}{args:List V}(m2:nK H l qv)(h:tW (.ref l) args H K):B1 H l K args:=by
 unfold tW at h;dsimp only at h;cases m2 with
 |li _ _ aB=>exact absurd aB.symm vq
 |io _ _ aB=>exact absurd aB.symm vq
 |hZ es n e _=>
  rw[e] at h
  induction args using List.casesOn with
  |nil=>exact h.elim
  |cons v r=>induction r using List.casesOn with
   |nil=>exact .one es n v e h
   |cons d r=>induction r using List.casesOn with
    |nil=>exact .two es n v d e h
    |cons=>exact h.elim
theorem bK.snoc (c6:aN ρ h v y){a:List V}:∀{c:List aj},bK ρ h a c→bK ρ h (a++[v]) (c++[y]):=by
 induction a with
 |nil=>intro c r;exact r.iK (.cons c6 .nil)
 |cons u a aF=>intro c r;exact r.gS fun z zs x r=>.cons x (aF r)
theorem type_dict_get:typeOf (.builtin "dict.get")=pure (.type "method_descriptor"):=by show builtinType _=_;rw[builtinType_eq_fast];kernel_rfl
theorem aea (ok:B.Ok)(bx:A.units+20<cLine){o:aY}{x:aG}{es:List aY}{xs:gQ}(DK:name="append"∨name="get")(az:oV o=true)(ar:(iD.endLine==p.line)=true)(a8:es.all jS=true)(aL:es.length<29)
 (ax:cV O w B C A I ay o x)(aE:oR O w B C A I ay es xs):cV O w B C A I ay (.Call (.Attribute o name iD) es [] p) (.lH x (a7 name) xs):=fun ah loc H ρ s Q K h r q=>by
 refine Nd az ar a8 aL (ax ah loc H ρ s _ _ h r fun a aq bQ gh bB R bt lW bk=>?_);have cK:=r.step bk bt;have R:=mU R;have args:=fun(pX:List aj→aS→Prop) (a9:∀vs be cv ys s2,ao (wM a (a7 name) be) (tW a vs be Q) False→bz w.params cv be s2.heap→bK cv s2.heap vs ys→Step [] bQ bB cv s2→pX ys s2)=>
  aE ah loc aq bQ bB _ pX p R.2 cK fun vs be cv ys s2 Z cr bV len cm=>a9 vs be cv ys s2 Z cr bV cm
 have m2:=R.1;clear R;revert lW args;apply Es m2;intro l J6 lW;refine lW.hl ?_;intro ad qi args;have up:∀{cv s2},Step [] bQ bB cv s2→cv[l]? =E ad:=fun st=>st.new.elim fun n g=>g.1▸get_append qi;have lst:∀{bY:List aj} {n:Nat},bB.heap.get? ad=E (listOf bY.toArray n)→a7 name=m6→∃aT id,Ib O w A I name p es K (.ref ad) bB aT id:=fun eZ aB=>by
  have e:name="append":=DK.elim id fun e=>absurd ((congrArg a7 e).symm.trans aB:qv=m6) vq.symm;clear DK R m2 J6 aB;subst e;refine⟨"list","list.append",PySem.F.plainAttrs_list,slot_list_append,type_list_append,(isList eZ).typeIs,fun a e=>⟨_,BP e▸eZ,rfl⟩,args _ fun vs be cv ys s2 Z cr bV cm=>?_⟩;have b9:=q.after (bk.trans cm);have o3:=up cm;have Z:=mU Z;have vS:nK be l m6:=Es (aA:=fun v=>∀l,v=.ref l→nK be l m6) Z.1 (fun l h m e=>On e▸h) l rfl;have bv:=aaA vS Z.2;have iD:∀{bY:List aj} {n:Nat} {y:aj} {o:an},s2.heap.get? ad=E (listOf bY.toArray n)→bY.length≤1000000→(∀h',eK cv cv s2.heap h'→eF w.params cv h' o (listOf (bY++[y]).toArray (n+1)))→Q .none (be.set l o)→aO O w A (call (.builtin "list.append") (.ref ad::[y])) K s2:=fun eC hz sb a9=>
   cU (IA eC (o8 hz) fun h' cM eJ=>
    have el:Step [] cv s2 cv {s2 with heap:=h'}:=.update s2.toks (List.mem_of_getElem? o3) eJ cM
    b9 _ _ cv _ _ a9 (cr.update o3 eJ cM (sb h' el.fW)) .none el)
  clear vS Z args;cases bv with
  |li bY v e hz a9=>exact bV.gS fun _ _ c6 r=>r.iK<|(cr.list o3 e).elim fun xs g=>g.elim fun n g=>iD g.1 (g.2.length▸hz) (fun h' p=>.list ((g.2.snoc c6).mono p cr.dg)) a9
  |io xs x e hz a9=>refine bV.gS fun _ _ c6 r=>r.iK ?_;exact(cr.ints o3 e).elim fun bY g=>g.elim fun n g=>by refine c6.fh ?_;intro t;exact iD g.1 (g.2.length.symm▸hz) (fun h' p=>.ints (g.2.append (.cons _ _ .nil))) a9
  |No v e a9=>refine bV.gS fun _ _ c6 r=>r.iK ?_;exact(cr.ints o3 e).elim fun bY g=>g.elim fun n g=>by have i:=g.2;cases i;exact iD g.1 (jz _) (fun h' p=>.list (.cons (c6.mono p cr.dg) .nil)) a9
 cases J6 with
 |li vs e aB=>exact(bt.list qi e).elim fun bY g=>g.elim fun n g=>lst g.1 aB
 |io xs e aB=>exact(bt.ints qi e).elim fun bY g=>g.elim fun n g=>lst g.1 aB
 |hZ cT n e aB=>
  clear lst;refine(bt.dict qi e).elim fun fc g=>?_;have eZ:=g.1;clear g;have e:name="get":=DK.elim (fun e=>absurd ((congrArg a7 e).symm.trans aB:m6=qv) vq) id;subst e;refine⟨"dict","dict.get",PySem.F.plainAttrs_dict,PySem.F.slot_dict_get,type_dict_get,fq eZ,fun a e=>⟨_,BP e▸eZ,rfl⟩,args _ fun vs be cv ys s2 Z cr bV cm=>?_⟩;have b9:=q.after (bk.trans cm);have o3:=up cm;have Z:=mU Z;have vS:nK be l qv:=Es (aA:=fun v=>∀l,v=.ref l→nK be l qv) Z.1 (fun l h m e=>On e▸h) l rfl;have bv:=aaB vS Z.2;have hm:=(cK.step cm cr).mods ok.dG ad (List.mem_of_getElem? o3);clear vS Z args;cases bv with
  |one es n i e a9=>
   exact bV.gS fun _ _ c6 r=>r.iK<|(cr.dict o3 e).elim fun xs g=>
    cU (J0 hm g.1 g.2.1 g.2.2.1 g.2.2.2 (mU a9).1 c6 (by lia) (mU a9).2 (.inl ⟨rfl,rfl⟩) (fun v x t g r=>b9 _ _ cv _ _ g cr r .toks) fun t g=>b9 _ _ cv _ _ g cr .none .toks)
  |two es n i d e a9=>
   exact bV.gS fun _ _ c6 r=>r.gS fun _ _ fX r=>r.iK<|(cr.dict o3 e).elim fun xs g=>
    cU (J0 hm g.1 g.2.1 g.2.2.1 g.2.2.2 (mU a9).1 c6 (by lia) (mU a9).2 (.inr rfl) (fun v x t g r=>b9 _ _ cv _ _ g cr r .toks) fun t g=>b9 _ _ cv _ _ g cr fX .toks)
inductive oQ (O:hS)(w:fk)(B:gE)(C:hT)(A:fw)(I:Env)(ay:List Str):List aY→gQ→Prop
 |nil:oQ O w B C A I ay [] .nil
 |cons {e:aY} {es:List aY} {x:aG} {xs:gQ}:jS e=true→cV O w B C A I ay e x→oQ O w B C A I ay es xs→oQ O w B C A I ay (e::es) (.cons x xs)
inductive KeysAre:List (Option aY)→List V→Prop
 |nil:KeysAre [] []
 |int {i:Int} {k:Nat} {p:Pos} {es:List (Option aY)} {vs:List V}:KeysAre es vs→KeysAre (E (.Constant (.int i) k p)::es) (.int i::vs)
 |str {x:Str} {k:Nat} {p:Pos} {es:List (Option aY)} {vs:List V}:f3 x=true→KeysAre es vs→KeysAre (E (.Constant (.str x) k p)::es) (.str (a7 x)::vs)
theorem KeysAre.all {keys:List (Option aY)}(h:KeysAre keys aD):keys.all (·.isSome)=true:=by
 induction h with
 |nil=>rfl
 |int _ aF=>rw[List.all_cons,aF];rfl
 |str _ _ aF=>rw[List.all_cons,aF];rfl
theorem oQ.xb {es:List aY}{xs:gQ}(h:oQ O w B C A I ay es xs):oR O w B C A I ay es xs:=by
 induction h with
 |nil=>exact aek
 |cons bx he _ aF=>exact aej bx he aF
inductive l5 (ρ:List bj)(h:fR):List V→List V→List (aj×aj)→Prop
 |nil:l5 ρ h [] [] []
 |cons {k v:V} {y z:aj} {aD vs:List V} {ps:List (aj×aj)}:aN ρ h k y→aN ρ h v z→l5 ρ h aD vs ps→l5 ρ h (k::aD) (v::vs) ((y,z)::ps)
theorem ab7 {keys:List (Option aY)}(aB:KeysAre keys aD):∀{es:List aY} {xs:gQ},oQ O w B C A I ay es xs→keys.length=es.length→∀{ah loc H ρ s} {Q:List V→List an→Prop} {K:List (aj×aj)→aS→Prop},
 lV C B.G loc xs H Q→b0 w.params B I ah ay ρ H loc s→(∀vs bp aV ps s',Q vs bp→bz w.params aV bp s'.heap→l5 aV s'.heap aD vs ps→Step [] ρ s aV s'→K ps s')→aO O w A (evalPairs (pairTrees keys es I pos)) K s:=by
 have key:∀{e:aY} {es:List aY} {x:aG} {xs:gQ} {z2:aY} {keys:List (Option aY)} {k:V} {aD:List V},cV O w B C A I ay e x→(∀{ρ s} {K:aj→aS→Prop},(∀y t,aN ρ s.heap k y→(∀h,aN ρ h k y)→K y {s with toks:=t})→aO O w A (eval z2 I) K s)→
  (∀{ah loc H ρ s} {Q:List V→List an→Prop} {K:List (aj×aj)→aS→Prop},lV C B.G loc xs H Q→b0 w.params B I ah ay ρ H loc s→(∀vs bp aV ps s',Q vs bp→bz w.params aV bp s'.heap→l5 aV s'.heap aD vs ps→Step [] ρ s aV s'→K ps s')→aO O w A (evalPairs (pairTrees keys es I pos)) K s)→
  ∀{ah loc H ρ s} {Q:List V→List an→Prop} {K:List (aj×aj)→aS→Prop},lV C B.G loc (.cons x xs) H Q→b0 w.params B I ah ay ρ H loc s→(∀vs bp aV ps s',Q vs bp→bz w.params aV bp s'.heap→l5 aV s'.heap (k::aD) vs ps→Step [] ρ s aV s'→K ps s')→
   aO O w A (evalPairs (pairTrees (E z2::keys) (e::es) I pos)) K s:=by
  intro e es x xs z2 keys k aD he XH aF ah loc H ρ s Q K h r q;show aO _ _ _ (do let Ee←eval z2 I;let P5←holding [Ee] (do let x←eval e I;standAt pos;pure x);return (Ee,P5)::(←holding [Ee,P5] (evalPairs (pairTrees keys es I pos)))) K s;refine b1 (XH (ρ:=ρ) fun y t ahw c6=>?_);have xi:Step [] ρ s ρ {s with toks:=t}:=.toks
  refine b1 (eR (b1 (he ah loc H ρ _ _ _ h (r.step xi r.am) fun v aq bQ z bB R bt fX bk=>fa (cN ?_))));refine b1 (eR (aF R ((r.step xi r.am).step bk bt) fun vs be cv ps s2 Z cr pr cm=>cN (q (v::vs) be cv _ s2 Z cr (.cons ?_ (fX.mono cm.fW bt.dg) pr) ((xi.trans bk).trans cm))));have dS:aN bQ bB.heap k y:=(c6 s.heap).mono bk.fW r.am.dg;exact dS.mono cm.fW bt.dg
 induction aB with
 |nil=>
  intro es xs aE ar ah loc H ρ s Q K h r q;cases aE with
  |nil=>exact cN (q [] H ρ [] s h r.am .nil (.refl _ _ _))
  |cons _ _ _=>cases ar
 |@int i k p keys aD _ aF=>
  intro es xs aE ar ah loc H ρ s Q K h r q;cases aE with
  |nil=>cases ar
  |cons bx he aE=>exact key he (fun a9=>cU (u4 (a9 _ _ (.int i _) fun _=>.int i _))) (fun {ah loc H ρ s Q K} a b c=>aF aE (by simpa using ar) a b c) h r q
 |@str x k p keys aD aR _ aF=>
  intro es xs aE ar ah loc H ρ s Q K h r q;cases aE with
  |nil=>cases ar
  |cons bx he aE=>exact key he (fun a9=>cU (wpAny_mkText (a9 _ _ (.str x _ aR) fun _=>.str x _ aR))) (fun {ah loc H ρ s Q K} a b c=>aF aE (by simpa using ar) a b c) h r q
theorem l5.mono (p:eK ρ ρ h h')(hB:rf ρ h){ps:List (aj×aj)}(r:l5 ρ h aD vs ps):l5 ρ h' aD vs ps:=
 l5.rec (motive:=fun aD vs ps _=>l5 ρ h' aD vs ps) .nil (fun a b _ k=>.cons (a.mono p hB) (b.mono p hB) k) r
theorem Pe {d:bj}(bx:A.units+4<cLine)(hd:d∉ρ):∀{aD vs:List V} {ps:List (aj×aj)} {es:List (V×V)} {n:Nat} {xs:List c3} {s:aS} {G:List (V×V)→Nat→Prop} {Q:PUnit→aS→Prop},
 CU es n aD vs G→bz w.params ρ H s.heap→l5 ρ s.heap aD vs ps→s.heap.get? d=E (dictOf xs n)→dc w.params ρ s.heap es xs→(∀e∈es,bU 4 e.1=true)→eE es→
 (∀cT kG fc h' t,G cT kG→h'.get? d=E (dictOf fc kG)→fK d s.heap h'→dc w.params ρ h' cT fc→(∀e∈cT,bU 4 e.1=true)→eE cT→Q () {s with heap:=h',toks:=t})→
 wpAny (model O w) A (storeAll d ps) Q eY s
 |_,_,_,es,n,xs,s,G,Q,h,am,.nil,ax,cS,aD,hZ,q=>aX (q es n xs s.heap s.toks h ax (BN ..) cS aD hZ)
 |_,_,_,es,n,xs,s,G,Q,h,am,.cons (y:=y) (z:=z) (ps:=ps) c6 fX r,ax,cS,aD,hZ,q=>by
  refine b8 (mU h) fun aB h=>?_;rw[fJ,lY] at aB;refine(?_:wpAny _ _ (forIn ((y,z)::ps) PUnit.unit _) _ _ _);rw[List.forIn_cons];refine af (af (Jh ax cS aD hZ aB.1 aB.2 c6 fX bx h fun cT m fc h' t g g1 bM g3 ek ht=>aX ?_));have p:eK ρ ρ s.heap h':=⟨⟨[],by simp,fun _ h=>nomatch h⟩,fun a o e aC ⟨zs,k,kC⟩=>(bM.2 a fun q=>by rw[q,ax] at e;obtain rfl:=cF e;cases sv kC).trans e⟩
  have eL:bz w.params ρ H h':=am.other (fun a aC=>bM.2 a fun q=>hd (q▸aC)) p;exact Pe (s:={s with heap:=h',toks:=t}) bx hd g eL (r.mono p am.dg) g1 (g3.mono p am.dg) ek ht fun vJ wR Qf Z aa k ba bL bS D1 rL=>q vJ wR Qf Z aa k ba (bM.trans bL) bS D1 rL
theorem aN.grow {x:aj}(r:aN ρ h v x):aN (ρ++[bR]) h v x:=
 aN.rec (motive_1:=fun v x _=>aN (ρ++[bR]) h v x) (motive_2:=fun vs xs _=>bK (ρ++[bR]) h vs xs) .none .bool .int .str .bytes (fun e _ k=>.tup e k) (fun e=>.ref (get_append e)) .nil (fun _ _ a b=>.cons a b) r
theorem bK.grow (r:bK ρ h vs xs):bK (ρ++[bR]) h vs xs:=
 bK.rec (motive_1:=fun _ _ _=>True) (motive_2:=fun vs xs _=>bK (ρ++[bR]) h vs xs) trivial (fun _=>trivial) (fun _ _=>trivial) (fun _ _ _=>trivial) (fun _ _ _=>trivial) (fun _ _ _=>trivial) (fun _=>trivial) .nil (fun a _ _ b=>.cons a.grow b) r
theorem dc.grow {xs:List c3}(r:dc P ρ h es xs):dc P (ρ++[bR]) h es xs:=
 dc.rec (motive:=fun es xs _=>dc P (ρ++[bR]) h es xs) .nil (fun a b c _ k=>.cons a.grow b.grow c k) r
theorem eF.grow {o:an}(r:eF P ρ h o ob):eF P (ρ++[bR]) h o ob:=
 eF.casesOn (motive:=fun o ob _=>eF P (ρ++[bR]) h o ob) r (fun r=>.list r.grow) .ints (fun r=>.dict r.grow) (fun a b=>.inst a (get_append b)) .cB .d6
theorem bz.take {o:an}(x:bz P ρ H h)(ew:bR∉ρ)(e:h.get? bR=E ob)(r:eF P (ρ++[bR]) h o ob):bz P (ρ++[bR]) (H++[o]) h:=by exact⟨Ei x.len,EH x.eX ew,fun i o' a ax aC=>Cv (aA:=fun o' a=>∃hP,h.get? a=E hP∧eF P (ρ++[bR]) h o' hP) x.len ax aC (fun R Z=>(x.at_ i o' a R Z).elim fun hP g=>⟨hP,g.1,g.2.grow⟩) ⟨ob,e,r⟩⟩
theorem Step.takes {t:Nat}(st:Step [] ρ {s with heap:=s.heap.push ob} cv s2)(aE:fK s.heap.objs.size s2.heap h')(he:∃o,h'.get? s.heap.objs.size=E o):Step [] ρ s (cv++[s.heap.objs.size]) {s2 with heap:=h',toks:=t}:=by
 refine dr st.new fun n cj aL=>?_;subst cj;refine⟨⟨n++[s.heap.objs.size],by rw[List.append_assoc],fun a aC=>?_⟩,fun a o e aC hf=>?_,fun a e=>?_,st.gens,st.os⟩
 .rcases List.mem_append.mp aC with q|q
  .exact z8 a (aL a q)
  .rw[List.mem_singleton.mp q];exact kA _
 .exact(aE.2 a (ny (ic e))).trans (st.keep a o (fx _ e) aC hf)
 .by_cases q:a=s.heap.objs.size
  .rw[q];exact kA _
  .exact z8 a (st.live a ((aE.2 a q).symm.trans e))
theorem ad3 (bx:A.units+20<cLine){keys:List (Option aY)}{es:List aY}{xs:gQ}(aB:KeysAre keys aD)(aE:oQ O w B C A I ay es xs)(ar:keys.length=es.length)(zf:keys.length≤15):
 cV O w B C A I ay (.Dict keys es p) (.dict aD xs):=fun ah loc H ρ s Q K h r q=>by
 have d0:=kA s.heap;have CW:=o1 r.am d0;have xi:Step [] ρ s ρ {s with heap:=s.heap.push {cls:=.type "dict",data:=.dict #[]}}:=.push s.toks
 have qn:bz w.params ρ H (s.heap.push {cls:=.type "dict",data:=.dict #[]}):=r.am.push _;have r0:(s.heap.push {cls:=.type "dict",data:=.dict #[]}).get? s.heap.objs.size=E (dictOf [] 0):=g5 _ rfl;have fin:∀{cv:List bj} {be:List an} {s2:aS} {cT:List (V×V)} {kG:Nat} {fc:List c3} {h':fR} {t:Nat},bz w.params cv be s2.heap→Step [] ρ {s with heap:=s.heap.push {cls:=.type "dict",data:=.dict #[]}} cv s2→
  Q (.ref be.length) (be++[.dict cT kG])→h'.get? s.heap.objs.size=E (dictOf fc kG)→fK s.heap.objs.size s2.heap h'→dc w.params cv h' cT fc→(∀e∈cT,bU 4 e.1=true)→eE cT→
  s2.heap.get? s.heap.objs.size=E (dictOf [] 0)→s.heap.objs.size∉cv→K (.ref s.heap.objs.size) {s2 with heap:=h',toks:=t}:=fun {cv be s2 cT kG fc h' t} cr cm a9 cM eJ cS aD hZ aJ aL=>by
  have p:eK cv cv s2.heap h':=⟨⟨[],by simp,fun _ h=>nomatch h⟩,fun a o e aC ⟨zs,k,kC⟩=>(eJ.2 a fun q=>by rw[q,aJ] at e;obtain rfl:=cF e;cases sv kC).trans e⟩
  have eL:bz w.params cv be h':=cr.other (fun a aC=>eJ.2 a fun q=>aL (q▸aC)) p;refine q _ _ _ _ _ a9 (eL.take aL cM (.dict cS.grow aD hZ)) (.ref ?_) (cm.takes eJ ⟨_,cM⟩);rw[←cr.len,List.getElem?_append_right (kN _)];simp
 have MX:∀{keys:List (Option aY)} {es:List aY} {aD:List V} {xs:gQ},KeysAre keys aD→oQ O w B C A I ay es xs→keys.length=es.length→keys.length≤15→keys≠[]→keys.all (·.isSome)=true→cG C B.G loc (.dict aD xs) H Q→aO O w A (eval (.Dict keys es p) I) K s:=fun {keys es aD xs} aB aE ar zf bl vX h=>by
  have aL:=pairTrees_length keys es I p vX ar;have DM:pairTrees keys es I p≠[]:=by intro he;rw[he] at aL;exact bl (List.length_eq_zero_iff.mp aL.symm)
  rw[arm_eval_Dict,zip_pairTrees keys es I p vX ar,dictDisplay_pairs _ DM (by rw[aL];lia)];refine fa (b1 ?_);unfold subDict;refine dJ (wpAny_alloc (b1 (eR ?_)));rw[if_pos (by rw[aL];exact zf)];refine b1 (ab7 aB aE ar h (r.step xi qn) fun vs be cv ps s2 Z cr pr cm=>eR ?_);have aJ:s2.heap.get? s.heap.objs.size=E (dictOf [] 0):=cm.keep _ _ r0 CW (fun h=>nomatch h);have Ji:s.heap.objs.size∉cv:=fun a9=>by
   refine dr cm.new fun n cj hf=>?_;clear cr pr cm;subst cj;rcases List.mem_append.mp a9 with q|q
   .exact CW q
   .rw[hf _ q] at r0;exact c5 r0
  exact b1 (cU (Pe (by lia) Ji Z cr pr aJ .nil (fun e h=>nomatch h) .nil fun cT kG fc h' t g g1 bM g3 ek ht=>cN (cN (cN (fin cr cm g g1 bM g3 ek ht aJ Ji)))))
 cases aB with
 |nil=>
  cases aE with
  |cons _ _ _=>cases ar
  |nil=>rw[eval_Dict_empty];refine fa (cU (jC ?_));exact fin (h':=s.heap.push {cls:=.type "dict",data:=.dict #[]}) (t:=s.toks) (s2:={s with heap:=s.heap.push {cls:=.type "dict",data:=.dict #[]}}) qn (.refl _ _ _) h r0 (BN ..) .nil (fun e h=>nomatch h) .nil r0 CW
 |int aB=>exact MX (.int aB) aE ar zf (by simp) (KeysAre.int aB).all h
 |str aR aB=>exact MX (.str aR aB) aE ar zf (by simp) (KeysAre.str aR aB).all h
theorem YU {d:bj}{xs:List c3}(hd:(d==sysModules)=false):
 KdlSrc O w "dict" d d xs.length (fun i v=>(xs[i]?).map (·.key)=E v) (fun h=>h.get? d=E (dictOf xs ep)) where
 type:=fun _ e=>fq e
 there:=fun _ e=>⟨ic e,ic e⟩
 keep:=fun _ _ e aB=>aB d (.inl rfl) _ e
 notList:=by decide
 notTuple:=by decide
 hint:=fun _ _ _ _ e a9=>kdl_hint_dict (fq e) a9
 iter:=fun A s bD e=>⟨_,fun i h=>h.IsKeyIter s.heap.objs.size d i xs.length ep∧h.get? d=E (dictOf xs ep),(fun b2 Q a9=>by
  refine u5 (fq e) PySem.F.slot_dict_iter (hp PySem.F.slot_dict_iter (fq e) PySem.F.entry_dict_iter ?_ (PySem.F.args_dict_iter_1 _));unfold Builtin.«dict.__iter__»;refine af ?_;unfold Builtin.Dict.dictSlotNone;refine af (q5 (fq e) ?_);refine(?_:wpAny _ _ (pure (gP d)) _ _ s);refine aX ?_;refine(?_:wpAny _ _ (Builtin.Dict.showsAll d>>=_) _ _ s);unfold Builtin.Dict.showsAll;rw[if_neg (by rw[hd];exact d8)];refine af (aX (af (mM e rfl (af (lj e rfl ?_)))));exact af (jC (aX ⟨_,rfl,"dict_keyiterator",_,⟨_,g5 _ rfl,rfl⟩,PySem.F.slot_dict_keyiterator_next.lookup,a9⟩))),
  {sub:=fun b az=>by simp at az;simp[az]
   frame:=fun i h h' st aB=>⟨let ⟨o,ax,r⟩:=st.1;⟨o,aB _ (by simp) o ax,r⟩,aB d (by simp) _ st.2⟩
   item:=fun i s' Q b2 hi st h4=>by obtain⟨x,aR⟩:∃x,xs[i]? =E x:=⟨_,List.getElem?_eq_getElem hi⟩;refine Mf st.1 st.2 aR fun h' zp gr=>h4 x.key h' s'.toks (by rw[aR];rfl) ⟨zp,(gr.2 d (ny (ic e))).trans st.2⟩ fun b o az ih=>gr.extBut b o (fun h=>az (by simp[h])) ih
   done:=fun s' Q b2 st h4=>Me bD st.1 st.2 (by simp) fun h' DB=>h4 h' s'.toks fun b o az ih=>DB b o (fun h=>az (by simp[h])) ih
   self:=fun i s' Q b2 st h4=>by exact gz st.1 fun o ax aI kC=>wpAny_pyIter_keyiter (n:=xs.length) (ep:=ep) (i:=i) (d:=d) ⟨o,ax,aI,kC⟩ h4},⟨_,g5 _ rfl,rfl,by simp[rawInt]⟩,fx _ e⟩
theorem bz.afZ {o:an}(x:bz P ρ H h)(ew:h.get? bR=none)(aB:∀a o,h.get? a=E o→h'.get? a=E o)(e:h'.get? bR=E ob)(r:eF P (ρ++[bR]) h' o ob):
 bz P (ρ++[bR]) (H++[o]) h'∧eK ρ (ρ++[bR]) h h':=by
 have aL:=o1 x ew;have p:eK ρ (ρ++[bR]) h h':=⟨⟨_,rfl,fun a aC=>by rw[List.mem_singleton.mp aC];exact ew⟩,fun a o e _ _=>aB a o e⟩;exact⟨⟨Ei x.len,EH x.eX aL,fun i o' a ax aC=>Cv (aA:=fun o' a=>∃hP,h'.get? a=E hP∧eF P (ρ++[bR]) h' o' hP) x.len ax aC (fun R Z=>(x.at_ i o' a R Z).elim fun hP g=>⟨hP,aB a hP g.1,g.2.mono p x.dg⟩) ⟨ob,e,r⟩⟩,p⟩
theorem Zv (x:bz P ρ H h):(ρ++[bR])[H.length]? =E bR:=by rw[←x.len,List.getElem?_append_right (kN _)];simp
theorem An {t:Nat}{o:an}{Q:bE}{K:aj→aS→Prop}(am:bz P ρ H s.heap)(q:jE P ρ s Q K)(a9:Q (.ref H.length) (H++[o]))(ew:s.heap.get? bR=none)
 (aB:∀a o,s.heap.get? a=E o→h'.get? a=E o)(e:h'.get? bR=E ob)(r:eK ρ (ρ++[bR]) s.heap h'→eF P (ρ++[bR]) h' o ob):K (.ref bR) {s with heap:=h',toks:=t}:=by
 have p:eK ρ (ρ++[bR]) s.heap h':=⟨⟨_,rfl,fun a aC=>by rw[List.mem_singleton.mp aC];exact ew⟩,fun a o e _ _=>aB a o e⟩;refine b8 (am.afZ ew aB e (r p)) fun eL cj=>?_;clear cj;refine q _ _ _ _ _ a9 eL (.ref (Zv am)) ⟨⟨_,rfl,fun a aC=>by rw[List.mem_singleton.mp aC];exact ew⟩,fun a o e _ _=>aB a o e,fun a e=>Ej aB a e,rfl,rfl⟩
theorem dc.keys {xs:List c3}(r:dc P ρ h es xs):bK ρ h (es.map (·.1)) (xs.map (·.key)):=by
 induction r with
 |nil=>exact .nil
 |cons a _ _ _ aF=>exact .cons a aF
theorem Sf (bD:A.handled=none):nF O w A (.type "list") .list:=fun vs ys H ρ s Q K h am bV hm q=>by
 refine td (h:a1 vs _) bV ?_;intro v y h c6;refine E6 h c6 fun l d h ar=>am.mX ar h fun es n xs e h o cS aD hZ=>nR h fun hz h=>?_;refine cU (kdl_call (YU (hm d (List.mem_of_getElem? ar))) bD o (by rw[←cS.length];exact o8 hz) fun h' di b7 c aB ax zk=>?_);have kD:∀b o,s.heap.get? b=E o→h'.get? b=E o:=aB;have WZ:b7.toList=xs.map (·.key):=by
  refine List.ext_getElem? fun i=>?_;rw[Qk,List.getElem?_map];cases aJ:b7[i]? with
  |some v=>exact(zk.2 i v aJ).symm
  |none=>have:=Array.getElem?_eq_none_iff.mp aJ;rw[List.getElem?_eq_none (by rw[zk.1] at this;exact this)];rfl
 refine An am q h (kA _) kD (ob:=listOf (xs.map (·.key)).toArray c) ?_ fun p=>?_
 .rw[←WZ];simpa using ax
 .exact tX (cS.keys.mono p am.dg) c
theorem aa1 {c:Prop}[Decidable c]{a0:Type}{k:Sem a0}{Q:a0→aS→Prop}(h:aO O w A k Q s):aO O w A (if c then do standAt p;k else k) Q s:=by
 by_cases aI:c
 .rw[if_pos aI];exact fa h
 .rw[if_neg aI];exact h
def I7 (O:hS)(w:fk)(A:fw)(use:Option (aj→Sem Unit))(Q:aj→aS→Prop)(b7:aj)(C:bj)(s':aS):Prop:=match use with
 |none=>∃m,s'.heap.Ns C m∧∀h',fK C s'.heap h'→Q b7 {s' with heap:=h'}
 |some u=>aO O w A (u b7) (fun _ pt=>∃m,pt.heap.Ns C m∧∀h',fK C pt.heap h'→Q .none {pt with heap:=h'}) s'
theorem aaV {Nl first:Sem aj}{g:sK}{WP:List sK}{cl:List (Str×bj)}{use:Option (aj→Sem Unit)}
 (Dx:clausesOf e=g::WP)(aE:∀x,foldedSetIterable g.iter I x=pure x)(Xa:closureFor scope I=pure cl)
 (zq:scope.kind=.function)(XM:∀x∈scope.names,x.2=.local→scope.names.lookup x.1=E .local)
 (h:aO O w A first (fun x bC=>aO O w A (pyIter x) (fun bX eg=>aO O w A Nl (fun b7 jR=>
  aO O w A (newFunctionEnv scope I.globals cl [] I.qual none .none (E I)) (fun cenv sq=>
   codeN O w A (.compStart e 0 bX b7 {cenv with scope:=relabel scope I}) (fun _ s'=>I7 O w A use Q b7 cenv.locals s') sq) jR) eg) bC) s):
 aO O w A (comprehension e scope I pos Nl false first use) Q s:=by
 unfold comprehension;rw[Xa,Dx];refine b1 (dH h fun x bC h₁=>fa (hy (aE x) (b1 (eR (dH h₁ fun bX eg fN=>aa1<|b1 (dH fN fun b7 jR iG=>b1 (cN (b1 (dH iG fun cenv sq tG=>?_)))))))));dsimp only;have cp:∀x∈(scope.names.filter fun x=>(x.2== .local||x.2== .cell)&&x.1 !=(".0":Str)).reverse,x.2=.local→
  Env.kindOf {cenv with scope:=relabel scope I} x.1=E .local:=fun x aR ar=>G3 (XM x (List.mem_filter.mp (List.mem_reverse.mp aR)).1 ar)
 have tF:∀x∈(scope.names.filter fun x=>(x.2== .local||x.2== .cell)&&x.1 !=(".0":Str)).reverse.drop 1++(scope.names.filter fun x=>(x.2== .local||x.2== .cell)&&x.1 !=(".0":Str)).reverse.take 1,
  x.2=.local→Env.kindOf {cenv with scope:=relabel scope I} x.1=E .local:=fun x aR ar=>by
  rcases List.mem_append.mp aR with R|R
  .exact cp x (List.mem_of_mem_drop R) ar
  .exact cp x (List.mem_of_mem_take R) ar
 refine eR (b1 (aaR (eR (Nf rfl (IZ tG fun f s' am=>?_)))))
 induction use using ez with
 |none=>refine dq am fun m bT=>b8 bT fun aL am=>?_;clear bT;exact dJ (gb (wpAny_comp_letGo (cenv:={cenv with scope:=relabel scope I}) zq _ s' m cp aL fun h' rR _ gr=>cN (am h' gr)))
 |some u=>refine dJ (iv (b1 (eR (dH am fun _ pt eL=>dq eL fun m bT=>b8 bT fun aL eL=>?_))));clear bT;exact dJ (wpAny_comp_letGo (cenv:={cenv with scope:=relabel scope I}) zq _ pt m tF aL fun h' rR _ gr=>cN (eL h' gr))
namespace dV
theorem O3:Slot "bytes_iterator" "__iter__" "bytes_iterator.__iter__":=
 .of (owner:="bytes_iterator") (n:="__iter__") (by rw[jB,jA];kernel_rfl) (by decide+kernel) (by decide+kernel) (by decide+kernel)
  (by first|exact .inl (by decide+kernel)|exact .inr (by decide+kernel)) (by rw[nA];kernel_rfl)
theorem O1:Slot "bytearray_iterator" "__iter__" "bytearray_iterator.__iter__":=
 .of (owner:="bytearray_iterator") (n:="__iter__") (by rw[jB,jA];kernel_rfl) (by decide+kernel) (by decide+kernel) (by decide+kernel)
  (by first|exact .inl (by decide+kernel)|exact .inr (by decide+kernel)) (by rw[nA];kernel_rfl)
theorem UE:entryFor table "bytes_iterator.__iter__"=E Builtin.«dict_keyiterator.__iter__»:=
 G0 (id':="dict_keyiterator.__iter__") (by kernel_rfl) (by first|rfl|decide+kernel) (by decide+kernel) (by kernel_rfl)
theorem UB:entryFor table "bytearray_iterator.__iter__"=E Builtin.«dict_keyiterator.__iter__»:=
 G0 (id':="dict_keyiterator.__iter__") (by kernel_rfl) (by first|rfl|decide+kernel) (by decide+kernel) (by kernel_rfl)
theorem RN (a:aj):argsOk "bytes_iterator.__iter__" ⟨[a],[]⟩:=by unfold argsOk;kernel_rfl
theorem RK (a:aj):argsOk "bytearray_iterator.__iter__" ⟨[a],[]⟩:=by unfold argsOk;kernel_rfl
end dV
theorem acF {k:Src}{i:Nat}(x:gc k aM i s.heap)(h:Q (.ref aM) s):wpAny (model O w) A (pyIter (.ref aM)) Q eY s:=by
 induction k using Src.casesOn with
 |list l=>exact wpAny_pyIter_listiter x h
 |tup t=>exact wpAny_pyIter_tupleiter x h
 |p6 b t=>refine gz x fun o ax aI hd=>?_;clear x;have ct:s.TypeIs (.ref aM) "bytes_iterator":=⟨o,ax,aI⟩;refine u5 ct dV.O3 (hp dV.O3 ct dV.UE ?_ (dV.RN _));exact aX ⟨_,rfl,"bytes_iterator",_,ct,KBw.slot_next.lookup,h⟩
 |cB l=>have ct:=wx x;refine u5 ct dV.O1 (hp dV.O1 ct dV.UB ?_ (dV.RK _));exact aX ⟨_,rfl,"bytearray_iterator",_,ct,dV.ut.lookup,h⟩
 |dict d n ep=>exact wpAny_pyIter_keyiter x h
 |eQ a st n=>exact wpAny_pyIter_rangeiter x h
theorem SW {pz:aY}{c2:List sK}{bX b7:aj}{Q:g0→aS→Prop}
 (bl:codeN O w A (.compLoop (.ListComp gT (⟨pz,iter,fO,0⟩::c2) scope pos) 0 bX b7 I) Q s)
 (h:wpAny (model O w) A (pyIter bX) (fun m5 s'=>codeN O w A (.compLoop (.ListComp gT (⟨pz,iter,fO,0⟩::c2) scope pos) 0 m5 b7 I) Q s') eY s):
 codeN O w A (.compStart (.ListComp gT (⟨pz,iter,fO,0⟩::c2) scope pos) 0 bX b7 I) Q s:=by
 refine p8 fun _=>?_;show aO _ _ _ ((compStart (.ListComp gT (⟨pz,iter,fO,0⟩::c2) scope pos) 0 bX b7 I).onRaise (fun x=>do noteFrame x I;standAt theWindowsPlace)) _ s;refine qJ ?_;unfold compStart;refine(?_:aO _ _ _ (ask>>=_) _ s);refine dJ (wpAny_askSetting ?_)
 split
 .first
   |exact cN ⟨rfl,rfl,bl⟩
   |exact b1 (cN (cN ⟨rfl,rfl,bl⟩))
 .refine dJ (iv ?_);refine(?_:aO _ _ _ (standAt iter.pos>>=_) _ s);exact fa (dJ (sM h (fun m5 s' h'=>cN ⟨rfl,rfl,h'⟩) fun _ _ x=>x))
noncomputable def uA (fO:List aY)(I:Env):Sem Bool:=forIn fO true fun c r=>if r=true then do let ok←isTrue c I (eval c I);pure (Bp ok) else pure (Bp r)
theorem af8 {Q:Bool→aS→Prop}(h:Q true s):aO O w A (uA [] I) Q s:=cN h
theorem af9 {c:aY}{Q:Bool→aS→Prop}(h:aO O w A (isTrue c I (eval c I)) Q s):aO O w A (uA [c] I) Q s:=by unfold uA;simp only[List.forIn_cons,List.forIn_nil,if_true];exact b1 (b1 (dH h fun b s' az=>cN (cN az)))
theorem IY {pz:aY}{b7:aj}{Q:g0→aS→Prop}(iT:Nat→aS→Prop)
 (turn:∀n s,iT n s→aO O w A (pyNext (.ref aM)) (fun r bC=>match r with
  |none=>Q .next bC
  |some v=>aO O w A (letOwnedTupleGo pz (.ref aM) v) (fun _ bC=>aO O w A (assign pz I v) (fun _ eg=>aO O w A (uA fO I) (fun ok jR=>
   if ok=true then aO O w A (eval gT I) (fun x sq=>aO O w A (call (.builtin "list.append") [b7,x]) (fun _ A2=>∃m,m<n∧iT m A2) sq) jR
   else∃m,m<n∧iT m jR) eg) bC) bC) s)
 (n:Nat)(h:iT n s):codeN O w A (.compLoop (.ListComp gT [⟨pz,iter,fO,0⟩] scope pos) 0 (.ref aM) b7 I) Q s:=by
 refine CJ rfl iT (fun n s vT=>?_) n h;show aO _ _ A ((compTurn (.ListComp gT [⟨pz,iter,fO,0⟩] scope pos) 0 (.ref aM) b7 I).onRaise (fun x=>do noteFrame x I;theTreesLotGoes x)) _ s;refine qJ ?_;rw[compTurn_list];refine fa (b1 (dH (turn n s vT) fun r bC h₁=>?_))
 induction r using ez with
 |none=>exact cN h₁
 |some v=>
  refine b1 (dH h₁ fun _ bC h₁=>b1 (dH h₁ fun _ eg fN=>b1 (dH fN fun ok jR iG=>?_)))
  induction ok using eo with
  |false=>exact cN (.inl ⟨rfl,iG⟩)
  |true=>exact b1 (b1 (dH iG fun x sq tG=>b1 (dH tG fun _ A2 zA=>cN (cN (.inl ⟨rfl,zA⟩)))))
structure pM (I:Env)(ay:List Str)(scope:oK)(x:Str)(f5:List Nat)(iF:List Str)(cl:List (Str×bj)):Prop where
 kind:scope.kind=.function
 names:∀y∈scope.names,y.2=.local→scope.names.lookup y.1=E .local
 aR:scope.names.lookup x=E .local
 cell:∀y∈scope.names,y.2≠.cell
 Tc:closureFor scope I=pure cl
 mem:∀p∈cl,I.cells.lookup p.1=E p.2
 S6:∀(i:Nat) (y:Str),iF[i]? =E y→∃j:Nat,f5[i]? =E j∧ay[j]? =E y∧I.kindOf y=E .cell∧(relabel scope I).names.lookup y=E .cell∧cl.lookup y=I.cells.lookup y
 len:f5.length=iF.length
 eX:(iF++[x]).Nodup
 nu:∀y∈iF++[x],(y==("__debug__":Str))=false
noncomputable def rH (loc:List V)(f5:List Nat)(v:V):List V:=f5.map (fun i=>loc.getD i .aQ)++[v]
theorem pM.sub {x:Str}{cl:List (Str×bj)}(k:pM I ay scope x f5 iF cl){y:Str}{c:bj}(h:cl.lookup y=E c):I.cells.lookup y=E c:=k.mem _ (PySem.mem_of_lookup h)
theorem b0.inner {x:Str}{cl:List (Str×bj)}{m:Str→Option aj}{z:aj}
 (k:pM I ay scope x f5 iF cl)(r:b0 P B I ah ay ρ H loc s)(ew:bR∉ρ)(bl:B.h₀.get? bR=none)(hf:bR∉ah)(ns:s.heap.Ns bR m)(hm:m x=E z)(fX:aN ρ s.heap v z):
 b0 P B (compEnvC scope cl bR I) (bR::cl.map (·.2)) (iF++[x]) ρ H (rH loc f5 v) s:=by
 have ZR:(compEnvC scope cl bR I).kindOf x=E .local:=G3 k.aR;have I4:∀c∈cl.map (·.2),c∈ah:=fun c aI=>by refine dr (List.mem_map.mp aI) fun p a8 b9=>?_;subst b9;exact r.ck.mV _ _ (k.mem p a8)
 refine⟨r.am,⟨k.kind,r.ck.glob,r.ck.blt,fun a aC=>?_,List.mem_cons_self,fun y c aI=>List.mem_cons_of_mem _ (List.mem_map_of_mem (f:=(·.2)) (PySem.mem_of_lookup aI)),fun i y u cu bx tE=>?_,k.nu,⟨m,ns⟩,fun y c aI=>r.ck.cl y c (k.sub aI),fun y c aI e=>hf ((show c=bR from e)▸r.ck.mV y c (k.sub aI)),fun y Gx c R Z=>r.ck.inj y Gx c (k.sub R) (k.sub Z),k.eX⟩,fun a o e=>?_⟩
 .rcases List.mem_cons.mp aC with rfl|aC
  .exact⟨ew,t7 ns⟩
  .exact r.ck.own a (I4 a aC)
 .unfold rH at bx
  by_cases hi:i<iF.length
  .rw[List.getElem?_append_left hi] at cu;rw[List.getElem?_append_left (by rw[List.length_map,k.len];exact hi),List.getElem?_map] at bx;refine dq (k.S6 i y cu) fun j bT=>yB bT fun co cp aB kD ar=>?_;clear bT;rw[co] at bx;have Ye:loc[j]? =E u:=by
    have e:loc.getD j .aQ=u:=fe bx;rw[List.getD_eq_getElem?_getD] at e;cases q:loc[j]? with
    |none=>rw[q] at e;exact absurd e.symm tE
    |some ahr=>rw[q] at e;exact congrArg E e
   refine dr (r.ck.k4 j y u cp Ye tE) fun gC adg bV=>⟨gC,?_,bV⟩;rcases adg with⟨q,_⟩|⟨_,c,o,e,ax,hd⟩|⟨q,_⟩
   .rw[aB] at q;cases q
   .exact .inr (.inl ⟨kD,c,o,ar.trans e,ax,hd⟩)
   .rw[aB] at q;cases q
  .have wd:i=iF.length:=by have:=(List.getElem?_eq_some_iff.mp cu).1;rw[List.length_append] at this;simp only[List.length_singleton] at this;lia
   subst wd;rw[List.getElem?_append_right (kN _),xX] at cu;rw[List.getElem?_append_right (by rw[List.length_map,k.len];exact kN _),List.length_map,k.len,xX] at bx;obtain rfl:=cF cu;obtain rfl:=cF bx;exact⟨z,.inl ⟨ZR,m,ns,hm⟩,fX⟩
 .refine hJ (r.bs a o e) fun g1 bM g3=>⟨g1,bM,fun q=>?_⟩;rcases List.mem_cons.mp q with q|q
  .rw[q,bl] at e;exact c5 e
  .exact g3 (I4 a q)
theorem none_of (aB:∀b o,h.get? b=E o→h'.get? b=E o)(e:h'.get? a=none):h.get? a=none:=Ej aB a e
structure Out (B:gE)(ah:List bj)(bB:aS)(aG:bj):Prop where
 f:aG∉ah
 b:B.h₀.get? aG=none
 s:bB.heap.get? aG=none
theorem Out.of (r:b0 P B I ah ay ρ H loc s){aG:bj}(e:s.heap.get? aG=none):Out B ah s aG:=by
 refine⟨fun q=>(r.vN aG q).elim fun o g=>?_,?_,e⟩
 .have:=g.1;rw[e] at this;exact hj this
 .cases q:B.h₀.get? aG with
  |none=>rfl
  |some o=>exact hj (e.symm.trans (r.bs aG o q).1)
structure oO (P:dj)(B:gE)(I:Env)(ah:List bj)(ay:List Str)(loc:List V)(bQ:List bj)(bB:aS)(bR:bj)(aV:List bj)(bp:List an)(s':aS)(b7:List V)(xs:List aj)(kr:Nat):Prop where
 r:b0 P B I ah ay aV bp loc s'
 st:Step [] bQ bB aV s'
 ew:bR∉aV
 mc:s'.heap.get? bR=E (listOf xs.toArray kr)
 xr:bK aV s'.heap b7 xs
theorem oO.but (m:oO P B I ah ay loc bQ bB bR aV bp s' b7 xs kr){aG:bj}(Q9:aG≠bR)(kV:aG∉aV)(o:Out B ah bB aG)(eG:∀o,(∃xs n,o.data=.seq xs n)→s'.heap.get? aG≠E o)
 (aE:∀a o,a≠aG→s'.heap.get? a=E o→h'.get? a=E o)(t:Nat):oO P B I ah ay loc bQ bB bR aV bp {s' with heap:=h',toks:=t} b7 xs kr:=
 ⟨m.r.but aE kV o.f o.b eG t,m.st.but o.s aE t,m.ew,aE bR _ Q9.symm m.mc,m.xr.mono (.but aE fun xs n=>eG _ ⟨xs.toArray,n,rfl⟩) m.r.am.dg⟩
theorem oO.step (m:oO P B I ah ay loc bQ bB bR aV bp s' b7 xs kr){be:List an}(am:bz P cv be s2.heap)(st:Step [] aV s' cv s2)(h2:∀{a:bj} {o:Obj},a∉aV→s'.heap.get? a=E o→a∉cv):
 oO P B I ah ay loc bQ bB bR cv be s2 b7 xs kr:=
 ⟨m.r.step st am,m.st.trans st,h2 m.ew m.mc,st.keep bR _ m.mc m.ew (fun h=>nomatch h),m.xr.mono st.fW m.r.am.dg⟩
theorem Step.fresh (st:Step ah ρ s cv s2){o:Obj}(aC:a∉ρ)(e:s.heap.get? a=E o):a∉cv:=fun q=>by
 refine st.new.elim fun n g=>?_;rw[g.1] at q;rcases List.mem_append.mp q with q|q
 .exact aC q
 .exact hj ((g.2 a q).symm.trans e)
theorem Nx {b3:bj}{m:Str→Option aj}(aL:h.Ns b3 m)(o:Obj)(hd:∃xs n,o.data=.seq xs n):h.get? b3≠E o:=fun e=>by
 exact(t7 aL).elim fun o' g=>hd.elim fun ys bM=>bM.elim fun n bM=>g.2 ys n<|fe (g.1.symm.trans e)▸bM
theorem Ap {b3:bj}{m:Str→Option aj}(aL:h.Ns b3 m)(aB:∀o,h.get? b3=E o→h'.get? b3=E o):h'.Ns b3 m:=
 aL.elim fun o g=>g.elim fun es g=>g.elim fun ep g=>⟨o,es,ep,aB o g.1,g.2⟩
theorem oO.done (m:oO w.params B I ah ay loc bQ bB bR aV bp s' b7 xs kr)(dP:bB.heap.get? bR=none):
 bz w.params (aV++[bR]) (bp++[fs b7]) s'.heap∧Step [] bQ bB (aV++[bR]) s':=by
 refine⟨m.r.am.take m.ew m.mc (tX m.xr.grow kr),m.st.new.elim fun n g=>⟨⟨n++[bR],by rw[g.1,List.append_assoc],fun a aC=>?_⟩,m.st.keep,m.st.live,m.st.gens,m.st.os⟩⟩;rcases List.mem_append.mp aC with q|q
 .exact g.2 a q
 .rw[List.mem_singleton.mp q];exact dP
def tf (C:hT)(B:gE)(loc:List V)(f5:List Nat)(fD gZ:aG)(v:V)(H:List an)(k:Option V→List an→Prop):Prop:=
 iP C B.G (rH loc f5 v) fD (cG C B.G (rH loc f5 v) fD) H fun b be=>ao b (cG C B.G (rH loc f5 v) gZ be fun r ei=>k (E r) ei) (k dn be)
inductive Hi (P:dj)(B:gE)(I:Env)(ah:List bj)(ay:List Str)(loc:List V)(bQ:List bj)(bB:aS)(bR aM b3:bj)(k:Src)(go:Nat→Nat→List V→List an→List V→Prop)(len n:Nat)(s':aS):Prop
 |mk (i:Nat) (aV:List bj) (bp:List an) (b7:List V) (xs:List aj) (kr:Nat) (m:Str→Option aj) (bY:List V):oO P B I ah ay loc bQ bB bR aV bp s' b7 xs kr→aM∉aV→b3∉aV→gc k aM i s'.heap→jZ P aV s'.heap k bY→
  b7.length+n≤len→s'.heap.Ns b3 m→go n i bY bp b7→Hi P B I ah ay loc bQ bB bR aM b3 k go len n s'
theorem SV {x:Str}{y5:Env}{k:Src}{i:Nat}{b7:aj}{Q:g0→aS→Prop}(iT:Nat→aS→Prop)(n:Nat)(h:iT n s)(bX:gc k aM i s.heap)
 (turn:∀n s,iT n s→aO O w A (pyNext (.ref aM)) (fun r bC=>match r with
  |none=>Q .next bC
  |some v=>aO O w A (letOwnedTupleGo (.Name x ni) (.ref aM) v) (fun _ bC=>aO O w A (assign (.Name x ni) y5 v) (fun _ eg=>aO O w A (uA fO y5) (fun ok jR=>
   if ok=true then aO O w A (eval gT y5) (fun x sq=>aO O w A (call (.builtin "list.append") [b7,x]) (fun _ A2=>∃m,m<n∧iT m A2) sq) jR
   else∃m,m<n∧iT m jR) eg) bC) bC) s):codeN O w A (.compStart (.ListComp gT [⟨.Name x ni,iter,fO,0⟩] scope pos) 0 (.ref aM) b7 y5) Q s:=
 SW (IY iT turn n h) (acF bX (IY iT turn n h))
theorem I9 {x:Str}{Tm:Pos}{gZ jU fD:aG}{cl:List (Str×bj)}{use:Option (aj→Sem Unit)}
 (mo:pM I ay scope x f5 iF cl)(bD:A.handled=none)(aL:oa iter=true)(hi:nL O w B C A I ay iter jU)
 (he:∀bR,cV O w B C A (compEnvC scope cl bR I) (iF++[x]) gT gZ)
 (aI:(fO=[]∧fD=.bool true)∨∃c,fO=[c]∧∀bR,ST O w B C A (compEnvC scope cl bR I) (iF++[x]) c fD)
 {Q:bE}{sT:aj→aS→Prop}(h:cG C B.G loc (.comp f5 gZ jU fD) H Q)(r:b0 w.params B I ah ay ρ H loc s)
  (fin:∀bp aV bR b3 s' b7,Q (.ref bp.length) (bp++[fs b7])→bz w.params (aV++[bR]) (bp++[fs b7]) s'.heap→Step [] ρ s (aV++[bR]) s'→(∃m,s'.heap.Ns b3 m)→b3∉aV++[bR]→s.heap.get? b3=none→
   I7 O w A use sT (.ref bR) b3 s'):
  aO O w A (comprehension (.ListComp gT [⟨.Name x ni,iter,fO,0⟩] scope pos) scope I Tm (newList []) false (eval iter I) use) sT s:=by
  refine aaV rfl (JS aL I) mo.Tc mo.kind mo.names<|hi ah loc H ρ s _ _ h r fun ag vs aq bQ k aM bB s2 R cr cm bk bt mm ab ext lw keep=>?_
  have rB:=j2 R;have qo:=rB.1;replace rB:j3 (tf C B loc f5 fD gZ) (hk ag vs aq) (vs.length+1) 0 vs aq [] (fun b7 be=>Q (.ref be.length) (be++[fs b7])):=rB.2;clear R hi h;have cK:=r.step bk bt;refine cU (jC (hd:=by size_fits) ?_);refine cU (wpAny_newFunctionEnv mo.cell (by intro y cu;simp at cu) (fun bv wk tD=>?_) mo.kind);dsimp only at wk tD⊢;generalize ew:s2.heap.objs.size=bR at wk tD⊢;generalize m3:(s2.heap.push {cls:=.type "list",dict:=none,data:=.seq ([]:List aj).toArray}).objs.size=b3 at wk tD⊢;have Ca:b3=bR+1:=by rw[←m3,x5,ew]
  have yb:bR≠b3:=Ca▸(Nat.succ_ne_self bR).symm;have ku:s2.heap.get? bR=none:=ew▸kA _;have iJ:s2.heap.get? b3=none:=by
   cases q:s2.heap.get? b3 with
   |none=>rfl
   |some o=>exact absurd (ic q) (mK.mpr (by rw[ew,Ca];exact Nat.le_succ bR))
  have t8:∀a o,s2.heap.get? a=E o→bv.get? a=E o:=fun a o e=>
   tD.extBut a o (fun q=>hj (iJ.symm.trans (q▸e))) (fx _ (fx _ e))
  have Iu:bv.get? bR=E (listOf ([]:List aj).toArray 0):=tD.extBut bR _ yb (fx _ (ew▸g5 _ rfl));clear tD ew m3 Ca;have H7:∀{a},s2.heap.get? a=none→aM≠a:=fun e q=>mm.ex.elim fun o Ub=>hj (e.symm.trans (q▸Ub));have B4:=H7 ku;have B5:=H7 iJ;have dP:bB.heap.get? bR=none:=none_of ext ku;have n4:bB.heap.get? b3=none:=none_of ext iJ;have mr:s.heap.get? b3=none:=bk.live b3 n4;have ND:=Out.of cK ab;have ahl:=Out.of cK dP;have ET:=Out.of cK n4;have D0:∀a o,bB.heap.get? a=E o→bv.get? a=E o:=fun a o e=>t8 a o (ext a o e);refine SV (k:=k) (i:=0) (Hi w.params B I ah ay loc bQ bB bR aM b3 k (fun n i bY bp b7=>j3 (tf C B loc f5 fD gZ) (hk ag vs aq) n i bY bp b7 (fun b7 be=>Q (.ref be.length) (be++[fs b7]))) (vs.length+1)) (vs.length+1) ?_ (mm.keep fun o e=>t8 aM o e) fun n s' vT=>?_
  .have ft:∀t,Step [] bQ bB bQ {s2 with heap:=bv,toks:=t}:=fun t=>⟨⟨[],(List.append_nil _).symm,fun _ h=>nomatch h⟩,fun a o e _ _=>D0 a o e,fun a e=>none_of D0 e,cm.gens.trans bk.gens.symm,cm.os.trans bk.os.symm⟩
   exact .mk 0 bQ aq [] [] 0 _ vs ⟨cK.step (ft _) (cr.grow t8),ft _,o1 bt dP,Iu,.nil⟩ (o1 bt ab) (o1 bt n4) (mm.keep fun o e=>t8 aM o e)
    (lw.ext cr (o1 bt dP) (fun a o _ e=>t8 a o e) (fun o _ e=>by rw[ku] at e;exact c5 e)) (by rw[List.length_nil,GV];exact kN _) wk rB
  clear rB cr t8 Iu D0 wk mm lw ku iJ ext;cases vT with|mk i aV bp b7 xs kr m bY mid lv tz bX Kf zk DL b6=>
  induction n using ia with
  |zero=>exact fv b6
  |succ n=>
  replace b6:(match bY[i]? with
   |dn=>Q (.ref bp.length) (bp++[fs b7])
   |some v=>tf C B loc f5 fD gZ v bp fun r H6=>hk ag vs aq H6 fun ce=>j3 (tf C B loc f5 fD gZ) (hk ag vs aq) n (i+1) ce H6 (match r with|some x=>b7++[x]|dn=>b7) (fun b7 be=>Q (.ref be.length) (be++[fs b7]))):=b6
  refine cU (Ao bD bX Kf (fun v z h' di cp fX m5 eJ=>?_) fun m4 h' ex=>?_)
  .rw[cp] at b6;have ED:∀o,(∃xs n,o.data=.seq xs n)→s'.heap.get? aM≠E o:=fun o hd=>bX.not o (.inl hd);have uq:∀a o,a≠aM→s'.heap.get? a=E o→h'.get? a=E o:=fun a o eG e=>(eJ.2 a eG).trans e;have Et:=mid.but B4 lv ND ED uq di;have P7:=fX.mono (.but uq fun xs n=>ED _ ⟨xs.toArray,n,rfl⟩) mid.r.am.dg;have zr:h'.Ns b3 m:=DL.sameBut eJ B5.symm;clear eJ uq ED mid fX DL bX Kf cp;refine cU (NZ m5 (cU (x1 ?_)));refine wpAny_storeName_local (env:=compEnvC scope cl b3 I) (G3 mo.aR) zr (fun az tB OG=>?_) (by show(scope.kind== .class||(scope.kind== .module&&_))=false;rw[mo.kind];rfl);have AK:∀a o,a≠b3→h'.get? a=E o→az.get? a=E o:=fun a o eG e=>(OG.2 a eG).trans e;have Ah:=Et.but yb.symm tz ET (Nx zr) AK (di+1);have agV:=P7.mono (.but AK fun xs n=>Nx zr _ ⟨xs.toArray,n,rfl⟩) Et.r.am.dg;have K0:gc k aM (i+1) az:=m5.keep fun o e=>AK aM o B5 e;clear OG AK Et P7 zr m5;have Ot:b0 w.params B (compEnvC scope cl b3 I) (b3::cl.map (·.2)) (iF++[x]) aV bp (rH loc f5 v) {s' with heap:=az,toks:=di+1}:=b0.inner mo Ah.r tz ET.b ET.f tB (by simp) agV
   have Pu:∀{B9:Bool→aS→Prop},(∀b be cv s2,ao b (cG C B.G (rH loc f5 v) gZ be fun r ei=>hk ag vs aq ei fun ce=>j3 (tf C B loc f5 fD gZ) (hk ag vs aq) n (i+1) ce ei (b7++[r]) (fun b7 be=>Q (.ref be.length) (be++[fs b7])))
    (hk ag vs aq be fun ce=>j3 (tf C B loc f5 fD gZ) (hk ag vs aq) n (i+1) ce be b7 (fun b7 be=>Q (.ref be.length) (be++[fs b7])))→
    bz w.params cv be s2.heap→Step [] aV {s' with heap:=az,toks:=di+1} cv s2→B9 b s2)→aO O w A (uA fO (compEnvC scope cl b3 I)) B9 {s' with heap:=az,toks:=di+1}:=fun {B9} Mo=>by
    rcases aI with g|g
    .refine b8 g fun dh cj=>?_;clear g;subst dh;subst cj;exact af8 (Mo true bp aV _ b6 Ah.r.am (.refl _ _ _))
    .refine g.elim fun c g=>?_;cases g.1;exact af9 (g.2 b3 _ _ bp aV _ _ _ b6 Ot fun b be cv s2 Z cr cm=>Mo b be cv s2 Z cr cm)
   refine Pu fun b be cv i6 Z n0 kg=>?_;clear Pu b6;have abt:=K0.ex;have Ny:∀{cv:List bj} {s2:aS},Step [] aV {s' with heap:=az,toks:=di+1} cv s2→aM∉cv∧b3∉cv∧gc k aM (i+1) s2.heap:=fun st=>
    ⟨abt.elim fun o e=>st.fresh lv e,tB.elim fun o g=>g.elim fun es g=>g.elim fun ep g=>st.fresh tz g.1,K0.keep fun o e=>st.keep aM o e lv (fun h=>nomatch h)⟩
   induction b using eo with
   |false=>have MV:=Ah.step n0 kg kg.fresh;have Ez:=Ny kg;exact(keep [] cv be i6 _ (fun a aC=>nomatch aC) n0 MV.st Z).elim fun sz g=>⟨n,jy n,.mk (i+1) cv be b7 xs kr _ sz MV Ez.1 Ez.2.1 Ez.2.2 g.2 (Nat.le_of_succ_le zk) (Ap tB fun o e=>kg.keep b3 _ e tz (fun h=>nomatch h)) g.1⟩
   |true=>
    refine he b3 _ _ be cv i6 _ _ Z (Ot.step kg n0) fun u vj uP y w9 gV lA c6 uw=>?_;have AX:=kg.trans uw;have rS:=Ah.step lA AX AX.fresh;have EA:=Ny AX;have abq:=Ap tB fun o e=>AX.keep b3 _ e tz (fun h=>nomatch h);refine cU (IA rS.mc (o8 (by rw[←rS.xr.length];lia)) fun nY kv adO=>?_);have eJ:∀a o,a≠bR→w9.heap.get? a=E o→nY.get? a=E o:=fun a o eG e=>(adO.2 a eG).trans e;have N1:eK uP uP w9.heap nY:=.but eJ (ER rS.mc);have FV:Step [] bQ bB uP {w9 with heap:=nY}:=rS.st.but dP eJ w9.toks
    have Kz:bz w.params uP vj nY:=lA.same (fun a aC o e=>eJ a o (fun q=>rS.ew (q▸aC)) e) N1;exact(keep [] uP vj {w9 with heap:=nY} _ (fun a aC=>nomatch aC) Kz FV gV).elim fun sz g=>⟨n,jy n,.mk (i+1) uP vj (b7++[u]) (xs++[y]) (kr+1) _ sz ⟨cK.step FV Kz,FV,rS.ew,kv,(bK.snoc c6 rS.xr).mono N1 lA.dg⟩ EA.1 EA.2.1 (EA.2.2.keep fun o e=>eJ aM o B4 e) g.2
     (by rw[List.length_append];show b7.length+1+n≤_;lia) (Ap abq fun o e=>eJ b3 o yb.symm e) g.1⟩
  .rw[m4] at b6;have uq:∀a o,a≠aM→s'.heap.get? a=E o→h'.get? a=E o:=fun a o eG e=>ex a o eG e;have g:=(mid.but B4 lv ND (fun o hd=>bX.not o (.inl hd)) uq s'.toks).done dP;exact fin bp aV bR b3 _ b7 b6 g.1 (bk.trans g.2) ⟨m,Ap DL fun o e=>uq b3 o B5.symm e⟩ (fun q=>by
    rcases List.mem_append.mp q with q|q
    .exact tz q
    .exact yb (List.mem_singleton.mp q).symm) mr
theorem ad2 {x:Str}{gZ jU fD:aG}{cl:List (Str×bj)}
 (mo:pM I ay scope x f5 iF cl)(bD:A.handled=none)(aL:oa iter=true)(hi:nL O w B C A I ay iter jU)
 (he:∀bR,cV O w B C A (compEnvC scope cl bR I) (iF++[x]) gT gZ)
 (aI:(fO=[]∧fD=.bool true)∨∃c,fO=[c]∧∀bR,ST O w B C A (compEnvC scope cl bR I) (iF++[x]) c fD):
 cV O w B C A I ay (.ListComp gT [⟨.Name x ni,iter,fO,0⟩] scope pos) (.comp f5 gZ jU fD):=fun ah loc H ρ s Q K h r q=>by
 rw[eval_ListComp];refine I9 mo bD aL hi he aI h r fun bp aV bR b3 s' b7 a9 am st ⟨m,hm⟩ m3 mr=>⟨m,hm,fun h' eJ=>?_⟩;have aE:∀a o,a≠b3→s'.heap.get? a=E o→h'.get? a=E o:=fun a o eG e=>(eJ.2 a eG).trans e;have hB:∀o,(∃xs n,o=gO xs n)→s'.heap.get? b3≠E o:=fun o cW e=>by refine dr (t7 hm) fun o' cM a9=>?_;rw[e] at cM;obtain rfl:=cF cM;exact dD (sw cW) fun ys n hd=>a9 _ _ hd
 have p:eK (aV++[bR]) (aV++[bR]) s'.heap h':=⟨⟨[],by simp,fun _ h=>nomatch h⟩,fun a o e aC hd=>aE a o (fun q=>hB o hd (q▸e)) e⟩;have cr:bz w.params (aV++[bR]) (bp++[fs b7]) h':=am.other (fun a aC=>eJ.2 a fun q=>m3 (q▸aC)) p;refine q _ _ _ _ {s' with heap:=h'} a9 cr (.ref ?_) (st.but mr aE s'.toks)
 have:=am.len;simp only[List.length_append,List.length_singleton,Qu] at this;rw[←this,List.getElem?_append_right (kN _)];simp
theorem ae8 {x:Str}{gZ jU fD:aG}{cl:List (Str×bj)}{y:Str}{i:Nat}
 (mo:pM I ay scope x f5 iF cl)(bD:A.handled=none)(aL:oa iter=true)(hi:nL O w B C A I ay iter jU)
 (he:∀bR,cV O w B C A (compEnvC scope cl bR I) (iF++[x]) gT gZ)
 (aI:(fO=[]∧fD=.bool true)∨∃c,fO=[c]∧∀bR,ST O w B C A (compEnvC scope cl bR I) (iF++[x]) c fD)
 (cu:ay[i]? =E y)(c0:I.kindOf y=E .local)(DO:swapsWith (.ListComp gT [⟨.Name x ni,iter,fO,0⟩] scope pos) (E (.Name y p)) q.line I=pure true):
 hI O w B C A I ay (.Assign [.Name y p] (.ListComp gT [⟨.Name x ni,iter,fO,0⟩] scope pos) q) (.asg i (.comp f5 gZ jU fD)):=fun ah loc H ρ s Q K h r k=>by
 rw[exec_Assign_Name_used _ _ _ _ DO];refine fa (b1 ?_);refine(?_:aO O w A (comprehension _ scope I _ (newList []) false (eval iter I) (E (assign (.Name y p) I))>>=fun _=>pure ()) _ s);refine b1 (I9 (Q:=fun v bp=>Q .next (loc.set i v) bp) mo bD aL hi he aI h r fun bp aV bR b3 s' b7 a9 am st ⟨m,hm⟩ m3 mr=>?_);have cK:=r.step st am;have len:aV.length=bp.length:=by
  have:=am.len
  simpa only[List.length_append,List.length_singleton,Qu] using this
 have agJ:aN (aV++[bR]) s'.heap (.ref bp.length) (.ref bR):=.ref (by rw[←len,List.getElem?_append_right (kN _)];simp);have Ia:b3∉ah:=fun a9=>by refine dr (r.vN b3 a9) fun o e b9=>?_;clear b9;rw[mr] at e;exact c5 e
 refine cU (x1 (ux cu (.inl c0) cK agJ fun s2 dz cm _=>md hm fun o es ep bT=>b8 bT fun e hd=>?_));clear bT hm;have wj:s2.heap.Ns b3 m:=⟨o,es,ep,cm.keep b3 o e m3 Ia,hd⟩;refine⟨m,wj,fun h' eJ=>cN (cN ?_)⟩;have aE:∀a o,a≠b3→s2.heap.get? a=E o→h'.get? a=E o:=fun a o eG e=>(eJ.2 a eG).trans e;have hD:b0 w.params B I ah ay (aV++[bR]) (bp++[fs b7]) (loc.set i (.ref bp.length)) {s2 with heap:=h',toks:=s2.toks}:=dz.but aE m3 Ia (by
  cases q:B.h₀.get? b3 with
  |none=>rfl
  |some o=>rw[(r.bs b3 o q).1] at mr;exact py mr) (fun o ⟨ys,n,hd⟩ e=>by refine dr (t7 wj) fun o' cM a9=>?_;rw[e] at cM;obtain rfl:=cF cM;exact a9 _ _ hd) s2.toks
 exact k .next _ _ _ .next _ a9 hD trivial ((st.up.trans cm).but mr aE s2.toks)
section
open PySem.SeqAt
theorem Mi {f:V→V→Bool}{aA:List V→List V→Prop}(bl:aA [] [])(R:∀a r b t,f a b=true→qy f r t=true→aA r t→aA (a::r) (b::t)):∀{ce:List V},qy f vs ce=true→aA vs ce:=by
 induction vs with
 |nil=>intro ce h;induction ce using List.casesOn with
  |nil=>exact bl
  |cons=>exact hA h
 |cons a r aF=>intro ce h;induction ce using List.casesOn with
  |nil=>exact hA h
  |cons b t=>have h:=gD.mp h;exact R _ _ _ _ h.1 h.2 (aF h.2)
structure H9 (p:V→Bool)(vs ce:List V):Prop where
 l:vs.all p=true
 r:ce.all p=true
 len:vs.length=ce.length
theorem zY {f:V→V→Bool}{p:V→Bool}(hf:∀a b,f a b=true→p a=true∧p b=true)(h:qy f vs ce=true):H9 p vs ce:=
 Mi (aA:=H9 p) ⟨rfl,rfl,rfl⟩ (fun a r b t h _ k=>⟨gD.mpr ⟨(hf a b h).1,k.l⟩,gD.mpr ⟨(hf a b h).2,k.r⟩,congrArg Nat.succ k.len⟩) h
theorem wE {a b:V}{aA:Nat→V→V→Prop}(h:mq n a b=true)(hi:∀n x y,aA n (.int x) (.int y))(cW:∀m vs ce,qy (mq m) vs ce=true→aA (m+1) (.tup vs) (.tup ce)):aA n a b:=by
 induction n using ia with
 |zero=>induction a using V.casesOn with
  |int x=>induction b using V.casesOn with
   |int y=>exact hi _ x y
   |_=>exact hA h
  |_=>exact hA h
 |succ m=>induction a using V.casesOn with
  |int x=>induction b using V.casesOn with
   |int y=>exact hi _ x y
   |_=>exact hA h
  |tup vs=>induction b using V.casesOn with
   |tup ce=>exact cW m vs ce h
   |_=>exact hA h
  |_=>exact hA h
theorem zZ (n:Nat):∀(a b:V),mq n a b=true→bU n a=true∧bU n b=true:=by
 induction n with
 |zero=>exact fun a b h=>wE (aA:=fun n a b=>n=0→bU n a=true∧bU n b=true) h (fun n x y e=>by subst e;exact⟨rfl,rfl⟩) (fun m _ _ _ e=>nomatch e) rfl
 |succ n aF=>exact fun a b h=>wE (aA:=fun k a b=>k=n+1→bU k a=true∧bU k b=true) h (fun k x y e=>by subst e;exact⟨rfl,rfl⟩) (fun m vs ce h e=>by cases e;exact⟨(zY aF h).l,(zY aF h).r⟩) rfl
theorem MH (n:Nat)(A:fw)(i j:Int)(x y:aj)(s:aS)(Q b2:aj→aS→Prop)(bJ:aN ρ s.heap (.int i) x)(bm:aN ρ s.heap (.int j) y)(h:Q (.bool (ltV n (.int i) (.int j))) s):wpAny (model O w) A (richCompare .Lt x y) Q b2 s:=by refine bJ.fh ?_;intro t;refine bm.fh ?_;intro u;exact wpAny_lt_int (by cases n<;>exact h)
inductive re (ρ:List bj)(s:aS)(n:Nat)(q:Bool):List (aj×aj)→aS→Prop
 |mk (mE oy:List V) (xD kl:List aj):xD.length=kl.length→bK ρ s.heap mE xD→bK ρ s.heap oy kl→qy (mq n) mE oy=true→i2 (bn n) (ltV n) mE oy=q→re ρ s n q (List.zip xD kl) s
theorem re.step {q:Bool}{fb p2:aj}{c2:List (aj×aj)}{P:Prop}(h:re ρ s n q ((fb,p2)::c2) s')
 (k:∀v u mE oy,s'=s→aN ρ s.heap v fb→aN ρ s.heap u p2→mq n v u=true→(match bn n v u with|true=>i2 (bn n) (ltV n) mE oy|false=>ltV n v u)=q→(i2 (bn n) (ltV n) mE oy=q→re ρ s n q c2 s)→P):P:=by
 generalize hz:(fb,p2)::c2=zs at h;cases h with|mk mE oy xD kl ar dS nt aB ec=>
  cases dS with
  |nil=>cases hz
  |cons a1 dS=>cases nt with
   |nil=>cases hz
   |cons a2 nt=>cases hz;have aB:=gD.mp aB;exact k _ _ _ _ rfl a1 a2 aB.1 ec fun h=>.mk _ _ _ _ (lZ ar) dS nt aB.2 h
theorem re.fin {q:Bool}(h:re ρ s n q [] s'):s'=s∧q=false:=by
 generalize hz:[]=zs at h;cases h with|mk mE oy xD kl ar dS nt aB ec=>
  cases dS with
  |nil=>exact⟨rfl,by rw[←ec];clear nt aB ec;cases oy<;>rfl⟩
  |cons a1 dS=>clear aB ec;cases nt with
   |nil=>cases ar
   |cons a2 nt=>cases hz
theorem aab:Builtin.Tuple.tupleCompareSizes .Lt n n=.bool false:=by simp[Builtin.Tuple.tupleCompareSizes]
theorem aac (n:Nat):∀(A:fw) (a b:V) (x y:aj) (s:aS) (Q b2:aj→aS→Prop),mq n a b=true→aN ρ s.heap a x→aN ρ s.heap b y→A.units+n<cLine→Q (.bool (ltV n a b)) s→wpAny (model O w) A (richCompare .Lt x y) Q b2 s:=by
 induction n with
 |zero=>intro A a b x y s Q b2 h bJ bm bx;exact wE (aA:=fun n a b=>n=0→aN ρ s.heap a x→aN ρ s.heap b y→Q (.bool (ltV 0 a b)) s→wpAny (model O w) A (richCompare .Lt x y) Q b2 s) h (fun _ i j _ bJ bm q=>MH 0 A i j x y s Q b2 bJ bm q) (fun m _ _ _ e=>nomatch e) rfl bJ bm
 |succ n aF=>
  intro A a b x y s Q b2 h bJ bm bx;refine wE (aA:=fun k a b=>k=n+1→aN ρ s.heap a x→aN ρ s.heap b y→Q (.bool (ltV (n+1) a b)) s→wpAny (model O w) A (richCompare .Lt x y) Q b2 s) h (fun _ i j _ bJ bm q=>MH (n+1) A i j x y s Q b2 bJ bm q) (fun m vs ce h e bJ bm q=>?_) rfl bJ bm;cases e;replace q:Q (.bool (i2 (bn n) (ltV n) vs ce)) s:=q;refine bJ.gN ?_;intro l xs ba aW cK;refine bm.gN ?_;intro m ys bL aJ dz;clear bJ bm;have ct:=(isTup aW).typeIs;have Do:=(isTup aJ).typeIs;have aL:A.in1.units+n<cLine:=zB bx;have len:xs.length=ys.length:=cK.length.symm.trans ((zY (zZ n) h).len.trans dz.length);refine QA (op:=.Lt) (T:="tuple") ct Do PySem.F.slot_tuple_lt (hp PySem.F.slot_tuple_lt ct PySem.F.entry_tuple_lt ?_ (PySem.F.args_tuple_lt_2 _ _)) (mJ (sG _ _) bx);refine(?_:wpAny _ _ (isInstance (.ref m) (.type "tuple")>>=_) _ _ s);refine af (pJ Do isSubtype_tuple_tuple (e3 d8<|af (Hb aW rfl (af (Hb aJ rfl ?_)))));refine af<|u3 _ (fun c2 r s'=>r.1=none∧re ρ s n (i2 (bn n) (ltV n) vs ce) c2 s') _ ?_ ?_ _ _ ⟨rfl,.mk vs ce xs ys len cK dz h rfl⟩
  .intro pp c2 r s' hi;clear bJ bm aW cK aJ dz ct Do;obtain⟨fb,p2⟩:=pp;refine hi.2.step fun v u mE oy es a1 a2 aB ec zx=>?_;clear hi;subst es;have aD:=zZ n _ _ aB;refine af (Ec n A.in1 v u fb p2 aD.1 aD.2 a1 a2 aL O w _ _ ?_);cases a9:bn n v u with
   |true=>rw[a9] at ec;exact e3 d8 (aX ⟨rfl,zx ec⟩)
   |false=>rw[a9] at ec;refine uM rfl (af (iv (af (aF A.in1 v u fb p2 _ _ _ aB a1 a2 aL (af (aX (aX (aX ⟨_,rfl,by simp,?_⟩))))))));rw[←ec] at q;exact q
  .intro r s' hi;obtain⟨k3,cK⟩:=r;have hf:=hi.2.fin;have R:k3=none:=hi.1;subst R;clear hi;cases hf.1;rw[hf.2] at q;refine aX ⟨_,rfl,?_⟩;rw[List.size_toArray,List.size_toArray,len,aab];exact⟨by simp,q⟩
end
noncomputable def r1 (n:Nat):KasT (Array Nat)→Bool
 |.ret a=>c1 a.size n&&a.toList.all fun i=>dT i n
 |.ask i j k=>dT i n&&dT j n&&r1 n (k true)&&r1 n (k false)
theorem abF:r1 2 (oM 2)=true:=by decide+kernel
theorem abG:r1 3 (oM 3)=true:=by decide+kernel
theorem abH:r1 4 (oM 4)=true:=by decide+kernel
structure B6 (n:Nat)(a:Array Nat):Prop where
 size:a.size=n
 lt:∀i∈a.toList,i<n
theorem YT {cmp:Nat→Nat→(Bool→aS→Prop)→aS→Prop}{f:Nat→Nat→Bool}(aI:∀i j (C:Bool→aS→Prop),i<n→j<n→C (f i j) s→cmp i j C s)
 (t:KasT (Array Nat))(Q:Array Nat→aS→Prop):r1 n t=true→(B6 n (qx f t)→Q (qx f t) s)→t.kasWp cmp Q s:=by
 induction t with
 |ret a=>intro h q;have h:=gD.mp h;exact q ⟨fQ h.1,fun i hi=>d5 (List.all_eq_true.mp h.2 i hi)⟩
 |ask i j k aF=>
  intro h q;have h:=gD.mp h;have R:=gD.mp h.1;have Z:=gD.mp R.1;refine aI i j _ (d5 Z.1) (d5 Z.2)<|aF (f i j) ?_ q
  cases f i j
  .exact h.2
  .exact R.2
theorem ZF (bx:A.units+n<cLine){Q:Bool→aS→Prop}{fin:Bool}(hf:fin=false)(h:qy (mq n) vs ce=true):∀{xs ys:List aj} (i:Nat),bK ρ s.heap vs xs→bK ρ s.heap ce ys→Q (i2 (bn n) (ltV n) vs ce) s→
 KatLex O w A false fin Q (xs.zip ys) i s:=by
 subst hf;refine Mi (f:=mq n) (aA:=fun vs ce=>∀{xs ys:List aj} (i:Nat),bK ρ s.heap vs xs→bK ρ s.heap ce ys→Q (i2 (bn n) (ltV n) vs ce) s→KatLex O w A false false Q (xs.zip ys) i s) ?_ ?_ h
 .exact fun i a b q=>a.iK (b.iK q)
 .intro v vs u ce h _ aF xs ys i bJ bm q;refine bJ.gS fun _ _ a r=>bm.gS fun _ _ b t=>?_;have aD:=zZ n _ _ h;refine kat_cons (Ec n A v u _ _ aD.1 aD.2 a b bx O w _ _ ?_);replace q:Q (match bn n v u with|true=>i2 (bn n) (ltV n) vs ce|false=>ltV n v u) s:=q
  cases a9:bn n v u with
  |true=>rw[a9] at q;exact kat_yes (aF (i+1) r t q)
  |false=>rw[a9] at q;exact kat_no (kat_one _ _ (aac n A v u _ _ s _ _ h a b bx q))
structure QH (ρ:List bj)(h:fR)(vs:List V)(v:V)(x:aj):Prop where
 rel:aN ρ h v x
 mem:v∈vs
theorem Dh (r:bK ρ s.heap vs xs){i:Nat}(h:i<vs.length):QH ρ s.heap vs (vs.getD i .none) (xs.getD i .none):=by have e:vs[i]? =E vs[i]:=List.getElem?_eq_getElem h;refine(r.at e).elim fun x g=>?_;rw[List.getD_eq_getElem?_getD,e,List.getD_eq_getElem?_getD,g.1];exact⟨g.2,List.getElem_mem h⟩
structure Ip (vs:List V):Prop where
 len:vs.length≤4
 tup:∀a∈vs,uE a=true
 tO:∀a∈vs,∀b∈vs,mq 4 a b=true
theorem uv (h:sortable vs=true):Ip vs:=by have h:=gD.mp h;have g:=fun a aC=>gD.mp (List.all_eq_true.mp h.2 a aC);exact⟨d5 h.1,fun a aC=>(g a aC).1,fun a aC=>List.all_eq_true.mp (g a aC).2⟩
theorem aeY (h:sortable vs=true):vs.length≤4∧(∀a∈vs,uE a=true)∧∀a∈vs,∀b∈vs,mq 4 a b=true:=⟨(uv h).1,(uv h).2,(uv h).3⟩
theorem RS (bx:A.units+4<cLine)(r:bK ρ s.heap vs xs)(ok:Ip vs){i:Nat}{C:Bool→aS→Prop}(hi:i<vs.length)(co:j<vs.length)
 (h:C (ltV 4 (vs.getD i .none) (vs.getD j .none)) s):kas_ask O w A (tuples' false) xs i j C s:=by
 have g1:=Dh r hi;have bM:=Dh r co;unfold kas_ask;have k:=ok.tO _ g1.mem _ bM.mem;have t1:=ok.tup _ g1.mem;have bV:=g1.rel;have Gm:=bM.rel;clear g1 bM;revert h k t1 bV Gm;generalize vs.getD i .none=v;generalize vs.getD j .none=u;generalize xs.getD i .none=x;generalize xs.getD j .none=y;intro h k;revert h;refine wE (aA:=fun m v u=>m=4→C (ltV 4 v u) s→uE v=true→aN ρ s.heap v x→aN ρ s.heap u y→_) k (fun _ p q _ _ t1=>hA t1) (fun m ps ahn k em h _ bV Gm=>?_) rfl;cases em;refine bV.gN ?_;intro l zs ba eZ cK;refine Gm.gN ?_;intro iJ ys bL eC dz;refine kat_lt eZ rfl eC rfl (ZF (n:=3) (Bv bx) ?_ k 0 cK dz h);rw[decide_eq_false_iff_not,List.size_toArray,List.size_toArray,←cK.length,←dz.length,(zY (zZ 3) k).len];exact xU _
structure Q7 (s:aS)(xs fH:List aj):Prop where
 PP:KatTups s.heap xs fH
 len:fH.length=xs.length
 ref:∀f∈fH,∃a k zs,f=.ref a∧s.heap.get? a=E (gO zs k)
theorem agu {aA:V→Prop}(h:uE v=true)(k:∀bY r,aA (.tup (.tup bY::r))):aA v:=by
 induction v using V.casesOn with
 |tup vs=>induction vs using List.casesOn with
  |nil=>exact hA h
  |cons a r=>induction a using V.casesOn with
   |tup bY=>exact k bY r
   |_=>exact hA h
 |_=>exact hA h
theorem agz:∀{xs:List aj},bK ρ s.heap vs xs→(∀a∈vs,uE a=true)→∃fH,Q7 s xs fH:=by
 induction vs with
 |nil=>intro xs r _;exact r.iK ⟨[],.nil,rfl,fun f hf=>nomatch hf⟩
 |cons v vs aF=>
  intro xs r cW;refine r.gS fun y ys a r=>?_
  .refine(aF r fun a aC=>cW a (List.mem_cons_of_mem _ aC)).elim fun fH g=>?_;have t:=cW v List.mem_cons_self;clear aF cW;revert a;refine agu (aA:=fun v=>aN ρ s.heap v y→_) t fun bY r a=>a.gN ?_;intro l zs k o cK;revert o;refine cK.gS fun _ _ a1 cK=>?_
   .refine a1.gN ?_;intro iJ ag7 bL eC _ o;refine⟨.ref iJ::fH,KatTups.cons (f:=.ref iJ) o rfl rfl (by simp) g.PP,congrArg Nat.succ g.len,fun f hf=>?_⟩;rcases List.mem_cons.mp hf with hf|hf
    .exact⟨iJ,bL,ag7,hf,eC⟩
    .exact g.ref f hf
theorem aeZ (r:bK ρ s.heap vs xs)(p:List Nat)(a8:∀i∈p,i<vs.length):bK ρ s.heap (p.map fun i=>vs.getD i .none) (p.map fun i=>xs.getD i cg):=by
 induction p with
 |nil=>exact .nil
 |cons i p aF=>exact .cons (Dh r (a8 i List.mem_cons_self)).rel (aF fun j co=>a8 j (List.mem_cons_of_mem _ co))
theorem abI (h:2≤n)(cZ:n≤4):r1 n (oM n)=true:=by
 match n,h,cZ with
 |2,_,_=>exact abF
 |3,_,_=>exact abG
 |4,_,_=>exact abH
theorem aeW (h:vs.length<2):kf vs=vs:=by
 induction vs using List.casesOn with
 |nil=>rfl
 |cons a r=>induction r using List.casesOn with
  |nil=>rfl
  |cons b r=>exact absurd h (Nat.not_lt_of_le (Nat.le_add_left 2 r.length))
theorem aeX (h:¬vs.length<2):kf vs=(qx (fun i j=>ltV 4 (vs.getD i .none) (vs.getD j .none)) (oM vs.length)).toList.map fun i=>vs.getD i .none:=by
 induction vs using List.casesOn with
 |nil=>exact absurd (by decide:0<2) h
 |cons a r=>induction r using List.casesOn with
  |nil=>exact absurd (by decide:1<2) h
  |cons b r=>rfl
theorem WB (xs:List aj):(arrOf (SortSt.mk' general' (xs.toArray.zip xs.toArray) #[] 7 none)).map (·.2)=xs.toArray:=by refine(?_:(xs.toArray.zip xs.toArray).map (·.2)=xs.toArray);apply Array.toList_inj.mp;rw[Array.toList_map,Array.toList_zip];exact List.map_snd_zip (kN _)
theorem Fs (h:xs.length≤4):xs.toArray.size≤sizeLine:=by rw[List.size_toArray];exact e4 h (by decide)
theorem ZO (bx:A.units+4<cLine){P:PySem.Fin→aS→Prop}(am:bz w.params ρ H s.heap)(aC:a∉ρ)(ax:s.heap.get? a=E (seqObj "list" xs.toArray n))(r:bK ρ s.heap vs xs)(aE:sortable vs=true)
 (h:∀h' ys c,(∀b o,b≠a→s.heap.get? b=E o→h'.get? b=E o)→h'.get? a=E (listOf ys.toArray c)→bK ρ h' (kf vs) ys→P (.done (.ret .none)) {s with heap:=h'}):
 wpAny (model O w) A (Builtin.«list.sort» ⟨[.ref a],[]⟩) P b2 s:=by
 have ok:=uv aE;have aR:xs.length=vs.length:=r.length.symm;have cZ:xs.length≤4:=aR▸ok.len;have hB:=ER ax;refine(⟨_,get?_update_seq ax fun _=>#[]⟩:∃aW,(s.heap.update a (Obj.mapSeq fun _=>(#[]:Array aj))).get? a=E (seqObj "list" #[] aW)).elim fun aW wm=>?_;have uo:=kp s.heap a (Obj.mapSeq fun _=>(#[]:Array aj));rw[list_sort_plain];refine af (listItems_at ax rfl (af (GY ax rfl ?_ (Fs cZ) (jz _))));revert uo wm;generalize s.heap.update a (Obj.mapSeq fun _=>(#[]:Array aj))=R;intro wm uo;refine af (seqEpoch_at wm rfl (af (wpAny_newTuple ?_ (e4 cZ (by decide)))));refine af (wpAny_newList ?_ (jz _));have bS:∀b o,b≠a→s.heap.get? b=E o→((R.push (seqObj "tuple" xs.toArray 0)).push (seqObj "list" #[] 0)).get? b=E o:=fun b o eG e=>fx _ (fx _ ((uo.2 b eG).trans e));have jO:((R.push (seqObj "tuple" xs.toArray 0)).push (seqObj "list" #[] 0)).get? a=E (seqObj "list" #[] aW):=fx _ (fx _ wm);refine gb ?_;refine(?_:wpAny (model O w) A _ P b2 {s with heap:=(R.push (seqObj "tuple" xs.toArray 0)).push (seqObj "list" #[] 0)})
 revert bS jO;generalize (R.push (seqObj "tuple" xs.toArray 0)).push (seqObj "list" #[] 0)=bv;intro bS jO;clear uo wm ax;have f7:bz w.params ρ H bv:=am.same (fun b az o e=>bS b o (fun q=>aC (q▸az)) e) (.but bS hB);have hD:bK ρ bv vs xs:=r.mono (.but bS hB) am.dg;have fin:∀(ys:List aj),bK ρ bv (kf vs) ys→ys.length≤4→P (.done (.ret .none)) {s with heap:=bv.update a (Obj.mapSeq fun _=>ys.toArray)}:=fun ys c6 ar=>by refine(⟨_,get?_update_seq jO fun _=>ys.toArray⟩:∃dX,(bv.update a (Obj.mapSeq fun _=>ys.toArray)).get? a=E (seqObj "list" ys.toArray dX)).elim fun dX W8=>?_;have se:=kp bv a (Obj.mapSeq fun _=>ys.toArray);exact h _ ys dX (fun b o eG e=>(se.2 b eG).trans (bS b o eG e)) W8 (c6.mono (.but (fun b o eG e=>(se.2 b eG).trans e) (ER jO)) f7.dg)
 dsimp only
 by_cases Z:xs.length<2
 .have ry:xs.toArray.size<2:=by rw[List.size_toArray];exact Z
  refine uM ry (af (aX (af ?_)));rw[if_pos ry];refine aX ?_;dsimp only;rw[WB];refine af (seqEpoch_at jO rfl (af (GY jO rfl ?_ (jz _) (Bu (Fs cZ)))));exact e3 wV (aX (fin xs ((aeW (aR▸Z)).symm▸hD) cZ))
 .have ry:¬xs.toArray.size<2:=by rw[List.size_toArray];exact Z
  have Dk:=Nat.le_of_not_lt Z;refine(agz (s:={s with heap:=bv}) hD ok.tup).elim fun fH f=>?_
  refine e3 ry (af (kat_kind (T:=.type "tuple") f.PP (by rw[f.len];exact Nat.lt_of_succ_le (Nat.le_of_succ_le Dk)) (fun v cp=>?_) (by decide) ?_))
  .exact(f.ref v cp).elim fun b g=>g.elim fun k g=>g.elim fun zs g=>g.1▸(x7 g.2).andThen .now
  rw[if_neg ry,show(cD "tuple" !=cD "tuple")=false from by decide];have run:=YT (n:=xs.length) (s:={s with heap:=bv}) (cmp:=kas_ask O w A (tuples' false) xs) (f:=fun i j=>ltV 4 (vs.getD i .none) (vs.getD j .none)) (fun i j C hi co h3=>RS (s:={s with heap:=bv}) bx hD ok (aR▸hi) (aR▸co) h3) (oM xs.length)
   (fun p s'=>s'={s with heap:=bv}∧p=qx (fun i j=>ltV 4 (vs.getD i .none) (vs.getD j .none)) (oM xs.length)∧B6 xs.length p) (abI Dk cZ) (fun q=>⟨rfl,rfl,q⟩)
  refine af (sM (kat_run (Q:=fun el s'=>failedOf el=none∧∃p:Array Nat,arrOf el=p.map (kas_item (xs.toArray.zip xs.toArray))∧s'={s with heap:=bv}∧p=qx (fun i j=>ltV 4 (vs.getD i .none) (vs.getD j .none)) (oM xs.length)∧B6 xs.length p)
   rfl Dk (mJ cZ (by decide)) (fun od el s' a1 a2 a3 s8=>⟨a3,od,a2,s8⟩) run) (fun r s' g=>?_) fun _ _ e=>e)
  obtain⟨⟨⟩,el⟩:=r;refine g.2.elim fun p bM=>?_;have hf:=g.1;clear g;cases bM.2.1;dsimp only at hf⊢;rw[kat_snds (vs:=xs) rfl bM.1];have NT:=bM.2.2.2;have c6:bK ρ bv (kf vs) (p.toList.map fun i=>xs.getD i cg):=by rw[aeX (aR▸Z),←aR,←bM.2.2.1];exact aeZ (s:={s with heap:=bv}) hD p.toList (fun i hi=>aR▸NT.lt i hi)
  have U:(p.toList.map fun i=>xs.getD i cg).length≤4:=by rw[List.length_map,xH,NT.size];exact cZ
  refine af (seqEpoch_at jO rfl (af (GY jO rfl ?_ (jz _) (Bu (Fs U)))));rw[hf];exact e3 wV (aX (fin _ c6 U))
theorem O5 (bx:A.units+20<cLine){r:aj}(am:bz w.params ρ H s.heap)(aE:sortable vs=true)
 (aI:∀{x8:fw} {b2:aj→aS→Prop} {b0:List aj→aS→Prop},x8.handled=A.handled→(∀R di xs,(∀b o,s.heap.get? b=E o→R.get? b=E o)→bK ρ R vs xs→b0 xs {s with heap:=R,toks:=di})→wpAny (model O w) x8 (collect r) b0 b2 s)
 (h:∀bR h' t ys c,s.heap.get? bR=none→(∀b o,s.heap.get? b=E o→h'.get? b=E o)→h'.get? bR=E (listOf ys.toArray c)→bK ρ h' (kf vs) ys→Q (.ref bR) {s with heap:=h',toks:=t}):
 wpAny (model O w) A (call (.builtin "sorted") [r]) Q b2 s:=by
 refine QB kind_sorted plain_sorted entry_sorted (args_sorted1 _) ?_;unfold Builtin.«sorted»;refine af (m:=checkCount "sorted" 1 1 _) (aX ?_);refine af (aI rfl fun R di xs ba cK=>af (wpAny_newList ?_ (e4 (e4 (sH cK.length.symm) (uv aE).len) (by decide))));have ew:(R.push (seqObj "list" xs.toArray 0)).get? R.objs.size=E (seqObj "list" xs.toArray 0):=g5 _ rfl;have bS:∀b o,R.get? b=E o→(R.push (seqObj "list" xs.toArray 0)).get? b=E o:=fun b o e=>fx _ e;have mY:s.heap.get? R.objs.size=none:=none_of ba (kA R);revert ew bS mY;generalize R.push (seqObj "list" xs.toArray 0)=Z;generalize R.objs.size=bR;intro ew bS mY;refine af (gb (hp slot_list_sort ⟨_,ew,rfl⟩ entry_list_sort ?_ (args_list_sort _)));refine ZO (s:={s with heap:=Z,toks:=di}) (by simp only[Around.in1_units];lia) ((am.grow ba).grow bS) (o1 am mY) ew (cK.mono (.grow bS) (am.grow ba).dg) aE fun h' ys c gI e c6=>?_
 exact⟨_,rfl,aX ⟨_,rfl,h _ h' di ys c mY (fun b o ih=>gI b o (fun q=>by rw[q,mY] at ih;exact c5 ih) (bS b o (ba b o ih))) e c6⟩⟩
theorem O6 (bx:A.units+20<cLine){l:bj}(am:bz w.params ρ H s.heap)(ax:s.heap.get? l=E (listOf xs.toArray n))(r:bK ρ s.heap vs xs)(aE:sortable vs=true)
 (h:∀bR h' t ys c,s.heap.get? bR=none→(∀b o,s.heap.get? b=E o→h'.get? b=E o)→h'.get? bR=E (listOf ys.toArray c)→bK ρ h' (kf vs) ys→Q (.ref bR) {s with heap:=h',toks:=t}):
 wpAny (model O w) A (call (.builtin "sorted") [.ref l]) Q b2 s:=by
 refine O5 bx am aE (fun {x8} {b2} {b0} _ al=>?_) h;refine collect_list (isList ax) ?_ (by rw[←r.length,BC];exact e4 (uv aE).len (by decide));have eJ:=kp (s.heap.push (seqObj "list" #[] 0)) s.heap.objs.size (Obj.mapSeq (· ++xs.toArray));have k:∀b o,s.heap.get? b=E o→((s.heap.push (seqObj "list" #[] 0)).update s.heap.objs.size (Obj.mapSeq (· ++xs.toArray))).get? b=E o:=fun b o e=>(eJ.2 b (ny (ic e))).trans (fx _ e);exact al _ s.toks xs k (r.mono (.grow k) am.dg)
theorem Si (bx:A.units+20<cLine):nF O w A (.builtin "sorted") .sorted:=fun vs ys H ρ s Q K h am bV hm q=>by
 refine td (h:a1 vs _) bV ?_;intro v y h c6
 induction v using V.casesOn with
 |ref l=>_
 |_=>exact fv h
 revert h;refine c6.hl ?_;intro a ar h;replace h:Fw (.ref l) H Q:=h;dsimp only[Fw] at h;generalize e:H[l]? =f9 at h
 induction f9 using ez with
 |none=>exact fv h
 |some o=>induction o using an.casesOn with
  |«list» bY=>have h:=fM h;exact(am.list ar e).elim fun xs g=>g.elim fun n g=>cU (O6 bx am g.1 g.2 h.1 fun bR h' t ys c mY gI cM xw=>An am q h.2 mY gI cM fun p=>tX xw.grow c)
  |«ints» bY=>induction bY using List.casesOn with
   |cons=>exact fv h
   |nil=>refine(am.ints ar e).elim fun xs g=>g.elim fun n g=>?_;have r:=zE (ρ:=ρ) (h:=s.heap) g.2;refine cU (O6 (vs:=[]) bx am g.1 r rfl fun bR h' t ys c mY gI cM xw=>?_);cases xw;exact An am q h mY gI cM fun p=>.ints .nil
  |_=>exact fv h
mutual
noncomputable def qN (f:Nat→Nat):V→V
 |.ref l=>.ref (f l)
 |.tup vs=>.tup (mw f vs)
 |v=>v
noncomputable def mw (f:Nat→Nat):List V→List V
 | []=>[]
 |v::vs=>qN f v::mw f vs
end
def ui (f:Nat→Nat):List (V×V)→List (V×V)
 | []=>[]
 |e::es=>(e.1,qN f e.2)::ui f es
def jQ (f:Nat→Nat):an→an
 |.list vs=>.list (mw f vs)
 |.dict es n=>.dict (ui f es) n
 |.inst d=>.inst (f d)
 |o=>o
mutual
noncomputable def AF:V→List Nat
 |.ref l=>[l]
 |.tup vs=>kJ vs
 |_=>[]
noncomputable def kJ:List V→List Nat
 | []=>[]
 |v::vs=>AF v++kJ vs
end
def Oo:List (V×V)→List Nat
 | []=>[]
 |e::es=>AF e.2++Oo es
def Op:an→List Nat
 |.list vs=>kJ vs
 |.dict es _=>Oo es
 |.inst d=>[d]
 |_=>[]
def E8:List an→List Nat
 | []=>[]
 |o::os=>Op o++E8 os
noncomputable def eW:List Nat→Nat→Bool
 | [],_=>false
 |a::r,n=>match c1 a n with|true=>true|false=>eW r n
noncomputable def iN:List Nat→Nat→Nat
 | [],_=>0
 |a::r,n=>match c1 a n with|true=>0|false=>iN r n+1
def i3:List Nat→Bool
 | []=>true
 |a::r=> !eW r a&&i3 r
def reach (H:List an):Nat→List Nat→List Nat→List Nat
 |0,_,b7=>b7
 |_+1,[],b7=>b7
 |n+1,l::t,b7=>match eW b7 l with
  |true=>reach H n t b7
  |false=>match H[l]? with
   |some o=>reach H n (Op o++t) (b7++[l])
   |dn=>reach H n t b7
def lK (p:Nat→Bool)(H:List an)(l:Nat):Bool:=match H[l]? with|some o=>hR p o|dn=>false
noncomputable def j5 (H:List an)(l:Nat):an:=H.getD l (.ints [])
noncomputable def lS:List an→List Nat→List an→List an
 |H,l::hx,o::os=>lS (H.set l o) hx os
 |H,_,_=>H
def qT (sel gW:List Nat)(m j:Nat):Nat:=match dT j sel.length with|true=>sel.getD j 0|false=>m+iN gW j
def ZC (sel gW:List Nat)(H:List an)(r:V)(aq:List an)(K:bE):Prop:=
 ao (i3 gW&&(gW.all fun j=>de sel.length j)&&kH (fun j=>dT j sel.length||eW gW j) r&&(aq.take sel.length).all (hR fun j=>dT j sel.length||eW gW j)&&gW.all (lK (fun j=>dT j sel.length||eW gW j) aq))
  (K (qN (qT sel gW H.length) r) (lS H sel ((aq.take sel.length).map (jQ (qT sel gW H.length)))++gW.map fun j=>jQ (qT sel gW H.length) (j5 aq j))) False
def iq (sel:List Nat)(H:List an)(r:V)(aq:List an)(K:bE):Prop:=ZC sel ((reach aq 300 (AF r++E8 (aq.take sel.length)) []).filter fun j=>de sel.length j) H r aq K
def C0 (f:List V→List an→bE→Prop)(sel:List Nat)(vs:List V)(H:List an)(K:bE):Prop:=
 ao (i3 sel&&iM (eW sel) vs&&sel.all (lK (eW sel) H)) (f (mw (iN sel) vs) (sel.map fun l=>jQ (iN sel) (j5 H l)) fun r aq=>iq sel H r aq K) False
def p9 (f:List V→List an→bE→Prop)(vs:List V)(H:List an)(K:bE):Prop:=C0 f (reach H 300 (kJ vs) []) vs H K
@[elab_as_elim] theorem Kg {a:Nat}{r:List Nat}{aA:Bool→Prop}(R:a=n→aA true)(Z:c1 a n=false→aA (eW r n)):aA (eW (a::r) n):=by
 refine(?_:aA (match c1 a n with|true=>true|false=>eW r n))
 cases e:c1 a n with
 |true=>exact R (fQ e)
 |false=>exact Z e
theorem W3 {l:List Nat}:eW l n=true→n∈l:=
 List.rec (motive:=fun l=>eW l n=true→n∈l) (fun h=>dZ h) (fun a r aF=>Kg (aA:=fun b=>b=true→n∈a::r) (fun e _=>e▸List.mem_cons_self) fun _ h=>List.mem_cons_of_mem _ (aF h)) l
theorem aao {l:List Nat}:n∈l→eW l n=true:=
 List.rec (motive:=fun l=>n∈l→eW l n=true) (fun h=>nomatch h) (fun a r aF h=>Kg (aA:=fun b=>b=true) (fun _=>rfl) fun e=>(List.mem_cons.mp h).elim (fun q=>by rw[q,pH] at e;exact j9 e) aF) l
set_option tactic.hygienic true in
theorem E3:∀{l:List Nat} {n:Nat},eW l n=true→l[iN l n]? =E n
 |a::r,n,h=>by
  unfold eW at h;unfold iN
  split at h
  .rename_i e;simp[e,fQ e]
  .rename_i e;simpa [e] using E3 h
theorem wX:∀{l:List Nat},i3 l=true→l.Nodup
 | [],_=>List.nodup_nil
 |a::r,h=>by unfold i3 at h;rw[fJ,km] at h;exact List.nodup_cons.mpr ⟨fun hm=>(by have:=h.1;rw[aao hm] at this;exact j9 this),wX h.2⟩
theorem aN.lR {p:Nat→Bool}{f:Nat→Nat}(hf:∀(l:Nat) a,p l=true→ρ[l]? =E a→aV[f l]? =E a){x:aj}(r:aN ρ h v x):kH p v=true→aN aV h (qN f v) x:=
 aN.rec (motive_1:=fun v x _=>kH p v=true→aN aV h (qN f v) x) (motive_2:=fun vs xs _=>iM p vs=true→bK aV h (mw f vs) xs)
  (fun _=>.none) (fun b _=>.bool b) (fun i t _=>.int i t) (fun x t e _=>.str x t e) (fun a t e _=>.bytes a t e) (fun e _ aF k=>.tup e (aF k)) (fun e k=>.ref (hf _ _ k e)) (fun _=>.nil) (fun _ _ a b k=>b5 k fun ba bL=>.cons (a ba) (b bL)) r
theorem bK.lR {p:Nat→Bool}{f:Nat→Nat}(hf:∀(l:Nat) a,p l=true→ρ[l]? =E a→aV[f l]? =E a)(r:bK ρ h vs xs):iM p vs=true→bK aV h (mw f vs) xs:=
 bK.rec (motive_1:=fun _ _ _=>True) (motive_2:=fun vs xs _=>iM p vs=true→bK aV h (mw f vs) xs)
  trivial (fun _=>trivial) (fun _ _=>trivial) (fun _ _ _=>trivial) (fun _ _ _=>trivial) (fun _ _ _=>trivial) (fun _=>trivial) (fun _=>.nil) (fun a _ _ b k=>b5 k fun ba bL=>.cons (a.lR hf ba) (b bL)) r
theorem acJ {f:Nat→Nat}(aF:∀{v:V},bU n v=true→qN f v=v)(vs:List V):vs.all (bU n)=true→mw f vs=vs:=
 List.rec (motive:=fun vs=>vs.all (bU n)=true→mw f vs=vs) (fun _=>rfl) (fun v vs k h=>b5 h fun R Z=>by show qN f v::mw f vs=_;rw[aF R,k Z]) vs
theorem acI {f:Nat→Nat}(n:Nat):∀{v:V},bU n v=true→qN f v=v:=by
 induction n with
 |zero=>intro v h;exact zF h (fun _=>rfl) (fun _=>rfl) fun m vs e _=>nomatch e
 |succ n aF=>intro v h;exact zF h (fun _=>rfl) (fun _=>rfl) fun m vs e h=>congrArg V.tup (acJ aF vs (lZ e▸h))
theorem dc.lR {p:Nat→Bool}{f:Nat→Nat}(hf:∀(l:Nat) a,p l=true→ρ[l]? =E a→aV[f l]? =E a){xs:List c3}(r:dc P ρ h es xs):(∀e∈es,bU 4 e.1=true)→pj p es=true→dc P aV h (ui f es) xs:=
 dc.rec (motive:=fun es xs _=>(∀e∈es,bU 4 e.1=true)→pj p es=true→dc P aV h (ui f es) xs) (fun _ _=>.nil)
  (fun a b c _ aF aD q=>b5 q fun cj b9=>.cons (acI 4 (aD _ List.mem_cons_self)▸a.lR hf (NQ (aD _ List.mem_cons_self))) (b.lR hf cj) c (aF (fun e he=>aD e (List.mem_cons_of_mem _ he)) b9)) r
theorem E9 {f:Nat→Nat}:∀{es:List (V×V)},(ui f es).map (·.1)=es.map (·.1)
 | []=>rfl
 |e::es=>by show e.1::(ui f es).map (·.1)=_;rw[E9];rfl
theorem eF.lR {p:Nat→Bool}{f:Nat→Nat}(hf:∀(l:Nat) a,p l=true→ρ[l]? =E a→aV[f l]? =E a){o:an}(r:eF P ρ h o ob):hR p o=true→eF P aV h (jQ f o) ob:=
 eF.casesOn (motive:=fun o ob _=>hR p o=true→eF P aV h (jQ f o) ob) r (fun r k=>.list (r.lR hf k)) (fun r _=>.ints r) (fun r a b k=>.dict (r.lR hf a k) (D8 E9 a) (tn.mpr (by rw[E9];exact tn.mp b))) (fun a b k=>.inst a (hf _ _ k b)) (fun b e _=>.cB b e) (fun b _=>.d6 b)
set_option tactic.hygienic true in
theorem NL {p:Nat→Bool}{l:Nat}(h:lK p H l=true):∃o,H[l]? =E o∧hR p o=true∧j5 H l=o:=by
 unfold lK at h
 split at h
 .rename_i o e;exact⟨o,e,h,by unfold j5;rw[List.getD_eq_getElem?_getD,e];rfl⟩
 .exact dZ h
theorem bz.part (x:bz P ρ H h)(eX:i3 sel=true)(ok:sel.all (lK (eW sel) H)=true):
 bz P (sel.map fun l=>ρ.getD l 0) (sel.map fun l=>jQ (iN sel) (j5 H l)) h∧(∀(l:Nat) a,eW sel l=true→ρ[l]? =E a→(sel.map fun l=>ρ.getD l 0)[iN sel l]? =E a)∧
  (∀l∈sel,ρ[l]? =E (ρ.getD l 0)):=by
 have KO:∀l∈sel,∃o a,H[l]? =E o∧ρ[l]? =E a∧hR (eW sel) o=true∧j5 H l=o:=fun l ar=>by refine gz (NL (List.all_eq_true.mp ok l ar)) fun o e k g=>?_;have ec:l<ρ.length:=x.len▸(List.getElem?_eq_some_iff.mp e).1;exact⟨o,ρ[l],e,List.getElem?_eq_getElem ec,k,g⟩
 have nX:∀{l:Nat} {a:bj},ρ[l]? =E a→ρ.getD l 0=a:=fun e=>by rw[List.getD_eq_getElem?_getD,e];rfl
 have hf:∀(l:Nat) a,eW sel l=true→ρ[l]? =E a→(sel.map fun l=>ρ.getD l 0)[iN sel l]? =E a:=fun l a ar e=>by rw[List.getElem?_map,E3 ar];exact congrArg E (nX e)
 have all:∀l∈sel,ρ[l]? =E (ρ.getD l 0):=fun l ar=>by refine oA (KO l ar) fun o a b9 e eH=>?_;clear b9 eH;rw[e,nX e]
 refine⟨⟨by simp,?_,fun i o a ax aC=>?_⟩,hf,all⟩
 .rw[List.nodup_iff_pairwise_ne,List.pairwise_map];refine List.Pairwise.imp_of_mem (fun {i j} hi co eG e=>eG (rZ x.eX (all i hi) (e▸all j co))) (wX eX)
 .rw[List.getElem?_map] at ax aC;refine eB ax fun l ij=>?_;rw[ij] at aC;obtain rfl:=cF aC;refine nv (KO l (List.mem_of_getElem? ij)) fun o a aW aJ k g=>dr (x.at_ l o a aW aJ) fun ob R Z=>?_;refine⟨ob,?_,by rw[g];exact Z.lR hf k⟩;refine(?_:h.get? (ρ.getD l 0)=E ob);rw[nX aJ];exact R
theorem OJ:∀{hx:List Nat} {H os:List an},(lS H hx os).length=H.length
 | [],_,_=>by unfold lS;rfl
 |l::hx,H,[]=>rfl
 |l::hx,H,o::os=>by refine(?_:(lS (H.set l o) hx os).length=_);rw[OJ,List.length_set]
theorem Fi:∀{hx:List Nat} {H os:List an} {i:Nat},i∉hx→(lS H hx os)[i]? =H[i]?
 | [],_,_,_,_=>by unfold lS;rfl
 |l::hx,H,[],_,_=>rfl
 |l::hx,H,o::os,i,h=>by refine(?_:(lS (H.set l o) hx os)[i]? =_);have eG:l≠i:=fun q=>h (by rw[q];exact List.mem_cons_self);rw[Fi fun q=>h (List.mem_cons_of_mem _ q),List.getElem?_set_ne eG]
theorem OI:∀{hx:List Nat} {H os:List an} {i j:Nat} {o:an},hx.Nodup→hx[j]? =E i→os[j]? =E o→i<H.length→(lS H hx os)[i]? =E o
 | [],_,_,_,_,_,_,h,_,_=>by simp at h
 |l::hx,H,[],_,_,_,_,_,h,_=>by simp at h
 |l::hx,H,o'::os,i,0,o,eX,R,Z,hi=>by obtain rfl:=cF R;obtain rfl:=cF Z;refine(?_:(lS (H.set l o') hx os)[l]? =_);rw[Fi (List.nodup_cons.mp eX).1,List.getElem?_set_self hi]
 |l::hx,H,o'::os,i,j+1,o,eX,R,Z,hi=>by refine(?_:(lS (H.set l o') hx os)[i]? =_);exact OI (List.nodup_cons.mp eX).2 (by simpa using R) (by simpa using Z) (by rw[List.length_set];exact hi)
theorem Mw {mH:List bj}{aq:List an}{r:V}(am:bz P ρ H s.heap)(aa6:i3 sel=true)(all:∀l∈sel,ρ[l]? =E (ρ.getD l 0))(eU:mH=sel.map fun l=>ρ.getD l 0)
 (bt:bz P bQ aq bB.heap)(c6:aN bQ bB.heap r y)(st:Step [] mH s bQ bB)(h:iq sel H r aq K)(q:∀i5 bp aV,K i5 bp→bz P aV bp bB.heap→aN aV bB.heap i5 y→Step [] ρ s aV bB→G):G:=by
 unfold iq at h;generalize ((reach aq 300 (AF r++E8 (aq.take sel.length)) []).filter fun j=>de sel.length j)=gW at h;refine j1 h fun c h=>?_;simp only[fJ] at c;refine b8 c fun dh lm=>?_;clear c;refine b8 dh fun iB iU=>?_;clear dh;refine b8 iB fun dh gp=>?_;clear iB;refine b8 dh fun dE dX=>?_;clear dh;generalize a8:(fun j=>dT j sel.length||eW gW j)=p at gp iU lm;refine dr st.new fun rV aW aL=>?_;have mr:mH.length=sel.length:=by rw[eU,List.length_map]
 have tT:ρ.length=H.length:=am.len;have nX:∀{l:List bj} {j:Nat} {a:bj},l[j]? =E a→l.getD j 0=a:=fun e=>by rw[List.getD_eq_getElem?_getD,e];rfl
 have tO:∀j∈gW,sel.length≤j∧∃o a,aq[j]? =E o∧bQ[j]? =E a∧hR p o=true∧j5 aq j=o∧a∈rV:=fun j co=>by have wg:sel.length≤j:=d5 (List.all_eq_true.mp dX j co);refine gz (NL (List.all_eq_true.mp lm j co)) fun o e k g=>?_;have ec:j<bQ.length:=bt.len▸(List.getElem?_eq_some_iff.mp e).1;refine⟨wg,o,bQ[j],e,List.getElem?_eq_getElem ec,k,g,?_⟩;have iX:=List.getElem?_eq_getElem ec;generalize bQ[j]=a at iX;rw[aW,List.getElem?_append_right (by rw[mr];exact wg)] at iX;exact List.mem_of_getElem? iX
 let aV:=ρ++gW.map fun j=>bQ.getD j 0
 have F4:∀(j:Nat) a,p j=true→bQ[j]? =E a→aV[qT sel gW H.length j]? =E a:=fun j a co e=>by
  unfold qT;cases az:dT j sel.length with
  |true=>
   have ec:j<sel.length:=d5 az;rw[aW,List.getElem?_append_left (by rw[mr];exact ec),eU,List.getElem?_map,List.getElem?_eq_getElem ec] at e;have iX:ρ.getD sel[j] 0=a:=fe e;have es:sel.getD j 0=sel[j]:=by rw[List.getD_eq_getElem?_getD,List.getElem?_eq_getElem ec];rfl
   refine(?_:aV[sel.getD j 0]? =E a);rw[es];exact get_append (by rw[all _ (List.getElem_mem ec),iX])
  |false=>rw[←a8] at co;change (dT j sel.length||eW gW j)=true at co;rw[az,Bool.false_or] at co;refine(?_:aV[H.length+iN gW j]? =E a);rw[List.getElem?_append_right (by rw[tT];exact sG _ _),tT,sF,List.getElem?_map,E3 co];exact congrArg E (nX e)
 have fresh:∀j∈gW,s.heap.get? (bQ.getD j 0)=none:=fun j co=>by obtain⟨_,o,a,_,e,_,_,hm⟩:=tO j co;rw[nX e];exact aL a hm
 have Nn:∀a∈gW.map (fun j=>bQ.getD j 0),s.heap.get? a=none:=fun a aC=>by refine dr (List.mem_map.mp aC) fun j co b9=>?_;subst b9;exact fresh j co
 have sub:∀a∈mH,a∈ρ:=fun a aC=>by rw[eU] at aC;refine dr (List.mem_map.mp aC) fun l ar b9=>?_;subst b9;exact List.mem_of_getElem? (all l ar)
 have el:Step [] ρ s aV bB:=⟨⟨_,rfl,Nn⟩,fun a o e aC hf=>st.keep a o e (fun q=>aC (sub a q)) hf,st.live,st.gens,st.os⟩;have z6:(lS H sel ((aq.take sel.length).map (jQ (qT sel gW H.length)))).length=H.length:=OJ;have eL:bz P aV (lS H sel ((aq.take sel.length).map (jQ (qT sel gW H.length)))++gW.map fun j=>jQ (qT sel gW H.length) (j5 aq j)) bB.heap:=by
  refine⟨by simp only[aV,List.length_append,List.length_map,z6,tT],?_,fun i o a ax aC=>?_⟩
  .refine List.nodup_append.mpr ⟨am.eX,?_,fun a aC b az e=>?_⟩
   .rw[List.nodup_iff_pairwise_ne,List.pairwise_map];refine List.Pairwise.imp_of_mem (fun {i j} hi co eG e=>?_) (wX dE);obtain⟨_,_,a,_,aJ,_⟩:=tO i hi;obtain⟨_,_,b,_,cJ,_⟩:=tO j co;rw[nX aJ,nX cJ] at e;exact eG (rZ bt.eX aJ (e▸cJ))
   .subst e;refine dq (am.lt aC) fun o e=>?_;rw[Nn a az] at e;exact c5 e
  .by_cases hi:i<H.length
   .rw[List.getElem?_append_left (by rw[z6];exact hi)] at ax;have vV:ρ[i]? =E a:=by rwa [List.getElem?_append_left (by rw[tT];exact hi)] at aC
    by_cases aE:i∈sel
    .refine dq (List.getElem?_of_mem aE) fun j co=>?_;have ec:=(List.getElem?_eq_some_iff.mp co).1;have iX:bQ[j]? =E a:=by rw[aW,List.getElem?_append_left (by rw[mr];exact ec),eU,List.getElem?_map,co];exact congrArg E (nX vV)
     have Kq:j<aq.length:=bt.len▸(List.getElem?_eq_some_iff.mp iX).1;have dx:(aq.take sel.length)[j]? =E aq[j]:=by rw[List.getElem?_take_of_lt ec];exact List.getElem?_eq_getElem Kq
     rw[OI (wX aa6) co (by rw[List.getElem?_map,dx];rfl) hi] at ax;obtain rfl:=cF ax;refine dr (bt.at_ j _ a (List.getElem?_eq_getElem Kq) iX) fun ob R Z=>?_;exact⟨ob,R,Z.lR F4 (List.all_eq_true.mp iU _ (List.mem_of_getElem? dx))⟩
    .rw[Fi aE] at ax;refine dr (am.at_ i o a ax vV) fun ob R Z=>?_;have na:a∉mH:=fun q=>by rw[eU] at q;exact dr (List.mem_map.mp q) fun l ar e=>aE (rZ am.eX vV (e▸all l ar)▸ar)
     exact⟨ob,st.keep a ob R na (fun h=>nomatch h),Z.mono el.fW am.dg⟩
   .rw[List.getElem?_append_right (by rw[z6];lia),z6,List.getElem?_map] at ax;rw[List.getElem?_append_right (by rw[tT];lia),tT,List.getElem?_map] at aC;refine eB ax fun j ix=>?_;rw[ix] at aC;obtain rfl:=cF aC;obtain⟨_,o,a,dx,iX,k,g,_⟩:=tO j (List.mem_of_getElem? ix);refine dr (bt.at_ j o a dx iX) fun ob R Z=>?_;refine⟨ob,?_,by rw[g];exact Z.lR F4 k⟩;refine(?_:bB.heap.get? (bQ.getD j 0)=E ob);rw[nX iX];exact R
 exact q _ _ aV h eL (c6.lR F4 gp) el
theorem cellsFrom_some {x:Str}(names:List (Str×g4)):∀(n:bj) (b7:List (Str×bj)),(b7.lookup x).isSome=true∨(x,He)∈names→((cellsFrom n names b7).lookup x).isSome=true:=by
 induction names with
 |nil=>exact fun n b7 h=>h.elim id fun h=>nomatch h
 |cons p r aF=>
  intro n b7 h;obtain⟨y,k⟩:=p;unfold cellsFrom
  by_cases aB:(k==He)=true
  .rw[if_pos aB];refine aF _ _ ?_
   by_cases e:(x==y)=true
   .left;rw[List.lookup_cons,e];rfl
   .refine h.imp (fun h=>?_) fun h=>(List.mem_cons.mp h).elim (fun q=>absurd (beq_iff_eq.mpr (BA q).1) e) id;rw[List.lookup_cons,Bn.mpr e];exact h
  .rw[if_neg aB];exact aF _ _ (h.imp id fun h=>(List.mem_cons.mp h).elim (fun q=>absurd (beq_iff_eq.mpr (BA q).2.symm) aB) id)
theorem IS {iH:Str→Option g4}{x:Str}:∀{jI:List (Str×aj)} {m:Str→Option aj},(∀p∈jI,p.1≠x)→bindL iH jI m x=m x
 | [],_,_=>rfl
 |(n,v)::r,m,h=>by
  unfold bindL;rw[IS fun p a8=>h p (List.mem_cons_of_mem _ a8)]
  split
  .exact if_neg (h (n,v) List.mem_cons_self).symm
  .rfl
theorem IQ {iH:Str→Option g4}{x:Str}:∀{jI:List (Str×aj)} {m:Str→Option aj},(∀p∈jI,p.1≠x)→bindC iH jI m x=m x
 | [],_,_=>rfl
 |(n,v)::r,m,h=>by
  unfold bindC;rw[IQ fun p a8=>h p (List.mem_cons_of_mem _ a8)]
  split
  .rfl
  .exact if_neg (h (n,v) List.mem_cons_self).symm
theorem Sl {iH:Str→Option g4}{x:Str}:∀{jI:List (Str×aj)} {m:Str→Option aj},(jI.map (·.1)).Nodup→(x,y)∈jI→
 (iH x=E .local→bindL iH jI m x=E y)∧(iH x≠E .local→bindC iH jI m x=E y):=fun {jI}=>by
 induction jI with
 |nil=>exact fun _ h=>nomatch h
 |cons p r aF=>
  obtain⟨n,v⟩:=p;intro m eX h;rw[List.map_cons,List.nodup_cons] at eX;have Nw:∀{z:Str},z=n→∀p∈r,p.1≠z:=fun e p a8 q=>eX.1 (List.mem_map.mpr ⟨p,a8,q.trans e⟩);rcases List.mem_cons.mp h with e|h
  .cases e;constructor
   .intro aB;unfold bindL;rw[IS (Nw rfl),if_pos aB,if_pos rfl]
   .intro aB;unfold bindC;rw[IQ (Nw rfl),if_neg aB,if_pos rfl]
  .constructor
   .intro aB;unfold bindL;exact(aF eX.2 h).1 aB
   .intro aB;unfold bindC;exact(aF eX.2 h).2 aB
structure Ir (ay kc:List Str)(aD:List (Str×g4)):Prop where
 pre:∃c2,ay=kc++c2
 eX:ay.Nodup
 nu:∀x∈ay,(x==("__debug__":Str))=false
 kinds:∀x∈kc,aD.lookup x=E .local∨aD.lookup x=E .cell
theorem bK.zip:∀{ys:List aj} {ns:List Str} {i:Nat} {x:Str} {v:V},bK ρ h vs ys→ns.length=ys.length→ns[i]? =E x→vs[i]? =E v→∃y,(x,y)∈ns.zip ys∧aN ρ h v y:=by
 induction vs with
 |nil=>exact fun _ _ _ cp=>c5 cp
 |cons u vs aF=>
  intro ys ns i x v r ar aR cp;revert ar;refine r.gS fun y zs a b ar=>?_
  induction ns using List.casesOn with
  |nil=>exact c5 aR
  |cons n ns=>induction i using ia with
   |zero=>obtain rfl:=cF aR;obtain rfl:=cF cp;exact⟨y,List.mem_cons_self,a⟩
   |succ i=>exact(aF (ns:=ns) (i:=i) b (lZ ar) aR cp).elim fun y g=>⟨y,List.mem_cons_of_mem _ g.1,g.2⟩
noncomputable def y6 (I:Env):List bj:=I.locals::I.cells.filterMap fun p=>I.cells.lookup p.1
theorem UF {x:Str}{c:bj}(h:I.cells.lookup x=E c):c∈y6 I:=List.mem_cons_of_mem _ (List.mem_filterMap.mpr ⟨(x,c),PySem.mem_of_lookup h,h⟩)
theorem Ux {fd:pI}{kc:List Str}{xE:List aj}{k:Nat}
 (am:bz P ρ H s.heap)(az:∀b o,B.h₀.get? b=E o→s.heap.get? b=E o∧b∉ρ)(bV:bK ρ s.heap ce xE)(ar:kc.length=xE.length)
 (aB:fd.scope.kind=.function)(b6:fd.globals=mainGlobals)(W6:fd.builtins=builtinsNs)(e7:Ir ay kc fd.scope.names)
 (x:InCallC s (callEnvC fd s.heap.objs.size a).locals (bindL (callEnvC fd s.heap.objs.size a).kindOf (kc.zip xE) fun _=>none) (callEnvC fd s.heap.objs.size a).cells (bindC (callEnvC fd s.heap.objs.size a).kindOf (kc.zip xE) fun _=>none) bC):
 b0 P B (callEnvC fd s.heap.objs.size a) (y6 (callEnvC fd s.heap.objs.size a)) ay ρ H (ce++List.replicate k .aQ) bC∧Step [] ρ s ρ bC:=by
 refine dq e7.pre fun c2 cp=>?_;have keep:=x.toInCall.keep;refine dD x.toInCall.same fun h' di aW=>?_;have st:Step [] ρ s ρ bC:=by clear x;subst aW;exact⟨⟨[],by simp,fun _ h=>nomatch h⟩,fun b o e _ _=>keep b o e,fun b e=>none_of keep e,rfl,rfl⟩
 have bt:bz P ρ H bC.heap:=am.other (fun b kW=>by refine dq (am.lt kW) fun o e=>?_;rw[e,keep b o e]) st.fW
 have Np:∀b∈y6 (callEnvC fd s.heap.objs.size a),s.heap.get? b=none:=fun b kW=>by
  cases q:s.heap.get? b with
  |none=>rfl
  |some o=>
   have ec:=ic q;rcases List.mem_cons.mp kW with rfl|kW
   .exact absurd ec (mK.mpr x.toInCall.fresh)
   .exact dr (List.mem_filterMap.mp kW) fun p a8 e=>absurd ec (mK.mpr (e4 x.toInCall.fresh (xS (x.above _ _ (PySem.mem_of_lookup e)))))
 have aco:((kc.zip xE).map (·.1)).Nodup:=by rw[List.map_fst_zip (sH ar)];have:=e7.eX;rw[cp] at this;exact(List.nodup_append.mp this).1
 refine⟨⟨bt,⟨aB,b6,W6,fun b kW=>⟨fun q=>?_,?_⟩,List.mem_cons_self,fun y c aI=>UF aI,fun i y v cu tF bx=>?_,e7.nu,⟨_,x.toInCall.ns⟩,fun y c aI=>⟨_,x.cell y c aI⟩,fun y c aI e=>?_,fun y z c R Z=>name_of_addr x.apart (PySem.mem_of_lookup R) (PySem.mem_of_lookup Z),e7.eX⟩,fun b o e=>?_⟩,st⟩
 .refine dq (am.lt q) fun o e=>?_;rw[Np b kW] at e;exact c5 e
 .rcases List.mem_cons.mp kW with rfl|kW
  .exact t7 x.toInCall.ns
  .exact dr (List.mem_filterMap.mp kW) fun p a8 e=>KS (x.cell _ _ e)
 .have hi:i<ce.length:=by
   clear x;rcases Bw i ce.length with h|h
   .exact h
   .rw[List.getElem?_append_right h] at tF;have:=List.mem_of_getElem? tF;exact absurd (List.eq_of_mem_replicate this) bx
  rw[List.getElem?_append_left hi] at tF;have XE:i<kc.length:=by rw[ar,←bV.length];exact hi
  rw[cp,List.getElem?_append_left XE] at cu;refine dr (bV.zip ar cu tF) fun z hz fX=>?_;have bd:=Sl (iH:=(callEnvC fd s.heap.objs.size a).kindOf) (m:=fun _=>none) aco hz;refine⟨z,?_,fX.mono st.fW am.dg⟩;rcases e7.kinds y (List.mem_of_getElem? cu) with kD|kD
  .exact .inl ⟨kD,_,x.toInCall.ns,bd.1 kD⟩
  .have aI:((callEnvC fd s.heap.objs.size a).cells.lookup y).isSome=true:=cellsFrom_some _ _ _ (.inr (PySem.mem_of_lookup kD));refine dq (sJ.mp aI) fun c aI=>dr (x.cell y c aI) fun o ax hd=>?_;rw[bd.2 (by rw[show(callEnvC fd s.heap.objs.size a).kindOf y=E .cell from kD];exact fun e=>nomatch e)] at hd;exact .inr (.inl ⟨kD,c,o,aI,ax,hd⟩)
 .have:=x.above _ _ (PySem.mem_of_lookup aI);rw[e] at this;exact absurd this (xU _)
 .refine b8 (az b o e) fun R Z=>?_;exact⟨keep b o R,Z,fun q=>by rw[Np b q] at R;exact c5 R⟩
set_option backward.match.sparseCases true
theorem bK.append:∀{ce:List V} {xs ys:List aj},bK ρ h vs xs→bK ρ h ce ys→bK ρ h (vs++ce) (xs++ys):=by
 induction vs with
 |nil=>intro ce xs ys r k;exact r.iK k
 |cons v vs aF=>intro ce xs ys r k;exact r.gS fun y zs a b=>.cons a (aF b k)
structure cQ where
 na:Nat
 defs:List V
 ES:Nat
 body:ff
variable {bg:cQ}
def e2 (K:bE):dM:=fun aH _ H=>match aH with
 |.ret v=>K v H
 |.next=>K .none H
 |.brk=>False
def cR (C:hT)(G:Nat→Option V)(bg:cQ)(vs:List V)(H:List an)(K:bE):Prop:=
 ao (c1 vs.length bg.na) (b4 C G bg.body (vs++bg.defs++List.replicate bg.ES .aQ) H (e2 K)) False
noncomputable def isNone:V→Bool
 |.none=>true
 |_=>false
structure Row where
 rank:Nat
 cls:Bool
 bF:hT→List V→List an→bE→Prop
def bh (aT:Nat→Option Row):Nat→hT
 |0,_,_,_,_=>False
 |n+1,k,vs,H,K=>match aT k with
  |some r=>ao (de r.rank n) (match r.cls with
   |false=>p9 (r.bF (bh aT n)) vs H K
   |true=>p9 (r.bF (bh aT n)) (.ref (H.length+1)::vs) (H++[.dict [] 0,.inst H.length]) fun v bp=>ao (isNone v) (K (.ref (H.length+1)) bp) False) False
  |dn=>False
def qX:V→Prop
 |.bytes b=>ee b∧b.length≤1000000
 |_=>True
def pF:an→Prop
 |.cB b=>ee b∧b.length≤1000000
 |.dict es _=>(∀e∈es,bU 4 e.1=true)∧eE es
 |_=>True
theorem NH (a:Array UInt8):ee (d1 a):=fun x aR=>by refine dr (List.mem_map.mp aR) fun u cj b9=>?_;clear cj;subst b9;have:=u.toNat_lt;omega
theorem aN.wf {x:aj}(r:aN ρ h v x):qX v:=by
 cases r with
 |bytes a t hz=>exact⟨NH a,by rw[pf];exact hz⟩
 |_=>trivial
theorem bK.wf:∀{xs:List aj},bK ρ h vs xs→∀v∈vs,qX v:=by
 induction vs with
 |nil=>exact fun _ _ h=>nomatch h
 |cons u vs aF=>intro xs r v cp;exact r.gS fun y zs a b=>(List.mem_cons.mp cp).elim (fun e=>e▸a.wf) (aF b v)
theorem bz.wf (x:bz P ρ H h):∀o∈H,pF o:=fun o ax=>by
 obtain⟨i,hi,rfl⟩:=List.getElem_of_mem ax;refine dr (x.at_ i H[i] (ρ[i]'(x.len▸hi)) (List.getElem?_eq_getElem hi) (List.getElem?_eq_getElem (x.len▸hi))) fun ob cj r=>?_;clear cj;generalize H[i]=o at r;cases r with
 |cB a hz=>exact⟨NH a,by rw[pf];exact hz⟩
 |d6 _=>trivial
 |dict _ aD rp=>exact⟨aD,rp⟩
 |_=>trivial
theorem SX {Q:g0→aS→Prop}(h:aO O w (A.deeper I) (execs body I) (fun f s'=>Q (.ret (match f with|.ret v=>v|_=>.none)) s') s):codeN O w A (.func body I) Q s:=by
 refine CI ?_;show aO _ _ (A.deeper I) (do point;match←(execs body I).onRaise (leaving I) with|.ret v=>ret v|_=>ret .none) _ s
 refine dJ (wpAny_point (b1 (qJ (dH h fun f s' h'=>?_))));cases f<;>exact cN ⟨_,rfl,h'⟩
theorem SS {o:Obj}{fd:pI}{jI:List (Str×aj)}{Q:g0→aS→Prop}(X6:A.depth<recursionLimit)(ax:s.heap.get? a=E o)(hd:o.data=.func fd)
 (XJ:s.heap.NoLimit)(Kh:s.heap.CodeRec fd.code fd.qualname)(Xb:fd.scope.isCoroutine=false)(XB:fd.scope.isGenerator=false)(aB:fd.scope.kind=.function)(W9:fd.closure=[])
 (Du:fd.body=.stmts body)(vZ:BindsTo s fd ⟨ys,[]⟩ jI)(zq:∀x∈jI,fd.scope.names.lookup x.1=E .local∨fd.scope.names.lookup x.1=E .cell)
 (h:∀bC,InCallC s (callEnvC fd s.heap.objs.size a).locals (bindL (callEnvC fd s.heap.objs.size a).kindOf jI fun _=>none) (callEnvC fd s.heap.objs.size a).cells (bindC (callEnvC fd s.heap.objs.size a).kindOf jI fun _=>none) bC→
  aO O w (A.deeper (callEnvC fd s.heap.objs.size a)) (execs body (callEnvC fd s.heap.objs.size a)) (fun f s'=>Q (.ret (match f with|.ret v=>v|_=>.none)) s') bC):codeN O w A (.call (.ref a) ⟨ys,[]⟩) Q s:=by
 refine p8 fun _=>?_;show aO _ _ A.in1 (callAny (.ref a) ⟨ys,[]⟩) _ s;unfold callAny;refine dJ (nC ax (ls Kh fun c NE vs ahq bT=>kR bT fun aI XR Xi a9=>?_));clear bT Kh;simp only[hd,callFunction,Xb,XB,Du,aI];refine dJ (m:=field (.ref c) 1) (ib XR Xi a9 (b1 (cN (dJ (vZ _ _ _ _ ?_)))));rw[W9,←aI];refine dJ (wpAny_newFunctionEnv_cells aB (fun x aR=>(zq x aR).imp id fun e=>⟨e,cellsFrom_some _ _ _ (.inr (PySem.mem_of_lookup e))⟩) fun I he s' x=>?_);subst he;refine dJ (wpAny_enterFrame (XJ.keeps x.toInCall.keep) X6 (cN ⟨rfl,rfl,SX (h s' x)⟩))
structure FnAt (O:hS)(w:fk)(B:gE)(C:hT)(d:Nat)(a:bj)(bg:cQ):Prop where
 ex:∃o fd body ay kc,B.h₀.get? a=E o∧o.data=.func fd∧B.h₀.CodeRec fd.code fd.qualname∧fd.scope.isCoroutine=false∧fd.scope.isGenerator=false∧fd.scope.kind=.function∧fd.closure=[]∧
  fd.body=.stmts body∧fd.globals=mainGlobals∧fd.builtins=builtinsNs∧Ir ay kc fd.scope.names∧kc.length=bg.na+bg.defs.length∧
  (∀(s:aS) (ys:List aj),(∀b o,B.h₀.get? b=E o→s.heap.get? b=E o)→ys.length=bg.na→∃fm,(∀ρ h,bK ρ h bg.defs fm)∧BindsTo s fd ⟨ys,[]⟩ (kc.zip (ys++fm)))∧
  (∀(A:fw) (b3:bj),A.handled=none→A.units+20+10*d<cLine→A.depth+60+2*d<recursionLimit→l6 O w B C A (callEnvC fd b3 a) ay body bg.body)
def l3 (O:hS)(w:fk)(B:gE)(C:hT)(d:Nat)(fH:Nat→Option aj):Prop:=
 ∀(A:fw) (k:Nat) (f:aj) vs ys H ρ s (Q:bE) (K:aj→aS→Prop),fH k=E f→A.handled=none→A.units+20+10*d<cLine→A.depth+60+2*d<recursionLimit→C k vs H Q→bz w.params ρ H s.heap→bK ρ s.heap vs ys→
  (∀b o,B.h₀.get? b=E o→s.heap.get? b=E o∧b∉ρ)→jE w.params ρ s Q K→Kept (model O w) f s.heap∧aO O w A (call f ys) K s
theorem Fc (ok:B.Ok){d:Nat}(ah:FnAt O w B C d a bg){Q:bE}{K:g0→aS→Prop}(bD:A.handled=none)(bx:A.units+23+10*d<cLine)(hd:A.depth+61+2*d<recursionLimit)
 (h:cR C B.G bg vs H Q)(am:bz w.params ρ H s.heap)(bV:bK ρ s.heap vs ys)(az:∀b o,B.h₀.get? b=E o→s.heap.get? b=E o∧b∉ρ)
 (q:∀v bp aV y s',Q v bp→bz w.params aV bp s'.heap→aN aV s'.heap v y→Step [] ρ s aV s'→K (.ret y) s'):codeN O w A (.call (.ref a) ⟨ys,[]⟩) K s:=by
 refine b8 (fM h) fun j6 h=>?_;have j6:=fQ j6;obtain⟨o,fd,body,ay,kc,aW,aJ,cJ,eV,iW,kv,T8,T9,kx,T7,e7,UH,bd,AV⟩:=ah.ex;have keep:∀b o,B.h₀.get? b=E o→s.heap.get? b=E o:=fun b o e=>(az b o e).1;refine dr (bd s ys keep (bV.length.symm.trans j6)) fun fm Kk vZ=>?_;have Xk:bg.defs.length=fm.length:=(Kk ρ s.heap).length;have X0:kc.length=(ys++fm).length:=by rw[List.length_append,UH,←Xk,←bV.length,j6]
 have agO:bK ρ s.heap (vs++bg.defs) (ys++fm):=bV.append (Kk ρ s.heap);refine SS (by omega) (keep _ _ aW) aJ (ok.lim.keeps keep) (cJ.keeps keep) eV iW kv T8 T9 vZ (fun x aR=>e7.kinds x.1 ?_) fun bC x=>?_
 .exact(List.of_mem_zip aR).1
 .refine b8 (Ux (k:=bg.ES) am az agO X0 kv kx T7 e7 x) fun r st=>?_;refine AV (A.deeper _) s.heap.objs.size bD (by simp only[Around.deeper_units];omega) (by show A.depth+1+60+2*d<_;omega) _ _ H ρ bC _ _ h r fun aH ef bp aV f s' a9 i5 h2 el=>?_;have abl:∀b∈y6 (callEnvC fd s.heap.objs.size a),s.heap.get? b=none:=fun b kW=>by
   cases q:s.heap.get? b with
   |none=>rfl
   |some o=>
    have ec:=ic q;rcases List.mem_cons.mp kW with rfl|kW
    .exact absurd ec (mK.mpr x.toInCall.fresh)
    .exact dr (List.mem_filterMap.mp kW) fun p a8 e=>absurd ec (mK.mpr (e4 x.toInCall.fresh (xS (x.above _ _ (PySem.mem_of_lookup e)))))
  have Pf:Step [] ρ s aV s':=by have t:=st.up.trans el;exact⟨t.new,fun b o e W4 _=>t.keep b o e W4 (fun hm=>by rw[abl b hm] at e;exact c5 e),t.live,t.gens,t.os⟩
  induction aH using rb.casesOn with
  |next=>induction f using nD with
   |next=>exact q .none bp aV .none s' a9 i5.am .none Pf
   |_=>exact h2.elim
  |brk=>exact a9.elim
  |ret v=>induction f using nD with
   |ret y=>exact q v bp aV y s' a9 i5.am h2 Pf
   |_=>exact h2.elim
set_option backward.match.sparseCases false
theorem SY {K:Frag}{Cl:bj}{ky:bj}{c2:List aj}{Q:g0→aS→Prop}(aG:K.In s.heap)(hm:makesIn K Cl=true)(hi:findIn K (.ref Cl) "__init__"=E (E (.ref ky)))(hf:typeIn K (.ref ky)=E (.type "function"))
 (h:codeN O w (A.under (.builtin "type.__call__" ⟨.ref Cl::c2,[]⟩)) (.call (.ref ky) ⟨.ref (s.heap.objs.size+1)::c2,[]⟩) (fun f s'=>f=.ret .none∧Q (.ret (.ref (s.heap.objs.size+1))) s')
  {s with heap:=(s.heap.push emptyDict).push (instObj Cl s.heap.objs.size)}):codeN O w A (.call (.ref Cl) ⟨c2,[]⟩) Q s:=by
 have j0:=makes_of (M:=model O w) aG hm;obtain⟨⟨NE,r0,rk,ch,h3,aW,aJ,eV⟩,MN,ll,self,agi,call,typ⟩:=id j0;have Kp:=looks_findIn (M:=model O w) aG hi;refine p8 fun _=>?_;show aO _ _ A.in1 (callAny (.ref Cl) ⟨c2,[]⟩) _ s;show aO _ _ A.in1 (load Cl>>=fun o=>_) _ s;refine dJ (nC h3 ?_);show aO _ _ A.in1 (QG (.ref Cl) ⟨c2,[]⟩) _ s;unfold QG;refine dJ (call.here ?_);dsimp only;rw[tc_bind];refine b1 (cN (b1 (cN (cN ⟨rfl,rfl,p8 fun _=>?_⟩))));show aO _ _ A.in1 (do checkBuiltinCall "type.__call__" ⟨.ref Cl::c2,[]⟩;again (.builtin "type.__call__" ⟨.ref Cl::c2,[]⟩)) _ s;refine dJ (check_slot tc_kind tc_split typ (tc_args _ _ _) (cN ⟨Code.quiet_builtin _ (by decide+kernel),rfl,CH entry_typeCall ?_⟩));unfold Builtin.«type.__call__»;have DJ:Looks (model O w) s.heap (mroOf (.ref Cl)) rk.mro:=((x7 (part:=none) h3).andThen .now).andThen .now;show aO _ _ _ (if(gP Cl==cD "type")=true then _ else _) _ s;refine rW (show¬((gP Cl==cD "type")=true) from d8) ?_;show aO _ _ _ (mroOf (.ref Cl)>>=fun m=>_) _ s;refine dJ (DJ.here ?_);rw[eV,if_neg d8];show aO _ _ _ (Bind.madeBy (.ref Cl)>>=fun m=>_) _ s;refine dJ (MN.here (b1 (cN ?_)));have k:∀b o,s.heap.get? b=E o→((s.heap.push emptyDict).push (instObj Cl s.heap.objs.size)).get? b=E o:=fun b o e=>fx _ (fx _ e);have aR:((s.heap.push emptyDict).push (instObj Cl s.heap.objs.size)).get? (s.heap.objs.size+1)=E (instObj Cl s.heap.objs.size):=by have:=g5 (s.heap.push emptyDict) (show(instObj Cl s.heap.objs.size).isFreed=false from rfl);rwa [x5] at this
 have t1:Looks (model O w) ((s.heap.push emptyDict).push (instObj Cl s.heap.objs.size)) (typeOf (.ref (s.heap.objs.size+1))) (.ref Cl):=(x7 aR).andThen .now;refine b1 (eR (cU (wpAny_call (E:=eY) ?_)));refine new_K (h:=s.heap) j0 Kp (.inl rfl)<|dJ ((show Looks (model O w) _ (isInstance (.ref (s.heap.objs.size+1)) (.ref Cl)) true from t1.andThen (self.keeps k)).at (rW d8<|b1 (eR ?_)))
 unfold callSpecial?;refine dJ ((show Looks (model O w) _ (specialOf (.ref (s.heap.objs.size+1)) "__init__") (E (.ref ky)) from t1.andThen (Kp.keeps k)).at ?_);refine eR<|dJ (((bind_fn (M:=model O w) aG (.ref (s.heap.objs.size+1)) hf).keeps k).at (b1 (m:=PySem.call (.ref ky) ([.ref (s.heap.objs.size+1)]++c2)) (wS (IZ h fun f s' am=>?_))))
 obtain⟨rfl,am⟩:=am;exact cN (cN ⟨_,rfl,am⟩)
structure ClsAt (B:gE)(Cl ky:bj):Prop where
 makes:makesIn B.K Cl=true
 init:findIn B.K (.ref Cl) "__init__"=E (E (.ref ky))
 typ:typeIn B.K (.ref ky)=E (.type "function")
 cls:oZ Cl=true
theorem YW {o:Obj}{fd:pI}(e:h.get? a=E o)(hd:o.data=.func fd):Kept aA (.ref a) h:=by refine⟨.frame,.inl rfl,?_⟩;unfold keeperOf;refine(x7 (part:=none) e).andThen ?_;rw[hd];exact .now
theorem YV (j0:Makes aA h a):Kept aA (.ref a) h:=by
 obtain⟨⟨NE,r0,rk,ch,h3,aW,aJ,eV⟩,MN,ll,self,agi,call,typ⟩:=j0;refine⟨.machine,.inr rfl,?_⟩;unfold keeperOf;refine(x7 (part:=none) h3).andThen<|call.andThen ?_
 rw[if_pos (by decide)];exact .now
theorem I2 {f:List V→List an→bE→Prop}{Q:bE}{K:aj→aS→Prop}(h:p9 f vs H Q)(am:bz w.params ρ H s.heap)(bV:bK ρ s.heap vs ys)
 (az:∀b o,B.h₀.get? b=E o→s.heap.get? b=E o∧b∉ρ)(q:∀v bp aV y s',Q v bp→bz w.params aV bp s'.heap→aN aV s'.heap v y→Step [] ρ s aV s'→K y s')
 (run:∀vs0 H0 mH (yu:bE),f vs0 H0 yu→bz w.params mH H0 s.heap→bK mH s.heap vs0 ys→(∀b o,B.h₀.get? b=E o→s.heap.get? b=E o∧b∉mH)→
  (∀v bp aV y s',yu v bp→bz w.params aV bp s'.heap→aN aV s'.heap v y→Step [] mH s aV s'→K y s')→G):G:=by
 unfold p9 at h;generalize reach H 300 (kJ vs) []=sel at h;refine b8 (fM h) fun c h=>?_;simp only[fJ] at c;refine b8 c fun dh gp=>?_;clear c;refine b8 dh fun dE dX=>?_;clear dh;refine hJ (am.part dE gp) fun qn hf all=>run _ _ _ _ h qn (bV.lR hf dX) (fun b o e=>⟨(az b o e).1,fun hm=>?_⟩) fun v aq bQ y bB cp bt c6 st=>Mw am dE all rfl bt c6 st cp fun i5 bp aV aB eL xw el=>q i5 bp aV y bB aB eL xw el;refine dr (List.mem_map.mp hm) fun l ar b9=>?_;subst b9;exact(az _ o e).2 (List.mem_of_getElem? (all l ar))
def dY (H:List an)(K:bE):bE:=fun r aq=>iq (List.range H.length) H r aq K
def rl (H:List an)(K:bE):bE:=fun r aq=>ao ((aq.take H.length).all (hR fun l=>dT l H.length)&&kH (fun l=>dT l H.length) r) (K r (aq.take H.length)) False
theorem Nt:∀{l:List Nat},l.Nodup→i3 l=true
 | [],_=>rfl
 |a::r,h=>by
  rw[List.nodup_cons] at h;unfold i3;rw[Nt h.2,xI,km];cases e:eW r a with
  |false=>rfl
  |true=>exact absurd (W3 e) h.1
theorem nodup_range (n:Nat):i3 (List.range n)=true:=Nt List.nodup_range
def fF (C:hT)(G:Nat→Option V)(bF:List V→List an→bE→Prop)(bg:cQ):Prop:=∀vs H K,(∀o∈H,pF o)→(∀v∈vs,qX v)→bF vs H K→cR C G bg vs H K∨cR C G bg vs H (dY H K)∨cR C G bg vs H (rl H K)
theorem Ow (ok:B.Ok){d:Nat}{bF:List V→List an→bE→Prop}(ah:FnAt O w B C d a bg)(row:fF C B.G bF bg){Q:bE}{K:g0→aS→Prop}(bD:A.handled=none)(bx:A.units+23+10*d<cLine)(hd:A.depth+61+2*d<recursionLimit)
 (h:bF vs H Q)(am:bz w.params ρ H s.heap)(bV:bK ρ s.heap vs ys)(az:∀b o,B.h₀.get? b=E o→s.heap.get? b=E o∧b∉ρ)
 (q:∀v bp aV y s',Q v bp→bz w.params aV bp s'.heap→aN aV s'.heap v y→Step [] ρ s aV s'→K (.ret y) s'):codeN O w A (.call (.ref a) ⟨ys,[]⟩) K s:=by
 rcases row vs H Q am.wf bV.wf h with h|h|h
 .exact Fc ok ah bD bx hd h am bV az q
 .refine Fc ok ah bD bx hd h am bV az fun v bp aV y s' a9 eL c6 st=>?_;have all:∀l∈List.range H.length,ρ[l]? =E (ρ.getD l 0):=fun l ar=>by have ec:l<ρ.length:=am.len▸List.mem_range.mp ar;rw[List.getD_eq_getElem?_getD,List.getElem?_eq_getElem ec];rfl
  refine Mw am (nodup_range H.length) all ?_ eL c6 st a9 fun i5 QM ag9 aB cr agR cm=>q i5 QM ag9 y s' aB cr agR cm;refine List.ext_getElem? fun i=>?_;rw[List.getElem?_map,←am.len]
  by_cases hi:i<ρ.length
  .rw[List.getElem?_range hi,List.getElem?_eq_getElem hi,GX,List.getD_eq_getElem?_getD,List.getElem?_eq_getElem hi];rfl
  .rw[List.getElem?_eq_none (mK.mp hi),List.getElem?_eq_none (by rw[List.length_range];exact mK.mp hi)];rfl
 .refine Fc ok ah bD bx hd h am bV az fun v bp aV y s' a9 eL c6 st=>b8 (fM a9) fun c a9=>?_;rw[fJ] at c;refine dr st.new fun n e aL=>?_;rw[←am.len] at c a9;have eL:bz w.params (ρ++n) bp s'.heap:=e▸eL;have c6:aN (ρ++n) s'.heap v y:=e▸c6;exact q v _ ρ y s' a9 (eL.trunc c.1) (c6.shrink c.2) st.trunc
theorem S4 (ok:B.Ok){aT:Nat→Option Row}
 (ct:∀n,l3 O w B (bh aT n) n fH→∀k f r,fH k=E f→aT k=E r→r.rank≤n→∃bg,fF (bh aT n) B.G (r.bF (bh aT n)) bg∧(r.cls=false→∃a,f=.ref a∧FnAt O w B (bh aT n) n a bg)∧
  (r.cls=true→∃Cl ky,f=.ref Cl∧ClsAt B Cl ky∧FnAt O w B (bh aT n) n ky bg)):∀n,l3 O w B (bh aT n) n fH:=by
 intro n
 induction n with
 |zero=>intro A k f vs ys H ρ s Q K _ _ _ _ h;exact h.elim
 |succ n aF=>
  intro A k f vs ys H ρ s Q K DG bD bx hd h am bV az q;have keep:∀b o,B.h₀.get? b=E o→s.heap.get? b=E o:=fun b o e=>(az b o e).1;unfold bh at h;cases e:aT k with
  |none=>rw[e] at h;exact h.elim
  |some r=>
  rw[e] at h;refine b8 (fM h) fun X2 h=>gz (ct n aF k f r DG e (d5 X2)) fun bg row t1 aa=>?_;cases aI:r.cls with
  |false=>rw[aI] at h;refine dr (t1 aI) fun a cj ah=>?_;clear DG t1 aa;subst cj;refine Ua ah.ex fun o fd body ay kc bT=>hJ bT fun aW aJ acx=>?_;clear bT acx;exact⟨YW (keep _ _ aW) aJ,wS (I2 h am bV az q fun vs0 H0 mH yu bl qn Gp Dt dh=>Ow (K:=AG K) ok ah row bD (by omega) (by omega) bl qn Gp Dt dh)⟩
  |true=>
   rw[aI] at h;refine oA (aa aI) fun Cl ky b9 ca ah=>?_;clear DG t1 aa;subst b9;have aG:B.K.In s.heap:=ok.K.keeps keep;refine⟨YV (makes_of aG ca.makes),wS (SY aG ca.makes ca.init ca.typ ?_)⟩;have bt:bz w.params (ρ++[s.heap.objs.size]) (H++[.dict [] 0]) (s.heap.push emptyDict):=am.alloc rfl (.dict (xs:=[]) .nil (fun e he=>nomatch he) .nil);have n4:(ρ++[s.heap.objs.size])[H.length]? =E s.heap.objs.size:=by rw[←am.len,List.getElem?_append_right (kN _),xX];rfl
   have cr:bz w.params (ρ++[s.heap.objs.size]++[(s.heap.push emptyDict).objs.size]) (H++[.dict [] 0]++[.inst H.length]) ((s.heap.push emptyDict).push (instObj Cl s.heap.objs.size)):=bt.alloc rfl (.inst ca.cls (get_append n4));have cm:Step [] ρ s (ρ++[s.heap.objs.size]++[(s.heap.push emptyDict).objs.size]) {s with heap:=(s.heap.push emptyDict).push (instObj Cl s.heap.objs.size)}:=
    (Step.alloc (s:=s) (ob:=emptyDict) s.toks).trans (Step.alloc (s:={s with heap:=s.heap.push emptyDict}) (ob:=instObj Cl s.heap.objs.size) s.toks)
   have iJ:(ρ++[s.heap.objs.size]++[(s.heap.push emptyDict).objs.size])[H.length+1]? =E (s.heap.objs.size+1):=by rw[List.getElem?_append_right (by simp[am.len]),x5];simp[am.len]
   rw[show H++[an.dict [] 0]++[an.inst H.length]=H++[.dict [] 0,.inst H.length] by rw[List.append_assoc];rfl] at cr;refine I2 (s:={s with heap:=(s.heap.push emptyDict).push (instObj Cl s.heap.objs.size)}) (K:=fun y s'=>y=.none∧K (.ref (s.heap.objs.size+1)) s') (ys:=.ref (s.heap.objs.size+1)::ys) h cr (.cons (.ref iJ) (bV.mono cm.fW am.dg)) (fun b o e=>⟨cm.keep b o (keep b o e) (az b o e).2 (fun h=>nomatch h),fun hm=>?_⟩) (fun v bp aV y s' cp eL c6 el=>?_)
    fun vs0 H0 mH yu bl qn Gp Dt dh=>Ow (K:=fun f s'=>f=.ret .none∧AG K (.ret (.ref (s.heap.objs.size+1))) s') ok ah row bD ?_ ?_ bl qn Gp Dt (fun v bp aV y s' cp eL c6 el=>by refine b8 (dh v bp aV y s' cp eL c6 el) fun dh aB=>?_;subst dh;exact⟨rfl,aB⟩)
   .refine dr cm.new fun As aJ aL=>?_;rw[aJ] at hm;rcases List.mem_append.mp hm with hm|hm
    .exact(az b o e).2 hm
    .have:=keep b o e;rw[aL b hm] at this;exact c5 this
   .refine b8 (fM cp) fun aL aB=>?_;have:v=.none:=by unfold isNone at aL;split at aL<;>first|rfl|exact dZ aL
    subst this;cases c6;refine⟨rfl,q _ bp aV _ s' aB eL (.ref ?_) (cm.trans el)⟩;refine dr el.new fun As aJ b9=>?_;clear b9;rw[aJ];exact get_append iJ
   .show(A.under _).units+23+10*n<_;have:(A.under (.builtin "type.__call__" ⟨.ref Cl::ys,[]⟩)).units=A.units+1:=rfl;omega
   .have:(A.under (.builtin "type.__call__" ⟨.ref Cl::ys,[]⟩)).depth=A.depth+1:=rfl;omega
theorem ad0 (ok:B.Ok){d:Nat}(cs:l3 O w B C d fH)(bD:A.handled=none)(bx:A.units+20+10*d<cLine)(hd:A.depth+60+2*d<recursionLimit){x:Str}{es:List aY}{xs:gQ}{f:aj}
 (aB:I.kindOf x=E .globalImplicit)(Xh:(x==("__debug__":Str))=false)(aR:B.j8 x=E f)(hf:fH (a7 x)=E f)(a8:es.all jS=true)(aE:oR O w B C A I ay es xs):
 cV O w B C A I ay (.Call (.Name x k0) es [] p) (.call (a7 x) xs):=fun ah loc H ρ s Q K h r q=>by
 have b6:s.heap.Ns I.globals B.j8:=r.ck.glob▸ok.g.keeps r.keeps;refine Ak (cU (Hd r.ck.kind aB (loadGlobal_global b6 aR ?_) Xh));refine Al a8 (aE ah loc H ρ s _ _ p h r fun vs aq bQ ys bB R bt bV len bk=>?_);have cK:=r.step bk bt;exact cs A (a7 x) f vs ys aq bQ bB _ _ hf bD bx hd R bt bV (fun b o e=>⟨(cK.bs b o e).1,(cK.bs b o e).2.1⟩) (q.after bk)
noncomputable def qu (d:bj)(i n ep:Nat)(o ok gh:aj)(f:Bool):Obj:={cls:=.type "dict_itemiterator",dict:=none,data:=.fields #[o,.bool f,.ref d,.int i 0,.int n 0,.int ep 0,ok,gh],slots:=#[]}
structure pT (h:fR)(bX d:bj)(i n ep:Nat):Prop where
 ex:∃o ok gh f,h.get? bX=E (qu d i n ep o ok gh f)∧(o=.none∧f=false∨∃(a:bj) (ob:Obj),o=rawInt a∧h.get? a=E ob∧a≠bX)
theorem pT.keep {bX d:bj}{i:Nat}(x:pT h bX d i n ep)(e:h'.get? bX=h.get? bX)(k:∀a o,h.get? a=E o→∃o',h'.get? a=E o'):pT h' bX d i n ep:=by exact uO x.ex fun o ok gh f hi ax=>⟨o,ok,gh,f,e.trans hi,ax.imp id fun⟨a,ob,aW,aJ,cJ⟩=>dq (k a ob aJ) fun hP eV=>⟨a,hP,aW,eV,cJ⟩⟩
section
variable {bX d:bj}{i:Nat}{xs:List c3}{Q:Option aj→aS→Prop}
theorem YC {x:c3}(st:pT s.heap bX d i xs.length ep)(hm:s.heap.get? d=E (dictOf xs ep))(aR:xs[i]? =E x)
 (h4:∀h',pT h' bX d (i+1) xs.length ep→h'.get? s.heap.objs.size=E (gO [x.key,x.val] 0)→h'.objs.size=s.heap.objs.size+1→(∀b o,b≠bX→s.heap.get? b=E o→h'.get? b=E o)→Q (E (.ref s.heap.objs.size)) {s with heap:=h'}):
 wpAny (model O w) A (pyNext (.ref bX)) Q b2 s:=by
 refine uO st.ex fun o ok gh f dO ax=>?_;obtain⟨a8,g,c4,di,os⟩:=s;have ct:Shared.TypeIs ⟨a8,g,c4,di,os⟩ (.ref bX) "dict_itemiterator":=⟨_,dO,rfl⟩;unfold pyNext;refine af (u2 (mL (name:=g6 "__next__") ct PySem.F.slot_dict_itemiterator_next
  (hp PySem.F.slot_dict_itemiterator_next ct PySem.F.entry_dict_itemiterator_next ?_ (PySem.F.args_dict_itemiterator_next_1 _))))
 refine af (aX (af<|af ?_))
 first|refine af (BH ct (aX ?_))|refine af (BJ ct (aX ?_))
 refine af (BE dO rfl ?_);rw[show Builtin.Dict_items.ownsTuple "dict_itemiterator"=true by decide,if_pos rfl];refine(?_:wpAny _ _ (if(gP d==cg)=true then _ else _) _ _ _);refine e3 (show¬((gP d==cg)=true) from d8)<|af (aX (af (mM hm rfl (e3 qr<|af (aX (af (lj hm rfl (e3 qr<|aX ?_))))))))
 have o6:xs.toArray[i]? =E x:=by simpa using aR
 simp only[show¬((i:Int)<0) from by omega,if_false,pG,o6];refine af ?_
 first|refine af (BH ct (aX ?_))|refine af (BJ ct (aX ?_))
 refine af (G9 ct ?_);refine(?_:wpAny _ _ (setField (.ref bX) 3 (rawInt ((i:Int)+1))>>=_) _ _ ⟨a8,g,c4,di,os⟩);refine af (u7 dO (d5 rfl) fun h₁ zn zz=>?_);replace zz:fK bX a8 h₁:=zz;replace zn:h₁.get? bX=E (qu d (i+1) xs.length ep o ok gh f):=zn;have Kc:Shared.TypeIs ⟨h₁,g,c4,di,os⟩ (.ref bX) "dict_itemiterator":=⟨_,zn,rfl⟩;refine af (gb (af (G9 Kc (af (G9 Kc ?_)))));refine(?_:wpAny _ _ (Builtin.Dict_items.pairFromOwner (.ref bX) 6 x.key x.val) _ _ ⟨h₁,g,c4,di,os⟩);unfold Builtin.Dict_items.pairFromOwner;refine af (wpAny_newTuple ?_);have hz:h₁.objs.size=a8.objs.size:=zz.1;have zo:bX<a8.objs.size:=ic dO;have o2:(h₁.push (gO [x.key,x.val] 0)).get? bX=E (qu d (i+1) xs.length ep o ok gh f):=fx _ zn;have DU:(h₁.push (gO [x.key,x.val] 0)).get? a8.objs.size=E (gO [x.key,x.val] 0):=hz▸g5 _ rfl;have KC:(h₁.push (gO [x.key,x.val] 0)).objs.size=a8.objs.size+1:=by rw[x5,hz]
 have DI:∀b o,b≠bX→a8.get? b=E o→(h₁.push (gO [x.key,x.val] 0)).get? b=E o:=fun b o az e=>fx _ (zz.extBut b o az e);refine(?_:wpAny _ _ (Builtin.Dict_items.ownedTupleIsFree (.ref bX)>>=_) _ _ ⟨h₁.push (gO [x.key,x.val] 0),g,c4,di,os⟩);rw[hz];generalize h₁.push (gO [x.key,x.val] 0)=fN at o2 DU KC DI;have fin:∀(iG:fR) (o ok gh:aj) (f:Bool),iG.get? bX=E (qu d (i+1) xs.length ep o ok gh f)→fK bX fN iG→(∃(a:bj) (ob:Obj),o=rawInt a∧fN.get? a=E ob∧a≠bX)→Q (E (.ref a8.objs.size)) ⟨iG,g,c4,di,os⟩:=fun iG o ok gh f he aE ⟨a,ob,aW,aJ,cJ⟩=>
  h4 iG ⟨o,ok,gh,f,he,.inr ⟨a,ob,aW,aE.extBut a ob cJ aJ,cJ⟩⟩ (aE.extBut _ _ (oI zo) DU) (aE.1.trans KC) fun b o az e=>aE.extBut b o az (DI b o az e)
 refine af ?_;unfold Builtin.Dict_items.ownedTupleIsFree;rcases ax with⟨rfl,rfl⟩|⟨a,ob,rfl,wn,Dp⟩
 .refine af (ib o2 rfl (x:=.none) rfl (aX (uM rfl<|af (ib o2 rfl (x:=ok) rfl (af (ib o2 rfl (x:=gh) rfl ?_))))));refine af (u7 o2 (d5 rfl) fun iG DD rE=>af (u7 DD (d5 rfl) fun tG Xp DQ=>?_));refine af (u7 Xp (d5 rfl) fun zA Xq DR=>af (u7 Xq (d5 rfl) fun KD Xr DS=>?_));replace rE:fK bX fN iG:=rE;replace DQ:fK bX iG tG:=DQ;replace DR:fK bX tG zA:=DR;replace DS:fK bX zA KD:=DS;exact af (x2 (aX (aX ⟨_,rfl,aX (fin KD (rawInt a8.objs.size) x.key x.val false Xr (((rE.trans DQ).trans DR).trans DS) ⟨_,_,rfl,DU,oI zo⟩)⟩)))
 .refine af (ib o2 rfl (x:=rawInt a) rfl ?_);refine(?_:wpAny _ _ (loadIfAlive ((a:Int).toNat)>>=_) _ _ _);rw[pG];have Ds:=DI a ob Dp wn;refine af (kdx_alive Ds (e3 d8<|af (ib o2 rfl (x:=.bool f) rfl ?_)))
  induction f using eo with
  |true=>exact e3 (show¬((g7 true !=g7 true)=true) from d8)<|aX<|e3 d8<|aX (aX ⟨_,rfl,aX (fin fN _ _ _ _ o2 (BN _ _) ⟨_,_,rfl,Ds,Dp⟩)⟩)
  |false=>
   refine uM (show(g7 false !=g7 true)=true from rfl)<|af (u7 o2 (d5 rfl) fun iG DD rE=>?_)
   replace rE:fK bX fN iG:=rE;exact aX<|e3 d8<|aX (aX ⟨_,rfl,aX (fin iG (rawInt a) ok gh true DD rE ⟨_,_,rfl,Ds,Dp⟩)⟩)
theorem YB (bD:A.handled=none)(st:pT s.heap bX d i xs.length ep)(hm:s.heap.get? d=E (dictOf xs ep))(aR:xs[i]? =none)(h4:∀h',BL bX s.heap h'→Q none {s with heap:=h'}):wpAny (model O w) A (pyNext (.ref bX)) Q b2 s:=by
 refine uO st.ex fun o ok gh f dO ax=>?_;have ct:s.TypeIs (.ref bX) "dict_itemiterator":=⟨_,dO,rfl⟩;unfold pyNext;refine af (u2 (mL (name:=g6 "__next__") ct PySem.F.slot_dict_itemiterator_next
  (hp PySem.F.slot_dict_itemiterator_next ct PySem.F.entry_dict_itemiterator_next ?_ (PySem.F.args_dict_itemiterator_next_1 _))))
 refine af (aX ?_);refine af ?_;refine af ?_
 first|refine af (BH ct (aX ?_))|refine af (BJ ct (aX ?_))
 refine af (BE dO rfl ?_);rw[show Builtin.Dict_items.ownsTuple "dict_itemiterator"=true by decide,if_pos rfl];refine(?_:wpAny _ _ (if(gP d==cg)=true then _ else _) _ _ s);refine e3 (show¬((gP d==cg)=true) from d8) ?_;refine af (aX ?_);refine af (mM hm rfl ?_);refine e3 qr ?_;refine af (aX ?_);refine af (lj hm rfl ?_);refine e3 qr ?_;refine aX ?_;have o6:xs.toArray[i]? =none:=by simpa using aR
 simp only[show¬((i:Int)<0) from by omega,if_false,pG,o6];refine af ?_
 first|refine af (BH ct (aX ?_))|refine af (BJ ct (aX ?_))
 refine(?_:wpAny _ _ (setField (.ref bX) 2 .none>>=_) _ _ s);refine af (x3 dO rfl (d5 rfl) ?_);refine(?_:wpAny _ _ (newExc (.type "StopIteration") []>>=_) _ _ _);refine af ?_;simp only[newExc,newTuple];refine af (jC ?_ (by size_fits));refine af (m:=firstArgMember _ _) (hq (a:=cg) (by first|rfl|(simp only[firstArgMember];rfl)) ?_);refine jC ?_ (by size_fits);unfold raiseNew;refine af (G8 ?_);rw[show A.in1.handled=none from bD];refine af (aX (wpAny_throw ?_));refine af (pJ (T:="StopIteration") (b:=true) ⟨_,g5 _ rfl,rfl⟩ G2 ?_);exact aX (h4 _ (((kp ..).extBut.push _).push _))
end
def Got (h:fR)(aM:bj)(xs:List c3)(bY:List aj):Prop:=∀(j:Nat) (y:aj),bY[j]? =E y→∃(x:c3) (a:bj),xs[j]? =E x∧y=gP a∧aM<a∧h.get? a=E (gO [x.key,x.val] 0)
theorem Got.up {xs:List c3}{bY:List aj}(g:Got h aM xs bY)(k:∀a o,aM<a→h.get? a=E o→h'.get? a=E o):Got h' aM xs bY:=fun j y e=>by refine dD (g j y e) fun x a bT=>?_;refine kR bT fun aW aJ cJ eV=>?_;clear bT;exact⟨x,a,aW,aJ,cJ,k a _ cJ eV⟩
theorem Got.snoc {xs:List c3}{bY:List aj}{x:c3}(g:Got h aM xs bY)(aR:xs[bY.length]? =E x)(aC:aM<a)(e:h.get? a=E (gO [x.key,x.val] 0)):Got h aM xs (bY++[.ref a]):=fun j y q=>by
 rcases Bw j bY.length with c|c
 .rw[List.getElem?_append_left c] at q;exact g j y q
 .rw[List.getElem?_append_right c] at q;have co:j=bY.length:=by have:=(List.getElem?_eq_some_iff.mp q).1;rw[List.length_singleton] at this;lia
  subst co;rw[xX] at q;exact⟨x,a,aR,(fe q).symm,aC,e⟩
section
variable {cO d r:bj}{xs:List c3}{b0:Result→aS→Prop}
theorem YH (bD:A.handled=none)(vU:cO<aM)(zi:d≠cO)(WT:d≠aM)(aL:xs.length≤sizeLine)(r9:aj){h₁:fR}
 (al:∀h' di bY c,(∀b o,b≠cO→b≠aM→h₁.get? b=E o→h'.get? b=E o)→h'.get? cO=E (listOf bY.toArray c)→bY.length=xs.length→Got h' aM xs bY→b0 (.ok (.ret r9)) {s with heap:=h',toks:=di}):
 ∀(k:Nat) (h:fR) (di c:Nat) (bY:List aj),bY.length+k=xs.length→pT h aM d bY.length xs.length ep→h.get? d=E (dictOf xs ep)→(∀b o,b≠cO→b≠aM→h₁.get? b=E o→h.get? b=E o)→
  h.get? cO=E (listOf bY.toArray c)→Got h aM xs bY→aM<h.objs.size→codeAny (model O w) A (.builtin "list.extend.loop" ⟨[.ref cO,.ref aM,r9],[]⟩) b0 {s with heap:=h,toks:=di}:=by
 have jq:cO≠aM:=ny vU;intro k
 induction k with
 |zero=>
  intro h di c bY aB st ew keep bc jp ab;refine uZ PySem.F.entry_extend_loop ?_;rw[q6 PySem.F.plain_extend_loop _];refine(?_:wpAny _ A.in1 (pyNext (.ref aM)>>=_) _ _ _);refine af (YB (s:={s with heap:=h,toks:=di}) (A:=A.in1) bD st ew (List.getElem?_eq_none (by lia)) fun h' he=>?_)
  exact aX (al h' di bY c (fun b o R Z e=>he b o Z (keep b o R Z e)) (he cO _ jq bc) aB (jp.up fun a o aC e=>he a o (oI aC) e))
 |succ k aF=>
  intro h di c bY aB st ew keep bc jp ab;obtain⟨x,aR⟩:∃x,xs[bY.length]? =E x:=⟨_,List.getElem?_eq_getElem (by lia)⟩;refine uZ PySem.F.entry_extend_loop ?_;rw[q6 PySem.F.plain_extend_loop _];refine(?_:wpAny _ A.in1 (pyNext (.ref aM)>>=_) _ _ _);refine af (YC (s:={s with heap:=h,toks:=di}) st ew aR fun h' el cW hz mi=>?_)
  have qf:=mi cO _ jq bc;have up:∀b o,b≠cO→h'.get? b=E o→(h'.update cO (Obj.mapSeq (·.push (gP h.objs.size)))).get? b=E o:=fun b o az e=>(BM _ _ (Ne.symm az)).trans e;have J8:=l2 (Obj.mapSeq (·.push (gP h.objs.size))) qf rfl;have Ka:cO<h.objs.size:=ic bc;refine(?_:wpAny _ A.in1 (updateSeq cO (·.push (gP h.objs.size))>>=_) _ _ _);refine af ?_;have cm:pT (h'.update cO (Obj.mapSeq (·.push (gP h.objs.size)))) aM d (bY++[gP h.objs.size]).length xs.length ep:=by
   rw[List.length_append];refine el.keep (BM _ _ jq) fun a o e=>?_
   by_cases q:a=cO
   .exact⟨_,by rw[q];exact J8⟩
   .exact⟨o,up a o q e⟩
  refine x4 qf rfl (aX ⟨q4 PySem.F.plain_extend_loop _,aF _ di (c+1) (bY++[.ref h.objs.size]) (by rw[List.length_append,List.length_singleton];lia) cm (up d _ zi (mi d _ WT ew)) (fun b o R Z e=>up b o R (mi b o Z (keep b o R Z e)))
   (by rw[J8];simp[Obj.mapSeq,List.push_toArray]) (Got.snoc (jp.up fun a o aC e=>up a o (oI (sI vU aC)) (mi a o (oI aC) e)) aR ab (up _ _ (oI Ka) cW)) (sI ab (ic (up _ _ (oI Ka) cW)))⟩) ?_ ?_
  .rw[List.size_toArray];lia
  .refine(?_:(bY.toArray.push _).size≤_);rw[Array.size_push,List.size_toArray];lia
end
section
variable {d r:bj}{xs:List c3}
theorem YG (cp:s.heap.IsItemsView r d)(hm:s.heap.get? d=E (dictOf xs ep))(h4:Q (.ref s.heap.objs.size) {s with heap:=s.heap.push (qu d 0 xs.length ep .none .none .none false)}):wpAny (model O w) A (pyIter (.ref r)) Q b2 s:=by
 refine gz (id cp) fun gh XY ahe Xn=>u5 cp.typeIs PySem.F.slot_dict_items_iter (hp PySem.F.slot_dict_items_iter cp.typeIs PySem.F.entry_dict_items_iter ?_ (PySem.F.args_dict_items_iter_1 _));unfold Builtin.«dict_items.__iter__»;refine af (aX (af ?_));unfold Builtin.Dict_items.dictOf;refine af (ib XY Xn (x:=.ref d) rfl (aX (af ?_)));unfold Builtin.Dict_items.newIterator;refine af (mM hm rfl (af (lj hm rfl ?_)));simp only[show Builtin.Dict_items.ownsTuple "dict_itemiterator"=true by decide,if_true];refine jC (aX ⟨_,rfl,"dict_itemiterator",_,⟨_,g5 _ rfl,rfl⟩,PySem.F.slot_dict_itemiterator_next.lookup,?_⟩)
  (by simp only[sizeOk,Builtin.Dict_items.ownedTupleFields,List.size_toArray,List.length_append,List.length_cons,List.length_nil,BC];lia)
 simpa [rawInt,Builtin.Dict_items.ownedTupleFields,qu] using h4
theorem YF {cO:bj}{b0:Result→aS→Prop}(bD:A.handled=none)(cp:s.heap.IsItemsView r d)(hm:s.heap.get? d=E (dictOf xs ep))(WW:cO≠r)(zi:d≠cO)(r9:aj)(bc:s.heap.get? cO=E (listOf ([]:List aj).toArray 0))
 (al:∀h' di bY c,(∀b o,b≠cO→s.heap.get? b=E o→h'.get? b=E o)→h'.get? cO=E (listOf bY.toArray c)→bY.length=xs.length→Got h' s.heap.objs.size xs bY→b0 (.ok (.ret r9)) {s with heap:=h',toks:=di})(aL:xs.length≤sizeLine):
 wpAny (model O w) A.in1 (Builtin.List.listExtendWith (.ref cO) (.ref r) r9)
  (fun fin s'=>match fin with|.done f=>b0 (.ok f) s'|.again gR=>gR.quiet=true∧codeAny (model O w) A gR b0 s') (fun e s'=>b0 (.error e) s') s:=by
 have vU:cO<s.heap.objs.size:=ic bc;have Xe:d<s.heap.objs.size:=ic hm;have key:∀(h:fR) (yU di:Nat),(∀b o,b≠cO→(s.heap.push (qu d 0 xs.length ep .none .none .none false)).get? b=E o→h.get? b=E o)→
  h.get? cO=E (listOf ([]:List aj).toArray yU)→codeAny (model O w) A (.builtin "list.extend.loop" ⟨[.ref cO,.ref s.heap.objs.size,r9],[]⟩) b0 {s with heap:=h,toks:=di}:=fun h yU di aB qg=>by
  have ab:=aB s.heap.objs.size _ (oI vU) (g5 _ rfl);exact YH (xs:=xs) (ep:=ep) (s:=s) (h₁:=s.heap) bD vU zi (ny Xe) aL r9 (fun h' agf bY c kD=>al h' agf bY c fun b o az e=>kD b o az (ny (ic e)) e)
   xs.length h di yU [] (GV _) ⟨.none,.none,.none,false,ab,.inl ⟨rfl,rfl⟩⟩ (aB d _ zi (fx _ hm)) (fun b o az _ e=>aB b o az (fx _ e)) qg (fun j y e=>by exact c5 e) (ic ab)
 unfold Builtin.List.listExtendWith;refine af (u8 (T:="dict_items") cp.typeIs ?_);have R:Builtin.List.listSameRef (.ref cO) (.ref r)=false:=by simp[Builtin.List.listSameRef,WW]
 have Z:(cD "dict_items"==cD "list")=false:=by decide
 have bv:(cD "dict_items"==cD "tuple")=false:=by decide
 rw[R,Z,bv,uU];refine af (YG cp hm ?_);have qg:=fx (qu d 0 xs.length ep .none .none .none false) bc;refine af (gb (kdx_hint (let ⟨o,ax,aI,_⟩:=cp;⟨o,fx _ ax,aI⟩) ?_));refine oL (fun _=>?_) (fun _=>aX ⟨q4 PySem.F.plain_extend_loop _,key _ 0 _ (fun b o _ e=>e) qg⟩);refine af (iv (af ?_));refine(?_:wpAny _ _ (updateSeq cO (·.push .none)>>=fun _=>updateSeq cO (·.pop)) _ _ _);refine af (x4 qg rfl ?_);have Kb:=l2 (Obj.mapSeq (·.push cg)) qg rfl;refine x4 (hz:=by seq_fits) Kb rfl ?_;have WX:=l2 (Obj.mapSeq (·.pop)) Kb rfl;refine aX ⟨q4 PySem.F.plain_extend_loop _,key _ _ _ (fun b o az e=>?_) WX⟩;exact(BM _ _ (Ne.symm az)).trans ((BM _ _ (Ne.symm az)).trans e)
theorem YE {b0:List aj→aS→Prop}(bD:A.handled=none)(cp:s.heap.IsItemsView r d)(hm:s.heap.get? d=E (dictOf xs ep))(aL:xs.length≤sizeLine)
 (h:∀(h':fR) (di:Nat) (bY:List aj),(∀b o,s.heap.get? b=E o→h'.get? b=E o)→bY.length=xs.length→Got h' s.heap.objs.size xs bY→b0 bY {s with heap:=h',toks:=di}):
 wpAny (model O w) A (collect (.ref r)) b0 b2 s:=by
 have am:r<s.heap.objs.size:=let ⟨_,ax,_⟩:=cp;ic ax;have hd:d<s.heap.objs.size:=ic hm;unfold collect;refine af (wpAny_runValue (uZ entry_proto_collect' ?_));rw[q6 PySem.F.plain_proto_collect _];refine(?_:wpAny _ A.in1 (newList []>>=fun l=>again (.builtin "list.__iadd__" ⟨[l,.ref r],[]⟩)) _ _ s);refine af (jC (aX ⟨q4 PySem.F.plain_list_iadd _,uZ entry_list_iadd' ?_⟩));rw[q6 PySem.F.plain_list_iadd _];have J9:(s.heap.push {cls:=.type "list",data:=.seq ([]:List aj).toArray}).objs.size=s.heap.objs.size+1:=x5 _ _;have zJ:∀b o,s.heap.get? b=E o→(s.heap.push {cls:=.type "list",data:=.seq ([]:List aj).toArray}).get? b=E o:=fun b o e=>fx _ e;have qg:(s.heap.push {cls:=.type "list",data:=.seq ([]:List aj).toArray}).get? s.heap.objs.size=E (listOf ([]:List aj).toArray 0):=g5 _ rfl;generalize s.heap.push {cls:=.type "list",data:=.seq ([]:List aj).toArray}=h₁ at J9 zJ qg;have ec:s.heap.objs.size<h₁.objs.size:=J9▸jy _;have key:=YF (O:=O) (w:=w) (A:=A) (s:={s with heap:=h₁}) (cO:=s.heap.objs.size)
  (b0:=fun(q:Result) (s':aS)=>∃(h':fR) (di:Nat) (bY:List aj) (c:Nat),q=.ok (.ret (.ref s.heap.objs.size))∧s'={s with heap:=h',toks:=di}∧(∀b o,s.heap.get? b=E o→h'.get? b=E o)∧h'.get? s.heap.objs.size=E (listOf bY.toArray c)∧
   bY.length=xs.length∧Got h' s.heap.objs.size xs bY)
  bD (let ⟨o,ax,x⟩:=cp;⟨o,zJ _ _ ax,x⟩) (zJ _ _ hm) (oI am) (ny hd) (.ref s.heap.objs.size) qg
  (fun h' di bY c aB qf ar jp=>⟨h',di,bY,c,rfl,rfl,fun b o e=>aB b o (ny (ic e)) (zJ b o e),qf,ar,fun j y q=>by exact nv (jp j y q) fun x a aW aJ cJ eV=>⟨x,a,aW,aJ,sI ec cJ,eV⟩⟩) aL
 refine(?_:wpAny _ A.in1 (Builtin.List.listExtendWith (.ref s.heap.objs.size) (.ref r) (.ref s.heap.objs.size)) _ _ _);refine sM key (fun fin s' x=>?_) fun e s' x=>?_
 .cases fin with
  |done f=>refine ls x fun h' di bY c bT=>yC bT fun e pn aB qf ar jp=>?_;clear bT x;subst pn;cases e;refine(?_:wpAny _ A (load s.heap.objs.size>>=_) _ _ _);exact af (nC qf (aX (h h' di bY aB ar jp)))
  |again yU=>refine⟨x.1,codeAny_mono x.2 fun q eg y=>ls y fun h' di bY c bT=>yC bT fun eH pn aB qf ar jp=>?_⟩;clear bT y;subst eH;subst pn;refine(?_:wpAny _ A (load s.heap.objs.size>>=_) _ _ _);exact af (nC qf (aX (h h' di bY aB ar jp)))
 .refine uO x fun dh cj b9 eN cM pn=>?_;clear x dh cj b9 eN pn;cases cM
end
theorem agD:typeOf (.builtin "dict.items")=pure (.type "method_descriptor"):=by show builtinType _=_;rw[builtinType_eq_fast];kernel_rfl
theorem YI {d:bj}{xs:List c3}(hd:(d==sysModules)=false)(hm:s.heap.get? d=E (dictOf xs ep))
 (h:Q (.ref s.heap.objs.size) {s with heap:=s.heap.push {cls:=.type "dict_items",data:=.fields #[.ref d]}}):wpAny (model O w) A (call (.builtin "dict.items") [.ref d]) Q b2 s:=by
 refine hp PySem.F.slot_dict_items (fq hm) PySem.F.entry_dict_items ?_ (PySem.F.args_dict_items_1 _);unfold Builtin.«dict.items»;refine af ?_;unfold Builtin.Dict.noArgs;refine af (q5 (fq hm) ?_);refine(?_:wpAny _ _ (pure d) _ _ s);refine aX ?_;refine(?_:wpAny _ _ (Builtin.Dict.showsAll d>>=_) _ _ s);unfold Builtin.Dict.showsAll;rw[if_neg (by rw[hd];exact d8)];exact af (aX (af (jC (aX ⟨_,rfl,h⟩))))
theorem WO:∀{xs:List c3} {bY:List aj} {h h':fR} {aM:bj},dc w.params ρ h es xs→eK ρ ρ h h'→rf ρ h→bY.length=xs.length→Got h' aM xs bY→bK ρ h' (es.map fun e=>.tup [e.1,e.2]) bY:=by
 induction es with
 |nil=>intro xs bY h h' aM cS p hB ar g;cases cS;cases bY;exact .nil;cases ar
 |cons e es aF=>
  intro xs bY h h' aM cS p hB ar g;cases cS with
  |cons a b _ r=>
   induction bY using List.casesOn with
   |nil=>cases ar
   |cons y bY=>refine nv (g 0 y rfl) fun x ad aW eN cJ eV=>?_;subst eN;obtain rfl:=cF aW;refine .cons ?_ (aF r p hB (lZ ar) fun j y q=>g (j+1) y q);exact .tup eV (.cons (a.mono p hB) (.cons (b.mono p hB) .nil))
set_option tactic.hygienic true in
theorem ad7 (ok:B.Ok)(bD:A.handled=none)(bx:A.units+20<cLine){o:aY}{y:aG}{p2:Pos}(n:vd B I "sorted" (.builtin "sorted"))(az:oV o=true)(ar:(iD.endLine==p2.line)=true)(ax:cV O w B C A I ay o y):
 cV O w B C A I ay (.Call (.Name "sorted" k0) [.Call (.Attribute o "items" iD) [] [] p2] [] p) (.items y):=fun ah loc H ρ s Q K h r q=>by
 refine Ak (EB ok n r (Al (by rfl) ?_));refine(?_:aO O w A (spliced ((false,eval (.Call (.Attribute o "items" iD) [] [] p2) I)::backTo p (starEach [] I))) _ _);refine qK<|Nd az ar rfl (by decide) (ax ah loc H ρ s _ _ h r fun a aq bQ gh bB R bt lW bk=>?_)
 have cK:=r.step bk bt;unfold K1 at R
 split at R
 .refine lW.hl fun ad qi=>?_
  split at R
  .rename_i es k e
   refine j1 R fun aE R=>xC (bt.dict qi e) fun xs eZ cS aD hZ=>?_;have hm:=cK.mods ok.dG ad (List.mem_of_getElem? qi);refine⟨"dict","dict.items",PySem.F.plainAttrs_dict,PySem.F.slot_dict_items,agD,fq eZ,fun a e=>by cases e;exact⟨_,eZ,rfl⟩,cU (u9 ?_)⟩;refine cU (YI hm eZ (cU (u9 ⟨D6,?_⟩)));have j6:es.length≤4:=by have:=(aeY aE).1;rwa [List.length_map] at this
   have ba:∀b o,bB.heap.get? b=E o→(bB.heap.push {cls:=.type "dict_items",data:=.fields #[.ref ad]}).get? b=E o:=fun b o e=>fx _ e;have P6:(bB.heap.push {cls:=.type "dict_items",data:=.fields #[.ref ad]}).get? bB.heap.objs.size=E {cls:=.type "dict_items",data:=.fields #[.ref ad]}:=g5 _ rfl;generalize bB.heap.push {cls:=.type "dict_items",data:=.fields #[.ref ad]}=Z at ba P6;have ab2:eK bQ bQ bB.heap Z:=⟨⟨[],by simp,fun _ h=>nomatch h⟩,fun b o e _ _=>ba b o e⟩;have cr:bz w.params bQ aq Z:=bt.other (fun b az=>by refine dq (bt.lt az) fun o e=>?_;rw[e,ba b o e]) ab2
   refine xC (cr.dict qi e) fun Qf eC JF eN eH=>?_;clear eN eH;refine cU (O5 (s:={bB with heap:=Z}) bx cr aE (fun {x8} {b2} {b0} XC al=>YE (s:={bB with heap:=Z}) (XC.trans bD) ⟨_,P6,rfl,rfl⟩ eC (by rw[←JF.length,BC];lia) fun h' di bY gI ar g=>al h' di bY gI (WO JF ⟨⟨[],by simp,fun _ h=>nomatch h⟩,fun b o e _ _=>gI b o e⟩ cr.dg ar g)) fun bR h' t ys c mY gI cM c6=>?_)
   refine An (s:=bB) bt (q.after bk) R ?_ (fun b o e=>gI b o (ba b o e)) cM fun p=>tX c6.grow c;exact none_of ba mY
  .exact R.elim
 .exact R.elim
structure jX where
 aD:List (Str×g4)
 vars:List Str
variable {cx:jX}
structure nI where
 isFn:Str→Bool
 DZ:Str→Bool
noncomputable def idx:List Str→Str→Option Nat
 | [],_=>none
 |a::r,x=>match a==x with|true=>E 0|false=>(idx r x).map (· +1)
noncomputable def n3 (aD:List (Str×g4))(x:Str)(k:g4):Bool:=aD.lookup x==E k
noncomputable def t5 (x:Str):Bool:= !(x==("__debug__":Str))
noncomputable def fp {a0:Type}(b:Bool)(o:Option a0):Option a0:=match b with|true=>o|false=>none
noncomputable def lI:aY→Option (Str×Pos)
 |.Name x p=>E (x,p)
 |_=>none
noncomputable def vt:aY→Option (aY×Str×Pos)
 |.Attribute o n p=>E (o,n,p)
 |_=>none
noncomputable def CK:aY→Option (aY×List aY×List Keyword×Pos)
 |.Call f a k p=>E (f,a,k,p)
 |_=>none
noncomputable def F0:aY→Option (aY×aY×Pos)
 |.Subscript o i p=>E (o,i,p)
 |_=>none
noncomputable def gN:aY→Option (List aY×Nat×Pos)
 |.Tuple es k p=>E (es,k,p)
 |_=>none
noncomputable def Ja:aY→Option (Const×Nat×Pos)
 |.Constant c k p=>E (c,k,p)
 |_=>none
noncomputable def Eh:aY→Option (aY×List sK×oK×Pos)
 |.ListComp e g s p=>E (e,g,s,p)
 |_=>none
noncomputable def sj:aY→Option (Option aY×Option aY×Option aY×Pos)
 |.Slice l u s p=>E (l,u,s,p)
 |_=>none
noncomputable def one {a0:Type}:List a0→Option a0
 | [a]=>E a
 |_=>none
noncomputable def rY {a0 eh:Type}(l:List a0)(o:Option eh):Option eh:=match l with
 | []=>o
 |_::_=>none
def PA:Const→Option aG
 |.none=>E .none
 |.bool b=>E (.bool b)
 |.int i=>E (.int i)
 |.str x=>fp (f3 x) (E (.str (a7 x)))
 |.bytes b=>fp (de b.length 1000000) (E (.bytes (b.map fun u=>(u.toNat:Int))))
 |_=>none
def Ge (cx:jX)(x:Str):Option aG:=match idx cx.vars x with
 |some i=>E (.loc i)
 |none=>fp (f3 x&&t5 x&&n3 cx.aD x .globalImplicit) (E (.glob (a7 x)))
def qU (f:aY→Option aG):List aY→Option gQ
 | []=>E .nil
 |e::es=>fp (jS e) ((f e).bind fun x=>(qU f es).map fun xs=>.cons x xs)
def Mc:Const→Option V
 |.int i=>E (.int i)
 |.str x=>fp (f3 x) (E (.str (a7 x)))
 |_=>none
def Gd:List (Option aY)→Option (List V)
 | []=>E []
 |k::r=>(k.bind Ja).bind fun c=>(Mc c.1).bind fun v=>(Gd r).map fun aD=>v::aD
noncomputable def nq (f:aY→Option aG):Option aY→Option aG
 |none=>E .none
 |some e=>f e
noncomputable def freeOf:List (Str×g4)→List Str
 | []=>[]
 |(n,.free)::r=>n::freeOf r
 |_::r=>freeOf r
noncomputable def r8 (aD names:List (Str×g4)):List (Str×g4):=names.map fun(n,k)=>if(k==sO&&aD.lookup n==E .cell)=true then(n,He) else(n,k)
noncomputable def wW:List Str→Bool
 | []=>true
 |a::r=> !(r.contains a)&&wW r
def CM (cx:jX)(scope:oK)(x:Str):Bool:=
 scope.kind== .function&&(scope.names.all fun p=>p.2 != .local||scope.names.lookup p.1==E .local)&&n3 scope.names x .local&&(scope.names.all fun p=>p.2 != .cell)&&
 ((freeOf scope.names).all fun y=>n3 cx.aD y .cell&&scope.names.lookup y==E .free&&(idx cx.vars y).isSome)&&wW (freeOf scope.names++[x])&&((freeOf scope.names++[x]).all t5)
def tI (cx:jX)(scope:oK)(x:Str):jX:=⟨r8 cx.aD scope.names,freeOf scope.names++[x]⟩
def th (cx:jX)(scope:oK):List Nat:=(freeOf scope.names).map fun y=>(idx cx.vars y).getD 0
noncomputable def acB (f:aY→Option aG):List aY→Option aG
 | [e]=>(f e).map fun b=>.range (.int 0) b (.int 1)
 | [e,cM]=>(f e).bind fun a=>(f cM).map fun b=>.range a b (.int 1)
 | [e,cM,Jo]=>(f e).bind fun a=>(f cM).bind fun b=>(f Jo).map fun c=>.range a b c
 |_=>none
noncomputable def Nu:aG→Bool
 |.range _ _ _=>false
 |_=>true
def I1 (e:aY):Option (Str×List aY):=(CK e).bind fun c=>(lI c.1).bind fun n=>rY c.2.2.1 (E (n.1,c.2.1))
def E7 (e:aY):Option (List aY):=(I1 e).bind fun c=>fp (c.1==("range":Str)) (E c.2)
def Bc (f:aY→Option aG)(cx:jX)(bX:aY):Option aG:=match E7 bX with
 |some args=>fp (n3 cx.aD "range" .globalImplicit&&args.all jS&&(idx cx.vars "range").isNone) (acB f args)
 |none=>(f bX).bind fun x=>fp (Nu x) (E x)
def itemsOf (l:List aY):Option aY:=(one l).bind fun e=>(CK e).bind fun c=>rY c.2.1 (rY c.2.2.1 ((vt c.1).bind fun a=>fp (a.2.1==("items":Str)&&oV a.1&&a.2.2.endLine==c.2.2.2.line) (E a.1)))
noncomputable def PB (f:aY→Option aG):List aY→Option aG
 | []=>E (.bool true)
 | [c]=>f c
 |_=>none
def PF (f:aY→Option aG)(g:nI)(cx:jX)(x:Str)(args:List aY):Option aG:=fp (n3 cx.aD x .globalImplicit&&t5 x&&args.all jS) (match g.isFn x with
 |true=>(qU f args).map fun xs=>.call (a7 x) xs
 |false=>(match(fp (x==("sorted":Str)) (itemsOf args)) with
  |some o=>(f o).map fun y=>.items y
  |none=>(Cz.lookup x).bind fun b=>(qU f args).map fun xs=>.bi b xs))
def PE (f:aY→Option aG)(o:aY)(name:Str)(iD p:Pos)(args:List aY):Option aG:=fp ((name==("append":Str)||name==("get":Str))&&oV o&&iD.endLine==p.line&&args.all jS&&dT args.length 29)
 ((f o).bind fun x=>(qU f args).map fun xs=>.lH x (a7 name) xs)
noncomputable def Yu:BoolOp→Bool
 |.And=>true
 |.Or=>false
def dR:Nat→nI→jX→aY→Option aG
 |0,_,_,_=>none
 |n+1,g,cx,e=>match e with
  |.Constant c _ _=>PA c
  |.Name x _=>Ge cx x
  |.BinOp l op r _=>(dR n g cx l).bind fun a=>(dR n g cx r).map fun b=>.bin op a b
  |.UnaryOp op e _=>(match op with|.USub=>(dR n g cx e).map .neg|.Not=>(dR n g cx e).map .not|_=>none)
  |.BoolOp op es p=>(match es with
   | []=>none
   | [e]=>dR n g cx e
   |e::cM::r=>(dR n g cx e).bind fun a=>(dR n g cx (.BoolOp op (cM::r) p)).map fun b=>match Yu op with|true=>.and a b|false=>.or a b)
  |.IfExp t a b _=>(dR n g cx t).bind fun x=>(dR n g cx a).bind fun y=>(dR n g cx b).map fun z=>.ite x y z
  |.Compare l ub Ov _=>(one ub).bind fun op=>(one Ov).bind fun r=>fp (!behindInMarks op r) ((dR n g cx l).bind fun a=>(dR n g cx r).map fun b=>.cmp op a b)
  |.Call fn args tP p=>rY tP (match lI fn with
   |some y=>PF (dR n g cx) g cx y.1 args
   |none=>(vt fn).bind fun a=>PE (dR n g cx) a.1 a.2.1 a.2.2 p args)
  |.Attribute o name _=>fp (oV o&&g.DZ name) ((dR n g cx o).map fun x=>.attr x (a7 name))
  |.Subscript e i _=>(match sj i with
   |some s=>(dR n g cx e).bind fun x=>(nq (dR n g cx) s.1).bind fun a=>(nq (dR n g cx) s.2.1).bind fun b=>(nq (dR n g cx) s.2.2.1).map fun c=>.slice x a b c
   |none=>fp (!qs i) ((dR n g cx e).bind fun x=>(dR n g cx i).map fun y=>.sub x y))
  |.Tuple es _ _=>fp (de es.length 1000) ((qU (dR n g cx) es).map .tup)
  |.List es _=>fp (de es.length 1000) ((qU (dR n g cx) es).map .lst)
  |.Dict keys es _=>fp (de keys.length 15&&c1 keys.length es.length) ((Gd keys).bind fun aD=>(qU (dR n g cx) es).map fun xs=>.dict aD xs)
  |.ListComp gT gens scope _=>(one gens).bind fun q=>(lI q.target).bind fun y=>fp (q.is_async==0&&(CM cx scope y.1&&oa q.iter)) ((Bc (dR n g cx) cx q.iter).bind fun jU=>(dR n g (tI cx scope y.1) gT).bind fun gZ=>(PB (dR n g (tI cx scope y.1)) q.ifs).map fun fD=>.comp (th cx scope) gZ jU fD)
  |_=>none
def idxs (ay:List Str):List aY→Option (List Nat)
 | []=>E []
 |e::r=>(lI e).bind fun y=>(idx ay y.1).bind fun i=>(idxs ay r).map fun is=>i::is
def qY (aD:List (Str×g4))(y:Str):Bool:=n3 aD y .local||n3 aD y .cell
def yG (aD:List (Str×g4))(l:List aY):Bool:=l.all fun e=>match lI e with|some y=>qY aD y.1|none=>false
noncomputable def EJ:aY→Bool
 |.Tuple vs _ _=> !(vs.all (constantsAlone 8))
 |_=>true
def afK (cx:jX)(y:Str)(p q:Pos)(scope:oK):Bool:=n3 cx.aD y .local&&p.line==q.line&& !(scope.names.any fun(n,k)=>n==y&&(k== .local||k== .cell))
noncomputable def sr (f:iQ→Option cO):List iQ→Option ff
 | []=>E .nil
 |s::r=>(f s).bind fun x=>(sr f r).map fun xs=>.cons x xs
noncomputable def JV:Option aY×Option aY×Option aY×Pos→Option (aY×aY)
 |(E l,E h,none,_)=>E (l,h)
 |_=>none
def Gb (f:aY→Option aG)(cx:jX)(y:Str)(p:Pos)(e:aY):Option cO:=match Eh e with
 |some c=>fp (afK cx y p c.2.2.2 c.2.2.1) ((idx cx.vars y).bind fun i=>(f e).map fun x=>.asg i x)
 |none=>fp (!lD e&&qY cx.aD y) ((idx cx.vars y).bind fun i=>(f e).map fun x=>.asg i x)
def Gc (f:aY→Option aG)(cx:jX)(o i e:aY):Option cO:=match(sj i).bind JV with
 |some s=>fp (!lD e) ((f e).bind fun x=>(f o).bind fun y=>(f s.1).bind fun a=>(f s.2).map fun b=>.pZ y a b x)
 |none=>fp (!lD e&& !qs i) ((f e).bind fun x=>(f o).bind fun y=>(f i).map fun z=>.hK y z x)
def agj (f:aY→Option aG)(cx:jX)(es:List aY)(e:aY):Option cO:=fp (!lD e&&(yG cx.aD es&&EJ e)) ((idxs cx.vars es).bind fun is=>fp (i3 is) ((f e).map fun x=>.hY is x))
def Ga (f:aY→Option aG)(g:nI)(cx:jX)(t e:aY)(q:Pos):Option cO:=match lI t with
 |some y=>Gb f cx y.1 y.2 e
 |none=>match gN t with
  |some es=>agj f cx es.1 e
  |none=>match vt t with
   |some a=>fp (g.DZ a.2.1) ((f e).bind fun x=>(f a.1).map fun y=>.yH y (a7 a.2.1) x)
   |none=>(F0 t).bind fun s=>Gc f cx s.1 s.2.1 e
def uB:Nat→nI→jX→iQ→Option cO
 |0,_,_,_=>none
 |n+1,g,cx,s=>match s with
  |.Assign ho e q=>(one ho).bind fun t=>Ga (dR n g cx) g cx t e q
  |.AugAssign t op e _=>(lI t).bind fun x=>fp (qY cx.aD x.1) ((idx cx.vars x.1).bind fun i=>(dR n g cx e).map fun z=>.aug i op z)
  |.Expr e _=>fp (!lD e) ((dR n g cx e).map .ex)
  |.If t a b _=>(dR n g cx t).bind fun x=>(sr (uB n g cx) a).bind fun y=>(sr (uB n g cx) b).map fun z=>.iff x y z
  |.While t a o _=>rY o ((dR n g cx t).bind fun x=>(sr (uB n g cx) a).map fun y=>.xx x y)
  |.For t bX a o _=>rY o (fp (oa bX) ((Bc (dR n g cx) cx bX).bind fun x=>(sr (uB n g cx) a).bind fun b=>(match lI t with
   |some y=>fp (qY cx.aD y.1) ((idx cx.vars y.1).map fun i=>.hN i x b)
   |none=>(gN t).bind fun es=>fp (yG cx.aD es.1) ((idxs cx.vars es.1).map fun is=>.tv is x b))))
  |.Break _=>E .brk
  |.Return e _=>(nq (dR n g cx) e).map .ret
  |.Delete ho _=>(one ho).bind fun t=>(F0 t).bind fun s=>(dR n g cx s.1).bind fun y=>(dR n g cx s.2.1).map fun z=>.del y z
  |.Raise _ _ _=>E .err
  |_=>none
noncomputable def ZU (names:List (Str×g4)):List Str:=(names.filter fun p=>p.2== .local||p.2== .cell).map (·.1)
noncomputable def oj (fd:pI):List Str:=fd.params.args.map (·.arg)
def sA (fd:pI):List Str:=oj fd++(ZU fd.scope.names).filter fun x=> !(oj fd).contains x
def acj (p:Arguments):Bool:=p.posonlyargs.isEmpty&&p.vararg.isNone&&p.kwonlyargs.isEmpty&&p.kwarg.isNone
def Ba (g:nI)(fd:pI)(na:Nat)(defs:List V):Option cQ:=match fd.body with
 |.stmts body=>fp (acj fd.params&& !fd.scope.isCoroutine&& !fd.scope.isGenerator&&fd.scope.kind== .function&&fd.closure.isEmpty&&wW (sA fd)&&(sA fd).all t5&&((oj fd).all fun x=>qY fd.scope.names x)&&c1 (oj fd).length (na+defs.length))
  ((sr (uB 60 g ⟨fd.scope.names,sA fd⟩) body).map fun b=>⟨na,defs,(sA fd).length-(oj fd).length,b⟩)
 |_=>none
theorem fU {a0:Type}{o:Option a0}{x:a0}(h:fp b o=E x)(k:b=true→o=E x→G):G:=by
 induction b using eo with
 |false=>exact c5 h
 |true=>exact k rfl h
section
variable {aA:aY→Prop}
@[elab_as_elim] theorem rX {y:Str×Pos}(h:lI e=E y)(k:aA (.Name y.1 y.2)):aA e:=by
 induction e using jW with
 |Name x p=>obtain rfl:=cF h;exact k
 |_=>exact c5 h
@[elab_as_elim] theorem Cw {y:aY×Str×Pos}(h:vt e=E y)(k:aA (.Attribute y.1 y.2.1 y.2.2)):aA e:=by
 induction e using jW with
 |Attribute o n p=>obtain rfl:=cF h;exact k
 |_=>exact c5 h
@[elab_as_elim] theorem I0 {y:aY×List aY×List Keyword×Pos}(h:CK e=E y)(k:aA (.Call y.1 y.2.1 y.2.2.1 y.2.2.2)):aA e:=by
 induction e using jW with
 |Call f a w p=>obtain rfl:=cF h;exact k
 |_=>exact c5 h
@[elab_as_elim] theorem Ph {y:aY×aY×Pos}(h:F0 e=E y)(k:aA (.Subscript y.1 y.2.1 y.2.2)):aA e:=by
 induction e using jW with
 |Subscript o i p=>obtain rfl:=cF h;exact k
 |_=>exact c5 h
@[elab_as_elim] theorem PM {y:List aY×Nat×Pos}(h:gN e=E y)(k:aA (.Tuple y.1 y.2.1 y.2.2)):aA e:=by
 induction e using jW with
 |Tuple es n p=>obtain rfl:=cF h;exact k
 |_=>exact c5 h
@[elab_as_elim] theorem Tk {y:Const×Nat×Pos}(h:Ja e=E y)(k:aA (.Constant y.1 y.2.1 y.2.2)):aA e:=by
 induction e using jW with
 |Constant c n p=>obtain rfl:=cF h;exact k
 |_=>exact c5 h
@[elab_as_elim] theorem ZA {y:aY×List sK×oK×Pos}(h:Eh e=E y)(k:aA (.ListComp y.1 y.2.1 y.2.2.1 y.2.2.2)):aA e:=by
 induction e using jW with
 |ListComp a b c d=>obtain rfl:=cF h;exact k
 |_=>exact c5 h
@[elab_as_elim] theorem OW {y:Option aY×Option aY×Option aY×Pos}(h:sj e=E y)(k:aA (.Slice y.1 y.2.1 y.2.2.1 y.2.2.2)):aA e:=by
 induction e using jW with
 |Slice a b c d=>obtain rfl:=cF h;exact k
 |_=>exact c5 h
end
@[elab_as_elim] theorem ua {a0:Type}{aA:List a0→Prop}{l:List a0}{a:a0}(h:one l=E a)(k:aA [a]):aA l:=by
 induction l using List.casesOn with
 |nil=>exact c5 h
 |cons b r=>induction r using List.casesOn with
  |nil=>obtain rfl:=cF h;exact k
  |cons _ _=>exact c5 h
@[elab_as_elim] theorem t4 {a0 eh:Type}{aA:List a0→Prop}{l:List a0}{o:Option eh}{b:eh}(h:rY l o=E b)(k:o=E b→aA []):aA l:=by
 induction l using List.casesOn with
 |nil=>exact k h
 |cons _ _=>exact c5 h
theorem qp:∀{l:List Str} {x:Str} {i:Nat},idx l x=E i→l[i]? =E x
 |a::r,x,i,h=>by
  unfold idx at h;cases e:a==x with
  |true=>rw[e] at h;obtain rfl:=cF h;rw[beq_iff_eq.mp e];rfl
  |false=>
   rw[e] at h;refine eB h fun j co=>?_
   simpa using qp co
theorem EG:∀{l:List Str},wW l=true→l.Nodup
 | [],_=>List.nodup_nil
 |a::r,h=>by unfold wW at h;rw[fJ,km] at h;exact List.nodup_cons.mpr ⟨fun hm=>(by have:=h.1;rw[List.contains_iff_mem.mpr hm] at this;exact j9 this),EG h.2⟩
theorem tl {x:Str}(h:t5 x=true):(x==("__debug__":Str))=false:=by unfold t5 at h;rwa [km] at h
theorem rN {aD:List (Str×g4)}{x:Str}{k:g4}(h:n3 aD x k=true):aD.lookup x=E k:=beq_iff_eq.mp h
structure iS (I:Env)(aD:List (Str×g4)):Prop where
 kind:I.scope.kind=.function
 names:I.scope.names=aD
 cells:∀x,aD.lookup x=E .cell→(I.cells.lookup x).isSome=true
theorem iS.iH {aD:List (Str×g4)}(e:iS I aD){x:Str}{k:g4}(h:n3 aD x k=true):I.kindOf x=E k:=by refine(?_:I.scope.names.lookup x=_);rw[e.names];exact rN h
theorem iS.wr {aD:List (Str×g4)}(e:iS I aD){x:Str}(h:qY aD x=true):pY I x:=by
 unfold qY at h;rcases xJ.mp h with h|h
 .exact .inl (e.iH h)
 .exact .inr ⟨e.iH h,e.cells x (rN h)⟩
noncomputable def qa (I:Env):List (Str×g4)→List (Str×bj)→Option (List (Str×bj))
 | [],b7=>E b7
 |(n,k)::r,b7=>match k==sO with
  |true=>(I.cells.lookup n).bind fun c=>qa I r ((n,c)::b7)
  |false=>qa I r b7
theorem Td {cl:List (Str×bj)}(h:qa I scope.names []=E cl):closureFor scope I=pure cl:=by
 have key:∀(names:List (Str×g4)) (b7:List (Str×bj)),qa I names b7=E cl→
  (forIn names b7 fun(x:Str×g4) (cs:List (Str×bj))=>(if(x.2==sO)=true then(do let c←cellOf I x.1;pure (Bp ((x.1,c)::cs))) else pure (Bp cs):Sem (ForInStep (List (Str×bj)))))=pure cl:=by
  intro names
  induction names with
  |nil=>intro b7 h;obtain rfl:=cF h;rfl
  |cons p r aF=>
   intro b7 h;obtain⟨n,k⟩:=p;rw[List.forIn_cons];unfold qa at h;cases aB:k==sO with
   |true=>
    rw[aB] at h;refine dC h fun c aI h=>?_;have e:cellOf I n=pure c:=by unfold cellOf;rw[aI]
    simp only[aB,if_true,e];exact aF _ h
   |false=>rw[aB] at h;simp only[aB,Bool.false_eq_true,if_false];exact aF _ h
 unfold closureFor;have:=key scope.names [] h;rw[bind_pure];exact this
theorem Tb:∀(names:List (Str×g4)) (b7:List (Str×bj)),(∀y∈freeOf names,(I.cells.lookup y).isSome=true)→(∀p∈b7,I.cells.lookup p.1=E p.2)→
 ∃cl,qa I names b7=E cl∧(∀p∈cl,I.cells.lookup p.1=E p.2)∧∀y,y∈freeOf names∨(b7.lookup y).isSome=true→(cl.lookup y).isSome=true:=fun names=>by
 induction names with
 |nil=>exact fun b7 _ aC=>⟨b7,rfl,aC,fun y h=>h.elim (fun h=>nomatch h) id⟩
 |cons p r aF=>
  obtain⟨n,k⟩:=p;intro b7 h aC;cases aB:k==sO with
  |true=>
   have kD:k=.free:=beq_iff_eq.mp aB;subst kD;refine dq (sJ.mp (h n List.mem_cons_self)) fun c aI=>?_;refine dq (aF ((n,c)::b7) (fun y cu=>h y (List.mem_cons_of_mem _ cu)) (fun p a8=>by
    rcases List.mem_cons.mp a8 with rfl|a8
    .exact aI
    .exact aC p a8)) fun cl bT=>?_
   refine hJ bT fun R Z bv=>?_;clear bT;refine⟨cl,?_,Z,fun y cu=>bv y ?_⟩
   .unfold qa;rw[aB,aI];exact R
   .rw[List.lookup_cons];clear h aI R bv;rcases cu with cu|cu
    .rcases List.mem_cons.mp cu with rfl|cu
     .right;simp
     .exact .inl cu
    .right;split<;>first|rfl|exact cu
  |false=>
   have hf:freeOf ((n,k)::r)=freeOf r:=by clear h;cases k<;>first|rfl|exact j9 aB
   rw[hf] at h⊢;refine gz (aF b7 h aC) fun cl R Z bv=>⟨cl,?_,Z,bv⟩;unfold qa;rw[aB];exact R
theorem acH {aD names:List (Str×g4)}{y:Str}(h:names.lookup y=E .free)(aB:aD.lookup y=E .cell):(r8 aD names).lookup y=E .cell:=by
 unfold r8
 induction names with
 |nil=>exact c5 h
 |cons p r aF=>
  obtain⟨n,k⟩:=p;rw[List.lookup_cons] at h;rw[List.map_cons];cases e:y==n with
  |true=>rw[e] at h;obtain rfl:=cF h;have cM:y=n:=beq_iff_eq.mp e;subst cM;simp[aB]
  |false=>
   rw[e] at h;have:=aF h;dsimp only
   by_cases aI:(k==sO&&aD.lookup n==E .cell)=true
   .rw[if_pos aI,List.lookup_cons,e];exact this
   .rw[if_neg aI,List.lookup_cons,e];exact this
theorem acG {aD names:List (Str×g4)}{y:Str}(aL:∀p∈names,p.2≠.cell)(h:(r8 aD names).lookup y=E .cell):y∈freeOf names:=by
 unfold r8 at h
 induction names with
 |nil=>exact c5 h
 |cons p r aF=>
  obtain⟨n,k⟩:=p;rw[List.map_cons] at h;dsimp only at h;have am:=aF fun p a8=>aL p (List.mem_cons_of_mem _ a8);have sub:y∈freeOf r→y∈freeOf ((n,k)::r):=fun cu=>by clear aL h;cases k<;>first|exact cu|exact List.mem_cons_of_mem _ cu
  by_cases aI:(k==sO&&aD.lookup n==E .cell)=true
  .rw[if_pos aI,List.lookup_cons] at h;clear aL;cases e:y==n with
   |true=>rw[fJ] at aI;have:k=.free:=beq_iff_eq.mp aI.1;clear sub aI;subst this;rw[beq_iff_eq.mp e];exact List.mem_cons_self
   |false=>rw[e] at h;exact sub (am h)
  .rw[if_neg aI,List.lookup_cons] at h;clear aI;cases e:y==n with
   |true=>rw[e] at h;clear sub;obtain rfl:=cF h;exact absurd rfl (aL _ List.mem_cons_self)
   |false=>rw[e] at h;exact sub (am h)
theorem Oq {aD:List (Str×g4)}(dx:iS I aD)(scope:oK):(relabel scope I).names=r8 aD scope.names:=by
 unfold relabel r8;refine List.map_congr_left fun p _=>?_;have aB:∀n,I.kindOf n=aD.lookup n:=fun n=>by show I.scope.names.lookup n=_;rw[dx.names]
 simp only[dx.kind,aB,beq_self_eq_true,xI]
theorem Tj {x:Str}(dx:iS I cx.aD)(h:CM cx scope x=true):
 ∃cl,pM I cx.vars scope x (th cx scope) (freeOf scope.names) cl∧∀bR,iS (compEnvC scope cl bR I) (tI cx scope x).aD:=by
 unfold CM at h;simp only[fJ,List.all_eq_true,beq_iff_eq] at h;refine b8 h fun dh WR=>?_;clear h;refine b8 dh fun iB nY=>?_;clear dh;refine b8 iB fun dh gV=>?_;clear iB;refine b8 dh fun iB cZ=>?_;clear dh;obtain⟨⟨R,Z⟩,bv⟩:=iB;have Ki:∀p∈scope.names,p.2≠.cell:=fun p a8=>bne_iff_ne.mp (cZ p a8);refine gz (Tb (I:=I) scope.names [] (fun y cu=>dx.cells y (rN (gV y cu).1.1)) (fun p a8=>nomatch a8)) fun cl dE dX gp=>⟨cl,⟨R,fun y cu ar=>?_,rN bv,Ki,Td dE,dX,fun i y cu=>?_,by simp[th],EG nY,fun y cu=>tl (WR y cu)⟩,fun bR=>⟨R,Oq dx scope,fun y cu=>?_⟩⟩
 .have:=Z y cu;rw[ar,uT] at this;rcases this with q|q
  .exact absurd rfl (bne_iff_ne.mp q)
  .exact beq_iff_eq.mp q
 .have hm:=List.mem_of_getElem? cu;refine b8 (gV y hm) fun dh bS=>b8 dh fun ba bL=>?_;clear dh;refine dq (sJ.mp bS) fun j co=>⟨j,?_,qp co,dx.iH ba,?_,?_⟩
  .unfold th;rw[List.getElem?_map,cu];refine(?_:E ((idx cx.vars y).getD 0)=E j);rw[co];rfl
  .rw[Oq dx];exact acH bL (rN ba)
  .refine dq (sJ.mp (gp y (.inl hm))) fun c aI=>?_;rw[aI,dX _ (PySem.mem_of_lookup aI)]
 .exact gp y (.inl (acG Ki cu))
structure kP (O:hS)(w:fk)(B:gE)(C:hT)(A:fw)(g:nI)(fH:Nat→Option aj)(d:Nat):Prop where
 ok:B.Ok
 bD:A.handled=none
 bx:A.units+20+10*d<cLine
 hd:A.depth+60+2*d<recursionLimit
 cs:l3 O w B C d fH
 fn:∀x,g.isFn x=true→∃f,B.j8 x=E f∧fH (a7 x)=E f
 blt:∀x b,Cz.lookup x=E b→B.j8 x=none∧B.pd x=E (te b)
 eQ:B.j8 "range"=none∧B.pd "range"=E (.type "range")
 attr:∀x,g.DZ x=true→ya B x
section
variable {g:nI}{d:Nat}
theorem kP.hO (G:kP O w B C A g fH d):A.units+20<cLine:=by have:=G.bx;lia
theorem Sb (bD:A.handled=none)(bx:A.units+20<cLine):∀b:mN,nF O w A (te b) b
 |.len=>Se
 |.bytes=>Sd bD
 |.bytearray=>Sc
 |.sum=>Sj bD
 |.sorted=>Si bx
 |.list=>Sf bD
 |.min=>Sh bD
 |.max=>Sg bD
def Ik (O:hS)(w:fk)(B:gE)(C:hT)(A:fw)(I:Env)(ay:List Str)(e:aY)(x:aG):Prop:=cV O w B C A I ay e x∧ST O w B C A I ay e x
def vm (O:hS)(w:fk)(B:gE)(C:hT)(A:fw)(I:Env)(ay:List Str)(e:aY)(x:aG):Prop:=cV O w B C A I ay e x∧x.plain=true
def pL (O:hS)(w:fk)(B:gE)(C:hT)(A:fw)(f:aY→Option aG)(I:Env)(ay:List Str):Prop:=∀e x,f e=E x→Ik O w B C A I ay e x
variable {f:aY→Option aG}
theorem aeU (G:kP O w B C A g fH d)(dx:iS I cx.aD){x:Str}{y:aG}(h:Ge cx x=E y):vm O w B C A I cx.vars (.Name x p) y:=by
 unfold Ge at h;cases e:idx cx.vars x with
 |some i=>rw[e] at h;obtain rfl:=cF h;exact⟨ad8 (qp e),rfl⟩
 |none=>rw[e] at h;refine fU h fun c h=>?_;obtain rfl:=cF h;exact b5 c fun c dX=>b5 c fun dE gp=>⟨ad4 G.ok dE (dx.iH dX) (tl gp),rfl⟩
theorem sf (H:pL O w B C A f I cx.vars):∀{es:List aY} {xs:gQ},qU f es=E xs→oQ O w B C A I cx.vars es xs
 | [],_,h=>by obtain rfl:=cF h;exact .nil
 |e::es,_,h=>by exact fU h fun c h=>dC h fun x aR h=>eB h fun xs wt=>.cons c (H e x aR).1 (sf H wt)
theorem not_of (h:(!b)=true):b=false:=by induction b using eo with|false=>rfl|true=>exact(d8 h).elim
theorem Sa (b:mN):(∃n,te b=.builtin n)∨(∃n,te b=.type n):=by cases b<;>first|exact .inl ⟨_,rfl⟩|exact .inr ⟨_,rfl⟩
theorem YZ {c:Const}{k:Nat}{r:List (Option aY)}(h:Mc c=E v)(aB:KeysAre r aD):KeysAre (E (.Constant c k p)::r) (v::aD):=by
 induction c using Const.casesOn with
 |int i=>obtain rfl:=cF h;exact .int aB
 |str x=>refine fU h fun c h=>?_;obtain rfl:=cF h;exact .str c aB
 |_=>exact c5 h
theorem Y2 {keys:List (Option aY)}:∀{aD:List V},Gd keys=E aD→KeysAre keys aD:=by
 induction keys with
 |nil=>intro aD h;obtain rfl:=cF h;exact .nil
 |cons k r aF=>intro aD h;refine dC h fun c aI h=>dC h fun v cp h=>eB h fun aD aB=>dC aI fun e he aI=>?_;subst he;exact Tk aI<|YZ cp (aF aB)
theorem abo {x:aG}(h:Nu x=true):∀a b c,x≠.range a b c:=fun a b c e=>by subst e;exact dZ h
@[elab_as_elim] theorem S1 {aA:aY→Prop}{y:Str×List aY}(h:I1 e=E y)(k:∀k0 p,aA (.Call (.Name y.1 k0) y.2 [] p)):aA e:=by
 refine dC h fun c aI h=>dC h fun n aL h=>I0 aI<|rX aL<|t4 h fun h=>?_
 obtain rfl:=cF h;exact k _ _
@[elab_as_elim] theorem acz {aA:aY→Prop}{y:List aY}(h:E7 e=E y)(k:∀k0 p,aA (.Call (.Name "range" k0) y [] p)):aA e:=by refine dC h fun c aI h=>fU h fun dE h=>?_;obtain rfl:=cF h;refine S1 aI ?_;rw[beq_iff_eq.mp dE];exact k
theorem OU (G:kP O w B C A g fH d)(dx:iS I cx.aD)(H:pL O w B C A f I cx.vars){x:aG}(h:Bc f cx bX=E x):nL O w B C A I cx.vars bX x:=by
 unfold Bc at h;cases e:E7 bX with
 |none=>rw[e] at h;refine dC h fun y cu h=>fU h fun c h=>?_;obtain rfl:=cF h;exact aeC G.ok (abo c) (H bX _ cu).1
 |some args=>
  rw[e] at h;refine fU h fun c h=>b5 c fun c _=>b5 c fun dE ca=>?_;have oW:vd B I "range" (.type "range"):=⟨dx.iH dE,by decide+kernel,G.eQ.1,G.eQ.2⟩;refine acz e fun k0 p=>?_;clear e
  induction args using List.casesOn with
  |nil=>exact c5 h
  |cons e r=>induction r using List.casesOn with
   |nil=>exact eB h fun b az=>Fq G.ok oW ca (.inl ⟨_,rfl,rfl,rfl,(H _ _ az).1⟩)
   |cons cM r=>induction r using List.casesOn with
    |nil=>exact dC h fun a aC h=>eB h fun b az=>Fq G.ok oW ca (.inr (.inl ⟨_,_,rfl,rfl,(H _ _ aC).1,(H _ _ az).1⟩))
    |cons Jo r=>induction r using List.casesOn with
     |nil=>exact dC h fun a aC h=>dC h fun b az h=>eB h fun c aI=>Fq G.ok oW ca (.inr (.inr ⟨_,_,_,rfl,(H _ _ aC).1,(H _ _ az).1,(H _ _ aI).1⟩))
     |cons _ _=>exact c5 h
theorem FN (H:pL O w B C A f I cx.vars){e:Option aY}{x:aG}(h:nq f e=E x):sY O w B C A I cx.vars e x:=by
 induction e using ez with
 |none=>obtain rfl:=cF h;exact ae0
 |some e=>exact ae1 (H e x h).1
@[elab_as_elim] theorem YD {aA:List aY→Prop}{o:aY}(h:itemsOf args=E o)(k:∀iD p,oV o=true→(iD.endLine==p.line)=true→aA [.Call (.Attribute o "items" iD) [] [] p]):aA args:=by
 refine dC h fun e he h=>ua he<|dC h fun c aI h=>I0 aI<|t4 h fun h=>t4 h fun h=>dC h fun a aC h=>Cw aC<|fU h fun c h=>?_
 obtain rfl:=cF h;refine b5 c fun c ar=>b5 c fun dE az=>?_;rw[beq_iff_eq.mp dE];exact k _ _ az ar
theorem adS (G:kP O w B C A g fH d)(dx:iS I cx.aD)(H:pL O w B C A f I cx.vars){x:Str}{y:aG}(h:PF f g cx x args=E y):
 vm O w B C A I cx.vars (.Call (.Name x k0) args [] p) y:=by
 refine fU h fun c h=>b5 c fun c gp=>b5 c fun dE dX=>?_;cases e:g.isFn x with
 |true=>rw[e] at h;exact eB h fun xs aR=>dq (G.fn x e) fun v bT=>⟨ad0 G.ok G.cs G.bD G.bx G.hd (dx.iH dE) (tl dX) bT.1 bT.2 gp (sf H aR).xb,rfl⟩
 |false=>
  rw[e] at h;dsimp only at h;clear e;cases e:fp (x==("sorted":Str)) (itemsOf args) with
  |none=>rw[e] at h;exact dC h fun b az hz=>eB hz fun xs aR=>b8 (G.blt x b az) fun eO fT=>⟨adV G.ok ⟨dx.iH dE,tl dX,eO,fT⟩ (Sa b) gp (Sb G.bD G.hO b) (sf H aR).xb,rfl⟩
  |some o=>rw[e] at h;refine eB h fun z hz=>fU e fun aW aJ=>YD aJ fun iD p2 az ar=>?_;obtain rfl:=beq_iff_eq.mp aW;exact b8 (G.blt "sorted" .sorted (by rfl)) fun eO fT=>⟨ad7 G.ok G.bD G.hO ⟨dx.iH dE,tl dX,eO,fT⟩ az ar (H o z hz).1,rfl⟩
theorem aeT (G:kP O w B C A g fH d)(H:pL O w B C A f I cx.vars){o:aY}{y:aG}(h:PE f o name iD p args=E y):
 vm O w B C A I cx.vars (.Call (.Attribute o name iD) args [] p) y:=by
 exact fU h fun c h=>b5 c fun c lm=>b5 c fun c iU=>b5 c fun c gp=>b5 c fun dE dX=>dC h fun x aR h=>eB h fun xs wt=>⟨aea G.ok G.hO ((xJ.mp dE).imp beq_iff_eq.mp beq_iff_eq.mp) dX gp iU (d5 lm) (H o x aR).1 (sf H wt).xb,rfl⟩
theorem aeD (H:pL O w B C A f I cx.vars){fD:aG}(h:PB f fO=E fD):(fO=[]∧fD=.bool true)∨∃c,fO=[c]∧ST O w B C A I cx.vars c fD:=by
 induction fO using List.casesOn with
 |nil=>obtain rfl:=cF h;exact .inl ⟨rfl,rfl⟩
 |cons c r=>induction r using List.casesOn with
  |nil=>exact .inr ⟨_,rfl,(H _ _ h).2⟩
  |cons _ _=>exact c5 h
theorem plain2 {x:aG}(he:CY e=true)(h:vm O w B C A I ay e x):Ik O w B C A I ay e x:=⟨h.1,afy h.2 he h.1⟩
theorem agl {c:Const}{k:Nat}{x:aG}(h:PA c=E x):vm O w B C A I ay (.Constant c k p) x:=by
 induction c using Const.casesOn with
 |none=>obtain rfl:=cF h;exact⟨aec,rfl⟩
 |bool b=>obtain rfl:=cF h;exact⟨adX,rfl⟩
 |int i=>obtain rfl:=cF h;exact⟨ad5,rfl⟩
 |str s=>refine fU h fun c h=>?_;obtain rfl:=cF h;exact⟨aeg c,rfl⟩
 |bytes b=>refine fU h fun c h=>?_;obtain rfl:=cF h;exact⟨adZ (d5 c),rfl⟩
 |_=>exact c5 h
@[elab_as_elim] theorem I8 (G:kP O w B C A g fH d)(aF:∀cx I,iS I cx.aD→pL O w B C A (dR n g cx) I cx.vars)(dx:iS I cx.aD){gens:List sK}{x:aG}
 (h:dR (n+1) g cx (.ListComp gT gens scope pos)=E x){aA:List sK→aG→Prop}
 (k:∀y ni iter fO cl jU gZ fD,oa iter=true→pM I cx.vars scope y (th cx scope) (freeOf scope.names) cl→nL O w B C A I cx.vars iter jU→
  (∀bR,cV O w B C A (compEnvC scope cl bR I) (freeOf scope.names++[y]) gT gZ)→((fO=[]∧fD=.bool true)∨∃c,fO=[c]∧∀bR,ST O w B C A (compEnvC scope cl bR I) (freeOf scope.names++[y]) c fD)→aA [⟨.Name y ni,iter,fO,0⟩] (.comp (th cx scope) gZ jU fD)):aA gens x:=by
 refine dC h fun q a9 h=>ua a9<|dC h fun y cu h=>fU h fun c h=>b5 c fun ca c=>b5 c fun dE dX=>dC h fun jU R h=>dC h fun gZ Z h=>eB h fun fD bv=>?_
 clear h a9 c;obtain⟨xm,iter,fO,ahc⟩:=q;obtain rfl:=beq_iff_eq.mp ca;replace cu:lI xm=E y:=cu;refine rX cu<|dq (Tj dx dE) fun cl bT=>k _ _ _ _ cl jU gZ fD dX bT.1 (OU G dx (aF cx I dx) R) (fun bR=>(aF (tI cx scope y.1) _ (bT.2 bR) gT gZ Z).1)<|(aeD (aF (tI cx scope y.1) _ (bT.2 0)) bv).imp id fun e=>e.elim fun gR e=>⟨gR,e.1,fun bR=>?_⟩
 have aW:=e.1;clear ca dX R;subst aW;exact(aF (tI cx scope y.1) _ (bT.2 bR) gR fD bv).2
theorem xo (G:kP O w B C A g fH d):∀(n:Nat) (cx:jX) (I:Env),iS I cx.aD→pL O w B C A (dR n g cx) I cx.vars:=by
 intro n
 induction n with
 |zero=>intro cx I dx e x h;exact c5 h
 |succ n aF=>
  intro cx I dx e x h;have aM:=aF cx I dx
  induction e using jW with
  |Constant c k p=>exact plain2 rfl (agl h)
  |Name y p=>exact plain2 rfl (aeU G dx h)
  |BinOp l op r p=>exact dC h fun a aC h=>eB h fun b az=>plain2 rfl ⟨adW (aM l a aC).1 (aM r b az).1,rfl⟩
  |UnaryOp op e p=>
   induction op using UnaryOp.casesOn with
   |USub=>exact eB h fun a aC=>plain2 rfl ⟨aeb (aM e a aC).1,rfl⟩
   |Not=>exact eB h fun a aC=>⟨aed (aM e a aC).1,afv (aM e a aC).2⟩
   |_=>exact c5 h
  |BoolOp op es p=>
   induction es using List.casesOn with
   |nil=>exact c5 h
   |cons e es=>
    induction es using List.casesOn with
    |nil=>
     refine b8 (aM e x h) fun R Z=>⟨adY R,?_⟩;clear h;cases op
     .exact afs Z
     .exact afx Z
    |cons cM r=>
     refine dC h fun a aC h=>eB h fun b az=>?_;cases op
     .exact⟨adT (aM e a aC).1 (aM _ b az).1,afr (aM e a aC).2 (aM _ b az).2⟩
     .exact⟨aee (aM e a aC).1 (aM _ b az).1,afw (aM e a aC).2 (aM _ b az).2⟩
  |IfExp t a b p=>exact dC h fun ja R h=>dC h fun jb Z h=>eB h fun lX bv=>⟨ad6 (aM t ja R).2 (aM a jb Z).1 (aM b lX bv).1,afu (aM t ja R).2 (aM a jb Z).2 (aM b lX bv).2⟩
  |Compare l ub Ov p=>
   refine dC h fun op ax h=>dC h fun r am h=>ua ax<|ua am<|fU h fun c h=>dC h fun a aC h=>eB h fun b az=>?_
   have aB:behindInMarks op r=false:=not_of c;exact⟨ad1 G.ok.dG G.hO (aM l a aC).1 (aM r b az).1 aB,aft G.ok.dG G.hO (aM l a aC).1 (aM r b az).1 aB⟩
  |Call fn args tP p=>
   refine t4 h fun h=>?_;cases e:lI fn with
   |some y=>rw[e] at h;exact rX e (plain2 rfl (adS G dx aM h))
   |none=>rw[e] at h;exact dC h fun a aC h=>Cw aC (plain2 rfl (aeT G aM h))
  |Attribute o name p=>exact fU h fun c h=>b5 c fun dE dX=>eB h fun a aC=>plain2 rfl ⟨adU G.ok (G.attr name dX) dE (aM o a aC).1,rfl⟩
  |Subscript e i p=>
   cases q:sj i with
   |some s=>
    replace h:(match sj i with
     |some s=>(dR n g cx e).bind fun x=>(nq (dR n g cx) s.1).bind fun a=>(nq (dR n g cx) s.2.1).bind fun b=>(nq (dR n g cx) s.2.2.1).map fun c=>aG.slice x a b c
     |none=>fp (!qs i) ((dR n g cx e).bind fun x=>(dR n g cx i).map fun y=>.sub x y))=E x:=h
    rw[q] at h;exact dC h fun a aC h=>dC h fun b az h=>dC h fun c aI h=>eB h fun z hz=>OW q (plain2 rfl ⟨aef (aM e a aC).1 (FN aM az) (FN aM aI) (FN aM hz),rfl⟩)
   |none=>
    replace h:(match sj i with
     |some s=>(dR n g cx e).bind fun x=>(nq (dR n g cx) s.1).bind fun a=>(nq (dR n g cx) s.2.1).bind fun b=>(nq (dR n g cx) s.2.2.1).map fun c=>aG.slice x a b c
     |none=>fp (!qs i) ((dR n g cx e).bind fun x=>(dR n g cx i).map fun y=>.sub x y))=E x:=h
    rw[q] at h;exact fU h fun c h=>dC h fun a aC h=>eB h fun b az=>plain2 rfl ⟨aeh G.hO (not_of c) (aM e a aC).1 (aM _ b az).1,rfl⟩
  |Tuple es k p=>exact fU h fun c h=>eB h fun a aC=>plain2 rfl ⟨aei (sf aM aC).xb (d5 c),rfl⟩
  |List es p=>exact fU h fun c h=>eB h fun a aC=>plain2 rfl ⟨ad9 (sf aM aC).xb (d5 c),rfl⟩
  |Dict keys es p=>exact fU h fun c h=>b5 c fun dE dX=>dC h fun aD aB h=>eB h fun a aC=>plain2 rfl ⟨ad3 G.hO (Y2 aB) (sf aM aC) (fQ dX) (d5 dE),rfl⟩
  |ListComp gT gens scope pos=>exact I8 G aF dx h fun y ni iter fO cl jU gZ fD aL aI hi DC Dy=>plain2 rfl ⟨ad2 aI G.bD aL hi DC Dy,rfl⟩
  |_=>exact c5 h
end
set_option backward.match.sparseCases true
section
variable {g:nI}{d:Nat}
theorem Nq (dx:iS I cx.aD){es:List aY}:∀{is:List Nat},idxs cx.vars es=E is→yG cx.aD es=true→∃ys,hU I cx.vars es ys is:=by
 induction es with
 |nil=>intro is h _;obtain rfl:=cF h;exact⟨[],.nil⟩
 |cons e r aF=>intro is h a;unfold yG at a;rw[List.all_cons] at a;refine b5 a fun a1 a2=>dC h fun y cu h=>?_;rw[cu] at a1;exact rX cu<|dC h fun i hi h=>eB h fun K6 co=>(aF co a2).elim fun ys n=>⟨_,.cons (qp hi) (dx.wr a1) n⟩
noncomputable def mz (I:Env)(line:Nat)(ho:List aY):List Str:=ho.filterMap fun
 |.Name id pos=>if I.kindOf id==E .local&&pos.line==line then E id else none
 |_=>none
theorem Pa {line:Nat}:∀{es:List aY} {ys:List Str} {is:List Nat},hU I ay es ys is→(mz I line es).length≤es.length∧((mz I line es).length=es.length→mz I line es=ys)
 |_,_,_,.nil=>⟨kN _,fun _=>rfl⟩
 |_,_,_,.cons (y:=y) (p:=p) (es:=es) (ys:=ys) a b n=>by
  refine b8 (Pa (line:=line) n) fun R Z=>?_;cases c:(I.kindOf y==E .local&&p.line==line) with
  |true=>
   have e:mz I line (.Name y p::es)=y::mz I line es:=by refine(?_:List.filterMap _ _=_);rw[List.filterMap_cons_some (b:=y) (by show(if _ then _ else _)=_;rw[c];rfl)];rfl
   rw[e];exact⟨Nat.succ_le_succ R,fun q=>by rw[Z (lZ q)]⟩
  |false=>
   have e:mz I line (.Name y p::es)=mz I line es:=by refine(?_:List.filterMap _ _=_);rw[List.filterMap_cons_none (by show(if _ then _ else _)=_;rw[c];rfl)];rfl
   rw[e];exact⟨Bu R,fun q=>by rw[List.length_cons] at q;lia⟩
set_option tactic.hygienic true in
theorem afL {es:List aY}{ys:List Str}{k:Nat}(n:hU I ay es ys is)(aI:EJ e=true):
 swappedStores [.Tuple es k p] e I=pure none∨swappedStores [.Tuple es k p] e I=pure (E ys):=by
 induction e using jW with
 |Tuple vs eA od=>
  refine b8 (Pa (line:=(es.head?.map (·.pos.line)).getD 0) n) fun R Z=>?_;have aB:vs.all (constantsAlone 8)=false:=by simpa [EJ] using aI
  have eU:swappedStores [.Tuple es k p] (.Tuple vs eA od) I=(if(!(es.length==2||es.length==3)||vs.length !=es.length||I.blockKind != .function)=true then pure none else
   if(vs.any fun|.Starred .. =>true|_=>false)=true then pure none else
   if((mz I ((es.head?.map (·.pos.line)).getD 0) es).length !=es.length||(mz I ((es.head?.map (·.pos.line)).getD 0) es).eraseDups.length !=(mz I ((es.head?.map (·.pos.line)).getD 0) es).length)=true then pure none else
   if vs.all (foldedForSure 8)=true then pure none else
   if vs.all (constantsAlone 8)=true then(do unsupported "assign.tuple-of-constant-expressions:order-of-the-stores";pure (E (mz I ((es.head?.map (·.pos.line)).getD 0) es))) else pure (E (mz I ((es.head?.map (·.pos.line)).getD 0) es))):=rfl
  rw[eU,aB]
  split
  .exact .inl rfl
  .split
   .exact .inl rfl
   .split
    .exact .inl rfl
    .rename_i aL
     split
     .exact .inl rfl
     .rw[if_neg d8];right;rw[Z];rw[uT,bne_iff_ne,not_or,Classical.not_not] at aL;exact aL.1
 |_=>exact .inl rfl
theorem abn:∀I:Env,I.scope.kind=.function→interactive I=false:=fun I h=>by unfold interactive;rw[h];rfl
theorem sm {f:iQ→Option cO}(H:∀s x,f s=E x→hI O w B C A I cx.vars s x):∀{AV:List iQ} {xs:ff},sr f AV=E xs→l6 O w B C A I cx.vars AV xs
 | [],_,h=>by obtain rfl:=cF h;exact afo
 |s::r,_,h=>by exact dC h fun x aR h=>eB h fun xs wt=>afn (H s x aR) (sm H wt)
theorem adM (G:kP O w B C A g fH d)(dx:iS I cx.aD){y:Str}{x:cO}(h:Gb (dR n g cx) cx y p e=E x):hI O w B C A I cx.vars (.Assign [.Name y p] e q) x:=by
 have aM:=xo G n cx I dx;unfold Gb at h;cases l:Eh e with
 |none=>rw[l] at h;exact fU h fun c h=>b5 c fun dE dX=>dC h fun i hi h=>eB h fun z hz=>ae6 (qp hi) (dx.wr dX) (not_of dE) (aM e z hz).1
 |some a=>
  rw[l] at h;refine fU h fun c h=>dC h fun i hi h=>eB h fun z hz=>b5 c fun c gp=>b5 c fun dE dX=>?_;clear h c aM;revert hz;refine ZA l fun hz=>?_;clear l;obtain⟨gT,gens,AL,ep⟩:=a;dsimp only at dE dX gp hz
  induction n using ia with
  |zero=>exact c5 hz
  |succ n=>
  refine I8 (pos:=ep) G (fun cx I dx=>xo G n cx I dx) dx hz fun Gx ni iter fO cl jU gZ fD aL aI wd DC Dy=>ae8 aI G.bD aL wd DC Dy (qp hi) (dx.iH dE) ?_;have az:I.blockKind=.function:=by unfold Env.blockKind;rw[dx.kind];rfl
  have eU:∀gens,swapsWith (.ListComp gT gens AL ep) (E (.Name y p)) q.line I=pure (I.blockKind== .function&&I.kindOf y==E .local&&p.line==ep.line
   && !(AL.names.any fun(n,k)=>n==y&&(k== .local||k== .cell))):=fun _=>rfl
  rw[eU,az,dx.iH dE,dX,gp];rfl
theorem adN (G:kP O w B C A g fH d)(dx:iS I cx.aD){o i:aY}{x:cO}(h:Gc (dR n g cx) cx o i e=E x):hI O w B C A I cx.vars (.Assign [.Subscript o i p] e q) x:=by
 have aM:=xo G n cx I dx;unfold Gc at h;cases l:(sj i).bind JV with
 |none=>rw[l] at h;exact yD fun aA gI=>fU h fun c h=>b5 c fun dE dX=>dC h fun ja R h=>dC h fun jb Z h=>gI<|eB h fun lX bv=>ae9 G.ok G.hO (not_of dE) (not_of dX) (aM e ja R).1 (aM o jb Z).1 (aM _ lX bv).1
 |some s=>
  rw[l] at h;refine fU h fun c h=>dC h fun ja R h=>dC h fun jb Z h=>dC h fun lX bv h=>eB h fun ag6 cZ=>dC l fun a aC hf=>OW aC ?_;clear l;obtain⟨l,u,st,bF⟩:=a;clear aC
  induction l using ez with
  |none=>exact c5 hf
  |some l=>induction u using ez with
   |none=>exact c5 hf
   |some u=>induction st using ez with
    |some st=>exact c5 hf
    |none=>obtain rfl:=cF hf;exact afa (not_of c) (aM e ja R).1 (aM o jb Z).1 (aM l lX bv).1 (aM u ag6 cZ).1
theorem adL (G:kP O w B C A g fH d)(dx:iS I cx.aD){x:cO}(h:Ga (dR n g cx) g cx t e q=E x):hI O w B C A I cx.vars (.Assign [t] e q) x:=by
 have aM:=xo G n cx I dx;unfold Ga at h;cases c:lI t with
 |some y=>rw[c] at h;exact rX c (adM G dx h)
 |none=>
 rw[c] at h;dsimp only at h;clear c;cases c:gN t with
 |some a=>rw[c] at h;exact PM c<|yD fun aA gI=>fU h fun c h=>b5 c fun dE c=>b5 c fun dX gp=>dC h fun is hi h=>fU h fun iU h=>gI<|eB h fun z hz=>(Nq dx hi dX).elim fun ys nm=>afb G.ok G.bD nm (wX iU) (not_of dE) (afL nm gp) (aM e z hz).1
 |none=>
 rw[c] at h;dsimp only at h;clear c;cases c:vt t with
 |some a=>rw[c] at h;exact Cw c<|fU h fun c h=>dC h fun ja vV h=>eB h fun b az=>ae7 G.ok (G.attr _ c) (aM e ja vV).1 (aM _ b az).1
 |none=>
 rw[c] at h;exact dC h fun s aE h=>Ph aE (adN G dx h)
theorem agm (G:kP O w B C A g fH d)(dx:iS I cx.aD):∀(n:Nat) (s:iQ) (x:cO),uB n g cx s=E x→hI O w B C A I cx.vars s x:=by
 intro n
 induction n with
 |zero=>intro s x h;exact c5 h
 |succ n aF=>
  intro s x h;have aM:=xo G n cx I dx
  induction s using Stmt.casesOn with
  |Assign ho e q=>exact dC h fun t cW h=>ua cW (adL G dx h)
  |AugAssign t op e p=>exact dC h fun y cu h=>rX cu<|fU h fun c h=>dC h fun i hi h=>eB h fun z hz=>afc (qp hi) (dx.wr c) (aM e z hz).1
  |Expr e p=>exact fU h fun c h=>eB h fun z hz=>afg (not_of c) abn (aM e z hz).1
  |If t a b p=>exact dC h fun ja R h=>dC h fun jb Z h=>eB h fun lX bv=>afj (aM t ja R).2 (sm aF Z) (sm aF bv)
  |While t a o p=>exact t4 h fun h=>dC h fun ja R h=>eB h fun jb Z=>afm (aM t ja R).2 (sm aF Z)
  |For t bX a o p=>
   refine t4 h fun h=>fU h fun c h=>dC h fun ja R h=>dC h fun jb Z h=>?_;have OT:=OU G dx aM R;cases e:lI t with
   |some y=>rw[e] at h;exact rX e<|fU h fun gR h=>eB h fun i hi=>afh G.bD c (qp hi) (dx.wr gR) OT (sm aF Z)
   |none=>rw[e] at h;exact dC h fun es he h=>PM he<|fU h fun gR h=>eB h fun is hi=>(Nq dx hi gR).elim fun ys nm=>afi G.ok G.bD c nm OT (sm aF Z)
  |Break p=>obtain rfl:=cF h;exact afd
  |Return e p=>
   refine eB h fun z hz=>?_;clear h
   induction e using ez with
   |none=>obtain rfl:=cF hz;exact afl
   |some e=>exact afk (aM e z hz).1
  |Delete ho p=>exact dC h fun t cW h=>ua cW<|dC h fun s aE h=>Ph aE<|dC h fun ja R h=>eB h fun jb Z=>afe G.hO (aM _ ja R).1 (aM _ jb Z).1
  |Raise a b p=>obtain rfl:=cF h;exact aff
  |_=>exact c5 h
end
set_option backward.match.sparseCases false
section
variable {g:nI}{d:Nat}
set_option tactic.hygienic true in
theorem Wj (XA:∀A:fw,A.handled=none→A.units+20+10*d<cLine→A.depth+60+2*d<recursionLimit→kP O w B C A g fH d){o:Obj}{fd:pI}{na:Nat}{defs:List V}
 (ax:B.h₀.get? a=E o)(hd:o.data=.func fd)(aI:B.h₀.CodeRec fd.code fd.qualname)(b6:fd.globals=mainGlobals)(az:fd.builtins=builtinsNs)(cW:Ba g fd na defs=E bg)
 (vZ:∀(s:aS) (ys:List aj),(∀b o,B.h₀.get? b=E o→s.heap.get? b=E o)→ys.length=na→∃fm,(∀ρ h,bK ρ h defs fm)∧BindsTo s fd ⟨ys,[]⟩ ((oj fd).zip (ys++fm))):FnAt O w B C d a bg:=by
 unfold Ba at cW
 split at cW
 .rename_i body Du
  refine fU cW fun c cW=>eB cW fun b aE=>?_;simp only[fJ,km,List.isEmpty_iff,beq_iff_eq,List.all_eq_true,Nat.beq_eq] at c;refine b8 c fun dh CG=>?_;clear c;refine b8 dh fun iB CF=>?_;clear dh;refine b8 iB fun dh CE=>?_;clear iB;refine b8 dh fun iB rj=>?_;clear dh;obtain⟨⟨⟨⟨dE,dX⟩,gp⟩,iU⟩,lm⟩:=iB;refine⟨o,fd,body,sA fd,oj fd,ax,hd,aI,dX,gp,iU,lm,Du,b6,az,⟨⟨_,rfl⟩,EG rj,fun x aR=>tl (CE x aR),fun x aR=>?_⟩,CG,vZ,fun A b3 bD bx Xl=>?_⟩
  .have:=CF x aR;unfold qY at this;exact(xJ.mp this).imp rN rN
  .have dx:iS (callEnvC fd b3 a) fd.scope.names:=⟨iU,rfl,fun x aR=>cellsFrom_some _ _ _ (.inr (PySem.mem_of_lookup aR))⟩;exact sm (cx:=⟨fd.scope.names,sA fd⟩) (agm (cx:=⟨fd.scope.names,sA fd⟩) (XA A bD bx Xl) dx 60) aE
 .exact c5 cW
end
section
open PySem PySem.W
section
open Mine.aG renaming loc→F,int→M,str→bH,call→bo,cmp→aU,sub→a5,bin→bb,attr→bI,tup→cI,none→du,bi→d4,ite→eI,or→fu,lst→gA,and→gB
open Mine.cO renaming asg→bG,ret→bP,iff→cf,yH→db
open Mine.gQ renaming cons→D,nil→J
open Mine.ff renaming cons→D,nil→J
noncomputable abbrev LO:Nat:=7965713916960092358
noncomputable def HN:cQ:=⟨1,[],2,D (bG 1 (M 0)) (D (.hN 2 (F 0) (D (bG 1 (bb .BitOr (bb .LShift (F 1) (M 8)) (F 2))) J)) (D (bP (F 1)) J))⟩
noncomputable abbrev LP:Nat:=7965713956843541455
noncomputable def BY:cQ:=⟨2,[],0,D (cf (fu (aU .Lt (F 0) (M 0)) (aU .NotEq (bb .RShift (F 0) (bb .Mult (M 8) (F 1))) (M 0))) (D .err J) J) (D (bP (d4 .bytes (D (.comp [0,1] (bb .BitAnd (bb .RShift (F 0) (bb .Mult (M 8) (bb .Sub (bb .Sub (F 1) (M 1)) (F 2)))) (M 255)) (.range (M 0) (F 1) (M 1)) (.bool true)) J))) J)⟩
noncomputable abbrev Lm:Nat:=3636492994420
noncomputable def BV:cQ:=⟨1,[],0,D (.xx (aU .NotEq (bb .RShift (F 0) (M 16)) (M 0)) (D (bG 0 (bb .Add (bb .BitAnd (F 0) (M 65535)) (bb .RShift (F 0) (M 16)))) J)) (D (bP (F 0)) J)⟩
noncomputable abbrev LL:Nat:=218676008
noncomputable def BX:cQ:=⟨3,[],2,D (cf (fu (aU .NotEq (d4 .len (D (F 1) J)) (d4 .len (D (F 2) J))) (aU .Eq (bb .Mod (d4 .len (D (F 1) J)) (M 2)) (M 1))) (D .err J) J) (D (bG 3 (bb .Sub (M 65535) (F 0))) (D (.hN 4 (.range (M 0) (d4 .len (D (F 1) J)) (M 2)) (D (bG 3 (bb .Sub (bb .Add (F 3) (M 65535)) (bb .BitOr (bb .LShift (a5 (F 1) (F 4)) (M 8)) (a5 (F 1) (bb .Add (F 4) (M 1)))))) (D (bG 3 (bb .Add (F 3) (bb .BitOr (bb .LShift (a5 (F 2) (F 4)) (M 8)) (a5 (F 2) (bb .Add (F 4) (M 1)))))) J))) (D (bP (bb .Sub (M 65535) (bo 3636492994420 (D (F 3) J)))) J)))⟩
noncomputable abbrev LH:Nat:=14910633454
noncomputable def HJ:cQ:=⟨1,[],2,D (cf (fu (aU .Lt (d4 .len (D (F 0) J)) (M 20)) (aU .NotEq (bb .RShift (a5 (F 0) (M 0)) (M 4)) (M 4))) (D (bP du) J) J) (D (bG 1 (bb .Mult (bb .BitAnd (a5 (F 0) (M 0)) (M 15)) (M 4))) (D (cf (fu (aU .Lt (F 1) (M 20)) (aU .Gt (F 1) (d4 .len (D (F 0) J)))) (D (bP du) J) J) (D (bG 2 (bo 7965713916960092358 (D (.slice (F 0) (M 6) (M 8) du) J))) (D (bP (cI (D (a5 (F 0) (M 9)) (D (F 1) (D (bb .Mult (bb .BitAnd (F 2) (M 8191)) (M 8)) (D (aU .NotEq (bb .BitAnd (F 2) (M 8192)) (M 0)) J)))))) J))))⟩
noncomputable abbrev Lo:Nat:=7895612892068386485
noncomputable def Hw:cQ:=⟨2,[],0,D (cf (aU .In (F 0) (cI (D (M 0) (D (M 43) (D (M 60) J))))) (D (bP (bb .Mult (bb .Add (F 1) (M 1)) (M 8))) J) J) (D (cf (aU .Eq (F 0) (M 51)) (D (bP (bb .Mult (bb .Add (F 1) (M 2)) (M 4))) J) J) (D (cf (aU .Eq (F 0) (M 44)) (D (bP (M 8)) J) J) (D (bP (M 0)) J)))⟩
noncomputable abbrev L4:Nat:=542695683219446
noncomputable def HV:cQ:=⟨4,[],1,D (cf (aU .Eq (bo 7895612892068386485 (D (F 2) (D (M 0) J))) (M 0)) (D (bP (M 0)) J) J) (D (cf (aU .Gt (bb .Add (F 1) (M 2)) (F 3)) (D (bP (.neg (M 1))) J) J) (D (bG 4 (bo 7895612892068386485 (D (F 2) (D (a5 (F 0) (bb .Add (F 1) (M 1))) J)))) (D (cf (aU .Gt (bb .Add (F 1) (F 4)) (F 3)) (D (bP (.neg (M 1))) J) J) (D (bP (F 4)) J))))⟩
noncomputable abbrev LU:Nat:=70007743085800769
noncomputable def HP:cQ:=⟨2,[],0,D (bP (bb .BitAnd (bo 7965713916960092358 (D (.slice (F 0) (bb .Add (F 1) (M 2)) (bb .Add (F 1) (M 4)) du) J)) (M 65528))) J⟩
noncomputable abbrev LI:Nat:=15464479216
noncomputable def HK:cQ:=⟨1,[],5,D (cf (fu (aU .Lt (d4 .len (D (F 0) J)) (M 40)) (aU .NotEq (bb .RShift (a5 (F 0) (M 0)) (M 4)) (M 6))) (D (bP du) J) J) (D (bG 1 (a5 (F 0) (M 6))) (D (bG 2 (M 40)) (D (bG 3 (M 0)) (D (bG 4 (.bool false)) (D (.xx (aU .Eq (F 3) (M 0)) (D (bG 5 (bo 542695683219446 (D (F 0) (D (F 2) (D (F 1) (D (d4 .len (D (F 0) J)) J)))))) (D (cf (fu (aU .Lt (F 5) (M 0)) (gB (aU .Eq (F 1) (M 0)) (aU .Gt (F 2) (M 40)))) (D (bP du) J) J) (D (cf (aU .Eq (F 5) (M 0)) (D .brk J) J) (D (cf (aU .Eq (F 1) (M 44)) (D (bG 3 (bo 70007743085800769 (D (F 0) (D (F 2) J)))) (D (bG 4 (aU .Eq (bb .BitAnd (a5 (F 0) (bb .Add (F 2) (M 3))) (M 1)) (M 1))) J)) J) (D (bG 1 (a5 (F 0) (F 2))) (D (.aug 2 .Add (F 5)) J))))))) (D (bP (cI (D (F 1) (D (F 2) (D (F 3) (D (F 4) J)))))) J))))))⟩
noncomputable abbrev LN:Nat:=58800638083534680
noncomputable def HM:cQ:=⟨0,[],2,D (bG 0 (.dict [] J)) (D (.hN 1 (cI (D (bH 233768879) (D (bH 73067997654255626) (D (bH 1727803) (D (bH 1727809) (D (bH 474000827731552) (D (bH 474000827731558) (D (bH 474114656149016) J)))))))) (D (.hK (F 0) (F 1) (M 0)) J)) (D (.hK (F 0) (bH 474114655915777) (M 1)) (D (.hK (F 0) (bH 474114655915783) (M 1)) (D (bP (F 0)) J))))⟩
noncomputable abbrev K8:Nat:=4208076696030
noncomputable def Hl:cQ:=⟨4,[],0,D (db (F 0) 212335262 (d4 .bytearray (D (F 1) J))) (D (db (F 0) 233703346 (d4 .bytearray (D (F 3) J))) (D (db (F 0) 218676522 (F 2)) (D (db (F 0) 6946 (.neg (M 1))) (D (db (F 0) 1727422 (.neg (M 1))) (D (db (F 0) 28462447754 (M 0)) (D (db (F 0) 212335787 (bo 58800638083534680 J)) J))))))⟩
noncomputable abbrev LG:Nat:=233720761
noncomputable def HI:cQ:=⟨1,[],1,D (db (F 0) 6946 (.neg (M 1))) (D (db (F 0) 1727422 (.neg (M 1))) (D (db (F 0) 28462447754 (M 0)) (D (bG 1 du) (D (cf (aU .Eq (bI (F 0) 218676522) (M 2048)) (D (bG 1 (bo 14910633454 (D (bI (F 0) 212335262) J))) J) (D (cf (aU .Eq (bI (F 0) 218676522) (M 34525)) (D (bG 1 (bo 15464479216 (D (bI (F 0) 212335262) J))) J) J) J)) (D (cf (aU .Is (F 1) du) (D (bP du) J) J) (D (db (F 0) 6946 (a5 (F 1) (M 0))) (D (db (F 0) 28462447754 (a5 (F 1) (M 2))) (D (cf (gB (aU .Eq (a5 (F 1) (M 2)) (M 0)) (aU .LtE (a5 (F 1) (M 1)) (d4 .len (D (bI (F 0) 212335262) J)))) (D (db (F 0) 1727422 (a5 (F 1) (M 1))) J) J) J))))))))⟩
noncomputable abbrev LQ:Nat:=7965713988425346869
noncomputable def oN:cQ:=⟨2,[(.bytes [])],1,D (bG 3 (bo 4208076696030 (D (F 0) (D (F 1) (D (F 2) J))))) (D (.ex (bo 233720761 (D (F 3) J))) (D (bP (F 3)) J))⟩
noncomputable abbrev Lj:Nat:=7965714168974938303
noncomputable def Hu:cQ:=⟨1,[],0,D (cf (aU .Eq (bI (F 0) 218676522) (M 2048)) (D (bP (M 2)) J) J) (D (cf (aU .Eq (bI (F 0) 218676522) (M 34525)) (D (bP (M 10)) J) J) (D (cf (aU .Eq (bI (F 0) 218676522) (M 2054)) (D (bP (M 3)) J) J) (D (bP (M 0)) J)))⟩
noncomputable abbrev Ld:Nat:=478679974546902
noncomputable def Hq:cQ:=⟨2,[],0,D (cf (aU .Eq (F 1) (bH 501832981439121)) (D (bP (cI (D (bI (F 0) 212335262) (D (M 0) J)))) J) J) (D (cf (aU .Eq (F 1) (bH 9041178932001308406)) (D (cf (aU .Lt (bI (F 0) 1727422) (M 0)) (D (bP du) J) J) (D (bP (cI (D (bI (F 0) 212335262) (D (bI (F 0) 1727422) J)))) J)) J) (D (cf (aU .NotEq (F 1) (bH 233703346)) (D .err J) J) (D (cf (aU .Eq (d4 .len (D (bI (F 0) 233703346) J)) (M 0)) (D (bP du) J) J) (D (bP (cI (D (bI (F 0) 233703346) (D (M 0) J)))) J))))⟩
noncomputable abbrev LS:Nat:=253089083
noncomputable def HO:cQ:=⟨4,[],2,D (bG 4 (bo 478679974546902 (D (F 0) (D (F 1) J)))) (D (cf (fu (aU .Is (F 4) du) (aU .Lt (F 2) (M 0))) (D (bP du) J) J) (D (bG 5 (bb .Add (a5 (F 4) (M 1)) (F 2))) (D (cf (aU .Gt (bb .Add (F 5) (F 3)) (d4 .len (D (a5 (F 4) (M 0)) J))) (D (bP du) J) J) (D (bP (d4 .bytes (D (.slice (a5 (F 4) (M 0)) (F 5) (bb .Add (F 5) (F 3)) du) J))) J))))⟩
noncomputable abbrev LY:Nat:=70086158222052599
noncomputable def HS:cQ:=⟨4,[],2,D (bG 4 (bo 478679974546902 (D (F 0) (D (F 1) J)))) (D (cf (fu (aU .Is (F 4) du) (fu (aU .Lt (F 2) (M 0)) (aU .Gt (bb .Add (bb .Add (a5 (F 4) (M 1)) (F 2)) (d4 .len (D (F 3) J))) (d4 .len (D (a5 (F 4) (M 0)) J))))) (D .err J) J) (D (bG 5 (bb .Add (a5 (F 4) (M 1)) (F 2))) (D (.pZ (a5 (F 4) (M 0)) (F 5) (bb .Add (F 5) (d4 .len (D (F 3) J))) (F 3)) J)))⟩
noncomputable abbrev L5:Nat:=7881903032557587266
noncomputable def HW:cQ:=⟨1,[],0,D (cf (aU .Eq (F 0) (M 6)) (D (bP (M 16)) J) J) (D (cf (aU .Eq (F 0) (M 17)) (D (bP (M 6)) J) J) (D (cf (aU .In (F 0) (cI (D (M 1) (D (M 58) J)))) (D (bP (M 2)) J) J) (D (bP (.neg (M 1))) J)))⟩
noncomputable abbrev Lf:Nat:=3996512076559
noncomputable def Hs:cQ:=⟨4,[],2,D (bG 4 (d4 .max (D (F 0) (D (F 2) J)))) (D (bG 5 (d4 .min (D (F 1) (D (F 3) J)))) (D (cf (aU .GtE (F 4) (F 5)) (D (bP (cI (D (M 0) (D (M 0) J)))) J) J) (D (bP (cI (D (bb .Mult (bb .FloorDiv (F 4) (M 2)) (M 2)) (D (bb .Mult (bb .FloorDiv (bb .Add (F 5) (M 1)) (M 2)) (M 2)) J)))) J)))⟩
noncomputable abbrev L6:Nat:=70026674676185333
noncomputable def HX:cQ:=⟨3,[],3,D (bG 3 (gA J)) (D (cf (gB (aU .Eq (bI (F 0) 218676522) (M 2048)) (aU .GtE (bI (F 0) 6946) (M 0))) (D (.ex (.lH (F 3) 3638987513726 (D (cI (D (M 10) (D (gA (D (bo 3996512076559 (D (F 1) (D (F 2) (D (M 0) (D (bb .Mult (bb .BitAnd (a5 (bI (F 0) 212335262) (M 0)) (M 15)) (M 4)) J))))) J)) J))) J))) J) J) (D (bG 4 (bo 7881903032557587266 (D (bI (F 0) 6946) J))) (D (cf (gB (aU .GtE (bI (F 0) 1727422) (M 0)) (aU .GtE (F 4) (M 0))) (D (bG 5 (gA (D (bo 3996512076559 (D (F 1) (D (F 2) (D (bI (F 0) 1727422) (D (d4 .len (D (bI (F 0) 212335262) J)) J))))) J))) (D (cf (gB (aU .NotEq (bI (F 0) 6946) (M 1)) (aU .Eq (bI (F 0) 218676522) (M 2048))) (D (.ex (.lH (F 5) 3638987513726 (D (bo 3996512076559 (D (F 1) (D (F 2) (D (M 12) (D (M 20) J))))) J))) J) (D (cf (aU .NotEq (bI (F 0) 6946) (M 1)) (D (.ex (.lH (F 5) 3638987513726 (D (bo 3996512076559 (D (F 1) (D (F 2) (D (M 8) (D (M 40) J))))) J))) J) J) J)) (D (.ex (.lH (F 3) 3638987513726 (D (cI (D (bb .Add (bI (F 0) 1727422) (F 4)) (D (F 5) J))) J))) J))) J) (D (bP (.comp [1,2,0] (F 3) (F 3) (gB (aU .LtE (bb .Add (a5 (F 3) (M 0)) (M 2)) (d4 .len (D (bI (F 2) 212335262) J))) (fu (aU .LtE (F 1) (a5 (F 3) (M 0))) (aU .LtE (bb .Add (a5 (F 3) (M 0)) (M 2)) (F 0)))))) J))))⟩
noncomputable abbrev LR:Nat:=61749720591457115
noncomputable def ym:cQ:=⟨3,[],1,D (bG 3 (d4 .bytes (D (.slice (F 0) (F 1) (F 2) du) J))) (D (cf (aU .Lt (d4 .len (D (F 3) J)) (bb .Sub (F 2) (F 1))) (D (.aug 3 .Add (.bytes [0])) J) J) (D (bP (F 3)) J))⟩
noncomputable abbrev LM:Nat:=542695680872543
noncomputable def sS:cQ:=⟨5,[],3,D (bG 5 (bo 7965713916960092358 (D (.slice (F 1) (F 2) (bb .Add (F 2) (M 2)) du) J))) (D (cf (gB (F 4) (aU .Eq (F 5) (M 0))) (D (bP du) J) J) (D (.tv [6,7] (F 3) (D (cf (aU .Lt (F 6) (F 7)) (D (bG 5 (bo 218676008 (D (F 5) (D (bo 61749720591457115 (D (F 1) (D (F 6) (D (F 7) J)))) (D (bo 61749720591457115 (D (bI (F 0) 212335262) (D (F 6) (D (F 7) J)))) J))))) J) J) J)) (D (cf (gB (F 4) (aU .Eq (F 5) (M 0))) (D (bG 5 (M 65535)) J) J) (D (.pZ (bI (F 0) 212335262) (F 2) (bb .Add (F 2) (M 2)) (bo 7965713956843541455 (D (F 5) (D (M 2) J)))) J))))⟩
noncomputable abbrev L2:Nat:=1156566997600232159303
noncomputable def BZ:cQ:=⟨4,[],5,D (cf (aU .Eq (F 1) (bH 233703346)) (D (.ex (bo 70086158222052599 (D (F 0) (D (F 1) (D (F 2) (D (F 3) J)))))) (D (bP du) J)) J) (D (bG 4 (d4 .bytes (D (bI (F 0) 212335262) J))) (D (bG 5 (F 2)) (D (cf (aU .Eq (F 1) (bH 9041178932001308406)) (D (bG 5 (bb .Add (bI (F 0) 1727422) (F 2))) J) J) (D (bG 6 (bo 70026674676185333 (D (F 0) (D (F 5) (D (bb .Add (F 5) (d4 .len (D (F 3) J))) J))))) (D (.ex (bo 70086158222052599 (D (F 0) (D (F 1) (D (F 2) (D (F 3) J)))))) (D (.tv [7,8] (F 6) (D (.ex (bo 542695680872543 (D (F 0) (D (F 4) (D (F 7) (D (F 8) (D (gB (aU .Eq (bI (F 0) 6946) (M 17)) (aU .NotEq (F 7) (M 10))) J))))))) J)) J))))))⟩
noncomputable abbrev Li:Nat:=149039545878035638611117
noncomputable def Ht:cQ:=⟨1,[],0,D (bP (eI (aU .Eq (F 0) (M 2)) (cI (D (M 3) (D (M 4) (D (M 5) (D (M 11) (D (M 12) J)))))) (cI (D (M 1) (D (M 2) (D (M 3) (D (M 4) J))))))) J⟩
noncomputable abbrev La:Nat:=233669008
noncomputable def Hn:cQ:=⟨5,[],0,D (db (F 0) 4136611441551 (F 1)) (D (db (F 0) 65252541628059613 (F 2)) (D (db (F 0) 34020474289 (F 3)) (D (db (F 0) 220824000 (F 4)) (D (db (F 0) 30414104497 (M 0)) (D (db (F 0) 28462663703 (M 0)) (D (db (F 0) 233768879 (M 0)) (D (db (F 0) 4176803699882 (M 0)) (D (db (F 0) 28498942502 (M 0)) (D (db (F 0) 32343711005 du) (D (db (F 0) 4136650179218 (M 0)) J))))))))))⟩
noncomputable abbrev Lb:Nat:=64722615088540447
noncomputable def Ho:cQ:=⟨2,[(.int (0)),(.int (128))],0,D (db (F 0) 253107527 (F 1)) (D (db (F 0) 218526245 (F 2)) (D (db (F 0) 32343795372 (F 3)) (D (db (F 0) 28481783181 (.dict [] J)) (D (db (F 0) 32356723236 (.dict [] J)) (D (db (F 0) 253105720 (M 0)) (D (db (F 0) 69491832435423975 (.dict [] J)) (D (db (F 0) 538767255065091 (gA J)) (D (db (F 0) 32382534832 (.dict [] J)) (D (db (F 0) 61174256831707621 (.bool true)) J)))))))))⟩
noncomputable abbrev Lu:Nat:=524692381018603
noncomputable def Hz:cQ:=⟨2,[],0,D (bP (fu (gB (aU .Eq (F 0) (M 2)) (aU .Eq (F 1) (M 1))) (gB (aU .Eq (F 0) (M 10)) (aU .Eq (F 1) (M 58))))) J⟩
noncomputable abbrev Lr:Nat:=68884006654336621
noncomputable def Hy:cQ:=⟨2,[],0,D (bP (aU .In (F 1) (bo 149039545878035638611117 (D (F 0) J)))) J⟩
noncomputable abbrev Lc:Nat:=129996042597986712632864
noncomputable def Hp:cQ:=⟨2,[],3,D (bG 2 (eI (aU .Eq (F 0) (M 2)) (cI (D (cI (D (M 8) (D (M 0) J))) (D (cI (D (M 13) (D (M 14) J))) (D (cI (D (M 15) (D (M 16) J))) (D (cI (D (M 17) (D (M 18) J))) J))))) (cI (D (cI (D (M 128) (D (M 129) J))) J)))) (D (.tv [3,4] (F 2) (D (cf (aU .Eq (F 1) (F 3)) (D (bP (F 4)) J) J) (D (cf (aU .Eq (F 1) (F 4)) (D (bP (F 3)) J) J) J))) (D (bP (.neg (M 1))) J))⟩
noncomputable abbrev LW:Nat:=70007746999498100
noncomputable def HR:cQ:=⟨4,[],2,D (cf (fu (aU .Eq (F 2) (M 6)) (aU .Eq (F 2) (M 17))) (D (cf (aU .Gt (bb .Add (F 3) (M 4)) (d4 .len (D (F 0) J))) (D (bP du) J) J) (D (bP (cI (D (bo 7965713916960092358 (D (.slice (F 0) (F 3) (bb .Add (F 3) (M 2)) du) J)) (D (bo 7965713916960092358 (D (.slice (F 0) (bb .Add (F 3) (M 2)) (bb .Add (F 3) (M 4)) du) J)) J)))) J)) J) (D (cf (.not (bo 524692381018603 (D (F 1) (D (F 2) J)))) (D (bP (cI (D (M 0) (D (M 0) J)))) J) J) (D (cf (aU .Gt (bb .Add (F 3) (M 8)) (d4 .len (D (F 0) J))) (D (bP du) J) J) (D (bG 4 (a5 (F 0) (F 3))) (D (bG 5 (M 0)) (D (cf (aU .GtE (bo 129996042597986712632864 (D (F 1) (D (F 4) J))) (M 0)) (D (bG 5 (bo 7965713916960092358 (D (.slice (F 0) (bb .Add (F 3) (M 4)) (bb .Add (F 3) (M 6)) du) J))) J) J) (D (bP (cI (D (F 5) (D (bb .Add (bb .Mult (F 4) (M 256)) (a5 (F 0) (bb .Add (F 3) (M 1)))) J)))) J))))))⟩
noncomputable abbrev Ma:Nat:=70007743105371750
noncomputable def H2:cQ:=⟨4,[],5,D (bG 4 (bo 70007746999498100 (D (F 0) (D (F 1) (D (F 2) (D (F 3) J)))))) (D (cf (aU .Is (F 4) du) (D (bP du) J) J) (D (bG 5 (M 12)) (D (bG 6 (M 4)) (D (cf (aU .Eq (F 1) (M 10)) (D (bG 5 (M 8)) (D (bG 6 (M 16)) J)) J) (D (bG 7 (bo 7965713916960092358 (D (.slice (F 0) (F 5) (bb .Add (F 5) (F 6)) du) J))) (D (bG 8 (bo 7965713916960092358 (D (.slice (F 0) (bb .Add (F 5) (F 6)) (bb .Add (bb .Add (F 5) (F 6)) (F 6)) du) J))) (D (bP (cI (D (F 1) (D (F 2) (D (F 7) (D (a5 (F 4) (M 0)) (D (F 8) (D (a5 (F 4) (M 1)) J)))))))) J)))))))⟩
noncomputable abbrev Mb:Nat:=61749716701775718
noncomputable def B0:cQ:=⟨1,[],1,D (bG 1 (bo 7965714168974938303 (D (F 0) J))) (D (cf (fu (aU .NotIn (F 1) (cI (D (M 2) (D (M 10) J)))) (aU .Lt (bI (F 0) 1727422) (M 0))) (D (bP du) J) J) (D (bP (bo 70007743105371750 (D (bI (F 0) 212335262) (D (F 1) (D (bI (F 0) 6946) (D (bI (F 0) 1727422) J)))))) J))⟩
noncomputable abbrev Lq:Nat:=4211664131230
noncomputable def yf:cQ:=⟨1,[],7,D (.hY [1,2,3,4,5,6] (F 0)) (D (cf (.not (bo 524692381018603 (D (F 1) (D (F 2) J)))) (D (bP (cI (D (F 1) (D (F 2) (D (F 5) (D (F 6) (D (F 3) (D (F 4) J)))))))) J) J) (D (bG 7 (bo 129996042597986712632864 (D (F 1) (D (bb .RShift (F 6) (M 8)) J)))) (D (cf (aU .Lt (F 7) (M 0)) (D (bP du) J) J) (D (bP (cI (D (F 1) (D (F 2) (D (F 5) (D (F 4) (D (F 3) (D (bb .Add (bb .Mult (F 7) (M 256)) (bb .BitAnd (F 6) (M 255))) J)))))))) J))))⟩
noncomputable abbrev L3:Nat:=478679974298336
noncomputable def HU:cQ:=⟨2,[],0,D (bP (eI (F 1) (bI (F 0) 34020474289) (bI (F 0) 65252541628059613))) J⟩
noncomputable abbrev zK:Nat:=8347371211521298121
noncomputable def nG:cQ:=⟨2,[],2,D (.hN 2 (cI (D (M 0) (D (M 1) J))) (D (bG 3 (cI (D (bI (F 1) 220824000) (D (bo 478679974298336 (D (F 1) (D (F 2) J))) J)))) (D (cf (aU .Eq (.lH (bI (F 0) 28481783181) 1960259 (D (F 3) J)) (cI (D (bI (F 1) 4136611441551) (D (F 2) J)))) (D (.del (bI (F 0) 28481783181) (F 3)) J) J) J))) (D (cf (aU .In (bI (F 1) 4136611441551) (bI (F 0) 32356723236)) (D (.del (bI (F 0) 32356723236) (bI (F 1) 4136611441551)) J) J) (D (.hN 3 (d4 .list (D (bI (F 0) 32382534832) J)) (D (cf (aU .Eq (a5 (a5 (bI (F 0) 32382534832) (F 3)) (M 0)) (bI (F 1) 4136611441551)) (D (.del (bI (F 0) 32382534832) (F 3)) J) J) J)) (D (db (F 0) 538767255065091 (.comp [1] (F 1) (bI (F 0) 538767255065091) (aU .NotEq (bI (F 1) 4136650179218) (bI (F 0) 4136611441551)))) (D (db (F 1) 4176803699882 (bb .BitOr (bI (F 1) 4176803699882) (.glob 20109278976))) J))))⟩
noncomputable abbrev Ls:Nat:=41628526560338972149582840823755
noncomputable def BW:cQ:=⟨1,[],1,D (bG 1 (bo 7965714168974938303 (D (F 0) J))) (D (cf (fu (.not (bo 524692381018603 (D (F 1) (D (bI (F 0) 6946) J)))) (fu (aU .Lt (bI (F 0) 1727422) (M 0)) (aU .GtE (bI (F 0) 1727422) (d4 .len (D (bI (F 0) 212335262) J))))) (D (bP (.bool false)) J) J) (D (bP (bo 68884006654336621 (D (F 1) (D (a5 (bI (F 0) 212335262) (bI (F 0) 1727422)) J)))) J))⟩
noncomputable abbrev LZ:Nat:=7890838333405204697
noncomputable def vh:cQ:=⟨4,[],1,D (bG 4 (bo 253089083 (D (F 0) (D (F 1) (D (F 2) (D (d4 .len (D (F 3) J)) J)))))) (D (cf (gB (aU .IsNot (F 4) du) (aU .NotEq (F 4) (F 3))) (D (.ex (bo 1156566997600232159303 (D (F 0) (D (F 1) (D (F 2) (D (F 3) J)))))) J) J) J)⟩
noncomputable abbrev LV:Nat:=1016765491199943733811
noncomputable def HQ:cQ:=⟨2,[],2,D (cf (fu (aU .Eq (bI (F 0) 6946) (M 6)) (aU .Eq (bI (F 0) 6946) (M 17))) (D (bP (eI (aU .Eq (F 1) (bH 1679051)) (M 0) (M 2))) J) J) (D (bG 2 (bo 7965714168974938303 (D (F 0) J))) (D (bG 3 (bo 253089083 (D (F 0) (D (bH 9041178932001308406) (D (M 0) (D (M 1) J)))))) (D (cf (gB (aU .IsNot (F 3) du) (gB (bo 524692381018603 (D (F 2) (D (bI (F 0) 6946) J))) (aU .GtE (bo 129996042597986712632864 (D (F 2) (D (a5 (F 3) (M 0)) J))) (M 0)))) (D (bP (M 4)) J) J) (D (bP (.neg (M 1))) J))))⟩
noncomputable abbrev L0:Nat:=474253113345289
noncomputable def mP:cQ:=⟨3,[],11,D (.hY [3,4,5,6,7,8] (F 1)) (D (cf (aU .NotEq (bo 7965714168974938303 (D (F 0) J)) (F 3)) (D (bP du) J) J) (D (.hY [9,10] (eI (aU .Eq (F 3) (M 2)) (cI (D (M 12) (D (M 4) J))) (cI (D (M 8) (D (M 16) J))))) (D (bG 11 (eI (aU .Eq (bI (F 0) 6946) (F 4)) (bo 1016765491199943733811 (D (F 0) (D (F 2) J))) (.neg (M 1)))) (D (cf (aU .Eq (F 2) (bH 1679051)) (D (.hY [12,13] (cI (D (F 5) (D (F 6) J)))) J) (D (.hY [9,12,13] (cI (D (bb .Add (F 9) (F 10)) (D (F 7) (D (F 8) J))))) J)) (D (cf (aU .Eq (F 11) (M 4)) (D (bG 13 (F 6)) J) J) (D (.ex (bo 7890838333405204697 (D (F 0) (D (bH 501832981439121) (D (F 9) (D (bo 7965713956843541455 (D (F 12) (D (F 10) J))) J)))))) (D (cf (aU .GtE (F 11) (M 0)) (D (.ex (bo 7890838333405204697 (D (F 0) (D (bH 9041178932001308406) (D (F 11) (D (bo 7965713956843541455 (D (F 13) (D (M 2) J))) J)))))) J) J) J)))))))⟩
noncomputable abbrev Le:Nat:=533981184097260
noncomputable def Hr:cQ:=⟨2,[],1,D (bG 2 (aU .Eq (F 0) (bH 1679051))) (D (cf (aU .Eq (F 1) (M 1)) (D (bG 2 (.not (F 2))) J) J) (D (bP (eI (F 2) (M 16) (M 32))) J))⟩
noncomputable abbrev Lp:Nat:=39508372252426582423857324569326
noncomputable def Hx:cQ:=⟨3,[],1,D (bG 3 (bo 7965713988425346869 (D (F 0) (D (eI (aU .Eq (a5 (F 1) (M 0)) (M 2)) (M 2048) (M 34525)) J)))) (D (.ex (bo 474253113345289 (D (F 3) (D (F 1) (D (F 2) J))))) (D (bP (d4 .bytes (D (bI (F 3) 212335262) J))) J))⟩
noncomputable abbrev L1:Nat:=2459095567713148758238724362
noncomputable def HT:cQ:=⟨3,[],1,D (bG 3 (bo 253089083 (D (F 0) (D (bH 9041178932001308406) (D (M 8) (D (d4 .max (D (M 0) (D (bb .Sub (bb .Sub (d4 .len (D (bI (F 0) 212335262) J)) (bI (F 0) 1727422)) (M 8)) J))) J)))))) (D (cf (aU .IsNot (F 3) du) (D (.ex (bo 7890838333405204697 (D (F 0) (D (bH 9041178932001308406) (D (M 8) (D (bo 39508372252426582423857324569326 (D (F 3) (D (F 1) (D (F 2) J)))) J)))))) J) J) J)⟩
noncomputable abbrev L7:Nat:=7892008977562703319
noncomputable def HY:cQ:=⟨2,[],3,D (bG 2 (bI (F 0) 233669040)) (D (cf (fu (aU .Is (F 2) du) (aU .Eq (bb .BitAnd (bI (F 2) 4176803699882) (bo 533981184097260 (D (F 1) (D (bI (F 0) 73031377932591727) J)))) (M 0))) (D (bP du) J) J) (D (bG 3 (bo 478679974298336 (D (F 2) (D (bb .Sub (M 1) (bI (F 0) 73031377932591727)) J)))) (D (cf (bo 41628526560338972149582840823755 (D (bI (F 0) 4208076696062) J)) (D (.ex (bo 2459095567713148758238724362 (D (bI (F 0) 4208076696062) (D (F 3) (D (eI (aU .Eq (F 1) (bH 1679051)) (bH 1962062) (bH 1679051)) J))))) J) J) (D (bG 4 (bo 4211664131230 (D (F 3) J))) (D (cf (aU .IsNot (F 4) du) (D (.ex (bo 474253113345289 (D (bI (F 0) 4208076696062) (D (F 4) (D (F 1) J))))) J) J) J)))))⟩
noncomputable abbrev L9:Nat:=7881903032557570497
noncomputable def HZ:cQ:=⟨1,[],1,D (bG 1 (bo 7965714168974938303 (D (F 0) J))) (D (cf (aU .Eq (F 1) (M 2)) (D (bP (M 8)) J) J) (D (bP (eI (aU .Eq (F 1) (M 10)) (M 7) (.neg (M 1)))) J))⟩
noncomputable abbrev L8:Nat:=3710697593742
noncomputable def yn:cQ:=⟨1,[],2,D (bG 1 (bo 7881903032557570497 (D (F 0) J))) (D (bG 2 du) (D (cf (aU .GtE (F 1) (M 0)) (D (bG 2 (bo 253089083 (D (F 0) (D (bH 501832981439121) (D (F 1) (D (M 1) J)))))) J) J) (D (bP (eI (aU .Is (F 2) du) (M 0) (a5 (F 2) (M 0)))) J)))⟩
noncomputable abbrev Lg:Nat:=65340310416152432
noncomputable def BS:cQ:=⟨1,[],1,D (bG 1 (bo 3710697593742 (D (F 0) J))) (D (cf (aU .LtE (F 1) (M 1)) (D (bP (.bool false)) J) J) (D (.ex (bo 1156566997600232159303 (D (F 0) (D (bH 501832981439121) (D (bo 7881903032557570497 (D (F 0) J)) (D (d4 .bytes (D (gA (D (bb .Sub (F 1) (M 1)) J)) J)) J)))))) (D (bP (.bool true)) J)))⟩
noncomputable abbrev Lk:Nat:=61749720567711817
noncomputable def BU:cQ:=⟨1,[],1,D (bG 1 (bo 253089083 (D (F 0) (D (bH 9041178932001308406) (D (M 13) (D (M 1) J)))))) (D (bP (eI (aU .Is (F 1) du) (.neg (M 1)) (a5 (F 1) (M 0)))) J)⟩
noncomputable abbrev LJ:Nat:=71856125492957414
noncomputable def HL:cQ:=⟨2,[],2,D (cf (fu (aU .NotIn (bo 7965714168974938303 (D (F 0) J)) (cI (D (M 2) (D (M 10) J)))) (gB (aU .Eq (bo 7965714168974938303 (D (F 0) J)) (M 2)) (aU .NotEq (bI (F 0) 1727422) (M 20)))) (D (bP (.bool false)) J) J) (D (cf (aU .Eq (bI (F 0) 6946) (M 6)) (D (bG 2 (bo 61749720567711817 (D (F 0) J))) (D (bG 3 (gB (aU .Eq (bI (F 1) 28498942502) (.glob 88751538423356683413427)) (aU .NotEq (bb .BitAnd (bI (F 1) 4176803699882) (.glob 320494666966302)) (M 0)))) (D (bP (gB (F 3) (gB (aU .GtE (F 2) (M 0)) (aU .Eq (bb .BitAnd (F 2) (.glob 394727189675324)) (M 0))))) J))) J) (D (bP (aU .Eq (bI (F 0) 6946) (M 17))) J))⟩
noncomputable abbrev Ln:Nat:=71856125492857563
noncomputable def ve:cQ:=⟨2,[],1,D (.hN 2 (bI (F 0) 32382534832) (D (cf (aU .Eq (a5 (a5 (bI (F 0) 32382534832) (F 2)) (M 0)) (bI (F 1) 4136611441551)) (D (bP (.bool true)) J) J) J)) (D (bP (.bool false)) J)⟩
noncomputable abbrev Ll:Nat:=19409776953675869410994860
noncomputable def Hv:cQ:=⟨2,[],5,D (.hY [2,3] (cI (D (bI (F 0) 233669040) (D (bI (F 0) 32356723236) J)))) (D (cf (fu (aU .Is (F 2) du) (fu (aU .Is (F 3) du) (fu (aU .NotEq (bI (F 0) 28498942502) (M 2)) (aU .Eq (bb .BitAnd (bI (F 2) 4176803699882) (.glob 5333328601651853984)) (M 0))))) (D (bP (cI (D (bH 30119758986) (D (bH 0) J)))) J) J) (D (cf (fu (.not (bo 71856125492957414 (D (bI (F 0) 4208076696062) (D (F 2) J)))) (bo 71856125492857563 (D (F 3) (D (F 2) J)))) (D (bP (cI (D (bH 30119758986) (D (bH 0) J)))) J) J) (D (.hY [4,5] (cI (D (a5 (bI (bI (F 0) 4208076696062) 212335787) (bH 1727803)) (D (a5 (bI (bI (F 0) 4208076696062) 212335787) (bH 1727809)) J)))) (D (cf (bI (F 0) 73031377932591727) (D (.hY [4,5] (cI (D (F 5) (D (F 4) J)))) J) J) (D (.hN 6 (fu (bI (F 2) 32343711005) (cI J)) (D (db (F 6) 1085869904490026943520 (.bool true)) J)) (D (.hK (bI (F 3) 32382534832) (cI (D (F 4) (D (bo 478679974298336 (D (F 2) (D (M 0) J))) J))) (cI (D (bI (F 2) 4136611441551) (D (M 0) (D (F 5) J))))) (D (.hK (bI (F 3) 32382534832) (cI (D (F 5) (D (bo 478679974298336 (D (F 2) (D (M 1) J))) J))) (cI (D (bI (F 2) 4136611441551) (D (M 1) (D (F 4) J))))) (D (bP du) J))))))))⟩
noncomputable abbrev Lh:Nat:=71856125492609622
noncomputable def ye:cQ:=⟨2,[],2,D (bG 3 (.comp [0,1] (F 2) (bI (F 0) 32382534832) (aU .Eq (a5 (a5 (bI (F 0) 32382534832) (F 2)) (M 0)) (F 1)))) (D (.hN 2 (F 3) (D (.del (bI (F 0) 32382534832) (F 2)) J)) J)⟩
noncomputable abbrev Lv:Nat:=66477878872594519
noncomputable def yg:cQ:=⟨1,[],1,D (cf (aU .Eq (bo 7965714168974938303 (D (F 0) J)) (M 2)) (D (bG 1 (bo 253089083 (D (F 0) (D (bH 501832981439121) (D (M 6) (D (M 2) J)))))) (D (bP (gB (aU .Eq (bI (F 0) 1727422) (M 20)) (gB (aU .IsNot (F 1) du) (aU .Eq (bb .BitAnd (bo 7965713916960092358 (D (F 1) J)) (M 16383)) (M 0))))) J)) J) (D (bP (gB (aU .Eq (bo 7965714168974938303 (D (F 0) J)) (M 10)) (aU .Eq (bI (F 0) 1727422) (M 40)))) J)⟩
noncomputable abbrev LK:Nat:=69496299193304933
noncomputable def sR:cQ:=⟨3,[],1,D (cf (fu (.not (bo 66477878872594519 (D (F 1) J))) (aU .LtE (bo 3710697593742 (D (F 1) J)) (M 1))) (D (bP (.bool false)) J) J) (D (cf (aU .Is (bo 253089083 (D (F 1) (D (bH 9041178932001308406) (D (M 0) (D (eI (aU .Eq (bI (F 1) 6946) (M 6)) (M 20) (M 8)) J))))) du) (D (bP (.bool false)) J) J) (D (cf (aU .NotEq (bI (F 1) 6946) (M 6)) (D (bP (.bool true)) J) J) (D (bG 3 (bo 61749720567711817 (D (F 1) J))) (D (cf (gB (aU .GtE (F 3) (M 0)) (aU .NotEq (bb .BitAnd (F 3) (.glob 394727189675324)) (M 0))) (D (.ex (bo 71856125492609622 (D (F 0) (D (F 2) J)))) J) J) (D (bP (gB (aU .GtE (F 3) (M 0)) (aU .Eq (bb .BitAnd (F 3) (.glob 101711603955798388571801)) (M 0)))) J)))))⟩
noncomputable abbrev D4:Nat:=70090763726569332
noncomputable def mQ:cQ:=⟨1,[],10,D (.hY [1,2] (cI (D (bI (F 0) 4208076696062) (D (bI (F 0) 32356723236) J)))) (D (bG 3 (eI (aU .Is (F 2) du) du (bo 61749716701775718 (D (F 1) J)))) (D (bG 4 (eI (aU .Is (F 3) du) du (.lH (bI (F 2) 32382534832) 1960259 (D (cI (D (a5 (bI (F 1) 212335787) (bH 1727803)) (D (F 3) J))) J)))) (D (cf (aU .Is (F 4) du) (D (bP (.neg (M 1))) J) J) (D (.hY [5,6,7] (F 4)) (D (bG 8 (.lH (bI (F 2) 32356723236) 1960259 (D (F 5) J))) (D (cf (fu (aU .Is (F 8) du) (fu (aU .LtE (bI (F 8) 30414104497) (bI (F 0) 2011479)) (.not (bo 69496299193304933 (D (F 2) (D (F 1) (D (F 5) J))))))) (D (bP (.neg (M 1))) J) J) (D (bG 9 (bo 4211664131230 (D (bo 478679974298336 (D (F 8) (D (bb .Sub (M 1) (F 6)) J))) J))) (D (.hN 10 (cI (D (bH 1962062) (D (bH 1679051) J))) (D (cf (aU .NotEq (bb .BitAnd (bI (F 8) 4176803699882) (bo 533981184097260 (D (F 10) (D (F 6) J)))) (M 0)) (D (.ex (bo 474253113345289 (D (F 1) (D (F 9) (D (F 10) J))))) J) J) J)) (D (.ex (bo 65340310416152432 (D (F 1) J))) (D (db (F 8) 30414104497 (bb .Add (bI (F 0) 2011479) (eI (aU .Eq (bI (F 1) 6946) (M 6)) (M 432000000) (M 120000)))) (D (bP (F 7)) J)))))))))))⟩
noncomputable abbrev K9:Nat:=28486126707
noncomputable def Hm:cQ:=⟨4,[(.str 32655181237)],0,D (db (F 0) 4208076696062 (F 1)) (D (db (F 0) 2011479 (F 3)) (D (db (F 0) 233720757 (F 4)) (D (db (F 0) 233669040 du) (D (db (F 0) 28498942502 (M 1)) (D (db (F 0) 73031377932591727 (M 0)) (D (db (F 0) 32356723236 du) (D (db (F 0) 250976195 (.dict [] J)) (D (db (F 0) 538767254962417 (.dict [] J)) (D (db (F 0) 4172078902525 (F 2)) (D (db (F 0) 538696360408813 (.dict [] J)) (D (db (F 0) 32371635362 (.dict [] J)) (D (db (F 0) 1945045 (.dict [] J)) (D (db (F 0) 32358921654 (.dict [] J)) (D (db (F 0) 32066789281 (bH 3674188985620)) (D (db (F 0) 1745221 (gA J)) (D (db (F 0) 538233085852027 (gA J)) (D (db (F 0) 32367342644 du) (D (db (F 0) 32343861537 (.dict [] J)) J))))))))))))))))))⟩
noncomputable abbrev Lx:Nat:=9261145224548211897
noncomputable def yh:cQ:=⟨2,[],1,D (bG 2 (gA (D (M 0) (D (M 1000000000000000) (D (M 0) (D (M 544) (D (M 12) (D (M 66304) (D (M 16) (D (M 1) (D (M 4) (D (M 2) (D (M 3) (D (M 256) (D (M 0) (D (M 0) J)))))))))))))))) (D (cf (aU .Lt (F 1) (d4 .len (D (F 0) J))) (D (bP (bb .Mod (a5 (F 0) (F 1)) (bb .Pow (M 2) (M 64)))) J) J) (D (bP (eI (aU .Lt (F 1) (M 14)) (a5 (F 2) (F 1)) (bb .Mult (M 12) (F 1)))) J))⟩
noncomputable abbrev Lw:Nat:=149197441734739796308497
noncomputable def HB:cQ:=⟨2,[],2,D (bG 2 (gA J)) (D (.hN 3 (F 1) (D (.ex (.lH (F 2) 3638987513726 (D (bb .Mod (F 0) (F 3)) J))) (D (bG 0 (bb .FloorDiv (F 0) (F 3))) J))) (D (bP (F 2)) J))⟩
noncomputable abbrev LA:Nat:=1165620122283962350008
noncomputable def HF:cQ:=⟨2,[],0,D (bP (.comp [0,1] (bb .Mod (bb .FloorDiv (F 0) (bb .Pow (M 256) (bb .Sub (bb .Sub (F 1) (M 1)) (F 2)))) (M 256)) (.range (M 0) (F 1) (M 1)) (.bool true))) J⟩
noncomputable abbrev LF:Nat:=1155347722831536258363
noncomputable def HH:cQ:=⟨1,[],0,D (bP (bb .Add (bb .Mult (d4 .sum (D (.slice (F 0) du du (M 2)) J)) (M 256)) (d4 .sum (D (.slice (F 0) (M 1) du (M 2)) J)))) J⟩
noncomputable abbrev Ly:Nat:=9041773108000248009
noncomputable def HC:cQ:=⟨2,[],0,D (cf (aU .Eq (F 0) (M 2)) (D (bP (bb .Add (M 167772160) (bb .Mult (M 16909060) (F 1)))) J) J) (D (bP (bb .Add (bb .Pow (M 2) (M 125)) (bb .Mult (M 5192376096523839485395206520373255) (F 1)))) J)⟩
noncomputable abbrev wD:Nat:=1126974941192616547005
noncomputable def HE:cQ:=⟨1,[],15,D (.hY [1,2,3,4,5,6] (bo 149197441734739796308497 (D (bo 9261145224548211897 (D (F 0) (D (M 0) J))) (D (gA (D (M 2) (D (M 2) (D (M 2) (D (M 2) (D (M 2) (D (M 16) J))))))) J)))) (D (bG 7 (bo 149197441734739796308497 (D (bo 9261145224548211897 (D (F 0) (D (M 1) J))) (D (gA (D (M 65536) (D (M 65536) (D (M 65536) (D (M 65536) J))))) J)))) (D (bG 8 (eI (aU .Eq (F 1) (M 1)) (M 10) (M 2))) (D (bG 9 (.comp [8] (bo 9041773108000248009 (D (F 0) (D (F 1) J))) (.range (M 1) (M 5) (M 1)) (.bool true))) (D (bG 10 (cI (D (a5 (F 9) (M 0)) (D (a5 (F 7) (M 0)) J)))) (D (bG 11 (cI (D (a5 (F 9) (M 1)) (D (a5 (F 7) (M 1)) J)))) (D (bG 12 (.dict [(.str 520337511393423),(.str 65316666195313658),(.str 3671692403735),(.str 4208068358925),(.str 2042964),(.str 28497126166)] (D (F 8) (D (eI (aU .Eq (F 2) (M 1)) (M 17) (M 6)) (D (aU .Eq (F 3) (M 0)) (D (aU .Eq (F 4) (M 0)) (D (F 5) (D (F 6) J)))))))) (D (bG 13 (eI (aU .Eq (F 3) (M 0)) (cI (D (a5 (F 9) (M 2)) (D (a5 (F 7) (M 2)) J))) (F 10))) (D (bG 14 (eI (aU .Eq (F 4) (M 0)) (cI (D (a5 (F 9) (M 3)) (D (a5 (F 7) (M 3)) J))) (F 11))) (D (bG 15 (cI (D (a5 (F 9) (M 0)) (D (bb .Mod (bb .Add (a5 (F 7) (M 0)) (M 1)) (M 65536)) J)))) (D (.hK (F 12) (bH 250711086) (cI (D (cI (D (cI (D (F 10) (D (F 11) J))) (D (cI (D (F 14) (D (F 13) J))) J))) (D (cI (D (cI (D (F 15) (D (F 11) J))) (D (cI (D (F 11) (D (F 15) J))) J))) J)))) (D (bP (F 12)) J)))))))))))⟩
noncomputable abbrev LC:Nat:=1017464626365034488246
noncomputable def HG:cQ:=⟨2,[],0,D (bP (cI (D (a5 (F 0) (bH 520337511393423)) (D (a5 (F 0) (bH 65316666195313658)) (D (a5 (a5 (F 1) (M 0)) (M 0)) (D (a5 (a5 (F 1) (M 0)) (M 1)) (D (a5 (a5 (F 1) (M 1)) (M 0)) (D (a5 (a5 (F 1) (M 1)) (M 1)) J)))))))) J⟩
noncomputable abbrev LB:Nat:=322978501955733399149959705725
noncomputable def yk:cQ:=⟨3,[],5,D (bG 3 (eI (aU .Eq (a5 (F 0) (bH 520337511393423)) (M 10)) (M 16) (M 4))) (D (bG 4 (bb .Add (bo 1165620122283962350008 (D (a5 (a5 (F 1) (M 0)) (M 1)) (D (M 2) J))) (bo 1165620122283962350008 (D (a5 (a5 (F 1) (M 1)) (M 1)) (D (M 2) J))))) (D (cf (aU .Eq (a5 (F 0) (bH 65316666195313658)) (M 6)) (D (bG 4 (bb .Add (bb .Add (F 4) (gA (D (M 1) (D (M 2) (D (M 3) (D (M 4) (D (M 255) (D (M 254) (D (M 253) (D (M 252) (D (M 80) (D (a5 (F 2) (bH 32347954834)) (D (M 7) (D (M 9) (D (M 0) (D (M 0) (D (M 0) (D (M 0) J)))))))))))))))))) (a5 (F 2) (bH 212335262)))) (D (bG 5 (M 16)) J)) (D (bG 4 (bb .Add (bb .Add (F 4) (gA (D (M 0) (D (bb .Add (M 8) (d4 .len (D (a5 (F 2) (bH 212335262)) J))) (D (M 0) (D (M 0) J)))))) (a5 (F 2) (bH 212335262)))) (D (bG 5 (M 6)) J))) (D (bG 6 (bb .Add (bb .Add (bo 1155347722831536258363 (D (F 4) J)) (a5 (F 0) (bH 65316666195313658))) (d4 .len (D (F 4) J)))) (D (bG 6 (bb .Add (bb .Add (F 6) (bo 1155347722831536258363 (D (bo 1165620122283962350008 (D (a5 (a5 (F 1) (M 0)) (M 0)) (D (F 3) J))) J))) (bo 1155347722831536258363 (D (bo 1165620122283962350008 (D (a5 (a5 (F 1) (M 1)) (M 0)) (D (F 3) J))) J)))) (D (bG 7 (bb .Mod (.neg (F 6)) (M 65535))) (D (cf (aU .Eq (F 5) (M 6)) (D (bG 7 (eI (a5 (F 2) (bH 474179417114332)) (M 0) (fu (F 7) (M 65535)))) J) J) (D (.pZ (F 4) (F 5) (bb .Add (F 5) (M 2)) (bo 1165620122283962350008 (D (F 7) (D (M 2) J)))) (D (bP (eI (a5 (F 2) (bH 4212490224397)) (.slice (F 4) du (eI (aU .Eq (F 5) (M 16)) (M 12) (M 6)) du) (F 4))) J))))))))⟩
noncomputable abbrev LD:Nat:=1017463972097343536811
noncomputable def yl:cQ:=⟨5,[],4,D (bG 5 (a5 (F 0) (bH 65316666195313658))) (D (cf (aU .Eq (a5 (F 0) (bH 520337511393423)) (M 10)) (D (bG 6 (eI (a5 (F 3) (bH 483256970620402)) (gA (D (F 5) (D (M 0) (D (M 1) (D (M 4) (D (M 0) (D (M 0) (D (M 0) (D (M 0) J))))))))) (gA J))) (D (bG 7 (gA (D (M 96) (D (M 0) (D (M 0) (D (M 5) (D (M 0) (D (bb .Add (d4 .len (D (F 6) J)) (d4 .len (D (F 4) J))) (D (eI (a5 (F 3) (bH 483256970620402)) (M 60) (F 5)) (D (F 2) J)))))))))) (D (bP (d4 .bytes (D (bb .Add (bb .Add (bb .Add (bb .Add (F 7) (bo 1165620122283962350008 (D (a5 (a5 (F 1) (M 0)) (M 0)) (D (M 16) J)))) (bo 1165620122283962350008 (D (a5 (a5 (F 1) (M 1)) (M 0)) (D (M 16) J)))) (F 6)) (F 4)) J))) J))) J) (D (bG 8 (eI (a5 (F 3) (bH 483256970620402)) (gA (D (M 1) (D (M 1) (D (M 1) (D (M 0) J))))) (gA J))) (D (bG 7 (bb .Add (gA (D (bb .Add (M 69) (bb .FloorDiv (d4 .len (D (F 8) J)) (M 4))) (D (M 8) (D (M 0) (D (bb .Add (bb .Add (M 20) (d4 .len (D (F 8) J))) (d4 .len (D (F 4) J))) (D (M 17) (D (M 18) J))))))) (bo 1165620122283962350008 (D (a5 (F 3) (bH 218743872)) (D (M 2) J))))) (D (bG 7 (bb .Add (bb .Add (bb .Add (bb .Add (F 7) (gA (D (F 2) (D (F 5) (D (M 0) (D (M 0) J)))))) (bo 1165620122283962350008 (D (a5 (a5 (F 1) (M 0)) (M 0)) (D (M 4) J)))) (bo 1165620122283962350008 (D (a5 (a5 (F 1) (M 1)) (M 0)) (D (M 4) J)))) (F 8))) (D (.pZ (F 7) (M 10) (M 12) (bo 1165620122283962350008 (D (bb .Mod (.neg (bo 1155347722831536258363 (D (F 7) J))) (M 65535)) (D (M 2) J)))) (D (bP (d4 .bytes (D (bb .Add (F 7) (F 4)) J))) J))))))⟩
noncomputable abbrev zP:Nat:=1165999419572470866990
noncomputable def vf:cQ:=⟨2,[],15,D (.hY [2,3,4,5,6] (bo 149197441734739796308497 (D (a5 (F 1) (M 0)) (D (gA (D (M 4) (D (M 2) (D (M 8) (D (M 8) (D (M 8) J)))))) J)))) (D (.hY [7,8,9,10,11,12,13] (bo 149197441734739796308497 (D (a5 (F 1) (M 1)) (D (gA (D (M 8) (D (M 4) (D (M 8) (D (M 4) (D (M 4) (D (M 8) (D (M 8) J)))))))) J)))) (D (bG 14 (.dict [(.str 29293349016),(.str 2042964),(.str 1829079),(.str 1017079913789210209081)] (D (eI (aU .Eq (F 2) (M 3)) (M 1) (M 0)) (D (F 3) (D (a5 (cI (D (M 64) (D (M 2) (D (M 1) (D (M 255) (D (M 0) (D (M 3) (D (M 64) (D (M 2) J))))))))) (F 4)) (D (aU .Eq (F 6) (M 7)) J)))))) (D (.hK (F 14) (bH 1727803) (eI (aU .Eq (F 5) (M 7)) (bb .Sub (M 2) (F 3)) (bb .Add (M 1) (F 3)))) (D (.hK (F 14) (bH 244288448) (a5 (cI (D (M 0) (D (M 1) (D (M 500) (D (M 4000) (D (M 119999) (D (M 120000) (D (M 432000000) (D (M 3999) J))))))))) (F 13))) (D (.hK (F 14) (bH 28490354198) (.dict [(.str 32347954834),(.str 483256970620402),(.str 218743872)] (D (a5 (cI (D (M 16) (D (M 24) (D (M 17) (D (M 16) (D (M 20) (D (M 18) (D (M 16) (D (M 0) J))))))))) (F 7)) (D (aU .Eq (F 8) (M 3)) (D (a5 (cI (D (M 0) (D (M 16384) (D (M 0) (D (M 16384) (D (M 0) (D (M 8192) (D (M 3) (D (M 8193) J))))))))) (F 9)) J))))) (D (.hK (a5 (F 14) (bH 28490354198)) (bH 212335262) (.slice (gA (D (M 250) (D (M 3) (D (M 255) J)))) du (F 10) du)) (D (.hK (a5 (F 14) (bH 28490354198)) (bH 474179417114332) (aU .Eq (F 11) (M 3))) (D (.hK (a5 (F 14) (bH 28490354198)) (bH 4212490224397) (aU .Eq (F 12) (M 7))) (D (.hY [15,16] (a5 (a5 (a5 (F 0) (bH 250711086)) (a5 (F 14) (bH 29293349016))) (F 3))) (D (cf (a5 (F 14) (bH 1017079913789210209081)) (D (bG 15 (cI (D (a5 (F 15) (M 0)) (D (bb .Mod (bb .Add (a5 (F 15) (M 1)) (M 1000)) (M 65536)) J)))) J) J) (D (.hK (F 14) (bH 248645936) (cI (D (F 15) (D (F 16) J)))) (D (bP (F 14)) J))))))))))))⟩
noncomputable abbrev Lz:Nat:=1007038830914243834535
noncomputable def HD:cQ:=⟨2,[],5,D (.hY [2,3] (a5 (F 1) (bH 248645936))) (D (cf (aU .Eq (a5 (F 1) (bH 29293349016)) (M 1)) (D (bP (cI (D (F 2) (D (F 3) J)))) J) J) (D (bG 4 (a5 (a5 (a5 (F 0) (bH 250711086)) (M 0)) (bb .Sub (M 1) (a5 (F 1) (bH 2042964))))) (D (.hY [5,6] (cI (D (a5 (F 0) (bH 3671692403735)) (D (a5 (F 0) (bH 4208068358925)) J)))) (D (cf (aU .Eq (a5 (F 1) (bH 2042964)) (M 1)) (D (.hY [5,6] (cI (D (F 6) (D (F 5) J)))) J) J) (D (bP (cI (D (eI (F 5) (a5 (F 4) (M 1)) (F 2)) (D (eI (F 6) (a5 (F 4) (M 0)) (F 3)) J)))) J)))))⟩
noncomputable abbrev zR:Nat:=19246430716825010854474233
noncomputable def yj:cQ:=⟨2,[],6,D (bG 2 (a5 (F 1) (bH 28490354198))) (D (bG 3 (bo 1007038830914243834535 (D (F 0) (D (F 1) J)))) (D (bG 4 (bo 322978501955733399149959705725 (D (F 0) (D (a5 (F 1) (bH 248645936)) (D (F 2) J))))) (D (bG 5 (gB (aU .Eq (a5 (F 0) (bH 520337511393423)) (M 2)) (aU .NotEq (bb .Mod (a5 (F 2) (bH 218743872)) (M 8192)) (M 0)))) (D (bG 6 (eI (F 5) (F 4) (bo 322978501955733399149959705725 (D (F 0) (D (F 3) (D (F 2) J)))))) (D (bG 7 (a5 (F 1) (bH 1829079))) (D (bP (cI (D (bo 1017463972097343536811 (D (F 0) (D (a5 (F 1) (bH 248645936)) (D (F 7) (D (F 2) (D (F 4) J)))))) (D (bo 1017463972097343536811 (D (F 0) (D (F 3) (D (eI (aU .Gt (F 7) (M 1)) (bb .Sub (F 7) (M 1)) (F 7)) (D (F 2) (D (F 6) J)))))) (D (F 5) J))))) J))))))⟩
noncomputable abbrev zO:Nat:=61183076018344776
noncomputable def yi:cQ:=⟨4,[],2,D (.hY [4,5] (cI (D (a5 (F 2) (bH 28490354198)) (D (a5 (F 2) (bH 29293349016)) J)))) (D (cf (fu (F 3) (fu (a5 (F 2) (bH 1017079913789210209081)) (fu (aU .NotEq (a5 (F 2) (bH 1727803)) (bb .Add (M 1) (a5 (F 2) (bH 2042964)))) (.not (a5 (a5 (F 1) (bH 32382534832)) (F 5)))))) (D (bP (.neg (M 1))) J) J) (D (cf (fu (aU .LtE (a5 (a5 (F 1) (bH 30414104497)) (F 5)) (a5 (F 1) (bH 2011479))) (fu (aU .Lt (a5 (F 2) (bH 1829079)) (M 2)) (a5 (F 4) (bH 483256970620402)))) (D (bP (.neg (M 1))) J) J) (D (cf (gB (aU .Eq (a5 (F 0) (bH 520337511393423)) (M 2)) (aU .NotEq (bb .Mod (a5 (F 4) (bH 218743872)) (M 16384)) (M 0))) (D (bP (.neg (M 1))) J) J) (D (cf (a5 (F 4) (bH 4212490224397)) (D (bP (.neg (M 1))) J) J) (D (cf (aU .Eq (a5 (F 0) (bH 65316666195313658)) (M 6)) (D (cf (aU .In (a5 (F 4) (bH 32347954834)) (cI (D (M 17) (D (M 20) J)))) (D (.hK (a5 (F 1) (bH 32382534832)) (F 5) (.bool false)) (D (bP (.neg (M 1))) J)) J) (D (cf (aU .Eq (a5 (F 4) (bH 32347954834)) (M 18)) (D (bP (.neg (M 1))) J) J) J)) J) (D (.hK (a5 (F 1) (bH 30414104497)) (F 5) (bb .Add (a5 (F 1) (bH 2011479)) (eI (aU .Eq (a5 (F 0) (bH 65316666195313658)) (M 6)) (M 432000000) (M 120000)))) (D (bP (bb .Sub (M 2) (a5 (F 2) (bH 2042964)))) J)))))))⟩
noncomputable abbrev qw:Nat:=1156802964355921382199
noncomputable def vg:cQ:=⟨2,[],3,D (bG 2 (gA J)) (D (.hN 3 (cI (D (M 0) (D (M 1) J))) (D (cf (a5 (a5 (F 1) (bH 32382534832)) (F 3)) (D (.hN 4 (cI (D (M 0) (D (M 1) J))) (D (.ex (.lH (F 2) 3638987513726 (D (cI (D (cI (D (bb .Add (M 1) (F 4)) (D (bo 1017464626365034488246 (D (F 0) (D (a5 (a5 (a5 (F 0) (bH 250711086)) (F 3)) (F 4)) J))) J))) (D (cI (D (bb .Add (F 3) (M 1)) (D (F 4) (D (bb .Sub (M 2) (F 4)) J)))) J))) J))) J)) J) J) J)) (D (bP (d4 .sorted (D (F 2) J))) J))⟩
noncomputable abbrev zN:Nat:=8349218486259912630
noncomputable def HA:cQ:=⟨1,[],3,D (bG 1 (bo 64722615088540447 (D (M 4) J))) (D (.hN 2 (cI (D (M 0) (D (M 1) J))) (D (bG 3 (bo 233669008 (D (bb .Add (F 2) (M 1)) (D (bo 1017464626365034488246 (D (F 0) (D (a5 (a5 (a5 (F 0) (bH 250711086)) (F 2)) (M 0)) J))) (D (bo 1017464626365034488246 (D (F 0) (D (a5 (a5 (a5 (F 0) (bH 250711086)) (F 2)) (M 1)) J))) (D (M 0) J)))))) (D (db (F 3) 30414104497 (M 5000)) (D (db (F 3) 4176803699882 (M 14)) (D (db (F 3) 28498942502 (M 3)) (D (cf (aU .Eq (F 2) (M 0)) (D (db (F 3) 4176803699882 (bb .Add (bb .Add (M 14) (eI (a5 (F 0) (bH 3671692403735)) (M 16) (M 0))) (eI (a5 (F 0) (bH 4208068358925)) (M 32) (M 0)))) J) J) (D (.hK (bI (F 1) 32356723236) (bb .Add (F 2) (M 1)) (F 3)) J))))))) (D (bP (F 1)) J))⟩
noncomputable abbrev mn:Nat:=64740556116810441
noncomputable def kO:cQ:=⟨5,[],6,D (bG 5 (.dict [(.str 32347954834),(.str 483256970620402),(.str 218743872),(.str 212335262),(.str 474179417114332),(.str 4212490224397)] (D (eI (aU .Eq (F 4) (M 15)) (M 17) (M 16)) (D (aU .Eq (F 4) (M 10)) (D (M 0) (D (gA J) (D (.bool false) (D (.bool false) J)))))))) (D (bG 6 (a5 (a5 (a5 (F 0) (bH 250711086)) (F 2)) (F 3))) (D (bG 7 (bo 1017463972097343536811 (D (F 0) (D (F 6) (D (M 64) (D (F 5) (D (bo 322978501955733399149959705725 (D (F 0) (D (F 6) (D (F 5) J)))) J))))))) (D (bG 8 (bo 28486126707 (D (bo 7965713988425346869 (D (F 7) (D (eI (aU .Eq (a5 (F 0) (bH 520337511393423)) (M 2)) (M 2048) (M 34525)) J))) (D (.dict [] J) (D (M 1000) J))))) (D (db (F 8) 32356723236 (F 1)) (D (db (F 8) 233669040 (a5 (bI (F 1) 32356723236) (bb .Add (F 2) (M 1)))) (D (db (F 8) 28498942502 (eI (aU .Eq (F 4) (M 12)) (M 8) (M 2))) (D (db (F 8) 73031377932591727 (F 3)) (D (.hK (bI (bI (F 8) 4208076696062) 212335787) (bH 1727803) (bb .Add (M 1) (F 3))) (D (.hK (bI (bI (F 8) 4208076696062) 212335787) (bH 1727809) (bb .Sub (M 2) (F 3))) (D (bG 9 (bI (bI (F 8) 233669040) 4176803699882)) (D (db (bI (F 8) 233669040) 4176803699882 (bb .Sub (F 9) (.lH (.dict [(.int (11)),(.int (13))] (D (M 4) (D (M 8) J))) 1960259 (D (F 4) (D (M 0) J))))) (D (db (bI (F 8) 233669040) 28498942502 (eI (aU .Eq (F 4) (M 14)) (M 4) (M 3))) (D (bG 10 (bo 19409776953675869410994860 (D (F 8) (D (bH 218460970) J)))) (D (db (bI (F 8) 233669040) 4176803699882 (F 9)) (D (db (bI (F 8) 233669040) 28498942502 (M 3)) (D (bP (F 10)) J))))))))))))))))⟩
noncomputable abbrev zM:Nat:=278870288483890228836306864303
noncomputable def jg:cQ:=⟨2,[],3,D (.hY [2,3] (cI (D (a5 (F 0) (bH 28497126166)) (D (a5 (F 0) (bH 2042964)) J)))) (D (bG 4 (fu (aU .In (F 2) (cI (D (M 12) (D (M 13) J)))) (gB (aU .In (F 2) (cI (D (M 11) (D (M 14) (D (M 15) J))))) (aU .Eq (a5 (F 0) (bH 65316666195313658)) (M 6))))) (D (bG 4 (fu (F 4) (gB (aU .Eq (F 2) (M 10)) (aU .Eq (a5 (F 0) (bH 520337511393423)) (M 2))))) (D (cf (gB (F 4) (fu (aU .NotEq (bo 64740556116810441 (D (F 0) (D (F 1) (D (M 0) (D (F 3) (D (F 2) J)))))) (cI (D (bH 30119758986) (D (bH 0) J)))) (aU .NotEq (bI (F 1) 32382534832) (.dict [] J)))) (D (bP (.bool false)) J) J) (D (cf (aU .IsNot (bo 64740556116810441 (D (F 0) (D (F 1) (D (M 0) (D (F 3) (D (eI (.not (F 4)) (F 2) (M 0)) J)))))) du) (D (bP (.bool false)) J) J) (D (cf (aU .IsNot (bo 64740556116810441 (D (F 0) (D (F 1) (D (M 1) (D (bb .Sub (M 1) (F 3)) (D (M 0) J)))))) du) (D (bP (.bool false)) J) J) (D (bP (aU .Eq (bo 64740556116810441 (D (F 0) (D (F 1) (D (M 0) (D (bb .Sub (M 1) (F 3)) (D (M 0) J)))))) (cI (D (bH 30119758986) (D (bH 0) J))))) J))))))⟩
noncomputable abbrev zQ:Nat:=9041708520722866617
noncomputable def nH:cQ:=⟨5,[],3,D (bG 5 (bo 7965713988425346869 (D (F 4) (D (eI (aU .Eq (a5 (F 0) (bH 520337511393423)) (M 2)) (M 2048) (M 34525)) J)))) (D (.hK (bI (F 5) 212335787) (bH 1727803) (a5 (F 2) (bH 1727803))) (D (bG 6 (bo 28486126707 (D (F 5) (D (.dict [] J) (D (F 3) J))))) (D (db (F 6) 32356723236 (F 1)) (D (bG 7 (bo 70090763726569332 (D (F 6) J))) (D (bP (cI (D (F 7) (D (d4 .bytes (D (bI (F 5) 212335262) J)) (D (gA (D (bI (a5 (bI (F 1) 32356723236) (M 1)) 30414104497) (D (bI (a5 (bI (F 1) 32356723236) (M 2)) 30414104497) J))) (D (.items (bI (F 1) 32382534832)) J)))))) J)))))⟩
noncomputable abbrev zS:Nat:=9269440652986884432
noncomputable def pO:cQ:=⟨5,[],3,D (bG 5 (bo 7965713988425346869 (D (F 4) (D (eI (aU .Eq (a5 (F 0) (bH 520337511393423)) (M 2)) (M 2048) (M 34525)) J)))) (D (bG 6 (bo 28486126707 (D (F 5) (D (.dict [] J) (D (F 3) J))))) (D (db (F 6) 233669040 (a5 (bI (F 1) 32356723236) (bb .Add (a5 (F 2) (bH 29293349016)) (M 1)))) (D (db (F 6) 73031377932591727 (a5 (F 2) (bH 2042964))) (D (.ex (bo 7892008977562703319 (D (F 6) (D (bH 1962062) J)))) (D (.ex (bo 7892008977562703319 (D (F 6) (D (bH 1679051) J)))) (D (bG 7 (bo 65340310416152432 (D (F 5) J))) (D (bP (cI (D (F 7) (D (d4 .bytes (D (bI (F 5) 212335262) J)) J)))) J)))))))⟩
noncomputable abbrev zL:Nat:=2009671
noncomputable def jf:cQ:=⟨1,[],10,D (bG 1 (bo 1126974941192616547005 (D (F 0) J))) (D (bG 2 (bo 8349218486259912630 (D (F 1) J))) (D (bG 3 (.dict [(.str 2011479),(.str 30414104497),(.str 32382534832)] (D (M 1000) (D (gA (D (M 5000) (D (M 5000) J))) (D (gA (D (.bool true) (D (.bool true) J))) J))))) (D (cf (fu (.not (bo 278870288483890228836306864303 (D (F 1) (D (F 2) J)))) (aU .NotEq (.items (bI (F 2) 32382534832)) (bo 1156802964355921382199 (D (F 1) (D (F 3) J))))) (D (bP (.bool false)) J) J) (D (.hN 4 (.range (M 0) (bb .Add (M 6) (d4 .min (D (M 4) (D (bb .FloorDiv (d4 .len (D (F 0) J)) (M 8)) J)))) (M 1)) (D (bG 5 (bo 1165999419572470866990 (D (F 1) (D (.comp [4,0] (bo 9261145224548211897 (D (F 1) (D (bb .Add (bb .Add (M 2) (bb .Mult (M 2) (F 0))) (F 2)) J))) (cI (D (M 0) (D (M 1) J))) (.bool true)) J)))) (D (.hK (F 3) (bH 2011479) (bb .Add (a5 (F 3) (bH 2011479)) (a5 (F 5) (bH 244288448)))) (D (.hY [6,7,8] (bo 19246430716825010854474233 (D (F 1) (D (F 5) J)))) (D (bG 9 (bo 61183076018344776 (D (F 1) (D (F 3) (D (F 5) (D (F 8) J)))))) (D (bG 10 (cI (D (F 9) (D (eI (aU .GtE (F 9) (M 0)) (F 7) (F 6)) (D (a5 (F 3) (bH 30414104497)) (D (bo 1156802964355921382199 (D (F 1) (D (F 3) J))) J)))))) (D (cf (aU .NotEq (bo 9041708520722866617 (D (F 1) (D (F 2) (D (F 5) (D (a5 (F 3) (bH 2011479)) (D (F 6) J)))))) (F 10)) (D (bP (.bool false)) J) J) (D (cf (aU .NotEq (bo 9269440652986884432 (D (F 1) (D (F 2) (D (F 5) (D (a5 (F 3) (bH 2011479)) (D (F 6) J)))))) (cI (D (aU .Gt (a5 (F 5) (bH 1829079)) (M 1)) (D (F 7) J)))) (D (bP (.bool false)) J) J) J)))))))) (D (.ex (bo 8347371211521298121 (D (F 2) (D (a5 (bI (F 2) 32356723236) (M 1)) J)))) (D (.hK (a5 (F 3) (bH 32382534832)) (M 0) (.bool false)) (D (bP (gB (aU .Eq (.items (bI (F 2) 32382534832)) (bo 1156802964355921382199 (D (F 1) (D (F 3) J)))) (aU .Eq (d4 .list (D (bI (F 2) 32356723236) J)) (gA (D (M 2) J))))) J)))))))⟩
end
end
noncomputable def qA {a0:Type}:List (Nat×a0)→Nat→Option a0
 | [],_=>none
 |(a,x)::r,n=>match c1 a n with|true=>E x|false=>qA r n
def aP:Nat→Option V:=qA [(a7 "DYING",.int 512),(a7 "ASSURED",.int 4),(a7 "CONFIRMED",.int 8),(a7 "ESTABLISHED",.int 3),(a7 "FIN_RST",.int 5),(a7 "FIN_RST_SYN",.int 7)]
def inl (bg:cQ):Row:=⟨0,false,fun C=>cR C aP bg⟩
def ww (bg:cQ):Row:=⟨0,true,fun C=>cR C aP bg⟩
noncomputable def foldI (t:Int):Int:=if t=0 then 0 else(t-1)% 65535+1
noncomputable def bf (n:Int)(s:Nat):List Int:=(List.range s).map fun k=>n/256^(s-1-k)% 256
noncomputable def cP (b:List Int):Int:=b.foldl (fun n o=>n*256+o) 0
noncomputable def wsum:List Int→Int
 |a::b::r=>a*256+b+wsum r
 |_=>0
def js (c:Int)(o n:List Int):Int:=65535-foldI (65535-c+65535*(o.length/2)-wsum o+wsum n)
theorem Iy (n:Int):∀(k:Nat) (o:Int),0≤o→o<2^k→Builtin.bitAnd (2^k*n) o=0
 |0,o,bl,R=>by
  have:o=0:=by lia
  subst this;exact Int.le_antisymm ((bitAnd_range _ (uW 0)).2) ((bitAnd_range _ (uW 0)).1)
 |k+1,o,bl,R=>by rw[kbt_halves,uX,show(2:Int)^k*2*n=2*(2^k*n) by rw[xQ (2^k) 2,GG],Int.mul_ediv_cancel_left _ (by decide),Int.mul_emod_right,Iy n k (o/2) (by lia) (by rw[uX] at R;lia)];rfl
theorem abZ {n o:Int}(k:Nat)(bl:0≤o)(R:o<2^k):Builtin.bitOr (n*2^k) o=n*2^k+o:=by rw[bitOr_and,xQ n,Iy n k o bl R,Int.sub_zero]
theorem EX {n o:Int}(bl:0≤o)(R:o<256):Builtin.bitOr (n*2^(8:Int).toNat) o=n*256+o:=abZ 8 bl R
theorem De {f:V→List V→List an→dM→Prop}{st:List an→(List V→Prop)→Prop}{K:dM}(aM:Nat→List V→Prop)
 (step:∀i v loc,vs[i]? =E v→aM i loc→∀hs:dM,(∀ef,aM (i+1) ef→hs .next ef H)→f v loc H hs)
 (gY:∀i loc,aM i loc→∀P:List V→List an→Prop,P loc H→trunc m loc H P)(hu:∀P:List V→Prop,P vs→st H P)(fin:∀loc,aM vs.length loc→K .next loc H):
 ∀n i loc,aM i loc→i≤vs.length→vs.length<n+i→iy m f st n i vs loc H K:=fun n=>by
 induction n with
 |zero=>intro i loc _ R Z;lia
 |succ n aF=>
  intro i loc ab R Z;unfold iy;cases e:vs[i]? with
  |none=>
   have:i=vs.length:=by have:=List.getElem?_eq_none_iff.mp e;lia
   exact fin loc (this▸ab)
  |some v=>refine step i v loc e ab _ fun ef zg=>?_;refine gY _ _ zg _ (hu _ ?_);have:=(List.getElem?_eq_some_iff.mp e).1;exact aF (i+1) ef zg (by lia) (by lia)
theorem Ti {f:V→List an→(Option V→List an→Prop)→Prop}{st:List an→(List V→Prop)→Prop}{K:List V→List an→Prop}(g:V→V)
 (step:∀v∈vs,∀k:Option V→List an→Prop,k (E (g v)) H→f v H k)(hu:∀P:List V→Prop,P vs→st H P)(fin:K (vs.map g) H):
 ∀n i,i≤vs.length→vs.length<n+i→j3 f st n i vs H ((vs.take i).map g) K:=fun n=>by
 induction n with
 |zero=>intro i R Z;lia
 |succ n aF=>
  intro i R Z;unfold j3;cases e:vs[i]? with
  |none=>have:=List.getElem?_eq_none_iff.mp e;rw[List.take_of_length_le this];exact fin
  |some v=>
   refine step v (List.mem_of_getElem? e) _ (hu _ ?_);have:=(List.getElem?_eq_some_iff.mp e).1;have aJ:(vs.take i).map g++[g v]=(vs.take (i+1)).map g:=by rw[List.take_add_one,e];simp
   refine(?_:j3 f st n (i+1) vs H ((vs.take i).map g++[g v]) K);rw[aJ];exact aF (i+1) (by lia) (by lia)
abbrev Spec:=List V→List an→bE→Prop
theorem ki {A B:Prop}(h:A=B)(b:B):A:=h▸b
theorem jJ {P Q:Prop}(h:b=true)(p:P):ao b P Q:=by subst h;exact p
theorem p5 {P Q:Prop}(h:b=false)(q:Q):ao b P Q:=by subst h;exact q
noncomputable def both {a0 eh:Type}:Option a0→Option eh→Option (a0×eh)
 |some a,E b=>E (a,b)
 |_,_=>none
theorem CA {a0 eh:Type}{o:Option a0}{u:Option eh}{x:a0×eh}(h:both o u=E x):∃a b,o=E a∧u=E b∧x=(a,b):=by
 induction o using ez with
 |none=>exact nomatch h
 |some a=>
  induction u using ez with
  |none=>exact nomatch h
  |some b=>exact⟨a,b,rfl,rfl,(fe h).symm⟩
noncomputable def Gk:Bool→Option Unit
 |true=>E ()
 |false=>none
theorem PU {x:Unit}(h:Gk b=E x):b=true:=by cases b;exact nomatch h;rfl
inductive ea where
 |i|b|y|s|r|x (v:V)|t (p:ea)|nil|cons (p q:ea)
def fl:ea→Type
 |.i=>Int
 |.b=>Bool
 |.y=>List Int
 |.s=>Nat
 |.r=>Nat
 |.x _=>Unit
 |.t p=>fl p
 |.nil=>Unit
 |.cons p q=>fl p×fl q
noncomputable def Gw:V→V→Bool
 |.none,.none=>true
 |.bool a,.bool b=>a==b
 |.int a,.int b=>decide (a=b)
 |.str a,.str b=>c1 a b
 |.ref a,.ref b=>c1 a b
 |_,_=>false
theorem Qe {w:V}(h:Gw v w=true):w=v:=by
 induction v using V.casesOn with
 |none=>induction w using V.casesOn with
  |none=>rfl
  |_=>exact kn h
 |bool a=>induction w using V.casesOn with
  |bool b=>exact congrArg V.bool (eq_of_beq h).symm
  |_=>exact kn h
 |int a=>induction w using V.casesOn with
  |int b=>exact congrArg V.int (of_decide_eq_true h).symm
  |_=>exact kn h
 |str a=>induction w using V.casesOn with
  |str b=>exact congrArg V.str (fQ h).symm
  |_=>exact kn h
 |ref a=>induction w using V.casesOn with
  |ref b=>exact congrArg V.ref (fQ h).symm
  |_=>exact kn h
 |_=>cases w<;>exact kn h
mutual
def qH:(p:ea)→V→Option (fl p)
 |.i,.int x=>E x
 |.b,.bool x=>E x
 |.y,.bytes x=>E x
 |.s,.str x=>E x
 |.r,.ref x=>E x
 |.x v,w=>Gk (Gw v w)
 |.t p,.tup vs=>rU p vs
 |_,_=>none
def rU:(p:ea)→List V→Option (fl p)
 |.nil,[]=>E ()
 |.cons p q,v::vs=>both (qH p v) (rU q vs)
 |_,_=>none
end
mutual
noncomputable def rh:(p:ea)→fl p→V
 |.i,x=>.int x
 |.b,x=>.bool x
 |.y,x=>.bytes x
 |.s,x=>.str x
 |.r,x=>.ref x
 |.x v,_=>v
 |.t p,x=>.tup (jj p x)
 |.nil,_=>.aQ
 |.cons _ _,_=>.aQ
noncomputable def jj:(p:ea)→fl p→List V
 |.nil,_=>[]
 |.cons p q,x=>rh p x.1::jj q x.2
 |.i,_=>[]
 |.b,_=>[]
 |.y,_=>[]
 |.s,_=>[]
 |.r,_=>[]
 |.x _,_=>[]
 |.t _,_=>[]
end
theorem fV {a0:Type}{x:a0}{P:Prop}(h:(none:Option a0)=E x):P:=nomatch h
theorem abk {x:fl .nil}(h:qH .nil v=E x):(none:Option Unit)=E x:=by cases v<;>exact h
theorem Tl {p q:ea}{x:fl (.cons p q)}(h:qH (.cons p q) v=E x):(none:Option (fl p×fl q))=E x:=by cases v<;>exact h
theorem tZ:∀p:ea,(∀v x,qH p v=E x→v=rh p x)∧(∀vs x,rU p vs=E x→vs=jj p x):=by
 intro p
 induction p with
 |i=>
  refine⟨fun v x h=>?_,fun vs x h=>?_⟩
  .induction v using V.casesOn with
   |int y=>exact congrArg V.int (fe h)
   |_=>exact fV h
  .cases vs<;>exact fV h
 |b=>
  refine⟨fun v x h=>?_,fun vs x h=>?_⟩
  .induction v using V.casesOn with
   |bool y=>exact congrArg V.bool (fe h)
   |_=>exact fV h
  .cases vs<;>exact fV h
 |y=>
  refine⟨fun v x h=>?_,fun vs x h=>?_⟩
  .induction v using V.casesOn with
   |bytes y=>exact congrArg V.bytes (fe h)
   |_=>exact fV h
  .cases vs<;>exact fV h
 |s=>
  refine⟨fun v x h=>?_,fun vs x h=>?_⟩
  .induction v using V.casesOn with
   |str y=>exact congrArg V.str (fe h)
   |_=>exact fV h
  .cases vs<;>exact fV h
 |r=>
  refine⟨fun v x h=>?_,fun vs x h=>?_⟩
  .induction v using V.casesOn with
   |ref y=>exact congrArg V.ref (fe h)
   |_=>exact fV h
  .cases vs<;>exact fV h
 |x w=>
  refine⟨fun v x h=>?_,fun vs x h=>?_⟩
  .exact Qe (PU h)
  .cases vs<;>exact fV h
 |t p aF=>
  refine⟨fun v x h=>?_,fun vs x h=>?_⟩
  .induction v using V.casesOn with
   |tup vs=>exact congrArg V.tup (aF.2 vs x h)
   |_=>exact fV h
  .cases vs<;>exact fV h
 |nil=>
  refine⟨fun v x h=>?_,fun vs x h=>?_⟩
  .exact fV (abk h)
  .induction vs using List.casesOn with
   |nil=>rfl
   |cons _ _=>exact fV h
 |cons p q Yj Yk=>
  refine⟨fun v x h=>?_,fun vs x h=>?_⟩
  .exact fV (Tl h)
  .induction vs using List.casesOn with
   |nil=>exact fV h
   |cons v vs=>refine dD (CA h) fun a b bT=>?_;refine hJ bT fun aW aJ eH=>?_;clear bT;subst eH;refine(?_:_=rh p a::jj q b);rw[←Yj.1 v a aW,←Yk.2 vs b aJ]
inductive g8 where
 |d (aD:List V) (p:ea) (n:Nat)|e|o (d:Nat)|a|dw|z|jc|v (p:ea)|w|f
def yo:g8→Type
 |.d _ p _=>fl p
 |.e=>List (V×V)×Nat
 |.o _=>Unit
 |.a=>List Int
 |.dw=>Unit
 |.z=>List Int
 |.jc=>Unit
 |.v p=>fl p
 |.w=>List V
 |.f=>List Int
def zW:List V→List (V×V)→Bool
 | [],[]=>true
 |k::aD,e::es=>Gw k e.1&&zW aD es
 |_,_=>false
noncomputable def oD:List V→List V→List (V×V)
 |k::aD,v::vs=>(k,v)::oD aD vs
 |_,_=>[]
def Ey (aD:List V)(p:ea)(n:Nat)(es:List (V×V))(m:Nat):Option (fl p):=match c1 m n&&zW aD es with
 |true=>rU p (es.map (·.2))
 |false=>none
def M2:(p:g8)→an→Option (yo p)
 |.d aD p n,.dict es m=>Ey aD p n es m
 |.e,.dict es m=>E (es,m)
 |.o d,.inst e=>Gk (c1 e d)
 |.a,.cB b=>E b
 |.dw,.cB []=>E ()
 |.z,.ints b=>E b
 |.jc,.ints []=>E ()
 |.v p,.list vs=>rU p vs
 |.w,.list vs=>E vs
 |.f,.d6 b=>E b
 |_,_=>none
def tc:(p:g8)→yo p→an
 |.d aD p n,x=>.dict (oD aD (jj p x)) n
 |.e,x=>.dict x.1 x.2
 |.o d,_=>.inst d
 |.a,b=>.cB b
 |.dw,_=>.cB []
 |.z,b=>.ints b
 |.jc,_=>.ints []
 |.v p,x=>.list (jj p x)
 |.w,x=>.list x
 |.f,x=>.d6 x
theorem Mg:∀{aD:List V} {es:List (V×V)},zW aD es=true→es=oD aD (es.map (·.2))
 | [],[],_=>rfl
 |k::aD,(_,_)::es,h=>by refine b5 h fun R Z=>?_;refine(?_:_=(k,_)::oD aD (es.map (·.2)));rw[←Mg Z,←Qe R]
 | [],_::_,h=>kn h
 |_::_,[],h=>kn h
theorem aaH {p:ea}{x:fl p}(h:Ey aD p n es m=E x):an.dict es m=.dict (oD aD (jj p x)) n:=by
 unfold Ey at h;cases e:(c1 m n&&zW aD es) with
 |false=>rw[e] at h;exact fV h
 |true=>rw[e] at h;refine b5 e fun R Z=>?_;rw[←(tZ p).2 _ _ h,←Mg Z,fQ R]
theorem aaI {p:g8}{o:an}{x:yo p}(h:M2 p o=E x):o=tc p x:=by
 cases p with
 |d aD p n=>
  induction o using an.casesOn with
  |dict es m=>exact aaH h
  |_=>exact fV h
 |e=>
  induction o using an.casesOn with
  |dict es m=>have h:=fe h;subst h;rfl
  |_=>exact fV h
 |o d=>
  induction o using an.casesOn with
  |inst m=>exact congrArg an.inst (fQ (PU h))
  |_=>exact fV h
 |a=>
  induction o using an.casesOn with
  |cB b=>have h:=fe h;subst h;rfl
  |_=>exact fV h
 |dw=>
  induction o using an.casesOn with
  |cB b=>
   induction b using List.casesOn with
   |nil=>rfl
   |cons _ _=>exact fV h
  |_=>exact fV h
 |z=>
  induction o using an.casesOn with
  |«ints» b=>have h:=fe h;subst h;rfl
  |_=>exact fV h
 |jc=>
  induction o using an.casesOn with
  |«ints» b=>
   induction b using List.casesOn with
   |nil=>rfl
   |cons _ _=>exact fV h
  |_=>exact fV h
 |v p=>
  induction o using an.casesOn with
  |list vs=>exact congrArg an.list ((tZ p).2 vs x h)
  |_=>exact fV h
 |w=>
  induction o using an.casesOn with
  |list vs=>have h:=fe h;subst h;rfl
  |_=>exact fV h
 |f=>
  induction o using an.casesOn with
  |d6 b=>have h:=fe h;subst h;rfl
  |_=>exact fV h
def hr:List g8→Type
 | []=>Unit
 |p::ps=>yo p×hr ps
def Aj:(ps:List g8)→List an→Option (hr ps)
 | [],[]=>E ()
 |p::ps,o::os=>both (M2 p o) (Aj ps os)
 |_,_=>none
def jk:(ps:List g8)→hr ps→List an
 | [],_=>[]
 |p::ps,x=>tc p x.1::jk ps x.2
theorem M3:∀{ps:List g8} {os:List an} {x:hr ps},Aj ps os=E x→os=jk ps x
 | [],[],_,_=>rfl
 | [],_::_,_,h=>fV h
 |_::_,[],_,h=>fV h
 |p::ps,o::os,x,h=>by refine dD (CA h) fun a b bT=>?_;refine hJ bT fun aW aJ eH=>?_;clear bT;subst eH;refine(?_:_=tc p a::jk ps b);rw[←aaI aW,←M3 aJ]
def gK (p:ea)(q:List g8)(cO:fl p→hr q→bE→Prop):Spec:=fun vs H K=>match rU p vs with
 |some a=>(match Aj q H with|some b=>cO a b K|none=>False)
 |none=>False
theorem pm {p:ea}{q:List g8}{cO:fl p→hr q→bE→Prop}(h:gK p q cO vs H K):∃a b,vs=jj p a∧H=jk q b∧cO a b K:=by
 unfold gK at h;cases aW:rU p vs with
 |none=>rw[aW] at h;exact h.elim
 |some a=>
 cases aJ:Aj q H with
 |none=>rw[aW,aJ] at h;exact h.elim
 |some b=>
 rw[aW,aJ] at h;exact⟨a,b,(tZ p).2 _ _ aW,M3 aJ,h⟩
theorem ab3 {p:ea}{q:List g8}{cO:fl p→hr q→bE→Prop}
 (h:∀a b K,(∀o∈jk q b,pF o)→(∀v∈jj p a,qX v)→cO a b K→cR C aP bg (jj p a) (jk q b) (dY (jk q b) K)):fF C aP (gK p q cO) bg:=fun vs H K fC fY aE=>by
 refine dD (pm aE) fun a b bT=>?_;refine hJ bT fun b9 eN s=>?_;clear bT;subst b9;subst eN;exact .inr (.inl (h a b K fC fY s))
theorem E0 {p:ea}{q:List g8}{cO:fl p→hr q→bE→Prop}
 (h:∀a b K,(∀o∈jk q b,pF o)→(∀v∈jj p a,qX v)→cO a b K→cR C aP bg (jj p a) (jk q b) K):fF C aP (gK p q cO) bg:=fun vs H K fC fY aE=>by
 refine dD (pm aE) fun a b bT=>?_;refine hJ bT fun b9 eN s=>?_;clear bT;subst b9;subst eN;exact .inl (h a b K fC fY s)
structure Ev (P:Prop):Prop where
 out:P
theorem aK {A B:Prop}(h:A=B)(b:Ev B):Ev A:=h▸b
theorem mZ {p:ea}{q:List g8}{cO:fl p→hr q→bE→Prop}
 (h:∀a b K,(∀o∈jk q b,pF o)→(∀v∈jj p a,qX v)→Ev (cO a b K)→Ev (cR C aP bg (jj p a) (jk q b) (dY (jk q b) K))):fF C aP (gK p q cO) bg:=fun vs H K fC fY aE=>by
 refine dD (pm aE) fun a b bT=>?_;refine hJ bT fun b9 eN s=>?_;clear bT;subst b9;subst eN;exact .inr (.inl (h a b K fC fY ⟨s⟩).out)
theorem SR {p:ea}{q:List g8}{cO:fl p→hr q→bE→Prop}
 (h:∀a b K,(∀o∈jk q b,pF o)→(∀v∈jj p a,qX v)→Ev (cO a b K)→Ev (cR C aP bg (jj p a) (jk q b) (rl (jk q b) K))):fF C aP (gK p q cO) bg:=fun vs H K fC fY aE=>by
 refine dD (pm aE) fun a b bT=>?_;refine hJ bT fun b9 eN s=>?_;clear bT;subst b9;subst eN;exact .inr (.inr (h a b K fC fY ⟨s⟩).out)
theorem Zt {p:ea}{q:List g8}{cO:fl p→hr q→bE→Prop}
 (h:∀a b K,(∀o∈jk q b,pF o)→(∀v∈jj p a,qX v)→Ev (cO a b K)→Ev (cR C aP bg (jj p a) (jk q b) K)):fF C aP (gK p q cO) bg:=fun vs H K fC fY aE=>by
 refine dD (pm aE) fun a b bT=>?_;refine hJ bT fun b9 eN s=>?_;clear bT;subst b9;subst eN;exact .inl (h a b K fC fY ⟨s⟩).out
theorem gG {P:Prop}(h:Ev (ao b P False)):b=true∧Ev P:=⟨(fM h.out).1,⟨(fM h.out).2⟩⟩
theorem cw {P Q:Prop}(e:b=true)(h:Ev P):Ev (ao b P Q):=⟨jJ e h.out⟩
theorem eb {P Q:Prop}(e:b=false)(h:Ev Q):Ev (ao b P Q):=⟨p5 e h.out⟩
theorem dQ {P Q:Prop}(h:b=true→Ev P)(k:b=false→Ev Q):Ev (ao b P Q):=by cases b;exact⟨(k rfl).out⟩;exact⟨(h rfl).out⟩
theorem jn {P Q:Prop}(e:b=true)(h:Ev (ao b P Q)):Ev P:=by subst e;exact⟨h.out⟩
theorem iY {P Q:Prop}(e:b=false)(h:Ev (ao b P Q)):Ev Q:=by subst e;exact⟨h.out⟩
noncomputable def fB:Nat→ff→ff
 |0,_=>.nil
 |_+1,.nil=>.nil
 |n+1,.cons s r=>.cons s (fB n r)
noncomputable def cn:Nat→ff→ff
 |0,s=>s
 |_+1,.nil=>.nil
 |n+1,.cons _ r=>cn n r
theorem gm {G:Nat→Option V}:∀(n:Nat) (s:ff) (loc:List V) (H:List an) (K:dM),b4 C G s loc H K=b4 C G (fB n s) loc H (gi (b4 C G (cn n s)) K)
 |0,s,loc,H,K=>by cases s<;>rfl
 |n+1,.nil,loc,H,K=>by unfold fB cn;unfold b4;rfl
 |n+1,.cons s r,loc,H,K=>by
  refine(?_:xt C G s loc H (gi (b4 C G r) K)=xt C G s loc H (gi (b4 C G (fB n r)) (gi (b4 C G (cn n r)) K)));congr 1;funext aH loc H
  induction aH using rb.casesOn with
  |next=>exact gm n r loc H K
  |brk=>rfl
  |ret v=>rfl
theorem Dd {f:V→List V→List an→dM→Prop}{st:List an→(List V→Prop)→Prop}{K:dM}(aM:Nat→List V→List an→Prop)(Ij:V→List V→List an→Prop)
 (step:∀i v loc H,vs[i]? =E v→aM i loc H→∀hs:dM,(∀ef bp,aM (i+1) ef bp→Ev (hs .next ef bp))→(∀r ef bp,Ij r ef bp→Ev (hs (.ret r) ef bp))→Ev (f v loc H hs))
 (gY:∀i loc H,aM i loc H→∀P:List V→List an→Prop,(∀ef bp,aM i ef bp→Ev (P ef bp))→Ev (trunc m loc H P))(hu:∀i loc H,aM i loc H→∀P:List V→Prop,Ev (P vs)→Ev (st H P))
 (fin:∀loc H,aM vs.length loc H→Ev (K .next loc H))(Fb:∀r loc H,Ij r loc H→Ev (K (.ret r) loc H)):
 ∀n i loc H,aM i loc H→i≤vs.length→vs.length<n+i→Ev (iy m f st n i vs loc H K):=fun n=>by
 induction n with
 |zero=>intro i loc H _ R Z;lia
 |succ n aF=>
  intro i loc H ab R Z;unfold iy;cases e:vs[i]? with
  |none=>
   have:i=vs.length:=by have:=List.getElem?_eq_none_iff.mp e;lia
   exact fin loc H (this▸ab)
  |some v=>refine step i v loc H e ab _ (fun ef bp zg=>?_) fun r ef bp am=>Fb r ef bp am;refine gY _ _ _ zg _ fun m8 be zh=>hu _ _ _ zh _ ?_;have:=(List.getElem?_eq_some_iff.mp e).1;exact aF (i+1) m8 be zh (by lia) (by lia)
theorem WE {bg:Option V→Prop}:∀{es:List (V×V)},eE es→(∀e∈es,bU 4 e.1=true)→(k,v)∈es→Ev (bg (E v))→Ev (lu k es bg):=fun {es}=>by
 induction es with
 |nil=>exact fun _ _ h=>nomatch h
 |cons e r aF=>
  intro hd aB h f6;refine b8 (List.pairwise_cons.mp hd) fun R Z=>?_;rcases List.mem_cons.mp h with e|h
  .cases e;exact cw (rO 4 k (aB _ List.mem_cons_self)) f6
  .exact eb (R _ h) (aF Z (fun e he=>aB e (List.mem_cons_of_mem _ he)) h f6)
theorem JZ {bg:Option V→Prop}(hd:eE es)(aB:∀e∈es,bU 4 e.1=true)(h:(k,v)∈es)(f6:Ev (bg (E v))):Ev (jK k es bg):=
 cw (aB _ h) (WE hd aB h f6)
def nT (es:List (V×V))(k:V):List (V×V):=es.filter fun e=> !bn 4 e.1 k
theorem Tz {bg:List (V×V)→Prop}:∀{es:List (V×V)},eE es→(∀e∈es,bU 4 e.1=true)→(k,v)∈es→Ev (bg (nT es k))→Ev (rq k es bg):=fun {es}=>by
 induction es generalizing bg with
 |nil=>exact fun _ _ h=>nomatch h
 |cons e r aF=>
  intro hd aB h f6;refine b8 (List.pairwise_cons.mp hd) fun R Z=>?_;have XG:∀e∈r,bU 4 e.1=true:=fun e he=>aB e (List.mem_cons_of_mem _ he);unfold nT at f6;rw[List.filter_cons] at f6;rcases List.mem_cons.mp h with e|h
  .cases e;have aW:=rO 4 k (aB _ List.mem_cons_self);rw[aW] at f6;refine cw aW ?_;have aJ:r.filter (fun e=> !bn 4 e.1 k)=r:=List.filter_eq_self.mpr fun e he=>by
    cases q:bn 4 e.1 k with
    |false=>rfl
    |true=>have:=wF 4 _ _ q;have b9:=R e he;simp only[this,aW] at b9;exact j9 b9
   rw[aJ] at f6;exact f6
  .have aW:=R _ h;rw[aW] at f6;exact eb aW (aF Z XG h f6)
theorem TC {bg:List (V×V)→Prop}(ar:es.length≤1000)(hd:eE es)(aB:∀e∈es,bU 4 e.1=true)(h:(k,v)∈es)(f6:Ev (bg (nT es k))):Ev (qb k es bg):=
 cw (by rw[fJ];exact⟨aB _ h,lY.mpr ar⟩) (Tz hd aB h f6)
def im:Nat:=a7 "network"
def jL:Nat:=a7 "transport"
noncomputable def e1 (h:Int):Nat:=(h% 16*4).toNat
def acg:List V:=[.str (a7 "data"),.str (a7 "link"),.str (a7 "kind"),.str (a7 "l4"),.str (a7 "off"),.str (a7 "place"),.str (a7 "meta")]
def aay:List V:=[.str (a7 "mark"),.str (a7 "priority"),.str (a7 "iif"),.str (a7 "oif"),.str (a7 "iifname"),.str (a7 "oifname"),.str (a7 "pkttype"),.str (a7 "iiftype"),.str (a7 "oiftype")]
noncomputable abbrev jc:ea:=.x (.int 0)
noncomputable abbrev q0:ea:=.x (.int 1)
noncomputable def ach (b:Nat):ea:=.cons (.x (.ref (b+2)))<|.cons (.x (.ref (b+3)))<|.cons .i<|.cons .i<|.cons .i<|.cons .i<|.cons (.x (.ref (b+4))) .nil
def aaz:ea:=.cons jc<|.cons jc<|.cons .i<|.cons .i<|.cons jc<|.cons jc<|.cons jc<|.cons q0<|.cons q0 .nil
def lO (b:Nat):List g8:=[.o (b+1),.d acg (ach b) 7,.a,.dw,.d aay aaz 9]
abbrev et:Type:=Unit×(Unit×Unit×Int×Int×Int×Int×Unit×Unit)×List Int×Unit×(Unit×Unit×Int×Int×Unit×Unit×Unit×Unit×Unit×Unit)×Unit
def et.on (x:et)(f:Int→Int→Int→Int→List Int→Int→Int→Prop):Prop:=match x with|(_,(_,_,T,U,N,ae,_,_),d,_,(_,_,i,o,_),_)=>f T U N ae d i o
noncomputable def et.kind (x:et):Int:=x.2.1.2.2.1
noncomputable def et.U (x:et):Int:=x.2.1.2.2.2.1
noncomputable def et.off (x:et):Int:=x.2.1.2.2.2.2.1
noncomputable def et.place (x:et):Int:=x.2.1.2.2.2.2.2.1
noncomputable def et.d (x:et):List Int:=x.2.2.1
noncomputable def et.i (x:et):Int:=x.2.2.2.2.1.2.2.1
noncomputable def et.o (x:et):Int:=x.2.2.2.2.1.2.2.2.1
def aax (i o:Int):List (V×V):=[(.str (a7 "mark"),.int 0),(.str (a7 "priority"),.int 0),(.str (a7 "iif"),.int i),(.str (a7 "oif"),.int o),(.str (a7 "iifname"),.int 0),(.str (a7 "oifname"),.int 0),(.str (a7 "pkttype"),.int 0),(.str (a7 "iiftype"),.int 1),(.str (a7 "oiftype"),.int 1)]
def acf (b:Nat)(T U N ae:Int):List (V×V):=[(.str (a7 "data"),.ref (b+2)),(.str (a7 "link"),.ref (b+3)),(.str (a7 "kind"),.int T),(.str (a7 "l4"),.int U),(.str (a7 "off"),.int N),(.str (a7 "place"),.int ae),(.str (a7 "meta"),.ref (b+4))]
def sV (b:Nat)(T U N ae:Int)(d:List Int)(i o:Int):List an:=[.inst (b+1),.dict (acf b T U N ae) 7,.cB d,.cB [],.dict (aax i o) 9]
def bZ:=sV 0
noncomputable abbrev k3:ea:=.x (.ref 0)
def fb:ea:=.cons k3 .nil
abbrev Cf:=Int→Int→Int→Int→List Int→Int→Int→bE→Prop
def QY (f:Cf)(_:fl fb)(x:hr (lO 0))(K:bE):Prop:=et.on x fun T U N ae d i o=>f T U N ae d i o K
def r2 (f:Cf):Spec:=gK fb (lO 0) (QY f)
theorem P9 {d:List Int}(h:pF (.cB d)):ee d:=h.1
theorem uj {f:Cf}(h:∀T U N ae d i o K,ee d→Ev (f T U N ae d i o K)→Ev (cR C aP bg [.ref 0] (bZ T U N ae d i o) (dY (bZ T U N ae d i o) K))):fF C aP (r2 f) bg:=mZ fun a x K fC fY bD=>
 aK (by kernel_rfl) (h (et.kind x) (et.U x) (et.off x) (et.place x) (et.d x) (et.i x) (et.o x) K (P9 (fC (.cB (et.d x)) (.tail _ (.tail _ (.head _))))) (aK (by kernel_rfl) bD))
def IT:List V:=[.str (a7 "most"),.str (a7 "seed"),.str (a7 "tries"),.str (a7 "table"),.str (a7 "talks"),.str (a7 "last"),.str (a7 "trackers"),.str (a7 "expects"),.str (a7 "flows"),.str (a7 "is_loose")]
def Pr:List V:=[.str (a7 "number"),.str (a7 "original"),.str (a7 "reply"),.str (a7 "zone"),.str (a7 "until"),.str (a7 "since"),.str (a7 "mark"),.str (a7 "status"),.str (a7 "state"),.str (a7 "sides"),.str (a7 "master")]
noncomputable abbrev hH (n:Nat):ea:=.x (.ref n)
def Sn (b:Nat):ea:=.cons (.x (.int 4))<|.cons jc<|.cons (.x (.int 128))<|.cons (hH (b+2))<|.cons (hH (b+3))<|.cons jc<|.cons (hH (b+8))<|.cons (hH (b+9))<|.cons (hH (b+10))<|.cons (.x (.bool true)) .nil
def F2:ea:=.t (.cons .i<|.cons .i<|.cons .i<|.cons .i<|.cons .i<|.cons .i .nil)
def Ps (n:Int):ea:=.cons (.x (.int n))<|.cons F2<|.cons F2<|.cons jc<|.cons .i<|.cons jc<|.cons jc<|.cons .i<|.cons .i<|.cons (.x .none)<|.cons jc .nil
def p3 (b:Nat):List g8:=[.o (b+1),.d IT (Sn b) 10,.d [] .nil 0,.d [.int 1,.int 2] (.cons (hH (b+4)) (.cons (hH (b+6)) .nil)) 2,.o (b+5),.d Pr (Ps 1) 11,.o (b+7),.d Pr (Ps 2) 11,.d [] .nil 0,.jc,.e]
abbrev ej:Type:=Int×Int×Int×Int×Int×Int×Unit
variable {dL d3 dw a3:ej}
abbrev c7:Type:=Unit×ej×ej×Unit×Int×Unit×Unit×Int×Int×Unit×Unit×Unit
variable {gL gM:c7}
abbrev er:Type:=Unit×(Unit×Unit×Unit×Unit×Unit×Unit×Unit×Unit×Unit×Unit×Unit)×Unit×(Unit×Unit×Unit)×Unit×c7×Unit×c7×Unit×Unit×(List (V×V)×Nat)×Unit
variable {cC:er}
def er.on (x:er)(f:c7→c7→List (V×V)→Nat→Prop):Prop:=match x with|(_,_,_,_,_,t1,_,aa,_,_,(aH,n),_)=>f t1 aa aH n
noncomputable def er.t1 (x:er):c7:=x.2.2.2.2.2.1
noncomputable def er.aa (x:er):c7:=x.2.2.2.2.2.2.2.1
noncomputable def er.aH (x:er):List (V×V):=x.2.2.2.2.2.2.2.2.2.2.1.1
noncomputable def er.fn (x:er):Nat:=x.2.2.2.2.2.2.2.2.2.2.1.2
def wO (o r:ej)(u st afz:Int):c7:=((),o,r,(),u,(),(),st,afz,(),(),())
def bu (t1 aa:c7)(aH:List (V×V))(n:Nat):er:=((),((),(),(),(),(),(),(),(),(),(),()),(),((),(),()),(),t1,(),aa,(),(),(aH,n),())
noncomputable def c7.r3 (x:c7):ej:=x.2.1
noncomputable def c7.rep (x:c7):ej:=x.2.2.1
noncomputable def c7.kM (x:c7):Int:=x.2.2.2.2.1
noncomputable def c7.cL (x:c7):Int:=x.2.2.2.2.2.2.2.1
noncomputable def c7.state (x:c7):Int:=x.2.2.2.2.2.2.2.2.1
noncomputable def uz (t:ej):V:=.tup [.int t.1,.int t.2.1,.int t.2.2.1,.int t.2.2.2.1,.int t.2.2.2.2.1,.int t.2.2.2.2.2.1]
def dB (b:Nat)(x:er):List an:=jk (p3 b) x
def kb:ea:=.t (.cons .i (.cons .i (.cons .i .nil)))
noncomputable def Yy:V→Bool
 |.tup _=>true
 |_=>false
def NN (e:V×V):Bool:=Yy e.1&&(qH kb e.2).isSome
def pk (es:List (V×V)):Bool:=es.all NN
noncomputable def qL:V→Int
 |.tup [.int n,_,_]=>n
 |_=>0
def vY (es:List (V×V))(n:Int):Bool:=es.any fun e=>decide (qL e.2=n)
def hM (es:List (V×V))(n:Int):List (V×V):=es.filter fun e=> !decide (qL e.2=n)
theorem Au {e:V×V}(h:NN e=true):∃aD a b c,e=(.tup aD,.tup [.int a,.int b,.int c]):=by
 obtain⟨k,v⟩:=e;refine b5 h fun R Z=>dq (sJ.mp Z) fun x aR=>?_;rw[(tZ kb).1 v x aR]
 induction k using V.casesOn with
 |tup aD=>exact⟨aD,x.1,x.2.1,x.2.2.1,rfl⟩
 |_=>exact dZ R
def xa:List V:=[.str (a7 "packet"),.str (a7 "now"),.str (a7 "hook"),.str (a7 "talk"),.str (a7 "state"),.str (a7 "is_reply"),.str (a7 "talks"),.str (a7 "sets"),.str (a7 "objects"),.str (a7 "fields"),.str (a7 "readers"),.str (a7 "doers"),.str (a7 "ops"),.str (a7 "tools"),.str (a7 "order"),.str (a7 "log"),.str (a7 "replies"),.str (a7 "steps"),.str (a7 "homes")]
def adP (p:Nat)(di F9:ea)(c:Nat):ea:=.cons (hH p)<|.cons .i<|.cons (.x (.str (a7 "input")))<|.cons di<|.cons .i<|.cons .i<|.cons F9<|.cons (hH c)<|.cons (hH (c+1))<|.cons (hH (c+2))<|.cons (hH (c+3))<|.cons (hH (c+4))<|.cons (hH (c+5))<|.cons (hH (c+6))<|
 .cons (.x (.str (a7 "little")))<|.cons (hH (c+7))<|.cons (hH (c+8))<|.cons (.x .none)<|.cons (hH (c+9)) .nil
def qd:g8:=.d [] .nil 0
def adQ:List g8:=[qd,qd,qd,qd,qd,qd,qd,.jc,.jc,qd]
def adR (p:Nat)(au:Int)(di:V)(c9 isr:Int)(F9:V)(c:Nat):List V:=[.ref p,.int au,.str (a7 "input"),di,.int c9,.int isr,F9,.ref c,.ref (c+1),.ref (c+2),.ref (c+3),.ref (c+4),.ref (c+5),.ref (c+6),.str (a7 "little"),.ref (c+7),.ref (c+8),.none,.ref (c+9)]
noncomputable def afY:List an:=[.dict [] 0,.dict [] 0,.dict [] 0,.dict [] 0,.dict [] 0,.dict [] 0,.dict [] 0,.ints [],.ints [],.dict [] 0]
def fG (au c9 isr T U N ae:Int)(d:List Int)(i o:Int)(cC:er):List an:=
 [.inst 1,.dict (oD xa (adR 2 au .none c9 isr (.ref 7) 18)) 19]++(sV 2 T U N ae d i o++(dB 7 cC++afY))
def Pw:List g8:=[.o 1,.d xa (adP 2 (.x .none) (hH 7) 18) 19]++(lO 2++(p3 7++adQ))
def val (n d o:Int):V:=.tup [.int n,.int d,.int o]
def bW (ak f1:Bool)(bw ba bL bS:List V):List (V×V):=match ak with
 |true=>(match f1 with
  |true=>[(.tup bw,val 1 0 2),(.tup ba,val 1 1 1),(.tup bL,val 2 0 2),(.tup bS,val 2 1 1)]
  |false=>[(.tup bw,val 1 0 2),(.tup ba,val 1 1 1)])
 |false=>(match f1 with
  |true=>[(.tup bL,val 2 0 2),(.tup bS,val 2 1 1)]
  |false=>[])
def isVal (n d o:Int)(v:V):Bool:=(qH kb v).any fun(x:Int×Int×Int×Unit)=>decide (x.1=n)&&(decide (x.2.1=d)&&decide (x.2.2.1=o))
def ur:List (V×V)→Bool
 | []=>true
 | [(.tup _,a),(.tup _,b)]=>isVal 1 0 2 a&&isVal 1 1 1 b||isVal 2 0 2 a&&isVal 2 1 1 b
 | [(.tup _,a),(.tup _,b),(.tup _,c),(.tup _,d)]=>isVal 1 0 2 a&&(isVal 1 1 1 b&&(isVal 2 0 2 c&&isVal 2 1 1 d))
 |_=>false
theorem qt {n d o:Int}(h:isVal n d o v=true):v=val n d o:=by
 unfold isVal at h;cases e:qH kb v with
 |none=>rw[e] at h;exact dZ h
 |some x=>rw[e] at h;refine b5 h fun R h=>b5 h fun Z bv=>?_;rw[(tZ kb).1 v x e];refine(?_:val x.1 x.2.1 x.2.2.1=_);rw[of_decide_eq_true R,of_decide_eq_true Z,of_decide_eq_true bv]
theorem OS (h:ur es=true):∃ak f1 bw ba bL bS,es=bW ak f1 bw ba bL bS:=by
 induction es using List.casesOn with
 |nil=>exact⟨false,false,[],[],[],[],rfl⟩
 |cons e r=>induction e using Bz with|mk k a=>induction k using V.casesOn with
  |tup bw=>induction r using List.casesOn with
   |nil=>exact kn h
   |cons e r=>induction e using Bz with|mk k b=>induction k using V.casesOn with
    |tup ba=>induction r using List.casesOn with
     |nil=>
      rcases xJ.mp h with h|h
      .have h:=gD.mp h;rw[qt h.1,qt h.2];exact⟨true,false,bw,ba,[],[],rfl⟩
      .have h:=gD.mp h;rw[qt h.1,qt h.2];exact⟨false,true,[],[],bw,ba,rfl⟩
     |cons e r=>induction e using Bz with|mk k c=>induction k using V.casesOn with
      |tup bL=>induction r using List.casesOn with
       |nil=>exact kn h
       |cons e r=>induction e using Bz with|mk k d=>induction k using V.casesOn with
        |tup bS=>induction r using List.casesOn with
         |nil=>have R:=gD.mp h;have Z:=gD.mp R.2;have bv:=gD.mp Z.2;rw[qt R.1,qt Z.1,qt bv.1,qt bv.2];exact⟨true,true,bw,ba,bL,bS,rfl⟩
         |cons=>exact kn h
        |_=>exact kn h
      |_=>exact kn h
    |_=>exact kn h
  |_=>exact kn h
def AT:Spec:=fun vs H K=>match H with
 | []=>gK (.cons .y .nil) [] (fun a _ K=>ao (de a.1.length 20) (K (.int (cP a.1)) []) False) vs [] K
 |o::r=>gK (.cons (.x (.ref 0)) .nil) [.a] (fun _ b K=>ao (de b.1.length 20) (K (.int (cP b.1)) [.cB b.1]) False) vs (o::r) K
theorem NB (l:List Int)(x:Int):cP (l++[x])=cP l*256+x:=by unfold cP;rw[List.foldl_append];rfl
theorem JT:∀{l:List Int} {n:Int},0≤n→ee l→0≤l.foldl (fun n o=>n*256+o) n∧l.foldl (fun n o=>n*256+o) n<(n+1)*256^l.length
 | [],n,h,_=>⟨h,by simp only[List.foldl_nil,List.length_nil,Bs];lia⟩
 |x::l,n,h,az=>by have aR:=az x List.mem_cons_self;refine b8 (JT (l:=l) (n:=n*256+x) (by lia) fun y cu=>az y (List.mem_cons_of_mem _ cu)) fun R Z=>?_;refine⟨R,Int.lt_of_lt_of_le Z ?_⟩;rw[List.length_cons,uX,xQ (256^l.length) 256,←GG];exact Int.mul_le_mul_of_nonneg_right (by lia) (Int.pow_nonneg (by decide))
theorem NA {l:List Int}(h:ee l):0≤cP l∧cP l<256^l.length:=by have:=JT (uW 0) h;rwa [Bt,Int.one_mul] at this
theorem ac4:fF C aP AT HN:=fun vs H K fC fY h=>.inl<|by
 have key:∀(cX:V) (H0:List an) (b:List Int),ee b→b.length≤20→kH (fun l=>dT l H0.length) cX=true→(H0.take H0.length).all (hR fun l=>dT l H0.length)=true→H0.take H0.length=H0→(∀P:List V→Prop,P (b.map V.int)→hk cX (b.map V.int) H0 H0 P)→
  K (.int (cP b)) H0→iy H0.length (fun v loc H K=>b4 C aP (.cons (.asg 1 (.bin .BitOr (.bin .LShift (.loc 1) (.int 8)) (.loc 2))) .nil) (loc.set 2 v) H K) (hk cX (b.map V.int) H0) ((b.map V.int).length+1) 0 (b.map V.int) [cX,.int 0,.aQ] H0
   (gi (b4 C aP (.cons (.ret (.loc 1)) .nil)) (e2 K)):=fun cX H0 b az ar abz abB di hu aB=>by
  refine De (fun i loc=>∃x,(x=V.aQ∨∃y,x=V.int y)∧loc=[cX,V.int (cP (b.take i)),x]) ?step ?gY hu ?fin _ 0 _ ⟨V.aQ,.inl rfl,rfl⟩ (jz _) (jy _)
  case step=>
   rintro i v loc e ⟨x,aR,rfl⟩ hs m7;rw[List.getElem?_map] at e;refine eB e fun y me=>?_;have ec:=(List.getElem?_eq_some_iff.mp me).1;have cu:=az y (List.mem_of_getElem? me);refine b8 (NA (l:=b.take i) fun z hz=>az z (List.mem_of_mem_take hz)) fun ahk rV=>?_;have aJ:cP (b.take (i+1))=cP (b.take i)*256+y:=by rw[List.take_add_one,me];exact NB _ _
   have j6:(b.take i).length≤20:=e4 (List.length_take_le _ _) (by lia);have ahh:(256:Int)^(b.take i).length≤256^20:=by exact_mod_cast Nat.pow_le_pow_right (by decide) j6
   refine ki (B:=cY ((0:Int)≤8∧(8:Int)≤1000∧(cP (b.take i)).natAbs<2^256) (hs .next [cX,V.int (Builtin.bitOr (cP (b.take i)*2^(8:Int).toNat) y),V.int y] H0)) (by kernel_rfl) ?_;refine iV ⟨by decide,by decide,?_⟩ ?_
   .have:(256:Int)^20=2^160:=by decide
    lia
   .rw[EX cu.1 cu.2];refine m7 _ ⟨V.int y,.inr ⟨y,rfl⟩,?_⟩;rw[aJ]
  case gY=>
   rintro i loc ⟨x,aR,rfl⟩ P a8;unfold trunc;rw[abB,di];refine ki ?_ a8;have:kz H0.length cX=cX:=by unfold kz;rw[abz]
   rcases aR with rfl|⟨y,rfl⟩<;>(show P [kz H0.length cX,_,_] _=_;rw[this];rfl)
  case fin=>rintro loc ⟨x,aR,rfl⟩;refine(?_:K (.int (cP (b.take (b.map V.int).length))) H0);rw[List.length_map,List.take_length];exact aB
 unfold AT at h
 induction H using List.casesOn with
 |nil=>refine dD (pm h) fun a c g=>?_;obtain⟨b,u⟩:=a;obtain rfl:=g.1;exact j1 g.2.2 fun R Z=>ki (by kernel_rfl) (key (.bytes b) [] b (fY _ List.mem_cons_self).1 (d5 R) rfl rfl rfl (fun P a8=>a8) Z)
 |cons o r=>refine dD (pm h) fun a c g=>?_;obtain⟨b,u⟩:=c;obtain⟨rfl,rfl⟩:=List.cons.inj g.2.1;obtain rfl:=g.1;exact j1 g.2.2 fun R Z=>ki (by kernel_rfl) (key (.ref 0) [.cB b] b (fC _ List.mem_cons_self).1 (d5 R) rfl rfl rfl (fun P a8=>a8) Z)
def Ci (n s:Int)(K:bE):Prop:=ao (de s.toNat 20&&cb 0 s) (ao (cb 0 n&&decide (n<256^s.toNat)) (K (.bytes (bf n s.toNat)) []) False) False
def FM:Spec:=gK (.cons .i (.cons .i .nil)) [] fun a _ K=>Ci a.1 a.2.1 K
theorem Fa (s:Nat):eQ 0 (s:Int) 1=(List.range s).map fun(k:Nat)=>(k:Int):=by unfold eQ;rw[show(((s:Int)-0+1-1)/1).toNat=s by lia];exact List.map_congr_left fun k _=>by lia
theorem Yr (xs:List Int):lC (xs.map V.int)=E xs:=by
 induction xs with
 |nil=>rfl
 |cons x xs aF=>show(match lC (xs.map V.int) with|some is=>E (x::is)|none=>none)=_;rw[aF]
theorem aaD (xs:List Int):fs (xs.map V.int)=.ints xs:=by unfold fs;rw[Yr]
theorem i7 (n:Int)(s:Nat):ee (bf n s):=fun x aR=>by obtain⟨k,_,rfl⟩:=List.mem_map.mp aR;exact⟨xP _ (by decide),Bq _ (by decide)⟩
theorem iu (n:Int)(s:Nat):(bf n s).length=s:=by simp[bf]
theorem DY {b:List Int}(h:ee b):o7 b=true:=List.all_eq_true.mpr fun x aR=>by rw[fJ];exact⟨decide_eq_true (h x aR).1,decide_eq_true (h x aR).2⟩
theorem Ob (j:Nat):(2:Int)^(8*j)=256^j:=by rw[Int.pow_mul];rfl
theorem abu {n s:Int}(h:Ci n s K):cR C aP BY [.int n,.int s] [] (dY [] K):=by
 unfold Ci at h;obtain⟨R,h⟩:=fM h;obtain⟨Z,h⟩:=fM h;rw[fJ,i1,decide_eq_true_iff] at R Z;obtain⟨R,bv⟩:=R;obtain⟨Z,cZ⟩:=Z;rw[decide_eq_true_iff] at cZ;obtain⟨s,rfl⟩:=jV bv;rw[pG] at R cZ h;have R:=d5 R;have comp:∀(B7:List V→List an→Prop),B7 ((bf n s).map V.int) []→
  j3 (fun v H k=>iP C aP ([V.int n,V.int s]++[v]) (.bool true) (cG C aP ([V.int n,V.int s]++[v]) (.bool true)) H fun b be=>ao b (cG C aP ([V.int n,V.int s]++[v]) (.bin .BitAnd (.bin .RShift (.loc 0) (.bin .Mult (.int 8) (.bin .Sub (.bin .Sub (.loc 1) (.int 1)) (.loc 2)))) (.int 255)) be fun r ei=>k (E r) ei) (k dn be))
   (hk .none ((eQ 0 s 1).map V.int) []) (((eQ 0 s 1).map V.int).length+1) 0 ((eQ 0 s 1).map V.int) [] [] B7:=fun B7 aB=>by
  refine Ti (fun v=>match v with|.int k=>.int (Builtin.bitAnd (n/2^(8*(s-1-k)).toNat) 255)|v=>v) (fun v cp k aB=>?_) (fun P a8=>a8) ?_ _ 0 (jz _) (jy _)
  .rw[Fa,List.map_map] at cp;obtain⟨j,co,rfl⟩:=List.mem_map.mp cp;have co:=List.mem_range.mp co;refine ki (B:=cY ((s-1-(j:Int):Int).natAbs<2^64∨(8:Int).natAbs<2^64) (cY (0≤8*(s-1-(j:Int))) (k (E (.int (Builtin.bitAnd (n/2^(8*(s-1-(j:Int))).toNat) 255))) []))) (by kernel_rfl) ?_;exact iV (.inr (by decide)) (iV (by lia) aB)
  .refine ki ?_ aB;congr 1;rw[Fa,List.map_map,List.map_map];refine(?_:_=(bf n s).map V.int);unfold bf;rw[List.map_map];refine List.map_congr_left fun j co=>?_;have co:=List.mem_range.mp co;refine(?_:V.int _=V.int _);rw[bitAnd_m8,show(8*((s:Int)-1-((j:Nat):Int))).toNat=8*(s-1-j) by lia,Ob]
 have hz:n/2^((8:Int)*s).toNat=0:=by rw[show((8:Int)*s).toNat=8*s by lia,Ob];exact Qo Z cZ
 refine ki (B:=ao (ltI n 0) False (cY ((s:Int).natAbs<2^64∨(8:Int).natAbs<2^64) (cY (0≤8*(s:Int)) (ao (!(decide (n/2^((8:Int)*s).toNat=0))) False
  (ao (my 0 s 1) (cY (((eQ 0 s 1).map V.int).length≤1000000)
   (j3 (fun v H k=>iP C aP ([V.int n,V.int s]++[v]) (.bool true) (cG C aP ([V.int n,V.int s]++[v]) (.bool true)) H fun b be=>ao b (cG C aP ([V.int n,V.int s]++[v]) (.bin .BitAnd (.bin .RShift (.loc 0) (.bin .Mult (.int 8) (.bin .Sub (.bin .Sub (.loc 1) (.int 1)) (.loc 2)))) (.int 255)) be fun r ei=>k (E r) ei) (k dn be))
    (hk .none ((eQ 0 s 1).map V.int) []) (((eQ 0 s 1).map V.int).length+1) 0 ((eQ 0 s 1).map V.int) [] [] (fun b7 be=>vx (.ref be.length) (be++[fs b7]) fun r=>dY [] K r (be++[fs b7])))) False))))) (by kernel_rfl) ?_
 have WS:(0:Int)≤8*(s:Int):=by lia
 have ahi:(s:Int)≤20:=by lia
 have am:my 0 s 1=true:=by simp only[my,jr,fJ,decide_eq_true_eq];lia
 have ar:((eQ 0 s 1).map V.int).length≤1000000:=by rw[Fa,List.length_map,List.length_map,List.length_range];lia
 have ZS:ltI n 0=false:=by rw[jr,decide_eq_false_iff_not];lia
 refine p5 ZS ?_;refine iV (.inr (by decide)) ?_;refine iV WS ?_;have a9:(!(decide (n/2^((8:Int)*s).toNat=0)))=false:=by rw[decide_eq_true hz];rfl
 refine p5 a9 ?_;refine jJ am ?_;refine iV ar ?_;refine comp _ ?_;refine ki (B:=vx (.ref 0) [fs ((bf n s).map V.int)] fun r=>dY [] K r [fs ((bf n s).map V.int)]) rfl ?_;rw[aaD];refine ki (B:=ao (o7 (bf n s)) (cY ((bf n s).length≤1000000) (K (.bytes (bf n s)) [])) False) (by kernel_rfl) ?_;rw[DY (i7 n s)];exact iV (by rw[iu];lia) h
theorem ac5:fF C aP FM BY:=ab3 fun a b K fC fY h=>abu h
def ch (b:List Int)(i j:Nat):List Int:=(b.take j).drop i
def Il (t:Int)(K:bE):Prop:=ao (cb 0 t&&ltI t 4294967296) (K (.int (foldI t)) []) False
def FA:Spec:=gK (.cons .i .nil) [] fun a _ K=>Il a.1 K
def Im (c:Int)(o n:List Int)(K:bE):Prop:=ao (c1 o.length n.length&&(c1 (o.length% 2) 0&&de o.length 40)) (ao (cb 0 c&&cb c 65535) (K (.int (js c o n)) []) False) False
def FK:Spec:=gK (.cons .i (.cons .y (.cons .y .nil))) [] fun a _ K=>Im a.1 a.2.1 a.2.2.1 K
def Io (b:List Int)(f e:Int)(H:List an)(K:bE):Prop:=ao (cb 0 f&&(cb f e&&(cb e b.length&&ltI e 65536))) (K (.bytes (ch b f.toNat e.toNat)) H) False
def AU:Spec:=fun vs H K=>match H with
 | []=>gK (.cons .y (.cons .i (.cons .i .nil))) [] (fun a _ K=>Io a.1 a.2.1 a.2.2.1 [] K) vs [] K
 |o::r=>gK (.cons (.x (.ref 0)) (.cons .i (.cons .i .nil))) [.a] (fun a b K=>Io b.1 a.2.1 a.2.2.1 [.cB b.1] K) vs (o::r) K
noncomputable def EC:Int→Option Nat
 |.ofNat n=>E n
 |.negSucc _=>none
def bk (v:V):Option (Nat×Nat):=(qH (.t (.cons .i (.cons .i .nil))) v).bind fun a=>both (EC a.1) (EC a.2.1)
def stN:List V→Option (List (Nat×Nat))
 | []=>E []
 |v::r=>(bk v).bind fun p=>(stN r).map fun ps=>p::ps
def k7 (d0 dP:List Int)(c:Int)(p:Nat×Nat):Int:=match dT p.1 p.2 with
 |true=>js c (ch d0 p.1 p.2) (ch dP p.1 p.2)
 |false=>c
def putL (d:List Int)(i:Nat)(o:List Int):List Int:=d.take i++o++d.drop (i+o.length)
noncomputable def jl (u:Bool)(c:Int):Int:=match u with|true=>(match decide (c=0) with|true=>65535|false=>c)|false=>c
noncomputable def ms (b:Bool):List Int→List Int→List Int
 |x::xs,y::ys=>(match b with|true=>x|false=>y)::ms b xs ys
 |xs,ys=>match b with|true=>xs|false=>ys
def Ep (u:Bool)(d0 dP:List Int)(pl:Nat)(st:List (Nat×Nat)):List Int:=match u with
 |true=>ms (decide (cP (ch d0 pl (pl+2))=0)) dP (putL dP pl (bf (jl true (st.foldl (k7 d0 dP) (cP (ch d0 pl (pl+2))))) 2))
 |false=>putL dP pl (bf (st.foldl (k7 d0 dP) (cP (ch d0 pl (pl+2)))) 2)
noncomputable def AY (n m:Nat)(st:List (Nat×Nat)):Bool:=st.all fun p=>de p.2 n&&(de p.2 m&&(c1 ((p.2-p.1)% 2) 0&&(de (p.2-p.1) 40&&dT p.2 65536)))
def ML:ea:=.cons k3<|.cons .y<|.cons .i<|.cons (.x (.ref 5))<|.cons .b .nil
def Ae (d0:List Int)(pl:Nat)(u:Bool)(T U N ae:Int)(d:List Int)(i o:Int)(dk:List V)(K:bE):Prop:=match stN dk with
 |some st=>ao (AY d0.length d.length st&&(de (pl+2) d0.length&&(de (pl+2) d.length&&dT pl 65000))) (K .none (bZ T U N ae (Ep u d0 d pl st) i o++[.list dk])) False
 |dn=>False
def QW (a:fl ML)(b:hr (lO 0++[g8.w]))(K:bE):Prop:=match a,b with
 |(_,d0,pl,_,u,_),(_,(_,_,T,U,N,ae,_,_),d,_,(_,_,i,o,_),dk,_)=>(match pl with
  |.ofNat pl=>Ae d0 pl u T U N ae d i o dk K
  |_=>False)
def FL:Spec:=gK ML (lO 0++[g8.w]) QW
noncomputable def MW (a b:Nat):Nat:=match de a b with|true=>a|false=>b
noncomputable def MQ (a b:Nat):Nat:=match de a b with|true=>b|false=>a
def yT (b e lo hi:Nat):Nat×Nat:=match de (MW e hi) (MQ b lo) with
 |true=>(0,0)
 |false=>(MQ b lo/2*2,(MW e hi+1)/2*2)
noncomputable def acP (b e n p:Nat):Bool:=de (p+2) n&&(de e p||de (p+2) b)
def afI (T U N:Int)(qq n b e:Nat):List (Nat×List (Nat×Nat)×Bool):=
 ((match decide (T=2048) with|true=>[(10,[yT b e 0 qq],false)]|false=>[])++
  (match ltI N 0 with|true=>[]|false=>[(N.toNat+(match decide (U=6) with|true=>16|false=>6),[yT b e N.toNat n,(match decide (T=2048) with|true=>yT b e 12 20|false=>yT b e 8 40)],decide (U=17))])).filter fun r=>acP b e n r.1
def jH (gY:Bool)(N at_:Int):Nat:=match gY with|true=>(N+at_).toNat|false=>at_.toNat
def dA (T U N:Int)(qq:Nat)(gY:Bool)(at_:Int)(o d:List Int):List Int:=
 (afI T U N qq d.length (jH gY N at_) (jH gY N at_+o.length)).foldl (fun dP r=>Ep r.2.2 d dP r.1 r.2.1) (putL d (jH gY N at_) o)
structure sZ where
 kind:Int
 U:Int
 off:Int
 h:Int
 gY:Bool
 pos:Int
 n:Nat
 len:Nat
 ex:Bool
def abE (T U N:Int)(b:Nat)(pos:Int)(n:Nat)(d:List Int)(s:sZ):Bool:=
 decide (T=s.kind)&&(decide (U=s.U)&&(decide (N=s.off)&&(c1 b (match s.gY with|true=>jL|false=>im)&&(decide (pos=s.pos)&&(c1 n s.n&&((match s.ex with|true=>c1 d.length s.len|false=>de s.len d.length)&&decide (d.getD 0 0=s.h)))))))
noncomputable def shapes:List sZ:=[⟨2048,6,20,69,false,12,4,38,false⟩,⟨2048,6,20,69,false,12,4,32,true⟩,⟨2048,17,20,69,false,12,4,28,false⟩,⟨2048,17,20,69,false,12,4,26,true⟩,⟨2048,6,20,69,false,16,4,38,false⟩,⟨2048,6,20,69,false,16,4,32,true⟩,⟨2048,17,20,69,false,16,4,28,false⟩,⟨2048,17,20,69,false,16,4,26,true⟩,⟨2048,6,20,69,false,8,1,38,false⟩,⟨2048,6,20,69,false,8,1,32,true⟩,⟨2048,17,20,69,false,8,1,28,false⟩,⟨2048,17,20,69,false,8,1,26,true⟩,⟨2048,6,20,69,true,0,2,38,false⟩,⟨2048,6,20,69,true,0,2,32,true⟩,⟨2048,17,20,69,true,0,2,28,false⟩,⟨2048,17,20,69,true,0,2,26,true⟩,⟨2048,6,20,69,true,2,2,38,false⟩,⟨2048,6,20,69,true,2,2,32,true⟩,⟨2048,17,20,69,true,2,2,28,false⟩,⟨2048,17,20,69,true,2,2,26,true⟩,⟨2048,6,24,70,false,12,4,42,false⟩,⟨2048,6,24,70,false,12,4,36,true⟩,⟨2048,17,24,70,false,12,4,32,false⟩,⟨2048,17,24,70,false,12,4,30,true⟩,⟨2048,6,24,70,false,16,4,42,false⟩,⟨2048,6,24,70,false,16,4,36,true⟩,⟨2048,17,24,70,false,16,4,32,false⟩,⟨2048,17,24,70,false,16,4,30,true⟩,⟨2048,6,24,70,false,8,1,42,false⟩,⟨2048,6,24,70,false,8,1,36,true⟩,⟨2048,17,24,70,false,8,1,32,false⟩,⟨2048,17,24,70,false,8,1,30,true⟩,⟨2048,6,24,70,true,0,2,42,false⟩,⟨2048,6,24,70,true,0,2,36,true⟩,⟨2048,17,24,70,true,0,2,32,false⟩,⟨2048,17,24,70,true,0,2,30,true⟩,⟨2048,6,24,70,true,2,2,42,false⟩,⟨2048,6,24,70,true,2,2,36,true⟩,⟨2048,17,24,70,true,2,2,32,false⟩,⟨2048,17,24,70,true,2,2,30,true⟩,⟨2048,6,-1,69,false,12,4,20,false⟩,⟨2048,17,-1,69,false,12,4,20,false⟩,⟨2048,6,-1,69,false,16,4,20,false⟩,⟨2048,17,-1,69,false,16,4,20,false⟩,⟨2048,6,-1,69,false,8,1,20,false⟩,⟨2048,17,-1,69,false,8,1,20,false⟩,⟨2048,6,-1,70,false,12,4,24,false⟩,⟨2048,17,-1,70,false,12,4,24,false⟩,⟨2048,6,-1,70,false,16,4,24,false⟩,⟨2048,17,-1,70,false,16,4,24,false⟩,⟨2048,6,-1,70,false,8,1,24,false⟩,⟨2048,17,-1,70,false,8,1,24,false⟩,⟨34525,6,40,96,false,8,16,58,false⟩,⟨34525,6,40,96,false,8,16,52,true⟩,⟨34525,17,40,96,false,8,16,48,false⟩,⟨34525,17,40,96,false,8,16,46,true⟩,⟨34525,6,40,96,false,24,16,58,false⟩,⟨34525,6,40,96,false,24,16,52,true⟩,⟨34525,17,40,96,false,24,16,48,false⟩,⟨34525,17,40,96,false,24,16,46,true⟩,⟨34525,6,40,96,false,7,1,58,false⟩,⟨34525,6,40,96,false,7,1,52,true⟩,⟨34525,17,40,96,false,7,1,48,false⟩,⟨34525,17,40,96,false,7,1,46,true⟩,⟨34525,6,40,96,true,0,2,58,false⟩,⟨34525,6,40,96,true,0,2,52,true⟩,⟨34525,17,40,96,true,0,2,48,false⟩,⟨34525,17,40,96,true,0,2,46,true⟩,⟨34525,6,40,96,true,2,2,58,false⟩,⟨34525,6,40,96,true,2,2,52,true⟩,⟨34525,17,40,96,true,2,2,48,false⟩,⟨34525,17,40,96,true,2,2,46,true⟩,⟨34525,6,48,96,false,8,16,66,false⟩,⟨34525,6,48,96,false,8,16,60,true⟩,⟨34525,17,48,96,false,8,16,56,false⟩,⟨34525,17,48,96,false,8,16,54,true⟩,⟨34525,6,48,96,false,24,16,66,false⟩,⟨34525,6,48,96,false,24,16,60,true⟩,⟨34525,17,48,96,false,24,16,56,false⟩,⟨34525,17,48,96,false,24,16,54,true⟩,⟨34525,6,48,96,false,7,1,66,false⟩,⟨34525,6,48,96,false,7,1,60,true⟩,⟨34525,17,48,96,false,7,1,56,false⟩,⟨34525,17,48,96,false,7,1,54,true⟩,⟨34525,6,48,96,true,0,2,66,false⟩,⟨34525,6,48,96,true,0,2,60,true⟩,⟨34525,17,48,96,true,0,2,56,false⟩,⟨34525,17,48,96,true,0,2,54,true⟩,⟨34525,6,48,96,true,2,2,66,false⟩,⟨34525,6,48,96,true,2,2,60,true⟩,⟨34525,17,48,96,true,2,2,56,false⟩,⟨34525,17,48,96,true,2,2,54,true⟩]
def gg (T U N:Int)(b:Nat)(pos:Int)(n:Nat)(d:List Int):Bool:=shapes.any (abE T U N b pos n d)
def AS:ea:=.cons k3<|.cons .s<|.cons .i<|.cons .y .nil
def ON (b:Nat)(pos:Int)(o:List Int)(T U N ae:Int)(d:List Int)(i o':Int)(K:bE):Prop:=
 ao (gg T U N b pos o.length d) (K .none (bZ T U N ae (dA T U N (e1 (d.getD 0 0)) (c1 b jL) pos o d) i o')) False
def Q1 (a:fl AS)(b:hr (lO 0))(K:bE):Prop:=match a,b with
 |(_,b,pos,o,_),(_,(_,_,T,U,N,ae,_,_),d,_,(_,_,i,o',_),_)=>ON b pos o T U N ae d i o' K
def FR:Spec:=gK AS (lO 0) Q1
def uh (T U N:Int)(qq:Nat)(gY:Bool)(pos:Int)(o d:List Int):List Int:=ms (decide (ch d (jH gY N pos) (jH gY N pos+o.length)=o)) d (dA T U N qq gY pos o d)
def putK (b:Nat)(pos:Int)(o:List Int)(T U N ae:Int)(d:List Int)(i o':Int)(K:bE):Prop:=
 ao (c1 b jL&&decide (N= -1)) (K .none (bZ T U N ae d i o')) (ao (gg T U N b pos o.length d) (K .none (bZ T U N ae (uh T U N (e1 (d.getD 0 0)) (c1 b jL) pos o d) i o')) False)
def QZ (a:fl AS)(b:hr (lO 0))(K:bE):Prop:=match a,b with
 |(_,b,pos,o,_),(_,(_,_,T,U,N,ae,_,_),d,_,(_,_,i,o',_),_)=>putK b pos o T U N ae d i o' K
def FP:Spec:=gK AS (lO 0) QZ
def ot (d:List Int)(i:Int):List Int:=ch d i.toNat (i+2).toNat
def hc (T:Int)(d:List Int)(n m:Nat):Bool:=(decide (T=2048)&&de n d.length)||(decide (T=34525)&&de m d.length)
def nr (T:Int):Nat:=match decide (T=2048) with|true=>8|false=>7
def i9 (T:Int)(d:List Int):Int:=d.getD (nr T) 0
def PJ (T U N ae:Int)(d:List Int)(i o:Int)(K:bE):Prop:=ao (hc T d 9 8) (K (.int (i9 T d)) (bZ T U N ae d i o)) False
def FS:Spec:=r2 PJ
def uf (T N:Int)(d:List Int):Bool:=match decide (T=2048) with|true=>decide (N=20)&&decide (Builtin.bitAnd (cP (ch d 6 8)) 16383=0)|false=>decide (N=40)
def N7 (T U N ae:Int)(d:List Int)(i o:Int)(K:bE):Prop:=ao (hc T d 8 0) (K (.bool (uf T N d)) (bZ T U N ae d i o)) False
def FF:Spec:=r2 N7
def gd (N:Int)(d:List Int):Int:=match ltI d.length (N+13+1) with|true=> -1|false=>d.getD (N.toNat+13) 0
def Wc (T U N ae:Int)(d:List Int)(i o:Int)(K:bE):Prop:=
 ao (cb 0 N&&ltI N 1000) (K (.int (gd N d)) (bZ T U N ae d i o)) False
def Fz:Spec:=r2 Wc
def abi (T:Int):Int:=match decide (T=2048) with|true=>2|false=>10
def yE (T:Int)(d:List Int):List Int:=match decide (T=2048) with|true=>ch d 12 16|false=>ch d 8 24
def yF (T:Int)(d:List Int):List Int:=match decide (T=2048) with|true=>ch d 16 20|false=>ch d 24 40
def tupI (T U N:Int)(d:List Int):List V:=[.int (abi T),.int U,.int (cP (yE T d)),.int (cP (ot d N)),.int (cP (yF T d)),.int (cP (ot d (N+2)))]
def agv (T U N ae:Int)(d:List Int)(i o:Int)(K:bE):Prop:=
 ao ((decide (U=6)||decide (U=17))&&(decide (T=2048)||decide (T=34525))) (ao (ltI N 0) (K .none (bZ T U N ae d i o)) (ao (cb (N+4) d.length&&ltI N 1000)
  (K (.tup (tupI T U N d)) (bZ T U N ae d i o)) False)) False
def FT:Spec:=r2 agv
def VF (T U N ae:Int)(d:List Int)(i o:Int)(K:bE):Prop:=
 ao ((decide (U=6)||decide (U=17))&&(decide (T=2048)||decide (T=34525))) (K (.bool false) (bZ T U N ae d i o)) False
def FE:Spec:=r2 VF
def TU (T U N ae:Int)(d:List Int)(i o:Int)(K:bE):Prop:=
 ao (hc T d 9 8) (ao (cb (i9 T d) 1) (K (.bool false) (bZ T U N ae d i o)) (ao (gg T U N im (nr T) 1 d) (K (.bool true) (bZ T U N ae (dA T U N (e1 (d.getD 0 0)) false (nr T) [i9 T d-1] d) i o)) False)) False
def Fx:Spec:=r2 TU
def rM:Nat:=a7 "src"
def tN:Nat:=a7 "dst"
def w8 (T:Int):Nat:=match decide (T=2048) with|true=>4|false=>16
def h7 (T:Int)(ag:Bool):Int:=match decide (T=2048) with
 |true=>(match ag with|true=>12|false=>16)
 |false=>(match ag with|true=>8|false=>24)
noncomputable def iO (ag:Bool):Int:=match ag with|true=>0|false=>2
def hE (T U N:Int)(ag:Bool)(a:Int)(d:List Int):List Int:=uh T U N (e1 (d.getD 0 0)) false (h7 T ag) (bf a (w8 T)) d
def kL (T U N:Int)(ag:Bool)(p:Int)(d:List Int):List Int:=match decide (N= -1) with
 |true=>d
 |false=>uh T U N (e1 (d.getD 0 0)) true (iO ag) (bf p 2) d
def sd (T U N:Int)(ag:Bool)(a p:Int)(d:List Int):Bool:=
 (cb 0 a&&decide (a<256^w8 T))&&((cb 0 p&&decide (p<256^2))&&(gg T U N im (h7 T ag) (w8 T) d&&(decide (N= -1)||gg T U N jL (iO ag) 2 (hE T U N ag a d))))
def ul (T U N ae:Int)(d:List Int)(i o nf pr:Int)(ag:Bool)(a p:Int)(K:bE):Prop:=
 ao ((decide (T=2048)&&decide (nf=2)||decide (T=34525)&&decide (nf=10))&&(decide (pr=U)&&(decide (U=6)||decide (U=17))))
  (ao (sd T U N ag a p d) (K .none (bZ T U N ae (kL T U N ag p (hE T U N ag a d)) i o)) False) False
def Ox:ea:=.cons k3<|.cons (.t (.cons .i<|.cons .i<|.cons .i<|.cons .i<|.cons .i<|.cons .i .nil))<|.cons .s .nil
def Q0 (a:fl Ox)(x:hr (lO 0))(K:bE):Prop:=match a with
 |(_,(nf,pr,sa,bF,da,dp,_),s,_)=>et.on x fun T U N ae d i o=>ao (c1 s rM) (ul T U N ae d i o nf pr true sa bF K) (ao (c1 s tN) (ul T U N ae d i o nf pr false da dp K) False)
def FQ:Spec:=gK Ox (lO 0) Q0
def k2 (d:List Int):Int:=Builtin.bitAnd (cP (ch d 6 8)) 8191*8
def oc (n:Int)(d:List Int):Int:=match decide (k2 d=0) with|true=>n|false=> -1
noncomputable def iA (x:Int):Bool:=decide (x=6)||decide (x=17)
def N9:ea:=.cons .y<|.cons .i .nil
def E2 (d:List Int)(T:Int)(K:bE):Prop:=
 ao (decide (T=2048)) (ao (de 20 d.length&&decide (d.getD 0 0=69)) (K (.ref 0) (bZ 2048 (d.getD 9 0) (oc 20 d) (k2 d) d 0 0))
  (ao (de 24 d.length&&decide (d.getD 0 0=70)) (K (.ref 0) (bZ 2048 (d.getD 9 0) (oc 24 d) (k2 d) d 0 0)) False))
  (ao (decide (T=34525)&&(de 40 d.length&&decide (d.getD 0 0=96))) (ao (iA (d.getD 6 0)) (K (.ref 0) (bZ 34525 (d.getD 6 0) 40 0 d 0 0))
   (ao (decide (d.getD 6 0=60)&&(de 48 d.length&&(decide (d.getD 41 0=0)&&iA (d.getD 40 0)))) (K (.ref 0) (bZ 34525 (d.getD 40 0) 48 0 d 0 0)) False)) False)
def QX (a:fl N9)(_:hr [])(K:bE):Prop:=match a with
 |(d,T,_)=>E2 d T K
def FO:Spec:=gK N9 [] QX
def KL:ea:=.cons F2 .nil
def KQ (nf pr sa bF da dp:Int)(K:bE):Prop:=ao (iA pr&&(decide (nf=2)||decide (nf=10))) (K (.tup [.int nf,.int pr,.int da,.int dp,.int sa,.int bF]) []) False
def QR (a:fl KL)(_:hr [])(K:bE):Prop:=match a with
 |((nf,pr,sa,bF,da,dp,_),_)=>KQ nf pr sa bF da dp K
def FD:Spec:=gK KL [] QR
def Km:ea:=.cons k3<|.cons .r .nil
def wb (n:Int)(x:er)(K:bE):Prop:=er.on x fun t1 aa aH fn=>ao (pk aH) (K (.bool (vY aH n)) (dB 0 (bu t1 aa aH fn))) False
def QQ (a:fl Km)(x:hr (p3 0))(K:bE):Prop:=match a with
 |(_,t,_)=>ao (c1 t 4) (wb 1 x K) (ao (c1 t 6) (wb 2 x K) False)
def FC:Spec:=gK Km (p3 0) QQ
def Js:ea:=.cons k3<|.cons .i .nil
def Jr (n:Int)(x:er)(K:bE):Prop:=er.on x fun t1 aa aH fn=>ao (pk aH&&de aH.length 100) (K .none (dB 0 (bu t1 aa (hM aH n) (fn+(aH.length-(hM aH n).length))))) False
def QP (a:fl Js)(x:hr (p3 0))(K:bE):Prop:=match a with
 |(_,n,_)=>Jr n x K
def Fy:Spec:=gK Js (p3 0) QP
def pe (U:Int):Int:=match decide (U=6) with|true=>20|false=>8
def lG (T U N:Int)(d:List Int):Bool:=uf T N d&&(ltI 1 (i9 T d)&&cb (N+pe U) d.length)
def kT (T U N:Int)(d:List Int):Bool:=decide (U=6)&&(lG T U N d&& !decide (Builtin.bitAnd (gd N d) 5=0))
def lN (T U N:Int)(d:List Int):Bool:=lG T U N d&&(!decide (U=6)||decide (Builtin.bitAnd (gd N d) 7=0))
def M0:ea:=.cons k3<|.cons (hH 11)<|.cons .i .nil
def ig (x:er)(T U N ae:Int)(d:List Int)(i o:Int):List an:=dB 0 x++sV 11 T U N ae d i o
def MZ (n:Int)(x:er)(T U N ae:Int)(d:List Int)(i o:Int)(K:bE):Prop:=er.on x fun t1 aa aH fn=>
 ao (ur aH&&((decide (n=1)||decide (n=2))&&(iA U&&hc T d 9 8)))
  (ao (kT T U N d) (K (.bool false) (ig (bu t1 aa (hM aH n) (fn+(aH.length-(hM aH n).length))) T U N ae d i o)) (K (.bool (lN T U N d)) (ig (bu t1 aa aH fn) T U N ae d i o))) False
abbrev yr:Type:=Unit×(Unit×Unit×Unit×Unit×Unit×Unit×Unit×Unit×Unit×Unit×Unit)×Unit×(Unit×Unit×Unit)×Unit×c7×Unit×c7×Unit×Unit×(List (V×V)×Nat)×et
def yr.on (x:yr)(f:er→et→Prop):Prop:=match x with|(_,_,_,_,_,t1,_,aa,_,_,(aH,n),E1)=>f (bu t1 aa aH n) E1
def QV (a:fl M0)(x:hr (p3 0++lO 11))(K:bE):Prop:=yr.on x fun cC E1=>et.on E1 fun T U N ae d i o=>MZ a.2.2.1 cC T U N ae d i o K
def FJ:Spec:=gK M0 (p3 0++lO 11) QV
def AH (T U nf pr:Int):Bool:=(decide (T=2048)&&decide (nf=2)||decide (T=34525)&&decide (nf=10))&&(decide (pr=U)&&(decide (U=6)||decide (U=17)))
def um (T U N:Int)(on ag:Bool)(a p:Int)(d:List Int):List Int:=match on with|true=>kL T U N ag p (hE T U N ag a d)|false=>d
def un (T U N nf pr:Int)(on ag:Bool)(a p:Int)(d:List Int):Bool:=match on with|true=>AH T U nf pr&&sd T U N ag a p d|false=>true
def hC (cL ri:Int):Bool:= !decide (Builtin.bitAnd cL ri=0)
noncomputable def g9 (ag:Bool)(dir:Int):Int:=match decide (dir=1) with
 |true=>(match ag with|true=>32|false=>16)
 |false=>(match ag with|true=>16|false=>32)
def gX (t:c7)(dir:Int):ej:=match decide (dir=0) with|true=>t.rep|false=>t.r3
def lz (T U N:Int)(d:List Int):List Int:=dA T U N (e1 (d.getD 0 0)) false (nr T) [i9 T d-1] d
def zt (T U N:Int)(d:List Int):Bool:=hc T d 9 8&&(ltI 1 (i9 T d)&&gg T U N im (nr T) 1 d)
def Ew (T U N cL dir:Int)(g:ej)(d:List Int):List Int:=um T U N (hC cL (g9 false dir)) false g.2.2.1 g.2.2.2.1 d
def nd (T U N cL dir:Int)(g:ej)(d:List Int):List Int:=um T U N (hC cL (g9 true dir)) true g.2.2.2.2.1 g.2.2.2.2.2.1 (Ew T U N cL dir g d)
def tY (T U N cL dir:Int)(g:ej)(d:List Int):Bool:=un T U N g.1 g.2.1 (hC cL (g9 false dir)) false g.2.2.1 g.2.2.2.1 d&&
 un T U N g.1 g.2.1 (hC cL (g9 true dir)) true g.2.2.2.2.1 g.2.2.2.2.2.1 (Ew T U N cL dir g d)
def kh (au U:Int):Int:=au+(match decide (U=6) with|true=>432000000|false=>120000)
def oq (t:c7)(u:Int):c7:=wO t.r3 t.rep u t.cL t.state
def mh (au c9 isr T U N ae:Int)(d:List Int)(i o:Int)(t1 aa:c7)(aH:List (V×V))(fn:Nat)(n dir iL:Int)(t gL gM:c7)(K:bE):Prop:=
 ao (cb t.kM au) (K (.int (-1)) (fG au c9 isr T U N ae d i o (bu t1 aa aH fn)))
  (ao (kT T U N d) (K (.int (-1)) (fG au c9 isr T U N ae d i o (bu t1 aa (hM aH n) (fn+(aH.length-(hM aH n).length)))))
   (ao (lN T U N d) (ao (iA (gX t dir).2.1&&((decide ((gX t dir).1=2)||decide ((gX t dir).1=10))&&(tY T U N t.cL dir (gX t dir) d&&zt T U N (nd T U N t.cL dir (gX t dir) d))))
    (K (.int iL) (fG au c9 isr T U N ae (lz T U N (nd T U N t.cL dir (gX t dir) d)) i o (bu gL gM aH fn))) False)
    (K (.int (-1)) (fG au c9 isr T U N ae d i o (bu t1 aa aH fn)))))
def vR (au c9 isr T U N ae:Int)(d:List Int)(i o:Int)(t1 aa:c7)(aH:List (V×V))(fn:Nat)(K:bE):V→Prop
 |.tup [.int n,.int dir,.int iL]=>ao (decide (n=1)) (mh au c9 isr T U N ae d i o t1 aa aH fn 1 dir iL t1 (oq t1 (kh au U)) aa K) (ao (decide (n=2)) (mh au c9 isr T U N ae d i o t1 aa aH fn 2 dir iL aa t1 (oq aa (kh au U)) K) False)
 |_=>False
def wK (key:V)(go:V→Prop)(qE:Prop):List (V×V)→Prop
 | []=>qE
 |e::r=>ao (bn 4 e.1 key) (go e.2) (wK key go qE r)
def uC (au c9 isr T U N ae:Int)(d:List Int)(i o:Int)(t1 aa:c7)(aH:List (V×V))(fn:Nat)(K:bE):Prop:=
 ao (ur aH&&(iA U&&hc T d 9 8)) (ao (ltI N 0) (K (.int (-1)) (fG au c9 isr T U N ae d i o (bu t1 aa aH fn)))
  (ao (cb (N+4) d.length&&ltI N 1000) (wK (.tup [.int i,.tup (tupI T U N d)]) (vR au c9 isr T U N ae d i o t1 aa aH fn K) (K (.int (-1)) (fG au c9 isr T U N ae d i o (bu t1 aa aH fn))) aH) False)) False
abbrev Q3:Type:=Unit×Int×Unit×Unit×Int×Int×Unit×Unit×Unit×Unit×Unit×Unit×Unit×Unit×Unit×Unit×Unit×Unit×Unit×Unit
abbrev Q6:Type:=Unit×Unit×Unit×Unit×Unit×Unit×Unit×Unit×Unit×Unit×Unit
abbrev QI:Type:=Unit×Unit×Unit×Unit×Unit×Unit×Unit×Unit×Unit×Unit×Unit
abbrev yy:Type:=Unit×Q3×Unit×(Unit×Unit×Int×Int×Int×Int×Unit×Unit)×List Int×Unit×(Unit×Unit×Int×Int×Unit×Unit×Unit×Unit×Unit×Unit)×Unit×QI×Unit×(Unit×Unit×Unit)×Unit×c7×Unit×c7×Unit×Unit×(List (V×V)×Nat)×Q6
def yy.on (x:yy)(f:Int→Int→Int→Int→Int→Int→Int→List Int→Int→Int→c7→c7→List (V×V)→Nat→Prop):Prop:=match x with
 |(_,(_,au,_,_,c9,isr,_),_,(_,_,T,U,N,ae,_,_),d,_,(_,_,i,o,_),_,_,_,_,_,t1,_,aa,_,_,(aH,fn),_)=>f au c9 isr T U N ae d i o t1 aa aH fn
def Q2 (_:fl fb)(x:hr Pw)(K:bE):Prop:=yy.on x fun au c9 isr T U N ae d i o t1 aa aH fn=>uC au c9 isr T U N ae d i o t1 aa aH fn K
def xf:Spec:=gK fb Pw Q2
noncomputable def Gn:List Int:=[0,1000000000000000,0,544,12,66304,16,1,4,2,3,256,0,0]
def qc (xs:List Int)(k:Int):Int:=match ltI k xs.length with
 |true=>xs.getD k.toNat 0% 2^64
 |false=>(match ltI k 14 with|true=>Gn.getD k.toNat 0|false=>12*k)
def Mt:ea:=.cons k3<|.cons .i .nil
def Jl (xs:List Int)(k:Int)(K:bE):Prop:=ao (cb 0 k&&(ltI k 1000&&de xs.length 900)) (K (.int (qc xs k)) [.d6 xs]) False
def QS (a:fl Mt)(x:hr [g8.f])(K:bE):Prop:=match a,x with
 |(_,k,_),(xs,_)=>Jl xs k K
def FG:Spec:=gK Mt [g8.f] QS
def Od:ea:=.t (.cons .i<|.cons .i .nil)
def nh:ea:=.t (.cons Od<|.cons Od .nil)
def Uu:ea:=.t (.cons (.t (.cons nh<|.cons nh .nil))<|.cons (.t (.cons nh<|.cons nh .nil)) .nil)
def FY:List V:=[.str (a7 "nfproto"),.str (a7 "protocol"),.str (a7 "source"),.str (a7 "target"),.str (a7 "way"),.str (a7 "cause"),.str (a7 "ends")]
def FZ:ea:=.cons .i<|.cons .i<|.cons .b<|.cons .b<|.cons .i<|.cons .i<|.cons Uu .nil
def Fo:List V:=[.str (a7 "flags"),.str (a7 "is_long"),.str (a7 "word"),.str (a7 "data"),.str (a7 "is_bare"),.str (a7 "is_cut")]
def Fp (r:Nat):ea:=.cons .i<|.cons .b<|.cons .i<|.cons (hH r)<|.cons .b<|.cons .b .nil
abbrev pW:Type:=Int×Int×Unit
abbrev dv:Type:=pW×pW×Unit
variable {g ip:dv}
abbrev fy:Type:=(dv×dv×Unit)×(dv×dv×Unit)×Unit
abbrev fg:Type:=Int×Int×Bool×Bool×Int×Int×fy×Unit
variable {su:fg}
abbrev ji:Type:=Int×Bool×Int×Unit×Bool×Bool×Unit
variable {sx:ji}
def gy (x:fg):an:=tc (.d FY FZ 7) x
def dK (r:Nat)(x:ji):an:=tc (.d Fo (Fp r) 6) x
def iC (l:List Int):Int:=(gJ l).sum*256+(gJ (l.drop 1)).sum
noncomputable def kd (nf:Int):Nat:=match decide (nf=10) with|true=>16|false=>4
def mC (pr bF dp Y:Int)(S:List Int):List Int:=match decide (pr=6) with
 |true=>bf bF 2++bf dp 2++([1,2,3,4,255,254,253,252,80,Y,7,9,0,0,0,0]:List Int)++S
 |false=>bf bF 2++bf dp 2++([0,8+(S.length:Int),0,0]:List Int)++S
def h9 (nf pr bO bF bN dp Y:Int)(S:List Int):Int:=
 iC (mC pr bF dp Y S)+pr+(mC pr bF dp Y S).length+iC (bf bO (kd nf))+iC (bf bN (kd nf))
noncomputable def fI (c:Int):Int:=match decide (c=0) with|true=>65535|false=>c
def mB (pr t:Int)(ai:Bool):Int:=match decide (pr=6) with
 |true=> -t% 65535
 |false=>(match ai with|true=>0|false=>fI (-t% 65535))
def Bb (nf pr bO bF bN dp Y:Int)(S:List Int)(ai:Bool):List Int:=match decide (pr=6) with
 |true=>(mC pr bF dp Y S).take 16++bf (mB pr (h9 nf pr bO bF bN dp Y S) ai) 2++(mC pr bF dp Y S).drop 18
 |false=>(mC pr bF dp Y S).take 6++bf (mB pr (h9 nf pr bO bF bN dp Y S) ai) 2++(mC pr bF dp Y S).drop 8
def Bd (nf pr bO bF bN dp Y:Int)(S:List Int)(ai cut:Bool):List Int:=match cut with
 |true=>(match decide (pr=6) with|true=>(Bb nf pr bO bF bN dp Y S ai).take 12|false=>(Bb nf pr bO bF bN dp Y S ai).take 6)
 |false=>Bb nf pr bO bF bN dp Y S ai
def hv (d:List Int):Bool:=decide (d=[])||(decide (d=[250])||(decide (d=[250,3])||decide (d=[250,3,255])))
def MG:ea:=.cons k3<|.cons nh<|.cons (hH 1) .nil
def ltQ:List g8:=[.d FY FZ 7,.d Fo (Fp 2) 6,.z]
def PC (su:fg)(sx:ji)(S:List Int)(p:dv)(K:bE):Prop:=
 ao ((decide (su.1=2)||decide (su.1=10))&&(iA su.2.1&&hv S))
  (K (.ref 3) [gy su,dK 2 sx,.ints S,.ints (Bd su.1 su.2.1 p.1.1 p.1.2.1 p.2.1.1 p.2.1.2.1 sx.1 S sx.2.2.2.2.1 sx.2.2.2.2.2.1)]) False
def QT (a:fl MG)(x:hr ltQ)(K:bE):Prop:=match a,x with
 |(_,p,_),(su,sx,S,_)=>PC su sx S p K
def FH:Spec:=gK MG ltQ QT
def en (pr X bO bN:Int)(L:Bool)(ins:List Int):List Int:=match L with
 |true=>([96,0,0,5,0,8+(ins.length:Int),60,X]:List Int)++bf bO 16++bf bN 16++([pr,0,1,4,0,0,0,0]:List Int)++ins
 |false=>([96,0,0,5,0,0+(ins.length:Int),pr,X]:List Int)++bf bO 16++bf bN 16++[]++ins
def kk (pr X bO bN W:Int)(L:Bool)(n:Int):List Int:=match L with
 |true=>([70,8,0,20+4+n,17,18]:List Int)++bf W 2++([X,pr,0,0]:List Int)++bf bO 4++bf bN 4++([1,1,1,0]:List Int)
 |false=>([69,8,0,20+0+n,17,18]:List Int)++bf W 2++([X,pr,0,0]:List Int)++bf bO 4++bf bN 4++[]
def kj (pr X bO bN W:Int)(L:Bool)(ins:List Int):List Int:=
 (kk pr X bO bN W L ins.length).take 10++bf (-iC (kk pr X bO bN W L ins.length)% 65535) 2++(kk pr X bO bN W L ins.length).drop 12++ins
def sC (nf pr X bO bN W:Int)(L:Bool)(ins:List Int):List Int:=match decide (nf=10) with
 |true=>en pr X bO bN L ins
 |false=>kj pr X bO bN W L ins
def MJ:ea:=.cons k3<|.cons nh<|.cons .i<|.cons (hH 1)<|.cons (hH 3) .nil
def MK:List g8:=[.d FY FZ 7,.d Fo (Fp 2) 6,.z,.z]
def Qb (su:fg)(sx:ji)(S ins:List Int)(p:dv)(X:Int)(K:bE):Prop:=
 ao ((decide (su.1=2)||decide (su.1=10))&&(de ins.length 1000&&o7 (sC su.1 su.2.1 X p.1.1 p.2.1.1 sx.2.2.1 sx.2.1 ins)))
  (K (.bytes (sC su.1 su.2.1 X p.1.1 p.2.1.1 sx.2.2.1 sx.2.1 ins)) [gy su,dK 2 sx,.ints S,.ints ins]) False
def QU (a:fl MJ)(x:hr MK)(K:bE):Prop:=match a,x with
 |(_,p,X,_),(su,sx,S,ins,_)=>Qb su sx S ins p X K
def FI:Spec:=gK MJ MK QU
def aT:Nat→Option Row:=qA [(LO,⟨0,false,fun _=>AT⟩),(LP,⟨0,false,fun _=>FM⟩),(Lm,⟨0,false,fun _=>FA⟩),(LL,⟨1,false,fun _=>FK⟩),(LH,inl HJ),(Lo,inl Hw),(L4,inl HV),(LU,inl HP),(LI,inl HK),(LN,inl HM),(K8,ww Hl),(LG,inl HI),(Lj,inl Hu),(Ld,inl Hq),(LS,inl HO),(LY,inl HS),(L5,inl HW),(Lf,inl Hs),(L6,inl HX),(LR,⟨0,false,fun _=>AU⟩),(LM,⟨2,false,fun _=>FL⟩),(L2,⟨4,false,fun _=>FR⟩),(Li,inl Ht),(La,ww Hn),(Lu,inl Hz),(Lr,inl Hy),(Lc,inl Hp),(LW,inl HR),(Ma,inl H2),(Mb,⟨4,false,fun _=>FT⟩),(Lq,⟨1,false,fun _=>FD⟩),(L3,inl HU),(zK,inl nG),(Ls,⟨3,false,fun _=>FE⟩),(LZ,⟨5,false,fun _=>FP⟩),(LV,inl HQ),(L0,⟨6,false,fun _=>FQ⟩),(Le,inl Hr),(Lp,inl Hx),(L1,inl HT),(L7,inl HY),(L9,inl HZ),(L8,⟨2,false,fun _=>FS⟩),(Lg,⟨5,false,fun _=>Fx⟩),(Lk,⟨2,false,fun _=>Fz⟩),(LJ,inl HL),(Ln,⟨0,false,fun _=>FC⟩),(Ll,inl Hv),(Lh,⟨0,false,fun _=>Fy⟩),(Lv,⟨3,false,fun _=>FF⟩),(LK,⟨4,false,fun _=>FJ⟩),(D4,⟨8,false,fun _=>xf⟩),(Lx,⟨0,false,fun _=>FG⟩),(Lw,inl HB),(LA,inl HF),(LF,inl HH),(Ly,inl HC),(wD,inl HE),(LC,inl HG),(LB,⟨3,false,fun _=>FH⟩),(LD,⟨3,false,fun _=>FI⟩),(zP,inl vf),(Lz,inl HD),(zR,inl yj),(zO,inl yi),(qw,inl vg),(zN,inl HA),(mn,inl kO),(zM,inl jg),(zQ,inl nH),(zS,inl pO),(zL,inl jf),(LQ,⟨5,false,fun _=>FO⟩),(Lb,ww Ho),(K9,ww Hm)]
theorem n8 {a0 eh:Type}{f g:a0→eh}{l:List a0}:l.map f=l.map g→∀a∈l,f a=g a:=by
 induction l with
 |nil=>exact fun _ a h=>nomatch h
 |cons a l aF=>exact fun h b az=>(List.mem_cons.mp az).elim (fun e=>e▸(List.cons.inj h).1) (aF (List.cons.inj h).2 b)
noncomputable def Fn (s:sZ)(g:Nat→Int)(dm:List Int):List Int:=s.h::(List.range (s.len-1)).map g++(match s.ex with|true=>[]|false=>dm)
def OQ (s:sZ):Nat:=match s.gY with|true=>jL|false=>im
abbrev pU:Type:=Int→Int→Int→Nat→Int→List Int→List Int→Prop
def lM (f:pU)(g q:Nat→Int)(dm:List Int)(s:sZ):Prop:=f s.kind s.U s.off (OQ s) s.pos ((List.range s.n).map q) (Fn s g dm)
def AN (m:Nat)(ae i o':Int)(K:bE):pU:=fun T U N b pos o d=>cR (bh aT (m+4)) aP BZ [.ref 0,.str b,.int pos,.bytes o] (bZ T U N ae d i o') (dY (bZ T U N ae d i o') K)
def Fm (ae i o':Int)(K:bE):pU:=fun T U N b pos o d=>K .none (bZ T U N ae (dA T U N (e1 (d.getD 0 0)) (c1 b jL) pos o d) i o')
def Cj (b3 b0:pU):Prop:=∀g q dm,shapes.map (lM b3 g q dm)=shapes.map (lM b0 g q dm)
theorem RE (m:Nat)(ae i o':Int)(K:bE)(g q:Nat→Int)(dm:List Int):(shapes.take 46).map (lM (AN m ae i o' K) g q dm)=(shapes.take 46).map (lM (Fm ae i o' K) g q dm):=by kernel_rfl
theorem RF (m:Nat)(ae i o':Int)(K:bE)(g q:Nat→Int)(dm:List Int):(shapes.drop 46).map (lM (AN m ae i o' K) g q dm)=(shapes.drop 46).map (lM (Fm ae i o' K) g q dm):=by kernel_rfl
theorem RD (m:Nat)(ae i o':Int)(K:bE):Cj (AN m ae i o' K) (Fm ae i o' K):=fun g q dm=>MO 46 (RE m ae i o' K g q dm) (RF m ae i o' K g q dm)
theorem CB {l:List Int}(h:l.length=n):l=(List.range n).map fun i=>l.getD i 0:=by
 subst h;refine List.ext_getElem? fun i=>?_;rw[List.getElem?_map]
 by_cases hi:i<l.length
 .rw[List.getElem?_range hi,List.getElem?_eq_getElem hi,GX,List.getD_eq_getElem?_getD,List.getElem?_eq_getElem hi];rfl
 .rw[List.getElem?_eq_none (mK.mp hi),List.getElem?_eq_none (by rw[List.length_range];exact mK.mp hi)];rfl
theorem aez {s:sZ}{d:List Int}(bl:0<s.len)(ar:match s.ex with|true=>d.length=s.len|false=>s.len≤d.length)(hd:d.getD 0 0=s.h):d=Fn s (fun i=>d.getD (i+1) 0) (d.drop s.len):=by
 unfold Fn
 induction d using List.casesOn with
 |nil=>cases e:s.ex<;>(rw[e] at ar;simp at ar;lia)
 |cons x r=>
  change x=s.h at hd;subst hd;have aW:(fun i=>(s.h::r).getD (i+1) 0)=fun i=>r.getD i 0:=rfl;rw[aW,show(s.h::r).drop s.len=r.drop (s.len-1) by obtain⟨k,aB⟩:∃k,s.len=k+1:=⟨s.len-1,by lia⟩;rw[aB];rfl]
  have aJ:(List.range (s.len-1)).map (fun i=>r.getD i 0)=r.take (s.len-1):=by
   have ahf:s.len-1≤r.length:=by cases e:s.ex<;>(rw[e] at ar;simp only[List.length_cons] at ar;lia)
   rw[CB (l:=r.take (s.len-1)) (n:=s.len-1) (by rw[List.length_take];lia)];refine List.map_congr_left fun i hi=>?_;have:=List.mem_range.mp hi;rw[List.getD_eq_getElem?_getD,List.getD_eq_getElem?_getD,List.getElem?_take_of_lt this]
  rw[aJ];cases e:s.ex with
  |true=>rw[e] at ar;simp only[List.length_cons] at ar;refine(?_:s.h::r=(s.h::r.take (s.len-1))++[]);rw[List.append_nil,List.take_of_length_le (by lia)]
  |false=>refine(?_:s.h::r=s.h::(r.take (s.len-1)++r.drop (s.len-1)));rw[List.take_append_drop]
theorem aeA:∀s∈shapes,0<s.len:=by
 have:shapes.all (fun s=>de 1 s.len)=true:=by decide+kernel
 exact fun s aE=>d5 (List.all_eq_true.mp this s aE)
theorem abD {aA:pU}{T U N:Int}{b:Nat}{pos:Int}{o d:List Int}(c:gg T U N b pos o.length d=true)(k:∀s∈shapes,∀g q dm,lM aA g q dm s):aA T U N b pos o d:=by refine dq (List.any_eq_true.mp c) fun s bT=>b8 bT fun aE c=>b5 c fun ba c=>b5 c fun bL c=>b5 c fun bS c=>b5 c fun D1 c=>b5 c fun rL c=>b5 c fun D2 c=>b5 c fun D3 YO=>?_;have h:aA _ _ _ _ _ _ _:=k s aE (fun i=>d.getD (i+1) 0) (fun i=>o.getD i 0) (d.drop s.len);rw[←of_decide_eq_true ba,←of_decide_eq_true bL,←of_decide_eq_true bS,show OQ s=b from(fQ D1).symm,←of_decide_eq_true rL,←CB (fQ D2),←aez (aeA s aE) (by cases e:s.ex<;>(rw[e] at D3;first|exact fQ D3|exact d5 D3)) (of_decide_eq_true YO)] at h;exact h
theorem NP {b3 b0:pU}(e:Cj b3 b0){T U N:Int}{b:Nat}{pos:Int}{o d:List Int}(c:gg T U N b pos o.length d=true):Ev (b0 T U N b pos o d)→Ev (b3 T U N b pos o d):=
 abD (aA:=fun T U N b pos o d=>Ev (b0 T U N b pos o d)→Ev (b3 T U N b pos o d)) c fun s aE g q dm=>aK (n8 (e g q dm) s aE)
theorem Y1 (m:Nat){b:Nat}{pos:Int}{o:List Int}{T U N ae:Int}{d:List Int}{i:Int}(bD:Ev (ON b pos o T U N ae d i o' K)):Ev (AN m ae i o' K T U N b pos o d):=
 b8 (gG bD) fun c h=>NP (RD m ae i o' K) c h
theorem ada (m:Nat):fF (bh aT (m+4)) aP FR BZ:=mZ fun(a:Unit×Nat×Int×List Int×Unit) (x:et) K fC fY bD=>
 aK (by kernel_rfl) (Y1 (b:=a.2.1) (pos:=a.2.2.1) (o:=a.2.2.2.1) (T:=x.kind) (U:=x.U) (N:=x.off) (ae:=x.place) (d:=x.d) (i:=x.i) (o':=x.o) (K:=K) m (aK (by kernel_rfl) bD))
theorem Wn {x:Int}(bl:0≤x):foldI (x% 65536+x/65536)=foldI x:=by
 unfold foldI
 by_cases h:x=0
 .subst h;rfl
 .have R:¬(x% 65536+x/65536=0):=by lia
  rw[if_neg h,if_neg R];have:x-1=(x% 65536+x/65536-1)+65535*(x/65536):=by lia
  rw[this,Qn]
theorem JQ {x:Int}(bl:0≤x)(h:x<65536):foldI x=x:=by
 unfold foldI
 by_cases e:x=0
 .rw[if_pos e,e]
 .rw[if_neg e,xO (Qs (Int.lt_iff_le_and_ne.mpr ⟨bl,Ne.symm e⟩)) (Int.sub_right_lt_of_lt_add (show x<65535+1 from h)),Int.sub_add_cancel]
theorem Wm (x:Int):0≤foldI x∧foldI x≤65535:=by
 unfold foldI
 by_cases e:x=0
 .rw[if_pos e];decide
 .rw[if_neg e];exact⟨GC (xP _ (by decide)) (by decide),Int.add_one_le_of_lt (Bq _ (by decide))⟩
def rx (C:hT)(n:Nat)(x:Int)(K:dM):Prop:=
 xy (fun loc H K=>iP C aP loc (.cmp .NotEq (.bin .RShift (.loc 0) (.int 16)) (.int 0)) (cG C aP loc (.cmp .NotEq (.bin .RShift (.loc 0) (.int 16)) (.int 0))) H K) (fun loc H K=>b4 C aP (.cons (.asg 0 (.bin .Add (.bin .BitAnd (.loc 0) (.int 65535)) (.bin .RShift (.loc 0) (.int 16)))) .nil) loc H K) n [.int x] [] K
theorem JP {x:Int}{K:dM}:rx C (n+1) x K=ao (!(decide (x/65536=0))) (rx C n (Builtin.bitAnd x 65535+x/65536) K) (K .next [.int x] []):=by kernel_rfl
theorem Dc {K:dM}{x:Int}(bl:0≤x)(k:K .next [.int (foldI x)] [])(s:K .next [.int (foldI (x% 65536+x/65536))] []→rx C n (x% 65536+x/65536) K):rx C (n+1) x K:=by
 rw[JP,bitAnd_m16]
 by_cases aR:x/65536=0
 .rw[decide_eq_true aR];rw[JQ bl (by lia)] at k;exact k
 .rw[decide_eq_false aR];exact s ((Wn bl).symm▸k)
theorem aaE (x:Int):0≤x% 65536:=xP _ (by decide)
theorem tu {x:Int}(bl:0≤x):0≤x% 65536+x/65536:=GC (aaE x) (GD bl (by decide))
theorem Wk {K:dM}{x:Int}(bl:0≤x)(h:x<65536)(k:K .next [.int (foldI x)] []):rx C (n+1) x K:=by rw[JP,Qo bl h];rw[JQ bl h] at k;exact k
theorem Wl {K:dM}{x:Int}(bl:0≤x)(h:x<4294967296)(k:K .next [.int (foldI x)] []):rx C (n+4) x K:=
 Dc bl k fun k=>Dc (tu bl) k fun k=>Dc (tu (tu bl)) k fun k=>Wk (tu (tu (tu bl))) (by lia) k
theorem Wo {t:Int}(h:Il t K):cR C aP BV [.int t] [] K:=by refine j1 h fun c h=>?_;refine b5 c fun dE dX=>?_;refine ki (B:=rx C 8 t (gi (b4 C aP (.cons (.ret (.loc 0)) .nil)) (e2 K))) (by kernel_rfl) ?_;exact Wl (n:=4) (tR dE) (qC dX) h
theorem acT:fF C aP FA BV:=E0 fun a b K fC fY h=>Wo h
def pE (l:List Int)(i:Nat):Int:=l.getD (2*i) 0*256+l.getD (2*i+1) 0
theorem PR {aA:List Int→Prop}(bl:aA [])(R:∀a,aA [a])(Z:∀a b r,aA r→aA (a::b::r))(l:List Int):aA l:=by
 refine(?_:aA l∧∀a,aA (a::l)).1
 induction l with
 |nil=>exact⟨bl,R⟩
 |cons b r aF=>exact⟨aF.2 b,fun a=>Z a b r aF.1⟩
theorem Qd:∀(i:Nat) (l:List Int),2*i+1<l.length→wsum (l.take (2*(i+1)))=wsum (l.take (2*i))+pE l i:=fun i l=>by
 refine PR (aA:=fun l=>∀i,2*i+1<l.length→wsum (l.take (2*(i+1)))=wsum (l.take (2*i))+pE l i) (fun i h=>absurd h (xW _)) (fun a i h=>absurd (xV h) (xW _)) (fun a b r aF i h=>?_) l i;cases i with
 |zero=>exact(Int.add_zero _).trans (Bt _).symm
 |succ i=>refine(?_:a*256+b+wsum (r.take (2*(i+1)))=a*256+b+wsum (r.take (2*i))+pE r i);rw[aF i (xV (xV h))];exact(GB ..).symm
theorem Gv {l:List Int}:ee l→0≤wsum l∧wsum l≤65535*(l.length/2:Nat):=by refine PR (aA:=fun l=>ee l→0≤wsum l∧wsum l≤65535*(l.length/2:Nat)) (fun _=>⟨uW _,uW _⟩) (fun a _=>⟨uW 0,(by decide:(0:Int)≤65535*((1/2:Nat):Int))⟩) (fun a b r aF h=>?_) l;have aC:=h a List.mem_cons_self;have az:=h b (List.mem_cons_of_mem _ List.mem_cons_self);have g:=aF fun x aR=>h x (List.mem_cons_of_mem _ (List.mem_cons_of_mem _ aR));rw[show(a::b::r).length/2=r.length/2+1 from Nat.add_div_right (z:=2) r.length (by decide)];refine(?_:0≤a*256+b+wsum r∧a*256+b+wsum r≤_);clear aF h;lia
theorem MF {x:Int}(bl:0≤x)(h:x<256):(0:Int)≤8∧(8:Int)≤1000∧x.natAbs<2^256:=⟨by decide,by decide,by
 obtain⟨n,rfl⟩:=jV bl;exact q2 (je.mp h) (by decide)⟩
theorem K3 {x:Int}(bl:0≤x)(h:x<100):0≤x∧x<2^62:=⟨bl,Int.lt_of_lt_of_le h (by decide)⟩
theorem getD_in {l:List Int}(h:ee l)(i:Nat):0≤l.getD i 0∧l.getD i 0<256:=by
 rw[List.getD_eq_getElem?_getD];cases e:l[i]? with
 |none=>decide
 |some x=>exact h x (List.mem_of_getElem? e)
theorem acM (n:Nat)(h:n% 2=0):eQ 0 (n:Int) 2=(List.range (n/2)).map fun(k:Nat)=>((2*k:Nat):Int):=by unfold eQ;rw[show(((n:Int)-0+2-1)/2).toNat=n/2 by lia];exact List.map_congr_left fun k _=>Bt _
theorem acN (n:Nat)(h:n% 2=0):(eQ 0 (n:Int) 2).map V.int=(List.range (n/2)).map fun(k:Nat)=>V.int ((2*k:Nat):Int):=by rw[acM n h,List.map_map];rfl
def j7 (c:Int)(o n:List Int)(i:Nat):Int:=65535-c+65535*(i:Int)-wsum (o.take (2*i))+wsum (n.take (2*i))
noncomputable def Af:ff:=.cons (.asg 3 (.bin .Sub (.bin .Add (.loc 3) (.int (65535))) (.bin .BitOr (.bin .LShift (.sub (.loc 1) (.loc 4)) (.int (8))) (.sub (.loc 1) (.bin .Add (.loc 4) (.int (1))))))) (.cons (.asg 3 (.bin .Add (.loc 3) (.bin .BitOr (.bin .LShift (.sub (.loc 2) (.loc 4)) (.int (8))) (.sub (.loc 2) (.bin .Add (.loc 4) (.int (1))))))) .nil)
theorem aar {t j:Int}{o n:List Int}{x:V}{K:dM}:b4 C aP Af ([.int c,.bytes o,.bytes n,.int t,x].set 4 (.int j)) [] K=(cY (0≤j∧j<2^62) (cY (j.toNat<o.length) (cY ((0:Int)≤8∧(8:Int)≤1000∧(o.getD j.toNat 0).natAbs<2^256) (cY (0≤j+1∧j+1<2^62) (cY ((j+1).toNat<o.length)
 (cY (0≤j∧j<2^62) (cY (j.toNat<n.length) (cY ((0:Int)≤8∧(8:Int)≤1000∧(n.getD j.toNat 0).natAbs<2^256) (cY (0≤j+1∧j+1<2^62) (cY ((j+1).toNat<n.length)
  (K .next [.int c,.bytes o,.bytes n,.int (t+65535-Builtin.bitOr (o.getD j.toNat 0*2^(8:Int).toNat) (o.getD (j+1).toNat 0)+Builtin.bitOr (n.getD j.toNat 0*2^(8:Int).toNat) (n.getD (j+1).toNat 0)),.int j] []))))))))))):=by kernel_rfl
theorem aaw {t:Int}{o n:List Int}{i:Nat}{x:V}{K:dM}(ax:ee o)(aL:ee n)(R:2*i+1<o.length)(Z:2*i+1<n.length)(ar:o.length≤40)
 (k:K .next [.int c,.bytes o,.bytes n,.int (t+65535-pE o i+pE n i),.int ((2*i:Nat):Int)] []):b4 C aP Af ([.int c,.bytes o,.bytes n,.int t,x].set 4 (.int ((2*i:Nat):Int))) [] K:=by
 rw[aar];have eO:2*i<99:=q2 (Bv R) (e4 ar (by decide));have KG:0≤((2*i:Nat):Int)∧((2*i:Nat):Int)<2^62:=K3 (lf _) (je.mpr (GL eO));have KH:0≤((2*i:Nat):Int)+1∧((2*i:Nat):Int)+1<2^62:=K3 (lf (2*i+1)) (je.mpr (GU eO));rw[show((2*i:Nat):Int).toNat=2*i from rfl,show(((2*i:Nat):Int)+1).toNat=2*i+1 from rfl,EX (getD_in ax _).1 (getD_in ax _).2,EX (getD_in aL _).1 (getD_in aL _).2]
 with_reducible refine iV KG (iV (Bv R) (iV (MF (getD_in ax _).1 (getD_in ax _).2) (iV KH (iV R (iV KG (iV (Bv Z) (iV (MF (getD_in aL _).1 (getD_in aL _).2) (iV KH (iV Z ?_)))))))))
 exact k
theorem aeR:∀k,k<41→my 0 (k:Nat) 2=true:=by decide+kernel
inductive sU (c:Int)(o n:List Int)(i:Nat):List V→Prop
 |mk (x:V):x=.aQ∨(∃y,x=.int y)→sU c o n i [.int c,.bytes o,.bytes n,.int (j7 c o n i),x]
theorem aau {o n:List Int}(ax:ee o)(aL:ee n)(g1:o.length=n.length)(g3:o.length≤40){i:Nat}(e:((List.range (o.length/2)).map fun(k:Nat)=>V.int ((2*k:Nat):Int))[i]? =E v)(h:sU c o n i loc){K:dM}
 (k:∀loc,sU c o n (i+1) loc→K .next loc []):b4 C aP Af (loc.set 4 v) [] K:=by
 induction h with
 |mk x aR=>
  rw[List.getElem?_map] at e;refine eB e fun j ix=>?_;have ec:=(List.getElem?_eq_some_iff.mp ix).1;rw[List.length_range] at ec;rw[List.getElem?_range ec] at ix;obtain rfl:=cF ix;have n4:2*i+1<o.length:=q2 (jy _) (e4 (Nat.mul_le_mul_left 2 ec) (Nat.mul_div_le _ _));have iJ:2*i+1<n.length:=g1▸n4;have cJ:j7 c o n (i+1)=j7 c o n i+65535-pE o i+pE n i:=by unfold j7;rw[Qd i o n4,Qd i n iJ];clear k ix e aR;lia
  have bw:K .next [.int c,.bytes o,.bytes n,.int (j7 c o n i+65535-pE o i+pE n i),.int ((2*i:Nat):Int)] []:=by rw[←cJ];exact k _ (.mk _ (.inr ⟨_,rfl⟩))
  with_reducible exact aaw (x:=x) (K:=K) ax aL n4 iJ g3 bw
theorem aas {o n:List Int}{i:Nat}(h:sU c o n i loc)(b:0≤j7 c o n i∧j7 c o n i<4294967296)(k:K (.int (65535-foldI (j7 c o n i))) []):
 gi (b4 (bh aT (m+1)) aP (.cons (.ret (.bin .Sub (.int (65535)) (.call 3636492994420 (.cons (.loc 3) .nil)))) .nil)) (e2 K) .next loc []:=by
 induction h with
 |mk x aR=>
  generalize j7 c o n i=t at b k⊢;have iU:(cb 0 t&&ltI t 4294967296)=true:=by rw[i1,jr,decide_eq_true b.1,decide_eq_true b.2];rfl
  refine ki (B:=ao (cb 0 t&&ltI t 4294967296) (K (.int (65535-foldI t)) []) False) (by rcases aR with rfl|⟨y,rfl⟩<;>kernel_rfl) ?_
  with_reducible exact jJ iU k
theorem aav {o n:List Int}(ax:ee o)(aL:ee n)(g1:o.length=n.length)(bM:o.length% 2=0)(g3:o.length≤40)(vy:0≤c)(dE:c≤65535):
 j7 c o n (o.length/2)=65535-c+65535*((o.length:Int)/2)-wsum o+wsum n∧0≤j7 c o n (o.length/2)∧j7 c o n (o.length/2)<4294967296:=by
 have dL:2*(o.length/2)=o.length:=Nat.mul_div_cancel' (Nat.dvd_of_mod_eq_zero bM);have e:j7 c o n (o.length/2)=65535-c+65535*((o.length:Int)/2)-wsum o+wsum n:=by unfold j7;rw[dL,List.take_length,List.take_of_length_le (sH g1.symm)];rfl
 have ox:=Gv ax;have P8:=Gv aL;rw[←g1] at P8;refine⟨e,?_⟩;rw[e];have q:((o.length:Int)/2)=((o.length/2:Nat):Int):=rfl;rw[q];have l:o.length/2≤20:=Nat.div_le_div_right (c:=2) g3;generalize o.length/2=k at ox P8 l;clear e dL g1 bM g3 ax aL q;lia
theorem aat (m:Nat){o n:List Int}(ax:ee o)(aL:ee n)(h:Im c o n K):cR (bh aT (m+1)) aP BX [.int c,.bytes o,.bytes n] [] K:=by
 refine j1 h fun g h=>j1 h fun fo h=>b5 g fun g1 g=>b5 g fun bM g3=>b5 fo fun vy dE=>?_;have g1:=fQ g1;have bM:=fQ bM;have g3:=d5 g3;have qV:=aav ax aL g1 bM g3 (tR vy) (tR dE);refine ki (B:=ao (!(decide ((o.length:Int)=n.length))) False (ao (decide ((o.length:Int)% 2=1)) False (ao (my 0 o.length 2)
  (iy 0 (fun v loc H K=>b4 (bh aT (m+1)) aP Af (loc.set 4 v) H K) (hk .none ((eQ 0 o.length 2).map V.int) []) (((eQ 0 o.length 2).map V.int).length+1) 0 ((eQ 0 o.length 2).map V.int) [.int c,.bytes o,.bytes n,.int (65535-c),.aQ] []
   (gi (b4 (bh aT (m+1)) aP (.cons (.ret (.bin .Sub (.int (65535)) (.call 3636492994420 (.cons (.loc 3) .nil)))) .nil)) (e2 K))) False))) (by kernel_rfl) ?_
 have cj:(!(decide ((o.length:Int)=n.length)))=false:=by rw[g1,decide_eq_true rfl];rfl
 have b9:decide ((o.length:Int)% 2=1)=false:=by rw[show(o.length:Int)% 2=((o.length% 2:Nat):Int) from rfl,bM];rfl
 with_reducible refine p5 cj (p5 b9 (jJ (aeR _ (Nat.lt_succ_of_le g3)) ?_))
 rw[acN _ bM];clear cj b9 g fo vy dE;refine De (fun i loc=>sU c o n i loc) (fun i v loc e ab hs m7=>aau ax aL g1 g3 e ab m7) (fun i loc ab P a8=>?_) (fun P a8=>a8) (fun loc ab=>?_) _ 0 _ ?_ (jz _) (jy _)
 .induction ab with|mk x aR=>rcases aR with rfl|⟨y,rfl⟩<;>exact a8
 .rw[List.length_map,List.length_range] at ab;refine aas ab qV.2 ?_;rw[qV.1];exact h
 .have:=sU.mk (c:=c) (o:=o) (n:=n) (i:=0) .aQ (.inl rfl);rwa [show j7 c o n 0=65535-c by unfold j7;simp[wsum]] at this
theorem ac2 (m:Nat):fF (bh aT (m+1)) aP FK BX:=E0 fun a b K fC fY h=>aat m (fY (.bytes _) (List.mem_cons_of_mem _ List.mem_cons_self)).1 (fY (.bytes _) (List.mem_cons_of_mem _ (List.mem_cons_of_mem _ List.mem_cons_self))).1 h
theorem ab5 {e:Int}{b:List Int}:cR C aP ym [.bytes b,.int f,.int e] [] K=
 ao (gx (E f)&&gx (E e)) (ao (ltI ((ch b f.toNat e.toNat).length:Int) (e-f)) (cY ((ch b f.toNat e.toNat).length+[(0:Int)].length≤1000000) (K (.bytes (ch b f.toNat e.toNat++[0])) [])) (K (.bytes (ch b f.toNat e.toNat)) [])) False:=by kernel_rfl
theorem ab6 {e:Int}{b:List Int}:cR C aP ym [.ref 0,.int f,.int e] [.cB b] (dY [.cB b] K)=
 ao (gx (E f)&&gx (E e)) (ao (ltI ((ch b f.toNat e.toNat).length:Int) (e-f)) (cY ((ch b f.toNat e.toNat).length+[(0:Int)].length≤1000000) (K (.bytes (ch b f.toNat e.toNat++[0])) [.cB b])) (K (.bytes (ch b f.toNat e.toNat)) [.cB b])) False:=by kernel_rfl
theorem ph {x:Int}(bl:0≤x)(h:x<65540):gx (E x)=true:=by refine(?_:(cb 0 x&&ltI x (2^62))=true);rw[i1,jr,fJ,decide_eq_true_iff,decide_eq_true_iff];exact⟨bl,ko h (by decide)⟩
theorem ou (b:List Int)(i j:Nat):(ch b i j).length=min j b.length-i:=by unfold ch;rw[List.length_drop,List.length_take]
theorem z5 {a b:Nat}(h:a≤b):cb (.ofNat a) (.ofNat b)=true:=by rw[i1];exact decide_eq_true (lg.mpr h)
theorem MI {a b:Nat}(h:a<b):ltI (.ofNat a) (.ofNat b)=true:=by rw[jr];exact decide_eq_true (je.mpr h)
theorem nO {a:Bool}(h:a=true)(k:b=true):(a&&b)=true:=by rw[h,k];rfl
theorem Oc {e:Int}{b:List Int}(g:(cb 0 f&&(cb f e&&(cb e b.length&&ltI e 65536)))=true):(gx (E f)&&gx (E e))=true∧ltI ((ch b f.toNat e.toNat).length:Int) (e-f)=false:=by refine b5 g fun g1 g=>b5 g fun bM g=>b5 g fun g3 ek=>?_;have g1:=tR g1;have bM:=tR bM;have ek:=ko (qC ek) (show(65536:Int)<65540 by decide);refine⟨nO (ph g1 (Br bM ek)) (ph (q1 g1 bM) ek),?_⟩;obtain⟨c,rfl⟩:=jV (q1 g1 bM);obtain⟨a,rfl⟩:=jV g1;refine(?_:ltI ((ch b a c).length:Int) (c-a)=false);rw[ou,q3 (lg.mp (tR g3)),Int.ofNat_sub (lg.mp bM),jr];exact decide_eq_false (Int.lt_irrefl _)
theorem ac7:fF C aP AU ym:=fun vs H K fC fY h=>by
 unfold AU at h
 induction H using List.casesOn with
 |nil=>
  refine dD (pm h) fun a c g=>?_;rw[g.1];refine j1 g.2.2 fun g h=>b8 (Oc g) fun g1 bM=>.inl (ki ab5 ?_)
  with_reducible exact jJ g1 (p5 bM h)
 |cons o r=>
  refine dD (pm h) fun a c g=>?_;rw[g.1,g.2.1];refine j1 g.2.2 fun g h=>b8 (Oc g) fun g1 bM=>.inr (.inl (ki ab6 ?_))
  with_reducible exact jJ g1 (p5 bM h)
noncomputable def Ac:ff:=.cons (.iff (.cmp .Lt (.loc 6) (.loc 7)) (.cons (.asg 5 (.call 218676008 (.cons (.loc 5) (.cons (.call 61749720591457115 (.cons (.loc 1) (.cons (.loc 6) (.cons (.loc 7) .nil)))) (.cons (.call 61749720591457115 (.cons (.attr (.loc 0) 212335262) (.cons (.loc 6) (.cons (.loc 7) .nil)))) .nil))))) .nil) .nil) .nil
noncomputable def Ab:ff:=.cons (.iff (.and (.loc 4) (.cmp .Eq (.loc 5) (.int (0)))) (.cons (.asg 5 (.int (65535))) .nil) .nil) (.cons (.pZ (.attr (.loc 0) 212335262) (.loc 2) (.bin .Add (.loc 2) (.int (2))) (.call 7965713956843541455 (.cons (.loc 5) (.cons (.int (2)) .nil)))) .nil)
noncomputable def kZ (d0:List Int)(pl:Nat)(u:Bool)(c:Int)(x y:V):List V:=[.ref 0,.bytes d0,.int (.ofNat pl),.ref 5,.bool u,.int c,x,y]
section
variable {T U N ae i o:Int}{d:List Int}{f e:Nat}{dk:List V}{x y:V}{K:dM}
theorem aal:lT (.tup [.int (.ofNat f),.int (.ofNat e)]) (bZ T U N ae d i o++[.list dk]) 2 (fun ce=>b4 (bh aT (m+2)) aP Ac (jw (kZ d0 pl u c x y) [6,7] ce) (bZ T U N ae d i o++[.list dk]) K)=
 ao (ltI (.ofNat f) (.ofNat e)) (ao (cb 0 (.ofNat f)&&(cb (.ofNat f) (.ofNat e)&&(cb (.ofNat e) d0.length&&ltI (.ofNat e) 65536))) (ao (cb 0 (.ofNat f)&&(cb (.ofNat f) (.ofNat e)&&(cb (.ofNat e) d.length&&ltI (.ofNat e) 65536)))
  (ao (c1 (ch d0 f e).length (ch d f e).length&&(c1 ((ch d0 f e).length% 2) 0&&de (ch d0 f e).length 40)) (ao (cb 0 c&&cb c 65535) (K .next (kZ d0 pl u (js c (ch d0 f e) (ch d f e)) (.int (.ofNat f)) (.int (.ofNat e))) (bZ T U N ae d i o++[.list dk])) False) False) False) False)
  (K .next (kZ d0 pl u c (.int (.ofNat f)) (.int (.ofNat e))) (bZ T U N ae d i o++[.list dk])):=by kernel_rfl
def wL (T U N ae i o c:Int)(d:List Int)(pl:Nat)(dk:List V)(K:List an→Prop):Prop:=
 ao (cb 0 c&&decide (c<256^(2:Int).toNat)) (cY ((0:Int)≤ .ofNat pl∧mI pl≤mI pl+2∧mI pl+2<2^62) (ao (cb (.ofNat pl+2) d.length&&c1 (bf c (2:Int).toNat).length ((mI pl+2).toNat-(mI pl).toNat))
  (K (bZ T U N ae (d.take pl++bf c 2++d.drop (pl+2)) i o++[.list dk])) False)) False
theorem aag:b4 (bh aT (m+2)) aP Ab (kZ d0 pl false c x y) (bZ T U N ae d i o++[.list dk]) K=wL T U N ae i o c d pl dk (K .next (kZ d0 pl false c x y)):=by kernel_rfl
theorem aah:b4 (bh aT (m+2)) aP Ab (kZ d0 pl true c x y) (bZ T U N ae d i o++[.list dk]) K=
 ao (decide (c=0)) (wL T U N ae i o 65535 d pl dk (K .next (kZ d0 pl true 65535 x y))) (wL T U N ae i o c d pl dk (K .next (kZ d0 pl true c x y))):=by kernel_rfl
def Em (m:Nat)(T U N ae i o:Int)(d0 d:List Int)(pl:Nat)(u:Bool)(dk:List V)(K:dM):Prop:=
 iy 6 (fun v loc H K=>lT v H 2 fun ce=>b4 (bh aT (m+2)) aP Ac (jw loc [6,7] ce) H K) (hk (.ref 5) dk (bZ T U N ae d i o++[.list dk])) (dk.length+1) 0 dk (kZ d0 pl u (cP (ch d0 pl (pl+2))) .aQ .aQ)
  (bZ T U N ae d i o++[.list dk]) (gi (b4 (bh aT (m+2)) aP Ab) K)
theorem aai {K:bE}:cR (bh aT (m+2)) aP sS [.ref 0,.bytes d0,.int (.ofNat pl),.ref 5,.bool false] (bZ T U N ae d i o++[.list dk]) K=
 ao (gx (E (.ofNat pl))&&gx (E (.ofNat pl+2))) (ao (de (ch d0 pl (pl+2)).length 20) (Em m T U N ae i o d0 d pl false dk (e2 K)) False) False:=by kernel_rfl
theorem aaj {K:bE}:cR (bh aT (m+2)) aP sS [.ref 0,.bytes d0,.int (.ofNat pl),.ref 5,.bool true] (bZ T U N ae d i o++[.list dk]) K=
 ao (gx (E (.ofNat pl))&&gx (E (.ofNat pl+2))) (ao (de (ch d0 pl (pl+2)).length 20) (ao (decide (cP (ch d0 pl (pl+2))=0)) (K .none (bZ T U N ae d i o++[.list dk])) (Em m T U N ae i o d0 d pl true dk (e2 K))) False) False:=by kernel_rfl
end
theorem Nj {x:Int}(h:EC x=E n):x=.ofNat n:=by
 induction x using xN with
 |ofNat m=>obtain rfl:=cF h;rfl
 |negSucc m=>exact c5 h
theorem afq {p:Nat×Nat}(h:bk v=E p):v=.tup [.int (.ofNat p.1),.int (.ofNat p.2)]:=by refine dC h fun a aC h=>?_;refine dD (CA h) fun f e g=>?_;obtain rfl:=g.2.2;rw[(tZ _).1 _ _ aC,←Nj g.1,←Nj g.2.1];rfl
theorem O9 {dk:List V}:∀{st:List (Nat×Nat)},stN dk=E st→dk.length=st.length∧∀(i:Nat) (v:V),dk[i]? =E v→∃f e,v=.tup [.int (.ofNat f),.int (.ofNat e)]∧st[i]? =E (f,e):=by
 induction dk with
 |nil=>intro st h;obtain rfl:=cF h;exact⟨rfl,fun i v e=>c5 e⟩
 |cons v r aF=>
  intro st h;refine dC h fun p a8 h=>?_;refine eB h fun el R=>?_;refine b8 (aF R) fun Z bv=>⟨congrArg (· +1) Z,fun i v cp=>?_⟩
  induction i using ia with
  |zero=>obtain rfl:=cF cp;exact⟨_,_,afq a8,rfl⟩
  |succ i=>exact bv i v cp
theorem aap (c:Int)(o n:List Int):0≤js c o n∧js c o n≤65535:=by have:=Wm (65535-c+65535*(o.length/2)-wsum o+wsum n);unfold js;exact⟨Int.sub_nonneg_of_le this.2,Int.sub_le_self _ this.1⟩
theorem afB {d:List Int}{p:Nat×Nat}(h:0≤c∧c≤65535):0≤k7 d0 d c p∧k7 d0 d c p≤65535:=by
 unfold k7
 split
 .exact aap _ _ _
 .exact h
section
variable {T U N ae i o:Int}{d:List Int}{f e:Nat}{dk:List V}{st:List (Nat×Nat)}{x y:V}
theorem aak {K:dM}(h:0≤c∧c≤65535)(g:(de e d0.length&&(de e d.length&&(c1 ((e-f)% 2) 0&&(de (e-f) 40&&dT e 65536))))=true)
 (k:K .next (kZ d0 pl u (k7 d0 d c (f,e)) (.int (.ofNat f)) (.int (.ofNat e))) (bZ T U N ae d i o++[.list dk])):
 lT (.tup [.int (.ofNat f),.int (.ofNat e)]) (bZ T U N ae d i o++[.list dk]) 2 fun ce=>b4 (bh aT (m+2)) aP Ac (jw (kZ d0 pl u c x y) [6,7] ce) (bZ T U N ae d i o++[.list dk]) K:=by
 rw[aal];refine b5 g fun g1 g=>b5 g fun bM g=>b5 g fun g3 g=>b5 g fun ek ht=>?_;have g1:=d5 g1;have bM:=d5 bM;unfold k7 at k;cases az:dT f e with
 |true=>
  rw[az] at k;have ec:f<e:=d5 az;have a2:∀n:Nat,e≤n→(cb 0 (.ofNat f)&&(cb (.ofNat f) (.ofNat e)&&(cb (.ofNat e) (n:Int)&&ltI (.ofNat e) 65536)))=true:=fun n aL=>
   nO (z5 (a:=0) (jz _)) (nO (z5 (xS ec)) (nO (z5 aL) (MI (b:=65536) (d5 ht))))
  have a3:(c1 (ch d0 f e).length (ch d f e).length&&(c1 ((ch d0 f e).length% 2) 0&&de (ch d0 f e).length 40))=true:=by rw[ou,ou,q3 g1,q3 bM];exact nO (pH _) (nO g3 ek)
  have s8:(cb 0 c&&cb c 65535)=true:=by rw[i1,i1];exact nO (decide_eq_true h.1) (decide_eq_true h.2)
  with_reducible exact jJ (MI ec) (jJ (a2 _ g1) (jJ (a2 _ bM) (jJ a3 (jJ s8 k))))
 |false=>
  rw[az] at k;have a1:ltI (.ofNat f) (.ofNat e)=false:=by rw[jr,decide_eq_false_iff_not];exact fun q=>j9 ((lY.mpr (je.mp q)).symm.trans az)
  with_reducible exact p5 a1 k
inductive yq (d0 d:List Int)(pl:Nat)(u:Bool)(st:List (Nat×Nat))(j:Nat):List V→Prop
 |mk (x y:V):(x=V.aQ∧y=V.aQ)∨(∃a b,x=V.int a∧y=V.int b)→yq d0 d pl u st j (kZ d0 pl u ((st.take j).foldl (k7 d0 d) (cP (ch d0 pl (pl+2)))) x y)
theorem JR {st:List (Nat×Nat)}:∀{c:Int},0≤c∧c≤65535→0≤st.foldl (k7 d0 d) c∧st.foldl (k7 d0 d) c≤65535:=by
 induction st with
 |nil=>exact fun h=>h
 |cons p st aF=>exact fun h=>aF (afB h)
theorem aaf {K:dM}(hu:stN dk=E st)(g:AY d0.length d.length st=true)(aI:0≤cP (ch d0 pl (pl+2))∧cP (ch d0 pl (pl+2))≤65535)(nV:dk[j]? =E v)(h:yq d0 d pl u st j loc)
 (m7:∀loc,yq d0 d pl u st (j+1) loc→K .next loc (bZ T U N ae d i o++[.list dk])):lT v (bZ T U N ae d i o++[.list dk]) 2 fun ce=>b4 (bh aT (m+2)) aP Ac (jw loc [6,7] ce) (bZ T U N ae d i o++[.list dk]) K:=by
 induction h with
 |mk x y aR=>
  refine dD ((O9 hu).2 j v nV) fun f e bT=>?_;rw[bT.1];have aB:=m7 _ (.mk (.int (.ofNat f)) (.int (.ofNat e)) (.inr ⟨_,_,rfl,rfl⟩));rw[List.take_add_one,bT.2,List.foldl_append] at aB;replace aB:K .next (kZ d0 pl u (k7 d0 d ((st.take j).foldl (k7 d0 d) (cP (ch d0 pl (pl+2)))) (f,e)) (.int (.ofNat f)) (.int (.ofNat e))) (bZ T U N ae d i o++[.list dk]):=aB;unfold AY at g
  with_reducible exact aak (JR aI) (List.all_eq_true.mp g (f,e) (List.mem_of_getElem? bT.2)) aB
theorem MM {K:dM}(hu:stN dk=E st)(g:AY d0.length d.length st=true)
 (k:∀x y,b4 (bh aT (m+2)) aP Ab (kZ d0 pl u (st.foldl (k7 d0 d) (cP (ch d0 pl (pl+2)))) x y) (bZ T U N ae d i o++[.list dk]) K)(aI:0≤cP (ch d0 pl (pl+2))∧cP (ch d0 pl (pl+2))≤65535):Em m T U N ae i o d0 d pl u dk K:=by
 refine De (fun j loc=>yq d0 d pl u st j loc) (fun j v loc nV h hs m7=>aaf hu g aI nV h m7) (fun j loc h P a8=>?_) (fun P a8=>a8) (fun loc h=>?_) _ 0 _ (.mk .aQ .aQ (.inl ⟨rfl,rfl⟩)) (jz _) (jy _)
 .induction h with
  |mk x y aR=>
   unfold trunc
   split
   .rcases aR with⟨rfl,rfl⟩|⟨a,b,rfl,rfl⟩<;>exact a8
   .exact a8
 .rw[(O9 hu).1] at h;have e:st.take st.length=st:=List.take_length
  induction h with
  |mk x y aR=>rw[e];exact k x y
theorem En {K:List an→Prop}(h:0≤c∧c≤65535)(a8:pl+2≤d.length)(a9:pl<65000)(k:K (bZ T U N ae (putL d pl (bf c 2)) i o++[.list dk])):wL T U N ae i o c d pl dk K:=by
 have a1:(cb 0 c&&decide (c<256^(2:Int).toNat))=true:=by rw[i1];exact nO (decide_eq_true h.1) (decide_eq_true (Br h.2 (by decide)))
 have a2:(0:Int)≤ .ofNat pl∧mI pl≤mI pl+2∧mI pl+2<2^62:=⟨lf _,Qr (by decide),ko (xM (je.mpr a9) 2) (by decide)⟩;have a3:(cb (.ofNat pl+2) d.length&&c1 (bf c (2:Int).toNat).length ((mI pl+2).toNat-(mI pl).toNat))=true:=by rw[iu];refine nO (z5 (a:=pl+2) a8) ?_;rw[show(mI pl+2).toNat-(mI pl).toNat=2 from sF ..];rfl
 have e:d.take pl++bf c 2++d.drop (pl+2)=putL d pl (bf c 2):=by unfold putL;rw[iu]
 unfold wL;rw[e]
 with_reducible exact jJ a1 (iV a2 (jJ a3 k))
end
theorem oh:∀(xs ys:List Int),ms true xs ys=xs
 | [],_=>rfl
 |_::_,[]=>rfl
 |x::xs,_::ys=>congrArg (x:: ·) (oh xs ys)
theorem og:∀(xs ys:List Int),ms false xs ys=ys
 | [],_=>rfl
 |_::_,[]=>rfl
 |_::xs,y::ys=>congrArg (y:: ·) (og xs ys)
theorem aeH {d:List Int}(h:ee d)(i j:Nat):ee (ch d i j):=fun x aR=>h x (List.mem_of_mem_take (List.mem_of_mem_drop aR))
theorem YX (m:Nat){d:List Int}{T U N ae i o:Int}{dk:List V}(hd:ee d0)(h:Ae d0 pl u T U N ae d i o dk K):
 cR (bh aT (m+2)) aP sS [.ref 0,.bytes d0,.int (.ofNat pl),.ref 5,.bool u] (bZ T U N ae d i o++[.list dk]) K:=by
 unfold Ae at h;cases hu:stN dk with
 |none=>rw[hu] at h;exact h.elim
 |some st=>
  rw[hu] at h;refine j1 h fun g h=>b5 g fun g1 g=>b5 g fun bM g=>b5 g fun g3 ek=>?_;have g3:=d5 g3;have ek:pl<65000:=d5 ek;have iJ:(ch d0 pl (pl+2)).length=2:=by rw[ou,q3 (d5 bM)];exact sF ..
  have rV:=NA (aeH hd pl (pl+2));rw[iJ] at rV;have wR:0≤cP (ch d0 pl (pl+2))∧cP (ch d0 pl (pl+2))≤65535:=⟨rV.1,Int.le_of_lt_add_one rV.2⟩;have a1:(gx (E (.ofNat pl))&&gx (E (.ofNat pl+2)))=true:=nO (ph (lf _) (je.mpr (sI ek (by decide)))) (ph (lf (pl+2)) (je.mpr (sI (Nat.add_lt_add_right ek 2) (by decide))));have a2:de (ch d0 pl (pl+2)).length 20=true:=by rw[iJ];rfl
  have IK:=JR (d0:=d0) (d:=d) (st:=st) wR;clear iJ rV g
  induction u using eo with
  |false=>
   rw[aai]
   with_reducible refine jJ a1 (jJ a2 ?_)
   refine MM hu g1 (fun x y=>?_) wR;rw[aag];exact En IK g3 ek h
  |true=>
   rw[aaj]
   with_reducible refine jJ a1 (jJ a2 ?_)
   unfold Ep at h;cases eU:decide (cP (ch d0 pl (pl+2))=0) with
   |true=>simp only[eU,oh] at h;exact h
   |false=>
    simp only[eU,og] at h;refine MM hu g1 (fun x y=>?_) wR;rw[aah];unfold jl at h;cases aW:decide (st.foldl (k7 d0 d) (cP (ch d0 pl (pl+2)))=0) with
    |true=>simp only[aW] at h;exact En (by decide) g3 ek h
    |false=>simp only[aW] at h;exact En IK g3 ek h
theorem YY (m:Nat){d:List Int}{pl:Int}{T U N ae i o:Int}{dk:List V}(hd:ee d0)(h:match pl with|.ofNat pl=>Ae d0 pl u T U N ae d i o dk K|_=>False):
 cR (bh aT (m+2)) aP sS [.ref 0,.bytes d0,.int pl,.ref 5,.bool u] (bZ T U N ae d i o++[.list dk]) K:=by
 induction pl using xN with
 |ofNat pl=>exact YX m hd h
 |negSucc _=>exact h.elim
theorem ac3 (m:Nat):fF (bh aT (m+2)) aP FL sS:=E0 fun(a:Unit×List Int×Int×Unit×Bool×Unit) (x:Unit×(Unit×Unit×Int×Int×Int×Int×Unit×Unit)×List Int×Unit×(Unit×Unit×Int×Int×Unit×Unit×Unit×Unit×Unit×Unit)×List V×Unit) K fC fY h=>
 ki (by kernel_rfl) (YY m (d0:=a.2.1) (pl:=a.2.2.1) (u:=a.2.2.2.2.1) (T:=x.2.1.2.2.1) (U:=x.2.1.2.2.2.1) (N:=x.2.1.2.2.2.2.1) (ae:=x.2.1.2.2.2.2.2.1) (d:=x.2.2.1) (i:=x.2.2.2.2.1.2.2.1) (o:=x.2.2.2.2.1.2.2.2.1) (dk:=x.2.2.2.2.2.1) (K:=K) (fY (.bytes a.2.1) (.tail _ (.head _))).1 (ki (by kernel_rfl) h))
def E4 (m:Nat)(ae i o':Int)(K:bE):pU:=fun T U N b pos o d=>cR (bh aT (m+5)) aP vh [.ref 0,.str b,.int pos,.bytes o] (bZ T U N ae d i o') (dY (bZ T U N ae d i o') K)
def E5 (ae i o':Int)(K:bE):pU:=fun T U N b pos o d=>ao (!(decide (ch d (jH (c1 b jL) N pos) (jH (c1 b jL) N pos+o.length)=o))) (K .none (bZ T U N ae (dA T U N (e1 (d.getD 0 0)) (c1 b jL) pos o d) i o')) (K .none (bZ T U N ae d i o'))
theorem RB (m:Nat)(ae i o':Int)(K:bE)(g q:Nat→Int)(dm:List Int):(shapes.take 46).map (lM (E4 m ae i o' K) g q dm)=(shapes.take 46).map (lM (E5 ae i o' K) g q dm):=by kernel_rfl
theorem RC (m:Nat)(ae i o':Int)(K:bE)(g q:Nat→Int)(dm:List Int):(shapes.drop 46).map (lM (E4 m ae i o' K) g q dm)=(shapes.drop 46).map (lM (E5 ae i o' K) g q dm):=by kernel_rfl
theorem RA (m:Nat)(ae i o':Int)(K:bE):Cj (E4 m ae i o' K) (E5 ae i o' K):=fun g q dm=>MO 46 (RB m ae i o' K g q dm) (RC m ae i o' K g q dm)
theorem acu (m:Nat)(T U ae pos:Int)(d o:List Int)(i o':Int)(K:bE):
 cR (bh aT (m+5)) aP vh [.ref 0,.str jL,.int pos,.bytes o] (bZ T U (-1) ae d i o') (dY (bZ T U (-1) ae d i o') K)=K .none (bZ T U (-1) ae d i o'):=by kernel_rfl
theorem acw {d e:List Int}{f:List Int→Prop}(h:Ev (f (ms b d e))):Ev (ao (!b) (f e) (f d)):=by
 induction b using eo with
 |true=>rw[oh] at h;exact⟨h.out⟩
 |false=>rw[og] at h;exact⟨h.out⟩
theorem Y0 (m:Nat){b:Nat}{pos:Int}{o:List Int}{T U N ae:Int}{d:List Int}{i:Int}(bD:Ev (putK b pos o T U N ae d i o' K)):
 Ev (cR (bh aT (m+5)) aP vh [.ref 0,.str b,.int pos,.bytes o] (bZ T U N ae d i o') (dY (bZ T U N ae d i o') K)):=by
 unfold putK at bD;cases eU:(c1 b jL&&decide (N= -1)) with
 |true=>have aW:=(fJ _ _▸eU:_∧_);have aJ:=fQ aW.1;have cJ:=of_decide_eq_true aW.2;have h:=jn eU bD;rw[aJ,cJ];rw[cJ] at h;exact aK (acu m T U ae pos d o i o' K) h
 |false=>exact b8 (gG (iY eU bD)) fun c h=>NP (RA m ae i o' K) c (acw (f:=fun e=>K .none (bZ T U N ae e i o')) h)
theorem ac8 (m:Nat):fF (bh aT (m+5)) aP FP vh:=mZ fun(a:Unit×Nat×Int×List Int×Unit) (x:et) K fC fY bD=>
 aK (by kernel_rfl) (Y0 (b:=a.2.1) (pos:=a.2.2.1) (o:=a.2.2.2.1) (T:=x.kind) (U:=x.U) (N:=x.off) (ae:=x.place) (d:=x.d) (i:=x.i) (o':=x.o) (K:=K) m (aK (by kernel_rfl) bD))
theorem Ft (d:List Int)(i j k:Nat)(h:i+k<j):(ch d i j).getD k 0=d.getD (i+k) 0:=by unfold ch;rw[List.getD_eq_getElem?_getD,List.getD_eq_getElem?_getD,List.getElem?_drop,List.getElem?_take_of_lt h]
theorem jP {a:Bool}(h:(a||b)=true):a=true∨b=true:=xJ.mp h
section
variable {T U N ae i o:Int}{d:List Int}
theorem VA:cR (bh aT (m+2)) aP yn [.ref 0] (bZ 2048 U N ae d i o) (dY (bZ 2048 U N ae d i o) K)=
 ao (ltI d.length 9) (K (.int 0) (bZ 2048 U N ae d i o)) (cY (0<(ch d 8 9).length) (K (.int ((ch d 8 9).getD 0 0)) (bZ 2048 U N ae d i o))):=by kernel_rfl
theorem VB:cR (bh aT (m+2)) aP yn [.ref 0] (bZ 34525 U N ae d i o) (dY (bZ 34525 U N ae d i o) K)=
 ao (ltI d.length 8) (K (.int 0) (bZ 34525 U N ae d i o)) (cY (0<(ch d 7 8).length) (K (.int ((ch d 7 8).getD 0 0)) (bZ 34525 U N ae d i o))):=by kernel_rfl
end
theorem pa {a b:Int}(h:b≤a):ltI a b=false:=by rw[jr,decide_eq_false_iff_not];lia
theorem rQ {a b:Int}(h:a<b):ltI a b=true:=by rw[jr,decide_eq_true_iff];exact h
theorem Mv {a b:Int}(h:b<a):cb a b=false:=by rw[i1,decide_eq_false_iff_not];lia
theorem qz {a b:Int}(h:a≤b):cb a b=true:=by rw[i1,decide_eq_true_iff];exact h
theorem wI {a b:Int}(h:cb a b=true):a≤b:=by rwa [i1,decide_eq_true_iff] at h
theorem pb {a b:Int}(h:ltI a b=true):a<b:=by rwa [jr,decide_eq_true_iff] at h
theorem EM {a b:Int}(h:ltI a b=false):b≤a:=by rw[jr,decide_eq_false_iff_not] at h;lia
theorem EL {a b:Int}(h:cb a b=false):b<a:=by rw[i1,decide_eq_false_iff_not] at h;lia
theorem jm {c:Prop}[Decidable c]{P:Prop}(h:c)(p:Ev P):Ev (cY c P):=⟨iV h p.out⟩
theorem adc (m:Nat):fF (bh aT (m+2)) aP FS yn:=uj fun T U N ae d i o K hd h=>by
 unfold PJ at h;refine b8 (gG h) fun e h=>?_;rcases jP e with e|e<;>(refine b5 e fun aW aJ=>?_;rw[of_decide_eq_true aW] at h⊢;have aJ:=d5 aJ)
 .refine aK VA (eb (pa (by lia)) (jm (by rw[ou];lia) ?_));rw[Ft _ _ _ _ (by decide)];exact h
 .refine aK VB (eb (pa (by lia)) (jm (by rw[ou];lia) ?_));rw[Ft _ _ _ _ (by decide)];exact h
section
variable {T U N ae i o:Int}{d:List Int}
theorem Ve:cR (bh aT (m+3)) aP yg [.ref 0] (bZ 2048 U N ae d i o) (dY (bZ 2048 U N ae d i o) K)=
 ao (ltI d.length 8) (ao (decide (N=20)) (K (.bool false) (bZ 2048 U N ae d i o)) (K (.bool (decide (N=20))) (bZ 2048 U N ae d i o)))
  (ao (decide (N=20)) (ao (de (ch d 6 8).length 20) (K (.bool (decide (Builtin.bitAnd (cP (ch d 6 8)) 16383=0))) (bZ 2048 U N ae d i o)) False) (K (.bool (decide (N=20))) (bZ 2048 U N ae d i o))):=by kernel_rfl
theorem Vf:cR (bh aT (m+3)) aP yg [.ref 0] (bZ 34525 U N ae d i o) (dY (bZ 34525 U N ae d i o) K)=
 ao (decide True) (K (.bool (decide (N=40))) (bZ 34525 U N ae d i o)) False:=by kernel_rfl
end
theorem acX (m:Nat):fF (bh aT (m+3)) aP FF yg:=uj fun T U N ae d i o K hd h=>by
 unfold N7 at h;refine b8 (gG h) fun e h=>?_;rcases jP e with e|e<;>(refine b5 e fun aW aJ=>?_;rw[of_decide_eq_true aW] at h⊢;have aJ:=d5 aJ)
 .change Ev (K (.bool (decide (N=20)&&decide (Builtin.bitAnd (cP (ch d 6 8)) 16383=0))) _) at h;refine aK Ve (eb (pa (by lia)) (dQ (fun cJ=>?_) fun cJ=>?_))
  .rw[cJ,nx] at h;exact cw (lY.mpr (by rw[ou];lia)) h
  .rw[cJ,oG] at h;rw[cJ];exact h
 .exact aK Vf (cw rfl h)
noncomputable def cE (n:Bool):Int:=match n with|true=>2048|false=>34525
noncomputable def cA (b:Bool):Int:=match b with|true=>2|false=>10
noncomputable def aZ (b:Bool):Int:=match b with|true=>6|false=>17
@[elab_as_elim] theorem wH {aA:Int→Prop}{U:Int}(h:(decide (U=6)||decide (U=17))=true)(k:∀b,aA (aZ b)):aA U:=(jP h).elim (fun g=>of_decide_eq_true g▸k true) fun g=>of_decide_eq_true g▸k false
@[elab_as_elim] theorem D5 {aA:Int→Prop}{T:Int}(h:(decide (T=2048)||decide (T=34525))=true)(k:∀n,aA (cE n)):aA T:=(jP h).elim (fun g=>of_decide_eq_true g▸k true) fun g=>of_decide_eq_true g▸k false
@[elab_as_elim] theorem EF {aA:Int→Prop}{n:Int}(h:(decide (n=2)||decide (n=10))=true)(k:∀b,aA (cA b)):aA n:=(jP h).elim (fun g=>of_decide_eq_true g▸k true) fun g=>of_decide_eq_true g▸k false
theorem agh (x:Int)(k:Nat):(x+k).toNat-x.toNat≤k:=match x with
 |.ofNat a=>sH (sF ..)
 |.negSucc a=>Int.toNat_le.mpr (q1 (Int.add_le_add_right (oH (GH a)) k) (Int.le_of_eq (Bt _)))
theorem OZ (d:List Int)(x:Int)(k:Nat):(ch d x.toNat (x+k).toNat).length≤k:=by rw[ou];exact e4 (Qx (GO _ _) _) (agh x k)
theorem AP (d:List Int)(a k:Nat):(ch d a (a+k)).length≤k:=by rw[ou];exact e4 (Qx (GO _ _) _) (sH (sF ..))
theorem EU {x y:Int}(bl:0≤x)(R:x≤y)(Z:y<65540):(gx (E x)&&gx (E y))=true:=by rw[ph bl (Br R Z),ph (q1 bl R) Z];rfl
section
variable {T U N ae i o:Int}{d:List Int}
def JO (T U N ae:Int)(d:List Int)(i o:Int)(K:bE):Prop:=ao (ltI N 0) (K (.int (-1)) (bZ T U N ae d i o)) (ao (ltI d.length (N+13+1)) (K (.int (-1)) (bZ T U N ae d i o))
 (ao (gx (E (N+13))&&gx (E (N+13+1))) (cY (0<(ch d (N+13).toNat (N+13+1).toNat).length) (K (.int ((ch d (N+13).toNat (N+13+1).toNat).getD 0 0)) (bZ T U N ae d i o))) False))
theorem UZ:cR (bh aT (m+2)) aP BU [.ref 0] (bZ T U N ae d i o) (dY (bZ T U N ae d i o) K)=JO T U N ae d i o K:=by kernel_rfl
theorem V8 {a:Nat}(R:(a:Int)<1000)(h:Ev (K (.int (gd a d)) (bZ T U a ae d i o))):Ev (JO T U a ae d i o K):=by
 unfold gd at h;refine eb (pa (lf _)) (dQ (fun e=>?_) fun e=>?_)
 .rw[e] at h;exact h
 .rw[e] at h;refine cw (EU (lf (a+13)) (oH (Int.lt_succ _)) (ko (xM (xM R 13) 1) (by decide))) (jm (?_:0<(ch d (a+13) (a+13+1)).length) (?_:Ev (K (.int ((ch d (a+13) (a+13+1)).getD 0 0)) _)))
  .rw[ou,q3 ((lg (m:=a+13+1)).mp (EM e)),sF];exact Nat.one_pos
  .rw[Ft d (a+13) (a+13+1) 0 (jy _)];exact h
end
theorem acS (m:Nat):fF (bh aT (m+2)) aP Fz BU:=uj fun T U N ae d i o K hd h=>
 b8 (gG h) fun e h=>b5 e fun aW aJ=>aK UZ (by obtain⟨a,rfl⟩:=jV (wI aW);exact V8 (pb aJ) h)
section
variable {T U N ae i o:Int}{d:List Int}
def Gi (eO fT:List Int)(T U N ae:Int)(d:List Int)(i o:Int)(K:bE):Prop:=ao (ltI N 0) (K .none (bZ T U N ae d i o)) (ao (ltI d.length (N+4)) (K .none (bZ T U N ae d i o))
 (ao (gx (E N)&&gx (E (N+2))) (ao (de (ot d N).length 20) (ao (gx (E (N+2))&&gx (E (N+4))) (ao (de (ch d (N+2).toNat (N+4).toNat).length 20)
  (ao (de eO.length 20) (ao (de fT.length 20) (K (.tup [.int (match decide (T=2048) with|true=>2|false=>10),.int U,.int (cP eO),.int (cP (ot d N)),.int (cP fT),.int (cP (ch d (N+2).toNat (N+4).toNat))]) (bZ T U N ae d i o)) False) False) False) False) False) False))
theorem VC:∀n b:Bool,cR (bh aT (m+4)) aP B0 [.ref 0] (bZ (cE n) (aZ b) N ae d i o) (dY (bZ (cE n) (aZ b) N ae d i o) K)=Gi (yE (cE n) d) (yF (cE n) d) (cE n) (aZ b) N ae d i o K:=all2 (by kernel_rfl)
theorem aeF (d:List Int)(N:Int):ch d (N+2).toNat (N+4).toNat=ot d (N+2):=by unfold ot;rw[GB];rfl
theorem Iw (n:Bool)(d:List Int):(yE (cE n) d).length≤20∧(yF (cE n) d).length≤20:=by
 cases n
 .exact⟨e4 (AP d 8 16) (by decide),e4 (AP d 24 16) (by decide)⟩
 .exact⟨e4 (AP d 12 4) (by decide),e4 (AP d 16 4) (by decide)⟩
theorem agt (eO fT:List Int)(h:ltI N 0=false)(g:(cb (N+4) d.length&&ltI N 1000)=true)(R:eO.length≤20)(Z:fT.length≤20)
 (k:Ev (K (.tup [.int (match decide (T=2048) with|true=>2|false=>10),.int U,.int (cP eO),.int (cP (ot d N)),.int (cP fT),.int (cP (ot d (N+2)))]) (bZ T U N ae d i o))):Ev (Gi eO fT T U N ae d i o K):=by
 unfold Gi;rw[aeF];have bM:=pb (l8 g).2;have dy:=EM h;exact eb h (eb (pa (wI (l8 g).1)) (cw (EU dy (Qr (by decide)) (ko (xM bM 2) (by decide))) (cw (lY.mpr (e4 (OZ d N 2) (by decide))) (cw (EU (GC dy (by decide)) (Int.add_le_add_left (by decide) N) (ko (xM bM 4) (by decide)))
  (cw (lY.mpr (e4 (OZ d (N+2) 2) (by decide))) (cw (lY.mpr R) (cw (lY.mpr Z) k)))))))
end
theorem add (m:Nat):fF (bh aT (m+4)) aP FT B0:=uj fun T U N ae d i o K hd h=>by
 refine b8 (gG h) fun e h=>b5 e fun aW aJ=>?_;clear e;revert h;refine wH aW fun b=>D5 aJ fun n h=>aK (VC n b) ?_;cases eU:ltI N 0 with
 |true=>exact cw eU (jn eU h)
 |false=>exact b8 (gG (iY eU h)) fun g h=>agt _ _ eU g (Iw n d).1 (Iw n d).2 h
section
variable {T U N ae i o:Int}{d:List Int}
theorem UV:∀n b:Bool,cR (bh aT (m+3)) aP BW [.ref 0] (bZ (cE n) (aZ b) N ae d i o) (dY (bZ (cE n) (aZ b) N ae d i o) K)=K (.bool false) (bZ (cE n) (aZ b) N ae d i o):=all2 (by kernel_rfl)
def Jk (pos:Int)(t:Int)(T U N ae:Int)(d:List Int)(i o:Int)(K:bE):Prop:=
 ao (cb t 1) (K (.bool false) (bZ T U N ae d i o)) (ao (o7 [t-1]) (ao (gg T U N im pos 1 d) (K (.bool true) (bZ T U N ae (dA T U N (e1 (d.getD 0 0)) false pos [t-1] d) i o)) False) False)
theorem US:∀n:Bool,cR (bh aT (m+5)) aP BS [.ref 0] (bZ (cE n) U N ae d i o) (dY (bZ (cE n) U N ae d i o) K)=ao (hc (cE n) d 9 8) (Jk (nr (cE n)) (i9 (cE n) d) (cE n) U N ae d i o K) False:=all1 (by kernel_rfl)
theorem TQ (pos t:Int)(cW:t<256)(h:Ev (ao (cb t 1) (K (.bool false) (bZ T U N ae d i o)) (ao (gg T U N im pos 1 d) (K (.bool true) (bZ T U N ae (dA T U N (e1 (d.getD 0 0)) false pos [t-1] d) i o)) False))):Ev (Jk pos t T U N ae d i o K):=by refine dQ (fun e=>jn e h) fun e=>cw (DY fun x aR=>?_) (iY e h);rw[List.mem_singleton.mp aR];exact⟨Qs (ko (by decide) (EL e)),Br (Int.sub_le_self _ (by decide)) cW⟩
end
theorem acW (m:Nat):fF (bh aT (m+3)) aP FE BW:=uj fun T U N ae d i o K hd h=>by refine b8 (gG h) fun e h=>b5 e fun aW aJ=>?_;clear e;revert h;exact wH aW fun b=>D5 aJ fun n=>aK (UV n b)
theorem WD {d:List Int}(h:ee d)(k:Nat):d.getD k 0<256:=(getD_in h k).2
theorem K7 {T:Int}{d:List Int}(h:hc T d n m=true):(decide (T=2048)||decide (T=34525))=true:=by
 unfold hc at h;rcases jP h with h|h
 .rw[(l8 h).1];rfl
 .rw[(l8 h).1,xK]
theorem acQ (m:Nat):fF (bh aT (m+5)) aP Fx BS:=uj fun T U N ae d i o K hd h=>by refine b8 (gG h) fun e h=>?_;have g:=K7 e;revert h e;exact D5 g fun n e h=>aK (US n) (cw e (TQ _ _ (WD hd _) h))
section
variable {ae i o a b e:Int}{N:Int}{d:List Int}
def om (T U N ae:Int)(d:List Int)(i o:Int)(ag:Bool)(a p:Int)(K:bE):Prop:=
 ao (cb 0 a&&decide (a<256^w8 T)) (ao (gg T U N im (h7 T ag) (w8 T) d) (ao (cb 0 p&&decide (p<256^2))
  (ao (decide (N= -1)) (K .none (bZ T U N ae (hE T U N ag a d) i o)) (ao (gg T U N jL (iO ag) 2 (hE T U N ag a d))
   (K .none (bZ T U N ae (uh T U N (e1 ((hE T U N ag a d).getD 0 0)) true (iO ag) (bf p 2) (hE T U N ag a d)) i o)) False)) False) False) False
theorem Vn:cR (bh aT (m+6)) aP mP [.ref 0,.tup [.int 2,.int 6,.int a,.int b,.int c,.int e],.str rM] (bZ 2048 6 N ae d i o) (dY (bZ 2048 6 N ae d i o) K)=om 2048 6 N ae d i o true a b K:=by kernel_rfl
theorem Vm:cR (bh aT (m+6)) aP mP [.ref 0,.tup [.int 2,.int 6,.int a,.int b,.int c,.int e],.str tN] (bZ 2048 6 N ae d i o) (dY (bZ 2048 6 N ae d i o) K)=om 2048 6 N ae d i o false c e K:=by kernel_rfl
theorem Vp:cR (bh aT (m+6)) aP mP [.ref 0,.tup [.int 2,.int 17,.int a,.int b,.int c,.int e],.str rM] (bZ 2048 17 N ae d i o) (dY (bZ 2048 17 N ae d i o) K)=om 2048 17 N ae d i o true a b K:=by kernel_rfl
theorem Vo:cR (bh aT (m+6)) aP mP [.ref 0,.tup [.int 2,.int 17,.int a,.int b,.int c,.int e],.str tN] (bZ 2048 17 N ae d i o) (dY (bZ 2048 17 N ae d i o) K)=om 2048 17 N ae d i o false c e K:=by kernel_rfl
theorem Vr:cR (bh aT (m+6)) aP mP [.ref 0,.tup [.int 10,.int 6,.int a,.int b,.int c,.int e],.str rM] (bZ 34525 6 N ae d i o) (dY (bZ 34525 6 N ae d i o) K)=om 34525 6 N ae d i o true a b K:=by kernel_rfl
theorem Vq:cR (bh aT (m+6)) aP mP [.ref 0,.tup [.int 10,.int 6,.int a,.int b,.int c,.int e],.str tN] (bZ 34525 6 N ae d i o) (dY (bZ 34525 6 N ae d i o) K)=om 34525 6 N ae d i o false c e K:=by kernel_rfl
theorem Vt:cR (bh aT (m+6)) aP mP [.ref 0,.tup [.int 10,.int 17,.int a,.int b,.int c,.int e],.str rM] (bZ 34525 17 N ae d i o) (dY (bZ 34525 17 N ae d i o) K)=om 34525 17 N ae d i o true a b K:=by kernel_rfl
theorem Vs:cR (bh aT (m+6)) aP mP [.ref 0,.tup [.int 10,.int 17,.int a,.int b,.int c,.int e],.str tN] (bZ 34525 17 N ae d i o) (dY (bZ 34525 17 N ae d i o) K)=om 34525 17 N ae d i o false c e K:=by kernel_rfl
theorem qP {T U p:Int}(g:sd T U N ag a p d=true)(k:Ev (K .none (bZ T U N ae (kL T U N ag p (hE T U N ag a d)) i o))):Ev (om T U N ae d i o ag a p K):=by
 unfold sd at g;refine b5 g fun g1 g=>?_;refine b5 g fun bM g=>?_;refine b5 g fun g3 ek=>?_;unfold om;refine cw g1 (cw g3 (cw bM (dQ (fun e=>?_) fun e=>?_)))
 .unfold kL at k;rw[e] at k;exact k
 .rw[e,Bool.false_or] at ek;unfold kL at k;rw[e] at k;exact cw ek k
end
theorem ac9 (m:Nat):fF (bh aT (m+6)) aP FQ mP:=mZ fun(a:Unit×(Int×Int×Int×Int×Int×Int×Unit)×Nat×Unit) (x:et) K fC fY bD=>by
 have key:∀(T U N ae:Int) (d:List Int) (i o nf pr sa bF da dp:Int) (s:Nat),Ev (ao (c1 s rM) (ul T U N ae d i o nf pr true sa bF K) (ao (c1 s tN) (ul T U N ae d i o nf pr false da dp K) False))→
  Ev (cR (bh aT (m+6)) aP mP [.ref 0,.tup [.int nf,.int pr,.int sa,.int bF,.int da,.int dp],.str s] (bZ T U N ae d i o) (dY (bZ T U N ae d i o) K)):=fun T U N ae d i o nf pr sa bF da dp s h=>by
  cases e:c1 s rM with
  |true=>
   have h:=jn e h;rw[fQ e];unfold ul at h;refine b8 (gG h) fun g h=>?_;refine b8 (gG h) fun fo h=>?_;refine b5 g fun g1 bM=>?_;refine b5 bM fun bM g3=>?_;rw[of_decide_eq_true bM];rcases jP g1 with g1|g1<;>(have ek:=of_decide_eq_true (l8 g1).1;have ht:=of_decide_eq_true (l8 g1).2;rcases jP g3 with g3|g3<;>(have g3:=of_decide_eq_true g3;rw[ek,g3] at h fo⊢;rw[ht]))
   .exact aK Vn (qP fo h)
   .exact aK Vp (qP fo h)
   .exact aK Vr (qP fo h)
   .exact aK Vt (qP fo h)
  |false=>
   refine b8 (gG (iY e h)) fun e h=>?_;rw[fQ e];unfold ul at h;refine b8 (gG h) fun g h=>?_;refine b8 (gG h) fun fo h=>?_;refine b5 g fun g1 bM=>?_;refine b5 bM fun bM g3=>?_;rw[of_decide_eq_true bM];rcases jP g1 with g1|g1<;>(have ek:=of_decide_eq_true (l8 g1).1;have ht:=of_decide_eq_true (l8 g1).2;rcases jP g3 with g3|g3<;>(have g3:=of_decide_eq_true g3;rw[ek,g3] at h fo⊢;rw[ht]))
   .exact aK Vm (qP fo h)
   .exact aK Vo (qP fo h)
   .exact aK Vq (qP fo h)
   .exact aK Vs (qP fo h)
 exact aK (by kernel_rfl) (key (et.kind x) (et.U x) (et.off x) (et.place x) (et.d x) (et.i x) (et.o x) a.2.1.1 a.2.1.2.1 a.2.1.2.2.1 a.2.1.2.2.2.1 a.2.1.2.2.2.2.1 a.2.1.2.2.2.2.2.1 a.2.2.1 (aK (by kernel_rfl) bD))
def upd {a0:Type}(g:Nat→a0)(i:Nat)(x:a0)(j:Nat):a0:=match c1 i j with|true=>x|false=>g j
noncomputable def gs (n:Nat)(g:Nat→Int)(dm:List Int):List Int:=(List.range n).map g++dm
theorem sy {a0:Type}{g:Nat→a0}{i:Nat}{x:a0}(h:g i=x):upd g i x=g:=by
 funext j;unfold upd;cases e:c1 i j with
 |true=>rw[←h,fQ e]
 |false=>rfl
theorem Ct {d:List Int}(h:n≤d.length):d=gs n (fun i=>d.getD i 0) (d.drop n):=by
 unfold gs;have e:(List.range n).map (fun i=>d.getD i 0)=d.take n:=by rw[CB (l:=d.take n) (n:=n) (by rw[List.length_take];lia)];refine List.map_congr_left fun i hi=>?_;have:=List.mem_range.mp hi;rw[List.getD_eq_getElem?_getD,List.getD_eq_getElem?_getD,List.getElem?_take_of_lt this]
 rw[e,List.take_append_drop]
section
variable {g:Nat→Int}{dm:List Int}
theorem Vi:cR (bh aT (m+5)) aP oN [.bytes (gs 20 (upd g 0 69) dm),.int 2048] [] (dY [] K)=
 ao (decide (k2 (gs 20 (upd g 0 69) dm)=0)) (K (.ref 0) (bZ 2048 ((gs 20 (upd g 0 69) dm).getD 9 0) 20 (k2 (gs 20 (upd g 0 69) dm)) (gs 20 (upd g 0 69) dm) 0 0))
  (K (.ref 0) (bZ 2048 ((gs 20 (upd g 0 69) dm).getD 9 0) (-1) (k2 (gs 20 (upd g 0 69) dm)) (gs 20 (upd g 0 69) dm) 0 0)):=by kernel_rfl
theorem Vj:cR (bh aT (m+5)) aP oN [.bytes (gs 24 (upd g 0 70) dm),.int 2048] [] (dY [] K)=
 ao (decide (k2 (gs 24 (upd g 0 70) dm)=0)) (K (.ref 0) (bZ 2048 ((gs 24 (upd g 0 70) dm).getD 9 0) 24 (k2 (gs 24 (upd g 0 70) dm)) (gs 24 (upd g 0 70) dm) 0 0))
  (K (.ref 0) (bZ 2048 ((gs 24 (upd g 0 70) dm).getD 9 0) (-1) (k2 (gs 24 (upd g 0 70) dm)) (gs 24 (upd g 0 70) dm) 0 0)):=by kernel_rfl
theorem Vh:cR (bh aT (m+5)) aP oN [.bytes (gs 40 (upd (upd g 0 96) 6 6) dm),.int 34525] [] (dY [] K)=K (.ref 0) (bZ 34525 6 40 0 (gs 40 (upd (upd g 0 96) 6 6) dm) 0 0):=by kernel_rfl
theorem Vg:cR (bh aT (m+5)) aP oN [.bytes (gs 40 (upd (upd g 0 96) 6 17) dm),.int 34525] [] (dY [] K)=K (.ref 0) (bZ 34525 17 40 0 (gs 40 (upd (upd g 0 96) 6 17) dm) 0 0):=by kernel_rfl
theorem Vl:cR (bh aT (m+5)) aP oN [.bytes (gs 48 (upd (upd (upd (upd g 0 96) 6 60) 41 0) 40 6) dm),.int 34525] [] (dY [] K)=K (.ref 0) (bZ 34525 6 48 0 (gs 48 (upd (upd (upd (upd g 0 96) 6 60) 41 0) 40 6) dm) 0 0):=by kernel_rfl
theorem Vk:cR (bh aT (m+5)) aP oN [.bytes (gs 48 (upd (upd (upd (upd g 0 96) 6 60) 41 0) 40 17) dm),.int 34525] [] (dY [] K)=K (.ref 0) (bZ 34525 17 48 0 (gs 48 (upd (upd (upd (upd g 0 96) 6 60) 41 0) 40 17) dm) 0 0):=by kernel_rfl
theorem JL {d:List Int}{a:Nat}{x:Int}(h:n≤d.length)(bl:d.getD a 0=x):∃g,∃dm,d=gs n (upd g a x) dm:=⟨_,_,by rw[sy (g:=fun i=>d.getD i 0) bl];exact Ct h⟩
theorem VT {d:List Int}{a b:Nat}{x y:Int}(h:n≤d.length)(bl:d.getD a 0=x)(R:d.getD b 0=y):∃g,∃dm,d=gs n (upd (upd g a x) b y) dm:=⟨_,_,by rw[sy (g:=fun i=>d.getD i 0) bl,sy (g:=fun i=>d.getD i 0) R];exact Ct h⟩
theorem VU {d:List Int}{a b c e:Nat}{x y z w:Int}(h:n≤d.length)(bl:d.getD a 0=x)(R:d.getD b 0=y)(Z:d.getD c 0=z)(bv:d.getD e 0=w):∃g,∃dm,d=gs n (upd (upd (upd (upd g a x) b y) c z) e w) dm:=⟨_,_,by rw[sy (g:=fun i=>d.getD i 0) bl,sy (g:=fun i=>d.getD i 0) R,sy (g:=fun i=>d.getD i 0) Z,sy (g:=fun i=>d.getD i 0) bv];exact Ct h⟩
theorem NK {d:List Int}{n:Int}(e:decide (k2 d=0)=true):oc n d=n:=by unfold oc;rw[e]
theorem NJ {d:List Int}{n:Int}(e:decide (k2 d=0)=false):oc n d= -1:=by unfold oc;rw[e]
end
theorem ac6 (m:Nat):fF (bh aT (m+5)) aP FO oN:=mZ fun(a:List Int×Int×Unit) (x:Unit) K fC fY bD=>by
 have key:∀(d:List Int) (T:Int),Ev (E2 d T K)→Ev (cR (bh aT (m+5)) aP oN [.bytes d,.int T] [] (dY [] K)):=fun d T h=>by
  unfold E2 at h;cases e:decide (T=2048) with
  |true=>
   have h:=jn e h;rw[of_decide_eq_true e];cases aJ:(de 20 d.length&&decide (d.getD 0 0=69)) with
   |true=>have h:=jn aJ h;refine b5 aJ fun g1 bM=>?_;refine dD (JL (d5 g1) (of_decide_eq_true bM)) fun g dm hL=>?_;rw[hL] at h⊢;exact aK Vi (dQ (fun cJ=>by rw[NK cJ] at h;exact h) fun cJ=>by rw[NJ cJ] at h;exact h)
   |false=>refine b8 (gG (iY aJ h)) fun aJ h=>?_;refine b5 aJ fun g1 bM=>?_;refine dD (JL (d5 g1) (of_decide_eq_true bM)) fun g dm hL=>?_;rw[hL] at h⊢;exact aK Vj (dQ (fun cJ=>by rw[NK cJ] at h;exact h) fun cJ=>by rw[NJ cJ] at h;exact h)
  |false=>
   refine b8 (gG (iY e h)) fun aW h=>?_;refine b5 aW fun dy g1=>?_;refine b5 g1 fun g1 bM=>?_;rw[of_decide_eq_true dy];have g1:=d5 g1;have bM:=of_decide_eq_true bM;cases aJ:iA (d.getD 6 0) with
   |true=>
    have h:=jn aJ h;rcases jP aJ with g3|g3<;>(have g3:=of_decide_eq_true g3;refine dD (VT g1 bM g3) fun g dm hL=>?_;rw[g3] at h;rw[hL] at h⊢)
    .exact aK Vh h
    .exact aK Vg h
   |false=>
    refine b8 (gG (iY aJ h)) fun cJ h=>?_;refine b5 cJ fun g3 ek=>?_;refine b5 ek fun ek ht=>?_;refine b5 ht fun ht nW=>?_;have g3:=of_decide_eq_true g3;have ek:=d5 ek;have ht:=of_decide_eq_true ht;rcases jP nW with nW|nW<;>(have nW:=of_decide_eq_true nW;refine dD (VU ek bM g3 ht nW) fun g dm hL=>?_;rw[nW] at h;rw[hL] at h⊢)
    .exact aK Vl h
    .exact aK Vk h
 exact aK (by kernel_rfl) (key a.1 a.2.1 (aK (by kernel_rfl) bD))
section
variable {sa da:Int}
theorem eq_inv:∀n b:Bool,cR (bh aT (m+1)) aP yf [.tup [.int (cA n),.int (aZ b),.int sa,.int bF,.int da,.int dp]] [] (dY [] K)=K (.tup [.int (cA n),.int (aZ b),.int da,.int dp,.int sa,.int bF]) []:=all2 (by kernel_rfl)
theorem Yt (pr:Int)(h:Ev (KQ nf pr sa bF da dp K)):
 Ev (cR (bh aT (m+1)) aP yf [.tup [.int nf,.int pr,.int sa,.int bF,.int da,.int dp]] [] (dY [] K)):=by
 refine b8 (gG h) fun e h=>b5 e fun aW aJ=>?_;clear e;revert h;exact wH aW fun b=>EF aJ fun n=>aK (eq_inv n b)
end
theorem acV (m:Nat):fF (bh aT (m+1)) aP FD yf:=mZ fun(a:ej×Unit) (x:Unit) K fC fY bD=>
 aK (by kernel_rfl) (Yt (m:=m) (K:=K) (nf:=a.1.1) (sa:=a.1.2.2.1) (bF:=a.1.2.2.2.1) (da:=a.1.2.2.2.2.1) (dp:=a.1.2.2.2.2.2.1) a.1.2.1 (aK (by kernel_rfl) bD))
noncomputable def DE:ff:=.cons (.iff (.cmp .Eq (.sub (.sub (.attr (.loc 0) 32382534832) (.loc 2)) (.int 0)) (.attr (.loc 1) 4136611441551)) (.cons (.ret (.bool true)) .nil) .nil) .nil
section
variable {t:Nat}{x:er}{cX:V}{K:dM}
def wa (t:Nat)(x:er)(aD:List V)(K:dM):Option V→Prop:=fun r=>k1 r fun w=>xk w (.int 0) (dB 0 x) fun a bp=>rg (.ref t) 4136611441551 bp fun b=>tj .Eq a b bp fun c=>
 ao c (K (.ret (.bool true)) [.ref 0,.ref t,.tup aD] bp) (K .next [.ref 0,.ref t,.tup aD] bp)
theorem Xv:b4 C aP DE ([.ref 0,.ref t,cX].set 2 (.tup aD)) (dB 0 x) K=jK (.tup aD) x.aH (wa t x aD K):=by kernel_rfl
theorem Xw {a b:Int}:wa 4 x aD K (E (.tup [.int a,.int b,.int c]))=ao (decide (a=1)) (K (.ret (.bool true)) [.ref 0,.ref 4,.tup aD] (dB 0 x)) (K .next [.ref 0,.ref 4,.tup aD] (dB 0 x)):=by kernel_rfl
theorem Xx {a b:Int}:wa 6 x aD K (E (.tup [.int a,.int b,.int c]))=ao (decide (a=2)) (K (.ret (.bool true)) [.ref 0,.ref 6,.tup aD] (dB 0 x)) (K .next [.ref 0,.ref 6,.tup aD] (dB 0 x)):=by kernel_rfl
def Xs (C:hT)(t:Nat)(x:er)(K:bE):Prop:=iy 11 (fun v loc H K=>b4 C aP DE (loc.set 2 v) H K) (hk (.ref 10) (x.aH.map (·.1)) (dB 0 x)) ((x.aH.map (·.1)).length+1) 0 (x.aH.map (·.1)) [.ref 0,.ref t,.aQ] (dB 0 x)
 (gi (b4 C aP (.cons (.ret (.bool false)) .nil)) (e2 K))
theorem Xt {K:bE}:cR C aP ve [.ref 0,.ref t] (dB 0 x) K=Xs C t x K:=by kernel_rfl
inductive yp (t:Nat)(x:er)(n:Int)(i:Nat):List V→List an→Prop
 |mk (cX:V):vY (x.aH.take i) n=false→yp t x n i [.ref 0,.ref t,cX] (dB 0 x)
inductive B2 (x:er)(n:Int):V→List V→List an→Prop
 |mk (loc:List V):vY x.aH n=true→B2 x n (.bool true) loc (dB 0 x)
theorem Xu {n:Int}(g:pk x.aH=true)(eT:(∀e∈x.aH,bU 4 e.1=true)∧eE x.aH)(cp:∀aD K a b c,wa t x aD K (E (.tup [.int a,.int b,.int c]))=ao (decide (a=n)) (K (.ret (.bool true)) [.ref 0,.ref t,.tup aD] (dB 0 x)) (K .next [.ref 0,.ref t,.tup aD] (dB 0 x)))
 {i:Nat}(e:(x.aH.map (·.1))[i]? =E v)(ab:yp t x n i loc H)(lF:∀loc H,yp t x n (i+1) loc H→Ev (K .next loc H))(wG:∀r loc H,B2 x n r loc H→Ev (K (.ret r) loc H)):Ev (b4 C aP DE (loc.set 2 v) H K):=by
 induction ab with
 |mk cX hf=>rw[List.getElem?_map] at e;refine eB e fun p ep=>?_;have hm:=List.mem_of_getElem? ep;refine ls (Au (List.all_eq_true.mp g p hm)) fun aD a b c eH=>?_;rw[eH] at ep hm⊢;refine aK Xv (JZ eT.2 eT.1 hm (aK (cp _ _ _ _ _) (dQ (fun q=>wG _ _ _ (.mk _ (List.any_eq_true.mpr ⟨_,hm,q⟩))) fun q=>lF _ _ (.mk _ ?_))));unfold vY at hf⊢;rw[List.take_add_one,ep,List.any_append,hf];refine(?_:(false||(decide (a=n)||false))=false);rw[q];rfl
theorem Kn {n:Int}{K:bE}(cW:kH (fun l=>dT l 11) (.ref t)=true)(eT:(∀e∈x.aH,bU 4 e.1=true)∧eE x.aH)(cp:∀aD K a b c,wa t x aD K (E (.tup [.int a,.int b,.int c]))=ao (decide (a=n)) (K (.ret (.bool true)) [.ref 0,.ref t,.tup aD] (dB 0 x)) (K .next [.ref 0,.ref t,.tup aD] (dB 0 x)))
 (h:Ev (wb n x K)):Ev (cR C aP ve [.ref 0,.ref t] (dB 0 x) K):=by
 have h:Ev (ao (pk x.aH) (K (.bool (vY x.aH n)) (dB 0 x)) False):=aK (by kernel_rfl) h;refine b8 (gG h) fun g h=>aK Xt ?_;refine Dd (yp t x n) (B2 x n) (fun i v loc H e ab hs lF wG=>Xu g eT cp e ab lF wG) (fun i loc H ab P a8=>?_) (fun i loc H ab P a8=>?_) (fun loc H ab=>?_) (fun r loc H al=>?_) _ 0 _ _ (.mk .aQ rfl) (jz _) (jy _)
 .induction ab with
  |mk cX hf=>
   unfold trunc
   split
   .have:kz 11 (.ref t)=.ref t:=by unfold kz;rw[cW]
    refine aK (B:=P [.ref 0,.ref t,kz 11 cX] (dB 0 x)) ?_ (a8 _ _ (.mk _ hf));refine(?_:P [kz 11 (.ref 0),kz 11 (.ref t),kz 11 cX] _=_);rw[this];rfl
   .exact a8 _ _ (.mk _ hf)
 .induction ab with
  |mk cX hf=>exact aK (B:=ao (c1 x.fn x.fn&&c1 x.aH.length x.aH.length) (P (x.aH.map (·.1))) False) (by kernel_rfl) (cw (by simp) a8)
 .induction ab with
  |mk cX hf=>rw[List.length_map,List.take_length] at hf;rw[hf] at h;exact aK (by kernel_rfl) h
 .induction al with
  |mk loc q=>rw[q] at h;exact aK (by kernel_rfl) h
end
theorem Qa {x:er}(fC:∀o∈dB 0 x,pF o):(∀e∈x.aH,bU 4 e.1=true)∧eE x.aH:=fC (.dict x.aH x.fn) (.tail _ (.tail _ (.tail _ (.tail _ (.tail _ (.tail _ (.tail _ (.tail _ (.tail _ (.tail _ (.head _)))))))))))
theorem acU:fF C aP FC ve:=Zt fun(a:Unit×Nat×Unit) (x:er) K fC fY bD=>by
 have h:Ev (ao (c1 a.2.1 4) (wb 1 x K) (ao (c1 a.2.1 6) (wb 2 x K) False)):=aK (by kernel_rfl) bD;have eT:=Qa fC;refine aK (B:=cR C aP ve [.ref 0,.ref a.2.1] (dB 0 x) K) (by kernel_rfl) ?_;cases e:c1 a.2.1 4 with
 |true=>rw[fQ e];exact Kn rfl eT (fun _ _ _ _ _=>Xw) (jn e h)
 |false=>refine b8 (gG (iY e h)) fun e h=>?_;rw[fQ e];exact Kn rfl eT (fun _ _ _ _ _=>Xx) h
theorem Mm {a b:V}(h:bn n a b=false):bn n b a=false:=by
 cases q:bn n b a with
 |false=>rfl
 |true=>have e:=wF n _ _ q;subst e;rw[q] at h;exact j9 h
def iZ (es:List (V×V))(n:Int):List V:=(es.filter fun e=>decide (qL e.2=n)).map (·.1)
theorem yX:∀(aD:List V) (es:List (V×V)),aD.foldl nT es=es.filter fun e=>aD.all fun k=> !bn 4 e.1 k
 | [],es=>(List.filter_eq_self.mpr fun _ _=>rfl).symm
 |k::aD,es=>by rw[List.foldl_cons,yX aD];unfold nT;rw[List.filter_filter];exact List.filter_congr fun e _=>by rw[List.all_cons,Bool.and_comm]
theorem TK (hd:eE es){a b:V×V}(aC:a∈es)(az:b∈es):a=b∨bn 4 a.1 b.1=false:=by
 obtain⟨i,hi,j4⟩:=List.getElem_of_mem aC;obtain⟨j,co,ix⟩:=List.getElem_of_mem az;have eP:=List.pairwise_iff_getElem.mp hd;rcases GN i j with c|c|c
 .right;have:=eP i j hi co c;rwa [j4,ix] at this
 .left;subst c;exact j4.symm.trans ix
 .right;have:=eP j i co hi c;rw[j4,ix] at this;exact Mm this
theorem TE (aB:∀e∈es,bU 4 e.1=true)(hd:eE es){n:Int}:(iZ es n).foldl nT es=hM es n:=by
 rw[yX];refine List.filter_congr fun e he=>?_;cases q:decide (qL e.2=n) with
 |true=>refine(?_:((iZ es n).all fun k=> !bn 4 e.1 k)=false);rw[List.all_eq_false];refine⟨e.1,List.mem_map.mpr ⟨e,List.mem_filter.mpr ⟨he,q⟩,rfl⟩,?_⟩;rw[rO 4 _ (aB e he)];decide
 |false=>
  refine(?_:((iZ es n).all fun k=> !bn 4 e.1 k)=true);rw[List.all_eq_true];intro k XF;refine dq (List.mem_map.mp XF) fun cM bT=>?_;refine b8 bT fun DB b9=>?_;clear bT;subst b9;refine b8 (List.mem_filter.mp DB) fun R Z=>?_;rcases TK hd he R with rfl|c
  .rw[q] at Z;exact dZ Z
  .rw[c];rfl
theorem WN (hd:eE es)(n:Int):(iZ es n).Pairwise fun a b=>bn 4 a b=false:=by unfold iZ;rw[List.pairwise_map];exact List.Pairwise.sublist List.filter_sublist hd
theorem Th {a0:Type}{f:V→List an→(Option V→List an→Prop)→Prop}{st:List an→(List V→Prop)→Prop}{K:List V→List an→Prop}{es:List a0}{φ:a0→V}(g:a0→Option V)
 (step:∀e∈es,∀k:Option V→List an→Prop,Ev (k (g e) H)→Ev (f (φ e) H k))(hu:∀P:List V→Prop,Ev (P (es.map φ))→Ev (st H P))(fin:Ev (K (es.filterMap g) H)):
 ∀n i,i≤es.length→es.length<n+i→Ev (j3 f st n i (es.map φ) H ((es.take i).filterMap g) K):=fun n=>by
 induction n with
 |zero=>intro i R Z;omega
 |succ n aF=>
  intro i R Z;unfold j3;rw[List.getElem?_map];cases e:es[i]? with
  |none=>have:=List.getElem?_eq_none_iff.mp e;rw[List.take_of_length_le this];exact fin
  |some v=>
   refine step v (List.mem_of_getElem? e) _ (hu _ ?_);have:=(List.getElem?_eq_some_iff.mp e).1;have aJ:(match g v with|some x=>(es.take i).filterMap g++[x]|none=>(es.take i).filterMap g)=(es.take (i+1)).filterMap g:=by rw[List.take_add_one,e];cases q:g v<;>simp[q]
   refine(?_:Ev (j3 f st n (i+1) (es.map φ) H (match g v with|some x=>(es.take i).filterMap g++[x]|none=>(es.take i).filterMap g) K))
   rw[aJ];exact aF (i+1) (by omega) (by omega)
noncomputable def Fu {a0:Type}(b:Bool)(x:a0):Option a0:=match b with|true=>E x|false=>none
theorem WL {n:Int}:es.filterMap (fun e=>Fu (decide (qL e.2=n)) e.1)=iZ es n:=by
 unfold iZ
 induction es with
 |nil=>rfl
 |cons e es aF=>
  rw[List.filterMap_cons,List.filter_cons];cases q:decide (qL e.2=n) with
  |true=>rw[if_pos rfl];exact congrArg (e.1:: ·) aF
  |false=>rw[if_neg (by decide)];exact aF
theorem NO {p:Nat→Bool}:pk es=true→pj p es=true:=by
 induction es with
 |nil=>exact fun _=>rfl
 |cons e es aF=>refine fun h=>b5 h fun R Z=>ls (Au R) fun aD a b c eH=>?_;rw[eH];exact(nx _).trans (aF Z)
noncomputable def tp:ff:=.cons (.del (.attr (.loc 0) 32382534832) (.loc 2)) .nil
section
variable {n:Int}{x:er}{cX:V}{K:dM}
def Jq (n:Int)(x:er)(k:Option V→List an→Prop)(aD:List V):Option V→Prop:=fun r=>k1 r fun w=>xk w (.int 0) (dB 0 x) fun a bp=>tj .Eq a (.int n) bp fun c=>ao c (k (E (.tup aD)) bp) (k dn bp)
def Jt (C:hT)(n:Int):V→List an→(Option V→List an→Prop)→Prop:=fun v H k=>iP C aP ([.ref 0,.int n]++[v]) (.cmp .Eq (.sub (.sub (.attr (.loc 0) 32382534832) (.loc 2)) (.int 0)) (.loc 1)) (cG C aP ([.ref 0,.int n]++[v]) (.cmp .Eq (.sub (.sub (.attr (.loc 0) 32382534832) (.loc 2)) (.int 0)) (.loc 1))) H
 fun b be=>ao b (cG C aP ([.ref 0,.int n]++[v]) (.loc 2) be fun r ei=>k (E r) ei) (k dn be)
theorem Un {k:Option V→List an→Prop}:Jt C n (.tup aD) (dB 0 x) k=jK (.tup aD) x.aH (Jq n x k aD):=by kernel_rfl
theorem Up {k:Option V→List an→Prop}{a b:Int}:Jq n x k aD (E (.tup [.int a,.int b,.int c]))=ao (decide (a=n)) (k (E (.tup aD)) (dB 0 x)) (k dn (dB 0 x)):=by kernel_rfl
theorem Um {K:bE}:cR C aP ye [.ref 0,.int n] (dB 0 x) K=cY ((x.aH.map (·.1)).length≤1000000) (j3 (Jt C n) (hk (.ref 10) (x.aH.map (·.1)) (dB 0 x)) ((x.aH.map (·.1)).length+1) 0 (x.aH.map (·.1)) (dB 0 x) []
 fun b7 be=>gi (b4 C aP (.cons (.hN 2 (.loc 3) tp) .nil)) (e2 K) .next [.ref 0,.int n,.aQ,.ref be.length] (be++[fs b7])):=by kernel_rfl
def Uf (C:hT)(n:Int)(x:er)(b7:List V)(K:bE):Prop:=iy 12 (fun v loc H K=>b4 C aP tp (loc.set 2 v) H K) (hk (.ref 11) b7 (dB 0 x++[.list b7])) (b7.length+1) 0 b7 [.ref 0,.int n,.aQ,.ref 11] (dB 0 x++[.list b7]) (gi (b4 C aP .nil) (e2 K))
theorem Uk {K:bE}{r:List V}:gi (b4 C aP (.cons (.hN 2 (.loc 3) tp) .nil)) (e2 K) .next [.ref 0,.int n,.aQ,.ref (dB 0 x).length] (dB 0 x++[fs (.tup aD::r)])=Uf C n x (.tup aD::r) K:=by kernel_rfl
theorem Ul {K:bE}:gi (b4 C aP (.cons (.hN 2 (.loc 3) tp) .nil)) (e2 (rl (dB 0 x) K)) .next [.ref 0,.int n,.aQ,.ref (dB 0 x).length] (dB 0 x++[fs []])=rl (dB 0 x) K .none (dB 0 x++[.ints []]):=by kernel_rfl
theorem Uo:b4 C aP tp ([.ref 0,.int n,cX,.ref 11].set 2 (.tup aD)) (dB 0 x++[.list b7]) K=qb (.tup aD) x.aH fun es=>K .next [.ref 0,.int n,.tup aD,.ref 11] (dB 0 (bu x.t1 x.aa es (x.fn+1))++[.list b7]):=by kernel_rfl
theorem Uh {K:bE}:gi (b4 C aP .nil) (e2 (rl (dB 0 x) K)) .next [.ref 0,.int n,cX,.ref 11] (dB 0 (bu x.t1 x.aa es j)++[.list b7])=
 ao ((pj (fun l=>dT l 11) es&&true)&&true) (K .none (dB 0 (bu x.t1 x.aa es j))) False:=by kernel_rfl
theorem Ug {K:bE}:rl (dB 0 x) K .none (dB 0 x++[.ints []])=ao ((pj (fun l=>dT l 11) x.aH&&true)&&true) (K .none (dB 0 x)) False:=by kernel_rfl
end
theorem WM (es:List (V×V))(n:Int):es.length-(hM es n).length=(iZ es n).length:=by
 refine Nat.sub_eq_of_eq_add ?_;unfold iZ hM;rw[List.length_map]
 induction es with
 |nil=>rfl
 |cons e es aF=>
  rw[List.filter_cons,List.filter_cons,List.length_cons,aF];cases q:decide (qL e.2=n) with
  |true=>exact(GS ..).symm
  |false=>exact(Nat.add_succ ..).symm
theorem J2 (g:pk es=true){n:Int}(aB:k∈iZ es n):∃aD v,k=.tup aD∧(k,v)∈es:=by refine dq (List.mem_map.mp aB) fun e bT=>?_;have hm:=(List.mem_filter.mp bT.1).1;refine ls (Au (List.all_eq_true.mp g e hm)) fun aD a b c eH=>?_;rw[eH] at hm bT;exact⟨aD,.tup [.int a,.int b,.int c],bT.2.symm,by rw[←bT.2];exact hm⟩
inductive yc (n:Int)(x:er)(i:Nat):List V→List an→Prop
 |mk (cX:V):yc n x i [.ref 0,.int n,cX,.ref 11] (dB 0 (bu x.t1 x.aa (((iZ x.aH n).take i).foldl nT x.aH) (x.fn+i))++[.list (iZ x.aH n)])
theorem Ui {n:Int}{x:er}{K:dM}(eT:(∀e∈x.aH,bU 4 e.1=true)∧eE x.aH)(g:pk x.aH=true)(gl:x.aH.length≤100){i:Nat}(e:(iZ x.aH n)[i]? =E v)(h:yc n x i loc H)
 (lF:∀loc H,yc n x (i+1) loc H→Ev (K .next loc H)):Ev (b4 C aP tp (loc.set 2 v) H K):=by
 induction h with
 |mk cX=>
  refine dD (J2 g (List.mem_of_getElem? e)) fun aD w bT=>?_;have c0:=bT.2;rw[bT.1] at e c0⊢;clear bT;have zy:(((iZ x.aH n).take i).foldl nT x.aH).Sublist x.aH:=by rw[yX];exact List.filter_sublist
  have lF:=lF _ _ (.mk (.tup aD));rw[List.take_add_one,e,List.foldl_append] at lF;refine aK (Uo (x:=bu x.t1 x.aa (((iZ x.aH n).take i).foldl nT x.aH) (x.fn+i))) (TC (v:=w) (e4 zy.length_le (e4 gl (by decide))) (List.Pairwise.sublist zy eT.2) (fun e he=>eT.1 e (zy.subset he)) ?_ lF);refine(?_:(V.tup aD,w)∈((iZ x.aH n).take i).foldl nT x.aH);rw[yX];refine List.mem_filter.mpr ⟨c0,List.all_eq_true.mpr fun k aB=>?_⟩;obtain⟨j,co,ix⟩:=List.getElem_of_mem aB;have wg:=List.length_take▸co;refine dq (List.getElem?_eq_some_iff.mp e) fun hi j4=>?_;have:=List.pairwise_iff_getElem.mp (WN eT.2 n) j i (q2 wg (GP _ _)) hi (q2 wg (GO _ _));rw[List.getElem_take] at ix;rw[ix,j4] at this;rw[Mm this];rfl
theorem Uj {n:Int}{x:er}(eT:(∀e∈x.aH,bU 4 e.1=true)∧eE x.aH)(h:Ev (Jr n x K)):Ev (cR C aP ye [.ref 0,.int n] (dB 0 x) (rl (dB 0 x) K)):=by
 have h:Ev (ao (pk x.aH&&de x.aH.length 100) (K .none (dB 0 (bu x.t1 x.aa (hM x.aH n) (x.fn+(x.aH.length-(hM x.aH n).length))))) False):=aK (by kernel_rfl) h;refine b8 (gG h) fun g h=>b5 g fun g gl=>?_;have gl:=d5 gl;refine aK Um (jm (by rw[List.length_map];exact e4 gl (by decide)) ?_);refine Th (es:=x.aH) (φ:=(·.1)) (fun e=>Fu (decide (qL e.2=n)) e.1) (fun e he k aB=>?_) (fun P a8=>?_) ?_ _ 0 (jz _) (by rw[List.length_map];exact jy _)
 .refine ls (Au (List.all_eq_true.mp g e he)) fun aD a b c eH=>?_;rw[eH] at he aB⊢;change Ev (k (Fu (decide (a=n)) (.tup aD)) _) at aB;exact aK Un (JZ eT.2 eT.1 he (aK Up (dQ (fun q=>by rw[q] at aB;exact aB) fun q=>by rw[q] at aB;exact aB)))
 .exact aK (B:=ao (c1 x.fn x.fn&&c1 x.aH.length x.aH.length) (P (x.aH.map (·.1))) False) (by kernel_rfl) (cw (by simp) a8)
 .rw[WL];rw[WM] at h;have Dz:=TE eT.1 eT.2 (n:=n);cases y0:iZ x.aH n with
  |nil=>rw[y0] at Dz h;rw[show hM x.aH n=x.aH from Dz.symm] at h;exact aK Ul (aK Ug (cw (by rw[NO g];rfl) h))
  |cons bw r=>
   refine dD (J2 (n:=n) g (k:=bw) (by rw[y0];exact List.mem_cons_self)) fun ahj _ cj=>?_;rw[cj.1];refine aK Uk ?_;rw[←cj.1,←y0];clear y0 cj;refine Dd (yc n x) (fun _ _ _=>False) (fun i v loc H e ab hs lF wG=>Ui eT g gl e ab lF) (fun i loc H ab P a8=>?_) (fun i loc H ab P a8=>?_) (fun loc H ab=>?_) (fun _ _ _ h=>h.elim) _ 0 _ _ (.mk .aQ) (jz _) (jy _)
   .induction ab with
    |mk cX=>
     unfold trunc
     split
     .exact a8 _ _ (.mk (kz 12 cX))
     .exact a8 _ _ (.mk cX)
   .induction ab with
    |mk cX=>exact aK (B:=P (iZ x.aH n)) (by kernel_rfl) a8
   .generalize aL:(iZ x.aH n).length=kr at ab h
    induction ab with
    |mk cX=>rw[←aL,List.take_length,Dz];rw[←aL] at h;have b9:pk (hM x.aH n)=true:=List.all_eq_true.mpr fun e he=>List.all_eq_true.mp g e (List.mem_filter.mp he).1;exact aK Uh (cw (by rw[NO b9];rfl) h)
theorem acR:fF C aP Fy ye:=SR fun(a:Unit×Int×Unit) (x:er) K fC fY bD=>
 aK (by kernel_rfl) (Uj (C:=C) (n:=a.2.1) (x:=x) (K:=K) (Qa fC) (aK (by kernel_rfl) bD))
section
variable {fn:Nat}{T N ae i o:Int}{d:List Int}{t1 aa:c7}
def wP (Nk T N:Int)(d:List Int)(no:Prop)(nn:Prop):Prop:=
 ao (hc T d 8 0) (ao (!uf T N d) no (ao (hc T d 9 8) (ao (cb (i9 T d) 1) no (ao (ltI N 0) no (ao (ltI d.length (N+0+Nk)) no (ao (gx (E (N+0))&&gx (E (N+0+Nk))) nn False)))) False)) False
def wQ (N:Int)(d:List Int)(k eA:Bool→Prop):Prop:=ao (cb 0 N&&ltI N 1000) (ao (cb 0 (gd N d)) (ao (!decide (Builtin.bitAnd (gd N d) 5=0))
 (ao (cb 0 (gd N d)) (eA (decide (Builtin.bitAnd (gd N d) 7=0))) (eA (cb 0 (gd N d)))) (ao (cb 0 (gd N d)) (k (decide (Builtin.bitAnd (gd N d) 7=0))) (k (cb 0 (gd N d)))))
 (ao (cb 0 (gd N d)) (k (decide (Builtin.bitAnd (gd N d) 7=0))) (k (cb 0 (gd N d))))) False
theorem U8:∀ak f1,cR (bh aT (m+4)) aP sR [.ref 0,.ref 11,.int 1] (ig (bu t1 aa (bW ak f1 bw ba bL bS) fn) T 6 N ae d i o) (dY (ig (bu t1 aa (bW ak f1 bw ba bL bS) fn) T 6 N ae d i o) K)=
 wP 20 T N d (K (.bool false) (ig (bu t1 aa (bW ak f1 bw ba bL bS) fn) T 6 N ae d i o)) (wQ N d (fun b=>K (.bool b) (ig (bu t1 aa (bW ak f1 bw ba bL bS) fn) T 6 N ae d i o))
  (fun b=>K (.bool b) (ig (bu t1 aa (hM (bW ak f1 bw ba bL bS) 1) (fn+((bW ak f1 bw ba bL bS).length-(hM (bW ak f1 bw ba bL bS) 1).length))) T 6 N ae d i o))):=by
 intro ak f1;revert ak f1;exact @all2 _ _ _ (by kernel_rfl)
theorem U9:∀ak f1,cR (bh aT (m+4)) aP sR [.ref 0,.ref 11,.int 2] (ig (bu t1 aa (bW ak f1 bw ba bL bS) fn) T 6 N ae d i o) (dY (ig (bu t1 aa (bW ak f1 bw ba bL bS) fn) T 6 N ae d i o) K)=
 wP 20 T N d (K (.bool false) (ig (bu t1 aa (bW ak f1 bw ba bL bS) fn) T 6 N ae d i o)) (wQ N d (fun b=>K (.bool b) (ig (bu t1 aa (bW ak f1 bw ba bL bS) fn) T 6 N ae d i o))
  (fun b=>K (.bool b) (ig (bu t1 aa (hM (bW ak f1 bw ba bL bS) 2) (fn+((bW ak f1 bw ba bL bS).length-(hM (bW ak f1 bw ba bL bS) 2).length))) T 6 N ae d i o))):=by
 intro ak f1;revert ak f1;exact @all2 _ _ _ (by kernel_rfl)
theorem Va {n:Int}:∀ak f1,cR (bh aT (m+4)) aP sR [.ref 0,.ref 11,.int n] (ig (bu t1 aa (bW ak f1 bw ba bL bS) fn) T 17 N ae d i o) (dY (ig (bu t1 aa (bW ak f1 bw ba bL bS) fn) T 17 N ae d i o) K)=
 wP 8 T N d (K (.bool false) (ig (bu t1 aa (bW ak f1 bw ba bL bS) fn) T 17 N ae d i o)) (K (.bool true) (ig (bu t1 aa (bW ak f1 bw ba bL bS) fn) T 17 N ae d i o)):=by
 intro ak f1;revert ak f1;exact @all2 _ _ _ (by kernel_rfl)
end
theorem RG:∀f:Nat,f<256→decide (Builtin.bitAnd (f:Int) 5=0)=false→decide (Builtin.bitAnd (f:Int) 7=0)=false:=by
 have:∀f:Fin 256,decide (Builtin.bitAnd (f.val:Int) 5=0)=false→decide (Builtin.bitAnd (f.val:Int) 7=0)=false:=by decide+kernel
 exact fun f h=>this ⟨f,h⟩
theorem RH (bl:0≤f)(R:f<256)(h:decide (Builtin.bitAnd f 5=0)=false):decide (Builtin.bitAnd f 7=0)=false:=by refine dq (jV bl) fun n cj=>?_;subst cj;exact RG n (by lia) h
theorem acl {T N:Int}{d:List Int}(h:uf T N d=true):N=20∨N=40:=by
 unfold uf at h
 split at h
 .exact .inl (of_decide_eq_true (l8 h).1)
 .exact .inr (of_decide_eq_true h)
theorem YS {T:Int}{d:List Int}(h:hc T d 9 8=true):hc T d 8 0=true:=by
 unfold hc at h⊢;simp only[uT,fJ,lY] at h⊢;rcases h with⟨a,b⟩|⟨a,b⟩
 .exact .inl ⟨a,by lia⟩
 .exact .inr ⟨a,by lia⟩
theorem We {N:Int}{d:List Int}(hd:ee d)(bl:0≤N)(h:N+20≤d.length):0≤gd N d∧gd N d<256:=by unfold gd;rw[pa (by lia)];exact getD_in hd _
theorem Ex {U T N:Int}{d:List Int}{nn:Prop}(g:hc T d 9 8=true)(nZ:lG T U N d=false→Ev no)(cW:lG T U N d=true→(0≤N∧N<1000∧N+pe U≤d.length)→Ev nn):Ev (wP (pe U) T N d no nn):=by
 unfold wP;unfold lG at nZ cW;refine cw (YS g) (dQ (fun e=>nZ ?_) fun e=>cw g (dQ (fun aJ=>nZ ?_) fun aJ=>?_))
 .rw[km] at e;rw[e];rfl
 .rw[pa (wI aJ),oG,jd]
 .rw[uR] at e;have ax:=acl e;have cJ:=rQ (EL aJ);have eX:0≤pe U∧pe U≤20:=by unfold pe;split<;>lia
  refine eb (pa (by lia)) (dQ (fun eV=>nZ ?_) fun eV=>?_)
  .have:=pb eV;rw[Mv (by lia),jd,jd]
  .have iW:=EM eV;refine cw (by rw[ph (by lia) (by lia),ph (by lia) (by lia)];rfl) (cW ?_ ⟨by lia,by lia,by lia⟩);rw[e,cJ,qz (by lia)];rfl
theorem aaF {N T:Int}{d:List Int}{k eA:Bool→Prop}(hd:ee d)(ax:0≤N∧N<1000∧N+20≤d.length)(h':decide (Builtin.bitAnd (gd N d) 5=0)=false→Ev (eA false))
 (h:decide (Builtin.bitAnd (gd N d) 5=0)=true→Ev (k (decide (Builtin.bitAnd (gd N d) 7=0)))):Ev (wQ N d k eA):=by
 unfold wQ;refine b8 (We hd ax.1 ax.2.2) fun ak f1=>?_;refine cw (by rw[qz ax.1,rQ ax.2.1];rfl) (cw (qz ak) (dQ (fun e=>cw (qz ak) ?_) fun e=>cw (qz ak) ?_))
 .rw[km] at e;rw[RH ak f1 e];exact h' e
 .rw[uR] at e;exact h e
theorem aaG (m:Nat){n:Int}{t1 aa:c7}{aH:List (V×V)}{fn:Nat}{T U N ae i o:Int}{d:List Int}(hd:ee d)(h:Ev (MZ n (bu t1 aa aH fn) T U N ae d i o K)):
 Ev (cR (bh aT (m+4)) aP sR [.ref 0,.ref 11,.int n] (ig (bu t1 aa aH fn) T U N ae d i o) (dY (ig (bu t1 aa aH fn) T U N ae d i o) K)):=by
 have h:Ev (ao (ur aH&&((decide (n=1)||decide (n=2))&&(iA U&&hc T d 9 8)))
  (ao (kT T U N d) (K (.bool false) (ig (bu t1 aa (hM aH n) (fn+(aH.length-(hM aH n).length))) T U N ae d i o)) (K (.bool (lN T U N d)) (ig (bu t1 aa aH fn) T U N ae d i o))) False):=aK (by kernel_rfl) h
 refine b8 (gG h) fun e h=>?_;refine b5 e fun aW e=>?_;refine b5 e fun aJ e=>?_;refine b5 e fun cJ eV=>?_;obtain⟨ak,f1,bw,ba,bL,bS,Ue⟩:=OS aW;rw[Ue] at h⊢;rcases jP cJ with cJ|cJ<;>(have cJ:=of_decide_eq_true cJ;subst cJ)
 .have nZ:lG T 6 N d=false→Ev (K (.bool false) (ig (bu t1 aa (bW ak f1 bw ba bL bS) fn) T 6 N ae d i o)):=fun e=>by
   have a1:kT T 6 N d=false:=by unfold kT;rw[e];rfl
   have a2:lN T 6 N d=false:=by unfold lN;rw[e];rfl
   have h:=iY a1 h;rw[a2] at h;exact h
  have cW:∀eA:Bool→Prop,(decide (Builtin.bitAnd (gd N d) 5=0)=false→lG T 6 N d=true→Ev (eA false))→lG T 6 N d=true→(0≤N∧N<1000∧N+pe 6≤d.length)→
   Ev (wQ N d (fun b=>K (.bool b) (ig (bu t1 aa (bW ak f1 bw ba bL bS) fn) T 6 N ae d i o)) eA):=fun eA aB e ax=>by
   refine aaF (T:=T) hd ax (fun iW=>aB iW e) fun iW=>?_;have a1:kT T 6 N d=false:=by unfold kT;rw[e,iW];rfl
   have a2:lN T 6 N d=decide (Builtin.bitAnd (gd N d) 7=0):=by unfold lN;rw[e];rfl
   have h:=iY a1 h;rw[a2] at h;exact h
  have Kl:decide (Builtin.bitAnd (gd N d) 5=0)=false→lG T 6 N d=true→kT T 6 N d=true:=fun iW e=>by unfold kT;rw[e,iW];rfl
  rcases jP aJ with aJ|aJ<;>(have aJ:=of_decide_eq_true aJ;subst aJ)
  .exact aK (U8 ak f1) (Ex (U:=6) eV nZ (cW _ fun iW e=>jn (Kl iW e) h))
  .exact aK (U9 ak f1) (Ex (U:=6) eV nZ (cW _ fun iW e=>jn (Kl iW e) h))
 .have a1:kT T 17 N d=false:=rfl;have h:=iY a1 h;have a2:lN T 17 N d=lG T 17 N d:=by unfold lN;exact xI _
  rw[a2] at h;refine aK (Va ak f1) (Ex (U:=17) eV (fun e=>?_) fun e _=>?_)
  .rw[e] at h;exact h
  .rw[e] at h;exact h
theorem ac1 (m:Nat):fF (bh aT (m+4)) aP FJ sR:=mZ fun(a:Unit×Unit×Int×Unit) (x:yr) K fC fY bD=>
 aK (by kernel_rfl) (aaG m (n:=a.2.2.1) (t1:=x.2.2.2.2.2.1) (aa:=x.2.2.2.2.2.2.2.1) (aH:=x.2.2.2.2.2.2.2.2.2.2.1.1) (fn:=x.2.2.2.2.2.2.2.2.2.2.1.2) (T:=et.kind x.2.2.2.2.2.2.2.2.2.2.2) (U:=et.U x.2.2.2.2.2.2.2.2.2.2.2) (N:=et.off x.2.2.2.2.2.2.2.2.2.2.2)
  (ae:=et.place x.2.2.2.2.2.2.2.2.2.2.2) (i:=et.i x.2.2.2.2.2.2.2.2.2.2.2) (o:=et.o x.2.2.2.2.2.2.2.2.2.2.2) (d:=et.d x.2.2.2.2.2.2.2.2.2.2.2) (K:=K) (P9 (fC (.cB (et.d x.2.2.2.2.2.2.2.2.2.2.2)) (by refine List.mem_of_getElem? (i:=13) ?_;rfl))) (aK (by kernel_rfl) bD))
def Fe (T U N:Int)(rd:List Int→Prop)(d:List Int):Prop:=ao (hc T d 9 8) (ao (cb (i9 T d) 1) (rd d) (ao (gg T U N im (nr T) 1 d) (rd (lz T U N d)) False)) False
def stepT (T U N nf pr:Int)(on ag:Bool)(a p:Int)(d:List Int)(cO:List Int→Prop):Prop:=
 ao on (ao (AH T U nf pr) (ao (sd T U N ag a p d) (cO (kL T U N ag p (hE T U N ag a d))) False) False) (cO d)
def F3 (au T U N:Int)(d:List Int)(t:c7)(g:ej)(eO fT:Int)(no e7:Prop)(rd:List Int→Prop):Prop:=
 ao (cb t.kM au) no (ao (hc T d 9 8) (ao (kT T U N d) e7 (ao (!lN T U N d) no
  (ao (iA g.2.1&&(decide (g.1=2)||decide (g.1=10)))
   (stepT T U N g.1 g.2.1 (hC t.cL eO) false g.2.2.1 g.2.2.2.1 d fun dP=>stepT T U N g.1 g.2.1 (hC t.cL fT) true g.2.2.2.2.1 g.2.2.2.2.2.1 dP (Fe T U N rd)) False))) False)
noncomputable def pA (t f:V):List V:=[.ref 0,.ref 2,.ref 7,t,f,.aQ,.aQ,.aQ,.aQ,.aQ,.aQ]
section
variable {fn:Nat}{c9 T N ae i o:Int}{d:List Int}{t1 aa:c7}
def o0 (w f:Bool):List V→List V→List V→List V→List (V×V):=bW (cond w f true) (cond w true f)
noncomputable def t2 (w:Bool):Int:=cond w 2 1
noncomputable def rn (r:Bool):Int:=cond r 1 0
noncomputable def w0 (r:Bool):Int:=cond r 1 2
theorem Vv:∀w r b f:Bool,b4 (bh aT (m+8)) aP (cn 3 mQ.body) (pA (.tup aD) (val (t2 w) (rn r) (w0 r))) (fG au c9 isr T (aZ b) N ae d i o (bu t1 aa (o0 w f bw ba bL bS) fn)) (e2 (dY (fG au c9 isr T (aZ b) N ae d i o (bu t1 aa (o0 w f bw ba bL bS) fn)) K))=
 F3 au T (aZ b) N d (cond w aa t1) (gX (cond w aa t1) (rn r)) (g9 false (rn r)) (g9 true (rn r)) (K (.int (-1)) (fG au c9 isr T (aZ b) N ae d i o (bu t1 aa (o0 w f bw ba bL bS) fn))) (K (.int (-1)) (fG au c9 isr T (aZ b) N ae d i o (bu t1 aa (hM (o0 w f bw ba bL bS) (t2 w)) (fn+((o0 w f bw ba bL bS).length-(hM (o0 w f bw ba bL bS) (t2 w)).length)))))
  (fun d'=>K (.int (w0 r)) (fG au c9 isr T (aZ b) N ae d' i o (bu (cond w t1 (oq t1 (kh au (aZ b)))) (cond w (oq aa (kh au (aZ b))) aa) (o0 w f bw ba bL bS) fn))):=l7 (by kernel_rfl)
theorem U1 {U:Int}(w r f:Bool):vR au c9 isr T U N ae d i o t1 aa (o0 w f bw ba bL bS) fn K (val (t2 w) (rn r) (w0 r))=mh au c9 isr T U N ae d i o t1 aa (o0 w f bw ba bL bS) fn (t2 w) (rn r) (w0 r) (cond w aa t1) (cond w t1 (oq t1 (kh au U))) (cond w (oq aa (kh au U)) aa) K:=by revert w;exact @all1 _ _ _ (by kernel_rfl)
theorem JE {U:Int}{t:V}:∀ak f1:Bool,b4 (bh aT (m+8)) aP (cn 3 mQ.body) (pA t .none) (fG au c9 isr T U N ae d i o (bu t1 aa (bW ak f1 bw ba bL bS) fn)) (e2 (dY (fG au c9 isr T U N ae d i o (bu t1 aa (bW ak f1 bw ba bL bS) fn)) K))=
 K (.int (-1)) (fG au c9 isr T U N ae d i o (bu t1 aa (bW ak f1 bw ba bL bS) fn)):=all2 (by kernel_rfl)
theorem Vw {U:Int}{aH:List (V×V)}:b4 (bh aT (m+8)) aP (fB 2 mQ.body) [.ref 0,.aQ,.aQ,.aQ,.aQ,.aQ,.aQ,.aQ,.aQ,.aQ,.aQ] (fG au c9 isr T U N ae d i o (bu t1 aa aH fn)) K'=
 ao ((decide (U=6)||decide (U=17))&&(decide (T=2048)||decide (T=34525))) (ao (ltI N 0) (K' .next (pA .none .aQ) (fG au c9 isr T U N ae d i o (bu t1 aa aH fn)))
  (ao (cb (N+4) d.length&&ltI N 1000) (K' .next (pA (.tup (tupI T U N d)) .aQ) (fG au c9 isr T U N ae d i o (bu t1 aa aH fn))) False)) False:=by kernel_rfl
theorem Vx {U:Int}{aH:List (V×V)}:b4 (bh aT (m+8)) aP (fB 1 (cn 2 mQ.body)) (pA (.tup aD) .aQ) (fG au c9 isr T U N ae d i o (bu t1 aa aH fn)) K'=
 jK (.tup [.int i,.tup aD]) aH fun r=>K' .next (pA (.tup aD) (r.getD .none)) (fG au c9 isr T U N ae d i o (bu t1 aa aH fn)):=by kernel_rfl
theorem Vy {U:Int}{aH:List (V×V)}:b4 (bh aT (m+8)) aP (fB 1 (cn 2 mQ.body)) (pA .none .aQ) (fG au c9 isr T U N ae d i o (bu t1 aa aH fn)) K'=
 K' .next (pA .none .none) (fG au c9 isr T U N ae d i o (bu t1 aa aH fn)):=by kernel_rfl
end
theorem fi {f:List V→List an→dM→Prop}{K:dM}:gi f K .next loc H=f loc H K:=rfl
theorem qO {G:Nat→Option V}(h:c1 vs.length bg.na=true)(e:vs++bg.defs++List.replicate bg.ES .aQ=loc):cR C G bg vs H K=b4 C G bg.body loc H (e2 K):=by unfold cR;rw[h,e];rfl
theorem MD {bg:Option V→Prop}:∀{aH:List (V×V)},Ev (wK key go qE aH)→(∀e∈aH,Ev (go e.2)→Ev (bg (E e.2)))→(Ev qE→Ev (bg dn))→Ev (lu key aH bg)
 | [],h,_,hm=>hm h
 |(k,v)::r,h,b6,hm=>dQ (fun e=>b6 (k,v) List.mem_cons_self (jn e h)) fun e=>MD (iY e h) (fun cM he=>b6 cM (List.mem_cons_of_mem _ he)) hm
theorem adq {T U N:Int}{rd:List Int→Prop}{d:List Int}(g:zt T U N d=true)(k:Ev (rd (lz T U N d))):Ev (Fe T U N rd d):=by unfold zt at g;refine b5 g fun g1 g=>?_;refine b5 g fun bM g3=>?_;unfold Fe;exact cw g1 (eb (Mv (pb bM)) (cw g3 k))
theorem Pc {T U N:Int}{on:Bool}{a p:Int}{d:List Int}{cO:List Int→Prop}(g:un T U N nf pr on ag a p d=true)(k:Ev (cO (um T U N on ag a p d))):Ev (stepT T U N nf pr on ag a p d cO):=by
 unfold stepT
 induction on using eo with
 |true=>refine b5 g fun g1 bM=>?_;exact cw rfl (cw g1 (cw bM k))
 |false=>exact eb rfl k
theorem WK {c9 T U N ae:Int}{d:List Int}{i o:Int}{t1 aa:c7}{aH:List (V×V)}{fn:Nat}{n dir:Int}{t:c7}(vP:hc T d 9 8=true)(h:Ev (mh au c9 isr T U N ae d i o t1 aa aH fn n dir iL t gL gM K)):
 Ev (F3 au T U N d t (gX t dir) (g9 false dir) (g9 true dir) (K (.int (-1)) (fG au c9 isr T U N ae d i o (bu t1 aa aH fn))) (K (.int (-1)) (fG au c9 isr T U N ae d i o (bu t1 aa (hM aH n) (fn+(aH.length-(hM aH n).length)))))
  (fun d'=>K (.int iL) (fG au c9 isr T U N ae d' i o (bu gL gM aH fn)))):=by
 unfold mh at h;unfold F3;refine dQ (fun e=>jn e h) fun e=>?_;have h:=iY e h;refine cw vP (dQ (fun e=>jn e h) fun e=>?_);have h:=iY e h;refine dQ (fun e=>?_) fun e=>?_
 .rw[km] at e;exact iY e h
 .rw[uR] at e;refine b8 (gG (jn e h)) fun g h=>?_;refine b5 g fun g1 g=>?_;refine b5 g fun bM g=>?_;refine b5 g fun g3 ek=>?_;unfold tY at g3;refine b5 g3 fun ht nW=>?_;refine cw (by rw[g1,bM];rfl) (Pc ht (Pc nW (adq ek h)))
theorem Wf {aA:Bool→Bool→V→Prop}(k:∀w r f,aA (cond w f true) (cond w true f) (val (t2 w) (rn r) (w0 r))):∀e∈bW ak f1 bw ba bL bS,aA ak f1 e.2:=by
 induction ak using eo with
 |false=>induction f1 using eo with
  |false=>exact fun e he=>nomatch he
  |true=>exact List.forall_mem_cons.mpr ⟨k true false false,List.forall_mem_cons.mpr ⟨k true true false,fun e he=>nomatch he⟩⟩
 |true=>induction f1 using eo with
  |false=>exact List.forall_mem_cons.mpr ⟨k false false false,List.forall_mem_cons.mpr ⟨k false true false,fun e he=>nomatch he⟩⟩
  |true=>exact List.forall_mem_cons.mpr ⟨k false false true,List.forall_mem_cons.mpr ⟨k false true true,List.forall_mem_cons.mpr ⟨k true false true,List.forall_mem_cons.mpr ⟨k true true true,fun e he=>nomatch he⟩⟩⟩⟩
@[elab_as_elim] theorem aeB {aA:List (V×V)→Prop}{aH:List (V×V)}(h:ur aH=true)(k:∀ak f1 bw ba bL bS,aA (bW ak f1 bw ba bL bS)):aA aH:=by refine ls (OS h) fun ak f1 bw ba q=>dD q fun bL bS e=>?_;rw[e];exact k ..
theorem mc:cn 1 (cn 2 mQ.body)=cn 3 mQ.body:=by kernel_rfl
theorem aga (m:Nat){c9 T U N ae:Int}{d:List Int}{i o:Int}{t1 aa:c7}{aH:List (V×V)}{fn:Nat}(h:Ev (uC au c9 isr T U N ae d i o t1 aa aH fn K)):
 Ev (cR (bh aT (m+8)) aP mQ [.ref 0] (fG au c9 isr T U N ae d i o (bu t1 aa aH fn)) (dY (fG au c9 isr T U N ae d i o (bu t1 aa aH fn)) K)):=by
 refine b8 (gG h) fun g h=>b5 g fun g1 g=>b5 g fun bM g3=>?_;clear g;revert h;refine aeB g1 fun ak f1 bw ba bL bS=>?_;refine wH bM fun b h=>?_;generalize aI:dY (fG au c9 isr T (aZ b) N ae d i o (bu t1 aa (bW ak f1 bw ba bL bS) fn)) K=KK;refine aK (qO (loc:=[.ref 0,.aQ,.aQ,.aQ,.aQ,.aQ,.aQ,.aQ,.aQ,.aQ,.aQ]) rfl (by kernel_rfl)) (aK (gm 2 _ _ _ _) (aK Vw (cw ?_ (dQ (fun e=>?_) fun e=>?_))))
 .rw[K7 g3];cases b<;>rfl
 .refine aK fi (aK (gm 1 _ _ _ _) (aK Vy (aK fi ?_)));rw[mc,←aI];exact aK (JE ak f1) (jn e h)
 .refine b8 (gG (iY e h)) fun ek h=>?_;refine cw ek (aK fi (aK (gm 1 _ _ _ _) (aK Vx (cw rfl (MD h ?_ fun hm=>?_)))));rotate_left
  .refine aK fi ?_;rw[mc,←aI];exact aK (JE ak f1) hm
  refine fun e he b6=>aK fi ?_;rw[mc,←aI];exact Wf (aA:=fun ak f1 v=>Ev (vR au c9 isr T (aZ b) N ae d i o t1 aa (bW ak f1 bw ba bL bS) fn K v)→Ev (b4 (bh aT (m+8)) aP (cn 3 mQ.body) (pA (.tup (tupI T (aZ b) N d)) v) (fG au c9 isr T (aZ b) N ae d i o (bu t1 aa (bW ak f1 bw ba bL bS) fn)) (e2 (dY (fG au c9 isr T (aZ b) N ae d i o (bu t1 aa (bW ak f1 bw ba bL bS) fn)) K))))
   (fun w r f b6=>aK (Vv w r b f) (WK g3 (aK (U1 w r f).symm b6))) e he b6
theorem adb (m:Nat):fF (bh aT (m+8)) aP xf mQ:=mZ fun(a:Unit×Unit) (x:yy) K fC fY bD=>
 aK (by kernel_rfl) (aga m (au:=x.2.1.2.1) (c9:=x.2.1.2.2.2.2.1) (isr:=x.2.1.2.2.2.2.2.1) (T:=x.2.2.2.1.2.2.1) (U:=x.2.2.2.1.2.2.2.1) (N:=x.2.2.2.1.2.2.2.2.1) (ae:=x.2.2.2.1.2.2.2.2.2.1) (d:=x.2.2.2.2.1) (i:=x.2.2.2.2.2.2.1.2.2.1) (o:=x.2.2.2.2.2.2.1.2.2.2.1)
  (t1:=x.2.2.2.2.2.2.2.2.2.2.2.2.1) (aa:=x.2.2.2.2.2.2.2.2.2.2.2.2.2.2.1) (aH:=x.2.2.2.2.2.2.2.2.2.2.2.2.2.2.2.2.2.1.1) (fn:=x.2.2.2.2.2.2.2.2.2.2.2.2.2.2.2.2.2.1.2) (K:=K) (aK (by kernel_rfl) bD))
section
variable {xs:List Int}{k:Int}
theorem UR:cR (bh aT m) aP yh [.ref 0,.int k] [.d6 xs] (dY [.d6 xs] K)=
 cY (xs.length<2^63) (ao (ltI k xs.length) (cY (0≤k∧k<2^62) (cY (k.toNat<xs.length) (K (.int (xs.getD k.toNat 0% 2^64)) [.d6 xs])))
  (ao (ltI k 14) (cY (0≤k∧k<2^62) (cY (k.toNat<Gn.length) (K (.int (Gn.getD k.toNat 0)) [.d6 xs]))) (cY (k.natAbs<2^64∨(12:Int).natAbs<2^64) (K (.int (12*k)) [.d6 xs])))):=by kernel_rfl
end
theorem TR (m:Nat){xs:List Int}{k:Int}(h:Ev (Jl xs k K)):Ev (cR (bh aT m) aP yh [.ref 0,.int k] [.d6 xs] (dY [.d6 xs] K)):=by
 refine b8 (gG h) fun e h=>b5 e fun aW aJ=>b5 aJ fun aJ cJ=>aK UR (jm (mJ (d5 cJ) (by decide)) ?_);clear e cJ;obtain⟨j,rfl⟩:=jV (wI aW);have c:0≤(j:Int)∧(j:Int)<2^62:=⟨lf _,ko (pb aJ) (by decide)⟩;clear aW aJ;unfold qc at h;refine dQ (fun e=>?_) fun e=>?_
 .rw[e] at h;exact jm c (jm (je.mp (pb e)) h)
 .rw[e] at h;refine dQ (fun cJ=>?_) fun cJ=>?_
  .rw[cJ] at h;exact jm c (jm (je.mp (pb cJ)) h)
  .rw[cJ] at h;exact jm (.inr (by decide)) h
section
variable {s:Bool×Bool×Int×Int×fy×Unit}{p:dv}
noncomputable def ro (a b:Bool):List Int:=match a with
 |true=>(match b with|true=>[250,3,255]|false=>[250,3])
 |false=>(match b with|true=>[250]|false=>[])
def xn (pr c:Int)(h:List Int):List Int:=match decide (pr=6) with
 |true=>h.take 16++bf c 2++h.drop 18
 |false=>h.take 6++bf c 2++h.drop 8
def A9 (pr:Int)(cut:Bool)(l:List Int):List Int:=match cut with
 |true=>(match decide (pr=6) with|true=>l.take 12|false=>l.take 6)
 |false=>l
def Gf (nf pr:Int)(s:Bool×Bool×Int×Int×fy×Unit)(p:dv)(Y:Int)(L:Bool)(W:Int)(ai cut:Bool)(S:List Int)(K:bE)(c:Int):Prop:=
 K (.ref 3) [gy (nf,pr,s),dK 2 (Y,L,W,(),ai,cut,()),.ints S,.ints (A9 pr cut (xn pr c (mC pr p.1.2.1 p.2.1.2.1 Y S)))]
noncomputable abbrev AC (p:dv):V:=.tup [.tup [.int p.1.1,.int p.1.2.1],.tup [.int p.2.1.1,.int p.2.1.2.1]]
abbrev PG (nf pr:Int)(p:dv)(Y:Int)(S:List Int):Int:=h9 nf pr p.1.1 p.1.2.1 p.2.1.1 p.2.1.2.1 Y S
def Pz (c ai:Bool)(x:Int)(b0:Int→Prop):Prop:=cond c (b0 x) (cond ai (b0 0) (ao (x !=0) (b0 x) (b0 65535)))
theorem agk {c:Bool}{dG:Int}{b0:Int→Prop}(h:Ev (b0 (mB (aZ c) dG ai))):Ev (Pz c ai (-dG% 65535) b0):=by
 induction c using eo with
 |true=>exact h
 |false=>induction ai using eo with
  |true=>exact h
  |false=>
   have h:Ev (b0 (fI (-dG% 65535))):=h;unfold fI at h;refine dQ (fun e=>?_) fun e=>?_
   .rw[decide_eq_false (bne_iff_ne.mp e)] at h;exact h
   .rw[decide_eq_true (bne_eq_false_iff_eq.mp e)] at h;exact h
theorem Vz:∀n a b c ai cut:Bool,cR (bh aT (m+3)) aP yk [.ref 0,AC p,.ref 1] [gy (cA n,aZ c,s),dK 2 (Y,L,W,(),ai,cut,()),.ints (ro a b)] (dY [gy (cA n,aZ c,s),dK 2 (Y,L,W,(),ai,cut,()),.ints (ro a b)] K)=
 Pz c ai (-PG (cA n) (aZ c) p Y (ro a b)% 65535) (Gf (cA n) (aZ c) s p Y L W ai cut (ro a b) K):=Ix (by kernel_rfl)
theorem Yv {d:List Int}(h:hv d=true):∃a b,d=ro a b:=by
 rcases jP h with h|h
 .exact⟨false,false,of_decide_eq_true h⟩
 rcases jP h with h|h
 .exact⟨false,true,of_decide_eq_true h⟩
 rcases jP h with h|h
 .exact⟨true,false,of_decide_eq_true h⟩
 .exact⟨true,true,of_decide_eq_true h⟩
@[elab_as_elim] theorem wz {aA:List Int→Prop}{d:List Int}(h:hv d=true)(k:∀a b,aA (ro a b)):aA d:=dD (Yv h) fun a b q=>q▸k a b
theorem Be (nf pr bO bF bN dp Y:Int)(S:List Int)(ai cut:Bool):Bd nf pr bO bF bN dp Y S ai cut=A9 pr cut (xn pr (mB pr (h9 nf pr bO bF bN dp Y S) ai) (mC pr bF dp Y S)):=by unfold Bd A9 Bb xn;cases cut<;>cases decide (pr=6)<;>rfl
theorem agn (nf pr:Int)(ai cut:Bool)(h:Ev (PC (nf,pr,s) (Y,L,W,(),ai,cut,()) S p K)):
 Ev (cR (bh aT (m+3)) aP yk [.ref 0,AC p,.ref 1] [gy (nf,pr,s),dK 2 (Y,L,W,(),ai,cut,()),.ints S] (dY [gy (nf,pr,s),dK 2 (Y,L,W,(),ai,cut,()),.ints S] K)):=by
 refine b8 (gG h) fun e h=>b5 e fun aW e=>b5 e fun aJ cJ=>?_;clear e;rw[Be] at h;replace h:Ev (Gf nf pr s p Y L W ai cut S K (mB pr (PG nf pr p Y S) ai)):=h;revert h;exact EF (n:=nf) aW fun n=>wH (U:=pr) aJ fun c=>wz cJ fun a b h=>aK (Vz n a b c ai cut) (agk (b0:=Gf (cA n) (aZ c) s p Y L W ai cut (ro a b) K) h)
def agZ (su:fg)(sx:ji)(S ins:List Int)(l:List Int)(n:Nat)(K:bE):Prop:=
 cY (ins.length<2^63) (cY (n+ins.length≤1000000) (ao (o7 l) (cY (l.length≤1000000) (K (.bytes l) [gy su,dK 2 sx,.ints S,.ints ins])) False))
noncomputable def Gr (n L:Bool):Nat:=cond n (cond L 24 20) (cond L 48 40)
theorem VD {cut:Bool}:∀n L:Bool,cR (bh aT (m+3)) aP yl [.ref 0,AC p,.int X,.ref 1,.ref 3] [gy (cA n,pr,s),dK 2 (Y,L,W,(),ai,cut,()),.ints S,.ints ins] (dY [gy (cA n,pr,s),dK 2 (Y,L,W,(),ai,cut,()),.ints S,.ints ins] K)=
 agZ (cA n,pr,s) (Y,L,W,(),ai,cut,()) S ins (sC (cA n) pr X p.1.1 p.2.1.1 W L ins) (Gr n L) K:=all2 (by kernel_rfl)
theorem ag2:∀n L:Bool,(sC (cA n) pr X bO bN W L ins).length=ins.length+Gr n L:=all2 (by kernel_rfl)
theorem Qc:∀n L:Bool,Gr n L≤48:=by decide
theorem ag1 (nf pr:Int)(ai cut:Bool)(h:Ev (Qb (nf,pr,s) (Y,L,W,(),ai,cut,()) S ins p X K)):
 Ev (cR (bh aT (m+3)) aP yl [.ref 0,AC p,.int X,.ref 1,.ref 3] [gy (nf,pr,s),dK 2 (Y,L,W,(),ai,cut,()),.ints S,.ints ins] (dY [gy (nf,pr,s),dK 2 (Y,L,W,(),ai,cut,()),.ints S,.ints ins] K)):=by
 refine b8 (gG h) fun e k=>b5 e fun aW e=>?_;clear h;replace k:Ev (K (.bytes (sC nf pr X p.1.1 p.2.1.1 W L ins)) [gy (nf,pr,s),dK 2 (Y,L,W,(),ai,cut,()),.ints S,.ints ins]):=k;replace e:(de ins.length 1000&&o7 (sC nf pr X p.1.1 p.2.1.1 W L ins))=true:=e;revert k e;refine EF (n:=nf) aW fun n k e=>b5 e fun aJ cJ=>aK (VD n L) ?_;have aJ:=d5 aJ;exact jm (mJ aJ (by decide)) (jm (e4 (Nat.add_le_add (Qc n L) aJ) (by decide)) (cw cJ (jm (by rw[ag2];exact e4 (Nat.add_le_add aJ (Qc n L)) (by decide)) k)))
end
theorem acY (m:Nat):fF (bh aT m) aP FG yh:=mZ fun(a:Unit×Int×Unit) (x:List Int×Unit) K fC fY bD=>
 aK (by kernel_rfl) (TR m (xs:=x.1) (k:=a.2.1) (K:=K) (aK (by kernel_rfl) bD))
theorem acZ (m:Nat):fF (bh aT (m+3)) aP FH yk:=mZ fun(a:Unit×dv×Unit×Unit) (x:fg×ji×List Int×Unit) K fC fY bD=>
 aK (by kernel_rfl) (agn (m:=m) (s:=x.1.2.2) (p:=a.2.1) (Y:=x.2.1.1) (W:=x.2.1.2.2.1) (L:=x.2.1.2.1) (S:=x.2.2.1) (K:=K) x.1.1 x.1.2.1 x.2.1.2.2.2.2.1 x.2.1.2.2.2.2.2.1 (aK (by kernel_rfl) bD))
theorem ac0 (m:Nat):fF (bh aT (m+3)) aP FI yl:=mZ fun(a:Unit×dv×Int×Unit×Unit×Unit) (x:fg×ji×List Int×List Int×Unit) K fC fY bD=>
 aK (by kernel_rfl) (ag1 (m:=m) (s:=x.1.2.2) (p:=a.2.1) (Y:=x.2.1.1) (W:=x.2.1.2.2.1) (X:=a.2.2.1) (L:=x.2.1.2.1) (S:=x.2.2.1) (ins:=x.2.2.2.1) (K:=K) x.1.1 x.1.2.1 x.2.1.2.2.2.2.1 x.2.1.2.2.2.2.2.1 (aK (by kernel_rfl) bD))
noncomputable def fg.ends (x:fg):fy:=x.2.2.2.2.2.2.1
noncomputable def fy.at_ (e:fy)(av aw:Bool):dv:=match av with
 |false=>(match aw with|false=>e.1.1|true=>e.1.2.1)
 |true=>(match aw with|false=>e.2.1.1|true=>e.2.1.2.1)
noncomputable def fP (nf pr:Int)(p:dv):ej:=(nf,pr,p.1.1,p.1.2.1,p.2.1.1,p.2.1.2.1,())
def fg.tup (x:fg)(av aw:Bool):ej:=fP x.1 x.2.1 (x.ends.at_ av aw)
def a6 (i:Int)(t:ej):List V:=[.int i,uz t]
def fL (su:fg)(ak f1:Bool):List (V×V):=bW ak f1 (a6 1 (su.tup false false)) (a6 2 (su.tup false true)) (a6 1 (su.tup true false)) (a6 2 (su.tup true true))
def agY (au:Int):an:=.dict [(.str (a7 "now"),.int au),(.str (a7 "until"),.ref 13),(.str (a7 "flows"),.ref 14)] 3
def QO (xs:List Int)(su:fg)(cC:er)(au bq br:Int)(ak f1:Bool):List an:=[.d6 xs,gy su]++(dB 2 cC++[.ints [bq,br],.list [.bool ak,.bool f1],agY au])
theorem m0 {k:Nat}{r:Nat}{vs0:List V}{H0:List an}(ct:aT k=E ⟨r,false,fun C=>cR C aP bg⟩)(am:de r n=true)(R:reach H 300 (kJ vs) []=sel)
 (Z:(i3 sel&&iM (eW sel) vs&&sel.all (lK (eW sel) H))=true)(bv:mw (iN sel) vs=vs0)(cZ:(sel.map fun l=>jQ (iN sel) (j5 H l))=H0)(h:Ev (cR (bh aT n) aP bg vs0 H0 (fun r aq=>iq sel H r aq K))):Ev (bh aT (n+1) k vs H K):=by
 refine⟨?_⟩;unfold bh;rw[ct];refine(?_:ao (de r n) (p9 (cR (bh aT n) aP bg) vs H K) False);unfold p9 C0;rw[R,am,Z,bv,cZ];exact h.out
noncomputable def dt (t:ej):List Int:=[t.1,t.2.1,t.2.2.1,t.2.2.2.1,t.2.2.2.2.1,t.2.2.2.2.2.1]
def nb (t u:ej):Bool:=i2 (bn 1) (ltV 1) ((dt t).map V.int) ((dt u).map V.int)
theorem El:∀{xs ys:List Int},xs.length=ys.length→xs≠ys→i2 (bn 1) (ltV 1) (ys.map V.int) (xs.map V.int)= !i2 (bn 1) (ltV 1) (xs.map V.int) (ys.map V.int)
 | [],[],_,h=>absurd rfl h
 | [],_::_,h,_=>nomatch h
 |_::_,[],h,_=>nomatch h
 |x::xs,y::ys,h,aL=>by
  refine(?_:(match decide (y=x) with|true=>i2 (bn 1) (ltV 1) (ys.map V.int) (xs.map V.int)|false=>decide (y<x))= !(match decide (x=y) with|true=>i2 (bn 1) (ltV 1) (xs.map V.int) (ys.map V.int)|false=>decide (x<y)))
  by_cases e:x=y
  .subst e;rw[decide_eq_true (rfl:x=x)];exact El (lZ h) fun q=>aL (q▸rfl)
  .rw[decide_eq_false e,decide_eq_false (fun q=>e q.symm)]
   by_cases c:x<y
   .rw[decide_eq_true c,decide_eq_false (by lia)];rfl
   .rw[decide_eq_false c,decide_eq_true (by lia)];rfl
def e7 (i:Int)(t:ej)(n d o:Int):V:=.tup [.tup (a6 i t),val n d o]
theorem z1 {xs ys:List Int}(h:xs.length=ys.length)(n:Nat):iI (bn n) (xs.map V.int) (ys.map V.int)=decide (xs=ys):=by
 induction xs generalizing ys with
 |nil=>induction ys using List.casesOn with
  |nil=>rfl
  |cons _ _=>cases h
 |cons x xs aF=>induction ys using List.casesOn with
  |nil=>cases h
  |cons y ys=>
   have e:bn n (.int x) (.int y)=decide (x=y):=by cases n<;>rfl
   refine(?_:(bn n (.int x) (.int y)&&iI (bn n) (xs.map V.int) (ys.map V.int))=_);rw[aF (lZ h),e,uS];simp
theorem y3 {i:Int}{t u:ej}{n d o kG d':Int}(h:dt t≠dt u):ltV 4 (e7 i t n d o) (e7 i u kG d' o')=nb t u:=by
 refine(?_:(match(iI (bn 2) (a6 i t) (a6 i u)) with|true=>_|false=>(match decide (i=i) with|true=>(match iI (bn 1) ((dt t).map V.int) ((dt u).map V.int) with|true=>i2 (bn 2) (ltV 2) [] []|false=>i2 (bn 1) (ltV 1) ((dt t).map V.int) ((dt u).map V.int))|false=>decide (i<i)))=_)
 have aW:iI (bn 1) ((dt t).map V.int) ((dt u).map V.int)=false:=(z1 (xs:=dt t) (ys:=dt u) rfl 1).trans (decide_eq_false h);have aJ:iI (bn 2) (a6 i t) (a6 i u)=false:=by refine(?_:(decide (i=i)&&(iI (bn 1) ((dt t).map V.int) ((dt u).map V.int)&&true))=false);rw[aW,oG,jd]
 rw[aJ,aW,decide_eq_true (rfl:i=i)];rfl
theorem y4 {i:Int}{t:ej}{n d o:Int}:ltV 4 (e7 i t n d o) (e7 i t n d o)=false:=by
 have aW:iI (bn 1) ((dt t).map V.int) ((dt t).map V.int)=true:=(z1 (xs:=dt t) (ys:=dt t) rfl 1).trans (decide_eq_true rfl);have aJ:iI (bn 2) (a6 i t) (a6 i t)=true:=by refine(?_:(decide (i=i)&&(iI (bn 1) ((dt t).map V.int) ((dt t).map V.int)&&true))=true);rw[aW,decide_eq_true (rfl:i=i)];rfl
 refine(?_:(match(iI (bn 2) (a6 i t) (a6 i t)) with|true=>(match iI (bn 2) ([n,d,o].map V.int) ([n,d,o].map V.int) with|true=>i2 (bn 3) (ltV 3) [] []|false=>i2 (bn 2) (ltV 2) ([n,d,o].map V.int) ([n,d,o].map V.int))|false=>_)=false)
 rw[aJ,z1 rfl,decide_eq_true rfl];rfl
noncomputable def oe (b:Bool)(x y:Int):Int:=match b with|true=>x|false=>y
def Az (b:Bool)(t u:ej):ej:=(oe b t.1 u.1,oe b t.2.1 u.2.1,oe b t.2.2.1 u.2.2.1,oe b t.2.2.2.1 u.2.2.2.1,oe b t.2.2.2.2.1 u.2.2.2.2.1,oe b t.2.2.2.2.2.1 u.2.2.2.2.2.1,())
def FU (dL t1 aa d3:ej)(b c:Bool):List V:=[e7 1 (Az b dL aa) (oe b 1 2) 0 2,e7 1 (Az b aa dL) (oe b 2 1) 0 2,e7 2 (Az c t1 d3) (oe c 1 2) 1 1,e7 2 (Az c d3 t1) (oe c 2 1) 1 1]
def rP (dL t1 aa d3:ej):List V:=[e7 1 dL 1 0 2,e7 2 t1 1 1 1,e7 1 aa 2 0 2,e7 2 d3 2 1 1]
def ek (b c:Bool)(i j:Nat):Bool:=match i,j with
 |0,1=>true|0,2=>b|0,3=>true
 |1,3=>c
 |2,0=> !b|2,1=>true|2,3=>true
 |3,1=> !c
 |_,_=>false
theorem aaa (v:V):ltV 4 .none v=false:=by cases v<;>rfl
theorem Aa (v:V):ltV 4 v .none=false:=by cases v<;>rfl
theorem VW {t1 aa:ej}(bl:dt dL≠dt aa)(R:dt t1≠dt d3):(fun i j=>ltV 4 ((rP dL t1 aa d3).getD i .none) ((rP dL t1 aa d3).getD j .none))=ek (nb dL aa) (nb t1 d3):=by
 funext i j
 match i,j with
 |0,0=>exact y4
 |0,1=>rfl
 |0,2=>exact y3 bl
 |0,3=>rfl
 |0,j+4=>exact Aa _
 |1,0=>rfl
 |1,1=>exact y4
 |1,2=>rfl
 |1,3=>exact y3 R
 |1,j+4=>exact Aa _
 |2,0=>exact(y3 fun q=>bl q.symm).trans (El rfl bl)
 |2,1=>rfl
 |2,2=>exact y4
 |2,3=>rfl
 |2,j+4=>exact Aa _
 |3,0=>rfl
 |3,1=>exact(y3 fun q=>R q.symm).trans (El rfl R)
 |3,2=>rfl
 |3,3=>exact y4
 |3,j+4=>exact Aa _
 |i+4,j=>exact aaa _
theorem aeV {t1 aa:ej}(bl:dt dL≠dt aa)(R:dt t1≠dt d3):fs (kf (rP dL t1 aa d3))=.list (FU dL t1 aa d3 (nb dL aa) (nb t1 d3)):=by have e:kf (rP dL t1 aa d3)=(qx (fun i j=>ltV 4 ((rP dL t1 aa d3).getD i .none) ((rP dL t1 aa d3).getD j .none)) (oM 4)).toList.map fun i=>(rP dL t1 aa d3).getD i .none:=rfl;rw[e,VW bl R];cases nb dL aa<;>cases nb t1 d3<;>kernel_rfl
def gj (ak f1:Bool)(dL t1 aa d3:ej):an:=match ak with
 |true=>(match f1 with
  |true=>.list (FU dL t1 aa d3 (nb dL aa) (nb t1 d3))
  |false=>.list [e7 1 dL 1 0 2,e7 2 t1 1 1 1])
 |false=>(match f1 with
  |true=>.list [e7 1 aa 2 0 2,e7 2 d3 2 1 1]
  |false=>.ints [])
def tS (ak f1:Bool)(dL t1 aa d3:ej):List V:=(bW ak f1 (a6 1 dL) (a6 2 t1) (a6 1 aa) (a6 2 d3)).map fun e=>.tup [e.1,e.2]
theorem xe {t1 aa:ej}(bl:dt dL≠dt aa)(R:dt t1≠dt d3)(ak f1:Bool):fs (kf (tS ak f1 dL t1 aa d3))=gj ak f1 dL t1 aa d3:=by
 cases ak<;>cases f1
 .rfl
 .kernel_rfl
 .kernel_rfl
 .exact aeV bl R
def ra (su:fg)(au bq br:Int)(ak f1:Bool):List an:=[gy su,.dict [(.str (a7 "now"),.int au),(.str (a7 "until"),.ref 2),(.str (a7 "flows"),.ref 3)] 3,.ints [bq,br],.list [.bool ak,.bool f1]]
def EZ (ak f1:Bool)(dL t1 aa d3:ej):an:=match ak||f1 with|true=>.list (tS ak f1 dL t1 aa d3)|false=>.ints []
abbrev cH (xs:List Int)(su:fg)(cC:er)(au bq br:Int)(ak f1:Bool)(G:List an):List an:=QO xs su cC au bq br ak f1++G
section
variable {xs:List Int}{G:List an}
theorem JD:∀ak f1:Bool,cR (bh aT (m+2)) aP vg [.ref 0,.ref 1] (ra su au bq br ak f1) K=
 K (.ref 5) (ra su au bq br ak f1++[EZ ak f1 (su.tup false false) (su.tup false true) (su.tup true false) (su.tup true true),fs (kf (tS ak f1 (su.tup false false) (su.tup false true) (su.tup true false) (su.tup true true)))]):=all2 (by kernel_rfl)
theorem U0 (ak f1:Bool){t1 aa:ej}:iq [1,15,13,14] (cH xs su cC au bq br ak f1 G) (.ref 5) (ra su au bq br ak f1++[EZ ak f1 dL t1 aa d3,gj ak f1 dL t1 aa d3]) K=
 K (.ref (cH xs su cC au bq br ak f1 G).length) (cH xs su cC au bq br ak f1 G++[gj ak f1 dL t1 aa d3]):=by
 revert ak f1;exact @all2 _ _ _ (by kernel_rfl)
end
def adm:List V:=[.str (a7 "which"),.str (a7 "way"),.str (a7 "ttl"),.str (a7 "is_strange"),.str (a7 "iif"),.str (a7 "step"),.str (a7 "shape"),.str (a7 "pair")]
def adn (r:Nat):ea:=.cons .i<|.cons .i<|.cons .i<|.cons .b<|.cons .i<|.cons .i<|.cons (hH r)<|.cons nh .nil
abbrev jF:Type:=Int×Int×Int×Bool×Int×Int×Unit×dv×Unit
def hn (r:Nat)(x:jF):an:=tc (.d adm (adn r) 8) x
noncomputable def Gq (a b:Bool):Int:=match a with
 |true=>(match b with|true=>3|false=>2)
 |false=>(match b with|true=>1|false=>0)
noncomputable def a4 (b:Bool):Int:=match b with|true=>1|false=>0
noncomputable def ags (t:Int):Int:=([64,2,1,255,0,3,64,2]:List Int).getD t.toNat 0
noncomputable def stepI (t:Int):Int:=([0,1,500,4000,119999,120000,432000000,3999]:List Int).getD t.toNat 0
noncomputable def Wd (t:Int):Int:=([16,24,17,16,20,18,16,0]:List Int).getD t.toNat 0
noncomputable def ag4 (t:Int):Int:=([0,16384,0,16384,0,8192,3,8193]:List Int).getD t.toNat 0
def CR (d:Int):List Int:=([250,3,255]:List Int).take d.toNat
def gH (a:Bool)(aw:Bool):Int:=match a with|true=>2-a4 aw|false=>1+a4 aw
noncomputable def dI (b:Bool)(p:dv):dv:=match b with|true=>((p.1.1,(p.1.2.1+1000)% 65536,()),p.2.1,())|false=>p
def C6 (p aH eT iw st:Int)(jN:Bool→Prop):Prop:=
 cY (0≤st∧st<2^62) (cY (st.toNat<8) (cY (0≤aH∧aH<2^62) (cY (aH.toNat<8) (cY (0≤eT∧eT<2^62) (cY (eT.toNat<8) (ao (gx none&&gx (E iw)) (ao (decide (p=7)) (jN true) (jN false)) False))))))
def JK (t f p aH eT iw st:Int)(jN:Bool→Bool→Prop):Prop:=
 cY (0≤t∧t<2^62) (cY (t.toNat<8) (ao (decide (f=7)) (C6 p aH eT iw st (jN true)) (C6 p aH eT iw st (jN false))))
def JI (su:fg)(av aw a b:Bool)(t p st:Int):jF:=(a4 av,a4 aw,ags t,decide (p=7),gH a aw,stepI st,(),dI b (su.ends.at_ av aw),())
def JJ (aH n6 eT cB nS:Int):ji:=(Wd aH,decide (n6=3),ag4 eT,(),decide (cB=3),decide (nS=7),())
section
variable {xs:List Int}{d0 t p aH n6 eT iw cB nS:Int}{dy g1 bM g3:an}
def JH (w y t f p aH n6 eT iw cB nS st:Int):List V:=[.ref 0,.ref 1,.int w,.int y,.int t,.int f,.int p,.int aH,.int n6,.int eT,.int iw,.int cB,.int nS,.int st,.aQ,.aQ,.aQ]
noncomputable def TF (n:Int):List Int:=[n% 4,n/4% 2,n/4/2% 8,n/4/2/8% 8,n/4/2/8/8% 8]
noncomputable def TG (n:Int):List Int:=[n% 8,n/8% 4,n/8/4% 8,n/8/4/8% 4,n/8/4/8/4% 4,n/8/4/8/4/4% 8,n/8/4/8/4/4/8% 8]
theorem UW:b4 (bh aT (m+2)) aP (fB 2 vf.body) [.ref 0,.ref 1,.aQ,.aQ,.aQ,.aQ,.aQ,.aQ,.aQ,.aQ,.aQ,.aQ,.aQ,.aQ,.aQ,.aQ,.aQ] [gy su,.ints [d0,dP]] K'=
 K' .next (JH (d0% 4) (d0/4% 2) (d0/4/2% 8) (d0/4/2/8% 8) (d0/4/2/8/8% 8) (dP% 8) (dP/8% 4) (dP/8/4% 8) (dP/8/4/8% 4) (dP/8/4/8/4% 4) (dP/8/4/8/4/4% 8) (dP/8/4/8/4/4/8% 8))
  [gy su,.ints [d0,dP],.ints [4,2,8,8,8],.ints (TF d0),.ints [8,4,8,4,4,8,8],.ints (TG dP)]:=by kernel_rfl
def JG (su:fg)(d0 dP:Int)(dy g1 bM g3:an)(av aw a b:Bool)(t p aH n6 eT iw cB nS st:Int):List an:=
 [gy su,.ints [d0,dP],dy,g1,bM,g3,hn 7 (JI su av aw a b t p st),dK 9 (JJ aH n6 eT cB nS),.ints [250,3,255],.ints (CR iw)]
theorem UX:∀iB ox aw:Bool,b4 (bh aT (m+2)) aP (cn 2 vf.body) (JH (Gq iB ox) (a4 aw) t f p aH n6 eT iw cB nS st) [gy su,.ints [d0,dP],dy,g1,bM,g3] (e2 K)=
 JK t f p aH eT iw st (fun a b=>K (.ref 6) (JG su d0 dP dy g1 bM g3 (iB&&ox) aw a b t p aH n6 eT iw cB nS st)):=oU (by kernel_rfl)
theorem UY {a b:an}(av aw p0 dh:Bool):iq [1,18] (cH xs su cC au bq br ak f1 [a,b,.ints [d0,dP]]) (.ref 6) (JG su d0 dP dy g1 bM g3 av aw p0 dh t p aH n6 eT iw cB nS st) K=
 K (.ref 19) (cH xs su cC au bq br ak f1 [a,b,.ints [d0,dP],hn 20 (JI su av aw p0 dh t p st),dK 21 (JJ aH n6 eT cB nS),.ints (CR iw)]):=by kernel_rfl
end
noncomputable def Pl (b x y:Bool):Bool:=match b with|true=>y|false=>x
noncomputable def Ay (b:Bool)(x y:pW):pW:=match b with|true=>x|false=>y
def n9 (e:fy)(s t av aw:Bool)(p:dv):dv:=match av with
 |true=>(p.1,p.2.1,())
 |false=>(Ay (Pl aw s t) (e.at_ false (!aw)).2.1 p.1,Ay (Pl aw t s) (e.at_ false (!aw)).1 p.2.1,())
def vl (su:fg)(rw:jF)(sx:ji)(S:List Int):List an:=[gy su,hn 2 rw,dK 3 sx,.ints S]
section
variable {xs:List Int}{e:fy}{d0 step:Int}{cut:Bool}{p:dv}
def i8 (nf pr:Int)(p:dv)(Y:Int)(S:List Int)(ai cut:Bool):List Int:=Bd nf pr p.1.1 p.1.2.1 p.2.1.1 p.2.1.2.1 Y S ai cut
def mF (nf pr X:Int)(p:dv)(W:Int)(L:Bool)(ins:List Int):List Int:=sC nf pr X p.1.1 p.2.1.1 W L ins
def sB (nf pr X:Int)(p:dv)(W:Int)(L:Bool)(ins:List Int):Bool:=de ins.length 1000&&o7 (mF nf pr X p W L ins)
def AA (nf pr X:Int)(p q:dv)(W:Int)(L df:Bool)(B3 aG:List Int)(K:V→Prop):Prop:=
 ao (sB nf pr X p W L B3) (ao (ltI 1 X) (ao (sB nf pr (X-1) q W L aG) (K (.tup [.bytes (mF nf pr X p W L B3),.bytes (mF nf pr (X-1) q W L aG),.bool df])) False)
  (ao (sB nf pr X q W L aG) (K (.tup [.bytes (mF nf pr X p W L B3),.bytes (mF nf pr X q W L aG),.bool df])) False)) False
def N5 (nf pr X:Int)(p q:dv)(Y W:Int)(L ai cut df:Bool)(S:List Int)(K:V→List an→Prop):Prop:=
 ao (iA pr&&hv S) (ao df (AA nf pr X p q W L df (i8 nf pr p Y S ai cut) (i8 nf pr p Y S ai cut) (fun v=>K v [.ints (i8 nf pr p Y S ai cut)]))
  (ao (iA pr&&hv S) (AA nf pr X p q W L df (i8 nf pr p Y S ai cut) (i8 nf pr q Y S ai cut) (fun v=>K v [.ints (i8 nf pr p Y S ai cut),.ints (i8 nf pr q Y S ai cut)])) False)) False
noncomputable def Mr (nf W:Int):Bool:=match decide (nf=2) with|true=> !decide (W% 8192=0)|false=>false
theorem Vb:∀n s t av aw:Bool,cR (bh aT (m+5)) aP yj [.ref 0,.ref 1] (vl (cA n,pr,s,t,wy,ca,e,()) (a4 av,a4 aw,X,hF,iif,step,(),p,()) (Y,L,W,(),ai,cut,()) S) K=
 N5 (cA n) pr X p (n9 e s t av aw p) Y W L ai cut (Mr (cA n) W) S (fun v G=>K v (vl (cA n,pr,s,t,wy,ca,e,()) (a4 av,a4 aw,X,hF,iif,step,(),p,()) (Y,L,W,(),ai,cut,()) S++G)):=jG (by kernel_rfl)
theorem Vc {rw:jF}{a b c x:an}{A B:List Int}{l:Bool}:iq [1,19,20,21] (cH xs su cC au bq br ak f1 [a,b,c,hn 20 rw,dK 21 sx,.ints S]) (.tup [.bytes B,.bytes A,.bool l]) (vl su rw sx S++[x]) K=
 K (.tup [.bytes B,.bytes A,.bool l]) (cH xs su cC au bq br ak f1 [a,b,c,hn 20 rw,dK 21 sx,.ints S]):=by kernel_rfl
theorem Vd {rw:jF}{a b c x y:an}{A B:List Int}{l:Bool}:iq [1,19,20,21] (cH xs su cC au bq br ak f1 [a,b,c,hn 20 rw,dK 21 sx,.ints S]) (.tup [.bytes B,.bytes A,.bool l]) (vl su rw sx S++[x,y]) K=
 K (.tup [.bytes B,.bytes A,.bool l]) (cH xs su cC au bq br ak f1 [a,b,c,hn 20 rw,dK 21 sx,.ints S]):=by kernel_rfl
end
def uc:List Bool→Prop→Prop→Prop
 | [],_,r=>r
 |c::cs,no,r=>ao c no (uc cs no r)
theorem EY {r:Prop}:∀{cs:List Bool},cs.any id=true→Ev no→Ev (uc cs no r)
 | [],h,_=>nomatch h
 |c::cs,h,k=>dQ (fun _=>k) fun e=>EY (by
  rw[List.any_cons,uT] at h;rcases h with h|h
  .rw[show id c=c from rfl,e] at h;exact dZ h
  .exact h) k
theorem w4 {r:Prop}:∀{cs:List Bool},cs.any id=false→Ev r→Ev (uc cs no r)
 | [],_,k=>k
 |c::cs,h,k=>by rw[List.any_cons,Bo] at h;exact eb h.1 (w4 h.2 k)
noncomputable def i4 {a0:Type}(b:Bool)(x y:a0):a0:=match b with|true=>y|false=>x
noncomputable def sh (av ak:Bool)(x:Bool):Bool:=match av with|true=>ak|false=>x
noncomputable def si (av f1:Bool)(x:Bool):Bool:=match av with|true=>x|false=>f1
noncomputable def xc (av:Bool)(bq x:Int):Int:=match av with|true=>bq|false=>x
noncomputable def xd (av:Bool)(br x:Int):Int:=match av with|true=>x|false=>br
def q9 (su:fg)(au bq br:Int)(ak f1:Bool)(rw:jF)(sx:ji)(S:List Int):List an:=ra su au bq br ak f1++[hn 5 rw,dK 6 sx,.ints S]
noncomputable def zd (nf W:Int):List Bool:=match decide (nf=2) with|true=>[!decide (W% 16384=0)]|false=>[]
def rt (nf pr au:Int)(aw:Bool)(k9 X iif Y W:Int)(l hF ik L cut:Bool)(no e7:Prop)(pass:Int→Prop):Prop:=
 uc [l,hF, !decide (iif=1+a4 aw), !ik,cb k9 au,ltI X 2,L] no (uc (zd nf W) no (uc [cut] no (ao (decide (pr=6))
  (ao (decide (17=Y)||(decide (20=Y)||false)) e7 (ao (decide (Y=18)) no (ao (decide (pr=6)) (pass (au+432000000)) (pass (au+120000))))) (ao (decide (pr=6)) (pass (au+432000000)) (pass (au+120000))))))
section
variable {xs:List Int}{e:fy}{d0 step:Int}{A7 l cut:Bool}{p:dv}
theorem UT:∀n ak f1 av aw:Bool,cR (bh aT m) aP yi [.ref 0,.ref 1,.ref 4,.bool l] (q9 (cA n,pr,ag,A7,wy,ca,e,()) au bq br ak f1 (a4 av,a4 aw,X,hF,iif,step,(),p,()) (Y,L,W,(),ai,cut,()) S) K=
 rt (cA n) pr au aw (i4 av bq br) X iif Y W l hF (i4 av ak f1) L cut
  (K (.int (-1)) (q9 (cA n,pr,ag,A7,wy,ca,e,()) au bq br ak f1 (a4 av,a4 aw,X,hF,iif,step,(),p,()) (Y,L,W,(),ai,cut,()) S))
  (K (.int (-1)) (q9 (cA n,pr,ag,A7,wy,ca,e,()) au bq br (sh av ak false) (si av f1 false) (a4 av,a4 aw,X,hF,iif,step,(),p,()) (Y,L,W,(),ai,cut,()) S))
  (fun x=>K (.int (2-a4 aw)) (q9 (cA n,pr,ag,A7,wy,ca,e,()) au (xc av bq x) (xd av br x) ak f1 (a4 av,a4 aw,X,hF,iif,step,(),p,()) (Y,L,W,(),ai,cut,()) S)):=jG (by kernel_rfl)
theorem UU {rw:jF}{a b c:an}{r:Int}:iq [1,15,13,14,19,20,21] (cH xs su cC au bq br ak f1 [a,b,c,hn 20 rw,dK 21 sx,.ints S]) (.int r) (q9 su au cX dS bl R rw sx S) K=
 K (.int r) (cH xs su cC au cX dS bl R [a,b,c,hn 20 rw,dK 21 sx,.ints S]):=by kernel_rfl
def rr (nf au:Int)(aw:Bool)(k9 X iif W:Int)(l hF ik L cut:Bool):Bool:=
 !([l,hF, !decide (iif=1+a4 aw), !ik,cb k9 au,ltI X 2,L].any id||((zd nf W).any id||cut))
theorem T3 {k9:Int}{ik:Bool}{e7:Prop}{pass:Int→Prop}(h:rr nf au aw k9 X iif W l hF ik L cut=false)(k:Ev no):Ev (rt nf pr au aw k9 X iif Y W l hF ik L cut no e7 pass):=by
 unfold rr at h;rw[uR,uT,uT] at h;unfold rt;cases dE:[l,hF, !decide (iif=1+a4 aw), !ik,cb k9 au,ltI X 2,L].any id with
 |true=>exact EY dE k
 |false=>
  refine w4 dE ?_;rw[dE] at h;cases dX:(zd nf W).any id with
  |true=>exact EY dX k
  |false=>
   refine w4 dX ?_;rw[dX] at h;have:cut=true:=by
    rcases h with h|h|h
    .exact dZ h
    .exact dZ h
    .exact h
   exact cw this k
theorem T2 {k9:Int}{ik:Bool}{e7:Prop}{pass:Int→Prop}(h:rr nf au aw k9 X iif W l hF ik L cut=true)
 (k:Ev (ao (decide (pr=6)) (ao (decide (Y=17)||decide (Y=20)) e7 (ao (decide (Y=18)) no (pass (au+432000000)))) (pass (au+120000)))):Ev (rt nf pr au aw k9 X iif Y W l hF ik L cut no e7 pass):=by
 unfold rr at h;rw[km,Bo,Bo] at h;unfold rt;refine w4 h.1 (w4 h.2.1 (eb h.2.2 ?_));refine dQ (fun e=>?_) fun e=>?_
 .have k:=jn e k;rw[uU,decide_eq_decide.mpr (eq_comm (a:=(17:Int)) (b:=Y)),decide_eq_decide.mpr (eq_comm (a:=(20:Int)) (b:=Y))];refine dQ (fun aJ=>jn aJ k) fun aJ=>?_;have k:=iY aJ k;exact dQ (fun cJ=>jn cJ k) fun cJ=>cw e (iY cJ k)
 .exact eb e (iY e k)
end
def l4 (su:fg)(cC:er)(rw:jF)(sx:ji)(S:List Int):List an:=[gy su]++(dB 1 cC++[hn 13 rw,dK 14 sx,.ints S])
def nJ (su:fg)(cC:er)(rw:jF)(sx:ji)(S:List Int)(au T U N ae:Int)(d:List Int)(i:Int):List an:=l4 su cC rw sx S++(sV 15 T U N ae d i 0++
 [.dict [] 0,.dict (oD xa [.ref 15,.int au,.str (a7 "input"),.none,.int 1,.int 0,.ref 1,.ref 23,.ref 24,.ref 20,.ref 25,.ref 26,.ref 27,.ref 28,.str (a7 "little"),.ref 29,.ref 30,.none,.ref 31]) 19,.inst 21,
  .dict [] 0,.dict [] 0,.dict [] 0,.dict [] 0,.dict [] 0,.dict [] 0,.ints [],.ints [],.dict [] 0])
def w5 (n:Bool)(d:List Int)(aG:Int→Int→Int→Prop):Prop:=match n with
 |true=>ao (de 20 d.length&&decide (d.getD 0 0=69)) (aG (d.getD 9 0) (oc 20 d) (k2 d)) (ao (de 24 d.length&&decide (d.getD 0 0=70)) (aG (d.getD 9 0) (oc 24 d) (k2 d)) False)
 |false=>ao (de 40 d.length&&decide (d.getD 0 0=96)) (ao (iA (d.getD 6 0)) (aG (d.getD 6 0) 40 0) (ao (decide (d.getD 6 0=60)&&(de 48 d.length&&(decide (d.getD 41 0=0)&&iA (d.getD 40 0)))) (aG (d.getD 40 0) 48 0) False)) False
def n5 (au:Int)(d:List Int)(a b c:V):List V:=[.ref 0,.ref 1,.ref 12,.int au,.bytes d,a,b,c]
section
variable {fn:Nat}{s:Int×Bool×Bool×Int×Int×fy×Unit}{rw:jF}{d:List Int}{t1 aa:c7}
theorem U3:∀n:Bool,b4 (bh aT (m+10)) aP (fB 4 nH.body) (n5 au d .aQ .aQ .aQ) (l4 (cA n,s) cC rw sx S) K'=
 w5 n d fun U N ae=>K' .next (n5 au d (.ref 15) (.ref 22) .aQ) (nJ (cA n,s) cC rw sx S au (cE n) U N ae d rw.2.2.2.2.1):=all1 (by kernel_rfl)
theorem U4:b4 C aP (fB 1 (cn 4 nH.body)) (n5 au d (.ref 15) (.ref 22) .aQ) H K'=C D4 [.ref 22] H fun v aq=>K' .next (n5 au d (.ref 15) (.ref 22) v) aq:=by kernel_rfl
theorem U5 {rp:List Int}{T U N ae i r:Int}{gL gM:ej}:b4 C aP (cn 5 nH.body) (n5 au rp (.ref 15) (.ref 22) (.int r)) (nJ su (bu t1 aa (bW ak f1 (a6 1 dL) (a6 2 gL) (a6 1 gM) (a6 2 d3)) fn) rw sx S au T U N ae d i) (e2 K)=
 K (.tup [.int r,.bytes d,.ref 32,.ref 33]) (nJ su (bu t1 aa (bW ak f1 (a6 1 dL) (a6 2 gL) (a6 1 gM) (a6 2 d3)) fn) rw sx S au T U N ae d i++[.ints [t1.kM,aa.kM],fs (kf (tS ak f1 dL gL gM d3))]):=by
 revert ak f1;exact @all2 _ _ _ (by kernel_rfl)
noncomputable def qQ:List Nat:=[22,21,15,16,17,18,19,1,2,3,4,5,6,7,8,9,10,11,23,24,20,25,26,27,28,29,30,31]
section
variable {T U N ae i:Int}
theorem ZJ:∀ak f1:Bool,reach (nJ su (bu t1 aa (bW ak f1 bw ba bL bS) fn) rw sx S au T U N ae d i) 300 (kJ [.ref 22]) []=qQ:=all2 (by kernel_rfl)
theorem ZI:∀ak f1:Bool,(i3 qQ&&iM (eW qQ) [.ref 22]&&qQ.all (lK (eW qQ) (nJ su (bu t1 aa (bW ak f1 bw ba bL bS) fn) rw sx S au T U N ae d i)))=true:=all2 (by kernel_rfl)
theorem ZH:∀ak f1:Bool,(qQ.map fun l=>jQ (iN qQ) (j5 (nJ su (bu t1 aa (bW ak f1 bw ba bL bS) fn) rw sx S au T U N ae d i) l))=fG au 1 0 T U N ae d i 0 (bu t1 aa (bW ak f1 bw ba bL bS) fn):=all2 (by kernel_rfl)
theorem ZG {r:Int}:∀dy g1:Bool,iq qQ (nJ su cC rw sx S au T U N ae d i) (.int r) (fG au 1 0 T U N ae d' i 0 (bu gL gM (bW dy g1 bw ba bL bS) ge)) K=K (.int r) (nJ su (bu gL gM (bW dy g1 bw ba bL bS) ge) rw sx S au T U N ae d' i):=all2 (by kernel_rfl)
theorem ZK:xf [.ref 0] (fG au 1 0 T U N ae d i 0 (bu t1 aa (bW ak f1 bw ba bL bS) fn)) K=uC au 1 0 T U N ae d i 0 t1 aa (bW ak f1 bw ba bL bS) fn K:=by kernel_rfl
end
end
def oS (au T U N:Int)(d:List Int)(i:Int)(t1 aa:c7)(aH:List (V×V))(fn:Nat)(iL:Int)(d':List Int)(gL gM:c7)(zb:List (V×V))(ge:Nat):Prop:=
 ∀(c9 isr ae o:Int) (K:bE),Ev (K (.int iL) (fG au c9 isr T U N ae d' i o (bu gL gM zb ge)))→Ev (uC au c9 isr T U N ae d i o t1 aa aH fn K)
def sW (n:Bool)(d:List Int)(U N ae:Int):Prop:=∀aG:Int→Int→Int→Prop,Ev (aG U N ae)→Ev (w5 n d aG)
theorem VJ {k r:Nat}{bF:Spec}{vs0:List V}{H0:List an}(ct:aT k=E ⟨r,false,fun _=>bF⟩)(am:de r n=true)(R:reach H 300 (kJ vs) []=sel)
 (Z:(i3 sel&&iM (eW sel) vs&&sel.all (lK (eW sel) H))=true)(bv:mw (iN sel) vs=vs0)(cZ:(sel.map fun l=>jQ (iN sel) (j5 H l))=H0)(h:Ev (bF vs0 H0 (fun r aq=>iq sel H r aq K))):Ev (bh aT (n+1) k vs H K):=by
 refine⟨?_⟩;unfold bh;rw[ct];refine(?_:ao (de r n) (p9 bF vs H K) False);unfold p9 C0;rw[R,am,Z,bv,cZ];exact h.out
theorem VX (m:Nat)(n:Bool){s:Int×Bool×Bool×Int×Int×fy×Unit}{rw:jF}{d:List Int}{t1 aa:c7}{U N ae:Int}{bq br pC pD:ej}{fn:Nat}
 (a8:sW n d U N ae)(cW:oS au (cE n) U N d rw.2.2.2.2.1 t1 aa (bW ak f1 (a6 1 bq) (a6 2 br) (a6 1 pC) (a6 2 pD)) fn iL d' gL gM (bW dy g1 (a6 1 bq) (a6 2 br) (a6 1 pC) (a6 2 pD)) ge)
 (aL:dt bq≠dt pC)(kF:dt br≠dt pD)
 (k:Ev (K (.tup [.int iL,.bytes d',.ref 32,.ref 33]) (nJ (cA n,s) (bu gL gM (bW dy g1 (a6 1 bq) (a6 2 br) (a6 1 pC) (a6 2 pD)) ge) rw sx S au (cE n) U N ae d' rw.2.2.2.2.1++[.ints [gL.kM,gM.kM],gj dy g1 bq br pC pD]))):
 Ev (cR (bh aT (m+10)) aP nH [.ref 0,.ref 1,.ref 12,.int au,.bytes d] (l4 (cA n,s) (bu t1 aa (bW ak f1 (a6 1 bq) (a6 2 br) (a6 1 pC) (a6 2 pD)) fn) rw sx S) K):=by
 have mc:cn 1 (cn 4 nH.body)=cn 5 nH.body:=by kernel_rfl
 refine aK (qO (loc:=n5 au d .aQ .aQ .aQ) rfl (by kernel_rfl)) ?_;refine aK (gm 4 _ _ _ _) ?_;refine aK (U3 n) (a8 _ ?_);refine aK fi ?_;refine aK (gm 1 (cn 4 nH.body) _ _ _) ?_;refine aK U4 ?_;rw[mc];refine VJ (n:=m+9) (r:=8) (vs0:=[.ref 0]) (bF:=xf) (by kernel_rfl) rfl (ZJ ak f1) (ZI ak f1) (by kernel_rfl) (ZH ak f1) ?_;refine aK ZK (cW _ _ _ _ _ ?_);refine aK (ZG dy g1) ?_;refine aK fi ?_;refine aK U5 ?_;rw[xe aL kF];exact k
noncomputable def jv:List Nat:=[1,2,3,4,5,6,7,8,9,10,11,12,19,20,21]
section
variable {xs d:List Int}{rw:jF}{t1 aa:c7}{a b c q:an}{fn:Nat}
theorem Zh:∀ak f1:Bool,reach (cH xs su (bu t1 aa (bW ak f1 bw ba bL bS) fn) au cX dS bl R [a,b,c,hn 20 rw,dK 21 sx,.ints S,q]) 300 (kJ [.ref 1,.ref 2,.ref 19,.int au,.bytes d]) []=jv:=all2 (by kernel_rfl)
theorem Zg:∀ak f1:Bool,(i3 jv&&iM (eW jv) [.ref 1,.ref 2,.ref 19,.int au,.bytes d]&&jv.all (lK (eW jv) (cH xs su (bu t1 aa (bW ak f1 bw ba bL bS) fn) au cX dS bl R [a,b,c,hn 20 rw,dK 21 sx,.ints S,q])))=true:=all2 (by kernel_rfl)
theorem Zf:∀ak f1:Bool,(jv.map fun l=>jQ (iN jv) (j5 (cH xs su (bu t1 aa (bW ak f1 bw ba bL bS) fn) au cX dS bl R [a,b,c,hn 20 rw,dK 21 sx,.ints S,q]) l))=l4 su (bu t1 aa (bW ak f1 bw ba bL bS) fn) rw sx S:=all2 (by kernel_rfl)
theorem Ze {T U N ae i r:Int}{bY:List Int}(dy g1:Bool){bq br pC pD:ej}:iq jv (cH xs su cC au cX dS bl R [a,b,c,hn 20 rw,dK 21 sx,.ints S,q]) (.tup [.int r,.bytes d,.ref 32,.ref 33])
 (nJ su (bu t1 aa (bW dy g1 bw ba bL bS) fn) rw sx S au T U N ae fm i++[.ints bY,gj dy g1 bq br pC pD]) K=
 K (.tup [.int r,.bytes d,.ref 23,.ref 24]) (cH xs su (bu t1 aa (bW dy g1 bw ba bL bS) fn) au cX dS bl R [a,b,c,hn 20 rw,dK 21 sx,.ints S,q,.ints bY,gj dy g1 bq br pC pD]):=by revert dy g1;exact @all2 _ _ _ (by kernel_rfl)
end
def d7 (av:Bool)(t1 aa:c7):c7:=match av with|true=>aa|false=>t1
noncomputable def Py (av:Bool):V:=match av with|true=>.ref 7|false=>.ref 5
def rc (su:fg)(cC:er)(rw:jF)(sx:ji)(S:List Int)(au:Int)(av aw:Bool)(T U N ae:Int)(d:List Int):List an:=l4 su cC rw sx S++(sV 15 T U N ae d 0 0++
 [.dict [] 0,.dict (oD xa [.ref 15,.int au,.str (a7 "input"),Py av,.int 1,.int (a4 aw),.none,.ref 23,.ref 24,.ref 20,.ref 25,.ref 26,.ref 27,.ref 28,.str (a7 "little"),.ref 29,.ref 30,.none,.ref 31]) 19,.inst 21,
  .dict [] 0,.dict [] 0,.dict [] 0,.dict [] 0,.dict [] 0,.dict [] 0,.ints [],.ints [],.dict [] 0])
def AO (T U N cL ri:Int)(g:ej)(ag:Bool)(a p:Int)(d:List Int)(cO:List Int→Prop):Prop:=
 ao (decide (Builtin.bitAnd cL ri=0)) (cO d) (ao ((decide (U=6)||decide (U=17))&&(decide (T=2048)||decide (T=34525))) (ao (iA g.2.1&&(decide (g.1=2)||decide (g.1=10)))
  (ao (AH T U g.1 g.2.1) (ao (sd T U N ag a p d) (cO (kL T U N ag p (hE T U N ag a d))) False) False) False) False)
def CV (T U N:Int)(d:List Int)(cO:Bool→List Int→Prop):Prop:=
 ao (hc T d 9 8) (ao (cb (i9 T d) 1) (cO false d) (ao (gg T U N im (nr T) 1 d) (cO true (lz T U N d)) False)) False
section
variable {s:Int×Bool×Bool×Int×Int×fy×Unit}{d:List Int}{t1 aa:c7}{aH:List (V×V)}{fn:Nat}{step T U N ae:Int}{p:dv}
abbrev pq (av aw:Bool)(X:Int)(hF:Bool)(iif step:Int)(p:dv):jF:=(a4 av,a4 aw,X,hF,iif,step,(),p,())
theorem U6:∀n av aw:Bool,b4 (bh aT (m+10)) aP (fB 4 pO.body) (n5 au d .aQ .aQ .aQ) (l4 (cA n,s) (bu t1 aa aH fn) (pq av aw X hF iif step p) sx S) K'=
 w5 n d fun U N ae=>K' .next (n5 au d (.ref 15) (.ref 22) .aQ) (rc (cA n,s) (bu t1 aa aH fn) (pq av aw X hF iif step p) sx S au av aw (cE n) U N ae d):=oU (by kernel_rfl)
theorem U7 (av aw:Bool){rw:jF}{rp:List Int}:b4 (bh aT (m+10)) aP (cn 4 pO.body) (n5 au rp (.ref 15) (.ref 22) .aQ) (rc su (bu t1 aa aH fn) rw sx S au av aw T U N ae d) (e2 K)=
 AO T U N (d7 av t1 aa).cL (g9 false (a4 aw)) (gX (d7 av t1 aa) (a4 aw)) false (gX (d7 av t1 aa) (a4 aw)).2.2.1 (gX (d7 av t1 aa) (a4 aw)).2.2.2.1 d fun dP=>
  AO T U N (d7 av t1 aa).cL (g9 true (a4 aw)) (gX (d7 av t1 aa) (a4 aw)) true (gX (d7 av t1 aa) (a4 aw)).2.2.2.2.1 (gX (d7 av t1 aa) (a4 aw)).2.2.2.2.2.1 dP fun ku=>
   CV T U N ku fun b ma=>K (.tup [.bool b,.bytes ma]) (rc su (bu t1 aa aH fn) rw sx S au av aw T U N ae ma):=by revert av aw;exact @all2 _ _ _ (by kernel_rfl)
theorem OX {cL ri a p:Int}{g:ej}{cO:List Int→Prop}(c:((decide (U=6)||decide (U=17))&&(decide (T=2048)||decide (T=34525)))=true)(yQ:(iA g.2.1&&(decide (g.1=2)||decide (g.1=10)))=true)
 (ok:un T U N g.1 g.2.1 (hC cL ri) ag a p d=true)(k:Ev (cO (um T U N (hC cL ri) ag a p d))):Ev (AO T U N cL ri g ag a p d cO):=by
 unfold AO;unfold hC at ok k;refine dQ (fun e=>?_) fun e=>?_
 .rw[e] at k;exact k
 .rw[e] at k ok;refine b5 ok fun g1 bM=>?_;exact cw c (cw yQ (cw g1 (cw bM k)))
def tQ (T U N:Int)(d:List Int):List Int:=match cb (i9 T d) 1 with|true=>d|false=>lz T U N d
theorem TP {cO:Bool→List Int→Prop}(vP:hc T d 9 8=true)(go:cb (i9 T d) 1=false→gg T U N im (nr T) 1 d=true)(k:Ev (cO (!cb (i9 T d) 1) (tQ T U N d))):Ev (CV T U N d cO):=by
 unfold CV;unfold tQ at k;refine cw vP (dQ (fun e=>?_) fun e=>?_)
 .rw[e] at k;exact k
 .rw[e] at k;exact cw (go e) k
theorem aeQ (m:Nat)(n av aw:Bool)(a8:sW n d U N ae)(c:((decide (U=6)||decide (U=17))&&(decide (cE n=2048)||decide (cE n=34525)))=true)
 (yQ:(iA (gX (d7 av t1 aa) (a4 aw)).2.1&&(decide ((gX (d7 av t1 aa) (a4 aw)).1=2)||decide ((gX (d7 av t1 aa) (a4 aw)).1=10)))=true)
 (g1:tY (cE n) U N (d7 av t1 aa).cL (a4 aw) (gX (d7 av t1 aa) (a4 aw)) d=true)
 (vP:hc (cE n) (nd (cE n) U N (d7 av t1 aa).cL (a4 aw) (gX (d7 av t1 aa) (a4 aw)) d) 9 8=true)
 (go:cb (i9 (cE n) (nd (cE n) U N (d7 av t1 aa).cL (a4 aw) (gX (d7 av t1 aa) (a4 aw)) d)) 1=false→gg (cE n) U N im (nr (cE n)) 1 (nd (cE n) U N (d7 av t1 aa).cL (a4 aw) (gX (d7 av t1 aa) (a4 aw)) d)=true)
 (k:Ev (K (.tup [.bool (!cb (i9 (cE n) (nd (cE n) U N (d7 av t1 aa).cL (a4 aw) (gX (d7 av t1 aa) (a4 aw)) d)) 1),.bytes (tQ (cE n) U N (nd (cE n) U N (d7 av t1 aa).cL (a4 aw) (gX (d7 av t1 aa) (a4 aw)) d))])
  (rc (cA n,s) (bu t1 aa aH fn) (pq av aw X hF iif step p) sx S au av aw (cE n) U N ae (tQ (cE n) U N (nd (cE n) U N (d7 av t1 aa).cL (a4 aw) (gX (d7 av t1 aa) (a4 aw)) d))))):
 Ev (cR (bh aT (m+10)) aP pO [.ref 0,.ref 1,.ref 12,.int au,.bytes d] (l4 (cA n,s) (bu t1 aa aH fn) (pq av aw X hF iif step p) sx S) K):=by
 refine aK (qO (loc:=n5 au d .aQ .aQ .aQ) rfl (by kernel_rfl)) ?_;refine aK (gm 4 _ _ _ _) ?_;refine aK (U6 n av aw) (a8 _ ?_);refine aK fi ?_;refine aK (U7 av aw) ?_;refine b5 g1 fun bM g3=>?_;exact OX c yQ bM (OX c yQ g3 (TP vP go k))
variable {xs:List Int}{a b q x y ti:an}{rw:jF}
theorem Zn:∀ak f1:Bool,reach (cH xs su (bu t1 aa (bW ak f1 bw ba bL bS) fn) au cX dS bl R [a,b,ti,hn 20 rw,dK 21 sx,.ints S,q,x,y]) 300 (kJ [.ref 1,.ref 2,.ref 19,.int au,.bytes d]) []=jv:=all2 (by kernel_rfl)
theorem Zm:∀ak f1:Bool,(i3 jv&&iM (eW jv) [.ref 1,.ref 2,.ref 19,.int au,.bytes d]&&jv.all (lK (eW jv) (cH xs su (bu t1 aa (bW ak f1 bw ba bL bS) fn) au cX dS bl R [a,b,ti,hn 20 rw,dK 21 sx,.ints S,q,x,y])))=true:=all2 (by kernel_rfl)
theorem Zl:∀ak f1:Bool,(jv.map fun l=>jQ (iN jv) (j5 (cH xs su (bu t1 aa (bW ak f1 bw ba bL bS) fn) au cX dS bl R [a,b,ti,hn 20 rw,dK 21 sx,.ints S,q,x,y]) l))=l4 su (bu t1 aa (bW ak f1 bw ba bL bS) fn) rw sx S:=all2 (by kernel_rfl)
theorem Zk {r:Bool}:∀av aw ak f1:Bool,iq jv (cH xs su (bu t1 aa (bW ak f1 bw ba bL bS) fn) au cX dS bl R [a,b,ti,hn 20 rw,dK 21 sx,.ints S,q,x,y]) (.tup [.bool r,.bytes d])
 (rc su (bu t1 aa (bW ak f1 bw ba bL bS) fn) rw sx S au av aw T U N ae fm) K=
 K (.tup [.bool r,.bytes d]) (cH xs su (bu t1 aa (bW ak f1 bw ba bL bS) fn) au cX dS bl R [a,b,ti,hn 20 rw,dK 21 sx,.ints S,q,x,y]):=l7 (by kernel_rfl)
end
theorem NC (bl:0≤c)(R:c<65536):cP (bf c 2)=c:=by refine(?_:(0*256+c/256^1% 256)*256+c/256^0% 256=c);simp only[uX,Bs];lia
theorem aaq {o n:List Int}(h:c<65535)(a8:0≤c+wsum n)(a9:wsum o≤65535*((o.length:Int)/2))(aL:0≤wsum n):js c o n=(c+wsum o-wsum n)% 65535:=by
 unfold js foldI
 split<;>lia
theorem oz:∀{l r:List Int},l.length% 2=0→wsum (l++r)=wsum l+wsum r
 | [],r,_=>by rw[List.nil_append];simp[wsum]
 | [_],_,h=>by simp at h
 |a::b::l,r,h=>by refine(?_:a*256+b+wsum (l++r)=a*256+b+wsum l+wsum r);rw[oz (by simp only[List.length_cons] at h;lia)];lia
theorem xz:∀{l:List Int},l.length% 2=0→iC l=wsum l
 | [],_=>rfl
 | [_],h=>by simp at h
 |a::b::l,h=>by
  have aF:=xz (l:=l) (by simp only[List.length_cons] at h;lia);have eZ:∀(x:Int) (l:List Int),gJ (x::b::l)=x::gJ l:=fun x l=>rfl;have eC:(gJ ((a::b::l).drop 1)).sum=b+(gJ (l.drop 1)).sum:=by
   refine(?_:(gJ (b::l)).sum=_)
   induction l using List.casesOn with
   |nil=>rfl
   |cons c l=>show(b::gJ l).sum=_;rw[List.sum_cons];rfl
  unfold iC at aF⊢;rw[eC,eZ,List.sum_cons];refine(?_:_=a*256+b+wsum l);rw[←aF];lia
theorem Gu:∀{l r:List Int},l.length% 2=0→iC (l++r)=wsum l+iC r
 | [],r,_=>by rw[List.nil_append];simp[wsum]
 | [_],_,h=>by simp at h
 |a::b::l,r,h=>by
  have aF:=Gu (l:=l) (r:=r) (by simp only[List.length_cons] at h;lia);have eC:(gJ ((a::b::l++r).drop 1)).sum=b+(gJ ((l++r).drop 1)).sum:=by
   refine(?_:(gJ (b::(l++r))).sum=_);cases l++r with
   |nil=>rfl
   |cons c l=>show(b::gJ l).sum=_;rw[List.sum_cons];rfl
  unfold iC at aF⊢;rw[eC];refine(?_:(a::gJ (l++r)).sum*256+_=a*256+b+wsum l+_);rw[List.sum_cons];lia
theorem ag5 (a:Int)(k:Nat):0≤wsum (bf a (2*k))∧wsum (bf a (2*k))≤65535*(k:Int):=by have:=Gv (l:=bf a (2*k)) (i7 a _);rw[iu] at this;lia
def e0 (pr X bO bN W:Int)(L:Bool)(c:Int)(ins:List Int):List Int:=(kk pr X bO bN W L ins.length).take 10++bf c 2++(kk pr X bO bN W L ins.length).drop 12++ins
def ey (pr bF dp Y:Int)(S:List Int)(dN:Int)(cut:Bool):List Int:=A9 pr cut (xn pr dN (mC pr bF dp Y S))
noncomputable def gv (L:Bool):Int:=match L with|true=>24|false=>20
noncomputable def gw (L:Bool):Int:=match L with|true=>48|false=>40
noncomputable def cZ (L:Bool):Int:=match L with|true=>70|false=>69
section
variable {dN a:Int}
noncomputable def hg (ag:Bool)(x a:Int):Int:=match ag with|true=>a|false=>x
noncomputable def hh (ag:Bool)(x a:Int):Int:=match ag with|true=>x|false=>a
noncomputable def eM (ag:Bool)(bO bN:Int):Int:=match ag with|true=>bO|false=>bN
abbrev lp (c o a:Int):Int:=js (cP (bf c 2)) (bf o 4) (bf a 4)
abbrev tg (c o a:Int):Int:=js (cP (bf c 2)) (bf o 16) (bf a 16)
abbrev p7 (c o a:Int):Int:=js (cP (bf c 2)) (bf o 2) (bf a 2)
theorem adx:∀L cut ag:Bool,dA 2048 6 (gv L) (e1 (cZ L)) false (h7 2048 ag) (bf a 4) (e0 6 X bO bN W L c (ey 6 bF dp Y S dN cut))=
 e0 6 X (hg ag bO a) (hh ag bN a) W L (lp c (eM ag bO bN) a) (ey 6 bF dp Y S (lp dN (eM ag bO bN) a) cut):=oU (by kernel_rfl)
theorem OA:∀L ag:Bool,dA 2048 17 (gv L) (e1 (cZ L)) false (h7 2048 ag) (bf a 4) (e0 17 X bO bN W L c (ey 17 bF dp Y S dN false))=
 ms (decide (cP (bf dN 2)=0)) (e0 17 X (hg ag bO a) (hh ag bN a) W L (lp c (eM ag bO bN) a) (ey 17 bF dp Y S dN false))
  (e0 17 X (hg ag bO a) (hh ag bN a) W L (lp c (eM ag bO bN) a) (ey 17 bF dp Y S (jl true (lp dN (eM ag bO bN) a)) false)):=all2 (by kernel_rfl)
theorem adv:∀L ag:Bool,dA 2048 17 (gv L) (e1 (cZ L)) false (h7 2048 ag) (bf a 4) (e0 17 X bO bN W L c (ey 17 bF dp Y S dN true))=
 e0 17 X (hg ag bO a) (hh ag bN a) W L (lp c (eM ag bO bN) a) (ey 17 bF dp Y S dN true):=all2 (by kernel_rfl)
theorem adw:∀L ag:Bool,dA 2048 pr (-1) (e1 (cZ L)) false (h7 2048 ag) (bf a 4) (e0 pr X bO bN W L c ins)=
 e0 pr X (hg ag bO a) (hh ag bN a) W L (lp c (eM ag bO bN) a) ins:=all2 (by kernel_rfl)
theorem adB:∀L cut ag:Bool,dA 2048 6 (gv L) (e1 (cZ L)) true (iO ag) (bf a 2) (e0 6 X bO bN W L c (ey 6 bF dp Y S dN cut))=
 e0 6 X bO bN W L (cP (bf c 2)) (ey 6 (hg ag bF a) (hh ag dp a) Y S (p7 dN (eM ag bF dp) a) cut):=oU (by kernel_rfl)
theorem OC:∀L ag:Bool,dA 2048 17 (gv L) (e1 (cZ L)) true (iO ag) (bf a 2) (e0 17 X bO bN W L c (ey 17 bF dp Y S dN false))=
 ms (decide (cP (bf dN 2)=0)) (e0 17 X bO bN W L (cP (bf c 2)) (ey 17 (hg ag bF a) (hh ag dp a) Y S dN false))
  (e0 17 X bO bN W L (cP (bf c 2)) (ey 17 (hg ag bF a) (hh ag dp a) Y S (jl true (p7 dN (eM ag bF dp) a)) false)):=all2 (by kernel_rfl)
theorem adA:∀L ag:Bool,dA 2048 17 (gv L) (e1 (cZ L)) true (iO ag) (bf a 2) (e0 17 X bO bN W L c (ey 17 bF dp Y S dN true))=
 e0 17 X bO bN W L (cP (bf c 2)) (ey 17 (hg ag bF a) (hh ag dp a) Y S dN true):=all2 (by kernel_rfl)
abbrev nQ (c X pr:Int):Int:=js (cP (bf c 2)) [X,pr] [X-1,pr]
theorem adG:∀L cut:Bool,dA 2048 6 (gv L) (e1 (cZ L)) false 8 [X-1] (e0 6 X bO bN W L c (ey 6 bF dp Y S dN cut))=
 e0 6 (X-1) bO bN W L (nQ c X 6) (ey 6 bF dp Y S (cP (bf dN 2)) cut):=all2 (by kernel_rfl)
theorem OE:∀L:Bool,dA 2048 17 (gv L) (e1 (cZ L)) false 8 [X-1] (e0 17 X bO bN W L c (ey 17 bF dp Y S dN false))=
 ms (decide (cP (bf dN 2)=0)) (e0 17 (X-1) bO bN W L (nQ c X 17) (ey 17 bF dp Y S dN false))
  (e0 17 (X-1) bO bN W L (nQ c X 17) (ey 17 bF dp Y S (jl true (cP (bf dN 2))) false)):=all1 (by kernel_rfl)
theorem adE:∀L:Bool,dA 2048 17 (gv L) (e1 (cZ L)) false 8 [X-1] (e0 17 X bO bN W L c (ey 17 bF dp Y S dN true))=
 e0 17 (X-1) bO bN W L (nQ c X 17) (ey 17 bF dp Y S dN true):=all1 (by kernel_rfl)
theorem adF:∀L:Bool,dA 2048 pr (-1) (e1 (cZ L)) false 8 [X-1] (e0 pr X bO bN W L c ins)=e0 pr (X-1) bO bN W L (nQ c X pr) ins:=all1 (by kernel_rfl)
theorem adz:∀L cut ag:Bool,dA 34525 6 (gw L) (e1 96) false (h7 34525 ag) (bf a 16) (en 6 X bO bN L (ey 6 bF dp Y S dN cut))=
 en 6 X (hg ag bO a) (hh ag bN a) L (ey 6 bF dp Y S (tg dN (eM ag bO bN) a) cut):=oU (by kernel_rfl)
theorem OB:∀L ag:Bool,dA 34525 17 (gw L) (e1 96) false (h7 34525 ag) (bf a 16) (en 17 X bO bN L (ey 17 bF dp Y S dN false))=
 ms (decide (cP (bf dN 2)=0)) (en 17 X (hg ag bO a) (hh ag bN a) L (ey 17 bF dp Y S dN false))
  (en 17 X (hg ag bO a) (hh ag bN a) L (ey 17 bF dp Y S (jl true (tg dN (eM ag bO bN) a)) false)):=all2 (by kernel_rfl)
theorem ady:∀L ag:Bool,dA 34525 17 (gw L) (e1 96) false (h7 34525 ag) (bf a 16) (en 17 X bO bN L (ey 17 bF dp Y S dN true))=
 en 17 X (hg ag bO a) (hh ag bN a) L (ey 17 bF dp Y S dN true):=all2 (by kernel_rfl)
theorem adD:∀L cut ag:Bool,dA 34525 6 (gw L) (e1 96) true (iO ag) (bf a 2) (en 6 X bO bN L (ey 6 bF dp Y S dN cut))=
 en 6 X bO bN L (ey 6 (hg ag bF a) (hh ag dp a) Y S (p7 dN (eM ag bF dp) a) cut):=oU (by kernel_rfl)
theorem OD:∀L ag:Bool,dA 34525 17 (gw L) (e1 96) true (iO ag) (bf a 2) (en 17 X bO bN L (ey 17 bF dp Y S dN false))=
 ms (decide (cP (bf dN 2)=0)) (en 17 X bO bN L (ey 17 (hg ag bF a) (hh ag dp a) Y S dN false))
  (en 17 X bO bN L (ey 17 (hg ag bF a) (hh ag dp a) Y S (jl true (p7 dN (eM ag bF dp) a)) false)):=all2 (by kernel_rfl)
theorem adC:∀L ag:Bool,dA 34525 17 (gw L) (e1 96) true (iO ag) (bf a 2) (en 17 X bO bN L (ey 17 bF dp Y S dN true))=
 en 17 X bO bN L (ey 17 (hg ag bF a) (hh ag dp a) Y S dN true):=all2 (by kernel_rfl)
theorem adI:∀L cut:Bool,dA 34525 6 (gw L) (e1 96) false 7 [X-1] (en 6 X bO bN L (ey 6 bF dp Y S dN cut))=
 en 6 (X-1) bO bN L (ey 6 bF dp Y S (cP (bf dN 2)) cut):=all2 (by kernel_rfl)
theorem OF:∀L:Bool,dA 34525 17 (gw L) (e1 96) false 7 [X-1] (en 17 X bO bN L (ey 17 bF dp Y S dN false))=
 ms (decide (cP (bf dN 2)=0)) (en 17 (X-1) bO bN L (ey 17 bF dp Y S dN false))
  (en 17 (X-1) bO bN L (ey 17 bF dp Y S (jl true (cP (bf dN 2))) false)):=all1 (by kernel_rfl)
theorem adH:∀L:Bool,dA 34525 17 (gw L) (e1 96) false 7 [X-1] (en 17 X bO bN L (ey 17 bF dp Y S dN true))=
 en 17 (X-1) bO bN L (ey 17 bF dp Y S dN true):=all1 (by kernel_rfl)
end
theorem tV {so sn k:Int}{o n:List Int}(ax:wsum o=so)(aL:wsum n=sn)(aB:((o.length:Int)/2)=k)(bl:0≤so)(R:so≤65535*k)(Z:0≤sn)(aG:Int):js (-aG% 65535) o n= -(aG-so+sn)% 65535:=by rw[aaq (by lia) (by rw[aL];lia) (by rw[ax,aB];exact R) (by rw[aL];exact Z),ax,aL];lia
theorem Er {so sn k:Int}{o n:List Int}(ax:wsum o=so)(aL:wsum n=sn)(aB:((o.length:Int)/2)=k)(bl:0≤so)(R:so≤65535*k)(Z:0≤sn)(aG:Int):jl true (js (fI (-aG% 65535)) o n)=fI (-(aG-so+sn)% 65535):=by
 unfold fI
 by_cases e: -aG% 65535=0
 .rw[decide_eq_true e];refine(?_:jl true (js 65535 o n)=_);have:js 65535 o n=65535-foldI (65535*k-so+sn):=by unfold js;rw[aB,ax,aL];congr 2;lia
  rw[this];unfold foldI
  by_cases aJ:65535*k-so+sn=0
  .rw[if_pos aJ,decide_eq_true (show-(aG-so+sn)% 65535=0 by lia)];rfl
  .rw[if_neg aJ];have cJ:65535-((65535*k-so+sn-1)% 65535+1)= -(aG-so+sn)% 65535:=by lia
   rw[cJ];unfold jl
   by_cases eV: -(aG-so+sn)% 65535=0
   .rw[decide_eq_true eV]
   .rw[decide_eq_false eV]
 .rw[decide_eq_false e];refine(?_:jl true (js (-aG% 65535) o n)=_);rw[tV ax aL aB bl R Z];unfold jl
  by_cases eV: -(aG-so+sn)% 65535=0
  .rw[decide_eq_true eV]
  .rw[decide_eq_false eV]
theorem qG (aG:Int):cP (bf (-aG% 65535) 2)= -aG% 65535:=NC (by lia) (by lia)
theorem Aw (aG:Int):0<fI (-aG% 65535)∧fI (-aG% 65535)<65536:=by
 unfold fI
 by_cases e: -aG% 65535=0
 .rw[decide_eq_true e];refine(?_:(0:Int)<65535∧(65535:Int)<65536);decide
 .rw[decide_eq_false e];refine(?_:0< -aG% 65535∧ -aG% 65535<65536);lia
theorem w3 (aG:Int):cP (bf (fI (-aG% 65535)) 2)=fI (-aG% 65535):=NC (oH (Aw aG).1) (Aw aG).2
theorem k6 (a:Int)(k:Nat):0≤wsum (bf a (2*k))∧wsum (bf a (2*k))≤65535*(k:Int):=ag5 a k
theorem sk (a:Int)(k:Nat):(((bf a (2*k)).length:Int)/2)=k:=by rw[iu];lia
def rz (pr X W:Int)(L:Bool)(n:Int):Int:=match L with
 |true=>wsum (([70,8,0,20+4+n,17,18]:List Int)++bf W 2++[X,pr,0,0])+wsum [1,1,1,0]
 |false=>wsum (([69,8,0,20+0+n,17,18]:List Int)++bf W 2++[X,pr,0,0])
theorem zl (pr X bO bN W:Int)(L:Bool)(n:Int):iC (kk pr X bO bN W L n)=rz pr X W L n+wsum (bf bO 4)+wsum (bf bN 4):=by
 cases L
 .unfold kk rz;rw[xz (by simp[iu]),List.append_nil,oz (by simp[iu]),oz (by simp[iu])]
 .unfold kk rz;rw[xz (by simp[iu]),oz (by simp[iu]),oz (by simp[iu]),oz (by simp[iu])];dsimp only;lia
theorem Xf (pr X W:Int)(L:Bool)(n:Int):rz pr (X-1) W L n=rz pr X W L n-256:=by
 have e:∀(l:List Int),l.length% 2=0→wsum (l++[X-1,pr,0,0])=wsum (l++[X,pr,0,0])-256:=fun l h=>by rw[oz h,oz h];simp only[wsum];lia
 cases L
 .unfold rz;exact e _ (by simp[iu])
 .unfold rz;refine(?_:wsum (_++[X-1,pr,0,0])+_=wsum (_++[X,pr,0,0])+_-256);rw[e _ (by simp[iu])];lia
def PD (pr Y:Int)(S:List Int):Int:=match decide (pr=6) with
 |true=>iC (([1,2,3,4,255,254,253,252,80,Y,7,9,0,0,0,0]:List Int)++S)+(20+S.length)
 |false=>iC (([0,8+(S.length:Int),0,0]:List Int)++S)+(8+S.length)
theorem Bf (nf pr bO bF bN dp Y:Int)(S:List Int):h9 nf pr bO bF bN dp Y S=PD pr Y S+pr+wsum (bf bF 2)+wsum (bf dp 2)+wsum (bf bO (kd nf))+wsum (bf bN (kd nf)):=by
 have hz:(kd nf)% 2=0:=by unfold kd;split<;>rfl
 unfold h9;rw[xz (l:=bf bO (kd nf)) (by rw[iu];exact hz),xz (l:=bf bN (kd nf)) (by rw[iu];exact hz)];unfold mC PD;cases decide (pr=6) with
 |true=>refine(?_:iC (bf bF 2++bf dp 2++_++S)+pr+((bf bF 2++bf dp 2++_++S).length:Int)+_+_=_);rw[List.append_assoc,Gu (by simp[iu]),oz (by simp[iu])];simp only[List.length_append,iu,List.length_cons,List.length_nil];lia
 |false=>refine(?_:iC (bf bF 2++bf dp 2++_++S)+pr+((bf bF 2++bf dp 2++_++S).length:Int)+_+_=_);rw[List.append_assoc,Gu (by simp[iu]),oz (by simp[iu])];simp only[List.length_append,iu,List.length_cons,List.length_nil];lia
theorem ae2 (x:Int)(k:Nat):bf x (k+1)=bf (x/256) k++[x% 256]:=by
 unfold bf;rw[List.range_succ,List.map_append];congr 1
 .refine List.map_congr_left fun j co=>?_;have:=List.mem_range.mp co;rw[show k+1-1-j=(k-1-j)+1 by lia,uX,xQ,←Int.ediv_ediv_of_nonneg (by decide)]
 .refine(?_:[x/256^(k+1-1-k)% 256]=_);rw[show k+1-1-k=0 by lia,Bs,Int.ediv_one]
theorem Ar:∀(k:Nat) (x:Int),cP (bf x k)=x% 256^k
 |0,x=>by refine(?_:(0:Int)=_);rw[Bs];lia
 |k+1,x=>by
  have a8:(0:Int)<256^k:=Int.pow_pos (by decide);rw[ae2,NB,Ar k,uX];generalize (256:Int)^k=aA at*;have aW:=Qp (x/256) aA;have aJ:=Qp x 256;have eO:=xP (x/256) (sE a8);have fT:=Bq (x/256) a8;have cJ:x=(x/256% aA*256+x% 256)+aA*256*(x/256/aA):=by
   have:aA*256*(x/256/aA)=256*(aA*(x/256/aA)):=by rw[xQ aA 256,GG]
   lia
  have eV:x% (aA*256)=(x/256% aA*256+x% 256)% (aA*256):=by
   conv=>lhs;rw[cJ]
   exact Qn _ _ _
  rw[eV];generalize x/256% aA=t at eO fT;exact(xO (by lia) (by lia)).symm
theorem xg {x y:Int}{k:Nat}(h:bf x k=bf y k)(aR:0≤x∧x<256^k)(cu:0≤y∧y<256^k):x=y:=by have:=congrArg cP h;rw[Ar,Ar,xO aR.1 aR.2,xO cu.1 cu.2] at this;exact this
section
variable {a n:Int}
theorem vz (ag:Bool):lp (-iC (kk pr X bO bN W L n)% 65535) (eM ag bO bN) a= -iC (kk pr X (hg ag bO a) (hh ag bN a) W L n)% 65535:=by
 unfold lp;have eO:=k6 (eM ag bO bN) 2;have fT:=k6 a 2;rw[qG,tV (k:=2) rfl rfl (sk _ 2) eO.1 eO.2 fT.1,zl,zl];cases ag
 .refine(?_: -(_-wsum (bf bN 4)+wsum (bf a 4))% 65535= -(_+wsum (bf bO 4)+wsum (bf a 4))% 65535);congr 2;lia
 .refine(?_: -(_-wsum (bf bO 4)+wsum (bf a 4))% 65535= -(_+wsum (bf a 4)+wsum (bf bN 4))% 65535);congr 2;lia
theorem vA (bl:1≤X)(R:X≤255)(Z:0≤pr)(bv:pr≤255):nQ (-iC (kk pr X bO bN W L n)% 65535) X pr= -iC (kk pr (X-1) bO bN W L n)% 65535:=by unfold nQ;rw[qG,tV (so:=X*256+pr) (sn:=(X-1)*256+pr) (k:=1) (by simp[wsum]) (by simp[wsum]) (by show((2:Nat):Int)/2=1;decide) (by lia) (by lia) (by lia),zl,zl,Xf];congr 2;lia
theorem yO:cP (bf (-iC (kk pr X bO bN W L n)% 65535) 2)= -iC (kk pr X bO bN W L n)% 65535:=qG _
theorem A3 (nf:Int)(ag:Bool):h9 nf pr (hg ag bO a) bF (hh ag bN a) dp Y S=h9 nf pr bO bF bN dp Y S-wsum (bf (eM ag bO bN) (kd nf))+wsum (bf a (kd nf)):=by
 rw[Bf,Bf];cases ag
 .refine(?_:_+wsum (bf bO (kd nf))+wsum (bf a (kd nf))=_-wsum (bf bN (kd nf))+_);lia
 .refine(?_:_+wsum (bf a (kd nf))+wsum (bf bN (kd nf))=_-wsum (bf bO (kd nf))+_);lia
theorem Pq (nf:Int)(ag:Bool):h9 nf pr bO (hg ag bF a) bN (hh ag dp a) Y S=h9 nf pr bO bF bN dp Y S-wsum (bf (eM ag bF dp) 2)+wsum (bf a 2):=by
 rw[Bf,Bf];cases ag
 .refine(?_:_+wsum (bf bF 2)+wsum (bf a 2)+_+_=_-wsum (bf dp 2)+_);lia
 .refine(?_:_+wsum (bf a 2)+wsum (bf dp 2)+_+_=_-wsum (bf bF 2)+_);lia
theorem YM (ag:Bool):lp (-h9 2 pr bO bF bN dp Y S% 65535) (eM ag bO bN) a= -h9 2 pr (hg ag bO a) bF (hh ag bN a) dp Y S% 65535:=by unfold lp;have eO:=k6 (eM ag bO bN) 2;have fT:=k6 a 2;rw[qG,tV (k:=2) rfl rfl (sk _ 2) eO.1 eO.2 fT.1,A3 2 ag];rfl
theorem YN (ag:Bool):tg (-h9 10 pr bO bF bN dp Y S% 65535) (eM ag bO bN) a= -h9 10 pr (hg ag bO a) bF (hh ag bN a) dp Y S% 65535:=by unfold tg;have eO:=k6 (eM ag bO bN) 8;have fT:=k6 a 8;rw[qG,tV (k:=8) rfl rfl (sk _ 8) eO.1 eO.2 fT.1,A3 10 ag];rfl
theorem LX (nf:Int)(ag:Bool):p7 (-h9 nf pr bO bF bN dp Y S% 65535) (eM ag bF dp) a= -h9 nf pr bO (hg ag bF a) bN (hh ag dp a) Y S% 65535:=by unfold p7;have eO:=k6 (eM ag bF dp) 1;have fT:=k6 a 1;rw[qG,tV (k:=1) rfl rfl (sk _ 1) eO.1 eO.2 fT.1,Pq nf ag]
theorem agE (ag:Bool):jl true (lp (fI (-h9 2 pr bO bF bN dp Y S% 65535)) (eM ag bO bN) a)=fI (-h9 2 pr (hg ag bO a) bF (hh ag bN a) dp Y S% 65535):=by unfold lp;have eO:=k6 (eM ag bO bN) 2;have fT:=k6 a 2;rw[w3,Er (k:=2) rfl rfl (sk _ 2) eO.1 eO.2 fT.1,A3 2 ag];rfl
theorem agF (ag:Bool):jl true (tg (fI (-h9 10 pr bO bF bN dp Y S% 65535)) (eM ag bO bN) a)=fI (-h9 10 pr (hg ag bO a) bF (hh ag bN a) dp Y S% 65535):=by unfold tg;have eO:=k6 (eM ag bO bN) 8;have fT:=k6 a 8;rw[w3,Er (k:=8) rfl rfl (sk _ 8) eO.1 eO.2 fT.1,A3 10 ag];rfl
theorem PS (nf:Int)(ag:Bool):jl true (p7 (fI (-h9 nf pr bO bF bN dp Y S% 65535)) (eM ag bF dp) a)=fI (-h9 nf pr bO (hg ag bF a) bN (hh ag dp a) Y S% 65535):=by unfold p7;have eO:=k6 (eM ag bF dp) 1;have fT:=k6 a 1;rw[w3,Er (k:=1) rfl rfl (sk _ 1) eO.1 eO.2 fT.1,Pq nf ag]
theorem PT (aG:Int):jl true (cP (bf (fI (-aG% 65535)) 2))=fI (-aG% 65535):=by rw[w3];unfold jl;rw[decide_eq_false (sE (Aw aG).1)]
theorem uF (aG:Int):decide (cP (bf (fI (-aG% 65535)) 2)=0)=false:=by rw[w3];exact decide_eq_false (sE (Aw aG).1)
end
def cq (n b L:Bool)(X W Y:Int)(S:List Int)(ai cut:Bool)(p ip:dv):List Int:=mF (cA n) (aZ b) X p W L (i8 (cA n) (aZ b) ip Y S ai cut)
def hQ (n L:Bool):Int:=match n with|true=>gv L|false=>gw L
noncomputable def ir (ag:Bool)(a:Int)(p:dv):dv:=match ag with|true=>((a,p.1.2.1,()),p.2.1,())|false=>(p.1,(a,p.2.1.2.1,()),())
noncomputable def k5 (ag:Bool)(a:Int)(p:dv):dv:=match ag with|true=>((p.1.1,a,()),p.2.1,())|false=>(p.1,(p.2.1.1,a,()),())
section
variable {a sp' dp' dN ck':Int}{p:dv}
theorem KP:∀cut:Bool,(ey 6 bF dp Y S dN cut).length=(ey 6 sp' dp' Y S ck' cut).length:=all1 (by kernel_rfl)
theorem zD:∀cut:Bool,(ey 17 bF dp Y S dN cut).length=(ey 17 sp' dp' Y S ck' cut).length:=all1 (by kernel_rfl)
abbrev fA (nf pr:Int)(ip:dv)(Y:Int)(S:List Int):Int:=h9 nf pr ip.1.1 ip.1.2.1 ip.2.1.1 ip.2.1.2.1 Y S
abbrev ed (pr:Int)(ip:dv)(Y:Int)(S:List Int)(dN:Int)(cut:Bool):List Int:=ey pr ip.1.2.1 ip.2.1.2.1 Y S dN cut
theorem nM (b L ai cut:Bool):cq true b L X W Y S ai cut p ip=kj (aZ b) X p.1.1 p.2.1.1 W L (ed (aZ b) ip Y S (mB (aZ b) (fA 2 (aZ b) ip Y S) ai) cut):=by unfold cq mF i8;rw[Be];rfl
theorem s7 (b L ai cut:Bool):cq false b L X W Y S ai cut p ip=en (aZ b) X p.1.1 p.2.1.1 L (ed (aZ b) ip Y S (mB (aZ b) (fA 10 (aZ b) ip Y S) ai) cut):=by unfold cq mF i8;rw[Be];rfl
theorem lb {t:Int}{i:List Int}(h:c= -iC (kk pr t bO bN W L i.length)% 65535):e0 pr t bO bN W L c i=kj pr t bO bN W L i:=by rw[h];rfl
theorem aer (b L ai cut ag:Bool):dA 2048 (aZ b) (gv L) (e1 (cZ L)) false (h7 2048 ag) (bf a 4) (cq true b L X W Y S ai cut p p)=cq true b L X W Y S ai cut (ir ag a p) (ir ag a p):=by
 rw[nM,nM];cases b
 .cases cut
  .cases ai
   .refine(?_:dA 2048 17 _ _ _ _ _ (e0 17 X p.1.1 p.2.1.1 W L _ (ed 17 p Y S (fI (-fA 2 17 p Y S% 65535)) false))=kj 17 _ _ _ _ _ (ed 17 _ _ _ (fI (-fA 2 17 (ir ag a p) Y S% 65535)) false));rw[OA,uF,og,agE,vz];cases ag<;>exact lb (by rw[zD (ck':=fI (-fA 2 17 p Y S% 65535)) (sp':=p.1.2.1) (dp':=p.2.1.2.1) false];rfl)
   .refine(?_:dA 2048 17 _ _ _ _ _ (e0 17 X p.1.1 p.2.1.1 W L _ (ed 17 p Y S 0 false))=kj 17 _ _ _ _ _ (ed 17 _ _ _ 0 false));rw[OA,show decide (cP (bf 0 2)=0)=true from rfl,oh,vz];cases ag<;>exact lb rfl
  .refine(?_:dA 2048 17 _ _ _ _ _ (e0 17 X p.1.1 p.2.1.1 W L _ (ed 17 p Y S _ true))=kj 17 _ _ _ _ _ (ed 17 _ _ _ _ true));rw[adv,vz];cases ag<;>exact lb rfl
 .refine(?_:dA 2048 6 _ _ _ _ _ (e0 6 X p.1.1 p.2.1.1 W L _ (ed 6 p Y S (-fA 2 6 p Y S% 65535) cut))=kj 6 _ _ _ _ _ (ed 6 _ _ _ (-fA 2 6 (ir ag a p) Y S% 65535) cut));rw[adx,YM,vz];cases ag<;>exact lb (by rw[KP (ck':= -fA 2 6 p Y S% 65535) (sp':=p.1.2.1) (dp':=p.2.1.2.1) cut];rfl)
end
section
variable {a:Int}{p:dv}
theorem aes (b L ai cut ag:Bool):dA 2048 (aZ b) (-1) (e1 (cZ L)) false (h7 2048 ag) (bf a 4) (cq true b L X W Y S ai cut p ip)=cq true b L X W Y S ai cut (ir ag a p) ip:=by rw[nM,nM];refine(?_:dA 2048 (aZ b) _ _ _ _ _ (e0 (aZ b) X p.1.1 p.2.1.1 W L _ _)=_);rw[adw,vz];cases ag<;>exact lb rfl
theorem aeu (b L ai cut ag:Bool):dA 2048 (aZ b) (gv L) (e1 (cZ L)) true (iO ag) (bf a 2) (cq true b L X W Y S ai cut p p)=cq true b L X W Y S ai cut (k5 ag a p) (k5 ag a p):=by
 rw[nM,nM];cases b
 .cases cut
  .cases ai
   .refine(?_:dA 2048 17 _ _ _ _ _ (e0 17 X p.1.1 p.2.1.1 W L _ (ed 17 p Y S (fI (-fA 2 17 p Y S% 65535)) false))=kj 17 _ _ _ _ _ (ed 17 _ _ _ (fI (-fA 2 17 (k5 ag a p) Y S% 65535)) false));rw[OC,uF,og,PS,yO];cases ag<;>exact lb (by rw[zD (ck':=fI (-fA 2 17 p Y S% 65535)) (sp':=p.1.2.1) (dp':=p.2.1.2.1) false];rfl)
   .refine(?_:dA 2048 17 _ _ _ _ _ (e0 17 X p.1.1 p.2.1.1 W L _ (ed 17 p Y S 0 false))=kj 17 _ _ _ _ _ (ed 17 _ _ _ 0 false));rw[OC,show decide (cP (bf 0 2)=0)=true from rfl,oh,yO];cases ag<;>exact lb (by rw[zD (ck':=0) (sp':=p.1.2.1) (dp':=p.2.1.2.1) false];rfl)
  .refine(?_:dA 2048 17 _ _ _ _ _ (e0 17 X p.1.1 p.2.1.1 W L _ (ed 17 p Y S (mB 17 (fA 2 17 p Y S) ai) true))=kj 17 _ _ _ _ _ (ed 17 _ _ _ (mB 17 (fA 2 17 (k5 ag a p) Y S) ai) true));rw[adA,yO];cases ag<;>exact lb (by rw[zD (ck':=mB 17 (fA 2 17 p Y S) ai) (sp':=p.1.2.1) (dp':=p.2.1.2.1) true];rfl)
 .refine(?_:dA 2048 6 _ _ _ _ _ (e0 6 X p.1.1 p.2.1.1 W L _ (ed 6 p Y S (-fA 2 6 p Y S% 65535) cut))=kj 6 _ _ _ _ _ (ed 6 _ _ _ (-fA 2 6 (k5 ag a p) Y S% 65535) cut));rw[adB,LX,yO];cases ag<;>exact lb (by rw[KP (ck':= -fA 2 6 p Y S% 65535) (sp':=p.1.2.1) (dp':=p.2.1.2.1) cut];rfl)
theorem Ef (b:Bool):0≤aZ b∧aZ b≤255:=by cases b<;>exact⟨by decide,by decide⟩
theorem aew (b L ai cut:Bool)(bl:1≤X)(R:X≤255):dA 2048 (aZ b) (gv L) (e1 (cZ L)) false 8 [X-1] (cq true b L X W Y S ai cut p ip)=cq true b L (X-1) W Y S ai cut p ip:=by
 rw[nM,nM];cases b
 .cases cut
  .cases ai
   .refine(?_:dA 2048 17 _ _ _ _ _ (e0 17 X p.1.1 p.2.1.1 W L _ (ed 17 ip Y S (fI (-fA 2 17 ip Y S% 65535)) false))=kj 17 _ _ _ _ _ (ed 17 _ _ _ (fI (-fA 2 17 ip Y S% 65535)) false));rw[OE,uF,og,PT];exact lb (vA (pr:=17) bl R (by decide) (by decide))
   .refine(?_:dA 2048 17 _ _ _ _ _ (e0 17 X p.1.1 p.2.1.1 W L _ (ed 17 ip Y S 0 false))=kj 17 _ _ _ _ _ (ed 17 _ _ _ 0 false));rw[OE,show decide (cP (bf 0 2)=0)=true from rfl,oh];exact lb (vA (pr:=17) bl R (by decide) (by decide))
  .refine(?_:dA 2048 17 _ _ _ _ _ (e0 17 X p.1.1 p.2.1.1 W L _ (ed 17 ip Y S (mB 17 (fA 2 17 ip Y S) ai) true))=kj 17 _ _ _ _ _ (ed 17 _ _ _ (mB 17 (fA 2 17 ip Y S) ai) true));rw[adE];exact lb (vA (pr:=17) bl R (by decide) (by decide))
 .refine(?_:dA 2048 6 _ _ _ _ _ (e0 6 X p.1.1 p.2.1.1 W L _ (ed 6 ip Y S (-fA 2 6 ip Y S% 65535) cut))=kj 6 _ _ _ _ _ (ed 6 _ _ _ (-fA 2 6 ip Y S% 65535) cut));rw[adG,qG];exact lb (vA (pr:=6) bl R (by decide) (by decide))
theorem aex (b L ai cut:Bool)(bl:1≤X)(R:X≤255):dA 2048 (aZ b) (-1) (e1 (cZ L)) false 8 [X-1] (cq true b L X W Y S ai cut p ip)=cq true b L (X-1) W Y S ai cut p ip:=by rw[nM,nM];refine(?_:dA 2048 (aZ b) _ _ _ _ _ (e0 (aZ b) X p.1.1 p.2.1.1 W L _ _)=_);rw[adF,vA bl R (Ef b).1 (Ef b).2];exact lb rfl
theorem aet (b L ai cut ag:Bool):dA 34525 (aZ b) (gw L) (e1 96) false (h7 34525 ag) (bf a 16) (cq false b L X W Y S ai cut p p)=cq false b L X W Y S ai cut (ir ag a p) (ir ag a p):=by
 rw[s7,s7];cases b
 .cases cut
  .cases ai
   .refine(?_:dA 34525 17 _ _ _ _ _ (en 17 X p.1.1 p.2.1.1 L (ed 17 p Y S (fI (-fA 10 17 p Y S% 65535)) false))=en 17 _ _ _ _ (ed 17 _ _ _ (fI (-fA 10 17 (ir ag a p) Y S% 65535)) false));rw[OB,uF,og,agF];cases ag<;>rfl
   .refine(?_:dA 34525 17 _ _ _ _ _ (en 17 X p.1.1 p.2.1.1 L (ed 17 p Y S 0 false))=en 17 _ _ _ _ (ed 17 _ _ _ 0 false));rw[OB,show decide (cP (bf 0 2)=0)=true from rfl,oh];cases ag<;>rfl
  .refine(?_:dA 34525 17 _ _ _ _ _ (en 17 X p.1.1 p.2.1.1 L (ed 17 p Y S _ true))=en 17 _ _ _ _ (ed 17 _ _ _ _ true));rw[ady];cases ag<;>rfl
 .refine(?_:dA 34525 6 _ _ _ _ _ (en 6 X p.1.1 p.2.1.1 L (ed 6 p Y S (-fA 10 6 p Y S% 65535) cut))=en 6 _ _ _ _ (ed 6 _ _ _ (-fA 10 6 (ir ag a p) Y S% 65535) cut));rw[adz,YN];cases ag<;>rfl
theorem aev (b L ai cut ag:Bool):dA 34525 (aZ b) (gw L) (e1 96) true (iO ag) (bf a 2) (cq false b L X W Y S ai cut p p)=cq false b L X W Y S ai cut (k5 ag a p) (k5 ag a p):=by
 rw[s7,s7];cases b
 .cases cut
  .cases ai
   .refine(?_:dA 34525 17 _ _ _ _ _ (en 17 X p.1.1 p.2.1.1 L (ed 17 p Y S (fI (-fA 10 17 p Y S% 65535)) false))=en 17 _ _ _ _ (ed 17 _ _ _ (fI (-fA 10 17 (k5 ag a p) Y S% 65535)) false));rw[OD,uF,og,PS];cases ag<;>rfl
   .refine(?_:dA 34525 17 _ _ _ _ _ (en 17 X p.1.1 p.2.1.1 L (ed 17 p Y S 0 false))=en 17 _ _ _ _ (ed 17 _ _ _ 0 false));rw[OD,show decide (cP (bf 0 2)=0)=true from rfl,oh];cases ag<;>rfl
  .refine(?_:dA 34525 17 _ _ _ _ _ (en 17 X p.1.1 p.2.1.1 L (ed 17 p Y S _ true))=en 17 _ _ _ _ (ed 17 _ _ _ _ true));rw[adC];cases ag<;>rfl
 .refine(?_:dA 34525 6 _ _ _ _ _ (en 6 X p.1.1 p.2.1.1 L (ed 6 p Y S (-fA 10 6 p Y S% 65535) cut))=en 6 _ _ _ _ (ed 6 _ _ _ (-fA 10 6 (k5 ag a p) Y S% 65535) cut));rw[adD,LX];cases ag<;>rfl
theorem aey (b L ai cut:Bool):dA 34525 (aZ b) (gw L) (e1 96) false 7 [X-1] (cq false b L X W Y S ai cut p ip)=cq false b L (X-1) W Y S ai cut p ip:=by
 rw[s7,s7];cases b
 .cases cut
  .cases ai
   .refine(?_:dA 34525 17 _ _ _ _ _ (en 17 X p.1.1 p.2.1.1 L (ed 17 ip Y S (fI (-fA 10 17 ip Y S% 65535)) false))=en 17 _ _ _ _ (ed 17 _ _ _ (fI (-fA 10 17 ip Y S% 65535)) false));rw[OF,uF,og,PT]
   .refine(?_:dA 34525 17 _ _ _ _ _ (en 17 X p.1.1 p.2.1.1 L (ed 17 ip Y S 0 false))=en 17 _ _ _ _ (ed 17 _ _ _ 0 false));rw[OF,show decide (cP (bf 0 2)=0)=true from rfl,oh]
  .refine(?_:dA 34525 17 _ _ _ _ _ (en 17 X p.1.1 p.2.1.1 L (ed 17 ip Y S _ true))=en 17 _ _ _ _ (ed 17 _ _ _ _ true));rw[adH]
 .refine(?_:dA 34525 6 _ _ _ _ _ (en 6 X p.1.1 p.2.1.1 L (ed 6 ip Y S (-fA 10 6 ip Y S% 65535) cut))=en 6 _ _ _ _ (ed 6 _ _ _ (-fA 10 6 ip Y S% 65535) cut));rw[adI,qG]
theorem vp (b L ai cut:Bool):(cq true b L X W Y S ai cut p ip).getD 0 0=cZ L:=by cases L<;>rfl
theorem Cn (b L ai cut:Bool):(cq false b L X W Y S ai cut p ip).getD 0 0=96:=by cases L<;>rfl
theorem abL:∀b L ai cut ag:Bool,gg 2048 (aZ b) (gv L) im (h7 2048 ag) 4 (cq true b L X W Y S ai cut p ip)=true:=jG (by kernel_rfl)
theorem abM:∀b L ai cut ag:Bool,gg 2048 (aZ b) (-1) im (h7 2048 ag) 4 (cq true b L X W Y S ai cut p ip)=true:=jG (by kernel_rfl)
theorem abP:∀b L ai cut ag:Bool,gg 2048 (aZ b) (gv L) jL (iO ag) 2 (cq true b L X W Y S ai cut p ip)=true:=jG (by kernel_rfl)
theorem NR:∀b L ai cut:Bool,gg 2048 (aZ b) (gv L) im 8 1 (cq true b L X W Y S ai cut p ip)=true:=l7 (by kernel_rfl)
theorem abR:∀b L ai cut:Bool,gg 2048 (aZ b) (-1) im 8 1 (cq true b L X W Y S ai cut p ip)=true:=l7 (by kernel_rfl)
theorem abN:∀b L ai cut ag:Bool,gg 34525 (aZ b) (gw L) im (h7 34525 ag) 16 (cq false b L X W Y S ai cut p ip)=true:=jG (by kernel_rfl)
theorem abQ:∀b L ai cut ag:Bool,gg 34525 (aZ b) (gw L) jL (iO ag) 2 (cq false b L X W Y S ai cut p ip)=true:=jG (by kernel_rfl)
theorem NS:∀b L ai cut:Bool,gg 34525 (aZ b) (gw L) im 7 1 (cq false b L X W Y S ai cut p ip)=true:=l7 (by kernel_rfl)
theorem OY:∀b L ai cut ag:Bool,ch (cq true b L X W Y S ai cut p ip) (jH false 0 (h7 2048 ag)) (jH false 0 (h7 2048 ag)+(bf a 4).length)=bf (eM ag p.1.1 p.2.1.1) 4:=jG (by kernel_rfl)
theorem aeG:∀b L ai cut ag:Bool,ch (cq false b L X W Y S ai cut p ip) (jH false 0 (h7 34525 ag)) (jH false 0 (h7 34525 ag)+(bf a 16).length)=bf (eM ag p.1.1 p.2.1.1) 16:=jG (by kernel_rfl)
theorem aeI:∀b L ai cut ag:Bool,ch (cq true b L X W Y S ai cut p ip) (jH true (gv L) (iO ag)) (jH true (gv L) (iO ag)+(bf a 2).length)=bf (eM ag ip.1.2.1 ip.2.1.2.1) 2:=jG (by kernel_rfl)
theorem aeJ:∀b L ai cut ag:Bool,ch (cq false b L X W Y S ai cut p ip) (jH true (gw L) (iO ag)) (jH true (gw L) (iO ag)+(bf a 2).length)=bf (eM ag ip.1.2.1 ip.2.1.2.1) 2:=jG (by kernel_rfl)
theorem Fh (ag:Bool)(h:eM ag p.1.1 p.2.1.1=a):ir ag a p=p:=by subst h;cases ag<;>rfl
theorem OO (ag:Bool)(h:eM ag p.1.2.1 p.2.1.2.1=a):k5 ag a p=p:=by subst h;cases ag<;>rfl
def fits (n:Nat)(x:Int):Prop:=0≤x∧x<256^n
theorem w6 {T U N:Int}{qq:Nat}{gY:Bool}{pos:Int}{o d e f:List Int}(aE:ch d (jH gY N pos) (jH gY N pos+o.length)=f)(R:f=o→d=e)(Z:dA T U N qq gY pos o d=e):uh T U N qq gY pos o d=e:=by
 unfold uh;rw[aE,Z]
 by_cases c:f=o
 .rw[decide_eq_true c,oh];exact R c
 .rw[decide_eq_false c,og]
theorem adh (b L ai cut ag:Bool)(h:fits 4 a)(h':fits 4 (eM ag p.1.1 p.2.1.1)):hE 2048 (aZ b) (gv L) ag a (cq true b L X W Y S ai cut p p)=cq true b L X W Y S ai cut (ir ag a p) (ir ag a p):=by unfold hE;rw[vp];exact w6 (OY b L ai cut ag) (fun e=>by rw[Fh ag (xg e h' h)]) (aer b L ai cut ag)
theorem adi (b L ai cut ag:Bool)(h:fits 4 a)(h':fits 4 (eM ag p.1.1 p.2.1.1)):hE 2048 (aZ b) (-1) ag a (cq true b L X W Y S ai cut p ip)=cq true b L X W Y S ai cut (ir ag a p) ip:=by unfold hE;rw[vp];exact w6 (OY b L ai cut ag) (fun e=>by rw[Fh ag (xg e h' h)]) (aes b L ai cut ag)
theorem adj (b L ai cut ag:Bool)(h:fits 16 a)(h':fits 16 (eM ag p.1.1 p.2.1.1)):hE 34525 (aZ b) (gw L) ag a (cq false b L X W Y S ai cut p p)=cq false b L X W Y S ai cut (ir ag a p) (ir ag a p):=by unfold hE;rw[Cn];exact w6 (aeG b L ai cut ag) (fun e=>by rw[Fh ag (xg e h' h)]) (aet b L ai cut ag)
theorem abx (L:Bool):decide (gv L= -1)=false:=by cases L<;>rfl
theorem aby (L:Bool):decide (gw L= -1)=false:=by cases L<;>rfl
theorem adk (b L ai cut ag:Bool)(h:fits 2 a)(h':fits 2 (eM ag p.1.2.1 p.2.1.2.1)):kL 2048 (aZ b) (gv L) ag a (cq true b L X W Y S ai cut p p)=cq true b L X W Y S ai cut (k5 ag a p) (k5 ag a p):=by unfold kL;rw[abx,vp];exact w6 (aeI b L ai cut ag) (fun e=>by rw[OO ag (xg e h' h)]) (aeu b L ai cut ag)
theorem adl (b L ai cut ag:Bool)(h:fits 2 a)(h':fits 2 (eM ag p.1.2.1 p.2.1.2.1)):kL 34525 (aZ b) (gw L) ag a (cq false b L X W Y S ai cut p p)=cq false b L X W Y S ai cut (k5 ag a p) (k5 ag a p):=by unfold kL;rw[aby,Cn];exact w6 (aeJ b L ai cut ag) (fun e=>by rw[OO ag (xg e h' h)]) (aev b L ai cut ag)
theorem Gh (b L ai cut:Bool):i9 2048 (cq true b L X W Y S ai cut p ip)=X:=by cases L<;>rfl
theorem PK (b L ai cut:Bool):i9 34525 (cq false b L X W Y S ai cut p ip)=X:=by cases L<;>rfl
theorem YP:∀b L ai cut:Bool,hc 2048 (cq true b L X W Y S ai cut p ip) 9 8=true:=l7 (by kernel_rfl)
theorem YQ:∀b L ai cut:Bool,hc 34525 (cq false b L X W Y S ai cut p ip) 9 8=true:=l7 (by kernel_rfl)
theorem Kv (b L ai cut:Bool)(bl:1≤X)(R:X≤255):lz 2048 (aZ b) (gv L) (cq true b L X W Y S ai cut p ip)=cq true b L (X-1) W Y S ai cut p ip:=by unfold lz;rw[Gh,vp];exact aew b L ai cut bl R
theorem XV (b L ai cut:Bool)(bl:1≤X)(R:X≤255):lz 2048 (aZ b) (-1) (cq true b L X W Y S ai cut p ip)=cq true b L (X-1) W Y S ai cut p ip:=by unfold lz;rw[Gh,vp];exact aex b L ai cut bl R
theorem Kw (b L ai cut:Bool):lz 34525 (aZ b) (gw L) (cq false b L X W Y S ai cut p ip)=cq false b L (X-1) W Y S ai cut p ip:=by unfold lz;rw[PK,Cn];exact aey b L ai cut
end
noncomputable def xl (n:Bool):Nat:=match n with|true=>4|false=>16
def za (n:Bool)(x:pW):Prop:=fits (xl n) x.1∧fits 2 x.2.1
def jo (n:Bool)(p:dv):Prop:=za n p.1∧za n p.2.1
def fz (n b L:Bool)(X W Y:Int)(S:List Int)(ai cut df:Bool)(p ip:dv):List Int:=cq n b L X W Y S ai cut p (match df with|true=>ip|false=>p)
def gf (n L df:Bool):Int:=match df with|true=> -1|false=>hQ n L
noncomputable def sg (ag:Bool)(e:pW)(p:dv):dv:=match ag with|true=>(e,p.2.1,())|false=>(p.1,e,())
def Fl (on ag:Bool)(e:pW)(p:dv):dv:=match on with|true=>sg ag e p|false=>p
theorem tr {x:Int}(h:fits n x):(cb 0 x&&decide (x<256^n))=true:=by rw[qz h.1,decide_eq_true h.2];rfl
section
variable {p:dv}{e:pW}
theorem abT {n:Bool}(h:jo n p):fits (xl n) (eM ag p.1.1 p.2.1.1)∧fits 2 (eM ag p.1.2.1 p.2.1.2.1):=by cases ag;exact⟨h.2.1,h.2.2⟩;exact⟨h.1.1,h.1.2⟩
theorem ado (n b L ai cut df ag:Bool)(ar:df=true→n=true)(a8:jo n p)(he:za n e):
 kL (cE n) (aZ b) (gf n L df) ag e.2.1 (hE (cE n) (aZ b) (gf n L df) ag e.1 (fz n b L X W Y S ai cut df p ip))=fz n b L X W Y S ai cut df (sg ag e p) ip∧
 sd (cE n) (aZ b) (gf n L df) ag e.1 e.2.1 (fz n b L X W Y S ai cut df p ip)=true:=by
 refine b8 (abT (ag:=ag) a8) fun eZ eC=>?_;have jO:fits 2 (eM ag (ir ag e.1 p).1.2.1 (ir ag e.1 p).2.1.2.1):=by cases ag<;>exact eC
 induction n using eo with
 |true=>
  induction df using eo with
  |true=>
   have aW:hE 2048 (aZ b) (-1) ag e.1 (cq true b L X W Y S ai cut p ip)=cq true b L X W Y S ai cut (ir ag e.1 p) ip:=adi b L ai cut ag he.1 eZ;refine⟨?_,?_⟩
   .refine(?_:kL 2048 (aZ b) (-1) ag e.2.1 (hE 2048 (aZ b) (-1) ag e.1 (cq true b L X W Y S ai cut p ip))=cq true b L X W Y S ai cut (sg ag e p) ip);rw[aW];cases ag<;>rfl
   .refine(?_:((cb 0 e.1&&decide (e.1<256^4))&&((cb 0 e.2.1&&decide (e.2.1<256^2))&&(gg 2048 (aZ b) (-1) im (h7 2048 ag) 4 (cq true b L X W Y S ai cut p ip)&&true)))=true);rw[tr (n:=4) he.1,tr (n:=2) he.2,abM];rfl
  |false=>
   have aW:hE 2048 (aZ b) (gv L) ag e.1 (cq true b L X W Y S ai cut p p)=cq true b L X W Y S ai cut (ir ag e.1 p) (ir ag e.1 p):=adh b L ai cut ag he.1 eZ;refine⟨?_,?_⟩
   .refine(?_:kL 2048 (aZ b) (gv L) ag e.2.1 (hE 2048 (aZ b) (gv L) ag e.1 (cq true b L X W Y S ai cut p p))=cq true b L X W Y S ai cut (sg ag e p) (sg ag e p));rw[aW,adk b L ai cut ag he.2 jO];cases ag<;>rfl
   .refine(?_:((cb 0 e.1&&decide (e.1<256^4))&&((cb 0 e.2.1&&decide (e.2.1<256^2))&&(gg 2048 (aZ b) (gv L) im (h7 2048 ag) 4 (cq true b L X W Y S ai cut p p)&&(decide (gv L= -1)||gg 2048 (aZ b) (gv L) jL (iO ag) 2 (hE 2048 (aZ b) (gv L) ag e.1 (cq true b L X W Y S ai cut p p))))))=true);rw[aW,tr (n:=4) he.1,tr (n:=2) he.2,abL,abP,xK];rfl
 |false=>
  induction df using eo with
  |true=>exact absurd (ar rfl) (by decide)
  |false=>
   have aW:hE 34525 (aZ b) (gw L) ag e.1 (cq false b L X W Y S ai cut p p)=cq false b L X W Y S ai cut (ir ag e.1 p) (ir ag e.1 p):=adj b L ai cut ag he.1 eZ;refine⟨?_,?_⟩
   .refine(?_:kL 34525 (aZ b) (gw L) ag e.2.1 (hE 34525 (aZ b) (gw L) ag e.1 (cq false b L X W Y S ai cut p p))=cq false b L X W Y S ai cut (sg ag e p) (sg ag e p));rw[aW,adl b L ai cut ag he.2 jO];cases ag<;>rfl
   .refine(?_:((cb 0 e.1&&decide (e.1<256^16))&&((cb 0 e.2.1&&decide (e.2.1<256^2))&&(gg 34525 (aZ b) (gw L) im (h7 34525 ag) 16 (cq false b L X W Y S ai cut p p)&&(decide (gw L= -1)||gg 34525 (aZ b) (gw L) jL (iO ag) 2 (hE 34525 (aZ b) (gw L) ag e.1 (cq false b L X W Y S ai cut p p))))))=true);rw[aW,tr (n:=16) he.1,tr (n:=2) he.2,abN,abQ,xK];rfl
theorem aam (n b:Bool):AH (cE n) (aZ b) (cA n) (aZ b)=true:=by cases n<;>cases b<;>rfl
theorem Pd (n b L ai cut df on ag:Bool)(ar:df=true→n=true)(a8:jo n p)(he:za n e):
 um (cE n) (aZ b) (gf n L df) on ag e.1 e.2.1 (fz n b L X W Y S ai cut df p ip)=fz n b L X W Y S ai cut df (Fl on ag e p) ip∧
 un (cE n) (aZ b) (gf n L df) (cA n) (aZ b) on ag e.1 e.2.1 (fz n b L X W Y S ai cut df p ip)=true:=by
 refine b8 (ado (X:=X) (W:=W) (Y:=Y) (S:=S) (ip:=ip) n b L ai cut df ag ar a8 he) fun R Z=>?_
 induction on using eo with
 |true=>exact⟨R,by unfold un;dsimp only;rw[aam,Z];rfl⟩
 |false=>exact⟨rfl,rfl⟩
def rT (abU lM:Bool)(g p:dv):dv:=(Ay lM g.2.1 p.1,Ay abU g.1 p.2.1,())
theorem MY (n b L ai cut df:Bool)(cL dir:Int)(ar:df=true→n=true)(a8:jo n p)(b6:jo n g):
 nd (cE n) (aZ b) (gf n L df) cL dir (fP (cA n) (aZ b) g) (fz n b L X W Y S ai cut df p ip)=fz n b L X W Y S ai cut df (rT (hC cL (g9 false dir)) (hC cL (g9 true dir)) g p) ip∧
 tY (cE n) (aZ b) (gf n L df) cL dir (fP (cA n) (aZ b) g) (fz n b L X W Y S ai cut df p ip)=true:=by
 unfold nd tY Ew;generalize hC cL (g9 false dir)=t9;generalize hC cL (g9 true dir)=NU;refine b8 (Pd (X:=X) (W:=W) (Y:=Y) (S:=S) (ip:=ip) n b L ai cut df t9 false ar a8 b6.1) fun a1 a2=>?_;have XZ:jo n (Fl t9 false g.1 p):=by
  cases t9
  .exact a8
  .exact⟨a8.1,b6.1⟩
 refine b8 (Pd (X:=X) (W:=W) (Y:=Y) (S:=S) (ip:=ip) n b L ai cut df NU true ar XZ b6.2) fun eO fT=>?_;have a1:um (cE n) (aZ b) (gf n L df) t9 false (fP (cA n) (aZ b) g).2.2.1 (fP (cA n) (aZ b) g).2.2.2.1 (fz n b L X W Y S ai cut df p ip)=fz n b L X W Y S ai cut df (Fl t9 false g.1 p) ip:=a1;rw[a1];refine⟨?_,?_⟩
 .refine uV eO ?_;cases t9<;>cases NU<;>rfl
 .exact gD.mpr ⟨a2,fT⟩
end
def ju (w:Int):Prop:=w∈([0,16384,0,16384,0,8192,3,8193]:List Int)
theorem Gs {P:Int→Bool}(h:([0,16384,0,16384,0,8192,3,8193]:List Int).all P=true){w:Int}(c0:ju w):P w=true:=List.all_eq_true.mp h w c0
noncomputable def dF (n:Bool)(w:Int):Bool:=match n with|true=> !decide (w% 8192=0)|false=>false
noncomputable def ng (n:Bool)(w:Int):Bool:=match n with|true=>decide (w% 16384=0)|false=>true
def AB (n:Bool)(w:Int):Int:=match n with|true=>Builtin.bitAnd (cP (bf w 2)) 8191*8|false=>0
section
variable {p:dv}
theorem N6:∀b L ai cut:Bool,k2 (cq true b L X W Y S ai cut p ip)=Builtin.bitAnd (cP (bf W 2)) 8191*8:=l7 (by kernel_rfl)
theorem aci (c0:ju W):decide (Builtin.bitAnd (cP (bf W 2)) 8191*8=0)= !dF true W:=eq_of_beq (Gs (P:=fun W=>decide (Builtin.bitAnd (cP (bf W 2)) 8191*8=0)== !dF true W) (by decide+kernel) c0)
theorem acm (c0:ju W):decide (Builtin.bitAnd (cP (bf W 2)) 16383=0)=ng true W:=eq_of_beq (Gs (P:=fun W=>decide (Builtin.bitAnd (cP (bf W 2)) 16383=0)==ng true W) (by decide+kernel) c0)
theorem Eg (c0:ju W)(h:dF true W=true):ng true W=false:=by have g:=Gs (P:=fun W=> !(dF true W&&ng true W)) (by decide+kernel) c0;rw[h,nx,km] at g;exact g
theorem Oa (n b L ai cut:Bool)(c0:ju W):sW n (cq n b L X W Y S ai cut p ip) (aZ b) (gf n L (dF n W)) (AB n W):=fun aG kV=>by
 unfold w5
 induction n using eo with
 |true=>
  have kx:(cq true b L X W Y S ai cut p ip).getD 9 0=aZ b:=by cases L<;>rfl
  have dx:∀k,oc k (cq true b L X W Y S ai cut p ip)=(match dF true W with|true=> -1|false=>k):=fun k=>by unfold oc;rw[N6,aci c0];cases dF true W<;>rfl
  dsimp only;rw[kx,N6,dx,dx];clear kx dx
  induction L using eo with
  |true=>refine eb (by kernel_rfl) (cw (by kernel_rfl) ?_);change Ev (aG (aZ b) (gf true true (dF true W)) _) at kV;cases e:dF true W<;>(rw[e] at kV;exact kV)
  |false=>refine cw (by kernel_rfl) ?_;change Ev (aG (aZ b) (gf true false (dF true W)) _) at kV;cases e:dF true W<;>(rw[e] at kV;exact kV)
 |false=>
  dsimp only
  induction L using eo with
  |true=>have kv:(cq false b true X W Y S ai cut p ip).getD 6 0=60:=rfl;have Jp:(cq false b true X W Y S ai cut p ip).getD 40 0=aZ b:=rfl;refine cw (by kernel_rfl) ?_;rw[kv,Jp];refine eb rfl (cw (by clear kV kv Jp;cases b<;>kernel_rfl) kV)
  |false=>have kv:(cq false b false X W Y S ai cut p ip).getD 6 0=aZ b:=rfl;refine cw (by kernel_rfl) ?_;rw[kv];refine cw (by cases b<;>rfl) kV
theorem Aq {k:Nat}{x:Int}(h:fits k x):cP (bf x k)=x:=by rw[Ar,xO h.1 h.2]
theorem Rj:∀n b L ai cut:Bool,yE (cE n) (cq n b L X W Y S ai cut p ip)=bf p.1.1 (xl n):=jG (by kernel_rfl)
theorem Rk:∀n b L ai cut:Bool,yF (cE n) (cq n b L X W Y S ai cut p ip)=bf p.2.1.1 (xl n):=jG (by kernel_rfl)
theorem acr:∀n b L ai cut:Bool,ot (cq n b L X W Y S ai cut p ip) (hQ n L)=bf ip.1.2.1 2:=jG (by kernel_rfl)
theorem acs:∀n b L ai cut:Bool,ot (cq n b L X W Y S ai cut p ip) (hQ n L+2)=bf ip.2.1.2.1 2:=jG (by kernel_rfl)
theorem PN (n b L ai cut:Bool)(a8:jo n p):tupI (cE n) (aZ b) (hQ n L) (cq n b L X W Y S ai cut p p)=(dt (fP (cA n) (aZ b) p)).map V.int:=by unfold tupI;rw[Rj,Rk,acr,acs,Aq a8.1.1,Aq a8.2.1,Aq a8.1.2,Aq a8.2.2];cases n<;>rfl
theorem Mx:∀n b L ai cut:Bool,(cb (hQ n L+4) (cq n b L X W Y S ai cut p ip).length&&ltI (hQ n L) 1000)=true:=jG (by kernel_rfl)
theorem ack (n b L ai cut:Bool)(c0:ju W):uf (cE n) (gf n L (dF n W)) (cq n b L X W Y S ai cut p ip)=(!L&&ng n W):=by
 induction n using eo with
 |true=>
  have e:ch (cq true b L X W Y S ai cut p ip) 6 8=bf W 2:=by revert L;exact @all1 _ _ _ (by kernel_rfl)
  refine(?_:(decide (gf true L (dF true W)=20)&&decide (Builtin.bitAnd (cP (ch (cq true b L X W Y S ai cut p ip) 6 8)) 16383=0))=_);rw[e,acm c0];clear e;cases ij:dF true W with
  |true=>rw[Eg c0 ij,jd,jd]
  |false=>cases L<;>rfl
 |false=>cases L<;>rfl
theorem Bh (n b L ai cut:Bool):i9 (cE n) (cq n b L X W Y S ai cut p ip)=X:=by
 cases n
 .exact PK b L ai cut
 .exact Gh b L ai cut
theorem wC (n b L ai cut:Bool):hc (cE n) (cq n b L X W Y S ai cut p ip) 9 8=true:=by
 cases n
 .exact YQ b L ai cut
 .exact YP b L ai cut
theorem abc (n b L ai cut:Bool)(hd:hv S=true):cb (hQ n L+pe (aZ b)) (cq n b L X W Y S ai cut p ip).length= !cut:=by refine wz hd fun x y=>?_;clear hd;revert n b L cut x y;exact Ix (by kernel_rfl)
theorem aan (n b L ai cut:Bool)(c0:ju W)(hd:hv S=true):lG (cE n) (aZ b) (gf n L (dF n W)) (cq n b L X W Y S ai cut p ip)=(!L&&(ng n W&&(ltI 1 X&& !cut))):=by
 unfold lG;rw[ack n b L ai cut c0,Bh];cases ij:dF n W with
 |true=>
  have:ng n W=false:=by
   cases n
   .exact dZ ij
   .exact Eg c0 ij
  rw[this,jd,oG,oG,jd]
 |false=>refine(?_:(!L&&ng n W&&(ltI 1 X&&cb (hQ n L+pe (aZ b)) _))=_);rw[abc n b L ai cut hd,Bool.and_assoc]
theorem Db (n L ai:Bool)(hd:hv S=true):gd (hQ n L) (cq n true L X W Y S ai false p ip)=Y:=by refine wz hd fun x y=>?_;clear hd;revert n L x y;exact l7 (by kernel_rfl)
end
theorem Ed (i j:Int)(t u:ej):bn 4 (.tup (a6 i t)) (.tup (a6 j u))=(decide (i=j)&&decide (dt t=dt u)):=by refine(?_:(decide (i=j)&&(iI (bn 2) ((dt t).map V.int) ((dt u).map V.int)&&true))=_);rw[z1 (xs:=dt t) (ys:=dt u) rfl 2,xI]
def jM (su:fg)(w y:Bool):V:=.tup (a6 (1+a4 y) (su.tup w y))
theorem Z5 (ak f1:Bool)(h:∀w y,i4 w ak f1=true→bn 4 (jM su w y) key=false)(k:Ev qE):Ev (wK key go qE (fL su ak f1)):=by
 have J3:ak=true→bn 4 (.tup (a6 1 (su.tup false false))) key=false:=h false false;have J4:ak=true→bn 4 (.tup (a6 2 (su.tup false true))) key=false:=h false true;have ze:f1=true→bn 4 (.tup (a6 1 (su.tup true false))) key=false:=h true false;have J5:f1=true→bn 4 (.tup (a6 2 (su.tup true true))) key=false:=h true true;cases ak<;>cases f1
 .exact k
 .exact eb (ze rfl) (eb (J5 rfl) k)
 .exact eb (J3 rfl) (eb (J4 rfl) k)
 .exact eb (J3 rfl) (eb (J4 rfl) (eb (ze rfl) (eb (J5 rfl) k)))
theorem Z4 (ak f1 av aw:Bool)(hf:i4 av ak f1=true)(R:bn 4 (jM su av aw) key=true)(h:∀w y,(w=av∧y=aw)∨bn 4 (jM su w y) key=false)
 (k:Ev (go (val (1+a4 av) (a4 aw) (2-a4 aw)))):Ev (wK key go qE (fL su ak f1)):=by
 have aL:∀w y,¬(w=av∧y=aw)→bn 4 (jM su w y) key=false:=fun w y c=>(h w y).resolve_left c;cases av<;>cases aw
 .have a:bn 4 (.tup (a6 1 (su.tup false false))) key=true:=R;cases ak
  .exact dZ hf
  .cases f1<;>exact cw a k
 .have a:bn 4 (.tup (a6 2 (su.tup false true))) key=true:=R;have b:bn 4 (.tup (a6 1 (su.tup false false))) key=false:=aL false false (by decide);cases ak
  .exact dZ hf
  .cases f1<;>exact eb b (cw a k)
 .have a:bn 4 (.tup (a6 1 (su.tup true false))) key=true:=R;have b:bn 4 (.tup (a6 1 (su.tup false false))) key=false:=aL false false (by decide);have c:bn 4 (.tup (a6 2 (su.tup false true))) key=false:=aL false true (by decide);cases f1
  .exact dZ hf
  .cases ak
   .exact cw a k
   .exact eb b (eb c (cw a k))
 .have a:bn 4 (.tup (a6 2 (su.tup true true))) key=true:=R;have b:bn 4 (.tup (a6 1 (su.tup false false))) key=false:=aL false false (by decide);have c:bn 4 (.tup (a6 2 (su.tup false true))) key=false:=aL false true (by decide);have d:bn 4 (.tup (a6 1 (su.tup true false))) key=false:=aL true false (by decide);cases f1
  .exact dZ hf
  .cases ak
   .exact eb d (cw a k)
   .exact eb b (eb c (eb d (cw a k)))
theorem OR (su:fg)(ak f1:Bool):ur (fL su ak f1)=true:=by cases ak<;>cases f1<;>rfl
theorem Us (su:fg)(ak f1 av:Bool):hM (fL su ak f1) (1+a4 av)=fL su (sh av ak false) (si av f1 false):=by cases ak<;>cases f1<;>cases av<;>rfl
def r5 (av:Bool)(t1 aa:c7)(u:Int):c7×c7:=match av with|true=>(t1,oq aa u)|false=>(oq t1 u,aa)
theorem WI {c9 T U N ae:Int}{d:List Int}{i o:Int}{t1 aa:c7}{aH:List (V×V)}{fn:Nat}{n dir:Int}:vR au c9 isr T U N ae d i o t1 aa aH fn K (val n dir iL)=
 ao (decide (n=1)) (mh au c9 isr T U N ae d i o t1 aa aH fn 1 dir iL t1 (oq t1 (kh au U)) aa K) (ao (decide (n=2)) (mh au c9 isr T U N ae d i o t1 aa aH fn 2 dir iL aa t1 (oq aa (kh au U)) K) False):=rfl
theorem WJ {c9 T U N ae:Int}{d:List Int}{i o:Int}{t1 aa:c7}{aH:List (V×V)}{fn:Nat}(av aw:Bool)
 (h:Ev (mh au c9 isr T U N ae d i o t1 aa aH fn (1+a4 av) (a4 aw) iL (d7 av t1 aa) (r5 av t1 aa (kh au U)).1 (r5 av t1 aa (kh au U)).2 K)):Ev (vR au c9 isr T U N ae d i o t1 aa aH fn K (val (1+a4 av) (a4 aw) iL)):=by
 refine aK WI ?_;cases av
 .have e:decide ((1:Int)+a4 false=1)=true:=rfl;exact @cw _ _ _ e h
 .have e:decide ((1:Int)+a4 true=1)=false:=rfl;have aJ:decide ((1:Int)+a4 true=2)=true:=rfl;exact @eb _ _ _ e (@cw _ _ _ aJ h)
section
variable {n cut:Bool}{i:Int}{p:dv}{t1 aa:c7}{fn:Nat}
abbrev hV (n b L:Bool)(X W Y:Int)(S:List Int)(ai cut:Bool)(p:dv):List Int:=cq n b L X W Y S ai cut p p
theorem wA (b:Bool):iA (aZ b)=true:=by cases b<;>rfl
theorem PH (c0:ju W)(a8:jo n p)(h:dF n W=true∨∀w y,i4 w ak f1=true→bn 4 (jM su w y) (.tup (a6 i (fP (cA n) (aZ b) p)))=false):
 oS au (cE n) (aZ b) (gf n L (dF n W)) (hV n b L X W Y S ai cut p) i t1 aa (fL su ak f1) fn (-1) (hV n b L X W Y S ai cut p) t1 aa (fL su ak f1) fn:=fun c9 isr ae o K k=>by
 unfold uC;refine cw (by rw[OR,wA,wC];rfl) ?_;cases ij:dF n W with
 |true=>exact cw rfl (by rw[ij] at k;exact k)
 |false=>rw[ij] at k h;refine eb (by clear a8 h ij;cases n<;>cases L<;>rfl) (cw (Mx n b L ai cut) ?_);have a9:=h.resolve_left (by decide);have e:V.tup (tupI (cE n) (aZ b) (gf n L false) (hV n b L X W Y S ai cut p))=uz (fP (cA n) (aZ b) p):=congrArg V.tup (PN n b L ai cut a8);rw[e];exact Z5 ak f1 a9 k
theorem Gg (a8:jo n p)(ar:dF n W=false)(hf:i4 av ak f1=true)(R:bn 4 (jM su av aw) (.tup (a6 i (fP (cA n) (aZ b) p)))=true)(h:∀w y,(w=av∧y=aw)∨bn 4 (jM su w y) (.tup (a6 i (fP (cA n) (aZ b) p)))=false)
 {zb:List (V×V)}
  (k:∀(c9 isr ae o:Int) (K:bE),Ev (K (.int iL) (fG au c9 isr (cE n) (aZ b) (hQ n L) ae d' i o (bu gL gM zb ge)))→
   Ev (mh au c9 isr (cE n) (aZ b) (hQ n L) ae (hV n b L X W Y S ai cut p) i o t1 aa (fL su ak f1) fn (1+a4 av) (a4 aw) (2-a4 aw) (d7 av t1 aa) (r5 av t1 aa (kh au (aZ b))).1 (r5 av t1 aa (kh au (aZ b))).2 K)):
  oS au (cE n) (aZ b) (gf n L (dF n W)) (hV n b L X W Y S ai cut p) i t1 aa (fL su ak f1) fn iL d' gL gM zb ge:=fun c9 isr ae o K gI=>by
  rw[ar] at gI⊢;unfold uC;refine cw (by rw[OR,wA,wC];rfl) ?_;refine eb (by clear a8 ar R h;cases n<;>cases L<;>rfl) (cw (Mx n b L ai cut) ?_);have e:V.tup (tupI (cE n) (aZ b) (gf n L false) (hV n b L X W Y S ai cut p))=uz (fP (cA n) (aZ b) p):=congrArg V.tup (PN n b L ai cut a8);rw[e];exact Z4 ak f1 av aw hf R h (WJ av aw (k c9 isr ae o K gI))
end
def ka (f:Int):Prop:=f∈([16,24,17,16,20,18,16,0]:List Int)
noncomputable def mg (f:Int):Bool:=decide (f=17)||decide (f=20)
theorem V9 (h:ka f):(!decide (Builtin.bitAnd f 5=0))=mg f:=(by decide+kernel:∀f∈([16,24,17,16,20,18,16,0]:List Int),(!decide (Builtin.bitAnd f 5=0))=mg f) f h
theorem Wa (h:ka f):decide (Builtin.bitAnd f 7=0)= !(mg f||decide (f=18)):=(by decide+kernel:∀f∈([16,24,17,16,20,18,16,0]:List Int),decide (Builtin.bitAnd f 7=0)= !(mg f||decide (f=18))) f h
def lq (n L:Bool)(X W:Int)(cut:Bool):Bool:= !L&&(ng n W&&(ltI 1 X&& !cut))
section
variable {n cut:Bool}{i:Int}{p:dv}{t1 aa:c7}{fn:Nat}
theorem yW (c0:ju W)(h:lq n L X W cut=true):L=false∧cut=false∧dF n W=false∧1<X:=by
 unfold lq at h;refine b5 h fun R h=>?_;refine b5 h fun Z h=>?_;refine b5 h fun bv cZ=>?_;rw[km] at R cZ;refine⟨R,cZ,?_,pb bv⟩
 induction n using eo with
 |false=>rfl
 |true=>
  cases e:dF true W with
  |false=>rfl
  |true=>rw[Eg c0 e] at Z;exact dZ Z
theorem MR (c0:ju W)(hd:hv S=true)(ar:dF n W=false):lG (cE n) (aZ b) (hQ n L) (hV n b L X W Y S ai cut p)=lq n L X W cut:=by have:=aan (X:=X) (Y:=Y) (p:=p) (ip:=p) n b L ai cut c0 hd;rw[ar] at this;exact this
theorem CZ (c0:ju W)(hd:hv S=true)(ar:dF n W=false)(hf:ka Y):kT (cE n) (aZ b) (hQ n L) (hV n b L X W Y S ai cut p)=(b&&(lq n L X W cut&&mg Y)):=by
 unfold kT;rw[MR c0 hd ar]
 induction b using eo with
 |false=>rfl
 |true=>
  cases e:lq n L X W cut with
  |false=>rfl
  |true=>refine kR (yW c0 e) fun dh cj b9 eN=>?_;clear dh b9 eN;subst cj;rw[Db n L ai hd,V9 hf];rfl
theorem N3 (c0:ju W)(hd:hv S=true)(ar:dF n W=false)(hf:ka Y):lN (cE n) (aZ b) (hQ n L) (hV n b L X W Y S ai cut p)=(lq n L X W cut&& !(b&&(mg Y||decide (Y=18)))):=by
 unfold lN;rw[MR c0 hd ar]
 induction b using eo with
 |false=>rfl
 |true=>
  cases e:lq n L X W cut with
  |false=>rfl
  |true=>refine kR (yW c0 e) fun dh cj b9 eN=>?_;clear dh b9 eN;subst cj;rw[Db n L ai hd,Wa hf];rfl
theorem PI (c0:ju W)(hd:hv S=true)(hf:ka Y)(a8:jo n p)(ar:dF n W=false)(aE:i4 av ak f1=true)(R:bn 4 (jM su av aw) (.tup (a6 i (fP (cA n) (aZ b) p)))=true)(h:∀w y,(w=av∧y=aw)∨bn 4 (jM su w y) (.tup (a6 i (fP (cA n) (aZ b) p)))=false)
 (nZ:cb (d7 av t1 aa).kM au=true∨lq n L X W cut=false∨(b=true∧mg Y=false∧Y=18)):
 oS au (cE n) (aZ b) (gf n L (dF n W)) (hV n b L X W Y S ai cut p) i t1 aa (fL su ak f1) fn (-1) (hV n b L X W Y S ai cut p) t1 aa (fL su ak f1) fn:=
 Gg a8 ar aE R h fun c9 isr ae o K k=>by
  unfold mh;refine dQ (fun _=>k) fun e=>?_;have aW:kT (cE n) (aZ b) (hQ n L) (hV n b L X W Y S ai cut p)=false:=by
   rw[CZ c0 hd ar hf];rcases nZ with q|q|⟨_,q,_⟩
   .rw[e] at q;exact dZ q
   .rw[q,oG,jd]
   .rw[q,jd,jd]
  have aJ:lN (cE n) (aZ b) (hQ n L) (hV n b L X W Y S ai cut p)=false:=by
   rw[N3 c0 hd ar hf];rcases nZ with q|q|⟨q,_,b9⟩
   .rw[e] at q;exact dZ q
   .rw[q,oG]
   .rw[q,b9,decide_eq_true rfl,xK];exact jd _
  exact eb aW (eb aJ k)
theorem agq (c0:ju W)(hd:hv S=true)(hf:ka Y)(a8:jo n p)(ar:dF n W=false)(aE:i4 av ak f1=true)(R:bn 4 (jM su av aw) (.tup (a6 i (fP (cA n) (aZ b) p)))=true)(h:∀w y,(w=av∧y=aw)∨bn 4 (jM su w y) (.tup (a6 i (fP (cA n) (aZ b) p)))=false)
 (cW:cb (d7 av t1 aa).kM au=false)(az:b=true)(qh:lq n L X W cut=true)(gV:mg Y=true):
 oS au (cE n) (aZ b) (gf n L (dF n W)) (hV n b L X W Y S ai cut p) i t1 aa (fL su ak f1) fn (-1) (hV n b L X W Y S ai cut p) t1 aa (fL su (sh av ak false) (si av f1 false)) (fn+((fL su ak f1).length-(fL su (sh av ak false) (si av f1 false)).length)):=
 Gg a8 ar aE R h fun c9 isr ae o K k=>by unfold mh;refine eb cW (cw (by rw[CZ c0 hd ar hf,az,qh,gV];rfl) ?_);rw[Us];exact k
theorem agr (c0:ju W)(hd:hv S=true)(hf:ka Y)(a8:jo n p)(b6:jo n g)(ar:dF n W=false)(aE:i4 av ak f1=true)(R:bn 4 (jM su av aw) (.tup (a6 i (fP (cA n) (aZ b) p)))=true)(h:∀w y,(w=av∧y=aw)∨bn 4 (jM su w y) (.tup (a6 i (fP (cA n) (aZ b) p)))=false)
 (cW:cb (d7 av t1 aa).kM au=false)(qh:lq n L X W cut=true)(az:(b&&(mg Y||decide (Y=18)))=false)(Dl:X≤255)
 (n1:gX (d7 av t1 aa) (a4 aw)=fP (cA n) (aZ b) g):
 oS au (cE n) (aZ b) (gf n L (dF n W)) (hV n b L X W Y S ai cut p) i t1 aa (fL su ak f1) fn (2-a4 aw)
  (hV n b L (X-1) W Y S ai cut (rT (hC (d7 av t1 aa).cL (g9 false (a4 aw))) (hC (d7 av t1 aa).cL (g9 true (a4 aw))) g p)) (r5 av t1 aa (kh au (aZ b))).1 (r5 av t1 aa (kh au (aZ b))).2 (fL su ak f1) fn:=
 Gg a8 ar aE R h fun c9 isr ae o K k=>by
  refine kR (yW c0 qh) fun dh cj b9 Z=>?_;clear b9;subst dh;subst cj;have iW:(b&&mg Y)=false:=by
   cases b
   .rfl
   .rw[nx] at az⊢;exact(Bo.mp az).1
  refine b8 (MY (X:=X) (W:=W) (Y:=Y) (S:=S) (p:=p) (ip:=p) n b false ai false false (d7 av t1 aa).cL (a4 aw) (fun q=>nomatch q) a8 b6) fun pc tU=>?_;have pc:nd (cE n) (aZ b) (hQ n false) (d7 av t1 aa).cL (a4 aw) (fP (cA n) (aZ b) g) (hV n b false X W Y S ai false p)=hV n b false X W Y S ai false (rT (hC (d7 av t1 aa).cL (g9 false (a4 aw))) (hC (d7 av t1 aa).cL (g9 true (a4 aw))) g p):=pc;have tU:tY (cE n) (aZ b) (hQ n false) (d7 av t1 aa).cL (a4 aw) (fP (cA n) (aZ b) g) (hV n b false X W Y S ai false p)=true:=tU;unfold mh;rw[n1];refine eb cW (eb (by rw[CZ c0 hd ar hf,qh,nx,iW]) (cw (by rw[N3 c0 hd ar hf,qh,az];rfl) (cw ?_ ?_)))
  .rw[tU,pc];have dE:iA (fP (cA n) (aZ b) g).2.1=true:=wA b;have dX:(decide ((fP (cA n) (aZ b) g).1=2)||decide ((fP (cA n) (aZ b) g).1=10))=true:=by clear a8 b6 ar R h n1 qh k dE;cases n<;>rfl
   rw[dE,dX,nx,nx,nx];unfold zt;rw[wC,Bh,rQ Z,nx,nx];clear a8 b6 ar R h n1 qh k dE dX;cases n
   .exact NS b false ai false
   .exact NR b false ai false
  .rw[pc];have bD:lz (cE n) (aZ b) (hQ n false) (hV n b false X W Y S ai false (rT (hC (d7 av t1 aa).cL (g9 false (a4 aw))) (hC (d7 av t1 aa).cL (g9 true (a4 aw))) g p))=hV n b false (X-1) W Y S ai false (rT (hC (d7 av t1 aa).cL (g9 false (a4 aw))) (hC (d7 av t1 aa).cL (g9 true (a4 aw))) g p):=by
    clear a8 b6 ar R h n1 qh k;cases n
    .exact Kw b false ai false
    .exact Kv b false ai false (by lia) Dl
   rw[bD];exact k
end
def kX (X:Int):Int:=match ltI 1 X with|true=>X-1|false=>X
section
variable {n cut df:Bool}{step ae:Int}{p q:dv}{t1 aa:c7}{fn:Nat}{aH:List (V×V)}{s:Bool×Bool×Int×Int×fy×Unit}
theorem PL:i9 (cE n) (fz n b L X W Y S ai cut df p ip)=X:=by
 cases df
 .exact Bh n b L ai cut
 .exact Bh n b L ai cut
theorem YR:hc (cE n) (fz n b L X W Y S ai cut df p ip) 9 8=true:=by
 cases df
 .exact wC n b L ai cut
 .exact wC n b L ai cut
theorem abS (ar:df=true→n=true):gg (cE n) (aZ b) (gf n L df) im (nr (cE n)) 1 (fz n b L X W Y S ai cut df p ip)=true:=by
 induction n using eo with
 |true=>
  cases df
  .exact NR b L ai cut
  .exact abR b L ai cut
 |false=>
  cases df
  .exact NS b L ai cut
  .exact absurd (ar rfl) (by decide)
theorem XW (ar:df=true→n=true)(bl:1≤X)(R:X≤255):lz (cE n) (aZ b) (gf n L df) (fz n b L X W Y S ai cut df p ip)=fz n b L (X-1) W Y S ai cut df p ip:=by
 induction n using eo with
 |true=>
  cases df
  .exact Kv b L ai cut bl R
  .exact XV b L ai cut bl R
 |false=>
  cases df
  .exact Kw b L ai cut
  .exact absurd (ar rfl) (by decide)
theorem Zu (ar:df=true→n=true)(R:X≤255):tQ (cE n) (aZ b) (gf n L df) (fz n b L X W Y S ai cut df p ip)=fz n b L (kX X) W Y S ai cut df p ip:=by
 unfold tQ kX;rw[PL];cases e:cb X 1 with
 |true=>rw[pa (wI e)]
 |false=>have:=EL e;rw[rQ this];exact XW ar (by lia) R
theorem aeP (m:Nat)(DM:sW n (fz n b L X W Y S ai cut df p ip) (aZ b) (gf n L df) ae)(ar:df=true→n=true)(a8:jo n p)(b6:jo n g)(Dl:X≤255)
 (n1:gX (d7 av t1 aa) (a4 aw)=fP (cA n) (aZ b) g)(a9:rT (hC (d7 av t1 aa).cL (g9 false (a4 aw))) (hC (d7 av t1 aa).cL (g9 true (a4 aw))) g p=q)
 (k:Ev (K (.tup [.bool (ltI 1 X),.bytes (fz n b L (kX X) W Y S ai cut df q ip)]) (rc (cA n,aZ b,s) (bu t1 aa aH fn) (pq av aw X hF iif step p) sx S au av aw (cE n) (aZ b) (gf n L df) ae (fz n b L (kX X) W Y S ai cut df q ip)))):
 Ev (cR (bh aT (m+10)) aP pO [.ref 0,.ref 1,.ref 12,.int au,.bytes (fz n b L X W Y S ai cut df p ip)] (l4 (cA n,aZ b,s) (bu t1 aa aH fn) (pq av aw X hF iif step p) sx S) K):=by
 refine b8 (MY (X:=X) (W:=W) (Y:=Y) (S:=S) (p:=p) (ip:=ip) n b L ai cut df (d7 av t1 aa).cL (a4 aw) ar a8 b6) fun pc tU=>?_;rw[a9] at pc;refine aeQ m n av aw DM (by cases b<;>cases n<;>rfl) ?_ ?_ ?_ ?_ ?_
 .rw[n1];cases b<;>cases n<;>rfl
 .rw[n1];exact tU
 .rw[n1,pc];exact YR
 .intro _;rw[n1,pc];exact abS ar
 .rw[n1,pc,PL,Zu ar Dl];exact k
end
noncomputable def iz (n:Bool)(k:Int):Int:=match n with|true=>167772160+16909060*k|false=>2^125+5192376096523839485395206520373255*k
def Pg (n b afJ agB s t:Bool)(aw cause p0 fb p2 kb:Int):fg:=
 (cA n,aZ b,afJ,agB,aw,cause,
  ((((iz n 1,p0,()),(iz n 2,fb,()),()),((match t with|true=>(iz n 4,kb,())|false=>(iz n 2,fb,())),(match s with|true=>(iz n 3,p2,())|false=>(iz n 1,p0,())),()),()),
   (((iz n 1,(p0+1)% 65536,()),(iz n 2,fb,()),()),((iz n 2,fb,()),(iz n 1,(p0+1)% 65536,()),()),()),()),())
section
variable {xs:List Int}
def ie (xs:List Int):Int:=qc xs 0
def jY (xs:List Int):Int:=qc xs 1
def xj (xs:List Int)(n b s t:Bool)(K:bE):Prop:=K (.ref 1) [.d6 xs,gy (Pg n b (decide (ie xs/2/2% 2=0)) (decide (ie xs/2/2/2% 2=0)) s t (ie xs/2/2/2/2% 2) (ie xs/2/2/2/2/2% 16) (jY xs% 65536) (jY xs/65536% 65536) (jY xs/65536/65536% 65536) (jY xs/65536/65536/65536% 65536))]
def uy (xs:List Int)(n b:Bool)(K:bE):Prop:=ao (decide (ie xs/2/2% 2=0)) (ao (decide (ie xs/2/2/2% 2=0)) (xj xs n b true true K) (xj xs n b true false K)) (ao (decide (ie xs/2/2/2% 2=0)) (xj xs n b false true K) (xj xs n b false false K))
theorem Vu:bh aT (m+4) wD [.ref 0] [.d6 xs] K=ao (de xs.length 900) (ao (de xs.length 900)
 (ao (decide (ie xs% 2=1)) (ao (decide (ie xs/2% 2=1)) (uy xs false false K) (uy xs false true K)) (ao (decide (ie xs/2% 2=1)) (uy xs true false K) (uy xs true true K))) False) False:=by kernel_rfl
def yw (n b s t:Bool)(aw cause p0 fb p2 kb:Int):fg:=Pg n b s t s t aw cause p0 fb p2 kb
def A0 (xs:List Int):fg:=yw (!decide (ie xs% 2=1)) (!decide (ie xs/2% 2=1)) (decide (ie xs/2/2% 2=0)) (decide (ie xs/2/2/2% 2=0)) (ie xs/2/2/2/2% 2) (ie xs/2/2/2/2/2% 16)
 (jY xs% 65536) (jY xs/65536% 65536) (jY xs/65536/65536% 65536) (jY xs/65536/65536/65536% 65536)
theorem VQ (ar:xs.length≤900)(k:Ev (K (.ref 1) [.d6 xs,gy (A0 xs)])):Ev (bh aT (m+4) wD [.ref 0] [.d6 xs] K):=by
 have az:=lY.mpr ar;refine aK Vu (cw az (cw az ?_));unfold A0 at k;have ZB:∀n b,Ev (K (.ref 1) [.d6 xs,gy (yw n b (decide (ie xs/2/2% 2=0)) (decide (ie xs/2/2/2% 2=0)) (ie xs/2/2/2/2% 2) (ie xs/2/2/2/2/2% 16) (jY xs% 65536) (jY xs/65536% 65536) (jY xs/65536/65536% 65536) (jY xs/65536/65536/65536% 65536))])→Ev (uy xs n b K):=fun n b h=>by unfold yw at h;unfold uy xj;refine dQ (fun e=>dQ (fun aJ=>?_) fun aJ=>?_) fun e=>dQ (fun aJ=>?_) fun aJ=>?_<;>(rw[e,aJ] at h⊢;exact h)
 refine dQ (fun e=>dQ (fun aJ=>?_) fun aJ=>?_) fun e=>dQ (fun aJ=>?_) fun aJ=>?_<;>(rw[e,aJ] at k;exact ZB _ _ k)
noncomputable def FX (av s t:Bool):Int:=match av with|true=>14|false=>14+(match s with|true=>16|false=>0)+(match t with|true=>32|false=>0)
def gk (su:fg)(av:Bool)(u:Int):c7:=wO (su.tup av false) (su.tup av true) u (FX av su.2.2.1 su.2.2.2.1) 3
def nP (su:fg)(bq br:Int)(ak f1:Bool)(fn:Nat):er:=bu (gk su false bq) (gk su true br) (fL su ak f1) fn
theorem UQ (s t:Bool){aw cause:Int}{e:fy}:bh aT (m+4) zN [.ref 1] [.d6 xs,gy (nf,pr,s,t,aw,cause,e,())] K=
 K (.ref 2) ([.d6 xs,gy (nf,pr,s,t,aw,cause,e,())]++dB 2 (nP (nf,pr,s,t,aw,cause,e,()) 5000 5000 false false 0)):=by revert s t;exact @all2 _ _ _ (by kernel_rfl)
end
noncomputable def JU:ff→ff
 |.cons (.hN _ _ a) _=>a
 |_=>.nil
def fj:ff:=JU (cn 4 jf.body)
noncomputable def callArgs:ff→gQ
 |.cons (.asg _ (.call _ a)) _=>a
 |_=>.nil
noncomputable def I5:ff→aG
 |.cons (.iff (.cmp _ _ r) _ _) _=>r
 |_=>.none
def hG (num:Int)(r b a l o d:V):List V:=[.ref 0,.ref 1,.ref 2,.ref 15,.int num,r,b,a,l,o,d]
section
variable {xs:List Int}{a b c q:an}{dP:List Int}{rw:jF}
theorem afP:fB 1 fj=.cons (.asg 5 (.call zP (callArgs fj))) .nil:=by kernel_rfl
theorem VH {G:Nat→Option V}{i k:Nat}{args:gQ}{K:dM}(h:Ev (lV C G loc args H (fun vs aq=>C k vs aq fun v be=>K .next (loc.set i v) be))):Ev (b4 C G (.cons (.asg i (.call k args)) .nil) loc H K):=⟨h.out⟩
theorem afO {vk:List V→List an→Prop}:lV (bh aT (m+1)) aP (hG num v5 v6 v7 v8 v9 v10) (callArgs fj) (cH xs su cC au bq br ak f1 [a,b]) vk=
 cY (num.natAbs<2^64∨(2:Int).natAbs<2^64) (ao (cb 0 (2+2*num+0)&&(ltI (2+2*num+0) 1000&&de xs.length 900)) (cY (num.natAbs<2^64∨(2:Int).natAbs<2^64) (ao (cb 0 (2+2*num+1)&&(ltI (2+2*num+1) 1000&&de xs.length 900))
  (vk [.ref 1,.ref 18] (cH xs su cC au bq br ak f1 [a,b,.ints [qc xs (2+2*num+0),qc xs (2+2*num+1)]])) False)) False):=by kernel_rfl
theorem afQ:b4 C aP (fB 1 (cn 1 fj)) (hG num (.ref 19) v6 v7 v8 v9 v10) (cH xs su cC au bq br ak f1 [a,b,c,hn 20 rw,dK 21 sx,.ints S]) K'=
 K' .next (hG num (.ref 19) v6 v7 v8 v9 v10) (cH xs su cC (au+rw.2.2.2.2.2.1) bq br ak f1 [a,b,c,hn 20 rw,dK 21 sx,.ints S]):=by kernel_rfl
theorem afR {G:List an}:b4 C aP (fB 1 (cn 2 fj)) (hG num (.ref 19) v6 v7 v8 v9 v10) (cH xs su cC au bq br ak f1 G) K'=
 C zR [.ref 1,.ref 19] (cH xs su cC au bq br ak f1 G) fun v aq=>lT v aq 3 fun vs=>K' .next (jw (hG num (.ref 19) v6 v7 v8 v9 v10) [6,7,8] vs) aq:=by kernel_rfl
theorem afS {G:List an}{B A:List Int}{l:Bool}:b4 C aP (fB 1 (cn 3 fj)) (hG num (.ref 19) (.bytes B) (.bytes A) (.bool l) v9 v10) (cH xs su cC au bq br ak f1 G) K'=
 C zO [.ref 1,.ref 15,.ref 19,.bool l] (cH xs su cC au bq br ak f1 G) fun v aq=>K' .next (hG num (.ref 19) (.bytes B) (.bytes A) (.bool l) v v10) aq:=by kernel_rfl
theorem afT {G:List an}{B A:List Int}{l:Bool}{r:Int}:b4 C aP (fB 1 (cn 4 fj)) (hG num (.ref 19) (.bytes B) (.bytes A) (.bool l) (.int r) v10) (cH xs su cC au bq br ak f1 G) K'=
 ao (cb 0 r) (C qw [.ref 1,.ref 15] (cH xs su cC au bq br ak f1 G) fun v aq=>K' .next (hG num (.ref 19) (.bytes B) (.bytes A) (.bool l) (.int r) (.tup [.int r,.bytes A,.ref 13,v])) aq)
  (C qw [.ref 1,.ref 15] (cH xs su cC au bq br ak f1 G) fun v aq=>K' .next (hG num (.ref 19) (.bytes B) (.bytes A) (.bool l) (.int r) (.tup [.int r,.bytes B,.ref 13,v])) aq):=by kernel_rfl
theorem afU {G:List an}{B A:List Int}{l:Bool}{r:Int}:b4 C aP (fB 1 (cn 5 fj)) (hG num (.ref 19) (.bytes B) (.bytes A) (.bool l) (.int r) (.tup lr)) (cH xs su cC au bq br ak f1 G) K'=
 C zQ [.ref 1,.ref 2,.ref 19,.int au,.bytes B] (cH xs su cC au bq br ak f1 G) fun v aq=>lJ v (.tup lr) aq fun w=>ao w (K' (.ret (.bool false)) (hG num (.ref 19) (.bytes B) (.bytes A) (.bool l) (.int r) (.tup lr)) aq) (K' .next (hG num (.ref 19) (.bytes B) (.bytes A) (.bool l) (.int r) (.tup lr)) aq):=by kernel_rfl
theorem afV {G:List an}{B A:List Int}{l:Bool}{r:Int}:b4 C aP (fB 1 (cn 6 fj)) (hG num (.ref 19) (.bytes B) (.bytes A) (.bool l) (.int r) (.tup lr)) (cH xs su cC au bq br ak f1 G) K'=
 C zS [.ref 1,.ref 2,.ref 19,.int au,.bytes B] (cH xs su cC au bq br ak f1 G) fun v aq=>cG C aP (hG num (.ref 19) (.bytes B) (.bytes A) (.bool l) (.int r) (.tup lr)) (I5 (cn 6 fj)) aq fun x be=>lJ v x be fun w=>
  ao w (K' (.ret (.bool false)) (hG num (.ref 19) (.bytes B) (.bytes A) (.bool l) (.int r) (.tup lr)) be) (K' .next (hG num (.ref 19) (.bytes B) (.bytes A) (.bool l) (.int r) (.tup lr)) be):=by kernel_rfl
theorem afW {G:List an}{B A:List Int}{l:Bool}{r:Int}{vk:bE}:cG C aP (hG num (.ref 19) (.bytes B) (.bytes A) (.bool l) (.int r) (.tup lr)) (I5 (cn 6 fj)) (cH xs su cC au bq br ak f1 (a::b::c::hn 20 rw::G)) vk=
 vk (.tup [.bool (ltI 1 rw.2.2.1),.bytes A]) (cH xs su cC au bq br ak f1 (a::b::c::hn 20 rw::G)):=by kernel_rfl
end
def w2 (t:Int):Prop:=t∈([64,2,1,255,0,3,64,2]:List Int)
theorem gu {x k:Int}(h:0<k):0≤x% k∧x% k<k:=⟨xP _ (sE h),Bq _ h⟩
theorem Dg {b3:List Int}{t:Int}(h:0≤t∧t<b3.length):b3.getD t.toNat 0∈b3:=by have:=(GI h.1).mpr h.2;rw[List.getD_eq_getElem?_getD,List.getElem?_eq_getElem this];exact List.getElem_mem this
theorem Tu {t:Int}(h:0≤t∧t<4):hv (CR t)=true:=(by decide+kernel:∀n,n<4→hv (([250,3,255]:List Int).take n)=true) t.toNat ((GI h.1).mpr h.2)
theorem agW {w:Int}(h:0≤w∧w<4):∃a b,w=Gq a b:=by obtain⟨j,rfl⟩:=jV h.1;exact(by decide+kernel:∀j:Nat,j<4→∃a b,(j:Int)=Gq a b) j (je.mp h.2)
theorem IJ {w:Int}(h:0≤w∧w<2):∃a,w=a4 a:=by obtain⟨j,rfl⟩:=jV h.1;exact(by decide+kernel:∀j:Nat,j<2→∃a,(j:Int)=a4 a) j (je.mp h.2)
theorem yP {x:Int}{P:Prop}(h:0≤x∧x<8)(p:Ev P):Ev (cY (0≤x∧x<2^62) (cY (x.toNat<8) P)):=jm ⟨h.1,ko h.2 (by decide)⟩ (jm ((GI h.1).mpr h.2) p)
theorem VG {t p aH eT iw:Int}{jN:Bool→Bool→Prop}(cW:0≤t∧t<8)(aE:0≤st∧st<8)(hf:0≤aH∧aH<8)(c0:0≤eT∧eT<8)(hd:0≤iw∧iw<4)(k:∀a,Ev (jN a (decide (p=7)))):Ev (JK t f p aH eT iw st jN):=by
 have Z:∀g:Bool→Prop,Ev (g (decide (p=7)))→Ev (C6 p aH eT iw st g):=fun g b6=>by
  refine yP aE (yP hf (yP c0 (cw ?_ ?_)))
  .rw[ph hd.1 (ko hd.2 (by decide))];rfl
  .refine dQ (fun e=>?_) fun e=>?_<;>(rw[e] at b6;exact b6)
 exact yP cW (dQ (fun _=>Z _ (k true)) fun _=>Z _ (k false))
section
variable {xs:List Int}{d0:Int}{a b c:an}
abbrev kK (su:fg)(av aw ah cc:Bool)(X step:Int):an:=hn 20 (a4 av,a4 aw,X,cc,gH ah aw,step,(),dI cc (su.ends.at_ av aw),())
theorem VM (k:∀(av aw ah cc L ai cut:Bool) (X step Y W:Int) (S:List Int),w2 X→ka Y→ju W→hv S=true→
 Ev (K (.ref 19) (cH xs su cC au bq br ak f1 [a,b,.ints [d0,dP],kK su av aw ah cc X step,dK 21 (Y,L,W,(),ai,cut,()),.ints S]))):
 Ev (bh aT (m+3) zP [.ref 1,.ref 18] (cH xs su cC au bq br ak f1 [a,b,.ints [d0,dP]]) K):=by
 refine m0 (n:=m+2) (r:=0) (bg:=vf) (sel:=[1,18]) (vs0:=[.ref 0,.ref 1]) (H0:=[gy su,.ints [d0,dP]]) (by kernel_rfl) rfl (by kernel_rfl) (by kernel_rfl) (by kernel_rfl) (by kernel_rfl) ?_;refine aK (qO (loc:=[.ref 0,.ref 1,.aQ,.aQ,.aQ,.aQ,.aQ,.aQ,.aQ,.aQ,.aQ,.aQ,.aQ,.aQ,.aQ,.aQ,.aQ]) rfl (by kernel_rfl)) ?_;refine aK (gm 2 _ _ _ _) (aK UW (aK fi ?_));refine dD (agW (w:=d0% 4) (gu (by decide))) fun iB ox VS=>?_;refine dq (IJ (w:=d0/4% 2) (gu (by decide))) fun aw me=>?_;rw[VS,me];refine aK (UX iB ox aw) (VG (gu (by decide)) (gu (by decide)) (gu (by decide)) (gu (by decide)) (gu (by decide)) fun ah=>?_);exact aK (UY (iB&&ox) aw ah _) (k _ _ _ _ _ _ _ _ _ _ _ _ (Dg (gu (by decide))) (Dg (gu (by decide))) (Dg (gu (by decide))) (Tu (gu (by decide))))
theorem Wh {G:List an}:reach (cH xs su cC au bq br ak f1 G) 300 (kJ [.ref 1,.ref 15]) []=[1,15,13,14]:=by kernel_rfl
theorem C7 {G:List an}(bl:dt (su.tup false false)≠dt (su.tup true false))(R:dt (su.tup false true)≠dt (su.tup true true))(k:Ev (K (.ref (cH xs su cC au bq br ak f1 G).length) (cH xs su cC au bq br ak f1 G++[gj ak f1 (su.tup false false) (su.tup false true) (su.tup true false) (su.tup true true)]))):
 Ev (bh aT (m+3) qw [.ref 1,.ref 15] (cH xs su cC au bq br ak f1 G) K):=by
 refine m0 (n:=m+2) (r:=0) (bg:=vg) (sel:=[1,15,13,14]) (vs0:=[.ref 0,.ref 1]) (H0:=ra su au bq br ak f1) (by kernel_rfl) rfl Wh (by kernel_rfl) (by kernel_rfl) (by kernel_rfl) ?_;refine aK (JD ak f1) ?_;rw[xe bl R];exact aK (U0 ak f1) k
end
theorem f8 {l r:List Int}(h:ee l)(k:ee r):ee (l++r):=fun x aR=>by
 rcases List.mem_append.mp aR with aR|aR
 .exact h x aR
 .exact k x aR
theorem wu {l:List Int}(h:ee l):ee (l.take n):=fun x aR=>h x (List.mem_of_mem_take aR)
theorem DX {l:List Int}(h:ee l):ee (l.drop n):=fun x aR=>h x (List.mem_of_mem_drop aR)
theorem lB {a:Int}{l:List Int}(bl:0≤a∧a<256)(h:ee l):ee (a::l):=fun x aR=>by
 rcases List.mem_cons.mp aR with rfl|aR
 .exact bl
 .exact h x aR
theorem mj:ee []:=fun x aR=>nomatch aR
section
variable {n cut:Bool}{p:dv}
theorem Yp (hd:hv S=true):(i8 (cA n) (aZ b) ip Y S ai cut).length≤23:=by refine wz hd fun x y=>d5 ?_;clear hd;revert b cut x y;exact @l7 _ _ _ (by kernel_rfl)
theorem Tv (hd:hv S=true):ee S∧S.length≤3:=by refine wz hd fun x y=>?_;cases x<;>cases y<;>exact⟨KJ (by decide+kernel),by decide⟩
theorem Wb (hf:ka Y):0≤Y∧Y<256:=(by decide:∀f∈([16,24,17,16,20,18,16,0]:List Int),0≤f∧f<256) Y hf
theorem Yo (hd:hv S=true)(hf:ka Y):ee (i8 (cA n) (aZ b) ip Y S ai cut):=by
 refine b8 (Tv hd) fun dP ku=>?_;have f:=Wb hf;have bD:ee (mC (aZ b) ip.1.2.1 ip.2.1.2.1 Y S):=by
  cases b
  .exact f8 (f8 (f8 (i7 _ _) (i7 _ _)) (lB (by lia) (lB (by lia) (lB (by lia) (lB (by lia) mj))))) dP
  .refine f8 (f8 (f8 (i7 _ _) (i7 _ _)) ?_) dP
   repeat' (first|exact mj|refine lB (by lia) ?_)
 have a8:∀c,ee (xn (aZ b) c (mC (aZ b) ip.1.2.1 ip.2.1.2.1 Y S)):=fun c=>by
  cases b
  .exact f8 (f8 (wu bD) (i7 _ _)) (DX bD)
  .exact f8 (f8 (wu bD) (i7 _ _)) (DX bD)
 unfold i8;rw[Be];cases cut
 .exact a8 _
 .cases b
  .exact wu (a8 _)
  .exact wu (a8 _)
theorem ag0 (hi:ee ins)(ar:ins.length≤200)(cW:0≤X∧X<256):ee (mF (cA n) (aZ b) X p W L ins):=by
 have cc:=Ef b;cases n
 .refine(?_:ee (en (aZ b) X p.1.1 p.2.1.1 L ins));cases L
  .refine f8 (f8 (f8 (f8 ?_ (i7 _ _)) (i7 _ _)) mj) hi
   repeat' (first|exact mj|refine lB (by lia) ?_)
  .refine f8 (f8 (f8 (f8 ?_ (i7 _ _)) (i7 _ _)) ?_) hi
   .repeat' (first|exact mj|refine lB (by lia) ?_)
   .repeat' (first|exact mj|refine lB (by lia) ?_)
 .refine(?_:ee (kj (aZ b) X p.1.1 p.2.1.1 W L ins));have bD:ee (kk (aZ b) X p.1.1 p.2.1.1 W L ins.length):=by
   cases L
   .refine f8 (f8 (f8 (f8 (f8 ?_ (i7 _ _)) ?_) (i7 _ _)) (i7 _ _)) mj
    .repeat' (first|exact mj|refine lB (by lia) ?_)
    .repeat' (first|exact mj|refine lB (by lia) ?_)
   .refine f8 (f8 (f8 (f8 (f8 ?_ (i7 _ _)) ?_) (i7 _ _)) (i7 _ _)) ?_
    .repeat' (first|exact mj|refine lB (by lia) ?_)
    .repeat' (first|exact mj|refine lB (by lia) ?_)
    .repeat' (first|exact mj|refine lB (by lia) ?_)
  exact f8 (f8 (f8 (wu bD) (i7 _ _)) (DX bD)) hi
theorem Bj (hd:hv S=true)(hf:ka Y)(cW:0≤X∧X<256):sB (cA n) (aZ b) X p W L (i8 (cA n) (aZ b) ip Y S ai cut)=true:=by have l:=Yp (n:=n) (b:=b) (ip:=ip) (Y:=Y) (ai:=ai) (cut:=cut) hd;unfold sB;rw[lY.mpr (by lia),DY (ag0 (Yo hd hf) (by lia) cW)];rfl
end
theorem EV {t:Int}(h:w2 t):0≤t∧t≤255:=(by decide:∀t∈([64,2,1,255,0,3,64,2]:List Int),0≤t∧t≤255) t h
section
variable {xs:List Int}{e:fy}{step:Int}{n s t ah cut:Bool}{x y c:an}
abbrev bA (n b s t:Bool)(wy ca:Int)(e:fy):fg:=(cA n,aZ b,s,t,wy,ca,e,())
abbrev h8 (Y:Int)(L:Bool)(W:Int)(ai cut:Bool):ji:=(Y,L,W,(),ai,cut,())
theorem Zw:Mr (cA n) W=dF n W:=by cases n<;>rfl
theorem Zx {n:Bool}(h:dF n W=true):n=true:=by
 cases n
 .exact dZ h
 .rfl
theorem VP (cW:w2 X)(hf:ka Y)(hd:hv S=true)
 (k:Ev (K (.tup [.bytes (cq n b L X W Y S ai cut (dI cc (e.at_ av aw)) (dI cc (e.at_ av aw))),
  .bytes (fz n b L (kX X) W Y S ai cut (dF n W) (n9 e s t av aw (dI cc (e.at_ av aw))) (dI cc (e.at_ av aw))),.bool (dF n W)])
  (cH xs (bA n b s t wy ca e) cC au bq br ak f1 [x,y,c,kK (bA n b s t wy ca e) av aw ah cc X step,dK 21 (h8 Y L W ai cut),.ints S]))):
 Ev (bh aT (m+6) zR [.ref 1,.ref 19] (cH xs (bA n b s t wy ca e) cC au bq br ak f1 [x,y,c,kK (bA n b s t wy ca e) av aw ah cc X step,dK 21 (h8 Y L W ai cut),.ints S]) K):=by
 have A4:=EV cW;refine m0 (n:=m+5) (r:=0) (bg:=yj) (sel:=[1,19,20,21]) (vs0:=[.ref 0,.ref 1]) (H0:=vl (bA n b s t wy ca e) (a4 av,a4 aw,X,cc,gH ah aw,step,(),dI cc (e.at_ av aw),()) (h8 Y L W ai cut) S) (by kernel_rfl) rfl (by kernel_rfl) (by kernel_rfl) (by kernel_rfl) (by kernel_rfl) ?_;refine aK (Vb n s t av aw) ?_;rw[Zw];have nQ:(iA (aZ b)&&hv S)=true:=by rw[wA,hd];rfl
 have nn:∀(aG:List Int) (q:dv) (gI:V→Prop),(∀qV,0≤qV∧qV<256→sB (cA n) (aZ b) qV q W L aG=true)→
  Ev (gI (.tup [.bytes (mF (cA n) (aZ b) X (dI cc (e.at_ av aw)) W L (i8 (cA n) (aZ b) (dI cc (e.at_ av aw)) Y S ai cut)),.bytes (mF (cA n) (aZ b) (kX X) q W L aG),.bool (dF n W)]))→
  Ev (AA (cA n) (aZ b) X (dI cc (e.at_ av aw)) q W L (dF n W) (i8 (cA n) (aZ b) (dI cc (e.at_ av aw)) Y S ai cut) aG gI):=fun aG q gI kV aB=>by
  unfold AA;refine cw (Bj hd hf (by omega)) (dQ (fun aW=>cw (kV _ ?_) ?_) fun aW=>cw (kV _ ?_) ?_)
  .have:=pb aW;omega
  .unfold kX at aB;rw[aW] at aB;exact aB
  .omega
  .unfold kX at aB;rw[aW] at aB;exact aB
 unfold N5;refine cw nQ (dQ (fun ij=>nn _ _ _ (fun qV h=>Bj hd hf h) (aK Vc ?_)) fun ij=>cw nQ (nn _ _ _ (fun qV h=>Bj hd hf h) (aK Vd ?_)))
 .unfold fz at k;rw[ij] at k⊢;exact k
 .unfold fz at k;rw[ij] at k⊢;exact k
theorem VL {l:Bool}
 (k:Ev (rt (cA n) (aZ b) au aw (i4 av bq br) X (gH ah aw) Y W l cc (i4 av ak f1) L cut
  (K (.int (-1)) (cH xs (bA n b s t wy ca e) cC au bq br ak f1 [x,y,c,kK (bA n b s t wy ca e) av aw ah cc X step,dK 21 (h8 Y L W ai cut),.ints S]))
  (K (.int (-1)) (cH xs (bA n b s t wy ca e) cC au bq br (sh av ak false) (si av f1 false) [x,y,c,kK (bA n b s t wy ca e) av aw ah cc X step,dK 21 (h8 Y L W ai cut),.ints S]))
  (fun z=>K (.int (2-a4 aw)) (cH xs (bA n b s t wy ca e) cC au (xc av bq z) (xd av br z) ak f1 [x,y,c,kK (bA n b s t wy ca e) av aw ah cc X step,dK 21 (h8 Y L W ai cut),.ints S])))):
 Ev (bh aT (m+1) zO [.ref 1,.ref 15,.ref 19,.bool l] (cH xs (bA n b s t wy ca e) cC au bq br ak f1 [x,y,c,kK (bA n b s t wy ca e) av aw ah cc X step,dK 21 (h8 Y L W ai cut),.ints S]) K):=by
 refine m0 (n:=m) (r:=0) (bg:=yi) (sel:=[1,15,13,14,19,20,21]) (vs0:=[.ref 0,.ref 1,.ref 4,.bool l]) (H0:=q9 (bA n b s t wy ca e) au bq br ak f1 (a4 av,a4 aw,X,cc,gH ah aw,step,(),dI cc (e.at_ av aw),()) (h8 Y L W ai cut) S) (by kernel_rfl) rfl (by kernel_rfl) (by kernel_rfl) (by kernel_rfl) (by kernel_rfl) ?_;refine aK (UT n ak f1 av aw) ?_;have aW:∀(cX dS r:Int) (bl R:Bool),iq [1,15,13,14,19,20,21] (cH xs (bA n b s t wy ca e) cC au bq br ak f1 [x,y,c,kK (bA n b s t wy ca e) av aw ah cc X step,dK 21 (h8 Y L W ai cut),.ints S]) (.int r)
  (q9 (bA n b s t wy ca e) au cX dS bl R (a4 av,a4 aw,X,cc,gH ah aw,step,(),dI cc (e.at_ av aw),()) (h8 Y L W ai cut) S) K=
  K (.int r) (cH xs (bA n b s t wy ca e) cC au cX dS bl R [x,y,c,kK (bA n b s t wy ca e) av aw ah cc X step,dK 21 (h8 Y L W ai cut),.ints S]):=fun cX dS r bl R=>UU
 simp only[aW];exact k
end
section
variable {fn:Nat}{xs:List Int}{e:fy}{step:Int}{n s t ah cut:Bool}{x y c q bY c8:an}{B:List Int}{t1 aa:c7}{U N ae:Int}
abbrev H5 (x y c:an)(su:fg)(av aw ah cc:Bool)(X step:Int)(sx:ji)(S:List Int)(q:an):List an:=[x,y,c,kK su av aw ah cc X step,dK 21 sx,.ints S,q]
theorem VN (aL:dt ((bA n b s t wy ca e).tup false false)≠dt ((bA n b s t wy ca e).tup true false))(kF:dt ((bA n b s t wy ca e).tup false true)≠dt ((bA n b s t wy ca e).tup true true))
 (a8:sW n B U N ae)(cW:oS au (cE n) U N B (gH ah aw) t1 aa (fL (bA n b s t wy ca e) ak f1) fn iL d' gL gM (fL (bA n b s t wy ca e) dy g1) ge)
 (k:Ev (K (.tup [.int iL,.bytes d',.ref 23,.ref 24]) (cH xs (bA n b s t wy ca e) (bu gL gM (fL (bA n b s t wy ca e) dy g1) ge) au bq br bl R [x,y,c,kK (bA n b s t wy ca e) av aw ah cc X step,dK 21 (h8 Y L W ai cut),.ints S,q,.ints [gL.kM,gM.kM],
  gj dy g1 ((bA n b s t wy ca e).tup false false) ((bA n b s t wy ca e).tup false true) ((bA n b s t wy ca e).tup true false) ((bA n b s t wy ca e).tup true true)]))):
 Ev (bh aT (m+11) zQ [.ref 1,.ref 2,.ref 19,.int au,.bytes B] (cH xs (bA n b s t wy ca e) (bu t1 aa (fL (bA n b s t wy ca e) ak f1) fn) au bq br bl R (H5 x y c (bA n b s t wy ca e) av aw ah cc X step (h8 Y L W ai cut) S q)) K):=by
 refine m0 (n:=m+10) (r:=0) (bg:=nH) (sel:=jv) (vs0:=[.ref 0,.ref 1,.ref 12,.int au,.bytes B]) (H0:=l4 (bA n b s t wy ca e) (bu t1 aa (fL (bA n b s t wy ca e) ak f1) fn) (a4 av,a4 aw,X,cc,gH ah aw,step,(),dI cc (e.at_ av aw),()) (h8 Y L W ai cut) S)
  (by kernel_rfl) rfl (Zh ak f1) (Zg ak f1) (by kernel_rfl) (Zf ak f1) ?_
 refine VX m n (rw:=(a4 av,a4 aw,X,cc,gH ah aw,step,(),dI cc (e.at_ av aw),())) a8 cW aL kF ?_;exact aK (Ze dy g1) k
theorem VR (am:∀K:bE,Ev (K (.tup [.bool (ltI 1 X),.bytes d']) (rc (bA n b s t wy ca e) (bu t1 aa (fL (bA n b s t wy ca e) ak f1) fn) (pq av aw X cc (gH ah aw) step (dI cc (e.at_ av aw))) (h8 Y L W ai cut) S au av aw (cE n) U N ae d'))→
 Ev (cR (bh aT (m+10)) aP pO [.ref 0,.ref 1,.ref 12,.int au,.bytes B] (l4 (bA n b s t wy ca e) (bu t1 aa (fL (bA n b s t wy ca e) ak f1) fn) (pq av aw X cc (gH ah aw) step (dI cc (e.at_ av aw))) (h8 Y L W ai cut) S) K))
 (k:Ev (K (.tup [.bool (ltI 1 X),.bytes d']) (cH xs (bA n b s t wy ca e) (bu t1 aa (fL (bA n b s t wy ca e) ak f1) fn) au bq br bl R [x,y,c,kK (bA n b s t wy ca e) av aw ah cc X step,dK 21 (h8 Y L W ai cut),.ints S,q,bY,c8]))):
 Ev (bh aT (m+11) zS [.ref 1,.ref 2,.ref 19,.int au,.bytes B] (cH xs (bA n b s t wy ca e) (bu t1 aa (fL (bA n b s t wy ca e) ak f1) fn) au bq br bl R [x,y,c,kK (bA n b s t wy ca e) av aw ah cc X step,dK 21 (h8 Y L W ai cut),.ints S,q,bY,c8]) K):=by
 refine m0 (n:=m+10) (r:=0) (bg:=pO) (sel:=jv) (vs0:=[.ref 0,.ref 1,.ref 12,.int au,.bytes B]) (H0:=l4 (bA n b s t wy ca e) (bu t1 aa (fL (bA n b s t wy ca e) ak f1) fn) (pq av aw X cc (gH ah aw) step (dI cc (e.at_ av aw))) (h8 Y L W ai cut) S)
  (by kernel_rfl) rfl (Zn ak f1) (Zm ak f1) (by kernel_rfl) (Zl ak f1) ?_
 exact am _ (aK (Zk av aw ak f1) k)
end
theorem C3 (H:List an):∀(k:Nat) (v:V),bU k v=true→e8 H (k+1) v v=E true:=by
 have m3:∀(f:V→V→Option Bool) (vs:List V),(∀v∈vs,f v v=E true)→gU f vs vs=E true:=fun f vs=>by
  induction vs with
  |nil=>intro _;rfl
  |cons v vs aF=>
   intro h;refine(?_:(match f v v,gU f vs vs with|some x,E y=>E (x&&y)|_,_=>dn)=_)
   rw[h v List.mem_cons_self,aF fun w c0=>h w (List.mem_cons_of_mem _ c0)];rfl
 intro k
 induction k with
 |zero=>
  intro v h
  induction v using V.casesOn with
  |int x=>show E (decide (x=x))=_;rw[decide_eq_true rfl]
  |str x=>show E (c1 x x)=_;rw[pH]
  |_=>exact dZ h
 |succ k aF=>
  intro v h
  induction v using V.casesOn with
  |int x=>show E (decide (x=x))=_;rw[decide_eq_true rfl]
  |str x=>show E (c1 x x)=_;rw[pH]
  |tup vs=>have h:vs.all (bU k)=true:=h;exact m3 _ vs fun v cp=>aF v (List.all_eq_true.mp h v cp)
  |_=>exact dZ h
def rv (R Z p0 fb hi pi ax po:Int):fy:=((((R,p0,()),(Z,fb,()),()),((hi,pi,()),(ax,po,()),()),()),(((R,(p0+1)% 65536,()),(Z,fb,()),()),((Z,fb,()),(R,(p0+1)% 65536,()),()),()),())
def AJ (a c:dv):Prop:=a.1.1=c.1.1∧a.1.2.1=c.1.2.1∧a.2.1.1=c.2.1.1∧a.2.1.2.1=c.2.1.2.1
section
variable {R Z p0 fb hi pi ax po:Int}
theorem apart (aW:R≠Z)(aJ:hi≠R)(cJ:hi=Z→pi=fb)(eV:ax=R→po=p0)(dh:0≤p0∧p0<65536)(cj:0≤fb∧fb<65536)(b9:0≤pi∧pi<65536):
 ∀w y av aw ah cc:Bool,1+a4 y=gH ah aw→AJ ((rv R Z p0 fb hi pi ax po).at_ w y) (dI cc ((rv R Z p0 fb hi pi ax po).at_ av aw))→w=av∧y=aw∧ah=false∧cc=false:=by
 have Ky:∀w y,((rv R Z p0 fb hi pi ax po).at_ w y).1.1=R↔y=false:=fun w y=>by cases w<;>cases y<;>simp only[fy.at_,rv]<;>simp[aW.symm,aJ]
 have XX:∀cc w y,(dI cc ((rv R Z p0 fb hi pi ax po).at_ w y)).1.1=((rv R Z p0 fb hi pi ax po).at_ w y).1.1:=fun cc w y=>by cases cc<;>rfl
 intro w y av aw ah cc wd aE;have cu:y=aw:=by have a:=Ky w y;have c:=Ky av aw;rw[aE.1,XX] at a;have d:y=false↔aw=false:=a.symm.trans c;clear c;cases y<;>cases aw<;>simp at d⊢
 subst cu;have hf:ah=false:=by
  clear aE;cases ah
  .rfl
  .cases y<;>simp[gH,a4] at wd
 subst hf;refine kR aE fun bB s2 eS i6=>?_;clear aE;cases y<;>cases w<;>cases av<;>cases cc<;>simp only[fy.at_,rv,dI] at bB s2 eS i6⊢<;>first|exact⟨trivial,trivial,trivial,trivial⟩|(exfalso;lia)|simp
theorem Po {a c:dv}:dt (fP nf pr a)=dt (fP nf pr c)↔AJ a c:=by refine(?_:[nf,pr,a.1.1,a.1.2.1,a.2.1.1,a.2.1.2.1]=[nf,pr,c.1.1,c.1.2.1,c.2.1.1,c.2.1.2.1]↔_);simp[AJ]
end
structure mO (n:Bool)(e:fy):Prop where
 apart:∀w y av aw ah cc:Bool,1+a4 y=gH ah aw→AJ (e.at_ w y) (dI cc (e.at_ av aw))→w=av∧y=aw∧ah=false∧cc=false
 y9:∀cc av aw,jo n (dI cc (e.at_ av aw))
theorem zv (n:Bool){k:Int}(bl:0≤k)(R:k≤4):fits (xl n) (iz n k):=by
 cases n
 .refine⟨?_,?_⟩
  .refine(?_:(0:Int)≤2^125+5192376096523839485395206520373255*k);have:(0:Int)≤2^125:=by decide
   lia
  .refine(?_:(2:Int)^125+5192376096523839485395206520373255*k<256^16);have:(2:Int)^125=42535295865117307932921825928971026432:=by decide
   have:(256:Int)^16=340282366920938463463374607431768211456:=by decide
   lia
 .refine⟨?_,?_⟩
  .refine(?_:(0:Int)≤167772160+16909060*k);lia
  .refine(?_:(167772160:Int)+16909060*k<256^4);have:(256:Int)^4=4294967296:=by decide
   lia
theorem zw (n:Bool){i j:Int}(h:i≠j):iz n i≠iz n j:=by
 cases n
 .refine(?_:(2:Int)^125+5192376096523839485395206520373255*i≠2^125+5192376096523839485395206520373255*j);lia
 .refine(?_:(167772160:Int)+16909060*i≠167772160+16909060*j);lia
theorem ug {p:Int}(h:0≤p∧p<65536):fits 2 p:=⟨h.1,by show p<256^2;lia⟩
theorem UG (n s t b:Bool){aw cause p0 fb p2 kb:Int}(dh:0≤p0∧p0<65536)(cj:0≤fb∧fb<65536)(b9:0≤p2∧p2<65536)(eN:0≤kb∧kb<65536):mO n (yw n b s t aw cause p0 fb p2 kb).ends:=by
 have qI:=zw n (i:=1) (j:=2) (by decide);have M5:=zw n (i:=1) (j:=4) (by decide);have M6:=zw n (i:=2) (j:=4) (by decide);have M4:=zw n (i:=1) (j:=3) (by decide);have f1:=zv n (k:=1) (by decide) (by decide);have h1:=zv n (k:=2) (by decide) (by decide);have mf:=zv n (k:=3) (by decide) (by decide);have JM:=zv n (k:=4) (by decide) (by decide);have c8:=ug (p:=(p0+1)% 65536) (by lia);have aR:∀p:dv,jo n p→∀cc,jo n (dI cc p):=fun p h cc=>by
  cases cc
  .exact h
  .exact⟨⟨h.1.1,ug (by show 0≤(p.1.2.1+1000)% 65536∧(p.1.2.1+1000)% 65536<65536;lia)⟩,h.2⟩
 refine⟨?_,fun cc av aw=>aR _ ?_ cc⟩
 .cases s<;>cases t
  .exact apart (hi:=iz n 2) (pi:=fb) (ax:=iz n 1) (po:=p0) qI qI.symm (fun _=>rfl) (fun _=>rfl) dh cj cj
  .exact apart (hi:=iz n 4) (pi:=kb) (ax:=iz n 1) (po:=p0) qI M5.symm (fun q=>absurd q M6.symm) (fun _=>rfl) dh cj eN
  .exact apart (hi:=iz n 2) (pi:=fb) (ax:=iz n 3) (po:=p2) qI qI.symm (fun _=>rfl) (fun q=>absurd q M4.symm) dh cj cj
  .exact apart (hi:=iz n 4) (pi:=kb) (ax:=iz n 3) (po:=p2) qI M5.symm (fun q=>absurd q M6.symm) (fun q=>absurd q M4.symm) dh cj eN
 .have dy:=ug dh;have g1:=ug cj;have bM:=ug b9;have g3:=ug eN;cases av<;>cases aw
  .exact⟨⟨f1,dy⟩,⟨h1,g1⟩⟩
  .cases s<;>cases t
   .exact⟨⟨h1,g1⟩,⟨f1,dy⟩⟩
   .exact⟨⟨JM,g3⟩,⟨f1,dy⟩⟩
   .exact⟨⟨h1,g1⟩,⟨mf,bM⟩⟩
   .exact⟨⟨JM,g3⟩,⟨mf,bM⟩⟩
  .exact⟨⟨f1,c8⟩,⟨h1,g1⟩⟩
  .exact⟨⟨h1,g1⟩,⟨f1,c8⟩⟩
section
variable {n s t:Bool}{e:fy}{ah:Bool}
theorem Mj (w y:Bool){i:Int}{p:dv}:bn 4 (jM (bA n b s t wy ca e) w y) (.tup (a6 i (fP (cA n) (aZ b) p)))=(decide (1+a4 y=i)&&decide (dt (fP (cA n) (aZ b) (e.at_ w y))=dt (fP (cA n) (aZ b) p))):=Ed _ _ _ _
theorem D7 (h:mO n e)(w y:Bool)(aL:¬(w=av∧y=aw∧ah=false∧cc=false)):bn 4 (jM (bA n b s t wy ca e) w y) (.tup (a6 (gH ah aw) (fP (cA n) (aZ b) (dI cc (e.at_ av aw)))))=false:=by
 rw[Mj]
 by_cases c:1+a4 y=gH ah aw
 .rw[decide_eq_true c,nx];exact decide_eq_false fun q=>aL (h.apart w y av aw ah cc c (Po.mp q))
 .rw[decide_eq_false c];rfl
theorem zV:bn 4 (jM (bA n b s t wy ca e) av aw) (.tup (a6 (gH false aw) (fP (cA n) (aZ b) (dI false (e.at_ av aw)))))=true:=by rw[Mj,decide_eq_true (show 1+a4 aw=gH false aw from rfl)];exact decide_eq_true rfl
theorem tup_ne (h:mO n e)(y:Bool):dt ((bA n b s t wy ca e).tup false y)≠dt ((bA n b s t wy ca e).tup true y):=fun q=>
 absurd (h.apart false y true y false false rfl (Po.mp q)).1 (by decide)
theorem ue:d7 av (gk (bA n b s t wy ca e) false bq) (gk (bA n b s t wy ca e) true br)=gk (bA n b s t wy ca e) av (i4 av bq br):=by cases av<;>rfl
theorem OV {u:Int}:gX (gk (bA n b s t wy ca e) av u) (a4 aw)=fP (cA n) (aZ b) (e.at_ av (!aw)):=by cases aw<;>rfl
theorem Pb {u:Int}{p:dv}:rT (hC (gk (bA n b s t wy ca e) av u).cL (g9 false (a4 aw))) (hC (gk (bA n b s t wy ca e) av u).cL (g9 true (a4 aw))) (e.at_ av (!aw)) p=n9 e s t av aw p:=by
 cases av
 .cases s<;>cases t<;>cases aw<;>kernel_rfl
 .cases aw<;>kernel_rfl
end
theorem C2 (f:V→V→Option Bool)(vs:List V)(h:∀v∈vs,f v v=E true):gU f vs vs=E true:=by
 induction vs with
 |nil=>rfl
 |cons v vs aF=>
  refine(?_:(match f v v,gU f vs vs with|some x,E y=>E (x&&y)|_,_=>dn)=_)
  rw[h v List.mem_cons_self,aF fun w c0=>h w (List.mem_cons_of_mem _ c0)];rfl
noncomputable def s9 (a b:Option Bool):Option Bool:=match a,b with|some x,E y=>E (x&&y)|_,_=>dn
section
variable {xs:List Int}{r:Int}{t1 aa:ej}{a b c d e g:an}{K:Bool→Prop}
abbrev pQ (xs:List Int)(su:fg)(cC:er)(au cX dS:Int)(bw ba:Bool)(a b c d e g:an)(dL t1 aa d3:ej):List an:=cH xs su cC au cX dS bw ba [a,b,c,d,e,g,gj bw ba dL t1 aa d3,.ints [cX,dS],gj bw ba dL t1 aa d3]
def sl (ak f1:Bool)(dL t1 aa d3:ej):List V:=match ak with
 |true=>(match f1 with
  |true=>FU dL t1 aa d3 (nb dL aa) (nb t1 d3)
  |false=>[e7 1 dL 1 0 2,e7 2 t1 1 1 1])
 |false=>(match f1 with
  |true=>[e7 1 aa 2 0 2,e7 2 d3 2 1 1]
  |false=>[])
theorem ae4:∀bw ba:Bool,(sl bw ba dL t1 aa d3).all (bU 5)=true:=all2 (by kernel_rfl)
theorem ae5 (bw ba:Bool):∀v∈sl bw ba dL t1 aa d3,bU 5 v=true:=List.all_eq_true.mp (ae4 bw ba)
theorem T4 (bw ba:Bool):e8 (pQ xs su cC au cX dS bw ba a b c d e g dL t1 aa d3) 8 (.tup [.int r,.bytes fm,.ref 23,.ref 24]) (.tup [.int r,.bytes fm,.ref 13,.ref 22])=E true:=by
 have aW:e8 (pQ xs su cC au cX dS bw ba a b c d e g dL t1 aa d3) 8 (.tup [.int r,.bytes fm,.ref 23,.ref 24]) (.tup [.int r,.bytes fm,.ref 13,.ref 22])=
  s9 (E (decide (r=r))) (s9 (E (decide (fm=fm))) (s9 (E (decide ([cX,dS]=[cX,dS]))) (s9 (e8 (pQ xs su cC au cX dS bw ba a b c d e g dL t1 aa d3) 7 (.ref 24) (.ref 22)) (E true)))):=by kernel_rfl
 have aJ:e8 (pQ xs su cC au cX dS bw ba a b c d e g dL t1 aa d3) 7 (.ref 24) (.ref 22)=E true:=by
  have aB:=C2 (e8 (pQ xs su cC au cX dS bw ba a b c d e g dL t1 aa d3) 6) (sl bw ba dL t1 aa d3) fun v cp=>C3 _ 5 v (ae5 bw ba v cp);cases bw<;>cases ba
  .have:e8 (pQ xs su cC au cX dS false false a b c d e g dL t1 aa d3) 7 (.ref 24) (.ref 22)=E (decide (([]:List Int)=[])):=by kernel_rfl
   rw[this];rfl
  .exact uV (by kernel_rfl) aB
  .exact uV (by kernel_rfl) aB
  .exact uV (by kernel_rfl) aB
 rw[aW,aJ,decide_eq_true (rfl:r=r),decide_eq_true (rfl:fm=fm),decide_eq_true (rfl:[cX,dS]=[cX,dS])];rfl
theorem aa8 (bw ba:Bool)(k:Ev (K false)):Ev (lJ (.tup [.int r,.bytes fm,.ref 23,.ref 24]) (.tup [.int r,.bytes fm,.ref 13,.ref 22]) (pQ xs su cC au cX dS bw ba a b c d e g dL t1 aa d3) K):=by refine aK (B:=jx (e8 (pQ xs su cC au cX dS bw ba a b c d e g dL t1 aa d3) 8 (.tup [.int r,.bytes fm,.ref 23,.ref 24]) (.tup [.int r,.bytes fm,.ref 13,.ref 22])) fun x=>K (!x)) rfl ?_;rw[T4];exact k
theorem abb {w:Bool}(k:Ev (K false)):Ev (lJ (.tup [.bool w,.bytes fm]) (.tup [.bool w,.bytes fm]) H K):=by
 have e:e8 H 8 (.tup [.bool w,.bytes fm]) (.tup [.bool w,.bytes fm])=E true:=by
  have:e8 H 8 (.tup [.bool w,.bytes fm]) (.tup [.bool w,.bytes fm])=s9 (E (w==w)) (s9 (E (decide (fm=fm))) (E true)):=by kernel_rfl
  rw[this,decide_eq_true (rfl:fm=fm),beq_self_eq_true];rfl
 refine aK (B:=jx (e8 H 8 (.tup [.bool w,.bytes fm]) (.tup [.bool w,.bytes fm])) fun x=>K (!x)) rfl ?_;rw[e];exact k
end
theorem Jm:cn 1 (cn 4 fj)=cn 5 fj:=by kernel_rfl
theorem TY:cn 1 (cn 5 fj)=cn 6 fj:=by kernel_rfl
theorem TZ:cn 1 (cn 6 fj)=.nil:=by kernel_rfl
section
variable {fn:Nat}{xs:List Int}{e:fy}{step r ae:Int}{n s t bw ba ah cut:Bool}{x y c:an}{hs:dM}
theorem agA (cy:mO n e)(rF:w2 X)(c0:ju W)
 (hd:d'=match cb 0 r with
  |true=>fz n b L (kX X) W Y S ai cut (dF n W) (n9 e s t av aw (dI cc (e.at_ av aw))) (dI cc (e.at_ av aw))
  |false=>cq n b L X W Y S ai cut (dI cc (e.at_ av aw)) (dI cc (e.at_ av aw)))
 (cW:oS au (cE n) (aZ b) (gf n L (dF n W)) (cq n b L X W Y S ai cut (dI cc (e.at_ av aw)) (dI cc (e.at_ av aw))) (gH ah aw)
  (gk (bA n b s t wy ca e) false bq) (gk (bA n b s t wy ca e) true br) (fL (bA n b s t wy ca e) ak f1) fn r d' (gk (bA n b s t wy ca e) false cX) (gk (bA n b s t wy ca e) true dS) (fL (bA n b s t wy ca e) bw ba) ge)
 (k:∀(uH uI uJ uK uL uG:V) (G:List an),Ev (hs .next (hG num uH uI uJ uK uL uG) (cH xs (bA n b s t wy ca e) (nP (bA n b s t wy ca e) cX dS bw ba ge) au cX dS bw ba (x::y::G)))):
 Ev (b4 (bh aT (m+12)) aP (cn 4 fj) (hG num (.ref 19) (.bytes (cq n b L X W Y S ai cut (dI cc (e.at_ av aw)) (dI cc (e.at_ av aw))))
  (.bytes (fz n b L (kX X) W Y S ai cut (dF n W) (n9 e s t av aw (dI cc (e.at_ av aw))) (dI cc (e.at_ av aw)))) (.bool (dF n W)) (.int r) v10)
  (cH xs (bA n b s t wy ca e) (nP (bA n b s t wy ca e) bq br ak f1 fn) au cX dS bw ba [x,y,c,kK (bA n b s t wy ca e) av aw ah cc X step,dK 21 (h8 Y L W ai cut),.ints S]) hs):=by
 have ql:=tup_ne (b:=b) (s:=s) (t:=t) (wy:=wy) (ca:=ca) cy false;have qm:=tup_ne (b:=b) (s:=s) (t:=t) (wy:=wy) (ca:=ca) cy true;have A4:=EV rF;generalize to:cq n b L X W Y S ai cut (dI cc (e.at_ av aw)) (dI cc (e.at_ av aw))=B at hd cW⊢;generalize ru:fz n b L (kX X) W Y S ai cut (dF n W) (n9 e s t av aw (dI cc (e.at_ av aw))) (dI cc (e.at_ av aw))=A at hd⊢;have a8:sW n B (aZ b) (gf n L (dF n W)) (AB n W):=to▸Oa n b L ai cut c0;have c2:∀lr,lr=[.int r,.bytes d',.ref 13,.ref 22]→Ev (b4 (bh aT (m+12)) aP (cn 5 fj) (hG num (.ref 19) (.bytes B) (.bytes A) (.bool (dF n W)) (.int r) (.tup lr))
  (cH xs (bA n b s t wy ca e) (nP (bA n b s t wy ca e) bq br ak f1 fn) au cX dS bw ba (H5 x y c (bA n b s t wy ca e) av aw ah cc X step (h8 Y L W ai cut) S
   (gj bw ba ((bA n b s t wy ca e).tup false false) ((bA n b s t wy ca e).tup false true) ((bA n b s t wy ca e).tup true false) ((bA n b s t wy ca e).tup true true)))) hs):=fun lr Xm=>by
  refine aK (gm 1 (cn 5 fj) _ _ _) ?_;refine aK afU (VN (m:=m+1) ql qm a8 cW ?_);rw[Xm];refine aa8 bw ba (eb rfl ?_);refine aK fi ?_;rw[TY];refine aK (gm 1 (cn 6 fj) _ _ _) ?_;refine aK afV ?_;refine VR (m:=m+1) (d':=A) (U:=aZ b) (N:=gf n L (dF n W)) (ae:=AB n W) (fun QN WU=>?_) ?_
  .have:=aeP (n:=n) (b:=b) (L:=L) (ai:=ai) (cut:=cut) (df:=dF n W) (av:=av) (aw:=aw) (hF:=cc) (X:=X) (W:=W) (Y:=Y) (au:=au) (iif:=gH ah aw) (step:=step) (ae:=AB n W) (S:=S)
    (p:=dI cc (e.at_ av aw)) (ip:=dI cc (e.at_ av aw)) (g:=e.at_ av (!aw)) (q:=n9 e s t av aw (dI cc (e.at_ av aw))) (t1:=gk (bA n b s t wy ca e) false cX) (aa:=gk (bA n b s t wy ca e) true dS) (fn:=ge) (aH:=fL (bA n b s t wy ca e) bw ba)
    (s:=(s,t,wy,ca,e,())) (sx:=h8 Y L W ai cut) (K:=QN) (m+1) (by
     have eU:fz n b L X W Y S ai cut (dF n W) (dI cc (e.at_ av aw)) (dI cc (e.at_ av aw))=B:=by rw[←to];unfold fz;cases dF n W<;>rfl
     rw[eU];exact a8) Zx (cy.y9 cc av aw) (by have:=cy.y9 false av (!aw);exact this) A4.2 (by rw[ue];exact OV) (by rw[ue];exact Pb)
   have eU:fz n b L X W Y S ai cut (dF n W) (dI cc (e.at_ av aw)) (dI cc (e.at_ av aw))=B:=by rw[←to];unfold fz;cases dF n W<;>rfl
   rw[eU,ru] at this;exact this WU
  .refine aK afW ?_;refine abb (eb rfl ?_);refine aK fi ?_;rw[TZ];exact k _ _ _ _ _ _ _
 refine aK (gm 1 (cn 4 fj) _ _ _) ?_;refine aK afT (dQ (fun cS=>?_) fun cS=>?_)
 .rw[cS] at hd;have hd:d'=A:=hd;clear ru;subst hd;refine C7 (m:=m+9) ql qm ?_;refine aK fi ?_;rw[Jm];exact aK (by kernel_rfl) (c2 [.int r,.bytes d',.ref 13,.ref 22] rfl)
 .rw[cS] at hd;have hd:d'=B:=hd;clear to cW a8;subst hd;refine C7 (m:=m+9) ql qm ?_;refine aK fi ?_;rw[Jm];exact aK (by kernel_rfl) (c2 [.int r,.bytes d',.ref 13,.ref 22] rfl)
end
theorem Ww (n:Bool)(W:Int):(zd (cA n) W).any id= !ng n W:=by
 cases n
 .rfl
 .refine(?_:(!decide (W% 16384=0)||false)= !decide (W% 16384=0));rw[uU]
theorem Z9 (X:Int):ltI X 2= !ltI 1 X:=by
 rw[jr,jr]
 by_cases h:X<2
 .rw[decide_eq_true h,decide_eq_false (by lia)];rfl
 .rw[decide_eq_false h,decide_eq_true (by lia)];rfl
theorem Ym (ah aw:Bool):decide (gH ah aw=1+a4 aw)= !ah:=by cases ah<;>cases aw<;>rfl
theorem Jn (n:Bool)(au k9 X W:Int)(aw ah l cc ik L cut:Bool):rr (cA n) au aw k9 X (gH ah aw) W l cc ik L cut=(!l&&(!cc&&(!ah&&(ik&&(!cb k9 au&&lq n L X W cut))))):=by unfold rr lq;rw[Ww,Z9,Ym];generalize cb k9 au=g1;generalize ltI 1 X=bM;generalize ng n W=g3;revert l cc ah ik g1 L g3 bM cut;decide+kernel
theorem TV:cn 1 (cn 1 fj)=cn 2 fj:=by kernel_rfl
theorem TW:cn 1 (cn 2 fj)=cn 3 fj:=by kernel_rfl
theorem TX:cn 1 (cn 3 fj)=cn 4 fj:=by kernel_rfl
section
variable {fn:Nat}{xs:List Int}{e:fy}{n s t:Bool}{x y:an}{hs:dM}
theorem T5 {ah cut:Bool}{B A:List Int}{K:Int→Int→Int→Bool→Bool→Prop}(cy:mO n e)(rF:w2 X)(hf:ka Y)(c0:ju W)(hd:hv S=true)
 (to:cq n b L X W Y S ai cut (dI cc (e.at_ av aw)) (dI cc (e.at_ av aw))=B)
 (ru:fz n b L (kX X) W Y S ai cut (dF n W) (n9 e s t av aw (dI cc (e.at_ av aw))) (dI cc (e.at_ av aw))=A)
 (k:∀(r cX dS:Int) (bw ba:Bool) (ge:Nat),oS au (cE n) (aZ b) (gf n L (dF n W)) B (gH ah aw) (gk (bA n b s t wy ca e) false bq) (gk (bA n b s t wy ca e) true br) (fL (bA n b s t wy ca e) ak f1) fn r
  (match cb 0 r with|true=>A|false=>B) (gk (bA n b s t wy ca e) false cX) (gk (bA n b s t wy ca e) true dS) (fL (bA n b s t wy ca e) bw ba) ge→Ev (K r cX dS bw ba)):
 Ev (rt (cA n) (aZ b) au aw (i4 av bq br) X (gH ah aw) Y W (dF n W) cc (i4 av ak f1) L cut (K (-1) bq br ak f1) (K (-1) bq br (sh av ak false) (si av f1 false))
  (fun z=>K (2-a4 aw) (xc av bq z) (xd av br z) ak f1)):=by
 have A4:=EV rF;have rA:=cy.y9 cc av aw;subst to;cases ew:rr (cA n) au aw (i4 av bq br) X (gH ah aw) W (dF n W) cc (i4 av ak f1) L cut with
 |false=>
  refine T3 ew (k (-1) bq br ak f1 fn ?_);rw[Jn] at ew;clear ru;rcases Qm (dF n W) with ij|ij
  .exact PH c0 rA (.inl ij)
  .rw[ij] at ew
   by_cases a9:cc=false∧ah=false∧i4 av ak f1=true
   .refine hJ a9 fun cj b9 eN=>?_;clear a9;subst cj;clear k;subst b9;rw[eN] at ew;have ew:(!cb (i4 av bq br) au&&lq n L X W cut)=false:=ew;refine PI c0 hd hf rA ij eN zV (fun w z=>?_) ?_
    .by_cases c:w=av∧z=aw
     .exact .inl c
     .exact .inr (D7 cy w z fun q=>c ⟨q.1,q.2.1⟩)
    .rw[ue];rcases Qm (cb (i4 av bq br) au) with C5|C5
     .exact .inl C5
     .rw[C5] at ew;exact .inr (.inl ew)
   .refine PH c0 rA (.inr fun w z aE=>D7 cy w z fun q=>a9 ⟨q.2.2.2,q.2.2.1,?_⟩);rw[←q.1];exact aE
 |true=>
  have Dm:=ew;rw[Jn] at Dm;refine b5 Dm fun dE dX=>?_;refine b5 dX fun dX gp=>?_;refine b5 gp fun gp iU=>?_;refine b5 iU fun iU lm=>?_;refine b5 lm fun lm rj=>?_;rw[km] at dE dX gp lm;subst dX;subst gp;have rC:∀w z,(w=av∧z=aw)∨bn 4 (jM (bA n b s t wy ca e) w z) (.tup (a6 (gH false aw) (fP (cA n) (aZ b) (dI false (e.at_ av aw)))))=false:=fun w z=>by
   by_cases c:w=av∧z=aw
   .exact .inl c
   .exact .inr (D7 cy w z fun q=>c ⟨q.1,q.2.1⟩)
  have DT:cb (d7 av (gk (bA n b s t wy ca e) false bq) (gk (bA n b s t wy ca e) true br)).kM au=false:=by rw[ue];exact lm
  refine T2 ew ?_;have pass:∀z,z=kh au (aZ b)→(b&&(mg Y||decide (Y=18)))=false→Ev (K (2-a4 aw) (xc av bq z) (xd av br z) ak f1):=fun z hz az=>by
   refine k _ _ _ _ _ fn ?_;have k3:cb 0 (2-a4 aw)=true:=by cases aw<;>rfl
   rw[k3];dsimp only;refine kR (yW c0 rj) fun n4 iJ Zi U=>?_;have cW:=agr (su:=bA n b s t wy ca e) (ai:=ai) (i:=gH false aw) (fn:=fn) (g:=e.at_ av (!aw)) c0 hd hf rA (by have:=cy.y9 false av (!aw);exact this) dE iU zV rC DT rj az A4.2 (by rw[ue];exact OV);rw[ue,Pb] at cW;have aW:hV n b L (X-1) W Y S ai cut (n9 e s t av aw (dI false (e.at_ av aw)))=A:=by rw[←ru];unfold fz kX;rw[Zi,rQ U]
   rw[aW] at cW;have aJ:(r5 av (gk (bA n b s t wy ca e) false bq) (gk (bA n b s t wy ca e) true br) (kh au (aZ b)))=(gk (bA n b s t wy ca e) false (xc av bq z),gk (bA n b s t wy ca e) true (xd av br z)):=by rw[hz];clear ru rA gp k ew Dm dX rC DT cW aW;cases av<;>rfl
   rw[aJ] at cW;exact cW
  clear ru
  induction b using eo with
  |false=>refine eb rfl (pass _ rfl rfl)
  |true=>
   refine cw rfl (dQ (fun gV=>?_) fun gV=>dQ (fun Dj=>?_) fun Dj=>pass _ rfl ?_)
   .exact k (-1) bq br (sh av ak false) (si av f1 false) _ (agq c0 hd hf rA dE iU zV rC DT rfl rj gV)
   .refine k (-1) bq br ak f1 fn ?_;exact PI c0 hd hf rA dE iU zV rC (.inr (.inr ⟨rfl,gV,of_decide_eq_true Dj⟩))
   .have gV:mg Y=false:=gV;rw[gV,Dj];rfl
theorem agG {a c d:V}{K:List V→Prop}:lT (.tup [a,c,d]) H 3 K=K [a,c,d]:=rfl
theorem turn (cy:mO n e)(bl:0≤num)(R:num≤100)(ar:xs.length≤900)
 (k:∀(EN cX dS:Int) (bw ba:Bool) (ge:Nat) (uH uI uJ uK uL uG:V) (G:List an),Ev (hs .next (hG num uH uI uJ uK uL uG) (cH xs (bA n b s t wy ca e) (nP (bA n b s t wy ca e) cX dS bw ba ge) EN cX dS bw ba (x::y::G)))):
 Ev (b4 (bh aT (m+12)) aP fj (hG num v5 v6 v7 v8 v9 v10) (cH xs (bA n b s t wy ca e) (nP (bA n b s t wy ca e) bq br ak f1 fn) au bq br ak f1 [x,y]) hs):=by
 have az:=lY.mpr ar;refine aK (gm 1 fj _ _ _) ?_;rw[afP];refine VH ?_;refine aK (afO (m:=m+11)) ?_;refine jm (.inr (by decide)) (cw ?_ (jm (.inr (by decide)) (cw ?_ ?_)))
 .rw[qz (by lia),rQ (by lia),az];rfl
 .rw[qz (by lia),rQ (by lia),az];rfl
 refine VM (m:=m+9) fun av aw ah cc L ai cut X step Y W S rF hf c0 hd=>?_;refine aK fi ?_;refine aK (gm 1 (cn 1 fj) _ _ _) ?_;refine aK afQ ?_;refine aK fi ?_;rw[TV];refine aK (gm 1 (cn 2 fj) _ _ _) ?_;refine aK afR ?_;refine VP (m:=m+6) rF hf hd ?_;refine aK agG ?_;refine aK fi ?_;rw[TW];refine aK (gm 1 (cn 3 fj) _ _ _) ?_;refine aK afS ?_;refine VL (m:=m+11) ?_;refine T5 (n:=n) (b:=b) (s:=s) (t:=t) (wy:=wy) (ca:=ca) (ai:=ai) (fn:=fn) (au:=au+step) (K:=fun r iB ox K4 K5=>gi (b4 (bh aT (m+12)) aP (cn 1 (cn 3 fj))) hs .next (hG num (.ref 19) (.bytes (cq n b L X W Y S ai cut (dI cc (e.at_ av aw)) (dI cc (e.at_ av aw))))
  (.bytes (fz n b L (kX X) W Y S ai cut (dF n W) (n9 e s t av aw (dI cc (e.at_ av aw))) (dI cc (e.at_ av aw)))) (.bool (dF n W)) (.int r) v10)
  (cH xs (bA n b s t wy ca e) (nP (bA n b s t wy ca e) bq br ak f1 fn) (au+step) iB ox K4 K5 [x,y,.ints [qc xs (2+2*num+0),qc xs (2+2*num+1)],kK (bA n b s t wy ca e) av aw ah cc X step,dK 21 (h8 Y L W ai cut),.ints S]))
  cy rF hf c0 hd rfl rfl fun r iB ox K4 K5 ge cW=>?_
 refine aK fi ?_;rw[TX];exact agA cy rF c0 rfl cW fun a1 a2 a3 s8 Cp Cq G=>k _ _ _ _ _ _ a1 a2 a3 s8 Cp Cq G
end
theorem Wq {f:V→List V→List an→dM→Prop}{st:List an→(List V→Prop)→Prop}{K:dM}(aM iT:List V→List an→Prop)
 (step:∀v loc H,v∈vs→aM loc H→∀hs:dM,(∀ef bp,iT ef bp→Ev (hs .next ef bp))→Ev (f v loc H hs))
 (gY:∀loc H,iT loc H→∀P:List V→List an→Prop,(∀ef bp,aM ef bp→Ev (P ef bp))→Ev (trunc m loc H P))(hu:∀H (P:List V→Prop),Ev (P vs)→Ev (st H P))
 (fin:∀loc H,aM loc H→Ev (K .next loc H)):∀n i loc H,aM loc H→i≤vs.length→vs.length<n+i→Ev (iy m f st n i vs loc H K):=fun n=>by
 induction n with
 |zero=>intro i loc H _ R Z;omega
 |succ n aF=>
  intro i loc H ab R Z;unfold iy;cases e:vs[i]? with
  |none=>exact fin loc H ab
  |some v=>refine step v loc H (List.mem_of_getElem? e) ab _ fun ef bp vT=>?_;refine gY _ _ vT _ fun m8 be zh=>hu _ _ ?_;have:=(List.getElem?_eq_some_iff.mp e).1;exact aF (i+1) m8 be zh (by omega) (by omega)
section
variable {fn:Nat}{xs:List Int}{e:fy}{n s t:Bool}{x y:an}{K:dM}
noncomputable def Df:ff→aG
 |.cons (.hN _ bX _) _=>bX
 |_=>.none
inductive sP (xs:List Int)(n b s t:Bool)(wy ca:Int)(e:fy)(G:List an):List V→List an→Prop
 |mk (au bq br:Int) (ak f1:Bool) (fn:Nat) (xp v5 v6 v7 v8 v9 v10:V):sP xs n b s t wy ca e G [.ref 0,.ref 1,.ref 2,.ref 15,xp,v5,v6,v7,v8,v9,v10] (cH xs (bA n b s t wy ca e) (nP (bA n b s t wy ca e) bq br ak f1 fn) au bq br ak f1 G)
inductive Behind (xs:List Int)(n b s t:Bool)(wy ca:Int)(e:fy)(x y:an):List V→List an→Prop
 |mk (num:Int) (G:List an) (au bq br:Int) (ak f1:Bool) (fn:Nat) (v5 v6 v7 v8 v9 v10:V):Behind xs n b s t wy ca e x y (hG num v5 v6 v7 v8 v9 v10) (cH xs (bA n b s t wy ca e) (nP (bA n b s t wy ca e) bq br ak f1 fn) au bq br ak f1 (x::y::G))
theorem agp {t1 aa:c7}{G:List an}{P:List V→List an→Prop}(aR:hR (fun l=>dT l 18) x=true)(cu:hR (fun l=>dT l 18) y=true):
 trunc 18 (.ref 0::.ref 1::.ref 2::.ref 15::.int num::loc) (cH xs su (bu t1 aa (bW ak f1 bw ba bL bS) fn) au bq br ak f1 (x::y::G)) P=
  P (.ref 0::.ref 1::.ref 2::.ref 15::.int num::loc.map (kz 18)) (cH xs su (bu t1 aa (bW ak f1 bw ba bL bS) fn) au bq br ak f1 [x,y]):=by
 have aW:((cH xs su (bu t1 aa (bW ak f1 bw ba bL bS) fn) au bq br ak f1 (x::y::G)).take 18).all (hR fun l=>dT l 18)=(hR (fun l=>dT l 18) x&&(hR (fun l=>dT l 18) y&&true)):=by revert ak f1;exact @all2 _ _ _ (by kernel_rfl)
 unfold trunc;rw[aW,aR,cu];rfl
theorem Wv:fB 1 (cn 4 jf.body)=.cons (.hN 4 (Df (cn 4 jf.body)) fj) .nil:=by kernel_rfl
theorem agM {G:Nat→Option V}{K:dM}:b4 C G .nil loc H K=K .next loc H:=rfl
theorem Ws {G:Nat→Option V}{i:Nat}{bX:aG}{a:ff}{K:dM}:b4 C G (.cons (.hN i bX a) .nil) loc H K=
 qW C G loc bX (cG C G loc bX) H fun ag vs aq=>iy aq.length (fun v loc H K=>b4 C G a (loc.set i v) H K) (hk ag vs aq) (vs.length+1) 0 vs loc aq (gi (b4 C G .nil) K):=rfl
theorem Wu {H8:V→List V→List an→Prop}:qW C aP (.ref 0::loc) (Df (cn 4 jf.body)) (cG C aP (.ref 0::loc) (Df (cn 4 jf.body))) (.d6 xs::H) H8=
 cY (xs.length<2^63) (ao (my 0 (6+nc 4 (xs.length/8)) 1) (H8 .none ((eQ 0 (6+nc 4 (xs.length/8)) 1).map V.int) (.d6 xs::H)) False):=by kernel_rfl
theorem acO {n:Int}(aL:n≤4)(h:v∈(eQ 0 (6+n) 1).map V.int):∃num:Int,v=V.int num∧0≤num∧num≤100:=by refine dq (List.mem_map.mp h) fun z bT=>b8 bT fun hz b9=>dq (List.mem_map.mp hz) fun j bT=>b8 bT fun co eN=>?_;have:=List.mem_range.mp co;exact⟨z,b9.symm,by omega,by omega⟩
theorem min_le {k:Nat}:0≤nc 4 (k/8)∧nc 4 (k/8)≤4:=by rw[Eu];omega
theorem abV (cy:mO n e)(ar:xs.length≤900)(cp:∃num:Int,v=V.int num∧0≤num∧num≤100)(ab:sP xs n b s t wy ca e [x,y] loc H)(m7:∀ef bp,Behind xs n b s t wy ca e x y ef bp→Ev (K .next ef bp)):
 Ev (b4 (bh aT (m+12)) aP fj (loc.set 4 v) H K):=by
 induction ab with
 |mk au bq br ak f1 fn s8 Cp Cq Rc Rd Rf Rb=>refine cp.elim fun num q=>?_;rw[q.1];exact turn (v5:=Cp) (v6:=Cq) (v7:=Rc) (v8:=Rd) (v9:=Rf) (v10:=Rb) cy q.2.1 q.2.2 ar fun EN cX dS bw ba ge uH uI uJ uK uL uG G=>m7 _ _ (.mk num G EN cX dS bw ba ge uH uI uJ uK uL uG)
theorem Tn (aR:hR (fun l=>dT l 18) x=true)(cu:hR (fun l=>dT l 18) y=true)(h:Behind xs n b s t wy ca e x y loc H){P:List V→List an→Prop}(a8:∀ef bp,sP xs n b s t wy ca e [x,y] ef bp→Ev (P ef bp)):Ev (trunc 18 loc H P):=by
 induction h with
 |mk num G au bq br ak f1 fn uH uI uJ uK uL uG=>exact aK (agp aR cu) (a8 _ _ (.mk au bq br ak f1 fn _ _ _ _ _ _ _))
theorem Wr (bl:H.length=18)(R:H=.d6 xs::H.tail)(ar:xs.length≤900)(k:Ev (iy 18 (fun v loc H K=>b4 C aP fj (loc.set 4 v) H K) (hk .none ((eQ 0 (6+nc 4 (xs.length/8)) 1).map V.int) H) (((eQ 0 (6+nc 4 (xs.length/8)) 1).map V.int).length+1) 0 ((eQ 0 (6+nc 4 (xs.length/8)) 1).map V.int) (.ref 0::loc) H (gi (b4 C aP .nil) K))):
 Ev (b4 C aP (fB 1 (cn 4 jf.body)) (.ref 0::loc) H K):=by
 rw[Wv];refine aK Ws ?_;generalize H.tail=aha at R;subst R;refine aK Wu (jm (by omega) (cw ?_ ?_))
 .have hm:=min_le (k:=xs.length);simp only[my,jr,fJ,decide_eq_true_eq];omega
 .rw[bl];exact k
theorem loop (cy:mO n e)(ar:xs.length≤900)(aR:hR (fun l=>dT l 18) x=true)(cu:hR (fun l=>dT l 18) y=true)(ab:sP xs n b s t wy ca e [x,y] loc H)
 (k:∀loc H,sP xs n b s t wy ca e [x,y] loc H→Ev (K .next loc H)):Ev (b4 (bh aT (m+12)) aP (fB 1 (cn 4 jf.body)) loc H K):=by
 induction ab with
 |mk au bq br ak f1 fn xp v5 v6 v7 v8 v9 v10=>refine Wr (by kernel_rfl) (by kernel_rfl) ar ?_;exact Wq (f:=fun v loc H K=>b4 (bh aT (m+12)) aP fj (loc.set 4 v) H K) (sP xs n b s t wy ca e [x,y]) (Behind xs n b s t wy ca e x y) (fun v loc H cp ab hs m7=>abV cy ar (acO min_le.2 cp) ab m7) (fun loc H h P a8=>Tn aR cu h a8) (fun _ P a8=>a8) (fun loc H h=>aK fi (aK agM (k loc H h))) _ 0 _ _ (.mk au bq br ak f1 fn xp v5 v6 v7 v8 v9 v10) (jz _) (jy _)
end
def mS (w y:Bool)(ca:Int)(a b c d e g:V):List V:=[.ref 0,.ref 1,.int (a4 w),.int (a4 y),.int ca,a,b,c,d,e,g]
def dU (su:fg)(cC:er):List an:=[gy su]++dB 1 cC
def kQ (su:fg)(cC:er)(sx:ji)(ins:List Int)(av aw:Bool)(c9 T U N ae:Int)(d:List Int)(i o:Int):List an:=dU su cC++([.ints [],dK 12 sx,.ints ins]++(sV 15 T U N ae d i o++
 [.dict [] 0,.dict (oD xa [.ref 15,.int 1000,.str (a7 "input"),Py av,.int c9,.int (a4 aw),.ref 1,.ref 23,.ref 24,.ref 20,.ref 25,.ref 26,.ref 27,.ref 28,.str (a7 "little"),.ref 29,.ref 30,.none,.ref 31]) 19,.inst 21,
  .dict [] 0,.dict [] 0,.dict [] 0,.dict [] 0,.dict [] 0,.dict [] 0,.ints [],.ints [],.dict [] 0,.dict [(.int 11,.int 4),(.int 13,.int 8)] 2]))
def ks:V:=.tup [.str (a7 "break"),.str (a7 "")]
def yI (nf pr:Int)(p:dv)(L:Bool)(aH:Int)(aG:ji→List Int→List Int→Prop):Prop:=
 ao ((decide (nf=2)||decide (nf=10))&&(iA pr&&hv [])) (ao (sB nf pr 64 p 0 L (i8 nf pr p aH [] false false)) (aG (aH,L,0,(),false,false,()) (i8 nf pr p aH [] false false) (mF nf pr 64 p 0 L (i8 nf pr p aH [] false false))) False) False
def p1 (w:Bool)(t1 aa:c7)(aH:List (V×V))(fn:Nat)(st ho:Int):er:=match w with
 |false=>bu (wO t1.r3 t1.rep t1.kM st ho) aa aH fn
 |true=>bu t1 (wO aa.r3 aa.rep aa.kM st ho) aH fn
def yN (ca:Int)(aG:Int→Prop):Prop:=ao (decide (ca=14)) (aG 4) (aG 3)
def CD (ca:Int)(aG:Int→Int→Prop):Prop:=ao (bn 4 (.int 11) (.int ca)) (yN ca (aG 4)) (ao (bn 4 (.int 13) (.int ca)) (yN ca (aG 8)) (yN ca (aG 0)))
def IX (ca:Int)(aG:Int→Int→Int→Prop):Prop:=ao (decide (ca=12)) (CD ca (aG 8)) (CD ca (aG 2))
def Cr (aH:Int)(B G:Prop):Prop:=ao (cb 0 aH) (ao (!decide (Builtin.bitAnd aH 5=0)) B G) (ao (!cb 0 aH) B G)
def yS (U N cL ho:Int)(d:List Int)(B G:Prop):Prop:=ao (decide (U=6)) (ao (cb 0 N&&ltI N 1000) (ao (decide (ho=3))
 (ao (!decide (Builtin.bitAnd cL 4=0)) (Cr (gd N d) B G) (ao (!!decide (Builtin.bitAnd cL 4=0)) B G)) (ao (decide (ho=3)) (Cr (gd N d) B G) (ao (!decide (ho=3)) B G))) False) (ao (!decide (U=17)) B G)
def wN (n:Bool)(U N st cL ho:Int)(d:List Int)(B G:Prop):Prop:=ao (!decide (st=2)) B (ao (decide (Builtin.bitAnd cL 8=0)) B (match n with|true=>ao (!decide (N=20)) B (yS U N cL ho d B G)|false=>yS U N cL ho d B G))
section
variable {fn:Nat}{cL U N ae:Int}{s t:Bool}{e:fy}{t1 aa:c7}{aH:List (V×V)}{d:List Int}{p:V}{a1 a2:ej}
theorem UM:∀n w y:Bool,b4 (bh aT (m+8)) aP (fB 3 kO.body) (mS w y ca .aQ .aQ .aQ .aQ .aQ .aQ) (dU (cA n,pr,s,t,wy,cz,e,()) cC) K'=
 ao (decide (ca=15)) (yI (cA n) pr (e.at_ w y) (decide (ca=10)) 17 fun sx ins d=>K' .next (mS w y ca (.ref 13) (rh nh (e.at_ w y)) (.bytes d) .aQ .aQ .aQ) (dU (cA n,pr,s,t,wy,cz,e,()) cC++[.ints [],dK 12 sx,.ints ins]))
  (yI (cA n) pr (e.at_ w y) (decide (ca=10)) 16 fun sx ins d=>K' .next (mS w y ca (.ref 13) (rh nh (e.at_ w y)) (.bytes d) .aQ .aQ .aQ) (dU (cA n,pr,s,t,wy,cz,e,()) cC++[.ints [],dK 12 sx,.ints ins])):=oU (by kernel_rfl)
theorem UN:∀n w y:Bool,b4 (bh aT (m+8)) aP (fB 10 (cn 3 kO.body)) (mS w y ca (.ref 13) p (.bytes d) .aQ .aQ .aQ) (dU (cA n,pr,s,t,wy,cz,e,()) (bu t1 aa aH fn)++[.ints [],dK 12 sx,.ints ins]) K'=
 w5 n d fun U N ae=>IX ca fun st rp ho=>K' .next (mS w y ca (.ref 13) p (.bytes d) (.ref 22) (.int (d7 w t1 aa).cL) .aQ) (kQ (cA n,pr,s,t,wy,cz,e,()) (p1 w t1 aa aH fn ((d7 w t1 aa).cL-rp) ho) sx ins w y st (cE n) U N ae d (1+a4 y) (2-a4 y)):=oU (by kernel_rfl)
theorem JC:∀n y:Bool,b4 (bh aT (m+8)) aP (cn 13 kO.body) (mS false y ca (.ref 13) p (.bytes d) (.ref 22) (.int cL) .aQ) (kQ su (bu t1 aa (bW false false (a6 1 dw) (a6 2 a1) (a6 1 a2) (a6 2 a3)) fn) sx ins false y st (cE n) U N ae d (1+a4 y) (2-a4 y)) (e2 K)=
 wN n U N st t1.cL t1.state d (K ks (kQ su (p1 false t1 aa [] fn cL 3) sx ins false y st (cE n) U N ae d (1+a4 y) (2-a4 y)))
  (px (.tup (a6 1 t1.r3)) (val 1 0 2) [] fun C4 dP=>px (.tup (a6 2 t1.rep)) (val 1 1 1) C4 fun vJ ku=>K .none (kQ su (p1 false t1 aa vJ (fn+dP+ku) cL 3) sx ins false y st (cE n) U N ae d (1+a4 y) (2-a4 y))):=all2 (by kernel_rfl)
end
theorem OM:∀{es:List (V×V)} {bg:List (V×V)→Nat→Prop},(∀e∈es,bn 4 e.1 k=false)→Ev (bg (es++[(k,v)]) 1)→Ev (oo k v es bg)
 | [],_,_,h=>h
 |(eA,lU)::r,bg,aL,h=>eb (aL _ List.mem_cons_self) (OM (bg:=fun es=>bg ((eA,lU)::es)) (fun e he=>aL e (List.mem_cons_of_mem _ he)) h)
theorem AM {bg:List (V×V)→Nat→Prop}(aB:(bU 4 k&&de es.length 1000)=true)(aL:∀e∈es,bn 4 e.1 k=false)(h:Ev (bg (es++[(k,v)]) 1)):Ev (px k v es bg):=cw aB (OM aL h)
section
variable {fn:Nat}{cL U N ae:Int}{t1 aa:c7}{aH:List (V×V)}{d:List Int}{p:V}{a1 a2:ej}
theorem UO:∀n y:Bool,b4 (bh aT (m+8)) aP (cn 13 kO.body) (mS true y ca (.ref 13) p (.bytes d) (.ref 22) (.int cL) .aQ) (kQ su (bu t1 aa (bW true false (a6 1 dw) (a6 2 a1) (a6 1 a2) (a6 2 a3)) fn) sx ins true y st (cE n) U N ae d (1+a4 y) (2-a4 y)) (e2 K)=
 wN n U N st aa.cL aa.state d (K ks (kQ su (p1 true t1 aa (bW true false (a6 1 dw) (a6 2 a1) (a6 1 a2) (a6 2 a3)) fn cL 3) sx ins true y st (cE n) U N ae d (1+a4 y) (2-a4 y)))
  (px (.tup (a6 1 aa.r3)) (val 2 0 2) (bW true false (a6 1 dw) (a6 2 a1) (a6 1 a2) (a6 2 a3)) fun C4 dP=>px (.tup (a6 2 aa.rep)) (val 2 1 1) C4 fun vJ ku=>K .none (kQ su (p1 true t1 aa vJ (fn+dP+ku) cL 3) sx ins true y st (cE n) U N ae d (1+a4 y) (2-a4 y))):=all2 (by kernel_rfl)
theorem UP:∀n y:Bool,b4 (bh aT (m+8)) aP (cn 13 kO.body) (mS false y ca (.ref 13) p (.bytes d) (.ref 22) (.int cL) .aQ) (kQ su (bu t1 aa (bW true true (a6 1 dw) (a6 2 a1) (a6 1 a2) (a6 2 a3)) fn) sx ins false y st (cE n) U N ae d (1+a4 y) (2-a4 y)) (e2 K)=
 wN n U N st t1.cL t1.state d (K ks (kQ su (p1 false t1 aa (bW true true (a6 1 dw) (a6 2 a1) (a6 1 a2) (a6 2 a3)) fn cL 3) sx ins false y st (cE n) U N ae d (1+a4 y) (2-a4 y)))
  (K ks (kQ su (p1 false t1 aa (bW true true (a6 1 dw) (a6 2 a1) (a6 1 a2) (a6 2 a3)) fn cL 3) sx ins false y st (cE n) U N ae d (1+a4 y) (2-a4 y))):=all2 (by kernel_rfl)
end
noncomputable def oi (b:Bool)(x y:Int):Int:=match b with|true=>x|false=>y
def ts (ca:Int):Int:=oi (decide (ca=15)) 17 16
def stC (ca:Int):Int:=oi (decide (ca=12)) 8 2
def vB (ca:Int):Int:=oi (decide (11=ca)) 4 (oi (decide (13=ca)) 8 0)
def uD (ca:Int):Int:=oi (decide (ca=14)) 4 3
def vQ (n b L:Bool)(st cL ho aH:Int):Bool:=decide (st=2)&&(!decide (Builtin.bitAnd cL 8=0)&&(!(n&&L)&&(!b||(decide (ho=3)&&(!decide (Builtin.bitAnd cL 4=0)&&(cb 0 aH&&decide (Builtin.bitAnd aH 5=0)))))))
noncomputable def mD (n b:Bool)(ca:Int):Bool:=(decide (ca=12)||decide (13=ca))||((b&&(decide (11=ca)||(decide (ca=14)||decide (ca=15))))||(n&&decide (ca=10)))
theorem Di (n b s t av:Bool):vQ n b (decide (ca=10)) (stC ca) (FX av s t-vB ca) (uD ca) (ts ca)= !mD n b ca:=by
 have key:∀kI lP nj lQ mu mv:Bool,(lP&&lQ)=false→vQ n b kI (oi nj 8 2) (FX av s t-oi lP 4 (oi lQ 8 0)) (oi mu 4 3) (oi mv 17 16)= !((nj||lQ)||((b&&(lP||(mu||mv)))||(n&&kI))):=by revert n b s t av;decide+kernel
 refine key _ _ _ _ _ _ ?_
 by_cases h:11=ca
 .rw[decide_eq_false (show¬13=ca by lia),jd]
 .rw[decide_eq_false h,oG]
section
variable {n cut:Bool}{cL ho:Int}{d:List Int}{p:dv}{B:Prop}
theorem Ag (Ko:b=true→gd (hQ n L) d=Y)(az:vQ n b L st cL ho Y=false→Ev B)(b6:vQ n b L st cL ho Y=true→Ev G):Ev (wN n (aZ b) (hQ n L) st cL ho d B G):=by
 unfold vQ at az b6;unfold wN;refine dQ (fun aW=>?_) fun aW=>?_
 .rw[km] at aW;rw[aW] at az;exact az rfl
 rw[uR] at aW;rw[aW] at az b6;refine dQ (fun aJ=>?_) fun aJ=>?_
 .rw[aJ] at az;exact az rfl
 rw[aJ] at az b6;have Jb:((n&&L)=false)→Ev (yS (aZ b) (hQ n L) cL ho d B G):=fun XQ=>by
  rw[XQ] at az b6;unfold yS Cr
  induction b using eo with
  |false=>exact eb rfl (eb rfl (b6 rfl))
  |true=>
   rw[Ko rfl];refine cw rfl (cw (by cases n<;>cases L<;>rfl) (dQ (fun cJ=>?_) fun cJ=>?_))
   .rw[cJ] at az b6;refine dQ (fun eV=>?_) fun eV=>?_
    .rw[eV] at az b6;refine dQ (fun iW=>?_) fun iW=>?_
     .rw[iW] at az b6;refine dQ (fun kv=>?_) fun kv=>?_
      .rw[km] at kv;rw[kv] at az;exact az rfl
      .rw[uR] at kv;rw[kv] at b6;exact b6 rfl
     .rw[iW] at az;exact cw (by rw[iW];rfl) (az rfl)
    .rw[eV] at az;exact cw (by rw[eV];rfl) (az rfl)
   .rw[cJ] at az;exact eb cJ (cw (by rw[cJ];rfl) (az rfl))
 induction n using eo with
 |false=>exact Jb rfl
 |true=>
  clear Ko b6
  induction L using eo with
  |false=>exact eb rfl (Jb rfl)
  |true=>exact cw rfl (az rfl)
end
section
variable {fn:Nat}{n s t w y:Bool}{e:fy}{t1 aa:c7}{aH:List (V×V)}
theorem IF {p:dv}{aG:ji→List Int→List Int→Prop}(hf:ka f)(h:∀sx ins,Ev (aG sx ins (cq n b L 64 0 f [] false false p p))):Ev (yI (cA n) (aZ b) p L f aG):=by unfold yI;exact cw (by rw[wA];clear h;cases n<;>rfl) (cw (Bj rfl hf (by lia)) (h _ _))
theorem SK {aG:Int→Int→Int→Prop}(h:Ev (aG (stC ca) (vB ca) (uD ca))):Ev (IX ca aG):=by
 have bv:∀j0:Int→Prop,Ev (j0 (uD ca))→Ev (yN ca j0):=fun j0 dd=>by unfold uD at dd;refine dQ (fun e=>?_) fun e=>?_<;>(rw[e] at dd;exact dd)
 have Z:∀j0:Int→Int→Prop,Ev (j0 (vB ca) (uD ca))→Ev (CD ca j0):=fun j0 dd=>by
  unfold vB at dd;refine dQ (fun e=>?_) fun e=>?_
  .have e:decide (11=ca)=true:=e;rw[e] at dd;exact bv _ dd
  .have e:decide (11=ca)=false:=e;rw[e] at dd;refine dQ (fun e=>?_) fun e=>?_
   .have e:decide (13=ca)=true:=e;rw[e] at dd;exact bv _ dd
   .have e:decide (13=ca)=false:=e;rw[e] at dd;exact bv _ dd
 unfold stC at h;refine dQ (fun e=>?_) fun e=>?_<;>(rw[e] at h;exact Z _ h)
abbrev Cm (n b:Bool)(ca:Int)(p:dv):List Int:=cq n b (decide (ca=10)) 64 0 (ts ca) [] false false p p
theorem yK (k:∀sx ins ae,Ev (b4 (bh aT (m+8)) aP (cn 13 kO.body) (mS w y ca (.ref 13) (rh nh (e.at_ w y)) (.bytes (Cm n b ca (e.at_ w y))) (.ref 22) (.int (d7 w t1 aa).cL) .aQ)
 (kQ (bA n b s t wy cz e) (p1 w t1 aa aH fn ((d7 w t1 aa).cL-vB ca) (uD ca)) sx ins w y (stC ca) (cE n) (aZ b) (hQ n (decide (ca=10))) ae (Cm n b ca (e.at_ w y)) (1+a4 y) (2-a4 y)) (e2 K))):
 Ev (cR (bh aT (m+8)) aP kO [.ref 0,.ref 1,.int (a4 w),.int (a4 y),.int ca] (dU (bA n b s t wy cz e) (bu t1 aa aH fn)) K):=by
 refine aK (qO (loc:=mS w y ca .aQ .aQ .aQ .aQ .aQ .aQ) rfl (by kernel_rfl)) ?_;refine aK (gm 3 _ _ _ _) ?_;have m2:∀f,f=ts ca→∀sx ins,Ev (gi (b4 (bh aT (m+8)) aP (cn 3 kO.body)) (e2 K) .next (mS w y ca (.ref 13) (rh nh (e.at_ w y)) (.bytes (cq n b (decide (ca=10)) 64 0 f [] false false (e.at_ w y) (e.at_ w y))) .aQ .aQ .aQ) (dU (bA n b s t wy cz e) (bu t1 aa aH fn)++[.ints [],dK 12 sx,.ints ins])):=fun f hf sx ins=>by
  subst hf;refine aK fi ?_;refine aK (gm 10 _ _ _ _) ?_;refine aK (UN n w y) ?_;refine Oa n b _ _ _ (.head _) _ (SK ?_);refine aK fi ?_;have hL:cn 10 (cn 3 kO.body)=cn 13 kO.body:=by kernel_rfl
  rw[hL];have ij:dF n 0=false:=by clear k;cases n<;>rfl
  rw[ij];exact k sx ins _
 refine aK (UM n w y) ?_;refine dQ (fun CX=>?_) fun CX=>?_
 .exact IF (by unfold ka;decide) (m2 17 (by unfold ts;rw[CX];rfl))
 .exact IF (by unfold ka;decide) (m2 16 (by unfold ts;rw[CX];rfl))
end
noncomputable def mx:List Nat:=[0,1,2,3,4,5,6,7,8,9,10,11]
section
variable {t1 aa:c7}{fn:Nat}{x z T U N ae i o:Int}{d:List Int}{G:List an}
theorem Rp:∀ak f1:Bool,reach (dU su (bu t1 aa (bW ak f1 bw ba bL bS) fn)++G) 300 (kJ [.ref 0,.ref 1,.int x,.int z,.int ca]) []=mx:=all2 (by kernel_rfl)
theorem Ro:∀ak f1:Bool,(i3 mx&&iM (eW mx) [.ref 0,.ref 1,.int x,.int z,.int ca]&&mx.all (lK (eW mx) (dU su (bu t1 aa (bW ak f1 bw ba bL bS) fn)++G)))=true:=all2 (by kernel_rfl)
theorem Rn:∀ak f1:Bool,(mx.map fun l=>jQ (iN mx) (j5 (dU su (bu t1 aa (bW ak f1 bw ba bL bS) fn)++G) l))=dU su (bu t1 aa (bW ak f1 bw ba bL bS) fn):=all2 (by kernel_rfl)
theorem Cs:∀ak f1 w y:Bool,iq mx (dU su (bu t1 aa (bW ak f1 bw ba bL bS) fn)++G) ks (kQ su (bu gL gM (bW ak f1 bw ba bL bS) ge) sx ins w y st T U N ae d i o) K=K ks (dU su (bu gL gM (bW ak f1 bw ba bL bS) ge)++G++[]):=l7 (by kernel_rfl)
theorem Rl (y:Bool):iq mx (dU su (bu t1 aa (bW false false bw ba bL bS) fn)++G) .none (kQ su (bu gL gM (bW true false bw ba bL bS) ge) sx ins false y st T U N ae d i o) K=K .none (dU su (bu gL gM (bW true false bw ba bL bS) ge)++G++[]):=by kernel_rfl
theorem Rm (y:Bool):iq mx (dU su (bu t1 aa (bW true false bw ba bL bS) fn)++G) .none (kQ su (bu gL gM (bW true true bw ba bL bS) ge) sx ins true y st T U N ae d i o) K=K .none (dU su (bu gL gM (bW true true bw ba bL bS) ge)++G++[]):=by kernel_rfl
end
section
variable {fn:Nat}{n s t w y:Bool}{e:fy}{G:List an}
abbrev iE (n b s t:Bool)(wy cz:Int)(e:fy)(ak f1:Bool)(fn:Nat):er:=nP (bA n b s t wy cz e) 5000 5000 ak f1 fn
theorem yJ (am:Ev (cR (bh aT (m+8)) aP kO [.ref 0,.ref 1,.int (a4 w),.int (a4 y),.int ca] (dU (bA n b s t wy cz e) (iE n b s t wy cz e ak f1 fn)) (fun r aq=>iq mx (dU (bA n b s t wy cz e) (iE n b s t wy cz e ak f1 fn)++G) r aq K))):
 Ev (bh aT (m+9) mn [.ref 0,.ref 1,.int (a4 w),.int (a4 y),.int ca] (dU (bA n b s t wy cz e) (iE n b s t wy cz e ak f1 fn)++G) K):=
 m0 (n:=m+8) (r:=0) (bg:=kO) (sel:=mx) (vs0:=[.ref 0,.ref 1,.int (a4 w),.int (a4 y),.int ca]) (by kernel_rfl) rfl (Rp ak f1) (Ro ak f1) (by kernel_rfl) (Rn ak f1) am
theorem zc {p:dv}(az:b=true):gd (hQ n (decide (ca=10))) (Cm n b ca p)=ts ca:=by subst az;exact Db n _ false rfl
theorem IE (cp:mD n b ca=false)(k:Ev (K .none (dU (bA n b s t wy cz e) (iE n b s t wy cz e true false 2)++G))):
 Ev (bh aT (m+9) mn [.ref 0,.ref 1,.int (a4 false),.int (a4 y),.int ca] (dU (bA n b s t wy cz e) (iE n b s t wy cz e false false 0)++G) K):=by
 refine yJ (yK fun sx ins ae=>?_);refine aK (JC n y) (Ag zc (fun h=>?_) fun h=>?_)
 .have:=(Di n b s t false (ca:=ca)).symm.trans h;rw[cp] at this;exact j9 this
 .refine AM rfl (fun e he=>nomatch he) (AM rfl (fun e he=>?_) ?_)
  .rcases List.mem_singleton.mp he with rfl
   rfl
  .exact aK (Rl y) (by rw[List.append_nil];exact k)
theorem RP (cp:mD n b ca=true)(k:Ev (K ks (dU (bA n b s t wy cz e) (iE n b s t wy cz e false false 0)++G))):
 Ev (bh aT (m+9) mn [.ref 0,.ref 1,.int (a4 false),.int (a4 y),.int ca] (dU (bA n b s t wy cz e) (iE n b s t wy cz e false false 0)++G) K):=by
 refine yJ (yK fun sx ins ae=>?_);refine aK (JC n y) (Ag zc (fun h=>?_) fun h=>?_)
 .exact aK (Cs false false false y) (by rw[List.append_nil];exact k)
 .have:=(Di n b s t false (ca:=ca)).symm.trans h;rw[cp] at this;exact dZ this
theorem PZ:mD n b 0=false:=by cases n<;>cases b<;>decide+kernel
theorem RQ (bl:dt ((bA n b s t wy cz e).tup false false)≠dt ((bA n b s t wy cz e).tup true false))(R:dt ((bA n b s t wy cz e).tup false true)≠dt ((bA n b s t wy cz e).tup true true))(k:Ev (K .none (dU (bA n b s t wy cz e) (iE n b s t wy cz e true true 4)++G))):
 Ev (bh aT (m+9) mn [.ref 0,.ref 1,.int (a4 true),.int (a4 y),.int 0] (dU (bA n b s t wy cz e) (iE n b s t wy cz e true false 2)++G) K):=by
 refine yJ (yK fun sx ins ae=>?_);refine aK (UO n y) (Ag zc (fun h=>?_) fun h=>?_)
 .have:=(Di n b s t true (ca:=0)).symm.trans h;rw[PZ] at this;exact j9 this
 .refine AM rfl (fun q a9=>?_) (AM rfl (fun q a9=>?_) ?_)
  .rcases List.mem_cons.mp a9 with rfl|a9
   .refine(Ed 1 1 ((bA n b s t wy cz e).tup false false) ((bA n b s t wy cz e).tup true false)).trans ?_;rw[decide_eq_false bl,jd]
   .rcases List.mem_singleton.mp a9 with rfl
    rfl
  .rcases List.mem_append.mp a9 with a9|a9
   .rcases List.mem_cons.mp a9 with rfl|a9
    .rfl
    .rcases List.mem_singleton.mp a9 with rfl
     refine(Ed 2 2 ((bA n b s t wy cz e).tup false true) ((bA n b s t wy cz e).tup true true)).trans ?_;rw[decide_eq_false R,jd]
   .rcases List.mem_singleton.mp a9 with rfl
    rfl
  .exact aK (Rm y) (by rw[List.append_nil];exact k)
theorem RR (k:Ev (K ks (dU (bA n b s t wy cz e) (iE n b s t wy cz e true true 4)++G))):
 Ev (bh aT (m+9) mn [.ref 0,.ref 1,.int (a4 false),.int (a4 y),.int 0] (dU (bA n b s t wy cz e) (iE n b s t wy cz e true true 4)++G) K):=by
 refine yJ (yK fun sx ins ae=>?_);exact aK (UP n y) (Ag zc (fun h=>aK (Cs true true false y) (by rw[List.append_nil];exact k)) fun h=>aK (Cs true true false y) (by rw[List.append_nil];exact k))
end
noncomputable def fS (ca wy:Int)(v:V):List V:=[.ref 0,.ref 1,.int ca,.int wy,v]
def zI:Nat:=a7 "flows"
section
variable {s t v:Bool}{e:fy}
theorem adp:b4 C aP (fB 3 jg.body) [.ref 0,.ref 1,.aQ,.aQ,.aQ] (dU (nf,pr,s,t,wy,ca,e,()) cC) K'=
 ao (decide (12=ca)||(decide (13=ca)||false)) (ao (decide (12=ca)||(decide (13=ca)||false)) (K' .next (fS ca wy (.bool (decide (12=ca)||(decide (13=ca)||false)))) (dU (nf,pr,s,t,wy,ca,e,()) cC))
  (ao (decide (ca=10)) (K' .next (fS ca wy (.bool (decide (nf=2)))) (dU (nf,pr,s,t,wy,ca,e,()) cC)) (K' .next (fS ca wy (.bool (decide (ca=10)))) (dU (nf,pr,s,t,wy,ca,e,()) cC))))
  (ao (decide (11=ca)||(decide (14=ca)||(decide (15=ca)||false)))
   (ao (decide (pr=6)) (K' .next (fS ca wy (.bool (decide (pr=6)))) (dU (nf,pr,s,t,wy,ca,e,()) cC))
    (ao (decide (ca=10)) (K' .next (fS ca wy (.bool (decide (nf=2)))) (dU (nf,pr,s,t,wy,ca,e,()) cC)) (K' .next (fS ca wy (.bool (decide (ca=10)))) (dU (nf,pr,s,t,wy,ca,e,()) cC))))
   (ao (decide (11=ca)||(decide (14=ca)||(decide (15=ca)||false))) (K' .next (fS ca wy (.bool (decide (11=ca)||(decide (14=ca)||(decide (15=ca)||false))))) (dU (nf,pr,s,t,wy,ca,e,()) cC))
    (ao (decide (ca=10)) (K' .next (fS ca wy (.bool (decide (nf=2)))) (dU (nf,pr,s,t,wy,ca,e,()) cC)) (K' .next (fS ca wy (.bool (decide (ca=10)))) (dU (nf,pr,s,t,wy,ca,e,()) cC))))):=by kernel_rfl
theorem adr:b4 C aP (fB 1 (cn 3 jg.body)) (fS ca wy (.bool v)) H K'=
 ao v (C mn [.ref 0,.ref 1,.int 0,.int wy,.int ca] H fun r aq=>lJ r ks aq fun x=>ao x (K' (.ret (.bool false)) (fS ca wy (.bool v)) aq)
  (rg (.ref 1) zI aq fun f=>lJ f (.ref aq.length) (aq++[.dict [] 0]) fun x=>ao x (K' (.ret (.bool false)) (fS ca wy (.bool v)) (aq++[.dict [] 0])) (K' .next (fS ca wy (.bool v)) (aq++[.dict [] 0]))))
  (K' .next (fS ca wy (.bool v)) H):=by kernel_rfl
theorem ads:b4 C aP (fB 1 (cn 4 jg.body)) (fS ca wy (.bool v)) H K'=
 ao (!v) (C mn [.ref 0,.ref 1,.int 0,.int wy,.int ca] H fun r aq=>jx (rI r) fun x=>ao (!x) (K' (.ret (.bool false)) (fS ca wy (.bool v)) aq) (K' .next (fS ca wy (.bool v)) aq))
  (C mn [.ref 0,.ref 1,.int 0,.int wy,.int 0] H fun r aq=>jx (rI r) fun x=>ao (!x) (K' (.ret (.bool false)) (fS ca wy (.bool v)) aq) (K' .next (fS ca wy (.bool v)) aq)):=by kernel_rfl
theorem adt:b4 C aP (fB 1 (cn 5 jg.body)) (fS ca wy (.bool v)) H K'=
 C mn [.ref 0,.ref 1,.int 1,.int (1-wy),.int 0] H fun r aq=>jx (rI r) fun x=>ao (!x) (K' (.ret (.bool false)) (fS ca wy (.bool v)) aq) (K' .next (fS ca wy (.bool v)) aq):=by kernel_rfl
theorem adu:b4 C aP (cn 6 jg.body) (fS ca wy (.bool v)) H (e2 K)=
 C mn [.ref 0,.ref 1,.int 0,.int (1-wy),.int 0] H fun r aq=>jx (e8 aq 8 r ks) fun x=>K (.bool x) aq:=by kernel_rfl
theorem Sq:e8 H 8 ks ks=E true:=by kernel_rfl
theorem aa7 {K:Bool→Prop}:lJ ks ks H K=K false:=by kernel_rfl
theorem Wg {t1 aa:c7}{fn:Nat}{aG j0:List an→Prop}:(rg (.ref 1) zI (dU su (bu t1 aa [] fn)) fun f=>lJ f (.ref (dU su (bu t1 aa [] fn)).length) (dU su (bu t1 aa [] fn)++[.dict [] 0]) fun x=>ao x (aG (dU su (bu t1 aa [] fn)++[.dict [] 0])) (j0 (dU su (bu t1 aa [] fn)++[.dict [] 0])))=j0 (dU su (bu t1 aa [] fn)++[.dict [] 0]):=by kernel_rfl
end
theorem kS:∀(i j:Nat) (s:ff),cn i (cn j s)=cn (j+i) s
 |i,0,s=>by rw[GV];rfl
 |i,j+1,.nil=>by rw[GS];cases i<;>rfl
 |i,j+1,.cons _ r=>by rw[GS];exact kS i j r
theorem EI {A B:Prop}:(jx (rI V.none) fun x=>ao (!x) A B)=B:=rfl
theorem Fv {o:Option Bool}{K:Bool→Prop}(h:o=E b):jx o K=K b:=by subst h;rfl
theorem one_sub (y:Bool):1-a4 y=a4 (!y):=by cases y<;>rfl
theorem NX (a b c:Bool):(a||(b||false))=(a||b)∧(a||(b||(c||false)))=(a||(b||c)):=by cases a<;>cases b<;>cases c<;>exact⟨rfl,rfl⟩
theorem CS {x y:Int}:decide (x=y)=decide (y=x):=decide_eq_decide.mpr ⟨xL,xL⟩
section
variable {n s t y:Bool}{e:fy}{xs:List Int}{G:List an}
theorem Zo (b:Bool):decide (aZ b=6)=b:=by cases b<;>rfl
theorem abj (n:Bool):decide (cA n=2)=n:=by cases n<;>rfl
theorem agK {aG:Bool→Prop}(h:Ev (aG (mD n b ca)))(dE:Bool→Prop):
 Ev (ao (decide (12=ca)||(decide (13=ca)||false)) (ao (decide (12=ca)||(decide (13=ca)||false)) (aG (decide (12=ca)||(decide (13=ca)||false))) (ao (decide (ca=10)) (aG (decide (cA n=2))) (aG (decide (ca=10)))))
  (ao (decide (11=ca)||(decide (14=ca)||(decide (15=ca)||false)))
   (ao (decide (aZ b=6)) (aG (decide (aZ b=6))) (ao (decide (ca=10)) (aG (decide (cA n=2))) (aG (decide (ca=10)))))
   (ao (decide (11=ca)||(decide (14=ca)||(decide (15=ca)||false))) (aG (decide (11=ca)||(decide (14=ca)||(decide (15=ca)||false)))) (ao (decide (ca=10)) (aG (decide (cA n=2))) (aG (decide (ca=10))))))):=by
 have key:∀kI lP nj lQ mu mv:Bool,Ev (aG ((nj||lQ)||((b&&(lP||(mu||mv)))||(n&&kI))))→((nj||(lQ||false))&&(b&&(lP||(mu||mv))||n&&kI))=false→(kI&&(lP||(mu||mv)))=false→
  Ev (ao (nj||(lQ||false)) (ao (nj||(lQ||false)) (aG (nj||(lQ||false))) (ao kI (aG n) (aG kI))) (ao (lP||(mu||(mv||false))) (ao b (aG b) (ao kI (aG n) (aG kI))) (ao (lP||(mu||(mv||false))) (aG (lP||(mu||(mv||false)))) (ao kI (aG n) (aG kI))))):=by
  intro kI lP nj lQ mu mv h R Z;rw[(NX nj lQ lQ).1] at R⊢;rw[(NX lP mu mv).2];generalize (lP||(mu||mv))=c at h R Z⊢;generalize (nj||lQ)=d at h R⊢;cases d
  .cases c
   .cases kI
    .have e:(false||(b&&false||n&&false))=false:=by cases b<;>cases n<;>rfl
     rw[e] at h;exact⟨h.out⟩
    .have e:(false||(b&&false||n&&true))=n:=by cases b<;>cases n<;>rfl
     rw[e] at h;exact⟨h.out⟩
   .cases kI
    .have e:(false||(b&&true||n&&false))=b:=by cases b<;>cases n<;>rfl
     rw[e] at h;clear R e;cases b
     .exact⟨h.out⟩
     .exact⟨h.out⟩
    .exact j9 Z
  .cases c<;>exact⟨h.out⟩
 rw[Zo,abj];unfold mD at h;rw[CS (x:=ca) (y:=12),CS (x:=ca) (y:=14),CS (x:=ca) (y:=15)] at h;refine key _ _ _ _ _ _ h ?_ ?_
 .by_cases ahd:12=ca∨13=ca
  .rw[decide_eq_false (show¬11=ca by lia),decide_eq_false (show¬14=ca by lia),decide_eq_false (show¬15=ca by lia),decide_eq_false (show¬ca=10 by lia)];generalize (decide (12=ca)||(decide (13=ca)||false))=c;cases c<;>cases b<;>cases n<;>rfl
  .rw[decide_eq_false (show¬12=ca by lia),decide_eq_false (show¬13=ca by lia)];rfl
 .by_cases ze:ca=10
  .rw[decide_eq_false (show¬11=ca by lia),decide_eq_false (show¬14=ca by lia),decide_eq_false (show¬15=ca by lia),uU,uU,jd]
  .rw[decide_eq_false ze,oG]
theorem RT (cy:mO n e)(k:∀G:List an,Ev (K (.bool true) (dU (bA n b s t (a4 y) ca e) (iE n b s t (a4 y) ca e true true 4)++G))):
 Ev (cR (bh aT (m+9)) aP jg [.ref 0,.ref 1] (dU (bA n b s t (a4 y) ca e) (iE n b s t (a4 y) ca e false false 0)) K):=by
 refine aK (qO (loc:=[.ref 0,.ref 1,.aQ,.aQ,.aQ]) rfl (by kernel_rfl)) ?_;refine aK (gm 3 _ _ _ _) (aK adp ?_);have acy:∀(v:Bool) (G:List an),Ev (b4 (bh aT (m+9)) aP (cn 6 jg.body) (fS ca (a4 y) (.bool v)) (dU (bA n b s t (a4 y) ca e) (iE n b s t (a4 y) ca e true true 4)++G) (e2 K)):=fun v G=>by refine aK adu ?_;rw[one_sub];refine RR ?_;refine aK (Fv Sq) ?_;exact k G
 have r7:∀(v:Bool) (G:List an),Ev (b4 (bh aT (m+9)) aP (cn 5 jg.body) (fS ca (a4 y) (.bool v)) (dU (bA n b s t (a4 y) ca e) (iE n b s t (a4 y) ca e true false 2)++G) (e2 K)):=fun v G=>by refine aK (gm 1 _ _ _ _) (aK adt ?_);rw[one_sub];refine RQ (tup_ne cy false) (tup_ne cy true) ?_;refine aK EI ?_;refine aK fi ?_;rw[kS];exact acy v G
 have qM:∀G:List an,Ev (b4 (bh aT (m+9)) aP (cn 4 jg.body) (fS ca (a4 y) (.bool (mD n b ca))) (dU (bA n b s t (a4 y) ca e) (iE n b s t (a4 y) ca e false false 0)++G) (e2 K)):=fun G=>by
  refine aK (gm 1 _ _ _ _) (aK ads (dQ (fun nV=>?_) fun nV=>?_))
  .rw[km] at nV;refine IE nV ?_;refine aK EI ?_;refine aK fi ?_;rw[kS];exact r7 _ G
  .refine IE PZ ?_;refine aK EI ?_;refine aK fi ?_;rw[kS];exact r7 _ G
 refine agK (aG:=fun v=>gi (b4 (bh aT (m+9)) aP (cn 3 jg.body)) (e2 K) .next (fS ca (a4 y) (.bool v)) (dU (bA n b s t (a4 y) ca e) (iE n b s t (a4 y) ca e false false 0))) ?_ (fun _=>True);refine aK fi (aK (gm 1 _ _ _ _) (aK adr (dQ (fun nV=>?_) fun nV=>?_)))
 .have h:=RP (m:=m) (s:=s) (t:=t) (y:=y) (wy:=a4 y) (cz:=ca) (e:=e) (G:=[]) (K:=fun r aq=>lJ r ks aq fun x=>ao x (gi (b4 (bh aT (m+9)) aP (cn 1 (cn 3 jg.body))) (e2 K) (.ret (.bool false)) (fS ca (a4 y) (.bool (mD n b ca))) aq)
   (rg (.ref 1) zI aq fun f=>lJ f (.ref aq.length) (aq++[.dict [] 0]) fun x=>ao x (gi (b4 (bh aT (m+9)) aP (cn 1 (cn 3 jg.body))) (e2 K) (.ret (.bool false)) (fS ca (a4 y) (.bool (mD n b ca))) (aq++[.dict [] 0])) (gi (b4 (bh aT (m+9)) aP (cn 1 (cn 3 jg.body))) (e2 K) .next (fS ca (a4 y) (.bool (mD n b ca))) (aq++[.dict [] 0])))) nV ?_
  .rw[List.append_nil] at h;exact h
  .rw[List.append_nil];refine aK aa7 (eb rfl ?_);refine aK (Wg (t1:=gk (bA n b s t (a4 y) ca e) false 5000) (aa:=gk (bA n b s t (a4 y) ca e) true 5000) (fn:=0)
    (aG:=fun H=>gi (b4 (bh aT (m+9)) aP (cn 1 (cn 3 jg.body))) (e2 K) (.ret (.bool false)) (fS ca (a4 y) (.bool (mD n b ca))) H)
    (j0:=fun H=>gi (b4 (bh aT (m+9)) aP (cn 1 (cn 3 jg.body))) (e2 K) .next (fS ca (a4 y) (.bool (mD n b ca))) H)) ?_
   refine aK fi ?_;rw[kS];exact qM [.dict [] 0]
 .refine aK fi ?_;rw[kS];have h:=qM [];rw[List.append_nil] at h;exact h
end
noncomputable def pw:List Nat:=[1,2,3,4,5,6,7,8,9,10,11,12]
section
variable {fn:Nat}{xs:List Int}{t1 aa:c7}{G iT:List an}
theorem Rz:∀ak f1:Bool,reach (cH xs su (bu t1 aa (bW ak f1 bw ba bL bS) fn) au bq br dy g1 iT) 300 (kJ [.ref 1,.ref 2]) []=pw:=all2 (by kernel_rfl)
theorem Ry:∀ak f1:Bool,(i3 pw&&iM (eW pw) [.ref 1,.ref 2]&&pw.all (lK (eW pw) (cH xs su (bu t1 aa (bW ak f1 bw ba bL bS) fn) au bq br dy g1 iT)))=true:=all2 (by kernel_rfl)
theorem Rx:∀ak f1:Bool,(pw.map fun l=>jQ (iN pw) (j5 (cH xs su (bu t1 aa (bW ak f1 bw ba bL bS) fn) au bq br dy g1 iT) l))=dU su (bu t1 aa (bW ak f1 bw ba bL bS) fn):=all2 (by kernel_rfl)
theorem Rw:iq pw (cH xs su (bu t1 aa (bW false false bw ba bL bS) fn) au bq br dy g1 []) (.bool b) (dU su (bu gL gM (bW true true bw ba bL bS) ge)++G) K=K (.bool b) (cH xs su (bu gL gM (bW true true bw ba bL bS) ge) au bq br dy g1 []):=by kernel_rfl
end
section
variable {xs:List Int}{n s t y:Bool}{e:fy}
theorem VI (cy:mO n e)(k:Ev (K (.bool true) (cH xs (bA n b s t (a4 y) ca e) (iE n b s t (a4 y) ca e true true 4) au bq br dy g1 []))):
 Ev (bh aT (m+10) zM [.ref 1,.ref 2] (cH xs (bA n b s t (a4 y) ca e) (iE n b s t (a4 y) ca e false false 0) au bq br dy g1 []) K):=by
 refine m0 (n:=m+9) (r:=0) (bg:=jg) (sel:=pw) (vs0:=[.ref 0,.ref 1]) (H0:=dU (bA n b s t (a4 y) ca e) (iE n b s t (a4 y) ca e false false 0)) (by kernel_rfl) rfl (Rz false false) (Ry false false) (by kernel_rfl) (Rx false false) ?_;exact RT cy fun G=>aK Rw k
end
def jD (t1 aa:c7)(aH:List (V×V))(fn:Nat):List an:=(dB 0 (bu t1 aa aH fn)).set 3 (.dict [(.int 2,.ref 6)] 3)
def Jd:ff:=JU (cn 2 nG.body)
noncomputable def mb (v:V):List V:=[.ref 0,.ref 4,.int 1,v]
section
variable {fn:Nat}{t1 aa:c7}{b3:List V}
theorem To:∀ak f1:Bool,b4 (bh aT (m+4)) aP (fB 2 nG.body) [.ref 0,.ref 4,.aQ,.aQ] (dB 0 (bu t1 aa (bW ak f1 bw ba bL bS) fn)) K'=K' .next (mb (.tup [.int 0,uz t1.rep])) (jD t1 aa (bW ak f1 bw ba bL bS) fn):=all2 (by kernel_rfl)
def Jc (t1 aa:c7)(es:List (V×V))(j:Nat)(b3:List V)(K':dM)(aD:List V):Option V→Prop:=fun o=>k1 o fun w=>xk w (.int 0) (jD t1 aa es j++[.list b3]) fun a aq=>rg (.ref 4) (a7 "number") aq fun b=>tj .Eq a b aq fun c=>
 ao c (qb (.tup aD) es fun cT=>K' .next (mb (.tup aD)) (jD t1 aa cT (j+1)++[.list b3])) (K' .next (mb (.tup aD)) (jD t1 aa es j++[.list b3]))
theorem Ts:b4 C aP Jd ((mb v).set 3 (.tup aD)) (jD t1 aa es j++[.list b3]) K'=jK (.tup aD) es (Jc t1 aa es j b3 K' aD):=by kernel_rfl
theorem Tt {a b:Int}:Jc t1 aa es j b3 K' aD (E (.tup [.int a,.int b,.int c]))=ao (decide (a=1)) (qb (.tup aD) es fun cT=>K' .next (mb (.tup aD)) (jD t1 aa cT (j+1)++[.list b3])) (K' .next (mb (.tup aD)) (jD t1 aa es j++[.list b3])):=by kernel_rfl
def yV (C:hT)(t1 aa:c7)(es:List (V×V))(fn:Nat)(b3:List V)(v:V)(K':dM):Prop:=iy 12 (fun v loc H K=>b4 C aP Jd (loc.set 3 v) H K) (hk (.ref 11) b3 (jD t1 aa es fn++[.list b3])) (b3.length+1) 0 b3 (mb v) (jD t1 aa es fn++[.list b3]) (gi (b4 C aP .nil) K')
theorem Tp:∀ak f1:Bool,b4 C aP (fB 1 (cn 2 nG.body)) (mb v) (jD t1 aa (bW ak f1 bw ba bL bS) fn) K'=
 match ak||f1 with
  |true=>yV C t1 aa (bW ak f1 bw ba bL bS) fn ((bW ak f1 bw ba bL bS).map (·.1)) v K'
  |false=>K' .next (mb v) (jD t1 aa [] fn++[.ints []]):=all2 (by kernel_rfl)
theorem v3 {r:List (V×V)}{bg:Option V→Prop}(aB:bU 4 k=true)(h:Ev (bg (E v))):Ev (jK k ((k,v)::r) bg):=cw aB (cw (rO 4 k aB) h)
theorem abh {eA lU:V}{r:List (V×V)}{bg:Option V→Prop}(aB:bU 4 k=true)(aL:bn 4 eA k=false)(h:Ev (bg (E v))):Ev (jK k ((eA,lU)::(k,v)::r) bg):=cw aB (eb aL (cw (rO 4 k aB) h))
theorem zm {r:List (V×V)}{bg:List (V×V)→Prop}(aB:(bU 4 k&&de ((k,v)::r).length 1000)=true)(h:Ev (bg r)):Ev (qb k ((k,v)::r) bg):=cw aB (cw (rO 4 k (l8 aB).1) h)
structure Hk (b3:List V)(st:Nat→List (V×V)):Prop where
 step:∀i v,b3[i]? =E v→∃aD a b c,v=.tup aD∧(∀bg,Ev (bg (E (val a b c)))→Ev (jK v (st i) bg))∧(a=1→∀bg,Ev (bg (st (i+1)))→Ev (qb v (st i) bg))∧(a≠1→st (i+1)=st i)
theorem Tq {st:Nat→List (V×V)}(ew:Hk b3 st)(k:∀v j,Ev (K' .next (mb v) (jD t1 aa (st b3.length) j++[.list b3]))):Ev (yV C t1 aa (st 0) fn b3 v K'):=by
 unfold yV;refine Dd (fun i loc H=>∃v j,loc=mb v∧H=jD t1 aa (st i) j++[.list b3]) (fun r loc H=>False) ?step ?gY ?hu ?fin ?Fb _ 0 _ _ ⟨_,_,rfl,rfl⟩ (jz _) (jy _)
 case step=>
  rintro i v loc H e ⟨cX,j,rfl,rfl⟩ hs lF wG;refine ls (ew.step i v e) fun aD a b c bT=>?_;refine kR bT fun eH b6 hd he=>?_;clear bT;clear e;subst eH;refine aK Ts (b6 _ (aK Tt (dQ (fun q=>?_) fun q=>?_)))
  .exact hd (of_decide_eq_true q) _ (lF _ _ ⟨_,_,rfl,rfl⟩)
  .exact lF _ _ ⟨_,_,rfl,by rw[he (of_decide_eq_false q)]⟩
 case gY=>
  rintro i loc H ⟨cX,j,rfl,rfl⟩ P a8;unfold trunc
  split
  .exact a8 _ _ ⟨_,_,rfl,rfl⟩
  .exact a8 _ _ ⟨_,_,rfl,rfl⟩
 case hu=>rintro i loc H ⟨cX,j,rfl,rfl⟩ P a8;exact a8
 case fin=>rintro loc H ⟨cX,j,rfl,rfl⟩;exact aK fi (k _ _)
 case Fb=>rintro r loc H ⟨⟩
def CQ (ak f1:Bool)(bw ba bL bS:List V)(i:Nat):List (V×V):=match ak with
 |true=>(match i with
  |0=>bW true f1 bw ba bL bS
  |1=>(.tup ba,val 1 1 1)::bW false f1 bw ba bL bS
  |_=>bW false f1 bw ba bL bS)
 |false=>bW false f1 bw ba bL bS
end
section
variable {a1 a2:ej}
theorem Tr (ak f1:Bool):Hk ((bW ak f1 (a6 1 dw) (a6 2 a1) (a6 1 a2) (a6 2 a3)).map (·.1)) (CQ ak f1 (a6 1 dw) (a6 2 a1) (a6 1 a2) (a6 2 a3)):=by
 have qI:bn 4 (.tup (a6 1 a2)) (.tup (a6 2 a3))=false:=rfl;have bM:∀bg:Option V→Prop,Ev (bg (E (val 2 0 2)))→Ev (jK (.tup (a6 1 a2)) (bW false true (a6 1 dw) (a6 2 a1) (a6 1 a2) (a6 2 a3)) bg):=fun bg h=>v3 rfl h;have g3:∀bg:Option V→Prop,Ev (bg (E (val 2 1 1)))→Ev (jK (.tup (a6 2 a3)) (bW false true (a6 1 dw) (a6 2 a1) (a6 1 a2) (a6 2 a3)) bg):=fun bg h=>abh rfl qI h;refine⟨fun i v e=>?_⟩;cases ak
 .cases f1
  .exact c5 e
  .match i,e with
   |0,e=>obtain rfl:=cF e;exact⟨_,_,_,_,rfl,bM,fun q=>absurd q (by decide),fun _=>rfl⟩
   |1,e=>obtain rfl:=cF e;exact⟨_,_,_,_,rfl,g3,fun q=>absurd q (by decide),fun _=>rfl⟩
 .cases f1
  .match i,e with
   |0,e=>obtain rfl:=cF e;exact⟨_,_,_,_,rfl,fun bg h=>v3 rfl h,fun _ bg h=>zm rfl h,fun q=>absurd rfl q⟩
   |1,e=>obtain rfl:=cF e;exact⟨_,_,_,_,rfl,fun bg h=>v3 rfl h,fun _ bg h=>zm rfl h,fun q=>absurd rfl q⟩
  .match i,e with
   |0,e=>obtain rfl:=cF e;exact⟨_,_,_,_,rfl,fun bg h=>v3 rfl h,fun _ bg h=>zm rfl h,fun q=>absurd rfl q⟩
   |1,e=>obtain rfl:=cF e;exact⟨_,_,_,_,rfl,fun bg h=>v3 rfl h,fun _ bg h=>zm rfl h,fun q=>absurd rfl q⟩
   |2,e=>obtain rfl:=cF e;exact⟨_,_,_,_,rfl,bM,fun q=>absurd q (by decide),fun _=>rfl⟩
   |3,e=>obtain rfl:=cF e;exact⟨_,_,_,_,rfl,g3,fun q=>absurd q (by decide),fun _=>rfl⟩
end
def yM (b e:Nat):an:=.dict (oD IT [.int 4,.int 0,.int 128,.ref (b+2),.ref (b+3),.int 0,.ref (b+8),.ref e,.ref (b+10),.bool true]) 10
def Ai (t:c7):c7:=wO t.r3 t.rep t.kM (Builtin.bitOr t.cL 512) t.state
section
variable {fn:Nat}{t1 aa:c7}{o:an}{a1 a2:ej}
theorem Je:b4 C aP (cn 3 nG.body) (mb v) (jD t1 aa es j++[o]) (e2 K)=K .none ((jD (Ai t1) aa es j).set 1 (yM 0 12)++[o,.ints []]):=by kernel_rfl
theorem T1 (ak f1:Bool)(k:∀(j:Nat) (o:an),Ev (K .none ((jD (Ai t1) aa (bW false f1 (a6 1 dw) (a6 2 a1) (a6 1 a2) (a6 2 a3)) j).set 1 (yM 0 12)++[o,.ints []]))):
 Ev (cR (bh aT (m+4)) aP nG [.ref 0,.ref 4] (dB 0 (bu t1 aa (bW ak f1 (a6 1 dw) (a6 2 a1) (a6 1 a2) (a6 2 a3)) fn)) K):=by
 refine aK (qO (loc:=[.ref 0,.ref 4,.aQ,.aQ]) rfl (by kernel_rfl)) ?_;refine aK (gm 2 _ _ _ _) (aK (To ak f1) (aK fi ?_));refine aK (gm 1 _ _ _ _) (aK (Tp ak f1) ?_);have go:(ak||f1)=true→Ev (yV (bh aT (m+4)) t1 aa (bW ak f1 (a6 1 dw) (a6 2 a1) (a6 1 a2) (a6 2 a3)) fn ((bW ak f1 (a6 1 dw) (a6 2 a1) (a6 1 a2) (a6 2 a3)).map (·.1)) (.tup [.int 0,uz t1.rep]) (gi (b4 (bh aT (m+4)) aP (cn 1 (cn 2 nG.body))) (e2 K))):=fun hf=>by
  have eU:CQ ak f1 (a6 1 dw) (a6 2 a1) (a6 1 a2) (a6 2 a3) 0=bW ak f1 (a6 1 dw) (a6 2 a1) (a6 1 a2) (a6 2 a3):=by cases ak<;>rfl
  have aW:CQ ak f1 (a6 1 dw) (a6 2 a1) (a6 1 a2) (a6 2 a3) ((bW ak f1 (a6 1 dw) (a6 2 a1) (a6 1 a2) (a6 2 a3)).map (·.1)).length=bW false f1 (a6 1 dw) (a6 2 a1) (a6 1 a2) (a6 2 a3):=by cases ak<;>cases f1<;>rfl
  have h:=Tq (C:=bh aT (m+4)) (t1:=t1) (aa:=aa) (fn:=fn) (v:=.tup [.int 0,uz t1.rep]) (K':=gi (b4 (bh aT (m+4)) aP (cn 1 (cn 2 nG.body))) (e2 K)) (Tr (dw:=dw) (a1:=a1) (a2:=a2) (a3:=a3) ak f1) fun v j=>by rw[aW];refine aK fi ?_;rw[kS];exact aK Je (k _ _)
  rw[eU] at h;exact h
 cases ak
 .cases f1
  .refine aK fi ?_;rw[kS];exact aK Je (k _ _)
  .exact go rfl
 .exact go rfl
end
noncomputable def pv:List Nat:=[2,3,4,5,6,7,8,9,10,11,12]
def jh (xs:List Int)(su:fg)(t1 aa:c7)(aH:List (V×V))(fn:Nat)(au bq br:Int)(ak f1:Bool)(x y:an):List an:=
 ((cH xs su (bu (Ai t1) aa aH fn) au bq br ak f1 [x,y,.ints []]).set 5 (.dict [(.int 2,.ref 8)] 3)).set 3 (yM 2 18)
section
variable {fn:Nat}{xs:List Int}{t1 aa:c7}{x y o:an}{a1 a2:ej}{xp:V}
theorem TO:∀ak f1:Bool,reach (cH xs su (bu t1 aa (bW ak f1 bw ba bL bS) fn) au bq br dy g1 [x,y]) 300 (kJ [.ref 2,.ref 6]) []=pv:=all2 (by kernel_rfl)
theorem TN:∀ak f1:Bool,(i3 pv&&iM (eW pv) [.ref 2,.ref 6]&&pv.all (lK (eW pv) (cH xs su (bu t1 aa (bW ak f1 bw ba bL bS) fn) au bq br dy g1 [x,y])))=true:=all2 (by kernel_rfl)
theorem TM:∀ak f1:Bool,(pv.map fun l=>jQ (iN pv) (j5 (cH xs su (bu t1 aa (bW ak f1 bw ba bL bS) fn) au bq br dy g1 [x,y]) l))=dB 0 (bu t1 aa (bW ak f1 bw ba bL bS) fn):=all2 (by kernel_rfl)
theorem TL:∀ak f1:Bool,iq pv (cH xs su (bu t1 aa (bW ak f1 bw ba bL bS) fn) au bq br dy g1 [x,y]) .none ((jD (Ai t1) aa (bW false f1 bw ba bL bS) ge).set 1 (yM 0 12)++[o,.ints []]) K=
 K .none (jh xs su t1 aa (bW false f1 bw ba bL bS) ge au bq br dy g1 x y):=all2 (by kernel_rfl)
theorem VK (ak f1:Bool)(k:∀j,Ev (K .none (jh xs su t1 aa (bW false f1 (a6 1 dw) (a6 2 a1) (a6 1 a2) (a6 2 a3)) j au bq br dy g1 x y))):
 Ev (bh aT (m+5) zK [.ref 2,.ref 6] (cH xs su (bu t1 aa (bW ak f1 (a6 1 dw) (a6 2 a1) (a6 1 a2) (a6 2 a3)) fn) au bq br dy g1 [x,y]) K):=by
 refine m0 (n:=m+4) (r:=0) (bg:=nG) (sel:=pv) (vs0:=[.ref 0,.ref 4]) (H0:=dB 0 (bu t1 aa (bW ak f1 (a6 1 dw) (a6 2 a1) (a6 1 a2) (a6 2 a3)) fn)) (by kernel_rfl) rfl (TO ak f1) (TN ak f1) (by kernel_rfl) (TM ak f1) ?_;exact T1 ak f1 fun j o=>aK (TL ak f1) (k j)
end
def la (a b c d e f g:V):List V:=[.ref 0,.ref 1,.ref 2,.ref 15,a,b,c,d,e,f,g]
def KZ:aG:=.items (.attr (.loc 2) zI)
section
variable {fn:Nat}{xs:List Int}{t1 aa:c7}{x y:an}{a1 a2:ej}{a b c d e f g:V}{G:List an}
theorem Zb:b4 C aP (fB 1 jf.body) [.ref 0,.aQ,.aQ,.aQ,.aQ,.aQ,.aQ,.aQ,.aQ,.aQ,.aQ] H K'=C wD [.ref 0] H fun v aq=>K' .next [.ref 0,v,.aQ,.aQ,.aQ,.aQ,.aQ,.aQ,.aQ,.aQ,.aQ] aq:=by kernel_rfl
theorem Zc:b4 C aP (fB 1 (cn 1 jf.body)) [.ref 0,.ref 1,.aQ,.aQ,.aQ,.aQ,.aQ,.aQ,.aQ,.aQ,.aQ] H K'=C zN [.ref 1] H fun v aq=>K' .next [.ref 0,.ref 1,v,.aQ,.aQ,.aQ,.aQ,.aQ,.aQ,.aQ,.aQ] aq:=by kernel_rfl
theorem Zd:b4 C aP (fB 1 (cn 2 jf.body)) [.ref 0,.ref 1,.ref 2,.aQ,.aQ,.aQ,.aQ,.aQ,.aQ,.aQ,.aQ] ([.d6 xs,gy su]++dB 2 cC) K'=K' .next (la .aQ .aQ .aQ .aQ .aQ .aQ .aQ) (cH xs su cC 1000 5000 5000 true true []):=by kernel_rfl
theorem Zj:b4 C aP (fB 1 (cn 3 jf.body)) (la a b c d e f g) H K'=C zM [.ref 1,.ref 2] H fun r aq=>pB r aq fun q=>ao (!q) (K' (.ret (.bool false)) (la a b c d e f g) aq)
 (cG C aP (la a b c d e f g) KZ aq fun p be=>C qw [.ref 1,.ref 15] be fun r ei=>lJ p r ei fun w=>ao w (K' (.ret (.bool false)) (la a b c d e f g) ei) (K' .next (la a b c d e f g) ei)):=by kernel_rfl
theorem YA:∀ak f1:Bool,cG C aP (la a b c d e f g) KZ (cH xs su (bu t1 aa (bW ak f1 (a6 1 dw) (a6 2 a1) (a6 1 a2) (a6 2 a3)) fn) au bq br dy g1 G) K=
 K (.ref (cH xs su (bu t1 aa (bW ak f1 (a6 1 dw) (a6 2 a1) (a6 1 a2) (a6 2 a3)) fn) au bq br dy g1 G).length) (cH xs su (bu t1 aa (bW ak f1 (a6 1 dw) (a6 2 a1) (a6 1 a2) (a6 2 a3)) fn) au bq br dy g1 G++[fs (kf (tS ak f1 dw a1 a2 a3))]):=all2 (by kernel_rfl)
theorem Zp:b4 C aP (fB 1 (cn 5 jf.body)) (la a b c d e f g) (cH xs su cC au bq br dy g1 G) K'=C zK [.ref 2,.ref 6] (cH xs su cC au bq br dy g1 G) fun _ aq=>K' .next (la a b c d e f g) aq:=by kernel_rfl
theorem Zq {aH:List (V×V)}:b4 C aP (fB 1 (cn 6 jf.body)) (la a b c d e f g) (jh xs su t1 aa aH fn au bq br dy g1 x y) K'=K' .next (la a b c d e f g) (jh xs su t1 aa aH fn au bq br false g1 x y):=by kernel_rfl
theorem Zr:∀f1:Bool,b4 C aP (cn 7 jf.body) (la a b c d e f g) (jh xs su t1 aa (bW false f1 (a6 1 dw) (a6 2 a1) (a6 1 a2) (a6 2 a3)) fn au bq br dy g1 x y) (e2 K)=
 C qw [.ref 1,.ref 15] (jh xs su t1 aa (bW false f1 (a6 1 dw) (a6 2 a1) (a6 1 a2) (a6 2 a3)) fn au bq br dy g1 x y++[fs (kf (tS false f1 dw a1 a2 a3))]) fun r aq=>jx (e8 aq 8 (.ref 19) r) fun w=>ao w
  (cG C aP (la a b c d e f g) (.cmp .Eq (.bi .list (.cons (.attr (.loc 2) (a7 "talks")) .nil)) (.lst (.cons (.int 2) .nil))) aq K) (K (.bool w) aq):=all1 (by kernel_rfl)
theorem Zs {aH:List (V×V)}{p q:an}:cG C aP (la a b c d e f g) (.cmp .Eq (.bi .list (.cons (.attr (.loc 2) (a7 "talks")) .nil)) (.lst (.cons (.int 2) .nil))) (jh xs su t1 aa aH fn au bq br dy g1 x y++[p,q]) K=
 K (.bool true) (jh xs su t1 aa aH fn au bq br dy g1 x y++[p,q,.ints [2],.ints [2]]):=by kernel_rfl
end
section
variable {fn:Nat}{xs:List Int}{t1 aa:c7}{r:Int}{x y o:an}{a1 a2:ej}{Q:Bool→Prop}{aH:List (V×V)}
theorem aba:lJ (.ref 16) (.ref 17) (cH xs su cC au bq br dy g1 [gj true true dw a1 a2 a3,gj true true dw a1 a2 a3]) Q=jx (e8 (cH xs su cC au bq br dy g1 [gj true true dw a1 a2 a3,gj true true dw a1 a2 a3]) 8 (.ref 16) (.ref 17)) fun w=>Q (!w):=by kernel_rfl
theorem U2:e8 (cH xs su cC au bq br dy g1 [gj true true dw a1 a2 a3,gj true true dw a1 a2 a3]) 8 (.ref 16) (.ref 17)=E true:=
 uV (by kernel_rfl) (C2 (e8 (cH xs su cC au bq br dy g1 [gj true true dw a1 a2 a3,gj true true dw a1 a2 a3]) 7) (sl true true dw a1 a2 a3) fun v cp=>C3 _ 6 v (List.all_eq_true.mp (by kernel_rfl:(sl true true dw a1 a2 a3).all (bU 6)=true) v cp))
theorem Ut (f1:Bool):e8 (jh xs su t1 aa aH fn au bq br false f1 x y++[gj false f1 dw a1 a2 a3,gj false f1 dw a1 a2 a3]) 8 (.ref 19) (.ref 20)=E true:=by
 cases f1
 .exact(by kernel_rfl:e8 (jh xs su t1 aa aH fn au bq br false false x y++[gj false false dw a1 a2 a3,gj false false dw a1 a2 a3]) 8 (.ref 19) (.ref 20)=E (decide (([]:List Int)=[])))
 .exact uV (by kernel_rfl) (C2 (e8 (jh xs su t1 aa aH fn au bq br false true x y++[gj false true dw a1 a2 a3,gj false true dw a1 a2 a3]) 7) (sl false true dw a1 a2 a3) fun v cp=>C3 _ 6 v (List.all_eq_true.mp (by kernel_rfl:(sl false true dw a1 a2 a3).all (bU 6)=true) v cp))
theorem V2:reach (jh xs su t1 aa aH fn au bq br dy g1 x y++[o]) 300 (kJ [.ref 1,.ref 15]) []=[1,15,13,14]:=by kernel_rfl
theorem V0:∀f1:Bool,iq [1,15,13,14] (jh xs su t1 aa aH fn au bq br false f1 x y++[o]) (.ref 5) (ra su au bq br false f1++[EZ false f1 dw a1 a2 a3,gj false f1 dw a1 a2 a3]) K=
 K (.ref 20) (jh xs su t1 aa aH fn au bq br false f1 x y++[o,gj false f1 dw a1 a2 a3]):=all1 (by kernel_rfl)
theorem VO (bl:dt (su.tup false false)≠dt (su.tup true false))(R:dt (su.tup false true)≠dt (su.tup true true))(f1:Bool)
 (k:Ev (K (.ref 20) (jh xs su t1 aa aH fn au bq br false f1 x y++[o,gj false f1 (su.tup false false) (su.tup false true) (su.tup true false) (su.tup true true)]))):
 Ev (bh aT (m+3) qw [.ref 1,.ref 15] (jh xs su t1 aa aH fn au bq br false f1 x y++[o]) K):=by
 refine m0 (n:=m+2) (r:=0) (bg:=vg) (sel:=[1,15,13,14]) (vs0:=[.ref 0,.ref 1]) (H0:=ra su au bq br false f1) (by kernel_rfl) rfl V2 (by kernel_rfl) (by kernel_rfl) (by kernel_rfl) ?_;refine aK (JD false f1) ?_;rw[xe bl R];exact aK (V0 f1) k
theorem Xg {l:List an}:jh xs su t1 aa aH fn au bq br dy g1 x y++l=.d6 xs::(jh xs su t1 aa aH fn au bq br dy g1 x y++l).tail:=by kernel_rfl
theorem O7:∀ak f1:Bool,hR (fun l=>dT l 18) (gj ak f1 dw a1 a2 a3)=true:=all2 (by kernel_rfl)
end
theorem ago {A B:Prop}:(pB (.bool true) H fun q=>ao (!q) A B)=B:=rfl
theorem afD (xs:List Int):∃(n b s t y:Bool) (ca:Int) (e:fy),A0 xs=bA n b s t (a4 y) ca e∧mO n e:=by refine dq (IJ (w:=ie xs/2/2/2/2% 2) (gu (by decide))) fun y cu=>?_;refine⟨_,_,_,_,y,_,_,by unfold A0;rw[cu];rfl,?_⟩;exact UG (aw:=a4 y) (cause:=ie xs/2/2/2/2/2% 16) _ _ _ true (p0:=jY xs% 65536) (fb:=jY xs/65536% 65536) (p2:=jY xs/65536/65536% 65536) (kb:=jY xs/65536/65536/65536% 65536) (by lia) (by lia) (by lia) (by lia)
theorem Zz {xs:List Int}(ar:xs.length≤900)(k:∀H,Ev (K (.bool true) (.d6 xs::H))):Ev (cR (bh aT (m+12)) aP jf [.ref 0] [.d6 xs] K):=by
 obtain⟨n,b,s,t,y,ca,e,Yd,cy⟩:=afD xs;have ql:=tup_ne (b:=b) (s:=s) (t:=t) (wy:=a4 y) (ca:=ca) cy false;have qm:=tup_ne (b:=b) (s:=s) (t:=t) (wy:=a4 y) (ca:=ca) cy true;refine aK (qO (loc:=[.ref 0,.aQ,.aQ,.aQ,.aQ,.aQ,.aQ,.aQ,.aQ,.aQ,.aQ]) rfl (by kernel_rfl)) ?_;refine aK (gm 1 _ _ _ _) (aK Zb ?_);refine VQ (m:=m+8) ar ?_;rw[Yd];refine aK fi (aK (gm 1 _ _ _ _) (aK Zc ?_));refine aK (UQ (m:=m+8) s t) ?_;refine aK fi ?_;rw[kS];refine aK (gm 1 _ _ _ _) (aK Zd ?_);refine aK fi ?_;rw[kS];refine aK (gm 1 _ _ _ _) (aK Zj ?_);refine VI (m:=m+2) cy ?_;refine aK ago ?_;refine aK (YA (t1:=gk (bA n b s t (a4 y) ca e) false 5000) (aa:=gk (bA n b s t (a4 y) ca e) true 5000) (fn:=4) true true) ?_;rw[xe ql qm];refine C7 (m:=m+9) (G:=[gj true true ((bA n b s t (a4 y) ca e).tup false false) ((bA n b s t (a4 y) ca e).tup false true) ((bA n b s t (a4 y) ca e).tup true false) ((bA n b s t (a4 y) ca e).tup true true)]) ql qm ?_;refine aK aba (aK (Fv U2) (eb rfl ?_));refine aK fi ?_;rw[kS];refine aK (gm 1 _ _ _ _) ?_;refine loop (m:=m) cy ar (O7 true true) (O7 true true) (.mk 1000 5000 5000 true true 4 .aQ .aQ .aQ .aQ .aQ .aQ .aQ) fun loc H m2=>?_
 induction m2 with|mk au bq br ak f1 fn xp v5 v6 v7 v8 v9 v10=>?_
 refine aK fi ?_;rw[kS];refine aK (gm 1 _ _ _ _) (aK Zp ?_);refine VK (m:=m+7) (t1:=gk (bA n b s t (a4 y) ca e) false bq) (aa:=gk (bA n b s t (a4 y) ca e) true br) (fn:=fn) ak f1 fun j=>?_;refine aK fi ?_;rw[kS];refine aK (gm 1 _ _ _ _) (aK Zq ?_);refine aK fi ?_;rw[kS];refine aK (Zr f1) ?_;rw[xe ql qm];refine VO (m:=m+9) ql qm f1 ?_;refine aK (Fv (Ut f1)) (cw rfl ?_);exact aK Zs (aK (congrArg (K (.bool true)) Xg) (k _))
def gn (P:dj):Frag:=(List.range 617).map fun a=>(a,vM P a)
noncomputable def zH:aj→Bool
 |.ref _=>true
 |_=>false
def yL:List String:=["data","doers","expects","fields","flows","homes","hook","is_liberal","is_loose","is_reply","kind","l4","last","link","log","mark","master","meta","most","now","number","objects","off","ops","order","original","packet","place","readers","replies","reply","seed","sets","sides","since","state","status","steps","table","talk","talks","tools","trackers","tries","until","zone"]
def gl:nI:=⟨fun x=>n7.any fun r=>zH r.2.2&&x== .ofString r.1,fun x=>yL.any fun r=>x== .ofString r⟩
def Wx:List (Nat×aj):=n7.filterMap fun r=>match zH r.2.2 with|true=>E (a7 (.ofString r.1),r.2.2)|false=>none
def kU:Nat→Option aj:=qA Wx
def gF (w:fk)(s:aS):gE:=⟨s.heap,s.heap.nsMap mainGlobals,s.heap.nsMap builtinsNs,aP,gn w.params⟩
theorem Ea (dd:hX s=hW w):(gn w.params).In s.heap:=by have R:(List.range 617).map s.heap.get?=(List.range 617).map fun a=>E (vM w.params a):=congrArg oJ dd;refine Frag.in_of (as:=List.range 617) (by unfold gn;rw[List.map_map];exact(List.map_id _).symm) ?_;rw[R];unfold gn;rw[List.map_map];rfl
theorem mg_of (dd:hX s=hW w):∀r∈n7,s.heap.nsMap mainGlobals (.ofString r.1)=E r.2.2:=n8 (congrArg (fun x=>x.2.1) dd)
theorem MT (dd:hX s=hW w):∀r∈p4,s.heap.nsMap mainGlobals r.1=none:=n8 (congrArg (fun x=>x.2.2.1) dd)
theorem MS (dd:hX s=hW w):∀r∈p4,s.heap.nsMap builtinsNs r.1=E r.2:=n8 (congrArg (fun x=>x.2.2.2.1) dd)
theorem agg (dd:hX s=hW w):s.toks=1175∧s.heap.objs.size=617:=⟨congrArg (fun x=>x.2.2.2.2.1) dd,congrArg (fun x=>x.2.2.2.2.2) dd⟩
theorem vO (dd:hX s=hW w){o:Obj}(e:(gn w.params).lookup a=E o):s.heap.get? a=E o:=Ea dd a o e
theorem MB {a0:Type}{x:a0}{b3:List (Nat×a0)}:qA b3 n=E x→(n,x)∈b3:=by
 induction b3 with
 |nil=>exact fun h=>c5 h
 |cons y r aF=>
  intro h;unfold qA at h;cases e:c1 y.1 n with
  |true=>rw[e] at h;rw[←cF h,←fQ e];exact List.mem_cons_self
  |false=>rw[e] at h;exact List.mem_cons_of_mem _ (aF h)
def tq (o:Option Obj):Array aj:=match o.map Obj.data with
 |some (.fields a)=>a
 |_=>#[]
def Pp (o:Option aj):Nat:=match o with
 |some (.str _ t)=>t
 |_=>0
theorem Tg {K:Frag}{c:bj}{q:PySem.Str}{vs:Array aj}{t:Nat}(k:K.In h)(e:K.lookup c=E {cls:=.type "code",data:=.fields vs})(aJ:vs[1]? =E (.str q t)):h.CodeRec (.ref c) q:=
 ⟨c,_,vs,t,rfl,k c _ e,rfl,aJ⟩
theorem MU (dd:hX s=hW w)(i:Nat){r:String×Nat×aj}(h:n7[i]? =E r):s.heap.nsMap mainGlobals (.ofString r.1)=E r.2.2:=mg_of dd r (List.mem_of_getElem? h)
theorem Wy:(n7.map fun r=>cond (zH r.2.2) (kU (a7 (.ofString r.1))) none)=n7.map fun r=>cond (zH r.2.2) (E r.2.2) none:=by kernel_rfl
theorem Te (P:dj):([131,242,264,478].map fun C=>((plainGet (gn P) C "",hasDictIn (gn P) C,plainOver (gn P) C,findIn (gn P) (.ref C) "__setattr__"),yL.map fun(x:String)=>(f3 x,(findIn (gn P) (.ref C) x).map (noGet (gn P)),takerIn (gn P) C x)))=
 [131,242,264,478].map fun C=>((true,true,true,E (E (.builtin "object.__setattr__"))),yL.map fun(x:String)=>(true,E true,E none)):=by kernel_rfl
theorem IH (P:dj){x:String}(aR:x∈yL){c:bj}(h:oZ c=true):f3 x=true∧vc (gn P) c x:=by have g:=n8 (Te P) c (List.contains_iff_mem.mp h);have f:=congrArg oJ g;have k:=n8 (BA g).2 x aR;have l:=congrArg uY k;exact⟨congrArg oJ k,congrArg oJ f,congrArg (fun y=>y.2.1) f,congrArg (fun y=>y.2.2.1) f,congrArg (fun y=>y.2.2.2) f,GW.mp (congrArg oJ l),congrArg uY l⟩
noncomputable def gt:List (String×Nat×Nat×Nat×Int):=[("DYING",34,504,503,512),("ASSURED",54,776,775,4),("CONFIRMED",55,778,777,8),("ESTABLISHED",56,780,779,3),("FIN_RST",57,782,781,5),("FIN_RST_SYN",58,784,783,7)]
theorem WQ:(gt.map fun g=>(f3 g.1,n7[g.2.1]?))=gt.map fun g=>(true,E (g.1,g.2.2.1,ab g.2.2.2.2 g.2.2.2.1)):=by kernel_rfl
theorem WH:aP=qA (gt.map fun g=>(a7 g.1,V.int g.2.2.2.2)):=by kernel_rfl
theorem abO (dd:hX s=hW w)(b6:s.heap.Ns mainGlobals (s.heap.nsMap mainGlobals))(az:s.heap.Ns builtinsNs (s.heap.nsMap builtinsNs))(ar:s.heap.NoLimit)(aE:sysModules<s.heap.objs.size):(gF w s).Ok:=by refine⟨b6,az,ar,⟨vM w.params sysModules,vO dd (by kernel_rfl)⟩,Ea dd,fun x v aR h=>?_⟩;change aP _=_ at h;rw[WH] at h;refine dq (List.mem_map.mp (MB h)) fun g bT=>b8 bT fun hm e=>?_;have k:=n8 WQ g hm;rw[show v=_ from(congrArg uY e).symm,Ff aR (congrArg oJ k) (congrArg oJ e).symm];exact⟨_,.inl (MU dd _ (congrArg uY k)),fun _ _=>.int _ _⟩
theorem WA (dd:hX s=hW w)(ok:(gF w s).Ok)(cs:l3 eP w (gF w s) C n kU):∀A:fw,A.handled=none→A.units+20+10*n<cLine→A.depth+60+2*n<recursionLimit→kP eP w (gF w s) C A gl kU n:=fun A bD bx hd=>by
 refine⟨ok,bD,bx,hd,cs,fun x aR=>?_,fun x b az=>?_,?_,fun x aR=>?_⟩
 .refine dq (List.any_eq_true.mp aR) fun r bT=>b8 bT fun am h=>b5 h fun R Z=>?_;rw[beq_iff_eq.mp Z];refine⟨_,mg_of dd r am,?_⟩;have:=n8 Wy r am;rw[R] at this;exact this
 .have hm:(x,te b)∈p4:=List.mem_append_left _ (List.mem_map.mpr ⟨(x,b),PySem.mem_of_lookup az,rfl⟩);exact⟨MT dd _ hm,MS dd _ hm⟩
 .have hm:(("range":PySem.Str),cD "range")∈p4:=List.mem_append_right _ List.mem_cons_self;exact⟨MT dd _ hm,MS dd _ hm⟩
 .refine dq (List.any_eq_true.mp aR) fun r bT=>b8 bT fun am h=>?_;rw[beq_iff_eq.mp h];exact⟨(IH w.params am (c:=131) rfl).1,fun c aI=>(IH w.params am aI).2⟩
structure e5 where
 k:Nat
 a:Nat
 d:pN
 nm:String
 q:String
 nU:aj
 gu:aj
 F:cQ
 cls:Bool
 bF:Option (Nat×Spec)
variable {b3:List e5}
noncomputable def e5.na (r:e5):Nat:=r.F.na
def e5.fd (r:e5):pI:=fdOf r.d r.nm r.q r.nU r.gu (al (r.a-1))
def e5.row (r:e5):Nat×Row:=(r.k,cond r.cls (ww r.F) (r.bF.elim (inl r.F) fun x=>⟨x.1,false,fun _=>x.2⟩))
def qF:Nat→(Nat→aj)→List aj
 |0,_=>[]
 |n+1,f=>f 0::qF n fun i=>f (i+1)
theorem aaC:∃f,ys=qF ys.length f:=by
 induction ys with
 |nil=>exact⟨fun _=>.none,rfl⟩
 |cons y ys aF=>exact aF.elim fun f e=>⟨fun i=>match i with|0=>y|i+1=>f i,congrArg (y:: ·) e⟩
structure H3 (P:dj)(r:e5):Prop where
 ax:(gn P).lookup r.a=E (f6 r.d r.nm r.q r.nU r.gu (al (r.a-1)))
 aI:(gn P).lookup (r.a-1)=E {cls:=.type "code",data:=.fields (tq ((gn P).lookup (r.a-1)))}
 a9:(tq ((gn P).lookup (r.a-1)))[1]? =E (.str (.ofString r.q) (Pp (tq ((gn P).lookup (r.a-1)))[1]?))
 cW:Ba gl r.fd r.na r.F.defs=E r.F
 hf:kU r.k=E (.ref (cond r.cls (r.a+3) r.a))
theorem y8 {r:e5}(dd:hX s=hW w)(ok:(gF w s).Ok)(cs:l3 eP w (gF w s) C n kU)(f:H3 w.params r){zs:List aj}(hz:∀ρ h,bK ρ h r.F.defs zs)
 (az:∀(s':aS) f,(∀b o,s.heap.get? b=E o→s'.heap.get? b=E o)→BindsTo s' r.fd ⟨qF r.na f,[]⟩ ((oj r.fd).zip (qF r.na f++zs))):FnAt eP w (gF w s) C n r.a r.F:=
 Wj (WA dd ok cs) (vO dd f.ax) rfl (Tg (Ea dd) f.aI f.a9) rfl rfl f.cW fun s' ys k ar=>⟨zs,hz,(aaC (ys:=ys)).elim fun g e=>by rw[e,ar];exact az s' g k⟩
def e5.l (P:dj)(f:Nat→aj)(r:e5):=(((gn P).lookup r.a,((gn P).lookup (r.a-1),(tq ((gn P).lookup (r.a-1)))[1]?),Ba gl r.fd r.na r.F.defs,kU r.k),bindArgs r.fd ⟨qF r.na f,[]⟩)
def e5.r (P:dj)(f:Nat→aj)(r:e5):(Option Obj×(Option Obj×Option aj)×Option cQ×Option aj)×Sem (List (PySem.Str×aj)):=((E (f6 r.d r.nm r.q r.nU r.gu (al (r.a-1))),(E {cls:=.type "code",data:=.fields (tq ((gn P).lookup (r.a-1)))},E (.str (.ofString r.q) (Pp (tq ((gn P).lookup (r.a-1)))[1]?))),E r.F,E (.ref (cond r.cls (r.a+3) r.a))),pure ((oj r.fd).zip (qF r.na f)))
def pP (b3:List e5):Prop:=∀P f,b3.map (e5.l P f)=b3.map (e5.r P f)
theorem V4 (h:pP b3)(P:dj):∀r∈b3,H3 P r∧∀f,bindArgs r.fd ⟨qF r.na f,[]⟩=pure ((oj r.fd).zip (qF r.na f)):=fun r am=>
 have k f:=n8 (h P f) r am;have g:=congrArg oJ (k fun _=>.none)
 ⟨⟨congrArg oJ g,congrArg (fun x=>x.2.1.1) g,congrArg (fun x=>x.2.1.2) g,congrArg (fun x=>x.2.2.1) g,congrArg (fun x=>x.2.2.2) g⟩,fun f=>congrArg uY (k f)⟩
def c4 (a i:Nat)(nm:String)(gu:aj)(k:Nat)(bg:cQ)(bF:Option (Nat×Spec)):e5:=⟨k,a,ha i,nm,nm,.none,gu,bg,false,bF⟩
def A5:List e5:=[c4 53 4 "number_of" rD LO HN (E (0,AT)),c4 58 5 "octets_of" rD LP BY (E (0,FM)),c4 65 6 "folded" rD Lm BV (E (0,FA)),c4 72 7 "mend" rD LL BX (E (1,FK)),c4 79 9 "look4" wj LH HJ none,c4 86 11 "head_size" qk Lo Hw none,c4 93 12 "size_at" qk L4 HV none,c4 100 13 "place_at" qk LU HP none,c4 107 14 "look6" qk LI HK none,c4 114 16 "new_meta" gq LN HM none,⟨K8,128,mW 17 0,"__init__","Packet.__init__",.none,gq,Hl,true,none⟩,c4 142 18 "look" gq LG HI none]
theorem af1:pP A5:=fun P f=>by kernel_rfl
def A6:List e5:=[c4 157 20 "family_of" gq Lj Hu none,c4 164 21 "base_of" gq Ld Hq none,c4 171 22 "part" gq LS HO none,c4 178 23 "put_part" gq LY HS none,c4 185 24 "sum_place" gq L5 HW none,c4 192 25 "common" gq Lf Hs none,c4 197 26 "sums_met" gq L6 HX none,c4 204 27 "pairs_of" gq LR ym (E (0,AU)),c4 211 28 "mend_at" gq LM sS (E (2,FL)),c4 218 29 "set_octets" gq L2 BZ (E (4,FR)),c4 225 31 "error_kinds" Kt Li Ht none,⟨La,239,mW 34 0,"__init__","Talk.__init__",.none,h5,Hn,true,none⟩]
theorem af2:pP A6:=fun P f=>by kernel_rfl
def F5:List e5:=[c4 275 36 "is_icmp" h5 Lu Hz none,c4 282 37 "is_error" h5 Lr Hy none,c4 289 38 "answer_kind" h5 Lc Hp none,c4 296 39 "ports_at" h5 LW HR none,c4 303 40 "tuple_at" h5 Ma H2 none,c4 310 41 "tuple_of" h5 Mb B0 (E (4,FT)),c4 317 42 "invert" h5 Lq yf (E (1,FD)),c4 324 43 "side_of" h5 L3 HU none,c4 329 44 "drop_talk" h5 zK nG none,c4 336 46 "is_error_packet" Ku Ls BW (E (3,FE)),c4 343 48 "put_there" kE LZ vh (E (5,FP)),c4 350 49 "port_place" kE LV HQ none]
theorem af3:pP F5:=fun P f=>by kernel_rfl
def F6:List e5:=[c4 357 50 "rewrite" kE L0 mP (E (6,FQ)),c4 364 51 "bit_for" kE Le Hr none,c4 371 52 "inner_rewritten" kE Lp Hx none,c4 378 53 "rewrite_inner" kE L1 HT none,c4 385 54 "translate" kE L7 HY none,c4 392 61 "ttl_place" il L9 HZ none,c4 399 62 "ttl_of" il L8 yn (E (2,FS)),c4 406 63 "drop_ttl" il Lg BS (E (5,Fx)),c4 413 64 "flags_of" il Lk BU (E (2,Fz)),c4 420 65 "may_flow" il LJ HL none,c4 427 66 "has_flow" il Ln ve (E (0,FC)),c4 434 67 "flow_request" il Ll Hv none]
theorem af4:pP F6:=fun P f=>by kernel_rfl
def F7:List e5:=[c4 439 68 "end_flow" il Lh ye (E (0,Fy)),c4 446 69 "is_plain" il Lv yg (E (3,FF)),c4 453 70 "may_pass" il LK sR (E (4,FJ)),c4 460 71 "try_fast" il D4 mQ (E (8,xf)),c4 489 75 "_law_draw" e9 Lx yh (E (0,FG)),c4 496 76 "_law_digits" e9 Lw HB none,c4 501 77 "_law_split" e9 LA HF none,c4 508 78 "_law_words" e9 LF HH none,c4 515 79 "_law_host" e9 Ly HC none,c4 520 80 "_law_setup" e9 wD HE none,c4 527 81 "_law_tuple" e9 LC HG none,c4 534 82 "_law_transport" e9 LB yk (E (3,FH))]
theorem af5:pP F7:=fun P f=>by kernel_rfl
def F8:List e5:=[c4 541 83 "_law_whole" e9 LD yl (E (3,FI)),c4 548 84 "_law_event" e9 zP vf none,c4 555 85 "_law_moved" e9 Lz HD none,c4 562 86 "_law_packets" e9 zR yj none,c4 569 87 "_law_due" e9 zO yi none,c4 576 88 "_law_flows" e9 qw vg none,c4 583 89 "_law_book" e9 zN HA none,c4 590 90 "_law_ask" e9 mn kO none,c4 597 91 "_law_are_asked" e9 zM jg none,c4 604 92 "_law_fast" e9 zQ nH none,c4 611 93 "_law_slow" e9 zS pO none,c4 616 94 "law" e9 zL jf none]
theorem af6:pP F8:=fun P f=>by kernel_rfl
def vG:e5:=⟨LQ,150,ha 19,"packet_of","packet_of",al 143,gq,oN,false,E (5,FO)⟩
def vF:e5:=⟨Lb,261,mW 35 0,"__init__","TalkBook.__init__",al 254,h5,Ho,true,none⟩
def vE:e5:=⟨K9,475,mW 73 0,"__init__","Scene.__init__",al 468,Ks,Hm,true,none⟩
theorem agy (P:dj):(gn P).lookup 143=E (ct [ab 2048 377,Hf #[] 378]):=by kernel_rfl
theorem V1 (dd:hX s=hW w)(ok:(gF w s).Ok)(cs:l3 eP w (gF w s) C n kU):FnAt eP w (gF w s) C n vG.a vG.F:=
 y8 dd ok cs (r:=vG) ⟨by kernel_rfl,by kernel_rfl,by kernel_rfl,by kernel_rfl,by kernel_rfl⟩ (zs:=[Hf #[] 378]) (fun _ _=>.cons (.bytes #[] _ (jz _)) .nil) fun s' f k=>Hc rfl (k _ _ (vO dd (agy _))) rfl rfl (by kernel_rfl)
theorem agx (P:dj):(gn P).lookup 254=E (ct [ab 64 559,ab 0 560,ab 128 561]):=by kernel_rfl
theorem VZ (dd:hX s=hW w)(ok:(gF w s).Ok)(cs:l3 eP w (gF w s) C n kU):FnAt eP w (gF w s) C n vF.a vF.F:=
 y8 dd ok cs (r:=vF) ⟨by kernel_rfl,by kernel_rfl,by kernel_rfl,by kernel_rfl,by kernel_rfl⟩ (zs:=[ab 0 560,ab 128 561]) (fun _ _=>.cons (.int _ _) (.cons (.int _ _) .nil)) fun s' f k=>Hc rfl (k _ _ (vO dd (agx _))) rfl rfl (by kernel_rfl)
theorem agw (P:dj):(gn P).lookup 468=E (ct [ab 0 905,bc "input" 906]):=by kernel_rfl
theorem VY (dd:hX s=hW w)(ok:(gF w s).Ok)(cs:l3 eP w (gF w s) C n kU):FnAt eP w (gF w s) C n vE.a vE.F:=
 y8 dd ok cs (r:=vE) ⟨by kernel_rfl,by kernel_rfl,by kernel_rfl,by kernel_rfl,by kernel_rfl⟩ (zs:=[bc "input" 906]) (fun _ _=>.cons (.str (.ofString "input") _ (by decide+kernel)) .nil) fun s' f k=>Hc rfl (k _ _ (vO dd (agw _))) rfl rfl (by kernel_rfl)
def yt (w:fk)(s:aS)(n:Nat)(e:Nat×Row):Prop:=∀f,kU e.1=E f→e.2.rank≤n→∃bg,fF (bh aT n) aP (e.2.bF (bh aT n)) bg∧(e.2.cls=false→∃a,f=.ref a∧FnAt eP w (gF w s) (bh aT n) n a bg)∧
 (e.2.cls=true→∃Cl ky,f=.ref Cl∧ClsAt (gF w s) Cl ky∧FnAt eP w (gF w s) (bh aT n) n ky bg)
def e5.rw (r:e5):Prop:=match r.bF with
 |some (k,bF)=>∀m,fF (bh aT (m+k)) aP bF r.F
 |none=>True
def e5.cl (P:dj)(r:e5):Prop:=cond r.cls (makesIn (gn P) (r.a+3)=true∧findIn (gn P) (.ref (r.a+3)) "__init__"=E (E (.ref r.a))∧typeIn (gn P) (.ref r.a)=E (.type "function")∧oZ (r.a+3)=true) True
theorem Ax {r:e5}(hf:kU r.k=E (.ref (cond r.cls (r.a+3) r.a)))(ah:FnAt eP w (gF w s) (bh aT n) n r.a r.F)(am:r.rw)(aI:r.cl w.params):yt w s n r.row:=by
 obtain⟨k,a,d,nm,q,nU,gu,bg,cls,bF⟩:=r;refine fun f e aL=>⟨bg,?_⟩;obtain rfl:=fe (e.symm.trans hf)
 induction cls using eo with
 |true=>exact⟨fun _ _ _ _ _ x=>.inl x,fun q=>kn q,fun _=>⟨_,_,rfl,⟨aI.1,aI.2.1,aI.2.2.1,aI.2.2.2⟩,ah⟩⟩
 |false=>
  induction bF using ez with
  |none=>exact⟨fun _ _ _ _ _ x=>.inl x,fun _=>⟨_,rfl,ah⟩,fun q=>dZ q⟩
  |some x=>have h:=am (n-x.1);rw[Nat.sub_add_cancel (show x.1≤n from aL)] at h;exact⟨h,fun _=>⟨_,rfl,ah⟩,fun q=>dZ q⟩
theorem oT {p:e5→Prop}:∀r∈[],p r:=fun r h=>nomatch h
theorem dW {p:e5→Prop}{r:e5}(h:p r)(t:∀x∈b3,p x):∀x∈r::b3,p x:=List.forall_mem_cons.mpr ⟨h,t⟩
theorem eu {a i k:Nat}{nm:String}{gu:aj}(t:∀x∈b3,x.rw):∀x∈c4 a i nm gu k bg none::b3,x.rw:=dW (p:=e5.rw) trivial t
theorem Rq:∀r∈A5,r.rw:=dW (fun _=>ac4)<|dW (fun _=>ac5)<|dW (fun _=>acT)<|dW ac2<|eu<|eu<|eu<|eu<|eu<|eu<|dW trivial<|eu<|oT
theorem S8 (P:dj):∀r∈A5,r.cl P:=dW trivial<|dW trivial<|dW trivial<|dW trivial<|dW trivial<|dW trivial<|dW trivial<|dW trivial<|dW trivial<|dW trivial<|dW ⟨by kernel_rfl,by kernel_rfl,by kernel_rfl,rfl⟩<|dW trivial<|oT
theorem Rr:∀r∈A6,r.rw:=eu<|eu<|eu<|eu<|eu<|eu<|eu<|dW (fun _=>ac7)<|dW ac3<|dW ada<|eu<|dW trivial<|oT
theorem S9 (P:dj):∀r∈A6,r.cl P:=dW trivial<|dW trivial<|dW trivial<|dW trivial<|dW trivial<|dW trivial<|dW trivial<|dW trivial<|dW trivial<|dW trivial<|dW trivial<|dW ⟨by kernel_rfl,by kernel_rfl,by kernel_rfl,rfl⟩<|oT
theorem Rs:∀r∈F5,r.rw:=eu<|eu<|eu<|eu<|eu<|dW add<|dW acV<|eu<|eu<|dW acW<|dW ac8<|eu<|oT
theorem Rt:∀r∈F6,r.rw:=dW ac9<|eu<|eu<|eu<|eu<|eu<|dW adc<|dW acQ<|dW acS<|eu<|dW (fun _=>acU)<|eu<|oT
theorem Ru:∀r∈F7,r.rw:=dW (fun _=>acR)<|dW acX<|dW ac1<|dW adb<|dW acY<|eu<|eu<|eu<|eu<|eu<|eu<|dW acZ<|oT
theorem Rv:∀r∈F8,r.rw:=dW ac0<|eu<|eu<|eu<|eu<|eu<|eu<|eu<|eu<|eu<|eu<|eu<|oT
theorem yR (h:(b3.map e5.cls).all (!·)=true):∀r∈b3,r.cl P:=fun r am=>by have:=List.all_eq_true.mp h r.cls (List.mem_map_of_mem am);unfold e5.cl;rw[km] at this;rw[this];exact trivial
theorem ud (dd:hX s=hW w)(ok:(gF w s).Ok)(cs:l3 eP w (gF w s) (bh aT n) n kU)(h:pP b3)(hd:b3.map (fun r=>r.F.defs)=b3.map fun _=>[])(R:∀r∈b3,r.rw)(Z:∀r∈b3,r.cl w.params):∀r∈b3,yt w s n r.row:=fun r am=>
 (V4 h _ r am).elim fun f az=>Ax f.hf (y8 dd ok cs f (zs:=[]) (fun _ _=>by rw[n8 hd r am];exact .nil) fun s' g _=>.of_eq (by rw[List.append_nil];exact az g)) (R r am) (Z r am)
theorem afX:aT=qA ((A5++(A6++(F5++(F6++(F7++(F8++[vG,vF,vE])))))).map e5.row):=by kernel_rfl
theorem acd (dd:hX s=hW w)(ok:(gF w s).Ok)(cs:l3 eP w (gF w s) (bh aT n) n kU):∀k r,aT k=E r→yt w s n (k,r):=fun k r e=>by
 rw[afX] at e;refine dq (List.mem_map.mp (MB e)) fun x bT=>b8 bT fun aR e=>?_;rw[←e];refine(?_:∀r∈_,yt w s n r.row) x aR;refine List.forall_mem_append.mpr ⟨ud dd ok cs af1 (by kernel_rfl) Rq (S8 _),?_⟩;refine List.forall_mem_append.mpr ⟨ud dd ok cs af2 (by kernel_rfl) Rr (S9 _),?_⟩;refine List.forall_mem_append.mpr ⟨ud dd ok cs af3 (by kernel_rfl) Rs (yR (by kernel_rfl)),?_⟩;refine List.forall_mem_append.mpr ⟨ud dd ok cs af4 (by kernel_rfl) Rt (yR (by kernel_rfl)),?_⟩;refine List.forall_mem_append.mpr ⟨ud dd ok cs af5 (by kernel_rfl) Ru (yR (by kernel_rfl)),?_⟩;refine List.forall_mem_append.mpr ⟨ud dd ok cs af6 (by kernel_rfl) Rv (yR (by kernel_rfl)),?_⟩;exact dW (Ax (r:=vG) (by kernel_rfl) (V1 dd ok cs) ac6 trivial)<|dW (Ax (r:=vF) (by kernel_rfl) (VZ dd ok cs) trivial ⟨by kernel_rfl,by kernel_rfl,by kernel_rfl,rfl⟩)<|dW (Ax (r:=vE) (by kernel_rfl) (VY dd ok cs) trivial ⟨by kernel_rfl,by kernel_rfl,by kernel_rfl,rfl⟩)<|oT
theorem Uv {t:Sem PySem.Fin}{b0:Result→aS→Prop}(X4:s.asleep)(h:aO O w callerA t (fun fin s'=>∃f,fin=.done f∧(b0 (.ok f) s'∧leftWithCleanup s'.gens=false)) s):
 ∃n r s' pt,runN (denote table) O w n s ⟨t,.builtin "claim.caller" {},default,[]⟩=.halted (outcomeOf r) s'∧
  schedN (denote table) O w n (.single s ⟨t,.builtin "claim.caller" {},default,[]⟩)=.halted (outcomeOf r) s'∧s'.forget=pt.forget∧b0 r pt:=by
 have aR:oP ⟨.builtin "claim.caller" {},none,none,[],none⟩:=⟨by decide+kernel,fun x aR=>nomatch aR⟩;refine ls (wp_halts_full (M:=model O w) (R:=b0) (p:=default) X4 (va (model O w) _ t (fun fin od s' ⟨f,e,hf⟩=>by subst e;exact hf) (fun _ _ _ e=>e.elim) default s (h _ default caller_in aR))) fun n r bC eg bT=>?_;refine kR bT fun aE aL DF al=>?_;clear bT;exact⟨n,r,eg,bC,aL,aE,DF,al⟩
theorem S0 {c:ClaimW}{tree:List aj→Sem PySem.Fin}{free:bj→Prop}{gens:Prop}{zT:fR→Prop}(hz:s.asleep)(tA:s.gens=#[])
 (Yc:∀args,c.pre args=true→WData.layableAll args=true→∀ord:List c3→List c3,(∀l,(ord l).Perm l)→
  ∃vs bC,layAllW c.records (classAt s.heap) w.params ord args s=E (vs,bC)∧
   aO c.prog w callerA (tree vs) (fun fin s'=>∃f,fin=.done f∧(c.Ends s args vs bC (.ok f) s'∧s'.os=s.os∧AllBare s'.gens∧zT s'.heap)) bC):
 c.CallFrom (fun vs=>⟨tree vs,.builtin "claim.caller" {},default,[]⟩) w free gens zT s:=by
 intro args tC wh ord zu;refine yD fun aA gI=>mG (Yc args tC wh ord zu) fun vs bC qj Xc=>?_;have vW:=layAllW_rest _ _ _ qj;refine ls (Uv (O:=c.prog) (w:=w) (t:=tree vs) (s:=bC) (b0:=fun r s'=>c.Ends s args vs bC r s'∧s'.os=s.os∧zT s'.heap)
  (Shared.asleep_of_life vW.2.2.2 hz) (dH Xc fun fin s' ⟨f,e,R,Z,bv,cZ⟩=>⟨f,e,⟨R,Z,cZ⟩,leftWithCleanup_false_of_bare bv⟩)) fun k r s' pt bT=>?_
 refine yC bT fun X7 Ya DF Dv Kx mi=>?_;clear bT;refine yB (Shared.forget_eq DF) fun y1 cj b9 dx eH=>?_;clear cj b9 eH;have Dv:=Dv.congr y1;have mi:zT s'.heap:=by first|exact y1▸mi|(rw[y1] at mi;exact mi)|(rw[←y1] at mi;exact mi)
 rw[←dx] at Kx;have XI:s'.heap.life=s.heap.life:=(runN_life _ _ _ X7).trans vW.2.2.2;refine gI<|⟨vs,bC,qj,k,_,s',Ya,?_,(fun _ i x aR=>by rw[tA] at aR;simp at aR),mi,by rw[XI],Shared.rest_eq Kx⟩
 rcases Dv with⟨v,rfl,dP,ku,ma,CO,CP⟩|⟨e,ob,cls,rfl,dP,ku,ma,CO,CP⟩
 .exact .inl ⟨v,rfl,dP,ku,ma,fun b o y _=>CO b o y,CP⟩
 .exact .inr ⟨e,ob,cls,rfl,dP,ku,ma,CO,fun b o y _=>CP b o y⟩
theorem abW {r:OpenRow}{q:hS}{loose:List Str}{Ra:aS→Bool}{a0:Type}{hX:aS→a0}{hW:fk→a0}{d:DefRec}{Mp:List (Str×aY)}
 (left:LeftO r.prog q loose Ra hX hW kr)(Xj:defOf q r.name=E (d,Mp))(a8:r.prog.theDef r.name=E (d.params,d.body,d.scope))(aB:kwWritten? d.params.kwonlyargs d.params.kw_defaults=E Mp)(WV:r.records=[])(Yg:(!r.writes||r.records.isEmpty)=true)
 (ba:r.wellSaid=true)(ok:(chainsOk q&&opensWell r.prog&&(frees r.toRowW&&r.within.isEmpty))=true)(az:r.prog.bare)(c0:r.toRowW.promised)
 (call:∀(w:fk) (k8 bC:aS) (j8 pd:Str→Option aj),hX k8=hW w→(∀b o,k8.heap.get? b=E o→bC.heap.get? b=E o)→j8=k8.heap.nsMap mainGlobals→pd=k8.heap.nsMap builtinsNs→Ground q loose r.records (fun _ _=>True) w k8 j8 pd k8.heap→∀(args:List WData) (vs:List aj) (as:List bj),
  r.claim.pre args=true→WData.layableAll args=true→Laid r.records w k8 bC args vs as→sysModules<k8.heap.objs.size→∃f,j8 r.name=E f∧
   aO r.prog w callerA (PySem.call f vs) (fun v s'=>GoodWG r.claim (classAt k8.heap) (ExcName.means k8.heap) args bC (.ok (.ret v)) s') bC):r.Holds:=by
 refine b5 ok fun ok rL=>b5 ok fun Kj eZ=>b5 rL fun rL D2=>yB (frees_parts rL) fun X9 bx aC W0 hm=>?_;refine⟨ba,c0,⟨⟨az,eZ,by show r.toRowW.makers.map _=[];rw[hm];rfl⟩,c0.witness,fun w=>⟨(left.behind (XP:=fun _ _=>True) (fun _ _=>trivial) Kj w).1,fun s' gr=>?_⟩⟩⟩;obtain⟨k8,hf,rB,s,ct,hz,tA,b6,H4,y⟩:=(left.behind (XP:=fun _ _=>True) (fun _ _=>trivial) Kj w).2 s' gr;have Ch:RecFacts r.records s.heap:=recFacts_nil WV;have WY:=ct;refine⟨k8,hf,rB,s,ct,fun n aL=>?_,Ch.1,Ch.2.1,?_⟩
 .obtain rfl:n=r.name:=by split at aL<;>simp_all
  exact pinned_of_view b6 H4 Xj a8 aB
 have tA:s.gens=#[]:=Array.eq_empty_of_size_eq_zero (beq_iff_eq.mp tA);have G:Ground q loose r.records (fun _ _=>True) w s _ _ s.heap:=Ch.ground H4;refine S0 (c:=r.toRowW.claim) (tree:=fun vs=>do match←nsGet mainNs r.name with
  |some f=>do ret (←PySem.call f vs)
  |none=>unsupported "claim.caller:no-such-global") hz tA fun args tC wh ord zu=>?_
 refine yD fun aA gI=>dq (sJ.mp (layAllW_isSome (P:=w.params) (ord:=ord) G.has args r.args s (pre_splitW tC).1)) fun dh qj=>?_;obtain⟨vs,bC⟩:=dh;have keeps:=layAllW_keeps _ _ _ qj;have vW:=layAllW_rest _ _ _ qj;refine gz (reads_layAllW zu _ _ _ qj wh bC.heap (fun _ _ e=>e)) fun as X3 XD XT=>?_;have b3:Laid r.records w s bC args vs as:=⟨⟨ord,zu,qj⟩,X3,XD,XT,keeps,vW.1.trans tA,vW.2.2.1⟩;have QL:=G.keeps (fun _ _ _ _ _=>trivial) keeps;refine dr (call w s bC _ _ y keeps rfl rfl G args vs as tC wh b3 G.low) fun f hf h=>?_;have hi:=ident_freeW bx aC W0;have Yf:r.toRowW.claim.within=[]:=List.isEmpty_iff.mp D2;refine gI<|⟨vs,bC,qj,dJ (wpAny_nsGet QL.T.g (by rw[hf];exact b1 (dH h fun v s' g=>cN ⟨_,rfl,have z:=g.laid (c:=r.toRowW.claim) X9 Yf hi b3;⟨z.1,z.2.1,z.2.2,fun q=>⟨namesKept_of WY b6 _ keeps g.2.1.old,noTable Yg q⟩⟩⟩)))⟩
noncomputable abbrev nk:OpenLaw:=PySem.Challenge.rw_pq1102_01
theorem items_int {b0:WRecords}:∀{xs:List WData},WShape.hasItems b0 xs .int=true→∃is:List Int,xs=is.map .int
 | [],_=>⟨[],rfl⟩
 |x::xs,h=>by simp only[WShape.hasItems,fJ] at h;refine dq (hasW_int h.1) fun i cj=>?_;subst cj;refine dq (items_int h.2) fun is cj=>?_;subst cj;exact⟨i::is,rfl⟩
theorem XU {b0:WRecords}{a b:WTm}{e:WCtx}{p:Bool}(h:WTm.holds b0 (.and (.not (.lt a b)) (.lit (.bool true))) e=true)(cp:WTm.value b0 (.lt a b) e=E (.bool p)):p=false:=by
 induction p using eo with
 |false=>rfl
 |true=>unfold WTm.holds WTm.value WTm.value at h;rw[cp] at h;exact dZ h
theorem ZE (xs:List WData)(h:nk.row.toRowW.pre.holds nk.row.toRowW.records {args:=[.list xs]}=true):xs.length≤63:=by have:=XU (a:=.lit (.int 63)) (b:=.len (.arg 0)) (p:=decide ((63:Int)<xs.length)) h (by kernel_rfl);have:=of_decide_eq_false this;lia
theorem RO {args:List WData}(h:nk.row.toRowW.claim.pre args=true):∃is:List Int,args=[.list (is.map .int)]∧is.length≤63:=by refine b8 (pre_splitW h) fun R Z=>?_;refine dD (hasAllW_cons R) fun d r bT=>?_;refine hJ bT fun b9 bv cZ=>?_;clear bT;subst b9;have cZ:=hasAllW_nil cZ;subst cZ;refine dq (hasW_list bv) fun xs bT=>?_;refine b8 bT fun cj gV=>?_;clear bT;subst cj;refine dq (items_int gV) fun is cj=>?_;subst cj;refine⟨is,rfl,?_⟩;have:=ZE _ Z;rwa [List.length_map] at this
theorem lay_ints {b0:WRecords}{cl:PySem.Str→Option bj}{ord:List c3→List c3}:∀(is:List Int) (s:aS),layAllW b0 cl P ord (is.map .int) s=E (canon s.toks is,{s with toks:=s.toks+is.length})
 | [],s=>rfl
 |i::is,s=>by
  refine(?_:(match layAllW b0 cl P ord (is.map .int) {s with toks:=s.toks+1} with|some r=>E (x6 i s.toks::r.1,r.2)|none=>none)=_)
  rw[lay_ints is];simp[canon,Nat.add_comm 1,Nat.add_assoc]
theorem S3 (dd:hX s=hW w)(ok:(gF w s).Ok)(n:Nat):l3 eP w (gF w s) (bh aT n) n kU:=
 S4 ok (fun n cs k f r hf ct am=>acd dd ok cs k r ct f hf am) n
theorem Zy {is:List Int}{Q:bE}(ar:is.length≤63)(h:∀bp,Q (.bool true) (.d6 is::bp)):bh aT 13 zL [.ref 0] [.d6 is] Q:=by refine(m0 (n:=12) (r:=0) (bg:=jf) (sel:=[0]) (vs0:=[.ref 0]) (H0:=[.d6 is]) (by kernel_rfl) rfl (by kernel_rfl) (by kernel_rfl) (by kernel_rfl) (by kernel_rfl) ?_).out;refine Zz (m:=0) (by lia) fun H=>?_;exact aK (B:=Q (.bool true) [.d6 is]) (by kernel_rfl) ⟨h []⟩
theorem agX {vs:List aj}{ord:List c3→List c3}{is:List Int}(dd:hX s=hW w)(ok:(gF w s).Ok)(ar:is.length≤63)(z3:layAllW [] (classAt s.heap) w.params ord [.list (is.map .int)] s=E (vs,bC))(b6:bC.gens=#[]){sT:aj→aS→Prop}
 (k:∀s',(∀b o,bC.heap.get? b=E o→s'.heap.get? b=E o)→s'.os=bC.os→s'.gens=#[]→sT (.bool true) s'):aO eP w callerA (PySem.call (.ref 616) vs) sT bC:=by
 have m3:layAllW [] (classAt s.heap) w.params ord [.list (is.map .int)] s=E ([.ref s.heap.objs.size],{s with heap:=s.heap.push (listOf (canon 1175 is).toArray 0),toks:=s.toks+is.length}):=by
  refine(?_:(match(match layAllW [] (classAt s.heap) w.params ord (is.map .int) s with|some r=>E (gP r.2.heap.objs.size,{r.2 with heap:=r.2.heap.push {cls:=.type "list",data:=.seq r.1.toArray}})|none=>none) with|some a=>(match E (([]:List aj),a.2) with|some r=>E (a.1::r.1,r.2)|none=>none)|none=>none)=_)
  rw[lay_ints,(agg dd).1]
 rw[m3] at z3;refine b8 (BA (fe z3)) fun dh cj=>?_;subst dh;subst cj;have eU:(s.heap.push (listOf (canon 1175 is).toArray 0)).get? s.heap.objs.size=E (listOf (canon 1175 is).toArray 0):=g5 _ rfl;have am:bz w.params [s.heap.objs.size] [.d6 is] (s.heap.push (listOf (canon 1175 is).toArray 0)):=⟨rfl,List.pairwise_singleton _ _,fun i o a ax aC=>by
  match i,ax,aC with
  |0,ax,aC=>obtain rfl:=cF ax;obtain rfl:=cF aC;exact⟨_,eU,.d6 is⟩⟩
 refine(S3 dd ok 13 callerA zL (.ref 616) [.ref 0] [.ref s.heap.objs.size] [.d6 is] [s.heap.objs.size] _ (fun v H=>v=.bool true∧∃bp,H=.d6 is::bp) sT (by kernel_rfl) rfl (by decide) (by decide) (Zy ar fun bp=>⟨rfl,bp,rfl⟩) am (.cons (.ref rfl) .nil)
  (fun b o e=>⟨fx _ e,fun hm=>by rw[List.mem_singleton.mp hm] at e;exact absurd (ic e) (xU _)⟩) fun v bp aV y s' a9 eL c6 st=>?_).2
 obtain⟨rfl,be,rfl⟩:=a9;cases c6;refine k s' (fun b o e=>?_) st.os (st.gens.trans b6)
 by_cases az:b=s.heap.objs.size
 .subst az;refine dq st.new fun As bT=>?_;refine b8 bT fun cj b9=>?_;clear bT b9;subst cj;refine dq (eL.at_ 0 _ s.heap.objs.size rfl rfl) fun ob bT=>?_;refine b8 bT fun R Z=>?_;clear bT;have:o=listOf (canon 1175 is).toArray 0:=fe (e.symm.trans eU);subst this;cases Z;exact R
 .exact st.keep b o e (fun hm=>az (List.mem_singleton.mp hm)) fun hm=>nomatch hm
def tk:DefRec:=⟨"law",(ha 94).1,(ha 94).2.1,(ha 94).2.2,⟨647,0,665,93⟩⟩
theorem Tx:defOf w7 nk.row.name=E (tk,[]):=by kernel_rfl
theorem age:nk.row.prog.theDef nk.row.name=E (tk.params,tk.body,tk.scope):=by kernel_rfl
theorem Za:kwWritten? tk.params.kwonlyargs tk.params.kw_defaults=E []:=by kernel_rfl
theorem abY:(chainsOk w7&&opensWell nk.row.prog&&(frees nk.row.toRowW&&nk.row.within.isEmpty))=true:=by kernel_rfl
theorem ag3:nk.row.toRowW.promised:=⟨[.list []],by decide+kernel,by decide+kernel⟩
theorem ahg:nk.Holds:=by refine holds_law adK fun adJ=>?_;refine abW ZD Tx age Za rfl rfl adJ abY R7 ag3 fun w k8 bC j8 pd dd keeps aW aJ G args vs as tC wh b3 low=>?_;subst aW;subst aJ;refine⟨.ref 616,MU dd 90 (r:=("law",1174,al 616)) (by kernel_rfl),?_⟩;refine dq (RO tC) fun is bT=>?_;refine b8 bT fun cj ar=>?_;clear bT;subst cj;have ok:(gF w k8).Ok:=abO dd G.T.g G.T.b G.T.nolimit low;refine dq b3.laid fun ord bT=>?_;refine b8 bT fun cj z3=>?_;clear bT cj;refine agX dd ok ar z3 b3.gens fun s' aB ax b6=>?_;exact⟨.inl ⟨_,.bool true,[],rfl,fun _=>rfl,.bool true,by kernel_rfl,fun _=>⟨List.nodup_nil,fun a aC=>nomatch aC⟩⟩,.of_keep aB,ax,.of_eq b6⟩
end
end Mine
theorem PySem.Challenge.cw_pq1102_01_holds : PySem.Challenge.rw_pq1102_01.Holds :=
 Mine.ahg
